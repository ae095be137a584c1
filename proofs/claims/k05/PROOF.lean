import PyProof.Rows.All
import Wide.All
import OpenK.AllK
import Wide.FinOn
import HandS.ForMost
import HandS.ForExc
import HandS.Zip
import HandS.Star
import HandS.SortInts
import HandS.TupMul
import HandS.IsInst
import HandS.SetKeys
import HandS.Wide
import HandS.ListEq
import HandS.Flow
import KE.GoesEnum
import KE.GoesMore
import PyProof.DictMoreH
import KE.KIndexOf
import KE.DataEq
import KE.DataMinMax
import KE.DataFind
import KE.DatumIndex
import PyProof.ReprRoads
import HandS.Conv
import HandS.EndBits
import HandS.TupLen
import HandS.WordsDict
import HandS.Defaults
import HandS.Head0
import HandS.Head1
import HandS.Head2
import HandS.HeadEnd
import HandS.HeadHook1
import HandS.HeadHook2
import KE.KDictZip
import KE.GoesZip
import PyProof.ListNew
import HandS.ExcValue
import HandS.TupLe
import HandS.RaiseMore
import HandS.TupAny
import HandS.Style
import KE.KRevSl
import KE.KDictCopyH
import HandS.DictComp
import HandS.SortOrd
import PySem.Challenge.RW_keptpartings_k05_whole_kept_partings
set_option Elab.async false
set_option linter.all false
set_option maxRecDepth 100000
/-! KA: the data side: slots, cells, the results; heaps in part; how data stand in a heap. -/
namespace KP
open PySem PySem.Spec PyProof.Rows L2

/-- an owned dict: keys that are ints and texts, or tuples of these -/
inductive Dk where
  | k (kvs : List (Key × PyData))
  | t (kvs : List (List Key × PyData))
/-- what a slot has: data that stay, an owned list, an owned list of owned lists, an owned dict, a cell -/
inductive Sv where
  | d (p : PyData) | l1 (xs : List PyData) | l2 (xss : List (List PyData)) | dd (k : Dk) | c (n : Nat) | s (ns : List Int)
abbrev En := List (Option Sv)
/-- a cell: a dict with text keys -/
inductive Cd where
  | m (kvs : List (Str × PyData))
abbrev Sto := List Cd
structure Ex where
  cls : Str
  fs : List (Str × PyData)
inductive R (α : Type) where
  | ok (a : α) (S : Sto) | exc (x : Ex) (S : Sto) | stuck
/-- what holds of a result -/
def R.sat {α : Type} (r : R α) (P : α → Sto → Prop) (E : Ex → Sto → Prop) : Prop := match r with
  | .ok a S => P a S
  | .exc x S => E x S
  | .stuck => False
theorem R.sat.mono {α : Type} {r : R α} {P P' : α → Sto → Prop} {E E' : Ex → Sto → Prop} (h : r.sat P E) (hp : ∀ a S, P a S → P' a S) (he : ∀ x S, E x S → E' x S) : r.sat P' E' := by
  cases r with
  | ok a S => exact hp a S h
  | exc x S => exact he x S h
  | stuck => exact h
abbrev M (α : Type) := Sto → R α
def ret {α : Type} (a : α) : M α := fun S => .ok a S
def bnd {α β : Type} (m : M α) (f : α → M β) : M β := fun S => match m S with
  | .ok a S' => f a S'
  | .exc x S' => .exc x S'
  | .stuck => .stuck
def ofO {α : Type} (o : Option α) : M α := fun S => match o with
  | some a => .ok a S
  | none => .stuck
def no {α : Type} : M α := fun _ => .stuck
theorem sat_bnd {α β : Type} {m : M α} {f : α → M β} {S : Sto} {P : β → Sto → Prop} {E : Ex → Sto → Prop} : (bnd m f S).sat P E ↔ (m S).sat (fun a S' => (f a S').sat P E) E := by
  unfold bnd
  cases m S <;> exact Iff.rfl
theorem sat_ret {α : Type} {a : α} {S : Sto} {P : α → Sto → Prop} {E : Ex → Sto → Prop} : (ret a S).sat P E ↔ P a S := Iff.rfl
theorem sat_ofO {α : Type} {o : Option α} {S : Sto} {P : α → Sto → Prop} {E : Ex → Sto → Prop} : (ofO o S).sat P E ↔ ∃ a, o = some a ∧ P a S := by
  cases o with
  | none => exact ⟨fun h => h.elim, fun ⟨_, h, _⟩ => nomatch h⟩
  | some a => exact ⟨fun h => ⟨a, rfl, h⟩, fun ⟨_, e, h⟩ => by cases e; exact h⟩
inductive Va where
  | d (p : PyData) | c (n : Nat) | s (ns : List Int)
abbrev DF := En → M Va

/-! ### heaps -/
def Ext (H H' : Hp) : Prop := ∀ a o, H a = some o → H' a = some o
theorem Ext.refl {H : Hp} : Ext H H := fun _ _ e => e
theorem Ext.trans {H H1 H2 : Hp} (a : Ext H H1) (b : Ext H1 H2) : Ext H H2 := fun x o e => b x o (a x o e)
theorem Ext.upd {H : Hp} {p : Addr} {o : HO} (h : H p = none) : Ext H (upd H p o) := fun b x e => by
  rw [upd_ne (ne_of_none e h)]; exact e
open Classical in
/-- the heap without the addresses of Mu -/
noncomputable def hz (Mu : Addr → Prop) (H : Hp) : Hp := fun a => if Mu a then none else H a
theorem hz_some {Mu : Addr → Prop} {H : Hp} {a : Addr} {o : HO} : hz Mu H a = some o ↔ ¬ Mu a ∧ H a = some o := by
  unfold hz
  by_cases h : Mu a
  · simp [h]
  · simp [h]
theorem hz_sub {Mu : Addr → Prop} {H : Hp} : Ext (hz Mu H) H := fun a o e => (hz_some.mp e).2
theorem hz_of {Mu : Addr → Prop} {H : Hp} {a : Addr} {o : HO} (h : H a = some o) (n : ¬ Mu a) : hz Mu H a = some o := hz_some.mpr ⟨n, h⟩
theorem hz_ext {Mu : Addr → Prop} {H H' : Hp} (e : Ext H H') : Ext (hz Mu H) (hz Mu H') := fun a o q => by
  obtain ⟨n, q⟩ := hz_some.mp q
  exact hz_some.mpr ⟨n, e a o q⟩
theorem hz_anti {Mu Nu : Addr → Prop} {H : Hp} (h : ∀ a o, H a = some o → Nu a → Mu a) : Ext (hz Mu H) (hz Nu H) := fun a o q => by
  obtain ⟨n, q⟩ := hz_some.mp q
  exact hz_some.mpr ⟨fun z => n (h a o q z), q⟩

theorem sqL_ext {K : PySem.W.Frag} {H H' : Hp} {a : Addr} {xs : List V} (e : Ext H H') (h : SqL K H a xs) : SqL K H' a xs := by
  rcases h with h | h
  · rcases h with h | ⟨o, h⟩
    · exact .inl (.inl (e _ _ h))
    · exact .inl (.inr ⟨o, e _ _ h⟩)
  · exact .inr h
theorem sqT_ext {K : PySem.W.Frag} {H H' : Hp} {a : Addr} {xs : List V} (e : Ext H H') (h : SqT K H a xs) : SqT K H' a xs := by
  rcases h with h | h
  · rcases h with h | ⟨o, h⟩
    · exact .inl (.inl (e _ _ h))
    · exact .inl (.inr ⟨o, e _ _ h⟩)
  · exact .inr h

/-! ### data in a heap -/
/-- a dict's key as data -/
def keyP : Key → PyData
  | .inl i => .int i
  | .inr x => .str x
def keyT (k : List Key) : PyData := .tuple (k.map keyP)
mutual
inductive Rep (K : PySem.W.Frag) (H : Hp) : V → PyData → Prop
  | non : Rep K H .non .none
  | bl (b : Bool) : Rep K H (.bl b) (.bool b)
  | int (i : Int) : Rep K H (.int i) (.int i)
  | str (x : Str) : Rep K H (.str x) (.str x)
  | lst {a : Addr} {xs : List V} {ds : List PyData} : H a = some (.lst xs) → ds.length ≤ sizeLine → RepAll K H xs ds → Rep K H (.ref a) (.list ds)
  | tup {a : Addr} {xs : List V} {ds : List PyData} : H a = some (.tup xs) → ds.length ≤ sizeLine → RepAll K H xs ds → Rep K H (.ref a) (.tuple ds)
  | dcK {a : Addr} {ks : List (Key × V)} {kvs : List (PyData × PyData)} : H a = some (.dK ks) → RepK K H ks kvs → Rep K H (.ref a) (.dict kvs)
  | dcT {a : Addr} {ks : List (List Key × V)} {kvs : List (PyData × PyData)} : H a = some (.dT ks) → RepT K H ks kvs → Rep K H (.ref a) (.dict kvs)
inductive RepAll (K : PySem.W.Frag) (H : Hp) : List V → List PyData → Prop
  | nil : RepAll K H [] []
  | cons {v : V} {vs : List V} {d : PyData} {ds : List PyData} : Rep K H v d → RepAll K H vs ds → RepAll K H (v :: vs) (d :: ds)
inductive RepK (K : PySem.W.Frag) (H : Hp) : List (Key × V) → List (PyData × PyData) → Prop
  | nil : RepK K H [] []
  | cons {k : Key} {v : V} {vs : List (Key × V)} {d : PyData} {ds : List (PyData × PyData)} : Rep K H v d → RepK K H vs ds → RepK K H ((k, v) :: vs) ((keyP k, d) :: ds)
inductive RepT (K : PySem.W.Frag) (H : Hp) : List (List Key × V) → List (PyData × PyData) → Prop
  | nil : RepT K H [] []
  | cons {k : List Key} {v : V} {vs : List (List Key × V)} {d : PyData} {ds : List (PyData × PyData)} : Rep K H v d → RepT K H vs ds → RepT K H ((k, v) :: vs) ((keyT k, d) :: ds)
end
theorem rd_ext {H H' : Hp} {a : Addr} {u : HO} (e : Ext H H') (h : Rd H a u) : Rd H' a u := by
  rcases h with h | ⟨o, h⟩
  · exact .inl (e _ _ h)
  · exact .inr ⟨o, e _ _ h⟩
section
variable {K : PySem.W.Frag} {H H' : Hp}
theorem Rep.ext (e : Ext H H') {v : V} {p : PyData} (h : Rep K H v p) : Rep K H' v p :=
  Rep.rec (motive_1 := fun v p _ => Rep K H' v p) (motive_2 := fun vs ps _ => RepAll K H' vs ps) (motive_3 := fun vs ps _ => RepK K H' vs ps) (motive_4 := fun vs ps _ => RepT K H' vs ps)
    .non .bl .int .str (fun s l _ ih => .lst (e _ _ s) l ih) (fun s l _ ih => .tup (e _ _ s) l ih) (fun r _ ih => .dcK (e _ _ r) ih) (fun r _ ih => .dcT (e _ _ r) ih) .nil (fun _ _ i j => .cons i j) .nil (fun _ _ i j => .cons i j) .nil (fun _ _ i j => .cons i j) h
theorem RepAll.ext (e : Ext H H') : ∀ {vs : List V} {ps : List PyData}, RepAll K H vs ps → RepAll K H' vs ps
  | _, _, .nil => .nil
  | _, _, .cons h t => .cons (h.ext e) (RepAll.ext e t)
theorem RepAll.length : ∀ {vs : List V} {ps : List PyData}, RepAll K H vs ps → vs.length = ps.length
  | _, _, .nil => rfl
  | _, _, .cons _ t => congrArg (· + 1) (RepAll.length t)
theorem RepAll.get : ∀ {vs : List V} {ps : List PyData} {i : Nat} {p : PyData}, RepAll K H vs ps → ps[i]? = some p → ∃ v, vs[i]? = some v ∧ Rep K H v p
  | _, _, _, _, .nil, e => by simp at e
  | _, _, 0, _, .cons h _, e => by simp at e; subst e; exact ⟨_, rfl, h⟩
  | _, _, i + 1, p, .cons _ t, e => by
    obtain ⟨v, h1, h2⟩ := RepAll.get (i := i) (p := p) t (by simpa using e)
    exact ⟨v, by simpa using h1, h2⟩
theorem RepAll.getV : ∀ {vs : List V} {ps : List PyData} {i : Nat} {v : V}, RepAll K H vs ps → vs[i]? = some v → ∃ p, ps[i]? = some p ∧ Rep K H v p
  | _, _, _, _, .nil, e => by simp at e
  | _, _, 0, _, .cons h _, e => by simp at e; subst e; exact ⟨_, rfl, h⟩
  | _, _, i + 1, p, .cons _ t, e => by
    obtain ⟨v, h1, h2⟩ := RepAll.getV (i := i) (v := p) t (by simpa using e)
    exact ⟨v, by simpa using h1, h2⟩
theorem RepAll.append : ∀ {vs ws : List V} {ps qs : List PyData}, RepAll K H vs ps → RepAll K H ws qs → RepAll K H (vs ++ ws) (ps ++ qs)
  | _, _, _, _, .nil, s => s
  | _, _, _, _, .cons h t, s => .cons h (RepAll.append t s)
theorem RepAll.take : ∀ {vs : List V} {ps : List PyData} (n : Nat), RepAll K H vs ps → RepAll K H (vs.take n) (ps.take n)
  | _, _, 0, _ => by simpa using RepAll.nil
  | _, _, _ + 1, .nil => .nil
  | _, _, n + 1, .cons h t => .cons h (RepAll.take n t)
theorem RepAll.drop : ∀ {vs : List V} {ps : List PyData} (n : Nat), RepAll K H vs ps → RepAll K H (vs.drop n) (ps.drop n)
  | _, _, 0, h => by simpa using h
  | _, _, _ + 1, .nil => .nil
  | _, _, n + 1, .cons _ t => RepAll.drop n t
theorem RepAll.set {v : V} {p : PyData} (h : Rep K H v p) : ∀ {vs : List V} {ps : List PyData} (i : Nat), RepAll K H vs ps → RepAll K H (vs.set i v) (ps.set i p)
  | _, _, _, .nil => .nil
  | _, _, 0, .cons _ t => .cons h t
  | _, _, i + 1, .cons q t => .cons q (RepAll.set h i t)
theorem RepAll.reverse : ∀ {vs : List V} {ps : List PyData}, RepAll K H vs ps → RepAll K H vs.reverse ps.reverse
  | _, _, .nil => .nil
  | _, _, .cons h t => by
    rw [List.reverse_cons, List.reverse_cons]
    exact (RepAll.reverse t).append (.cons h .nil)
theorem RepAll.split : ∀ {vs : List V} {ps qs : List PyData}, RepAll K H vs (ps ++ qs) → ∃ a b, vs = a ++ b ∧ RepAll K H a ps ∧ RepAll K H b qs
  | vs, [], _, h => ⟨[], vs, rfl, .nil, h⟩
  | _, p :: ps, qs, .cons h t => by
    obtain ⟨a, b, e, h1, h2⟩ := RepAll.split (ps := ps) t
    exact ⟨_ :: a, b, by rw [e]; rfl, .cons h h1, h2⟩
theorem RepAll.mem : ∀ {vs : List V} {ps : List PyData} {v : V}, RepAll K H vs ps → v ∈ vs → ∃ p, p ∈ ps ∧ Rep K H v p
  | _, _, _, .nil, e => by simp at e
  | _, _, v, .cons h t, e => by
    rcases List.mem_cons.mp e with z | z
    · subst z; exact ⟨_, List.mem_cons_self, h⟩
    · obtain ⟨p, h1, h2⟩ := RepAll.mem t z
      exact ⟨p, List.mem_cons_of_mem _ h1, h2⟩
theorem RepAll.ints : ∀ {vs : List V} {ns : List Int}, RepAll K H vs (ns.map PyData.int) → vs = ns.map V.int
  | _, [], .nil => rfl
  | _, n :: ns, .cons h t => by
    cases h
    rw [RepAll.ints t]; rfl
theorem RepAll.ofInts : ∀ {ns : List Int}, RepAll K H (ns.map V.int) (ns.map PyData.int)
  | [] => .nil
  | _ :: _ => .cons (.int _) RepAll.ofInts
theorem RepAll.bools : ∀ {vs : List V} {ns : List Bool}, RepAll K H vs (ns.map PyData.bool) → vs = ns.map V.bl
  | _, [], .nil => rfl
  | _, n :: ns, .cons h t => by
    cases h
    rw [RepAll.bools t]; rfl
end
/-! no dict within -/
mutual
def nodic : PyData → Bool
  | .none => true
  | .bool _ => true
  | .int _ => true
  | .str _ => true
  | .tuple xs => nodicAll xs
  | .list xs => nodicAll xs
  | .dict _ => false
def nodicAll : List PyData → Bool
  | [] => true
  | x :: xs => nodic x && nodicAll xs
end
/-- to HandS's own word for data -/
theorem Rep.dp {K : PySem.W.Frag} {H : Hp} {v : V} {p : PyData} (h : Rep K H v p) : nodic p = true → Dp K H v p :=
  Rep.rec (motive_1 := fun v p _ => nodic p = true → Dp K H v p) (motive_2 := fun vs ps _ => nodicAll ps = true → DpAll K H vs ps) (motive_3 := fun _ _ _ => True) (motive_4 := fun _ _ _ => True)
    (fun _ => .non) (fun b _ => .bl b) (fun b _ => .int b) (fun b _ => .str b) (fun s l _ ih z => .lst (SqL.of s) (ih (by simpa [nodic] using z))) (fun s l _ ih z => .tup (SqT.of s) (ih (by simpa [nodic] using z)))
    (fun _ _ _ z => by simp [nodic] at z) (fun _ _ _ z => by simp [nodic] at z) (fun _ => .nil) (fun _ _ i j z => by
      simp only [nodicAll, Bool.and_eq_true] at z
      exact .cons (i z.1) (j z.2)) trivial (fun _ _ _ _ => trivial) trivial (fun _ _ _ _ => trivial) h

/-! ### data without lists and dicts stand in the tuples alone -/
mutual
def imm : PyData → Bool
  | .none => true
  | .bool _ => true
  | .int _ => true
  | .str _ => true
  | .tuple xs => immAll xs
  | .list _ => false
  | .dict _ => false
def immAll : List PyData → Bool
  | [] => true
  | x :: xs => imm x && immAll xs
end
/-- the mutable addresses: tracked, no tuples -/
def MuOk (Mu : Addr → Prop) (H : Hp) : Prop := ∀ a, Mu a → (H a).isSome = true ∧ (∀ xs, H a ≠ some (.tup xs)) ∧ ∀ o u, H a ≠ some (.frz o u)
theorem Rep.imm {K : PySem.W.Frag} {Mu : Addr → Prop} {H : Hp} (m : MuOk Mu H) {v : V} {p : PyData} (h : Rep K H v p) : imm p = true → Rep K (hz Mu H) v p :=
  Rep.rec (motive_1 := fun v p _ => KP.imm p = true → Rep K (hz Mu H) v p) (motive_2 := fun vs ps _ => immAll ps = true → RepAll K (hz Mu H) vs ps) (motive_3 := fun _ _ _ => True) (motive_4 := fun _ _ _ => True)
    (fun _ => .non) (fun b _ => .bl b) (fun b _ => .int b) (fun b _ => .str b) (fun _ _ _ _ z => by simp [KP.imm] at z)
    (fun s l _ ih z => by
      exact .tup (hz_of s fun q => (m _ q).2.1 _ s) l (ih (by simpa [KP.imm] using z)))
    (fun _ _ _ z => by simp [KP.imm] at z) (fun _ _ _ z => by simp [KP.imm] at z) (fun _ => .nil) (fun _ _ i j z => by
      simp only [immAll, Bool.and_eq_true] at z
      exact .cons (i z.1) (j z.2)) trivial (fun _ _ _ _ => trivial) trivial (fun _ _ _ _ => trivial) h
theorem RepAll.imm {K : PySem.W.Frag} {Mu : Addr → Prop} {H : Hp} (m : MuOk Mu H) : ∀ {vs : List V} {ps : List PyData}, RepAll K H vs ps → immAll ps = true → RepAll K (hz Mu H) vs ps
  | _, _, .nil, _ => .nil
  | _, _, .cons h t, z => by
    simp only [immAll, Bool.and_eq_true] at z
    exact .cons (h.imm m z.1) (RepAll.imm m t z.2)
end KP


set_option Elab.async false
set_option linter.all false
set_option maxRecDepth 100000
/-! KB: the state of a body and its data; the judgements. -/
namespace KP
open PySem PySem.Spec PyProof.Rows L2

structure Kp (φ : List Addr) (H : Hp) (φ' : List Addr) (H' : Hp) : Prop where
  pre : φ <+: φ'
  keep : ∀ a o, a ∉ φ → H a = some o → H' a = some o
  new : ∀ a, a ∈ φ' → a ∉ φ → H a = none
theorem Kp.refl {φ : List Addr} {H : Hp} : Kp φ H φ H := ⟨List.prefix_refl _, fun _ _ _ e => e, fun _ h n => absurd h n⟩
theorem Kp.ext {φ : List Addr} {H H' : Hp} (e : Ext H H') : Kp φ H φ H' := ⟨List.prefix_refl _, fun a o _ q => e a o q, fun _ h n => absurd h n⟩
theorem Kp.trans {φ φ1 φ2 : List Addr} {H H1 H2 : Hp} (a : Kp φ H φ1 H1) (b : Kp φ1 H1 φ2 H2) : Kp φ H φ2 H2 := by
  refine ⟨a.pre.trans b.pre, fun x o n e => ?_, fun x h n => ?_⟩
  · refine b.keep x o (fun z => ?_) (a.keep x o n e)
    have := a.new x z n
    rw [e] at this; cases this
  · by_cases z : x ∈ φ1
    · exact a.new x z n
    · have q := b.new x h z
      cases e : H x with
      | none => rfl
      | some o => rw [a.keep x o n e] at q; cases q

def Mu (G : Addr → Prop) (φ : List Addr) (own : Nat → List Addr) : Addr → Prop := fun a => G a ∨ a ∈ φ ∨ ∃ i, a ∈ own i
def nob : Nat → List Addr := fun _ => []
structure Wd where
  G : Addr → Prop
  H0 : Hp
  φ0 : List Addr

inductive KRep {κ : Type} (K : PySem.W.Frag) (Z : Hp) : List (κ × V) → List (κ × PyData) → Prop
  | nil : KRep K Z [] []
  | cons {k : κ} {v : V} {p : PyData} {t : List (κ × V)} {t' : List (κ × PyData)} : Rep K Z v p → KRep K Z t t' → KRep K Z ((k, v) :: t) ((k, p) :: t')
theorem KRep.ext {κ : Type} {K : PySem.W.Frag} {Z Z' : Hp} (e : Ext Z Z') : ∀ {a : List (κ × V)} {b : List (κ × PyData)}, KRep K Z a b → KRep K Z' a b
  | _, _, .nil => .nil
  | _, _, .cons h t => .cons (h.ext e) (KRep.ext e t)
theorem KRep.length {κ : Type} {K : PySem.W.Frag} {Z : Hp} : ∀ {a : List (κ × V)} {b : List (κ × PyData)}, KRep K Z a b → a.length = b.length
  | _, _, .nil => rfl
  | _, _, .cons _ t => congrArg (· + 1) (KRep.length t)
def DictR (K : PySem.W.Frag) (Z H : Hp) (a : Addr) : Dk → Prop
  | .k kvs => ∃ ks, H a = some (.dK ks) ∧ KRep K Z ks kvs
  | .t kvs => ∃ ks, H a = some (.dT ks) ∧ KRep K Z ks kvs
inductive RowsR (K : PySem.W.Frag) (Z H : Hp) : List Addr → List (List PyData) → Prop
  | nil : RowsR K Z H [] []
  | cons {b : Addr} {us : List V} {xs : List PyData} {bs : List Addr} {xss : List (List PyData)} : H b = some (.lst us) → xs.length ≤ sizeLine → RepAll K Z us xs → RowsR K Z H bs xss → RowsR K Z H (b :: bs) (xs :: xss)
theorem RowsR.length {K : PySem.W.Frag} {Z H : Hp} : ∀ {bs : List Addr} {xss : List (List PyData)}, RowsR K Z H bs xss → bs.length = xss.length
  | _, _, .nil => rfl
  | _, _, .cons _ _ _ t => congrArg (· + 1) (RowsR.length t)
theorem RowsR.ext {K : PySem.W.Frag} {Z Z' H H' : Hp} (e : Ext Z Z') : ∀ {bs : List Addr} {xss : List (List PyData)}, (∀ b, b ∈ bs → H' b = H b) → RowsR K Z H bs xss → RowsR K Z' H' bs xss
  | _, _, _, .nil => .nil
  | b :: bs, _, k, .cons h l r t => .cons (by rw [k b List.mem_cons_self]; exact h) l (r.ext e) (RowsR.ext e (fun c hc => k c (List.mem_cons_of_mem _ hc)) t)
def SlotR (K : PySem.W.Frag) (Z : Hp) (φ : List Addr) (H : Hp) (u : V) (F : List Addr) : Sv → Prop
  | .d p => Rep K Z u p ∧ F = []
  | .l1 xs => ∃ a us, u = .ref a ∧ F = [a] ∧ H a = some (.lst us) ∧ RepAll K Z us xs ∧ xs.length ≤ sizeLine
  | .l2 xss => ∃ a bs, u = .ref a ∧ F = a :: bs ∧ (a :: bs).Nodup ∧ H a = some (.lst (bs.map V.ref)) ∧ RowsR K Z H bs xss ∧ xss.length ≤ sizeLine
  | .dd k => ∃ a, u = .ref a ∧ F = [a] ∧ DictR K Z H a k
  | .c n => ∃ a, u = .ref a ∧ φ[n]? = some a ∧ F = []
  | .s ns => (∃ a, u = .ref a ∧ SqL K Z a (ns.map V.int)) ∧ F = []
def CellR (K : PySem.W.Frag) (Z H : Hp) (a : Addr) : Cd → Prop
  | .m kvs => ∃ ks : List (Key × V), H a = some (.dK ks) ∧ KRep K Z ks (kvs.map fun p => ((Sum.inr p.1 : Key), p.2))
def CellsR (K : PySem.W.Frag) (Z : Hp) (φ : List Addr) (S : Sto) (H : Hp) : Prop :=
  φ.length = S.length ∧ ∀ (n : Nat) (c : Cd) (a : Addr), S[n]? = some c → φ[n]? = some a → CellR K Z H a c
theorem SlotR.ext {K : PySem.W.Frag} {Z Z' : Hp} {φ φ' : List Addr} {H H' : Hp} {u : V} {F : List Addr} {sv : Sv} (e : Ext Z Z') (p : φ <+: φ') (k : ∀ a, a ∈ F → H' a = H a) (h : SlotR K Z φ H u F sv) : SlotR K Z' φ' H' u F sv := by
  cases sv with
  | d q => exact ⟨h.1.ext e, h.2⟩
  | l1 xs =>
    obtain ⟨a, us, h1, h2, h3, h4, h5⟩ := h
    exact ⟨a, us, h1, h2, by rw [k a (by rw [h2]; simp)]; exact h3, h4.ext e, h5⟩
  | l2 xss =>
    obtain ⟨a, bs, h1, h2, h3, h4, h5, h6⟩ := h
    exact ⟨a, bs, h1, h2, h3, by rw [k a (by rw [h2]; simp)]; exact h4, h5.ext e fun b hb => k b (by rw [h2]; exact List.mem_cons_of_mem _ hb), h6⟩
  | dd d =>
    obtain ⟨a, h1, h2, h3⟩ := h
    refine ⟨a, h1, h2, ?_⟩
    have ka := k a (by rw [h2]; simp)
    cases d with
    | k kvs => obtain ⟨ks, q1, q2⟩ := h3; exact ⟨ks, by rw [ka]; exact q1, q2.ext e⟩
    | t kvs => obtain ⟨ks, q1, q2⟩ := h3; exact ⟨ks, by rw [ka]; exact q1, q2.ext e⟩
  | c n =>
    obtain ⟨a, h1, h2, h3⟩ := h
    obtain ⟨t, rfl⟩ := p
    exact ⟨a, h1, by rw [List.getElem?_append_left (List.getElem?_eq_some_iff.mp h2).1]; exact h2, h3⟩
  | s ns =>
    obtain ⟨⟨a, h1, h2⟩, h3⟩ := h
    exact ⟨⟨a, h1, sqL_ext e h2⟩, h3⟩
theorem CellR.ext {K : PySem.W.Frag} {Z Z' H H' : Hp} {a : Addr} {c : Cd} (e : Ext Z Z') (k : H' a = H a) (h : CellR K Z H a c) : CellR K Z' H' a c := by
  cases c with
  | m kvs => obtain ⟨ks, q1, q2⟩ := h; exact ⟨ks, by rw [k]; exact q1, q2.ext e⟩

structure Rel (K : PySem.W.Frag) (W : Wd) (φ : List Addr) (own : Nat → List Addr) (env : En) (S : Sto) (σ : L2.St) (H : Hp) : Prop where
  disj : ∀ i j a, a ∈ own i → a ∈ own j → i = j
  apart : ∀ i a, a ∈ own i → a ∉ φ
  ndφ : φ.Nodup
  gd : ∀ a, W.G a → a ∉ φ ∧ ∀ i, a ∉ own i
  mu : MuOk (Mu W.G φ own) H
  len : σ.length = env.length
  slot : ∀ i sv, env[i]? = some (some sv) → ∃ u, σ[i]? = some (some u) ∧ SlotR K (hz (Mu W.G φ own) H) φ H u (own i) sv
  cell : CellsR K (hz (Mu W.G φ own) H) φ S H
  base : Kp W.φ0 W.H0 φ H
  newF : ∀ i a, a ∈ own i → W.H0 a = none

theorem MuOk.ext {Mu : Addr → Prop} {H H' : Hp} (m : MuOk Mu H) (e : ∀ a o, Mu a → H a = some o → H' a = some o) : MuOk Mu H' := fun a ha => by
  obtain ⟨h1, h2, h3⟩ := m a ha
  obtain ⟨o, ho⟩ := Option.isSome_iff_exists.mp h1
  have q := e a o ha ho
  rw [q]
  rw [ho] at h2 h3
  exact ⟨rfl, h2, h3⟩
theorem MuOk.sub {Mu Nu : Addr → Prop} {H : Hp} (m : MuOk Mu H) (h : ∀ a, Nu a → Mu a) : MuOk Nu H := fun a ha => m a (h a ha)
theorem MuOk.get {Mu : Addr → Prop} {H : Hp} (m : MuOk Mu H) {a : Addr} (h : Mu a) : ∃ o, H a = some o := Option.isSome_iff_exists.mp (m a h).1

section
variable {K : PySem.W.Frag} {W : Wd} {φ : List Addr} {own : Nat → List Addr} {env : En} {S : Sto} {σ : L2.St} {H H' : Hp}
/-- the heap grew -/
theorem Rel.grow (r : Rel K W φ own env S σ H) (e : Ext H H') : Rel K W φ own env S σ H' where
  disj := r.disj
  apart := r.apart
  ndφ := r.ndφ
  gd := r.gd
  mu := r.mu.ext fun a o _ q => e a o q
  len := r.len
  slot := fun i sv h => by
    obtain ⟨u, h1, h2⟩ := r.slot i sv h
    refine ⟨u, h1, h2.ext (hz_ext e) (List.prefix_refl _) fun a ha => ?_⟩
    obtain ⟨o, ho⟩ := r.mu.get (.inr (.inr ⟨i, ha⟩))
    rw [ho, e a o ho]
  cell := ⟨r.cell.1, fun n c a h1 h2 => (r.cell.2 n c a h1 h2).ext (hz_ext e) (by
    obtain ⟨o, ho⟩ := r.mu.get (a := a) (.inr (.inl (List.mem_of_getElem? h2)))
    rw [ho, e a o ho])⟩
  base := r.base.trans (Kp.ext e)
  newF := r.newF
theorem Rel.fresh (r : Rel K W φ own env S σ H) {p : Addr} (h : H p = none) : ¬ Mu W.G φ own p := fun z => by
  obtain ⟨o, ho⟩ := r.mu.get z
  rw [h] at ho; cases ho
end

/-- a value in flight -/
def VRep (K : PySem.W.Frag) (Nu : Addr → Prop) (φ : List Addr) (H : Hp) (u : V) : Va → Prop
  | .d p => Rep K (hz Nu H) u p
  | .c n => ∃ a, u = .ref a ∧ φ[n]? = some a
  | .s ns => ∃ a, u = .ref a ∧ SqL K (hz Nu H) a (ns.map V.int)
inductive VRepAll (K : PySem.W.Frag) (Nu : Addr → Prop) (φ : List Addr) (H : Hp) : List V → List Va → Prop
  | nil : VRepAll K Nu φ H [] []
  | cons {u : V} {v : Va} {us : List V} {vs : List Va} : VRep K Nu φ H u v → VRepAll K Nu φ H us vs → VRepAll K Nu φ H (u :: us) (v :: vs)
theorem VRepAll.length {K : PySem.W.Frag} {Nu : Addr → Prop} {φ : List Addr} {H : Hp} : ∀ {us : List V} {vs : List Va}, VRepAll K Nu φ H us vs → us.length = vs.length
  | _, _, .nil => rfl
  | _, _, .cons _ t => congrArg (· + 1) (VRepAll.length t)
def Mo (fl : Bool) (G : Addr → Prop) (φ : List Addr) (own : Nat → List Addr) : Addr → Prop := match fl with
  | true => Mu G φ own
  | false => fun a => G a ∨ a ∈ φ
theorem Mo.sub {fl : Bool} {G : Addr → Prop} {φ : List Addr} {own : Nat → List Addr} {a : Addr} (h : Mo fl G φ own a) : Mu G φ own a := by
  cases fl with
  | true => exact h
  | false => exact h.elim .inl fun h => .inr (.inl h)
theorem Mo.cell {fl : Bool} {G : Addr → Prop} {φ : List Addr} {own : Nat → List Addr} {a : Addr} (h : a ∈ φ) : Mo fl G φ own a := by
  cases fl with
  | true => exact .inr (.inl h)
  | false => exact .inr h
theorem Kp.hz {fl : Bool} {G : Addr → Prop} {φ φ' : List Addr} {own : Nat → List Addr} {H H' : Hp} (k : Kp φ H φ' H') : Ext (hz (Mo fl G φ own) H) (hz (Mo fl G φ' own) H') := fun a o q => by
  obtain ⟨n, q⟩ := hz_some.mp q
  have na : a ∉ φ := fun z => n (Mo.cell z)
  refine hz_some.mpr ⟨fun z => n ?_, k.keep a o na q⟩
  have nn : a ∉ φ' := fun z => by
    have := k.new a z na
    rw [q] at this; cases this
  cases fl with
  | true => exact z.elim .inl fun z => z.elim (fun z => absurd z nn) fun z => .inr (.inr z)
  | false => exact z.elim .inl fun z => absurd z nn
theorem VRep.keep {K : PySem.W.Frag} {fl : Bool} {G : Addr → Prop} {φ φ' : List Addr} {own : Nat → List Addr} {H H' : Hp} {u : V} {v : Va} (k : Kp φ H φ' H') (h : VRep K (Mo fl G φ own) φ H u v) : VRep K (Mo fl G φ' own) φ' H' u v := by
  cases v with
  | d p => exact Rep.ext k.hz h
  | c n =>
    obtain ⟨a, e, q⟩ := h
    obtain ⟨t, rfl⟩ := k.pre
    exact ⟨a, e, by rw [List.getElem?_append_left (List.getElem?_eq_some_iff.mp q).1]; exact q⟩
  | s ns =>
    obtain ⟨a, e, q⟩ := h
    exact ⟨a, e, sqL_ext k.hz q⟩
theorem VRepAll.keep {K : PySem.W.Frag} {fl : Bool} {G : Addr → Prop} {φ φ' : List Addr} {own : Nat → List Addr} {H H' : Hp} (k : Kp φ H φ' H') : ∀ {us : List V} {vs : List Va}, VRepAll K (Mo fl G φ own) φ H us vs → VRepAll K (Mo fl G φ' own) φ' H' us vs
  | _, _, .nil => .nil
  | _, _, .cons h t => .cons (h.keep k) (VRepAll.keep k t)
theorem VRep.ext {K : PySem.W.Frag} {Nu : Addr → Prop} {φ : List Addr} {H H' : Hp} {u : V} {v : Va} (e : Ext H H') (h : VRep K Nu φ H u v) : VRep K Nu φ H' u v := by
  cases v with
  | d p => exact Rep.ext (hz_ext e) h
  | c n => exact h
  | s ns => obtain ⟨a, q1, q2⟩ := h; exact ⟨a, q1, sqL_ext (hz_ext e) q2⟩
theorem VRep.less {K : PySem.W.Frag} {Nu Mu : Addr → Prop} {φ : List Addr} {H : Hp} {u : V} {v : Va} (s : ∀ a, Mu a → Nu a) (h : VRep K Nu φ H u v) : VRep K Mu φ H u v := by
  cases v with
  | d p => exact Rep.ext (hz_anti fun a _ _ z => s a z) h
  | c n => exact h
  | s ns => obtain ⟨a, q1, q2⟩ := h; exact ⟨a, q1, sqL_ext (hz_anti fun a _ _ z => s a z) q2⟩

/-! ### the readings -/
/-- the standing context of a body: the written part, the module's names, what is wanted of an exception -/
structure Ct where
  K : PySem.W.Frag
  mg : Str → Option Value
  ew : WX
inductive FRep (K : PySem.W.Frag) (Z : Hp) : List (Str × V) → List (Str × PyData) → Prop
  | nil : FRep K Z [] []
  | cons {k : Str} {v : V} {p : PyData} {t : List (Str × V)} {t' : List (Str × PyData)} : Rep K Z v p → FRep K Z t t' → FRep K Z ((k, v) :: t) ((k, p) :: t')
/-- an exception has left: its class at a, its own dict at d -/
def XWish (C : Ct) (Nu : Addr → Prop) (σ : L2.St) (H : Hp) (x : Ex) : Prop := ∀ a d fs, C.mg x.cls = some (.ref a) → H d = some (.xd fs) → FRep C.K (hz Nu H) fs x.fs → C.ew (.ref a) (some d) σ H
def tI (C : Ct) (fl : Bool) (f : DF) : TE := fun σ H Q => ∃ W φ own env S, Rel C.K W φ own env S σ H ∧
  (f env S).sat (fun v S' => ∀ φ' H' u, Rel C.K W φ' own env S' σ H' → Kp φ H φ' H' → VRep C.K (Mo fl W.G φ' own) φ' H' u v → Q u H')
    (fun x S' => ∀ φ' H', Rel C.K W φ' own env S' σ H' → Kp φ H φ' H' → XWish C (Mu W.G φ' own) σ H' x)
abbrev DFA := En → M (List Va)
def tIA (C : Ct) (fl : Bool) (f : DFA) : TA := fun σ H Q => ∃ W φ own env S, Rel C.K W φ own env S σ H ∧
  (f env S).sat (fun vs S' => ∀ φ' H' us, Rel C.K W φ' own env S' σ H' → Kp φ H φ' H' → VRepAll C.K (Mo fl W.G φ' own) φ' H' us vs → Q us H')
    (fun x S' => ∀ φ' H', Rel C.K W φ' own env S' σ H' → Kp φ H φ' H' → XWish C (Mu W.G φ' own) σ H' x)
abbrev DB := En → M Bool
def tIB (C : Ct) (f : DB) : TT := fun σ H Q => ∃ W φ own env S, Rel C.K W φ own env S σ H ∧
  (f env S).sat (fun b S' => ∀ φ' H', Rel C.K W φ' own env S' σ H' → Kp φ H φ' H' → Q b H')
    (fun x S' => ∀ φ' H', Rel C.K W φ' own env S' σ H' → Kp φ H φ' H' → XWish C (Mu W.G φ' own) σ H' x)
def E (X : Cx) (ew : WX) (fl : Bool) (e : Expr) (f : DF) : Prop := PE X e (tI ⟨X.K, X.mg, ew⟩ fl f)
def EA (X : Cx) (ew : WX) (fl : Bool) (es : List Expr) (f : DFA) : Prop := PA X es (tIA ⟨X.K, X.mg, ew⟩ fl f)
def EB (X : Cx) (ew : WX) (e : Expr) (f : DB) : Prop := PT X e (tIB ⟨X.K, X.mg, ew⟩ f)
theorem pe_weak {X : Cx} {e : Expr} {t t' : TE} (h : PE X e t) (i : ∀ σ H Q, t' σ H Q → t σ H Q) : PE X e t' := ⟨fun pins s σ H Q I q => h.run pins s σ H Q I (i _ _ _ q)⟩
theorem pa_weak {X : Cx} {e : List Expr} {t t' : TA} (h : PA X e t) (i : ∀ σ H Q, t' σ H Q → t σ H Q) : PA X e t' := ⟨fun pos pins s σ H Q I q => h.run pos pins s σ H Q I (i _ _ _ q)⟩
theorem pt_weak {X : Cx} {e : Expr} {t t' : TT} (h : PT X e t) (i : ∀ σ H Q, t' σ H Q → t σ H Q) : PT X e t' := ⟨fun pins s σ H Q I q => h.run pins s σ H Q I (i _ _ _ q)⟩
theorem pss_weak {X : Cx} {e : List Stmt} {t t' : TS} (h : PSs X e t) (i : ∀ D σ H, t' D σ H → t D σ H) : PSs X e t' := ⟨fun pins s σ H D I q => h.run pins s σ H D I (i _ _ _ q)⟩
theorem ps_weak {X : Cx} {e : Stmt} {t t' : TS} (h : PS X e t) (i : ∀ D σ H, t' D σ H → t D σ H) : PS X e t' := ⟨fun pins s σ H D I q => h.run pins s σ H D I (i _ _ _ q)⟩

/-- a pure operation: what it asks of the values, and what it is worth as data -/
def PureN (K : PySem.W.Frag) (r : List V → Hp → VK → Prop) (g : List Va → Option Va) : Prop :=
  ∀ (Nu : Addr → Prop) (φ : List Addr) (H : Hp) (us : List V) (vs : List Va) (w : Va) (Q : VK), MuOk Nu H → VRepAll K Nu φ H us vs → g vs = some w →
    (∀ H' u', Ext H H' → VRep K Nu φ H' u' w → Q u' H') → r us H Q
def Pure2 (K : PySem.W.Frag) (r : R2) (g : Va → Va → Option Va) : Prop := PureN K (fun us H Q => ∃ x y, us = [x, y] ∧ r x y H Q) (fun vs => match vs with | [a, b] => g a b | _ => none)
def Pure1 (K : PySem.W.Frag) (r : V → Hp → VK → Prop) (g : Va → Option Va) : Prop := PureN K (fun us H Q => ∃ x, us = [x] ∧ r x H Q) (fun vs => match vs with | [a] => g a | _ => none)

section
variable {X : Cx} {fl : Bool}
theorem Rel.muo {K : PySem.W.Frag} {W : Wd} {φ : List Addr} {own : Nat → List Addr} {env : En} {S : Sto} {σ : L2.St} {H : Hp} (r : Rel K W φ own env S σ H) (fl : Bool) : MuOk (Mo fl W.G φ own) H := r.mu.sub fun _ h => Mo.sub h

end
/-! ### combining -/
section
variable {C : Ct} {fl : Bool} {σ : L2.St} {H : Hp}
/-- the first part of an expression's reading -/
theorem tI_bind {α : Type} {fa : DF} {k : Va → M α} {Pf : Wd → (φ : List Addr) → (Nat → List Addr) → En → Hp → α → Sto → Prop}
    (h : ∃ W φ own env S, Rel C.K W φ own env S σ H ∧ (bnd (fa env) k S).sat (fun w S' => Pf W φ own env H w S') (fun x S' => ∀ φ' H', Rel C.K W φ' own env S' σ H' → Kp φ H φ' H' → XWish C (Mu W.G φ' own) σ H' x))
    {R : V → Hp → Prop}
    (step : ∀ W φ own env φ1 H1 u v S1, Rel C.K W φ1 own env S1 σ H1 → Kp φ H φ1 H1 → VRep C.K (Mo fl W.G φ1 own) φ1 H1 u v →
      (k v S1).sat (fun w S' => Pf W φ own env H w S') (fun x S' => ∀ φ' H', Rel C.K W φ' own env S' σ H' → Kp φ H φ' H' → XWish C (Mu W.G φ' own) σ H' x) → R u H1) : tI C fl fa σ H R := by
  obtain ⟨W, φ, own, env, S, r, h⟩ := h
  refine ⟨W, φ, own, env, S, r, ?_⟩
  exact (sat_bnd.mp h).mono (fun v S1 q φ1 H1 u r1 k1 v1 => step W φ own env φ1 H1 u v S1 r1 k1 v1 q) fun _ _ q => q
end
end KP


set_option Elab.async false
set_option linter.all false
set_option maxRecDepth 100000
/-! KC: expressions. -/
namespace KP
open PySem PySem.Spec PyProof.Rows L2
/-- an operation on data behind its arguments -/
def cN (g : List Va → Option Va) (fa : DFA) : DF := fun env => bnd (fa env) fun vs => ofO (g vs)
def c1 (g : Va → Option Va) (fa : DF) : DF := fun env => bnd (fa env) fun v => ofO (g v)
def c2 (g : Va → Va → Option Va) (fa fb : DF) : DF := fun env => bnd (fa env) fun v => bnd (fb env) fun w => ofO (g v w)
def aNil : DFA := fun _ => ret []
def aCons (f : DF) (fs : DFA) : DFA := fun env => bnd (f env) fun v => bnd (fs env) fun vs => ret (v :: vs)
section
variable {C : Ct} {fl : Bool} {σ : L2.St} {H : Hp} {Q : VK}
theorem tI_c1 {fa : DF} {g : Va → Option Va} {r : V → Hp → VK → Prop} (pr : Pure1 C.K r g) (h : tI C fl (c1 g fa) σ H Q) : tI C fl fa σ H (fun u H1 => r u H1 Q) := by
  obtain ⟨W, φ, own, env, S, r0, h⟩ := h
  refine ⟨W, φ, own, env, S, r0, (sat_bnd.mp h).mono (fun v S1 q φ1 H1 u r1 k1 v1 => ?_) fun _ _ q => q⟩
  obtain ⟨w, e, q⟩ := sat_ofO.mp q
  obtain ⟨x, ex, q2⟩ := pr (Mo fl W.G φ1 own) φ1 H1 [u] [v] w Q (r1.muo fl) (.cons v1 .nil) e fun H' u' ee vv => q φ1 H' u' (r1.grow ee) (k1.trans (Kp.ext ee)) vv
  cases ex
  exact q2
theorem tI_c2 {fa fb : DF} {g : Va → Va → Option Va} {r : R2} (pr : Pure2 C.K r g) (h : tI C fl (c2 g fa fb) σ H Q) : tI C fl fa σ H (fun u H1 => tI C fl fb σ H1 fun w H2 => r u w H2 Q) := by
  obtain ⟨W, φ, own, env, S, r0, h⟩ := h
  refine ⟨W, φ, own, env, S, r0, (sat_bnd.mp h).mono (fun v S1 q φ1 H1 u r1 k1 v1 => ?_) fun _ _ q => q⟩
  refine ⟨W, φ1, own, env, S1, r1, (sat_bnd.mp q).mono (fun w S2 q φ2 H2 u2 r2 k2 v2 => ?_) fun x S' q φ' H' r' k' => q φ' H' r' (k1.trans k')⟩
  obtain ⟨z, e, q⟩ := sat_ofO.mp q
  obtain ⟨x, y, ex, q2⟩ := pr (Mo fl W.G φ2 own) φ2 H2 [u, u2] [v, w] z Q (r2.muo fl) (.cons (v1.keep k2) (.cons v2 .nil)) e fun H' u' ee vv => q φ2 H' u' (r2.grow ee) ((k1.trans k2).trans (Kp.ext ee)) vv
  cases ex
  exact q2
theorem tI_cN {fa : DFA} {g : List Va → Option Va} {r : List V → Hp → VK → Prop} (pr : PureN C.K r g) (h : tI C fl (cN g fa) σ H Q) : tIA C fl fa σ H (fun us H1 => r us H1 Q) := by
  obtain ⟨W, φ, own, env, S, r0, h⟩ := h
  refine ⟨W, φ, own, env, S, r0, (sat_bnd.mp h).mono (fun v S1 q φ1 H1 u r1 k1 v1 => ?_) fun _ _ q => q⟩
  obtain ⟨w, e, q⟩ := sat_ofO.mp q
  exact pr (Mo fl W.G φ1 own) φ1 H1 u v w Q (r1.muo fl) v1 e fun H' u' ee vv => q φ1 H' u' (r1.grow ee) (k1.trans (Kp.ext ee)) vv
theorem tIA_nil {Q : List V → Hp → Prop} (h : tIA C fl aNil σ H Q) : Q [] H := by
  obtain ⟨W, φ, own, env, S, r0, h⟩ := h
  exact h φ H [] r0 Kp.refl .nil
theorem tIA_cons {f : DF} {fs : DFA} {Q : List V → Hp → Prop} (h : tIA C fl (aCons f fs) σ H Q) : tI C fl f σ H (fun x H1 => tIA C fl fs σ H1 fun xs H2 => Q (x :: xs) H2) := by
  obtain ⟨W, φ, own, env, S, r0, h⟩ := h
  refine ⟨W, φ, own, env, S, r0, (sat_bnd.mp h).mono (fun v S1 q φ1 H1 u r1 k1 v1 => ?_) fun _ _ q => q⟩
  refine ⟨W, φ1, own, env, S1, r1, (sat_bnd.mp q).mono (fun w S2 q φ2 H2 u2 r2 k2 v2 => ?_) fun x S' q φ' H' r' k' => q φ' H' r' (k1.trans k')⟩
  exact q φ2 H2 (u :: u2) r2 (k1.trans k2) (.cons (v1.keep k2) v2)
end

section
variable {X : Cx} {ew : WX} {fl : Bool} {e a b : Expr} {es : List Expr} {f fa fb : DF} {fs : DFA} {pos p : Pos} {x : Str}
theorem ea_nil : EA X ew fl [] aNil := pa_weak pa_nil fun _ _ _ h => tIA_nil h
theorem ea_cons (h : E X ew fl e f) (ht : EA X ew fl es fs) (hs : starEach (e :: es) X.env = (false, eval e X.env) :: starEach es X.env := by rfl) : EA X ew fl (e :: es) (aCons f fs) :=
  pa_weak (pa_cons h ht hs) fun _ _ _ h => tIA_cons h
theorem e_callB {id : String} {r : List V → Hp → VK → Prop} {g : List Va → Option Va} (hc : CallR X (.builtin id) r) (pr : PureN X.K r g) (hg : Gl X x) (hm : X.mg x = none) (hv : bootBuiltins x = some (.builtin id)) (ha : EA X ew fl (e :: es) fs) (hn : x ≠ "__name__" := by decide) (hdb : (x == ("__debug__" : Str)) = false := by decide)
    (he : starEach (e :: es) X.env = (false, eval e X.env) :: starEach es X.env := by rfl) (hpl : (backTo pos (starEach es X.env)).any (·.1) = false := by rfl) : E X ew fl (.Call (.Name x p) (e :: es) [] pos) (cN g fs) :=
  pe_weak (pe_callB hc hg hm hv ha hn hdb he hpl) fun _ _ _ h => tI_cN pr h
theorem e_callTy {T : String} {r : List V → Hp → VK → Prop} {g : List Va → Option Va} (hc : CallR X (.type T) r) (pr : PureN X.K r g) (hg : Gl X x) (hm : X.mg x = none) (hv : bootBuiltins x = some (.type T)) (ha : EA X ew fl (e :: es) fs) (hn : x ≠ "__name__" := by decide) (hdb : (x == ("__debug__" : Str)) = false := by decide)
    (he : starEach (e :: es) X.env = (false, eval e X.env) :: starEach es X.env := by rfl) (hpl : (backTo pos (starEach es X.env)).any (·.1) = false := by rfl) : E X ew fl (.Call (.Name x p) (e :: es) [] pos) (cN g fs) :=
  pe_weak (pe_callTy hc hg hm hv ha hn hdb he hpl) fun _ _ _ h => tI_cN pr h
theorem e_op {op : Operator} {r : R2} {g : Va → Va → Option Va} (ho : OpR X (binaryOp op) r) (pr : Pure2 X.K r g) (ha : E X ew fl a fa) (hb : E X ew fl b fb) : E X ew fl (.BinOp a op b pos) (c2 g fa fb) :=
  pe_weak (pe_op ho ha hb) fun _ _ _ h => tI_c2 pr h
theorem e_un {op : UnaryOp} {r : V → Hp → VK → Prop} {g : Va → Option Va} (ho : UnR X (unaryOp op) r) (pr : Pure1 X.K r g) (ha : E X ew fl a fa) : E X ew fl (.UnaryOp op a pos) (c1 g fa) :=
  pe_weak (pe_un ho ha) fun _ _ _ h => tI_c1 pr h
end
end KP


set_option Elab.async false
set_option linter.all false
set_option maxRecDepth 100000
/-! KD: names, constants, comparisons, and, or, not, if. -/
namespace KP
open PySem PySem.Spec PyProof.Rows L2
def Dk.data : Dk → PyData
  | .k kvs => .dict (kvs.map fun p => (keyP p.1, p.2))
  | .t kvs => .dict (kvs.map fun p => (keyT p.1, p.2))
theorem KRep.repK {K : PySem.W.Frag} {Z : Hp} : ∀ {ks : List (Key × V)} {kvs : List (Key × PyData)}, KRep K Z ks kvs → RepK K Z ks (kvs.map fun p => (keyP p.1, p.2))
  | _, _, .nil => .nil
  | _, _, .cons h t => .cons h (KRep.repK t)
theorem KRep.repT {K : PySem.W.Frag} {Z : Hp} : ∀ {ks : List (List Key × V)} {kvs : List (List Key × PyData)}, KRep K Z ks kvs → RepT K Z ks (kvs.map fun p => (keyT p.1, p.2))
  | _, _, .nil => .nil
  | _, _, .cons h t => .cons h (KRep.repT t)
theorem DictR.rep {K : PySem.W.Frag} {Z Y H : Hp} {a : Addr} {k : Dk} (e : Ext Z Y) (ha : Y a = H a) (h : DictR K Z H a k) : Rep K Y (.ref a) k.data := by
  cases k with
  | k kvs => obtain ⟨ks, h1, h2⟩ := h; exact .dcK (ha.trans h1) (h2.ext e).repK
  | t kvs => obtain ⟨ks, h1, h2⟩ := h; exact .dcT (ha.trans h1) (h2.ext e).repT
def Sv.view : Sv → Option Va
  | .d p => some (.d p)
  | .l1 xs => some (.d (.list xs))
  | .l2 xss => some (.d (.list (xss.map PyData.list)))
  | .dd k => some (.d k.data)
  | .c n => some (.c n)
  | .s ns => some (.s ns)
def Sv.still : Sv → Option Va
  | .d p => some (.d p)
  | .c n => some (.c n)
  | .s ns => some (.s ns)
  | _ => none
/-- a name: data that stay; any (borrowed) -/
def lk (env : En) (i : Nat) : Option Sv := (env[i]?).join
theorem lk_some {env : En} {i : Nat} {sv : Sv} (h : lk env i = some sv) : env[i]? = some (some sv) := by
  unfold lk at h
  cases e : env[i]? with
  | none => rw [e] at h; cases h
  | some o => rw [e] at h; exact congrArg some h
def vT (i : Nat) : DF := fun env => ofO ((lk env i).bind Sv.still)
def vF (i : Nat) : DF := fun env => ofO ((lk env i).bind Sv.view)
def kC (p : PyData) : DF := fun _ => ret (.d p)
def toB : Va → Option Bool
  | .d (.bool b) => some b
  | _ => none
def bV (f : DF) : DB := fun env => bnd (f env) fun v => ofO (toB v)
def bAnd (a b : DB) : DB := fun env => bnd (a env) fun k => if k = true then b env else ret false
def bOr (a b : DB) : DB := fun env => bnd (a env) fun k => if k = true then ret true else b env
def bNot (a : DB) : DB := fun env => bnd (a env) fun k => ret (!k)
def vB (k : Bool) : Va := .d (.bool k)
def eAnd (a b : DF) : DF := fun env => bnd (a env) fun v => bnd (ofO (toB v)) fun k => if k = true then b env else ret (vB false)
def eOr (a b : DF) : DF := fun env => bnd (a env) fun v => bnd (ofO (toB v)) fun k => if k = true then ret (vB true) else b env
def eNot (a : DF) : DF := fun env => bnd (a env) fun v => bnd (ofO (toB v)) fun k => ret (vB (!k))
def eIf (c : DB) (a b : DF) : DF := fun env => bnd (c env) fun k => if k = true then a env else b env
/-- a < b < c -/
def eChain (g g' : Va → Va → Option Va) (a b c : DF) : DF := fun env => bnd (a env) fun x => bnd (b env) fun y => bnd (ofO (g x y)) fun z => bnd (ofO (toB z)) fun k => if k = true then bnd (c env) fun w => ofO (g' y w) else ret (vB false)
def eNo : DF := fun _ => no

theorem toB_some {v : Va} {k : Bool} (h : toB v = some k) : v = vB k := by
  cases v with
  | d p =>
    cases p <;> simp [toB] at h
    subst h; rfl
  | c n => simp [toB] at h
  | s n => simp [toB] at h
theorem VRep.bool {K : PySem.W.Frag} {Nu : Addr → Prop} {φ : List Addr} {H : Hp} {u : V} {k : Bool} (h : VRep K Nu φ H u (vB k)) : u = .bl k := by
  cases h; rfl
section
variable {C : Ct} {fl : Bool} {σ : L2.St} {H : Hp} {Q : VK}
theorem tI_no {P : Prop} (h : tI C fl eNo σ H Q) : P := by
  obtain ⟨W, φ, own, env, S, r0, h⟩ := h
  exact h.elim
theorem tI_var {i : Nat} (h : tI C true (vT i) σ H Q) : tVar i σ H Q := by
  obtain ⟨W, φ, own, env, S, r0, h⟩ := h
  obtain ⟨v, e, h⟩ := sat_ofO.mp h
  obtain ⟨sv, es, e⟩ := Option.bind_eq_some_iff.mp e
  have es := lk_some es
  · skip
    obtain ⟨u, hu, q⟩ := r0.slot i sv es
    refine ⟨u, hu, h φ H u r0 Kp.refl ?_⟩
    cases sv with
    | d p => cases e; exact q.1
    | c n => cases e; obtain ⟨a, q1, q2, _⟩ := q; exact ⟨a, q1, q2⟩
    | s n => cases e; exact q.1
    | l1 _ => cases e
    | l2 _ => cases e
    | dd _ => cases e
theorem rows_rep {K : PySem.W.Frag} {Z Y H : Hp} : ∀ {bs : List Addr} {xss : List (List PyData)}, Ext Z Y → (∀ b, b ∈ bs → Y b = H b) → RowsR K Z H bs xss → RepAll K Y (bs.map V.ref) (xss.map PyData.list)
  | _, _, _, _, .nil => .nil
  | b :: bs, _, e, k, .cons h l r t => .cons (.lst (by rw [k b List.mem_cons_self]; exact h) l (r.ext e)) (rows_rep e (fun c hc => k c (List.mem_cons_of_mem _ hc)) t)
theorem tI_varF {i : Nat} (h : tI C false (vF i) σ H Q) : tVar i σ H Q := by
  obtain ⟨W, φ, own, env, S, r0, h⟩ := h
  obtain ⟨v, e, h⟩ := sat_ofO.mp h
  obtain ⟨sv, es, e⟩ := Option.bind_eq_some_iff.mp e
  have es := lk_some es
  · skip
    obtain ⟨u, hu, q⟩ := r0.slot i sv es
    refine ⟨u, hu, h φ H u r0 Kp.refl ?_⟩
    have sub : Ext (hz (Mu W.G φ own) H) (hz (Mo false W.G φ own) H) := hz_anti fun a _ _ z => Mo.sub z
    have no : ∀ a, a ∈ own i → hz (Mo false W.G φ own) H a = H a := fun a ha => by
      unfold hz
      exact if_neg fun z => z.elim (fun z => (r0.gd a z).2 i ha) (r0.apart i a ha)
    cases sv with
    | d p => cases e; exact Rep.ext sub q.1
    | c n => cases e; obtain ⟨a, q1, q2, _⟩ := q; exact ⟨a, q1, q2⟩
    | s n => cases e; obtain ⟨⟨a, q1, q2⟩, _⟩ := q; exact ⟨a, q1, sqL_ext sub q2⟩
    | l1 xs =>
      cases e
      obtain ⟨a, us, rfl, q2, q3, q4, q5⟩ := q
      exact .lst ((no a (by rw [q2]; simp)).trans q3) q5 (q4.ext sub)
    | dd k =>
      cases e
      obtain ⟨a, rfl, q2, q3⟩ := q
      exact DictR.rep sub (no a (by rw [q2]; simp)) q3
    | l2 xss =>
      cases e
      obtain ⟨a, bs, rfl, q2, q3, q4, q5, q6⟩ := q
      exact .lst ((no a (by rw [q2]; simp)).trans q4) (by rw [List.length_map]; exact q6) (rows_rep sub (fun b hb => no b (by rw [q2]; exact List.mem_cons_of_mem _ hb)) q5)
theorem tI_k {p : PyData} {v : V} (hp : ∀ Z, Rep C.K Z v p) (h : tI C fl (kC p) σ H Q) : Q v H := by
  obtain ⟨W, φ, own, env, S, r0, h⟩ := h
  exact h φ H v r0 Kp.refl (hp _)
/-- from data that stay to any -/
theorem tI_down {f : DF} (h : tI C false f σ H Q) : tI C true f σ H Q := by
  obtain ⟨W, φ, own, env, S, r0, h⟩ := h
  exact ⟨W, φ, own, env, S, r0, h.mono (fun v S1 q φ1 H1 u r1 k1 v1 => q φ1 H1 u r1 k1 (v1.less fun a z => Mo.sub z)) fun _ _ q => q⟩
def immV : Va → Option Va
  | .d p => if imm p = true then some (.d p) else none
  | .c n => some (.c n)
  | .s _ => none
theorem tI_up {f : DF} (h : tI C true (c1 immV f) σ H Q) : tI C false f σ H Q := by
  obtain ⟨W, φ, own, env, S, r0, h⟩ := h
  refine ⟨W, φ, own, env, S, r0, (sat_bnd.mp h).mono (fun v S1 q φ1 H1 u r1 k1 v1 => ?_) fun _ _ q => q⟩
  obtain ⟨w, e, q⟩ := sat_ofO.mp q
  cases v with
  | d p =>
    by_cases ei : imm p = true
    · have e : some (Va.d p) = some w := by rw [← e]; exact (if_pos ei).symm
      cases e
      refine q φ1 H1 u r1 k1 ?_
      show Rep C.K (hz (Mu W.G φ1 own) H1) u p
      exact Rep.imm r1.mu (Rep.ext hz_sub v1) ei
    · have e : none = some w := by rw [← e]; exact (if_neg ei).symm
      cases e
  | c n => cases e; exact q φ1 H1 u r1 k1 v1
  | s n => cases e
theorem tIB_bind {fa : DB} {k : Bool → M Bool} {Q : Bool → Hp → Prop} {T : Bool → Hp → Prop}
    (h : tIB C (fun env => bnd (fa env) k) σ H Q) (step : ∀ b H1, tIB C (fun _ => k b) σ H1 Q → T b H1) : tIB C fa σ H T := by
  obtain ⟨W, φ, own, env, S, r0, h⟩ := h
  refine ⟨W, φ, own, env, S, r0, (sat_bnd.mp h).mono (fun v S1 q φ1 H1 r1 k1 => step v H1 ?_) fun _ _ q => q⟩
  exact ⟨W, φ1, own, env, S1, r1, q.mono (fun w S2 q φ2 H2 r2 k2 => q φ2 H2 r2 (k1.trans k2)) fun x S' q φ' H' r' k' => q φ' H' r' (k1.trans k')⟩
theorem tIB_val {f : DF} {Q : Bool → Hp → Prop} (h : tIB C (bV f) σ H Q) : tI C fl f σ H (fun x H1 => ∃ c, x = .bl c ∧ Q c H1) := by
  obtain ⟨W, φ, own, env, S, r0, h⟩ := h
  refine ⟨W, φ, own, env, S, r0, (sat_bnd.mp h).mono (fun v S1 q φ1 H1 u r1 k1 v1 => ?_) fun _ _ q => q⟩
  obtain ⟨k, e, q⟩ := sat_ofO.mp q
  have := toB_some e
  subst this
  exact ⟨k, v1.bool, q φ1 H1 r1 k1⟩
theorem tIB_and {a b : DB} {Q : Bool → Hp → Prop} (h : tIB C (bAnd a b) σ H Q) : tAnd (tIB C a) (tIB C b) σ H Q := by
  obtain ⟨W, φ, own, env, S, r0, h⟩ := h
  refine ⟨W, φ, own, env, S, r0, (sat_bnd.mp h).mono (fun v S1 q φ1 H1 r1 k1 => ?_) fun _ _ q => q⟩
  cases v with
  | true =>
    rw [if_pos rfl] at q ⊢
    exact ⟨W, φ1, own, env, S1, r1, q.mono (fun w S2 q φ2 H2 r2 k2 => q φ2 H2 r2 (k1.trans k2)) fun x S' q φ' H' r' k' => q φ' H' r' (k1.trans k')⟩
  | false =>
    rw [if_neg Bool.false_ne_true] at q ⊢
    exact q φ1 H1 r1 k1
theorem tIB_or {a b : DB} {Q : Bool → Hp → Prop} (h : tIB C (bOr a b) σ H Q) : tOr (tIB C a) (tIB C b) σ H Q := by
  obtain ⟨W, φ, own, env, S, r0, h⟩ := h
  refine ⟨W, φ, own, env, S, r0, (sat_bnd.mp h).mono (fun v S1 q φ1 H1 r1 k1 => ?_) fun _ _ q => q⟩
  cases v with
  | false =>
    rw [if_neg Bool.false_ne_true] at q ⊢
    exact ⟨W, φ1, own, env, S1, r1, q.mono (fun w S2 q φ2 H2 r2 k2 => q φ2 H2 r2 (k1.trans k2)) fun x S' q φ' H' r' k' => q φ' H' r' (k1.trans k')⟩
  | true =>
    rw [if_pos rfl] at q ⊢
    exact q φ1 H1 r1 k1
theorem tIB_not {a : DB} {Q : Bool → Hp → Prop} (h : tIB C (bNot a) σ H Q) : tNot (tIB C a) σ H Q := by
  obtain ⟨W, φ, own, env, S, r0, h⟩ := h
  exact ⟨W, φ, own, env, S, r0, (sat_bnd.mp h).mono (fun v S1 q φ1 H1 r1 k1 => q φ1 H1 r1 k1) fun _ _ q => q⟩
theorem tI_if {c : DB} {a b : DF} (h : tI C fl (eIf c a b) σ H Q) : tIf (tIB C c) (tI C fl a) (tI C fl b) σ H Q := by
  obtain ⟨W, φ, own, env, S, r0, h⟩ := h
  refine ⟨W, φ, own, env, S, r0, (sat_bnd.mp h).mono (fun v S1 q φ1 H1 r1 k1 => ?_) fun _ _ q => q⟩
  cases v with
  | true =>
    rw [if_pos rfl] at q ⊢
    exact ⟨W, φ1, own, env, S1, r1, q.mono (fun w S2 q φ2 H2 u2 r2 k2 => q φ2 H2 u2 r2 (k1.trans k2)) fun x S' q φ' H' r' k' => q φ' H' r' (k1.trans k')⟩
  | false =>
    rw [if_neg Bool.false_ne_true] at q ⊢
    exact ⟨W, φ1, own, env, S1, r1, q.mono (fun w S2 q φ2 H2 u2 r2 k2 => q φ2 H2 u2 r2 (k1.trans k2)) fun x S' q φ' H' r' k' => q φ' H' r' (k1.trans k')⟩
theorem tI_and {a b : DF} (h : tI C fl (eAnd a b) σ H Q) : tAndV (tI C fl a) (tI C fl b) σ H Q := by
  obtain ⟨W, φ, own, env, S, r0, h⟩ := h
  refine ⟨W, φ, own, env, S, r0, (sat_bnd.mp h).mono (fun v S1 q φ1 H1 u r1 k1 v1 => ?_) fun _ _ q => q⟩
  obtain ⟨k, e, q9⟩ := sat_ofO.mp (sat_bnd.mp q)
  clear q
  have q := q9
  clear q9
  obtain rfl := toB_some e
  refine ⟨k, v1.bool, ?_⟩
  cases k with
  | true =>
    rw [if_pos rfl] at q ⊢
    exact ⟨W, φ1, own, env, S1, r1, q.mono (fun w S2 q φ2 H2 u2 r2 k2 => q φ2 H2 u2 r2 (k1.trans k2)) fun x S' q φ' H' r' k' => q φ' H' r' (k1.trans k')⟩
  | false =>
    rw [if_neg Bool.false_ne_true] at q ⊢
    exact q φ1 H1 _ r1 k1 (.bl false)
theorem tI_or {a b : DF} (h : tI C fl (eOr a b) σ H Q) : tOrV (tI C fl a) (tI C fl b) σ H Q := by
  obtain ⟨W, φ, own, env, S, r0, h⟩ := h
  refine ⟨W, φ, own, env, S, r0, (sat_bnd.mp h).mono (fun v S1 q φ1 H1 u r1 k1 v1 => ?_) fun _ _ q => q⟩
  obtain ⟨k, e, q9⟩ := sat_ofO.mp (sat_bnd.mp q)
  clear q
  have q := q9
  clear q9
  obtain rfl := toB_some e
  refine ⟨k, v1.bool, ?_⟩
  cases k with
  | false =>
    rw [if_neg Bool.false_ne_true] at q ⊢
    exact ⟨W, φ1, own, env, S1, r1, q.mono (fun w S2 q φ2 H2 u2 r2 k2 => q φ2 H2 u2 r2 (k1.trans k2)) fun x S' q φ' H' r' k' => q φ' H' r' (k1.trans k')⟩
  | true =>
    rw [if_pos rfl] at q ⊢
    exact q φ1 H1 _ r1 k1 (.bl true)
theorem tI_not {a : DF} (h : tI C fl (eNot a) σ H Q) : tNotV (tI C fl a) σ H Q := by
  obtain ⟨W, φ, own, env, S, r0, h⟩ := h
  refine ⟨W, φ, own, env, S, r0, (sat_bnd.mp h).mono (fun v S1 q φ1 H1 u r1 k1 v1 => ?_) fun _ _ q => q⟩
  obtain ⟨k, e, q9⟩ := sat_ofO.mp (sat_bnd.mp q)
  clear q
  have q := q9
  clear q9
  obtain rfl := toB_some e
  exact ⟨k, v1.bool, q φ1 H1 _ r1 k1 (.bl _)⟩
theorem tI_chain {g g' : Va → Va → Option Va} {a b c : DF} {r r' : R2} (pr : Pure2 C.K r g) (pr' : Pure2 C.K r' g') (h : tI C fl (eChain g g' a b c) σ H Q) : tChain r r' (tI C fl a) (tI C fl b) (tI C fl c) σ H Q := by
  obtain ⟨W, φ, own, env, S, r0, h⟩ := h
  refine ⟨W, φ, own, env, S, r0, (sat_bnd.mp h).mono (fun v S1 q φ1 H1 u r1 k1 v1 => ?_) fun _ _ q => q⟩
  refine ⟨W, φ1, own, env, S1, r1, (sat_bnd.mp q).mono (fun w S2 q φ2 H2 u2 r2 k2 v2 => ?_) fun x S' q φ' H' r' k' => q φ' H' r' (k1.trans k')⟩
  obtain ⟨z, e, q8⟩ := sat_ofO.mp (sat_bnd.mp q)
  obtain ⟨k, ek, q9⟩ := sat_ofO.mp (sat_bnd.mp q8)
  obtain rfl := toB_some ek
  clear q8 q h
  have q2 := pr (Mo fl W.G φ2 own) φ2 H2 [u, u2] [v, w] (vB k) (fun z H3 => ∃ k, z = .bl k ∧ (if k = true then tI C fl c σ H3 fun w' H4 => r' u2 w' H4 Q else Q (.bl false) H3)) (r2.muo fl) (.cons (v1.keep k2) (.cons v2 .nil)) e (fun H' u' ee vv => by
    refine ⟨k, vv.bool, ?_⟩
    have r3 := r2.grow ee
    have k3 := (k1.trans k2).trans (Kp.ext ee)
    cases k with
    | true =>
      rw [if_pos rfl] at q9 ⊢
      refine ⟨W, φ2, own, env, S2, r3, (sat_bnd.mp q9).mono (fun y S4 q φ4 H4 u4 r4 k4 v4 => ?_) fun x S' q φ' H' r' k' => q φ' H' r' (k3.trans k')⟩
      obtain ⟨o, eo, q⟩ := sat_ofO.mp q
      obtain ⟨x', y', ex, q5⟩ := pr' (Mo fl W.G φ4 own) φ4 H4 [u2, u4] [w, y] o Q (r4.muo fl) (.cons ((v2.ext ee).keep k4) (.cons v4 .nil)) eo fun H' u' ee vv => q φ4 H' u' (r4.grow ee) ((k3.trans k4).trans (Kp.ext ee)) vv
      cases ex
      exact q5
    | false =>
      rw [if_neg Bool.false_ne_true] at q9 ⊢
      exact q9 φ2 H' _ r3 k3 (.bl false))
  obtain ⟨x', y', ex, q5⟩ := q2
  cases ex
  exact q5
end

section
variable {X : Cx} {ew : WX} {fl : Bool} {e a b c : Expr} {es : List Expr} {f fa fb fc : DF} {ba bb : DB} {fs : DFA} {pos p : Pos} {x : Str} {j : Nat}
theorem e_var {i : Nat} (hN : X.N[i]? = some x) (hv : Vis X.env.scope x) (hd : (x == ("__debug__" : Str)) = false := by decide) (hcd : (x == ("__classdict__" : Str)) = false := by decide) : E X ew true (.Name x pos) (vT i) :=
  pe_weak (pe_var hN hv hd hcd) fun _ _ _ h => tI_var h
theorem e_varF {i : Nat} (hN : X.N[i]? = some x) (hv : Vis X.env.scope x) (hd : (x == ("__debug__" : Str)) = false := by decide) (hcd : (x == ("__classdict__" : Str)) = false := by decide) : E X ew false (.Name x pos) (vF i) :=
  pe_weak (pe_var hN hv hd hcd) fun _ _ _ h => tI_varF h
theorem e_int {i : Int} {j pos} : E X ew fl (.Constant (.int i) j pos) (kC (.int i)) := pe_weak pe_int fun _ _ _ h => tI_k (fun _ => .int i) h
theorem e_bl {i : Bool} {j pos} : E X ew fl (.Constant (.bool i) j pos) (kC (.bool i)) := pe_weak pe_bl fun _ _ _ h => tI_k (fun _ => .bl i) h
theorem e_non {j pos} : E X ew fl (.Constant .none j pos) (kC .none) := pe_weak pe_non fun _ _ _ h => tI_k (fun _ => .non) h
theorem e_str {i : Str} {j pos} : E X ew fl (.Constant (.str i) j pos) (kC (.str i)) := pe_weak pe_str fun _ _ _ h => tI_k (fun _ => .str i) h
/-- a module's constant -/
theorem e_globI {i : Int} {t : Tok} (hg : Gl X x) (hm : X.mg x = some (.int i t)) (hd : (x == ("__debug__" : Str)) = false := by decide) : E X ew fl (.Name x pos) (kC (.int i)) :=
  pe_weak (pe_glob (v := .int i) hg hm ⟨t, rfl⟩ hd) fun _ _ _ h => tI_k (fun _ => .int i) h
theorem e_globS {i : Str} {t : Tok} (hg : Gl X x) (hm : X.mg x = some (.str i t)) (hd : (x == ("__debug__" : Str)) = false := by decide) : E X ew fl (.Name x pos) (kC (.str i)) :=
  pe_weak (pe_glob (v := .str i) hg hm ⟨t, rfl⟩ hd) fun _ _ _ h => tI_k (fun _ => .str i) h
theorem e_no : E X ew fl e eNo := ⟨fun _ _ _ _ _ _ h => tI_no h⟩
theorem e_down (h : E X ew true e f) : E X ew false e f := pe_weak h fun _ _ _ q => tI_down q
theorem e_up (h : E X ew false e f) : E X ew true e (c1 immV f) := pe_weak h fun _ _ _ q => tI_up q
theorem e_cmp {op : CmpOp} {r : R2} {g : Va → Va → Option Va} (ho : OpR X (compareOp op) r) (pr : Pure2 X.K r g) (ha : E X ew fl a fa) (hb : E X ew fl b fb) (hm : behindInMarks op b = false) : E X ew fl (.Compare a [op] [b] pos) (c2 g fa fb) :=
  pe_weak (pe_cmpR ho ha hb hm) fun _ _ _ h => tI_c2 pr h
theorem e_chain {op op' : CmpOp} {r r' : R2} {g g' : Va → Va → Option Va} (ho : OpR X (compareOp op) r) (pr : Pure2 X.K r g) (ho' : OpR X (compareOp op') r') (pr' : Pure2 X.K r' g') (ha : E X ew fl a fa) (hb : E X ew fl b fb) (hc : E X ew fl c fc)
    (hm : lastMarks [op, op'] [b, c] = false := by with_unfolding_all rfl) : E X ew fl (.Compare a [op, op'] [b, c] pos) (eChain g g' fa fb fc) :=
  pe_weak (pe_chain ho ho' ha hb hc hm) fun _ _ _ h => tI_chain pr pr' h
theorem e_and1 {op} (h : E X ew fl a fa) : E X ew fl (.BoolOp op [a] pos) fa := pe_one h
theorem e_and {rest : List Expr} (ha : E X ew fl a fa) (hb : E X ew fl (.BoolOp .And (b :: rest) pos) fb) : E X ew fl (.BoolOp .And (a :: b :: rest) pos) (eAnd fa fb) := pe_weak (pe_and ha hb) fun _ _ _ h => tI_and h
theorem e_or {rest : List Expr} (ha : E X ew fl a fa) (hb : E X ew fl (.BoolOp .Or (b :: rest) pos) fb) : E X ew fl (.BoolOp .Or (a :: b :: rest) pos) (eOr fa fb) := pe_weak (pe_or ha hb) fun _ _ _ h => tI_or h
theorem e_not (ha : E X ew fl a fa) : E X ew fl (.UnaryOp .Not a pos) (eNot fa) := pe_weak (pe_not ha) fun _ _ _ h => tI_not h
theorem e_if (hc : EB X ew c ba) (ha : E X ew fl a fa) (hb : E X ew fl b fb) : E X ew fl (.IfExp c a b pos) (eIf ba fa fb) := pe_weak (pe_ifExp hc ha hb) fun _ _ _ h => tI_if h
/-! tests -/
def EW (X : Cx) (ew : WX) (e : Expr) (f : DB) : Prop := PW X e (tIB ⟨X.K, X.mg, ew⟩ f)
theorem pw_weak {t t' : TT} (h : PW X e t) (i : ∀ σ H Q, t' σ H Q → t σ H Q) : PW X e t' := ⟨fun w pins s σ H Q I q => h.run w pins s σ H Q I (i _ _ _ q)⟩
theorem eb_val (h : E X ew fl e f) (he : ∀ whole, isTrue e X.env whole = (do let v ← whole; standAt e.pos; holding [v] (truthy v)) := by intro _; rfl) : EB X ew e (bV f) := pt_weak (pt_val h he) fun _ _ _ q => tIB_val q
theorem eb_cmp {op : CmpOp} {r : R2} {g : Va → Va → Option Va} (ho : OpR X (compareOp op) r) (pr : Pure2 X.K r g) (ha : E X ew fl a fa) (hb : E X ew fl b fb) (hm : behindInMarks op b = false) : EB X ew (.Compare a [op] [b] pos) (bV (c2 g fa fb)) :=
  pt_weak (pt_cmpR ho ha hb hm) fun _ _ _ h => tI_c2 pr (tIB_val h)
theorem eb_chain {op op' : CmpOp} {r r' : R2} {g g' : Va → Va → Option Va} (ho : OpR X (compareOp op) r) (pr : Pure2 X.K r g) (ho' : OpR X (compareOp op') r') (pr' : Pure2 X.K r' g') (ha : E X ew fl a fa) (hb : E X ew fl b fb) (hc : E X ew fl c fc)
    (hm : lastMarks [op, op'] [b, c] = false := by with_unfolding_all rfl) : EB X ew (.Compare a [op, op'] [b, c] pos) (bV (eChain g g' fa fb fc)) :=
  pt_weak (pt_chain ho ho' ha hb hc hm) fun _ _ _ h => tI_chain pr pr' (tIB_val h)
theorem eb_not (h : EB X ew a ba) : EB X ew (.UnaryOp .Not a pos) (bNot ba) := pt_weak (pt_not h) fun _ _ _ q => tIB_not q
theorem ew_and1 (h : EB X ew a ba) : EW X ew (.BoolOp .And [a] pos) ba := pw_and1 h
theorem ew_or1 (h : EB X ew a ba) : EW X ew (.BoolOp .Or [a] pos) ba := pw_or1 h
theorem ew_and {rest : List Expr} (ha : EB X ew a ba) (hb : EW X ew (.BoolOp .And (b :: rest) pos) bb) : EW X ew (.BoolOp .And (a :: b :: rest) pos) (bAnd ba bb) := pw_weak (pw_and ha hb) fun _ _ _ q => tIB_and q
theorem ew_or {rest : List Expr} (ha : EB X ew a ba) (hb : EW X ew (.BoolOp .Or (b :: rest) pos) bb) : EW X ew (.BoolOp .Or (a :: b :: rest) pos) (bOr ba bb) := pw_weak (pw_or ha hb) fun _ _ _ q => tIB_or q
theorem eb_w (h : EW X ew e ba) : EB X ew e ba := PW.pt h
end
end KP


set_option Elab.async false
set_option linter.all false
set_option maxRecDepth 100000
/-! KF: calls of defs; displays. -/
namespace KP
open PySem PySem.Spec PyProof.Rows L2
structure Ent (K : PySem.W.Frag) (G : Addr → Prop) (φ : List Addr) (S : Sto) (H : Hp) : Prop where
  nd : φ.Nodup
  gd : ∀ a, G a → a ∉ φ
  mu : MuOk (Mu G φ nob) H
  cell : CellsR K (hz (Mu G φ nob) H) φ S H
/-- the promise of a def that is worth F -/
def spD (K : PySem.W.Frag) (mg : Str → Option Value) (n : Nat) (F : List Va → M Va) : Sp := fun vs H Q ew => vs.length = n ∧ ∃ G φ ds S, Ent K G φ S H ∧ VRepAll K (Mu G φ nob) φ H vs ds ∧
  (F ds S).sat (fun r S' => ∀ φ' H' u, Kp φ H φ' H' → Ent K G φ' S' H' → VRep K (Mu G φ' nob) φ' H' u r → Q u H')
    (fun x S' => ∀ φ' H', Kp φ H φ' H' → Ent K G φ' S' H' → XWish ⟨K, mg, fun c d _ h => ew c d h⟩ (Mu G φ' nob) [] H' x)
/-- a def's promise where nothing is being shown (repr) around -/
structure FnG (P : Program) (w : World) (K : PySem.W.Frag) (mg : Str → Option Value) (base : Heap) (CX : CXT) (k : Nat) (f : Addr) (fd : FuncData) (ps : List Str) (sp : Sp) : Prop where
  len : ∀ vs H Q E, sp vs H Q E → vs.length = ps.length
  run : ∀ (A : Around) (outer : List Env) (s : Shared) (H : Hp) (args : Args) (us : List Value) (vs : List V) (Q : VK) (E : XK), A.guards = some [] → Room k A → Env0 P w K mg base A outer s H →
    BindsTo s fd args (ps.zip us) → Vals vs us → sp vs H Q E → codeAny (model P w) A (.call (.ref f) args) (CR CX outer P w H s Q E) s
theorem FnG.mono {P : Program} {w : World} {K : PySem.W.Frag} {mg : Str → Option Value} {base : Heap} {CX : CXT} {j k : Nat} {f : Addr} {fd : FuncData} {ps : List Str} {sp : Sp} (F : FnG P w K mg base CX j f fd ps sp) (h : j ≤ k) :
    FnG P w K mg base CX k f fd ps sp := ⟨F.len, fun A outer s H args us vs Q E hg hr => F.run A outer s H args us vs Q E hg (hr.mono h)⟩
def FnD (P : Program) (w : World) (K : PySem.W.Frag) (mg : Str → Option Value) (base : Heap) (CX : CXT) (k : Nat) (f : Addr) (fd : FuncData) (ps : List Str) (F : List Va → M Va) : Prop :=
  FnG P w K mg base CX k f fd ps (spD K mg ps.length F)
theorem run_fnG {X : Cx} {CX : CXT} {k : Nat} {f : Addr} {fd : FuncData} {ps : List Str} {sp : Sp} {E : L2.St → XK} {pins : List (Addr × Obj)} {σ : L2.St} {H : Hp} {s : Shared} {Q : VK} {us : List Value} {vs : List V} (F : FnG X.prog X.w X.K X.mg X.base CX k f fd ps sp) (hgd : X.A.guards = some []) (hr : Room k X.A) (hb : Binds X.K fd ps []) (hx : PassesAt CX X σ (E σ))
    (I : L2.Inv X pins σ H s) (r : Vals vs us) (h : sp vs H Q (E σ)) : wpAny (model X.prog X.w) X.A (call (.ref f) us) (EP X pins σ Q) X.xe s := by
  have hl : us.length = ps.length := r.length.symm.trans (F.len _ _ _ _ h)
  have b : BindsTo s fd ⟨us, []⟩ (ps.zip us) := by
    have := hb s us I.kIn (by simpa using hl)
    simpa using this
  refine wpAny_call (codeAny_mono (F.run X.A X.stack s H ⟨us, []⟩ us vs Q (E σ) hgd hr I.env0 b r h) fun r s' hq => ?_)
  rcases r with e | fl
  · exact hx pins H s e s' I hq
  · cases fl with
    | ret u => exact I.after hq
    | _ => exact False.elim hq
theorem pe_callG {X : Cx} {CX : CXT} {k : Nat} {f : Addr} {fd : FuncData} {ps : List Str} {sp : Sp} {E : L2.St → XK} {x : Str} {p pos : Pos} {e : Expr} {es : List Expr} {t : TA} (F : FnG X.prog X.w X.K X.mg X.base CX k f fd ps sp) (hgd : X.A.guards = some []) (hr : Room k X.A) (hg : Gl X x) (hm : X.mg x = some (.ref f)) (hk : PySem.W.keepIn X.K (.ref f) = true) (hb : Binds X.K fd ps []) (hx : ∀ σ, PassesAt CX X σ (E σ))
    (ha : PA X (e :: es) t) (hdb : (x == ("__debug__" : Str)) = false := by decide) (he : starEach (e :: es) X.env = (false, eval e X.env) :: starEach es X.env := by rfl) (hpl : (backTo pos (starEach es X.env)).any (·.1) = false := by rfl) :
    PE X (.Call (.Name x p) (e :: es) [] pos) (tCallS sp E t) :=
  ⟨fun pins s σ H Q I h => wpAny_Call_Name_kw (ld_glob I hg hm (PySem.W.callWith_K (h₀ := X.base) I.ok.mod.kin hk
    (thn (ha.run pos pins s σ H _ I h) fun us s1 ⟨vs, H1, I1, r, q⟩ => ⟨I1.kIn, run_fnG F hgd hr hb (hx σ) I1 r q⟩) he hpl) hdb)⟩
/-- run with no cells -/
def alone {α : Type} (m : M α) : M α := fun S => match m [] with
  | .ok a [] => .ok a S
  | .exc x [] => .exc x S
  | _ => .stuck
def eCall (F : List Va → M Va) (fa : DFA) : DF := fun env => bnd (fa env) F
/-- an exception is not let out -/
def noX {α : Type} (m : M α) : M α := fun S => match m S with
  | .ok a S' => .ok a S'
  | _ => .stuck
theorem sat_noX {α : Type} {m : M α} {S : Sto} {P : α → Sto → Prop} {E E' : Ex → Sto → Prop} (h : (noX m S).sat P E) : (m S).sat P E' := by
  unfold noX at h
  cases e : m S with
  | ok a S' => rw [e] at h; exact h
  | exc x S' => rw [e] at h; exact h.elim
  | stuck => rw [e] at h; exact h
theorem sat_alone {α : Type} {m : M α} {S : Sto} {P : α → Sto → Prop} {E : Ex → Sto → Prop} (h : (alone m S).sat P E) : (m []).sat (fun a S' => S' = [] ∧ P a S) (fun x S' => S' = [] ∧ E x S) := by
  unfold alone at h
  cases e : m [] with
  | ok a S' =>
    rw [e] at h
    cases S' with
    | nil => exact ⟨rfl, h⟩
    | cons c t => exact h.elim
  | exc x S' =>
    rw [e] at h
    cases S' with
    | nil => exact ⟨rfl, h⟩
    | cons c t => exact h.elim
  | stuck => rw [e] at h; exact h
theorem sat_fl {α : Type} {fl : Bool} {m : M α} {S : Sto} {P : α → Sto → Prop} {E : Ex → Sto → Prop} (h : ((match fl with | true => m | false => noX m : M α) S).sat P E) : (m S).sat P (fun x S' => fl = true ∧ E x S') := by
  cases fl with
  | true => exact h.mono (fun _ _ q => q) fun _ _ q => ⟨rfl, q⟩
  | false => exact sat_noX h
def outG (W : Wd) (own : Nat → List Addr) : Addr → Prop := fun a => W.G a ∨ ∃ i, a ∈ own i
theorem mu_out {W : Wd} {φ : List Addr} {own : Nat → List Addr} {a : Addr} : Mu (outG W own) φ nob a ↔ Mu W.G φ own a := by
  unfold Mu outG nob
  constructor
  · rintro ((h | h) | h | ⟨_, h⟩)
    · exact .inl h
    · exact .inr (.inr h)
    · exact .inr (.inl h)
    · cases h
  · rintro (h | h | h)
    · exact .inl (.inl h)
    · exact .inr (.inl h)
    · exact .inl (.inr h)
theorem hz_congr {Mu Nu : Addr → Prop} {H : Hp} (h : ∀ a, Mu a ↔ Nu a) : hz Mu H = hz Nu H := by
  have : Mu = Nu := funext fun a => propext (h a)
  rw [this]
theorem mu_eq {W : Wd} {φ : List Addr} {own : Nat → List Addr} : Mu (outG W own) φ nob = Mu W.G φ own := funext fun _ => propext mu_out
theorem Rel.ent {K : PySem.W.Frag} {W : Wd} {φ : List Addr} {own : Nat → List Addr} {env : En} {S : Sto} {σ : L2.St} {H : Hp} (r : Rel K W φ own env S σ H) : Ent K (outG W own) φ S H :=
  ⟨r.ndφ, fun a h => h.elim (fun z => (r.gd a z).1) fun ⟨i, z⟩ => r.apart i a z, by rw [mu_eq]; exact r.mu, by rw [mu_eq]; exact r.cell⟩
/-- behind a call -/
theorem Rel.called {K : PySem.W.Frag} {W : Wd} {φ φ' : List Addr} {own : Nat → List Addr} {env : En} {S S' : Sto} {σ : L2.St} {H H' : Hp} (r : Rel K W φ own env S σ H) (k : Kp φ H φ' H') (e : Ent K (outG W own) φ' S' H') : Rel K W φ' own env S' σ H' where
  disj := r.disj
  apart := fun i a h z => e.gd a (.inr ⟨i, h⟩) z
  ndφ := e.nd
  gd := fun a h => ⟨e.gd a (.inl h), (r.gd a h).2⟩
  mu := by have := e.mu; rw [mu_eq] at this; exact this
  len := r.len
  slot := fun i sv h => by
    obtain ⟨u, h1, h2⟩ := r.slot i sv h
    refine ⟨u, h1, h2.ext (Kp.hz (fl := true) k) k.pre fun a ha => ?_⟩
    obtain ⟨o, ho⟩ := r.mu.get (.inr (.inr ⟨i, ha⟩))
    rw [ho, k.keep a o (r.apart i a ha) ho]
  cell := by have := e.cell; rw [mu_eq] at this; exact this
  base := r.base.trans k
  newF := r.newF
theorem mo_alone {fl : Bool} {G : Addr → Prop} {φ : List Addr} {own : Nat → List Addr} : Mu (Mo fl G φ own) [] nob = Mo fl G φ own := funext fun a => propext ⟨fun h => h.elim id fun h => h.elim (fun z => absurd z (by simp)) fun ⟨_, z⟩ => absurd z (by simp [nob]), .inl⟩
theorem Rel.entP {K : PySem.W.Frag} {W : Wd} {φ : List Addr} {own : Nat → List Addr} {env : En} {S : Sto} {σ : L2.St} {H : Hp} (r : Rel K W φ own env S σ H) (fl : Bool) : Ent K (Mo fl W.G φ own) [] [] H :=
  ⟨List.nodup_nil, fun _ _ => by simp, by rw [mo_alone]; exact r.muo fl, ⟨rfl, fun n c a h => by simp at h⟩⟩
theorem VRepAll.alone {K : PySem.W.Frag} {Nu : Addr → Prop} {φ : List Addr} {H : Hp} : ∀ {us : List V} {vs : List Va}, (∀ v ∈ vs, ∃ p, v = .d p) → VRepAll K Nu φ H us vs → VRepAll K Nu [] H us vs
  | _, _, _, .nil => .nil
  | _, v :: vs, h, .cons q t => .cons (by obtain ⟨p, rfl⟩ := h v List.mem_cons_self; exact q) (VRepAll.alone (fun v hv => h v (List.mem_cons_of_mem _ hv)) t)
def isD : Va → Bool
  | .d _ => true
  | _ => false
/-- a def that is called without cells -/
def eCallA (fl : Bool) (F : List Va → M Va) (fa : DFA) : DF := fun env => bnd (fa env) fun vs => if vs.all isD = true then bnd (alone (match fl with | true => F vs | false => noX (F vs))) (fun r => if isD r = true then ret r else no) else no
section
variable {C : Ct} {fl : Bool} {σ : L2.St} {H : Hp} {Q : VK}
theorem tI_call {n : Nat} {F : List Va → M Va} {fa : DFA} (hl : ∀ env S vs S', fa env S = .ok vs S' → vs.length = n) (h : tI C true (eCall F fa) σ H Q) : tIA C true fa σ H (fun vs H1 => spD C.K C.mg n F vs H1 Q (WE C.ew σ)) := by
  obtain ⟨W, φ, own, env, S, r0, h⟩ := h
  refine ⟨W, φ, own, env, S, r0, ?_⟩
  have h := sat_bnd.mp h
  cases e : fa env S with
  | ok vs S1 =>
    rw [e] at h
    intro φ1 H1 us r1 k1 v1
    refine ⟨by rw [v1.length]; exact hl _ _ _ _ e, outG W own, φ1, vs, S1, r1.ent, by rw [mu_eq]; exact v1, ?_⟩
    refine R.sat.mono h (fun r S2 q φ2 H2 u k2 e2 v2 => ?_) fun x S2 q φ2 H2 k2 e2 => ?_
    · rw [mu_eq] at v2
      exact q φ2 H2 u (r1.called k2 e2) (k1.trans k2) v2
    · rw [mu_eq]
      exact q φ2 H2 (r1.called k2 e2) (k1.trans k2)
  | exc x S1 => rw [e] at h; exact h
  | stuck => rw [e] at h; exact h
theorem tI_callA {n : Nat} {F : List Va → M Va} {fa : DFA} (hl : ∀ env S vs S', fa env S = .ok vs S' → vs.length = n) (h : tI C fl (eCallA fl F fa) σ H Q) : tIA C fl fa σ H (fun vs H1 => spD C.K C.mg n F vs H1 Q (WE C.ew σ)) := by
  obtain ⟨W, φ, own, env, S, r0, h⟩ := h
  refine ⟨W, φ, own, env, S, r0, ?_⟩
  have h := sat_bnd.mp h
  cases e : fa env S with
  | ok vs S1 =>
    rw [e] at h
    intro φ1 H1 us r1 k1 v1
    have h : ((if vs.all isD = true then bnd (alone (match fl with | true => F vs | false => noX (F vs))) (fun r => if isD r = true then ret r else no) else no) S1).sat _ _ := h
    by_cases hd : vs.all isD = true
    · rw [if_pos hd] at h
      have h := sat_alone (sat_bnd.mp h)
      have hd' : ∀ v ∈ vs, ∃ p, v = .d p := fun v hv => by
        have := List.all_eq_true.mp hd v hv
        cases v with
        | d p => exact ⟨p, rfl⟩
        | c n => cases this
        | s n => cases this
      refine ⟨by rw [v1.length]; exact hl _ _ _ _ e, Mo fl W.G φ1 own, [], vs, [], r1.entP fl, by rw [mo_alone]; exact v1.alone hd', ?_⟩
      have h2 := sat_fl h
      refine R.sat.mono h2 (fun r S2 q φ2 H2 u k2 e2 v2 => ?_) fun x S2 q φ2 H2 k2 e2 => ?_
      · obtain ⟨rfl, q⟩ := q
        have eφ : φ2 = [] := List.eq_nil_of_length_eq_zero e2.cell.1
        subst eφ
        rw [mo_alone] at v2
        have ee : Ext H1 H2 := fun a o ha => k2.keep a o (by simp) ha
        by_cases hr : isD r = true
        · rw [if_pos hr] at q
          refine q φ1 H2 u (r1.grow ee) (k1.trans (Kp.ext ee)) ?_
          cases r with
          | d p => exact v2
          | c n => cases hr
          | s n => cases hr
        · rw [if_neg hr] at q
          exact q.elim
      · obtain ⟨efl, rfl, q⟩ := q
        subst efl
        have eφ : φ2 = [] := List.eq_nil_of_length_eq_zero e2.cell.1
        subst eφ
        have ee : Ext H1 H2 := fun a o ha => k2.keep a o (by simp) ha
        have q := q φ1 H2 (r1.grow ee) (k1.trans (Kp.ext ee))
        rw [mo_alone]
        exact q
    · rw [if_neg hd] at h
      exact h.elim
  | exc x S1 => rw [e] at h; exact h
  | stuck => rw [e] at h; exact h
end
section
variable {X : Cx} {ew : WX} {fl : Bool} {CX : CXT} {k : Nat} {f : Addr} {fd : FuncData} {ps : List Str} {F : List Va → M Va} {x : Str} {e : Expr} {es : List Expr} {fs : DFA} {p pos : Pos}
theorem e_call (F' : FnD X.prog X.w X.K X.mg X.base CX k f fd ps F) (hgd : X.A.guards = some []) (hr : Room k X.A) (hg : Gl X x) (hm : X.mg x = some (.ref f)) (hk : PySem.W.keepIn X.K (.ref f) = true) (hb : Binds X.K fd ps []) (hx : ∀ σ, PassesAt CX X σ (WE ew σ))
    (ha : EA X ew true (e :: es) fs) (hl : ∀ env S vs S', fs env S = .ok vs S' → vs.length = ps.length) (hdb : (x == ("__debug__" : Str)) = false := by decide) (he : starEach (e :: es) X.env = (false, eval e X.env) :: starEach es X.env := by rfl) (hpl : (backTo pos (starEach es X.env)).any (·.1) = false := by rfl) :
    E X ew true (.Call (.Name x p) (e :: es) [] pos) (eCall F fs) :=
  pe_weak (pe_callG F' hgd hr hg hm hk hb hx ha hdb he hpl) fun _ _ _ h => tI_call hl h
theorem e_callA (F' : FnD X.prog X.w X.K X.mg X.base CX k f fd ps F) (hgd : X.A.guards = some []) (hr : Room k X.A) (hg : Gl X x) (hm : X.mg x = some (.ref f)) (hk : PySem.W.keepIn X.K (.ref f) = true) (hb : Binds X.K fd ps []) (hx : ∀ σ, PassesAt CX X σ (WE ew σ))
    (ha : EA X ew fl (e :: es) fs) (hl : ∀ env S vs S', fs env S = .ok vs S' → vs.length = ps.length) (hdb : (x == ("__debug__" : Str)) = false := by decide) (he : starEach (e :: es) X.env = (false, eval e X.env) :: starEach es X.env := by rfl) (hpl : (backTo pos (starEach es X.env)).any (·.1) = false := by rfl) :
    E X ew fl (.Call (.Name x p) (e :: es) [] pos) (eCallA fl F fs) :=
  pe_weak (pe_callG F' hgd hr hg hm hk hb hx ha hdb he hpl) fun _ _ _ h => tI_callA hl h
theorem aNil_len (env : En) (S : Sto) (vs : List Va) (S' : Sto) (h : aNil env S = .ok vs S') : vs.length = 0 := by
  cases h; rfl
theorem aCons_len {f : DF} {fs : DFA} {n : Nat} (hf : ∀ env S vs S', fs env S = .ok vs S' → vs.length = n) (env : En) (S : Sto) (vs : List Va) (S' : Sto) (h : aCons f fs env S = .ok vs S') : vs.length = n + 1 := by
  unfold aCons bnd at h
  cases e1 : f env S with
  | ok v S1 =>
    rw [e1] at h
    dsimp only at h
    cases e2 : fs env S1 with
    | ok ws S2 => rw [e2] at h; cases h; rw [List.length_cons, hf _ _ _ _ e2]
    | exc x S2 => rw [e2] at h; cases h
    | stuck => rw [e2] at h; cases h
  | exc x S1 => rw [e1] at h; cases h
  | stuck => rw [e1] at h; cases h
theorem pe_callG0 {E : L2.St → XK} {sp : Sp} (F : FnG X.prog X.w X.K X.mg X.base CX k f fd ps sp) (hgd : X.A.guards = some []) (hr : Room k X.A) (hg : Gl X x) (hm : X.mg x = some (.ref f)) (hk : PySem.W.keepIn X.K (.ref f) = true) (hb : Binds X.K fd ps []) (hx : ∀ σ, PassesAt CX X σ (E σ))
    (hdb : (x == ("__debug__" : Str)) = false := by decide) : PE X (.Call (.Name x p) [] [] pos) (tCallS sp E tNil) :=
  ⟨fun pins s σ H Q I h => wpAny_Call_Name_kw (ld_glob I hg hm (PySem.W.callWith_K0 I.kIn hk (run_fnG (us := []) F hgd hr hb (hx σ) I .nil h)) hdb)⟩
theorem e_call0 (F' : FnD X.prog X.w X.K X.mg X.base CX k f fd [] F) (hgd : X.A.guards = some []) (hr : Room k X.A) (hg : Gl X x) (hm : X.mg x = some (.ref f)) (hk : PySem.W.keepIn X.K (.ref f) = true) (hb : Binds X.K fd [] []) (hx : ∀ σ, PassesAt CX X σ (WE ew σ))
    (hdb : (x == ("__debug__" : Str)) = false := by decide) : E X ew fl (.Call (.Name x p) [] [] pos) (eCallA fl F aNil) :=
  pe_weak (pe_callG0 F' hgd hr hg hm hk hb hx hdb) fun _ _ _ h => tIA_nil (tI_callA (n := 0) aNil_len h)
end
/-! ### displays -/
def toDs : List Va → Option (List PyData)
  | [] => some []
  | .d p :: r => (toDs r).map (p :: ·)
  | .c _ :: _ => none
  | .s _ :: _ => none
theorem toDs_rep {K : PySem.W.Frag} {Nu : Addr → Prop} {φ : List Addr} {H : Hp} : ∀ {us : List V} {vs : List Va} {ps : List PyData}, VRepAll K Nu φ H us vs → toDs vs = some ps → RepAll K (hz Nu H) us ps
  | _, _, _, .nil, e => by cases e; exact .nil
  | _, .d p :: vs, ps, .cons h t, e => by
    obtain ⟨qs, e1, e2⟩ := Option.map_eq_some_iff.mp e
    subst e2
    exact .cons h (toDs_rep t e1)
  | _, .c n :: _, _, .cons _ _, e => by cases e
  | _, .s n :: _, _, .cons _ _, e => by cases e
def gTupD (vs : List Va) : Option Va := (toDs vs).bind fun ps => if ps.length ≤ sizeLine then some (.d (.tuple ps)) else none
def gLstD (vs : List Va) : Option Va := (toDs vs).bind fun ps => if ps.length ≤ sizeLine then some (.d (.list ps)) else none
theorem rep_new {K : PySem.W.Frag} {Nu : Addr → Prop} {H : Hp} {p : Addr} {o : HO} (m : MuOk Nu H) (h : H p = none) : Ext (hz Nu H) (hz Nu (upd H p o)) ∧ hz Nu (upd H p o) p = some o := by
  refine ⟨hz_ext (Ext.upd h), hz_of upd_same fun z => ?_⟩
  have := (m p z).1
  rw [h] at this; cases this
theorem pure_tup {K : PySem.W.Frag} : PureN K (fun xs H1 Q => xs.length ≤ sizeLine ∧ ∀ p, H1 p = none → Q (.ref p) (upd H1 p (.tup xs))) gTupD := by
  intro Nu φ H us vs w Q m hv hg hq
  obtain ⟨ps, e1, e2⟩ := Option.bind_eq_some_iff.mp hg
  have hr := toDs_rep hv e1
  by_cases hl : ps.length ≤ sizeLine
  · rw [if_pos hl] at e2
    cases e2
    refine ⟨by rw [hr.length]; exact hl, fun p hp => hq _ _ (Ext.upd hp) ?_⟩
    obtain ⟨n1, n2⟩ := rep_new (K := K) (o := .tup us) m hp
    exact .tup n2 hl (hr.ext n1)
  · rw [if_neg hl] at e2; cases e2
theorem pure_lst {K : PySem.W.Frag} : PureN K (fun xs H1 Q => xs.length ≤ sizeLine ∧ ∀ p, H1 p = none → Q (.ref p) (upd H1 p (.lst xs))) gLstD := by
  intro Nu φ H us vs w Q m hv hg hq
  obtain ⟨ps, e1, e2⟩ := Option.bind_eq_some_iff.mp hg
  have hr := toDs_rep hv e1
  by_cases hl : ps.length ≤ sizeLine
  · rw [if_pos hl] at e2
    cases e2
    refine ⟨by rw [hr.length]; exact hl, fun p hp => hq _ _ (Ext.upd hp) ?_⟩
    obtain ⟨n1, n2⟩ := rep_new (K := K) (o := .lst us) m hp
    exact .lst n2 hl (hr.ext n1)
  · rw [if_neg hl] at e2; cases e2
section
variable {X : Cx} {ew : WX} {fl : Bool} {es : List Expr} {fs : DFA} {pos : Pos}
theorem e_tup {x1} (h : EA X ew fl es fs) : E X ew fl (.Tuple es x1 pos) (cN gTupD fs) := pe_weak (pe_tup h) fun _ _ _ q => tI_cN pure_tup q
theorem e_lst (h : EA X ew fl es fs) : E X ew fl (.List es pos) (cN gLstD fs) := pe_weak (pe_lst h) fun _ _ _ q => tI_cN pure_lst q
end
end KP


set_option Elab.async false
set_option linter.all false
set_option maxRecDepth 100000
/-! KG: statements, targets, for, while, the body of a def. -/
namespace KP
open PySem PySem.Spec PyProof.Rows L2
inductive Fl where
  | nx | bk | ct
  | rt (v : Va)
  | xc (x : Ex)
abbrev SF := En → M (Fl × En)
def lift {α : Type} (env : En) (m : M α) (k : α → M (Fl × En)) : M (Fl × En) := fun S => match m S with
  | .ok a S' => k a S'
  | .exc x S' => .ok (.xc x, env) S'
  | .stuck => .stuck
theorem sat_lift {α : Type} {env : En} {m : M α} {k : α → M (Fl × En)} {S : Sto} {P : Fl × En → Sto → Prop} {E : Ex → Sto → Prop} : (lift env m k S).sat P E ↔ (m S).sat (fun a S' => (k a S').sat P E) (fun x S' => P (.xc x, env) S') := by
  unfold lift
  cases m S <;> exact Iff.rfl
def Post (C : Ct) (D : Ends) (W : Wd) (p : Fl × En) (S' : Sto) : Prop := match p.1 with
  | .nx => ∀ φ' own' σ' H', Rel C.K W φ' own' p.2 S' σ' H' → D.nx σ' H'
  | .bk => ∀ φ' own' σ' H', Rel C.K W φ' own' p.2 S' σ' H' → D.bk σ' H'
  | .ct => ∀ φ' own' σ' H', Rel C.K W φ' own' p.2 S' σ' H' → D.ct σ' H'
  | .rt v => ∀ φ' own' σ' H' u, Rel C.K W φ' own' p.2 S' σ' H' → VRep C.K (Mu W.G φ' nob) φ' H' u v → D.rt u H'
  | .xc x => ∀ φ' own' σ' H', Rel C.K W φ' own' p.2 S' σ' H' → XWish C (Mu W.G φ' own') σ' H' x
def tS (C : Ct) (f : SF) : TS := fun D σ H => ∃ W φ own env S, Rel C.K W φ own env S σ H ∧ (f env S).sat (Post C D W) (fun _ _ => False)
def ES (X : Cx) (ew : WX) (st : Stmt) (f : SF) : Prop := PS X st (tS ⟨X.K, X.mg, ew⟩ f)
def ESs (X : Cx) (ew : WX) (st : List Stmt) (f : SF) : Prop := PSs X st (tS ⟨X.K, X.mg, ew⟩ f)

def sNil : SF := fun env => ret (.nx, env)
def sSeq (f g : SF) : SF := fun env => bnd (f env) fun p => match p.1 with
  | .nx => g p.2
  | _ => ret p
def sNo : SF := fun _ => no
def sExpr (f : DF) : SF := fun env => lift env (f env) fun _ => ret (.nx, env)
def sRet (f : DF) : SF := fun env => lift env (f env) fun v => ret (.rt v, env)
def sRetN : SF := fun env => ret (.rt (.d .none), env)
def sIf (c : DB) (f g : SF) : SF := fun env => lift env (c env) fun b => if b = true then f env else g env
section
variable {C : Ct} {σ : L2.St} {H : Hp} {D : Ends}
theorem tS_nil (h : tS C sNil D σ H) : D.nx σ H := by
  obtain ⟨W, φ, own, env, S, r, h⟩ := h
  exact h φ own σ H r
theorem tS_no {P : Prop} (h : tS C sNo D σ H) : P := by
  obtain ⟨W, φ, own, env, S, r, h⟩ := h
  exact h.elim
theorem tS_seq {f g : SF} (h : tS C (sSeq f g) D σ H) : tS C f { D with nx := tS C g D } σ H := by
  obtain ⟨W, φ, own, env, S, r, h⟩ := h
  refine ⟨W, φ, own, env, S, r, (sat_bnd.mp h).mono (fun p S1 q => ?_) fun _ _ q => q⟩
  obtain ⟨fl, env'⟩ := p
  cases fl with
  | nx => exact fun φ' own' σ' H' r' => ⟨W, φ', own', env', S1, r', q⟩
  | bk => exact q
  | ct => exact q
  | rt v => exact q
  | xc x => exact q
theorem tS_expr {f : DF} {fl : Bool} (h : tS C (sExpr f) D σ H) : tI C fl f σ H (fun _ H1 => D.nx σ H1) := by
  obtain ⟨W, φ, own, env, S, r, h⟩ := h
  refine ⟨W, φ, own, env, S, r, (sat_lift.mp h).mono (fun v S1 q φ1 H1 u r1 k1 v1 => q φ1 own σ H1 r1) fun x S1 q φ1 H1 r1 k1 => q φ1 own σ H1 r1⟩
theorem tS_ret {f : DF} (h : tS C (sRet f) D σ H) : tI C true f σ H D.rt := by
  obtain ⟨W, φ, own, env, S, r, h⟩ := h
  refine ⟨W, φ, own, env, S, r, (sat_lift.mp h).mono (fun v S1 q φ1 H1 u r1 k1 v1 => q φ1 own σ H1 u r1 ?_) fun x S1 q φ1 H1 r1 k1 => q φ1 own σ H1 r1⟩
  exact v1.less fun a z => z.elim .inl fun z => z.elim (fun z => .inr (.inl z)) fun ⟨_, z⟩ => absurd z (by simp [nob])
theorem tS_retN (h : tS C sRetN D σ H) : D.rt .non H := by
  obtain ⟨W, φ, own, env, S, r, h⟩ := h
  exact h φ own σ H .non r .non
theorem tS_if {c : DB} {f g : SF} (h : tS C (sIf c f g) D σ H) : tIfS (tIB C c) (tS C f) (tS C g) D σ H := by
  obtain ⟨W, φ, own, env, S, r, h⟩ := h
  refine ⟨W, φ, own, env, S, r, (sat_lift.mp h).mono (fun v S1 q φ1 H1 r1 k1 => ?_) fun x S1 q φ1 H1 r1 k1 => q φ1 own σ H1 r1⟩
  cases v with
  | true =>
    rw [if_pos rfl] at q ⊢
    exact ⟨W, φ1, own, env, S1, r1, q⟩
  | false =>
    rw [if_neg Bool.false_ne_true] at q ⊢
    exact ⟨W, φ1, own, env, S1, r1, q⟩
end
section
variable {X : Cx} {ew : WX} {fl : Bool} {e a b : Expr} {st : Stmt} {ss p q : List Stmt} {f : DF} {g g' : SF} {c : DB} {pos : Pos}
theorem es_nil : ESs X ew [] sNil := pss_weak pss_nil fun _ _ _ h => tS_nil h
theorem es_cons (h : ES X ew st g) (t : ESs X ew ss g') : ESs X ew (st :: ss) (sSeq g g') := pss_weak (pss_cons h t) fun _ _ _ h => tS_seq h
theorem es_one (h : ES X ew st g) : ESs X ew [st] g := pss_one h
theorem es_expr (h : E X ew fl e f) (hs : swapsWith e none pos.line X.env = pure false := by rfl) : ES X ew (.Expr e pos) (sExpr f) := ps_weak (ps_expr h hs) fun _ _ _ q => tS_expr q
theorem es_ret (h : E X ew true e f) : ES X ew (.Return (some e) pos) (sRet f) := ps_weak (ps_ret h) fun _ _ _ q => tS_ret q
theorem es_if (hc : EB X ew e c) (ha : ESs X ew p g) (hb : ESs X ew q g') : ES X ew (.If e p q pos) (sIf c g g') := ps_weak (ps_if hc ha hb) fun _ _ _ h => tS_if h
theorem es_no : ES X ew st sNo := ⟨fun _ _ _ _ _ _ h => tS_no h⟩
theorem ess_no : ESs X ew ss sNo := ⟨fun _ _ _ _ _ _ h => tS_no h⟩
end

/-! ### the slots -/
def clr (own : Nat → List Addr) (i : Nat) (F : List Addr) : Nat → List Addr := fun j => if j = i then F else own j
theorem clr_at {own : Nat → List Addr} {i : Nat} {F : List Addr} : clr own i F i = F := if_pos rfl
theorem clr_ne {own : Nat → List Addr} {i j : Nat} {F : List Addr} (h : j ≠ i) : clr own i F j = own j := if_neg h
theorem mu_clr {G : Addr → Prop} {φ : List Addr} {own : Nat → List Addr} {i : Nat} {F : List Addr} {a : Addr} (h : Mu G φ (clr own i F) a) : Mu G φ own a ∨ a ∈ F := by
  rcases h with h | h | ⟨j, h⟩
  · exact .inl (.inl h)
  · exact .inl (.inr (.inl h))
  · by_cases e : j = i
    · subst e; rw [clr_at] at h; exact .inr h
    · rw [clr_ne e] at h; exact .inl (.inr (.inr ⟨j, h⟩))
/-- a slot is set: sv with its own addresses F, which stand and are no one else's -/
theorem Rel.set {K : PySem.W.Frag} {W : Wd} {φ : List Addr} {own : Nat → List Addr} {env : En} {S : Sto} {σ : L2.St} {H : Hp} (r : Rel K W φ own env S σ H) {i : Nat} (hi : i < env.length) {u : V} {sv : Sv} {F : List Addr}
    (hF : ∀ a ∈ F, ¬ Mu W.G φ (clr own i []) a ∧ (H a).isSome = true ∧ (∀ xs, H a ≠ some (.tup xs)) ∧ (∀ o x, H a ≠ some (.frz o x)) ∧ W.H0 a = none)
    (frame : ∀ j sv, j ≠ i → env[j]? = some (some sv) → ∃ u, σ[j]? = some (some u) ∧ SlotR K (hz (Mu W.G φ (clr own i F)) H) φ H u (own j) sv)
    (cells : CellsR K (hz (Mu W.G φ (clr own i F)) H) φ S H)
    (hs : SlotR K (hz (Mu W.G φ (clr own i F)) H) φ H u F sv) : Rel K W φ (clr own i F) (env.set i (some sv)) S (σ.set i (some u)) H where
  disj := fun j k a hj hk => by
    by_cases e1 : j = i
    · by_cases e2 : k = i
      · rw [e1, e2]
      · subst e1
        rw [clr_at] at hj
        rw [clr_ne e2] at hk
        exact absurd (.inr (.inr ⟨k, by rw [clr_ne e2]; exact hk⟩)) (hF a hj).1
    · by_cases e2 : k = i
      · subst e2
        rw [clr_at] at hk
        rw [clr_ne e1] at hj
        exact absurd (.inr (.inr ⟨j, by rw [clr_ne e1]; exact hj⟩)) (hF a hk).1
      · rw [clr_ne e1] at hj
        rw [clr_ne e2] at hk
        exact r.disj j k a hj hk
  apart := fun j a h z => by
    by_cases e : j = i
    · subst e; rw [clr_at] at h; exact (hF a h).1 (.inr (.inl z))
    · rw [clr_ne e] at h; exact r.apart j a h z
  ndφ := r.ndφ
  gd := fun a h => ⟨(r.gd a h).1, fun j hj => by
    by_cases e : j = i
    · subst e; rw [clr_at] at hj; exact (hF a hj).1 (.inl h)
    · rw [clr_ne e] at hj; exact (r.gd a h).2 j hj⟩
  mu := fun a h => (mu_clr h).elim (fun z => r.mu a z) fun z => ⟨(hF a z).2.1, (hF a z).2.2.1, (hF a z).2.2.2.1⟩
  len := by rw [List.length_set, List.length_set]; exact r.len
  slot := fun j sv' h => by
    by_cases e : j = i
    · subst e
      rw [List.getElem?_set_self hi] at h
      cases h
      exact ⟨u, by rw [List.getElem?_set_self (by rw [r.len]; exact hi)], by rw [clr_at]; exact hs⟩
    · rw [List.getElem?_set_ne (Ne.symm e)] at h
      obtain ⟨u', h1, h2⟩ := frame j sv' e h
      refine ⟨u', by rw [List.getElem?_set_ne (Ne.symm e)]; exact h1, ?_⟩
      rw [clr_ne e]
      exact h2
  cell := cells
  base := r.base
  newF := fun j a h => by
    by_cases e : j = i
    · subst e; rw [clr_at] at h; exact (hF a h).2.2.2.2
    · rw [clr_ne e] at h; exact r.newF j a h
/-- data that stay, or a cell, into a slot -/
theorem Rel.setD {K : PySem.W.Frag} {W : Wd} {φ : List Addr} {own : Nat → List Addr} {env : En} {S : Sto} {σ : L2.St} {H : Hp} (r : Rel K W φ own env S σ H) {i : Nat} (hi : i < env.length) {u : V} {sv : Sv}
    (hs : SlotR K (hz (Mu W.G φ own) H) φ H u [] sv) : Rel K W φ (clr own i []) (env.set i (some sv)) S (σ.set i (some u)) H := by
  have sub : Ext (hz (Mu W.G φ own) H) (hz (Mu W.G φ (clr own i [])) H) := hz_anti fun a _ _ h => (mu_clr h).elim id fun z => absurd z (by simp)
  refine r.set hi (fun a h => absurd h (by simp)) (fun j sv _ h => (r.slot j sv h).imp fun u q => ⟨q.1, q.2.ext sub (List.prefix_refl _) fun _ _ => rfl⟩) ⟨r.cell.1, fun n c a h1 h2 => (r.cell.2 n c a h1 h2).ext sub rfl⟩ (hs.ext sub (List.prefix_refl _) fun _ _ => rfl)
/-! ### targets -/
def svOf : Va → Sv
  | .d p => .d p
  | .c n => .c n
  | .s n => .s n
abbrev TF := Va → En → Option En
def gN (i : Nat) : TF := fun v env => if i < env.length then some (env.set i (some (svOf v))) else none
def gTs : List TF → List PyData → En → Option En
  | [], [], env => some env
  | t :: ts, p :: ps, env => (t (.d p) env).bind fun env' => gTs ts ps env'
  | _, _, _ => none
def gT (ts : List TF) : TF := fun v env => match v with
  | .d (.tuple ps) => gTs ts ps env
  | _ => none
/-- the slots outside ts are as they were -/
def Offs (ts : List Nat) (own own' : Nat → List Addr) (σ σ' : L2.St) : Prop := (∀ vs, (∀ i ∈ ts, i ∈ vs) → wipe σ' vs = wipe σ vs) ∧ ∀ i a, a ∈ own i → i ∈ ts ∨ a ∈ own' i
theorem wipe_set {σ : L2.St} {i : Nat} {x : Option V} : ∀ {vs : List Nat}, i ∈ vs → wipe (σ.set i x) vs = wipe σ vs
  | [], h => absurd h (by simp)
  | v :: vs, h => by
    by_cases e : i ∈ vs
    · unfold wipe; rw [wipe_set e]
    · have e2 : i = v := (List.mem_cons.mp h).elim id fun z => absurd z e
      subst e2
      have key : ∀ ws : List Nat, i ∉ ws → wipe (σ.set i x) ws = (wipe σ ws).set i x := fun ws => by
        induction ws with
        | nil => exact fun _ => rfl
        | cons w ws ih =>
          intro hw
          unfold wipe
          rw [ih fun z => hw (List.mem_cons_of_mem _ z), List.set_comm]
          exact fun z => hw (by rw [z]; exact List.mem_cons_self)
      unfold wipe
      rw [key vs e, List.set_set]
def tG (C : Ct) (ts : List Nat) (t : TF) : TG := fun u σ H Q => ∃ W φ own env S v, Rel C.K W φ own env S σ H ∧ VRep C.K (Mu W.G φ own) φ H u v ∧ ∃ env', t v env = some env' ∧ ∀ own' σ', Rel C.K W φ own' env' S σ' H → (∀ a, Mu W.G φ own' a → Mu W.G φ own a) → Offs ts own own' σ σ' → Q σ' H
def tGs (C : Ct) (us : List Nat) (ts : List TF) : TGs := fun vs σ H Q => ∃ W φ own env S ps, Rel C.K W φ own env S σ H ∧ RepAll C.K (hz (Mu W.G φ own) H) vs ps ∧ ∃ env', gTs ts ps env = some env' ∧ ∀ own' σ', Rel C.K W φ own' env' S σ' H → (∀ a, Mu W.G φ own' a → Mu W.G φ own a) → Offs us own own' σ σ' → Q σ' H
def EG (X : Cx) (ew : WX) (tg : Expr) (us : List Nat) (t : TF) : Prop := PG X tg (tG ⟨X.K, X.mg, ew⟩ us t)
def EGs (X : Cx) (ew : WX) (tg : List Expr) (us : List Nat) (t : List TF) : Prop := PGs X tg (tGs ⟨X.K, X.mg, ew⟩ us t)
theorem pg_weak {X : Cx} {e : Expr} {t t' : TG} (h : PG X e t) (i : ∀ v σ H Q, t' v σ H Q → t v σ H Q) : PG X e t' := ⟨fun pins s σ H x u Q I r q => h.run pins s σ H x u Q I r (i _ _ _ _ q)⟩
theorem pgs_weak {X : Cx} {e : List Expr} {t t' : TGs} (h : PGs X e t) (i : ∀ v σ H Q, t' v σ H Q → t v σ H Q) : PGs X e t' := ⟨fun pins s σ H x u Q I r q => h.run pins s σ H x u Q I r (i _ _ _ _ q)⟩
section
variable {C : Ct} {σ : L2.St} {H : Hp} {Q : L2.St → Hp → Prop} {u : V}
theorem tG_name {i : Nat} (h : tG C [i] (gN i) u σ H Q) : gName i u σ H Q := by
  obtain ⟨W, φ, own, env, S, v, r, hv, env', e, h⟩ := h
  unfold gN at e
  by_cases hi : i < env.length
  · rw [if_pos hi] at e
    cases e
    refine h _ _ (r.setD hi ?_) (fun a z => (mu_clr z).elim id fun z => absurd z (by simp)) ⟨fun vs hv => wipe_set (hv i (by simp)), fun j a ha => (Decidable.em (j = i)).elim (fun z => .inl (by rw [z]; simp)) fun z => .inr (by rw [clr_ne z]; exact ha)⟩
    cases v with
    | d p => exact ⟨hv, rfl⟩
    | c n => obtain ⟨a, h1, h2⟩ := hv; exact ⟨a, h1, h2, rfl⟩
    | s n => exact ⟨hv, rfl⟩
  · rw [if_neg hi] at e; cases e
theorem tGs_nil {us : List V} (h : tGs C [] [] us σ H Q) : gNil us σ H Q := by
  obtain ⟨W, φ, own, env, S, ps, r, hv, env', e, h⟩ := h
  cases hv with
  | nil => cases e; exact ⟨rfl, h own σ r (fun _ z => z) ⟨fun _ _ => rfl, fun i a h => .inr h⟩⟩
  | cons _ _ => cases e
theorem tGs_cons {t : TF} {ts : List TF} {us : List V} {is js : List Nat} (h : tGs C (is ++ js) (t :: ts) us σ H Q) : gCons (tG C is t) (tGs C js ts) us σ H Q := by
  obtain ⟨W, φ, own, env, S, ps, r, hv, env', e, h⟩ := h
  cases hv with
  | nil => cases e
  | cons h1 h2 =>
    obtain ⟨env1, e1, e2⟩ := Option.bind_eq_some_iff.mp e
    refine ⟨_, _, rfl, W, φ, own, env, S, .d _, r, h1, env1, e1, fun own1 σ1 r1 k1 o1 => ?_⟩
    exact ⟨W, φ, own1, env1, S, _, r1, h2.ext (hz_anti fun a _ _ z => k1 a z), env', e2, fun own2 σ2 r2 k2 o2 => h own2 σ2 r2 (fun a z => k1 a (k2 a z)) ⟨fun vs hv => (o2.1 vs fun i hi => hv i (List.mem_append_right _ hi)).trans (o1.1 vs fun i hi => hv i (List.mem_append_left _ hi)), fun i a h => (o1.2 i a h).elim (fun z => .inl (List.mem_append_left _ z)) fun z => (o2.2 i a z).elim (fun z => .inl (List.mem_append_right _ z)) .inr⟩⟩
theorem gTs_len : ∀ {ts : List TF} {ps : List PyData} {env env' : En}, gTs ts ps env = some env' → ps.length = ts.length
  | [], [], _, _, _ => rfl
  | t :: ts, p :: ps, env, env', h => by
    obtain ⟨env1, e1, e2⟩ := Option.bind_eq_some_iff.mp h
    rw [List.length_cons, List.length_cons, gTs_len e2]
  | [], _ :: _, _, _, h => by cases h
  | _ :: _, [], _, _, h => by cases h
theorem tG_tup {ts : List TF} {is : List Nat} (h : tG C is (gT ts) u σ H Q) : gTup C.K ts.length (tGs C is ts) u σ H Q := by
  obtain ⟨W, φ, own, env, S, v, r, hv, env', e, h⟩ := h
  unfold gT at e
  split at e
  · rename_i ps
    cases hv with
    | tup hs hl ha =>
      exact ⟨_, _, rfl, SqT.of (hz_sub _ _ hs), by rw [ha.length, gTs_len e], W, φ, own, env, S, ps, r, ha, env', e, h⟩
  · cases e
end
section
variable {X : Cx} {ew : WX} {x : Str} {pos : Pos} {i : Nat} {e : Expr} {es : List Expr} {t : TF} {ts : List TF} {is js : List Nat}
theorem eg_name (hN : X.N.Nodup) (hx : X.N[i]? = some x) (hl : Loc X.env.scope x) (hf : X.fn x = true ∨ X.env.scope.names.lookup x = some .local := by first | exact .inl rfl | exact .inr rfl | assumption) : EG X ew (.Name x pos) [i] (gN i) := pg_weak (pg_name hN hx hl hf) fun _ _ _ _ q => tG_name q
theorem egs_nil : EGs X ew [] [] [] := pgs_weak pgs_nil fun _ _ _ _ q => tGs_nil q
theorem egs_cons (h : EG X ew e is t) (h' : EGs X ew es js ts) (hs : (assignEach (e :: es) X.env).map (·.2) = assign e X.env :: (assignEach es X.env).map (·.2) := by rfl) : EGs X ew (e :: es) (is ++ js) (t :: ts) := pgs_weak (pgs_cons h h' hs) fun _ _ _ _ q => tGs_cons q
theorem eg_tup {k : Nat} (hc : X.calm = true) (h : EGs X ew es is ts) (hn : (assignEach es X.env).length = ts.length := by rfl) (hst : (assignEach es X.env).findIdx? (·.1) = none := by rfl) : EG X ew (.Tuple es k pos) is (gT ts) :=
  pg_weak (pg_tup hc h hn hst) fun _ _ _ _ q => tG_tup q
end
end KP


set_option Elab.async false
set_option linter.all false
set_option maxRecDepth 100000
/-! KH: plain assignment, what is walked, for, while, the body of a def. -/
namespace KP
open PySem PySem.Spec PyProof.Rows L2
def sAsg (f : DF) (t : TF) : SF := fun env => lift env (f env) fun v => bnd (ofO (t v env)) fun env' => ret (.nx, env')
theorem tS_asg {C : Ct} {σ : L2.St} {H : Hp} {D : Ends} {f : DF} {t : TF} {is : List Nat} (h : tS C (sAsg f t) D σ H) : tAsg (tI C true f) (tG C is t) D σ H := by
  obtain ⟨W, φ, own, env, S, r, h⟩ := h
  refine ⟨W, φ, own, env, S, r, (sat_lift.mp h).mono (fun v S1 q φ1 H1 u r1 k1 v1 => ?_) fun x S1 q φ1 H1 r1 k1 => q φ1 own σ H1 r1⟩
  obtain ⟨env', e, q⟩ := sat_ofO.mp (sat_bnd.mp q)
  exact ⟨W, φ1, own, env, S1, v, r1, v1, env', e, fun own' σ' r' _ _ => q φ1 own' σ' H1 r'⟩
section
variable {X : Cx} {ew : WX} {e tg : Expr} {f : DF} {t : TF} {pos pos' : Pos} {i : Nat} {x : Str} {is : List Nat}
theorem es_asg (h : E X ew true e f) (hg : EG X ew tg is t) (hs : swapsWithSole [tg] e pos.line X.env = pure false := by rfl) (hw : swappedStores [tg] e X.env = pure none := by rfl)
    (h1 : (assignEach [tg] X.env).map (·.2) = [assign tg X.env] := by rfl) : ES X ew (.Assign [tg] e pos) (sAsg f t) := ps_weak (ps_asg h hg hs hw h1) fun _ _ _ q => tS_asg q
theorem es_set (hN : X.N.Nodup) (hi : X.N[i]? = some x) (hx : Loc X.env.scope x) (he : E X ew true e f) (hs : swapsWith e (some (.Name x pos')) pos.line X.env = pure false := by rfl) (hf : X.fn x = true ∨ X.env.scope.names.lookup x = some .local := by first | exact .inl rfl | exact .inr rfl | assumption) :
    ES X ew (.Assign [.Name x pos'] e pos) (sAsg f (gN i)) := ps_weak (ps_set hN hi hx he hs hf) fun _ _ _ q => by
      obtain ⟨W, φ, own, env, S, r, q⟩ := tS_asg q
      exact ⟨W, φ, own, env, S, r, q.mono (fun v S1 q φ1 H1 u r1 k1 v1 => tG_name (q φ1 H1 u r1 k1 v1)) fun _ _ q => q⟩
end

/-! ### another ground -/
/-- the heap without what is owned now -/
noncomputable def low (own : Nat → List Addr) (H : Hp) : Hp := hz (fun a => ∃ i, a ∈ own i) H
section
variable {K : PySem.W.Frag} {W : Wd} {φ φ' : List Addr} {own own' : Nat → List Addr} {env env' : En} {S S' : Sto} {σ σ' : L2.St} {H H' : Hp}
theorem Rel.rebase (r : Rel K W φ own env S σ H) : Rel K ⟨W.G, low own H, φ⟩ φ own env S σ H where
  disj := r.disj
  apart := r.apart
  ndφ := r.ndφ
  gd := r.gd
  mu := r.mu
  len := r.len
  slot := r.slot
  cell := r.cell
  base := ⟨List.prefix_refl _, fun a o _ h => (hz_some.mp (show hz (fun a => ∃ i, a ∈ own i) H a = some o from h)).2, fun a h n => absurd h n⟩
  newF := fun i a h => by
    show low own H a = none
    unfold low hz
    exact if_pos ⟨i, h⟩
theorem Rel.unbase (r : Rel K W φ own env S σ H) (q : Rel K ⟨W.G, low own H, φ⟩ φ' own' env' S' σ' H') : Rel K W φ' own' env' S' σ' H' where
  disj := q.disj
  apart := q.apart
  ndφ := q.ndφ
  gd := q.gd
  mu := q.mu
  len := q.len
  slot := q.slot
  cell := q.cell
  base := by
    have kk : ∀ a o, a ∉ W.φ0 → W.H0 a = some o → low own H a = some o ∧ a ∉ φ := fun a o n h => by
      refine ⟨hz_of (r.base.keep a o n h) fun ⟨i, z⟩ => ?_, fun z => ?_⟩
      · have := r.newF i a z
        rw [h] at this; cases this
      · have := r.base.new a z n
        rw [h] at this; cases this
    refine ⟨r.base.pre.trans q.base.pre, fun a o n h => ?_, fun a z n => ?_⟩
    · obtain ⟨h1, h2⟩ := kk a o n h
      exact q.base.keep a o h2 h1
    · cases e : W.H0 a with
      | none => rfl
      | some o =>
        obtain ⟨h1, h2⟩ := kk a o n e
        have := q.base.new a z h2
        rw [show (⟨W.G, low own H, φ⟩ : Wd).H0 a = low own H a from rfl, h1] at this; cases this
  newF := fun i a z => by
    cases e : W.H0 a with
    | none => rfl
    | some o =>
      by_cases n : a ∈ W.φ0
      · exact absurd (q.base.pre.subset (r.base.pre.subset n)) (q.apart i a z)
      · have h1 := r.base.keep a o n e
        have h2 : low own H a = some o := hz_of h1 fun ⟨j, y⟩ => by
          have := r.newF j a y
          rw [e] at this; cases this
        have := q.newF i a z
        rw [show (⟨W.G, low own H, φ⟩ : Wd).H0 a = low own H a from rfl, h2] at this; cases this
/-- what stayed at the start of a loop stays -/
theorem Rel.still (r : Rel K W φ own env S σ H) (q : Rel K ⟨W.G, low own H, φ⟩ φ' own' env' S' σ' H') : Ext (hz (Mu W.G φ own) H) (hz (Mu W.G φ' own') H') := fun a o h => by
  obtain ⟨n, h⟩ := hz_some.mp h
  have hl : low own H a = some o := hz_of h fun z => n (.inr (.inr z))
  have na : a ∉ φ := fun z => n (.inr (.inl z))
  refine hz_of (q.base.keep a o na hl) fun z => ?_
  rcases z with z | z | ⟨i, z⟩
  · exact n (.inl z)
  · have := q.base.new a z na
    rw [show (⟨W.G, low own H, φ⟩ : Wd).H0 a = low own H a from rfl, hl] at this; cases this
  · have := q.newF i a z
    rw [show (⟨W.G, low own H, φ⟩ : Wd).H0 a = low own H a from rfl, hl] at this; cases this
end

/-! ### what is walked -/
structure ItR (K : PySem.W.Frag) (Z : Hp) (J : It) (items : List PyData) : Prop where
  stop : ∀ H, Ext Z H → J.stop items.length H
  go : ∀ i p H, Ext Z H → items[i]? = some p → J.go i H
  yld : ∀ i p H x H', Ext Z H → items[i]? = some p → J.yld i H x H' → Ext H H' ∧ ∀ Nu, MuOk Nu H → Ext Z (hz Nu H) → Rep K (hz Nu H') x p
abbrev DL := En → M (List PyData)
def tIt (C : Ct) (fl : Bool) (f : DL) : TI := fun σ H R => ∃ W φ own env S, Rel C.K W φ own env S σ H ∧
  (f env S).sat (fun ps S' => ∀ φ' H' J, Rel C.K W φ' own env S' σ H' → Kp φ H φ' H' → ItR C.K (hz (Mo fl W.G φ' own) H') J ps → R J H')
    (fun x S' => ∀ φ' H', Rel C.K W φ' own env S' σ H' → Kp φ H φ' H' → XWish C (Mu W.G φ' own) σ H' x)
def EI (X : Cx) (ew : WX) (fl : Bool) (tg it : Expr) (f : DL) : Prop := PI X tg it (tIt ⟨X.K, X.mg, ew⟩ fl f)

def loopL (t : TF) (body : SF) : List PyData → SF
  | [] => fun env => ret (.nx, env)
  | p :: ps => fun env => bnd (ofO (t (.d p) env)) fun env1 => bnd (body env1) fun r => match r.1 with
    | .nx => loopL t body ps r.2
    | .ct => loopL t body ps r.2
    | .bk => ret (.nx, r.2)
    | .rt v => ret (.rt v, r.2)
    | .xc x => ret (.xc x, r.2)
def sFor (f : DL) (t : TF) (body : SF) : SF := fun env => lift env (f env) fun ps => loopL t body ps env
theorem tS_for {C : Ct} {σ : L2.St} {H : Hp} {D : Ends} {f : DL} {t : TF} {body : SF} {is : List Nat} (h : tS C (sFor f t body) D σ H) : tFor (tIt C true f) (tG C is t) (tS C body) D σ H := by
  obtain ⟨W, φ, own, env, S, r, h⟩ := h
  refine ⟨W, φ, own, env, S, r, (sat_lift.mp h).mono (fun ps S1 q φ1 H1 J r1 k1 it => ?_) fun x S1 q φ1 H1 r1 k1 => q φ1 own σ H1 r1⟩
  refine ⟨fun i m σ2 H2 => ∃ φ2 own2 env2 S2, Rel C.K ⟨W.G, low own H1, φ1⟩ φ2 own2 env2 S2 σ2 H2 ∧ i + m = ps.length ∧ (loopL t body (ps.drop i) env2 S2).sat (Post C D W) (fun _ _ => False), ⟨ps.length, φ1, own, env, S1, r1.rebase, by simp, q⟩, ?_⟩
  rintro i m σ2 H2 ⟨φ2, own2, env2, S2, r2, em, q2⟩
  have ex2 : Ext (hz (Mu W.G φ1 own) H1) (hz (Mu W.G φ2 own2) H2) := r1.still r2
  have ez : Ext (hz (Mo true W.G φ1 own) H1) H2 := Ext.trans ex2 hz_sub
  by_cases hi : i < ps.length
  · have hd : ps.drop i = ps[i] :: ps.drop (i + 1) := List.drop_eq_getElem_cons hi
    rw [hd] at q2
    have gi : ps[i]? = some ps[i] := List.getElem?_eq_getElem hi
    obtain ⟨env3, e3, q3⟩ := sat_ofO.mp (sat_bnd.mp q2)
    refine .inr ⟨it.go i _ H2 ez gi, fun σ' H' => ∃ φ4 own4 env4 S4, Rel C.K ⟨W.G, low own H1, φ1⟩ φ4 own4 env4 S4 σ' H' ∧ (loopL t body (ps.drop (i + 1)) env4 S4).sat (Post C D W) (fun _ _ => False), fun σ' H' ⟨φ4, own4, env4, S4, r4, q4⟩ => ⟨m - 1, by omega, φ4, own4, env4, S4, r4, by omega, q4⟩, fun x H3 y => ?_⟩
    obtain ⟨eg, rep⟩ := it.yld i _ H2 x H3 ez gi y
    have r3 := r2.grow eg
    refine ⟨⟨W.G, low own H1, φ1⟩, φ2, own2, env2, S2, .d ps[i], r3, rep _ r2.mu ex2, env3, e3, fun own3 σ3 r4 _ _ => ?_⟩
    refine ⟨⟨W.G, low own H1, φ1⟩, φ2, own3, env3, S2, r4, (sat_bnd.mp q3).mono (fun p S5 q5 => ?_) fun _ _ z => z⟩
    obtain ⟨fl, env5⟩ := p
    cases fl with
    | nx => exact fun φ' own' σ' H' r' => ⟨φ', own', env5, S5, r', q5⟩
    | ct => exact fun φ' own' σ' H' r' => ⟨φ', own', env5, S5, r', q5⟩
    | bk => exact fun φ' own' σ' H' r' => q5 φ' own' σ' H' (r1.unbase r')
    | rt v => exact fun φ' own' σ' H' u r' hv => q5 φ' own' σ' H' u (r1.unbase r') hv
    | xc x => exact fun φ' own' σ' H' r' => q5 φ' own' σ' H' (r1.unbase r')
  · have hi' : ps.length ≤ i := Nat.le_of_not_lt hi
    rw [List.drop_eq_nil_of_le hi'] at q2
    have ei : i = ps.length := by omega
    subst ei
    exact .inl ⟨it.stop H2 ez, q2 φ2 own2 σ2 H2 (r1.unbase r2)⟩
theorem es_for {X : Cx} {ew : WX} {tg it : Expr} {body : List Stmt} {f : DL} {t : TF} {g : SF} {pos : Pos} {is : List Nat} (hp : PassesOwn (model X.prog X.w) X.A X.env X.xe) (hc : X.calm = true) (hi : EI X ew true tg it f) (hg : EG X ew tg is t) (hb : ESs X ew body g)
    (hs : ∀ x, foldedSetIterable it X.env x = pure x := by intro _; rfl) : ES X ew (.For tg it body [] pos) (sFor f t g) := ps_weak (ps_for hp hc hi hg hb hs) fun _ _ _ q => tS_for q

def loopW (c : DB) (body : SF) : Nat → SF
  | 0 => fun _ => no
  | n + 1 => fun env => lift env (c env) fun b => if b = true then bnd (body env) fun r => match r.1 with
      | .nx => loopW c body n r.2
      | .ct => loopW c body n r.2
      | .bk => ret (.nx, r.2)
      | .rt v => ret (.rt v, r.2)
      | .xc x => ret (.xc x, r.2)
    else ret (.nx, env)
theorem tS_while {C : Ct} {σ : L2.St} {H : Hp} {D : Ends} {c : DB} {body : SF} {n : Nat} (h : tS C (loopW c body n) D σ H) : tWhile (tIB C c) (tS C body) D σ H := by
  refine ⟨fun m σ2 H2 => tS C (loopW c body m) D σ2 H2, ⟨n, h⟩, fun m σ2 H2 h => ?_⟩
  obtain ⟨W, φ, own, env, S, r, h⟩ := h
  cases m with
  | zero => exact h.elim
  | succ m =>
    refine ⟨W, φ, own, env, S, r, (sat_lift.mp h).mono (fun b S1 q φ1 H1 r1 k1 => ?_) fun x S1 q φ1 H1 r1 k1 => q φ1 own σ2 H1 r1⟩
    cases b with
    | true =>
      rw [if_pos rfl] at q ⊢
      refine ⟨fun σ' H' => tS C (loopW c body m) D σ' H', fun σ' H' z => ⟨m, Nat.lt_succ_self _, z⟩, ?_⟩
      refine ⟨W, φ1, own, env, S1, r1, (sat_bnd.mp q).mono (fun p S5 q5 => ?_) fun _ _ z => z⟩
      obtain ⟨fl, env5⟩ := p
      cases fl with
      | nx => exact fun φ' own' σ' H' r' => ⟨W, φ', own', env5, S5, r', q5⟩
      | ct => exact fun φ' own' σ' H' r' => ⟨W, φ', own', env5, S5, r', q5⟩
      | bk => exact q5
      | rt v => exact q5
      | xc x => exact q5
    | false =>
      rw [if_neg Bool.false_ne_true] at q ⊢
      exact q φ1 own σ2 H1 r1
def fuel : Nat := 1000000
theorem es_while {X : Cx} {ew : WX} {c : Expr} {body : List Stmt} {b : DB} {g : SF} {pos : Pos} (hp : PassesOwn (model X.prog X.w) X.A X.env X.xe) (hc : EB X ew c b) (hb : ESs X ew body g) : ES X ew (.While c body [] pos) (loopW b g fuel) :=
  ps_weak (ps_while hp hc hb) fun _ _ _ q => tS_while q

/-! ### the body of a def -/
def startE (n : Nat) (ds : List Va) : En := ds.map (fun v => some (svOf v)) ++ List.replicate (n - ds.length) none
def runF (n : Nat) (body : SF) : List Va → M Va := fun ds S => match body (startE n ds) S with
  | .ok (.nx, _) S' => .ok (.d .none) S'
  | .ok (.rt v, _) S' => .ok v S'
  | .ok (.xc x, _) S' => .exc x S'
  | _ => .stuck
theorem rel_start {K : PySem.W.Frag} {G : Addr → Prop} {φ : List Addr} {S : Sto} {H : Hp} {N : List Str} {vs : List V} {ds : List Va} (e : Ent K G φ S H) (hv : VRepAll K (Mu G φ nob) φ H vs ds) (hn : vs.length ≤ N.length) :
    Rel K ⟨G, H, φ⟩ φ nob (startE N.length ds) S (L2.start N vs) H where
  disj := fun i j a h => absurd h (by simp [nob])
  apart := fun i a h => absurd h (by simp [nob])
  ndφ := e.nd
  gd := fun a h => ⟨e.gd a h, fun i => by simp [nob]⟩
  mu := e.mu
  len := by
    unfold L2.start startE
    simp only [List.length_append, List.length_map, List.length_replicate, hv.length]
  slot := fun i sv h => by
    unfold startE at h
    have key : ∀ {vs : List V} {ds : List Va}, VRepAll K (Mu G φ nob) φ H vs ds → ∀ (m : Nat) (i : Nat), (ds.map (fun v => some (svOf v)) ++ List.replicate m none)[i]? = some (some sv) → ∃ u, (vs.map some ++ List.replicate m none)[i]? = some (some u) ∧ SlotR K (hz (Mu G φ nob) H) φ H u [] sv := by
      intro vs ds hv
      induction hv with
      | nil =>
        intro m i h
        simp only [List.map_nil, List.nil_append, List.getElem?_replicate] at h
        split at h <;> cases h
      | cons h1 _ ih =>
        intro m i h
        cases i with
        | zero =>
          simp at h
          subst h
          refine ⟨_, rfl, ?_⟩
          rename_i v _ _ _
          cases v with
          | d p => exact ⟨h1, rfl⟩
          | c n => obtain ⟨a, q1, q2⟩ := h1; exact ⟨a, q1, q2, rfl⟩
          | s n => exact ⟨h1, rfl⟩
        | succ i => exact ih m i (by simpa using h)
    obtain ⟨u, h1, h2⟩ := key hv _ i h
    refine ⟨u, ?_, h2⟩
    unfold L2.start
    rw [hv.length]
    exact h1
  cell := e.cell
  base := Kp.refl
  newF := fun i a h => absurd h (by simp [nob])
theorem Rel.leave {K : PySem.W.Frag} {W : Wd} {φ : List Addr} {own : Nat → List Addr} {env : En} {S : Sto} {σ : L2.St} {H : Hp} (r : Rel K W φ own env S σ H) : Ent K W.G φ S H := by
  have sub : ∀ a, Mu W.G φ nob a → Mu W.G φ own a := fun a h => h.elim .inl fun h => h.elim (fun h => .inr (.inl h)) fun ⟨_, h⟩ => absurd h (by simp [nob])
  exact ⟨r.ndφ, fun a h => (r.gd a h).1, r.mu.sub sub, r.cell.1, fun n c a h1 h2 => (r.cell.2 n c a h1 h2).ext (hz_anti fun a _ _ z => sub a z) rfl⟩
theorem XWish.leave {C : Ct} {G : Addr → Prop} {φ : List Addr} {own : Nat → List Addr} {σ σ' : L2.St} {H : Hp} {x : Ex} (hw : ∀ c d σ σ' H, C.ew c d σ H → C.ew c d σ' H) (h : XWish C (Mu G φ nob) σ H x) : XWish C (Mu G φ own) σ' H x := fun a d fs h1 h2 h3 => hw _ _ _ _ _ (h a d fs h1 h2 (by
  have : ∀ {fs : List (Str × V)} {gs : List (Str × PyData)}, FRep C.K (hz (Mu G φ own) H) fs gs → FRep C.K (hz (Mu G φ nob) H) fs gs := fun h => by
    induction h with
    | nil => exact .nil
    | cons h _ ih => exact .cons (h.ext (hz_anti fun a _ _ z => z.elim .inl fun z => z.elim (fun z => .inr (.inl z)) fun ⟨_, z⟩ => absurd z (by simp [nob]))) ih
  exact this h3))
/-- a def of the text, by its body, where nothing is being shown around -/
theorem fn_ofG {CX : CXT} {P : Program} {w : World} {K : PySem.W.Frag} {mg : Str → Option Value} {base : Heap} {k : Nat} {f : Addr} {name qual : Str} {params : Arguments} {body : List Stmt} {scope : Scope} {dV kV doc pm cdv ct oc : Value} {an od : Option Addr}
    {osl : Array (Option Value)} {N ps : List Str} {sp : Sp} (lk : K.lookup f = some ⟨oc, od, .func (PySem.W.fnOf name qual params body scope dV kV doc pm an cdv ct), osl⟩) (hcd : PySem.W.codeIn K cdv qual = true) (S : FnScope N ps scope)
    (len : ∀ vs H Q E, sp vs H Q E → vs.length = ps.length)
    (hbody : ∀ (A : Around) (outer : List Env) (s : Shared) (H : Hp) (vs : List V) (Q : VK) (E : XK), A.guards = some [] → Room k (A.deeper (envOfC qual scope s.heap.objs.size f cdv)) → sp vs H Q E →
      ∃ t, PSs (cxOf CX P w K mg base N qual scope f cdv A outer s H E) body t ∧ t { nx := fun _ H' => Q .non H', rt := Q } (L2.start N vs) H) :
    FnG P w K mg base CX (k + 1) f (PySem.W.fnOf name qual params body scope dV kV doc pm an cdv ct) ps sp := by
  refine ⟨len, fun A outer s H args us vs Q E hg hr e0 hb r hsp => ?_⟩
  have keep : ∀ b o, base.get? b = some o → s.heap.get? b = some o := fun b o e => (e0.bs b o e).1
  have kinds : ∀ y ∈ ps.zip us, scope.names.lookup y.1 = some .local ∨ (scope.names.lookup y.1 = some .cell ∧ ((cellsFrom (s.heap.objs.size + 1) scope.names []).lookup y.1).isSome = true) := by
    rintro ⟨n, v⟩ hy
    exact (S.par n (List.of_mem_zip hy).1).imp id fun q => ⟨q, PySem.W.cellsFrom_some _ _ _ (.inl q)⟩
  refine codeAny_call_function hr.depth (e0.mod.kin.keeps keep _ _ lk) rfl S.co S.gen rfl (PySem.W.codeRec_of (e0.mod.kin.keeps keep) hcd) (hb _ _ _ _ ?_)
  refine wpAny_newFunctionEnv_cells S.kind kinds fun env he s1 x => ?_
  cases he
  refine ⟨(e0.mod.nolimit.keeps keep).keeps x.toInCall.keep, codeAny_func ?_⟩
  obtain ⟨t, ht, hq⟩ := hbody A outer s H vs Q E hg (hr.deeper _) hsp
  refine wpAny_mono (ht.run [] s1 (L2.start N vs) H _ (inv_start S hr.hd e0 (len _ _ _ _ hsp) r x) hq) (fun fl s' hs => ?_) fun e s' hs => hs
  cases fl with
  | ret u => obtain ⟨v, σ', H', J, rv, q⟩ := hs; exact ⟨v, H', J.os, J.bare, J.base, J.hok, rv, q⟩
  | next => obtain ⟨σ', H', J, q⟩ := hs; exact ⟨.non, H', J.os, J.bare, J.base, J.hok, rfl, q⟩
  | brk => obtain ⟨_, _, _, q⟩ := hs; exact q.elim
  | cont => obtain ⟨_, _, _, q⟩ := hs; exact q.elim
/-- from a body to a def's promise: no exception leaves it -/
theorem fnD_of {P : Program} {w : World} {K : PySem.W.Frag} {mg : Str → Option Value} {base : Heap} {x qual : Str} {st : Stmt} {f : Addr} {fd : FuncData} {N ps : List Str} {k : Nat} {g : SF} (Fn : Fun K x qual st f fd) (Sc : FnScope N ps (defScope st))
    (hbody : ∀ (cdv : Value) (A : Around) (outer : List Env) (s : Shared) (H : Hp) (E : XK), A.guards = some [] → Room k (A.deeper (envOfC qual (defScope st) s.heap.objs.size f cdv)) →
      ESs (cxOf CX0 P w K mg base N qual (defScope st) f cdv A outer s H E).nox (fun _ _ _ _ => False) (defBody st) g) :
    FnD P w K mg base CX0 (k + 1) f fd ps (fun ds => noX (runF N.length g ds)) := by
  have hpl : ps.length ≤ N.length := by have := congrArg List.length Sc.pre; rw [List.length_take] at this; omega
  obtain ⟨oc, od, kV, doc, pm, an, cdv, ct, osl, rfl, lk, hcd⟩ := Fn.ex
  refine fn_ofG lk hcd Sc (fun vs H Q E h => h.1) fun A outer s H vs Q E hg hr h => ?_
  obtain ⟨hl, G, φ, ds, S, en, hv, h⟩ := h
  refine ⟨_, PSs.nox (hbody cdv A outer s H E hg hr), ⟨G, H, φ⟩, φ, nob, startE N.length ds, S, rel_start en hv (by omega), ?_⟩
  have h := sat_noX (E' := fun _ _ => False) h
  unfold runF at h
  show (g (startE N.length ds) S).sat _ _
  cases e : g (startE N.length ds) S with
  | ok p S' =>
    obtain ⟨fl, env'⟩ := p
    rw [e] at h
    cases fl with
    | nx => exact fun φ' own' σ' H' r' => h φ' H' .non r'.base r'.leave .non
    | rt v => exact fun φ' own' σ' H' u r' hu => h φ' H' u r'.base r'.leave hu
    | bk => exact h.elim
    | ct => exact h.elim
    | xc x => exact h.elim
  | exc x S' => rw [e] at h; exact h.elim
  | stuck => rw [e] at h; exact h.elim
end KP


set_option Elab.async false
set_option linter.all false
set_option maxRecDepth 100000
/-! KI: what is walked: a list or a tuple, a range, enumerate, zip, a text. -/
namespace PySem
open Builtin
set_option maxHeartbeats 1000000 in
theorem kp_enum_new {v : Value} {o : Obj} {H : Heap → Prop} (B : Begins v o H) :
    Meets (Builtin.«enumerate.__new__» ⟨[.type "enumerate", v], []⟩) (fun _ R s => H s.heap ∧
      R (.ok (.ret (.ref (s.heap.push o).objs.size))) { s with heap := (s.heap.push o).push { cls := .type "enumerate", data := .fields #[.none, .bool false, .ref s.heap.objs.size, rawInt 0, .none, .none] } }) :=
  .of_wp fun prog w A R s h => by
    obtain ⟨hp, g, d, tk, os⟩ := s; obtain ⟨h1, h⟩ := h
    have hsub := sub_enumerate
    have q1 : ∀ {A' : Around} {E : Value → Shared → Prop} {Q : Value → Shared → Prop}, Q (.ref hp.objs.size) ⟨hp.push o, g, d, tk, os⟩ → wpAny (model prog w) A' (pyIter v) Q E ⟨hp, g, d, tk, os⟩ :=
      fun q => B.iter prog w _ _ ⟨hp, g, d, tk, os⟩ _ h1 q
    wp_walk using q1
    refine wpAny_stack_any fun st => wpAny_pure ?_
    split
    · rename_i c _ _ _ _ _
      cases (c == Value.type "enumerate")
      · wp_walk using q1
        exact ⟨_, rfl, h⟩
      · wp_walk using q1
        exact ⟨_, rfl, h⟩
    · wp_walk using q1
      exact ⟨_, rfl, h⟩
theorem kp_enum_call {prog : Program} {w : World} {A : Around} {E : Value → Shared → Prop} {s : Shared} {v : Value} {o : Obj} {H : Heap → Prop} {Q : Value → Shared → Prop} (B : Begins v o H) (h1 : H s.heap)
    (h : ∀ h', IsEnum h' (s.heap.objs.size + 1) s.heap.objs.size 0 .none → h'.get? s.heap.objs.size = some o → h'.objs.size = s.heap.objs.size + 2 →
      (∀ b o, s.heap.get? b = some o → h'.get? b = some o) → Q (.ref (s.heap.objs.size + 1)) { s with heap := h' }) :
    wpAny (model prog w) A (call (.type "enumerate") [v]) Q E s := by
  refine callType_new F.called_enumerate (by decide) (F.typeCall_enumerate_1 _) (F.newCall_enumerate_1 _) (fun obj => F.args_object_init_2 obj _) F.entry_enumerate_new
    (kp_enum_new B) ⟨h1, ?_⟩
  have hz : (s.heap.push o).objs.size = s.heap.objs.size + 1 := Heap.size_push ..
  show _ ∧ _
  rw [hz]
  have he : IsEnum ((s.heap.push o).push { cls := .type "enumerate", data := .fields #[.none, .bool false, .ref s.heap.objs.size, rawInt 0, .none, .none] }) (s.heap.objs.size + 1) s.heap.objs.size 0 .none := by
    have := Heap.get?_push_size (s.heap.push o) (o := { cls := .type "enumerate", data := .fields #[.none, .bool false, .ref s.heap.objs.size, rawInt 0, .none, .none] }) rfl
    rw [hz] at this; exact this
  refine ⟨⟨_, he, rfl⟩, h _ he (Heap.get?_push_of_some _ (Heap.get?_push_size _ B.free)) (by rw [Heap.size_push, hz]) fun b o x => Heap.get?_push_of_some _ (Heap.get?_push_of_some _ x)⟩
end PySem
namespace KP
open PySem PySem.Spec PyProof.Rows L2
/-! ### a list or a tuple -/
theorem itR_list {K : PySem.W.Frag} {Z : Hp} {a : Addr} {xs : List V} {ps : List PyData} (h : SqL K Z a xs) (r : RepAll K Z xs ps) : ItR K Z (Itl K a) ps where
  stop := fun H e => ⟨xs, sqL_ext e h, by rw [r.length]; exact Nat.le_refl _⟩
  go := fun i p H e hp => by
    obtain ⟨v, hv, _⟩ := r.get hp
    exact ⟨xs, v, sqL_ext e h, hv⟩
  yld := fun i p H x H' e hp y => by
    obtain ⟨rfl, y⟩ := y
    obtain ⟨v, hv, q⟩ := r.get hp
    have := y xs (sqL_ext e h)
    rw [hv] at this; cases this
    exact ⟨Ext.refl, fun Nu _ ez => q.ext ez⟩
theorem itR_tup {K : PySem.W.Frag} {Z : Hp} {a : Addr} {xs : List V} {ps : List PyData} (h : SqT K Z a xs) (r : RepAll K Z xs ps) : ItR K Z (Itt K a) ps where
  stop := fun H e => ⟨xs, sqT_ext e h, by rw [r.length]; exact Nat.le_refl _⟩
  go := fun i p H e hp => by
    obtain ⟨v, hv, _⟩ := r.get hp
    exact ⟨xs, v, sqT_ext e h, hv⟩
  yld := fun i p H x H' e hp y => by
    obtain ⟨rfl, y⟩ := y
    obtain ⟨v, hv, q⟩ := r.get hp
    have := y xs (sqT_ext e h)
    rw [hv] at this; cases this
    exact ⟨Ext.refl, fun Nu _ ez => q.ext ez⟩
def iSeq (K : PySem.W.Frag) (tl : TE) : TI := fun σ H R => tl σ H fun x H1 => ∃ a, x = .ref a ∧ ((∃ xs, SqL K H1 a xs) ∧ R (Itl K a) H1 ∨ (∃ xs, SqT K H1 a xs) ∧ R (Itt K a) H1)
theorem pi_seq {X : Cx} {tg l : Expr} {tl : TE} (hl : PE X l tl) : PI X tg l (iSeq X.K tl) := by
  refine ⟨fun pins s σ H R I h => ?_⟩
  refine thn (hl.run pins s σ H _ I h) fun v s1 ⟨x, H1, I1, r1, q1⟩ => ?_
  obtain ⟨a, e, q1⟩ := q1
  subst e
  cases r1
  rcases q1 with ⟨⟨xs, hq⟩, q⟩ | ⟨⟨xs, hq⟩, q⟩
  · obtain ⟨its, rv, p, hz⟩ := I1.list hq
    refine wpAny_pyIter_list p.isList ?_
    refine ⟨s1.heap.objs.size, [s1.heap.objs.size], _, _, H1, rfl, I1.kept (t' := s1.toks) fun b o e => Heap.get?_push_of_some _ e, turn_list a _, ⟨_, Heap.get?_push_size _ rfl, rfl, rfl⟩, fun b hb => ?_, q⟩
    have e : b = s1.heap.objs.size := by simpa using hb
    subst e
    exact I1.fpOk (Nat.le_refl _) (I1.hok.fresh (Nat.le_refl _))
  · obtain ⟨its, rv, p, hz⟩ := I1.tuple hq
    refine wpAny_pyIter_tuple (show s1.heap.IsTuple a its.toArray from p) ?_
    refine ⟨s1.heap.objs.size, [s1.heap.objs.size], _, _, H1, rfl, I1.kept (t' := s1.toks) fun b o e => Heap.get?_push_of_some _ e, turn_tuple a _, ⟨_, Heap.get?_push_size _ rfl, rfl, rfl⟩, fun b hb => ?_, q⟩
    have e : b = s1.heap.objs.size := by simpa using hb
    subst e
    exact I1.fpOk (Nat.le_refl _) (I1.hok.fresh (Nat.le_refl _))
def seqOf : Va → Option (List PyData)
  | .d (.list ps) => some ps
  | .d (.tuple ps) => some ps
  | _ => none
def lSeq (f : DF) : DL := fun env => bnd (f env) fun v => ofO (seqOf v)
theorem seqOf_rep {K : PySem.W.Frag} {Nu : Addr → Prop} {φ : List Addr} {H : Hp} {u : V} {v : Va} {ps : List PyData} (h : VRep K Nu φ H u v) (e : seqOf v = some ps) :
    ∃ a xs, u = .ref a ∧ ps.length ≤ sizeLine ∧ RepAll K (hz Nu H) xs ps ∧ (SqL K (hz Nu H) a xs ∨ SqT K (hz Nu H) a xs) := by
  cases v with
  | c n => cases e
  | s n => cases e
  | d p =>
    cases p with
    | list qs => cases e; cases h with | lst hs hl ha => exact ⟨_, _, rfl, hl, ha, .inl (SqL.of hs)⟩
    | tuple qs => cases e; cases h with | tup hs hl ha => exact ⟨_, _, rfl, hl, ha, .inr (SqT.of hs)⟩
    | none => cases e
    | bool _ => cases e
    | int _ => cases e
    | str _ => cases e
    | dict _ => cases e
theorem tIt_seq {C : Ct} {fl : Bool} {f : DF} {σ : L2.St} {H : Hp} {R : It → Hp → Prop} (h : tIt C fl (lSeq f) σ H R) : iSeq C.K (tI C fl f) σ H R := by
  obtain ⟨W, φ, own, env, S, r, h⟩ := h
  refine ⟨W, φ, own, env, S, r, (sat_bnd.mp h).mono (fun v S1 q φ1 H1 u r1 k1 v1 => ?_) fun _ _ q => q⟩
  obtain ⟨ps, e, q⟩ := sat_ofO.mp q
  obtain ⟨a, xs, rfl, hl, ha, hs⟩ := seqOf_rep v1 e
  refine ⟨a, rfl, ?_⟩
  rcases hs with hs | hs
  · exact .inl ⟨⟨xs, sqL_ext hz_sub hs⟩, q φ1 H1 _ r1 k1 (itR_list hs ha)⟩
  · exact .inr ⟨⟨xs, sqT_ext hz_sub hs⟩, q φ1 H1 _ r1 k1 (itR_tup hs ha)⟩
theorem ei_seq {X : Cx} {ew : WX} {fl : Bool} {tg e : Expr} {f : DF} (h : E X ew fl e f) : EI X ew fl tg e (lSeq f) := by
  have p := pi_seq (tg := tg) h
  exact ⟨fun pins s σ H R I q => p.run pins s σ H R I (tIt_seq q)⟩
theorem pi_weak {X : Cx} {tg e : Expr} {t t' : TI} (h : PI X tg e t) (i : ∀ σ H R, t' σ H R → t σ H R) : PI X tg e t' := ⟨fun pins s σ H R I q => h.run pins s σ H R I (i _ _ _ q)⟩

/-! ### range -/
def rngL (lo hi : Int) : List PyData := (List.range (hi - lo).toNat).map fun i => .int (lo + (i : Nat))
theorem itR_range {K : PySem.W.Frag} {Z : Hp} {lo hi : Int} : ItR K Z (Itr lo (hi - lo).toNat) (rngL lo hi) where
  stop := fun H e => by
    show _ ≤ _
    simp [rngL]
  go := fun i p H e hp => by
    have := (List.getElem?_eq_some_iff.mp hp).1
    show _ < _
    simpa [rngL] using this
  yld := fun i p H x H' e hp y => by
    obtain ⟨rfl, rfl⟩ := y
    have hi : i < (hi - lo).toNat := by
      have := (List.getElem?_eq_some_iff.mp hp).1
      simpa [rngL] using this
    simp only [rngL, List.getElem?_map, List.getElem?_range hi] at hp
    cases hp
    exact ⟨Ext.refl, fun _ _ _ => .int _⟩
def rngOk (i : Int) : Bool := decide (-(2 ^ 62) ≤ i) && decide (i < 2 ^ 62)
def gRng1 : List Va → Option (List PyData)
  | [.d (.int j)] => if rngOk j = true then some (rngL 0 j) else none
  | _ => none
def gRng2 : List Va → Option (List PyData)
  | [.d (.int i), .d (.int j)] => if (rngOk i && rngOk j) = true then some (rngL i j) else none
  | _ => none
def lN (g : List Va → Option (List PyData)) (fa : DFA) : DL := fun env => bnd (fa env) fun vs => ofO (g vs)
theorem rngOk_iff {i : Int} (h : rngOk i = true) : -(2 ^ 62) ≤ i ∧ i < 2 ^ 62 := by
  simp only [rngOk, Bool.and_eq_true, decide_eq_true_eq] at h
  exact h
theorem ei_range1 {X : Cx} {ew : WX} {fl : Bool} {tg a : Expr} {fs : DFA} {p pos : Pos} (hg : Gl X "range") (hm : X.mg "range" = none) (ha : EA X ew fl [a] fs) (hs : starEach [a] X.env = [(false, eval a X.env)] := by rfl) : EI X ew fl tg (.Call (.Name "range" p) [a] [] pos) (lN gRng1 fs) :=
  pi_weak (pi_range1 hg hm ha hs) fun σ H R h => by
    obtain ⟨W, φ, own, env, S, r, h⟩ := h
    refine ⟨W, φ, own, env, S, r, (sat_bnd.mp h).mono (fun v S1 q φ1 H1 u r1 k1 v1 => ?_) fun _ _ q => q⟩
    obtain ⟨ps, e, q⟩ := sat_ofO.mp q
    unfold gRng1 at e
    split at e
    · rename_i j
      cases v1 with
      | cons h1 h2 =>
        cases h2
        cases h1
        by_cases hj : rngOk j = true
        · rw [if_pos hj] at e
          cases e
          have := rngOk_iff hj
          refine ⟨j, rfl, this.1, this.2, q φ1 H1 _ r1 k1 ?_⟩
          have := itR_range (K := X.K) (Z := hz (Mo fl W.G φ1 own) H1) (lo := 0) (hi := j)
          rw [Int.sub_zero] at this
          exact this
        · rw [if_neg hj] at e; cases e
    · cases e
theorem ei_range2 {X : Cx} {ew : WX} {fl : Bool} {tg a b : Expr} {fs : DFA} {p pos : Pos} (hg : Gl X "range") (hm : X.mg "range" = none) (ha : EA X ew fl [a, b] fs) (hs : starEach [a, b] X.env = [(false, eval a X.env), (false, eval b X.env)] := by rfl) (hs2 : starEach [b] X.env = [(false, eval b X.env)] := by rfl) : EI X ew fl tg (.Call (.Name "range" p) [a, b] [] pos) (lN gRng2 fs) :=
  pi_weak (pi_range2 hg hm ha hs hs2) fun σ H R h => by
    obtain ⟨W, φ, own, env, S, r, h⟩ := h
    refine ⟨W, φ, own, env, S, r, (sat_bnd.mp h).mono (fun v S1 q φ1 H1 u r1 k1 v1 => ?_) fun _ _ q => q⟩
    obtain ⟨ps, e, q⟩ := sat_ofO.mp q
    unfold gRng2 at e
    split at e
    · rename_i i j
      cases v1 with
      | cons h1 h2 =>
        cases h2 with
        | cons h2 h3 =>
          cases h3
          cases h1
          cases h2
          by_cases hj : (rngOk i && rngOk j) = true
          · rw [if_pos hj] at e
            cases e
            rw [Bool.and_eq_true] at hj
            have h1 := rngOk_iff hj.1
            have h2 := rngOk_iff hj.2
            exact ⟨i, j, rfl, ⟨h1.1, h1.2, h2.1, h2.2⟩, q φ1 H1 _ r1 k1 itR_range⟩
          · rw [if_neg hj] at e; cases e
    · cases e

/-! ### enumerate of a list or a tuple -/
def IteT (K : PySem.W.Frag) (a : Addr) : It :=
  ⟨fun i H => ∃ xs x, SqT K H a xs ∧ xs[i]? = some x, fun i H v H' => ∃ T x, v = .ref T ∧ H T = none ∧ H' = upd H T (.tup [.int (i : Nat), x]) ∧ ∀ xs, SqT K H a xs → xs[i]? = some x, fun i H => ∃ xs, SqT K H a xs ∧ xs.length = i⟩
theorem turn_enumT {P : Program} {w : World} {K : PySem.W.Frag} {elts : List Expr} {kk : Nat} {tpos : Pos} (a e it : Addr) :
    Turn P w K (.Tuple elts kk tpos) (IteT K a) [e, it] e (fun i h => (∃ old, IsEnum h e it ((i : Nat) : Int) old) ∧ h.IsTupleIter it a i ∧ e ≠ it) where
  mem := by simp
  obj := fun i h st b hb => by
    obtain ⟨⟨old, he⟩, ⟨o, ho, hc, hd⟩, _⟩ := st
    have e' : b = e ∨ b = it := by simpa using hb
    rcases e' with z | z
    · rw [z]; exact ⟨_, he, fun v q => nomatch q⟩
    · rw [z]; exact ⟨o, ho, fun v q => by rw [hd] at q; cases q⟩
  keep := fun i h h' st k => let ⟨⟨old, he⟩, hi, hne⟩ := st; ⟨⟨old, k e (by simp) _ he⟩, hi.at fun o q => k it (by simp) o q, hne⟩
  item := by
    intro X hP hw hK hc i pins s σ H E I hf st hg
    subst hP hw hK
    obtain ⟨⟨old, he⟩, hit, hne⟩ := st
    obtain ⟨xs, x, hq, hx⟩ := hg
    obtain ⟨its, rv, p, hz⟩ := I.tuple hq
    obtain ⟨u, hu, ru⟩ := rv.get hx
    have hel : e < s.heap.objs.size := Heap.lt_size he
    have hil : it < s.heap.objs.size := by obtain ⟨_, q, _⟩ := hit; exact Heap.lt_size q
    have hta : s.heap.IsTuple a its.toArray := p
    have hea : e ≠ a := fun z => by
      obtain ⟨o, ho, hcl, _⟩ := p
      rw [← z] at ho
      have h2 : s.heap.get? e = some _ := he
      rw [h2] at ho; cases ho; simp at hcl
    have hia : a ≠ it := fun z => by
      obtain ⟨o, ho, hcl, _⟩ := p
      obtain ⟨o2, ho2, hcl2, _⟩ := hit
      rw [z] at ho
      rw [ho2] at ho; cases ho
      rw [hcl2] at hcl; simp at hcl
    have hh : X.A.handled = none := I.ok.hd hc
    have D := Draws.tuple (prog := X.prog) (w := X.w) (A := X.A.in1) hh it a hia its.toArray
    have hi' : i < its.toArray.size := by
      have := (List.getElem?_eq_some_iff.mp hu).1
      simpa using this
    refine wpAny_pyNext_enum_itemD D he ⟨hit, hta⟩ hi' hne (by simp [hne, hea]) fun x' h' tk hx' ho hst' hT hsz hk => ?_
    have ex' : x' = u := by
      have : its.toArray[i]? = some u := by simpa using hu
      rw [this] at hx'; exact (Option.some.inj hx').symm
    subst ex'
    obtain ⟨hit', _⟩ := hst'
    refine ⟨_, rfl, wpAny_letOwnedTupleGo_enum (s := { s with heap := h', toks := tk + 1 }) ho fun h'' he' sb => ?_⟩
    have hT2 : h''.get? s.heap.objs.size = some { cls := .type "tuple", data := .seq #[.int i tk, x'] } := (sb.2 _ (Nat.ne_of_gt hel)).trans hT
    have new : ObjOk X.prog X.w (upd H s.heap.objs.size (.tup [.int (i : Nat), x])) h'' s.heap.objs.size (.tup [.int (i : Nat), x]) :=
      ⟨by show 2 ≤ sizeLine; decide, [.int i tk, x'], .cons ⟨_, rfl⟩ (.cons ru .nil), ⟨_, hT2, rfl, _, rfl⟩⟩
    have I1 : Inv X pins σ (upd H s.heap.objs.size (.tup [.int (i : Nat), x])) { s with heap := h'', toks := tk + 1 } :=
      I.turnedNew (ch := [e, it]) (fun b ob hb q => (sb.2 b (fun z => hb (by simp [z]))).trans (hk b ob (fun z => hb (by simp [z])) (fun z => hb (by simp [z])) q)) hf (Nat.le_refl _) new
    refine ⟨.ref s.heap.objs.size, _, I1, rfl, ⟨_, x, rfl, I.hok.fresh (Nat.le_refl _), rfl, fun ys hy => by rw [I.tuple_inj hy hq]; exact hx⟩, ⟨⟨x', ?_⟩, hit'.at fun o q => (sb.2 it (Ne.symm hne)).trans q, hne⟩, fun b hb => ?_⟩
    · have e1 : ((i + 1 : Nat) : Int) = (i : Int) + 1 := by omega
      rw [e1]; exact he'
    · have hb' : b < s.heap.objs.size := by
        have e' : b = e ∨ b = it := by simpa using hb
        rcases e' with z | z
        · rw [z]; exact hel
        · rw [z]; exact hil
      rw [upd_ne (Nat.ne_of_lt hb')]
      exact (hf b hb).1
  done := by
    intro X hP hw hK hc i pins s σ H E I hf st hg
    subst hP hw hK
    obtain ⟨⟨old, he⟩, hit, hne⟩ := st
    obtain ⟨xs, hq, hx⟩ := hg
    obtain ⟨its, rv, p, hz⟩ := I.tuple hq
    obtain ⟨f0, f1, f2, f3, f4, f5⟩ := hf it (by simp)
    have hl := rv.length
    have hta : s.heap.IsTuple a its.toArray := p
    have hia : a ≠ it := fun z => by
      obtain ⟨o, ho, hcl, _⟩ := p
      obtain ⟨o2, ho2, hcl2, _⟩ := hit
      rw [z] at ho
      rw [ho2] at ho; cases ho
      rw [hcl2] at hcl; simp at hcl
    have D := Draws.tuple (prog := X.prog) (w := X.w) (A := X.A.in1) (show X.A.in1.handled = none from I.ok.hd hc) it a hia its.toArray
    have hn : its.toArray.size = i := by rw [← hx, List.size_toArray]; exact hl.symm
    refine wpAny_pyNext_enum_endD D he (by rw [hn]; exact ⟨hit, hta⟩) fun h' eb => ⟨rfl, I.turned (t' := s.toks) (fun b o hb q => eb b o hb q) f0 f1 f3 f4 f5⟩
  self := fun A i s Q E st h => let ⟨⟨_, he⟩, _⟩ := st; wpAny_pyIter_enum he h
def iEnumA (K : PySem.W.Frag) (ta : TA) : TI := fun σ H R => ta σ H fun vs H1 => ∃ a xs, vs = [.ref a] ∧ ((SqL K H1 a xs ∧ R (Ite K a) H1) ∨ (SqT K H1 a xs ∧ R (IteT K a) H1))
theorem pi_enumA {X : Cx} {e : Expr} {ta : TA} {p pos tpos : Pos} {elts : List Expr} {kk : Nat} (hg : Gl X "enumerate") (hm : X.mg "enumerate" = none) (ha : PA X [e] ta) (hs : starEach [e] X.env = [(false, eval e X.env)] := by rfl) :
    PI X (.Tuple elts kk tpos) (.Call (.Name "enumerate" p) [e] [] pos) (iEnumA X.K ta) := by
  refine ⟨fun pins s σ H R I h => ?_⟩
  refine Call_ (ld_blt I hg hm boot_enumerate (PyProof.Rows.callWith_type1 (thn (ha.run pos pins s σ H _ I h) fun us s1 ⟨vs, H1, I1, r1, q1⟩ => ?_) hs rfl))
  obtain ⟨a, xs, ex, q1⟩ := q1
  subst ex
  cases r1 with
  | cons r rr =>
    cases rr
    cases r
    rcases q1 with ⟨hq, q⟩ | ⟨hq, q⟩
    · obtain ⟨its, rv, p', hz⟩ := I1.list hq
      refine call_enumerate_list p'.isList fun h' he hit hsz hk => wpAny_pyIter_enum he ?_
      have I2 : Inv X pins σ H1 { s1 with heap := h' } := I1.kept (t' := s1.toks) hk
      refine ⟨s1.heap.objs.size + 1, [s1.heap.objs.size + 1, s1.heap.objs.size], _, _, H1, rfl, I2, turn_enum a (s1.heap.objs.size + 1) s1.heap.objs.size, ⟨⟨.none, he⟩, hit, Nat.succ_ne_self _⟩, fun b hb => ?_, q⟩
      have e' : b = s1.heap.objs.size + 1 ∨ b = s1.heap.objs.size := by simpa using hb
      have hle : s1.heap.objs.size ≤ b := by
        rcases e' with z | z
        · rw [z]; exact Nat.le_add_right _ _
        · rw [z]; exact Nat.le_refl _
      exact I1.fpOk hle (I1.hok.fresh hle)
    · obtain ⟨its, rv, p', hz⟩ := I1.tuple hq
      refine kp_enum_call (begins_tuple a its.toArray) (show s1.heap.IsTuple a its.toArray from p') fun h' he hit hsz hk => wpAny_pyIter_enum he ?_
      have I2 : Inv X pins σ H1 { s1 with heap := h' } := I1.kept (t' := s1.toks) hk
      refine ⟨s1.heap.objs.size + 1, [s1.heap.objs.size + 1, s1.heap.objs.size], _, _, H1, rfl, I2, turn_enumT a (s1.heap.objs.size + 1) s1.heap.objs.size, ⟨⟨.none, he⟩, ⟨_, hit, rfl, rfl⟩, Nat.succ_ne_self _⟩, fun b hb => ?_, q⟩
      have e' : b = s1.heap.objs.size + 1 ∨ b = s1.heap.objs.size := by simpa using hb
      have hle : s1.heap.objs.size ≤ b := by
        rcases e' with z | z
        · rw [z]; exact Nat.le_add_right _ _
        · rw [z]; exact Nat.le_refl _
      exact I1.fpOk hle (I1.hok.fresh hle)
def enumL (ps : List PyData) : List PyData := ps.mapIdx fun i p => .tuple [.int (i : Nat), p]
theorem enumL_get {ps : List PyData} {i : Nat} {p : PyData} (h : (enumL ps)[i]? = some p) : ∃ q, ps[i]? = some q ∧ p = .tuple [.int (i : Nat), q] := by
  unfold enumL at h
  rw [List.getElem?_mapIdx] at h
  obtain ⟨q, h1, h2⟩ := Option.map_eq_some_iff.mp h
  exact ⟨q, h1, h2.symm⟩
theorem rep_pair {K : PySem.W.Frag} {Nu : Addr → Prop} {H : Hp} {T : Addr} {x y : V} {p q : PyData} (m : MuOk Nu H) (h : H T = none) (hx : Rep K (hz Nu H) x p) (hy : Rep K (hz Nu H) y q) : Rep K (hz Nu (upd H T (.tup [x, y]))) (.ref T) (.tuple [p, q]) := by
  obtain ⟨n1, n2⟩ := rep_new (K := K) (o := .tup [x, y]) m h
  exact .tup n2 (by show 2 ≤ sizeLine; decide) (.cons (hx.ext n1) (.cons (hy.ext n1) .nil))
theorem itR_enum {K : PySem.W.Frag} {Z : Hp} {a : Addr} {xs : List V} {ps : List PyData} (h : SqL K Z a xs) (r : RepAll K Z xs ps) : ItR K Z (Ite K a) (enumL ps) where
  stop := fun H e => ⟨xs, sqL_ext e h, by rw [r.length]; simp [enumL]⟩
  go := fun i p H e hp => by
    obtain ⟨q, hq, rfl⟩ := enumL_get hp
    obtain ⟨v, hv, _⟩ := r.get hq
    exact ⟨xs, v, sqL_ext e h, hv⟩
  yld := fun i p H x H' e hp y => by
    obtain ⟨q, hq, rfl⟩ := enumL_get hp
    obtain ⟨T, x, rfl, hT, rfl, y⟩ := y
    obtain ⟨v, hv, rp⟩ := r.get hq
    have := y xs (sqL_ext e h)
    rw [hv] at this; cases this
    exact ⟨Ext.upd hT, fun Nu m ez => rep_pair m hT (.int _) (rp.ext ez)⟩
theorem itR_enumT {K : PySem.W.Frag} {Z : Hp} {a : Addr} {xs : List V} {ps : List PyData} (h : SqT K Z a xs) (r : RepAll K Z xs ps) : ItR K Z (IteT K a) (enumL ps) where
  stop := fun H e => ⟨xs, sqT_ext e h, by rw [r.length]; simp [enumL]⟩
  go := fun i p H e hp => by
    obtain ⟨q, hq, rfl⟩ := enumL_get hp
    obtain ⟨v, hv, _⟩ := r.get hq
    exact ⟨xs, v, sqT_ext e h, hv⟩
  yld := fun i p H x H' e hp y => by
    obtain ⟨q, hq, rfl⟩ := enumL_get hp
    obtain ⟨T, x, rfl, hT, rfl, y⟩ := y
    obtain ⟨v, hv, rp⟩ := r.get hq
    have := y xs (sqT_ext e h)
    rw [hv] at this; cases this
    exact ⟨Ext.upd hT, fun Nu m ez => rep_pair m hT (.int _) (rp.ext ez)⟩
def gEnum : List Va → Option (List PyData)
  | [v] => (seqOf v).map enumL
  | _ => none
theorem ei_enum {X : Cx} {ew : WX} {fl : Bool} {a : Expr} {fs : DFA} {p pos tpos : Pos} {elts : List Expr} {kk : Nat} (hg : Gl X "enumerate") (hm : X.mg "enumerate" = none) (ha : EA X ew fl [a] fs) (hs : starEach [a] X.env = [(false, eval a X.env)] := by rfl) : EI X ew fl (.Tuple elts kk tpos) (.Call (.Name "enumerate" p) [a] [] pos) (lN gEnum fs) :=
  pi_weak (pi_enumA hg hm ha hs) fun σ H R h => by
    obtain ⟨W, φ, own, env, S, r, h⟩ := h
    refine ⟨W, φ, own, env, S, r, (sat_bnd.mp h).mono (fun v S1 q φ1 H1 u r1 k1 v1 => ?_) fun _ _ q => q⟩
    obtain ⟨ps, e, q⟩ := sat_ofO.mp q
    cases v1 with
    | nil => cases e
    | cons h1 h2 =>
      cases h2 with
      | cons _ _ => cases e
      | nil =>
        obtain ⟨qs, e1, e2⟩ := Option.map_eq_some_iff.mp e
        subst e2
        obtain ⟨a, xs, rfl, hl, ha, hs⟩ := seqOf_rep h1 e1
        refine ⟨a, xs, rfl, ?_⟩
        rcases hs with hs | hs
        · exact .inl ⟨sqL_ext hz_sub hs, q φ1 H1 _ r1 k1 (itR_enum hs ha)⟩
        · exact .inr ⟨sqT_ext hz_sub hs, q φ1 H1 _ r1 k1 (itR_enumT hs ha)⟩
end KP


set_option Elab.async false
set_option linter.all false
set_option maxRecDepth 100000
/-! KJ: new lists; comprehensions. -/
namespace KP
open PySem PySem.Spec PyProof.Rows L2
abbrev DLs := En → M (List PyData)
def Wd.and (W : Wd) (D : Addr) : Wd := ⟨fun a => W.G a ∨ a = D, W.H0, W.φ0⟩
theorem mu_and {W : Wd} {D : Addr} {φ : List Addr} {own : Nat → List Addr} {a : Addr} : Mu (W.and D).G φ own a ↔ Mu W.G φ own a ∨ a = D := by
  constructor
  · rintro ((h | h) | h | h)
    · exact .inl (.inl h)
    · exact .inr h
    · exact .inl (.inr (.inl h))
    · exact .inl (.inr (.inr h))
  · rintro ((h | h | h) | h)
    · exact .inl (.inl h)
    · exact .inr (.inl h)
    · exact .inr (.inr h)
    · exact .inl (.inr h)
theorem Rel.lessG {K : PySem.W.Frag} {W : Wd} {D : Addr} {φ : List Addr} {own : Nat → List Addr} {env : En} {S : Sto} {σ : L2.St} {H : Hp} (r : Rel K (W.and D) φ own env S σ H) : Rel K W φ own env S σ H := by
  have sub : Ext (hz (Mu (W.and D).G φ own) H) (hz (Mu W.G φ own) H) := hz_anti fun a _ _ z => mu_and.mpr (.inl z)
  exact ⟨r.disj, r.apart, r.ndφ, fun a h => r.gd a (.inl h), r.mu.sub fun a z => mu_and.mpr (.inl z), r.len, fun i sv h => (r.slot i sv h).imp fun u q => ⟨q.1, q.2.ext sub (List.prefix_refl _) fun _ _ => rfl⟩, ⟨r.cell.1, fun n c a h1 h2 => (r.cell.2 n c a h1 h2).ext sub rfl⟩, r.base, r.newF⟩
/-- a new list -/
def tF (C : Ct) (f : DLs) : TE := fun σ H Q => ∃ W φ own env S, Rel C.K W φ own env S σ H ∧
  (f env S).sat (fun ps S' => ∀ φ' H' D xs, Rel C.K (W.and D) φ' own env S' σ H' → Kp φ H φ' H' → H D = none → H' D = some (.lst xs) → RepAll C.K (hz (Mu (W.and D).G φ' own) H') xs ps → ps.length ≤ sizeLine → Q (.ref D) H')
    (fun x S' => ∀ φ' H', Rel C.K W φ' own env S' σ H' → Kp φ H φ' H' → XWish C (Mu W.G φ' own) σ H' x)
def EF (X : Cx) (ew : WX) (e : Expr) (f : DLs) : Prop := PE X e (tF ⟨X.K, X.mg, ew⟩ f)
def fD (f : DLs) : DF := fun env => bnd (f env) fun ps => ret (.d (.list ps))
theorem tF_D {C : Ct} {σ : L2.St} {H : Hp} {Q : VK} {f : DLs} (h : tI C true (fD f) σ H Q) : tF C f σ H Q := by
  obtain ⟨W, φ, own, env, S, r, h⟩ := h
  refine ⟨W, φ, own, env, S, r, (sat_bnd.mp h).mono (fun ps S1 q φ1 H1 D xs r1 k1 hn hD hr hl => ?_) fun _ _ q => q⟩
  have nd : ¬ Mu W.G φ1 own D := fun z => by
    rcases z with z | z | ⟨i, z⟩
    · exact r.fresh hn (.inl z)
    · exact (r1.gd D (.inr rfl)).1 z
    · exact (r1.gd D (.inr rfl)).2 i z
  exact q φ1 H1 (.ref D) r1.lessG k1 (.lst (hz_of hD nd) hl (hr.ext (hz_anti fun a _ _ z => mu_and.mpr (.inl z))))
theorem e_fresh {X : Cx} {ew : WX} {e : Expr} {f : DLs} (h : EF X ew e f) : E X ew true e (fD f) := pe_weak h fun σ H Q h => tF_D h

/-! ### the comprehension's own world -/
def Sv.fz : Sv → Option Sv
  | .l1 xs => some (.d (.list xs))
  | .l2 xss => some (.d (.list (xss.map PyData.list)))
  | .dd k => some (.d k.data)
  | .d p => some (.d p)
  | .c _ => none
  | .s ns => some (.s ns)
def Sv.st : Sv → Option Sv
  | .d p => some (.d p)
  | .c n => some (.c n)
  | .s n => some (.s n)
  | _ => none
def viewE (env : En) : En := env.map fun o => o.bind Sv.fz
def stillE (env : En) : En := env.map fun o => o.bind Sv.st
def wipeE (env : En) : List Nat → En
  | [] => env
  | v :: vs => (wipeE env vs).set v none
theorem wipeE_len (env : En) : ∀ vs, (wipeE env vs).length = env.length
  | [] => rfl
  | v :: vs => by unfold wipeE; rw [List.length_set, wipeE_len env vs]
theorem wipeE_some {env : En} {i : Nat} {x : Sv} : ∀ {vs : List Nat}, (wipeE env vs)[i]? = some (some x) → env[i]? = some (some x) ∧ i ∉ vs
  | [], h => ⟨h, by simp⟩
  | v :: vs, h => by
    unfold wipeE at h
    by_cases hi : v = i
    · subst hi
      by_cases hv : v < (wipeE env vs).length
      · rw [List.getElem?_set_self hv] at h; cases h
      · rw [List.getElem?_eq_none (by simpa using hv)] at h; cases h
    · rw [List.getElem?_set_ne hi] at h
      obtain ⟨h1, h2⟩ := wipeE_some h
      exact ⟨h1, by simp only [List.mem_cons, not_or]; exact ⟨fun e => hi e.symm, h2⟩⟩
theorem wipe_keep {σ : L2.St} {i : Nat} {x : V} : ∀ {vs : List Nat}, σ[i]? = some (some x) → i ∉ vs → (wipe σ vs)[i]? = some (some x)
  | [], h, _ => h
  | v :: vs, h, n => by
    unfold wipe
    rw [List.getElem?_set_ne (fun e => n (by rw [e]; exact List.mem_cons_self))]
    exact wipe_keep h fun z => n (List.mem_cons_of_mem _ z)
theorem wipe_idem (σ : L2.St) (vs : List Nat) : wipe (wipe σ vs) vs = wipe σ vs := by
  have key : ∀ (ws : List Nat) (τ : L2.St), (∀ i ∈ ws, i < τ.length → τ[i]? = some none) → wipe τ ws = τ := fun ws => by
    induction ws with
    | nil => exact fun _ _ => rfl
    | cons w ws ih =>
      intro τ h
      unfold L2.wipe
      rw [ih τ fun i hi => h i (List.mem_cons_of_mem _ hi)]
      by_cases hw : w < τ.length
      · have := h w List.mem_cons_self hw
        apply List.ext_getElem?
        intro j
        by_cases e : w = j
        · subst e; rw [List.getElem?_set_self hw, this]
        · rw [List.getElem?_set_ne e]
      · exact List.set_eq_of_length_le (Nat.le_of_not_lt hw)
  have mem : ∀ (ws : List Nat) (τ : L2.St) (i : Nat), i ∈ ws → i < τ.length → (wipe τ ws)[i]? = some none := fun ws => by
    induction ws with
    | nil => exact fun _ _ h => absurd h (by simp)
    | cons w ws ih =>
      intro τ i hi hl
      unfold L2.wipe
      by_cases e : w = i
      · subst e; rw [List.getElem?_set_self (by rw [wipe_length]; exact hl)]
      · rw [List.getElem?_set_ne e]
        exact ih τ i ((List.mem_cons.mp hi).elim (fun z => absurd z.symm e) id) hl
  exact key vs _ fun i hi hl => mem vs σ i hi (by rw [wipe_length] at hl; exact hl)
section
variable {K : PySem.W.Frag} {W : Wd} {φ : List Addr} {own : Nat → List Addr} {env : En} {S : Sto} {σ : L2.St} {H : Hp}
theorem Rel.wiped (r : Rel K W φ own env S σ H) (vs : List Nat) : Rel K W φ own (wipeE env vs) S (wipe σ vs) H where
  disj := r.disj
  apart := r.apart
  ndφ := r.ndφ
  gd := r.gd
  mu := r.mu
  len := by rw [wipe_length, wipeE_len]; exact r.len
  slot := fun i sv h => by
    obtain ⟨h1, h2⟩ := wipeE_some h
    obtain ⟨u, q1, q2⟩ := r.slot i sv h1
    exact ⟨u, wipe_keep q1 h2, q2⟩
  cell := r.cell
  base := r.base
  newF := r.newF
/-- every owned thing seen as data that stay; no cells -/
theorem Rel.view (r : Rel K W φ own env S σ H) : Rel K ⟨fun a => W.G a ∨ a ∈ φ, H, []⟩ [] nob (viewE env) [] σ H := by
  have sm : ∀ a, Mu (fun a => W.G a ∨ a ∈ φ) [] nob a → Mu W.G φ own a := fun a h => h.elim (fun h => h.elim .inl fun h => .inr (.inl h)) fun h => h.elim (fun h => absurd h (by simp)) fun ⟨i, h⟩ => absurd h (by simp [nob])
  have sub : Ext (hz (Mu W.G φ own) H) (hz (Mu (fun a => W.G a ∨ a ∈ φ) [] nob) H) := hz_anti fun a _ _ z => sm a z
  refine ⟨fun i j a h => absurd h (by simp [nob]), fun i a h => absurd h (by simp [nob]), List.nodup_nil, fun a h => ⟨by simp, fun i => by simp [nob]⟩, r.mu.sub sm, ?_, fun i sv h => ?_, ⟨rfl, fun n c a h1 h2 => by simp at h1⟩, Kp.refl, fun i a h => absurd h (by simp [nob])⟩
  · rw [r.len]; simp [viewE]
  · unfold viewE at h
    rw [List.getElem?_map] at h
    obtain ⟨o, ho, e⟩ := Option.map_eq_some_iff.mp h
    obtain ⟨s, rfl, e⟩ := Option.bind_eq_some_iff.mp e
    obtain ⟨u, h1, h2⟩ := r.slot i s ho
    refine ⟨u, h1, ?_⟩
    have nd : ∀ a, a ∈ own i → hz (Mu (fun a => W.G a ∨ a ∈ φ) [] nob) H a = H a := fun a ha => by
      unfold hz
      refine if_neg fun z => ?_
      rcases z with (z | z) | z | ⟨j, z⟩
      · exact (r.gd a z).2 i ha
      · exact r.apart i a ha z
      · cases z
      · cases z
    cases s with
    | d p => cases e; exact ⟨h2.1.ext sub, rfl⟩
    | c n => cases e
    | s n => cases e; obtain ⟨⟨a, q1, q2⟩, _⟩ := h2; exact ⟨⟨a, q1, sqL_ext sub q2⟩, rfl⟩
    | dd k =>
      cases e
      obtain ⟨a, rfl, q2, q3⟩ := h2
      exact ⟨DictR.rep sub (nd a (by rw [q2]; simp)) q3, rfl⟩
    | l1 xs =>
      cases e
      obtain ⟨a, us, rfl, q2, q3, q4, q5⟩ := h2
      exact ⟨.lst ((nd a (by rw [q2]; simp)).trans q3) q5 (q4.ext sub), rfl⟩
    | l2 xss =>
      cases e
      obtain ⟨a, bs, rfl, q2, q3, q4, q5, q6⟩ := h2
      exact ⟨.lst ((nd a (by rw [q2]; simp)).trans q4) (by rw [List.length_map]; exact q6) (rows_rep sub (fun b hb => nd b (by rw [q2]; exact List.mem_cons_of_mem _ hb)) q5), rfl⟩
/-- only what stays; the owned ones are others' -/
theorem Rel.stay (r : Rel K W φ own env S σ H) : Rel K ⟨outG W own, W.H0, W.φ0⟩ φ nob (stillE env) S σ H where
  disj := fun i j a h => absurd h (by simp [nob])
  apart := fun i a h => absurd h (by simp [nob])
  ndφ := r.ndφ
  gd := fun a h => ⟨h.elim (fun z => (r.gd a z).1) fun ⟨i, z⟩ => r.apart i a z, fun i => by simp [nob]⟩
  mu := by show MuOk (Mu (outG W own) φ nob) H; rw [mu_eq]; exact r.mu
  len := by rw [r.len]; simp [stillE]
  slot := fun i sv h => by
    unfold stillE at h
    rw [List.getElem?_map] at h
    obtain ⟨o, ho, e⟩ := Option.map_eq_some_iff.mp h
    obtain ⟨s, rfl, e⟩ := Option.bind_eq_some_iff.mp e
    obtain ⟨u, h1, h2⟩ := r.slot i s ho
    refine ⟨u, h1, ?_⟩
    show SlotR K (hz (Mu (outG W own) φ nob) H) φ H u [] sv
    rw [mu_eq]
    cases s with
    | d p => cases e; exact ⟨h2.1, rfl⟩
    | c n => cases e; obtain ⟨a, q1, q2, _⟩ := h2; exact ⟨a, q1, q2, rfl⟩
    | s n => cases e; exact ⟨h2.1, rfl⟩
    | l1 _ => cases e
    | l2 _ => cases e
    | dd _ => cases e
  cell := by
    show CellsR K (hz (Mu (outG W own) φ nob) H) φ S H
    rw [mu_eq]; exact r.cell
  base := r.base
  newF := fun i a h => absurd h (by simp [nob])
/-- a new list at D that others may not touch -/
theorem Rel.laidG (r : Rel K W φ own env S σ H) {D : Addr} (hD : H D = none) {xs : List V} : Rel K (W.and D) φ own env S σ (upd H D (.lst xs)) := by
  have nf := r.fresh hD
  have ex : Ext (hz (Mu W.G φ own) H) (hz (Mu (W.and D).G φ own) (upd H D (.lst xs))) := fun a o h => by
    obtain ⟨n, h⟩ := hz_some.mp h
    have ne : a ≠ D := fun z => by rw [z, hD] at h; cases h
    refine hz_of (by rw [upd_ne ne]; exact h) fun z => n ?_
    exact (mu_and.mp z).resolve_right ne
  have kk : ∀ a, Mu W.G φ own a → upd H D (.lst xs) a = H a := fun a h => upd_ne fun z => nf (by rw [← z]; exact h)
  refine ⟨r.disj, r.apart, r.ndφ, fun a h => ?_, fun a h => ?_, r.len, fun i sv h => ?_, ⟨r.cell.1, fun n c a h1 h2 => (r.cell.2 n c a h1 h2).ext ex (kk a (.inr (.inl (List.mem_of_getElem? h2))))⟩, r.base.trans (Kp.ext (Ext.upd hD)), r.newF⟩
  · rcases h with h | h
    · exact r.gd a h
    · subst h
      exact ⟨fun z => nf (.inr (.inl z)), fun i z => nf (.inr (.inr ⟨i, z⟩))⟩
  · by_cases e : a = D
    · subst e
      rw [upd_same]
      exact ⟨rfl, (fun _ z => by cases z), (fun _ _ z => by cases z)⟩
    · have hm : Mu W.G φ own a := by
        rcases h with (h | h) | h | h
        · exact .inl h
        · exact absurd h e
        · exact .inr (.inl h)
        · exact .inr (.inr h)
      rw [kk a hm]
      exact r.mu a hm
  · obtain ⟨u, h1, h2⟩ := r.slot i sv h
    exact ⟨u, h1, h2.ext ex (List.prefix_refl _) fun a ha => kk a (.inr (.inr ⟨i, ha⟩))⟩
/-- the list at D, which others may not touch, is changed -/
theorem Rel.updG (r : Rel K W φ own env S σ H) {D : Addr} (hG : W.G D) (h0 : W.H0 D = none) {xs : List V} : Rel K W φ own env S σ (upd H D (.lst xs)) := by
  have nd : ∀ i, D ∉ own i := (r.gd D hG).2
  have nφ : D ∉ φ := (r.gd D hG).1
  have ex : Ext (hz (Mu W.G φ own) H) (hz (Mu W.G φ own) (upd H D (.lst xs))) := fun a o h => by
    obtain ⟨n, h⟩ := hz_some.mp h
    have ne : a ≠ D := fun z => n (.inl (by rw [z]; exact hG))
    exact hz_of (by rw [upd_ne ne]; exact h) n
  refine ⟨r.disj, r.apart, r.ndφ, r.gd, fun a h => ?_, r.len, fun i sv h => ?_, ⟨r.cell.1, fun n c a h1 h2 => (r.cell.2 n c a h1 h2).ext ex (upd_ne fun z => nφ (by rw [← z]; exact List.mem_of_getElem? h2))⟩, ⟨r.base.pre, fun a o n h => ?_, r.base.new⟩, r.newF⟩
  · by_cases e : a = D
    · subst e
      rw [upd_same]
      exact ⟨rfl, (fun _ z => by cases z), (fun _ _ z => by cases z)⟩
    · rw [upd_ne e]
      exact r.mu a h
  · obtain ⟨u, h1, h2⟩ := r.slot i sv h
    exact ⟨u, h1, h2.ext ex (List.prefix_refl _) fun a ha => upd_ne fun z => nd i (by rw [← z]; exact ha)⟩
  · rw [upd_ne fun z => by rw [z, h0] at h; cases h]
    exact r.base.keep a o n h
end
def compL (t : TF) (c : DB) (e : DF) (env : En) : List PyData → M (List PyData)
  | [] => ret []
  | p :: ps => bnd (ofO (t (.d p) env)) fun env1 => bnd (c env1) fun b => if b = true then bnd (e env1) fun v => match v with
      | .d q => bnd (compL t c e env ps) fun r => ret (q :: r)
      | _ => no
    else compL t c e env ps
theorem compL_len {t : TF} {c : DB} {e : DF} {env : En} : ∀ {ps : List PyData} {S : Sto} {P : List PyData → Sto → Prop} {E : Ex → Sto → Prop}, (compL t c e env ps S).sat P E → (compL t c e env ps S).sat (fun r S' => r.length ≤ ps.length ∧ P r S') E
  | [], S, P, E, h => ⟨Nat.le_refl _, h⟩
  | p :: ps, S, P, E, h => by
    refine sat_bnd.mpr ((sat_bnd.mp h).mono (fun env1 S1 h => ?_) fun _ _ q => q)
    refine sat_bnd.mpr ((sat_bnd.mp h).mono (fun b S2 h => ?_) fun _ _ q => q)
    cases b with
    | true =>
      rw [if_pos rfl] at h ⊢
      refine sat_bnd.mpr ((sat_bnd.mp h).mono (fun v S3 h => ?_) fun _ _ q => q)
      cases v with
      | d q =>
        refine sat_bnd.mpr ((compL_len (sat_bnd.mp h)).mono (fun r S4 h => ?_) fun _ _ q => q)
        exact ⟨Nat.succ_le_succ h.1, h.2⟩
      | c n => exact h.elim
      | s n => exact h.elim
    | false =>
      rw [if_neg Bool.false_ne_true] at h ⊢
      exact (compL_len h).mono (fun r S3 q => ⟨Nat.le_succ_of_le q.1, q.2⟩) fun _ _ q => q
/-- the walk of a comprehension's loop, in its own world -/
theorem comp_core {C C' : Ct} (hK : C'.K = C.K) {W : Wd} {φ1 : List Addr} {own : Nat → List Addr} {env : En} {S1 : Sto} {σ : L2.St} {H1 : Hp} {D : Addr} {vs is : List Nat} {J : It} {ps : List PyData} {t : TF} {c : DB} {e : DF} {Z : Hp} {Qf : List PyData → Sto → Prop} {Q : Hp → Prop}
    (hvs : ∀ i ∈ is, i ∈ vs) (hown : ∀ i ∈ is, own i = []) (hW : W.G D) (hD0 : W.H0 D = none) (hHD : H1 D = none) (hl : ps.length ≤ sizeLine)
    (r1 : Rel C.K W φ1 own env S1 (wipe σ vs) (upd H1 D (.lst [])))
    (it : ItR C.K Z J ps) (hZ : ∀ φ2 S2 H2, Rel C.K W φ2 own env S2 (wipe σ vs) H2 → Kp φ1 H1 φ2 H2 → Ext Z (hz (Mu W.G φ2 own) H2))
    (h : (compL t c e env ps S1).sat Qf (fun _ _ => False))
    (fin : ∀ φ2 S2 H2 acc ds, Rel C.K W φ2 own env S2 (wipe σ vs) H2 → Kp φ1 H1 φ2 H2 → H2 D = some (.lst acc) → RepAll C.K (hz (Mu W.G φ2 own) H2) acc ds → ds.length ≤ sizeLine → Qf ds S2 → Q H2) :
    ∃ I : Nat → Nat → Hp → Prop, (∃ m, I 0 m (upd H1 D (.lst []))) ∧ ∀ i m H, I i m H →
      (J.stop i H ∧ Q H) ∨ (J.go i H ∧ ∃ Nx : Hp → Prop, (∀ H', Nx H' → ∃ m', m' < m ∧ I (i + 1) m' H') ∧ ∀ x H', J.yld i H x H' → tG C' is t x (wipe σ vs) H' fun σ2 H2 => wipe σ2 vs = wipe σ vs ∧ tIB C' c σ2 H2 fun b H3 =>
        if b = true then tI C' true e σ2 H3 fun y H4 => ∃ acc, H4 D = some (.lst acc) ∧ acc.length < sizeLine ∧ Nx (upd H4 D (.lst (acc ++ [y]))) else Nx H3) := by
  let Iv : Nat → Hp → Prop := fun i H => ∃ φ2 S2 acc ds, Rel C.K W φ2 own env S2 (wipe σ vs) H ∧ Kp φ1 H1 φ2 H ∧ H D = some (.lst acc) ∧ RepAll C.K (hz (Mu W.G φ2 own) H) acc ds ∧ ds.length ≤ i ∧
    (compL t c e env (ps.drop i) S2).sat (fun r S' => Qf (ds ++ r) S') (fun _ _ => False)
  refine ⟨fun i m H => i + m = ps.length ∧ Iv i H, ⟨ps.length, by omega, φ1, S1, [], [], r1, ⟨List.prefix_refl _, fun a o _ h => ?_, fun a h n => absurd h n⟩, upd_same, .nil, Nat.le_refl _, h⟩, ?_⟩
  · rw [upd_ne fun z => by rw [z, hHD] at h; cases h]; exact h
  rintro i m H ⟨em, φ2, S2, acc, ds, r2, k2, hacc, hrep, hdl, q2⟩
  have ez := hZ φ2 S2 H r2 k2
  have ezH : Ext Z H := Ext.trans ez hz_sub
  by_cases hi : i < ps.length
  · have hd : ps.drop i = ps[i] :: ps.drop (i + 1) := List.drop_eq_getElem_cons hi
    rw [hd] at q2
    have gi : ps[i]? = some ps[i] := List.getElem?_eq_getElem hi
    obtain ⟨env3, e3, q3⟩ := sat_ofO.mp (sat_bnd.mp q2)
    refine .inr ⟨it.go i _ H ezH gi, Iv (i + 1), fun H' hI => ⟨m - 1, by omega, by omega, hI⟩, fun x H3 y => ?_⟩
    obtain ⟨eg, rep⟩ := it.yld i _ H x H3 ezH gi y
    have r3 := r2.grow eg
    have ndφ2 : D ∉ φ2 := (r2.gd D hW).1
    refine ⟨W, φ2, own, env, S2, .d ps[i], by rw [hK]; exact r3, by rw [hK]; exact rep _ r2.mu ez, env3, e3, fun own3 σ3 r4 sm o4 => ⟨(o4.1 vs hvs).trans (wipe_idem σ vs), ?_⟩⟩
    rw [hK] at r4
    have mo : ∀ φ6, Mu W.G φ6 own3 = Mu W.G φ6 own := fun φ6 => funext fun a => propext ⟨fun z => by
      rcases z with z | z | ⟨j, z⟩
      · exact .inl z
      · exact .inr (.inl z)
      · rcases sm a (.inr (.inr ⟨j, z⟩)) with y | y | y
        · exact .inl y
        · exact absurd y (r4.apart j a z)
        · exact .inr (.inr y), fun z => by
      rcases z with z | z | ⟨j, z⟩
      · exact .inl z
      · exact .inr (.inl z)
      · rcases o4.2 j a z with y | y
        · rw [hown j y] at z; cases z
        · exact .inr (.inr ⟨j, y⟩)⟩
    refine ⟨W, φ2, own3, env3, S2, by rw [hK]; exact r4, (sat_bnd.mp q3).mono (fun b S5 q5 φ5 H5 r5 k5 => ?_) fun _ _ z => z.elim⟩
    rw [hK] at r5
    -- back to the block's own slots
    have back : ∀ {φ6 S6 H6}, Rel C.K W φ6 own3 env3 S6 σ3 H6 → Kp φ2 H3 φ6 H6 → Rel C.K W φ6 own env S6 (wipe σ vs) H6 := fun {φ6 S6 H6} r6 k6 => by
      have k6' : Kp φ2 H φ6 H6 := (Kp.ext eg).trans k6
      refine ⟨r2.disj, fun j a ha z => ?_, r6.ndφ, fun a ha => ⟨(r6.gd a ha).1, (r2.gd a ha).2⟩, fun a ha => ?_, r2.len, fun j sv hj => ?_, ⟨r6.cell.1, fun n cc a h1 h2 => ?_⟩, r2.base.trans k6', r2.newF⟩
      · have na := r2.apart j a ha
        obtain ⟨o, ho⟩ := r2.mu.get (.inr (.inr ⟨j, ha⟩))
        have := k6'.new a z na
        rw [ho] at this; cases this
      · rcases ha with ha | ha | ⟨j, ha⟩
        · exact r6.mu a (.inl ha)
        · exact r6.mu a (.inr (.inl ha))
        · obtain ⟨o, ho⟩ := r2.mu.get (.inr (.inr ⟨j, ha⟩))
          have h1 := r2.mu a (.inr (.inr ⟨j, ha⟩))
          have := k6'.keep a o (r2.apart j a ha) ho
          rw [ho] at h1
          rw [this]; exact h1
      · obtain ⟨u, h1, h2⟩ := r2.slot j sv hj
        refine ⟨u, h1, h2.ext (Kp.hz (fl := true) k6') k6'.pre fun a ha => ?_⟩
        obtain ⟨o, ho⟩ := r2.mu.get (.inr (.inr ⟨j, ha⟩))
        rw [ho, k6'.keep a o (r2.apart j a ha) ho]
      · have := r6.cell.2 n cc a h1 h2
        rw [mo φ6] at this
        exact this
    cases b with
    | true =>
      rw [if_pos rfl] at q5 ⊢
      refine ⟨W, φ5, own3, env3, S5, by rw [hK]; exact r5, (sat_bnd.mp q5).mono (fun v S6 q6 φ6 H6 u r6 k6 v6 => ?_) fun _ _ z => z.elim⟩
      rw [hK] at r6
      have k56 := k5.trans k6
      have hD6 : H6 D = some (.lst acc) := ((Kp.ext eg).trans k56).keep D _ ndφ2 hacc
      refine ⟨acc, hD6, ?_, ?_⟩
      · rw [hrep.length]; omega
      · cases v with
        | c n => exact q6.elim
        | s n => exact q6.elim
        | d q =>
          have rb := back r6 k56
          have hx : Ext (hz (Mu W.G φ2 own) H) (hz (Mu W.G φ6 own) H6) := Kp.hz (fl := true) ((Kp.ext eg).trans k56)
          have hup : Ext (hz (Mu W.G φ6 own) H6) (hz (Mu W.G φ6 own) (upd H6 D (.lst (acc ++ [u])))) := fun a o h => by
            obtain ⟨n, h⟩ := hz_some.mp h
            exact hz_of (by rw [upd_ne fun z => n (.inl (by rw [z]; exact hW))]; exact h) n
          refine ⟨φ6, S6, acc ++ [u], ds ++ [q], rb.updG hW hD0, ?_, upd_same, (hrep.ext (Ext.trans hx hup)).append (.cons ?_ .nil), by rw [List.length_append]; simp; omega, ?_⟩
          · have kk := (k2.trans (Kp.ext eg)).trans k56
            refine ⟨kk.pre, fun a o n h => ?_, kk.new⟩
            rw [upd_ne fun z => by rw [z, hHD] at h; cases h]
            exact kk.keep a o n h
          · have v6 : Rep C'.K (hz (Mu W.G φ6 own3) H6) u q := v6
            rw [mo φ6, hK] at v6
            exact v6.ext hup
          · exact (sat_bnd.mp q6).mono (fun r S7 z => by rw [List.append_assoc]; exact z) fun _ _ z => z
    | false =>
      rw [if_neg Bool.false_ne_true] at q5 ⊢
      have hD6 : H5 D = some (.lst acc) := ((Kp.ext eg).trans k5).keep D _ ndφ2 hacc
      exact ⟨φ5, S5, acc, ds, back r5 k5, (k2.trans (Kp.ext eg)).trans k5, hD6, hrep.ext (Kp.hz (fl := true) ((Kp.ext eg).trans k5)), by omega, q5⟩
  · have hi' : ps.length ≤ i := Nat.le_of_not_lt hi
    rw [List.drop_eq_nil_of_le hi'] at q2
    have ei : i = ps.length := by omega
    subst ei
    refine .inl ⟨it.stop H ezH, fin φ2 S2 H acc ds r2 k2 hacc hrep (by omega) ?_⟩
    have q2 : Qf (ds ++ []) S2 := q2
    rw [List.append_nil] at q2
    exact q2

/-! ### the comprehension -/
def lcA (f : DL) (t : TF) (c : DB) (e : DF) (vs : List Nat) : DLs := fun env => bnd (f env) fun ps => if ps.length ≤ sizeLine then noX (compL t c e (wipeE (stillE env) vs) ps) else no
theorem Rel.stillWipe {K : PySem.W.Frag} {W : Wd} {φ : List Addr} {own : Nat → List Addr} {env : En} {S : Sto} {σ : L2.St} {H : Hp} (r : Rel K W φ own env S σ H) (vs : List Nat) {D : Addr} (hD : H D = none) :
    Rel K ⟨fun a => outG W own a ∨ a = D, low own H, φ⟩ φ nob (wipeE (stillE env) vs) S (wipe σ vs) (upd H D (.lst [])) := by
  have := ((r.rebase.stay).wiped vs).laidG hD (xs := [])
  exact this
theorem tI_lcA {C C' : Ct} (hK : C'.K = C.K) {σ : L2.St} {H : Hp} {Q : VK} {f : DL} {t : TF} {c : DB} {e : DF} {vs is : List Nat} (hvs : ∀ i ∈ is, i ∈ vs) (h : tF C (lcA f t c e vs) σ H Q) :
    tLc (tIt C true f) (tG C' is t) (tIB C' c) (tI C' true e) vs σ H Q := by
  obtain ⟨W, φ, own, env, S, r, h⟩ := h
  refine ⟨W, φ, own, env, S, r, (sat_bnd.mp h).mono (fun ps S1 q φ1 H1 J r1 k1 it D hD => ?_) fun x S1 q φ1 H1 r1 k1 => q φ1 H1 r1 k1⟩
  by_cases hl : ps.length ≤ sizeLine
  · rw [if_pos hl] at q
    have q := sat_noX (E' := fun _ _ => False) q
    have nD := r1.fresh hD
    refine comp_core (C := C) hK (W := ⟨fun a => outG W own a ∨ a = D, low own H1, φ1⟩) (own := nob) (env := wipeE (stillE env) vs) (Z := hz (Mo true W.G φ1 own) H1) hvs (fun _ _ => rfl) (.inr rfl) ?_ hD hl (r1.stillWipe vs hD) it (fun φ2 S2 H2 r2 k2 => ?_) q (fun φ2 S2 H2 acc ds r2 k2 hacc hrep hdl hq => ?_)
    · show low own H1 D = none
      unfold low hz
      split
      · rfl
      · exact hD
    · intro a o ha
      obtain ⟨n, ha⟩ := hz_some.mp ha
      have na : a ∉ φ1 := fun z => n (.inr (.inl z))
      refine hz_of (k2.keep a o na ha) fun z => ?_
      rcases z with (z | z) | z | ⟨j, z⟩
      · exact n (z.elim .inl fun z => .inr (.inr z))
      · rw [z, hD] at ha; cases ha
      · have := k2.new a z na
        rw [ha] at this; cases this
      · cases z
    · have nφ : D ∉ φ2 := (r2.gd D (.inr rfl)).1
      have nM : ¬ Mu W.G φ2 own D := fun z => by
        rcases z with z | z | z
        · exact nD (.inl z)
        · exact nφ z
        · exact nD (.inr (.inr z))
      have sub : Ext (hz (Mu (fun a => outG W own a ∨ a = D) φ2 nob) H2) (hz (Mu (outG W own) φ2 nob) H2) := hz_anti fun a _ _ z => z.elim (fun z => .inl (.inl z)) .inr
      have hg1 := r1.laidG hD (xs := acc)
      have k2' : Kp φ1 (upd H1 D (.lst acc)) φ2 H2 := by
        refine ⟨k2.pre, fun a o n h => ?_, fun a z n => ?_⟩
        · by_cases e : a = D
          · rw [e, upd_same] at h; cases h; rw [e]; exact hacc
          · rw [upd_ne e] at h; exact k2.keep a o n h
        · rw [upd_ne fun e => nφ (by rw [← e]; exact z)]
          exact k2.new a z n
      have mg : Mu (outG (W.and D) own) φ2 nob = Mu (fun a => outG W own a ∨ a = D) φ2 nob := by
        rw [mu_eq]
        exact funext fun a => propext ⟨fun z => (mu_and.mp z).elim (fun z => (mu_out.mpr z).elim (fun z => .inl (.inl z)) .inr) fun z => .inl (.inr z), fun z => mu_and.mpr (z.elim (fun z => z.elim (fun z => .inl (mu_out.mp (.inl z))) .inr) fun z => .inl (mu_out.mp (.inr z)))⟩
      have en : Ent C.K (outG (W.and D) own) φ2 S2 H2 := ⟨r2.ndφ, fun a z => (r2.gd a (z.elim (fun z => z.elim (fun z => .inl (.inl z)) .inr) fun z => .inl (.inr z))).1, by rw [mg]; exact r2.mu, by rw [mg]; exact r2.cell⟩
      have en0 : Ent C.K (outG W own) φ2 S2 H2 := ⟨r2.ndφ, fun a z => (r2.gd a (.inl z)).1, r2.mu.sub fun a z => z.elim (fun z => .inl (.inl z)) .inr, r2.cell.1, fun n cc a h1 h2 => (r2.cell.2 n cc a h1 h2).ext sub rfl⟩
      refine hq φ2 H2 D acc (hg1.called k2' en) (k1.trans k2) ?_ hacc (by rw [show Mu (W.and D).G φ2 own = Mu (outG (W.and D) own) φ2 nob from mu_eq.symm, mg]; exact hrep) hdl
      cases e : H D with
      | none => rfl
      | some o =>
        by_cases z : D ∈ φ
        · exact absurd (k1.pre.subset z) fun z => nD (.inr (.inl z))
        · have := k1.keep D o z e
          rw [hD] at this; cases this
  · rw [if_neg hl] at q
    exact q.elim
end KP


set_option Elab.async false
set_option linter.all false
set_option maxRecDepth 100000
/-! KK: comprehensions, further. -/
namespace KP
open PySem PySem.Spec PyProof.Rows L2
theorem kp_none {φ φ1 : List Addr} {H H1 : Hp} {D : Addr} (k1 : Kp φ H φ1 H1) (hD : H1 D = none) (nD : D ∉ φ1) : H D = none := by
  cases e : H D with
  | none => rfl
  | some o =>
    by_cases z : D ∈ φ
    · exact absurd (k1.pre.subset z) nD
    · have := k1.keep D o z e
      rw [hD] at this; cases this
/-- the comprehension over what is seen as data that stay -/
theorem comp_view {C C' : Ct} (hK : C'.K = C.K) {fl : Bool} {W : Wd} {φ1 : List Addr} {own : Nat → List Addr} {env : En} {S1 : Sto} {σ : L2.St} {H1 : Hp} {D : Addr} {vs is : List Nat} {J : It} {ps : List PyData} {t : TF} {c : DB} {e : DF} {Qf : List PyData → Prop} {Q : Hp → Prop}
    (hvs : ∀ i ∈ is, i ∈ vs) (hD : H1 D = none) (hl : ps.length ≤ sizeLine) (r1 : Rel C.K W φ1 own env S1 σ H1) (it : ItR C.K (hz (Mo fl W.G φ1 own) H1) J ps)
    (h : (compL t c e (viewE (wipeE env vs)) ps []).sat (fun ds S' => S' = [] ∧ Qf ds) (fun _ _ => False))
    (fin : ∀ H2 acc ds, Ext H1 H2 → H2 D = some (.lst acc) → ¬ Mu W.G φ1 own D → RepAll C.K (hz (fun a => Mo false W.G φ1 own a ∨ a = D) H2) acc ds → ds.length ≤ sizeLine → Qf ds → Q H2) :
    ∃ I : Nat → Nat → Hp → Prop, (∃ m, I 0 m (upd H1 D (.lst []))) ∧ ∀ i m H, I i m H →
      (J.stop i H ∧ Q H) ∨ (J.go i H ∧ ∃ Nx : Hp → Prop, (∀ H', Nx H' → ∃ m', m' < m ∧ I (i + 1) m' H') ∧ ∀ x H', J.yld i H x H' → tG C' is t x (wipe σ vs) H' fun σ2 H2 => wipe σ2 vs = wipe σ vs ∧ tIB C' c σ2 H2 fun b H3 =>
        if b = true then tI C' true e σ2 H3 fun y H4 => ∃ acc, H4 D = some (.lst acc) ∧ acc.length < sizeLine ∧ Nx (upd H4 D (.lst (acc ++ [y]))) else Nx H3) := by
  have nD := r1.fresh hD
  have rv := ((r1.wiped vs).view).laidG hD (xs := [])
  refine comp_core (C := C) hK (W := ⟨fun a => (W.G a ∨ a ∈ φ1) ∨ a = D, H1, []⟩) (own := nob) (env := viewE (wipeE env vs)) (Z := hz (Mo fl W.G φ1 own) H1) (φ1 := []) (S1 := []) hvs (fun _ _ => rfl) (.inr rfl) hD hD hl rv it (fun φ2 S2 H2 r2 k2 => ?_) h (fun φ2 S2 H2 acc ds r2 k2 hacc hrep hdl hq => ?_)
  · intro a o ha
    obtain ⟨n, ha⟩ := hz_some.mp ha
    refine hz_of (k2.keep a o (by simp) ha) fun z => ?_
    rcases z with (z | z) | z | ⟨j, z⟩
    · cases fl with
      | true => exact n (z.elim .inl fun z => .inr (.inl z))
      | false => exact n z
    · rw [z, hD] at ha; cases ha
    · have := k2.new a z (by simp)
      rw [ha] at this; cases this
    · cases z
  · obtain ⟨rfl, hq⟩ := hq
    have eφ : φ2 = [] := List.eq_nil_of_length_eq_zero r2.cell.1
    subst eφ
    refine fin H2 acc ds (fun a o h => k2.keep a o (by simp) h) hacc nD (hrep.ext (hz_anti fun a _ _ z => ?_)) hdl hq
    rcases z with z | z
    · exact .inl (.inl z)
    · exact .inl (.inr z)
/-- e for x in (seen), every new item without lists -/
def lcB (f : DL) (t : TF) (c : DB) (e : DF) (vs : List Nat) : DLs := fun env => bnd (f env) fun ps => if ps.length ≤ sizeLine then bnd (alone (noX (compL t c e (viewE (wipeE env vs)) ps))) (fun ds => if immAll ds = true then ret ds else no) else no
def lcC (f : DL) (t : TF) (c : DB) (e : DF) (vs : List Nat) : DF := fun env => bnd (f env) fun ps => if ps.length ≤ sizeLine then bnd (alone (noX (compL t c e (viewE (wipeE env vs)) ps))) (fun ds => ret (.d (.list ds))) else no
theorem tI_lcB {C C' : Ct} (hK : C'.K = C.K) {fl : Bool} {σ : L2.St} {H : Hp} {Q : VK} {f : DL} {t : TF} {c : DB} {e : DF} {vs is : List Nat} (hvs : ∀ i ∈ is, i ∈ vs) (h : tF C (lcB f t c e vs) σ H Q) :
    tLc (tIt C fl f) (tG C' is t) (tIB C' c) (tI C' true e) vs σ H Q := by
  obtain ⟨W, φ, own, env, S, r, h⟩ := h
  refine ⟨W, φ, own, env, S, r, (sat_bnd.mp h).mono (fun ps S1 q φ1 H1 J r1 k1 it D hD => ?_) fun x S1 q φ1 H1 r1 k1 => q φ1 H1 r1 k1⟩
  by_cases hl : ps.length ≤ sizeLine
  · rw [if_pos hl] at q
    have q := sat_noX (E' := fun _ _ => False) (sat_alone (sat_bnd.mp q))
    refine comp_view (Q := Q (.ref D)) hK hvs hD hl r1 it q fun H2 acc ds ee hacc nM hrep hdl hq => ?_
    by_cases hi : immAll ds = true
    · rw [if_pos hi] at hq
      have r2 : Rel C.K (W.and D) φ1 own env S1 σ H2 := (r1.laidG hD (xs := acc)).grow fun a o h => by
        by_cases e : a = D
        · rw [e, upd_same] at h; cases h; rw [e]; exact hacc
        · rw [upd_ne e] at h; exact ee a o h
      have nM2 : D ∉ φ1 := fun z => nM (.inr (.inl z))
      exact hq φ1 H2 D acc r2 (k1.trans (Kp.ext ee)) (kp_none k1 hD nM2) hacc (RepAll.imm r2.mu (hrep.ext hz_sub) hi) hdl
    · rw [if_neg hi] at hq
      exact hq.elim
  · rw [if_neg hl] at q
    exact q.elim
theorem tI_lcC {C C' : Ct} (hK : C'.K = C.K) {fl : Bool} {σ : L2.St} {H : Hp} {Q : VK} {f : DL} {t : TF} {c : DB} {e : DF} {vs is : List Nat} (hvs : ∀ i ∈ is, i ∈ vs) (h : tI C false (lcC f t c e vs) σ H Q) :
    tLc (tIt C fl f) (tG C' is t) (tIB C' c) (tI C' true e) vs σ H Q := by
  obtain ⟨W, φ, own, env, S, r, h⟩ := h
  refine ⟨W, φ, own, env, S, r, (sat_bnd.mp h).mono (fun ps S1 q φ1 H1 J r1 k1 it D hD => ?_) fun x S1 q φ1 H1 r1 k1 => q φ1 H1 r1 k1⟩
  by_cases hl : ps.length ≤ sizeLine
  · rw [if_pos hl] at q
    have q := sat_noX (E' := fun _ _ => False) (sat_alone (sat_bnd.mp q))
    refine comp_view (Q := Q (.ref D)) hK hvs hD hl r1 it q fun H2 acc ds ee hacc nM hrep hdl hq => ?_
    refine hq φ1 H2 (.ref D) (r1.grow ee) (k1.trans (Kp.ext ee)) ?_
    refine .lst (hz_of hacc fun z => nM (Mo.sub z)) hdl (hrep.ext (hz_anti fun a _ _ z => .inl z))
  · rw [if_neg hl] at q
    exact q.elim
/-! ### the rules -/
def bYes : DB := fun _ => ret true
def EBs (X : Cx) (ew : WX) (es : List Expr) (c : DB) : Prop := PTs X es (tIB ⟨X.K, X.mg, ew⟩ c)
theorem pts_weak {X : Cx} {e : List Expr} {t t' : TT} (h : PTs X e t) (i : ∀ σ H Q, t' σ H Q → t σ H Q) : PTs X e t' := ⟨fun pins s σ H Q I q => h.run pins s σ H Q I (i _ _ _ q)⟩
theorem ebs_nil {X : Cx} {ew : WX} : EBs X ew [] bYes := pts_weak pts_nil fun σ H Q h => by
  obtain ⟨W, φ, own, env, S, r, h⟩ := h
  exact h φ H r Kp.refl
theorem ebs_one {X : Cx} {ew : WX} {e : Expr} {c : DB} (h : EB X ew e c) : EBs X ew [e] c := pts_one h
abbrev ew0 : WX := fun _ _ _ _ => False
section
variable {X : Cx} {ew : WX} {fl : Bool} {elt tg iter : Expr} {ifs : List Expr} {scope : Scope} {own : List (Str × Nat)} {pos spos py : Pos} {f : DL} {t : TF} {c : DB} {e : DF} {is : List Nat} {i : Nat} {y : Str}
theorem ef_lcA (hc : X.calm = true) (hN : X.N.Nodup) (hi : EI X ew true tg iter f) (ok : BlkOk X.N X.env.scope scope own) (hvs : ∀ i ∈ is, i ∈ own.map (·.2))
    (hg : ∀ (s : Shared) (H : Hp) (C : Addr) (cl : List (Str × Addr)) (fp : List Addr), EG (X.blk s H scope (compEnvC scope cl C X.env) fp) ew0 tg is t) (ht : ∀ (s : Shared) (H : Hp) (C : Addr) (cl : List (Str × Addr)) (fp : List Addr), EBs (X.blk s H scope (compEnvC scope cl C X.env) fp) ew0 ifs c)
    (he : ∀ (s : Shared) (H : Hp) (C : Addr) (cl : List (Str × Addr)) (fp : List Addr), E (X.blk s H scope (compEnvC scope cl C X.env) fp) ew0 true elt e) (hs : ∀ x, foldedSetIterable iter X.env x = pure x := by intro _; rfl) :
    EF X ew (.ListComp elt [⟨tg, iter, ifs, 0⟩] scope pos) (lcA f t c e (own.map (·.2))) :=
  pe_weak (pe_lc (g := tG ⟨X.K, X.mg, ew0⟩ is t) (tt := tIB ⟨X.K, X.mg, ew0⟩ c) (te := tI ⟨X.K, X.mg, ew0⟩ true e) hc hN hi ok hg ht he hs) fun σ H Q h => tI_lcA (C := ⟨X.K, X.mg, ew⟩) (C' := ⟨X.K, X.mg, ew0⟩) rfl hvs h
theorem ef_lcB (hc : X.calm = true) (hN : X.N.Nodup) (hi : EI X ew fl tg iter f) (ok : BlkOk X.N X.env.scope scope own) (hvs : ∀ i ∈ is, i ∈ own.map (·.2))
    (hg : ∀ (s : Shared) (H : Hp) (C : Addr) (cl : List (Str × Addr)) (fp : List Addr), EG (X.blk s H scope (compEnvC scope cl C X.env) fp) ew0 tg is t) (ht : ∀ (s : Shared) (H : Hp) (C : Addr) (cl : List (Str × Addr)) (fp : List Addr), EBs (X.blk s H scope (compEnvC scope cl C X.env) fp) ew0 ifs c)
    (he : ∀ (s : Shared) (H : Hp) (C : Addr) (cl : List (Str × Addr)) (fp : List Addr), E (X.blk s H scope (compEnvC scope cl C X.env) fp) ew0 true elt e) (hs : ∀ x, foldedSetIterable iter X.env x = pure x := by intro _; rfl) :
    EF X ew (.ListComp elt [⟨tg, iter, ifs, 0⟩] scope pos) (lcB f t c e (own.map (·.2))) :=
  pe_weak (pe_lc (g := tG ⟨X.K, X.mg, ew0⟩ is t) (tt := tIB ⟨X.K, X.mg, ew0⟩ c) (te := tI ⟨X.K, X.mg, ew0⟩ true e) hc hN hi ok hg ht he hs) fun σ H Q h => tI_lcB (C := ⟨X.K, X.mg, ew⟩) (C' := ⟨X.K, X.mg, ew0⟩) rfl hvs h
theorem e_lcC (hc : X.calm = true) (hN : X.N.Nodup) (hi : EI X ew fl tg iter f) (ok : BlkOk X.N X.env.scope scope own) (hvs : ∀ i ∈ is, i ∈ own.map (·.2))
    (hg : ∀ (s : Shared) (H : Hp) (C : Addr) (cl : List (Str × Addr)) (fp : List Addr), EG (X.blk s H scope (compEnvC scope cl C X.env) fp) ew0 tg is t) (ht : ∀ (s : Shared) (H : Hp) (C : Addr) (cl : List (Str × Addr)) (fp : List Addr), EBs (X.blk s H scope (compEnvC scope cl C X.env) fp) ew0 ifs c)
    (he : ∀ (s : Shared) (H : Hp) (C : Addr) (cl : List (Str × Addr)) (fp : List Addr), E (X.blk s H scope (compEnvC scope cl C X.env) fp) ew0 true elt e) (hs : ∀ x, foldedSetIterable iter X.env x = pure x := by intro _; rfl) :
    E X ew false (.ListComp elt [⟨tg, iter, ifs, 0⟩] scope pos) (lcC f t c e (own.map (·.2))) :=
  pe_weak (pe_lc (g := tG ⟨X.K, X.mg, ew0⟩ is t) (tt := tIB ⟨X.K, X.mg, ew0⟩ c) (te := tI ⟨X.K, X.mg, ew0⟩ true e) hc hN hi ok hg ht he hs) fun σ H Q h => tI_lcC (C := ⟨X.K, X.mg, ew⟩) (C' := ⟨X.K, X.mg, ew0⟩) rfl hvs h
end
end KP


set_option Elab.async false
set_option linter.all false
set_option maxRecDepth 100000
/-! KL: owned lists: made, appended to, stored into, popped. -/
namespace KP
open PySem PySem.Spec PyProof.Rows L2
def Sv.asL1 : Sv → Option (List PyData)
  | .l1 xs => some xs
  | _ => none
def Sv.asL2 : Sv → Option (List (List PyData))
  | .l2 xs => some xs
  | _ => none
def Sv.asDD : Sv → Option Dk
  | .dd k => some k
  | _ => none
def Va.asD : Va → Option PyData
  | .d p => some p
  | _ => none
def Va.asI : Va → Option Int
  | .d (.int i) => some i
  | _ => none
theorem asL1_some {s : Sv} {xs : List PyData} (h : s.asL1 = some xs) : s = .l1 xs := by
  cases s <;> simp [Sv.asL1] at h
  subst h; rfl
theorem asL2_some {s : Sv} {xs : List (List PyData)} (h : s.asL2 = some xs) : s = .l2 xs := by
  cases s <;> simp [Sv.asL2] at h
  subst h; rfl
theorem asDD_some {s : Sv} {k : Dk} (h : s.asDD = some k) : s = .dd k := by
  cases s <;> simp [Sv.asDD] at h
  subst h; rfl
theorem asD_some {v : Va} {p : PyData} (h : v.asD = some p) : v = .d p := by
  cases v <;> simp [Va.asD] at h
  subst h; rfl
theorem asI_some {v : Va} {i : Int} (h : v.asI = some i) : v = .d (.int i) := by
  cases v with
  | c n => cases h
  | s n => cases h
  | d p => cases p <;> simp [Va.asI] at h; subst h; rfl
theorem plain_lst (us : List V) : (∀ ys, HO.lst us ≠ .tup ys) ∧ ∀ x y, HO.lst us ≠ .frz x y := ⟨fun _ z => (by cases z), fun _ _ z => (by cases z)⟩
theorem plain_dK (us : List (Key × V)) : (∀ ys, HO.dK us ≠ .tup ys) ∧ ∀ x y, HO.dK us ≠ .frz x y := ⟨fun _ z => (by cases z), fun _ _ z => (by cases z)⟩
theorem plain_dT (us : List (List Key × V)) : (∀ ys, HO.dT us ≠ .tup ys) ∧ ∀ x y, HO.dT us ≠ .frz x y := ⟨fun _ z => (by cases z), fun _ _ z => (by cases z)⟩
/-- an owned object is changed -/
theorem Rel.updOwn {K : PySem.W.Frag} {W : Wd} {φ : List Addr} {own : Nat → List Addr} {env : En} {S : Sto} {σ : L2.St} {H : Hp} (r : Rel K W φ own env S σ H) {i : Nat} {sv sv' : Sv} {u : V} {a : Addr} {o : HO} (he : env[i]? = some (some sv)) (hu : σ[i]? = some (some u)) (ha : a ∈ own i)
    (ho : (∀ xs, o ≠ .tup xs) ∧ ∀ x y, o ≠ .frz x y) (hs : Ext (hz (Mu W.G φ own) H) (hz (Mu W.G φ own) (upd H a o)) → SlotR K (hz (Mu W.G φ own) (upd H a o)) φ (upd H a o) u (own i) sv') : Rel K W φ own (env.set i (some sv')) S σ (upd H a o) := by
  have hm : Mu W.G φ own a := .inr (.inr ⟨i, ha⟩)
  have ex : Ext (hz (Mu W.G φ own) H) (hz (Mu W.G φ own) (upd H a o)) := fun b x h => by
    obtain ⟨n, h⟩ := hz_some.mp h
    exact hz_of (by rw [upd_ne fun z => n (by rw [z]; exact hm)]; exact h) n
  have hi : i < env.length := (List.getElem?_eq_some_iff.mp he).1
  refine ⟨r.disj, r.apart, r.ndφ, r.gd, fun b hb => ?_, by rw [List.length_set]; exact r.len, fun j s h => ?_, ⟨r.cell.1, fun n c b h1 h2 => (r.cell.2 n c b h1 h2).ext ex (upd_ne fun z => r.apart i a ha (by rw [← z]; exact List.mem_of_getElem? h2))⟩, ⟨r.base.pre, fun b x n h => ?_, r.base.new⟩, r.newF⟩
  · by_cases e : b = a
    · subst e
      rw [upd_same]
      exact ⟨rfl, fun xs z => ho.1 xs (Option.some.inj z), fun x y z => ho.2 x y (Option.some.inj z)⟩
    · rw [upd_ne e]
      exact r.mu b hb
  · by_cases e : j = i
    · subst e
      rw [List.getElem?_set_self hi] at h
      cases h
      exact ⟨u, hu, hs ex⟩
    · rw [List.getElem?_set_ne (Ne.symm e)] at h
      obtain ⟨v, h1, h2⟩ := r.slot j s h
      exact ⟨v, h1, h2.ext ex (List.prefix_refl _) fun b hb => upd_ne fun z => e (r.disj j i a (by rw [← z]; exact hb) ha)⟩
  · rw [upd_ne fun z => by rw [z, r.newF i a ha] at h; cases h]
    exact r.base.keep b x n h
/-! ### x = a new list, to be owned -/
def sOwn (f : DLs) (i : Nat) : SF := fun env => lift env (f env) fun ps => if i < env.length then ret (.nx, env.set i (some (.l1 ps))) else no
/-- a new object into a slot, to be owned -/
theorem Rel.setOwn {K : PySem.W.Frag} {W : Wd} {D : Addr} {φ : List Addr} {own : Nat → List Addr} {env : En} {S : Sto} {σ : L2.St} {H : Hp} (r : Rel K (W.and D) φ own env S σ H) {i : Nat} (hi : i < env.length) {u : V} {sv : Sv} (hG : ¬ W.G D) (h0 : W.H0 D = none)
    (hs : SlotR K (hz (Mu (W.and D).G φ own) H) φ H u [D] sv) : Rel K W φ (clr own i [D]) (env.set i (some sv)) S (σ.set i (some u)) H := by
  have sub : Ext (hz (Mu (W.and D).G φ own) H) (hz (Mu W.G φ (clr own i [D])) H) := hz_anti fun a _ _ z => mu_and.mpr ((mu_clr z).imp id fun z => by simpa using z)
  have rr := r.lessG
  refine rr.set hi (fun a h => ?_) (fun j sv' hj he => (r.slot j sv' he).imp fun u q => ⟨q.1, q.2.ext sub (List.prefix_refl _) fun _ _ => rfl⟩) ⟨r.cell.1, fun n c a h1 h2 => (r.cell.2 n c a h1 h2).ext sub rfl⟩ (hs.ext sub (List.prefix_refl _) fun _ _ => rfl)
  · have e : a = D := by simpa using h
    subst e
    have m := r.mu a (.inl (.inr rfl))
    refine ⟨fun z => ?_, m.1, m.2.1, m.2.2, h0⟩
    rcases mu_clr z with z | z
    · rcases z with z | z | ⟨j, z⟩
      · exact hG z
      · exact (r.gd a (.inr rfl)).1 z
      · exact (r.gd a (.inr rfl)).2 j z
    · cases z
theorem base_none {K : PySem.W.Frag} {W : Wd} {φ : List Addr} {own : Nat → List Addr} {env : En} {S : Sto} {σ : L2.St} {H : Hp} (r : Rel K W φ own env S σ H) {D : Addr} (h : H D = none) : W.H0 D = none := by
  cases e : W.H0 D with
  | none => rfl
  | some o =>
    by_cases z : D ∈ W.φ0
    · obtain ⟨x, hx⟩ := r.mu.get (.inr (.inl (r.base.pre.subset z)))
      rw [h] at hx; cases hx
    · have := r.base.keep D o z e
      rw [h] at this; cases this
theorem tS_own {C : Ct} {σ : L2.St} {H : Hp} {D : Ends} {f : DLs} {i : Nat} (h : tS C (sOwn f i) D σ H) : tAsg (tF C f) (gName i) D σ H := by
  obtain ⟨W, φ, own, env, S, r, h⟩ := h
  refine ⟨W, φ, own, env, S, r, (sat_lift.mp h).mono (fun ps S1 q φ1 H1 A xs r1 k1 hn hD hr hl => ?_) fun x S1 q φ1 H1 r1 k1 => q φ1 own σ H1 r1⟩
  by_cases hi : i < env.length
  · rw [if_pos hi] at q
    exact q φ1 _ _ H1 (r1.setOwn hi (fun z => r.fresh hn (.inl z)) (base_none r hn) ⟨A, xs, rfl, rfl, hD, hr, hl⟩)
  · rw [if_neg hi] at q; exact q.elim
section
variable {X : Cx} {ew : WX} {st : Stmt} {f : DLs} {i : Nat} {x : Str} {e : Expr} {pos pos' : Pos}
theorem es_own (hN : X.N.Nodup) (hi : X.N[i]? = some x) (hx : Loc X.env.scope x) (he : EF X ew e f) (hs : swapsWith e (some (.Name x pos')) pos.line X.env = pure false := by rfl) (hf : X.fn x = true ∨ X.env.scope.names.lookup x = some .local := by first | exact .inl rfl | exact .inr rfl | assumption) :
    ES X ew (.Assign [.Name x pos'] e pos) (sOwn f i) := ps_weak (ps_set hN hi hx he hs hf) fun _ _ _ q => tS_own q
end
/-! ### y = [e for ..] -/
section
variable {X : Cx} {ew : WX} {fl : Bool} {elt tg iter : Expr} {ifs : List Expr} {scope : Scope} {own : List (Str × Nat)} {pos spos py : Pos} {f : DL} {t : TF} {c : DB} {e : DF} {is : List Nat} {i : Nat} {y : Str}
theorem tAsg_F {C : Ct} {σ : L2.St} {H : Hp} {D : Ends} {f : DLs} {i : Nat} (h : tS C (sAsg (fD f) (gN i)) D σ H) : tAsg (tF C f) (gName i) D σ H := by
  obtain ⟨W, φ, own, env, S, r, q⟩ := tS_asg (is := [i]) h
  exact tF_D ⟨W, φ, own, env, S, r, q.mono (fun v S1 q φ1 H1 u r1 k1 v1 => tG_name (q φ1 H1 u r1 k1 v1)) fun _ _ q => q⟩
theorem ps_lcA (hc : X.calm = true) (hN : X.N.Nodup) (hy : X.N[i]? = some y) (hyl : X.env.scope.names.lookup y = some .local)
    (hsw : swapsWith (.ListComp elt [⟨tg, iter, ifs, 0⟩] scope pos) (some (.Name y py)) spos.line X.env = pure true) (hi : EI X ew true tg iter f) (ok : BlkOk X.N X.env.scope scope own) (hvs : ∀ i ∈ is, i ∈ own.map (·.2))
    (hg : ∀ (s : Shared) (H : Hp) (C : Addr) (cl : List (Str × Addr)) (fp : List Addr), EG (X.blk s H scope (compEnvC scope cl C X.env) fp) ew0 tg is t) (ht : ∀ (s : Shared) (H : Hp) (C : Addr) (cl : List (Str × Addr)) (fp : List Addr), EBs (X.blk s H scope (compEnvC scope cl C X.env) fp) ew0 ifs c)
    (he : ∀ (s : Shared) (H : Hp) (C : Addr) (cl : List (Str × Addr)) (fp : List Addr), E (X.blk s H scope (compEnvC scope cl C X.env) fp) ew0 true elt e) (hs : ∀ x, foldedSetIterable iter X.env x = pure x := by intro _; rfl) :
    PS X (.Assign [.Name y py] (.ListComp elt [⟨tg, iter, ifs, 0⟩] scope pos) spos) (tAsg (tF ⟨X.K, X.mg, ew⟩ (lcA f t c e (own.map (·.2)))) (gName i)) :=
  ps_weak (ps_setLc (g := tG ⟨X.K, X.mg, ew0⟩ is t) (tt := tIB ⟨X.K, X.mg, ew0⟩ c) (te := tI ⟨X.K, X.mg, ew0⟩ true e) hc hN hy hyl hsw hi ok hg ht he hs) fun D σ H h => tI_lcA (C := ⟨X.K, X.mg, ew⟩) (C' := ⟨X.K, X.mg, ew0⟩) rfl hvs h
theorem ps_lcB (hc : X.calm = true) (hN : X.N.Nodup) (hy : X.N[i]? = some y) (hyl : X.env.scope.names.lookup y = some .local)
    (hsw : swapsWith (.ListComp elt [⟨tg, iter, ifs, 0⟩] scope pos) (some (.Name y py)) spos.line X.env = pure true) (hi : EI X ew fl tg iter f) (ok : BlkOk X.N X.env.scope scope own) (hvs : ∀ i ∈ is, i ∈ own.map (·.2))
    (hg : ∀ (s : Shared) (H : Hp) (C : Addr) (cl : List (Str × Addr)) (fp : List Addr), EG (X.blk s H scope (compEnvC scope cl C X.env) fp) ew0 tg is t) (ht : ∀ (s : Shared) (H : Hp) (C : Addr) (cl : List (Str × Addr)) (fp : List Addr), EBs (X.blk s H scope (compEnvC scope cl C X.env) fp) ew0 ifs c)
    (he : ∀ (s : Shared) (H : Hp) (C : Addr) (cl : List (Str × Addr)) (fp : List Addr), E (X.blk s H scope (compEnvC scope cl C X.env) fp) ew0 true elt e) (hs : ∀ x, foldedSetIterable iter X.env x = pure x := by intro _; rfl) :
    PS X (.Assign [.Name y py] (.ListComp elt [⟨tg, iter, ifs, 0⟩] scope pos) spos) (tAsg (tF ⟨X.K, X.mg, ew⟩ (lcB f t c e (own.map (·.2)))) (gName i)) :=
  ps_weak (ps_setLc (g := tG ⟨X.K, X.mg, ew0⟩ is t) (tt := tIB ⟨X.K, X.mg, ew0⟩ c) (te := tI ⟨X.K, X.mg, ew0⟩ true e) hc hN hy hyl hsw hi ok hg ht he hs) fun D σ H h => tI_lcB (C := ⟨X.K, X.mg, ew⟩) (C' := ⟨X.K, X.mg, ew0⟩) rfl hvs h
theorem es_setF {st : Stmt} {f : DLs} (h : PS X st (tAsg (tF ⟨X.K, X.mg, ew⟩ f) (gName i))) : ES X ew st (sAsg (fD f) (gN i)) := ps_weak h fun _ _ _ q => tAsg_F q
theorem es_ownF {st : Stmt} {f : DLs} (h : PS X st (tAsg (tF ⟨X.K, X.mg, ew⟩ f) (gName i))) : ES X ew st (sOwn f i) := ps_weak h fun _ _ _ q => tS_own q
end
/-! ### new lists -/
def fLst (fs : DFA) : DLs := fun env => bnd (fs env) fun vs => bnd (ofO (toDs vs)) fun ps => if ps.length ≤ sizeLine then ret ps else no
theorem ef_lst {X : Cx} {ew : WX} {es : List Expr} {fs : DFA} {pos : Pos} (h : EA X ew true es fs) : EF X ew (.List es pos) (fLst fs) := pe_weak (pe_lst h) fun σ H Q h => by
  obtain ⟨W, φ, own, env, S, r, h⟩ := h
  refine ⟨W, φ, own, env, S, r, (sat_bnd.mp h).mono (fun vs S1 q φ1 H1 us r1 k1 v1 => ?_) fun x S1 q φ1 H1 r1 k1 => q φ1 H1 r1 k1⟩
  obtain ⟨ps, e, q⟩ := sat_ofO.mp (sat_bnd.mp q)
  by_cases hl : ps.length ≤ sizeLine
  · rw [if_pos hl] at q
    have hr := toDs_rep v1 e
    refine ⟨by rw [hr.length]; exact hl, fun p hp => ?_⟩
    have r2 := r1.laidG hp (xs := us)
    refine q φ1 _ p us r2 (k1.trans (Kp.ext (Ext.upd hp))) (kp_none k1 hp fun z => r1.fresh hp (.inr (.inl z))) upd_same (hr.ext fun a o h => ?_) hl
    obtain ⟨n, h⟩ := hz_some.mp h
    have ne : a ≠ p := fun z => by rw [z, hp] at h; cases h
    exact hz_of (by rw [upd_ne ne]; exact h) fun z => n ((mu_and.mp z).resolve_right ne)
  · rw [if_neg hl] at q; exact q.elim
/-! ### x.append(e) -/
def sApp (i : Nat) (f : DF) : SF := fun env => bnd (ofO ((lk env i).bind Sv.asL1)) fun xs => lift env (f env) fun v => bnd (ofO v.asD) fun p => if xs.length < sizeLine then ret (.nx, env.set i (some (.l1 (xs ++ [p])))) else no
theorem es_append {X : Cx} {ew : WX} {x : Str} {i : Nat} {e : Expr} {f : DF} {p1 apos cpos pos : Pos} (hN : X.N[i]? = some x) (hv : Vis X.env.scope x) (h : E X ew true e f)
    (hd : (x == ("__debug__" : Str)) = false := by decide) (hcd : (x == ("__classdict__" : Str)) = false := by decide)
    (hbase : attributeBase (.Name x p1) "append" X.env (eval (.Name x p1) X.env) = eval (.Name x p1) X.env := by rfl)
    (hfew : ((backTo cpos (starEach [e] X.env)).all (fun x => !x.1) && (backToKw cpos (keywordEach [] X.env)).all (fun x => x.1.isSome)
      && decide (([e] : List Expr).length + ([] : List Keyword).length + (if ([] : List Keyword).isEmpty then 0 else 1) < 30)) = true := by rfl)
    (hline : (apos.endLine == cpos.line) = true := by rfl) (hst : starEach [e] X.env = (false, eval e X.env) :: starEach [] X.env := by rfl) (hplain : (backTo cpos (starEach [] X.env)).any (·.1) = false := by rfl)
    (hs : swapsWith (.Call (.Attribute (.Name x p1) "append" apos) [e] [] cpos) none pos.line X.env = pure false := by rfl) :
    ES X ew (.Expr (.Call (.Attribute (.Name x p1) "append" apos) [e] [] cpos) pos) (sApp i f) :=
  ps_weak (ps_expr (pe_bm PySem.F.plainAttrs_list PySem.F.slot_list_append PySem.F.type_list_append mt_append (pe_var hN hv hd hcd) (pa_cons h pa_nil hst) hbase hfew hline hst hplain) hs) fun D σ H h => by
    obtain ⟨W, φ, own, env, S, r, h⟩ := h
    obtain ⟨xs, e1, h⟩ := sat_ofO.mp (sat_bnd.mp h)
    obtain ⟨sv, es, e1⟩ := Option.bind_eq_some_iff.mp e1
    have es := lk_some es
    have := asL1_some e1
    subst this
    obtain ⟨u, hu, a, us, rfl, hF, ha, hr, hl⟩ := r.slot i _ es
    refine ⟨.ref a, hu, .inl ⟨rfl, _, .inl (.inl ha)⟩, W, φ, own, env, S, r, (sat_lift.mp h).mono (fun v S1 q φ1 H1 y r1 k1 v1 => ?_) fun x S1 q φ1 H1 r1 k1 => q φ1 own σ H1 r1⟩
    obtain ⟨p, e2, q2⟩ := sat_ofO.mp (sat_bnd.mp q)
    clear q
    obtain rfl := asD_some e2
    have hao : a ∈ own i := by rw [hF]; simp
    have ha1 : H1 a = some (.lst us) := k1.keep a _ (r.apart i a hao) ha
    by_cases hz : xs.length < sizeLine
    · rw [if_pos hz] at q2
      refine ⟨a, us, y, rfl, rfl, ha1, by rw [hr.length]; exact hz, ?_⟩
      refine q2 φ1 own σ _ (r1.updOwn es hu hao (plain_lst _) fun ex => ⟨a, us ++ [y], rfl, hF, upd_same, ((hr.ext (Kp.hz (fl := true) k1)).ext ex).append (.cons (Rep.ext ex v1) .nil), ?_⟩)
      rw [List.length_append]; exact hz
    · rw [if_neg hz] at q2; exact q2.elim
end KP


set_option Elab.async false
set_option linter.all false
set_option maxRecDepth 100000
/-! KM: two targets at once; owned dicts; owned rows. -/
namespace KP
open PySem PySem.Spec PyProof.Rows L2
def Wd.ands (W : Wd) (F : List Addr) : Wd := ⟨fun a => W.G a ∨ a ∈ F, W.H0, W.φ0⟩
theorem ands_nil (W : Wd) : W.ands [] = W := by
  cases W
  simp [Wd.ands]
theorem ands_one (W : Wd) (D : Addr) : W.ands [D] = W.and D := by
  cases W
  simp [Wd.ands, Wd.and]
theorem mu_ands {W : Wd} {F : List Addr} {φ : List Addr} {own : Nat → List Addr} {a : Addr} : Mu (W.ands F).G φ own a ↔ Mu W.G φ own a ∨ a ∈ F := by
  constructor
  · rintro ((h | h) | h | h)
    · exact .inl (.inl h)
    · exact .inr h
    · exact .inl (.inr (.inl h))
    · exact .inl (.inr (.inr h))
  · rintro ((h | h | h) | h)
    · exact .inl (.inl h)
    · exact .inr (.inl h)
    · exact .inr (.inr h)
    · exact .inl (.inr h)
theorem Rel.lessF {K : PySem.W.Frag} {W : Wd} {F : List Addr} {φ : List Addr} {own : Nat → List Addr} {env : En} {S : Sto} {σ : L2.St} {H : Hp} (r : Rel K (W.ands F) φ own env S σ H) : Rel K W φ own env S σ H := by
  have sub : Ext (hz (Mu (W.ands F).G φ own) H) (hz (Mu W.G φ own) H) := hz_anti fun a _ _ z => mu_ands.mpr (.inl z)
  exact ⟨r.disj, r.apart, r.ndφ, fun a h => r.gd a (.inl h), r.mu.sub fun a z => mu_ands.mpr (.inl z), r.len, fun i sv h => (r.slot i sv h).imp fun u q => ⟨q.1, q.2.ext sub (List.prefix_refl _) fun _ _ => rfl⟩, ⟨r.cell.1, fun n c a h1 h2 => (r.cell.2 n c a h1 h2).ext sub rfl⟩, r.base, r.newF⟩
/-- new objects into a slot, to be owned -/
theorem Rel.setOwnF {K : PySem.W.Frag} {W : Wd} {F : List Addr} {φ : List Addr} {own : Nat → List Addr} {env : En} {S : Sto} {σ : L2.St} {H : Hp} (r : Rel K (W.ands F) φ own env S σ H) {i : Nat} (hi : i < env.length) {u : V} {sv : Sv} (hG : ∀ a ∈ F, ¬ W.G a) (h0 : ∀ a ∈ F, W.H0 a = none)
    (hs : SlotR K (hz (Mu (W.ands F).G φ own) H) φ H u F sv) : Rel K W φ (clr own i F) (env.set i (some sv)) S (σ.set i (some u)) H := by
  have sub : Ext (hz (Mu (W.ands F).G φ own) H) (hz (Mu W.G φ (clr own i F)) H) := hz_anti fun a _ _ z => mu_ands.mpr (mu_clr z)
  have rr := r.lessF
  refine rr.set hi (fun a h => ?_) (fun j sv' hj he => (r.slot j sv' he).imp fun u q => ⟨q.1, q.2.ext sub (List.prefix_refl _) fun _ _ => rfl⟩) ⟨r.cell.1, fun n c a h1 h2 => (r.cell.2 n c a h1 h2).ext sub rfl⟩ (hs.ext sub (List.prefix_refl _) fun _ _ => rfl)
  have m := r.mu a (.inl (.inr h))
  refine ⟨fun z => ?_, m.1, m.2.1, m.2.2, h0 a h⟩
  rcases mu_clr z with z | z
  · rcases z with z | z | ⟨j, z⟩
    · exact hG a h z
    · exact (r.gd a (.inr h)).1 z
    · exact (r.gd a (.inr h)).2 j z
  · cases z
abbrev DO := En → M Sv
/-- what is to stand in a slot -/
def tO (C : Ct) (f : DO) : TE := fun σ H Q => ∃ W φ own env S, Rel C.K W φ own env S σ H ∧
  (f env S).sat (fun sv S' => ∀ φ' H' u F, Rel C.K (W.ands F) φ' own env S' σ H' → Kp φ H φ' H' → (∀ a ∈ F, H a = none) → SlotR C.K (hz (Mu (W.ands F).G φ' own) H') φ' H' u F sv → Q u H')
    (fun x S' => ∀ φ' H', Rel C.K W φ' own env S' σ H' → Kp φ H φ' H' → XWish C (Mu W.G φ' own) σ H' x)
def EO (X : Cx) (ew : WX) (e : Expr) (f : DO) : Prop := PE X e (tO ⟨X.K, X.mg, ew⟩ f)
def oE (f : DF) : DO := fun env => bnd (f env) fun v => ret (svOf v)
def oF (f : DLs) : DO := fun env => bnd (f env) fun ps => ret (.l1 ps)
def oD : DO := fun _ => ret (.dd (.k []))
section
variable {X : Cx} {ew : WX} {e : Expr} {f : DF} {g : DLs} {pos : Pos}
theorem eo_e (h : E X ew true e f) : EO X ew e (oE f) := pe_weak h fun σ H Q h => by
  obtain ⟨W, φ, own, env, S, r, h⟩ := h
  refine ⟨W, φ, own, env, S, r, (sat_bnd.mp h).mono (fun v S1 q φ1 H1 u r1 k1 v1 => ?_) fun _ _ q => q⟩
  refine q φ1 H1 u [] (by rw [ands_nil]; exact r1) k1 (fun a h => absurd h (by simp)) ?_
  rw [ands_nil]
  cases v with
  | d p => exact ⟨v1, rfl⟩
  | c n => obtain ⟨a, h1, h2⟩ := v1; exact ⟨a, h1, h2, rfl⟩
  | s n => exact ⟨v1, rfl⟩
theorem eo_f (h : EF X ew e g) : EO X ew e (oF g) := pe_weak h fun σ H Q h => by
  obtain ⟨W, φ, own, env, S, r, h⟩ := h
  refine ⟨W, φ, own, env, S, r, (sat_bnd.mp h).mono (fun ps S1 q φ1 H1 D xs r1 k1 hn hD hr hl => ?_) fun _ _ q => q⟩
  exact q φ1 H1 (.ref D) [D] (by rw [ands_one]; exact r1) k1 (fun a h => by rw [List.mem_singleton.mp h]; exact hn) (by rw [ands_one]; exact ⟨D, xs, rfl, rfl, hD, hr, hl⟩)
theorem Rel.laidO {K : PySem.W.Frag} {W : Wd} {φ : List Addr} {own : Nat → List Addr} {env : En} {S : Sto} {σ : L2.St} {H : Hp} (r : Rel K W φ own env S σ H) {D : Addr} (hD : H D = none) {o : HO} (ho : (∀ ys, o ≠ .tup ys) ∧ ∀ x y, o ≠ .frz x y) : Rel K (W.and D) φ own env S σ (upd H D o) := by
  have nf := r.fresh hD
  have ex : Ext (hz (Mu W.G φ own) H) (hz (Mu (W.and D).G φ own) (upd H D o)) := fun a x h => by
    obtain ⟨n, h⟩ := hz_some.mp h
    have ne : a ≠ D := fun z => by rw [z, hD] at h; cases h
    exact hz_of (by rw [upd_ne ne]; exact h) fun z => n ((mu_and.mp z).resolve_right ne)
  have kk : ∀ a, Mu W.G φ own a → upd H D o a = H a := fun a h => upd_ne fun z => nf (by rw [← z]; exact h)
  refine ⟨r.disj, r.apart, r.ndφ, fun a h => ?_, fun a h => ?_, r.len, fun i sv h => ?_, ⟨r.cell.1, fun n c a h1 h2 => (r.cell.2 n c a h1 h2).ext ex (kk a (.inr (.inl (List.mem_of_getElem? h2))))⟩, r.base.trans (Kp.ext (Ext.upd hD)), r.newF⟩
  · rcases h with h | h
    · exact r.gd a h
    · subst h
      exact ⟨fun z => nf (.inr (.inl z)), fun i z => nf (.inr (.inr ⟨i, z⟩))⟩
  · by_cases e : a = D
    · subst e
      rw [upd_same]
      exact ⟨rfl, fun xs z => ho.1 xs (Option.some.inj z), fun x y z => ho.2 x y (Option.some.inj z)⟩
    · have hm : Mu W.G φ own a := (mu_and.mp h).resolve_right e
      rw [kk a hm]
      exact r.mu a hm
  · obtain ⟨u, h1, h2⟩ := r.slot i sv h
    exact ⟨u, h1, h2.ext ex (List.prefix_refl _) fun a ha => kk a (.inr (.inr ⟨i, ha⟩))⟩
theorem eo_dict : EO X ew (.Dict [] [] pos) oD := pe_weak pe_dnewK fun σ H Q h => by
  obtain ⟨W, φ, own, env, S, r, h⟩ := h
  intro p hp
  exact h φ _ (.ref p) [p] (by rw [ands_one]; exact r.laidO hp (plain_dK _)) (Kp.ext (Ext.upd hp)) (fun a h => by rw [List.mem_singleton.mp h]; exact hp) ⟨p, rfl, rfl, [], upd_same, .nil⟩
end
theorem XWish.more {C : Ct} {Nu Mu : Addr → Prop} {σ : L2.St} {H : Hp} {x : Ex} (h : XWish C Nu σ H x) (s : ∀ a, Nu a → Mu a) : XWish C Mu σ H x := fun a d fs h1 h2 h3 => h a d fs h1 h2 (by
  have key : ∀ {fs : List (Str × V)} {gs : List (Str × PyData)}, FRep C.K (hz Mu H) fs gs → FRep C.K (hz Nu H) fs gs := fun h => by
    induction h with
    | nil => exact .nil
    | cons h _ ih => exact .cons (h.ext (hz_anti fun a _ _ z => s a z)) ih
  exact key h3)
/-- one name -/
def sSetO (f : DO) (i : Nat) : SF := fun env => lift env (f env) fun sv => if i < env.length then ret (.nx, env.set i (some sv)) else no
theorem es_setO {X : Cx} {ew : WX} {f : DO} {i : Nat} {x : Str} {e : Expr} {pos pos' : Pos} (hN : X.N.Nodup) (hi : X.N[i]? = some x) (hx : Loc X.env.scope x) (he : EO X ew e f) (hs : swapsWith e (some (.Name x pos')) pos.line X.env = pure false := by rfl) (hf : X.fn x = true ∨ X.env.scope.names.lookup x = some .local := by first | exact .inl rfl | exact .inr rfl | assumption) :
    ES X ew (.Assign [.Name x pos'] e pos) (sSetO f i) := ps_weak (ps_set hN hi hx he hs hf) fun D σ H h => by
  obtain ⟨W, φ, own, env, S, r, h⟩ := h
  refine ⟨W, φ, own, env, S, r, (sat_lift.mp h).mono (fun sv S1 q φ1 H1 u F r1 k1 hF hs => ?_) fun x S1 q φ1 H1 r1 k1 => q φ1 own σ H1 r1⟩
  by_cases hi : i < env.length
  · rw [if_pos hi] at q
    exact q φ1 _ _ H1 (r1.setOwnF hi (fun a h z => r.fresh (hF a h) (.inl z)) (fun a h => base_none r (hF a h)) hs)
  · rw [if_neg hi] at q; exact q.elim
/-- two names at once -/
def sPar (f g : DO) (i j : Nat) : SF := fun env => lift env (f env) fun sv => lift env (g env) fun sw => if i < env.length ∧ j < env.length then ret (.nx, (env.set i (some sv)).set j (some sw)) else no
theorem tS_par {C : Ct} {σ : L2.St} {H : Hp} {D : Ends} {f g : DO} {i j : Nat} (hij : i ≠ j) (h : tS C (sPar f g i j) D σ H) : tPar i j (tCons (tO C f) (tCons (tO C g) tNil)) D σ H := by
  obtain ⟨W, φ, own, env, S, r, h⟩ := h
  refine ⟨W, φ, own, env, S, r, (sat_lift.mp h).mono (fun sv S1 q φ1 H1 u F r1 k1 hF hs => ?_) fun x S1 q φ1 H1 r1 k1 => q φ1 own σ H1 r1⟩
  refine ⟨W.ands F, φ1, own, env, S1, r1, (sat_lift.mp q).mono (fun sw S2 q φ2 H2 w G r2 k2 hG hw => ?_) fun x S2 q φ2 H2 r2 k2 => ?_⟩
  · refine ⟨u, w, rfl, ?_⟩
    by_cases hl : i < env.length ∧ j < env.length
    · rw [if_pos hl] at q
      have e1 : ∀ a ∈ F, H1 a = H2 a ∧ ∃ o, H1 a = some o := fun a ha => by
        obtain ⟨o, ho⟩ := r1.mu.get (.inl (.inr ha))
        exact ⟨by rw [ho, k2.keep a o (r1.gd a (.inr ha)).1 ho], o, ho⟩
      have r3 := r2.setOwnF hl.2 (u := w) (sv := sw) (fun a h z => r1.fresh (hG a h) (.inl z)) (fun a h => base_none r1 (hG a h)) hw
      have hs2 : SlotR C.K (hz (Mu (W.ands F).G φ2 (clr own j G)) H2) φ2 H2 u F sv := by
        refine hs.ext (fun a o h => ?_) k2.pre fun a ha => (e1 a ha).1.symm
        obtain ⟨n, h⟩ := hz_some.mp h
        have na : a ∉ φ1 := fun z => n (.inr (.inl z))
        refine hz_of (k2.keep a o na h) fun z => ?_
        rcases mu_clr z with z | z
        · rcases z with z | z | z
          · exact n (.inl z)
          · have := k2.new a z na
            rw [h] at this; cases this
          · exact n (.inr (.inr z))
        · have := hG a z
          rw [h] at this; cases this
      have r4 := r3.setOwnF (i := i) (by rw [List.length_set]; exact hl.1) (fun a h z => r.fresh (hF a h) (.inl z)) (fun a h => base_none r (hF a h)) hs2
      rw [List.set_comm _ _ hij]
      rw [List.set_comm _ _ hij] at q
      exact q φ2 _ _ H2 r4
    · rw [if_neg hl] at q; exact q.elim
  · exact XWish.more (q φ2 own σ H2 r2.lessF) fun a z => mu_ands.mpr (.inl z)
theorem es_par {X : Cx} {ew : WX} {f g : DO} {i j : Nat} {x y : Str} {a b : Expr} {px py pt pos : Pos} {kt k2 pt2} (hc : X.calm = true) (hN : X.N.Nodup) (hi : X.N[i]? = some x) (hj : X.N[j]? = some y) (hij : i ≠ j)
    (hx : X.env.scope.names.lookup x = some .local) (hy : X.env.scope.names.lookup y = some .local) (ha : EO X ew a f) (hb : EO X ew b g)
    (hw : swappedStores [.Tuple [.Name x px, .Name y py] kt pt] (.Tuple [a, b] k2 pt2) X.env = pure (some [x, y]))
    (hs : swapsWithSole [.Tuple [.Name x px, .Name y py] kt pt] (.Tuple [a, b] k2 pt2) pos.line X.env = pure false := by rfl)
    (hs1 : starEach [a, b] X.env = (false, eval a X.env) :: starEach [b] X.env := by rfl) (hs2 : starEach [b] X.env = (false, eval b X.env) :: starEach [] X.env := by rfl) :
    ES X ew (.Assign [.Tuple [.Name x px, .Name y py] kt pt] (.Tuple [a, b] k2 pt2) pos) (sPar f g i j) :=
  ps_weak (ps_par hc hN hi hj hij hx hy (pa_cons ha (pa_cons hb pa_nil hs2) hs1) hw hs) fun _ _ _ q => tS_par hij q
end KP


set_option Elab.async false
set_option linter.all false
set_option maxRecDepth 100000
/-! KN: owned rows. -/
namespace KP
open PySem PySem.Spec PyProof.Rows L2
theorem Rel.calledF {K : PySem.W.Frag} {W : Wd} {F : List Addr} {φ φ' : List Addr} {own : Nat → List Addr} {env : En} {S S' : Sto} {σ : L2.St} {H H' : Hp} (r : Rel K W φ own env S σ H) (hF : ∀ a ∈ F, H a = none) (k : Kp φ H φ' H') (e : Ent K (fun a => outG W own a ∨ a ∈ F) φ' S' H') : Rel K (W.ands F) φ' own env S' σ H' := by
  have me : Mu (fun a => outG W own a ∨ a ∈ F) φ' nob = Mu (W.ands F).G φ' own := by
    funext a
    apply propext
    constructor
    · intro z
      rcases z with (z | z) | z | ⟨_, z⟩
      · exact z.elim (fun z => .inl (.inl z)) fun z => .inr (.inr z)
      · exact .inl (.inr z)
      · exact .inr (.inl z)
      · exact absurd z (by simp [nob])
    · intro z
      rcases z with (z | z) | z | z
      · exact .inl (.inl (.inl z))
      · exact .inl (.inr z)
      · exact .inr (.inl z)
      · exact .inl (.inl (.inr z))
  have ex : Ext (hz (Mu W.G φ own) H) (hz (Mu (W.ands F).G φ' own) H') := fun a o h => by
    obtain ⟨n, h⟩ := hz_some.mp h
    have na : a ∉ φ := fun z => n (.inr (.inl z))
    refine hz_of (k.keep a o na h) fun z => ?_
    rcases z with (z | z) | z | z
    · exact n (.inl z)
    · rw [hF a z] at h; cases h
    · have := k.new a z na
      rw [h] at this; cases this
    · exact n (.inr (.inr z))
  have fo : ∀ i a, a ∈ own i → a ∉ F := fun i a ha hf => by
    obtain ⟨o, ho⟩ := r.mu.get (.inr (.inr ⟨i, ha⟩))
    rw [hF a hf] at ho; cases ho
  exact ⟨r.disj, fun i a h z => e.gd a (.inl (.inr ⟨i, h⟩)) z, e.nd, fun a h => ⟨e.gd a (h.elim (fun h => .inl (.inl h)) .inr), fun i z => h.elim (fun h => (r.gd a h).2 i z) fun h => fo i a z h⟩, by have := e.mu; rw [me] at this; exact this, r.len,
    fun i sv h => (r.slot i sv h).imp fun u q => ⟨q.1, q.2.ext ex k.pre fun a ha => by
      obtain ⟨o, ho⟩ := r.mu.get (.inr (.inr ⟨i, ha⟩))
      rw [ho, k.keep a o (r.apart i a ha) ho]⟩, by have := e.cell; rw [me] at this; exact this, r.base.trans k, r.newF⟩
theorem RowsR.append {K : PySem.W.Frag} {Z H : Hp} : ∀ {bs cs : List Addr} {xss yss : List (List PyData)}, RowsR K Z H bs xss → RowsR K Z H cs yss → RowsR K Z H (bs ++ cs) (xss ++ yss)
  | _, _, _, _, .nil, s => s
  | _, _, _, _, .cons h l r t, s => .cons h l r (RowsR.append t s)
def compR (t : TF) (e : DLs) (env : En) : List PyData → M (List (List PyData))
  | [] => ret []
  | p :: ps => bnd (ofO (t (.d p) env)) fun env1 => bnd (e env1) fun q => bnd (compR t e env ps) fun r => ret (q :: r)
theorem comp_rows {C C' : Ct} (hK : C'.K = C.K) {W : Wd} {φ1 : List Addr} {env : En} {S1 : Sto} {σ : L2.St} {H1 : Hp} {D : Addr} {vs is : List Nat} {J : It} {ps : List PyData} {t : TF} {e : DLs} {Z : Hp} {Qf : List (List PyData) → Sto → Prop} {Q : Hp → Prop}
    (hvs : ∀ i ∈ is, i ∈ vs) (hW : W.G D) (hD0 : W.H0 D = none) (hHD : H1 D = none) (hl : ps.length ≤ sizeLine)
    (r1 : Rel C.K W φ1 nob env S1 (wipe σ vs) (upd H1 D (.lst [])))
    (it : ItR C.K Z J ps) (hZ : ∀ bs φ2 S2 H2, Rel C.K (W.ands bs) φ2 nob env S2 (wipe σ vs) H2 → (∀ b ∈ bs, H1 b = none) → Kp φ1 H1 φ2 H2 → Ext Z (hz (Mu (W.ands bs).G φ2 nob) H2))
    (h : (compR t e env ps S1).sat Qf (fun _ _ => False))
    (fin : ∀ bs φ2 S2 H2 ds, Rel C.K (W.ands bs) φ2 nob env S2 (wipe σ vs) H2 → Kp φ1 H1 φ2 H2 → (∀ b ∈ bs, H1 b = none) → (D :: bs).Nodup → H2 D = some (.lst (bs.map V.ref)) → RowsR C.K (hz (Mu (W.ands bs).G φ2 nob) H2) H2 bs ds → ds.length ≤ sizeLine → Qf ds S2 → Q H2) :
    ∃ I : Nat → Nat → Hp → Prop, (∃ m, I 0 m (upd H1 D (.lst []))) ∧ ∀ i m H, I i m H →
      (J.stop i H ∧ Q H) ∨ (J.go i H ∧ ∃ Nx : Hp → Prop, (∀ H', Nx H' → ∃ m', m' < m ∧ I (i + 1) m' H') ∧ ∀ x H', J.yld i H x H' → tG C' is t x (wipe σ vs) H' fun σ2 H2 => wipe σ2 vs = wipe σ vs ∧ tYes σ2 H2 fun b H3 =>
        if b = true then tF C' e σ2 H3 fun y H4 => ∃ acc, H4 D = some (.lst acc) ∧ acc.length < sizeLine ∧ Nx (upd H4 D (.lst (acc ++ [y]))) else Nx H3) := by
  let Iv : Nat → Hp → Prop := fun i H => ∃ bs φ2 S2 ds, Rel C.K (W.ands bs) φ2 nob env S2 (wipe σ vs) H ∧ Kp φ1 H1 φ2 H ∧ (∀ b ∈ bs, H1 b = none) ∧ (D :: bs).Nodup ∧ H D = some (.lst (bs.map V.ref)) ∧ RowsR C.K (hz (Mu (W.ands bs).G φ2 nob) H) H bs ds ∧ ds.length = i ∧
    (compR t e env (ps.drop i) S2).sat (fun r S' => Qf (ds ++ r) S') (fun _ _ => False)
  refine ⟨fun i m H => i + m = ps.length ∧ Iv i H, ⟨ps.length, by omega, [], φ1, S1, [], by rw [ands_nil]; exact r1, ⟨List.prefix_refl _, fun a o _ h => ?_, fun a h n => absurd h n⟩, fun b hb => absurd hb (by simp), by simp, upd_same, .nil, rfl, h⟩, ?_⟩
  · rw [upd_ne fun z => by rw [z, hHD] at h; cases h]; exact h
  rintro i m H ⟨em, bs, φ2, S2, ds, r2, k2, hbs, hnd, hacc, hrep, hdl, q2⟩
  have ez := hZ bs φ2 S2 H r2 hbs k2
  have ezH : Ext Z H := Ext.trans ez hz_sub
  by_cases hi : i < ps.length
  · have hd : ps.drop i = ps[i] :: ps.drop (i + 1) := List.drop_eq_getElem_cons hi
    rw [hd] at q2
    have gi : ps[i]? = some ps[i] := List.getElem?_eq_getElem hi
    obtain ⟨env3, e3, q3⟩ := sat_ofO.mp (sat_bnd.mp q2)
    refine .inr ⟨it.go i _ H ezH gi, Iv (i + 1), fun H' hI => ⟨m - 1, by omega, by omega, hI⟩, fun x H3 y => ?_⟩
    obtain ⟨eg, rep⟩ := it.yld i _ H x H3 ezH gi y
    have r3 := r2.grow eg
    have ndφ2 : D ∉ φ2 := (r2.gd D (.inl hW)).1
    refine ⟨W.ands bs, φ2, nob, env, S2, .d ps[i], by rw [hK]; exact r3, by rw [hK]; exact rep _ r2.mu ez, env3, e3, fun own3 σ3 r4 sm o4 => ⟨(o4.1 vs hvs).trans (wipe_idem σ vs), ?_⟩⟩
    rw [hK] at r4
    have n3 : ∀ j a, a ∉ own3 j := fun j a z => by
      rcases sm a (.inr (.inr ⟨j, z⟩)) with y | y | ⟨_, y⟩
      · exact (r4.gd a y).2 j z
      · exact r4.apart j a z y
      · cases y
    have mo : ∀ G φ6, Mu G φ6 own3 = Mu G φ6 nob := fun G φ6 => funext fun a => propext ⟨fun z => z.elim .inl fun z => z.elim (fun z => .inr (.inl z)) fun ⟨j, z⟩ => absurd z (n3 j a), fun z => z.elim .inl fun z => z.elim (fun z => .inr (.inl z)) fun ⟨j, z⟩ => absurd z (by simp [nob])⟩
    unfold tYes
    dsimp only
    rw [if_pos rfl]
    refine ⟨W.ands bs, φ2, own3, env3, S2, by rw [hK]; exact r4, (sat_bnd.mp q3).mono (fun q S6 q6 φ6 H6 B xs r6 k6 hB hHB hrB hlB => ?_) fun _ _ z => z.elim⟩
    rw [hK] at r6 hrB
    have k6' : Kp φ2 H φ6 H6 := (Kp.ext eg).trans k6
    have hD6 : H6 D = some (.lst (bs.map V.ref)) := k6'.keep D _ ndφ2 hacc
    have hB0 : H B = none := by
      cases e : H B with
      | none => rfl
      | some o => rw [eg B o e] at hB; cases hB
    have nBD : B ≠ D := fun z => by rw [z, hacc] at hB0; cases hB0
    have hB1 : H1 B = none := by
      refine kp_none k2 hB0 fun z => ?_
      obtain ⟨o, ho⟩ := r2.mu.get (.inr (.inl z))
      rw [hB0] at ho; cases ho
    have nBbs : B ∉ bs := fun z => by
      obtain ⟨o, ho⟩ := r2.mu.get (.inl (.inr z))
      rw [hB0] at ho; cases ho
    have ew : (W.ands bs).and B = W.ands (bs ++ [B]) := by
      cases W
      simp [Wd.ands, Wd.and, or_assoc]
    refine ⟨bs.map V.ref, hD6, ?_, ?_⟩
    · rw [List.length_map, hrep.length]; omega
    · have rb : Rel C.K (W.ands (bs ++ [B])) φ6 nob env S6 (wipe σ vs) H6 := by
        rw [← ew]
        have cc := r6.cell
        have mm := r6.mu
        rw [mo] at cc mm
        refine ⟨fun i j a h => absurd h (by simp [nob]), fun i a h => absurd h (by simp [nob]), r6.ndφ, fun a h => ⟨(r6.gd a h).1, fun i => by simp [nob]⟩, mm, r2.len, fun j sv hj => ?_, cc, r2.base.trans k6', fun i a h => absurd h (by simp [nob])⟩
        obtain ⟨u, h1, h2⟩ := r2.slot j sv hj
        refine ⟨u, h1, h2.ext (fun a o h => ?_) k6'.pre fun a ha => absurd ha (by simp [nob])⟩
        obtain ⟨n, h⟩ := hz_some.mp h
        have na : a ∉ φ2 := fun z => n (.inr (.inl z))
        refine hz_of (k6'.keep a o na h) fun z => ?_
        rcases mu_and.mp z with z | z
        · rcases z with z | z | ⟨_, z⟩
          · exact n (.inl z)
          · have := k6'.new a z na
            rw [h] at this; cases this
          · cases z
        · rw [z, hB0] at h; cases h
      have hx : Ext (hz (Mu (W.ands bs).G φ2 nob) H) (hz (Mu (W.ands (bs ++ [B])).G φ6 nob) H6) := fun a o h => by
        obtain ⟨n, h⟩ := hz_some.mp h
        have na : a ∉ φ2 := fun z => n (.inr (.inl z))
        refine hz_of (k6'.keep a o na h) fun z => ?_
        rw [← ew] at z
        rcases mu_and.mp z with z | z
        · rcases z with z | z | ⟨_, z⟩
          · exact n (.inl z)
          · have := k6'.new a z na
            rw [h] at this; cases this
          · cases z
        · rw [z, hB0] at h; cases h
      have hWD : (W.ands (bs ++ [B])).G D := .inl hW
      have hup : Ext (hz (Mu (W.ands (bs ++ [B])).G φ6 nob) H6) (hz (Mu (W.ands (bs ++ [B])).G φ6 nob) (upd H6 D (.lst (bs.map V.ref ++ [.ref B])))) := fun a o h => by
        obtain ⟨n, h⟩ := hz_some.mp h
        exact hz_of (by rw [upd_ne fun z => n (.inl (by rw [z]; exact hWD))]; exact h) n
      have hbD : ∀ b ∈ bs, b ≠ D := fun b hb z => by
        have := List.nodup_cons.mp hnd
        exact this.1 (by rw [← z]; exact hb)
      refine ⟨bs ++ [B], φ6, S6, ds ++ [q], rb.updG hWD hD0, ?_, ?_, ?_, ?_, ?_, by rw [List.length_append, hdl]; rfl, ?_⟩
      · have kk := (k2.trans (Kp.ext eg)).trans k6
        refine ⟨kk.pre, fun a o n h => ?_, kk.new⟩
        rw [upd_ne fun z => by rw [z, hHD] at h; cases h]
        exact kk.keep a o n h
      · intro b hb
        rcases List.mem_append.mp hb with z | z
        · exact hbs b z
        · rw [List.mem_singleton.mp z]; exact hB1
      · rw [← List.cons_append]
        refine List.nodup_append.mpr ⟨hnd, by simp, fun a ha b hb => ?_⟩
        rw [List.mem_singleton.mp hb]
        intro z
        rcases List.mem_cons.mp ha with y | y
        · exact nBD (z.symm.trans y)
        · exact nBbs (by rw [← z]; exact y)
      · rw [upd_same, List.map_append]; rfl
      · refine RowsR.append (hrep.ext (Ext.trans hx hup) fun b hb => ?_) (.cons (us := xs) ?_ hlB ?_ .nil)
        · rw [upd_ne (hbD b hb)]
          obtain ⟨o, ho⟩ := r2.mu.get (.inl (.inr hb))
          rw [ho, k6'.keep b o (r2.gd b (.inr hb)).1 ho]
        · rw [upd_ne nBD]; exact hHB
        · rw [mo, ew] at hrB
          exact hrB.ext hup
      · exact (sat_bnd.mp q6).mono (fun r S7 z => by rw [List.append_assoc]; exact z) fun _ _ z => z
  · have hi' : ps.length ≤ i := Nat.le_of_not_lt hi
    rw [List.drop_eq_nil_of_le hi'] at q2
    have ei : i = ps.length := by omega
    have q2 : Qf (ds ++ []) S2 := q2
    rw [List.append_nil] at q2
    refine .inl ⟨by rw [ei]; exact it.stop H ezH, fin bs φ2 S2 H ds r2 k2 hbs hnd hacc hrep (by omega) q2⟩
/-! ### y = [a new list for x in ..] -/
def sRows (f : DL) (t : TF) (e : DLs) (vs : List Nat) (i : Nat) : SF := fun env => lift env (f env) fun ps => if ps.length ≤ sizeLine ∧ i < env.length then bnd (noX (compR t e (wipeE (stillE env) vs) ps)) (fun xss => ret (.nx, env.set i (some (.l2 xss)))) else no
theorem tS_rows {C C' : Ct} (hK : C'.K = C.K) {σ : L2.St} {H : Hp} {D : Ends} {f : DL} {t : TF} {e : DLs} {vs is : List Nat} {i : Nat} (hvs : ∀ i ∈ is, i ∈ vs) (h : tS C (sRows f t e vs i) D σ H) :
    tAsg (tLc (tIt C true f) (tG C' is t) tYes (tF C' e) vs) (gName i) D σ H := by
  obtain ⟨W, φ, own, env, S, r, h⟩ := h
  refine ⟨W, φ, own, env, S, r, (sat_lift.mp h).mono (fun ps S1 q φ1 H1 J r1 k1 it A hA => ?_) fun x S1 q φ1 H1 r1 k1 => q φ1 own σ H1 r1⟩
  by_cases hl : ps.length ≤ sizeLine ∧ i < env.length
  · rw [if_pos hl] at q
    have q := sat_noX (E' := fun _ _ => False) (sat_bnd.mp q)
    have nA := r1.fresh hA
    refine comp_rows (C := C) hK (W := ⟨fun a => outG W own a ∨ a = A, low own H1, φ1⟩) (env := wipeE (stillE env) vs) (Z := hz (Mo true W.G φ1 own) H1) hvs (.inr rfl) ?_ hA hl.1 (r1.stillWipe vs hA) it (fun bs φ2 S2 H2 r2 hbs k2 => ?_) q (fun bs φ2 S2 H2 ds r2 k2 hbs hnd hacc hrep hdl hq => ?_)
    · show low own H1 A = none
      unfold low hz
      split
      · rfl
      · exact hA
    · intro a o ha
      obtain ⟨n, ha⟩ := hz_some.mp ha
      have na : a ∉ φ1 := fun z => n (.inr (.inl z))
      refine hz_of (k2.keep a o na ha) fun z => ?_
      rcases mu_ands.mp z with z | z
      · rcases z with (z | z) | z | ⟨j, z⟩
        · exact n (z.elim .inl fun z => .inr (.inr z))
        · rw [z, hA] at ha; cases ha
        · have := k2.new a z na
          rw [ha] at this; cases this
        · exact absurd z (by simp [nob])
      · rw [hbs a z] at ha; cases ha
    · have hF : ∀ a ∈ A :: bs, H1 a = none := fun a ha => by
        rcases List.mem_cons.mp ha with z | z
        · rw [z]; exact hA
        · exact hbs a z
      have eG : (fun a => outG W own a ∨ a ∈ A :: bs) = ((⟨fun a => outG W own a ∨ a = A, low own H1, φ1⟩ : Wd).ands bs).G := by
        funext a
        simp [Wd.ands, or_assoc]
      have en : Ent C.K (fun a => outG W own a ∨ a ∈ A :: bs) φ2 S2 H2 := by
        rw [eG]
        exact ⟨r2.ndφ, fun a z => (r2.gd a z).1, r2.mu, r2.cell⟩
      have r3 := r1.calledF hF k2 en
      have me : Mu (W.ands (A :: bs)).G φ2 own = Mu ((⟨fun a => outG W own a ∨ a = A, low own H1, φ1⟩ : Wd).ands bs).G φ2 nob := by
        rw [← eG]
        funext a
        apply propext
        constructor
        · intro z
          rcases z with (z | z) | z | z
          · exact .inl (.inl (.inl z))
          · exact .inl (.inr z)
          · exact .inr (.inl z)
          · exact .inl (.inl (.inr z))
        · intro z
          rcases z with (z | z) | z | ⟨_, z⟩
          · exact z.elim (fun z => .inl (.inl z)) fun z => .inr (.inr z)
          · exact .inl (.inr z)
          · exact .inr (.inl z)
          · exact absurd z (by simp [nob])
      refine hq φ2 _ _ H2 (r3.setOwnF hl.2 (fun a h z => r1.fresh (hF a h) (.inl z)) (fun a h => base_none r1 (hF a h)) ?_)
      refine ⟨A, bs, rfl, rfl, hnd, hacc, ?_, hdl⟩
      rw [me]
      exact hrep
  · rw [if_neg hl] at q; exact q.elim
theorem es_rows {X : Cx} {ew : WX} {elt tg iter : Expr} {scope : Scope} {own : List (Str × Nat)} {pos spos py : Pos} {f : DL} {t : TF} {e : DLs} {is : List Nat} {i : Nat} {y : Str} (hc : X.calm = true) (hN : X.N.Nodup) (hy : X.N[i]? = some y) (hyl : X.env.scope.names.lookup y = some .local)
    (hsw : swapsWith (.ListComp elt [⟨tg, iter, [], 0⟩] scope pos) (some (.Name y py)) spos.line X.env = pure true) (hi : EI X ew true tg iter f) (ok : BlkOk X.N X.env.scope scope own) (hvs : ∀ i ∈ is, i ∈ own.map (·.2))
    (hg : ∀ (s : Shared) (H : Hp) (C : Addr) (cl : List (Str × Addr)) (fp : List Addr), EG (X.blk s H scope (compEnvC scope cl C X.env) fp) ew0 tg is t)
    (he : ∀ (s : Shared) (H : Hp) (C : Addr) (cl : List (Str × Addr)) (fp : List Addr), EF (X.blk s H scope (compEnvC scope cl C X.env) fp) ew0 elt e) (hs : ∀ x, foldedSetIterable iter X.env x = pure x := by intro _; rfl) :
    ES X ew (.Assign [.Name y py] (.ListComp elt [⟨tg, iter, [], 0⟩] scope pos) spos) (sRows f t e (own.map (·.2)) i) :=
  ps_weak (ps_setLc (g := tG ⟨X.K, X.mg, ew0⟩ is t) (tt := tYes) (te := tF ⟨X.K, X.mg, ew0⟩ e) hc hN hy hyl hsw hi ok hg (fun _ _ _ _ _ => pts_nil) he hs) fun D σ H h => tS_rows (C := ⟨X.K, X.mg, ew⟩) (C' := ⟨X.K, X.mg, ew0⟩) rfl hvs h
/-- the same where y is a cell of the def -/
theorem es_rowsC {X : Cx} {ew : WX} {elt tg iter : Expr} {scope : Scope} {own : List (Str × Nat)} {pos spos py : Pos} {f : DL} {t : TF} {e : DLs} {is : List Nat} {i : Nat} {y : Str} (hc : X.calm = true) (hN : X.N.Nodup) (hy : X.N[i]? = some y) (hyl : Loc X.env.scope y)
    (hsw : swapsWith (.ListComp elt [⟨tg, iter, [], 0⟩] scope pos) (some (.Name y py)) spos.line X.env = pure false) (hi : EI X ew true tg iter f) (ok : BlkOk X.N X.env.scope scope own) (hvs : ∀ i ∈ is, i ∈ own.map (·.2))
    (hg : ∀ (s : Shared) (H : Hp) (C : Addr) (cl : List (Str × Addr)) (fp : List Addr), EG (X.blk s H scope (compEnvC scope cl C X.env) fp) ew0 tg is t)
    (he : ∀ (s : Shared) (H : Hp) (C : Addr) (cl : List (Str × Addr)) (fp : List Addr), EF (X.blk s H scope (compEnvC scope cl C X.env) fp) ew0 elt e) (hs : ∀ x, foldedSetIterable iter X.env x = pure x := by intro _; rfl) (hf : X.fn y = true ∨ X.env.scope.names.lookup y = some .local := by first | exact .inl rfl | exact .inr rfl | assumption) :
    ES X ew (.Assign [.Name y py] (.ListComp elt [⟨tg, iter, [], 0⟩] scope pos) spos) (sRows f t e (own.map (·.2)) i) :=
  ps_weak (ps_set hN hy hyl (pe_lc (g := tG ⟨X.K, X.mg, ew0⟩ is t) (tt := tYes) (te := tF ⟨X.K, X.mg, ew0⟩ e) hc hN hi ok hg (fun _ _ _ _ _ => pts_nil) he hs) hsw hf) fun D σ H h => tS_rows (C := ⟨X.K, X.mg, ew⟩) (C' := ⟨X.K, X.mg, ew0⟩) rfl hvs h
theorem RowsR.get {K : PySem.W.Frag} {Z H : Hp} : ∀ {bs : List Addr} {xss : List (List PyData)} {j : Nat} {xs : List PyData}, RowsR K Z H bs xss → xss[j]? = some xs → ∃ b us, bs[j]? = some b ∧ H b = some (.lst us) ∧ xs.length ≤ sizeLine ∧ RepAll K Z us xs
  | _, _, _, _, .nil, e => by simp at e
  | _, _, 0, _, .cons h l r _, e => by simp at e; subst e; exact ⟨_, _, rfl, h, l, r⟩
  | _, _, j + 1, xs, .cons _ _ _ t, e => by
    obtain ⟨b, us, h1, h2⟩ := RowsR.get (j := j) (xs := xs) t (by simpa using e)
    exact ⟨b, us, by simpa using h1, h2⟩
theorem RowsR.setRow {K : PySem.W.Frag} {Z Z' H H' : Hp} {c : Addr} {us : List V} {ys : List PyData} (ez : Ext Z Z') (hc : H' c = some (.lst us)) (hl : ys.length ≤ sizeLine) (hr : RepAll K Z' us ys) : ∀ {bs : List Addr} {xss : List (List PyData)} {j : Nat}, RowsR K Z H bs xss → bs.Nodup → bs[j]? = some c → (∀ b, b ∈ bs → b ≠ c → H' b = H b) → RowsR K Z' H' bs (xss.set j ys)
  | _, _, _, .nil, _, e, _ => by simp at e
  | b :: bs, _, 0, .cons h l r t, nd, e, k => by
    simp at e
    subst e
    have n := (List.nodup_cons.mp nd).1
    exact .cons hc hl hr (t.ext ez fun d hd => k d (List.mem_cons_of_mem _ hd) fun z => n (by rw [← z]; exact hd))
  | b :: bs, _, j + 1, .cons h l r t, nd, e, k => by
    have e' : bs[j]? = some c := by simpa using e
    have n : b ≠ c := fun z => (List.nodup_cons.mp nd).1 (by rw [z]; exact List.mem_of_getElem? e')
    exact .cons (by rw [k b List.mem_cons_self n]; exact h) l (r.ext ez) (RowsR.setRow ez hc hl hr t (List.nodup_cons.mp nd).2 e' fun d hd => k d (List.mem_cons_of_mem _ hd))
/-! ### x[k].append(e) -/
def sAppR (i : Nat) (fk f : DF) : SF := fun env => bnd (ofO ((lk env i).bind Sv.asL2)) fun xss => lift env (fk env) fun k => bnd (ofO (k.asI.bind (ixN xss.length))) fun j => bnd (ofO xss[j]?) fun xs => lift env (f env) fun v => bnd (ofO v.asD) fun p =>
  if xs.length < sizeLine then ret (.nx, env.set i (some (.l2 (xss.set j (xs ++ [p]))))) else no
theorem es_appendR {X : Cx} {ew : WX} {x : Str} {i : Nat} {ek e : Expr} {fk f : DF} {p1 p2 apos cpos pos : Pos} (hN : X.N[i]? = some x) (hv : Vis X.env.scope x) (hk : E X ew true ek fk) (h : E X ew true e f) (hpx : PlainIx ek)
    (hd : (x == ("__debug__" : Str)) = false := by decide) (hcd : (x == ("__classdict__" : Str)) = false := by decide)
    (hbase : attributeBase (.Subscript (.Name x p1) ek p2) "append" X.env (eval (.Subscript (.Name x p1) ek p2) X.env) = eval (.Subscript (.Name x p1) ek p2) X.env := by rfl)
    (hfew : ((backTo cpos (starEach [e] X.env)).all (fun x => !x.1) && (backToKw cpos (keywordEach [] X.env)).all (fun x => x.1.isSome)
      && decide (([e] : List Expr).length + ([] : List Keyword).length + (if ([] : List Keyword).isEmpty then 0 else 1) < 30)) = true := by rfl)
    (hline : (apos.endLine == cpos.line) = true := by rfl) (hst : starEach [e] X.env = (false, eval e X.env) :: starEach [] X.env := by rfl) (hplain : (backTo cpos (starEach [] X.env)).any (·.1) = false := by rfl)
    (hs : swapsWith (.Call (.Attribute (.Subscript (.Name x p1) ek p2) "append" apos) [e] [] cpos) none pos.line X.env = pure false := by rfl) :
    ES X ew (.Expr (.Call (.Attribute (.Subscript (.Name x p1) ek p2) "append" apos) [e] [] cpos) pos) (sAppR i fk f) :=
  ps_weak (ps_expr (pe_bm PySem.F.plainAttrs_list PySem.F.slot_list_append PySem.F.type_list_append mt_append (pe_ix ix_list (pe_var hN hv hd hcd) hk hpx) (pa_cons h pa_nil hst) hbase hfew hline hst hplain) hs) fun D σ H h => by
    obtain ⟨W, φ, own, env, S, r, h⟩ := h
    obtain ⟨xss, e1, h1⟩ := sat_ofO.mp (sat_bnd.mp h)
    obtain ⟨sv, es, e1⟩ := Option.bind_eq_some_iff.mp e1
    have es := lk_some es
    obtain rfl := asL2_some e1
    obtain ⟨u, hu, a, bs, rfl, hF, hnd, ha, hrows, hl⟩ := r.slot i _ es
    have hao : a ∈ own i := by rw [hF]; simp
    refine ⟨.ref a, hu, W, φ, own, env, S, r, (sat_lift.mp h1).mono (fun v S1 q φ1 H1 y r1 k1 v1 => ?_) fun x S1 q φ1 H1 r1 k1 => q φ1 own σ H1 r1⟩
    obtain ⟨j, e2, q2⟩ := sat_ofO.mp (sat_bnd.mp q)
    obtain ⟨k, e2, e3⟩ := Option.bind_eq_some_iff.mp e2
    obtain rfl := asI_some e2
    obtain ⟨xs, e4, q3⟩ := sat_ofO.mp (sat_bnd.mp q2)
    cases v1
    have ha1 : H1 a = some (.lst (bs.map V.ref)) := k1.keep a _ (r.apart i a hao) ha
    obtain ⟨b, us, hb, hHb, hlb, hrb⟩ := hrows.get e4
    have hbo : b ∈ own i := by rw [hF]; exact List.mem_cons_of_mem _ (List.mem_of_getElem? hb)
    have hHb1 : H1 b = some (.lst us) := k1.keep b _ (r.apart i b hbo) hHb
    have hat : atI (bs.map V.ref) k = some (.ref b) := by
      unfold atI
      rw [List.length_map, hrows.length, e3]
      show (bs.map V.ref)[j]? = _
      rw [List.getElem?_map, hb]; rfl
    refine ⟨a, bs.map V.ref, k, .ref b, rfl, rfl, .inl (.inl ha1), hat, .inl ⟨rfl, _, .inl (.inl hHb1)⟩, W, φ1, own, env, S1, r1, (sat_lift.mp q3).mono (fun v S2 q4 φ2 H2 y r2 k2 v2 => ?_) fun x S2 q φ2 H2 r2 k2 => q φ2 own σ H2 r2⟩
    obtain ⟨p, e5, q5⟩ := sat_ofO.mp (sat_bnd.mp q4)
    obtain rfl := asD_some e5
    have hHb2 : H2 b = some (.lst us) := k2.keep b _ (r1.apart i b hbo) hHb1
    have ha2 : H2 a = some (.lst (bs.map V.ref)) := k2.keep a _ (r1.apart i a hao) ha1
    by_cases hz : xs.length < sizeLine
    · rw [if_pos hz] at q5
      refine ⟨b, us, y, rfl, rfl, hHb2, by rw [hrb.length]; exact hz, ?_⟩
      have nab : a ≠ b := fun z => (List.nodup_cons.mp hnd).1 (by rw [z]; exact List.mem_of_getElem? hb)
      have e12 := Ext.trans (Kp.hz (fl := true) k1) (Kp.hz (fl := true) (G := W.G) (own := own) k2)
      refine q5 φ2 own σ _ (r2.updOwn es hu hbo (plain_lst _) fun ex => ⟨a, bs, rfl, hF, hnd, by rw [upd_ne nab]; exact ha2, ?_, by rw [List.length_set]; exact hl⟩)
      refine RowsR.setRow (H := H) (Ext.trans e12 ex) upd_same (by rw [List.length_append]; exact hz) ((hrb.ext (Ext.trans e12 ex)).append (.cons (Rep.ext ex v2) .nil)) hrows (List.nodup_cons.mp hnd).2 hb fun c hc nc => ?_
      rw [upd_ne nc]
      have hco : c ∈ own i := by rw [hF]; exact List.mem_cons_of_mem _ hc
      obtain ⟨o, ho⟩ := r.mu.get (.inr (.inr ⟨i, hco⟩))
      rw [ho, k2.keep c o (r1.apart i c hco) (k1.keep c o (r.apart i c hco) ho)]
    · rw [if_neg hz] at q5; exact q5.elim
/-! ### x[k][l] = e -/
def sSetR (i : Nat) (fk fl f : DF) : SF := fun env => lift env (f env) fun v => bnd (ofO v.asD) fun p => bnd (ofO ((lk env i).bind Sv.asL2)) fun xss => lift env (fk env) fun k => bnd (ofO (k.asI.bind (ixN xss.length))) fun j => bnd (ofO xss[j]?) fun xs => lift env (fl env) fun l => bnd (ofO (l.asI.bind (ixN xs.length))) fun m =>
  ret (.nx, env.set i (some (.l2 (xss.set j (xs.set m p)))))
end KP


set_option Elab.async false
set_option linter.all false
set_option maxRecDepth 100000
/-! KO: stores into owned lists; pop; owned dicts. -/
namespace KP
open PySem PySem.Spec PyProof.Rows L2
section
variable {X : Cx} {ew : WX} {x : Str} {i : Nat} {ek el e : Expr} {fk fl f : DF} {p1 p2 p3 pos : Pos}
theorem pe_hold {X : Cx} {e : Expr} {t : TE} (h : PE X e t) : PE X e t := h
theorem es_setR (hN : X.N[i]? = some x) (hv : Vis X.env.scope x) (hk : E X ew true ek fk) (hl : E X ew true el fl) (h : E X ew true e f) (hpx : PlainIx ek)
    (hd : (x == ("__debug__" : Str)) = false := by decide) (hcd : (x == ("__classdict__" : Str)) = false := by decide)
    (ha : ∀ v, assign (.Subscript (.Subscript (.Name x p1) ek p2) el p3) X.env v = (do
      let ov ← holding [v] (eval (.Subscript (.Name x p1) ek p2) X.env)
      let iv ← holding [v, ov] (eval el X.env)
      standAt p3
      holding [v, ov, iv] (setItem ov iv v)
      release [v, ov, iv] []) := by intro _; rfl)
    (hs : swapsWithSole [.Subscript (.Subscript (.Name x p1) ek p2) el p3] e pos.line X.env = pure false := by rfl) (hw : swappedStores [.Subscript (.Subscript (.Name x p1) ek p2) el p3] e X.env = pure none := by rfl)
    (h1 : (assignEach [.Subscript (.Subscript (.Name x p1) ek p2) el p3] X.env).map (·.2) = [assign (.Subscript (.Subscript (.Name x p1) ek p2) el p3) X.env] := by rfl) :
    ES X ew (.Assign [.Subscript (.Subscript (.Name x p1) ek p2) el p3] e pos) (sSetR i fk fl f) :=
  ps_weak (ps_asg h (pg_sub (pe_ix ix_list (pe_var hN hv hd hcd) hk hpx) hl set_list ha) hs hw h1) fun D σ H h => by
    obtain ⟨W, φ0, own, env, S0, r0, h⟩ := h
    refine ⟨W, φ0, own, env, S0, r0, (sat_lift.mp h).mono (fun v S q φ H0 y r k0 v0 => ?_) fun x S1 q φ1 H1 r1 k1 => q φ1 own σ H1 r1⟩
    obtain ⟨p, e0, q0⟩ := sat_ofO.mp (sat_bnd.mp q)
    obtain rfl := asD_some e0
    obtain ⟨xss, e1, h1⟩ := sat_ofO.mp (sat_bnd.mp q0)
    obtain ⟨sv, es, e1⟩ := Option.bind_eq_some_iff.mp e1
    have es := lk_some es
    obtain rfl := asL2_some e1
    obtain ⟨u, hu, a, bs, rfl, hF, hnd, ha, hrows, hl⟩ := r.slot i _ es
    have hao : a ∈ own i := by rw [hF]; simp
    refine ⟨.ref a, hu, W, φ, own, env, S, r, (sat_lift.mp h1).mono (fun v S1 q φ1 H1 y' r1 k1 v1 => ?_) fun x S1 q φ1 H1 r1 k1 => q φ1 own σ H1 r1⟩
    obtain ⟨j, e2, q2⟩ := sat_ofO.mp (sat_bnd.mp q)
    obtain ⟨k, e2, e3⟩ := Option.bind_eq_some_iff.mp e2
    obtain rfl := asI_some e2
    obtain ⟨xs, e4, q3⟩ := sat_ofO.mp (sat_bnd.mp q2)
    cases v1
    have ha1 : H1 a = some (.lst (bs.map V.ref)) := k1.keep a _ (r.apart i a hao) ha
    obtain ⟨b, us, hb, hHb, hlb, hrb⟩ := hrows.get e4
    have hbo : b ∈ own i := by rw [hF]; exact List.mem_cons_of_mem _ (List.mem_of_getElem? hb)
    have hHb1 : H1 b = some (.lst us) := k1.keep b _ (r.apart i b hbo) hHb
    have hat : atI (bs.map V.ref) k = some (.ref b) := by
      unfold atI
      rw [List.length_map, hrows.length, e3]
      show (bs.map V.ref)[j]? = _
      rw [List.getElem?_map, hb]; rfl
    refine ⟨a, bs.map V.ref, k, .ref b, rfl, rfl, .inl (.inl ha1), hat, W, φ1, own, env, S1, r1, (sat_lift.mp q3).mono (fun v S2 q4 φ2 H2 y'' r2 k2 v2 => ?_) fun x S2 q φ2 H2 r2 k2 => q φ2 own σ H2 r2⟩
    obtain ⟨m, e5, q5⟩ := sat_ofO.mp (sat_bnd.mp q4)
    obtain ⟨l, e5, e6⟩ := Option.bind_eq_some_iff.mp e5
    obtain rfl := asI_some e5
    cases v2
    have hHb2 : H2 b = some (.lst us) := k2.keep b _ (r1.apart i b hbo) hHb1
    have ha2 : H2 a = some (.lst (bs.map V.ref)) := k2.keep a _ (r1.apart i a hao) ha1
    have hm : m < xs.length := by
      unfold ixN at e6
      split at e6
      · split at e6
        · cases e6; omega
        · cases e6
      · split at e6
        · cases e6; omega
        · cases e6
    refine ⟨b, us, l, m, rfl, rfl, hHb2, by rw [hrb.length]; exact e6, ?_⟩
    have nab : a ≠ b := fun z => (List.nodup_cons.mp hnd).1 (by rw [z]; exact List.mem_of_getElem? hb)
    have e12 := Ext.trans (Kp.hz (fl := true) k1) (Kp.hz (fl := true) (G := W.G) (own := own) k2)
    refine q5 φ2 own σ _ (r2.updOwn es hu hbo (plain_lst _) fun ex => ⟨a, bs, rfl, hF, hnd, by rw [upd_ne nab]; exact ha2, ?_, by rw [List.length_set]; exact hl⟩)
    refine RowsR.setRow (H := H0) (Ext.trans e12 ex) upd_same (by rw [List.length_set]; exact hlb) ((hrb.ext (Ext.trans e12 ex)).set (Rep.ext (Ext.trans e12 ex) v0) m) hrows (List.nodup_cons.mp hnd).2 hb fun c hc nc => ?_
    rw [upd_ne nc]
    have hco : c ∈ own i := by rw [hF]; exact List.mem_cons_of_mem _ hc
    obtain ⟨o, ho⟩ := r.mu.get (.inr (.inr ⟨i, hco⟩))
    rw [ho, k2.keep c o (r1.apart i c hco) (k1.keep c o (r.apart i c hco) ho)]
/-! ### x[k] = e of an owned list -/
def sSetL (i : Nat) (fk f : DF) : SF := fun env => lift env (f env) fun v => bnd (ofO v.asD) fun p => bnd (ofO ((lk env i).bind Sv.asL1)) fun xs => lift env (fk env) fun k => bnd (ofO (k.asI.bind (ixN xs.length))) fun j => ret (.nx, env.set i (some (.l1 (xs.set j p))))
theorem es_setL (hN : X.N[i]? = some x) (hv : Vis X.env.scope x) (hk : E X ew true ek fk) (h : E X ew true e f)
    (hd : (x == ("__debug__" : Str)) = false := by decide) (hcd : (x == ("__classdict__" : Str)) = false := by decide)
    (ha : ∀ v, assign (.Subscript (.Name x p1) ek p3) X.env v = (do
      let ov ← holding [v] (eval (.Name x p1) X.env)
      let iv ← holding [v, ov] (eval ek X.env)
      standAt p3
      holding [v, ov, iv] (setItem ov iv v)
      release [v, ov, iv] []) := by intro _; rfl)
    (hs : swapsWithSole [.Subscript (.Name x p1) ek p3] e pos.line X.env = pure false := by rfl) (hw : swappedStores [.Subscript (.Name x p1) ek p3] e X.env = pure none := by rfl)
    (h1 : (assignEach [.Subscript (.Name x p1) ek p3] X.env).map (·.2) = [assign (.Subscript (.Name x p1) ek p3) X.env] := by rfl) :
    ES X ew (.Assign [.Subscript (.Name x p1) ek p3] e pos) (sSetL i fk f) :=
  ps_weak (ps_asg h (pg_sub (pe_var hN hv hd hcd) hk set_list ha) hs hw h1) fun D σ H h => by
    obtain ⟨W, φ0, own, env, S0, r0, h⟩ := h
    refine ⟨W, φ0, own, env, S0, r0, (sat_lift.mp h).mono (fun v S q φ H0 y r k0 v0 => ?_) fun x S1 q φ1 H1 r1 k1 => q φ1 own σ H1 r1⟩
    obtain ⟨p, e0, q0⟩ := sat_ofO.mp (sat_bnd.mp q)
    obtain rfl := asD_some e0
    obtain ⟨xs, e1, h1⟩ := sat_ofO.mp (sat_bnd.mp q0)
    obtain ⟨sv, es, e1⟩ := Option.bind_eq_some_iff.mp e1
    have es := lk_some es
    obtain rfl := asL1_some e1
    obtain ⟨u, hu, a, us, rfl, hF, ha, hr, hl⟩ := r.slot i _ es
    have hao : a ∈ own i := by rw [hF]; simp
    refine ⟨.ref a, hu, W, φ, own, env, S, r, (sat_lift.mp h1).mono (fun v S1 q φ1 H1 y' r1 k1 v1 => ?_) fun x S1 q φ1 H1 r1 k1 => q φ1 own σ H1 r1⟩
    obtain ⟨j, e2, q2⟩ := sat_ofO.mp (sat_bnd.mp q)
    obtain ⟨k, e2, e3⟩ := Option.bind_eq_some_iff.mp e2
    obtain rfl := asI_some e2
    cases v1
    have ha1 : H1 a = some (.lst us) := k1.keep a _ (r.apart i a hao) ha
    refine ⟨a, us, k, j, rfl, rfl, ha1, by rw [hr.length]; exact e3, ?_⟩
    have e12 := Kp.hz (fl := true) (G := W.G) (own := own) k1
    exact q2 φ1 own σ _ (r1.updOwn es hu hao (plain_lst _) fun ex => ⟨a, us.set j y, rfl, hF, upd_same, (hr.ext (Ext.trans e12 ex)).set (Rep.ext (Ext.trans e12 ex) v0) j, by rw [List.length_set]; exact hl⟩)
end
theorem RepAll.dropLast {K : PySem.W.Frag} {H : Hp} {us : List V} {xs : List PyData} (h : RepAll K H us xs) : RepAll K H us.dropLast xs.dropLast := by
  rw [List.dropLast_eq_take, List.dropLast_eq_take, h.length]
  exact h.take _
/-! ### t = x.pop() -/
def sPop (i : Nat) (t : TF) : SF := fun env => bnd (ofO ((lk env i).bind Sv.asL1)) fun xs => bnd (ofO xs[xs.length - 1]?) fun p => bnd (ofO (t (.d p) (env.set i (some (.l1 xs.dropLast))))) fun env' => ret (.nx, env')
theorem es_pop {X : Cx} {ew : WX} {x : Str} {i : Nat} {tg : Expr} {t : TF} {is : List Nat} {p1 apos cpos pos : Pos} (hN : X.N[i]? = some x) (hv : Vis X.env.scope x) (hg : EG X ew tg is t)
    (hd : (x == ("__debug__" : Str)) = false := by decide) (hcd : (x == ("__classdict__" : Str)) = false := by decide)
    (hbase : attributeBase (.Name x p1) "pop" X.env (eval (.Name x p1) X.env) = eval (.Name x p1) X.env := by rfl) (hline : (apos.endLine == cpos.line) = true := by rfl)
    (hs : swapsWithSole [tg] (.Call (.Attribute (.Name x p1) "pop" apos) [] [] cpos) pos.line X.env = pure false := by rfl) (hw : swappedStores [tg] (.Call (.Attribute (.Name x p1) "pop" apos) [] [] cpos) X.env = pure none := by rfl)
    (h1 : (assignEach [tg] X.env).map (·.2) = [assign tg X.env] := by rfl) :
    ES X ew (.Assign [tg] (.Call (.Attribute (.Name x p1) "pop" apos) [] [] cpos) pos) (sPop i t) :=
  ps_weak (ps_asg (pe_bm0 PySem.F.plainAttrs_list PySem.F.slot_list_pop PySem.F.type_list_pop mt_pop (pe_var hN hv hd hcd) hbase hline) hg hs hw h1) fun D σ H h => by
    obtain ⟨W, φ, own, env, S, r, h⟩ := h
    obtain ⟨xs, e1, h1⟩ := sat_ofO.mp (sat_bnd.mp h)
    obtain ⟨sv, es, e1⟩ := Option.bind_eq_some_iff.mp e1
    have es := lk_some es
    obtain rfl := asL1_some e1
    obtain ⟨p, e2, h2⟩ := sat_ofO.mp (sat_bnd.mp h1)
    obtain ⟨env', e3, h3⟩ := sat_ofO.mp (sat_bnd.mp h2)
    obtain ⟨u, hu, a, us, rfl, hF, ha, hr, hl⟩ := r.slot i _ es
    have hao : a ∈ own i := by rw [hF]; simp
    obtain ⟨y, hy, ry⟩ := hr.get e2
    have hm : Mu W.G φ own a := .inr (.inr ⟨i, hao⟩)
    have ex0 : Ext (hz (Mu W.G φ own) H) (hz (Mu W.G φ own) (upd H a (.lst us.dropLast))) := fun b x h => by
      obtain ⟨n, h⟩ := hz_some.mp h
      exact hz_of (by rw [upd_ne fun z => n (by rw [z]; exact hm)]; exact h) n
    refine ⟨.ref a, hu, .inl ⟨rfl, _, .inl (.inl ha)⟩, a, us, y, rfl, rfl, ha, by rw [hr.length]; exact hy, ?_⟩
    have r2 := r.updOwn (sv' := .l1 xs.dropLast) es hu hao (plain_lst us.dropLast) fun ex => ⟨a, us.dropLast, rfl, hF, upd_same, (hr.ext ex).dropLast, by rw [List.length_dropLast]; omega⟩
    exact ⟨W, φ, own, _, S, .d p, r2, ry.ext ex0, env', e3, fun own' σ' r' _ _ => h3 φ own' σ' _ r'⟩
/-! ### keys as data -/
def asKey : PyData → Option Key
  | .int i => some (.inl i)
  | .str x => some (.inr x)
  | _ => none
def asKeys : List PyData → Option (List Key)
  | [] => some []
  | p :: ps => (asKey p).bind fun k => (asKeys ps).map (k :: ·)
def asKeyT : PyData → Option (List Key)
  | .tuple ps => asKeys ps
  | _ => none
theorem asKey_rep {K : PySem.W.Frag} {Z : Hp} {y : V} {p : PyData} {k : Key} (h : asKey p = some k) (r : Rep K Z y p) : y = kV k := by
  cases p <;> simp [asKey] at h <;> subst h <;> cases r <;> rfl
theorem asKeys_rep {K : PySem.W.Frag} {Z : Hp} : ∀ {ys : List V} {ps : List PyData} {ks : List Key}, asKeys ps = some ks → RepAll K Z ys ps → ys = ks.map kV
  | _, [], _, h, .nil => by cases h; rfl
  | _, p :: ps, _, h, .cons r t => by
    obtain ⟨k, e1, h⟩ := Option.bind_eq_some_iff.mp h
    obtain ⟨ks, e2, h⟩ := Option.map_eq_some_iff.mp h
    subst h
    rw [asKey_rep e1 r, asKeys_rep e2 t]; rfl
theorem asKeyT_rep {K : PySem.W.Frag} {Z : Hp} {y : V} {p : PyData} {ks : List Key} (h : asKeyT p = some ks) (r : Rep K Z y p) : ∃ b, y = .ref b ∧ Z b = some (.tup (ks.map kV)) := by
  cases p <;> simp [asKeyT] at h
  cases r with
  | tup hb hl ha => exact ⟨_, rfl, by rw [hb, asKeys_rep h ha]⟩
def valD {κ : Type} [DecidableEq κ] (kvs : List (κ × PyData)) (k : κ) : Option PyData := (kvs.find? fun kv => decide (kv.1 = k)).map (·.2)
def putD {κ : Type} [DecidableEq κ] (kvs : List (κ × PyData)) (k : κ) (v : PyData) : List (κ × PyData) :=
  if (kvs.any fun kv => decide (kv.1 = k)) = true then kvs.map (fun kv => if kv.1 = k then (kv.1, v) else kv) else kvs ++ [(k, v)]
theorem KRep.val {κ : Type} [DecidableEq κ] {K : PySem.W.Frag} {Z : Hp} {k : κ} : ∀ {ks : List (κ × V)} {kvs : List (κ × PyData)}, KRep K Z ks kvs → (valV ks k = none ∧ valD kvs k = none) ∨ ∃ v p, valV ks k = some v ∧ valD kvs k = some p ∧ Rep K Z v p
  | _, _, .nil => .inl ⟨rfl, rfl⟩
  | (j, v) :: _, (_, p) :: _, .cons h t => by
    by_cases e : j = k
    · exact .inr ⟨v, p, by simp [valV, e], by simp [valD, e], h⟩
    · have := KRep.val (k := k) t
      simpa [valV, valD, e] using this
theorem KRep.put {κ : Type} [DecidableEq κ] {K : PySem.W.Frag} {Z : Hp} {k : κ} {v : V} {p : PyData} (hv : Rep K Z v p) {ks : List (κ × V)} {kvs : List (κ × PyData)} (h : KRep K Z ks kvs) : KRep K Z (putK ks k v) (putD kvs k p) := by
  have any : (ks.any fun kv => decide (kv.1 = k)) = (kvs.any fun kv => decide (kv.1 = k)) := by
    induction h with
    | nil => rfl
    | cons _ _ ih => simp [ih]
  have mp : ∀ {ks : List (κ × V)} {kvs : List (κ × PyData)}, KRep K Z ks kvs → KRep K Z (ks.map (fun kv => if kv.1 = k then (kv.1, v) else kv)) (kvs.map (fun kv => if kv.1 = k then (kv.1, p) else kv)) := fun h => by
    induction h with
    | nil => exact .nil
    | @cons j w q _ _ hw _ ih =>
      simp only [List.map_cons]
      by_cases e : j = k
      · rw [if_pos e, if_pos e]; exact .cons hv ih
      · rw [if_neg e, if_neg e]; exact .cons hw ih
  have ap : ∀ {ks : List (κ × V)} {kvs : List (κ × PyData)}, KRep K Z ks kvs → KRep K Z (ks ++ [(k, v)]) (kvs ++ [(k, p)]) := fun h => by
    induction h with
    | nil => exact .cons hv .nil
    | cons hw _ ih => exact .cons hw ih
  unfold putK putD
  rw [any]
  split
  · exact mp h
  · exact ap h
/-! ### an empty dict is of both kinds -/
theorem inv_dT {X : Cx} {pins : List (Addr × Obj)} {σ : L2.St} {H : Hp} {s : Shared} {a : Addr} (I : Inv X pins σ H s) (e : H a = some (.dK [])) : Inv X pins σ (upd H a (.dT [])) s := by
  obtain ⟨z, hd, vs, rel, o, es, ep, h1, h2, h3, h4, h5, h6⟩ := dk_of I.hok e
  cases rel
  refine d_write (h' := s.heap) (t' := s.toks) (s := s) I (by rw [e]; exact True.intro) (Heap.SameBut.refl _ _) ⟨o, h1⟩ ⟨z, hd, [], .nil, o, es, ep, h1, h2, h3, ?_, List.nodup_nil⟩
  have e0 : es.toList = [] := by
    generalize es.toList = l at h5
    cases h5
    rfl
  rw [e0]
  rfl
theorem d_setdT {X : Cx} {pins : List (Addr × Obj)} {σ : L2.St} {H : Hp} {s : Shared} {a b : Addr} {r : Value} {d : V} {k : List Key} {A : Around} {E : Value → Shared → Prop} {kvs : List (List Key × V)} {Q : Value → Shared → Prop} (hu : A.units + 1 < cLine) (I : Inv X pins σ H s) (e : H a = some (.dT kvs)) (eb : H b = some (.tup (k.map kV))) (rd : RelV d r) (hl : kvs.length < sizeLine)
    (h1 : ∀ v, valV kvs k = some v → ∀ (w' : Value) (s' : Shared), Inv X pins σ H s' → RelV v w' → Q w' s') (h2 : valV kvs k = none → ∀ (w' : Value) (s' : Shared), Inv X pins σ (upd H a (.dT (putK kvs k d))) s' → RelV d w' → Q w' s') :
    wpAny (model X.prog X.w) A (call (.builtin "dict.setdefault") [.ref a, .ref b, r]) Q E s := by
  obtain ⟨z, hd, xs, rel, dd⟩ := dt_of I.hok e
  have hz : xs.length ≤ sizeLine := by rw [← Paired.length rel]; exact z
  have hl2 : (putK kvs k d).length ≤ sizeLine := by have := length_putK kvs k d; omega
  refine call_setdefault_heap (hsz := hz) (tupleKind_room_in1 hu) (key_of I.hok eb) hd dd (fun p hp => ?_) fun hn h' dd' hs => ?_
  · have q := rel.val k
    rw [hp] at q
    cases q0 : valV kvs k with
    | none => rw [q0] at q; exact (show False from q).elim
    | some v0 => rw [q0] at q; exact h1 v0 q0 _ _ (I.tok _) q
  · have q := rel.val k
    rw [hn] at q
    cases q0 : valV kvs k with
    | some v0 => rw [q0] at q; exact (show False from q).elim
    | none =>
      obtain ⟨q, es, ep, hq, h2', h3, h4, _, h5⟩ := dd'
      refine h2 q0 _ _ (d_write I (by rw [e]; exact True.intro) hs ⟨q, hq⟩ ⟨hl2, hd, _, (rel.put k eb rd).keeps fun c ys ec => ?_, q, es, ep, hq, h2', h3, h4, h5⟩) rd
      rw [upd_ne (ne_of ec e (fun z => nomatch z))]
      exact ec
/-- d.setdefault(k, x), by data: d an owned dict -/
def Dk.setd (d : Dk) (k x : PyData) : Option (PyData × Dk) := match d with
  | .k kvs => match asKey k with
    | some q => if kvs.length < sizeLine then (match valD kvs q with
      | some v => some (v, .k kvs)
      | none => some (x, .k (putD kvs q x))) else none
    | none => match kvs, asKeyT k with
      | [], some q => some (x, .t [(q, x)])
      | _, _ => none
  | .t kvs => match asKeyT k with
    | some q => if kvs.length < sizeLine then (match valD kvs q with
      | some v => some (v, .t kvs)
      | none => some (x, .t (putD kvs q x))) else none
    | none => none
/-- what is asked of the values -/
def rSetd (a : Addr) (y z : V) (H : Hp) (Q : VK) : Prop :=
  (∃ (kvs : List (Key × V)) (k : Key), H a = some (.dK kvs) ∧ y = kV k ∧ kvs.length < sizeLine ∧ (∀ v, valV kvs k = some v → Q v H) ∧ (valV kvs k = none → Q z (upd H a (.dK (putK kvs k z))))) ∨
  (∃ (kvs : List (List Key × V)) (k : List Key) (b : Addr), H a = some (.dT kvs) ∧ y = .ref b ∧ H b = some (.tup (k.map kV)) ∧ kvs.length < sizeLine ∧ (∀ v, valV kvs k = some v → Q v H) ∧ (valV kvs k = none → Q z (upd H a (.dT (putK kvs k z))))) ∨
  (∃ (k : List Key) (b : Addr), H a = some (.dK []) ∧ y = .ref b ∧ H b = some (.tup (k.map kV)) ∧ Q z (upd H a (.dT [(k, z)])))
def tDSetdA (td ty tx : TE) : TE := fun σ H Q => td σ H fun x H1 => ∃ a, x = .ref a ∧ IsD H1 a ∧ ty σ H1 fun y H2 => tx σ H2 fun z H3 => rSetd a y z H3 Q
theorem pe_dsetdA {X : Cx} {o e f : Expr} {td ty tx : TE} {apos cpos : Pos} (hu : X.A.units + 1 < cLine) (ho : PE X o td) (he : PE X e ty) (hf : PE X f tx) (m : M2 X o "setdefault" apos e f cpos) : PE X (.Call (.Attribute o "setdefault" apos) [e, f] [] cpos) (tDSetdA td ty tx) := by
  refine ⟨fun pins s σ H Q I h => ?_⟩
  refine wpAny_Call_method m.base m.few m.line PySem.F.plainAttrs_dict PySem.F.slot_dict_setdefault PySem.F.type_dict_setdefault (thn (ho.run pins s σ H _ I h) fun u s1 ⟨x, H1, I1, rx, a, ex, d, q1⟩ => ?_)
  subst ex
  obtain rfl : u = Value.ref a := rx
  obtain ⟨t1, t2, _⟩ := isD_at I1 d
  refine ⟨t1, t2, ?_⟩
  rw [m.trees]
  refine Calls.callWith_builtin rfl (Calls.evalArgs_plain (Calls.spliced_cons (thn (he.run pins s1 σ H1 _ I1 q1) fun iv s2 ⟨y, H2, I2, ry, q2⟩ =>
    Calls.spliced_cons (thn (hf.run pins s2 σ H2 _ I2 q2) fun fv s3 ⟨z, H3, I3, rz, q3⟩ => Calls.spliced_nil ?_))))
  rcases q3 with ⟨kvs, k, ea, ey, hl, q3, q4⟩ | ⟨kvs, k, b, ea, ey, eb, hl, q3, q4⟩ | ⟨k, b, ea, ey, eb, q4⟩
  · subst ey
    exact d_setd I3 ea ry rz hl (fun v hv w' s4 I4 rw' => ⟨v, _, I4, rw', q3 v hv⟩) fun hn w' s4 I4 rw' => ⟨z, _, I4, rw', q4 hn⟩
  · subst ey
    cases (show iv = Value.ref b from ry)
    exact d_setdT hu I3 ea eb rz hl (fun v hv w' s4 I4 rw' => ⟨v, _, I4, rw', q3 v hv⟩) fun hn w' s4 I4 rw' => ⟨z, _, I4, rw', q4 hn⟩
  · subst ey
    cases (show iv = Value.ref b from ry)
    have nab : b ≠ a := ne_of eb ea (fun z => nomatch z)
    refine d_setdT hu (inv_dT I3 ea) upd_same (by rw [upd_ne nab]; exact eb) rz (by show 0 < sizeLine; decide) (fun v hv => by cases hv) fun hn w' s4 I4 rw' => ⟨z, _, I4, rw', ?_⟩
    rw [upd_upd]
    exact q4
/-- the step at an owned dict's slot -/
theorem setd_slot {K : PySem.W.Frag} {W : Wd} {φ : List Addr} {own : Nat → List Addr} {env : En} {S : Sto} {σ : L2.St} {H : Hp} (r : Rel K W φ own env S σ H) {i : Nat} {d d' : Dk} {k x v : PyData} {a : Addr} {y z : V} {Q : VK} (es : env[i]? = some (some (.dd d))) (hu : σ[i]? = some (some (.ref a))) (hF : own i = [a]) (hd : DictR K (hz (Mu W.G φ own) H) H a d)
    (hk : Rep K (hz (Mu W.G φ own) H) y k) (hx : Rep K (hz (Mu W.G φ own) H) z x) (e : d.setd k x = some (v, d'))
    (h : ∀ H' u, Rel K W φ own (env.set i (some (.dd d'))) S σ H' → Kp φ H φ H' ∨ True → Rep K (hz (Mu W.G φ own) H') u v → Q u H') : rSetd a y z H Q := by
  have hao : a ∈ own i := by rw [hF]; simp
  have hi : i < env.length := (List.getElem?_eq_some_iff.mp es).1
  have same : ∀ d0, d = d0 → Rel K W φ own (env.set i (some (.dd d0))) S σ H := fun d0 e0 => by
    subst e0
    have : env.set i (some (.dd d)) = env := by
      apply List.ext_getElem?
      intro j
      by_cases ej : i = j
      · subst ej; rw [List.getElem?_set_self hi, es]
      · rw [List.getElem?_set_ne ej]
    rw [this]; exact r
  cases d with
  | k kvs =>
    obtain ⟨ks, hH, hr⟩ := hd
    unfold Dk.setd at e
    dsimp only at e
    cases ek : asKey k with
    | some q =>
      rw [ek] at e
      dsimp only at e
      by_cases hl : kvs.length < sizeLine
      · rw [if_pos hl] at e
        refine .inl ⟨ks, q, hH, asKey_rep ek hk, by rw [hr.length]; exact hl, fun w hw => ?_, fun hn => ?_⟩
        · rcases hr.val (k := q) with ⟨h1, _⟩ | ⟨w', p, h1, h2, h3⟩
          · rw [h1] at hw; cases hw
          · rw [h1] at hw; cases hw
            rw [h2] at e
            cases e
            exact h H w (same _ rfl) (.inr trivial) h3
        · rcases hr.val (k := q) with ⟨_, h2⟩ | ⟨w', p, h1, _, _⟩
          · rw [h2] at e
            cases e
            have hm : Mu W.G φ own a := .inr (.inr ⟨i, hao⟩)
            have ex0 : Ext (hz (Mu W.G φ own) H) (hz (Mu W.G φ own) (upd H a (.dK (putK ks q z)))) := fun b x h => by
              obtain ⟨n, h⟩ := hz_some.mp h
              exact hz_of (by rw [upd_ne fun z => n (by rw [z]; exact hm)]; exact h) n
            exact h _ z (r.updOwn es hu hao (plain_dK _) fun ex => ⟨a, rfl, hF, _, upd_same, (hr.ext ex).put (hx.ext ex)⟩) (.inr trivial) (hx.ext ex0)
          · rw [h1] at hn; cases hn
      · rw [if_neg hl] at e; cases e
    | none =>
      rw [ek] at e
      dsimp only at e
      cases kvs with
      | cons _ _ => cases e
      | nil =>
        cases et : asKeyT k with
        | none => rw [et] at e; cases e
        | some q =>
          rw [et] at e
          cases e
          cases hr
          obtain ⟨b, hb, hZb⟩ := asKeyT_rep et hk
          have hm : Mu W.G φ own a := .inr (.inr ⟨i, hao⟩)
          have ex0 : Ext (hz (Mu W.G φ own) H) (hz (Mu W.G φ own) (upd H a (.dT [(q, z)]))) := fun b x h => by
            obtain ⟨n, h⟩ := hz_some.mp h
            exact hz_of (by rw [upd_ne fun z => n (by rw [z]; exact hm)]; exact h) n
          refine .inr (.inr ⟨q, b, hH, hb, (hz_some.mp hZb).2, ?_⟩)
          exact h _ z (r.updOwn es hu hao (plain_dT _) fun ex => ⟨a, rfl, hF, _, upd_same, .cons (hx.ext ex) .nil⟩) (.inr trivial) (hx.ext ex0)
  | t kvs =>
    obtain ⟨ks, hH, hr⟩ := hd
    unfold Dk.setd at e
    dsimp only at e
    cases ek : asKeyT k with
    | none => rw [ek] at e; cases e
    | some q =>
      rw [ek] at e
      dsimp only at e
      obtain ⟨b, hb, hZb⟩ := asKeyT_rep ek hk
      by_cases hl : kvs.length < sizeLine
      · rw [if_pos hl] at e
        refine .inr (.inl ⟨ks, q, b, hH, hb, (hz_some.mp hZb).2, by rw [hr.length]; exact hl, fun w hw => ?_, fun hn => ?_⟩)
        · rcases hr.val (k := q) with ⟨h1, _⟩ | ⟨w', p, h1, h2, h3⟩
          · rw [h1] at hw; cases hw
          · rw [h1] at hw; cases hw
            rw [h2] at e
            cases e
            exact h H w (same _ rfl) (.inr trivial) h3
        · rcases hr.val (k := q) with ⟨_, h2⟩ | ⟨w', p, h1, _, _⟩
          · rw [h2] at e
            cases e
            have hm : Mu W.G φ own a := .inr (.inr ⟨i, hao⟩)
            have ex0 : Ext (hz (Mu W.G φ own) H) (hz (Mu W.G φ own) (upd H a (.dT (putK ks q z)))) := fun b x h => by
              obtain ⟨n, h⟩ := hz_some.mp h
              exact hz_of (by rw [upd_ne fun z => n (by rw [z]; exact hm)]; exact h) n
            exact h _ z (r.updOwn es hu hao (plain_dT _) fun ex => ⟨a, rfl, hF, _, upd_same, (hr.ext ex).put (hx.ext ex)⟩) (.inr trivial) (hx.ext ex0)
          · rw [h1] at hn; cases hn
      · rw [if_neg hl] at e; cases e
end KP


set_option Elab.async false
set_option linter.all false
set_option maxRecDepth 100000
/-! KQ: owned dicts in statements; reading dicts. -/
namespace KP
open PySem PySem.Spec PyProof.Rows L2
def sSetd (i : Nat) (fk fx : DF) : SF := fun env => bnd (ofO ((lk env i).bind Sv.asDD)) fun d => lift env (fk env) fun kv => bnd (ofO kv.asD) fun k => lift env (fx env) fun xv => bnd (ofO xv.asD) fun x => bnd (ofO (d.setd k x)) fun r => ret (.nx, env.set i (some (.dd r.2)))
theorem dict_isD {K : PySem.W.Frag} {Z H : Hp} {a : Addr} {d : Dk} (h : DictR K Z H a d) : IsD H a := by
  cases d with
  | k kvs => obtain ⟨ks, h, _⟩ := h; exact .inl ⟨ks, .inl h⟩
  | t kvs => obtain ⟨ks, h, _⟩ := h; exact .inr ⟨ks, .inl h⟩
theorem DictR.keep {K : PySem.W.Frag} {W : Wd} {φ φ1 : List Addr} {own : Nat → List Addr} {H H1 : Hp} {a : Addr} {d : Dk} (k : Kp φ H φ1 H1) (hn : a ∉ φ) (h : DictR K (hz (Mu W.G φ own) H) H a d) : DictR K (hz (Mu W.G φ1 own) H1) H1 a d := by
  cases d with
  | k kvs => obtain ⟨ks, h, q⟩ := h; exact ⟨ks, k.keep a _ hn h, q.ext (Kp.hz (fl := true) k)⟩
  | t kvs => obtain ⟨ks, h, q⟩ := h; exact ⟨ks, k.keep a _ hn h, q.ext (Kp.hz (fl := true) k)⟩
/-- the reading of d.setdefault(k, x) at an owned dict -/
theorem tSetd {C : Ct} {σ : L2.St} {H : Hp} {Q : VK} {i : Nat} {fk fx : DF} {W : Wd} {φ : List Addr} {own : Nat → List Addr} {env : En} {S : Sto} {P : PyData × Dk → Sto → Prop} {P' : Ex → Sto → Prop} (r : Rel C.K W φ own env S σ H) {d : Dk} (es : env[i]? = some (some (.dd d)))
    (h : (bnd (fk env) (fun kv => bnd (ofO kv.asD) fun k => bnd (fx env) fun xv => bnd (ofO xv.asD) fun x => ofO (d.setd k x)) S).sat P P')
    (hx : ∀ x S1 φ1 H1, P' x S1 → Rel C.K W φ1 own env S1 σ H1 → XWish C (Mu W.G φ1 own) σ H1 x)
    (fin : ∀ v d' S1 φ1 H1 u, P (v, d') S1 → Rel C.K W φ1 own (env.set i (some (.dd d'))) S1 σ H1 → Rep C.K (hz (Mu W.G φ1 own) H1) u v → Q u H1) : tDSetdA (tVar i) (tI C true fk) (tI C true fx) σ H Q := by
  obtain ⟨u, hu, a, rfl, hF, hd⟩ := r.slot i _ es
  have hao : a ∈ own i := by rw [hF]; simp
  refine ⟨.ref a, hu, a, rfl, dict_isD hd, W, φ, own, env, S, r, (sat_bnd.mp h).mono (fun kv S1 q φ1 H1 y r1 k1 v1 => ?_) fun x S1 q φ1 H1 r1 k1 => hx x S1 φ1 H1 q r1⟩
  obtain ⟨k, e1, q1⟩ := sat_ofO.mp (sat_bnd.mp q)
  obtain rfl := asD_some e1
  refine ⟨W, φ1, own, env, S1, r1, (sat_bnd.mp q1).mono (fun xv S2 q φ2 H2 z r2 k2 v2 => ?_) fun x S2 q φ2 H2 r2 k2 => hx x S2 φ2 H2 q r2⟩
  obtain ⟨x, e2, q2⟩ := sat_ofO.mp (sat_bnd.mp q)
  obtain rfl := asD_some e2
  obtain ⟨⟨v, d'⟩, e3, q3⟩ := sat_ofO.mp q2
  have hd1 := hd.keep k1 (r.apart i a hao)
  have hd2 := hd1.keep k2 (r1.apart i a hao)
  exact setd_slot r2 es hu hF hd2 (Rep.ext (Kp.hz (fl := true) k2) v1) v2 e3 fun H' u r' _ hv => fin v d' S2 φ2 H' u q3 r' hv
section
variable {X : Cx} {ew : WX} {x : Str} {i : Nat} {ek ex : Expr} {fk fx : DF} {p1 apos cpos pos : Pos}
theorem es_setd (hu : X.A.units + 1 < cLine) (hN : X.N[i]? = some x) (hv : Vis X.env.scope x) (hk : E X ew true ek fk) (hx : E X ew true ex fx)
    (m : M2 X (.Name x p1) "setdefault" apos ek ex cpos := by exact ⟨rfl, rfl, rfl, rfl⟩)
    (hd : (x == ("__debug__" : Str)) = false := by decide) (hcd : (x == ("__classdict__" : Str)) = false := by decide)
    (hs : swapsWith (.Call (.Attribute (.Name x p1) "setdefault" apos) [ek, ex] [] cpos) none pos.line X.env = pure false := by rfl) :
    ES X ew (.Expr (.Call (.Attribute (.Name x p1) "setdefault" apos) [ek, ex] [] cpos) pos) (sSetd i fk fx) :=
  ps_weak (ps_expr (pe_dsetdA hu (pe_var hN hv hd hcd) hk hx m) hs) fun D σ H h => by
    obtain ⟨W, φ, own, env, S, r, h⟩ := h
    obtain ⟨d, e1, h1⟩ := sat_ofO.mp (sat_bnd.mp h)
    obtain ⟨sv, es, e1⟩ := Option.bind_eq_some_iff.mp e1
    have es := lk_some es
    obtain rfl := asDD_some e1
    refine tSetd (C := ⟨X.K, X.mg, ew⟩) (P := fun r S' => Post ⟨X.K, X.mg, ew⟩ D W (.nx, env.set i (some (.dd r.2))) S') (P' := fun x S' => Post ⟨X.K, X.mg, ew⟩ D W (.xc x, env) S') r es ?_ (fun x S1 φ1 H1 q r1 => q φ1 own σ H1 r1) fun v d' S1 φ1 H1 u q r1 _ => q φ1 own σ H1 r1
    refine sat_bnd.mpr ((sat_lift.mp h1).mono (fun kv S1 q => ?_) fun _ _ q => q)
    obtain ⟨k, e2, q2⟩ := sat_ofO.mp (sat_bnd.mp q)
    refine sat_bnd.mpr (sat_ofO.mpr ⟨k, e2, sat_bnd.mpr ((sat_lift.mp q2).mono (fun xv S2 q => ?_) fun _ _ q => q)⟩)
    obtain ⟨x, e3, q3⟩ := sat_ofO.mp (sat_bnd.mp q)
    obtain ⟨rr, e4, q4⟩ := sat_ofO.mp (sat_bnd.mp q3)
    exact sat_bnd.mpr (sat_ofO.mpr ⟨x, e3, sat_ofO.mpr ⟨rr, e4, q4⟩⟩)
/-- if d.setdefault(k, x) != w: .. -/
def sIfSetd (i : Nat) (fk fx fw : DF) (g : Va → Va → Option Va) (a b : SF) : SF := fun env => bnd (ofO ((lk env i).bind Sv.asDD)) fun d => lift env (fk env) fun kv => bnd (ofO kv.asD) fun k => lift env (fx env) fun xv => bnd (ofO xv.asD) fun x => bnd (ofO (d.setd k x)) fun r =>
  lift (env.set i (some (.dd r.2))) (fw (env.set i (some (.dd r.2)))) fun w => bnd (ofO ((g (.d r.1) w).bind toB)) fun t => if t = true then a (env.set i (some (.dd r.2))) else b (env.set i (some (.dd r.2)))
theorem es_ifSetd {e : Expr} {fw : DF} {g : Va → Va → Option Va} {op : CmpOp} {rr : R2} {p q : List Stmt} {a b : SF} {p2 : Pos} (ho : OpR X (compareOp op) rr) (pr : Pure2 X.K rr g) (hm : behindInMarks op e = false) (hu : X.A.units + 1 < cLine) (hN : X.N[i]? = some x) (hv : Vis X.env.scope x) (hk : E X ew true ek fk) (hx : E X ew true ex fx) (hw : E X ew true e fw) (ha : ESs X ew p a) (hb : ESs X ew q b)
    (m : M2 X (.Name x p1) "setdefault" apos ek ex cpos := by exact ⟨rfl, rfl, rfl, rfl⟩)
    (hd : (x == ("__debug__" : Str)) = false := by decide) (hcd : (x == ("__classdict__" : Str)) = false := by decide) :
    ES X ew (.If (.Compare (.Call (.Attribute (.Name x p1) "setdefault" apos) [ek, ex] [] cpos) [op] [e] p2) p q pos) (sIfSetd i fk fx fw g a b) :=
  ps_weak (ps_if (pt_cmpR ho (pe_dsetdA hu (pe_var hN hv hd hcd) hk hx m) hw hm) ha hb) fun D σ H h => by
    obtain ⟨W, φ, own, env, S, r, h⟩ := h
    obtain ⟨d, e1, h1⟩ := sat_ofO.mp (sat_bnd.mp h)
    obtain ⟨sv, es, e1⟩ := Option.bind_eq_some_iff.mp e1
    have es := lk_some es
    obtain rfl := asDD_some e1
    refine tSetd (C := ⟨X.K, X.mg, ew⟩) (P := fun r S' => ((lift (env.set i (some (.dd r.2))) (fw (env.set i (some (.dd r.2)))) fun w => bnd (ofO ((g (.d r.1) w).bind toB)) fun t => if t = true then a (env.set i (some (.dd r.2))) else b (env.set i (some (.dd r.2)))) S').sat (Post ⟨X.K, X.mg, ew⟩ D W) (fun _ _ => False)) (P' := fun x S' => Post ⟨X.K, X.mg, ew⟩ D W (.xc x, env) S') r es ?_ (fun x S1 φ1 H1 q r1 => q φ1 own σ H1 r1) fun v d' S1 φ1 H1 u q r1 hu1 => ?_
    · refine sat_bnd.mpr ((sat_lift.mp h1).mono (fun kv S1 q => ?_) fun _ _ q => q)
      obtain ⟨k, e2, q2⟩ := sat_ofO.mp (sat_bnd.mp q)
      refine sat_bnd.mpr (sat_ofO.mpr ⟨k, e2, sat_bnd.mpr ((sat_lift.mp q2).mono (fun xv S2 q => ?_) fun _ _ q => q)⟩)
      obtain ⟨x, e3, q3⟩ := sat_ofO.mp (sat_bnd.mp q)
      obtain ⟨rr, e4, q4⟩ := sat_ofO.mp (sat_bnd.mp q3)
      exact sat_bnd.mpr (sat_ofO.mpr ⟨x, e3, sat_ofO.mpr ⟨rr, e4, q4⟩⟩)
    · refine ⟨W, φ1, own, _, S1, r1, (sat_lift.mp q).mono (fun w S2 q φ2 H2 y r2 k2 v2 => ?_) fun x S2 q φ2 H2 r2 k2 => q φ2 own σ H2 r2⟩
      obtain ⟨t, e5, q5⟩ := sat_ofO.mp (sat_bnd.mp q)
      obtain ⟨tv, e5, e6⟩ := Option.bind_eq_some_iff.mp e5
      obtain rfl := toB_some e6
      have q2 := pr (Mu W.G φ2 own) φ2 H2 [u, y] [.d v, w] (vB t) (fun z H3 => ∃ k, z = .bl k ∧ (if k = true then tS ⟨X.K, X.mg, ew⟩ a D σ H3 else tS ⟨X.K, X.mg, ew⟩ b D σ H3)) r2.mu (.cons (show VRep X.K (Mu W.G φ2 own) φ2 H2 u (.d v) from Rep.ext (Kp.hz (fl := true) k2) hu1) (.cons v2 .nil)) e5 (fun H' u' ee vv => by
        refine ⟨t, vv.bool, ?_⟩
        cases t with
        | true =>
          rw [if_pos rfl] at q5 ⊢
          exact ⟨W, φ2, own, _, S2, r2.grow ee, q5⟩
        | false =>
          rw [if_neg Bool.false_ne_true] at q5 ⊢
          exact ⟨W, φ2, own, _, S2, r2.grow ee, q5⟩)
      obtain ⟨x', y', ex, q6⟩ := q2
      cases ex
      exact q6
end
/-! ### a dict that is read -/
def dlook (kvs : List (PyData × PyData)) (p : PyData) : Option (Option PyData) := match asKey p with
  | some k => some ((kvs.find? fun q => decide (asKey q.1 = some k)).map (·.2))
  | none => match asKeyT p with
    | some k => some ((kvs.find? fun q => decide (asKeyT q.1 = some k)).map (·.2))
    | none => none
theorem asKey_keyP (k : Key) : asKey (keyP k) = some k := by cases k <;> rfl
theorem asKeys_map : ∀ ks : List Key, asKeys (ks.map keyP) = some ks
  | [] => rfl
  | k :: ks => by
    show (asKey (keyP k)).bind _ = _
    rw [asKey_keyP, Option.bind_some, asKeys_map ks]; rfl
theorem asKeyT_keyT (k : List Key) : asKeyT (keyT k) = some k := asKeys_map k
theorem asKey_keyT (k : List Key) : asKey (keyT k) = none := rfl
theorem asKeyT_keyP (k : Key) : asKeyT (keyP k) = none := by cases k <;> rfl
theorem RepK.look {K : PySem.W.Frag} {Z : Hp} {k : Key} : ∀ {ks : List (Key × V)} {kvs : List (PyData × PyData)}, RepK K Z ks kvs → (valV ks k = none ∧ (kvs.find? fun q => decide (asKey q.1 = some k)).map (·.2) = none) ∨ ∃ v p, valV ks k = some v ∧ (kvs.find? fun q => decide (asKey q.1 = some k)).map (·.2) = some p ∧ Rep K Z v p
  | _, _, .nil => .inl ⟨rfl, rfl⟩
  | (j, v) :: _, (_, p) :: _, .cons h t => by
    by_cases e : j = k
    · exact .inr ⟨v, p, by simp [valV, e], by simp [asKey_keyP, e], h⟩
    · have := RepK.look (k := k) t
      simpa [valV, e, asKey_keyP] using this
theorem RepT.look {K : PySem.W.Frag} {Z : Hp} {k : List Key} : ∀ {ks : List (List Key × V)} {kvs : List (PyData × PyData)}, RepT K Z ks kvs → (valV ks k = none ∧ (kvs.find? fun q => decide (asKeyT q.1 = some k)).map (·.2) = none) ∨ ∃ v p, valV ks k = some v ∧ (kvs.find? fun q => decide (asKeyT q.1 = some k)).map (·.2) = some p ∧ Rep K Z v p
  | _, _, .nil => .inl ⟨rfl, rfl⟩
  | (j, v) :: _, (_, p) :: _, .cons h t => by
    by_cases e : j = k
    · exact .inr ⟨v, p, by simp [valV, e], by simp [asKeyT_keyT, e], h⟩
    · have := RepT.look (k := k) t
      simpa [valV, e, asKeyT_keyT] using this
theorem RepK.noT {K : PySem.W.Frag} {Z : Hp} {k : List Key} : ∀ {ks : List (Key × V)} {kvs : List (PyData × PyData)}, RepK K Z ks kvs → (kvs.find? fun q => decide (asKeyT q.1 = some k)) = none
  | _, _, .nil => rfl
  | _, _, .cons h t => by simp [asKeyT_keyP, RepK.noT t]
theorem RepT.noK {K : PySem.W.Frag} {Z : Hp} {k : Key} : ∀ {ks : List (List Key × V)} {kvs : List (PyData × PyData)}, RepT K Z ks kvs → (kvs.find? fun q => decide (asKey q.1 = some k)) = none
  | _, _, .nil => rfl
  | _, _, .cons h t => by simp [asKey_keyT, RepT.noK t]
/-- d[k], there -/
def gDGet : Va → Va → Option Va
  | .d (.dict kvs), .d p => match dlook kvs p with
    | some (some q) => some (.d q)
    | _ => none
  | _, _ => none
theorem dget_of {K : PySem.W.Frag} {Nu : Addr → Prop} {φ : List Addr} {H : Hp} {x y : V} {vx vy : Va} {w : Va} (hx : VRep K Nu φ H x vx) (hy : VRep K Nu φ H y vy) (e : gDGet vx vy = some w) : ∃ a v, x = .ref a ∧ DGet H a y (some v) ∧ VRep K Nu φ H v w := by
  unfold gDGet at e
  split at e
  · rename_i kvs p
    split at e
    · rename_i q eq
      cases e
      unfold dlook at eq
      cases hx with
      | dcK hr hk =>
        rename_i a ks
        cases ek : asKey p with
        | some k =>
          rw [ek] at eq
          have eq := Option.some.inj eq
          rcases hk.look (k := k) with ⟨_, h2⟩ | ⟨v, p', h1, h2, h3⟩
          · rw [h2] at eq; cases eq
          · rw [h2] at eq; cases eq
            exact ⟨a, v, rfl, .inl ⟨ks, k, .inl (hz_sub _ _ hr), asKey_rep ek hy, h1.symm⟩, h3⟩
        | none =>
          rw [ek] at eq
          cases et : asKeyT p with
          | none => rw [et] at eq; cases eq
          | some k =>
            rw [et] at eq
            have eq := Option.some.inj eq
            rw [hk.noT] at eq; cases eq
      | dcT hr hk =>
        rename_i a ks
        cases ek : asKey p with
        | some k =>
          rw [ek] at eq
          have eq := Option.some.inj eq
          rw [hk.noK] at eq; cases eq
        | none =>
          rw [ek] at eq
          cases et : asKeyT p with
          | none => rw [et] at eq; cases eq
          | some k =>
            rw [et] at eq
            have eq := Option.some.inj eq
            rcases hk.look (k := k) with ⟨_, h2⟩ | ⟨v, p', h1, h2, h3⟩
            · rw [h2] at eq; cases eq
            · rw [h2] at eq; cases eq
              obtain ⟨b, hb, hZ⟩ := asKeyT_rep et hy
              exact ⟨a, v, rfl, .inr ⟨ks, k, b, .inl (hz_sub _ _ hr), hb, (hz_some.mp hZ).2, h1.symm⟩, h3⟩
    · cases e
  · cases e
theorem e_dget {X : Cx} {ew : WX} {fl : Bool} {o i : Expr} {fo fi : DF} {pos : Pos} (hu : X.A.units + 1 < cLine) (ho : E X ew fl o fo) (hi : E X ew fl i fi) (hs : NoSl i := by intro _ _; rfl) : E X ew fl (.Subscript o i pos) (c2 gDGet fo fi) :=
  pe_weak (pe_dget hu ho hi hs) fun σ H Q h => tI_c2 (C := ⟨X.K, X.mg, ew⟩) (r := fun x y H2 Q => ∃ a v, x = .ref a ∧ DGet H2 a y (some v) ∧ Q v H2) (by
    intro Nu φ H us vs w Q m hv hg hq
    cases hv with
    | nil => cases hg
    | cons h1 hv =>
      cases hv with
      | nil => cases hg
      | cons h2 hv =>
        cases hv with
        | cons _ _ => cases hg
        | nil =>
          obtain ⟨a, v, e1, e2, e3⟩ := dget_of h1 h2 hg
          exact ⟨_, _, rfl, a, v, e1, e2, hq H v Ext.refl e3⟩) h
end KP


set_option Elab.async false
set_option linter.all false
set_option maxRecDepth 100000
/-! KR: cells: a dict with text keys that is passed on and changed. -/
namespace KP
open PySem PySem.Spec PyProof.Rows L2
/-- a new cell behind the others -/
theorem Rel.newCell {K : PySem.W.Frag} {W : Wd} {p : Addr} {φ : List Addr} {own : Nat → List Addr} {env : En} {S : Sto} {σ : L2.St} {H : Hp} (r : Rel K (W.and p) φ own env S σ H) (h0 : W.H0 p = none) {o : HO} (ho : (∀ ys, o ≠ .tup ys) ∧ ∀ x y, o ≠ .frz x y) {c : Cd}
    (hG : ¬ W.G p) (hc : Ext (hz (Mu (W.and p).G φ own) H) (hz (Mu W.G (φ ++ [p]) own) (upd H p o)) → CellR K (hz (Mu W.G (φ ++ [p]) own) (upd H p o)) (upd H p o) p c) : Rel K W (φ ++ [p]) own env (S ++ [c]) σ (upd H p o) := by
  have me : Mu W.G (φ ++ [p]) own = Mu (W.and p).G φ own := funext fun a => propext ⟨fun z => by
    rcases z with z | z | z
    · exact .inl (.inl z)
    · rcases List.mem_append.mp z with y | y
      · exact .inr (.inl y)
      · exact .inl (.inr (List.mem_singleton.mp y))
    · exact .inr (.inr z), fun z => by
    rcases z with (z | z) | z | z
    · exact .inl z
    · exact .inr (.inl (List.mem_append_right _ (by rw [z]; simp)))
    · exact .inr (.inl (List.mem_append_left _ z))
    · exact .inr (.inr z)⟩
  have np : p ∉ φ := (r.gd p (.inr rfl)).1
  have ex : Ext (hz (Mu (W.and p).G φ own) H) (hz (Mu W.G (φ ++ [p]) own) (upd H p o)) := fun a x h => by
    obtain ⟨n, h⟩ := hz_some.mp h
    have ne : a ≠ p := fun z => n (.inl (.inr z))
    exact hz_of (by rw [upd_ne ne]; exact h) (by rw [me]; exact n)
  refine ⟨r.disj, fun i a h z => ?_, ?_, fun a h => ⟨fun z => ?_, (r.gd a (.inl h)).2⟩, fun a h => ?_, r.len, fun i sv h => ?_, ⟨by rw [List.length_append, List.length_append, r.cell.1]; rfl, fun n d a h1 h2 => ?_⟩, ⟨r.base.pre.trans (List.prefix_append _ _), fun a x n h => ?_, fun a z n => ?_⟩, r.newF⟩
  · rcases List.mem_append.mp z with y | y
    · exact r.apart i a h y
    · exact (r.gd p (.inr rfl)).2 i (by rw [← List.mem_singleton.mp y]; exact h)
  · exact List.nodup_append.mpr ⟨r.ndφ, by simp, fun a ha b hb z => np (by rw [← List.mem_singleton.mp hb, ← z]; exact ha)⟩
  · rcases List.mem_append.mp z with y | y
    · exact (r.gd a (.inl h)).1 y
    · exact hG (by rw [← List.mem_singleton.mp y]; exact h)
  · by_cases e : a = p
    · subst e
      rw [upd_same]
      exact ⟨rfl, fun xs z => ho.1 xs (Option.some.inj z), fun x y z => ho.2 x y (Option.some.inj z)⟩
    · rw [upd_ne e]
      rw [me] at h
      exact r.mu a h
  · obtain ⟨u, h1, h2⟩ := r.slot i sv h
    exact ⟨u, h1, h2.ext ex (List.prefix_append _ _) fun a ha => upd_ne fun z => (r.gd p (.inr rfl)).2 i (by rw [← z]; exact ha)⟩
  · by_cases hn : n < S.length
    · rw [List.getElem?_append_left hn] at h1
      rw [List.getElem?_append_left (by rw [r.cell.1]; exact hn)] at h2
      exact (r.cell.2 n d a h1 h2).ext ex (upd_ne fun z => np (by rw [← z]; exact List.mem_of_getElem? h2))
    · rw [List.getElem?_append_right (Nat.le_of_not_lt hn)] at h1
      rw [List.getElem?_append_right (by rw [r.cell.1]; exact Nat.le_of_not_lt hn), r.cell.1] at h2
      cases m : n - S.length with
      | zero =>
        rw [m] at h1 h2
        cases h1
        cases h2
        exact hc ex
      | succ k => rw [m] at h1; simp at h1
  · rw [upd_ne fun z => by rw [z, h0] at h; cases h]
    exact r.base.keep a x n h
  · rcases List.mem_append.mp z with y | y
    · exact r.base.new a y n
    · rw [List.mem_singleton.mp y]; exact h0
/-- a cell is changed -/
theorem Rel.updCell {K : PySem.W.Frag} {W : Wd} {φ : List Addr} {own : Nat → List Addr} {env : En} {S : Sto} {σ : L2.St} {H : Hp} (r : Rel K W φ own env S σ H) {n : Nat} {p : Addr} {o : HO} {c : Cd} (hp : φ[n]? = some p) (ho : (∀ ys, o ≠ .tup ys) ∧ ∀ x y, o ≠ .frz x y)
    (hc : Ext (hz (Mu W.G φ own) H) (hz (Mu W.G φ own) (upd H p o)) → CellR K (hz (Mu W.G φ own) (upd H p o)) (upd H p o) p c) : Rel K W φ own env (S.set n c) σ (upd H p o) := by
  have hm : p ∈ φ := List.mem_of_getElem? hp
  have ex : Ext (hz (Mu W.G φ own) H) (hz (Mu W.G φ own) (upd H p o)) := fun a x h => by
    obtain ⟨n, h⟩ := hz_some.mp h
    exact hz_of (by rw [upd_ne fun z => n (.inr (.inl (by rw [z]; exact hm)))]; exact h) n
  have hn : n < φ.length := (List.getElem?_eq_some_iff.mp hp).1
  refine ⟨r.disj, r.apart, r.ndφ, r.gd, fun a h => ?_, r.len, fun i sv h => ?_, ⟨by rw [List.length_set]; exact r.cell.1, fun m d a h1 h2 => ?_⟩, ⟨r.base.pre, fun a x k h => ?_, r.base.new⟩, r.newF⟩
  · by_cases e : a = p
    · subst e
      rw [upd_same]
      exact ⟨rfl, fun xs z => ho.1 xs (Option.some.inj z), fun x y z => ho.2 x y (Option.some.inj z)⟩
    · rw [upd_ne e]
      exact r.mu a h
  · obtain ⟨u, h1, h2⟩ := r.slot i sv h
    exact ⟨u, h1, h2.ext ex (List.prefix_refl _) fun a ha => upd_ne fun z => r.apart i a ha (by rw [z]; exact hm)⟩
  · by_cases e : n = m
    · subst e
      rw [List.getElem?_set_self (by rw [← r.cell.1]; exact hn)] at h1
      cases h1
      rw [hp] at h2
      cases h2
      exact hc ex
    · rw [List.getElem?_set_ne e] at h1
      refine (r.cell.2 m d a h1 h2).ext ex (upd_ne fun z => e ?_)
      have hl : m < φ.length := (List.getElem?_eq_some_iff.mp h2).1
      have e1 := (List.getElem?_eq_some_iff.mp hp).2
      have e2 := (List.getElem?_eq_some_iff.mp h2).2
      exact (List.getElem_inj r.ndφ).mp (e1.trans (z.symm.trans e2.symm))
  · by_cases e : a = p
    · subst e
      have : a ∉ W.φ0 := k
      have := r.base.new a hm k
      rw [h] at this; cases this
    · rw [upd_ne e]
      exact r.base.keep a x k h
/-! ### m["k"] -/
def cellM (S : Sto) (v : Va) : Option (Nat × List (Str × PyData)) := match v with
  | .c n => match S[n]? with
    | some (.m kvs) => some (n, kvs)
    | none => none
  | _ => none
def cGet (k : Str) (fo : DF) : DF := fun env => bnd (fo env) fun v S => match cellM S v with
  | some (_, kvs) => match kvs.lookup k with
    | some p => .ok (.d p) S
    | none => .stuck
  | none => .stuck
theorem cellM_some {S : Sto} {v : Va} {n : Nat} {kvs : List (Str × PyData)} (h : cellM S v = some (n, kvs)) : v = .c n ∧ S[n]? = some (.m kvs) := by
  unfold cellM at h
  cases v with
  | d p => cases h
  | s ns => cases h
  | c m =>
    dsimp only at h
    cases e : S[m]? with
    | none => rw [e] at h; cases h
    | some c => cases c; rw [e] at h; cases h; exact ⟨rfl, e⟩
theorem KRep.lookup {K : PySem.W.Frag} {Z : Hp} {k : Str} {p : PyData} : ∀ {ks : List (Key × V)} {kvs : List (Str × PyData)}, KRep K Z ks (kvs.map fun p => ((Sum.inr p.1 : Key), p.2)) → kvs.lookup k = some p → ∃ v, valV ks (Sum.inr k) = some v ∧ Rep K Z v p
  | _, [], .nil, h => by cases h
  | (_, v) :: _, (j, q) :: _, .cons h t, e => by
    by_cases ej : j = k
    · subst ej
      simp at e
      subst e
      exact ⟨v, by simp [valV], h⟩
    · have ne : (k == j) = false := by simpa using fun z => ej z.symm
      rw [List.lookup_cons, ne] at e
      obtain ⟨w, h1, h2⟩ := KRep.lookup t e
      refine ⟨w, ?_, h2⟩
      have : ¬ ((Sum.inr j : Key) = Sum.inr k) := fun z => ej (Sum.inr.inj z)
      simpa [valV, this] using h1
theorem e_cget {X : Cx} {ew : WX} {fl : Bool} {o : Expr} {fo : DF} {k : Str} {j : Nat} {p1 pos : Pos} (hu : X.A.units + 1 < cLine) (ho : E X ew fl o fo) (hs : NoSl (.Constant (.str k) j p1) := by intro _ _; rfl) : E X ew fl (.Subscript o (.Constant (.str k) j p1) pos) (cGet k fo) :=
  pe_weak (pe_dget hu ho pe_str hs) fun σ H Q h => by
    obtain ⟨W, φ, own, env, S, r, h⟩ := h
    refine ⟨W, φ, own, env, S, r, (sat_bnd.mp h).mono (fun v S1 q φ1 H1 u r1 k1 v1 => ?_) fun _ _ q => q⟩
    dsimp only at q
    cases e : cellM S1 v with
    | none => rw [e] at q; exact q.elim
    | some nk =>
      obtain ⟨n, kvs⟩ := nk
      rw [e] at q
      obtain ⟨rfl, hS⟩ := cellM_some e
      dsimp only at q
      cases e2 : kvs.lookup k with
      | none => rw [e2] at q; exact q.elim
      | some p =>
        rw [e2] at q
        obtain ⟨a, rfl, hφ⟩ := v1
        obtain ⟨ks, hH, hr⟩ := r1.cell.2 n _ a hS hφ
        obtain ⟨w, hw1, hw2⟩ := hr.lookup e2
        refine ⟨a, w, rfl, .inl ⟨ks, Sum.inr k, .inl hH, rfl, hw1.symm⟩, q φ1 H1 w r1 k1 ?_⟩
        exact hw2.ext (hz_anti fun a _ _ z => Mo.sub z)
/-! ### m["k"] = e -/
def putS (kvs : List (Str × PyData)) (k : Str) (p : PyData) : List (Str × PyData) := kvs.map fun q => if q.1 = k then (q.1, p) else q
def sCPut (i : Nat) (k : Str) (f : DF) : SF := fun env => lift env (f env) fun v => bnd (ofO v.asD) fun p => bnd (vT i env) fun c S => match cellM S c with
  | some (n, kvs) => if kvs.any (fun q => decide (q.1 = k)) = true ∧ kvs.length < sizeLine then .ok (.nx, env) (S.set n (.m (putS kvs k p))) else .stuck
  | none => .stuck
theorem KRep.putS {K : PySem.W.Frag} {Z : Hp} {k : Str} {v : V} {p : PyData} (hv : Rep K Z v p) {ks : List (Key × V)} {kvs : List (Str × PyData)} (h : KRep K Z ks (kvs.map fun p => ((Sum.inr p.1 : Key), p.2))) (ha : kvs.any (fun q => decide (q.1 = k)) = true) : KRep K Z (putK ks (Sum.inr k) v) ((putS kvs k p).map fun p => ((Sum.inr p.1 : Key), p.2)) := by
  have := h.put (k := Sum.inr k) hv
  have e : putD (kvs.map fun p => ((Sum.inr p.1 : Key), p.2)) (Sum.inr k) p = (KP.putS kvs k p).map fun p => ((Sum.inr p.1 : Key), p.2) := by
    unfold putD
    have ha' : ((kvs.map fun p => ((Sum.inr p.1 : Key), p.2)).any fun kv => decide (kv.1 = Sum.inr k)) = true := by
      rw [List.any_map]
      rw [List.any_eq_true] at ha ⊢
      obtain ⟨x, h1, h2⟩ := ha
      exact ⟨x, h1, by simpa using h2⟩
    rw [if_pos ha']
    unfold KP.putS
    rw [List.map_map, List.map_map]
    apply List.map_congr_left
    intro q _
    simp only [Function.comp]
    by_cases z : q.1 = k
    · simp [z]
    · have : ¬ ((Sum.inr q.1 : Key) = Sum.inr k) := fun y => z (Sum.inr.inj y)
      simp [z]
  rw [e] at this
  exact this
theorem es_cput {X : Cx} {ew : WX} {x : Str} {i : Nat} {e : Expr} {f : DF} {k : Str} {j : Nat} {p1 p2 p3 pos : Pos} (hu : X.A.units + 1 < cLine) (hN : X.N[i]? = some x) (hv : Vis X.env.scope x) (h : E X ew true e f)
    (hd : (x == ("__debug__" : Str)) = false := by decide) (hcd : (x == ("__classdict__" : Str)) = false := by decide)
    (hs : swapsWith e (some (.Subscript (.Name x p1) (.Constant (.str k) j p2) p3)) pos.line X.env = pure false := by rfl) :
    ES X ew (.Assign [.Subscript (.Name x p1) (.Constant (.str k) j p2) p3] e pos) (sCPut i k f) :=
  ps_weak (ps_dput hu (pe_var hN hv hd hcd) pe_str h hs) fun D σ H h => by
    obtain ⟨W, φ, own, env, S, r, h⟩ := h
    refine ⟨W, φ, own, env, S, r, (sat_lift.mp h).mono (fun v S1 q φ1 H1 u r1 k1 v1 => ?_) fun x S1 q φ1 H1 r1 k1 => q φ1 own σ H1 r1⟩
    obtain ⟨p, e1, q1⟩ := sat_ofO.mp (sat_bnd.mp q)
    obtain rfl := asD_some e1
    have q2 := sat_bnd.mp q1
    refine tI_var (C := ⟨X.K, X.mg, ew⟩) ⟨W, φ1, own, env, S1, r1, R.sat.mono q2 (fun c S2 q φ2 H2 w r2 k2 v2 => ?_) fun _ _ q => q.elim⟩
    cases e2 : cellM S2 c with
    | none => rw [e2] at q; exact q.elim
    | some nk =>
      obtain ⟨n, kvs⟩ := nk
      rw [e2] at q
      obtain ⟨rfl, hS⟩ := cellM_some e2
      dsimp only at q
      obtain ⟨a, rfl, hφ⟩ := v2
      obtain ⟨ks, hH, hr⟩ := r2.cell.2 n _ a hS hφ
      by_cases hl : kvs.any (fun q => decide (q.1 = k)) = true ∧ kvs.length < sizeLine
      · rw [if_pos hl] at q
        refine ⟨a, _, rfl, .inl ⟨ks, Sum.inr k, hH, rfl, by have := hr.length; rw [List.length_map] at this; omega, rfl⟩, ?_⟩
        exact q φ2 own σ _ (r2.updCell hφ (plain_dK _) fun ex => ⟨_, upd_same, (hr.ext ex).putS (Rep.ext (Ext.trans (Kp.hz (fl := true) k2) ex) v1) hl.1⟩)
      · rw [if_neg hl] at q; exact q.elim
/-! ### {"k": e, ..}: a new cell -/
def pairsF : List (Str × DF) → En → M (List (Str × PyData))
  | [], _ => ret []
  | (k, f) :: r, env => bnd (f env) fun v => bnd (ofO v.asD) fun p => bnd (pairsF r env) fun ps => ret ((k, p) :: ps)
def newCell (kfs : List (Str × DF)) : DF := fun env => bnd (pairsF kfs env) fun ps S => .ok (.c S.length) (S ++ [.m ps])
def trsOf (C : Ct) (kfs : List (Str × DF)) : List (TE × TE) := kfs.map fun p => (tC (.str p.1), tI C true p.2)
theorem pairs_keys : ∀ {kfs : List (Str × DF)} {env : En} {S : Sto} {P : List (Str × PyData) → Sto → Prop} {E : Ex → Sto → Prop}, (pairsF kfs env S).sat P E → (pairsF kfs env S).sat (fun ps S' => ps.map (·.1) = kfs.map (·.1) ∧ P ps S') E
  | [], _, _, _, _, h => ⟨rfl, h⟩
  | (k, f) :: r, env, S, P, E, h => by
    refine sat_bnd.mpr ((sat_bnd.mp h).mono (fun v S1 q => ?_) fun _ _ q => q)
    obtain ⟨p, e, q⟩ := sat_ofO.mp (sat_bnd.mp q)
    refine sat_bnd.mpr (sat_ofO.mpr ⟨p, e, sat_bnd.mpr ((pairs_keys (sat_bnd.mp q)).mono (fun ps S2 q => ?_) fun _ _ q => q)⟩)
    exact ⟨by rw [List.map_cons, List.map_cons, q.1], q.2⟩
theorem tPairs_of {C : Ct} {σ : L2.St} : ∀ {kfs : List (Str × DF)} {H : Hp} {Q : List (V × V) → Hp → Prop} {W : Wd} {φ : List Addr} {own : Nat → List Addr} {env : En} {S : Sto} {P : List (Str × PyData) → Sto → Prop} {P' : Ex → Sto → Prop}, Rel C.K W φ own env S σ H →
    (pairsF kfs env S).sat P P' → (∀ x S1 φ1 H1, P' x S1 → Rel C.K W φ1 own env S1 σ H1 → Kp φ H φ1 H1 → XWish C (Mu W.G φ1 own) σ H1 x) →
    (∀ ps S1 φ1 H1 ks, P ps S1 → Rel C.K W φ1 own env S1 σ H1 → Kp φ H φ1 H1 → KRep C.K (hz (Mu W.G φ1 own) H1) ks (ps.map fun p => ((Sum.inr p.1 : Key), p.2)) → Q (ks.map fun kv => (kV kv.1, kv.2)) H1) → tPairs (trsOf C kfs) σ H Q
  | [], H, Q, W, φ, own, env, S, P, P', r, h, hx, fin => fin [] S φ H [] h r Kp.refl .nil
  | (k, f) :: rest, H, Q, W, φ, own, env, S, P, P', r, h, hx, fin => by
    refine ⟨W, φ, own, env, S, r, (sat_bnd.mp h).mono (fun v S1 q φ1 H1 u r1 k1 v1 => ?_) fun x S1 q φ1 H1 r1 k1 => hx x S1 φ1 H1 q r1 k1⟩
    obtain ⟨p, e, q2⟩ := sat_ofO.mp (sat_bnd.mp q)
    obtain rfl := asD_some e
    refine tPairs_of (kfs := rest) (P := fun ps S' => P ((k, p) :: ps) S') r1 (sat_bnd.mp q2) (fun x S2 φ2 H2 z r2 k2 => hx x S2 φ2 H2 z r2 (k1.trans k2)) fun ps S2 φ2 H2 ks hp r2 k2 hr => ?_
    exact fin _ S2 φ2 H2 ((Sum.inr k, u) :: ks) hp r2 (k1.trans k2) (.cons (Rep.ext (Kp.hz (fl := true) k2) v1) hr)
theorem mergeK_new {ks : List (Key × V)} : ∀ {acc : List (Key × V)}, ((acc ++ ks).map (·.1)).Nodup → mergeK acc ks = acc ++ ks := by
  induction ks with
  | nil => intro acc _; simp [mergeK]
  | cons kv ks ih =>
    intro acc h
    have hn : (acc.any fun q => decide (q.1 = kv.1)) = false := by
      rw [List.any_eq_false]
      intro q hq z
      rw [List.map_append, List.nodup_append] at h
      exact h.2.2 q.1 (List.mem_map_of_mem hq) kv.1 (by simp) (by simpa using z)
    have e1 : putK acc kv.1 kv.2 = acc ++ [kv] := by
      unfold putK
      rw [hn]; rfl
    show mergeK (putK acc kv.1 kv.2) ks = _
    rw [e1, ih (by rw [List.append_assoc]; exact h), List.append_assoc]; rfl
theorem KRep.keys {κ : Type} {K : PySem.W.Frag} {Z : Hp} : ∀ {ks : List (κ × V)} {kvs : List (κ × PyData)}, KRep K Z ks kvs → ks.map (·.1) = kvs.map (·.1)
  | _, _, .nil => rfl
  | _, _, .cons _ t => by simp [KRep.keys t]
theorem nodup_map {α β : Type} {f : α → β} (hf : ∀ a b, f a = f b → a = b) : ∀ {l : List α}, l.Nodup → (l.map f).Nodup
  | [], _ => List.nodup_nil
  | a :: l, h => by
    obtain ⟨h1, h2⟩ := List.nodup_cons.mp h
    rw [List.map_cons]
    refine List.nodup_cons.mpr ⟨fun z => ?_, nodup_map hf h2⟩
    obtain ⟨b, hb, e⟩ := List.mem_map.mp z
    exact h1 (by rw [← hf b a e]; exact hb)
theorem e_cell {X : Cx} {ew : WX} {keys : List (Option Expr)} {values : List Expr} {kfs : List (Str × DF)} {pos : Pos} (hp : PPs X pos keys values (trsOf ⟨X.K, X.mg, ew⟩ kfs)) (h1 : (keys.all fun x => x.isSome) = true) (h2 : keys.length = values.length) (h3 : keys ≠ []) (h4 : keys.length ≤ 15) (hk : kfs.length ≤ 15) (nd : (kfs.map (·.1)).Nodup) :
    E X ew true (.Dict keys values pos) (newCell kfs) := pe_weak (pe_disp hp h1 h2 h3 h4) fun σ H Q h => by
  obtain ⟨W, φ, own, env, S, r, h⟩ := h
  intro p hp
  have nG : ¬ W.G p := fun z => r.fresh hp (.inl z)
  have h0 := base_none r hp
  refine tPairs_of (C := ⟨X.K, X.mg, ew⟩) (r.laidO hp (plain_dK [])) (pairs_keys (sat_bnd.mp h)) (fun x S1 φ1 H1 q r1 k1 => ?_) fun ps S1 φ1 H1 ks q r1 k1 hr => ?_
  · refine XWish.more (q φ1 H1 r1.lessG ((Kp.ext (Ext.upd hp)).trans k1)) fun a z => mu_and.mpr (.inl z)
  · obtain ⟨ek, q⟩ := q
    have np : p ∉ φ1 := (r1.gd p (.inr rfl)).1
    have npφ : p ∉ φ := fun z => r.fresh hp (.inr (.inl z))
    have hH1 : H1 p = some (.dK []) := k1.keep p _ npφ upd_same
    have kk := hr.keys
    have nd' : (ks.map (·.1)).Nodup := by
      rw [kk, List.map_map]
      have : ((fun x : Key × PyData => x.1) ∘ fun p : Str × PyData => ((Sum.inr p.1 : Key), p.2)) = (fun x : Str => (Sum.inr x : Key)) ∘ (·.1) := rfl
      rw [this, ← List.map_map, ek]
      exact nodup_map (fun a b z => Sum.inr.inj z) nd
    refine ⟨hH1, ks, rfl, ?_, ?_⟩
    · have := congrArg List.length kk
      have e2 := congrArg List.length ek
      simp at this e2
      omega
    · rw [show mergeK [] ks = ks by rw [mergeK_new (by simpa using nd')]; rfl]
      have k1' := (Kp.ext (φ := φ) (Ext.upd (o := .dK []) hp)).trans k1
      refine q (φ1 ++ [p]) _ (.ref p) (r1.newCell h0 (plain_dK _) nG fun ex => ⟨ks, upd_same, hr.ext ex⟩) ⟨k1'.pre.trans (List.prefix_append _ _), fun a o n h => ?_, fun a z n => ?_⟩ ⟨p, rfl, ?_⟩
      · rw [upd_ne fun z => by rw [z, hp] at h; cases h]
        exact k1'.keep a o n h
      · rcases List.mem_append.mp z with y | y
        · exact k1'.new a y n
        · rw [List.mem_singleton.mp y]; exact hp
      · rw [← r1.cell.1, List.getElem?_append_right (Nat.le_refl _), Nat.sub_self]; rfl
end KP


set_option Elab.async false
set_option linter.all false
set_option maxRecDepth 100000
/-! KS: the operations on data. -/
namespace KP
open PySem PySem.Spec PyProof.Rows L2
def on1 (g : Va → Option Va) : List Va → Option Va
  | [a] => g a
  | _ => none
def on2 (g : Va → Va → Option Va) : List Va → Option Va
  | [a, b] => g a b
  | _ => none
section
variable {K : PySem.W.Frag}
theorem pure1_of {r : List V → Hp → VK → Prop} {g : Va → Option Va} (h : ∀ Nu φ H u v w Q, MuOk Nu H → VRep K Nu φ H u v → g v = some w → (∀ H' u', Ext H H' → VRep K Nu φ H' u' w → Q u' H') → r [u] H Q) : PureN K r (on1 g) := by
  intro Nu φ H us vs w Q m hv hg hq
  cases hv with
  | nil => cases hg
  | cons h1 hv =>
    cases hv with
    | cons _ _ => cases hg
    | nil => exact h Nu φ H _ _ w Q m h1 hg hq
theorem pure2_of {r : List V → Hp → VK → Prop} {g : Va → Va → Option Va} (h : ∀ Nu φ H u u2 v v2 w Q, MuOk Nu H → VRep K Nu φ H u v → VRep K Nu φ H u2 v2 → g v v2 = some w → (∀ H' u', Ext H H' → VRep K Nu φ H' u' w → Q u' H') → r [u, u2] H Q) : PureN K r (on2 g) := by
  intro Nu φ H us vs w Q m hv hg hq
  cases hv with
  | nil => cases hg
  | cons h1 hv =>
    cases hv with
    | nil => cases hg
    | cons h2 hv =>
      cases hv with
      | cons _ _ => cases hg
      | nil => exact h Nu φ H _ _ _ _ w Q m h1 h2 hg hq
theorem pureO_of {r : R2} {g : Va → Va → Option Va} (h : ∀ Nu φ H u u2 v v2 w Q, MuOk Nu H → VRep K Nu φ H u v → VRep K Nu φ H u2 v2 → g v v2 = some w → (∀ H' u', Ext H H' → VRep K Nu φ H' u' w → Q u' H') → r u u2 H Q) : Pure2 K r g := by
  intro Nu φ H us vs w Q m hv hg hq
  cases hv with
  | nil => cases hg
  | cons h1 hv =>
    cases hv with
    | nil => cases hg
    | cons h2 hv =>
      cases hv with
      | cons _ _ => cases hg
      | nil => exact ⟨_, _, rfl, h Nu φ H _ _ _ _ w Q m h1 h2 hg hq⟩
theorem pureU_of {r : V → Hp → VK → Prop} {g : Va → Option Va} (h : ∀ Nu φ H u v w Q, MuOk Nu H → VRep K Nu φ H u v → g v = some w → (∀ H' u', Ext H H' → VRep K Nu φ H' u' w → Q u' H') → r u H Q) : Pure1 K r g := by
  intro Nu φ H us vs w Q m hv hg hq
  cases hv with
  | nil => cases hg
  | cons h1 hv =>
    cases hv with
    | cons _ _ => cases hg
    | nil => exact ⟨_, rfl, h Nu φ H _ _ w Q m h1 hg hq⟩
end
theorem opR_or {X : Cx} {f : Value → Value → Sem Value} {r r' : R2} (h : OpR X f r) (h' : OpR X f r') : OpR X f (fun x y H Q => r x y H Q ∨ r' x y H Q) := by
  intro pins s σ H x y v u Q I rx ry q
  rcases q with q | q
  · exact h pins s σ H x y v u Q I rx ry q
  · exact h' pins s σ H x y v u Q I rx ry q
/-! ### whole numbers -/
def gII (h : Int → Int → Option PyData) : Va → Va → Option Va
  | .d (.int i), .d (.int j) => (h i j).map Va.d
  | _, _ => none
theorem gII_some {h : Int → Int → Option PyData} {a b w : Va} (e : gII h a b = some w) : ∃ i j p, a = .d (.int i) ∧ b = .d (.int j) ∧ h i j = some p ∧ w = .d p := by
  unfold gII at e
  split at e
  · obtain ⟨p, e1, e2⟩ := Option.map_eq_some_iff.mp e
    exact ⟨_, _, p, rfl, rfl, e1, e2.symm⟩
  · cases e
theorem pure_I0 {K : PySem.W.Frag} {f : Int → Int → V} {h : Int → Int → Option PyData} (hf : ∀ i j p, h i j = some p → ∀ Z, Rep K Z (f i j) p) : Pure2 K (rI0 f) (gII h) := pureO_of fun Nu φ H u u2 v v2 w Q m h1 h2 e q => by
  obtain ⟨i, j, p, rfl, rfl, e1, rfl⟩ := gII_some e
  cases h1
  cases h2
  exact ⟨i, j, rfl, rfl, q H _ Ext.refl (hf i j p e1 _)⟩
theorem pure_I {K : PySem.W.Frag} {C : Int → Int → Prop} {f : Int → Int → V} {h : Int → Int → Option PyData} (hf : ∀ i j p, h i j = some p → C i j ∧ ∀ Z, Rep K Z (f i j) p) : Pure2 K (rI C f) (gII h) := pureO_of fun Nu φ H u u2 v v2 w Q m h1 h2 e q => by
  obtain ⟨i, j, p, rfl, rfl, e1, rfl⟩ := gII_some e
  cases h1
  cases h2
  exact ⟨i, j, rfl, rfl, (hf i j p e1).1, q H _ Ext.refl ((hf i j p e1).2 _)⟩
def gSub : Va → Va → Option Va := gII fun i j => some (.int (i - j))
def mulOk (i j : Int) : Bool := (decide (-(2 ^ 64) < i) && decide (i < 2 ^ 64)) || (decide (-(2 ^ 64) < j) && decide (j < 2 ^ 64))
def hMul (i j : Int) : Option PyData := if mulOk i j = true then some (.int (i * j)) else none
def gMod : Va → Va → Option Va := gII fun i j => if 0 < j then some (.int (i % j)) else none
def gDiv : Va → Va → Option Va := gII fun i j => if 0 < j ∧ j < 1073741824 then some (.int (i / j)) else none
def gPow : Va → Va → Option Va := gII fun i j => if 0 ≤ j ∧ j ≤ 1000000 ∧ i.natAbs < 2 ^ 64 then some (.int (i ^ j.toNat)) else none
def gLt : Va → Va → Option Va := gII fun i j => some (.bool (decide (i < j)))
def gLe : Va → Va → Option Va := gII fun i j => some (.bool (decide (i ≤ j)))
def gGt : Va → Va → Option Va := gII fun i j => some (.bool (decide (j < i)))
def gGe : Va → Va → Option Va := gII fun i j => some (.bool (decide (j ≤ i)))
section
variable {K : PySem.W.Frag}
theorem pure_sub : Pure2 K (rI0 fun i j => V.int (i - j)) gSub := pure_I0 fun i j p e Z => by cases e; exact .int _
theorem pure_mul : Pure2 K (rI CMul fun i j => V.int (i * j)) (gII hMul) := pure_I fun i j p e => by
  unfold hMul at e
  split at e
  · rename_i h
    cases e
    simp only [mulOk, Bool.or_eq_true, Bool.and_eq_true, decide_eq_true_eq] at h
    exact ⟨h, fun Z => .int _⟩
  · cases e
theorem pure_mod : Pure2 K (rI (fun x j => 0 < j) fun i j => V.int (i % j)) gMod := pure_I fun i j p e => by
  split at e
  · rename_i h; cases e; exact ⟨h, fun Z => .int _⟩
  · cases e
theorem pure_div : Pure2 K (rI CDiv fun i j => V.int (i / j)) gDiv := pure_I fun i j p e => by
  split at e
  · rename_i h; cases e; exact ⟨h, fun Z => .int _⟩
  · cases e
theorem pure_pow : Pure2 K (rI CPow fun i j => V.int (i ^ j.toNat)) gPow := pure_I fun i j p e => by
  split at e
  · rename_i h; cases e; exact ⟨h, fun Z => .int _⟩
  · cases e
theorem pure_lt : Pure2 K (rI0 fun i j => V.bl (decide (i < j))) gLt := pure_I0 fun i j p e Z => by cases e; exact .bl _
theorem pure_le : Pure2 K (rI0 fun i j => V.bl (decide (i ≤ j))) gLe := pure_I0 fun i j p e Z => by cases e; exact .bl _
theorem pure_gt : Pure2 K (rI0 fun i j => V.bl (decide (i > j))) gGt := pure_I0 fun i j p e Z => by cases e; exact .bl _
theorem pure_ge : Pure2 K (rI0 fun i j => V.bl (decide (i ≥ j))) gGe := pure_I0 fun i j p e Z => by cases e; exact .bl _
end
def gNeg : Va → Option Va
  | .d (.int i) => some (.d (.int (-i)))
  | _ => none
theorem pure_neg {K : PySem.W.Frag} : Pure1 K (rU fun i => V.int (-i)) gNeg := pureU_of fun Nu φ H u v w Q m h e q => by
  unfold gNeg at e
  split at e
  · cases e; cases h; exact ⟨_, rfl, q H _ Ext.refl (.int _)⟩
  · cases e
/-! ### + of numbers, lists, tuples, texts -/
def hAdd : PyData → PyData → Option PyData
  | .int i, .int j => some (.int (i + j))
  | .list a, .list b => if a.length + b.length ≤ sizeLine then some (.list (a ++ b)) else none
  | .tuple a, .tuple b => if a ≠ [] ∧ a.length + b.length ≤ sizeLine then some (.tuple (a ++ b)) else none
  | .str a, .str b => if a.length + b.length ≤ sizeLine then some (.str (a ++ b)) else none
  | _, _ => none
def gDD (h : PyData → PyData → Option PyData) : Va → Va → Option Va
  | .d p, .d q => (h p q).map Va.d
  | _, _ => none
theorem gDD_some {h : PyData → PyData → Option PyData} {a b w : Va} (e : gDD h a b = some w) : ∃ p q r, a = .d p ∧ b = .d q ∧ h p q = some r ∧ w = .d r := by
  unfold gDD at e
  split at e
  · obtain ⟨p, e1, e2⟩ := Option.map_eq_some_iff.mp e
    exact ⟨_, _, p, rfl, rfl, e1, e2.symm⟩
  · cases e
def gAdd : Va → Va → Option Va := gDD hAdd
theorem op_addA {X : Cx} : OpR X (binaryOp .Add) (fun x y H Q => rI0 (fun i j => V.int (i + j)) x y H Q ∨ rCat x y H Q ∨ rCatT X.K x y H Q ∨ (∃ i j, x = V.str i ∧ y = V.str j ∧ i.length + j.length ≤ sizeLine ∧ Q (V.str (i ++ j)) H)) := opR_or op_add (opR_or op_cat (opR_or op_catT op_add_str))
theorem pure_add {K : PySem.W.Frag} : Pure2 K (fun x y H Q => rI0 (fun i j => V.int (i + j)) x y H Q ∨ rCat x y H Q ∨ rCatT K x y H Q ∨ (∃ i j, x = V.str i ∧ y = V.str j ∧ i.length + j.length ≤ sizeLine ∧ Q (V.str (i ++ j)) H)) gAdd := pureO_of fun Nu φ H u u2 v v2 w Q m h1 h2 e q => by
  obtain ⟨a, b, r, rfl, rfl, e1, rfl⟩ := gDD_some e
  clear e
  unfold hAdd at e1
  split at e1
  · cases e1; cases h1; cases h2
    exact .inl ⟨_, _, rfl, rfl, q H _ Ext.refl (.int _)⟩
  · split at e1
    · rename_i hl
      cases e1
      cases h1 with
      | lst hs1 l1 r1 =>
        cases h2 with
        | lst hs2 l2 r2 =>
          refine .inr (.inl ⟨_, _, _, _, rfl, rfl, (hz_some.mp hs1).2, (hz_some.mp hs2).2, by rw [r1.length, r2.length]; exact hl, fun p hp => q _ _ (Ext.upd hp) ?_⟩)
          obtain ⟨n1, n2⟩ := rep_new (K := K) m hp
          exact .lst n2 (by rw [List.length_append]; exact hl) ((r1.ext n1).append (r2.ext n1))
    · cases e1
  · split at e1
    · rename_i hl
      obtain ⟨hl1, hl3⟩ := hl
      cases e1
      cases h1 with
      | tup hs1 l1 r1 =>
        cases h2 with
        | tup hs2 l2 r2 =>
          refine .inr (.inr (.inl ⟨_, _, _, _, rfl, rfl, SqT.of (hz_some.mp hs1).2, SqT.of (hz_some.mp hs2).2, fun z => hl1 ?_, by rw [r1.length, r2.length]; exact hl3, fun z => ?_, fun _ p hp => q _ _ (Ext.upd hp) ?_⟩))
          · have := r1.length
            rw [z] at this
            exact List.eq_nil_of_length_eq_zero this.symm
          · have := r2.length
            rw [z] at this
            rw [List.eq_nil_of_length_eq_zero this.symm, List.append_nil] at q
            exact q H _ Ext.refl (.tup hs1 l1 r1)
          · obtain ⟨n1, n2⟩ := rep_new (K := K) m hp
            exact .tup n2 (by rw [List.length_append]; exact hl3) ((r1.ext n1).append (r2.ext n1))
    · cases e1
  · split at e1
    · rename_i hl
      cases e1; cases h1; cases h2
      exact .inr (.inr (.inr ⟨_, _, rfl, rfl, hl, q H _ Ext.refl (.str _)⟩))
    · cases e1
  · cases e1
/-! ### * of numbers, lists, tuples -/
theorem tuple_mul1 (l : Addr) (items : Array Value) (n : Nat) (dd : Option Addr) (sl : Array (Option Value)) (u : Tok) :
    Meets (Builtin.«tuple.__mul__» ⟨[.ref l, .int 1 u], []⟩) (fun _ R s => s.heap.get? l = some { cls := .type "tuple", dict := dd, data := .seq items n, slots := sl } ∧ R (.ok (.ret (Value.ref l))) s) :=
  .of_wp fun prog w A R s h => by
    obtain ⟨hp, g, d, tk, os⟩ := s
    obtain ⟨hl, h⟩ := h
    have f1 := AutoSeq1.idx_int
    wp_walk using wpAny_loadPart' hl
    repeat (first
      | (refine wpAny_ite_false (decide_eq_false (by decide)) ?_; wp_walk using wpAny_loadPart' hl)
      | (refine wpAny_ite_true (decide_eq_true (by simp)) ?_; wp_walk using wpAny_loadPart' hl))
    exact ⟨_, rfl, h⟩
def rRepT1 (K : PySem.W.Frag) : R2 := fun x y H Q => ∃ l xs, x = .ref l ∧ y = .int 1 ∧ SqT K H l xs ∧ Q (.ref l) H
theorem op_repT1 {X : Cx} : OpR X (binaryOp .Mult) (rRepT1 X.K) := by
  intro pins s σ H x y v u Q I rx ry h
  obtain ⟨l, xs, rfl, rfl, hT, q⟩ := h
  cases rx
  obtain ⟨t, rfl⟩ := ry
  obtain ⟨its, r, ⟨⟨cls, dd, data, sl⟩, ho, hc, n, hd⟩, hs⟩ := I.tuple hT
  simp only at hc hd
  subst hc hd
  refine wpAny_binaryOp_repeat_ref (T := "tuple") (U := "int") (by decide) ⟨_, ho, rfl⟩ (fun s' => typeIs_int s' 1 t) noFill_tuple_mul F.fills_int_mul F.slot_int_rmul repeat_tuple F.slot_int_index.lookup
    (call_meets F.slot_int_rmul (typeIs_int s 1 t) F.entry_int_rmul (F.args_int_rmul_2 _ _) (int_rmul_tuple 1 t l its.toArray n dd sl)
      ⟨ho, rfl, ⟨_, ho, rfl⟩, call_meets F.slot_tuple_mul ⟨_, ho, rfl⟩ F.entry_tuple_mul (F.args_tuple_mul_2 _ _) (tuple_mul1 l its.toArray n dd sl t) ⟨ho, ?_⟩⟩)
  exact ⟨.ref l, H, I, rfl, q⟩
theorem RepAll.rep {K : PySem.W.Frag} {H : Hp} {xs : List V} {ps : List PyData} (h : RepAll K H xs ps) : ∀ n : Nat, RepAll K H (List.replicate n xs).flatten (List.replicate n ps).flatten
  | 0 => .nil
  | n + 1 => by
    rw [List.replicate_succ, List.replicate_succ, List.flatten_cons, List.flatten_cons]
    exact h.append (RepAll.rep h n)
def hMulA : PyData → PyData → Option PyData
  | .int i, .int j => hMul i j
  | .tuple a, .int k => if a ≠ [] ∧ a.length ≤ 1000 ∧ 1 ≤ k ∧ k ≤ 1000 then some (.tuple (List.replicate k.toNat a).flatten) else none
  | .list a, .int k => if 0 ≤ k ∧ k ≤ 1000000 ∧ a.length * k.toNat ≤ sizeLine then some (.list (List.replicate k.toNat a).flatten) else none
  | _, _ => none
def gMul : Va → Va → Option Va := gDD hMulA
theorem op_mulA {X : Cx} : OpR X (binaryOp .Mult) (fun x y H Q => rI CMul (fun i j => V.int (i * j)) x y H Q ∨ rRepT1 X.K x y H Q ∨ rRepT X.K x y H Q ∨ rRep x y H Q) := opR_or op_mul (opR_or op_repT1 (opR_or op_repT op_rep))
theorem pure_mulA {K : PySem.W.Frag} : Pure2 K (fun x y H Q => rI CMul (fun i j => V.int (i * j)) x y H Q ∨ rRepT1 K x y H Q ∨ rRepT K x y H Q ∨ rRep x y H Q) gMul := pureO_of fun Nu φ H u u2 v v2 w Q m h1 h2 e q => by
  obtain ⟨a, b, r, rfl, rfl, e1, rfl⟩ := gDD_some e
  clear e
  unfold hMulA at e1
  split at e1
  · cases h1; cases h2
    unfold hMul at e1
    split at e1
    · rename_i h
      cases e1
      simp only [mulOk, Bool.or_eq_true, Bool.and_eq_true, decide_eq_true_eq] at h
      exact .inl ⟨_, _, rfl, rfl, h, q H _ Ext.refl (.int _)⟩
    · cases e1
  · split at e1
    · rename_i a k hl
      obtain ⟨l1, l2, l3, l4⟩ := hl
      cases e1
      cases h2
      cases h1 with
      | tup hs ll rr =>
        by_cases hk : k = 1
        · subst hk
          refine .inr (.inl ⟨_, _, rfl, rfl, SqT.of (hz_some.mp hs).2, q H _ Ext.refl ?_⟩)
          have : (List.replicate (1 : Int).toNat a).flatten = a := by
            show (List.replicate 1 a).flatten = a
            simp
          rw [this]
          exact .tup hs ll rr
        · refine .inr (.inr (.inl ⟨_, k, _, rfl, rfl, SqT.of (hz_some.mp hs).2, fun z => l1 ?_, by omega, l4, by rw [rr.length]; exact l2, fun p hp => q _ _ (Ext.upd hp) ?_⟩))
          · have := rr.length
            rw [z] at this
            exact List.eq_nil_of_length_eq_zero this.symm
          · obtain ⟨n1, n2⟩ := rep_new (K := K) m hp
            refine .tup n2 ?_ ((rr.ext n1).rep _)
            rw [PyProof.Rows.lm_len_rep_flat, sizeLine_eq]
            have a1 : k.toNat * a.length ≤ 1000 * 1000 := Nat.mul_le_mul (by omega) l2
            omega
    · cases e1
  · split at e1
    · rename_i a k hl
      obtain ⟨l1, l2, l3⟩ := hl
      cases e1
      cases h2
      cases h1 with
      | lst hs ll rr =>
        refine .inr (.inr (.inr ⟨_, k, _, rfl, rfl, (hz_some.mp hs).2, by omega, by omega, by rw [rr.length]; exact l3, fun p hp => ?_⟩))
        obtain ⟨n1, n2⟩ := rep_new (K := K) (o := .lst (List.replicate k.toNat _).flatten) m hp
        refine q _ _ (Ext.upd hp) (.lst n2 ?_ ((rr.ext n1).rep _))
        rw [PyProof.Rows.lm_len_rep_flat, Nat.mul_comm]
        exact l3
    · cases e1
  · cases e1
/-! ### ==, != -/
def eqOk (p q : PyData) : Bool := nodic p && nodic q && SeqAt.shaped p && SeqAt.shaped q
def strEq : PyData → PyData → Option Bool
  | .str a, .str b => some (decide (a = b))
  | _, _ => none
def hEq (neg : Bool) (p q : PyData) : Option PyData := match strEq p q with
  | some k => some (.bool (if neg = true then !k else k))
  | none => if eqOk p q = true then some (.bool (if neg = true then !PyData.eqv p q else PyData.eqv p q)) else none
def gEq : Va → Va → Option Va := gDD (hEq false)
def gNe : Va → Va → Option Va := gDD (hEq true)
def rEqA (K : PySem.W.Frag) : R2 := fun x y H Q => rEqD K x y H Q ∨ rEq x y H Q
def rNeA (K : PySem.W.Frag) : R2 := fun x y H Q => rNeD K x y H Q ∨ rNe x y H Q
theorem op_eqA {X : Cx} (hu : X.A.units + 64 < cLine) : OpR X (compareOp .Eq) (rEqA X.K) := fun pins s σ H x y v u Q I rx ry h => h.elim (op_eqD hu pins s σ H x y v u Q I rx ry) (op_eq pins s σ H x y v u Q I rx ry)
theorem op_neA {X : Cx} (hu : X.A.units + 64 < cLine) : OpR X (compareOp .NotEq) (rNeA X.K) := fun pins s σ H x y v u Q I rx ry h => h.elim (op_neD hu pins s σ H x y v u Q I rx ry) (op_ne pins s σ H x y v u Q I rx ry)
theorem strEq_some {p q : PyData} {k : Bool} (h : strEq p q = some k) : ∃ a b, p = .str a ∧ q = .str b ∧ k = decide (a = b) := by
  unfold strEq at h
  split at h
  · cases h; exact ⟨_, _, rfl, rfl, rfl⟩
  · cases h
theorem pure_eq {K : PySem.W.Frag} : Pure2 K (rEqA K) gEq := pureO_of fun Nu φ H u u2 v v2 w Q m h1 h2 e q => by
  obtain ⟨a, b, r, rfl, rfl, e1, rfl⟩ := gDD_some e
  unfold hEq at e1
  split at e1
  · rename_i k hk
    obtain ⟨x, y, rfl, rfl, rfl⟩ := strEq_some hk
    cases e1
    cases h1
    cases h2
    refine .inr ⟨rfl, q H _ Ext.refl ?_⟩
    rw [dec_str, show decide (x = y) = (x == y) by rw [Bool.eq_iff_iff]; simp]
    exact .bl _
  · split at e1
    · rename_i h
      cases e1
      simp only [eqOk, Bool.and_eq_true] at h
      exact .inl ⟨a, b, (Rep.ext hz_sub h1).dp h.1.1.1, (Rep.ext hz_sub h2).dp h.1.1.2, h.1.2, h.2, q H _ Ext.refl (.bl _)⟩
    · cases e1
theorem pure_ne {K : PySem.W.Frag} : Pure2 K (rNeA K) gNe := pureO_of fun Nu φ H u u2 v v2 w Q m h1 h2 e q => by
  obtain ⟨a, b, r, rfl, rfl, e1, rfl⟩ := gDD_some e
  unfold hEq at e1
  split at e1
  · rename_i k hk
    obtain ⟨x, y, rfl, rfl, rfl⟩ := strEq_some hk
    cases e1
    cases h1
    cases h2
    refine .inr ⟨rfl, q H _ Ext.refl ?_⟩
    rw [dec_str, show decide (x = y) = (x == y) by rw [Bool.eq_iff_iff]; simp]
    exact .bl _
  · split at e1
    · rename_i h
      cases e1
      simp only [eqOk, Bool.and_eq_true] at h
      exact .inl ⟨a, b, (Rep.ext hz_sub h1).dp h.1.1.1, (Rep.ext hz_sub h2).dp h.1.1.2, h.1.2, h.2, q H _ Ext.refl (.bl _)⟩
    · cases e1
/-! ### is None -/
def isNon : PyData → Bool
  | .none => true
  | _ => false
def gIsN : Va → Va → Option Va
  | .d p, .d .none => some (vB (isNon p))
  | _, _ => none
def gNotN : Va → Va → Option Va
  | .d p, .d .none => some (vB (!isNon p))
  | _, _ => none
theorem rep_non {K : PySem.W.Frag} {Z : Hp} {u : V} {p : PyData} (h : Rep K Z u p) : decide (u = .non) = isNon p := by
  cases h <;> rfl
theorem pure_isN {K : PySem.W.Frag} : Pure2 K (fun x y H Q => y = V.non ∧ Q (V.bl (decide (x = V.non))) H) gIsN := pureO_of fun Nu φ H u u2 v v2 w Q m h1 h2 e q => by
  unfold gIsN at e
  split at e
  · cases e
    cases h2
    have h1 : Rep K (hz Nu H) u _ := h1
    rw [rep_non h1]
    exact ⟨rfl, q H _ Ext.refl (.bl _)⟩
  · cases e
theorem pure_notN {K : PySem.W.Frag} : Pure2 K (fun x y H Q => y = V.non ∧ Q (V.bl (!decide (x = V.non))) H) gNotN := pureO_of fun Nu φ H u u2 v v2 w Q m h1 h2 e q => by
  unfold gNotN at e
  split at e
  · cases e
    cases h2
    have h1 : Rep K (hz Nu H) u _ := h1
    rw [rep_non h1]
    exact ⟨rfl, q H _ Ext.refl (.bl _)⟩
  · cases e
/-! ### built-in functions -/
def hLen : Va → Option Va
  | .d (.list xs) => some (.d (.int xs.length))
  | .d (.tuple xs) => some (.d (.int xs.length))
  | .d (.str x) => if x.length ≤ sizeLine then some (.d (.int x.length)) else none
  | .s ns => some (.d (.int ns.length))
  | _ => none
theorem pure_len {K : PySem.W.Frag} : PureN K (fun xs H Q => ∃ x n, xs = [x] ∧ LenV K x H n ∧ Q (V.int ((n : Nat) : Int)) H) (on1 hLen) := pure1_of fun Nu φ H u v w Q m h e q => by
  unfold hLen at e
  split at e
  · cases e
    cases h with
    | lst hs l r => exact ⟨_, _, rfl, .inl ⟨_, SqL.of (hz_some.mp hs).2, rfl⟩, by rw [r.length]; exact q H _ Ext.refl (.int _)⟩
  · cases e
    cases h with
    | tup hs l r => exact ⟨_, _, rfl, .inr ⟨_, SqT.of (hz_some.mp hs).2, rfl⟩, by rw [r.length]; exact q H _ Ext.refl (.int _)⟩
  · split at e
    · rename_i hl; cases e; cases h; exact ⟨_, _, rfl, ⟨hl, rfl⟩, q H _ Ext.refl (.int _)⟩
    · cases e
  · cases e
    obtain ⟨a, rfl, hs⟩ := h
    exact ⟨_, _, rfl, .inl ⟨_, sqL_ext hz_sub hs, rfl⟩, by rw [List.length_map]; exact q H _ Ext.refl (.int _)⟩
  · cases e
def gMax2 : Va → Va → Option Va := gII fun i j => some (.int (if j > i then j else i))
def gMin2 : Va → Va → Option Va := gII fun i j => some (.int (if j < i then j else i))
theorem pure_max2 {K : PySem.W.Frag} : PureN K (fun xs H Q => ∃ i j, xs = [V.int i, V.int j] ∧ Q (V.int (if j > i then j else i)) H) (on2 gMax2) := pure2_of fun Nu φ H u u2 v v2 w Q m h1 h2 e q => by
  obtain ⟨i, j, p, rfl, rfl, e1, rfl⟩ := gII_some e
  cases h1; cases h2; cases e1
  exact ⟨i, j, rfl, q H _ Ext.refl (.int _)⟩
theorem pure_min2 {K : PySem.W.Frag} : PureN K (fun xs H Q => ∃ i j, xs = [V.int i, V.int j] ∧ Q (V.int (if j < i then j else i)) H) (on2 gMin2) := pure2_of fun Nu φ H u u2 v v2 w Q m h1 h2 e q => by
  obtain ⟨i, j, p, rfl, rfl, e1, rfl⟩ := gII_some e
  cases h1; cases h2; cases e1
  exact ⟨i, j, rfl, q H _ Ext.refl (.int _)⟩
def hInt : Va → Option Va
  | .d (.int i) => some (.d (.int i))
  | _ => none
theorem pure_int {K : PySem.W.Frag} : PureN K (fun xs H Q => (∃ i, xs = [V.int i] ∧ Q (V.int i) H) ∨ ∃ k, xs = [V.bl k] ∧ Q (V.int (if k = true then 1 else 0)) H) (on1 hInt) := pure1_of fun Nu φ H u v w Q m h e q => by
  unfold hInt at e
  split at e
  · cases e; cases h; exact .inl ⟨_, rfl, q H _ Ext.refl (.int _)⟩
  · cases e
def hTup : Va → Option Va
  | .d (.list xs) => some (.d (.tuple xs))
  | .d (.tuple xs) => some (.d (.tuple xs))
  | _ => none
theorem pure_tuple {K : PySem.W.Frag} : PureN K (fun xs H Q => ∃ p ys, xs = [V.ref p] ∧ ((SqL K H p ys ∧ ∀ l, H l = none → Q (V.ref l) (upd H l (HO.tup ys))) ∨ SqT K H p ys ∧ Q (V.ref p) H)) (on1 hTup) := pure1_of fun Nu φ H u v w Q m h e q => by
  unfold hTup at e
  split at e
  · cases e
    cases h with
    | lst hs l r =>
      refine ⟨_, _, rfl, .inl ⟨SqL.of (hz_some.mp hs).2, fun p hp => q _ _ (Ext.upd hp) ?_⟩⟩
      obtain ⟨n1, n2⟩ := rep_new (K := K) m hp
      exact .tup n2 l (r.ext n1)
  · cases e
    cases h with
    | tup hs l r => exact ⟨_, _, rfl, .inr ⟨SqT.of (hz_some.mp hs).2, q H _ Ext.refl (.tup hs l r)⟩⟩
  · cases e
def hList : Va → Option Va
  | .d (.list xs) => some (.d (.list xs))
  | .d (.tuple xs) => some (.d (.list xs))
  | _ => none
theorem pure_list {K : PySem.W.Frag} : PureN K (fun xs H Q => ∃ p ys, xs = [V.ref p] ∧ (SqL K H p ys ∨ SqT K H p ys) ∧ ∀ l, H l = none → Q (V.ref l) (upd H l (HO.lst ys))) (on1 hList) := pure1_of fun Nu φ H u v w Q m h e q => by
  unfold hList at e
  split at e
  · cases e
    cases h with
    | lst hs l r =>
      refine ⟨_, _, rfl, .inl (SqL.of (hz_some.mp hs).2), fun p hp => q _ _ (Ext.upd hp) ?_⟩
      obtain ⟨n1, n2⟩ := rep_new (K := K) m hp
      exact .lst n2 l (r.ext n1)
  · cases e
    cases h with
    | tup hs l r =>
      refine ⟨_, _, rfl, .inr (SqT.of (hz_some.mp hs).2), fun p hp => q _ _ (Ext.upd hp) ?_⟩
      obtain ⟨n1, n2⟩ := rep_new (K := K) m hp
      exact .lst n2 l (r.ext n1)
  · cases e
/-! ### lists of bools, of numbers -/
def asBools : List PyData → Option (List Bool)
  | [] => some []
  | .bool b :: r => (asBools r).map (b :: ·)
  | _ => none
theorem asBools_some : ∀ {ps : List PyData} {bs : List Bool}, asBools ps = some bs → ps = bs.map PyData.bool
  | [], _, h => by cases h; rfl
  | p :: ps, bs, h => by
    cases p <;> simp [asBools] at h
    obtain ⟨cs, h1, rfl⟩ := h
    rw [asBools_some h1]; rfl
def asInts : List PyData → Option (List Int)
  | [] => some []
  | .int b :: r => (asInts r).map (b :: ·)
  | _ => none
theorem asInts_some : ∀ {ps : List PyData} {bs : List Int}, asInts ps = some bs → ps = bs.map PyData.int
  | [], _, h => by cases h; rfl
  | p :: ps, bs, h => by
    cases p <;> simp [asInts] at h
    obtain ⟨cs, h1, rfl⟩ := h
    rw [asInts_some h1]; rfl
theorem asInts_map (ns : List Int) : asInts (ns.map PyData.int) = some ns := by
  induction ns with
  | nil => rfl
  | cons n ns ih => show (asInts (ns.map PyData.int)).map _ = _; rw [ih]; rfl
theorem asBools_map (ns : List Bool) : asBools (ns.map PyData.bool) = some ns := by
  induction ns with
  | nil => rfl
  | cons n ns ih => show (asBools (ns.map PyData.bool)).map _ = _; rw [ih]; rfl
def hAll : Va → Option Va
  | .d (.list xs) => (asBools xs).map fun bs => vB (bs.all id)
  | _ => none
def hAny : Va → Option Va
  | .d (.list xs) => (asBools xs).map fun bs => vB (bs.any id)
  | _ => none
theorem pure_all {K : PySem.W.Frag} : PureN K (rAll K) (on1 hAll) := pure1_of fun Nu φ H u v w Q m h e q => by
  unfold hAll at e
  split at e
  · obtain ⟨bs, e1, rfl⟩ := Option.map_eq_some_iff.mp e
    have := asBools_some e1
    subst this
    cases h with
    | lst hs l r =>
      have := r.bools
      subst this
      exact ⟨_, bs, rfl, SqL.of (hz_some.mp hs).2, q H _ Ext.refl (.bl _)⟩
  · cases e
theorem pure_any {K : PySem.W.Frag} : PureN K (rAny K) (on1 hAny) := pure1_of fun Nu φ H u v w Q m h e q => by
  unfold hAny at e
  split at e
  · obtain ⟨bs, e1, rfl⟩ := Option.map_eq_some_iff.mp e
    have := asBools_some e1
    subst this
    cases h with
    | lst hs l r =>
      have := r.bools
      subst this
      exact ⟨_, bs, rfl, SqL.of (hz_some.mp hs).2, q H _ Ext.refl (.bl _)⟩
  · cases e
end KP


set_option Elab.async false
set_option linter.all false
set_option maxRecDepth 100000
/-! KT: operations on data at any depth: in, repr, isinstance, items, parts, sorted, max. -/
namespace KP
open PySem PySem.Spec PyProof.Rows L2
/-! ### in, not in -/
def rInD (K : PySem.W.Frag) (neg : Bool) : R2 := fun x y H Q => ∃ d xs, Dp K H x d ∧ (Dp K H y (.list xs) ∨ Dp K H y (.tuple xs)) ∧ PyData.plainAll xs = true ∧ d.plain = true ∧ min (PyData.depthAll xs) d.depth ≤ 60 ∧ Q (.bl (if neg = true then !(xs.any fun y => PyData.eqv y d) else xs.any fun y => PyData.eqv y d)) H
theorem op_inD {X : Cx} (hu : X.A.units + 64 < cLine) : OpR X (compareOp .In) (rInD X.K false) := by
  intro pins s σ H x y v u Q I rx ry h
  obtain ⟨d, xs, hd, hx, p1, p2, p3, q⟩ := h
  obtain ⟨as, r1⟩ := Dp.reads I d x v hd rx
  rcases hx with hx | hx
  · obtain ⟨bs, r2⟩ := Dp.reads I _ y u hx ry
    exact PySem.SeqAt.in_list_data r2 r1 p1 p2 (by omega) ⟨.bl _, H, I, rfl, q⟩
  · obtain ⟨bs, r2⟩ := Dp.reads I _ y u hx ry
    exact PySem.SeqAt.in_tuple_data r2 r1 p1 p2 (by omega) ⟨.bl _, H, I, rfl, q⟩
theorem op_notInD {X : Cx} (hu : X.A.units + 64 < cLine) : OpR X (compareOp .NotIn) (rInD X.K true) := by
  intro pins s σ H x y v u Q I rx ry h
  obtain ⟨d, xs, hd, hx, p1, p2, p3, q⟩ := h
  obtain ⟨as, r1⟩ := Dp.reads I d x v hd rx
  rcases hx with hx | hx
  · obtain ⟨bs, r2⟩ := Dp.reads I _ y u hx ry
    exact PySem.SeqAt.notIn_list_data r2 r1 p1 p2 (by omega) ⟨.bl _, H, I, rfl, q⟩
  · obtain ⟨bs, r2⟩ := Dp.reads I _ y u hx ry
    exact PySem.SeqAt.notIn_tuple_data r2 r1 p1 p2 (by omega) ⟨.bl _, H, I, rfl, q⟩
def inOk (d : PyData) (xs : List PyData) : Bool := nodic d && nodicAll xs && PyData.plainAll xs && d.plain && decide (min (PyData.depthAll xs) d.depth ≤ 60)
def seqD : PyData → Option (List PyData)
  | .list xs => some xs
  | .tuple xs => some xs
  | _ => none
def hIn (neg : Bool) (d c : PyData) : Option PyData := (seqD c).bind fun xs => if inOk d xs = true then some (.bool (if neg = true then !(xs.any fun y => PyData.eqv y d) else xs.any fun y => PyData.eqv y d)) else none
def gIn : Va → Va → Option Va := gDD (hIn false)
def gNotIn : Va → Va → Option Va := gDD (hIn true)
theorem pure_inD {K : PySem.W.Frag} {neg : Bool} : Pure2 K (rInD K neg) (gDD (hIn neg)) := pureO_of fun Nu φ H u u2 v v2 w Q m h1 h2 e q => by
  obtain ⟨a, b, r, rfl, rfl, e1, rfl⟩ := gDD_some e
  obtain ⟨xs, e2, e3⟩ := Option.bind_eq_some_iff.mp e1
  split at e3
  · rename_i h
    cases e3
    simp only [inOk, Bool.and_eq_true, decide_eq_true_eq] at h
    obtain ⟨⟨⟨⟨n1, n2⟩, n3⟩, n4⟩, n5⟩ := h
    refine ⟨a, xs, (Rep.ext hz_sub h1).dp n1, ?_, n3, n4, n5, q H _ Ext.refl (.bl _)⟩
    have h2 : Rep K (hz Nu H) u2 b := h2
    cases b <;> simp [seqD] at e2
    · subst e2; exact .inl ((Rep.ext hz_sub h2).dp (by simpa [nodic] using n2))
    · subst e2; exact .inr ((Rep.ext hz_sub h2).dp (by simpa [nodic] using n2))
  · cases e3
/-! ### repr -/
def rRepr (K : PySem.W.Frag) : List V → Hp → VK → Prop := fun us H Q => ∃ a d, us = [.ref a] ∧ Dp K H (.ref a) d ∧ d.showable = true ∧ d.hasDict = false ∧ d.depth ≤ 60 ∧ d.shown.length ≤ sizeLine ∧ Q (.str d.shown) H
theorem cr_repr {X : Cx} (hg : X.A.guards = some []) (hu : X.A.units + 64 < cLine) : CallR X (.builtin "repr") (rRepr X.K) := by
  intro pins s σ H xs us Q I r h
  obtain ⟨a, d, rfl, hd, h1, h2, h3, h4, q⟩ := h
  cases r with
  | cons r rr =>
    cases rr
    obtain ⟨as, rd⟩ := Dp.reads I d _ _ hd r
    cases r
    exact repr_of_reads' rd h1 (fun z => by rw [h2] at z; cases z) hg (by omega) (fun _ _ e => e) (fun h' u tk hk => ⟨.str d.shown, H, I.kept hk, ⟨_, rfl⟩, q⟩) h4
def reprOk (d : PyData) : Bool := nodic d && d.showable && (!d.hasDict) && decide (d.depth ≤ 60) && decide (d.shown.length ≤ sizeLine)
def hRepr : Va → Option Va
  | .d (.list xs) => if reprOk (.list xs) = true then some (.d (.str (PyData.list xs).shown)) else none
  | .d (.tuple xs) => if reprOk (.tuple xs) = true then some (.d (.str (PyData.tuple xs).shown)) else none
  | _ => none
theorem pure_repr {K : PySem.W.Frag} : PureN K (rRepr K) (on1 hRepr) := pure1_of fun Nu φ H u v w Q m h e q => by
  have key : ∀ (d : PyData) (a : Addr), reprOk d = true → Rep K (hz Nu H) (.ref a) d → (∀ H' u', Ext H H' → VRep K Nu φ H' u' (.d (.str d.shown)) → Q u' H') → rRepr K [.ref a] H Q := fun d a ok hr q => by
    simp only [reprOk, Bool.and_eq_true, decide_eq_true_eq, Bool.not_eq_true'] at ok
    obtain ⟨⟨⟨⟨n1, n2⟩, n3⟩, n4⟩, n5⟩ := ok
    exact ⟨a, d, rfl, (Rep.ext hz_sub hr).dp n1, n2, n3, n4, n5, q H _ Ext.refl (.str _)⟩
  unfold hRepr at e
  split at e
  · split at e
    · rename_i ok; cases e
      cases h with
      | lst hs l r => exact key _ _ ok (.lst hs l r) q
    · cases e
  · split at e
    · rename_i ok; cases e
      cases h with
      | tup hs l r => exact key _ _ ok (.tup hs l r) q
    · cases e
  · cases e
/-! ### isinstance of a built-in class -/
def tyName : PyData → String
  | .none => "NoneType"
  | .bool _ => "bool"
  | .int _ => "int"
  | .str _ => "str"
  | .list _ => "list"
  | .tuple _ => "tuple"
  | .dict _ => "dict"
theorem rep_ty {K : PySem.W.Frag} {H : Hp} {u : V} {p : PyData} (h : Rep K H u p) : TyX K H u (.type (tyName p)) := by
  cases h with
  | non => exact .base .non
  | bl b => exact .base (.bl b)
  | int b => exact .base (.int b)
  | str b => exact .base (.str b)
  | lst hs => exact .base (.lst hs)
  | tup hs => exact .base (.tup hs)
  | dcK hr => exact .base (.dK hr)
  | dcT hr => exact .base (.dT hr)
/-- the answers that are asked for -/
def isiB (t c : String) : Bool := t == c || (t == "bool" && c == "int")
def isiOk (t c : String) : Bool := ["NoneType", "bool", "int", "str", "list", "tuple", "dict"].contains t && ["bool", "int", "str", "list", "tuple", "dict"].contains c
theorem isi_kit {t c : String} (h : isiOk t c = true) : kitB t c = some (isiB t c) := by
  have key : (["NoneType", "bool", "int", "str", "list", "tuple", "dict"].all fun t => ["bool", "int", "str", "list", "tuple", "dict"].all fun c => kitB t c == some (isiB t c)) = true := by decide +kernel
  simp only [isiOk, Bool.and_eq_true] at h
  have h1 := List.all_eq_true.mp key t (List.contains_iff_mem.mp h.1)
  have h2 := List.all_eq_true.mp h1 c (List.contains_iff_mem.mp h.2)
  simpa using h2
theorem tyName_ok (p : PyData) : ["NoneType", "bool", "int", "str", "list", "tuple", "dict"].contains (tyName p) = true := by cases p <;> simp only [tyName] <;> decide
def gIsi (c : String) : Va → Option Va
  | .d p => some (vB (isiB (tyName p) c))
  | _ => none
theorem e_isi {X : Cx} {ew : WX} {fl : Bool} {e : Expr} {f : DF} {T : Str} {c : String} {p p2 pos : Pos} (hg : Gl X "isinstance") (hm : X.mg "isinstance" = none) (hgT : Gl X T) (hmT : X.mg T = none) (hvT : bootBuiltins T = some (.type c)) (hc : ["bool", "int", "str", "list", "tuple", "dict"].contains c = true) (h : E X ew fl e f)
    (hn : T ≠ "__name__" := by decide) (hd : (T == ("__debug__" : Str)) = false := by decide)
    (he : starEach [e, .Name T p2] X.env = (false, eval e X.env) :: starEach [.Name T p2] X.env := by rfl) (he2 : starEach [.Name T p2] X.env = (false, eval (.Name T p2) X.env) :: starEach [] X.env := by rfl) (hpl : (backTo pos (starEach [.Name T p2] X.env)).any (·.1) = false := by rfl) :
    E X ew fl (.Call (.Name "isinstance" p) [e, .Name T p2] [] pos) (c1 (gIsi c) f) :=
  pe_weak (pe_callB call_isi hg hm (by decide +kernel) (pa_cons h (pa_cons (pe_bltn hgT hmT hvT (v := .ty c) rfl hn hd) pa_nil he2) he) (by decide) (by decide) he hpl) fun σ H Q h => tI_c1 (C := ⟨X.K, X.mg, ew⟩) (r := fun x H1 Q => rIsi X.K [x, .ty c] H1 Q) (pureU_of fun Nu φ H u v w Q m h e q => by
    unfold gIsi at e
    split at e
    · rename_i p
      cases e
      have h : Rep X.K (hz Nu H) u p := h
      refine ⟨u, .ty c, .type (tyName p), .type c, _, rfl, .ty c, rep_ty (h.ext hz_sub), kit_ty (isi_kit ?_), q H _ Ext.refl (.bl _)⟩
      simp only [isiOk, Bool.and_eq_true]
      exact ⟨tyName_ok p, hc⟩
    · cases e) h
/-! ### x[i] -/
def hIx : PyData → PyData → Option PyData
  | .list xs, .int i => atI xs i
  | .tuple xs, .int i => atI xs i
  | .str z, .int i => if z.length ≤ sizeLine then (atI z.cps.toList i).map fun c => .str ⟨#[c]⟩ else none
  | _, _ => none
def gIx : Va → Va → Option Va := gDD hIx
theorem rep_atI {K : PySem.W.Frag} {Z : Hp} {us : List V} {xs : List PyData} {i : Int} {p : PyData} (h : RepAll K Z us xs) (e : atI xs i = some p) : ∃ v, atI us i = some v ∧ Rep K Z v p := by
  unfold atI at e ⊢
  rw [h.length]
  obtain ⟨j, e1, e2⟩ := Option.bind_eq_some_iff.mp e
  obtain ⟨v, h1, h2⟩ := h.get e2
  exact ⟨v, by rw [e1]; exact h1, h2⟩
theorem pure_ix {K : PySem.W.Frag} : Pure2 K (rIx K) gIx := pureO_of fun Nu φ H u u2 v v2 w Q m h1 h2 e q => by
  obtain ⟨a, b, r, rfl, rfl, e1, rfl⟩ := gDD_some e
  unfold hIx at e1
  split at e1
  · cases h2
    cases h1 with
    | lst hs l rr =>
      obtain ⟨v, g1, g2⟩ := rep_atI rr e1
      exact .inl ⟨_, _, _, v, rfl, rfl, SqL.of (hz_some.mp hs).2, g1, q H v Ext.refl g2⟩
  · cases h2
    cases h1 with
    | tup hs l rr =>
      obtain ⟨v, g1, g2⟩ := rep_atI rr e1
      exact .inr (.inl ⟨_, _, _, v, rfl, rfl, SqT.of (hz_some.mp hs).2, g1, q H v Ext.refl g2⟩)
  · split at e1
    · rename_i hl
      obtain ⟨c, e2, e3⟩ := Option.map_eq_some_iff.mp e1
      subst e3
      cases h1; cases h2
      exact .inr (.inr ⟨_, _, c, rfl, rfl, hl, e2, q H _ Ext.refl (.str _)⟩)
    · cases e1
  · cases e1
theorem e_ix {X : Cx} {ew : WX} {fl : Bool} {a b : Expr} {fa fb : DF} {pos : Pos} (ha : E X ew fl a fa) (hb : E X ew fl b fb) (hs : PlainIx b := by intro _ _; rfl) : E X ew fl (.Subscript a b pos) (c2 gIx fa fb) :=
  pe_weak (pe_ix ix_seq ha hb hs) fun _ _ _ h => tI_c2 pure_ix h
/-! ### x[a:b] -/
def cutD {α : Type} (xs : List α) (lo hi : Option Int) : List α := (xs.drop (HT.sIx xs.length 0 lo)).take (HT.sIx xs.length xs.length hi - HT.sIx xs.length 0 lo)
theorem cutD_len {α : Type} (xs : List α) (lo hi : Option Int) : (cutD xs lo hi).length ≤ xs.length := by
  unfold cutD
  rw [List.length_take, List.length_drop]
  omega
theorem rep_cut {K : PySem.W.Frag} {Z : Hp} {us : List V} {xs : List PyData} (h : RepAll K Z us xs) (lo hi : Option Int) : RepAll K Z (cutV us lo hi) (cutD xs lo hi) := by
  unfold cutV cutD
  rw [h.length]
  exact (h.drop _).take _
/-- a part of a slice -/
def partF (f : Option DF) : En → M (Option Int) := fun env => match f with
  | none => ret none
  | some g => bnd (g env) fun v => bnd (ofO v.asI) fun i => ret (some i)
def tIP (C : Ct) (fl : Bool) (f : En → M (Option Int)) : TO := fun σ H Q => ∃ W φ own env S, Rel C.K W φ own env S σ H ∧
  (f env S).sat (fun o S' => ∀ φ' H', Rel C.K W φ' own env S' σ H' → Kp φ H φ' H' → Q o H') (fun x S' => ∀ φ' H', Rel C.K W φ' own env S' σ H' → Kp φ H φ' H' → XWish C (Mu W.G φ' own) σ H' x)
def EPt (X : Cx) (ew : WX) (fl : Bool) (e : Option Expr) (f : Option DF) : Prop := PO X e (tIP ⟨X.K, X.mg, ew⟩ fl (partF f))
theorem po_weak {X : Cx} {e : Option Expr} {t t' : TO} (h : PO X e t) (i : ∀ σ H Q, t' σ H Q → t σ H Q) : PO X e t' := ⟨fun pins s σ H Q I q => h.run pins s σ H Q I (i _ _ _ q)⟩
theorem ep_none {X : Cx} {ew : WX} {fl : Bool} : EPt X ew fl none none := po_weak po_none fun σ H Q h => by
  obtain ⟨W, φ, own, env, S, r, h⟩ := h
  exact h φ H r Kp.refl
theorem ep_some {X : Cx} {ew : WX} {fl : Bool} {e : Expr} {f : DF} (h : E X ew fl e f) : EPt X ew fl (some e) (some f) := po_weak (po_some h) fun σ H Q h => by
  obtain ⟨W, φ, own, env, S, r, h⟩ := h
  refine ⟨W, φ, own, env, S, r, (sat_bnd.mp h).mono (fun v S1 q φ1 H1 u r1 k1 v1 => ?_) fun _ _ q => q⟩
  obtain ⟨i, e1, q1⟩ := sat_ofO.mp (sat_bnd.mp q)
  obtain rfl := asI_some e1
  cases v1
  exact ⟨i, rfl, q1 φ1 H1 r1 k1⟩
def eSl (g : Va → Option Int → Option Int → Option Va) (f : DF) (lo hi : Option DF) : DF := fun env => bnd (f env) fun v => bnd (partF lo env) fun a => bnd (partF hi env) fun b => ofO (g v a b)
def PureS (K : PySem.W.Frag) (r : V → Option Int → Option Int → Hp → VK → Prop) (g : Va → Option Int → Option Int → Option Va) : Prop :=
  ∀ Nu φ H u v lo hi w Q, MuOk Nu H → VRep K Nu φ H u v → g v lo hi = some w → (∀ H' u', Ext H H' → VRep K Nu φ H' u' w → Q u' H') → r u lo hi H Q
theorem tI_sl {C : Ct} {fl : Bool} {σ : L2.St} {H : Hp} {Q : VK} {f : DF} {lo hi : Option DF} {g : Va → Option Int → Option Int → Option Va} {r : V → Option Int → Option Int → Hp → VK → Prop} (pr : PureS C.K r g) (h : tI C fl (eSl g f lo hi) σ H Q) : tSl r (tI C fl f) (tIP C fl (partF lo)) (tIP C fl (partF hi)) σ H Q := by
  obtain ⟨W, φ, own, env, S, r0, h⟩ := h
  refine ⟨W, φ, own, env, S, r0, (sat_bnd.mp h).mono (fun v S1 q φ1 H1 u r1 k1 v1 => ?_) fun _ _ q => q⟩
  refine ⟨W, φ1, own, env, S1, r1, (sat_bnd.mp q).mono (fun a S2 q φ2 H2 r2 k2 => ?_) fun x S' q φ' H' r' k' => q φ' H' r' (k1.trans k')⟩
  refine ⟨W, φ2, own, env, S2, r2, (sat_bnd.mp q).mono (fun b S3 q φ3 H3 r3 k3 => ?_) fun x S' q φ' H' r' k' => q φ' H' r' ((k1.trans k2).trans k')⟩
  obtain ⟨w, e, q⟩ := sat_ofO.mp q
  exact pr (Mo fl W.G φ3 own) φ3 H3 u v a b w Q (r3.muo fl) ((v1.keep k2).keep k3) e fun H' u' ee vv => q φ3 H' u' (r3.grow ee) (((k1.trans k2).trans k3).trans (Kp.ext ee)) vv
theorem e_sl {X : Cx} {ew : WX} {fl : Bool} {e : Expr} {lo hi : Option Expr} {f : DF} {fa fb : Option DF} {p2 pos : Pos} {g : Va → Option Int → Option Int → Option Va} {r : V → Option Int → Option Int → Hp → VK → Prop} (hr : SlR X r) (pr : PureS X.K r g) (he : E X ew fl e f) (hl : EPt X ew fl lo fa) (hu : EPt X ew fl hi fb) :
    E X ew fl (.Subscript e (.Slice lo hi none p2) pos) (eSl g f fa fb) := pe_weak (pe_slice hr he hl hu) fun _ _ _ h => tI_sl pr h
def gSlL : Va → Option Int → Option Int → Option Va
  | .d (.list xs), a, b => some (.d (.list (cutD xs a b)))
  | .s ns, a, b => if ns.length ≤ 1000 then some (.d (.list ((cutD ns a b).map PyData.int))) else none
  | _, _, _ => none
theorem cutV_map (ns : List Int) (a b : Option Int) : cutV (ns.map V.int) a b = (cutD ns a b).map V.int := by
  unfold cutV cutD
  rw [List.length_map, List.map_take, List.map_drop]
theorem pure_slL {K : PySem.W.Frag} : PureS K (rSlL K) gSlL := fun Nu φ H u v lo hi w Q m h e q => by
  unfold gSlL at e
  split at e
  · cases e
    cases h with
    | lst hs l r =>
      refine ⟨_, _, rfl, SqL.of (hz_some.mp hs).2, fun p hp => q _ _ (Ext.upd hp) ?_⟩
      obtain ⟨n1, n2⟩ := rep_new (K := K) m hp
      exact .lst n2 (Nat.le_trans (cutD_len _ _ _) l) (rep_cut (r.ext n1) _ _)
  · split at e
    · rename_i hl
      cases e
      obtain ⟨a, rfl, hs⟩ := h
      refine ⟨_, _, rfl, sqL_ext hz_sub hs, fun p hp => q _ _ (Ext.upd hp) ?_⟩
      obtain ⟨n1, n2⟩ := rep_new (K := K) (o := .lst (cutV _ lo hi)) m hp
      refine .lst n2 ?_ (by rw [cutV_map]; exact .ofInts)
      rw [List.length_map]
      have := cutD_len ‹List Int› lo hi
      rw [sizeLine_eq]
      omega
    · cases e
  · cases e
/-! ### sorted of whole numbers -/
def insI (x : Int) : List Int → List Int
  | [] => [x]
  | y :: r => if x ≤ y then x :: y :: r else y :: insI x r
def sortI : List Int → List Int
  | [] => []
  | x :: r => insI x (sortI r)
theorem insI_perm (x : Int) : ∀ l : List Int, (insI x l).Perm (x :: l)
  | [] => .refl _
  | y :: r => by
    unfold insI
    split
    · exact .refl _
    · exact ((insI_perm x r).cons y).trans (.swap x y r)
theorem sortI_perm : ∀ l : List Int, (sortI l).Perm l
  | [] => .refl _
  | x :: r => (insI_perm x _).trans ((sortI_perm r).cons x)
theorem insI_sorted (x : Int) : ∀ l : List Int, l.Pairwise (· ≤ ·) → (insI x l).Pairwise (· ≤ ·)
  | [], _ => by simp [insI]
  | y :: r, h => by
    obtain ⟨h1, h2⟩ := List.pairwise_cons.mp h
    unfold insI
    split
    · rename_i hxy
      exact List.pairwise_cons.mpr ⟨fun z hz => (List.mem_cons.mp hz).elim (fun e => e ▸ hxy) fun hz => Int.le_trans hxy (h1 z hz), h⟩
    · rename_i hxy
      refine List.pairwise_cons.mpr ⟨fun z hz => ?_, insI_sorted x r h2⟩
      rcases List.mem_cons.mp ((insI_perm x r).subset hz) with e | hz
      · rw [e]; omega
      · exact h1 z hz
theorem sortI_sorted : ∀ l : List Int, (sortI l).Pairwise (· ≤ ·)
  | [] => .nil
  | x :: r => insI_sorted x _ (sortI_sorted r)
theorem sorted_one : ∀ {a b : List Int}, a.Perm b → a.Pairwise (· ≤ ·) → b.Pairwise (· ≤ ·) → a = b
  | [], b, p, _, _ => (List.perm_nil.mp p.symm).symm ▸ rfl
  | x :: a, [], p, _, _ => absurd p.length_eq (by simp)
  | x :: a, y :: b, p, ha, hb => by
    obtain ⟨h1, h2⟩ := List.pairwise_cons.mp ha
    obtain ⟨h3, h4⟩ := List.pairwise_cons.mp hb
    have e : x = y := by
      have m1 : y ∈ x :: a := p.symm.subset List.mem_cons_self
      have m2 : x ∈ y :: b := p.subset List.mem_cons_self
      rcases List.mem_cons.mp m1 with z | z
      · exact z.symm
      · rcases List.mem_cons.mp m2 with w | w
        · exact w
        · have := h1 y z
          have := h3 x w
          omega
    subst e
    rw [sorted_one (p.cons_inv) h2 h4]
def hSort : Va → Option Va
  | .d (.list xs) => (asInts xs).map fun ns => .d (.list ((sortI ns).map PyData.int))
  | _ => none
theorem pure_sort {K : PySem.W.Frag} : PureN K (rSortedI K) (on1 hSort) := pure1_of fun Nu φ H u v w Q m h e q => by
  unfold hSort at e
  split at e
  · obtain ⟨ns, e1, rfl⟩ := Option.map_eq_some_iff.mp e
    have := asInts_some e1
    subst this
    cases h with
    | lst hs l r =>
      have := r.ints
      subst this
      refine ⟨_, ns, rfl, SqL.of (hz_some.mp hs).2, fun ns' p hp hsrt hn => ?_⟩
      have e2 : ns' = sortI ns := sorted_one (hp.trans (sortI_perm ns).symm) hsrt (sortI_sorted ns)
      subst e2
      refine q _ _ (Ext.upd hn) ?_
      obtain ⟨n1, n2⟩ := rep_new (K := K) (o := .lst ((sortI ns).map V.int)) m hn
      refine .lst n2 ?_ .ofInts
      rw [List.length_map, (sortI_perm ns).length_eq]
      rw [List.length_map] at l
      exact l
  · cases e
/-! ### max of whole numbers -/
def maxI (n : Int) (ns : List Int) : Int := ns.foldl (fun a y => if a < y then y else a) n
theorem maxI_mem : ∀ (ns : List Int) (n : Int), maxI n ns ∈ n :: ns
  | [], n => by simp [maxI]
  | y :: r, n => by
    show maxI (if n < y then y else n) r ∈ _
    have := maxI_mem r (if n < y then y else n)
    rcases List.mem_cons.mp this with e | e
    · rw [e]; split <;> simp
    · exact List.mem_cons_of_mem _ (List.mem_cons_of_mem _ e)
theorem maxI_ge : ∀ (ns : List Int) (n : Int), ∀ y ∈ n :: ns, y ≤ maxI n ns
  | [], n, y, h => by simp at h; rw [h]; simp [maxI]
  | z :: r, n, y, h => by
    show y ≤ maxI (if n < z then z else n) r
    have ih := maxI_ge r (if n < z then z else n)
    have h0 := ih _ List.mem_cons_self
    have h1 : n ≤ (if n < z then z else n) ∧ z ≤ (if n < z then z else n) := by split <;> omega
    rcases List.mem_cons.mp h with e | h
    · rw [e]; omega
    · rcases List.mem_cons.mp h with e | h
      · rw [e]; omega
      · exact ih y (List.mem_cons_of_mem _ h)
def rMaxT (K : PySem.W.Frag) : List V → Hp → VK → Prop := fun vs H Q => ∃ (a : Addr) (n : Int) (ns : List Int), vs = [V.ref a] ∧ SqT K H a ((n :: ns).map V.int) ∧ Q (.int (maxI n ns)) H
theorem callR_or {X : Cx} {f : Value} {r r' : List V → Hp → VK → Prop} (h : CallR X f r) (h' : CallR X f r') : CallR X f (fun xs H Q => r xs H Q ∨ r' xs H Q) := by
  intro pins s σ H xs us Q I rx q
  rcases q with q | q
  · exact h pins s σ H xs us Q I rx q
  · exact h' pins s σ H xs us Q I rx q
theorem maxD_int : ∀ (ns : List Int) (n : Int), PySem.W.maxD (.int n) (ns.map PyData.int) = .int (maxI n ns)
  | [], n => rfl
  | y :: r, n => by
    show PySem.W.maxD (if PySem.W.dataLt (.int n) (.int y) = true then .int y else .int n) (r.map PyData.int) = .int (maxI (if n < y then y else n) r)
    rw [PySem.W.dataLt_int]
    by_cases h : n < y
    · rw [if_pos (decide_eq_true h), if_pos h]; exact maxD_int r y
    · rw [if_neg (by simpa using h), if_neg h]; exact maxD_int r n
theorem depth_ints : ∀ ns : List Int, PyData.depthAll (ns.map PyData.int) = 0
  | [] => rfl
  | n :: ns => by
    show max (PyData.depth (.int n)) (PyData.depthAll (ns.map PyData.int)) = 0
    rw [depth_ints ns]; rfl
theorem cr_maxT {X : Cx} (hc : X.calm = true) (hu : X.A.units + 64 < cLine) : CallR X (.builtin "max") (rMaxT X.K) := by
  intro pins s σ H xs us Q I r h
  obtain ⟨a, n, ns, rfl, hs, q⟩ := h
  obtain ⟨its, rv, ht, _⟩ := I.tuple hs
  rw [Vals.ref1 r]
  have hd : DpAll X.K H ((n :: ns).map V.int) ((n :: ns).map PyData.int) := by
    generalize n :: ns = l
    induction l with
    | nil => exact .nil
    | cons x l ih => exact .cons (.int x) ih
  obtain ⟨as, rr⟩ := Dp.readsAll I _ _ _ hd rv
  refine PySem.W.max_tuple_data (x := .int n) (xs := ns.map PyData.int) (as := as) (I.ok.hd hc) (show s.heap.IsTuple a its.toArray from ht) (by simpa using rr) ⟨fun x hx y hy => ?_, fun x hx => ?_⟩ ?_ fun i v h' tk bs hv rd hk => ?_
  · have hx' : ∃ i, x = .int i := by
      rcases List.mem_cons.mp hx with e | e
      · exact ⟨n, e⟩
      · obtain ⟨i, _, rfl⟩ := List.mem_map.mp e; exact ⟨i, rfl⟩
    have hy' : ∃ i, y = .int i := by
      rcases List.mem_cons.mp hy with e | e
      · exact ⟨n, e⟩
      · obtain ⟨i, _, rfl⟩ := List.mem_map.mp e; exact ⟨i, rfl⟩
    obtain ⟨i, rfl⟩ := hx'
    obtain ⟨j, rfl⟩ := hy'
    rfl
  · rcases List.mem_cons.mp hx with e | e
    · rw [e]; exact fun z => by cases z
    · obtain ⟨i, _, rfl⟩ := List.mem_map.mp e; exact fun z => by cases z
  · rw [show (PyData.int n :: ns.map PyData.int) = (n :: ns).map PyData.int from rfl, depth_ints]
    omega
  · rw [maxD_int] at rd
    cases rd
    exact ⟨.int _, H, I.kept hk, ⟨_, rfl⟩, q⟩
theorem cr_maxA {X : Cx} (hc : X.calm = true) (hu : X.A.units + 64 < cLine) : CallR X (.builtin "max") (fun xs H Q => rMax X.K xs H Q ∨ rMaxT X.K xs H Q) := callR_or (cr_max hc) (cr_maxT hc hu)
def hMax : Va → Option Va
  | .d p => (seqD p).bind fun xs => match asInts xs with
    | some (n :: ns) => some (.d (.int (maxI n ns)))
    | _ => none
  | _ => none
theorem pure_max {K : PySem.W.Frag} : PureN K (fun xs H Q => rMax K xs H Q ∨ rMaxT K xs H Q) (on1 hMax) := pure1_of fun Nu φ H u v w Q m h e q => by
  unfold hMax at e
  split at e
  · rename_i p
    obtain ⟨xs, e1, e2⟩ := Option.bind_eq_some_iff.mp e
    split at e2
    · rename_i n ns e3
      cases e2
      have := asInts_some e3
      subst this
      have h : Rep K (hz Nu H) u p := h
      cases p <;> simp [seqD] at e1
      · subst e1
        cases h with
        | lst hs l r =>
          have := RepAll.ints (ns := n :: ns) r
          subst this
          refine .inl ⟨_, n :: ns, rfl, SqL.of (hz_some.mp hs).2, by simp, fun k hk hmax => ?_⟩
          have ek : k = maxI n ns := by
            have h1 := maxI_ge ns n k hk
            have h2 := hmax _ (maxI_mem ns n)
            omega
          rw [ek]
          exact q H _ Ext.refl (.int _)
      · subst e1
        cases h with
        | tup hs l r =>
          have := RepAll.ints (ns := n :: ns) r
          subst this
          exact .inr ⟨_, n, ns, rfl, SqT.of (hz_some.mp hs).2, q H _ Ext.refl (.int _)⟩
    · cases e2
  · cases e
/-! ### xs.index(x) -/
def hIndex (c d : PyData) : Option PyData := match c with
  | .list xs => if inOk d xs = true then (xs.findIdx? fun y => PyData.eqv y d).map fun (j : Nat) => PyData.int (j : Int) else none
  | _ => none
def rIndexD (K : PySem.W.Frag) : V → List V → Hp → VK → Prop := fun x us H Q => ∃ y d xs j, us = [y] ∧ Dp K H y d ∧ Dp K H x (.list xs) ∧ PyData.plainAll xs = true ∧ d.plain = true ∧ min (PyData.depthAll xs) d.depth ≤ 60 ∧ xs.length ≤ sizeLine ∧ (xs.findIdx? fun y => PyData.eqv y d) = some j ∧ Q (.int (j : Nat)) H
theorem mt_indexD {X : Cx} (hu : X.A.units + 64 < cLine) : MtR X "list.index" (rIndexD X.K) := by
  intro pins s σ H x us0 v us Q I rx rxs h
  obtain ⟨y, d, xs, j, rfl, hy, hx, p1, p2, p3, p4, p5, q⟩ := h
  cases rxs with
  | cons ry rt =>
    cases rt
    obtain ⟨bs, r2⟩ := Dp.reads I d y _ hy ry
    cases hx with
    | lst hs ha =>
      cases rx
      obtain ⟨its, rv, ⟨⟨cls, dd, data, sl⟩, n, ho, hc, hdn, hd⟩, hlen⟩ := I.list hs
      simp only at hc hd
      subst hc hd
      obtain ⟨as, rs⟩ := Dp.readsAll I xs _ its ha rv
      have rs' : ReadsAll s.heap its.toArray.toList xs as := by simpa using rs
      obtain ⟨hj, hit, hno⟩ := PySem.SeqAt.hit_at (d := d) rs' p1 p5
      have hsl := sizeLine_eq
      have hle : its.toArray.size = xs.length := PySem.SeqAt.len_at rs'
      exact call_meets PySem.F.slot_list_index ⟨_, ho, rfl⟩ PySem.F.entry_list_index (PySem.F.args_list_index_2 _ _)
        (SeqAt.list_indexAt _ its.toArray n dd sl _ (fun y => PyData.eqv (PySem.SeqAt.readOf s.heap y) d) j hj (by omega) hit hno) ⟨ho, PySem.SeqAt.items_plain rs' r2 p1 p2 (by omega), ⟨.int (j : Nat), H, I.tok _, ⟨_, rfl⟩, q⟩⟩
def Va.asLst : Va → Option (List PyData)
  | .d (.list xs) => some xs
  | _ => none
theorem asLst_some {v : Va} {xs : List PyData} (h : v.asLst = some xs) : v = .d (.list xs) := by
  cases v with
  | c n => cases h
  | s n => cases h
  | d p => cases p <;> simp [Va.asLst] at h; subst h; rfl
def gIndex (xs : List PyData) : Va → Option Va
  | .d d => if inOk d xs = true then (xs.findIdx? fun y => PyData.eqv y d).map fun (j : Nat) => .d (.int (j : Int)) else none
  | _ => none
def cIndex (fo f : DF) : DF := fun env => bnd (fo env) fun v => bnd (ofO v.asLst) fun xs => bnd (f env) fun w => ofO (gIndex xs w)
theorem e_index {X : Cx} {ew : WX} {fl : Bool} {o e : Expr} {fo f : DF} {apos cpos : Pos} (hu : X.A.units + 64 < cLine) (ho : E X ew fl o fo) (h : E X ew fl e f)
    (hbase : attributeBase o "index" X.env (eval o X.env) = eval o X.env := by rfl)
    (hfew : ((backTo cpos (starEach [e] X.env)).all (fun x => !x.1) && (backToKw cpos (keywordEach [] X.env)).all (fun x => x.1.isSome)
      && decide (([e] : List Expr).length + ([] : List Keyword).length + (if ([] : List Keyword).isEmpty then 0 else 1) < 30)) = true := by rfl)
    (hline : (apos.endLine == cpos.line) = true := by rfl) (hst : starEach [e] X.env = (false, eval e X.env) :: starEach [] X.env := by rfl) (hplain : (backTo cpos (starEach [] X.env)).any (·.1) = false := by rfl) :
    E X ew fl (.Call (.Attribute o "index" apos) [e] [] cpos) (cIndex fo f) :=
  pe_weak (pe_bm PySem.F.plainAttrs_list PySem.F.slot_list_index PySem.F.type_list_index (mt_indexD hu) ho (pa_cons h pa_nil hst) hbase hfew hline hst hplain) fun σ H Q h => by
    obtain ⟨W, φ, own, env, S, r0, h⟩ := h
    refine ⟨W, φ, own, env, S, r0, (sat_bnd.mp h).mono (fun v S1 q φ1 H1 u r1 k1 v1 => ?_) fun _ _ q => q⟩
    obtain ⟨xs, e1, q1⟩ := sat_ofO.mp (sat_bnd.mp q)
    obtain rfl := asLst_some e1
    have v1' : Rep X.K (hz (Mo fl W.G φ1 own) H1) u (.list xs) := v1
    cases v1' with
    | lst hs l rr =>
      refine ⟨.inl ⟨rfl, _, SqL.of (hz_some.mp hs).2⟩, W, φ1, own, env, S1, r1, (sat_bnd.mp q1).mono (fun w S2 q2 φ2 H2 u2 r2 k2 v2 => ?_) fun x S' q φ' H' r' k' => q φ' H' r' (k1.trans k')⟩
      obtain ⟨z, e2, q3⟩ := sat_ofO.mp q2
      unfold gIndex at e2
      split at e2
      · rename_i d
        split at e2
        · rename_i ok
          obtain ⟨j, e3, e4⟩ := Option.map_eq_some_iff.mp e2
          subst e4
          simp only [inOk, Bool.and_eq_true, decide_eq_true_eq] at ok
          obtain ⟨⟨⟨⟨n1, n2⟩, n3⟩, n4⟩, n5⟩ := ok
          have v1k : Rep X.K (hz (Mo fl W.G φ2 own) H2) (.ref _) (.list xs) := Rep.ext (k2.hz (fl := fl)) (.lst hs l rr)
          exact ⟨u2, d, xs, j, rfl, (Rep.ext hz_sub v2).dp n1, (Rep.ext hz_sub v1k).dp (by simpa [nodic] using n2), n3, n4, n5, l, e3, q3 φ2 H2 _ r2 (k1.trans k2) (.int _)⟩
        · cases e2
      · cases e2
end KP


set_option Elab.async false
set_option linter.all false
set_option maxRecDepth 100000
/-! KU: list(range(n)), tuple(range(n)); the law's call. -/
namespace KP
open PySem PySem.Spec PyProof.Rows L2
def gLRg : Va → Option Va
  | .d (.int n) => if -16777216 ≤ n ∧ n ≤ 16777216 then some (.d (.list (rngL 0 n))) else none
  | _ => none
def gTRg : Va → Option Va
  | .d (.int n) => if -16777216 ≤ n ∧ n ≤ 16777216 then some (.d (.tuple (rngL 0 n))) else none
  | _ => none
theorem rgV_rep {K : PySem.W.Frag} {Z : Hp} (a b : Int) : RepAll K Z (rgV a b) (rngL a b) := by
  unfold rgV rngL
  generalize List.range (b - a).toNat = l
  induction l with
  | nil => exact .nil
  | cons x l ih => exact .cons (.int _) ih
theorem rngL_len (a b : Int) : (rngL a b).length = (b - a).toNat := by simp [rngL]
theorem e_listRg {X : Cx} {ew : WX} {fl : Bool} {a : Expr} {f : DF} {p p2 pos pos2 : Pos} (hc : X.calm = true) (hg : Gl X "list") (hm : X.mg "list" = none) (hg2 : Gl X "range") (hm2 : X.mg "range" = none) (h : E X ew fl a f)
    (na : starEach [a] X.env = (false, eval a X.env) :: starEach [] X.env := by rfl) (na2 : starEach [.Call (.Name "range" p2) [a] [] pos2] X.env = (false, eval (.Call (.Name "range" p2) [a] [] pos2) X.env) :: starEach [] X.env := by rfl) :
    E X ew fl (.Call (.Name "list" p) [.Call (.Name "range" p2) [a] [] pos2] [] pos) (c1 gLRg f) :=
  pe_weak (pe_listRg hc hg hm (prg_1 hg2 hm2 h na) na2) fun σ H Q h => tI_c1 (C := ⟨X.K, X.mg, ew⟩) (r := fun x H1 Q => ∃ n, x = .int n ∧ RgOk 0 n ∧ ∀ q, H1 q = none → Q (.ref q) (upd H1 q (.lst (rgV 0 n)))) (pureU_of fun Nu φ H u v w Q m h e q => by
    unfold gLRg at e
    split at e
    · split at e
      · rename_i n hl
        cases e; cases h
        refine ⟨_, rfl, ⟨by omega, by omega, by omega, by omega, by omega⟩, fun p hp => q _ _ (Ext.upd hp) ?_⟩
        obtain ⟨n1, n2⟩ := rep_new (K := X.K) (o := .lst (rgV 0 n)) m hp
        exact .lst n2 (by rw [rngL_len, sizeLine_eq]; omega) (rgV_rep _ _)
      · cases e
    · cases e) h
theorem e_tupRg {X : Cx} {ew : WX} {fl : Bool} {a : Expr} {f : DF} {p p2 pos pos2 : Pos} (hc : X.calm = true) (hg : Gl X "tuple") (hm : X.mg "tuple" = none) (hg2 : Gl X "range") (hm2 : X.mg "range" = none) (h : E X ew fl a f)
    (na : starEach [a] X.env = (false, eval a X.env) :: starEach [] X.env := by rfl) (na2 : starEach [.Call (.Name "range" p2) [a] [] pos2] X.env = (false, eval (.Call (.Name "range" p2) [a] [] pos2) X.env) :: starEach [] X.env := by rfl) :
    E X ew fl (.Call (.Name "tuple" p) [.Call (.Name "range" p2) [a] [] pos2] [] pos) (c1 gTRg f) :=
  pe_weak (pe_tupRg hc hg hm (prg_1 hg2 hm2 h na) na2) fun σ H Q h => tI_c1 (C := ⟨X.K, X.mg, ew⟩) (r := fun x H1 Q => ∃ n, x = .int n ∧ RgOk 0 n ∧ ∀ q, H1 q = none → Q (.ref q) (upd H1 q (.tup (rgV 0 n)))) (pureU_of fun Nu φ H u v w Q m h e q => by
    unfold gTRg at e
    split at e
    · split at e
      · rename_i n hl
        cases e; cases h
        refine ⟨_, rfl, ⟨by omega, by omega, by omega, by omega, by omega⟩, fun p hp => q _ _ (Ext.upd hp) ?_⟩
        obtain ⟨n1, n2⟩ := rep_new (K := X.K) (o := .tup (rgV 0 n)) m hp
        exact .tup n2 (by rw [rngL_len, sizeLine_eq]; omega) (rgV_rep _ _)
      · cases e
    · cases e) h
/-- list(x) as a new list; a sum of two lists; sorted -/
def fList (f : DF) : DLs := fun env => bnd (f env) fun v => ofO (seqOf v)
theorem ef_list {X : Cx} {ew : WX} {e : Expr} {f : DF} {p pos : Pos} (hg : Gl X "list") (hm : X.mg "list" = none) (h : E X ew true e f) (he : starEach [e] X.env = (false, eval e X.env) :: starEach [] X.env := by rfl) (hpl : (backTo pos (starEach [] X.env)).any (·.1) = false := by rfl) :
    EF X ew (.Call (.Name "list" p) [e] [] pos) (fList f) := pe_weak (pe_callTy call_list_of hg hm (by decide +kernel) (pa_cons h pa_nil he) (by decide) (by decide) he hpl) fun σ H Q h => by
  obtain ⟨W, φ, own, env, S, r, h⟩ := h
  refine ⟨W, φ, own, env, S, r, (sat_bnd.mp h).mono (fun v S1 q φ1 H1 u r1 k1 v1 => ?_) fun _ _ q => q⟩
  obtain ⟨ps, e1, q1⟩ := sat_ofO.mp q
  obtain ⟨a, xs, rfl, hl, ha, hs⟩ := seqOf_rep v1 e1
  refine ⟨a, xs, rfl, hs.imp (sqL_ext hz_sub) (sqT_ext hz_sub), fun p hp => ?_⟩
  refine q1 φ1 _ p xs (r1.laidG hp) (k1.trans (Kp.ext (Ext.upd hp))) (kp_none k1 hp fun z => r1.fresh hp (.inr (.inl z))) upd_same (ha.ext fun a o h => ?_) hl
  obtain ⟨n, h⟩ := hz_some.mp h
  have ne : a ≠ p := fun z => by rw [z, hp] at h; cases h
  exact hz_of (by rw [upd_ne ne]; exact h) fun z => n ((mu_and.mp z).resolve_right ne)
def fCat (f g : DF) : DLs := fun env => bnd (f env) fun v => bnd (ofO v.asLst) fun a => bnd (g env) fun w => bnd (ofO w.asLst) fun b => if a.length + b.length ≤ sizeLine then ret (a ++ b) else no
theorem ef_cat {X : Cx} {ew : WX} {a b : Expr} {f g : DF} {pos : Pos} (ha : E X ew true a f) (hb : E X ew true b g) : EF X ew (.BinOp a .Add b pos) (fCat f g) := pe_weak (pe_op op_cat ha hb) fun σ H Q h => by
  obtain ⟨W, φ, own, env, S, r, h⟩ := h
  refine ⟨W, φ, own, env, S, r, (sat_bnd.mp h).mono (fun v S1 q φ1 H1 u r1 k1 v1 => ?_) fun _ _ q => q⟩
  obtain ⟨xs, e1, q1⟩ := sat_ofO.mp (sat_bnd.mp q)
  obtain rfl := asLst_some e1
  refine ⟨W, φ1, own, env, S1, r1, (sat_bnd.mp q1).mono (fun w S2 q2 φ2 H2 u2 r2 k2 v2 => ?_) fun x S' q φ' H' r' k' => q φ' H' r' (k1.trans k')⟩
  obtain ⟨ys, e2, q3⟩ := sat_ofO.mp (sat_bnd.mp q2)
  obtain rfl := asLst_some e2
  have v1' : Rep X.K (hz (Mu W.G φ2 own) H2) u (.list xs) := Rep.ext (k2.hz (fl := true)) v1
  have v2' : Rep X.K (hz (Mu W.G φ2 own) H2) u2 (.list ys) := v2
  cases v1' with
  | lst hs1 l1 rr1 =>
    cases v2' with
    | lst hs2 l2 rr2 =>
      by_cases hl : xs.length + ys.length ≤ sizeLine
      · rw [if_pos hl] at q3
        refine ⟨_, _, _, _, rfl, rfl, (hz_some.mp hs1).2, (hz_some.mp hs2).2, by rw [rr1.length, rr2.length]; exact hl, fun p hp => ?_⟩
        refine q3 φ2 _ p _ (r2.laidG hp) ((k1.trans k2).trans (Kp.ext (Ext.upd hp))) (kp_none (k1.trans k2) hp fun z => r2.fresh hp (.inr (.inl z))) upd_same ((rr1.append rr2).ext fun a o h => ?_) (by rw [List.length_append]; exact hl)
        obtain ⟨n, h⟩ := hz_some.mp h
        have ne : a ≠ p := fun z => by rw [z, hp] at h; cases h
        exact hz_of (by rw [upd_ne ne]; exact h) fun z => n ((mu_and.mp z).resolve_right ne)
      · rw [if_neg hl] at q3; exact q3.elim
/-! a list, owned or not, whose items stay -/
def tL (C : Ct) (f : DLs) : TE := fun σ H Q => ∃ W φ own env S, Rel C.K W φ own env S σ H ∧
  (f env S).sat (fun ps S' => ∀ φ' H' a xs, Rel C.K W φ' own env S' σ H' → Kp φ H φ' H' → a ∉ φ' → H' a = some (.lst xs) → RepAll C.K (hz (Mu W.G φ' own) H') xs ps → ps.length ≤ sizeLine → Q (.ref a) H')
    (fun x S' => ∀ φ' H', Rel C.K W φ' own env S' σ H' → Kp φ H φ' H' → XWish C (Mu W.G φ' own) σ H' x)
def EL (X : Cx) (ew : WX) (e : Expr) (f : DLs) : Prop := PE X e (tL ⟨X.K, X.mg, ew⟩ f)
def nmL (i : Nat) : DLs := fun env => ofO ((lk env i).bind Sv.asL1)
def dtL (f : DF) : DLs := fun env => bnd (f env) fun v => ofO v.asLst
theorem el_e {X : Cx} {ew : WX} {e : Expr} {f : DF} (h : E X ew true e f) : EL X ew e (dtL f) := pe_weak h fun σ H Q h => by
  obtain ⟨W, φ, own, env, S, r, h⟩ := h
  refine ⟨W, φ, own, env, S, r, (sat_bnd.mp h).mono (fun v S1 q φ1 H1 u r1 k1 v1 => ?_) fun _ _ q => q⟩
  obtain ⟨xs, e1, q1⟩ := sat_ofO.mp q
  obtain rfl := asLst_some e1
  have v1' : Rep X.K (hz (Mu W.G φ1 own) H1) u (.list xs) := v1
  cases v1' with
  | lst hs1 l1 rr1 =>
    obtain ⟨n, hs⟩ := hz_some.mp hs1
    exact q1 φ1 H1 _ _ r1 k1 (fun z => n (.inr (.inl z))) hs rr1 l1
theorem el_nm {X : Cx} {ew : WX} {x : Str} {i : Nat} {p : Pos} (hN : X.N[i]? = some x) (hv : Vis X.env.scope x) (hd : (x == ("__debug__" : Str)) = false := by decide) (hcd : (x == ("__classdict__" : Str)) = false := by decide) : EL X ew (.Name x p) (nmL i) :=
  pe_weak (pe_var hN hv hd hcd) fun σ H Q h => by
  obtain ⟨W, φ, own, env, S, r, h⟩ := h
  obtain ⟨ps, e, h⟩ := sat_ofO.mp h
  obtain ⟨sv, es, e⟩ := Option.bind_eq_some_iff.mp e
  have es := lk_some es
  obtain ⟨u, hu, q⟩ := r.slot i sv es
  obtain rfl := asL1_some e
  obtain ⟨a, us, rfl, q2, q3, q4, q5⟩ := q
  exact ⟨_, hu, h φ H a us r Kp.refl (r.apart i a (by rw [q2]; simp)) q3 q4 q5⟩
def fCatL (f g : DLs) : DLs := fun env => bnd (f env) fun a => bnd (g env) fun b => if a.length + b.length ≤ sizeLine then ret (a ++ b) else no
theorem ef_catL {X : Cx} {ew : WX} {a b : Expr} {f g : DLs} {pos : Pos} (ha : EL X ew a f) (hb : EL X ew b g) : EF X ew (.BinOp a .Add b pos) (fCatL f g) := pe_weak (pe_op op_cat ha hb) fun σ H Q h => by
  obtain ⟨W, φ, own, env, S, r, h⟩ := h
  refine ⟨W, φ, own, env, S, r, (sat_bnd.mp h).mono (fun xs S1 q φ1 H1 a1 us1 r1 k1 n1 hs1 rr1 l1 => ?_) fun _ _ q => q⟩
  refine ⟨W, φ1, own, env, S1, r1, (sat_bnd.mp q).mono (fun ys S2 q2 φ2 H2 a2 us2 r2 k2 n2 hs2 rr2 l2 => ?_) fun x S' q φ' H' r' k' => q φ' H' r' (k1.trans k')⟩
  have hs1' := k2.keep a1 _ n1 hs1
  have rr1' := rr1.ext (k2.hz (fl := true) (G := W.G) (own := own))
  by_cases hl : xs.length + ys.length ≤ sizeLine
  · rw [if_pos hl] at q2
    refine ⟨_, _, _, _, rfl, rfl, hs1', hs2, by rw [rr1.length, rr2.length]; exact hl, fun p hp => ?_⟩
    refine q2 φ2 _ p _ (r2.laidG hp) ((k1.trans k2).trans (Kp.ext (Ext.upd hp))) (kp_none (k1.trans k2) hp fun z => r2.fresh hp (.inr (.inl z))) upd_same ((RepAll.append rr1' rr2).ext fun a o h => ?_) (by rw [List.length_append]; exact hl)
    obtain ⟨n, h⟩ := hz_some.mp h
    have ne : a ≠ p := fun z => by rw [z, hp] at h; cases h
    exact hz_of (by rw [upd_ne ne]; exact h) fun z => n ((mu_and.mp z).resolve_right ne)
  · rw [if_neg hl] at q2; exact q2.elim
/-! ### the law's call -/
theorem law_callG {P : Program} {w : World} {K : PySem.W.Frag} {mg mb : Str → Option Value} {CX : CXT} {k : Nat} {fa a : Addr} {fd : FuncData} {x : Str} {sp : Sp} {s₁ : Shared} {vs : List Value} {ns : List Int}
    (KX : K.In s₁.heap) (hns : s₁.heap.Ns mainGlobals mg) (hb : s₁.heap.Ns builtinsNs mb) (hbb : ∀ x : Str, x ≠ "__name__" → mb x = bootBuiltins x) (hlim : s₁.heap.NoLimit) (hg : s₁.gens = #[])
    (ha : s₁.heap.get? a = some { cls := .type "list", data := .seq vs.toArray }) (hi : IntsAre vs ns) (hl : ns.length ≤ sizeLine) (hr : Room k callerA)
    (F : ∀ base : Heap, K.In base → base.Ns mainGlobals mg → FnG P w K mg base CX k fa fd [x] sp) (hbind : ∀ (s : Shared) (u : Value), BindsTo s fd ⟨[u], []⟩ [(x, u)])
    (hsp : ∀ H : Hp, Only H → SqL K H a (ns.map V.int) → sp [.ref a] H (fun v _ => v = .bl true) fun _ _ _ => False)
    (hCX : ∀ H e s', CX [] H s₁ (fun _ _ _ => False) e s' → False) :
    codeAny (model P w) callerA (.call (.ref fa) ⟨[.ref a], []⟩) (fun r s' => r = .ok (.ret (.bool true)) ∧ OldK s₁.heap s'.heap ∧ s'.os = s₁.os ∧ AllBare s'.gens) s₁ := by
  -- over any abstract heap that tracks the script alone, or nothing
  have go : ∀ H : Hp, Only H → SqL K H a (ns.map V.int) → HOk P w H s₁.heap → (∀ b, H b ≠ none → b = a) → (H a ≠ none → K.lookup a = none) →
      codeAny (model P w) callerA (.call (.ref fa) ⟨[.ref a], []⟩) (fun r s' => r = .ok (.ret (.bool true)) ∧ OldK s₁.heap s'.heap ∧ s'.os = s₁.os ∧ AllBare s'.gens) s₁ := by
    intro H hO hS hok hA hK
    have isA : ∀ {b : Addr} {u : HO}, H b = some u → b = a := fun {b u} q => hA b (by rw [q]; simp)
    have free : ∀ {b : Addr} {m : Str → Option Value}, s₁.heap.Ns b m → (hidT s₁.heap H).Ns b m := by
      rintro b m ⟨o, es, ep, e, d, r⟩
      refine ⟨o, es, ep, hidT_get e ?_, d, r⟩
      cases q : H b with
      | none => rfl
      | some u =>
        have := isA q
        subst this
        rw [ha] at e; cases e; cases d
    have kin : K.In (hidT s₁.heap H) := by
      intro b o e
      refine hidT_get (KX b o e) ?_
      cases q : H b with
      | none => rfl
      | some u =>
        have := isA q
        subst this
        rw [hK (by rw [q]; simp)] at e; cases e
    have lim : (hidT s₁.heap H).NoLimit := let ⟨mc, h1, h2⟩ := hlim; ⟨mc, free h1, h2⟩
    have e0 : Env0 P w K mg (hidT s₁.heap H) callerA [] s₁ H := ⟨rfl, ⟨kin, free hns, ⟨mb, free hb, hbb⟩, lim⟩, fun b o e => of_hidT e, Nat.le_of_eq (hidT_size _ _), trivial, (fun b hb => by cases hb), hok, .of_eq hg⟩
    refine codeAny_mono ((F _ kin (free hns)).run callerA [] s₁ H ⟨[.ref a], []⟩ [.ref a] [.ref a] _ _ rfl hr e0 (hbind s₁ (.ref a)) (.cons rfl .nil) (hsp H hO hS)) fun r s' h => ?_
    rcases r with e | fl
    · exact (hCX H e s' h).elim
    · cases fl with
      | ret u =>
        obtain ⟨v, H', os, bare, un, hok', r', q⟩ := h
        obtain rfl : v = .bl true := q
        obtain rfl : u = Value.bool true := r'
        refine ⟨rfl, OldK.of_keep fun b o e => ?_, os, bare⟩
        cases q : H b with
        | none => exact un.keep b o e q (fun z => by cases z) (fun z => by cases z)
        | some u =>
          rcases hO b with z | ⟨ob, xs, z⟩
          · rw [q] at z; cases z
          · have e1 := (hok b _ z).1
            have e2 := (hok' b _ (un.frzs b _ _ z)).1
            rw [e] at e1
            rw [e1]; exact e2
      | _ => exact False.elim h
  have rv := vals_ints hi
  cases hk : K.lookup a with
  | some o =>
    have e := KX a o hk
    rw [ha] at e
    cases e
    exact go (fun _ => none) (fun _ => .inl rfl) (.inr ⟨_, vs.toArray, _, hk, rfl, rfl, rfl, by rw [List.size_toArray, hi.length]; exact hl, by simpa using rv⟩) (fun b u z => by cases z) (fun b z => absurd rfl z) fun z => absurd rfl z
  | none =>
    refine go (upd (fun _ => none) a (.frz { cls := .type "list", data := .seq vs.toArray } (.lst (ns.map V.int)))) (fun b => ?_) (.inl (.inr ⟨_, upd_same⟩)) (fun b u z => ?_) (fun b z => ?_) fun _ => hk
    · by_cases e : b = a
      · exact .inr ⟨_, _, by rw [e]; exact upd_same⟩
      · exact .inl (upd_ne e)
    · by_cases e : b = a
      · rw [e, upd_same] at z
        cases z
        rw [e]
        exact ⟨ha, by rw [List.length_map]; exact hl, vs, _, rv, ha⟩
      · rw [upd_ne e] at z; cases z
    · by_cases e : b = a
      · exact e
      · exact absurd (upd_ne e) z
theorem walk_ofG {l : PySem.W.OpenLaw} {n k : Nat} {q : Program} {loose : List Str} {XP : (Str → Option Value) → Heap → Prop} {YP : World → Heap → Prop} {d : DefRec} {K : Params → PySem.W.Frag} {CX : World → CXT} {sp : World → Sp} {x : Str}
    (hn : l.most = some n) (hn2 : n ≤ sizeLine) (hdf : d.params.defaults = []) (hr : Room k callerA)
    (hY : ∀ (w : World) (h : Heap), YP w h → (K w.params).In h)
    (F : ∀ (w : World) (mg : Str → Option Value) (fa : Addr) (h : Heap), (K w.params).In h → h.Ns mainGlobals mg → mg d.name = some (.ref fa) →
      ∃ fd : FuncData, (∀ (s : Shared) (u : Value), BindsTo s fd ⟨[u], []⟩ [(x, u)]) ∧
        ∀ base : Heap, (K w.params).In base → base.Ns mainGlobals mg → FnG l.prog w (K w.params) mg base (CX w) k fa fd [x] (sp w))
    (hsp : ∀ (w : World) (H : Hp) (a : Addr) (ns : List Int), ns.length ≤ n → (∀ z ∈ ns, Builtin.Int.intBits z ≤ 1048576) → Only H → SqL (K w.params) H a (ns.map V.int) → sp w [.ref a] H (fun v _ => v = .bl true) fun _ _ _ => False)
    (hCX : ∀ (w : World) (H : Hp) (s : Shared) (e : Value) (s' : Shared), CX w [] H s (fun _ _ _ => False) e s' → False) :
    PySem.W.WalkO q loose XP YP l.row.toRowW d [] (fun f vs => PySem.call f vs) := by
  refine Att.attach_callB hn hdf fun w s₀ s₁ mg mb fa o pm cd doc a vs ns G Y ho hd hcd hmg hobj hints hlen hbits hg => ?_
  have KX := hY w _ Y
  obtain ⟨fd, hb, hF⟩ := F w mg fa _ KX G.T.g hmg
  exact law_callG KX G.T.g G.T.b G.T.builtins G.T.nolimit hg hobj hints (Nat.le_trans hlen hn2) hr hF hb (fun H hO hS => hsp w H a ns hlen hbits hO hS) fun H e s' => hCX w H s₁ e s'
/-- the law's promise, from its data -/
theorem law_sp {K : PySem.W.Frag} {mg : Str → Option Value} {F : List Va → M Va} {H : Hp} {a : Addr} {ns : List Int} (hO : Only H) (hS : SqL K H a (ns.map V.int)) (h : F [.s ns] [] = .ok (.d (.bool true)) []) : spD K mg 1 F [.ref a] H (fun v _ => v = .bl true) fun _ _ _ => False := by
  refine ⟨rfl, fun _ => False, [], [.s ns], [], ⟨List.nodup_nil, fun a h => h.elim, fun a h => ?_, rfl, fun n c a h => by simp at h⟩, .cons ⟨a, rfl, sqL_ext (fun b o e => hz_of e fun z => ?_) hS⟩ .nil, ?_⟩
  · rcases h with h | h | ⟨_, h⟩
    · exact h.elim
    · cases h
    · cases h
  · rcases z with h | h | ⟨_, h⟩
    · exact h.elim
    · cases h
    · cases h
  · rw [h]
    intro φ' H' u k e hv
    cases hv
    rfl
/-- any end of the law that leaves cells -/
theorem law_sp' {K : PySem.W.Frag} {mg : Str → Option Value} {F : List Va → M Va} {H : Hp} {a : Addr} {ns : List Int} (hO : Only H) (hS : SqL K H a (ns.map V.int)) (h : ∃ S, F [.s ns] [] = .ok (.d (.bool true)) S) : spD K mg 1 F [.ref a] H (fun v _ => v = .bl true) fun _ _ _ => False := by
  obtain ⟨S, h⟩ := h
  refine ⟨rfl, fun _ => False, [], [.s ns], [], ⟨List.nodup_nil, fun a h => h.elim, fun a h => ?_, rfl, fun n c a h => by simp at h⟩, .cons ⟨a, rfl, sqL_ext (fun b o e => hz_of e fun z => ?_) hS⟩ .nil, ?_⟩
  · rcases h with h | h | ⟨_, h⟩
    · exact h.elim
    · cases h
    · cases h
  · rcases z with h | h | ⟨_, h⟩
    · exact h.elim
    · cases h
    · cases h
  · rw [h]
    intro φ' H' u k e hv
    cases hv
    rfl
end KP


set_option Elab.async false
set_option linter.all false
set_option maxRecDepth 100000
/-! KV: len of dicts too; defs by FunD; the law's end; short forms. -/
namespace KP
open PySem PySem.Spec PyProof.Rows L2
theorem RepK.length {K : PySem.W.Frag} {Z : Hp} : ∀ {ks : List (Key × V)} {kvs : List (PyData × PyData)}, RepK K Z ks kvs → ks.length = kvs.length
  | _, _, .nil => rfl
  | _, _, .cons h t => by simp [RepK.length t]
theorem RepT.length {K : PySem.W.Frag} {Z : Hp} : ∀ {ks : List (List Key × V)} {kvs : List (PyData × PyData)}, RepT K Z ks kvs → ks.length = kvs.length
  | _, _, .nil => rfl
  | _, _, .cons h t => by simp [RepT.length t]
def hLenA : Va → Option Va
  | .d (.dict kvs) => some (.d (.int kvs.length))
  | v => hLen v
def rLenA (K : PySem.W.Frag) : List V → Hp → VK → Prop := fun xs H Q => (∃ x n, xs = [x] ∧ LenV K x H n ∧ Q (V.int ((n : Nat) : Int)) H) ∨ (∃ a kvs, xs = [V.ref a] ∧ H a = some (.dK kvs) ∧ Q (.int kvs.length) H) ∨ rLenT xs H Q
theorem cr_lenA {X : Cx} : CallR X (.builtin "len") (rLenA X.K) := callR_or call_len (callR_or call_lenD call_len_dT)
theorem pure_lenA {K : PySem.W.Frag} : PureN K (rLenA K) (on1 hLenA) := pure1_of fun Nu φ H u v w Q m h e q => by
  unfold hLenA at e
  split at e
  · cases e
    cases h with
    | dcK hs r => exact .inr (.inl ⟨_, _, rfl, (hz_some.mp hs).2, by rw [r.length]; exact q H _ Ext.refl (.int _)⟩)
    | dcT hs r => exact .inr (.inr ⟨_, _, rfl, (hz_some.mp hs).2, by rw [r.length]; exact q H _ Ext.refl (.int _)⟩)
  · refine .inl ?_
    have := (pure_len (K := K)) Nu φ H [u] [v] w Q m (.cons h .nil) e q
    exact this
/-! ### a def by its facts -/
theorem fnD_ofD {P : Program} {w : World} {K : PySem.W.Frag} {mg : Str → Option Value} {base : Heap} {x qual : Str} {params : Arguments} {body : List Stmt} {scope : Scope} {dvs : List V} {kws : List (Str × V)} {f : Addr} {fd : FuncData} {N ps : List Str} {k : Nat} {g : SF}
    (Fn : FunD K x qual params body scope dvs kws f fd) (Sc : FnScope N ps scope)
    (hbody : ∀ (cdv : Value) (A : Around) (outer : List Env) (s : Shared) (H : Hp) (E : XK), A.guards = some [] → Room k (A.deeper (envOfC qual scope s.heap.objs.size f cdv)) →
      ESs (cxOf CX0 P w K mg base N qual scope f cdv A outer s H E).nox (fun _ _ _ _ => False) body g) :
    FnD P w K mg base CX0 (k + 1) f fd ps (fun ds => noX (runF N.length g ds)) := by
  have hpl : ps.length ≤ N.length := by have := congrArg List.length Sc.pre; rw [List.length_take] at this; omega
  obtain ⟨oc, od, dV, kV, doc, pm, an, cdv, ct, osl, rfl, lk, hcd, _, _⟩ := Fn.ex
  refine fn_ofG lk hcd Sc (fun vs H Q E h => h.1) fun A outer s H vs Q E hg hr h => ?_
  obtain ⟨hl, G, φ, ds, S, en, hv, h⟩ := h
  refine ⟨_, PSs.nox (hbody cdv A outer s H E hg hr), ⟨G, H, φ⟩, φ, nob, startE N.length ds, S, rel_start en hv (by omega), ?_⟩
  have h := sat_noX (E' := fun _ _ => False) h
  unfold runF at h
  show (g (startE N.length ds) S).sat _ _
  cases e : g (startE N.length ds) S with
  | ok p S' =>
    obtain ⟨fl, env'⟩ := p
    rw [e] at h
    cases fl with
    | nx => exact fun φ' own' σ' H' r' => h φ' H' .non r'.base r'.leave .non
    | rt v => exact fun φ' own' σ' H' u r' hu => h φ' H' u r'.base r'.leave hu
    | bk => exact h.elim
    | ct => exact h.elim
    | xc x => exact h.elim
  | exc x S' => rw [e] at h; exact h.elim
  | stuck => rw [e] at h; exact h.elim
/-! ### the law's end -/
theorem walk_ofGE {l : PySem.W.OpenLaw} {n k : Nat} {q : Program} {loose : List Str} {XP : (Str → Option Value) → Heap → Prop} {YP : World → Heap → Prop} {d : DefRec} {CX : CXT} {x : Str}
    (hn : l.most = some n) (hn2 : n ≤ sizeLine) (hdf : d.params.defaults = []) (hr : Room k callerA)
    (F : ∀ (w : World) (mg : Str → Option Value) (fa : Addr) (h : Heap), YP w h → h.Ns mainGlobals mg → mg d.name = some (.ref fa) →
      ∃ (K : PySem.W.Frag) (fd : FuncData) (sp : Sp), K.In h ∧ (∀ (s : Shared) (u : Value), BindsTo s fd ⟨[u], []⟩ [(x, u)]) ∧
        (∀ (H : Hp) (a : Addr) (ns : List Int), ns.length ≤ n → (∀ z ∈ ns, Builtin.Int.intBits z ≤ 1048576) → Only H → SqL K H a (ns.map V.int) → sp [.ref a] H (fun v _ => v = .bl true) fun _ _ _ => False) ∧
        ∀ base : Heap, K.In base → base.Ns mainGlobals mg → FnG l.prog w K mg base CX k fa fd [x] sp)
    (hCX : ∀ (H : Hp) (s : Shared) (e : Value) (s' : Shared), CX [] H s (fun _ _ _ => False) e s' → False) :
    PySem.W.WalkO q loose XP YP l.row.toRowW d [] (fun f vs => PySem.call f vs) := by
  refine Att.attach_callB hn hdf fun w s₀ s₁ mg mb fa o pm cd doc a vs ns G Y ho hd hcd hmg hobj hints hlen hbits hg => ?_
  obtain ⟨K, fd, sp, KX, hb, hsp, hF⟩ := F w mg fa _ Y G.T.g hmg
  exact law_callG KX G.T.g G.T.b G.T.builtins G.T.nolimit hg hobj hints (Nat.le_trans hlen hn2) hr hF hb (fun H hO hS => hsp H a ns hlen hbits hO hS) fun H e s' => hCX H s₁ e s'
/-! ### short forms -/
section
variable {X : Cx} {ew : WX}
theorem v (i : Nat) {x : Str} {pos : Pos} (hN : X.N[i]? = some x := by rfl) (hv : Vis X.env.scope x := by first | exact Or.inl rfl | exact Or.inr (Or.inl rfl) | exact Or.inr (Or.inr rfl)) (hd : (x == ("__debug__" : Str)) = false := by decide)
    (hcd : (x == ("__classdict__" : Str)) = false := by decide) : E X ew true (.Name x pos) (vT i) := e_var hN hv hd hcd
theorem vf (i : Nat) {x : Str} {pos : Pos} (hN : X.N[i]? = some x := by rfl) (hv : Vis X.env.scope x := by first | exact Or.inl rfl | exact Or.inr (Or.inl rfl) | exact Or.inr (Or.inr rfl)) (hd : (x == ("__debug__" : Str)) = false := by decide)
    (hcd : (x == ("__classdict__" : Str)) = false := by decide) : E X ew false (.Name x pos) (vF i) := e_varF hN hv hd hcd
theorem gn (i : Nat) {x : Str} {pos : Pos} (hN : X.N.Nodup) (hx : X.N[i]? = some x := by rfl) (hl : Loc X.env.scope x := by first | exact Or.inl rfl | exact Or.inr rfl) (hf : X.fn x = true ∨ X.env.scope.names.lookup x = some .local := by first | exact .inl rfl | exact .inr rfl | assumption) : EG X ew (.Name x pos) [i] (gN i) := eg_name hN hx hl hf
end
end KP


set_option Elab.async false
set_option linter.all false
set_option maxRecDepth 100000
/-! KZip: list(zip(a, b)) of lists and tuples. -/
namespace KP
open PySem PySem.Spec PyProof.Rows L2
theorem zip_no_len : typeLookup (.type "zip") "__len__" = pure none := by rw [typeLookup_type, builtinLookup_eq_fast]; kernel_rfl
theorem zip_no_hint : typeLookup (.type "zip") "__length_hint__" = pure none := by rw [typeLookup_type, builtinLookup_eq_fast]; kernel_rfl
section
variable {prog : Program} {w : World} {A : Around} {E : Value → Shared → Prop} {s : Shared} {z TI TO T i1 i2 : Addr} {fp1 fp2 : List Addr} {n1 n2 i : Nat} {P1 P2 : Nat → Value → Prop} {St1 St2 : Nat → Heap → Prop} {f : Bool} {oT : Obj}
theorem zipH_next_item {Q : Value → Shared → Prop} (S : ZipSep2 z TI TO i1 i2 fp1 fp2) (D1 : Draws prog w A i1 fp1 n1 P1 St1) (D2 : Draws prog w A i2 fp2 n2 P2 St2)
    (hz : IsZipHeld s.heap z TI TO T f) (hT : s.heap.get? T = some oT) (hTI : IsTupOf2 s.heap TI (.ref i1) (.ref i2)) (st1 : St1 i s.heap) (st2 : St2 i s.heap) (hlt1 : i < n1) (hlt2 : i < n2)
    (hQ : ∀ x1 x2 h' tk, P1 i x1 → P2 i x2 → IsZipHeld h' z TI TO T true → St1 (i + 1) h' → St2 (i + 1) h' → IsTupOf2 h' s.heap.objs.size x1 x2 → h'.objs.size = s.heap.objs.size + 1 →
      (∀ c o, c ≠ z → c ≠ i1 → c ≠ i2 → s.heap.get? c = some o → h'.get? c = some o) → Q (.ref s.heap.objs.size) { s with heap := h', toks := tk }) :
    wpAny (model prog w) A (Builtin.«zip.__next__» ⟨[.ref z], []⟩) (fun fin s' => ∃ v, fin = .done (.ret v) ∧ Q v s') E s := by
  obtain ⟨hp, g, d, tk0, os⟩ := s
  show wpAny _ _ (field (.ref z) 2 >>= _) _ _ _
  refine wpAny_bind (wpAny_field hz rfl (x := .bool false) rfl ?_)
  show wpAny _ _ (field (.ref z) 3 >>= _) _ _ _
  refine wpAny_bind (wpAny_field hz rfl (x := .ref TI) rfl ?_)
  refine wpAny_bind (wpAny_seqItems hTI rfl ?_)
  show wpAny _ _ (Builtin.SmallTypes.ownedTupleIsFree (.ref z) >>= _) _ _ _
  refine wpAny_bind (wpAny_tupleHeld_zip hz hT fun h₁ hz₁ hs₁ => ?_)
  replace hs₁ : Heap.SameBut z hp h₁ := hs₁
  simp only [Bool.false_eq_true, if_false]
  refine wpAny_bind ?_
  rw [← Array.forIn_toList]
  simp only [List.forIn_cons, List.forIn_nil]
  refine wpAny_bind (wpAny_bind (wpAny_holding ?_))
  show wpAny _ _ (Builtin.SmallTypes.nextOf (.ref i1) >>= _) _ _ ⟨h₁, g, d, tk0, os⟩
  refine wpAny_bind (D1.item i _ _ _ hlt1 (D1.over st1 hs₁ S.zf1) fun x1 h₂ tk1 hx1 sn1 hs₂ => wpAny_pure ?_)
  replace hs₂ : Heap.SameBut i1 h₁ h₂ := hs₂
  refine wpAny_pure ?_
  refine wpAny_bind (wpAny_bind (wpAny_holding ?_))
  show wpAny _ _ (Builtin.SmallTypes.nextOf (.ref i2) >>= _) _ _ ⟨h₂, g, d, tk1, os⟩
  refine wpAny_bind (D2.item i _ _ _ hlt2 (D2.over (D2.over st2 hs₁ S.zf2) hs₂ S.sep1_2) fun x2 h₃ tk2 hx2 sn2 hs₃ => wpAny_pure ?_)
  replace hs₃ : Heap.SameBut i2 h₂ h₃ := hs₃
  refine wpAny_pure (wpAny_pure ?_)
  show wpAny _ _ (newTuple [x1, x2] >>= _) _ _ ⟨h₃, g, d, tk2, os⟩
  refine wpAny_bind (wpAny_newTuple ?_)
  have hsz : h₃.objs.size = hp.objs.size := by rw [hs₃.1, hs₂.1, hs₁.1]
  have hz₃ : IsZipHeld h₃ z TI TO T true := hs₃.extBut _ _ S.zi2 (hs₂.extBut _ _ S.zi1 hz₁)
  have hk : ∀ c o, c ≠ z → c ≠ i1 → c ≠ i2 → hp.get? c = some o → h₃.get? c = some o := fun c o c1 c2 c3 e => hs₃.extBut _ _ c3 (hs₂.extBut _ _ c2 (hs₁.extBut _ _ c1 e))
  refine wpAny_pure ⟨_, rfl, ?_⟩
  show Q (.ref h₃.objs.size) ⟨h₃.push { cls := .type "tuple", data := .seq #[x1, x2] }, g, d, tk2, os⟩
  have hpp : IsTupOf2 (h₃.push { cls := .type "tuple", data := .seq #[x1, x2] }) h₃.objs.size x1 x2 := Heap.get?_push_size _ rfl
  have hz4 : (h₃.push { cls := .type "tuple", data := .seq #[x1, x2] }).objs.size = h₃.objs.size + 1 := Heap.size_push ..
  rw [hsz] at hpp hz4 ⊢
  exact hQ x1 x2 _ tk2 hx1 hx2 (Heap.get?_push_of_some _ hz₃) (D1.frame _ _ _ (D1.over sn1 hs₃ S.sep2_1) fun b _ o e => Heap.get?_push_of_some _ e) (D2.frame _ _ _ sn2 fun b _ o e => Heap.get?_push_of_some _ e) hpp hz4 fun c o c1 c2 c3 e => Heap.get?_push_of_some _ (hk c o c1 c2 c3 e)
theorem zipH_next_end {Q : Fin → Shared → Prop} (S : ZipSep2 z TI TO i1 i2 fp1 fp2) (D1 : Draws prog w A i1 fp1 n1 P1 St1) (D2 : Draws prog w A i2 fp2 n2 P2 St2)
    (hz : IsZipHeld s.heap z TI TO T f) (hT : s.heap.get? T = some oT) (hTI : IsTupOf2 s.heap TI (.ref i1) (.ref i2)) (st1 : St1 i s.heap) (st2 : St2 i s.heap) (hle1 : i ≤ n1) (hle2 : i ≤ n2) (hend : i = n1 ∨ i = n2)
    (hE : ∀ h' tk e, (∀ c o, c ≠ z → c ≠ i1 → c ≠ i2 → s.heap.get? c = some o → h'.get? c = some o) → (∃ o, h'.get? e = some o ∧ o.cls = .type "StopIteration") → E (.ref e) { s with heap := h', toks := tk }) :
    wpAny (model prog w) A (Builtin.«zip.__next__» ⟨[.ref z], []⟩) Q E s := by
  obtain ⟨hp, g, d, tk0, os⟩ := s
  show wpAny _ _ (field (.ref z) 2 >>= _) _ _ _
  refine wpAny_bind (wpAny_field hz rfl (x := .bool false) rfl ?_)
  show wpAny _ _ (field (.ref z) 3 >>= _) _ _ _
  refine wpAny_bind (wpAny_field hz rfl (x := .ref TI) rfl ?_)
  refine wpAny_bind (wpAny_seqItems hTI rfl ?_)
  show wpAny _ _ (Builtin.SmallTypes.ownedTupleIsFree (.ref z) >>= _) _ _ _
  refine wpAny_bind (wpAny_tupleHeld_zip hz hT fun h₁ hz₁ hs₁ => ?_)
  replace hs₁ : Heap.SameBut z hp h₁ := hs₁
  simp only [Bool.false_eq_true, if_false]
  refine wpAny_bind ?_
  rw [← Array.forIn_toList]
  simp only [List.forIn_cons, List.forIn_nil]
  refine wpAny_bind (wpAny_bind (wpAny_holding ?_))
  show wpAny _ _ (Builtin.SmallTypes.nextOf (.ref i1) >>= _) _ _ ⟨h₁, g, d, tk0, os⟩
  by_cases hlt1 : i < n1
  · refine wpAny_bind (D1.item i _ _ _ hlt1 (D1.over st1 hs₁ S.zf1) fun x1 h₂ tk1 hx1 sn1 hs₂ => wpAny_pure ?_)
    replace hs₂ : Heap.SameBut i1 h₁ h₂ := hs₂
    refine wpAny_pure ?_
    have hi2 : i = n2 := by omega
    refine wpAny_bind (wpAny_bind (wpAny_holding ?_))
    show wpAny _ _ (Builtin.SmallTypes.nextOf (.ref i2) >>= _) _ _ ⟨h₂, g, d, tk1, os⟩
    refine wpAny_bind (D2.done ⟨h₂, g, d, tk1, os⟩ _ _ (by rw [← hi2]; exact D2.over (D2.over st2 hs₁ S.zf2) hs₂ S.sep1_2) fun q e hq he => ?_)
    replace hq : Heap.ExtBut i2 h₂ q := hq
    exact hE q tk1 e (fun c o c1 c2 c3 x => hq _ _ c3 (hs₂.extBut _ _ c2 (hs₁.extBut _ _ c1 x))) he
  · have hi1 : i = n1 := by omega
    refine wpAny_bind (D1.done ⟨h₁, g, d, tk0, os⟩ _ _ (by rw [← hi1]; exact D1.over st1 hs₁ S.zf1) fun q e hq he => ?_)
    replace hq : Heap.ExtBut i1 h₁ q := hq
    exact hE q tk0 e (fun c o c1 c2 c3 x => hq _ _ c2 (hs₁.extBut _ _ c1 x)) he
theorem zipH_pyNext_item {Q : Option Value → Shared → Prop} (S : ZipSep2 z TI TO i1 i2 fp1 fp2) (D1 : Draws prog w A.in1 i1 fp1 n1 P1 St1) (D2 : Draws prog w A.in1 i2 fp2 n2 P2 St2)
    (hz : IsZipHeld s.heap z TI TO T f) (hT : s.heap.get? T = some oT) (hTI : IsTupOf2 s.heap TI (.ref i1) (.ref i2)) (st1 : St1 i s.heap) (st2 : St2 i s.heap) (hlt1 : i < n1) (hlt2 : i < n2)
    (hQ : ∀ x1 x2 h' tk, P1 i x1 → P2 i x2 → IsZipHeld h' z TI TO T true → St1 (i + 1) h' → St2 (i + 1) h' → IsTupOf2 h' s.heap.objs.size x1 x2 → h'.objs.size = s.heap.objs.size + 1 →
      (∀ c o, c ≠ z → c ≠ i1 → c ≠ i2 → s.heap.get? c = some o → h'.get? c = some o) → Q (some (.ref s.heap.objs.size)) { s with heap := h', toks := tk }) :
    wpAny (model prog w) A (pyNext (.ref z)) Q E s := by
  have hTy : s.TypeIs (.ref z) "zip" := ⟨_, hz, rfl⟩
  unfold pyNext
  exact wpAny_bind (wpAny_attempt (wpAny_callSpecial?_slot (name := Str.ofString "__next__") hTy F.slot_zip_next
    (wpAny_call_entry F.slot_zip_next hTy F.entry_zip_next
      (zipH_next_item S D1 D2 hz hT hTI st1 st2 hlt1 hlt2 fun x1 x2 h' tk y1 y2 b1 d1 d2 b5 b6 b7 => wpAny_pure (hQ x1 x2 h' tk y1 y2 b1 d1 d2 b5 b6 b7)) (F.args_zip_next_1 _))))
theorem zipH_pyNext_end {Q : Option Value → Shared → Prop} (S : ZipSep2 z TI TO i1 i2 fp1 fp2) (D1 : Draws prog w A.in1 i1 fp1 n1 P1 St1) (D2 : Draws prog w A.in1 i2 fp2 n2 P2 St2)
    (hz : IsZipHeld s.heap z TI TO T f) (hT : s.heap.get? T = some oT) (hTI : IsTupOf2 s.heap TI (.ref i1) (.ref i2)) (st1 : St1 i s.heap) (st2 : St2 i s.heap) (hle1 : i ≤ n1) (hle2 : i ≤ n2) (hend : i = n1 ∨ i = n2)
    (hQ : ∀ h' tk, (∀ c o, c ≠ z → c ≠ i1 → c ≠ i2 → s.heap.get? c = some o → h'.get? c = some o) → Q none { s with heap := h', toks := tk }) : wpAny (model prog w) A (pyNext (.ref z)) Q E s := by
  have hTy : s.TypeIs (.ref z) "zip" := ⟨_, hz, rfl⟩
  unfold pyNext
  refine wpAny_bind (wpAny_attempt (wpAny_callSpecial?_slot (name := Str.ofString "__next__") hTy F.slot_zip_next
    (wpAny_call_entry F.slot_zip_next hTy F.entry_zip_next (zipH_next_end S D1 D2 hz hT hTI st1 st2 hle1 hle2 hend fun h' tk e hk he => ?_) (F.args_zip_next_1 _))))
  obtain ⟨o, ho, hc⟩ := he
  refine wpAny_bind (wpAny_isInstance (T := "StopIteration") (b := true) ⟨o, ho, hc⟩ isSubtype_stop ?_)
  exact wpAny_pure (hQ _ _ hk)
end
/-! ### the loop that fills the list -/
section
variable {prog : Program} {w : World} {A : Around} {R : Result → Shared → Prop} {z TI TO i1 i2 : Addr} {fp1 fp2 : List Addr} {n1 n2 : Nat} {P1 P2 : Nat → Value → Prop} {St1 St2 : Nat → Heap → Prop}
/-- how a zip stands before its turn i, while a list at L is filled -/
def ZSt (z TI TO i1 i2 L : Addr) (St1 St2 : Nat → Heap → Prop) (i : Nat) (h : Heap) : Prop := IsTupOf2 h TI (.ref i1) (.ref i2) ∧ St1 i h ∧ St2 i h ∧
  ((IsZip h z TI TO .none ∧ ∃ a b, IsTupOf2 h TO a b) ∨ ∃ T f oT, IsZipHeld h z TI TO T f ∧ h.get? T = some oT ∧ T ≠ z ∧ T ≠ i1 ∧ T ≠ i2 ∧ T ≠ L ∧ ∃ oO, h.get? TO = some oO)
/-- what the list has so far -/
def ZAcc (L : Addr) (bad : List Addr) (P1 P2 : Nat → Value → Prop) (acc : Array Value) (i : Nat) (h : Heap) : Prop := acc.size = i ∧ ∀ j, j < i → ∃ T x1 x2, acc[j]? = some (.ref T) ∧ IsTupOf2 h T x1 x2 ∧ P1 j x1 ∧ P2 j x2 ∧ T ∉ bad ∧ L < T ∧ ∀ j', j' < j → acc[j']? ≠ some (.ref T)
theorem ZAcc.keep {L : Addr} {bad : List Addr} {acc : Array Value} {i : Nat} {h h' : Heap} (a : ZAcc L bad P1 P2 acc i h) (k : ∀ c o, c ∉ bad → h.get? c = some o → h'.get? c = some o) : ZAcc L bad P1 P2 acc i h' :=
  ⟨a.1, fun j hj => let ⟨T, x1, x2, e, hT, p1, p2, nb, lt⟩ := a.2 j hj; ⟨T, x1, x2, e, k T _ nb hT, p1, p2, nb, lt⟩⟩
theorem zip_extend_loop (S : ZipSep2 z TI TO i1 i2 fp1 fp2) (D1 : Draws prog w A.in1.in1 i1 fp1 n1 P1 St1) (D2 : Draws prog w A.in1.in1 i2 fp2 n2 P2 St2) (hn : min n1 n2 ≤ sizeLine) (L : Addr) (hLz : L ≠ z) (hLTI : L ≠ TI) (hLTO : L ≠ TO) (hL1 : L ∉ fp1) (hL2 : L ∉ fp2) (res : Value) :
    ∀ (k i : Nat) (s : Shared) (acc : Array Value) (c : Nat), min n1 n2 - i = k → i ≤ min n1 n2 → ZSt z TI TO i1 i2 L St1 St2 i s.heap → s.heap.get? L = some { cls := .type "list", dict := none, data := .seq acc c, slots := #[] } → ZAcc L [z, TO, i1, i2, L] P1 P2 acc i s.heap →
    (∀ h' tk acc' c', (∀ b o, b ∉ [z, TO, i1, i2, L] → s.heap.get? b = some o → h'.get? b = some o) → h'.get? L = some { cls := .type "list", dict := none, data := .seq acc' c', slots := #[] } → ZAcc L [z, TO, i1, i2, L] P1 P2 acc' (min n1 n2) h' → R (.ok (.ret res)) { s with heap := h', toks := tk }) →
    codeAny (model prog w) A (.builtin "list.extend.loop" ⟨[.ref L, .ref z, res], []⟩) R s := by
  have nL1 : L ≠ i1 := fun e => hL1 (by rw [e]; exact S.mem1)
  have nL2 : L ≠ i2 := fun e => hL2 (by rw [e]; exact S.mem2)
  intro k
  induction k with
  | zero =>
    intro i s acc c hk hi hst hL hacc hR
    have hin : i = min n1 n2 := by omega
    refine codeAny_builtin F.entry_extend_loop ?_
    rw [Around.under_plainId F.plain_extend_loop _]
    show wpAny _ A.in1 (pyNext (.ref z) >>= _) _ _ s
    obtain ⟨hTI, h1, h2, hz⟩ := hst
    have fin : ∀ h' tk, (∀ c o, c ∉ [z, TO, i1, i2, L] → s.heap.get? c = some o → h'.get? c = some o) → h'.get? L = some { cls := .type "list", dict := none, data := .seq acc c, slots := #[] } → R (.ok (.ret res)) { s with heap := h', toks := tk } := fun h' tk hk hL' => hR h' tk acc c hk hL' (hin ▸ hacc.keep hk)
    rcases hz with ⟨hz, a, b, hTO⟩ | ⟨T, f, oT, hz, hT, r1, r2, r3, r4, oO, hO⟩
    · refine wpAny_bind (wpAny_pyNext_zipD2_end S D1 D2 hz hTI hTO h1 h2 (by omega) (by omega) (by omega) fun h' tk hk => ?_)
      exact wpAny_pure (fin h' tk (fun c o hc e => hk c o (fun x => hc (by simp [x])) (fun x => hc (by simp [x])) (fun x => hc (by simp [x])) (fun x => hc (by simp [x])) e) (hk L _ hLz hLTO nL1 nL2 hL))
    · refine wpAny_bind (zipH_pyNext_end S D1 D2 hz hT hTI h1 h2 (by omega) (by omega) (by omega) fun h' tk hk => ?_)
      exact wpAny_pure (fin h' tk (fun c o hc e => hk c o (fun x => hc (by simp [x])) (fun x => hc (by simp [x])) (fun x => hc (by simp [x])) e) (hk L _ hLz nL1 nL2 hL))
  | succ k ih =>
    intro i s acc c hk hi hst hL hacc hR
    have hlt : i < min n1 n2 := by omega
    refine codeAny_builtin F.entry_extend_loop ?_
    rw [Around.under_plainId F.plain_extend_loop _]
    show wpAny _ A.in1 (pyNext (.ref z) >>= _) _ _ s
    obtain ⟨hTI, h1, h2, hz⟩ := hst
    have lt : ∀ {c o}, s.heap.get? c = some o → s.heap.objs.size ≠ c := fun e => Nat.ne_of_gt (Heap.lt_size e)
    have n1' : s.heap.objs.size ≠ i1 := let ⟨_, e⟩ := D1.live _ _ h1; lt e
    have n2' : s.heap.objs.size ≠ i2 := let ⟨_, e⟩ := D2.live _ _ h2; lt e
    have hzl : s.heap.objs.size ≠ z := by rcases hz with ⟨hz, _⟩ | ⟨_, _, _, hz, _⟩ <;> exact lt hz
    -- behind the draw: the new tuple goes to the end of the list
    have fin : ∀ x1 x2 h' tk, P1 i x1 → P2 i x2 → s.heap.objs.size ≠ TO → IsTupOf2 h' s.heap.objs.size x1 x2 → (∀ c o, c ∉ [z, TO, i1, i2, L] → s.heap.get? c = some o → h'.get? c = some o) → h'.get? L = some { cls := .type "list", dict := none, data := .seq acc c, slots := #[] } → ZSt z TI TO i1 i2 L St1 St2 (i + 1) h' →
        wpAny (model prog w) A.in1 (updateSeq L (·.push (.ref s.heap.objs.size)) >>= fun _ => again (.builtin "list.extend.loop" ⟨[.ref L, .ref z, res], []⟩)) (fun fin s' => match fin with | .done f => R (.ok f) s' | .again c' => c'.quiet = true ∧ codeAny (model prog w) A c' R s') (fun e s' => R (.error e) s') { s with heap := h', toks := tk } := by
      intro x1 x2 h' tk p1 p2 nTO hp hk hL' hst'
      refine wpAny_bind ?_
      refine wpAny_updateSeq (s := { s with heap := h', toks := tk }) hL' rfl (wpAny_pure ⟨plainId_quiet F.plain_extend_loop _, ih (i + 1) _ (acc.push (.ref s.heap.objs.size)) _ (by omega) (by omega) ?_ (Heap.get?_update_self _ hL' rfl) ?_ fun h'' tk' acc' c' hk' hL'' hacc' => ?_⟩)
        (by rw [hacc.1]; omega) (by show (acc.push _).size ≤ sizeLine + 1; rw [Array.size_push, hacc.1]; omega)
      · obtain ⟨q1, q2, q3, q4⟩ := hst'
        have up : ∀ b o, b ≠ L → h'.get? b = some o → (h'.update L (Obj.mapSeq (·.push (.ref s.heap.objs.size)))).get? b = some o := fun b o hb e => (Heap.get?_update_other _ _ (Ne.symm hb)).trans e
        refine ⟨up _ _ (Ne.symm hLTI) q1, D1.frame _ _ _ q2 fun b hb o e => up b o (fun x => hL1 (x ▸ hb)) e, D2.frame _ _ _ q3 fun b hb o e => up b o (fun x => hL2 (x ▸ hb)) e, ?_⟩
        rcases q4 with ⟨q, a, b, q'⟩ | ⟨T, f, oT, q, hT, r1, r2, r3, r4, oO, hO⟩
        · exact .inl ⟨up _ _ (Ne.symm hLz) q, a, b, up _ _ (Ne.symm hLTO) q'⟩
        · exact .inr ⟨T, f, oT, up _ _ (Ne.symm hLz) q, up _ _ r4 hT, r1, r2, r3, r4, oO, up _ _ (Ne.symm hLTO) hO⟩
      · have nL : s.heap.objs.size ≠ L := lt hL
        have nb : s.heap.objs.size ∉ [z, TO, i1, i2, L] := by
          simp only [List.mem_cons, List.not_mem_nil, or_false, not_or]
          exact ⟨hzl, nTO, n1', n2', nL⟩
        have up : ∀ b o, b ∉ [z, TO, i1, i2, L] → h'.get? b = some o → (h'.update L (Obj.mapSeq (·.push (.ref s.heap.objs.size)))).get? b = some o := fun b o hb e => (Heap.get?_update_other _ _ (fun x : L = b => hb (by simp [x]))).trans e
        have a2 := (hacc.keep hk).keep up
        refine ⟨by rw [Array.size_push, hacc.1], fun j hj => ?_⟩
        by_cases e : j = i
        · subst e
          refine ⟨s.heap.objs.size, x1, x2, by rw [← hacc.1]; simp, up _ _ nb hp, p1, p2, nb, Heap.lt_size hL, fun j' hj' q => ?_⟩
          obtain ⟨T', y1, y2, e1, e2, _⟩ := hacc.2 j' hj'
          rw [Array.getElem?_push, if_neg (by rw [hacc.1]; exact Nat.ne_of_lt hj'), e1] at q
          have := Heap.lt_size e2
          cases q
          exact Nat.lt_irrefl _ this
        · obtain ⟨T, y1, y2, e1, e2, e3, e4, e5, e6, e7⟩ := a2.2 j (by omega)
          refine ⟨T, y1, y2, by rw [Array.getElem?_push, if_neg (by rw [hacc.1]; exact e)]; exact e1, e2, e3, e4, e5, e6, fun j' hj' => ?_⟩
          rw [Array.getElem?_push, if_neg (by rw [hacc.1]; omega)]
          exact e7 j' hj'
      · refine hR h'' tk' acc' c' (fun b o hb e => hk' b o hb ?_) hL'' hacc'
        exact (Heap.get?_update_other _ _ (fun x : L = b => hb (by simp [x]))).trans (hk b o hb e)
    rcases hz with ⟨hz, a, b, hTO⟩ | ⟨T, f, oT, hz, hT, r1, r2, r3, r4, oO, hO⟩
    · refine wpAny_bind (wpAny_pyNext_zipD2_item S D1 D2 hz hTI hTO h1 h2 (by omega) (by omega) fun x1 x2 h' tk p1 p2 a1 a2 q1 q2 a5 a6 hk => ?_)
      refine fin x1 x2 h' tk p1 p2 (lt hTO) a5 (fun c o hc e => hk c o (fun x => hc (by simp [x])) (fun x => hc (by simp [x])) (fun x => hc (by simp [x])) (fun x => hc (by simp [x])) e) (hk L _ hLz hLTO nL1 nL2 hL)
        ⟨hk _ _ S.TIz S.TITO S.TIi1 S.TIi2 hTI, q1, q2, .inr ⟨s.heap.objs.size, false, _, a1, a5, hzl, n1', n2', lt hL, _, a2⟩⟩
    · refine wpAny_bind (zipH_pyNext_item S D1 D2 hz hT hTI h1 h2 (by omega) (by omega) fun x1 x2 h' tk p1 p2 a1 q1 q2 a5 a6 hk => ?_)
      refine fin x1 x2 h' tk p1 p2 (lt hO) a5 (fun c o hc e => hk c o (fun x => hc (by simp [x])) (fun x => hc (by simp [x])) (fun x => hc (by simp [x])) e) (hk L _ hLz nL1 nL2 hL)
        ⟨hk _ _ S.TIz S.TIi1 S.TIi2 hTI, q1, q2, .inr ⟨T, true, oT, a1, hk _ _ r1 r2 r3 hT, r1, r2, r3, r4, oO, hk _ _ S.TOz S.Ti1 S.Ti2 hO⟩⟩
end
section
variable {prog : Program} {w : World} {A : Around} {E : Value → Shared → Prop} {s : Shared} {z TI TO i1 i2 : Addr} {fp1 fp2 : List Addr} {n1 n2 : Nat} {P1 P2 : Nat → Value → Prop} {St1 St2 : Nat → Heap → Prop}
theorem ZSt.up {L : Addr} {i : Nat} {h h' : Heap} (D1 : Draws prog w A i1 fp1 n1 P1 St1) (D2 : Draws prog w A i2 fp2 n2 P2 St2) (hLz : L ≠ z) (hLTI : L ≠ TI) (hLTO : L ≠ TO) (hL1 : L ∉ fp1) (hL2 : L ∉ fp2) (st : ZSt z TI TO i1 i2 L St1 St2 i h) (up : ∀ b o, b ≠ L → h.get? b = some o → h'.get? b = some o) : ZSt z TI TO i1 i2 L St1 St2 i h' := by
  obtain ⟨q1, q2, q3, q4⟩ := st
  refine ⟨up _ _ (Ne.symm hLTI) q1, D1.frame _ _ _ q2 fun b hb o e => up b o (fun x => hL1 (x ▸ hb)) e, D2.frame _ _ _ q3 fun b hb o e => up b o (fun x => hL2 (x ▸ hb)) e, ?_⟩
  rcases q4 with ⟨q, a, b, q'⟩ | ⟨T, f, oT, q, hT, r1, r2, r3, r4, oO, hO⟩
  · exact .inl ⟨up _ _ (Ne.symm hLz) q, a, b, up _ _ (Ne.symm hLTO) q'⟩
  · exact .inr ⟨T, f, oT, up _ _ (Ne.symm hLz) q, up _ _ r4 hT, r1, r2, r3, r4, oO, up _ _ (Ne.symm hLTO) hO⟩
theorem call_list_zip {Q : Value → Shared → Prop} (S : ZipSep2 z TI TO i1 i2 fp1 fp2) (D1 : Draws prog w A.in1.in1.in1 i1 fp1 n1 P1 St1) (D2 : Draws prog w A.in1.in1.in1 i2 fp2 n2 P2 St2) (hn : min n1 n2 ≤ sizeLine)
    (hz : IsZip s.heap z TI TO .none) (hTI : IsTupOf2 s.heap TI (.ref i1) (.ref i2)) {a b : Value} (hTO : IsTupOf2 s.heap TO a b) (st1 : St1 0 s.heap) (st2 : St2 0 s.heap) (hf1 : ∀ b ∈ fp1, b < s.heap.objs.size) (hf2 : ∀ b ∈ fp2, b < s.heap.objs.size)
    (hQ : ∀ h' tk acc c, (∀ b o, b ∉ [z, TO, i1, i2] → s.heap.get? b = some o → h'.get? b = some o) → h'.get? s.heap.objs.size = some { cls := .type "list", dict := none, data := .seq acc c, slots := #[] } → ZAcc s.heap.objs.size [z, TO, i1, i2, s.heap.objs.size] P1 P2 acc (min n1 n2) h' → Q (.ref s.heap.objs.size) { s with heap := h', toks := tk }) :
    wpAny (model prog w) A (call (.type "list") [.ref z]) Q E s := by
  have lt : ∀ {c o}, s.heap.get? c = some o → s.heap.objs.size ≠ c := fun e => Nat.ne_of_gt (Heap.lt_size e)
  generalize hLe : s.heap.objs.size = L at *
  have hLz : L ≠ z := lt hz
  have hLTI : L ≠ TI := lt hTI
  have hLTO : L ≠ TO := lt hTO
  have hL1 : L ∉ fp1 := fun hm => Nat.lt_irrefl _ (hf1 _ hm)
  have hL2 : L ∉ fp2 := fun hm => Nat.lt_irrefl _ (hf2 _ hm)
  refine callType_codes (Q₁ := fun obj s₁ => obj = .ref L ∧ s₁ = { s with heap := s.heap.push { cls := .type "list", data := .seq #[] } }) F.called_list (F.typeCall_list_1 _) F.entry_list_init
    (code_list_new _ ⟨by rw [hLe], rfl⟩) fun obj s₁ h₁ => ?_
  obtain ⟨rfl, rfl⟩ := h₁
  have hS : (s.heap.push { cls := .type "list", data := .seq #[] }).get? L = some { cls := .type "list", data := .seq #[] } := by rw [← hLe]; exact Heap.get?_push_size _ rfl
  have st : ZSt z TI TO i1 i2 L St1 St2 0 s.heap := ⟨hTI, st1, st2, .inl ⟨hz, a, b, hTO⟩⟩
  have st' : ZSt z TI TO i1 i2 L St1 St2 0 (s.heap.push { cls := .type "list", data := .seq #[] }) := st.up D1 D2 hLz hLTI hLTO hL1 hL2 fun b o _ e => Heap.get?_push_of_some _ e
  refine ⟨⟨_, hS, rfl⟩, F.args_list_init_2 _ _, ?_⟩
  have oth0 : ∀ b o, b ∉ [z, TO, i1, i2, L] → s.heap.get? b = some o → (s.heap.push { cls := .type "list", data := .seq #[] }).get? b = some o := fun b o _ e => Heap.get?_push_of_some _ e
  generalize hg0 : s.heap.push { cls := .type "list", data := .seq #[] } = g0 at hS st' oth0
  show wpAny _ A.in1.in1 (do let old ← Builtin.List.listItems (.ref L); Builtin.List.listUpdate (.ref L) (fun _ => #[]); letGo old.toList.reverse; Builtin.List.listExtendWith (.ref L) (.ref z) .none) _ _ { s with heap := g0 }
  refine wpAny_bind ?_
  unfold Builtin.List.listItems
  refine wpAny_bind (wpAny_seqItems (s := { s with heap := g0 }) hS rfl (wpAny_pure ?_))
  show wpAny _ A.in1.in1 (updateSeq L (fun _ => #[]) >>= fun _ => letGo (#[] : Array Value).toList.reverse >>= fun _ => Builtin.List.listExtendWith (.ref L) (.ref z) .none) _ _ { s with heap := g0 }
  refine wpAny_bind (wpAny_updateSeq (s := { s with heap := g0 }) hS rfl ?_)
  have hS₂ := Heap.get?_update_self (Obj.mapSeq (fun _ => (#[] : Array Value))) hS rfl
  have oth1 : ∀ b o, b ≠ L → g0.get? b = some o → (g0.update L (Obj.mapSeq (fun _ => (#[] : Array Value)))).get? b = some o := fun b o hb e => (Heap.get?_update_other _ _ (Ne.symm hb)).trans e
  have st2' := st'.up D1 D2 hLz hLTI hLTO hL1 hL2 oth1
  refine wpAny_bind (wpAny_letGo ?_)
  generalize hg1 : g0.update L (Obj.mapSeq (fun _ => (#[] : Array Value))) = g1 at hS₂ oth1 st2'
  have hTy : ({ s with heap := g1 } : Shared).TypeIs (.ref z) "zip" := by
    obtain ⟨_, _, _, q⟩ := st2'
    rcases q with ⟨q, _⟩ | ⟨_, _, _, q, _⟩
    · exact ⟨_, q, rfl⟩
    · exact ⟨_, q, rfl⟩
  unfold Builtin.List.listExtendWith
  refine wpAny_bind (wpAny_typeOf hTy ?_)
  have h1 : Builtin.List.listSameRef (.ref L) (.ref z) = false := by simp [Builtin.List.listSameRef, hLz]
  have h2 : (Value.type "zip" == Value.type "list") = false := by decide
  have h3 : (Value.type "zip" == Value.type "tuple") = false := by decide
  simp only [h1, h2, h3, Bool.or_false, Bool.false_eq_true, if_false]
  have hzz : ∃ f0, IsZip g1 z TI TO f0 := by
    exact ⟨.none, oth1 _ _ (Ne.symm hLz) (by rw [← hg0]; exact Heap.get?_push_of_some _ hz)⟩
  obtain ⟨f0, hzz⟩ := hzz
  refine wpAny_bind (wpAny_pyIter_zip hzz ?_)
  refine wpAny_bind (wpAny_holding ?_)
  unfold Builtin.List.listLengthHint
  refine wpAny_bind (wpAny_specialOf hTy zip_no_len ?_)
  show wpAny _ A.in1.in1 (specialOf (Value.ref z) (Str.ofString "__length_hint__") >>= _) _ _ _
  refine wpAny_bind (wpAny_specialOf hTy zip_no_hint ?_)
  refine wpAny_pure ?_
  show wpAny _ A.in1.in1 (rule "list.extend.makes-room" >>= fun _ => Builtin.List.listTouch (.ref L) >>= fun _ =>
    again (.builtin "list.extend.loop" ⟨[.ref L, .ref z, .none], []⟩)) _ _ _
  refine wpAny_bind (wpAny_rule ?_)
  refine wpAny_bind ?_
  show wpAny _ A.in1.in1 (updateSeq L (·.push .none) >>= fun _ => updateSeq L (·.pop)) _ _ _
  refine wpAny_bind (wpAny_updateSeq hS₂ rfl ?_)
  have hS₃ := Heap.get?_update_self (Obj.mapSeq (·.push Value.none)) hS₂ rfl
  refine wpAny_updateSeq (hz := by seq_fits) hS₃ rfl ?_
  have hS₄ := Heap.get?_update_self (Obj.mapSeq (·.pop)) hS₃ rfl
  have oth2 : ∀ b o, b ≠ L → g1.get? b = some o → ((g1.update L (Obj.mapSeq (·.push Value.none))).update L (Obj.mapSeq (·.pop))).get? b = some o :=
    fun b o hb e => (Heap.get?_update_other _ _ (Ne.symm hb)).trans ((Heap.get?_update_other _ _ (Ne.symm hb)).trans e)
  refine wpAny_pure ⟨plainId_quiet F.plain_extend_loop _, zip_extend_loop (A := A.in1) S D1 D2 hn L hLz hLTI hLTO hL1 hL2 _ (min n1 n2) 0 _ _ _ rfl (Nat.zero_le _) (st2'.up D1 D2 hLz hLTI hLTO hL1 hL2 oth2) hS₄ ⟨rfl, fun j hj => absurd hj (Nat.not_lt_zero _)⟩ fun h' tk acc' c' hk hL' hacc => ?_⟩
  refine ⟨rfl, hQ h' tk acc' c' (fun b o hb e => ?_) hL' hacc⟩
  have hbL : b ≠ L := fun x => lt e x.symm
  exact hk b o (by simp only [List.mem_cons, List.not_mem_nil, or_false, not_or] at hb ⊢; exact ⟨hb.1, hb.2.1, hb.2.2.1, hb.2.2.2, hbL⟩) (oth2 b o hbL (oth1 b o hbL (by rw [← hg0]; exact Heap.get?_push_of_some _ e)))
end
end KP


set_option Elab.async false
set_option linter.all false
set_option maxRecDepth 100000
/-! KZiq: list(zip(a, b)) over the layer. -/
namespace KP
open PySem PySem.Spec PyProof.Rows L2
section
variable {X : Cx} {pins : List (Addr × Obj)} {σ : L2.St} {h' : Heap}
theorem lay_tups : ∀ (ps : List (Addr × V × V)) (H : Hp) (s : Shared), Inv X pins σ H s → (∀ b o, s.heap.get? b = some o → h'.get? b = some o) → (ps.map (·.1)).Nodup → (∀ p ∈ ps, s.heap.get? p.1 = none ∧ H p.1 = none ∧ ∃ u v, IsTupOf2 h' p.1 u v ∧ RelV p.2.1 u ∧ RelV p.2.2 v) →
    ∃ G H', Inv X pins σ H' { s with heap := G } ∧ (∀ b o, G.get? b = some o → h'.get? b = some o) ∧ (∀ b, b ∉ ps.map (·.1) → G.get? b = s.heap.get? b) ∧ (∀ b, b ∉ ps.map (·.1) → H' b = H b) ∧ ∀ p ∈ ps, H' p.1 = some (.tup [p.2.1, p.2.2])
  | [], H, s, I, k, _, _ => ⟨s.heap, H, I, k, fun _ _ => rfl, fun _ _ => rfl, fun p hp => absurd hp (by simp)⟩
  | (T, x, y) :: ps, H, s, I, k, nd, hp => by
    obtain ⟨n1, n2⟩ := List.nodup_cons.mp nd
    obtain ⟨f1, f2, u, v, hT, r1, r2⟩ := hp (T, x, y) (by simp)
    obtain ⟨G1, g1, g2⟩ := restrict h' fun b => decide (b = T) || (s.heap.get? b).isSome
    have gT : G1.get? T = h'.get? T := g1 T (by simp)
    have gk : ∀ b o, s.heap.get? b = some o → G1.get? b = some o := fun b o e => by rw [g1 b (by simp [e])]; exact k b o e
    have gs : ∀ b, b ≠ T → G1.get? b = s.heap.get? b := fun b hb => by
      cases e : s.heap.get? b with
      | some o => exact gk b o e
      | none => exact g2 b (by simp [hb, e])
    have gh : ∀ b o, G1.get? b = some o → h'.get? b = some o := fun b o e => by
      by_cases hb : b = T
      · subst hb; rw [← gT]; exact e
      · exact k b o ((gs b hb).symm.trans e)
    have I1 : Inv X pins σ (upd H T (.tup [x, y])) { s with heap := G1, toks := s.toks } := I.laidN (t' := s.toks) gk f1 f2 ⟨by show 2 ≤ sizeLine; decide, [u, v], .cons r1 (.cons r2 .nil), ⟨_, gT.trans hT, rfl, _, rfl⟩⟩
    obtain ⟨G, H', J, q1, q2, q3, q4⟩ := lay_tups ps _ _ I1 gh n2 (fun p hq => by
      obtain ⟨e1, e2, e3⟩ := hp p (by simp [hq])
      have hne : p.1 ≠ T := fun z => n1 (by rw [← z]; exact List.mem_map.mpr ⟨p, hq, rfl⟩)
      exact ⟨(gs p.1 hne).trans e1, by rw [upd_ne hne]; exact e2, e3⟩)
    refine ⟨G, H', J, q1, fun b hb => ?_, fun b hb => ?_, fun p hq => ?_⟩
    · simp only [List.map_cons, List.mem_cons, not_or] at hb
      rw [q2 b hb.2]
      exact gs b hb.1
    · simp only [List.map_cons, List.mem_cons, not_or] at hb
      rw [q3 b hb.2, upd_ne hb.1]
    · rcases List.mem_cons.mp hq with rfl | hq
      · rw [q3 T n1]; exact upd_same
      · exact q4 p hq
end
def tLZip (K : PySem.W.Frag) (ta : TA) : TE := fun σ H Q => ta σ H fun vs H1 => ∃ a b xs ys, vs = [.ref a, .ref b] ∧ ((SqL K H1 a xs ∧ SqL K H1 b ys) ∨ (SqT K H1 a xs ∧ SqT K H1 b ys)) ∧ min xs.length ys.length ≤ sizeLine ∧
  ∀ H2 L (ps : List (Addr × V × V)), Ext H1 H2 → H1 L = none → H2 L = some (.lst (ps.map fun p => V.ref p.1)) → ps.map (·.2) = xs.zip ys → (∀ p ∈ ps, H1 p.1 = none ∧ p.1 ≠ L ∧ H2 p.1 = some (.tup [p.2.1, p.2.2])) → Q (.ref L) H2
theorem vals_get {xs : List V} {us : List Value} (h : Vals xs us) {i : Nat} {u : Value} (e : us[i]? = some u) : ∃ x, xs[i]? = some x ∧ RelV x u := by
  induction h generalizing i with
  | nil => simp at e
  | cons r t ih =>
    cases i with
    | zero => simp at e; subst e; exact ⟨_, rfl, r⟩
    | succ i => obtain ⟨x, h1, h2⟩ := ih (by simpa using e); exact ⟨x, by simpa using h1, h2⟩
/-- the list is laid behind its tuples -/
theorem lay_zip {X : Cx} {pins : List (Addr × Obj)} {σ : L2.St} {H : Hp} {s : Shared} {h' : Heap} {tk c : Nat} {L : Addr} {bad : List Addr} {acc : Array Value} {n : Nat} {xs ys : List V} {us vs : List Value} (I : Inv X pins σ H s) (fresh : ∀ b, L ≤ b → s.heap.get? b = none ∧ H b = none) (k : ∀ b o, s.heap.get? b = some o → h'.get? b = some o)
    (hL : h'.get? L = some { cls := .type "list", dict := none, data := .seq acc c, slots := #[] }) (hn : n = min us.length vs.length) (hz : n ≤ sizeLine) (r1 : Vals xs us) (r2 : Vals ys vs) (ha : ZAcc L bad (fun i v => us.toArray[i]? = some v) (fun i v => vs.toArray[i]? = some v) acc n h') :
    ∃ (H2 : Hp) (ps : List (Addr × V × V)), Inv X pins σ H2 { s with heap := h', toks := tk } ∧ Ext H H2 ∧ H L = none ∧ H2 L = some (.lst (ps.map fun p : Addr × V × V => V.ref p.1)) ∧ ps.map (·.2) = xs.zip ys ∧ ∀ p ∈ ps, H p.1 = none ∧ p.1 ≠ L ∧ H2 p.1 = some (.tup [p.2.1, p.2.2]) := by
  have l1 := r1.length
  have l2 := r2.length
  -- the pairs, by place
  have key : ∀ j, j ≤ n → ∃ ps : List (Addr × V × V), ps.length = j ∧ (∀ (i : Nat) (p : Addr × V × V), ps[i]? = some p → acc[i]? = some (.ref p.1) ∧ xs[i]? = some p.2.1 ∧ ys[i]? = some p.2.2 ∧ L < p.1 ∧ ∃ u v, IsTupOf2 h' p.1 u v ∧ RelV p.2.1 u ∧ RelV p.2.2 v) ∧ (ps.map (·.1)).Nodup := by
    intro j
    induction j with
    | zero => intro _; exact ⟨[], rfl, fun i p h => by simp at h, by simp⟩
    | succ j ih =>
      intro hj
      obtain ⟨ps, e1, e2, e3⟩ := ih (by omega)
      obtain ⟨T, u, v, q1, q2, q3, q4, q5, q6, q7⟩ := ha.2 j (by omega)
      obtain ⟨x, hx, rx⟩ := vals_get r1 (i := j) (u := u) (by simpa using q3)
      obtain ⟨y, hy, ry⟩ := vals_get r2 (i := j) (u := v) (by simpa using q4)
      refine ⟨ps ++ [(T, x, y)], by simp [e1], fun i p h => ?_, ?_⟩
      · by_cases hi : i < j
        · rw [List.getElem?_append_left (by omega)] at h
          exact e2 i p h
        · by_cases hij : i = j
          · subst hij
            rw [List.getElem?_append_right (by omega), e1] at h
            simp at h
            subst h
            exact ⟨q1, hx, hy, q6, u, v, q2, rx, ry⟩
          · rw [List.getElem?_eq_none (by simp; omega)] at h
            cases h
      · rw [List.map_append, List.nodup_append]
        refine ⟨e3, by simp, fun a ha b hb e => ?_⟩
        simp at hb
        subst hb
        subst e
        obtain ⟨p, hp, rfl⟩ := List.mem_map.mp ha
        obtain ⟨i, hi, rfl⟩ := List.getElem_of_mem hp
        have := (e2 i _ (List.getElem?_eq_getElem hi)).1
        exact q7 i (by omega) this
  obtain ⟨ps, e1, e2, e3⟩ := key n (Nat.le_refl _)
  have hfr : ∀ p ∈ ps, L < p.1 := fun p hp => by
    obtain ⟨i, hi, rfl⟩ := List.getElem_of_mem hp
    exact (e2 i _ (List.getElem?_eq_getElem hi)).2.2.2.1
  obtain ⟨G, H', J, q1, q2, q3, q4⟩ := lay_tups (h' := h') ps H s I k e3 (fun p hp => by
    have hb := fresh p.1 (Nat.le_of_lt (hfr p hp))
    obtain ⟨i, hi, rfl⟩ := List.getElem_of_mem hp
    exact ⟨hb.1, hb.2, (e2 i _ (List.getElem?_eq_getElem hi)).2.2.2.2⟩)
  have hLn : L ∉ ps.map (·.1) := fun z => by
    obtain ⟨p, hp, e⟩ := List.mem_map.mp z
    have := hfr p hp
    rw [e] at this
    exact Nat.lt_irrefl _ this
  have hHL : H L = none := (fresh L (Nat.le_refl _)).2
  have eacc : acc.toList = ps.map fun p => Value.ref p.1 := by
    apply List.ext_getElem?
    intro j
    rw [List.getElem?_map, Array.getElem?_toList]
    cases hj : ps[j]? with
    | some p => exact (e2 j p hj).1
    | none =>
      have := List.getElem?_eq_none_iff.mp hj
      rw [Array.getElem?_eq_none (by rw [ha.1]; omega)]
      all_goals rfl
  have rv : Vals (ps.map fun p => V.ref p.1) acc.toList := by
    rw [eacc]
    clear e1 e2 e3 hfr q4 hLn eacc q2 q3
    induction ps with
    | nil => exact .nil
    | cons p ps ih => exact .cons rfl ih
  have J2 : Inv X pins σ (upd H' L (.lst (ps.map fun p => V.ref p.1))) { s with heap := h', toks := tk } := J.laidN (t' := tk) q1 ((q2 L hLn).trans (fresh L (Nat.le_refl _)).1) ((q3 L hLn).trans hHL) ⟨by rw [List.length_map, e1]; exact hz, acc.toList, c, rv, by rw [Array.toArray_toList]; exact hL⟩
  refine ⟨_, ps, J2, fun b o e => ?_, hHL, upd_same, ?_, fun p hp => ?_⟩
  · have hb : b ∉ ps.map (·.1) := fun z => by
      obtain ⟨p, hp, rfl⟩ := List.mem_map.mp z
      rw [(fresh p.1 (Nat.le_of_lt (hfr p hp))).2] at e; cases e
    rw [upd_ne (fun z => by rw [z, hHL] at e; cases e), q3 b hb]; exact e
  · apply List.ext_getElem?
    intro j
    rw [List.getElem?_map]
    unfold List.zip
    rw [List.getElem?_zipWith]
    cases hj : ps[j]? with
    | some p => simp [(e2 j p hj).2.1, (e2 j p hj).2.2.1]
    | none =>
      have := List.getElem?_eq_none_iff.mp hj
      have : xs[j]? = none ∨ ys[j]? = none := by
        by_cases q : us.length ≤ j
        · exact .inl (List.getElem?_eq_none (by omega))
        · exact .inr (List.getElem?_eq_none (by omega))
      rcases this with q | q <;> simp [q]
  · have hne : p.1 ≠ L := fun z => hLn (by rw [← z]; exact List.mem_map.mpr ⟨p, hp, rfl⟩)
    exact ⟨(fresh p.1 (Nat.le_of_lt (hfr p hp))).2, hne, by rw [upd_ne hne]; exact q4 p hp⟩
/-- where a zip has begun -/
def MidZ (X : Cx) (pins : List (Addr × Obj)) (σ : L2.St) (Q : VK) (v : Value) (s : Shared) : Prop := ∃ (H1 : Hp) (N a b : Addr) (xs ys : List V) (us vs : List Value), v = .ref (N + 4) ∧ Inv X pins σ H1 s ∧ s.heap.objs.size = N + 5 ∧ IsZip s.heap (N + 4) (N + 2) (N + 3) .none ∧ IsTupOf2 s.heap (N + 2) (.ref N) (.ref (N + 1)) ∧ IsTupOf2 s.heap (N + 3) .none .none ∧ Vals xs us ∧ Vals ys vs ∧ min xs.length ys.length ≤ sizeLine ∧ a < N ∧ b < N ∧ (∀ c ∈ [N + 4, N + 3, N, N + 1], H1 c = none) ∧ (∀ c ∈ [N + 4, N + 2, N + 3, N, N + 1], FpOk X pins H1 c) ∧
  ((s.heap.IsListIter N a 0 ∧ s.heap.IsList a us.toArray ∧ s.heap.IsListIter (N + 1) b 0 ∧ s.heap.IsList b vs.toArray) ∨ (s.heap.IsTupleIter N a 0 ∧ s.heap.IsTuple a us.toArray ∧ s.heap.IsTupleIter (N + 1) b 0 ∧ s.heap.IsTuple b vs.toArray)) ∧
  ∀ H2 L (ps : List (Addr × V × V)), Ext H1 H2 → H1 L = none → H2 L = some (.lst (ps.map fun p => V.ref p.1)) → ps.map (·.2) = xs.zip ys → (∀ p ∈ ps, H1 p.1 = none ∧ p.1 ≠ L ∧ H2 p.1 = some (.tup [p.2.1, p.2.2])) → Q (.ref L) H2
theorem midz {X : Cx} {pins : List (Addr × Obj)} {σ : L2.St} {H : Hp} {s : Shared} {Q : VK} {e e2 : Expr} {ta : TA} {p2 pos2 : Pos} (hg2 : Gl X "zip") (hm2 : X.mg "zip" = none) (ha : PA X [e, e2] ta) (I : Inv X pins σ H s) (h : tLZip X.K ta σ H Q)
    (hs : starEach [e, e2] X.env = (false, eval e X.env) :: starEach [e2] X.env := by rfl) (hpl : (backTo pos2 (starEach [e2] X.env)).any (·.1) = false := by rfl) : wpAny (model X.prog X.w) X.A (eval (.Call (.Name "zip" p2) [e, e2] [] pos2) X.env) (MidZ X pins σ Q) X.xe s := by
  refine Call_ (ld_blt I hg2 hm2 PyProof.Rows.boot_zip (PyProof.Rows.callWith_type1 (thn (ha.run pos2 pins s σ H _ I h) fun us s1 ⟨vs, H1, I1, r1, q1⟩ => ?_) hs hpl))
  obtain ⟨a, b, xs, ys, ex, hq, hz, q⟩ := q1
  subst ex
  cases r1 with
  | cons r rr =>
    cases rr with
    | cons r' rr =>
      cases rr
      cases r
      cases r'
      have fresh5 : ∀ c, c ∈ [s1.heap.objs.size + 4, s1.heap.objs.size + 2, s1.heap.objs.size + 3, s1.heap.objs.size, s1.heap.objs.size + 1] → FpOk X pins H1 c ∧ H1 c = none := fun c hcm => by
        have e' : c = s1.heap.objs.size + 4 ∨ c = s1.heap.objs.size + 2 ∨ c = s1.heap.objs.size + 3 ∨ c = s1.heap.objs.size ∨ c = s1.heap.objs.size + 1 := by simpa using hcm
        have hle : s1.heap.objs.size ≤ c := by
          rcases e' with z | z | z | z | z
          · rw [z]; exact Nat.le_add_right _ _
          · rw [z]; exact Nat.le_add_right _ _
          · rw [z]; exact Nat.le_add_right _ _
          · rw [z]; exact Nat.le_refl _
          · rw [z]; exact Nat.le_add_right _ _
        exact ⟨I1.fpOk hle (I1.hok.fresh hle), I1.hok.fresh hle⟩
      have fr4 : ∀ c ∈ [s1.heap.objs.size + 4, s1.heap.objs.size + 3, s1.heap.objs.size, s1.heap.objs.size + 1], H1 c = none := fun c hc => (fresh5 c (by simp at hc ⊢; rcases hc with z | z | z | z <;> simp [z])).2
      rcases hq with ⟨hqx, hqy⟩ | ⟨hqx, hqy⟩
      · obtain ⟨its, rv, p1, _⟩ := I1.list hqx
        obtain ⟨its2, rv2, p2, _⟩ := I1.list hqy
        refine call_zip_2 p1.isList p2.isList fun h' hz' hTI hTO h1 h2 hsz hk => ?_
        exact ⟨H1, s1.heap.objs.size, a, b, xs, ys, its, its2, rfl, I1.kept (t' := s1.toks) hk, hsz, hz', hTI, hTO, rv, rv2, hz, p1.lt, p2.lt, fr4, fun c hc => (fresh5 c hc).1, .inl ⟨h1, p1.isList.at fun o e => hk _ o e, h2, p2.isList.at fun o e => hk _ o e⟩, q⟩
      · obtain ⟨its, rv, p1, _⟩ := I1.tuple hqx
        obtain ⟨its2, rv2, p2, _⟩ := I1.tuple hqy
        obtain ⟨o1, ho1, _⟩ := id p1
        obtain ⟨o2, ho2, _⟩ := id p2
        refine RZ.call_zipT (show s1.heap.IsTuple a its.toArray from p1) (show s1.heap.IsTuple b its2.toArray from p2) fun h' hz' hTI hTO h1 h2 hsz hk => ?_
        exact ⟨H1, s1.heap.objs.size, a, b, xs, ys, its, its2, rfl, I1.kept (t' := s1.toks) hk, hsz, hz', hTI, hTO, rv, rv2, hz, Heap.lt_size ho1, Heap.lt_size ho2, fr4, fun c hc => (fresh5 c hc).1, .inr ⟨h1, (show s1.heap.IsTuple a its.toArray from p1).at fun o e => hk _ o e, h2, (show s1.heap.IsTuple b its2.toArray from p2).at fun o e => hk _ o e⟩, q⟩
theorem pe_listZip {X : Cx} {e e2 : Expr} {ta : TA} {p p2 pos pos2 : Pos} (hc : X.calm = true) (hg : Gl X "list") (hm : X.mg "list" = none) (hg2 : Gl X "zip") (hm2 : X.mg "zip" = none) (ha : PA X [e, e2] ta)
    (hs : starEach [e, e2] X.env = (false, eval e X.env) :: starEach [e2] X.env := by rfl) (hpl : (backTo pos2 (starEach [e2] X.env)).any (·.1) = false := by rfl)
    (na : starEach [.Call (.Name "zip" p2) [e, e2] [] pos2] X.env = (false, eval (.Call (.Name "zip" p2) [e, e2] [] pos2) X.env) :: starEach [] X.env := by rfl) :
    PE X (.Call (.Name "list" p) [.Call (.Name "zip" p2) [e, e2] [] pos2] [] pos) (tLZip X.K ta) := by
  refine ⟨fun pins s σ H Q I h => ?_⟩
  refine Call_ (ld_blt I hg hm boot_list (PyProof.Rows.callWith_type1 (args_cons (thn (midz hg2 hm2 ha I h hs hpl) fun x s1 hx => args_nil ?_) na) na))
  obtain ⟨H1, N, a, b, xs, ys, us, vs, rfl, I1, hsz, hz, hTI, hTO, rv1, rv2, hl, haN, hbN, fr, fp, hit, q⟩ := hx
  have hh : X.A.handled = none := I1.ok.hd hc
  have l1 := rv1.length
  have l2 := rv2.length
  have nai : ∀ c : Addr, c < N → c ∉ [N + 4, N + 2, N + 3, N, N + 1] := fun c h z => by
    simp only [List.mem_cons, List.not_mem_nil, or_false] at z
    have h : (c : Nat) < N := h
    rcases z with z | z | z | z | z
    · exact absurd (z ▸ h) (Nat.not_lt.mpr (Nat.le_add_right _ _))
    · exact absurd (z ▸ h) (Nat.not_lt.mpr (Nat.le_add_right _ _))
    · exact absurd (z ▸ h) (Nat.not_lt.mpr (Nat.le_add_right _ _))
    · exact absurd (z ▸ h) (Nat.lt_irrefl _)
    · exact absurd (z ▸ h) (Nat.not_lt.mpr (Nat.le_add_right _ _))
  have fin : ∀ (h' : Heap) (tk : Nat) (acc : Array Value) (c : Nat), (∀ b o, b ∉ [N + 4, N + 3, N, N + 1] → s1.heap.get? b = some o → h'.get? b = some o) → h'.get? s1.heap.objs.size = some { cls := .type "list", dict := none, data := .seq acc c, slots := #[] } →
      ZAcc s1.heap.objs.size [N + 4, N + 3, N, N + 1, s1.heap.objs.size] (fun i v => us.toArray[i]? = some v) (fun i v => vs.toArray[i]? = some v) acc (min us.toArray.size vs.toArray.size) h' → EP X pins σ Q (.ref s1.heap.objs.size) { s1 with heap := h', toks := tk } := by
    intro h' tk acc c hk hL ha
    obtain ⟨G0, g1, g2⟩ := restrict h' fun b => decide (b < s1.heap.objs.size)
    have lt : ∀ b, ¬ b < s1.heap.objs.size → G0.get? b = none := fun b hb => g2 b (decide_eq_false hb)
    have sub : ∀ b o, G0.get? b = some o → h'.get? b = some o := fun b o e => by
      by_cases hb : b < s1.heap.objs.size
      · rw [← g1 b (decide_eq_true hb)]; exact e
      · rw [lt b hb] at e; cases e
    have I2 : Inv X pins σ H1 { s1 with heap := G0, toks := s1.toks } := I1.turnedL (t' := s1.toks) (ch := [N + 4, N + 2, N + 3, N, N + 1]) (fun b o hb e => by
      rw [g1 b (decide_eq_true (Heap.lt_size e))]
      exact hk b o (fun z => hb (by simp only [List.mem_cons, List.not_mem_nil, or_false] at z ⊢; rcases z with z | z | z | z <;> simp [z])) e) fp
    have e1 : us.toArray.size = us.length := List.size_toArray
    have e2 : vs.toArray.size = vs.length := List.size_toArray
    rw [e1, e2] at ha
    obtain ⟨H2, ps, J, x1, x2, x3, x4, x5⟩ := lay_zip (tk := tk) I2 (fun b hb => ⟨lt b (Nat.not_lt.mpr hb), I1.hok.fresh hb⟩) sub hL rfl (by rw [← l1, ← l2]; exact hl) rv1 rv2 ha
    exact ⟨.ref s1.heap.objs.size, H2, J, rfl, q H2 _ ps x1 x2 x3 x4 x5⟩
  have hmin : min us.toArray.size vs.toArray.size ≤ sizeLine := by
    have e1 : us.toArray.size = us.length := List.size_toArray
    have e2 : vs.toArray.size = vs.length := List.size_toArray
    rw [e1, e2, ← l1, ← l2]; exact hl
  have S : ZipSep2 (N + 4) (N + 2) (N + 3) N (N + 1) [N, a] [N + 1, b] := zip_sep2 (fp1 := [a]) (fp2 := [b]) (fun c hc => by simp at hc; rw [hc]; exact haN) (fun c hc => by simp at hc; rw [hc]; exact hbN)
  have aN : a ≠ N := fun z => absurd (z ▸ haN) (Nat.lt_irrefl _)
  have bN : b ≠ N + 1 := fun z => absurd (z ▸ hbN) (Nat.not_lt.mpr (Nat.le_add_right _ _))
  have f1 : ∀ c ∈ [N, a], c < s1.heap.objs.size := fun c hc => by
    simp only [List.mem_cons, List.not_mem_nil, or_false] at hc
    rw [hsz]
    rcases hc with z | z
    · rw [z]; exact Nat.lt_add_of_pos_right (by decide)
    · rw [z]; exact Nat.lt_of_lt_of_le haN (Nat.le_add_right _ _)
  have f2 : ∀ c ∈ [N + 1, b], c < s1.heap.objs.size := fun c hc => by
    simp only [List.mem_cons, List.not_mem_nil, or_false] at hc
    rw [hsz]
    rcases hc with z | z
    · rw [z]; exact Nat.add_lt_add_left (by decide) N
    · rw [z]; exact Nat.lt_of_lt_of_le hbN (Nat.le_add_right _ _)
  rcases hit with ⟨h1, hl1, h2, hl2⟩ | ⟨h1, hl1, h2, hl2⟩
  · exact call_list_zip S (Draws.list (show X.A.in1.in1.in1.handled = none from hh) N a aN us.toArray) (Draws.list (show X.A.in1.in1.in1.handled = none from hh) (N + 1) b bN vs.toArray) hmin hz hTI hTO ⟨h1, hl1⟩ ⟨h2, hl2⟩ f1 f2 fun h' tk acc c k1 k2 k3 => fin h' tk acc c k1 k2 k3
  · exact call_list_zip S (Draws.tuple (show X.A.in1.in1.in1.handled = none from hh) N a aN us.toArray) (Draws.tuple (show X.A.in1.in1.in1.handled = none from hh) (N + 1) b bN vs.toArray) hmin hz hTI hTO ⟨h1, hl1⟩ ⟨h2, hl2⟩ f1 f2 fun h' tk acc c k1 k2 k3 => fin h' tk acc c k1 k2 k3
/-! ### over data -/
def zipL : List PyData → List PyData → List PyData
  | x :: xs, y :: ys => .tuple [x, y] :: zipL xs ys
  | _, _ => []
def gLZip : List Va → Option Va
  | [.d (.tuple xs), .d (.tuple ys)] => if min xs.length ys.length ≤ sizeLine then some (.d (.list (zipL xs ys))) else none
  | [.d (.list xs), .d (.list ys)] => if min xs.length ys.length ≤ sizeLine then some (.d (.list (zipL xs ys))) else none
  | _ => none
theorem zipL_len : ∀ xs ys : List PyData, (zipL xs ys).length = min xs.length ys.length
  | [], ys => by simp [zipL]
  | x :: xs, [] => by simp [zipL]
  | x :: xs, y :: ys => by simp only [zipL, List.length_cons, zipL_len xs ys]; omega
theorem zipL_rep {K : PySem.W.Frag} {Z Z' : Hp} (e : Ext Z Z') : ∀ {us vs : List V} {xs ys : List PyData} {ps : List (Addr × V × V)}, RepAll K Z us xs → RepAll K Z vs ys → ps.map (·.2) = us.zip vs → (∀ p ∈ ps, Z' p.1 = some (.tup [p.2.1, p.2.2])) → RepAll K Z' (ps.map fun p => V.ref p.1) (zipL xs ys)
  | [], vs, _, ys, ps, .nil, h2, hp, _ => by
    have : ps = [] := by cases ps with
      | nil => rfl
      | cons _ _ => simp at hp
    subst this
    simp only [zipL, List.map_nil]
    exact .nil
  | u :: us, [], _, _, ps, .cons h t, .nil, hp, _ => by
    have : ps = [] := by cases ps with
      | nil => rfl
      | cons _ _ => simp at hp
    subst this
    simp only [zipL, List.map_nil]
    exact .nil
  | u :: us, v :: vs, _, _, ps, .cons h t, .cons h' t', hp, hT => by
    cases ps with
    | nil => simp at hp
    | cons p ps =>
      simp only [List.map_cons, List.zip_cons_cons, List.cons.injEq] at hp
      obtain ⟨hp1, hp2⟩ := hp
      have := hT p (by simp)
      rw [hp1] at this
      exact .cons (.tup this (by show 2 ≤ sizeLine; decide) (.cons (h.ext e) (.cons (h'.ext e) .nil))) (zipL_rep e t t' hp2 fun q hq => hT q (by simp [hq]))
def rLZip (K : PySem.W.Frag) : List V → Hp → VK → Prop := fun vs H1 Q => ∃ a b xs ys, vs = [.ref a, .ref b] ∧ ((SqL K H1 a xs ∧ SqL K H1 b ys) ∨ (SqT K H1 a xs ∧ SqT K H1 b ys)) ∧ min xs.length ys.length ≤ sizeLine ∧
  ∀ H2 L (ps : List (Addr × V × V)), Ext H1 H2 → H1 L = none → H2 L = some (.lst (ps.map fun p => V.ref p.1)) → ps.map (·.2) = xs.zip ys → (∀ p ∈ ps, H1 p.1 = none ∧ p.1 ≠ L ∧ H2 p.1 = some (.tup [p.2.1, p.2.2])) → Q (.ref L) H2
theorem pure_lzip {K : PySem.W.Frag} : PureN K (rLZip K) gLZip := by
  intro Nu φ H us vs w Q m hv e q
  have key : ∀ {a b : Addr} {us1 us2 : List V} {xs ys : List PyData}, RepAll K (hz Nu H) us1 xs → RepAll K (hz Nu H) us2 ys → min xs.length ys.length ≤ sizeLine → (∀ H' u', Ext H H' → VRep K Nu φ H' u' (.d (.list (zipL xs ys))) → Q u' H') → ∀ H2 L (ps : List (Addr × V × V)), Ext H H2 → H L = none → H2 L = some (.lst (ps.map fun p => V.ref p.1)) → ps.map (·.2) = us1.zip us2 → (∀ p ∈ ps, H p.1 = none ∧ p.1 ≠ L ∧ H2 p.1 = some (.tup [p.2.1, p.2.2])) → Q (.ref L) H2 := by
    intro a b us1 us2 xs ys r1 r2 hl q H2 L ps x1 x2 x3 x4 x5
    have nMu : ∀ c, H c = none → ¬ Nu c := fun c hc z => by
      obtain ⟨o, ho⟩ := Option.isSome_iff_exists.mp (m c z).1
      rw [hc] at ho; cases ho
    refine q H2 (.ref L) x1 (.lst (hz_of x3 (nMu L x2)) (by rw [zipL_len]; exact hl) (zipL_rep (hz_ext x1) r1 r2 x4 fun p hp => hz_of (x5 p hp).2.2 (nMu p.1 (x5 p hp).1)))
  unfold gLZip at e
  split at e
  · rename_i xs ys
    split at e
    · rename_i hl
      cases e
      cases hv with
      | cons h1 t =>
        cases t with
        | cons h2 t =>
          cases t
          cases h1 with
          | tup s1 l1 r1 =>
            cases h2 with
            | tup s2 l2 r2 =>
              exact ⟨_, _, _, _, rfl, .inr ⟨SqT.of (hz_some.mp s1).2, SqT.of (hz_some.mp s2).2⟩, by rw [r1.length, r2.length]; exact hl, key (a := 0) (b := 0) r1 r2 hl q⟩
    · cases e
  · rename_i xs ys
    split at e
    · rename_i hl
      cases e
      cases hv with
      | cons h1 t =>
        cases t with
        | cons h2 t =>
          cases t
          cases h1 with
          | lst s1 l1 r1 =>
            cases h2 with
            | lst s2 l2 r2 =>
              exact ⟨_, _, _, _, rfl, .inl ⟨SqL.of (hz_some.mp s1).2, SqL.of (hz_some.mp s2).2⟩, by rw [r1.length, r2.length]; exact hl, key (a := 0) (b := 0) r1 r2 hl q⟩
    · cases e
  · cases e
theorem e_lzip {X : Cx} {ew : WX} {fl : Bool} {a b : Expr} {fs : DFA} {p p2 pos pos2 : Pos} (hc : X.calm = true) (hg : Gl X "list") (hm : X.mg "list" = none) (hg2 : Gl X "zip") (hm2 : X.mg "zip" = none) (ha : EA X ew fl [a, b] fs)
    (hs : starEach [a, b] X.env = (false, eval a X.env) :: starEach [b] X.env := by rfl) (hpl : (backTo pos2 (starEach [b] X.env)).any (·.1) = false := by rfl)
    (na : starEach [.Call (.Name "zip" p2) [a, b] [] pos2] X.env = (false, eval (.Call (.Name "zip" p2) [a, b] [] pos2) X.env) :: starEach [] X.env := by rfl) : E X ew fl (.Call (.Name "list" p) [.Call (.Name "zip" p2) [a, b] [] pos2] [] pos) (cN gLZip fs) :=
  pe_weak (pe_listZip hc hg hm hg2 hm2 ha hs hpl na) fun _ _ _ h => tI_cN pure_lzip h
/-! for x, y in zip(a, b) -/
def gZip : List Va → Option (List PyData)
  | [.d (.tuple xs), .d (.tuple ys)] => some (zipL xs ys)
  | [.d (.list xs), .d (.list ys)] => some (zipL xs ys)
  | _ => none
theorem zipL_get : ∀ {xs ys : List PyData} {i : Nat} {p : PyData}, (zipL xs ys)[i]? = some p → ∃ x y, xs[i]? = some x ∧ ys[i]? = some y ∧ p = .tuple [x, y]
  | [], _, i, p, h => by simp [zipL] at h
  | _ :: _, [], i, p, h => by simp [zipL] at h
  | x :: xs, y :: ys, 0, p, h => by simp [zipL] at h; exact ⟨x, y, rfl, rfl, h.symm⟩
  | x :: xs, y :: ys, i + 1, p, h => by
    obtain ⟨a, b, h1, h2, h3⟩ := zipL_get (xs := xs) (ys := ys) (i := i) (p := p) (by simpa [zipL] using h)
    exact ⟨a, b, by simpa using h1, by simpa using h2, h3⟩
theorem itR_zip {K : PySem.W.Frag} {Z : Hp} {a b : Addr} {us vs : List V} {xs ys : List PyData} (h1 : SqL K Z a us) (h2 : SqL K Z b vs) (r1 : RepAll K Z us xs) (r2 : RepAll K Z vs ys) : ItR K Z (Itz K a b) (zipL xs ys) where
  stop := fun H e => ⟨us, vs, sqL_ext e h1, sqL_ext e h2, by rw [zipL_len, r1.length, r2.length]; omega⟩
  go := fun i p H e hp => by
    obtain ⟨x, y, hx, hy, rfl⟩ := zipL_get hp
    obtain ⟨u, hu, _⟩ := r1.get hx
    obtain ⟨v, hv, _⟩ := r2.get hy
    exact ⟨us, vs, u, v, sqL_ext e h1, sqL_ext e h2, hu, hv⟩
  yld := fun i p H x H' e hp y => by
    obtain ⟨x1, y1, hx, hy, rfl⟩ := zipL_get hp
    obtain ⟨T, u, v, rfl, hT, rfl, k1, k2⟩ := y
    obtain ⟨u', hu, ru⟩ := r1.get hx
    obtain ⟨v', hv, rv⟩ := r2.get hy
    have e1 := k1 us (sqL_ext e h1)
    have e2 := k2 vs (sqL_ext e h2)
    rw [hu] at e1; cases e1
    rw [hv] at e2; cases e2
    exact ⟨Ext.upd hT, fun Nu m ez => rep_pair m hT (ru.ext ez) (rv.ext ez)⟩
theorem itR_zipT {K : PySem.W.Frag} {Z : Hp} {a b : Addr} {us vs : List V} {xs ys : List PyData} (h1 : SqT K Z a us) (h2 : SqT K Z b vs) (r1 : RepAll K Z us xs) (r2 : RepAll K Z vs ys) : ItR K Z (RZ.ItzT K a b) (zipL xs ys) where
  stop := fun H e => ⟨us, vs, sqT_ext e h1, sqT_ext e h2, by rw [zipL_len, r1.length, r2.length]; omega⟩
  go := fun i p H e hp => by
    obtain ⟨x, y, hx, hy, rfl⟩ := zipL_get hp
    obtain ⟨u, hu, _⟩ := r1.get hx
    obtain ⟨v, hv, _⟩ := r2.get hy
    exact ⟨us, vs, u, v, sqT_ext e h1, sqT_ext e h2, hu, hv⟩
  yld := fun i p H x H' e hp y => by
    obtain ⟨x1, y1, hx, hy, rfl⟩ := zipL_get hp
    obtain ⟨T, u, v, rfl, hT, rfl, k1, k2⟩ := y
    obtain ⟨u', hu, ru⟩ := r1.get hx
    obtain ⟨v', hv, rv⟩ := r2.get hy
    have e1 := k1 us (sqT_ext e h1)
    have e2 := k2 vs (sqT_ext e h2)
    rw [hu] at e1; cases e1
    rw [hv] at e2; cases e2
    exact ⟨Ext.upd hT, fun Nu m ez => rep_pair m hT (ru.ext ez) (rv.ext ez)⟩
theorem ei_zip {X : Cx} {ew : WX} {fl : Bool} {a b : Expr} {fs : DFA} {p pos tpos : Pos} {elts : List Expr} {kk : Nat} (hg : Gl X "zip") (hm : X.mg "zip" = none) (ha : EA X ew fl [a, b] fs)
    (hs : starEach [a, b] X.env = (false, eval a X.env) :: starEach [b] X.env := by rfl) (hpl : (backTo pos (starEach [b] X.env)).any (·.1) = false := by rfl) : EI X ew fl (.Tuple elts kk tpos) (.Call (.Name "zip" p) [a, b] [] pos) (lN gZip fs) :=
  pi_weak (RZ.pi_zipA hg hm ha hs hpl) fun σ H R h => by
    obtain ⟨W, φ, own, env, S, r, h⟩ := h
    refine ⟨W, φ, own, env, S, r, (sat_bnd.mp h).mono (fun v S1 q φ1 H1 u r1 k1 v1 => ?_) fun _ _ q => q⟩
    obtain ⟨ps, e, q⟩ := sat_ofO.mp q
    unfold gZip at e
    split at e
    · cases e
      cases v1 with
      | cons h1 t =>
        cases t with
        | cons h2 t =>
          cases t
          cases h1 with
          | tup s1 l1 r1' =>
            cases h2 with
            | tup s2 l2 r2' => exact ⟨_, _, _, _, rfl, .inr ⟨SqT.of (hz_some.mp s1).2, SqT.of (hz_some.mp s2).2, q φ1 H1 _ r1 k1 (itR_zipT (SqT.of s1) (SqT.of s2) r1' r2')⟩⟩
    · cases e
      cases v1 with
      | cons h1 t =>
        cases t with
        | cons h2 t =>
          cases t
          cases h1 with
          | lst s1 l1 r1' =>
            cases h2 with
            | lst s2 l2 r2' => exact ⟨_, _, _, _, rfl, .inl ⟨SqL.of (hz_some.mp s1).2, SqL.of (hz_some.mp s2).2, q φ1 H1 _ r1 k1 (itR_zip (SqL.of s1) (SqL.of s2) r1' r2')⟩⟩
    · cases e
/-! is True, is False -/
def gIsB : Va → Va → Option Va
  | .d (.bool a), .d (.bool b) => some (vB (decide (a = b)))
  | _, _ => none
def gNotB : Va → Va → Option Va
  | .d (.bool a), .d (.bool b) => some (vB (!decide (a = b)))
  | _, _ => none
theorem pure_isB {K : PySem.W.Frag} : Pure2 K (fun x y H Q => ∃ a b, x = .bl a ∧ y = .bl b ∧ Q (.bl (decide (a = b))) H) gIsB := pureO_of fun Nu φ H u u2 v v2 w Q m h1 h2 e q => by
  unfold gIsB at e
  split at e
  · cases e; cases h1; cases h2
    exact ⟨_, _, rfl, rfl, q H _ Ext.refl (.bl _)⟩
  · cases e
theorem pure_notB {K : PySem.W.Frag} : Pure2 K (fun x y H Q => ∃ a b, x = .bl a ∧ y = .bl b ∧ Q (.bl (!decide (a = b))) H) gNotB := pureO_of fun Nu φ H u u2 v v2 w Q m h1 h2 e q => by
  unfold gNotB at e
  split at e
  · cases e; cases h1; cases h2
    exact ⟨_, _, rfl, rfl, q H _ Ext.refl (.bl _)⟩
  · cases e
/-! return of an owned name -/
theorem tS_retF {C : Ct} {σ : L2.St} {H : Hp} {D : Ends} {f : DF} (h : tS C (sRet f) D σ H) : tI C false f σ H D.rt := by
  obtain ⟨W, φ, own, env, S, r, h⟩ := h
  refine ⟨W, φ, own, env, S, r, (sat_lift.mp h).mono (fun v S1 q φ1 H1 u r1 k1 v1 => q φ1 own σ H1 u r1 ?_) fun x S1 q φ1 H1 r1 k1 => q φ1 own σ H1 r1⟩
  exact v1.less fun a z => z.elim .inl fun z => z.elim .inr fun ⟨_, z⟩ => absurd z (by simp [nob])
theorem es_retF {X : Cx} {ew : WX} {e : Expr} {f : DF} {pos : Pos} (h : E X ew false e f) : ES X ew (.Return (some e) pos) (sRet f) := ps_weak (ps_ret h) fun _ _ _ q => tS_retF q
/-! len(set(list of whole numbers)) -/
def ddp (ns : List Int) : List Int := ns.foldl PyProof.Rows.step_dedup []
theorem firstMet_all (ns : List Int) : PyProof.Rows.firstMet (fun i => ns.getD i 0) ns.length = ddp ns := by
  unfold PyProof.Rows.firstMet ddp
  congr 1
  apply List.ext_getElem (by simp)
  intro i h1 h2
  simp [h2]
def tLenSetA (K : PySem.W.Frag) (ta : TE) : TE := fun σ H Q => ta σ H fun x H1 => ∃ (l : Addr) (ns : List Int), x = .ref l ∧ SqL K H1 l (ns.map V.int) ∧ ns.length ≤ 4000 ∧ Q (.int ((ddp ns).length : Nat)) H1
theorem pe_lenSetA {X : Cx} {a : Expr} {ta : TE} {p p2 q pos : Pos} (hg : Gl X "len") (hm : X.mg "len" = none) (hg2 : Gl X "set") (hm2 : X.mg "set" = none) (ha : PE X a ta) (hc : X.calm = true := by rfl)
    (na : starEach [a] X.env = (false, eval a X.env) :: starEach [] X.env := by rfl) : PE X (.Call (.Name "len" p) [.Call (.Name "set" p2) [a] [] q] [] pos) (tLenSetA X.K ta) := by
  refine ⟨fun pins s σ H Q I h => ?_⟩
  refine Call_ (ld_blt I hg hm boot_len ?_)
  refine PyProof.Rows.callWith_builtin1 (PyProof.Rows.args_cons ?_ rfl) rfl rfl
  refine Call_ (ld_blt I hg2 hm2 boot_set ?_)
  refine PyProof.Rows.callWith_type1 (PyProof.Rows.args_cons (thn (ha.run pins s σ H _ I h) fun v s1 ⟨x, H1, I1, r1, q1⟩ => PyProof.Rows.args_nil ?_) na) na rfl
  obtain ⟨l, ns, rfl, hq, hl, q1⟩ := q1
  cases r1
  obtain ⟨its, r, pl, hz⟩ := I1.list hq
  have hlen : its.toArray.size = ns.length := by rw [List.size_toArray, ← r.length, List.length_map]
  refine call_set_list (I1.ok.hd hc) pl.isList (by simpa using RZ.intsAre_vals r) (by rw [hlen]; unfold scanBound; omega) fun h' tk hS hk => ?_
  refine PyProof.Rows.args_nil ?_
  have hle := PyProof.Rows.firstMet_length_le (fun i => ns.getD i 0) ns.length
  rw [hlen] at hS
  rw [firstMet_all] at hS hle
  obtain ⟨o, es, ep, t, ho, hex, hd, _, _, _, hf, hn⟩ := hS
  have I2 : Inv X pins σ H1 { s1 with heap := h', toks := tk } := I1.kept fun b o e => hk b o (Heap.lt_size e) e
  exact call_len_set ho hex hd hf (by rw [hn] <;> omega) ⟨.int (ddp ns).length, H1, I2.tok _, ⟨_, by rw [hn]⟩, q1⟩
def gLenSet : Va → Option Va
  | .d (.list xs) => (asInts xs).bind fun ns => if ns.length ≤ 4000 then some (.d (.int ((ddp ns).length : Nat))) else none
  | _ => none
theorem asInts_inv : ∀ {xs : List PyData} {ns : List Int}, asInts xs = some ns → xs = ns.map PyData.int
  | [], ns, h => by cases h; rfl
  | x :: xs, ns, h => by
    cases x with
    | int i =>
      simp only [asInts, Option.map_eq_some_iff] at h
      obtain ⟨ms, h1, rfl⟩ := h
      rw [asInts_inv h1]; rfl
    | _ => simp [asInts] at h
theorem e_lenSet {X : Cx} {ew : WX} {fl : Bool} {a : Expr} {f : DF} {p p2 q pos : Pos} (hc : X.calm = true) (hg : Gl X "len") (hm : X.mg "len" = none) (hg2 : Gl X "set") (hm2 : X.mg "set" = none) (ha : E X ew fl a f)
    (na : starEach [a] X.env = (false, eval a X.env) :: starEach [] X.env := by rfl) : E X ew fl (.Call (.Name "len" p) [.Call (.Name "set" p2) [a] [] q] [] pos) (c1 gLenSet f) :=
  pe_weak (pe_lenSetA hg hm hg2 hm2 ha hc na) fun σ H Q h => tI_c1 (C := ⟨X.K, X.mg, ew⟩) (r := fun x H1 Q => ∃ (l : Addr) (ns : List Int), x = .ref l ∧ SqL X.K H1 l (ns.map V.int) ∧ ns.length ≤ 4000 ∧ Q (.int ((ddp ns).length : Nat)) H1) (pureU_of fun Nu φ H u v w Q m h e q => by
    unfold gLenSet at e
    split at e
    · rename_i xs
      obtain ⟨ns, e1, e2⟩ := Option.bind_eq_some_iff.mp e
      split at e2
      · rename_i hl
        cases e2
        have := asInts_inv e1
        subst this
        cases h with
        | lst s1 l1 r1 =>
          have := r1.ints
          subst this
          exact ⟨_, ns, rfl, SqL.of (hz_some.mp s1).2, hl, q H _ Ext.refl (.int _)⟩
      · cases e2
    · cases e) h
end KP


set_option Elab.async false
set_option linter.all false
set_option maxRecDepth 100000
/-! KDp: d[k] = v at an owned dict; repr of a bool, of None. -/
namespace KP
open PySem PySem.Spec PyProof.Rows L2
def DPutA (H : Hp) (a : Addr) (y v : V) (H' : Hp) : Prop := DPut H a y v H' ∨ ∃ k b, H a = some (.dK []) ∧ y = .ref b ∧ H b = some (.tup (k.map kV)) ∧ H' = upd H a (.dT [(k, v)])
def sDPutA (td ty tv : TE) : TS := fun D σ H => tv σ H fun v H1 => td σ H1 fun x H2 => ty σ H2 fun y H3 => ∃ a H4, x = .ref a ∧ DPutA H3 a y v H4 ∧ D.nx σ H4
theorem ps_dputA {X : Cx} {o i value : Expr} {td ty tv : TE} {pos pos' : Pos} (hu : X.A.units + 1 < cLine) (ho : PE X o td) (hi : PE X i ty) (hv : PE X value tv) (hs : swapsWith value (some (.Subscript o i pos')) pos.line X.env = pure false) :
    PS X (.Assign [.Subscript o i pos'] value pos) (sDPutA td ty tv) := by
  refine ⟨fun pins s σ H D I h => ?_⟩
  refine wpAny_Assign_Subscript (thn (hv.run pins s σ H _ I h) fun r s1 ⟨v, H1, I1, rv, q1⟩ => thn (ho.run pins s1 σ H1 _ I1 q1) fun u s2 ⟨x, H2, I2, rx, q2⟩ => thn (hi.run pins s2 σ H2 _ I2 q2) fun iv s3 ⟨y, H3, I3, ry, a, H4, ex, g, q3⟩ => ?_) hs
  subst ex
  obtain rfl : u = Value.ref a := rx
  rcases g with g | ⟨k, b, ea, ey, eb, eH⟩
  · exact d_setItem hu I3 g ry rv fun s4 I4 => ⟨σ, H4, I4, q3⟩
  · subst ey
    have nab : b ≠ a := ne_of eb ea (fun z => nomatch z)
    have g : DPut (upd H3 a (.dT [])) a (.ref b) v (upd (upd H3 a (.dT [])) a (.dT (putK [] k v))) := DPut.t upd_same (by rw [upd_ne nab]; exact eb) (by show 0 < sizeLine; decide)
    rw [upd_upd] at g
    have e2 : upd H3 a (.dT (putK [] k v)) = H4 := by rw [eH]; rfl
    rw [e2] at g
    exact d_setItem hu (inv_dT I3 ea) g ry rv fun s4 I4 => ⟨σ, H4, I4, q3⟩
def Dk.put (d : Dk) (k x : PyData) : Option Dk := match d with
  | .k kvs => match asKey k with
    | some q => if kvs.length < sizeLine then some (.k (putD kvs q x)) else none
    | none => match kvs, asKeyT k with
      | [], some q => some (.t [(q, x)])
      | _, _ => none
  | .t kvs => match asKeyT k with
    | some q => if kvs.length < sizeLine then some (.t (putD kvs q x)) else none
    | none => none
theorem put_slot {K : PySem.W.Frag} {W : Wd} {φ : List Addr} {own : Nat → List Addr} {env : En} {S : Sto} {σ : L2.St} {H : Hp} (r : Rel K W φ own env S σ H) {i : Nat} {d d' : Dk} {k x : PyData} {a : Addr} {y z : V} (es : env[i]? = some (some (.dd d))) (hu : σ[i]? = some (some (.ref a))) (hF : own i = [a]) (hd : DictR K (hz (Mu W.G φ own) H) H a d)
    (hk : Rep K (hz (Mu W.G φ own) H) y k) (hx : Rep K (hz (Mu W.G φ own) H) z x) (e : d.put k x = some d') : ∃ H', DPutA H a y z H' ∧ Rel K W φ own (env.set i (some (.dd d'))) S σ H' := by
  have hao : a ∈ own i := by rw [hF]; simp
  cases d with
  | k kvs =>
    obtain ⟨ks, hH, hr⟩ := hd
    unfold Dk.put at e
    dsimp only at e
    cases ek : asKey k with
    | some q =>
      rw [ek] at e
      dsimp only at e
      by_cases hl : kvs.length < sizeLine
      · rw [if_pos hl] at e
        cases e
        exact ⟨_, .inl (.inl ⟨ks, q, hH, asKey_rep ek hk, by rw [hr.length]; exact hl, rfl⟩), r.updOwn es hu hao (plain_dK _) fun ex => ⟨a, rfl, hF, _, upd_same, (hr.ext ex).put (hx.ext ex)⟩⟩
      · rw [if_neg hl] at e; cases e
    | none =>
      rw [ek] at e
      dsimp only at e
      cases kvs with
      | cons _ _ => cases e
      | nil =>
        cases et : asKeyT k with
        | none => rw [et] at e; cases e
        | some q =>
          rw [et] at e
          cases e
          cases hr
          obtain ⟨b, hb, hZb⟩ := asKeyT_rep et hk
          exact ⟨_, .inr ⟨q, b, hH, hb, (hz_some.mp hZb).2, rfl⟩, r.updOwn es hu hao (plain_dT _) fun ex => ⟨a, rfl, hF, _, upd_same, .cons (hx.ext ex) .nil⟩⟩
  | t kvs =>
    obtain ⟨ks, hH, hr⟩ := hd
    unfold Dk.put at e
    dsimp only at e
    cases ek : asKeyT k with
    | none => rw [ek] at e; cases e
    | some q =>
      rw [ek] at e
      dsimp only at e
      obtain ⟨b, hb, hZb⟩ := asKeyT_rep ek hk
      by_cases hl : kvs.length < sizeLine
      · rw [if_pos hl] at e
        cases e
        exact ⟨_, .inl (.inr ⟨ks, q, b, hH, hb, (hz_some.mp hZb).2, by rw [hr.length]; exact hl, rfl⟩), r.updOwn es hu hao (plain_dT _) fun ex => ⟨a, rfl, hF, _, upd_same, (hr.ext ex).put (hx.ext ex)⟩⟩
      · rw [if_neg hl] at e; cases e
def sDPutO (i : Nat) (fk f : DF) : SF := fun env => lift env (f env) fun v => bnd (ofO v.asD) fun x => bnd (ofO ((lk env i).bind Sv.asDD)) fun d => lift env (fk env) fun kv => bnd (ofO kv.asD) fun k => bnd (ofO (d.put k x)) fun d' => ret (.nx, env.set i (some (.dd d')))
theorem es_dput {X : Cx} {ew : WX} {x : Str} {i : Nat} {ek e : Expr} {fk f : DF} {p1 p3 pos : Pos} (hu : X.A.units + 1 < cLine) (hN : X.N[i]? = some x) (hv : Vis X.env.scope x) (hk : E X ew true ek fk) (h : E X ew true e f)
    (hd : (x == ("__debug__" : Str)) = false := by decide) (hcd : (x == ("__classdict__" : Str)) = false := by decide)
    (hs : swapsWith e (some (.Subscript (.Name x p1) ek p3)) pos.line X.env = pure false := by rfl) :
    ES X ew (.Assign [.Subscript (.Name x p1) ek p3] e pos) (sDPutO i fk f) :=
  ps_weak (ps_dputA hu (pe_var hN hv hd hcd) hk h hs) fun D σ H h => by
    obtain ⟨W, φ, own, env, S, r, h⟩ := h
    refine ⟨W, φ, own, env, S, r, (sat_lift.mp h).mono (fun v S1 q φ1 H1 z r1 k1 v1 => ?_) fun x S1 q φ1 H1 r1 k1 => q φ1 own σ H1 r1⟩
    obtain ⟨p, e1, q1⟩ := sat_ofO.mp (sat_bnd.mp q)
    obtain rfl := asD_some e1
    obtain ⟨d, e2, q2⟩ := sat_ofO.mp (sat_bnd.mp q1)
    obtain ⟨sv, es, e2⟩ := Option.bind_eq_some_iff.mp e2
    have es := lk_some es
    obtain rfl := asDD_some e2
    obtain ⟨u, hu, a, rfl, hF, hd⟩ := r1.slot i _ es
    have hao : a ∈ own i := by rw [hF]; simp
    refine ⟨.ref a, hu, W, φ1, own, env, S1, r1, (sat_lift.mp q2).mono (fun kv S2 q φ2 H2 y r2 k2 v2 => ?_) fun x S2 q φ2 H2 r2 k2 => q φ2 own σ H2 r2⟩
    obtain ⟨k, e3, q3⟩ := sat_ofO.mp (sat_bnd.mp q)
    obtain rfl := asD_some e3
    obtain ⟨d', e4, q4⟩ := sat_ofO.mp (sat_bnd.mp q3)
    obtain ⟨H', g, r'⟩ := put_slot r2 es hu hF (hd.keep k2 (r1.apart i a hao)) v2 (Rep.ext (Kp.hz (fl := true) k2) v1) e4
    exact ⟨a, H', rfl, g, q4 φ2 own σ H' r'⟩
/-! repr of anything -/
def rReprA (K : PySem.W.Frag) : List V → Hp → VK → Prop := fun us H Q => ∃ x d, us = [x] ∧ Dp K H x d ∧ d.showable = true ∧ d.hasDict = false ∧ d.depth ≤ 60 ∧ d.shown.length ≤ sizeLine ∧ Q (.str d.shown) H
theorem cr_reprA {X : Cx} (hg : X.A.guards = some []) (hu : X.A.units + 64 < cLine) : CallR X (.builtin "repr") (rReprA X.K) := by
  intro pins s σ H xs us Q I r h
  obtain ⟨x, d, rfl, hd, h1, h2, h3, h4, q⟩ := h
  cases r with
  | cons r rr =>
    cases rr
    obtain ⟨as, rd⟩ := Dp.reads I d _ _ hd r
    cases x with
    | non =>
      cases hd
      cases r
      exact PySem.P.repr_of_none ⟨.str _, H, I.tok _, ⟨_, rfl⟩, q⟩
    | bl b =>
      cases hd
      cases r
      refine PySem.P.repr_of_bool ⟨.str _, H, I.tok _, ⟨_, rfl⟩, ?_⟩
      cases b <;> exact q
    | int n =>
      cases hd
      obtain ⟨t, rfl⟩ := r
      exact PySem.P.repr_of_int (by simpa [PyData.showable] using h1) ⟨.str _, H, I.tok _, ⟨_, rfl⟩, q⟩
    | str z =>
      cases hd
      obtain ⟨t, rfl⟩ := r
      exact PySem.P.repr_of_str ⟨.str _, H, I.tok _, ⟨_, rfl⟩, q⟩ h4
    | ref a =>
      cases r
      exact repr_of_reads' rd h1 (fun z => by rw [h2] at z; cases z) hg (by omega) (fun _ _ e => e) (fun h' u tk hk => ⟨.str d.shown, H, I.kept hk, ⟨_, rfl⟩, q⟩) h4
    | _ => cases hd
def hReprA : Va → Option Va
  | .d p => if reprOk p = true then some (.d (.str p.shown)) else none
  | _ => none
theorem pure_reprA {K : PySem.W.Frag} : PureN K (rReprA K) (on1 hReprA) := pure1_of fun Nu φ H u v w Q m h e q => by
  unfold hReprA at e
  split at e
  · split at e
    · rename_i p ok
      cases e
      simp only [reprOk, Bool.and_eq_true, decide_eq_true_eq, Bool.not_eq_true'] at ok
      obtain ⟨⟨⟨⟨n1, n2⟩, n3⟩, n4⟩, n5⟩ := ok
      exact ⟨u, p, rfl, (Rep.ext hz_sub h).dp n1, n2, n3, n4, n5, q H _ Ext.refl (.str _)⟩
    · cases e
  · cases e
end KP


set_option Elab.async false
set_option linter.all false
set_option maxRecDepth 100000
/-! KLc: comprehensions with two fors. -/
namespace KP
open PySem PySem.Spec PyProof.Rows L2
def del (H : Hp) (D : Addr) : Hp := fun a => if a = D then none else H a
theorem del_same {H : Hp} {D : Addr} : del H D D = none := if_pos rfl
theorem del_ne {H : Hp} {D a : Addr} (h : a ≠ D) : del H D a = H a := if_neg h
theorem upd_del {H : Hp} {D : Addr} {o : HO} (h : H D = some o) : upd (del H D) D o = H := by
  funext a
  by_cases e : a = D
  · rw [e, upd_same, h]
  · rw [upd_ne e, del_ne e]
theorem Kp.del {φ φ' : List Addr} {H H' : Hp} {D : Addr} (k : Kp φ H φ' H') : Kp φ (KP.del H D) φ' H' :=
  ⟨k.pre, fun a o n h => by
    by_cases e : a = D
    · rw [e, del_same] at h; cases h
    · rw [del_ne e] at h; exact k.keep a o n h, fun a z n => by
    by_cases e : a = D
    · rw [e, del_same]
    · rw [del_ne e]; exact k.new a z n⟩
theorem Kp.delR {φ φ' : List Addr} {H H' : Hp} {D : Addr} (hD : H D = none) (k : Kp φ H φ' H') : Kp φ H φ' (KP.del H' D) :=
  ⟨k.pre, fun a o n h => by
    have e : a ≠ D := fun z => by rw [z, hD] at h; cases h
    rw [del_ne e]; exact k.keep a o n h, k.new⟩
theorem hz_del {φ φ' : List Addr} {H H' : Hp} {D : Addr} {G : Addr → Prop} (hG : G D) (k : Kp φ (KP.del H D) φ' H') : Ext (hz (Mu G φ nob) H) (hz (Mu G φ' nob) H') := fun a o q => by
  obtain ⟨n, q⟩ := hz_some.mp q
  have na : a ∉ φ := fun z => n (.inr (.inl z))
  have ne : a ≠ D := fun z => n (.inl (by rw [z]; exact hG))
  refine hz_some.mpr ⟨fun z => ?_, k.keep a o na (by rw [del_ne ne]; exact q)⟩
  rcases z with z | z | ⟨j, z⟩
  · exact n (.inl z)
  · have := k.new a z na
    rw [del_ne ne, q] at this; cases this
  · exact absurd z (by simp [nob])
/-- back to the block's own slots -/
theorem Rel.back {K : PySem.W.Frag} {W : Wd} {φ φ' : List Addr} {env env' : En} {S S' : Sto} {σ σ' : L2.St} {H H' : Hp} {D : Addr} (hG : W.G D) (r : Rel K W φ nob env S σ H) (r' : Rel K W φ' nob env' S' σ' H') (k : Kp φ (KP.del H D) φ' H') : Rel K W φ' nob env S' σ H' where
  disj := r.disj
  apart := fun j a ha => absurd ha (by simp [nob])
  ndφ := r'.ndφ
  gd := r'.gd
  mu := r'.mu
  len := r.len
  slot := fun j sv hj => by
    obtain ⟨u, h1, h2⟩ := r.slot j sv hj
    exact ⟨u, h1, h2.ext (hz_del hG k) k.pre fun a ha => absurd ha (by simp [nob])⟩
  cell := r'.cell
  base := r'.base
  newF := r'.newF
theorem sat_some {α : Type} {r : R α} {P : α → Sto → Prop} (h : r.sat P (fun _ _ => False)) : ∃ a S, P a S := by
  cases r with
  | ok a S => exact ⟨a, S, h⟩
  | exc x S => exact h.elim
  | stuck => exact h.elim
theorem own_nob {K : PySem.W.Frag} {W : Wd} {φ : List Addr} {own : Nat → List Addr} {env : En} {S : Sto} {σ : L2.St} {H : Hp} (r : Rel K W φ own env S σ H) (sm : ∀ a, Mu W.G φ own a → Mu W.G φ nob a) : own = nob :=
  funext fun j => List.eq_nil_iff_forall_not_mem.mpr fun a z => by
    rcases sm a (.inr (.inr ⟨j, z⟩)) with y | y | ⟨i, y⟩
    · exact (r.gd a y).2 j z
    · exact r.apart j a z y
    · exact absurd y (by simp [nob])
/-- the inner loop -/
theorem comp_in {C C' : Ct} (hK : C'.K = C.K) {W : Wd} {φ1 : List Addr} {env : En} {S1 : Sto} {σ : L2.St} {H1 : Hp} {D : Addr} {vs is : List Nat} {J : It} {ps : List PyData} {t : TF} {c : DB} {e : DF} {Z : Hp} {Qf : List PyData → Sto → Prop} {Q : Hp → Prop} {acc0 : List V} {ds0 : List PyData}
    (hvs : ∀ i ∈ is, i ∈ vs) (hW : W.G D) (hD0 : W.H0 D = none) (hHD : H1 D = none) (hQl : ∀ r S, Qf r S → r.length ≤ sizeLine)
    (r1 : Rel C.K W φ1 nob env S1 (wipe σ vs) (upd H1 D (.lst acc0))) (p0 : RepAll C.K (hz (Mu W.G φ1 nob) (upd H1 D (.lst acc0))) acc0 ds0)
    (it : ItR C.K Z J ps) (hZ : ∀ φ2 S2 H2, Rel C.K W φ2 nob env S2 (wipe σ vs) H2 → Kp φ1 H1 φ2 H2 → Ext Z (hz (Mu W.G φ2 nob) H2))
    (h : (compL t c e env ps S1).sat (fun r S => Qf (ds0 ++ r) S) (fun _ _ => False))
    (fin : ∀ φ2 S2 H2 acc ds, Rel C.K W φ2 nob env S2 (wipe σ vs) H2 → Kp φ1 H1 φ2 H2 → H2 D = some (.lst acc) → RepAll C.K (hz (Mu W.G φ2 nob) H2) acc ds → Qf ds S2 → Q H2) :
    ∃ I : Nat → Nat → Hp → Prop, (∃ m, I 0 m (upd H1 D (.lst acc0))) ∧ ∀ i m H, I i m H →
      (J.stop i H ∧ Q H) ∨ (J.go i H ∧ ∃ Nx : Hp → Prop, (∀ H', Nx H' → ∃ m', m' < m ∧ I (i + 1) m' H') ∧ ∀ x H', J.yld i H x H' → tG C' is t x (wipe σ vs) H' fun σ2 H2 => wipe σ2 vs = wipe σ vs ∧ tIB C' c σ2 H2 fun b H3 =>
        if b = true then tI C' true e σ2 H3 fun y H4 => ∃ acc, H4 D = some (.lst acc) ∧ acc.length < sizeLine ∧ Nx (upd H4 D (.lst (acc ++ [y]))) else Nx H3) := by
  let Iv : Nat → Hp → Prop := fun i H => ∃ φ2 S2 acc ds, Rel C.K W φ2 nob env S2 (wipe σ vs) H ∧ Kp φ1 H1 φ2 H ∧ H D = some (.lst acc) ∧ RepAll C.K (hz (Mu W.G φ2 nob) H) acc ds ∧
    (compL t c e env (ps.drop i) S2).sat (fun r S' => Qf (ds ++ r) S') (fun _ _ => False)
  refine ⟨fun i m H => i + m = ps.length ∧ Iv i H, ⟨ps.length, by omega, φ1, S1, acc0, ds0, r1, ⟨List.prefix_refl _, fun a o _ h => ?_, fun a h n => absurd h n⟩, upd_same, p0, h⟩, ?_⟩
  · rw [upd_ne fun z => by rw [z, hHD] at h; cases h]; exact h
  rintro i m H ⟨em, φ2, S2, acc, ds, r2, k2, hacc, hrep, q2⟩
  have ez := hZ φ2 S2 H r2 k2
  have ezH : Ext Z H := Ext.trans ez hz_sub
  by_cases hi : i < ps.length
  · have hd : ps.drop i = ps[i] :: ps.drop (i + 1) := List.drop_eq_getElem_cons hi
    rw [hd] at q2
    have gi : ps[i]? = some ps[i] := List.getElem?_eq_getElem hi
    obtain ⟨env3, e3, q3⟩ := sat_ofO.mp (sat_bnd.mp q2)
    refine .inr ⟨it.go i _ H ezH gi, Iv (i + 1), fun H' hI => ⟨m - 1, by omega, by omega, hI⟩, fun x H3 y => ?_⟩
    obtain ⟨eg, rep⟩ := it.yld i _ H x H3 ezH gi y
    have r3 := r2.grow eg
    have ndφ2 : D ∉ φ2 := (r2.gd D hW).1
    refine ⟨W, φ2, nob, env, S2, .d ps[i], by rw [hK]; exact r3, by rw [hK]; exact rep _ r2.mu ez, env3, e3, fun own3 σ3 r4 sm o4 => ⟨(o4.1 vs hvs).trans (wipe_idem σ vs), ?_⟩⟩
    rw [hK] at r4
    have eo := own_nob r4 sm
    subst eo
    refine ⟨W, φ2, nob, env3, S2, by rw [hK]; exact r4, (sat_bnd.mp q3).mono (fun b S5 q5 φ5 H5 r5 k5 => ?_) fun _ _ z => z.elim⟩
    rw [hK] at r5
    cases b with
    | true =>
      rw [if_pos rfl] at q5 ⊢
      refine ⟨W, φ5, nob, env3, S5, by rw [hK]; exact r5, (sat_bnd.mp q5).mono (fun v S6 q6 φ6 H6 u r6 k6 v6 => ?_) fun _ _ z => z.elim⟩
      rw [hK] at r6
      have k56 := k5.trans k6
      have kk0 := (Kp.ext eg).trans k56
      have hD6 : H6 D = some (.lst acc) := kk0.keep D _ ndφ2 hacc
      cases v with
      | c n => exact q6.elim
      | s n => exact q6.elim
      | d q =>
        have q7 := (sat_bnd.mp q6).mono (P' := fun r S' => Qf ((ds ++ [q]) ++ r) S') (fun r S7 z => by rw [List.append_assoc]; exact z) fun _ _ z => z
        refine ⟨acc, hD6, ?_, ?_⟩
        · obtain ⟨r, S7, z⟩ := sat_some q7
          have := hQl _ _ z
          rw [List.length_append, List.length_append] at this
          rw [hrep.length]
          simp at this
          omega
        · have rb := Rel.back hW r2 r6 kk0.del
          have hx : Ext (hz (Mu W.G φ2 nob) H) (hz (Mu W.G φ6 nob) H6) := hz_del hW kk0.del
          have hup : Ext (hz (Mu W.G φ6 nob) H6) (hz (Mu W.G φ6 nob) (upd H6 D (.lst (acc ++ [u])))) := fun a o h => by
            obtain ⟨n, h⟩ := hz_some.mp h
            exact hz_of (by rw [upd_ne fun z => n (.inl (by rw [z]; exact hW))]; exact h) n
          refine ⟨φ6, S6, acc ++ [u], ds ++ [q], rb.updG hW hD0, ?_, upd_same, (hrep.ext (Ext.trans hx hup)).append (.cons ?_ .nil), q7⟩
          · have kk := k2.trans kk0
            refine ⟨kk.pre, fun a o n h => ?_, kk.new⟩
            rw [upd_ne fun z => by rw [z, hHD] at h; cases h]
            exact kk.keep a o n h
          · have v6 : Rep C'.K (hz (Mu W.G φ6 nob) H6) u q := v6
            rw [hK] at v6
            exact v6.ext hup
    | false =>
      rw [if_neg Bool.false_ne_true] at q5 ⊢
      have kk0 := (Kp.ext eg).trans k5
      have hD6 : H5 D = some (.lst acc) := kk0.keep D _ ndφ2 hacc
      exact ⟨φ5, S5, acc, ds, Rel.back hW r2 r5 kk0.del, k2.trans kk0, hD6, hrep.ext (hz_del hW kk0.del), q5⟩
  · have hi' : ps.length ≤ i := Nat.le_of_not_lt hi
    rw [List.drop_eq_nil_of_le hi'] at q2
    have ei : i = ps.length := by omega
    subst ei
    refine .inl ⟨it.stop H ezH, fin φ2 S2 H acc ds r2 k2 hacc hrep ?_⟩
    have q2 : Qf (ds ++ []) S2 := q2
    rw [List.append_nil] at q2
    exact q2
def compL2 (t : TF) (c : DB) (f1 : DL) (t1 : TF) (c1 : DB) (e : DF) (vs1 : List Nat) (env : En) : List PyData → M (List PyData)
  | [] => ret []
  | p :: ps => bnd (ofO (t (.d p) env)) fun env1 => bnd (c env1) fun b => if b = true then bnd (f1 env1) fun qs => bnd (compL t1 c1 e (wipeE env1 vs1) qs) fun r1 => bnd (compL2 t c f1 t1 c1 e vs1 env ps) fun r => ret (r1 ++ r)
    else compL2 t c f1 t1 c1 e vs1 env ps
theorem comp2_core {C C' : Ct} (hK : C'.K = C.K) {W : Wd} {φ1 : List Addr} {env : En} {S1 : Sto} {σ : L2.St} {H1 : Hp} {D : Addr} {vs vs1 is is1 : List Nat} {J : It} {ps : List PyData} {t : TF} {c : DB} {f1 : DL} {t1 : TF} {c1 : DB} {e : DF} {Z : Hp} {Qf : List PyData → Sto → Prop} {Q : Hp → Prop}
    (hvs : ∀ i ∈ is, i ∈ vs) (hvs1 : ∀ i ∈ is1, i ∈ vs1) (hW : W.G D) (hD0 : W.H0 D = none) (hHD : H1 D = none) (hQl : ∀ r S, Qf r S → r.length ≤ sizeLine)
    (r1 : Rel C.K W φ1 nob env S1 (wipe σ vs) (upd H1 D (.lst [])))
    (it : ItR C.K Z J ps) (hZ : ∀ φ2 S2 H2, Rel C.K W φ2 nob env S2 (wipe σ vs) H2 → Kp φ1 H1 φ2 H2 → Ext Z (hz (Mu W.G φ2 nob) H2))
    (h : (compL2 t c f1 t1 c1 e vs1 env ps S1).sat Qf (fun _ _ => False))
    (fin : ∀ φ2 S2 H2 acc ds, Rel C.K W φ2 nob env S2 (wipe σ vs) H2 → Kp φ1 H1 φ2 H2 → H2 D = some (.lst acc) → RepAll C.K (hz (Mu W.G φ2 nob) H2) acc ds → Qf ds S2 → Q H2) :
    ∃ I : Nat → Nat → Hp → Prop, (∃ m, I 0 m (upd H1 D (.lst []))) ∧ ∀ i m H, I i m H →
      (J.stop i H ∧ Q H) ∨ (J.go i H ∧ ∃ Nx : Hp → Prop, (∀ H', Nx H' → ∃ m', m' < m ∧ I (i + 1) m' H') ∧ ∀ x H', J.yld i H x H' → tG C' is t x (wipe σ vs) H' fun σ2 H2 => wipe σ2 vs = wipe σ vs ∧ tIB C' c σ2 H2 fun b H3 =>
        if b = true then tIt C' true f1 σ2 H3 fun J1 H4 => ∃ W1 : Nat → Nat → Hp → Prop, (∃ m, W1 0 m H4) ∧ ∀ j k H, W1 j k H →
          (J1.stop j H ∧ Nx H) ∨ (J1.go j H ∧ ∃ Nx1 : Hp → Prop, (∀ H', Nx1 H' → ∃ k', k' < k ∧ W1 (j + 1) k' H') ∧ ∀ x H', J1.yld j H x H' → tG C' is1 t1 x (wipe σ2 vs1) H' fun σ3 H5 => wipe σ3 vs1 = wipe σ2 vs1 ∧ tIB C' c1 σ3 H5 fun b H6 =>
            if b = true then tI C' true e σ3 H6 fun y H7 => ∃ acc, H7 D = some (.lst acc) ∧ acc.length < sizeLine ∧ Nx1 (upd H7 D (.lst (acc ++ [y]))) else Nx1 H6)
        else Nx H3) := by
  let Iv : Nat → Hp → Prop := fun i H => ∃ φ2 S2 acc ds, Rel C.K W φ2 nob env S2 (wipe σ vs) H ∧ Kp φ1 H1 φ2 H ∧ H D = some (.lst acc) ∧ RepAll C.K (hz (Mu W.G φ2 nob) H) acc ds ∧
    (compL2 t c f1 t1 c1 e vs1 env (ps.drop i) S2).sat (fun r S' => Qf (ds ++ r) S') (fun _ _ => False)
  refine ⟨fun i m H => i + m = ps.length ∧ Iv i H, ⟨ps.length, by omega, φ1, S1, [], [], r1, ⟨List.prefix_refl _, fun a o _ h => ?_, fun a h n => absurd h n⟩, upd_same, .nil, h⟩, ?_⟩
  · rw [upd_ne fun z => by rw [z, hHD] at h; cases h]; exact h
  rintro i m H ⟨em, φ2, S2, acc, ds, r2, k2, hacc, hrep, q2⟩
  have ez := hZ φ2 S2 H r2 k2
  have ezH : Ext Z H := Ext.trans ez hz_sub
  by_cases hi : i < ps.length
  · have hd : ps.drop i = ps[i] :: ps.drop (i + 1) := List.drop_eq_getElem_cons hi
    rw [hd] at q2
    have gi : ps[i]? = some ps[i] := List.getElem?_eq_getElem hi
    obtain ⟨env3, e3, q3⟩ := sat_ofO.mp (sat_bnd.mp q2)
    refine .inr ⟨it.go i _ H ezH gi, Iv (i + 1), fun H' hI => ⟨m - 1, by omega, by omega, hI⟩, fun x H3 y => ?_⟩
    obtain ⟨eg, rep⟩ := it.yld i _ H x H3 ezH gi y
    have r3 := r2.grow eg
    have ndφ2 : D ∉ φ2 := (r2.gd D hW).1
    refine ⟨W, φ2, nob, env, S2, .d ps[i], by rw [hK]; exact r3, by rw [hK]; exact rep _ r2.mu ez, env3, e3, fun own3 σ3 r4 sm o4 => ⟨(o4.1 vs hvs).trans (wipe_idem σ vs), ?_⟩⟩
    rw [hK] at r4
    have eo := own_nob r4 sm
    subst eo
    refine ⟨W, φ2, nob, env3, S2, by rw [hK]; exact r4, (sat_bnd.mp q3).mono (fun b S5 q5 φ5 H5 r5 k5 => ?_) fun _ _ z => z.elim⟩
    rw [hK] at r5
    cases b with
    | true =>
      rw [if_pos rfl] at q5 ⊢
      refine ⟨W, φ5, nob, env3, S5, by rw [hK]; exact r5, (sat_bnd.mp q5).mono (fun qs S6 q6 φ6 H6 J1 r6 k6 it1 => ?_) fun _ _ z => z.elim⟩
      rw [hK] at r6 it1
      have kk0 := ((Kp.ext eg).trans k5).trans k6
      have hD6 : H6 D = some (.lst acc) := kk0.keep D _ ndφ2 hacc
      have ud := upd_del hD6
      have hrep6 : RepAll C.K (hz (Mu W.G φ6 nob) H6) acc ds := hrep.ext (hz_del hW kk0.del)
      have key := comp_in (C := C) (C' := C') hK (W := W) (φ1 := φ6) (env := wipeE env3 vs1) (S1 := S6) (σ := σ3) (H1 := KP.del H6 D) (D := D) (vs := vs1) (is := is1) (J := J1) (ps := qs) (t := t1) (c := c1) (e := e) (Z := hz (Mo true W.G φ6 nob) H6)
        (Qf := fun r S => (compL2 t c f1 t1 c1 e vs1 env (ps.drop (i + 1)) S).sat (fun r' S' => Qf (r ++ r') S') (fun _ _ => False)) (Q := Iv (i + 1)) (acc0 := acc) (ds0 := ds) hvs1 hW hD0 del_same
        (fun r S z => by
          obtain ⟨r', S', z⟩ := sat_some z
          have := hQl _ _ z
          rw [List.length_append] at this
          omega)
        (by rw [ud]; exact r6.wiped vs1) (by rw [ud]; exact hrep6) it1 (fun φ7 S7 H7 r7 k7 => hz_del hW k7)
        ((sat_bnd.mp q6).mono (fun r1 S7 z => (sat_bnd.mp z).mono (fun r S8 z => by
          have z : Qf (ds ++ (r1 ++ r)) S8 := z
          show Qf ((ds ++ r1) ++ r) S8
          rw [List.append_assoc]; exact z) fun _ _ z => z) fun _ _ z => z)
        (fun φ7 S7 H7 acc' ds' r7 k7 hacc' hrep' q7 => ⟨φ7, S7, acc', ds', Rel.back hW r2 r7 ((Kp.delR del_same kk0.del).trans k7), (Kp.delR hHD (k2.trans kk0)).trans k7, hacc', hrep', q7⟩)
      rw [ud] at key
      exact key
    | false =>
      rw [if_neg Bool.false_ne_true] at q5 ⊢
      have kk0 := (Kp.ext eg).trans k5
      have hD6 : H5 D = some (.lst acc) := kk0.keep D _ ndφ2 hacc
      exact ⟨φ5, S5, acc, ds, Rel.back hW r2 r5 kk0.del, k2.trans kk0, hD6, hrep.ext (hz_del hW kk0.del), q5⟩
  · have hi' : ps.length ≤ i := Nat.le_of_not_lt hi
    rw [List.drop_eq_nil_of_le hi'] at q2
    have ei : i = ps.length := by omega
    subst ei
    refine .inl ⟨it.stop H ezH, fin φ2 S2 H acc ds r2 k2 hacc hrep ?_⟩
    have q2 : Qf (ds ++ []) S2 := q2
    rw [List.append_nil] at q2
    exact q2
def lcA2 (f : DL) (t : TF) (c : DB) (f1 : DL) (t1 : TF) (c1 : DB) (e : DF) (vs vs1 : List Nat) : DLs := fun env => bnd (f env) fun ps => noX (bnd (compL2 t c f1 t1 c1 e vs1 (wipeE (stillE env) vs) ps) fun r => if r.length ≤ sizeLine then ret r else no)
theorem tI_lcA2 {C C' : Ct} (hK : C'.K = C.K) {σ : L2.St} {H : Hp} {Q : VK} {f : DL} {t : TF} {c : DB} {f1 : DL} {t1 : TF} {c1 : DB} {e : DF} {vs vs1 is is1 : List Nat} (hvs : ∀ i ∈ is, i ∈ vs) (hvs1 : ∀ i ∈ is1, i ∈ vs1) (h : tF C (lcA2 f t c f1 t1 c1 e vs vs1) σ H Q) :
    tLc2 (tIt C true f) (tG C' is t) (tIB C' c) (tIt C' true f1) (tG C' is1 t1) (tIB C' c1) (tI C' true e) vs vs1 σ H Q := by
  obtain ⟨W, φ, own, env, S, r, h⟩ := h
  refine ⟨W, φ, own, env, S, r, (sat_bnd.mp h).mono (fun ps S1 q φ1 H1 J r1 k1 it D hD => ?_) fun x S1 q φ1 H1 r1 k1 => q φ1 H1 r1 k1⟩
  have q := sat_bnd.mp (sat_noX (E' := fun _ _ => False) q)
  have q := q.mono (P' := fun r S' => r.length ≤ sizeLine ∧ ∀ φ' H' (D : Addr) vs, Rel C.K (W.and D) φ' own env S' σ H' → Kp φ H φ' H' → H D = none → H' D = some (.lst vs) → RepAll C.K (hz (Mu (W.and D).G φ' own) H') vs r → r.length ≤ sizeLine → Q (.ref D) H') (fun r S' z => by
    by_cases hr : r.length ≤ sizeLine
    · rw [if_pos hr] at z
      exact ⟨hr, z⟩
    · rw [if_neg hr] at z
      exact z.elim) fun _ _ z => z
  have nD := r1.fresh hD
  refine comp2_core (C := C) hK (W := ⟨fun a => outG W own a ∨ a = D, low own H1, φ1⟩) (env := wipeE (stillE env) vs) (Z := hz (Mo true W.G φ1 own) H1) hvs hvs1 (.inr rfl) ?_ hD (fun r S z => z.1) (r1.stillWipe vs hD) it (fun φ2 S2 H2 r2 k2 => ?_) q (fun φ2 S2 H2 acc ds r2 k2 hacc hrep hq => ?_)
  · show low own H1 D = none
    unfold low hz
    split
    · rfl
    · exact hD
  · intro a o ha
    obtain ⟨n, ha⟩ := hz_some.mp ha
    have na : a ∉ φ1 := fun z => n (.inr (.inl z))
    refine hz_of (k2.keep a o na ha) fun z => ?_
    rcases z with (z | z) | z | ⟨j, z⟩
    · exact n (z.elim .inl fun z => .inr (.inr z))
    · rw [z, hD] at ha; cases ha
    · have := k2.new a z na
      rw [ha] at this; cases this
    · cases z
  · have nφ : D ∉ φ2 := (r2.gd D (.inr rfl)).1
    have nM : ¬ Mu W.G φ2 own D := fun z => by
      rcases z with z | z | z
      · exact nD (.inl z)
      · exact nφ z
      · exact nD (.inr (.inr z))
    have sub : Ext (hz (Mu (fun a => outG W own a ∨ a = D) φ2 nob) H2) (hz (Mu (outG W own) φ2 nob) H2) := hz_anti fun a _ _ z => z.elim (fun z => .inl (.inl z)) .inr
    have hg1 := r1.laidG hD (xs := acc)
    have k2' : Kp φ1 (upd H1 D (.lst acc)) φ2 H2 := by
      refine ⟨k2.pre, fun a o n h => ?_, fun a z n => ?_⟩
      · by_cases e : a = D
        · rw [e, upd_same] at h; cases h; rw [e]; exact hacc
        · rw [upd_ne e] at h; exact k2.keep a o n h
      · rw [upd_ne fun e => nφ (by rw [← e]; exact z)]
        exact k2.new a z n
    have mg : Mu (outG (W.and D) own) φ2 nob = Mu (fun a => outG W own a ∨ a = D) φ2 nob := by
      rw [mu_eq]
      exact funext fun a => propext ⟨fun z => (mu_and.mp z).elim (fun z => (mu_out.mpr z).elim (fun z => .inl (.inl z)) .inr) fun z => .inl (.inr z), fun z => mu_and.mpr (z.elim (fun z => z.elim (fun z => .inl (mu_out.mp (.inl z))) .inr) fun z => .inl (mu_out.mp (.inr z)))⟩
    have en : Ent C.K (outG (W.and D) own) φ2 S2 H2 := ⟨r2.ndφ, fun a z => (r2.gd a (z.elim (fun z => z.elim (fun z => .inl (.inl z)) .inr) fun z => .inl (.inr z))).1, by rw [mg]; exact r2.mu, by rw [mg]; exact r2.cell⟩
    refine hq.2 φ2 H2 D acc (hg1.called k2' en) (k1.trans k2) ?_ hacc (by rw [show Mu (W.and D).G φ2 own = Mu (outG (W.and D) own) φ2 nob from mu_eq.symm, mg]; exact hrep) hq.1
    cases e : H D with
    | none => rfl
    | some o =>
      by_cases z : D ∈ φ
      · exact absurd (k1.pre.subset z) fun z => nD (.inr (.inl z))
      · have := k1.keep D o z e
        rw [hD] at this; cases this
section
variable {X : Cx} {ew : WX} {elt tg iter tg1 iter1 : Expr} {ifs ifs1 : List Expr} {scope : Scope} {own : List (Str × Nat)} {vs1 : List Nat} {pos spos py : Pos} {f f1 : DL} {t t1 : TF} {c c1 : DB} {e : DF} {is is1 : List Nat} {i : Nat} {y : Str}
theorem ef_lcA2 (hc : X.calm = true) (hN : X.N.Nodup) (hi : EI X ew true tg iter f) (ok : BlkOk X.N X.env.scope scope own) (hv : ∀ i ∈ vs1, i ∈ own.map (·.2)) (hvs : ∀ i ∈ is, i ∈ own.map (·.2)) (hvs1 : ∀ i ∈ is1, i ∈ vs1)
    (hg : ∀ (s : Shared) (H : Hp) (C : Addr) (cl : List (Str × Addr)) (fp : List Addr), EG (X.blk s H scope (compEnvC scope cl C X.env) fp) ew0 tg is t) (ht : ∀ (s : Shared) (H : Hp) (C : Addr) (cl : List (Str × Addr)) (fp : List Addr), EBs (X.blk s H scope (compEnvC scope cl C X.env) fp) ew0 ifs c)
    (hi1 : ∀ (s : Shared) (H : Hp) (C : Addr) (cl : List (Str × Addr)) (fp : List Addr), EI (X.blk s H scope (compEnvC scope cl C X.env) fp) ew0 true tg1 iter1 f1)
    (hg1 : ∀ (s : Shared) (H : Hp) (C : Addr) (cl : List (Str × Addr)) (fp : List Addr), EG (X.blk s H scope (compEnvC scope cl C X.env) fp) ew0 tg1 is1 t1) (ht1 : ∀ (s : Shared) (H : Hp) (C : Addr) (cl : List (Str × Addr)) (fp : List Addr), EBs (X.blk s H scope (compEnvC scope cl C X.env) fp) ew0 ifs1 c1)
    (he : ∀ (s : Shared) (H : Hp) (C : Addr) (cl : List (Str × Addr)) (fp : List Addr), E (X.blk s H scope (compEnvC scope cl C X.env) fp) ew0 true elt e) (hs : ∀ x, foldedSetIterable iter X.env x = pure x := by intro _; rfl) (hs1 : ∀ env x, foldedSetIterable iter1 env x = pure x := by intro _ _; rfl) :
    EF X ew (.ListComp elt [⟨tg, iter, ifs, 0⟩, ⟨tg1, iter1, ifs1, 0⟩] scope pos) (lcA2 f t c f1 t1 c1 e (own.map (·.2)) vs1) :=
  pe_weak (pe_lc2 (g := tG ⟨X.K, X.mg, ew0⟩ is t) (tt := tIB ⟨X.K, X.mg, ew0⟩ c) (g1 := tG ⟨X.K, X.mg, ew0⟩ is1 t1) (tt1 := tIB ⟨X.K, X.mg, ew0⟩ c1) (wi1 := tIt ⟨X.K, X.mg, ew0⟩ true f1) (te := tI ⟨X.K, X.mg, ew0⟩ true e) hc hN hi ok hv hg ht hi1 hg1 ht1 he hs hs1) fun σ H Q h => tI_lcA2 (C := ⟨X.K, X.mg, ew⟩) (C' := ⟨X.K, X.mg, ew0⟩) rfl hvs hvs1 h
theorem ps_lcA2 (hc : X.calm = true) (hN : X.N.Nodup) (hy : X.N[i]? = some y) (hyl : X.env.scope.names.lookup y = some .local)
    (hsw : swapsWith (.ListComp elt [⟨tg, iter, ifs, 0⟩, ⟨tg1, iter1, ifs1, 0⟩] scope pos) (some (.Name y py)) spos.line X.env = pure true) (hi : EI X ew true tg iter f) (ok : BlkOk X.N X.env.scope scope own) (hv : ∀ i ∈ vs1, i ∈ own.map (·.2)) (hvs : ∀ i ∈ is, i ∈ own.map (·.2)) (hvs1 : ∀ i ∈ is1, i ∈ vs1)
    (hg : ∀ (s : Shared) (H : Hp) (C : Addr) (cl : List (Str × Addr)) (fp : List Addr), EG (X.blk s H scope (compEnvC scope cl C X.env) fp) ew0 tg is t) (ht : ∀ (s : Shared) (H : Hp) (C : Addr) (cl : List (Str × Addr)) (fp : List Addr), EBs (X.blk s H scope (compEnvC scope cl C X.env) fp) ew0 ifs c)
    (hi1 : ∀ (s : Shared) (H : Hp) (C : Addr) (cl : List (Str × Addr)) (fp : List Addr), EI (X.blk s H scope (compEnvC scope cl C X.env) fp) ew0 true tg1 iter1 f1)
    (hg1 : ∀ (s : Shared) (H : Hp) (C : Addr) (cl : List (Str × Addr)) (fp : List Addr), EG (X.blk s H scope (compEnvC scope cl C X.env) fp) ew0 tg1 is1 t1) (ht1 : ∀ (s : Shared) (H : Hp) (C : Addr) (cl : List (Str × Addr)) (fp : List Addr), EBs (X.blk s H scope (compEnvC scope cl C X.env) fp) ew0 ifs1 c1)
    (he : ∀ (s : Shared) (H : Hp) (C : Addr) (cl : List (Str × Addr)) (fp : List Addr), E (X.blk s H scope (compEnvC scope cl C X.env) fp) ew0 true elt e) (hs : ∀ x, foldedSetIterable iter X.env x = pure x := by intro _; rfl) (hs1 : ∀ env x, foldedSetIterable iter1 env x = pure x := by intro _ _; rfl) :
    PS X (.Assign [.Name y py] (.ListComp elt [⟨tg, iter, ifs, 0⟩, ⟨tg1, iter1, ifs1, 0⟩] scope pos) spos) (tAsg (tF ⟨X.K, X.mg, ew⟩ (lcA2 f t c f1 t1 c1 e (own.map (·.2)) vs1)) (gName i)) :=
  ps_weak (ps_setLc2 (g := tG ⟨X.K, X.mg, ew0⟩ is t) (tt := tIB ⟨X.K, X.mg, ew0⟩ c) (g1 := tG ⟨X.K, X.mg, ew0⟩ is1 t1) (tt1 := tIB ⟨X.K, X.mg, ew0⟩ c1) (wi1 := tIt ⟨X.K, X.mg, ew0⟩ true f1) (te := tI ⟨X.K, X.mg, ew0⟩ true e) hc hN hy hyl hsw hi ok hv hg ht hi1 hg1 ht1 he hs hs1) fun D σ H h => tI_lcA2 (C := ⟨X.K, X.mg, ew⟩) (C' := ⟨X.K, X.mg, ew0⟩) rfl hvs hvs1 h
end
/-! ### stars in displays -/
def aStar (f : DF) (fs : DFA) : DFA := fun env => bnd (f env) fun v => bnd (ofO (seqOf v)) fun ps => bnd (fs env) fun vs => ret (ps.map Va.d ++ vs)
theorem VRepAll.dApp {K : PySem.W.Frag} {Nu : Addr → Prop} {φ : List Addr} {H : Hp} {us : List V} {vs : List Va} : ∀ {xs : List V} {ps : List PyData}, RepAll K (hz Nu H) xs ps → VRepAll K Nu φ H us vs → VRepAll K Nu φ H (xs ++ us) (ps.map Va.d ++ vs)
  | _, _, .nil, h => h
  | _, _, .cons a r, h => .cons a (VRepAll.dApp r h)
theorem tIA_star {C : Ct} {fl : Bool} {σ : L2.St} {H : Hp} {f : DF} {fs : DFA} {Q : List V → Hp → Prop} (h : tIA C fl (aStar f fs) σ H Q) : StX.tStar C.K (tI C fl f) (tIA C fl fs) σ H Q := by
  obtain ⟨W, φ, own, env, S, r0, h⟩ := h
  refine ⟨W, φ, own, env, S, r0, (sat_bnd.mp h).mono (fun v S1 q φ1 H1 u r1 k1 v1 => ?_) fun _ _ q => q⟩
  obtain ⟨ps, e, q⟩ := sat_ofO.mp (sat_bnd.mp q)
  obtain ⟨a, xs, rfl, hl, ha, hs⟩ := seqOf_rep v1 e
  refine ⟨a, xs, rfl, hs.elim (fun h => .inr (sqL_ext hz_sub h)) (fun h => .inl (sqT_ext hz_sub h)), W, φ1, own, env, S1, r1, (sat_bnd.mp q).mono (fun w S2 q φ2 H2 u2 r2 k2 v2 => ?_) fun x S' q φ' H' r' k' => q φ' H' r' (k1.trans k')⟩
  exact q φ2 H2 (xs ++ u2) r2 (k1.trans k2) (VRepAll.dApp (ha.ext k2.hz) v2)
theorem ea_star {X : Cx} {ew : WX} {fl : Bool} {e : Expr} {es : List Expr} {f : DF} {fs : DFA} {p : Pos} (h : E X ew fl e f) (ht : EA X ew fl es fs) (hs : starEach (.Starred e p :: es) X.env = (true, eval e X.env) :: starEach es X.env := by rfl) : EA X ew fl (.Starred e p :: es) (aStar f fs) :=
  pa_weak (StX.pa_star h ht hs) fun _ _ _ h => tIA_star h
/-! ### the empty dict as data -/
def gD0 : List Va → Option Va
  | [] => some (.d (.dict []))
  | _ => none
theorem pure_d0 {K : PySem.W.Frag} : PureN K (fun _ H1 Q => ∀ p, H1 p = none → Q (.ref p) (upd H1 p (.dK []))) gD0 := by
  intro Nu φ H us vs w Q m hv hg hq p hp
  cases hv with
  | cons _ _ => cases hg
  | nil =>
    cases hg
    obtain ⟨n1, n2⟩ := rep_new (K := K) (o := .dK []) m hp
    exact hq _ _ (Ext.upd hp) (.dcK n2 .nil)
theorem e_d0 {X : Cx} {ew : WX} {fl : Bool} {pos : Pos} : E X ew fl (.Dict [] [] pos) (cN gD0 aNil) := pe_weak pe_dnewK fun _ _ _ q => tIA_nil (tI_cN pure_d0 q)
end KP


set_option Elab.async false
set_option linter.all false
set_option maxRecDepth 100000
/-! KEx: x.extend([..]) at an owned list. -/
namespace KP
open PySem PySem.Spec PyProof.Rows L2
def sExt (i : Nat) (g : DLs) : SF := fun env => bnd (ofO ((lk env i).bind Sv.asL1)) fun xs => lift env (g env) fun ys => if xs.length + ys.length ≤ sizeLine then ret (.nx, env.set i (some (.l1 (xs ++ ys)))) else no
theorem es_extend {X : Cx} {ew : WX} {x : Str} {i : Nat} {e : Expr} {g : DLs} {p1 apos cpos pos : Pos} (hN : X.N[i]? = some x) (hv : Vis X.env.scope x) (h : EF X ew e g)
    (hd : (x == ("__debug__" : Str)) = false := by decide) (hcd : (x == ("__classdict__" : Str)) = false := by decide)
    (hbase : attributeBase (.Name x p1) "extend" X.env (eval (.Name x p1) X.env) = eval (.Name x p1) X.env := by rfl)
    (hfew : ((backTo cpos (starEach [e] X.env)).all (fun x => !x.1) && (backToKw cpos (keywordEach [] X.env)).all (fun x => x.1.isSome)
      && decide (([e] : List Expr).length + ([] : List Keyword).length + (if ([] : List Keyword).isEmpty then 0 else 1) < 30)) = true := by rfl)
    (hline : (apos.endLine == cpos.line) = true := by rfl) (hst : starEach [e] X.env = (false, eval e X.env) :: starEach [] X.env := by rfl) (hplain : (backTo cpos (starEach [] X.env)).any (·.1) = false := by rfl)
    (hs : swapsWith (.Call (.Attribute (.Name x p1) "extend" apos) [e] [] cpos) none pos.line X.env = pure false := by rfl) :
    ES X ew (.Expr (.Call (.Attribute (.Name x p1) "extend" apos) [e] [] cpos) pos) (sExt i g) :=
  ps_weak (ps_expr (pe_bm PySem.F.plainAttrs_list PySem.F.slot_list_extend PySem.F.type_list_extend mt_extend (pe_var hN hv hd hcd) (pa_cons h pa_nil hst) hbase hfew hline hst hplain) hs) fun D σ H h => by
    obtain ⟨W, φ, own, env, S, r, h⟩ := h
    obtain ⟨xs, e1, h⟩ := sat_ofO.mp (sat_bnd.mp h)
    obtain ⟨sv, es, e1⟩ := Option.bind_eq_some_iff.mp e1
    have es := lk_some es
    have := asL1_some e1
    subst this
    obtain ⟨u, hu, a, us, rfl, hF, ha, hr, hl⟩ := r.slot i _ es
    refine ⟨.ref a, hu, .inl ⟨rfl, _, .inl (.inl ha)⟩, W, φ, own, env, S, r, (sat_lift.mp h).mono (fun ps S1 q φ1 H1 A zs r1 k1 hn hD hr2 hl2 => ?_) fun x S1 q φ1 H1 r1 k1 => q φ1 own σ H1 r1⟩
    have hao : a ∈ own i := by rw [hF]; simp
    have ha1 : H1 a = some (.lst us) := k1.keep a _ (r.apart i a hao) ha
    by_cases hz : xs.length + ps.length ≤ sizeLine
    · rw [if_pos hz] at q
      refine ⟨a, A, us, zs, rfl, rfl, ha1, hD, by rw [hr.length, hr2.length]; exact hz, ?_⟩
      refine q φ1 own σ _ (r1.lessG.updOwn es hu hao (plain_lst _) fun ex => ⟨a, us ++ zs, rfl, hF, upd_same, ((hr.ext (Kp.hz (fl := true) k1)).ext ex).append ((hr2.ext (hz_anti fun a _ _ z => mu_and.mpr (.inl z))).ext ex), ?_⟩)
      rw [List.length_append]; exact hz
    · rw [if_neg hz] at q; exact q.elim
/-! ### slices of tuples too -/
def gSlA : Va → Option Int → Option Int → Option Va
  | .d (.tuple xs), a, b => some (.d (.tuple (cutD xs a b)))
  | v, a, b => gSlL v a b
theorem pure_slA {K : PySem.W.Frag} : PureS K (fun x lo hi H Q => rSlL K x lo hi H Q ∨ rSlA K x lo hi H Q) gSlA := fun Nu φ H u v lo hi w Q m h e q => by
  unfold gSlA at e
  split at e
  · cases e
    cases h with
    | tup hs l r =>
      refine .inr ⟨_, _, rfl, SqT.of (hz_some.mp hs).2, fun hw => ?_, fun hw p hp => q _ _ (Ext.upd hp) ?_⟩
      · refine q _ _ Ext.refl ?_
        have e2 : cutD ‹List PyData› lo hi = ‹List PyData› := by
          rw [r.length] at hw
          unfold cutD
          rw [hw.1, hw.2]
          simp
        rw [e2]
        exact .tup hs l r
      · obtain ⟨n1, n2⟩ := rep_new (K := K) m hp
        exact .tup n2 (Nat.le_trans (cutD_len _ _ _) l) (rep_cut (r.ext n1) _ _)
  · exact .inl (pure_slL Nu φ H u _ lo hi w Q m h e q)
theorem sl_any {X : Cx} : SlR X (fun x lo hi H Q => rSlL X.K x lo hi H Q ∨ rSlA X.K x lo hi H Q) := SlR.or sl_list sl_tupA
end KP


set_option Elab.async false
set_option linter.all false
set_option maxRecDepth 100000
/-! KRv: t[::-1] of a tuple. -/
namespace KP
open PySem PySem.Spec PyProof.Rows L2 HT
theorem adjust_rev (n : Nat) : Builtin.Slice.sliceAdjust none none (-1) (n : Int) = ((n : Int) - 1, -1) := by
  simp [Builtin.Slice.sliceAdjust]
theorem places_rev (n : Nat) : Builtin.Slice.slicePlaces ((n : Int) - 1) (-1) (-1) = n := by
  unfold Builtin.Slice.slicePlaces
  have h1 : ¬ ((-1 : Int) > 0) := by omega
  rw [if_neg h1]
  by_cases h : (n : Int) - 1 > -1
  · rw [if_pos h, show (- -1 : Int) = 1 by decide, Int.ediv_one]; omega
  · rw [if_neg h]; omega
theorem fm_congr {α β : Type} {f g : α → Option β} : ∀ {l : List α}, (∀ x ∈ l, f x = g x) → l.filterMap f = l.filterMap g
  | [], _ => rfl
  | x :: l, h => by
    rw [List.filterMap_cons, List.filterMap_cons, h x (by simp), fm_congr (l := l) fun y hy => h y (by simp [hy])]
theorem pick_rev (xs : Array Value) : ((List.range xs.size).filterMap fun (m : Nat) => xs[(((xs.size : Int) - 1) + (m : Int) * (-1)).toNat]?).toArray = xs.toList.reverse.toArray := by
  have := PySem.W.krv_pick xs
  unfold slicePick at this
  rw [PySem.W.krv_bounds] at this
  have this : ((sliceRange ((xs.size : Int) - 1) (-1) (-1)).filterMap (xs[·]?)).toArray = _ := this
  rw [PySem.W.krv_sliceRange, List.filterMap_map] at this
  rw [← this]
  congr 1
  apply fm_congr
  intro m hm
  have := List.mem_range.mp hm
  show _ = xs[xs.size - 1 - m]?
  congr 1
  omega
section
variable {prog : Program} {w : World} {A : Around} {E : Value → Shared → Prop} {s : Shared}
theorem applied_rev {sl : Addr} {vs : Value} {n : Nat} {Q : Int × Int × Nat → Shared → Prop} (hs : s.heap.IsSliceOf sl .none .none vs) (ps : IsPart vs (some (-1)))
    (h : Q ((n : Int) - 1, -1, n) s) : wpAny (model prog w) A (Builtin.Slice.sliceApplied (.ref sl) (pure (n : Int))) Q E s := by
  obtain ⟨os, hos, hcs, hds⟩ := id hs
  unfold Builtin.Slice.sliceApplied Builtin.Slice.sliceFields
  refine wpAny_bind (wpAny_bind (wpAny_field hos hds (x := .none) rfl (wpAny_bind (wpAny_field hos hds (x := .none) rfl (wpAny_bind (wpAny_field hos hds (x := vs) rfl (wpAny_pure ?_)))))))
  refine wpAny_bind (slicePart_ ps ?_)
  show wpAny _ _ (if ((-1 : Int) == 0) = true then _ else _) _ _ s
  rw [if_neg (by decide)]
  refine wpAny_bind (slicePart_ .none (wpAny_bind (slicePart_ .none (wpAny_bind (wpAny_pure ?_)))))
  show wpAny _ _ (match Builtin.Slice.sliceAdjust none none (-1) (n : Int) with | (lo, hi) => pure (lo, (-1 : Int), Builtin.Slice.slicePlaces lo hi (-1))) _ _ s
  rw [adjust_rev n]
  show wpAny _ _ (pure ((n : Int) - 1, (-1 : Int), Builtin.Slice.slicePlaces ((n : Int) - 1) (-1) (-1))) _ _ s
  rw [places_rev]
  exact wpAny_pure h
theorem getItem_tuple_rev {t sl : Addr} {items : Array Value} {vs : Value} {Q : Value → Shared → Prop} (ht : IsTup s.heap t items) (hs : s.heap.IsSliceOf sl .none .none vs) (ps : IsPart vs (some (-1)))
    (h : Q (.ref s.heap.objs.size) { s with heap := s.heap.push { cls := .type "tuple", data := .seq items.toList.reverse.toArray } })
    (hsz : items.size ≤ sizeLine) : wpAny (model prog w) A (getItem (.ref t) (.ref sl)) Q E s := by
  have htake : sizeOk (.seq items.toList.reverse.toArray) := by
    show items.toList.reverse.toArray.size ≤ sizeLine
    rw [List.size_toArray, List.length_reverse, Array.length_toList]
    exact hsz
  obtain ⟨os, hos, hcs, hds⟩ := id hs
  have hTs : s.TypeIs (.ref sl) "slice" := ⟨os, hos, hcs⟩
  unfold getItem
  try with_reducible refine wpAny_holding ?_
  first | refine wpAny_bind (wpAny_pure ?_) | skip
  refine wpAny_bind (wpAny_sequenceKey ht.typeIs (by decide) ?_)
  refine wpAny_bind (wpAny_callSpecial?_slot (name := Str.ofString "__getitem__") ht.typeIs PyProof.Rows.slot_tuple_getitem
    (wpAny_call_entry PyProof.Rows.slot_tuple_getitem ht.typeIs entry_tuple_getitem ?_ (args_tuple_getitem _ _)))
  show wpAny _ _ (Builtin.Tuple.tupleItemsOf (.ref t) >>= _) _ _ s
  refine wpAny_bind (tupleItemsOf_ ht ?_)
  refine wpAny_bind (wpAny_typeOf hTs ?_)
  rw [if_pos (by decide)]
  refine wpAny_bind (applied_rev hs ps ?_)
  have hno : ¬ ((((items.size : Int) - 1) == 0 && (-1 : Int) == 1 && items.size == items.size) = true) := by
    intro q
    rw [Bool.and_eq_true, Bool.and_eq_true] at q
    exact absurd q.1.2 (by decide)
  show wpAny _ _ (if (((items.size : Int) - 1) == 0 && (-1 : Int) == 1 && items.size == items.size) = true then _ else _) _ _ s
  rw [if_neg hno, pick_rev]
  first
    | exact wpAny_bind (m := Builtin.Tuple.tupleExact _) (wpAny_newObj_type (wpAny_pure ⟨_, rfl, wpAny_pure h⟩) htake)
    | exact wpAny_bind (m := Builtin.Tuple.tupleExact _) (wpAny_newObj_type (wpAny_bind (wpAny_pure (wpAny_pure ⟨_, rfl, wpAny_pure h⟩))) htake)
    | exact wpAny_bind (wpAny_bind (m := Builtin.Tuple.tupleExact _) (wpAny_newObj_type (wpAny_pure (wpAny_pure ⟨_, rfl, wpAny_pure h⟩)) htake))
    | exact wpAny_bind (wpAny_bind (m := Builtin.Tuple.tupleExact _) (wpAny_newObj_type (wpAny_pure ⟨_, rfl, wpAny_pure h⟩) htake))
end
def tRevT (K : PySem.W.Frag) (te : TE) : TE := fun σ H Q => te σ H fun x H1 => ∃ a xs, x = .ref a ∧ SqT K H1 a xs ∧ ∀ p, H1 p = none → Q (.ref p) (upd H1 p (.tup xs.reverse))
theorem pe_revT {X : Cx} {e : Expr} {te : TE} {k : Nat} {p1 p2 p3 pos : Pos} (he : PE X e te) : PE X (.Subscript e (.Slice none none (some (.UnaryOp .USub (.Constant (.int 1) k p1) p2)) p3) pos) (tRevT X.K te) := by
  refine ⟨fun pins s σ H Q I h => ?_⟩
  refine Subscript_ (thn (he.run pins s σ H _ I h) fun v s1 ⟨x, H1, I1, r1, q1⟩ => ?_)
  obtain ⟨a, xs, ex, hx, q⟩ := q1
  subst ex
  cases r1
  have hst : PO X (some (.UnaryOp .USub (.Constant (.int 1) k p1) p2)) (tPart (tUn (rU fun i => .int (-i)) (tC (.int 1)))) := po_some (pe_un un_neg pe_int)
  refine wpAny_Slice (thn (po_none.run pins s1 σ H1 (fun o H2 => o = none ∧ H2 = H1) I1 ⟨rfl, rfl⟩) fun vl s2 ⟨l, H2, I2, pl, el, e2⟩ => ?_)
  subst el e2
  refine thn (po_none.run pins s2 σ H2 (fun o H3 => o = none ∧ H3 = H2) I2 ⟨rfl, rfl⟩) fun vu s3 ⟨u, H3, I3, pu, eu, e3⟩ => ?_
  subst eu e3
  refine thn (hst.run pins s3 σ H3 (fun o H4 => o = some (-1) ∧ H4 = H3) I3 ⟨1, rfl, -1, rfl, rfl, rfl⟩) fun vs s4 ⟨o, H4, I4, ps, eo, e4⟩ => ?_
  subst eo e4
  cases pl
  cases pu
  have I5 : Inv X pins σ H4 { s4 with heap := s4.heap.push { cls := .type "slice", data := .fields #[.none, .none, vs] } } := I4.kept (t' := s4.toks) fun b ob q => Heap.get?_push_of_some _ q
  obtain ⟨its, r, ht, hz⟩ := I5.tuple hx
  have hlen := r.length
  show wpAny (model X.prog X.w) X.A (subscriptTail e (.Slice none none (some (.UnaryOp .USub (.Constant (.int 1) k p1) p2)) p3) (.ref a) (.ref s4.heap.objs.size)) (EP X pins σ Q) X.xe { s4 with heap := s4.heap.push { cls := .type "slice", data := .fields #[.none, .none, vs] } }
  refine tail_any (ops := [.ref a, .ref s4.heap.objs.size]) ht.typeIs (PyProof.Rows.slot_tuple_getitem.lookup) ?_ (by with_unfolding_all rfl)
  refine getItem_tuple_rev ht (Heap.IsSliceOf.new _ .none .none vs) ps ?_ (by rw [List.size_toArray]; omega)
  refine ⟨.ref _, _, I5.laid (t' := s4.toks) (o := .tup xs.reverse) (fun b ob q => Heap.get?_push_of_some _ q) (Nat.le_refl _) ?_, rfl, q _ (I5.hok.fresh (Nat.le_refl _))⟩
  exact ⟨by rw [List.length_reverse]; exact hz, _, r.reverse, ⟨_, Heap.get?_push_size _ rfl, rfl, _, rfl⟩⟩
def gRevT : Va → Option Va
  | .d (.tuple xs) => some (.d (.tuple xs.reverse))
  | _ => none
theorem pure_revT {K : PySem.W.Frag} : Pure1 K (fun x H Q => ∃ a xs, x = .ref a ∧ SqT K H a xs ∧ ∀ p, H p = none → Q (.ref p) (upd H p (.tup xs.reverse))) gRevT := pure1_of fun Nu φ H u v w Q m h e q => by
  refine ⟨_, rfl, ?_⟩
  unfold gRevT at e
  split at e
  · cases e
    cases h with
    | tup hs l r =>
      refine ⟨_, _, rfl, SqT.of (hz_some.mp hs).2, fun p hp => q _ _ (Ext.upd hp) ?_⟩
      obtain ⟨n1, n2⟩ := rep_new (K := K) m hp
      exact .tup n2 (by rw [List.length_reverse]; exact l) ((r.ext n1).reverse)
  · cases e
theorem e_revT {X : Cx} {ew : WX} {fl : Bool} {e : Expr} {f : DF} {k : Nat} {p1 p2 p3 pos : Pos} (h : E X ew fl e f) : E X ew fl (.Subscript e (.Slice none none (some (.UnaryOp .USub (.Constant (.int 1) k p1) p2)) p3) pos) (c1 gRevT f) :=
  pe_weak (pe_revT h) fun _ _ _ h => tI_c1 pure_revT h
end KP


set_option Elab.async false
set_option linter.all false
set_option maxRecDepth 100000
/-! KW: plain facts of data: numbers in tuples and lists. -/
namespace KP
open PySem PySem.Spec PyProof.Rows L2
def fits : List Nat → PyData → Bool
  | _, .int _ => true
  | b :: bs, .tuple xs => decide (xs.length ≤ b) && xs.all (fits bs)
  | b :: bs, .list xs => decide (xs.length ≤ b) && xs.all (fits bs)
  | _, _ => false
def fitsT : List Nat → PyData → Bool
  | _, .int i => decide (0 ≤ i) && decide (i < 1000)
  | _, .bool _ => true
  | _, .none => true
  | b :: bs, .tuple xs => decide (xs.length ≤ b) && xs.all (fitsT bs)
  | b :: bs, .list xs => decide (xs.length ≤ b) && xs.all (fitsT bs)
  | _, _ => false
/-- a property of numbers, tuples and lists alone -/
theorem fits_ind {C : List Nat → PyData → Prop} (h1 : ∀ bs i, C bs (.int i)) (h2 : ∀ b bs xs, xs.length ≤ b → (∀ x ∈ xs, fits bs x = true) → (∀ x ∈ xs, C bs x) → C (b :: bs) (.tuple xs)) (h3 : ∀ b bs xs, xs.length ≤ b → (∀ x ∈ xs, fits bs x = true) → (∀ x ∈ xs, C bs x) → C (b :: bs) (.list xs)) :
    ∀ {bs : List Nat} {p : PyData}, fits bs p = true → C bs p := by
  intro bs
  induction bs with
  | nil =>
    intro p h
    cases p with
    | int i => exact h1 _ i
    | _ => simp [fits] at h
  | cons b bs ih =>
    intro p h
    cases p with
    | int i => exact h1 _ i
    | tuple xs =>
      simp only [fits, Bool.and_eq_true, decide_eq_true_eq, List.all_eq_true] at h
      exact h2 b bs xs h.1 h.2 fun x hx => ih (h.2 x hx)
    | list xs =>
      simp only [fits, Bool.and_eq_true, decide_eq_true_eq, List.all_eq_true] at h
      exact h3 b bs xs h.1 h.2 fun x hx => ih (h.2 x hx)
    | _ => simp [fits] at h
theorem nodicAll_iff : ∀ {xs : List PyData}, nodicAll xs = true ↔ ∀ x ∈ xs, nodic x = true
  | [] => by simp [nodicAll]
  | x :: xs => by simp [nodicAll, nodicAll_iff (xs := xs)]
theorem plainAll_iff : ∀ {xs : List PyData}, PyData.plainAll xs = true ↔ ∀ x ∈ xs, x.plain = true
  | [] => by simp [PyData.plainAll]
  | x :: xs => by simp [PyData.plainAll, plainAll_iff (xs := xs)]
theorem canLayAll0_iff : ∀ {xs : List PyData}, PyData.canLayAll0 xs = true ↔ ∀ x ∈ xs, x.canLay0 = true
  | [] => by simp [PyData.canLayAll0]
  | x :: xs => by simp [PyData.canLayAll0, canLayAll0_iff (xs := xs)]
theorem hasDictAll_iff : ∀ {xs : List PyData}, PyData.hasDictAll xs = false ↔ ∀ x ∈ xs, x.hasDict = false
  | [] => by simp [PyData.hasDictAll]
  | x :: xs => by simp [PyData.hasDictAll, hasDictAll_iff (xs := xs)]
theorem immAll_iff : ∀ {xs : List PyData}, immAll xs = true ↔ ∀ x ∈ xs, imm x = true
  | [] => by simp [immAll]
  | x :: xs => by simp [immAll, immAll_iff (xs := xs)]
theorem showableAll_iff : ∀ {xs : List PyData}, PyData.showableAll xs = true ↔ ∀ x ∈ xs, x.showable = true
  | [] => by simp [PyData.showableAll]
  | x :: xs => by simp [PyData.showableAll, showableAll_iff (xs := xs)]
theorem depthAll_le : ∀ {xs : List PyData} {n : Nat}, (∀ x ∈ xs, x.depth ≤ n) → PyData.depthAll xs ≤ n
  | [], _, _ => by simp [PyData.depthAll]
  | x :: xs, n, h => by
    simp only [PyData.depthAll]
    exact Nat.max_le.mpr ⟨h x (by simp), depthAll_le fun y hy => h y (by simp [hy])⟩
theorem fits_nodic {bs : List Nat} {p : PyData} (h : fits bs p = true) : nodic p = true :=
  fits_ind (C := fun _ p => nodic p = true) (fun _ _ => by simp [nodic]) (fun _ _ xs _ _ h => by simpa [nodic] using nodicAll_iff.mpr h) (fun _ _ xs _ _ h => by simpa [nodic] using nodicAll_iff.mpr h) h
theorem fits_plain {bs : List Nat} {p : PyData} (h : fits bs p = true) : p.plain = true :=
  fits_ind (C := fun _ p => p.plain = true) (fun _ _ => by simp [PyData.plain]) (fun _ _ xs _ _ h => by simpa [PyData.plain] using plainAll_iff.mpr h) (fun _ _ xs _ _ h => by simpa [PyData.plain] using plainAll_iff.mpr h) h
theorem fits_lay {bs : List Nat} {p : PyData} (h : fits bs p = true) : p.canLay0 = true :=
  fits_ind (C := fun _ p => p.canLay0 = true) (fun _ _ => by simp [PyData.canLay0]) (fun _ _ xs _ _ h => by simpa [PyData.canLay0] using canLayAll0_iff.mpr h) (fun _ _ xs _ _ h => by simpa [PyData.canLay0] using canLayAll0_iff.mpr h) h
theorem fits_noDict {bs : List Nat} {p : PyData} (h : fits bs p = true) : p.hasDict = false :=
  fits_ind (C := fun _ p => p.hasDict = false) (fun _ _ => by simp [PyData.hasDict]) (fun _ _ xs _ _ h => by simpa [PyData.hasDict] using hasDictAll_iff.mpr h) (fun _ _ xs _ _ h => by simpa [PyData.hasDict] using hasDictAll_iff.mpr h) h
theorem fits_depth {bs : List Nat} {p : PyData} (h : fits bs p = true) : p.depth ≤ bs.length :=
  fits_ind (C := fun bs p => p.depth ≤ bs.length) (fun _ _ => by simp [PyData.depth]) (fun _ bs xs _ _ h => by simpa [PyData.depth] using depthAll_le h) (fun _ _ xs _ _ h => by simpa [PyData.depth] using depthAll_le h) h
theorem fits_shaped {bs : List Nat} {p : PyData} (h : fits bs p = true) (hb : bs.length ≤ 60) : SeqAt.shaped p = true := by
  unfold SeqAt.shaped
  have := fits_depth h
  rw [fits_lay h]
  simp; omega
theorem eqOk_of {bs cs : List Nat} {p q : PyData} (h : fits bs p = true) (h' : fits cs q = true) (hb : bs.length ≤ 60 := by decide) (hc : cs.length ≤ 60 := by decide) : eqOk p q = true := by
  unfold eqOk
  rw [fits_nodic h, fits_nodic h', fits_shaped h hb, fits_shaped h' hc]; rfl
theorem inOk_of {bs cs : List Nat} {p : PyData} {xs : List PyData} (h : fits bs p = true) (h' : ∀ x ∈ xs, fits cs x = true) (hb : bs.length ≤ 60 := by decide) : inOk p xs = true := by
  unfold inOk
  rw [fits_nodic h, fits_plain h, nodicAll_iff.mpr fun x hx => fits_nodic (h' x hx), plainAll_iff.mpr fun x hx => fits_plain (h' x hx)]
  have := fits_depth h
  simp; omega
mutual
theorem eqv_eq : ∀ {p q : PyData} {bs cs : List Nat}, fits bs p = true → fits cs q = true → PyData.eqv p q = true → p = q
  | .int i, q, bs, cs, h, h', e => by cases q <;> simp [fits, PyData.eqv] at h' e; rw [e]
  | .tuple xs, q, bs, cs, h, h', e => by
    cases bs with
    | nil => simp [fits] at h
    | cons b bs =>
      cases q with
      | tuple ys =>
        cases cs with
        | nil => simp [fits] at h'
        | cons c cs =>
          simp only [fits, Bool.and_eq_true, List.all_eq_true] at h h'
          simp only [PyData.eqv] at e
          rw [eqvAll_eq h.2 h'.2 e]
      | _ => simp [PyData.eqv] at e
  | .list xs, q, bs, cs, h, h', e => by
    cases bs with
    | nil => simp [fits] at h
    | cons b bs =>
      cases q with
      | list ys =>
        cases cs with
        | nil => simp [fits] at h'
        | cons c cs =>
          simp only [fits, Bool.and_eq_true, List.all_eq_true] at h h'
          simp only [PyData.eqv] at e
          rw [eqvAll_eq h.2 h'.2 e]
      | _ => simp [PyData.eqv] at e
  | .none, q, bs, cs, h, h', e => by cases bs <;> simp [fits] at h
  | .bool _, q, bs, cs, h, h', e => by cases bs <;> simp [fits] at h
  | .str _, q, bs, cs, h, h', e => by cases bs <;> simp [fits] at h
  | .dict _, q, bs, cs, h, h', e => by cases bs <;> simp [fits] at h
theorem eqvAll_eq : ∀ {xs ys : List PyData} {bs cs : List Nat}, (∀ x ∈ xs, fits bs x = true) → (∀ x ∈ ys, fits cs x = true) → PyData.eqvAll xs ys = true → xs = ys
  | [], ys, bs, cs, h, h', e => by cases ys <;> simp [PyData.eqvAll] at e; rfl
  | x :: xs, ys, bs, cs, h, h', e => by
    cases ys with
    | nil => simp [PyData.eqvAll] at e
    | cons y ys =>
      simp only [PyData.eqvAll, Bool.and_eq_true] at e
      rw [eqv_eq (h x (by simp)) (h' y (by simp)) e.1, eqvAll_eq (fun z hz => h z (by simp [hz])) (fun z hz => h' z (by simp [hz])) e.2]
end
theorem eqv_iff {p q : PyData} {bs cs : List Nat} (h : fits bs p = true) (h' : fits cs q = true) : PyData.eqv p q = true ↔ p = q :=
  ⟨eqv_eq h h', fun e => by rw [e]; exact SeqAt.eqv_refl_plain _ (fits_plain h')⟩
/-! ### texts -/
theorem fitsT_ind {C : List Nat → PyData → Prop} (h0 : ∀ bs p, (p = .none ∨ (∃ b, p = .bool b) ∨ ∃ i, p = .int i) → C bs p) (h2 : ∀ b bs xs, (∀ x ∈ xs, C bs x) → C (b :: bs) (.tuple xs)) (h3 : ∀ b bs xs, (∀ x ∈ xs, C bs x) → C (b :: bs) (.list xs)) :
    ∀ {bs : List Nat} {p : PyData}, fitsT bs p = true → C bs p := by
  intro bs
  induction bs with
  | nil =>
    intro p h
    cases p with
    | int i => exact h0 _ _ (.inr (.inr ⟨i, rfl⟩))
    | bool i => exact h0 _ _ (.inr (.inl ⟨i, rfl⟩))
    | none => exact h0 _ _ (.inl rfl)
    | _ => simp [fitsT] at h
  | cons b bs ih =>
    intro p h
    cases p with
    | int i => exact h0 _ _ (.inr (.inr ⟨i, rfl⟩))
    | bool i => exact h0 _ _ (.inr (.inl ⟨i, rfl⟩))
    | none => exact h0 _ _ (.inl rfl)
    | tuple xs =>
      simp only [fitsT, Bool.and_eq_true, decide_eq_true_eq, List.all_eq_true] at h
      exact h2 b bs xs fun x hx => ih (h.2 x hx)
    | list xs =>
      simp only [fitsT, Bool.and_eq_true, decide_eq_true_eq, List.all_eq_true] at h
      exact h3 b bs xs fun x hx => ih (h.2 x hx)
    | _ => simp [fitsT] at h
theorem fitsT_nodic {bs : List Nat} {p : PyData} (h : fitsT bs p = true) : nodic p = true :=
  fitsT_ind (C := fun _ p => nodic p = true) (fun _ p h => by rcases h with rfl | ⟨b, rfl⟩ | ⟨b, rfl⟩ <;> simp [nodic]) (fun _ _ xs h => by simpa [nodic] using nodicAll_iff.mpr h) (fun _ _ xs h => by simpa [nodic] using nodicAll_iff.mpr h) h
theorem fitsT_noDict {bs : List Nat} {p : PyData} (h : fitsT bs p = true) : p.hasDict = false :=
  fitsT_ind (C := fun _ p => p.hasDict = false) (fun _ p h => by rcases h with rfl | ⟨b, rfl⟩ | ⟨b, rfl⟩ <;> simp [PyData.hasDict]) (fun _ _ xs h => by simpa [PyData.hasDict] using hasDictAll_iff.mpr h) (fun _ _ xs h => by simpa [PyData.hasDict] using hasDictAll_iff.mpr h) h
theorem fitsT_depth {bs : List Nat} {p : PyData} (h : fitsT bs p = true) : p.depth ≤ bs.length :=
  fitsT_ind (C := fun bs p => p.depth ≤ bs.length) (fun _ p h => by rcases h with rfl | ⟨b, rfl⟩ | ⟨b, rfl⟩ <;> simp [PyData.depth]) (fun _ bs xs h => by simpa [PyData.depth] using depthAll_le h) (fun _ _ xs h => by simpa [PyData.depth] using depthAll_le h) h
def cap : List Nat → Nat
  | [] => 5
  | b :: bs => 5 + b * (cap bs + 2)
theorem cap_ge (bs : List Nat) : 5 ≤ cap bs := by cases bs <;> simp [cap]
theorem int_len : ∀ n : Nat, n < 1000 → ((toString (n : Int) : String) : Str).length ≤ 4 := by
  decide +kernel
theorem textFrom_le : ∀ (ts : List Str) (k : Nat) (acc : Str), (textFrom k acc ts).length ≤ acc.length + piled ts
  | [], k, acc => by simp [textFrom, piled]
  | t :: r, k, acc => by
    have := textFrom_le r (k + 1) (acc ++ (if k > 0 then ", " else "" : String) ++ t)
    have e : (acc ++ (if k > 0 then ", " else "" : String) ++ t).length = acc.length + (if k > 0 then 2 else 0) + t.length := by
      rw [strLen_append, strLen_append]
      split <;> rfl
    rw [e] at this
    rw [piled_cons]
    show (textFrom (k + 1) _ r).length ≤ _
    have d : (if k > 0 then 2 else 0 : Nat) ≤ 2 := by split <;> omega
    omega
theorem listText_le (ts : List Str) : (listText ts).length ≤ 2 + piled ts := by
  unfold listText
  rw [strLen_append]
  have := textFrom_le ts 0 "["
  have e1 : ((("[" : String) : Str)).length = 1 := rfl
  have e2 : ((("]" : String) : Str)).length = 1 := rfl
  omega
theorem tupleText_le (ts : List Str) : (tupleText ts).length ≤ 3 + piled ts := by
  unfold tupleText
  rw [strLen_append, strLen_append]
  have e1 : ((("(" : String) : Str)).length = 1 := rfl
  have e3 : (((if ts.length == 1 then ",)" else ")" : String) : Str)).length ≤ 2 := by split <;> decide
  rw [e1]
  by_cases h : ts = []
  · subst h
    have : (Str.join ", " []).length = 0 := rfl
    omega
  · have := join_length_add ts h
    omega
theorem shown_len : ∀ {bs : List Nat} {p : PyData}, fitsT bs p = true → p.showable = true ∧ p.shown.length ≤ cap bs := by
  have hi : ∀ (bs : List Nat) (i : Int), fitsT bs (.int i) = true → (PyData.int i).showable = true ∧ (PyData.int i).shown.length ≤ cap bs := by
    intro bs i h
    have h : 0 ≤ i ∧ i < 1000 := by cases bs <;> simpa [fitsT] using h
    obtain ⟨n, rfl⟩ := Int.eq_ofNat_of_zero_le h.1
    have hn : n < 1000 := by omega
    refine ⟨?_, ?_⟩
    · simp only [PyData.showable, Int.natAbs_natCast, decide_eq_true_eq]
      by_cases h0 : n = 0
      · subst h0; decide
      · exact (Nat.log2_lt h0).mpr (Nat.lt_of_lt_of_le hn (Nat.le_trans (by decide : 1000 ≤ 2 ^ 10) (Nat.pow_le_pow_right (by decide) (by decide))))
    · have := int_len n hn
      have := cap_ge bs
      simp only [PyData.shown]
      omega
  have hb : ∀ (bs : List Nat) (b : Bool), (PyData.bool b).showable = true ∧ (PyData.bool b).shown.length ≤ cap bs := by
    intro bs b
    have := cap_ge bs
    refine ⟨by simp [PyData.showable], ?_⟩
    have : (PyData.bool b).shown.length ≤ 5 := by cases b <;> decide
    omega
  have h0 : ∀ (bs : List Nat), (PyData.none).showable = true ∧ (PyData.none).shown.length ≤ cap bs := by
    intro bs
    have := cap_ge bs
    refine ⟨by simp [PyData.showable], ?_⟩
    have : (PyData.none).shown.length ≤ 5 := by decide
    omega
  intro bs
  induction bs with
  | nil =>
    intro p h
    cases p with
    | int i => exact hi _ i h
    | bool b => exact hb _ b
    | none => exact h0 _
    | _ => simp [fitsT] at h
  | cons b bs ih =>
    intro p h
    have key : ∀ xs : List PyData, (∀ x ∈ xs, fitsT bs x = true) → PyData.showableAll xs = true ∧ piled (PyData.shownAll xs) ≤ xs.length * (cap bs + 2) := by
      intro xs
      intro h
      induction xs with
      | nil => simp [PyData.showableAll, PyData.shownAll, piled]
      | cons x xs ih2 =>
        obtain ⟨a1, a2⟩ := ih (h x (by simp))
        obtain ⟨b1, b2⟩ := ih2 fun y hy => h y (by simp [hy])
        refine ⟨by simp [PyData.showableAll, a1, b1], ?_⟩
        simp only [PyData.shownAll, List.length_cons, Nat.add_mul, piled_cons] at b2 ⊢
        omega
    cases p with
    | int i => exact hi _ i h
    | bool b => exact hb _ b
    | none => exact h0 _
    | tuple xs =>
      simp only [fitsT, Bool.and_eq_true, decide_eq_true_eq, List.all_eq_true] at h
      obtain ⟨k1, k2⟩ := key xs h.2
      refine ⟨by simpa [PyData.showable] using k1, ?_⟩
      have := Nat.mul_le_mul_right (cap bs + 2) h.1
      simp only [PyData.shown, cap]
      have := tupleText_le (PyData.shownAll xs)
      omega
    | list xs =>
      simp only [fitsT, Bool.and_eq_true, decide_eq_true_eq, List.all_eq_true] at h
      obtain ⟨k1, k2⟩ := key xs h.2
      refine ⟨by simpa [PyData.showable] using k1, ?_⟩
      have := Nat.mul_le_mul_right (cap bs + 2) h.1
      simp only [PyData.shown, cap]
      have := listText_le (PyData.shownAll xs)
      omega
    | _ => simp [fitsT] at h
theorem reprOk_of {bs : List Nat} {p : PyData} (h : fitsT bs p = true) (hb : bs.length ≤ 60 := by decide) (hc : cap bs ≤ 16777216 := by decide) : reprOk p = true := by
  obtain ⟨h1, h2⟩ := shown_len h
  have h3 := fitsT_depth h
  unfold reprOk
  rw [fitsT_nodic h, h1, fitsT_noDict h, sizeLine_eq]
  simp; omega
end KP


set_option Elab.async false
set_option linter.all false
set_option maxRecDepth 100000
/-! KX: how the data functions are evaluated. -/
namespace KP
open PySem PySem.Spec PyProof.Rows L2
section
variable {α β : Type}
@[simp] theorem bnd_ret (a : α) (k : α → M β) : bnd (ret a) k = k a := rfl
@[simp] theorem bnd_no (k : α → M β) : bnd no k = no := rfl
@[simp] theorem ofO_some (a : α) : ofO (some a) = ret a := rfl
@[simp] theorem ofO_none : ofO (none : Option α) = no := rfl
@[simp] theorem lift_ret (env : En) (a : α) (k : α → M (Fl × En)) : lift env (ret a) k = k a := rfl
@[simp] theorem lift_no (env : En) (k : α → M (Fl × En)) : lift env no k = no := rfl
@[simp] theorem noX_ret (a : α) : noX (ret a) = ret a := rfl
@[simp] theorem alone_ret (a : α) : alone (ret a) = ret a := rfl
theorem bnd_assoc {γ : Type} (m : M α) (f : α → M β) (g : β → M γ) : bnd (bnd m f) g = bnd m fun a => bnd (f a) g := by
  funext S
  unfold bnd
  cases m S <;> rfl
theorem ret_inj {a b : α} (h : ret a = ret b) : a = b := by
  have := congrFun h []
  simpa [ret] using this
end
section
variable (env : En) (f g : DF) (a b : DB) (i j : Nat)
@[simp] theorem vT_eq : vT i env = ofO ((lk env i).bind Sv.still) := rfl
@[simp] theorem vF_eq : vF i env = ofO ((lk env i).bind Sv.view) := rfl
@[simp] theorem kC_eq (p : PyData) : kC p env = ret (.d p) := rfl
@[simp] theorem c1_eq (h : Va → Option Va) : c1 h f env = bnd (f env) fun v => ofO (h v) := rfl
@[simp] theorem c2_eq (h : Va → Va → Option Va) : c2 h f g env = bnd (f env) fun v => bnd (g env) fun w => ofO (h v w) := rfl
@[simp] theorem cN_eq (h : List Va → Option Va) (fa : DFA) : cN h fa env = bnd (fa env) fun vs => ofO (h vs) := rfl
@[simp] theorem aNil_eq : aNil env = ret [] := rfl
@[simp] theorem aCons_eq (fs : DFA) : aCons f fs env = bnd (f env) fun v => bnd (fs env) fun vs => ret (v :: vs) := rfl
@[simp] theorem lk0 (x : Option Sv) (xs : En) : lk (x :: xs) 0 = x := by simp [lk]
@[simp] theorem lkS (x : Option Sv) (xs : En) (n : Nat) : lk (x :: xs) (n + 1) = lk xs n := by simp [lk]
@[simp] theorem still_d (p : PyData) : (Sv.d p).still = some (.d p) := rfl
@[simp] theorem still_c (n : Nat) : (Sv.c n).still = some (.c n) := rfl
@[simp] theorem still_s (ns : List Int) : (Sv.s ns).still = some (.s ns) := rfl
@[simp] theorem view_d (p : PyData) : (Sv.d p).view = some (.d p) := rfl
@[simp] theorem view_l1 (p : List PyData) : (Sv.l1 p).view = some (.d (.list p)) := rfl
@[simp] theorem view_l2 (p : List (List PyData)) : (Sv.l2 p).view = some (.d (.list (p.map PyData.list))) := rfl
@[simp] theorem view_dd (p : Dk) : (Sv.dd p).view = some (.d p.data) := rfl
@[simp] theorem view_c (n : Nat) : (Sv.c n).view = some (.c n) := rfl
@[simp] theorem view_s (ns : List Int) : (Sv.s ns).view = some (.s ns) := rfl
@[simp] theorem toB_eq (k : Bool) : toB (.d (.bool k)) = some k := rfl
@[simp] theorem toB_vB (k : Bool) : toB (vB k) = some k := rfl
@[simp] theorem bV_eq : bV f env = bnd (f env) fun v => ofO (toB v) := rfl
@[simp] theorem bAnd_eq : bAnd a b env = bnd (a env) fun k => if k = true then b env else ret false := rfl
@[simp] theorem bOr_eq : bOr a b env = bnd (a env) fun k => if k = true then ret true else b env := rfl
@[simp] theorem bNot_eq : bNot a env = bnd (a env) fun k => ret (!k) := rfl
@[simp] theorem bYes_eq : bYes env = ret true := rfl
@[simp] theorem eAnd_eq : eAnd f g env = bnd (f env) fun v => bnd (ofO (toB v)) fun k => if k = true then g env else ret (vB false) := rfl
@[simp] theorem eOr_eq : eOr f g env = bnd (f env) fun v => bnd (ofO (toB v)) fun k => if k = true then ret (vB true) else g env := rfl
@[simp] theorem eNot_eq : eNot f env = bnd (f env) fun v => bnd (ofO (toB v)) fun k => ret (vB (!k)) := rfl
@[simp] theorem eIf_eq : eIf a f g env = bnd (a env) fun k => if k = true then f env else g env := rfl
@[simp] theorem eChain_eq (h h' : Va → Va → Option Va) (e : DF) : eChain h h' f g e env = bnd (f env) fun x => bnd (g env) fun y => bnd (ofO (h x y)) fun z => bnd (ofO (toB z)) fun k => if k = true then bnd (e env) fun w => ofO (h' y w) else ret (vB false) := rfl
@[simp] theorem eCall_eq (F : List Va → M Va) (fa : DFA) : eCall F fa env = bnd (fa env) F := rfl
@[simp] theorem isD_d (p : PyData) : isD (.d p) = true := rfl
theorem eCallA_of {fl : Bool} {F : List Va → M Va} {fa : DFA} {vs : List Va} {p : PyData} (h1 : fa env = ret vs) (h2 : vs.all isD = true) (h3 : F vs = ret (.d p)) : eCallA fl F fa env = ret (.d p) := by
  unfold eCallA
  rw [h1, bnd_ret, if_pos h2, h3]
  cases fl <;> rfl
@[simp] theorem lSeq_eq : lSeq f env = bnd (f env) fun v => ofO (seqOf v) := rfl
@[simp] theorem lN_eq (h : List Va → Option (List PyData)) (fa : DFA) : lN h fa env = bnd (fa env) fun vs => ofO (h vs) := rfl
@[simp] theorem seqOf_l (ps : List PyData) : seqOf (.d (.list ps)) = some ps := rfl
@[simp] theorem seqOf_t (ps : List PyData) : seqOf (.d (.tuple ps)) = some ps := rfl
@[simp] theorem fD_eq (h : DLs) : fD h env = bnd (h env) fun ps => ret (.d (.list ps)) := rfl
@[simp] theorem fLst_eq (fs : DFA) : fLst fs env = bnd (fs env) fun vs => bnd (ofO (toDs vs)) fun ps => if ps.length ≤ sizeLine then ret ps else no := rfl
@[simp] theorem fList_eq : fList f env = bnd (f env) fun v => ofO (seqOf v) := rfl
@[simp] theorem fCat_eq : fCat f g env = bnd (f env) fun v => bnd (ofO v.asLst) fun a => bnd (g env) fun w => bnd (ofO w.asLst) fun b => if a.length + b.length ≤ sizeLine then ret (a ++ b) else no := rfl
@[simp] theorem fCatL_eq (f g : DLs) : fCatL f g env = bnd (f env) fun a => bnd (g env) fun b => if a.length + b.length ≤ sizeLine then ret (a ++ b) else no := rfl
@[simp] theorem nmL_eq : nmL i env = ofO ((lk env i).bind Sv.asL1) := rfl
@[simp] theorem dtL_eq : dtL f env = bnd (f env) fun v => ofO v.asLst := rfl
@[simp] theorem toDs_nil : toDs [] = some [] := rfl
@[simp] theorem toDs_cons (p : PyData) (vs : List Va) : toDs (.d p :: vs) = (toDs vs).map (p :: ·) := rfl
@[simp] theorem oE_eq : oE f env = bnd (f env) fun v => ret (svOf v) := rfl
@[simp] theorem oF_eq (h : DLs) : oF h env = bnd (h env) fun ps => ret (.l1 ps) := rfl
@[simp] theorem oD_eq : oD env = ret (.dd (.k [])) := rfl
@[simp] theorem svOf_d (p : PyData) : svOf (.d p) = .d p := rfl
@[simp] theorem svOf_c (n : Nat) : svOf (.c n) = .c n := rfl
@[simp] theorem svOf_s (n : List Int) : svOf (.s n) = .s n := rfl
end
section
variable (env : En) (f g : SF) (e : DF) (c : DB) (i j : Nat)
@[simp] theorem sNil_eq : sNil env = ret (.nx, env) := rfl
@[simp] theorem sSeq_eq : sSeq f g env = bnd (f env) fun p => match p.1 with
  | .nx => g p.2
  | _ => ret p := rfl
@[simp] theorem sExpr_eq : sExpr e env = lift env (e env) fun _ => ret (.nx, env) := rfl
@[simp] theorem sRet_eq : sRet e env = lift env (e env) fun v => ret (.rt v, env) := rfl
@[simp] theorem sIf_eq : sIf c f g env = lift env (c env) fun b => if b = true then f env else g env := rfl
@[simp] theorem sAsg_eq (t : TF) : sAsg e t env = lift env (e env) fun v => bnd (ofO (t v env)) fun env' => ret (.nx, env') := rfl
@[simp] theorem gN_eq (v : Va) : gN i v env = if i < env.length then some (env.set i (some (svOf v))) else none := rfl
@[simp] theorem gT_eq (ts : List TF) (ps : List PyData) : gT ts (.d (.tuple ps)) env = gTs ts ps env := rfl
@[simp] theorem gTs_nil : gTs [] [] env = some env := rfl
@[simp] theorem gTs_cons (t : TF) (ts : List TF) (p : PyData) (ps : List PyData) : gTs (t :: ts) (p :: ps) env = (t (.d p) env).bind fun env' => gTs ts ps env' := rfl
@[simp] theorem sOwn_eq (h : DLs) : sOwn h i env = lift env (h env) fun ps => if i < env.length then ret (.nx, env.set i (some (.l1 ps))) else no := rfl
@[simp] theorem sPar_eq (x y : DO) : sPar x y i j env = lift env (x env) fun sv => lift env (y env) fun sw => if i < env.length ∧ j < env.length then ret (.nx, (env.set i (some sv)).set j (some sw)) else no := rfl
@[simp] theorem sSetO_eq (x : DO) : sSetO x i env = lift env (x env) fun sv => if i < env.length then ret (.nx, env.set i (some sv)) else no := rfl
@[simp] theorem sApp_eq : sApp i e env = bnd (ofO ((lk env i).bind Sv.asL1)) fun xs => lift env (e env) fun v => bnd (ofO v.asD) fun p => if xs.length < sizeLine then ret (.nx, env.set i (some (.l1 (xs ++ [p])))) else no := rfl
@[simp] theorem asL1_eq (xs : List PyData) : (Sv.l1 xs).asL1 = some xs := rfl
@[simp] theorem asL2_eq (xs : List (List PyData)) : (Sv.l2 xs).asL2 = some xs := rfl
@[simp] theorem asDD_eq (k : Dk) : (Sv.dd k).asDD = some k := rfl
@[simp] theorem asD_eq (p : PyData) : (Va.d p).asD = some p := rfl
@[simp] theorem asI_eq (p : Int) : (Va.d (.int p)).asI = some p := rfl
@[simp] theorem asLst_eq (p : List PyData) : (Va.d (.list p)).asLst = some p := rfl
@[simp] theorem sFor_eq (h : DL) (t : TF) : sFor h t f env = lift env (h env) fun ps => loopL t f ps env := rfl
@[simp] theorem sSetd_eq (fk fx : DF) : sSetd i fk fx env = bnd (ofO ((lk env i).bind Sv.asDD)) fun d => lift env (fk env) fun kv => bnd (ofO kv.asD) fun k => lift env (fx env) fun xv => bnd (ofO xv.asD) fun x => bnd (ofO (d.setd k x)) fun r => ret (.nx, env.set i (some (.dd r.2))) := rfl
@[simp] theorem stillE_nil : stillE [] = [] := rfl
@[simp] theorem stillE_cons (o : Option Sv) (r : En) : stillE (o :: r) = o.bind Sv.st :: stillE r := rfl
@[simp] theorem viewE_nil : viewE [] = [] := rfl
@[simp] theorem viewE_cons (o : Option Sv) (r : En) : viewE (o :: r) = o.bind Sv.fz :: viewE r := rfl
@[simp] theorem wipeE_nil : wipeE env [] = env := rfl
@[simp] theorem wipeE_cons (v : Nat) (vs : List Nat) : wipeE env (v :: vs) = (wipeE env vs).set v none := rfl
@[simp] theorem st_d (p : PyData) : (Sv.d p).st = some (.d p) := rfl
@[simp] theorem st_c (n : Nat) : (Sv.c n).st = some (.c n) := rfl
@[simp] theorem st_s (n : List Int) : (Sv.s n).st = some (.s n) := rfl
@[simp] theorem st_l1 (n : List PyData) : (Sv.l1 n).st = none := rfl
@[simp] theorem st_l2 (n : List (List PyData)) : (Sv.l2 n).st = none := rfl
@[simp] theorem st_dd (n : Dk) : (Sv.dd n).st = none := rfl
@[simp] theorem fz_d (p : PyData) : (Sv.d p).fz = some (.d p) := rfl
@[simp] theorem fz_c (n : Nat) : (Sv.c n).fz = none := rfl
@[simp] theorem fz_s (n : List Int) : (Sv.s n).fz = some (.s n) := rfl
@[simp] theorem fz_l1 (n : List PyData) : (Sv.l1 n).fz = some (.d (.list n)) := rfl
@[simp] theorem fz_l2 (n : List (List PyData)) : (Sv.l2 n).fz = some (.d (.list (n.map PyData.list))) := rfl
@[simp] theorem fz_dd (n : Dk) : (Sv.dd n).fz = some (.d n.data) := rfl
end
/-! ### operations on numbers -/
@[simp] theorem gII_eq (h : Int → Int → Option PyData) (i j : Int) : gII h (.d (.int i)) (.d (.int j)) = (h i j).map Va.d := rfl
@[simp] theorem gDD_eq (h : PyData → PyData → Option PyData) (p q : PyData) : gDD h (.d p) (.d q) = (h p q).map Va.d := rfl
@[simp] theorem gSub_eq (i j : Int) : gSub (.d (.int i)) (.d (.int j)) = some (.d (.int (i - j))) := rfl
@[simp] theorem gLt_eq (i j : Int) : gLt (.d (.int i)) (.d (.int j)) = some (.d (.bool (decide (i < j)))) := rfl
@[simp] theorem gLe_eq (i j : Int) : gLe (.d (.int i)) (.d (.int j)) = some (.d (.bool (decide (i ≤ j)))) := rfl
@[simp] theorem gGt_eq (i j : Int) : gGt (.d (.int i)) (.d (.int j)) = some (.d (.bool (decide (j < i)))) := rfl
@[simp] theorem gGe_eq (i j : Int) : gGe (.d (.int i)) (.d (.int j)) = some (.d (.bool (decide (j ≤ i)))) := rfl
@[simp] theorem gAdd_int (i j : Int) : gAdd (.d (.int i)) (.d (.int j)) = some (.d (.int (i + j))) := rfl
theorem gMod_pos {i j : Int} (h : 0 < j) : gMod (.d (.int i)) (.d (.int j)) = some (.d (.int (i % j))) := by simp [gMod, h]
theorem gDiv_pos {i j : Int} (h : 0 < j) (h2 : j < 1073741824) : gDiv (.d (.int i)) (.d (.int j)) = some (.d (.int (i / j))) := by simp [gDiv, h, h2]
theorem gMul_int {i j : Int} (h : (-(2 ^ 64) < i ∧ i < 2 ^ 64) ∨ (-(2 ^ 64) < j ∧ j < 2 ^ 64)) : gMul (.d (.int i)) (.d (.int j)) = some (.d (.int (i * j))) := by
  have : mulOk i j = true := by
    unfold mulOk
    simp only [Bool.or_eq_true, Bool.and_eq_true, decide_eq_true_eq]
    exact h
  simp [gMul, hMulA, hMul, this]
@[simp] theorem hInt_eq (i : Int) : on1 hInt [.d (.int i)] = some (.d (.int i)) := rfl
@[simp] theorem hTup_l (xs : List PyData) : on1 hTup [.d (.list xs)] = some (.d (.tuple xs)) := rfl
@[simp] theorem hTup_t (xs : List PyData) : on1 hTup [.d (.tuple xs)] = some (.d (.tuple xs)) := rfl
@[simp] theorem hLen_l (xs : List PyData) : on1 hLenA [.d (.list xs)] = some (.d (.int xs.length)) := rfl
@[simp] theorem hLen_t (xs : List PyData) : on1 hLenA [.d (.tuple xs)] = some (.d (.int xs.length)) := rfl
@[simp] theorem hLen_s (xs : List Int) : on1 hLenA [.s xs] = some (.d (.int xs.length)) := rfl
@[simp] theorem hLen_d (xs : List (PyData × PyData)) : on1 hLenA [.d (.dict xs)] = some (.d (.int xs.length)) := rfl
@[simp] theorem gMax2_eq (i j : Int) : on2 gMax2 [.d (.int i), .d (.int j)] = some (.d (.int (max i j))) := by
  simp only [on2, gMax2, gII_eq, Option.map_some, Int.max_def]
  congr 3
  split <;> split <;> omega
@[simp] theorem gMin2_eq (i j : Int) : on2 gMin2 [.d (.int i), .d (.int j)] = some (.d (.int (min i j))) := by
  simp only [on2, gMin2, gII_eq, Option.map_some, Int.min_def]
  congr 3
  split <;> split <;> omega
@[simp] theorem immV_int (i : Int) : immV (.d (.int i)) = some (.d (.int i)) := rfl
theorem immV_of {p : PyData} (h : imm p = true) : immV (.d p) = some (.d p) := by simp [immV, h]
theorem gTupD_of (ps : List PyData) (h : ps.length ≤ sizeLine) : gTupD (ps.map Va.d) = some (.d (.tuple ps)) := by
  have : toDs (ps.map Va.d) = some ps := by
    induction ps with
    | nil => rfl
    | cons p ps ih => simp [toDs, ih (by simp at h; omega)]
  simp [gTupD, this, h]
@[simp] theorem gTup0 : gTupD [] = some (.d (.tuple [])) := rfl
@[simp] theorem gTup1 (a : PyData) : gTupD [.d a] = some (.d (.tuple [a])) := gTupD_of [a] (by show 1 ≤ sizeLine; decide)
@[simp] theorem gTup2 (a b : PyData) : gTupD [.d a, .d b] = some (.d (.tuple [a, b])) := gTupD_of [a, b] (by show 2 ≤ sizeLine; decide)
@[simp] theorem gTup3 (a b c : PyData) : gTupD [.d a, .d b, .d c] = some (.d (.tuple [a, b, c])) := gTupD_of [a, b, c] (by show 3 ≤ sizeLine; decide)
@[simp] theorem gTup4 (a b c d : PyData) : gTupD [.d a, .d b, .d c, .d d] = some (.d (.tuple [a, b, c, d])) := gTupD_of [a, b, c, d] (by show 4 ≤ sizeLine; decide)
theorem gLstD_of (ps : List PyData) (h : ps.length ≤ sizeLine) : gLstD (ps.map Va.d) = some (.d (.list ps)) := by
  have : toDs (ps.map Va.d) = some ps := by
    induction ps with
    | nil => rfl
    | cons p ps ih => simp [toDs, ih (by simp at h; omega)]
  simp [gLstD, this, h]
@[simp] theorem gLst0 : gLstD [] = some (.d (.list [])) := rfl
@[simp] theorem gLst1 (a : PyData) : gLstD [.d a] = some (.d (.list [a])) := gLstD_of [a] (by show 1 ≤ sizeLine; decide)
@[simp] theorem gLst2 (a b : PyData) : gLstD [.d a, .d b] = some (.d (.list [a, b])) := gLstD_of [a, b] (by show 2 ≤ sizeLine; decide)
@[simp] theorem gLst3 (a b c : PyData) : gLstD [.d a, .d b, .d c] = some (.d (.list [a, b, c])) := gLstD_of [a, b, c] (by show 3 ≤ sizeLine; decide)
@[simp] theorem gLst4 (a b c d : PyData) : gLstD [.d a, .d b, .d c, .d d] = some (.d (.list [a, b, c, d])) := gLstD_of [a, b, c, d] (by show 4 ≤ sizeLine; decide)
/-! ### places -/
theorem atI_nat {α : Type} {xs : List α} {n : Nat} {x : α} (h : xs[n]? = some x) : atI xs (n : Int) = some x := by
  have hn : n < xs.length := (List.getElem?_eq_some_iff.mp h).1
  have : ixN xs.length (n : Int) = some n := by
    unfold ixN
    rw [if_pos (by omega), if_pos (by omega)]; simp
  simp [atI, this, h]
theorem gIx_l {xs : List PyData} {n : Nat} {x : PyData} (h : xs[n]? = some x) : gIx (.d (.list xs)) (.d (.int n)) = some (.d x) := by simp [gIx, hIx, atI_nat h]
theorem gIx_t {xs : List PyData} {n : Nat} {x : PyData} (h : xs[n]? = some x) : gIx (.d (.tuple xs)) (.d (.int n)) = some (.d x) := by simp [gIx, hIx, atI_nat h]
@[simp] theorem gIx_t0 (x : PyData) (xs : List PyData) : gIx (.d (.tuple (x :: xs))) (.d (.int 0)) = some (.d x) := gIx_t (n := 0) rfl
@[simp] theorem gIx_t1 (x y : PyData) (xs : List PyData) : gIx (.d (.tuple (x :: y :: xs))) (.d (.int 1)) = some (.d y) := gIx_t (n := 1) rfl
@[simp] theorem gIx_l0 (x : PyData) (xs : List PyData) : gIx (.d (.list (x :: xs))) (.d (.int 0)) = some (.d x) := gIx_l (n := 0) rfl
@[simp] theorem gIx_l1 (x y : PyData) (xs : List PyData) : gIx (.d (.list (x :: y :: xs))) (.d (.int 1)) = some (.d y) := gIx_l (n := 1) rfl
/-! ### numbers that are counts -/
abbrev nI (n : Nat) : PyData := .int (n : Int)
theorem rng_nat (n : Nat) (h : n < 2 ^ 62) : gRng1 [.d (.int (n : Int))] = some ((List.range n).map nI) := by
  have : rngOk (n : Int) = true := by
    simp only [rngOk, Bool.and_eq_true, decide_eq_true_eq]
    omega
  simp only [gRng1, this, if_true, rngL]
  simp
theorem rng_neg (i : Int) (h : i ≤ 0) (h2 : -(2 ^ 62) ≤ i) : gRng1 [.d (.int i)] = some [] := by
  have : rngOk i = true := by
    simp only [rngOk, Bool.and_eq_true, decide_eq_true_eq]
    omega
  have e : (i - 0).toNat = 0 := by omega
  simp [gRng1, this, if_true, rngL]
  omega
theorem enum_l {α : Type} (f : α → PyData) (xs : List α) : gEnum [.d (.list (xs.map f))] = some (xs.zipIdx.map fun q => .tuple [nI q.2, f q.1]) := by
  simp [gEnum, enumL, List.mapIdx_eq_zipIdx_map, List.zipIdx_map, Function.comp_def]
theorem enum_t {α : Type} (f : α → PyData) (xs : List α) : gEnum [.d (.tuple (xs.map f))] = some (xs.zipIdx.map fun q => .tuple [nI q.2, f q.1]) := by
  simp [gEnum, enumL, List.mapIdx_eq_zipIdx_map, List.zipIdx_map, Function.comp_def]
/-! ### comparisons -/
theorem strEq_fits {bs : List Nat} {p q : PyData} (h : fits bs p = true) : strEq p q = none := by
  cases p with
  | str x => cases bs <;> simp [fits] at h
  | _ => rfl
theorem gEq_of {bs cs : List Nat} {p q : PyData} (h : fits bs p = true) (h' : fits cs q = true) (hb : bs.length ≤ 60 := by decide) (hc : cs.length ≤ 60 := by decide) {k : Bool} (hk : k = true ↔ p = q) : gEq (.d p) (.d q) = some (.d (.bool k)) := by
  have e : PyData.eqv p q = k := by
    rw [Bool.eq_iff_iff, eqv_iff h h', hk]
  simp [gEq, hEq, strEq_fits h, eqOk_of h h' hb hc, e]
theorem gNe_of {bs cs : List Nat} {p q : PyData} (h : fits bs p = true) (h' : fits cs q = true) (hb : bs.length ≤ 60 := by decide) (hc : cs.length ≤ 60 := by decide) {k : Bool} (hk : k = true ↔ p = q) : gNe (.d p) (.d q) = some (.d (.bool (!k))) := by
  have e : PyData.eqv p q = k := by
    rw [Bool.eq_iff_iff, eqv_iff h h', hk]
  simp [gNe, hEq, strEq_fits h, eqOk_of h h' hb hc, e]
@[simp] theorem gEq_int (i j : Int) : gEq (.d (.int i)) (.d (.int j)) = some (.d (.bool (decide (i = j)))) := gEq_of (bs := []) (cs := []) rfl rfl (by decide) (by decide) (by simp)
@[simp] theorem gNe_int (i j : Int) : gNe (.d (.int i)) (.d (.int j)) = some (.d (.bool (!decide (i = j)))) := gNe_of (bs := []) (cs := []) rfl rfl (by decide) (by decide) (by simp)
/-! ### loops and comprehensions -/
section
variable {α : Type} {t : TF} {body : SF} {c : DB} {e : DF} {f g : α → PyData} {env : En}
theorem loop_pure {xs : List α} {env : En} (I : List α → En → Prop) (h0 : I [] env) (hs : ∀ done x rest env, xs = done ++ x :: rest → I done env → ∃ env', bnd (ofO (t (.d (f x)) env)) body = ret (.nx, env') ∧ I (done ++ [x]) env') :
    ∃ env', loopL t body (xs.map f) env = ret (.nx, env') ∧ I xs env' := by
  suffices H : ∀ (rest done : List α) (env : En), xs = done ++ rest → I done env → ∃ env', loopL t body (rest.map f) env = ret (.nx, env') ∧ I xs env' from H xs [] env rfl h0
  intro rest
  induction rest with
  | nil => intro done env e h; rw [List.append_nil] at e; exact ⟨env, rfl, e ▸ h⟩
  | cons x rest ih =>
    intro done env e h
    obtain ⟨env1, h1, h2⟩ := hs done x rest env e h
    obtain ⟨env2, h3, h4⟩ := ih (done ++ [x]) env1 (by rw [e]; simp) h2
    refine ⟨env2, ?_, h4⟩
    rw [List.map_cons]
    show bnd (ofO (t (.d (f x)) env)) (fun env1 => bnd (body env1) _) = _
    rw [← bnd_assoc, h1]
    exact h3
theorem loop_sat {xs : List α} {env : En} {S : Sto} (I : List α → En → Sto → Prop) (h0 : I [] env S) (hs : ∀ done x rest env S, xs = done ++ x :: rest → I done env S → (bnd (ofO (t (.d (f x)) env)) body S).sat (fun r S' => r.1 = .nx ∧ I (done ++ [x]) r.2 S') (fun _ _ => False)) :
    (loopL t body (xs.map f) env S).sat (fun r S' => r.1 = .nx ∧ I xs r.2 S') (fun _ _ => False) := by
  suffices H : ∀ (rest done : List α) (env : En) (S : Sto), xs = done ++ rest → I done env S → (loopL t body (rest.map f) env S).sat (fun r S' => r.1 = .nx ∧ I xs r.2 S') (fun _ _ => False) from H xs [] env S rfl h0
  intro rest
  induction rest with
  | nil => intro done env S e h; rw [List.append_nil] at e; exact ⟨rfl, e ▸ h⟩
  | cons x rest ih =>
    intro done env S e h
    have h1 := hs done x rest env S e h
    rw [List.map_cons]
    show (bnd (ofO (t (.d (f x)) env)) (fun env1 => bnd (body env1) _) S).sat _ _
    rw [← bnd_assoc]
    refine sat_bnd.mpr (h1.mono (fun r S1 q => ?_) fun _ _ q => q)
    obtain ⟨fl, env1⟩ := r
    obtain ⟨q1, q2⟩ := q
    dsimp only at q1
    subst q1
    exact ih (done ++ [x]) env1 S1 (by rw [e]; simp) q2
theorem comp_pure {b : α → Bool} : ∀ {xs : List α}, (∀ x ∈ xs, ∃ env', t (.d (f x)) env = some env' ∧ c env' = ret (b x) ∧ (b x = true → e env' = ret (.d (g x)))) → compL t c e env (xs.map f) = ret ((xs.filter b).map g)
  | [], _ => rfl
  | x :: xs, h => by
    obtain ⟨env', h1, h2, h3⟩ := h x (by simp)
    have ih := comp_pure (xs := xs) fun y hy => h y (by simp [hy])
    show bnd (ofO (t (.d (f x)) env)) _ = _
    rw [h1, ofO_some, bnd_ret, h2, bnd_ret]
    by_cases hb : b x = true
    · rw [if_pos hb, h3 hb, bnd_ret, List.filter_cons_of_pos hb]
      show bnd (compL t c e env (xs.map f)) _ = _
      rw [ih]; rfl
    · rw [if_neg hb, ih, List.filter_cons_of_neg hb]
theorem lcA_of {h : DL} {vs : List Nat} {b : α → Bool} {xs : List α} {env : En} (h1 : h env = ret (xs.map f)) (hl : xs.length ≤ sizeLine) (h2 : ∀ x ∈ xs, ∃ env', t (.d (f x)) (wipeE (stillE env) vs) = some env' ∧ c env' = ret (b x) ∧ (b x = true → e env' = ret (.d (g x)))) :
    lcA h t c e vs env = ret ((xs.filter b).map g) := by
  unfold lcA
  rw [h1, bnd_ret, if_pos (by simpa using hl), comp_pure h2]; rfl
theorem lcB_of {h : DL} {vs : List Nat} {b : α → Bool} {xs : List α} {env : En} (h1 : h env = ret (xs.map f)) (hl : xs.length ≤ sizeLine) (h2 : ∀ x ∈ xs, ∃ env', t (.d (f x)) (viewE (wipeE env vs)) = some env' ∧ c env' = ret (b x) ∧ (b x = true → e env' = ret (.d (g x)))) (hi : ∀ x, imm (g x) = true) :
    lcB h t c e vs env = ret ((xs.filter b).map g) := by
  unfold lcB
  rw [h1, bnd_ret, if_pos (by simpa using hl), comp_pure h2]
  show (if immAll _ = true then _ else _) = _
  rw [if_pos]
  rw [immAll_iff]
  intro p hp
  obtain ⟨x, _, rfl⟩ := List.mem_map.mp hp
  exact hi x
theorem lcC_of {h : DL} {vs : List Nat} {b : α → Bool} {xs : List α} {env : En} (h1 : h env = ret (xs.map f)) (hl : xs.length ≤ sizeLine) (h2 : ∀ x ∈ xs, ∃ env', t (.d (f x)) (viewE (wipeE env vs)) = some env' ∧ c env' = ret (b x) ∧ (b x = true → e env' = ret (.d (g x)))) :
    lcC h t c e vs env = ret (.d (.list ((xs.filter b).map g))) := by
  unfold lcC
  rw [h1, bnd_ret, if_pos (by simpa using hl), comp_pure h2]; rfl
/-- with a store -/
theorem comp_sat {β : Type} {q : β → PyData} : ∀ {xs : List α} {S : Sto} (I : List β → Sto → Prop) (acc : List β), I acc S → (∀ x ∈ xs, ∀ acc S, I acc S → ∃ env', t (.d (f x)) env = some env' ∧ c env' = ret true ∧ (e env' S).sat (fun v S' => ∃ y, v = .d (q y) ∧ I (acc ++ [y]) S') (fun _ _ => False)) →
    (compL t c e env (xs.map f) S).sat (fun ps S' => ∃ ys, ps = ys.map q ∧ ys.length = xs.length ∧ I (acc ++ ys) S') (fun _ _ => False)
  | [], S, I, acc, h0, _ => ⟨[], rfl, rfl, by simpa using h0⟩
  | x :: xs, S, I, acc, h0, h => by
    obtain ⟨env', h1, h2, h3⟩ := h x (by simp) acc S h0
    show (bnd (ofO (t (.d (f x)) env)) _ S).sat _ _
    rw [h1, ofO_some, bnd_ret, h2, bnd_ret, if_pos rfl]
    refine sat_bnd.mpr (h3.mono (fun v S1 z => ?_) fun _ _ q => q)
    obtain ⟨y, rfl, hy⟩ := z
    refine sat_bnd.mpr ((comp_sat I (acc ++ [y]) hy fun x hx => h x (by simp [hx])).mono (fun ps S2 z => ?_) fun _ _ q => q)
    obtain ⟨ys, rfl, hl, hI⟩ := z
    exact ⟨y :: ys, rfl, by simp [hl], by simpa using hI⟩
end
theorem noX_sat {α : Type} {m : M α} {S : Sto} {P : α → Sto → Prop} (h : (m S).sat P (fun _ _ => False)) : (noX m S).sat P (fun _ _ => False) := by
  unfold noX
  cases e : m S with
  | ok a S' => rw [e] at h; exact h
  | exc x S' => rw [e] at h; exact h.elim
  | stuck => rw [e] at h; exact h.elim
/-- a def's run, from its body's -/
theorem run_ret {n : Nat} {body : SF} {ds : List Va} {v : Va} {env' : En} (h : body (startE n ds) = ret (.rt v, env')) : noX (runF n body ds) = ret v := by
  funext S
  unfold noX runF
  rw [h]; rfl
theorem run_sat {n : Nat} {body : SF} {ds : List Va} {S : Sto} {P : Va → Sto → Prop} (h : (body (startE n ds) S).sat (fun r S' => ∃ v, r.1 = .rt v ∧ P v S') (fun _ _ => False)) : (noX (runF n body ds) S).sat P (fun _ _ => False) := by
  unfold noX runF
  cases e : body (startE n ds) S with
  | ok r S' =>
    rw [e] at h
    obtain ⟨v, h1, h2⟩ := h
    obtain ⟨fl, env'⟩ := r
    dsimp only at h1
    subst h1
    exact h2
  | exc x S' => rw [e] at h; exact h.elim
  | stuck => rw [e] at h; exact h.elim
end KP


set_option Elab.async false
set_option linter.all false
set_option maxRecDepth 100000
/-! KY: numbering by first places; plain Lean. -/
namespace KP
open PySem PySem.Spec PyProof.Rows L2
section
variable {α β : Type} [DecidableEq α] [DecidableEq β]
def fstep (fs : List α) (x : α) : List α := if x ∈ fs then fs else fs ++ [x]
def firsts (xs : List α) : List α := xs.foldl fstep []
def numb (xs : List α) : List Nat := xs.map fun x => (firsts xs).idxOf x
theorem firsts_snoc (xs : List α) (x : α) : firsts (xs ++ [x]) = fstep (firsts xs) x := by simp [firsts]
theorem mem_fstep {fs : List α} {x y : α} : y ∈ fstep fs x ↔ y ∈ fs ∨ y = x := by
  unfold fstep
  split
  · constructor
    · exact .inl
    · rintro (h | rfl)
      · exact h
      · assumption
  · simp
theorem list_snoc {C : List α → Prop} (h0 : C []) (h1 : ∀ xs x, C xs → C (xs ++ [x])) (xs : List α) : C xs := by
  suffices H : ∀ ys : List α, C ys.reverse by simpa using H xs.reverse
  intro ys
  induction ys with
  | nil => exact h0
  | cons y ys ih => rw [List.reverse_cons]; exact h1 _ _ ih
theorem mem_firsts {xs : List α} {x : α} : x ∈ firsts xs ↔ x ∈ xs := by
  induction xs using list_snoc with
  | h0 => simp [firsts]
  | h1 xs y ih => rw [firsts_snoc, mem_fstep, ih]; simp
theorem nodup_fstep {fs : List α} {x : α} (h : fs.Nodup) : (fstep fs x).Nodup := by
  unfold fstep
  split
  · exact h
  · rename_i hx
    rw [List.nodup_append]
    refine ⟨h, by simp, ?_⟩
    intro a ha b hb
    simp at hb
    subst hb
    intro e; subst e; exact hx ha
theorem nodup_firsts (xs : List α) : (firsts xs).Nodup := by
  induction xs using list_snoc with
  | h0 => simp [firsts]
  | h1 xs y ih => rw [firsts_snoc]; exact nodup_fstep ih
theorem idx_fstep {fs : List α} {x y : α} (h : y ∈ fs) : (fstep fs x).idxOf y = fs.idxOf y := by
  unfold fstep
  split
  · rfl
  · rw [List.idxOf_append, if_pos h]
theorem firsts_len (xs : List α) : (firsts xs).length ≤ xs.length := by
  induction xs using list_snoc with
  | h0 => simp [firsts]
  | h1 xs y ih => rw [firsts_snoc]; unfold fstep; split <;> simp <;> omega
theorem numb_snoc (xs : List α) (x : α) : numb (xs ++ [x]) = numb xs ++ [(fstep (firsts xs) x).idxOf x] := by
  unfold numb
  rw [firsts_snoc, List.map_append]
  congr 1
  apply List.map_congr_left
  intro y hy
  exact idx_fstep (mem_firsts.mpr hy)
theorem numb_len (xs : List α) : (numb xs).length = xs.length := by simp [numb]
theorem idxOf_inj {fs : List α} {x y : α} (hx : x ∈ fs) (hy : y ∈ fs) (e : fs.idxOf x = fs.idxOf y) : x = y := by
  have h1 := List.getElem_idxOf (List.idxOf_lt_length_of_mem hx)
  have h2 := List.getElem_idxOf (List.idxOf_lt_length_of_mem hy)
  rw [← h1, ← h2]
  congr 1
/-- what is alike gets the same number -/
theorem numb_eq_iff {xs : List α} {i j : Nat} (hi : i < xs.length) (hj : j < xs.length) : (numb xs)[i]'(by simpa [numb]) = (numb xs)[j]'(by simpa [numb]) ↔ xs[i] = xs[j] := by
  simp only [numb, List.getElem_map]
  constructor
  · exact idxOf_inj (mem_firsts.mpr (by simp)) (mem_firsts.mpr (by simp))
  · intro e; rw [e]
/-- lists that are alike in the same places have the same numbers -/
theorem numb_congr : ∀ {xs : List α} {ys : List β}, xs.length = ys.length → (∀ i j (hi : i < xs.length) (hj : j < xs.length) (hi' : i < ys.length) (hj' : j < ys.length), xs[i] = xs[j] ↔ ys[i] = ys[j]) → numb xs = numb ys := by
  suffices H : ∀ (ps : List (α × β)), (∀ p ∈ ps, ∀ q ∈ ps, p.1 = q.1 ↔ p.2 = q.2) → numb (ps.map (·.1)) = numb (ps.map (·.2)) ∧ ∃ fs : List (α × β), (∀ f ∈ fs, f ∈ ps) ∧ firsts (ps.map (·.1)) = fs.map (·.1) ∧ firsts (ps.map (·.2)) = fs.map (·.2) by
    intro xs ys hl h
    have h1 : (xs.zip ys).map (·.1) = xs := by rw [List.map_fst_zip]; omega
    have h2 : (xs.zip ys).map (·.2) = ys := by rw [List.map_snd_zip]; omega
    have := (H (xs.zip ys) (by
      intro p hp q hq
      obtain ⟨i, hi, rfl⟩ := List.getElem_of_mem hp
      obtain ⟨j, hj, rfl⟩ := List.getElem_of_mem hq
      simp only [List.length_zip] at hi hj
      simp only [List.getElem_zip]
      exact h i j (by omega) (by omega) (by omega) (by omega))).1
    rwa [h1, h2] at this
  intro ps
  induction ps using list_snoc with
  | h0 => exact fun _ => ⟨rfl, [], by simp, rfl, rfl⟩
  | h1 ps p ih =>
    intro h
    obtain ⟨e, fs, hf, f1, f2⟩ := ih fun a ha b hb => h a (by simp [ha]) b (by simp [hb])
    have hmem : p.1 ∈ fs.map (·.1) ↔ p.2 ∈ fs.map (·.2) := by
      simp only [List.mem_map]
      constructor
      · rintro ⟨q, hq, e⟩
        exact ⟨q, hq, (h q (by simp [hf q hq]) p (by simp)).mp e⟩
      · rintro ⟨q, hq, e⟩
        exact ⟨q, hq, (h q (by simp [hf q hq]) p (by simp)).mpr e⟩
    have hidx : ∀ gs : List (α × β), (∀ g ∈ gs, g ∈ ps ++ [p]) → (gs.map (·.1)).idxOf p.1 = (gs.map (·.2)).idxOf p.2 := by
      intro gs
      induction gs with
      | nil => intro _; rfl
      | cons g gs ih2 =>
        intro hg
        have := h g (hg g (by simp)) p (by simp)
        simp only [List.map_cons, List.idxOf_cons]
        by_cases e1 : g.1 = p.1
        · have e2 := this.mp e1
          simp [e1, e2]
        · have e2 : ¬ g.2 = p.2 := fun z => e1 (this.mpr z)
          simp only [beq_iff_eq, e1, e2, cond_false, Bool.cond_eq_ite, if_false, if_neg]
          rw [ih2 fun z hz => hg z (by simp [hz])]
    simp only [List.map_append, List.map_cons, List.map_nil]
    rw [numb_snoc, numb_snoc, e, firsts_snoc, firsts_snoc, f1, f2]
    by_cases hp : p.1 ∈ fs.map (·.1)
    · have hp2 := hmem.mp hp
      unfold fstep
      rw [if_pos hp, if_pos hp2, hidx fs fun g hg => by simp [hf g hg]]
      exact ⟨rfl, fs, fun f hf' => by simp [hf f hf'], rfl, rfl⟩
    · have hp2 : ¬ p.2 ∈ fs.map (·.2) := fun z => hp (hmem.mpr z)
      unfold fstep
      rw [if_neg hp, if_neg hp2]
      have := hidx (fs ++ [p]) (by
        intro g hg
        rcases List.mem_append.mp hg with z | z
        · simp [hf g z]
        · simp at z; simp [z])
      simp only [List.map_append, List.map_cons, List.map_nil] at this
      refine ⟨by rw [this], fs ++ [p], ?_, by simp, by simp⟩
      intro g hg
      rcases List.mem_append.mp hg with z | z
      · simp [hf g z]
      · simp at z; simp [z]
/-- numbering again changes nothing -/
theorem numb_numb (xs : List α) : numb (numb xs) = numb xs :=
  numb_congr (numb_len xs) fun i j hi hj hi' hj' => numb_eq_iff (by simpa [numb] using hi) (by simpa [numb] using hj)
theorem numb_lt {xs : List α} {n : Nat} (h : n ∈ numb xs) : n < xs.length := by
  simp only [numb, List.mem_map] at h
  obtain ⟨x, hx, rfl⟩ := h
  exact Nat.lt_of_lt_of_le (List.idxOf_lt_length_of_mem (mem_firsts.mpr hx)) (firsts_len xs)
end
end KP


set_option Elab.async false
set_option linter.all false
set_option maxRecDepth 100000
/-! KZ: tools for the plain texts: Sat, loops that may end early, codes of lists. -/
namespace KP
open PySem PySem.Spec PyProof.Rows L2
abbrev tN (ns : List Nat) : PyData := .tuple (ns.map nI)
abbrev lI (ns : List Nat) : PyData := .list (ns.map nI)
abbrev tT (rows : List (List Nat)) : PyData := .tuple (rows.map tN)
abbrev mM (rows : List (List Nat)) (sh : List Nat) : PyData := .tuple [tT rows, tN sh]
section
variable {α β : Type}
/-- a run that ends well, with P -/
structure Sat (m : M α) (S : Sto) (P : α → Sto → Prop) : Prop where
  out : (m S).sat P (fun _ _ => False)
theorem Sat.bnd {m : M α} {k : α → M β} {S : Sto} {P1 : α → Sto → Prop} {P : β → Sto → Prop} (h : Sat m S P1) (hk : ∀ a S', P1 a S' → Sat (k a) S' P) : Sat (KP.bnd m k) S P :=
  ⟨sat_bnd.mpr (R.sat.mono h.out (fun a S' q => (hk a S' q).out) fun _ _ q => q)⟩
theorem Sat.lift {m : M α} {env : En} {k : α → M (Fl × En)} {S : Sto} {P1 : α → Sto → Prop} {P : Fl × En → Sto → Prop} (h : Sat m S P1) (hk : ∀ a S', P1 a S' → Sat (k a) S' P) : Sat (KP.lift env m k) S P :=
  ⟨sat_lift.mpr (R.sat.mono h.out (fun a S' q => (hk a S' q).out) fun _ _ q => q.elim)⟩
theorem Sat.ret {a : α} {S : Sto} {P : α → Sto → Prop} (h : P a S) : Sat (KP.ret a) S P := ⟨h⟩
theorem Sat.mono {m : M α} {S : Sto} {P P' : α → Sto → Prop} (h : Sat m S P) (hp : ∀ a S', P a S' → P' a S') : Sat m S P' := ⟨R.sat.mono h.out hp fun _ _ q => q⟩
theorem Sat.run {n : Nat} {body : SF} {ds : List Va} {S : Sto} {P : Va → Sto → Prop} (h : Sat (body (startE n ds)) S (fun r S' => ∃ v, r.1 = .rt v ∧ P v S')) : Sat (noX (runF n body ds)) S P := ⟨run_sat h.out⟩
theorem Sat.pure {m : M α} {a : α} {S : Sto} {P : α → Sto → Prop} (h : m = KP.ret a) (hp : P a S) : Sat m S P := by rw [h]; exact ⟨hp⟩
theorem Sat.seq {f g : SF} {env : En} {S : Sto} {P : Fl × En → Sto → Prop} {P1 : En → Sto → Prop} (h : Sat (f env) S (fun r S' => r.1 = .nx ∧ P1 r.2 S')) (hk : ∀ env' S', P1 env' S' → Sat (g env') S' P) : Sat (sSeq f g env) S P := by
  rw [sSeq_eq]
  refine Sat.bnd h fun r S' q => ?_
  obtain ⟨fl, env'⟩ := r
  obtain ⟨q1, q2⟩ := q
  dsimp only at q1
  subst q1
  exact hk env' S' q2
theorem Sat.ok {m : M α} {S : Sto} {P : α → Sto → Prop} (h : Sat m S P) : ∃ a S', m S = .ok a S' ∧ P a S' := by
  have h := h.out
  cases e : m S with
  | ok a S' => rw [e] at h; exact ⟨a, S', rfl, h⟩
  | exc x S' => rw [e] at h; exact h.elim
  | stuck => rw [e] at h; exact h.elim
theorem lift_assoc (env : En) (m : M α) (f : α → M β) (g : β → M (Fl × En)) (hf : True) : lift env (bnd m f) g = fun S => match m S with
  | .ok a S' => lift env (f a) g S'
  | .exc x S' => .ok (.xc x, env) S'
  | .stuck => .stuck := by
  funext S
  unfold lift bnd
  cases m S <;> rfl
/-- the first part of what is lifted -/
theorem Sat.liftB {m : M α} {f : α → M β} {env : En} {k : β → M (Fl × En)} {S : Sto} {P1 : α → Sto → Prop} {P : Fl × En → Sto → Prop} (h : Sat m S P1) (hk : ∀ a S', P1 a S' → Sat (KP.lift env (f a) k) S' P) : Sat (KP.lift env (KP.bnd m f) k) S P := by
  obtain ⟨a, S', e, q⟩ := h.ok
  have := (hk a S' q).out
  refine ⟨?_⟩
  rw [lift_assoc env m f k trivial]
  show R.sat (match m S with
    | .ok a S' => KP.lift env (f a) k S'
    | .exc x S' => .ok (.xc x, env) S'
    | .stuck => .stuck) _ _
  rw [e]
  exact this
/-- a loop that may end early -/
theorem loop_early {t : TF} {body : SF} {f : α → PyData} {xs : List α} {env : En} (I : List α → En → Prop) (Early : List α → α → Va → Prop) (h0 : I [] env)
    (hs : ∀ done x rest env, xs = done ++ x :: rest → I done env → (∃ env' w, bnd (ofO (t (.d (f x)) env)) body = ret (.rt w, env') ∧ Early done x w) ∨ ∃ env', bnd (ofO (t (.d (f x)) env)) body = ret (.nx, env') ∧ I (done ++ [x]) env') :
    (∃ done x rest w env0 env', xs = done ++ x :: rest ∧ I done env0 ∧ Early done x w ∧ loopL t body (xs.map f) env = ret (.rt w, env')) ∨ ∃ env', loopL t body (xs.map f) env = ret (.nx, env') ∧ I xs env' := by
  suffices H : ∀ (rest done : List α) (env : En), xs = done ++ rest → I done env → (∃ done x rest' w env0 env', xs = done ++ x :: rest' ∧ I done env0 ∧ Early done x w ∧ loopL t body (rest.map f) env = ret (.rt w, env')) ∨ ∃ env', loopL t body (rest.map f) env = ret (.nx, env') ∧ I xs env' from H xs [] env rfl h0
  intro rest
  induction rest with
  | nil => intro done env e h; rw [List.append_nil] at e; exact .inr ⟨env, rfl, e ▸ h⟩
  | cons x rest ih =>
    intro done env e h
    have eq : loopL t body ((x :: rest).map f) env = bnd (bnd (ofO (t (.d (f x)) env)) body) fun r => match r.1 with
      | .nx => loopL t body (rest.map f) r.2
      | .ct => loopL t body (rest.map f) r.2
      | .bk => ret (.nx, r.2)
      | .rt v => ret (.rt v, r.2)
      | .xc x => ret (.xc x, r.2) := by rw [bnd_assoc]; rfl
    rw [eq]
    rcases hs done x rest env e h with ⟨env', w, h1, h2⟩ | ⟨env', h1, h2⟩
    · rw [h1]
      exact .inl ⟨done, x, rest, w, env, env', e, h, h2, rfl⟩
    · rw [h1]
      exact ih (done ++ [x]) env' (by rw [e]; simp) h2
/-- a loop whose turns set slots by a fold -/
theorem loop_fold {σ : Type} {t : TF} {body : SF} {f : α → PyData} (mk : σ → Option Sv → En) (step : σ → α → σ) : ∀ (xs : List α) (s : σ) (o : Option Sv), (∀ s o, ∀ x ∈ xs, ∃ o', bnd (ofO (t (.d (f x)) (mk s o))) body = ret (.nx, mk (step s x) o')) →
    ∃ o', loopL t body (xs.map f) (mk s o) = ret (.nx, mk (xs.foldl step s) o')
  | [], s, o, _ => ⟨o, rfl⟩
  | x :: xs, s, o, h => by
    obtain ⟨o1, h1⟩ := h s o x (by simp)
    obtain ⟨o2, h2⟩ := loop_fold mk step xs (step s x) o1 fun s o y hy => h s o y (by simp [hy])
    refine ⟨o2, ?_⟩
    show bnd (ofO (t (.d (f x)) (mk s o))) (fun env1 => bnd (body env1) _) = _
    rw [← bnd_assoc, h1]
    exact h2
/-- a while loop -/
theorem loopW_step {c : DB} {body : SF} {n : Nat} {env env' : En} (h : c env = ret true) (hb : body env = ret (.nx, env')) : loopW c body (n + 1) env = loopW c body n env' := by
  show lift env (c env) _ = _
  rw [h, lift_ret, if_pos rfl, hb]; rfl
theorem loopW_end {c : DB} {body : SF} {n : Nat} {env : En} (h : c env = ret false) : loopW c body (n + 1) env = ret (.nx, env) := by
  show lift env (c env) _ = _
  rw [h, lift_ret]; rfl
end
/-! ### places -/
theorem ix_tN {ns : List Nat} {i : Nat} (h : i < ns.length) : gIx (.d (tN ns)) (.d (nI i)) = some (.d (nI ns[i])) := gIx_t (by simp [h])
theorem ix_lI {ns : List Nat} {i : Nat} (h : i < ns.length) : gIx (.d (lI ns)) (.d (nI i)) = some (.d (nI ns[i])) := gIx_l (by simp [h])
theorem ix_t {α : Type} {f : α → PyData} {xs : List α} {i : Nat} (h : i < xs.length) : gIx (.d (.tuple (xs.map f))) (.d (nI i)) = some (.d (f xs[i])) := gIx_t (by simp [h])
theorem ix_l {α : Type} {f : α → PyData} {xs : List α} {i : Nat} (h : i < xs.length) : gIx (.d (.list (xs.map f))) (.d (nI i)) = some (.d (f xs[i])) := gIx_l (by simp [h])
/-- the item at a place, 0 beyond the end -/
def at0 (ns : List Nat) (i : Nat) : Nat := ns.getD i 0
def atR (rows : List (List Nat)) (i : Nat) : List Nat := rows.getD i []
theorem at0_eq {ns : List Nat} {i : Nat} (h : i < ns.length) : at0 ns i = ns[i] := by simp [at0, h]
theorem atR_eq {ns : List (List Nat)} {i : Nat} (h : i < ns.length) : atR ns i = ns[i] := by simp [atR, h]
theorem at0_mem {ns : List Nat} {i : Nat} (h : i < ns.length) : at0 ns i ∈ ns := by rw [at0_eq h]; exact List.getElem_mem h
theorem atR_mem {ns : List (List Nat)} {i : Nat} (h : i < ns.length) : atR ns i ∈ ns := by rw [atR_eq h]; exact List.getElem_mem h
theorem ix_tD {ns : List Nat} {i : Nat} (h : i < ns.length) : gIx (.d (tN ns)) (.d (.int (i : Int))) = some (.d (nI (at0 ns i))) := by
  rw [at0_eq h]; exact ix_tN h
theorem ix_lD {ns : List Nat} {i : Nat} (h : i < ns.length) : gIx (.d (lI ns)) (.d (.int (i : Int))) = some (.d (nI (at0 ns i))) := by
  rw [at0_eq h]; exact ix_lI h
theorem ix_tR {rows : List (List Nat)} {i : Nat} (h : i < rows.length) : gIx (.d (tT rows)) (.d (.int (i : Int))) = some (.d (tN (atR rows i))) := by
  rw [atR_eq h]; exact ix_t h
theorem ix_tR0 {rows : List (List Nat)} (h : 0 < rows.length) : gIx (.d (tT rows)) (.d (.int 0)) = some (.d (tN (atR rows 0))) := ix_tR (i := 0) h
theorem ext_at0 {xs ys : List Nat} (hl : xs.length = ys.length) (h : ∀ i, i < xs.length → at0 xs i = at0 ys i) : xs = ys := by
  apply List.ext_getElem hl
  intro i h1 h2
  have := h i h1
  rwa [at0_eq h1, at0_eq h2] at this
theorem at0_map {α : Type} {f : α → Nat} {xs : List α} {i : Nat} (h : i < xs.length) : at0 (xs.map f) i = f xs[i] := by
  rw [at0_eq (by simpa using h)]; simp
theorem at0_range {f : Nat → Nat} {n i : Nat} (h : i < n) : at0 ((List.range n).map f) i = f i := by
  rw [at0_map (by simpa using h)]; simp
theorem tN_imm (ns : List Nat) : imm (tN ns) = true := by
  simp only [imm, immAll_iff]
  intro x hx
  obtain ⟨n, _, rfl⟩ := List.mem_map.mp hx
  simp [imm]
theorem tT_imm (rows : List (List Nat)) : imm (tT rows) = true := by
  simp only [imm, immAll_iff]
  intro x hx
  obtain ⟨n, _, rfl⟩ := List.mem_map.mp hx
  exact tN_imm n
/-! ### fits -/
theorem fits_int (bs : List Nat) (i : Int) : fits bs (.int i) = true := by cases bs <;> simp [fits]
theorem fits_tN {b : Nat} {bs : List Nat} {ns : List Nat} (h : ns.length ≤ b) : fits (b :: bs) (tN ns) = true := by
  simp only [fits, Bool.and_eq_true, decide_eq_true_eq, List.length_map, List.all_eq_true]
  refine ⟨h, fun x hx => ?_⟩
  obtain ⟨n, _, rfl⟩ := List.mem_map.mp hx
  exact fits_int _ _
theorem fits_lI {b : Nat} {bs : List Nat} {ns : List Nat} (h : ns.length ≤ b) : fits (b :: bs) (lI ns) = true := by
  simp only [fits, Bool.and_eq_true, decide_eq_true_eq, List.length_map, List.all_eq_true]
  refine ⟨h, fun x hx => ?_⟩
  obtain ⟨n, _, rfl⟩ := List.mem_map.mp hx
  exact fits_int _ _
theorem fits_l {α : Type} {f : α → PyData} {b : Nat} {bs : List Nat} {xs : List α} (h : xs.length ≤ b) (hx : ∀ x ∈ xs, fits bs (f x) = true) : fits (b :: bs) (.list (xs.map f)) = true := by
  simp only [fits, Bool.and_eq_true, decide_eq_true_eq, List.length_map, List.all_eq_true]
  refine ⟨h, fun x hx' => ?_⟩
  obtain ⟨n, hn, rfl⟩ := List.mem_map.mp hx'
  exact hx n hn
theorem fits_t {α : Type} {f : α → PyData} {b : Nat} {bs : List Nat} {xs : List α} (h : xs.length ≤ b) (hx : ∀ x ∈ xs, fits bs (f x) = true) : fits (b :: bs) (.tuple (xs.map f)) = true := by
  simp only [fits, Bool.and_eq_true, decide_eq_true_eq, List.length_map, List.all_eq_true]
  refine ⟨h, fun x hx' => ?_⟩
  obtain ⟨n, hn, rfl⟩ := List.mem_map.mp hx'
  exact hx n hn
theorem fitsT_nat {bs : List Nat} {n : Nat} (h : n < 1000) : fitsT bs (nI n) = true := by cases bs <;> simp [fitsT] <;> omega
theorem fitsT_tN {b : Nat} {bs : List Nat} {ns : List Nat} (h : ns.length ≤ b) (hn : ∀ n ∈ ns, n < 1000) : fitsT (b :: bs) (tN ns) = true := by
  simp only [fitsT, Bool.and_eq_true, decide_eq_true_eq, List.length_map, List.all_eq_true]
  refine ⟨h, fun x hx => ?_⟩
  obtain ⟨n, hm, rfl⟩ := List.mem_map.mp hx
  exact fitsT_nat (hn n hm)
theorem fitsT_t {α : Type} {f : α → PyData} {b : Nat} {bs : List Nat} {xs : List α} (h : xs.length ≤ b) (hx : ∀ x ∈ xs, fitsT bs (f x) = true) : fitsT (b :: bs) (.tuple (xs.map f)) = true := by
  simp only [fitsT, Bool.and_eq_true, decide_eq_true_eq, List.length_map, List.all_eq_true]
  refine ⟨h, fun x hx' => ?_⟩
  obtain ⟨n, hn, rfl⟩ := List.mem_map.mp hx'
  exact hx n hn
theorem fitsT_l {α : Type} {f : α → PyData} {b : Nat} {bs : List Nat} {xs : List α} (h : xs.length ≤ b) (hx : ∀ x ∈ xs, fitsT bs (f x) = true) : fitsT (b :: bs) (.list (xs.map f)) = true := by
  simp only [fitsT, Bool.and_eq_true, decide_eq_true_eq, List.length_map, List.all_eq_true]
  refine ⟨h, fun x hx' => ?_⟩
  obtain ⟨n, hn, rfl⟩ := List.mem_map.mp hx'
  exact hx n hn
theorem fitsT_tup {b : Nat} {bs : List Nat} {xs : List PyData} (h : xs.length ≤ b) (hx : ∀ x ∈ xs, fitsT bs x = true) : fitsT (b :: bs) (.tuple xs) = true := by
  simp only [fitsT, Bool.and_eq_true, decide_eq_true_eq, List.all_eq_true]; exact ⟨h, hx⟩
theorem fitsT_lst {b : Nat} {bs : List Nat} {xs : List PyData} (h : xs.length ≤ b) (hx : ∀ x ∈ xs, fitsT bs x = true) : fitsT (b :: bs) (.list xs) = true := by
  simp only [fitsT, Bool.and_eq_true, decide_eq_true_eq, List.all_eq_true]; exact ⟨h, hx⟩
theorem all2 {p : PyData → Prop} {a b : PyData} (h1 : p a) (h2 : p b) : ∀ x ∈ [a, b], p x := fun x hx => by
  simp only [List.mem_cons, List.not_mem_nil, or_false] at hx
  rcases hx with e | e
  · rw [e]; exact h1
  · rw [e]; exact h2
theorem all3 {p : PyData → Prop} {a b c : PyData} (h1 : p a) (h2 : p b) (h3 : p c) : ∀ x ∈ [a, b, c], p x := fun x hx => by
  simp only [List.mem_cons, List.not_mem_nil, or_false] at hx
  rcases hx with e | e | e
  · rw [e]; exact h1
  · rw [e]; exact h2
  · rw [e]; exact h3
theorem repr_l {xs : List PyData} {bs : List Nat} (h : fitsT bs (.list xs) = true) (hb : bs.length ≤ 60 := by decide) (hc : cap bs ≤ 16777216 := by decide) : on1 hReprA [.d (.list xs)] = some (.d (.str (PyData.list xs).shown)) := by
  simp [on1, hReprA, reprOk_of h hb hc]
theorem repr_b (b : Bool) : on1 hReprA [.d (.bool b)] = some (.d (.str (PyData.bool b).shown)) := by
  have h : reprOk (.bool b) = true := reprOk_of (bs := []) rfl
  simp [on1, hReprA, h]
theorem repr_t {xs : List PyData} {bs : List Nat} (h : fitsT bs (.tuple xs) = true) (hb : bs.length ≤ 60 := by decide) (hc : cap bs ≤ 16777216 := by decide) : on1 hReprA [.d (.tuple xs)] = some (.d (.str (PyData.tuple xs).shown)) := by
  simp [on1, hReprA, reprOk_of h hb hc]
@[simp] theorem gEq_str (x y : Str) : gEq (.d (.str x)) (.d (.str y)) = some (.d (.bool (decide (x = y)))) := by simp [gEq, hEq, strEq]
@[simp] theorem gNe_str (x y : Str) : gNe (.d (.str x)) (.d (.str y)) = some (.d (.bool (!decide (x = y)))) := by simp [gNe, hEq, strEq]
@[simp] theorem gNotN_eq (p : PyData) : gNotN (.d p) (.d .none) = some (vB (!KP.isNon p)) := rfl
@[simp] theorem gIsN_eq (p : PyData) : gIsN (.d p) (.d .none) = some (vB (KP.isNon p)) := rfl
@[simp] theorem isNon_none : KP.isNon .none = true := rfl
@[simp] theorem isNon_tup (xs : List PyData) : KP.isNon (.tuple xs) = false := rfl
@[simp] theorem isNon_list (xs : List PyData) : KP.isNon (.list xs) = false := rfl
@[simp] theorem isNon_int (i : Int) : KP.isNon (.int i) = false := rfl
/-! ### in, max, sorted, index -/
theorem hIn_of {α : Type} {f : α → PyData} {bs cs : List Nat} {d : PyData} {xs : List α} {k neg : Bool} (h : fits bs d = true) (h' : ∀ x ∈ xs, fits cs (f x) = true) (hb : bs.length ≤ 60 := by decide) (hk : k = true ↔ ∃ x ∈ xs, f x = d) : gDD (hIn neg) (.d d) (.d (.list (xs.map f))) = some (.d (.bool (if neg = true then !k else k))) := by
  have h1 : inOk d (xs.map f) = true := inOk_of h (fun x hx => by obtain ⟨n, hn, rfl⟩ := List.mem_map.mp hx; exact h' n hn) hb
  have h2 : ((xs.map f).any fun y => PyData.eqv y d) = k := by
    rw [Bool.eq_iff_iff, List.any_eq_true, hk]
    constructor
    · rintro ⟨y, hy, e⟩
      obtain ⟨n, hn, rfl⟩ := List.mem_map.mp hy
      exact ⟨n, hn, (eqv_iff (h' n hn) h).mp e⟩
    · rintro ⟨n, hn, e⟩
      exact ⟨f n, List.mem_map.mpr ⟨n, hn, rfl⟩, (eqv_iff (h' n hn) h).mpr e⟩
  simp only [gDD, hIn, seqD, Option.bind_some, h1, if_true, h2, Option.map_some]
theorem nI_inj {a b : Nat} : nI a = nI b ↔ a = b := by
  constructor
  · intro h; injection h with h; omega
  · rintro rfl; rfl
theorem map_nI_inj {a b : List Nat} : a.map nI = b.map nI ↔ a = b := by
  refine ⟨fun h => (List.map_inj_right (f := nI) fun x y e => nI_inj.mp e).mp h, fun h => by rw [h]⟩
theorem tN_inj {a b : List Nat} : tN a = tN b ↔ a = b := by
  constructor
  · intro h; injection h with h; exact map_nI_inj.mp h
  · rintro rfl; rfl
theorem lI_inj {a b : List Nat} : lI a = lI b ↔ a = b := by
  constructor
  · intro h; injection h with h; exact map_nI_inj.mp h
  · rintro rfl; rfl
theorem asInts_nat (ns : List Nat) : asInts (ns.map nI) = some (ns.map fun n : Nat => (n : Int)) := by
  induction ns with
  | nil => rfl
  | cons n ns ih => simp [asInts, ih]
def maxN : List Nat → Nat
  | [] => 0
  | n :: ns => max n (maxN ns)
theorem le_maxN {ns : List Nat} {n : Nat} (h : n ∈ ns) : n ≤ maxN ns := by
  induction ns with
  | nil => simp at h
  | cons m ns ih =>
    simp only [maxN]
    rcases List.mem_cons.mp h with e | e
    · omega
    · have := ih e; omega
theorem maxN_le {ns : List Nat} {b : Nat} (h : ∀ n ∈ ns, n ≤ b) : maxN ns ≤ b := by
  induction ns with
  | nil => simp [maxN]
  | cons m ns ih =>
    simp only [maxN]
    have h1 := h m (by simp)
    have h2 := ih fun n hn => h n (by simp [hn])
    omega
theorem maxI_nat : ∀ (ns : List Nat) (n : Nat), maxI (n : Int) (ns.map fun n : Nat => (n : Int)) = ((max n (maxN ns) : Nat) : Int)
  | [], n => by simp [maxI, maxN]
  | m :: ns, n => by
    have ih := maxI_nat ns (if n < m then m else n)
    have e : maxI (n : Int) ((m :: ns).map fun n : Nat => (n : Int)) = maxI (if n < m then m else n : Nat) (ns.map fun n : Nat => (n : Int)) := by
      simp only [maxI, List.map_cons, List.foldl_cons]
      congr 1
      split <;> split <;> omega
    rw [e, ih, maxN]
    congr 1
    split <;> omega
theorem max_t {ns : List Nat} (h : ns ≠ []) : on1 hMax [.d (tN ns)] = some (.d (nI (maxN ns))) := by
  cases ns with
  | nil => exact absurd rfl h
  | cons n ns =>
    have := asInts_nat (n :: ns)
    simp only [List.map_cons] at this
    simp only [on1, hMax, seqD, Option.bind_some, List.map_cons, this, maxI_nat, maxN]
theorem max_l {ns : List Nat} (h : ns ≠ []) : on1 hMax [.d (lI ns)] = some (.d (nI (maxN ns))) := by
  cases ns with
  | nil => exact absurd rfl h
  | cons n ns =>
    have := asInts_nat (n :: ns)
    simp only [List.map_cons] at this
    simp only [on1, hMax, seqD, Option.bind_some, List.map_cons, this, maxI_nat, maxN]
/-! ### pure runs -/
section
variable {α β : Type}
@[simp] theorem eCallA_t (env : En) (F : List Va → M Va) (fa : DFA) : eCallA true F fa env = bnd (fa env) fun vs => if vs.all isD = true then bnd (alone (F vs)) (fun r => if isD r = true then ret r else no) else no := rfl
@[simp] theorem eCallA_f (env : En) (F : List Va → M Va) (fa : DFA) : eCallA false F fa env = bnd (fa env) fun vs => if vs.all isD = true then bnd (alone (noX (F vs))) (fun r => if isD r = true then ret r else no) else no := rfl
@[simp] theorem isD_vB (k : Bool) : isD (vB k) = true := rfl
@[simp] theorem asD_vB (k : Bool) : (vB k).asD = some (.bool k) := rfl
@[simp] theorem svOf_vB (k : Bool) : svOf (vB k) = .d (.bool k) := rfl
@[simp] theorem bnd_bnd {γ : Type} (m : M α) (f : α → M β) (g : β → M γ) : bnd (bnd m f) g = bnd m fun a => bnd (f a) g := bnd_assoc m f g
/-- a run that touches no cell, and what its value is -/
def Pu (m : M α) (P : α → Prop) : Prop := ∃ a, m = ret a ∧ P a
theorem Pu.ret {a : α} {P : α → Prop} (h : P a) : Pu (KP.ret a) P := ⟨a, rfl, h⟩
theorem Pu.bnd {m : M α} {k : α → M β} {P1 : α → Prop} {P : β → Prop} (h : Pu m P1) (hk : ∀ a, P1 a → Pu (k a) P) : Pu (KP.bnd m k) P := by
  obtain ⟨a, rfl, h⟩ := h
  exact hk a h
theorem Pu.mono {m : M α} {P P' : α → Prop} (h : Pu m P) (hp : ∀ a, P a → P' a) : Pu m P' := by
  obtain ⟨a, e, h⟩ := h
  exact ⟨a, e, hp a h⟩
theorem Pu.eq {m : M α} {v : α} (h : Pu m fun a => a = v) : m = KP.ret v := by
  obtain ⟨a, e, rfl⟩ := h
  exact e
theorem Pu.of {m : M α} {v : α} {P : α → Prop} (h : m = KP.ret v) (hp : P v) : Pu m P := ⟨v, h, hp⟩
theorem Pu.sat {m : M α} {S : Sto} {P : α → Prop} (h : Pu m P) : Sat m S fun a S' => P a ∧ S' = S := by
  obtain ⟨a, rfl, h⟩ := h
  exact ⟨⟨h, rfl⟩⟩
/-- what a def hands back -/
def fin : Fl × En → M Va := fun r => match r.1 with
  | .rt v => ret v
  | .nx => ret (.d .none)
  | _ => no
@[simp] theorem fin_rt (v : Va) (env : En) : fin (.rt v, env) = ret v := rfl
@[simp] theorem fin_nx (env : En) : fin (.nx, env) = ret (.d .none) := rfl
theorem run_fin {n : Nat} {body : SF} {ds : List Va} {v : Va} (h : bnd (body (startE n ds)) fin = ret v) : noX (runF n body ds) = ret v := by
  funext S
  have hS := congrFun h S
  unfold noX runF
  unfold bnd at hS
  cases e : body (startE n ds) S with
  | ok r S' =>
    rw [e] at hS
    obtain ⟨fl, env'⟩ := r
    cases fl <;> first | exact hS | (simp [fin, no, ret] at hS)
  | exc x S' => rw [e] at hS; simp [ret] at hS
  | stuck => rw [e] at hS; simp [ret] at hS
theorem Pu.run {n : Nat} {body : SF} {ds : List Va} {P : Va → Prop} (h : Pu (KP.bnd (body (startE n ds)) fin) P) : Pu (noX (runF n body ds)) P := by
  obtain ⟨v, e, h⟩ := h
  exact ⟨v, run_fin e, h⟩
theorem Sat.runF {n : Nat} {body : SF} {ds : List Va} {S : Sto} {P : Va → Sto → Prop} (h : Sat (KP.bnd (body (startE n ds)) fin) S P) : Sat (noX (KP.runF n body ds)) S P := by
  obtain ⟨v, S', e, h⟩ := h.ok
  refine ⟨?_⟩
  unfold noX KP.runF
  unfold KP.bnd at e
  cases e1 : body (startE n ds) S with
  | ok r S1 =>
    rw [e1] at e
    obtain ⟨fl, env'⟩ := r
    cases fl with
    | rt w => cases e; exact h
    | nx => cases e; exact h
    | bk => cases e
    | ct => cases e
    | xc x => cases e
  | exc x S' => rw [e1] at e; cases e
  | stuck => rw [e1] at e; cases e
theorem Pu.loop {t : TF} {body : SF} {f : α → PyData} {xs : List α} {env : En} (I : List α → En → Prop) (h0 : I [] env) (hs : ∀ done x rest env, xs = done ++ x :: rest → I done env → Pu (KP.bnd (ofO (t (.d (f x)) env)) body) fun r => r.1 = .nx ∧ I (done ++ [x]) r.2) :
    Pu (loopL t body (xs.map f) env) fun r => r.1 = .nx ∧ I xs r.2 := by
  obtain ⟨env', h1, h2⟩ := loop_pure (t := t) (body := body) (f := f) (xs := xs) (env := env) I h0 (by
    intro done x rest env e hI
    obtain ⟨⟨fl, env'⟩, h1, h2, h3⟩ := hs done x rest env e hI
    dsimp only at h2
    subst h2
    exact ⟨env', h1, h3⟩)
  exact ⟨_, h1, rfl, h2⟩
theorem Pu.early {t : TF} {body : SF} {f : α → PyData} {xs : List α} {env : En} (I : List α → En → Prop) (Early : List α → α → Va → Prop) (h0 : I [] env) (hs : ∀ done x rest env, xs = done ++ x :: rest → I done env → Pu (KP.bnd (ofO (t (.d (f x)) env)) body) fun r => (∃ w, r.1 = .rt w ∧ Early done x w) ∨ (r.1 = .nx ∧ I (done ++ [x]) r.2)) :
    Pu (loopL t body (xs.map f) env) fun r => (∃ done x rest env0 w, xs = done ++ x :: rest ∧ I done env0 ∧ r.1 = .rt w ∧ Early done x w) ∨ (r.1 = .nx ∧ I xs r.2) := by
  rcases loop_early (t := t) (body := body) (f := f) (xs := xs) (env := env) I Early h0 (by
    intro done x rest env e hI
    obtain ⟨⟨fl, env'⟩, h1, h2⟩ := hs done x rest env e hI
    rcases h2 with ⟨w, h2, h3⟩ | ⟨h2, h3⟩
    · dsimp only at h2
      subst h2
      exact .inl ⟨env', w, h1, h3⟩
    · dsimp only at h2
      subst h2
      exact .inr ⟨env', h1, h3⟩) with ⟨done, x, rest, w, env0, env', h1, h2, h3, h4⟩ | ⟨env', h1, h2⟩
  · exact ⟨_, h4, .inl ⟨done, x, rest, env0, w, h1, h2, rfl, h3⟩⟩
  · exact ⟨_, h1, .inr ⟨rfl, h2⟩⟩
theorem Sat.loop {t : TF} {body : SF} {f : α → PyData} {xs : List α} {env : En} {S : Sto} (I : List α → En → Sto → Prop) (h0 : I [] env S) (hs : ∀ done x rest env S, xs = done ++ x :: rest → I done env S → Sat (KP.bnd (ofO (t (.d (f x)) env)) body) S (fun r S' => r.1 = .nx ∧ I (done ++ [x]) r.2 S')) :
    Sat (loopL t body (xs.map f) env) S (fun r S' => r.1 = .nx ∧ I xs r.2 S') := ⟨loop_sat I h0 fun done x rest env S e h => (hs done x rest env S e h).out⟩
/-! comprehensions -/
variable {t : TF} {c : DB} {e : DF} {f g : α → PyData} {vs : List Nat} {b : α → Bool} {xs : List α} {env : En} {h : DL}
theorem split_pure {m : M α} {k : α → M β} {r : β} (h : KP.bnd m k = KP.ret r) : True := trivial
theorem ofO_bnd {o : Option En} {k : En → M β} {r : β} (h : KP.bnd (ofO o) k = KP.ret r) : ∃ env', o = some env' ∧ k env' = KP.ret r := by
  cases o with
  | none => have := congrFun h []; simp [KP.bnd, ofO, KP.ret, no] at this
  | some env' => exact ⟨env', rfl, h⟩
theorem lcA_all (h1 : h env = KP.ret (xs.map f)) (hl : xs.length ≤ sizeLine) (h2 : ∀ x ∈ xs, KP.bnd (ofO (t (.d (f x)) (wipeE (stillE env) vs))) e = KP.ret (.d (g x))) : lcA h t bYes e vs env = KP.ret (xs.map g) := by
  have := lcA_of (t := t) (c := bYes) (e := e) (b := fun _ => true) (g := g) (vs := vs) h1 hl fun x hx => by
    obtain ⟨env', e1, e2⟩ := ofO_bnd (h2 x hx)
    exact ⟨env', e1, rfl, fun _ => e2⟩
  rwa [show xs.filter (fun _ => true) = xs from List.filter_eq_self.mpr fun _ _ => rfl] at this
theorem lcA_fil (h1 : h env = KP.ret (xs.map f)) (hl : xs.length ≤ sizeLine) (h2 : ∀ x ∈ xs, KP.bnd (ofO (t (.d (f x)) (wipeE (stillE env) vs))) c = KP.ret (b x)) (h3 : ∀ x ∈ xs, b x = true → KP.bnd (ofO (t (.d (f x)) (wipeE (stillE env) vs))) e = KP.ret (.d (g x))) : lcA h t c e vs env = KP.ret ((xs.filter b).map g) :=
  lcA_of h1 hl fun x hx => by
    obtain ⟨env', e1, e2⟩ := ofO_bnd (h2 x hx)
    refine ⟨env', e1, e2, fun hb => ?_⟩
    have := h3 x hx hb
    rw [e1] at this
    exact this
theorem lcB_fil (h1 : h env = KP.ret (xs.map f)) (hl : xs.length ≤ sizeLine) (h2 : ∀ x ∈ xs, KP.bnd (ofO (t (.d (f x)) (viewE (wipeE env vs)))) c = KP.ret (b x)) (h3 : ∀ x ∈ xs, b x = true → KP.bnd (ofO (t (.d (f x)) (viewE (wipeE env vs)))) e = KP.ret (.d (g x))) (hi : ∀ x, imm (g x) = true) : lcB h t c e vs env = KP.ret ((xs.filter b).map g) :=
  lcB_of h1 hl (fun x hx => by
    obtain ⟨env', e1, e2⟩ := ofO_bnd (h2 x hx)
    refine ⟨env', e1, e2, fun hb => ?_⟩
    have := h3 x hx hb
    rw [e1] at this
    exact this) hi
theorem lcC_all (h1 : h env = KP.ret (xs.map f)) (hl : xs.length ≤ sizeLine) (h2 : ∀ x ∈ xs, KP.bnd (ofO (t (.d (f x)) (viewE (wipeE env vs)))) e = KP.ret (.d (g x))) : lcC h t bYes e vs env = KP.ret (.d (.list (xs.map g))) := by
  have := lcC_of (t := t) (c := bYes) (e := e) (b := fun _ => true) (g := g) (vs := vs) h1 hl fun x hx => by
    obtain ⟨env', e1, e2⟩ := ofO_bnd (h2 x hx)
    exact ⟨env', e1, rfl, fun _ => e2⟩
  rwa [show xs.filter (fun _ => true) = xs from List.filter_eq_self.mpr fun _ _ => rfl] at this
end
section
variable {α β γ : Type}
/-- a lifted first part, under a bind -/
theorem Sat.lb {m : M α} {f : α → M β} {env : En} {k : β → M (Fl × En)} {K : Fl × En → M γ} {S : Sto} {P1 : α → Sto → Prop} {P : γ → Sto → Prop} (h : Sat m S P1) (hk : ∀ a S', P1 a S' → Sat (KP.bnd (KP.lift env (f a) k) K) S' P) : Sat (KP.bnd (KP.lift env (KP.bnd m f) k) K) S P := by
  obtain ⟨a, S', e, q⟩ := h.ok
  have e2 : KP.bnd (KP.lift env (KP.bnd m f) k) K S = KP.bnd (KP.lift env (f a) k) K S' := by simp only [KP.bnd, KP.lift, e]
  refine ⟨?_⟩
  rw [e2]
  exact (hk a S' q).out
theorem Sat.l {m : M α} {env : En} {k : α → M (Fl × En)} {K : Fl × En → M γ} {S : Sto} {P1 : α → Sto → Prop} {P : γ → Sto → Prop} (h : Sat m S P1) (hk : ∀ a S', P1 a S' → Sat (KP.bnd (k a) K) S' P) : Sat (KP.bnd (KP.lift env m k) K) S P := by
  obtain ⟨a, S', e, q⟩ := h.ok
  have e2 : KP.bnd (KP.lift env m k) K S = KP.bnd (k a) K S' := by simp only [KP.bnd, KP.lift, e]
  refine ⟨?_⟩
  rw [e2]
  exact (hk a S' q).out
/-- a comprehension that draws -/
theorem Sat.lcA {t : TF} {e : DF} {f : α → PyData} {q : β → PyData} {vs : List Nat} {xs : List α} {env : En} {h : DL} {S : Sto} (I : List β → Sto → Prop) (h1 : h env = KP.ret (xs.map f)) (hl : xs.length ≤ sizeLine) (h0 : I [] S)
    (hs : ∀ x ∈ xs, ∀ acc S, acc.length < xs.length → I acc S → Sat (KP.bnd (ofO (t (.d (f x)) (wipeE (stillE env) vs))) e) S fun v S' => ∃ y, v = .d (q y) ∧ I (acc ++ [y]) S') :
    Sat (KP.lcA h t bYes e vs env) S fun ps S' => ∃ ys, ps = ys.map q ∧ ys.length = xs.length ∧ I ys S' := by
  unfold KP.lcA
  rw [h1, bnd_ret, if_pos (by simpa using hl)]
  suffices H : ∀ (rest : List α) (acc : List β) (S : Sto), acc.length + rest.length = xs.length → (∀ x ∈ rest, x ∈ xs) → I acc S → Sat (compL t bYes e (wipeE (stillE env) vs) (rest.map f)) S fun ps S' => ∃ ys, ps = ys.map q ∧ ys.length = rest.length ∧ I (acc ++ ys) S' by
    refine ⟨noX_sat ((H xs [] S (by simp) (fun _ h => h) h0).mono ?_).out⟩
    rintro ps S' ⟨ys, e, hl, hI⟩
    exact ⟨ys, e, hl, by simpa using hI⟩
  intro rest
  induction rest with
  | nil => intro acc S _ _ hI; exact Sat.ret ⟨[], rfl, rfl, by simpa using hI⟩
  | cons x rest ih =>
    intro acc S hlen hm hI
    have := hs x (hm x (by simp)) acc S (by simp at hlen; omega) hI
    cases ho : t (.d (f x)) (wipeE (stillE env) vs) with
    | none => rw [ho] at this; exact (show False from this.out).elim
    | some env' =>
      rw [ho] at this
      show Sat (KP.bnd (ofO (t (.d (f x)) (wipeE (stillE env) vs))) _) S _
      rw [ho, ofO_some, bnd_ret]
      show Sat (KP.bnd (bYes env') _) S _
      rw [bYes_eq, bnd_ret, if_pos rfl]
      refine Sat.bnd this ?_
      intro v S1 hv
      obtain ⟨y, hv, hy⟩ := hv
      rw [hv]
      refine Sat.bnd (ih (acc ++ [y]) S1 (by simp at hlen ⊢; omega) (fun z hz => hm z (by simp [hz])) hy) ?_
      intro ps S2 hps
      obtain ⟨ys, e2, hl2, hI2⟩ := hps
      exact Sat.ret ⟨y :: ys, by rw [e2]; rfl, by simp [hl2], by simpa using hI2⟩
end
@[simp] theorem cIndex_eq (env : En) (fo f : DF) : cIndex fo f env = bnd (fo env) fun v => bnd (ofO v.asLst) fun xs => bnd (f env) fun w => ofO (gIndex xs w) := rfl
theorem ixN_nat {n k : Nat} (h : k < n) : ixN n (k : Int) = some k := by
  unfold ixN
  rw [if_pos (by omega), if_pos (by omega)]; simp
@[simp] theorem sDPutO_eq (env : En) (i : Nat) (fk f : DF) : sDPutO i fk f env = lift env (f env) fun v => bnd (ofO v.asD) fun x => bnd (ofO ((lk env i).bind Sv.asDD)) fun d => lift env (fk env) fun kv => bnd (ofO kv.asD) fun k => bnd (ofO (d.put k x)) fun d' => ret (.nx, env.set i (some (.dd d'))) := rfl
@[simp] theorem sAppR_eq (env : En) (i : Nat) (fk f : DF) : sAppR i fk f env = bnd (ofO ((lk env i).bind Sv.asL2)) fun xss => lift env (fk env) fun k => bnd (ofO (k.asI.bind (ixN xss.length))) fun j => bnd (ofO xss[j]?) fun xs => lift env (f env) fun v => bnd (ofO v.asD) fun p =>
  if xs.length < sizeLine then ret (.nx, env.set i (some (.l2 (xss.set j (xs ++ [p]))))) else no := rfl
@[simp] theorem sSetR_eq (env : En) (i : Nat) (fk fl f : DF) : sSetR i fk fl f env = lift env (f env) fun v => bnd (ofO v.asD) fun p => bnd (ofO ((lk env i).bind Sv.asL2)) fun xss => lift env (fk env) fun k => bnd (ofO (k.asI.bind (ixN xss.length))) fun j => bnd (ofO xss[j]?) fun xs => lift env (fl env) fun l => bnd (ofO (l.asI.bind (ixN xs.length))) fun m =>
  ret (.nx, env.set i (some (.l2 (xss.set j (xs.set m p))))) := rfl
@[simp] theorem sRows_eq (env : En) (f : DL) (t : TF) (e : DLs) (vs : List Nat) (i : Nat) : sRows f t e vs i env = lift env (f env) fun ps => if ps.length ≤ sizeLine ∧ i < env.length then bnd (noX (compR t e (wipeE (stillE env) vs) ps)) (fun xss => ret (.nx, env.set i (some (.l2 xss)))) else no := rfl
theorem compR_all {α : Type} {t : TF} {e : DLs} {env : En} {f : α → PyData} {g : α → List PyData} : ∀ {xs : List α}, (∀ x ∈ xs, bnd (ofO (t (.d (f x)) env)) e = ret (g x)) → compR t e env (xs.map f) = ret (xs.map g)
  | [], _ => rfl
  | x :: xs, h => by
    obtain ⟨env', e1, e2⟩ := ofO_bnd (h x (by simp))
    have ih := compR_all (xs := xs) fun y hy => h y (by simp [hy])
    show bnd (ofO (t (.d (f x)) env)) _ = _
    rw [e1, ofO_some, bnd_ret, e2, bnd_ret]
    show bnd (compR t e env (xs.map f)) _ = _
    rw [ih]; rfl
theorem range_split {n x : Nat} {done rest : List Nat} (h : List.range n = done ++ x :: rest) : x = done.length ∧ x < n := by
  have h1 : (List.range n)[done.length]? = some x := by rw [h]; simp
  have h2 : done.length < n := by
    have := congrArg List.length h
    simp at this
    omega
  rw [List.getElem?_range h2] at h1
  cases h1
  exact ⟨rfl, h2⟩
theorem zip_split {α : Type} {xs : List α} {x : α} {i : Nat} {done rest : List (α × Nat)} (h : xs.zipIdx = done ++ (x, i) :: rest) : i = done.length ∧ i < xs.length ∧ xs[i]? = some x := by
  have h1 : xs.zipIdx[done.length]? = some (x, i) := by rw [h]; simp
  rw [List.getElem?_zipIdx] at h1
  cases e : xs[done.length]? with
  | none => rw [e] at h1; cases h1
  | some y =>
    rw [e] at h1
    simp at h1
    obtain ⟨rfl, rfl⟩ := h1
    exact ⟨rfl, (List.getElem?_eq_some_iff.mp e).1, e⟩
/-! loops with what is behind them -/
section
variable {α β : Type} {t : TF} {body : SF} {f : α → PyData} {xs : List α} {env : En} {S : Sto}
theorem Pu.for0 {Q : Fl × En → Prop} (I : List α → En → Prop) (h0 : I [] env) (hs : ∀ done x rest env (Q : Fl × En → Prop), xs = done ++ x :: rest → I done env → (∀ env', I (done ++ [x]) env' → Q (.nx, env')) → Pu (KP.bnd (ofO (t (.d (f x)) env)) body) Q) (hk : ∀ env', I xs env' → Q (.nx, env')) : Pu (loopL t body (xs.map f) env) Q :=
  (Pu.loop I h0 fun done x rest env e hI => hs done x rest env _ e hI fun env' h => ⟨rfl, h⟩).mono fun ⟨fl, env'⟩ ⟨h1, h2⟩ => by
    dsimp only at h1
    subst h1
    exact hk env' h2
theorem Pu.for_ {k : Fl × En → M β} {P : β → Prop} (I : List α → En → Prop) (h0 : I [] env) (hs : ∀ done x rest env (Q : Fl × En → Prop), xs = done ++ x :: rest → I done env → (∀ env', I (done ++ [x]) env' → Q (.nx, env')) → Pu (KP.bnd (ofO (t (.d (f x)) env)) body) Q) (hk : ∀ env', I xs env' → Pu (k (.nx, env')) P) : Pu (KP.bnd (loopL t body (xs.map f) env) k) P :=
  Pu.bnd (Pu.for0 (Q := fun r => Pu (k r) P) I h0 hs hk) fun _ h => h
theorem Pu.try0 {Q : Fl × En → Prop} (I : List α → En → Prop) (E : List α → α → Va → Prop) (h0 : I [] env) (hs : ∀ done x rest env (Q : Fl × En → Prop), xs = done ++ x :: rest → I done env → (∀ env', I (done ++ [x]) env' → Q (.nx, env')) → (∀ w env', E done x w → Q (.rt w, env')) → Pu (KP.bnd (ofO (t (.d (f x)) env)) body) Q) (hk : ∀ env', I xs env' → Q (.nx, env')) (he : ∀ done x rest env0 w env', xs = done ++ x :: rest → I done env0 → E done x w → Q (.rt w, env')) : Pu (loopL t body (xs.map f) env) Q :=
  (Pu.early I E h0 fun done x rest env e hI => hs done x rest env _ e hI (fun env' h => .inr ⟨rfl, h⟩) fun w env' h => .inl ⟨w, rfl, h⟩).mono fun ⟨fl, env'⟩ h => by
    rcases h with ⟨done, x, rest, env0, w, h1, h2, h3, h4⟩ | ⟨h1, h2⟩
    · dsimp only at h3
      subst h3
      exact he done x rest env0 w env' h1 h2 h4
    · dsimp only at h1
      subst h1
      exact hk env' h2
theorem Pu.try_ {k : Fl × En → M β} {P : β → Prop} (I : List α → En → Prop) (E : List α → α → Va → Prop) (h0 : I [] env) (hs : ∀ done x rest env (Q : Fl × En → Prop), xs = done ++ x :: rest → I done env → (∀ env', I (done ++ [x]) env' → Q (.nx, env')) → (∀ w env', E done x w → Q (.rt w, env')) → Pu (KP.bnd (ofO (t (.d (f x)) env)) body) Q) (hk : ∀ env', I xs env' → Pu (k (.nx, env')) P) (he : ∀ done x rest env0 w env', xs = done ++ x :: rest → I done env0 → E done x w → Pu (k (.rt w, env')) P) : Pu (KP.bnd (loopL t body (xs.map f) env) k) P :=
  Pu.bnd (Pu.try0 (Q := fun r => Pu (k r) P) I E h0 hs hk he) fun _ h => h
theorem Sat.for0 {Q : Fl × En → Sto → Prop} (I : List α → En → Sto → Prop) (h0 : I [] env S) (hs : ∀ done x rest env S (Q : Fl × En → Sto → Prop), xs = done ++ x :: rest → I done env S → (∀ env' S', I (done ++ [x]) env' S' → Q (.nx, env') S') → Sat (KP.bnd (ofO (t (.d (f x)) env)) body) S Q) (hk : ∀ env' S', I xs env' S' → Q (.nx, env') S') : Sat (loopL t body (xs.map f) env) S Q :=
  (Sat.loop I h0 fun done x rest env S e hI => hs done x rest env S _ e hI fun env' S' h => ⟨rfl, h⟩).mono fun ⟨fl, env'⟩ S' ⟨h1, h2⟩ => by
    dsimp only at h1
    subst h1
    exact hk env' S' h2
theorem Sat.for_ {k : Fl × En → M β} {P : β → Sto → Prop} (I : List α → En → Sto → Prop) (h0 : I [] env S) (hs : ∀ done x rest env S (Q : Fl × En → Sto → Prop), xs = done ++ x :: rest → I done env S → (∀ env' S', I (done ++ [x]) env' S' → Q (.nx, env') S') → Sat (KP.bnd (ofO (t (.d (f x)) env)) body) S Q) (hk : ∀ env' S', I xs env' S' → Sat (k (.nx, env')) S' P) : Sat (KP.bnd (loopL t body (xs.map f) env) k) S P :=
  Sat.bnd (Sat.for0 (Q := fun r S' => Sat (k r) S' P) I h0 hs hk) fun _ _ h => h
end
/-! ### slices, stars, two fors -/
@[simp] theorem gSlA_l (xs : List PyData) (a b : Option Int) : gSlA (.d (.list xs)) a b = gSlL (.d (.list xs)) a b := rfl
@[simp] theorem gSlA_s (ns : List Int) (a b : Option Int) : gSlA (.s ns) a b = gSlL (.s ns) a b := rfl
@[simp] theorem gSlA_t (xs : List PyData) (a b : Option Int) : gSlA (.d (.tuple xs)) a b = some (.d (.tuple (cutD xs a b))) := rfl
@[simp] theorem gRevT_t (xs : List PyData) : gRevT (.d (.tuple xs)) = some (.d (.tuple xs.reverse)) := rfl
@[simp] theorem gD0_eq : gD0 [] = some (.d (.dict [])) := rfl
@[simp] theorem aStar_eq (f : DF) (fs : DFA) (env : En) : aStar f fs env = bnd (f env) fun v => bnd (ofO (seqOf v)) fun ps => bnd (fs env) fun vs => ret (ps.map Va.d ++ vs) := rfl
@[simp] theorem sExt_eq (i : Nat) (g : DLs) (env : En) : sExt i g env = bnd (ofO ((lk env i).bind Sv.asL1)) fun xs => lift env (g env) fun ys => if xs.length + ys.length ≤ sizeLine then ret (.nx, env.set i (some (.l1 (xs ++ ys)))) else no := rfl
@[simp] theorem sPop_eq (i : Nat) (t : TF) (env : En) : sPop i t env = bnd (ofO ((lk env i).bind Sv.asL1)) fun xs => bnd (ofO xs[xs.length - 1]?) fun p => bnd (ofO (t (.d p) (env.set i (some (.l1 xs.dropLast))))) fun env' => ret (.nx, env') := rfl
theorem lcA2_all {α β : Type} {h h1 : DL} {t t1 : TF} {e : DF} {f : α → PyData} {f1 : β → PyData} {g : α → β → PyData} {vs vs1 : List Nat} {xs : List α} {ys : α → List β} {env : En}
    (h0 : h env = KP.ret (xs.map f)) (hx : ∀ x ∈ xs, ∃ env1, t (.d (f x)) (wipeE (stillE env) vs) = some env1 ∧ h1 env1 = KP.ret ((ys x).map f1) ∧ ∀ y ∈ ys x, KP.bnd (ofO (t1 (.d (f1 y)) (wipeE env1 vs1))) e = KP.ret (.d (g x y)))
    (hl : (xs.flatMap fun x => (ys x).map (g x)).length ≤ sizeLine) : lcA2 h t bYes h1 t1 bYes e vs vs1 env = KP.ret (xs.flatMap fun x => (ys x).map (g x)) := by
  have inner : ∀ (x : α) (env1 : En) (zs : List β), (∀ y ∈ zs, KP.bnd (ofO (t1 (.d (f1 y)) env1)) e = KP.ret (.d (g x y))) → compL t1 bYes e env1 (zs.map f1) = KP.ret (zs.map (g x)) := by
    intro x env1 zs
    induction zs with
    | nil => intro _; rfl
    | cons z zs ih =>
      intro hz
      obtain ⟨env', e1, e2⟩ := ofO_bnd (hz z (by simp))
      have := ih (fun y hy => hz y (by simp [hy]))
      simp -implicitDefEqProofs [compL, e1, bYes, e2]
      rw [this]
      simp -implicitDefEqProofs
  have outer : ∀ zs : List α, (∀ x ∈ zs, x ∈ xs) → compL2 t bYes h1 t1 bYes e vs1 (wipeE (stillE env) vs) (zs.map f) = KP.ret (zs.flatMap fun x => (ys x).map (g x)) := by
    intro zs
    induction zs with
    | nil => intro _; rfl
    | cons z zs ih =>
      intro hz
      obtain ⟨env1, e1, e2, e3⟩ := hx z (hz z (by simp))
      have i1 := inner z _ (ys z) e3
      have i2 := ih fun y hy => hz y (by simp [hy])
      simp -implicitDefEqProofs [compL2, e1, bYes, e2, i1, i2]
  unfold lcA2
  rw [h0]
  have o := outer xs fun x h => h
  rw [bnd_ret, o, bnd_ret, if_pos hl, noX_ret]
end KP


set_option Elab.async false
set_option linter.all false
set_option maxRecDepth 100000
/-! KUp: dict.update between dicts with tuple keys. -/
namespace KP
open PySem PySem.Spec PyProof.Rows L2
def mergeT (kvs more : List (List Key × V)) : List (List Key × V) := more.foldl (fun acc kv => putK acc kv.1 kv.2) kvs
theorem KT_merge {H : Hp} : ∀ {more : List (List Key × V)} {ys : List (List Key × Addr × Value)}, KT H more ys → ∀ {kvs : List (List Key × V)} {xs : List (List Key × Addr × Value)}, KT H kvs xs → KT H (mergeT kvs more) (storedAllH xs ys) := by
  intro more ys r
  induction r with
  | nil => intro kvs xs q; exact q
  | @cons p q ps qs h t ih =>
    intro kvs xs r0
    obtain ⟨e1, e2, e3⟩ := h
    have := KT.put r0 p.1 e2 e3
    rw [show storedH xs p.1 q.2.1 q.2.2 = storedH xs q.1 q.2.1 q.2.2 by rw [e1]] at this
    exact ih this
theorem mergeT_len : ∀ (more kvs : List (List Key × V)), (mergeT kvs more).length ≤ kvs.length + more.length
  | [], kvs => Nat.le_refl _
  | p :: r, kvs => by
    have h1 := mergeT_len r (putK kvs p.1 p.2)
    have h2 := length_putK kvs p.1 p.2
    show (mergeT (putK kvs p.1 p.2) r).length ≤ _
    rw [List.length_cons]; omega
def rUpdT : V → List V → Hp → VK → Prop := fun x us H Q => ∃ a b kvs more, x = .ref a ∧ us = [.ref b] ∧ a ≠ b ∧ H a = some (.dT kvs) ∧ H b = some (.dT more) ∧ kvs ≠ [] ∧ kvs.length + more.length ≤ sizeLine ∧ Q .non (upd H a (.dT (mergeT kvs more)))
theorem mt_updT {X : Cx} (hu : X.A.units + 1 < cLine) : MtR X "dict.update" rUpdT := by
  intro pins s σ H x us0 v us Q I rx rv h
  obtain ⟨a, b, kvs, more, rfl, rfl, hab, ha, hb, hne, hz, q⟩ := h
  cases rx
  cases rv with
  | cons r1 r2 =>
    cases r2
    cases r1
    obtain ⟨z, hd, xs, rel, dd⟩ := dt_of I.hok ha
    obtain ⟨z2, hd2, ys, rel2, dd2⟩ := dt_of I.hok hb
    have hx : xs ≠ [] := fun e => by
      have := Paired.length rel
      rw [e] at this
      exact hne (List.length_eq_zero_iff.mp this)
    refine call_update_dictH (tupleKind_room_in1 hu) hab hd2 dd dd2 (.inl hx) (by rw [← Paired.length rel, ← Paired.length rel2]; exact hz) fun h' dd' ddo' hs => ⟨.non, _, ?_, rfl, q⟩
    have hl : (mergeT kvs more).length ≤ sizeLine := Nat.le_trans (mergeT_len more kvs) hz
    obtain ⟨o, es, ep, hq, h2, h3, h4, _, h5⟩ := dd'
    refine d_write I (by rw [ha]; exact True.intro) hs ⟨o, hq⟩ ⟨hl, hd, _, (KT_merge rel2 rel).keeps fun c ys ec => ?_, o, es, ep, hq, h2, h3, h4, h5⟩
    rw [upd_ne (ne_of ec ha (fun z => nomatch z))]
    exact ec
end KP


set_option Elab.async false
set_option linter.all false
set_option maxRecDepth 100000
/-! KDc: a dict comprehension whose keys are tuples; a display with one such key. -/
namespace KP
open PySem PySem.Spec PyProof.Rows L2
/-- storing under a tuple while the dict is being made -/
theorem put_tup {X : Cx} {pins : List (Addr × Obj)} {σ : L2.St} {H : Hp} {s : Shared} {E : Value → Shared → Prop} {D b : Addr} {kvs : List (List Key × V)} {k : List Key} {v : V} {u r : Value} {Q : Unit → Shared → Prop} (hu : X.A.units < cLine) (I : Inv X pins σ H s) (hD : H D = some (.dT kvs)) (hz : kvs.length < sizeLine)
    (hb : H b = some (.tup (k.map kV))) (ry : RelV (.ref b) u) (rv : RelV v r) (h : ∀ s', Inv X pins σ (upd H D (.dT (putK kvs k v))) s' → Q () s') : wpAny (model X.prog X.w) X.A (dictSet D u r) Q E s := by
  cases (show u = Value.ref b from ry)
  obtain ⟨z, hd, xs, rel, dd⟩ := dt_of I.hok hD
  have hzx : xs.length ≤ sizeLine := by rw [← Paired.length rel]; exact z
  have hl : (putK kvs k v).length ≤ sizeLine := Nat.le_trans (length_putK kvs k v) hz
  refine wpAny_dictSet_heap (hsz := hzx) (show (tupleKind (mixKind X.prog X.w)).room X.A from hu) (key_of I.hok hb) dd fun h' dd' hs => h _ ?_
  obtain ⟨o, es, ep, hq, h2, h3, h4, _, h5⟩ := dd'
  refine d_write I (by rw [hD]; exact True.intro) hs ⟨o, hq⟩ ⟨hl, hd, _, (KT.put rel k hb rv).keeps fun c ys ec => ?_, o, es, ep, hq, h2, h3, h4, h5⟩
  rw [upd_ne (ne_of ec hD (fun z => nomatch z))]
  exact ec
section
variable {X : Cx}
/-- what a turn of a comprehension's loop asks, its keys being tuples -/
def dStep (g : TG) (tt : TT) (tk tv : TE) (vs : List Nat) (σ : L2.St) (D : Addr) (x : V) (H : Hp) (Nx : Hp → Prop) : Prop := g x (wipe σ vs) H fun σ2 H2 => wipe σ2 vs = wipe σ vs ∧ tt σ2 H2 fun c H3 =>
  if c = true then tk σ2 H3 fun y H4 => tv σ2 H4 fun z H5 => ∃ kvs k b, y = .ref b ∧ H5 b = some (.tup (k.map kV)) ∧ H5 D = some (.dT kvs) ∧ kvs.length < sizeLine ∧ Nx (upd H5 D (.dT (putK kvs k z))) else Nx H3
def tDcT (wi : TI) (g : TG) (tt : TT) (tk tv : TE) (vs : List Nat) : TE := fun σ H Q => wi σ H fun J H1 => ∀ D, H1 D = none → ∃ Iv : Nat → Nat → Hp → Prop, (∃ m, Iv 0 m (upd H1 D (.dT []))) ∧ ∀ i m H, Iv i m H →
  (J.stop i H ∧ Q (.ref D) H) ∨ (J.go i H ∧ ∃ Nx : Hp → Prop, (∀ H', Nx H' → ∃ m', m' < m ∧ Iv (i + 1) m' H') ∧ ∀ x H', J.yld i H x H' → dStep g tt tk tv vs σ D x H' Nx)
theorem pe_dcT {kx vx tg iter : Expr} {ifs : List Expr} {scope : Scope} {own : List (Str × Nat)} {pos : Pos} {wi : TI} {g : TG} {tt : TT} {tk tv : TE} (hu : X.A.units < cLine) (calm : X.calm = true) (nod : X.N.Nodup) (pi : PI X tg iter wi) (blk : BlkOk X.N X.env.scope scope own)
    (pgs : ∀ (s : Shared) (H : Hp) (C : Addr) (cl : List (Str × Addr)) (fp : List Addr), PG (X.blk s H scope (compEnvC scope cl C X.env) fp) tg g)
    (pts : ∀ (s : Shared) (H : Hp) (C : Addr) (cl : List (Str × Addr)) (fp : List Addr), PTs (X.blk s H scope (compEnvC scope cl C X.env) fp) ifs tt)
    (pks : ∀ (s : Shared) (H : Hp) (C : Addr) (cl : List (Str × Addr)) (fp : List Addr), PE (X.blk s H scope (compEnvC scope cl C X.env) fp) kx tk)
    (pvs : ∀ (s : Shared) (H : Hp) (C : Addr) (cl : List (Str × Addr)) (fp : List Addr), PE (X.blk s H scope (compEnvC scope cl C X.env) fp) vx tv) (fold : ∀ x, foldedSetIterable iter X.env x = pure x := by intro _; rfl) :
    PE X (.DictComp kx vx [⟨tg, iter, ifs, 0⟩] scope pos) (tDcT wi g tt tk tv (own.map (·.2))) := by
  constructor
  intro pins s σ H Q I0 want
  rw [arm_eval_DictComp]
  have cells : ∀ y ∈ scope.names, y.2 = .free → ∃ c, X.env.cells.lookup y.1 = some c := by
    intro y hy e
    exact (blk.free y hy e).elim (fun k => I0.ok.has _ (.inl k)) (fun k => I0.ok.has _ (.inr k))
  refine wpAny_comprehension_free rfl fold (closure_ok cells) blk.kind (fun y hy e => by rw [blk.uniq y hy, e]) (thn (pi.run pins s σ H _ I0 want) fun xv s1 hx => thn hx fun itv s2 got => ?_)
  obtain ⟨it, fp, tn, J, H2, rfl, I2, T, st2, f2, rest⟩ := got
  refine wpAny_newObj_type (newEnv_comp ?_)
  obtain ⟨D, eD⟩ : ∃ D, s2.heap.objs.size = D := ⟨_, rfl⟩
  rw [eD]
  have freshD : H2 D = none := I2.hok.fresh (Nat.le_of_eq eD)
  obtain ⟨Iv, ⟨m0, start⟩, turn⟩ := rest D freshD
  let dd : Obj := { cls := .type "dict", data := .dict #[] }
  obtain ⟨s3, e3⟩ : ∃ s3 : Shared, { s2 with heap := s2.heap.push { cls := .type "dict", data := .dict #[] } } = s3 := ⟨_, rfl⟩
  have I3 : Inv X pins σ (upd H2 D (.dT [])) s3 := by
    subst e3
    exact I2.laid (t' := s2.toks) (fun b o q => Heap.get?_push_of_some _ q) (Nat.le_of_eq eD) (by rw [← eD]; exact dt_empty s2.heap I2.big)
  have heap3 : s3.heap = s2.heap.push { cls := .type "dict", data := .dict #[] } := by rw [← e3]
  have small : ∀ b ∈ fp, b < s2.heap.objs.size := by
    intro b hb
    obtain ⟨_, q, _⟩ := T.obj _ _ st2 b hb
    exact Heap.lt_size q
  have f3 : ∀ b ∈ fp, FpOk X pins (upd H2 D (.dT [])) b ∧ b < s3.heap.objs.size := by
    intro b hb
    have lt := small b hb
    constructor
    · constructor
      · rw [upd_ne (by rw [← eD]; exact Nat.ne_of_lt lt)]
        exact (f2 b hb).1
      · exact (f2 b hb).2
    · rw [heap3, Heap.size_push]
      exact Nat.lt_succ_of_lt lt
  have st3 : tn 0 s3.heap := by
    refine T.keep _ _ _ st2 fun b _ o q => ?_
    rw [heap3]
    exact Heap.get?_push_of_some _ q
  have I4 := block_start I3 blk nod f3
  rw [e3]
  -- the block's own environment
  obtain ⟨cl, ecl⟩ : ∃ cl, cellsFrom (s3.heap.objs.size + 1) scope.names (cloFrom X.env.cells scope.names []) = cl := ⟨_, rfl⟩
  rw [ecl] at I4 ⊢
  obtain ⟨H3, eH3⟩ : ∃ H3, upd H2 D (.dT []) = H3 := ⟨_, rfl⟩
  rw [eH3] at I3 I4 f3 start
  have none3 : ∀ b ∈ fp, H3 b = none := fun b hb => (f3 b hb).1.1
  obtain ⟨ce, ece⟩ : ∃ ce, compEnvC scope cl s3.heap.objs.size X.env = ce := ⟨_, rfl⟩
  have pg := pgs s3 H3 s3.heap.objs.size cl fp
  have pt := pts s3 H3 s3.heap.objs.size cl fp
  have pk := pks s3 H3 s3.heap.objs.size cl fp
  have pv := pvs s3 H3 s3.heap.objs.size cl fp
  show codeAny _ _ (.compStart _ 0 _ _ (compEnvC scope cl s3.heap.objs.size X.env)) (compPost (model X.prog X.w) X.A X.xe none (EP X pins σ Q) (.ref D) s3.heap.objs.size) { s3 with heap := pushCells (s3.heap.push { cls := .type "dict", data := .dict #[] }) scope.names }
  rw [ece] at I4 pg pt pk pv ⊢
  have loc : ce.locals = s3.heap.objs.size := by rw [← ece]; rfl
  obtain ⟨s4, e4⟩ : ∃ s4 : Shared, { s3 with heap := pushCells (s3.heap.push { cls := .type "dict", data := .dict #[] }) scope.names } = s4 := ⟨_, rfl⟩
  rw [e4] at I4 ⊢
  have st4 : tn 0 s4.heap := by
    refine T.keep _ _ _ st3 fun b _ o q => ?_
    rw [← e4]
    exact pushCells_keeps _ _ _ _ (Heap.get?_push_of_some _ q)
  obtain ⟨Y, eY⟩ : ∃ Y, X.blk s3 H3 scope ce fp = Y := ⟨_, rfl⟩
  have stay : ∀ {σ' : L2.St} {H' : Hp} {s' : Shared}, Inv Y [] σ' H' s' → (∀ b ∈ fp, H' b = none) → ∀ b ∈ fp, FpOk Y [] H' b := by
    subst eY
    intro σ' H' s' J' nn b hb
    exact ⟨nn b hb, (J'.ok.exf b hb).1, J'.ok.exfs b hb, .inl hb, fun x c q => (J'.ok.exf b hb).2 x c q, fun p hp => absurd (show p ∈ ([] : List (Addr × Obj)) ++ [] from hp) (by simp)⟩
  have loop : codeAny (model X.prog X.w) X.A (.compLoop (.DictComp kx vx [⟨tg, iter, ifs, 0⟩] scope pos) 0 (.ref it) (.ref D) ce) (compPost (model X.prog X.w) X.A X.xe none (EP X pins σ Q) (.ref D) s3.heap.objs.size) s4 := by
    refine compLoop_anyD (fun n s' => ∃ i H', Inv Y [] (wipe σ (own.map (·.2))) H' s' ∧ tn i s'.heap ∧ (∀ b ∈ fp, H' b = none) ∧ Iv i n H') ?_ m0 ⟨0, H3, by rw [← eY]; exact I4, st4, none3, start⟩
    intro n s5 hyp
    obtain ⟨i, H5, I5, st5, n5, w5⟩ := hyp
    rcases turn i n H5 w5 with ⟨stop, fin⟩ | ⟨go, Nx, hNx, step⟩
    · have td := T.done Y (by rw [← eY]) (by rw [← eY]) (by rw [← eY]) (by rw [← eY]; exact calm) i [] s5 _ H5 (fun _ _ => False) I5 (stay I5 n5) st5 stop
      rw [← eY] at td
      refine thnF td fun r s6 hr => ?_
      obtain ⟨rfl, I6⟩ := hr
      have I7 : Inv X pins σ H5 s6 := I3.call' (ch := fp) I6.os I6.base I6.hok I6.bare fun b hb => ⟨(f3 b hb).1.2.2.2.1, (f3 b hb).1.2.1, (f3 b hb).1.2.2.2.2.1, (f3 b hb).1.2.2.2.2.2⟩
      have gone : H5 s3.heap.objs.size = none := by
        have z : H5 ce.locals = none := I6.free
        rwa [loc] at z
      obtain ⟨m, ns, _⟩ := I6.loc
      have ns : s6.heap.Ns ce.locals m := ns
      rw [loc] at ns
      refine ⟨m, ns, fun h'' sb => ?_⟩
      obtain ⟨f0, f1, f2', f3', f4, f5⟩ := I3.fpOk (Nat.le_refl _) gone
      exact ⟨.ref D, H5, I7.turned (t' := s6.toks) (fun b o hb q => (sb.2 b hb).trans q) f0 f1 f3' f4 f5, rfl, fin⟩
    · have ti := T.item Y (by rw [← eY]) (by rw [← eY]) (by rw [← eY]) (by rw [← eY]; exact calm) i [] s5 _ H5 (fun _ _ => False) I5 (stay I5 n5) st5 go
      subst eY
      refine thnF ti fun r s6 hr => ?_
      obtain ⟨u, rfl, h6⟩ := hr
      refine thnF h6 fun _ s7 hs7 => ?_
      obtain ⟨x, H7, I7, r7, y7, st7, n7⟩ := hs7
      have I7p := I7.pinned (stay I7 n7) (T.obj _ _ st7)
      refine thnF (pg.run _ s7 _ H7 x u _ I7p r7 (step x H7 y7)) fun _ s8 hs8 => ?_
      obtain ⟨σ8, H8, I8, w8, q8⟩ := hs8
      refine thnF (pt.run _ s8 σ8 H8 _ I8 q8) fun c s9 hs9 => ?_
      obtain ⟨H9, I9, q9⟩ := hs9
      have next : ∀ {s' : Shared} {H' : Hp}, Inv (X.blk s3 H3 scope ce fp) ([] ++ pinsAt fp s7.heap) σ8 H' s' → Nx H' → ∃ m, m < n ∧ ∃ i H', Inv (X.blk s3 H3 scope ce fp) [] (wipe σ (own.map (·.2))) H' s' ∧ tn i s'.heap ∧ (∀ b ∈ fp, H' b = none) ∧ Iv i m H' := by
        intro s' H' J' nx
        obtain ⟨m', lt, w'⟩ := hNx H' nx
        have pin : ∀ b ∈ fp, ∀ o, s7.heap.get? b = some o → s'.heap.get? b = some o ∧ H' b = none := by
          intro b hb o q
          have z := J'.pin (b, o) (List.mem_append_right _ (List.mem_append_right _ (mem_pinsAt hb q)))
          exact ⟨z.1, z.2.1⟩
        have len : (wipe σ (own.map (·.2))).length = σ8.length := by rw [← w8, wipe_length]
        refine ⟨m', lt, i + 1, H', (J'.unpinned (pins := [])).weak len ?_, T.keep _ _ _ st7 fun b hb o q => (pin b hb o q).1, ?_, w'⟩
        · intro j v q
          rw [← w8] at q
          exact (wipe_some q).1
        · intro b hb
          obtain ⟨o, q, _⟩ := T.obj _ _ st7 b hb
          exact (pin b hb o q).2
      cases c with
      | false =>
        rw [if_neg Bool.false_ne_true] at q9 ⊢
        exact next I9 q9
      | true =>
        rw [if_pos rfl] at q9 ⊢
        refine thnF (pk.run _ s9 σ8 H9 _ I9 q9) fun zk s10 hs10 => ?_
        obtain ⟨yk, H10, I10, r10, q10⟩ := hs10
        refine thnF (pv.run _ s10 σ8 H10 _ I10 q10) fun zv s11 hs11 => ?_
        obtain ⟨yv, H11, I11, r11, kvs, k, b, rfl, hb, hD, lt, nx⟩ := hs11
        exact put_tup (X := X.blk s3 H3 scope ce fp) hu I11 hD lt hb r10 r11 fun s12 I12 => next I12 nx
  exact codeAny_compStart_dict loop (T.self X.A 0 _ _ _ st4 loop)
/-- a display of one pair, its key a tuple -/
def tDisp1 (tk tv : TE) : TE := fun σ H Q => ∀ p, H p = none → tk σ (upd H p (.dT [])) fun y H1 => tv σ H1 fun z H2 => ∃ k b, y = .ref b ∧ H2 b = some (.tup (k.map kV)) ∧ H2 p = some (.dT []) ∧ Q (.ref p) (upd H2 p (.dT [(k, z)]))
theorem pe_disp1 {k v : Expr} {pos : Pos} {tk tv : TE} (hu : X.A.units < cLine) (hk : PE X k tk) (hv : PE X v tv) : PE X (.Dict [some k] [v] pos) (tDisp1 tk tv) := by
  constructor
  intro pins s σ H Q I q
  have hn := I.hok.fresh (Nat.le_refl s.heap.objs.size)
  have I1 := I.laid (a := s.heap.objs.size) (o := .dT []) (h' := s.heap.push { cls := .type "dict", data := .dict #[] }) (t' := s.toks) (fun _ _ q => Heap.get?_push_of_some _ q) (Nat.le_refl _) (dt_empty s.heap I.big)
  have shape := zip_pairTrees [some k] [v] X.env pos rfl rfl
  rw [arm_eval_Dict, shape, dictDisplay_pairs (pairTrees [some k] [v] X.env pos) (by simp [pairTrees]) (by rw [pairTrees_length [some k] [v] X.env pos rfl rfl]; show 1 < 17; decide)]
  refine wpAny_bind (wpAny_standAt (wpAny_bind ?_))
  unfold subDict
  refine wpAny_bind (wpAny_alloc ?_)
  refine wpAny_bind (wpAny_holding ?_)
  rw [if_pos (by rw [pairTrees_length [some k] [v] X.env pos rfl rfl]; show 1 ≤ 15; decide)]
  refine wpAny_bind ?_
  refine pairTrees_cons_walk (thn (hk.run pins _ σ _ _ I1 (q _ hn)) fun kv s1 hs1 => ?_)
  obtain ⟨y, H1, I2, ry, q1⟩ := hs1
  refine thn (hv.run pins s1 σ H1 _ I2 q1) fun vv s2 hs2 => ?_
  obtain ⟨z, H2, I3, rz, k', b, rfl, hb, hp, q2⟩ := hs2
  refine pairTrees_nil_walk ?_
  refine wpAny_holding ?_
  rw [List.forIn_cons]
  refine wpAny_bind (wpAny_bind (wpAny_bind (put_tup hu I3 hp (by decide) hb ry rz fun s3 I4 => ?_)))
  refine wpAny_pure ?_
  show wpAny _ _ (forIn [] PUnit.unit _) _ _ _
  rw [List.forIn_nil]
  exact wpAny_pure (wpAny_pure (wpAny_pure (wpAny_pure ⟨.ref s.heap.objs.size, _, I4, rfl, q2⟩)))
end
end KP


set_option Elab.async false
set_option linter.all false
set_option maxRecDepth 100000
/-! KDd: dicts with tuple keys as data: list(d), comprehensions, update, displays. -/
namespace KP
open PySem PySem.Spec PyProof.Rows L2
theorem keyIs_rel {P : Program} {w : World} {k : Key} {u : Value} (h : (mixKind P w).is k u = true) : RelV (kV k) u := by
  rcases keyIs_shape h with ⟨i, t, rfl, rfl⟩ | ⟨x, t, rfl, rfl⟩
  · exact ⟨t, rfl⟩
  · exact ⟨t, rfl⟩
/-- where the keys of a dict stand -/
abbrev KeysAt (H : Hp) : List (List Key × V) → List Addr → Prop := Paired fun p b => H b = some (.tup (p.1.map kV)) ∧ p.1.length ≤ sizeLine
def rListD : List V → Hp → VK → Prop := fun xs H Q => ∃ a, xs = [.ref a] ∧ ((∃ kvs, H a = some (.dT kvs) ∧ ∀ bs l, kvs.length ≤ sizeLine → KeysAt H kvs bs → H l = none → Q (.ref l) (upd H l (.lst (bs.map V.ref)))) ∨
  ∃ kvs, H a = some (.dK kvs) ∧ ∀ l, kvs.length ≤ sizeLine → H l = none → Q (.ref l) (upd H l (.lst (kvs.map fun p => kV p.1))))
theorem vals_iff {xs : List V} {us : List Value} (hl : xs.length = us.length) (h : ∀ (i : Nat) x u, xs[i]? = some x → us[i]? = some u → RelV x u) : Vals xs us := by
  induction xs generalizing us with
  | nil => cases us with
    | nil => exact .nil
    | cons _ _ => simp at hl
  | cons x xs ih => cases us with
    | nil => simp at hl
    | cons u us => exact .cons (h 0 x u rfl rfl) (ih (by simpa using hl) fun i y v h1 h2 => h (i + 1) y v (by simpa using h1) (by simpa using h2))
theorem keys_of {X : Cx} {pins : List (Addr × Obj)} {σ : L2.St} {H : Hp} {s : Shared} (I : Inv X pins σ H s) : ∀ {kvs : List (List Key × V)} {xs : List (List Key × Addr × Value)}, KT H kvs xs → KeysAt H kvs (xs.map (·.2.1))
  | _, _, .nil => .nil
  | _, _, .cons h t => by
    have l := (I.hok _ _ h.2.1).1
    rw [List.length_map] at l
    exact .cons ⟨h.2.1, l⟩ (keys_of I t)
theorem call_listD {X : Cx} (hc : X.calm = true) : CallR X (.type "list") rListD := by
  intro pins s σ H xs us Q I r h
  obtain ⟨a, rfl, h⟩ := h
  obtain ⟨u, rfl, ru⟩ := vals1 r
  cases ru
  rcases h with ⟨kvs, ha, q⟩ | ⟨kvs, ha, q⟩
  · obtain ⟨z, hd, xs, rel, o, es, ep, ho, ex, hdat, he, his, nd⟩ := dt_of I.hok ha
    have sz : es.size = xs.length := by rw [← Array.length_toList, he, List.length_map]
    refine PySem.W.kdl_call (PySem.KdlSrc.rawDict (es := es) (ep := ep) hd) (I.ok.hd hc) ⟨o, ho, ex, hdat⟩ (by rw [sz, ← Paired.length rel]; exact z) fun h' tk acc' c' kp hg hacc => ?_
    have el : acc'.toList = (xs.map (·.2.1)).map Value.ref := by
      apply List.ext_getElem?
      intro j
      rw [List.getElem?_map, List.getElem?_map]
      cases hx : xs[j]? with
      | none =>
        rw [Array.getElem?_toList]
        have : ¬ j < xs.length := by simpa using hx
        rw [Array.getElem?_eq_none (by rw [hacc.1, sz]; omega)]
        rfl
      | some x =>
        have hj : j < xs.length := (List.getElem?_eq_some_iff.mp hx).1
        have hj' : j < acc'.size := by rw [hacc.1, sz]; exact hj
        obtain ⟨hi, e⟩ := hacc.2 j acc'[j] (by simp [hj'])
        rw [Array.getElem?_toList, Array.getElem?_eq_getElem hj', e]
        have e2 : es[j]? = some (entryOfKey (tupleKind (mixKind X.prog X.w)) x) := by rw [entry_at he j, hx]; rfl
        have e3 : es[j] = entryOfKey (tupleKind (mixKind X.prog X.w)) x := by
          rw [Array.getElem?_eq_getElem hi] at e2; exact Option.some.inj e2
        rw [e3]; rfl
    have kk : KeysAt H kvs (xs.map (·.2.1)) := keys_of I rel
    refine ⟨.ref s.heap.objs.size, _, I.laid (t' := tk) kp (Nat.le_refl _) ?_, rfl, q _ _ z kk (I.hok.fresh (Nat.le_refl _))⟩
    refine ⟨by rw [List.length_map, List.length_map, ← Paired.length rel]; exact z, acc'.toList, c', ?_, by rw [Array.toArray_toList]; exact hg⟩
    rw [el]
    refine vals_iff (by simp) fun i x u h1 h2 => ?_
    rw [List.getElem?_map] at h1 h2
    obtain ⟨b, e1, rfl⟩ := Option.map_eq_some_iff.mp h1
    rw [e1] at h2
    cases h2
    rfl
  · obtain ⟨z, hd, vs, rel, dd⟩ := dk_of I.hok ha
    obtain ⟨es, ep, raw, sz, hk⟩ := dd.raw
    have sl : es.size = kvs.length := by rw [sz, ← rel.length]
    refine PySem.W.kdl_call (PySem.KdlSrc.rawDict (es := es) (ep := ep) hd) (I.ok.hd hc) raw (by rw [sl]; exact z) fun h' tk acc' c' kp hg hacc => ?_
    refine ⟨.ref s.heap.objs.size, _, I.laid (t' := tk) kp (Nat.le_refl _) ?_, rfl, q _ z (I.hok.fresh (Nat.le_refl _))⟩
    refine ⟨by rw [List.length_map]; exact z, acc'.toList, c', ?_, by rw [Array.toArray_toList]; exact hg⟩
    refine vals_iff (by rw [List.length_map, ← sl, ← hacc.1]; simp) fun i x u h1 h2 => ?_
    rw [List.getElem?_map] at h1
    obtain ⟨p, e1, rfl⟩ := Option.map_eq_some_iff.mp h1
    rw [Array.getElem?_toList] at h2
    obtain ⟨hi, rfl⟩ := hacc.2 i u h2
    have hy : (vs.map (·.1))[i]? = some p.1 := by rw [← rel.keys, List.getElem?_map, e1]; rfl
    rw [List.getElem?_map] at hy
    obtain ⟨y, hy, ey⟩ := Option.map_eq_some_iff.mp hy
    have := (hk i hi y.1 y.2 hy).1
    rw [ey] at this
    exact keyIs_rel this
end KP


set_option Elab.async false
set_option linter.all false
set_option maxRecDepth 100000
/-! KDe: dicts with tuple keys as data: list(d), comprehensions, update, displays. -/
namespace KP
open PySem PySem.Spec PyProof.Rows L2
theorem rep_keys {K : PySem.W.Frag} {Z : Hp} : ∀ k : List Key, RepAll K Z (k.map kV) (k.map keyP)
  | [] => .nil
  | .inl i :: r => .cons (.int i) (rep_keys r)
  | .inr x :: r => .cons (.str x) (rep_keys r)
theorem keysAt_rep {K : PySem.W.Frag} {Z H : Hp} (hz : ∀ b ys, H b = some (.tup ys) → Z b = some (.tup ys)) : ∀ {ks : List (List Key × V)} {bs : List Addr}, KeysAt H ks bs → RepAll K Z (bs.map V.ref) ((ks.map (·.1)).map keyT)
  | _, _, .nil => .nil
  | _, _, .cons h t => .cons (.tup (hz _ _ h.1) (by rw [List.length_map]; exact h.2) (rep_keys _)) (keysAt_rep hz t)
theorem rep_keysK {K : PySem.W.Frag} {Z : Hp} : ∀ ks : List (Key × V), RepAll K Z (ks.map fun p => kV p.1) ((ks.map (·.1)).map keyP)
  | [] => .nil
  | (.inl i, _) :: r => .cons (.int i) (rep_keysK r)
  | (.inr x, _) :: r => .cons (.str x) (rep_keysK r)
def dKeys : Dk → List PyData
  | .k kvs => (kvs.map (·.1)).map keyP
  | .t kvs => (kvs.map (·.1)).map keyT
theorem tupKeeps {K : PySem.W.Frag} {W : Wd} {φ : List Addr} {own : Nat → List Addr} {env : En} {S : Sto} {σ : L2.St} {H : Hp} (r : Rel K W φ own env S σ H) {l : Addr} {o : HO} (hl : H l = none) (b : Addr) (ys : List V) (hb : H b = some (.tup ys)) : hz (Mu (W.and l).G φ own) (upd H l o) b = some (.tup ys) := by
  have ne : b ≠ l := fun z => by rw [z, hl] at hb; cases hb
  refine hz_of (by rw [upd_ne ne]; exact hb) fun z => ?_
  rcases mu_and.mp z with z | z
  · exact (r.mu b z).2.1 ys hb
  · exact ne z
def fKeys (i : Nat) : DLs := fun env => bnd (ofO ((lk env i).bind Sv.asDD)) fun d => ret (dKeys d)
theorem ef_listD {X : Cx} {ew : WX} {x : Str} {i : Nat} {p1 p pos : Pos} (hc : X.calm = true) (hg : Gl X "list") (hm : X.mg "list" = none) (hN : X.N[i]? = some x) (hv : Vis X.env.scope x)
    (hd : (x == ("__debug__" : Str)) = false := by decide) (hcd : (x == ("__classdict__" : Str)) = false := by decide)
    (he : starEach [.Name x p1] X.env = (false, eval (.Name x p1) X.env) :: starEach [] X.env := by rfl) (hpl : (backTo pos (starEach [] X.env)).any (·.1) = false := by rfl) :
    EF X ew (.Call (.Name "list" p) [.Name x p1] [] pos) (fKeys i) :=
  pe_weak (pe_callTy (call_listD hc) hg hm (by decide +kernel) (pa_cons (pe_var hN hv hd hcd) pa_nil he) (by decide) (by decide) he hpl) fun σ H Q h => by
    obtain ⟨W, φ, own, env, S, r, h⟩ := h
    obtain ⟨d, e1, h⟩ := sat_ofO.mp (sat_bnd.mp h)
    obtain ⟨sv, es, e1⟩ := Option.bind_eq_some_iff.mp e1
    have es := lk_some es
    obtain rfl := asDD_some e1
    obtain ⟨u, hu, a, rfl, hF, hd⟩ := r.slot i _ es
    refine ⟨.ref a, hu, a, rfl, ?_⟩
    cases d with
    | t kvs =>
      obtain ⟨ks, ha, kr⟩ := hd
      refine .inl ⟨ks, ha, fun bs l z kb hl => ?_⟩
      refine h φ _ l (bs.map V.ref) (r.laidG hl) (Kp.ext (Ext.upd hl)) hl upd_same ?_ ?_
      · have := keysAt_rep (K := X.K) (Z := hz (Mu (W.and l).G φ own) (upd H l (.lst (bs.map V.ref)))) (tupKeeps r hl) kb
        rw [kr.keys] at this
        exact this
      · show ((kvs.map (·.1)).map keyT).length ≤ _
        rw [List.length_map, List.length_map, ← kr.length]; exact z
    | k kvs =>
      obtain ⟨ks, ha, kr⟩ := hd
      refine .inr ⟨ks, ha, fun l z hl => ?_⟩
      refine h φ _ l _ (r.laidG hl) (Kp.ext (Ext.upd hl)) hl upd_same ?_ ?_
      · have := rep_keysK (K := X.K) (Z := hz (Mu (W.and l).G φ own) (upd H l (.lst (ks.map fun p => kV p.1)))) ks
        rw [kr.keys] at this
        exact this
      · show ((kvs.map (·.1)).map keyP).length ≤ _
        rw [List.length_map, List.length_map, ← kr.length]; exact z
/-! ### new dicts whose keys are tuples -/
abbrev DTs := En → M (List (List Key × PyData))
def tFT (C : Ct) (f : DTs) : TE := fun σ H Q => ∃ W φ own env S, Rel C.K W φ own env S σ H ∧
  (f env S).sat (fun ps S' => ∀ φ' H' D ks, Rel C.K (W.and D) φ' own env S' σ H' → Kp φ H φ' H' → H D = none → H' D = some (.dT ks) → KRep C.K (hz (Mu (W.and D).G φ' own) H') ks ps → ps.length ≤ sizeLine → Q (.ref D) H')
    (fun x S' => ∀ φ' H', Rel C.K W φ' own env S' σ H' → Kp φ H φ' H' → XWish C (Mu W.G φ' own) σ H' x)
def ET (X : Cx) (ew : WX) (e : Expr) (f : DTs) : Prop := PE X e (tFT ⟨X.K, X.mg, ew⟩ f)
theorem Rel.updGo {K : PySem.W.Frag} {W : Wd} {φ : List Addr} {own : Nat → List Addr} {env : En} {S : Sto} {σ : L2.St} {H : Hp} (r : Rel K W φ own env S σ H) {D : Addr} (hG : W.G D) (h0 : W.H0 D = none) {o : HO} (ho : (∀ ys, o ≠ .tup ys) ∧ ∀ x y, o ≠ .frz x y) : Rel K W φ own env S σ (upd H D o) := by
  have nd : ∀ i, D ∉ own i := (r.gd D hG).2
  have nφ : D ∉ φ := (r.gd D hG).1
  have ex : Ext (hz (Mu W.G φ own) H) (hz (Mu W.G φ own) (upd H D o)) := fun a o h => by
    obtain ⟨n, h⟩ := hz_some.mp h
    have ne : a ≠ D := fun z => n (.inl (by rw [z]; exact hG))
    exact hz_of (by rw [upd_ne ne]; exact h) n
  refine ⟨r.disj, r.apart, r.ndφ, r.gd, fun a h => ?_, r.len, fun i sv h => ?_, ⟨r.cell.1, fun n c a h1 h2 => (r.cell.2 n c a h1 h2).ext ex (upd_ne fun z => nφ (by rw [← z]; exact List.mem_of_getElem? h2))⟩, ⟨r.base.pre, fun a o n h => ?_, r.base.new⟩, r.newF⟩
  · by_cases e : a = D
    · subst e
      rw [upd_same]
      exact ⟨rfl, (fun ys z => ho.1 ys (Option.some.inj z)), (fun x y z => ho.2 x y (Option.some.inj z))⟩
    · rw [upd_ne e]
      exact r.mu a h
  · obtain ⟨u, h1, h2⟩ := r.slot i sv h
    exact ⟨u, h1, h2.ext ex (List.prefix_refl _) fun a ha => upd_ne fun z => nd i (by rw [← z]; exact ha)⟩
  · rw [upd_ne fun z => by rw [z, h0] at h; cases h]
    exact r.base.keep a o n h
def compD (t : TF) (c : DB) (ek ev : DF) (env : En) : List PyData → List (List Key × PyData) → M (List (List Key × PyData))
  | [], acc => ret acc
  | p :: ps, acc => bnd (ofO (t (.d p) env)) fun env1 => bnd (c env1) fun b => if b = true then bnd (ek env1) fun kv => bnd (ofO (kv.asD.bind asKeyT)) fun k => bnd (ev env1) fun xv => bnd (ofO xv.asD) fun x => compD t c ek ev env ps (putD acc k x)
    else compD t c ek ev env ps acc
theorem putD_len {κ : Type} [DecidableEq κ] (kvs : List (κ × PyData)) (k : κ) (v : PyData) : (putD kvs k v).length ≤ kvs.length + 1 := by
  unfold putD
  split <;> simp
theorem compD_core {C C' : Ct} (hK : C'.K = C.K) {W : Wd} {φ1 : List Addr} {env : En} {S1 : Sto} {σ : L2.St} {H1 : Hp} {D : Addr} {vs is : List Nat} {J : It} {ps : List PyData} {t : TF} {c : DB} {ek ev : DF} {Z : Hp} {Qf : List (List Key × PyData) → Sto → Prop} {Q : Hp → Prop}
    (hvs : ∀ i ∈ is, i ∈ vs) (hW : W.G D) (hD0 : W.H0 D = none) (hHD : H1 D = none) (hl : ps.length ≤ sizeLine)
    (r1 : Rel C.K W φ1 nob env S1 (wipe σ vs) (upd H1 D (.dT [])))
    (it : ItR C.K Z J ps) (hZ : ∀ φ2 S2 H2, Rel C.K W φ2 nob env S2 (wipe σ vs) H2 → Kp φ1 H1 φ2 H2 → Ext Z (hz (Mu W.G φ2 nob) H2))
    (h : (compD t c ek ev env ps [] S1).sat Qf (fun _ _ => False))
    (fin : ∀ φ2 S2 H2 ks ds, Rel C.K W φ2 nob env S2 (wipe σ vs) H2 → Kp φ1 H1 φ2 H2 → H2 D = some (.dT ks) → KRep C.K (hz (Mu W.G φ2 nob) H2) ks ds → ds.length ≤ sizeLine → Qf ds S2 → Q H2) :
    ∃ I : Nat → Nat → Hp → Prop, (∃ m, I 0 m (upd H1 D (.dT []))) ∧ ∀ i m H, I i m H →
      (J.stop i H ∧ Q H) ∨ (J.go i H ∧ ∃ Nx : Hp → Prop, (∀ H', Nx H' → ∃ m', m' < m ∧ I (i + 1) m' H') ∧ ∀ x H', J.yld i H x H' → dStep (tG C' is t) (tIB C' c) (tI C' true ek) (tI C' true ev) vs σ D x H' Nx) := by
  let Iv : Nat → Hp → Prop := fun i H => ∃ φ2 S2 ks ds, Rel C.K W φ2 nob env S2 (wipe σ vs) H ∧ Kp φ1 H1 φ2 H ∧ H D = some (.dT ks) ∧ KRep C.K (hz (Mu W.G φ2 nob) H) ks ds ∧ ds.length ≤ i ∧
    (compD t c ek ev env (ps.drop i) ds S2).sat Qf (fun _ _ => False)
  refine ⟨fun i m H => i + m = ps.length ∧ Iv i H, ⟨ps.length, by omega, φ1, S1, [], [], r1, ⟨List.prefix_refl _, fun a o _ h => ?_, fun a h n => absurd h n⟩, upd_same, .nil, Nat.le_refl _, h⟩, ?_⟩
  · rw [upd_ne fun z => by rw [z, hHD] at h; cases h]; exact h
  rintro i m H ⟨em, φ2, S2, ks, ds, r2, k2, hks, hrep, hdl, q2⟩
  have ez := hZ φ2 S2 H r2 k2
  have ezH : Ext Z H := Ext.trans ez hz_sub
  by_cases hi : i < ps.length
  · have hd : ps.drop i = ps[i] :: ps.drop (i + 1) := List.drop_eq_getElem_cons hi
    rw [hd] at q2
    have gi : ps[i]? = some ps[i] := List.getElem?_eq_getElem hi
    obtain ⟨env3, e3, q3⟩ := sat_ofO.mp (sat_bnd.mp q2)
    refine .inr ⟨it.go i _ H ezH gi, Iv (i + 1), fun H' hI => ⟨m - 1, by omega, by omega, hI⟩, fun x H3 y => ?_⟩
    obtain ⟨eg, rep⟩ := it.yld i _ H x H3 ezH gi y
    have r3 := r2.grow eg
    have ndφ2 : D ∉ φ2 := (r2.gd D hW).1
    refine ⟨W, φ2, nob, env, S2, .d ps[i], by rw [hK]; exact r3, by rw [hK]; exact rep _ r2.mu ez, env3, e3, fun own3 σ3 r4 sm o4 => ⟨(o4.1 vs hvs).trans (wipe_idem σ vs), ?_⟩⟩
    rw [hK] at r4
    have eo := own_nob r4 sm
    subst eo
    refine ⟨W, φ2, nob, env3, S2, by rw [hK]; exact r4, (sat_bnd.mp q3).mono (fun b S5 q5 φ5 H5 r5 k5 => ?_) fun _ _ z => z.elim⟩
    rw [hK] at r5
    cases b with
    | true =>
      rw [if_pos rfl] at q5 ⊢
      refine ⟨W, φ5, nob, env3, S5, by rw [hK]; exact r5, (sat_bnd.mp q5).mono (fun v S6 q6 φ6 H6 u r6 k6 v6 => ?_) fun _ _ z => z.elim⟩
      rw [hK] at r6
      obtain ⟨k, ek6, q6b⟩ := sat_ofO.mp (sat_bnd.mp q6)
      obtain ⟨kd, ek7, ek8⟩ := Option.bind_eq_some_iff.mp ek6
      obtain rfl := asD_some ek7
      refine ⟨W, φ6, nob, env3, S6, by rw [hK]; exact r6, (sat_bnd.mp q6b).mono (fun xv S7 q7 φ7 H7 ux r7 k7 v7 => ?_) fun _ _ z => z.elim⟩
      rw [hK] at r7
      obtain ⟨xd, ex7, q8⟩ := sat_ofO.mp (sat_bnd.mp q7)
      obtain rfl := asD_some ex7
      have k57 := (k5.trans k6).trans k7
      have kk0 := (Kp.ext eg).trans k57
      have hD7 : H7 D = some (.dT ks) := kk0.keep D _ ndφ2 hks
      have v6' : Rep C'.K (hz (Mu W.G φ7 nob) H7) u kd := Rep.ext (Kp.hz (fl := true) k7) v6
      obtain ⟨b, rfl, hb⟩ := asKeyT_rep ek8 v6'
      refine ⟨ks, k, b, rfl, hz_sub _ _ hb, hD7, by rw [hrep.length]; omega, ?_⟩
      have rb := Rel.back hW r2 r7 kk0.del
      have hx : Ext (hz (Mu W.G φ2 nob) H) (hz (Mu W.G φ7 nob) H7) := hz_del hW kk0.del
      have hup : Ext (hz (Mu W.G φ7 nob) H7) (hz (Mu W.G φ7 nob) (upd H7 D (.dT (putK ks k ux)))) := fun a o h => by
        obtain ⟨n, h⟩ := hz_some.mp h
        exact hz_of (by rw [upd_ne fun z => n (.inl (by rw [z]; exact hW))]; exact h) n
      refine ⟨φ7, S7, putK ks k ux, putD ds k xd, rb.updGo hW hD0 (plain_dT _), ?_, upd_same, KRep.put ?_ (hrep.ext (Ext.trans hx hup)), Nat.le_trans (putD_len _ _ _) (Nat.succ_le_succ hdl), q8⟩
      · have kk := k2.trans kk0
        refine ⟨kk.pre, fun a o n h => ?_, kk.new⟩
        rw [upd_ne fun z => by rw [z, hHD] at h; cases h]
        exact kk.keep a o n h
      · have v7 : Rep C'.K (hz (Mu W.G φ7 nob) H7) ux xd := v7
        rw [hK] at v7
        exact v7.ext hup
    | false =>
      rw [if_neg Bool.false_ne_true] at q5 ⊢
      have kk0 := (Kp.ext eg).trans k5
      have hD6 : H5 D = some (.dT ks) := kk0.keep D _ ndφ2 hks
      exact ⟨φ5, S5, ks, ds, Rel.back hW r2 r5 kk0.del, k2.trans kk0, hD6, hrep.ext (hz_del hW kk0.del), by omega, q5⟩
  · have hi' : ps.length ≤ i := Nat.le_of_not_lt hi
    rw [List.drop_eq_nil_of_le hi'] at q2
    have ei : i = ps.length := by omega
    subst ei
    exact .inl ⟨it.stop H ezH, fin φ2 S2 H ks ds r2 k2 hks hrep (by omega) q2⟩
def dcA (f : DL) (t : TF) (c : DB) (ek ev : DF) (vs : List Nat) : DTs := fun env => bnd (f env) fun ps => if ps.length ≤ sizeLine then noX (compD t c ek ev (wipeE (stillE env) vs) ps []) else no
theorem tI_dcA {C C' : Ct} (hK : C'.K = C.K) {σ : L2.St} {H : Hp} {Q : VK} {f : DL} {t : TF} {c : DB} {ek ev : DF} {vs is : List Nat} (hvs : ∀ i ∈ is, i ∈ vs) (h : tFT C (dcA f t c ek ev vs) σ H Q) :
    tDcT (tIt C true f) (tG C' is t) (tIB C' c) (tI C' true ek) (tI C' true ev) vs σ H Q := by
  obtain ⟨W, φ, own, env, S, r, h⟩ := h
  refine ⟨W, φ, own, env, S, r, (sat_bnd.mp h).mono (fun ps S1 q φ1 H1 J r1 k1 it D hD => ?_) fun x S1 q φ1 H1 r1 k1 => q φ1 H1 r1 k1⟩
  by_cases hl : ps.length ≤ sizeLine
  · rw [if_pos hl] at q
    have q := sat_noX (E' := fun _ _ => False) q
    have nD := r1.fresh hD
    have rs : Rel C.K ⟨fun a => outG W own a ∨ a = D, low own H1, φ1⟩ φ1 nob (wipeE (stillE env) vs) S1 (wipe σ vs) (upd H1 D (.dT [])) := ((r1.rebase.stay).wiped vs).laidO hD (plain_dT [])
    refine compD_core (C := C) hK (W := ⟨fun a => outG W own a ∨ a = D, low own H1, φ1⟩) (env := wipeE (stillE env) vs) (Z := hz (Mo true W.G φ1 own) H1) hvs (.inr rfl) ?_ hD hl rs it (fun φ2 S2 H2 r2 k2 => ?_) q (fun φ2 S2 H2 ks ds r2 k2 hks hrep hdl hq => ?_)
    · show low own H1 D = none
      unfold low hz
      split
      · rfl
      · exact hD
    · intro a o ha
      obtain ⟨n, ha⟩ := hz_some.mp ha
      have na : a ∉ φ1 := fun z => n (.inr (.inl z))
      refine hz_of (k2.keep a o na ha) fun z => ?_
      rcases z with (z | z) | z | ⟨j, z⟩
      · exact n (z.elim .inl fun z => .inr (.inr z))
      · rw [z, hD] at ha; cases ha
      · have := k2.new a z na
        rw [ha] at this; cases this
      · cases z
    · have nφ : D ∉ φ2 := (r2.gd D (.inr rfl)).1
      have hg1 := r1.laidO hD (plain_dT ks)
      have k2' : Kp φ1 (upd H1 D (.dT ks)) φ2 H2 := by
        refine ⟨k2.pre, fun a o n h => ?_, fun a z n => ?_⟩
        · by_cases e : a = D
          · rw [e, upd_same] at h; cases h; rw [e]; exact hks
          · rw [upd_ne e] at h; exact k2.keep a o n h
        · rw [upd_ne fun e => nφ (by rw [← e]; exact z)]
          exact k2.new a z n
      have mg : Mu (outG (W.and D) own) φ2 nob = Mu (fun a => outG W own a ∨ a = D) φ2 nob := by
        rw [mu_eq]
        exact funext fun a => propext ⟨fun z => (mu_and.mp z).elim (fun z => (mu_out.mpr z).elim (fun z => .inl (.inl z)) .inr) fun z => .inl (.inr z), fun z => mu_and.mpr (z.elim (fun z => z.elim (fun z => .inl (mu_out.mp (.inl z))) .inr) fun z => .inl (mu_out.mp (.inr z)))⟩
      have en : Ent C.K (outG (W.and D) own) φ2 S2 H2 := ⟨r2.ndφ, fun a z => (r2.gd a (z.elim (fun z => z.elim (fun z => .inl (.inl z)) .inr) fun z => .inl (.inr z))).1, by rw [mg]; exact r2.mu, by rw [mg]; exact r2.cell⟩
      refine hq φ2 H2 D ks (hg1.called k2' en) (k1.trans k2) ?_ hks (by rw [show Mu (W.and D).G φ2 own = Mu (outG (W.and D) own) φ2 nob from mu_eq.symm, mg]; exact hrep) hdl
      cases e : H D with
      | none => rfl
      | some o =>
        by_cases z : D ∈ φ
        · exact absurd (k1.pre.subset z) fun z => nD (.inr (.inl z))
        · have := k1.keep D o z e
          rw [hD] at this; cases this
  · rw [if_neg hl] at q
    exact q.elim
theorem et_dcA {X : Cx} {ew : WX} {kx vx tg iter : Expr} {ifs : List Expr} {scope : Scope} {own : List (Str × Nat)} {pos : Pos} {f : DL} {t : TF} {c : DB} {ek ev : DF} {is : List Nat} (hu : X.A.units < cLine) (hc : X.calm = true) (hN : X.N.Nodup) (hi : EI X ew true tg iter f) (ok : BlkOk X.N X.env.scope scope own) (hvs : ∀ i ∈ is, i ∈ own.map (·.2))
    (hg : ∀ (s : Shared) (H : Hp) (C : Addr) (cl : List (Str × Addr)) (fp : List Addr), EG (X.blk s H scope (compEnvC scope cl C X.env) fp) ew0 tg is t) (ht : ∀ (s : Shared) (H : Hp) (C : Addr) (cl : List (Str × Addr)) (fp : List Addr), EBs (X.blk s H scope (compEnvC scope cl C X.env) fp) ew0 ifs c)
    (hk : ∀ (s : Shared) (H : Hp) (C : Addr) (cl : List (Str × Addr)) (fp : List Addr), E (X.blk s H scope (compEnvC scope cl C X.env) fp) ew0 true kx ek)
    (hv : ∀ (s : Shared) (H : Hp) (C : Addr) (cl : List (Str × Addr)) (fp : List Addr), E (X.blk s H scope (compEnvC scope cl C X.env) fp) ew0 true vx ev) (hs : ∀ x, foldedSetIterable iter X.env x = pure x := by intro _; rfl) :
    ET X ew (.DictComp kx vx [⟨tg, iter, ifs, 0⟩] scope pos) (dcA f t c ek ev (own.map (·.2))) :=
  pe_weak (pe_dcT (g := tG ⟨X.K, X.mg, ew0⟩ is t) (tt := tIB ⟨X.K, X.mg, ew0⟩ c) (tk := tI ⟨X.K, X.mg, ew0⟩ true ek) (tv := tI ⟨X.K, X.mg, ew0⟩ true ev) hu hc hN hi ok hg ht hk hv hs) fun σ H Q h => tI_dcA (C := ⟨X.K, X.mg, ew⟩) (C' := ⟨X.K, X.mg, ew0⟩) rfl hvs h
/-! ### x.update(..) -/
def mergeD (kvs more : List (List Key × PyData)) : List (List Key × PyData) := more.foldl (fun acc kv => putD acc kv.1 kv.2) kvs
theorem KRep.merge {K : PySem.W.Frag} {Z : Hp} : ∀ {more : List (List Key × V)} {md : List (List Key × PyData)}, KRep K Z more md → ∀ {ks : List (List Key × V)} {kd : List (List Key × PyData)}, KRep K Z ks kd → KRep K Z (mergeT ks more) (mergeD kd md)
  | _, _, .nil, _, _, h => h
  | _, _, .cons hv t, _, _, h => KRep.merge t (KRep.put hv h)
def Dk.upd (d : Dk) (ps : List (List Key × PyData)) : Option Dk := match d with
  | .t kvs => if kvs ≠ [] ∧ kvs.length + ps.length ≤ sizeLine then some (.t (mergeD kvs ps)) else none
  | .k _ => none
def sUpd (i : Nat) (f : DTs) : SF := fun env => bnd (ofO ((lk env i).bind Sv.asDD)) fun d => lift env (f env) fun ps => bnd (ofO (d.upd ps)) fun d' => ret (.nx, env.set i (some (.dd d')))
theorem es_update {X : Cx} {ew : WX} {x : Str} {i : Nat} {e : Expr} {g : DTs} {p1 apos cpos pos : Pos} (hu1 : X.A.units + 1 < cLine) (hN : X.N[i]? = some x) (hv : Vis X.env.scope x) (h : ET X ew e g)
    (hd : (x == ("__debug__" : Str)) = false := by decide) (hcd : (x == ("__classdict__" : Str)) = false := by decide)
    (hbase : attributeBase (.Name x p1) "update" X.env (eval (.Name x p1) X.env) = eval (.Name x p1) X.env := by rfl)
    (hfew : ((backTo cpos (starEach [e] X.env)).all (fun x => !x.1) && (backToKw cpos (keywordEach [] X.env)).all (fun x => x.1.isSome)
      && decide (([e] : List Expr).length + ([] : List Keyword).length + (if ([] : List Keyword).isEmpty then 0 else 1) < 30)) = true := by rfl)
    (hline : (apos.endLine == cpos.line) = true := by rfl) (hst : starEach [e] X.env = (false, eval e X.env) :: starEach [] X.env := by rfl) (hplain : (backTo cpos (starEach [] X.env)).any (·.1) = false := by rfl)
    (hs : swapsWith (.Call (.Attribute (.Name x p1) "update" apos) [e] [] cpos) none pos.line X.env = pure false := by rfl) :
    ES X ew (.Expr (.Call (.Attribute (.Name x p1) "update" apos) [e] [] cpos) pos) (sUpd i g) :=
  ps_weak (ps_expr (pe_bm PySem.F.plainAttrs_dict PySem.F.slot_dict_update PySem.F.type_dict_update (mt_updT hu1) (pe_var hN hv hd hcd) (pa_cons h pa_nil hst) hbase hfew hline hst hplain) hs) fun D σ H h => by
    obtain ⟨W, φ, own, env, S, r, h⟩ := h
    obtain ⟨d, e1, h⟩ := sat_ofO.mp (sat_bnd.mp h)
    obtain ⟨sv, es, e1⟩ := Option.bind_eq_some_iff.mp e1
    have es := lk_some es
    obtain rfl := asDD_some e1
    obtain ⟨u, hu, a, rfl, hF, hdr⟩ := r.slot i _ es
    have hao : a ∈ own i := by rw [hF]; simp
    cases d with
    | k kvs =>
      obtain ⟨ks, ha, kr⟩ := hdr
      refine ⟨.ref a, hu, .inr (.inr (.inl ⟨rfl, .inl ⟨_, ha⟩⟩)), W, φ, own, env, S, r, (sat_lift.mp h).mono (fun ps S1 q φ1 H1 A zs r1 k1 hn hD hr2 hl2 => ?_) fun x S1 q φ1 H1 r1 k1 => q φ1 own σ H1 r1⟩
      obtain ⟨d', e2, q⟩ := sat_ofO.mp (sat_bnd.mp q)
      cases e2
    | t kvs =>
      obtain ⟨ks, ha, kr⟩ := hdr
      refine ⟨.ref a, hu, .inr (.inr (.inl ⟨rfl, .inr ⟨_, ha⟩⟩)), W, φ, own, env, S, r, (sat_lift.mp h).mono (fun ps S1 q φ1 H1 A zs r1 k1 hn hD hr2 hl2 => ?_) fun x S1 q φ1 H1 r1 k1 => q φ1 own σ H1 r1⟩
      obtain ⟨d', e2, q⟩ := sat_ofO.mp (sat_bnd.mp q)
      simp only [Dk.upd] at e2
      split at e2
      · rename_i hz
        cases e2
        have ha1 : H1 a = some (.dT ks) := k1.keep a _ (r.apart i a hao) ha
        have ne : a ≠ A := fun z => by rw [← z, ha] at hn; cases hn
        have hkn : ks ≠ [] := fun z => hz.1 (List.length_eq_zero_iff.mp (by rw [← kr.length, z]; rfl))
        refine ⟨a, A, ks, zs, rfl, rfl, ne, ha1, hD, hkn, by rw [kr.length, hr2.length]; exact hz.2, ?_⟩
        refine q φ1 own σ _ (r1.lessG.updOwn es hu hao (plain_dT _) fun ex => ⟨a, rfl, hF, _, upd_same, ?_⟩)
        exact KRep.merge ((hr2.ext (hz_anti fun a _ _ z => mu_and.mpr (.inl z))).ext ex) ((kr.ext (Kp.hz (fl := true) k1)).ext ex)
      · cases e2
end KP


set_option Elab.async false
set_option linter.all false
set_option maxRecDepth 100000
/-! KDf: sorted of tuples of whole numbers; dict displays. -/
namespace KP
open PySem PySem.Spec PyProof.Rows L2
/-! ### sorted of tuples -/
def lexLe : List Int → List Int → Bool
  | [], _ => true
  | _ :: _, [] => false
  | a :: r, b :: q => if a < b then true else if b < a then false else lexLe r q
def insT (x : List Int) : List (List Int) → List (List Int)
  | [] => [x]
  | y :: r => if lexLe x y = true then x :: y :: r else y :: insT x r
def sortT : List (List Int) → List (List Int)
  | [] => []
  | x :: r => insT x (sortT r)
theorem insT_perm (x : List Int) : ∀ l : List (List Int), (insT x l).Perm (x :: l)
  | [] => .refl _
  | y :: r => by
    unfold insT
    split
    · exact .refl _
    · exact ((insT_perm x r).cons y).trans (.swap x y r)
theorem sortT_perm : ∀ l : List (List Int), (sortT l).Perm l
  | [] => .refl _
  | x :: r => (insT_perm x _).trans ((sortT_perm r).cons x)
theorem lexLe_total : ∀ a b : List Int, lexLe a b = false → lexLe b a = true
  | [], _, h => by simp [lexLe] at h
  | _ :: _, [], _ => rfl
  | a :: r, b :: q, h => by
    unfold lexLe at h ⊢
    by_cases h1 : a < b
    · simp [h1] at h
    · by_cases h2 : b < a
      · simp [h2]
      · rw [if_neg h1, if_neg h2] at h
        rw [if_neg h2, if_neg h1]
        exact lexLe_total r q h
theorem lexLe_trans : ∀ {a b c : List Int}, lexLe a b = true → lexLe b c = true → lexLe a c = true
  | [], _, _, _, _ => rfl
  | _ :: _, [], _, h, _ => by simp [lexLe] at h
  | _ :: _, _ :: _, [], _, h => by simp [lexLe] at h
  | a :: r, b :: q, c :: p, h1, h2 => by
    unfold lexLe at h1 h2 ⊢
    by_cases x1 : a < b
    · by_cases y1 : b < c
      · rw [if_pos (by omega)]
      · by_cases y2 : c < b
        · rw [if_neg y1, if_pos y2] at h2; cases h2
        · rw [if_pos (by omega)]
    · by_cases x2 : b < a
      · rw [if_neg x1, if_pos x2] at h1; cases h1
      · rw [if_neg x1, if_neg x2] at h1
        by_cases y1 : b < c
        · rw [if_pos (by omega)]
        · by_cases y2 : c < b
          · rw [if_neg y1, if_pos y2] at h2; cases h2
          · rw [if_neg y1, if_neg y2] at h2
            rw [if_neg (by omega), if_neg (by omega)]
            exact lexLe_trans h1 h2
theorem lexLe_anti : ∀ {a b : List Int}, lexLe a b = true → lexLe b a = true → a = b
  | [], [], _, _ => rfl
  | [], _ :: _, _, h => by simp [lexLe] at h
  | _ :: _, [], h, _ => by simp [lexLe] at h
  | a :: r, b :: q, h1, h2 => by
    unfold lexLe at h1 h2
    by_cases x1 : a < b
    · rw [if_neg (by omega), if_pos x1] at h2; cases h2
    · by_cases x2 : b < a
      · rw [if_neg x1, if_pos x2] at h1; cases h1
      · rw [if_neg x1, if_neg x2] at h1
        rw [if_neg x2, if_neg x1] at h2
        rw [show a = b by omega, lexLe_anti h1 h2]
theorem lexLe_refl (a : List Int) : lexLe a a = true := by
  cases h : lexLe a a with
  | true => rfl
  | false => rw [lexLe_total a a h] at h; cases h
theorem insT_sorted (x : List Int) : ∀ l : List (List Int), l.Pairwise (fun a b => lexLe a b = true) → (insT x l).Pairwise (fun a b => lexLe a b = true)
  | [], _ => by simp [insT]
  | y :: r, h => by
    obtain ⟨h1, h2⟩ := List.pairwise_cons.mp h
    unfold insT
    split
    · rename_i hxy
      exact List.pairwise_cons.mpr ⟨fun z hz => (List.mem_cons.mp hz).elim (fun e => e ▸ hxy) fun hz => lexLe_trans hxy (h1 z hz), h⟩
    · rename_i hxy
      refine List.pairwise_cons.mpr ⟨fun z hz => ?_, insT_sorted x r h2⟩
      rcases List.mem_cons.mp ((insT_perm x r).subset hz) with e | hz
      · rw [e]; exact lexLe_total _ _ (by simpa using hxy)
      · exact h1 z hz
theorem sortT_sorted : ∀ l : List (List Int), (sortT l).Pairwise (fun a b => lexLe a b = true)
  | [] => .nil
  | x :: r => insT_sorted x _ (sortT_sorted r)
theorem sortedT_one : ∀ {a b : List (List Int)}, a.Perm b → a.Pairwise (fun a b => lexLe a b = true) → b.Pairwise (fun a b => lexLe a b = true) → a = b
  | [], b, p, _, _ => (List.perm_nil.mp p.symm).symm ▸ rfl
  | x :: a, [], p, _, _ => absurd p.length_eq (by simp)
  | x :: a, y :: b, p, ha, hb => by
    obtain ⟨h1, h2⟩ := List.pairwise_cons.mp ha
    obtain ⟨h3, h4⟩ := List.pairwise_cons.mp hb
    have e : x = y := by
      have m1 : y ∈ x :: a := p.symm.subset List.mem_cons_self
      have m2 : x ∈ y :: b := p.subset List.mem_cons_self
      rcases List.mem_cons.mp m1 with z | z
      · exact z.symm
      · rcases List.mem_cons.mp m2 with w | w
        · exact w
        · exact lexLe_anti (h1 y z) (h3 x w)
    subst e
    rw [sortedT_one (p.cons_inv) h2 h4]
theorem lex_code {B : Int} : ∀ {a b : List Int}, a.length = b.length → TS.Bd B a → TS.Bd B b → (lexLe a b = true ↔ TS.code B a ≤ TS.code B b)
  | [], [], _, _, _ => by simp [lexLe]
  | a :: r, b :: q, hl, h1, h2 => by
    have hl' : r.length = q.length := by simpa using hl
    unfold lexLe
    by_cases x1 : a < b
    · rw [if_pos x1]
      have := TS.code_lt hl' h1.tail h2.tail x1
      exact ⟨fun _ => Int.le_of_lt this, fun _ => rfl⟩
    · by_cases x2 : b < a
      · rw [if_neg x1, if_pos x2]
        have := TS.code_lt hl'.symm h2.tail h1.tail x2
        exact ⟨fun h => (Bool.false_ne_true h).elim, fun h => by omega⟩
      · rw [if_neg x1, if_neg x2, lex_code hl' h1.tail h2.tail]
        have e : a = b := by omega
        subst e
        have i1 := TS.code_same (B := B) (d := a) hl'
        have i2 := TS.code_same (B := B) (d := a) hl'.symm
        constructor
        · intro h; exact Int.not_lt.mp fun z => by have := i2.mp z; omega
        · intro h; exact Int.not_lt.mp fun z => by have := i2.mpr z; omega
theorem ints_of : ∀ {us : List Value} {ns : List Int}, Vals (ns.map V.int) us → IntsAre us ns
  | [], [], _ => .nil
  | _ :: _, [], h => nomatch h
  | [], _ :: _, h => nomatch h
  | _ :: _, n :: ns, .cons h t => by
    obtain ⟨k, rfl⟩ := h
    exact .cons n k (ints_of t)
/-- refs to tuples of these numbers -/
abbrev TupsAt (K : PySem.W.Frag) (H : Hp) (d : Nat) : List V → List (List Int) → Prop := Paired fun x ns => ∃ t, x = V.ref t ∧ H t = some (.tup (ns.map V.int)) ∧ ns.length = d ∧ ∀ m ∈ ns, 0 ≤ m
def rSortT (K : PySem.W.Frag) : List V → Hp → VK → Prop := fun vs H Q => ∃ a xs nss d, vs = [V.ref a] ∧ SqL K H a xs ∧ TupsAt K H d xs nss ∧ 1 ≤ d ∧ ∀ ys p, TupsAt K H d ys (sortT nss) → H p = none → Q (.ref p) (upd H p (.lst ys))
theorem big_of : ∀ nss : List (List Int), ∃ B : Int, ∀ ns ∈ nss, ∀ m ∈ ns, m < B
  | [] => ⟨0, fun _ h => nomatch h⟩
  | ns :: r => by
    obtain ⟨B, h⟩ := big_of r
    have one : ∀ l : List Int, ∃ C : Int, ∀ m ∈ l, m < C := by
      intro l
      induction l with
      | nil => exact ⟨0, fun _ h => nomatch h⟩
      | cons m l ih =>
        obtain ⟨C, hC⟩ := ih
        refine ⟨max (m + 1) C, fun z hz => ?_⟩
        rcases List.mem_cons.mp hz with e | hz
        · subst e; omega
        · have := hC z hz; omega
    obtain ⟨C, hC⟩ := one ns
    refine ⟨max B C, fun l hl m hm => ?_⟩
    rcases List.mem_cons.mp hl with e | hl
    · subst e; have := hC m hm; omega
    · have := h l hl m hm; omega
theorem swo_int (k : Value → Int) : SrtO.Swo fun v u => decide (k v < k u) := ⟨fun x y h => by
  have h := of_decide_eq_true h
  exact decide_eq_false (by omega), fun x y z h1 h2 => by
  have h1 := of_decide_eq_false h1
  have h2 := of_decide_eq_false h2
  exact decide_eq_false (by omega)⟩
theorem tups_sortable {prog : Program} {w : World} {A : Around} {s : Shared} {a : Addr} {vs : List Value} {d : Nat} {B : Int} {k : Value → Int} (hd : 1 ≤ d) (h0 : 0 < vs.length) (x : TS.TupsOk s.heap d B vs) (hk : ∀ v ∈ vs, ∀ ns, TS.TupInts s.heap v ns → k v = TS.code B ns)
    (ha : ∀ o, s.heap.get? a = some o → o.cls ≠ .type "tuple") : SrtO.SortableO prog w A s a vs fun v u => decide (k v < k u) := by
  intro h' keep
  have kp : ∀ b o, s.heap.get? b = some o → o.cls = .type "tuple" → h'.get? b = some o := fun b o e c => keep b o (fun z => by subst z; exact ha o e c) e
  have x' : TS.TupsOk h' d B vs := x.keeps kp
  obtain ⟨fs, h1, h2, h3⟩ := TS.firsts_of hd vs x'
  refine ⟨tuples' true, fun Q E hq => ?_, fun p q hp hq => ?_⟩
  · refine PySem.W.kat_kind (T := Value.type "int") h1 (by omega) (fun f hf => ?_) rfl hq
    obtain ⟨n, t, rfl⟩ := h3 f hf
    exact PySem.W.Looks.of_pure rfl
  · obtain ⟨ns0, t0, _⟩ := x _ hp
    obtain ⟨ms0, u0, _⟩ := x _ hq
    obtain ⟨ns, tp, lp, bp⟩ := x' _ hp
    obtain ⟨ms, tq, lq, bq⟩ := x' _ hq
    have en : ns = ns0 := tp.ints.symm.trans (t0.keeps kp).ints
    have em : ms = ms0 := tq.ints.symm.trans (u0.keeps kp).ints
    have e1 : k p.1 = TS.code B ns := by rw [en]; exact hk _ hp _ t0
    have e2 : k q.1 = TS.code B ms := by rw [em]; exact hk _ hq _ u0
    show wpAny (model prog w) A (keyLt' (tuples' true) p.1 q.1) (fun r s' => s' = _ ∧ r = decide (k p.1 < k q.1)) (fun _ _ => False) _
    rw [e1, e2]
    obtain ⟨a1, xs, f1, ⟨o, ho, hc, n, hdt⟩, i⟩ := tp
    obtain ⟨a2, ys, f2, ⟨o', ho', hc', n', hdt'⟩, i'⟩ := tq
    rw [f1, f2]
    refine PySem.W.kat_lt ho hdt ho' hdt' ?_
    have sz : decide (xs.size < ys.size) = false := by
      have l1 := i.length
      have l2 := i'.length
      rw [Array.length_toList] at l1 l2
      exact decide_eq_false (by omega)
    rw [sz]
    exact TS.lex_ints 0 i i' (by omega) bp bq ⟨rfl, rfl⟩
theorem cr_sortT {X : Cx} : CallR X (.builtin "sorted") (rSortT X.K) := by
  intro pins s σ H vs us Q I r h
  obtain ⟨a, xs, nss, d, rfl, hs, hx, hd, q⟩ := h
  obtain ⟨its, rv, hl, hz⟩ := I.list hs
  obtain ⟨u, rfl, ru⟩ := vals1 r
  obtain rfl : u = Value.ref a := ru
  obtain ⟨B, hB⟩ := big_of nss
  -- the items as values
  have tie : ∀ {xs : List V} {nss : List (List Int)}, TupsAt X.K H d xs nss → ∀ {its : List Value}, Vals xs its → (∀ ns ∈ nss, ∀ m ∈ ns, m < B) → nss = its.map (TS.intsOf s.heap) ∧ xs = its.map backV ∧ ∀ v ∈ its, ∃ t ns, v = .ref t ∧ TS.TupInts s.heap v ns ∧ H t = some (.tup (ns.map V.int)) ∧ ns.length = d ∧ TS.Bd B ns := by
    intro xs nss hx
    induction hx with
    | nil => intro its rv _; cases rv; exact ⟨rfl, rfl, fun v h => nomatch h⟩
    | @cons x ns xs nss h t ih =>
      intro its rv hB
      cases rv with
      | @cons _ u _ us ru rt =>
        obtain ⟨tt, rfl, hq, hl, h0⟩ := h
        cases ru
        obtain ⟨e1, e2, e3⟩ := ih rt fun ns hn => hB ns (List.mem_cons_of_mem _ hn)
        obtain ⟨it2, r2, p2, _⟩ := I.tuple (SqT.of hq)
        have ti : TS.TupInts s.heap (.ref tt) ns := ⟨tt, it2.toArray, rfl, p2, by simpa using ints_of r2⟩
        refine ⟨by rw [List.map_cons, ← e1, ti.ints], by rw [List.map_cons, ← e2]; rfl, fun v hv => ?_⟩
        rcases List.mem_cons.mp hv with e | hv
        · subst e
          exact ⟨tt, ns, rfl, ti, hq, hl, fun m hm => ⟨h0 m hm, hB ns List.mem_cons_self m hm⟩⟩
        · exact e3 v hv
  obtain ⟨e1, e2, e3⟩ := tie hx rv hB
  have ok : TS.TupsOk s.heap d B its := fun v hv => by
    obtain ⟨t, ns, _, ti, _, h1, h2⟩ := e3 v hv
    exact ⟨ns, ti, h1, h2⟩
  refine SrtO.sorted_ord (swo_int fun v => TS.code B (TS.intsOf s.heap v)) hl.isList (by rw [← rv.length]; exact hz) (fun h2 h₁ b hb kk => ?_) fun out srt stb => ?_
  · refine tups_sortable (s := { s with heap := h₁ }) (B := B) hd (by omega) (ok.keeps fun b o e _ => (kk b o e).2) (fun v hv ns t => ?_) fun o e => ?_
    · obtain ⟨t', ns', _, ti, _⟩ := e3 v hv
      have := (ti.keeps (h' := h₁) fun b o e _ => (kk b o e).2).ints
      rw [t.ints] at this
      show TS.code B (TS.intsOf s.heap v) = _
      rw [ti.ints, this]
    · have e' : some o = some (seqObj "list" its.toArray 0) := e.symm.trans hb
      cases e'
      intro c
      exact absurd (Value.type.inj c) (by decide)
  · have mem : ∀ v ∈ out, v ∈ its := fun v hv => stb.perm.mem_iff.mp hv
    have h3 : ∀ u ∈ out, ∃ a, u = Value.ref a := fun u hu => by
      obtain ⟨t, _, e, _⟩ := e3 u (mem u hu)
      exact ⟨t, e⟩
    obtain ⟨n, hn⟩ := sortedAll_at s.heap its out.toArray
    refine ⟨.ref (s.heap.objs.size + 1), upd H (s.heap.objs.size + 1) (.lst (out.map backV)), I.laid (t' := s.toks) (fun b o e => sortedAll_old e) (Nat.le_succ _) ⟨?_, out, n, vals_back h3, hn⟩, rfl, q _ _ ?_ (I.hok.fresh (Nat.le_succ _))⟩
    · rw [List.length_map, stb.perm.length_eq, ← rv.length]; exact hz
    · have es : out.map (TS.intsOf s.heap) = sortT nss := by
        refine sortedT_one ((stb.perm.map _).trans (by rw [← e1]; exact (sortT_perm nss).symm)) ?_ (sortT_sorted nss)
        rw [List.pairwise_map]
        refine List.Pairwise.imp_of_mem (fun {v u} hv hu z => ?_) srt
        obtain ⟨_, ns, _, t1, _, l1, b1⟩ := e3 v (mem v hv)
        obtain ⟨_, ms, _, t2, _, l2, b2⟩ := e3 u (mem u hu)
        rw [t1.ints, t2.ints]
        refine (lex_code (by omega) b1 b2).mpr ?_
        have z : decide (TS.code B (TS.intsOf s.heap u) < TS.code B (TS.intsOf s.heap v)) = false := z
        have z := of_decide_eq_false z
        rw [t1.ints, t2.ints] at z
        omega
      rw [← es]
      clear es stb srt hn
      induction out with
      | nil => exact .nil
      | cons v out ih =>
        refine .cons ?_ (ih (fun v hv => mem v (List.mem_cons_of_mem _ hv)) fun u hu => h3 u (List.mem_cons_of_mem _ hu))
        obtain ⟨t, ns, rfl, t1, sq, l1, b1⟩ := e3 v (mem v List.mem_cons_self)
        rw [t1.ints]
        exact ⟨t, rfl, sq, l1, fun m hm => (b1 m hm).1⟩
def tupsInts : List PyData → Option (List (List Int))
  | [] => some []
  | .tuple xs :: r => (asInts xs).bind fun ns => (tupsInts r).map fun nss => ns :: nss
  | _ :: _ => none
def evenN (d : Nat) (nss : List (List Int)) : Bool := nss.all fun ns => decide (ns.length = d) && ns.all fun m => decide (0 ≤ m)
def hSortT : Va → Option Va
  | .d (.list xs) => (tupsInts xs).bind fun nss => match nss with
    | [] => none
    | ns :: r => if 1 ≤ ns.length ∧ evenN ns.length (ns :: r) = true then some (.d (.list ((sortT (ns :: r)).map fun l => .tuple (l.map PyData.int)))) else none
  | _ => none
theorem tupsInts_some : ∀ {xs : List PyData} {nss : List (List Int)}, tupsInts xs = some nss → xs = nss.map fun l => .tuple (l.map PyData.int)
  | [], nss, h => by cases h; rfl
  | .tuple xs :: r, nss, h => by
    obtain ⟨ns, e1, h⟩ := Option.bind_eq_some_iff.mp h
    obtain ⟨ms, e2, rfl⟩ := Option.map_eq_some_iff.mp h
    rw [asInts_some e1, tupsInts_some e2]; rfl
  | .none :: _, _, h => by cases h
  | .bool _ :: _, _, h => by cases h
  | .int _ :: _, _, h => by cases h
  | .str _ :: _, _, h => by cases h
  | .list _ :: _, _, h => by cases h
  | .dict _ :: _, _, h => by cases h
theorem tups_at {K : PySem.W.Frag} {H : Hp} {Nu : Addr → Prop} {d : Nat} : ∀ {xs : List V} {nss : List (List Int)}, RepAll K (hz Nu H) xs (nss.map fun l => .tuple (l.map PyData.int)) → evenN d nss = true → TupsAt K H d xs nss
  | _, [], .nil, _ => .nil
  | _, ns :: nss, .cons h t, e => by
    have e' := List.all_eq_true.mp e ns List.mem_cons_self
    rw [Bool.and_eq_true, decide_eq_true_eq] at e'
    refine .cons ?_ (tups_at t (List.all_eq_true.mpr fun x hx => List.all_eq_true.mp e x (List.mem_cons_of_mem _ hx)))
    cases h with
    | tup hs l r =>
      have := r.ints
      subst this
      exact ⟨_, rfl, (hz_some.mp hs).2, e'.1, fun m hm => of_decide_eq_true (List.all_eq_true.mp e'.2 m hm)⟩
theorem tups_rep {K : PySem.W.Frag} {H Z : Hp} {d : Nat} (hd : d ≤ sizeLine) (hz : ∀ b ys, H b = some (.tup ys) → Z b = some (.tup ys)) : ∀ {xs : List V} {nss : List (List Int)}, TupsAt K H d xs nss → RepAll K Z xs (nss.map fun l => .tuple (l.map PyData.int))
  | _, _, .nil => .nil
  | _, _, .cons h t => by
    obtain ⟨b, rfl, hb, hl, _⟩ := h
    exact .cons (.tup (hz _ _ hb) (by rw [List.length_map, hl]; exact hd) .ofInts) (tups_rep hd hz t)
theorem pure_sortT {K : PySem.W.Frag} : PureN K (rSortT K) (on1 hSortT) := pure1_of fun Nu φ H u v w Q m h e q => by
  unfold hSortT at e
  split at e
  · obtain ⟨nss, e1, e2⟩ := Option.bind_eq_some_iff.mp e
    have := tupsInts_some e1
    subst this
    clear e
    split at e2
    · cases e2
    · rename_i ns r
      split at e2
      · rename_i hc
        cases e2
        cases h with
        | lst hs l rr =>
          have ta := tups_at rr hc.2
          have hdl : ns.length ≤ sizeLine := by
            cases rr with
            | cons h _ => cases h with
              | tup _ l _ => rw [List.length_map] at l; exact l
          refine ⟨_, _, ns :: r, ns.length, rfl, SqL.of (hz_some.mp hs).2, ta, hc.1, fun ys p ty hp => q _ _ (Ext.upd hp) ?_⟩
          obtain ⟨n1, n2⟩ := rep_new (K := K) (o := .lst ys) m hp
          refine .lst n2 ?_ (tups_rep hdl (fun b zs hb => ?_) ty)
          · rw [List.length_map, (sortT_perm _).length_eq]
            rw [List.length_map] at l
            exact l
          · have ne : b ≠ p := fun z => by rw [z, hp] at hb; cases hb
            exact hz_of (by rw [upd_ne ne]; exact hb) fun z => (m b z).2.1 zs hb
      · cases e2
  · cases e
def hSortA (v : Va) : Option Va := match hSort v with
  | some w => some w
  | none => hSortT v
theorem pure_sortA {K : PySem.W.Frag} : PureN K (fun xs H Q => rSortedI K xs H Q ∨ rSortT K xs H Q) (on1 hSortA) := fun Nu φ H us vs w Q m h e q => by
  match vs, e with
  | [v], e =>
    have e : hSortA v = some w := e
    unfold hSortA at e
    cases h1 : hSort v with
    | some x =>
      rw [h1] at e
      cases e
      exact .inl (pure_sort Nu φ H us [v] _ Q m h h1 q)
    | none =>
      rw [h1] at e
      exact .inr (pure_sortT Nu φ H us [v] _ Q m h e q)
theorem cr_sortA {X : Cx} : CallR X (.builtin "sorted") (fun xs H Q => rSortedI X.K xs H Q ∨ rSortT X.K xs H Q) := callR_or cr_sortedI cr_sortT
/-! ### displays -/
def oDispT (fk fv : DF) : DO := fun env => bnd (fk env) fun kv => bnd (ofO (kv.asD.bind asKeyT)) fun k => bnd (fv env) fun xv => bnd (ofO xv.asD) fun x => ret (.dd (.t [(k, x)]))
theorem eo_dispT {X : Cx} {ew : WX} {k v : Expr} {pos : Pos} {fk fv : DF} (hu : X.A.units < cLine) (hk : E X ew true k fk) (hv : E X ew true v fv) : EO X ew (.Dict [some k] [v] pos) (oDispT fk fv) := pe_weak (pe_disp1 hu hk hv) fun σ H Q h => by
  obtain ⟨W, φ, own, env, S, r, h⟩ := h
  intro p hp
  have npφ : p ∉ φ := fun z => r.fresh hp (.inr (.inl z))
  have kp0 : Kp φ H φ (upd H p (.dT [])) := Kp.ext (Ext.upd hp)
  refine ⟨W.and p, φ, own, env, S, r.laidO hp (plain_dT []), (sat_bnd.mp h).mono (fun kv S1 q φ1 H1 y r1 k1 v1 => ?_) fun x S1 q φ1 H1 r1 k1 => XWish.more (q φ1 H1 r1.lessG (kp0.trans k1)) fun a z => mu_and.mpr (.inl z)⟩
  obtain ⟨ks, e1, q1⟩ := sat_ofO.mp (sat_bnd.mp q)
  obtain ⟨kd, e2, e3⟩ := Option.bind_eq_some_iff.mp e1
  obtain rfl := asD_some e2
  refine ⟨W.and p, φ1, own, env, S1, r1, (sat_bnd.mp q1).mono (fun xv S2 q φ2 H2 z r2 k2 v2 => ?_) fun x S2 q φ2 H2 r2 k2 => XWish.more (q φ2 H2 r2.lessG ((kp0.trans k1).trans k2)) fun a z => mu_and.mpr (.inl z)⟩
  obtain ⟨xd, e4, q2⟩ := sat_ofO.mp (sat_bnd.mp q)
  obtain rfl := asD_some e4
  have v1' : Rep X.K (hz (Mu (W.and p).G φ2 own) H2) y kd := Rep.ext (Kp.hz (fl := true) k2) v1
  have v2 : Rep X.K (hz (Mu (W.and p).G φ2 own) H2) z xd := v2
  obtain ⟨b, rfl, hb⟩ := asKeyT_rep e3 v1'
  have hp2 : H2 p = some (.dT []) := (k1.trans k2).keep p _ npφ upd_same
  refine ⟨ks, b, rfl, hz_sub _ _ hb, hp2, ?_⟩
  have hup : Ext (hz (Mu (W.and p).G φ2 own) H2) (hz (Mu (W.and p).G φ2 own) (upd H2 p (.dT [(ks, z)]))) := fun a o h => by
    obtain ⟨n, h⟩ := hz_some.mp h
    exact hz_of (by rw [upd_ne fun z => n (.inl (.inr z))]; exact h) n
  have kk := (kp0.trans k1).trans k2
  refine q2 φ2 _ (.ref p) [p] (by rw [ands_one]; exact r2.updGo (.inr rfl) (base_none r hp) (plain_dT _)) ⟨kk.pre, fun a o n h => ?_, kk.new⟩ (fun a h => by rw [List.mem_singleton.mp h]; exact hp) ?_
  · rw [upd_ne fun z => by rw [z, hp] at h; cases h]
    exact kk.keep a o n h
  · rw [ands_one]
    exact ⟨p, rfl, rfl, _, upd_same, .cons (v2.ext hup) .nil⟩
/-- displays whose keys are whole numbers or texts -/
def pairsK : List (DF × DF) → En → M (List (Key × PyData))
  | [], _ => ret []
  | (fk, fv) :: r, env => bnd (fk env) fun kv => bnd (ofO (kv.asD.bind asKey)) fun k => bnd (fv env) fun xv => bnd (ofO xv.asD) fun x => bnd (pairsK r env) fun t => ret ((k, x) :: t)
def trsK (C : Ct) (kfs : List (DF × DF)) : List (TE × TE) := kfs.map fun p => (tI C true p.1, tI C true p.2)
theorem tPairsK_of {C : Ct} {σ : L2.St} : ∀ {kfs : List (DF × DF)} {H : Hp} {Q : List (V × V) → Hp → Prop} {W : Wd} {φ : List Addr} {own : Nat → List Addr} {env : En} {S : Sto} {P : List (Key × PyData) → Sto → Prop} {P' : Ex → Sto → Prop}, Rel C.K W φ own env S σ H →
    (pairsK kfs env S).sat P P' → (∀ x S1 φ1 H1, P' x S1 → Rel C.K W φ1 own env S1 σ H1 → Kp φ H φ1 H1 → XWish C (Mu W.G φ1 own) σ H1 x) →
    (∀ ps S1 φ1 H1 ks, P ps S1 → Rel C.K W φ1 own env S1 σ H1 → Kp φ H φ1 H1 → KRep C.K (hz (Mu W.G φ1 own) H1) ks ps → ps.length = kfs.length → Q (ks.map fun kv => (kV kv.1, kv.2)) H1) → tPairs (trsK C kfs) σ H Q
  | [], H, Q, W, φ, own, env, S, P, P', r, h, hx, fin => fin [] S φ H [] h r Kp.refl .nil rfl
  | (fk, fv) :: rest, H, Q, W, φ, own, env, S, P, P', r, h, hx, fin => by
    refine ⟨W, φ, own, env, S, r, (sat_bnd.mp h).mono (fun v S1 q φ1 H1 u r1 k1 v1 => ?_) fun x S1 q φ1 H1 r1 k1 => hx x S1 φ1 H1 q r1 k1⟩
    obtain ⟨k, e1, q1⟩ := sat_ofO.mp (sat_bnd.mp q)
    obtain ⟨kd, e2, e3⟩ := Option.bind_eq_some_iff.mp e1
    obtain rfl := asD_some e2
    obtain rfl := asKey_rep e3 v1
    refine ⟨W, φ1, own, env, S1, r1, (sat_bnd.mp q1).mono (fun v S2 q φ2 H2 u r2 k2 v2 => ?_) fun x S2 q φ2 H2 r2 k2 => hx x S2 φ2 H2 q r2 (k1.trans k2)⟩
    obtain ⟨xd, e4, q2⟩ := sat_ofO.mp (sat_bnd.mp q)
    obtain rfl := asD_some e4
    refine tPairsK_of (kfs := rest) (P := fun ps S' => P ((k, xd) :: ps) S') r2 (sat_bnd.mp q2) (fun x S3 φ3 H3 z r3 k3 => hx x S3 φ3 H3 z r3 ((k1.trans k2).trans k3)) fun ps S3 φ3 H3 ks hp r3 k3 hr hl => ?_
    exact fin _ S3 φ3 H3 ((k, u) :: ks) hp r3 ((k1.trans k2).trans k3) (.cons (Rep.ext (Kp.hz (fl := true) k3) v2) hr) (by simp [hl])
def mergeKD (kvs more : List (Key × PyData)) : List (Key × PyData) := more.foldl (fun acc kv => putD acc kv.1 kv.2) kvs
theorem KRep.mergeK {K : PySem.W.Frag} {Z : Hp} : ∀ {more : List (Key × V)} {md : List (Key × PyData)}, KRep K Z more md → ∀ {ks : List (Key × V)} {kd : List (Key × PyData)}, KRep K Z ks kd → KRep K Z (L2.mergeK ks more) (mergeKD kd md)
  | _, _, .nil, _, _, h => h
  | _, _, .cons hv t, _, _, h => KRep.mergeK t (KRep.put hv h)
def oDispK (kfs : List (DF × DF)) : DO := fun env => bnd (pairsK kfs env) fun ps => ret (.dd (.k (mergeKD [] ps)))
theorem eo_dispK {X : Cx} {ew : WX} {keys : List (Option Expr)} {values : List Expr} {kfs : List (DF × DF)} {pos : Pos} (hp : PPs X pos keys values (trsK ⟨X.K, X.mg, ew⟩ kfs)) (h1 : (keys.all fun x => x.isSome) = true) (h2 : keys.length = values.length) (h3 : keys ≠ []) (h4 : keys.length ≤ 15) (hk : kfs.length ≤ 15) :
    EO X ew (.Dict keys values pos) (oDispK kfs) := pe_weak (pe_disp hp h1 h2 h3 h4) fun σ H Q h => by
  obtain ⟨W, φ, own, env, S, r, h⟩ := h
  intro p hp
  have kp0 : Kp φ H φ (upd H p (.dK [])) := Kp.ext (Ext.upd hp)
  have npφ : p ∉ φ := fun z => r.fresh hp (.inr (.inl z))
  refine tPairsK_of (C := ⟨X.K, X.mg, ew⟩) (r.laidO hp (plain_dK [])) (sat_bnd.mp h) (fun x S1 φ1 H1 q r1 k1 => XWish.more (q φ1 H1 r1.lessG (kp0.trans k1)) fun a z => mu_and.mpr (.inl z)) fun ps S1 φ1 H1 ks q r1 k1 hr hl => ?_
  have hp2 : H1 p = some (.dK []) := k1.keep p _ npφ upd_same
  refine ⟨hp2, ks, rfl, by rw [hr.length, hl]; exact hk, ?_⟩
  have hup : Ext (hz (Mu (W.and p).G φ1 own) H1) (hz (Mu (W.and p).G φ1 own) (upd H1 p (.dK (L2.mergeK [] ks)))) := fun a o h => by
    obtain ⟨n, h⟩ := hz_some.mp h
    exact hz_of (by rw [upd_ne fun z => n (.inl (.inr z))]; exact h) n
  have kk := kp0.trans k1
  refine q φ1 _ (.ref p) [p] (by rw [ands_one]; exact r1.updGo (.inr rfl) (base_none r hp) (plain_dK _)) ⟨kk.pre, fun a o n h => ?_, kk.new⟩ (fun a h => by rw [List.mem_singleton.mp h]; exact hp) ?_
  · rw [upd_ne fun z => by rw [z, hp] at h; cases h]
    exact kk.keep a o n h
  · rw [ands_one]
    exact ⟨p, rfl, rfl, _, upd_same, (KRep.mergeK hr .nil).ext hup⟩
/-- an owned dict as data -/
def dOf (o : DO) : DF := fun env => bnd (o env) fun sv => match sv with
  | .dd d => ret (.d d.data)
  | _ => no
theorem e_dOf {X : Cx} {ew : WX} {e : Expr} {o : DO} (h : EO X ew e o) : E X ew true e (dOf o) := pe_weak h fun σ H Q h => by
  obtain ⟨W, φ, own, env, S, r, h⟩ := h
  refine ⟨W, φ, own, env, S, r, (sat_bnd.mp h).mono (fun sv S1 q φ1 H1 u F r1 k1 hF hs => ?_) fun _ _ q => q⟩
  cases sv with
  | dd d =>
    obtain ⟨a, rfl, rfl, hd⟩ := hs
    have q : ∀ φ' H' u, Rel X.K W φ' own env S1 σ H' → Kp φ H φ' H' → VRep X.K (Mo true W.G φ' own) φ' H' u (.d d.data) → Q u H' := q
    rw [ands_one] at r1 hd
    refine q φ1 H1 (.ref a) r1.lessG k1 ?_
    have nd : ¬ Mu W.G φ1 own a := fun z => by
      rcases z with z | z | ⟨i, z⟩
      · exact r.fresh (hF a (by simp)) (.inl z)
      · exact (r1.gd a (.inr rfl)).1 z
      · exact (r1.gd a (.inr rfl)).2 i z
    refine DictR.rep (Y := hz (Mu W.G φ1 own) H1) (hz_anti fun b _ _ z => mu_and.mpr (.inl z)) ?_ hd
    unfold hz
    exact if_neg nd
  | d _ => exact q.elim
  | l1 _ => exact q.elim
  | l2 _ => exact q.elim
  | c _ => exact q.elim
  | s _ => exact q.elim
end KP


set_option Elab.async false
set_option linter.all false
set_option maxRecDepth 100000
/-! KDg: membership in dicts, d.get(k). -/
namespace KP
open PySem PySem.Spec PyProof.Rows L2
theorem inv_dK {X : Cx} {pins : List (Addr × Obj)} {σ : L2.St} {H : Hp} {s : Shared} {a : Addr} (I : Inv X pins σ H s) (e : H a = some (.dT [])) : Inv X pins σ (upd H a (.dK [])) s := by
  obtain ⟨z, hd, xs, rel, o, es, ep, ho, ex, hdat, he, his, nd⟩ := dt_of I.hok e
  cases rel
  have he' : es.toList = [] := he
  have es0 : es = #[] := by
    apply Array.ext'
    rw [he']
  subst es0
  have same : Heap.SameBut a s.heap s.heap := Heap.SameBut.refl _ _
  have := d_write (h' := s.heap) (t' := s.toks) (ob := .dK []) I (by rw [e]; exact True.intro) same ⟨o, ho⟩ (dk_new (P := X.prog) (w := X.w) (vs := []) z hd .nil ⟨o, #[], ep, ho, ex, hdat, fun _ he => by simp at he, Pairs.nil, List.nodup_nil⟩)
  exact this
theorem upd_back {H : Hp} {a : Addr} {u v : HO} (h : H a = some u) : upd (upd H a v) a u = H := by
  funext b
  by_cases e : b = a
  · rw [e, upd_same, h]
  · rw [upd_ne e, upd_ne e]
/-- the empty dict, asked by the other kind of key -/
def DEmp (H : Hp) (a : Addr) (y : V) : Prop := (H a = some (.dK []) ∧ ∃ b k, y = .ref b ∧ H b = some (.tup (List.map kV k))) ∨ (H a = some (.dT []) ∧ ∃ k, y = kV k)
def DAsk (H : Hp) (a : Addr) (y : V) (o : Option V) : Prop := DGet H a y o ∨ (o = none ∧ DEmp H a y)
theorem ask_run {X : Cx} {pins : List (Addr × Obj)} {σ : L2.St} {H : Hp} {s : Shared} {a : Addr} {y : V} {o : Option V} {P : Prop} (I : Inv X pins σ H s) (g : DAsk H a y o)
    (k : ∀ H', Inv X pins σ H' s → DGet H' a y o → (∀ s', Inv X pins σ H' s' → Inv X pins σ H s') → P) : P := by
  rcases g with g | ⟨rfl, ⟨e, b, ks, rfl, hb⟩ | ⟨e, ks, rfl⟩⟩
  · exact k H I g fun _ h => h
  · have ne : b ≠ a := fun z => by rw [z, e] at hb; cases hb
    refine k (upd H a (.dT [])) (inv_dT I e) (.inr ⟨[], ks, b, .inl upd_same, rfl, by rw [upd_ne ne]; exact hb, rfl⟩) fun s' h => ?_
    have := inv_dK h upd_same
    rw [upd_back e] at this
    exact this
  · refine k (upd H a (.dK [])) (inv_dK I e) (.inl ⟨[], ks, .inl upd_same, rfl, rfl⟩) fun s' h => ?_
    have := inv_dT h upd_same
    rw [upd_back e] at this
    exact this
def rInM (neg : Bool) : R2 := fun y x H Q => ∃ a o, x = .ref a ∧ DAsk H a y o ∧ Q (.bl (o.isSome != neg)) H
theorem op_inM {X : Cx} (hu : X.A.units + 1 < cLine) : OpR X (compareOp .In) (rInM false) := by
  intro pins s σ H x y v u Q I rx ry h
  obtain ⟨a, o, rfl, g, q⟩ := h
  cases ry
  refine ask_run I g fun H' I' g' back => d_in hu I' g' rx fun s' I'' => ⟨.bl o.isSome, H, back s' I'', rfl, ?_⟩
  simpa using q
theorem op_notInM {X : Cx} (hu : X.A.units + 1 < cLine) : OpR X (compareOp .NotIn) (rInM true) := by
  intro pins s σ H x y v u Q I rx ry h
  obtain ⟨a, o, rfl, g, q⟩ := h
  cases ry
  refine ask_run I g fun H' I' g' back => d_notIn hu I' g' rx fun s' I'' => ⟨.bl (!o.isSome), H, back s' I'', rfl, ?_⟩
  simpa using q
/-- what stands at a key; none: the kinds of keys are mixed -/
def dAsk (kvs : List (PyData × PyData)) (p : PyData) : Option (Option PyData) := if (kvs.all fun q => (asKey q.1).isSome == (asKey p).isSome) = true then dlook kvs p else none
inductive ORep (K : PySem.W.Frag) (Z : Hp) : Option V → Option PyData → Prop
  | none : ORep K Z none none
  | some {v : V} {p : PyData} : Rep K Z v p → ORep K Z (some v) (some p)
theorem ask_of {K : PySem.W.Frag} {Nu : Addr → Prop} {H : Hp} {x y : V} {kvs : List (PyData × PyData)} {p : PyData} {o : Option PyData} (hx : Rep K (hz Nu H) x (.dict kvs)) (hy : Rep K (hz Nu H) y p) (e : dAsk kvs p = some o) : ∃ a o', x = .ref a ∧ DAsk H a y o' ∧ ORep K (hz Nu H) o' o := by
  unfold dAsk at e
  split at e
  · rename_i hall
    unfold dlook at e
    cases hx with
    | dcK hr hk =>
      rename_i a ks
      cases ek : asKey p with
      | some k =>
        rw [ek] at e
        have e := Option.some.inj e
        rcases hk.look (k := k) with ⟨h1, h2⟩ | ⟨v, p', h1, h2, h3⟩
        · rw [h2] at e; subst e
          exact ⟨a, none, rfl, .inl (.inl ⟨ks, k, .inl (hz_sub _ _ hr), asKey_rep ek hy, h1.symm⟩), .none⟩
        · rw [h2] at e; subst e
          exact ⟨a, some v, rfl, .inl (.inl ⟨ks, k, .inl (hz_sub _ _ hr), asKey_rep ek hy, h1.symm⟩), .some h3⟩
      | none =>
        rw [ek] at e
        cases et : asKeyT p with
        | none => rw [et] at e; cases e
        | some k =>
          cases hk with
          | nil =>
            rw [et] at e
            cases e
            obtain ⟨b, rfl, hb⟩ := asKeyT_rep et hy
            exact ⟨a, none, rfl, .inr ⟨rfl, .inl ⟨hz_sub _ _ hr, b, k, rfl, hz_sub _ _ hb⟩⟩, .none⟩
          | @cons k' _ _ _ _ _ _ =>
            have := List.all_eq_true.mp hall _ List.mem_cons_self
            rw [ek, asKey_keyP] at this
            cases this
    | dcT hr hk =>
      rename_i a ks
      cases ek : asKey p with
      | some k =>
        cases hk with
        | nil =>
          rw [ek] at e
          cases e
          exact ⟨a, none, rfl, .inr ⟨rfl, .inr ⟨hz_sub _ _ hr, k, asKey_rep ek hy⟩⟩, .none⟩
        | @cons k' _ _ _ _ _ _ =>
          have := List.all_eq_true.mp hall _ List.mem_cons_self
          rw [ek, asKey_keyT] at this
          cases this
      | none =>
        rw [ek] at e
        cases et : asKeyT p with
        | none => rw [et] at e; cases e
        | some k =>
          rw [et] at e
          have e := Option.some.inj e
          obtain ⟨b, rfl, hb⟩ := asKeyT_rep et hy
          rcases hk.look (k := k) with ⟨h1, h2⟩ | ⟨v, p', h1, h2, h3⟩
          · rw [h2] at e; subst e
            exact ⟨a, none, rfl, .inl (.inr ⟨ks, k, b, .inl (hz_sub _ _ hr), rfl, hz_sub _ _ hb, h1.symm⟩), .none⟩
          · rw [h2] at e; subst e
            exact ⟨a, some v, rfl, .inl (.inr ⟨ks, k, b, .inl (hz_sub _ _ hr), rfl, hz_sub _ _ hb, h1.symm⟩), .some h3⟩
  · cases e
def gInM (neg : Bool) : Va → Va → Option Va
  | .d p, .d (.dict kvs) => (dAsk kvs p).map fun o => .d (.bool (o.isSome != neg))
  | _, _ => none
theorem pure_inM {K : PySem.W.Frag} {neg : Bool} : Pure2 K (rInM neg) (gInM neg) := pureO_of fun Nu φ H u u2 v v2 w Q m h1 h2 e q => by
  unfold gInM at e
  split at e
  · obtain ⟨o, e1, rfl⟩ := Option.map_eq_some_iff.mp e
    obtain ⟨a, o', rfl, g, r⟩ := ask_of h2 h1 e1
    refine ⟨a, o', rfl, g, q H _ Ext.refl ?_⟩
    cases r <;> exact .bl _
  · cases e
/-! ### d.get(k) -/
def cGet1 (fo f : DF) : DF := fun env => bnd (fo env) fun v => bnd (ofO (match v with | .d (.dict kvs) => some kvs | _ => none)) fun kvs => bnd (f env) fun w => bnd (ofO w.asD) fun p => bnd (ofO (dAsk kvs p)) fun o => ret (.d (o.getD .none))
theorem mt_get1 {X : Cx} (hu : X.A.units + 1 < cLine) : MtR X "dict.get" (fun x us H Q => ∃ a y o, x = .ref a ∧ us = [y] ∧ DAsk H a y o ∧ Q (o.getD .non) H) := by
  intro pins s σ H x us0 v us Q I rx rv h
  obtain ⟨a, y, o, rfl, rfl, g, q⟩ := h
  cases rx
  cases rv with
  | cons r1 r2 =>
    cases r2
    exact ask_run I g fun H' I' g' back => d_get1 hu I' g' r1 fun w' s' I'' rw' => ⟨_, H, back s' I'', rw', q⟩
theorem e_get1 {X : Cx} {ew : WX} {fl : Bool} {o e : Expr} {fo f : DF} {apos cpos : Pos} (hu : X.A.units + 1 < cLine) (ho : E X ew fl o fo) (h : E X ew fl e f)
    (hbase : attributeBase o "get" X.env (eval o X.env) = eval o X.env := by rfl)
    (hfew : ((backTo cpos (starEach [e] X.env)).all (fun x => !x.1) && (backToKw cpos (keywordEach [] X.env)).all (fun x => x.1.isSome)
      && decide (([e] : List Expr).length + ([] : List Keyword).length + (if ([] : List Keyword).isEmpty then 0 else 1) < 30)) = true := by rfl)
    (hline : (apos.endLine == cpos.line) = true := by rfl) (hst : starEach [e] X.env = (false, eval e X.env) :: starEach [] X.env := by rfl) (hplain : (backTo cpos (starEach [] X.env)).any (·.1) = false := by rfl) :
    E X ew fl (.Call (.Attribute o "get" apos) [e] [] cpos) (cGet1 fo f) :=
  pe_weak (pe_bm PySem.F.plainAttrs_dict PySem.F.slot_dict_get PySem.F.type_dict_get (mt_get1 hu) ho (pa_cons h pa_nil hst) hbase hfew hline hst hplain) fun σ H Q h => by
    obtain ⟨W, φ, own, env, S, r, h⟩ := h
    refine ⟨W, φ, own, env, S, r, (sat_bnd.mp h).mono (fun v S1 q φ1 H1 u r1 k1 v1 => ?_) fun _ _ q => q⟩
    obtain ⟨kvs, e1, q1⟩ := sat_ofO.mp (sat_bnd.mp q)
    split at e1
    · cases e1
      have ty : tyV X.K "dict" u H1 := by
        cases v1 with
        | dcK hr _ => exact .inr (.inr (.inl ⟨rfl, .inl ⟨_, hz_sub _ _ hr⟩⟩))
        | dcT hr _ => exact .inr (.inr (.inl ⟨rfl, .inr ⟨_, hz_sub _ _ hr⟩⟩))
      refine ⟨ty, W, φ1, own, env, S1, r1, (sat_bnd.mp q1).mono (fun w S2 q2 φ2 H2 y r2 k2 v2 => ?_) fun x S2 q φ2 H2 r2 k2 => q φ2 H2 r2 (k1.trans k2)⟩
      obtain ⟨p, e2, q3⟩ := sat_ofO.mp (sat_bnd.mp q2)
      obtain rfl := asD_some e2
      obtain ⟨o, e3, q4⟩ := sat_ofO.mp (sat_bnd.mp q3)
      obtain ⟨a, o', rfl, g, ro⟩ := ask_of (VRep.keep k2 v1) v2 e3
      refine ⟨a, y, o', rfl, rfl, g, q4 φ2 H2 _ r2 (k1.trans k2) ?_⟩
      cases ro with
      | none => exact .non
      | some r => exact r
    · cases e1
end KP


set_option Elab.async false
set_option linter.all false
set_option maxRecDepth 100000
/-! KZb: evaluation of dicts with tuple keys; sorted tuples. -/
namespace KP
open PySem PySem.Spec PyProof.Rows L2
section
variable (env : En)
@[simp] theorem fKeys_eq (i : Nat) : fKeys i env = bnd (ofO ((lk env i).bind Sv.asDD)) fun d => ret (dKeys d) := rfl
@[simp] theorem oDispT_eq (fk fv : DF) : oDispT fk fv env = bnd (fk env) fun kv => bnd (ofO (kv.asD.bind asKeyT)) fun k => bnd (fv env) fun xv => bnd (ofO xv.asD) fun x => ret (.dd (.t [(k, x)])) := rfl
@[simp] theorem sUpd_eq (i : Nat) (f : DTs) : sUpd i f env = bnd (ofO ((lk env i).bind Sv.asDD)) fun d => lift env (f env) fun ps => bnd (ofO (d.upd ps)) fun d' => ret (.nx, env.set i (some (.dd d'))) := rfl
end
def keyN (p : List Nat) : List Key := p.map fun x : Nat => (Sum.inl (x : Int) : Key)
theorem keyT_N (p : List Nat) : keyT (keyN p) = tN p := by
  simp only [keyT, keyN, tN, List.map_map]; rfl
theorem asKeyT_N (p : List Nat) : asKeyT (tN p) = some (keyN p) := by rw [← keyT_N, asKeyT_keyT]
theorem keyN_inj {p q : List Nat} (h : keyN p = keyN q) : p = q := by
  have hf : Function.Injective (fun x : Nat => (Sum.inl (x : Int) : Key)) := fun a b e => by
    have := Sum.inl.inj e
    omega
  exact (List.map_inj_right fun a b e => hf e).mp h
theorem asKey_N (p : List Nat) : asKey (tN p) = none := rfl
/-- the dict whose keys are these -/
def setD (fs : List (List Nat)) : List (List Key × PyData) := fs.map fun p => (keyN p, .bool true)
def putP (fs : List (List Nat)) (p : List Nat) : List (List Nat) := if p ∈ fs then fs else fs ++ [p]
theorem put_setD (fs : List (List Nat)) (p : List Nat) : putD (setD fs) (keyN p) (.bool true) = setD (putP fs p) := by
  have ha : ((setD fs).any fun kv => decide (kv.1 = keyN p)) = decide (p ∈ fs) := by
    rw [Bool.eq_iff_iff, List.any_eq_true, decide_eq_true_eq]
    constructor
    · rintro ⟨x, hx, e⟩
      obtain ⟨q, hq, rfl⟩ := List.mem_map.mp hx
      rw [← keyN_inj (of_decide_eq_true e)]; exact hq
    · intro h
      exact ⟨_, List.mem_map.mpr ⟨p, h, rfl⟩, by simp⟩
  unfold putD putP
  rw [ha]
  by_cases h : p ∈ fs
  · rw [if_pos (by simpa using h), if_pos h]
    unfold setD
    rw [List.map_map]
    refine List.map_congr_left fun q _ => ?_
    show (if keyN q = keyN p then (keyN q, PyData.bool true) else (keyN q, .bool true)) = _
    split <;> rfl
  · rw [if_neg (by simpa using h), if_neg h]
    simp [setD]
theorem mem_putP {fs : List (List Nat)} {p x : List Nat} : x ∈ putP fs p ↔ x ∈ fs ∨ x = p := by
  unfold putP
  split
  · rename_i h
    exact ⟨.inl, fun z => z.elim id fun e => e ▸ h⟩
  · simp
theorem nd_putP {fs : List (List Nat)} {p : List Nat} (h : fs.Nodup) : (putP fs p).Nodup := by
  unfold putP
  split
  · exact h
  · rename_i hn
    refine List.nodup_append.mpr ⟨h, by simp, fun a ha b hb => ?_⟩
    rw [List.mem_singleton.mp hb]
    intro e; exact hn (e ▸ ha)
def putsP (fs more : List (List Nat)) : List (List Nat) := more.foldl putP fs
theorem mem_putsP : ∀ {more fs : List (List Nat)} {x : List Nat}, x ∈ putsP fs more ↔ x ∈ fs ∨ x ∈ more
  | [], fs, x => by simp [putsP]
  | p :: more, fs, x => by
    show x ∈ putsP (putP fs p) more ↔ _
    rw [mem_putsP, mem_putP, List.mem_cons, or_assoc]
theorem nd_putsP : ∀ {more fs : List (List Nat)}, fs.Nodup → (putsP fs more).Nodup
  | [], _, h => h
  | p :: more, fs, h => nd_putsP (fs := putP fs p) (nd_putP h)
theorem puts_len : ∀ (more fs : List (List Nat)), (putsP fs more).length ≤ fs.length + more.length
  | [], fs => by simp [putsP]
  | p :: more, fs => by
    have h1 := puts_len more (putP fs p)
    have h2 : (putP fs p).length ≤ fs.length + 1 := by unfold putP; split <;> simp
    show (putsP (putP fs p) more).length ≤ _
    rw [List.length_cons]; omega
theorem merge_setD : ∀ (more fs : List (List Nat)), mergeD (setD fs) (setD more) = setD (putsP fs more)
  | [], _ => rfl
  | p :: more, fs => by
    show mergeD (putD (setD fs) (keyN p) (.bool true)) (setD more) = setD (putsP (putP fs p) more)
    rw [put_setD, merge_setD]
theorem keys_setD (fs : List (List Nat)) : dKeys (.t (setD fs)) = fs.map tN := by
  show ((setD fs).map (·.1)).map keyT = _
  unfold setD
  rw [List.map_map, List.map_map]
  exact List.map_congr_left fun p _ => keyT_N p
theorem len_setD (fs : List (List Nat)) : (setD fs).length = fs.length := by simp [setD]
theorem in_setD (neg : Bool) (p : List Nat) (fs : List (List Nat)) : gInM neg (.d (tN p)) (.d (Dk.t (setD fs)).data) = some (.d (.bool (decide (p ∈ fs) != neg))) := by
  have hd : (Dk.t (setD fs)).data = .dict ((setD fs).map fun q => (keyT q.1, q.2)) := rfl
  rw [hd]
  have ha : dAsk ((setD fs).map fun q => (keyT q.1, q.2)) (tN p) = some (if p ∈ fs then some (.bool true) else none) := by
    unfold dAsk
    rw [if_pos (by
      rw [List.all_eq_true]
      intro q hq
      obtain ⟨r, _, rfl⟩ := List.mem_map.mp hq
      rfl)]
    unfold dlook
    rw [asKey_N, asKeyT_N]
    dsimp only
    congr 1
    by_cases h : p ∈ fs
    · rw [if_pos h]
      cases e : ((setD fs).map fun q => (keyT q.1, q.2)).find? (fun q => decide (asKeyT q.1 = some (keyN p))) with
      | none =>
        rw [List.find?_eq_none] at e
        have := e (keyT (keyN p), .bool true) (List.mem_map.mpr ⟨(keyN p, .bool true), List.mem_map.mpr ⟨p, h, rfl⟩, rfl⟩)
        rw [asKeyT_keyT] at this
        simp at this
      | some q =>
        have := List.mem_of_find?_eq_some e
        obtain ⟨r, hr, rfl⟩ := List.mem_map.mp this
        obtain ⟨s, _, rfl⟩ := List.mem_map.mp hr
        rfl
    · rw [if_neg h]
      have : ((setD fs).map fun q => (keyT q.1, q.2)).find? (fun q => decide (asKeyT q.1 = some (keyN p))) = none := by
        rw [List.find?_eq_none]
        intro q hq
        obtain ⟨r, hr, rfl⟩ := List.mem_map.mp hq
        obtain ⟨s, hs, rfl⟩ := List.mem_map.mp hr
        rw [asKeyT_keyT]
        intro z
        exact h (keyN_inj (Option.some.inj (of_decide_eq_true z)) ▸ hs)
      rw [this]; rfl
  unfold gInM
  dsimp only
  rw [ha]
  by_cases h : p ∈ fs <;> simp [h]
theorem dcA_all {α : Type} {h : DL} {t : TF} {ek ev : DF} {vs : List Nat} {env : En} {xs : List α} {f : α → PyData} {kf : α → List Key} {g : α → PyData} (h1 : h env = ret (xs.map f)) (hl : xs.length ≤ sizeLine)
    (h2 : ∀ x ∈ xs, ∃ env1, t (.d (f x)) (wipeE (stillE env) vs) = some env1 ∧ ek env1 = ret (.d (keyT (kf x))) ∧ ev env1 = ret (.d (g x))) : dcA h t bYes ek ev vs env = ret (xs.foldl (fun acc x => putD acc (kf x) (g x)) []) := by
  have key : ∀ (zs : List α) (acc : List (List Key × PyData)), (∀ x ∈ zs, x ∈ xs) → compD t bYes ek ev (wipeE (stillE env) vs) (zs.map f) acc = ret (zs.foldl (fun acc x => putD acc (kf x) (g x)) acc) := by
    intro zs
    induction zs with
    | nil => intro acc _; rfl
    | cons z zs ih =>
      intro acc hz
      obtain ⟨env1, e1, e2, e3⟩ := h2 z (hz z (by simp))
      have := ih (putD acc (kf z) (g z)) fun y hy => hz y (by simp [hy])
      simp -implicitDefEqProofs [compD, e1, bYes, e2, e3, asKeyT_keyT, this, Va.asD]
  unfold dcA
  rw [h1]
  have hl' : (xs.map f).length ≤ sizeLine := by simpa using hl
  rw [bnd_ret, if_pos hl', key xs [] fun x h => h, noX_ret]
/-! ### sorted -/
theorem tups_nat (fs : List (List Nat)) : tupsInts (fs.map tN) = some (fs.map fun p => p.map fun x : Nat => (x : Int)) := by
  induction fs with
  | nil => rfl
  | cons p fs ih =>
    show ((asInts (p.map nI)).bind fun ns => (tupsInts (fs.map tN)).map fun nss => ns :: nss) = _
    rw [ih]
    have : asInts (p.map nI) = some (p.map fun x : Nat => (x : Int)) := by
      have := asInts_nat p
      exact this
    rw [this]; rfl
theorem sortA_tups {fs gs : List (List Nat)} {d : Nat} (hn : fs ≠ []) (hd : 1 ≤ d) (hl : ∀ p ∈ fs, p.length = d) (hp : gs.Perm fs) (hs : gs.Pairwise fun p q => lexLe (p.map fun x : Nat => (x : Int)) (q.map fun x : Nat => (x : Int)) = true) : on1 hSortA [.d (.list (fs.map tN))] = some (.d (.list (gs.map tN))) := by
  show hSortA (.d (.list (fs.map tN))) = _
  have e1 : hSort (.d (.list (fs.map tN))) = none := by
    cases fs with
    | nil => exact absurd rfl hn
    | cons p fs => rfl
  have e2 : sortT (fs.map fun p => p.map fun x : Nat => (x : Int)) = gs.map fun p => p.map fun x : Nat => (x : Int) := by
    refine sortedT_one ((sortT_perm _).trans (hp.symm.map _)) (sortT_sorted _) ?_
    rw [List.pairwise_map]; exact hs
  unfold hSortA
  rw [e1]
  dsimp only
  show ((tupsInts (fs.map tN)).bind fun nss => match nss with
    | [] => none
    | ns :: r => if 1 ≤ ns.length ∧ evenN ns.length (ns :: r) = true then some (Va.d (.list ((sortT (ns :: r)).map fun l => .tuple (l.map PyData.int)))) else none) = _
  rw [tups_nat]
  cases fs with
  | nil => exact absurd rfl hn
  | cons p fs =>
    show (if 1 ≤ (p.map fun x : Nat => (x : Int)).length ∧ evenN (p.map fun x : Nat => (x : Int)).length ((p :: fs).map fun p => p.map fun x : Nat => (x : Int)) = true then some (Va.d (.list ((sortT ((p :: fs).map fun p => p.map fun x : Nat => (x : Int))).map fun l => .tuple (l.map PyData.int)))) else none) = _
    rw [if_pos, e2, List.map_map]
    · congr 3
      refine List.map_congr_left fun p _ => ?_
      show PyData.tuple ((p.map fun x : Nat => (x : Int)).map PyData.int) = tN p
      rw [List.map_map]; rfl
    · have hpl := hl p (by simp)
      refine ⟨by rw [List.length_map, hpl]; exact hd, ?_⟩
      unfold evenN
      rw [List.all_eq_true]
      intro q hq
      obtain ⟨r, hr, rfl⟩ := List.mem_map.mp hq
      rw [Bool.and_eq_true, decide_eq_true_eq, List.length_map, List.length_map, hl r hr, hpl, List.all_eq_true]
      refine ⟨rfl, fun m hm => ?_⟩
      obtain ⟨x, _, rfl⟩ := List.mem_map.mp hm
      exact decide_eq_true (Int.natCast_nonneg x)
theorem rng2_nat (a n : Nat) (h : n < 2 ^ 62) (ha : a < 2 ^ 62) : gRng2 [.d (.int (a : Int)), .d (.int (n : Int))] = some (((List.range (n - a)).map fun i => a + i).map nI) := by
  have h1 : rngOk (a : Int) = true := by simp only [rngOk, Bool.and_eq_true, decide_eq_true_eq]; omega
  have h2 : rngOk (n : Int) = true := by simp only [rngOk, Bool.and_eq_true, decide_eq_true_eq]; omega
  simp only [gRng2, h1, h2, Bool.and_self, if_true]
  refine congrArg some ?_
  unfold rngL
  rw [show ((n : Int) - (a : Int)).toNat = n - a by omega, List.map_map]
  refine List.map_congr_left fun i _ => ?_
  exact congrArg PyData.int (Int.natCast_add a i).symm
end KP


set_option Elab.async false
set_option linter.all false
set_option maxRecDepth 100000
set_option maxHeartbeats 400000
/-! printed by gen.py -/
namespace KG
open PySem PySem.Spec PyProof.Rows L2 KP
def topS (i : Nat) : Stmt := PySem.Challenge.pw_keptpartings_k05_whole_kept_partings.main.body.getD i (.Pass ⟨0, 0, 0, 0⟩)
abbrev s_is_whole : Stmt := topS 9
abbrev s_is_line : Stmt := topS 10
abbrev s_size_of : Stmt := topS 14
abbrev s_letters_of : Stmt := topS 15
abbrev s_numbered : Stmt := topS 18
abbrev s_blocks_of : Stmt := topS 22
abbrev s_merged : Stmt := topS 23
abbrev s__law_begun : Stmt := topS 37
abbrev s__law_draw : Stmt := topS 38
abbrev s__law_told_of : Stmt := topS 41
abbrev s__law_classes : Stmt := topS 42
abbrev s__law_merged : Stmt := topS 43
abbrev s__law_is_kept : Stmt := topS 44
abbrev s__law_apart : Stmt := topS 45
abbrev s__law_all_sheets : Stmt := topS 47
abbrev s__law_numbered : Stmt := topS 50
abbrev s__law_ring : Stmt := topS 52
abbrev s_wrong_in_table : Stmt := topS 11
abbrev s_need_standing : Stmt := topS 16
abbrev s_is_parting_of : Stmt := topS 19
abbrev s_single_of : Stmt := topS 21
abbrev s_joined : Stmt := topS 24
abbrev s_led_to : Stmt := topS 27
abbrev s_pairs_in : Stmt := topS 33
abbrev s__law_of : Stmt := topS 39
abbrev s__law_closed : Stmt := topS 46
abbrev s__law_all_kept : Stmt := topS 48
abbrev s__law_sheet : Stmt := topS 49
abbrev s_wrong_place : Stmt := topS 12
abbrev s_is_kept_by : Stmt := topS 26
abbrev s_kept_over : Stmt := topS 29
abbrev s__law_frame : Stmt := topS 40
abbrev s_need_machine : Stmt := topS 13
abbrev s_drawn_in : Stmt := topS 30
abbrev s_need_parting : Stmt := topS 20
abbrev s_drawn : Stmt := topS 31
abbrev s_kept_in : Stmt := topS 34
abbrev s_is_kept : Stmt := topS 28
abbrev s_least_kept : Stmt := topS 32
abbrev s_kept_partings : Stmt := topS 35
abbrev s__law_is_told : Stmt := topS 51
abbrev s__law_hand_right : Stmt := topS 53
abbrev s_law : Stmt := topS 54
abbrev FnP (K : PySem.W.Frag) (x : Str) (st : Stmt) (f : Addr) (fd : FuncData) : Prop := FunD K x x (defArgs st) (defBody st) (defScope st) [] [] f fd
structure Fx (K : PySem.W.Frag) (mg : Str → Option Value) : Prop where
  b_all : mg "all" = none
  b_bool : mg "bool" = none
  b_enumerate : mg "enumerate" = none
  b_int : mg "int" = none
  b_isinstance : mg "isinstance" = none
  b_len : mg "len" = none
  b_list : mg "list" = none
  b_max : mg "max" = none
  b_min : mg "min" = none
  b_range : mg "range" = none
  b_repr : mg "repr" = none
  b_set : mg "set" = none
  b_sorted : mg "sorted" = none
  b_tuple : mg "tuple" = none
  k_MOST_LETTERS : ∃ t, mg "MOST_LETTERS" = some (.int 4 t)
  k_MOST_SHOWN : ∃ t, mg "MOST_SHOWN" = some (.int 9 t)
  k_MOST_STANDINGS : ∃ t, mg "MOST_STANDINGS" = some (.int 8 t)
  m_is_whole : mg "is_whole" = some (.ref (He.ga K "is_whole"))
  d_is_whole : ∃ fd, FnP K "is_whole" s_is_whole (He.ga K "is_whole") fd
  m_is_line : mg "is_line" = some (.ref (He.ga K "is_line"))
  d_is_line : ∃ fd, FnP K "is_line" s_is_line (He.ga K "is_line") fd
  m_size_of : mg "size_of" = some (.ref (He.ga K "size_of"))
  d_size_of : ∃ fd, FnP K "size_of" s_size_of (He.ga K "size_of") fd
  m_letters_of : mg "letters_of" = some (.ref (He.ga K "letters_of"))
  d_letters_of : ∃ fd, FnP K "letters_of" s_letters_of (He.ga K "letters_of") fd
  m_numbered : mg "numbered" = some (.ref (He.ga K "numbered"))
  d_numbered : ∃ fd, FnP K "numbered" s_numbered (He.ga K "numbered") fd
  m_blocks_of : mg "blocks_of" = some (.ref (He.ga K "blocks_of"))
  d_blocks_of : ∃ fd, FnP K "blocks_of" s_blocks_of (He.ga K "blocks_of") fd
  m_merged : mg "merged" = some (.ref (He.ga K "merged"))
  d_merged : ∃ fd, FnP K "merged" s_merged (He.ga K "merged") fd
  m__law_begun : mg "_law_begun" = some (.ref (He.ga K "_law_begun"))
  d__law_begun : ∃ fd, FnP K "_law_begun" s__law_begun (He.ga K "_law_begun") fd
  m__law_draw : mg "_law_draw" = some (.ref (He.ga K "_law_draw"))
  d__law_draw : ∃ fd, FnP K "_law_draw" s__law_draw (He.ga K "_law_draw") fd
  m__law_told_of : mg "_law_told_of" = some (.ref (He.ga K "_law_told_of"))
  d__law_told_of : ∃ fd, FnP K "_law_told_of" s__law_told_of (He.ga K "_law_told_of") fd
  m__law_classes : mg "_law_classes" = some (.ref (He.ga K "_law_classes"))
  d__law_classes : ∃ fd, FnP K "_law_classes" s__law_classes (He.ga K "_law_classes") fd
  m__law_merged : mg "_law_merged" = some (.ref (He.ga K "_law_merged"))
  d__law_merged : ∃ fd, FnP K "_law_merged" s__law_merged (He.ga K "_law_merged") fd
  m__law_is_kept : mg "_law_is_kept" = some (.ref (He.ga K "_law_is_kept"))
  d__law_is_kept : ∃ fd, FnP K "_law_is_kept" s__law_is_kept (He.ga K "_law_is_kept") fd
  m__law_apart : mg "_law_apart" = some (.ref (He.ga K "_law_apart"))
  d__law_apart : ∃ fd, FnP K "_law_apart" s__law_apart (He.ga K "_law_apart") fd
  m__law_all_sheets : mg "_law_all_sheets" = some (.ref (He.ga K "_law_all_sheets"))
  d__law_all_sheets : ∃ fd, FnP K "_law_all_sheets" s__law_all_sheets (He.ga K "_law_all_sheets") fd
  m__law_numbered : mg "_law_numbered" = some (.ref (He.ga K "_law_numbered"))
  d__law_numbered : ∃ fd, FnP K "_law_numbered" s__law_numbered (He.ga K "_law_numbered") fd
  m__law_ring : mg "_law_ring" = some (.ref (He.ga K "_law_ring"))
  d__law_ring : ∃ fd, FnP K "_law_ring" s__law_ring (He.ga K "_law_ring") fd
  m_wrong_in_table : mg "wrong_in_table" = some (.ref (He.ga K "wrong_in_table"))
  d_wrong_in_table : ∃ fd, FnP K "wrong_in_table" s_wrong_in_table (He.ga K "wrong_in_table") fd
  m_need_standing : mg "need_standing" = some (.ref (He.ga K "need_standing"))
  d_need_standing : ∃ fd, FnP K "need_standing" s_need_standing (He.ga K "need_standing") fd
  m_is_parting_of : mg "is_parting_of" = some (.ref (He.ga K "is_parting_of"))
  d_is_parting_of : ∃ fd, FnP K "is_parting_of" s_is_parting_of (He.ga K "is_parting_of") fd
  m_single_of : mg "single_of" = some (.ref (He.ga K "single_of"))
  d_single_of : ∃ fd, FnP K "single_of" s_single_of (He.ga K "single_of") fd
  m_joined : mg "joined" = some (.ref (He.ga K "joined"))
  d_joined : ∃ fd, FnP K "joined" s_joined (He.ga K "joined") fd
  m_led_to : mg "led_to" = some (.ref (He.ga K "led_to"))
  d_led_to : ∃ fd, FnP K "led_to" s_led_to (He.ga K "led_to") fd
  m_pairs_in : mg "pairs_in" = some (.ref (He.ga K "pairs_in"))
  d_pairs_in : ∃ fd, FnP K "pairs_in" s_pairs_in (He.ga K "pairs_in") fd
  m__law_of : mg "_law_of" = some (.ref (He.ga K "_law_of"))
  d__law_of : ∃ fd, FnP K "_law_of" s__law_of (He.ga K "_law_of") fd
  m__law_closed : mg "_law_closed" = some (.ref (He.ga K "_law_closed"))
  d__law_closed : ∃ fd, FnP K "_law_closed" s__law_closed (He.ga K "_law_closed") fd
  m__law_all_kept : mg "_law_all_kept" = some (.ref (He.ga K "_law_all_kept"))
  d__law_all_kept : ∃ fd, FnP K "_law_all_kept" s__law_all_kept (He.ga K "_law_all_kept") fd
  m__law_sheet : mg "_law_sheet" = some (.ref (He.ga K "_law_sheet"))
  d__law_sheet : ∃ fd, FnP K "_law_sheet" s__law_sheet (He.ga K "_law_sheet") fd
  m_wrong_place : mg "wrong_place" = some (.ref (He.ga K "wrong_place"))
  d_wrong_place : ∃ fd, FnP K "wrong_place" s_wrong_place (He.ga K "wrong_place") fd
  m_is_kept_by : mg "is_kept_by" = some (.ref (He.ga K "is_kept_by"))
  d_is_kept_by : ∃ fd, FnP K "is_kept_by" s_is_kept_by (He.ga K "is_kept_by") fd
  m_kept_over : mg "kept_over" = some (.ref (He.ga K "kept_over"))
  d_kept_over : ∃ fd, FnP K "kept_over" s_kept_over (He.ga K "kept_over") fd
  m__law_frame : mg "_law_frame" = some (.ref (He.ga K "_law_frame"))
  d__law_frame : ∃ fd, FnP K "_law_frame" s__law_frame (He.ga K "_law_frame") fd
  m_need_machine : mg "need_machine" = some (.ref (He.ga K "need_machine"))
  d_need_machine : ∃ fd, FnP K "need_machine" s_need_machine (He.ga K "need_machine") fd
  m_drawn_in : mg "drawn_in" = some (.ref (He.ga K "drawn_in"))
  d_drawn_in : ∃ fd, FnP K "drawn_in" s_drawn_in (He.ga K "drawn_in") fd
  m_need_parting : mg "need_parting" = some (.ref (He.ga K "need_parting"))
  d_need_parting : ∃ fd, FnP K "need_parting" s_need_parting (He.ga K "need_parting") fd
  m_drawn : mg "drawn" = some (.ref (He.ga K "drawn"))
  d_drawn : ∃ fd, FnP K "drawn" s_drawn (He.ga K "drawn") fd
  m_kept_in : mg "kept_in" = some (.ref (He.ga K "kept_in"))
  d_kept_in : ∃ fd, FnP K "kept_in" s_kept_in (He.ga K "kept_in") fd
  m_is_kept : mg "is_kept" = some (.ref (He.ga K "is_kept"))
  d_is_kept : ∃ fd, FnP K "is_kept" s_is_kept (He.ga K "is_kept") fd
  m_least_kept : mg "least_kept" = some (.ref (He.ga K "least_kept"))
  d_least_kept : ∃ fd, FnP K "least_kept" s_least_kept (He.ga K "least_kept") fd
  m_kept_partings : mg "kept_partings" = some (.ref (He.ga K "kept_partings"))
  d_kept_partings : ∃ fd, FnP K "kept_partings" s_kept_partings (He.ga K "kept_partings") fd
  m__law_is_told : mg "_law_is_told" = some (.ref (He.ga K "_law_is_told"))
  d__law_is_told : ∃ fd, FnP K "_law_is_told" s__law_is_told (He.ga K "_law_is_told") fd
  m__law_hand_right : mg "_law_hand_right" = some (.ref (He.ga K "_law_hand_right"))
  d__law_hand_right : ∃ fd, FnP K "_law_hand_right" s__law_hand_right (He.ga K "_law_hand_right") fd
  m_law : mg "law" = some (.ref (He.ga K "law"))
  d_law : ∃ fd, FnP K "law" s_law (He.ga K "law") fd
/-! is_whole: 0 value, 1 least, 2 most -/
def g_is_whole : SF := (sRet (eAnd (c1 (gIsi "int") (vT 0)) (eAnd (eNot (c1 (gIsi "bool") (vT 0))) (eChain gLe gLe (vT 1) (vT 0) (vT 2)))))
def F_is_whole : List Va → M Va := fun ds => noX (runF 3 g_is_whole ds)
theorem sc_is_whole : FnScope ["value", "least", "most"] ["value", "least", "most"] (defScope s_is_whole) := ⟨rfl, rfl, rfl, by decide +kernel, rfl, by decide +kernel, by decide +kernel⟩
theorem ok_is_whole {P : Program} {w : World} {K : PySem.W.Frag} {mg : Str → Option Value} {base : Heap} {f : Addr} {fd : FuncData} (c : Fx K mg) (D : FnP K "is_whole" s_is_whole f fd) : FnD P w K mg base CX0 1 f fd ["value", "least", "most"] F_is_whole := by
  refine fnD_ofD (N := ["value", "least", "most"]) (g := g_is_whole) D sc_is_whole fun cdv A outer s H E hg hr => ?_
  unfold g_is_whole
  exact (es_one (es_ret (e_and (e_isi (c := "int") rfl c.b_isinstance rfl c.b_int (by decide +kernel) (by decide) (v 0)) (e_and (e_not (e_isi (c := "bool") rfl c.b_isinstance rfl c.b_bool (by decide +kernel) (by decide) (v 0))) (e_and1 (e_chain op_le pure_le op_le pure_le (v 1) (v 0) (v 2)))))))
/-! is_line: 0 value, 1 letters -/
def g_is_line : SF := (sSeq (sIf (bOr (bNot (bV (c1 (gIsi "tuple") (vT 0)))) (bNot (bV (eChain gLe gLe (kC (.int 1)) (cN (on1 hLenA) (aCons (vT 0) aNil)) (kC (.int 4)))))) (sRet (kC (.bool false))) sNil)
  (sRet (eOr (c2 gEq (vT 1) (kC (.int 0))) (c2 gEq (cN (on1 hLenA) (aCons (vT 0) aNil)) (vT 1)))))
def F_is_line : List Va → M Va := fun ds => noX (runF 2 g_is_line ds)
theorem sc_is_line : FnScope ["value", "letters"] ["value", "letters"] (defScope s_is_line) := ⟨rfl, rfl, rfl, by decide +kernel, rfl, by decide +kernel, by decide +kernel⟩
theorem ok_is_line {P : Program} {w : World} {K : PySem.W.Frag} {mg : Str → Option Value} {base : Heap} {f : Addr} {fd : FuncData} (c : Fx K mg) (D : FnP K "is_line" s_is_line f fd) : FnD P w K mg base CX0 1 f fd ["value", "letters"] F_is_line := by
  refine fnD_ofD (N := ["value", "letters"]) (g := g_is_line) D sc_is_line fun cdv A outer s H E hg hr => ?_
  unfold g_is_line
  exact (es_cons (es_if (eb_w (ew_or (eb_not (eb_val (e_isi (c := "tuple") rfl c.b_isinstance rfl c.b_tuple (by decide +kernel) (by decide) (v 0)))) (ew_or1 (eb_not (eb_chain op_le pure_le op_le pure_le e_int (e_callB cr_lenA pure_lenA rfl c.b_len (by decide +kernel) (ea_cons (v 0) ea_nil)) (e_globI rfl c.k_MOST_LETTERS.choose_spec)))))) (es_one (es_ret e_bl)) es_nil)
    (es_one (es_ret (e_or (e_cmp (op_eqA (by exact hr.units)) pure_eq (v 1) e_int (nomark _)) (e_and1 (e_cmp (op_eqA (by exact hr.units)) pure_eq (e_callB cr_lenA pure_lenA rfl c.b_len (by decide +kernel) (ea_cons (v 0) ea_nil)) (v 1) (nomark _)))))))
/-! size_of: 0 machine -/
def g_size_of : SF := (sRet (cN (on1 hLenA) (aCons (c2 gIx (vT 0) (kC (.int 0))) aNil)))
def F_size_of : List Va → M Va := fun ds => noX (runF 1 g_size_of ds)
theorem sc_size_of : FnScope ["machine"] ["machine"] (defScope s_size_of) := ⟨rfl, rfl, rfl, by decide +kernel, rfl, by decide +kernel, by decide +kernel⟩
theorem ok_size_of {P : Program} {w : World} {K : PySem.W.Frag} {mg : Str → Option Value} {base : Heap} {f : Addr} {fd : FuncData} (c : Fx K mg) (D : FnP K "size_of" s_size_of f fd) : FnD P w K mg base CX0 1 f fd ["machine"] F_size_of := by
  refine fnD_ofD (N := ["machine"]) (g := g_size_of) D sc_size_of fun cdv A outer s H E hg hr => ?_
  unfold g_size_of
  exact (es_one (es_ret (e_callB cr_lenA pure_lenA rfl c.b_len (by decide +kernel) (ea_cons (e_ix (v 0) e_int) ea_nil))))
/-! letters_of: 0 machine -/
def g_letters_of : SF := (sRet (c1 gLRg (cN (on1 hLenA) (aCons (c2 gIx (c2 gIx (vT 0) (kC (.int 0))) (kC (.int 0))) aNil))))
def F_letters_of : List Va → M Va := fun ds => noX (runF 1 g_letters_of ds)
theorem sc_letters_of : FnScope ["machine"] ["machine"] (defScope s_letters_of) := ⟨rfl, rfl, rfl, by decide +kernel, rfl, by decide +kernel, by decide +kernel⟩
theorem ok_letters_of {P : Program} {w : World} {K : PySem.W.Frag} {mg : Str → Option Value} {base : Heap} {f : Addr} {fd : FuncData} (c : Fx K mg) (D : FnP K "letters_of" s_letters_of f fd) : FnD P w K mg base CX0 1 f fd ["machine"] F_letters_of := by
  refine fnD_ofD (N := ["machine"]) (g := g_letters_of) D sc_letters_of fun cdv A outer s H E hg hr => ?_
  unfold g_letters_of
  exact (es_one (es_ret (e_listRg rfl rfl c.b_list rfl c.b_range (e_callB cr_lenA pure_lenA rfl c.b_len (by decide +kernel) (ea_cons (e_ix (e_ix (v 0) e_int) e_int) ea_nil)))))
/-! numbered: 0 keys, 1 known, 2 found, 3 key -/
def g_numbered : SF := (sSeq (sPar oD (oF (fLst aNil)) 1 2)
  (sSeq (sFor (lSeq (vT 0)) (gN 3) (sSeq (sSetd 1 (vT 3) (c1 immV (cN (on1 hLenA) (aCons (vF 1) aNil))))
  (sApp 2 (c1 immV (c2 gDGet (vF 1) (vF 3))))))
  (sRet (c1 immV (cN (on1 hTup) (aCons (vF 2) aNil))))))
def F_numbered : List Va → M Va := fun ds => noX (runF 4 g_numbered ds)
theorem sc_numbered : FnScope ["keys", "known", "found", "key"] ["keys"] (defScope s_numbered) := ⟨rfl, rfl, rfl, by decide +kernel, rfl, by decide +kernel, by decide +kernel⟩
theorem ok_numbered {P : Program} {w : World} {K : PySem.W.Frag} {mg : Str → Option Value} {base : Heap} {f : Addr} {fd : FuncData} (c : Fx K mg) (D : FnP K "numbered" s_numbered f fd) : FnD P w K mg base CX0 1 f fd ["keys"] F_numbered := by
  refine fnD_ofD (N := ["keys", "known", "found", "key"]) (g := g_numbered) D sc_numbered fun cdv A outer s H E hg hr => ?_
  unfold g_numbered
  exact (es_cons (es_par (i := 1) (j := 2) rfl sc_numbered.nd rfl rfl (by decide) rfl rfl eo_dict (eo_f (ef_lst ea_nil)) (by rfl))
    (es_cons (es_for PassesOwn.never rfl (ei_seq (v 0)) (gn 3 sc_numbered.nd) (es_cons (es_setd (by exact hu_of hr) (i := 1) rfl (by first | exact Or.inl rfl | exact Or.inr (Or.inl rfl)) (v 3) (e_up (e_callB cr_lenA pure_lenA rfl c.b_len (by decide +kernel) (ea_cons (vf 1) ea_nil))))
    (es_one (es_append (i := 2) rfl (by first | exact Or.inl rfl | exact Or.inr (Or.inl rfl)) (e_up (e_dget (by exact hu_of hr) (vf 1) (vf 3)))))))
    (es_one (es_ret (e_up (e_callTy call_tuple_of pure_tuple rfl c.b_tuple (by decide +kernel) (ea_cons (vf 2) ea_nil)))))))
/-! blocks_of: 0 parting, 1 found, 2 standing, 3 block -/
def g_blocks_of : SF := (sSeq (sRows (lN gRng1 (aCons (c2 gAdd (cN (on1 hMax) (aCons (vT 0) aNil)) (kC (.int 1))) aNil)) (gN 3) (fLst aNil) [3] 1)
  (sSeq (sFor (lN gEnum (aCons (vT 0) aNil)) (gT [(gN 2), (gN 3)]) (sAppR 1 (vT 3) (vT 2)))
  (sRet (vF 1))))
def F_blocks_of : List Va → M Va := fun ds => noX (runF 4 g_blocks_of ds)
theorem sc_blocks_of : FnScope ["parting", "found", "standing", "block"] ["parting"] (defScope s_blocks_of) := ⟨rfl, rfl, rfl, by decide +kernel, rfl, by decide +kernel, by decide +kernel⟩
theorem ok_blocks_of {P : Program} {w : World} {K : PySem.W.Frag} {mg : Str → Option Value} {base : Heap} {f : Addr} {fd : FuncData} (c : Fx K mg) (D : FnP K "blocks_of" s_blocks_of f fd) : FnD P w K mg base CX0 1 f fd ["parting"] F_blocks_of := by
  refine fnD_ofD (N := ["parting", "found", "standing", "block"]) (g := g_blocks_of) D sc_blocks_of fun cdv A outer s H E hg hr => ?_
  unfold g_blocks_of
  exact (es_cons (es_rows (own := [("block", 3)]) (i := 1) rfl sc_blocks_of.nd rfl rfl (sw_true rfl rfl rfl rfl) (ei_range1 rfl c.b_range (ea_cons (e_op op_addA pure_add (e_callB (cr_maxA rfl (by exact hr.units)) pure_max rfl c.b_max (by decide +kernel) (ea_cons (v 0) ea_nil)) e_int) ea_nil)) (blkOk_by (by rfl)) (by decide) (fun _ _ _ _ _ => (gn 3 sc_blocks_of.nd)) (fun _ _ _ _ _ => (ef_lst ea_nil)))
    (es_cons (es_for PassesOwn.never rfl (ei_enum rfl c.b_enumerate (ea_cons (v 0) ea_nil)) (eg_tup rfl (egs_cons (gn 2 sc_blocks_of.nd) (egs_cons (gn 3 sc_blocks_of.nd) egs_nil))) (es_one (es_appendR (i := 1) rfl (by first | exact Or.inl rfl | exact Or.inr (Or.inl rfl)) (v 3) (v 2) (by intro _ _; rfl))))
    (es_one (es_retF (vf 1)))))
/-! merged: 0 parting, 1 one, 2 far, 3 low, 4 high, 5 block -/
def g_merged : SF := (sSeq (sAsg (cN gTupD (aCons (c2 gIx (vT 0) (vT 1)) (aCons (c2 gIx (vT 0) (vT 2)) aNil))) (gT [(gN 3), (gN 4)]))
  (sRet (cN (on1 hTup) (aCons (fD (lcA (lSeq (vT 0)) (gN 5) bYes (eIf (bV (c2 gEq (vT 5) (vT 4))) (vT 3) (vT 5)) [5])) aNil))))
def F_merged : List Va → M Va := fun ds => noX (runF 6 g_merged ds)
theorem sc_merged : FnScope ["parting", "one", "far", "low", "high", "block"] ["parting", "one", "far"] (defScope s_merged) := ⟨rfl, rfl, rfl, by decide +kernel, rfl, by decide +kernel, by decide +kernel⟩
theorem ok_merged {P : Program} {w : World} {K : PySem.W.Frag} {mg : Str → Option Value} {base : Heap} {f : Addr} {fd : FuncData} (c : Fx K mg) (D : FnP K "merged" s_merged f fd) : FnD P w K mg base CX0 1 f fd ["parting", "one", "far"] F_merged := by
  refine fnD_ofD (N := ["parting", "one", "far", "low", "high", "block"]) (g := g_merged) D sc_merged fun cdv A outer s H E hg hr => ?_
  unfold g_merged
  exact (es_cons (es_asg (e_tup (ea_cons (e_ix (v 0) (v 1)) (ea_cons (e_ix (v 0) (v 2)) ea_nil))) (eg_tup rfl (egs_cons (gn 3 sc_merged.nd) (egs_cons (gn 4 sc_merged.nd) egs_nil))))
    (es_one (es_ret (e_callTy call_tuple_of pure_tuple rfl c.b_tuple (by decide +kernel) (ea_cons (e_fresh (ef_lcA (own := [("block", 5)]) rfl sc_merged.nd (ei_seq (v 0)) (blkOk_by (by rfl)) (by decide) (fun _ _ _ _ _ => (gn 5 sc_merged.nd)) (fun _ _ _ _ _ => ebs_nil) (fun _ _ _ _ _ => (e_if (eb_cmp (op_eqA (by exact hr.units)) pure_eq (v 5) (v 4) (nomark _)) (v 3) (v 5))))) ea_nil)))))
/-! _law_begun: 0 script, 1 k, 2 cells, 3 great, 4 seed, 5 cell -/
def g__law_begun : SF := (sSeq (sAsg (c2 gAdd (eSl gSlA (vT 0) (some (vT 1)) none) (eSl gSlA (vT 0) none (some (vT 1)))) (gN 2))
  (sSeq (sAsg (fD (lcA (lSeq (vT 2)) (gN 5) (bV (c2 gGe (vT 5) (c2 gPow (kC (.int 10)) (kC (.int 18))))) (vT 5) [5])) (gN 3))
  (sSeq (sAsg (c2 gAdd (kC (.int 71)) (vT 1)) (gN 4))
  (sSeq (sFor (lSeq (vT 2)) (gN 5) (sAsg (c2 gMod (cN (on1 hInt) (aCons (c2 gAdd (c2 gMul (vT 4) (kC (.int 48271))) (vT 5)) aNil)) (kC (.int 2147483647))) (gN 4)))
  (sRet (newCell [("left", (eIf (bV (c2 gNe (vT 3) (cN gLstD aNil))) (c2 gIx (vT 3) (kC (.int 0))) (kC (.int 0)))), ("seed", (vT 4)), ("cells", (c2 gAdd (vT 2) (cN gLstD (aCons (c2 gAdd (c2 gMul (kC (.int 41)) (vT 1)) (kC (.int 3))) aNil)))), ("spot", (kC (.int 0)))]))))))
def F__law_begun : List Va → M Va := fun ds => noX (runF 6 g__law_begun ds)
theorem sc__law_begun : FnScope ["script", "k", "cells", "great", "seed", "cell"] ["script", "k"] (defScope s__law_begun) := ⟨rfl, rfl, rfl, by decide +kernel, rfl, by decide +kernel, by decide +kernel⟩
theorem ok__law_begun {P : Program} {w : World} {K : PySem.W.Frag} {mg : Str → Option Value} {base : Heap} {f : Addr} {fd : FuncData} (c : Fx K mg) (D : FnP K "_law_begun" s__law_begun f fd) : FnD P w K mg base CX0 1 f fd ["script", "k"] F__law_begun := by
  refine fnD_ofD (N := ["script", "k", "cells", "great", "seed", "cell"]) (g := g__law_begun) D sc__law_begun fun cdv A outer s H E hg hr => ?_
  unfold g__law_begun
  exact (es_cons (es_set (i := 2) sc__law_begun.nd rfl (by first | exact Or.inl rfl | exact Or.inr rfl) (e_op op_addA pure_add (e_sl sl_any pure_slA (v 0) (ep_some (v 1)) ep_none) (e_sl sl_any pure_slA (v 0) ep_none (ep_some (v 1)))))
    (es_cons (es_setF (ps_lcA (own := [("cell", 5)]) (i := 3) rfl sc__law_begun.nd rfl rfl (sw_true rfl rfl rfl rfl) (ei_seq (v 2)) (blkOk_by (by rfl)) (by decide) (fun _ _ _ _ _ => (gn 5 sc__law_begun.nd)) (fun _ _ _ _ _ => (ebs_one (eb_cmp op_ge pure_ge (v 5) (e_op op_pow pure_pow e_int e_int) (nomark _)))) (fun _ _ _ _ _ => (v 5))))
    (es_cons (es_set (i := 4) sc__law_begun.nd rfl (by first | exact Or.inl rfl | exact Or.inr rfl) (e_op op_addA pure_add e_int (v 1)))
    (es_cons (es_for PassesOwn.never rfl (ei_seq (v 2)) (gn 5 sc__law_begun.nd) (es_one (es_set (i := 4) sc__law_begun.nd rfl (by first | exact Or.inl rfl | exact Or.inr rfl) (e_op op_mod pure_mod (e_callTy call_int1 pure_int rfl c.b_int (by decide +kernel) (ea_cons (e_op op_addA pure_add (e_op op_mulA pure_mulA (v 4) e_int) (v 5)) ea_nil)) e_int))))
    (es_one (es_ret (e_cell (kfs := [("left", (eIf (bV (c2 gNe (vT 3) (cN gLstD aNil))) (c2 gIx (vT 3) (kC (.int 0))) (kC (.int 0)))), ("seed", (vT 4)), ("cells", (c2 gAdd (vT 2) (cN gLstD (aCons (c2 gAdd (c2 gMul (kC (.int 41)) (vT 1)) (kC (.int 3))) aNil)))), ("spot", (kC (.int 0)))]) (pps_cons pe_str (e_if (eb_cmp (op_neA (by exact hr.units)) pure_ne (v 3) (e_lst ea_nil) (nomark _)) (e_ix (v 3) e_int) e_int) (pps_cons pe_str (v 4) (pps_cons pe_str (e_op op_addA pure_add (v 2) (e_lst (ea_cons (e_op op_addA pure_add (e_op op_mulA pure_mulA e_int (v 1)) e_int) ea_nil))) (pps_cons pe_str e_int pps_nil)))) rfl rfl (by simp) (by decide) (by decide) (by decide +kernel))))))))
/-! _law_draw: 0 m, 1 many, 2 spot, 3 cells, 4 added, 5 cell, 6 blend, 7 found -/
def g__law_draw : SF := (sSeq (sIf (bV (c2 gGt (cGet "left" (vT 0)) (kC (.int 0)))) (sSeq (sAsg (c2 gMod (cN (on1 hInt) (aCons (cGet "left" (vT 0)) aNil)) (vT 1)) (gN 7))
  (sSeq (sCPut 0 "left" (c2 gDiv (cGet "left" (vT 0)) (vT 1)))
  (sRet (vT 7)))) sNil)
  (sSeq (sAsg (cGet "spot" (vT 0)) (gN 2))
  (sSeq (sCPut 0 "spot" (c2 gAdd (vT 2) (kC (.int 1))))
  (sSeq (sPar (oE (cGet "cells" (vT 0))) (oE (c2 gAdd (cGet "seed" (vT 0)) (c2 gMul (c2 gMul (kC (.int 40503)) (vT 2)) (vT 2)))) 3 4)
  (sSeq (sAsg (c2 gIx (vT 3) (c2 gMod (cN (on1 hInt) (aCons (vT 2) aNil)) (cN (on1 hLenA) (aCons (vT 3) aNil)))) (gN 5))
  (sSeq (sAsg (c2 gMod (cN (on1 hInt) (aCons (c2 gAdd (c2 gMul (vT 5) (c2 gAdd (c2 gMul (kC (.int 2)) (vT 2)) (kC (.int 3)))) (vT 4)) aNil)) (kC (.int 2147483647))) (gN 6))
  (sSeq (sAsg (c2 gMod (cN (on1 hInt) (aCons (c2 gAdd (c2 gAdd (c2 gMul (vT 6) (vT 6)) (c2 gMul (kC (.int 69621)) (vT 2))) (cGet "seed" (vT 0))) aNil)) (kC (.int 2147483629))) (gN 6))
  (sRet (c2 gMod (c2 gDiv (c2 gMod (cN (on1 hInt) (aCons (c2 gAdd (c2 gMul (vT 6) (kC (.int 48271))) (vT 2)) aNil)) (kC (.int 2147483647))) (kC (.int 11))) (vT 1))))))))))
def F__law_draw : List Va → M Va := fun ds => noX (runF 8 g__law_draw ds)
theorem sc__law_draw : FnScope ["m", "many", "spot", "cells", "added", "cell", "blend", "found"] ["m", "many"] (defScope s__law_draw) := ⟨rfl, rfl, rfl, by decide +kernel, rfl, by decide +kernel, by decide +kernel⟩
theorem ok__law_draw {P : Program} {w : World} {K : PySem.W.Frag} {mg : Str → Option Value} {base : Heap} {f : Addr} {fd : FuncData} (c : Fx K mg) (D : FnP K "_law_draw" s__law_draw f fd) : FnD P w K mg base CX0 1 f fd ["m", "many"] F__law_draw := by
  refine fnD_ofD (N := ["m", "many", "spot", "cells", "added", "cell", "blend", "found"]) (g := g__law_draw) D sc__law_draw fun cdv A outer s H E hg hr => ?_
  unfold g__law_draw
  exact (es_cons (es_if (eb_cmp op_gt pure_gt (e_cget (by exact hu_of hr) (v 0)) e_int (nomark _)) (es_cons (es_set (i := 7) sc__law_draw.nd rfl (by first | exact Or.inl rfl | exact Or.inr rfl) (e_op op_mod pure_mod (e_callTy call_int1 pure_int rfl c.b_int (by decide +kernel) (ea_cons (e_cget (by exact hu_of hr) (v 0)) ea_nil)) (v 1)))
    (es_cons (es_cput (by exact hu_of hr) (i := 0) rfl (by first | exact Or.inl rfl | exact Or.inr (Or.inl rfl)) (e_op op_fdiv pure_div (e_cget (by exact hu_of hr) (v 0)) (v 1)))
    (es_one (es_ret (v 7))))) es_nil)
    (es_cons (es_set (i := 2) sc__law_draw.nd rfl (by first | exact Or.inl rfl | exact Or.inr rfl) (e_cget (by exact hu_of hr) (v 0)))
    (es_cons (es_cput (by exact hu_of hr) (i := 0) rfl (by first | exact Or.inl rfl | exact Or.inr (Or.inl rfl)) (e_op op_addA pure_add (v 2) e_int))
    (es_cons (es_par (i := 3) (j := 4) rfl sc__law_draw.nd rfl rfl (by decide) rfl rfl (eo_e (e_cget (by exact hu_of hr) (v 0))) (eo_e (e_op op_addA pure_add (e_cget (by exact hu_of hr) (v 0)) (e_op op_mulA pure_mulA (e_op op_mulA pure_mulA e_int (v 2)) (v 2)))) (by rfl))
    (es_cons (es_set (i := 5) sc__law_draw.nd rfl (by first | exact Or.inl rfl | exact Or.inr rfl) (e_ix (v 3) (e_op op_mod pure_mod (e_callTy call_int1 pure_int rfl c.b_int (by decide +kernel) (ea_cons (v 2) ea_nil)) (e_callB cr_lenA pure_lenA rfl c.b_len (by decide +kernel) (ea_cons (v 3) ea_nil)))))
    (es_cons (es_set (i := 6) sc__law_draw.nd rfl (by first | exact Or.inl rfl | exact Or.inr rfl) (e_op op_mod pure_mod (e_callTy call_int1 pure_int rfl c.b_int (by decide +kernel) (ea_cons (e_op op_addA pure_add (e_op op_mulA pure_mulA (v 5) (e_op op_addA pure_add (e_op op_mulA pure_mulA e_int (v 2)) e_int)) (v 4)) ea_nil)) e_int))
    (es_cons (es_set (i := 6) sc__law_draw.nd rfl (by first | exact Or.inl rfl | exact Or.inr rfl) (e_op op_mod pure_mod (e_callTy call_int1 pure_int rfl c.b_int (by decide +kernel) (ea_cons (e_op op_addA pure_add (e_op op_addA pure_add (e_op op_mulA pure_mulA (v 6) (v 6)) (e_op op_mulA pure_mulA e_int (v 2))) (e_cget (by exact hu_of hr) (v 0))) ea_nil)) e_int))
    (es_one (es_ret (e_op op_mod pure_mod (e_op op_fdiv pure_div (e_op op_mod pure_mod (e_callTy call_int1 pure_int rfl c.b_int (by decide +kernel) (ea_cons (e_op op_addA pure_add (e_op op_mulA pure_mulA (v 6) e_int) (v 2)) ea_nil)) e_int) e_int) (v 1)))))))))))
/-! _law_told_of: 0 many, 1 classes, 2 found, 3 marks, 4 k, 5 home, 6 number, 7 one -/
def g__law_told_of : SF := (sSeq (sPar (oF (fLst aNil)) (oF (fLst aNil)) 2 3)
  (sSeq (sFor (lN gRng1 (aCons (vT 0) aNil)) (gN 4) (sSeq (sAsg (c2 gIx (fD (lcA (lN gEnum (aCons (vT 1) aNil)) (gT [(gN 6), (gN 7)]) (bV (c2 (gDD (hIn false)) (vT 4) (vT 7))) (vT 6) [6, 7])) (kC (.int 0))) (gN 5))
  (sSeq (sIf (bV (c2 (gDD (hIn true)) (vF 5) (vF 3))) (sApp 3 (vT 5)) sNil)
  (sApp 2 (c1 immV (cIndex (vF 3) (vF 5)))))))
  (sRet (c1 immV (cN (on1 hTup) (aCons (vF 2) aNil))))))
def F__law_told_of : List Va → M Va := fun ds => noX (runF 8 g__law_told_of ds)
theorem sc__law_told_of : FnScope ["many", "classes", "found", "marks", "k", "home", "number", "one"] ["many", "classes"] (defScope s__law_told_of) := ⟨rfl, rfl, rfl, by decide +kernel, rfl, by decide +kernel, by decide +kernel⟩
theorem ok__law_told_of {P : Program} {w : World} {K : PySem.W.Frag} {mg : Str → Option Value} {base : Heap} {f : Addr} {fd : FuncData} (c : Fx K mg) (D : FnP K "_law_told_of" s__law_told_of f fd) : FnD P w K mg base CX0 1 f fd ["many", "classes"] F__law_told_of := by
  refine fnD_ofD (N := ["many", "classes", "found", "marks", "k", "home", "number", "one"]) (g := g__law_told_of) D sc__law_told_of fun cdv A outer s H E hg hr => ?_
  unfold g__law_told_of
  exact (es_cons (es_par (i := 2) (j := 3) rfl sc__law_told_of.nd rfl rfl (by decide) rfl rfl (eo_f (ef_lst ea_nil)) (eo_f (ef_lst ea_nil)) (by rfl))
    (es_cons (es_for PassesOwn.never rfl (ei_range1 rfl c.b_range (ea_cons (v 0) ea_nil)) (gn 4 sc__law_told_of.nd) (es_cons (es_set (i := 5) sc__law_told_of.nd rfl (by first | exact Or.inl rfl | exact Or.inr rfl) (e_ix (e_fresh (ef_lcA (own := [("number", 6), ("one", 7)]) rfl sc__law_told_of.nd (ei_enum rfl c.b_enumerate (ea_cons (v 1) ea_nil)) (blkOk_by (by rfl)) (by decide) (fun _ _ _ _ _ => (eg_tup rfl (egs_cons (gn 6 sc__law_told_of.nd) (egs_cons (gn 7 sc__law_told_of.nd) egs_nil)))) (fun _ _ _ _ _ => (ebs_one (eb_cmp (op_inD (by exact hr.units)) pure_inD (v 4) (v 7) (by with_unfolding_all rfl)))) (fun _ _ _ _ _ => (v 6)))) e_int))
    (es_cons (es_if (eb_cmp (op_notInD (by exact hr.units)) pure_inD (vf 5) (vf 3) (by with_unfolding_all rfl)) (es_one (es_append (i := 3) rfl (by first | exact Or.inl rfl | exact Or.inr (Or.inl rfl)) (v 5))) es_nil)
    (es_one (es_append (i := 2) rfl (by first | exact Or.inl rfl | exact Or.inr (Or.inl rfl)) (e_up (e_index (by exact hr.units) (vf 3) (vf 5))))))))
    (es_one (es_ret (e_up (e_callTy call_tuple_of pure_tuple rfl c.b_tuple (by decide +kernel) (ea_cons (vf 2) ea_nil)))))))
/-! _law_classes: 0 sheet, 1 number, 2 k, 3 home -/
def g__law_classes : SF := (sRet (fD (lcA (lN gRng1 (aCons (c2 gAdd (cN (on1 hMax) (aCons (vT 0) aNil)) (kC (.int 1))) aNil)) (gN 1) bYes (fD (lcA (lN gEnum (aCons (vT 0) aNil)) (gT [(gN 2), (gN 3)]) (bV (c2 gEq (vT 3) (vT 1))) (vT 2) [2, 3])) [1])))
def F__law_classes : List Va → M Va := fun ds => noX (runF 4 g__law_classes ds)
theorem sc__law_classes : FnScope ["sheet", "number", "k", "home"] ["sheet"] (defScope s__law_classes) := ⟨rfl, rfl, rfl, by decide +kernel, rfl, by decide +kernel, by decide +kernel⟩
theorem ok__law_classes {P : Program} {w : World} {K : PySem.W.Frag} {mg : Str → Option Value} {base : Heap} {f : Addr} {fd : FuncData} (c : Fx K mg) (D : FnP K "_law_classes" s__law_classes f fd) : FnD P w K mg base CX0 1 f fd ["sheet"] F__law_classes := by
  refine fnD_ofD (N := ["sheet", "number", "k", "home"]) (g := g__law_classes) D sc__law_classes fun cdv A outer s H E hg hr => ?_
  unfold g__law_classes
  exact (es_one (es_ret (e_fresh (ef_lcA (own := [("number", 1)]) rfl sc__law_classes.nd (ei_range1 rfl c.b_range (ea_cons (e_op op_addA pure_add (e_callB (cr_maxA rfl (by exact hr.units)) pure_max rfl c.b_max (by decide +kernel) (ea_cons (v 0) ea_nil)) e_int) ea_nil)) (blkOk_by (by rfl)) (by decide) (fun _ _ _ _ _ => (gn 1 sc__law_classes.nd)) (fun _ _ _ _ _ => ebs_nil) (fun _ _ _ _ _ => (e_fresh (ef_lcA (own := [("k", 2), ("home", 3)]) rfl sc__law_classes.nd (ei_enum rfl c.b_enumerate (ea_cons (v 0) ea_nil)) (blkOk_by (by rfl)) (by decide) (fun _ _ _ _ _ => (eg_tup rfl (egs_cons (gn 2 sc__law_classes.nd) (egs_cons (gn 3 sc__law_classes.nd) egs_nil)))) (fun _ _ _ _ _ => (ebs_one (eb_cmp (op_eqA (by exact hr.units)) pure_eq (v 3) (v 1) (nomark _)))) (fun _ _ _ _ _ => (v 2)))))))))
/-! _law_merged: 0 classes, 1 one, 2 far, 3 both, 4 joint, 5 one_so -/
def g__law_merged : SF := (sSeq (sAsg (cN gTupD (aCons (fD (lcA (lSeq (vT 0)) (gN 5) (bOr (bV (c2 (gDD (hIn false)) (vT 1) (vT 5))) (bV (c2 (gDD (hIn false)) (vT 2) (vT 5)))) (vT 5) [5])) (aCons (cN gLstD aNil) aNil))) (gT [(gN 3), (gN 4)]))
  (sSeq (sFor (lSeq (vT 3)) (gN 5) (sAsg (c2 gAdd (vT 4) (vT 5)) (gN 4)))
  (sRet (c2 gAdd (fD (lcA (lSeq (vT 0)) (gN 5) (bV (c2 (gDD (hIn true)) (vT 5) (vT 3))) (vT 5) [5])) (cN gLstD (aCons (cN (on1 hSortA) (aCons (vT 4) aNil)) aNil))))))
def F__law_merged : List Va → M Va := fun ds => noX (runF 6 g__law_merged ds)
theorem sc__law_merged : FnScope ["classes", "one", "far", "both", "joint", "one_so"] ["classes", "one", "far"] (defScope s__law_merged) := ⟨rfl, rfl, rfl, by decide +kernel, rfl, by decide +kernel, by decide +kernel⟩
theorem ok__law_merged {P : Program} {w : World} {K : PySem.W.Frag} {mg : Str → Option Value} {base : Heap} {f : Addr} {fd : FuncData} (c : Fx K mg) (D : FnP K "_law_merged" s__law_merged f fd) : FnD P w K mg base CX0 1 f fd ["classes", "one", "far"] F__law_merged := by
  refine fnD_ofD (N := ["classes", "one", "far", "both", "joint", "one_so"]) (g := g__law_merged) D sc__law_merged fun cdv A outer s H E hg hr => ?_
  unfold g__law_merged
  exact (es_cons (es_asg (e_tup (ea_cons (e_fresh (ef_lcA (own := [("one_so", 5)]) rfl sc__law_merged.nd (ei_seq (v 0)) (blkOk_by (by rfl)) (by decide) (fun _ _ _ _ _ => (gn 5 sc__law_merged.nd)) (fun _ _ _ _ _ => (ebs_one (eb_w (ew_or (eb_cmp (op_inD (by exact hr.units)) pure_inD (v 1) (v 5) (by with_unfolding_all rfl)) (ew_or1 (eb_cmp (op_inD (by exact hr.units)) pure_inD (v 2) (v 5) (by with_unfolding_all rfl))))))) (fun _ _ _ _ _ => (v 5)))) (ea_cons (e_lst ea_nil) ea_nil))) (eg_tup rfl (egs_cons (gn 3 sc__law_merged.nd) (egs_cons (gn 4 sc__law_merged.nd) egs_nil))))
    (es_cons (es_for PassesOwn.never rfl (ei_seq (v 3)) (gn 5 sc__law_merged.nd) (es_one (es_set (i := 4) sc__law_merged.nd rfl (by first | exact Or.inl rfl | exact Or.inr rfl) (e_op op_addA pure_add (v 4) (v 5)))))
    (es_one (es_ret (e_op op_addA pure_add (e_fresh (ef_lcA (own := [("one_so", 5)]) rfl sc__law_merged.nd (ei_seq (v 0)) (blkOk_by (by rfl)) (by decide) (fun _ _ _ _ _ => (gn 5 sc__law_merged.nd)) (fun _ _ _ _ _ => (ebs_one (eb_cmp (op_notInD (by exact hr.units)) pure_inD (v 5) (v 3) (by with_unfolding_all rfl)))) (fun _ _ _ _ _ => (v 5)))) (e_lst (ea_cons (e_callB cr_sortA pure_sortA rfl c.b_sorted (by decide +kernel) (ea_cons (v 4) ea_nil)) ea_nil)))))))
/-! _law_is_kept: 0 frame, 1 classes, 2 homes, 3 number, 4 one, 5 k, 6 letter -/
def g__law_is_kept : SF := (sSeq (sSetO oD 2)
  (sSeq (sFor (lN gEnum (aCons (vT 1) aNil)) (gT [(gN 3), (gN 4)]) (sFor (lSeq (vT 4)) (gN 5) (sDPutO 2 (vT 5) (vT 3))))
  (sSeq (sFor (lSeq (vT 1)) (gN 4) (sFor (lN gRng1 (aCons (cN (on1 hLenA) (aCons (c2 gIx (c2 gIx (vT 0) (kC (.int 0))) (kC (.int 0))) aNil)) aNil)) (gN 6) (sIf (bV (c2 gGt (c1 gLenSet (lcC (lSeq (vT 4)) (gN 5) bYes (c2 gDGet (vT 2) (c2 gIx (c2 gIx (c2 gIx (vT 0) (kC (.int 0))) (vT 5)) (vT 6))) [5])) (kC (.int 1)))) (sRet (kC (.bool false))) sNil)))
  (sRet (kC (.bool true))))))
def F__law_is_kept : List Va → M Va := fun ds => noX (runF 7 g__law_is_kept ds)
theorem sc__law_is_kept : FnScope ["frame", "classes", "homes", "number", "one", "k", "letter"] ["frame", "classes"] (defScope s__law_is_kept) := ⟨rfl, rfl, rfl, by decide +kernel, rfl, by decide +kernel, by decide +kernel⟩
theorem ok__law_is_kept {P : Program} {w : World} {K : PySem.W.Frag} {mg : Str → Option Value} {base : Heap} {f : Addr} {fd : FuncData} (c : Fx K mg) (D : FnP K "_law_is_kept" s__law_is_kept f fd) : FnD P w K mg base CX0 1 f fd ["frame", "classes"] F__law_is_kept := by
  refine fnD_ofD (N := ["frame", "classes", "homes", "number", "one", "k", "letter"]) (g := g__law_is_kept) D sc__law_is_kept fun cdv A outer s H E hg hr => ?_
  unfold g__law_is_kept
  exact (es_cons (es_setO (i := 2) sc__law_is_kept.nd rfl (by first | exact Or.inl rfl | exact Or.inr rfl) eo_dict)
    (es_cons (es_for PassesOwn.never rfl (ei_enum rfl c.b_enumerate (ea_cons (v 1) ea_nil)) (eg_tup rfl (egs_cons (gn 3 sc__law_is_kept.nd) (egs_cons (gn 4 sc__law_is_kept.nd) egs_nil))) (es_one (es_for PassesOwn.never rfl (ei_seq (v 4)) (gn 5 sc__law_is_kept.nd) (es_one (es_dput (by exact hu_of hr) (i := 2) rfl (by first | exact Or.inl rfl | exact Or.inr (Or.inl rfl)) (v 5) (v 3))))))
    (es_cons (es_for PassesOwn.never rfl (ei_seq (v 1)) (gn 4 sc__law_is_kept.nd) (es_one (es_for PassesOwn.never rfl (ei_range1 rfl c.b_range (ea_cons (e_callB cr_lenA pure_lenA rfl c.b_len (by decide +kernel) (ea_cons (e_ix (e_ix (v 0) e_int) e_int) ea_nil)) ea_nil)) (gn 6 sc__law_is_kept.nd) (es_one (es_if (eb_cmp op_gt pure_gt (e_lenSet rfl rfl c.b_len rfl c.b_set (e_lcC (own := [("k", 5)]) rfl sc__law_is_kept.nd (ei_seq (v 4)) (blkOk_by (by rfl)) (by decide) (fun _ _ _ _ _ => (gn 5 sc__law_is_kept.nd)) (fun _ _ _ _ _ => ebs_nil) (fun _ _ _ _ _ => (e_dget (by exact hu_of hr) (v 2) (e_ix (e_ix (e_ix (v 0) e_int) (v 5)) (v 6)))))) e_int (nomark _)) (es_one (es_ret e_bl)) es_nil)))))
    (es_one (es_ret e_bl)))))
/-! _law_apart: 0 frame, 1 classes, 2 one, 3 letter, 4 goals, 5 away, 6 k, 7 two -/
def g__law_apart : SF := (sSeq (sFor (lSeq (vT 1)) (gN 2) (sFor (lN gRng1 (aCons (cN (on1 hLenA) (aCons (c2 gIx (c2 gIx (vT 0) (kC (.int 0))) (kC (.int 0))) aNil)) aNil)) (gN 3) (sSeq (sAsg (fD (lcA (lSeq (vT 2)) (gN 6) bYes (c2 gIx (c2 gIx (c2 gIx (vT 0) (kC (.int 0))) (vT 6)) (vT 3)) [6])) (gN 4))
  (sSeq (sAsg (fD (lcA (lSeq (vT 4)) (gN 6) (bV (c2 gEq (fD (lcA (lSeq (vT 1)) (gN 7) (bAnd (bV (c2 (gDD (hIn false)) (vT 6) (vT 7))) (bV (c2 (gDD (hIn false)) (c2 gIx (vT 4) (kC (.int 0))) (vT 7)))) (kC (.int 1)) [7])) (cN gLstD aNil))) (vT 6) [6])) (gN 5))
  (sIf (bV (c2 gNe (vT 5) (cN gLstD aNil))) (sRet (cN gLstD (aCons (c2 gIx (vT 4) (kC (.int 0))) (aCons (c2 gIx (vT 5) (kC (.int 0))) aNil)))) sNil)))))
  (sRet (cN gLstD aNil)))
def F__law_apart : List Va → M Va := fun ds => noX (runF 8 g__law_apart ds)
theorem sc__law_apart : FnScope ["frame", "classes", "one", "letter", "goals", "away", "k", "two"] ["frame", "classes"] (defScope s__law_apart) := ⟨rfl, rfl, rfl, by decide +kernel, rfl, by decide +kernel, by decide +kernel⟩
theorem ok__law_apart {P : Program} {w : World} {K : PySem.W.Frag} {mg : Str → Option Value} {base : Heap} {f : Addr} {fd : FuncData} (c : Fx K mg) (D : FnP K "_law_apart" s__law_apart f fd) : FnD P w K mg base CX0 1 f fd ["frame", "classes"] F__law_apart := by
  refine fnD_ofD (N := ["frame", "classes", "one", "letter", "goals", "away", "k", "two"]) (g := g__law_apart) D sc__law_apart fun cdv A outer s H E hg hr => ?_
  unfold g__law_apart
  exact (es_cons (es_for PassesOwn.never rfl (ei_seq (v 1)) (gn 2 sc__law_apart.nd) (es_one (es_for PassesOwn.never rfl (ei_range1 rfl c.b_range (ea_cons (e_callB cr_lenA pure_lenA rfl c.b_len (by decide +kernel) (ea_cons (e_ix (e_ix (v 0) e_int) e_int) ea_nil)) ea_nil)) (gn 3 sc__law_apart.nd) (es_cons (es_set (i := 4) sc__law_apart.nd rfl (by first | exact Or.inl rfl | exact Or.inr rfl) (e_fresh (ef_lcA (own := [("k", 6)]) rfl sc__law_apart.nd (ei_seq (v 2)) (blkOk_by (by rfl)) (by decide) (fun _ _ _ _ _ => (gn 6 sc__law_apart.nd)) (fun _ _ _ _ _ => ebs_nil) (fun _ _ _ _ _ => (e_ix (e_ix (e_ix (v 0) e_int) (v 6)) (v 3))))))
    (es_cons (es_setF (ps_lcA (own := [("k", 6)]) (i := 5) rfl sc__law_apart.nd rfl rfl (sw_true rfl rfl rfl rfl) (ei_seq (v 4)) (blkOk_by (by rfl)) (by decide) (fun _ _ _ _ _ => (gn 6 sc__law_apart.nd)) (fun _ _ _ _ _ => (ebs_one (eb_cmp (op_eqA (by exact hr.units)) pure_eq (e_fresh (ef_lcA (own := [("two", 7)]) rfl sc__law_apart.nd (ei_seq (v 1)) (blkOk_by (by rfl)) (by decide) (fun _ _ _ _ _ => (gn 7 sc__law_apart.nd)) (fun _ _ _ _ _ => (ebs_one (eb_w (ew_and (eb_cmp (op_inD (by exact hr.units)) pure_inD (v 6) (v 7) (by with_unfolding_all rfl)) (ew_and1 (eb_cmp (op_inD (by exact hr.units)) pure_inD (e_ix (v 4) e_int) (v 7) (by with_unfolding_all rfl))))))) (fun _ _ _ _ _ => e_int))) (e_lst ea_nil) (nomark _)))) (fun _ _ _ _ _ => (v 6))))
    (es_one (es_if (eb_cmp (op_neA (by exact hr.units)) pure_ne (v 5) (e_lst ea_nil) (nomark _)) (es_one (es_ret (e_lst (ea_cons (e_ix (v 4) e_int) (ea_cons (e_ix (v 5) e_int) ea_nil))))) es_nil)))))))
    (es_one (es_ret (e_lst ea_nil))))
/-! _law_all_sheets: 0 many, 1 rows, 2 turn, 3 longer, 4 row, 5 home -/
def g__law_all_sheets : SF := (sSeq (sAsg (cN gLstD (aCons (cN gTupD (aCons (kC (.int 0)) aNil)) aNil)) (gN 1))
  (sSeq (sFor (lN gRng1 (aCons (c2 gSub (vT 0) (kC (.int 1))) aNil)) (gN 2) (sSeq (sAsg (cN gLstD aNil) (gN 3))
  (sSeq (sFor (lSeq (vT 1)) (gN 4) (sAsg (c2 gAdd (vT 3) (fD (lcA (lN gRng1 (aCons (c2 gAdd (cN (on1 hMax) (aCons (vT 4) aNil)) (kC (.int 2))) aNil)) (gN 5) bYes (c2 gAdd (vT 4) (cN gTupD (aCons (vT 5) aNil))) [5]))) (gN 3)))
  (sAsg (vT 3) (gN 1)))))
  (sRet (vT 1))))
def F__law_all_sheets : List Va → M Va := fun ds => noX (runF 6 g__law_all_sheets ds)
theorem sc__law_all_sheets : FnScope ["many", "rows", "turn", "longer", "row", "home"] ["many"] (defScope s__law_all_sheets) := ⟨rfl, rfl, rfl, by decide +kernel, rfl, by decide +kernel, by decide +kernel⟩
theorem ok__law_all_sheets {P : Program} {w : World} {K : PySem.W.Frag} {mg : Str → Option Value} {base : Heap} {f : Addr} {fd : FuncData} (c : Fx K mg) (D : FnP K "_law_all_sheets" s__law_all_sheets f fd) : FnD P w K mg base CX0 1 f fd ["many"] F__law_all_sheets := by
  refine fnD_ofD (N := ["many", "rows", "turn", "longer", "row", "home"]) (g := g__law_all_sheets) D sc__law_all_sheets fun cdv A outer s H E hg hr => ?_
  unfold g__law_all_sheets
  exact (es_cons (es_set (i := 1) sc__law_all_sheets.nd rfl (by first | exact Or.inl rfl | exact Or.inr rfl) (e_lst (ea_cons (e_tup (ea_cons e_int ea_nil)) ea_nil)))
    (es_cons (es_for PassesOwn.never rfl (ei_range1 rfl c.b_range (ea_cons (e_op op_sub pure_sub (v 0) e_int) ea_nil)) (gn 2 sc__law_all_sheets.nd) (es_cons (es_set (i := 3) sc__law_all_sheets.nd rfl (by first | exact Or.inl rfl | exact Or.inr rfl) (e_lst ea_nil))
    (es_cons (es_for PassesOwn.never rfl (ei_seq (v 1)) (gn 4 sc__law_all_sheets.nd) (es_one (es_set (i := 3) sc__law_all_sheets.nd rfl (by first | exact Or.inl rfl | exact Or.inr rfl) (e_op op_addA pure_add (v 3) (e_fresh (ef_lcA (own := [("home", 5)]) rfl sc__law_all_sheets.nd (ei_range1 rfl c.b_range (ea_cons (e_op op_addA pure_add (e_callB (cr_maxA rfl (by exact hr.units)) pure_max rfl c.b_max (by decide +kernel) (ea_cons (v 4) ea_nil)) e_int) ea_nil)) (blkOk_by (by rfl)) (by decide) (fun _ _ _ _ _ => (gn 5 sc__law_all_sheets.nd)) (fun _ _ _ _ _ => ebs_nil) (fun _ _ _ _ _ => (e_op op_addA pure_add (v 4) (e_tup (ea_cons (v 5) ea_nil))))))))))
    (es_one (es_set (i := 1) sc__law_all_sheets.nd rfl (by first | exact Or.inl rfl | exact Or.inr rfl) (v 3))))))
    (es_one (es_ret (v 1)))))
/-! _law_numbered: 0 sheet, 1 marks, 2 k, 3 home -/
def g__law_numbered : SF := (sSeq (sAsg (fD (lcA (lN gEnum (aCons (vT 0) aNil)) (gT [(gN 2), (gN 3)]) (bV (c2 (gDD (hIn true)) (vT 3) (eSl gSlA (vT 0) none (some (vT 2))))) (vT 3) [2, 3])) (gN 1))
  (sRet (cN (on1 hTup) (aCons (fD (lcA (lSeq (vT 0)) (gN 3) bYes (cIndex (vT 1) (vT 3)) [3])) aNil))))
def F__law_numbered : List Va → M Va := fun ds => noX (runF 4 g__law_numbered ds)
theorem sc__law_numbered : FnScope ["sheet", "marks", "k", "home"] ["sheet"] (defScope s__law_numbered) := ⟨rfl, rfl, rfl, by decide +kernel, rfl, by decide +kernel, by decide +kernel⟩
theorem ok__law_numbered {P : Program} {w : World} {K : PySem.W.Frag} {mg : Str → Option Value} {base : Heap} {f : Addr} {fd : FuncData} (c : Fx K mg) (D : FnP K "_law_numbered" s__law_numbered f fd) : FnD P w K mg base CX0 1 f fd ["sheet"] F__law_numbered := by
  refine fnD_ofD (N := ["sheet", "marks", "k", "home"]) (g := g__law_numbered) D sc__law_numbered fun cdv A outer s H E hg hr => ?_
  unfold g__law_numbered
  exact (es_cons (es_set (i := 1) sc__law_numbered.nd rfl (by first | exact Or.inl rfl | exact Or.inr rfl) (e_fresh (ef_lcA (own := [("k", 2), ("home", 3)]) rfl sc__law_numbered.nd (ei_enum rfl c.b_enumerate (ea_cons (v 0) ea_nil)) (blkOk_by (by rfl)) (by decide) (fun _ _ _ _ _ => (eg_tup rfl (egs_cons (gn 2 sc__law_numbered.nd) (egs_cons (gn 3 sc__law_numbered.nd) egs_nil)))) (fun _ _ _ _ _ => (ebs_one (eb_cmp (op_notInD (by exact hr.units)) pure_inD (v 3) (e_sl sl_any pure_slA (v 0) ep_none (ep_some (v 2))) (by with_unfolding_all rfl)))) (fun _ _ _ _ _ => (v 3)))))
    (es_one (es_ret (e_callTy call_tuple_of pure_tuple rfl c.b_tuple (by decide +kernel) (ea_cons (e_fresh (ef_lcA (own := [("home", 3)]) rfl sc__law_numbered.nd (ei_seq (v 0)) (blkOk_by (by rfl)) (by decide) (fun _ _ _ _ _ => (gn 3 sc__law_numbered.nd)) (fun _ _ _ _ _ => ebs_nil) (fun _ _ _ _ _ => (e_index (by exact hr.units) (v 1) (v 3))))) ea_nil)))))
/-! _law_ring: 0 many, 1 k -/
def g__law_ring : SF := (sRet (cN gTupD (aCons (cN (on1 hTup) (aCons (fD (lcA (lN gRng1 (aCons (vT 0) aNil)) (gN 1) bYes (cN gTupD (aCons (c2 gMod (cN (on1 hInt) (aCons (c2 gAdd (vT 1) (kC (.int 1))) aNil)) (vT 0)) aNil)) [1])) aNil)) (aCons (c2 gMul (cN gTupD (aCons (kC (.int 0)) aNil)) (vT 0)) aNil))))
def F__law_ring : List Va → M Va := fun ds => noX (runF 2 g__law_ring ds)
theorem sc__law_ring : FnScope ["many", "k"] ["many"] (defScope s__law_ring) := ⟨rfl, rfl, rfl, by decide +kernel, rfl, by decide +kernel, by decide +kernel⟩
theorem ok__law_ring {P : Program} {w : World} {K : PySem.W.Frag} {mg : Str → Option Value} {base : Heap} {f : Addr} {fd : FuncData} (c : Fx K mg) (D : FnP K "_law_ring" s__law_ring f fd) : FnD P w K mg base CX0 1 f fd ["many"] F__law_ring := by
  refine fnD_ofD (N := ["many", "k"]) (g := g__law_ring) D sc__law_ring fun cdv A outer s H E hg hr => ?_
  unfold g__law_ring
  exact (es_one (es_ret (e_tup (ea_cons (e_callTy call_tuple_of pure_tuple rfl c.b_tuple (by decide +kernel) (ea_cons (e_fresh (ef_lcA (own := [("k", 1)]) rfl sc__law_ring.nd (ei_range1 rfl c.b_range (ea_cons (v 0) ea_nil)) (blkOk_by (by rfl)) (by decide) (fun _ _ _ _ _ => (gn 1 sc__law_ring.nd)) (fun _ _ _ _ _ => ebs_nil) (fun _ _ _ _ _ => (e_tup (ea_cons (e_op op_mod pure_mod (e_callTy call_int1 pure_int rfl c.b_int (by decide +kernel) (ea_cons (e_op op_addA pure_add (v 1) e_int) ea_nil)) (v 0)) ea_nil))))) ea_nil)) (ea_cons (e_op op_mulA pure_mulA (e_tup (ea_cons e_int ea_nil)) (v 0)) ea_nil)))))
/-! wrong_in_table: 0 value, 1 letters, 2 number, 3 line, 4 letter, 5 goal -/
def g_wrong_in_table : SF := (sSeq (sIf (bOr (bNot (bV (c1 (gIsi "tuple") (vT 0)))) (bNot (bV (eChain gLe gLe (kC (.int 1)) (cN (on1 hLenA) (aCons (vT 0) aNil)) (kC (.int 8)))))) (sRet (cN gLstD aNil)) sNil)
  (sSeq (sAsg (kC (.int 0)) (gN 1))
  (sSeq (sFor (lN gEnum (aCons (vT 0) aNil)) (gT [(gN 2), (gN 3)]) (sSeq (sIf (bNot (bV (eCallA true F_is_line (aCons (vT 3) (aCons (vT 1) aNil))))) (sRet (cN gLstD (aCons (vT 2) aNil))) sNil)
  (sAsg (cN (on1 hLenA) (aCons (vT 3) aNil)) (gN 1))))
  (sSeq (sFor (lN gEnum (aCons (vT 0) aNil)) (gT [(gN 2), (gN 3)]) (sFor (lN gEnum (aCons (vT 3) aNil)) (gT [(gN 4), (gN 5)]) (sIf (bNot (bV (eCallA true F_is_whole (aCons (vT 5) (aCons (kC (.int 0)) (aCons (c2 gSub (cN (on1 hLenA) (aCons (vT 0) aNil)) (kC (.int 1))) aNil)))))) (sRet (cN gLstD (aCons (vT 2) (aCons (vT 4) aNil)))) sNil)))
  (sRet (kC .none))))))
def F_wrong_in_table : List Va → M Va := fun ds => noX (runF 6 g_wrong_in_table ds)
theorem sc_wrong_in_table : FnScope ["value", "letters", "number", "line", "letter", "goal"] ["value"] (defScope s_wrong_in_table) := ⟨rfl, rfl, rfl, by decide +kernel, rfl, by decide +kernel, by decide +kernel⟩
theorem ok_wrong_in_table {P : Program} {w : World} {K : PySem.W.Frag} {mg : Str → Option Value} {base : Heap} {f : Addr} {fd : FuncData} (c : Fx K mg) (D : FnP K "wrong_in_table" s_wrong_in_table f fd) : FnD P w K mg base CX0 2 f fd ["value"] F_wrong_in_table := by
  obtain ⟨fd_is_line, D_is_line⟩ := c.d_is_line
  have O_is_line := ok_is_line (P := P) (w := w) (base := base) c D_is_line
  have B_is_line : Binds K fd_is_line ["value", "letters"] [] := D_is_line.bindsN (ps := ["value", "letters"]) fun _ _ _ _ _ _ us hl => match us, hl with | [_, _], _ => rfl
  obtain ⟨fd_is_whole, D_is_whole⟩ := c.d_is_whole
  have O_is_whole := ok_is_whole (P := P) (w := w) (base := base) c D_is_whole
  have B_is_whole : Binds K fd_is_whole ["value", "least", "most"] [] := D_is_whole.bindsN (ps := ["value", "least", "most"]) fun _ _ _ _ _ _ us hl => match us, hl with | [_, _, _], _ => rfl
  refine fnD_ofD (N := ["value", "letters", "number", "line", "letter", "goal"]) (g := g_wrong_in_table) D sc_wrong_in_table fun cdv A outer s H E hg hr => ?_
  unfold g_wrong_in_table
  exact (es_cons (es_if (eb_w (ew_or (eb_not (eb_val (e_isi (c := "tuple") rfl c.b_isinstance rfl c.b_tuple (by decide +kernel) (by decide) (v 0)))) (ew_or1 (eb_not (eb_chain op_le pure_le op_le pure_le e_int (e_callB cr_lenA pure_lenA rfl c.b_len (by decide +kernel) (ea_cons (v 0) ea_nil)) (e_globI rfl c.k_MOST_STANDINGS.choose_spec)))))) (es_one (es_ret (e_lst ea_nil))) es_nil)
    (es_cons (es_set (i := 1) sc_wrong_in_table.nd rfl (by first | exact Or.inl rfl | exact Or.inr rfl) e_int)
    (es_cons (es_for PassesOwn.never rfl (ei_enum rfl c.b_enumerate (ea_cons (v 0) ea_nil)) (eg_tup rfl (egs_cons (gn 2 sc_wrong_in_table.nd) (egs_cons (gn 3 sc_wrong_in_table.nd) egs_nil))) (es_cons (es_if (eb_not (eb_val (e_callA O_is_line (by exact hg) (hr.mono (by decide)) rfl c.m_is_line D_is_line.kp B_is_line (fun _ _ _ _ _ _ _ h => h.elim) (ea_cons (v 3) (ea_cons (v 1) ea_nil)) (aCons_len (aCons_len aNil_len))))) (es_one (es_ret (e_lst (ea_cons (v 2) ea_nil)))) es_nil)
    (es_one (es_set (i := 1) sc_wrong_in_table.nd rfl (by first | exact Or.inl rfl | exact Or.inr rfl) (e_callB cr_lenA pure_lenA rfl c.b_len (by decide +kernel) (ea_cons (v 3) ea_nil))))))
    (es_cons (es_for PassesOwn.never rfl (ei_enum rfl c.b_enumerate (ea_cons (v 0) ea_nil)) (eg_tup rfl (egs_cons (gn 2 sc_wrong_in_table.nd) (egs_cons (gn 3 sc_wrong_in_table.nd) egs_nil))) (es_one (es_for PassesOwn.never rfl (ei_enum rfl c.b_enumerate (ea_cons (v 3) ea_nil)) (eg_tup rfl (egs_cons (gn 4 sc_wrong_in_table.nd) (egs_cons (gn 5 sc_wrong_in_table.nd) egs_nil))) (es_one (es_if (eb_not (eb_val (e_callA O_is_whole (by exact hg) (hr.mono (by decide)) rfl c.m_is_whole D_is_whole.kp B_is_whole (fun _ _ _ _ _ _ _ h => h.elim) (ea_cons (v 5) (ea_cons e_int (ea_cons (e_op op_sub pure_sub (e_callB cr_lenA pure_lenA rfl c.b_len (by decide +kernel) (ea_cons (v 0) ea_nil)) e_int) ea_nil))) (aCons_len (aCons_len (aCons_len aNil_len)))))) (es_one (es_ret (e_lst (ea_cons (v 2) (ea_cons (v 4) ea_nil))))) es_nil)))))
    (es_one (es_ret e_non))))))
/-! need_standing: 0 machine, 1 standing -/
def g_need_standing : SF := (sIf (bNot (bV (eCallA true F_is_whole (aCons (vT 1) (aCons (kC (.int 0)) (aCons (c2 gSub (eCallA true F_size_of (aCons (vT 0) aNil)) (kC (.int 1))) aNil)))))) sNo sNil)
def F_need_standing : List Va → M Va := fun ds => noX (runF 2 g_need_standing ds)
theorem sc_need_standing : FnScope ["machine", "standing"] ["machine", "standing"] (defScope s_need_standing) := ⟨rfl, rfl, rfl, by decide +kernel, rfl, by decide +kernel, by decide +kernel⟩
theorem ok_need_standing {P : Program} {w : World} {K : PySem.W.Frag} {mg : Str → Option Value} {base : Heap} {f : Addr} {fd : FuncData} (c : Fx K mg) (D : FnP K "need_standing" s_need_standing f fd) : FnD P w K mg base CX0 2 f fd ["machine", "standing"] F_need_standing := by
  obtain ⟨fd_is_whole, D_is_whole⟩ := c.d_is_whole
  have O_is_whole := ok_is_whole (P := P) (w := w) (base := base) c D_is_whole
  have B_is_whole : Binds K fd_is_whole ["value", "least", "most"] [] := D_is_whole.bindsN (ps := ["value", "least", "most"]) fun _ _ _ _ _ _ us hl => match us, hl with | [_, _, _], _ => rfl
  obtain ⟨fd_size_of, D_size_of⟩ := c.d_size_of
  have O_size_of := ok_size_of (P := P) (w := w) (base := base) c D_size_of
  have B_size_of : Binds K fd_size_of ["machine"] [] := D_size_of.bindsN (ps := ["machine"]) fun _ _ _ _ _ _ us hl => match us, hl with | [_], _ => rfl
  refine fnD_ofD (N := ["machine", "standing"]) (g := g_need_standing) D sc_need_standing fun cdv A outer s H E hg hr => ?_
  unfold g_need_standing
  exact (es_one (es_if (eb_not (eb_val (e_callA O_is_whole (by exact hg) (hr.mono (by decide)) rfl c.m_is_whole D_is_whole.kp B_is_whole (fun _ _ _ _ _ _ _ h => h.elim) (ea_cons (v 1) (ea_cons e_int (ea_cons (e_op op_sub pure_sub (e_callA O_size_of (by exact hg) (hr.mono (by decide)) rfl c.m_size_of D_size_of.kp B_size_of (fun _ _ _ _ _ _ _ h => h.elim) (ea_cons (v 0) ea_nil) (aCons_len aNil_len)) e_int) ea_nil))) (aCons_len (aCons_len (aCons_len aNil_len)))))) (es_one es_no) es_nil))
/-! is_parting_of: 0 machine, 1 value, 2 block -/
def g_is_parting_of : SF := (sSeq (sIf (bOr (bNot (bV (c1 (gIsi "tuple") (vT 1)))) (bV (c2 gNe (cN (on1 hLenA) (aCons (vT 1) aNil)) (eCallA true F_size_of (aCons (vT 0) aNil))))) (sRet (kC (.bool false))) sNil)
  (sRet (eAnd (cN (on1 hAll) (aCons (fD (lcA (lSeq (vT 1)) (gN 2) bYes (eCallA true F_is_whole (aCons (vT 2) (aCons (kC (.int 0)) (aCons (c2 gSub (cN (on1 hLenA) (aCons (vT 1) aNil)) (kC (.int 1))) aNil)))) [2])) aNil)) (c2 gEq (eCallA true F_numbered (aCons (vT 1) aNil)) (vT 1)))))
def F_is_parting_of : List Va → M Va := fun ds => noX (runF 3 g_is_parting_of ds)
theorem sc_is_parting_of : FnScope ["machine", "value", "block"] ["machine", "value"] (defScope s_is_parting_of) := ⟨rfl, rfl, rfl, by decide +kernel, rfl, by decide +kernel, by decide +kernel⟩
theorem ok_is_parting_of {P : Program} {w : World} {K : PySem.W.Frag} {mg : Str → Option Value} {base : Heap} {f : Addr} {fd : FuncData} (c : Fx K mg) (D : FnP K "is_parting_of" s_is_parting_of f fd) : FnD P w K mg base CX0 2 f fd ["machine", "value"] F_is_parting_of := by
  obtain ⟨fd_size_of, D_size_of⟩ := c.d_size_of
  have O_size_of := ok_size_of (P := P) (w := w) (base := base) c D_size_of
  have B_size_of : Binds K fd_size_of ["machine"] [] := D_size_of.bindsN (ps := ["machine"]) fun _ _ _ _ _ _ us hl => match us, hl with | [_], _ => rfl
  obtain ⟨fd_is_whole, D_is_whole⟩ := c.d_is_whole
  have O_is_whole := ok_is_whole (P := P) (w := w) (base := base) c D_is_whole
  have B_is_whole : Binds K fd_is_whole ["value", "least", "most"] [] := D_is_whole.bindsN (ps := ["value", "least", "most"]) fun _ _ _ _ _ _ us hl => match us, hl with | [_, _, _], _ => rfl
  obtain ⟨fd_numbered, D_numbered⟩ := c.d_numbered
  have O_numbered := ok_numbered (P := P) (w := w) (base := base) c D_numbered
  have B_numbered : Binds K fd_numbered ["keys"] [] := D_numbered.bindsN (ps := ["keys"]) fun _ _ _ _ _ _ us hl => match us, hl with | [_], _ => rfl
  refine fnD_ofD (N := ["machine", "value", "block"]) (g := g_is_parting_of) D sc_is_parting_of fun cdv A outer s H E hg hr => ?_
  unfold g_is_parting_of
  exact (es_cons (es_if (eb_w (ew_or (eb_not (eb_val (e_isi (c := "tuple") rfl c.b_isinstance rfl c.b_tuple (by decide +kernel) (by decide) (v 1)))) (ew_or1 (eb_cmp (op_neA (by exact hr.units)) pure_ne (e_callB cr_lenA pure_lenA rfl c.b_len (by decide +kernel) (ea_cons (v 1) ea_nil)) (e_callA O_size_of (by exact hg) (hr.mono (by decide)) rfl c.m_size_of D_size_of.kp B_size_of (fun _ _ _ _ _ _ _ h => h.elim) (ea_cons (v 0) ea_nil) (aCons_len aNil_len)) (nomark _))))) (es_one (es_ret e_bl)) es_nil)
    (es_one (es_ret (e_and (e_callB (cr_all rfl) pure_all rfl c.b_all (by decide +kernel) (ea_cons (e_fresh (ef_lcA (own := [("block", 2)]) rfl sc_is_parting_of.nd (ei_seq (v 1)) (blkOk_by (by rfl)) (by decide) (fun _ _ _ _ _ => (gn 2 sc_is_parting_of.nd)) (fun _ _ _ _ _ => ebs_nil) (fun _ _ _ _ _ => (e_callA O_is_whole (by exact hg) (hr.mono (by decide)) rfl c.m_is_whole D_is_whole.kp B_is_whole (fun _ _ _ _ _ _ _ h => h.elim) (ea_cons (v 2) (ea_cons e_int (ea_cons (e_op op_sub pure_sub (e_callB cr_lenA pure_lenA rfl c.b_len (by decide +kernel) (ea_cons (v 1) ea_nil)) e_int) ea_nil))) (aCons_len (aCons_len (aCons_len aNil_len))))))) ea_nil)) (e_and1 (e_cmp (op_eqA (by exact hr.units)) pure_eq (e_callA O_numbered (by exact hg) (hr.mono (by decide)) rfl c.m_numbered D_numbered.kp B_numbered (fun _ _ _ _ _ _ _ h => h.elim) (ea_cons (v 1) ea_nil) (aCons_len aNil_len)) (v 1) (nomark _)))))))
/-! single_of: 0 machine -/
def g_single_of : SF := (sRet (c1 gTRg (eCallA true F_size_of (aCons (vT 0) aNil))))
def F_single_of : List Va → M Va := fun ds => noX (runF 1 g_single_of ds)
theorem sc_single_of : FnScope ["machine"] ["machine"] (defScope s_single_of) := ⟨rfl, rfl, rfl, by decide +kernel, rfl, by decide +kernel, by decide +kernel⟩
theorem ok_single_of {P : Program} {w : World} {K : PySem.W.Frag} {mg : Str → Option Value} {base : Heap} {f : Addr} {fd : FuncData} (c : Fx K mg) (D : FnP K "single_of" s_single_of f fd) : FnD P w K mg base CX0 2 f fd ["machine"] F_single_of := by
  obtain ⟨fd_size_of, D_size_of⟩ := c.d_size_of
  have O_size_of := ok_size_of (P := P) (w := w) (base := base) c D_size_of
  have B_size_of : Binds K fd_size_of ["machine"] [] := D_size_of.bindsN (ps := ["machine"]) fun _ _ _ _ _ _ us hl => match us, hl with | [_], _ => rfl
  refine fnD_ofD (N := ["machine"]) (g := g_single_of) D sc_single_of fun cdv A outer s H E hg hr => ?_
  unfold g_single_of
  exact (es_one (es_ret (e_tupRg rfl rfl c.b_tuple rfl c.b_range (e_callA O_size_of (by exact hg) (hr.mono (by decide)) rfl c.m_size_of D_size_of.kp B_size_of (fun _ _ _ _ _ _ _ h => h.elim) (ea_cons (v 0) ea_nil) (aCons_len aNil_len)))))
/-! joined: 0 parting, 1 other, 2 found, 3 block, 4 standing -/
def g_joined : SF := (sSeq (sAsg (vT 0) (gN 2))
  (sSeq (sFor (lSeq (eCallA true F_blocks_of (aCons (vT 1) aNil))) (gN 3) (sFor (lSeq (eSl gSlA (vT 3) (some (kC (.int 1))) none)) (gN 4) (sAsg (eCallA true F_merged (aCons (vT 2) (aCons (c2 gIx (vT 3) (kC (.int 0))) (aCons (vT 4) aNil)))) (gN 2))))
  (sRet (eCallA true F_numbered (aCons (vT 2) aNil)))))
def F_joined : List Va → M Va := fun ds => noX (runF 5 g_joined ds)
theorem sc_joined : FnScope ["parting", "other", "found", "block", "standing"] ["parting", "other"] (defScope s_joined) := ⟨rfl, rfl, rfl, by decide +kernel, rfl, by decide +kernel, by decide +kernel⟩
theorem ok_joined {P : Program} {w : World} {K : PySem.W.Frag} {mg : Str → Option Value} {base : Heap} {f : Addr} {fd : FuncData} (c : Fx K mg) (D : FnP K "joined" s_joined f fd) : FnD P w K mg base CX0 2 f fd ["parting", "other"] F_joined := by
  obtain ⟨fd_blocks_of, D_blocks_of⟩ := c.d_blocks_of
  have O_blocks_of := ok_blocks_of (P := P) (w := w) (base := base) c D_blocks_of
  have B_blocks_of : Binds K fd_blocks_of ["parting"] [] := D_blocks_of.bindsN (ps := ["parting"]) fun _ _ _ _ _ _ us hl => match us, hl with | [_], _ => rfl
  obtain ⟨fd_merged, D_merged⟩ := c.d_merged
  have O_merged := ok_merged (P := P) (w := w) (base := base) c D_merged
  have B_merged : Binds K fd_merged ["parting", "one", "far"] [] := D_merged.bindsN (ps := ["parting", "one", "far"]) fun _ _ _ _ _ _ us hl => match us, hl with | [_, _, _], _ => rfl
  obtain ⟨fd_numbered, D_numbered⟩ := c.d_numbered
  have O_numbered := ok_numbered (P := P) (w := w) (base := base) c D_numbered
  have B_numbered : Binds K fd_numbered ["keys"] [] := D_numbered.bindsN (ps := ["keys"]) fun _ _ _ _ _ _ us hl => match us, hl with | [_], _ => rfl
  refine fnD_ofD (N := ["parting", "other", "found", "block", "standing"]) (g := g_joined) D sc_joined fun cdv A outer s H E hg hr => ?_
  unfold g_joined
  exact (es_cons (es_set (i := 2) sc_joined.nd rfl (by first | exact Or.inl rfl | exact Or.inr rfl) (v 0))
    (es_cons (es_for PassesOwn.never rfl (ei_seq (e_callA O_blocks_of (by exact hg) (hr.mono (by decide)) rfl c.m_blocks_of D_blocks_of.kp B_blocks_of (fun _ _ _ _ _ _ _ h => h.elim) (ea_cons (v 1) ea_nil) (aCons_len aNil_len))) (gn 3 sc_joined.nd) (es_one (es_for PassesOwn.never rfl (ei_seq (e_sl sl_any pure_slA (v 3) (ep_some e_int) ep_none)) (gn 4 sc_joined.nd) (es_one (es_set (i := 2) sc_joined.nd rfl (by first | exact Or.inl rfl | exact Or.inr rfl) (e_callA O_merged (by exact hg) (hr.mono (by decide)) rfl c.m_merged D_merged.kp B_merged (fun _ _ _ _ _ _ _ h => h.elim) (ea_cons (v 2) (ea_cons (e_ix (v 3) e_int) (ea_cons (v 4) ea_nil))) (aCons_len (aCons_len (aCons_len aNil_len)))))))))
    (es_one (es_ret (e_callA O_numbered (by exact hg) (hr.mono (by decide)) rfl c.m_numbered D_numbered.kp B_numbered (fun _ _ _ _ _ _ _ h => h.elim) (ea_cons (v 2) ea_nil) (aCons_len aNil_len))))))
/-! led_to: 0 machine, 1 parting, 2 other, 3 letter, 4 known, 5 standing, 6 block, 7 goal -/
def g_led_to : SF := (sSeq (sFor (lSeq (eCallA true F_letters_of (aCons (vT 0) aNil))) (gN 3) (sSeq (sSetO oD 4)
  (sFor (lN gEnum (aCons (vT 1) aNil)) (gT [(gN 5), (gN 6)]) (sSeq (sAsg (c2 gIx (vT 2) (c2 gIx (c2 gIx (c2 gIx (vT 0) (kC (.int 0))) (vT 5)) (vT 3))) (gN 7))
  (sIfSetd 4 (vT 6) (vT 7) (vT 7) gNe (sRet (kC (.bool false))) sNil)))))
  (sRet (kC (.bool true))))
def F_led_to : List Va → M Va := fun ds => noX (runF 8 g_led_to ds)
theorem sc_led_to : FnScope ["machine", "parting", "other", "letter", "known", "standing", "block", "goal"] ["machine", "parting", "other"] (defScope s_led_to) := ⟨rfl, rfl, rfl, by decide +kernel, rfl, by decide +kernel, by decide +kernel⟩
theorem ok_led_to {P : Program} {w : World} {K : PySem.W.Frag} {mg : Str → Option Value} {base : Heap} {f : Addr} {fd : FuncData} (c : Fx K mg) (D : FnP K "led_to" s_led_to f fd) : FnD P w K mg base CX0 2 f fd ["machine", "parting", "other"] F_led_to := by
  obtain ⟨fd_letters_of, D_letters_of⟩ := c.d_letters_of
  have O_letters_of := ok_letters_of (P := P) (w := w) (base := base) c D_letters_of
  have B_letters_of : Binds K fd_letters_of ["machine"] [] := D_letters_of.bindsN (ps := ["machine"]) fun _ _ _ _ _ _ us hl => match us, hl with | [_], _ => rfl
  refine fnD_ofD (N := ["machine", "parting", "other", "letter", "known", "standing", "block", "goal"]) (g := g_led_to) D sc_led_to fun cdv A outer s H E hg hr => ?_
  unfold g_led_to
  exact (es_cons (es_for PassesOwn.never rfl (ei_seq (e_callA O_letters_of (by exact hg) (hr.mono (by decide)) rfl c.m_letters_of D_letters_of.kp B_letters_of (fun _ _ _ _ _ _ _ h => h.elim) (ea_cons (v 0) ea_nil) (aCons_len aNil_len))) (gn 3 sc_led_to.nd) (es_cons (es_setO (i := 4) sc_led_to.nd rfl (by first | exact Or.inl rfl | exact Or.inr rfl) eo_dict)
    (es_one (es_for PassesOwn.never rfl (ei_enum rfl c.b_enumerate (ea_cons (v 1) ea_nil)) (eg_tup rfl (egs_cons (gn 5 sc_led_to.nd) (egs_cons (gn 6 sc_led_to.nd) egs_nil))) (es_cons (es_set (i := 7) sc_led_to.nd rfl (by first | exact Or.inl rfl | exact Or.inr rfl) (e_ix (v 2) (e_ix (e_ix (e_ix (v 0) e_int) (v 5)) (v 3))))
    (es_one (es_ifSetd (op_neA (by exact hr.units)) pure_ne (nomark _) (by exact hu_of hr) (i := 4) rfl (by first | exact Or.inl rfl | exact Or.inr (Or.inl rfl)) (v 6) (v 7) (v 7) (es_one (es_ret e_bl)) es_nil)))))))
    (es_one (es_ret e_bl)))
/-! pairs_in: 0 machine, 1 many, 2 one, 3 far -/
def g_pairs_in : SF := (sSeq (sAsg (eCallA true F_size_of (aCons (vT 0) aNil)) (gN 1))
  (sRet (fD (lcA2 (lN gRng1 (aCons (vT 1) aNil)) (gN 2) bYes (lN gRng2 (aCons (c2 gAdd (vT 2) (kC (.int 1))) (aCons (vT 1) aNil))) (gN 3) bYes (cN gTupD (aCons (vT 2) (aCons (vT 3) aNil))) [2, 3] [3]))))
def F_pairs_in : List Va → M Va := fun ds => noX (runF 4 g_pairs_in ds)
theorem sc_pairs_in : FnScope ["machine", "many", "one", "far"] ["machine"] (defScope s_pairs_in) := ⟨rfl, rfl, rfl, by decide +kernel, rfl, by decide +kernel, by decide +kernel⟩
theorem ok_pairs_in {P : Program} {w : World} {K : PySem.W.Frag} {mg : Str → Option Value} {base : Heap} {f : Addr} {fd : FuncData} (c : Fx K mg) (D : FnP K "pairs_in" s_pairs_in f fd) : FnD P w K mg base CX0 2 f fd ["machine"] F_pairs_in := by
  obtain ⟨fd_size_of, D_size_of⟩ := c.d_size_of
  have O_size_of := ok_size_of (P := P) (w := w) (base := base) c D_size_of
  have B_size_of : Binds K fd_size_of ["machine"] [] := D_size_of.bindsN (ps := ["machine"]) fun _ _ _ _ _ _ us hl => match us, hl with | [_], _ => rfl
  refine fnD_ofD (N := ["machine", "many", "one", "far"]) (g := g_pairs_in) D sc_pairs_in fun cdv A outer s H E hg hr => ?_
  unfold g_pairs_in
  exact (es_cons (es_set (i := 1) sc_pairs_in.nd rfl (by first | exact Or.inl rfl | exact Or.inr rfl) (e_callA O_size_of (by exact hg) (hr.mono (by decide)) rfl c.m_size_of D_size_of.kp B_size_of (fun _ _ _ _ _ _ _ h => h.elim) (ea_cons (v 0) ea_nil) (aCons_len aNil_len)))
    (es_one (es_ret (e_fresh (ef_lcA2 (own := [("one", 2), ("far", 3)]) rfl sc_pairs_in.nd (vs1 := [3]) (ei_range1 rfl c.b_range (ea_cons (v 1) ea_nil)) (blkOk_by (by rfl)) (by decide) (by decide) (by decide) (fun _ _ _ _ _ => (gn 2 sc_pairs_in.nd)) (fun _ _ _ _ _ => ebs_nil) (fun _ _ _ _ _ => (ei_range2 rfl c.b_range (ea_cons (e_op op_addA pure_add (v 2) e_int) (ea_cons (v 1) ea_nil)))) (fun _ _ _ _ _ => (gn 3 sc_pairs_in.nd)) (fun _ _ _ _ _ => ebs_nil) (fun _ _ _ _ _ => (e_tup (ea_cons (v 2) (ea_cons (v 3) ea_nil)))))))))
/-! _law_of: 0 m, 1 some -/
def g__law_of : SF := (sRet (c2 gIx (vT 1) (eCall F__law_draw (aCons (vT 0) (aCons (cN (on1 hLenA) (aCons (vT 1) aNil)) aNil)))))
def F__law_of : List Va → M Va := fun ds => noX (runF 2 g__law_of ds)
theorem sc__law_of : FnScope ["m", "some"] ["m", "some"] (defScope s__law_of) := ⟨rfl, rfl, rfl, by decide +kernel, rfl, by decide +kernel, by decide +kernel⟩
theorem ok__law_of {P : Program} {w : World} {K : PySem.W.Frag} {mg : Str → Option Value} {base : Heap} {f : Addr} {fd : FuncData} (c : Fx K mg) (D : FnP K "_law_of" s__law_of f fd) : FnD P w K mg base CX0 2 f fd ["m", "some"] F__law_of := by
  obtain ⟨fd__law_draw, D__law_draw⟩ := c.d__law_draw
  have O__law_draw := ok__law_draw (P := P) (w := w) (base := base) c D__law_draw
  have B__law_draw : Binds K fd__law_draw ["m", "many"] [] := D__law_draw.bindsN (ps := ["m", "many"]) fun _ _ _ _ _ _ us hl => match us, hl with | [_, _], _ => rfl
  refine fnD_ofD (N := ["m", "some"]) (g := g__law_of) D sc__law_of fun cdv A outer s H E hg hr => ?_
  unfold g__law_of
  exact (es_one (es_ret (e_ix (v 1) (e_call O__law_draw (by exact hg) (hr.mono (by decide)) rfl c.m__law_draw D__law_draw.kp B__law_draw (fun _ _ _ _ _ _ _ h => h.elim) (ea_cons (v 0) (ea_cons (e_callB cr_lenA pure_lenA rfl c.b_len (by decide +kernel) (ea_cons (v 1) ea_nil)) ea_nil)) (aCons_len (aCons_len aNil_len))))))
/-! _law_closed: 0 frame, 1 classes, 2 found, 3 both -/
def g__law_closed : SF := (sSeq (sPar (oE (vT 1)) (oE (eCallA true F__law_apart (aCons (vT 0) (aCons (vT 1) aNil)))) 2 3)
  (sSeq (loopW (bV (c2 gNe (vT 3) (cN gLstD aNil))) (sSeq (sAsg (eCallA true F__law_merged (aCons (vT 2) (aCons (c2 gIx (vT 3) (kC (.int 0))) (aCons (c2 gIx (vT 3) (kC (.int 1))) aNil)))) (gN 2))
  (sAsg (eCallA true F__law_apart (aCons (vT 0) (aCons (vT 2) aNil))) (gN 3))) fuel)
  (sRet (vT 2))))
def F__law_closed : List Va → M Va := fun ds => noX (runF 4 g__law_closed ds)
theorem sc__law_closed : FnScope ["frame", "classes", "found", "both"] ["frame", "classes"] (defScope s__law_closed) := ⟨rfl, rfl, rfl, by decide +kernel, rfl, by decide +kernel, by decide +kernel⟩
theorem ok__law_closed {P : Program} {w : World} {K : PySem.W.Frag} {mg : Str → Option Value} {base : Heap} {f : Addr} {fd : FuncData} (c : Fx K mg) (D : FnP K "_law_closed" s__law_closed f fd) : FnD P w K mg base CX0 2 f fd ["frame", "classes"] F__law_closed := by
  obtain ⟨fd__law_apart, D__law_apart⟩ := c.d__law_apart
  have O__law_apart := ok__law_apart (P := P) (w := w) (base := base) c D__law_apart
  have B__law_apart : Binds K fd__law_apart ["frame", "classes"] [] := D__law_apart.bindsN (ps := ["frame", "classes"]) fun _ _ _ _ _ _ us hl => match us, hl with | [_, _], _ => rfl
  obtain ⟨fd__law_merged, D__law_merged⟩ := c.d__law_merged
  have O__law_merged := ok__law_merged (P := P) (w := w) (base := base) c D__law_merged
  have B__law_merged : Binds K fd__law_merged ["classes", "one", "far"] [] := D__law_merged.bindsN (ps := ["classes", "one", "far"]) fun _ _ _ _ _ _ us hl => match us, hl with | [_, _, _], _ => rfl
  refine fnD_ofD (N := ["frame", "classes", "found", "both"]) (g := g__law_closed) D sc__law_closed fun cdv A outer s H E hg hr => ?_
  unfold g__law_closed
  exact (es_cons (es_par (i := 2) (j := 3) rfl sc__law_closed.nd rfl rfl (by decide) rfl rfl (eo_e (v 1)) (eo_e (e_callA O__law_apart (by exact hg) (hr.mono (by decide)) rfl c.m__law_apart D__law_apart.kp B__law_apart (fun _ _ _ _ _ _ _ h => h.elim) (ea_cons (v 0) (ea_cons (v 1) ea_nil)) (aCons_len (aCons_len aNil_len)))) (by rfl))
    (es_cons (es_while PassesOwn.never (eb_cmp (op_neA (by exact hr.units)) pure_ne (v 3) (e_lst ea_nil) (nomark _)) (es_cons (es_set (i := 2) sc__law_closed.nd rfl (by first | exact Or.inl rfl | exact Or.inr rfl) (e_callA O__law_merged (by exact hg) (hr.mono (by decide)) rfl c.m__law_merged D__law_merged.kp B__law_merged (fun _ _ _ _ _ _ _ h => h.elim) (ea_cons (v 2) (ea_cons (e_ix (v 3) e_int) (ea_cons (e_ix (v 3) e_int) ea_nil))) (aCons_len (aCons_len (aCons_len aNil_len)))))
    (es_one (es_set (i := 3) sc__law_closed.nd rfl (by first | exact Or.inl rfl | exact Or.inr rfl) (e_callA O__law_apart (by exact hg) (hr.mono (by decide)) rfl c.m__law_apart D__law_apart.kp B__law_apart (fun _ _ _ _ _ _ _ h => h.elim) (ea_cons (v 0) (ea_cons (v 2) ea_nil)) (aCons_len (aCons_len aNil_len)))))))
    (es_one (es_ret (v 2)))))
/-! _law_all_kept: 0 frame, 1 every, 2 sheet -/
def g__law_all_kept : SF := (sSeq (sAsg (eCallA true F__law_all_sheets (aCons (cN (on1 hLenA) (aCons (c2 gIx (vT 0) (kC (.int 0))) aNil)) aNil)) (gN 1))
  (sRet (fD (lcA (lSeq (vT 1)) (gN 2) (bV (eCallA true F__law_is_kept (aCons (vT 0) (aCons (eCallA true F__law_classes (aCons (vT 2) aNil)) aNil)))) (vT 2) [2]))))
def F__law_all_kept : List Va → M Va := fun ds => noX (runF 3 g__law_all_kept ds)
theorem sc__law_all_kept : FnScope ["frame", "every", "sheet"] ["frame"] (defScope s__law_all_kept) := ⟨rfl, rfl, rfl, by decide +kernel, rfl, by decide +kernel, by decide +kernel⟩
theorem ok__law_all_kept {P : Program} {w : World} {K : PySem.W.Frag} {mg : Str → Option Value} {base : Heap} {f : Addr} {fd : FuncData} (c : Fx K mg) (D : FnP K "_law_all_kept" s__law_all_kept f fd) : FnD P w K mg base CX0 2 f fd ["frame"] F__law_all_kept := by
  obtain ⟨fd__law_all_sheets, D__law_all_sheets⟩ := c.d__law_all_sheets
  have O__law_all_sheets := ok__law_all_sheets (P := P) (w := w) (base := base) c D__law_all_sheets
  have B__law_all_sheets : Binds K fd__law_all_sheets ["many"] [] := D__law_all_sheets.bindsN (ps := ["many"]) fun _ _ _ _ _ _ us hl => match us, hl with | [_], _ => rfl
  obtain ⟨fd__law_is_kept, D__law_is_kept⟩ := c.d__law_is_kept
  have O__law_is_kept := ok__law_is_kept (P := P) (w := w) (base := base) c D__law_is_kept
  have B__law_is_kept : Binds K fd__law_is_kept ["frame", "classes"] [] := D__law_is_kept.bindsN (ps := ["frame", "classes"]) fun _ _ _ _ _ _ us hl => match us, hl with | [_, _], _ => rfl
  obtain ⟨fd__law_classes, D__law_classes⟩ := c.d__law_classes
  have O__law_classes := ok__law_classes (P := P) (w := w) (base := base) c D__law_classes
  have B__law_classes : Binds K fd__law_classes ["sheet"] [] := D__law_classes.bindsN (ps := ["sheet"]) fun _ _ _ _ _ _ us hl => match us, hl with | [_], _ => rfl
  refine fnD_ofD (N := ["frame", "every", "sheet"]) (g := g__law_all_kept) D sc__law_all_kept fun cdv A outer s H E hg hr => ?_
  unfold g__law_all_kept
  exact (es_cons (es_set (i := 1) sc__law_all_kept.nd rfl (by first | exact Or.inl rfl | exact Or.inr rfl) (e_callA O__law_all_sheets (by exact hg) (hr.mono (by decide)) rfl c.m__law_all_sheets D__law_all_sheets.kp B__law_all_sheets (fun _ _ _ _ _ _ _ h => h.elim) (ea_cons (e_callB cr_lenA pure_lenA rfl c.b_len (by decide +kernel) (ea_cons (e_ix (v 0) e_int) ea_nil)) ea_nil) (aCons_len aNil_len)))
    (es_one (es_ret (e_fresh (ef_lcA (own := [("sheet", 2)]) rfl sc__law_all_kept.nd (ei_seq (v 1)) (blkOk_by (by rfl)) (by decide) (fun _ _ _ _ _ => (gn 2 sc__law_all_kept.nd)) (fun _ _ _ _ _ => (ebs_one (eb_val (e_callA O__law_is_kept (by exact hg) (hr.mono (by decide)) rfl c.m__law_is_kept D__law_is_kept.kp B__law_is_kept (fun _ _ _ _ _ _ _ h => h.elim) (ea_cons (v 0) (ea_cons (e_callA O__law_classes (by exact hg) (hr.mono (by decide)) rfl c.m__law_classes D__law_classes.kp B__law_classes (fun _ _ _ _ _ _ _ h => h.elim) (ea_cons (v 2) ea_nil) (aCons_len aNil_len)) ea_nil)) (aCons_len (aCons_len aNil_len)))))) (fun _ _ _ _ _ => (v 2)))))))
/-! _law_sheet: 0 m, 1 many, 2 found, 3 k -/
def g__law_sheet : SF := (sSeq (sOwn (fLst (aCons (kC (.int 0)) aNil)) 2)
  (sSeq (sFor (lN gRng1 (aCons (c2 gSub (vT 1) (kC (.int 1))) aNil)) (gN 3) (sApp 2 (eCall F__law_draw (aCons (vT 0) (aCons (cN (on2 gMin2) (aCons (c1 immV (c2 gAdd (cN (on1 hMax) (aCons (vF 2) aNil)) (kC (.int 2)))) (aCons (c2 gAdd (c2 gAdd (kC (.int 1)) (eCall F__law_draw (aCons (vT 0) (aCons (c2 gAdd (vT 1) (kC (.int 1))) aNil)))) (kC (.int 1))) aNil))) aNil)))))
  (sRet (c1 immV (cN (on1 hTup) (aCons (vF 2) aNil))))))
def F__law_sheet : List Va → M Va := fun ds => noX (runF 4 g__law_sheet ds)
theorem sc__law_sheet : FnScope ["m", "many", "found", "k"] ["m", "many"] (defScope s__law_sheet) := ⟨rfl, rfl, rfl, by decide +kernel, rfl, by decide +kernel, by decide +kernel⟩
theorem ok__law_sheet {P : Program} {w : World} {K : PySem.W.Frag} {mg : Str → Option Value} {base : Heap} {f : Addr} {fd : FuncData} (c : Fx K mg) (D : FnP K "_law_sheet" s__law_sheet f fd) : FnD P w K mg base CX0 2 f fd ["m", "many"] F__law_sheet := by
  obtain ⟨fd__law_draw, D__law_draw⟩ := c.d__law_draw
  have O__law_draw := ok__law_draw (P := P) (w := w) (base := base) c D__law_draw
  have B__law_draw : Binds K fd__law_draw ["m", "many"] [] := D__law_draw.bindsN (ps := ["m", "many"]) fun _ _ _ _ _ _ us hl => match us, hl with | [_, _], _ => rfl
  refine fnD_ofD (N := ["m", "many", "found", "k"]) (g := g__law_sheet) D sc__law_sheet fun cdv A outer s H E hg hr => ?_
  unfold g__law_sheet
  exact (es_cons (es_own (i := 2) sc__law_sheet.nd rfl (by first | exact Or.inl rfl | exact Or.inr rfl) (ef_lst (ea_cons e_int ea_nil)))
    (es_cons (es_for PassesOwn.never rfl (ei_range1 rfl c.b_range (ea_cons (e_op op_sub pure_sub (v 1) e_int) ea_nil)) (gn 3 sc__law_sheet.nd) (es_one (es_append (i := 2) rfl (by first | exact Or.inl rfl | exact Or.inr (Or.inl rfl)) (e_call O__law_draw (by exact hg) (hr.mono (by decide)) rfl c.m__law_draw D__law_draw.kp B__law_draw (fun _ _ _ _ _ _ _ h => h.elim) (ea_cons (v 0) (ea_cons (e_callB (call_min2 rfl) pure_min2 rfl c.b_min (by decide +kernel) (ea_cons (e_up (e_op op_addA pure_add (e_callB (cr_maxA rfl (by exact hr.units)) pure_max rfl c.b_max (by decide +kernel) (ea_cons (vf 2) ea_nil)) e_int)) (ea_cons (e_op op_addA pure_add (e_op op_addA pure_add e_int (e_call O__law_draw (by exact hg) (hr.mono (by decide)) rfl c.m__law_draw D__law_draw.kp B__law_draw (fun _ _ _ _ _ _ _ h => h.elim) (ea_cons (v 0) (ea_cons (e_op op_addA pure_add (v 1) e_int) ea_nil)) (aCons_len (aCons_len aNil_len)))) e_int) ea_nil))) ea_nil)) (aCons_len (aCons_len aNil_len))))))
    (es_one (es_ret (e_up (e_callTy call_tuple_of pure_tuple rfl c.b_tuple (by decide +kernel) (ea_cons (vf 2) ea_nil)))))))
/-! wrong_place: 0 thing, 1 wrong, 2 number, 3 shown -/
def g_wrong_place : SF := (sSeq (sIf (bOr (bNot (bV (c1 (gIsi "tuple") (vT 0)))) (bV (c2 gNe (cN (on1 hLenA) (aCons (vT 0) aNil)) (kC (.int 2))))) (sRet (cN gTupD aNil)) sNil)
  (sSeq (sAsg (eCallA true F_wrong_in_table (aCons (c2 gIx (vT 0) (kC (.int 0))) aNil)) (gN 1))
  (sSeq (sIf (bV (c2 gNotN (vT 1) (kC .none))) (sRet (cN gTupD (aCons (kC (.int 0)) (aStar (vT 1) aNil)))) sNil)
  (sSeq (sIf (bOr (bNot (bV (c1 (gIsi "tuple") (c2 gIx (vT 0) (kC (.int 1)))))) (bV (c2 gNe (cN (on1 hLenA) (aCons (c2 gIx (vT 0) (kC (.int 1))) aNil)) (cN (on1 hLenA) (aCons (c2 gIx (vT 0) (kC (.int 0))) aNil))))) (sRet (cN gTupD (aCons (kC (.int 1)) aNil))) sNil)
  (sSeq (sFor (lN gEnum (aCons (c2 gIx (vT 0) (kC (.int 1))) aNil)) (gT [(gN 2), (gN 3)]) (sIf (bNot (bV (eCallA true F_is_whole (aCons (vT 3) (aCons (kC (.int 0)) (aCons (kC (.int 9)) aNil)))))) (sRet (cN gTupD (aCons (kC (.int 1)) (aCons (vT 2) aNil)))) sNil))
  (sRet (kC .none)))))))
def F_wrong_place : List Va → M Va := fun ds => noX (runF 4 g_wrong_place ds)
theorem sc_wrong_place : FnScope ["thing", "wrong", "number", "shown"] ["thing"] (defScope s_wrong_place) := ⟨rfl, rfl, rfl, by decide +kernel, rfl, by decide +kernel, by decide +kernel⟩
theorem ok_wrong_place {P : Program} {w : World} {K : PySem.W.Frag} {mg : Str → Option Value} {base : Heap} {f : Addr} {fd : FuncData} (c : Fx K mg) (D : FnP K "wrong_place" s_wrong_place f fd) : FnD P w K mg base CX0 3 f fd ["thing"] F_wrong_place := by
  obtain ⟨fd_wrong_in_table, D_wrong_in_table⟩ := c.d_wrong_in_table
  have O_wrong_in_table := ok_wrong_in_table (P := P) (w := w) (base := base) c D_wrong_in_table
  have B_wrong_in_table : Binds K fd_wrong_in_table ["value"] [] := D_wrong_in_table.bindsN (ps := ["value"]) fun _ _ _ _ _ _ us hl => match us, hl with | [_], _ => rfl
  obtain ⟨fd_is_whole, D_is_whole⟩ := c.d_is_whole
  have O_is_whole := ok_is_whole (P := P) (w := w) (base := base) c D_is_whole
  have B_is_whole : Binds K fd_is_whole ["value", "least", "most"] [] := D_is_whole.bindsN (ps := ["value", "least", "most"]) fun _ _ _ _ _ _ us hl => match us, hl with | [_, _, _], _ => rfl
  refine fnD_ofD (N := ["thing", "wrong", "number", "shown"]) (g := g_wrong_place) D sc_wrong_place fun cdv A outer s H E hg hr => ?_
  unfold g_wrong_place
  exact (es_cons (es_if (eb_w (ew_or (eb_not (eb_val (e_isi (c := "tuple") rfl c.b_isinstance rfl c.b_tuple (by decide +kernel) (by decide) (v 0)))) (ew_or1 (eb_cmp (op_neA (by exact hr.units)) pure_ne (e_callB cr_lenA pure_lenA rfl c.b_len (by decide +kernel) (ea_cons (v 0) ea_nil)) e_int (nomark _))))) (es_one (es_ret (e_tup ea_nil))) es_nil)
    (es_cons (es_set (i := 1) sc_wrong_place.nd rfl (by first | exact Or.inl rfl | exact Or.inr rfl) (e_callA O_wrong_in_table (by exact hg) (hr.mono (by decide)) rfl c.m_wrong_in_table D_wrong_in_table.kp B_wrong_in_table (fun _ _ _ _ _ _ _ h => h.elim) (ea_cons (e_ix (v 0) e_int) ea_nil) (aCons_len aNil_len)))
    (es_cons (es_if (eb_cmp op_notN pure_notN (v 1) e_non (nomark _)) (es_one (es_ret (e_tup (ea_cons e_int (ea_star (v 1) ea_nil))))) es_nil)
    (es_cons (es_if (eb_w (ew_or (eb_not (eb_val (e_isi (c := "tuple") rfl c.b_isinstance rfl c.b_tuple (by decide +kernel) (by decide) (e_ix (v 0) e_int)))) (ew_or1 (eb_cmp (op_neA (by exact hr.units)) pure_ne (e_callB cr_lenA pure_lenA rfl c.b_len (by decide +kernel) (ea_cons (e_ix (v 0) e_int) ea_nil)) (e_callB cr_lenA pure_lenA rfl c.b_len (by decide +kernel) (ea_cons (e_ix (v 0) e_int) ea_nil)) (nomark _))))) (es_one (es_ret (e_tup (ea_cons e_int ea_nil)))) es_nil)
    (es_cons (es_for PassesOwn.never rfl (ei_enum rfl c.b_enumerate (ea_cons (e_ix (v 0) e_int) ea_nil)) (eg_tup rfl (egs_cons (gn 2 sc_wrong_place.nd) (egs_cons (gn 3 sc_wrong_place.nd) egs_nil))) (es_one (es_if (eb_not (eb_val (e_callA O_is_whole (by exact hg) (hr.mono (by decide)) rfl c.m_is_whole D_is_whole.kp B_is_whole (fun _ _ _ _ _ _ _ h => h.elim) (ea_cons (v 3) (ea_cons e_int (ea_cons (e_globI rfl c.k_MOST_SHOWN.choose_spec) ea_nil))) (aCons_len (aCons_len (aCons_len aNil_len)))))) (es_one (es_ret (e_tup (ea_cons e_int (ea_cons (v 2) ea_nil))))) es_nil)))
    (es_one (es_ret e_non)))))))
/-! is_kept_by: 0 machine, 1 parting -/
def g_is_kept_by : SF := (sRet (eCallA true F_led_to (aCons (vT 0) (aCons (vT 1) (aCons (vT 1) aNil)))))
def F_is_kept_by : List Va → M Va := fun ds => noX (runF 2 g_is_kept_by ds)
theorem sc_is_kept_by : FnScope ["machine", "parting"] ["machine", "parting"] (defScope s_is_kept_by) := ⟨rfl, rfl, rfl, by decide +kernel, rfl, by decide +kernel, by decide +kernel⟩
theorem ok_is_kept_by {P : Program} {w : World} {K : PySem.W.Frag} {mg : Str → Option Value} {base : Heap} {f : Addr} {fd : FuncData} (c : Fx K mg) (D : FnP K "is_kept_by" s_is_kept_by f fd) : FnD P w K mg base CX0 3 f fd ["machine", "parting"] F_is_kept_by := by
  obtain ⟨fd_led_to, D_led_to⟩ := c.d_led_to
  have O_led_to := ok_led_to (P := P) (w := w) (base := base) c D_led_to
  have B_led_to : Binds K fd_led_to ["machine", "parting", "other"] [] := D_led_to.bindsN (ps := ["machine", "parting", "other"]) fun _ _ _ _ _ _ us hl => match us, hl with | [_, _, _], _ => rfl
  refine fnD_ofD (N := ["machine", "parting"]) (g := g_is_kept_by) D sc_is_kept_by fun cdv A outer s H E hg hr => ?_
  unfold g_is_kept_by
  exact (es_one (es_ret (e_callA O_led_to (by exact hg) (hr.mono (by decide)) rfl c.m_led_to D_led_to.kp B_led_to (fun _ _ _ _ _ _ _ h => h.elim) (ea_cons (v 0) (ea_cons (v 1) (ea_cons (v 1) ea_nil))) (aCons_len (aCons_len (aCons_len aNil_len))))))
/-! kept_over: 0 machine, 1 parting, 2 found, 3 pairs, 4 block, 5 one, 6 far, 7 standing, 8 letter -/
def g_kept_over : SF := (sSeq (sPar (oE (eCallA true F_single_of (aCons (vT 0) aNil))) (oF (fLst aNil)) 2 3)
  (sSeq (sFor (lSeq (eCallA true F_blocks_of (aCons (vT 1) aNil))) (gN 4) (sExt 3 (lcA (lSeq (eSl gSlA (vT 4) (some (kC (.int 1))) none)) (gN 7) bYes (cN gTupD (aCons (c2 gIx (vT 4) (kC (.int 0))) (aCons (vT 7) aNil))) [7])))
  (sSeq (loopW (bV (c2 gNe (vF 3) (cN gLstD aNil))) (sSeq (sPop 3 (gT [(gN 5), (gN 6)]))
  (sIf (bV (c2 gNe (c2 gIx (vT 2) (vT 5)) (c2 gIx (vT 2) (vT 6)))) (sSeq (sAsg (eCallA true F_merged (aCons (vT 2) (aCons (vT 5) (aCons (vT 6) aNil)))) (gN 2))
  (sExt 3 (lcA (lSeq (eCallA true F_letters_of (aCons (vT 0) aNil))) (gN 8) bYes (cN gTupD (aCons (c2 gIx (c2 gIx (c2 gIx (vT 0) (kC (.int 0))) (vT 5)) (vT 8)) (aCons (c2 gIx (c2 gIx (c2 gIx (vT 0) (kC (.int 0))) (vT 6)) (vT 8)) aNil))) [8]))) sNil)) fuel)
  (sRet (eCallA true F_numbered (aCons (vT 2) aNil))))))
def F_kept_over : List Va → M Va := fun ds => noX (runF 9 g_kept_over ds)
theorem sc_kept_over : FnScope ["machine", "parting", "found", "pairs", "block", "one", "far", "standing", "letter"] ["machine", "parting"] (defScope s_kept_over) := ⟨rfl, rfl, rfl, by decide +kernel, rfl, by decide +kernel, by decide +kernel⟩
theorem ok_kept_over {P : Program} {w : World} {K : PySem.W.Frag} {mg : Str → Option Value} {base : Heap} {f : Addr} {fd : FuncData} (c : Fx K mg) (D : FnP K "kept_over" s_kept_over f fd) : FnD P w K mg base CX0 3 f fd ["machine", "parting"] F_kept_over := by
  obtain ⟨fd_single_of, D_single_of⟩ := c.d_single_of
  have O_single_of := ok_single_of (P := P) (w := w) (base := base) c D_single_of
  have B_single_of : Binds K fd_single_of ["machine"] [] := D_single_of.bindsN (ps := ["machine"]) fun _ _ _ _ _ _ us hl => match us, hl with | [_], _ => rfl
  obtain ⟨fd_blocks_of, D_blocks_of⟩ := c.d_blocks_of
  have O_blocks_of := ok_blocks_of (P := P) (w := w) (base := base) c D_blocks_of
  have B_blocks_of : Binds K fd_blocks_of ["parting"] [] := D_blocks_of.bindsN (ps := ["parting"]) fun _ _ _ _ _ _ us hl => match us, hl with | [_], _ => rfl
  obtain ⟨fd_merged, D_merged⟩ := c.d_merged
  have O_merged := ok_merged (P := P) (w := w) (base := base) c D_merged
  have B_merged : Binds K fd_merged ["parting", "one", "far"] [] := D_merged.bindsN (ps := ["parting", "one", "far"]) fun _ _ _ _ _ _ us hl => match us, hl with | [_, _, _], _ => rfl
  obtain ⟨fd_letters_of, D_letters_of⟩ := c.d_letters_of
  have O_letters_of := ok_letters_of (P := P) (w := w) (base := base) c D_letters_of
  have B_letters_of : Binds K fd_letters_of ["machine"] [] := D_letters_of.bindsN (ps := ["machine"]) fun _ _ _ _ _ _ us hl => match us, hl with | [_], _ => rfl
  obtain ⟨fd_numbered, D_numbered⟩ := c.d_numbered
  have O_numbered := ok_numbered (P := P) (w := w) (base := base) c D_numbered
  have B_numbered : Binds K fd_numbered ["keys"] [] := D_numbered.bindsN (ps := ["keys"]) fun _ _ _ _ _ _ us hl => match us, hl with | [_], _ => rfl
  refine fnD_ofD (N := ["machine", "parting", "found", "pairs", "block", "one", "far", "standing", "letter"]) (g := g_kept_over) D sc_kept_over fun cdv A outer s H E hg hr => ?_
  unfold g_kept_over
  exact (es_cons (es_par (i := 2) (j := 3) rfl sc_kept_over.nd rfl rfl (by decide) rfl rfl (eo_e (e_callA O_single_of (by exact hg) (hr.mono (by decide)) rfl c.m_single_of D_single_of.kp B_single_of (fun _ _ _ _ _ _ _ h => h.elim) (ea_cons (v 0) ea_nil) (aCons_len aNil_len))) (eo_f (ef_lst ea_nil)) (by rfl))
    (es_cons (es_for PassesOwn.never rfl (ei_seq (e_callA O_blocks_of (by exact hg) (hr.mono (by decide)) rfl c.m_blocks_of D_blocks_of.kp B_blocks_of (fun _ _ _ _ _ _ _ h => h.elim) (ea_cons (v 1) ea_nil) (aCons_len aNil_len))) (gn 4 sc_kept_over.nd) (es_one (es_extend (i := 3) rfl (by first | exact Or.inl rfl | exact Or.inr (Or.inl rfl)) (ef_lcA (own := [("standing", 7)]) rfl sc_kept_over.nd (ei_seq (e_sl sl_any pure_slA (v 4) (ep_some e_int) ep_none)) (blkOk_by (by rfl)) (by decide) (fun _ _ _ _ _ => (gn 7 sc_kept_over.nd)) (fun _ _ _ _ _ => ebs_nil) (fun _ _ _ _ _ => (e_tup (ea_cons (e_ix (v 4) e_int) (ea_cons (v 7) ea_nil))))))))
    (es_cons (es_while PassesOwn.never (eb_cmp (op_neA (by exact hr.units)) pure_ne (vf 3) (e_lst ea_nil) (nomark _)) (es_cons (es_pop (i := 3) rfl (by first | exact Or.inl rfl | exact Or.inr (Or.inl rfl)) (eg_tup rfl (egs_cons (gn 5 sc_kept_over.nd) (egs_cons (gn 6 sc_kept_over.nd) egs_nil))))
    (es_one (es_if (eb_cmp (op_neA (by exact hr.units)) pure_ne (e_ix (v 2) (v 5)) (e_ix (v 2) (v 6)) (nomark _)) (es_cons (es_set (i := 2) sc_kept_over.nd rfl (by first | exact Or.inl rfl | exact Or.inr rfl) (e_callA O_merged (by exact hg) (hr.mono (by decide)) rfl c.m_merged D_merged.kp B_merged (fun _ _ _ _ _ _ _ h => h.elim) (ea_cons (v 2) (ea_cons (v 5) (ea_cons (v 6) ea_nil))) (aCons_len (aCons_len (aCons_len aNil_len)))))
    (es_one (es_extend (i := 3) rfl (by first | exact Or.inl rfl | exact Or.inr (Or.inl rfl)) (ef_lcA (own := [("letter", 8)]) rfl sc_kept_over.nd (ei_seq (e_callA O_letters_of (by exact hg) (hr.mono (by decide)) rfl c.m_letters_of D_letters_of.kp B_letters_of (fun _ _ _ _ _ _ _ h => h.elim) (ea_cons (v 0) ea_nil) (aCons_len aNil_len))) (blkOk_by (by rfl)) (by decide) (fun _ _ _ _ _ => (gn 8 sc_kept_over.nd)) (fun _ _ _ _ _ => ebs_nil) (fun _ _ _ _ _ => (e_tup (ea_cons (e_ix (e_ix (e_ix (v 0) e_int) (v 5)) (v 8)) (ea_cons (e_ix (e_ix (e_ix (v 0) e_int) (v 6)) (v 8)) ea_nil)))))))) es_nil))))
    (es_one (es_ret (e_callA O_numbered (by exact hg) (hr.mono (by decide)) rfl c.m_numbered D_numbered.kp B_numbered (fun _ _ _ _ _ _ _ h => h.elim) (ea_cons (v 2) ea_nil) (aCons_len aNil_len)))))))
/-! _law_frame: 0 m, 1 most, 2 wide, 3 many, 4 letters, 5 rows, 6 turn, 7 kind, 8 step, 9 half, 10 k, 11 goal, 12 row -/
def g__law_frame : SF := (sSeq (sPar (oE (c2 gAdd (kC (.int 1)) (eCall F__law_draw (aCons (vT 0) (aCons (vT 1) aNil))))) (oE (c2 gAdd (kC (.int 1)) (eCall F__law_draw (aCons (vT 0) (aCons (vT 2) aNil))))) 3 4)
  (sSeq (sRows (lN gRng1 (aCons (vT 3) aNil)) (gN 10) (fLst aNil) [10] 5)
  (sSeq (sFor (lN gRng1 (aCons (vT 4) aNil)) (gN 6) (sSeq (sPar (oE (eCall F__law_draw (aCons (vT 0) (aCons (kC (.int 5)) aNil)))) (oE (c2 gAdd (kC (.int 1)) (eCall F__law_draw (aCons (vT 0) (aCons (cN (on2 gMax2) (aCons (c2 gSub (vT 3) (kC (.int 1))) (aCons (kC (.int 1)) aNil))) aNil))))) 7 8)
  (sSeq (sAsg (c2 gAdd (kC (.int 1)) (eCall F__law_draw (aCons (vT 0) (aCons (vT 3) aNil)))) (gN 9))
  (sFor (lN gRng1 (aCons (vT 3) aNil)) (gN 10) (sSeq (sAsg (eCall F__law_draw (aCons (vT 0) (aCons (vT 3) aNil))) (gN 11))
  (sSeq (sIf (bV (c2 gLt (vT 7) (kC (.int 2)))) (sAsg (c2 gMod (cN (on1 hInt) (aCons (c2 gAdd (vT 10) (vT 8)) aNil)) (vT 3)) (gN 11)) sNil)
  (sSeq (sIf (bV (c2 gEq (vT 7) (kC (.int 2)))) (sAsg (c2 gAdd (c2 gMul (cN (on1 hInt) (aCons (c2 gDiv (vT 10) (vT 9)) aNil)) (vT 9)) (c2 gMod (cN (on1 hInt) (aCons (c2 gAdd (vT 10) (kC (.int 1))) aNil)) (vT 9))) (gN 11)) sNil)
  (sSeq (sIf (bV (c2 gEq (vT 7) (kC (.int 3)))) (sAsg (c2 gMod (cN (on1 hInt) (aCons (vT 10) aNil)) (vT 9)) (gN 11)) sNil)
  (sAppR 5 (vT 10) (cN (on2 gMin2) (aCons (vT 11) (aCons (c2 gSub (vT 3) (kC (.int 1))) aNil))))))))))))
  (sRet (cN gTupD (aCons (c1 immV (cN (on1 hTup) (aCons (lcC (lSeq (vF 5)) (gN 12) bYes (cN (on1 hTup) (aCons (vT 12) aNil)) [12]) aNil))) (aCons (cN (on1 hTup) (aCons (fD (lcA (lN gRng1 (aCons (vT 3) aNil)) (gN 10) bYes (eCall F__law_of (aCons (vT 0) (aCons (cN gLstD (aCons (kC (.int 0)) (aCons (kC (.int 0)) (aCons (kC (.int 1)) (aCons (kC (.int 2)) aNil))))) aNil))) [10])) aNil)) aNil)))))))
def F__law_frame : List Va → M Va := fun ds => noX (runF 13 g__law_frame ds)
theorem sc__law_frame : FnScope ["m", "most", "wide", "many", "letters", "rows", "turn", "kind", "step", "half", "k", "goal", "row"] ["m", "most", "wide"] (defScope s__law_frame) := ⟨rfl, rfl, rfl, by decide +kernel, rfl, by decide +kernel, by decide +kernel⟩
theorem ok__law_frame {P : Program} {w : World} {K : PySem.W.Frag} {mg : Str → Option Value} {base : Heap} {f : Addr} {fd : FuncData} (c : Fx K mg) (D : FnP K "_law_frame" s__law_frame f fd) : FnD P w K mg base CX0 3 f fd ["m", "most", "wide"] F__law_frame := by
  obtain ⟨fd__law_draw, D__law_draw⟩ := c.d__law_draw
  have O__law_draw := ok__law_draw (P := P) (w := w) (base := base) c D__law_draw
  have B__law_draw : Binds K fd__law_draw ["m", "many"] [] := D__law_draw.bindsN (ps := ["m", "many"]) fun _ _ _ _ _ _ us hl => match us, hl with | [_, _], _ => rfl
  obtain ⟨fd__law_of, D__law_of⟩ := c.d__law_of
  have O__law_of := ok__law_of (P := P) (w := w) (base := base) c D__law_of
  have B__law_of : Binds K fd__law_of ["m", "some"] [] := D__law_of.bindsN (ps := ["m", "some"]) fun _ _ _ _ _ _ us hl => match us, hl with | [_, _], _ => rfl
  refine fnD_ofD (N := ["m", "most", "wide", "many", "letters", "rows", "turn", "kind", "step", "half", "k", "goal", "row"]) (g := g__law_frame) D sc__law_frame fun cdv A outer s H E hg hr => ?_
  unfold g__law_frame
  exact (es_cons (es_par (i := 3) (j := 4) rfl sc__law_frame.nd rfl rfl (by decide) rfl rfl (eo_e (e_op op_addA pure_add e_int (e_call O__law_draw (by exact hg) (hr.mono (by decide)) rfl c.m__law_draw D__law_draw.kp B__law_draw (fun _ _ _ _ _ _ _ h => h.elim) (ea_cons (v 0) (ea_cons (v 1) ea_nil)) (aCons_len (aCons_len aNil_len))))) (eo_e (e_op op_addA pure_add e_int (e_call O__law_draw (by exact hg) (hr.mono (by decide)) rfl c.m__law_draw D__law_draw.kp B__law_draw (fun _ _ _ _ _ _ _ h => h.elim) (ea_cons (v 0) (ea_cons (v 2) ea_nil)) (aCons_len (aCons_len aNil_len))))) (by rfl))
    (es_cons (es_rows (own := [("k", 10)]) (i := 5) rfl sc__law_frame.nd rfl rfl (sw_true rfl rfl rfl rfl) (ei_range1 rfl c.b_range (ea_cons (v 3) ea_nil)) (blkOk_by (by rfl)) (by decide) (fun _ _ _ _ _ => (gn 10 sc__law_frame.nd)) (fun _ _ _ _ _ => (ef_lst ea_nil)))
    (es_cons (es_for PassesOwn.never rfl (ei_range1 rfl c.b_range (ea_cons (v 4) ea_nil)) (gn 6 sc__law_frame.nd) (es_cons (es_par (i := 7) (j := 8) rfl sc__law_frame.nd rfl rfl (by decide) rfl rfl (eo_e (e_call O__law_draw (by exact hg) (hr.mono (by decide)) rfl c.m__law_draw D__law_draw.kp B__law_draw (fun _ _ _ _ _ _ _ h => h.elim) (ea_cons (v 0) (ea_cons e_int ea_nil)) (aCons_len (aCons_len aNil_len)))) (eo_e (e_op op_addA pure_add e_int (e_call O__law_draw (by exact hg) (hr.mono (by decide)) rfl c.m__law_draw D__law_draw.kp B__law_draw (fun _ _ _ _ _ _ _ h => h.elim) (ea_cons (v 0) (ea_cons (e_callB (call_max2 rfl) pure_max2 rfl c.b_max (by decide +kernel) (ea_cons (e_op op_sub pure_sub (v 3) e_int) (ea_cons e_int ea_nil))) ea_nil)) (aCons_len (aCons_len aNil_len))))) (by rfl))
    (es_cons (es_set (i := 9) sc__law_frame.nd rfl (by first | exact Or.inl rfl | exact Or.inr rfl) (e_op op_addA pure_add e_int (e_call O__law_draw (by exact hg) (hr.mono (by decide)) rfl c.m__law_draw D__law_draw.kp B__law_draw (fun _ _ _ _ _ _ _ h => h.elim) (ea_cons (v 0) (ea_cons (v 3) ea_nil)) (aCons_len (aCons_len aNil_len)))))
    (es_one (es_for PassesOwn.never rfl (ei_range1 rfl c.b_range (ea_cons (v 3) ea_nil)) (gn 10 sc__law_frame.nd) (es_cons (es_set (i := 11) sc__law_frame.nd rfl (by first | exact Or.inl rfl | exact Or.inr rfl) (e_call O__law_draw (by exact hg) (hr.mono (by decide)) rfl c.m__law_draw D__law_draw.kp B__law_draw (fun _ _ _ _ _ _ _ h => h.elim) (ea_cons (v 0) (ea_cons (v 3) ea_nil)) (aCons_len (aCons_len aNil_len))))
    (es_cons (es_if (eb_cmp op_lt pure_lt (v 7) e_int (nomark _)) (es_one (es_set (i := 11) sc__law_frame.nd rfl (by first | exact Or.inl rfl | exact Or.inr rfl) (e_op op_mod pure_mod (e_callTy call_int1 pure_int rfl c.b_int (by decide +kernel) (ea_cons (e_op op_addA pure_add (v 10) (v 8)) ea_nil)) (v 3)))) es_nil)
    (es_cons (es_if (eb_cmp (op_eqA (by exact hr.units)) pure_eq (v 7) e_int (nomark _)) (es_one (es_set (i := 11) sc__law_frame.nd rfl (by first | exact Or.inl rfl | exact Or.inr rfl) (e_op op_addA pure_add (e_op op_mulA pure_mulA (e_callTy call_int1 pure_int rfl c.b_int (by decide +kernel) (ea_cons (e_op op_fdiv pure_div (v 10) (v 9)) ea_nil)) (v 9)) (e_op op_mod pure_mod (e_callTy call_int1 pure_int rfl c.b_int (by decide +kernel) (ea_cons (e_op op_addA pure_add (v 10) e_int) ea_nil)) (v 9))))) es_nil)
    (es_cons (es_if (eb_cmp (op_eqA (by exact hr.units)) pure_eq (v 7) e_int (nomark _)) (es_one (es_set (i := 11) sc__law_frame.nd rfl (by first | exact Or.inl rfl | exact Or.inr rfl) (e_op op_mod pure_mod (e_callTy call_int1 pure_int rfl c.b_int (by decide +kernel) (ea_cons (v 10) ea_nil)) (v 9)))) es_nil)
    (es_one (es_appendR (i := 5) rfl (by first | exact Or.inl rfl | exact Or.inr (Or.inl rfl)) (v 10) (e_callB (call_min2 rfl) pure_min2 rfl c.b_min (by decide +kernel) (ea_cons (v 11) (ea_cons (e_op op_sub pure_sub (v 3) e_int) ea_nil))) (by intro _ _; rfl))))))))))))
    (es_one (es_ret (e_tup (ea_cons (e_up (e_callTy call_tuple_of pure_tuple rfl c.b_tuple (by decide +kernel) (ea_cons (e_lcC (own := [("row", 12)]) rfl sc__law_frame.nd (ei_seq (vf 5)) (blkOk_by (by rfl)) (by decide) (fun _ _ _ _ _ => (gn 12 sc__law_frame.nd)) (fun _ _ _ _ _ => ebs_nil) (fun _ _ _ _ _ => (e_callTy call_tuple_of pure_tuple rfl c.b_tuple (by decide +kernel) (ea_cons (v 12) ea_nil)))) ea_nil))) (ea_cons (e_callTy call_tuple_of pure_tuple rfl c.b_tuple (by decide +kernel) (ea_cons (e_fresh (ef_lcA (own := [("k", 10)]) rfl sc__law_frame.nd (ei_range1 rfl c.b_range (ea_cons (v 3) ea_nil)) (blkOk_by (by rfl)) (by decide) (fun _ _ _ _ _ => (gn 10 sc__law_frame.nd)) (fun _ _ _ _ _ => ebs_nil) (fun _ _ _ _ _ => (e_call O__law_of (by exact hg) (hr.mono (by decide)) rfl c.m__law_of D__law_of.kp B__law_of (fun _ _ _ _ _ _ _ h => h.elim) (ea_cons (v 0) (ea_cons (e_lst (ea_cons e_int (ea_cons e_int (ea_cons e_int (ea_cons e_int ea_nil))))) ea_nil)) (aCons_len (aCons_len aNil_len)))))) ea_nil)) ea_nil))))))))
/-! need_machine: 0 thing, 1 place -/
def g_need_machine : SF := (sSeq (sAsg (eCallA true F_wrong_place (aCons (vT 0) aNil)) (gN 1))
  (sSeq (sIf (bV (c2 gNotN (vT 1) (kC .none))) sNo sNil)
  (sRet (vT 0))))
def F_need_machine : List Va → M Va := fun ds => noX (runF 2 g_need_machine ds)
theorem sc_need_machine : FnScope ["thing", "place"] ["thing"] (defScope s_need_machine) := ⟨rfl, rfl, rfl, by decide +kernel, rfl, by decide +kernel, by decide +kernel⟩
theorem ok_need_machine {P : Program} {w : World} {K : PySem.W.Frag} {mg : Str → Option Value} {base : Heap} {f : Addr} {fd : FuncData} (c : Fx K mg) (D : FnP K "need_machine" s_need_machine f fd) : FnD P w K mg base CX0 4 f fd ["thing"] F_need_machine := by
  obtain ⟨fd_wrong_place, D_wrong_place⟩ := c.d_wrong_place
  have O_wrong_place := ok_wrong_place (P := P) (w := w) (base := base) c D_wrong_place
  have B_wrong_place : Binds K fd_wrong_place ["thing"] [] := D_wrong_place.bindsN (ps := ["thing"]) fun _ _ _ _ _ _ us hl => match us, hl with | [_], _ => rfl
  refine fnD_ofD (N := ["thing", "place"]) (g := g_need_machine) D sc_need_machine fun cdv A outer s H E hg hr => ?_
  unfold g_need_machine
  exact (es_cons (es_set (i := 1) sc_need_machine.nd rfl (by first | exact Or.inl rfl | exact Or.inr rfl) (e_callA O_wrong_place (by exact hg) (hr.mono (by decide)) rfl c.m_wrong_place D_wrong_place.kp B_wrong_place (fun _ _ _ _ _ _ _ h => h.elim) (ea_cons (v 0) ea_nil) (aCons_len aNil_len)))
    (es_cons (es_if (eb_cmp op_notN pure_notN (v 1) e_non (nomark _)) (es_one es_no) es_nil)
    (es_one (es_ret (v 0)))))
/-! drawn_in: 0 machine, 1 one, 2 far -/
def g_drawn_in : SF := (sRet (eCallA true F_kept_over (aCons (vT 0) (aCons (eCallA true F_numbered (aCons (eCallA true F_merged (aCons (eCallA true F_single_of (aCons (vT 0) aNil)) (aCons (vT 1) (aCons (vT 2) aNil)))) aNil)) aNil))))
def F_drawn_in : List Va → M Va := fun ds => noX (runF 3 g_drawn_in ds)
theorem sc_drawn_in : FnScope ["machine", "one", "far"] ["machine", "one", "far"] (defScope s_drawn_in) := ⟨rfl, rfl, rfl, by decide +kernel, rfl, by decide +kernel, by decide +kernel⟩
theorem ok_drawn_in {P : Program} {w : World} {K : PySem.W.Frag} {mg : Str → Option Value} {base : Heap} {f : Addr} {fd : FuncData} (c : Fx K mg) (D : FnP K "drawn_in" s_drawn_in f fd) : FnD P w K mg base CX0 4 f fd ["machine", "one", "far"] F_drawn_in := by
  obtain ⟨fd_kept_over, D_kept_over⟩ := c.d_kept_over
  have O_kept_over := ok_kept_over (P := P) (w := w) (base := base) c D_kept_over
  have B_kept_over : Binds K fd_kept_over ["machine", "parting"] [] := D_kept_over.bindsN (ps := ["machine", "parting"]) fun _ _ _ _ _ _ us hl => match us, hl with | [_, _], _ => rfl
  obtain ⟨fd_numbered, D_numbered⟩ := c.d_numbered
  have O_numbered := ok_numbered (P := P) (w := w) (base := base) c D_numbered
  have B_numbered : Binds K fd_numbered ["keys"] [] := D_numbered.bindsN (ps := ["keys"]) fun _ _ _ _ _ _ us hl => match us, hl with | [_], _ => rfl
  obtain ⟨fd_merged, D_merged⟩ := c.d_merged
  have O_merged := ok_merged (P := P) (w := w) (base := base) c D_merged
  have B_merged : Binds K fd_merged ["parting", "one", "far"] [] := D_merged.bindsN (ps := ["parting", "one", "far"]) fun _ _ _ _ _ _ us hl => match us, hl with | [_, _, _], _ => rfl
  obtain ⟨fd_single_of, D_single_of⟩ := c.d_single_of
  have O_single_of := ok_single_of (P := P) (w := w) (base := base) c D_single_of
  have B_single_of : Binds K fd_single_of ["machine"] [] := D_single_of.bindsN (ps := ["machine"]) fun _ _ _ _ _ _ us hl => match us, hl with | [_], _ => rfl
  refine fnD_ofD (N := ["machine", "one", "far"]) (g := g_drawn_in) D sc_drawn_in fun cdv A outer s H E hg hr => ?_
  unfold g_drawn_in
  exact (es_one (es_ret (e_callA O_kept_over (by exact hg) (hr.mono (by decide)) rfl c.m_kept_over D_kept_over.kp B_kept_over (fun _ _ _ _ _ _ _ h => h.elim) (ea_cons (v 0) (ea_cons (e_callA O_numbered (by exact hg) (hr.mono (by decide)) rfl c.m_numbered D_numbered.kp B_numbered (fun _ _ _ _ _ _ _ h => h.elim) (ea_cons (e_callA O_merged (by exact hg) (hr.mono (by decide)) rfl c.m_merged D_merged.kp B_merged (fun _ _ _ _ _ _ _ h => h.elim) (ea_cons (e_callA O_single_of (by exact hg) (hr.mono (by decide)) rfl c.m_single_of D_single_of.kp B_single_of (fun _ _ _ _ _ _ _ h => h.elim) (ea_cons (v 0) ea_nil) (aCons_len aNil_len)) (ea_cons (v 1) (ea_cons (v 2) ea_nil))) (aCons_len (aCons_len (aCons_len aNil_len)))) ea_nil) (aCons_len aNil_len)) ea_nil)) (aCons_len (aCons_len aNil_len)))))
/-! need_parting: 0 machine, 1 parting -/
def g_need_parting : SF := (sSeq (sExpr (eCallA true F_need_machine (aCons (vT 0) aNil)))
  (sSeq (sIf (bNot (bV (eCallA true F_is_parting_of (aCons (vT 0) (aCons (vT 1) aNil))))) sNo sNil)
  (sRet (vT 1))))
def F_need_parting : List Va → M Va := fun ds => noX (runF 2 g_need_parting ds)
theorem sc_need_parting : FnScope ["machine", "parting"] ["machine", "parting"] (defScope s_need_parting) := ⟨rfl, rfl, rfl, by decide +kernel, rfl, by decide +kernel, by decide +kernel⟩
theorem ok_need_parting {P : Program} {w : World} {K : PySem.W.Frag} {mg : Str → Option Value} {base : Heap} {f : Addr} {fd : FuncData} (c : Fx K mg) (D : FnP K "need_parting" s_need_parting f fd) : FnD P w K mg base CX0 5 f fd ["machine", "parting"] F_need_parting := by
  obtain ⟨fd_need_machine, D_need_machine⟩ := c.d_need_machine
  have O_need_machine := ok_need_machine (P := P) (w := w) (base := base) c D_need_machine
  have B_need_machine : Binds K fd_need_machine ["thing"] [] := D_need_machine.bindsN (ps := ["thing"]) fun _ _ _ _ _ _ us hl => match us, hl with | [_], _ => rfl
  obtain ⟨fd_is_parting_of, D_is_parting_of⟩ := c.d_is_parting_of
  have O_is_parting_of := ok_is_parting_of (P := P) (w := w) (base := base) c D_is_parting_of
  have B_is_parting_of : Binds K fd_is_parting_of ["machine", "value"] [] := D_is_parting_of.bindsN (ps := ["machine", "value"]) fun _ _ _ _ _ _ us hl => match us, hl with | [_, _], _ => rfl
  refine fnD_ofD (N := ["machine", "parting"]) (g := g_need_parting) D sc_need_parting fun cdv A outer s H E hg hr => ?_
  unfold g_need_parting
  exact (es_cons (es_expr (e_callA O_need_machine (by exact hg) (hr.mono (by decide)) rfl c.m_need_machine D_need_machine.kp B_need_machine (fun _ _ _ _ _ _ _ h => h.elim) (ea_cons (v 0) ea_nil) (aCons_len aNil_len)))
    (es_cons (es_if (eb_not (eb_val (e_callA O_is_parting_of (by exact hg) (hr.mono (by decide)) rfl c.m_is_parting_of D_is_parting_of.kp B_is_parting_of (fun _ _ _ _ _ _ _ h => h.elim) (ea_cons (v 0) (ea_cons (v 1) ea_nil)) (aCons_len (aCons_len aNil_len))))) (es_one es_no) es_nil)
    (es_one (es_ret (v 1)))))
/-! drawn: 0 machine, 1 one, 2 far -/
def g_drawn : SF := (sSeq (sExpr (eCallA true F_need_machine (aCons (vT 0) aNil)))
  (sSeq (sExpr (eCallA true F_need_standing (aCons (vT 0) (aCons (vT 1) aNil))))
  (sSeq (sExpr (eCallA true F_need_standing (aCons (vT 0) (aCons (vT 2) aNil))))
  (sRet (eCallA true F_drawn_in (aCons (vT 0) (aCons (vT 1) (aCons (vT 2) aNil))))))))
def F_drawn : List Va → M Va := fun ds => noX (runF 3 g_drawn ds)
theorem sc_drawn : FnScope ["machine", "one", "far"] ["machine", "one", "far"] (defScope s_drawn) := ⟨rfl, rfl, rfl, by decide +kernel, rfl, by decide +kernel, by decide +kernel⟩
theorem ok_drawn {P : Program} {w : World} {K : PySem.W.Frag} {mg : Str → Option Value} {base : Heap} {f : Addr} {fd : FuncData} (c : Fx K mg) (D : FnP K "drawn" s_drawn f fd) : FnD P w K mg base CX0 5 f fd ["machine", "one", "far"] F_drawn := by
  obtain ⟨fd_need_machine, D_need_machine⟩ := c.d_need_machine
  have O_need_machine := ok_need_machine (P := P) (w := w) (base := base) c D_need_machine
  have B_need_machine : Binds K fd_need_machine ["thing"] [] := D_need_machine.bindsN (ps := ["thing"]) fun _ _ _ _ _ _ us hl => match us, hl with | [_], _ => rfl
  obtain ⟨fd_need_standing, D_need_standing⟩ := c.d_need_standing
  have O_need_standing := ok_need_standing (P := P) (w := w) (base := base) c D_need_standing
  have B_need_standing : Binds K fd_need_standing ["machine", "standing"] [] := D_need_standing.bindsN (ps := ["machine", "standing"]) fun _ _ _ _ _ _ us hl => match us, hl with | [_, _], _ => rfl
  obtain ⟨fd_drawn_in, D_drawn_in⟩ := c.d_drawn_in
  have O_drawn_in := ok_drawn_in (P := P) (w := w) (base := base) c D_drawn_in
  have B_drawn_in : Binds K fd_drawn_in ["machine", "one", "far"] [] := D_drawn_in.bindsN (ps := ["machine", "one", "far"]) fun _ _ _ _ _ _ us hl => match us, hl with | [_, _, _], _ => rfl
  refine fnD_ofD (N := ["machine", "one", "far"]) (g := g_drawn) D sc_drawn fun cdv A outer s H E hg hr => ?_
  unfold g_drawn
  exact (es_cons (es_expr (e_callA O_need_machine (by exact hg) (hr.mono (by decide)) rfl c.m_need_machine D_need_machine.kp B_need_machine (fun _ _ _ _ _ _ _ h => h.elim) (ea_cons (v 0) ea_nil) (aCons_len aNil_len)))
    (es_cons (es_expr (e_callA O_need_standing (by exact hg) (hr.mono (by decide)) rfl c.m_need_standing D_need_standing.kp B_need_standing (fun _ _ _ _ _ _ _ h => h.elim) (ea_cons (v 0) (ea_cons (v 1) ea_nil)) (aCons_len (aCons_len aNil_len))))
    (es_cons (es_expr (e_callA O_need_standing (by exact hg) (hr.mono (by decide)) rfl c.m_need_standing D_need_standing.kp B_need_standing (fun _ _ _ _ _ _ _ h => h.elim) (ea_cons (v 0) (ea_cons (v 2) ea_nil)) (aCons_len (aCons_len aNil_len))))
    (es_one (es_ret (e_callA O_drawn_in (by exact hg) (hr.mono (by decide)) rfl c.m_drawn_in D_drawn_in.kp B_drawn_in (fun _ _ _ _ _ _ _ h => h.elim) (ea_cons (v 0) (ea_cons (v 1) (ea_cons (v 2) ea_nil))) (aCons_len (aCons_len (aCons_len aNil_len)))))))))
/-! kept_in: 0 machine, 1 found, 2 one, 3 far, 4 fresh, 5 parting -/
def g_kept_in : SF := (sSeq (sSetO (oDispT (eCallA true F_single_of (aCons (vT 0) aNil)) (kC (.bool true))) 1)
  (sSeq (sFor (lSeq (eCallA true F_pairs_in (aCons (vT 0) aNil))) (gT [(gN 2), (gN 3)]) (sSeq (sAsg (eCallA true F_drawn_in (aCons (vT 0) (aCons (vT 2) (aCons (vT 3) aNil)))) (gN 4))
  (sIf (bV (c2 (gInM true) (vF 4) (vF 1))) (sUpd 1 (dcA (lSeq (fD (fKeys 1))) (gN 5) bYes (eCallA true F_joined (aCons (vT 5) (aCons (vT 4) aNil))) (kC (.bool true)) [5])) sNil)))
  (sRet (cN (on1 hSortA) (aCons (fD (fKeys 1)) aNil)))))
def F_kept_in : List Va → M Va := fun ds => noX (runF 6 g_kept_in ds)
theorem sc_kept_in : FnScope ["machine", "found", "one", "far", "fresh", "parting"] ["machine"] (defScope s_kept_in) := ⟨rfl, rfl, rfl, by decide +kernel, rfl, by decide +kernel, by decide +kernel⟩
theorem ok_kept_in {P : Program} {w : World} {K : PySem.W.Frag} {mg : Str → Option Value} {base : Heap} {f : Addr} {fd : FuncData} (c : Fx K mg) (D : FnP K "kept_in" s_kept_in f fd) : FnD P w K mg base CX0 5 f fd ["machine"] F_kept_in := by
  obtain ⟨fd_single_of, D_single_of⟩ := c.d_single_of
  have O_single_of := ok_single_of (P := P) (w := w) (base := base) c D_single_of
  have B_single_of : Binds K fd_single_of ["machine"] [] := D_single_of.bindsN (ps := ["machine"]) fun _ _ _ _ _ _ us hl => match us, hl with | [_], _ => rfl
  obtain ⟨fd_pairs_in, D_pairs_in⟩ := c.d_pairs_in
  have O_pairs_in := ok_pairs_in (P := P) (w := w) (base := base) c D_pairs_in
  have B_pairs_in : Binds K fd_pairs_in ["machine"] [] := D_pairs_in.bindsN (ps := ["machine"]) fun _ _ _ _ _ _ us hl => match us, hl with | [_], _ => rfl
  obtain ⟨fd_drawn_in, D_drawn_in⟩ := c.d_drawn_in
  have O_drawn_in := ok_drawn_in (P := P) (w := w) (base := base) c D_drawn_in
  have B_drawn_in : Binds K fd_drawn_in ["machine", "one", "far"] [] := D_drawn_in.bindsN (ps := ["machine", "one", "far"]) fun _ _ _ _ _ _ us hl => match us, hl with | [_, _, _], _ => rfl
  obtain ⟨fd_joined, D_joined⟩ := c.d_joined
  have O_joined := ok_joined (P := P) (w := w) (base := base) c D_joined
  have B_joined : Binds K fd_joined ["parting", "other"] [] := D_joined.bindsN (ps := ["parting", "other"]) fun _ _ _ _ _ _ us hl => match us, hl with | [_, _], _ => rfl
  refine fnD_ofD (N := ["machine", "found", "one", "far", "fresh", "parting"]) (g := g_kept_in) D sc_kept_in fun cdv A outer s H E hg hr => ?_
  unfold g_kept_in
  exact (es_cons (es_setO (i := 1) sc_kept_in.nd rfl (by first | exact Or.inl rfl | exact Or.inr rfl) (eo_dispT (Nat.lt_of_succ_lt (by exact hu_of hr)) (e_callA O_single_of (by exact hg) (hr.mono (by decide)) rfl c.m_single_of D_single_of.kp B_single_of (fun _ _ _ _ _ _ _ h => h.elim) (ea_cons (v 0) ea_nil) (aCons_len aNil_len)) e_bl))
    (es_cons (es_for PassesOwn.never rfl (ei_seq (e_callA O_pairs_in (by exact hg) (hr.mono (by decide)) rfl c.m_pairs_in D_pairs_in.kp B_pairs_in (fun _ _ _ _ _ _ _ h => h.elim) (ea_cons (v 0) ea_nil) (aCons_len aNil_len))) (eg_tup rfl (egs_cons (gn 2 sc_kept_in.nd) (egs_cons (gn 3 sc_kept_in.nd) egs_nil))) (es_cons (es_set (i := 4) sc_kept_in.nd rfl (by first | exact Or.inl rfl | exact Or.inr rfl) (e_callA O_drawn_in (by exact hg) (hr.mono (by decide)) rfl c.m_drawn_in D_drawn_in.kp B_drawn_in (fun _ _ _ _ _ _ _ h => h.elim) (ea_cons (v 0) (ea_cons (v 2) (ea_cons (v 3) ea_nil))) (aCons_len (aCons_len (aCons_len aNil_len)))))
    (es_one (es_if (eb_cmp (op_notInM (by exact hu_of hr)) pure_inM (vf 4) (vf 1) (by with_unfolding_all rfl)) (es_one (es_update (by exact hu_of hr) (i := 1) rfl (by first | exact Or.inl rfl | exact Or.inr (Or.inl rfl)) (et_dcA (own := [("parting", 5)]) (Nat.lt_of_succ_lt (by exact hu_of hr)) rfl sc_kept_in.nd (ei_seq (e_fresh (ef_listD (i := 1) rfl rfl c.b_list rfl (by first | exact Or.inl rfl | exact Or.inr (Or.inl rfl))))) (blkOk_by (by rfl)) (by decide) (fun _ _ _ _ _ => (gn 5 sc_kept_in.nd)) (fun _ _ _ _ _ => ebs_nil) (fun _ _ _ _ _ => (e_callA O_joined (by exact hg) (hr.mono (by decide)) rfl c.m_joined D_joined.kp B_joined (fun _ _ _ _ _ _ _ h => h.elim) (ea_cons (v 5) (ea_cons (v 4) ea_nil)) (aCons_len (aCons_len aNil_len)))) (fun _ _ _ _ _ => e_bl)))) es_nil))))
    (es_one (es_ret (e_callB cr_sortA pure_sortA rfl c.b_sorted (by decide +kernel) (ea_cons (e_fresh (ef_listD (i := 1) rfl rfl c.b_list rfl (by first | exact Or.inl rfl | exact Or.inr (Or.inl rfl)))) ea_nil))))))
/-! is_kept: 0 machine, 1 parting -/
def g_is_kept : SF := (sRet (eCallA true F_is_kept_by (aCons (vT 0) (aCons (eCallA true F_need_parting (aCons (vT 0) (aCons (vT 1) aNil))) aNil))))
def F_is_kept : List Va → M Va := fun ds => noX (runF 2 g_is_kept ds)
theorem sc_is_kept : FnScope ["machine", "parting"] ["machine", "parting"] (defScope s_is_kept) := ⟨rfl, rfl, rfl, by decide +kernel, rfl, by decide +kernel, by decide +kernel⟩
theorem ok_is_kept {P : Program} {w : World} {K : PySem.W.Frag} {mg : Str → Option Value} {base : Heap} {f : Addr} {fd : FuncData} (c : Fx K mg) (D : FnP K "is_kept" s_is_kept f fd) : FnD P w K mg base CX0 6 f fd ["machine", "parting"] F_is_kept := by
  obtain ⟨fd_is_kept_by, D_is_kept_by⟩ := c.d_is_kept_by
  have O_is_kept_by := ok_is_kept_by (P := P) (w := w) (base := base) c D_is_kept_by
  have B_is_kept_by : Binds K fd_is_kept_by ["machine", "parting"] [] := D_is_kept_by.bindsN (ps := ["machine", "parting"]) fun _ _ _ _ _ _ us hl => match us, hl with | [_, _], _ => rfl
  obtain ⟨fd_need_parting, D_need_parting⟩ := c.d_need_parting
  have O_need_parting := ok_need_parting (P := P) (w := w) (base := base) c D_need_parting
  have B_need_parting : Binds K fd_need_parting ["machine", "parting"] [] := D_need_parting.bindsN (ps := ["machine", "parting"]) fun _ _ _ _ _ _ us hl => match us, hl with | [_, _], _ => rfl
  refine fnD_ofD (N := ["machine", "parting"]) (g := g_is_kept) D sc_is_kept fun cdv A outer s H E hg hr => ?_
  unfold g_is_kept
  exact (es_one (es_ret (e_callA O_is_kept_by (by exact hg) (hr.mono (by decide)) rfl c.m_is_kept_by D_is_kept_by.kp B_is_kept_by (fun _ _ _ _ _ _ _ h => h.elim) (ea_cons (v 0) (ea_cons (e_callA O_need_parting (by exact hg) (hr.mono (by decide)) rfl c.m_need_parting D_need_parting.kp B_need_parting (fun _ _ _ _ _ _ _ h => h.elim) (ea_cons (v 0) (ea_cons (v 1) ea_nil)) (aCons_len (aCons_len aNil_len))) ea_nil)) (aCons_len (aCons_len aNil_len)))))
/-! least_kept: 0 machine, 1 parting -/
def g_least_kept : SF := (sRet (eCallA true F_kept_over (aCons (vT 0) (aCons (eCallA true F_need_parting (aCons (vT 0) (aCons (vT 1) aNil))) aNil))))
def F_least_kept : List Va → M Va := fun ds => noX (runF 2 g_least_kept ds)
theorem sc_least_kept : FnScope ["machine", "parting"] ["machine", "parting"] (defScope s_least_kept) := ⟨rfl, rfl, rfl, by decide +kernel, rfl, by decide +kernel, by decide +kernel⟩
theorem ok_least_kept {P : Program} {w : World} {K : PySem.W.Frag} {mg : Str → Option Value} {base : Heap} {f : Addr} {fd : FuncData} (c : Fx K mg) (D : FnP K "least_kept" s_least_kept f fd) : FnD P w K mg base CX0 6 f fd ["machine", "parting"] F_least_kept := by
  obtain ⟨fd_kept_over, D_kept_over⟩ := c.d_kept_over
  have O_kept_over := ok_kept_over (P := P) (w := w) (base := base) c D_kept_over
  have B_kept_over : Binds K fd_kept_over ["machine", "parting"] [] := D_kept_over.bindsN (ps := ["machine", "parting"]) fun _ _ _ _ _ _ us hl => match us, hl with | [_, _], _ => rfl
  obtain ⟨fd_need_parting, D_need_parting⟩ := c.d_need_parting
  have O_need_parting := ok_need_parting (P := P) (w := w) (base := base) c D_need_parting
  have B_need_parting : Binds K fd_need_parting ["machine", "parting"] [] := D_need_parting.bindsN (ps := ["machine", "parting"]) fun _ _ _ _ _ _ us hl => match us, hl with | [_, _], _ => rfl
  refine fnD_ofD (N := ["machine", "parting"]) (g := g_least_kept) D sc_least_kept fun cdv A outer s H E hg hr => ?_
  unfold g_least_kept
  exact (es_one (es_ret (e_callA O_kept_over (by exact hg) (hr.mono (by decide)) rfl c.m_kept_over D_kept_over.kp B_kept_over (fun _ _ _ _ _ _ _ h => h.elim) (ea_cons (v 0) (ea_cons (e_callA O_need_parting (by exact hg) (hr.mono (by decide)) rfl c.m_need_parting D_need_parting.kp B_need_parting (fun _ _ _ _ _ _ _ h => h.elim) (ea_cons (v 0) (ea_cons (v 1) ea_nil)) (aCons_len (aCons_len aNil_len))) ea_nil)) (aCons_len (aCons_len aNil_len)))))
/-! kept_partings: 0 machine -/
def g_kept_partings : SF := (sRet (cN (on1 hTup) (aCons (eCallA true F_kept_in (aCons (eCallA true F_need_machine (aCons (vT 0) aNil)) aNil)) aNil)))
def F_kept_partings : List Va → M Va := fun ds => noX (runF 1 g_kept_partings ds)
theorem sc_kept_partings : FnScope ["machine"] ["machine"] (defScope s_kept_partings) := ⟨rfl, rfl, rfl, by decide +kernel, rfl, by decide +kernel, by decide +kernel⟩
theorem ok_kept_partings {P : Program} {w : World} {K : PySem.W.Frag} {mg : Str → Option Value} {base : Heap} {f : Addr} {fd : FuncData} (c : Fx K mg) (D : FnP K "kept_partings" s_kept_partings f fd) : FnD P w K mg base CX0 6 f fd ["machine"] F_kept_partings := by
  obtain ⟨fd_kept_in, D_kept_in⟩ := c.d_kept_in
  have O_kept_in := ok_kept_in (P := P) (w := w) (base := base) c D_kept_in
  have B_kept_in : Binds K fd_kept_in ["machine"] [] := D_kept_in.bindsN (ps := ["machine"]) fun _ _ _ _ _ _ us hl => match us, hl with | [_], _ => rfl
  obtain ⟨fd_need_machine, D_need_machine⟩ := c.d_need_machine
  have O_need_machine := ok_need_machine (P := P) (w := w) (base := base) c D_need_machine
  have B_need_machine : Binds K fd_need_machine ["thing"] [] := D_need_machine.bindsN (ps := ["thing"]) fun _ _ _ _ _ _ us hl => match us, hl with | [_], _ => rfl
  refine fnD_ofD (N := ["machine"]) (g := g_kept_partings) D sc_kept_partings fun cdv A outer s H E hg hr => ?_
  unfold g_kept_partings
  exact (es_one (es_ret (e_callTy call_tuple_of pure_tuple rfl c.b_tuple (by decide +kernel) (ea_cons (e_callA O_kept_in (by exact hg) (hr.mono (by decide)) rfl c.m_kept_in D_kept_in.kp B_kept_in (fun _ _ _ _ _ _ _ h => h.elim) (ea_cons (e_callA O_need_machine (by exact hg) (hr.mono (by decide)) rfl c.m_need_machine D_need_machine.kp B_need_machine (fun _ _ _ _ _ _ _ h => h.elim) (ea_cons (v 0) ea_nil) (aCons_len aNil_len)) ea_nil) (aCons_len aNil_len)) ea_nil))))
/-! _law_is_told: 0 m, 1 frame, 2 many, 3 ahead, 4 every, 5 turn, 6 a, 7 sheet, 8 due, 9 told, 10 b, 11 apart, 12 k -/
def g__law_is_told : SF := (sSeq (sPar (oE (cN (on1 hLenA) (aCons (c2 gIx (vT 1) (kC (.int 0))) aNil))) (oE (cN (on1 hReprA) (aCons (vT 1) aNil))) 2 3)
  (sSeq (sAsg (cN (on1 hTup) (aCons (eCallA true F__law_all_kept (aCons (vT 1) aNil)) aNil)) (gN 4))
  (sSeq (sIf (bV (c2 gNe (cN (on1 hReprA) (aCons (cN gLstD (aCons (eCallA true F_kept_partings (aCons (vT 1) aNil)) (aCons (eCallA true F_kept_partings (aCons (vT 1) aNil)) aNil))) aNil)) (cN (on1 hReprA) (aCons (cN gLstD (aCons (vT 4) (aCons (vT 4) aNil))) aNil)))) (sRet (kC (.bool false))) sNil)
  (sSeq (sFor (lN gRng1 (aCons (kC (.int 5)) aNil)) (gN 5) (sSeq (sAsg (eCallA true F__law_numbered (aCons (eCall F__law_sheet (aCons (vT 0) (aCons (vT 2) aNil))) aNil)) (gN 7))
  (sSeq (sAsg (cN gLstD (aCons (c2 (gDD (hIn false)) (vT 7) (vT 4)) (aCons (eCallA true F__law_told_of (aCons (vT 2) (aCons (eCallA true F__law_closed (aCons (vT 1) (aCons (eCallA true F__law_classes (aCons (vT 7) aNil)) aNil))) aNil))) aNil))) (gN 8))
  (sSeq (sAsg (cN gLstD (aCons (eCallA true F_is_kept (aCons (vT 1) (aCons (vT 7) aNil))) (aCons (eCallA true F_least_kept (aCons (vT 1) (aCons (vT 7) aNil))) (aCons (eCallA true F_is_kept (aCons (vT 1) (aCons (vT 7) aNil))) (aCons (eCallA true F_least_kept (aCons (vT 1) (aCons (vT 7) aNil))) aNil))))) (gN 9))
  (sIf (bOr (bV (c2 gNe (cN (on1 hReprA) (aCons (vT 9) aNil)) (cN (on1 hReprA) (aCons (c2 gMul (vT 8) (kC (.int 2))) aNil)))) (bV (c2 (gDD (hIn true)) (c2 gIx (vT 8) (kC (.int 1))) (vT 4)))) (sRet (kC (.bool false))) sNil)))))
  (sSeq (sFor (lN gRng1 (aCons (vT 2) aNil)) (gN 6) (sFor (lN gRng1 (aCons (vT 2) aNil)) (gN 10) (sSeq (sAsg (fD (lcA (lN gRng1 (aCons (vT 2) aNil)) (gN 12) bYes (cN gLstD (aCons (vT 12) aNil)) [12])) (gN 11))
  (sSeq (sAsg (eCallA true F__law_told_of (aCons (vT 2) (aCons (eCallA true F__law_closed (aCons (vT 1) (aCons (eCallA true F__law_merged (aCons (vT 11) (aCons (vT 6) (aCons (vT 10) aNil)))) aNil))) aNil))) (gN 8))
  (sIf (bOr (bV (c2 gNe (cN (on1 hReprA) (aCons (eCallA true F_drawn (aCons (vT 1) (aCons (vT 6) (aCons (vT 10) aNil)))) aNil)) (cN (on1 hReprA) (aCons (vT 8) aNil)))) (bV (c2 (gDD (hIn true)) (vT 8) (vT 4)))) (sRet (kC (.bool false))) sNil)))))
  (sRet (c2 gEq (cN (on1 hReprA) (aCons (vT 1) aNil)) (vT 3))))))))
def F__law_is_told : List Va → M Va := fun ds => noX (runF 13 g__law_is_told ds)
theorem sc__law_is_told : FnScope ["m", "frame", "many", "ahead", "every", "turn", "a", "sheet", "due", "told", "b", "apart", "k"] ["m", "frame"] (defScope s__law_is_told) := ⟨rfl, rfl, rfl, by decide +kernel, rfl, by decide +kernel, by decide +kernel⟩
theorem ok__law_is_told {P : Program} {w : World} {K : PySem.W.Frag} {mg : Str → Option Value} {base : Heap} {f : Addr} {fd : FuncData} (c : Fx K mg) (D : FnP K "_law_is_told" s__law_is_told f fd) : FnD P w K mg base CX0 7 f fd ["m", "frame"] F__law_is_told := by
  obtain ⟨fd__law_all_kept, D__law_all_kept⟩ := c.d__law_all_kept
  have O__law_all_kept := ok__law_all_kept (P := P) (w := w) (base := base) c D__law_all_kept
  have B__law_all_kept : Binds K fd__law_all_kept ["frame"] [] := D__law_all_kept.bindsN (ps := ["frame"]) fun _ _ _ _ _ _ us hl => match us, hl with | [_], _ => rfl
  obtain ⟨fd_kept_partings, D_kept_partings⟩ := c.d_kept_partings
  have O_kept_partings := ok_kept_partings (P := P) (w := w) (base := base) c D_kept_partings
  have B_kept_partings : Binds K fd_kept_partings ["machine"] [] := D_kept_partings.bindsN (ps := ["machine"]) fun _ _ _ _ _ _ us hl => match us, hl with | [_], _ => rfl
  obtain ⟨fd__law_numbered, D__law_numbered⟩ := c.d__law_numbered
  have O__law_numbered := ok__law_numbered (P := P) (w := w) (base := base) c D__law_numbered
  have B__law_numbered : Binds K fd__law_numbered ["sheet"] [] := D__law_numbered.bindsN (ps := ["sheet"]) fun _ _ _ _ _ _ us hl => match us, hl with | [_], _ => rfl
  obtain ⟨fd__law_sheet, D__law_sheet⟩ := c.d__law_sheet
  have O__law_sheet := ok__law_sheet (P := P) (w := w) (base := base) c D__law_sheet
  have B__law_sheet : Binds K fd__law_sheet ["m", "many"] [] := D__law_sheet.bindsN (ps := ["m", "many"]) fun _ _ _ _ _ _ us hl => match us, hl with | [_, _], _ => rfl
  obtain ⟨fd__law_told_of, D__law_told_of⟩ := c.d__law_told_of
  have O__law_told_of := ok__law_told_of (P := P) (w := w) (base := base) c D__law_told_of
  have B__law_told_of : Binds K fd__law_told_of ["many", "classes"] [] := D__law_told_of.bindsN (ps := ["many", "classes"]) fun _ _ _ _ _ _ us hl => match us, hl with | [_, _], _ => rfl
  obtain ⟨fd__law_closed, D__law_closed⟩ := c.d__law_closed
  have O__law_closed := ok__law_closed (P := P) (w := w) (base := base) c D__law_closed
  have B__law_closed : Binds K fd__law_closed ["frame", "classes"] [] := D__law_closed.bindsN (ps := ["frame", "classes"]) fun _ _ _ _ _ _ us hl => match us, hl with | [_, _], _ => rfl
  obtain ⟨fd__law_classes, D__law_classes⟩ := c.d__law_classes
  have O__law_classes := ok__law_classes (P := P) (w := w) (base := base) c D__law_classes
  have B__law_classes : Binds K fd__law_classes ["sheet"] [] := D__law_classes.bindsN (ps := ["sheet"]) fun _ _ _ _ _ _ us hl => match us, hl with | [_], _ => rfl
  obtain ⟨fd_least_kept, D_least_kept⟩ := c.d_least_kept
  have O_least_kept := ok_least_kept (P := P) (w := w) (base := base) c D_least_kept
  have B_least_kept : Binds K fd_least_kept ["machine", "parting"] [] := D_least_kept.bindsN (ps := ["machine", "parting"]) fun _ _ _ _ _ _ us hl => match us, hl with | [_, _], _ => rfl
  obtain ⟨fd_is_kept, D_is_kept⟩ := c.d_is_kept
  have O_is_kept := ok_is_kept (P := P) (w := w) (base := base) c D_is_kept
  have B_is_kept : Binds K fd_is_kept ["machine", "parting"] [] := D_is_kept.bindsN (ps := ["machine", "parting"]) fun _ _ _ _ _ _ us hl => match us, hl with | [_, _], _ => rfl
  obtain ⟨fd__law_merged, D__law_merged⟩ := c.d__law_merged
  have O__law_merged := ok__law_merged (P := P) (w := w) (base := base) c D__law_merged
  have B__law_merged : Binds K fd__law_merged ["classes", "one", "far"] [] := D__law_merged.bindsN (ps := ["classes", "one", "far"]) fun _ _ _ _ _ _ us hl => match us, hl with | [_, _, _], _ => rfl
  obtain ⟨fd_drawn, D_drawn⟩ := c.d_drawn
  have O_drawn := ok_drawn (P := P) (w := w) (base := base) c D_drawn
  have B_drawn : Binds K fd_drawn ["machine", "one", "far"] [] := D_drawn.bindsN (ps := ["machine", "one", "far"]) fun _ _ _ _ _ _ us hl => match us, hl with | [_, _, _], _ => rfl
  refine fnD_ofD (N := ["m", "frame", "many", "ahead", "every", "turn", "a", "sheet", "due", "told", "b", "apart", "k"]) (g := g__law_is_told) D sc__law_is_told fun cdv A outer s H E hg hr => ?_
  unfold g__law_is_told
  exact (es_cons (es_par (i := 2) (j := 3) rfl sc__law_is_told.nd rfl rfl (by decide) rfl rfl (eo_e (e_callB cr_lenA pure_lenA rfl c.b_len (by decide +kernel) (ea_cons (e_ix (v 1) e_int) ea_nil))) (eo_e (e_callB (cr_reprA (by exact hg) (by exact hr.units)) pure_reprA rfl c.b_repr (by decide +kernel) (ea_cons (v 1) ea_nil))) (by rfl))
    (es_cons (es_set (i := 4) sc__law_is_told.nd rfl (by first | exact Or.inl rfl | exact Or.inr rfl) (e_callTy call_tuple_of pure_tuple rfl c.b_tuple (by decide +kernel) (ea_cons (e_callA O__law_all_kept (by exact hg) (hr.mono (by decide)) rfl c.m__law_all_kept D__law_all_kept.kp B__law_all_kept (fun _ _ _ _ _ _ _ h => h.elim) (ea_cons (v 1) ea_nil) (aCons_len aNil_len)) ea_nil)))
    (es_cons (es_if (eb_cmp (op_neA (by exact hr.units)) pure_ne (e_callB (cr_reprA (by exact hg) (by exact hr.units)) pure_reprA rfl c.b_repr (by decide +kernel) (ea_cons (e_lst (ea_cons (e_callA O_kept_partings (by exact hg) (hr.mono (by decide)) rfl c.m_kept_partings D_kept_partings.kp B_kept_partings (fun _ _ _ _ _ _ _ h => h.elim) (ea_cons (v 1) ea_nil) (aCons_len aNil_len)) (ea_cons (e_callA O_kept_partings (by exact hg) (hr.mono (by decide)) rfl c.m_kept_partings D_kept_partings.kp B_kept_partings (fun _ _ _ _ _ _ _ h => h.elim) (ea_cons (v 1) ea_nil) (aCons_len aNil_len)) ea_nil))) ea_nil)) (e_callB (cr_reprA (by exact hg) (by exact hr.units)) pure_reprA rfl c.b_repr (by decide +kernel) (ea_cons (e_lst (ea_cons (v 4) (ea_cons (v 4) ea_nil))) ea_nil)) (nomark _)) (es_one (es_ret e_bl)) es_nil)
    (es_cons (es_for PassesOwn.never rfl (ei_range1 rfl c.b_range (ea_cons e_int ea_nil)) (gn 5 sc__law_is_told.nd) (es_cons (es_set (i := 7) sc__law_is_told.nd rfl (by first | exact Or.inl rfl | exact Or.inr rfl) (e_callA O__law_numbered (by exact hg) (hr.mono (by decide)) rfl c.m__law_numbered D__law_numbered.kp B__law_numbered (fun _ _ _ _ _ _ _ h => h.elim) (ea_cons (e_call O__law_sheet (by exact hg) (hr.mono (by decide)) rfl c.m__law_sheet D__law_sheet.kp B__law_sheet (fun _ _ _ _ _ _ _ h => h.elim) (ea_cons (v 0) (ea_cons (v 2) ea_nil)) (aCons_len (aCons_len aNil_len))) ea_nil) (aCons_len aNil_len)))
    (es_cons (es_set (i := 8) sc__law_is_told.nd rfl (by first | exact Or.inl rfl | exact Or.inr rfl) (e_lst (ea_cons (e_cmp (op_inD (by exact hr.units)) pure_inD (v 7) (v 4) (by with_unfolding_all rfl)) (ea_cons (e_callA O__law_told_of (by exact hg) (hr.mono (by decide)) rfl c.m__law_told_of D__law_told_of.kp B__law_told_of (fun _ _ _ _ _ _ _ h => h.elim) (ea_cons (v 2) (ea_cons (e_callA O__law_closed (by exact hg) (hr.mono (by decide)) rfl c.m__law_closed D__law_closed.kp B__law_closed (fun _ _ _ _ _ _ _ h => h.elim) (ea_cons (v 1) (ea_cons (e_callA O__law_classes (by exact hg) (hr.mono (by decide)) rfl c.m__law_classes D__law_classes.kp B__law_classes (fun _ _ _ _ _ _ _ h => h.elim) (ea_cons (v 7) ea_nil) (aCons_len aNil_len)) ea_nil)) (aCons_len (aCons_len aNil_len))) ea_nil)) (aCons_len (aCons_len aNil_len))) ea_nil))))
    (es_cons (es_set (i := 9) sc__law_is_told.nd rfl (by first | exact Or.inl rfl | exact Or.inr rfl) (e_lst (ea_cons (e_callA O_is_kept (by exact hg) (hr.mono (by decide)) rfl c.m_is_kept D_is_kept.kp B_is_kept (fun _ _ _ _ _ _ _ h => h.elim) (ea_cons (v 1) (ea_cons (v 7) ea_nil)) (aCons_len (aCons_len aNil_len))) (ea_cons (e_callA O_least_kept (by exact hg) (hr.mono (by decide)) rfl c.m_least_kept D_least_kept.kp B_least_kept (fun _ _ _ _ _ _ _ h => h.elim) (ea_cons (v 1) (ea_cons (v 7) ea_nil)) (aCons_len (aCons_len aNil_len))) (ea_cons (e_callA O_is_kept (by exact hg) (hr.mono (by decide)) rfl c.m_is_kept D_is_kept.kp B_is_kept (fun _ _ _ _ _ _ _ h => h.elim) (ea_cons (v 1) (ea_cons (v 7) ea_nil)) (aCons_len (aCons_len aNil_len))) (ea_cons (e_callA O_least_kept (by exact hg) (hr.mono (by decide)) rfl c.m_least_kept D_least_kept.kp B_least_kept (fun _ _ _ _ _ _ _ h => h.elim) (ea_cons (v 1) (ea_cons (v 7) ea_nil)) (aCons_len (aCons_len aNil_len))) ea_nil))))))
    (es_one (es_if (eb_w (ew_or (eb_cmp (op_neA (by exact hr.units)) pure_ne (e_callB (cr_reprA (by exact hg) (by exact hr.units)) pure_reprA rfl c.b_repr (by decide +kernel) (ea_cons (v 9) ea_nil)) (e_callB (cr_reprA (by exact hg) (by exact hr.units)) pure_reprA rfl c.b_repr (by decide +kernel) (ea_cons (e_op op_mulA pure_mulA (v 8) e_int) ea_nil)) (nomark _)) (ew_or1 (eb_cmp (op_notInD (by exact hr.units)) pure_inD (e_ix (v 8) e_int) (v 4) (by with_unfolding_all rfl))))) (es_one (es_ret e_bl)) es_nil))))))
    (es_cons (es_for PassesOwn.never rfl (ei_range1 rfl c.b_range (ea_cons (v 2) ea_nil)) (gn 6 sc__law_is_told.nd) (es_one (es_for PassesOwn.never rfl (ei_range1 rfl c.b_range (ea_cons (v 2) ea_nil)) (gn 10 sc__law_is_told.nd) (es_cons (es_setF (ps_lcA (own := [("k", 12)]) (i := 11) rfl sc__law_is_told.nd rfl rfl (sw_true rfl rfl rfl rfl) (ei_range1 rfl c.b_range (ea_cons (v 2) ea_nil)) (blkOk_by (by rfl)) (by decide) (fun _ _ _ _ _ => (gn 12 sc__law_is_told.nd)) (fun _ _ _ _ _ => ebs_nil) (fun _ _ _ _ _ => (e_lst (ea_cons (v 12) ea_nil)))))
    (es_cons (es_set (i := 8) sc__law_is_told.nd rfl (by first | exact Or.inl rfl | exact Or.inr rfl) (e_callA O__law_told_of (by exact hg) (hr.mono (by decide)) rfl c.m__law_told_of D__law_told_of.kp B__law_told_of (fun _ _ _ _ _ _ _ h => h.elim) (ea_cons (v 2) (ea_cons (e_callA O__law_closed (by exact hg) (hr.mono (by decide)) rfl c.m__law_closed D__law_closed.kp B__law_closed (fun _ _ _ _ _ _ _ h => h.elim) (ea_cons (v 1) (ea_cons (e_callA O__law_merged (by exact hg) (hr.mono (by decide)) rfl c.m__law_merged D__law_merged.kp B__law_merged (fun _ _ _ _ _ _ _ h => h.elim) (ea_cons (v 11) (ea_cons (v 6) (ea_cons (v 10) ea_nil))) (aCons_len (aCons_len (aCons_len aNil_len)))) ea_nil)) (aCons_len (aCons_len aNil_len))) ea_nil)) (aCons_len (aCons_len aNil_len))))
    (es_one (es_if (eb_w (ew_or (eb_cmp (op_neA (by exact hr.units)) pure_ne (e_callB (cr_reprA (by exact hg) (by exact hr.units)) pure_reprA rfl c.b_repr (by decide +kernel) (ea_cons (e_callA O_drawn (by exact hg) (hr.mono (by decide)) rfl c.m_drawn D_drawn.kp B_drawn (fun _ _ _ _ _ _ _ h => h.elim) (ea_cons (v 1) (ea_cons (v 6) (ea_cons (v 10) ea_nil))) (aCons_len (aCons_len (aCons_len aNil_len)))) ea_nil)) (e_callB (cr_reprA (by exact hg) (by exact hr.units)) pure_reprA rfl c.b_repr (by decide +kernel) (ea_cons (v 8) ea_nil)) (nomark _)) (ew_or1 (eb_cmp (op_notInD (by exact hr.units)) pure_inD (v 8) (v 4) (by with_unfolding_all rfl))))) (es_one (es_ret e_bl)) es_nil)))))))
    (es_one (es_ret (e_cmp (op_eqA (by exact hr.units)) pure_eq (e_callB (cr_reprA (by exact hg) (by exact hr.units)) pure_reprA rfl c.b_repr (by decide +kernel) (ea_cons (v 1) ea_nil)) (v 3) (nomark _)))))))))
/-! _law_hand_right: 0 told, 1 due, 2 flips, 3 stays, 4 k -/
def g__law_hand_right : SF := (sSeq (sOwn (fLst (aCons (eCallA true F_kept_partings (aCons (eCallA true F__law_ring (aCons (kC (.int 8)) aNil)) aNil)) (aCons (eCallA true F_kept_partings (aCons (eCallA true F__law_ring (aCons (kC (.int 7)) aNil)) aNil)) (aCons (eCallA true F_kept_partings (aCons (eCallA true F__law_ring (aCons (kC (.int 1)) aNil)) aNil)) aNil)))) 0)
  (sSeq (sAsg (cN gTupD (aCons (c2 gMul (cN gTupD (aCons (kC (.int 0)) aNil)) (kC (.int 8))) (aCons (c2 gMul (cN gTupD (aCons (kC (.int 0)) (aCons (kC (.int 1)) aNil))) (kC (.int 4))) (aCons (c2 gMul (cN gTupD (aCons (kC (.int 0)) (aCons (kC (.int 1)) (aCons (kC (.int 2)) (aCons (kC (.int 3)) aNil))))) (kC (.int 2))) (aCons (cN gTupD (aCons (kC (.int 0)) (aCons (kC (.int 1)) (aCons (kC (.int 2)) (aCons (kC (.int 3)) (aCons (kC (.int 4)) (aCons (kC (.int 5)) (aCons (kC (.int 6)) (aCons (kC (.int 7)) aNil))))))))) aNil))))) (gN 1))
  (sSeq (sIf (bV (c2 gNe (vF 0) (cN gLstD (aCons (vF 1) (aCons (cN gTupD (aCons (c2 gMul (cN gTupD (aCons (kC (.int 0)) aNil)) (kC (.int 7))) (aCons (cN gTupD (aCons (kC (.int 0)) (aCons (kC (.int 1)) (aCons (kC (.int 2)) (aCons (kC (.int 3)) (aCons (kC (.int 4)) (aCons (kC (.int 5)) (aCons (kC (.int 6)) aNil)))))))) aNil))) (aCons (cN gTupD (aCons (cN gTupD (aCons (kC (.int 0)) aNil)) aNil)) aNil)))))) (sRet (kC (.bool false))) sNil)
  (sSeq (sAsg (cN gTupD (aCons (cN gTupD (aCons (kC (.int 1)) (aCons (kC (.int 3)) aNil))) (aCons (cN gTupD (aCons (kC (.int 2)) (aCons (kC (.int 5)) aNil))) (aCons (cN gTupD (aCons (kC (.int 0)) (aCons (kC (.int 4)) aNil))) (aCons (cN gTupD (aCons (kC (.int 4)) (aCons (kC (.int 0)) aNil))) (aCons (cN gTupD (aCons (kC (.int 5)) (aCons (kC (.int 2)) aNil))) (aCons (cN gTupD (aCons (kC (.int 3)) (aCons (kC (.int 1)) aNil))) aNil))))))) (gN 2))
  (sSeq (sAsg (eCallA true F_kept_partings (aCons (cN gTupD (aCons (vT 2) (aCons (c2 gMul (cN gTupD (aCons (kC (.int 0)) aNil)) (kC (.int 6))) aNil))) aNil)) (gN 0))
  (sSeq (sAsg (cN gTupD (aCons (c2 gMul (cN gTupD (aCons (kC (.int 0)) aNil)) (kC (.int 6))) (aCons (cN gTupD (aCons (kC (.int 0)) (aCons (kC (.int 0)) (aCons (kC (.int 0)) (aCons (kC (.int 1)) (aCons (kC (.int 1)) (aCons (kC (.int 1)) aNil))))))) (aCons (cN gTupD (aCons (kC (.int 0)) (aCons (kC (.int 1)) (aCons (kC (.int 2)) (aCons (kC (.int 0)) (aCons (kC (.int 1)) (aCons (kC (.int 2)) aNil))))))) (aCons (cN gTupD (aCons (kC (.int 0)) (aCons (kC (.int 1)) (aCons (kC (.int 2)) (aCons (kC (.int 1)) (aCons (kC (.int 2)) (aCons (kC (.int 0)) aNil))))))) (aCons (cN gTupD (aCons (kC (.int 0)) (aCons (kC (.int 1)) (aCons (kC (.int 2)) (aCons (kC (.int 2)) (aCons (kC (.int 0)) (aCons (kC (.int 1)) aNil))))))) aNil)))))) (gN 1))
  (sSeq (sIf (bV (c2 gNe (vF 0) (c2 gAdd (vF 1) (cN gTupD (aCons (cN gTupD (aCons (kC (.int 0)) (aCons (kC (.int 1)) (aCons (kC (.int 2)) (aCons (kC (.int 3)) (aCons (kC (.int 4)) (aCons (kC (.int 5)) aNil))))))) aNil))))) (sRet (kC (.bool false))) sNil)
  (sSeq (sAsg (cN gTupD (aCons (cN (on1 hTup) (aCons (fD (lcA (lN gRng1 (aCons (kC (.int 5)) aNil)) (gN 4) bYes (cN gTupD (aCons (vT 4) aNil)) [4])) aNil)) (aCons (cN gTupD (aCons (kC (.int 0)) (aCons (kC (.int 1)) (aCons (kC (.int 2)) (aCons (kC (.int 3)) (aCons (kC (.int 4)) aNil)))))) aNil))) (gN 3))
  (sSeq (sOwn (fLst (aCons (cN (on1 hLenA) (aCons (eCallA true F_kept_partings (aCons (vT 3) aNil)) aNil)) (aCons (eCallA true F_drawn (aCons (vT 3) (aCons (kC (.int 1)) (aCons (kC (.int 3)) aNil)))) (aCons (eCallA true F_least_kept (aCons (vT 3) (aCons (cN gTupD (aCons (kC (.int 0)) (aCons (kC (.int 0)) (aCons (kC (.int 0)) (aCons (kC (.int 1)) (aCons (kC (.int 1)) aNil)))))) aNil))) aNil)))) 0)
  (sSeq (sApp 0 (eCallA true F_is_kept (aCons (vT 3) (aCons (c2 gMul (cN gTupD (aCons (kC (.int 0)) aNil)) (kC (.int 5))) aNil))))
  (sRet (c1 immV (eAnd (c2 gEq (vF 0) (cN gLstD (aCons (kC (.int 52)) (aCons (cN gTupD (aCons (kC (.int 0)) (aCons (kC (.int 1)) (aCons (kC (.int 2)) (aCons (kC (.int 1)) (aCons (kC (.int 3)) aNil)))))) (aCons (cN gTupD (aCons (kC (.int 0)) (aCons (kC (.int 0)) (aCons (kC (.int 0)) (aCons (kC (.int 1)) (aCons (kC (.int 1)) aNil)))))) (aCons (kC (.bool true)) aNil)))))) (c2 gEq (eCallA false F_drawn (aCons (eCallA false F__law_ring (aCons (kC (.int 8)) aNil)) (aCons (kC (.int 7)) (aCons (kC (.int 3)) aNil)))) (c2 gMul (cN gTupD (aCons (kC (.int 0)) (aCons (kC (.int 1)) (aCons (kC (.int 2)) (aCons (kC (.int 3)) aNil))))) (kC (.int 2)))))))))))))))))
def F__law_hand_right : List Va → M Va := fun ds => noX (runF 5 g__law_hand_right ds)
theorem sc__law_hand_right : FnScope ["told", "due", "flips", "stays", "k"] [] (defScope s__law_hand_right) := ⟨rfl, rfl, rfl, by decide +kernel, rfl, by decide +kernel, by decide +kernel⟩
theorem ok__law_hand_right {P : Program} {w : World} {K : PySem.W.Frag} {mg : Str → Option Value} {base : Heap} {f : Addr} {fd : FuncData} (c : Fx K mg) (D : FnP K "_law_hand_right" s__law_hand_right f fd) : FnD P w K mg base CX0 7 f fd [] F__law_hand_right := by
  obtain ⟨fd_kept_partings, D_kept_partings⟩ := c.d_kept_partings
  have O_kept_partings := ok_kept_partings (P := P) (w := w) (base := base) c D_kept_partings
  have B_kept_partings : Binds K fd_kept_partings ["machine"] [] := D_kept_partings.bindsN (ps := ["machine"]) fun _ _ _ _ _ _ us hl => match us, hl with | [_], _ => rfl
  obtain ⟨fd__law_ring, D__law_ring⟩ := c.d__law_ring
  have O__law_ring := ok__law_ring (P := P) (w := w) (base := base) c D__law_ring
  have B__law_ring : Binds K fd__law_ring ["many"] [] := D__law_ring.bindsN (ps := ["many"]) fun _ _ _ _ _ _ us hl => match us, hl with | [_], _ => rfl
  obtain ⟨fd_least_kept, D_least_kept⟩ := c.d_least_kept
  have O_least_kept := ok_least_kept (P := P) (w := w) (base := base) c D_least_kept
  have B_least_kept : Binds K fd_least_kept ["machine", "parting"] [] := D_least_kept.bindsN (ps := ["machine", "parting"]) fun _ _ _ _ _ _ us hl => match us, hl with | [_, _], _ => rfl
  obtain ⟨fd_drawn, D_drawn⟩ := c.d_drawn
  have O_drawn := ok_drawn (P := P) (w := w) (base := base) c D_drawn
  have B_drawn : Binds K fd_drawn ["machine", "one", "far"] [] := D_drawn.bindsN (ps := ["machine", "one", "far"]) fun _ _ _ _ _ _ us hl => match us, hl with | [_, _, _], _ => rfl
  obtain ⟨fd_is_kept, D_is_kept⟩ := c.d_is_kept
  have O_is_kept := ok_is_kept (P := P) (w := w) (base := base) c D_is_kept
  have B_is_kept : Binds K fd_is_kept ["machine", "parting"] [] := D_is_kept.bindsN (ps := ["machine", "parting"]) fun _ _ _ _ _ _ us hl => match us, hl with | [_, _], _ => rfl
  refine fnD_ofD (N := ["told", "due", "flips", "stays", "k"]) (g := g__law_hand_right) D sc__law_hand_right fun cdv A outer s H E hg hr => ?_
  unfold g__law_hand_right
  exact (es_cons (es_own (i := 0) sc__law_hand_right.nd rfl (by first | exact Or.inl rfl | exact Or.inr rfl) (ef_lst (ea_cons (e_callA O_kept_partings (by exact hg) (hr.mono (by decide)) rfl c.m_kept_partings D_kept_partings.kp B_kept_partings (fun _ _ _ _ _ _ _ h => h.elim) (ea_cons (e_callA O__law_ring (by exact hg) (hr.mono (by decide)) rfl c.m__law_ring D__law_ring.kp B__law_ring (fun _ _ _ _ _ _ _ h => h.elim) (ea_cons e_int ea_nil) (aCons_len aNil_len)) ea_nil) (aCons_len aNil_len)) (ea_cons (e_callA O_kept_partings (by exact hg) (hr.mono (by decide)) rfl c.m_kept_partings D_kept_partings.kp B_kept_partings (fun _ _ _ _ _ _ _ h => h.elim) (ea_cons (e_callA O__law_ring (by exact hg) (hr.mono (by decide)) rfl c.m__law_ring D__law_ring.kp B__law_ring (fun _ _ _ _ _ _ _ h => h.elim) (ea_cons e_int ea_nil) (aCons_len aNil_len)) ea_nil) (aCons_len aNil_len)) (ea_cons (e_callA O_kept_partings (by exact hg) (hr.mono (by decide)) rfl c.m_kept_partings D_kept_partings.kp B_kept_partings (fun _ _ _ _ _ _ _ h => h.elim) (ea_cons (e_callA O__law_ring (by exact hg) (hr.mono (by decide)) rfl c.m__law_ring D__law_ring.kp B__law_ring (fun _ _ _ _ _ _ _ h => h.elim) (ea_cons e_int ea_nil) (aCons_len aNil_len)) ea_nil) (aCons_len aNil_len)) ea_nil)))))
    (es_cons (es_set (i := 1) sc__law_hand_right.nd rfl (by first | exact Or.inl rfl | exact Or.inr rfl) (e_tup (ea_cons (e_op op_mulA pure_mulA (e_tup (ea_cons e_int ea_nil)) e_int) (ea_cons (e_op op_mulA pure_mulA (e_tup (ea_cons e_int (ea_cons e_int ea_nil))) e_int) (ea_cons (e_op op_mulA pure_mulA (e_tup (ea_cons e_int (ea_cons e_int (ea_cons e_int (ea_cons e_int ea_nil))))) e_int) (ea_cons (e_tup (ea_cons e_int (ea_cons e_int (ea_cons e_int (ea_cons e_int (ea_cons e_int (ea_cons e_int (ea_cons e_int (ea_cons e_int ea_nil))))))))) ea_nil))))))
    (es_cons (es_if (eb_cmp (op_neA (by exact hr.units)) pure_ne (vf 0) (e_lst (ea_cons (vf 1) (ea_cons (e_tup (ea_cons (e_op op_mulA pure_mulA (e_tup (ea_cons e_int ea_nil)) e_int) (ea_cons (e_tup (ea_cons e_int (ea_cons e_int (ea_cons e_int (ea_cons e_int (ea_cons e_int (ea_cons e_int (ea_cons e_int ea_nil)))))))) ea_nil))) (ea_cons (e_tup (ea_cons (e_tup (ea_cons e_int ea_nil)) ea_nil)) ea_nil)))) (nomark _)) (es_one (es_ret e_bl)) es_nil)
    (es_cons (es_set (i := 2) sc__law_hand_right.nd rfl (by first | exact Or.inl rfl | exact Or.inr rfl) (e_tup (ea_cons (e_tup (ea_cons e_int (ea_cons e_int ea_nil))) (ea_cons (e_tup (ea_cons e_int (ea_cons e_int ea_nil))) (ea_cons (e_tup (ea_cons e_int (ea_cons e_int ea_nil))) (ea_cons (e_tup (ea_cons e_int (ea_cons e_int ea_nil))) (ea_cons (e_tup (ea_cons e_int (ea_cons e_int ea_nil))) (ea_cons (e_tup (ea_cons e_int (ea_cons e_int ea_nil))) ea_nil))))))))
    (es_cons (es_set (i := 0) sc__law_hand_right.nd rfl (by first | exact Or.inl rfl | exact Or.inr rfl) (e_callA O_kept_partings (by exact hg) (hr.mono (by decide)) rfl c.m_kept_partings D_kept_partings.kp B_kept_partings (fun _ _ _ _ _ _ _ h => h.elim) (ea_cons (e_tup (ea_cons (v 2) (ea_cons (e_op op_mulA pure_mulA (e_tup (ea_cons e_int ea_nil)) e_int) ea_nil))) ea_nil) (aCons_len aNil_len)))
    (es_cons (es_set (i := 1) sc__law_hand_right.nd rfl (by first | exact Or.inl rfl | exact Or.inr rfl) (e_tup (ea_cons (e_op op_mulA pure_mulA (e_tup (ea_cons e_int ea_nil)) e_int) (ea_cons (e_tup (ea_cons e_int (ea_cons e_int (ea_cons e_int (ea_cons e_int (ea_cons e_int (ea_cons e_int ea_nil))))))) (ea_cons (e_tup (ea_cons e_int (ea_cons e_int (ea_cons e_int (ea_cons e_int (ea_cons e_int (ea_cons e_int ea_nil))))))) (ea_cons (e_tup (ea_cons e_int (ea_cons e_int (ea_cons e_int (ea_cons e_int (ea_cons e_int (ea_cons e_int ea_nil))))))) (ea_cons (e_tup (ea_cons e_int (ea_cons e_int (ea_cons e_int (ea_cons e_int (ea_cons e_int (ea_cons e_int ea_nil))))))) ea_nil)))))))
    (es_cons (es_if (eb_cmp (op_neA (by exact hr.units)) pure_ne (vf 0) (e_op op_addA pure_add (vf 1) (e_tup (ea_cons (e_tup (ea_cons e_int (ea_cons e_int (ea_cons e_int (ea_cons e_int (ea_cons e_int (ea_cons e_int ea_nil))))))) ea_nil))) (nomark _)) (es_one (es_ret e_bl)) es_nil)
    (es_cons (es_set (i := 3) sc__law_hand_right.nd rfl (by first | exact Or.inl rfl | exact Or.inr rfl) (e_tup (ea_cons (e_callTy call_tuple_of pure_tuple rfl c.b_tuple (by decide +kernel) (ea_cons (e_fresh (ef_lcA (own := [("k", 4)]) rfl sc__law_hand_right.nd (ei_range1 rfl c.b_range (ea_cons e_int ea_nil)) (blkOk_by (by rfl)) (by decide) (fun _ _ _ _ _ => (gn 4 sc__law_hand_right.nd)) (fun _ _ _ _ _ => ebs_nil) (fun _ _ _ _ _ => (e_tup (ea_cons (v 4) ea_nil))))) ea_nil)) (ea_cons (e_tup (ea_cons e_int (ea_cons e_int (ea_cons e_int (ea_cons e_int (ea_cons e_int ea_nil)))))) ea_nil))))
    (es_cons (es_own (i := 0) sc__law_hand_right.nd rfl (by first | exact Or.inl rfl | exact Or.inr rfl) (ef_lst (ea_cons (e_callB cr_lenA pure_lenA rfl c.b_len (by decide +kernel) (ea_cons (e_callA O_kept_partings (by exact hg) (hr.mono (by decide)) rfl c.m_kept_partings D_kept_partings.kp B_kept_partings (fun _ _ _ _ _ _ _ h => h.elim) (ea_cons (v 3) ea_nil) (aCons_len aNil_len)) ea_nil)) (ea_cons (e_callA O_drawn (by exact hg) (hr.mono (by decide)) rfl c.m_drawn D_drawn.kp B_drawn (fun _ _ _ _ _ _ _ h => h.elim) (ea_cons (v 3) (ea_cons e_int (ea_cons e_int ea_nil))) (aCons_len (aCons_len (aCons_len aNil_len)))) (ea_cons (e_callA O_least_kept (by exact hg) (hr.mono (by decide)) rfl c.m_least_kept D_least_kept.kp B_least_kept (fun _ _ _ _ _ _ _ h => h.elim) (ea_cons (v 3) (ea_cons (e_tup (ea_cons e_int (ea_cons e_int (ea_cons e_int (ea_cons e_int (ea_cons e_int ea_nil)))))) ea_nil)) (aCons_len (aCons_len aNil_len))) ea_nil)))))
    (es_cons (es_append (i := 0) rfl (by first | exact Or.inl rfl | exact Or.inr (Or.inl rfl)) (e_callA O_is_kept (by exact hg) (hr.mono (by decide)) rfl c.m_is_kept D_is_kept.kp B_is_kept (fun _ _ _ _ _ _ _ h => h.elim) (ea_cons (v 3) (ea_cons (e_op op_mulA pure_mulA (e_tup (ea_cons e_int ea_nil)) e_int) ea_nil)) (aCons_len (aCons_len aNil_len))))
    (es_one (es_ret (e_up (e_and (e_cmp (op_eqA (by exact hr.units)) pure_eq (vf 0) (e_lst (ea_cons e_int (ea_cons (e_tup (ea_cons e_int (ea_cons e_int (ea_cons e_int (ea_cons e_int (ea_cons e_int ea_nil)))))) (ea_cons (e_tup (ea_cons e_int (ea_cons e_int (ea_cons e_int (ea_cons e_int (ea_cons e_int ea_nil)))))) (ea_cons e_bl ea_nil))))) (nomark _)) (e_and1 (e_cmp (op_eqA (by exact hr.units)) pure_eq (e_callA O_drawn (by exact hg) (hr.mono (by decide)) rfl c.m_drawn D_drawn.kp B_drawn (fun _ _ _ _ _ _ _ h => h.elim) (ea_cons (e_callA O__law_ring (by exact hg) (hr.mono (by decide)) rfl c.m__law_ring D__law_ring.kp B__law_ring (fun _ _ _ _ _ _ _ h => h.elim) (ea_cons e_int ea_nil) (aCons_len aNil_len)) (ea_cons e_int (ea_cons e_int ea_nil))) (aCons_len (aCons_len (aCons_len aNil_len)))) (e_op op_mulA pure_mulA (e_tup (ea_cons e_int (ea_cons e_int (ea_cons e_int (ea_cons e_int ea_nil))))) e_int) (nomark _)))))))))))))))))
/-! law: 0 script, 1 k, 2 m -/
def g_law : SF := (sSeq (sFor (lN gRng1 (aCons (c2 gAdd (kC (.int 3)) (cN (on2 gMin2) (aCons (cN (on1 hLenA) (aCons (vT 0) aNil)) (aCons (kC (.int 4)) aNil)))) aNil)) (gN 1) (sSeq (sAsg (eCall F__law_begun (aCons (vT 0) (aCons (vT 1) aNil))) (gN 2))
  (sIf (bNot (bV (eCall F__law_is_told (aCons (vT 2) (aCons (eCall F__law_frame (aCons (vT 2) (aCons (kC (.int 6)) (aCons (kC (.int 3)) aNil)))) aNil))))) (sRet (kC (.bool false))) sNil)))
  (sRet (eCallA true F__law_hand_right aNil)))
def F_law : List Va → M Va := fun ds => noX (runF 3 g_law ds)
theorem sc_law : FnScope ["script", "k", "m"] ["script"] (defScope s_law) := ⟨rfl, rfl, rfl, by decide +kernel, rfl, by decide +kernel, by decide +kernel⟩
theorem ok_law {P : Program} {w : World} {K : PySem.W.Frag} {mg : Str → Option Value} {base : Heap} {f : Addr} {fd : FuncData} (c : Fx K mg) (D : FnP K "law" s_law f fd) : FnD P w K mg base CX0 8 f fd ["script"] F_law := by
  obtain ⟨fd__law_begun, D__law_begun⟩ := c.d__law_begun
  have O__law_begun := ok__law_begun (P := P) (w := w) (base := base) c D__law_begun
  have B__law_begun : Binds K fd__law_begun ["script", "k"] [] := D__law_begun.bindsN (ps := ["script", "k"]) fun _ _ _ _ _ _ us hl => match us, hl with | [_, _], _ => rfl
  obtain ⟨fd__law_is_told, D__law_is_told⟩ := c.d__law_is_told
  have O__law_is_told := ok__law_is_told (P := P) (w := w) (base := base) c D__law_is_told
  have B__law_is_told : Binds K fd__law_is_told ["m", "frame"] [] := D__law_is_told.bindsN (ps := ["m", "frame"]) fun _ _ _ _ _ _ us hl => match us, hl with | [_, _], _ => rfl
  obtain ⟨fd__law_frame, D__law_frame⟩ := c.d__law_frame
  have O__law_frame := ok__law_frame (P := P) (w := w) (base := base) c D__law_frame
  have B__law_frame : Binds K fd__law_frame ["m", "most", "wide"] [] := D__law_frame.bindsN (ps := ["m", "most", "wide"]) fun _ _ _ _ _ _ us hl => match us, hl with | [_, _, _], _ => rfl
  obtain ⟨fd__law_hand_right, D__law_hand_right⟩ := c.d__law_hand_right
  have O__law_hand_right := ok__law_hand_right (P := P) (w := w) (base := base) c D__law_hand_right
  have B__law_hand_right : Binds K fd__law_hand_right [] [] := D__law_hand_right.bindsN (ps := []) fun _ _ _ _ _ _ us hl => match us, hl with | [], _ => rfl
  refine fnD_ofD (N := ["script", "k", "m"]) (g := g_law) D sc_law fun cdv A outer s H E hg hr => ?_
  unfold g_law
  exact (es_cons (es_for PassesOwn.never rfl (ei_range1 rfl c.b_range (ea_cons (e_op op_addA pure_add e_int (e_callB (call_min2 rfl) pure_min2 rfl c.b_min (by decide +kernel) (ea_cons (e_callB cr_lenA pure_lenA rfl c.b_len (by decide +kernel) (ea_cons (v 0) ea_nil)) (ea_cons e_int ea_nil)))) ea_nil)) (gn 1 sc_law.nd) (es_cons (es_set (i := 2) sc_law.nd rfl (by first | exact Or.inl rfl | exact Or.inr rfl) (e_call O__law_begun (by exact hg) (hr.mono (by decide)) rfl c.m__law_begun D__law_begun.kp B__law_begun (fun _ _ _ _ _ _ _ h => h.elim) (ea_cons (v 0) (ea_cons (v 1) ea_nil)) (aCons_len (aCons_len aNil_len))))
    (es_one (es_if (eb_not (eb_val (e_call O__law_is_told (by exact hg) (hr.mono (by decide)) rfl c.m__law_is_told D__law_is_told.kp B__law_is_told (fun _ _ _ _ _ _ _ h => h.elim) (ea_cons (v 2) (ea_cons (e_call O__law_frame (by exact hg) (hr.mono (by decide)) rfl c.m__law_frame D__law_frame.kp B__law_frame (fun _ _ _ _ _ _ _ h => h.elim) (ea_cons (v 2) (ea_cons e_int (ea_cons e_int ea_nil))) (aCons_len (aCons_len (aCons_len aNil_len)))) ea_nil)) (aCons_len (aCons_len aNil_len))))) (es_one (es_ret e_bl)) es_nil))))
    (es_one (es_ret (e_call0 O__law_hand_right (by exact hg) (hr.mono (by decide)) rfl c.m__law_hand_right D__law_hand_right.kp B__law_hand_right (fun _ _ _ _ _ _ _ h => h.elim)))))
end KG


set_option Elab.async false
set_option linter.all false
set_option maxRecDepth 100000
/-! PA: the draw. -/
namespace KG
open PySem PySem.Spec PyProof.Rows L2 KP
def mk4 (L s : Int) (cs : List Int) (p : Int) : Cd := .m [("left", .int L), ("seed", .int s), ("cells", .list (cs.map PyData.int)), ("spot", .int p)]
def Good (S : Sto) (n t : Nat) : Prop := ∃ (L s : Int) (cs : List Int) (p : Nat), S[n]? = some (mk4 L s cs p) ∧ p ≤ t ∧ cs ≠ []
theorem Good.mono {S : Sto} {n t t' : Nat} (h : Good S n t) (ht : t ≤ t') : Good S n t' := by
  obtain ⟨L, s, cs, p, h1, h2, h3⟩ := h
  exact ⟨L, s, cs, p, h1, by omega, h3⟩
theorem ret_ap {α : Type} (a : α) (S : Sto) : ret a S = .ok a S := rfl
theorem bnd_ok {α β : Type} {m : M α} {k : α → M β} {S S' : Sto} {a : α} (h : m S = .ok a S') : bnd m k S = k a S' := by unfold bnd; rw [h]
theorem lift_ok {α : Type} {env : En} {m : M α} {k : α → M (Fl × En)} {S S' : Sto} {a : α} (h : m S = .ok a S') : lift env m k S = k a S' := by unfold lift; rw [h]
theorem cGet_ap {k : Str} {fo : DF} {env : En} {n : Nat} {S : Sto} {kvs : List (Str × PyData)} {p : PyData} (h1 : fo env = ret (.c n)) (h2 : S[n]? = some (.m kvs)) (h3 : kvs.lookup k = some p) : cGet k fo env S = .ok (.d p) S := by
  unfold cGet
  rw [h1, bnd_ret]
  simp [cellM, h2, h3]
theorem get_left {L s : Int} {cs : List Int} {p : Int} {fo : DF} {env : En} {n : Nat} {S : Sto} (h1 : fo env = ret (.c n)) (h2 : S[n]? = some (mk4 L s cs p)) : cGet "left" fo env S = .ok (.d (.int L)) S := cGet_ap h1 h2 rfl
theorem get_seed {L s : Int} {cs : List Int} {p : Int} {fo : DF} {env : En} {n : Nat} {S : Sto} (h1 : fo env = ret (.c n)) (h2 : S[n]? = some (mk4 L s cs p)) : cGet "seed" fo env S = .ok (.d (.int s)) S := cGet_ap h1 h2 rfl
theorem get_cells {L s : Int} {cs : List Int} {p : Int} {fo : DF} {env : En} {n : Nat} {S : Sto} (h1 : fo env = ret (.c n)) (h2 : S[n]? = some (mk4 L s cs p)) : cGet "cells" fo env S = .ok (.d (.list (cs.map PyData.int))) S := cGet_ap h1 h2 rfl
theorem get_spot {L s : Int} {cs : List Int} {p : Int} {fo : DF} {env : En} {n : Nat} {S : Sto} (h1 : fo env = ret (.c n)) (h2 : S[n]? = some (mk4 L s cs p)) : cGet "spot" fo env S = .ok (.d (.int p)) S := cGet_ap h1 h2 rfl
theorem put_left {L s : Int} {cs : List Int} {p : Int} {i : Nat} {f : DF} {env : En} {n : Nat} {S : Sto} {x : Int} (h0 : f env S = .ok (.d (.int x)) S) (h1 : vT i env = ret (.c n)) (h2 : S[n]? = some (mk4 L s cs p)) : sCPut i "left" f env S = .ok (.nx, env) (S.set n (mk4 x s cs p)) := by
  unfold sCPut
  rw [lift_ok h0, asD_eq, ofO_some, bnd_ret, h1, bnd_ret]
  simp only [cellM, h2, mk4]
  rfl
theorem put_spot {L s : Int} {cs : List Int} {p : Int} {i : Nat} {f : DF} {env : En} {n : Nat} {S : Sto} {x : Int} (h0 : f env S = .ok (.d (.int x)) S) (h1 : vT i env = ret (.c n)) (h2 : S[n]? = some (mk4 L s cs p)) : sCPut i "spot" f env S = .ok (.nx, env) (S.set n (mk4 L s cs x)) := by
  unfold sCPut
  rw [lift_ok h0, asD_eq, ofO_some, bnd_ret, h1, bnd_ret]
  simp only [cellM, h2, mk4]
  rfl
theorem set_at {S : Sto} {n : Nat} {c d : Cd} (h : S[n]? = some c) : (S.set n d)[n]? = some d := by
  have := (List.getElem?_eq_some_iff.mp h).1
  simp [this]
section
variable {env env' : En} {S S1 S2 : Sto} {f g : SF} {e e2 : DF} {c : DB} {v w x : Va} {t : TF} {r : R (Fl × En)}
theorem seq_ok (h : f env S = .ok (.nx, env') S1) : sSeq f g env S = g env' S1 := by rw [sSeq_eq, bnd_ok h]
theorem seq_rt (h : f env S = .ok (.rt v, env') S1) : sSeq f g env S = .ok (.rt v, env') S1 := by rw [sSeq_eq, bnd_ok h]; rfl
theorem asg_ok (h : e env S = .ok v S1) (h2 : t v env = some env') : sAsg e t env S = .ok (.nx, env') S1 := by rw [sAsg_eq, lift_ok h, h2]; rfl
theorem if_ok {b : Bool} (h : c env S = .ok b S1) : sIf c f g env S = if b = true then f env S1 else g env S1 := by rw [sIf_eq, lift_ok h]; split <;> rfl
theorem ret_ok (h : e env S = .ok v S1) : sRet e env S = .ok (.rt v, env) S1 := by rw [sRet_eq, lift_ok h]; rfl
theorem bV_ok {b : Bool} (h : e env S = .ok (.d (.bool b)) S1) : bV e env S = .ok b S1 := by rw [bV_eq, bnd_ok h]; rfl
theorem c1_ok {h : Va → Option Va} (h1 : e env S = .ok v S1) (h2 : h v = some w) : c1 h e env S = .ok w S1 := by rw [c1_eq, bnd_ok h1, h2]; rfl
theorem c2_ok {h : Va → Va → Option Va} (h1 : e env S = .ok v S1) (h2 : e2 env S1 = .ok w S2) (h3 : h v w = some x) : c2 h e e2 env S = .ok x S2 := by rw [c2_eq, bnd_ok h1, bnd_ok h2, h3]; rfl
theorem cN1_ok {h : List Va → Option Va} (h1 : e env S = .ok v S1) (h2 : h [v] = some w) : cN h (aCons e aNil) env S = .ok w S1 := by
  rw [cN_eq, aCons_eq, bnd_assoc, bnd_ok h1, aNil_eq, bnd_ret, bnd_ret, h2]; rfl
theorem cN2_ok {h : List Va → Option Va} (h1 : e env S = .ok v S1) (h3 : e2 env S1 = .ok w S2) (h2 : h [v, w] = some x) : cN h (aCons e (aCons e2 aNil)) env S = .ok x S2 := by
  rw [cN_eq, aCons_eq, bnd_assoc, bnd_ok h1, aCons_eq, bnd_assoc, bnd_assoc, bnd_ok h3, aNil_eq, bnd_ret, bnd_ret, bnd_ret, h2]; rfl
theorem par_ok {a b : DO} {i j : Nat} {sv sw : Sv} (h1 : a env S = .ok sv S1) (h2 : b env S1 = .ok sw S2) (h3 : i < env.length ∧ j < env.length) : sPar a b i j env S = .ok (.nx, (env.set i (some sv)).set j (some sw)) S2 := by
  rw [sPar_eq, lift_ok h1, lift_ok h2, if_pos h3]; rfl
theorem oE_ok (h : e env S = .ok v S1) : oE e env S = .ok (svOf v) S1 := by rw [oE_eq, bnd_ok h]; rfl
end
theorem draw_sat {S : Sto} {n t k : Nat} (hG : Good S n t) (ht : t < 2 ^ 60) (hk : 1 ≤ k) (hk2 : k < 2 ^ 30) : (F__law_draw [.c n, .d (.int k)] S).sat (fun v S' => ∃ r : Nat, v = .d (nI r) ∧ r < k ∧ Good S' n (t + 1) ∧ S'.length = S.length) (fun _ _ => False) := by
  obtain ⟨L, s, cs, p, hS, hp, hc⟩ := hG
  have kp : (0 : Int) < k := by omega
  refine run_sat ?_
  show (g__law_draw [some (.c n), some (.d (.int k)), none, none, none, none, none, none] S).sat _ _
  unfold g__law_draw
  by_cases hL : 0 < L
  · rw [seq_rt (v := .d (.int (L % k))) (env' := [some (.c n), some (.d (.int k)), none, none, none, none, none, some (.d (.int (L % k)))]) (S1 := S.set n (mk4 (L / k) s cs p))]
    · have hm := Int.emod_nonneg L (show (k : Int) ≠ 0 by omega)
      have hm2 := Int.emod_lt_of_pos L kp
      refine ⟨_, rfl, (L % k).toNat, ?_, by omega, ⟨L / k, s, cs, p, set_at hS, by omega, hc⟩, by simp⟩
      show Va.d (.int (L % k)) = .d (.int ((L % k).toNat : Int))
      rw [Int.toNat_of_nonneg hm]
    · rw [if_ok (b := true) (bV_ok (c2_ok (get_left rfl hS) rfl (by simp [hL]))), if_pos rfl]
      rw [seq_ok (asg_ok (c2_ok (cN1_ok (get_left rfl hS) rfl) rfl (gMod_pos kp)) rfl)]
      rw [seq_ok (put_left (c2_ok (get_left rfl hS) rfl (gDiv_pos kp (by omega))) rfl hS)]
      rw [ret_ok rfl]
      rfl
  · rw [seq_ok (S1 := S) (env' := [some (.c n), some (.d (.int k)), none, none, none, none, none, none])]
    · have hlen : 0 < cs.length := by cases cs with
        | nil => exact absurd rfl hc
        | cons _ _ => simp
      have hS1 : (S.set n (mk4 L s cs ((p : Int) + 1)))[n]? = some (mk4 L s cs ((p : Int) + 1)) := set_at hS
      have hix : p % cs.length < cs.length := Nat.mod_lt _ hlen
      have hget : (cs.map PyData.int)[p % cs.length]? = some (.int (cs[p % cs.length])) := by simp [hix]
      have hmod : gMod (.d (.int (p : Int))) (.d (.int ((cs.map PyData.int).length : Int))) = some (.d (.int ((p % cs.length : Nat) : Int))) := by
        rw [List.length_map, gMod_pos (by omega)]; simp
      rw [seq_ok (asg_ok (get_spot rfl hS) rfl)]
      rw [seq_ok (put_spot (c2_ok rfl rfl (gAdd_int _ _)) rfl hS)]
      rw [seq_ok (par_ok (oE_ok (get_cells rfl hS1)) (oE_ok (c2_ok (get_seed rfl hS1) (c2_ok (c2_ok rfl rfl (gMul_int (.inl (by omega)))) rfl (gMul_int (.inr (by omega)))) (gAdd_int _ _))) (by simp))]
      rw [seq_ok (asg_ok (c2_ok rfl (c2_ok (cN1_ok rfl (hInt_eq _)) (cN1_ok rfl (hLen_l _)) hmod) (gIx_l hget)) rfl)]
      generalize cs[p % cs.length] = z
      rw [seq_ok (asg_ok (c2_ok (cN1_ok (c2_ok (c2_ok rfl (c2_ok (c2_ok rfl rfl (gMul_int (.inl (by omega)))) rfl (gAdd_int _ _)) (gMul_int (.inr (by omega)))) rfl (gAdd_int _ _)) (hInt_eq _)) rfl (gMod_pos (by decide))) rfl)]
      generalize hb : (z * (2 * (p : Int) + 3) + (s + 40503 * (p : Int) * (p : Int))) % 2147483647 = b
      have b0 : 0 ≤ b := by rw [← hb]; exact Int.emod_nonneg _ (by decide)
      have b1 : b < 2147483647 := by rw [← hb]; exact Int.emod_lt_of_pos _ (by decide)
      rw [seq_ok (asg_ok (c2_ok (cN1_ok (c2_ok (c2_ok (c2_ok rfl rfl (gMul_int (.inl (by omega)))) (c2_ok rfl rfl (gMul_int (.inl (by omega)))) (gAdd_int _ _)) (get_seed rfl hS1) (gAdd_int _ _)) (hInt_eq _)) rfl (gMod_pos (by decide))) rfl)]
      generalize hd : (b * b + 69621 * (p : Int) + s) % 2147483629 = d
      have d0 : 0 ≤ d := by rw [← hd]; exact Int.emod_nonneg _ (by decide)
      have d1 : d < 2147483629 := by rw [← hd]; exact Int.emod_lt_of_pos _ (by decide)
      rw [ret_ok (c2_ok (c2_ok (c2_ok (cN1_ok (c2_ok (c2_ok rfl rfl (gMul_int (.inl (by omega)))) rfl (gAdd_int _ _)) (hInt_eq _)) rfl (gMod_pos (by decide))) rfl (gDiv_pos (by decide) (by decide))) rfl (gMod_pos kp))]
      generalize hy : (d * 48271 + (p : Int)) % 2147483647 / 11 = y
      have hm := Int.emod_nonneg y (show (k : Int) ≠ 0 by omega)
      have hm2 := Int.emod_lt_of_pos y kp
      refine ⟨_, rfl, (y % k).toNat, ?_, by omega, ⟨L, s, cs, p + 1, by exact_mod_cast hS1, by omega, hc⟩, by simp⟩
      show Va.d (.int (y % k)) = .d (.int ((y % k).toNat : Int))
      rw [Int.toNat_of_nonneg hm]
    · rw [if_ok (b := false) (bV_ok (c2_ok (get_left rfl hS) rfl (by simp [hL])))]; rfl
end KG


set_option Elab.async false
set_option linter.all false
set_option maxRecDepth 100000
/-! PB: the draw's begin, a choice. -/
namespace KG
open PySem PySem.Spec PyProof.Rows L2 KP
theorem of_sat {S : Sto} {n t : Nat} {xs : List PyData} (hG : Good S n t) (ht : t < 2 ^ 60) (hx : xs ≠ []) (hl : xs.length < 2 ^ 30) : (F__law_of [.c n, .d (.list xs)] S).sat (fun v S' => ∃ x ∈ xs, v = .d x ∧ Good S' n (t + 1) ∧ S'.length = S.length) (fun _ _ => False) := by
  have h0 : 1 ≤ xs.length := by cases xs with
    | nil => exact absurd rfl hx
    | cons _ _ => simp
  refine run_sat ?_
  show (g__law_of [some (.c n), some (.d (.list xs))] S).sat _ _
  unfold g__law_of
  rw [sRet_eq]
  refine sat_lift.mpr ?_
  simp only [c2_eq, vT_eq, eCall_eq, aCons_eq, aNil_eq, cN_eq, lk0, lkS, Option.bind_some, still_d, still_c, ofO_some, bnd_ret, hLen_l]
  refine sat_bnd.mpr ((draw_sat hG ht h0 hl).mono (fun v S1 h => ?_) fun _ _ q => q.elim)
  obtain ⟨r, rfl, hr, g, l⟩ := h
  rw [gIx_l (x := xs[r]) (by simp [hr])]
  exact ⟨_, rfl, xs[r], by simp, rfl, g, l⟩
theorem int_list_fits (cs : List Int) : fits [cs.length] (.list (cs.map PyData.int)) = true := by
  simp [fits]
theorem ge_big {a0 a1 a2 a3 a4 : Option Sv} (z : Int) : c2 gGe (vT 5) (c2 gPow (kC (.int 10)) (kC (.int 18))) [a0, a1, a2, a3, a4, some (.d (.int z))] = ret (.d (.bool (decide (10 ^ 18 ≤ z)))) := by
  have hp : gPow (.d (.int 10)) (.d (.int 18)) = some (.d (.int (10 ^ 18))) := by simp [gPow]
  simp [hp]
theorem begun_sat {S : Sto} {ns : List Int} {k : Nat} (hl : ns.length ≤ 63) (hk : k ≤ 64) : (F__law_begun [.s ns, .d (.int k)] S).sat (fun v S' => v = .c S.length ∧ Good S' S.length 0 ∧ S'.length = S.length + 1) (fun _ _ => False) := by
  refine run_sat ?_
  show (g__law_begun [some (.s ns), some (.d (.int k)), none, none, none, none] S).sat _ _
  unfold g__law_begun
  have hc : ∃ cs : List Int, cs.length ≤ 126 ∧ c2 gAdd (eSl gSlA (vT 0) (some (vT 1)) none) (eSl gSlA (vT 0) none (some (vT 1))) [some (.s ns), some (.d (.int k)), none, none, none, none] = ret (.d (.list (cs.map PyData.int))) := by
    refine ⟨KP.cutD ns (some k) none ++ KP.cutD ns none (some k), ?_, ?_⟩
    · have h1 := cutD_len ns (some (k : Int)) none
      have h2 := cutD_len ns none (some (k : Int))
      rw [List.length_append]
      omega
    · have h1 := cutD_len ns (some (k : Int)) none
      have h2 := cutD_len ns none (some (k : Int))
      have h3 : (KP.cutD ns (some (k : Int)) none).length + (KP.cutD ns none (some (k : Int))).length ≤ sizeLine := by rw [sizeLine_eq]; omega
      simp only [c2_eq, eSl, partF, vT_eq, lk0, lkS, Option.bind_some, still_d, still_s, ofO_some, bnd_ret, asI_eq, gSlA, gSlL, if_pos (show ns.length ≤ 1000 by omega)]
      simp only [gAdd, gDD_eq, hAdd, List.length_map, if_pos h3, Option.map_some, ofO_some, List.map_append]
  obtain ⟨cs, hcl, hc⟩ := hc
  have hg : lcA (lSeq (vT 2)) (gN 5) (bV (c2 gGe (vT 5) (c2 gPow (kC (.int 10)) (kC (.int 18))))) (vT 5) [5] [some (.s ns), some (.d (.int k)), some (.d (.list (cs.map PyData.int))), none, none, none] = ret ((cs.filter fun z => decide (10 ^ 18 ≤ z)).map PyData.int) := by
    refine lcA_of (f := PyData.int) (xs := cs) ?_ (by rw [sizeLine_eq]; omega) fun z hz => ⟨_, rfl, ?_, fun _ => rfl⟩
    · simp
    · show bV _ [some (.s ns), some (.d (.int k)), some (.d (.list (cs.map PyData.int))), none, none, some (.d (.int z))] = _
      rw [bV_eq, ge_big]; rfl
  generalize hgr : (cs.filter fun z => decide (10 ^ 18 ≤ z)) = gr at hg
  rw [seq_ok (env' := [some (.s ns), some (.d (.int k)), some (.d (.list (cs.map PyData.int))), none, none, none]) (asg_ok (congrFun hc S) rfl)]
  rw [seq_ok (env' := [some (.s ns), some (.d (.int k)), some (.d (.list (cs.map PyData.int))), some (.d (.list (gr.map PyData.int))), none, none]) (asg_ok (congrFun (show _ = ret (.d (.list (gr.map PyData.int))) by rw [fD_eq, hg]; rfl) S) rfl)]
  rw [seq_ok (env' := [some (.s ns), some (.d (.int k)), some (.d (.list (cs.map PyData.int))), some (.d (.list (gr.map PyData.int))), some (.d (.int (71 + k))), none]) (asg_ok (c2_ok rfl rfl (gAdd_int _ _)) rfl)]
  obtain ⟨env', hlp, s, o, rfl, hs0, hs1⟩ := loop_pure (t := gN 5) (body := sAsg (c2 gMod (cN (on1 hInt) (aCons (c2 gAdd (c2 gMul (vT 4) (kC (.int 48271))) (vT 5)) aNil)) (kC (.int 2147483647))) (gN 4)) (f := PyData.int) (xs := cs)
    (env := [some (.s ns), some (.d (.int k)), some (.d (.list (cs.map PyData.int))), some (.d (.list (gr.map PyData.int))), some (.d (.int (71 + k))), none])
    (fun _ env => ∃ (s : Int) (o : Option Sv), env = [some (.s ns), some (.d (.int k)), some (.d (.list (cs.map PyData.int))), some (.d (.list (gr.map PyData.int))), some (.d (.int s)), o] ∧ 0 ≤ s ∧ s < 2 ^ 40)
    ⟨71 + k, none, rfl, by omega, by omega⟩ (by
      rintro done z rest env he ⟨s, o, rfl, h0, h1⟩
      refine ⟨[some (.s ns), some (.d (.int k)), some (.d (.list (cs.map PyData.int))), some (.d (.list (gr.map PyData.int))), some (.d (.int ((s * 48271 + z) % 2147483647))), some (.d (.int z))], ?_, _, _, rfl, Int.emod_nonneg _ (by decide), ?_⟩
      · have e1 := gMul_int (i := s) (j := 48271) (.inl (by omega))
        have e2 := gMod_pos (i := s * 48271 + z) (j := 2147483647) (by decide)
        simp [e1, e2]
      · have := Int.emod_lt_of_pos (s * 48271 + z) (show (0 : Int) < 2147483647 by decide)
        omega)
  rw [seq_ok (congrFun (show sFor _ _ _ _ = _ by rw [sFor_eq]; simp only [lSeq_eq, vT_eq, lk0, lkS, Option.bind_some, still_d, ofO_some, bnd_ret, seqOf_l, lift_ret]; exact hlp) S)]
  rw [sRet_eq]
  refine sat_lift.mpr ?_
  have hleft : ∃ L : Int, eIf (bV (c2 gNe (vT 3) (cN gLstD aNil))) (c2 gIx (vT 3) (kC (.int 0))) (kC (.int 0)) [some (.s ns), some (.d (.int k)), some (.d (.list (cs.map PyData.int))), some (.d (.list (gr.map PyData.int))), some (.d (.int s)), o] = ret (.d (.int L)) := by
    cases gr with
    | nil =>
      refine ⟨0, ?_⟩
      have e := gNe_of (p := .list []) (q := .list []) (bs := [0]) (cs := [0]) rfl rfl (by decide) (by decide) (k := true) (by simp)
      simp [e]
    | cons z gr =>
      refine ⟨z, ?_⟩
      have e := gNe_of (p := .list ((z :: gr).map PyData.int)) (q := .list []) (bs := [(z :: gr).length]) (cs := [0]) (int_list_fits _) rfl (by simp) (by decide) (k := false) (by simp)
      simp only [List.map_cons] at e ⊢
      simp [e]
  obtain ⟨L, hleft⟩ := hleft
  have hcells : c2 gAdd (vT 2) (cN gLstD (aCons (c2 gAdd (c2 gMul (kC (.int 41)) (vT 1)) (kC (.int 3))) aNil)) [some (.s ns), some (.d (.int k)), some (.d (.list (cs.map PyData.int))), some (.d (.list (gr.map PyData.int))), some (.d (.int s)), o] = ret (.d (.list ((cs ++ [41 * (k : Int) + 3]).map PyData.int))) := by
    have e1 := gMul_int (i := 41) (j := k) (.inl (by omega))
    have h3 : cs.length + 1 ≤ sizeLine := by rw [sizeLine_eq]; omega
    simp [e1, gAdd, hAdd, h3]
  have hcell : newCell [("left", (eIf (bV (c2 gNe (vT 3) (cN gLstD aNil))) (c2 gIx (vT 3) (kC (.int 0))) (kC (.int 0)))), ("seed", (vT 4)), ("cells", (c2 gAdd (vT 2) (cN gLstD (aCons (c2 gAdd (c2 gMul (kC (.int 41)) (vT 1)) (kC (.int 3))) aNil)))), ("spot", (kC (.int 0)))] [some (.s ns), some (.d (.int k)), some (.d (.list (cs.map PyData.int))), some (.d (.list (gr.map PyData.int))), some (.d (.int s)), o] S = .ok (.c S.length) (S ++ [mk4 L s (cs ++ [41 * (k : Int) + 3]) 0]) := by
    unfold newCell
    simp only [pairsF, hleft, hcells, bnd_ret, asD_eq, ofO_some, vT_eq, kC_eq, lk0, lkS, Option.bind_some, still_d]
    rfl
  rw [hcell]
  refine ⟨_, rfl, rfl, ⟨L, s, cs ++ [41 * (k : Int) + 3], 0, ?_, by omega, by simp⟩, by simp⟩
  simp
end KG


set_option Elab.async false
set_option linter.all false
set_option maxRecDepth 100000
/-! PC: numbered. -/
namespace KG
open PySem PySem.Spec PyProof.Rows L2 KP
/-- how a dict of first places stands -/
structure Keyed {α : Type} [DecidableEq α] (enc : α → PyData) (st : List α → Dk) : Prop where
  h0 : st [] = .k []
  hset : ∀ fs x, fs.Nodup → fs.length < sizeLine → ∃ r, (st fs).setd (enc x) (nI fs.length) = some (r, st (fstep fs x))
  hget : ∀ fs x, fs.Nodup → x ∈ fs → gDGet (.d (st fs).data) (.d (enc x)) = some (.d (nI (fs.idxOf x)))
  hlen : ∀ fs, on1 hLenA [.d (st fs).data] = some (.d (.int fs.length))
theorem numbered_of {α : Type} [DecidableEq α] {enc : α → PyData} {st : List α → Dk} (H : Keyed enc st) {xs : List α} (hl : xs.length < sizeLine) {p : PyData} (hv : seqOf (.d p) = some (xs.map enc)) : F_numbered [.d p] = ret (.d (tN (numb xs))) := by
  obtain ⟨env', hlp, o, rfl⟩ := loop_pure (t := gN 3) (body := sSeq (sSetd 1 (vT 3) (c1 immV (cN (on1 hLenA) (aCons (vF 1) aNil)))) (sApp 2 (c1 immV (c2 gDGet (vF 1) (vF 3))))) (f := enc) (xs := xs)
    (env := [some (.d p), some (.dd (.k [])), some (.l1 []), none])
    (fun done env => ∃ o : Option Sv, env = [some (.d p), some (.dd (st (firsts done))), some (.l1 ((numb done).map nI)), o])
    ⟨none, by rw [show firsts ([] : List α) = [] from rfl, H.h0]; rfl⟩ (by
      rintro done x rest env he ⟨o, rfl⟩
      have hdl : done.length < sizeLine := by rw [he] at hl; simp at hl; omega
      have hfl : (firsts done).length < sizeLine := Nat.lt_of_le_of_lt (firsts_len done) hdl
      obtain ⟨r, hr⟩ := H.hset (firsts done) x (nodup_firsts done) hfl
      have hg := H.hget (fstep (firsts done) x) x (nodup_fstep (nodup_firsts done)) (mem_fstep.mpr (.inr rfl))
      refine ⟨[some (.d p), some (.dd (st (firsts (done ++ [x])))), some (.l1 ((numb (done ++ [x])).map nI)), some (.d (enc x))], ?_, _, rfl⟩
      rw [firsts_snoc, numb_snoc]
      simp [H.hlen, hr, hg, numb_len, hdl])
  refine run_ret (env' := [some (.d p), some (.dd (st (firsts xs))), some (.l1 ((numb xs).map nI)), o]) ?_
  show g_numbered [some (.d p), none, none, none] = _
  unfold g_numbered
  have hi := immV_of (tN_imm (numb xs))
  simp only [sSeq_eq, sPar_eq, oD_eq, oF_eq, fLst_eq, aNil_eq, bnd_ret, toDs_nil, ofO_some, lift_ret, List.length_nil, Nat.zero_le, if_true, List.length_cons, List.set, sFor_eq, lSeq_eq, vT_eq, lk0, Option.bind_some, still_d, hv]
  simp [hv, hlp, hi]
section
variable {α κ : Type} [DecidableEq α] [DecidableEq κ]
def al (key : α → κ) (fs : List α) (n : Nat) : List (κ × PyData) := (fs.zipIdx n).map fun q => (key q.1, nI q.2)
theorem al_len (key : α → κ) (fs : List α) (n : Nat) : (al key fs n).length = fs.length := by simp [al]
theorem al_find {key : α → κ} (hk : ∀ a b, key a = key b → a = b) : ∀ (fs : List α) (n : Nat) (x : α), (al key fs n).find? (fun kv => decide (kv.1 = key x)) = if x ∈ fs then some (key x, nI (n + fs.idxOf x)) else none
  | [], n, x => by simp [al]
  | f :: fs, n, x => by
    have ih := al_find hk fs (n + 1) x
    have e : al key (f :: fs) n = (key f, nI n) :: al key fs (n + 1) := by simp [al, List.zipIdx_cons]
    rw [e, List.find?_cons]
    by_cases h : f = x
    · subst h; simp
    · have h2 : ¬ key f = key x := fun z => h (hk _ _ z)
      have h3 : ¬ x = f := fun z => h z.symm
      simp only [h2, decide_false, ih, List.mem_cons, h3, false_or, List.idxOf_cons]
      split
      · have hb : (f == x) = false := by simpa using h
        simp only [hb, cond_false]
        congr 3
        omega
      · rfl
theorem al_val {key : α → κ} (hk : ∀ a b, key a = key b → a = b) (fs : List α) (x : α) : valD (al key fs 0) (key x) = if x ∈ fs then some (nI (fs.idxOf x)) else none := by
  unfold KP.valD
  rw [al_find hk]
  split <;> simp
theorem al_put {key : α → κ} (hk : ∀ a b, key a = key b → a = b) {fs : List α} {x : α} (hx : x ∉ fs) : putD (al key fs 0) (key x) (nI fs.length) = al key (fs ++ [x]) 0 := by
  have h : ((al key fs 0).any fun kv => decide (kv.1 = key x)) = false := by
    have := al_find hk fs 0 x
    rw [if_neg hx] at this
    rw [List.any_eq_false]
    exact List.find?_eq_none.mp this
  unfold putD
  rw [if_neg (by rw [h]; decide)]
  simp [al, List.zipIdx_append]
end
theorem keyP_inj : ∀ a b : Key, keyP a = keyP b → a = b := by
  intro a b h
  have := congrArg asKey h
  rw [asKey_keyP, asKey_keyP] at this
  exact Option.some.inj this
theorem keyed_nat : Keyed nI (fun fs : List Nat => .k (al (fun n : Nat => (.inl (n : Int) : Key)) fs 0)) := by
  have hk : ∀ a b : Nat, (.inl (a : Int) : Key) = .inl (b : Int) → a = b := fun a b h => by have := Sum.inl.inj h; omega
  have ha : ∀ n : Nat, asKey (nI n) = some (.inl (n : Int)) := fun _ => rfl
  refine ⟨rfl, fun fs x hn hl => ?_, fun fs x hn hx => ?_, fun fs => ?_⟩
  · have hv := al_val hk fs x
    unfold fstep
    by_cases hx : x ∈ fs
    · rw [if_pos hx] at hv ⊢
      exact ⟨nI (fs.idxOf x), by simp only [Dk.setd, ha, al_len, if_pos hl, hv]⟩
    · rw [if_neg hx] at hv ⊢
      exact ⟨nI fs.length, by simp only [Dk.setd, ha, al_len, if_pos hl, hv, al_put hk hx]⟩
  · have := al_find hk fs 0 x
    rw [if_pos hx] at this
    simp only [gDGet, Dk.data, dlook, ha, List.find?_map]
    have e : ((fun q : PyData × PyData => decide (asKey q.1 = some (Sum.inl (x : Int)))) ∘ fun p : Key × PyData => (keyP p.1, p.2)) = fun kv => decide (kv.1 = (.inl (x : Int) : Key)) := by
      funext q
      simp [asKey_keyP]
    rw [e, this]
    simp
  · simp [Dk.data, al_len]
def kN (n : Nat) : Key := .inl (n : Int)
def kT (ns : List Nat) : List Key := ns.map kN
theorem keyed_tup : Keyed tN (fun fs : List (List Nat) => if fs = [] then .k [] else .t (al kT fs 0)) := by
  have hk : ∀ a b : List Nat, kT a = kT b → a = b := by
    intro a b h
    exact (List.map_inj_right (f := kN) (fun x y e => by have := Sum.inl.inj e; omega)).mp h
  have ha : ∀ ns : List Nat, asKeyT (tN ns) = some (kT ns) := by
    intro ns
    show asKeys (ns.map nI) = _
    induction ns with
    | nil => rfl
    | cons n ns ih => simp only [List.map_cons, asKeys, asKey, Option.bind_some, ih, Option.map_some]; rfl
  have ha0 : ∀ ns : List Nat, asKey (tN ns) = none := fun ns => rfl
  refine ⟨rfl, fun fs x hn hl => ?_, fun fs x hn hx => ?_, fun fs => ?_⟩
  · have hv := al_val hk fs x
    unfold fstep
    cases fs with
    | nil => exact ⟨nI 0, by simp [Dk.setd, ha0, ha, al]⟩
    | cons f fs =>
      by_cases hx : x ∈ f :: fs
      · rw [if_pos hx] at hv ⊢
        obtain ⟨u, hu⟩ : ∃ u, valD (al kT (f :: fs) 0) (kT x) = some u := ⟨_, hv⟩
        exact ⟨u, by
          rw [if_neg (by simp)]
          simp only [Dk.setd, ha, al_len, if_pos hl, hu]⟩
      · rw [if_neg hx] at hv ⊢
        exact ⟨nI (f :: fs).length, by
          rw [if_neg (by simp), if_neg (by simp)]
          simp only [Dk.setd, ha, al_len, if_pos hl, hv, al_put hk hx]⟩
  · have := al_find hk fs 0 x
    rw [if_pos hx] at this
    have hne : fs ≠ [] := by intro z; subst z; simp at hx
    rw [if_neg hne]
    simp only [gDGet, Dk.data, dlook, ha, ha0, List.find?_map]
    have e : ((fun q : PyData × PyData => decide (asKeyT q.1 = some (kT x))) ∘ fun p : List Key × PyData => (keyT p.1, p.2)) = fun kv => decide (kv.1 = kT x) := by
      funext q
      simp [asKeyT_keyT]
    rw [e, this]
    simp
  · split
    · rename_i h; subst h; rfl
    · simp [Dk.data, al_len]
theorem numbered_t {ns : List Nat} (h : ns.length < sizeLine) : F_numbered [.d (tN ns)] = ret (.d (tN (numb ns))) := numbered_of keyed_nat h rfl
theorem numbered_l {ns : List Nat} (h : ns.length < sizeLine) : F_numbered [.d (lI ns)] = ret (.d (tN (numb ns))) := numbered_of keyed_nat h rfl
theorem numbered_lt {xs : List (List Nat)} (h : xs.length < sizeLine) : F_numbered [.d (.list (xs.map tN))] = ret (.d (tN (numb xs))) := numbered_of keyed_tup h rfl
end KG


set_option Elab.async false
set_option linter.all false
set_option maxRecDepth 100000
/-! PD: machines and partings are let by. -/
namespace KG
open PySem PySem.Spec PyProof.Rows L2 KP
def isWh (p : PyData) (lo hi : Int) : Bool := match p with
  | .int i => decide (lo ≤ i) && decide (i ≤ hi)
  | _ => false
theorem is_whole_eq (p : PyData) (lo hi : Int) : F_is_whole [.d p, .d (.int lo), .d (.int hi)] = ret (vB (isWh p lo hi)) := by
  refine run_fin ?_
  unfold g_is_whole startE
  cases p with
  | int i =>
    by_cases h : lo ≤ i
    · simp [gIsi, isiB, tyName, isWh, vB, h]
    · simp [gIsi, isiB, tyName, isWh, vB, h]
  | _ => simp [gIsi, isiB, tyName, isWh, vB]
def isLn (p : PyData) (n : Nat) : Bool := match p with
  | .tuple xs => decide (1 ≤ xs.length) && decide (xs.length ≤ 4) && (decide (n = 0) || decide (xs.length = n))
  | _ => false
theorem is_line_eq (p : PyData) (n : Nat) : F_is_line [.d p, .d (nI n)] = ret (vB (isLn p n)) := by
  refine run_fin ?_
  unfold g_is_line startE
  cases p with
  | tuple xs =>
    have e1 : (decide ((1 : Int) ≤ xs.length)) = decide (1 ≤ xs.length) := by rw [decide_eq_decide]; omega
    have e2 : (decide ((xs.length : Int) ≤ 4)) = decide (xs.length ≤ 4) := by rw [decide_eq_decide]; omega
    have e3 : (decide ((n : Int) = 0)) = decide (n = 0) := by rw [decide_eq_decide]; omega
    have e4 : (decide ((xs.length : Int) = n)) = decide (xs.length = n) := by rw [decide_eq_decide]; omega
    by_cases h1 : 1 ≤ xs.length
    · by_cases h2 : xs.length ≤ 4
      · by_cases h3 : n = 0
        · simp [gIsi, isiB, tyName, isLn, vB, e1, e2, e3, h1, h2, h3]
        · simp [gIsi, isiB, tyName, isLn, vB, e1, e2, e3, e4, h1, h2, h3]
      · simp [gIsi, isiB, tyName, isLn, vB, e1, e2, e3, e4, h1, h2]
    · simp [gIsi, isiB, tyName, isLn, vB, e1, e2, e3, e4, h1]
  | _ => simp [gIsi, isiB, tyName, isLn, vB]
/-- a right machine of n standings and l letters -/
structure Mach (rows : List (List Nat)) (sh : List Nat) (n l : Nat) : Prop where
  n0 : 1 ≤ n
  n8 : n ≤ 8
  l0 : 1 ≤ l
  l4 : l ≤ 4
  len : rows.length = n
  row : ∀ r ∈ rows, r.length = l ∧ ∀ x ∈ r, x < n
  slen : sh.length = n
  sh9 : ∀ x ∈ sh, x ≤ 9
theorem mem_zip {α : Type} {r : α} {i : Nat} {xs : List α} {done rest : List (α × Nat)} (he : xs.zipIdx = done ++ (r, i) :: rest) : r ∈ xs := by
  have : (r, i) ∈ xs.zipIdx := by rw [he]; simp
  exact (List.mem_zipIdx' this).2 ▸ List.getElem_mem _
section
variable {rows : List (List Nat)} {sh : List Nat} {n l : Nat}
theorem isWh_nat {a b : Nat} (h : a ≤ b) : isWh (nI a) 0 b = true := by simp [isWh]; omega
theorem isLn_row {r : List Nat} {k : Nat} (M : Mach rows sh n l) (hr : r ∈ rows) (hk : k = 0 ∨ k = l) : isLn (tN r) k = true := by
  have := (M.row r hr).1
  have h1 := M.l0
  have h4 := M.l4
  simp [isLn, this]; omega
theorem wrong_in_table_ok (M : Mach rows sh n l) : F_wrong_in_table [.d (tT rows)] = ret (.d .none) := by
  have hn : rows.length = n := M.len
  have h1 := M.n0
  have h8 := M.n8
  have hsub : (n : Int) - 1 = ((n - 1 : Nat) : Int) := by omega
  have e1 : (1 : Int) ≤ n := by omega
  have e2 : (n : Int) ≤ 8 := by omega
  have e3 := enum_t tN rows
  refine Pu.eq (Pu.run ?_)
  unfold g_wrong_in_table startE
  simp [gIsi, isiB, tyName, vB, hn, e1, e2, e3]
  refine Pu.bnd (Pu.loop (f := fun q : List Nat × Nat => .tuple [nI q.2, tN q.1]) (xs := rows.zipIdx) (fun done env => ∃ (a b : Option Sv) (k : Nat), env = [some (.d (tT rows)), some (.d (nI k)), a, b, none, none] ∧ (k = 0 ∨ k = l)) ⟨none, none, 0, rfl, .inl rfl⟩ ?_) ?_
  · rintro done ⟨r, i⟩ rest env he ⟨a, b, k, rfl, hk⟩
    have hr := mem_zip he
    have hlen := (M.row r hr).1
    have hc := is_line_eq (tN r) k
    rw [isLn_row M hr hk] at hc
    simp [hc, hlen]
    exact Pu.ret ⟨rfl, _, _, l, rfl, .inr rfl⟩
  · rintro ⟨fl, env⟩ ⟨hfl, a, b, k, he, hk⟩
    dsimp only at hfl he
    subst hfl he
    simp [e3]
    refine Pu.bnd (Pu.loop (f := fun q : List Nat × Nat => .tuple [nI q.2, tN q.1]) (xs := rows.zipIdx) (fun done env => ∃ (a b c d : Option Sv), env = [some (.d (tT rows)), some (.d (nI k)), a, b, c, d]) ⟨a, b, none, none, rfl⟩ ?_) ?_
    · rintro done ⟨r, i⟩ rest env he ⟨a, b, c, d, rfl⟩
      have hr := mem_zip he
      have := enum_t nI r
      simp [this]
      refine (Pu.loop (f := fun q : Nat × Nat => .tuple [nI q.2, nI q.1]) (xs := r.zipIdx) (fun done env => ∃ (c d : Option Sv), env = [some (.d (tT rows)), some (.d (nI k)), some (.d (nI i)), some (.d (tN r)), c, d]) ⟨c, d, rfl⟩ ?_).mono ?_
      · rintro done ⟨g, j⟩ rest env he ⟨c, d, rfl⟩
        have hlt := (M.row r hr).2 g (mem_zip he)
        have hc := is_whole_eq (nI g) 0 ((n - 1 : Nat) : Int)
        rw [isWh_nat (by omega)] at hc
        simp [hn, hsub, hc]
        exact Pu.ret ⟨rfl, _, _, rfl⟩
      · rintro ⟨fl, env⟩ ⟨hfl, c, d, he⟩
        exact ⟨hfl, _, _, _, _, he⟩
    · rintro ⟨fl, env⟩ ⟨hfl, a, b, c, d, he⟩
      dsimp only at hfl he
      subst hfl he
      simp
      exact Pu.ret rfl
theorem wrong_place_ok (M : Mach rows sh n l) : F_wrong_place [.d (mM rows sh)] = ret (.d .none) := by
  have e3 := enum_t nI sh
  refine Pu.eq (Pu.run ?_)
  unfold g_wrong_place startE
  simp [gIsi, isiB, tyName, vB, wrong_in_table_ok M, M.len, M.slen, e3]
  refine Pu.bnd (Pu.loop (f := fun q : Nat × Nat => .tuple [nI q.2, nI q.1]) (xs := sh.zipIdx) (fun done env => ∃ (a b : Option Sv), env = [some (.d (mM rows sh)), some (.d .none), a, b]) ⟨none, none, rfl⟩ ?_) ?_
  · rintro done ⟨g, j⟩ rest env he ⟨c, d, rfl⟩
    have hlt := M.sh9 g (mem_zip he)
    have hc := is_whole_eq (nI g) 0 ((9 : Nat) : Int)
    rw [isWh_nat (by omega)] at hc
    simp at hc
    simp [hc]
    exact Pu.ret ⟨rfl, _, _, rfl⟩
  · rintro ⟨fl, env⟩ ⟨hfl, a, b, he⟩
    dsimp only at hfl he
    subst hfl he
    simp
    exact Pu.ret rfl
theorem need_machine_ok (M : Mach rows sh n l) : F_need_machine [.d (mM rows sh)] = ret (.d (mM rows sh)) := by
  refine run_fin ?_
  unfold g_need_machine startE
  simp [wrong_place_ok M, vB]
theorem size_of_eq (M : Mach rows sh n l) : F_size_of [.d (mM rows sh)] = ret (.d (nI n)) := by
  refine run_fin ?_
  unfold g_size_of startE
  simp [M.len]
theorem rngL_nat (n : Nat) : rngL 0 (n : Int) = (List.range n).map nI := by simp [rngL]
theorem letters_of_eq (M : Mach rows sh n l) : F_letters_of [.d (mM rows sh)] = ret (.d (lI (List.range l))) := by
  refine run_fin ?_
  unfold g_letters_of startE
  have h0 : 0 < rows.length := by have := M.n0; have := M.len; omega
  have h1 := ix_tR0 h0
  have h2 : (atR rows 0).length = l := (M.row _ (atR_mem h0)).1
  have h4 := M.l4
  have h3 : gLRg (.d (.int (l : Int))) = some (.d (lI (List.range l))) := by
    simp only [gLRg, rngL_nat]
    rw [if_pos (by omega)]
  simp [h1, h2, h3]
/-- a parting of n standings -/
structure Part (ns : List Nat) (n : Nat) : Prop where
  len : ns.length = n
  num : numb ns = ns
theorem Part.lt {ns : List Nat} (h : Part ns n) {x : Nat} (hx : x ∈ ns) : x < n := by
  rw [← h.num] at hx
  rw [← h.len]
  exact numb_lt hx
theorem asBools_map {α : Type} (b : α → Bool) (ms : List α) : asBools (ms.map fun x => PyData.bool (b x)) = some (ms.map b) := by
  induction ms with
  | nil => rfl
  | cons m ms ih => simp [asBools, ih]
theorem all_bools {α : Type} (b : α → Bool) (ms : List α) : on1 hAll [.d (.list (ms.map fun x => PyData.bool (b x)))] = some (vB (ms.all b)) := by
  simp [on1, hAll, asBools_map]
theorem is_parting_of_ok (M : Mach rows sh n l) {ns : List Nat} (h : Part ns n) : F_is_parting_of [.d (mM rows sh), .d (tN ns)] = ret (vB true) := by
  refine run_fin ?_
  unfold g_is_parting_of startE
  have hl := h.len
  have h0 := M.n0
  have h8 := M.n8
  have hs : ns.length < sizeLine := by rw [sizeLine_eq]; omega
  have c1 := size_of_eq M
  have c3 := numbered_t hs
  rw [h.num] at c3
  have hsub : (n : Int) - 1 = ((n - 1 : Nat) : Int) := by omega
  have c2 : lcA (lSeq (vT 1)) (gN 2) bYes (eCallA true F_is_whole (aCons (vT 2) (aCons (kC (.int 0)) (aCons (c2 gSub (cN (on1 hLenA) (aCons (vT 1) aNil)) (kC (.int 1))) aNil)))) [2] [some (.d (mM rows sh)), some (.d (tN ns)), none] = ret (ns.map fun _ => .bool true) := by
    refine lcA_all (f := nI) (by simp) (by omega) fun x hx => ?_
    have hc := is_whole_eq (nI x) 0 ((n - 1 : Nat) : Int)
    rw [isWh_nat (by have := h.lt hx; omega)] at hc
    simp [hl, hsub, hc, vB]
  have hb := all_bools (fun _ => true) ns
  have heq := gEq_of (p := tN ns) (q := tN ns) (bs := [8]) (cs := [8]) (fits_tN (by omega)) (fits_tN (by omega)) (k := true) (hk := by simp)
  simp [gIsi, isiB, tyName, c1, hl, c2, c3, hb, heq, vB]
theorem need_parting_ok (M : Mach rows sh n l) {ns : List Nat} (h : Part ns n) : F_need_parting [.d (mM rows sh), .d (tN ns)] = ret (.d (tN ns)) := by
  refine run_fin ?_
  unfold g_need_parting startE
  simp [need_machine_ok M, is_parting_of_ok M h, vB]
/-- where the letters lead, by a parting -/
def cols (rows : List (List Nat)) (sheet : List Nat) (l : Nat) : List (List Nat) := (List.range l).map fun j => rows.map fun r => at0 sheet (at0 r j)
theorem Mach.at_lt (M : Mach rows sh n l) {r : List Nat} (hr : r ∈ rows) {j : Nat} (hj : j < l) : at0 r j < n := by
  have := M.row r hr
  exact this.2 _ (at0_mem (by omega))
end
end KG


set_option Elab.async false
set_option linter.all false
set_option maxRecDepth 100000
/-! PE: drawn machines. -/
namespace KG
open PySem PySem.Spec PyProof.Rows L2 KP
theorem draw' {S : Sto} {c t k : Nat} (hG : Good S c t) (ht : t < 2 ^ 60) (hk : 1 ≤ k) (hk2 : k < 2 ^ 30) : Sat (F__law_draw [.c c, .d (.int k)]) S (fun v S' => ∃ r : Nat, v = .d (nI r) ∧ r < k ∧ Good S' c (t + 1) ∧ S'.length = S.length) := ⟨draw_sat hG ht hk hk2⟩
theorem of' {S : Sto} {c t : Nat} {α : Type} {f : α → PyData} {xs : List α} (hG : Good S c t) (ht : t < 2 ^ 60) (hx : xs ≠ []) (hl : xs.length < 2 ^ 30) : Sat (F__law_of [.c c, .d (.list (xs.map f))]) S (fun v S' => ∃ x ∈ xs, v = .d (f x) ∧ Good S' c (t + 1) ∧ S'.length = S.length) := by
  refine Sat.mono ⟨of_sat hG ht (by simpa using hx) (by simpa using hl)⟩ ?_
  rintro v S' ⟨x, hx, rfl, h1, h2⟩
  obtain ⟨y, hy, rfl⟩ := List.mem_map.mp hx
  exact ⟨y, hy, rfl, h1, h2⟩
section
variable {α β : Type} {S : Sto} {c t k : Nat} {P : α → Sto → Prop} {env : En}
theorem dLB {f : Va → M β} {k' : β → M (Fl × En)} {K : Fl × En → M α} (hG : Good S c t) (ht : t < 2 ^ 60) (hk : 1 ≤ k) (hk2 : k < 2 ^ 30) (h : ∀ (r : Nat) S', r < k → Good S' c (t + 1) → S'.length = S.length → Sat (bnd (lift env (f (.d (.int r))) k') K) S' P) : Sat (bnd (lift env (bnd (F__law_draw [.c c, .d (.int k)]) f) k') K) S P :=
  Sat.lb (draw' hG ht hk hk2) fun a S' ⟨r, e, h1, h2, h3⟩ => by rw [e]; exact h r S' h1 h2 h3
theorem dL {k' : Va → M (Fl × En)} {K : Fl × En → M α} (hG : Good S c t) (ht : t < 2 ^ 60) (hk : 1 ≤ k) (hk2 : k < 2 ^ 30) (h : ∀ (r : Nat) S', r < k → Good S' c (t + 1) → S'.length = S.length → Sat (bnd (k' (.d (.int r))) K) S' P) : Sat (bnd (lift env (F__law_draw [.c c, .d (.int k)]) k') K) S P :=
  Sat.l (draw' hG ht hk hk2) fun a S' ⟨r, e, h1, h2, h3⟩ => by rw [e]; exact h r S' h1 h2 h3
theorem dB {K : Va → M α} (hG : Good S c t) (ht : t < 2 ^ 60) (hk : 1 ≤ k) (hk2 : k < 2 ^ 30) (h : ∀ (r : Nat) S', r < k → Good S' c (t + 1) → S'.length = S.length → Sat (K (.d (.int r))) S' P) : Sat (bnd (F__law_draw [.c c, .d (.int k)]) K) S P :=
  Sat.bnd (draw' hG ht hk hk2) fun a S' ⟨r, e, h1, h2, h3⟩ => by rw [e]; exact h r S' h1 h2 h3
end
abbrev rL (R : List (List Nat)) : List (List PyData) := R.map fun r => r.map nI
theorem rL_set {R : List (List Nat)} {k g : Nat} (h : k < R.length) : (rL R).set k ((R[k]).map nI ++ [nI g]) = rL (R.set k (R[k] ++ [g])) := by
  simp -implicitDefEqProofs [rL, List.map_set]
/-- what a drawn machine is -/
def FrameOk (c t most wide : Nat) (S : Sto) (v : Va) (S' : Sto) : Prop := ∃ rows sh n l, v = .d (mM rows sh) ∧ Mach rows sh n l ∧ n ≤ most ∧ l ≤ wide ∧ (∀ x ∈ sh, x ≤ 2) ∧ Good S' c (t + 1000) ∧ S'.length = S.length
/-- within a letter's loop -/
def FrI2 (c most wide n L x kind s h T len dl m : Nat) (env : En) (S : Sto) : Prop := ∃ (R : List (List Nat)) (o10 o11 : Option Sv), env = [some (.c c), some (.d (.int most)), some (.d (.int wide)), some (.d (.int n)), some (.d (.int L)), some (.l2 (rL R)), some (.d (.int x)), some (.d (.int kind)), some (.d (.int s)), some (.d (.int h)), o10, o11, none] ∧ R.length = n ∧ (∀ i (hi : i < R.length), (R[i]).length = (if i < m then dl + 1 else dl) ∧ ∀ x ∈ R[i], x < n) ∧ Good S c (T + m) ∧ S.length = len
theorem frame_turn {c most wide n L x kind s h T len dl m : Nat} {env : En} {S : Sto} (hI : FrI2 c most wide n L x kind s h T len dl m env S) (hT : T < 2 ^ 55) (hm : m < n) (n8 : n ≤ 8) (hs : s < 100) (h0 : 1 ≤ h) (h9 : h < 100) (hdl : dl < 100) :
    Sat (bnd (ofO (gN 10 (.d (nI m)) env)) (sSeq (sAsg (eCall F__law_draw (aCons (vT 0) (aCons (vT 3) aNil))) (gN 11))
  (sSeq (sIf (bV (c2 gLt (vT 7) (kC (.int 2)))) (sAsg (c2 gMod (cN (on1 hInt) (aCons (c2 gAdd (vT 10) (vT 8)) aNil)) (vT 3)) (gN 11)) sNil)
  (sSeq (sIf (bV (c2 gEq (vT 7) (kC (.int 2)))) (sAsg (c2 gAdd (c2 gMul (cN (on1 hInt) (aCons (c2 gDiv (vT 10) (vT 9)) aNil)) (vT 9)) (c2 gMod (cN (on1 hInt) (aCons (c2 gAdd (vT 10) (kC (.int 1))) aNil)) (vT 9))) (gN 11)) sNil)
  (sSeq (sIf (bV (c2 gEq (vT 7) (kC (.int 3)))) (sAsg (c2 gMod (cN (on1 hInt) (aCons (vT 10) aNil)) (vT 9)) (gN 11)) sNil)
  (sAppR 5 (vT 10) (cN (on2 gMin2) (aCons (vT 11) (aCons (c2 gSub (vT 3) (kC (.int 1))) aNil))))))))) S fun r S' => r.1 = .nx ∧ FrI2 c most wide n L x kind s h T len dl (m + 1) r.2 S' := by
  obtain ⟨R, o10, o11, rfl, hR, hrow, hG, hS⟩ := hI
  generalize hP : (fun (r : Fl × En) (S' : Sto) => r.1 = .nx ∧ FrI2 c most wide n L x kind s h T len dl (m + 1) r.2 S') = P
  simp -implicitDefEqProofs
  refine dL hG (by omega) (by omega) (by omega) ?_
  intro d S6 hd hG6 hl6
  have hmR : m < R.length := by omega
  have e1 := ixN_nat (n := R.length) (k := m) hmR
  have e2 : (R[m]).length < sizeLine := by
    rw [sizeLine_eq, (hrow m hmR).1]
    split <;> omega
  have fin : ∀ (z : Int) (env' : En), 0 ≤ z → env' = [some (.c c), some (.d (.int most)), some (.d (.int wide)), some (.d (.int n)), some (.d (.int L)), some (.l2 ((rL R).set m ((R[m]).map nI ++ [.int (min z ((n : Int) - 1))]))), some (.d (.int x)), some (.d (.int kind)), some (.d (.int s)), some (.d (.int h)), some (.d (.int m)), some (.d (.int z)), none] → P (.nx, env') S6 := by
    intro z env' hz he
    obtain ⟨g, hg, hgn⟩ : ∃ g : Nat, min z ((n : Int) - 1) = (g : Int) ∧ g < n := ⟨(min z ((n : Int) - 1)).toNat, by omega, by omega⟩
    have e3 := rL_set (g := g) hmR
    rw [hg, e3] at he
    rw [← hP]
    refine ⟨rfl, R.set m (R[m] ++ [g]), some (.d (.int m)), some (.d (.int z)), he, by simpa using hR, fun i hi => ?_, hG6, by omega⟩
    have hi' : i < R.length := by simpa using hi
    by_cases e : i = m
    · subst e
      simp only [List.getElem_set_self, List.length_append, List.length_singleton]
      have := hrow i hi'
      rw [if_neg (by omega)] at this
      rw [if_pos (by omega)]
      refine ⟨by omega, fun y hy => ?_⟩
      rcases List.mem_append.mp hy with q | q
      · exact this.2 y q
      · simp at q; omega
    · rw [List.getElem_set_ne (Ne.symm e)]
      have := hrow i hi'
      refine ⟨?_, this.2⟩
      rw [this.1]
      by_cases q : i < m
      · rw [if_pos q, if_pos (by omega)]
      · rw [if_neg q, if_neg (by omega)]
  have m1 := gMod_pos (i := (m : Int) + s) (j := n) (by omega)
  have m2 := gMod_pos (i := (m : Int) + 1) (j := h) (by omega)
  have m3 := gMod_pos (i := (m : Int)) (j := h) (by omega)
  have m4 := gDiv_pos (i := (m : Int)) (j := h) (by omega) (by omega)
  have m5 := gMul_int (i := (m : Int) / h) (j := h) (.inr (by omega))
  have p1 := Int.emod_nonneg ((m : Int) + s) (show (n : Int) ≠ 0 by omega)
  have p2 := Int.emod_nonneg ((m : Int) + 1) (show (h : Int) ≠ 0 by omega)
  have p3 := Int.emod_nonneg (m : Int) (show (h : Int) ≠ 0 by omega)
  have p4 : (0 : Int) ≤ (m : Int) / h := Int.ediv_nonneg (by omega) (by omega)
  have p5 : (0 : Int) ≤ (m : Int) / h * h := Int.mul_nonneg p4 (by omega)
  by_cases k1 : kind < 2
  · have q1 : (kind : Int) < 2 := by omega
    have q2 : ¬ (kind : Int) = 2 := by omega
    have q3 : ¬ (kind : Int) = 3 := by omega
    simp -implicitDefEqProofs [q1, q2, q3, m1, e1, hmR, e2]
    exact Sat.ret (fin _ _ p1 rfl)
  · have q1 : ¬ (kind : Int) < 2 := by omega
    by_cases k2 : kind = 2
    · have q2 : (kind : Int) = 2 := by omega
      simp -implicitDefEqProofs [q1, q2, m2, m4, m5, e1, hmR, e2]
      exact Sat.ret (fin _ _ (Int.add_nonneg p5 p2) (by rw [q2]))
    · have q2 : ¬ (kind : Int) = 2 := by omega
      by_cases k3 : kind = 3
      · have q3 : (kind : Int) = 3 := by omega
        simp -implicitDefEqProofs [q1, q2, q3, m3, e1, hmR, e2]
        exact Sat.ret (fin _ _ p3 (by rw [q3]))
      · have q3 : ¬ (kind : Int) = 3 := by omega
        simp -implicitDefEqProofs [q1, q2, q3, e1, hmR, e2]
        exact Sat.ret (fin (d : Int) _ (by omega) rfl)
theorem frame_sat {S : Sto} {c t most wide : Nat} (hG : Good S c t) (ht : t < 2 ^ 50) (h1 : 1 ≤ most) (h8 : most ≤ 8) (w1 : 1 ≤ wide) (w4 : wide ≤ 4) :
    Sat (F__law_frame [.c c, .d (.int most), .d (.int wide)]) S (FrameOk c t most wide S) := by
  refine Sat.runF ?_
  unfold g__law_frame startE
  simp -implicitDefEqProofs
  refine dLB hG (by omega) h1 (by omega) ?_
  intro a S1 ha hG1 hl1
  simp -implicitDefEqProofs
  refine dLB hG1 (by omega) w1 (by omega) ?_
  intro b S2 hb hG2 hl2
  have ea : (1 : Int) + a = ((a + 1 : Nat) : Int) := by omega
  have eb : (1 : Int) + b = ((b + 1 : Nat) : Int) := by omega
  generalize hn : a + 1 = n at ea
  generalize hL : b + 1 = L at eb
  have n8 : n ≤ 8 := by omega
  have n0 : 1 ≤ n := by omega
  have L4 : L ≤ 4 := by omega
  have L0 : 1 ≤ L := by omega
  have er := rng_nat n (by omega)
  have eL := rng_nat L (by omega)
  have en : n ≤ sizeLine := by rw [sizeLine_eq]; omega
  simp -implicitDefEqProofs [ea, eb, er, en]
  rw [compR_all (g := fun _ => []) (by simp)]
  simp -implicitDefEqProofs [eL]
  have hrep : List.map (fun _ : Nat => ([] : List PyData)) (List.range n) = rL ((List.range n).map fun _ => []) := by simp [rL]
  rw [hrep]
  refine Sat.bnd (Sat.loop (f := nI) (xs := List.range L) (fun done env S => ∃ (R : List (List Nat)) (o6 o7 o8 o9 o10 o11 : Option Sv), env = [some (.c c), some (.d (.int most)), some (.d (.int wide)), some (.d (nI n)), some (.d (nI L)), some (.l2 (rL R)), o6, o7, o8, o9, o10, o11, none] ∧ R.length = n ∧ (∀ r ∈ R, r.length = done.length ∧ ∀ x ∈ r, x < n) ∧ Good S c (t + 2 + 11 * done.length) ∧ S.length = S2.length) ⟨_, none, none, none, none, none, none, rfl, by simp, by intro r hr; simp at hr; simp [hr.2], hG2, rfl⟩ ?_) ?_
  · rintro done x rest env S he ⟨R, o6, o7, o8, o9, o10, o11, rfl, hR, hrow, hG, hS⟩
    obtain ⟨hx, hdl⟩ := range_split he
    generalize hP : (fun (r : Fl × En) (S' : Sto) => r.1 = .nx ∧ _) = P
    simp -implicitDefEqProofs
    refine dLB (k := 5) hG (by omega) (by omega) (by omega) ?_
    intro kind S3 hkind hG3 hl3
    have em : max ((n : Int) - 1) 1 = ((max (n - 1) 1 : Nat) : Int) := by omega
    simp -implicitDefEqProofs [em]
    refine dLB hG3 (by omega) (by omega) (by omega) ?_
    intro step S4 hstep hG4 hl4
    simp -implicitDefEqProofs
    refine dLB hG4 (by omega) n0 (by omega) ?_
    intro half S5 hhalf hG5 hl5
    have es : (1 : Int) + step = ((step + 1 : Nat) : Int) := by omega
    have eh : (1 : Int) + half = ((half + 1 : Nat) : Int) := by omega
    generalize hs : step + 1 = st at es
    generalize hh : half + 1 = hf at eh
    simp -implicitDefEqProofs [es, eh, er]
    refine (Sat.loop (f := nI) (xs := List.range n) (fun done2 env S => FrI2 c most wide n L x kind st hf (t + 2 + 11 * done.length + 3) S2.length done.length done2.length env S) ⟨R, o10, o11, rfl, hR, fun i hi => by simpa using hrow _ (List.getElem_mem hi), hG5, by omega⟩ ?_).mono ?_
    · intro done2 k rest2 env S he2 hI
      obtain ⟨hk, hkn⟩ := range_split he2
      subst hk
      have := frame_turn hI (by omega) hkn n8 (by omega) (by omega) (by omega) (by omega)
      rw [List.length_append]
      exact this
    · rintro ⟨fl, env'⟩ S' ⟨hfl, R', o10', o11', he', hR', hrow', hG', hS'⟩
      rw [List.length_range] at hrow' hG'
      subst hP
      refine ⟨hfl, R', _, _, _, _, _, _, he', hR', fun r hr => ?_, hG'.mono (by simp; omega), hS'⟩
      obtain ⟨i, hi, rfl⟩ := List.getElem_of_mem hr
      have := hrow' i hi
      rw [if_pos (by omega)] at this
      simpa using this
  · rintro ⟨fl, env'⟩ S' ⟨hfl, R, o6, o7, o8, o9, o10, o11, he', hR, hrow, hG', hS'⟩
    dsimp only at hfl he'
    rw [List.length_range] at hrow hG'
    rw [hfl, he']
    simp -implicitDefEqProofs
    have c1 : lcC (lSeq (vF 5)) (gN 12) bYes (cN (on1 hTup) (aCons (vT 12) aNil)) [12] [some (.c c), some (.d (.int most)), some (.d (.int wide)), some (.d (.int n)), some (.d (.int L)), some (.l2 (rL R)), o6, o7, o8, o9, o10, o11, none] = ret (.d (.list (R.map tN))) := by
      refine lcC_all (f := fun r : List Nat => .list (r.map nI)) (by simp [rL, Function.comp_def]) (by omega) fun r hr => ?_
      simp
    have c2 : immV (.d (tT R)) = some (.d (tT R)) := immV_of (tT_imm R)
    simp -implicitDefEqProofs [c1, c2]
    refine Sat.lb (@Sat.lcA Nat Nat (gN 10) (eCall F__law_of (aCons (vT 0) (aCons (cN gLstD (aCons (kC (PyData.int 0)) (aCons (kC (PyData.int 0)) (aCons (kC (PyData.int 1)) (aCons (kC (PyData.int 2)) aNil))))) aNil))) nI nI [10] (List.range n) [some (Sv.c c), some (Sv.d (PyData.int ↑most)), some (Sv.d (PyData.int ↑wide)), some (Sv.d (nI n)), some (Sv.d (nI L)), some (Sv.l2 (rL R)), o6, o7, o8, o9, o10, o11, none] (lN gRng1 (aCons (vT 3) aNil)) S' (fun ys S => (∀ y ∈ ys, y ≤ 2) ∧ Good S c (t + 2 + 11 * L + ys.length) ∧ S.length = S2.length) (by simp -implicitDefEqProofs [er]) (by simpa using en) ⟨by simp, by simpa using hG', hS'⟩ ?_) ?_
    · rintro x hx acc S hl ⟨ha, hg, hs⟩
      rw [List.length_range] at hl
      have e4 : (PyData.list [.int 0, .int 0, .int 1, .int 2]) = .list (([0, 0, 1, 2] : List Nat).map nI) := rfl
      simp -implicitDefEqProofs
      rw [e4]
      refine (of' hg (by omega) (by simp) (by simp)).mono ?_
      rintro v S' ⟨y, hy, hv, h1, h2⟩
      have hy2 : y ≤ 2 := by simp at hy; omega
      exact ⟨y, hv, fun z hz => hz.elim (ha z) fun q => by omega, h1.mono (by omega), by omega⟩
    · rintro ps S' ⟨ys, rfl, hyl, hy, hg, hs⟩
      simp -implicitDefEqProofs
      refine Sat.ret ⟨R, ys, n, L, rfl, ⟨n0, n8, L0, L4, hR, hrow, by simpa using hyl, fun x hx => by have := hy x hx; omega⟩, by omega, by omega, hy, hg.mono (by simp at hyl; omega), by omega⟩
end KG


set_option Elab.async false
set_option linter.all false
set_option maxRecDepth 100000
/-! MA: partings as numbers that grow, as classes; plain Lean. -/
namespace KP
open PySem PySem.Spec PyProof.Rows L2
section
variable {α : Type} [DecidableEq α]
theorem numb_old {xs : List α} {x : α} (h : x ∈ firsts xs) : numb (xs ++ [x]) = numb xs ++ [(firsts xs).idxOf x] ∧ firsts (xs ++ [x]) = firsts xs := by
  have e : fstep (firsts xs) x = firsts xs := by unfold fstep; rw [if_pos h]
  rw [numb_snoc, firsts_snoc, e]; exact ⟨rfl, rfl⟩
theorem numb_new {xs : List α} {x : α} (h : ¬ x ∈ firsts xs) : numb (xs ++ [x]) = numb xs ++ [(firsts xs).length] ∧ firsts (xs ++ [x]) = firsts xs ++ [x] := by
  have e : fstep (firsts xs) x = firsts xs ++ [x] := by unfold fstep; rw [if_neg h]
  rw [numb_snoc, firsts_snoc, e, List.idxOf_append, if_neg h]; simp
theorem zip_head (y : α) : ∀ (G : List α) (n : Nat), (((G.zipIdx n).filter fun q => decide (q.1 = y)).map (·.2)).head? = if y ∈ G then some (n + G.idxOf y) else none
  | [], n => by simp
  | g :: G, n => by
    rw [List.zipIdx_cons]
    by_cases h : g = y
    · subst h; simp
    · have h' : ¬ y = g := fun z => h z.symm
      rw [List.filter_cons_of_neg (by simpa using h), zip_head y G (n + 1)]
      simp only [List.mem_cons, h', false_or, List.idxOf_cons]
      have hb : (g == y) = false := by simpa using h
      simp only [hb, cond_false]
      split
      · congr 1; omega
      · rfl
end
theorem idxOf_range {k x : Nat} (h : x < k) : (List.range k).idxOf x = x := by
  have h1 : (List.range k).idxOf x < (List.range k).length := List.idxOf_lt_length_of_mem (by simpa using h)
  have h2 := List.getElem_idxOf h1
  rwa [List.getElem_range] at h2
def bl (ns : List Nat) : Nat := (firsts ns).length
theorem rg_snoc {xs : List Nat} {x : Nat} : numb (xs ++ [x]) = xs ++ [x] ↔ numb xs = xs ∧ (fstep (firsts xs) x).idxOf x = x := by
  rw [numb_snoc]
  constructor
  · intro h
    obtain ⟨h1, h2⟩ := List.append_inj h (numb_len xs)
    exact ⟨h1, by simpa using h2⟩
  · rintro ⟨h1, h2⟩
    rw [h1, h2]
theorem rg_firsts : ∀ (xs : List Nat), numb xs = xs → firsts xs = List.range (bl xs) := by
  intro xs
  induction xs using list_snoc with
  | h0 => intro _; simp [firsts, bl]
  | h1 xs x ih =>
    intro h
    obtain ⟨h1, h2⟩ := rg_snoc.mp h
    have ih := ih h1
    unfold bl
    rw [firsts_snoc]
    rw [ih] at h2 ⊢
    unfold fstep at h2 ⊢
    by_cases hx : x ∈ List.range (bl xs)
    · rw [if_pos hx]; simp
    · rw [if_neg hx] at h2 ⊢
      rw [List.idxOf_append, if_neg hx] at h2
      simp at h2
      rw [List.length_append]
      simp [h2, List.range_succ]
theorem rg_iff {xs : List Nat} {x : Nat} : numb (xs ++ [x]) = xs ++ [x] ↔ numb xs = xs ∧ x ≤ bl xs := by
  rw [rg_snoc]
  constructor
  · rintro ⟨h1, h2⟩
    refine ⟨h1, ?_⟩
    have hm : x ∈ fstep (firsts xs) x := mem_fstep.mpr (.inr rfl)
    have hl := List.idxOf_lt_length_of_mem hm
    have : (fstep (firsts xs) x).length ≤ bl xs + 1 := by
      unfold fstep bl
      split <;> simp
    omega
  · rintro ⟨h1, h2⟩
    refine ⟨h1, ?_⟩
    rw [rg_firsts xs h1]
    unfold fstep
    by_cases hx : x < bl xs
    · rw [if_pos (by simpa using hx), idxOf_range hx]
    · have : x = bl xs := by omega
      subst this
      rw [if_neg (by simp), List.idxOf_append, if_neg (by simp)]
      simp
theorem maxN_append (xs ys : List Nat) : maxN (xs ++ ys) = max (maxN xs) (maxN ys) := by
  induction xs with
  | nil => simp [maxN]
  | cons x xs ih => simp only [List.cons_append, maxN, ih]; omega
theorem rg_max : ∀ (xs : List Nat), numb xs = xs → xs ≠ [] → bl xs = maxN xs + 1 := by
  intro xs
  induction xs using list_snoc with
  | h0 => intro _ h; exact absurd rfl h
  | h1 xs x ih =>
    intro h _
    obtain ⟨h1, h2⟩ := rg_iff.mp h
    have hf := rg_firsts xs h1
    have hb : bl (xs ++ [x]) = max (bl xs) (x + 1) := by
      unfold bl at h2 ⊢
      rw [firsts_snoc, hf]
      unfold fstep
      by_cases hx : x < bl xs
      · rw [if_pos (by simpa using hx)]
        simp; unfold bl at hx ⊢; omega
      · rw [if_neg (by simpa using hx)]
        simp; unfold bl at hx ⊢; omega
    rw [hb, maxN_append]
    by_cases hx : xs = []
    · subst hx; simp [bl, firsts, maxN]
    · rw [ih h1 hx]; simp only [maxN]; omega
/-- all partings of k + 1 standings -/
def sheetsR : Nat → List (List Nat)
  | 0 => [[0]]
  | k + 1 => (sheetsR k).flatMap fun row => (List.range (maxN row + 2)).map fun h => row ++ [h]
theorem mem_sheetsR : ∀ {k : Nat} {ns : List Nat}, ns ∈ sheetsR k ↔ ns.length = k + 1 ∧ numb ns = ns
  | 0, ns => by
    simp only [sheetsR, List.mem_singleton]
    constructor
    · rintro rfl; exact ⟨rfl, by decide⟩
    · rintro ⟨h1, h2⟩
      match ns, h1 with
      | [x], _ =>
        have := (rg_iff (xs := []) (x := x)).mp (by simpa using h2)
        simp [bl, firsts] at this
        rw [this.2]
  | k + 1, ns => by
    simp only [sheetsR, List.mem_flatMap, List.mem_map, List.mem_range]
    constructor
    · rintro ⟨row, hr, h, hh, rfl⟩
      obtain ⟨h1, h2⟩ := mem_sheetsR.mp hr
      have hne : row ≠ [] := by intro z; subst z; simp at h1
      refine ⟨by simp [h1], rg_iff.mpr ⟨h2, ?_⟩⟩
      rw [rg_max row h2 hne]; omega
    · rintro ⟨h1, h2⟩
      have hne : ns ≠ [] := by intro z; subst z; simp at h1
      obtain ⟨row, x, rfl⟩ : ∃ row x, ns = row ++ [x] := ⟨ns.dropLast, ns.getLast hne, (List.dropLast_concat_getLast hne).symm⟩
      obtain ⟨h3, h4⟩ := rg_iff.mp h2
      have hl : row.length = k + 1 := by simpa using h1
      have hrn : row ≠ [] := by intro z; subst z; simp at hl
      rw [rg_max row h3 hrn] at h4
      exact ⟨row, mem_sheetsR.mpr ⟨hl, h3⟩, x, by omega, rfl⟩
theorem sheets_len : ∀ k : Nat, k ≤ 7 → (sheetsR k).length ≤ 4140 := by
  intro k hk
  have : ∀ k : Fin 8, (sheetsR k.1).length ≤ 4140 := by decide +kernel
  exact this ⟨k, by omega⟩
/-! ### classes -/
/-- classes of n standings -/
structure Cls (n : Nat) (cs : List (List Nat)) : Prop where
  perm : cs.flatten.Perm (List.range n)
def relC (cs : List (List Nat)) (a b : Nat) : Prop := ∃ c ∈ cs, a ∈ c ∧ b ∈ c
section
variable {n : Nat} {cs : List (List Nat)}
theorem Cls.mem (h : Cls n cs) {x : Nat} : (∃ c ∈ cs, x ∈ c) ↔ x < n := by
  rw [← List.mem_range, ← h.perm.mem_iff, List.mem_flatten]
theorem Cls.cov (h : Cls n cs) {x : Nat} (hx : x < n) : ∃ c ∈ cs, x ∈ c := h.mem.mpr hx
theorem Cls.lt (h : Cls n cs) {c : List Nat} {x : Nat} (hc : c ∈ cs) (hx : x ∈ c) : x < n := h.mem.mp ⟨c, hc, hx⟩
theorem Cls.tot (h : Cls n cs) : cs.flatten.length = n := by rw [h.perm.length_eq, List.length_range]
theorem dis_of : ∀ {cs : List (List Nat)}, cs.flatten.Nodup → ∀ c ∈ cs, ∀ d ∈ cs, ∀ x, x ∈ c → x ∈ d → c = d
  | [], _, c, hc, _, _, _, _, _ => absurd hc (by simp)
  | e :: cs, h, c, hc, d, hd, x, h1, h2 => by
    rw [List.flatten_cons, List.nodup_append] at h
    obtain ⟨_, hn, hx⟩ := h
    rcases List.mem_cons.mp hc with rfl | hc'
    · rcases List.mem_cons.mp hd with rfl | hd'
      · rfl
      · exact absurd rfl (hx x h1 x (List.mem_flatten.mpr ⟨d, hd', h2⟩))
    · rcases List.mem_cons.mp hd with rfl | hd'
      · exact absurd rfl (hx x h2 x (List.mem_flatten.mpr ⟨c, hc', h1⟩))
      · exact dis_of hn c hc' d hd' x h1 h2
theorem Cls.dis (h : Cls n cs) {c d : List Nat} {x : Nat} (hc : c ∈ cs) (hd : d ∈ cs) (h1 : x ∈ c) (h2 : x ∈ d) : c = d :=
  dis_of (h.perm.nodup_iff.mpr List.nodup_range) c hc d hd x h1 h2
theorem len_le_flatten : ∀ {cs : List (List Nat)} {c : List Nat}, c ∈ cs → c.length ≤ cs.flatten.length
  | [], c, h => absurd h (by simp)
  | e :: cs, c, h => by
    rw [List.flatten_cons, List.length_append]
    rcases List.mem_cons.mp h with rfl | h'
    · omega
    · have := len_le_flatten h'; omega
theorem Cls.clen (h : Cls n cs) {c : List Nat} (hc : c ∈ cs) : c.length ≤ n := by rw [← h.tot]; exact len_le_flatten hc
theorem relC.symm {a b : Nat} (h : relC cs a b) : relC cs b a := by obtain ⟨c, h1, h2, h3⟩ := h; exact ⟨c, h1, h3, h2⟩
theorem Cls.refl (h : Cls n cs) {a : Nat} (ha : a < n) : relC cs a a := by obtain ⟨c, h1, h2⟩ := h.cov ha; exact ⟨c, h1, h2, h2⟩
theorem Cls.trans (h : Cls n cs) {a b c : Nat} (h1 : relC cs a b) (h2 : relC cs b c) : relC cs a c := by
  obtain ⟨u, q1, q2, q3⟩ := h1
  obtain ⟨v, p1, p2, p3⟩ := h2
  have := h.dis q1 p1 q3 p2
  subst this
  exact ⟨u, q1, q2, p3⟩
/-- the number of the first class of a standing -/
def homeC (cs : List (List Nat)) (k : Nat) : Nat := ((cs.zipIdx.filter fun q => decide (k ∈ q.1)).map (·.2)).headD 0
theorem filter_ne_nil {α : Type} {p : α → Bool} {xs : List α} {x : α} (h : x ∈ xs) (hp : p x = true) : xs.filter p ≠ [] := by
  intro z
  have : x ∈ xs.filter p := List.mem_filter.mpr ⟨h, hp⟩
  rw [z] at this
  simp at this
theorem home_some (h : Cls n cs) {k : Nat} (hk : k < n) : ∃ c i rest, (cs.zipIdx.filter fun q => decide (k ∈ q.1)) = (c, i) :: rest ∧ c ∈ cs ∧ k ∈ c ∧ homeC cs k = i := by
  obtain ⟨c, hc, hkc⟩ := h.cov hk
  obtain ⟨j, hj, rfl⟩ := List.getElem_of_mem hc
  have hm : (cs[j], j) ∈ cs.zipIdx := by
    rw [List.mem_zipIdx_iff_getElem?]; simp [hj]
  have hne := filter_ne_nil (p := fun q : List Nat × Nat => decide (k ∈ q.1)) hm (by simpa using hkc)
  cases e : (cs.zipIdx.filter fun q => decide (k ∈ q.1)) with
  | nil => exact absurd e hne
  | cons q rest =>
    obtain ⟨c, i⟩ := q
    have hq : (c, i) ∈ (cs.zipIdx.filter fun q => decide (k ∈ q.1)) := by rw [e]; simp
    obtain ⟨q1, q2⟩ := List.mem_filter.mp hq
    rw [List.mem_zipIdx_iff_getElem?] at q1
    exact ⟨c, i, rest, rfl, List.mem_of_getElem? q1, by simpa using q2, by simp [homeC, e]⟩
theorem home_iff (h : Cls n cs) {a b : Nat} (ha : a < n) (hb : b < n) : homeC cs a = homeC cs b ↔ relC cs a b := by
  constructor
  · intro e
    obtain ⟨c, i, rest, e1, hc, hac, hi⟩ := home_some h ha
    obtain ⟨d, j, rest2, e2, hd, hbd, hj⟩ := home_some h hb
    have hij : i = j := by omega
    subst hij
    have m1 : (c, i) ∈ cs.zipIdx := (List.mem_filter.mp (by rw [e1]; simp : (c, i) ∈ (cs.zipIdx.filter fun q => decide (a ∈ q.1)))).1
    have m2 : (d, i) ∈ cs.zipIdx := (List.mem_filter.mp (by rw [e2]; simp : (d, i) ∈ (cs.zipIdx.filter fun q => decide (b ∈ q.1)))).1
    rw [List.mem_zipIdx_iff_getElem?] at m1 m2
    have : c = d := by
      dsimp only at m1 m2
      rw [m1] at m2
      exact Option.some.inj m2
    subst this
    exact ⟨c, hc, hac, hbd⟩
  · rintro ⟨c, hc, hac, hbc⟩
    unfold homeC
    congr 2
    apply List.filter_congr
    rintro ⟨d, i⟩ hq
    rw [List.mem_zipIdx_iff_getElem?] at hq
    have hd : d ∈ cs := List.mem_of_getElem? hq
    rw [decide_eq_decide]
    constructor
    · intro q; rw [h.dis hd hc q hac]; exact hbc
    · intro q; rw [h.dis hd hc q hbc]; exact hac
end
def insN (x : Nat) : List Nat → List Nat
  | [] => [x]
  | y :: r => if x ≤ y then x :: y :: r else y :: insN x r
def sortN : List Nat → List Nat
  | [] => []
  | x :: r => insN x (sortN r)
theorem insN_perm (x : Nat) : ∀ l : List Nat, (insN x l).Perm (x :: l)
  | [] => .refl _
  | y :: r => by
    unfold insN
    split
    · exact .refl _
    · exact ((insN_perm x r).cons y).trans (.swap x y r)
theorem sortN_perm : ∀ l : List Nat, (sortN l).Perm l
  | [] => .refl _
  | x :: r => (insN_perm x _).trans ((sortN_perm r).cons x)
theorem insI_nat (x : Nat) : ∀ l : List Nat, insI (x : Int) (l.map fun n : Nat => (n : Int)) = (insN x l).map fun n : Nat => (n : Int)
  | [] => rfl
  | y :: r => by
    have ih := insI_nat x r
    simp only [List.map_cons, insI, insN]
    by_cases h : x ≤ y
    · rw [if_pos h, if_pos (by omega)]; simp
    · rw [if_neg h, if_neg (by omega), ih]; simp
theorem sortI_nat : ∀ l : List Nat, sortI (l.map fun n : Nat => (n : Int)) = (sortN l).map fun n : Nat => (n : Int)
  | [] => rfl
  | x :: r => by simp only [List.map_cons, sortI, sortN, sortI_nat r, insI_nat]
theorem sort_l (ns : List Nat) : on1 hSortA [.d (lI ns)] = some (.d (lI (sortN ns))) := by
  simp only [on1, hSortA, hSort, lI, asInts_nat, Option.map_some, sortI_nat, List.map_map]; rfl
def isEither (one far : Nat) (c : List Nat) : Bool := decide (one ∈ c) || decide (far ∈ c)
def mergedC (cs : List (List Nat)) (one far : Nat) : List (List Nat) := cs.filter (fun c => !isEither one far c) ++ [sortN (cs.filter (isEither one far)).flatten]
theorem filter_flatten_perm (p : List Nat → Bool) : ∀ cs : List (List Nat), ((cs.filter fun c => !p c).flatten ++ (cs.filter p).flatten).Perm cs.flatten
  | [] => by simp
  | c :: cs => by
    have ih := filter_flatten_perm p cs
    by_cases h : p c = true
    · rw [List.filter_cons_of_pos h, List.filter_cons_of_neg (by simpa using h), List.flatten_cons, List.flatten_cons]
      exact ((List.perm_append_comm_assoc _ _ _).trans (ih.append_left _))
    · rw [List.filter_cons_of_neg h, List.filter_cons_of_pos (by simpa using h), List.flatten_cons, List.flatten_cons, List.append_assoc]
      exact ih.append_left _
theorem Cls.merged {n : Nat} {cs : List (List Nat)} (h : Cls n cs) (one far : Nat) : Cls n (mergedC cs one far) := by
  refine ⟨?_⟩
  unfold mergedC
  rw [List.flatten_append]
  simp only [List.flatten_cons, List.flatten_nil, List.append_nil]
  exact (((sortN_perm _).append_left _).trans (filter_flatten_perm _ cs)).trans h.perm
theorem merged_len {n : Nat} {cs : List (List Nat)} (h : Cls n cs) {one far : Nat} (h1 : one < n) : (mergedC cs one far).length ≤ cs.length := by
  obtain ⟨c, hc, hx⟩ := h.cov h1
  have : cs.filter (isEither one far) ≠ [] := filter_ne_nil hc (by simp [isEither, hx])
  have h2 : 0 < (cs.filter (isEither one far)).length := List.length_pos_iff.mpr this
  have h3 : ∀ cs : List (List Nat), (cs.filter fun c => !isEither one far c).length + (cs.filter (isEither one far)).length = cs.length := by
    intro cs
    induction cs with
    | nil => rfl
    | cons d cs ih => by_cases q : isEither one far d = true <;> simp [q] at ih ⊢ <;> omega
  have := h3 cs
  simp only [mergedC, List.length_append, List.length_singleton]
  omega
/-- what is together behind a merging -/
theorem relC_merged {n : Nat} {cs : List (List Nat)} (h : Cls n cs) {one far a b : Nat} (ha : a < n) (hb : b < n) : relC (mergedC cs one far) a b ↔ relC cs a b ∨ ((relC cs a one ∨ relC cs a far) ∧ (relC cs b one ∨ relC cs b far)) := by
  have hJ : ∀ x, x ∈ sortN (cs.filter (isEither one far)).flatten ↔ (relC cs x one ∨ relC cs x far) := by
    intro x
    rw [(sortN_perm _).mem_iff, List.mem_flatten]
    constructor
    · rintro ⟨c, hc, hx⟩
      obtain ⟨h1, h2⟩ := List.mem_filter.mp hc
      simp only [isEither, Bool.or_eq_true, decide_eq_true_eq] at h2
      rcases h2 with h2 | h2
      · exact .inl ⟨c, h1, hx, h2⟩
      · exact .inr ⟨c, h1, hx, h2⟩
    · rintro (⟨c, h1, h2, h3⟩ | ⟨c, h1, h2, h3⟩)
      · exact ⟨c, List.mem_filter.mpr ⟨h1, by simp [isEither, h3]⟩, h2⟩
      · exact ⟨c, List.mem_filter.mpr ⟨h1, by simp [isEither, h3]⟩, h2⟩
  constructor
  · rintro ⟨c, hc, h1, h2⟩
    rcases List.mem_append.mp hc with q | q
    · exact .inl ⟨c, (List.mem_filter.mp q).1, h1, h2⟩
    · have : c = _ := List.mem_singleton.mp q
      subst this
      exact .inr ⟨(hJ a).mp h1, (hJ b).mp h2⟩
  · rintro (⟨c, hc, h1, h2⟩ | ⟨h1, h2⟩)
    · by_cases q : isEither one far c = true
      · refine ⟨_, List.mem_append_right _ (List.mem_singleton.mpr rfl), (sortN_perm _).mem_iff.mpr (List.mem_flatten.mpr ⟨c, List.mem_filter.mpr ⟨hc, q⟩, h1⟩), (sortN_perm _).mem_iff.mpr (List.mem_flatten.mpr ⟨c, List.mem_filter.mpr ⟨hc, q⟩, h2⟩)⟩
      · exact ⟨c, List.mem_append_left _ (List.mem_filter.mpr ⟨hc, by simpa using q⟩), h1, h2⟩
    · exact ⟨_, List.mem_append_right _ (List.mem_singleton.mpr rfl), (hJ a).mpr h1, (hJ b).mpr h2⟩
/-- the classes of a parting -/
def clsB (ns : List Nat) (b : Nat) : List Nat := (ns.zipIdx.filter fun q => decide (q.1 = b)).map (·.2)
def clsOf (ns : List Nat) : List (List Nat) := (List.range (maxN ns + 1)).map (clsB ns)
theorem mem_clsB {ns : List Nat} {b k : Nat} : k ∈ clsB ns b ↔ k < ns.length ∧ at0 ns k = b := by
  simp only [clsB, List.mem_map, List.mem_filter, decide_eq_true_eq]
  constructor
  · rintro ⟨⟨x, i⟩, ⟨h1, h2⟩, rfl⟩
    rw [List.mem_zipIdx_iff_getElem?] at h1
    dsimp only at h1 h2 ⊢
    obtain ⟨h3, h4⟩ := List.getElem?_eq_some_iff.mp h1
    exact ⟨h3, by rw [at0_eq h3, h4, h2]⟩
  · rintro ⟨h1, h2⟩
    refine ⟨(at0 ns k, k), ⟨?_, h2⟩, rfl⟩
    rw [List.mem_zipIdx_iff_getElem?, at0_eq h1]
    simp [h1]
theorem clsB_len (ns : List Nat) (b : Nat) : (clsB ns b).length ≤ ns.length := by
  unfold clsB
  rw [List.length_map]
  exact Nat.le_trans (List.length_filter_le _ _) (by simp)
theorem clsB_sub (ns : List Nat) (b : Nat) : (clsB ns b).Sublist (List.range ns.length) := by
  have : (List.range ns.length) = ns.zipIdx.map (·.2) := by
    rw [List.zipIdx_map_snd]
    simp [List.range_eq_range']
  rw [this]
  exact (List.filter_sublist).map _
theorem perm_of_mem : ∀ {l m : List Nat}, l.Nodup → m.Nodup → (∀ x, x ∈ l ↔ x ∈ m) → l.Perm m := by
  intro l m h1 h2 h
  rw [List.perm_ext_iff_of_nodup h1 h2]
  exact h
theorem Cls.of (ns : List Nat) : Cls ns.length (clsOf ns) := by
  refine ⟨perm_of_mem ?_ List.nodup_range fun x => ?_⟩
  · unfold clsOf
    have key : ∀ bs : List Nat, bs.Nodup → ((bs.map (clsB ns)).flatten).Nodup := by
      intro bs
      induction bs with
      | nil => intro _; simp
      | cons b bs ih =>
        intro h
        obtain ⟨h1, h2⟩ := List.nodup_cons.mp h
        rw [List.map_cons, List.flatten_cons, List.nodup_append]
        refine ⟨(clsB_sub ns b).nodup List.nodup_range, ih h2, ?_⟩
        intro x hx y hy e
        subst e
        obtain ⟨c, hc, hxc⟩ := List.mem_flatten.mp hy
        obtain ⟨b', hb', rfl⟩ := List.mem_map.mp hc
        have e1 := (mem_clsB.mp hx).2
        have e2 := (mem_clsB.mp hxc).2
        rw [e1] at e2
        subst e2
        exact h1 hb'
    exact key _ List.nodup_range
  · rw [List.mem_flatten, List.mem_range]
    constructor
    · rintro ⟨c, hc, hx⟩
      obtain ⟨b, _, rfl⟩ := List.mem_map.mp hc
      exact (mem_clsB.mp hx).1
    · intro hx
      exact ⟨clsB ns (at0 ns x), List.mem_map.mpr ⟨_, by have := le_maxN (at0_mem hx); simp; omega, rfl⟩, mem_clsB.mpr ⟨hx, rfl⟩⟩
theorem relC_of {ns : List Nat} {a b : Nat} (ha : a < ns.length) (hb : b < ns.length) : relC (clsOf ns) a b ↔ at0 ns a = at0 ns b := by
  constructor
  · rintro ⟨c, hc, h1, h2⟩
    obtain ⟨k, _, rfl⟩ := List.mem_map.mp hc
    rw [(mem_clsB.mp h1).2, (mem_clsB.mp h2).2]
  · intro e
    exact ⟨clsB ns (at0 ns a), List.mem_map.mpr ⟨_, by have := le_maxN (at0_mem ha); simp; omega, rfl⟩, mem_clsB.mpr ⟨ha, rfl⟩, mem_clsB.mpr ⟨hb, e.symm⟩⟩
end KP


set_option Elab.async false
set_option linter.all false
set_option maxRecDepth 100000
/-! MB: joins and meets; plain Lean. -/
namespace KP
open PySem PySem.Spec PyProof.Rows L2
def hd0 (c : List Nat) : Nat := c.headD 0
def pairsIn (cs : List (List Nat)) : List (Nat × Nat) := cs.flatMap fun c => c.tail.map fun k => (hd0 c, k)
def foldC (cs : List (List Nat)) (ps : List (Nat × Nat)) : List (List Nat) := ps.foldl (fun cs p => mergedC cs p.1 p.2) cs
theorem foldC_snoc (cs : List (List Nat)) (ps : List (Nat × Nat)) (p : Nat × Nat) : foldC cs (ps ++ [p]) = mergedC (foldC cs ps) p.1 p.2 := by simp [foldC]
section
variable {n : Nat} {cs : List (List Nat)}
theorem Cls.fold (h : Cls n cs) : ∀ (ps : List (Nat × Nat)), (∀ p ∈ ps, p.1 < n ∧ p.2 < n) → Cls n (foldC cs ps) ∧ (foldC cs ps).length ≤ cs.length := by
  intro ps
  induction ps using list_snoc with
  | h0 => intro _; exact ⟨h, Nat.le_refl _⟩
  | h1 ps p ih =>
    intro hp
    obtain ⟨h1, h2⟩ := ih fun q hq => hp q (by simp [hq])
    rw [foldC_snoc]
    exact ⟨h1.merged _ _, Nat.le_trans (merged_len h1 (hp p (by simp)).1) h2⟩
theorem fold_sub (h : Cls n cs) {a b : Nat} (ha : a < n) (hb : b < n) (hr : relC cs a b) : ∀ (ps : List (Nat × Nat)), (∀ p ∈ ps, p.1 < n ∧ p.2 < n) → relC (foldC cs ps) a b := by
  intro ps
  induction ps using list_snoc with
  | h0 => intro _; exact hr
  | h1 ps p ih =>
    intro hp
    have hp' : ∀ p ∈ ps, p.1 < n ∧ p.2 < n := fun q hq => hp q (by simp [hq])
    rw [foldC_snoc, relC_merged (Cls.fold h ps hp').1 ha hb]
    exact .inl (ih hp')
theorem fold_has (h : Cls n cs) : ∀ (ps : List (Nat × Nat)), (∀ p ∈ ps, p.1 < n ∧ p.2 < n) → ∀ p ∈ ps, relC (foldC cs ps) p.1 p.2 := by
  intro ps
  induction ps using list_snoc with
  | h0 => intro _ p hp; simp at hp
  | h1 ps q ih =>
    intro hp p hpm
    have hp' : ∀ p ∈ ps, p.1 < n ∧ p.2 < n := fun q hq => hp q (by simp [hq])
    have C := (Cls.fold h ps hp').1
    have hb := hp p hpm
    rw [foldC_snoc, relC_merged C hb.1 hb.2]
    rcases List.mem_append.mp hpm with z | z
    · exact .inl (ih hp' p z)
    · have : p = q := by simpa using z
      subst this
      exact .inr ⟨.inl (C.refl hb.1), .inr (C.refl hb.2)⟩
/-- it is the least one -/
theorem fold_least (h : Cls n cs) (R : Nat → Nat → Prop) (sy : ∀ a b, R a b → R b a) (tr : ∀ a b c, R a b → R b c → R a c) (h0 : ∀ a b, a < n → b < n → relC cs a b → R a b) : ∀ (ps : List (Nat × Nat)), (∀ p ∈ ps, p.1 < n ∧ p.2 < n) → (∀ p ∈ ps, R p.1 p.2) → ∀ a b, a < n → b < n → relC (foldC cs ps) a b → R a b := by
  intro ps
  induction ps using list_snoc with
  | h0 => intro _ _; exact h0
  | h1 ps q ih =>
    intro hp hR a b ha hb
    have hp' : ∀ p ∈ ps, p.1 < n ∧ p.2 < n := fun q hq => hp q (by simp [hq])
    have C := (Cls.fold h ps hp').1
    have IH := ih hp' fun p hq => hR p (by simp [hq])
    have hq := hp q (by simp)
    have Rq := hR q (by simp)
    rw [foldC_snoc, relC_merged C ha hb]
    have toOne : ∀ x, x < n → (relC (foldC cs ps) x q.1 ∨ relC (foldC cs ps) x q.2) → R x q.1 := by
      intro x hx hh
      rcases hh with z | z
      · exact IH x q.1 hx hq.1 z
      · exact tr _ _ _ (IH x q.2 hx hq.2 z) (sy _ _ Rq)
    rintro (z | ⟨z1, z2⟩)
    · exact IH a b ha hb z
    · exact tr _ _ _ (toOne a ha z1) (sy _ _ (toOne b hb z2))
end
theorem clsOf_len (ns : List Nat) : (clsOf ns).length = maxN ns + 1 := by simp [clsOf]
theorem pairsIn_lt {n : Nat} {cs : List (List Nat)} (h : Cls n cs) {p : Nat × Nat} (hp : p ∈ pairsIn cs) : p.1 < n ∧ p.2 < n := by
  obtain ⟨c, hc, hp⟩ := List.mem_flatMap.mp hp
  obtain ⟨k, hk, rfl⟩ := List.mem_map.mp hp
  cases c with
  | nil => simp at hk
  | cons x c => exact ⟨h.lt hc (by simp [hd0]), h.lt hc (by simp at hk; simp [hk])⟩
/-- relations that have the pairs have the classes -/
theorem pairs_rel {cs : List (List Nat)} (R : Nat → Nat → Prop) (rf : ∀ c ∈ cs, ∀ x ∈ c, R x x) (sy : ∀ a b, R a b → R b a) (tr : ∀ a b c, R a b → R b c → R a c) (hp : ∀ p ∈ pairsIn cs, R p.1 p.2) {a b : Nat} (h : relC cs a b) : R a b := by
  obtain ⟨c, hc, ha, hb⟩ := h
  have key : ∀ x ∈ c, R (hd0 c) x := by
    intro x hx
    cases c with
    | nil => simp at hx
    | cons y c =>
      rcases List.mem_cons.mp hx with rfl | hx
      · exact rf _ hc _ (by simp [hd0])
      · exact hp (hd0 (y :: c), x) (List.mem_flatMap.mpr ⟨_, hc, List.mem_map.mpr ⟨x, by simpa using hx, rfl⟩⟩)
  exact tr _ _ _ (sy _ _ (key a ha)) (key b hb)
theorem rel_pairs {ns : List Nat} {p : Nat × Nat} (hp : p ∈ pairsIn (clsOf ns)) : at0 ns p.1 = at0 ns p.2 := by
  have hl := pairsIn_lt (Cls.of ns) hp
  refine (relC_of hl.1 hl.2).mp ?_
  obtain ⟨c, hc, hp⟩ := List.mem_flatMap.mp hp
  obtain ⟨k, hk, rfl⟩ := List.mem_map.mp hp
  cases c with
  | nil => simp at hk
  | cons x c => exact ⟨_, hc, by simp [hd0], by simp at hk; simp [hk]⟩
/-- the law's own join -/
def joinC (xs ys : List Nat) : List Nat := numb ((List.range xs.length).map (homeC (foldC (clsOf xs) (pairsIn (clsOf ys)))))
theorem at0_numb {α : Type} [DecidableEq α] {xs : List α} {a b : Nat} (ha : a < xs.length) (hb : b < xs.length) : at0 (numb xs) a = at0 (numb xs) b ↔ xs[a] = xs[b] := by
  rw [at0_eq (by rw [numb_len]; exact ha), at0_eq (by rw [numb_len]; exact hb)]
  exact numb_eq_iff ha hb
section
variable {n : Nat} {xs ys : List Nat}
theorem joinC_rel (hx : xs.length = n) (hy : ys.length = n) {a b : Nat} (ha : a < n) (hb : b < n) : at0 (joinC xs ys) a = at0 (joinC xs ys) b ↔ relC (foldC (clsOf xs) (pairsIn (clsOf ys))) a b := by
  have Cx : Cls n (clsOf xs) := hx ▸ Cls.of xs
  have Cy : Cls n (clsOf ys) := hy ▸ Cls.of ys
  unfold joinC
  rw [hx, at0_numb (by simpa using ha) (by simpa using hb)]
  simp only [List.getElem_map, List.getElem_range]
  rw [home_iff (Cls.fold Cx _ fun p hp => pairsIn_lt Cy hp).1 ha hb]
theorem joinC_len (hx : xs.length = n) : (joinC xs ys).length = n := by simp [joinC, numb_len, hx]
theorem joinC_num : numb (joinC xs ys) = joinC xs ys := numb_numb _
theorem joinC_left (hx : xs.length = n) (hy : ys.length = n) {a b : Nat} (ha : a < n) (hb : b < n) (h : at0 xs a = at0 xs b) : at0 (joinC xs ys) a = at0 (joinC xs ys) b := by
  have Cx : Cls n (clsOf xs) := hx ▸ Cls.of xs
  have Cy : Cls n (clsOf ys) := hy ▸ Cls.of ys
  rw [joinC_rel hx hy ha hb]
  exact fold_sub Cx ha hb ((relC_of (by omega) (by omega)).mpr h) _ fun p hp => pairsIn_lt Cy hp
theorem joinC_right (hx : xs.length = n) (hy : ys.length = n) {a b : Nat} (ha : a < n) (hb : b < n) (h : at0 ys a = at0 ys b) : at0 (joinC xs ys) a = at0 (joinC xs ys) b := by
  have Cx : Cls n (clsOf xs) := hx ▸ Cls.of xs
  have Cy : Cls n (clsOf ys) := hy ▸ Cls.of ys
  rw [joinC_rel hx hy ha hb]
  obtain ⟨C, _⟩ := Cls.fold Cx _ fun p hp => pairsIn_lt Cy hp
  exact pairs_rel (cs := clsOf ys) (relC (foldC (clsOf xs) (pairsIn (clsOf ys)))) (fun c hc x hx => C.refl (Cy.lt hc hx)) (fun a b h => h.symm) (fun a b c h1 h2 => C.trans h1 h2) (fold_has Cx _ fun p hp => pairsIn_lt Cy hp) ((relC_of (by omega) (by omega)).mpr h)
theorem joinC_least (hx : xs.length = n) (hy : ys.length = n) (R : Nat → Nat → Prop) (sy : ∀ a b, R a b → R b a) (tr : ∀ a b c, R a b → R b c → R a c) (h1 : ∀ a b, a < n → b < n → at0 xs a = at0 xs b → R a b) (h2 : ∀ a b, a < n → b < n → at0 ys a = at0 ys b → R a b) {a b : Nat} (ha : a < n) (hb : b < n) (h : at0 (joinC xs ys) a = at0 (joinC xs ys) b) : R a b := by
  have Cx : Cls n (clsOf xs) := hx ▸ Cls.of xs
  have Cy : Cls n (clsOf ys) := hy ▸ Cls.of ys
  rw [joinC_rel hx hy ha hb] at h
  refine fold_least Cx R sy tr (fun a b ha hb z => h1 a b ha hb ((relC_of (by omega) (by omega)).mp z)) _ (fun p hp => pairsIn_lt Cy hp) (fun p hp => ?_) a b ha hb h
  have := pairsIn_lt Cy hp
  exact h2 p.1 p.2 this.1 this.2 (rel_pairs hp)
theorem at0_congr_numb {us vs : List Nat} (hl : us.length = vs.length) (h : ∀ a b, a < us.length → b < us.length → (at0 us a = at0 us b ↔ at0 vs a = at0 vs b)) : numb us = numb vs :=
  numb_congr hl fun i j hi hj hi' hj' => by
    have := h i j hi hj
    rwa [at0_eq hi, at0_eq hj, at0_eq hi', at0_eq hj'] at this
theorem joinC_comm (hx : xs.length = n) (hy : ys.length = n) : joinC xs ys = joinC ys xs := by
  rw [← joinC_num (xs := xs), ← joinC_num (xs := ys)]
  refine at0_congr_numb (by rw [joinC_len hx, joinC_len hy]) fun a b ha hb => ?_
  rw [joinC_len hx] at ha hb
  constructor
  · intro h
    exact joinC_least hx hy (fun a b => at0 (joinC ys xs) a = at0 (joinC ys xs) b) (fun _ _ h => h.symm) (fun _ _ _ h1 h2 => h1.trans h2) (fun a b ha hb h => joinC_right hy hx ha hb h) (fun a b ha hb h => joinC_left hy hx ha hb h) ha hb h
  · intro h
    exact joinC_least hy hx (fun a b => at0 (joinC xs ys) a = at0 (joinC xs ys) b) (fun _ _ h => h.symm) (fun _ _ _ h1 h2 => h1.trans h2) (fun a b ha hb h => joinC_right hx hy ha hb h) (fun a b ha hb h => joinC_left hx hy ha hb h) ha hb h
end
/-! ### the program's way -/
def mergedP (p : List Nat) (one far : Nat) : List Nat := p.map fun b => if b = at0 p far then at0 p one else b
def foldP (p : List Nat) (ps : List (Nat × Nat)) : List Nat := ps.foldl (fun p q => mergedP p q.1 q.2) p
theorem foldP_snoc (p : List Nat) (ps : List (Nat × Nat)) (q : Nat × Nat) : foldP p (ps ++ [q]) = mergedP (foldP p ps) q.1 q.2 := by simp [foldP]
theorem mergedP_len (p : List Nat) (one far : Nat) : (mergedP p one far).length = p.length := by simp [mergedP]
theorem foldP_len (p : List Nat) : ∀ ps, (foldP p ps).length = p.length := by
  intro ps
  induction ps using list_snoc with
  | h0 => rfl
  | h1 ps q ih => rw [foldP_snoc, mergedP_len, ih]
theorem at0_merged {p : List Nat} {one far a : Nat} (ha : a < p.length) : at0 (mergedP p one far) a = if at0 p a = at0 p far then at0 p one else at0 p a := by
  unfold mergedP
  rw [at0_map ha, at0_eq ha]
theorem merged_rel {p : List Nat} {one far a b : Nat} (ha : a < p.length) (hb : b < p.length) : at0 (mergedP p one far) a = at0 (mergedP p one far) b ↔ at0 p a = at0 p b ∨ ((at0 p a = at0 p one ∨ at0 p a = at0 p far) ∧ (at0 p b = at0 p one ∨ at0 p b = at0 p far)) := by
  rw [at0_merged ha, at0_merged hb]
  split <;> split <;> omega
/-- both ways have the same together -/
theorem fold_same {n : Nat} {p : List Nat} {cs : List (List Nat)} (h : Cls n cs) (hp : p.length = n) (h0 : ∀ a b, a < n → b < n → (at0 p a = at0 p b ↔ relC cs a b)) : ∀ ps : List (Nat × Nat), (∀ q ∈ ps, q.1 < n ∧ q.2 < n) → ∀ a b, a < n → b < n → (at0 (foldP p ps) a = at0 (foldP p ps) b ↔ relC (foldC cs ps) a b) := by
  intro ps
  induction ps using list_snoc with
  | h0 => intro _; exact h0
  | h1 ps q ih =>
    intro hq a b ha hb
    have hq' : ∀ p ∈ ps, p.1 < n ∧ p.2 < n := fun z hz => hq z (by simp [hz])
    have IH := ih hq'
    have hl : (foldP p ps).length = n := by rw [foldP_len, hp]
    have qq := hq q (by simp)
    rw [foldP_snoc, foldC_snoc, merged_rel (by omega) (by omega), relC_merged (Cls.fold h ps hq').1 ha hb, IH a b ha hb, IH a q.1 ha qq.1, IH a q.2 ha qq.2, IH b q.1 hb qq.1, IH b q.2 hb qq.2]
theorem join_same {n : Nat} {xs ys : List Nat} (hx : xs.length = n) (hy : ys.length = n) : numb (foldP xs (pairsIn (clsOf ys))) = joinC xs ys := by
  have Cx : Cls n (clsOf xs) := hx ▸ Cls.of xs
  have Cy : Cls n (clsOf ys) := hy ▸ Cls.of ys
  rw [← joinC_num (xs := xs)]
  refine at0_congr_numb (by rw [foldP_len, joinC_len hx, hx]) fun a b ha hb => ?_
  rw [foldP_len, hx] at ha hb
  rw [joinC_rel hx hy ha hb]
  exact fold_same Cx hx (fun a b ha hb => (relC_of (by omega) (by omega)).symm) _ (fun p hp => pairsIn_lt Cy hp) a b ha hb
/-! ### the meet -/
def zipN : List Nat → List Nat → List (List Nat)
  | x :: xs, y :: ys => [x, y] :: zipN xs ys
  | _, _ => []
theorem zipN_len : ∀ {xs ys : List Nat}, xs.length = ys.length → (zipN xs ys).length = xs.length
  | [], _, _ => by simp [zipN]
  | x :: xs, [], h => by simp at h
  | x :: xs, y :: ys, h => by simp only [zipN, List.length_cons]; rw [zipN_len (by simpa using h)]
theorem zipN_get : ∀ {xs ys : List Nat} {i : Nat}, xs.length = ys.length → (h : i < (zipN xs ys).length) → (zipN xs ys)[i] = [at0 xs i, at0 ys i]
  | [], _, i, _, h => by simp [zipN] at h
  | x :: xs, [], i, e, h => by simp at e
  | x :: xs, y :: ys, 0, e, h => by simp [zipN, at0]
  | x :: xs, y :: ys, i + 1, e, h => by
    have := zipN_get (xs := xs) (ys := ys) (i := i) (by simpa using e) (by simpa [zipN] using h)
    simp only [zipN, List.getElem_cons_succ, this]
    simp [at0]
theorem zipL_nat : ∀ xs ys : List Nat, zipL (xs.map nI) (ys.map nI) = (zipN xs ys).map tN
  | [], ys => by simp [zipL, zipN]
  | x :: xs, [] => by simp [zipL, zipN]
  | x :: xs, y :: ys => by simp [zipL, zipN, zipL_nat xs ys]
def metN (xs ys : List Nat) : List Nat := numb (zipN xs ys)
theorem metN_len {xs ys : List Nat} (h : xs.length = ys.length) : (metN xs ys).length = xs.length := by simp [metN, numb_len, zipN_len h]
theorem metN_num {xs ys : List Nat} : numb (metN xs ys) = metN xs ys := numb_numb _
theorem metN_rel {xs ys : List Nat} (h : xs.length = ys.length) {a b : Nat} (ha : a < xs.length) (hb : b < xs.length) : at0 (metN xs ys) a = at0 (metN xs ys) b ↔ at0 xs a = at0 xs b ∧ at0 ys a = at0 ys b := by
  have hl := zipN_len h
  unfold metN
  rw [at0_numb (by omega) (by omega), zipN_get h, zipN_get h]
  simp
theorem metN_comm {xs ys : List Nat} (h : xs.length = ys.length) : metN xs ys = metN ys xs := by
  rw [← metN_num (xs := xs), ← metN_num (xs := ys)]
  refine at0_congr_numb (by rw [metN_len h, metN_len h.symm, h]) fun a b ha hb => ?_
  rw [metN_len h] at ha hb
  rw [metN_rel h ha hb, metN_rel h.symm (by omega) (by omega)]
  exact And.comm
end KP


set_option Elab.async false
set_option linter.all false
set_option maxRecDepth 100000
/-! PF: the laws' own partings and classes. -/
namespace KG
open PySem PySem.Spec PyProof.Rows L2 KP
abbrev lL (cs : List (List Nat)) : PyData := .list (cs.map lI)
theorem maxN_lt {ns : List Nat} {n : Nat} (hn : 1 ≤ n) (h : ∀ x ∈ ns, x < n) : maxN ns < n := by
  have := maxN_le (b := n - 1) fun x hx => by have := h x hx; omega
  omega
theorem all_sheets_eq {many : Nat} (h1 : 1 ≤ many) (h8 : many ≤ 8) : F__law_all_sheets [.d (.int many)] = ret (.d (.list ((sheetsR (many - 1)).map tN))) := by
  refine Pu.eq (Pu.run ?_)
  unfold g__law_all_sheets startE
  have e1 : (many : Int) - 1 = ((many - 1 : Nat) : Int) := by omega
  have er := rng_nat (many - 1) (by omega)
  generalize hk : many - 1 = K at e1 er
  simp -implicitDefEqProofs [e1, er]
  refine Pu.for_ (f := nI) (xs := List.range K) (fun done env => ∃ (a b c : Option Sv), env = [some (.d (.int many)), some (.d (.list ((sheetsR done.length).map tN))), a, b, c, none]) ⟨none, none, none, rfl⟩ ?_ ?_
  · rintro done x rest env Q he ⟨a, b, c, rfl⟩ hQ
    obtain ⟨hx, hxk⟩ := range_split he
    have hlen := sheets_len (done.length + 1) (by omega)
    simp -implicitDefEqProofs
    refine Pu.for_ (f := tN) (xs := sheetsR done.length) (fun d2 env => ∃ (c : Option Sv), env = [some (.d (.int many)), some (.d (.list ((sheetsR done.length).map tN))), some (.d (nI x)), some (.d (.list ((d2.flatMap fun row => (List.range (maxN row + 2)).map fun h => row ++ [h]).map tN))), c, none]) ⟨c, rfl⟩ ?_ ?_
    · rintro d2 row rest2 env Q he2 ⟨c, rfl⟩ hQ
      have hrow : row ∈ sheetsR done.length := by rw [he2]; simp
      obtain ⟨hl, hn⟩ := mem_sheetsR.mp hrow
      have hne : row ≠ [] := by intro z; subst z; simp at hl
      have hm := max_t hne
      have hmx : maxN row < 8 := maxN_lt (by omega) fun y hy => by
        rw [← hn] at hy
        have := numb_lt hy
        omega
      obtain ⟨mx, hmx2⟩ : ∃ mx, mx = maxN row + 2 := ⟨_, rfl⟩
      have e2 : (maxN row : Int) + 2 = (mx : Int) := by omega
      have er2 := rng_nat mx (by omega)
      have hadd : ∀ h : Nat, gAdd (.d (tN row)) (.d (.tuple [.int h])) = some (.d (tN (row ++ [h]))) := by
        intro h
        have : row.length + 1 ≤ sizeLine := by rw [sizeLine_eq]; omega
        simp [gAdd, hAdd, hne, this]
      have c3 : lcA (lN gRng1 (aCons (c2 gAdd (cN (on1 hMax) (aCons (vT 4) aNil)) (kC (.int 2))) aNil)) (gN 5) bYes (c2 gAdd (vT 4) (cN gTupD (aCons (vT 5) aNil))) [5] [some (.d (.int many)), some (.d (.list ((sheetsR done.length).map tN))), some (.d (nI x)), some (.d (.list ((d2.flatMap fun row => (List.range (maxN row + 2)).map fun h => row ++ [h]).map tN))), some (.d (tN row)), none] = ret ((List.range mx).map fun h => tN (row ++ [h])) := by
        refine lcA_all (f := nI) (by simp -implicitDefEqProofs [hm, e2, er2]) (by rw [sizeLine_eq]; simp; omega) fun h _ => ?_
        simp -implicitDefEqProofs [hadd]
      have hsum : (d2.flatMap fun row => (List.range (maxN row + 2)).map fun h => row ++ [h]).length + mx ≤ sizeLine := by
        have e5 : (sheetsR (done.length + 1)).length = ((d2 ++ row :: rest2).flatMap fun row => (List.range (maxN row + 2)).map fun h => row ++ [h]).length := by
          rw [← he2]; rfl
        rw [List.flatMap_append, List.length_append, List.flatMap_cons, List.length_append] at e5
        simp only [List.length_map, List.length_range] at e5
        rw [sizeLine_eq]
        omega
      have hg : gAdd (.d (.list ((d2.flatMap fun row => (List.range (maxN row + 2)).map fun h => row ++ [h]).map tN))) (.d (.list ((List.range mx).map fun h => tN (row ++ [h])))) = some (.d (.list (((d2 ++ [row]).flatMap fun row => (List.range (maxN row + 2)).map fun h => row ++ [h]).map tN))) := by
        simp only [gAdd, gDD_eq, hAdd, List.length_map, List.length_range]
        rw [if_pos hsum]
        simp [List.flatMap_append, hmx2]
      simp -implicitDefEqProofs [c3, hg]
      exact Pu.ret (hQ _ ⟨some (.d (tN row)), by simp⟩)
    · rintro env ⟨c, rfl⟩
      simp -implicitDefEqProofs
      exact Pu.ret (hQ _ ⟨_, _, _, by rw [List.length_append]; rfl⟩)
  · rintro env ⟨a, b, c, rfl⟩
    rw [List.length_range]
    simp -implicitDefEqProofs
    exact Pu.ret rfl
theorem classes_eq {ns : List Nat} (hne : ns ≠ []) (hl : ns.length ≤ 8) (hm : maxN ns < 100) : F__law_classes [.d (tN ns)] = ret (.d (lL (clsOf ns))) := by
  refine run_fin ?_
  unfold g__law_classes startE
  have h1 := max_t hne
  obtain ⟨mx, hmx⟩ : ∃ mx, mx = maxN ns + 1 := ⟨_, rfl⟩
  have e2 : (maxN ns : Int) + 1 = (mx : Int) := by omega
  have er2 := rng_nat mx (by omega)
  have c3 : lcA (lN gRng1 (aCons (c2 gAdd (cN (on1 hMax) (aCons (vT 0) aNil)) (kC (.int 1))) aNil)) (gN 1) bYes (fD (lcA (lN gEnum (aCons (vT 0) aNil)) (gT [(gN 2), (gN 3)]) (bV (c2 gEq (vT 3) (vT 1))) (vT 2) [2, 3])) [1] [some (.d (tN ns)), none, none, none] = ret ((List.range mx).map fun b => lI (clsB ns b)) := by
    refine lcA_all (f := nI) (by simp -implicitDefEqProofs [h1, e2, er2]) (by rw [sizeLine_eq]; simp; omega) fun b _ => ?_
    have c4 : lcA (lN gEnum (aCons (vT 0) aNil)) (gT [(gN 2), (gN 3)]) (bV (c2 gEq (vT 3) (vT 1))) (vT 2) [2, 3] [some (.d (tN ns)), some (.d (nI b)), none, none] = ret ((ns.zipIdx.filter fun q => decide (q.1 = b)).map fun q => nI q.2) := by
      refine lcA_fil (f := fun q : Nat × Nat => .tuple [nI q.2, nI q.1]) (by simp -implicitDefEqProofs [enum_t nI ns]) (by rw [sizeLine_eq]; simp; omega) (fun q _ => ?_) (fun q _ _ => ?_)
      · have : decide ((q.1 : Int) = b) = decide (q.1 = b) := by rw [decide_eq_decide]; omega
        simp -implicitDefEqProofs [this]
      · simp -implicitDefEqProofs
    simp -implicitDefEqProofs [c4, lI, clsB, Function.comp_def]
  simp -implicitDefEqProofs [c3, lL, clsOf, hmx, Function.comp_def]
theorem in_lI (neg : Bool) (k : Nat) (c : List Nat) : gDD (hIn neg) (.d (.int k)) (.d (lI c)) = some (.d (.bool (if neg = true then !decide (k ∈ c) else decide (k ∈ c)))) := by
  refine hIn_of (f := nI) (bs := []) (cs := []) rfl (fun x _ => fits_int _ _) (hk := ?_)
  simp only [decide_eq_true_eq]
  constructor
  · intro h; exact ⟨k, h, rfl⟩
  · rintro ⟨x, hx, e⟩; rw [← nI_inj.mp e]; exact hx
theorem find_idx {fs : List Nat} {x : Nat} (h : x ∈ fs) : ((fs.map nI).findIdx? fun y => PyData.eqv y (nI x)) = some (fs.idxOf x) := by
  have e : ∀ y, PyData.eqv (nI y) (nI x) = (y == x) := by
    intro y
    rw [Bool.eq_iff_iff, eqv_iff (bs := []) (cs := []) rfl rfl, nI_inj]; simp
  rw [List.findIdx?_map]
  have : ((fun y => PyData.eqv y (nI x)) ∘ nI) = fun y => y == x := by funext y; exact e y
  rw [this, List.findIdx?_eq_some_iff_findIdx_eq]
  exact ⟨List.idxOf_lt_length_of_mem h, rfl⟩
theorem index_lI {fs : List Nat} {x : Nat} (h : x ∈ fs) : gIndex (fs.map nI) (.d (.int x)) = some (.d (nI (fs.idxOf x))) := by
  have h1 : inOk (nI x) (fs.map nI) = true := inOk_of (bs := []) (cs := []) rfl (fun y hy => by obtain ⟨n, _, rfl⟩ := List.mem_map.mp hy; rfl)
  simp only [gIndex, h1, if_true, find_idx h, Option.map_some]
theorem told_of_eq {n : Nat} {cs : List (List Nat)} (h : Cls n cs) (hn : n ≤ 8) (hc : cs.length ≤ 100) : F__law_told_of [.d (.int n), .d (lL cs)] = ret (.d (tN (numb ((List.range n).map (homeC cs))))) := by
  refine Pu.eq (Pu.run ?_)
  unfold g__law_told_of startE
  have er := rng_nat n (by omega)
  simp -implicitDefEqProofs [er]
  refine Pu.for_ (f := nI) (xs := List.range n) (fun done env => ∃ (a b : Option Sv), env = [some (.d (.int n)), some (.d (lL cs)), some (.l1 ((numb (done.map (homeC cs))).map nI)), some (.l1 ((firsts (done.map (homeC cs))).map nI)), a, b, none, none]) ⟨none, none, rfl⟩ ?_ ?_
  · rintro done k rest env Q he ⟨a, b, rfl⟩ hQ
    obtain ⟨hk, hkn⟩ := range_split he
    obtain ⟨c, i, rs, e1, hcc, hkc, hi⟩ := home_some h hkn
    have c3 : lcA (lN gEnum (aCons (vT 1) aNil)) (gT [(gN 6), (gN 7)]) (bV (c2 (gDD (hIn false)) (vT 4) (vT 7))) (vT 6) [6, 7] [some (.d (.int n)), some (.d (lL cs)), some (.l1 ((numb (done.map (homeC cs))).map nI)), some (.l1 ((firsts (done.map (homeC cs))).map nI)), some (.d (nI k)), b, none, none] = ret ((cs.zipIdx.filter fun q => decide (k ∈ q.1)).map fun q => nI q.2) := by
      refine lcA_fil (f := fun q : List Nat × Nat => .tuple [nI q.2, lI q.1]) (by simp -implicitDefEqProofs [enum_l lI cs]) (by rw [sizeLine_eq]; simp; omega) (fun q _ => ?_) (fun q _ _ => ?_)
      · have := in_lI false k q.1
        simp -implicitDefEqProofs [-gDD_eq, this]
      · simp -implicitDefEqProofs
    rw [e1] at c3
    have hfl := firsts_len (done.map (homeC cs))
    have hdl : done.length < 8 := by omega
    have g1 := in_lI true i (firsts (done.map (homeC cs)))
    have hs1 : (firsts (done.map (homeC cs))).length < sizeLine := by rw [sizeLine_eq]; simp at hfl; omega
    have hs2 : done.length < sizeLine := by rw [sizeLine_eq]; omega
    have en : numb ((done ++ [k]).map (homeC cs)) = numb (done.map (homeC cs)) ++ [(fstep (firsts (done.map (homeC cs))) i).idxOf i] := by
      rw [List.map_append, List.map_cons, List.map_nil, hi, numb_snoc]
    have ef : firsts ((done ++ [k]).map (homeC cs)) = fstep (firsts (done.map (homeC cs))) i := by
      rw [List.map_append, List.map_cons, List.map_nil, hi, firsts_snoc]
    by_cases hm : i ∈ firsts (done.map (homeC cs))
    · have e3 : fstep (firsts (done.map (homeC cs))) i = firsts (done.map (homeC cs)) := by unfold fstep; rw [if_pos hm]
      rw [e3] at en ef
      have ix := index_lI hm
      simp -implicitDefEqProofs [-gDD_eq, c3, g1, hm, ix, numb_len, hs2]
      refine Pu.ret (hQ _ ⟨some (.d (nI k)), some (.d (nI i)), ?_⟩)
      rw [en, ef]
      simp
    · have e3 : fstep (firsts (done.map (homeC cs))) i = firsts (done.map (homeC cs)) ++ [i] := by unfold fstep; rw [if_neg hm]
      rw [e3] at en ef
      have ix := index_lI (fs := firsts (done.map (homeC cs)) ++ [i]) (x := i) (by simp)
      rw [List.map_append, List.map_cons, List.map_nil] at ix
      simp -implicitDefEqProofs [-gDD_eq, c3, g1, hm, hs1, ix, numb_len, hs2]
      refine Pu.ret (hQ _ ⟨some (.d (nI k)), some (.d (nI i)), ?_⟩)
      rw [en, ef]
      simp
  · rintro env ⟨a, b, rfl⟩
    have := immV_of (tN_imm (numb ((List.range n).map (homeC cs))))
    simp -implicitDefEqProofs [this]
    exact Pu.ret rfl
end KG


set_option Elab.async false
set_option linter.all false
set_option maxRecDepth 100000
/-! PG: classes made one, finer, the join, drawn partings. -/
namespace KG
open PySem PySem.Spec PyProof.Rows L2 KP
theorem in_lL (neg : Bool) {c : List Nat} {cs : List (List Nat)} (hc : c.length ≤ 100) (hcs : ∀ d ∈ cs, d.length ≤ 100) : gDD (hIn neg) (.d (lI c)) (.d (lL cs)) = some (.d (.bool (if neg = true then !decide (c ∈ cs) else decide (c ∈ cs)))) := by
  refine hIn_of (f := lI) (bs := [100]) (cs := [100]) (fits_lI hc) (fun x hx => fits_lI (hcs x hx)) (hk := ?_)
  simp only [decide_eq_true_eq]
  constructor
  · intro h; exact ⟨c, h, rfl⟩
  · rintro ⟨x, hx, e⟩; rw [← lI_inj.mp e]; exact hx
theorem add_l {α : Type} {f : α → PyData} {xs ys : List α} (h : xs.length + ys.length ≤ sizeLine) : gAdd (.d (.list (xs.map f))) (.d (.list (ys.map f))) = some (.d (.list ((xs ++ ys).map f))) := by
  simp only [gAdd, gDD_eq, hAdd, List.length_map]
  rw [if_pos h]; simp
theorem law_merged_eq {n : Nat} {cs : List (List Nat)} {one far : Nat} (h : Cls n cs) (hn : n ≤ 8) (hc : cs.length ≤ 100) : F__law_merged [.d (lL cs), .d (.int one), .d (.int far)] = ret (.d (lL (mergedC cs one far))) := by
  refine Pu.eq (Pu.run ?_)
  unfold g__law_merged startE
  have hsz : cs.length ≤ sizeLine := by rw [sizeLine_eq]; omega
  have c1 : lcA (lSeq (vT 0)) (gN 5) (bOr (bV (c2 (gDD (hIn false)) (vT 1) (vT 5))) (bV (c2 (gDD (hIn false)) (vT 2) (vT 5)))) (vT 5) [5] [some (.d (lL cs)), some (.d (.int one)), some (.d (.int far)), none, none, none] = ret ((cs.filter (isEither one far)).map lI) := by
    refine lcA_fil (f := lI) (by simp -implicitDefEqProofs) hsz (fun c _ => ?_) (fun c _ _ => by simp -implicitDefEqProofs)
    have h1 := in_lI false one c
    have h2 := in_lI false far c
    by_cases q : one ∈ c
    · simp -implicitDefEqProofs [-gDD_eq, h1, q, isEither]
    · simp -implicitDefEqProofs [-gDD_eq, h1, h2, q, isEither]
  simp -implicitDefEqProofs [c1]
  refine Pu.for_ (f := lI) (xs := cs.filter (isEither one far)) (fun done env => ∃ (a : Option Sv), env = [some (.d (lL cs)), some (.d (.int one)), some (.d (.int far)), some (.d (lL (cs.filter (isEither one far)))), some (.d (lI done.flatten)), a]) ⟨none, rfl⟩ ?_ ?_
  · rintro done c rest env Q he ⟨a, rfl⟩ hQ
    have hb : done.flatten.length + c.length ≤ 8 := by
      have e1 := (filter_flatten_perm (isEither one far) cs).length_eq
      rw [List.length_append, h.tot, he, List.flatten_append, List.length_append, List.flatten_cons, List.length_append] at e1
      omega
    have := add_l (f := nI) (xs := done.flatten) (ys := c) (by rw [sizeLine_eq]; omega)
    simp -implicitDefEqProofs [this]
    refine Pu.ret (hQ _ ⟨some (.d (lI c)), ?_⟩)
    simp
  · rintro env ⟨a, rfl⟩
    have c2 : lcA (lSeq (vT 0)) (gN 5) (bV (KP.c2 (gDD (hIn true)) (vT 5) (vT 3))) (vT 5) [5] [some (.d (lL cs)), some (.d (.int one)), some (.d (.int far)), some (.d (lL (cs.filter (isEither one far)))), some (.d (lI (cs.filter (isEither one far)).flatten)), a] = ret ((cs.filter fun c => !isEither one far c).map lI) := by
      refine lcA_fil (f := lI) (by simp -implicitDefEqProofs) hsz (fun c hcc => ?_) (fun c _ _ => by simp -implicitDefEqProofs)
      have hl := h.clen hcc
      have h1 := in_lL true (c := c) (cs := cs.filter (isEither one far)) (by omega) (fun d hd => by have := h.clen (List.mem_filter.mp hd).1; omega)
      have h2 : decide (c ∈ cs.filter (isEither one far)) = isEither one far c := by
        rw [Bool.eq_iff_iff, decide_eq_true_eq, List.mem_filter]
        exact ⟨fun q => q.2, fun q => ⟨hcc, q⟩⟩
      rw [h2] at h1
      simp -implicitDefEqProofs [-gDD_eq, h1]
    have h3 := sort_l (cs.filter (isEither one far)).flatten
    have h4 := add_l (f := lI) (xs := cs.filter fun c => !isEither one far c) (ys := [sortN (cs.filter (isEither one far)).flatten]) (by
      have := List.length_filter_le (fun c => !isEither one far c) cs
      rw [sizeLine_eq]; simp; omega)
    simp only [List.map_cons, List.map_nil] at h4
    simp -implicitDefEqProofs [c2, h3, h4]
    exact Pu.ret (by simp [mergedC])
/-- is each two that are together in xs so in ys -/
def finerN (xs ys : List Nat) : Bool := xs.zipIdx.all fun q => (List.range q.2).all fun b => !(decide (at0 xs b = q.1) && !decide (at0 ys q.2 = at0 ys b))
theorem finerN_iff {xs ys : List Nat} : finerN xs ys = true ↔ ∀ a b, a < xs.length → b < xs.length → at0 xs a = at0 xs b → at0 ys a = at0 ys b := by
  unfold finerN
  simp only [List.all_eq_true, List.mem_range, Bool.not_eq_true', Bool.and_eq_false_iff, decide_eq_false_iff_not, Bool.not_eq_false', decide_eq_true_eq]
  have key : (∀ q ∈ xs.zipIdx, ∀ b, b < q.2 → (¬ at0 xs b = q.1 ∨ at0 ys q.2 = at0 ys b)) ↔ ∀ a b, a < xs.length → b < a → at0 xs b = at0 xs a → at0 ys a = at0 ys b := by
    constructor
    · intro h a b ha hb e
      have := h (at0 xs a, a) (by rw [List.mem_zipIdx_iff_getElem?, at0_eq ha]; simp [ha]) b hb
      exact this.resolve_left fun z => z e
    · rintro h ⟨x, a⟩ hq b hb
      rw [List.mem_zipIdx_iff_getElem?] at hq
      obtain ⟨h1, h2⟩ := List.getElem?_eq_some_iff.mp hq
      dsimp only at h1 h2 hb ⊢
      by_cases e : at0 xs b = x
      · exact .inr (h a b h1 hb (by rw [at0_eq h1, h2, e]))
      · exact .inl e
  rw [key]
  constructor
  · intro h a b ha hb e
    rcases Nat.lt_trichotomy a b with q | q | q
    · exact (h b a hb q e).symm
    · rw [q]
    · exact h a b ha q e.symm
  · intro h a b ha hb e
    exact h a b ha (by omega) e.symm
end KG


set_option Elab.async false
set_option linter.all false
set_option maxRecDepth 100000
/-! PH: the law's own join. -/
namespace KG
open PySem PySem.Spec PyProof.Rows L2 KP
@[simp] theorem eSl_eq (env : En) (g : Va → Option Int → Option Int → Option Va) (f : DF) (lo hi : Option DF) : eSl g f lo hi env = bnd (f env) fun v => bnd (partF lo env) fun a => bnd (partF hi env) fun b => ofO (g v a b) := rfl
@[simp] theorem partF_none (env : En) : partF none env = ret none := rfl
@[simp] theorem partF_some (env : En) (g : DF) : partF (some g) env = bnd (g env) fun v => bnd (ofO v.asI) fun i => ret (some i) := rfl
theorem cut_from (xs : List PyData) (k : Nat) : gSlL (.d (.list xs)) (some (k : Int)) none = some (.d (.list (xs.drop k))) := by
  simp only [gSlL, KP.cutD, HT.sIx_nat, HT.sIx_none]
  congr 3
  by_cases h : k ≤ xs.length
  · rw [Nat.min_eq_left h, List.take_of_length_le (by simp)]
  · rw [Nat.min_eq_right (by omega), List.drop_eq_nil_of_le (Nat.le_refl _), List.drop_eq_nil_of_le (by omega)]; simp
theorem cut_to (xs : List PyData) (k : Nat) : gSlL (.d (.list xs)) none (some (k : Int)) = some (.d (.list (xs.take k))) := by
  simp only [gSlL, KP.cutD, HT.sIx_nat, HT.sIx_none]
  congr 3
  rw [List.drop_zero, Nat.sub_zero]
  by_cases h : k ≤ xs.length
  · rw [Nat.min_eq_left h]
  · rw [Nat.min_eq_right (by omega), List.take_of_length_le (Nat.le_refl _), List.take_of_length_le (by omega)]
theorem joinC_part {n : Nat} {xs ys : List Nat} (hx : Part xs n) : Part (joinC xs ys) n := ⟨joinC_len hx.len, joinC_num⟩
theorem joinC_finer {n : Nat} {xs ys : List Nat} (hx : Part xs n) (hy : Part ys n) {a b : Nat} (ha : a < n) (hb : b < n) (h : at0 xs a = at0 xs b) : at0 (joinC xs ys) a = at0 (joinC xs ys) b := joinC_left hx.len hy.len ha hb h
end KG


set_option Elab.async false
set_option linter.all false
set_option maxRecDepth 100000
/-! PL: the program's partings: blocks_of, merged, joined, met, is_under. -/
namespace KG
open PySem PySem.Spec PyProof.Rows L2 KP
@[simp] theorem sIfSetd_eq (env : En) (i : Nat) (fk fx fw : DF) (g : Va → Va → Option Va) (a b : SF) : sIfSetd i fk fx fw g a b env = bnd (ofO ((lk env i).bind Sv.asDD)) fun d => lift env (fk env) fun kv => bnd (ofO kv.asD) fun k => lift env (fx env) fun xv => bnd (ofO xv.asD) fun x => bnd (ofO (d.setd k x)) fun r =>
  lift (env.set i (some (.dd r.2))) (fw (env.set i (some (.dd r.2)))) fun w => bnd (ofO ((g (.d r.1) w).bind toB)) fun t => if t = true then a (env.set i (some (.dd r.2))) else b (env.set i (some (.dd r.2))) := rfl
/-- the blocks so far -/
def blkF (ns : List Nat) (m j : Nat) : List (List Nat) := (List.range m).map fun b => (clsB ns b).filter fun k => decide (k < j)
theorem clsB_take (ns : List Nat) (b j : Nat) (hj : j < ns.length) : ((clsB ns b).filter fun k => decide (k < j + 1)) = ((clsB ns b).filter fun k => decide (k < j)) ++ (if at0 ns j = b then [j] else []) := by
  have hs := clsB_sub ns b
  have key : ∀ (m : Nat), m ≤ ns.length → ∀ l : List Nat, l.Sublist (List.range m) → (l.filter fun k => decide (k < j + 1)) = (l.filter fun k => decide (k < j)) ++ (if j ∈ l then [j] else []) := by
    intro m
    induction m with
    | zero => intro _ l hl; simp at hl; subst hl; simp
    | succ m ih =>
      intro hm l hl
      rw [List.range_succ] at hl
      obtain ⟨l1, l2, rfl, h1, h2⟩ := List.sublist_append_iff.mp hl
      rw [List.filter_append, List.filter_append, ih (by omega) l1 h1]
      have hl2 : l2 = [] ∨ l2 = [m] := by
        cases l2 with
        | nil => exact .inl rfl
        | cons x l2 =>
          have := h2
          cases this with
          | cons _ q => simp at q
          | cons_cons _ q => simp at q; subst q; exact .inr rfl
      have hl1 : ∀ x ∈ l1, x < m := fun x hx => by simpa using h1.subset hx
      rcases hl2 with rfl | rfl
      · simp
      · by_cases e : m = j
        · subst e
          have : m ∉ l1 := fun z => Nat.lt_irrefl _ (hl1 m z)
          simp [this]
        · by_cases e2 : m < j
          · have hj1 : j ∉ l1 := fun z => by have := hl1 j z; omega
            have e3 : ¬ j = m := fun z => e z.symm
            have e4 : m < j + 1 := by omega
            simp [hj1, e2, e3, e4]
          · have e3 : ¬ j = m := fun z => e z.symm
            have e4 : ¬ m < j + 1 := by omega
            simp [e2, e3, e4]
  rw [key ns.length (Nat.le_refl _) _ hs]
  congr 1
  have : (j ∈ clsB ns b) ↔ at0 ns j = b := by rw [mem_clsB]; simp [hj]
  by_cases q : at0 ns j = b
  · rw [if_pos q, if_pos (this.mpr q)]
  · rw [if_neg q, if_neg (fun z => q (this.mp z))]
theorem blkF_step {ns : List Nat} {m j : Nat} (hj : j < ns.length) (hm : at0 ns j < m) : blkF ns m (j + 1) = (blkF ns m j).set (at0 ns j) ((blkF ns m j)[at0 ns j]'(by simpa [blkF] using hm) ++ [j]) := by
  apply List.ext_getElem (by simp [blkF])
  intro i h1 h2
  have hi : i < m := by simpa [blkF] using h1
  by_cases e : i = at0 ns j
  · subst e
    rw [List.getElem_set_self]
    simp only [blkF, List.getElem_map, List.getElem_range]
    rw [clsB_take ns _ j hj, if_pos rfl]
  · rw [List.getElem_set_ne (Ne.symm e)]
    simp only [blkF, List.getElem_map, List.getElem_range]
    rw [clsB_take ns _ j hj, if_neg (fun z => e z.symm)]; simp
theorem blocks_of_eq {ns : List Nat} (hne : ns ≠ []) (hl : ns.length ≤ 8) (hm : maxN ns < 100) : F_blocks_of [.d (tN ns)] = ret (.d (lL (clsOf ns))) := by
  refine Pu.eq (Pu.run ?_)
  unfold g_blocks_of startE
  have h1 := max_t hne
  obtain ⟨mx, hmx⟩ : ∃ mx, mx = maxN ns + 1 := ⟨_, rfl⟩
  have e2 : (maxN ns : Int) + 1 = (mx : Int) := by omega
  have er2 := rng_nat mx (by omega)
  have hz : mx ≤ sizeLine := by rw [sizeLine_eq]; omega
  simp -implicitDefEqProofs [h1, e2, er2, hz]
  rw [compR_all (g := fun _ => []) (by simp)]
  simp -implicitDefEqProofs [enum_t nI ns]
  have h0 : List.map (fun _ : Nat => ([] : List PyData)) (List.range mx) = rL (blkF ns mx 0) := by
    simp only [rL, blkF, List.map_map]
    apply List.map_congr_left
    intro b _
    simp
  rw [h0]
  refine Pu.for_ (f := fun q : Nat × Nat => .tuple [nI q.2, nI q.1]) (xs := ns.zipIdx) (fun done env => ∃ (a b : Option Sv), env = [some (.d (tN ns)), some (.l2 (rL (blkF ns mx done.length))), a, b]) ⟨none, none, rfl⟩ ?_ ?_
  · rintro done ⟨x, i⟩ rest env Q he ⟨a, b, rfl⟩ hQ
    obtain ⟨hi, hil, hx⟩ := zip_split he
    have hxa : at0 ns i = x := by rw [at0_eq hil]; exact (List.getElem?_eq_some_iff.mp hx).2
    have hxm : x < mx := by have := le_maxN (at0_mem hil); omega
    have hRl : (blkF ns mx done.length).length = mx := by simp [blkF]
    have hxR : x < (blkF ns mx done.length).length := by omega
    have e1 := ixN_nat (n := mx) (k := x) hxm
    have e4 : ((blkF ns mx done.length)[x]).length < sizeLine := by
      rw [sizeLine_eq]
      simp only [blkF, List.getElem_map, List.getElem_range]
      have := Nat.le_trans (List.length_filter_le (fun k => decide (k < done.length)) (clsB ns x)) (clsB_len ns x)
      omega
    have hs := rL_set (R := blkF ns mx done.length) (g := i) hxR
    have st := blkF_step (m := mx) hil (by omega)
    have hget : (blkF ns mx done.length)[x]? = some (blkF ns mx done.length)[x] := List.getElem?_eq_getElem hxR
    simp -implicitDefEqProofs [hRl, e1, hget, e4]
    refine Pu.ret (hQ _ ⟨some (.d (nI i)), some (.d (nI x)), ?_⟩)
    rw [List.length_append]
    have e5 : done.length + [(x, i)].length = i + 1 := by rw [hi]; rfl
    rw [e5, st, ← rL_set]
    subst hxa; subst hi; rfl
  · rintro env ⟨a, b, rfl⟩
    rw [List.length_zipIdx]
    simp -implicitDefEqProofs
    refine Pu.ret ?_
    have e3 : blkF ns mx ns.length = clsOf ns := by
      unfold blkF clsOf
      rw [hmx]
      apply List.map_congr_left
      intro b _
      rw [List.filter_eq_self]
      intro k hk
      simpa using (mem_clsB.mp hk).1
    rw [e3]
    simp [rL, lL, Function.comp_def]
theorem merged_eq {p : List Nat} {one far : Nat} (h1 : one < p.length) (h2 : far < p.length) (hl : p.length ≤ 100) : F_merged [.d (tN p), .d (.int one), .d (.int far)] = ret (.d (tN (mergedP p one far))) := by
  refine run_fin ?_
  unfold g_merged startE
  have i1 := ix_tD h1
  have i2 := ix_tD h2
  have c1 : lcA (lSeq (vT 0)) (gN 5) bYes (eIf (bV (c2 gEq (vT 5) (vT 4))) (vT 3) (vT 5)) [5] [some (.d (tN p)), some (.d (.int one)), some (.d (.int far)), some (.d (nI (at0 p one))), some (.d (nI (at0 p far))), none] = ret (p.map fun b => nI (if b = at0 p far then at0 p one else b)) := by
    refine lcA_all (f := nI) (by simp -implicitDefEqProofs) (by rw [sizeLine_eq]; omega) fun b _ => ?_
    by_cases q : b = at0 p far
    · have q' : (b : Int) = at0 p far := by omega
      simp -implicitDefEqProofs [q]
    · have q' : ¬ (b : Int) = at0 p far := by omega
      simp -implicitDefEqProofs [q, q']
  simp -implicitDefEqProofs [i1, i2, c1, mergedP, tN, Function.comp_def]
theorem joinedP_eq {n : Nat} {xs ys : List Nat} (hx : xs.length = n) (hy : Part ys n) (h1 : 1 ≤ n) (h8 : n ≤ 8) : F_joined [.d (tN xs), .d (tN ys)] = ret (.d (tN (joinC xs ys))) := by
  have hny : ys ≠ [] := by intro z; have := hy.len; rw [z] at this; simp at this; omega
  have my : maxN ys < n := maxN_lt h1 fun _ h => hy.lt h
  have hly := hy.len
  have cy := blocks_of_eq hny (by omega) (by omega)
  have Cy : Cls n (clsOf ys) := hly ▸ Cls.of ys
  refine Pu.eq (Pu.run ?_)
  unfold g_joined startE
  simp -implicitDefEqProofs [cy]
  refine Pu.for_ (f := lI) (xs := clsOf ys) (fun done env => ∃ (a b : Option Sv), env = [some (.d (tN xs)), some (.d (tN ys)), some (.d (tN (foldP xs (pairsIn done)))), a, b]) ⟨none, none, rfl⟩ ?_ ?_
  · rintro done c rest env Q he ⟨a, b, rfl⟩ hQ
    have cut : gSlL (.d (lI c)) (some 1) none = some (.d (lI c.tail)) := by
      have := cut_from (c.map nI) 1
      rw [List.drop_one, ← List.map_tail] at this
      exact this
    simp -implicitDefEqProofs [cut]
    rw [← List.map_tail]
    refine Pu.for0 (f := nI) (xs := c.tail) (fun d2 env => ∃ (b : Option Sv), env = [some (.d (tN xs)), some (.d (tN ys)), some (.d (tN (foldP xs (pairsIn done ++ d2.map fun k => (hd0 c, k))))), some (.d (lI c)), b]) ⟨b, by simp⟩ ?_ ?_
    · rintro d2 k rest2 env Q he2 ⟨b, rfl⟩ hQ
      have hk : k ∈ c.tail := by rw [he2]; simp
      have hp : (hd0 c, k) ∈ pairsIn (clsOf ys) := by
        rw [he]
        unfold pairsIn
        rw [List.flatMap_append, List.flatMap_cons]
        exact List.mem_append_right _ (List.mem_append_left _ (List.mem_map.mpr ⟨k, hk, rfl⟩))
      have hlt := pairsIn_lt Cy hp
      have hm := merged_eq (p := foldP xs (pairsIn done ++ d2.map fun k => (hd0 c, k))) (one := hd0 c) (far := k) (by rw [foldP_len]; have := hlt.1; dsimp only at this; omega) (by rw [foldP_len]; have := hlt.2; dsimp only at this; omega) (by rw [foldP_len]; omega)
      have hix : gIx (.d (lI c)) (.d (.int 0)) = some (.d (nI (hd0 c))) := by
        cases c with
        | nil => simp at he2
        | cons x c => exact gIx_l0 (nI x) (c.map nI)
      simp -implicitDefEqProofs [hix, hm]
      refine Pu.ret (hQ _ ⟨some (.d (nI k)), ?_⟩)
      rw [List.map_append, ← List.append_assoc]
      simp only [List.map_cons, List.map_nil]
      rw [foldP_snoc]
    · rintro env ⟨b, rfl⟩
      refine hQ _ ⟨some (.d (lI c)), b, ?_⟩
      unfold pairsIn
      rw [List.flatMap_append]
      simp
  · rintro env ⟨a, b, rfl⟩
    have hnum := numbered_t (ns := foldP xs (pairsIn (clsOf ys))) (by rw [foldP_len, sizeLine_eq]; omega)
    rw [join_same hx hly] at hnum
    simp -implicitDefEqProofs [hnum]
    exact Pu.ret rfl
theorem lzip_eq {xs ys : List Nat} (h : xs.length ≤ 100) : gLZip [.d (tN xs), .d (tN ys)] = some (.d (.list ((zipN xs ys).map tN))) := by
  have : min (xs.map nI).length (ys.map nI).length ≤ sizeLine := by rw [sizeLine_eq]; simp; omega
  simp only [gLZip, this, if_true, zipL_nat]
/-! ### is_under -/
theorem val_put {κ : Type} [DecidableEq κ] {kvs : List (κ × PyData)} {k q : κ} {v : PyData} (hn : valD kvs q = none) : valD (putD kvs q v) k = if k = q then some v else valD kvs k := by
  have hn' : kvs.find? (fun kv => decide (kv.1 = q)) = none := by
    unfold KP.valD at hn
    cases e : kvs.find? (fun kv => decide (kv.1 = q)) with
    | none => rfl
    | some z => rw [e] at hn; simp at hn
  have ha : (kvs.any fun kv => decide (kv.1 = q)) = false := by
    rw [List.any_eq_false]
    exact List.find?_eq_none.mp hn'
  unfold putD
  rw [if_neg (by rw [ha]; decide)]
  unfold KP.valD
  rw [List.find?_append]
  by_cases e : k = q
  · subst e
    rw [hn']; simp
  · rw [if_neg e]
    cases e2 : kvs.find? (fun kv => decide (kv.1 = k)) with
    | some z => simp
    | none =>
      have : ¬ q = k := fun z => e z.symm
      simp [this]
theorem put_len {κ : Type} [DecidableEq κ] {kvs : List (κ × PyData)} {q : κ} {v : PyData} : (putD kvs q v).length ≤ kvs.length + 1 := by
  unfold putD
  split <;> simp
/-- a dict that has y for x at the first i places -/
structure Known (xs ys : List Nat) (i : Nat) (kvs : List (Key × PyData)) : Prop where
  has : ∀ j, j < i → valD kvs (KG.kN (at0 xs j)) = some (nI (at0 ys j))
  non : ∀ x : Nat, (∀ j, j < i → at0 xs j ≠ x) → valD kvs (KG.kN x) = none
  len : kvs.length ≤ i
theorem kN_inj {a b : Nat} : KG.kN a = KG.kN b ↔ a = b := by
  unfold KG.kN
  constructor
  · intro h; have := Sum.inl.inj h; omega
  · rintro rfl; rfl
theorem Known.step {xs ys : List Nat} {i : Nat} {kvs : List (Key × PyData)} (K : Known xs ys i kvs) (hi : i < sizeLine) : ∃ (y : Nat) (d : Dk), Dk.setd (.k kvs) (nI (at0 xs i)) (nI (at0 ys i)) = some (nI y, d) ∧ ((y = at0 ys i ∧ ∃ kvs', d = .k kvs' ∧ Known xs ys (i + 1) kvs') ∨ (y ≠ at0 ys i ∧ ∃ j, j < i ∧ at0 xs j = at0 xs i ∧ at0 ys j = y)) := by
  have hl : kvs.length < sizeLine := Nat.lt_of_le_of_lt K.len hi
  have hk : asKey (nI (at0 xs i)) = some (KG.kN (at0 xs i)) := rfl
  by_cases h : ∃ j, j < i ∧ at0 xs j = at0 xs i
  · obtain ⟨j, hj, e⟩ := h
    have hv := K.has j hj
    rw [e] at hv
    refine ⟨at0 ys j, .k kvs, by simp only [Dk.setd, hk, if_pos hl, hv], ?_⟩
    by_cases q : at0 ys j = at0 ys i
    · refine .inl ⟨q, kvs, rfl, ⟨fun m hm => ?_, fun x hx => K.non x fun m hm => hx m (by omega), by have := K.len; omega⟩⟩
      by_cases e2 : m = i
      · subst e2; rw [hv, q]
      · exact K.has m (by omega)
    · exact .inr ⟨q, j, hj, e, rfl⟩
  · have hnone : ∀ j, j < i → at0 xs j ≠ at0 xs i := fun j hj e => h ⟨j, hj, e⟩
    have hv := K.non (at0 xs i) hnone
    refine ⟨at0 ys i, _, by simp only [Dk.setd, hk, if_pos hl, hv]; rfl, .inl ⟨rfl, _, rfl, ⟨fun m hm => ?_, fun x hx => ?_, ?_⟩⟩⟩
    · rw [val_put hv]
      by_cases e2 : m = i
      · subst e2; rw [if_pos rfl]
      · rw [if_neg (fun z => hnone m (by omega) (kN_inj.mp z))]
        exact K.has m (by omega)
    · rw [val_put hv, if_neg (fun z => hx i (by omega) (kN_inj.mp z).symm)]
      exact K.non x fun m hm => hx m (by omega)
    · have := put_len (kvs := kvs) (q := KG.kN (at0 xs i)) (v := nI (at0 ys i))
      have := K.len
      omega
theorem Known.nil (xs ys : List Nat) : Known xs ys 0 [] := ⟨fun j hj => absurd hj (Nat.not_lt_zero _), fun _ _ => rfl, Nat.le_refl _⟩
theorem zip_nth {xs ys : List Nat} (h : xs.length = ys.length) : zipL (xs.map nI) (ys.map nI) = (List.range xs.length).map fun i => PyData.tuple [nI (at0 xs i), nI (at0 ys i)] := by
  rw [zipL_nat]
  apply List.ext_getElem (by simp [zipN_len h])
  intro i h1 h2
  simp only [List.getElem_map, List.getElem_range]
  rw [zipN_get h]
  simp
end KG


set_option Elab.async false
set_option linter.all false
set_option maxRecDepth 100000
/-! PM: what is led to what; plain Lean. -/
namespace KG
open PySem PySem.Spec PyProof.Rows L2 KP
def colN (rows : List (List Nat)) (ys : List Nat) (j : Nat) : List Nat := rows.map fun r => at0 ys (at0 r j)
def goalN (rows : List (List Nat)) (a j : Nat) : Nat := at0 (atR rows a) j
def leadsB (rows : List (List Nat)) (l : Nat) (xs ys : List Nat) : Bool := (List.range l).all fun j => finerN xs (colN rows ys j)
theorem colN_at {rows : List (List Nat)} {ys : List Nat} {j a : Nat} (h : a < rows.length) : at0 (colN rows ys j) a = at0 ys (goalN rows a j) := by
  unfold colN goalN
  rw [at0_map h, atR_eq h]
theorem leadsB_iff {rows : List (List Nat)} {l n : Nat} {xs ys : List Nat} (hr : rows.length = n) (hx : xs.length = n) : leadsB rows l xs ys = true ↔ ∀ j, j < l → ∀ a b, a < n → b < n → at0 xs a = at0 xs b → at0 ys (goalN rows a j) = at0 ys (goalN rows b j) := by
  unfold leadsB
  rw [List.all_eq_true]
  constructor
  · intro h j hj a b ha hb e
    have := finerN_iff.mp (h j (by simpa using hj)) a b (by omega) (by omega) e
    rwa [colN_at (by omega), colN_at (by omega)] at this
  · intro h j hj
    rw [finerN_iff]
    intro a b ha hb e
    rw [colN_at (by omega), colN_at (by omega)]
    exact h j (by simpa using hj) a b (by omega) (by omega) e
theorem Mach.goal_lt {rows : List (List Nat)} {sh : List Nat} {n l : Nat} (M : Mach rows sh n l) {a j : Nat} (ha : a < n) (hj : j < l) : goalN rows a j < n := M.at_lt (atR_mem (by rw [M.len]; exact ha)) hj
/-! ### the next -/
def singles (n : Nat) : List (List Nat) := (List.range n).map fun k => [k]
theorem singles_cls (n : Nat) : Cls n (singles n) := by
  refine ⟨?_⟩
  have : (singles n).flatten = List.range n := by
    unfold singles
    induction (List.range n) with
    | nil => rfl
    | cons x xs ih => simp [ih]
  rw [this]
theorem singles_rel {n a b : Nat} (ha : a < n) : relC (singles n) a b ↔ a = b := by
  constructor
  · rintro ⟨c, hc, h1, h2⟩
    obtain ⟨k, _, rfl⟩ := List.mem_map.mp hc
    simp at h1 h2
    omega
  · rintro rfl
    exact ⟨[a], List.mem_map.mpr ⟨a, by simpa using ha, rfl⟩, by simp, by simp⟩
def nextPairs (rows : List (List Nat)) (l : Nat) (cs : List (List Nat)) : List (Nat × Nat) := cs.flatMap fun c => (List.range l).flatMap fun j => c.tail.map fun k => (goalN rows (hd0 c) j, goalN rows k j)
def nextN (rows : List (List Nat)) (l : Nat) (xs : List Nat) : List Nat := numb ((List.range xs.length).map (homeC (foldC (singles xs.length) (nextPairs rows l (clsOf xs)))))
section
variable {rows : List (List Nat)} {sh : List Nat} {n l : Nat} {xs ys : List Nat}
theorem nextPairs_mem {p : Nat × Nat} {cs : List (List Nat)} (hp : p ∈ nextPairs rows l cs) : ∃ c ∈ cs, ∃ j, j < l ∧ ∃ k ∈ c.tail, p = (goalN rows (hd0 c) j, goalN rows k j) := by
  obtain ⟨c, hc, hp⟩ := List.mem_flatMap.mp hp
  obtain ⟨j, hj, hp⟩ := List.mem_flatMap.mp hp
  obtain ⟨k, hk, rfl⟩ := List.mem_map.mp hp
  exact ⟨c, hc, j, by simpa using hj, k, hk, rfl⟩
theorem tail_mem {c : List Nat} {k : Nat} (h : k ∈ c.tail) : hd0 c ∈ c ∧ k ∈ c := by
  cases c with
  | nil => simp at h
  | cons x c => exact ⟨by simp [hd0], by simp at h; simp [h]⟩
theorem nextPairs_lt (M : Mach rows sh n l) {cs : List (List Nat)} (C : Cls n cs) {p : Nat × Nat} (hp : p ∈ nextPairs rows l cs) : p.1 < n ∧ p.2 < n := by
  obtain ⟨c, hc, j, hj, k, hk, rfl⟩ := nextPairs_mem hp
  obtain ⟨h1, h2⟩ := tail_mem hk
  exact ⟨M.goal_lt (C.lt hc h1) hj, M.goal_lt (C.lt hc h2) hj⟩
theorem nextN_len (hx : xs.length = n) : (nextN rows l xs).length = n := by simp [nextN, numb_len, hx]
theorem nextN_part (hx : xs.length = n) : Part (nextN rows l xs) n := ⟨nextN_len hx, numb_numb _⟩
theorem nextN_rel (M : Mach rows sh n l) (hx : xs.length = n) {a b : Nat} (ha : a < n) (hb : b < n) : at0 (nextN rows l xs) a = at0 (nextN rows l xs) b ↔ relC (foldC (singles n) (nextPairs rows l (clsOf xs))) a b := by
  have Cx : Cls n (clsOf xs) := hx ▸ Cls.of xs
  unfold nextN
  rw [hx, at0_numb (by simpa using ha) (by simpa using hb)]
  simp only [List.getElem_map, List.getElem_range]
  rw [home_iff (Cls.fold (singles_cls n) _ fun p hp => nextPairs_lt M Cx hp).1 ha hb]
theorem next_has (M : Mach rows sh n l) (hx : xs.length = n) {a b j : Nat} (ha : a < n) (hb : b < n) (hj : j < l) (e : at0 xs a = at0 xs b) : at0 (nextN rows l xs) (goalN rows a j) = at0 (nextN rows l xs) (goalN rows b j) := by
  have Cx : Cls n (clsOf xs) := hx ▸ Cls.of xs
  rw [nextN_rel M hx (M.goal_lt ha hj) (M.goal_lt hb hj)]
  obtain ⟨C, _⟩ := Cls.fold (singles_cls n) _ fun p hp => nextPairs_lt M Cx hp
  obtain ⟨c, hc, h1, h2⟩ := (relC_of (ns := xs) (by omega) (by omega)).mpr e
  have key : ∀ x ∈ c, relC (foldC (singles n) (nextPairs rows l (clsOf xs))) (goalN rows (hd0 c) j) (goalN rows x j) := by
    intro x hxc
    by_cases ht : x ∈ c.tail
    · exact fold_has (singles_cls n) _ (fun p hp => nextPairs_lt M Cx hp) (goalN rows (hd0 c) j, goalN rows x j) (List.mem_flatMap.mpr ⟨c, hc, List.mem_flatMap.mpr ⟨j, by simpa using hj, List.mem_map.mpr ⟨x, ht, rfl⟩⟩⟩)
    · have : x = hd0 c := by
        cases c with
        | nil => simp at hxc
        | cons y c => simp [hd0] at ht ⊢; rcases List.mem_cons.mp hxc with z | z; exact z; exact absurd z ht
      rw [this]
      exact C.refl (M.goal_lt (this ▸ Cx.lt hc hxc) hj)
  exact C.trans (key a h1).symm (key b h2)
theorem next_least (M : Mach rows sh n l) (hx : xs.length = n) (R : Nat → Nat → Prop) (rf : ∀ a, R a a) (sy : ∀ a b, R a b → R b a) (tr : ∀ a b c, R a b → R b c → R a c) (h : ∀ j, j < l → ∀ a b, a < n → b < n → at0 xs a = at0 xs b → R (goalN rows a j) (goalN rows b j)) {a b : Nat} (ha : a < n) (hb : b < n) (e : at0 (nextN rows l xs) a = at0 (nextN rows l xs) b) : R a b := by
  have Cx : Cls n (clsOf xs) := hx ▸ Cls.of xs
  rw [nextN_rel M hx ha hb] at e
  refine fold_least (singles_cls n) R sy tr (fun a b ha hb z => by rw [(singles_rel ha).mp z]; exact rf _) _ (fun p hp => nextPairs_lt M Cx hp) (fun p hp => ?_) a b ha hb e
  obtain ⟨c, hc, j, hj, k, hk, rfl⟩ := nextPairs_mem hp
  obtain ⟨h1, h2⟩ := tail_mem hk
  exact h j hj _ _ (Cx.lt hc h1) (Cx.lt hc h2) ((relC_of (by have := Cx.lt hc h1; omega) (by have := Cx.lt hc h2; omega)).mp ⟨c, hc, h1, h2⟩)
theorem next_leads (M : Mach rows sh n l) (hx : xs.length = n) : leadsB rows l xs (nextN rows l xs) = true := (leadsB_iff M.len hx).mpr fun j hj a b ha hb e => next_has M hx ha hb hj e
theorem next_finer (M : Mach rows sh n l) (hx : xs.length = n) : finerN (nextN rows l xs) ys = leadsB rows l xs ys := by
  rw [Bool.eq_iff_iff, finerN_iff, leadsB_iff M.len hx, nextN_len hx]
  constructor
  · intro h j hj a b ha hb e
    exact h _ _ (M.goal_lt ha hj) (M.goal_lt hb hj) (next_has M hx ha hb hj e)
  · intro h a b ha hb e
    exact next_least M hx (fun a b => at0 ys a = at0 ys b) (fun _ => rfl) (fun _ _ h => h.symm) (fun _ _ _ h1 h2 => h1.trans h2) h ha hb e
/-! ### the one before -/
def befN (rows : List (List Nat)) (ys : List Nat) : List Nat := numb (rows.map fun r => r.map (at0 ys))
theorem befN_part (M : Mach rows sh n l) : Part (befN rows ys) n := ⟨by simp [befN, numb_len, M.len], numb_numb _⟩
theorem befN_rel (M : Mach rows sh n l) {a b : Nat} (ha : a < n) (hb : b < n) : at0 (befN rows ys) a = at0 (befN rows ys) b ↔ ∀ j, j < l → at0 ys (goalN rows a j) = at0 ys (goalN rows b j) := by
  have hn := M.len
  unfold befN
  rw [at0_numb (by simp; omega) (by simp; omega)]
  simp only [List.getElem_map]
  have la := (M.row _ (List.getElem_mem (show a < rows.length by omega))).1
  have lb := (M.row _ (List.getElem_mem (show b < rows.length by omega))).1
  have ga : ∀ j, goalN rows a j = at0 (rows[a]'(by omega)) j := fun j => by unfold goalN; rw [atR_eq (by omega)]
  have gb : ∀ j, goalN rows b j = at0 (rows[b]'(by omega)) j := fun j => by unfold goalN; rw [atR_eq (by omega)]
  constructor
  · intro e j hj
    have := congrArg (fun z => at0 z j) e
    rw [at0_map (by omega), at0_map (by omega)] at this
    rw [ga, gb, at0_eq (show j < (rows[a]'(by omega)).length by omega), at0_eq (show j < (rows[b]'(by omega)).length by omega)]
    exact this
  · intro h
    apply List.ext_getElem (by simp; omega)
    intro j h1 h2
    simp only [List.getElem_map]
    have hjl : j < l := by simp at h1; omega
    have := h j hjl
    rw [ga, gb, at0_eq (show j < (rows[a]'(by omega)).length by omega), at0_eq (show j < (rows[b]'(by omega)).length by omega)] at this
    exact this
theorem bef_finer (M : Mach rows sh n l) (hx : xs.length = n) : finerN xs (befN rows ys) = leadsB rows l xs ys := by
  rw [Bool.eq_iff_iff, finerN_iff, leadsB_iff M.len hx, hx]
  constructor
  · intro h j hj a b ha hb e
    exact (befN_rel M ha hb).mp (h a b ha hb e) j hj
  · intro h a b ha hb e
    exact (befN_rel M ha hb).mpr fun j hj => h j hj a b ha hb e
theorem bef_leads (M : Mach rows sh n l) : leadsB rows l (befN rows ys) ys = true :=
  (leadsB_iff M.len (befN_part M).len).mpr fun j hj a b ha hb e => (befN_rel M ha hb).mp e j hj
end
/-! ### sets of numbers -/
theorem ddp_firsts (ns : List Nat) : (ddp (ns.map fun n : Nat => (n : Int))).length = (firsts ns).length := by
  have key : ddp (ns.map fun n : Nat => (n : Int)) = (firsts ns).map fun n : Nat => (n : Int) := by
    unfold ddp firsts
    suffices H : ∀ (ns fs : List Nat), (ns.map fun n : Nat => (n : Int)).foldl PyProof.Rows.step_dedup (fs.map fun n : Nat => (n : Int)) = (ns.foldl fstep fs).map fun n : Nat => (n : Int) from H ns []
    intro ns
    induction ns with
    | nil => intro fs; rfl
    | cons x ns ih =>
      intro fs
      simp only [List.map_cons, List.foldl_cons]
      rw [← ih]
      congr 1
      show (if (fs.map fun n : Nat => (n : Int)).any (· == (x : Int)) then fs.map (fun n : Nat => (n : Int)) else fs.map (fun n : Nat => (n : Int)) ++ [(x : Int)]) = _
      unfold fstep
      by_cases h : x ∈ fs
      · rw [if_pos h, if_pos]
        rw [List.any_eq_true]
        exact ⟨(x : Int), List.mem_map.mpr ⟨x, h, rfl⟩, by simp⟩
      · rw [if_neg h, if_neg]
        · simp
        · intro z
          obtain ⟨y, hy, e⟩ := List.any_eq_true.mp z
          obtain ⟨w, hw, rfl⟩ := List.mem_map.mp hy
          have e2 : w = x := by have := eq_of_beq e; omega
          exact h (e2 ▸ hw)
  rw [key, List.length_map]
theorem firsts_one (ns : List Nat) : (firsts ns).length ≤ 1 ↔ ∀ a ∈ ns, ∀ b ∈ ns, a = b := by
  constructor
  · intro h a ha b hb
    have h1 := mem_firsts.mpr ha
    have h2 := mem_firsts.mpr hb
    match hf : firsts ns, h with
    | [], _ => rw [hf] at h1; simp at h1
    | [x], _ => rw [hf] at h1 h2; simp at h1 h2; rw [h1, h2]
    | x :: y :: r, h => simp at h
  · intro h
    have nd := nodup_firsts ns
    match hf : firsts ns with
    | [] => simp
    | [x] => simp
    | x :: y :: r =>
      rw [hf] at nd
      have hx : x ∈ ns := mem_firsts.mp (by rw [hf]; simp)
      have hy : y ∈ ns := mem_firsts.mp (by rw [hf]; simp)
      have := h x hx y hy
      subst this
      simp at nd
theorem lenSet_eq {ns : List Nat} (h : ns.length ≤ 4000) : gLenSet (.d (lI ns)) = some (.d (nI (firsts ns).length)) := by
  simp only [gLenSet, lI, asInts_nat, Option.bind_some, List.length_map, if_pos h, ddp_firsts]
end KG


set_option Elab.async false
set_option linter.all false
set_option maxRecDepth 100000
/-! PN: fresh ones by comprehensions; the law's meet; texts of machines. -/
namespace KG
open PySem PySem.Spec PyProof.Rows L2 KP
theorem firsts_filter {α : Type} [DecidableEq α] (xs : List α) : (xs.zipIdx.filter fun q => !decide (q.1 ∈ xs.take q.2)).map (·.1) = firsts xs := by
  induction xs using list_snoc with
  | h0 => rfl
  | h1 xs x ih =>
    rw [List.zipIdx_append, List.filter_append, List.map_append, firsts_snoc, ← ih]
    have e1 : (xs.zipIdx.filter fun q => !decide (q.1 ∈ (xs ++ [x]).take q.2)) = xs.zipIdx.filter fun q => !decide (q.1 ∈ xs.take q.2) := by
      apply List.filter_congr
      rintro ⟨y, i⟩ hq
      have := (List.mem_zipIdx' hq).1
      rw [List.take_append_of_le_length (by omega)]
    rw [e1, ih]
    unfold fstep
    simp only [List.zipIdx_cons, List.zipIdx_nil, Nat.zero_add]
    by_cases h : x ∈ xs
    · rw [if_pos (mem_firsts.mpr h), List.filter_cons_of_neg (by simp [h])]; simp
    · rw [if_neg (fun z => h (mem_firsts.mp z)), List.filter_cons_of_pos (by simp [h])]; simp
theorem index_of {α : Type} [DecidableEq α] {f : α → PyData} {bs : List Nat} (hf : ∀ x y, f x = f y ↔ x = y) {xs : List α} {x : α} (h : x ∈ xs) (hfit : ∀ y ∈ xs, fits bs (f y) = true) (hb : bs.length ≤ 60 := by decide) : gIndex (xs.map f) (.d (f x)) = some (.d (nI (xs.idxOf x))) := by
  have hx := hfit x h
  have h1 : inOk (f x) (xs.map f) = true := inOk_of hx (fun y hy => by obtain ⟨n, hn, rfl⟩ := List.mem_map.mp hy; exact hfit n hn) hb
  have key : ∀ ys : List α, (∀ y ∈ ys, fits bs (f y) = true) → x ∈ ys → ((ys.map f).findIdx? fun y => PyData.eqv y (f x)) = some (ys.idxOf x) := by
    intro ys
    induction ys with
    | nil => intro _ h; simp at h
    | cons d ys ih =>
      intro he hm
      have e : PyData.eqv (f d) (f x) = (d == x) := by
        rw [Bool.eq_iff_iff, eqv_iff (he d (by simp)) hx, hf]; simp
      rw [List.map_cons, List.findIdx?_cons, e, List.idxOf_cons]
      by_cases q : d = x
      · subst q; simp
      · have hb : (d == x) = false := by simpa using q
        rw [hb, ih (fun d hd => he d (by simp [hd])) ((List.mem_cons.mp hm).resolve_left fun z => q z.symm)]; rfl
  simp only [gIndex, h1, if_true, key xs hfit h, Option.map_some]
theorem numb_index {α : Type} [DecidableEq α] {f : α → PyData} {bs : List Nat} (hf : ∀ x y, f x = f y ↔ x = y) {xs : List α} {x : α} (h : x ∈ xs) (hfit : ∀ y ∈ xs, fits bs (f y) = true) (hb : bs.length ≤ 60 := by decide) : gIndex ((firsts xs).map f) (.d (f x)) = some (.d (nI ((firsts xs).idxOf x))) :=
  index_of hf (mem_firsts.mpr h) (fun y hy => hfit y (mem_firsts.mp hy)) hb
theorem notin_take {α : Type} [DecidableEq α] {f : α → PyData} {bs : List Nat} (hf : ∀ x y, f x = f y ↔ x = y) {xs : List α} {x : α} {k : Nat} (h : x ∈ xs) (hfit : ∀ y ∈ xs, fits bs (f y) = true) (hb : bs.length ≤ 60 := by decide) : gDD (hIn true) (.d (f x)) (.d (.list ((xs.take k).map f))) = some (.d (.bool (!decide (x ∈ xs.take k)))) := by
  refine hIn_of (f := f) (bs := bs) (cs := bs) (k := decide (x ∈ xs.take k)) (neg := true) (hfit x h) (fun y hy => hfit y (List.mem_of_mem_take hy)) hb ?_
  rw [decide_eq_true_eq]
  exact ⟨fun q => ⟨x, q, rfl⟩, fun ⟨y, q, e⟩ => by rw [← (hf y x).mp e]; exact q⟩
theorem fresh_eq {α : Type} [DecidableEq α] (xs : List α) : (xs.map fun x => nI ((firsts xs).idxOf x)) = (numb xs).map nI := by simp [numb, Function.comp_def]
theorem zipN_fits {xs ys : List Nat} : ∀ c ∈ zipN xs ys, fits [2] (tN c) = true := by
  induction xs generalizing ys with
  | nil => intro c hc; simp [zipN] at hc
  | cons x xs ih =>
    cases ys with
    | nil => intro c hc; simp [zipN] at hc
    | cons y ys =>
      intro c hc
      simp only [zipN, List.mem_cons] at hc
      rcases hc with rfl | hc
      · rfl
      · exact ih c hc
section
variable {rows : List (List Nat)} {sh : List Nat} {n l : Nat} {xs ys : List Nat}
theorem metN_part (hx : Part xs n) (hy : Part ys n) : Part (metN xs ys) n := ⟨by rw [metN_len (by rw [hx.len, hy.len]), hx.len], metN_num⟩
theorem Mach.text (M : Mach rows sh n l) {b : Nat} {bs : List Nat} (hb : 2 ≤ b) : fitsT (b :: 8 :: 8 :: bs) (mM rows sh) = true := by
  have h8 := M.n8
  have h4 := M.l4
  have hn := M.len
  have hs := M.slen
  exact fitsT_tup (by simpa using hb) (all2 (fitsT_t (by omega) fun r hr => fitsT_tN (by have := (M.row r hr).1; omega) fun x hx => by have := (M.row r hr).2 x hx; omega) (fitsT_tN (by omega) fun x hx => by have := M.sh9 x hx; omega))
theorem Part.text {ns : List Nat} (h : Part ns n) (h8 : n ≤ 8) {bs : List Nat} : fitsT (8 :: bs) (tN ns) = true := fitsT_tN (by rw [h.len]; exact h8) fun x hx => by have := h.lt hx; omega
theorem mul_two (p : PyData) : gMul (.d (.list [p])) (.d (.int 2)) = some (.d (.list [p, p])) := by
  have : ([p] : List PyData).length * (2 : Int).toNat ≤ sizeLine := by rw [sizeLine_eq]; simp
  simp only [gMul, gDD_eq, hMulA]
  rw [if_pos ⟨by decide, by decide, this⟩]
  rfl
theorem add_lists (a b : List PyData) (h : a.length + b.length ≤ 100) : gAdd (.d (.list a)) (.d (.list b)) = some (.d (.list (a ++ b))) := by
  simp only [gAdd, gDD_eq, hAdd]
  rw [if_pos (by rw [sizeLine_eq]; omega)]; rfl
theorem gNe_bool (a b : Bool) : gNe (.d (.bool a)) (.d (.bool b)) = some (.d (.bool (!(a == b)))) := by
  cases a <;> cases b <;> rfl
/-! ### led_to -/
theorem Mach.ix0 (M : Mach rows sh n l) {a j : Nat} (ha : a < n) (hj : j < l) : gIx (.d (tT rows)) (.d (.int a)) = some (.d (tN (atR rows a))) ∧ gIx (.d (tN (atR rows a))) (.d (.int j)) = some (.d (nI (goalN rows a j))) := by
  have h1 : a < rows.length := by rw [M.len]; exact ha
  exact ⟨ix_tR h1, ix_tD (by rw [(M.row _ (atR_mem h1)).1]; exact hj)⟩
theorem led_to_eq (M : Mach rows sh n l) (hx : xs.length = n) (hy : ys.length = n) : F_led_to [.d (mM rows sh), .d (tN xs), .d (tN ys)] = ret (vB (leadsB rows l xs ys)) := by
  have h8 := M.n8
  have h4 := M.l4
  have hn := M.len
  refine Pu.eq (Pu.run ?_)
  unfold g_led_to startE
  simp -implicitDefEqProofs [letters_of_eq M]
  refine Pu.try_ (f := nI) (xs := List.range l) (fun done env => (∃ (a b c d e : Option Sv), env = [some (.d (mM rows sh)), some (.d (tN xs)), some (.d (tN ys)), a, b, c, d, e]) ∧ done.all (fun j => finerN xs (colN rows ys j)) = true) (fun done j w => w = .d (.bool false) ∧ finerN xs (colN rows ys j) = false) ⟨⟨none, none, none, none, none, rfl⟩, rfl⟩ ?_ ?_ ?_
  · rintro done j rest env Q he ⟨⟨a, b, c, d, e, rfl⟩, hd⟩ hQ hE
    obtain ⟨_, hj⟩ := range_split he
    simp -implicitDefEqProofs [enum_t nI xs]
    refine Pu.try0 (f := fun q : Nat × Nat => .tuple [nI q.2, nI q.1]) (xs := xs.zipIdx) (fun d2 env => ∃ (kvs : List (Key × PyData)) (c d e : Option Sv), env = [some (.d (mM rows sh)), some (.d (tN xs)), some (.d (tN ys)), some (.d (nI j)), some (.dd (.k kvs)), c, d, e] ∧ Known xs (colN rows ys j) d2.length kvs) (fun d2 q w => w = .d (.bool false) ∧ ∃ i, i < q.2 ∧ q.2 < xs.length ∧ at0 xs i = at0 xs q.2 ∧ at0 (colN rows ys j) i ≠ at0 (colN rows ys j) q.2) ⟨[], c, d, e, rfl, Known.nil _ _⟩ ?_ ?_ ?_
    · rintro d2 ⟨x, i⟩ rest2 env Q he2 ⟨kvs, c, d, e, rfl, K⟩ hQ hE
      obtain ⟨hi, hil, hxi⟩ := zip_split he2
      have hxa : at0 xs i = x := by rw [at0_eq hil]; exact (List.getElem?_eq_some_iff.mp hxi).2
      obtain ⟨g1, g2⟩ := M.ix0 (a := i) (j := j) (by omega) hj
      have g3 := ix_tD (ns := ys) (i := goalN rows i j) (by rw [hy]; exact M.goal_lt (by omega) hj)
      have hc := colN_at (rows := rows) (ys := ys) (j := j) (a := i) (by omega)
      rw [← hi] at K
      obtain ⟨y, dd, hs, hcs⟩ := K.step (by rw [sizeLine_eq]; omega)
      rw [hxa, hc] at hs
      simp -implicitDefEqProofs [g1, g2, g3, hs]
      rcases hcs with ⟨hyy, kvs', rfl, K'⟩ | ⟨hyy, m, hm, e1, e2⟩
      · rw [hc] at hyy
        simp -implicitDefEqProofs [hyy]
        refine Pu.ret (hQ _ ⟨kvs', some (.d (nI i)), some (.d (nI x)), some (.d (nI (at0 ys (goalN rows i j)))), rfl, ?_⟩)
        rw [List.length_append, ← hi]; exact K'
      · rw [hc] at hyy
        have : ¬ (y : Int) = at0 ys (goalN rows i j) := by omega
        simp -implicitDefEqProofs [this]
        exact Pu.ret (hE _ _ ⟨rfl, m, hm, hil, e1, by rw [e2, hc]; exact hyy⟩)
    · rintro env ⟨kvs, c, d, e, rfl, K⟩
      rw [List.length_zipIdx] at K
      refine hQ _ ⟨⟨_, _, _, _, _, rfl⟩, ?_⟩
      have : finerN xs (colN rows ys j) = true := by
        rw [finerN_iff]
        intro a b ha hb e
        have h1 := K.has a ha
        have h2 := K.has b hb
        rw [e, h2] at h1
        exact (nI_inj.mp (Option.some.inj h1)).symm
      simp only [List.all_append, hd, List.all_cons, this, List.all_nil, Bool.and_true]
    · rintro d2 ⟨x, i⟩ rest2 env0 w env' he2 hI ⟨rfl, m, hm, hi, e1, e2⟩
      refine hE _ _ ⟨rfl, ?_⟩
      rw [Bool.eq_false_iff]
      intro z
      exact e2 (finerN_iff.mp z m i (by dsimp only at hm hi; omega) hi e1)
  · rintro env ⟨⟨a, b, c, d, e, rfl⟩, hd⟩
    simp -implicitDefEqProofs
    exact Pu.ret (by unfold leadsB; rw [hd]; rfl)
  · rintro done j rest env0 w env' he hI ⟨rfl, hE⟩
    simp -implicitDefEqProofs
    refine Pu.ret ?_
    unfold leadsB
    rw [he, List.all_append, List.all_cons, hE]
    simp [vB]
/-! ### the law's own look -/
/-- of one class, by one letter -/
def oneB (rows : List (List Nat)) (ys : List Nat) (c : List Nat) (j : Nat) : Bool := decide ((firsts (c.map fun k => at0 ys (goalN rows k j))).length ≤ 1)
theorem oneB_all (M : Mach rows sh n l) (hx : xs.length = n) : leadsB rows l xs ys = (clsOf xs).all fun c => (List.range l).all fun j => oneB rows ys c j := by
  have Cx : Cls n (clsOf xs) := hx ▸ Cls.of xs
  rw [Bool.eq_iff_iff, leadsB_iff M.len hx]
  simp only [List.all_eq_true, oneB, decide_eq_true_eq, firsts_one, List.mem_range]
  constructor
  · intro h c hc j hj a ha b hb
    obtain ⟨p, hp, rfl⟩ := List.mem_map.mp ha
    obtain ⟨q, hq, rfl⟩ := List.mem_map.mp hb
    have l1 := Cx.lt hc hp
    have l2 := Cx.lt hc hq
    exact h j hj p q l1 l2 ((relC_of (by omega) (by omega)).mp ⟨c, hc, hp, hq⟩)
  · intro h j hj a b ha hb e
    obtain ⟨c, hc, h1, h2⟩ := (relC_of (ns := xs) (by omega) (by omega)).mpr e
    exact h c hc j hj _ (List.mem_map.mpr ⟨a, h1, rfl⟩) _ (List.mem_map.mpr ⟨b, h2, rfl⟩)
end
end KG


set_option Elab.async false
set_option linter.all false
set_option maxRecDepth 100000
/-! PO: next, before, kept, closed classes. -/
namespace KG
open PySem PySem.Spec PyProof.Rows L2 KP
def pj (rows : List (List Nat)) (c : List Nat) (j : Nat) : List (Nat × Nat) := c.tail.map fun k => (goalN rows (hd0 c) j, goalN rows k j)
theorem nextPairs_eq (rows : List (List Nat)) (l : Nat) (cs : List (List Nat)) : nextPairs rows l cs = cs.flatMap fun c => (List.range l).flatMap (pj rows c) := rfl
section
variable {rows : List (List Nat)} {sh : List Nat} {n l : Nat} {xs ys : List Nat}
theorem single_of_eq (M : Mach rows sh n l) : F_single_of [.d (mM rows sh)] = ret (.d (tN (List.range n))) := by
  refine run_fin ?_
  unfold g_single_of startE
  have h8 := M.n8
  have trg : gTRg (.d (.int n)) = some (.d (tN (List.range n))) := by
    simp only [gTRg, rngL_nat]
    rw [if_pos (by omega)]
  simp -implicitDefEqProofs [size_of_eq M, trg]
theorem next_same (M : Mach rows sh n l) (hx : xs.length = n) : numb (foldP (List.range n) (nextPairs rows l (clsOf xs))) = nextN rows l xs := by
  have Cx : Cls n (clsOf xs) := hx ▸ Cls.of xs
  have e : nextN rows l xs = numb (nextN rows l xs) := (numb_numb _).symm
  rw [e]
  refine at0_congr_numb (by rw [foldP_len, nextN_len hx, List.length_range]) fun a b ha hb => ?_
  rw [foldP_len, List.length_range] at ha hb
  rw [nextN_rel M hx ha hb]
  refine fold_same (singles_cls n) (by simp) (fun a b ha hb => ?_) _ (fun p hp => nextPairs_lt M Cx hp) a b ha hb
  rw [singles_rel ha, at0_eq (by simpa using ha), at0_eq (by simpa using hb)]
  simp
/-- a prefix of the pairs -/
theorem pre_mem {cs done rest : List (List Nat)} {c : List Nat} {d2 r2 : List Nat} {j : Nat} {d3 : List Nat} (he : cs = done ++ c :: rest) (he2 : List.range l = d2 ++ j :: r2) (h3 : ∀ k ∈ d3, k ∈ c.tail) {p : Nat × Nat} (hp : p ∈ nextPairs rows l done ++ (d2.flatMap (pj rows c) ++ d3.map fun k => (goalN rows (hd0 c) j, goalN rows k j))) : p ∈ nextPairs rows l cs := by
  rw [he, nextPairs_eq, List.flatMap_append, List.flatMap_cons]
  rcases List.mem_append.mp hp with q | q
  · exact List.mem_append_left _ q
  · refine List.mem_append_right _ (List.mem_append_left _ ?_)
    rw [he2, List.flatMap_append, List.flatMap_cons]
    rcases List.mem_append.mp q with q | q
    · exact List.mem_append_left _ q
    · refine List.mem_append_right _ (List.mem_append_left _ ?_)
      obtain ⟨k, hk, rfl⟩ := List.mem_map.mp q
      exact List.mem_map.mpr ⟨k, h3 k hk, rfl⟩
theorem cut1 (c : List Nat) : gSlL (.d (lI c)) (some 1) none = some (.d (lI c.tail)) := by
  have := cut_from (c.map nI) 1
  rw [List.drop_one, ← List.map_tail] at this
  exact this
theorem ix_hd {c : List Nat} (h : c.tail ≠ []) : gIx (.d (lI c)) (.d (.int 0)) = some (.d (nI (hd0 c))) := by
  cases c with
  | nil => simp at h
  | cons x c => exact gIx_l0 (nI x) (c.map nI)
/-! ### before -/
end
end KG


set_option Elab.async false
set_option linter.all false
set_option maxRecDepth 100000
/-! PQ: is kept, apart, closed. -/
namespace KG
open PySem PySem.Spec PyProof.Rows L2 KP
theorem val_map {κ : Type} [DecidableEq κ] {k q : κ} {v : PyData} : ∀ kvs : List (κ × PyData), valD (kvs.map fun kv => if kv.1 = q then (kv.1, v) else kv) k = if k = q then (valD kvs q).map (fun _ => v) else valD kvs k
  | [] => by simp [KP.valD]
  | (j, p) :: kvs => by
    have ih := val_map (k := k) (q := q) (v := v) kvs
    unfold KP.valD at ih ⊢
    simp only [List.map_cons, List.find?_cons]
    by_cases e1 : j = q <;> by_cases e2 : j = k <;> by_cases e3 : k = q <;> simp_all
theorem val_putA {κ : Type} [DecidableEq κ] {kvs : List (κ × PyData)} {k q : κ} {v : PyData} : valD (putD kvs q v) k = if k = q then some v else valD kvs k := by
  cases e : valD kvs q with
  | none => exact val_put e
  | some z =>
    have ha : (kvs.any fun kv => decide (kv.1 = q)) = true := by
      rw [List.any_eq_true]
      unfold KP.valD at e
      cases e2 : kvs.find? (fun kv => decide (kv.1 = q)) with
      | none => rw [e2] at e; cases e
      | some w => exact ⟨w, List.mem_of_find?_eq_some e2, by simpa using List.find?_some e2⟩
    unfold putD
    rw [if_pos ha, val_map, e]; rfl
theorem dget_k {kvs : List (Key × PyData)} {k : Nat} {v : PyData} (h : valD kvs (KG.kN k) = some v) : gDGet (.d (Dk.k kvs).data) (.d (.int k)) = some (.d v) := by
  have hk : asKey (.int k) = some (KG.kN k) := rfl
  have e : dlook (kvs.map fun p => (keyP p.1, p.2)) (.int k) = some (some v) := by
    unfold dlook
    rw [hk]
    dsimp only
    rw [List.find?_map]
    have : ((fun q : PyData × PyData => decide (asKey q.1 = some (KG.kN k))) ∘ fun p : Key × PyData => (keyP p.1, p.2)) = fun kv => decide (kv.1 = KG.kN k) := by
      funext p; simp [asKey_keyP]
    rw [this]
    unfold KP.valD at h
    cases e2 : kvs.find? (fun kv => decide (kv.1 = KG.kN k)) with
    | none => rw [e2] at h; cases h
    | some w => rw [e2] at h; simpa using h
  unfold gDGet Dk.data
  dsimp only
  rw [e]
theorem put_k {kvs : List (Key × PyData)} {k : Nat} {v : PyData} (h : kvs.length < sizeLine) : Dk.put (.k kvs) (.int k) v = some (.k (putD kvs (KG.kN k) v)) := by
  have hk : asKey (.int k) = some (KG.kN k) := rfl
  simp only [Dk.put, hk, if_pos h]
section
variable {rows : List (List Nat)} {sh : List Nat} {n l : Nat} {xs ys : List Nat} {cs : List (List Nat)}
/-- of one class, by one letter, with homes by hm -/
def oneH (rows : List (List Nat)) (hm : Nat → Nat) (c : List Nat) (j : Nat) : Bool := decide ((firsts (c.map fun k => hm (goalN rows k j))).length ≤ 1)
theorem is_kept_eq (M : Mach rows sh n l) (C : Cls n cs) (hcl : cs.length ≤ 100) (hm : Nat → Nat) (hh : ∀ i c k, cs[i]? = some c → k ∈ c → hm k = i) : F__law_is_kept [.d (mM rows sh), .d (lL cs)] = ret (vB (cs.all fun c => (List.range l).all fun j => oneH rows hm c j)) := by
  have h8 := M.n8
  have h1 := M.n0
  have h4 := M.l4
  have hn := M.len
  have h0 : 0 < rows.length := by omega
  have e0 := ix_tR0 h0
  have el : (atR rows 0).length = l := (M.row _ (atR_mem h0)).1
  have er := rng_nat l (by omega)
  refine Pu.eq (Pu.run ?_)
  unfold g__law_is_kept startE
  simp -implicitDefEqProofs [enum_l lI cs]
  refine Pu.for_ (f := fun q : List Nat × Nat => .tuple [nI q.2, lI q.1]) (xs := cs.zipIdx) (fun done env => ∃ (kvs : List (Key × PyData)) (a b c : Option Sv), env = [some (.d (mM rows sh)), some (.d (lL cs)), some (.dd (.k kvs)), a, b, c, none] ∧ (∀ k ∈ (done.map (·.1)).flatten, valD kvs (KG.kN k) = some (nI (hm k))) ∧ kvs.length ≤ (done.map (·.1)).flatten.length) ⟨[], none, none, none, rfl, by simp, by simp⟩ ?_ ?_
  · rintro done ⟨c, i⟩ rest env Q he ⟨kvs, a, b, d, rfl, hv, hkl⟩ hQ
    obtain ⟨hi, hil, hx⟩ := zip_split he
    have htot : (done.map (·.1)).flatten.length + c.length ≤ n := by
      have e1 : cs = (done.map (·.1)) ++ c :: (rest.map (·.1)) := by
        have := congrArg (List.map (·.1)) he
        simpa using this
      have e2 := C.tot
      rw [e1, List.flatten_append, List.length_append, List.flatten_cons, List.length_append] at e2
      omega
    simp -implicitDefEqProofs
    refine Pu.for0 (f := nI) (xs := c) (fun d2 env => ∃ (kvs : List (Key × PyData)) (d : Option Sv), env = [some (.d (mM rows sh)), some (.d (lL cs)), some (.dd (.k kvs)), some (.d (nI i)), some (.d (lI c)), d, none] ∧ (∀ k ∈ (done.map (·.1)).flatten ++ d2, valD kvs (KG.kN k) = some (nI (hm k))) ∧ kvs.length ≤ (done.map (·.1)).flatten.length + d2.length) ⟨kvs, d, rfl, by simpa using hv, by simpa using hkl⟩ ?_ ?_
    · rintro d2 k r2 env Q he2 ⟨kvs, d, rfl, hv, hkl⟩ hQ
      have hlen : d2.length + 1 ≤ c.length := by rw [he2]; simp
      have hp := put_k (kvs := kvs) (k := k) (v := nI i) (by rw [sizeLine_eq]; omega)
      have hk : hm k = i := hh i c k hx (by rw [he2]; simp)
      simp -implicitDefEqProofs [hp]
      refine Pu.ret (hQ _ ⟨_, some (.d (nI k)), rfl, ?_, ?_⟩)
      · intro z hz
        rw [val_putA]
        by_cases e : z = k
        · rw [if_pos (by rw [e]), e, hk]
        · rw [if_neg (fun q => e (kN_inj.mp q))]
          refine hv z ?_
          rw [← List.append_assoc, List.mem_append] at hz
          exact hz.resolve_right (by simpa using e)
      · have := put_len (kvs := kvs) (q := KG.kN k) (v := nI i)
        rw [List.length_append, List.length_singleton]
        omega
    · rintro env ⟨kvs, d, rfl, hv, hkl⟩
      exact hQ _ ⟨kvs, _, _, d, rfl, by simpa using hv, by simpa using hkl⟩
  · rintro env ⟨kvs, a, b, d, rfl, hv, hkl⟩
    have hz : ((cs.zipIdx).map (·.1)) = cs := by simp
    rw [hz] at hv
    clear hkl
    simp -implicitDefEqProofs
    refine Pu.try_ (f := lI) (xs := cs) (fun done env => (∃ (b d e : Option Sv), env = [some (.d (mM rows sh)), some (.d (lL cs)), some (.dd (.k kvs)), a, b, d, e]) ∧ (done.all fun c => (List.range l).all fun j => oneH rows hm c j) = true) (fun done c w => w = .d (.bool false) ∧ ((List.range l).all fun j => oneH rows hm c j) = false) ⟨⟨b, d, none, rfl⟩, rfl⟩ ?_ ?_ ?_
    · rintro done c rest env Q he ⟨⟨b, d, e, rfl⟩, hd⟩ hQ hE
      have hc : c ∈ cs := by rw [he]; simp
      simp -implicitDefEqProofs [e0, el, er]
      refine Pu.try0 (f := nI) (xs := List.range l) (fun d2 env => (∃ (e : Option Sv), env = [some (.d (mM rows sh)), some (.d (lL cs)), some (.dd (.k kvs)), a, some (.d (lI c)), d, e]) ∧ (d2.all fun j => oneH rows hm c j) = true) (fun d2 j w => w = .d (.bool false) ∧ j < l ∧ oneH rows hm c j = false) ⟨⟨e, rfl⟩, rfl⟩ ?_ ?_ ?_
      · rintro d2 j rest2 env Q he2 ⟨⟨e, rfl⟩, hd2⟩ hQ hE
        obtain ⟨_, hj⟩ := range_split he2
        have hcl := C.clen hc
        have c1 : lcC (lSeq (vT 4)) (gN 5) bYes (c2 gDGet (vT 2) (c2 gIx (c2 gIx (c2 gIx (vT 0) (kC (.int 0))) (vT 5)) (vT 6))) [5] [some (.d (mM rows sh)), some (.d (lL cs)), some (.dd (.k kvs)), a, some (.d (lI c)), d, some (.d (nI j))] = ret (.d (.list (c.map fun k => nI (hm (goalN rows k j))))) := by
          refine lcC_all (f := nI) (by simp -implicitDefEqProofs) (by rw [sizeLine_eq]; omega) fun k hk => ?_
          have hkn := C.lt hc hk
          obtain ⟨g1, g2⟩ := M.ix0 (a := k) (j := j) hkn hj
          have g3 := dget_k (hv (goalN rows k j) (by
            obtain ⟨c', q1, q2⟩ := C.cov (M.goal_lt hkn hj)
            exact List.mem_flatten.mpr ⟨c', q1, q2⟩))
          simp -implicitDefEqProofs [g1, g2, g3]
        have hls := lenSet_eq (ns := c.map fun k => hm (goalN rows k j)) (by simp; omega)
        rw [lI, List.map_map] at hls
        have hls' : gLenSet (.d (.list (c.map fun k => nI (hm (goalN rows k j))))) = some (.d (nI (firsts (c.map fun k => hm (goalN rows k j))).length)) := hls
        generalize hF : (firsts (c.map fun k => hm (goalN rows k j))).length = F at hls'
        have hB : oneH rows hm c j = decide (F ≤ 1) := by unfold oneH; rw [hF]
        by_cases q : F ≤ 1
        · have q' : ¬ (1 : Int) < F := by omega
          simp -implicitDefEqProofs [c1, hls', q']
          refine Pu.ret (hQ _ ⟨⟨_, rfl⟩, ?_⟩)
          simp only [List.all_append, hd2, List.all_cons, List.all_nil, hB, q, decide_true, Bool.and_true]
        · have q' : (1 : Int) < F := by omega
          simp -implicitDefEqProofs [c1, hls', q']
          exact Pu.ret (hE _ _ ⟨rfl, hj, by rw [hB]; simp [q]⟩)
      · rintro env ⟨⟨e, rfl⟩, hd2⟩
        refine hQ _ ⟨⟨_, _, _, rfl⟩, ?_⟩
        simp only [List.all_append, hd, List.all_cons, List.all_nil, hd2, Bool.and_true]
      · rintro d2 j rest2 env0 w env' he2 hI ⟨rfl, hj, e1⟩
        refine hE _ _ ⟨rfl, ?_⟩
        rw [Bool.eq_false_iff]
        intro z
        have := List.all_eq_true.mp z j (by simpa using hj)
        rw [e1] at this; cases this
    · rintro env ⟨⟨b, d, e, rfl⟩, hd⟩
      simp -implicitDefEqProofs
      exact Pu.ret (by rw [hd]; rfl)
    · rintro done c rest env0 w env' he hI ⟨rfl, hE⟩
      simp -implicitDefEqProofs
      refine Pu.ret ?_
      have : (cs.all fun c => (List.range l).all fun j => oneH rows hm c j) = false := by
        rw [Bool.eq_false_iff]
        intro z
        have := List.all_eq_true.mp z c (by rw [he]; simp)
        rw [hE] at this; cases this
      rw [this]; rfl
theorem kept_eq (M : Mach rows sh n l) (hx : Part xs n) : F__law_is_kept [.d (mM rows sh), .d (lL (clsOf xs))] = ret (vB (leadsB rows l xs xs)) := by
  have h8 := M.n8
  have mx : maxN xs < n := maxN_lt M.n0 fun _ h => hx.lt h
  have Cx : Cls n (clsOf xs) := hx.len ▸ Cls.of xs
  rw [oneB_all M hx.len]
  refine is_kept_eq M Cx (by simp [clsOf]; omega) (at0 xs) fun i c k e hk => ?_
  unfold clsOf at e
  rw [List.getElem?_map] at e
  cases e2 : (List.range (maxN xs + 1))[i]? with
  | none => rw [e2] at e; cases e
  | some z =>
    rw [e2] at e
    obtain ⟨_, q⟩ := List.getElem?_eq_some_iff.mp e2
    simp at q
    subst q
    have : clsB xs i = c := by simpa using e
    subst this
    exact (mem_clsB.mp hk).2
/-! ### apart -/
def relB (cs : List (List Nat)) (a b : Nat) : Bool := cs.any fun d => decide (a ∈ d) && decide (b ∈ d)
theorem relB_iff {a b : Nat} : relB cs a b = true ↔ relC cs a b := by
  simp [relB, relC, List.any_eq_true]
/-- what apart may say -/
def ApOk (rows : List (List Nat)) (n l : Nat) (cs : List (List Nat)) (v : Va) : Prop :=
  (v = .d (lI []) ∧ ∀ c ∈ cs, ∀ j, j < l → ∀ a ∈ c, ∀ b ∈ c, relC cs (goalN rows a j) (goalN rows b j)) ∨
  ∃ x y, v = .d (lI [x, y]) ∧ x < n ∧ y < n ∧ ¬ relC cs x y ∧ ∃ c ∈ cs, ∃ j, j < l ∧ ∃ a ∈ c, ∃ b ∈ c, x = goalN rows a j ∧ y = goalN rows b j
theorem apart_ok (M : Mach rows sh n l) (C : Cls n cs) (hcl : cs.length ≤ 100) : Pu (F__law_apart [.d (mM rows sh), .d (lL cs)]) (ApOk rows n l cs) := by
  have h8 := M.n8
  have h1 := M.n0
  have h4 := M.l4
  have hn := M.len
  have h0 : 0 < rows.length := by omega
  have e0 := ix_tR0 h0
  have el : (atR rows 0).length = l := (M.row _ (atR_mem h0)).1
  have er := rng_nat l (by omega)
  refine Pu.run ?_
  unfold g__law_apart startE
  simp -implicitDefEqProofs
  refine Pu.try_ (f := lI) (xs := cs) (fun done env => (∃ (b d e f : Option Sv), env = [some (.d (mM rows sh)), some (.d (lL cs)), b, d, e, f, none, none]) ∧ ∀ c ∈ done, ∀ j, j < l → ∀ a ∈ c, ∀ b ∈ c, relC cs (goalN rows a j) (goalN rows b j)) (fun done c w => ApOk rows n l cs w) ⟨⟨none, none, none, none, rfl⟩, by simp⟩ ?_ ?_ ?_
  · rintro done c rest env Q he ⟨⟨b, d, e, f, rfl⟩, hd⟩ hQ hE
    have hc : c ∈ cs := by rw [he]; simp
    have hcn := C.clen hc
    simp -implicitDefEqProofs [e0, el, er]
    refine Pu.try0 (f := nI) (xs := List.range l) (fun d2 env => (∃ (d e f : Option Sv), env = [some (.d (mM rows sh)), some (.d (lL cs)), some (.d (lI c)), d, e, f, none, none]) ∧ ∀ j ∈ d2, ∀ a ∈ c, ∀ b ∈ c, relC cs (goalN rows a j) (goalN rows b j)) (fun d2 j w => ApOk rows n l cs w) ⟨⟨d, e, f, rfl⟩, by simp⟩ ?_ ?_ ?_
    · rintro d2 j rest2 env Q he2 ⟨⟨d, e, f, rfl⟩, hd2⟩ hQ hE
      obtain ⟨_, hj⟩ := range_split he2
      have c1 : lcA (lSeq (vT 2)) (gN 6) bYes (c2 gIx (c2 gIx (c2 gIx (vT 0) (kC (.int 0))) (vT 6)) (vT 3)) [6] [some (.d (mM rows sh)), some (.d (lL cs)), some (.d (lI c)), some (.d (nI j)), e, f, none, none] = ret ((c.map fun k => goalN rows k j).map nI) := by
        rw [List.map_map]
        refine lcA_all (f := nI) (by simp -implicitDefEqProofs) (by rw [sizeLine_eq]; omega) fun k hk => ?_
        obtain ⟨g1, g2⟩ := M.ix0 (a := k) (j := j) (C.lt hc hk) hj
        simp -implicitDefEqProofs [g1, g2]
      have hgl : (c.map fun k => goalN rows k j).length ≤ 8 := by simp; omega
      have hgm : ∀ x ∈ (c.map fun k => goalN rows k j), ∃ a ∈ c, x = goalN rows a j := by
        intro x hx
        obtain ⟨a, h1, h2⟩ := List.mem_map.mp hx
        exact ⟨a, h1, h2.symm⟩
      have hgc : ∀ a ∈ c, goalN rows a j ∈ (c.map fun k => goalN rows k j) := fun a ha => List.mem_map.mpr ⟨a, ha, rfl⟩
      generalize (c.map fun k => goalN rows k j) = gs at c1 hgl hgm hgc
      have c3 : lcA (lSeq (vT 4)) (gN 6) (bV (c2 gEq (fD (lcA (lSeq (vT 1)) (gN 7) (bAnd (bV (c2 (gDD (hIn false)) (vT 6) (vT 7))) (bV (c2 (gDD (hIn false)) (c2 gIx (vT 4) (kC (.int 0))) (vT 7)))) (kC (.int 1)) [7])) (cN gLstD aNil))) (vT 6) [6] [some (.d (mM rows sh)), some (.d (lL cs)), some (.d (lI c)), some (.d (nI j)), some (.d (lI gs)), f, none, none] = ret ((gs.filter fun k => !relB cs k (hd0 gs)).map nI) := by
        refine lcA_fil (f := nI) (by simp -implicitDefEqProofs) (by rw [sizeLine_eq]; omega) (fun k hk => ?_) (fun k _ _ => by simp -implicitDefEqProofs)
        have ih : gIx (.d (lI gs)) (.d (.int 0)) = some (.d (nI (hd0 gs))) := by
          cases gs with
          | nil => simp at hk
          | cons x r => exact gIx_l0 _ _
        have c4 : ∀ f : Option Sv, lcA (lSeq (vT 1)) (gN 7) (bAnd (bV (c2 (gDD (hIn false)) (vT 6) (vT 7))) (bV (c2 (gDD (hIn false)) (c2 gIx (vT 4) (kC (.int 0))) (vT 7)))) (kC (.int 1)) [7] [some (.d (mM rows sh)), some (.d (lL cs)), some (.d (lI c)), some (.d (nI j)), some (.d (lI gs)), f, some (.d (nI k)), none] = ret ((cs.filter fun d => decide (k ∈ d) && decide (hd0 gs ∈ d)).map fun _ => PyData.int 1) := by
          intro f
          refine lcA_fil (f := lI) (by simp -implicitDefEqProofs) (by rw [sizeLine_eq]; omega) (fun d _ => ?_) (fun d _ _ => by simp -implicitDefEqProofs)
          have h1 := in_lI false k d
          have h2 := in_lI false (hd0 gs) d
          by_cases q : k ∈ d
          · simp -implicitDefEqProofs [-gDD_eq, h1, h2, ih, q]
          · simp -implicitDefEqProofs [-gDD_eq, h1, q]
        have hfl : (cs.filter fun d => decide (k ∈ d) && decide (hd0 gs ∈ d)).length ≤ 100 := Nat.le_trans (List.length_filter_le _ _) hcl
        have hrb : relB cs k (hd0 gs) = !decide ((cs.filter fun d => decide (k ∈ d) && decide (hd0 gs ∈ d)) = []) := by
          rw [Bool.eq_iff_iff]
          simp [relB, List.filter_eq_nil_iff]
        generalize (cs.filter fun d => decide (k ∈ d) && decide (hd0 gs ∈ d)) = fs at c4 hfl hrb
        have heq := gEq_of (p := .list (fs.map fun _ => PyData.int 1)) (q := .list []) (bs := [100]) (cs := [0]) (fits_l hfl fun _ _ => rfl) rfl (k := decide (fs = [])) (hk := by simp)
        rw [hrb, Bool.not_not]
        simp -implicitDefEqProofs [c4, heq]
      generalize hfs : (gs.filter fun k => !relB cs k (hd0 gs)) = fs at c3
      have hfl : fs.length ≤ 8 := by rw [← hfs]; exact Nat.le_trans (List.length_filter_le _ _) hgl
      have hne := gNe_of (p := lI fs) (q := .list []) (bs := [100]) (cs := [0]) (fits_lI (by omega)) rfl (k := decide (fs = [])) (hk := by simp [lI])
      by_cases q : fs = []
      · simp only [q, decide_true] at hne
        rw [q] at c3
        simp -implicitDefEqProofs [c1, c3, hne]
        refine Pu.ret (hQ _ ⟨⟨_, _, _, rfl⟩, ?_⟩)
        intro i hi a ha b hb
        rcases List.mem_append.mp hi with z | z
        · exact hd2 i z a ha b hb
        · rw [List.mem_singleton.mp z]
          have key : ∀ a ∈ c, relC cs (goalN rows a j) (hd0 gs) := by
            intro a ha
            rw [q, List.filter_eq_nil_iff] at hfs
            have := hfs _ (hgc a ha)
            simp only [Bool.not_eq_true', Bool.not_eq_false] at this
            exact relB_iff.mp this
          exact C.trans (key a ha) (key b hb).symm
      · simp only [q, decide_false] at hne
        obtain ⟨y, r, hy⟩ : ∃ y r, fs = y :: r := by
          cases fs with
          | nil => exact absurd rfl q
          | cons y r => exact ⟨y, r, rfl⟩
        have hym : y ∈ gs.filter fun k => !relB cs k (hd0 gs) := by rw [hfs, hy]; simp
        obtain ⟨hy1, hy2⟩ := List.mem_filter.mp hym
        have hg0 : hd0 gs ∈ gs := by
          cases gs with
          | nil => simp at hy1
          | cons x r => exact List.mem_cons_self
        have ih : gIx (.d (lI gs)) (.d (.int 0)) = some (.d (nI (hd0 gs))) := by
          cases gs with
          | nil => simp at hy1
          | cons x r => exact gIx_l0 _ _
        have ih2 : gIx (.d (lI fs)) (.d (.int 0)) = some (.d (nI y)) := by rw [hy]; exact gIx_l0 _ _
        simp -implicitDefEqProofs [c1, c3, hne, ih, ih2]
        refine Pu.ret (hE _ _ (.inr ⟨hd0 gs, y, rfl, ?_⟩))
        obtain ⟨a, ha, ea⟩ := hgm _ hg0
        obtain ⟨b, hb, eb⟩ := hgm _ hy1
        refine ⟨by rw [ea]; exact M.goal_lt (C.lt hc ha) hj, by rw [eb]; exact M.goal_lt (C.lt hc hb) hj, ?_, c, hc, j, hj, a, ha, b, hb, ea, eb⟩
        intro z
        rw [relB_iff.mpr z.symm] at hy2
        cases hy2
    · rintro env ⟨⟨d, e, f, rfl⟩, hd2⟩
      refine hQ _ ⟨⟨_, _, _, _, rfl⟩, ?_⟩
      intro c' hc' j hj a ha b hb
      rcases List.mem_append.mp hc' with z | z
      · exact hd c' z j hj a ha b hb
      · rw [List.mem_singleton.mp z] at ha hb
        exact hd2 j (by simpa using hj) a ha b hb
    · rintro d2 j rest2 env0 w env' he2 hI hw
      exact hE _ _ hw
  · rintro env ⟨⟨b, d, e, f, rfl⟩, hd⟩
    simp -implicitDefEqProofs
    exact Pu.ret (.inl ⟨rfl, hd⟩)
  · rintro done c rest env0 w env' he hI hw
    simp -implicitDefEqProofs
    exact Pu.ret hw
/-! ### closed -/
theorem two_len {α : Type} {x y : α} : ∀ {zs : List α}, x ∈ zs → y ∈ zs → x ≠ y → 2 ≤ zs.length
  | [], h, _, _ => by simp at h
  | [z], h, h', e => by simp at h h'; exact absurd (h.trans h'.symm) e
  | _ :: _ :: _, _, _, _ => by simp
theorem merged_lt (h : Cls n cs) {one far : Nat} (h1 : one < n) (h2 : far < n) (hr : ¬ relC cs one far) : (mergedC cs one far).length < cs.length := by
  obtain ⟨c, hc, hx⟩ := h.cov h1
  obtain ⟨d, hd, hy⟩ := h.cov h2
  have hcd : c ≠ d := fun z => hr ⟨c, hc, hx, z ▸ hy⟩
  have h3 : 2 ≤ (cs.filter (isEither one far)).length := two_len (List.mem_filter.mpr ⟨hc, by simp [isEither, hx]⟩) (List.mem_filter.mpr ⟨hd, by simp [isEither, hy]⟩) hcd
  have h4 : ∀ cs : List (List Nat), (cs.filter fun c => !isEither one far c).length + (cs.filter (isEither one far)).length = cs.length := by
    intro cs
    induction cs with
    | nil => rfl
    | cons d cs ih => by_cases q : isEither one far d = true <;> simp [q] at ih ⊢ <;> omega
  have := h4 cs
  simp only [mergedC, List.length_append, List.length_singleton]
  omega
/-- the closed classes over cs -/
structure Clo (rows : List (List Nat)) (n l : Nat) (cs ds : List (List Nat)) : Prop where
  cls : Cls n ds
  len : ds.length ≤ cs.length
  sup : ∀ a b, a < n → b < n → relC cs a b → relC ds a b
  shut : ∀ c ∈ ds, ∀ j, j < l → ∀ a ∈ c, ∀ b ∈ c, relC ds (goalN rows a j) (goalN rows b j)
  least : ∀ R : Nat → Nat → Prop, (∀ a b, R a b → R b a) → (∀ a b c, R a b → R b c → R a c) → (∀ a b, a < n → b < n → relC cs a b → R a b) → (∀ j, j < l → ∀ a b, a < n → b < n → R a b → R (goalN rows a j) (goalN rows b j)) → ∀ a b, a < n → b < n → relC ds a b → R a b
theorem closed_loop (M : Mach rows sh n l) (o : Option Sv) : ∀ (m : Nat) (cs : List (List Nat)) (b : PyData), Cls n cs → cs.length ≤ 100 → cs.length < m → ApOk rows n l cs (.d b) → Pu (loopW (bV (c2 gNe (vT 3) (cN gLstD aNil))) (sSeq (sAsg (eCallA true F__law_merged (aCons (vT 2) (aCons (c2 gIx (vT 3) (kC (.int 0))) (aCons (c2 gIx (vT 3) (kC (.int 1))) aNil)))) (gN 2)) (sAsg (eCallA true F__law_apart (aCons (vT 0) (aCons (vT 2) aNil))) (gN 3))) m [some (.d (mM rows sh)), o, some (.d (lL cs)), some (.d b)]) fun r => ∃ ds b', r = (.nx, [some (.d (mM rows sh)), o, some (.d (lL ds)), some (.d b')]) ∧ Clo rows n l cs ds
  | 0, cs, b, C, hl, hm, h => absurd hm (Nat.not_lt_zero _)
  | m + 1, cs, b, C, hl, hm, h => by
    have h8 := M.n8
    rcases h with ⟨e, hs⟩ | ⟨x, y, e, hx, hy, hr, c, hc, j, hj, a, ha, b', hb', ex, ey⟩
    · cases e
      have hne := gNe_of (p := lI []) (q := .list []) (bs := [0]) (cs := [0]) rfl rfl (k := true) (hk := by simp [lI])
      refine Pu.of (loopW_end (by simp -implicitDefEqProofs [hne])) ⟨cs, _, rfl, C, Nat.le_refl _, fun _ _ _ _ h => h, hs, fun R _ _ h _ a b ha hb q => h a b ha hb q⟩
    · cases e
      have hne := gNe_of (p := lI [x, y]) (q := .list []) (bs := [2]) (cs := [0]) rfl rfl (k := false) (hk := by simp [lI])
      have i0 : gIx (.d (lI [x, y])) (.d (.int 0)) = some (.d (nI x)) := gIx_l0 _ _
      have i1 : gIx (.d (lI [x, y])) (.d (.int 1)) = some (.d (nI y)) := ix_lD (ns := [x, y]) (i := 1) (by simp)
      have hmg := law_merged_eq (one := x) (far := y) C h8 hl
      have C2 := C.merged x y
      have hlt := merged_lt C hx hy hr
      obtain ⟨v, ev, hv⟩ := apart_ok M C2 (by omega)
      obtain ⟨b2, rfl⟩ : ∃ b2, v = .d b2 := by
        rcases hv with ⟨e, _⟩ | ⟨_, _, e, _⟩ <;> exact ⟨_, e⟩
      rw [loopW_step (env' := [some (.d (mM rows sh)), o, some (.d (lL (mergedC cs x y))), some (.d b2)]) (by simp -implicitDefEqProofs [hne]) (by simp -implicitDefEqProofs [i0, i1, hmg, ev])]
      refine (closed_loop M o m (mergedC cs x y) b2 C2 (by omega) (by omega) hv).mono ?_
      rintro r ⟨ds, b3, rfl, D⟩
      refine ⟨ds, b3, rfl, D.cls, by have := D.len; omega, fun a b ha hb q => D.sup a b ha hb ((relC_merged C ha hb).mpr (.inl q)), D.shut, fun R sy tr h1 h2 a0 b0 ha0 hb0 q => D.least R sy tr (fun a1 b1 ha1 hb1 q1 => ?_) h2 a0 b0 ha0 hb0 q⟩
      have rxy : R x y := by
        rw [ex, ey]
        exact h2 j hj a b' (C.lt hc ha) (C.lt hc hb') (h1 a b' (C.lt hc ha) (C.lt hc hb') ⟨c, hc, ha, hb'⟩)
      rcases (relC_merged C ha1 hb1).mp q1 with z | ⟨z1, z2⟩
      · exact h1 _ _ ha1 hb1 z
      · rcases z1 with z1 | z1 <;> rcases z2 with z2 | z2
        · exact tr _ _ _ (h1 _ _ ha1 hx z1) (sy _ _ (h1 _ _ hb1 hx z2))
        · exact tr _ _ _ (h1 _ _ ha1 hx z1) (tr _ _ _ rxy (sy _ _ (h1 _ _ hb1 hy z2)))
        · exact tr _ _ _ (h1 _ _ ha1 hy z1) (tr _ _ _ (sy _ _ rxy) (sy _ _ (h1 _ _ hb1 hx z2)))
        · exact tr _ _ _ (h1 _ _ ha1 hy z1) (sy _ _ (h1 _ _ hb1 hy z2))
theorem closed_ok (M : Mach rows sh n l) (C : Cls n cs) (hl : cs.length ≤ 100) : Pu (F__law_closed [.d (mM rows sh), .d (lL cs)]) fun v => ∃ ds, v = .d (lL ds) ∧ Clo rows n l cs ds := by
  obtain ⟨v, ev, hv⟩ := apart_ok M C hl
  obtain ⟨b2, rfl⟩ : ∃ b2, v = .d b2 := by
    rcases hv with ⟨e, _⟩ | ⟨_, _, e, _⟩ <;> exact ⟨_, e⟩
  obtain ⟨r, er, ds, b3, rfl, D⟩ := closed_loop M (some (.d (lL cs))) fuel cs b2 C hl (by show _ < 1000000; omega) hv
  refine Pu.run ?_
  unfold g__law_closed startE
  simp -implicitDefEqProofs [ev, er]
  exact Pu.ret ⟨ds, rfl, D⟩
end
end KG


set_option Elab.async false
set_option linter.all false
set_option maxRecDepth 100000
/-! PR: the closing by merging numbers (kept_over), plain part. -/
namespace KG
open PySem PySem.Spec PyProof.Rows L2 KP
theorem firsts_nd {α : Type} [DecidableEq α] (xs : List α) : (firsts xs).Nodup := by
  induction xs using list_snoc with
  | h0 => exact List.nodup_nil
  | h1 xs x ih =>
    rw [firsts_snoc]
    unfold fstep
    split
    · exact ih
    · rename_i h
      refine List.nodup_append.mpr ⟨ih, by simp, fun a ha b hb => ?_⟩
      rw [List.mem_singleton.mp hb]
      intro e
      exact h (e ▸ ha)
section
variable {rows : List (List Nat)} {sh : List Nat} {n l : Nat} {xs p : List Nat} {ps : List (Nat × Nat)}
structure KInv (rows : List (List Nat)) (n l : Nat) (xs p : List Nat) (ps : List (Nat × Nat)) : Prop where
  len : p.length = n
  prs : ∀ q ∈ ps, q.1 < n ∧ q.2 < n
  low : ∀ R : Nat → Nat → Prop, (∀ a b, R a b → R b a) → (∀ a b c, R a b → R b c → R a c) → (∀ a b, a < n → b < n → at0 xs a = at0 xs b → R a b) → (∀ j, j < l → ∀ a b, a < n → b < n → R a b → R (goalN rows a j) (goalN rows b j)) →
    (∀ a b, a < n → b < n → at0 p a = at0 p b → R a b) ∧ ∀ q ∈ ps, R q.1 q.2
  up : ∀ T : Nat → Nat → Prop, (∀ a b, T a b → T b a) → (∀ a b c, T a b → T b c → T a c) → (∀ a b, a < n → b < n → at0 p a = at0 p b → T a b) → (∀ q ∈ ps, T q.1 q.2) →
    (∀ a b, a < n → b < n → at0 xs a = at0 xs b → T a b) ∧ ∀ j, j < l → ∀ a b, a < n → b < n → at0 p a = at0 p b → T (goalN rows a j) (goalN rows b j)
def headPairs (cs : List (List Nat)) : List (Nat × Nat) := cs.flatMap fun c => c.tail.map fun k => (hd0 c, k)
theorem headPairs_mem {q : Nat × Nat} {cs : List (List Nat)} (h : q ∈ headPairs cs) : ∃ c ∈ cs, q.1 ∈ c ∧ q.2 ∈ c := by
  obtain ⟨c, hc, h⟩ := List.mem_flatMap.mp h
  obtain ⟨k, hk, rfl⟩ := List.mem_map.mp h
  obtain ⟨m1, m2⟩ := tail_mem hk
  exact ⟨c, hc, m1, m2⟩
theorem head_to {T : Nat → Nat → Prop} {cs : List (List Nat)} (h : ∀ q ∈ headPairs cs, T q.1 q.2) {c : List Nat} (hc : c ∈ cs) {a : Nat} (ha : a ∈ c) (rf : T a a) : T (hd0 c) a := by
  cases c with
  | nil => simp at ha
  | cons x r =>
    rcases List.mem_cons.mp ha with e | e
    · rw [e] at rf ⊢; exact rf
    · exact h (x, a) (List.mem_flatMap.mpr ⟨_, hc, List.mem_map.mpr ⟨a, e, rfl⟩⟩)
theorem KInv.start (M : Mach rows sh n l) (hx : xs.length = n) : KInv rows n l xs (List.range n) (headPairs (clsOf xs)) := by
  have Cx : Cls n (clsOf xs) := hx ▸ Cls.of xs
  have eqr : ∀ a b, a < n → b < n → at0 (List.range n) a = at0 (List.range n) b → a = b := fun a b ha hb e => by
    rw [at0_eq (by simpa using ha), at0_eq (by simpa using hb)] at e
    simpa using e
  refine ⟨by simp, fun q hq => ?_, fun R sy tr h1 h2 => ⟨fun a b ha hb e => ?_, fun q hq => ?_⟩, fun T sy tr h1 h2 => ⟨fun a b ha hb e => ?_, fun j hj a b ha hb e => ?_⟩⟩
  · obtain ⟨c, hc, m1, m2⟩ := headPairs_mem hq
    exact ⟨Cx.lt hc m1, Cx.lt hc m2⟩
  · rw [eqr a b ha hb e]; exact h1 b b hb hb rfl
  · obtain ⟨c, hc, m1, m2⟩ := headPairs_mem hq
    have l1 := Cx.lt hc m1
    have l2 := Cx.lt hc m2
    exact h1 _ _ l1 l2 ((relC_of (by omega) (by omega)).mp ⟨c, hc, m1, m2⟩)
  · obtain ⟨c, hc, m1, m2⟩ := (relC_of (ns := xs) (by omega) (by omega)).mpr e
    have r1 := head_to h2 hc m1 (h1 a a ha ha rfl)
    have r2 := head_to h2 hc m2 (h1 b b hb hb rfl)
    exact tr _ _ _ (sy _ _ r1) r2
  · rw [eqr a b ha hb e]
    have := M.goal_lt hb hj
    exact h1 _ _ this this rfl
theorem KInv.skip {q : Nat × Nat} (K : KInv rows n l xs p (ps ++ [q])) (e : at0 p q.1 = at0 p q.2) : KInv rows n l xs p ps := by
  refine ⟨K.len, fun r hr => K.prs r (List.mem_append_left _ hr), fun R sy tr h1 h2 => ?_, fun T sy tr h1 h2 => ?_⟩
  · obtain ⟨k1, k2⟩ := K.low R sy tr h1 h2
    exact ⟨k1, fun r hr => k2 r (List.mem_append_left _ hr)⟩
  · obtain ⟨l1, l2⟩ := K.prs q (by simp)
    refine K.up T sy tr h1 fun r hr => ?_
    rcases List.mem_append.mp hr with z | z
    · exact h2 r z
    · rw [List.mem_singleton.mp z]; exact h1 _ _ l1 l2 e
def goalPairs (rows : List (List Nat)) (l x y : Nat) : List (Nat × Nat) := (List.range l).map fun j => (goalN rows x j, goalN rows y j)
theorem KInv.merge (M : Mach rows sh n l) {x y : Nat} (K : KInv rows n l xs p (ps ++ [(x, y)])) : KInv rows n l xs (mergedP p x y) (ps ++ goalPairs rows l x y) := by
  obtain ⟨l1, l2⟩ := K.prs (x, y) (by simp)
  have hl := K.len
  have mr : ∀ a b, a < n → b < n → (at0 (mergedP p x y) a = at0 (mergedP p x y) b ↔ at0 p a = at0 p b ∨ ((at0 p a = at0 p x ∨ at0 p a = at0 p y) ∧ (at0 p b = at0 p x ∨ at0 p b = at0 p y))) := fun a b ha hb => merged_rel (by omega) (by omega)
  refine ⟨by rw [mergedP_len, hl], fun r hr => ?_, fun R sy tr h1 h2 => ?_, fun T sy tr h1 h2 => ?_⟩
  · rcases List.mem_append.mp hr with z | z
    · exact K.prs r (List.mem_append_left _ z)
    · obtain ⟨j, hj, rfl⟩ := List.mem_map.mp z
      have hj := List.mem_range.mp hj
      exact ⟨M.goal_lt l1 hj, M.goal_lt l2 hj⟩
  · obtain ⟨k1, k2⟩ := K.low R sy tr h1 h2
    have rxy : R x y := k2 (x, y) (by simp)
    refine ⟨fun a b ha hb e => ?_, fun r hr => ?_⟩
    · have tox : ∀ c, c < n → (at0 p c = at0 p x ∨ at0 p c = at0 p y) → R c x := fun c hc z => by
        rcases z with z | z
        · exact k1 c x hc l1 z
        · exact tr _ _ _ (k1 c y hc l2 z) (sy _ _ rxy)
      rcases (mr a b ha hb).mp e with z | ⟨z1, z2⟩
      · exact k1 a b ha hb z
      · exact tr _ _ _ (tox a ha z1) (sy _ _ (tox b hb z2))
    · rcases List.mem_append.mp hr with z | z
      · exact k2 r (List.mem_append_left _ z)
      · obtain ⟨j, hj, rfl⟩ := List.mem_map.mp z
        exact h2 j (List.mem_range.mp hj) x y l1 l2 rxy
  · have hp : ∀ a b, a < n → b < n → at0 p a = at0 p b → T a b := fun a b ha hb e => h1 a b ha hb ((mr a b ha hb).mpr (.inl e))
    have txy : T x y := h1 x y l1 l2 ((mr x y l1 l2).mpr (.inr ⟨.inl rfl, .inr rfl⟩))
    obtain ⟨k1, k2⟩ := K.up T sy tr hp fun r hr => by
      rcases List.mem_append.mp hr with z | z
      · exact h2 r (List.mem_append_left _ z)
      · rw [List.mem_singleton.mp z]; exact txy
    refine ⟨k1, fun j hj a b ha hb e => ?_⟩
    have tg : T (goalN rows x j) (goalN rows y j) := h2 _ (List.mem_append_right _ (List.mem_map.mpr ⟨j, List.mem_range.mpr hj, rfl⟩))
    have tox : ∀ c, c < n → (at0 p c = at0 p x ∨ at0 p c = at0 p y) → T (goalN rows c j) (goalN rows x j) := fun c hc z => by
      rcases z with z | z
      · exact k2 j hj c x hc l1 z
      · exact tr _ _ _ (k2 j hj c y hc l2 z) (sy _ _ tg)
    rcases (mr a b ha hb).mp e with z | ⟨z1, z2⟩
    · exact k2 j hj a b ha hb z
    · exact tr _ _ _ (tox a ha z1) (sy _ _ (tox b hb z2))
/-- how many classes -/
theorem firsts_lt {x y : Nat} (hx : x < p.length) (hy : y < p.length) (e : at0 p x ≠ at0 p y) : (firsts (mergedP p x y)).length < (firsts p).length := by
  have nd : (firsts (mergedP p x y)).Nodup := firsts_nd _
  have sub : ∀ z ∈ at0 p y :: firsts (mergedP p x y), z ∈ firsts p := by
    intro z hz
    rw [mem_firsts]
    rcases List.mem_cons.mp hz with q | q
    · rw [q]; exact at0_mem hy
    · obtain ⟨b, hb, q⟩ := List.mem_map.mp (mem_firsts.mp q)
      by_cases e2 : b = at0 p y
      · rw [if_pos e2] at q; rw [← q]; exact at0_mem hx
      · rw [if_neg e2] at q; rw [← q]; exact hb
  have nm : at0 p y ∉ firsts (mergedP p x y) := by
    intro z
    obtain ⟨b, hb, q⟩ := List.mem_map.mp (mem_firsts.mp z)
    by_cases e2 : b = at0 p y
    · rw [if_pos e2] at q; exact e q
    · rw [if_neg e2] at q; exact e2 q
  have := (List.nodup_cons.mpr ⟨nm, nd⟩).length_le_of_subset sub
  simp only [List.length_cons] at this
  omega
end
end KG


set_option Elab.async false
set_option linter.all false
set_option maxRecDepth 100000
/-! PT: kept_over. -/
namespace KG
open PySem PySem.Spec PyProof.Rows L2 KP
def pT (q : Nat × Nat) : PyData := .tuple [nI q.1, nI q.2]
theorem list_cases_snoc {α : Type} [DecidableEq α] (zs : List α) : zs = [] ∨ ∃ qs q, zs = qs ++ [q] := by
  induction zs using list_snoc with
  | h0 => exact .inl rfl
  | h1 xs x _ => exact .inr ⟨xs, x, rfl⟩
section
variable {rows : List (List Nat)} {sh : List Nat} {n l : Nat} {xs : List Nat}
theorem kept_loop (M : Mach rows sh n l) (o1 o4 : Option Sv) : ∀ (m : Nat) (p : List Nat) (ps : List (Nat × Nat)) (o5 o6 : Option Sv), KInv rows n l xs p ps → l * (firsts p).length + ps.length < m → l * (firsts p).length + ps.length ≤ 1000 →
    Pu (loopW (bV (c2 gNe (vF 3) (cN gLstD aNil))) (sSeq (sPop 3 (gT [(gN 5), (gN 6)]))
  (sIf (bV (c2 gNe (c2 gIx (vT 2) (vT 5)) (c2 gIx (vT 2) (vT 6)))) (sSeq (sAsg (eCallA true F_merged (aCons (vT 2) (aCons (vT 5) (aCons (vT 6) aNil)))) (gN 2))
  (sExt 3 (lcA (lSeq (eCallA true F_letters_of (aCons (vT 0) aNil))) (gN 8) bYes (cN gTupD (aCons (c2 gIx (c2 gIx (c2 gIx (vT 0) (kC (.int 0))) (vT 5)) (vT 8)) (aCons (c2 gIx (c2 gIx (c2 gIx (vT 0) (kC (.int 0))) (vT 6)) (vT 8)) aNil))) [8]))) sNil)) m [some (.d (mM rows sh)), o1, some (.d (tN p)), some (.l1 (ps.map pT)), o4, o5, o6, none, none])
      fun r => ∃ p' a b, r = (.nx, [some (.d (mM rows sh)), o1, some (.d (tN p')), some (.l1 []), o4, a, b, none, none]) ∧ KInv rows n l xs p' []
  | 0, p, ps, o5, o6, K, hm, h1 => absurd hm (Nat.not_lt_zero _)
  | m + 1, p, ps, o5, o6, K, hm, h1 => by
    have h8 := M.n8
    have h4 := M.l4
    have hl := K.len
    have hne := gNe_of (p := .list (ps.map pT)) (q := .list []) (bs := [1000, 2]) (cs := [0]) (fits_l (by omega) fun q _ => fits_tN (ns := [q.1, q.2]) (by simp)) rfl (k := decide (ps = [])) (hk := by simp)
    rcases list_cases_snoc ps with e | ⟨qs, q, e⟩
    · subst e
      simp only [decide_true, List.map_nil] at hne
      exact Pu.of (loopW_end (by simp -implicitDefEqProofs [hne])) ⟨p, o5, o6, rfl, K⟩
    · subst e
      obtain ⟨x, y⟩ := q
      obtain ⟨lx, ly⟩ := K.prs (x, y) (by simp)
      have hq : ¬ (qs ++ [(x, y)] = []) := by simp
      simp only [hq, decide_false] at hne
      rw [List.map_append, List.map_cons, List.map_nil] at hne ⊢
      rw [List.length_append, List.length_singleton] at hm h1
      have i1 := ix_tD (ns := p) (i := x) (by omega)
      have i2 := ix_tD (ns := p) (i := y) (by omega)
      by_cases e : at0 p x = at0 p y
      · rw [loopW_step (env' := [some (.d (mM rows sh)), o1, some (.d (tN p)), some (.l1 (qs.map pT)), o4, some (.d (nI x)), some (.d (nI y)), none, none]) (by simp -implicitDefEqProofs [hne]) (by simp -implicitDefEqProofs [pT, i1, i2, e])]
        exact kept_loop M o1 o4 m p qs _ _ (K.skip (q := (x, y)) e) (by omega) (by omega)
      · have e' : ¬ (at0 p x : Int) = at0 p y := by omega
        have hmg := merged_eq (p := p) (one := x) (far := y) (by omega) (by omega) (by omega)
        have hlt := firsts_lt (p := p) (x := x) (y := y) (by omega) (by omega) e
        have c1 : ∀ (a : PyData) (b : Option Sv), lcA (lSeq (eCallA true F_letters_of (aCons (vT 0) aNil))) (gN 8) bYes (cN gTupD (aCons (c2 gIx (c2 gIx (c2 gIx (vT 0) (kC (.int 0))) (vT 5)) (vT 8)) (aCons (c2 gIx (c2 gIx (c2 gIx (vT 0) (kC (.int 0))) (vT 6)) (vT 8)) aNil))) [8] [some (.d (mM rows sh)), o1, some (.d a), b, o4, some (.d (nI x)), some (.d (nI y)), none, none] = ret ((goalPairs rows l x y).map pT) := by
          intro a b
          unfold goalPairs
          rw [List.map_map]
          refine lcA_all (f := nI) (by simp -implicitDefEqProofs [letters_of_eq M]) (by rw [sizeLine_eq]; simp; omega) fun j hj => ?_
          have hj := List.mem_range.mp hj
          obtain ⟨g1, g2⟩ := M.ix0 (a := x) (j := j) lx hj
          obtain ⟨g3, g4⟩ := M.ix0 (a := y) (j := j) ly hj
          simp -implicitDefEqProofs [g1, g2, g3, g4, pT]
        have hgl : (goalPairs rows l x y).length = l := by simp [goalPairs]
        have hsz : qs.length + l ≤ sizeLine := by rw [sizeLine_eq]; omega
        have hmul : l * (firsts (mergedP p x y)).length + l ≤ l * (firsts p).length := by
          have : l * ((firsts (mergedP p x y)).length + 1) ≤ l * (firsts p).length := Nat.mul_le_mul_left l hlt
          rw [Nat.mul_add, Nat.mul_one] at this
          exact this
        rw [loopW_step (env' := [some (.d (mM rows sh)), o1, some (.d (tN (mergedP p x y))), some (.l1 ((qs ++ goalPairs rows l x y).map pT)), o4, some (.d (nI x)), some (.d (nI y)), none, none]) (by simp -implicitDefEqProofs [hne]) (by simp -implicitDefEqProofs [pT, i1, i2, e, e', hmg]; simp -implicitDefEqProofs [c1, hgl, hsz])]
        exact kept_loop M o1 o4 m _ _ _ _ (K.merge M) (by rw [List.length_append, hgl]; omega) (by rw [List.length_append, hgl]; omega)
/-- closed over xs, by numbers -/
structure KClo (rows : List (List Nat)) (n l : Nat) (xs p : List Nat) : Prop where
  part : Part p n
  sup : ∀ a b, a < n → b < n → at0 xs a = at0 xs b → at0 p a = at0 p b
  shut : ∀ j, j < l → ∀ a b, a < n → b < n → at0 p a = at0 p b → at0 p (goalN rows a j) = at0 p (goalN rows b j)
  least : ∀ R : Nat → Nat → Prop, (∀ a b, R a b → R b a) → (∀ a b c, R a b → R b c → R a c) → (∀ a b, a < n → b < n → at0 xs a = at0 xs b → R a b) → (∀ j, j < l → ∀ a b, a < n → b < n → R a b → R (goalN rows a j) (goalN rows b j)) → ∀ a b, a < n → b < n → at0 p a = at0 p b → R a b
theorem KClo.of (M : Mach rows sh n l) {p : List Nat} (K : KInv rows n l xs p []) : KClo rows n l xs (numb p) := by
  have hl := K.len
  have nr : ∀ a b, a < n → b < n → (at0 (numb p) a = at0 (numb p) b ↔ at0 p a = at0 p b) := fun a b ha hb => by
    rw [at0_numb (by omega) (by omega), at0_eq (by omega), at0_eq (by omega)]
  obtain ⟨k1, k2⟩ := K.up (fun a b => at0 p a = at0 p b) (fun _ _ h => h.symm) (fun _ _ _ h1 h2 => h1.trans h2) (fun _ _ _ _ h => h) (by simp)
  refine ⟨⟨by rw [numb_len, hl], numb_numb _⟩, fun a b ha hb e => (nr a b ha hb).mpr (k1 a b ha hb e), fun j hj a b ha hb e => (nr _ _ (M.goal_lt ha hj) (M.goal_lt hb hj)).mpr (k2 j hj a b ha hb ((nr a b ha hb).mp e)), fun R sy tr h1 h2 a b ha hb e => (K.low R sy tr h1 h2).1 a b ha hb ((nr a b ha hb).mp e)⟩
/-- the two closings tell the same -/
theorem KClo.same {p : List Nat} {ds : List (List Nat)} (hx : xs.length = n) (K : KClo rows n l xs p) (D : Clo rows n l (clsOf xs) ds) : numb ((List.range n).map (homeC ds)) = p := by
  have hp : p = numb p := K.part.2.symm
  rw [hp]
  have hpl := K.part.len
  refine at0_congr_numb (by simp [hpl]) fun a b ha hb => ?_
  rw [List.length_map, List.length_range] at ha hb
  rw [at0_range ha, at0_range hb, home_iff D.cls ha hb]
  constructor
  · intro q
    refine D.least (fun a b => at0 p a = at0 p b) (fun _ _ h => h.symm) (fun _ _ _ h1 h2 => h1.trans h2) (fun a b ha hb q => K.sup a b ha hb ((relC_of (by omega) (by omega)).mp q)) (fun j hj a b ha hb q => K.shut j hj a b ha hb q) a b ha hb q
  · intro q
    refine K.least (relC ds) (fun _ _ h => h.symm) (fun _ _ _ h1 h2 => D.cls.trans h1 h2) (fun a b ha hb e => D.sup a b ha hb ((relC_of (by omega) (by omega)).mpr e)) (fun j hj a b ha hb h => ?_) a b ha hb q
    obtain ⟨c, hc, m1, m2⟩ := h
    exact D.shut c hc j hj a m1 b m2
theorem kept_over_ok (M : Mach rows sh n l) (hx : Part xs n) : ∃ p, F_kept_over [.d (mM rows sh), .d (tN xs)] = ret (.d (tN p)) ∧ KClo rows n l xs p := by
  have h8 := M.n8
  have h1 := M.n0
  have h4 := M.l4
  have hlx := hx.len
  have hnx : xs ≠ [] := by intro z; rw [z] at hlx; simp at hlx; omega
  have mx : maxN xs < n := maxN_lt h1 fun _ h => hx.lt h
  have cx := blocks_of_eq hnx (by omega) (by omega)
  have Cx : Cls n (clsOf xs) := hlx ▸ Cls.of xs
  have main : Pu (F_kept_over [.d (mM rows sh), .d (tN xs)]) fun v => ∃ p, v = .d (tN p) ∧ KClo rows n l xs p := by
    refine Pu.run ?_
    unfold g_kept_over startE
    simp -implicitDefEqProofs [single_of_eq M, cx]
    refine Pu.for_ (f := lI) (xs := clsOf xs) (fun done env => ∃ (b : Option Sv), env = [some (.d (mM rows sh)), some (.d (tN xs)), some (.d (tN (List.range n))), some (.l1 ((headPairs done).map pT)), b, none, none, none, none] ∧ (headPairs done).length ≤ done.flatten.length) ⟨none, rfl, by simp [headPairs]⟩ ?_ ?_
    · rintro done c rest env Q he ⟨b, rfl, hdl⟩ hQ
      have hc : c ∈ clsOf xs := by rw [he]; simp
      have hcl := Cx.clen hc
      have htot : done.flatten.length + c.length ≤ n := by
        have e2 := Cx.tot
        rw [he, List.flatten_append, List.length_append, List.flatten_cons, List.length_append] at e2
        omega
      have c1 : ∀ (a : PyData) (o : Option Sv), lcA (lSeq (eSl gSlA (vT 4) (some (kC (.int 1))) none)) (gN 7) bYes (cN gTupD (aCons (c2 gIx (vT 4) (kC (.int 0))) (aCons (vT 7) aNil))) [7] [some (.d (mM rows sh)), some (.d (tN xs)), some (.d a), o, some (.d (lI c)), none, none, none, none] = ret ((c.tail.map fun k => (hd0 c, k)).map pT) := by
        intro a o
        rw [List.map_map]
        refine lcA_all (f := nI) (by simp -implicitDefEqProofs [cut1 c]) (by rw [sizeLine_eq, List.length_tail]; omega) fun k hk => ?_
        have ih := ix_hd (List.ne_nil_of_mem hk)
        simp -implicitDefEqProofs [ih, pT]
      have hsz : (headPairs done).length + (c.tail.map fun k => (hd0 c, k)).length ≤ sizeLine := by rw [sizeLine_eq, List.length_map, List.length_tail]; omega
      have eh : headPairs (done ++ [c]) = headPairs done ++ c.tail.map fun k => (hd0 c, k) := by simp [headPairs]
      have hq : (headPairs (done ++ [c])).length ≤ (done ++ [c]).flatten.length := by
        rw [eh, List.length_append, List.length_map, List.length_tail, List.flatten_append, List.length_append]
        simp only [List.flatten_cons, List.flatten_nil, List.append_nil]
        omega
      generalize (c.tail.map fun k => (hd0 c, k)) = ws at c1 hsz eh
      simp -implicitDefEqProofs [c1, hsz]
      refine Pu.ret (hQ _ ⟨some (.d (lI c)), ?_, hq⟩)
      rw [eh, List.map_append]
    · rintro env ⟨b, rfl, hdl⟩
      have hfl : (firsts (List.range n)).length ≤ 8 := by
        have := (firsts_nd (List.range n)).length_le_of_subset (l₂ := List.range n) fun z hz => mem_firsts.mp hz
        rw [List.length_range] at this
        omega
      have hmul : l * (firsts (List.range n)).length ≤ 4 * 8 := Nat.mul_le_mul h4 hfl
      have hft := Cx.tot
      obtain ⟨r, er, p, a, c, rfl, K⟩ := kept_loop M (some (.d (tN xs))) b fuel (List.range n) (headPairs (clsOf xs)) none none (KInv.start M hlx) (by show _ < 1000000; omega) (by omega)
      have hnum := numbered_t (ns := p) (by rw [K.len, sizeLine_eq]; omega)
      simp -implicitDefEqProofs [er, hnum]
      exact Pu.ret ⟨_, rfl, KClo.of M K⟩
  obtain ⟨v, e, p, rfl, K⟩ := main
  exact ⟨p, e, K⟩
end
end KG


set_option Elab.async false
set_option linter.all false
set_option maxRecDepth 100000
/-! PU: drawn, least_kept, is_kept, all kept sheets (k05). -/
namespace KG
open PySem PySem.Spec PyProof.Rows L2 KP
section
variable {rows : List (List Nat)} {sh : List Nat} {n l : Nat} {xs : List Nat}
theorem is_kept_by_eq (M : Mach rows sh n l) (hx : xs.length = n) : F_is_kept_by [.d (mM rows sh), .d (tN xs)] = ret (vB (leadsB rows l xs xs)) := by
  refine run_fin ?_
  unfold g_is_kept_by startE
  simp -implicitDefEqProofs [led_to_eq M hx hx]
theorem isKept_eq (M : Mach rows sh n l) (hx : Part xs n) : F_is_kept [.d (mM rows sh), .d (tN xs)] = ret (vB (leadsB rows l xs xs)) := by
  refine run_fin ?_
  unfold g_is_kept startE
  simp -implicitDefEqProofs [need_parting_ok M hx, is_kept_by_eq M hx.len]
theorem least_kept_ok (M : Mach rows sh n l) (hx : Part xs n) : ∃ p, F_least_kept [.d (mM rows sh), .d (tN xs)] = ret (.d (tN p)) ∧ KClo rows n l xs p := by
  obtain ⟨p, e, K⟩ := kept_over_ok M hx
  refine ⟨p, run_fin ?_, K⟩
  unfold g_least_kept startE
  simp -implicitDefEqProofs [need_parting_ok M hx, e]
def duoN (n x y : Nat) : List Nat := numb (mergedP (List.range n) x y)
theorem duoN_part (n x y : Nat) : Part (duoN n x y) n := ⟨by simp [duoN, numb_len, mergedP_len], numb_numb _⟩
theorem drawn_in_ok (M : Mach rows sh n l) {x y : Nat} (hx : x < n) (hy : y < n) : ∃ p, F_drawn_in [.d (mM rows sh), .d (.int x), .d (.int y)] = ret (.d (tN p)) ∧ KClo rows n l (duoN n x y) p := by
  have h8 := M.n8
  obtain ⟨p, e, K⟩ := kept_over_ok M (duoN_part n x y)
  have hmg := merged_eq (p := List.range n) (one := x) (far := y) (by simpa using hx) (by simpa using hy) (by simp; omega)
  have hnum := numbered_t (ns := mergedP (List.range n) x y) (by rw [mergedP_len, sizeLine_eq, List.length_range]; omega)
  refine ⟨p, run_fin ?_, K⟩
  unfold g_drawn_in startE
  simp -implicitDefEqProofs [single_of_eq M, hmg, hnum]
  unfold duoN at e
  simp -implicitDefEqProofs [e]
theorem need_standing_ok (M : Mach rows sh n l) {x : Nat} (hx : x < n) : F_need_standing [.d (mM rows sh), .d (.int x)] = ret (.d .none) := by
  have hw : isWh (.int (x : Int)) 0 ((n : Int) - 1) = true := by
    simp [isWh]
    omega
  have := is_whole_eq (.int (x : Int)) 0 ((n : Int) - 1)
  rw [hw] at this
  refine run_fin ?_
  unfold g_need_standing startE
  simp -implicitDefEqProofs [size_of_eq M, this, vB]
theorem drawn_ok (M : Mach rows sh n l) {x y : Nat} (hx : x < n) (hy : y < n) : ∃ p, F_drawn [.d (mM rows sh), .d (.int x), .d (.int y)] = ret (.d (tN p)) ∧ KClo rows n l (duoN n x y) p := by
  obtain ⟨p, e, K⟩ := drawn_in_ok M hx hy
  refine ⟨p, run_fin ?_, K⟩
  unfold g_drawn startE
  simp -implicitDefEqProofs [need_machine_ok M, need_standing_ok M hx, need_standing_ok M hy, e]
theorem sheets_203 : ∀ k, k ≤ 5 → (sheetsR k).length ≤ 300 := by decide +kernel
theorem all_kept_eq (M : Mach rows sh n l) (h6 : n ≤ 6) : F__law_all_kept [.d (mM rows sh)] = ret (.d (.list (((sheetsR (n - 1)).filter fun z => leadsB rows l z z).map tN))) := by
  have h8 := M.n8
  have h1 := M.n0
  have hn := M.len
  have hs := all_sheets_eq h1 h8
  have hEl := sheets_203 (n - 1) (by omega)
  have c1 : lcA (lSeq (vT 1)) (gN 2) (bV (eCallA true F__law_is_kept (aCons (vT 0) (aCons (eCallA true F__law_classes (aCons (vT 2) aNil)) aNil)))) (vT 2) [2] [some (.d (mM rows sh)), some (.d (.list ((sheetsR (n - 1)).map tN))), none] = ret (((sheetsR (n - 1)).filter fun z => leadsB rows l z z).map tN) := by
    refine lcA_fil (f := tN) (by simp -implicitDefEqProofs) (by rw [sizeLine_eq]; omega) (fun z hz => ?_) (fun z _ _ => by simp -implicitDefEqProofs)
    obtain ⟨q1, q2⟩ := mem_sheetsR.mp hz
    have pz : Part z n := ⟨by omega, q2⟩
    have hno : z ≠ [] := by intro e; rw [e] at q1; simp at q1
    have mo : maxN z < n := maxN_lt h1 fun _ h => pz.lt h
    have k1 := classes_eq hno (by omega) (by omega)
    have k2 := kept_eq M pz
    simp -implicitDefEqProofs [k1, k2, vB]
  refine run_fin ?_
  unfold g__law_all_kept startE
  simp -implicitDefEqProofs [hn, hs, c1]
end
end KG


set_option Elab.async false
set_option linter.all false
set_option maxRecDepth 100000
/-! PV: the law's own numbering, drawn sheets (k05). -/
namespace KG
open PySem PySem.Spec PyProof.Rows L2 KP
theorem hIn_t (neg : Bool) (d : PyData) (ys : List PyData) : gDD (hIn neg) (.d d) (.d (.tuple ys)) = gDD (hIn neg) (.d d) (.d (.list ys)) := rfl
theorem cut_toT (ys : List PyData) (k : Nat) : gSlA (.d (.tuple ys)) none (some (k : Int)) = some (.d (.tuple (ys.take k))) := by
  have h := cut_to ys k
  simp only [gSlL, Option.some.injEq, Va.d.injEq, PyData.list.injEq] at h
  rw [gSlA_t, h]
theorem law_numbered_eq {ns : List Nat} (hl : ns.length ≤ 100) : F__law_numbered [.d (tN ns)] = ret (.d (tN (numb ns))) := by
  have hfit : ∀ y ∈ ns, fits [] (nI y) = true := fun y _ => fits_int _ _
  have hsz : ns.length ≤ sizeLine := by rw [sizeLine_eq]; omega
  have c1 : lcA (lN gEnum (aCons (vT 0) aNil)) (gT [(gN 2), (gN 3)]) (bV (c2 (gDD (hIn true)) (vT 3) (eSl gSlA (vT 0) none (some (vT 2))))) (vT 3) [2, 3] [some (.d (tN ns)), none, none, none] = ret ((firsts ns).map nI) := by
    rw [← firsts_filter, List.map_map]
    refine lcA_fil (f := fun q : Nat × Nat => .tuple [nI q.2, nI q.1]) (by simp -implicitDefEqProofs [enum_t nI ns]) (by simpa using hsz) (fun q hq => ?_) (fun q _ _ => by simp -implicitDefEqProofs)
    have hm : q.1 ∈ ns := by
      obtain ⟨x, i⟩ := q
      exact (List.mem_zipIdx' hq).2 ▸ List.getElem_mem _
    have k1 := cut_toT (ns.map nI) q.2
    rw [← List.map_take] at k1
    have k2 := notin_take (k := q.2) (fun _ _ => nI_inj) hm hfit
    rw [← hIn_t] at k2
    simp -implicitDefEqProofs [-gDD_eq, -List.map_take, -gSlA_t, k1, k2]
  have c3 : lcA (lSeq (vT 0)) (gN 3) bYes (cIndex (vT 1) (vT 3)) [3] [some (.d (tN ns)), some (.d (.list ((firsts ns).map nI))), none, none] = ret ((numb ns).map nI) := by
    rw [← fresh_eq]
    refine lcA_all (f := nI) (by simp -implicitDefEqProofs) hsz fun c hc => ?_
    have := numb_index (fun _ _ => nI_inj) hc hfit
    simp -implicitDefEqProofs [this]
  refine run_fin ?_
  unfold g__law_numbered startE
  simp -implicitDefEqProofs [c1, c3]
end KG


set_option Elab.async false
set_option linter.all false
set_option maxRecDepth 100000
/-! PW: kept_in tells all kept partings, ascending. -/
namespace KG
open PySem PySem.Spec PyProof.Rows L2 KP
/-! ### the order of partings -/
def leP (n : Nat) (p q : List Nat) : Prop := ∀ a b, a < n → b < n → at0 p a = at0 p b → at0 q a = at0 q b
theorem leP.refl {n : Nat} {p : List Nat} : leP n p p := fun _ _ _ _ h => h
theorem leP.trans {n : Nat} {p q r : List Nat} (h : leP n p q) (h' : leP n q r) : leP n p r := fun a b ha hb e => h' a b ha hb (h a b ha hb e)
theorem leP.anti {n : Nat} {p q : List Nat} (hp : Part p n) (hq : Part q n) (h : leP n p q) (h' : leP n q p) : p = q := by
  have hl := hp.len
  have hl2 := hq.len
  rw [← hp.num, ← hq.num]
  exact at0_congr_numb (by omega) fun a b ha hb => ⟨h a b (by omega) (by omega), h' a b (by omega) (by omega)⟩
section
variable {n : Nat} {p q r s : List Nat}
theorem join_part (hp : Part p n) : Part (joinC p q) n := ⟨joinC_len hp.len, joinC_num⟩
theorem join_l (hp : Part p n) (hq : Part q n) : leP n p (joinC p q) := fun a b ha hb h => joinC_left hp.len hq.len ha hb h
theorem join_r (hp : Part p n) (hq : Part q n) : leP n q (joinC p q) := fun a b ha hb h => joinC_right hp.len hq.len ha hb h
theorem join_le (hp : Part p n) (hq : Part q n) (h1 : leP n p r) (h2 : leP n q r) : leP n (joinC p q) r := fun a b ha hb h =>
  joinC_least hp.len hq.len (fun a b => at0 r a = at0 r b) (fun _ _ e => e.symm) (fun _ _ _ e f => e.trans f) h1 h2 ha hb h
theorem join_mono (hp : Part p n) (hq : Part q n) (hr : Part r n) (hs : Part s n) (h1 : leP n p r) (h2 : leP n q s) : leP n (joinC p q) (joinC r s) :=
  join_le hp hq (h1.trans (join_l hr hs)) (h2.trans (join_r hr hs))
theorem single_part (n : Nat) : Part (List.range n) n := by
  refine ⟨by simp, ?_⟩
  have h : ∀ k, numb (List.range k) = List.range k ∧ firsts (List.range k) = List.range k := by
    intro k
    induction k with
    | zero => exact ⟨rfl, rfl⟩
    | succ k ih =>
      rw [List.range_succ]
      have hn : ¬ k ∈ firsts (List.range k) := by rw [ih.2]; simp
      obtain ⟨e1, e2⟩ := numb_new hn
      rw [e1, e2, ih.1, ih.2]
      simp
  exact (h n).1
theorem at_range {n a : Nat} (ha : a < n) : at0 (List.range n) a = a := by rw [at0_eq (by simpa using ha)]; simp
theorem single_le : leP n (List.range n) p := fun a b ha hb e => by
  rw [at_range ha, at_range hb] at e
  rw [e]
end
/-! ### the kept ones -/
structure KeptP (rows : List (List Nat)) (n l : Nat) (p : List Nat) : Prop where
  part : Part p n
  shut : ∀ j, j < l → ∀ a b, a < n → b < n → at0 p a = at0 p b → at0 p (goalN rows a j) = at0 p (goalN rows b j)
section
variable {rows : List (List Nat)} {sh : List Nat} {n l : Nat} {p q z : List Nat}
theorem keptP_iff (M : Mach rows sh n l) : KeptP rows n l p ↔ p ∈ (sheetsR (n - 1)).filter fun z => leadsB rows l z z := by
  have h1 := M.n0
  rw [List.mem_filter, mem_sheetsR]
  constructor
  · rintro ⟨hp, hs⟩
    have := hp.len
    exact ⟨⟨by omega, hp.num⟩, (leadsB_iff M.len hp.len).mpr hs⟩
  · rintro ⟨⟨e1, e2⟩, h⟩
    have hp : Part p n := ⟨by omega, e2⟩
    exact ⟨hp, (leadsB_iff M.len hp.len).mp h⟩
theorem KClo.keptP {xs : List Nat} (K : KClo rows n l xs p) : KeptP rows n l p := ⟨K.part, K.shut⟩
theorem KeptP.single (M : Mach rows sh n l) : KeptP rows n l (List.range n) := ⟨single_part n, fun j hj a b ha hb e => by
  rw [at_range ha, at_range hb] at e
  rw [e]⟩
theorem KeptP.join (M : Mach rows sh n l) (hp : KeptP rows n l p) (hq : KeptP rows n l q) : KeptP rows n l (joinC p q) := ⟨join_part hp.part, fun j hj a b ha hb e => by
  exact joinC_least hp.part.len hq.part.len (fun a b => at0 (joinC p q) (goalN rows a j) = at0 (joinC p q) (goalN rows b j)) (fun _ _ h => h.symm) (fun _ _ _ h h' => h.trans h') (fun a b ha hb e => join_l hp.part hq.part _ _ (M.goal_lt ha hj) (M.goal_lt hb hj) (hp.shut j hj a b ha hb e)) (fun a b ha hb e => join_r hp.part hq.part _ _ (M.goal_lt ha hj) (M.goal_lt hb hj) (hq.shut j hj a b ha hb e)) ha hb e⟩
/-! ### the pairs -/
def pairsL (n : Nat) : List (Nat × Nat) := (List.range n).flatMap fun a => ((List.range (n - (a + 1))).map fun i => a + 1 + i).map fun b => (a, b)
theorem mem_pairsL {n a b : Nat} : (a, b) ∈ pairsL n ↔ a < b ∧ b < n := by
  simp only [pairsL, List.mem_flatMap, List.mem_range, List.mem_map, List.map_map]
  constructor
  · rintro ⟨c, hc, x, hx, e⟩
    simp only [Function.comp, Prod.mk.injEq] at e
    omega
  · rintro ⟨h1, h2⟩
    exact ⟨a, by omega, b - (a + 1), by omega, by show (a, a + 1 + (b - (a + 1))) = (a, b); rw [show a + 1 + (b - (a + 1)) = b by omega]⟩
theorem pairs_len : ∀ n, n ≤ 8 → (pairsL n).length ≤ 28 := by decide +kernel
theorem pairs_in_eq (M : Mach rows sh n l) : F_pairs_in [.d (mM rows sh)] = ret (.d (.list ((pairsL n).map pT))) := by
  have h8 := M.n8
  have er := rng_nat n (by omega)
  have hp := pairs_len n h8
  have c1 : lcA2 (lN gRng1 (aCons (vT 1) aNil)) (gN 2) bYes (lN gRng2 (aCons (c2 gAdd (vT 2) (kC (.int 1))) (aCons (vT 1) aNil))) (gN 3) bYes (cN gTupD (aCons (vT 2) (aCons (vT 3) aNil))) [2, 3] [3] [some (.d (mM rows sh)), some (.d (nI n)), none, none] = ret ((pairsL n).map pT) := by
    have e : (pairsL n).map pT = (List.range n).flatMap fun a => ((List.range (n - (a + 1))).map fun i => a + 1 + i).map fun b => pT (a, b) := by
      unfold pairsL
      rw [List.map_flatMap]
      simp only [List.map_map]; rfl
    rw [e]
    refine lcA2_all (f := nI) (f1 := nI) (g := fun a b => pT (a, b)) (by simp -implicitDefEqProofs [er]) (fun a ha => ?_) ?_
    · have ha : a < n := by simpa using ha
      obtain ⟨k, hk⟩ : ∃ k : Nat, k = a + 1 := ⟨_, rfl⟩
      rw [← hk]
      have e2 := rng2_nat k n (by omega) (by omega)
      have e3 : ((a : Int) + 1) = (k : Int) := by omega
      refine ⟨_, rfl, ?_, fun b hb => ?_⟩
      · simp -implicitDefEqProofs [e3, e2]
      · simp -implicitDefEqProofs [pT]
    · rw [← e, List.length_map, sizeLine_eq]; omega
  refine run_fin ?_
  unfold g_pairs_in startE
  simp -implicitDefEqProofs [size_of_eq M, c1]
/-! ### the loop -/
structure KI (rows : List (List Nat)) (n l : Nat) (done : List (Nat × Nat)) (fs : List (List Nat)) : Prop where
  nd : fs.Nodup
  kept : ∀ p ∈ fs, KeptP rows n l p
  sing : List.range n ∈ fs
  join : ∀ p ∈ fs, ∀ q ∈ fs, joinC p q ∈ fs
  has : ∀ d ∈ done, ∃ p ∈ fs, KClo rows n l (duoN n d.1 d.2) p
theorem KI.few (M : Mach rows sh n l) {done : List (Nat × Nat)} {fs : List (List Nat)} (K : KI rows n l done fs) : fs.length ≤ 4140 := by
  have h8 := M.n8
  have := K.nd.length_le_of_subset (l₂ := sheetsR (n - 1)) fun p hp => by
    have := (keptP_iff M).mp (K.kept p hp)
    exact (List.mem_filter.mp this).1
  exact Nat.le_trans this (sheets_len (n - 1) (by omega))
theorem join_single (hp : Part p n) : joinC (List.range n) p = p := leP.anti (join_part (single_part n)) hp (join_le (single_part n) hp single_le leP.refl) (join_r (single_part n) hp)
theorem KI.same {done : List (Nat × Nat)} {fs : List (List Nat)} {d : Nat × Nat} (K : KI rows n l done fs) (hp : KClo rows n l (duoN n d.1 d.2) p) (hm : p ∈ fs) : KI rows n l (done ++ [d]) fs :=
  ⟨K.nd, K.kept, K.sing, K.join, fun e he => by
    rcases List.mem_append.mp he with he | he
    · exact K.has e he
    · rw [List.mem_singleton.mp he]; exact ⟨p, hm, hp⟩⟩
theorem KI.more (M : Mach rows sh n l) {done : List (Nat × Nat)} {fs : List (List Nat)} {d : Nat × Nat} (K : KI rows n l done fs) (hp : KClo rows n l (duoN n d.1 d.2) p) : KI rows n l (done ++ [d]) (putsP fs (putsP [] (fs.map fun q => joinC q p))) := by
  have hk := hp.keptP
  have pp := hk.part
  have mem : ∀ x, x ∈ putsP fs (putsP [] (fs.map fun q => joinC q p)) ↔ x ∈ fs ∨ ∃ q ∈ fs, joinC q p = x := by
    intro x
    rw [mem_putsP, mem_putsP, List.mem_map]
    simp
  refine ⟨nd_putsP K.nd, fun x hx => ?_, (mem _).mpr (.inl K.sing), fun x hx y hy => ?_, fun e he => ?_⟩
  · rcases (mem x).mp hx with hx | ⟨q, hq, rfl⟩
    · exact K.kept x hx
    · exact (K.kept q hq).join M hk
  · rw [mem] at hx hy ⊢
    rcases hx with hx | ⟨q, hq, rfl⟩
    · rcases hy with hy | ⟨r, hr, rfl⟩
      · exact .inl (K.join x hx y hy)
      · have h1 := (K.kept x hx).part
        have h2 := (K.kept r hr).part
        refine .inr ⟨joinC x r, K.join x hx r hr, ?_⟩
        refine leP.anti (join_part (join_part h1)) (join_part h1) ?_ ?_
        · exact join_le (join_part h1) pp (join_le h1 h2 (join_l h1 (join_part h2)) ((join_l h2 pp).trans (join_r h1 (join_part h2)))) ((join_r h2 pp).trans (join_r h1 (join_part h2)))
        · exact join_le h1 (join_part h2) ((join_l h1 h2).trans (join_l (join_part h1) pp)) (join_le h2 pp ((join_r h1 h2).trans (join_l (join_part h1) pp)) (join_r (join_part h1) pp))
    · have h1 := (K.kept q hq).part
      rcases hy with hy | ⟨r, hr, rfl⟩
      · have h2 := (K.kept y hy).part
        refine .inr ⟨joinC q y, K.join q hq y hy, ?_⟩
        refine leP.anti (join_part (join_part h1)) (join_part (join_part h1)) ?_ ?_
        · exact join_le (join_part h1) pp (join_le h1 h2 ((join_l h1 pp).trans (join_l (join_part h1) h2)) (join_r (join_part h1) h2)) ((join_r h1 pp).trans (join_l (join_part h1) h2))
        · exact join_le (join_part h1) h2 (join_le h1 pp ((join_l h1 h2).trans (join_l (join_part h1) pp)) (join_r (join_part h1) pp)) ((join_r h1 h2).trans (join_l (join_part h1) pp))
      · have h2 := (K.kept r hr).part
        refine .inr ⟨joinC q r, K.join q hq r hr, ?_⟩
        refine leP.anti (join_part (join_part h1)) (join_part (join_part h1)) ?_ ?_
        · exact join_le (join_part h1) pp (join_le h1 h2 ((join_l h1 pp).trans (join_l (join_part h1) (join_part h2))) ((join_l h2 pp).trans (join_r (join_part h1) (join_part h2)))) ((join_r h1 pp).trans (join_l (join_part h1) (join_part h2)))
        · exact join_le (join_part h1) (join_part h2) (join_le h1 pp ((join_l h1 h2).trans (join_l (join_part h1) pp)) (join_r (join_part h1) pp)) (join_le h2 pp ((join_r h1 h2).trans (join_l (join_part h1) pp)) (join_r (join_part h1) pp))
  · rcases List.mem_append.mp he with he | he
    · obtain ⟨x, hx, h⟩ := K.has e he
      exact ⟨x, (mem x).mpr (.inl hx), h⟩
    · rw [List.mem_singleton.mp he]
      exact ⟨p, (mem p).mpr (.inr ⟨_, K.sing, join_single pp⟩), hp⟩
/-- all pairs gone through: all kept ones are there -/
theorem duo_le (hz : Part z n) {a b : Nat} (ha : a < n) (hb : b < n) (e : at0 z a = at0 z b) : leP n (duoN n a b) z := by
  intro x y hx hy h
  have hl : (mergedP (List.range n) a b).length = n := by rw [mergedP_len, List.length_range]
  unfold duoN at h
  rw [at0_numb (by omega) (by omega), ← at0_eq (by omega), ← at0_eq (by omega), merged_rel (by simpa using hx) (by simpa using hy), at_range hx, at_range hy, at_range ha, at_range hb] at h
  rcases h with h | ⟨h1, h2⟩
  · rw [h]
  · rcases h1 with rfl | rfl <;> rcases h2 with rfl | rfl <;> simp [e]
theorem duo_has {a b : Nat} (ha : a < n) (hb : b < n) : at0 (duoN n a b) a = at0 (duoN n a b) b := by
  have hl : (mergedP (List.range n) a b).length = n := by rw [mergedP_len, List.length_range]
  unfold duoN
  rw [at0_numb (by omega) (by omega), ← at0_eq (by omega), ← at0_eq (by omega), merged_rel (by simpa using ha) (by simpa using hb)]
  exact .inr ⟨.inl rfl, .inr rfl⟩
theorem KI.all (M : Mach rows sh n l) {fs : List (List Nat)} (K : KI rows n l (pairsL n) fs) (hz : KeptP rows n l z) : z ∈ fs := by
  have step : ∀ L : List (Nat × Nat), (∀ d ∈ L, d ∈ pairsL n ∧ at0 z d.1 = at0 z d.2) → ∃ J ∈ fs, leP n J z ∧ ∀ d ∈ L, at0 J d.1 = at0 J d.2 := by
    intro L
    induction L with
    | nil => intro _; exact ⟨_, K.sing, single_le, fun d h => nomatch h⟩
    | cons d L ih =>
      intro h
      obtain ⟨J, hJ, h1, h2⟩ := ih fun e he => h e (List.mem_cons_of_mem _ he)
      obtain ⟨hd, e⟩ := h d List.mem_cons_self
      obtain ⟨p, hp, C⟩ := K.has d hd
      obtain ⟨l1, l2⟩ := mem_pairsL.mp (show (d.1, d.2) ∈ pairsL n from hd)
      have pJ := (K.kept J hJ).part
      have pP := (K.kept p hp).part
      have pz : leP n p z := fun a b ha hb q => C.least (fun a b => at0 z a = at0 z b) (fun _ _ h => h.symm) (fun _ _ _ h h' => h.trans h') (duo_le hz.part (by omega) l2 e) (fun j hj a b ha hb q => hz.shut j hj a b ha hb q) a b ha hb q
      refine ⟨joinC J p, K.join J hJ p hp, join_le pJ pP h1 pz, fun f hf => ?_⟩
      rcases List.mem_cons.mp hf with rfl | hf
      · exact join_r pJ pP _ _ (by omega) l2 (C.sup _ _ (by omega) l2 (duo_has (by omega) l2))
      · obtain ⟨hf', _⟩ := h f (List.mem_cons_of_mem _ hf)
        obtain ⟨m1, m2⟩ := mem_pairsL.mp (show (f.1, f.2) ∈ pairsL n from hf')
        exact join_l pJ pP _ _ (by omega) m2 (h2 f hf)
  obtain ⟨J, hJ, h1, h2⟩ := step ((pairsL n).filter fun d => decide (at0 z d.1 = at0 z d.2)) fun d hd => by
    obtain ⟨q1, q2⟩ := List.mem_filter.mp hd
    exact ⟨q1, of_decide_eq_true q2⟩
  have h3 : leP n z J := fun a b ha hb e => by
    rcases Nat.lt_trichotomy a b with h | h | h
    · exact h2 (a, b) (List.mem_filter.mpr ⟨mem_pairsL.mpr ⟨h, hb⟩, decide_eq_true e⟩)
    · rw [h]
    · exact (h2 (b, a) (List.mem_filter.mpr ⟨mem_pairsL.mpr ⟨h, ha⟩, decide_eq_true e.symm⟩)).symm
  rw [leP.anti hz.part (K.kept J hJ).part h3 h1]
  exact hJ
/-! ### ascending -/
def lexN (p q : List Nat) : Prop := lexLe (p.map fun x : Nat => (x : Int)) (q.map fun x : Nat => (x : Int)) = true
theorem lex_snoc : ∀ {p q : List Nat} {x y : Nat}, p.length = q.length → lexN p q → (p = q → x ≤ y) → lexN (p ++ [x]) (q ++ [y])
  | [], [], x, y, _, _, h => by
    have := h rfl
    simp only [lexN, List.nil_append, List.map_cons, List.map_nil, lexLe]
    by_cases e : (x : Int) < y
    · simp [e]
    · rw [if_neg e, if_neg (by omega)]
  | a :: p, b :: q, x, y, hl, h1, h2 => by
    simp only [lexN, List.cons_append, List.map_cons, lexLe] at h1 ⊢
    by_cases e1 : (a : Int) < b
    · simp [e1]
    · by_cases e2 : (b : Int) < a
      · rw [if_neg e1, if_pos e2] at h1; cases h1
      · rw [if_neg e1, if_neg e2] at h1 ⊢
        have eab : a = b := by omega
        exact lex_snoc (by simpa using hl) h1 fun e => h2 (by rw [eab, e])
theorem sheets_asc : ∀ k, (sheetsR k).Pairwise fun p q => lexN p q ∧ p ≠ q
  | 0 => by simp [sheetsR]
  | k + 1 => by
    unfold sheetsR
    rw [List.pairwise_flatMap]
    refine ⟨fun r hr => ?_, ?_⟩
    · rw [List.pairwise_map]
      refine List.Pairwise.imp ?_ (List.pairwise_lt_range)
      intro a b hab
      refine ⟨lex_snoc rfl (lexLe_refl _) fun _ => by omega, fun e => ?_⟩
      have := List.append_cancel_left e
      simp at this
      omega
    · refine List.Pairwise.imp_of_mem ?_ (sheets_asc k)
      rintro p q hp hq ⟨h1, h2⟩ x hx y hy
      obtain ⟨a, _, rfl⟩ := List.mem_map.mp hx
      obtain ⟨b, _, rfl⟩ := List.mem_map.mp hy
      have l1 := (mem_sheetsR.mp hp).1
      have l2 := (mem_sheetsR.mp hq).1
      refine ⟨lex_snoc (by omega) h1 fun e => absurd e h2, fun e => h2 ?_⟩
      exact (List.append_inj e (by omega)).1
def keptL (rows : List (List Nat)) (n l : Nat) : List (List Nat) := (sheetsR (n - 1)).filter fun z => leadsB rows l z z
theorem keptL_asc : (keptL rows n l).Pairwise fun p q => lexN p q ∧ p ≠ q := (sheets_asc (n - 1)).filter _
theorem keptL_nd : (keptL rows n l).Nodup := keptL_asc.imp fun h => h.2
theorem keptL_len (M : Mach rows sh n l) : (keptL rows n l).length ≤ 4140 := Nat.le_trans (List.length_filter_le _ _) (sheets_len (n - 1) (by have := M.n8; omega))
theorem perm_of_nd {α : Type} [DecidableEq α] : ∀ {l m : List α}, l.Nodup → m.Nodup → (∀ x, x ∈ l ↔ x ∈ m) → l.Perm m := by
  intro l m hl hm h
  rw [List.perm_iff_count]
  intro x
  rw [hl.count, hm.count]
  by_cases e : x ∈ l
  · rw [if_pos e, if_pos ((h x).mp e)]
  · rw [if_neg e, if_neg fun z => e ((h x).mpr z)]
theorem kept_in_eq (M : Mach rows sh n l) : F_kept_in [.d (mM rows sh)] = ret (.d (.list ((keptL rows n l).map tN))) := by
  have h8 := M.n8
  have h1 := M.n0
  have hp := pairs_in_eq M
  refine Pu.eq (Pu.run ?_)
  unfold g_kept_in startE
  have e0 : asKeyT (tN (List.range n)) = some (keyN (List.range n)) := asKeyT_N _
  have start : KI rows n l [] [List.range n] := ⟨by simp, fun p hp => by rw [List.mem_singleton.mp hp]; exact KeptP.single M, by simp, fun p hp q hq => by
    rw [List.mem_singleton.mp hp, List.mem_singleton.mp hq, join_single (single_part n)]; simp, fun d h => nomatch h⟩
  simp -implicitDefEqProofs [single_of_eq M, Va.asD, e0, hp]
  refine Pu.for_ (f := pT) (xs := pairsL n) (fun done env => ∃ (fs : List (List Nat)) (a b c : Option Sv), env = [some (.d (mM rows sh)), some (.dd (.t (setD fs))), a, b, c, none] ∧ KI rows n l done fs) ⟨[List.range n], none, none, none, rfl, start⟩ ?_ ?_
  · rintro done ⟨x, y⟩ rest env Q he ⟨fs, a, b, c, rfl, K⟩ hQ
    have hm : (x, y) ∈ pairsL n := by rw [he]; simp
    obtain ⟨hxy, hy⟩ := mem_pairsL.mp hm
    obtain ⟨p, ed, C⟩ := drawn_in_ok M (x := x) (y := y) (by omega) hy
    have hin := in_setD true p fs
    have hfew := K.few M
    simp -implicitDefEqProofs [pT, ed, hin]
    by_cases hpf : p ∈ fs
    · simp -implicitDefEqProofs [hpf]
      exact Pu.ret (hQ _ ⟨fs, _, _, _, rfl, K.same C hpf⟩)
    · have pp := C.part
      have c1 : dcA (lSeq (fD (fKeys 1))) (gN 5) bYes (eCallA true F_joined (aCons (vT 5) (aCons (vT 4) aNil))) (kC (.bool true)) [5] [some (.d (mM rows sh)), some (.dd (.t (setD fs))), some (.d (nI x)), some (.d (nI y)), some (.d (tN p)), none] = ret (setD (putsP [] (fs.map fun q => joinC q p))) := by
        have e := dcA_all (h := lSeq (fD (fKeys 1))) (t := gN 5) (ek := eCallA true F_joined (aCons (vT 5) (aCons (vT 4) aNil))) (ev := kC (.bool true)) (vs := [5]) (env := [some (.d (mM rows sh)), some (.dd (.t (setD fs))), some (.d (nI x)), some (.d (nI y)), some (.d (tN p)), none]) (xs := fs) (f := tN) (kf := fun q => keyN (joinC q p)) (g := fun _ => .bool true) ?_ (by rw [sizeLine_eq]; omega) fun q hq => ?_
        · rw [e]
          have : ∀ (zs : List (List Nat)) (acc : List (List Nat)), zs.foldl (fun acc x => putD acc (keyN (joinC x p)) (.bool true)) (setD acc) = setD (putsP acc (zs.map fun q => joinC q p)) := by
            intro zs
            induction zs with
            | nil => intro acc; rfl
            | cons z zs ih =>
              intro acc
              rw [List.foldl_cons, put_setD, ih]; rfl
          exact congrArg KP.ret (this fs [])
        · simp -implicitDefEqProofs [Sv.asDD, keys_setD]
        · have hj := joinedP_eq (K.kept q hq).part.len pp h1 h8
          refine ⟨_, rfl, ?_, rfl⟩
          simp -implicitDefEqProofs [hj, keyT_N]
      have hl2 : (putsP [] (fs.map fun q => joinC q p)).length ≤ fs.length := by
        have := puts_len (fs.map fun q => joinC q p) []
        simpa using this
      have hu : Dk.upd (.t (setD fs)) (setD (putsP [] (fs.map fun q => joinC q p))) = some (.t (setD (putsP fs (putsP [] (fs.map fun q => joinC q p))))) := by
        simp only [Dk.upd]
        rw [if_pos, merge_setD]
        refine ⟨fun z => ?_, by rw [len_setD, len_setD, sizeLine_eq]; omega⟩
        have := congrArg List.length z
        rw [len_setD] at this
        have h0 := K.sing
        rw [List.length_eq_zero_iff.mp this] at h0
        cases h0
      simp -implicitDefEqProofs [hpf, c1, Sv.asDD, hu]
      exact Pu.ret (hQ _ ⟨_, _, _, _, rfl, K.more M C⟩)
  · rintro env ⟨fs, a, b, c, rfl, K⟩
    have hnz : fs ≠ [] := List.ne_nil_of_mem K.sing
    have hs := sortA_tups (gs := keptL rows n l) hnz h1 (fun p hp => (K.kept p hp).part.len) (perm_of_nd keptL_nd K.nd fun x => by
      rw [show (x ∈ keptL rows n l) ↔ KeptP rows n l x from (keptP_iff M).symm]
      exact ⟨K.all M, K.kept x⟩) (keptL_asc.imp fun h => h.1)
    simp -implicitDefEqProofs [Sv.asDD, keys_setD, hs]
    exact Pu.ret rfl
theorem kept_partings_eq (M : Mach rows sh n l) : F_kept_partings [.d (mM rows sh)] = ret (.d (.tuple ((keptL rows n l).map tN))) := by
  refine run_fin ?_
  unfold g_kept_partings startE
  simp -implicitDefEqProofs [need_machine_ok M, kept_in_eq M]
end
end KG


set_option Elab.async false
set_option linter.all false
set_option maxRecDepth 100000
/-! P05: the law k05 (under way). -/
namespace KG
open PySem PySem.Spec PyProof.Rows L2 KP
/-- a drawn parting -/
def SheetOk (c t many : Nat) (S : Sto) (v : Va) (S' : Sto) : Prop := ∃ ns, v = .d (tN ns) ∧ Part ns many ∧ Good S' c (t + 20) ∧ S'.length = S.length
theorem sheet_sat {S : Sto} {c t many : Nat} (hG : Good S c t) (ht : t < 2 ^ 50) (h1 : 1 ≤ many) (h8 : many ≤ 8) : Sat (F__law_sheet [.c c, .d (.int many)]) S (SheetOk c t many S) := by
  refine Sat.runF ?_
  unfold g__law_sheet startE
  have e1 : (many : Int) - 1 = ((many - 1 : Nat) : Int) := by omega
  have e2 : (many : Int) + 1 = ((many + 1 : Nat) : Int) := by omega
  have er := rng_nat (many - 1) (by omega)
  generalize hk : many - 1 = K at e1 er
  generalize hk2 : many + 1 = K2 at e2
  have hz : (1 : Nat) ≤ sizeLine := by rw [sizeLine_eq]; omega
  simp -implicitDefEqProofs [hz, e1, er]
  refine Sat.for_ (f := nI) (xs := List.range K) (fun done env S1 => ∃ (ns : List Nat) (a : Option Sv), env = [some (.c c), some (.d (.int many)), some (.l1 (ns.map nI)), a] ∧ ns.length = done.length + 1 ∧ numb ns = ns ∧ Good S1 c (t + 2 * done.length) ∧ S1.length = S.length) ⟨[0], none, rfl, rfl, by decide, hG, rfl⟩ ?_ ?_
  · rintro done x rest env S Q he ⟨ns, a, rfl, hl, hn, hG, hS⟩ hQ
    obtain ⟨_, hxk⟩ := range_split he
    have hne : ns ≠ [] := by intro z; rw [z] at hl; simp at hl
    have hmax := max_l hne
    have hb := rg_max ns hn hne
    have hlt : maxN ns < 8 := maxN_lt (by omega) fun y hy => by rw [← hn] at hy; have := numb_lt hy; omega
    simp -implicitDefEqProofs [hmax, e2]
    refine Sat.liftB (draw' (k := K2) hG (by omega) (by omega) (by omega)) ?_
    rintro v S1 ⟨d, hv, hd, hG1, hl1⟩
    rw [hv]
    obtain ⟨mm, hmm⟩ : ∃ mm : Nat, mm = min (maxN ns + 2) (1 + d + 1) := ⟨_, rfl⟩
    have em : min ((maxN ns : Int) + 2) (1 + (d : Int) + 1) = (mm : Int) := by omega
    simp -implicitDefEqProofs [em]
    have hk1 : 1 ≤ mm := by omega
    have hk2 : mm < 2 ^ 30 := by omega
    refine Sat.lift (draw' hG1 (by omega) hk1 hk2) ?_
    rintro v S2 ⟨y, hv, hy, hG2, hl2⟩
    have hsz : ns.length < sizeLine := by rw [sizeLine_eq]; omega
    rw [hv]
    simp -implicitDefEqProofs [hsz]
    refine Sat.ret (hQ _ _ ⟨ns ++ [y], some (.d (nI x)), by simp, by simp; omega, rg_iff.mpr ⟨hn, by omega⟩, hG2.mono (by simp; omega), by omega⟩)
  · rintro env S' ⟨ns, a, rfl, hl, hn, hG', hS'⟩
    rw [List.length_range] at hl hG'
    have hi := immV_of (tN_imm ns)
    simp -implicitDefEqProofs [hi]
    exact Sat.ret ⟨ns, rfl, ⟨by omega, hn⟩, hG'.mono (by omega), by omega⟩
section
variable {rows : List (List Nat)} {sh : List Nat} {n l : Nat} {xs p : List Nat} {cs ds : List (List Nat)}
/-- the two closings tell the same -/
theorem KClo.sameC (hr : ∀ a b, a < n → b < n → (relC cs a b ↔ at0 xs a = at0 xs b)) (K : KClo rows n l xs p) (D : Clo rows n l cs ds) : numb ((List.range n).map (homeC ds)) = p := by
  have hp : p = numb p := K.part.2.symm
  rw [hp]
  have hpl := K.part.len
  refine at0_congr_numb (by simp [hpl]) fun a b ha hb => ?_
  rw [List.length_map, List.length_range] at ha hb
  rw [at0_range ha, at0_range hb, home_iff D.cls ha hb]
  constructor
  · intro q
    exact D.least (fun a b => at0 p a = at0 p b) (fun _ _ h => h.symm) (fun _ _ _ h1 h2 => h1.trans h2) (fun a b ha hb q => K.sup a b ha hb ((hr a b ha hb).mp q)) (fun j hj a b ha hb q => K.shut j hj a b ha hb q) a b ha hb q
  · intro q
    refine K.least (relC ds) (fun _ _ h => h.symm) (fun _ _ _ h1 h2 => D.cls.trans h1 h2) (fun a b ha hb e => D.sup a b ha hb ((hr a b ha hb).mpr e)) (fun j hj a b ha hb h => ?_) a b ha hb q
    obtain ⟨c, hc, m1, m2⟩ := h
    exact D.shut c hc j hj a m1 b m2
theorem duo_rel {x y a b : Nat} (hx : x < n) (hy : y < n) (ha : a < n) (hb : b < n) : relC (mergedC (singles n) x y) a b ↔ at0 (duoN n x y) a = at0 (duoN n x y) b := by
  have hl : (mergedP (List.range n) x y).length = n := by rw [mergedP_len, List.length_range]
  have at_ : ∀ c, c < n → at0 (List.range n) c = c := fun c hc => by rw [at0_eq (by simpa using hc)]; simp
  unfold duoN
  rw [at0_numb (by omega) (by omega), ← at0_eq (by omega), ← at0_eq (by omega), merged_rel (by simpa using ha) (by simpa using hb), relC_merged (singles_cls n) ha hb,
    singles_rel ha, singles_rel ha, singles_rel ha, singles_rel hb, singles_rel hb, at_ a ha, at_ b hb, at_ x hx, at_ y hy]
/-- a closed parting is kept -/
theorem KClo.kept (M : Mach rows sh n l) (K : KClo rows n l xs p) : leadsB rows l p p = true := (leadsB_iff M.len K.part.len).mpr K.shut
theorem KClo.mem (M : Mach rows sh n l) (K : KClo rows n l xs p) : p ∈ (sheetsR (n - 1)).filter fun z => leadsB rows l z z := by
  have h1 := M.n0
  have hl := K.part.len
  exact List.mem_filter.mpr ⟨mem_sheetsR.mpr ⟨by omega, K.part.2⟩, K.kept M⟩
theorem mul_two2 (p q : PyData) : gMul (.d (.list [p, q])) (.d (.int 2)) = some (.d (.list [p, q, p, q])) := by
  have h : (2 : Nat) * 2 ≤ sizeLine := by rw [sizeLine_eq]; omega
  simp only [gMul, gDD_eq, hMulA]
  simp [sizeLine_eq]
theorem in_kept (neg : Bool) (M : Mach rows sh n l) {z : List Nat} (hz : Part z n) : gDD (hIn neg) (.d (tN z)) (.d (.tuple ((keptL rows n l).map tN))) = some (.d (.bool (if neg = true then !leadsB rows l z z else leadsB rows l z z))) := by
  have h8 := M.n8
  have h1 := M.n0
  have hl := hz.len
  rw [hIn_t]
  refine hIn_of (f := tN) (bs := [100]) (cs := [100]) (fits_tN (by omega)) (fun x hx => fits_tN ?_) (hk := ?_)
  · have := ((keptP_iff M).mpr hx).part.len; omega
  · constructor
    · intro h
      exact ⟨z, List.mem_filter.mpr ⟨mem_sheetsR.mpr ⟨by omega, hz.num⟩, h⟩, rfl⟩
    · rintro ⟨y, hy, e⟩
      rw [tN_inj.mp e] at hy
      exact (List.mem_filter.mp hy).2
/-- what is told of one machine -/
theorem is_told_sat (M : Mach rows sh n l) (h6 : n ≤ 6) {S : Sto} {c t : Nat} (hG : Good S c t) (ht : t < 2 ^ 40) : Sat (F__law_is_told [.c c, .d (mM rows sh)]) S fun v S' => v = vB true := by
  have h8 := M.n8
  have h1 := M.n0
  have hn := M.len
  have hk := all_kept_eq M h6
  have hkp := kept_partings_eq M
  have hfew : (keptL rows n l).length ≤ 300 := Nat.le_trans (List.length_filter_le _ _) (sheets_203 (n - 1) (by omega))
  have hpart : ∀ z ∈ keptL rows n l, Part z n := fun z hz => ((keptP_iff M).mpr hz).part
  have r1 := repr_t (bs := [2, 8, 8]) (M.text (b := 2) (bs := []) (by omega))
  have ft : fitsT [300, 8] (.tuple ((keptL rows n l).map tN)) = true := fitsT_t hfew fun z hz => (hpart z hz).text h8
  have r2 := repr_l (bs := [2, 300, 8]) (xs := [.tuple ((keptL rows n l).map tN), .tuple ((keptL rows n l).map tN)]) (fitsT_lst (by simp) (by
    intro x hx
    simp only [List.mem_cons, List.not_mem_nil, or_false] at hx
    rcases hx with e | e <;> rw [e] <;> exact ft))
  have er5 : gRng1 [.d (.int 5)] = some ((List.range 5).map nI) := rng_nat 5 (by omega)
  have er := rng_nat n (by omega)
  have ik : ∀ (neg : Bool) (z : List Nat), Part z n → gDD (hIn neg) (.d (tN z)) (.d (.tuple ((keptL rows n l).map tN))) = some (.d (.bool (if neg = true then !leadsB rows l z z else leadsB rows l z z))) := fun neg z hz => in_kept neg M hz
  have hk : F__law_all_kept [.d (mM rows sh)] = ret (.d (.list ((keptL rows n l).map tN))) := hk
  generalize keptL rows n l = E at *
  refine Sat.runF ?_
  unfold g__law_is_told startE
  simp -implicitDefEqProofs [hn, r1, hk, hkp, r2, er5]
  refine Sat.for_ (f := nI) (xs := List.range 5) (fun done env S' => ∃ (a b d e : Option Sv), env = [some (.c c), some (.d (mM rows sh)), some (.d (nI n)), some (.d (.str (mM rows sh).shown)), some (.d (.tuple (E.map tN))), a, none, b, d, e, none, none, none] ∧ Good S' c (t + 20 * done.length)) ⟨none, none, none, none, rfl, hG⟩ ?_ ?_
  · rintro done x rest env S Q he ⟨a, b, d, e, rfl, hG⟩ hQ
    obtain ⟨_, hx5⟩ := range_split he
    simp -implicitDefEqProofs
    refine Sat.lb (sheet_sat hG (by omega) h1 h8) ?_
    rintro v S1 ⟨ns, hv, hp, hG1, hl1⟩
    rw [hv]
    have hlen := hp.len
    have e1 := law_numbered_eq (ns := ns) (by omega)
    rw [hp.num] at e1
    have hne : ns ≠ [] := by intro z; rw [z] at hlen; simp at hlen; omega
    have mo : maxN ns < n := maxN_lt h1 fun _ h => hp.lt h
    have e2 := classes_eq hne (by omega) (by omega)
    have Cx : Cls n (clsOf ns) := hlen ▸ Cls.of ns
    obtain ⟨w, e3, ds, rfl, D⟩ := closed_ok M Cx (by rw [clsOf_len]; omega)
    obtain ⟨p, e4, K⟩ := least_kept_ok M hp
    have e5 := told_of_eq D.cls h8 (by have := D.len; rw [clsOf_len] at this; omega)
    rw [K.same hlen D] at e5
    have e6 := isKept_eq M hp
    have k1 := ik false ns hp
    have k2 := ik true p K.part
    rw [K.kept M] at k2
    simp only [Bool.false_eq_true, if_false, if_true, Bool.not_true] at k1 k2
    generalize leadsB rows l ns ns = L at *
    have m2 := mul_two2 (.bool L) (tN p)
    have i1 : gIx (.d (.list [.bool L, tN p])) (.d (.int 1)) = some (.d (tN p)) := gIx_l (n := 1) rfl
    have r3 := repr_l (bs := [4, 8]) (xs := [.bool L, tN p, .bool L, tN p]) (fitsT_lst (by simp) (by
      have a := K.part.text h8 (bs := [])
      intro x hx
      simp only [List.mem_cons, List.not_mem_nil, or_false] at hx
      rcases hx with e | e | e | e <;> rw [e] <;> first | rfl | exact a))
    simp -implicitDefEqProofs [-gDD_eq, e1, e2, e3, e5, e4, e6, k1, k2, vB, m2, i1, r3]
    exact Sat.ret (hQ _ _ ⟨_, _, _, _, rfl, hG1.mono (by simp; omega)⟩)
  · rintro env S' ⟨a, b, d, e, rfl, hG'⟩
    have c1 : ∀ (o1 o2 o3 o4 o5 o6 o7 : Option Sv), lcA (lN gRng1 (aCons (vT 2) aNil)) (gN 12) bYes (cN gLstD (aCons (vT 12) aNil)) [12] [some (.c c), some (.d (mM rows sh)), some (.d (nI n)), some (.d (.str (mM rows sh).shown)), some (.d (.tuple (E.map tN))), o1, o2, o3, o4, o5, o6, o7, none] = ret ((singles n).map lI) := by
      intro o1 o2 o3 o4 o5 o6 o7
      have : (singles n).map lI = (List.range n).map fun k => .list [nI k] := by simp [singles, lI]
      rw [this]
      refine lcA_all (f := nI) (by simp -implicitDefEqProofs [er]) (by rw [sizeLine_eq, List.length_range]; omega) fun k hk => ?_
      simp -implicitDefEqProofs
    simp -implicitDefEqProofs [er]
    refine Sat.for_ (f := nI) (xs := List.range n) (fun done env S' => ∃ (o1 o2 o3 o4 o5 o6 o7 : Option Sv), env = [some (.c c), some (.d (mM rows sh)), some (.d (nI n)), some (.d (.str (mM rows sh).shown)), some (.d (.tuple (E.map tN))), o1, o2, o3, o4, o5, o6, o7, none]) ⟨_, _, _, _, _, _, _, rfl⟩ ?_ ?_
    · rintro done x rest env S Q he ⟨o1, o2, o3, o4, o5, o6, o7, rfl⟩ hQ
      obtain ⟨_, hx⟩ := range_split he
      simp -implicitDefEqProofs [er]
      refine Sat.for0 (f := nI) (xs := List.range n) (fun done env S' => ∃ (o1 o3 o4 o5 o6 o7 : Option Sv), env = [some (.c c), some (.d (mM rows sh)), some (.d (nI n)), some (.d (.str (mM rows sh).shown)), some (.d (.tuple (E.map tN))), o1, some (.d (nI x)), o3, o4, o5, o6, o7, none]) ⟨_, _, _, _, _, _, rfl⟩ ?_ ?_
      · rintro d2 y rest2 env S Q he2 ⟨o1, o3, o4, o5, o6, o7, rfl⟩ hQ
        obtain ⟨_, hy⟩ := range_split he2
        have sl : (singles n).length = n := by simp [singles]
        have e1 := law_merged_eq (one := x) (far := y) (singles_cls n) h8 (by omega)
        have C2 := (singles_cls n).merged x y
        have ml := merged_len (singles_cls n) (far := y) hx
        obtain ⟨w, e3, ds, rfl, D⟩ := closed_ok M C2 (by omega)
        obtain ⟨p, e4, K⟩ := drawn_ok M hx hy
        have e5 := told_of_eq D.cls h8 (by have := D.len; omega)
        rw [K.sameC (fun a b ha hb => duo_rel hx hy ha hb) D] at e5
        have k2 := ik true p K.part
        rw [K.kept M] at k2
        simp only [if_true, Bool.not_true] at k2
        have r3 := repr_t (bs := [8]) (K.part.text h8)
        simp -implicitDefEqProofs [-gDD_eq, c1, e1, e3, e5, e4, k2, r3]
        exact Sat.ret (hQ _ _ ⟨_, _, _, _, _, _, rfl⟩)
      · rintro env S4 ⟨o1, o3, o4, o5, o6, o7, rfl⟩
        exact hQ _ _ ⟨_, _, _, _, _, _, _, rfl⟩
    · rintro env S4 ⟨o1, o2, o3, o4, o5, o6, o7, rfl⟩
      simp -implicitDefEqProofs [r1]
      exact Sat.ret rfl
end
theorem hand_right_eq : F__law_hand_right [] = ret (vB true) := by
  funext S
  kernel_rfl
theorem law_eq (ns : List Int) (hl : ns.length ≤ 63) : ∃ S, F_law [.s ns] [] = .ok (.d (.bool true)) S := by
  have main : Sat (F_law [.s ns]) [] fun v _ => v = .d (.bool true) := by
    refine Sat.runF ?_
    unfold g_law startE
    obtain ⟨tn, htn⟩ : ∃ tn : Nat, (3 : Int) + min (ns.length : Int) 4 = (tn : Int) ∧ tn ≤ 9 := ⟨3 + min ns.length 4, by omega, by omega⟩
    have er := rng_nat tn (by omega)
    have hh := hand_right_eq
    simp -implicitDefEqProofs [htn.1, er]
    refine Sat.for_ (f := nI) (xs := List.range tn) (fun done env S => ∃ (a b : Option Sv), env = [some (.s ns), a, b]) ⟨none, none, rfl⟩ ?_ ?_
    · rintro done k rest env S Q he ⟨a, b, rfl⟩ hQ
      obtain ⟨_, hk⟩ := range_split he
      simp -implicitDefEqProofs
      refine Sat.l (Sat.mk (begun_sat (S := S) (ns := ns) (k := k) hl (by omega))) ?_
      rintro v S1 ⟨hv, hG1, hl1⟩
      rw [hv]
      generalize S.length = C at hG1
      simp -implicitDefEqProofs
      refine Sat.liftB (frame_sat (most := 6) (wide := 3) hG1 (by omega) (by omega) (by omega) (by omega) (by omega)) ?_
      rintro v S3 ⟨rows, sh, n, l, hv, M, hnm, hlw, _, hG3, hl3⟩
      rw [hv]
      refine Sat.liftB (is_told_sat M hnm hG3 (by omega)) ?_
      rintro v S4 hv
      rw [hv]
      simp -implicitDefEqProofs [vB]
      exact Sat.ret (hQ _ _ ⟨_, _, rfl⟩)
    · rintro env S' ⟨a, b, rfl⟩
      simp -implicitDefEqProofs [hh, vB]
      exact Sat.ret rfl
  obtain ⟨v, S, e, rfl⟩ := main.ok
  exact ⟨S, e⟩
end KG


set_option Elab.async false
set_option linter.all false
set_option maxRecDepth 100000
set_option maxHeartbeats 0
namespace KG
open PySem PySem.Spec PyProof.Rows L2 KP
def fn : List He.DefD := [⟨("is_whole", none), "is_whole", "is_whole", defArgs s_is_whole, defBody s_is_whole, defScope s_is_whole, [], []⟩,
  ⟨("is_line", none), "is_line", "is_line", defArgs s_is_line, defBody s_is_line, defScope s_is_line, [], []⟩,
  ⟨("size_of", none), "size_of", "size_of", defArgs s_size_of, defBody s_size_of, defScope s_size_of, [], []⟩,
  ⟨("letters_of", none), "letters_of", "letters_of", defArgs s_letters_of, defBody s_letters_of, defScope s_letters_of, [], []⟩,
  ⟨("numbered", none), "numbered", "numbered", defArgs s_numbered, defBody s_numbered, defScope s_numbered, [], []⟩,
  ⟨("blocks_of", none), "blocks_of", "blocks_of", defArgs s_blocks_of, defBody s_blocks_of, defScope s_blocks_of, [], []⟩,
  ⟨("merged", none), "merged", "merged", defArgs s_merged, defBody s_merged, defScope s_merged, [], []⟩,
  ⟨("_law_begun", none), "_law_begun", "_law_begun", defArgs s__law_begun, defBody s__law_begun, defScope s__law_begun, [], []⟩,
  ⟨("_law_draw", none), "_law_draw", "_law_draw", defArgs s__law_draw, defBody s__law_draw, defScope s__law_draw, [], []⟩,
  ⟨("_law_told_of", none), "_law_told_of", "_law_told_of", defArgs s__law_told_of, defBody s__law_told_of, defScope s__law_told_of, [], []⟩,
  ⟨("_law_classes", none), "_law_classes", "_law_classes", defArgs s__law_classes, defBody s__law_classes, defScope s__law_classes, [], []⟩,
  ⟨("_law_merged", none), "_law_merged", "_law_merged", defArgs s__law_merged, defBody s__law_merged, defScope s__law_merged, [], []⟩,
  ⟨("_law_is_kept", none), "_law_is_kept", "_law_is_kept", defArgs s__law_is_kept, defBody s__law_is_kept, defScope s__law_is_kept, [], []⟩,
  ⟨("_law_apart", none), "_law_apart", "_law_apart", defArgs s__law_apart, defBody s__law_apart, defScope s__law_apart, [], []⟩,
  ⟨("_law_all_sheets", none), "_law_all_sheets", "_law_all_sheets", defArgs s__law_all_sheets, defBody s__law_all_sheets, defScope s__law_all_sheets, [], []⟩,
  ⟨("_law_numbered", none), "_law_numbered", "_law_numbered", defArgs s__law_numbered, defBody s__law_numbered, defScope s__law_numbered, [], []⟩,
  ⟨("_law_ring", none), "_law_ring", "_law_ring", defArgs s__law_ring, defBody s__law_ring, defScope s__law_ring, [], []⟩,
  ⟨("wrong_in_table", none), "wrong_in_table", "wrong_in_table", defArgs s_wrong_in_table, defBody s_wrong_in_table, defScope s_wrong_in_table, [], []⟩,
  ⟨("need_standing", none), "need_standing", "need_standing", defArgs s_need_standing, defBody s_need_standing, defScope s_need_standing, [], []⟩,
  ⟨("is_parting_of", none), "is_parting_of", "is_parting_of", defArgs s_is_parting_of, defBody s_is_parting_of, defScope s_is_parting_of, [], []⟩,
  ⟨("single_of", none), "single_of", "single_of", defArgs s_single_of, defBody s_single_of, defScope s_single_of, [], []⟩,
  ⟨("joined", none), "joined", "joined", defArgs s_joined, defBody s_joined, defScope s_joined, [], []⟩,
  ⟨("led_to", none), "led_to", "led_to", defArgs s_led_to, defBody s_led_to, defScope s_led_to, [], []⟩,
  ⟨("pairs_in", none), "pairs_in", "pairs_in", defArgs s_pairs_in, defBody s_pairs_in, defScope s_pairs_in, [], []⟩,
  ⟨("_law_of", none), "_law_of", "_law_of", defArgs s__law_of, defBody s__law_of, defScope s__law_of, [], []⟩,
  ⟨("_law_closed", none), "_law_closed", "_law_closed", defArgs s__law_closed, defBody s__law_closed, defScope s__law_closed, [], []⟩,
  ⟨("_law_all_kept", none), "_law_all_kept", "_law_all_kept", defArgs s__law_all_kept, defBody s__law_all_kept, defScope s__law_all_kept, [], []⟩,
  ⟨("_law_sheet", none), "_law_sheet", "_law_sheet", defArgs s__law_sheet, defBody s__law_sheet, defScope s__law_sheet, [], []⟩,
  ⟨("wrong_place", none), "wrong_place", "wrong_place", defArgs s_wrong_place, defBody s_wrong_place, defScope s_wrong_place, [], []⟩,
  ⟨("is_kept_by", none), "is_kept_by", "is_kept_by", defArgs s_is_kept_by, defBody s_is_kept_by, defScope s_is_kept_by, [], []⟩,
  ⟨("kept_over", none), "kept_over", "kept_over", defArgs s_kept_over, defBody s_kept_over, defScope s_kept_over, [], []⟩,
  ⟨("_law_frame", none), "_law_frame", "_law_frame", defArgs s__law_frame, defBody s__law_frame, defScope s__law_frame, [], []⟩,
  ⟨("need_machine", none), "need_machine", "need_machine", defArgs s_need_machine, defBody s_need_machine, defScope s_need_machine, [], []⟩,
  ⟨("drawn_in", none), "drawn_in", "drawn_in", defArgs s_drawn_in, defBody s_drawn_in, defScope s_drawn_in, [], []⟩,
  ⟨("need_parting", none), "need_parting", "need_parting", defArgs s_need_parting, defBody s_need_parting, defScope s_need_parting, [], []⟩,
  ⟨("drawn", none), "drawn", "drawn", defArgs s_drawn, defBody s_drawn, defScope s_drawn, [], []⟩,
  ⟨("kept_in", none), "kept_in", "kept_in", defArgs s_kept_in, defBody s_kept_in, defScope s_kept_in, [], []⟩,
  ⟨("is_kept", none), "is_kept", "is_kept", defArgs s_is_kept, defBody s_is_kept, defScope s_is_kept, [], []⟩,
  ⟨("least_kept", none), "least_kept", "least_kept", defArgs s_least_kept, defBody s_least_kept, defScope s_least_kept, [], []⟩,
  ⟨("kept_partings", none), "kept_partings", "kept_partings", defArgs s_kept_partings, defBody s_kept_partings, defScope s_kept_partings, [], []⟩,
  ⟨("_law_is_told", none), "_law_is_told", "_law_is_told", defArgs s__law_is_told, defBody s__law_is_told, defScope s__law_is_told, [], []⟩,
  ⟨("_law_hand_right", none), "_law_hand_right", "_law_hand_right", defArgs s__law_hand_right, defBody s__law_hand_right, defScope s__law_hand_right, [], []⟩,
  ⟨("law", none), "law", "law", defArgs s_law, defBody s_law, defScope s_law, [], []⟩]
def fa : List He.Fa := [.free "all", .free "bool", .free "enumerate", .free "int", .free "isinstance", .free "len", .free "list", .free "max", .free "min", .free "range", .free "repr", .free "set", .free "sorted", .free "tuple", .int "MOST_LETTERS" 4, .int "MOST_SHOWN" 9, .int "MOST_STANDINGS" 8, .glo "is_whole", .glo "is_line", .glo "size_of", .glo "letters_of", .glo "numbered", .glo "blocks_of", .glo "merged", .glo "_law_begun", .glo "_law_draw", .glo "_law_told_of", .glo "_law_classes", .glo "_law_merged", .glo "_law_is_kept", .glo "_law_apart", .glo "_law_all_sheets", .glo "_law_numbered", .glo "_law_ring", .glo "wrong_in_table", .glo "need_standing", .glo "is_parting_of", .glo "single_of", .glo "joined", .glo "led_to", .glo "pairs_in", .glo "_law_of", .glo "_law_closed", .glo "_law_all_kept", .glo "_law_sheet", .glo "wrong_place", .glo "is_kept_by", .glo "kept_over", .glo "_law_frame", .glo "need_machine", .glo "drawn_in", .glo "need_parting", .glo "drawn", .glo "kept_in", .glo "is_kept", .glo "least_kept", .glo "kept_partings", .glo "_law_is_told", .glo "_law_hand_right", .glo "law"]
theorem fx_of {K : PySem.W.Frag} {h : Heap} {mg : Str → Option Value} (X : K.In h) (G : h.Ns mainGlobals mg) (c : He.SaysD fa fn K) : Fx K mg where
  b_all := He.free_ok X G (c.fact 0 (f := .free "all") rfl)
  b_bool := He.free_ok X G (c.fact 1 (f := .free "bool") rfl)
  b_enumerate := He.free_ok X G (c.fact 2 (f := .free "enumerate") rfl)
  b_int := He.free_ok X G (c.fact 3 (f := .free "int") rfl)
  b_isinstance := He.free_ok X G (c.fact 4 (f := .free "isinstance") rfl)
  b_len := He.free_ok X G (c.fact 5 (f := .free "len") rfl)
  b_list := He.free_ok X G (c.fact 6 (f := .free "list") rfl)
  b_max := He.free_ok X G (c.fact 7 (f := .free "max") rfl)
  b_min := He.free_ok X G (c.fact 8 (f := .free "min") rfl)
  b_range := He.free_ok X G (c.fact 9 (f := .free "range") rfl)
  b_repr := He.free_ok X G (c.fact 10 (f := .free "repr") rfl)
  b_set := He.free_ok X G (c.fact 11 (f := .free "set") rfl)
  b_sorted := He.free_ok X G (c.fact 12 (f := .free "sorted") rfl)
  b_tuple := He.free_ok X G (c.fact 13 (f := .free "tuple") rfl)
  k_MOST_LETTERS := He.int_ok X G (c.fact 14 (f := .int "MOST_LETTERS" 4) rfl)
  k_MOST_SHOWN := He.int_ok X G (c.fact 15 (f := .int "MOST_SHOWN" 9) rfl)
  k_MOST_STANDINGS := He.int_ok X G (c.fact 16 (f := .int "MOST_STANDINGS" 8) rfl)
  m_is_whole := He.glo_ok X G (c.fact 17 (f := .glo "is_whole") rfl)
  d_is_whole := c.def_ 0 (d := ⟨("is_whole", none), "is_whole", "is_whole", defArgs s_is_whole, defBody s_is_whole, defScope s_is_whole, [], []⟩) rfl
  m_is_line := He.glo_ok X G (c.fact 18 (f := .glo "is_line") rfl)
  d_is_line := c.def_ 1 (d := ⟨("is_line", none), "is_line", "is_line", defArgs s_is_line, defBody s_is_line, defScope s_is_line, [], []⟩) rfl
  m_size_of := He.glo_ok X G (c.fact 19 (f := .glo "size_of") rfl)
  d_size_of := c.def_ 2 (d := ⟨("size_of", none), "size_of", "size_of", defArgs s_size_of, defBody s_size_of, defScope s_size_of, [], []⟩) rfl
  m_letters_of := He.glo_ok X G (c.fact 20 (f := .glo "letters_of") rfl)
  d_letters_of := c.def_ 3 (d := ⟨("letters_of", none), "letters_of", "letters_of", defArgs s_letters_of, defBody s_letters_of, defScope s_letters_of, [], []⟩) rfl
  m_numbered := He.glo_ok X G (c.fact 21 (f := .glo "numbered") rfl)
  d_numbered := c.def_ 4 (d := ⟨("numbered", none), "numbered", "numbered", defArgs s_numbered, defBody s_numbered, defScope s_numbered, [], []⟩) rfl
  m_blocks_of := He.glo_ok X G (c.fact 22 (f := .glo "blocks_of") rfl)
  d_blocks_of := c.def_ 5 (d := ⟨("blocks_of", none), "blocks_of", "blocks_of", defArgs s_blocks_of, defBody s_blocks_of, defScope s_blocks_of, [], []⟩) rfl
  m_merged := He.glo_ok X G (c.fact 23 (f := .glo "merged") rfl)
  d_merged := c.def_ 6 (d := ⟨("merged", none), "merged", "merged", defArgs s_merged, defBody s_merged, defScope s_merged, [], []⟩) rfl
  m__law_begun := He.glo_ok X G (c.fact 24 (f := .glo "_law_begun") rfl)
  d__law_begun := c.def_ 7 (d := ⟨("_law_begun", none), "_law_begun", "_law_begun", defArgs s__law_begun, defBody s__law_begun, defScope s__law_begun, [], []⟩) rfl
  m__law_draw := He.glo_ok X G (c.fact 25 (f := .glo "_law_draw") rfl)
  d__law_draw := c.def_ 8 (d := ⟨("_law_draw", none), "_law_draw", "_law_draw", defArgs s__law_draw, defBody s__law_draw, defScope s__law_draw, [], []⟩) rfl
  m__law_told_of := He.glo_ok X G (c.fact 26 (f := .glo "_law_told_of") rfl)
  d__law_told_of := c.def_ 9 (d := ⟨("_law_told_of", none), "_law_told_of", "_law_told_of", defArgs s__law_told_of, defBody s__law_told_of, defScope s__law_told_of, [], []⟩) rfl
  m__law_classes := He.glo_ok X G (c.fact 27 (f := .glo "_law_classes") rfl)
  d__law_classes := c.def_ 10 (d := ⟨("_law_classes", none), "_law_classes", "_law_classes", defArgs s__law_classes, defBody s__law_classes, defScope s__law_classes, [], []⟩) rfl
  m__law_merged := He.glo_ok X G (c.fact 28 (f := .glo "_law_merged") rfl)
  d__law_merged := c.def_ 11 (d := ⟨("_law_merged", none), "_law_merged", "_law_merged", defArgs s__law_merged, defBody s__law_merged, defScope s__law_merged, [], []⟩) rfl
  m__law_is_kept := He.glo_ok X G (c.fact 29 (f := .glo "_law_is_kept") rfl)
  d__law_is_kept := c.def_ 12 (d := ⟨("_law_is_kept", none), "_law_is_kept", "_law_is_kept", defArgs s__law_is_kept, defBody s__law_is_kept, defScope s__law_is_kept, [], []⟩) rfl
  m__law_apart := He.glo_ok X G (c.fact 30 (f := .glo "_law_apart") rfl)
  d__law_apart := c.def_ 13 (d := ⟨("_law_apart", none), "_law_apart", "_law_apart", defArgs s__law_apart, defBody s__law_apart, defScope s__law_apart, [], []⟩) rfl
  m__law_all_sheets := He.glo_ok X G (c.fact 31 (f := .glo "_law_all_sheets") rfl)
  d__law_all_sheets := c.def_ 14 (d := ⟨("_law_all_sheets", none), "_law_all_sheets", "_law_all_sheets", defArgs s__law_all_sheets, defBody s__law_all_sheets, defScope s__law_all_sheets, [], []⟩) rfl
  m__law_numbered := He.glo_ok X G (c.fact 32 (f := .glo "_law_numbered") rfl)
  d__law_numbered := c.def_ 15 (d := ⟨("_law_numbered", none), "_law_numbered", "_law_numbered", defArgs s__law_numbered, defBody s__law_numbered, defScope s__law_numbered, [], []⟩) rfl
  m__law_ring := He.glo_ok X G (c.fact 33 (f := .glo "_law_ring") rfl)
  d__law_ring := c.def_ 16 (d := ⟨("_law_ring", none), "_law_ring", "_law_ring", defArgs s__law_ring, defBody s__law_ring, defScope s__law_ring, [], []⟩) rfl
  m_wrong_in_table := He.glo_ok X G (c.fact 34 (f := .glo "wrong_in_table") rfl)
  d_wrong_in_table := c.def_ 17 (d := ⟨("wrong_in_table", none), "wrong_in_table", "wrong_in_table", defArgs s_wrong_in_table, defBody s_wrong_in_table, defScope s_wrong_in_table, [], []⟩) rfl
  m_need_standing := He.glo_ok X G (c.fact 35 (f := .glo "need_standing") rfl)
  d_need_standing := c.def_ 18 (d := ⟨("need_standing", none), "need_standing", "need_standing", defArgs s_need_standing, defBody s_need_standing, defScope s_need_standing, [], []⟩) rfl
  m_is_parting_of := He.glo_ok X G (c.fact 36 (f := .glo "is_parting_of") rfl)
  d_is_parting_of := c.def_ 19 (d := ⟨("is_parting_of", none), "is_parting_of", "is_parting_of", defArgs s_is_parting_of, defBody s_is_parting_of, defScope s_is_parting_of, [], []⟩) rfl
  m_single_of := He.glo_ok X G (c.fact 37 (f := .glo "single_of") rfl)
  d_single_of := c.def_ 20 (d := ⟨("single_of", none), "single_of", "single_of", defArgs s_single_of, defBody s_single_of, defScope s_single_of, [], []⟩) rfl
  m_joined := He.glo_ok X G (c.fact 38 (f := .glo "joined") rfl)
  d_joined := c.def_ 21 (d := ⟨("joined", none), "joined", "joined", defArgs s_joined, defBody s_joined, defScope s_joined, [], []⟩) rfl
  m_led_to := He.glo_ok X G (c.fact 39 (f := .glo "led_to") rfl)
  d_led_to := c.def_ 22 (d := ⟨("led_to", none), "led_to", "led_to", defArgs s_led_to, defBody s_led_to, defScope s_led_to, [], []⟩) rfl
  m_pairs_in := He.glo_ok X G (c.fact 40 (f := .glo "pairs_in") rfl)
  d_pairs_in := c.def_ 23 (d := ⟨("pairs_in", none), "pairs_in", "pairs_in", defArgs s_pairs_in, defBody s_pairs_in, defScope s_pairs_in, [], []⟩) rfl
  m__law_of := He.glo_ok X G (c.fact 41 (f := .glo "_law_of") rfl)
  d__law_of := c.def_ 24 (d := ⟨("_law_of", none), "_law_of", "_law_of", defArgs s__law_of, defBody s__law_of, defScope s__law_of, [], []⟩) rfl
  m__law_closed := He.glo_ok X G (c.fact 42 (f := .glo "_law_closed") rfl)
  d__law_closed := c.def_ 25 (d := ⟨("_law_closed", none), "_law_closed", "_law_closed", defArgs s__law_closed, defBody s__law_closed, defScope s__law_closed, [], []⟩) rfl
  m__law_all_kept := He.glo_ok X G (c.fact 43 (f := .glo "_law_all_kept") rfl)
  d__law_all_kept := c.def_ 26 (d := ⟨("_law_all_kept", none), "_law_all_kept", "_law_all_kept", defArgs s__law_all_kept, defBody s__law_all_kept, defScope s__law_all_kept, [], []⟩) rfl
  m__law_sheet := He.glo_ok X G (c.fact 44 (f := .glo "_law_sheet") rfl)
  d__law_sheet := c.def_ 27 (d := ⟨("_law_sheet", none), "_law_sheet", "_law_sheet", defArgs s__law_sheet, defBody s__law_sheet, defScope s__law_sheet, [], []⟩) rfl
  m_wrong_place := He.glo_ok X G (c.fact 45 (f := .glo "wrong_place") rfl)
  d_wrong_place := c.def_ 28 (d := ⟨("wrong_place", none), "wrong_place", "wrong_place", defArgs s_wrong_place, defBody s_wrong_place, defScope s_wrong_place, [], []⟩) rfl
  m_is_kept_by := He.glo_ok X G (c.fact 46 (f := .glo "is_kept_by") rfl)
  d_is_kept_by := c.def_ 29 (d := ⟨("is_kept_by", none), "is_kept_by", "is_kept_by", defArgs s_is_kept_by, defBody s_is_kept_by, defScope s_is_kept_by, [], []⟩) rfl
  m_kept_over := He.glo_ok X G (c.fact 47 (f := .glo "kept_over") rfl)
  d_kept_over := c.def_ 30 (d := ⟨("kept_over", none), "kept_over", "kept_over", defArgs s_kept_over, defBody s_kept_over, defScope s_kept_over, [], []⟩) rfl
  m__law_frame := He.glo_ok X G (c.fact 48 (f := .glo "_law_frame") rfl)
  d__law_frame := c.def_ 31 (d := ⟨("_law_frame", none), "_law_frame", "_law_frame", defArgs s__law_frame, defBody s__law_frame, defScope s__law_frame, [], []⟩) rfl
  m_need_machine := He.glo_ok X G (c.fact 49 (f := .glo "need_machine") rfl)
  d_need_machine := c.def_ 32 (d := ⟨("need_machine", none), "need_machine", "need_machine", defArgs s_need_machine, defBody s_need_machine, defScope s_need_machine, [], []⟩) rfl
  m_drawn_in := He.glo_ok X G (c.fact 50 (f := .glo "drawn_in") rfl)
  d_drawn_in := c.def_ 33 (d := ⟨("drawn_in", none), "drawn_in", "drawn_in", defArgs s_drawn_in, defBody s_drawn_in, defScope s_drawn_in, [], []⟩) rfl
  m_need_parting := He.glo_ok X G (c.fact 51 (f := .glo "need_parting") rfl)
  d_need_parting := c.def_ 34 (d := ⟨("need_parting", none), "need_parting", "need_parting", defArgs s_need_parting, defBody s_need_parting, defScope s_need_parting, [], []⟩) rfl
  m_drawn := He.glo_ok X G (c.fact 52 (f := .glo "drawn") rfl)
  d_drawn := c.def_ 35 (d := ⟨("drawn", none), "drawn", "drawn", defArgs s_drawn, defBody s_drawn, defScope s_drawn, [], []⟩) rfl
  m_kept_in := He.glo_ok X G (c.fact 53 (f := .glo "kept_in") rfl)
  d_kept_in := c.def_ 36 (d := ⟨("kept_in", none), "kept_in", "kept_in", defArgs s_kept_in, defBody s_kept_in, defScope s_kept_in, [], []⟩) rfl
  m_is_kept := He.glo_ok X G (c.fact 54 (f := .glo "is_kept") rfl)
  d_is_kept := c.def_ 37 (d := ⟨("is_kept", none), "is_kept", "is_kept", defArgs s_is_kept, defBody s_is_kept, defScope s_is_kept, [], []⟩) rfl
  m_least_kept := He.glo_ok X G (c.fact 55 (f := .glo "least_kept") rfl)
  d_least_kept := c.def_ 38 (d := ⟨("least_kept", none), "least_kept", "least_kept", defArgs s_least_kept, defBody s_least_kept, defScope s_least_kept, [], []⟩) rfl
  m_kept_partings := He.glo_ok X G (c.fact 56 (f := .glo "kept_partings") rfl)
  d_kept_partings := c.def_ 39 (d := ⟨("kept_partings", none), "kept_partings", "kept_partings", defArgs s_kept_partings, defBody s_kept_partings, defScope s_kept_partings, [], []⟩) rfl
  m__law_is_told := He.glo_ok X G (c.fact 57 (f := .glo "_law_is_told") rfl)
  d__law_is_told := c.def_ 40 (d := ⟨("_law_is_told", none), "_law_is_told", "_law_is_told", defArgs s__law_is_told, defBody s__law_is_told, defScope s__law_is_told, [], []⟩) rfl
  m__law_hand_right := He.glo_ok X G (c.fact 58 (f := .glo "_law_hand_right") rfl)
  d__law_hand_right := c.def_ 41 (d := ⟨("_law_hand_right", none), "_law_hand_right", "_law_hand_right", defArgs s__law_hand_right, defBody s__law_hand_right, defScope s__law_hand_right, [], []⟩) rfl
  m_law := He.glo_ok X G (c.fact 59 (f := .glo "law") rfl)
  d_law := c.def_ 42 (d := ⟨("law", none), "law", "law", defArgs s_law, defBody s_law, defScope s_law, [], []⟩) rfl
def names : List PySem.Str := (["PartError", "BadMachine", "BadParting", "BadStanding", "MOST_STANDINGS", "MOST_LETTERS", "MOST_SHOWN", "is_whole", "is_line", "wrong_in_table", "wrong_place", "need_machine", "size_of", "letters_of", "need_standing", "numbered", "is_parting_of", "need_parting", "single_of", "blocks_of", "merged", "joined", "is_kept_by", "led_to", "is_kept", "kept_over", "drawn_in", "drawn", "least_kept", "pairs_in"] : List PySem.Str) ++ (["kept_in", "kept_partings", "_law_begun", "_law_draw", "_law_of", "_law_frame", "_law_told_of", "_law_classes", "_law_merged", "_law_is_kept", "_law_apart", "_law_closed", "_law_all_sheets", "_law_all_kept", "_law_sheet", "_law_numbered", "_law_is_told", "_law_ring", "_law_hand_right"] : List PySem.Str)
abbrev R : PySem.W.OpenRow := PySem.W.OpenLaw.row PySem.Challenge.rw_keptpartings_k05_whole_kept_partings
abbrev hk : PySem.W.Hook := He.hookD 4 fa fn
def ob (s : PySem.W.SharedT) : He.AlD := He.obsDG 4 fa fn (HandSHeadRun.getT s)
theorem ob_eq (s : PySem.W.SharedT) : ob s = hk.obs s.abs := He.obsDG_eq (HandSHeadRun.getT_eq s)
theorem run (w : World) : HandSHeadRun.RunEq R (PySem.W.view R.prog [54]) hk ob 4000 names w := by
  intro os
  kernel_rfl
end KG
open PySem PySem.W PySem.Calls PyProof.Rows
theorem KG.holds_of (hlaw : ∀ ns : List Int, ns.length ≤ 63 → (∀ z ∈ ns, Builtin.Int.intBits z ≤ 1048576) → ∃ S, KG.F_law [.s ns] [] = .ok (.d (.bool true)) S) : PySem.Challenge.rw_keptpartings_k05_whole_kept_partings.Holds := by
  w_on; o_law
  refine HandSHeadRun.head_any (r := OpenLaw.row PySem.Challenge.rw_keptpartings_k05_whole_kept_partings) (q := view (OpenLaw.row PySem.Challenge.rw_keptpartings_k05_whole_kept_partings).prog [54]) (H := KG.hk) (ob := KG.ob) (M := 4000) (loose := KG.names) (d := HandSHeadRun.topDef (OpenLaw.row PySem.Challenge.rw_keptpartings_k05_whole_kept_partings).prog 54) (kwd := []) KG.ob_eq
    (by kernel_rfl) (fun s => by kernel_rfl) KG.run (by kernel_rfl) (by kernel_rfl) (by kernel_rfl) (by rfl) (by first | assumption | decide +kernel) (by decide +kernel) ⟨rfl, rfl, rfl, rfl, rfl, by decide +kernel⟩ ?hw ?hc
  case hw => w_witness2
  case hc =>
    refine KP.walk_ofGE (l := PySem.Challenge.rw_keptpartings_k05_whole_kept_partings) (n := 63) (k := 8) (x := "script") (CX := L2.CX0) rfl (by decide) (by kernel_rfl) ⟨rfl, by decide, by decide⟩ ?F (fun _ _ _ _ z => z)
    intro w mg fa h Y G hmg0
    obtain ⟨K, KX, c⟩ := Y
    have hmg : mg ("law" : PySem.Str) = some (.ref fa) := by
      have e : (HandSHeadRun.topDef (OpenLaw.row PySem.Challenge.rw_keptpartings_k05_whole_kept_partings).prog 54).name = ("law" : PySem.Str) := by kernel_rfl
      rw [← e]
      exact hmg0
    have fx := KG.fx_of KX G c
    have e := hmg.symm.trans fx.m_law
    cases e
    obtain ⟨fd, D⟩ := fx.d_law
    have b := L2.FunD.bindsA (ps := ["script"]) D fun _ _ _ _ _ _ us hl => match us, hl with | [_], _ => rfl
    exact ⟨K, fd, _, KX, fun s v => b s [v] rfl, fun H a ns hl hb hO hS => KP.law_sp' hO hS (hlaw ns hl hb), fun base _ _ => KG.ok_law fx D⟩


theorem PySem.Challenge.cw_keptpartings_k05_whole_kept_partings_holds : PySem.Challenge.rw_keptpartings_k05_whole_kept_partings.Holds := by
  exact KG.holds_of fun ns hl hb => KG.law_eq ns hl
