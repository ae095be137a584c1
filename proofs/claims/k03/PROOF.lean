import PyProof.Rows.All
import Wide.All
import OpenK.AllK
import Wide.FinOn
import HandS.ExcIs
import HandS.ForMost
import HandS.ForExc
import HandS.Zip
import HandS.Star
import HandS.SortInts
import HandS.TupMul
import HandS.IsInst
import HandS.SetKeys
import HandS.Wide
import HandS.ListEq
import HandS.Flow
import HandS.HeadHook1
import HandS.Lambda
import HandS.HeadHook4
import KE.GoesEnum
import KE.GoesMore
import PyProof.DictMoreH
import KE.KIndexOf
import HandS.ExcInit
import HandS.ExcField
import KE.DataEq
import KE.DataMinMax
import KE.DataFind
import KE.DatumIndex
import PyProof.ReprRoads
import HandS.Conv
import HandS.EndBits
import HandS.TupLen
import HandS.WordsDict
import HandS.Defaults
import HandS.Head0
import HandS.Head1
import HandS.Head2
import HandS.HeadEnd
import HandS.HeadHook2
import HandS.DictComp
import HandS.SortOrd
import HandS.RaiseMore
import HandS.TupAny
import HandS.Nested
import HandS.TryMany
import HandS.EndTab
import KE.KDflt
import HandS.Iter
import HandS.DictTup
import PyProof.StrBlock2
import HandS.Property
import HandS.NamedTupGet
import HandS.HotCalls
import HandS.ExcInitHot
import HandS.Spec
import KE.KUnpackStar
import PyProof.StrCalls6
import HandS.Style
import KE.KRevSl
import HandS.SetBool
import KE.KTupSum
import PyProof.Claim2Refuses
import KE.SortData
import PyProof.TupleOfSeq
import HandS.SetFor
import HandS.Strs
import HandS.TupSets
import PyProof.P3Eq
import HandS.Text
import HandS.Codes
import KE.KDictCopyH
import KE.KWithOwn
import KE.KSuper
import KE.KExcSuper
import KE.KExcInit
import PyProof.ExcBaseAll.OverflowError
import PyProof.ExcBaseAll.LookupError
import HandS.Small
import KE.KDictZip
import KE.GoesZip
import PyProof.ListNew
import HandS.ExcValue
import HandS.TupLe
import KE.KSortTupG
import PySem.Challenge.RW_keptpartings_k03_whole_partings
set_option Elab.async false
set_option linter.all false
set_option maxRecDepth 100000
namespace KP
open PySem PySem.Spec PyProof.Rows L2
inductive Dk where
 | k (kvs : List (Key × PyData))
 | t (kvs : List (List Key × PyData))
inductive Fv where
 | d (p : PyData) | c (n : Nat)
structure Clo where
 f : Addr
 fd : FuncData
 ws : List V
 dv : List V
inductive Sv where
 | d (p : PyData) | l1 (xs : List PyData) | l2 (xss : List (List PyData)) | dd (k : Dk) | c (n : Nat) | s (ns : List Int) | q (y : Clo) (ds : List Fv)
abbrev En := List (Option Sv)
inductive Cd where
 | m (kvs : List (Str × PyData))
 | f (xs : List PyData)
 | o (cls : Str) (fs : List (Str × Fv))
 | l (xs : List PyData)
 | t (x : Str)
 | x (cls : Str) (fs : List (Str × PyData))
 | w (ns : List Nat)
abbrev Sto := List Cd
structure Ex where
 cls : Str
 fs : List (Str × PyData)
inductive R (α : Type) where
 | ok (a : α) (S : Sto) | exc (x : Ex) (S : Sto) | stuck
def R.sat {α : Type} (r : R α) (P : α → Sto → Prop) (E : Ex → Sto → Prop) : Prop := match r with
 | .ok a S => P a S
 | .exc x S => E x S
 | .stuck => False
theorem R.sat.mono {α : Type} {r : R α} {P P' : α → Sto → Prop} {E E' : Ex → Sto → Prop} (h : r.sat P E) (hp : ∀ a S, P a S → P' a S) (he : ∀ x S, E x S → E' x S) : r.sat P' E' := by
 cases r with
 | ok a S => exact hp a S h
 | exc x S => exact he x S h
 | stuck => exact h
abbrev M (α : Type) := Sto → R α
def ret {α : Type} (a : α) : M α := fun S => .ok a S
def bnd {α β : Type} (m : M α) (f : α → M β) : M β := fun S => match m S with
 | .ok a S' => f a S'
 | .exc x S' => .exc x S'
 | .stuck => .stuck
def ofO {α : Type} (o : Option α) : M α := fun S => match o with
 | some a => .ok a S
 | none => .stuck
def no {α : Type} : M α := fun _ => .stuck
theorem Ad {α β : Type} {m : M α} {f : α → M β} {S : Sto} {P : β → Sto → Prop} {E : Ex → Sto → Prop} : (bnd m f S).sat P E ↔ (m S).sat (fun a S' => (f a S').sat P E) E := by
 unfold bnd
 cases m S <;> exact Iff.rfl
theorem Aq {α : Type} {o : Option α} {S : Sto} {P : α → Sto → Prop} {E : Ex → Sto → Prop} : (ofO o S).sat P E ↔ ∃ a, o = some a ∧ P a S := by
 cases o with
 | none => exact ⟨fun h => h.elim, fun ⟨_, h, _⟩ => nomatch h⟩
 | some a => exact ⟨fun h => ⟨a, rfl, h⟩, fun ⟨_, e, h⟩ => by cases e; exact h⟩
inductive Va where
 | d (p : PyData) | c (n : Nat) | s (ns : List Int) | q (y : Clo) (ds : List Fv)
abbrev DF := En → M Va
def Ext (H H' : Hp) : Prop := ∀ a o, H a = some o → H' a = some o
theorem Ext.refl {H : Hp} : Ext H H := fun _ _ e => e
theorem Ext.trans {H H1 H2 : Hp} (a : Ext H H1) (b : Ext H1 H2) : Ext H H2 := fun x o e => b x o (a x o e)
theorem Ext.upd {H : Hp} {p : Addr} {o : HO} (h : H p = none) : Ext H (upd H p o) := fun b x e => by
 rw [upd_ne (ne_of_none e h)]; exact e
open Classical in noncomputable def hz (Mu : Addr → Prop) (H : Hp) : Hp := fun a => if Mu a then none else H a
theorem Aj {Mu : Addr → Prop} {H : Hp} {a : Addr} {o : HO} : hz Mu H a = some o ↔ ¬ Mu a ∧ H a = some o := by
 unfold hz
 by_cases h : Mu a
 ·simp [h]
 ·simp [h]
theorem Dq {Mu : Addr → Prop} {H : Hp} : Ext (hz Mu H) H := fun a o e => (Aj.mp e).2
theorem Ey {Mu : Addr → Prop} {H : Hp} {a : Addr} {o : HO} (h : H a = some o) (n : ¬ Mu a) : hz Mu H a = some o := Aj.mpr ⟨n, h⟩
theorem Q4 {Mu : Addr → Prop} {H H' : Hp} (e : Ext H H') : Ext (hz Mu H) (hz Mu H') := fun a o q => by
 obtain ⟨n, q⟩ := Aj.mp q
 exact Aj.mpr ⟨n, e a o q⟩
theorem Du {Mu Nu : Addr → Prop} {H : Hp} (h : ∀ a o, H a = some o → Nu a → Mu a) : Ext (hz Mu H) (hz Nu H) := fun a o q => by
 obtain ⟨n, q⟩ := Aj.mp q
 exact Aj.mpr ⟨fun z => n (h a o q z), q⟩
theorem Ef {K : PySem.W.Frag} {H H' : Hp} {a : Addr} {xs : List V} (e : Ext H H') (h : SqL K H a xs) : SqL K H' a xs := by
 rcases h with h | h
 ·rcases h with h | ⟨o, h⟩
  ·exact .inl (.inl (e _ _ h))
  ·exact .inl (.inr ⟨o, e _ _ h⟩)
 ·exact .inr h
theorem K8 {K : PySem.W.Frag} {H H' : Hp} {a : Addr} {xs : List V} (e : Ext H H') (h : SqT K H a xs) : SqT K H' a xs := by
 rcases h with h | h
 ·rcases h with h | ⟨o, h⟩
  ·exact .inl (.inl (e _ _ h))
  ·exact .inl (.inr ⟨o, e _ _ h⟩)
 ·exact .inr h
def keyP : Key → PyData
 | .inl i => .int i
 | .inr x => .str x
def keyT (k : List Key) : PyData := .tuple (k.map keyP)
def Rd1 (H : Hp) (a : Addr) (u : HO) (ne : Prop) : Prop := H a = some u ∨ (ne ∧ ∃ o, H a = some (.frz o u))
theorem Rd1.rd {H : Hp} {a : Addr} {u : HO} {ne : Prop} (h : Rd1 H a u ne) : Rd H a u := h.imp id fun h => h.2
theorem Qi {H H' : Hp} {a : Addr} {u : HO} {ne : Prop} (e : Ext H H') (h : Rd1 H a u ne) : Rd1 H' a u ne := by
 rcases h with h | ⟨n, o, h⟩
 ·exact .inl (e _ _ h)
 ·exact .inr ⟨n, o, e _ _ h⟩
structure XKit (K : PySem.W.Frag) (cls : Str) : Prop where
 ex : L2.ExcC K (He.ga K cls)
 no : ∀ c ∈ ["bool", "int", "str", "list", "tuple"], PySem.W.kitOne K (.ref (He.ga K cls)) (.type c) = some false
def isX : List (PyData × PyData) → Bool
 | (.none, _) :: _ => true
 | _ => false
def fkey {α : Type} (gs : List (Str × α)) : List (Key × α) := gs.map fun q => (.inr q.1, q.2)
def ExK (a C : Addr) (d : Option Addr) : HO := .ext fun h => ∃ (oe : Obj) (vs : Array Value), h.get? a = some oe ∧ oe.cls = .ref C ∧ oe.dict = d ∧ oe.data = .fields vs
mutual
inductive Rep (K : PySem.W.Frag) (H : Hp) : V → PyData → Prop
 | non : Rep K H .non .none
 | bl (b : Bool) : Rep K H (.bl b) (.bool b)
 | int (i : Int) : Rep K H (.int i) (.int i)
 | str (x : Str) : Rep K H (.str x) (.str x)
 | lst {a : Addr} {xs : List V} {ds : List PyData} : H a = some (.lst xs) → ds.length ≤ sizeLine → Af K H xs ds → Rep K H (.ref a) (.list ds)
 | tup {a : Addr} {xs : List V} {ds : List PyData} : H a = some (.tup xs) → ds.length ≤ sizeLine → Af K H xs ds → Rep K H (.ref a) (.tuple ds)
 | dcK {a : Addr} {ks : List (Key × V)} {kvs : List (PyData × PyData)} : Rd1 H a (.dK ks) (ks ≠ []) → RepK K H ks kvs → Rep K H (.ref a) (.dict kvs)
 | dcT {a : Addr} {ks : List (List Key × V)} {kvs : List (PyData × PyData)} : Rd1 H a (.dT ks) (ks ≠ []) → RepT K H ks kvs → Rep K H (.ref a) (.dict kvs)
 | exc {a d : Addr} {cls : Str} {gs : List (Str × V)} {ks : List (Key × V)} {kvs : List (PyData × PyData)} : XKit K cls → H a = some (ExK a (He.ga K cls) (some d)) → H d = some (.xd gs) → ks = fkey gs → RepK K H ks kvs → Rep K H (.ref a) (.dict ((.none, .str cls) :: kvs))
 | exc0 {a : Addr} {cls : Str} : XKit K cls → H a = some (ExK a (He.ga K cls) none) → Rep K H (.ref a) (.dict [(.none, .str cls)])
inductive Af (K : PySem.W.Frag) (H : Hp) : List V → List PyData → Prop
 | nil : Af K H [] []
 | cons {v : V} {vs : List V} {d : PyData} {ds : List PyData} : Rep K H v d → Af K H vs ds → Af K H (v :: vs) (d :: ds)
inductive RepK (K : PySem.W.Frag) (H : Hp) : List (Key × V) → List (PyData × PyData) → Prop
 | nil : RepK K H [] []
 | cons {k : Key} {v : V} {vs : List (Key × V)} {d : PyData} {ds : List (PyData × PyData)} : Rep K H v d → RepK K H vs ds → RepK K H ((k, v) :: vs) ((keyP k, d) :: ds)
inductive RepT (K : PySem.W.Frag) (H : Hp) : List (List Key × V) → List (PyData × PyData) → Prop
 | nil : RepT K H [] []
 | cons {k : List Key} {v : V} {vs : List (List Key × V)} {d : PyData} {ds : List (PyData × PyData)} : Rep K H v d → RepT K H vs ds → RepT K H ((k, v) :: vs) ((keyT k, d) :: ds)
end
section
variable {K : PySem.W.Frag} {H H' : Hp}
theorem Rep.ext (e : Ext H H') {v : V} {p : PyData} (h : Rep K H v p) : Rep K H' v p :=
 Rep.rec (motive_1 := fun v p _ => Rep K H' v p) (motive_2 := fun vs ps _ => Af K H' vs ps) (motive_3 := fun vs ps _ => RepK K H' vs ps) (motive_4 := fun vs ps _ => RepT K H' vs ps)
  .non .bl .int .str (fun s l _ ih => .lst (e _ _ s) l ih) (fun s l _ ih => .tup (e _ _ s) l ih) (fun r _ ih => .dcK (Qi e r) ih) (fun r _ ih => .dcT (Qi e r) ih) (fun h0 h1 h2 h3 _ ih => .exc h0 (e _ _ h1) (e _ _ h2) h3 ih) (fun h0 h1 => .exc0 h0 (e _ _ h1)) .nil (fun _ _ i j => .cons i j) .nil (fun _ _ i j => .cons i j) .nil (fun _ _ i j => .cons i j) h
theorem Af.ext (e : Ext H H') : ∀ {vs : List V} {ps : List PyData}, Af K H vs ps → Af K H' vs ps
 | _, _, .nil => .nil
 | _, _, .cons h t => .cons (h.ext e) (Af.ext e t)
theorem Af.length : ∀ {vs : List V} {ps : List PyData}, Af K H vs ps → vs.length = ps.length
 | _, _, .nil => rfl
 | _, _, .cons _ t => congrArg (· + 1) (Af.length t)
theorem Af.get : ∀ {vs : List V} {ps : List PyData} {i : Nat} {p : PyData}, Af K H vs ps → ps[i]? = some p → ∃ v, vs[i]? = some v ∧ Rep K H v p
 | _, _, _, _, .nil, e => by simp at e
 | _, _, 0, _, .cons h _, e => by simp at e; subst e; exact ⟨_, rfl, h⟩
 | _, _, i + 1, p, .cons _ t, e => by
  obtain ⟨v, h1, h2⟩ := Af.get (i := i) (p := p) t (by simpa using e)
  exact ⟨v, by simpa using h1, h2⟩
theorem Af.getV : ∀ {vs : List V} {ps : List PyData} {i : Nat} {v : V}, Af K H vs ps → vs[i]? = some v → ∃ p, ps[i]? = some p ∧ Rep K H v p
 | _, _, _, _, .nil, e => by simp at e
 | _, _, 0, _, .cons h _, e => by simp at e; subst e; exact ⟨_, rfl, h⟩
 | _, _, i + 1, p, .cons _ t, e => by
  obtain ⟨v, h1, h2⟩ := Af.getV (i := i) (v := p) t (by simpa using e)
  exact ⟨v, by simpa using h1, h2⟩
theorem Af.append : ∀ {vs ws : List V} {ps qs : List PyData}, Af K H vs ps → Af K H ws qs → Af K H (vs ++ ws) (ps ++ qs)
 | _, _, _, _, .nil, s => s
 | _, _, _, _, .cons h t, s => .cons h (Af.append t s)
theorem Af.take : ∀ {vs : List V} {ps : List PyData} (n : Nat), Af K H vs ps → Af K H (vs.take n) (ps.take n)
 | _, _, 0, _ => by simpa using Af.nil
 | _, _, _ + 1, .nil => .nil
 | _, _, n + 1, .cons h t => .cons h (Af.take n t)
theorem Af.drop : ∀ {vs : List V} {ps : List PyData} (n : Nat), Af K H vs ps → Af K H (vs.drop n) (ps.drop n)
 | _, _, 0, h => by simpa using h
 | _, _, _ + 1, .nil => .nil
 | _, _, n + 1, .cons _ t => Af.drop n t
theorem Af.set {v : V} {p : PyData} (h : Rep K H v p) : ∀ {vs : List V} {ps : List PyData} (i : Nat), Af K H vs ps → Af K H (vs.set i v) (ps.set i p)
 | _, _, _, .nil => .nil
 | _, _, 0, .cons _ t => .cons h t
 | _, _, i + 1, .cons q t => .cons q (Af.set h i t)
theorem Af.reverse : ∀ {vs : List V} {ps : List PyData}, Af K H vs ps → Af K H vs.reverse ps.reverse
 | _, _, .nil => .nil
 | _, _, .cons h t => by
  rw [List.reverse_cons, List.reverse_cons]
  exact (Af.reverse t).append (.cons h .nil)
theorem Af.split : ∀ {vs : List V} {ps qs : List PyData}, Af K H vs (ps ++ qs) → ∃ a b, vs = a ++ b ∧ Af K H a ps ∧ Af K H b qs
 | vs, [], _, h => ⟨[], vs, rfl, .nil, h⟩
 | _, p :: ps, qs, .cons h t => by
  obtain ⟨a, b, e, h1, h2⟩ := Af.split (ps := ps) t
  exact ⟨_ :: a, b, by rw [e]; rfl, .cons h h1, h2⟩
theorem Af.mem : ∀ {vs : List V} {ps : List PyData} {v : V}, Af K H vs ps → v ∈ vs → ∃ p, p ∈ ps ∧ Rep K H v p
 | _, _, _, .nil, e => by simp at e
 | _, _, v, .cons h t, e => by
  rcases List.mem_cons.mp e with z | z
  ·subst z; exact ⟨_, List.mem_cons_self, h⟩
  ·obtain ⟨p, h1, h2⟩ := Af.mem t z
   exact ⟨p, List.mem_cons_of_mem _ h1, h2⟩
theorem Af.ints : ∀ {vs : List V} {ns : List Int}, Af K H vs (ns.map PyData.int) → vs = ns.map V.int
 | _, [], .nil => rfl
 | _, n :: ns, .cons h t => by
  cases h
  rw [Af.ints t]; rfl
theorem Af.ofInts : ∀ {ns : List Int}, Af K H (ns.map V.int) (ns.map PyData.int)
 | [] => .nil
 | _ :: _ => .cons (.int _) Af.ofInts
theorem Af.bools : ∀ {vs : List V} {ns : List Bool}, Af K H vs (ns.map PyData.bool) → vs = ns.map V.bl
 | _, [], .nil => rfl
 | _, n :: ns, .cons h t => by
  cases h
  rw [Af.bools t]; rfl
end
mutual
def Ma : PyData → Bool
 | .none => true
 | .bool _ => true
 | .int _ => true
 | .str _ => true
 | .tuple xs => G5 xs
 | .list xs => G5 xs
 | .dict _ => false
def G5 : List PyData → Bool
 | [] => true
 | x :: xs => Ma x && G5 xs
end
theorem Rep.dp {K : PySem.W.Frag} {H : Hp} {v : V} {p : PyData} (h : Rep K H v p) : Ma p = true → Dp K H v p :=
 Rep.rec (motive_1 := fun v p _ => Ma p = true → Dp K H v p) (motive_2 := fun vs ps _ => G5 ps = true → DpAll K H vs ps) (motive_3 := fun _ _ _ => True) (motive_4 := fun _ _ _ => True)
  (fun _ => .non) (fun b _ => .bl b) (fun b _ => .int b) (fun b _ => .str b) (fun s l _ ih z => .lst (SqL.of s) (ih (by simpa [Ma] using z))) (fun s l _ ih z => .tup (SqT.of s) (ih (by simpa [Ma] using z)))
  (fun _ _ _ z => by simp [Ma] at z) (fun _ _ _ z => by simp [Ma] at z) (fun _ _ _ _ _ _ z => by simp [Ma] at z) (fun _ _ z => by simp [Ma] at z) (fun _ => .nil) (fun _ _ i j z => by
   simp only [G5, Bool.and_eq_true] at z
   exact .cons (i z.1) (j z.2)) trivial (fun _ _ _ _ => trivial) trivial (fun _ _ _ _ => trivial) h
mutual
def imm : PyData → Bool
 | .none => true
 | .bool _ => true
 | .int _ => true
 | .str _ => true
 | .tuple xs => MF xs
 | .list _ => false
 | .dict _ => false
def MF : List PyData → Bool
 | [] => true
 | x :: xs => imm x && MF xs
end
def MuOk (Mu : Addr → Prop) (H : Hp) : Prop := ∀ a, Mu a → (H a).isSome = true ∧ (∀ xs, H a ≠ some (.tup xs)) ∧ ∀ o u, H a = some (.frz o u) → ∃ ys, u = .tup ys
theorem Rep.imm {K : PySem.W.Frag} {Mu : Addr → Prop} {H : Hp} (m : MuOk Mu H) {v : V} {p : PyData} (h : Rep K H v p) : imm p = true → Rep K (hz Mu H) v p :=
 Rep.rec (motive_1 := fun v p _ => KP.imm p = true → Rep K (hz Mu H) v p) (motive_2 := fun vs ps _ => MF ps = true → Af K (hz Mu H) vs ps) (motive_3 := fun _ _ _ => True) (motive_4 := fun _ _ _ => True)
  (fun _ => .non) (fun b _ => .bl b) (fun b _ => .int b) (fun b _ => .str b) (fun _ _ _ _ z => by simp [KP.imm] at z)
  (fun s l _ ih z => by
   exact .tup (Ey s fun q => (m _ q).2.1 _ s) l (ih (by simpa [KP.imm] using z)))
  (fun _ _ _ z => by simp [KP.imm] at z) (fun _ _ _ z => by simp [KP.imm] at z) (fun _ _ _ _ _ _ z => by simp [KP.imm] at z) (fun _ _ z => by simp [KP.imm] at z) (fun _ => .nil) (fun _ _ i j z => by
   simp only [MF, Bool.and_eq_true] at z
   exact .cons (i z.1) (j z.2)) trivial (fun _ _ _ _ => trivial) trivial (fun _ _ _ _ => trivial) h
theorem Af.imm {K : PySem.W.Frag} {Mu : Addr → Prop} {H : Hp} (m : MuOk Mu H) : ∀ {vs : List V} {ps : List PyData}, Af K H vs ps → MF ps = true → Af K (hz Mu H) vs ps
 | _, _, .nil, _ => .nil
 | _, _, .cons h t, z => by
  simp only [MF, Bool.and_eq_true] at z
  exact .cons (h.imm m z.1) (Af.imm m t z.2)
structure Kp (φ : List Addr) (H : Hp) (φ' : List Addr) (H' : Hp) : Prop where
 pre : φ <+: φ'
 keep : ∀ a o, a ∉ φ → H a = some o → H' a = some o
 new : ∀ a, a ∈ φ' → a ∉ φ → H a = none
theorem Kp.refl {φ : List Addr} {H : Hp} : Kp φ H φ H := ⟨List.prefix_refl _, fun _ _ _ e => e, fun _ h n => absurd h n⟩
theorem Kp.ext {φ : List Addr} {H H' : Hp} (e : Ext H H') : Kp φ H φ H' := ⟨List.prefix_refl _, fun a o _ q => e a o q, fun _ h n => absurd h n⟩
theorem Kp.trans {φ φ1 φ2 : List Addr} {H H1 H2 : Hp} (a : Kp φ H φ1 H1) (b : Kp φ1 H1 φ2 H2) : Kp φ H φ2 H2 := by
 refine ⟨a.pre.trans b.pre, fun x o n e => ?_, fun x h n => ?_⟩
 ·refine b.keep x o (fun z => ?_) (a.keep x o n e)
  have := a.new x z n
  rw [e] at this; cases this
 ·by_cases z : x ∈ φ1
  ·exact a.new x z n
  ·have q := b.new x h z
   cases e : H x with
   | none => rfl
   | some o => rw [a.keep x o n e] at q; cases q
def Mu (G : Addr → Prop) (φ : List Addr) (own : Nat → List Addr) : Addr → Prop := fun a => G a ∨ a ∈ φ ∨ ∃ i, a ∈ own i
def nob : Nat → List Addr := fun _ => []
structure Wd where
 G : Addr → Prop
 H0 : Hp
 φ0 : List Addr
inductive KRep {κ : Type} (K : PySem.W.Frag) (Z : Hp) : List (κ × V) → List (κ × PyData) → Prop
 | nil : KRep K Z [] []
 | cons {k : κ} {v : V} {p : PyData} {t : List (κ × V)} {t' : List (κ × PyData)} : Rep K Z v p → KRep K Z t t' → KRep K Z ((k, v) :: t) ((k, p) :: t')
theorem KRep.ext {κ : Type} {K : PySem.W.Frag} {Z Z' : Hp} (e : Ext Z Z') : ∀ {a : List (κ × V)} {b : List (κ × PyData)}, KRep K Z a b → KRep K Z' a b
 | _, _, .nil => .nil
 | _, _, .cons h t => .cons (h.ext e) (KRep.ext e t)
theorem KRep.length {κ : Type} {K : PySem.W.Frag} {Z : Hp} : ∀ {a : List (κ × V)} {b : List (κ × PyData)}, KRep K Z a b → a.length = b.length
 | _, _, .nil => rfl
 | _, _, .cons _ t => congrArg (· + 1) (KRep.length t)
def UL (K : PySem.W.Frag) (Z H : Hp) (a : Addr) : Dk → Prop
 | .k kvs => ∃ ks, H a = some (.dK ks) ∧ KRep K Z ks kvs
 | .t kvs => ∃ ks, H a = some (.dT ks) ∧ KRep K Z ks kvs
inductive Gi (K : PySem.W.Frag) (Z H : Hp) : List Addr → List (List PyData) → Prop
 | nil : Gi K Z H [] []
 | cons {b : Addr} {us : List V} {xs : List PyData} {bs : List Addr} {xss : List (List PyData)} : H b = some (.lst us) → xs.length ≤ sizeLine → Af K Z us xs → Gi K Z H bs xss → Gi K Z H (b :: bs) (xs :: xss)
theorem Gi.length {K : PySem.W.Frag} {Z H : Hp} : ∀ {bs : List Addr} {xss : List (List PyData)}, Gi K Z H bs xss → bs.length = xss.length
 | _, _, .nil => rfl
 | _, _, .cons _ _ _ t => congrArg (· + 1) (Gi.length t)
theorem Gi.ext {K : PySem.W.Frag} {Z Z' H H' : Hp} (e : Ext Z Z') : ∀ {bs : List Addr} {xss : List (List PyData)}, (∀ b, b ∈ bs → H' b = H b) → Gi K Z H bs xss → Gi K Z' H' bs xss
 | _, _, _, .nil => .nil
 | b :: bs, _, k, .cons h l r t => .cons (by rw [k b List.mem_cons_self]; exact h) l (r.ext e) (Gi.ext e (fun c hc => k c (List.mem_cons_of_mem _ hc)) t)
theorem Yd {φ φ' : List Addr} {n : Nat} {a : Addr} (p : φ <+: φ') (h : φ[n]? = some a) : φ'[n]? = some a := by
 obtain ⟨t, rfl⟩ := p
 rw [List.getElem?_append_left (List.getElem?_eq_some_iff.mp h).1]
 exact h
inductive CRep (K : PySem.W.Frag) (Z : Hp) (φ : List Addr) : List V → List Fv → Prop
 | nil : CRep K Z φ [] []
 | d {v : V} {p : PyData} {t : List V} {t' : List Fv} : Rep K Z v p → CRep K Z φ t t' → CRep K Z φ (v :: t) (.d p :: t')
 | c {a : Addr} {n : Nat} {t : List V} {t' : List Fv} : φ[n]? = some a → CRep K Z φ t t' → CRep K Z φ (.ref a :: t) (.c n :: t')
theorem CRep.ext {K : PySem.W.Frag} {Z Z' : Hp} {φ φ' : List Addr} (e : Ext Z Z') (p : φ <+: φ') : ∀ {t : List V} {t' : List Fv}, CRep K Z φ t t' → CRep K Z' φ' t t'
 | _, _, .nil => .nil
 | _, _, .d h t => .d (h.ext e) (CRep.ext e p t)
 | _, _, .c h t => .c (Yd p h) (CRep.ext e p t)
def LamO (f : Addr) (fd : FuncData) : HO := .ext fun h => ∃ (od : Option Addr) (sl : Array (Option Value)), h.get? f = some (⟨.type "function", od, .func fd, sl⟩ : Obj)
structure CloR (K : PySem.W.Frag) (Z : Hp) (φ : List Addr) (u : V) (y : Clo) (ds : List Fv) : Prop where
 u : u = .ref y.f
 o : Z y.f = some (LamO y.f y.fd)
 c : ∃ c, y.fd.code = .ref c ∧ Z c = some (LamX.CodeO c y.fd.qualname)
 d : (y.fd.defaults = .none ∧ y.dv = []) ∨ ∃ t, y.fd.defaults = .ref t ∧ Z t = some (.tup y.dv)
 w : CRep K Z φ y.ws ds
theorem CloR.ext {K : PySem.W.Frag} {Z Z' : Hp} {φ φ' : List Addr} {u : V} {y : Clo} {ds : List Fv} (h : CloR K Z φ u y ds) (e : Ext Z Z') (p : φ <+: φ') : CloR K Z' φ' u y ds :=
 ⟨h.u, e _ _ h.o, let ⟨c, h1, h2⟩ := h.c; ⟨c, h1, e _ _ h2⟩, h.d.imp id fun ⟨t, h1, h2⟩ => ⟨t, h1, e _ _ h2⟩, h.w.ext e p⟩
def M6 (K : PySem.W.Frag) (Z : Hp) (φ : List Addr) (H : Hp) (u : V) (F : List Addr) : Sv → Prop
 | .d p => Rep K Z u p ∧ F = []
 | .l1 xs => ∃ a us, u = .ref a ∧ F = [a] ∧ H a = some (.lst us) ∧ Af K Z us xs ∧ xs.length ≤ sizeLine
 | .l2 xss => ∃ a bs, u = .ref a ∧ F = a :: bs ∧ (a :: bs).Nodup ∧ H a = some (.lst (bs.map V.ref)) ∧ Gi K Z H bs xss ∧ xss.length ≤ sizeLine
 | .dd k => ∃ a, u = .ref a ∧ F = [a] ∧ UL K Z H a k
 | .c n => ∃ a, u = .ref a ∧ φ[n]? = some a ∧ F = []
 | .s ns => (∃ a, u = .ref a ∧ SqL K Z a (ns.map V.int)) ∧ F = []
 | .q y ds => CloR K Z φ u y ds ∧ F = []
inductive IRep (K : PySem.W.Frag) (Z : Hp) (φ : List Addr) : List (Str × V) → List (Str × Fv) → Prop
 | nil : IRep K Z φ [] []
 | d {k : Str} {v : V} {p : PyData} {t : List (Str × V)} {t' : List (Str × Fv)} : Rep K Z v p → IRep K Z φ t t' → IRep K Z φ ((k, v) :: t) ((k, .d p) :: t')
 | c {k : Str} {a : Addr} {n : Nat} {t : List (Str × V)} {t' : List (Str × Fv)} : φ[n]? = some a → IRep K Z φ t t' → IRep K Z φ ((k, .ref a) :: t) ((k, .c n) :: t')
theorem IRep.ext {K : PySem.W.Frag} {Z Z' : Hp} {φ φ' : List Addr} (e : Ext Z Z') (p : φ <+: φ') : ∀ {t : List (Str × V)} {t' : List (Str × Fv)}, IRep K Z φ t t' → IRep K Z' φ' t t'
 | _, _, .nil => .nil
 | _, _, .d h t => .d (h.ext e) (IRep.ext e p t)
 | _, _, .c h t => .c (Yd p h) (IRep.ext e p t)
inductive FRep (K : PySem.W.Frag) (Z : Hp) : List (Str × V) → List (Str × PyData) → Prop
 | nil : FRep K Z [] []
 | cons {k : Str} {v : V} {p : PyData} {t : List (Str × V)} {t' : List (Str × PyData)} : Rep K Z v p → FRep K Z t t' → FRep K Z ((k, v) :: t) ((k, p) :: t')
theorem FRep.ext {K : PySem.W.Frag} {Z Z' : Hp} (e : Ext Z Z') : ∀ {t : List (Str × V)} {t' : List (Str × PyData)}, FRep K Z t t' → FRep K Z' t t'
 | _, _, .nil => .nil
 | _, _, .cons h t => .cons (h.ext e) (FRep.ext e t)
inductive NRep (φ : List Addr) : List V → List Nat → Prop
 | nil : NRep φ [] []
 | cons {a : Addr} {n : Nat} {t : List V} {t' : List Nat} : φ[n]? = some a → NRep φ t t' → NRep φ (.ref a :: t) (n :: t')
theorem NRep.ext {φ φ' : List Addr} (p : φ <+: φ') : ∀ {t : List V} {t' : List Nat}, NRep φ t t' → NRep φ' t t'
 | _, _, .nil => .nil
 | _, _, .cons h t => .cons (Yd p h) (NRep.ext p t)
theorem NRep.length {φ : List Addr} : ∀ {t : List V} {t' : List Nat}, NRep φ t t' → t.length = t'.length
 | _, _, .nil => rfl
 | _, _, .cons _ t => congrArg (· + 1) (NRep.length t)
def tabP (K : PySem.W.Frag) (x : Str) : Option Addr := some (He.cT K (x, none)).2
def lamN (x : Str) : Str := x ++ ".<locals>." ++ "<lambda>"
def Wu (K : PySem.W.Frag) (Z : Hp) (φ : List Addr) (H : Hp) (a : Addr) : Cd → Prop
 | .m kvs => ∃ ks : List (Key × V), H a = some (.dK ks) ∧ KRep K Z ks (kvs.map fun p => ((Sum.inr p.1 : Key), p.2))
 | .f xs => ∃ (o : Obj) (us : List V), H a = some (.frz o (.tup us)) ∧ o.dict = none ∧ Af K Z us xs ∧ xs.length ≤ sizeLine
 | .l xs => ∃ us : List V, H a = some (.lst us) ∧ Af K Z us xs ∧ xs.length ≤ sizeLine
 | .o cls fs => ∃ (dx : Addr) (vs : List (Str × V)), H a = some (.ins (He.ga K cls) dx vs) ∧ IRep K Z φ vs fs
 | .t x => ∃ ps : Array Value, tabP K x = some a ∧ H a = some (.tbl ps) ∧ TriplesOk ps.toList ∧ ∀ (pos : Pos) (cv : Value), codeAmong pos ps.toList = some cv → ∃ c, cv = .ref c ∧ Z c = some (LamX.CodeO c (lamN x))
 | .x cls fs => ∃ d : Option Addr, H a = some (ExK a (He.ga K cls) d) ∧ ((d = none ∧ fs = []) ∨ ∃ dx vs, d = some dx ∧ Z dx = some (.xd vs) ∧ FRep K Z vs fs)
 | .w ns => ∃ us : List V, H a = some (.lst us) ∧ NRep φ us ns ∧ ns.length ≤ sizeLine
def ZX (K : PySem.W.Frag) (Z : Hp) (φ : List Addr) (S : Sto) (H : Hp) : Prop :=
 φ.length = S.length ∧ ∀ (n : Nat) (c : Cd) (a : Addr), S[n]? = some c → φ[n]? = some a → Wu K Z φ H a c
theorem M6.ext {K : PySem.W.Frag} {Z Z' : Hp} {φ φ' : List Addr} {H H' : Hp} {u : V} {F : List Addr} {sv : Sv} (e : Ext Z Z') (p : φ <+: φ') (k : ∀ a, a ∈ F → H' a = H a) (h : M6 K Z φ H u F sv) : M6 K Z' φ' H' u F sv := by
 cases sv with
 | d q => exact ⟨h.1.ext e, h.2⟩
 | l1 xs =>
  obtain ⟨a, us, h1, h2, h3, h4, h5⟩ := h
  exact ⟨a, us, h1, h2, by rw [k a (by rw [h2]; simp)]; exact h3, h4.ext e, h5⟩
 | l2 xss =>
  obtain ⟨a, bs, h1, h2, h3, h4, h5, h6⟩ := h
  exact ⟨a, bs, h1, h2, h3, by rw [k a (by rw [h2]; simp)]; exact h4, h5.ext e fun b hb => k b (by rw [h2]; exact List.mem_cons_of_mem _ hb), h6⟩
 | dd d =>
  obtain ⟨a, h1, h2, h3⟩ := h
  refine ⟨a, h1, h2, ?_⟩
  have ka := k a (by rw [h2]; simp)
  cases d with
  | k kvs => obtain ⟨ks, q1, q2⟩ := h3; exact ⟨ks, by rw [ka]; exact q1, q2.ext e⟩
  | t kvs => obtain ⟨ks, q1, q2⟩ := h3; exact ⟨ks, by rw [ka]; exact q1, q2.ext e⟩
 | c n =>
  obtain ⟨a, h1, h2, h3⟩ := h
  obtain ⟨t, rfl⟩ := p
  exact ⟨a, h1, by rw [List.getElem?_append_left (List.getElem?_eq_some_iff.mp h2).1]; exact h2, h3⟩
 | s ns =>
  obtain ⟨⟨a, h1, h2⟩, h3⟩ := h
  exact ⟨⟨a, h1, Ef e h2⟩, h3⟩
 | q y ds => exact ⟨h.1.ext e p, h.2⟩
theorem Wu.ext {K : PySem.W.Frag} {Z Z' H H' : Hp} {φ φ' : List Addr} {a : Addr} {c : Cd} (e : Ext Z Z') (k : H' a = H a) (h : Wu K Z φ H a c) (p : φ <+: φ' := by first | exact List.prefix_refl _ | exact List.prefix_append _ _ | assumption) : Wu K Z' φ' H' a c := by
 cases c with
 | m kvs => obtain ⟨ks, q1, q2⟩ := h; exact ⟨ks, by rw [k]; exact q1, q2.ext e⟩
 | f xs => obtain ⟨o, us, q1, q2, q3, q4⟩ := h; exact ⟨o, us, by rw [k]; exact q1, q2, q3.ext e, q4⟩
 | o cls fs => obtain ⟨dx, vs, q1, q2⟩ := h; exact ⟨dx, vs, by rw [k]; exact q1, q2.ext e p⟩
 | l xs => obtain ⟨us, q1, q2, q3⟩ := h; exact ⟨us, by rw [k]; exact q1, q2.ext e, q3⟩
 | t x =>
  obtain ⟨ps, q1, q2, q3, q4⟩ := h
  refine ⟨ps, q1, by rw [k]; exact q2, q3, fun pos cv hc => ?_⟩
  obtain ⟨c, e1, e2⟩ := q4 pos cv hc
  exact ⟨c, e1, e _ _ e2⟩
 | x cls fs =>
  obtain ⟨d, q1, q2⟩ := h
  exact ⟨d, by rw [k]; exact q1, q2.imp id fun ⟨dx, vs, e1, e2, e3⟩ => ⟨dx, vs, e1, e _ _ e2, e3.ext e⟩⟩
 | w ns => obtain ⟨us, q1, q2, q3⟩ := h; exact ⟨us, by rw [k]; exact q1, q2.ext p, q3⟩
structure Rel (K : PySem.W.Frag) (W : Wd) (φ : List Addr) (own : Nat → List Addr) (env : En) (S : Sto) (σ : L2.St) (H : Hp) : Prop where
 disj : ∀ i j a, a ∈ own i → a ∈ own j → i = j
 apart : ∀ i a, a ∈ own i → a ∉ φ
 ndφ : φ.Nodup
 gd : ∀ a, W.G a → a ∉ φ ∧ ∀ i, a ∉ own i
 mu : MuOk (Mu W.G φ own) H
 len : σ.length = env.length
 slot : ∀ i sv, env[i]? = some (some sv) → ∃ u, σ[i]? = some (some u) ∧ M6 K (hz (Mu W.G φ own) H) φ H u (own i) sv
 cell : ZX K (hz (Mu W.G φ own) H) φ S H
 base : Kp W.φ0 W.H0 φ H
 newF : ∀ i a, a ∈ own i → W.H0 a = none
theorem MuOk.ext {Mu : Addr → Prop} {H H' : Hp} (m : MuOk Mu H) (e : ∀ a o, Mu a → H a = some o → H' a = some o) : MuOk Mu H' := fun a ha => by
 obtain ⟨h1, h2, h3⟩ := m a ha
 obtain ⟨o, ho⟩ := Option.isSome_iff_exists.mp h1
 have q := e a o ha ho
 rw [q]
 rw [ho] at h2 h3
 exact ⟨rfl, h2, h3⟩
theorem MuOk.sub {Mu Nu : Addr → Prop} {H : Hp} (m : MuOk Mu H) (h : ∀ a, Nu a → Mu a) : MuOk Nu H := fun a ha => m a (h a ha)
theorem MuOk.get {Mu : Addr → Prop} {H : Hp} (m : MuOk Mu H) {a : Addr} (h : Mu a) : ∃ o, H a = some o := Option.isSome_iff_exists.mp (m a h).1
section
variable {K : PySem.W.Frag} {W : Wd} {φ : List Addr} {own : Nat → List Addr} {env : En} {S : Sto} {σ : L2.St} {H H' : Hp}
theorem Rel.grow (r : Rel K W φ own env S σ H) (e : Ext H H') : Rel K W φ own env S σ H' where
 disj := r.disj
 apart := r.apart
 ndφ := r.ndφ
 gd := r.gd
 mu := r.mu.ext fun a o _ q => e a o q
 len := r.len
 slot := fun i sv h => by
  obtain ⟨u, h1, h2⟩ := r.slot i sv h
  refine ⟨u, h1, h2.ext (Q4 e) (List.prefix_refl _) fun a ha => ?_⟩
  obtain ⟨o, ho⟩ := r.mu.get (.inr (.inr ⟨i, ha⟩))
  rw [ho, e a o ho]
 cell := ⟨r.cell.1, fun n c a h1 h2 => (r.cell.2 n c a h1 h2).ext (Q4 e) (by
  obtain ⟨o, ho⟩ := r.mu.get (a := a) (.inr (.inl (List.mem_of_getElem? h2)))
  rw [ho, e a o ho])⟩
 base := r.base.trans (Kp.ext e)
 newF := r.newF
theorem Rel.fresh (r : Rel K W φ own env S σ H) {p : Addr} (h : H p = none) : ¬ Mu W.G φ own p := fun z => by
 obtain ⟨o, ho⟩ := r.mu.get z
 rw [h] at ho; cases ho
end
def VRep (K : PySem.W.Frag) (Nu : Addr → Prop) (φ : List Addr) (H : Hp) (u : V) : Va → Prop
 | .d p => Rep K (hz Nu H) u p
 | .c n => ∃ a, u = .ref a ∧ φ[n]? = some a
 | .s ns => ∃ a, u = .ref a ∧ SqL K (hz Nu H) a (ns.map V.int)
 | .q y ds => CloR K (hz Nu H) φ u y ds
inductive Cr (K : PySem.W.Frag) (Nu : Addr → Prop) (φ : List Addr) (H : Hp) : List V → List Va → Prop
 | nil : Cr K Nu φ H [] []
 | cons {u : V} {v : Va} {us : List V} {vs : List Va} : VRep K Nu φ H u v → Cr K Nu φ H us vs → Cr K Nu φ H (u :: us) (v :: vs)
theorem Cr.length {K : PySem.W.Frag} {Nu : Addr → Prop} {φ : List Addr} {H : Hp} : ∀ {us : List V} {vs : List Va}, Cr K Nu φ H us vs → us.length = vs.length
 | _, _, .nil => rfl
 | _, _, .cons _ t => congrArg (· + 1) (Cr.length t)
def Mo (fl : Bool) (G : Addr → Prop) (φ : List Addr) (own : Nat → List Addr) : Addr → Prop := match fl with
 | true => Mu G φ own
 | false => fun a => G a ∨ a ∈ φ
theorem Mo.sub {fl : Bool} {G : Addr → Prop} {φ : List Addr} {own : Nat → List Addr} {a : Addr} (h : Mo fl G φ own a) : Mu G φ own a := by
 cases fl with
 | true => exact h
 | false => exact h.elim .inl fun h => .inr (.inl h)
theorem Mo.cell {fl : Bool} {G : Addr → Prop} {φ : List Addr} {own : Nat → List Addr} {a : Addr} (h : a ∈ φ) : Mo fl G φ own a := by
 cases fl with
 | true => exact .inr (.inl h)
 | false => exact .inr h
theorem Kp.hz {fl : Bool} {G : Addr → Prop} {φ φ' : List Addr} {own : Nat → List Addr} {H H' : Hp} (k : Kp φ H φ' H') : Ext (hz (Mo fl G φ own) H) (hz (Mo fl G φ' own) H') := fun a o q => by
 obtain ⟨n, q⟩ := Aj.mp q
 have na : a ∉ φ := fun z => n (Mo.cell z)
 refine Aj.mpr ⟨fun z => n ?_, k.keep a o na q⟩
 have nn : a ∉ φ' := fun z => by
  have := k.new a z na
  rw [q] at this; cases this
 cases fl with
 | true => exact z.elim .inl fun z => z.elim (fun z => absurd z nn) fun z => .inr (.inr z)
 | false => exact z.elim .inl fun z => absurd z nn
theorem VRep.keep {K : PySem.W.Frag} {fl : Bool} {G : Addr → Prop} {φ φ' : List Addr} {own : Nat → List Addr} {H H' : Hp} {u : V} {v : Va} (k : Kp φ H φ' H') (h : VRep K (Mo fl G φ own) φ H u v) : VRep K (Mo fl G φ' own) φ' H' u v := by
 cases v with
 | d p => exact Rep.ext k.hz h
 | c n =>
  obtain ⟨a, e, q⟩ := h
  obtain ⟨t, rfl⟩ := k.pre
  exact ⟨a, e, by rw [List.getElem?_append_left (List.getElem?_eq_some_iff.mp q).1]; exact q⟩
 | s ns =>
  obtain ⟨a, e, q⟩ := h
  exact ⟨a, e, Ef k.hz q⟩
 | q y ds => exact CloR.ext h k.hz k.pre
theorem Cr.keep {K : PySem.W.Frag} {fl : Bool} {G : Addr → Prop} {φ φ' : List Addr} {own : Nat → List Addr} {H H' : Hp} (k : Kp φ H φ' H') : ∀ {us : List V} {vs : List Va}, Cr K (Mo fl G φ own) φ H us vs → Cr K (Mo fl G φ' own) φ' H' us vs
 | _, _, .nil => .nil
 | _, _, .cons h t => .cons (h.keep k) (Cr.keep k t)
theorem VRep.ext {K : PySem.W.Frag} {Nu : Addr → Prop} {φ : List Addr} {H H' : Hp} {u : V} {v : Va} (e : Ext H H') (h : VRep K Nu φ H u v) : VRep K Nu φ H' u v := by
 cases v with
 | d p => exact Rep.ext (Q4 e) h
 | c n => exact h
 | s ns => obtain ⟨a, q1, q2⟩ := h; exact ⟨a, q1, Ef (Q4 e) q2⟩
 | q y ds => exact CloR.ext h (Q4 e) (List.prefix_refl _)
theorem VRep.less {K : PySem.W.Frag} {Nu Mu : Addr → Prop} {φ : List Addr} {H : Hp} {u : V} {v : Va} (s : ∀ a, Mu a → Nu a) (h : VRep K Nu φ H u v) : VRep K Mu φ H u v := by
 cases v with
 | d p => exact Rep.ext (Du fun a _ _ z => s a z) h
 | c n => exact h
 | s ns => obtain ⟨a, q1, q2⟩ := h; exact ⟨a, q1, Ef (Du fun a _ _ z => s a z) q2⟩
 | q y ds => exact CloR.ext h (Du fun a _ _ z => s a z) (List.prefix_refl _)
structure Ct where
 K : PySem.W.Frag
 mg : Str → Option Value
 ew : WX
def adH (K : PySem.W.Frag) (Z : Hp) (d : Option Addr) (gs : List (Str × PyData)) : Prop := (d = none ∧ gs = []) ∨ ∃ dx vs, d = some dx ∧ Z dx = some (.xd vs) ∧ FRep K Z vs gs
theorem adH.ext {K : PySem.W.Frag} {Z Z' : Hp} {d : Option Addr} {gs : List (Str × PyData)} (e : Ext Z Z') (h : adH K Z d gs) : adH K Z' d gs := by
 rcases h with h | ⟨dx, vs, h1, h2, h3⟩
 ·exact .inl h
 ·exact .inr ⟨dx, vs, h1, e _ _ h2, h3.ext e⟩
def Kh (C : Ct) (Nu : Addr → Prop) (σ : L2.St) (H : Hp) (x : Ex) : Prop := (∀ a d, C.mg x.cls = some (.ref a) → adH C.K (hz Nu H) d x.fs → C.ew (.ref a) d σ H) ∧ (x.cls = "KeyError" → C.mg x.cls = none → ∀ d, C.ew (.type "KeyError") d σ H)
def tI (C : Ct) (fl : Bool) (f : DF) : TE := fun σ H Q => ∃ W φ own env S, Rel C.K W φ own env S σ H ∧
 (f env S).sat (fun v S' => ∀ φ' H' u, Rel C.K W φ' own env S' σ H' → Kp φ H φ' H' → VRep C.K (Mo fl W.G φ' own) φ' H' u v → Q u H')
  (fun x S' => ∀ φ' H', Rel C.K W φ' own env S' σ H' → Kp φ H φ' H' → Kh C (Mu W.G φ' own) σ H' x)
abbrev DFA := En → M (List Va)
def tIA (C : Ct) (fl : Bool) (f : DFA) : TA := fun σ H Q => ∃ W φ own env S, Rel C.K W φ own env S σ H ∧
 (f env S).sat (fun vs S' => ∀ φ' H' us, Rel C.K W φ' own env S' σ H' → Kp φ H φ' H' → Cr C.K (Mo fl W.G φ' own) φ' H' us vs → Q us H')
  (fun x S' => ∀ φ' H', Rel C.K W φ' own env S' σ H' → Kp φ H φ' H' → Kh C (Mu W.G φ' own) σ H' x)
abbrev DB := En → M Bool
def tIB (C : Ct) (f : DB) : TT := fun σ H Q => ∃ W φ own env S, Rel C.K W φ own env S σ H ∧
 (f env S).sat (fun b S' => ∀ φ' H', Rel C.K W φ' own env S' σ H' → Kp φ H φ' H' → Q b H')
  (fun x S' => ∀ φ' H', Rel C.K W φ' own env S' σ H' → Kp φ H φ' H' → Kh C (Mu W.G φ' own) σ H' x)
def E (X : Cx) (ew : WX) (fl : Bool) (e : Expr) (f : DF) : Prop := PE X e (tI ⟨X.K, X.mg, ew⟩ fl f)
def EA (X : Cx) (ew : WX) (fl : Bool) (es : List Expr) (f : DFA) : Prop := PA X es (tIA ⟨X.K, X.mg, ew⟩ fl f)
def EB (X : Cx) (ew : WX) (e : Expr) (f : DB) : Prop := PT X e (tIB ⟨X.K, X.mg, ew⟩ f)
theorem Bf {X : Cx} {e : Expr} {t t' : TE} (h : PE X e t) (i : ∀ σ H Q, t' σ H Q → t σ H Q) : PE X e t' := ⟨fun pins s σ H Q I q => h.run pins s σ H Q I (i _ _ _ q)⟩
theorem Yh {X : Cx} {e : List Expr} {t t' : TA} (h : PA X e t) (i : ∀ σ H Q, t' σ H Q → t σ H Q) : PA X e t' := ⟨fun pos pins s σ H Q I q => h.run pos pins s σ H Q I (i _ _ _ q)⟩
theorem VD {X : Cx} {e : Expr} {t t' : TT} (h : PT X e t) (i : ∀ σ H Q, t' σ H Q → t σ H Q) : PT X e t' := ⟨fun pins s σ H Q I q => h.run pins s σ H Q I (i _ _ _ q)⟩
theorem Zf {X : Cx} {e : List Stmt} {t t' : TS} (h : PSs X e t) (i : ∀ D σ H, t' D σ H → t D σ H) : PSs X e t' := ⟨fun pins s σ H D I q => h.run pins s σ H D I (i _ _ _ q)⟩
theorem DY {X : Cx} {e : Stmt} {t t' : TS} (h : PS X e t) (i : ∀ D σ H, t' D σ H → t D σ H) : PS X e t' := ⟨fun pins s σ H D I q => h.run pins s σ H D I (i _ _ _ q)⟩
def Kl (K : PySem.W.Frag) (r : List V → Hp → VK → Prop) (g : List Va → Option Va) : Prop :=
 ∀ (Nu : Addr → Prop) (φ : List Addr) (H : Hp) (us : List V) (vs : List Va) (w : Va) (Q : VK), MuOk Nu H → Cr K Nu φ H us vs → g vs = some w →
  (∀ H' u', Ext H H' → VRep K Nu φ H' u' w → Q u' H') → r us H Q
def Gz (K : PySem.W.Frag) (r : R2) (g : Va → Va → Option Va) : Prop := Kl K (fun us H Q => ∃ x y, us = [x, y] ∧ r x y H Q) (fun vs => match vs with | [a, b] => g a b | _ => none)
def aco (K : PySem.W.Frag) (r : V → Hp → VK → Prop) (g : Va → Option Va) : Prop := Kl K (fun us H Q => ∃ x, us = [x] ∧ r x H Q) (fun vs => match vs with | [a] => g a | _ => none)
section
variable {X : Cx} {fl : Bool}
theorem Rel.muo {K : PySem.W.Frag} {W : Wd} {φ : List Addr} {own : Nat → List Addr} {env : En} {S : Sto} {σ : L2.St} {H : Hp} (r : Rel K W φ own env S σ H) (fl : Bool) : MuOk (Mo fl W.G φ own) H := r.mu.sub fun _ h => Mo.sub h
end
section
variable {C : Ct} {fl : Bool} {σ : L2.St} {H : Hp}
end
def cN (g : List Va → Option Va) (fa : DFA) : DF := fun env => bnd (fa env) fun vs => ofO (g vs)
def c1 (g : Va → Option Va) (fa : DF) : DF := fun env => bnd (fa env) fun v => ofO (g v)
def c2 (g : Va → Va → Option Va) (fa fb : DF) : DF := fun env => bnd (fa env) fun v => bnd (fb env) fun w => ofO (g v w)
def aNil : DFA := fun _ => ret []
def Aa (f : DF) (fs : DFA) : DFA := fun env => bnd (f env) fun v => bnd (fs env) fun vs => ret (v :: vs)
section
variable {C : Ct} {fl : Bool} {σ : L2.St} {H : Hp} {Q : VK}
theorem acA {fa : DF} {g : Va → Option Va} {r : V → Hp → VK → Prop} (pr : aco C.K r g) (h : tI C fl (c1 g fa) σ H Q) : tI C fl fa σ H (fun u H1 => r u H1 Q) := by
 obtain ⟨W, φ, own, env, S, r0, h⟩ := h
 refine ⟨W, φ, own, env, S, r0, (Ad.mp h).mono (fun v S1 q φ1 H1 u r1 k1 v1 => ?_) fun _ _ q => q⟩
 obtain ⟨w, e, q⟩ := Aq.mp q
 obtain ⟨x, ex, q2⟩ := pr (Mo fl W.G φ1 own) φ1 H1 [u] [v] w Q (r1.muo fl) (.cons v1 .nil) e fun H' u' ee vv => q φ1 H' u' (r1.grow ee) (k1.trans (Kp.ext ee)) vv
 cases ex
 exact q2
theorem aaN {fa fb : DF} {g : Va → Va → Option Va} {r : R2} (pr : Gz C.K r g) (h : tI C fl (c2 g fa fb) σ H Q) : tI C fl fa σ H (fun u H1 => tI C fl fb σ H1 fun w H2 => r u w H2 Q) := by
 obtain ⟨W, φ, own, env, S, r0, h⟩ := h
 refine ⟨W, φ, own, env, S, r0, (Ad.mp h).mono (fun v S1 q φ1 H1 u r1 k1 v1 => ?_) fun _ _ q => q⟩
 refine ⟨W, φ1, own, env, S1, r1, (Ad.mp q).mono (fun w S2 q φ2 H2 u2 r2 k2 v2 => ?_) fun x S' q φ' H' r' k' => q φ' H' r' (k1.trans k')⟩
 obtain ⟨z, e, q⟩ := Aq.mp q
 obtain ⟨x, y, ex, q2⟩ := pr (Mo fl W.G φ2 own) φ2 H2 [u, u2] [v, w] z Q (r2.muo fl) (.cons (v1.keep k2) (.cons v2 .nil)) e fun H' u' ee vv => q φ2 H' u' (r2.grow ee) ((k1.trans k2).trans (Kp.ext ee)) vv
 cases ex
 exact q2
theorem Z5 {fa : DFA} {g : List Va → Option Va} {r : List V → Hp → VK → Prop} (pr : Kl C.K r g) (h : tI C fl (cN g fa) σ H Q) : tIA C fl fa σ H (fun us H1 => r us H1 Q) := by
 obtain ⟨W, φ, own, env, S, r0, h⟩ := h
 refine ⟨W, φ, own, env, S, r0, (Ad.mp h).mono (fun v S1 q φ1 H1 u r1 k1 v1 => ?_) fun _ _ q => q⟩
 obtain ⟨w, e, q⟩ := Aq.mp q
 exact pr (Mo fl W.G φ1 own) φ1 H1 u v w Q (r1.muo fl) v1 e fun H' u' ee vv => q φ1 H' u' (r1.grow ee) (k1.trans (Kp.ext ee)) vv
theorem XX {Q : List V → Hp → Prop} (h : tIA C fl aNil σ H Q) : Q [] H := by
 obtain ⟨W, φ, own, env, S, r0, h⟩ := h
 exact h φ H [] r0 Kp.refl .nil
theorem acC {f : DF} {fs : DFA} {Q : List V → Hp → Prop} (h : tIA C fl (Aa f fs) σ H Q) : tI C fl f σ H (fun x H1 => tIA C fl fs σ H1 fun xs H2 => Q (x :: xs) H2) := by
 obtain ⟨W, φ, own, env, S, r0, h⟩ := h
 refine ⟨W, φ, own, env, S, r0, (Ad.mp h).mono (fun v S1 q φ1 H1 u r1 k1 v1 => ?_) fun _ _ q => q⟩
 refine ⟨W, φ1, own, env, S1, r1, (Ad.mp q).mono (fun w S2 q φ2 H2 u2 r2 k2 v2 => ?_) fun x S' q φ' H' r' k' => q φ' H' r' (k1.trans k')⟩
 exact q φ2 H2 (u :: u2) r2 (k1.trans k2) (.cons (v1.keep k2) v2)
end
section
variable {X : Cx} {ew : WX} {fl : Bool} {e a b : Expr} {es : List Expr} {f fa fb : DF} {fs : DFA} {pos p : Pos} {x : Str}
theorem ea_nil : EA X ew fl [] aNil := Yh pa_nil fun _ _ _ h => XX h
theorem ea_cons (h : E X ew fl e f) (ht : EA X ew fl es fs) (hs : starEach (e :: es) X.env = (false, eval e X.env) :: starEach es X.env := by rfl) : EA X ew fl (e :: es) (Aa f fs) :=
 Yh (pa_cons h ht hs) fun _ _ _ h => acC h
theorem Ax {id : String} {r : List V → Hp → VK → Prop} {g : List Va → Option Va} (hc : CallR X (.builtin id) r) (pr : Kl X.K r g) (hg : Gl X x) (hm : X.mg x = none) (hv : bootBuiltins x = some (.builtin id)) (ha : EA X ew fl (e :: es) fs) (hn : x ≠ "__name__" := by decide) (hdb : (x == ("__debug__" : Str)) = false := by decide)
  (he : starEach (e :: es) X.env = (false, eval e X.env) :: starEach es X.env := by rfl) (hpl : (backTo pos (starEach es X.env)).any (·.1) = false := by rfl) : E X ew fl (.Call (.Name x p) (e :: es) [] pos) (cN g fs) :=
 Bf (pe_callB hc hg hm hv ha hn hdb he hpl) fun _ _ _ h => Z5 pr h
theorem Bs {T : String} {r : List V → Hp → VK → Prop} {g : List Va → Option Va} (hc : CallR X (.type T) r) (pr : Kl X.K r g) (hg : Gl X x) (hm : X.mg x = none) (hv : bootBuiltins x = some (.type T)) (ha : EA X ew fl (e :: es) fs) (hn : x ≠ "__name__" := by decide) (hdb : (x == ("__debug__" : Str)) = false := by decide)
  (he : starEach (e :: es) X.env = (false, eval e X.env) :: starEach es X.env := by rfl) (hpl : (backTo pos (starEach es X.env)).any (·.1) = false := by rfl) : E X ew fl (.Call (.Name x p) (e :: es) [] pos) (cN g fs) :=
 Bf (pe_callTy hc hg hm hv ha hn hdb he hpl) fun _ _ _ h => Z5 pr h
theorem e_op {op : Operator} {r : R2} {g : Va → Va → Option Va} (ho : OpR X (binaryOp op) r) (pr : Gz X.K r g) (ha : E X ew fl a fa) (hb : E X ew fl b fb) : E X ew fl (.BinOp a op b pos) (c2 g fa fb) :=
 Bf (pe_op ho ha hb) fun _ _ _ h => aaN pr h
theorem e_un {op : UnaryOp} {r : V → Hp → VK → Prop} {g : Va → Option Va} (ho : UnR X (unaryOp op) r) (pr : aco X.K r g) (ha : E X ew fl a fa) : E X ew fl (.UnaryOp op a pos) (c1 g fa) :=
 Bf (pe_un ho ha) fun _ _ _ h => acA pr h
end
def Dk.data : Dk → PyData
 | .k kvs => .dict (kvs.map fun p => (keyP p.1, p.2))
 | .t kvs => .dict (kvs.map fun p => (keyT p.1, p.2))
theorem KRep.repK {K : PySem.W.Frag} {Z : Hp} : ∀ {ks : List (Key × V)} {kvs : List (Key × PyData)}, KRep K Z ks kvs → RepK K Z ks (kvs.map fun p => (keyP p.1, p.2))
 | _, _, .nil => .nil
 | _, _, .cons h t => .cons h (KRep.repK t)
theorem KRep.repT {K : PySem.W.Frag} {Z : Hp} : ∀ {ks : List (List Key × V)} {kvs : List (List Key × PyData)}, KRep K Z ks kvs → RepT K Z ks (kvs.map fun p => (keyT p.1, p.2))
 | _, _, .nil => .nil
 | _, _, .cons h t => .cons h (KRep.repT t)
theorem UL.rep {K : PySem.W.Frag} {Z Y H : Hp} {a : Addr} {k : Dk} (e : Ext Z Y) (ha : Y a = H a) (h : UL K Z H a k) : Rep K Y (.ref a) k.data := by
 cases k with
 | k kvs => obtain ⟨ks, h1, h2⟩ := h; exact .dcK (.inl (ha.trans h1)) (h2.ext e).repK
 | t kvs => obtain ⟨ks, h1, h2⟩ := h; exact .dcT (.inl (ha.trans h1)) (h2.ext e).repT
def Sv.view : Sv → Option Va
 | .d p => some (.d p)
 | .l1 xs => some (.d (.list xs))
 | .l2 xss => some (.d (.list (xss.map PyData.list)))
 | .dd k => some (.d k.data)
 | .c n => some (.c n)
 | .s ns => some (.s ns)
 | .q y ds => some (.q y ds)
def Sv.still : Sv → Option Va
 | .d p => some (.d p)
 | .c n => some (.c n)
 | .s ns => some (.s ns)
 | .q y ds => some (.q y ds)
 | _ => none
def lk (env : En) (i : Nat) : Option Sv := (env[i]?).join
theorem Tv {env : En} {i : Nat} {sv : Sv} (h : lk env i = some sv) : env[i]? = some (some sv) := by
 unfold lk at h
 cases e : env[i]? with
 | none => rw [e] at h; cases h
 | some o => rw [e] at h; exact congrArg some h
def vT (i : Nat) : DF := fun env => ofO ((lk env i).bind Sv.still)
def vF (i : Nat) : DF := fun env => ofO ((lk env i).bind Sv.view)
def kC (p : PyData) : DF := fun _ => ret (.d p)
def toB : Va → Option Bool
 | .d (.bool b) => some b
 | _ => none
def bV (f : DF) : DB := fun env => bnd (f env) fun v => ofO (toB v)
def bAnd (a b : DB) : DB := fun env => bnd (a env) fun k => if k = true then b env else ret false
def bOr (a b : DB) : DB := fun env => bnd (a env) fun k => if k = true then ret true else b env
def bNot (a : DB) : DB := fun env => bnd (a env) fun k => ret (!k)
def vB (k : Bool) : Va := .d (.bool k)
def eAnd (a b : DF) : DF := fun env => bnd (a env) fun v => bnd (ofO (toB v)) fun k => if k = true then b env else ret (vB false)
def eOr (a b : DF) : DF := fun env => bnd (a env) fun v => bnd (ofO (toB v)) fun k => if k = true then ret (vB true) else b env
def eNot (a : DF) : DF := fun env => bnd (a env) fun v => bnd (ofO (toB v)) fun k => ret (vB (!k))
def eIf (c : DB) (a b : DF) : DF := fun env => bnd (c env) fun k => if k = true then a env else b env
def Qa (g g' : Va → Va → Option Va) (a b c : DF) : DF := fun env => bnd (a env) fun x => bnd (b env) fun y => bnd (ofO (g x y)) fun z => bnd (ofO (toB z)) fun k => if k = true then bnd (c env) fun w => ofO (g' y w) else ret (vB false)
theorem O5 {v : Va} {k : Bool} (h : toB v = some k) : v = vB k := by
 cases v with
 | d p =>
  cases p <;> simp [toB] at h
  subst h; rfl
 | c n => simp [toB] at h
 | s n => simp [toB] at h
 | q y ds => simp [toB] at h
theorem VRep.bool {K : PySem.W.Frag} {Nu : Addr → Prop} {φ : List Addr} {H : Hp} {u : V} {k : Bool} (h : VRep K Nu φ H u (vB k)) : u = .bl k := by
 cases h; rfl
section
variable {C : Ct} {fl : Bool} {σ : L2.St} {H : Hp} {Q : VK}
theorem adM {i : Nat} (h : tI C true (vT i) σ H Q) : tVar i σ H Q := by
 obtain ⟨W, φ, own, env, S, r0, h⟩ := h
 obtain ⟨v, e, h⟩ := Aq.mp h
 obtain ⟨sv, es, e⟩ := Option.bind_eq_some_iff.mp e
 have es := Tv es
 ·skip
  obtain ⟨u, hu, q⟩ := r0.slot i sv es
  refine ⟨u, hu, h φ H u r0 Kp.refl ?_⟩
  cases sv with
  | d p => cases e; exact q.1
  | c n => cases e; obtain ⟨a, q1, q2, _⟩ := q; exact ⟨a, q1, q2⟩
  | s n => cases e; exact q.1
  | q y ds => cases e; exact q.1
  | l1 _ => cases e
  | l2 _ => cases e
  | dd _ => cases e
theorem Vw {K : PySem.W.Frag} {Z Y H : Hp} : ∀ {bs : List Addr} {xss : List (List PyData)}, Ext Z Y → (∀ b, b ∈ bs → Y b = H b) → Gi K Z H bs xss → Af K Y (bs.map V.ref) (xss.map PyData.list)
 | _, _, _, _, .nil => .nil
 | b :: bs, _, e, k, .cons h l r t => .cons (.lst (by rw [k b List.mem_cons_self]; exact h) l (r.ext e)) (Vw e (fun c hc => k c (List.mem_cons_of_mem _ hc)) t)
theorem aeh {i : Nat} (h : tI C false (vF i) σ H Q) : tVar i σ H Q := by
 obtain ⟨W, φ, own, env, S, r0, h⟩ := h
 obtain ⟨v, e, h⟩ := Aq.mp h
 obtain ⟨sv, es, e⟩ := Option.bind_eq_some_iff.mp e
 have es := Tv es
 ·skip
  obtain ⟨u, hu, q⟩ := r0.slot i sv es
  refine ⟨u, hu, h φ H u r0 Kp.refl ?_⟩
  have sub : Ext (hz (Mu W.G φ own) H) (hz (Mo false W.G φ own) H) := Du fun a _ _ z => Mo.sub z
  have no : ∀ a, a ∈ own i → hz (Mo false W.G φ own) H a = H a := fun a ha => by
   unfold hz
   exact if_neg fun z => z.elim (fun z => (r0.gd a z).2 i ha) (r0.apart i a ha)
  cases sv with
  | d p => cases e; exact Rep.ext sub q.1
  | c n => cases e; obtain ⟨a, q1, q2, _⟩ := q; exact ⟨a, q1, q2⟩
  | s n => cases e; obtain ⟨⟨a, q1, q2⟩, _⟩ := q; exact ⟨a, q1, Ef sub q2⟩
  | q y ds => cases e; exact CloR.ext q.1 sub (List.prefix_refl _)
  | l1 xs =>
   cases e
   obtain ⟨a, us, rfl, q2, q3, q4, q5⟩ := q
   exact .lst ((no a (by rw [q2]; simp)).trans q3) q5 (q4.ext sub)
  | dd k =>
   cases e
   obtain ⟨a, rfl, q2, q3⟩ := q
   exact UL.rep sub (no a (by rw [q2]; simp)) q3
  | l2 xss =>
   cases e
   obtain ⟨a, bs, rfl, q2, q3, q4, q5, q6⟩ := q
   exact .lst ((no a (by rw [q2]; simp)).trans q4) (by rw [List.length_map]; exact q6) (Vw sub (fun b hb => no b (by rw [q2]; exact List.mem_cons_of_mem _ hb)) q5)
theorem tI_k {p : PyData} {v : V} (hp : ∀ Z, Rep C.K Z v p) (h : tI C fl (kC p) σ H Q) : Q v H := by
 obtain ⟨W, φ, own, env, S, r0, h⟩ := h
 exact h φ H v r0 Kp.refl (hp _)
def immV : Va → Option Va
 | .d p => if imm p = true then some (.d p) else none
 | .c n => some (.c n)
 | .s _ => none
 | .q _ _ => none
theorem ahN {f : DF} (h : tI C true (c1 immV f) σ H Q) : tI C false f σ H Q := by
 obtain ⟨W, φ, own, env, S, r0, h⟩ := h
 refine ⟨W, φ, own, env, S, r0, (Ad.mp h).mono (fun v S1 q φ1 H1 u r1 k1 v1 => ?_) fun _ _ q => q⟩
 obtain ⟨w, e, q⟩ := Aq.mp q
 cases v with
 | d p =>
  by_cases ei : imm p = true
  ·have e : some (Va.d p) = some w := by rw [← e]; exact (if_pos ei).symm
   cases e
   refine q φ1 H1 u r1 k1 ?_
   show Rep C.K (hz (Mu W.G φ1 own) H1) u p
   exact Rep.imm r1.mu (Rep.ext Dq v1) ei
  ·have e : none = some w := by rw [← e]; exact (if_neg ei).symm
   cases e
 | c n => cases e; exact q φ1 H1 u r1 k1 v1
 | s n => cases e
 | q y ds => cases e
theorem XR {f : DF} {Q : Bool → Hp → Prop} (h : tIB C (bV f) σ H Q) : tI C fl f σ H (fun x H1 => ∃ c, x = .bl c ∧ Q c H1) := by
 obtain ⟨W, φ, own, env, S, r0, h⟩ := h
 refine ⟨W, φ, own, env, S, r0, (Ad.mp h).mono (fun v S1 q φ1 H1 u r1 k1 v1 => ?_) fun _ _ q => q⟩
 obtain ⟨k, e, q⟩ := Aq.mp q
 have := O5 e
 subst this
 exact ⟨k, v1.bool, q φ1 H1 r1 k1⟩
theorem af9 {a b : DB} {Q : Bool → Hp → Prop} (h : tIB C (bOr a b) σ H Q) : tOr (tIB C a) (tIB C b) σ H Q := by
 obtain ⟨W, φ, own, env, S, r0, h⟩ := h
 refine ⟨W, φ, own, env, S, r0, (Ad.mp h).mono (fun v S1 q φ1 H1 r1 k1 => ?_) fun _ _ q => q⟩
 cases v with
 | false =>
  rw [if_neg Bool.false_ne_true] at q ⊢
  exact ⟨W, φ1, own, env, S1, r1, q.mono (fun w S2 q φ2 H2 r2 k2 => q φ2 H2 r2 (k1.trans k2)) fun x S' q φ' H' r' k' => q φ' H' r' (k1.trans k')⟩
 | true =>
  rw [if_pos rfl] at q ⊢
  exact q φ1 H1 r1 k1
theorem aek {a : DB} {Q : Bool → Hp → Prop} (h : tIB C (bNot a) σ H Q) : tNot (tIB C a) σ H Q := by
 obtain ⟨W, φ, own, env, S, r0, h⟩ := h
 exact ⟨W, φ, own, env, S, r0, (Ad.mp h).mono (fun v S1 q φ1 H1 r1 k1 => q φ1 H1 r1 k1) fun _ _ q => q⟩
theorem ahQ {c : DB} {a b : DF} (h : tI C fl (eIf c a b) σ H Q) : tIf (tIB C c) (tI C fl a) (tI C fl b) σ H Q := by
 obtain ⟨W, φ, own, env, S, r0, h⟩ := h
 refine ⟨W, φ, own, env, S, r0, (Ad.mp h).mono (fun v S1 q φ1 H1 r1 k1 => ?_) fun _ _ q => q⟩
 cases v with
 | true =>
  rw [if_pos rfl] at q ⊢
  exact ⟨W, φ1, own, env, S1, r1, q.mono (fun w S2 q φ2 H2 u2 r2 k2 => q φ2 H2 u2 r2 (k1.trans k2)) fun x S' q φ' H' r' k' => q φ' H' r' (k1.trans k')⟩
 | false =>
  rw [if_neg Bool.false_ne_true] at q ⊢
  exact ⟨W, φ1, own, env, S1, r1, q.mono (fun w S2 q φ2 H2 u2 r2 k2 => q φ2 H2 u2 r2 (k1.trans k2)) fun x S' q φ' H' r' k' => q φ' H' r' (k1.trans k')⟩
theorem af8 {a b : DF} (h : tI C fl (eAnd a b) σ H Q) : tAndV (tI C fl a) (tI C fl b) σ H Q := by
 obtain ⟨W, φ, own, env, S, r0, h⟩ := h
 refine ⟨W, φ, own, env, S, r0, (Ad.mp h).mono (fun v S1 q φ1 H1 u r1 k1 v1 => ?_) fun _ _ q => q⟩
 obtain ⟨k, e, q9⟩ := Aq.mp (Ad.mp q)
 clear q
 have q := q9
 clear q9
 obtain rfl := O5 e
 refine ⟨k, v1.bool, ?_⟩
 cases k with
 | true =>
  rw [if_pos rfl] at q ⊢
  exact ⟨W, φ1, own, env, S1, r1, q.mono (fun w S2 q φ2 H2 u2 r2 k2 => q φ2 H2 u2 r2 (k1.trans k2)) fun x S' q φ' H' r' k' => q φ' H' r' (k1.trans k')⟩
 | false =>
  rw [if_neg Bool.false_ne_true] at q ⊢
  exact q φ1 H1 _ r1 k1 (.bl false)
theorem ahP {a b : DF} (h : tI C fl (eOr a b) σ H Q) : tOrV (tI C fl a) (tI C fl b) σ H Q := by
 obtain ⟨W, φ, own, env, S, r0, h⟩ := h
 refine ⟨W, φ, own, env, S, r0, (Ad.mp h).mono (fun v S1 q φ1 H1 u r1 k1 v1 => ?_) fun _ _ q => q⟩
 obtain ⟨k, e, q9⟩ := Aq.mp (Ad.mp q)
 clear q
 have q := q9
 clear q9
 obtain rfl := O5 e
 refine ⟨k, v1.bool, ?_⟩
 cases k with
 | false =>
  rw [if_neg Bool.false_ne_true] at q ⊢
  exact ⟨W, φ1, own, env, S1, r1, q.mono (fun w S2 q φ2 H2 u2 r2 k2 => q φ2 H2 u2 r2 (k1.trans k2)) fun x S' q φ' H' r' k' => q φ' H' r' (k1.trans k')⟩
 | true =>
  rw [if_pos rfl] at q ⊢
  exact q φ1 H1 _ r1 k1 (.bl true)
theorem af6 {a : DF} (h : tI C fl (eNot a) σ H Q) : tNotV (tI C fl a) σ H Q := by
 obtain ⟨W, φ, own, env, S, r0, h⟩ := h
 refine ⟨W, φ, own, env, S, r0, (Ad.mp h).mono (fun v S1 q φ1 H1 u r1 k1 v1 => ?_) fun _ _ q => q⟩
 obtain ⟨k, e, q9⟩ := Aq.mp (Ad.mp q)
 clear q
 have q := q9
 clear q9
 obtain rfl := O5 e
 exact ⟨k, v1.bool, q φ1 H1 _ r1 k1 (.bl _)⟩
theorem Y5 {g g' : Va → Va → Option Va} {a b c : DF} {r r' : R2} (pr : Gz C.K r g) (pr' : Gz C.K r' g') (h : tI C fl (Qa g g' a b c) σ H Q) : tChain r r' (tI C fl a) (tI C fl b) (tI C fl c) σ H Q := by
 obtain ⟨W, φ, own, env, S, r0, h⟩ := h
 refine ⟨W, φ, own, env, S, r0, (Ad.mp h).mono (fun v S1 q φ1 H1 u r1 k1 v1 => ?_) fun _ _ q => q⟩
 refine ⟨W, φ1, own, env, S1, r1, (Ad.mp q).mono (fun w S2 q φ2 H2 u2 r2 k2 v2 => ?_) fun x S' q φ' H' r' k' => q φ' H' r' (k1.trans k')⟩
 obtain ⟨z, e, q8⟩ := Aq.mp (Ad.mp q)
 obtain ⟨k, ek, q9⟩ := Aq.mp (Ad.mp q8)
 obtain rfl := O5 ek
 clear q8 q h
 have q2 := pr (Mo fl W.G φ2 own) φ2 H2 [u, u2] [v, w] (vB k) (fun z H3 => ∃ k, z = .bl k ∧ (if k = true then tI C fl c σ H3 fun w' H4 => r' u2 w' H4 Q else Q (.bl false) H3)) (r2.muo fl) (.cons (v1.keep k2) (.cons v2 .nil)) e (fun H' u' ee vv => by
  refine ⟨k, vv.bool, ?_⟩
  have r3 := r2.grow ee
  have k3 := (k1.trans k2).trans (Kp.ext ee)
  cases k with
  | true =>
   rw [if_pos rfl] at q9 ⊢
   refine ⟨W, φ2, own, env, S2, r3, (Ad.mp q9).mono (fun y S4 q φ4 H4 u4 r4 k4 v4 => ?_) fun x S' q φ' H' r' k' => q φ' H' r' (k3.trans k')⟩
   obtain ⟨o, eo, q⟩ := Aq.mp q
   obtain ⟨x', y', ex, q5⟩ := pr' (Mo fl W.G φ4 own) φ4 H4 [u2, u4] [w, y] o Q (r4.muo fl) (.cons ((v2.ext ee).keep k4) (.cons v4 .nil)) eo fun H' u' ee vv => q φ4 H' u' (r4.grow ee) ((k3.trans k4).trans (Kp.ext ee)) vv
   cases ex
   exact q5
  | false =>
   rw [if_neg Bool.false_ne_true] at q9 ⊢
   exact q9 φ2 H' _ r3 k3 (.bl false))
 obtain ⟨x', y', ex, q5⟩ := q2
 cases ex
 exact q5
end
section
variable {X : Cx} {ew : WX} {fl : Bool} {e a b c : Expr} {es : List Expr} {f fa fb fc : DF} {ba bb : DB} {fs : DFA} {pos p : Pos} {x : Str} {j : Nat}
theorem aiz {i : Nat} (hN : X.N[i]? = some x) (hv : Vis X.env.scope x) (hd : (x == ("__debug__" : Str)) = false := by decide) (hcd : (x == ("__classdict__" : Str)) = false := by decide) : E X ew true (.Name x pos) (vT i) :=
 Bf (pe_var hN hv hd hcd) fun _ _ _ h => adM h
theorem agV {i : Nat} (hN : X.N[i]? = some x) (hv : Vis X.env.scope x) (hd : (x == ("__debug__" : Str)) = false := by decide) (hcd : (x == ("__classdict__" : Str)) = false := by decide) : E X ew false (.Name x pos) (vF i) :=
 Bf (pe_var hN hv hd hcd) fun _ _ _ h => aeh h
theorem Ac {i : Int} {j pos} : E X ew fl (.Constant (.int i) j pos) (kC (.int i)) := Bf pe_int fun _ _ _ h => tI_k (fun _ => .int i) h
theorem e_bl {i : Bool} {j pos} : E X ew fl (.Constant (.bool i) j pos) (kC (.bool i)) := Bf pe_bl fun _ _ _ h => tI_k (fun _ => .bl i) h
theorem aau {j pos} : E X ew fl (.Constant .none j pos) (kC .none) := Bf pe_non fun _ _ _ h => tI_k (fun _ => .non) h
theorem afn {i : Str} {j pos} : E X ew fl (.Constant (.str i) j pos) (kC (.str i)) := Bf pe_str fun _ _ _ h => tI_k (fun _ => .str i) h
theorem YD {i : Int} {t : Tok} (hg : Gl X x) (hm : X.mg x = some (.int i t)) (hd : (x == ("__debug__" : Str)) = false := by decide) : E X ew fl (.Name x pos) (kC (.int i)) :=
 Bf (pe_glob (v := .int i) hg hm ⟨t, rfl⟩ hd) fun _ _ _ h => tI_k (fun _ => .int i) h
theorem e_up (h : E X ew false e f) : E X ew true e (c1 immV f) := Bf h fun _ _ _ q => ahN q
theorem Xp {op : CmpOp} {r : R2} {g : Va → Va → Option Va} (ho : OpR X (compareOp op) r) (pr : Gz X.K r g) (ha : E X ew fl a fa) (hb : E X ew fl b fb) (hm : behindInMarks op b = false) : E X ew fl (.Compare a [op] [b] pos) (c2 g fa fb) :=
 Bf (pe_cmpR ho ha hb hm) fun _ _ _ h => aaN pr h
theorem afp {op op' : CmpOp} {r r' : R2} {g g' : Va → Va → Option Va} (ho : OpR X (compareOp op) r) (pr : Gz X.K r g) (ho' : OpR X (compareOp op') r') (pr' : Gz X.K r' g') (ha : E X ew fl a fa) (hb : E X ew fl b fb) (hc : E X ew fl c fc)
  (hm : lastMarks [op, op'] [b, c] = false := by with_unfolding_all rfl) : E X ew fl (.Compare a [op, op'] [b, c] pos) (Qa g g' fa fb fc) :=
 Bf (pe_chain ho ho' ha hb hc hm) fun _ _ _ h => Y5 pr pr' h
theorem ZG {op} (h : E X ew fl a fa) : E X ew fl (.BoolOp op [a] pos) fa := pe_one h
theorem adx {rest : List Expr} (ha : E X ew fl a fa) (hb : E X ew fl (.BoolOp .And (b :: rest) pos) fb) : E X ew fl (.BoolOp .And (a :: b :: rest) pos) (eAnd fa fb) := Bf (pe_and ha hb) fun _ _ _ h => af8 h
theorem e_or {rest : List Expr} (ha : E X ew fl a fa) (hb : E X ew fl (.BoolOp .Or (b :: rest) pos) fb) : E X ew fl (.BoolOp .Or (a :: b :: rest) pos) (eOr fa fb) := Bf (pe_or ha hb) fun _ _ _ h => ahP h
theorem aiA (ha : E X ew fl a fa) : E X ew fl (.UnaryOp .Not a pos) (eNot fa) := Bf (pe_not ha) fun _ _ _ h => af6 h
theorem e_if (hc : EB X ew c ba) (ha : E X ew fl a fa) (hb : E X ew fl b fb) : E X ew fl (.IfExp c a b pos) (eIf ba fa fb) := Bf (pe_ifExp hc ha hb) fun _ _ _ h => ahQ h
def EW (X : Cx) (ew : WX) (e : Expr) (f : DB) : Prop := PW X e (tIB ⟨X.K, X.mg, ew⟩ f)
theorem aeB {t t' : TT} (h : PW X e t) (i : ∀ σ H Q, t' σ H Q → t σ H Q) : PW X e t' := ⟨fun w pins s σ H Q I q => h.run w pins s σ H Q I (i _ _ _ q)⟩
theorem Gf (h : E X ew fl e f) (he : ∀ whole, isTrue e X.env whole = (do let v ← whole; standAt e.pos; holding [v] (truthy v)) := by intro _; rfl) : EB X ew e (bV f) := VD (pt_val h he) fun _ _ _ q => XR q
theorem Di {op : CmpOp} {r : R2} {g : Va → Va → Option Va} (ho : OpR X (compareOp op) r) (pr : Gz X.K r g) (ha : E X ew fl a fa) (hb : E X ew fl b fb) (hm : behindInMarks op b = false) : EB X ew (.Compare a [op] [b] pos) (bV (c2 g fa fb)) :=
 VD (pt_cmpR ho ha hb hm) fun _ _ _ h => aaN pr (XR h)
theorem Wc {op op' : CmpOp} {r r' : R2} {g g' : Va → Va → Option Va} (ho : OpR X (compareOp op) r) (pr : Gz X.K r g) (ho' : OpR X (compareOp op') r') (pr' : Gz X.K r' g') (ha : E X ew fl a fa) (hb : E X ew fl b fb) (hc : E X ew fl c fc)
  (hm : lastMarks [op, op'] [b, c] = false := by with_unfolding_all rfl) : EB X ew (.Compare a [op, op'] [b, c] pos) (bV (Qa g g' fa fb fc)) :=
 VD (pt_chain ho ho' ha hb hc hm) fun _ _ _ h => Y5 pr pr' (XR h)
theorem Ff (h : EB X ew a ba) : EB X ew (.UnaryOp .Not a pos) (bNot ba) := VD (pt_not h) fun _ _ _ q => aek q
theorem MP (h : EB X ew a ba) : EW X ew (.BoolOp .Or [a] pos) ba := pw_or1 h
theorem Qz {rest : List Expr} (ha : EB X ew a ba) (hb : EW X ew (.BoolOp .Or (b :: rest) pos) bb) : EW X ew (.BoolOp .Or (a :: b :: rest) pos) (bOr ba bb) := aeB (pw_or ha hb) fun _ _ _ q => af9 q
theorem eb_w (h : EW X ew e ba) : EB X ew e ba := PW.pt h
end
structure Ent (K : PySem.W.Frag) (G : Addr → Prop) (φ : List Addr) (S : Sto) (H : Hp) : Prop where
 nd : φ.Nodup
 gd : ∀ a, G a → a ∉ φ
 mu : MuOk (Mu G φ nob) H
 cell : ZX K (hz (Mu G φ nob) H) φ S H
def spD (K : PySem.W.Frag) (mg : Str → Option Value) (n : Nat) (F : List Va → M Va) : Sp := fun vs H Q ew => vs.length = n ∧ ∃ G φ ds S, Ent K G φ S H ∧ Cr K (Mu G φ nob) φ H vs ds ∧
 (F ds S).sat (fun r S' => ∀ φ' H' u, Kp φ H φ' H' → Ent K G φ' S' H' → VRep K (Mu G φ' nob) φ' H' u r → Q u H')
  (fun x S' => ∀ φ' H', Kp φ H φ' H' → Ent K G φ' S' H' → Kh ⟨K, mg, fun c d _ h => ew c d h⟩ (Mu G φ' nob) [] H' x)
structure FnG (P : Program) (w : World) (K : PySem.W.Frag) (mg : Str → Option Value) (base : Heap) (CX : CXT) (k : Nat) (f : Addr) (fd : FuncData) (ps : List Str) (sp : Sp) : Prop where
 len : ∀ vs H Q E, sp vs H Q E → vs.length = ps.length
 run : ∀ (A : Around) (outer : List Env) (s : Shared) (H : Hp) (args : Args) (us : List Value) (vs : List V) (Q : VK) (E : XK), A.guards = some [] → Room k A → Env0 P w K mg base A outer s H →
  BindsTo s fd args (ps.zip us) → Vals vs us → sp vs H Q E → codeAny (model P w) A (.call (.ref f) args) (CR CX outer P w H s Q E) s
theorem FnG.mono {P : Program} {w : World} {K : PySem.W.Frag} {mg : Str → Option Value} {base : Heap} {CX : CXT} {j k : Nat} {f : Addr} {fd : FuncData} {ps : List Str} {sp : Sp} (F : FnG P w K mg base CX j f fd ps sp) (h : j ≤ k) :
  FnG P w K mg base CX k f fd ps sp := ⟨F.len, fun A outer s H args us vs Q E hg hr => F.run A outer s H args us vs Q E hg (hr.mono h)⟩
def FnD (P : Program) (w : World) (K : PySem.W.Frag) (mg : Str → Option Value) (base : Heap) (CX : CXT) (k : Nat) (f : Addr) (fd : FuncData) (ps : List Str) (F : List Va → M Va) : Prop :=
 FnG P w K mg base CX k f fd ps (spD K mg ps.length F)
theorem aa1 {X : Cx} {CX : CXT} {k : Nat} {f : Addr} {fd : FuncData} {ps : List Str} {sp : Sp} {E : L2.St → XK} {pins : List (Addr × Obj)} {σ : L2.St} {H : Hp} {s : Shared} {Q : VK} {us : List Value} {vs : List V} (F : FnG X.prog X.w X.K X.mg X.base CX k f fd ps sp) (hgd : X.A.guards = some []) (hr : Room k X.A) (hb : Binds X.K fd ps []) (hx : PassesAt CX X σ (E σ))
  (I : L2.Inv X pins σ H s) (r : Vals vs us) (h : sp vs H Q (E σ)) : wpAny (model X.prog X.w) X.A (call (.ref f) us) (EP X pins σ Q) X.xe s := by
 have hl : us.length = ps.length := r.length.symm.trans (F.len _ _ _ _ h)
 have b : BindsTo s fd ⟨us, []⟩ (ps.zip us) := by
  have := hb s us I.kIn (by simpa using hl)
  simpa using this
 refine wpAny_call (codeAny_mono (F.run X.A X.stack s H ⟨us, []⟩ us vs Q (E σ) hgd hr I.env0 b r h) fun r s' hq => ?_)
 rcases r with e | fl
 ·exact hx pins H s e s' I hq
 ·cases fl with
  | ret u => exact I.after hq
  | _ => exact False.elim hq
theorem pe_callG {X : Cx} {CX : CXT} {k : Nat} {f : Addr} {fd : FuncData} {ps : List Str} {sp : Sp} {E : L2.St → XK} {x : Str} {p pos : Pos} {e : Expr} {es : List Expr} {t : TA} (F : FnG X.prog X.w X.K X.mg X.base CX k f fd ps sp) (hgd : X.A.guards = some []) (hr : Room k X.A) (hg : Gl X x) (hm : X.mg x = some (.ref f)) (hk : PySem.W.keepIn X.K (.ref f) = true) (hb : Binds X.K fd ps []) (hx : ∀ σ, PassesAt CX X σ (E σ))
  (ha : PA X (e :: es) t) (hdb : (x == ("__debug__" : Str)) = false := by decide) (he : starEach (e :: es) X.env = (false, eval e X.env) :: starEach es X.env := by rfl) (hpl : (backTo pos (starEach es X.env)).any (·.1) = false := by rfl) :
  PE X (.Call (.Name x p) (e :: es) [] pos) (tCallS sp E t) :=
 ⟨fun pins s σ H Q I h => wpAny_Call_Name_kw (ld_glob I hg hm (PySem.W.callWith_K (h₀ := X.base) I.ok.mod.kin hk
  (thn (ha.run pos pins s σ H _ I h) fun us s1 ⟨vs, H1, I1, r, q⟩ => ⟨I1.kIn, aa1 F hgd hr hb (hx σ) I1 r q⟩) he hpl) hdb)⟩
def alone {α : Type} (m : M α) : M α := fun S => match m [] with
 | .ok a [] => .ok a S
 | .exc x [] => .exc x S
 | _ => .stuck
def JN (F : List Va → M Va) (fa : DFA) : DF := fun env => bnd (fa env) F
def noX {α : Type} (m : M α) : M α := fun S => match m S with
 | .ok a S' => .ok a S'
 | _ => .stuck
theorem Oj {α : Type} {m : M α} {S : Sto} {P : α → Sto → Prop} {E E' : Ex → Sto → Prop} (h : (noX m S).sat P E) : (m S).sat P E' := by
 unfold noX at h
 cases e : m S with
 | ok a S' => rw [e] at h; exact h
 | exc x S' => rw [e] at h; exact h.elim
 | stuck => rw [e] at h; exact h
theorem WL {α : Type} {m : M α} {S : Sto} {P : α → Sto → Prop} {E : Ex → Sto → Prop} (h : (alone m S).sat P E) : (m []).sat (fun a S' => S' = [] ∧ P a S) (fun x S' => S' = [] ∧ E x S) := by
 unfold alone at h
 cases e : m [] with
 | ok a S' =>
  rw [e] at h
  cases S' with
  | nil => exact ⟨rfl, h⟩
  | cons c t => exact h.elim
 | exc x S' =>
  rw [e] at h
  cases S' with
  | nil => exact ⟨rfl, h⟩
  | cons c t => exact h.elim
 | stuck => rw [e] at h; exact h
theorem age {α : Type} {fl : Bool} {m : M α} {S : Sto} {P : α → Sto → Prop} {E : Ex → Sto → Prop} (h : ((match fl with | true => m | false => noX m : M α) S).sat P E) : (m S).sat P (fun x S' => fl = true ∧ E x S') := by
 cases fl with
 | true => exact h.mono (fun _ _ q => q) fun _ _ q => ⟨rfl, q⟩
 | false => exact Oj h
def outG (W : Wd) (own : Nat → List Addr) : Addr → Prop := fun a => W.G a ∨ ∃ i, a ∈ own i
theorem Tf {W : Wd} {φ : List Addr} {own : Nat → List Addr} {a : Addr} : Mu (outG W own) φ nob a ↔ Mu W.G φ own a := by
 unfold Mu outG nob
 constructor
 ·rintro ((h | h) | h | ⟨_, h⟩)
  ·exact .inl h
  ·exact .inr (.inr h)
  ·exact .inr (.inl h)
  ·cases h
 ·rintro (h | h | h)
  ·exact .inl (.inl h)
  ·exact .inr (.inl h)
  ·exact .inl (.inr h)
theorem Ph {W : Wd} {φ : List Addr} {own : Nat → List Addr} : Mu (outG W own) φ nob = Mu W.G φ own := funext fun _ => propext Tf
theorem Rel.ent {K : PySem.W.Frag} {W : Wd} {φ : List Addr} {own : Nat → List Addr} {env : En} {S : Sto} {σ : L2.St} {H : Hp} (r : Rel K W φ own env S σ H) : Ent K (outG W own) φ S H :=
 ⟨r.ndφ, fun a h => h.elim (fun z => (r.gd a z).1) fun ⟨i, z⟩ => r.apart i a z, by rw [Ph]; exact r.mu, by rw [Ph]; exact r.cell⟩
theorem Rel.called {K : PySem.W.Frag} {W : Wd} {φ φ' : List Addr} {own : Nat → List Addr} {env : En} {S S' : Sto} {σ : L2.St} {H H' : Hp} (r : Rel K W φ own env S σ H) (k : Kp φ H φ' H') (e : Ent K (outG W own) φ' S' H') : Rel K W φ' own env S' σ H' where
 disj := r.disj
 apart := fun i a h z => e.gd a (.inr ⟨i, h⟩) z
 ndφ := e.nd
 gd := fun a h => ⟨e.gd a (.inl h), (r.gd a h).2⟩
 mu := by have := e.mu; rw [Ph] at this; exact this
 len := r.len
 slot := fun i sv h => by
  obtain ⟨u, h1, h2⟩ := r.slot i sv h
  refine ⟨u, h1, h2.ext (Kp.hz (fl := true) k) k.pre fun a ha => ?_⟩
  obtain ⟨o, ho⟩ := r.mu.get (.inr (.inr ⟨i, ha⟩))
  rw [ho, k.keep a o (r.apart i a ha) ho]
 cell := by have := e.cell; rw [Ph] at this; exact this
 base := r.base.trans k
 newF := r.newF
theorem Ru {fl : Bool} {G : Addr → Prop} {φ : List Addr} {own : Nat → List Addr} : Mu (Mo fl G φ own) [] nob = Mo fl G φ own := funext fun a => propext ⟨fun h => h.elim id fun h => h.elim (fun z => absurd z (by simp)) fun ⟨_, z⟩ => absurd z (by simp [nob]), .inl⟩
theorem Rel.entP {K : PySem.W.Frag} {W : Wd} {φ : List Addr} {own : Nat → List Addr} {env : En} {S : Sto} {σ : L2.St} {H : Hp} (r : Rel K W φ own env S σ H) (fl : Bool) : Ent K (Mo fl W.G φ own) [] [] H :=
 ⟨List.nodup_nil, fun _ _ => by simp, by rw [Ru]; exact r.muo fl, ⟨rfl, fun n c a h => by simp at h⟩⟩
theorem Cr.alone {K : PySem.W.Frag} {Nu : Addr → Prop} {φ : List Addr} {H : Hp} : ∀ {us : List V} {vs : List Va}, (∀ v ∈ vs, ∃ p, v = .d p) → Cr K Nu φ H us vs → Cr K Nu [] H us vs
 | _, _, _, .nil => .nil
 | _, v :: vs, h, .cons q t => .cons (by obtain ⟨p, rfl⟩ := h v List.mem_cons_self; exact q) (Cr.alone (fun v hv => h v (List.mem_cons_of_mem _ hv)) t)
def isD : Va → Bool
 | .d _ => true
 | _ => false
def Ao (fl : Bool) (F : List Va → M Va) (fa : DFA) : DF := fun env => bnd (fa env) fun vs => if vs.all isD = true then bnd (alone (match fl with | true => F vs | false => noX (F vs))) (fun r => if isD r = true then ret r else no) else no
section
variable {C : Ct} {fl : Bool} {σ : L2.St} {H : Hp} {Q : VK}
theorem aej {n : Nat} {F : List Va → M Va} {fa : DFA} (hl : ∀ env S vs S', fa env S = .ok vs S' → vs.length = n) (h : tI C true (JN F fa) σ H Q) : tIA C true fa σ H (fun vs H1 => spD C.K C.mg n F vs H1 Q (WE C.ew σ)) := by
 obtain ⟨W, φ, own, env, S, r0, h⟩ := h
 refine ⟨W, φ, own, env, S, r0, ?_⟩
 have h := Ad.mp h
 cases e : fa env S with
 | ok vs S1 =>
  rw [e] at h
  intro φ1 H1 us r1 k1 v1
  refine ⟨by rw [v1.length]; exact hl _ _ _ _ e, outG W own, φ1, vs, S1, r1.ent, by rw [Ph]; exact v1, ?_⟩
  refine R.sat.mono h (fun r S2 q φ2 H2 u k2 e2 v2 => ?_) fun x S2 q φ2 H2 k2 e2 => ?_
  ·rw [Ph] at v2
   exact q φ2 H2 u (r1.called k2 e2) (k1.trans k2) v2
  ·rw [Ph]
   exact q φ2 H2 (r1.called k2 e2) (k1.trans k2)
 | exc x S1 => rw [e] at h; exact h
 | stuck => rw [e] at h; exact h
theorem Y6 {n : Nat} {F : List Va → M Va} {fa : DFA} (hl : ∀ env S vs S', fa env S = .ok vs S' → vs.length = n) (h : tI C fl (Ao fl F fa) σ H Q) : tIA C fl fa σ H (fun vs H1 => spD C.K C.mg n F vs H1 Q (WE C.ew σ)) := by
 obtain ⟨W, φ, own, env, S, r0, h⟩ := h
 refine ⟨W, φ, own, env, S, r0, ?_⟩
 have h := Ad.mp h
 cases e : fa env S with
 | ok vs S1 =>
  rw [e] at h
  intro φ1 H1 us r1 k1 v1
  have h : ((if vs.all isD = true then bnd (alone (match fl with | true => F vs | false => noX (F vs))) (fun r => if isD r = true then ret r else no) else no) S1).sat _ _ := h
  by_cases hd : vs.all isD = true
  ·rw [if_pos hd] at h
   have h := WL (Ad.mp h)
   have hd' : ∀ v ∈ vs, ∃ p, v = .d p := fun v hv => by
    have := List.all_eq_true.mp hd v hv
    cases v with
    | d p => exact ⟨p, rfl⟩
    | c n => cases this
    | s n => cases this
    | q y ds => cases this
   refine ⟨by rw [v1.length]; exact hl _ _ _ _ e, Mo fl W.G φ1 own, [], vs, [], r1.entP fl, by rw [Ru]; exact v1.alone hd', ?_⟩
   have h2 := age h
   refine R.sat.mono h2 (fun r S2 q φ2 H2 u k2 e2 v2 => ?_) fun x S2 q φ2 H2 k2 e2 => ?_
   ·obtain ⟨rfl, q⟩ := q
    have eφ : φ2 = [] := List.eq_nil_of_length_eq_zero e2.cell.1
    subst eφ
    rw [Ru] at v2
    have ee : Ext H1 H2 := fun a o ha => k2.keep a o (by simp) ha
    by_cases hr : isD r = true
    ·rw [if_pos hr] at q
     refine q φ1 H2 u (r1.grow ee) (k1.trans (Kp.ext ee)) ?_
     cases r with
     | d p => exact v2
     | c n => cases hr
     | s n => cases hr
     | q y ds => cases hr
    ·rw [if_neg hr] at q
     exact q.elim
   ·obtain ⟨efl, rfl, q⟩ := q
    subst efl
    have eφ : φ2 = [] := List.eq_nil_of_length_eq_zero e2.cell.1
    subst eφ
    have ee : Ext H1 H2 := fun a o ha => k2.keep a o (by simp) ha
    have q := q φ1 H2 (r1.grow ee) (k1.trans (Kp.ext ee))
    rw [Ru]
    exact q
  ·rw [if_neg hd] at h
   exact h.elim
 | exc x S1 => rw [e] at h; exact h
 | stuck => rw [e] at h; exact h
end
section
variable {X : Cx} {ew : WX} {fl : Bool} {CX : CXT} {k : Nat} {f : Addr} {fd : FuncData} {ps : List Str} {F : List Va → M Va} {x : Str} {e : Expr} {es : List Expr} {fs : DFA} {p pos : Pos}
theorem Ii (F' : FnD X.prog X.w X.K X.mg X.base CX k f fd ps F) (hgd : X.A.guards = some []) (hr : Room k X.A) (hg : Gl X x) (hm : X.mg x = some (.ref f)) (hk : PySem.W.keepIn X.K (.ref f) = true) (hb : Binds X.K fd ps []) (hx : ∀ σ, PassesAt CX X σ (WE ew σ))
  (ha : EA X ew true (e :: es) fs) (hl : ∀ env S vs S', fs env S = .ok vs S' → vs.length = ps.length) (hdb : (x == ("__debug__" : Str)) = false := by decide) (he : starEach (e :: es) X.env = (false, eval e X.env) :: starEach es X.env := by rfl) (hpl : (backTo pos (starEach es X.env)).any (·.1) = false := by rfl) :
  E X ew true (.Call (.Name x p) (e :: es) [] pos) (JN F fs) :=
 Bf (pe_callG F' hgd hr hg hm hk hb hx ha hdb he hpl) fun _ _ _ h => aej hl h
theorem Ar (F' : FnD X.prog X.w X.K X.mg X.base CX k f fd ps F) (hgd : X.A.guards = some []) (hr : Room k X.A) (hg : Gl X x) (hm : X.mg x = some (.ref f)) (hk : PySem.W.keepIn X.K (.ref f) = true) (hb : Binds X.K fd ps []) (hx : ∀ σ, PassesAt CX X σ (WE ew σ))
  (ha : EA X ew fl (e :: es) fs) (hl : ∀ env S vs S', fs env S = .ok vs S' → vs.length = ps.length) (hdb : (x == ("__debug__" : Str)) = false := by decide) (he : starEach (e :: es) X.env = (false, eval e X.env) :: starEach es X.env := by rfl) (hpl : (backTo pos (starEach es X.env)).any (·.1) = false := by rfl) :
  E X ew fl (.Call (.Name x p) (e :: es) [] pos) (Ao fl F fs) :=
 Bf (pe_callG F' hgd hr hg hm hk hb hx ha hdb he hpl) fun _ _ _ h => Y6 hl h
theorem Ag (env : En) (S : Sto) (vs : List Va) (S' : Sto) (h : aNil env S = .ok vs S') : vs.length = 0 := by
 cases h; rfl
theorem Ab {f : DF} {fs : DFA} {n : Nat} (hf : ∀ env S vs S', fs env S = .ok vs S' → vs.length = n) (env : En) (S : Sto) (vs : List Va) (S' : Sto) (h : Aa f fs env S = .ok vs S') : vs.length = n + 1 := by
 unfold Aa bnd at h
 cases e1 : f env S with
 | ok v S1 =>
  rw [e1] at h
  dsimp only at h
  cases e2 : fs env S1 with
  | ok ws S2 => rw [e2] at h; cases h; rw [List.length_cons, hf _ _ _ _ e2]
  | exc x S2 => rw [e2] at h; cases h
  | stuck => rw [e2] at h; cases h
 | exc x S1 => rw [e1] at h; cases h
 | stuck => rw [e1] at h; cases h
theorem abj {E : L2.St → XK} {sp : Sp} (F : FnG X.prog X.w X.K X.mg X.base CX k f fd ps sp) (hgd : X.A.guards = some []) (hr : Room k X.A) (hg : Gl X x) (hm : X.mg x = some (.ref f)) (hk : PySem.W.keepIn X.K (.ref f) = true) (hb : Binds X.K fd ps []) (hx : ∀ σ, PassesAt CX X σ (E σ))
  (hdb : (x == ("__debug__" : Str)) = false := by decide) : PE X (.Call (.Name x p) [] [] pos) (tCallS sp E tNil) :=
 ⟨fun pins s σ H Q I h => wpAny_Call_Name_kw (ld_glob I hg hm (PySem.W.callWith_K0 I.kIn hk (aa1 (us := []) F hgd hr hb (hx σ) I .nil h)) hdb)⟩
theorem afq (F' : FnD X.prog X.w X.K X.mg X.base CX k f fd [] F) (hgd : X.A.guards = some []) (hr : Room k X.A) (hg : Gl X x) (hm : X.mg x = some (.ref f)) (hk : PySem.W.keepIn X.K (.ref f) = true) (hb : Binds X.K fd [] []) (hx : ∀ σ, PassesAt CX X σ (WE ew σ))
  (hdb : (x == ("__debug__" : Str)) = false := by decide) : E X ew fl (.Call (.Name x p) [] [] pos) (Ao fl F aNil) :=
 Bf (abj F' hgd hr hg hm hk hb hx hdb) fun _ _ _ h => XX (Y6 (n := 0) Ag h)
end
def toDs : List Va → Option (List PyData)
 | [] => some []
 | .d p :: r => (toDs r).map (p :: ·)
 | .c _ :: _ => none
 | .s _ :: _ => none
 | .q _ _ :: _ => none
theorem O4 {K : PySem.W.Frag} {Nu : Addr → Prop} {φ : List Addr} {H : Hp} : ∀ {us : List V} {vs : List Va} {ps : List PyData}, Cr K Nu φ H us vs → toDs vs = some ps → Af K (hz Nu H) us ps
 | _, _, _, .nil, e => by cases e; exact .nil
 | _, .d p :: vs, ps, .cons h t, e => by
  obtain ⟨qs, e1, e2⟩ := Option.map_eq_some_iff.mp e
  subst e2
  exact .cons h (O4 t e1)
 | _, .c n :: _, _, .cons _ _, e => by cases e
 | _, .s n :: _, _, .cons _ _, e => by cases e
 | _, .q _ _ :: _, _, .cons _ _, e => by cases e
def Bg (vs : List Va) : Option Va := (toDs vs).bind fun ps => if ps.length ≤ sizeLine then some (.d (.tuple ps)) else none
def BR (vs : List Va) : Option Va := (toDs vs).bind fun ps => if ps.length ≤ sizeLine then some (.d (.list ps)) else none
theorem Es {K : PySem.W.Frag} {Nu : Addr → Prop} {H : Hp} {p : Addr} {o : HO} (m : MuOk Nu H) (h : H p = none) : Ext (hz Nu H) (hz Nu (upd H p o)) ∧ hz Nu (upd H p o) p = some o := by
 refine ⟨Q4 (Ext.upd h), Ey upd_same fun z => ?_⟩
 have := (m p z).1
 rw [h] at this; cases this
theorem acM {K : PySem.W.Frag} : Kl K (fun xs H1 Q => xs.length ≤ sizeLine ∧ ∀ p, H1 p = none → Q (.ref p) (upd H1 p (.tup xs))) Bg := by
 intro Nu φ H us vs w Q m hv hg hq
 obtain ⟨ps, e1, e2⟩ := Option.bind_eq_some_iff.mp hg
 have hr := O4 hv e1
 by_cases hl : ps.length ≤ sizeLine
 ·rw [if_pos hl] at e2
  cases e2
  refine ⟨by rw [hr.length]; exact hl, fun p hp => hq _ _ (Ext.upd hp) ?_⟩
  obtain ⟨n1, n2⟩ := Es (K := K) (o := .tup us) m hp
  exact .tup n2 hl (hr.ext n1)
 ·rw [if_neg hl] at e2; cases e2
theorem acP {K : PySem.W.Frag} : Kl K (fun xs H1 Q => xs.length ≤ sizeLine ∧ ∀ p, H1 p = none → Q (.ref p) (upd H1 p (.lst xs))) BR := by
 intro Nu φ H us vs w Q m hv hg hq
 obtain ⟨ps, e1, e2⟩ := Option.bind_eq_some_iff.mp hg
 have hr := O4 hv e1
 by_cases hl : ps.length ≤ sizeLine
 ·rw [if_pos hl] at e2
  cases e2
  refine ⟨by rw [hr.length]; exact hl, fun p hp => hq _ _ (Ext.upd hp) ?_⟩
  obtain ⟨n1, n2⟩ := Es (K := K) (o := .lst us) m hp
  exact .lst n2 hl (hr.ext n1)
 ·rw [if_neg hl] at e2; cases e2
section
variable {X : Cx} {ew : WX} {fl : Bool} {es : List Expr} {fs : DFA} {pos : Pos}
theorem BV {x1} (h : EA X ew fl es fs) : E X ew fl (.Tuple es x1 pos) (cN Bg fs) := Bf (pe_tup h) fun _ _ _ q => Z5 acM q
theorem FW (h : EA X ew fl es fs) : E X ew fl (.List es pos) (cN BR fs) := Bf (pe_lst h) fun _ _ _ q => Z5 acP q
end
inductive Fl where
 | nx | bk | ct
 | rt (v : Va)
 | xc (x : Ex)
abbrev SF := En → M (Fl × En)
def lift {α : Type} (env : En) (m : M α) (k : α → M (Fl × En)) : M (Fl × En) := fun S => match m S with
 | .ok a S' => k a S'
 | .exc x S' => .ok (.xc x, env) S'
 | .stuck => .stuck
theorem Cu {α : Type} {env : En} {m : M α} {k : α → M (Fl × En)} {S : Sto} {P : Fl × En → Sto → Prop} {E : Ex → Sto → Prop} : (lift env m k S).sat P E ↔ (m S).sat (fun a S' => (k a S').sat P E) (fun x S' => P (.xc x, env) S') := by
 unfold lift
 cases m S <;> exact Iff.rfl
def Post (C : Ct) (D : Ends) (W : Wd) (p : Fl × En) (S' : Sto) : Prop := match p.1 with
 | .nx => ∀ φ' own' σ' H', Rel C.K W φ' own' p.2 S' σ' H' → D.nx σ' H'
 | .bk => ∀ φ' own' σ' H', Rel C.K W φ' own' p.2 S' σ' H' → D.bk σ' H'
 | .ct => ∀ φ' own' σ' H', Rel C.K W φ' own' p.2 S' σ' H' → D.ct σ' H'
 | .rt v => ∀ φ' own' σ' H' u, Rel C.K W φ' own' p.2 S' σ' H' → VRep C.K (Mu W.G φ' nob) φ' H' u v → D.rt u H'
 | .xc x => ∀ φ' own' σ' H', Rel C.K W φ' own' p.2 S' σ' H' → Kh C (Mu W.G φ' own') σ' H' x
def tS (C : Ct) (f : SF) : TS := fun D σ H => ∃ W φ own env S, Rel C.K W φ own env S σ H ∧ (f env S).sat (Post C D W) (fun _ _ => False)
def ES (X : Cx) (ew : WX) (st : Stmt) (f : SF) : Prop := PS X st (tS ⟨X.K, X.mg, ew⟩ f)
def ESs (X : Cx) (ew : WX) (st : List Stmt) (f : SF) : Prop := PSs X st (tS ⟨X.K, X.mg, ew⟩ f)
def sNil : SF := fun env => ret (.nx, env)
def sSeq (f g : SF) : SF := fun env => bnd (f env) fun p => match p.1 with
 | .nx => g p.2
 | _ => ret p
def aab (f : DF) : SF := fun env => lift env (f env) fun _ => ret (.nx, env)
def sRet (f : DF) : SF := fun env => lift env (f env) fun v => ret (.rt v, env)
def sIf (c : DB) (f g : SF) : SF := fun env => lift env (c env) fun b => if b = true then f env else g env
section
variable {C : Ct} {σ : L2.St} {H : Hp} {D : Ends}
theorem af3 (h : tS C sNil D σ H) : D.nx σ H := by
 obtain ⟨W, φ, own, env, S, r, h⟩ := h
 exact h φ own σ H r
theorem afZ {f g : SF} (h : tS C (sSeq f g) D σ H) : tS C f { D with nx := tS C g D } σ H := by
 obtain ⟨W, φ, own, env, S, r, h⟩ := h
 refine ⟨W, φ, own, env, S, r, (Ad.mp h).mono (fun p S1 q => ?_) fun _ _ q => q⟩
 obtain ⟨fl, env'⟩ := p
 cases fl with
 | nx => exact fun φ' own' σ' H' r' => ⟨W, φ', own', env', S1, r', q⟩
 | bk => exact q
 | ct => exact q
 | rt v => exact q
 | xc x => exact q
theorem aef {f : DF} {fl : Bool} (h : tS C (aab f) D σ H) : tI C fl f σ H (fun _ H1 => D.nx σ H1) := by
 obtain ⟨W, φ, own, env, S, r, h⟩ := h
 refine ⟨W, φ, own, env, S, r, (Cu.mp h).mono (fun v S1 q φ1 H1 u r1 k1 v1 => q φ1 own σ H1 r1) fun x S1 q φ1 H1 r1 k1 => q φ1 own σ H1 r1⟩
theorem af0 {f : DF} (h : tS C (sRet f) D σ H) : tI C true f σ H D.rt := by
 obtain ⟨W, φ, own, env, S, r, h⟩ := h
 refine ⟨W, φ, own, env, S, r, (Cu.mp h).mono (fun v S1 q φ1 H1 u r1 k1 v1 => q φ1 own σ H1 u r1 ?_) fun x S1 q φ1 H1 r1 k1 => q φ1 own σ H1 r1⟩
 exact v1.less fun a z => z.elim .inl fun z => z.elim (fun z => .inr (.inl z)) fun ⟨_, z⟩ => absurd z (by simp [nob])
theorem ahL {c : DB} {f g : SF} (h : tS C (sIf c f g) D σ H) : tIfS (tIB C c) (tS C f) (tS C g) D σ H := by
 obtain ⟨W, φ, own, env, S, r, h⟩ := h
 refine ⟨W, φ, own, env, S, r, (Cu.mp h).mono (fun v S1 q φ1 H1 r1 k1 => ?_) fun x S1 q φ1 H1 r1 k1 => q φ1 own σ H1 r1⟩
 cases v with
 | true =>
  rw [if_pos rfl] at q ⊢
  exact ⟨W, φ1, own, env, S1, r1, q⟩
 | false =>
  rw [if_neg Bool.false_ne_true] at q ⊢
  exact ⟨W, φ1, own, env, S1, r1, q⟩
end
section
variable {X : Cx} {ew : WX} {fl : Bool} {e a b : Expr} {st : Stmt} {ss p q : List Stmt} {f : DF} {g g' : SF} {c : DB} {pos : Pos}
theorem Cq : ESs X ew [] sNil := Zf pss_nil fun _ _ _ h => af3 h
theorem Ae (h : ES X ew st g) (t : ESs X ew ss g') : ESs X ew (st :: ss) (sSeq g g') := Zf (pss_cons h t) fun _ _ _ h => afZ h
theorem Ak (h : ES X ew st g) : ESs X ew [st] g := pss_one h
theorem YB (h : E X ew fl e f) (hs : swapsWith e none pos.line X.env = pure false := by rfl) : ES X ew (.Expr e pos) (aab f) := DY (ps_expr h hs) fun _ _ _ q => aef q
theorem Ba (h : E X ew true e f) : ES X ew (.Return (some e) pos) (sRet f) := DY (ps_ret h) fun _ _ _ q => af0 q
theorem Fe (hc : EB X ew e c) (ha : ESs X ew p g) (hb : ESs X ew q g') : ES X ew (.If e p q pos) (sIf c g g') := DY (ps_if hc ha hb) fun _ _ _ h => ahL h
end
def clr (own : Nat → List Addr) (i : Nat) (F : List Addr) : Nat → List Addr := fun j => if j = i then F else own j
theorem clr_at {own : Nat → List Addr} {i : Nat} {F : List Addr} : clr own i F i = F := if_pos rfl
theorem LR {own : Nat → List Addr} {i j : Nat} {F : List Addr} (h : j ≠ i) : clr own i F j = own j := if_neg h
theorem QX {G : Addr → Prop} {φ : List Addr} {own : Nat → List Addr} {i : Nat} {F : List Addr} {a : Addr} (h : Mu G φ (clr own i F) a) : Mu G φ own a ∨ a ∈ F := by
 rcases h with h | h | ⟨j, h⟩
 ·exact .inl (.inl h)
 ·exact .inl (.inr (.inl h))
 ·by_cases e : j = i
  ·subst e; rw [clr_at] at h; exact .inr h
  ·rw [LR e] at h; exact .inl (.inr (.inr ⟨j, h⟩))
theorem Rel.set {K : PySem.W.Frag} {W : Wd} {φ : List Addr} {own : Nat → List Addr} {env : En} {S : Sto} {σ : L2.St} {H : Hp} (r : Rel K W φ own env S σ H) {i : Nat} (hi : i < env.length) {u : V} {sv : Sv} {F : List Addr}
  (hF : ∀ a ∈ F, ¬ Mu W.G φ (clr own i []) a ∧ (H a).isSome = true ∧ (∀ xs, H a ≠ some (.tup xs)) ∧ (∀ o x, H a = some (.frz o x) → ∃ ys, x = .tup ys) ∧ W.H0 a = none)
  (frame : ∀ j sv, j ≠ i → env[j]? = some (some sv) → ∃ u, σ[j]? = some (some u) ∧ M6 K (hz (Mu W.G φ (clr own i F)) H) φ H u (own j) sv)
  (cells : ZX K (hz (Mu W.G φ (clr own i F)) H) φ S H)
  (hs : M6 K (hz (Mu W.G φ (clr own i F)) H) φ H u F sv) : Rel K W φ (clr own i F) (env.set i (some sv)) S (σ.set i (some u)) H where
 disj := fun j k a hj hk => by
  by_cases e1 : j = i
  ·by_cases e2 : k = i
   ·rw [e1, e2]
   ·subst e1
    rw [clr_at] at hj
    rw [LR e2] at hk
    exact absurd (.inr (.inr ⟨k, by rw [LR e2]; exact hk⟩)) (hF a hj).1
  ·by_cases e2 : k = i
   ·subst e2
    rw [clr_at] at hk
    rw [LR e1] at hj
    exact absurd (.inr (.inr ⟨j, by rw [LR e1]; exact hj⟩)) (hF a hk).1
   ·rw [LR e1] at hj
    rw [LR e2] at hk
    exact r.disj j k a hj hk
 apart := fun j a h z => by
  by_cases e : j = i
  ·subst e; rw [clr_at] at h; exact (hF a h).1 (.inr (.inl z))
  ·rw [LR e] at h; exact r.apart j a h z
 ndφ := r.ndφ
 gd := fun a h => ⟨(r.gd a h).1, fun j hj => by
  by_cases e : j = i
  ·subst e; rw [clr_at] at hj; exact (hF a hj).1 (.inl h)
  ·rw [LR e] at hj; exact (r.gd a h).2 j hj⟩
 mu := fun a h => (QX h).elim (fun z => r.mu a z) fun z => ⟨(hF a z).2.1, (hF a z).2.2.1, (hF a z).2.2.2.1⟩
 len := by rw [List.length_set, List.length_set]; exact r.len
 slot := fun j sv' h => by
  by_cases e : j = i
  ·subst e
   rw [List.getElem?_set_self hi] at h
   cases h
   exact ⟨u, by rw [List.getElem?_set_self (by rw [r.len]; exact hi)], by rw [clr_at]; exact hs⟩
  ·rw [List.getElem?_set_ne (Ne.symm e)] at h
   obtain ⟨u', h1, h2⟩ := frame j sv' e h
   refine ⟨u', by rw [List.getElem?_set_ne (Ne.symm e)]; exact h1, ?_⟩
   rw [LR e]
   exact h2
 cell := cells
 base := r.base
 newF := fun j a h => by
  by_cases e : j = i
  ·subst e; rw [clr_at] at h; exact (hF a h).2.2.2.2
  ·rw [LR e] at h; exact r.newF j a h
theorem Rel.setD {K : PySem.W.Frag} {W : Wd} {φ : List Addr} {own : Nat → List Addr} {env : En} {S : Sto} {σ : L2.St} {H : Hp} (r : Rel K W φ own env S σ H) {i : Nat} (hi : i < env.length) {u : V} {sv : Sv}
  (hs : M6 K (hz (Mu W.G φ own) H) φ H u [] sv) : Rel K W φ (clr own i []) (env.set i (some sv)) S (σ.set i (some u)) H := by
 have sub : Ext (hz (Mu W.G φ own) H) (hz (Mu W.G φ (clr own i [])) H) := Du fun a _ _ h => (QX h).elim id fun z => absurd z (by simp)
 refine r.set hi (fun a h => absurd h (by simp)) (fun j sv _ h => (r.slot j sv h).imp fun u q => ⟨q.1, q.2.ext sub (List.prefix_refl _) fun _ _ => rfl⟩) ⟨r.cell.1, fun n c a h1 h2 => (r.cell.2 n c a h1 h2).ext sub rfl⟩ (hs.ext sub (List.prefix_refl _) fun _ _ => rfl)
def svOf : Va → Sv
 | .d p => .d p
 | .c n => .c n
 | .s n => .s n
 | .q y ds => .q y ds
abbrev TF := Va → En → Option En
def gN (i : Nat) : TF := fun v env => if i < env.length then some (env.set i (some (svOf v))) else none
def gTs : List TF → List PyData → En → Option En
 | [], [], env => some env
 | t :: ts, p :: ps, env => (t (.d p) env).bind fun env' => gTs ts ps env'
 | _, _, _ => none
def gT (ts : List TF) : TF := fun v env => match v with
 | .d (.tuple ps) => gTs ts ps env
 | _ => none
def Offs (ts : List Nat) (own own' : Nat → List Addr) (σ σ' : L2.St) : Prop := (∀ vs, (∀ i ∈ ts, i ∈ vs) → wipe σ' vs = wipe σ vs) ∧ ∀ i a, a ∈ own i → i ∈ ts ∨ a ∈ own' i
theorem YZ {σ : L2.St} {i : Nat} {x : Option V} : ∀ {vs : List Nat}, i ∈ vs → wipe (σ.set i x) vs = wipe σ vs
 | [], h => absurd h (by simp)
 | v :: vs, h => by
  by_cases e : i ∈ vs
  ·unfold wipe; rw [YZ e]
  ·have e2 : i = v := (List.mem_cons.mp h).elim id fun z => absurd z e
   subst e2
   have key : ∀ ws : List Nat, i ∉ ws → wipe (σ.set i x) ws = (wipe σ ws).set i x := fun ws => by
    induction ws with
    | nil => exact fun _ => rfl
    | cons w ws ih =>
     intro hw
     unfold wipe
     rw [ih fun z => hw (List.mem_cons_of_mem _ z), List.set_comm]
     exact fun z => hw (by rw [z]; exact List.mem_cons_self)
   unfold wipe
   rw [key vs e, List.set_set]
def tG (C : Ct) (ts : List Nat) (t : TF) : TG := fun u σ H Q => ∃ W φ own env S v, Rel C.K W φ own env S σ H ∧ VRep C.K (Mu W.G φ own) φ H u v ∧ ∃ env', t v env = some env' ∧ ∀ own' σ', Rel C.K W φ own' env' S σ' H → (∀ a, Mu W.G φ own' a → Mu W.G φ own a) → Offs ts own own' σ σ' → Q σ' H
def tGs (C : Ct) (us : List Nat) (ts : List TF) : TGs := fun vs σ H Q => ∃ W φ own env S ps, Rel C.K W φ own env S σ H ∧ Af C.K (hz (Mu W.G φ own) H) vs ps ∧ ∃ env', gTs ts ps env = some env' ∧ ∀ own' σ', Rel C.K W φ own' env' S σ' H → (∀ a, Mu W.G φ own' a → Mu W.G φ own a) → Offs us own own' σ σ' → Q σ' H
def EG (X : Cx) (ew : WX) (tg : Expr) (us : List Nat) (t : TF) : Prop := PG X tg (tG ⟨X.K, X.mg, ew⟩ us t)
def EGs (X : Cx) (ew : WX) (tg : List Expr) (us : List Nat) (t : List TF) : Prop := PGs X tg (tGs ⟨X.K, X.mg, ew⟩ us t)
theorem abh {X : Cx} {e : Expr} {t t' : TG} (h : PG X e t) (i : ∀ v σ H Q, t' v σ H Q → t v σ H Q) : PG X e t' := ⟨fun pins s σ H x u Q I r q => h.run pins s σ H x u Q I r (i _ _ _ _ q)⟩
theorem Zh {X : Cx} {e : List Expr} {t t' : TGs} (h : PGs X e t) (i : ∀ v σ H Q, t' v σ H Q → t v σ H Q) : PGs X e t' := ⟨fun pins s σ H x u Q I r q => h.run pins s σ H x u Q I r (i _ _ _ _ q)⟩
section
variable {C : Ct} {σ : L2.St} {H : Hp} {Q : L2.St → Hp → Prop} {u : V}
theorem X4 {i : Nat} (h : tG C [i] (gN i) u σ H Q) : gName i u σ H Q := by
 obtain ⟨W, φ, own, env, S, v, r, hv, env', e, h⟩ := h
 unfold gN at e
 by_cases hi : i < env.length
 ·rw [if_pos hi] at e
  cases e
  refine h _ _ (r.setD hi ?_) (fun a z => (QX z).elim id fun z => absurd z (by simp)) ⟨fun vs hv => YZ (hv i (by simp)), fun j a ha => (Decidable.em (j = i)).elim (fun z => .inl (by rw [z]; simp)) fun z => .inr (by rw [LR z]; exact ha)⟩
  cases v with
  | d p => exact ⟨hv, rfl⟩
  | c n => obtain ⟨a, h1, h2⟩ := hv; exact ⟨a, h1, h2, rfl⟩
  | s n => exact ⟨hv, rfl⟩
  | q y ds => exact ⟨hv, rfl⟩
 ·rw [if_neg hi] at e; cases e
theorem ael {us : List V} (h : tGs C [] [] us σ H Q) : gNil us σ H Q := by
 obtain ⟨W, φ, own, env, S, ps, r, hv, env', e, h⟩ := h
 cases hv with
 | nil => cases e; exact ⟨rfl, h own σ r (fun _ z => z) ⟨fun _ _ => rfl, fun i a h => .inr h⟩⟩
 | cons _ _ => cases e
theorem acD {t : TF} {ts : List TF} {us : List V} {is js : List Nat} (h : tGs C (is ++ js) (t :: ts) us σ H Q) : gCons (tG C is t) (tGs C js ts) us σ H Q := by
 obtain ⟨W, φ, own, env, S, ps, r, hv, env', e, h⟩ := h
 cases hv with
 | nil => cases e
 | cons h1 h2 =>
  obtain ⟨env1, e1, e2⟩ := Option.bind_eq_some_iff.mp e
  refine ⟨_, _, rfl, W, φ, own, env, S, .d _, r, h1, env1, e1, fun own1 σ1 r1 k1 o1 => ?_⟩
  exact ⟨W, φ, own1, env1, S, _, r1, h2.ext (Du fun a _ _ z => k1 a z), env', e2, fun own2 σ2 r2 k2 o2 => h own2 σ2 r2 (fun a z => k1 a (k2 a z)) ⟨fun vs hv => (o2.1 vs fun i hi => hv i (List.mem_append_right _ hi)).trans (o1.1 vs fun i hi => hv i (List.mem_append_left _ hi)), fun i a h => (o1.2 i a h).elim (fun z => .inl (List.mem_append_left _ z)) fun z => (o2.2 i a z).elim (fun z => .inl (List.mem_append_right _ z)) .inr⟩⟩
theorem abP : ∀ {ts : List TF} {ps : List PyData} {env env' : En}, gTs ts ps env = some env' → ps.length = ts.length
 | [], [], _, _, _ => rfl
 | t :: ts, p :: ps, env, env', h => by
  obtain ⟨env1, e1, e2⟩ := Option.bind_eq_some_iff.mp h
  rw [List.length_cons, List.length_cons, abP e2]
 | [], _ :: _, _, _, h => by cases h
 | _ :: _, [], _, _, h => by cases h
theorem aga {ts : List TF} {is : List Nat} (h : tG C is (gT ts) u σ H Q) : gTup C.K ts.length (tGs C is ts) u σ H Q := by
 obtain ⟨W, φ, own, env, S, v, r, hv, env', e, h⟩ := h
 unfold gT at e
 split at e
 ·rename_i ps
  cases hv with
  | tup hs hl ha =>
   exact ⟨_, _, rfl, SqT.of (Dq _ _ hs), by rw [ha.length, abP e], W, φ, own, env, S, ps, r, ha, env', e, h⟩
 ·cases e
end
section
variable {X : Cx} {ew : WX} {x : Str} {pos : Pos} {i : Nat} {e : Expr} {es : List Expr} {t : TF} {ts : List TF} {is js : List Nat}
theorem afm (hN : X.N.Nodup) (hx : X.N[i]? = some x) (hl : Loc X.env.scope x) (hf : X.fn x = true ∨ X.env.scope.names.lookup x = some .local := by first | exact .inl rfl | exact .inr rfl | assumption) : EG X ew (.Name x pos) [i] (gN i) := abh (pg_name hN hx hl hf) fun _ _ _ _ q => X4 q
theorem Ov : EGs X ew [] [] [] := Zh pgs_nil fun _ _ _ _ q => ael q
theorem Ek (h : EG X ew e is t) (h' : EGs X ew es js ts) (hs : (assignEach (e :: es) X.env).map (·.2) = assign e X.env :: (assignEach es X.env).map (·.2) := by rfl) : EGs X ew (e :: es) (is ++ js) (t :: ts) := Zh (pgs_cons h h' hs) fun _ _ _ _ q => acD q
theorem T8 {k : Nat} (hc : X.calm = true) (h : EGs X ew es is ts) (hn : (assignEach es X.env).length = ts.length := by rfl) (hst : (assignEach es X.env).findIdx? (·.1) = none := by rfl) : EG X ew (.Tuple es k pos) is (gT ts) :=
 abh (pg_tup hc h hn hst) fun _ _ _ _ q => aga q
end
def sAsg (f : DF) (t : TF) : SF := fun env => lift env (f env) fun v => bnd (ofO (t v env)) fun env' => ret (.nx, env')
theorem aaL {C : Ct} {σ : L2.St} {H : Hp} {D : Ends} {f : DF} {t : TF} {is : List Nat} (h : tS C (sAsg f t) D σ H) : tAsg (tI C true f) (tG C is t) D σ H := by
 obtain ⟨W, φ, own, env, S, r, h⟩ := h
 refine ⟨W, φ, own, env, S, r, (Cu.mp h).mono (fun v S1 q φ1 H1 u r1 k1 v1 => ?_) fun x S1 q φ1 H1 r1 k1 => q φ1 own σ H1 r1⟩
 obtain ⟨env', e, q⟩ := Aq.mp (Ad.mp q)
 exact ⟨W, φ1, own, env, S1, v, r1, v1, env', e, fun own' σ' r' _ _ => q φ1 own' σ' H1 r'⟩
section
variable {X : Cx} {ew : WX} {e tg : Expr} {f : DF} {t : TF} {pos pos' : Pos} {i : Nat} {x : Str} {is : List Nat}
theorem agU (h : E X ew true e f) (hg : EG X ew tg is t) (hs : swapsWithSole [tg] e pos.line X.env = pure false := by rfl) (hw : swappedStores [tg] e X.env = pure none := by rfl)
  (h1 : (assignEach [tg] X.env).map (·.2) = [assign tg X.env] := by rfl) : ES X ew (.Assign [tg] e pos) (sAsg f t) := DY (ps_asg h hg hs hw h1) fun _ _ _ q => aaL q
theorem BX (hN : X.N.Nodup) (hi : X.N[i]? = some x) (hx : Loc X.env.scope x) (he : E X ew true e f) (hs : swapsWith e (some (.Name x pos')) pos.line X.env = pure false := by rfl) (hf : X.fn x = true ∨ X.env.scope.names.lookup x = some .local := by first | exact .inl rfl | exact .inr rfl | assumption) :
  ES X ew (.Assign [.Name x pos'] e pos) (sAsg f (gN i)) := DY (ps_set hN hi hx he hs hf) fun _ _ _ q => by
   obtain ⟨W, φ, own, env, S, r, q⟩ := aaL q
   exact ⟨W, φ, own, env, S, r, q.mono (fun v S1 q φ1 H1 u r1 k1 v1 => X4 (q φ1 H1 u r1 k1 v1)) fun _ _ q => q⟩
end
noncomputable def low (own : Nat → List Addr) (H : Hp) : Hp := hz (fun a => ∃ i, a ∈ own i) H
section
variable {K : PySem.W.Frag} {W : Wd} {φ φ' : List Addr} {own own' : Nat → List Addr} {env env' : En} {S S' : Sto} {σ σ' : L2.St} {H H' : Hp}
theorem Rel.rebase (r : Rel K W φ own env S σ H) : Rel K ⟨W.G, low own H, φ⟩ φ own env S σ H where
 disj := r.disj
 apart := r.apart
 ndφ := r.ndφ
 gd := r.gd
 mu := r.mu
 len := r.len
 slot := r.slot
 cell := r.cell
 base := ⟨List.prefix_refl _, fun a o _ h => (Aj.mp (show hz (fun a => ∃ i, a ∈ own i) H a = some o from h)).2, fun a h n => absurd h n⟩
 newF := fun i a h => by
  show low own H a = none
  unfold low hz
  exact if_pos ⟨i, h⟩
theorem Rel.Y0 (r : Rel K W φ own env S σ H) (q : Rel K ⟨W.G, low own H, φ⟩ φ' own' env' S' σ' H') : Rel K W φ' own' env' S' σ' H' where
 disj := q.disj
 apart := q.apart
 ndφ := q.ndφ
 gd := q.gd
 mu := q.mu
 len := q.len
 slot := q.slot
 cell := q.cell
 base := by
  have kk : ∀ a o, a ∉ W.φ0 → W.H0 a = some o → low own H a = some o ∧ a ∉ φ := fun a o n h => by
   refine ⟨Ey (r.base.keep a o n h) fun ⟨i, z⟩ => ?_, fun z => ?_⟩
   ·have := r.newF i a z
    rw [h] at this; cases this
   ·have := r.base.new a z n
    rw [h] at this; cases this
  refine ⟨r.base.pre.trans q.base.pre, fun a o n h => ?_, fun a z n => ?_⟩
  ·obtain ⟨h1, h2⟩ := kk a o n h
   exact q.base.keep a o h2 h1
  ·cases e : W.H0 a with
   | none => rfl
   | some o =>
    obtain ⟨h1, h2⟩ := kk a o n e
    have := q.base.new a z h2
    rw [show (⟨W.G, low own H, φ⟩ : Wd).H0 a = low own H a from rfl, h1] at this; cases this
 newF := fun i a z => by
  cases e : W.H0 a with
  | none => rfl
  | some o =>
   by_cases n : a ∈ W.φ0
   ·exact absurd (q.base.pre.subset (r.base.pre.subset n)) (q.apart i a z)
   ·have h1 := r.base.keep a o n e
    have h2 : low own H a = some o := Ey h1 fun ⟨j, y⟩ => by
     have := r.newF j a y
     rw [e] at this; cases this
    have := q.newF i a z
    rw [show (⟨W.G, low own H, φ⟩ : Wd).H0 a = low own H a from rfl, h2] at this; cases this
theorem Rel.still (r : Rel K W φ own env S σ H) (q : Rel K ⟨W.G, low own H, φ⟩ φ' own' env' S' σ' H') : Ext (hz (Mu W.G φ own) H) (hz (Mu W.G φ' own') H') := fun a o h => by
 obtain ⟨n, h⟩ := Aj.mp h
 have hl : low own H a = some o := Ey h fun z => n (.inr (.inr z))
 have na : a ∉ φ := fun z => n (.inr (.inl z))
 refine Ey (q.base.keep a o na hl) fun z => ?_
 rcases z with z | z | ⟨i, z⟩
 ·exact n (.inl z)
 ·have := q.base.new a z na
  rw [show (⟨W.G, low own H, φ⟩ : Wd).H0 a = low own H a from rfl, hl] at this; cases this
 ·have := q.newF i a z
  rw [show (⟨W.G, low own H, φ⟩ : Wd).H0 a = low own H a from rfl, hl] at this; cases this
end
structure ItR (K : PySem.W.Frag) (Z : Hp) (J : It) (items : List PyData) : Prop where
 stop : ∀ H, Ext Z H → J.stop items.length H
 go : ∀ i p H, Ext Z H → items[i]? = some p → J.go i H
 yld : ∀ i p H x H', Ext Z H → items[i]? = some p → J.yld i H x H' → Ext H H' ∧ ∀ Nu, MuOk Nu H → Ext Z (hz Nu H) → Rep K (hz Nu H') x p
abbrev DL := En → M (List PyData)
def tIt (C : Ct) (fl : Bool) (f : DL) : TI := fun σ H R => ∃ W φ own env S, Rel C.K W φ own env S σ H ∧
 (f env S).sat (fun ps S' => ∀ φ' H' J, Rel C.K W φ' own env S' σ H' → Kp φ H φ' H' → ItR C.K (hz (Mo fl W.G φ' own) H') J ps → R J H')
  (fun x S' => ∀ φ' H', Rel C.K W φ' own env S' σ H' → Kp φ H φ' H' → Kh C (Mu W.G φ' own) σ H' x)
def EI (X : Cx) (ew : WX) (fl : Bool) (tg it : Expr) (f : DL) : Prop := PI X tg it (tIt ⟨X.K, X.mg, ew⟩ fl f)
def JM (t : TF) (body : SF) : List PyData → SF
 | [] => fun env => ret (.nx, env)
 | p :: ps => fun env => bnd (ofO (t (.d p) env)) fun env1 => bnd (body env1) fun r => match r.1 with
  | .nx => JM t body ps r.2
  | .ct => JM t body ps r.2
  | .bk => ret (.nx, r.2)
  | .rt v => ret (.rt v, r.2)
  | .xc x => ret (.xc x, r.2)
def sFor (f : DL) (t : TF) (body : SF) : SF := fun env => lift env (f env) fun ps => JM t body ps env
theorem af4 {C : Ct} {σ : L2.St} {H : Hp} {D : Ends} {f : DL} {t : TF} {body : SF} {is : List Nat} (h : tS C (sFor f t body) D σ H) : tFor (tIt C true f) (tG C is t) (tS C body) D σ H := by
 obtain ⟨W, φ, own, env, S, r, h⟩ := h
 refine ⟨W, φ, own, env, S, r, (Cu.mp h).mono (fun ps S1 q φ1 H1 J r1 k1 it => ?_) fun x S1 q φ1 H1 r1 k1 => q φ1 own σ H1 r1⟩
 refine ⟨fun i m σ2 H2 => ∃ φ2 own2 env2 S2, Rel C.K ⟨W.G, low own H1, φ1⟩ φ2 own2 env2 S2 σ2 H2 ∧ i + m = ps.length ∧ (JM t body (ps.drop i) env2 S2).sat (Post C D W) (fun _ _ => False), ⟨ps.length, φ1, own, env, S1, r1.rebase, by simp, q⟩, ?_⟩
 rintro i m σ2 H2 ⟨φ2, own2, env2, S2, r2, em, q2⟩
 have ex2 : Ext (hz (Mu W.G φ1 own) H1) (hz (Mu W.G φ2 own2) H2) := r1.still r2
 have ez : Ext (hz (Mo true W.G φ1 own) H1) H2 := Ext.trans ex2 Dq
 by_cases hi : i < ps.length
 ·have hd : ps.drop i = ps[i] :: ps.drop (i + 1) := List.drop_eq_getElem_cons hi
  rw [hd] at q2
  have gi : ps[i]? = some ps[i] := List.getElem?_eq_getElem hi
  obtain ⟨env3, e3, q3⟩ := Aq.mp (Ad.mp q2)
  refine .inr ⟨it.go i _ H2 ez gi, fun σ' H' => ∃ φ4 own4 env4 S4, Rel C.K ⟨W.G, low own H1, φ1⟩ φ4 own4 env4 S4 σ' H' ∧ (JM t body (ps.drop (i + 1)) env4 S4).sat (Post C D W) (fun _ _ => False), fun σ' H' ⟨φ4, own4, env4, S4, r4, q4⟩ => ⟨m - 1, by omega, φ4, own4, env4, S4, r4, by omega, q4⟩, fun x H3 y => ?_⟩
  obtain ⟨eg, rep⟩ := it.yld i _ H2 x H3 ez gi y
  have r3 := r2.grow eg
  refine ⟨⟨W.G, low own H1, φ1⟩, φ2, own2, env2, S2, .d ps[i], r3, rep _ r2.mu ex2, env3, e3, fun own3 σ3 r4 _ _ => ?_⟩
  refine ⟨⟨W.G, low own H1, φ1⟩, φ2, own3, env3, S2, r4, (Ad.mp q3).mono (fun p S5 q5 => ?_) fun _ _ z => z⟩
  obtain ⟨fl, env5⟩ := p
  cases fl with
  | nx => exact fun φ' own' σ' H' r' => ⟨φ', own', env5, S5, r', q5⟩
  | ct => exact fun φ' own' σ' H' r' => ⟨φ', own', env5, S5, r', q5⟩
  | bk => exact fun φ' own' σ' H' r' => q5 φ' own' σ' H' (r1.Y0 r')
  | rt v => exact fun φ' own' σ' H' u r' hv => q5 φ' own' σ' H' u (r1.Y0 r') hv
  | xc x => exact fun φ' own' σ' H' r' => q5 φ' own' σ' H' (r1.Y0 r')
 ·have hi' : ps.length ≤ i := Nat.le_of_not_lt hi
  rw [List.drop_eq_nil_of_le hi'] at q2
  have ei : i = ps.length := by omega
  subst ei
  exact .inl ⟨it.stop H2 ez, q2 φ2 own2 σ2 H2 (r1.Y0 r2)⟩
theorem Ih {X : Cx} {ew : WX} {tg it : Expr} {body : List Stmt} {f : DL} {t : TF} {g : SF} {pos : Pos} {is : List Nat} (hp : PassesOwn (model X.prog X.w) X.A X.env X.xe) (hc : X.calm = true) (hi : EI X ew true tg it f) (hg : EG X ew tg is t) (hb : ESs X ew body g)
  (hs : ∀ x, foldedSetIterable it X.env x = pure x := by intro _; rfl) : ES X ew (.For tg it body [] pos) (sFor f t g) := DY (ps_for hp hc hi hg hb hs) fun _ _ _ q => af4 q
def Bj (n : Nat) (ds : List Va) : En := ds.map (fun v => some (svOf v)) ++ List.replicate (n - ds.length) none
def runF (n : Nat) (body : SF) : List Va → M Va := fun ds S => match body (Bj n ds) S with
 | .ok (.nx, _) S' => .ok (.d .none) S'
 | .ok (.rt v, _) S' => .ok v S'
 | .ok (.xc x, _) S' => .exc x S'
 | _ => .stuck
theorem WP {K : PySem.W.Frag} {G : Addr → Prop} {φ : List Addr} {S : Sto} {H : Hp} {N : List Str} {vs : List V} {ds : List Va} (e : Ent K G φ S H) (hv : Cr K (Mu G φ nob) φ H vs ds) (hn : vs.length ≤ N.length) :
  Rel K ⟨G, H, φ⟩ φ nob (Bj N.length ds) S (L2.start N vs) H where
 disj := fun i j a h => absurd h (by simp [nob])
 apart := fun i a h => absurd h (by simp [nob])
 ndφ := e.nd
 gd := fun a h => ⟨e.gd a h, fun i => by simp [nob]⟩
 mu := e.mu
 len := by
  unfold L2.start Bj
  simp only [List.length_append, List.length_map, List.length_replicate, hv.length]
 slot := fun i sv h => by
  unfold Bj at h
  have key : ∀ {vs : List V} {ds : List Va}, Cr K (Mu G φ nob) φ H vs ds → ∀ (m : Nat) (i : Nat), (ds.map (fun v => some (svOf v)) ++ List.replicate m none)[i]? = some (some sv) → ∃ u, (vs.map some ++ List.replicate m none)[i]? = some (some u) ∧ M6 K (hz (Mu G φ nob) H) φ H u [] sv := by
   intro vs ds hv
   induction hv with
   | nil =>
    intro m i h
    simp only [List.map_nil, List.nil_append, List.getElem?_replicate] at h
    split at h <;> cases h
   | cons h1 _ ih =>
    intro m i h
    cases i with
    | zero =>
     simp at h
     subst h
     refine ⟨_, rfl, ?_⟩
     rename_i v _ _ _
     cases v with
     | d p => exact ⟨h1, rfl⟩
     | c n => obtain ⟨a, q1, q2⟩ := h1; exact ⟨a, q1, q2, rfl⟩
     | s n => exact ⟨h1, rfl⟩
     | q y ds => exact ⟨h1, rfl⟩
    | succ i => exact ih m i (by simpa using h)
  obtain ⟨u, h1, h2⟩ := key hv _ i h
  refine ⟨u, ?_, h2⟩
  unfold L2.start
  rw [hv.length]
  exact h1
 cell := e.cell
 base := Kp.refl
 newF := fun i a h => absurd h (by simp [nob])
theorem Rel.leave {K : PySem.W.Frag} {W : Wd} {φ : List Addr} {own : Nat → List Addr} {env : En} {S : Sto} {σ : L2.St} {H : Hp} (r : Rel K W φ own env S σ H) : Ent K W.G φ S H := by
 have sub : ∀ a, Mu W.G φ nob a → Mu W.G φ own a := fun a h => h.elim .inl fun h => h.elim (fun h => .inr (.inl h)) fun ⟨_, h⟩ => absurd h (by simp [nob])
 exact ⟨r.ndφ, fun a h => (r.gd a h).1, r.mu.sub sub, r.cell.1, fun n c a h1 h2 => (r.cell.2 n c a h1 h2).ext (Du fun a _ _ z => sub a z) rfl⟩
theorem Kh.leave {C : Ct} {G : Addr → Prop} {φ : List Addr} {own : Nat → List Addr} {σ σ' : L2.St} {H : Hp} {x : Ex} (hw : ∀ c d σ σ' H, C.ew c d σ H → C.ew c d σ' H) (h : Kh C (Mu G φ nob) σ H x) : Kh C (Mu G φ own) σ' H x := ⟨fun a d h1 h2 => hw _ _ _ _ _ (h.1 a d h1 (h2.ext (Du fun a _ _ z => z.elim .inl fun z => z.elim (fun z => .inr (.inl z)) fun ⟨_, z⟩ => absurd z (by simp [nob])))), fun h1 h2 d => hw _ _ _ _ _ (h.2 h1 h2 d)⟩
theorem ad1 {CX : CXT} {P : Program} {w : World} {K : PySem.W.Frag} {mg : Str → Option Value} {base : Heap} {k : Nat} {f : Addr} {name qual : Str} {params : Arguments} {body : List Stmt} {scope : Scope} {dV kV doc pm cdv ct oc : Value} {an od : Option Addr}
  {osl : Array (Option Value)} {N ps : List Str} {sp : Sp} (lk : K.lookup f = some ⟨oc, od, .func (PySem.W.fnOf name qual params body scope dV kV doc pm an cdv ct), osl⟩) (hcd : PySem.W.codeIn K cdv qual = true) (S : FnScope N ps scope)
  (len : ∀ vs H Q E, sp vs H Q E → vs.length = ps.length)
  (hbody : ∀ (A : Around) (outer : List Env) (s : Shared) (H : Hp) (vs : List V) (Q : VK) (E : XK), A.guards = some [] → Room k (A.deeper (envOfC qual scope s.heap.objs.size f cdv)) → sp vs H Q E →
   ∃ t, PSs (cxOf CX P w K mg base N qual scope f cdv A outer s H E) body t ∧ t { nx := fun _ H' => Q .non H', rt := Q } (L2.start N vs) H) :
  FnG P w K mg base CX (k + 1) f (PySem.W.fnOf name qual params body scope dV kV doc pm an cdv ct) ps sp := by
 refine ⟨len, fun A outer s H args us vs Q E hg hr e0 hb r hsp => ?_⟩
 have keep : ∀ b o, base.get? b = some o → s.heap.get? b = some o := fun b o e => (e0.bs b o e).1
 have kinds : ∀ y ∈ ps.zip us, scope.names.lookup y.1 = some .local ∨ (scope.names.lookup y.1 = some .cell ∧ ((cellsFrom (s.heap.objs.size + 1) scope.names []).lookup y.1).isSome = true) := by
  rintro ⟨n, v⟩ hy
  exact (S.par n (List.of_mem_zip hy).1).imp id fun q => ⟨q, PySem.W.cellsFrom_some _ _ _ (.inl q)⟩
 refine codeAny_call_function hr.depth (e0.mod.kin.keeps keep _ _ lk) rfl S.co S.gen rfl (PySem.W.codeRec_of (e0.mod.kin.keeps keep) hcd) (hb _ _ _ _ ?_)
 refine wpAny_newFunctionEnv_cells S.kind kinds fun env he s1 x => ?_
 cases he
 refine ⟨(e0.mod.nolimit.keeps keep).keeps x.toInCall.keep, codeAny_func ?_⟩
 obtain ⟨t, ht, hq⟩ := hbody A outer s H vs Q E hg (hr.deeper _) hsp
 refine wpAny_mono (ht.run [] s1 (L2.start N vs) H _ (inv_start S hr.hd e0 (len _ _ _ _ hsp) r x) hq) (fun fl s' hs => ?_) fun e s' hs => hs
 cases fl with
 | ret u => obtain ⟨v, σ', H', J, rv, q⟩ := hs; exact ⟨v, H', J.os, J.bare, J.base, J.hok, rv, q⟩
 | next => obtain ⟨σ', H', J, q⟩ := hs; exact ⟨.non, H', J.os, J.bare, J.base, J.hok, rfl, q⟩
 | brk => obtain ⟨_, _, _, q⟩ := hs; exact q.elim
 | cont => obtain ⟨_, _, _, q⟩ := hs; exact q.elim
end KP
namespace PySem
open Builtin
set_option maxHeartbeats 1000000 in
theorem Yr {v : Value} {o : Obj} {H : Heap → Prop} (B : Begins v o H) :
  Meets (Builtin.«enumerate.__new__» ⟨[.type "enumerate", v], []⟩) (fun _ R s => H s.heap ∧
   R (.ok (.ret (.ref (s.heap.push o).objs.size))) { s with heap := (s.heap.push o).push { cls := .type "enumerate", data := .fields #[.none, .bool false, .ref s.heap.objs.size, rawInt 0, .none, .none] } }) :=
 .of_wp fun prog w A R s h => by
  obtain ⟨hp, g, d, tk, os⟩ := s; obtain ⟨h1, h⟩ := h
  have hsub := sub_enumerate
  have q1 : ∀ {A' : Around} {E : Value → Shared → Prop} {Q : Value → Shared → Prop}, Q (.ref hp.objs.size) ⟨hp.push o, g, d, tk, os⟩ → wpAny (model prog w) A' (pyIter v) Q E ⟨hp, g, d, tk, os⟩ :=
   fun q => B.iter prog w _ _ ⟨hp, g, d, tk, os⟩ _ h1 q
  wp_walk using q1
  refine wpAny_stack_any fun st => wpAny_pure ?_
  split
  ·rename_i c _ _ _ _ _
   cases (c == Value.type "enumerate")
   ·wp_walk using q1
    exact ⟨_, rfl, h⟩
   ·wp_walk using q1
    exact ⟨_, rfl, h⟩
  ·wp_walk using q1
   exact ⟨_, rfl, h⟩
theorem Xa {prog : Program} {w : World} {A : Around} {E : Value → Shared → Prop} {s : Shared} {v : Value} {o : Obj} {H : Heap → Prop} {Q : Value → Shared → Prop} (B : Begins v o H) (h1 : H s.heap)
  (h : ∀ h', IsEnum h' (s.heap.objs.size + 1) s.heap.objs.size 0 .none → h'.get? s.heap.objs.size = some o → h'.objs.size = s.heap.objs.size + 2 →
   (∀ b o, s.heap.get? b = some o → h'.get? b = some o) → Q (.ref (s.heap.objs.size + 1)) { s with heap := h' }) :
  wpAny (model prog w) A (call (.type "enumerate") [v]) Q E s := by
 refine callType_new F.called_enumerate (by decide) (F.typeCall_enumerate_1 _) (F.newCall_enumerate_1 _) (fun obj => F.args_object_init_2 obj _) F.entry_enumerate_new
  (Yr B) ⟨h1, ?_⟩
 have hz : (s.heap.push o).objs.size = s.heap.objs.size + 1 := Heap.size_push ..
 show _ ∧ _
 rw [hz]
 have he : IsEnum ((s.heap.push o).push { cls := .type "enumerate", data := .fields #[.none, .bool false, .ref s.heap.objs.size, rawInt 0, .none, .none] }) (s.heap.objs.size + 1) s.heap.objs.size 0 .none := by
  have := Heap.get?_push_size (s.heap.push o) (o := { cls := .type "enumerate", data := .fields #[.none, .bool false, .ref s.heap.objs.size, rawInt 0, .none, .none] }) rfl
  rw [hz] at this; exact this
 refine ⟨⟨_, he, rfl⟩, h _ he (Heap.get?_push_of_some _ (Heap.get?_push_size _ B.free)) (by rw [Heap.size_push, hz]) fun b o x => Heap.get?_push_of_some _ (Heap.get?_push_of_some _ x)⟩
end PySem
namespace KP
open PySem PySem.Spec PyProof.Rows L2
theorem ada {K : PySem.W.Frag} {Z : Hp} {a : Addr} {xs : List V} {ps : List PyData} (h : SqL K Z a xs) (r : Af K Z xs ps) : ItR K Z (Itl K a) ps where
 stop := fun H e => ⟨xs, Ef e h, by rw [r.length]; exact Nat.le_refl _⟩
 go := fun i p H e hp => by
  obtain ⟨v, hv, _⟩ := r.get hp
  exact ⟨xs, v, Ef e h, hv⟩
 yld := fun i p H x H' e hp y => by
  obtain ⟨rfl, y⟩ := y
  obtain ⟨v, hv, q⟩ := r.get hp
  have := y xs (Ef e h)
  rw [hv] at this; cases this
  exact ⟨Ext.refl, fun Nu _ ez => q.ext ez⟩
theorem ae3 {K : PySem.W.Frag} {Z : Hp} {a : Addr} {xs : List V} {ps : List PyData} (h : SqT K Z a xs) (r : Af K Z xs ps) : ItR K Z (Itt K a) ps where
 stop := fun H e => ⟨xs, K8 e h, by rw [r.length]; exact Nat.le_refl _⟩
 go := fun i p H e hp => by
  obtain ⟨v, hv, _⟩ := r.get hp
  exact ⟨xs, v, K8 e h, hv⟩
 yld := fun i p H x H' e hp y => by
  obtain ⟨rfl, y⟩ := y
  obtain ⟨v, hv, q⟩ := r.get hp
  have := y xs (K8 e h)
  rw [hv] at this; cases this
  exact ⟨Ext.refl, fun Nu _ ez => q.ext ez⟩
def iSeq (K : PySem.W.Frag) (tl : TE) : TI := fun σ H R => tl σ H fun x H1 => ∃ a, x = .ref a ∧ ((∃ xs, SqL K H1 a xs) ∧ R (Itl K a) H1 ∨ (∃ xs, SqT K H1 a xs) ∧ R (Itt K a) H1)
theorem agq {X : Cx} {tg l : Expr} {tl : TE} (hl : PE X l tl) : PI X tg l (iSeq X.K tl) := by
 refine ⟨fun pins s σ H R I h => ?_⟩
 refine thn (hl.run pins s σ H _ I h) fun v s1 ⟨x, H1, I1, r1, q1⟩ => ?_
 obtain ⟨a, e, q1⟩ := q1
 subst e
 cases r1
 rcases q1 with ⟨⟨xs, hq⟩, q⟩ | ⟨⟨xs, hq⟩, q⟩
 ·obtain ⟨its, rv, p, hz⟩ := I1.list hq
  refine wpAny_pyIter_list p.isList ?_
  refine ⟨s1.heap.objs.size, [s1.heap.objs.size], _, _, H1, rfl, I1.kept (t' := s1.toks) fun b o e => Heap.get?_push_of_some _ e, turn_list a _, ⟨_, Heap.get?_push_size _ rfl, rfl, rfl⟩, fun b hb => ?_, q⟩
  have e : b = s1.heap.objs.size := by simpa using hb
  subst e
  exact I1.fpOk (Nat.le_refl _) (I1.hok.fresh (Nat.le_refl _))
 ·obtain ⟨its, rv, p, hz⟩ := I1.tuple hq
  refine wpAny_pyIter_tuple (show s1.heap.IsTuple a its.toArray from p) ?_
  refine ⟨s1.heap.objs.size, [s1.heap.objs.size], _, _, H1, rfl, I1.kept (t' := s1.toks) fun b o e => Heap.get?_push_of_some _ e, turn_tuple a _, ⟨_, Heap.get?_push_size _ rfl, rfl, rfl⟩, fun b hb => ?_, q⟩
  have e : b = s1.heap.objs.size := by simpa using hb
  subst e
  exact I1.fpOk (Nat.le_refl _) (I1.hok.fresh (Nat.le_refl _))
def Rh : Va → Option (List PyData)
 | .d (.list ps) => some ps
 | .d (.tuple ps) => some ps
 | _ => none
def lSeq (f : DF) : DL := fun env => bnd (f env) fun v => ofO (Rh v)
theorem R3 {K : PySem.W.Frag} {Nu : Addr → Prop} {φ : List Addr} {H : Hp} {u : V} {v : Va} {ps : List PyData} (h : VRep K Nu φ H u v) (e : Rh v = some ps) :
  ∃ a xs, u = .ref a ∧ ps.length ≤ sizeLine ∧ Af K (hz Nu H) xs ps ∧ (SqL K (hz Nu H) a xs ∨ SqT K (hz Nu H) a xs) := by
 cases v with
 | c n => cases e
 | s n => cases e
 | q y ds => cases e
 | d p =>
  cases p with
  | list qs => cases e; cases h with | lst hs hl ha => exact ⟨_, _, rfl, hl, ha, .inl (SqL.of hs)⟩
  | tuple qs => cases e; cases h with | tup hs hl ha => exact ⟨_, _, rfl, hl, ha, .inr (SqT.of hs)⟩
  | none => cases e
  | bool _ => cases e
  | int _ => cases e
  | str _ => cases e
  | dict _ => cases e
theorem aeg {C : Ct} {fl : Bool} {f : DF} {σ : L2.St} {H : Hp} {R : It → Hp → Prop} (h : tIt C fl (lSeq f) σ H R) : iSeq C.K (tI C fl f) σ H R := by
 obtain ⟨W, φ, own, env, S, r, h⟩ := h
 refine ⟨W, φ, own, env, S, r, (Ad.mp h).mono (fun v S1 q φ1 H1 u r1 k1 v1 => ?_) fun _ _ q => q⟩
 obtain ⟨ps, e, q⟩ := Aq.mp q
 obtain ⟨a, xs, rfl, hl, ha, hs⟩ := R3 v1 e
 refine ⟨a, rfl, ?_⟩
 rcases hs with hs | hs
 ·exact .inl ⟨⟨xs, Ef Dq hs⟩, q φ1 H1 _ r1 k1 (ada hs ha)⟩
 ·exact .inr ⟨⟨xs, K8 Dq hs⟩, q φ1 H1 _ r1 k1 (ae3 hs ha)⟩
theorem Ky {X : Cx} {ew : WX} {fl : Bool} {tg e : Expr} {f : DF} (h : E X ew fl e f) : EI X ew fl tg e (lSeq f) := by
 have p := agq (tg := tg) h
 exact ⟨fun pins s σ H R I q => p.run pins s σ H R I (aeg q)⟩
theorem Ye {X : Cx} {tg e : Expr} {t t' : TI} (h : PI X tg e t) (i : ∀ σ H R, t' σ H R → t σ H R) : PI X tg e t' := ⟨fun pins s σ H R I q => h.run pins s σ H R I (i _ _ _ q)⟩
def rngL (lo hi : Int) : List PyData := (List.range (hi - lo).toNat).map fun i => .int (lo + (i : Nat))
theorem Xb {K : PySem.W.Frag} {Z : Hp} {lo hi : Int} : ItR K Z (Itr lo (hi - lo).toNat) (rngL lo hi) where
 stop := fun H e => by
  show _ ≤ _
  simp [rngL]
 go := fun i p H e hp => by
  have := (List.getElem?_eq_some_iff.mp hp).1
  show _ < _
  simpa [rngL] using this
 yld := fun i p H x H' e hp y => by
  obtain ⟨rfl, rfl⟩ := y
  have hi : i < (hi - lo).toNat := by
   have := (List.getElem?_eq_some_iff.mp hp).1
   simpa [rngL] using this
  simp only [rngL, List.getElem?_map, List.getElem?_range hi] at hp
  cases hp
  exact ⟨Ext.refl, fun _ _ _ => .int _⟩
def Uv (i : Int) : Bool := decide (-(2 ^ 62) ≤ i) && decide (i < 2 ^ 62)
def Jg : List Va → Option (List PyData)
 | [.d (.int j)] => if Uv j = true then some (rngL 0 j) else none
 | _ => none
def afc : List Va → Option (List PyData)
 | [.d (.int i), .d (.int j)] => if (Uv i && Uv j) = true then some (rngL i j) else none
 | _ => none
def lN (g : List Va → Option (List PyData)) (fa : DFA) : DL := fun env => bnd (fa env) fun vs => ofO (g vs)
theorem R7 {i : Int} (h : Uv i = true) : -(2 ^ 62) ≤ i ∧ i < 2 ^ 62 := by
 simp only [Uv, Bool.and_eq_true, decide_eq_true_eq] at h
 exact h
theorem Dh {X : Cx} {ew : WX} {fl : Bool} {tg a : Expr} {fs : DFA} {p pos : Pos} (hg : Gl X "range") (hm : X.mg "range" = none) (ha : EA X ew fl [a] fs) (hs : starEach [a] X.env = [(false, eval a X.env)] := by rfl) : EI X ew fl tg (.Call (.Name "range" p) [a] [] pos) (lN Jg fs) :=
 Ye (pi_range1 hg hm ha hs) fun σ H R h => by
  obtain ⟨W, φ, own, env, S, r, h⟩ := h
  refine ⟨W, φ, own, env, S, r, (Ad.mp h).mono (fun v S1 q φ1 H1 u r1 k1 v1 => ?_) fun _ _ q => q⟩
  obtain ⟨ps, e, q⟩ := Aq.mp q
  unfold Jg at e
  split at e
  ·rename_i j
   cases v1 with
   | cons h1 h2 =>
    cases h2
    cases h1
    by_cases hj : Uv j = true
    ·rw [if_pos hj] at e
     cases e
     have := R7 hj
     refine ⟨j, rfl, this.1, this.2, q φ1 H1 _ r1 k1 ?_⟩
     have := Xb (K := X.K) (Z := hz (Mo fl W.G φ1 own) H1) (lo := 0) (hi := j)
     rw [Int.sub_zero] at this
     exact this
    ·rw [if_neg hj] at e; cases e
  ·cases e
theorem ab2 {X : Cx} {ew : WX} {fl : Bool} {tg a b : Expr} {fs : DFA} {p pos : Pos} (hg : Gl X "range") (hm : X.mg "range" = none) (ha : EA X ew fl [a, b] fs) (hs : starEach [a, b] X.env = [(false, eval a X.env), (false, eval b X.env)] := by rfl) (hs2 : starEach [b] X.env = [(false, eval b X.env)] := by rfl) : EI X ew fl tg (.Call (.Name "range" p) [a, b] [] pos) (lN afc fs) :=
 Ye (pi_range2 hg hm ha hs hs2) fun σ H R h => by
  obtain ⟨W, φ, own, env, S, r, h⟩ := h
  refine ⟨W, φ, own, env, S, r, (Ad.mp h).mono (fun v S1 q φ1 H1 u r1 k1 v1 => ?_) fun _ _ q => q⟩
  obtain ⟨ps, e, q⟩ := Aq.mp q
  unfold afc at e
  split at e
  ·rename_i i j
   cases v1 with
   | cons h1 h2 =>
    cases h2 with
    | cons h2 h3 =>
     cases h3
     cases h1
     cases h2
     by_cases hj : (Uv i && Uv j) = true
     ·rw [if_pos hj] at e
      cases e
      rw [Bool.and_eq_true] at hj
      have h1 := R7 hj.1
      have h2 := R7 hj.2
      exact ⟨i, j, rfl, ⟨h1.1, h1.2, h2.1, h2.2⟩, q φ1 H1 _ r1 k1 Xb⟩
     ·rw [if_neg hj] at e; cases e
  ·cases e
def IteT (K : PySem.W.Frag) (a : Addr) : It :=
 ⟨fun i H => ∃ xs x, SqT K H a xs ∧ xs[i]? = some x, fun i H v H' => ∃ T x, v = .ref T ∧ H T = none ∧ H' = upd H T (.tup [.int (i : Nat), x]) ∧ ∀ xs, SqT K H a xs → xs[i]? = some x, fun i H => ∃ xs, SqT K H a xs ∧ xs.length = i⟩
theorem Z0 {P : Program} {w : World} {K : PySem.W.Frag} {elts : List Expr} {kk : Nat} {tpos : Pos} (a e it : Addr) :
  Turn P w K (.Tuple elts kk tpos) (IteT K a) [e, it] e (fun i h => (∃ old, IsEnum h e it ((i : Nat) : Int) old) ∧ h.IsTupleIter it a i ∧ e ≠ it) where
 mem := by simp
 obj := fun i h st b hb => by
  obtain ⟨⟨old, he⟩, ⟨o, ho, hc, hd⟩, _⟩ := st
  have e' : b = e ∨ b = it := by simpa using hb
  rcases e' with z | z
  ·rw [z]; exact ⟨_, he, fun v q => nomatch q⟩
  ·rw [z]; exact ⟨o, ho, fun v q => by rw [hd] at q; cases q⟩
 keep := fun i h h' st k => let ⟨⟨old, he⟩, hi, hne⟩ := st; ⟨⟨old, k e (by simp) _ he⟩, hi.at fun o q => k it (by simp) o q, hne⟩
 item := by
  intro X hP hw hK hc i pins s σ H E I hf st hg
  subst hP hw hK
  obtain ⟨⟨old, he⟩, hit, hne⟩ := st
  obtain ⟨xs, x, hq, hx⟩ := hg
  obtain ⟨its, rv, p, hz⟩ := I.tuple hq
  obtain ⟨u, hu, ru⟩ := rv.get hx
  have hel : e < s.heap.objs.size := Heap.lt_size he
  have hil : it < s.heap.objs.size := by obtain ⟨_, q, _⟩ := hit; exact Heap.lt_size q
  have hta : s.heap.IsTuple a its.toArray := p
  have hea : e ≠ a := fun z => by
   obtain ⟨o, ho, hcl, _⟩ := p
   rw [← z] at ho
   have h2 : s.heap.get? e = some _ := he
   rw [h2] at ho; cases ho; simp at hcl
  have hia : a ≠ it := fun z => by
   obtain ⟨o, ho, hcl, _⟩ := p
   obtain ⟨o2, ho2, hcl2, _⟩ := hit
   rw [z] at ho
   rw [ho2] at ho; cases ho
   rw [hcl2] at hcl; simp at hcl
  have hh : X.A.handled = none := I.ok.hd hc
  have D := Draws.tuple (prog := X.prog) (w := X.w) (A := X.A.in1) hh it a hia its.toArray
  have hi' : i < its.toArray.size := by
   have := (List.getElem?_eq_some_iff.mp hu).1
   simpa using this
  refine wpAny_pyNext_enum_itemD D he ⟨hit, hta⟩ hi' hne (by simp [hne, hea]) fun x' h' tk hx' ho hst' hT hsz hk => ?_
  have ex' : x' = u := by
   have : its.toArray[i]? = some u := by simpa using hu
   rw [this] at hx'; exact (Option.some.inj hx').symm
  subst ex'
  obtain ⟨hit', _⟩ := hst'
  refine ⟨_, rfl, wpAny_letOwnedTupleGo_enum (s := { s with heap := h', toks := tk + 1 }) ho fun h'' he' sb => ?_⟩
  have hT2 : h''.get? s.heap.objs.size = some { cls := .type "tuple", data := .seq #[.int i tk, x'] } := (sb.2 _ (Nat.ne_of_gt hel)).trans hT
  have new : ObjOk X.prog X.w (upd H s.heap.objs.size (.tup [.int (i : Nat), x])) h'' s.heap.objs.size (.tup [.int (i : Nat), x]) :=
   ⟨by show 2 ≤ sizeLine; decide, [.int i tk, x'], .cons ⟨_, rfl⟩ (.cons ru .nil), ⟨_, hT2, rfl, _, rfl⟩⟩
  have I1 : Inv X pins σ (upd H s.heap.objs.size (.tup [.int (i : Nat), x])) { s with heap := h'', toks := tk + 1 } :=
   I.turnedNew (ch := [e, it]) (fun b ob hb q => (sb.2 b (fun z => hb (by simp [z]))).trans (hk b ob (fun z => hb (by simp [z])) (fun z => hb (by simp [z])) q)) hf (Nat.le_refl _) new
  refine ⟨.ref s.heap.objs.size, _, I1, rfl, ⟨_, x, rfl, I.hok.fresh (Nat.le_refl _), rfl, fun ys hy => by rw [I.tuple_inj hy hq]; exact hx⟩, ⟨⟨x', ?_⟩, hit'.at fun o q => (sb.2 it (Ne.symm hne)).trans q, hne⟩, fun b hb => ?_⟩
  ·have e1 : ((i + 1 : Nat) : Int) = (i : Int) + 1 := by omega
   rw [e1]; exact he'
  ·have hb' : b < s.heap.objs.size := by
    have e' : b = e ∨ b = it := by simpa using hb
    rcases e' with z | z
    ·rw [z]; exact hel
    ·rw [z]; exact hil
   rw [upd_ne (Nat.ne_of_lt hb')]
   exact (hf b hb).1
 done := by
  intro X hP hw hK hc i pins s σ H E I hf st hg
  subst hP hw hK
  obtain ⟨⟨old, he⟩, hit, hne⟩ := st
  obtain ⟨xs, hq, hx⟩ := hg
  obtain ⟨its, rv, p, hz⟩ := I.tuple hq
  obtain ⟨f0, f1, f2, f3, f4, f5⟩ := hf it (by simp)
  have hl := rv.length
  have hta : s.heap.IsTuple a its.toArray := p
  have hia : a ≠ it := fun z => by
   obtain ⟨o, ho, hcl, _⟩ := p
   obtain ⟨o2, ho2, hcl2, _⟩ := hit
   rw [z] at ho
   rw [ho2] at ho; cases ho
   rw [hcl2] at hcl; simp at hcl
  have D := Draws.tuple (prog := X.prog) (w := X.w) (A := X.A.in1) (show X.A.in1.handled = none from I.ok.hd hc) it a hia its.toArray
  have hn : its.toArray.size = i := by rw [← hx, List.size_toArray]; exact hl.symm
  refine wpAny_pyNext_enum_endD D he (by rw [hn]; exact ⟨hit, hta⟩) fun h' eb => ⟨rfl, I.turned (t' := s.toks) (fun b o hb q => eb b o hb q) f0 f1 f3 f4 f5⟩
 self := fun A i s Q E st h => let ⟨⟨_, he⟩, _⟩ := st; wpAny_pyIter_enum he h
def agK (K : PySem.W.Frag) (ta : TA) : TI := fun σ H R => ta σ H fun vs H1 => ∃ a xs, vs = [.ref a] ∧ ((SqL K H1 a xs ∧ R (Ite K a) H1) ∨ (SqT K H1 a xs ∧ R (IteT K a) H1))
theorem acV {X : Cx} {e : Expr} {ta : TA} {p pos tpos : Pos} {elts : List Expr} {kk : Nat} (hg : Gl X "enumerate") (hm : X.mg "enumerate" = none) (ha : PA X [e] ta) (hs : starEach [e] X.env = [(false, eval e X.env)] := by rfl) :
  PI X (.Tuple elts kk tpos) (.Call (.Name "enumerate" p) [e] [] pos) (agK X.K ta) := by
 refine ⟨fun pins s σ H R I h => ?_⟩
 refine Call_ (ld_blt I hg hm boot_enumerate (PyProof.Rows.callWith_type1 (thn (ha.run pos pins s σ H _ I h) fun us s1 ⟨vs, H1, I1, r1, q1⟩ => ?_) hs rfl))
 obtain ⟨a, xs, ex, q1⟩ := q1
 subst ex
 cases r1 with
 | cons r rr =>
  cases rr
  cases r
  rcases q1 with ⟨hq, q⟩ | ⟨hq, q⟩
  ·obtain ⟨its, rv, p', hz⟩ := I1.list hq
   refine call_enumerate_list p'.isList fun h' he hit hsz hk => wpAny_pyIter_enum he ?_
   have I2 : Inv X pins σ H1 { s1 with heap := h' } := I1.kept (t' := s1.toks) hk
   refine ⟨s1.heap.objs.size + 1, [s1.heap.objs.size + 1, s1.heap.objs.size], _, _, H1, rfl, I2, turn_enum a (s1.heap.objs.size + 1) s1.heap.objs.size, ⟨⟨.none, he⟩, hit, Nat.succ_ne_self _⟩, fun b hb => ?_, q⟩
   have e' : b = s1.heap.objs.size + 1 ∨ b = s1.heap.objs.size := by simpa using hb
   have hle : s1.heap.objs.size ≤ b := by
    rcases e' with z | z
    ·rw [z]; exact Nat.le_add_right _ _
    ·rw [z]; exact Nat.le_refl _
   exact I1.fpOk hle (I1.hok.fresh hle)
  ·obtain ⟨its, rv, p', hz⟩ := I1.tuple hq
   refine Xa (begins_tuple a its.toArray) (show s1.heap.IsTuple a its.toArray from p') fun h' he hit hsz hk => wpAny_pyIter_enum he ?_
   have I2 : Inv X pins σ H1 { s1 with heap := h' } := I1.kept (t' := s1.toks) hk
   refine ⟨s1.heap.objs.size + 1, [s1.heap.objs.size + 1, s1.heap.objs.size], _, _, H1, rfl, I2, Z0 a (s1.heap.objs.size + 1) s1.heap.objs.size, ⟨⟨.none, he⟩, ⟨_, hit, rfl, rfl⟩, Nat.succ_ne_self _⟩, fun b hb => ?_, q⟩
   have e' : b = s1.heap.objs.size + 1 ∨ b = s1.heap.objs.size := by simpa using hb
   have hle : s1.heap.objs.size ≤ b := by
    rcases e' with z | z
    ·rw [z]; exact Nat.le_add_right _ _
    ·rw [z]; exact Nat.le_refl _
   exact I1.fpOk hle (I1.hok.fresh hle)
def Xo (ps : List PyData) : List PyData := ps.mapIdx fun i p => .tuple [.int (i : Nat), p]
theorem PQ {ps : List PyData} {i : Nat} {p : PyData} (h : (Xo ps)[i]? = some p) : ∃ q, ps[i]? = some q ∧ p = .tuple [.int (i : Nat), q] := by
 unfold Xo at h
 rw [List.getElem?_mapIdx] at h
 obtain ⟨q, h1, h2⟩ := Option.map_eq_some_iff.mp h
 exact ⟨q, h1, h2.symm⟩
theorem Za {K : PySem.W.Frag} {Nu : Addr → Prop} {H : Hp} {T : Addr} {x y : V} {p q : PyData} (m : MuOk Nu H) (h : H T = none) (hx : Rep K (hz Nu H) x p) (hy : Rep K (hz Nu H) y q) : Rep K (hz Nu (upd H T (.tup [x, y]))) (.ref T) (.tuple [p, q]) := by
 obtain ⟨n1, n2⟩ := Es (K := K) (o := .tup [x, y]) m h
 exact .tup n2 (by show 2 ≤ sizeLine; decide) (.cons (hx.ext n1) (.cons (hy.ext n1) .nil))
theorem adb {K : PySem.W.Frag} {Z : Hp} {a : Addr} {xs : List V} {ps : List PyData} (h : SqL K Z a xs) (r : Af K Z xs ps) : ItR K Z (Ite K a) (Xo ps) where
 stop := fun H e => ⟨xs, Ef e h, by rw [r.length]; simp [Xo]⟩
 go := fun i p H e hp => by
  obtain ⟨q, hq, rfl⟩ := PQ hp
  obtain ⟨v, hv, _⟩ := r.get hq
  exact ⟨xs, v, Ef e h, hv⟩
 yld := fun i p H x H' e hp y => by
  obtain ⟨q, hq, rfl⟩ := PQ hp
  obtain ⟨T, x, rfl, hT, rfl, y⟩ := y
  obtain ⟨v, hv, rp⟩ := r.get hq
  have := y xs (Ef e h)
  rw [hv] at this; cases this
  exact ⟨Ext.upd hT, fun Nu m ez => Za m hT (.int _) (rp.ext ez)⟩
theorem abG {K : PySem.W.Frag} {Z : Hp} {a : Addr} {xs : List V} {ps : List PyData} (h : SqT K Z a xs) (r : Af K Z xs ps) : ItR K Z (IteT K a) (Xo ps) where
 stop := fun H e => ⟨xs, K8 e h, by rw [r.length]; simp [Xo]⟩
 go := fun i p H e hp => by
  obtain ⟨q, hq, rfl⟩ := PQ hp
  obtain ⟨v, hv, _⟩ := r.get hq
  exact ⟨xs, v, K8 e h, hv⟩
 yld := fun i p H x H' e hp y => by
  obtain ⟨q, hq, rfl⟩ := PQ hp
  obtain ⟨T, x, rfl, hT, rfl, y⟩ := y
  obtain ⟨v, hv, rp⟩ := r.get hq
  have := y xs (K8 e h)
  rw [hv] at this; cases this
  exact ⟨Ext.upd hT, fun Nu m ez => Za m hT (.int _) (rp.ext ez)⟩
def TY : List Va → Option (List PyData)
 | [v] => (Rh v).map Xo
 | _ => none
theorem QC {X : Cx} {ew : WX} {fl : Bool} {a : Expr} {fs : DFA} {p pos tpos : Pos} {elts : List Expr} {kk : Nat} (hg : Gl X "enumerate") (hm : X.mg "enumerate" = none) (ha : EA X ew fl [a] fs) (hs : starEach [a] X.env = [(false, eval a X.env)] := by rfl) : EI X ew fl (.Tuple elts kk tpos) (.Call (.Name "enumerate" p) [a] [] pos) (lN TY fs) :=
 Ye (acV hg hm ha hs) fun σ H R h => by
  obtain ⟨W, φ, own, env, S, r, h⟩ := h
  refine ⟨W, φ, own, env, S, r, (Ad.mp h).mono (fun v S1 q φ1 H1 u r1 k1 v1 => ?_) fun _ _ q => q⟩
  obtain ⟨ps, e, q⟩ := Aq.mp q
  cases v1 with
  | nil => cases e
  | cons h1 h2 =>
   cases h2 with
   | cons _ _ => cases e
   | nil =>
    obtain ⟨qs, e1, e2⟩ := Option.map_eq_some_iff.mp e
    subst e2
    obtain ⟨a, xs, rfl, hl, ha, hs⟩ := R3 h1 e1
    refine ⟨a, xs, rfl, ?_⟩
    rcases hs with hs | hs
    ·exact .inl ⟨Ef Dq hs, q φ1 H1 _ r1 k1 (adb hs ha)⟩
    ·exact .inr ⟨K8 Dq hs, q φ1 H1 _ r1 k1 (abG hs ha)⟩
abbrev DLs := En → M (List PyData)
def Wd.and (W : Wd) (D : Addr) : Wd := ⟨fun a => W.G a ∨ a = D, W.H0, W.φ0⟩
theorem Jk {W : Wd} {D : Addr} {φ : List Addr} {own : Nat → List Addr} {a : Addr} : Mu (W.and D).G φ own a ↔ Mu W.G φ own a ∨ a = D := by
 constructor
 ·rintro ((h | h) | h | h)
  ·exact .inl (.inl h)
  ·exact .inr h
  ·exact .inl (.inr (.inl h))
  ·exact .inl (.inr (.inr h))
 ·rintro ((h | h | h) | h)
  ·exact .inl (.inl h)
  ·exact .inr (.inl h)
  ·exact .inr (.inr h)
  ·exact .inl (.inr h)
theorem Rel.aeZ {K : PySem.W.Frag} {W : Wd} {D : Addr} {φ : List Addr} {own : Nat → List Addr} {env : En} {S : Sto} {σ : L2.St} {H : Hp} (r : Rel K (W.and D) φ own env S σ H) : Rel K W φ own env S σ H := by
 have sub : Ext (hz (Mu (W.and D).G φ own) H) (hz (Mu W.G φ own) H) := Du fun a _ _ z => Jk.mpr (.inl z)
 exact ⟨r.disj, r.apart, r.ndφ, fun a h => r.gd a (.inl h), r.mu.sub fun a z => Jk.mpr (.inl z), r.len, fun i sv h => (r.slot i sv h).imp fun u q => ⟨q.1, q.2.ext sub (List.prefix_refl _) fun _ _ => rfl⟩, ⟨r.cell.1, fun n c a h1 h2 => (r.cell.2 n c a h1 h2).ext sub rfl⟩, r.base, r.newF⟩
def tF (C : Ct) (f : DLs) : TE := fun σ H Q => ∃ W φ own env S, Rel C.K W φ own env S σ H ∧
 (f env S).sat (fun ps S' => ∀ φ' H' D xs, Rel C.K (W.and D) φ' own env S' σ H' → Kp φ H φ' H' → H D = none → H' D = some (.lst xs) → Af C.K (hz (Mu (W.and D).G φ' own) H') xs ps → ps.length ≤ sizeLine → Q (.ref D) H')
  (fun x S' => ∀ φ' H', Rel C.K W φ' own env S' σ H' → Kp φ H φ' H' → Kh C (Mu W.G φ' own) σ H' x)
def EF (X : Cx) (ew : WX) (e : Expr) (f : DLs) : Prop := PE X e (tF ⟨X.K, X.mg, ew⟩ f)
def fD (f : DLs) : DF := fun env => bnd (f env) fun ps => ret (.d (.list ps))
theorem tF_D {C : Ct} {σ : L2.St} {H : Hp} {Q : VK} {f : DLs} (h : tI C true (fD f) σ H Q) : tF C f σ H Q := by
 obtain ⟨W, φ, own, env, S, r, h⟩ := h
 refine ⟨W, φ, own, env, S, r, (Ad.mp h).mono (fun ps S1 q φ1 H1 D xs r1 k1 hn hD hr hl => ?_) fun _ _ q => q⟩
 have nd : ¬ Mu W.G φ1 own D := fun z => by
  rcases z with z | z | ⟨i, z⟩
  ·exact r.fresh hn (.inl z)
  ·exact (r1.gd D (.inr rfl)).1 z
  ·exact (r1.gd D (.inr rfl)).2 i z
 exact q φ1 H1 (.ref D) r1.aeZ k1 (.lst (Ey hD nd) hl (hr.ext (Du fun a _ _ z => Jk.mpr (.inl z))))
theorem Ju {X : Cx} {ew : WX} {e : Expr} {f : DLs} (h : EF X ew e f) : E X ew true e (fD f) := Bf h fun σ H Q h => tF_D h
def Sv.fz : Sv → Option Sv
 | .l1 xs => some (.d (.list xs))
 | .l2 xss => some (.d (.list (xss.map PyData.list)))
 | .dd k => some (.d k.data)
 | .d p => some (.d p)
 | .c _ => none
 | .s ns => some (.s ns)
 | .q _ _ => none
def Sv.st : Sv → Option Sv
 | .d p => some (.d p)
 | .c n => some (.c n)
 | .s n => some (.s n)
 | .q y ds => some (.q y ds)
 | _ => none
def RP (env : En) : En := env.map fun o => o.bind Sv.fz
def Eh (env : En) : En := env.map fun o => o.bind Sv.st
def Em (env : En) : List Nat → En
 | [] => env
 | v :: vs => (Em env vs).set v none
theorem Wx (env : En) : ∀ vs, (Em env vs).length = env.length
 | [] => rfl
 | v :: vs => by unfold Em; rw [List.length_set, Wx env vs]
theorem UW {env : En} {i : Nat} {x : Sv} : ∀ {vs : List Nat}, (Em env vs)[i]? = some (some x) → env[i]? = some (some x) ∧ i ∉ vs
 | [], h => ⟨h, by simp⟩
 | v :: vs, h => by
  unfold Em at h
  by_cases hi : v = i
  ·subst hi
   by_cases hv : v < (Em env vs).length
   ·rw [List.getElem?_set_self hv] at h; cases h
   ·rw [List.getElem?_eq_none (by simpa using hv)] at h; cases h
  ·rw [List.getElem?_set_ne hi] at h
   obtain ⟨h1, h2⟩ := UW h
   exact ⟨h1, by simp only [List.mem_cons, not_or]; exact ⟨fun e => hi e.symm, h2⟩⟩
theorem Ww {σ : L2.St} {i : Nat} {x : V} : ∀ {vs : List Nat}, σ[i]? = some (some x) → i ∉ vs → (wipe σ vs)[i]? = some (some x)
 | [], h, _ => h
 | v :: vs, h, n => by
  unfold wipe
  rw [List.getElem?_set_ne (fun e => n (by rw [e]; exact List.mem_cons_self))]
  exact Ww h fun z => n (List.mem_cons_of_mem _ z)
theorem O3 (σ : L2.St) (vs : List Nat) : wipe (wipe σ vs) vs = wipe σ vs := by
 have key : ∀ (ws : List Nat) (τ : L2.St), (∀ i ∈ ws, i < τ.length → τ[i]? = some none) → wipe τ ws = τ := fun ws => by
  induction ws with
  | nil => exact fun _ _ => rfl
  | cons w ws ih =>
   intro τ h
   unfold L2.wipe
   rw [ih τ fun i hi => h i (List.mem_cons_of_mem _ hi)]
   by_cases hw : w < τ.length
   ·have := h w List.mem_cons_self hw
    apply List.ext_getElem?
    intro j
    by_cases e : w = j
    ·subst e; rw [List.getElem?_set_self hw, this]
    ·rw [List.getElem?_set_ne e]
   ·exact List.set_eq_of_length_le (Nat.le_of_not_lt hw)
 have mem : ∀ (ws : List Nat) (τ : L2.St) (i : Nat), i ∈ ws → i < τ.length → (wipe τ ws)[i]? = some none := fun ws => by
  induction ws with
  | nil => exact fun _ _ h => absurd h (by simp)
  | cons w ws ih =>
   intro τ i hi hl
   unfold L2.wipe
   by_cases e : w = i
   ·subst e; rw [List.getElem?_set_self (by rw [wipe_length]; exact hl)]
   ·rw [List.getElem?_set_ne e]
    exact ih τ i ((List.mem_cons.mp hi).elim (fun z => absurd z.symm e) id) hl
 exact key vs _ fun i hi hl => mem vs σ i hi (by rw [wipe_length] at hl; exact hl)
section
variable {K : PySem.W.Frag} {W : Wd} {φ : List Addr} {own : Nat → List Addr} {env : En} {S : Sto} {σ : L2.St} {H : Hp}
theorem Rel.aea (r : Rel K W φ own env S σ H) (vs : List Nat) : Rel K W φ own (Em env vs) S (wipe σ vs) H where
 disj := r.disj
 apart := r.apart
 ndφ := r.ndφ
 gd := r.gd
 mu := r.mu
 len := by rw [wipe_length, Wx]; exact r.len
 slot := fun i sv h => by
  obtain ⟨h1, h2⟩ := UW h
  obtain ⟨u, q1, q2⟩ := r.slot i sv h1
  exact ⟨u, Ww q1 h2, q2⟩
 cell := r.cell
 base := r.base
 newF := r.newF
theorem Rel.view (r : Rel K W φ own env S σ H) : Rel K ⟨fun a => W.G a ∨ a ∈ φ, H, []⟩ [] nob (RP env) [] σ H := by
 have sm : ∀ a, Mu (fun a => W.G a ∨ a ∈ φ) [] nob a → Mu W.G φ own a := fun a h => h.elim (fun h => h.elim .inl fun h => .inr (.inl h)) fun h => h.elim (fun h => absurd h (by simp)) fun ⟨i, h⟩ => absurd h (by simp [nob])
 have sub : Ext (hz (Mu W.G φ own) H) (hz (Mu (fun a => W.G a ∨ a ∈ φ) [] nob) H) := Du fun a _ _ z => sm a z
 refine ⟨fun i j a h => absurd h (by simp [nob]), fun i a h => absurd h (by simp [nob]), List.nodup_nil, fun a h => ⟨by simp, fun i => by simp [nob]⟩, r.mu.sub sm, ?_, fun i sv h => ?_, ⟨rfl, fun n c a h1 h2 => by simp at h1⟩, Kp.refl, fun i a h => absurd h (by simp [nob])⟩
 ·rw [r.len]; simp [RP]
 ·unfold RP at h
  rw [List.getElem?_map] at h
  obtain ⟨o, ho, e⟩ := Option.map_eq_some_iff.mp h
  obtain ⟨s, rfl, e⟩ := Option.bind_eq_some_iff.mp e
  obtain ⟨u, h1, h2⟩ := r.slot i s ho
  refine ⟨u, h1, ?_⟩
  have nd : ∀ a, a ∈ own i → hz (Mu (fun a => W.G a ∨ a ∈ φ) [] nob) H a = H a := fun a ha => by
   unfold hz
   refine if_neg fun z => ?_
   rcases z with (z | z) | z | ⟨j, z⟩
   ·exact (r.gd a z).2 i ha
   ·exact r.apart i a ha z
   ·cases z
   ·cases z
  cases s with
  | d p => cases e; exact ⟨h2.1.ext sub, rfl⟩
  | c n => cases e
  | s n => cases e; obtain ⟨⟨a, q1, q2⟩, _⟩ := h2; exact ⟨⟨a, q1, Ef sub q2⟩, rfl⟩
  | q y ds => cases e
  | dd k =>
   cases e
   obtain ⟨a, rfl, q2, q3⟩ := h2
   exact ⟨UL.rep sub (nd a (by rw [q2]; simp)) q3, rfl⟩
  | l1 xs =>
   cases e
   obtain ⟨a, us, rfl, q2, q3, q4, q5⟩ := h2
   exact ⟨.lst ((nd a (by rw [q2]; simp)).trans q3) q5 (q4.ext sub), rfl⟩
  | l2 xss =>
   cases e
   obtain ⟨a, bs, rfl, q2, q3, q4, q5, q6⟩ := h2
   exact ⟨.lst ((nd a (by rw [q2]; simp)).trans q4) (by rw [List.length_map]; exact q6) (Vw sub (fun b hb => nd b (by rw [q2]; exact List.mem_cons_of_mem _ hb)) q5), rfl⟩
theorem Rel.stay (r : Rel K W φ own env S σ H) : Rel K ⟨outG W own, W.H0, W.φ0⟩ φ nob (Eh env) S σ H where
 disj := fun i j a h => absurd h (by simp [nob])
 apart := fun i a h => absurd h (by simp [nob])
 ndφ := r.ndφ
 gd := fun a h => ⟨h.elim (fun z => (r.gd a z).1) fun ⟨i, z⟩ => r.apart i a z, fun i => by simp [nob]⟩
 mu := by show MuOk (Mu (outG W own) φ nob) H; rw [Ph]; exact r.mu
 len := by rw [r.len]; simp [Eh]
 slot := fun i sv h => by
  unfold Eh at h
  rw [List.getElem?_map] at h
  obtain ⟨o, ho, e⟩ := Option.map_eq_some_iff.mp h
  obtain ⟨s, rfl, e⟩ := Option.bind_eq_some_iff.mp e
  obtain ⟨u, h1, h2⟩ := r.slot i s ho
  refine ⟨u, h1, ?_⟩
  show M6 K (hz (Mu (outG W own) φ nob) H) φ H u [] sv
  rw [Ph]
  cases s with
  | d p => cases e; exact ⟨h2.1, rfl⟩
  | c n => cases e; obtain ⟨a, q1, q2, _⟩ := h2; exact ⟨a, q1, q2, rfl⟩
  | s n => cases e; exact ⟨h2.1, rfl⟩
  | q y ds => cases e; exact ⟨h2.1, rfl⟩
  | l1 _ => cases e
  | l2 _ => cases e
  | dd _ => cases e
 cell := by
  show ZX K (hz (Mu (outG W own) φ nob) H) φ S H
  rw [Ph]; exact r.cell
 base := r.base
 newF := fun i a h => absurd h (by simp [nob])
theorem Rel.aby (r : Rel K W φ own env S σ H) {D : Addr} (hD : H D = none) {xs : List V} : Rel K (W.and D) φ own env S σ (upd H D (.lst xs)) := by
 have nf := r.fresh hD
 have ex : Ext (hz (Mu W.G φ own) H) (hz (Mu (W.and D).G φ own) (upd H D (.lst xs))) := fun a o h => by
  obtain ⟨n, h⟩ := Aj.mp h
  have ne : a ≠ D := fun z => by rw [z, hD] at h; cases h
  refine Ey (by rw [upd_ne ne]; exact h) fun z => n ?_
  exact (Jk.mp z).resolve_right ne
 have kk : ∀ a, Mu W.G φ own a → upd H D (.lst xs) a = H a := fun a h => upd_ne fun z => nf (by rw [← z]; exact h)
 refine ⟨r.disj, r.apart, r.ndφ, fun a h => ?_, fun a h => ?_, r.len, fun i sv h => ?_, ⟨r.cell.1, fun n c a h1 h2 => (r.cell.2 n c a h1 h2).ext ex (kk a (.inr (.inl (List.mem_of_getElem? h2))))⟩, r.base.trans (Kp.ext (Ext.upd hD)), r.newF⟩
 ·rcases h with h | h
  ·exact r.gd a h
  ·subst h
   exact ⟨fun z => nf (.inr (.inl z)), fun i z => nf (.inr (.inr ⟨i, z⟩))⟩
 ·by_cases e : a = D
  ·subst e
   rw [upd_same]
   exact ⟨rfl, (fun _ z => by cases z), (fun _ _ z => by cases z)⟩
  ·have hm : Mu W.G φ own a := by
    rcases h with (h | h) | h | h
    ·exact .inl h
    ·exact absurd h e
    ·exact .inr (.inl h)
    ·exact .inr (.inr h)
   rw [kk a hm]
   exact r.mu a hm
 ·obtain ⟨u, h1, h2⟩ := r.slot i sv h
  exact ⟨u, h1, h2.ext ex (List.prefix_refl _) fun a ha => kk a (.inr (.inr ⟨i, ha⟩))⟩
theorem Rel.updG (r : Rel K W φ own env S σ H) {D : Addr} (hG : W.G D) (h0 : W.H0 D = none) {xs : List V} : Rel K W φ own env S σ (upd H D (.lst xs)) := by
 have nd : ∀ i, D ∉ own i := (r.gd D hG).2
 have nφ : D ∉ φ := (r.gd D hG).1
 have ex : Ext (hz (Mu W.G φ own) H) (hz (Mu W.G φ own) (upd H D (.lst xs))) := fun a o h => by
  obtain ⟨n, h⟩ := Aj.mp h
  have ne : a ≠ D := fun z => n (.inl (by rw [z]; exact hG))
  exact Ey (by rw [upd_ne ne]; exact h) n
 refine ⟨r.disj, r.apart, r.ndφ, r.gd, fun a h => ?_, r.len, fun i sv h => ?_, ⟨r.cell.1, fun n c a h1 h2 => (r.cell.2 n c a h1 h2).ext ex (upd_ne fun z => nφ (by rw [← z]; exact List.mem_of_getElem? h2))⟩, ⟨r.base.pre, fun a o n h => ?_, r.base.new⟩, r.newF⟩
 ·by_cases e : a = D
  ·subst e
   rw [upd_same]
   exact ⟨rfl, (fun _ z => by cases z), (fun _ _ z => by cases z)⟩
  ·rw [upd_ne e]
   exact r.mu a h
 ·obtain ⟨u, h1, h2⟩ := r.slot i sv h
  exact ⟨u, h1, h2.ext ex (List.prefix_refl _) fun a ha => upd_ne fun z => nd i (by rw [← z]; exact ha)⟩
 ·rw [upd_ne fun z => by rw [z, h0] at h; cases h]
  exact r.base.keep a o n h
end
def Ox (t : TF) (c : DB) (e : DF) (env : En) : List PyData → M (List PyData)
 | [] => ret []
 | p :: ps => bnd (ofO (t (.d p) env)) fun env1 => bnd (c env1) fun b => if b = true then bnd (e env1) fun v => match v with
   | .d q => bnd (Ox t c e env ps) fun r => ret (q :: r)
   | _ => no
  else Ox t c e env ps
theorem Xr {C C' : Ct} (hK : C'.K = C.K) {W : Wd} {φ1 : List Addr} {own : Nat → List Addr} {env : En} {S1 : Sto} {σ : L2.St} {H1 : Hp} {D : Addr} {vs is : List Nat} {J : It} {ps : List PyData} {t : TF} {c : DB} {e : DF} {Z : Hp} {Qf : List PyData → Sto → Prop} {Q : Hp → Prop}
  (hvs : ∀ i ∈ is, i ∈ vs) (hown : ∀ i ∈ is, own i = []) (hW : W.G D) (hD0 : W.H0 D = none) (hHD : H1 D = none) (hl : ps.length ≤ sizeLine)
  (r1 : Rel C.K W φ1 own env S1 (wipe σ vs) (upd H1 D (.lst [])))
  (it : ItR C.K Z J ps) (hZ : ∀ φ2 S2 H2, Rel C.K W φ2 own env S2 (wipe σ vs) H2 → Kp φ1 H1 φ2 H2 → Ext Z (hz (Mu W.G φ2 own) H2))
  (h : (Ox t c e env ps S1).sat Qf (fun _ _ => False))
  (fin : ∀ φ2 S2 H2 acc ds, Rel C.K W φ2 own env S2 (wipe σ vs) H2 → Kp φ1 H1 φ2 H2 → H2 D = some (.lst acc) → Af C.K (hz (Mu W.G φ2 own) H2) acc ds → ds.length ≤ sizeLine → Qf ds S2 → Q H2) :
  ∃ I : Nat → Nat → Hp → Prop, (∃ m, I 0 m (upd H1 D (.lst []))) ∧ ∀ i m H, I i m H →
   (J.stop i H ∧ Q H) ∨ (J.go i H ∧ ∃ Nx : Hp → Prop, (∀ H', Nx H' → ∃ m', m' < m ∧ I (i + 1) m' H') ∧ ∀ x H', J.yld i H x H' → tG C' is t x (wipe σ vs) H' fun σ2 H2 => wipe σ2 vs = wipe σ vs ∧ tIB C' c σ2 H2 fun b H3 =>
    if b = true then tI C' true e σ2 H3 fun y H4 => ∃ acc, H4 D = some (.lst acc) ∧ acc.length < sizeLine ∧ Nx (upd H4 D (.lst (acc ++ [y]))) else Nx H3) := by
 let Iv : Nat → Hp → Prop := fun i H => ∃ φ2 S2 acc ds, Rel C.K W φ2 own env S2 (wipe σ vs) H ∧ Kp φ1 H1 φ2 H ∧ H D = some (.lst acc) ∧ Af C.K (hz (Mu W.G φ2 own) H) acc ds ∧ ds.length ≤ i ∧
  (Ox t c e env (ps.drop i) S2).sat (fun r S' => Qf (ds ++ r) S') (fun _ _ => False)
 refine ⟨fun i m H => i + m = ps.length ∧ Iv i H, ⟨ps.length, by omega, φ1, S1, [], [], r1, ⟨List.prefix_refl _, fun a o _ h => ?_, fun a h n => absurd h n⟩, upd_same, .nil, Nat.le_refl _, h⟩, ?_⟩
 ·rw [upd_ne fun z => by rw [z, hHD] at h; cases h]; exact h
 rintro i m H ⟨em, φ2, S2, acc, ds, r2, k2, hacc, hrep, hdl, q2⟩
 have ez := hZ φ2 S2 H r2 k2
 have ezH : Ext Z H := Ext.trans ez Dq
 by_cases hi : i < ps.length
 ·have hd : ps.drop i = ps[i] :: ps.drop (i + 1) := List.drop_eq_getElem_cons hi
  rw [hd] at q2
  have gi : ps[i]? = some ps[i] := List.getElem?_eq_getElem hi
  obtain ⟨env3, e3, q3⟩ := Aq.mp (Ad.mp q2)
  refine .inr ⟨it.go i _ H ezH gi, Iv (i + 1), fun H' hI => ⟨m - 1, by omega, by omega, hI⟩, fun x H3 y => ?_⟩
  obtain ⟨eg, rep⟩ := it.yld i _ H x H3 ezH gi y
  have r3 := r2.grow eg
  have ndφ2 : D ∉ φ2 := (r2.gd D hW).1
  refine ⟨W, φ2, own, env, S2, .d ps[i], by rw [hK]; exact r3, by rw [hK]; exact rep _ r2.mu ez, env3, e3, fun own3 σ3 r4 sm o4 => ⟨(o4.1 vs hvs).trans (O3 σ vs), ?_⟩⟩
  rw [hK] at r4
  have mo : ∀ φ6, Mu W.G φ6 own3 = Mu W.G φ6 own := fun φ6 => funext fun a => propext ⟨fun z => by
   rcases z with z | z | ⟨j, z⟩
   ·exact .inl z
   ·exact .inr (.inl z)
   ·rcases sm a (.inr (.inr ⟨j, z⟩)) with y | y | y
    ·exact .inl y
    ·exact absurd y (r4.apart j a z)
    ·exact .inr (.inr y), fun z => by
   rcases z with z | z | ⟨j, z⟩
   ·exact .inl z
   ·exact .inr (.inl z)
   ·rcases o4.2 j a z with y | y
    ·rw [hown j y] at z; cases z
    ·exact .inr (.inr ⟨j, y⟩)⟩
  refine ⟨W, φ2, own3, env3, S2, by rw [hK]; exact r4, (Ad.mp q3).mono (fun b S5 q5 φ5 H5 r5 k5 => ?_) fun _ _ z => z.elim⟩
  rw [hK] at r5
  have back : ∀ {φ6 S6 H6}, Rel C.K W φ6 own3 env3 S6 σ3 H6 → Kp φ2 H3 φ6 H6 → Rel C.K W φ6 own env S6 (wipe σ vs) H6 := fun {φ6 S6 H6} r6 k6 => by
   have k6' : Kp φ2 H φ6 H6 := (Kp.ext eg).trans k6
   refine ⟨r2.disj, fun j a ha z => ?_, r6.ndφ, fun a ha => ⟨(r6.gd a ha).1, (r2.gd a ha).2⟩, fun a ha => ?_, r2.len, fun j sv hj => ?_, ⟨r6.cell.1, fun n cc a h1 h2 => ?_⟩, r2.base.trans k6', r2.newF⟩
   ·have na := r2.apart j a ha
    obtain ⟨o, ho⟩ := r2.mu.get (.inr (.inr ⟨j, ha⟩))
    have := k6'.new a z na
    rw [ho] at this; cases this
   ·rcases ha with ha | ha | ⟨j, ha⟩
    ·exact r6.mu a (.inl ha)
    ·exact r6.mu a (.inr (.inl ha))
    ·obtain ⟨o, ho⟩ := r2.mu.get (.inr (.inr ⟨j, ha⟩))
     have h1 := r2.mu a (.inr (.inr ⟨j, ha⟩))
     have := k6'.keep a o (r2.apart j a ha) ho
     rw [ho] at h1
     rw [this]; exact h1
   ·obtain ⟨u, h1, h2⟩ := r2.slot j sv hj
    refine ⟨u, h1, h2.ext (Kp.hz (fl := true) k6') k6'.pre fun a ha => ?_⟩
    obtain ⟨o, ho⟩ := r2.mu.get (.inr (.inr ⟨j, ha⟩))
    rw [ho, k6'.keep a o (r2.apart j a ha) ho]
   ·have := r6.cell.2 n cc a h1 h2
    rw [mo φ6] at this
    exact this
  cases b with
  | true =>
   rw [if_pos rfl] at q5 ⊢
   refine ⟨W, φ5, own3, env3, S5, by rw [hK]; exact r5, (Ad.mp q5).mono (fun v S6 q6 φ6 H6 u r6 k6 v6 => ?_) fun _ _ z => z.elim⟩
   rw [hK] at r6
   have k56 := k5.trans k6
   have hD6 : H6 D = some (.lst acc) := ((Kp.ext eg).trans k56).keep D _ ndφ2 hacc
   refine ⟨acc, hD6, ?_, ?_⟩
   ·rw [hrep.length]; omega
   ·cases v with
    | c n => exact q6.elim
    | s n => exact q6.elim
    | q y ds => exact q6.elim
    | d q =>
     have rb := back r6 k56
     have hx : Ext (hz (Mu W.G φ2 own) H) (hz (Mu W.G φ6 own) H6) := Kp.hz (fl := true) ((Kp.ext eg).trans k56)
     have hup : Ext (hz (Mu W.G φ6 own) H6) (hz (Mu W.G φ6 own) (upd H6 D (.lst (acc ++ [u])))) := fun a o h => by
      obtain ⟨n, h⟩ := Aj.mp h
      exact Ey (by rw [upd_ne fun z => n (.inl (by rw [z]; exact hW))]; exact h) n
     refine ⟨φ6, S6, acc ++ [u], ds ++ [q], rb.updG hW hD0, ?_, upd_same, (hrep.ext (Ext.trans hx hup)).append (.cons ?_ .nil), by rw [List.length_append]; simp; omega, ?_⟩
     ·have kk := (k2.trans (Kp.ext eg)).trans k56
      refine ⟨kk.pre, fun a o n h => ?_, kk.new⟩
      rw [upd_ne fun z => by rw [z, hHD] at h; cases h]
      exact kk.keep a o n h
     ·have v6 : Rep C'.K (hz (Mu W.G φ6 own3) H6) u q := v6
      rw [mo φ6, hK] at v6
      exact v6.ext hup
     ·exact (Ad.mp q6).mono (fun r S7 z => by rw [List.append_assoc]; exact z) fun _ _ z => z
  | false =>
   rw [if_neg Bool.false_ne_true] at q5 ⊢
   have hD6 : H5 D = some (.lst acc) := ((Kp.ext eg).trans k5).keep D _ ndφ2 hacc
   exact ⟨φ5, S5, acc, ds, back r5 k5, (k2.trans (Kp.ext eg)).trans k5, hD6, hrep.ext (Kp.hz (fl := true) ((Kp.ext eg).trans k5)), by omega, q5⟩
 ·have hi' : ps.length ≤ i := Nat.le_of_not_lt hi
  rw [List.drop_eq_nil_of_le hi'] at q2
  have ei : i = ps.length := by omega
  subst ei
  refine .inl ⟨it.stop H ezH, fin φ2 S2 H acc ds r2 k2 hacc hrep (by omega) ?_⟩
  have q2 : Qf (ds ++ []) S2 := q2
  rw [List.append_nil] at q2
  exact q2
def lcA (f : DL) (t : TF) (c : DB) (e : DF) (vs : List Nat) : DLs := fun env => bnd (f env) fun ps => if ps.length ≤ sizeLine then noX (Ox t c e (Em (Eh env) vs) ps) else no
theorem Rel.RX {K : PySem.W.Frag} {W : Wd} {φ : List Addr} {own : Nat → List Addr} {env : En} {S : Sto} {σ : L2.St} {H : Hp} (r : Rel K W φ own env S σ H) (vs : List Nat) {D : Addr} (hD : H D = none) :
  Rel K ⟨fun a => outG W own a ∨ a = D, low own H, φ⟩ φ nob (Em (Eh env) vs) S (wipe σ vs) (upd H D (.lst [])) := by
 have := ((r.rebase.stay).aea vs).aby hD (xs := [])
 exact this
theorem adN {C C' : Ct} (hK : C'.K = C.K) {σ : L2.St} {H : Hp} {Q : VK} {f : DL} {t : TF} {c : DB} {e : DF} {vs is : List Nat} (hvs : ∀ i ∈ is, i ∈ vs) (h : tF C (lcA f t c e vs) σ H Q) :
  tLc (tIt C true f) (tG C' is t) (tIB C' c) (tI C' true e) vs σ H Q := by
 obtain ⟨W, φ, own, env, S, r, h⟩ := h
 refine ⟨W, φ, own, env, S, r, (Ad.mp h).mono (fun ps S1 q φ1 H1 J r1 k1 it D hD => ?_) fun x S1 q φ1 H1 r1 k1 => q φ1 H1 r1 k1⟩
 by_cases hl : ps.length ≤ sizeLine
 ·rw [if_pos hl] at q
  have q := Oj (E' := fun _ _ => False) q
  have nD := r1.fresh hD
  refine Xr (C := C) hK (W := ⟨fun a => outG W own a ∨ a = D, low own H1, φ1⟩) (own := nob) (env := Em (Eh env) vs) (Z := hz (Mo true W.G φ1 own) H1) hvs (fun _ _ => rfl) (.inr rfl) ?_ hD hl (r1.RX vs hD) it (fun φ2 S2 H2 r2 k2 => ?_) q (fun φ2 S2 H2 acc ds r2 k2 hacc hrep hdl hq => ?_)
  ·show low own H1 D = none
   unfold low hz
   split
   ·rfl
   ·exact hD
  ·intro a o ha
   obtain ⟨n, ha⟩ := Aj.mp ha
   have na : a ∉ φ1 := fun z => n (.inr (.inl z))
   refine Ey (k2.keep a o na ha) fun z => ?_
   rcases z with (z | z) | z | ⟨j, z⟩
   ·exact n (z.elim .inl fun z => .inr (.inr z))
   ·rw [z, hD] at ha; cases ha
   ·have := k2.new a z na
    rw [ha] at this; cases this
   ·cases z
  ·have nφ : D ∉ φ2 := (r2.gd D (.inr rfl)).1
   have nM : ¬ Mu W.G φ2 own D := fun z => by
    rcases z with z | z | z
    ·exact nD (.inl z)
    ·exact nφ z
    ·exact nD (.inr (.inr z))
   have sub : Ext (hz (Mu (fun a => outG W own a ∨ a = D) φ2 nob) H2) (hz (Mu (outG W own) φ2 nob) H2) := Du fun a _ _ z => z.elim (fun z => .inl (.inl z)) .inr
   have hg1 := r1.aby hD (xs := acc)
   have k2' : Kp φ1 (upd H1 D (.lst acc)) φ2 H2 := by
    refine ⟨k2.pre, fun a o n h => ?_, fun a z n => ?_⟩
    ·by_cases e : a = D
     ·rw [e, upd_same] at h; cases h; rw [e]; exact hacc
     ·rw [upd_ne e] at h; exact k2.keep a o n h
    ·rw [upd_ne fun e => nφ (by rw [← e]; exact z)]
     exact k2.new a z n
   have mg : Mu (outG (W.and D) own) φ2 nob = Mu (fun a => outG W own a ∨ a = D) φ2 nob := by
    rw [Ph]
    exact funext fun a => propext ⟨fun z => (Jk.mp z).elim (fun z => (Tf.mpr z).elim (fun z => .inl (.inl z)) .inr) fun z => .inl (.inr z), fun z => Jk.mpr (z.elim (fun z => z.elim (fun z => .inl (Tf.mp (.inl z))) .inr) fun z => .inl (Tf.mp (.inr z)))⟩
   have en : Ent C.K (outG (W.and D) own) φ2 S2 H2 := ⟨r2.ndφ, fun a z => (r2.gd a (z.elim (fun z => z.elim (fun z => .inl (.inl z)) .inr) fun z => .inl (.inr z))).1, by rw [mg]; exact r2.mu, by rw [mg]; exact r2.cell⟩
   have en0 : Ent C.K (outG W own) φ2 S2 H2 := ⟨r2.ndφ, fun a z => (r2.gd a (.inl z)).1, r2.mu.sub fun a z => z.elim (fun z => .inl (.inl z)) .inr, r2.cell.1, fun n cc a h1 h2 => (r2.cell.2 n cc a h1 h2).ext sub rfl⟩
   refine hq φ2 H2 D acc (hg1.called k2' en) (k1.trans k2) ?_ hacc (by rw [show Mu (W.and D).G φ2 own = Mu (outG (W.and D) own) φ2 nob from Ph.symm, mg]; exact hrep) hdl
   cases e : H D with
   | none => rfl
   | some o =>
    by_cases z : D ∈ φ
    ·exact absurd (k1.pre.subset z) fun z => nD (.inr (.inl z))
    ·have := k1.keep D o z e
     rw [hD] at this; cases this
 ·rw [if_neg hl] at q
  exact q.elim
theorem abA {φ φ1 : List Addr} {H H1 : Hp} {D : Addr} (k1 : Kp φ H φ1 H1) (hD : H1 D = none) (nD : D ∉ φ1) : H D = none := by
 cases e : H D with
 | none => rfl
 | some o =>
  by_cases z : D ∈ φ
  ·exact absurd (k1.pre.subset z) nD
  ·have := k1.keep D o z e
   rw [hD] at this; cases this
theorem ab8 {C C' : Ct} (hK : C'.K = C.K) {fl : Bool} {W : Wd} {φ1 : List Addr} {own : Nat → List Addr} {env : En} {S1 : Sto} {σ : L2.St} {H1 : Hp} {D : Addr} {vs is : List Nat} {J : It} {ps : List PyData} {t : TF} {c : DB} {e : DF} {Qf : List PyData → Prop} {Q : Hp → Prop}
  (hvs : ∀ i ∈ is, i ∈ vs) (hD : H1 D = none) (hl : ps.length ≤ sizeLine) (r1 : Rel C.K W φ1 own env S1 σ H1) (it : ItR C.K (hz (Mo fl W.G φ1 own) H1) J ps)
  (h : (Ox t c e (RP (Em env vs)) ps []).sat (fun ds S' => S' = [] ∧ Qf ds) (fun _ _ => False))
  (fin : ∀ H2 acc ds, Ext H1 H2 → H2 D = some (.lst acc) → ¬ Mu W.G φ1 own D → Af C.K (hz (fun a => Mo false W.G φ1 own a ∨ a = D) H2) acc ds → ds.length ≤ sizeLine → Qf ds → Q H2) :
  ∃ I : Nat → Nat → Hp → Prop, (∃ m, I 0 m (upd H1 D (.lst []))) ∧ ∀ i m H, I i m H →
   (J.stop i H ∧ Q H) ∨ (J.go i H ∧ ∃ Nx : Hp → Prop, (∀ H', Nx H' → ∃ m', m' < m ∧ I (i + 1) m' H') ∧ ∀ x H', J.yld i H x H' → tG C' is t x (wipe σ vs) H' fun σ2 H2 => wipe σ2 vs = wipe σ vs ∧ tIB C' c σ2 H2 fun b H3 =>
    if b = true then tI C' true e σ2 H3 fun y H4 => ∃ acc, H4 D = some (.lst acc) ∧ acc.length < sizeLine ∧ Nx (upd H4 D (.lst (acc ++ [y]))) else Nx H3) := by
 have nD := r1.fresh hD
 have rv := ((r1.aea vs).view).aby hD (xs := [])
 refine Xr (C := C) hK (W := ⟨fun a => (W.G a ∨ a ∈ φ1) ∨ a = D, H1, []⟩) (own := nob) (env := RP (Em env vs)) (Z := hz (Mo fl W.G φ1 own) H1) (φ1 := []) (S1 := []) hvs (fun _ _ => rfl) (.inr rfl) hD hD hl rv it (fun φ2 S2 H2 r2 k2 => ?_) h (fun φ2 S2 H2 acc ds r2 k2 hacc hrep hdl hq => ?_)
 ·intro a o ha
  obtain ⟨n, ha⟩ := Aj.mp ha
  refine Ey (k2.keep a o (by simp) ha) fun z => ?_
  rcases z with (z | z) | z | ⟨j, z⟩
  ·cases fl with
   | true => exact n (z.elim .inl fun z => .inr (.inl z))
   | false => exact n z
  ·rw [z, hD] at ha; cases ha
  ·have := k2.new a z (by simp)
   rw [ha] at this; cases this
  ·cases z
 ·obtain ⟨rfl, hq⟩ := hq
  have eφ : φ2 = [] := List.eq_nil_of_length_eq_zero r2.cell.1
  subst eφ
  refine fin H2 acc ds (fun a o h => k2.keep a o (by simp) h) hacc nD (hrep.ext (Du fun a _ _ z => ?_)) hdl hq
  rcases z with z | z
  ·exact .inl (.inl z)
  ·exact .inl (.inr z)
def lcC (f : DL) (t : TF) (c : DB) (e : DF) (vs : List Nat) : DF := fun env => bnd (f env) fun ps => if ps.length ≤ sizeLine then bnd (alone (noX (Ox t c e (RP (Em env vs)) ps))) (fun ds => ret (.d (.list ds))) else no
theorem af7 {C C' : Ct} (hK : C'.K = C.K) {fl : Bool} {σ : L2.St} {H : Hp} {Q : VK} {f : DL} {t : TF} {c : DB} {e : DF} {vs is : List Nat} (hvs : ∀ i ∈ is, i ∈ vs) (h : tI C false (lcC f t c e vs) σ H Q) :
  tLc (tIt C fl f) (tG C' is t) (tIB C' c) (tI C' true e) vs σ H Q := by
 obtain ⟨W, φ, own, env, S, r, h⟩ := h
 refine ⟨W, φ, own, env, S, r, (Ad.mp h).mono (fun ps S1 q φ1 H1 J r1 k1 it D hD => ?_) fun x S1 q φ1 H1 r1 k1 => q φ1 H1 r1 k1⟩
 by_cases hl : ps.length ≤ sizeLine
 ·rw [if_pos hl] at q
  have q := Oj (E' := fun _ _ => False) (WL (Ad.mp q))
  refine ab8 (Q := Q (.ref D)) hK hvs hD hl r1 it q fun H2 acc ds ee hacc nM hrep hdl hq => ?_
  refine hq φ1 H2 (.ref D) (r1.grow ee) (k1.trans (Kp.ext ee)) ?_
  refine .lst (Ey hacc fun z => nM (Mo.sub z)) hdl (hrep.ext (Du fun a _ _ z => .inl z))
 ·rw [if_neg hl] at q
  exact q.elim
def bYes : DB := fun _ => ret true
def EBs (X : Cx) (ew : WX) (es : List Expr) (c : DB) : Prop := PTs X es (tIB ⟨X.K, X.mg, ew⟩ c)
theorem acT {X : Cx} {e : List Expr} {t t' : TT} (h : PTs X e t) (i : ∀ σ H Q, t' σ H Q → t σ H Q) : PTs X e t' := ⟨fun pins s σ H Q I q => h.run pins s σ H Q I (i _ _ _ q)⟩
theorem Ke {X : Cx} {ew : WX} : EBs X ew [] bYes := acT pts_nil fun σ H Q h => by
 obtain ⟨W, φ, own, env, S, r, h⟩ := h
 exact h φ H r Kp.refl
theorem T9 {X : Cx} {ew : WX} {e : Expr} {c : DB} (h : EB X ew e c) : EBs X ew [e] c := pts_one h
abbrev ew0 : WX := fun _ _ _ _ => False
section
variable {X : Cx} {ew : WX} {fl : Bool} {elt tg iter : Expr} {ifs : List Expr} {scope : Scope} {own : List (Str × Nat)} {pos spos py : Pos} {f : DL} {t : TF} {c : DB} {e : DF} {is : List Nat} {i : Nat} {y : Str}
theorem MT (hc : X.calm = true) (hN : X.N.Nodup) (hi : EI X ew true tg iter f) (ok : BlkOk X.N X.env.scope scope own) (hvs : ∀ i ∈ is, i ∈ own.map (·.2))
  (hg : ∀ (s : Shared) (H : Hp) (C : Addr) (cl : List (Str × Addr)) (fp : List Addr), EG (X.blk s H scope (compEnvC scope cl C X.env) fp) ew0 tg is t) (ht : ∀ (s : Shared) (H : Hp) (C : Addr) (cl : List (Str × Addr)) (fp : List Addr), EBs (X.blk s H scope (compEnvC scope cl C X.env) fp) ew0 ifs c)
  (he : ∀ (s : Shared) (H : Hp) (C : Addr) (cl : List (Str × Addr)) (fp : List Addr), E (X.blk s H scope (compEnvC scope cl C X.env) fp) ew0 true elt e) (hs : ∀ x, foldedSetIterable iter X.env x = pure x := by intro _; rfl) :
  EF X ew (.ListComp elt [⟨tg, iter, ifs, 0⟩] scope pos) (lcA f t c e (own.map (·.2))) :=
 Bf (pe_lc (g := tG ⟨X.K, X.mg, ew0⟩ is t) (tt := tIB ⟨X.K, X.mg, ew0⟩ c) (te := tI ⟨X.K, X.mg, ew0⟩ true e) hc hN hi ok hg ht he hs) fun σ H Q h => adN (C := ⟨X.K, X.mg, ew⟩) (C' := ⟨X.K, X.mg, ew0⟩) rfl hvs h
theorem aiB (hc : X.calm = true) (hN : X.N.Nodup) (hi : EI X ew fl tg iter f) (ok : BlkOk X.N X.env.scope scope own) (hvs : ∀ i ∈ is, i ∈ own.map (·.2))
  (hg : ∀ (s : Shared) (H : Hp) (C : Addr) (cl : List (Str × Addr)) (fp : List Addr), EG (X.blk s H scope (compEnvC scope cl C X.env) fp) ew0 tg is t) (ht : ∀ (s : Shared) (H : Hp) (C : Addr) (cl : List (Str × Addr)) (fp : List Addr), EBs (X.blk s H scope (compEnvC scope cl C X.env) fp) ew0 ifs c)
  (he : ∀ (s : Shared) (H : Hp) (C : Addr) (cl : List (Str × Addr)) (fp : List Addr), E (X.blk s H scope (compEnvC scope cl C X.env) fp) ew0 true elt e) (hs : ∀ x, foldedSetIterable iter X.env x = pure x := by intro _; rfl) :
  E X ew false (.ListComp elt [⟨tg, iter, ifs, 0⟩] scope pos) (lcC f t c e (own.map (·.2))) :=
 Bf (pe_lc (g := tG ⟨X.K, X.mg, ew0⟩ is t) (tt := tIB ⟨X.K, X.mg, ew0⟩ c) (te := tI ⟨X.K, X.mg, ew0⟩ true e) hc hN hi ok hg ht he hs) fun σ H Q h => af7 (C := ⟨X.K, X.mg, ew⟩) (C' := ⟨X.K, X.mg, ew0⟩) rfl hvs h
end
def Sv.asL1 : Sv → Option (List PyData)
 | .l1 xs => some xs
 | _ => none
def Sv.asL2 : Sv → Option (List (List PyData))
 | .l2 xs => some xs
 | _ => none
def Sv.asDD : Sv → Option Dk
 | .dd k => some k
 | _ => none
def Va.asD : Va → Option PyData
 | .d p => some p
 | _ => none
def Va.asI : Va → Option Int
 | .d (.int i) => some i
 | _ => none
theorem acj {s : Sv} {xs : List PyData} (h : s.asL1 = some xs) : s = .l1 xs := by
 cases s <;> simp [Sv.asL1] at h
 subst h; rfl
theorem aci {s : Sv} {xs : List (List PyData)} (h : s.asL2 = some xs) : s = .l2 xs := by
 cases s <;> simp [Sv.asL2] at h
 subst h; rfl
theorem acl {s : Sv} {k : Dk} (h : s.asDD = some k) : s = .dd k := by
 cases s <;> simp [Sv.asDD] at h
 subst h; rfl
theorem NQ {v : Va} {p : PyData} (h : v.asD = some p) : v = .d p := by
 cases v <;> simp [Va.asD] at h
 subst h; rfl
theorem ZQ {v : Va} {i : Int} (h : v.asI = some i) : v = .d (.int i) := by
 cases v with
 | c n => cases h
 | s n => cases h
 | q y ds => cases h
 | d p => cases p <;> simp [Va.asI] at h; subst h; rfl
theorem WW (us : List V) : (∀ ys, HO.lst us ≠ .tup ys) ∧ ∀ x y, HO.lst us ≠ .frz x y := ⟨fun _ z => (by cases z), fun _ _ z => (by cases z)⟩
theorem O8 (us : List (Key × V)) : (∀ ys, HO.dK us ≠ .tup ys) ∧ ∀ x y, HO.dK us ≠ .frz x y := ⟨fun _ z => (by cases z), fun _ _ z => (by cases z)⟩
theorem Zg (us : List (List Key × V)) : (∀ ys, HO.dT us ≠ .tup ys) ∧ ∀ x y, HO.dT us ≠ .frz x y := ⟨fun _ z => (by cases z), fun _ _ z => (by cases z)⟩
theorem Rel.Wy {K : PySem.W.Frag} {W : Wd} {φ : List Addr} {own : Nat → List Addr} {env : En} {S : Sto} {σ : L2.St} {H : Hp} (r : Rel K W φ own env S σ H) {i : Nat} {sv sv' : Sv} {u : V} {a : Addr} {o : HO} (he : env[i]? = some (some sv)) (hu : σ[i]? = some (some u)) (ha : a ∈ own i)
  (ho : (∀ xs, o ≠ .tup xs) ∧ ∀ x y, o ≠ .frz x y) (hs : Ext (hz (Mu W.G φ own) H) (hz (Mu W.G φ own) (upd H a o)) → M6 K (hz (Mu W.G φ own) (upd H a o)) φ (upd H a o) u (own i) sv') : Rel K W φ own (env.set i (some sv')) S σ (upd H a o) := by
 have hm : Mu W.G φ own a := .inr (.inr ⟨i, ha⟩)
 have ex : Ext (hz (Mu W.G φ own) H) (hz (Mu W.G φ own) (upd H a o)) := fun b x h => by
  obtain ⟨n, h⟩ := Aj.mp h
  exact Ey (by rw [upd_ne fun z => n (by rw [z]; exact hm)]; exact h) n
 have hi : i < env.length := (List.getElem?_eq_some_iff.mp he).1
 refine ⟨r.disj, r.apart, r.ndφ, r.gd, fun b hb => ?_, by rw [List.length_set]; exact r.len, fun j s h => ?_, ⟨r.cell.1, fun n c b h1 h2 => (r.cell.2 n c b h1 h2).ext ex (upd_ne fun z => r.apart i a ha (by rw [← z]; exact List.mem_of_getElem? h2))⟩, ⟨r.base.pre, fun b x n h => ?_, r.base.new⟩, r.newF⟩
 ·by_cases e : b = a
  ·subst e
   rw [upd_same]
   exact ⟨rfl, fun xs z => ho.1 xs (Option.some.inj z), fun x y z => (ho.2 x y (Option.some.inj z)).elim⟩
  ·rw [upd_ne e]
   exact r.mu b hb
 ·by_cases e : j = i
  ·subst e
   rw [List.getElem?_set_self hi] at h
   cases h
   exact ⟨u, hu, hs ex⟩
  ·rw [List.getElem?_set_ne (Ne.symm e)] at h
   obtain ⟨v, h1, h2⟩ := r.slot j s h
   exact ⟨v, h1, h2.ext ex (List.prefix_refl _) fun b hb => upd_ne fun z => e (r.disj j i a (by rw [← z]; exact hb) ha)⟩
 ·rw [upd_ne fun z => by rw [z, r.newF i a ha] at h; cases h]
  exact r.base.keep b x n h
def sOwn (f : DLs) (i : Nat) : SF := fun env => lift env (f env) fun ps => if i < env.length then ret (.nx, env.set i (some (.l1 ps))) else no
theorem Rel.agc {K : PySem.W.Frag} {W : Wd} {D : Addr} {φ : List Addr} {own : Nat → List Addr} {env : En} {S : Sto} {σ : L2.St} {H : Hp} (r : Rel K (W.and D) φ own env S σ H) {i : Nat} (hi : i < env.length) {u : V} {sv : Sv} (hG : ¬ W.G D) (h0 : W.H0 D = none)
  (hs : M6 K (hz (Mu (W.and D).G φ own) H) φ H u [D] sv) : Rel K W φ (clr own i [D]) (env.set i (some sv)) S (σ.set i (some u)) H := by
 have sub : Ext (hz (Mu (W.and D).G φ own) H) (hz (Mu W.G φ (clr own i [D])) H) := Du fun a _ _ z => Jk.mpr ((QX z).imp id fun z => by simpa using z)
 have rr := r.aeZ
 refine rr.set hi (fun a h => ?_) (fun j sv' hj he => (r.slot j sv' he).imp fun u q => ⟨q.1, q.2.ext sub (List.prefix_refl _) fun _ _ => rfl⟩) ⟨r.cell.1, fun n c a h1 h2 => (r.cell.2 n c a h1 h2).ext sub rfl⟩ (hs.ext sub (List.prefix_refl _) fun _ _ => rfl)
 ·have e : a = D := by simpa using h
  subst e
  have m := r.mu a (.inl (.inr rfl))
  refine ⟨fun z => ?_, m.1, m.2.1, m.2.2, h0⟩
  rcases QX z with z | z
  ·rcases z with z | z | ⟨j, z⟩
   ·exact hG z
   ·exact (r.gd a (.inr rfl)).1 z
   ·exact (r.gd a (.inr rfl)).2 j z
  ·cases z
theorem base_none {K : PySem.W.Frag} {W : Wd} {φ : List Addr} {own : Nat → List Addr} {env : En} {S : Sto} {σ : L2.St} {H : Hp} (r : Rel K W φ own env S σ H) {D : Addr} (h : H D = none) : W.H0 D = none := by
 cases e : W.H0 D with
 | none => rfl
 | some o =>
  by_cases z : D ∈ W.φ0
  ·obtain ⟨x, hx⟩ := r.mu.get (.inr (.inl (r.base.pre.subset z)))
   rw [h] at hx; cases hx
  ·have := r.base.keep D o z e
   rw [h] at this; cases this
theorem af2 {C : Ct} {σ : L2.St} {H : Hp} {D : Ends} {f : DLs} {i : Nat} (h : tS C (sOwn f i) D σ H) : tAsg (tF C f) (gName i) D σ H := by
 obtain ⟨W, φ, own, env, S, r, h⟩ := h
 refine ⟨W, φ, own, env, S, r, (Cu.mp h).mono (fun ps S1 q φ1 H1 A xs r1 k1 hn hD hr hl => ?_) fun x S1 q φ1 H1 r1 k1 => q φ1 own σ H1 r1⟩
 by_cases hi : i < env.length
 ·rw [if_pos hi] at q
  exact q φ1 _ _ H1 (r1.agc hi (fun z => r.fresh hn (.inl z)) (base_none r hn) ⟨A, xs, rfl, rfl, hD, hr, hl⟩)
 ·rw [if_neg hi] at q; exact q.elim
section
variable {X : Cx} {ew : WX} {st : Stmt} {f : DLs} {i : Nat} {x : Str} {e : Expr} {pos pos' : Pos}
theorem agT (hN : X.N.Nodup) (hi : X.N[i]? = some x) (hx : Loc X.env.scope x) (he : EF X ew e f) (hs : swapsWith e (some (.Name x pos')) pos.line X.env = pure false := by rfl) (hf : X.fn x = true ∨ X.env.scope.names.lookup x = some .local := by first | exact .inl rfl | exact .inr rfl | assumption) :
  ES X ew (.Assign [.Name x pos'] e pos) (sOwn f i) := DY (ps_set hN hi hx he hs hf) fun _ _ _ q => af2 q
end
section
variable {X : Cx} {ew : WX} {fl : Bool} {elt tg iter : Expr} {ifs : List Expr} {scope : Scope} {own : List (Str × Nat)} {pos spos py : Pos} {f : DL} {t : TF} {c : DB} {e : DF} {is : List Nat} {i : Nat} {y : Str}
theorem agb {C : Ct} {σ : L2.St} {H : Hp} {D : Ends} {f : DLs} {i : Nat} (h : tS C (sAsg (fD f) (gN i)) D σ H) : tAsg (tF C f) (gName i) D σ H := by
 obtain ⟨W, φ, own, env, S, r, q⟩ := aaL (is := [i]) h
 exact tF_D ⟨W, φ, own, env, S, r, q.mono (fun v S1 q φ1 H1 u r1 k1 v1 => X4 (q φ1 H1 u r1 k1 v1)) fun _ _ q => q⟩
theorem agp (hc : X.calm = true) (hN : X.N.Nodup) (hy : X.N[i]? = some y) (hyl : X.env.scope.names.lookup y = some .local)
  (hsw : swapsWith (.ListComp elt [⟨tg, iter, ifs, 0⟩] scope pos) (some (.Name y py)) spos.line X.env = pure true) (hi : EI X ew true tg iter f) (ok : BlkOk X.N X.env.scope scope own) (hvs : ∀ i ∈ is, i ∈ own.map (·.2))
  (hg : ∀ (s : Shared) (H : Hp) (C : Addr) (cl : List (Str × Addr)) (fp : List Addr), EG (X.blk s H scope (compEnvC scope cl C X.env) fp) ew0 tg is t) (ht : ∀ (s : Shared) (H : Hp) (C : Addr) (cl : List (Str × Addr)) (fp : List Addr), EBs (X.blk s H scope (compEnvC scope cl C X.env) fp) ew0 ifs c)
  (he : ∀ (s : Shared) (H : Hp) (C : Addr) (cl : List (Str × Addr)) (fp : List Addr), E (X.blk s H scope (compEnvC scope cl C X.env) fp) ew0 true elt e) (hs : ∀ x, foldedSetIterable iter X.env x = pure x := by intro _; rfl) :
  PS X (.Assign [.Name y py] (.ListComp elt [⟨tg, iter, ifs, 0⟩] scope pos) spos) (tAsg (tF ⟨X.K, X.mg, ew⟩ (lcA f t c e (own.map (·.2)))) (gName i)) :=
 DY (ps_setLc (g := tG ⟨X.K, X.mg, ew0⟩ is t) (tt := tIB ⟨X.K, X.mg, ew0⟩ c) (te := tI ⟨X.K, X.mg, ew0⟩ true e) hc hN hy hyl hsw hi ok hg ht he hs) fun D σ H h => adN (C := ⟨X.K, X.mg, ew⟩) (C' := ⟨X.K, X.mg, ew0⟩) rfl hvs h
theorem abX {st : Stmt} {f : DLs} (h : PS X st (tAsg (tF ⟨X.K, X.mg, ew⟩ f) (gName i))) : ES X ew st (sAsg (fD f) (gN i)) := DY h fun _ _ _ q => agb q
end
def fLst (fs : DFA) : DLs := fun env => bnd (fs env) fun vs => bnd (ofO (toDs vs)) fun ps => if ps.length ≤ sizeLine then ret ps else no
theorem ZF {X : Cx} {ew : WX} {es : List Expr} {fs : DFA} {pos : Pos} (h : EA X ew true es fs) : EF X ew (.List es pos) (fLst fs) := Bf (pe_lst h) fun σ H Q h => by
 obtain ⟨W, φ, own, env, S, r, h⟩ := h
 refine ⟨W, φ, own, env, S, r, (Ad.mp h).mono (fun vs S1 q φ1 H1 us r1 k1 v1 => ?_) fun x S1 q φ1 H1 r1 k1 => q φ1 H1 r1 k1⟩
 obtain ⟨ps, e, q⟩ := Aq.mp (Ad.mp q)
 by_cases hl : ps.length ≤ sizeLine
 ·rw [if_pos hl] at q
  have hr := O4 v1 e
  refine ⟨by rw [hr.length]; exact hl, fun p hp => ?_⟩
  have r2 := r1.aby hp (xs := us)
  refine q φ1 _ p us r2 (k1.trans (Kp.ext (Ext.upd hp))) (abA k1 hp fun z => r1.fresh hp (.inr (.inl z))) upd_same (hr.ext fun a o h => ?_) hl
  obtain ⟨n, h⟩ := Aj.mp h
  have ne : a ≠ p := fun z => by rw [z, hp] at h; cases h
  exact Ey (by rw [upd_ne ne]; exact h) fun z => n ((Jk.mp z).resolve_right ne)
 ·rw [if_neg hl] at q; exact q.elim
def sApp (i : Nat) (f : DF) : SF := fun env => bnd (ofO ((lk env i).bind Sv.asL1)) fun xs => lift env (f env) fun v => bnd (ofO v.asD) fun p => if xs.length < sizeLine then ret (.nx, env.set i (some (.l1 (xs ++ [p])))) else no
theorem Xm {X : Cx} {ew : WX} {x : Str} {i : Nat} {e : Expr} {f : DF} {p1 apos cpos pos : Pos} (hN : X.N[i]? = some x) (hv : Vis X.env.scope x) (h : E X ew true e f)
  (hd : (x == ("__debug__" : Str)) = false := by decide) (hcd : (x == ("__classdict__" : Str)) = false := by decide)
  (hbase : attributeBase (.Name x p1) "append" X.env (eval (.Name x p1) X.env) = eval (.Name x p1) X.env := by rfl)
  (hfew : ((backTo cpos (starEach [e] X.env)).all (fun x => !x.1) && (backToKw cpos (keywordEach [] X.env)).all (fun x => x.1.isSome)
   && decide (([e] : List Expr).length + ([] : List Keyword).length + (if ([] : List Keyword).isEmpty then 0 else 1) < 30)) = true := by rfl)
  (hline : (apos.endLine == cpos.line) = true := by rfl) (hst : starEach [e] X.env = (false, eval e X.env) :: starEach [] X.env := by rfl) (hplain : (backTo cpos (starEach [] X.env)).any (·.1) = false := by rfl)
  (hs : swapsWith (.Call (.Attribute (.Name x p1) "append" apos) [e] [] cpos) none pos.line X.env = pure false := by rfl) :
  ES X ew (.Expr (.Call (.Attribute (.Name x p1) "append" apos) [e] [] cpos) pos) (sApp i f) :=
 DY (ps_expr (pe_bm PySem.F.plainAttrs_list PySem.F.slot_list_append PySem.F.type_list_append mt_append (pe_var hN hv hd hcd) (pa_cons h pa_nil hst) hbase hfew hline hst hplain) hs) fun D σ H h => by
  obtain ⟨W, φ, own, env, S, r, h⟩ := h
  obtain ⟨xs, e1, h⟩ := Aq.mp (Ad.mp h)
  obtain ⟨sv, es, e1⟩ := Option.bind_eq_some_iff.mp e1
  have es := Tv es
  have := acj e1
  subst this
  obtain ⟨u, hu, a, us, rfl, hF, ha, hr, hl⟩ := r.slot i _ es
  refine ⟨.ref a, hu, .inl ⟨rfl, _, .inl (.inl ha)⟩, W, φ, own, env, S, r, (Cu.mp h).mono (fun v S1 q φ1 H1 y r1 k1 v1 => ?_) fun x S1 q φ1 H1 r1 k1 => q φ1 own σ H1 r1⟩
  obtain ⟨p, e2, q2⟩ := Aq.mp (Ad.mp q)
  clear q
  obtain rfl := NQ e2
  have hao : a ∈ own i := by rw [hF]; simp
  have ha1 : H1 a = some (.lst us) := k1.keep a _ (r.apart i a hao) ha
  by_cases hz : xs.length < sizeLine
  ·rw [if_pos hz] at q2
   refine ⟨a, us, y, rfl, rfl, ha1, by rw [hr.length]; exact hz, ?_⟩
   refine q2 φ1 own σ _ (r1.Wy es hu hao (WW _) fun ex => ⟨a, us ++ [y], rfl, hF, upd_same, ((hr.ext (Kp.hz (fl := true) k1)).ext ex).append (.cons (Rep.ext ex v1) .nil), ?_⟩)
   rw [List.length_append]; exact hz
  ·rw [if_neg hz] at q2; exact q2.elim
def Wd.ands (W : Wd) (F : List Addr) : Wd := ⟨fun a => W.G a ∨ a ∈ F, W.H0, W.φ0⟩
theorem Wn (W : Wd) : W.ands [] = W := by
 cases W
 simp [Wd.ands]
theorem Wm (W : Wd) (D : Addr) : W.ands [D] = W.and D := by
 cases W
 simp [Wd.ands, Wd.and]
theorem Tg {W : Wd} {F : List Addr} {φ : List Addr} {own : Nat → List Addr} {a : Addr} : Mu (W.ands F).G φ own a ↔ Mu W.G φ own a ∨ a ∈ F := by
 constructor
 ·rintro ((h | h) | h | h)
  ·exact .inl (.inl h)
  ·exact .inr h
  ·exact .inl (.inr (.inl h))
  ·exact .inl (.inr (.inr h))
 ·rintro ((h | h | h) | h)
  ·exact .inl (.inl h)
  ·exact .inr (.inl h)
  ·exact .inr (.inr h)
  ·exact .inl (.inr h)
theorem Rel.agD {K : PySem.W.Frag} {W : Wd} {F : List Addr} {φ : List Addr} {own : Nat → List Addr} {env : En} {S : Sto} {σ : L2.St} {H : Hp} (r : Rel K (W.ands F) φ own env S σ H) : Rel K W φ own env S σ H := by
 have sub : Ext (hz (Mu (W.ands F).G φ own) H) (hz (Mu W.G φ own) H) := Du fun a _ _ z => Tg.mpr (.inl z)
 exact ⟨r.disj, r.apart, r.ndφ, fun a h => r.gd a (.inl h), r.mu.sub fun a z => Tg.mpr (.inl z), r.len, fun i sv h => (r.slot i sv h).imp fun u q => ⟨q.1, q.2.ext sub (List.prefix_refl _) fun _ _ => rfl⟩, ⟨r.cell.1, fun n c a h1 h2 => (r.cell.2 n c a h1 h2).ext sub rfl⟩, r.base, r.newF⟩
theorem Rel.X6 {K : PySem.W.Frag} {W : Wd} {F : List Addr} {φ : List Addr} {own : Nat → List Addr} {env : En} {S : Sto} {σ : L2.St} {H : Hp} (r : Rel K (W.ands F) φ own env S σ H) {i : Nat} (hi : i < env.length) {u : V} {sv : Sv} (hG : ∀ a ∈ F, ¬ W.G a) (h0 : ∀ a ∈ F, W.H0 a = none)
  (hs : M6 K (hz (Mu (W.ands F).G φ own) H) φ H u F sv) : Rel K W φ (clr own i F) (env.set i (some sv)) S (σ.set i (some u)) H := by
 have sub : Ext (hz (Mu (W.ands F).G φ own) H) (hz (Mu W.G φ (clr own i F)) H) := Du fun a _ _ z => Tg.mpr (QX z)
 have rr := r.agD
 refine rr.set hi (fun a h => ?_) (fun j sv' hj he => (r.slot j sv' he).imp fun u q => ⟨q.1, q.2.ext sub (List.prefix_refl _) fun _ _ => rfl⟩) ⟨r.cell.1, fun n c a h1 h2 => (r.cell.2 n c a h1 h2).ext sub rfl⟩ (hs.ext sub (List.prefix_refl _) fun _ _ => rfl)
 have m := r.mu a (.inl (.inr h))
 refine ⟨fun z => ?_, m.1, m.2.1, m.2.2, h0 a h⟩
 rcases QX z with z | z
 ·rcases z with z | z | ⟨j, z⟩
  ·exact hG a h z
  ·exact (r.gd a (.inr h)).1 z
  ·exact (r.gd a (.inr h)).2 j z
 ·cases z
abbrev DO := En → M Sv
def tO (C : Ct) (f : DO) : TE := fun σ H Q => ∃ W φ own env S, Rel C.K W φ own env S σ H ∧
 (f env S).sat (fun sv S' => ∀ φ' H' u F, Rel C.K (W.ands F) φ' own env S' σ H' → Kp φ H φ' H' → (∀ a ∈ F, H a = none) → M6 C.K (hz (Mu (W.ands F).G φ' own) H') φ' H' u F sv → Q u H')
  (fun x S' => ∀ φ' H', Rel C.K W φ' own env S' σ H' → Kp φ H φ' H' → Kh C (Mu W.G φ' own) σ H' x)
def EO (X : Cx) (ew : WX) (e : Expr) (f : DO) : Prop := PE X e (tO ⟨X.K, X.mg, ew⟩ f)
def oE (f : DF) : DO := fun env => bnd (f env) fun v => ret (svOf v)
def oF (f : DLs) : DO := fun env => bnd (f env) fun ps => ret (.l1 ps)
def oD : DO := fun _ => ret (.dd (.k []))
section
variable {X : Cx} {ew : WX} {e : Expr} {f : DF} {g : DLs} {pos : Pos}
theorem eo_e (h : E X ew true e f) : EO X ew e (oE f) := Bf h fun σ H Q h => by
 obtain ⟨W, φ, own, env, S, r, h⟩ := h
 refine ⟨W, φ, own, env, S, r, (Ad.mp h).mono (fun v S1 q φ1 H1 u r1 k1 v1 => ?_) fun _ _ q => q⟩
 refine q φ1 H1 u [] (by rw [Wn]; exact r1) k1 (fun a h => absurd h (by simp)) ?_
 rw [Wn]
 cases v with
 | d p => exact ⟨v1, rfl⟩
 | c n => obtain ⟨a, h1, h2⟩ := v1; exact ⟨a, h1, h2, rfl⟩
 | s n => exact ⟨v1, rfl⟩
 | q y ds => exact ⟨v1, rfl⟩
theorem eo_f (h : EF X ew e g) : EO X ew e (oF g) := Bf h fun σ H Q h => by
 obtain ⟨W, φ, own, env, S, r, h⟩ := h
 refine ⟨W, φ, own, env, S, r, (Ad.mp h).mono (fun ps S1 q φ1 H1 D xs r1 k1 hn hD hr hl => ?_) fun _ _ q => q⟩
 exact q φ1 H1 (.ref D) [D] (by rw [Wm]; exact r1) k1 (fun a h => by rw [List.mem_singleton.mp h]; exact hn) (by rw [Wm]; exact ⟨D, xs, rfl, rfl, hD, hr, hl⟩)
theorem Rel.agG {K : PySem.W.Frag} {W : Wd} {φ : List Addr} {own : Nat → List Addr} {env : En} {S : Sto} {σ : L2.St} {H : Hp} (r : Rel K W φ own env S σ H) {D : Addr} (hD : H D = none) {o : HO} (ho : (∀ ys, o ≠ .tup ys) ∧ ∀ x y, o ≠ .frz x y) : Rel K (W.and D) φ own env S σ (upd H D o) := by
 have nf := r.fresh hD
 have ex : Ext (hz (Mu W.G φ own) H) (hz (Mu (W.and D).G φ own) (upd H D o)) := fun a x h => by
  obtain ⟨n, h⟩ := Aj.mp h
  have ne : a ≠ D := fun z => by rw [z, hD] at h; cases h
  exact Ey (by rw [upd_ne ne]; exact h) fun z => n ((Jk.mp z).resolve_right ne)
 have kk : ∀ a, Mu W.G φ own a → upd H D o a = H a := fun a h => upd_ne fun z => nf (by rw [← z]; exact h)
 refine ⟨r.disj, r.apart, r.ndφ, fun a h => ?_, fun a h => ?_, r.len, fun i sv h => ?_, ⟨r.cell.1, fun n c a h1 h2 => (r.cell.2 n c a h1 h2).ext ex (kk a (.inr (.inl (List.mem_of_getElem? h2))))⟩, r.base.trans (Kp.ext (Ext.upd hD)), r.newF⟩
 ·rcases h with h | h
  ·exact r.gd a h
  ·subst h
   exact ⟨fun z => nf (.inr (.inl z)), fun i z => nf (.inr (.inr ⟨i, z⟩))⟩
 ·by_cases e : a = D
  ·subst e
   rw [upd_same]
   exact ⟨rfl, fun xs z => ho.1 xs (Option.some.inj z), fun x y z => (ho.2 x y (Option.some.inj z)).elim⟩
  ·have hm : Mu W.G φ own a := (Jk.mp h).resolve_right e
   rw [kk a hm]
   exact r.mu a hm
 ·obtain ⟨u, h1, h2⟩ := r.slot i sv h
  exact ⟨u, h1, h2.ext ex (List.prefix_refl _) fun a ha => kk a (.inr (.inr ⟨i, ha⟩))⟩
theorem afl : EO X ew (.Dict [] [] pos) oD := Bf pe_dnewK fun σ H Q h => by
 obtain ⟨W, φ, own, env, S, r, h⟩ := h
 intro p hp
 exact h φ _ (.ref p) [p] (by rw [Wm]; exact r.agG hp (O8 _)) (Kp.ext (Ext.upd hp)) (fun a h => by rw [List.mem_singleton.mp h]; exact hp) ⟨p, rfl, rfl, [], upd_same, .nil⟩
end
theorem Kh.more {C : Ct} {Nu Mu : Addr → Prop} {σ : L2.St} {H : Hp} {x : Ex} (h : Kh C Nu σ H x) (s : ∀ a, Nu a → Mu a) : Kh C Mu σ H x := ⟨fun a d h1 h2 => h.1 a d h1 (h2.ext (Du fun a _ _ z => s a z)), h.2⟩
def ahV (f : DO) (i : Nat) : SF := fun env => lift env (f env) fun sv => if i < env.length then ret (.nx, env.set i (some sv)) else no
def sPar (f g : DO) (i j : Nat) : SF := fun env => lift env (f env) fun sv => lift env (g env) fun sw => if i < env.length ∧ j < env.length then ret (.nx, (env.set i (some sv)).set j (some sw)) else no
theorem af1 {C : Ct} {σ : L2.St} {H : Hp} {D : Ends} {f g : DO} {i j : Nat} (hij : i ≠ j) (h : tS C (sPar f g i j) D σ H) : tPar i j (tCons (tO C f) (tCons (tO C g) tNil)) D σ H := by
 obtain ⟨W, φ, own, env, S, r, h⟩ := h
 refine ⟨W, φ, own, env, S, r, (Cu.mp h).mono (fun sv S1 q φ1 H1 u F r1 k1 hF hs => ?_) fun x S1 q φ1 H1 r1 k1 => q φ1 own σ H1 r1⟩
 refine ⟨W.ands F, φ1, own, env, S1, r1, (Cu.mp q).mono (fun sw S2 q φ2 H2 w G r2 k2 hG hw => ?_) fun x S2 q φ2 H2 r2 k2 => ?_⟩
 ·refine ⟨u, w, rfl, ?_⟩
  by_cases hl : i < env.length ∧ j < env.length
  ·rw [if_pos hl] at q
   have e1 : ∀ a ∈ F, H1 a = H2 a ∧ ∃ o, H1 a = some o := fun a ha => by
    obtain ⟨o, ho⟩ := r1.mu.get (.inl (.inr ha))
    exact ⟨by rw [ho, k2.keep a o (r1.gd a (.inr ha)).1 ho], o, ho⟩
   have r3 := r2.X6 hl.2 (u := w) (sv := sw) (fun a h z => r1.fresh (hG a h) (.inl z)) (fun a h => base_none r1 (hG a h)) hw
   have hs2 : M6 C.K (hz (Mu (W.ands F).G φ2 (clr own j G)) H2) φ2 H2 u F sv := by
    refine hs.ext (fun a o h => ?_) k2.pre fun a ha => (e1 a ha).1.symm
    obtain ⟨n, h⟩ := Aj.mp h
    have na : a ∉ φ1 := fun z => n (.inr (.inl z))
    refine Ey (k2.keep a o na h) fun z => ?_
    rcases QX z with z | z
    ·rcases z with z | z | z
     ·exact n (.inl z)
     ·have := k2.new a z na
      rw [h] at this; cases this
     ·exact n (.inr (.inr z))
    ·have := hG a z
     rw [h] at this; cases this
   have r4 := r3.X6 (i := i) (by rw [List.length_set]; exact hl.1) (fun a h z => r.fresh (hF a h) (.inl z)) (fun a h => base_none r (hF a h)) hs2
   rw [List.set_comm _ _ hij]
   rw [List.set_comm _ _ hij] at q
   exact q φ2 _ _ H2 r4
  ·rw [if_neg hl] at q; exact q.elim
 ·exact Kh.more (q φ2 own σ H2 r2.agD) fun a z => Tg.mpr (.inl z)
theorem Vj {X : Cx} {ew : WX} {f g : DO} {i j : Nat} {x y : Str} {a b : Expr} {px py pt pos : Pos} {kt k2 pt2} (hc : X.calm = true) (hN : X.N.Nodup) (hi : X.N[i]? = some x) (hj : X.N[j]? = some y) (hij : i ≠ j)
  (hx : X.env.scope.names.lookup x = some .local) (hy : X.env.scope.names.lookup y = some .local) (ha : EO X ew a f) (hb : EO X ew b g)
  (hw : swappedStores [.Tuple [.Name x px, .Name y py] kt pt] (.Tuple [a, b] k2 pt2) X.env = pure (some [x, y]))
  (hs : swapsWithSole [.Tuple [.Name x px, .Name y py] kt pt] (.Tuple [a, b] k2 pt2) pos.line X.env = pure false := by rfl)
  (hs1 : starEach [a, b] X.env = (false, eval a X.env) :: starEach [b] X.env := by rfl) (hs2 : starEach [b] X.env = (false, eval b X.env) :: starEach [] X.env := by rfl) :
  ES X ew (.Assign [.Tuple [.Name x px, .Name y py] kt pt] (.Tuple [a, b] k2 pt2) pos) (sPar f g i j) :=
 DY (ps_par hc hN hi hj hij hx hy (pa_cons ha (pa_cons hb pa_nil hs2) hs1) hw hs) fun _ _ _ q => af1 hij q
theorem Rel.afC {K : PySem.W.Frag} {W : Wd} {F : List Addr} {φ φ' : List Addr} {own : Nat → List Addr} {env : En} {S S' : Sto} {σ : L2.St} {H H' : Hp} (r : Rel K W φ own env S σ H) (hF : ∀ a ∈ F, H a = none) (k : Kp φ H φ' H') (e : Ent K (fun a => outG W own a ∨ a ∈ F) φ' S' H') : Rel K (W.ands F) φ' own env S' σ H' := by
 have me : Mu (fun a => outG W own a ∨ a ∈ F) φ' nob = Mu (W.ands F).G φ' own := by
  funext a
  apply propext
  constructor
  ·intro z
   rcases z with (z | z) | z | ⟨_, z⟩
   ·exact z.elim (fun z => .inl (.inl z)) fun z => .inr (.inr z)
   ·exact .inl (.inr z)
   ·exact .inr (.inl z)
   ·exact absurd z (by simp [nob])
  ·intro z
   rcases z with (z | z) | z | z
   ·exact .inl (.inl (.inl z))
   ·exact .inl (.inr z)
   ·exact .inr (.inl z)
   ·exact .inl (.inl (.inr z))
 have ex : Ext (hz (Mu W.G φ own) H) (hz (Mu (W.ands F).G φ' own) H') := fun a o h => by
  obtain ⟨n, h⟩ := Aj.mp h
  have na : a ∉ φ := fun z => n (.inr (.inl z))
  refine Ey (k.keep a o na h) fun z => ?_
  rcases z with (z | z) | z | z
  ·exact n (.inl z)
  ·rw [hF a z] at h; cases h
  ·have := k.new a z na
   rw [h] at this; cases this
  ·exact n (.inr (.inr z))
 have fo : ∀ i a, a ∈ own i → a ∉ F := fun i a ha hf => by
  obtain ⟨o, ho⟩ := r.mu.get (.inr (.inr ⟨i, ha⟩))
  rw [hF a hf] at ho; cases ho
 exact ⟨r.disj, fun i a h z => e.gd a (.inl (.inr ⟨i, h⟩)) z, e.nd, fun a h => ⟨e.gd a (h.elim (fun h => .inl (.inl h)) .inr), fun i z => h.elim (fun h => (r.gd a h).2 i z) fun h => fo i a z h⟩, by have := e.mu; rw [me] at this; exact this, r.len,
  fun i sv h => (r.slot i sv h).imp fun u q => ⟨q.1, q.2.ext ex k.pre fun a ha => by
   obtain ⟨o, ho⟩ := r.mu.get (.inr (.inr ⟨i, ha⟩))
   rw [ho, k.keep a o (r.apart i a ha) ho]⟩, by have := e.cell; rw [me] at this; exact this, r.base.trans k, r.newF⟩
theorem Gi.append {K : PySem.W.Frag} {Z H : Hp} : ∀ {bs cs : List Addr} {xss yss : List (List PyData)}, Gi K Z H bs xss → Gi K Z H cs yss → Gi K Z H (bs ++ cs) (xss ++ yss)
 | _, _, _, _, .nil, s => s
 | _, _, _, _, .cons h l r t, s => .cons h l r (Gi.append t s)
def YF (t : TF) (e : DLs) (env : En) : List PyData → M (List (List PyData))
 | [] => ret []
 | p :: ps => bnd (ofO (t (.d p) env)) fun env1 => bnd (e env1) fun q => bnd (YF t e env ps) fun r => ret (q :: r)
theorem ab9 {C C' : Ct} (hK : C'.K = C.K) {W : Wd} {φ1 : List Addr} {env : En} {S1 : Sto} {σ : L2.St} {H1 : Hp} {D : Addr} {vs is : List Nat} {J : It} {ps : List PyData} {t : TF} {e : DLs} {Z : Hp} {Qf : List (List PyData) → Sto → Prop} {Q : Hp → Prop}
  (hvs : ∀ i ∈ is, i ∈ vs) (hW : W.G D) (hD0 : W.H0 D = none) (hHD : H1 D = none) (hl : ps.length ≤ sizeLine)
  (r1 : Rel C.K W φ1 nob env S1 (wipe σ vs) (upd H1 D (.lst [])))
  (it : ItR C.K Z J ps) (hZ : ∀ bs φ2 S2 H2, Rel C.K (W.ands bs) φ2 nob env S2 (wipe σ vs) H2 → (∀ b ∈ bs, H1 b = none) → Kp φ1 H1 φ2 H2 → Ext Z (hz (Mu (W.ands bs).G φ2 nob) H2))
  (h : (YF t e env ps S1).sat Qf (fun _ _ => False))
  (fin : ∀ bs φ2 S2 H2 ds, Rel C.K (W.ands bs) φ2 nob env S2 (wipe σ vs) H2 → Kp φ1 H1 φ2 H2 → (∀ b ∈ bs, H1 b = none) → (D :: bs).Nodup → H2 D = some (.lst (bs.map V.ref)) → Gi C.K (hz (Mu (W.ands bs).G φ2 nob) H2) H2 bs ds → ds.length ≤ sizeLine → Qf ds S2 → Q H2) :
  ∃ I : Nat → Nat → Hp → Prop, (∃ m, I 0 m (upd H1 D (.lst []))) ∧ ∀ i m H, I i m H →
   (J.stop i H ∧ Q H) ∨ (J.go i H ∧ ∃ Nx : Hp → Prop, (∀ H', Nx H' → ∃ m', m' < m ∧ I (i + 1) m' H') ∧ ∀ x H', J.yld i H x H' → tG C' is t x (wipe σ vs) H' fun σ2 H2 => wipe σ2 vs = wipe σ vs ∧ tYes σ2 H2 fun b H3 =>
    if b = true then tF C' e σ2 H3 fun y H4 => ∃ acc, H4 D = some (.lst acc) ∧ acc.length < sizeLine ∧ Nx (upd H4 D (.lst (acc ++ [y]))) else Nx H3) := by
 let Iv : Nat → Hp → Prop := fun i H => ∃ bs φ2 S2 ds, Rel C.K (W.ands bs) φ2 nob env S2 (wipe σ vs) H ∧ Kp φ1 H1 φ2 H ∧ (∀ b ∈ bs, H1 b = none) ∧ (D :: bs).Nodup ∧ H D = some (.lst (bs.map V.ref)) ∧ Gi C.K (hz (Mu (W.ands bs).G φ2 nob) H) H bs ds ∧ ds.length = i ∧
  (YF t e env (ps.drop i) S2).sat (fun r S' => Qf (ds ++ r) S') (fun _ _ => False)
 refine ⟨fun i m H => i + m = ps.length ∧ Iv i H, ⟨ps.length, by omega, [], φ1, S1, [], by rw [Wn]; exact r1, ⟨List.prefix_refl _, fun a o _ h => ?_, fun a h n => absurd h n⟩, fun b hb => absurd hb (by simp), by simp, upd_same, .nil, rfl, h⟩, ?_⟩
 ·rw [upd_ne fun z => by rw [z, hHD] at h; cases h]; exact h
 rintro i m H ⟨em, bs, φ2, S2, ds, r2, k2, hbs, hnd, hacc, hrep, hdl, q2⟩
 have ez := hZ bs φ2 S2 H r2 hbs k2
 have ezH : Ext Z H := Ext.trans ez Dq
 by_cases hi : i < ps.length
 ·have hd : ps.drop i = ps[i] :: ps.drop (i + 1) := List.drop_eq_getElem_cons hi
  rw [hd] at q2
  have gi : ps[i]? = some ps[i] := List.getElem?_eq_getElem hi
  obtain ⟨env3, e3, q3⟩ := Aq.mp (Ad.mp q2)
  refine .inr ⟨it.go i _ H ezH gi, Iv (i + 1), fun H' hI => ⟨m - 1, by omega, by omega, hI⟩, fun x H3 y => ?_⟩
  obtain ⟨eg, rep⟩ := it.yld i _ H x H3 ezH gi y
  have r3 := r2.grow eg
  have ndφ2 : D ∉ φ2 := (r2.gd D (.inl hW)).1
  refine ⟨W.ands bs, φ2, nob, env, S2, .d ps[i], by rw [hK]; exact r3, by rw [hK]; exact rep _ r2.mu ez, env3, e3, fun own3 σ3 r4 sm o4 => ⟨(o4.1 vs hvs).trans (O3 σ vs), ?_⟩⟩
  rw [hK] at r4
  have n3 : ∀ j a, a ∉ own3 j := fun j a z => by
   rcases sm a (.inr (.inr ⟨j, z⟩)) with y | y | ⟨_, y⟩
   ·exact (r4.gd a y).2 j z
   ·exact r4.apart j a z y
   ·cases y
  have mo : ∀ G φ6, Mu G φ6 own3 = Mu G φ6 nob := fun G φ6 => funext fun a => propext ⟨fun z => z.elim .inl fun z => z.elim (fun z => .inr (.inl z)) fun ⟨j, z⟩ => absurd z (n3 j a), fun z => z.elim .inl fun z => z.elim (fun z => .inr (.inl z)) fun ⟨j, z⟩ => absurd z (by simp [nob])⟩
  unfold tYes
  dsimp only
  rw [if_pos rfl]
  refine ⟨W.ands bs, φ2, own3, env3, S2, by rw [hK]; exact r4, (Ad.mp q3).mono (fun q S6 q6 φ6 H6 B xs r6 k6 hB hHB hrB hlB => ?_) fun _ _ z => z.elim⟩
  rw [hK] at r6 hrB
  have k6' : Kp φ2 H φ6 H6 := (Kp.ext eg).trans k6
  have hD6 : H6 D = some (.lst (bs.map V.ref)) := k6'.keep D _ ndφ2 hacc
  have hB0 : H B = none := by
   cases e : H B with
   | none => rfl
   | some o => rw [eg B o e] at hB; cases hB
  have nBD : B ≠ D := fun z => by rw [z, hacc] at hB0; cases hB0
  have hB1 : H1 B = none := by
   refine abA k2 hB0 fun z => ?_
   obtain ⟨o, ho⟩ := r2.mu.get (.inr (.inl z))
   rw [hB0] at ho; cases ho
  have nBbs : B ∉ bs := fun z => by
   obtain ⟨o, ho⟩ := r2.mu.get (.inl (.inr z))
   rw [hB0] at ho; cases ho
  have ew : (W.ands bs).and B = W.ands (bs ++ [B]) := by
   cases W
   simp [Wd.ands, Wd.and, or_assoc]
  refine ⟨bs.map V.ref, hD6, ?_, ?_⟩
  ·rw [List.length_map, hrep.length]; omega
  ·have rb : Rel C.K (W.ands (bs ++ [B])) φ6 nob env S6 (wipe σ vs) H6 := by
    rw [← ew]
    have cc := r6.cell
    have mm := r6.mu
    rw [mo] at cc mm
    refine ⟨fun i j a h => absurd h (by simp [nob]), fun i a h => absurd h (by simp [nob]), r6.ndφ, fun a h => ⟨(r6.gd a h).1, fun i => by simp [nob]⟩, mm, r2.len, fun j sv hj => ?_, cc, r2.base.trans k6', fun i a h => absurd h (by simp [nob])⟩
    obtain ⟨u, h1, h2⟩ := r2.slot j sv hj
    refine ⟨u, h1, h2.ext (fun a o h => ?_) k6'.pre fun a ha => absurd ha (by simp [nob])⟩
    obtain ⟨n, h⟩ := Aj.mp h
    have na : a ∉ φ2 := fun z => n (.inr (.inl z))
    refine Ey (k6'.keep a o na h) fun z => ?_
    rcases Jk.mp z with z | z
    ·rcases z with z | z | ⟨_, z⟩
     ·exact n (.inl z)
     ·have := k6'.new a z na
      rw [h] at this; cases this
     ·cases z
    ·rw [z, hB0] at h; cases h
   have hx : Ext (hz (Mu (W.ands bs).G φ2 nob) H) (hz (Mu (W.ands (bs ++ [B])).G φ6 nob) H6) := fun a o h => by
    obtain ⟨n, h⟩ := Aj.mp h
    have na : a ∉ φ2 := fun z => n (.inr (.inl z))
    refine Ey (k6'.keep a o na h) fun z => ?_
    rw [← ew] at z
    rcases Jk.mp z with z | z
    ·rcases z with z | z | ⟨_, z⟩
     ·exact n (.inl z)
     ·have := k6'.new a z na
      rw [h] at this; cases this
     ·cases z
    ·rw [z, hB0] at h; cases h
   have hWD : (W.ands (bs ++ [B])).G D := .inl hW
   have hup : Ext (hz (Mu (W.ands (bs ++ [B])).G φ6 nob) H6) (hz (Mu (W.ands (bs ++ [B])).G φ6 nob) (upd H6 D (.lst (bs.map V.ref ++ [.ref B])))) := fun a o h => by
    obtain ⟨n, h⟩ := Aj.mp h
    exact Ey (by rw [upd_ne fun z => n (.inl (by rw [z]; exact hWD))]; exact h) n
   have hbD : ∀ b ∈ bs, b ≠ D := fun b hb z => by
    have := List.nodup_cons.mp hnd
    exact this.1 (by rw [← z]; exact hb)
   refine ⟨bs ++ [B], φ6, S6, ds ++ [q], rb.updG hWD hD0, ?_, ?_, ?_, ?_, ?_, by rw [List.length_append, hdl]; rfl, ?_⟩
   ·have kk := (k2.trans (Kp.ext eg)).trans k6
    refine ⟨kk.pre, fun a o n h => ?_, kk.new⟩
    rw [upd_ne fun z => by rw [z, hHD] at h; cases h]
    exact kk.keep a o n h
   ·intro b hb
    rcases List.mem_append.mp hb with z | z
    ·exact hbs b z
    ·rw [List.mem_singleton.mp z]; exact hB1
   ·rw [← List.cons_append]
    refine List.nodup_append.mpr ⟨hnd, by simp, fun a ha b hb => ?_⟩
    rw [List.mem_singleton.mp hb]
    intro z
    rcases List.mem_cons.mp ha with y | y
    ·exact nBD (z.symm.trans y)
    ·exact nBbs (by rw [← z]; exact y)
   ·rw [upd_same, List.map_append]; rfl
   ·refine Gi.append (hrep.ext (Ext.trans hx hup) fun b hb => ?_) (.cons (us := xs) ?_ hlB ?_ .nil)
    ·rw [upd_ne (hbD b hb)]
     obtain ⟨o, ho⟩ := r2.mu.get (.inl (.inr hb))
     rw [ho, k6'.keep b o (r2.gd b (.inr hb)).1 ho]
    ·rw [upd_ne nBD]; exact hHB
    ·rw [mo, ew] at hrB
     exact hrB.ext hup
   ·exact (Ad.mp q6).mono (fun r S7 z => by rw [List.append_assoc]; exact z) fun _ _ z => z
 ·have hi' : ps.length ≤ i := Nat.le_of_not_lt hi
  rw [List.drop_eq_nil_of_le hi'] at q2
  have ei : i = ps.length := by omega
  have q2 : Qf (ds ++ []) S2 := q2
  rw [List.append_nil] at q2
  refine .inl ⟨by rw [ei]; exact it.stop H ezH, fin bs φ2 S2 H ds r2 k2 hbs hnd hacc hrep (by omega) q2⟩
def aaX (f : DL) (t : TF) (e : DLs) (vs : List Nat) (i : Nat) : SF := fun env => lift env (f env) fun ps => if ps.length ≤ sizeLine ∧ i < env.length then bnd (noX (YF t e (Em (Eh env) vs) ps)) (fun xss => ret (.nx, env.set i (some (.l2 xss)))) else no
theorem aed {C C' : Ct} (hK : C'.K = C.K) {σ : L2.St} {H : Hp} {D : Ends} {f : DL} {t : TF} {e : DLs} {vs is : List Nat} {i : Nat} (hvs : ∀ i ∈ is, i ∈ vs) (h : tS C (aaX f t e vs i) D σ H) :
  tAsg (tLc (tIt C true f) (tG C' is t) tYes (tF C' e) vs) (gName i) D σ H := by
 obtain ⟨W, φ, own, env, S, r, h⟩ := h
 refine ⟨W, φ, own, env, S, r, (Cu.mp h).mono (fun ps S1 q φ1 H1 J r1 k1 it A hA => ?_) fun x S1 q φ1 H1 r1 k1 => q φ1 own σ H1 r1⟩
 by_cases hl : ps.length ≤ sizeLine ∧ i < env.length
 ·rw [if_pos hl] at q
  have q := Oj (E' := fun _ _ => False) (Ad.mp q)
  have nA := r1.fresh hA
  refine ab9 (C := C) hK (W := ⟨fun a => outG W own a ∨ a = A, low own H1, φ1⟩) (env := Em (Eh env) vs) (Z := hz (Mo true W.G φ1 own) H1) hvs (.inr rfl) ?_ hA hl.1 (r1.RX vs hA) it (fun bs φ2 S2 H2 r2 hbs k2 => ?_) q (fun bs φ2 S2 H2 ds r2 k2 hbs hnd hacc hrep hdl hq => ?_)
  ·show low own H1 A = none
   unfold low hz
   split
   ·rfl
   ·exact hA
  ·intro a o ha
   obtain ⟨n, ha⟩ := Aj.mp ha
   have na : a ∉ φ1 := fun z => n (.inr (.inl z))
   refine Ey (k2.keep a o na ha) fun z => ?_
   rcases Tg.mp z with z | z
   ·rcases z with (z | z) | z | ⟨j, z⟩
    ·exact n (z.elim .inl fun z => .inr (.inr z))
    ·rw [z, hA] at ha; cases ha
    ·have := k2.new a z na
     rw [ha] at this; cases this
    ·exact absurd z (by simp [nob])
   ·rw [hbs a z] at ha; cases ha
  ·have hF : ∀ a ∈ A :: bs, H1 a = none := fun a ha => by
    rcases List.mem_cons.mp ha with z | z
    ·rw [z]; exact hA
    ·exact hbs a z
   have eG : (fun a => outG W own a ∨ a ∈ A :: bs) = ((⟨fun a => outG W own a ∨ a = A, low own H1, φ1⟩ : Wd).ands bs).G := by
    funext a
    simp [Wd.ands, or_assoc]
   have en : Ent C.K (fun a => outG W own a ∨ a ∈ A :: bs) φ2 S2 H2 := by
    rw [eG]
    exact ⟨r2.ndφ, fun a z => (r2.gd a z).1, r2.mu, r2.cell⟩
   have r3 := r1.afC hF k2 en
   have me : Mu (W.ands (A :: bs)).G φ2 own = Mu ((⟨fun a => outG W own a ∨ a = A, low own H1, φ1⟩ : Wd).ands bs).G φ2 nob := by
    rw [← eG]
    funext a
    apply propext
    constructor
    ·intro z
     rcases z with (z | z) | z | z
     ·exact .inl (.inl (.inl z))
     ·exact .inl (.inr z)
     ·exact .inr (.inl z)
     ·exact .inl (.inl (.inr z))
    ·intro z
     rcases z with (z | z) | z | ⟨_, z⟩
     ·exact z.elim (fun z => .inl (.inl z)) fun z => .inr (.inr z)
     ·exact .inl (.inr z)
     ·exact .inr (.inl z)
     ·exact absurd z (by simp [nob])
   refine hq φ2 _ _ H2 (r3.X6 hl.2 (fun a h z => r1.fresh (hF a h) (.inl z)) (fun a h => base_none r1 (hF a h)) ?_)
   refine ⟨A, bs, rfl, rfl, hnd, hacc, ?_, hdl⟩
   rw [me]
   exact hrep
 ·rw [if_neg hl] at q; exact q.elim
theorem abY {X : Cx} {ew : WX} {elt tg iter : Expr} {scope : Scope} {own : List (Str × Nat)} {pos spos py : Pos} {f : DL} {t : TF} {e : DLs} {is : List Nat} {i : Nat} {y : Str} (hc : X.calm = true) (hN : X.N.Nodup) (hy : X.N[i]? = some y) (hyl : X.env.scope.names.lookup y = some .local)
  (hsw : swapsWith (.ListComp elt [⟨tg, iter, [], 0⟩] scope pos) (some (.Name y py)) spos.line X.env = pure true) (hi : EI X ew true tg iter f) (ok : BlkOk X.N X.env.scope scope own) (hvs : ∀ i ∈ is, i ∈ own.map (·.2))
  (hg : ∀ (s : Shared) (H : Hp) (C : Addr) (cl : List (Str × Addr)) (fp : List Addr), EG (X.blk s H scope (compEnvC scope cl C X.env) fp) ew0 tg is t)
  (he : ∀ (s : Shared) (H : Hp) (C : Addr) (cl : List (Str × Addr)) (fp : List Addr), EF (X.blk s H scope (compEnvC scope cl C X.env) fp) ew0 elt e) (hs : ∀ x, foldedSetIterable iter X.env x = pure x := by intro _; rfl) :
  ES X ew (.Assign [.Name y py] (.ListComp elt [⟨tg, iter, [], 0⟩] scope pos) spos) (aaX f t e (own.map (·.2)) i) :=
 DY (ps_setLc (g := tG ⟨X.K, X.mg, ew0⟩ is t) (tt := tYes) (te := tF ⟨X.K, X.mg, ew0⟩ e) hc hN hy hyl hsw hi ok hg (fun _ _ _ _ _ => pts_nil) he hs) fun D σ H h => aed (C := ⟨X.K, X.mg, ew⟩) (C' := ⟨X.K, X.mg, ew0⟩) rfl hvs h
theorem Gi.get {K : PySem.W.Frag} {Z H : Hp} : ∀ {bs : List Addr} {xss : List (List PyData)} {j : Nat} {xs : List PyData}, Gi K Z H bs xss → xss[j]? = some xs → ∃ b us, bs[j]? = some b ∧ H b = some (.lst us) ∧ xs.length ≤ sizeLine ∧ Af K Z us xs
 | _, _, _, _, .nil, e => by simp at e
 | _, _, 0, _, .cons h l r _, e => by simp at e; subst e; exact ⟨_, _, rfl, h, l, r⟩
 | _, _, j + 1, xs, .cons _ _ _ t, e => by
  obtain ⟨b, us, h1, h2⟩ := Gi.get (j := j) (xs := xs) t (by simpa using e)
  exact ⟨b, us, by simpa using h1, h2⟩
theorem Gi.adQ {K : PySem.W.Frag} {Z Z' H H' : Hp} {c : Addr} {us : List V} {ys : List PyData} (ez : Ext Z Z') (hc : H' c = some (.lst us)) (hl : ys.length ≤ sizeLine) (hr : Af K Z' us ys) : ∀ {bs : List Addr} {xss : List (List PyData)} {j : Nat}, Gi K Z H bs xss → bs.Nodup → bs[j]? = some c → (∀ b, b ∈ bs → b ≠ c → H' b = H b) → Gi K Z' H' bs (xss.set j ys)
 | _, _, _, .nil, _, e, _ => by simp at e
 | b :: bs, _, 0, .cons h l r t, nd, e, k => by
  simp at e
  subst e
  have n := (List.nodup_cons.mp nd).1
  exact .cons hc hl hr (t.ext ez fun d hd => k d (List.mem_cons_of_mem _ hd) fun z => n (by rw [← z]; exact hd))
 | b :: bs, _, j + 1, .cons h l r t, nd, e, k => by
  have e' : bs[j]? = some c := by simpa using e
  have n : b ≠ c := fun z => (List.nodup_cons.mp nd).1 (by rw [z]; exact List.mem_of_getElem? e')
  exact .cons (by rw [k b List.mem_cons_self n]; exact h) l (r.ext ez) (Gi.adQ ez hc hl hr t (List.nodup_cons.mp nd).2 e' fun d hd => k d (List.mem_cons_of_mem _ hd))
def aa0 (i : Nat) (fk f : DF) : SF := fun env => bnd (ofO ((lk env i).bind Sv.asL2)) fun xss => lift env (fk env) fun k => bnd (ofO (k.asI.bind (ixN xss.length))) fun j => bnd (ofO xss[j]?) fun xs => lift env (f env) fun v => bnd (ofO v.asD) fun p =>
 if xs.length < sizeLine then ret (.nx, env.set i (some (.l2 (xss.set j (xs ++ [p]))))) else no
theorem Vk {X : Cx} {ew : WX} {x : Str} {i : Nat} {ek e : Expr} {fk f : DF} {p1 p2 apos cpos pos : Pos} (hN : X.N[i]? = some x) (hv : Vis X.env.scope x) (hk : E X ew true ek fk) (h : E X ew true e f) (hpx : PlainIx ek)
  (hd : (x == ("__debug__" : Str)) = false := by decide) (hcd : (x == ("__classdict__" : Str)) = false := by decide)
  (hbase : attributeBase (.Subscript (.Name x p1) ek p2) "append" X.env (eval (.Subscript (.Name x p1) ek p2) X.env) = eval (.Subscript (.Name x p1) ek p2) X.env := by rfl)
  (hfew : ((backTo cpos (starEach [e] X.env)).all (fun x => !x.1) && (backToKw cpos (keywordEach [] X.env)).all (fun x => x.1.isSome)
   && decide (([e] : List Expr).length + ([] : List Keyword).length + (if ([] : List Keyword).isEmpty then 0 else 1) < 30)) = true := by rfl)
  (hline : (apos.endLine == cpos.line) = true := by rfl) (hst : starEach [e] X.env = (false, eval e X.env) :: starEach [] X.env := by rfl) (hplain : (backTo cpos (starEach [] X.env)).any (·.1) = false := by rfl)
  (hs : swapsWith (.Call (.Attribute (.Subscript (.Name x p1) ek p2) "append" apos) [e] [] cpos) none pos.line X.env = pure false := by rfl) :
  ES X ew (.Expr (.Call (.Attribute (.Subscript (.Name x p1) ek p2) "append" apos) [e] [] cpos) pos) (aa0 i fk f) :=
 DY (ps_expr (pe_bm PySem.F.plainAttrs_list PySem.F.slot_list_append PySem.F.type_list_append mt_append (pe_ix ix_list (pe_var hN hv hd hcd) hk hpx) (pa_cons h pa_nil hst) hbase hfew hline hst hplain) hs) fun D σ H h => by
  obtain ⟨W, φ, own, env, S, r, h⟩ := h
  obtain ⟨xss, e1, h1⟩ := Aq.mp (Ad.mp h)
  obtain ⟨sv, es, e1⟩ := Option.bind_eq_some_iff.mp e1
  have es := Tv es
  obtain rfl := aci e1
  obtain ⟨u, hu, a, bs, rfl, hF, hnd, ha, hrows, hl⟩ := r.slot i _ es
  have hao : a ∈ own i := by rw [hF]; simp
  refine ⟨.ref a, hu, W, φ, own, env, S, r, (Cu.mp h1).mono (fun v S1 q φ1 H1 y r1 k1 v1 => ?_) fun x S1 q φ1 H1 r1 k1 => q φ1 own σ H1 r1⟩
  obtain ⟨j, e2, q2⟩ := Aq.mp (Ad.mp q)
  obtain ⟨k, e2, e3⟩ := Option.bind_eq_some_iff.mp e2
  obtain rfl := ZQ e2
  obtain ⟨xs, e4, q3⟩ := Aq.mp (Ad.mp q2)
  cases v1
  have ha1 : H1 a = some (.lst (bs.map V.ref)) := k1.keep a _ (r.apart i a hao) ha
  obtain ⟨b, us, hb, hHb, hlb, hrb⟩ := hrows.get e4
  have hbo : b ∈ own i := by rw [hF]; exact List.mem_cons_of_mem _ (List.mem_of_getElem? hb)
  have hHb1 : H1 b = some (.lst us) := k1.keep b _ (r.apart i b hbo) hHb
  have hat : atI (bs.map V.ref) k = some (.ref b) := by
   unfold atI
   rw [List.length_map, hrows.length, e3]
   show (bs.map V.ref)[j]? = _
   rw [List.getElem?_map, hb]; rfl
  refine ⟨a, bs.map V.ref, k, .ref b, rfl, rfl, .inl (.inl ha1), hat, .inl ⟨rfl, _, .inl (.inl hHb1)⟩, W, φ1, own, env, S1, r1, (Cu.mp q3).mono (fun v S2 q4 φ2 H2 y r2 k2 v2 => ?_) fun x S2 q φ2 H2 r2 k2 => q φ2 own σ H2 r2⟩
  obtain ⟨p, e5, q5⟩ := Aq.mp (Ad.mp q4)
  obtain rfl := NQ e5
  have hHb2 : H2 b = some (.lst us) := k2.keep b _ (r1.apart i b hbo) hHb1
  have ha2 : H2 a = some (.lst (bs.map V.ref)) := k2.keep a _ (r1.apart i a hao) ha1
  by_cases hz : xs.length < sizeLine
  ·rw [if_pos hz] at q5
   refine ⟨b, us, y, rfl, rfl, hHb2, by rw [hrb.length]; exact hz, ?_⟩
   have nab : a ≠ b := fun z => (List.nodup_cons.mp hnd).1 (by rw [z]; exact List.mem_of_getElem? hb)
   have e12 := Ext.trans (Kp.hz (fl := true) k1) (Kp.hz (fl := true) (G := W.G) (own := own) k2)
   refine q5 φ2 own σ _ (r2.Wy es hu hbo (WW _) fun ex => ⟨a, bs, rfl, hF, hnd, by rw [upd_ne nab]; exact ha2, ?_, by rw [List.length_set]; exact hl⟩)
   refine Gi.adQ (H := H) (Ext.trans e12 ex) upd_same (by rw [List.length_append]; exact hz) ((hrb.ext (Ext.trans e12 ex)).append (.cons (Rep.ext ex v2) .nil)) hrows (List.nodup_cons.mp hnd).2 hb fun c hc nc => ?_
   rw [upd_ne nc]
   have hco : c ∈ own i := by rw [hF]; exact List.mem_cons_of_mem _ hc
   obtain ⟨o, ho⟩ := r.mu.get (.inr (.inr ⟨i, hco⟩))
   rw [ho, k2.keep c o (r1.apart i c hco) (k1.keep c o (r.apart i c hco) ho)]
  ·rw [if_neg hz] at q5; exact q5.elim
def ahU (i : Nat) (fk fl f : DF) : SF := fun env => lift env (f env) fun v => bnd (ofO v.asD) fun p => bnd (ofO ((lk env i).bind Sv.asL2)) fun xss => lift env (fk env) fun k => bnd (ofO (k.asI.bind (ixN xss.length))) fun j => bnd (ofO xss[j]?) fun xs => lift env (fl env) fun l => bnd (ofO (l.asI.bind (ixN xs.length))) fun m =>
 ret (.nx, env.set i (some (.l2 (xss.set j (xs.set m p)))))
section
variable {X : Cx} {ew : WX} {x : Str} {i : Nat} {ek el e : Expr} {fk fl f : DF} {p1 p2 p3 pos : Pos}
end
theorem Af.dropLast {K : PySem.W.Frag} {H : Hp} {us : List V} {xs : List PyData} (h : Af K H us xs) : Af K H us.dropLast xs.dropLast := by
 rw [List.dropLast_eq_take, List.dropLast_eq_take, h.length]
 exact h.take _
def sPop (i : Nat) (t : TF) : SF := fun env => bnd (ofO ((lk env i).bind Sv.asL1)) fun xs => bnd (ofO xs[xs.length - 1]?) fun p => bnd (ofO (t (.d p) (env.set i (some (.l1 xs.dropLast))))) fun env' => ret (.nx, env')
def Mf : PyData → Option Key
 | .int i => some (.inl i)
 | .str x => some (.inr x)
 | _ => none
def ZP : List PyData → Option (List Key)
 | [] => some []
 | p :: ps => (Mf p).bind fun k => (ZP ps).map (k :: ·)
def G8 : PyData → Option (List Key)
 | .tuple ps => ZP ps
 | _ => none
theorem Ui {K : PySem.W.Frag} {Z : Hp} {y : V} {p : PyData} {k : Key} (h : Mf p = some k) (r : Rep K Z y p) : y = kV k := by
 cases p <;> simp [Mf] at h <;> subst h <;> cases r <;> rfl
theorem Vp {K : PySem.W.Frag} {Z : Hp} : ∀ {ys : List V} {ps : List PyData} {ks : List Key}, ZP ps = some ks → Af K Z ys ps → ys = ks.map kV
 | _, [], _, h, .nil => by cases h; rfl
 | _, p :: ps, _, h, .cons r t => by
  obtain ⟨k, e1, h⟩ := Option.bind_eq_some_iff.mp h
  obtain ⟨ks, e2, h⟩ := Option.map_eq_some_iff.mp h
  subst h
  rw [Ui e1 r, Vp e2 t]; rfl
theorem QF {K : PySem.W.Frag} {Z : Hp} {y : V} {p : PyData} {ks : List Key} (h : G8 p = some ks) (r : Rep K Z y p) : ∃ b, y = .ref b ∧ Z b = some (.tup (ks.map kV)) := by
 cases p <;> simp [G8] at h
 cases r with
 | tup hb hl ha => exact ⟨_, rfl, by rw [hb, Vp h ha]⟩
def valD {κ : Type} [DecidableEq κ] (kvs : List (κ × PyData)) (k : κ) : Option PyData := (kvs.find? fun kv => decide (kv.1 = k)).map (·.2)
def putD {κ : Type} [DecidableEq κ] (kvs : List (κ × PyData)) (k : κ) (v : PyData) : List (κ × PyData) :=
 if (kvs.any fun kv => decide (kv.1 = k)) = true then kvs.map (fun kv => if kv.1 = k then (kv.1, v) else kv) else kvs ++ [(k, v)]
theorem KRep.val {κ : Type} [DecidableEq κ] {K : PySem.W.Frag} {Z : Hp} {k : κ} : ∀ {ks : List (κ × V)} {kvs : List (κ × PyData)}, KRep K Z ks kvs → (valV ks k = none ∧ valD kvs k = none) ∨ ∃ v p, valV ks k = some v ∧ valD kvs k = some p ∧ Rep K Z v p
 | _, _, .nil => .inl ⟨rfl, rfl⟩
 | (j, v) :: _, (_, p) :: _, .cons h t => by
  by_cases e : j = k
  ·exact .inr ⟨v, p, by simp [valV, e], by simp [valD, e], h⟩
  ·have := KRep.val (k := k) t
   simpa [valV, valD, e] using this
theorem KRep.put {κ : Type} [DecidableEq κ] {K : PySem.W.Frag} {Z : Hp} {k : κ} {v : V} {p : PyData} (hv : Rep K Z v p) {ks : List (κ × V)} {kvs : List (κ × PyData)} (h : KRep K Z ks kvs) : KRep K Z (putK ks k v) (putD kvs k p) := by
 have any : (ks.any fun kv => decide (kv.1 = k)) = (kvs.any fun kv => decide (kv.1 = k)) := by
  induction h with
  | nil => rfl
  | cons _ _ ih => simp [ih]
 have mp : ∀ {ks : List (κ × V)} {kvs : List (κ × PyData)}, KRep K Z ks kvs → KRep K Z (ks.map (fun kv => if kv.1 = k then (kv.1, v) else kv)) (kvs.map (fun kv => if kv.1 = k then (kv.1, p) else kv)) := fun h => by
  induction h with
  | nil => exact .nil
  | @cons j w q _ _ hw _ ih =>
   simp only [List.map_cons]
   by_cases e : j = k
   ·rw [if_pos e, if_pos e]; exact .cons hv ih
   ·rw [if_neg e, if_neg e]; exact .cons hw ih
 have ap : ∀ {ks : List (κ × V)} {kvs : List (κ × PyData)}, KRep K Z ks kvs → KRep K Z (ks ++ [(k, v)]) (kvs ++ [(k, p)]) := fun h => by
  induction h with
  | nil => exact .cons hv .nil
  | cons hw _ ih => exact .cons hw ih
 unfold putK putD
 rw [any]
 split
 ·exact mp h
 ·exact ap h
theorem agJ {X : Cx} {pins : List (Addr × Obj)} {σ : L2.St} {H : Hp} {s : Shared} {a : Addr} (I : Inv X pins σ H s) (e : H a = some (.dK [])) : Inv X pins σ (upd H a (.dT [])) s := by
 obtain ⟨z, hd, vs, rel, o, es, ep, h1, h2, h3, h4, h5, h6⟩ := dk_of I.hok e
 cases rel
 refine d_write (h' := s.heap) (t' := s.toks) (s := s) I (by rw [e]; exact True.intro) (Heap.SameBut.refl _ _) ⟨o, h1⟩ ⟨z, hd, [], .nil, o, es, ep, h1, h2, h3, ?_, List.nodup_nil⟩
 have e0 : es.toList = [] := by
  generalize es.toList = l at h5
  cases h5
  rfl
 rw [e0]
 rfl
theorem ab7 {X : Cx} {pins : List (Addr × Obj)} {σ : L2.St} {H : Hp} {s : Shared} {a b : Addr} {r : Value} {d : V} {k : List Key} {A : Around} {E : Value → Shared → Prop} {kvs : List (List Key × V)} {Q : Value → Shared → Prop} (hu : A.units + 1 < cLine) (I : Inv X pins σ H s) (e : H a = some (.dT kvs)) (eb : H b = some (.tup (k.map kV))) (rd : RelV d r) (hl : kvs.length < sizeLine)
  (h1 : ∀ v, valV kvs k = some v → ∀ (w' : Value) (s' : Shared), Inv X pins σ H s' → RelV v w' → Q w' s') (h2 : valV kvs k = none → ∀ (w' : Value) (s' : Shared), Inv X pins σ (upd H a (.dT (putK kvs k d))) s' → RelV d w' → Q w' s') :
  wpAny (model X.prog X.w) A (call (.builtin "dict.setdefault") [.ref a, .ref b, r]) Q E s := by
 obtain ⟨z, hd, xs, rel, dd⟩ := dt_of I.hok e
 have hz : xs.length ≤ sizeLine := by rw [← Paired.length rel]; exact z
 have hl2 : (putK kvs k d).length ≤ sizeLine := by have := length_putK kvs k d; omega
 refine call_setdefault_heap (hsz := hz) (tupleKind_room_in1 hu) (key_of I.hok eb) hd dd (fun p hp => ?_) fun hn h' dd' hs => ?_
 ·have q := rel.val k
  rw [hp] at q
  cases q0 : valV kvs k with
  | none => rw [q0] at q; exact (show False from q).elim
  | some v0 => rw [q0] at q; exact h1 v0 q0 _ _ (I.tok _) q
 ·have q := rel.val k
  rw [hn] at q
  cases q0 : valV kvs k with
  | some v0 => rw [q0] at q; exact (show False from q).elim
  | none =>
   obtain ⟨q, es, ep, hq, h2', h3, h4, _, h5⟩ := dd'
   refine h2 q0 _ _ (d_write I (by rw [e]; exact True.intro) hs ⟨q, hq⟩ ⟨hl2, hd, _, (rel.put k eb rd).keeps fun c ys ec => ?_, q, es, ep, hq, h2', h3, h4, h5⟩) rd
   rw [upd_ne (ne_of ec e (fun z => nomatch z))]
   exact ec
def Dk.setd (d : Dk) (k x : PyData) : Option (PyData × Dk) := match d with
 | .k kvs => match Mf k with
  | some q => if kvs.length < sizeLine then (match valD kvs q with
   | some v => some (v, .k kvs)
   | none => some (x, .k (putD kvs q x))) else none
  | none => match kvs, G8 k with
   | [], some q => some (x, .t [(q, x)])
   | _, _ => none
 | .t kvs => match G8 k with
  | some q => if kvs.length < sizeLine then (match valD kvs q with
   | some v => some (v, .t kvs)
   | none => some (x, .t (putD kvs q x))) else none
  | none => none
def rSetd (a : Addr) (y z : V) (H : Hp) (Q : VK) : Prop :=
 (∃ (kvs : List (Key × V)) (k : Key), H a = some (.dK kvs) ∧ y = kV k ∧ kvs.length < sizeLine ∧ (∀ v, valV kvs k = some v → Q v H) ∧ (valV kvs k = none → Q z (upd H a (.dK (putK kvs k z))))) ∨
 (∃ (kvs : List (List Key × V)) (k : List Key) (b : Addr), H a = some (.dT kvs) ∧ y = .ref b ∧ H b = some (.tup (k.map kV)) ∧ kvs.length < sizeLine ∧ (∀ v, valV kvs k = some v → Q v H) ∧ (valV kvs k = none → Q z (upd H a (.dT (putK kvs k z))))) ∨
 (∃ (k : List Key) (b : Addr), H a = some (.dK []) ∧ y = .ref b ∧ H b = some (.tup (k.map kV)) ∧ Q z (upd H a (.dT [(k, z)])))
def aaO (td ty tx : TE) : TE := fun σ H Q => td σ H fun x H1 => ∃ a, x = .ref a ∧ IsD H1 a ∧ ty σ H1 fun y H2 => tx σ H2 fun z H3 => rSetd a y z H3 Q
theorem abi {X : Cx} {o e f : Expr} {td ty tx : TE} {apos cpos : Pos} (hu : X.A.units + 1 < cLine) (ho : PE X o td) (he : PE X e ty) (hf : PE X f tx) (m : M2 X o "setdefault" apos e f cpos) : PE X (.Call (.Attribute o "setdefault" apos) [e, f] [] cpos) (aaO td ty tx) := by
 refine ⟨fun pins s σ H Q I h => ?_⟩
 refine wpAny_Call_method m.base m.few m.line PySem.F.plainAttrs_dict PySem.F.slot_dict_setdefault PySem.F.type_dict_setdefault (thn (ho.run pins s σ H _ I h) fun u s1 ⟨x, H1, I1, rx, a, ex, d, q1⟩ => ?_)
 subst ex
 obtain rfl : u = Value.ref a := rx
 obtain ⟨t1, t2, _⟩ := isD_at I1 d
 refine ⟨t1, t2, ?_⟩
 rw [m.trees]
 refine Calls.callWith_builtin rfl (Calls.evalArgs_plain (Calls.spliced_cons (thn (he.run pins s1 σ H1 _ I1 q1) fun iv s2 ⟨y, H2, I2, ry, q2⟩ =>
  Calls.spliced_cons (thn (hf.run pins s2 σ H2 _ I2 q2) fun fv s3 ⟨z, H3, I3, rz, q3⟩ => Calls.spliced_nil ?_))))
 rcases q3 with ⟨kvs, k, ea, ey, hl, q3, q4⟩ | ⟨kvs, k, b, ea, ey, eb, hl, q3, q4⟩ | ⟨k, b, ea, ey, eb, q4⟩
 ·subst ey
  exact d_setd I3 ea ry rz hl (fun v hv w' s4 I4 rw' => ⟨v, _, I4, rw', q3 v hv⟩) fun hn w' s4 I4 rw' => ⟨z, _, I4, rw', q4 hn⟩
 ·subst ey
  cases (show iv = Value.ref b from ry)
  exact ab7 hu I3 ea eb rz hl (fun v hv w' s4 I4 rw' => ⟨v, _, I4, rw', q3 v hv⟩) fun hn w' s4 I4 rw' => ⟨z, _, I4, rw', q4 hn⟩
 ·subst ey
  cases (show iv = Value.ref b from ry)
  have nab : b ≠ a := ne_of eb ea (fun z => nomatch z)
  refine ab7 hu (agJ I3 ea) upd_same (by rw [upd_ne nab]; exact eb) rz (by show 0 < sizeLine; decide) (fun v hv => by cases hv) fun hn w' s4 I4 rw' => ⟨z, _, I4, rw', ?_⟩
  rw [upd_upd]
  exact q4
theorem aaV {K : PySem.W.Frag} {W : Wd} {φ : List Addr} {own : Nat → List Addr} {env : En} {S : Sto} {σ : L2.St} {H : Hp} (r : Rel K W φ own env S σ H) {i : Nat} {d d' : Dk} {k x v : PyData} {a : Addr} {y z : V} {Q : VK} (es : env[i]? = some (some (.dd d))) (hu : σ[i]? = some (some (.ref a))) (hF : own i = [a]) (hd : UL K (hz (Mu W.G φ own) H) H a d)
  (hk : Rep K (hz (Mu W.G φ own) H) y k) (hx : Rep K (hz (Mu W.G φ own) H) z x) (e : d.setd k x = some (v, d'))
  (h : ∀ H' u, Rel K W φ own (env.set i (some (.dd d'))) S σ H' → Kp φ H φ H' ∨ True → Rep K (hz (Mu W.G φ own) H') u v → Q u H') : rSetd a y z H Q := by
 have hao : a ∈ own i := by rw [hF]; simp
 have hi : i < env.length := (List.getElem?_eq_some_iff.mp es).1
 have same : ∀ d0, d = d0 → Rel K W φ own (env.set i (some (.dd d0))) S σ H := fun d0 e0 => by
  subst e0
  have : env.set i (some (.dd d)) = env := by
   apply List.ext_getElem?
   intro j
   by_cases ej : i = j
   ·subst ej; rw [List.getElem?_set_self hi, es]
   ·rw [List.getElem?_set_ne ej]
  rw [this]; exact r
 cases d with
 | k kvs =>
  obtain ⟨ks, hH, hr⟩ := hd
  unfold Dk.setd at e
  dsimp only at e
  cases ek : Mf k with
  | some q =>
   rw [ek] at e
   dsimp only at e
   by_cases hl : kvs.length < sizeLine
   ·rw [if_pos hl] at e
    refine .inl ⟨ks, q, hH, Ui ek hk, by rw [hr.length]; exact hl, fun w hw => ?_, fun hn => ?_⟩
    ·rcases hr.val (k := q) with ⟨h1, _⟩ | ⟨w', p, h1, h2, h3⟩
     ·rw [h1] at hw; cases hw
     ·rw [h1] at hw; cases hw
      rw [h2] at e
      cases e
      exact h H w (same _ rfl) (.inr trivial) h3
    ·rcases hr.val (k := q) with ⟨_, h2⟩ | ⟨w', p, h1, _, _⟩
     ·rw [h2] at e
      cases e
      have hm : Mu W.G φ own a := .inr (.inr ⟨i, hao⟩)
      have ex0 : Ext (hz (Mu W.G φ own) H) (hz (Mu W.G φ own) (upd H a (.dK (putK ks q z)))) := fun b x h => by
       obtain ⟨n, h⟩ := Aj.mp h
       exact Ey (by rw [upd_ne fun z => n (by rw [z]; exact hm)]; exact h) n
      exact h _ z (r.Wy es hu hao (O8 _) fun ex => ⟨a, rfl, hF, _, upd_same, (hr.ext ex).put (hx.ext ex)⟩) (.inr trivial) (hx.ext ex0)
     ·rw [h1] at hn; cases hn
   ·rw [if_neg hl] at e; cases e
  | none =>
   rw [ek] at e
   dsimp only at e
   cases kvs with
   | cons _ _ => cases e
   | nil =>
    cases et : G8 k with
    | none => rw [et] at e; cases e
    | some q =>
     rw [et] at e
     cases e
     cases hr
     obtain ⟨b, hb, hZb⟩ := QF et hk
     have hm : Mu W.G φ own a := .inr (.inr ⟨i, hao⟩)
     have ex0 : Ext (hz (Mu W.G φ own) H) (hz (Mu W.G φ own) (upd H a (.dT [(q, z)]))) := fun b x h => by
      obtain ⟨n, h⟩ := Aj.mp h
      exact Ey (by rw [upd_ne fun z => n (by rw [z]; exact hm)]; exact h) n
     refine .inr (.inr ⟨q, b, hH, hb, (Aj.mp hZb).2, ?_⟩)
     exact h _ z (r.Wy es hu hao (Zg _) fun ex => ⟨a, rfl, hF, _, upd_same, .cons (hx.ext ex) .nil⟩) (.inr trivial) (hx.ext ex0)
 | t kvs =>
  obtain ⟨ks, hH, hr⟩ := hd
  unfold Dk.setd at e
  dsimp only at e
  cases ek : G8 k with
  | none => rw [ek] at e; cases e
  | some q =>
   rw [ek] at e
   dsimp only at e
   obtain ⟨b, hb, hZb⟩ := QF ek hk
   by_cases hl : kvs.length < sizeLine
   ·rw [if_pos hl] at e
    refine .inr (.inl ⟨ks, q, b, hH, hb, (Aj.mp hZb).2, by rw [hr.length]; exact hl, fun w hw => ?_, fun hn => ?_⟩)
    ·rcases hr.val (k := q) with ⟨h1, _⟩ | ⟨w', p, h1, h2, h3⟩
     ·rw [h1] at hw; cases hw
     ·rw [h1] at hw; cases hw
      rw [h2] at e
      cases e
      exact h H w (same _ rfl) (.inr trivial) h3
    ·rcases hr.val (k := q) with ⟨_, h2⟩ | ⟨w', p, h1, _, _⟩
     ·rw [h2] at e
      cases e
      have hm : Mu W.G φ own a := .inr (.inr ⟨i, hao⟩)
      have ex0 : Ext (hz (Mu W.G φ own) H) (hz (Mu W.G φ own) (upd H a (.dT (putK ks q z)))) := fun b x h => by
       obtain ⟨n, h⟩ := Aj.mp h
       exact Ey (by rw [upd_ne fun z => n (by rw [z]; exact hm)]; exact h) n
      exact h _ z (r.Wy es hu hao (Zg _) fun ex => ⟨a, rfl, hF, _, upd_same, (hr.ext ex).put (hx.ext ex)⟩) (.inr trivial) (hx.ext ex0)
     ·rw [h1] at hn; cases hn
   ·rw [if_neg hl] at e; cases e
def acH (i : Nat) (fk fx : DF) : SF := fun env => bnd (ofO ((lk env i).bind Sv.asDD)) fun d => lift env (fk env) fun kv => bnd (ofO kv.asD) fun k => lift env (fx env) fun xv => bnd (ofO xv.asD) fun x => bnd (ofO (d.setd k x)) fun r => ret (.nx, env.set i (some (.dd r.2)))
theorem adz {K : PySem.W.Frag} {Z H : Hp} {a : Addr} {d : Dk} (h : UL K Z H a d) : IsD H a := by
 cases d with
 | k kvs => obtain ⟨ks, h, _⟩ := h; exact .inl ⟨ks, .inl h⟩
 | t kvs => obtain ⟨ks, h, _⟩ := h; exact .inr ⟨ks, .inl h⟩
theorem UL.keep {K : PySem.W.Frag} {W : Wd} {φ φ1 : List Addr} {own : Nat → List Addr} {H H1 : Hp} {a : Addr} {d : Dk} (k : Kp φ H φ1 H1) (hn : a ∉ φ) (h : UL K (hz (Mu W.G φ own) H) H a d) : UL K (hz (Mu W.G φ1 own) H1) H1 a d := by
 cases d with
 | k kvs => obtain ⟨ks, h, q⟩ := h; exact ⟨ks, k.keep a _ hn h, q.ext (Kp.hz (fl := true) k)⟩
 | t kvs => obtain ⟨ks, h, q⟩ := h; exact ⟨ks, k.keep a _ hn h, q.ext (Kp.hz (fl := true) k)⟩
theorem ahK {C : Ct} {σ : L2.St} {H : Hp} {Q : VK} {i : Nat} {fk fx : DF} {W : Wd} {φ : List Addr} {own : Nat → List Addr} {env : En} {S : Sto} {P : PyData × Dk → Sto → Prop} {P' : Ex → Sto → Prop} (r : Rel C.K W φ own env S σ H) {d : Dk} (es : env[i]? = some (some (.dd d)))
  (h : (bnd (fk env) (fun kv => bnd (ofO kv.asD) fun k => bnd (fx env) fun xv => bnd (ofO xv.asD) fun x => ofO (d.setd k x)) S).sat P P')
  (hx : ∀ x S1 φ1 H1, P' x S1 → Rel C.K W φ1 own env S1 σ H1 → Kh C (Mu W.G φ1 own) σ H1 x)
  (fin : ∀ v d' S1 φ1 H1 u, P (v, d') S1 → Rel C.K W φ1 own (env.set i (some (.dd d'))) S1 σ H1 → Rep C.K (hz (Mu W.G φ1 own) H1) u v → Q u H1) : aaO (tVar i) (tI C true fk) (tI C true fx) σ H Q := by
 obtain ⟨u, hu, a, rfl, hF, hd⟩ := r.slot i _ es
 have hao : a ∈ own i := by rw [hF]; simp
 refine ⟨.ref a, hu, a, rfl, adz hd, W, φ, own, env, S, r, (Ad.mp h).mono (fun kv S1 q φ1 H1 y r1 k1 v1 => ?_) fun x S1 q φ1 H1 r1 k1 => hx x S1 φ1 H1 q r1⟩
 obtain ⟨k, e1, q1⟩ := Aq.mp (Ad.mp q)
 obtain rfl := NQ e1
 refine ⟨W, φ1, own, env, S1, r1, (Ad.mp q1).mono (fun xv S2 q φ2 H2 z r2 k2 v2 => ?_) fun x S2 q φ2 H2 r2 k2 => hx x S2 φ2 H2 q r2⟩
 obtain ⟨x, e2, q2⟩ := Aq.mp (Ad.mp q)
 obtain rfl := NQ e2
 obtain ⟨⟨v, d'⟩, e3, q3⟩ := Aq.mp q2
 have hd1 := hd.keep k1 (r.apart i a hao)
 have hd2 := hd1.keep k2 (r1.apart i a hao)
 exact aaV r2 es hu hF hd2 (Rep.ext (Kp.hz (fl := true) k2) v1) v2 e3 fun H' u r' _ hv => fin v d' S2 φ2 H' u q3 r' hv
section
variable {X : Cx} {ew : WX} {x : Str} {i : Nat} {ek ex : Expr} {fk fx : DF} {p1 apos cpos pos : Pos}
theorem afj (hu : X.A.units + 1 < cLine) (hN : X.N[i]? = some x) (hv : Vis X.env.scope x) (hk : E X ew true ek fk) (hx : E X ew true ex fx)
  (m : M2 X (.Name x p1) "setdefault" apos ek ex cpos := by exact ⟨rfl, rfl, rfl, rfl⟩)
  (hd : (x == ("__debug__" : Str)) = false := by decide) (hcd : (x == ("__classdict__" : Str)) = false := by decide)
  (hs : swapsWith (.Call (.Attribute (.Name x p1) "setdefault" apos) [ek, ex] [] cpos) none pos.line X.env = pure false := by rfl) :
  ES X ew (.Expr (.Call (.Attribute (.Name x p1) "setdefault" apos) [ek, ex] [] cpos) pos) (acH i fk fx) :=
 DY (ps_expr (abi hu (pe_var hN hv hd hcd) hk hx m) hs) fun D σ H h => by
  obtain ⟨W, φ, own, env, S, r, h⟩ := h
  obtain ⟨d, e1, h1⟩ := Aq.mp (Ad.mp h)
  obtain ⟨sv, es, e1⟩ := Option.bind_eq_some_iff.mp e1
  have es := Tv es
  obtain rfl := acl e1
  refine ahK (C := ⟨X.K, X.mg, ew⟩) (P := fun r S' => Post ⟨X.K, X.mg, ew⟩ D W (.nx, env.set i (some (.dd r.2))) S') (P' := fun x S' => Post ⟨X.K, X.mg, ew⟩ D W (.xc x, env) S') r es ?_ (fun x S1 φ1 H1 q r1 => q φ1 own σ H1 r1) fun v d' S1 φ1 H1 u q r1 _ => q φ1 own σ H1 r1
  refine Ad.mpr ((Cu.mp h1).mono (fun kv S1 q => ?_) fun _ _ q => q)
  obtain ⟨k, e2, q2⟩ := Aq.mp (Ad.mp q)
  refine Ad.mpr (Aq.mpr ⟨k, e2, Ad.mpr ((Cu.mp q2).mono (fun xv S2 q => ?_) fun _ _ q => q)⟩)
  obtain ⟨x, e3, q3⟩ := Aq.mp (Ad.mp q)
  obtain ⟨rr, e4, q4⟩ := Aq.mp (Ad.mp q3)
  exact Ad.mpr (Aq.mpr ⟨x, e3, Aq.mpr ⟨rr, e4, q4⟩⟩)
def aet (i : Nat) (fk fx fw : DF) (g : Va → Va → Option Va) (a b : SF) : SF := fun env => bnd (ofO ((lk env i).bind Sv.asDD)) fun d => lift env (fk env) fun kv => bnd (ofO kv.asD) fun k => lift env (fx env) fun xv => bnd (ofO xv.asD) fun x => bnd (ofO (d.setd k x)) fun r =>
 lift (env.set i (some (.dd r.2))) (fw (env.set i (some (.dd r.2)))) fun w => bnd (ofO ((g (.d r.1) w).bind toB)) fun t => if t = true then a (env.set i (some (.dd r.2))) else b (env.set i (some (.dd r.2)))
end
@[simp] theorem ahu (kvs : List (Key × PyData)) : isX (kvs.map fun p => (keyP p.1, p.2)) = false := by
 cases kvs with
 | nil => rfl
 | cons p ps => obtain ⟨k, x⟩ := p; cases k <;> rfl
@[simp] theorem aht (kvs : List (List Key × PyData)) : isX (kvs.map fun p => (keyT p.1, p.2)) = false := by
 cases kvs with
 | nil => rfl
 | cons p ps => rfl
def notNone : PyData → Bool
 | .none => false
 | _ => true
def aft (kvs : List (PyData × PyData)) (p : PyData) : Option (Option PyData) := if (kvs.all fun q => notNone q.1) = true then (match Mf p with
 | some k => some ((kvs.find? fun q => decide (Mf q.1 = some k)).map (·.2))
 | none => match G8 p with
  | some k => some ((kvs.find? fun q => decide (G8 q.1 = some k)).map (·.2))
  | none => none) else none
@[simp] theorem adV (k : Key) : notNone (keyP k) = true := by cases k <;> rfl
@[simp] theorem adU (k : List Key) : notNone (keyT k) = true := rfl
@[simp] theorem aeP (x : Str) : notNone (.str x) = true := rfl
@[simp] theorem aeQ (x : Int) : notNone (.int x) = true := rfl
@[simp] theorem aeO (x : List PyData) : notNone (.tuple x) = true := rfl
theorem NP (k : Key) : Mf (keyP k) = some k := by cases k <;> rfl
theorem Vq : ∀ ks : List Key, ZP (ks.map keyP) = some ks
 | [] => rfl
 | k :: ks => by
  show (Mf (keyP k)).bind _ = _
  rw [NP, Option.bind_some, Vq ks]; rfl
theorem Uj (k : List Key) : G8 (keyT k) = some k := Vq k
theorem aax (k : List Key) : Mf (keyT k) = none := rfl
theorem YK (k : Key) : G8 (keyP k) = none := by cases k <;> rfl
theorem RepK.look {K : PySem.W.Frag} {Z : Hp} {k : Key} : ∀ {ks : List (Key × V)} {kvs : List (PyData × PyData)}, RepK K Z ks kvs → (valV ks k = none ∧ (kvs.find? fun q => decide (Mf q.1 = some k)).map (·.2) = none) ∨ ∃ v p, valV ks k = some v ∧ (kvs.find? fun q => decide (Mf q.1 = some k)).map (·.2) = some p ∧ Rep K Z v p
 | _, _, .nil => .inl ⟨rfl, rfl⟩
 | (j, v) :: _, (_, p) :: _, .cons h t => by
  by_cases e : j = k
  ·exact .inr ⟨v, p, by simp [valV, e], by simp [NP, e], h⟩
  ·have := RepK.look (k := k) t
   simpa [valV, e, NP] using this
theorem RepT.look {K : PySem.W.Frag} {Z : Hp} {k : List Key} : ∀ {ks : List (List Key × V)} {kvs : List (PyData × PyData)}, RepT K Z ks kvs → (valV ks k = none ∧ (kvs.find? fun q => decide (G8 q.1 = some k)).map (·.2) = none) ∨ ∃ v p, valV ks k = some v ∧ (kvs.find? fun q => decide (G8 q.1 = some k)).map (·.2) = some p ∧ Rep K Z v p
 | _, _, .nil => .inl ⟨rfl, rfl⟩
 | (j, v) :: _, (_, p) :: _, .cons h t => by
  by_cases e : j = k
  ·exact .inr ⟨v, p, by simp [valV, e], by simp [Uj, e], h⟩
  ·have := RepT.look (k := k) t
   simpa [valV, e, Uj] using this
theorem RepK.noT {K : PySem.W.Frag} {Z : Hp} {k : List Key} : ∀ {ks : List (Key × V)} {kvs : List (PyData × PyData)}, RepK K Z ks kvs → (kvs.find? fun q => decide (G8 q.1 = some k)) = none
 | _, _, .nil => rfl
 | _, _, .cons h t => by simp [YK, RepK.noT t]
theorem RepT.noK {K : PySem.W.Frag} {Z : Hp} {k : Key} : ∀ {ks : List (List Key × V)} {kvs : List (PyData × PyData)}, RepT K Z ks kvs → (kvs.find? fun q => decide (Mf q.1 = some k)) = none
 | _, _, .nil => rfl
 | _, _, .cons h t => by simp [aax, RepT.noK t]
@[simp] theorem ad7 (kvs : List (List Key × PyData)) : ((kvs.map fun q => (keyT q.1, q.2)).all fun q => notNone q.1) = true := by simp [List.all_eq_true]
@[simp] theorem ad8 (kvs : List (Key × PyData)) : ((kvs.map fun q => (keyP q.1, q.2)).all fun q => notNone q.1) = true := by simp [List.all_eq_true]
def Yx : Va → Va → Option Va
 | .d (.dict kvs), .d p => match aft kvs p with
  | some (some q) => some (.d q)
  | _ => none
 | _, _ => none
theorem afu {K : PySem.W.Frag} {Nu : Addr → Prop} {φ : List Addr} {H : Hp} {x y : V} {vx vy : Va} {w : Va} (hx : VRep K Nu φ H x vx) (hy : VRep K Nu φ H y vy) (e : Yx vx vy = some w) : ∃ a v, x = .ref a ∧ DGet H a y (some v) ∧ VRep K Nu φ H v w := by
 unfold Yx at e
 split at e
 ·rename_i kvs p
  split at e
  ·rename_i q eq
   cases e
   unfold aft at eq
   split at eq
   rotate_left
   ·cases eq
   rename_i hnn
   cases hx with
   | exc _ _ _ _ _ => simp [notNone] at hnn
   | exc0 _ _ => simp [notNone] at hnn
   | dcK hr hk =>
    rename_i a ks
    cases ek : Mf p with
    | some k =>
     rw [ek] at eq
     have eq := Option.some.inj eq
     rcases hk.look (k := k) with ⟨_, h2⟩ | ⟨v, p', h1, h2, h3⟩
     ·rw [h2] at eq; cases eq
     ·rw [h2] at eq; cases eq
      exact ⟨a, v, rfl, .inl ⟨ks, k, (Qi Dq hr).rd, Ui ek hy, h1.symm⟩, h3⟩
    | none =>
     rw [ek] at eq
     cases et : G8 p with
     | none => rw [et] at eq; cases eq
     | some k =>
      rw [et] at eq
      have eq := Option.some.inj eq
      rw [hk.noT] at eq; cases eq
   | dcT hr hk =>
    rename_i a ks
    cases ek : Mf p with
    | some k =>
     rw [ek] at eq
     have eq := Option.some.inj eq
     rw [hk.noK] at eq; cases eq
    | none =>
     rw [ek] at eq
     cases et : G8 p with
     | none => rw [et] at eq; cases eq
     | some k =>
      rw [et] at eq
      have eq := Option.some.inj eq
      rcases hk.look (k := k) with ⟨_, h2⟩ | ⟨v, p', h1, h2, h3⟩
      ·rw [h2] at eq; cases eq
      ·rw [h2] at eq; cases eq
       obtain ⟨b, hb, hZ⟩ := QF et hy
       exact ⟨a, v, rfl, .inr ⟨ks, k, b, (Qi Dq hr).rd, hb, (Aj.mp hZ).2, h1.symm⟩, h3⟩
  ·cases e
 ·cases e
theorem agX {X : Cx} {ew : WX} {fl : Bool} {o i : Expr} {fo fi : DF} {pos : Pos} (hu : X.A.units + 1 < cLine) (ho : E X ew fl o fo) (hi : E X ew fl i fi) (hs : NoSl i := by intro _ _; rfl) : E X ew fl (.Subscript o i pos) (c2 Yx fo fi) :=
 Bf (pe_dget hu ho hi hs) fun σ H Q h => aaN (C := ⟨X.K, X.mg, ew⟩) (r := fun x y H2 Q => ∃ a v, x = .ref a ∧ DGet H2 a y (some v) ∧ Q v H2) (by
  intro Nu φ H us vs w Q m hv hg hq
  cases hv with
  | nil => cases hg
  | cons h1 hv =>
   cases hv with
   | nil => cases hg
   | cons h2 hv =>
    cases hv with
    | cons _ _ => cases hg
    | nil =>
     obtain ⟨a, v, e1, e2, e3⟩ := afu h1 h2 hg
     exact ⟨_, _, rfl, a, v, e1, e2, hq H v Ext.refl e3⟩) h
theorem Rel.Qp {K : PySem.W.Frag} {W : Wd} {p : Addr} {φ : List Addr} {own : Nat → List Addr} {env : En} {S : Sto} {σ : L2.St} {H : Hp} (r : Rel K (W.and p) φ own env S σ H) (h0 : W.H0 p = none) {o : HO} (ho : (∀ ys, o ≠ .tup ys) ∧ ∀ x y, o ≠ .frz x y) {c : Cd}
  (hG : ¬ W.G p) (hc : Ext (hz (Mu (W.and p).G φ own) H) (hz (Mu W.G (φ ++ [p]) own) (upd H p o)) → Wu K (hz (Mu W.G (φ ++ [p]) own) (upd H p o)) (φ ++ [p]) (upd H p o) p c) : Rel K W (φ ++ [p]) own env (S ++ [c]) σ (upd H p o) := by
 have me : Mu W.G (φ ++ [p]) own = Mu (W.and p).G φ own := funext fun a => propext ⟨fun z => by
  rcases z with z | z | z
  ·exact .inl (.inl z)
  ·rcases List.mem_append.mp z with y | y
   ·exact .inr (.inl y)
   ·exact .inl (.inr (List.mem_singleton.mp y))
  ·exact .inr (.inr z), fun z => by
  rcases z with (z | z) | z | z
  ·exact .inl z
  ·exact .inr (.inl (List.mem_append_right _ (by rw [z]; simp)))
  ·exact .inr (.inl (List.mem_append_left _ z))
  ·exact .inr (.inr z)⟩
 have np : p ∉ φ := (r.gd p (.inr rfl)).1
 have ex : Ext (hz (Mu (W.and p).G φ own) H) (hz (Mu W.G (φ ++ [p]) own) (upd H p o)) := fun a x h => by
  obtain ⟨n, h⟩ := Aj.mp h
  have ne : a ≠ p := fun z => n (.inl (.inr z))
  exact Ey (by rw [upd_ne ne]; exact h) (by rw [me]; exact n)
 refine ⟨r.disj, fun i a h z => ?_, ?_, fun a h => ⟨fun z => ?_, (r.gd a (.inl h)).2⟩, fun a h => ?_, r.len, fun i sv h => ?_, ⟨by rw [List.length_append, List.length_append, r.cell.1]; rfl, fun n d a h1 h2 => ?_⟩, ⟨r.base.pre.trans (List.prefix_append _ _), fun a x n h => ?_, fun a z n => ?_⟩, r.newF⟩
 ·rcases List.mem_append.mp z with y | y
  ·exact r.apart i a h y
  ·exact (r.gd p (.inr rfl)).2 i (by rw [← List.mem_singleton.mp y]; exact h)
 ·exact List.nodup_append.mpr ⟨r.ndφ, by simp, fun a ha b hb z => np (by rw [← List.mem_singleton.mp hb, ← z]; exact ha)⟩
 ·rcases List.mem_append.mp z with y | y
  ·exact (r.gd a (.inl h)).1 y
  ·exact hG (by rw [← List.mem_singleton.mp y]; exact h)
 ·by_cases e : a = p
  ·subst e
   rw [upd_same]
   exact ⟨rfl, fun xs z => ho.1 xs (Option.some.inj z), fun x y z => (ho.2 x y (Option.some.inj z)).elim⟩
  ·rw [upd_ne e]
   rw [me] at h
   exact r.mu a h
 ·obtain ⟨u, h1, h2⟩ := r.slot i sv h
  exact ⟨u, h1, h2.ext ex (List.prefix_append _ _) fun a ha => upd_ne fun z => (r.gd p (.inr rfl)).2 i (by rw [← z]; exact ha)⟩
 ·by_cases hn : n < S.length
  ·rw [List.getElem?_append_left hn] at h1
   rw [List.getElem?_append_left (by rw [r.cell.1]; exact hn)] at h2
   exact (r.cell.2 n d a h1 h2).ext ex (upd_ne fun z => np (by rw [← z]; exact List.mem_of_getElem? h2))
  ·rw [List.getElem?_append_right (Nat.le_of_not_lt hn)] at h1
   rw [List.getElem?_append_right (by rw [r.cell.1]; exact Nat.le_of_not_lt hn), r.cell.1] at h2
   cases m : n - S.length with
   | zero =>
    rw [m] at h1 h2
    cases h1
    cases h2
    exact hc ex
   | succ k => rw [m] at h1; simp at h1
 ·rw [upd_ne fun z => by rw [z, h0] at h; cases h]
  exact r.base.keep a x n h
 ·rcases List.mem_append.mp z with y | y
  ·exact r.base.new a y n
  ·rw [List.mem_singleton.mp y]; exact h0
theorem Rel.aec {K : PySem.W.Frag} {W : Wd} {φ : List Addr} {own : Nat → List Addr} {env : En} {S : Sto} {σ : L2.St} {H : Hp} (r : Rel K W φ own env S σ H) {n : Nat} {p : Addr} {o : HO} {c : Cd} (hp : φ[n]? = some p) (ho : (∀ ys, o ≠ .tup ys) ∧ ∀ x y, o ≠ .frz x y)
  (hc : Ext (hz (Mu W.G φ own) H) (hz (Mu W.G φ own) (upd H p o)) → Wu K (hz (Mu W.G φ own) (upd H p o)) φ (upd H p o) p c) : Rel K W φ own env (S.set n c) σ (upd H p o) := by
 have hm : p ∈ φ := List.mem_of_getElem? hp
 have ex : Ext (hz (Mu W.G φ own) H) (hz (Mu W.G φ own) (upd H p o)) := fun a x h => by
  obtain ⟨n, h⟩ := Aj.mp h
  exact Ey (by rw [upd_ne fun z => n (.inr (.inl (by rw [z]; exact hm)))]; exact h) n
 have hn : n < φ.length := (List.getElem?_eq_some_iff.mp hp).1
 refine ⟨r.disj, r.apart, r.ndφ, r.gd, fun a h => ?_, r.len, fun i sv h => ?_, ⟨by rw [List.length_set]; exact r.cell.1, fun m d a h1 h2 => ?_⟩, ⟨r.base.pre, fun a x k h => ?_, r.base.new⟩, r.newF⟩
 ·by_cases e : a = p
  ·subst e
   rw [upd_same]
   exact ⟨rfl, fun xs z => ho.1 xs (Option.some.inj z), fun x y z => (ho.2 x y (Option.some.inj z)).elim⟩
  ·rw [upd_ne e]
   exact r.mu a h
 ·obtain ⟨u, h1, h2⟩ := r.slot i sv h
  exact ⟨u, h1, h2.ext ex (List.prefix_refl _) fun a ha => upd_ne fun z => r.apart i a ha (by rw [z]; exact hm)⟩
 ·by_cases e : n = m
  ·subst e
   rw [List.getElem?_set_self (by rw [← r.cell.1]; exact hn)] at h1
   cases h1
   rw [hp] at h2
   cases h2
   exact hc ex
  ·rw [List.getElem?_set_ne e] at h1
   refine (r.cell.2 m d a h1 h2).ext ex (upd_ne fun z => e ?_)
   have hl : m < φ.length := (List.getElem?_eq_some_iff.mp h2).1
   have e1 := (List.getElem?_eq_some_iff.mp hp).2
   have e2 := (List.getElem?_eq_some_iff.mp h2).2
   exact (List.getElem_inj r.ndφ).mp (e1.trans (z.symm.trans e2.symm))
 ·by_cases e : a = p
  ·subst e
   have : a ∉ W.φ0 := k
   have := r.base.new a hm k
   rw [h] at this; cases this
  ·rw [upd_ne e]
   exact r.base.keep a x k h
def Wg (S : Sto) (v : Va) : Option (Nat × List (Str × PyData)) := match v with
 | .c n => match S[n]? with
  | some (.m kvs) => some (n, kvs)
  | _ => none
 | _ => none
def cGet (k : Str) (fo : DF) : DF := fun env => bnd (fo env) fun v S => match Wg S v with
 | some (_, kvs) => match kvs.lookup k with
  | some p => .ok (.d p) S
  | none => .stuck
 | none => .stuck
theorem Vn {S : Sto} {v : Va} {n : Nat} {kvs : List (Str × PyData)} (h : Wg S v = some (n, kvs)) : v = .c n ∧ S[n]? = some (.m kvs) := by
 unfold Wg at h
 cases v with
 | d p => cases h
 | s ns => cases h
 | q y ds => cases h
 | c m =>
  dsimp only at h
  cases e : S[m]? with
  | none => rw [e] at h; cases h
  | some c =>
   cases c with
   | m k => rw [e] at h; cases h; exact ⟨rfl, e⟩
   | f k => rw [e] at h; cases h
   | o k l => rw [e] at h; cases h
   | l k => rw [e] at h; cases h
   | t k => rw [e] at h; cases h
   | x k l => rw [e] at h; cases h
   | w k => rw [e] at h; cases h
theorem KRep.lookup {K : PySem.W.Frag} {Z : Hp} {k : Str} {p : PyData} : ∀ {ks : List (Key × V)} {kvs : List (Str × PyData)}, KRep K Z ks (kvs.map fun p => ((Sum.inr p.1 : Key), p.2)) → kvs.lookup k = some p → ∃ v, valV ks (Sum.inr k) = some v ∧ Rep K Z v p
 | _, [], .nil, h => by cases h
 | (_, v) :: _, (j, q) :: _, .cons h t, e => by
  by_cases ej : j = k
  ·subst ej
   simp at e
   subst e
   exact ⟨v, by simp [valV], h⟩
  ·have ne : (k == j) = false := by simpa using fun z => ej z.symm
   rw [List.lookup_cons, ne] at e
   obtain ⟨w, h1, h2⟩ := KRep.lookup t e
   refine ⟨w, ?_, h2⟩
   have : ¬ ((Sum.inr j : Key) = Sum.inr k) := fun z => ej (Sum.inr.inj z)
   simpa [valV, this] using h1
theorem Ub {X : Cx} {ew : WX} {fl : Bool} {o : Expr} {fo : DF} {k : Str} {j : Nat} {p1 pos : Pos} (hu : X.A.units + 1 < cLine) (ho : E X ew fl o fo) (hs : NoSl (.Constant (.str k) j p1) := by intro _ _; rfl) : E X ew fl (.Subscript o (.Constant (.str k) j p1) pos) (cGet k fo) :=
 Bf (pe_dget hu ho pe_str hs) fun σ H Q h => by
  obtain ⟨W, φ, own, env, S, r, h⟩ := h
  refine ⟨W, φ, own, env, S, r, (Ad.mp h).mono (fun v S1 q φ1 H1 u r1 k1 v1 => ?_) fun _ _ q => q⟩
  dsimp only at q
  cases e : Wg S1 v with
  | none => rw [e] at q; exact q.elim
  | some nk =>
   obtain ⟨n, kvs⟩ := nk
   rw [e] at q
   obtain ⟨rfl, hS⟩ := Vn e
   dsimp only at q
   cases e2 : kvs.lookup k with
   | none => rw [e2] at q; exact q.elim
   | some p =>
    rw [e2] at q
    obtain ⟨a, rfl, hφ⟩ := v1
    obtain ⟨ks, hH, hr⟩ := r1.cell.2 n _ a hS hφ
    obtain ⟨w, hw1, hw2⟩ := hr.lookup e2
    refine ⟨a, w, rfl, .inl ⟨ks, Sum.inr k, .inl hH, rfl, hw1.symm⟩, q φ1 H1 w r1 k1 ?_⟩
    exact hw2.ext (Du fun a _ _ z => Mo.sub z)
def putS (kvs : List (Str × PyData)) (k : Str) (p : PyData) : List (Str × PyData) := kvs.map fun q => if q.1 = k then (q.1, p) else q
def Yc (i : Nat) (k : Str) (f : DF) : SF := fun env => lift env (f env) fun v => bnd (ofO v.asD) fun p => bnd (vT i env) fun c S => match Wg S c with
 | some (n, kvs) => if kvs.any (fun q => decide (q.1 = k)) = true ∧ kvs.length < sizeLine then .ok (.nx, env) (S.set n (.m (putS kvs k p))) else .stuck
 | none => .stuck
theorem KRep.putS {K : PySem.W.Frag} {Z : Hp} {k : Str} {v : V} {p : PyData} (hv : Rep K Z v p) {ks : List (Key × V)} {kvs : List (Str × PyData)} (h : KRep K Z ks (kvs.map fun p => ((Sum.inr p.1 : Key), p.2))) (ha : kvs.any (fun q => decide (q.1 = k)) = true) : KRep K Z (putK ks (Sum.inr k) v) ((putS kvs k p).map fun p => ((Sum.inr p.1 : Key), p.2)) := by
 have := h.put (k := Sum.inr k) hv
 have e : putD (kvs.map fun p => ((Sum.inr p.1 : Key), p.2)) (Sum.inr k) p = (KP.putS kvs k p).map fun p => ((Sum.inr p.1 : Key), p.2) := by
  unfold putD
  have ha' : ((kvs.map fun p => ((Sum.inr p.1 : Key), p.2)).any fun kv => decide (kv.1 = Sum.inr k)) = true := by
   rw [List.any_map]
   rw [List.any_eq_true] at ha ⊢
   obtain ⟨x, h1, h2⟩ := ha
   exact ⟨x, h1, by simpa using h2⟩
  rw [if_pos ha']
  unfold KP.putS
  rw [List.map_map, List.map_map]
  apply List.map_congr_left
  intro q _
  simp only [Function.comp]
  by_cases z : q.1 = k
  ·simp [z]
  ·have : ¬ ((Sum.inr q.1 : Key) = Sum.inr k) := fun y => z (Sum.inr.inj y)
   simp [z]
 rw [e] at this
 exact this
theorem ab0 {X : Cx} {ew : WX} {x : Str} {i : Nat} {e : Expr} {f : DF} {k : Str} {j : Nat} {p1 p2 p3 pos : Pos} (hu : X.A.units + 1 < cLine) (hN : X.N[i]? = some x) (hv : Vis X.env.scope x) (h : E X ew true e f)
  (hd : (x == ("__debug__" : Str)) = false := by decide) (hcd : (x == ("__classdict__" : Str)) = false := by decide)
  (hs : swapsWith e (some (.Subscript (.Name x p1) (.Constant (.str k) j p2) p3)) pos.line X.env = pure false := by rfl) :
  ES X ew (.Assign [.Subscript (.Name x p1) (.Constant (.str k) j p2) p3] e pos) (Yc i k f) :=
 DY (ps_dput hu (pe_var hN hv hd hcd) pe_str h hs) fun D σ H h => by
  obtain ⟨W, φ, own, env, S, r, h⟩ := h
  refine ⟨W, φ, own, env, S, r, (Cu.mp h).mono (fun v S1 q φ1 H1 u r1 k1 v1 => ?_) fun x S1 q φ1 H1 r1 k1 => q φ1 own σ H1 r1⟩
  obtain ⟨p, e1, q1⟩ := Aq.mp (Ad.mp q)
  obtain rfl := NQ e1
  have q2 := Ad.mp q1
  refine adM (C := ⟨X.K, X.mg, ew⟩) ⟨W, φ1, own, env, S1, r1, R.sat.mono q2 (fun c S2 q φ2 H2 w r2 k2 v2 => ?_) fun _ _ q => q.elim⟩
  cases e2 : Wg S2 c with
  | none => rw [e2] at q; exact q.elim
  | some nk =>
   obtain ⟨n, kvs⟩ := nk
   rw [e2] at q
   obtain ⟨rfl, hS⟩ := Vn e2
   dsimp only at q
   obtain ⟨a, rfl, hφ⟩ := v2
   obtain ⟨ks, hH, hr⟩ := r2.cell.2 n _ a hS hφ
   by_cases hl : kvs.any (fun q => decide (q.1 = k)) = true ∧ kvs.length < sizeLine
   ·rw [if_pos hl] at q
    refine ⟨a, _, rfl, .inl ⟨ks, Sum.inr k, hH, rfl, by have := hr.length; rw [List.length_map] at this; omega, rfl⟩, ?_⟩
    exact q φ2 own σ _ (r2.aec hφ (O8 _) fun ex => ⟨_, upd_same, (hr.ext ex).putS (Rep.ext (Ext.trans (Kp.hz (fl := true) k2) ex) v1) hl.1⟩)
   ·rw [if_neg hl] at q; exact q.elim
def U6 : List (Str × DF) → En → M (List (Str × PyData))
 | [], _ => ret []
 | (k, f) :: r, env => bnd (f env) fun v => bnd (ofO v.asD) fun p => bnd (U6 r env) fun ps => ret ((k, p) :: ps)
def Qp (kfs : List (Str × DF)) : DF := fun env => bnd (U6 kfs env) fun ps S => .ok (.c S.length) (S ++ [.m ps])
def afV (C : Ct) (kfs : List (Str × DF)) : List (TE × TE) := kfs.map fun p => (tC (.str p.1), tI C true p.2)
theorem U5 : ∀ {kfs : List (Str × DF)} {env : En} {S : Sto} {P : List (Str × PyData) → Sto → Prop} {E : Ex → Sto → Prop}, (U6 kfs env S).sat P E → (U6 kfs env S).sat (fun ps S' => ps.map (·.1) = kfs.map (·.1) ∧ P ps S') E
 | [], _, _, _, _, h => ⟨rfl, h⟩
 | (k, f) :: r, env, S, P, E, h => by
  refine Ad.mpr ((Ad.mp h).mono (fun v S1 q => ?_) fun _ _ q => q)
  obtain ⟨p, e, q⟩ := Aq.mp (Ad.mp q)
  refine Ad.mpr (Aq.mpr ⟨p, e, Ad.mpr ((U5 (Ad.mp q)).mono (fun ps S2 q => ?_) fun _ _ q => q)⟩)
  exact ⟨by rw [List.map_cons, List.map_cons, q.1], q.2⟩
theorem Wz {C : Ct} {σ : L2.St} : ∀ {kfs : List (Str × DF)} {H : Hp} {Q : List (V × V) → Hp → Prop} {W : Wd} {φ : List Addr} {own : Nat → List Addr} {env : En} {S : Sto} {P : List (Str × PyData) → Sto → Prop} {P' : Ex → Sto → Prop}, Rel C.K W φ own env S σ H →
  (U6 kfs env S).sat P P' → (∀ x S1 φ1 H1, P' x S1 → Rel C.K W φ1 own env S1 σ H1 → Kp φ H φ1 H1 → Kh C (Mu W.G φ1 own) σ H1 x) →
  (∀ ps S1 φ1 H1 ks, P ps S1 → Rel C.K W φ1 own env S1 σ H1 → Kp φ H φ1 H1 → KRep C.K (hz (Mu W.G φ1 own) H1) ks (ps.map fun p => ((Sum.inr p.1 : Key), p.2)) → Q (ks.map fun kv => (kV kv.1, kv.2)) H1) → tPairs (afV C kfs) σ H Q
 | [], H, Q, W, φ, own, env, S, P, P', r, h, hx, fin => fin [] S φ H [] h r Kp.refl .nil
 | (k, f) :: rest, H, Q, W, φ, own, env, S, P, P', r, h, hx, fin => by
  refine ⟨W, φ, own, env, S, r, (Ad.mp h).mono (fun v S1 q φ1 H1 u r1 k1 v1 => ?_) fun x S1 q φ1 H1 r1 k1 => hx x S1 φ1 H1 q r1 k1⟩
  obtain ⟨p, e, q2⟩ := Aq.mp (Ad.mp q)
  obtain rfl := NQ e
  refine Wz (kfs := rest) (P := fun ps S' => P ((k, p) :: ps) S') r1 (Ad.mp q2) (fun x S2 φ2 H2 z r2 k2 => hx x S2 φ2 H2 z r2 (k1.trans k2)) fun ps S2 φ2 H2 ks hp r2 k2 hr => ?_
  exact fin _ S2 φ2 H2 ((Sum.inr k, u) :: ks) hp r2 (k1.trans k2) (.cons (Rep.ext (Kp.hz (fl := true) k2) v1) hr)
theorem aai {ks : List (Key × V)} : ∀ {acc : List (Key × V)}, ((acc ++ ks).map (·.1)).Nodup → mergeK acc ks = acc ++ ks := by
 induction ks with
 | nil => intro acc _; simp [mergeK]
 | cons kv ks ih =>
  intro acc h
  have hn : (acc.any fun q => decide (q.1 = kv.1)) = false := by
   rw [List.any_eq_false]
   intro q hq z
   rw [List.map_append, List.nodup_append] at h
   exact h.2.2 q.1 (List.mem_map_of_mem hq) kv.1 (by simp) (by simpa using z)
  have e1 : putK acc kv.1 kv.2 = acc ++ [kv] := by
   unfold putK
   rw [hn]; rfl
  show mergeK (putK acc kv.1 kv.2) ks = _
  rw [e1, ih (by rw [List.append_assoc]; exact h), List.append_assoc]; rfl
theorem KRep.keys {κ : Type} {K : PySem.W.Frag} {Z : Hp} : ∀ {ks : List (κ × V)} {kvs : List (κ × PyData)}, KRep K Z ks kvs → ks.map (·.1) = kvs.map (·.1)
 | _, _, .nil => rfl
 | _, _, .cons _ t => by simp [KRep.keys t]
theorem W8 {α β : Type} {f : α → β} (hf : ∀ a b, f a = f b → a = b) : ∀ {l : List α}, l.Nodup → (l.map f).Nodup
 | [], _ => List.nodup_nil
 | a :: l, h => by
  obtain ⟨h1, h2⟩ := List.nodup_cons.mp h
  rw [List.map_cons]
  refine List.nodup_cons.mpr ⟨fun z => ?_, W8 hf h2⟩
  obtain ⟨b, hb, e⟩ := List.mem_map.mp z
  exact h1 (by rw [← hf b a e]; exact hb)
theorem agY {X : Cx} {ew : WX} {keys : List (Option Expr)} {values : List Expr} {kfs : List (Str × DF)} {pos : Pos} (hp : PPs X pos keys values (afV ⟨X.K, X.mg, ew⟩ kfs)) (h1 : (keys.all fun x => x.isSome) = true) (h2 : keys.length = values.length) (h3 : keys ≠ []) (h4 : keys.length ≤ 15) (hk : kfs.length ≤ 15) (nd : (kfs.map (·.1)).Nodup) :
  E X ew true (.Dict keys values pos) (Qp kfs) := Bf (pe_disp hp h1 h2 h3 h4) fun σ H Q h => by
 obtain ⟨W, φ, own, env, S, r, h⟩ := h
 intro p hp
 have nG : ¬ W.G p := fun z => r.fresh hp (.inl z)
 have h0 := base_none r hp
 refine Wz (C := ⟨X.K, X.mg, ew⟩) (r.agG hp (O8 [])) (U5 (Ad.mp h)) (fun x S1 φ1 H1 q r1 k1 => ?_) fun ps S1 φ1 H1 ks q r1 k1 hr => ?_
 ·refine Kh.more (q φ1 H1 r1.aeZ ((Kp.ext (Ext.upd hp)).trans k1)) fun a z => Jk.mpr (.inl z)
 ·obtain ⟨ek, q⟩ := q
  have np : p ∉ φ1 := (r1.gd p (.inr rfl)).1
  have npφ : p ∉ φ := fun z => r.fresh hp (.inr (.inl z))
  have hH1 : H1 p = some (.dK []) := k1.keep p _ npφ upd_same
  have kk := hr.keys
  have nd' : (ks.map (·.1)).Nodup := by
   rw [kk, List.map_map]
   have : ((fun x : Key × PyData => x.1) ∘ fun p : Str × PyData => ((Sum.inr p.1 : Key), p.2)) = (fun x : Str => (Sum.inr x : Key)) ∘ (·.1) := rfl
   rw [this, ← List.map_map, ek]
   exact W8 (fun a b z => Sum.inr.inj z) nd
  refine ⟨hH1, ks, rfl, ?_, ?_⟩
  ·have := congrArg List.length kk
   have e2 := congrArg List.length ek
   simp at this e2
   omega
  ·rw [show mergeK [] ks = ks by rw [aai (by simpa using nd')]; rfl]
   have k1' := (Kp.ext (φ := φ) (Ext.upd (o := .dK []) hp)).trans k1
   refine q (φ1 ++ [p]) _ (.ref p) (r1.Qp h0 (O8 _) nG fun ex => ⟨ks, upd_same, hr.ext ex⟩) ⟨k1'.pre.trans (List.prefix_append _ _), fun a o n h => ?_, fun a z n => ?_⟩ ⟨p, rfl, ?_⟩
   ·rw [upd_ne fun z => by rw [z, hp] at h; cases h]
    exact k1'.keep a o n h
   ·rcases List.mem_append.mp z with y | y
    ·exact k1'.new a y n
    ·rw [List.mem_singleton.mp y]; exact hp
   ·rw [← r1.cell.1, List.getElem?_append_right (Nat.le_refl _), Nat.sub_self]; rfl
def on1 (g : Va → Option Va) : List Va → Option Va
 | [a] => g a
 | _ => none
def on2 (g : Va → Va → Option Va) : List Va → Option Va
 | [a, b] => g a b
 | _ => none
section
variable {K : PySem.W.Frag}
theorem Hu {r : List V → Hp → VK → Prop} {g : Va → Option Va} (h : ∀ Nu φ H u v w Q, MuOk Nu H → VRep K Nu φ H u v → g v = some w → (∀ H' u', Ext H H' → VRep K Nu φ H' u' w → Q u' H') → r [u] H Q) : Kl K r (on1 g) := by
 intro Nu φ H us vs w Q m hv hg hq
 cases hv with
 | nil => cases hg
 | cons h1 hv =>
  cases hv with
  | cons _ _ => cases hg
  | nil => exact h Nu φ H _ _ w Q m h1 hg hq
theorem Ze {r : List V → Hp → VK → Prop} {g : Va → Va → Option Va} (h : ∀ Nu φ H u u2 v v2 w Q, MuOk Nu H → VRep K Nu φ H u v → VRep K Nu φ H u2 v2 → g v v2 = some w → (∀ H' u', Ext H H' → VRep K Nu φ H' u' w → Q u' H') → r [u, u2] H Q) : Kl K r (on2 g) := by
 intro Nu φ H us vs w Q m hv hg hq
 cases hv with
 | nil => cases hg
 | cons h1 hv =>
  cases hv with
  | nil => cases hg
  | cons h2 hv =>
   cases hv with
   | cons _ _ => cases hg
   | nil => exact h Nu φ H _ _ _ _ w Q m h1 h2 hg hq
theorem Gp {r : R2} {g : Va → Va → Option Va} (h : ∀ Nu φ H u u2 v v2 w Q, MuOk Nu H → VRep K Nu φ H u v → VRep K Nu φ H u2 v2 → g v v2 = some w → (∀ H' u', Ext H H' → VRep K Nu φ H' u' w → Q u' H') → r u u2 H Q) : Gz K r g := by
 intro Nu φ H us vs w Q m hv hg hq
 cases hv with
 | nil => cases hg
 | cons h1 hv =>
  cases hv with
  | nil => cases hg
  | cons h2 hv =>
   cases hv with
   | cons _ _ => cases hg
   | nil => exact ⟨_, _, rfl, h Nu φ H _ _ _ _ w Q m h1 h2 hg hq⟩
theorem VB {r : V → Hp → VK → Prop} {g : Va → Option Va} (h : ∀ Nu φ H u v w Q, MuOk Nu H → VRep K Nu φ H u v → g v = some w → (∀ H' u', Ext H H' → VRep K Nu φ H' u' w → Q u' H') → r u H Q) : aco K r g := by
 intro Nu φ H us vs w Q m hv hg hq
 cases hv with
 | nil => cases hg
 | cons h1 hv =>
  cases hv with
  | cons _ _ => cases hg
  | nil => exact ⟨_, rfl, h Nu φ H _ _ w Q m h1 hg hq⟩
end
theorem Sy {X : Cx} {f : Value → Value → Sem Value} {r r' : R2} (h : OpR X f r) (h' : OpR X f r') : OpR X f (fun x y H Q => r x y H Q ∨ r' x y H Q) := by
 intro pins s σ H x y v u Q I rx ry q
 rcases q with q | q
 ·exact h pins s σ H x y v u Q I rx ry q
 ·exact h' pins s σ H x y v u Q I rx ry q
def gII (h : Int → Int → Option PyData) : Va → Va → Option Va
 | .d (.int i), .d (.int j) => (h i j).map Va.d
 | _, _ => none
theorem RB {h : Int → Int → Option PyData} {a b w : Va} (e : gII h a b = some w) : ∃ i j p, a = .d (.int i) ∧ b = .d (.int j) ∧ h i j = some p ∧ w = .d p := by
 unfold gII at e
 split at e
 ·obtain ⟨p, e1, e2⟩ := Option.map_eq_some_iff.mp e
  exact ⟨_, _, p, rfl, rfl, e1, e2.symm⟩
 ·cases e
theorem Su {K : PySem.W.Frag} {f : Int → Int → V} {h : Int → Int → Option PyData} (hf : ∀ i j p, h i j = some p → ∀ Z, Rep K Z (f i j) p) : Gz K (rI0 f) (gII h) := Gp fun Nu φ H u u2 v v2 w Q m h1 h2 e q => by
 obtain ⟨i, j, p, rfl, rfl, e1, rfl⟩ := RB e
 cases h1
 cases h2
 exact ⟨i, j, rfl, rfl, q H _ Ext.refl (hf i j p e1 _)⟩
theorem abf {K : PySem.W.Frag} {C : Int → Int → Prop} {f : Int → Int → V} {h : Int → Int → Option PyData} (hf : ∀ i j p, h i j = some p → C i j ∧ ∀ Z, Rep K Z (f i j) p) : Gz K (rI C f) (gII h) := Gp fun Nu φ H u u2 v v2 w Q m h1 h2 e q => by
 obtain ⟨i, j, p, rfl, rfl, e1, rfl⟩ := RB e
 cases h1
 cases h2
 exact ⟨i, j, rfl, rfl, (hf i j p e1).1, q H _ Ext.refl ((hf i j p e1).2 _)⟩
def gSub : Va → Va → Option Va := gII fun i j => some (.int (i - j))
def ac1 (i j : Int) : Bool := (decide (-(2 ^ 64) < i) && decide (i < 2 ^ 64)) || (decide (-(2 ^ 64) < j) && decide (j < 2 ^ 64))
def hMul (i j : Int) : Option PyData := if ac1 i j = true then some (.int (i * j)) else none
def gMod : Va → Va → Option Va := gII fun i j => if 0 < j then some (.int (i % j)) else none
def gDiv : Va → Va → Option Va := gII fun i j => if 0 < j ∧ j < 1073741824 then some (.int (i / j)) else none
def gPow : Va → Va → Option Va := gII fun i j => if 0 ≤ j ∧ j ≤ 1000000 ∧ i.natAbs < 2 ^ 64 then some (.int (i ^ j.toNat)) else none
def gLt : Va → Va → Option Va := gII fun i j => some (.bool (decide (i < j)))
def gLe : Va → Va → Option Va := gII fun i j => some (.bool (decide (i ≤ j)))
def gGt : Va → Va → Option Va := gII fun i j => some (.bool (decide (j < i)))
def gGe : Va → Va → Option Va := gII fun i j => some (.bool (decide (j ≤ i)))
section
variable {K : PySem.W.Frag}
theorem JP : Gz K (rI0 fun i j => V.int (i - j)) gSub := Su fun i j p e Z => by cases e; exact .int _
theorem Hr : Gz K (rI (fun x j => 0 < j) fun i j => V.int (i % j)) gMod := abf fun i j p e => by
 split at e
 ·rename_i h; cases e; exact ⟨h, fun Z => .int _⟩
 ·cases e
theorem Vz : Gz K (rI CDiv fun i j => V.int (i / j)) gDiv := abf fun i j p e => by
 split at e
 ·rename_i h; cases e; exact ⟨h, fun Z => .int _⟩
 ·cases e
theorem Zd : Gz K (rI CPow fun i j => V.int (i ^ j.toNat)) gPow := abf fun i j p e => by
 split at e
 ·rename_i h; cases e; exact ⟨h, fun Z => .int _⟩
 ·cases e
theorem aeC : Gz K (rI0 fun i j => V.bl (decide (i < j))) gLt := Su fun i j p e Z => by cases e; exact .bl _
theorem Ml : Gz K (rI0 fun i j => V.bl (decide (i ≤ j))) gLe := Su fun i j p e Z => by cases e; exact .bl _
theorem abe : Gz K (rI0 fun i j => V.bl (decide (i > j))) gGt := Su fun i j p e Z => by cases e; exact .bl _
theorem aeE : Gz K (rI0 fun i j => V.bl (decide (i ≥ j))) gGe := Su fun i j p e Z => by cases e; exact .bl _
end
def gNeg : Va → Option Va
 | .d (.int i) => some (.d (.int (-i)))
 | _ => none
theorem Rp {K : PySem.W.Frag} : aco K (rU fun i => V.int (-i)) gNeg := VB fun Nu φ H u v w Q m h e q => by
 unfold gNeg at e
 split at e
 ·cases e; cases h; exact ⟨_, rfl, q H _ Ext.refl (.int _)⟩
 ·cases e
def hAdd : PyData → PyData → Option PyData
 | .int i, .int j => some (.int (i + j))
 | .list a, .list b => if a.length + b.length ≤ sizeLine then some (.list (a ++ b)) else none
 | .tuple a, .tuple b => if a ≠ [] ∧ a.length + b.length ≤ sizeLine then some (.tuple (a ++ b)) else none
 | .str a, .str b => if a.length + b.length ≤ sizeLine then some (.str (a ++ b)) else none
 | _, _ => none
def gDD (h : PyData → PyData → Option PyData) : Va → Va → Option Va
 | .d p, .d q => (h p q).map Va.d
 | _, _ => none
theorem Ny {h : PyData → PyData → Option PyData} {a b w : Va} (e : gDD h a b = some w) : ∃ p q r, a = .d p ∧ b = .d q ∧ h p q = some r ∧ w = .d r := by
 unfold gDD at e
 split at e
 ·obtain ⟨p, e1, e2⟩ := Option.map_eq_some_iff.mp e
  exact ⟨_, _, p, rfl, rfl, e1, e2.symm⟩
 ·cases e
def gAdd : Va → Va → Option Va := gDD hAdd
theorem Bu {X : Cx} : OpR X (binaryOp .Add) (fun x y H Q => rI0 (fun i j => V.int (i + j)) x y H Q ∨ rCat x y H Q ∨ rCatT X.K x y H Q ∨ (∃ i j, x = V.str i ∧ y = V.str j ∧ i.length + j.length ≤ sizeLine ∧ Q (V.str (i ++ j)) H)) := Sy op_add (Sy op_cat (Sy op_catT op_add_str))
theorem Be {K : PySem.W.Frag} : Gz K (fun x y H Q => rI0 (fun i j => V.int (i + j)) x y H Q ∨ rCat x y H Q ∨ rCatT K x y H Q ∨ (∃ i j, x = V.str i ∧ y = V.str j ∧ i.length + j.length ≤ sizeLine ∧ Q (V.str (i ++ j)) H)) gAdd := Gp fun Nu φ H u u2 v v2 w Q m h1 h2 e q => by
 obtain ⟨a, b, r, rfl, rfl, e1, rfl⟩ := Ny e
 clear e
 unfold hAdd at e1
 split at e1
 ·cases e1; cases h1; cases h2
  exact .inl ⟨_, _, rfl, rfl, q H _ Ext.refl (.int _)⟩
 ·split at e1
  ·rename_i hl
   cases e1
   cases h1 with
   | lst hs1 l1 r1 =>
    cases h2 with
    | lst hs2 l2 r2 =>
     refine .inr (.inl ⟨_, _, _, _, rfl, rfl, (Aj.mp hs1).2, (Aj.mp hs2).2, by rw [r1.length, r2.length]; exact hl, fun p hp => q _ _ (Ext.upd hp) ?_⟩)
     obtain ⟨n1, n2⟩ := Es (K := K) m hp
     exact .lst n2 (by rw [List.length_append]; exact hl) ((r1.ext n1).append (r2.ext n1))
  ·cases e1
 ·split at e1
  ·rename_i hl
   obtain ⟨hl1, hl3⟩ := hl
   cases e1
   cases h1 with
   | tup hs1 l1 r1 =>
    cases h2 with
    | tup hs2 l2 r2 =>
     refine .inr (.inr (.inl ⟨_, _, _, _, rfl, rfl, SqT.of (Aj.mp hs1).2, SqT.of (Aj.mp hs2).2, fun z => hl1 ?_, by rw [r1.length, r2.length]; exact hl3, fun z => ?_, fun _ p hp => q _ _ (Ext.upd hp) ?_⟩))
     ·have := r1.length
      rw [z] at this
      exact List.eq_nil_of_length_eq_zero this.symm
     ·have := r2.length
      rw [z] at this
      rw [List.eq_nil_of_length_eq_zero this.symm, List.append_nil] at q
      exact q H _ Ext.refl (.tup hs1 l1 r1)
     ·obtain ⟨n1, n2⟩ := Es (K := K) m hp
      exact .tup n2 (by rw [List.length_append]; exact hl3) ((r1.ext n1).append (r2.ext n1))
  ·cases e1
 ·split at e1
  ·rename_i hl
   cases e1; cases h1; cases h2
   exact .inr (.inr (.inr ⟨_, _, rfl, rfl, hl, q H _ Ext.refl (.str _)⟩))
  ·cases e1
 ·cases e1
theorem Z3 (l : Addr) (items : Array Value) (n : Nat) (dd : Option Addr) (sl : Array (Option Value)) (u : Tok) :
  Meets (Builtin.«tuple.__mul__» ⟨[.ref l, .int 1 u], []⟩) (fun _ R s => s.heap.get? l = some { cls := .type "tuple", dict := dd, data := .seq items n, slots := sl } ∧ R (.ok (.ret (Value.ref l))) s) :=
 .of_wp fun prog w A R s h => by
  obtain ⟨hp, g, d, tk, os⟩ := s
  obtain ⟨hl, h⟩ := h
  have f1 := AutoSeq1.idx_int
  wp_walk using wpAny_loadPart' hl
  repeat (first
   | (refine wpAny_ite_false (decide_eq_false (by decide)) ?_; wp_walk using wpAny_loadPart' hl)
   | (refine wpAny_ite_true (decide_eq_true (by simp)) ?_; wp_walk using wpAny_loadPart' hl))
  exact ⟨_, rfl, h⟩
def aa8 (K : PySem.W.Frag) : R2 := fun x y H Q => ∃ l xs, x = .ref l ∧ y = .int 1 ∧ SqT K H l xs ∧ Q (.ref l) H
theorem acW {X : Cx} : OpR X (binaryOp .Mult) (aa8 X.K) := by
 intro pins s σ H x y v u Q I rx ry h
 obtain ⟨l, xs, rfl, rfl, hT, q⟩ := h
 cases rx
 obtain ⟨t, rfl⟩ := ry
 obtain ⟨its, r, ⟨⟨cls, dd, data, sl⟩, ho, hc, n, hd⟩, hs⟩ := I.tuple hT
 simp only at hc hd
 subst hc hd
 refine wpAny_binaryOp_repeat_ref (T := "tuple") (U := "int") (by decide) ⟨_, ho, rfl⟩ (fun s' => typeIs_int s' 1 t) noFill_tuple_mul F.fills_int_mul F.slot_int_rmul repeat_tuple F.slot_int_index.lookup
  (call_meets F.slot_int_rmul (typeIs_int s 1 t) F.entry_int_rmul (F.args_int_rmul_2 _ _) (int_rmul_tuple 1 t l its.toArray n dd sl)
   ⟨ho, rfl, ⟨_, ho, rfl⟩, call_meets F.slot_tuple_mul ⟨_, ho, rfl⟩ F.entry_tuple_mul (F.args_tuple_mul_2 _ _) (Z3 l its.toArray n dd sl t) ⟨ho, ?_⟩⟩)
 exact ⟨.ref l, H, I, rfl, q⟩
theorem Af.rep {K : PySem.W.Frag} {H : Hp} {xs : List V} {ps : List PyData} (h : Af K H xs ps) : ∀ n : Nat, Af K H (List.replicate n xs).flatten (List.replicate n ps).flatten
 | 0 => .nil
 | n + 1 => by
  rw [List.replicate_succ, List.replicate_succ, List.flatten_cons, List.flatten_cons]
  exact h.append (Af.rep h n)
def abM : PyData → PyData → Option PyData
 | .int i, .int j => hMul i j
 | .tuple a, .int k => if a ≠ [] ∧ a.length ≤ 1000 ∧ 1 ≤ k ∧ k ≤ 1000 then some (.tuple (List.replicate k.toNat a).flatten) else none
 | .list a, .int k => if 0 ≤ k ∧ k ≤ 1000000 ∧ a.length * k.toNat ≤ sizeLine then some (.list (List.replicate k.toNat a).flatten) else none
 | _, _ => none
def gMul : Va → Va → Option Va := gDD abM
theorem Gg {X : Cx} : OpR X (binaryOp .Mult) (fun x y H Q => rI CMul (fun i j => V.int (i * j)) x y H Q ∨ aa8 X.K x y H Q ∨ rRepT X.K x y H Q ∨ rRep x y H Q) := Sy op_mul (Sy acW (Sy op_repT op_rep))
theorem CG {K : PySem.W.Frag} : Gz K (fun x y H Q => rI CMul (fun i j => V.int (i * j)) x y H Q ∨ aa8 K x y H Q ∨ rRepT K x y H Q ∨ rRep x y H Q) gMul := Gp fun Nu φ H u u2 v v2 w Q m h1 h2 e q => by
 obtain ⟨a, b, r, rfl, rfl, e1, rfl⟩ := Ny e
 clear e
 unfold abM at e1
 split at e1
 ·cases h1; cases h2
  unfold hMul at e1
  split at e1
  ·rename_i h
   cases e1
   simp only [ac1, Bool.or_eq_true, Bool.and_eq_true, decide_eq_true_eq] at h
   exact .inl ⟨_, _, rfl, rfl, h, q H _ Ext.refl (.int _)⟩
  ·cases e1
 ·split at e1
  ·rename_i a k hl
   obtain ⟨l1, l2, l3, l4⟩ := hl
   cases e1
   cases h2
   cases h1 with
   | tup hs ll rr =>
    by_cases hk : k = 1
    ·subst hk
     refine .inr (.inl ⟨_, _, rfl, rfl, SqT.of (Aj.mp hs).2, q H _ Ext.refl ?_⟩)
     have : (List.replicate (1 : Int).toNat a).flatten = a := by
      show (List.replicate 1 a).flatten = a
      simp
     rw [this]
     exact .tup hs ll rr
    ·refine .inr (.inr (.inl ⟨_, k, _, rfl, rfl, SqT.of (Aj.mp hs).2, fun z => l1 ?_, by omega, l4, by rw [rr.length]; exact l2, fun p hp => q _ _ (Ext.upd hp) ?_⟩))
     ·have := rr.length
      rw [z] at this
      exact List.eq_nil_of_length_eq_zero this.symm
     ·obtain ⟨n1, n2⟩ := Es (K := K) m hp
      refine .tup n2 ?_ ((rr.ext n1).rep _)
      rw [PyProof.Rows.lm_len_rep_flat, sizeLine_eq]
      have a1 : k.toNat * a.length ≤ 1000 * 1000 := Nat.mul_le_mul (by omega) l2
      omega
  ·cases e1
 ·split at e1
  ·rename_i a k hl
   obtain ⟨l1, l2, l3⟩ := hl
   cases e1
   cases h2
   cases h1 with
   | lst hs ll rr =>
    refine .inr (.inr (.inr ⟨_, k, _, rfl, rfl, (Aj.mp hs).2, by omega, by omega, by rw [rr.length]; exact l3, fun p hp => ?_⟩))
    obtain ⟨n1, n2⟩ := Es (K := K) (o := .lst (List.replicate k.toNat _).flatten) m hp
    refine q _ _ (Ext.upd hp) (.lst n2 ?_ ((rr.ext n1).rep _))
    rw [PyProof.Rows.lm_len_rep_flat, Nat.mul_comm]
    exact l3
  ·cases e1
 ·cases e1
def eqOk (p q : PyData) : Bool := Ma p && Ma q && SeqAt.shaped p && SeqAt.shaped q
def Z6 : PyData → PyData → Option Bool
 | .str a, .str b => some (decide (a = b))
 | _, _ => none
def hEq (neg : Bool) (p q : PyData) : Option PyData := match Z6 p q with
 | some k => some (.bool (if neg = true then !k else k))
 | none => if eqOk p q = true then some (.bool (if neg = true then !PyData.eqv p q else PyData.eqv p q)) else none
def gEq : Va → Va → Option Va := gDD (hEq false)
def gNe : Va → Va → Option Va := gDD (hEq true)
def rEqA (K : PySem.W.Frag) : R2 := fun x y H Q => rEqD K x y H Q ∨ rEq x y H Q
def rNeA (K : PySem.W.Frag) : R2 := fun x y H Q => rNeD K x y H Q ∨ rNe x y H Q
theorem Jj {X : Cx} (hu : X.A.units + 64 < cLine) : OpR X (compareOp .Eq) (rEqA X.K) := fun pins s σ H x y v u Q I rx ry h => h.elim (op_eqD hu pins s σ H x y v u Q I rx ry) (op_eq pins s σ H x y v u Q I rx ry)
theorem JQ {X : Cx} (hu : X.A.units + 64 < cLine) : OpR X (compareOp .NotEq) (rNeA X.K) := fun pins s σ H x y v u Q I rx ry h => h.elim (op_neD hu pins s σ H x y v u Q I rx ry) (op_ne pins s σ H x y v u Q I rx ry)
theorem Qh {p q : PyData} {k : Bool} (h : Z6 p q = some k) : ∃ a b, p = .str a ∧ q = .str b ∧ k = decide (a = b) := by
 unfold Z6 at h
 split at h
 ·cases h; exact ⟨_, _, rfl, rfl, rfl⟩
 ·cases h
theorem pure_eq {K : PySem.W.Frag} : Gz K (rEqA K) gEq := Gp fun Nu φ H u u2 v v2 w Q m h1 h2 e q => by
 obtain ⟨a, b, r, rfl, rfl, e1, rfl⟩ := Ny e
 unfold hEq at e1
 split at e1
 ·rename_i k hk
  obtain ⟨x, y, rfl, rfl, rfl⟩ := Qh hk
  cases e1
  cases h1
  cases h2
  refine .inr ⟨rfl, q H _ Ext.refl ?_⟩
  rw [dec_str, show decide (x = y) = (x == y) by rw [Bool.eq_iff_iff]; simp]
  exact .bl _
 ·split at e1
  ·rename_i h
   cases e1
   simp only [eqOk, Bool.and_eq_true] at h
   exact .inl ⟨a, b, (Rep.ext Dq h1).dp h.1.1.1, (Rep.ext Dq h2).dp h.1.1.2, h.1.2, h.2, q H _ Ext.refl (.bl _)⟩
  ·cases e1
theorem Hf {K : PySem.W.Frag} : Gz K (rNeA K) gNe := Gp fun Nu φ H u u2 v v2 w Q m h1 h2 e q => by
 obtain ⟨a, b, r, rfl, rfl, e1, rfl⟩ := Ny e
 unfold hEq at e1
 split at e1
 ·rename_i k hk
  obtain ⟨x, y, rfl, rfl, rfl⟩ := Qh hk
  cases e1
  cases h1
  cases h2
  refine .inr ⟨rfl, q H _ Ext.refl ?_⟩
  rw [dec_str, show decide (x = y) = (x == y) by rw [Bool.eq_iff_iff]; simp]
  exact .bl _
 ·split at e1
  ·rename_i h
   cases e1
   simp only [eqOk, Bool.and_eq_true] at h
   exact .inl ⟨a, b, (Rep.ext Dq h1).dp h.1.1.1, (Rep.ext Dq h2).dp h.1.1.2, h.1.2, h.2, q H _ Ext.refl (.bl _)⟩
  ·cases e1
def isNon : PyData → Bool
 | .none => true
 | _ => false
def gIsN : Va → Va → Option Va
 | .d p, .d .none => some (vB (isNon p))
 | _, _ => none
def abR : Va → Va → Option Va
 | .d p, .d .none => some (vB (!isNon p))
 | _, _ => none
theorem aex {K : PySem.W.Frag} {Z : Hp} {u : V} {p : PyData} (h : Rep K Z u p) : decide (u = .non) = isNon p := by
 cases h <;> rfl
theorem WR {K : PySem.W.Frag} : Gz K (fun x y H Q => y = V.non ∧ Q (V.bl (!decide (x = V.non))) H) abR := Gp fun Nu φ H u u2 v v2 w Q m h1 h2 e q => by
 unfold abR at e
 split at e
 ·cases e
  cases h2
  have h1 : Rep K (hz Nu H) u _ := h1
  rw [aex h1]
  exact ⟨rfl, q H _ Ext.refl (.bl _)⟩
 ·cases e
def hLen : Va → Option Va
 | .d (.list xs) => some (.d (.int xs.length))
 | .d (.tuple xs) => some (.d (.int xs.length))
 | .d (.str x) => if x.length ≤ sizeLine then some (.d (.int x.length)) else none
 | .s ns => some (.d (.int ns.length))
 | _ => none
theorem acQ {K : PySem.W.Frag} : Kl K (fun xs H Q => ∃ x n, xs = [x] ∧ LenV K x H n ∧ Q (V.int ((n : Nat) : Int)) H) (on1 hLen) := Hu fun Nu φ H u v w Q m h e q => by
 unfold hLen at e
 split at e
 ·cases e
  cases h with
  | lst hs l r => exact ⟨_, _, rfl, .inl ⟨_, SqL.of (Aj.mp hs).2, rfl⟩, by rw [r.length]; exact q H _ Ext.refl (.int _)⟩
 ·cases e
  cases h with
  | tup hs l r => exact ⟨_, _, rfl, .inr ⟨_, SqT.of (Aj.mp hs).2, rfl⟩, by rw [r.length]; exact q H _ Ext.refl (.int _)⟩
 ·split at e
  ·rename_i hl; cases e; cases h; exact ⟨_, _, rfl, ⟨hl, rfl⟩, q H _ Ext.refl (.int _)⟩
  ·cases e
 ·cases e
  obtain ⟨a, rfl, hs⟩ := h
  exact ⟨_, _, rfl, .inl ⟨_, Ef Dq hs, rfl⟩, by rw [List.length_map]; exact q H _ Ext.refl (.int _)⟩
 ·cases e
def adh : Va → Va → Option Va := gII fun i j => some (.int (if j > i then j else i))
def aan : Va → Va → Option Va := gII fun i j => some (.int (if j < i then j else i))
theorem abd {K : PySem.W.Frag} : Kl K (fun xs H Q => ∃ i j, xs = [V.int i, V.int j] ∧ Q (V.int (if j > i then j else i)) H) (on2 adh) := Ze fun Nu φ H u u2 v v2 w Q m h1 h2 e q => by
 obtain ⟨i, j, p, rfl, rfl, e1, rfl⟩ := RB e
 cases h1; cases h2; cases e1
 exact ⟨i, j, rfl, q H _ Ext.refl (.int _)⟩
theorem WT {K : PySem.W.Frag} : Kl K (fun xs H Q => ∃ i j, xs = [V.int i, V.int j] ∧ Q (V.int (if j < i then j else i)) H) (on2 aan) := Ze fun Nu φ H u u2 v v2 w Q m h1 h2 e q => by
 obtain ⟨i, j, p, rfl, rfl, e1, rfl⟩ := RB e
 cases h1; cases h2; cases e1
 exact ⟨i, j, rfl, q H _ Ext.refl (.int _)⟩
def hInt : Va → Option Va
 | .d (.int i) => some (.d (.int i))
 | _ => none
theorem Ht {K : PySem.W.Frag} : Kl K (fun xs H Q => (∃ i, xs = [V.int i] ∧ Q (V.int i) H) ∨ ∃ k, xs = [V.bl k] ∧ Q (V.int (if k = true then 1 else 0)) H) (on1 hInt) := Hu fun Nu φ H u v w Q m h e q => by
 unfold hInt at e
 split at e
 ·cases e; cases h; exact .inl ⟨_, rfl, q H _ Ext.refl (.int _)⟩
 ·cases e
def hTup : Va → Option Va
 | .d (.list xs) => some (.d (.tuple xs))
 | .d (.tuple xs) => some (.d (.tuple xs))
 | _ => none
theorem CN {K : PySem.W.Frag} : Kl K (fun xs H Q => ∃ p ys, xs = [V.ref p] ∧ ((SqL K H p ys ∧ ∀ l, H l = none → Q (V.ref l) (upd H l (HO.tup ys))) ∨ SqT K H p ys ∧ Q (V.ref p) H)) (on1 hTup) := Hu fun Nu φ H u v w Q m h e q => by
 unfold hTup at e
 split at e
 ·cases e
  cases h with
  | lst hs l r =>
   refine ⟨_, _, rfl, .inl ⟨SqL.of (Aj.mp hs).2, fun p hp => q _ _ (Ext.upd hp) ?_⟩⟩
   obtain ⟨n1, n2⟩ := Es (K := K) m hp
   exact .tup n2 l (r.ext n1)
 ·cases e
  cases h with
  | tup hs l r => exact ⟨_, _, rfl, .inr ⟨SqT.of (Aj.mp hs).2, q H _ Ext.refl (.tup hs l r)⟩⟩
 ·cases e
def Xf : Va → Option Va
 | .d (.list xs) => some (.d (.list xs))
 | .d (.tuple xs) => some (.d (.list xs))
 | _ => none
theorem Ss {K : PySem.W.Frag} : Kl K (fun xs H Q => ∃ p ys, xs = [V.ref p] ∧ (SqL K H p ys ∨ SqT K H p ys) ∧ ∀ l, H l = none → Q (V.ref l) (upd H l (HO.lst ys))) (on1 Xf) := Hu fun Nu φ H u v w Q m h e q => by
 unfold Xf at e
 split at e
 ·cases e
  cases h with
  | lst hs l r =>
   refine ⟨_, _, rfl, .inl (SqL.of (Aj.mp hs).2), fun p hp => q _ _ (Ext.upd hp) ?_⟩
   obtain ⟨n1, n2⟩ := Es (K := K) m hp
   exact .lst n2 l (r.ext n1)
 ·cases e
  cases h with
  | tup hs l r =>
   refine ⟨_, _, rfl, .inr (SqT.of (Aj.mp hs).2), fun p hp => q _ _ (Ext.upd hp) ?_⟩
   obtain ⟨n1, n2⟩ := Es (K := K) m hp
   exact .lst n2 l (r.ext n1)
 ·cases e
def M5 : List PyData → Option (List Bool)
 | [] => some []
 | .bool b :: r => (M5 r).map (b :: ·)
 | _ => none
theorem Rb : ∀ {ps : List PyData} {bs : List Bool}, M5 ps = some bs → ps = bs.map PyData.bool
 | [], _, h => by cases h; rfl
 | p :: ps, bs, h => by
  cases p <;> simp [M5] at h
  obtain ⟨cs, h1, rfl⟩ := h
  rw [Rb h1]; rfl
def Oe : List PyData → Option (List Int)
 | [] => some []
 | .int b :: r => (Oe r).map (b :: ·)
 | _ => none
theorem Oz : ∀ {ps : List PyData} {bs : List Int}, Oe ps = some bs → ps = bs.map PyData.int
 | [], _, h => by cases h; rfl
 | p :: ps, bs, h => by
  cases p <;> simp [Oe] at h
  obtain ⟨cs, h1, rfl⟩ := h
  rw [Oz h1]; rfl
theorem Ul (ns : List Bool) : M5 (ns.map PyData.bool) = some ns := by
 induction ns with
 | nil => rfl
 | cons n ns ih => show (M5 (ns.map PyData.bool)).map _ = _; rw [ih]; rfl
def hAll : Va → Option Va
 | .d (.list xs) => (M5 xs).map fun bs => vB (bs.all id)
 | _ => none
theorem acS {K : PySem.W.Frag} : Kl K (rAll K) (on1 hAll) := Hu fun Nu φ H u v w Q m h e q => by
 unfold hAll at e
 split at e
 ·obtain ⟨bs, e1, rfl⟩ := Option.map_eq_some_iff.mp e
  have := Rb e1
  subst this
  cases h with
  | lst hs l r =>
   have := r.bools
   subst this
   exact ⟨_, bs, rfl, SqL.of (Aj.mp hs).2, q H _ Ext.refl (.bl _)⟩
 ·cases e
end KP
set_option maxHeartbeats 4000000
namespace KP
open PySem PySem.W PySem.Spec PySem.Calls PyProof.Rows L2
section
variable {prog : Program} {w : World} {A : Around} {E : Value → Shared → Prop} {s : Shared} {K : PySem.W.Frag} {e D : Addr} {oe : Obj} {od : Option Obj}
theorem aas {nm : Str} {at1 get1 : Value} (h1 : (clsIn K D).isSome = true) (h2 : findIn K (.ref D) nm = some (some at1)) (h3 : specialIn K at1 "__get__" = some (some get1)) (h4 : takesIn K at1 = some true) : findObj K D od nm = some (.bind get1 at1) := by
 obtain ⟨c, hcl⟩ := Option.isSome_iff_exists.mp h1
 unfold findObj
 rw [hcl, Option.bind_some, h2, Option.bind_some]
 simp [h3, h4]
theorem Xw {Q : Option Value → Shared → Prop} (C : ExcC K D) (kin : K.In s.heap) (inst : InstAt s.heap e oe D od) (fin : Q (some (.ref D)) { s with toks := s.toks + 1 }) : wpAny (model prog w) A (getAttr? (.ref e) "__class__") Q E s := by
 have isC : (clsIn K D).isSome = true := by
  obtain ⟨c, hcl, _⟩ := any_some C.hd
  rw [hcl]; rfl
 have fo : findObj K D od "__class__" = some (.bind (.builtin "getset_descriptor.__get__") (.builtin "object.__class__")) := aas isC C.ha C.hn C.ht
 obtain ⟨hp, gs, dr, tk, os⟩ := s
 have ty := inst.type (M := model prog w)
 have la := looks_findIn (M := model prog w) kin C.hg
 have lb := looks_findIn (M := model prog w) kin C.hk
 have lc := looks_find (M := model prog w) kin inst fo
 have isB : Looks (model prog w) hp (isInstance (.ref e) (.type "BaseException")) true := ty.andThen (looks_subIn kin C.hs)
 have ne1 : (Value.builtin "BaseException.__getattribute__" == Value.builtin "object.__getattribute__") = false := by decide +kernel
 have ne2 : (onTheHeap (Value.ref D) && Value.builtin "BaseException.__getattribute__" == Value.builtin "object.__getattribute__") = false := by rw [ne1]; rfl
 have ne3 : (false && onTheHeap (Value.builtin "BaseException.__getattribute__")) = false := rfl
 unfold getAttr? getAttrBy? getAttrBy
 refine wpAny_bind (wpAny_mkText (wpAny_bind (wpAny_attempt (wpAny_holding (wpAny_bind (ty.at (wpAny_bind (la.at ?g1))))))))
 case g1 =>
  show wpAny _ _ (if (onTheHeap (Value.ref D) && Value.builtin "BaseException.__getattribute__" == Value.builtin "object.__getattribute__") = true then _ else _) _ _ _
  rw [ne2, if_neg Bool.false_ne_true]
  unfold getAttrByItsOwn hookBefore
  refine wpAny_bind ?g2
  rw [if_pos (show onTheHeap (Value.ref D) = true from rfl)]
  refine lb.at ?g3
  refine wpAny_bind (wpAny_attempt (wpAny_holding ?g4))
  unfold callGetattribute
  rw [ne3, if_neg Bool.false_ne_true]
  unfold boundAndCalled
  rw [PySem.F.excAttr_ValueError.ga.bind (.ref e)]
  refine wpAny_bind (wpAny_pure ?g5)
  show wpAny _ _ (call (.builtin "BaseException.__getattribute__") [.ref e, .str "__class__" tk]) _ _ _
  refine wpAny_call (codeAny_call_builtin PySem.F.excAttr_ValueError.ga.plain PySem.F.entry_bexc_ga ?g6)
  refine @check_slot (model prog w) _ _ ⟨hp, gs, dr, tk + 1, os⟩ "BaseException.__getattribute__" "BaseException" "__getattribute__" (.ref e) [.str "__class__" tk] [] _ (by decide +kernel) (by decide +kernel) isB (PySem.F.args_bexc_ga (.ref e) (.str "__class__" tk)) ?g7
  unfold Builtin.«object.__getattribute__»
  refine wpAny_bind (wpAny_of_eq (a := ((Value.ref e : Value), [Value.str "__class__" tk])) (by first | rfl | (simp only [slotArgs]; rfl)) ?g8)
  refine wpAny_bind (wpAny_pure (wpAny_bind (ty.at (wpAny_bind (lc.at ?g9)))))
  show wpAny _ _ (holding [Value.builtin "object.__class__"] (call (.builtin "getset_descriptor.__get__") [.builtin "object.__class__", .ref e, .ref D]) >>= PySem.ret) _ _ _
  refine wpAny_bind (wpAny_holding (wpAny_call (class_get (s := ⟨hp, gs, dr, tk + 1, os⟩) (ox := oe) (od := od) kin inst C.hm ?g10)))
  refine wpAny_pure ?g11
  show wpAny _ _ (handedOut (.ref D)) _ _ _
  rw [handedOut_of (v := .ref D) rfl]
  first
   | exact wpAny_pure (wpAny_pure fin)
   | exact wpAny_pure fin
   | exact wpAny_pure (wpAny_bind (wpAny_pure (wpAny_pure fin)))
theorem ac8 (C : ExcC K D) : KitX K (.ref e) (.ref D) (fun h => InstAt h e oe D od) := by
 obtain ⟨cd, hcl, _⟩ := any_some C.hd
 refine ⟨fun _ _ _ i => i.type, fun _ h kin _ => ?_, fun h tp dd its n sl kin ht => ?_, fun kin i fin => Xw C kin i fin⟩
 ·unfold clsIn at hcl
  split at hcl
  ·rename_i _ _ _ _ lk
   intro A' Q' E' s' keep fin
   unfold isType loadHead
   exact wpAny_bind (wpAny_loadPart (keep _ _ (kin _ _ lk)) (wpAny_pure fin))
  ·cases hcl
 ·cases eq : (Value.ref D == Value.ref tp) with
  | false => rfl
  | true =>
   have same : D = tp := Value.ref.inj (beq_iff_eq.mp eq)
   subst same
   unfold clsIn at hcl
   split at hcl
   ·rename_i _ _ _ _ lk
    have z := (kin _ _ lk).symm.trans ht
    cases z
   ·cases hcl
end
def inOk (d : PyData) (xs : List PyData) : Bool := Ma d && G5 xs && PyData.plainAll xs && d.plain && decide (min (PyData.depthAll xs) d.depth ≤ 60)
def seqD : PyData → Option (List PyData)
 | .list xs => some xs
 | .tuple xs => some xs
 | _ => none
theorem agS {X : Cx} {pins : List (Addr × Obj)} {σ : L2.St} {H : Hp} {s : Shared} (I : L2.Inv X pins σ H s) {a C : Addr} {d : Option Addr} (h : H a = some (ExK a C d)) (hd : d = none ∨ ∃ dx fs, d = some dx ∧ H dx = some (.xd fs)) :
  ∃ oe od, PySem.W.InstAt s.heap a oe C od ∧ (∀ dx fs, d = some dx → H dx = some (.xd fs) → ∃ ob, od = some ob ∧ ∃ mA, s.heap.Ns1 dx mA ∧ s.heap.get? dx = some ob ∧ ∀ f, RelO (fs.lookup f) (mA f)) := by
 obtain ⟨⟨oe, vs, h1, h2, h3, h4⟩, _, _⟩ := I.hok a _ h
 have nc : PySem.W.notCls oe = true := by unfold PySem.W.notCls; rw [h4] <;> rfl
 rcases hd with e | ⟨dx, fs, e, hx⟩
 ·refine ⟨oe, none, ⟨h1, h2, nc, by rw [h3, e]; trivial⟩, fun dx fs e2 _ => ?_⟩
  rw [e] at e2; cases e2
 ·have hx' : ObjOk X.prog X.w H s.heap dx (.xd fs) := I.hok dx _ hx
  obtain ⟨mA, hns, hr⟩ := hx'
  obtain ⟨od, ho, _⟩ := lookIn_ns hns
  refine ⟨oe, some od, ⟨h1, h2, nc, by rw [h3, e]; exact ho⟩, fun dx' fs' e2 hx2 => ?_⟩
  rw [e] at e2
  cases e2
  rw [hx] at hx2
  cases hx2
  exact ⟨od, rfl, mA, hns, ho, hr⟩
def rIsE (K : PySem.W.Frag) : List V → Hp → VK → Prop := fun xs H Q => ∃ (a C : Addr) (d : Option Addr) (c : V) (cv : Value) (b : Bool), xs = [.ref a, c] ∧ (∀ u, RelV c u → u = cv) ∧ H a = some (ExK a C d) ∧ (d = none ∨ ∃ dx fs, d = some dx ∧ H dx = some (.xd fs)) ∧ L2.ExcC K C ∧ PySem.W.kitOne K (.ref C) cv = some b ∧ Q (.bl b) H
theorem call_isE {X : Cx} : CallR X (.builtin "isinstance") (rIsE X.K) := by
 intro pins s σ H xs us Q I r hyp
 obtain ⟨a, C, d, c, cv, b, rfl, only, ha, hd, hC, ek, q⟩ := hyp
 cases r with
 | cons r1 rr =>
  cases rr with
  | cons r2 rr =>
   cases rr
   cases r1
   have ec := only _ r2
   subst ec
   obtain ⟨oe, od, inst, _⟩ := agS I ha hd
   exact PySem.W.kia_one (ac8 hC) I.kIn inst ek (fun z => nomatch z) fun tk => ⟨.bl b, H, I.kept (t' := tk) fun _ _ z => z, rfl, q⟩
def DK : PyData → String
 | .none => "NoneType"
 | .bool _ => "bool"
 | .int _ => "int"
 | .str _ => "str"
 | .list _ => "list"
 | .tuple _ => "tuple"
 | .dict _ => "dict"
inductive TyY (K : PySem.W.Frag) (H : Hp) : V → Value → Prop where
 | x {u : V} {t : Value} (h : TyX K H u t) : TyY K H u t
 | fT {a : Addr} {o : Obj} {kvs : List (List Key × V)} (e : H a = some (.frz o (.dT kvs))) : TyY K H (.ref a) (.type "dict")
theorem ae2 {X : Cx} {pins : List (Addr × Obj)} {σ : L2.St} {H : Hp} {s : Shared} {x : V} {u t : Value} (I : Inv X pins σ H s) (rx : RelV x u) (ty : TyY X.K H x t) : ∃ P : Heap → Prop, PySem.W.KitX X.K u t P ∧ P s.heap ∧ u ≠ .builtin "__main__.__loader__#opaque" := by
 cases ty with
 | x h => exact kit_of I rx h
 | @fT a ob kvs ea =>
  cases (show u = Value.ref a from rx)
  obtain ⟨_, _, _, _, _, o, _, _, h1, h2, _⟩ := I.hok a _ ea
  exact ⟨_, PySem.W.kitx_dict, ⟨o, h1, h2.1⟩, fun z => nomatch z⟩
def ago (K : PySem.W.Frag) : List V → Hp → VK → Prop := fun xs H Q => ∃ (x c : V) (t u : Value) (b : Bool), xs = [x, c] ∧ ClsV c u ∧ TyY K H x t ∧ PySem.W.kitOne K t u = some b ∧ Q (.bl b) H
theorem acd {X : Cx} : CallR X (.builtin "isinstance") (ago X.K) := by
 intro pins s σ H xs us Q I r h
 obtain ⟨x, c, t, u, b, rfl, k, ty, e, q⟩ := h
 obtain ⟨u1, u2, rfl, r1, r2⟩ := vals2 r
 obtain rfl := k.eq r2
 obtain ⟨P, Z, p, hx⟩ := ae2 I r1 ty
 exact PySem.W.kia_one Z I.kIn p e hx fun tk => ⟨.bl b, H, I.tok tk, rfl, q⟩
def isXD : PyData → Bool
 | .dict kvs => isX kvs
 | _ => false
theorem agk {K : PySem.W.Frag} {H : Hp} {u : V} {p : PyData} (h : Rep K H u p) (hn : isXD p = false) : TyY K H u (.type (DK p)) := by
 cases h with
 | exc _ _ _ _ _ => cases hn
 | exc0 _ _ => cases hn
 | non => exact .x (.base .non)
 | bl b => exact .x (.base (.bl b))
 | int b => exact .x (.base (.int b))
 | str b => exact .x (.base (.str b))
 | lst hs => exact .x (.base (.lst hs))
 | tup hs => exact .x (.base (.tup hs))
 | dcK hr => exact hr.elim (fun h => .x (.base (.dK h))) fun ⟨_, _, h⟩ => .x (.fDict h)
 | dcT hr => exact hr.elim (fun h => .x (.base (.dT h))) fun ⟨_, _, h⟩ => .fT h
def isiB (t c : String) : Bool := t == c || (t == "bool" && c == "int")
def ae5 (t c : String) : Bool := ["NoneType", "bool", "int", "str", "list", "tuple", "dict"].contains t && ["bool", "int", "str", "list", "tuple", "dict"].contains c
theorem ae4 {t c : String} (h : ae5 t c = true) : kitB t c = some (isiB t c) := by
 have key : (["NoneType", "bool", "int", "str", "list", "tuple", "dict"].all fun t => ["bool", "int", "str", "list", "tuple", "dict"].all fun c => kitB t c == some (isiB t c)) = true := by decide +kernel
 simp only [ae5, Bool.and_eq_true] at h
 have h1 := List.all_eq_true.mp key t (List.contains_iff_mem.mp h.1)
 have h2 := List.all_eq_true.mp h1 c (List.contains_iff_mem.mp h.2)
 simpa using h2
theorem aaJ (p : PyData) : ["NoneType", "bool", "int", "str", "list", "tuple", "dict"].contains (DK p) = true := by cases p <;> simp only [DK] <;> decide
def gIsi (c : String) : Va → Option Va
 | .d p => if c = "dict" ∧ isXD p = true then none else some (vB (isiB (DK p) c))
 | _ => none
theorem ace {X : Cx} {f : Value} {r r' : List V → Hp → VK → Prop} (h : CallR X f r) (h' : CallR X f r') : CallR X f (fun xs H Q => r xs H Q ∨ r' xs H Q) := fun pins s σ H xs us Q I rr q => q.elim (h pins s σ H xs us Q I rr) (h' pins s σ H xs us Q I rr)
theorem Ua {X : Cx} {ew : WX} {fl : Bool} {e : Expr} {f : DF} {T : Str} {c : String} {p p2 pos : Pos} (hg : Gl X "isinstance") (hm : X.mg "isinstance" = none) (hgT : Gl X T) (hmT : X.mg T = none) (hvT : bootBuiltins T = some (.type c)) (hc : ["bool", "int", "str", "list", "tuple", "dict"].contains c = true) (h : E X ew fl e f)
  (hn : T ≠ "__name__" := by decide) (hd : (T == ("__debug__" : Str)) = false := by decide)
  (he : starEach [e, .Name T p2] X.env = (false, eval e X.env) :: starEach [.Name T p2] X.env := by rfl) (he2 : starEach [.Name T p2] X.env = (false, eval (.Name T p2) X.env) :: starEach [] X.env := by rfl) (hpl : (backTo pos (starEach [.Name T p2] X.env)).any (·.1) = false := by rfl) :
  E X ew fl (.Call (.Name "isinstance" p) [e, .Name T p2] [] pos) (c1 (gIsi c) f) :=
 Bf (pe_callB (ace acd call_isE) hg hm (by decide +kernel) (pa_cons h (pa_cons (pe_bltn hgT hmT hvT (v := .ty c) rfl hn hd) pa_nil he2) he) (by decide) (by decide) he hpl) fun σ H Q h => acA (C := ⟨X.K, X.mg, ew⟩) (r := fun x H1 Q => ago X.K [x, .ty c] H1 Q ∨ rIsE X.K [x, .ty c] H1 Q) (VB fun Nu φ H u v w Q m h e q => by
  unfold gIsi at e
  split at e
  ·rename_i p
   split at e
   ·cases e
   rename_i hne
   cases e
   have h : Rep X.K (hz Nu H) u p := h
   cases hxd : isXD p with
   | false =>
    refine .inl ⟨u, .ty c, .type (DK p), .type c, _, rfl, .ty c, agk (h.ext Dq) hxd, kit_ty (ae4 ?_), q H _ Ext.refl (.bl _)⟩
    simp only [ae5, Bool.and_eq_true]
    exact ⟨aaJ p, hc⟩
   | true =>
    have hcd : ¬ c = "dict" := fun z => hne ⟨z, hxd⟩
    have hc5 : c ∈ ["bool", "int", "str", "list", "tuple"] := by
     have := List.contains_iff_mem.mp hc
     simp only [List.mem_cons, List.not_mem_nil, or_false] at this ⊢
     rcases this with z | z | z | z | z | z
     ·exact .inl z
     ·exact .inr (.inl z)
     ·exact .inr (.inr (.inl z))
     ·exact .inr (.inr (.inr (.inl z)))
     ·exact .inr (.inr (.inr (.inr z)))
     ·exact absurd z hcd
    have hB : isiB (DK p) c = false := by
     cases p with
     | dict kvs =>
      simp only [DK, isiB]
      simp only [List.mem_cons, List.not_mem_nil, or_false] at hc5
      rcases hc5 with rfl | rfl | rfl | rfl | rfl <;> decide
     | _ => cases hxd
    rw [hB] at q
    have h := h.ext Dq
    cases h with
    | exc hk ha hd _ _ => exact .inr ⟨_, _, _, _, _, false, rfl, fun u z => (ClsV.ty c).eq z, ha, .inr ⟨_, _, rfl, hd⟩, hk.ex, hk.no c hc5, q H _ Ext.refl (.bl _)⟩
    | exc0 hk ha => exact .inr ⟨_, _, _, _, _, false, rfl, fun u z => (ClsV.ty c).eq z, ha, .inl rfl, hk.ex, hk.no c hc5, q H _ Ext.refl (.bl _)⟩
    | dcK hr hk =>
     cases hk with
     | nil => cases hxd
     | @cons k _ _ _ _ _ _ => cases k <;> cases hxd
    | dcT hr hk =>
     cases hk with
     | nil => cases hxd
     | cons _ _ => cases hxd
    | _ => cases hxd
  ·cases e) h
def hIx : PyData → PyData → Option PyData
 | .list xs, .int i => atI xs i
 | .tuple xs, .int i => atI xs i
 | .str z, .int i => if z.length ≤ sizeLine then (atI z.cps.toList i).map fun c => .str ⟨#[c]⟩ else none
 | _, _ => none
def gIx : Va → Va → Option Va := gDD hIx
theorem aa4 {K : PySem.W.Frag} {Z : Hp} {us : List V} {xs : List PyData} {i : Int} {p : PyData} (h : Af K Z us xs) (e : atI xs i = some p) : ∃ v, atI us i = some v ∧ Rep K Z v p := by
 unfold atI at e ⊢
 rw [h.length]
 obtain ⟨j, e1, e2⟩ := Option.bind_eq_some_iff.mp e
 obtain ⟨v, h1, h2⟩ := h.get e2
 exact ⟨v, by rw [e1]; exact h1, h2⟩
theorem aeD {K : PySem.W.Frag} : Gz K (rIx K) gIx := Gp fun Nu φ H u u2 v v2 w Q m h1 h2 e q => by
 obtain ⟨a, b, r, rfl, rfl, e1, rfl⟩ := Ny e
 unfold hIx at e1
 split at e1
 ·cases h2
  cases h1 with
  | lst hs l rr =>
   obtain ⟨v, g1, g2⟩ := aa4 rr e1
   exact .inl ⟨_, _, _, v, rfl, rfl, SqL.of (Aj.mp hs).2, g1, q H v Ext.refl g2⟩
 ·cases h2
  cases h1 with
  | tup hs l rr =>
   obtain ⟨v, g1, g2⟩ := aa4 rr e1
   exact .inr (.inl ⟨_, _, _, v, rfl, rfl, SqT.of (Aj.mp hs).2, g1, q H v Ext.refl g2⟩)
 ·split at e1
  ·rename_i hl
   obtain ⟨c, e2, e3⟩ := Option.map_eq_some_iff.mp e1
   subst e3
   cases h1; cases h2
   exact .inr (.inr ⟨_, _, c, rfl, rfl, hl, e2, q H _ Ext.refl (.str _)⟩)
  ·cases e1
 ·cases e1
theorem e_ix {X : Cx} {ew : WX} {fl : Bool} {a b : Expr} {fa fb : DF} {pos : Pos} (ha : E X ew fl a fa) (hb : E X ew fl b fb) (hs : PlainIx b := by intro _ _; rfl) : E X ew fl (.Subscript a b pos) (c2 gIx fa fb) :=
 Bf (pe_ix ix_seq ha hb hs) fun _ _ _ h => aaN aeD h
def cutD {α : Type} (xs : List α) (lo hi : Option Int) : List α := (xs.drop (HT.sIx xs.length 0 lo)).take (HT.sIx xs.length xs.length hi - HT.sIx xs.length 0 lo)
theorem Lp {α : Type} (xs : List α) (lo hi : Option Int) : (cutD xs lo hi).length ≤ xs.length := by
 unfold cutD
 rw [List.length_take, List.length_drop]
 omega
theorem aa3 {K : PySem.W.Frag} {Z : Hp} {us : List V} {xs : List PyData} (h : Af K Z us xs) (lo hi : Option Int) : Af K Z (cutV us lo hi) (cutD xs lo hi) := by
 unfold cutV cutD
 rw [h.length]
 exact (h.drop _).take _
def Ux (f : Option DF) : En → M (Option Int) := fun env => match f with
 | none => ret none
 | some g => bnd (g env) fun v => bnd (ofO v.asI) fun i => ret (some i)
def tIP (C : Ct) (fl : Bool) (f : En → M (Option Int)) : TO := fun σ H Q => ∃ W φ own env S, Rel C.K W φ own env S σ H ∧
 (f env S).sat (fun o S' => ∀ φ' H', Rel C.K W φ' own env S' σ H' → Kp φ H φ' H' → Q o H') (fun x S' => ∀ φ' H', Rel C.K W φ' own env S' σ H' → Kp φ H φ' H' → Kh C (Mu W.G φ' own) σ H' x)
def EPt (X : Cx) (ew : WX) (fl : Bool) (e : Option Expr) (f : Option DF) : Prop := PO X e (tIP ⟨X.K, X.mg, ew⟩ fl (Ux f))
theorem abg {X : Cx} {e : Option Expr} {t t' : TO} (h : PO X e t) (i : ∀ σ H Q, t' σ H Q → t σ H Q) : PO X e t' := ⟨fun pins s σ H Q I q => h.run pins s σ H Q I (i _ _ _ q)⟩
theorem Ln {X : Cx} {ew : WX} {fl : Bool} : EPt X ew fl none none := abg po_none fun σ H Q h => by
 obtain ⟨W, φ, own, env, S, r, h⟩ := h
 exact h φ H r Kp.refl
theorem Lk {X : Cx} {ew : WX} {fl : Bool} {e : Expr} {f : DF} (h : E X ew fl e f) : EPt X ew fl (some e) (some f) := abg (po_some h) fun σ H Q h => by
 obtain ⟨W, φ, own, env, S, r, h⟩ := h
 refine ⟨W, φ, own, env, S, r, (Ad.mp h).mono (fun v S1 q φ1 H1 u r1 k1 v1 => ?_) fun _ _ q => q⟩
 obtain ⟨i, e1, q1⟩ := Aq.mp (Ad.mp q)
 obtain rfl := ZQ e1
 cases v1
 exact ⟨i, rfl, q1 φ1 H1 r1 k1⟩
def eSl (g : Va → Option Int → Option Int → Option Va) (f : DF) (lo hi : Option DF) : DF := fun env => bnd (f env) fun v => bnd (Ux lo env) fun a => bnd (Ux hi env) fun b => ofO (g v a b)
def adI (K : PySem.W.Frag) (r : V → Option Int → Option Int → Hp → VK → Prop) (g : Va → Option Int → Option Int → Option Va) : Prop :=
 ∀ Nu φ H u v lo hi w Q, MuOk Nu H → VRep K Nu φ H u v → g v lo hi = some w → (∀ H' u', Ext H H' → VRep K Nu φ H' u' w → Q u' H') → r u lo hi H Q
theorem ahO {C : Ct} {fl : Bool} {σ : L2.St} {H : Hp} {Q : VK} {f : DF} {lo hi : Option DF} {g : Va → Option Int → Option Int → Option Va} {r : V → Option Int → Option Int → Hp → VK → Prop} (pr : adI C.K r g) (h : tI C fl (eSl g f lo hi) σ H Q) : tSl r (tI C fl f) (tIP C fl (Ux lo)) (tIP C fl (Ux hi)) σ H Q := by
 obtain ⟨W, φ, own, env, S, r0, h⟩ := h
 refine ⟨W, φ, own, env, S, r0, (Ad.mp h).mono (fun v S1 q φ1 H1 u r1 k1 v1 => ?_) fun _ _ q => q⟩
 refine ⟨W, φ1, own, env, S1, r1, (Ad.mp q).mono (fun a S2 q φ2 H2 r2 k2 => ?_) fun x S' q φ' H' r' k' => q φ' H' r' (k1.trans k')⟩
 refine ⟨W, φ2, own, env, S2, r2, (Ad.mp q).mono (fun b S3 q φ3 H3 r3 k3 => ?_) fun x S' q φ' H' r' k' => q φ' H' r' ((k1.trans k2).trans k')⟩
 obtain ⟨w, e, q⟩ := Aq.mp q
 exact pr (Mo fl W.G φ3 own) φ3 H3 u v a b w Q (r3.muo fl) ((v1.keep k2).keep k3) e fun H' u' ee vv => q φ3 H' u' (r3.grow ee) (((k1.trans k2).trans k3).trans (Kp.ext ee)) vv
theorem e_sl {X : Cx} {ew : WX} {fl : Bool} {e : Expr} {lo hi : Option Expr} {f : DF} {fa fb : Option DF} {p2 pos : Pos} {g : Va → Option Int → Option Int → Option Va} {r : V → Option Int → Option Int → Hp → VK → Prop} (hr : SlR X r) (pr : adI X.K r g) (he : E X ew fl e f) (hl : EPt X ew fl lo fa) (hu : EPt X ew fl hi fb) :
  E X ew fl (.Subscript e (.Slice lo hi none p2) pos) (eSl g f fa fb) := Bf (pe_slice hr he hl hu) fun _ _ _ h => ahO pr h
def gSlL : Va → Option Int → Option Int → Option Va
 | .d (.list xs), a, b => some (.d (.list (cutD xs a b)))
 | .s ns, a, b => if ns.length ≤ 1000 then some (.d (.list ((cutD ns a b).map PyData.int))) else none
 | _, _, _ => none
theorem adB (ns : List Int) (a b : Option Int) : cutV (ns.map V.int) a b = (cutD ns a b).map V.int := by
 unfold cutV cutD
 rw [List.length_map, List.map_take, List.map_drop]
theorem acN {K : PySem.W.Frag} : adI K (rSlL K) gSlL := fun Nu φ H u v lo hi w Q m h e q => by
 unfold gSlL at e
 split at e
 ·cases e
  cases h with
  | lst hs l r =>
   refine ⟨_, _, rfl, SqL.of (Aj.mp hs).2, fun p hp => q _ _ (Ext.upd hp) ?_⟩
   obtain ⟨n1, n2⟩ := Es (K := K) m hp
   exact .lst n2 (Nat.le_trans (Lp _ _ _) l) (aa3 (r.ext n1) _ _)
 ·split at e
  ·rename_i hl
   cases e
   obtain ⟨a, rfl, hs⟩ := h
   refine ⟨_, _, rfl, Ef Dq hs, fun p hp => q _ _ (Ext.upd hp) ?_⟩
   obtain ⟨n1, n2⟩ := Es (K := K) (o := .lst (cutV _ lo hi)) m hp
   refine .lst n2 ?_ (by rw [adB]; exact .ofInts)
   rw [List.length_map]
   have := Lp ‹List Int› lo hi
   rw [sizeLine_eq]
   omega
  ·cases e
 ·cases e
def maxI (n : Int) (ns : List Int) : Int := ns.foldl (fun a y => if a < y then y else a) n
theorem Zk : ∀ (ns : List Int) (n : Int), maxI n ns ∈ n :: ns
 | [], n => by simp [maxI]
 | y :: r, n => by
  show maxI (if n < y then y else n) r ∈ _
  have := Zk r (if n < y then y else n)
  rcases List.mem_cons.mp this with e | e
  ·rw [e]; split <;> simp
  ·exact List.mem_cons_of_mem _ (List.mem_cons_of_mem _ e)
theorem abp : ∀ (ns : List Int) (n : Int), ∀ y ∈ n :: ns, y ≤ maxI n ns
 | [], n, y, h => by simp at h; rw [h]; simp [maxI]
 | z :: r, n, y, h => by
  show y ≤ maxI (if n < z then z else n) r
  have ih := abp r (if n < z then z else n)
  have h0 := ih _ List.mem_cons_self
  have h1 : n ≤ (if n < z then z else n) ∧ z ≤ (if n < z then z else n) := by split <;> omega
  rcases List.mem_cons.mp h with e | h
  ·rw [e]; omega
  ·rcases List.mem_cons.mp h with e | h
   ·rw [e]; omega
   ·exact ih y (List.mem_cons_of_mem _ h)
def aez (K : PySem.W.Frag) : List V → Hp → VK → Prop := fun vs H Q => ∃ (a : Addr) (n : Int) (ns : List Int), vs = [V.ref a] ∧ SqT K H a ((n :: ns).map V.int) ∧ Q (.int (maxI n ns)) H
theorem Wh {X : Cx} {f : Value} {r r' : List V → Hp → VK → Prop} (h : CallR X f r) (h' : CallR X f r') : CallR X f (fun xs H Q => r xs H Q ∨ r' xs H Q) := by
 intro pins s σ H xs us Q I rx q
 rcases q with q | q
 ·exact h pins s σ H xs us Q I rx q
 ·exact h' pins s σ H xs us Q I rx q
theorem VM : ∀ (ns : List Int) (n : Int), PySem.W.maxD (.int n) (ns.map PyData.int) = .int (maxI n ns)
 | [], n => rfl
 | y :: r, n => by
  show PySem.W.maxD (if PySem.W.dataLt (.int n) (.int y) = true then .int y else .int n) (r.map PyData.int) = .int (maxI (if n < y then y else n) r)
  rw [PySem.W.dataLt_int]
  by_cases h : n < y
  ·rw [if_pos (decide_eq_true h), if_pos h]; exact VM r y
  ·rw [if_neg (by simpa using h), if_neg h]; exact VM r n
theorem depth_ints : ∀ ns : List Int, PyData.depthAll (ns.map PyData.int) = 0
 | [] => rfl
 | n :: ns => by
  show max (PyData.depth (.int n)) (PyData.depthAll (ns.map PyData.int)) = 0
  rw [depth_ints ns]; rfl
theorem afw {X : Cx} (hc : X.calm = true) (hu : X.A.units + 64 < cLine) : CallR X (.builtin "max") (aez X.K) := by
 intro pins s σ H xs us Q I r h
 obtain ⟨a, n, ns, rfl, hs, q⟩ := h
 obtain ⟨its, rv, ht, _⟩ := I.tuple hs
 rw [Vals.ref1 r]
 have hd : DpAll X.K H ((n :: ns).map V.int) ((n :: ns).map PyData.int) := by
  generalize n :: ns = l
  induction l with
  | nil => exact .nil
  | cons x l ih => exact .cons (.int x) ih
 obtain ⟨as, rr⟩ := Dp.readsAll I _ _ _ hd rv
 refine PySem.W.max_tuple_data (x := .int n) (xs := ns.map PyData.int) (as := as) (I.ok.hd hc) (show s.heap.IsTuple a its.toArray from ht) (by simpa using rr) ⟨fun x hx y hy => ?_, fun x hx => ?_⟩ ?_ fun i v h' tk bs hv rd hk => ?_
 ·have hx' : ∃ i, x = .int i := by
   rcases List.mem_cons.mp hx with e | e
   ·exact ⟨n, e⟩
   ·obtain ⟨i, _, rfl⟩ := List.mem_map.mp e; exact ⟨i, rfl⟩
  have hy' : ∃ i, y = .int i := by
   rcases List.mem_cons.mp hy with e | e
   ·exact ⟨n, e⟩
   ·obtain ⟨i, _, rfl⟩ := List.mem_map.mp e; exact ⟨i, rfl⟩
  obtain ⟨i, rfl⟩ := hx'
  obtain ⟨j, rfl⟩ := hy'
  rfl
 ·rcases List.mem_cons.mp hx with e | e
  ·rw [e]; exact fun z => by cases z
  ·obtain ⟨i, _, rfl⟩ := List.mem_map.mp e; exact fun z => by cases z
 ·rw [show (PyData.int n :: ns.map PyData.int) = (n :: ns).map PyData.int from rfl, depth_ints]
  omega
 ·rw [VM] at rd
  cases rd
  exact ⟨.int _, H, I.kept hk, ⟨_, rfl⟩, q⟩
theorem QD {X : Cx} (hc : X.calm = true) (hu : X.A.units + 64 < cLine) : CallR X (.builtin "max") (fun xs H Q => rMax X.K xs H Q ∨ aez X.K xs H Q) := Wh (cr_max hc) (afw hc hu)
def hMax : Va → Option Va
 | .d p => (seqD p).bind fun xs => match Oe xs with
  | some (n :: ns) => some (.d (.int (maxI n ns)))
  | _ => none
 | _ => none
theorem Nh {K : PySem.W.Frag} : Kl K (fun xs H Q => rMax K xs H Q ∨ aez K xs H Q) (on1 hMax) := Hu fun Nu φ H u v w Q m h e q => by
 unfold hMax at e
 split at e
 ·rename_i p
  obtain ⟨xs, e1, e2⟩ := Option.bind_eq_some_iff.mp e
  split at e2
  ·rename_i n ns e3
   cases e2
   have := Oz e3
   subst this
   have h : Rep K (hz Nu H) u p := h
   cases p <;> simp [seqD] at e1
   ·subst e1
    cases h with
    | lst hs l r =>
     have := Af.ints (ns := n :: ns) r
     subst this
     refine .inl ⟨_, n :: ns, rfl, SqL.of (Aj.mp hs).2, by simp, fun k hk hmax => ?_⟩
     have ek : k = maxI n ns := by
      have h1 := abp ns n k hk
      have h2 := hmax _ (Zk ns n)
      omega
     rw [ek]
     exact q H _ Ext.refl (.int _)
   ·subst e1
    cases h with
    | tup hs l r =>
     have := Af.ints (ns := n :: ns) r
     subst this
     exact .inr ⟨_, n, ns, rfl, SqT.of (Aj.mp hs).2, q H _ Ext.refl (.int _)⟩
  ·cases e2
 ·cases e
def Va.Wl : Va → Option (List PyData)
 | .d (.list xs) => some xs
 | _ => none
def adZ (xs : List PyData) : Va → Option Va
 | .d d => if inOk d xs = true then (xs.findIdx? fun y => PyData.eqv y d).map fun (j : Nat) => .d (.int (j : Int)) else none
 | _ => none
def ahb (fo f : DF) : DF := fun env => bnd (fo env) fun v => bnd (ofO v.Wl) fun xs => bnd (f env) fun w => ofO (adZ xs w)
def gTRg : Va → Option Va
 | .d (.int n) => if -16777216 ≤ n ∧ n ≤ 16777216 then some (.d (.tuple (rngL 0 n))) else none
 | _ => none
theorem aew {K : PySem.W.Frag} {Z : Hp} (a b : Int) : Af K Z (rgV a b) (rngL a b) := by
 unfold rgV rngL
 generalize List.range (b - a).toNat = l
 induction l with
 | nil => exact .nil
 | cons x l ih => exact .cons (.int _) ih
theorem acI (a b : Int) : (rngL a b).length = (b - a).toNat := by simp [rngL]
theorem YC {X : Cx} {ew : WX} {fl : Bool} {a : Expr} {f : DF} {p p2 pos pos2 : Pos} (hc : X.calm = true) (hg : Gl X "tuple") (hm : X.mg "tuple" = none) (hg2 : Gl X "range") (hm2 : X.mg "range" = none) (h : E X ew fl a f)
  (na : starEach [a] X.env = (false, eval a X.env) :: starEach [] X.env := by rfl) (na2 : starEach [.Call (.Name "range" p2) [a] [] pos2] X.env = (false, eval (.Call (.Name "range" p2) [a] [] pos2) X.env) :: starEach [] X.env := by rfl) :
  E X ew fl (.Call (.Name "tuple" p) [.Call (.Name "range" p2) [a] [] pos2] [] pos) (c1 gTRg f) :=
 Bf (pe_tupRg hc hg hm (prg_1 hg2 hm2 h na) na2) fun σ H Q h => acA (C := ⟨X.K, X.mg, ew⟩) (r := fun x H1 Q => ∃ n, x = .int n ∧ RgOk 0 n ∧ ∀ q, H1 q = none → Q (.ref q) (upd H1 q (.tup (rgV 0 n)))) (VB fun Nu φ H u v w Q m h e q => by
  unfold gTRg at e
  split at e
  ·split at e
   ·rename_i n hl
    cases e; cases h
    refine ⟨_, rfl, ⟨by omega, by omega, by omega, by omega, by omega⟩, fun p hp => q _ _ (Ext.upd hp) ?_⟩
    obtain ⟨n1, n2⟩ := Es (K := X.K) (o := .tup (rgV 0 n)) m hp
    exact .tup n2 (by rw [acI, sizeLine_eq]; omega) (aew _ _)
   ·cases e
  ·cases e) h
def aiu (f : DF) : DLs := fun env => bnd (f env) fun v => ofO (Rh v)
def fCat (f g : DF) : DLs := fun env => bnd (f env) fun v => bnd (ofO v.Wl) fun a => bnd (g env) fun w => bnd (ofO w.Wl) fun b => if a.length + b.length ≤ sizeLine then ret (a ++ b) else no
def nmL (i : Nat) : DLs := fun env => ofO ((lk env i).bind Sv.asL1)
def dtL (f : DF) : DLs := fun env => bnd (f env) fun v => ofO v.Wl
def aiy (f g : DLs) : DLs := fun env => bnd (f env) fun a => bnd (g env) fun b => if a.length + b.length ≤ sizeLine then ret (a ++ b) else no
theorem abx {P : Program} {w : World} {K : PySem.W.Frag} {mg mb : Str → Option Value} {CX : CXT} {k : Nat} {fa a : Addr} {fd : FuncData} {x : Str} {sp : Sp} {s₁ : Shared} {vs : List Value} {ns : List Int}
  (KX : K.In s₁.heap) (hns : s₁.heap.Ns mainGlobals mg) (hb : s₁.heap.Ns builtinsNs mb) (hbb : ∀ x : Str, x ≠ "__name__" → mb x = bootBuiltins x) (hlim : s₁.heap.NoLimit) (hg : s₁.gens = #[])
  (ha : s₁.heap.get? a = some { cls := .type "list", data := .seq vs.toArray }) (hi : IntsAre vs ns) (hl : ns.length ≤ sizeLine) (hr : Room k callerA)
  (F : ∀ base : Heap, K.In base → base.Ns mainGlobals mg → FnG P w K mg base CX k fa fd [x] sp) (hbind : ∀ (s : Shared) (u : Value), BindsTo s fd ⟨[u], []⟩ [(x, u)])
  (hsp : ∀ H : Hp, Only H → SqL K H a (ns.map V.int) → sp [.ref a] H (fun v _ => v = .bl true) fun _ _ _ => False)
  (hCX : ∀ H e s', CX [] H s₁ (fun _ _ _ => False) e s' → False) :
  codeAny (model P w) callerA (.call (.ref fa) ⟨[.ref a], []⟩) (fun r s' => r = .ok (.ret (.bool true)) ∧ OldK s₁.heap s'.heap ∧ s'.os = s₁.os ∧ AllBare s'.gens) s₁ := by
 have go : ∀ H : Hp, Only H → SqL K H a (ns.map V.int) → HOk P w H s₁.heap → (∀ b, H b ≠ none → b = a) → (H a ≠ none → K.lookup a = none) →
   codeAny (model P w) callerA (.call (.ref fa) ⟨[.ref a], []⟩) (fun r s' => r = .ok (.ret (.bool true)) ∧ OldK s₁.heap s'.heap ∧ s'.os = s₁.os ∧ AllBare s'.gens) s₁ := by
  intro H hO hS hok hA hK
  have isA : ∀ {b : Addr} {u : HO}, H b = some u → b = a := fun {b u} q => hA b (by rw [q]; simp)
  have free : ∀ {b : Addr} {m : Str → Option Value}, s₁.heap.Ns b m → (hidT s₁.heap H).Ns b m := by
   rintro b m ⟨o, es, ep, e, d, r⟩
   refine ⟨o, es, ep, hidT_get e ?_, d, r⟩
   cases q : H b with
   | none => rfl
   | some u =>
    have := isA q
    subst this
    rw [ha] at e; cases e; cases d
  have kin : K.In (hidT s₁.heap H) := by
   intro b o e
   refine hidT_get (KX b o e) ?_
   cases q : H b with
   | none => rfl
   | some u =>
    have := isA q
    subst this
    rw [hK (by rw [q]; simp)] at e; cases e
  have lim : (hidT s₁.heap H).NoLimit := let ⟨mc, h1, h2⟩ := hlim; ⟨mc, free h1, h2⟩
  have e0 : Env0 P w K mg (hidT s₁.heap H) callerA [] s₁ H := ⟨rfl, ⟨kin, free hns, ⟨mb, free hb, hbb⟩, lim⟩, fun b o e => of_hidT e, Nat.le_of_eq (hidT_size _ _), trivial, (fun b hb => by cases hb), hok, .of_eq hg⟩
  refine codeAny_mono ((F _ kin (free hns)).run callerA [] s₁ H ⟨[.ref a], []⟩ [.ref a] [.ref a] _ _ rfl hr e0 (hbind s₁ (.ref a)) (.cons rfl .nil) (hsp H hO hS)) fun r s' h => ?_
  rcases r with e | fl
  ·exact (hCX H e s' h).elim
  ·cases fl with
   | ret u =>
    obtain ⟨v, H', os, bare, un, hok', r', q⟩ := h
    obtain rfl : v = .bl true := q
    obtain rfl : u = Value.bool true := r'
    refine ⟨rfl, OldK.of_keep fun b o e => ?_, os, bare⟩
    cases q : H b with
    | none => exact un.keep b o e q (fun z => by cases z) (fun z => by cases z)
    | some u =>
     rcases hO b with z | ⟨ob, xs, z⟩
     ·rw [q] at z; cases z
     ·have e1 := (hok b _ z).1
      have e2 := (hok' b _ (un.frzs b _ _ z)).1
      rw [e] at e1
      rw [e1]; exact e2
   | _ => exact False.elim h
 have rv := vals_ints hi
 cases hk : K.lookup a with
 | some o =>
  have e := KX a o hk
  rw [ha] at e
  cases e
  exact go (fun _ => none) (fun _ => .inl rfl) (.inr ⟨_, vs.toArray, _, hk, rfl, rfl, rfl, by rw [List.size_toArray, hi.length]; exact hl, by simpa using rv⟩) (fun b u z => by cases z) (fun b z => absurd rfl z) fun z => absurd rfl z
 | none =>
  refine go (upd (fun _ => none) a (.frz { cls := .type "list", data := .seq vs.toArray } (.lst (ns.map V.int)))) (fun b => ?_) (.inl (.inr ⟨_, upd_same⟩)) (fun b u z => ?_) (fun b z => ?_) fun _ => hk
  ·by_cases e : b = a
   ·exact .inr ⟨_, _, by rw [e]; exact upd_same⟩
   ·exact .inl (upd_ne e)
  ·by_cases e : b = a
   ·rw [e, upd_same] at z
    cases z
    rw [e]
    exact ⟨ha, by rw [List.length_map]; exact hl, vs, _, rv, ha⟩
   ·rw [upd_ne e] at z; cases z
  ·by_cases e : b = a
   ·exact e
   ·exact absurd (upd_ne e) z
theorem ae1 {K : PySem.W.Frag} {mg : Str → Option Value} {F : List Va → M Va} {H : Hp} {a : Addr} {ns : List Int} (hO : Only H) (hS : SqL K H a (ns.map V.int)) (h : ∃ S, F [.s ns] [] = .ok (.d (.bool true)) S) : spD K mg 1 F [.ref a] H (fun v _ => v = .bl true) fun _ _ _ => False := by
 obtain ⟨S, h⟩ := h
 refine ⟨rfl, fun _ => False, [], [.s ns], [], ⟨List.nodup_nil, fun a h => h.elim, fun a h => ?_, rfl, fun n c a h => by simp at h⟩, .cons ⟨a, rfl, Ef (fun b o e => Ey e fun z => ?_) hS⟩ .nil, ?_⟩
 ·rcases h with h | h | ⟨_, h⟩
  ·exact h.elim
  ·cases h
  ·cases h
 ·rcases z with h | h | ⟨_, h⟩
  ·exact h.elim
  ·cases h
  ·cases h
 ·rw [h]
  intro φ' H' u k e hv
  cases hv
  rfl
theorem RepK.length {K : PySem.W.Frag} {Z : Hp} : ∀ {ks : List (Key × V)} {kvs : List (PyData × PyData)}, RepK K Z ks kvs → ks.length = kvs.length
 | _, _, .nil => rfl
 | _, _, .cons h t => by simp [RepK.length t]
theorem RepT.length {K : PySem.W.Frag} {Z : Hp} : ∀ {ks : List (List Key × V)} {kvs : List (PyData × PyData)}, RepT K Z ks kvs → ks.length = kvs.length
 | _, _, .nil => rfl
 | _, _, .cons h t => by simp [RepT.length t]
def Ez : Va → Option Va
 | .d (.dict kvs) => if isX kvs = true then none else some (.d (.int kvs.length))
 | v => hLen v
def agn (K : PySem.W.Frag) : List V → Hp → VK → Prop := fun xs H Q => (∃ x n, xs = [x] ∧ LenV K x H n ∧ Q (V.int ((n : Nat) : Int)) H) ∨ (∃ a kvs, xs = [V.ref a] ∧ Rd H a (.dK kvs) ∧ Q (.int kvs.length) H) ∨ ∃ (a : Addr) (kvs : List (List Key × V)), xs = [V.ref a] ∧ Rd H a (.dT kvs) ∧ Q (.int kvs.length) H
theorem afy {X : Cx} : CallR X (.builtin "len") (fun xs H Q => ∃ a kvs, xs = [V.ref a] ∧ Rd H a (.dK kvs) ∧ Q (.int kvs.length) H) := by
 intro pins s σ H xs us Q I r h
 obtain ⟨a, kvs, rfl, ha, q⟩ := h
 obtain ⟨u, rfl, ru⟩ := vals1 r
 cases ru
 exact d_len I ha fun t s' I' => ⟨.int kvs.length, H, I', ⟨t, rfl⟩, q⟩
theorem afx {X : Cx} : CallR X (.builtin "len") (fun xs H Q => ∃ (a : Addr) (kvs : List (List Key × V)), xs = [V.ref a] ∧ Rd H a (.dT kvs) ∧ Q (.int kvs.length) H) := by
 intro pins s σ H xs us Q I r h
 obtain ⟨a, kvs, rfl, ha, q⟩ := h
 obtain ⟨u, rfl, ru⟩ := vals1 r
 cases ru
 obtain ⟨z, hd, ys, rel, dd⟩ := dt_rd I.hok ha
 have hl : kvs.length = ys.length := Paired.length rel
 have z' : ys.length ≤ sizeLine := by rw [← hl]; exact z
 refine call_len_dictH hd dd (by rw [sizeLine_eq] at z'; omega) ?_
 have q' : Q (.int (ys.length : Nat)) H := by rw [← hl]; exact q
 exact ⟨.int (ys.length : Nat), H, I.tok _, ⟨_, rfl⟩, q'⟩
theorem Do {X : Cx} : CallR X (.builtin "len") (agn X.K) := Wh call_len (Wh afy afx)
theorem Bt {K : PySem.W.Frag} : Kl K (agn K) (on1 Ez) := Hu fun Nu φ H u v w Q m h e q => by
 unfold Ez at e
 split at e
 ·split at e
  ·cases e
  rename_i hnx
  cases e
  cases h with
  | exc _ _ _ _ _ => exact absurd rfl hnx
  | exc0 _ _ => exact absurd rfl hnx
  | dcK hs r => exact .inr (.inl ⟨_, _, rfl, (Qi Dq hs).rd, by rw [r.length]; exact q H _ Ext.refl (.int _)⟩)
  | dcT hs r => exact .inr (.inr ⟨_, _, rfl, (Qi Dq hs).rd, by rw [r.length]; exact q H _ Ext.refl (.int _)⟩)
 ·refine .inl ?_
  have := (acQ (K := K)) Nu φ H [u] [v] w Q m (.cons h .nil) e q
  exact this
theorem CQ {P : Program} {w : World} {K : PySem.W.Frag} {mg : Str → Option Value} {base : Heap} {x qual : Str} {params : Arguments} {body : List Stmt} {scope : Scope} {dvs : List V} {kws : List (Str × V)} {f : Addr} {fd : FuncData} {N ps : List Str} {k : Nat} {g : SF}
  (Fn : FunD K x qual params body scope dvs kws f fd) (Sc : FnScope N ps scope)
  (hbody : ∀ (cdv : Value) (A : Around) (outer : List Env) (s : Shared) (H : Hp) (E : XK), A.guards = some [] → Room k (A.deeper (envOfC qual scope s.heap.objs.size f cdv)) →
   ESs (cxOf CX0 P w K mg base N qual scope f cdv A outer s H E).nox (fun _ _ _ _ => False) body g) :
  FnD P w K mg base CX0 (k + 1) f fd ps (fun ds => noX (runF N.length g ds)) := by
 have hpl : ps.length ≤ N.length := by have := congrArg List.length Sc.pre; rw [List.length_take] at this; omega
 obtain ⟨oc, od, dV, kV, doc, pm, an, cdv, ct, osl, rfl, lk, hcd, _, _⟩ := Fn.ex
 refine ad1 lk hcd Sc (fun vs H Q E h => h.1) fun A outer s H vs Q E hg hr h => ?_
 obtain ⟨hl, G, φ, ds, S, en, hv, h⟩ := h
 refine ⟨_, PSs.nox (hbody cdv A outer s H E hg hr), ⟨G, H, φ⟩, φ, nob, Bj N.length ds, S, WP en hv (by omega), ?_⟩
 have h := Oj (E' := fun _ _ => False) h
 unfold runF at h
 show (g (Bj N.length ds) S).sat _ _
 cases e : g (Bj N.length ds) S with
 | ok p S' =>
  obtain ⟨fl, env'⟩ := p
  rw [e] at h
  cases fl with
  | nx => exact fun φ' own' σ' H' r' => h φ' H' .non r'.base r'.leave .non
  | rt v => exact fun φ' own' σ' H' u r' hu => h φ' H' u r'.base r'.leave hu
  | bk => exact h.elim
  | ct => exact h.elim
  | xc x => exact h.elim
 | exc x S' => rw [e] at h; exact h.elim
 | stuck => rw [e] at h; exact h.elim
theorem aaH {l : PySem.W.OpenLaw} {n k : Nat} {q : Program} {loose : List Str} {XP : (Str → Option Value) → Heap → Prop} {YP : World → Heap → Prop} {d : DefRec} {CX : CXT} {x : Str}
  (hn : l.most = some n) (hn2 : n ≤ sizeLine) (hdf : d.params.defaults = []) (hr : Room k callerA)
  (F : ∀ (w : World) (mg : Str → Option Value) (fa : Addr) (h : Heap), YP w h → h.Ns mainGlobals mg → mg d.name = some (.ref fa) →
   ∃ (K : PySem.W.Frag) (fd : FuncData) (sp : Sp), K.In h ∧ (∀ (s : Shared) (u : Value), BindsTo s fd ⟨[u], []⟩ [(x, u)]) ∧
    (∀ (H : Hp) (a : Addr) (ns : List Int), ns.length ≤ n → (∀ z ∈ ns, Builtin.Int.intBits z ≤ 1048576) → Only H → SqL K H a (ns.map V.int) → sp [.ref a] H (fun v _ => v = .bl true) fun _ _ _ => False) ∧
    ∀ base : Heap, K.In base → base.Ns mainGlobals mg → FnG l.prog w K mg base CX k fa fd [x] sp)
  (hCX : ∀ (H : Hp) (s : Shared) (e : Value) (s' : Shared), CX [] H s (fun _ _ _ => False) e s' → False) :
  PySem.W.WalkO q loose XP YP l.row.toRowW d [] (fun f vs => PySem.call f vs) := by
 refine Att.attach_callB hn hdf fun w s₀ s₁ mg mb fa o pm cd doc a vs ns G Y ho hd hcd hmg hobj hints hlen hbits hg => ?_
 obtain ⟨K, fd, sp, KX, hb, hsp, hF⟩ := F w mg fa _ Y G.T.g hmg
 exact abx KX G.T.g G.T.b G.T.builtins G.T.nolimit hg hobj hints (Nat.le_trans hlen hn2) hr hF hb (fun H hO hS => hsp H a ns hlen hbits hO hS) fun H e s' => hCX H s₁ e s'
section
variable {X : Cx} {ew : WX}
theorem v (i : Nat) {x : Str} {pos : Pos} (hN : X.N[i]? = some x := by rfl) (hv : Vis X.env.scope x := by first | exact Or.inl rfl | exact Or.inr (Or.inl rfl) | exact Or.inr (Or.inr rfl)) (hd : (x == ("__debug__" : Str)) = false := by decide)
  (hcd : (x == ("__classdict__" : Str)) = false := by decide) : E X ew true (.Name x pos) (vT i) := aiz hN hv hd hcd
theorem vf (i : Nat) {x : Str} {pos : Pos} (hN : X.N[i]? = some x := by rfl) (hv : Vis X.env.scope x := by first | exact Or.inl rfl | exact Or.inr (Or.inl rfl) | exact Or.inr (Or.inr rfl)) (hd : (x == ("__debug__" : Str)) = false := by decide)
  (hcd : (x == ("__classdict__" : Str)) = false := by decide) : E X ew false (.Name x pos) (vF i) := agV hN hv hd hcd
theorem gn (i : Nat) {x : Str} {pos : Pos} (hN : X.N.Nodup) (hx : X.N[i]? = some x := by rfl) (hl : Loc X.env.scope x := by first | exact Or.inl rfl | exact Or.inr rfl) (hf : X.fn x = true ∨ X.env.scope.names.lookup x = some .local := by first | exact .inl rfl | exact .inr rfl | assumption) : EG X ew (.Name x pos) [i] (gN i) := afm hN hx hl hf
end
open HandSHeadRun
def RunA (r : OpenRow) (q : Program) (M : Nat) (loose : List PySem.Str) (w : World) : Prop :=
 ∀ os : OsState, (endF (stepQ (denQ tabQ) r.prog w) M r.prog w os).map (fun s => (looksF r.prog (boot_heap w.params) s.abs, seenQ q loose (importedModules r.prog.main.body) (fun s => xlAt q [] s && recOk r.toRowW.records s) s.abs)) = some (true, openGood q loose)
def RunB {α : Type} (r : OpenRow) (ob : SharedT → α) (v : α) (M : Nat) (w : World) : Prop :=
 ∀ os : OsState, (endF (stepQ (denQ tabQ) r.prog w) M r.prog w os).map ob = some v
structure NZ where
 B : String
 newId : String
 initId : String
 tl : List Value
def bVE : NZ := ⟨"ValueError", "ValueError.__new__", "ValueError.__init__", [.type "ValueError", .type "Exception", .type "BaseException", .type "object"]⟩
def Uw (tl : List Value) : List Value → Bool
 | .ref _ :: r => Uw tl r
 | l => l == tl
open He
def clsBody : Stmt → List Stmt
 | .ClassDef (body := b) .. => b
 | _ => []
def ag9 (s : Stmt) (i : Nat) : Stmt := (clsBody s).getD i (.Pass ⟨0, 0, 0, 0⟩)
def oexB (b : NZ) (K : Frag) (C : Addr) : Bool := (match K.lookup C with
 | some ⟨.type "type", _, .cls cd, sl⟩ => (match cd.mro, sl.toList with
  | .ref C' :: bm, [_, _, _, _, some (.builtin n), _] => C' == C && (n == b.newId && (!cd.hasDel && (cd.hasDict && Uw b.tl bm)))
  | _, _ => false)
 | _ => false) && (eqO (findIn K (.ref C) "__setattr__") (some (some (.builtin "object.__setattr__"))) && (decide (subIn K (.ref C) (.type "BaseException") = some true) && (decide (typeIn K (.ref C) = some (.type "type")) && keepIn K (.ref C))))
def agR (K : Frag) (C : Addr) : Bool := eqO (findIn K (.ref C) "__getattribute__") (some (some (.builtin "BaseException.__getattribute__"))) && (eqO (findIn K (.ref C) "__getattr__") (some none) && (decide (subIn K (.ref C) (.type "BaseException") = some true) && (hasDictIn K C &&
 (eqO (findIn K (.ref C) "__class__") (some (some (.builtin "object.__class__"))) && (eqO (specialIn K (.builtin "object.__class__") "__get__") (some (some (.builtin "getset_descriptor.__get__"))) && (decide (takesIn K (.builtin "object.__class__") = some true) && decide (mroIn K C (.type "object") = some true)))))))
structure IniD where
 base : NZ
 cls : Str
 flds : List Str
 qual : Str
 params : Arguments
 body : List Stmt
 scope : Scope
abbrev IniV : Type := Option (Str × Arguments × FuncBody × Scope × Addr × List Str × Addr)
def iA (K : Frag) (x : Str) : Addr := ma K (ga K x) "__init__"
def iniW (K : Frag) (x : Str) : IniV := match K.lookup (iA K x) with
 | some ⟨_, _, .func fd, _⟩ => some (fd.qualname, fd.params, fd.body, fd.scope, fd.globals, fd.closure.map (·.1), fd.builtins)
 | _ => none
def IniD.val (d : IniD) : IniV := some (d.qual, d.params, .stmts d.body, d.scope, mainGlobals, ["__class__"], builtinsNs)
def adG (K : Frag) (cl : List (Str × Addr)) (C : Addr) : Bool := match cl with
 | [(_, cc)] => (match K.lookup cc with
  | some ⟨_, _, .cell (some (.ref D)), _⟩ => decide (D = C)
  | _ => false)
 | _ => false
def adt (K : Frag) (cd : Value) (file : Str) : Bool := match cd with
 | .ref c => (match K.lookup c with
  | some ⟨_, _, .fields vs, _⟩ => (match (vs[2]? : Option Value) with
   | some (.str f _) => file == f
   | _ => false)
  | _ => false)
 | _ => false
def iniB (file : Str) (K : Frag) (d : IniD) : Bool := (match K.lookup (iA K d.cls) with
 | some ⟨_, _, .func fd, _⟩ => codeIn K fd.code d.qual && (adG K fd.closure (ga K d.cls) && (adt K fd.code file && decide (fd.defaults = .none)))
 | _ => false) && (oexB d.base K (ga K d.cls) && (agR K (ga K d.cls) && (xfB K (ga K d.cls) && (d.flds.all (fun f => eqO (findIn K (.ref (ga K d.cls)) f) (some none)) && (decide (mroIn K (ga K d.cls) (.ref (ga K d.cls)) = some true) &&
  (eqO (ks_superIn K (ga K d.cls) (ga K d.cls) "__init__") (some (some (.builtin d.base.initId))) && (decide (subIn K (.ref (ga K d.cls)) (.type d.base.B) = some true) && (eqO (findIn K (.ref (ga K d.cls)) "__init__") (some (some (.ref (iA K d.cls)))) &&
   (decide (typeIn K (.ref (iA K d.cls)) = some (.type "function")) && (eqO (nsIn K cStatics "thirdparty.any") (some none) && eqO (nsIn K mainGlobals d.cls) (some (some (.ref (ga K d.cls))))))))))))))
abbrev AlE : Type := AlD × (Bool × List IniV)
def obsE (fa : List Fa) (fn : List DefD) (ex : Frag → Bool) (is : List IniD) (K : Frag) : AlE := (obsD fa fn K, (ex K, is.map fun d => iniW K d.cls))
def sysB (K : PySem.W.Frag) : Bool := match K.lookup sysModules with
 | some o => decide (o.cls = .type "dict")
 | none => false
theorem agj {r : OpenRow} {q : Program} {H : Hook} {ob : SharedT → H.α} {M : Nat} {loose : List PySem.Str} {w : World} (h1 : RunA r q M loose w) (h2 : RunB r ob (H.val w) M w) : RunEq r q H ob M loose w := fun os => by
 obtain ⟨s, hs, e1⟩ := Option.map_eq_some_iff.mp (h1 os)
 have e2 := h2 os
 rw [hs] at e2 ⊢
 have e2 : ob s = H.val w := Option.some.inj e2
 show some (_, _, ob s) = _
 rw [e2]
 have a := congrArg Prod.fst e1
 have b := congrArg Prod.snd e1
 dsimp only at a b
 rw [a, b]
section
variable {prog : Program} {w : World} {A : Around} {E : Value → Shared → Prop} {s : Shared} {z TI TO T i1 i2 : Addr} {fp1 fp2 : List Addr} {n1 n2 i : Nat} {P1 P2 : Nat → Value → Prop} {St1 St2 : Nat → Heap → Prop} {f : Bool} {oT : Obj}
end
section
variable {prog : Program} {w : World} {A : Around} {R : Result → Shared → Prop} {z TI TO i1 i2 : Addr} {fp1 fp2 : List Addr} {n1 n2 : Nat} {P1 P2 : Nat → Value → Prop} {St1 St2 : Nat → Heap → Prop}
def ZSt (z TI TO i1 i2 L : Addr) (St1 St2 : Nat → Heap → Prop) (i : Nat) (h : Heap) : Prop := IsTupOf2 h TI (.ref i1) (.ref i2) ∧ St1 i h ∧ St2 i h ∧
 ((IsZip h z TI TO .none ∧ ∃ a b, IsTupOf2 h TO a b) ∨ ∃ T f oT, IsZipHeld h z TI TO T f ∧ h.get? T = some oT ∧ T ≠ z ∧ T ≠ i1 ∧ T ≠ i2 ∧ T ≠ L ∧ ∃ oO, h.get? TO = some oO)
def ZAcc (L : Addr) (bad : List Addr) (P1 P2 : Nat → Value → Prop) (acc : Array Value) (i : Nat) (h : Heap) : Prop := acc.size = i ∧ ∀ j, j < i → ∃ T x1 x2, acc[j]? = some (.ref T) ∧ IsTupOf2 h T x1 x2 ∧ P1 j x1 ∧ P2 j x2 ∧ T ∉ bad ∧ L < T ∧ ∀ j', j' < j → acc[j']? ≠ some (.ref T)
theorem ZAcc.keep {L : Addr} {bad : List Addr} {acc : Array Value} {i : Nat} {h h' : Heap} (a : ZAcc L bad P1 P2 acc i h) (k : ∀ c o, c ∉ bad → h.get? c = some o → h'.get? c = some o) : ZAcc L bad P1 P2 acc i h' :=
 ⟨a.1, fun j hj => let ⟨T, x1, x2, e, hT, p1, p2, nb, lt⟩ := a.2 j hj; ⟨T, x1, x2, e, k T _ nb hT, p1, p2, nb, lt⟩⟩
end
section
variable {prog : Program} {w : World} {A : Around} {E : Value → Shared → Prop} {s : Shared} {z TI TO i1 i2 : Addr} {fp1 fp2 : List Addr} {n1 n2 : Nat} {P1 P2 : Nat → Value → Prop} {St1 St2 : Nat → Heap → Prop}
theorem ZSt.up {L : Addr} {i : Nat} {h h' : Heap} (D1 : Draws prog w A i1 fp1 n1 P1 St1) (D2 : Draws prog w A i2 fp2 n2 P2 St2) (hLz : L ≠ z) (hLTI : L ≠ TI) (hLTO : L ≠ TO) (hL1 : L ∉ fp1) (hL2 : L ∉ fp2) (st : ZSt z TI TO i1 i2 L St1 St2 i h) (up : ∀ b o, b ≠ L → h.get? b = some o → h'.get? b = some o) : ZSt z TI TO i1 i2 L St1 St2 i h' := by
 obtain ⟨q1, q2, q3, q4⟩ := st
 refine ⟨up _ _ (Ne.symm hLTI) q1, D1.frame _ _ _ q2 fun b hb o e => up b o (fun x => hL1 (x ▸ hb)) e, D2.frame _ _ _ q3 fun b hb o e => up b o (fun x => hL2 (x ▸ hb)) e, ?_⟩
 rcases q4 with ⟨q, a, b, q'⟩ | ⟨T, f, oT, q, hT, r1, r2, r3, r4, oO, hO⟩
 ·exact .inl ⟨up _ _ (Ne.symm hLz) q, a, b, up _ _ (Ne.symm hLTO) q'⟩
 ·exact .inr ⟨T, f, oT, up _ _ (Ne.symm hLz) q, up _ _ r4 hT, r1, r2, r3, r4, oO, up _ _ (Ne.symm hLTO) hO⟩
end
section
variable {X : Cx} {pins : List (Addr × Obj)} {σ : L2.St} {h' : Heap}
end
def gIsB : Va → Va → Option Va
 | .d (.bool a), .d (.bool b) => some (vB (decide (a = b)))
 | _, _ => none
def adg : Va → Va → Option Va
 | .d (.bool a), .d (.bool b) => some (vB (!decide (a = b)))
 | _, _ => none
theorem acR {K : PySem.W.Frag} : Gz K (fun x y H Q => ∃ a b, x = .bl a ∧ y = .bl b ∧ Q (.bl (decide (a = b))) H) gIsB := Gp fun Nu φ H u u2 v v2 w Q m h1 h2 e q => by
 unfold gIsB at e
 split at e
 ·cases e; cases h1; cases h2
  exact ⟨_, _, rfl, rfl, q H _ Ext.refl (.bl _)⟩
 ·cases e
theorem abb {K : PySem.W.Frag} : Gz K (fun x y H Q => ∃ a b, x = .bl a ∧ y = .bl b ∧ Q (.bl (!decide (a = b))) H) adg := Gp fun Nu φ H u u2 v v2 w Q m h1 h2 e q => by
 unfold adg at e
 split at e
 ·cases e; cases h1; cases h2
  exact ⟨_, _, rfl, rfl, q H _ Ext.refl (.bl _)⟩
 ·cases e
theorem aee {C : Ct} {σ : L2.St} {H : Hp} {D : Ends} {f : DF} (h : tS C (sRet f) D σ H) : tI C false f σ H D.rt := by
 obtain ⟨W, φ, own, env, S, r, h⟩ := h
 refine ⟨W, φ, own, env, S, r, (Cu.mp h).mono (fun v S1 q φ1 H1 u r1 k1 v1 => q φ1 own σ H1 u r1 ?_) fun x S1 q φ1 H1 r1 k1 => q φ1 own σ H1 r1⟩
 exact v1.less fun a z => z.elim .inl fun z => z.elim .inr fun ⟨_, z⟩ => absurd z (by simp [nob])
theorem afk {X : Cx} {ew : WX} {e : Expr} {f : DF} {pos : Pos} (h : E X ew false e f) : ES X ew (.Return (some e) pos) (sRet f) := DY (ps_ret h) fun _ _ _ q => aee q
def Dk.put (d : Dk) (k x : PyData) : Option Dk := match d with
 | .k kvs => match Mf k with
  | some q => if kvs.length < sizeLine then some (.k (putD kvs q x)) else none
  | none => match kvs, G8 k with
   | [], some q => some (.t [(q, x)])
   | _, _ => none
 | .t kvs => match G8 k with
  | some q => if kvs.length < sizeLine then some (.t (putD kvs q x)) else none
  | none => none
def agi (i : Nat) (fk f : DF) : SF := fun env => lift env (f env) fun v => bnd (ofO v.asD) fun x => bnd (ofO ((lk env i).bind Sv.asDD)) fun d => lift env (fk env) fun kv => bnd (ofO kv.asD) fun k => bnd (ofO (d.put k x)) fun d' => ret (.nx, env.set i (some (.dd d')))
def del (H : Hp) (D : Addr) : Hp := fun a => if a = D then none else H a
theorem del_same {H : Hp} {D : Addr} : del H D D = none := if_pos rfl
theorem del_ne {H : Hp} {D a : Addr} (h : a ≠ D) : del H D a = H a := if_neg h
theorem aeb {H : Hp} {D : Addr} {o : HO} (h : H D = some o) : upd (del H D) D o = H := by
 funext a
 by_cases e : a = D
 ·rw [e, upd_same, h]
 ·rw [upd_ne e, del_ne e]
theorem Kp.del {φ φ' : List Addr} {H H' : Hp} {D : Addr} (k : Kp φ H φ' H') : Kp φ (KP.del H D) φ' H' :=
 ⟨k.pre, fun a o n h => by
  by_cases e : a = D
  ·rw [e, del_same] at h; cases h
  ·rw [del_ne e] at h; exact k.keep a o n h, fun a z n => by
  by_cases e : a = D
  ·rw [e, del_same]
  ·rw [del_ne e]; exact k.new a z n⟩
theorem Kp.delR {φ φ' : List Addr} {H H' : Hp} {D : Addr} (hD : H D = none) (k : Kp φ H φ' H') : Kp φ H φ' (KP.del H' D) :=
 ⟨k.pre, fun a o n h => by
  have e : a ≠ D := fun z => by rw [z, hD] at h; cases h
  rw [del_ne e]; exact k.keep a o n h, k.new⟩
theorem Vf {φ φ' : List Addr} {H H' : Hp} {D : Addr} {G : Addr → Prop} (hG : G D) (k : Kp φ (KP.del H D) φ' H') : Ext (hz (Mu G φ nob) H) (hz (Mu G φ' nob) H') := fun a o q => by
 obtain ⟨n, q⟩ := Aj.mp q
 have na : a ∉ φ := fun z => n (.inr (.inl z))
 have ne : a ≠ D := fun z => n (.inl (by rw [z]; exact hG))
 refine Aj.mpr ⟨fun z => ?_, k.keep a o na (by rw [del_ne ne]; exact q)⟩
 rcases z with z | z | ⟨j, z⟩
 ·exact n (.inl z)
 ·have := k.new a z na
  rw [del_ne ne, q] at this; cases this
 ·exact absurd z (by simp [nob])
theorem Rel.back {K : PySem.W.Frag} {W : Wd} {φ φ' : List Addr} {env env' : En} {S S' : Sto} {σ σ' : L2.St} {H H' : Hp} {D : Addr} (hG : W.G D) (r : Rel K W φ nob env S σ H) (r' : Rel K W φ' nob env' S' σ' H') (k : Kp φ (KP.del H D) φ' H') : Rel K W φ' nob env S' σ H' where
 disj := r.disj
 apart := fun j a ha => absurd ha (by simp [nob])
 ndφ := r'.ndφ
 gd := r'.gd
 mu := r'.mu
 len := r.len
 slot := fun j sv hj => by
  obtain ⟨u, h1, h2⟩ := r.slot j sv hj
  exact ⟨u, h1, h2.ext (Vf hG k) k.pre fun a ha => absurd ha (by simp [nob])⟩
 cell := r'.cell
 base := r'.base
 newF := r'.newF
theorem Y7 {α : Type} {r : R α} {P : α → Sto → Prop} (h : r.sat P (fun _ _ => False)) : ∃ a S, P a S := by
 cases r with
 | ok a S => exact ⟨a, S, h⟩
 | exc x S => exact h.elim
 | stuck => exact h.elim
theorem abm {K : PySem.W.Frag} {W : Wd} {φ : List Addr} {own : Nat → List Addr} {env : En} {S : Sto} {σ : L2.St} {H : Hp} (r : Rel K W φ own env S σ H) (sm : ∀ a, Mu W.G φ own a → Mu W.G φ nob a) : own = nob :=
 funext fun j => List.eq_nil_iff_forall_not_mem.mpr fun a z => by
  rcases sm a (.inr (.inr ⟨j, z⟩)) with y | y | ⟨i, y⟩
  ·exact (r.gd a y).2 j z
  ·exact r.apart j a z y
  ·exact absurd y (by simp [nob])
theorem afz {C C' : Ct} (hK : C'.K = C.K) {W : Wd} {φ1 : List Addr} {env : En} {S1 : Sto} {σ : L2.St} {H1 : Hp} {D : Addr} {vs is : List Nat} {J : It} {ps : List PyData} {t : TF} {c : DB} {e : DF} {Z : Hp} {Qf : List PyData → Sto → Prop} {Q : Hp → Prop} {acc0 : List V} {ds0 : List PyData}
  (hvs : ∀ i ∈ is, i ∈ vs) (hW : W.G D) (hD0 : W.H0 D = none) (hHD : H1 D = none) (hQl : ∀ r S, Qf r S → r.length ≤ sizeLine)
  (r1 : Rel C.K W φ1 nob env S1 (wipe σ vs) (upd H1 D (.lst acc0))) (p0 : Af C.K (hz (Mu W.G φ1 nob) (upd H1 D (.lst acc0))) acc0 ds0)
  (it : ItR C.K Z J ps) (hZ : ∀ φ2 S2 H2, Rel C.K W φ2 nob env S2 (wipe σ vs) H2 → Kp φ1 H1 φ2 H2 → Ext Z (hz (Mu W.G φ2 nob) H2))
  (h : (Ox t c e env ps S1).sat (fun r S => Qf (ds0 ++ r) S) (fun _ _ => False))
  (fin : ∀ φ2 S2 H2 acc ds, Rel C.K W φ2 nob env S2 (wipe σ vs) H2 → Kp φ1 H1 φ2 H2 → H2 D = some (.lst acc) → Af C.K (hz (Mu W.G φ2 nob) H2) acc ds → Qf ds S2 → Q H2) :
  ∃ I : Nat → Nat → Hp → Prop, (∃ m, I 0 m (upd H1 D (.lst acc0))) ∧ ∀ i m H, I i m H →
   (J.stop i H ∧ Q H) ∨ (J.go i H ∧ ∃ Nx : Hp → Prop, (∀ H', Nx H' → ∃ m', m' < m ∧ I (i + 1) m' H') ∧ ∀ x H', J.yld i H x H' → tG C' is t x (wipe σ vs) H' fun σ2 H2 => wipe σ2 vs = wipe σ vs ∧ tIB C' c σ2 H2 fun b H3 =>
    if b = true then tI C' true e σ2 H3 fun y H4 => ∃ acc, H4 D = some (.lst acc) ∧ acc.length < sizeLine ∧ Nx (upd H4 D (.lst (acc ++ [y]))) else Nx H3) := by
 let Iv : Nat → Hp → Prop := fun i H => ∃ φ2 S2 acc ds, Rel C.K W φ2 nob env S2 (wipe σ vs) H ∧ Kp φ1 H1 φ2 H ∧ H D = some (.lst acc) ∧ Af C.K (hz (Mu W.G φ2 nob) H) acc ds ∧
  (Ox t c e env (ps.drop i) S2).sat (fun r S' => Qf (ds ++ r) S') (fun _ _ => False)
 refine ⟨fun i m H => i + m = ps.length ∧ Iv i H, ⟨ps.length, by omega, φ1, S1, acc0, ds0, r1, ⟨List.prefix_refl _, fun a o _ h => ?_, fun a h n => absurd h n⟩, upd_same, p0, h⟩, ?_⟩
 ·rw [upd_ne fun z => by rw [z, hHD] at h; cases h]; exact h
 rintro i m H ⟨em, φ2, S2, acc, ds, r2, k2, hacc, hrep, q2⟩
 have ez := hZ φ2 S2 H r2 k2
 have ezH : Ext Z H := Ext.trans ez Dq
 by_cases hi : i < ps.length
 ·have hd : ps.drop i = ps[i] :: ps.drop (i + 1) := List.drop_eq_getElem_cons hi
  rw [hd] at q2
  have gi : ps[i]? = some ps[i] := List.getElem?_eq_getElem hi
  obtain ⟨env3, e3, q3⟩ := Aq.mp (Ad.mp q2)
  refine .inr ⟨it.go i _ H ezH gi, Iv (i + 1), fun H' hI => ⟨m - 1, by omega, by omega, hI⟩, fun x H3 y => ?_⟩
  obtain ⟨eg, rep⟩ := it.yld i _ H x H3 ezH gi y
  have r3 := r2.grow eg
  have ndφ2 : D ∉ φ2 := (r2.gd D hW).1
  refine ⟨W, φ2, nob, env, S2, .d ps[i], by rw [hK]; exact r3, by rw [hK]; exact rep _ r2.mu ez, env3, e3, fun own3 σ3 r4 sm o4 => ⟨(o4.1 vs hvs).trans (O3 σ vs), ?_⟩⟩
  rw [hK] at r4
  have eo := abm r4 sm
  subst eo
  refine ⟨W, φ2, nob, env3, S2, by rw [hK]; exact r4, (Ad.mp q3).mono (fun b S5 q5 φ5 H5 r5 k5 => ?_) fun _ _ z => z.elim⟩
  rw [hK] at r5
  cases b with
  | true =>
   rw [if_pos rfl] at q5 ⊢
   refine ⟨W, φ5, nob, env3, S5, by rw [hK]; exact r5, (Ad.mp q5).mono (fun v S6 q6 φ6 H6 u r6 k6 v6 => ?_) fun _ _ z => z.elim⟩
   rw [hK] at r6
   have k56 := k5.trans k6
   have kk0 := (Kp.ext eg).trans k56
   have hD6 : H6 D = some (.lst acc) := kk0.keep D _ ndφ2 hacc
   cases v with
   | c n => exact q6.elim
   | s n => exact q6.elim
   | q y ds => exact q6.elim
   | d q =>
    have q7 := (Ad.mp q6).mono (P' := fun r S' => Qf ((ds ++ [q]) ++ r) S') (fun r S7 z => by rw [List.append_assoc]; exact z) fun _ _ z => z
    refine ⟨acc, hD6, ?_, ?_⟩
    ·obtain ⟨r, S7, z⟩ := Y7 q7
     have := hQl _ _ z
     rw [List.length_append, List.length_append] at this
     rw [hrep.length]
     simp at this
     omega
    ·have rb := Rel.back hW r2 r6 kk0.del
     have hx : Ext (hz (Mu W.G φ2 nob) H) (hz (Mu W.G φ6 nob) H6) := Vf hW kk0.del
     have hup : Ext (hz (Mu W.G φ6 nob) H6) (hz (Mu W.G φ6 nob) (upd H6 D (.lst (acc ++ [u])))) := fun a o h => by
      obtain ⟨n, h⟩ := Aj.mp h
      exact Ey (by rw [upd_ne fun z => n (.inl (by rw [z]; exact hW))]; exact h) n
     refine ⟨φ6, S6, acc ++ [u], ds ++ [q], rb.updG hW hD0, ?_, upd_same, (hrep.ext (Ext.trans hx hup)).append (.cons ?_ .nil), q7⟩
     ·have kk := k2.trans kk0
      refine ⟨kk.pre, fun a o n h => ?_, kk.new⟩
      rw [upd_ne fun z => by rw [z, hHD] at h; cases h]
      exact kk.keep a o n h
     ·have v6 : Rep C'.K (hz (Mu W.G φ6 nob) H6) u q := v6
      rw [hK] at v6
      exact v6.ext hup
  | false =>
   rw [if_neg Bool.false_ne_true] at q5 ⊢
   have kk0 := (Kp.ext eg).trans k5
   have hD6 : H5 D = some (.lst acc) := kk0.keep D _ ndφ2 hacc
   exact ⟨φ5, S5, acc, ds, Rel.back hW r2 r5 kk0.del, k2.trans kk0, hD6, hrep.ext (Vf hW kk0.del), q5⟩
 ·have hi' : ps.length ≤ i := Nat.le_of_not_lt hi
  rw [List.drop_eq_nil_of_le hi'] at q2
  have ei : i = ps.length := by omega
  subst ei
  refine .inl ⟨it.stop H ezH, fin φ2 S2 H acc ds r2 k2 hacc hrep ?_⟩
  have q2 : Qf (ds ++ []) S2 := q2
  rw [List.append_nil] at q2
  exact q2
def Q9 (t : TF) (c : DB) (f1 : DL) (t1 : TF) (c1 : DB) (e : DF) (vs1 : List Nat) (env : En) : List PyData → M (List PyData)
 | [] => ret []
 | p :: ps => bnd (ofO (t (.d p) env)) fun env1 => bnd (c env1) fun b => if b = true then bnd (f1 env1) fun qs => bnd (Ox t1 c1 e (Em env1 vs1) qs) fun r1 => bnd (Q9 t c f1 t1 c1 e vs1 env ps) fun r => ret (r1 ++ r)
  else Q9 t c f1 t1 c1 e vs1 env ps
theorem aav {C C' : Ct} (hK : C'.K = C.K) {W : Wd} {φ1 : List Addr} {env : En} {S1 : Sto} {σ : L2.St} {H1 : Hp} {D : Addr} {vs vs1 is is1 : List Nat} {J : It} {ps : List PyData} {t : TF} {c : DB} {f1 : DL} {t1 : TF} {c1 : DB} {e : DF} {Z : Hp} {Qf : List PyData → Sto → Prop} {Q : Hp → Prop}
  (hvs : ∀ i ∈ is, i ∈ vs) (hvs1 : ∀ i ∈ is1, i ∈ vs1) (hW : W.G D) (hD0 : W.H0 D = none) (hHD : H1 D = none) (hQl : ∀ r S, Qf r S → r.length ≤ sizeLine)
  (r1 : Rel C.K W φ1 nob env S1 (wipe σ vs) (upd H1 D (.lst [])))
  (it : ItR C.K Z J ps) (hZ : ∀ φ2 S2 H2, Rel C.K W φ2 nob env S2 (wipe σ vs) H2 → Kp φ1 H1 φ2 H2 → Ext Z (hz (Mu W.G φ2 nob) H2))
  (h : (Q9 t c f1 t1 c1 e vs1 env ps S1).sat Qf (fun _ _ => False))
  (fin : ∀ φ2 S2 H2 acc ds, Rel C.K W φ2 nob env S2 (wipe σ vs) H2 → Kp φ1 H1 φ2 H2 → H2 D = some (.lst acc) → Af C.K (hz (Mu W.G φ2 nob) H2) acc ds → Qf ds S2 → Q H2) :
  ∃ I : Nat → Nat → Hp → Prop, (∃ m, I 0 m (upd H1 D (.lst []))) ∧ ∀ i m H, I i m H →
   (J.stop i H ∧ Q H) ∨ (J.go i H ∧ ∃ Nx : Hp → Prop, (∀ H', Nx H' → ∃ m', m' < m ∧ I (i + 1) m' H') ∧ ∀ x H', J.yld i H x H' → tG C' is t x (wipe σ vs) H' fun σ2 H2 => wipe σ2 vs = wipe σ vs ∧ tIB C' c σ2 H2 fun b H3 =>
    if b = true then tIt C' true f1 σ2 H3 fun J1 H4 => ∃ W1 : Nat → Nat → Hp → Prop, (∃ m, W1 0 m H4) ∧ ∀ j k H, W1 j k H →
     (J1.stop j H ∧ Nx H) ∨ (J1.go j H ∧ ∃ Nx1 : Hp → Prop, (∀ H', Nx1 H' → ∃ k', k' < k ∧ W1 (j + 1) k' H') ∧ ∀ x H', J1.yld j H x H' → tG C' is1 t1 x (wipe σ2 vs1) H' fun σ3 H5 => wipe σ3 vs1 = wipe σ2 vs1 ∧ tIB C' c1 σ3 H5 fun b H6 =>
      if b = true then tI C' true e σ3 H6 fun y H7 => ∃ acc, H7 D = some (.lst acc) ∧ acc.length < sizeLine ∧ Nx1 (upd H7 D (.lst (acc ++ [y]))) else Nx1 H6)
    else Nx H3) := by
 let Iv : Nat → Hp → Prop := fun i H => ∃ φ2 S2 acc ds, Rel C.K W φ2 nob env S2 (wipe σ vs) H ∧ Kp φ1 H1 φ2 H ∧ H D = some (.lst acc) ∧ Af C.K (hz (Mu W.G φ2 nob) H) acc ds ∧
  (Q9 t c f1 t1 c1 e vs1 env (ps.drop i) S2).sat (fun r S' => Qf (ds ++ r) S') (fun _ _ => False)
 refine ⟨fun i m H => i + m = ps.length ∧ Iv i H, ⟨ps.length, by omega, φ1, S1, [], [], r1, ⟨List.prefix_refl _, fun a o _ h => ?_, fun a h n => absurd h n⟩, upd_same, .nil, h⟩, ?_⟩
 ·rw [upd_ne fun z => by rw [z, hHD] at h; cases h]; exact h
 rintro i m H ⟨em, φ2, S2, acc, ds, r2, k2, hacc, hrep, q2⟩
 have ez := hZ φ2 S2 H r2 k2
 have ezH : Ext Z H := Ext.trans ez Dq
 by_cases hi : i < ps.length
 ·have hd : ps.drop i = ps[i] :: ps.drop (i + 1) := List.drop_eq_getElem_cons hi
  rw [hd] at q2
  have gi : ps[i]? = some ps[i] := List.getElem?_eq_getElem hi
  obtain ⟨env3, e3, q3⟩ := Aq.mp (Ad.mp q2)
  refine .inr ⟨it.go i _ H ezH gi, Iv (i + 1), fun H' hI => ⟨m - 1, by omega, by omega, hI⟩, fun x H3 y => ?_⟩
  obtain ⟨eg, rep⟩ := it.yld i _ H x H3 ezH gi y
  have r3 := r2.grow eg
  have ndφ2 : D ∉ φ2 := (r2.gd D hW).1
  refine ⟨W, φ2, nob, env, S2, .d ps[i], by rw [hK]; exact r3, by rw [hK]; exact rep _ r2.mu ez, env3, e3, fun own3 σ3 r4 sm o4 => ⟨(o4.1 vs hvs).trans (O3 σ vs), ?_⟩⟩
  rw [hK] at r4
  have eo := abm r4 sm
  subst eo
  refine ⟨W, φ2, nob, env3, S2, by rw [hK]; exact r4, (Ad.mp q3).mono (fun b S5 q5 φ5 H5 r5 k5 => ?_) fun _ _ z => z.elim⟩
  rw [hK] at r5
  cases b with
  | true =>
   rw [if_pos rfl] at q5 ⊢
   refine ⟨W, φ5, nob, env3, S5, by rw [hK]; exact r5, (Ad.mp q5).mono (fun qs S6 q6 φ6 H6 J1 r6 k6 it1 => ?_) fun _ _ z => z.elim⟩
   rw [hK] at r6 it1
   have kk0 := ((Kp.ext eg).trans k5).trans k6
   have hD6 : H6 D = some (.lst acc) := kk0.keep D _ ndφ2 hacc
   have ud := aeb hD6
   have hrep6 : Af C.K (hz (Mu W.G φ6 nob) H6) acc ds := hrep.ext (Vf hW kk0.del)
   have key := afz (C := C) (C' := C') hK (W := W) (φ1 := φ6) (env := Em env3 vs1) (S1 := S6) (σ := σ3) (H1 := KP.del H6 D) (D := D) (vs := vs1) (is := is1) (J := J1) (ps := qs) (t := t1) (c := c1) (e := e) (Z := hz (Mo true W.G φ6 nob) H6)
    (Qf := fun r S => (Q9 t c f1 t1 c1 e vs1 env (ps.drop (i + 1)) S).sat (fun r' S' => Qf (r ++ r') S') (fun _ _ => False)) (Q := Iv (i + 1)) (acc0 := acc) (ds0 := ds) hvs1 hW hD0 del_same
    (fun r S z => by
     obtain ⟨r', S', z⟩ := Y7 z
     have := hQl _ _ z
     rw [List.length_append] at this
     omega)
    (by rw [ud]; exact r6.aea vs1) (by rw [ud]; exact hrep6) it1 (fun φ7 S7 H7 r7 k7 => Vf hW k7)
    ((Ad.mp q6).mono (fun r1 S7 z => (Ad.mp z).mono (fun r S8 z => by
     have z : Qf (ds ++ (r1 ++ r)) S8 := z
     show Qf ((ds ++ r1) ++ r) S8
     rw [List.append_assoc]; exact z) fun _ _ z => z) fun _ _ z => z)
    (fun φ7 S7 H7 acc' ds' r7 k7 hacc' hrep' q7 => ⟨φ7, S7, acc', ds', Rel.back hW r2 r7 ((Kp.delR del_same kk0.del).trans k7), (Kp.delR hHD (k2.trans kk0)).trans k7, hacc', hrep', q7⟩)
   rw [ud] at key
   exact key
  | false =>
   rw [if_neg Bool.false_ne_true] at q5 ⊢
   have kk0 := (Kp.ext eg).trans k5
   have hD6 : H5 D = some (.lst acc) := kk0.keep D _ ndφ2 hacc
   exact ⟨φ5, S5, acc, ds, Rel.back hW r2 r5 kk0.del, k2.trans kk0, hD6, hrep.ext (Vf hW kk0.del), q5⟩
 ·have hi' : ps.length ≤ i := Nat.le_of_not_lt hi
  rw [List.drop_eq_nil_of_le hi'] at q2
  have ei : i = ps.length := by omega
  subst ei
  refine .inl ⟨it.stop H ezH, fin φ2 S2 H acc ds r2 k2 hacc hrep ?_⟩
  have q2 : Qf (ds ++ []) S2 := q2
  rw [List.append_nil] at q2
  exact q2
def lcA2 (f : DL) (t : TF) (c : DB) (f1 : DL) (t1 : TF) (c1 : DB) (e : DF) (vs vs1 : List Nat) : DLs := fun env => bnd (f env) fun ps => noX (bnd (Q9 t c f1 t1 c1 e vs1 (Em (Eh env) vs) ps) fun r => if r.length ≤ sizeLine then ret r else no)
theorem aei {C C' : Ct} (hK : C'.K = C.K) {σ : L2.St} {H : Hp} {Q : VK} {f : DL} {t : TF} {c : DB} {f1 : DL} {t1 : TF} {c1 : DB} {e : DF} {vs vs1 is is1 : List Nat} (hvs : ∀ i ∈ is, i ∈ vs) (hvs1 : ∀ i ∈ is1, i ∈ vs1) (h : tF C (lcA2 f t c f1 t1 c1 e vs vs1) σ H Q) :
  tLc2 (tIt C true f) (tG C' is t) (tIB C' c) (tIt C' true f1) (tG C' is1 t1) (tIB C' c1) (tI C' true e) vs vs1 σ H Q := by
 obtain ⟨W, φ, own, env, S, r, h⟩ := h
 refine ⟨W, φ, own, env, S, r, (Ad.mp h).mono (fun ps S1 q φ1 H1 J r1 k1 it D hD => ?_) fun x S1 q φ1 H1 r1 k1 => q φ1 H1 r1 k1⟩
 have q := Ad.mp (Oj (E' := fun _ _ => False) q)
 have q := q.mono (P' := fun r S' => r.length ≤ sizeLine ∧ ∀ φ' H' (D : Addr) vs, Rel C.K (W.and D) φ' own env S' σ H' → Kp φ H φ' H' → H D = none → H' D = some (.lst vs) → Af C.K (hz (Mu (W.and D).G φ' own) H') vs r → r.length ≤ sizeLine → Q (.ref D) H') (fun r S' z => by
  by_cases hr : r.length ≤ sizeLine
  ·rw [if_pos hr] at z
   exact ⟨hr, z⟩
  ·rw [if_neg hr] at z
   exact z.elim) fun _ _ z => z
 have nD := r1.fresh hD
 refine aav (C := C) hK (W := ⟨fun a => outG W own a ∨ a = D, low own H1, φ1⟩) (env := Em (Eh env) vs) (Z := hz (Mo true W.G φ1 own) H1) hvs hvs1 (.inr rfl) ?_ hD (fun r S z => z.1) (r1.RX vs hD) it (fun φ2 S2 H2 r2 k2 => ?_) q (fun φ2 S2 H2 acc ds r2 k2 hacc hrep hq => ?_)
 ·show low own H1 D = none
  unfold low hz
  split
  ·rfl
  ·exact hD
 ·intro a o ha
  obtain ⟨n, ha⟩ := Aj.mp ha
  have na : a ∉ φ1 := fun z => n (.inr (.inl z))
  refine Ey (k2.keep a o na ha) fun z => ?_
  rcases z with (z | z) | z | ⟨j, z⟩
  ·exact n (z.elim .inl fun z => .inr (.inr z))
  ·rw [z, hD] at ha; cases ha
  ·have := k2.new a z na
   rw [ha] at this; cases this
  ·cases z
 ·have nφ : D ∉ φ2 := (r2.gd D (.inr rfl)).1
  have nM : ¬ Mu W.G φ2 own D := fun z => by
   rcases z with z | z | z
   ·exact nD (.inl z)
   ·exact nφ z
   ·exact nD (.inr (.inr z))
  have sub : Ext (hz (Mu (fun a => outG W own a ∨ a = D) φ2 nob) H2) (hz (Mu (outG W own) φ2 nob) H2) := Du fun a _ _ z => z.elim (fun z => .inl (.inl z)) .inr
  have hg1 := r1.aby hD (xs := acc)
  have k2' : Kp φ1 (upd H1 D (.lst acc)) φ2 H2 := by
   refine ⟨k2.pre, fun a o n h => ?_, fun a z n => ?_⟩
   ·by_cases e : a = D
    ·rw [e, upd_same] at h; cases h; rw [e]; exact hacc
    ·rw [upd_ne e] at h; exact k2.keep a o n h
   ·rw [upd_ne fun e => nφ (by rw [← e]; exact z)]
    exact k2.new a z n
  have mg : Mu (outG (W.and D) own) φ2 nob = Mu (fun a => outG W own a ∨ a = D) φ2 nob := by
   rw [Ph]
   exact funext fun a => propext ⟨fun z => (Jk.mp z).elim (fun z => (Tf.mpr z).elim (fun z => .inl (.inl z)) .inr) fun z => .inl (.inr z), fun z => Jk.mpr (z.elim (fun z => z.elim (fun z => .inl (Tf.mp (.inl z))) .inr) fun z => .inl (Tf.mp (.inr z)))⟩
  have en : Ent C.K (outG (W.and D) own) φ2 S2 H2 := ⟨r2.ndφ, fun a z => (r2.gd a (z.elim (fun z => z.elim (fun z => .inl (.inl z)) .inr) fun z => .inl (.inr z))).1, by rw [mg]; exact r2.mu, by rw [mg]; exact r2.cell⟩
  refine hq.2 φ2 H2 D acc (hg1.called k2' en) (k1.trans k2) ?_ hacc (by rw [show Mu (W.and D).G φ2 own = Mu (outG (W.and D) own) φ2 nob from Ph.symm, mg]; exact hrep) hq.1
  cases e : H D with
  | none => rfl
  | some o =>
   by_cases z : D ∈ φ
   ·exact absurd (k1.pre.subset z) fun z => nD (.inr (.inl z))
   ·have := k1.keep D o z e
    rw [hD] at this; cases this
section
variable {X : Cx} {ew : WX} {elt tg iter tg1 iter1 : Expr} {ifs ifs1 : List Expr} {scope : Scope} {own : List (Str × Nat)} {vs1 : List Nat} {pos spos py : Pos} {f f1 : DL} {t t1 : TF} {c c1 : DB} {e : DF} {is is1 : List Nat} {i : Nat} {y : Str}
theorem aeG (hc : X.calm = true) (hN : X.N.Nodup) (hy : X.N[i]? = some y) (hyl : X.env.scope.names.lookup y = some .local)
  (hsw : swapsWith (.ListComp elt [⟨tg, iter, ifs, 0⟩, ⟨tg1, iter1, ifs1, 0⟩] scope pos) (some (.Name y py)) spos.line X.env = pure true) (hi : EI X ew true tg iter f) (ok : BlkOk X.N X.env.scope scope own) (hv : ∀ i ∈ vs1, i ∈ own.map (·.2)) (hvs : ∀ i ∈ is, i ∈ own.map (·.2)) (hvs1 : ∀ i ∈ is1, i ∈ vs1)
  (hg : ∀ (s : Shared) (H : Hp) (C : Addr) (cl : List (Str × Addr)) (fp : List Addr), EG (X.blk s H scope (compEnvC scope cl C X.env) fp) ew0 tg is t) (ht : ∀ (s : Shared) (H : Hp) (C : Addr) (cl : List (Str × Addr)) (fp : List Addr), EBs (X.blk s H scope (compEnvC scope cl C X.env) fp) ew0 ifs c)
  (hi1 : ∀ (s : Shared) (H : Hp) (C : Addr) (cl : List (Str × Addr)) (fp : List Addr), EI (X.blk s H scope (compEnvC scope cl C X.env) fp) ew0 true tg1 iter1 f1)
  (hg1 : ∀ (s : Shared) (H : Hp) (C : Addr) (cl : List (Str × Addr)) (fp : List Addr), EG (X.blk s H scope (compEnvC scope cl C X.env) fp) ew0 tg1 is1 t1) (ht1 : ∀ (s : Shared) (H : Hp) (C : Addr) (cl : List (Str × Addr)) (fp : List Addr), EBs (X.blk s H scope (compEnvC scope cl C X.env) fp) ew0 ifs1 c1)
  (he : ∀ (s : Shared) (H : Hp) (C : Addr) (cl : List (Str × Addr)) (fp : List Addr), E (X.blk s H scope (compEnvC scope cl C X.env) fp) ew0 true elt e) (hs : ∀ x, foldedSetIterable iter X.env x = pure x := by intro _; rfl) (hs1 : ∀ env x, foldedSetIterable iter1 env x = pure x := by intro _ _; rfl) :
  PS X (.Assign [.Name y py] (.ListComp elt [⟨tg, iter, ifs, 0⟩, ⟨tg1, iter1, ifs1, 0⟩] scope pos) spos) (tAsg (tF ⟨X.K, X.mg, ew⟩ (lcA2 f t c f1 t1 c1 e (own.map (·.2)) vs1)) (gName i)) :=
 DY (ps_setLc2 (g := tG ⟨X.K, X.mg, ew0⟩ is t) (tt := tIB ⟨X.K, X.mg, ew0⟩ c) (g1 := tG ⟨X.K, X.mg, ew0⟩ is1 t1) (tt1 := tIB ⟨X.K, X.mg, ew0⟩ c1) (wi1 := tIt ⟨X.K, X.mg, ew0⟩ true f1) (te := tI ⟨X.K, X.mg, ew0⟩ true e) hc hN hy hyl hsw hi ok hv hg ht hi1 hg1 ht1 he hs hs1) fun D σ H h => aei (C := ⟨X.K, X.mg, ew⟩) (C' := ⟨X.K, X.mg, ew0⟩) rfl hvs hvs1 h
end
def aaz (f : DF) (fs : DFA) : DFA := fun env => bnd (f env) fun v => bnd (ofO (Rh v)) fun ps => bnd (fs env) fun vs => ret (ps.map Va.d ++ vs)
theorem Cr.dApp {K : PySem.W.Frag} {Nu : Addr → Prop} {φ : List Addr} {H : Hp} {us : List V} {vs : List Va} : ∀ {xs : List V} {ps : List PyData}, Af K (hz Nu H) xs ps → Cr K Nu φ H us vs → Cr K Nu φ H (xs ++ us) (ps.map Va.d ++ vs)
 | _, _, .nil, h => h
 | _, _, .cons a r, h => .cons a (Cr.dApp r h)
theorem acB {C : Ct} {fl : Bool} {σ : L2.St} {H : Hp} {f : DF} {fs : DFA} {Q : List V → Hp → Prop} (h : tIA C fl (aaz f fs) σ H Q) : StX.tStar C.K (tI C fl f) (tIA C fl fs) σ H Q := by
 obtain ⟨W, φ, own, env, S, r0, h⟩ := h
 refine ⟨W, φ, own, env, S, r0, (Ad.mp h).mono (fun v S1 q φ1 H1 u r1 k1 v1 => ?_) fun _ _ q => q⟩
 obtain ⟨ps, e, q⟩ := Aq.mp (Ad.mp q)
 obtain ⟨a, xs, rfl, hl, ha, hs⟩ := R3 v1 e
 refine ⟨a, xs, rfl, hs.elim (fun h => .inr (Ef Dq h)) (fun h => .inl (K8 Dq h)), W, φ1, own, env, S1, r1, (Ad.mp q).mono (fun w S2 q φ2 H2 u2 r2 k2 v2 => ?_) fun x S' q φ' H' r' k' => q φ' H' r' (k1.trans k')⟩
 exact q φ2 H2 (xs ++ u2) r2 (k1.trans k2) (Cr.dApp (ha.ext k2.hz) v2)
theorem ab3 {X : Cx} {ew : WX} {fl : Bool} {e : Expr} {es : List Expr} {f : DF} {fs : DFA} {p : Pos} (h : E X ew fl e f) (ht : EA X ew fl es fs) (hs : starEach (.Starred e p :: es) X.env = (true, eval e X.env) :: starEach es X.env := by rfl) : EA X ew fl (.Starred e p :: es) (aaz f fs) :=
 Yh (StX.pa_star h ht hs) fun _ _ _ h => acB h
def gD0 : List Va → Option Va
 | [] => some (.d (.dict []))
 | _ => none
theorem aeF {K : PySem.W.Frag} : Kl K (fun _ H1 Q => ∀ p, H1 p = none → Q (.ref p) (upd H1 p (.dK []))) gD0 := by
 intro Nu φ H us vs w Q m hv hg hq p hp
 cases hv with
 | cons _ _ => cases hg
 | nil =>
  cases hg
  obtain ⟨n1, n2⟩ := Es (K := K) (o := .dK []) m hp
  exact hq _ _ (Ext.upd hp) (.dcK (.inl n2) .nil)
theorem e_d0 {X : Cx} {ew : WX} {fl : Bool} {pos : Pos} : E X ew fl (.Dict [] [] pos) (cN gD0 aNil) := Bf pe_dnewK fun _ _ _ q => XX (Z5 aeF q)
def sExt (i : Nat) (g : DLs) : SF := fun env => bnd (ofO ((lk env i).bind Sv.asL1)) fun xs => lift env (g env) fun ys => if xs.length + ys.length ≤ sizeLine then ret (.nx, env.set i (some (.l1 (xs ++ ys)))) else no
def gSlA : Va → Option Int → Option Int → Option Va
 | .d (.tuple xs), a, b => some (.d (.tuple (cutD xs a b)))
 | v, a, b => gSlL v a b
theorem Jd {K : PySem.W.Frag} : adI K (fun x lo hi H Q => rSlL K x lo hi H Q ∨ rSlA K x lo hi H Q) gSlA := fun Nu φ H u v lo hi w Q m h e q => by
 unfold gSlA at e
 split at e
 ·cases e
  cases h with
  | tup hs l r =>
   refine .inr ⟨_, _, rfl, SqT.of (Aj.mp hs).2, fun hw => ?_, fun hw p hp => q _ _ (Ext.upd hp) ?_⟩
   ·refine q _ _ Ext.refl ?_
    have e2 : cutD ‹List PyData› lo hi = ‹List PyData› := by
     rw [r.length] at hw
     unfold cutD
     rw [hw.1, hw.2]
     simp
    rw [e2]
    exact .tup hs l r
   ·obtain ⟨n1, n2⟩ := Es (K := K) m hp
    exact .tup n2 (Nat.le_trans (Lp _ _ _) l) (aa3 (r.ext n1) _ _)
 ·exact .inl (acN Nu φ H u _ lo hi w Q m h e q)
theorem O6 {X : Cx} : SlR X (fun x lo hi H Q => rSlL X.K x lo hi H Q ∨ rSlA X.K x lo hi H Q) := SlR.or sl_list sl_tupA
open HT
theorem aay (n : Nat) : Builtin.Slice.sliceAdjust none none (-1) (n : Int) = ((n : Int) - 1, -1) := by
 simp [Builtin.Slice.sliceAdjust]
theorem aae (n : Nat) : Builtin.Slice.slicePlaces ((n : Int) - 1) (-1) (-1) = n := by
 unfold Builtin.Slice.slicePlaces
 have h1 : ¬ ((-1 : Int) > 0) := by omega
 rw [if_neg h1]
 by_cases h : (n : Int) - 1 > -1
 ·rw [if_pos h, show (- -1 : Int) = 1 by decide, Int.ediv_one]; omega
 ·rw [if_neg h]; omega
theorem Zz {α β : Type} {f g : α → Option β} : ∀ {l : List α}, (∀ x ∈ l, f x = g x) → l.filterMap f = l.filterMap g
 | [], _ => rfl
 | x :: l, h => by
  rw [List.filterMap_cons, List.filterMap_cons, h x (by simp), Zz (l := l) fun y hy => h y (by simp [hy])]
theorem acU (xs : Array Value) : ((List.range xs.size).filterMap fun (m : Nat) => xs[(((xs.size : Int) - 1) + (m : Int) * (-1)).toNat]?).toArray = xs.toList.reverse.toArray := by
 have := PySem.W.krv_pick xs
 unfold slicePick at this
 rw [PySem.W.krv_bounds] at this
 have this : ((sliceRange ((xs.size : Int) - 1) (-1) (-1)).filterMap (xs[·]?)).toArray = _ := this
 rw [PySem.W.krv_sliceRange, List.filterMap_map] at this
 rw [← this]
 congr 1
 apply Zz
 intro m hm
 have := List.mem_range.mp hm
 show _ = xs[xs.size - 1 - m]?
 congr 1
 omega
section
variable {prog : Program} {w : World} {A : Around} {E : Value → Shared → Prop} {s : Shared}
theorem YL {sl : Addr} {vs : Value} {n : Nat} {Q : Int × Int × Nat → Shared → Prop} (hs : s.heap.IsSliceOf sl .none .none vs) (ps : IsPart vs (some (-1)))
  (h : Q ((n : Int) - 1, -1, n) s) : wpAny (model prog w) A (Builtin.Slice.sliceApplied (.ref sl) (pure (n : Int))) Q E s := by
 obtain ⟨os, hos, hcs, hds⟩ := id hs
 unfold Builtin.Slice.sliceApplied Builtin.Slice.sliceFields
 refine wpAny_bind (wpAny_bind (wpAny_field hos hds (x := .none) rfl (wpAny_bind (wpAny_field hos hds (x := .none) rfl (wpAny_bind (wpAny_field hos hds (x := vs) rfl (wpAny_pure ?_)))))))
 refine wpAny_bind (slicePart_ ps ?_)
 show wpAny _ _ (if ((-1 : Int) == 0) = true then _ else _) _ _ s
 rw [if_neg (by decide)]
 refine wpAny_bind (slicePart_ .none (wpAny_bind (slicePart_ .none (wpAny_bind (wpAny_pure ?_)))))
 show wpAny _ _ (match Builtin.Slice.sliceAdjust none none (-1) (n : Int) with | (lo, hi) => pure (lo, (-1 : Int), Builtin.Slice.slicePlaces lo hi (-1))) _ _ s
 rw [aay n]
 show wpAny _ _ (pure ((n : Int) - 1, (-1 : Int), Builtin.Slice.slicePlaces ((n : Int) - 1) (-1) (-1))) _ _ s
 rw [aae]
 exact wpAny_pure h
theorem Qt {t sl : Addr} {items : Array Value} {vs : Value} {Q : Value → Shared → Prop} (ht : IsTup s.heap t items) (hs : s.heap.IsSliceOf sl .none .none vs) (ps : IsPart vs (some (-1)))
  (h : Q (.ref s.heap.objs.size) { s with heap := s.heap.push { cls := .type "tuple", data := .seq items.toList.reverse.toArray } })
  (hsz : items.size ≤ sizeLine) : wpAny (model prog w) A (getItem (.ref t) (.ref sl)) Q E s := by
 have htake : sizeOk (.seq items.toList.reverse.toArray) := by
  show items.toList.reverse.toArray.size ≤ sizeLine
  rw [List.size_toArray, List.length_reverse, Array.length_toList]
  exact hsz
 obtain ⟨os, hos, hcs, hds⟩ := id hs
 have hTs : s.TypeIs (.ref sl) "slice" := ⟨os, hos, hcs⟩
 unfold getItem
 try with_reducible refine wpAny_holding ?_
 first | refine wpAny_bind (wpAny_pure ?_) | skip
 refine wpAny_bind (wpAny_sequenceKey ht.typeIs (by decide) ?_)
 refine wpAny_bind (wpAny_callSpecial?_slot (name := Str.ofString "__getitem__") ht.typeIs PyProof.Rows.slot_tuple_getitem
  (wpAny_call_entry PyProof.Rows.slot_tuple_getitem ht.typeIs entry_tuple_getitem ?_ (args_tuple_getitem _ _)))
 show wpAny _ _ (Builtin.Tuple.tupleItemsOf (.ref t) >>= _) _ _ s
 refine wpAny_bind (tupleItemsOf_ ht ?_)
 refine wpAny_bind (wpAny_typeOf hTs ?_)
 rw [if_pos (by decide)]
 refine wpAny_bind (YL hs ps ?_)
 have hno : ¬ ((((items.size : Int) - 1) == 0 && (-1 : Int) == 1 && items.size == items.size) = true) := by
  intro q
  rw [Bool.and_eq_true, Bool.and_eq_true] at q
  exact absurd q.1.2 (by decide)
 show wpAny _ _ (if (((items.size : Int) - 1) == 0 && (-1 : Int) == 1 && items.size == items.size) = true then _ else _) _ _ s
 rw [if_neg hno, acU]
 first
  | exact wpAny_bind (m := Builtin.Tuple.tupleExact _) (wpAny_newObj_type (wpAny_pure ⟨_, rfl, wpAny_pure h⟩) htake)
  | exact wpAny_bind (m := Builtin.Tuple.tupleExact _) (wpAny_newObj_type (wpAny_bind (wpAny_pure (wpAny_pure ⟨_, rfl, wpAny_pure h⟩))) htake)
  | exact wpAny_bind (wpAny_bind (m := Builtin.Tuple.tupleExact _) (wpAny_newObj_type (wpAny_pure (wpAny_pure ⟨_, rfl, wpAny_pure h⟩)) htake))
  | exact wpAny_bind (wpAny_bind (m := Builtin.Tuple.tupleExact _) (wpAny_newObj_type (wpAny_pure ⟨_, rfl, wpAny_pure h⟩) htake))
end
def ahM (K : PySem.W.Frag) (te : TE) : TE := fun σ H Q => te σ H fun x H1 => ∃ a xs, x = .ref a ∧ SqT K H1 a xs ∧ ∀ p, H1 p = none → Q (.ref p) (upd H1 p (.tup xs.reverse))
theorem aeH {X : Cx} {e : Expr} {te : TE} {k : Nat} {p1 p2 p3 pos : Pos} (he : PE X e te) : PE X (.Subscript e (.Slice none none (some (.UnaryOp .USub (.Constant (.int 1) k p1) p2)) p3) pos) (ahM X.K te) := by
 refine ⟨fun pins s σ H Q I h => ?_⟩
 refine Subscript_ (thn (he.run pins s σ H _ I h) fun v s1 ⟨x, H1, I1, r1, q1⟩ => ?_)
 obtain ⟨a, xs, ex, hx, q⟩ := q1
 subst ex
 cases r1
 have hst : PO X (some (.UnaryOp .USub (.Constant (.int 1) k p1) p2)) (tPart (tUn (rU fun i => .int (-i)) (tC (.int 1)))) := po_some (pe_un un_neg pe_int)
 refine wpAny_Slice (thn (po_none.run pins s1 σ H1 (fun o H2 => o = none ∧ H2 = H1) I1 ⟨rfl, rfl⟩) fun vl s2 ⟨l, H2, I2, pl, el, e2⟩ => ?_)
 subst el e2
 refine thn (po_none.run pins s2 σ H2 (fun o H3 => o = none ∧ H3 = H2) I2 ⟨rfl, rfl⟩) fun vu s3 ⟨u, H3, I3, pu, eu, e3⟩ => ?_
 subst eu e3
 refine thn (hst.run pins s3 σ H3 (fun o H4 => o = some (-1) ∧ H4 = H3) I3 ⟨1, rfl, -1, rfl, rfl, rfl⟩) fun vs s4 ⟨o, H4, I4, ps, eo, e4⟩ => ?_
 subst eo e4
 cases pl
 cases pu
 have I5 : Inv X pins σ H4 { s4 with heap := s4.heap.push { cls := .type "slice", data := .fields #[.none, .none, vs] } } := I4.kept (t' := s4.toks) fun b ob q => Heap.get?_push_of_some _ q
 obtain ⟨its, r, ht, hz⟩ := I5.tuple hx
 have hlen := r.length
 show wpAny (model X.prog X.w) X.A (subscriptTail e (.Slice none none (some (.UnaryOp .USub (.Constant (.int 1) k p1) p2)) p3) (.ref a) (.ref s4.heap.objs.size)) (EP X pins σ Q) X.xe { s4 with heap := s4.heap.push { cls := .type "slice", data := .fields #[.none, .none, vs] } }
 refine tail_any (ops := [.ref a, .ref s4.heap.objs.size]) ht.typeIs (PyProof.Rows.slot_tuple_getitem.lookup) ?_ (by with_unfolding_all rfl)
 refine Qt ht (Heap.IsSliceOf.new _ .none .none vs) ps ?_ (by rw [List.size_toArray]; omega)
 refine ⟨.ref _, _, I5.laid (t' := s4.toks) (o := .tup xs.reverse) (fun b ob q => Heap.get?_push_of_some _ q) (Nat.le_refl _) ?_, rfl, q _ (I5.hok.fresh (Nat.le_refl _))⟩
 exact ⟨by rw [List.length_reverse]; exact hz, _, r.reverse, ⟨_, Heap.get?_push_size _ rfl, rfl, _, rfl⟩⟩
def abQ : Va → Option Va
 | .d (.tuple xs) => some (.d (.tuple xs.reverse))
 | _ => none
theorem aba {K : PySem.W.Frag} : aco K (fun x H Q => ∃ a xs, x = .ref a ∧ SqT K H a xs ∧ ∀ p, H p = none → Q (.ref p) (upd H p (.tup xs.reverse))) abQ := Hu fun Nu φ H u v w Q m h e q => by
 refine ⟨_, rfl, ?_⟩
 unfold abQ at e
 split at e
 ·cases e
  cases h with
  | tup hs l r =>
   refine ⟨_, _, rfl, SqT.of (Aj.mp hs).2, fun p hp => q _ _ (Ext.upd hp) ?_⟩
   obtain ⟨n1, n2⟩ := Es (K := K) m hp
   exact .tup n2 (by rw [List.length_reverse]; exact l) ((r.ext n1).reverse)
 ·cases e
theorem agW {X : Cx} {ew : WX} {fl : Bool} {e : Expr} {f : DF} {k : Nat} {p1 p2 p3 pos : Pos} (h : E X ew fl e f) : E X ew fl (.Subscript e (.Slice none none (some (.UnaryOp .USub (.Constant (.int 1) k p1) p2)) p3) pos) (c1 abQ f) :=
 Bf (aeH h) fun _ _ _ h => acA aba h
def agA (kvs more : List (List Key × V)) : List (List Key × V) := more.foldl (fun acc kv => putK acc kv.1 kv.2) kvs
section
variable {X : Cx}
end
def fits : List Nat → PyData → Bool
 | _, .int _ => true
 | b :: bs, .tuple xs => decide (xs.length ≤ b) && xs.all (fits bs)
 | b :: bs, .list xs => decide (xs.length ≤ b) && xs.all (fits bs)
 | _, _ => false
def Jq : List Nat → PyData → Bool
 | _, .int i => decide (0 ≤ i) && decide (i < 1000)
 | _, .bool _ => true
 | _, .none => true
 | b :: bs, .tuple xs => decide (xs.length ≤ b) && xs.all (Jq bs)
 | b :: bs, .list xs => decide (xs.length ≤ b) && xs.all (Jq bs)
 | _, _ => false
theorem RD {C : List Nat → PyData → Prop} (h1 : ∀ bs i, C bs (.int i)) (h2 : ∀ b bs xs, xs.length ≤ b → (∀ x ∈ xs, fits bs x = true) → (∀ x ∈ xs, C bs x) → C (b :: bs) (.tuple xs)) (h3 : ∀ b bs xs, xs.length ≤ b → (∀ x ∈ xs, fits bs x = true) → (∀ x ∈ xs, C bs x) → C (b :: bs) (.list xs)) :
  ∀ {bs : List Nat} {p : PyData}, fits bs p = true → C bs p := by
 intro bs
 induction bs with
 | nil =>
  intro p h
  cases p with
  | int i => exact h1 _ i
  | _ => simp [fits] at h
 | cons b bs ih =>
  intro p h
  cases p with
  | int i => exact h1 _ i
  | tuple xs =>
   simp only [fits, Bool.and_eq_true, decide_eq_true_eq, List.all_eq_true] at h
   exact h2 b bs xs h.1 h.2 fun x hx => ih (h.2 x hx)
  | list xs =>
   simp only [fits, Bool.and_eq_true, decide_eq_true_eq, List.all_eq_true] at h
   exact h3 b bs xs h.1 h.2 fun x hx => ih (h.2 x hx)
  | _ => simp [fits] at h
theorem Mv : ∀ {xs : List PyData}, G5 xs = true ↔ ∀ x ∈ xs, Ma x = true
 | [] => by simp [G5]
 | x :: xs => by simp [G5, Mv (xs := xs)]
theorem Mp : ∀ {xs : List PyData}, PyData.plainAll xs = true ↔ ∀ x ∈ xs, x.plain = true
 | [] => by simp [PyData.plainAll]
 | x :: xs => by simp [PyData.plainAll, Mp (xs := xs)]
theorem Kg : ∀ {xs : List PyData}, PyData.canLayAll0 xs = true ↔ ∀ x ∈ xs, x.canLay0 = true
 | [] => by simp [PyData.canLayAll0]
 | x :: xs => by simp [PyData.canLayAll0, Kg (xs := xs)]
theorem Qs : ∀ {xs : List PyData}, MF xs = true ↔ ∀ x ∈ xs, imm x = true
 | [] => by simp [MF]
 | x :: xs => by simp [MF, Qs (xs := xs)]
theorem Ow : ∀ {xs : List PyData} {n : Nat}, (∀ x ∈ xs, x.depth ≤ n) → PyData.depthAll xs ≤ n
 | [], _, _ => by simp [PyData.depthAll]
 | x :: xs, n, h => by
  simp only [PyData.depthAll]
  exact Nat.max_le.mpr ⟨h x (by simp), Ow fun y hy => h y (by simp [hy])⟩
theorem Vg {bs : List Nat} {p : PyData} (h : fits bs p = true) : Ma p = true :=
 RD (C := fun _ p => Ma p = true) (fun _ _ => by simp [Ma]) (fun _ _ xs _ _ h => by simpa [Ma] using Mv.mpr h) (fun _ _ xs _ _ h => by simpa [Ma] using Mv.mpr h) h
theorem aaq {bs : List Nat} {p : PyData} (h : fits bs p = true) : p.plain = true :=
 RD (C := fun _ p => p.plain = true) (fun _ _ => by simp [PyData.plain]) (fun _ _ xs _ _ h => by simpa [PyData.plain] using Mp.mpr h) (fun _ _ xs _ _ h => by simpa [PyData.plain] using Mp.mpr h) h
theorem adm {bs : List Nat} {p : PyData} (h : fits bs p = true) : p.canLay0 = true :=
 RD (C := fun _ p => p.canLay0 = true) (fun _ _ => by simp [PyData.canLay0]) (fun _ _ xs _ _ h => by simpa [PyData.canLay0] using Kg.mpr h) (fun _ _ xs _ _ h => by simpa [PyData.canLay0] using Kg.mpr h) h
theorem aar {bs : List Nat} {p : PyData} (h : fits bs p = true) : p.depth ≤ bs.length :=
 RD (C := fun bs p => p.depth ≤ bs.length) (fun _ _ => by simp [PyData.depth]) (fun _ bs xs _ _ h => by simpa [PyData.depth] using Ow h) (fun _ _ xs _ _ h => by simpa [PyData.depth] using Ow h) h
theorem T6 {bs : List Nat} {p : PyData} (h : fits bs p = true) (hb : bs.length ≤ 60) : SeqAt.shaped p = true := by
 unfold SeqAt.shaped
 have := aar h
 rw [adm h]
 simp; omega
theorem ab1 {bs cs : List Nat} {p q : PyData} (h : fits bs p = true) (h' : fits cs q = true) (hb : bs.length ≤ 60 := by decide) (hc : cs.length ≤ 60 := by decide) : eqOk p q = true := by
 unfold eqOk
 rw [Vg h, Vg h', T6 h hb, T6 h' hc]; rfl
mutual
theorem ad2 : ∀ {p q : PyData} {bs cs : List Nat}, fits bs p = true → fits cs q = true → PyData.eqv p q = true → p = q
 | .int i, q, bs, cs, h, h', e => by cases q <;> simp [fits, PyData.eqv] at h' e; rw [e]
 | .tuple xs, q, bs, cs, h, h', e => by
  cases bs with
  | nil => simp [fits] at h
  | cons b bs =>
   cases q with
   | tuple ys =>
    cases cs with
    | nil => simp [fits] at h'
    | cons c cs =>
     simp only [fits, Bool.and_eq_true, List.all_eq_true] at h h'
     simp only [PyData.eqv] at e
     rw [eqvAll_eq h.2 h'.2 e]
   | _ => simp [PyData.eqv] at e
 | .list xs, q, bs, cs, h, h', e => by
  cases bs with
  | nil => simp [fits] at h
  | cons b bs =>
   cases q with
   | list ys =>
    cases cs with
    | nil => simp [fits] at h'
    | cons c cs =>
     simp only [fits, Bool.and_eq_true, List.all_eq_true] at h h'
     simp only [PyData.eqv] at e
     rw [eqvAll_eq h.2 h'.2 e]
   | _ => simp [PyData.eqv] at e
 | .none, q, bs, cs, h, h', e => by cases bs <;> simp [fits] at h
 | .bool _, q, bs, cs, h, h', e => by cases bs <;> simp [fits] at h
 | .str _, q, bs, cs, h, h', e => by cases bs <;> simp [fits] at h
 | .dict _, q, bs, cs, h, h', e => by cases bs <;> simp [fits] at h
theorem eqvAll_eq : ∀ {xs ys : List PyData} {bs cs : List Nat}, (∀ x ∈ xs, fits bs x = true) → (∀ x ∈ ys, fits cs x = true) → PyData.eqvAll xs ys = true → xs = ys
 | [], ys, bs, cs, h, h', e => by cases ys <;> simp [PyData.eqvAll] at e; rfl
 | x :: xs, ys, bs, cs, h, h', e => by
  cases ys with
  | nil => simp [PyData.eqvAll] at e
  | cons y ys =>
   simp only [PyData.eqvAll, Bool.and_eq_true] at e
   rw [ad2 (h x (by simp)) (h' y (by simp)) e.1, eqvAll_eq (fun z hz => h z (by simp [hz])) (fun z hz => h' z (by simp [hz])) e.2]
end
theorem eqv_iff {p q : PyData} {bs cs : List Nat} (h : fits bs p = true) (h' : fits cs q = true) : PyData.eqv p q = true ↔ p = q :=
 ⟨ad2 h h', fun e => by rw [e]; exact SeqAt.eqv_refl_plain _ (aaq h')⟩
def cap : List Nat → Nat
 | [] => 5
 | b :: bs => 5 + b * (cap bs + 2)
theorem aca (bs : List Nat) : 5 ≤ cap bs := by cases bs <;> simp [cap]
theorem ae7 : ∀ n : Nat, n < 1000 → ((toString (n : Int) : String) : Str).length ≤ 4 := by
 decide +kernel
theorem RQ : ∀ (ts : List Str) (k : Nat) (acc : Str), (textFrom k acc ts).length ≤ acc.length + piled ts
 | [], k, acc => by simp [textFrom, piled]
 | t :: r, k, acc => by
  have := RQ r (k + 1) (acc ++ (if k > 0 then ", " else "" : String) ++ t)
  have e : (acc ++ (if k > 0 then ", " else "" : String) ++ t).length = acc.length + (if k > 0 then 2 else 0) + t.length := by
   rw [strLen_append, strLen_append]
   split <;> rfl
  rw [e] at this
  rw [piled_cons]
  show (textFrom (k + 1) _ r).length ≤ _
  have d : (if k > 0 then 2 else 0 : Nat) ≤ 2 := by split <;> omega
  omega
theorem Tw (ts : List Str) : (listText ts).length ≤ 2 + piled ts := by
 unfold listText
 rw [strLen_append]
 have := RQ ts 0 "["
 have e1 : ((("[" : String) : Str)).length = 1 := rfl
 have e2 : ((("]" : String) : Str)).length = 1 := rfl
 omega
theorem QS (ts : List Str) : (tupleText ts).length ≤ 3 + piled ts := by
 unfold tupleText
 rw [strLen_append, strLen_append]
 have e1 : ((("(" : String) : Str)).length = 1 := rfl
 have e3 : (((if ts.length == 1 then ",)" else ")" : String) : Str)).length ≤ 2 := by split <;> decide
 rw [e1]
 by_cases h : ts = []
 ·subst h
  have : (Str.join ", " []).length = 0 := rfl
  omega
 ·have := join_length_add ts h
  omega
theorem aaS : ∀ {bs : List Nat} {p : PyData}, Jq bs p = true → p.showable = true ∧ p.shown.length ≤ cap bs := by
 have hi : ∀ (bs : List Nat) (i : Int), Jq bs (.int i) = true → (PyData.int i).showable = true ∧ (PyData.int i).shown.length ≤ cap bs := by
  intro bs i h
  have h : 0 ≤ i ∧ i < 1000 := by cases bs <;> simpa [Jq] using h
  obtain ⟨n, rfl⟩ := Int.eq_ofNat_of_zero_le h.1
  have hn : n < 1000 := by omega
  refine ⟨?_, ?_⟩
  ·simp only [PyData.showable, Int.natAbs_natCast, decide_eq_true_eq]
   by_cases h0 : n = 0
   ·subst h0; decide
   ·exact (Nat.log2_lt h0).mpr (Nat.lt_of_lt_of_le hn (Nat.le_trans (by decide : 1000 ≤ 2 ^ 10) (Nat.pow_le_pow_right (by decide) (by decide))))
  ·have := ae7 n hn
   have := aca bs
   simp only [PyData.shown]
   omega
 have hb : ∀ (bs : List Nat) (b : Bool), (PyData.bool b).showable = true ∧ (PyData.bool b).shown.length ≤ cap bs := by
  intro bs b
  have := aca bs
  refine ⟨by simp [PyData.showable], ?_⟩
  have : (PyData.bool b).shown.length ≤ 5 := by cases b <;> decide
  omega
 have h0 : ∀ (bs : List Nat), (PyData.none).showable = true ∧ (PyData.none).shown.length ≤ cap bs := by
  intro bs
  have := aca bs
  refine ⟨by simp [PyData.showable], ?_⟩
  have : (PyData.none).shown.length ≤ 5 := by decide
  omega
 intro bs
 induction bs with
 | nil =>
  intro p h
  cases p with
  | int i => exact hi _ i h
  | bool b => exact hb _ b
  | none => exact h0 _
  | _ => simp [Jq] at h
 | cons b bs ih =>
  intro p h
  have key : ∀ xs : List PyData, (∀ x ∈ xs, Jq bs x = true) → PyData.showableAll xs = true ∧ piled (PyData.shownAll xs) ≤ xs.length * (cap bs + 2) := by
   intro xs
   intro h
   induction xs with
   | nil => simp [PyData.showableAll, PyData.shownAll, piled]
   | cons x xs ih2 =>
    obtain ⟨a1, a2⟩ := ih (h x (by simp))
    obtain ⟨b1, b2⟩ := ih2 fun y hy => h y (by simp [hy])
    refine ⟨by simp [PyData.showableAll, a1, b1], ?_⟩
    simp only [PyData.shownAll, List.length_cons, Nat.add_mul, piled_cons] at b2 ⊢
    omega
  cases p with
  | int i => exact hi _ i h
  | bool b => exact hb _ b
  | none => exact h0 _
  | tuple xs =>
   simp only [Jq, Bool.and_eq_true, decide_eq_true_eq, List.all_eq_true] at h
   obtain ⟨k1, k2⟩ := key xs h.2
   refine ⟨by simpa [PyData.showable] using k1, ?_⟩
   have := Nat.mul_le_mul_right (cap bs + 2) h.1
   simp only [PyData.shown, cap]
   have := QS (PyData.shownAll xs)
   omega
  | list xs =>
   simp only [Jq, Bool.and_eq_true, decide_eq_true_eq, List.all_eq_true] at h
   obtain ⟨k1, k2⟩ := key xs h.2
   refine ⟨by simpa [PyData.showable] using k1, ?_⟩
   have := Nat.mul_le_mul_right (cap bs + 2) h.1
   simp only [PyData.shown, cap]
   have := Tw (PyData.shownAll xs)
   omega
  | _ => simp [Jq] at h
section
variable {α β : Type}
@[simp] theorem BZ (a : α) (k : α → M β) : bnd (ret a) k = k a := rfl
@[simp] theorem ajg (k : α → M β) : bnd no k = no := rfl
@[simp] theorem G4 (a : α) : ofO (some a) = ret a := rfl
@[simp] theorem ahr : ofO (none : Option α) = no := rfl
@[simp] theorem Zm (env : En) (a : α) (k : α → M (Fl × En)) : lift env (ret a) k = k a := rfl
@[simp] theorem aic (env : En) (k : α → M (Fl × En)) : lift env no k = no := rfl
@[simp] theorem aeS (a : α) : noX (ret a) = ret a := rfl
@[simp] theorem ahg (a : α) : alone (ret a) = ret a := rfl
theorem Ij {γ : Type} (m : M α) (f : α → M β) (g : β → M γ) : bnd (bnd m f) g = bnd m fun a => bnd (f a) g := by
 funext S
 unfold bnd
 cases m S <;> rfl
end
section
variable (env : En) (f g : DF) (a b : DB) (i j : Nat)
@[simp] theorem aaI : vT i env = ofO ((lk env i).bind Sv.still) := rfl
@[simp] theorem ajj : vF i env = ofO ((lk env i).bind Sv.view) := rfl
@[simp] theorem aie (p : PyData) : kC p env = ret (.d p) := rfl
@[simp] theorem ajD (h : Va → Option Va) : c1 h f env = bnd (f env) fun v => ofO (h v) := rfl
@[simp] theorem afE (h : Va → Va → Option Va) : c2 h f g env = bnd (f env) fun v => bnd (g env) fun w => ofO (h v w) := rfl
@[simp] theorem afD (h : List Va → Option Va) (fa : DFA) : cN h fa env = bnd (fa env) fun vs => ofO (h vs) := rfl
@[simp] theorem Wr : aNil env = ret [] := rfl
@[simp] theorem RJ (fs : DFA) : Aa f fs env = bnd (f env) fun v => bnd (fs env) fun vs => ret (v :: vs) := rfl
@[simp] theorem lk0 (x : Option Sv) (xs : En) : lk (x :: xs) 0 = x := by simp [lk]
@[simp] theorem lkS (x : Option Sv) (xs : En) (n : Nat) : lk (x :: xs) (n + 1) = lk xs n := by simp [lk]
@[simp] theorem RW (p : PyData) : (Sv.d p).still = some (.d p) := rfl
@[simp] theorem aeo (n : Nat) : (Sv.c n).still = some (.c n) := rfl
@[simp] theorem aen (ns : List Int) : (Sv.s ns).still = some (.s ns) := rfl
@[simp] theorem aiM (p : PyData) : (Sv.d p).view = some (.d p) := rfl
@[simp] theorem ahI (p : List PyData) : (Sv.l1 p).view = some (.d (.list p)) := rfl
@[simp] theorem ahH (p : List (List PyData)) : (Sv.l2 p).view = some (.d (.list (p.map PyData.list))) := rfl
@[simp] theorem ahJ (p : Dk) : (Sv.dd p).view = some (.d p.data) := rfl
@[simp] theorem aiN (n : Nat) : (Sv.c n).view = some (.c n) := rfl
@[simp] theorem aiL (ns : List Int) : (Sv.s ns).view = some (.s ns) := rfl
@[simp] theorem aiP (k : Bool) : toB (.d (.bool k)) = some k := rfl
@[simp] theorem aiO (k : Bool) : toB (vB k) = some k := rfl
@[simp] theorem ahd : bV f env = bnd (f env) fun v => ofO (toB v) := rfl
@[simp] theorem aiG : bAnd a b env = bnd (a env) fun k => if k = true then b env else ret false := rfl
@[simp] theorem ajh : bOr a b env = bnd (a env) fun k => if k = true then ret true else b env := rfl
@[simp] theorem aiF : bNot a env = bnd (a env) fun k => ret (!k) := rfl
@[simp] theorem afF : bYes env = ret true := rfl
@[simp] theorem afr : eAnd f g env = bnd (f env) fun v => bnd (ofO (toB v)) fun k => if k = true then g env else ret (vB false) := rfl
@[simp] theorem ajd : eOr f g env = bnd (f env) fun v => bnd (ofO (toB v)) fun k => if k = true then ret (vB true) else g env := rfl
@[simp] theorem aiC : eNot f env = bnd (f env) fun v => bnd (ofO (toB v)) fun k => ret (vB (!k)) := rfl
@[simp] theorem aje : eIf a f g env = bnd (a env) fun k => if k = true then f env else g env := rfl
@[simp] theorem agZ (h h' : Va → Va → Option Va) (e : DF) : Qa h h' f g e env = bnd (f env) fun x => bnd (g env) fun y => bnd (ofO (h x y)) fun z => bnd (ofO (toB z)) fun k => if k = true then bnd (e env) fun w => ofO (h' y w) else ret (vB false) := rfl
@[simp] theorem ady (F : List Va → M Va) (fa : DFA) : JN F fa env = bnd (fa env) F := rfl
@[simp] theorem ajo (p : PyData) : isD (.d p) = true := rfl
@[simp] theorem abz : lSeq f env = bnd (f env) fun v => ofO (Rh v) := rfl
@[simp] theorem ajn (h : List Va → Option (List PyData)) (fa : DFA) : lN h fa env = bnd (fa env) fun vs => ofO (h vs) := rfl
@[simp] theorem aer (ps : List PyData) : Rh (.d (.list ps)) = some ps := rfl
@[simp] theorem ahS (ps : List PyData) : Rh (.d (.tuple ps)) = some ps := rfl
@[simp] theorem aiw (h : DLs) : fD h env = bnd (h env) fun ps => ret (.d (.list ps)) := rfl
@[simp] theorem afi (fs : DFA) : fLst fs env = bnd (fs env) fun vs => bnd (ofO (toDs vs)) fun ps => if ps.length ≤ sizeLine then ret ps else no := rfl
@[simp] theorem ahA : aiu f env = bnd (f env) fun v => ofO (Rh v) := rfl
@[simp] theorem aix : fCat f g env = bnd (f env) fun v => bnd (ofO v.Wl) fun a => bnd (g env) fun w => bnd (ofO w.Wl) fun b => if a.length + b.length ≤ sizeLine then ret (a ++ b) else no := rfl
@[simp] theorem ahC (f g : DLs) : aiy f g env = bnd (f env) fun a => bnd (g env) fun b => if a.length + b.length ≤ sizeLine then ret (a ++ b) else no := rfl
@[simp] theorem aiT : nmL i env = ofO ((lk env i).bind Sv.asL1) := rfl
@[simp] theorem ajf : dtL f env = bnd (f env) fun v => ofO v.Wl := rfl
@[simp] theorem acy : toDs [] = some [] := rfl
@[simp] theorem afW (p : PyData) (vs : List Va) : toDs (.d p :: vs) = (toDs vs).map (p :: ·) := rfl
@[simp] theorem ah5 : oE f env = bnd (f env) fun v => ret (svOf v) := rfl
@[simp] theorem ah4 (h : DLs) : oF h env = bnd (h env) fun ps => ret (.l1 ps) := rfl
@[simp] theorem ah6 : oD env = ret (.dd (.k [])) := rfl
@[simp] theorem aiR (p : PyData) : svOf (.d p) = .d p := rfl
@[simp] theorem aiS (n : Nat) : svOf (.c n) = .c n := rfl
@[simp] theorem aiQ (n : List Int) : svOf (.s n) = .s n := rfl
end
section
variable (env : En) (f g : SF) (e : DF) (c : DB) (i j : Nat)
@[simp] theorem ahY : sNil env = ret (.nx, env) := rfl
@[simp] theorem Vt : sSeq f g env = bnd (f env) fun p => match p.1 with
 | .nx => g p.2
 | _ => ret p := rfl
@[simp] theorem ahp : aab e env = lift env (e env) fun _ => ret (.nx, env) := rfl
@[simp] theorem Yb : sRet e env = lift env (e env) fun v => ret (.rt v, env) := rfl
@[simp] theorem agg : sIf c f g env = lift env (c env) fun b => if b = true then f env else g env := rfl
@[simp] theorem aeu (t : TF) : sAsg e t env = lift env (e env) fun v => bnd (ofO (t v env)) fun env' => ret (.nx, env') := rfl
@[simp] theorem ajv (v : Va) : gN i v env = if i < env.length then some (env.set i (some (svOf v))) else none := rfl
@[simp] theorem aju (ts : List TF) (ps : List PyData) : gT ts (.d (.tuple ps)) env = gTs ts ps env := rfl
@[simp] theorem aii : gTs [] [] env = some env := rfl
@[simp] theorem ahw (t : TF) (ts : List TF) (p : PyData) (ps : List PyData) : gTs (t :: ts) (p :: ps) env = (t (.d p) env).bind fun env' => gTs ts ps env' := rfl
@[simp] theorem ahX (h : DLs) : sOwn h i env = lift env (h env) fun ps => if i < env.length then ret (.nx, env.set i (some (.l1 ps))) else no := rfl
@[simp] theorem aaY (x y : DO) : sPar x y i j env = lift env (x env) fun sv => lift env (y env) fun sw => if i < env.length ∧ j < env.length then ret (.nx, (env.set i (some sv)).set j (some sw)) else no := rfl
@[simp] theorem ahn (x : DO) : ahV x i env = lift env (x env) fun sv => if i < env.length then ret (.nx, env.set i (some sv)) else no := rfl
@[simp] theorem ah0 : sApp i e env = bnd (ofO ((lk env i).bind Sv.asL1)) fun xs => lift env (e env) fun v => bnd (ofO v.asD) fun p => if xs.length < sizeLine then ret (.nx, env.set i (some (.l1 (xs ++ [p])))) else no := rfl
@[simp] theorem aiJ (xs : List PyData) : (Sv.l1 xs).asL1 = some xs := rfl
@[simp] theorem aiI (xs : List (List PyData)) : (Sv.l2 xs).asL2 = some xs := rfl
@[simp] theorem aiK (k : Dk) : (Sv.dd k).asDD = some k := rfl
@[simp] theorem ack (p : PyData) : (Va.d p).asD = some p := rfl
@[simp] theorem ahe (p : Int) : (Va.d (.int p)).asI = some p := rfl
@[simp] theorem ahF (p : List PyData) : (Va.d (.list p)).Wl = some p := rfl
@[simp] theorem aaZ (h : DL) (t : TF) : sFor h t f env = lift env (h env) fun ps => JM t f ps env := rfl
@[simp] theorem ahl (fk fx : DF) : acH i fk fx env = bnd (ofO ((lk env i).bind Sv.asDD)) fun d => lift env (fk env) fun kv => bnd (ofO kv.asD) fun k => lift env (fx env) fun xv => bnd (ofO xv.asD) fun x => bnd (ofO (d.setd k x)) fun r => ret (.nx, env.set i (some (.dd r.2))) := rfl
@[simp] theorem afM : Eh [] = [] := rfl
@[simp] theorem aep (o : Option Sv) (r : En) : Eh (o :: r) = o.bind Sv.st :: Eh r := rfl
@[simp] theorem afU : RP [] = [] := rfl
@[simp] theorem afL (o : Option Sv) (r : En) : RP (o :: r) = o.bind Sv.fz :: RP r := rfl
@[simp] theorem afT : Em env [] = env := rfl
@[simp] theorem afK (v : Nat) (vs : List Nat) : Em env (v :: vs) = (Em env vs).set v none := rfl
@[simp] theorem st_d (p : PyData) : (Sv.d p).st = some (.d p) := rfl
@[simp] theorem st_c (n : Nat) : (Sv.c n).st = some (.c n) := rfl
@[simp] theorem st_s (n : List Int) : (Sv.s n).st = some (.s n) := rfl
@[simp] theorem ajl (n : List PyData) : (Sv.l1 n).st = none := rfl
@[simp] theorem ajk (n : List (List PyData)) : (Sv.l2 n).st = none := rfl
@[simp] theorem ajm (n : Dk) : (Sv.dd n).st = none := rfl
@[simp] theorem fz_d (p : PyData) : (Sv.d p).fz = some (.d p) := rfl
@[simp] theorem fz_c (n : Nat) : (Sv.c n).fz = none := rfl
@[simp] theorem fz_s (n : List Int) : (Sv.s n).fz = some (.s n) := rfl
@[simp] theorem ajB (n : List PyData) : (Sv.l1 n).fz = some (.d (.list n)) := rfl
@[simp] theorem ajA (n : List (List PyData)) : (Sv.l2 n).fz = some (.d (.list (n.map PyData.list))) := rfl
@[simp] theorem ajC (n : Dk) : (Sv.dd n).fz = some (.d n.data) := rfl
end
@[simp] theorem ad0 (h : Int → Int → Option PyData) (i j : Int) : gII h (.d (.int i)) (.d (.int j)) = (h i j).map Va.d := rfl
@[simp] theorem Xh (h : PyData → PyData → Option PyData) (p q : PyData) : gDD h (.d p) (.d q) = (h p q).map Va.d := rfl
@[simp] theorem aij (i j : Int) : gSub (.d (.int i)) (.d (.int j)) = some (.d (.int (i - j))) := rfl
@[simp] theorem ai2 (i j : Int) : gLt (.d (.int i)) (.d (.int j)) = some (.d (.bool (decide (i < j)))) := rfl
@[simp] theorem ai3 (i j : Int) : gLe (.d (.int i)) (.d (.int j)) = some (.d (.bool (decide (i ≤ j)))) := rfl
@[simp] theorem ai7 (i j : Int) : gGt (.d (.int i)) (.d (.int j)) = some (.d (.bool (decide (j < i)))) := rfl
@[simp] theorem ai8 (i j : Int) : gGe (.d (.int i)) (.d (.int j)) = some (.d (.bool (decide (j ≤ i)))) := rfl
@[simp] theorem J8 (i j : Int) : gAdd (.d (.int i)) (.d (.int j)) = some (.d (.int (i + j))) := rfl
theorem HJ {i j : Int} (h : 0 < j) : gMod (.d (.int i)) (.d (.int j)) = some (.d (.int (i % j))) := by simp [gMod, h]
theorem V5 {i j : Int} (h : 0 < j) (h2 : j < 1073741824) : gDiv (.d (.int i)) (.d (.int j)) = some (.d (.int (i / j))) := by simp [gDiv, h, h2]
theorem HH {i j : Int} (h : (-(2 ^ 64) < i ∧ i < 2 ^ 64) ∨ (-(2 ^ 64) < j ∧ j < 2 ^ 64)) : gMul (.d (.int i)) (.d (.int j)) = some (.d (.int (i * j))) := by
 have : ac1 i j = true := by
  unfold ac1
  simp only [Bool.or_eq_true, Bool.and_eq_true, decide_eq_true_eq]
  exact h
 simp [gMul, abM, hMul, this]
@[simp] theorem V3 (i : Int) : on1 hInt [.d (.int i)] = some (.d (.int i)) := rfl
@[simp] theorem aiW (xs : List PyData) : on1 hTup [.d (.list xs)] = some (.d (.tuple xs)) := rfl
@[simp] theorem aiV (xs : List PyData) : on1 hTup [.d (.tuple xs)] = some (.d (.tuple xs)) := rfl
@[simp] theorem adY (xs : List PyData) : on1 Ez [.d (.list xs)] = some (.d (.int xs.length)) := rfl
@[simp] theorem aiX (xs : List PyData) : on1 Ez [.d (.tuple xs)] = some (.d (.int xs.length)) := rfl
@[simp] theorem aiY (xs : List Int) : on1 Ez [.s xs] = some (.d (.int xs.length)) := rfl
@[simp] theorem aiZ (xs : List (PyData × PyData)) (h : isX xs = false) : on1 Ez [.d (.dict xs)] = some (.d (.int xs.length)) := by
 simp [on1, Ez, h]
@[simp] theorem aig : isX [] = false := rfl
@[simp] theorem ahz (i j : Int) : on2 adh [.d (.int i), .d (.int j)] = some (.d (.int (max i j))) := by
 simp only [on2, adh, ad0, Option.map_some, Int.max_def]
 congr 3
 split <;> split <;> omega
@[simp] theorem ahy (i j : Int) : on2 aan [.d (.int i), .d (.int j)] = some (.d (.int (min i j))) := by
 simp only [on2, aan, ad0, Option.map_some, Int.min_def]
 congr 3
 split <;> split <;> omega
@[simp] theorem ahv (i : Int) : immV (.d (.int i)) = some (.d (.int i)) := rfl
theorem Yu {p : PyData} (h : imm p = true) : immV (.d p) = some (.d p) := by simp [immV, h]
theorem Pr (ps : List PyData) (h : ps.length ≤ sizeLine) : Bg (ps.map Va.d) = some (.d (.tuple ps)) := by
 have : toDs (ps.map Va.d) = some ps := by
  induction ps with
  | nil => rfl
  | cons p ps ih => simp [toDs, ih (by simp at h; omega)]
 simp [Bg, this, h]
@[simp] theorem ajt : Bg [] = some (.d (.tuple [])) := rfl
@[simp] theorem ajs (a : PyData) : Bg [.d a] = some (.d (.tuple [a])) := Pr [a] (by show 1 ≤ sizeLine; decide)
@[simp] theorem ajr (a b : PyData) : Bg [.d a, .d b] = some (.d (.tuple [a, b])) := Pr [a, b] (by show 2 ≤ sizeLine; decide)
@[simp] theorem ajq (a b c : PyData) : Bg [.d a, .d b, .d c] = some (.d (.tuple [a, b, c])) := Pr [a, b, c] (by show 3 ≤ sizeLine; decide)
@[simp] theorem ajp (a b c d : PyData) : Bg [.d a, .d b, .d c, .d d] = some (.d (.tuple [a, b, c, d])) := Pr [a, b, c, d] (by show 4 ≤ sizeLine; decide)
theorem Px (ps : List PyData) (h : ps.length ≤ sizeLine) : BR (ps.map Va.d) = some (.d (.list ps)) := by
 have : toDs (ps.map Va.d) = some ps := by
  induction ps with
  | nil => rfl
  | cons p ps ih => simp [toDs, ih (by simp at h; omega)]
 simp [BR, this, h]
@[simp] theorem ajz : BR [] = some (.d (.list [])) := rfl
@[simp] theorem ajy (a : PyData) : BR [.d a] = some (.d (.list [a])) := Px [a] (by show 1 ≤ sizeLine; decide)
@[simp] theorem agM (a b : PyData) : BR [.d a, .d b] = some (.d (.list [a, b])) := Px [a, b] (by show 2 ≤ sizeLine; decide)
@[simp] theorem ajx (a b c : PyData) : BR [.d a, .d b, .d c] = some (.d (.list [a, b, c])) := Px [a, b, c] (by show 3 ≤ sizeLine; decide)
@[simp] theorem ajw (a b c d : PyData) : BR [.d a, .d b, .d c, .d d] = some (.d (.list [a, b, c, d])) := Px [a, b, c, d] (by show 4 ≤ sizeLine; decide)
theorem atI_nat {α : Type} {xs : List α} {n : Nat} {x : α} (h : xs[n]? = some x) : atI xs (n : Int) = some x := by
 have hn : n < xs.length := (List.getElem?_eq_some_iff.mp h).1
 have : ixN xs.length (n : Int) = some n := by
  unfold ixN
  rw [if_pos (by omega), if_pos (by omega)]; simp
 simp [atI, this, h]
theorem adi {xs : List PyData} {n : Nat} {x : PyData} (h : xs[n]? = some x) : gIx (.d (.list xs)) (.d (.int n)) = some (.d x) := by simp [gIx, hIx, atI_nat h]
theorem afd {xs : List PyData} {n : Nat} {x : PyData} (h : xs[n]? = some x) : gIx (.d (.tuple xs)) (.d (.int n)) = some (.d x) := by simp [gIx, hIx, atI_nat h]
@[simp] theorem agN (x : PyData) (xs : List PyData) : gIx (.d (.tuple (x :: xs))) (.d (.int 0)) = some (.d x) := afd (n := 0) rfl
@[simp] theorem ai4 (x y : PyData) (xs : List PyData) : gIx (.d (.tuple (x :: y :: xs))) (.d (.int 1)) = some (.d y) := afd (n := 1) rfl
@[simp] theorem ai6 (x : PyData) (xs : List PyData) : gIx (.d (.list (x :: xs))) (.d (.int 0)) = some (.d x) := adi (n := 0) rfl
@[simp] theorem ai5 (x y : PyData) (xs : List PyData) : gIx (.d (.list (x :: y :: xs))) (.d (.int 1)) = some (.d y) := adi (n := 1) rfl
abbrev nI (n : Nat) : PyData := .int (n : Int)
theorem Io (n : Nat) (h : n < 2 ^ 62) : Jg [.d (.int (n : Int))] = some ((List.range n).map nI) := by
 have : Uv (n : Int) = true := by
  simp only [Uv, Bool.and_eq_true, decide_eq_true_eq]
  omega
 simp only [Jg, this, if_true, rngL]
 simp
theorem Xn {α : Type} (f : α → PyData) (xs : List α) : TY [.d (.tuple (xs.map f))] = some (xs.zipIdx.map fun q => .tuple [nI q.2, f q.1]) := by
 simp [TY, Xo, List.mapIdx_eq_zipIdx_map, List.zipIdx_map, Function.comp_def]
theorem U0 {bs : List Nat} {p q : PyData} (h : fits bs p = true) : Z6 p q = none := by
 cases p with
 | str x => cases bs <;> simp [fits] at h
 | _ => rfl
theorem Xg {bs cs : List Nat} {p q : PyData} (h : fits bs p = true) (h' : fits cs q = true) (hb : bs.length ≤ 60 := by decide) (hc : cs.length ≤ 60 := by decide) {k : Bool} (hk : k = true ↔ p = q) : gEq (.d p) (.d q) = some (.d (.bool k)) := by
 have e : PyData.eqv p q = k := by
  rw [Bool.eq_iff_iff, eqv_iff h h', hk]
 simp [gEq, hEq, U0 h, ab1 h h' hb hc, e]
theorem Zx {bs cs : List Nat} {p q : PyData} (h : fits bs p = true) (h' : fits cs q = true) (hb : bs.length ≤ 60 := by decide) (hc : cs.length ≤ 60 := by decide) {k : Bool} (hk : k = true ↔ p = q) : gNe (.d p) (.d q) = some (.d (.bool (!k))) := by
 have e : PyData.eqv p q = k := by
  rw [Bool.eq_iff_iff, eqv_iff h h', hk]
 simp [gNe, hEq, U0 h, ab1 h h' hb hc, e]
@[simp] theorem aio (i j : Int) : gEq (.d (.int i)) (.d (.int j)) = some (.d (.bool (decide (i = j)))) := Xg (bs := []) (cs := []) rfl rfl (by decide) (by decide) (by simp)
@[simp] theorem ail (i j : Int) : gNe (.d (.int i)) (.d (.int j)) = some (.d (.bool (!decide (i = j)))) := Zx (bs := []) (cs := []) rfl rfl (by decide) (by decide) (by simp)
section
variable {α : Type} {t : TF} {body : SF} {c : DB} {e : DF} {f g : α → PyData} {env : En}
theorem Tu {xs : List α} {env : En} (I : List α → En → Prop) (h0 : I [] env) (hs : ∀ done x rest env, xs = done ++ x :: rest → I done env → ∃ env', bnd (ofO (t (.d (f x)) env)) body = ret (.nx, env') ∧ I (done ++ [x]) env') :
  ∃ env', JM t body (xs.map f) env = ret (.nx, env') ∧ I xs env' := by
 suffices H : ∀ (rest done : List α) (env : En), xs = done ++ rest → I done env → ∃ env', JM t body (rest.map f) env = ret (.nx, env') ∧ I xs env' from H xs [] env rfl h0
 intro rest
 induction rest with
 | nil => intro done env e h; rw [List.append_nil] at e; exact ⟨env, rfl, e ▸ h⟩
 | cons x rest ih =>
  intro done env e h
  obtain ⟨env1, h1, h2⟩ := hs done x rest env e h
  obtain ⟨env2, h3, h4⟩ := ih (done ++ [x]) env1 (by rw [e]; simp) h2
  refine ⟨env2, ?_, h4⟩
  rw [List.map_cons]
  show bnd (ofO (t (.d (f x)) env)) (fun env1 => bnd (body env1) _) = _
  rw [← Ij, h1]
  exact h3
theorem ac6 {xs : List α} {env : En} {S : Sto} (I : List α → En → Sto → Prop) (h0 : I [] env S) (hs : ∀ done x rest env S, xs = done ++ x :: rest → I done env S → (bnd (ofO (t (.d (f x)) env)) body S).sat (fun r S' => r.1 = .nx ∧ I (done ++ [x]) r.2 S') (fun _ _ => False)) :
  (JM t body (xs.map f) env S).sat (fun r S' => r.1 = .nx ∧ I xs r.2 S') (fun _ _ => False) := by
 suffices H : ∀ (rest done : List α) (env : En) (S : Sto), xs = done ++ rest → I done env S → (JM t body (rest.map f) env S).sat (fun r S' => r.1 = .nx ∧ I xs r.2 S') (fun _ _ => False) from H xs [] env S rfl h0
 intro rest
 induction rest with
 | nil => intro done env S e h; rw [List.append_nil] at e; exact ⟨rfl, e ▸ h⟩
 | cons x rest ih =>
  intro done env S e h
  have h1 := hs done x rest env S e h
  rw [List.map_cons]
  show (bnd (ofO (t (.d (f x)) env)) (fun env1 => bnd (body env1) _) S).sat _ _
  rw [← Ij]
  refine Ad.mpr (h1.mono (fun r S1 q => ?_) fun _ _ q => q)
  obtain ⟨fl, env1⟩ := r
  obtain ⟨q1, q2⟩ := q
  dsimp only at q1
  subst q1
  exact ih (done ++ [x]) env1 S1 (by rw [e]; simp) q2
theorem Ug {b : α → Bool} : ∀ {xs : List α}, (∀ x ∈ xs, ∃ env', t (.d (f x)) env = some env' ∧ c env' = ret (b x) ∧ (b x = true → e env' = ret (.d (g x)))) → Ox t c e env (xs.map f) = ret ((xs.filter b).map g)
 | [], _ => rfl
 | x :: xs, h => by
  obtain ⟨env', h1, h2, h3⟩ := h x (by simp)
  have ih := Ug (xs := xs) fun y hy => h y (by simp [hy])
  show bnd (ofO (t (.d (f x)) env)) _ = _
  rw [h1, G4, BZ, h2, BZ]
  by_cases hb : b x = true
  ·rw [if_pos hb, h3 hb, BZ, List.filter_cons_of_pos hb]
   show bnd (Ox t c e env (xs.map f)) _ = _
   rw [ih]; rfl
  ·rw [if_neg hb, ih, List.filter_cons_of_neg hb]
theorem abw {h : DL} {vs : List Nat} {b : α → Bool} {xs : List α} {env : En} (h1 : h env = ret (xs.map f)) (hl : xs.length ≤ sizeLine) (h2 : ∀ x ∈ xs, ∃ env', t (.d (f x)) (Em (Eh env) vs) = some env' ∧ c env' = ret (b x) ∧ (b x = true → e env' = ret (.d (g x)))) :
  lcA h t c e vs env = ret ((xs.filter b).map g) := by
 unfold lcA
 rw [h1, BZ, if_pos (by simpa using hl), Ug h2]; rfl
theorem agF {h : DL} {vs : List Nat} {b : α → Bool} {xs : List α} {env : En} (h1 : h env = ret (xs.map f)) (hl : xs.length ≤ sizeLine) (h2 : ∀ x ∈ xs, ∃ env', t (.d (f x)) (RP (Em env vs)) = some env' ∧ c env' = ret (b x) ∧ (b x = true → e env' = ret (.d (g x)))) :
  lcC h t c e vs env = ret (.d (.list ((xs.filter b).map g))) := by
 unfold lcC
 rw [h1, BZ, if_pos (by simpa using hl), Ug h2]; rfl
end
theorem aeR {α : Type} {m : M α} {S : Sto} {P : α → Sto → Prop} (h : (m S).sat P (fun _ _ => False)) : (noX m S).sat P (fun _ _ => False) := by
 unfold noX
 cases e : m S with
 | ok a S' => rw [e] at h; exact h
 | exc x S' => rw [e] at h; exact h.elim
 | stuck => rw [e] at h; exact h.elim
theorem aev {n : Nat} {body : SF} {ds : List Va} {v : Va} {env' : En} (h : body (Bj n ds) = ret (.rt v, env')) : noX (runF n body ds) = ret v := by
 funext S
 unfold noX runF
 rw [h]; rfl
theorem Vv {n : Nat} {body : SF} {ds : List Va} {S : Sto} {P : Va → Sto → Prop} (h : (body (Bj n ds) S).sat (fun r S' => ∃ v, r.1 = .rt v ∧ P v S') (fun _ _ => False)) : (noX (runF n body ds) S).sat P (fun _ _ => False) := by
 unfold noX runF
 cases e : body (Bj n ds) S with
 | ok r S' =>
  rw [e] at h
  obtain ⟨v, h1, h2⟩ := h
  obtain ⟨fl, env'⟩ := r
  dsimp only at h1
  subst h1
  exact h2
 | exc x S' => rw [e] at h; exact h.elim
 | stuck => rw [e] at h; exact h.elim
section
variable {α β : Type} [DecidableEq α] [DecidableEq β]
def fstep (fs : List α) (x : α) : List α := if x ∈ fs then fs else fs ++ [x]
def firsts (xs : List α) : List α := xs.foldl fstep []
def numb (xs : List α) : List Nat := xs.map fun x => (firsts xs).idxOf x
theorem Dm (xs : List α) (x : α) : firsts (xs ++ [x]) = fstep (firsts xs) x := by simp [firsts]
theorem Tj {fs : List α} {x y : α} : y ∈ fstep fs x ↔ y ∈ fs ∨ y = x := by
 unfold fstep
 split
 ·constructor
  ·exact .inl
  ·rintro (h | rfl)
   ·exact h
   ·assumption
 ·simp
theorem Ew {C : List α → Prop} (h0 : C []) (h1 : ∀ xs x, C xs → C (xs ++ [x])) (xs : List α) : C xs := by
 suffices H : ∀ ys : List α, C ys.reverse by simpa using H xs.reverse
 intro ys
 induction ys with
 | nil => exact h0
 | cons y ys ih => rw [List.reverse_cons]; exact h1 _ _ ih
theorem Nq {xs : List α} {x : α} : x ∈ firsts xs ↔ x ∈ xs := by
 induction xs using Ew with
 | h0 => simp [firsts]
 | h1 xs y ih => rw [Dm, Tj, ih]; simp
theorem Tc {fs : List α} {x : α} (h : fs.Nodup) : (fstep fs x).Nodup := by
 unfold fstep
 split
 ·exact h
 ·rename_i hx
  rw [List.nodup_append]
  refine ⟨h, by simp, ?_⟩
  intro a ha b hb
  simp at hb
  subst hb
  intro e; subst e; exact hx ha
theorem QW (xs : List α) : (firsts xs).Nodup := by
 induction xs using Ew with
 | h0 => simp [firsts]
 | h1 xs y ih => rw [Dm]; exact Tc ih
theorem abJ {fs : List α} {x y : α} (h : y ∈ fs) : (fstep fs x).idxOf y = fs.idxOf y := by
 unfold fstep
 split
 ·rfl
 ·rw [List.idxOf_append, if_pos h]
theorem Vh (xs : List α) : (firsts xs).length ≤ xs.length := by
 induction xs using Ew with
 | h0 => simp [firsts]
 | h1 xs y ih => rw [Dm]; unfold fstep; split <;> simp <;> omega
theorem Ms (xs : List α) (x : α) : numb (xs ++ [x]) = numb xs ++ [(fstep (firsts xs) x).idxOf x] := by
 unfold numb
 rw [Dm, List.map_append]
 congr 1
 apply List.map_congr_left
 intro y hy
 exact abJ (Nq.mpr hy)
theorem JS (xs : List α) : (numb xs).length = xs.length := by simp [numb]
theorem abK {fs : List α} {x y : α} (hx : x ∈ fs) (hy : y ∈ fs) (e : fs.idxOf x = fs.idxOf y) : x = y := by
 have h1 := List.getElem_idxOf (List.idxOf_lt_length_of_mem hx)
 have h2 := List.getElem_idxOf (List.idxOf_lt_length_of_mem hy)
 rw [← h1, ← h2]
 congr 1
theorem S9 {xs : List α} {i j : Nat} (hi : i < xs.length) (hj : j < xs.length) : (numb xs)[i]'(by simpa [numb]) = (numb xs)[j]'(by simpa [numb]) ↔ xs[i] = xs[j] := by
 simp only [numb, List.getElem_map]
 constructor
 ·exact abK (Nq.mpr (by simp)) (Nq.mpr (by simp))
 ·intro e; rw [e]
theorem U9 : ∀ {xs : List α} {ys : List β}, xs.length = ys.length → (∀ i j (hi : i < xs.length) (hj : j < xs.length) (hi' : i < ys.length) (hj' : j < ys.length), xs[i] = xs[j] ↔ ys[i] = ys[j]) → numb xs = numb ys := by
 suffices H : ∀ (ps : List (α × β)), (∀ p ∈ ps, ∀ q ∈ ps, p.1 = q.1 ↔ p.2 = q.2) → numb (ps.map (·.1)) = numb (ps.map (·.2)) ∧ ∃ fs : List (α × β), (∀ f ∈ fs, f ∈ ps) ∧ firsts (ps.map (·.1)) = fs.map (·.1) ∧ firsts (ps.map (·.2)) = fs.map (·.2) by
  intro xs ys hl h
  have h1 : (xs.zip ys).map (·.1) = xs := by rw [List.map_fst_zip]; omega
  have h2 : (xs.zip ys).map (·.2) = ys := by rw [List.map_snd_zip]; omega
  have := (H (xs.zip ys) (by
   intro p hp q hq
   obtain ⟨i, hi, rfl⟩ := List.getElem_of_mem hp
   obtain ⟨j, hj, rfl⟩ := List.getElem_of_mem hq
   simp only [List.length_zip] at hi hj
   simp only [List.getElem_zip]
   exact h i j (by omega) (by omega) (by omega) (by omega))).1
  rwa [h1, h2] at this
 intro ps
 induction ps using Ew with
 | h0 => exact fun _ => ⟨rfl, [], by simp, rfl, rfl⟩
 | h1 ps p ih =>
  intro h
  obtain ⟨e, fs, hf, f1, f2⟩ := ih fun a ha b hb => h a (by simp [ha]) b (by simp [hb])
  have hmem : p.1 ∈ fs.map (·.1) ↔ p.2 ∈ fs.map (·.2) := by
   simp only [List.mem_map]
   constructor
   ·rintro ⟨q, hq, e⟩
    exact ⟨q, hq, (h q (by simp [hf q hq]) p (by simp)).mp e⟩
   ·rintro ⟨q, hq, e⟩
    exact ⟨q, hq, (h q (by simp [hf q hq]) p (by simp)).mpr e⟩
  have hidx : ∀ gs : List (α × β), (∀ g ∈ gs, g ∈ ps ++ [p]) → (gs.map (·.1)).idxOf p.1 = (gs.map (·.2)).idxOf p.2 := by
   intro gs
   induction gs with
   | nil => intro _; rfl
   | cons g gs ih2 =>
    intro hg
    have := h g (hg g (by simp)) p (by simp)
    simp only [List.map_cons, List.idxOf_cons]
    by_cases e1 : g.1 = p.1
    ·have e2 := this.mp e1
     simp [e1, e2]
    ·have e2 : ¬ g.2 = p.2 := fun z => e1 (this.mpr z)
     simp only [beq_iff_eq, e1, e2, cond_false, Bool.cond_eq_ite, if_false, if_neg]
     rw [ih2 fun z hz => hg z (by simp [hz])]
  simp only [List.map_append, List.map_cons, List.map_nil]
  rw [Ms, Ms, e, Dm, Dm, f1, f2]
  by_cases hp : p.1 ∈ fs.map (·.1)
  ·have hp2 := hmem.mp hp
   unfold fstep
   rw [if_pos hp, if_pos hp2, hidx fs fun g hg => by simp [hf g hg]]
   exact ⟨rfl, fs, fun f hf' => by simp [hf f hf'], rfl, rfl⟩
  ·have hp2 : ¬ p.2 ∈ fs.map (·.2) := fun z => hp (hmem.mpr z)
   unfold fstep
   rw [if_neg hp, if_neg hp2]
   have := hidx (fs ++ [p]) (by
    intro g hg
    rcases List.mem_append.mp hg with z | z
    ·simp [hf g z]
    ·simp at z; simp [z])
   simp only [List.map_append, List.map_cons, List.map_nil] at this
   refine ⟨by rw [this], fs ++ [p], ?_, by simp, by simp⟩
   intro g hg
   rcases List.mem_append.mp hg with z | z
   ·simp [hf g z]
   ·simp at z; simp [z]
theorem W7 (xs : List α) : numb (numb xs) = numb xs :=
 U9 (JS xs) fun i j hi hj hi' hj' => S9 (by simpa [numb] using hi) (by simpa [numb] using hj)
theorem SQ {xs : List α} {n : Nat} (h : n ∈ numb xs) : n < xs.length := by
 simp only [numb, List.mem_map] at h
 obtain ⟨x, hx, rfl⟩ := h
 exact Nat.lt_of_lt_of_le (List.idxOf_lt_length_of_mem (Nq.mpr hx)) (Vh xs)
end
abbrev tN (ns : List Nat) : PyData := .tuple (ns.map nI)
abbrev lI (ns : List Nat) : PyData := .list (ns.map nI)
abbrev tT (rows : List (List Nat)) : PyData := .tuple (rows.map tN)
abbrev mM (rows : List (List Nat)) (sh : List Nat) : PyData := .tuple [tT rows, tN sh]
section
variable {α β : Type}
structure Sat (m : M α) (S : Sto) (P : α → Sto → Prop) : Prop where
 out : (m S).sat P (fun _ _ => False)
theorem Sat.bnd {m : M α} {k : α → M β} {S : Sto} {P1 : α → Sto → Prop} {P : β → Sto → Prop} (h : Sat m S P1) (hk : ∀ a S', P1 a S' → Sat (k a) S' P) : Sat (KP.bnd m k) S P :=
 ⟨Ad.mpr (R.sat.mono h.out (fun a S' q => (hk a S' q).out) fun _ _ q => q)⟩
theorem Sat.lift {m : M α} {env : En} {k : α → M (Fl × En)} {S : Sto} {P1 : α → Sto → Prop} {P : Fl × En → Sto → Prop} (h : Sat m S P1) (hk : ∀ a S', P1 a S' → Sat (k a) S' P) : Sat (KP.lift env m k) S P :=
 ⟨Cu.mpr (R.sat.mono h.out (fun a S' q => (hk a S' q).out) fun _ _ q => q.elim)⟩
theorem Sat.ret {a : α} {S : Sto} {P : α → Sto → Prop} (h : P a S) : Sat (KP.ret a) S P := ⟨h⟩
theorem Sat.mono {m : M α} {S : Sto} {P P' : α → Sto → Prop} (h : Sat m S P) (hp : ∀ a S', P a S' → P' a S') : Sat m S P' := ⟨R.sat.mono h.out hp fun _ _ q => q⟩
theorem Sat.run {n : Nat} {body : SF} {ds : List Va} {S : Sto} {P : Va → Sto → Prop} (h : Sat (body (Bj n ds)) S (fun r S' => ∃ v, r.1 = .rt v ∧ P v S')) : Sat (noX (runF n body ds)) S P := ⟨Vv h.out⟩
theorem Sat.seq {f g : SF} {env : En} {S : Sto} {P : Fl × En → Sto → Prop} {P1 : En → Sto → Prop} (h : Sat (f env) S (fun r S' => r.1 = .nx ∧ P1 r.2 S')) (hk : ∀ env' S', P1 env' S' → Sat (g env') S' P) : Sat (sSeq f g env) S P := by
 rw [Vt]
 refine Sat.bnd h fun r S' q => ?_
 obtain ⟨fl, env'⟩ := r
 obtain ⟨q1, q2⟩ := q
 dsimp only at q1
 subst q1
 exact hk env' S' q2
theorem Sat.ok {m : M α} {S : Sto} {P : α → Sto → Prop} (h : Sat m S P) : ∃ a S', m S = .ok a S' ∧ P a S' := by
 have h := h.out
 cases e : m S with
 | ok a S' => rw [e] at h; exact ⟨a, S', rfl, h⟩
 | exc x S' => rw [e] at h; exact h.elim
 | stuck => rw [e] at h; exact h.elim
end
def at0 (ns : List Nat) (i : Nat) : Nat := ns.getD i 0
def atR (rows : List (List Nat)) (i : Nat) : List Nat := rows.getD i []
theorem Fg {ns : List Nat} {i : Nat} (h : i < ns.length) : at0 ns i = ns[i] := by simp [at0, h]
theorem ad6 {ns : List (List Nat)} {i : Nat} (h : i < ns.length) : atR ns i = ns[i] := by simp [atR, h]
theorem Wk {ns : List Nat} {i : Nat} (h : i < ns.length) : at0 ns i ∈ ns := by rw [Fg h]; exact List.getElem_mem h
theorem afG {ns : List (List Nat)} {i : Nat} (h : i < ns.length) : atR ns i ∈ ns := by rw [ad6 h]; exact List.getElem_mem h
theorem YJ {α : Type} {f : α → Nat} {xs : List α} {i : Nat} (h : i < xs.length) : at0 (xs.map f) i = f xs[i] := by
 rw [Fg (by simpa using h)]; simp
theorem Xz {f : Nat → Nat} {n i : Nat} (h : i < n) : at0 ((List.range n).map f) i = f i := by
 rw [YJ (by simpa using h)]; simp
theorem aaM (ns : List Nat) : imm (tN ns) = true := by
 simp only [imm, Qs]
 intro x hx
 obtain ⟨n, _, rfl⟩ := List.mem_map.mp hx
 simp [imm]
theorem afY (rows : List (List Nat)) : imm (tT rows) = true := by
 simp only [imm, Qs]
 intro x hx
 obtain ⟨n, _, rfl⟩ := List.mem_map.mp hx
 exact aaM n
theorem adn (bs : List Nat) (i : Int) : fits bs (.int i) = true := by cases bs <;> simp [fits]
theorem T5 {b : Nat} {bs : List Nat} {ns : List Nat} (h : ns.length ≤ b) : fits (b :: bs) (tN ns) = true := by
 simp only [fits, Bool.and_eq_true, decide_eq_true_eq, List.length_map, List.all_eq_true]
 refine ⟨h, fun x hx => ?_⟩
 obtain ⟨n, _, rfl⟩ := List.mem_map.mp hx
 exact adn _ _
theorem abV {bs : List Nat} {n : Nat} (h : n < 1000) : Jq bs (nI n) = true := by cases bs <;> simp [Jq] <;> omega
theorem V7 {b : Nat} {bs : List Nat} {ns : List Nat} (h : ns.length ≤ b) (hn : ∀ n ∈ ns, n < 1000) : Jq (b :: bs) (tN ns) = true := by
 simp only [Jq, Bool.and_eq_true, decide_eq_true_eq, List.length_map, List.all_eq_true]
 refine ⟨h, fun x hx => ?_⟩
 obtain ⟨n, hm, rfl⟩ := List.mem_map.mp hx
 exact abV (hn n hm)
theorem afg {α : Type} {f : α → PyData} {b : Nat} {bs : List Nat} {xs : List α} (h : xs.length ≤ b) (hx : ∀ x ∈ xs, Jq bs (f x) = true) : Jq (b :: bs) (.tuple (xs.map f)) = true := by
 simp only [Jq, Bool.and_eq_true, decide_eq_true_eq, List.length_map, List.all_eq_true]
 refine ⟨h, fun x hx' => ?_⟩
 obtain ⟨n, hn, rfl⟩ := List.mem_map.mp hx'
 exact hx n hn
theorem abU {b : Nat} {bs : List Nat} {xs : List PyData} (h : xs.length ≤ b) (hx : ∀ x ∈ xs, Jq bs x = true) : Jq (b :: bs) (.tuple xs) = true := by
 simp only [Jq, Bool.and_eq_true, decide_eq_true_eq, List.all_eq_true]; exact ⟨h, hx⟩
theorem all2 {p : PyData → Prop} {a b : PyData} (h1 : p a) (h2 : p b) : ∀ x ∈ [a, b], p x := fun x hx => by
 simp only [List.mem_cons, List.not_mem_nil, or_false] at hx
 rcases hx with e | e
 ·rw [e]; exact h1
 ·rw [e]; exact h2
@[simp] theorem ain (x y : Str) : gEq (.d (.str x)) (.d (.str y)) = some (.d (.bool (decide (x = y)))) := by simp [gEq, hEq, Z6]
@[simp] theorem abS (x y : Str) : gNe (.d (.str x)) (.d (.str y)) = some (.d (.bool (!decide (x = y)))) := by simp [gNe, hEq, Z6]
@[simp] theorem ahx (p : PyData) : abR (.d p) (.d .none) = some (vB (!KP.isNon p)) := rfl
@[simp] theorem aim (p : PyData) : gIsN (.d p) (.d .none) = some (vB (KP.isNon p)) := rfl
@[simp] theorem afR : KP.isNon .none = true := rfl
@[simp] theorem agH (xs : List PyData) : KP.isNon (.tuple xs) = false := rfl
@[simp] theorem afS (xs : List PyData) : KP.isNon (.list xs) = false := rfl
@[simp] theorem agI (i : Int) : KP.isNon (.int i) = false := rfl
theorem agz {a b : Nat} : nI a = nI b ↔ a = b := by
 constructor
 ·intro h; injection h with h; omega
 ·rintro rfl; rfl
theorem aaj {a b : List Nat} : a.map nI = b.map nI ↔ a = b := by
 refine ⟨fun h => (List.map_inj_right (f := nI) fun x y e => agz.mp e).mp h, fun h => by rw [h]⟩
theorem af5 {a b : List Nat} : tN a = tN b ↔ a = b := by
 constructor
 ·intro h; injection h with h; exact aaj.mp h
 ·rintro rfl; rfl
theorem QG (ns : List Nat) : Oe (ns.map nI) = some (ns.map fun n : Nat => (n : Int)) := by
 induction ns with
 | nil => rfl
 | cons n ns ih => simp [Oe, ih]
def maxN : List Nat → Nat
 | [] => 0
 | n :: ns => max n (maxN ns)
theorem Yq {ns : List Nat} {n : Nat} (h : n ∈ ns) : n ≤ maxN ns := by
 induction ns with
 | nil => simp at h
 | cons m ns ih =>
  simp only [maxN]
  rcases List.mem_cons.mp h with e | e
  ·omega
  ·have := ih e; omega
theorem aeV {ns : List Nat} {b : Nat} (h : ∀ n ∈ ns, n ≤ b) : maxN ns ≤ b := by
 induction ns with
 | nil => simp [maxN]
 | cons m ns ih =>
  simp only [maxN]
  have h1 := h m (by simp)
  have h2 := ih fun n hn => h n (by simp [hn])
  omega
theorem Rv : ∀ (ns : List Nat) (n : Nat), maxI (n : Int) (ns.map fun n : Nat => (n : Int)) = ((max n (maxN ns) : Nat) : Int)
 | [], n => by simp [maxI, maxN]
 | m :: ns, n => by
  have ih := Rv ns (if n < m then m else n)
  have e : maxI (n : Int) ((m :: ns).map fun n : Nat => (n : Int)) = maxI (if n < m then m else n : Nat) (ns.map fun n : Nat => (n : Int)) := by
   simp only [maxI, List.map_cons, List.foldl_cons]
   congr 1
   split <;> split <;> omega
  rw [e, ih, maxN]
  congr 1
  split <;> omega
theorem ac3 {ns : List Nat} (h : ns ≠ []) : on1 hMax [.d (tN ns)] = some (.d (nI (maxN ns))) := by
 cases ns with
 | nil => exact absurd rfl h
 | cons n ns =>
  have := QG (n :: ns)
  simp only [List.map_cons] at this
  simp only [on1, hMax, seqD, Option.bind_some, List.map_cons, this, Rv, maxN]
theorem ah8 {ns : List Nat} (h : ns ≠ []) : on1 hMax [.d (lI ns)] = some (.d (nI (maxN ns))) := by
 cases ns with
 | nil => exact absurd rfl h
 | cons n ns =>
  have := QG (n :: ns)
  simp only [List.map_cons] at this
  simp only [on1, hMax, seqD, Option.bind_some, List.map_cons, this, Rv, maxN]
section
variable {α β : Type}
@[simp] theorem ahD (env : En) (F : List Va → M Va) (fa : DFA) : Ao true F fa env = bnd (fa env) fun vs => if vs.all isD = true then bnd (alone (F vs)) (fun r => if isD r = true then ret r else no) else no := rfl
@[simp] theorem ahE (env : En) (F : List Va → M Va) (fa : DFA) : Ao false F fa env = bnd (fa env) fun vs => if vs.all isD = true then bnd (alone (noX (F vs))) (fun r => if isD r = true then ret r else no) else no := rfl
@[simp] theorem aiU (k : Bool) : isD (vB k) = true := rfl
@[simp] theorem aji (k : Bool) : (vB k).asD = some (.bool k) := rfl
@[simp] theorem ahR (k : Bool) : svOf (vB k) = .d (.bool k) := rfl
@[simp] theorem aiE {γ : Type} (m : M α) (f : α → M β) (g : β → M γ) : bnd (bnd m f) g = bnd m fun a => bnd (f a) g := Ij m f g
def Pu (m : M α) (P : α → Prop) : Prop := ∃ a, m = ret a ∧ P a
theorem Pu.ret {a : α} {P : α → Prop} (h : P a) : Pu (KP.ret a) P := ⟨a, rfl, h⟩
theorem Pu.bnd {m : M α} {k : α → M β} {P1 : α → Prop} {P : β → Prop} (h : Pu m P1) (hk : ∀ a, P1 a → Pu (k a) P) : Pu (KP.bnd m k) P := by
 obtain ⟨a, rfl, h⟩ := h
 exact hk a h
theorem Pu.mono {m : M α} {P P' : α → Prop} (h : Pu m P) (hp : ∀ a, P a → P' a) : Pu m P' := by
 obtain ⟨a, e, h⟩ := h
 exact ⟨a, e, hp a h⟩
theorem Pu.eq {m : M α} {v : α} (h : Pu m fun a => a = v) : m = KP.ret v := by
 obtain ⟨a, e, rfl⟩ := h
 exact e
theorem Pu.of {m : M α} {v : α} {P : α → Prop} (h : m = KP.ret v) (hp : P v) : Pu m P := ⟨v, h, hp⟩
theorem Pu.sat {m : M α} {S : Sto} {P : α → Prop} (h : Pu m P) : Sat m S fun a S' => P a ∧ S' = S := by
 obtain ⟨a, rfl, h⟩ := h
 exact ⟨⟨h, rfl⟩⟩
def fin : Fl × En → M Va := fun r => match r.1 with
 | .rt v => ret v
 | .nx => ret (.d .none)
 | _ => no
@[simp] theorem aja (v : Va) (env : En) : fin (.rt v, env) = ret v := rfl
@[simp] theorem ajb (env : En) : fin (.nx, env) = ret (.d .none) := rfl
theorem Ji {n : Nat} {body : SF} {ds : List Va} {v : Va} (h : bnd (body (Bj n ds)) fin = ret v) : noX (runF n body ds) = ret v := by
 funext S
 have hS := congrFun h S
 unfold noX runF
 unfold bnd at hS
 cases e : body (Bj n ds) S with
 | ok r S' =>
  rw [e] at hS
  obtain ⟨fl, env'⟩ := r
  cases fl <;> first | exact hS | (simp [fin, no, ret] at hS)
 | exc x S' => rw [e] at hS; simp [ret] at hS
 | stuck => rw [e] at hS; simp [ret] at hS
theorem Pu.run {n : Nat} {body : SF} {ds : List Va} {P : Va → Prop} (h : Pu (KP.bnd (body (Bj n ds)) fin) P) : Pu (noX (runF n body ds)) P := by
 obtain ⟨v, e, h⟩ := h
 exact ⟨v, Ji e, h⟩
theorem Sat.runF {n : Nat} {body : SF} {ds : List Va} {S : Sto} {P : Va → Sto → Prop} (h : Sat (KP.bnd (body (Bj n ds)) fin) S P) : Sat (noX (KP.runF n body ds)) S P := by
 obtain ⟨v, S', e, h⟩ := h.ok
 refine ⟨?_⟩
 unfold noX KP.runF
 unfold KP.bnd at e
 cases e1 : body (Bj n ds) S with
 | ok r S1 =>
  rw [e1] at e
  obtain ⟨fl, env'⟩ := r
  cases fl with
  | rt w => cases e; exact h
  | nx => cases e; exact h
  | bk => cases e
  | ct => cases e
  | xc x => cases e
 | exc x S' => rw [e1] at e; cases e
 | stuck => rw [e1] at e; cases e
theorem Pu.loop {t : TF} {body : SF} {f : α → PyData} {xs : List α} {env : En} (I : List α → En → Prop) (h0 : I [] env) (hs : ∀ done x rest env, xs = done ++ x :: rest → I done env → Pu (KP.bnd (ofO (t (.d (f x)) env)) body) fun r => r.1 = .nx ∧ I (done ++ [x]) r.2) :
  Pu (JM t body (xs.map f) env) fun r => r.1 = .nx ∧ I xs r.2 := by
 obtain ⟨env', h1, h2⟩ := Tu (t := t) (body := body) (f := f) (xs := xs) (env := env) I h0 (by
  intro done x rest env e hI
  obtain ⟨⟨fl, env'⟩, h1, h2, h3⟩ := hs done x rest env e hI
  dsimp only at h2
  subst h2
  exact ⟨env', h1, h3⟩)
 exact ⟨_, h1, rfl, h2⟩
theorem Sat.loop {t : TF} {body : SF} {f : α → PyData} {xs : List α} {env : En} {S : Sto} (I : List α → En → Sto → Prop) (h0 : I [] env S) (hs : ∀ done x rest env S, xs = done ++ x :: rest → I done env S → Sat (KP.bnd (ofO (t (.d (f x)) env)) body) S (fun r S' => r.1 = .nx ∧ I (done ++ [x]) r.2 S')) :
  Sat (JM t body (xs.map f) env) S (fun r S' => r.1 = .nx ∧ I xs r.2 S') := ⟨ac6 I h0 fun done x rest env S e h => (hs done x rest env S e h).out⟩
variable {t : TF} {c : DB} {e : DF} {f g : α → PyData} {vs : List Nat} {b : α → Bool} {xs : List α} {env : En} {h : DL}
theorem SN {o : Option En} {k : En → M β} {r : β} (h : KP.bnd (ofO o) k = KP.ret r) : ∃ env', o = some env' ∧ k env' = KP.ret r := by
 cases o with
 | none => have := congrFun h []; simp [KP.bnd, ofO, KP.ret, no] at this
 | some env' => exact ⟨env', rfl, h⟩
theorem Ot (h1 : h env = KP.ret (xs.map f)) (hl : xs.length ≤ sizeLine) (h2 : ∀ x ∈ xs, KP.bnd (ofO (t (.d (f x)) (Em (Eh env) vs))) e = KP.ret (.d (g x))) : lcA h t bYes e vs env = KP.ret (xs.map g) := by
 have := abw (t := t) (c := bYes) (e := e) (b := fun _ => true) (g := g) (vs := vs) h1 hl fun x hx => by
  obtain ⟨env', e1, e2⟩ := SN (h2 x hx)
  exact ⟨env', e1, rfl, fun _ => e2⟩
 rwa [show xs.filter (fun _ => true) = xs from List.filter_eq_self.mpr fun _ _ => rfl] at this
theorem VR (h1 : h env = KP.ret (xs.map f)) (hl : xs.length ≤ sizeLine) (h2 : ∀ x ∈ xs, KP.bnd (ofO (t (.d (f x)) (Em (Eh env) vs))) c = KP.ret (b x)) (h3 : ∀ x ∈ xs, b x = true → KP.bnd (ofO (t (.d (f x)) (Em (Eh env) vs))) e = KP.ret (.d (g x))) : lcA h t c e vs env = KP.ret ((xs.filter b).map g) :=
 abw h1 hl fun x hx => by
  obtain ⟨env', e1, e2⟩ := SN (h2 x hx)
  refine ⟨env', e1, e2, fun hb => ?_⟩
  have := h3 x hx hb
  rw [e1] at this
  exact this
theorem ae0 (h1 : h env = KP.ret (xs.map f)) (hl : xs.length ≤ sizeLine) (h2 : ∀ x ∈ xs, KP.bnd (ofO (t (.d (f x)) (RP (Em env vs)))) e = KP.ret (.d (g x))) : lcC h t bYes e vs env = KP.ret (.d (.list (xs.map g))) := by
 have := agF (t := t) (c := bYes) (e := e) (b := fun _ => true) (g := g) (vs := vs) h1 hl fun x hx => by
  obtain ⟨env', e1, e2⟩ := SN (h2 x hx)
  exact ⟨env', e1, rfl, fun _ => e2⟩
 rwa [show xs.filter (fun _ => true) = xs from List.filter_eq_self.mpr fun _ _ => rfl] at this
end
section
variable {α β γ : Type}
theorem Sat.lb {m : M α} {f : α → M β} {env : En} {k : β → M (Fl × En)} {K : Fl × En → M γ} {S : Sto} {P1 : α → Sto → Prop} {P : γ → Sto → Prop} (h : Sat m S P1) (hk : ∀ a S', P1 a S' → Sat (KP.bnd (KP.lift env (f a) k) K) S' P) : Sat (KP.bnd (KP.lift env (KP.bnd m f) k) K) S P := by
 obtain ⟨a, S', e, q⟩ := h.ok
 have e2 : KP.bnd (KP.lift env (KP.bnd m f) k) K S = KP.bnd (KP.lift env (f a) k) K S' := by simp only [KP.bnd, KP.lift, e]
 refine ⟨?_⟩
 rw [e2]
 exact (hk a S' q).out
theorem Sat.l {m : M α} {env : En} {k : α → M (Fl × En)} {K : Fl × En → M γ} {S : Sto} {P1 : α → Sto → Prop} {P : γ → Sto → Prop} (h : Sat m S P1) (hk : ∀ a S', P1 a S' → Sat (KP.bnd (k a) K) S' P) : Sat (KP.bnd (KP.lift env m k) K) S P := by
 obtain ⟨a, S', e, q⟩ := h.ok
 have e2 : KP.bnd (KP.lift env m k) K S = KP.bnd (k a) K S' := by simp only [KP.bnd, KP.lift, e]
 refine ⟨?_⟩
 rw [e2]
 exact (hk a S' q).out
theorem Sat.lcA {t : TF} {e : DF} {f : α → PyData} {q : β → PyData} {vs : List Nat} {xs : List α} {env : En} {h : DL} {S : Sto} (I : List β → Sto → Prop) (h1 : h env = KP.ret (xs.map f)) (hl : xs.length ≤ sizeLine) (h0 : I [] S)
  (hs : ∀ x ∈ xs, ∀ acc S, acc.length < xs.length → I acc S → Sat (KP.bnd (ofO (t (.d (f x)) (Em (Eh env) vs))) e) S fun v S' => ∃ y, v = .d (q y) ∧ I (acc ++ [y]) S') :
  Sat (KP.lcA h t bYes e vs env) S fun ps S' => ∃ ys, ps = ys.map q ∧ ys.length = xs.length ∧ I ys S' := by
 unfold KP.lcA
 rw [h1, BZ, if_pos (by simpa using hl)]
 suffices H : ∀ (rest : List α) (acc : List β) (S : Sto), acc.length + rest.length = xs.length → (∀ x ∈ rest, x ∈ xs) → I acc S → Sat (Ox t bYes e (Em (Eh env) vs) (rest.map f)) S fun ps S' => ∃ ys, ps = ys.map q ∧ ys.length = rest.length ∧ I (acc ++ ys) S' by
  refine ⟨aeR ((H xs [] S (by simp) (fun _ h => h) h0).mono ?_).out⟩
  rintro ps S' ⟨ys, e, hl, hI⟩
  exact ⟨ys, e, hl, by simpa using hI⟩
 intro rest
 induction rest with
 | nil => intro acc S _ _ hI; exact Sat.ret ⟨[], rfl, rfl, by simpa using hI⟩
 | cons x rest ih =>
  intro acc S hlen hm hI
  have := hs x (hm x (by simp)) acc S (by simp at hlen; omega) hI
  cases ho : t (.d (f x)) (Em (Eh env) vs) with
  | none => rw [ho] at this; exact (show False from this.out).elim
  | some env' =>
   rw [ho] at this
   show Sat (KP.bnd (ofO (t (.d (f x)) (Em (Eh env) vs))) _) S _
   rw [ho, G4, BZ]
   show Sat (KP.bnd (bYes env') _) S _
   rw [afF, BZ, if_pos rfl]
   refine Sat.bnd this ?_
   intro v S1 hv
   obtain ⟨y, hv, hy⟩ := hv
   rw [hv]
   refine Sat.bnd (ih (acc ++ [y]) S1 (by simp at hlen ⊢; omega) (fun z hz => hm z (by simp [hz])) hy) ?_
   intro ps S2 hps
   obtain ⟨ys, e2, hl2, hI2⟩ := hps
   exact Sat.ret ⟨y :: ys, by rw [e2]; rfl, by simp [hl2], by simpa using hI2⟩
end
@[simp] theorem aha (env : En) (fo f : DF) : ahb fo f env = bnd (fo env) fun v => bnd (ofO v.Wl) fun xs => bnd (f env) fun w => ofO (adZ xs w) := rfl
theorem ixN_nat {n k : Nat} (h : k < n) : ixN n (k : Int) = some k := by
 unfold ixN
 rw [if_pos (by omega), if_pos (by omega)]; simp
@[simp] theorem agh (env : En) (i : Nat) (fk f : DF) : agi i fk f env = lift env (f env) fun v => bnd (ofO v.asD) fun x => bnd (ofO ((lk env i).bind Sv.asDD)) fun d => lift env (fk env) fun kv => bnd (ofO kv.asD) fun k => bnd (ofO (d.put k x)) fun d' => ret (.nx, env.set i (some (.dd d'))) := rfl
@[simp] theorem ahq (env : En) (i : Nat) (fk f : DF) : aa0 i fk f env = bnd (ofO ((lk env i).bind Sv.asL2)) fun xss => lift env (fk env) fun k => bnd (ofO (k.asI.bind (ixN xss.length))) fun j => bnd (ofO xss[j]?) fun xs => lift env (f env) fun v => bnd (ofO v.asD) fun p =>
 if xs.length < sizeLine then ret (.nx, env.set i (some (.l2 (xss.set j (xs ++ [p]))))) else no := rfl
@[simp] theorem ahm (env : En) (i : Nat) (fk fl f : DF) : ahU i fk fl f env = lift env (f env) fun v => bnd (ofO v.asD) fun p => bnd (ofO ((lk env i).bind Sv.asL2)) fun xss => lift env (fk env) fun k => bnd (ofO (k.asI.bind (ixN xss.length))) fun j => bnd (ofO xss[j]?) fun xs => lift env (fl env) fun l => bnd (ofO (l.asI.bind (ixN xs.length))) fun m =>
 ret (.nx, env.set i (some (.l2 (xss.set j (xs.set m p))))) := rfl
@[simp] theorem aho (env : En) (f : DL) (t : TF) (e : DLs) (vs : List Nat) (i : Nat) : aaX f t e vs i env = lift env (f env) fun ps => if ps.length ≤ sizeLine ∧ i < env.length then bnd (noX (YF t e (Em (Eh env) vs) ps)) (fun xss => ret (.nx, env.set i (some (.l2 xss)))) else no := rfl
theorem Uh {α : Type} {t : TF} {e : DLs} {env : En} {f : α → PyData} {g : α → List PyData} : ∀ {xs : List α}, (∀ x ∈ xs, bnd (ofO (t (.d (f x)) env)) e = ret (g x)) → YF t e env (xs.map f) = ret (xs.map g)
 | [], _ => rfl
 | x :: xs, h => by
  obtain ⟨env', e1, e2⟩ := SN (h x (by simp))
  have ih := Uh (xs := xs) fun y hy => h y (by simp [hy])
  show bnd (ofO (t (.d (f x)) env)) _ = _
  rw [e1, G4, BZ, e2, BZ]
  show bnd (YF t e env (xs.map f)) _ = _
  rw [ih]; rfl
theorem Gu {n x : Nat} {done rest : List Nat} (h : List.range n = done ++ x :: rest) : x = done.length ∧ x < n := by
 have h1 : (List.range n)[done.length]? = some x := by rw [h]; simp
 have h2 : done.length < n := by
  have := congrArg List.length h
  simp at this
  omega
 rw [List.getElem?_range h2] at h1
 cases h1
 exact ⟨rfl, h2⟩
theorem aaE {α : Type} {xs : List α} {x : α} {i : Nat} {done rest : List (α × Nat)} (h : xs.zipIdx = done ++ (x, i) :: rest) : i = done.length ∧ i < xs.length ∧ xs[i]? = some x := by
 have h1 : xs.zipIdx[done.length]? = some (x, i) := by rw [h]; simp
 rw [List.getElem?_zipIdx] at h1
 cases e : xs[done.length]? with
 | none => rw [e] at h1; cases h1
 | some y =>
  rw [e] at h1
  simp at h1
  obtain ⟨rfl, rfl⟩ := h1
  exact ⟨rfl, (List.getElem?_eq_some_iff.mp e).1, e⟩
section
variable {α β : Type} {t : TF} {body : SF} {f : α → PyData} {xs : List α} {env : En} {S : Sto}
theorem Pu.for0 {Q : Fl × En → Prop} (I : List α → En → Prop) (h0 : I [] env) (hs : ∀ done x rest env (Q : Fl × En → Prop), xs = done ++ x :: rest → I done env → (∀ env', I (done ++ [x]) env' → Q (.nx, env')) → Pu (KP.bnd (ofO (t (.d (f x)) env)) body) Q) (hk : ∀ env', I xs env' → Q (.nx, env')) : Pu (JM t body (xs.map f) env) Q :=
 (Pu.loop I h0 fun done x rest env e hI => hs done x rest env _ e hI fun env' h => ⟨rfl, h⟩).mono fun ⟨fl, env'⟩ ⟨h1, h2⟩ => by
  dsimp only at h1
  subst h1
  exact hk env' h2
theorem Pu.for_ {k : Fl × En → M β} {P : β → Prop} (I : List α → En → Prop) (h0 : I [] env) (hs : ∀ done x rest env (Q : Fl × En → Prop), xs = done ++ x :: rest → I done env → (∀ env', I (done ++ [x]) env' → Q (.nx, env')) → Pu (KP.bnd (ofO (t (.d (f x)) env)) body) Q) (hk : ∀ env', I xs env' → Pu (k (.nx, env')) P) : Pu (KP.bnd (JM t body (xs.map f) env) k) P :=
 Pu.bnd (Pu.for0 (Q := fun r => Pu (k r) P) I h0 hs hk) fun _ h => h
theorem Sat.for0 {Q : Fl × En → Sto → Prop} (I : List α → En → Sto → Prop) (h0 : I [] env S) (hs : ∀ done x rest env S (Q : Fl × En → Sto → Prop), xs = done ++ x :: rest → I done env S → (∀ env' S', I (done ++ [x]) env' S' → Q (.nx, env') S') → Sat (KP.bnd (ofO (t (.d (f x)) env)) body) S Q) (hk : ∀ env' S', I xs env' S' → Q (.nx, env') S') : Sat (JM t body (xs.map f) env) S Q :=
 (Sat.loop I h0 fun done x rest env S e hI => hs done x rest env S _ e hI fun env' S' h => ⟨rfl, h⟩).mono fun ⟨fl, env'⟩ S' ⟨h1, h2⟩ => by
  dsimp only at h1
  subst h1
  exact hk env' S' h2
theorem Sat.for_ {k : Fl × En → M β} {P : β → Sto → Prop} (I : List α → En → Sto → Prop) (h0 : I [] env S) (hs : ∀ done x rest env S (Q : Fl × En → Sto → Prop), xs = done ++ x :: rest → I done env S → (∀ env' S', I (done ++ [x]) env' S' → Q (.nx, env') S') → Sat (KP.bnd (ofO (t (.d (f x)) env)) body) S Q) (hk : ∀ env' S', I xs env' S' → Sat (k (.nx, env')) S' P) : Sat (KP.bnd (JM t body (xs.map f) env) k) S P :=
 Sat.bnd (Sat.for0 (Q := fun r S' => Sat (k r) S' P) I h0 hs hk) fun _ _ h => h
end
@[simp] theorem ai1 (xs : List PyData) (a b : Option Int) : gSlA (.d (.list xs)) a b = gSlL (.d (.list xs)) a b := rfl
@[simp] theorem ai0 (ns : List Int) (a b : Option Int) : gSlA (.s ns) a b = gSlL (.s ns) a b := rfl
@[simp] theorem TX (xs : List PyData) (a b : Option Int) : gSlA (.d (.tuple xs)) a b = some (.d (.tuple (cutD xs a b))) := rfl
@[simp] theorem aik (xs : List PyData) : abQ (.d (.tuple xs)) = some (.d (.tuple xs.reverse)) := rfl
@[simp] theorem ai9 : gD0 [] = some (.d (.dict [])) := rfl
@[simp] theorem ahG (f : DF) (fs : DFA) (env : En) : aaz f fs env = bnd (f env) fun v => bnd (ofO (Rh v)) fun ps => bnd (fs env) fun vs => ret (ps.map Va.d ++ vs) := rfl
@[simp] theorem ahZ (i : Nat) (g : DLs) (env : En) : sExt i g env = bnd (ofO ((lk env i).bind Sv.asL1)) fun xs => lift env (g env) fun ys => if xs.length + ys.length ≤ sizeLine then ret (.nx, env.set i (some (.l1 (xs ++ ys)))) else no := rfl
@[simp] theorem ahW (i : Nat) (t : TF) (env : En) : sPop i t env = bnd (ofO ((lk env i).bind Sv.asL1)) fun xs => bnd (ofO xs[xs.length - 1]?) fun p => bnd (ofO (t (.d p) (env.set i (some (.l1 xs.dropLast))))) fun env' => ret (.nx, env') := rfl
theorem ac7 {α β : Type} {h h1 : DL} {t t1 : TF} {e : DF} {f : α → PyData} {f1 : β → PyData} {g : α → β → PyData} {vs vs1 : List Nat} {xs : List α} {ys : α → List β} {env : En}
  (h0 : h env = KP.ret (xs.map f)) (hx : ∀ x ∈ xs, ∃ env1, t (.d (f x)) (Em (Eh env) vs) = some env1 ∧ h1 env1 = KP.ret ((ys x).map f1) ∧ ∀ y ∈ ys x, KP.bnd (ofO (t1 (.d (f1 y)) (Em env1 vs1))) e = KP.ret (.d (g x y)))
  (hl : (xs.flatMap fun x => (ys x).map (g x)).length ≤ sizeLine) : lcA2 h t bYes h1 t1 bYes e vs vs1 env = KP.ret (xs.flatMap fun x => (ys x).map (g x)) := by
 have inner : ∀ (x : α) (env1 : En) (zs : List β), (∀ y ∈ zs, KP.bnd (ofO (t1 (.d (f1 y)) env1)) e = KP.ret (.d (g x y))) → Ox t1 bYes e env1 (zs.map f1) = KP.ret (zs.map (g x)) := by
  intro x env1 zs
  induction zs with
  | nil => intro _; rfl
  | cons z zs ih =>
   intro hz
   obtain ⟨env', e1, e2⟩ := SN (hz z (by simp))
   have := ih (fun y hy => hz y (by simp [hy]))
   simp -implicitDefEqProofs [Ox, e1, bYes, e2]
   rw [this]
   simp -implicitDefEqProofs
 have outer : ∀ zs : List α, (∀ x ∈ zs, x ∈ xs) → Q9 t bYes h1 t1 bYes e vs1 (Em (Eh env) vs) (zs.map f) = KP.ret (zs.flatMap fun x => (ys x).map (g x)) := by
  intro zs
  induction zs with
  | nil => intro _; rfl
  | cons z zs ih =>
   intro hz
   obtain ⟨env1, e1, e2, e3⟩ := hx z (hz z (by simp))
   have i1 := inner z _ (ys z) e3
   have i2 := ih fun y hy => hz y (by simp [hy])
   simp -implicitDefEqProofs [Q9, e1, bYes, e2, i1, i2]
 unfold lcA2
 rw [h0]
 have o := outer xs fun x h => h
 rw [BZ, o, BZ, if_pos hl, aeS]
def ag4 : Dk → List PyData
 | .k kvs => (kvs.map (·.1)).map keyP
 | .t kvs => (kvs.map (·.1)).map keyT
def aiv (i : Nat) : DLs := fun env => bnd (ofO ((lk env i).bind Sv.asDD)) fun d => ret (ag4 d)
abbrev DTs := En → M (List (List Key × PyData))
def adW (kvs more : List (List Key × PyData)) : List (List Key × PyData) := more.foldl (fun acc kv => putD acc kv.1 kv.2) kvs
theorem KRep.merge {K : PySem.W.Frag} {Z : Hp} : ∀ {more : List (List Key × V)} {md : List (List Key × PyData)}, KRep K Z more md → ∀ {ks : List (List Key × V)} {kd : List (List Key × PyData)}, KRep K Z ks kd → KRep K Z (agA ks more) (adW kd md)
 | _, _, .nil, _, _, h => h
 | _, _, .cons hv t, _, _, h => KRep.merge t (KRep.put hv h)
def Dk.upd (d : Dk) (ps : List (List Key × PyData)) : Option Dk := match d with
 | .t kvs => if kvs ≠ [] ∧ kvs.length + ps.length ≤ sizeLine then some (.t (adW kvs ps)) else none
 | .k _ => none
def sUpd (i : Nat) (f : DTs) : SF := fun env => bnd (ofO ((lk env i).bind Sv.asDD)) fun d => lift env (f env) fun ps => bnd (ofO (d.upd ps)) fun d' => ret (.nx, env.set i (some (.dd d')))
def lexLe : List Int → List Int → Bool
 | [], _ => true
 | _ :: _, [] => false
 | a :: r, b :: q => if a < b then true else if b < a then false else lexLe r q
theorem Tz : ∀ a b : List Int, lexLe a b = false → lexLe b a = true
 | [], _, h => by simp [lexLe] at h
 | _ :: _, [], _ => rfl
 | a :: r, b :: q, h => by
  unfold lexLe at h ⊢
  by_cases h1 : a < b
  ·simp [h1] at h
  ·by_cases h2 : b < a
   ·simp [h2]
   ·rw [if_neg h1, if_neg h2] at h
    rw [if_neg h2, if_neg h1]
    exact Tz r q h
theorem aak (a : List Int) : lexLe a a = true := by
 cases h : lexLe a a with
 | true => rfl
 | false => rw [Tz a a h] at h; cases h
def agy (fk fv : DF) : DO := fun env => bnd (fk env) fun kv => bnd (ofO (kv.asD.bind G8)) fun k => bnd (fv env) fun xv => bnd (ofO xv.asD) fun x => ret (.dd (.t [(k, x)]))
inductive ORep (K : PySem.W.Frag) (Z : Hp) : Option V → Option PyData → Prop
 | none : ORep K Z none none
 | some {v : V} {p : PyData} : Rep K Z v p → ORep K Z (some v) (some p)
theorem pe_or {X : Cx} {e : Expr} {t t' : TE} (h : PE X e t) (h' : PE X e t') : PE X e (fun σ H Q => t σ H Q ∨ t' σ H Q) := ⟨fun pins s σ H Q I q => q.elim (h.run pins s σ H Q I) (h'.run pins s σ H Q I)⟩
section
variable (env : En)
@[simp] theorem ahB (i : Nat) : aiv i env = bnd (ofO ((lk env i).bind Sv.asDD)) fun d => ret (ag4 d) := rfl
@[simp] theorem agx (fk fv : DF) : agy fk fv env = bnd (fk env) fun kv => bnd (ofO (kv.asD.bind G8)) fun k => bnd (fv env) fun xv => bnd (ofO xv.asD) fun x => ret (.dd (.t [(k, x)])) := rfl
@[simp] theorem ahT (i : Nat) (f : DTs) : sUpd i f env = bnd (ofO ((lk env i).bind Sv.asDD)) fun d => lift env (f env) fun ps => bnd (ofO (d.upd ps)) fun d' => ret (.nx, env.set i (some (.dd d'))) := rfl
end
def keyN (p : List Nat) : List Key := p.map fun x : Nat => (Sum.inl (x : Int) : Key)
def setD (fs : List (List Nat)) : List (List Key × PyData) := fs.map fun p => (keyN p, .bool true)
def putP (fs : List (List Nat)) (p : List Nat) : List (List Nat) := if p ∈ fs then fs else fs ++ [p]
theorem ac2 {fs : List (List Nat)} {p x : List Nat} : x ∈ putP fs p ↔ x ∈ fs ∨ x = p := by
 unfold putP
 split
 ·rename_i h
  exact ⟨.inl, fun z => z.elim id fun e => e ▸ h⟩
 ·simp
theorem aeT {fs : List (List Nat)} {p : List Nat} (h : fs.Nodup) : (putP fs p).Nodup := by
 unfold putP
 split
 ·exact h
 ·rename_i hn
  refine List.nodup_append.mpr ⟨h, by simp, fun a ha b hb => ?_⟩
  rw [List.mem_singleton.mp hb]
  intro e; exact hn (e ▸ ha)
def WQ (fs more : List (List Nat)) : List (List Nat) := more.foldl putP fs
theorem Th : ∀ {more fs : List (List Nat)} {x : List Nat}, x ∈ WQ fs more ↔ x ∈ fs ∨ x ∈ more
 | [], fs, x => by simp [WQ]
 | p :: more, fs, x => by
  show x ∈ WQ (putP fs p) more ↔ _
  rw [Th, ac2, List.mem_cons, or_assoc]
theorem Zj : ∀ {more fs : List (List Nat)}, fs.Nodup → (WQ fs more).Nodup
 | [], _, h => h
 | p :: more, fs, h => Zj (fs := putP fs p) (aeT h)
section
variable {X : Cx} {e : Expr} {td : TE} {apos cpos : Pos}
end
structure Chg (d : Addr) (ks : List (List Key × V)) (Z Z' : Hp) : Prop where
 off : ∀ a, a ≠ d → Z' a = Z a
 ne : ks ≠ []
 at1 : Z d = some (.dT ks) ∨ ∃ o, Z d = some (.frz o (.dT ks))
 at2 : Z' d = some (.dT ks) ∨ ∃ o, Z' d = some (.frz o (.dT ks))
theorem Chg.ned {d : Addr} {ks : List (List Key × V)} {Z Z' : Hp} (c : Chg d ks Z Z') {a : Addr} {u : HO} (h : Z a = some u) (h1 : ∀ l, u ≠ .dT l) (h2 : ∀ o l, u ≠ .frz o (.dT l)) : a ≠ d := fun z => by
 rw [z] at h
 rcases c.at1 with q | ⟨o, q⟩
 ·rw [h] at q; exact h1 _ (Option.some.inj q)
 ·rw [h] at q; exact h2 _ _ (Option.some.inj q)
section
variable {K : PySem.W.Frag} {d : Addr} {ks : List (List Key × V)} {Z Z' : Hp}
theorem aey (c : Chg d ks Z Z') {a : Addr} {l : List (List Key × V)} (r : Rd1 Z a (.dT l) (l ≠ [])) : Rd1 Z' a (.dT l) (l ≠ []) := by
 by_cases e : a = d
 ·subst e
  have el : l = ks := by
   rcases r with r | ⟨_, o, r⟩ <;> rcases c.at1 with q | ⟨o2, q⟩ <;> rw [r] at q <;> cases q <;> rfl
  subst el
  rcases c.at2 with q | ⟨o, q⟩
  ·exact .inl q
  ·exact .inr ⟨c.ne, o, q⟩
 ·rcases r with r | ⟨n, o, r⟩
  ·exact .inl ((c.off _ e).trans r)
  ·exact .inr ⟨n, o, (c.off _ e).trans r⟩
theorem Rep.chg (c : Chg d ks Z Z') {v : V} {p : PyData} (h : Rep K Z v p) : Rep K Z' v p :=
 Rep.rec (motive_1 := fun v p _ => Rep K Z' v p) (motive_2 := fun vs ps _ => Af K Z' vs ps) (motive_3 := fun vs ps _ => RepK K Z' vs ps) (motive_4 := fun vs ps _ => RepT K Z' vs ps)
  .non .bl .int .str (fun s l _ ih => .lst ((c.off _ (c.ned s (fun _ z => nomatch z) (fun _ _ z => nomatch z))).trans s) l ih) (fun s l _ ih => .tup ((c.off _ (c.ned s (fun _ z => nomatch z) (fun _ _ z => nomatch z))).trans s) l ih)
  (fun r _ ih => .dcK (by
   rcases r with r | ⟨n, o, r⟩
   ·exact .inl ((c.off _ (c.ned r (fun _ z => nomatch z) (fun _ _ z => nomatch z))).trans r)
   ·exact .inr ⟨n, o, (c.off _ (c.ned r (fun _ z => nomatch z) (fun _ _ z => nomatch z))).trans r⟩) ih)
  (fun r _ ih => .dcT (aey c r) ih) (fun h0 h1 h2 h3 _ ih => .exc h0 (show Z' _ = some (.ext _) from (c.off _ (c.ned h1 (fun _ z => nomatch z) (fun _ _ z => nomatch z))).trans h1) ((c.off _ (c.ned h2 (fun _ z => nomatch z) (fun _ _ z => nomatch z))).trans h2) h3 ih) (fun h0 h1 => .exc0 h0 (show Z' _ = some (.ext _) from (c.off _ (c.ned h1 (fun _ z => nomatch z) (fun _ _ z => nomatch z))).trans h1)) .nil (fun _ _ i j => .cons i j) .nil (fun _ _ i j => .cons i j) .nil (fun _ _ i j => .cons i j) h
theorem Chg.ext (c : Chg d ks Z Z') {a : Addr} {P : Heap → Prop} (h : Z a = some (.ext P)) : Z' a = some (.ext P) := (c.off _ (c.ned h (fun _ z => nomatch z) (fun _ _ z => nomatch z))).trans h
theorem CRep.chg (c : Chg d ks Z Z') {φ : List Addr} : ∀ {t : List V} {t' : List Fv}, CRep K Z φ t t' → CRep K Z' φ t t'
 | _, _, .nil => .nil
 | _, _, .d h t => .d (Rep.chg c h) (CRep.chg c t)
 | _, _, .c h t => .c h (CRep.chg c t)
theorem FRep.chg (c : Chg d ks Z Z') : ∀ {t : List (Str × V)} {t' : List (Str × PyData)}, FRep K Z t t' → FRep K Z' t t'
 | _, _, .nil => .nil
 | _, _, .cons h t => .cons (Rep.chg c h) (FRep.chg c t)
theorem CloR.chg (c : Chg d ks Z Z') {φ : List Addr} {u : V} {y : Clo} {ds : List Fv} (h : CloR K Z φ u y ds) : CloR K Z' φ u y ds :=
 ⟨h.u, c.ext h.o, let ⟨c0, h1, h2⟩ := h.c; ⟨c0, h1, c.ext h2⟩, h.d.imp id fun ⟨t, h1, h2⟩ => ⟨t, h1, (c.off _ (c.ned h2 (fun _ z => nomatch z) (fun _ _ z => nomatch z))).trans h2⟩, h.w.chg c⟩
theorem Af.chg (c : Chg d ks Z Z') : ∀ {vs : List V} {ps : List PyData}, Af K Z vs ps → Af K Z' vs ps
 | _, _, .nil => .nil
 | _, _, .cons h t => .cons (h.chg c) (Af.chg c t)
theorem KRep.chg {κ : Type} (c : Chg d ks Z Z') : ∀ {vs : List (κ × V)} {ps : List (κ × PyData)}, KRep K Z vs ps → KRep K Z' vs ps
 | _, _, .nil => .nil
 | _, _, .cons h t => .cons (h.chg c) (KRep.chg c t)
theorem aaP (c : Chg d ks Z Z') {a : Addr} {xs : List V} (h : SqL K Z a xs) : SqL K Z' a xs := by
 rcases h with h | h
 ·rcases h with h | ⟨o, h⟩
  ·exact .inl (.inl ((c.off _ (c.ned h (fun _ z => nomatch z) (fun _ _ z => nomatch z))).trans h))
  ·exact .inl (.inr ⟨o, (c.off _ (c.ned h (fun _ z => nomatch z) (fun _ _ z => nomatch z))).trans h⟩)
 ·exact .inr h
theorem Gi.chg (c : Chg d ks Z Z') {H H' : Hp} : ∀ {bs : List Addr} {xss : List (List PyData)}, (∀ b, b ∈ bs → H' b = H b) → Gi K Z H bs xss → Gi K Z' H' bs xss
 | _, _, _, .nil => .nil
 | b :: bs, _, k, .cons h l r t => .cons (by rw [k b List.mem_cons_self]; exact h) l (r.chg c) (Gi.chg c (fun x hx => k x (List.mem_cons_of_mem _ hx)) t)
theorem M6.chg (c : Chg d ks Z Z') {φ : List Addr} {H H' : Hp} {u : V} {F : List Addr} {sv : Sv} (k : ∀ a, a ∈ F → H' a = H a) (h : M6 K Z φ H u F sv) : M6 K Z' φ H' u F sv := by
 cases sv with
 | d q => exact ⟨h.1.chg c, h.2⟩
 | l1 xs =>
  obtain ⟨a, us, h1, h2, h3, h4, h5⟩ := h
  exact ⟨a, us, h1, h2, by rw [k a (by rw [h2]; simp)]; exact h3, h4.chg c, h5⟩
 | l2 xss =>
  obtain ⟨a, bs, h1, h2, h3, h4, h5, h6⟩ := h
  exact ⟨a, bs, h1, h2, h3, by rw [k a (by rw [h2]; simp)]; exact h4, h5.chg c fun b hb => k b (by rw [h2]; exact List.mem_cons_of_mem _ hb), h6⟩
 | dd d =>
  obtain ⟨a, h1, h2, h3⟩ := h
  refine ⟨a, h1, h2, ?_⟩
  have ka := k a (by rw [h2]; simp)
  cases d with
  | k kvs => obtain ⟨ks, q1, q2⟩ := h3; exact ⟨ks, by rw [ka]; exact q1, q2.chg c⟩
  | t kvs => obtain ⟨ks, q1, q2⟩ := h3; exact ⟨ks, by rw [ka]; exact q1, q2.chg c⟩
 | c n => exact h
 | s ns =>
  obtain ⟨⟨a, h1, h2⟩, h3⟩ := h
  exact ⟨⟨a, h1, aaP c h2⟩, h3⟩
 | q y ds => exact ⟨CloR.chg c h.1, h.2⟩
theorem IRep.chg (c : Chg d ks Z Z') {φ : List Addr} : ∀ {t : List (Str × V)} {t' : List (Str × Fv)}, IRep K Z φ t t' → IRep K Z' φ t t'
 | _, _, .nil => .nil
 | _, _, .d h t => .d (Rep.chg c h) (IRep.chg c t)
 | _, _, .c h t => .c h (IRep.chg c t)
theorem Wu.chg (c : Chg d ks Z Z') {φ : List Addr} {H H' : Hp} {a : Addr} {cd : Cd} (k : H' a = H a) (h : Wu K Z φ H a cd) : Wu K Z' φ H' a cd := by
 cases cd with
 | m kvs => obtain ⟨l, q1, q2⟩ := h; exact ⟨l, by rw [k]; exact q1, q2.chg c⟩
 | f xs => obtain ⟨o, us, q1, q2, q3, q4⟩ := h; exact ⟨o, us, by rw [k]; exact q1, q2, q3.chg c, q4⟩
 | o cls fs => obtain ⟨dx, vs, q1, q2⟩ := h; exact ⟨dx, vs, by rw [k]; exact q1, q2.chg c⟩
 | l xs => obtain ⟨us, q1, q2, q3⟩ := h; exact ⟨us, by rw [k]; exact q1, q2.chg c, q3⟩
 | t x =>
  obtain ⟨ps, q1, q2, q3, q4⟩ := h
  refine ⟨ps, q1, by rw [k]; exact q2, q3, fun pos cv hc => ?_⟩
  obtain ⟨c0, e1, e2⟩ := q4 pos cv hc
  exact ⟨c0, e1, c.ext e2⟩
 | x cls fs =>
  obtain ⟨dd, q1, q2⟩ := h
  exact ⟨dd, by rw [k]; exact q1, q2.imp id fun ⟨dx, vs, e1, e2, e3⟩ => ⟨dx, vs, e1, (c.off _ (c.ned e2 (fun _ z => nomatch z) (fun _ _ z => nomatch z))).trans e2, e3.chg c⟩⟩
 | w ns => obtain ⟨us, q1, q2, q3⟩ := h; exact ⟨us, by rw [k]; exact q1, q2, q3⟩
theorem Chg.hz {H H' : Hp} (c : Chg d ks H H') {Nu : Addr → Prop} (n : ¬ Nu d) : Chg d ks (hz Nu H) (hz Nu H') where
 off := fun a ha => by unfold KP.hz; rw [c.off a ha]
 ne := c.ne
 at1 := c.at1.imp (fun h => Ey h n) fun ⟨o, h⟩ => ⟨o, Ey h n⟩
 at2 := c.at2.imp (fun h => Ey h n) fun ⟨o, h⟩ => ⟨o, Ey h n⟩
theorem VRep.chg {H H' : Hp} (c : Chg d ks H H') {Nu : Addr → Prop} (n : ¬ Nu d) {φ : List Addr} {u : V} {v : Va} (h : VRep K Nu φ H u v) : VRep K Nu φ H' u v := by
 cases v with
 | d p => exact Rep.chg (c.hz n) h
 | c n => exact h
 | s ns => obtain ⟨a, h1, h2⟩ := h; exact ⟨a, h1, aaP (c.hz n) h2⟩
 | q y ds => exact CloR.chg (c.hz n) h
theorem Rel.chg {W : Wd} {φ : List Addr} {own : Nat → List Addr} {env : En} {S : Sto} {σ : L2.St} {H H' : Hp} (r : Rel K W φ own env S σ H) (c : Chg d ks H H') (n : ¬ Mu W.G φ own d) (W' : Wd) (hG : W'.G = W.G) (hb : Kp W'.φ0 W'.H0 φ H') (hn : ∀ i a, a ∈ own i → W'.H0 a = none) : Rel K W' φ own env S σ H' := by
 have ne : ∀ a, Mu W.G φ own a → a ≠ d := fun a h z => n (z ▸ h)
 refine ⟨r.disj, r.apart, r.ndφ, by rw [hG]; exact r.gd, by
  rw [hG]
  intro a h
  rw [c.off a (ne a h)]
  exact r.mu a h, r.len, fun i sv h => ?_, ⟨r.cell.1, fun m cc a h1 h2 => ?_⟩, hb, hn⟩
 ·obtain ⟨u, h1, h2⟩ := r.slot i sv h
  refine ⟨u, h1, ?_⟩
  rw [hG]
  exact h2.chg (c.hz n) fun a ha => c.off a (ne a (.inr (.inr ⟨i, ha⟩)))
 ·rw [hG]
  exact (r.cell.2 m cc a h1 h2).chg (c.hz n) (c.off a (ne a (.inr (.inl (List.mem_of_getElem? h2)))))
end
theorem RepT.at {K : PySem.W.Frag} {Z : Hp} : ∀ {ks : List (List Key × V)} {kvs : List (PyData × PyData)} {i : Nat} {k : List Key} {v : V}, RepT K Z ks kvs → ks[i]? = some (k, v) → ∃ p, kvs[i]? = some (keyT k, p) ∧ Rep K Z v p
 | _, _, _, _, _, .nil, e => by simp at e
 | _, _, 0, _, _, .cons h _, e => by simp at e; obtain ⟨rfl, rfl⟩ := e; exact ⟨_, rfl, h⟩
 | _, _, i + 1, k, v, .cons _ t, e => by
  obtain ⟨p, h1, h2⟩ := RepT.at (i := i) (k := k) (v := v) t (by simpa using e)
  exact ⟨p, by simpa using h1, h2⟩
section
variable {X : Cx}
end
def dT (f : DTs) : DF := fun env => bnd (f env) fun ps => ret (.d (.dict (ps.map fun p => (keyT p.1, p.2))))
def aeA (K : PySem.W.Frag) : R2 := fun x y H Q => ∃ a b ys, x = .ref a ∧ y = .ref b ∧ SqT K H a [] ∧ SqT K H b ys ∧ Q (.ref b) H
theorem aeI {X : Cx} : OpR X (binaryOp .Add) (aeA X.K) := by
 intro pins s σ H x y v u Q I rx ry h
 obtain ⟨a, b, ys, rfl, rfl, ha, hb, q⟩ := h
 cases rx
 cases ry
 obtain ⟨its, r1, p1, _⟩ := I.tuple ha
 obtain ⟨its2, r2, p2, _⟩ := I.tuple hb
 cases r1
 exact L2.cat_tup0 p1 p2 ⟨.ref b, H, I, rfl, q⟩
def Qu : Va → Va → Option Va
 | .d (.tuple []), .d (.tuple ys) => some (.d (.tuple ys))
 | v, w => gAdd v w
theorem Mq {X : Cx} : OpR X (binaryOp .Add) (fun x y H Q => aeA X.K x y H Q ∨ (rI0 (fun i j => V.int (i + j)) x y H Q ∨ rCat x y H Q ∨ rCatT X.K x y H Q ∨ (∃ i j, x = V.str i ∧ y = V.str j ∧ i.length + j.length ≤ sizeLine ∧ Q (V.str (i ++ j)) H))) := Sy aeI Bu
theorem HS {K : PySem.W.Frag} : Gz K (fun x y H Q => aeA K x y H Q ∨ (rI0 (fun i j => V.int (i + j)) x y H Q ∨ rCat x y H Q ∨ rCatT K x y H Q ∨ (∃ i j, x = V.str i ∧ y = V.str j ∧ i.length + j.length ≤ sizeLine ∧ Q (V.str (i ++ j)) H))) Qu := Gp fun Nu φ H u u2 v v2 w Q m h1 h2 e q => by
 unfold Qu at e
 split at e
 ·cases e
  have h2' := h2
  cases h1 with
  | tup s1 l1 r1 =>
   cases r1
   cases h2 with
   | tup s2 l2 r2 => exact .inl ⟨_, _, _, rfl, rfl, SqT.of (Aj.mp s1).2, SqT.of (Aj.mp s2).2, q H _ Ext.refl h2'⟩
 ·obtain ⟨x, y, e', r⟩ := Be (K := K) Nu φ H [u, u2] [_, _] w Q m (.cons h1 (.cons h2 .nil)) e q
  cases e'
  exact .inr r
section
variable {prog : Program} {w : World} {A : Around} {E : Value → Shared → Prop} {s : Shared}
end
mutual
theorem aa6 {h : Heap} : ∀ (d : PyData) {v : Value} {as : List Addr}, imm d = true → Reads h v d as → as = []
 | .none, _, _, _, r => by cases r; rfl
 | .bool _, _, _, _, r => by cases r; rfl
 | .int _, _, _, _, r => by cases r; rfl
 | .str _, _, _, _, r => by cases r; rfl
 | .tuple xs, _, _, hi, r => by
  cases r with
  | tuple _ _ _ ra => exact QT xs (by simpa [imm] using hi) ra
 | .list _, _, _, hi, _ => by simp [imm] at hi
 | .dict _, _, _, hi, _ => by simp [imm] at hi
theorem QT {h : Heap} : ∀ (ds : List PyData) {vs : List Value} {as : List Addr}, MF ds = true → ReadsAll h vs ds as → as = []
 | [], _, _, _, r => by cases r; rfl
 | d :: ds, _, _, hi, r => by
  simp only [MF, Bool.and_eq_true] at hi
  cases r with
  | cons r1 r2 => rw [aa6 d hi.1 r1, QT ds hi.2 r2]; rfl
end
section
variable {P : Program} {w : World} {A : Around} {E : Value → Shared → Prop} {s : Shared}
set_option maxHeartbeats 6400000 in
set_option maxHeartbeats 6400000 in
end
section
variable {X : Cx}
end
section
variable {X : Cx} {ew : WX} {fl : Bool} {e : Expr} {fs : DFA} {p p2 pos pos2 : Pos}
end
section
variable {X : Cx}
end
def afH : PyData → Option (List Int)
 | .tuple ys => Oe ys
 | _ => none
def XD : List PyData → Option (List (List Int))
 | [] => some []
 | x :: xs => (afH x).bind fun k => (XD xs).map (k :: ·)
theorem Y9 {K : PySem.W.Frag} {H : Hp} : ∀ {us : List V} {xs : List PyData} {ks : List (List Int)}, Af K H us xs → XD xs = some ks → ∃ ps : List (Addr × List Int), us = ps.map (fun p => V.ref p.1) ∧ ks = ps.map (·.2) ∧ ∀ p ∈ ps, H p.1 = some (.tup (p.2.map V.int))
 | _, _, _, .nil, h => by cases h; exact ⟨[], rfl, rfl, fun _ z => nomatch z⟩
 | _, _, _, .cons (d := d) r t, h => by
  obtain ⟨k, h1, h2⟩ := Option.bind_eq_some_iff.mp h
  obtain ⟨ks, h3, rfl⟩ := Option.map_eq_some_iff.mp h2
  obtain ⟨ps, rfl, rfl, hp⟩ := Y9 t h3
  unfold afH at h1
  split at h1
  ·have := Oz h1
   subst this
   cases r with
   | tup hs _ ra =>
    have := ra.ints
    subst this
    refine ⟨(_, k) :: ps, rfl, rfl, fun p z => ?_⟩
    rcases List.mem_cons.mp z with rfl | z
    ·exact hs
    ·exact hp p z
  ·cases h1
section
variable {X : Cx} {ew : WX} {fl : Bool} {e : Expr} {fs : DFA} {p p2 pos pos2 : Pos}
end
theorem Af.dp {K : PySem.W.Frag} {H : Hp} : ∀ {vs : List V} {ps : List PyData}, Af K H vs ps → G5 ps = true → DpAll K H vs ps
 | _, _, .nil, _ => .nil
 | _, _, .cons h t, z => by
  simp only [G5, Bool.and_eq_true] at z
  exact .cons (h.dp z.1) (Af.dp t z.2)
theorem Yl {P : Program} {w : World} {H : Hp} {h : Heap} {a : Addr} {o : HO} (x : ObjOk P w H h a o) : ∃ ob, h.get? a = some ob := by
 cases o with
 | lst xs => obtain ⟨_, _, _, _, e⟩ := x; exact ⟨_, e⟩
 | tup xs => obtain ⟨_, _, _, _, e, _⟩ := x; exact ⟨_, e⟩
 | dK kvs => obtain ⟨_, _, _, _, o, _, _, e, _⟩ := x; exact ⟨_, e⟩
 | dT kvs => obtain ⟨_, _, _, _, o, _, _, e, _⟩ := x; exact ⟨_, e⟩
 | set S n => obtain ⟨o, _, _, _, e, _⟩ := x; exact ⟨_, e⟩
 | ins C dx fs => obtain ⟨_, _, _, e, _⟩ := x; exact ⟨_, e⟩
 | own y => exact x
 | xd fs => obtain ⟨_, ⟨_, _, _, e, _⟩, _⟩ := x; exact ⟨_, e⟩
 | rng lo hi => obtain ⟨_, _, _, e⟩ := x; exact ⟨_, e⟩
 | frz ob u => obtain ⟨e, _⟩ := x; exact ⟨_, e⟩
 | tbl ps => exact ⟨_, x⟩
 | met f y => exact ⟨_, x⟩
 | ext φ => exact x.2.1
structure NZ.Ok (b : NZ) : Prop where
 F : ExcBaseFacts b.B b.newId b.initId b.tl
 X : KxsFacts b.B b.initId
 S : StoreFacts b.B b.tl "object.__setattr__" "object"
 ne : b.tl ≠ []
 ob : b.tl.contains (.type "object") = true
 at_ : b.tl.contains (.type b.B) = true
theorem ZM : bVE.Ok := ⟨PySem.F.excBase_ValueError, kxs_ValueError, PySem.F.store_ValueError, by decide, by decide +kernel, by decide +kernel⟩
theorem Sd {tl : List Value} : ∀ l : List Value, Uw tl l = true → (∃ c r, l = .ref c :: r ∧ Uw tl r = true) ∨ l = tl
 | [], e => .inr (beq_iff_eq.mp e)
 | .ref c :: r, e => .inl ⟨c, r, rfl, e⟩
 | .none :: _, e => .inr (beq_iff_eq.mp e)
 | .ellipsis :: _, e => .inr (beq_iff_eq.mp e)
 | .notImplemented :: _, e => .inr (beq_iff_eq.mp e)
 | .bool _ :: _, e => .inr (beq_iff_eq.mp e)
 | .int _ _ :: _, e => .inr (beq_iff_eq.mp e)
 | .float _ _ :: _, e => .inr (beq_iff_eq.mp e)
 | .str _ _ :: _, e => .inr (beq_iff_eq.mp e)
 | .bytes _ _ :: _, e => .inr (beq_iff_eq.mp e)
 | .type _ :: _, e => .inr (beq_iff_eq.mp e)
 | .builtin _ :: _, e => .inr (beq_iff_eq.mp e)
theorem aac {b : NZ} (O : b.Ok) (self : Value) : ∀ l : List Value, Uw b.tl l = true → refuseLoop self "__setattr__" l = pure () := by
 intro l
 induction l with
 | nil => intro e; exact absurd (beq_iff_eq.mp e).symm O.ne
 | cons a r ih =>
  intro e
  rcases Sd (a :: r) e with ⟨c, r', q, h⟩ | q
  ·obtain ⟨rfl, rfl⟩ := List.cons.inj q
   rw [refuseLoop_ref]; exact ih h
  ·rw [q]; exact O.S.passes self
theorem N5 {b : NZ} (O : b.Ok) (X : String) : ∀ l : List Value, Uw b.tl l = true → l.contains (.type X) = b.tl.contains (.type X) := by
 intro l
 induction l with
 | nil => intro e; exact absurd (beq_iff_eq.mp e).symm O.ne
 | cons a r ih =>
  intro e
  rcases Sd (a :: r) e with ⟨c, r', q, h⟩ | q
  ·obtain ⟨rfl, rfl⟩ := List.cons.inj q
   rw [List.contains_cons, ih h]; rfl
  ·rw [q]
theorem acJ {b : NZ} (O : b.Ok) {l : List Value} (e : Uw b.tl l = true) : l.isEmpty = false := by
 cases l with
 | nil => exact absurd (beq_iff_eq.mp e).symm O.ne
 | cons _ _ => rfl
structure OexB (b : NZ) (K : PySem.W.Frag) (C : Addr) : Prop where
 cls : ∃ nm q N bs bm sn sub ab col dd k0 k1 k2 k3 k5, K.lookup C = some (excClassObj nm q C N bs bm true sn sub ab col dd k0 k1 k2 k3 k5 b.newId) ∧ Uw b.tl bm = true
 sa : PySem.W.findIn K (.ref C) "__setattr__" = some (some (.builtin "object.__setattr__"))
 exC : PySem.W.subIn K (.ref C) (.type "BaseException") = some true
 tyC : PySem.W.typeIn K (.ref C) = some (.type "type")
 kC : PySem.W.keepIn K (.ref C) = true
section
open Builtin Builtin.ObjectAttr PySem.Calls PySem.HandSPX
variable {prog : Program} {w : World} {A : Around} {E : Value → Shared → Prop} {R : Result → Shared → Prop} {hp : Heap} {g : Array GenState} {d : Drawn} {t : Nat} {os : OsState}
theorem adu {b : NZ} (O : b.Ok) {K : W.Frag} {name : Str} {tk : Tok} {v : Value} {x C : Addr} {fv : Array Value} {cd : ClassData}
  (X : K.In hp) (hx : hp.get? x = some { cls := .ref C, data := .fields fv }) (hcd : W.clsIn K C = some cd) (hm : Uw b.tl cd.mro = true) (hh : cd.hasDict = true) (ha : W.findIn K (.ref C) name = some none)
  (hq : ∀ h' tk' dx, (∀ b o, b ≠ x → hp.get? b = some o → h'.get? b = some o) → hp.objs.size ≤ dx → dx ≠ x → h'.get? x = some { cls := .ref C, dict := some dx, data := .fields fv } →
   h'.Ns1 dx (fun y => if y = name then some v else none) → R (.ok (.ret .none)) ⟨h', g, d, tk', os⟩) :
  codeAny (model prog w) A (.call (.builtin "object.__setattr__") ⟨[.ref x, .str name tk, v], []⟩) R ⟨hp, g, d, t, os⟩ := by
 have I : W.InstAt hp x { cls := .ref C, data := .fields fv } C none := ⟨hx, rfl, rfl, trivial⟩
 have SF := PySem.F.store_object
 have ne := acJ O hm
 have hob : cd.mro.contains (.type "object") = true := (N5 O "object" _ hm).trans O.ob
 have hxs : x ≠ hp.objs.size := Nat.ne_of_lt (Heap.lt_size hx)
 have sub : W.Looks (model prog w) hp (isInstance (.ref x) (.type "object")) true := I.type.andThen (W.looks_mroIn X (by unfold W.mroIn; rw [hcd, Option.bind_some, if_neg (by rw [ne]; decide), hob]))
 refine codeAny_call_builtin SF.slot.plain SF.entry (@W.check_slot (model prog w) _ _ ⟨hp, g, d, t, os⟩ "object.__setattr__" "object" "__setattr__" (.ref x) [.str name tk, v] [] _ SF.kind SF.split sub (SF.args (.ref x) (.str name tk) v) ?_)
 have hmr : W.Looks (model prog w) hp (mroOf (.ref C)) cd.mro := (W.looks_clsIn X hcd).andThen .now
 have L3 : W.Looks (model prog w) hp (storeTaker? none) none := .now
 have hcls : W.Looks (model prog w) hp (classData C) cd := W.looks_clsIn X hcd
 rw [W.osa_eq, refuse_eq]
 refine wpAny_bind (wpAny_bind (I.type.at (wpAny_bind (hmr.at ?_))))
 rw [aac O _ _ hm]
 refine wpAny_pure (wpAny_bind (I.type.at (wpAny_bind ((W.looks_findIn X ha).at (wpAny_bind (L3.at ?_))))))
 show wpAny _ _ (storeInOwnDict (.ref x) (.ref C) (.str name tk) name v false) _ _ _
 obtain ⟨nm, bs, mro, ns, qn, hd, sn, sb, ab, col, del⟩ := cd
 dsimp only at hh
 subst hh
 unfold storeInOwnDict ownDictForStores
 repeat (first | with_reducible refine PySem.HandSPX.store_in_new ?_ ?_ | with_reducible refine wpAny_loadPart_at hx ?_ | with_reducible refine hcls.at ?_ | wp_step)
 ·exact ⟨_, #[], _, (Heap.get?_update_ne _ _ _ _ hxs.symm).trans (Heap.get?_push_at rfl rfl), rfl, fun e he => absurd he (by simp), fun _ => rfl⟩
 ·intro h' tk' hn' hs
  have hx₁ : (hp.push { cls := .type "dict", data := .dict #[] }).get? x = some { cls := .ref C, data := .fields fv } := Heap.get?_push_of_some _ hx
  refine hq h' tk' hp.objs.size (fun b o hb ho => ?_) (Nat.le_refl _) hxs.symm ?_ hn'
  ·exact (hs.2 b (Nat.ne_of_lt (Heap.lt_size ho))).trans ((Heap.get?_update_ne _ _ _ _ hb).trans (Heap.get?_push_of_some _ ho))
  ·exact (hs.2 x hxs).trans (Heap.get?_update_self _ hx₁ rfl)
end
open PySem PySem.Spec PyProof.Rows L2 PySem.W
def aaQ (C : Addr) (fl : List Str) : Sp := fun vs H Q E => ∃ a ys, vs = .ref a :: ys ∧ ys.length = fl.length ∧ H a = some (exo a C none) ∧ (fl = [] → Q .non H) ∧ (fl ≠ [] → ∀ dx, H dx = none → dx ≠ a → Q .non (upd (upd H dx (exd dx (fl.zip ys).reverse)) a (exo a C (some dx))))
structure IniK (b : NZ) (P : Program) (K : Frag) (mg : Str → Option Value) (C fI : Addr) (fl : List Str) (fd : FuncData) (qual : Str) (params : Arguments) (body : List Stmt) (scope : Scope) : Prop where
 ex : ∃ (name : Str) (dV kV doc pm ct oc : Value) (an od : Option Addr) (osl : Array (Option Value)) (cc cda : Addr) (ccl : Value) (cdd : Option Addr) (vs : Array Value) (ccs : Array (Option Value)) (file : Str) (tf : Tok) (cl : Value) (cld : Option Addr) (csl : Array (Option Value)),
  fd = ksFn name qual params body scope dV kV doc pm an (.ref cda) ct cc ∧ K.lookup fI = some ⟨oc, od, .func fd, osl⟩ ∧ codeIn K (.ref cda) qual = true ∧ K.lookup cda = some ⟨ccl, cdd, .fields vs, ccs⟩ ∧ vs[2]? = some (.str file tf) ∧ ((P.main.file : Str) == file) = true ∧
   K.lookup cc = some ⟨cl, cld, .cell (some (.ref C)), csl⟩
 top : (P.main.scope.names.lookup ("super" : Str)).isSome = false
 oex : OexB b K C
 self : mroIn K C (.ref C) = some true
 sup : mg "super" = none
 op : nsIn K cStatics "thirdparty.any" = some none
 ini : ks_superIn K C C "__init__" = some (some (.builtin b.initId))
 ve : subIn K (.ref C) (.type b.B) = some true
 fld : ∀ f ∈ fl, findIn K (.ref C) f = some none
theorem Zy {bx : NZ} (O : bx.Ok) {P : Program} {w : World} {K : Frag} {mg : Str → Option Value} {base : Heap} {CX : CXT} {k : Nat} {C fI : Addr} {f fp qual : Str} {fd : FuncData} {params : Arguments} {scope : Scope} {msg : Str} {j} {p0 p1 p2 p3 p4 p5 p6 p7 p8 p9 : Pos}
  (T : IniK bx P K mg C fI [f] fd qual params [.Expr (.Call (.Attribute (.Call (.Name "super" p0) [] [] p1) "__init__" p2) [.Constant (.str msg) j p3] [] p4) p5, .Assign [.Attribute (.Name "self" p6) f p7] (.Name fp p8) p9] scope)
  {ar : Arg} (hp : (params.posonlyargs ++ params.args).head? = some ar) (har : ar.arg = "self") (hne : fp ≠ "self")
  (hks : scope.names.lookup ("super" : Str) = some .globalImplicit) (hkc : scope.names.lookup ("__class__" : Str) = some .free) (hka : scope.names.lookup ("self" : Str) = some .local) (hkf : scope.names.lookup fp = some .local) (hk : scope.kind = .function)
  (hcells : ∀ x ∈ scope.names, x.2 ≠ .cell) (hco : scope.isCoroutine = false) (hgen : scope.isGenerator = false) (hdbg : (fp == ("__debug__" : Str)) = false) {pl : Sem Bool} (hint : ∀ L a cd cc, interactive (ksEnv qual scope L a cd cc) = false)
  (hev : ∀ L a cd cc, eval (.Call (.Attribute (.Call (.Name "super" p0) [] [] p1) "__init__" p2) [.Constant (.str msg) j p3] [] p4) (ksEnv qual scope L a cd cc) = (do
   let ov ← attributeBase (.Call (.Name "super" p0) [] [] p1) "__init__" (ksEnv qual scope L a cd cc) (eval (.Call (.Name "super" p0) [] [] p1) (ksEnv qual scope L a cd cc))
   standAt p2.atName
   let (f, first) ← holding [ov] (getMethod ov "__init__" pl)
   callWith p4 f first (backTo p4 (starEach [.Constant (.str msg) j p3] (ksEnv qual scope L a cd cc))) [])) :
  FnOk P w K mg base CX k fI fd ["self", fp] (aaQ C [f]) := by
 obtain ⟨⟨name, dV, kV, doc, pm, ct, oc, an, od, osl, cc, cda, ccl, cdd, vs, ccs, file, tf, cl, cld, csl, rfl, lk, hcd, hcode, hvs, hfile, hcell⟩, htop, TO, hself, hsuper, hno, hini, hve, hfld⟩ := T
 refine ⟨fun vs H Q E h => ?_, fun A outer s H args us vs' Q E hr e0 hb r hsp => ?_⟩
 ·obtain ⟨a, ys, rfl, hl, _⟩ := h
  rw [List.length_cons, hl]; rfl
 ·obtain ⟨a, ys, rfl, hys, ha, _, hq⟩ := hsp
  obtain ⟨y, rfl⟩ : ∃ y, ys = [y] := by
   match ys, hys with
   | [y], _ => exact ⟨y, rfl⟩
  have hq := hq (by simp)
  cases r with
  | @cons _ u0 _ ur ra rr =>
  cases rr with
  | @cons _ u1 _ ur2 ry rt =>
  cases rt
  obtain rfl : u0 = Value.ref a := ra
  have keep : ∀ b o, base.get? b = some o → s.heap.get? b = some o := fun b o e => (e0.bs b o e).1
  have XS : K.In s.heap := e0.mod.kin.keeps keep
  obtain ⟨t1, hoe⟩ := exo_at e0.hok ha
  refine ks_codeAny_call_defAt (fd := ksFn name qual params _ scope dV kV doc pm an (.ref cda) ct cc) (binds := [(("self" : Str), Value.ref a), (fp, u1)]) hr.depth (XS _ _ lk) rfl (e0.mod.nolimit.keeps keep) (codeRec_of XS hcd) rfl hb hcells (fun x hx => ?_) (fun h0 hns k0 => ?_) hco hgen hk
  ·simp at hx
   rcases hx with rfl | rfl
   ·exact hka
   ·exact hkf
  ·obtain ⟨hp0, g, d, t, os⟩ := s
   have X0 : K.In h0 := XS.keeps k0
   have hoe0 := k0 _ _ hoe
   obtain ⟨nm, q, N, bs, bm, sn, sub, ab, col, dd, c0, c1, c2, c3, c5, hC, hbm⟩ := TO.cls
   have hC0 := X0 _ _ hC
   have hcl : clsIn K C = some { name := nm, bases := bs, mro := .ref C :: bm, ns := N, qualname := q, hasDict := true, slotNames := sn, subclasses := sub, abstract := ab, collection := col, hasDel := false } := by unfold clsIn; rw [hC] <;> rfl
   have haC : a ≠ C := by
    rintro rfl
    rw [hoe0] at hC0
    cases hC0
   obtain ⟨mb, hb1, hb2⟩ := e0.mod.blt
   have kb : ∀ b o, base.get? b = some o → h0.get? b = some o := fun b o e => k0 b o (keep b o e)
   show PySem.wpAt (model P w) (A.deeper (ksEnv qual scope hp0.objs.size fI (.ref cda) cc)) (.func _ (ksEnv qual scope hp0.objs.size fI (.ref cda) cc)) (execs _ (ksEnv qual scope hp0.objs.size fI (.ref cda) cc)) _ _ _
   refine ks_wpAt_mono (E := fun _ _ => False) ?_ (fun _ _ z => z) (fun _ _ z => z.elim)
   refine ks_wpAt_execs_cons (ks_wpAt_Expr_any (ks_wpAt_MethodCall (pl := pl) ?_ (hev _ _ _ _)) (hint _ _ _ _))
   refine ks_wpAt_super_base (env := ksEnv qual scope hp0.objs.size fI (.ref cda) cc) hks hkc (by decide) rfl (X0 _ _ lk) rfl hp rfl (X0 _ _ hcode) rfl hvs hfile htop ?_
   refine ks_loadName_global hk hks (Calls.loadGlobal_builtin (env := ksEnv qual scope hp0.objs.size fI (.ref cda) cc) (e0.mod.glob.keeps kb) hsuper (hb1.keeps kb) ((hb2 _ (by decide)).trans (show bootBuiltins "super" = some (.type "super") by decide +kernel)) ⟨rfl, ?_⟩)
   refine wpAny_loadName_free hk hkc rfl ⟨_, X0 _ _ hcell, rfl⟩ ?_
   rw [har]
   refine wpAny_loadName_local hk hka hns (v := .ref a) ?_ ?_
   ·show List.lookup ("self" : Str) [(fp, u1), (("self" : Str), Value.ref a)] = _
    have : (("self" : Str) == fp) = false := by simpa using fun z => hne z.symm
    rw [List.lookup_cons, this]
    rfl
   ·refine ks_wpAny_isType_cls hC0 rfl ⟨rfl, ?_⟩
    refine ks_wpAny_call_super hC0 rfl hoe0 rfl (fun c e => by cases e) (looks_mroIn X0 hself) (fun h1 e1 k1 => ?_)
    have X1 : K.In h1 := X0.keeps k1
    have hoe1 := k1 _ _ hoe0
    have I1 : InstAt h1 a { cls := .ref C, data := .fields #[.ref t1, .none, .none, .none, .bool false, .none] } C none := ⟨hoe1, rfl, rfl, trivial⟩
    have hini' := hini
    unfold ks_superIn at hini'
    rw [hcl] at hini'
    refine kxs_getMethod O.X e1 (looks_opaque X1 hno) (l₀ := .ref C :: bm) (fun A Q E s k q => wpAny_bind ((looks_clsIn X1 hcl) A _ E s k (wpAny_pure q))) rfl X1 hini' (I1.type.andThen (looks_subIn X1 hve)) haC (by decide) ?_
    have he : starEach [Expr.Constant (Const.str msg) j p3] (ksEnv qual scope hp0.objs.size fI (.ref cda) cc) = (false, eval (Expr.Constant (Const.str msg) j p3) (ksEnv qual scope hp0.objs.size fI (.ref cda) cc)) :: starEach [] (ksEnv qual scope hp0.objs.size fI (.ref cda) cc) := rfl
    have hoe2 : (h1.push (kxs_mw bx.initId a)).get? a = some { cls := .ref C, data := .fields #[.ref t1, .none, .none, .none, .bool false, .none] } := Heap.get?_push_of_some _ hoe1
    have hmw : (h1.push (kxs_mw bx.initId a)).get? h1.objs.size = some (kxs_mw bx.initId a) := Heap.get?_push_size _ rfl
    have hC2 : (h1.push (kxs_mw bx.initId a)).get? C = some _ := Heap.get?_push_of_some _ (k1 _ _ hC0)
    have k2 : ∀ b o, h0.get? b = some o → (h1.push (kxs_mw bx.initId a)).get? b = some o := fun b o e => Heap.get?_push_of_some _ (k1 b o e)
    generalize h1.push (kxs_mw bx.initId a) = h2 at *
    show wpAny _ _ (callWith p4 (.ref h1.objs.size) [] (backTo p4 (starEach [Expr.Constant (Const.str msg) j p3] (ksEnv qual scope hp0.objs.size fI (.ref cda) cc))) []) _ _ _
    rw [he]
    refine kxs_callWith (i := bx.initId) (x := a) rfl (Calls.evalArgs_plain (Calls.spliced_cons (Calls.Constant_str (k := j) (pos := p3) (Calls.spliced_nil ?_))))
    refine ⟨hmw, ?_⟩
    refine wpAny_call (codeAny_of_tree ?_)
    show wpAny _ _ (callAny (.ref h1.objs.size) ⟨_, []⟩) _ _ _
    simp only [callAny]
    refine wpAny_bind (wpAny_load hmw ?_)
    simp only [kxs_mw, show (Value.type "method-wrapper" == Value.type "method" || Value.type "method-wrapper" == Value.type "builtin_function_or_method" || Value.type "method-wrapper" == Value.type "method-wrapper") = true by decide, if_true]
    refine KFB.if_so (by decide) ?_
    refine wpAny_bind (check_bound_init O.F.toExcCallFacts hC2 hoe2 rfl ?_)
    refine wpAny_bind (wpAny_pure (wpAny_pure ?_))
    refine ⟨plainId_quiet O.F.init.plain _, codeAny_builtin O.F.initEntry ?_⟩
    refine exc_init_tree (cls := .ref C) (t0 := t1) (dv := none) (c2 := .none) (c3 := .none) (b4 := .bool false) hoe2 (by simp [sizeLine_eq]) (fun h3 k3 hoe3 _ => ?_)
    have hLa : hp0.objs.size ≠ a := Nat.ne_of_gt (Heap.lt_size hoe)
    have X3 : K.In h3 := fun b o e => k3 b o (fun z => by
     have e' := e0.mod.kin _ _ e
     rw [z] at e'
     have := (e0.bs a o e').2
     rw [ha] at this; cases this) (k2 b o (X0 b o e))
    have ns3 : h3.Ns hp0.objs.size (fun x => List.lookup x [(fp, u1), (("self" : Str), Value.ref a)]) := by
     obtain ⟨oL, esL, epL, hoL, rL⟩ := hns
     exact ⟨oL, esL, epL, k3 _ _ hLa (k2 _ _ hoL), rL⟩
    show PySem.wpAt (model P w) _ _ (execs [Stmt.Assign [(Expr.Name ("self" : Str) p6).Attribute f p7] (Expr.Name fp p8) p9] (ksEnv qual scope hp0.objs.size fI (.ref cda) cc)) _ _ _
    refine ks_wpAt_execs_cons (ks_wpAt_Assign_Attr (wpAt_of_wpAny (wpAny_Name (wpAny_loadName_local hk hkf ns3 (v := u1) ?_ ?_) hdbg)))
    ·show List.lookup fp [(fp, u1), (("self" : Str), Value.ref a)] = _
     simp [List.lookup]
    ·refine wpAny_Name (wpAny_loadName_local hk hka ns3 (v := .ref a) ?_ ?_) (by decide)
     ·show List.lookup ("self" : Str) [(fp, u1), (("self" : Str), Value.ref a)] = _
      have : (("self" : Str) == fp) = false := by simpa using fun z => hne z.symm
      rw [List.lookup_cons, this]
      rfl
     ·refine set_plain X3 (ox := { cls := .ref C, data := .fields #[.ref h2.objs.size, .none, .none, .none, .bool false, .none] }) (od := none) ⟨hoe3, rfl, rfl, trivial⟩ TO.sa ?_
      refine adu O X3 hoe3 hcl (show Uw bx.tl (.ref C :: bm) = true from hbm) rfl (hfld f (by simp)) (fun h4 tk4 dx k4 dn dne hx hn => ?_)
      refine wpAt_of_wpAny (wpAny_execs_nil ?_)
      have kk : ∀ b o, b ≠ a → hp0.get? b = some o → h4.get? b = some o := fun b o hb e => k4 b o hb (k3 b o hb (k2 b o (k0 b o e)))
      have hdn : hp0.get? dx = none := by
       cases e : hp0.get? dx with
       | none => rfl
       | some o => exact absurd (Heap.lt_size (k3 dx o dne (k2 dx o (k0 dx o e)))) (Nat.not_lt.mpr dn)
      have hnd : H dx = none := by
       cases e : H dx with
       | none => rfl
       | some ho =>
        obtain ⟨ob, eo⟩ := Yl (e0.hok dx ho e)
        rw [show hp0.get? dx = some ob from eo] at hdn; cases hdn
      have na : ∀ {b : Addr}, H b = none → b ≠ a := fun {b} n z => by
       rw [z, ha] at n
       cases n
      have nd : ∀ {b : Addr} {o : Obj}, hp0.get? b = some o → b ≠ dx := fun {b o} q z => by
       rw [z, hdn] at q; cases q
      refine ⟨.non, upd (upd H dx (exd dx [(f, y)])) a (exo a C (some dx)), rfl, e0.bare, ?_, fun b o q => ?_, rfl, hq dx hnd dne⟩
      ·exact {
        keep := fun b o q n _ _ => kk b o (na n) q
        slot := fun b o q n _ _ => ⟨o.slots, kk b o (na n) q⟩
        free := fun b o q n _ => by rw [upd_ne (na n), upd_ne (nd q)]; exact n
        there := fun b o q _ => by
         by_cases hb : b = a
         ·exact ⟨_, by rw [hb]; exact hx⟩
         ·exact ⟨o, kk b o hb q⟩
        tups := fun b xs q => by rw [upd_ne (at_ne ha q exo_tup), upd_ne (ne_of_none q hnd)]; exact q
        frzs := fun b o v q => by rw [upd_ne (at_ne ha q exo_frz), upd_ne (ne_of_none q hnd)]; exact q
        tbls := fun b ps q => ⟨#[], by rw [upd_ne (at_ne ha q exo_tbl), upd_ne (ne_of_none q hnd), q]; simp⟩ }
      ·by_cases hb : b = a
       ·subst hb
        rw [upd_same] at q
        cases q
        exact exo_ok hx
       ·rw [upd_ne hb] at q
        by_cases hd : b = dx
        ·subst hd
         rw [upd_same] at q
         cases q
         exact exd_ok hn (relO_put (fs := []) ry fun g => True.intro)
        ·rw [upd_ne hd] at q
         exact (e0.hok b o q).stay (fun c v hc z => kk c v (by
           rcases hc with hc | hc
           ·rw [hc]
            exact hb
           ·exact at_ne ha hc exo_own) z)
          (fun c hc => by rw [upd_ne (at_ne ha hc exo_own), upd_ne (ne_of_none hc hnd)]; exact hc) (fun c xs hc => by rw [upd_ne (at_ne ha hc exo_tup), upd_ne (ne_of_none hc hnd)]; exact hc)
def afe (fl : List Str) (ps : List PyData) : List (Str × PyData) := (fl.zip ps).reverse
def Vu (cls : Str) (fl : List Str) (fs : DFA) : SF := fun env => lift env (fs env) fun vs => bnd (ofO (toDs vs)) fun ps => ret (.xc ⟨cls, afe fl ps⟩, env)
@[simp] theorem afN (env : En) (cls : Str) (fl : List Str) (fs : DFA) : Vu cls fl fs env = lift env (fs env) fun vs => bnd (ofO (toDs vs)) fun ps => ret (.xc ⟨cls, afe fl ps⟩, env) := rfl
def U4 (cls fld : Str) (f : DF) : SF := fun env => lift env (f env) fun v => bnd (ofO v.asD) fun p => ret (.xc ⟨cls, [(fld, p)]⟩, env)
@[simp] theorem agf (env : En) (cls fld : Str) (f : DF) : U4 cls fld f env = lift env (f env) fun v => bnd (ofO v.asD) fun p => ret (.xc ⟨cls, [(fld, p)]⟩, env) := rfl
structure ExM (P : Program) (w : World) (K : PySem.W.Frag) (mg : Str → Option Value) (base : Heap) (k : Nat) (x : Str) (fl : List Str) : Prop where
 ex : ∃ (bx : NZ) (C fI : Addr) (fd : FuncData) (ps : List Str), bx.Ok ∧ mg x = some (.ref C) ∧ OexB bx K C ∧ PySem.W.findIn K (.ref C) "__init__" = some (some (.ref fI)) ∧ PySem.W.typeIn K (.ref fI) = some (.type "function") ∧ FnOk P w K mg base CX0 k fI fd ps (aaQ C fl) ∧ Binds K fd ps []
section
variable {X : Cx}
def tMkB (C : Addr) (sp : Sp) (ta : TA) : L2.St → Hp → XK → Prop := fun σ H Q => ta σ H fun vs H1 => vs.length ≤ 1000 ∧ ∀ a, H1 a = none → sp (.ref a :: vs) (upd H1 a (exo a C none))
 (fun v H2 => v = .non ∧ ((∃ (d : Addr) (fs : List (Str × V)), H2 a = some (exo a C (some d)) ∧ H2 d = some (exd d fs) ∧ H1 d = none ∧ Q (.ref C) (some d) (upd (L2.del H2 a) d (.xd fs))) ∨ (H2 a = some (exo a C none) ∧ Q (.ref C) none (L2.del H2 a)))) (fun _ _ _ => False)
theorem aeU {pins : List (Addr × Obj)} {σ : L2.St} {H1 H2 : Hp} {Q : XK} {hp hp2 h2 : Heap} {g1 g2 : Array GenState} {d1 d2 : Drawn} {t1 t2 : Nat} {os1 os2 : OsState} {a C : Addr} (T : Raises X (.ref C)) (I1 : Inv X pins σ H1 ⟨hp, g1, d1, t1, os1⟩)
  (ha : hp.objs.size ≤ a) (k : ∀ b o, hp.get? b = some o → hp2.get? b = some o) (un : Un (frs X.stack) [] (upd H1 a (exo a C none)) H2 hp2 h2) (hok : HOk X.prog X.w H2 h2) (ho : os2 = os1) (hb : AllBare g2)
  (ea : H2 a = some (exo a C none)) (q : Q (.ref C) none (L2.del H2 a)) : MkP X pins σ Q (.ref a) ⟨h2, g2, d2, t2, os2⟩ := by
 obtain ⟨t0, hoe⟩ := exo_at hok ea
 have hn : H1 a = none := I1.hok.fresh ha
 obtain ⟨G, g1', g2'⟩ := restrict h2 fun b => decide (b ≠ a)
 have gk : ∀ b, b ≠ a → G.get? b = h2.get? b := fun b hb => g1' b (decide_eq_true hb)
 have ge : G.get? a = none := g2' a (by simp)
 have nha : ∀ {b : Addr} {o : Obj}, hp.get? b = some o → b ≠ a := fun {b o} z => Nat.ne_of_lt (Nat.lt_of_lt_of_le (Heap.lt_size z) ha)
 have up : ∀ {b : Addr}, b ≠ a → H1 b = none → upd H1 a (exo a C none) b = none := fun {b} hb n => by rw [upd_ne hb]; exact n
 have U : Un (frs X.stack) [] H1 (L2.del H2 a) hp G := {
  keep := fun b o z n hf hx => by
   rw [gk b (nha z)]
   exact un.keep b o (k b o z) (up (nha z) n) hf hx
  slot := fun b o z n hf hx => by
   rw [gk b (nha z)]
   exact un.slot b o (k b o z) (up (nha z) n) hf hx
  free := fun b o z n hx => by
   rw [L2.del_ne (nha z)]
   exact un.free b o (k b o z) (up (nha z) n) hx
  there := fun b o z hx => by
   rw [gk b (nha z)]
   exact un.there b o (k b o z) hx
  tups := fun b xs z => by
   rw [L2.del_ne (ne_of_none z hn)]
   exact un.tups b xs (by rw [upd_ne (ne_of_none z hn)]; exact z)
  frzs := fun b o v z => by
   rw [L2.del_ne (ne_of_none z hn)]
   exact un.frzs b o v (by rw [upd_ne (ne_of_none z hn)]; exact z)
  tbls := fun b ps z => by
   rw [L2.del_ne (ne_of_none z hn)]
   exact un.tbls b ps (by rw [upd_ne (ne_of_none z hn)]; exact z) }
 have hok3 : HOk X.prog X.w (L2.del H2 a) G := fun b o z => by
  have hba : b ≠ a := fun e => by
   rw [e, L2.del_same] at z
   cases z
  rw [L2.del_ne hba] at z
  have noa : ∀ {c : Addr}, H2 c = some (.own b) → c ≠ a := fun {c} hc => at_ne ea hc exo_own
  exact (hok b o z).stay (fun c v hc y => by
    have hca : c ≠ a := by
     rcases hc with hc | hc
     ·rw [hc]
      exact hba
     ·exact noa hc
    rw [gk c hca]
    exact y)
   (fun c hc => by rw [L2.del_ne (noa hc)]; exact hc) (fun c xs hc => by rw [L2.del_ne (at_ne ea hc exo_tup)]; exact hc)
 have J : Inv X pins σ (L2.del H2 a) ⟨G, g2, d2, t2, os2⟩ := I1.call' (ch := []) ho U hok3 hb (fun b z => absurd z (by simp))
 refine ⟨a, _, _, ⟨G, g2, d2, t2, os2⟩, _, .ref C, none, rfl, J, fun b o z => ?_, ge, hoe, ⟨rfl, rfl⟩, rfl, rfl, L2.del_same, rfl, hb, T, q⟩
 by_cases hba : b = a
 ·rw [hba, ge] at z
  cases z
 ·exact (gk b hba).symm.trans z
variable {CX : CXT} {x : Str} {C fI : Addr} {k : Nat} {fd : FuncData} {ps : List Str} {sp : Sp} {e : Expr} {es : List Expr} {ta : TA} {p pos : Pos}
theorem agB {bx : NZ} (O : bx.Ok) (T : OexB bx X.K C) (iC : PySem.W.findIn X.K (.ref C) "__init__" = some (some (.ref fI))) (tI : PySem.W.typeIn X.K (.ref fI) = some (.type "function"))
  (F1 : FnOk X.prog X.w X.K X.mg X.base CX k fI fd ps sp) (hr : Room (k + 1) X.A) (hb : Binds X.K fd ps []) (hx : Passes CX X (fun _ _ _ => False)) {pins : List (Addr × Obj)} {σ : L2.St} {H1 : Hp} {Q : XK} {s1 : Shared} {us : List Value} {vs : List V} (I1 : Inv X pins σ H1 s1) (r1 : Vals vs us) (hz : vs.length ≤ 1000)
  (q1 : ∀ a, H1 a = none → sp (.ref a :: vs) (upd H1 a (exo a C none)) (fun v H2 => v = .non ∧ ((∃ (d : Addr) (fs : List (Str × V)), H2 a = some (exo a C (some d)) ∧ H2 d = some (exd d fs) ∧ H1 d = none ∧ Q (.ref C) (some d) (upd (L2.del H2 a) d (.xd fs))) ∨ (H2 a = some (exo a C none) ∧ Q (.ref C) none (L2.del H2 a)))) (fun _ _ _ => False)) :
  wpAny (model X.prog X.w) X.A (call (.ref C) us) (MkP X pins σ Q) X.xe s1 := by
 obtain ⟨nm, q, N, bs, bm, sn, sub, ab, col, dd, k0, k1, k2, k3, k5, hC, hbm⟩ := T.cls
 obtain ⟨hp, g, dr, tk, os⟩ := s1
 have hsz : hp.objs.size ≤ hp.objs.size + 1 := Nat.le_succ _
 have hn : H1 (hp.objs.size + 1) = none := I1.hok.fresh hsz
 have hq := q1 (hp.objs.size + 1) hn
 have kk : ∀ b o, hp.get? b = some o → ((hp.push (PySem.W.kdv_tup us)).push (PySem.HandSPX.excO C hp.objs.size)).get? b = some o := fun b o e => Heap.get?_push_of_some _ (Heap.get?_push_of_some _ e)
 have hget : ((hp.push (PySem.W.kdv_tup us)).push (PySem.HandSPX.excO C hp.objs.size)).get? (hp.objs.size + 1) = some (PySem.HandSPX.excO C hp.objs.size) := by heap_get
 have I2 : Inv X pins σ (upd H1 (hp.objs.size + 1) (exo (hp.objs.size + 1) C none)) ⟨(hp.push (PySem.W.kdv_tup us)).push (PySem.HandSPX.excO C hp.objs.size), g, dr, tk, os⟩ :=
  I1.laid (t' := tk) (a := hp.objs.size + 1) (o := exo (hp.objs.size + 1) C none) (h' := (hp.push (PySem.W.kdv_tup us)).push (PySem.HandSPX.excO C hp.objs.size)) kk hsz (exo_ok hget)
 have r2 : Vals (V.ref (hp.objs.size + 1) :: vs) (Value.ref (hp.objs.size + 1) :: us) := .cons rfl r1
 have hl : (Value.ref (hp.objs.size + 1) :: us).length = ps.length := by
  have e := r2.length
  rw [F1.len _ _ _ _ hq] at e
  exact e.symm
 have hus : us.length ≤ sizeLine := by
  rw [← Paired.length r1, sizeLine_eq]
  omega
 have b0 := hb ⟨(hp.push (PySem.W.kdv_tup us)).push (PySem.HandSPX.excO C hp.objs.size), g, dr, tk, os⟩ (Value.ref (hp.objs.size + 1) :: us) I2.kIn (by simpa using hl)
 rw [List.append_nil] at b0
 refine wpAny_call (PySem.HandSPX.call_own O.F (fun Y => N5 O Y bm hbm) (I1.kIn _ _ hC) (PySem.W.looks_findIn I1.kIn iC) (fun self => PySem.W.bind_fn I1.kIn self tI) hus
  (codeAny_mono (F1.run _ X.stack _ _ ⟨Value.ref (hp.objs.size + 1) :: us, []⟩ (Value.ref (hp.objs.size + 1) :: us) _ _ (fun _ _ _ => False) (hr.make C us []) (I2.env0.make C us []) b0 r2 hq) fun r s' hq' => ?_))
 cases r with
 | error er => exact hx pins σ _ _ er s' I2 hq'
 | ok fl =>
  cases fl with
  | ret u =>
   obtain ⟨v, H2, os2, bare2, un2, hok2, rv, ev, q2⟩ := hq'
   subst ev
   obtain ⟨h2, g2, d2, t2, os'⟩ := s'
   rcases q2 with ⟨d, fs, ea, ed, hd1, q2⟩ | ⟨ea, q2⟩
   ·exact ⟨rv, mk_end (raises_own T.exC T.tyC) I1 hsz kk un2 hok2 os2 bare2 ea ed hd1 q2⟩
   ·exact ⟨rv, aeU (raises_own T.exC T.tyC) I1 hsz kk un2 hok2 os2 bare2 ea q2⟩
  | next => exact False.elim hq'
  | brk => exact False.elim hq'
  | cont => exact False.elim hq'
theorem ah2 {bx : NZ} (O : bx.Ok) (T : OexB bx X.K C) (iC : PySem.W.findIn X.K (.ref C) "__init__" = some (some (.ref fI))) (tI : PySem.W.typeIn X.K (.ref fI) = some (.type "function"))
  (F1 : FnOk X.prog X.w X.K X.mg X.base CX k fI fd ps sp) (hr : Room (k + 1) X.A) (hb : Binds X.K fd ps []) (hx : Passes CX X (fun _ _ _ => False)) (hg : Gl X x) (hm : X.mg x = some (.ref C)) (ha : PA X (e :: es) ta)
  (hdb : (x == ("__debug__" : Str)) = false := by decide) (he : starEach (e :: es) X.env = (false, eval e X.env) :: starEach es X.env := by rfl) (hpl : (backTo pos (starEach es X.env)).any (·.1) = false := by rfl) :
  PMk X (.Call (.Name x p) (e :: es) [] pos) (tMkB C sp ta) := by
 intro pins s σ H Q I h
 refine wpAny_Call_Name_kw (ld_glob I hg hm ?_ hdb)
 refine PySem.W.callWith_K (h₀ := X.base) I.ok.mod.kin T.kC (thn (ha.run pos pins s σ H _ I h) fun us s1 ⟨vs, H1, I1, r1, hz, q1⟩ => ⟨I1.kIn, ?_⟩) he hpl
 exact agB O T iC tI F1 hr hb hx I1 r1 hz q1
end
def MadeX (K : PySem.W.Frag) (C : Addr) (fl : List Str) (vs : List V) (H1 : Hp) (Q : XK) : Prop := (fl = [] → Q (.ref C) none H1) ∧ (fl ≠ [] → ∀ dx, H1 dx = none → Q (.ref C) (some dx) (upd H1 dx (.xd (fl.zip vs).reverse)))
theorem aeX {K : PySem.W.Frag} {C : Addr} {fl : List Str} {vs : List V} {H1 : Hp} {Q : XK} (hl : vs.length = fl.length) (h : MadeX K C fl vs H1 Q) : ∀ a, H1 a = none → aaQ C fl (.ref a :: vs) (upd H1 a (exo a C none))
  (fun v H2 => v = .non ∧ ((∃ (d : Addr) (fs : List (Str × V)), H2 a = some (exo a C (some d)) ∧ H2 d = some (exd d fs) ∧ H1 d = none ∧ Q (.ref C) (some d) (upd (L2.del H2 a) d (.xd fs))) ∨ (H2 a = some (exo a C none) ∧ Q (.ref C) none (L2.del H2 a)))) (fun _ _ _ => False) := fun a ha => by
 refine ⟨a, vs, rfl, hl, upd_same, fun e => ⟨rfl, .inr ⟨upd_same, ?_⟩⟩, fun e dx hdx hne => ⟨rfl, .inl ⟨dx, (fl.zip vs).reverse, upd_same, by rw [upd_ne hne, upd_same], by rw [upd_ne hne] at hdx; exact hdx, ?_⟩⟩⟩
 ·have eH : L2.del (upd H1 a (exo a C none)) a = H1 := by
   funext b
   by_cases hb : b = a
   ·rw [hb, L2.del_same, ha]
   ·rw [L2.del_ne hb, upd_ne hb]
  rw [eH]
  exact h.1 e
 ·have hdx1 : H1 dx = none := by rw [upd_ne hne] at hdx; exact hdx
  have eH : upd (L2.del (upd (upd (upd H1 a (exo a C none)) dx (exd dx (fl.zip vs).reverse)) a (exo a C (some dx))) a) dx (.xd (fl.zip vs).reverse) = upd H1 dx (.xd (fl.zip vs).reverse) := by
   funext b
   by_cases hb : b = dx
   ·rw [hb, upd_same, upd_same]
   ·rw [upd_ne hb, upd_ne hb]
    by_cases hba : b = a
    ·rw [hba, L2.del_same, ha]
    ·rw [L2.del_ne hba, upd_ne hba, upd_ne hb, upd_ne hba]
  rw [eH]
  exact h.2 e dx hdx1
theorem FRep.zip {K : PySem.W.Frag} {Z : Hp} : ∀ {fl : List Str} {vs : List V} {ps : List PyData}, Af K Z vs ps → FRep K Z (fl.zip vs) (fl.zip ps)
 | [], _, _, _ => .nil
 | _ :: _, _, _, .nil => .nil
 | _ :: fl, _, _, .cons h t => .cons h (FRep.zip (fl := fl) t)
theorem FRep.append {K : PySem.W.Frag} {Z : Hp} : ∀ {a c : List (Str × V)} {b d : List (Str × PyData)}, FRep K Z a b → FRep K Z c d → FRep K Z (a ++ c) (b ++ d)
 | _, _, _, _, .nil, s => s
 | _, _, _, _, .cons h t, s => .cons h (FRep.append t s)
theorem FRep.rev {K : PySem.W.Frag} {Z : Hp} : ∀ {a : List (Str × V)} {b : List (Str × PyData)}, FRep K Z a b → FRep K Z a.reverse b.reverse
 | _, _, .nil => .nil
 | _, _, .cons h t => by
  rw [List.reverse_cons, List.reverse_cons]
  exact (FRep.rev t).append (.cons h .nil)
theorem ac5 {X : Cx} {ew : WX} {C : Addr} {x : Str} {fl : List Str} {W : Wd} {φ : List Addr} {own : Nat → List Addr} {env : En} {S : Sto} {σ : L2.St} {H : Hp} {us : List V} {vs : List Va} {ps : List PyData} (hm : X.mg x = some (.ref C))
  (r : Rel X.K W φ own env S σ H) (hv : Cr X.K (Mu W.G φ own) φ H us vs) (e : toDs vs = some ps) (hl : vs.length = fl.length)
  (h : ∀ φ' own' σ' H', Rel X.K W φ' own' env S σ' H' → Kh ⟨X.K, X.mg, ew⟩ (Mu W.G φ' own') σ' H' ⟨x, afe fl ps⟩) : MadeX X.K C fl us H (fun c d H' => ew c d σ H') := by
 have hr := O4 hv e
 refine ⟨fun e0 => ?_, fun e0 dx hdx => ?_⟩
 ·subst e0
  exact (h φ own σ H r).1 C none hm (.inl ⟨rfl, rfl⟩)
 ·have ex : Ext H (upd H dx (.xd (fl.zip us).reverse)) := Ext.upd hdx
  exact (h φ own σ _ (r.grow ex)).1 C (some dx) hm (.inr ⟨dx, _, rfl, Ey upd_same fun z => r.fresh hdx z, (FRep.rev (FRep.zip hr)).ext (Q4 ex)⟩)
theorem abZ {X : Cx} {ew : WX} {k : Nat} {x : Str} {fl : List Str} {e : Expr} {es : List Expr} {fs : DFA} {p pos pos' : Pos} (hc : X.calm = true) (tk : Takes X ew) (T : ExM X.prog X.w X.K X.mg X.base k x fl) (hr : Room (k + 1) X.A) (hg : Gl X x) (h : EA X ew true (e :: es) fs)
  (hl : ∀ env S vs S', fs env S = .ok vs S' → vs.length = fl.length) (h9 : fl.length ≤ 9) (hdb : (x == ("__debug__" : Str)) = false := by decide) (he : starEach (e :: es) X.env = (false, eval e X.env) :: starEach es X.env := by rfl) (hpl : (backTo pos (starEach es X.env)).any (·.1) = false := by rfl) :
  ES X ew (.Raise (some (.Call (.Name x p) (e :: es) [] pos)) none pos') (Vu x fl fs) := by
 obtain ⟨bx, C, fI, fd, ps, O, hm, TO, iC, tI', F1, hb⟩ := T.ex
 refine DY (ps_raise hc tk (ah2 O TO iC tI' F1 hr hb (fun _ _ _ _ _ _ _ z => z.elim) hg hm h hdb he hpl)) fun D σ H h => ?_
 obtain ⟨W, φ, own, env, S, r, h⟩ := h
 refine ⟨W, φ, own, env, S, r, ?_⟩
 have h := Cu.mp h
 cases ef : fs env S with
 | stuck => rw [ef] at h; exact h.elim
 | exc x1 S1 => rw [ef] at h; exact fun φ1 H1 r1 k1 => h φ1 own σ H1 r1
 | ok vs S1 =>
  rw [ef] at h
  intro φ1 H1 us r1 k1 v1
  obtain ⟨ds, e1, q1⟩ := Aq.mp (Ad.mp h)
  have hlen := hl _ _ _ _ ef
  have hus : us.length = fl.length := v1.length.trans hlen
  exact ⟨by omega, aeX (K := X.K) hus (ac5 hm r1 v1 e1 hlen q1)⟩
theorem ZD {X : Cx} {ew : WX} {k : Nat} {x fld : Str} {e : Expr} {f : DF} {p pos pos' : Pos} (hc : X.calm = true) (tk : Takes X ew) (T : ExM X.prog X.w X.K X.mg X.base k x [fld]) (hr : Room (k + 1) X.A) (hg : Gl X x) (h : E X ew true e f)
  (hdb : (x == ("__debug__" : Str)) = false := by decide) (he : starEach [e] X.env = (false, eval e X.env) :: starEach [] X.env := by rfl) (hpl : (backTo pos (starEach [] X.env)).any (·.1) = false := by rfl) :
  ES X ew (.Raise (some (.Call (.Name x p) [e] [] pos)) none pos') (U4 x fld f) :=
 DY (abZ hc tk T hr hg (ea_cons h ea_nil he) (Ab Ag) (by simp) hdb he hpl) fun D σ H h => by
  obtain ⟨W, φ, own, env, S, r, h⟩ := h
  refine ⟨W, φ, own, env, S, r, ?_⟩
  have e : Vu x [fld] (Aa f aNil) env S = U4 x fld f env S := by
   unfold Vu U4 Aa aNil bnd lift
   dsimp only
   cases f env S with
   | ok v S1 => cases v <;> rfl
   | exc x S1 => rfl
   | stuck => rfl
  rw [e]
  exact h
theorem Ou {P : Program} {w : World} {K : PySem.W.Frag} {mg : Str → Option Value} {base : Heap} {x qual : Str} {params : Arguments} {body : List Stmt} {scope : Scope} {dvs : List V} {kws : List (Str × V)} {f : Addr} {fd : FuncData} {N ps : List Str} {k : Nat} {g : SF}
  (Fn : FunD K x qual params body scope dvs kws f fd) (Sc : FnScope N ps scope)
  (hbody : ∀ (cdv : Value) (A : Around) (outer : List Env) (s : Shared) (H : Hp) (E : XK), A.guards = some [] → Room k (A.deeper (envOfC qual scope s.heap.objs.size f cdv)) →
   Takes (cxOf (L2.CX P w) P w K mg base N qual scope f cdv A outer s H E) (fun c d _ H => E c d H) →
   ESs (cxOf (L2.CX P w) P w K mg base N qual scope f cdv A outer s H E) (fun c d _ H => E c d H) body g) :
  FnD P w K mg base (L2.CX P w) (k + 1) f fd ps (runF N.length g) := by
 have hpl : ps.length ≤ N.length := by have := congrArg List.length Sc.pre; rw [List.length_take] at this; omega
 obtain ⟨oc, od, dV, kV, doc, pm, an, cdv, ct, osl, rfl, lk, hcd, _, _⟩ := Fn.ex
 refine ad1 lk hcd Sc (fun vs H Q E h => h.1) fun A outer s H vs Q E hg hr h => ?_
 obtain ⟨hl, G, φ, ds, S, en, hv, h⟩ := h
 refine ⟨_, hbody cdv A outer s H E hg hr (takes_of rfl rfl rfl rfl), ⟨G, H, φ⟩, φ, nob, Bj N.length ds, S, WP en hv (by omega), ?_⟩
 unfold runF at h
 show (g (Bj N.length ds) S).sat _ _
 cases e : g (Bj N.length ds) S with
 | ok p S' =>
  obtain ⟨fl, env'⟩ := p
  rw [e] at h
  cases fl with
  | nx => exact fun φ' own' σ' H' r' => h φ' H' .non r'.base r'.leave .non
  | rt v => exact fun φ' own' σ' H' u r' hu => h φ' H' u r'.base r'.leave hu
  | bk => exact h.elim
  | ct => exact h.elim
  | xc x => exact fun φ' own' σ' H' r' => Kh.leave (C := ⟨K, mg, fun c d _ H => E c d H⟩) (fun _ _ _ _ _ z => z) (h φ' H' r'.base r'.leave)
 | exc x S' => rw [e] at h; exact h.elim
 | stuck => rw [e] at h; exact h.elim
theorem Ql {X : Cx} {ew : WX} (tk : Takes X ew) (σ : L2.St) : PassesAt (L2.CX X.prog X.w) X σ (WE ew σ) := fun _ _ _ e s' I c => tk e s' (XE.of_call I (fun _ _ _ h => h) c)
structure XcF (K : PySem.W.Frag) (mg : Str → Option Value) (x fld : Str) : Prop where
 ex : ∃ C, mg x = some (.ref C) ∧ L2.ExcC K C ∧ XfC K C ∧ PySem.W.findIn K (.ref C) fld = some none
def KitF (K : PySem.W.Frag) (mg : Str → Option Value) (x y : Str) (b : Bool) : Prop := ∀ C D, mg x = some (.ref C) → mg y = some (.ref D) → PySem.W.kitOne K (.ref C) (.ref D) = some b
section
variable {X : Cx} {i : Nat} {n : Str} {a : Addr} {oe : Obj} {d : Addr} {pn : List (Addr × Obj)} {C : Addr}
end
theorem FRep.look {K : PySem.W.Frag} {Z : Hp} {k : Str} {p : PyData} : ∀ {fs : List (Str × V)} {gs : List (Str × PyData)}, FRep K Z fs gs → gs.lookup k = some p → ∃ v, fs.lookup k = some v ∧ Rep K Z v p
 | _, [], .nil, h => by cases h
 | (_, v) :: _, (j, q) :: _, .cons h t, e => by
  rw [List.lookup_cons] at e ⊢
  cases ej : (k == j) with
  | true => rw [ej] at e; cases e; exact ⟨v, rfl, h⟩
  | false => rw [ej] at e; exact FRep.look t e
theorem Gx {P : Program} {w : World} {K : PySem.W.Frag} {mg : Str → Option Value} {base : Heap} {k : Nat} {f : Addr} {fd : FuncData} {ps : List Str} {F : List Va → M Va} (h : FnD P w K mg base (L2.CX P w) k f fd ps F) :
  FnD P w K mg base CX0 k f fd ps (fun ds => noX (F ds)) := by
 refine ⟨fun vs H Q E h => h.1, fun A outer s H args us vs Q E hg hr he hb hv hs => ?_⟩
 obtain ⟨hl, G, φ, ds, S, en, hv', hs⟩ := hs
 refine codeAny_mono (h.run A outer s H args us vs Q (fun _ _ _ => False) hg hr he hb hv ⟨hl, G, φ, ds, S, en, hv', Oj hs⟩) fun r s' q => ?_
 rcases r with e | fl
 ·obtain ⟨_, _, _, _, _, _, _, _, _, _, _, _, z⟩ := q
  exact z.elim
 ·cases fl with
  | ret u => exact q
  | _ => exact (show False from q).elim
structure AskF (env : Env) (n Y : Str) (p p1 p2 pos : Pos) : Prop where
 he : starEach [.Name n p1, .Name Y p2] env = (false, eval (.Name n p1) env) :: starEach [.Name Y p2] env
 he2 : starEach [.Name Y p2] env = (false, eval (.Name Y p2) env) :: starEach [] env
 hpl : (backTo pos (starEach [.Name Y p2] env)).any (·.1) = false
 ht : ∀ whole, isTrue (.Call (.Name "isinstance" p) [.Name n p1, .Name Y p2] [] pos) env whole = (do let v ← whole; standAt (Expr.Call (.Name "isinstance" p) [.Name n p1, .Name Y p2] [] pos).pos; holding [v] (truthy v))
structure ajE (env : Env) (n s f : Str) (j : Nat) (q1 q2 q3 : Pos) : Prop where
 hb : attributeBase (.Name n q2) f env (eval (.Name n q2) env) = eval (.Name n q2) env
 h1 : starEach [.Constant (.str s) j q1, .Attribute (.Name n q2) f q3] env = (false, eval (.Constant (.str s) j q1) env) :: starEach [.Attribute (.Name n q2) f q3] env
 h2 : starEach [.Attribute (.Name n q2) f q3] env = (false, eval (.Attribute (.Name n q2) f q3) env) :: starEach [] env
structure Kit3 (K : PySem.W.Frag) (mg : Str → Option Value) (Y1 Y2 Y3 f1 f2 f3 : Str) : Prop where
 c1 : XcF K mg Y1 f1
 c2 : XcF K mg Y2 f2
 c3 : XcF K mg Y3 f3
 k11 : KitF K mg Y1 Y1 true
 k21 : KitF K mg Y2 Y1 false
 k22 : KitF K mg Y2 Y2 true
 k31 : KitF K mg Y3 Y1 false
 k32 : KitF K mg Y3 Y2 false
 k33 : KitF K mg Y3 Y3 true
open He
theorem aeJ {b : NZ} {K : Frag} {C : Addr} (h : oexB b K C = true) : OexB b K C := by
 obtain ⟨h0, h⟩ := ba h
 obtain ⟨h1, h⟩ := ba h
 obtain ⟨h2, h⟩ := ba h
 obtain ⟨h3, h4⟩ := ba h
 refine ⟨?_, eqO_ok h1, of_decide_eq_true h2, of_decide_eq_true h3, h4⟩
 split at h0
 ·rename_i dd cd sl ho
  split at h0
  ·rename_i C' bm k0 k1 k2 k3 n k5 hm hs
   simp only [Bool.and_eq_true, beq_iff_eq, Bool.not_eq_true'] at h0
   obtain ⟨rfl, rfl, hdel, hdc, hr⟩ := h0
   obtain ⟨nm, bs, mro, ns, qn, hd, sn, sub, ab, col, del⟩ := cd
   dsimp only at hm hdel hdc
   subst hm hdel hdc
   have hsl : sl = #[k0, k1, k2, k3, some (.builtin b.newId), k5] := by
    obtain ⟨l⟩ := sl
    simp only at hs
    rw [hs]
   subst hsl
   exact ⟨nm, qn, ns, bs, bm, sn, sub, ab, col, dd, k0, k1, k2, k3, k5, ho, hr⟩
  ·cases h0
 ·cases h0
theorem adw {K : Frag} {C : Addr} (h : agR K C = true) : L2.ExcC K C := by
 obtain ⟨h1, h⟩ := ba h
 obtain ⟨h2, h⟩ := ba h
 obtain ⟨h3, h⟩ := ba h
 obtain ⟨h4, h⟩ := ba h
 obtain ⟨h5, h⟩ := ba h
 obtain ⟨h6, h⟩ := ba h
 obtain ⟨h7, h8⟩ := ba h
 exact ⟨eqO_ok h1, eqO_ok h2, of_decide_eq_true h3, h4, eqO_ok h5, eqO_ok h6, of_decide_eq_true h7, of_decide_eq_true h8⟩
structure YS (K : Frag) (file : Str) (d : IniD) : Prop where
 ex : ∃ (name : Str) (kV doc pm ct oc : Value) (an od : Option Addr) (osl : Array (Option Value)) (cc cda : Addr) (ccl : Value) (cdd : Option Addr) (vs : Array Value) (ccs : Array (Option Value)) (fl : Str) (tf : Tok) (cl : Value) (cld : Option Addr) (csl : Array (Option Value)),
  K.lookup (iA K d.cls) = some ⟨oc, od, .func (ksFn name d.qual d.params d.body d.scope .none kV doc pm an (.ref cda) ct cc), osl⟩ ∧ codeIn K (.ref cda) d.qual = true ∧ K.lookup cda = some ⟨ccl, cdd, .fields vs, ccs⟩ ∧ vs[2]? = some (.str fl tf) ∧ (file == fl) = true ∧
   K.lookup cc = some ⟨cl, cld, .cell (some (.ref (ga K d.cls))), csl⟩
 oex : OexB d.base K (ga K d.cls)
 exc : L2.ExcC K (ga K d.cls)
 xf : XfC K (ga K d.cls)
 fld : ∀ f ∈ d.flds, findIn K (.ref (ga K d.cls)) f = some none
 self : mroIn K (ga K d.cls) (.ref (ga K d.cls)) = some true
 ini : ks_superIn K (ga K d.cls) (ga K d.cls) "__init__" = some (some (.builtin d.base.initId))
 ve : subIn K (.ref (ga K d.cls)) (.type d.base.B) = some true
 fi : findIn K (.ref (ga K d.cls)) "__init__" = some (some (.ref (iA K d.cls)))
 ty : typeIn K (.ref (iA K d.cls)) = some (.type "function")
 op : nsIn K cStatics "thirdparty.any" = some none
 glo : nsIn K mainGlobals d.cls = some (some (.ref (ga K d.cls)))
theorem adF {K : Frag} {cl : List (Str × Addr)} {C : Addr} {x : Str} (h : adG K cl C = true) (hn : cl.map (·.1) = [x]) : ∃ cc a b c, cl = [(x, cc)] ∧ K.lookup cc = some ⟨a, b, .cell (some (.ref C)), c⟩ := by
 match cl, hn with
 | [(y, cc)], hn =>
  obtain rfl : y = x := by simpa using hn
  unfold adG at h
  dsimp only at h
  split at h
  ·rename_i a b D c e
   obtain rfl : D = C := of_decide_eq_true h
   exact ⟨cc, a, b, c, rfl, e⟩
  ·cases h
theorem adq {K : Frag} {cd : Value} {file : Str} (h : adt K cd file = true) : ∃ c a b vs sl f t, cd = .ref c ∧ K.lookup c = some ⟨a, b, .fields vs, sl⟩ ∧ vs[2]? = some (.str f t) ∧ (file == f) = true := by
 unfold adt at h
 split at h
 ·rename_i c
  split at h
  ·rename_i a b vs sl e
   split at h
   ·rename_i f t e2
    exact ⟨c, a, b, vs, sl, f, t, rfl, e, e2, h⟩
   ·cases h
  ·cases h
 ·cases h
theorem abI {K : Frag} {file : Str} {d : IniD} (e : iniW K d.cls = d.val) (h : iniB file K d = true) : YS K file d := by
 obtain ⟨h0, h⟩ := ba h
 obtain ⟨h1, h⟩ := ba h
 obtain ⟨h2, h⟩ := ba h
 obtain ⟨h3, h⟩ := ba h
 obtain ⟨h4, h⟩ := ba h
 obtain ⟨h5, h⟩ := ba h
 obtain ⟨h6, h⟩ := ba h
 obtain ⟨h7, h⟩ := ba h
 obtain ⟨h8, h⟩ := ba h
 obtain ⟨h9, h⟩ := ba h
 obtain ⟨h10, h11⟩ := ba h
 refine ⟨?_, aeJ h1, adw h2, xfB_ok h3, fun f hf => eqO_ok (List.all_eq_true.mp h4 f hf), of_decide_eq_true h5, eqO_ok h6, of_decide_eq_true h7, eqO_ok h8, of_decide_eq_true h9, eqO_ok h10, eqO_ok h11⟩
 unfold iniW at e
 cases q : K.lookup (iA K d.cls) with
 | none => rw [q] at h0; cases h0
 | some o =>
  obtain ⟨oc, od, dt, osl⟩ := o
  rw [q] at h0 e
  cases dt with
  | func fd =>
   obtain ⟨n1, n2, n3, n4, n5, n6, n7, n8, n9, n10, n11, n12, n13, n14, n15⟩ := fd
   have e2 : (some (n2, n3, n4, n5, n6, n7.map (·.1), n15) : IniV) = (some (d.qual, d.params, FuncBody.stmts d.body, d.scope, mainGlobals, ["__class__"], builtinsNs) : IniV) := e
   simp only [Option.some.injEq, Prod.mk.injEq] at e2
   obtain ⟨e3, e4, e5, e6, e7, e8, e9⟩ := e2
   have c3 : (codeIn K n13 d.qual && (adG K n7 (ga K d.cls) && (adt K n13 file && decide (n8 = .none)))) = true := h0
   obtain ⟨k1, c3⟩ := ba c3
   obtain ⟨k2, c3⟩ := ba c3
   obtain ⟨k3, k4⟩ := ba c3
   obtain ⟨cc, cl, cld, csl, rfl, lc⟩ := adF k2 e8
   obtain ⟨cda, ccl, cdd, vs, ccs, fl, tf, rfl, l1, l2, l3⟩ := adq k3
   have k4 := of_decide_eq_true k4
   subst e3 e4 e5 e6 e7 e9 k4
   exact ⟨n1, n9, n10, n11, n14, oc, n12, od, osl, cc, cda, ccl, cdd, vs, ccs, fl, tf, cl, cld, csl, rfl, k1, l1, l2, l3, lc⟩
  | _ => cases h0
def frE (g : Addr → Option Obj) (n : Nat) : Frag := frG g (asD g n ++ [cStatics, sysModules])
def valE (fn : List DefD) (is : List IniD) : AlE := (He.valD fn, (true, is.map IniD.val))
def SaysE (fa : List Fa) (fn : List DefD) (ex : Frag → Bool) (is : List IniD) (K : Frag) : Prop := obsE fa fn ex is K = valE fn is
def aeN (n : Nat) (fa : List Fa) (fn : List DefD) (ex : Frag → Bool) (is : List IniD) (g : Addr → Option Obj) : AlE := obsE fa fn ex is (frE g n)
def hookE (n : Nat) (fa : List Fa) (fn : List DefD) (ex : Frag → Bool) (is : List IniD) : PySem.W.Hook where
 α := AlE
 obs := fun s => aeN n fa fn ex is s.heap.get?
 val := fun _ => valE fn is
 says := fun _ h => ∃ K : Frag, K.In h ∧ SaysE fa fn ex is K
 of := fun _ _ e => ⟨_, frG_in, e⟩
 keeps := fun _ _ _ ⟨K, hK, c⟩ k => ⟨K, Frag.In.keeps hK k, c⟩
theorem acZ {n : Nat} {fa : List Fa} {fn : List DefD} {ex : Frag → Bool} {is : List IniD} {g : Addr → Option Obj} {s : Shared} (h : ∀ a, g a = s.heap.get? a) : aeN n fa fn ex is g = (hookE n fa fn ex is).obs s := by
 have e : g = s.heap.get? := funext h
 rw [e] <;> rfl
section
variable {fa : List Fa} {fn : List DefD} {ex : Frag → Bool} {is : List IniD} {K : Frag}
theorem SaysE.d (c : SaysE fa fn ex is K) : SaysD fa fn K := congrArg (fun z : AlE => z.1) c
theorem SaysE.more (c : SaysE fa fn ex is K) : ex K = true := congrArg (fun z : AlE => z.2.1) c
theorem SaysE.ini (c : SaysE fa fn ex is K) (i : Nat) {d : IniD} (h : is[i]? = some d) : iniW K d.cls = d.val := by
 have e : is.map (fun d => iniW K d.cls) = is.map IniD.val := congrArg (fun z : AlE => z.2.2) c
 have e2 : (is.map fun d => iniW K d.cls)[i]? = (is.map IniD.val)[i]? := by rw [e]
 rw [List.getElem?_map, List.getElem?_map, h] at e2
 exact Option.some.inj e2
end
theorem YS.iniK {P : Program} {K : Frag} {mg : Str → Option Value} {d : IniD} (T : YS K P.main.file d) (hs : mg "super" = none) (top : (P.main.scope.names.lookup ("super" : Str)).isSome = false) :
  ∃ fd, IniK d.base P K mg (ga K d.cls) (iA K d.cls) d.flds fd d.qual d.params d.body d.scope ∧ ∃ (name : Str) (kV doc pm ct : Value) (an : Option Addr) (cc : Addr) (cdv : Value), fd = ksFn name d.qual d.params d.body d.scope .none kV doc pm an cdv ct cc := by
 obtain ⟨name, kV, doc, pm, ct, oc, an, od, osl, cc, cda, ccl, cdd, vs, ccs, fl, tf, cl, cld, csl, l1, l2, l3, l4, l5, l6⟩ := T.ex
 exact ⟨_, ⟨⟨name, .none, kV, doc, pm, ct, oc, an, od, osl, cc, cda, ccl, cdd, vs, ccs, fl, tf, cl, cld, csl, rfl, l1, l2, l3, l4, l5, l6⟩, top, T.oex, T.self, hs, T.op, T.ini, T.ve, T.fld⟩, name, kV, doc, pm, ct, an, cc, .ref cda, rfl⟩
def kitB (K : Frag) (x y : Str) (b : Bool) : Bool := decide (kitOne K (.ref (ga K x)) (.ref (ga K y)) = some b)
structure ajF (K : Frag) (mg : Str → Option Value) (B a b c : Str) : Prop where
 ex : ∃ P, mg B = some (.ref P) ∧ ∀ x C, (x = a ∨ x = b ∨ x = c) → mg x = some (.ref C) → exmOne K (.ref C) (.ref P) = some true
def keyS : PyData → Bool
 | .int _ => true
 | .str _ => true
 | _ => false
mutual
def JT : PyData → Bool
 | .none => true
 | .bool _ => true
 | .int _ => true
 | .str _ => true
 | .tuple xs => HW xs
 | .list xs => HW xs
 | .dict kvs => Nm kvs
def HW : List PyData → Bool
 | [] => true
 | x :: xs => JT x && HW xs
def Nm : List (PyData × PyData) → Bool
 | [] => true
 | (k, x) :: r => keyS k && (JT x && Nm r)
end
def SysD (K : PySem.W.Frag) : Prop := ∃ o, K.lookup sysModules = some o ∧ o.cls = .type "dict"
theorem aem {K : PySem.W.Frag} (h : sysB K = true) : SysD K := by
 unfold sysB at h
 cases e : K.lookup sysModules with
 | none => rw [e] at h; cases h
 | some o => rw [e] at h; exact ⟨o, e, of_decide_eq_true h⟩
section
variable {X : Cx} {pins : List (Addr × Obj)} {σ : L2.St} {H : Hp} {s : Shared}
theorem ab5 {h : Heap} {a : Addr} {o : Obj} {es : Array DictEntry} {n : Nat} (ho : h.get? a = some o) (hx : o.ExactDict) (hd : o.data = .dict es n) (he : es.toList = []) : Reads h (.ref a) (.dict []) [a] := by
 have r := Reads.dict (kvs := []) (as := []) (bs := []) ho hx.1 hd (by rw [he]; exact .nil) (by rw [he]; exact .nil)
 simpa using r
mutual
theorem Rep.aa7 (I : L2.Inv X pins σ H s) (hS : SysD X.K) : ∀ (d : PyData) (v : V) (u : Value), Rep X.K H v d → JT d = true → RelV v u → ∃ as, Reads s.heap u d as ∧ sysModules ∉ as
 | .none, _, _, h, _, r => by
  cases h
  cases r
  exact ⟨_, Reads.none, by simp⟩
 | .bool b, _, _, h, _, r => by
  cases h
  cases r
  exact ⟨_, Reads.bool b, by simp⟩
 | .int i, _, _, h, _, r => by
  cases h
  obtain ⟨t, rfl⟩ := r
  exact ⟨_, Reads.int i t, by simp⟩
 | .str x, _, _, h, _, r => by
  cases h
  obtain ⟨t, rfl⟩ := r
  exact ⟨_, Reads.str x t, by simp⟩
 | .list ds, _, _, h, n, r => by
  cases h with
  | @lst a _ _ hs hl ha =>
   cases r
   obtain ⟨its, rv, ⟨o, m, ho, hc, _, hd⟩, _⟩ := I.list (SqL.of hs)
   obtain ⟨as, hr, hn⟩ := Rep.Sq I hS ds _ its ha (by simpa [JT] using n) rv
   refine ⟨_, Reads.list ho hc hd hr, ?_⟩
   intro z
   rcases List.mem_cons.mp z with z | z
   ·obtain ⟨o', h1, h2⟩ := hS
    have h3 := I.kIn _ _ h1
    rw [z, ho] at h3
    cases h3
    rw [hc] at h2
    exact absurd h2 (by decide)
   ·exact hn z
 | .tuple ds, _, _, h, n, r => by
  cases h with
  | tup hs hl ha =>
   cases r
   obtain ⟨its, rv, ⟨o, ho, hc, m, hd⟩, _⟩ := I.tuple (SqT.of hs)
   obtain ⟨as, hr, hn⟩ := Rep.Sq I hS ds _ its ha (by simpa [JT] using n) rv
   exact ⟨_, Reads.tuple ho hc hd hr, hn⟩
 | .dict kvs, _, _, h, n, r => by
  have n : Nm kvs = true := by simpa [JT] using n
  cases h with
  | dcK hs hr =>
   cases r
   obtain ⟨_, hne, vs, kv, o, es, ep, ho, hx, hd, _, pr, _⟩ := dk_rd I.hok hs.rd
   obtain ⟨as, bs, q1, q2, q3⟩ := Rep.Zb I hS kvs _ vs es.toList hr n kv pr
   refine ⟨_, Reads.dict ho hx.1 hd q1 q2, fun z => ?_⟩
   rw [List.cons_append] at z
   rcases List.mem_cons.mp z with z | z
   ·rw [← z] at hne
    exact absurd hne (by decide)
   ·exact q3 z
  | dcT hs hr =>
   cases hr with
   | cons _ _ => cases n
   | nil =>
    cases r
    obtain ⟨_, hne, xs, kv, o, es, ep, ho, hx, hd, pr, _⟩ := dt_rd I.hok hs.rd
    cases kv
    refine ⟨_, ab5 ho hx hd (by rw [pr]; rfl), ?_⟩
    intro z
    rw [List.mem_singleton] at z
    rw [← z] at hne
    exact absurd hne (by decide)
  | exc _ _ _ _ _ => cases n
  | exc0 _ _ => cases n
theorem Rep.Zb (I : L2.Inv X pins σ H s) (hS : SysD X.K) : ∀ (kvs : List (PyData × PyData)) (ks : List (Key × V)) (vs : List (Key × Value)) (es : List DictEntry), RepK X.K H ks kvs → Nm kvs = true → KV ks vs → Pairs (mixKind X.prog X.w) es vs →
  ∃ as bs, ReadsAll s.heap (es.map (·.key)) (kvs.map (·.1)) as ∧ ReadsAll s.heap (es.map (·.val)) (kvs.map (·.2)) bs ∧ sysModules ∉ as ++ bs
 | [], _, _, _, h, _, kv, pr => by
  cases h
  cases kv
  cases pr
  exact ⟨_, _, ReadsAll.nil, ReadsAll.nil, by simp⟩
 | (kd, d) :: r, _, _, _, h, n, kv, pr => by
  simp only [Nm, Bool.and_eq_true] at n
  cases h with
  | @cons k v ks' _ _ h1 h2 =>
   cases kv with
   | cons k1 k2 =>
    cases pr with
    | @cons en _ _ _ p1 p2 p3 =>
     obtain ⟨q1, q2⟩ := k1
     obtain ⟨as, a1, n1⟩ := Rep.aa7 I hS d _ _ h1 n.2.1 q2
     obtain ⟨bs, cs, b1, b2, n2⟩ := Rep.Zb I hS r _ _ _ h2 n.2.2 k2 p3
     have hk : Reads s.heap en.key (keyP k) [] := by
      rcases keyIs_shape p1 with ⟨i, t, e1, e2⟩ | ⟨x, t, e1, e2⟩
      ·rw [e2, show k = Sum.inl i from q1.trans e1]; exact Reads.int i t
      ·rw [e2, show k = Sum.inr x from q1.trans e1]; exact Reads.str x t
     refine ⟨_, _, ReadsAll.cons hk b1, ReadsAll.cons (p2 ▸ a1) b2, fun z => ?_⟩
     simp only [List.nil_append, List.mem_append] at z n2
     rcases z with z | z | z
     ·exact n2 (.inl z)
     ·exact n1 z
     ·exact n2 (.inr z)
theorem Rep.Sq (I : L2.Inv X pins σ H s) (hS : SysD X.K) : ∀ (ds : List PyData) (vs : List V) (us : List Value), Af X.K H vs ds → HW ds = true → Vals vs us → ∃ as, ReadsAll s.heap us ds as ∧ sysModules ∉ as
 | [], _, _, h, _, r => by
  cases h
  cases r
  exact ⟨_, ReadsAll.nil, by simp⟩
 | d :: ds, _, _, h, n, r => by
  simp only [HW, Bool.and_eq_true] at n
  cases h with
  | cons h1 h2 =>
   cases r with
   | cons r1 r2 =>
    obtain ⟨as, q1, n1⟩ := Rep.aa7 I hS d _ _ h1 n.1 r1
    obtain ⟨bs, q2, n2⟩ := Rep.Sq I hS ds _ _ h2 n.2 r2
    refine ⟨_, ReadsAll.cons q1 q2, ?_⟩
    intro z
    rcases List.mem_append.mp z with z | z
    ·exact n1 z
    ·exact n2 z
end
end
def adT (K : PySem.W.Frag) : List V → Hp → VK → Prop := fun us H Q => ∃ x d, us = [x] ∧ Rep K H x d ∧ JT d = true ∧ d.showable = true ∧ d.depth ≤ 60 ∧ d.shown.length ≤ sizeLine ∧ Q (.str d.shown) H
theorem El {X : Cx} (hS : SysD X.K) (hg : X.A.guards = some []) (hu : X.A.units + 64 < cLine) : CallR X (.builtin "repr") (adT X.K) := by
 intro pins s σ H xs us Q I r h
 obtain ⟨x, d, rfl, hd, h2, h1, h3, h4, q⟩ := h
 cases r with
 | cons r rr =>
  cases rr
  obtain ⟨as, rd, hn⟩ := Rep.aa7 I hS d _ _ hd h2 r
  cases x with
  | non =>
   cases hd
   cases r
   exact PySem.P.repr_of_none ⟨.str _, H, I.tok _, ⟨_, rfl⟩, q⟩
  | bl b =>
   cases hd
   cases r
   refine PySem.P.repr_of_bool ⟨.str _, H, I.tok _, ⟨_, rfl⟩, ?_⟩
   cases b <;> exact q
  | int n =>
   cases hd
   obtain ⟨t, rfl⟩ := r
   exact PySem.P.repr_of_int (by simpa [PyData.showable] using h1) ⟨.str _, H, I.tok _, ⟨_, rfl⟩, q⟩
  | str z =>
   cases hd
   obtain ⟨t, rfl⟩ := r
   exact PySem.P.repr_of_str ⟨.str _, H, I.tok _, ⟨_, rfl⟩, q⟩ h4
  | ref a =>
   cases r
   exact repr_of_reads' rd h1 (fun _ => hn) hg (by omega) (fun _ _ e => e) (fun h' u tk hk => ⟨.str d.shown, H, I.kept hk, ⟨_, rfl⟩, q⟩) h4
  | _ => cases hd
def Vy (d : PyData) : Bool := JT d && (d.showable && (decide (d.depth ≤ 60) && decide (d.shown.length ≤ sizeLine)))
def GJ : Va → Option Va
 | .d p => if Vy p = true then some (.d (.str p.shown)) else none
 | _ => none
theorem Cv {K : PySem.W.Frag} : Kl K (adT K) (on1 GJ) := Hu fun Nu φ H u v w Q m h e q => by
 unfold GJ at e
 split at e
 ·split at e
  ·rename_i p ok
   cases e
   simp only [Vy, Bool.and_eq_true, decide_eq_true_eq] at ok
   obtain ⟨n1, n2, n4, n5⟩ := ok
   exact ⟨u, p, rfl, Rep.ext Dq h, n1, n2, n4, n5, q H _ Ext.refl (.str _)⟩
  ·cases e
 ·cases e
def abt (p : PyData) : Bool := p.showable && (decide (p.shown.length ≤ 60) && (match p with
 | .list _ => false
 | .tuple _ => false
 | .dict kvs => kvs.isEmpty
 | _ => true))
def Gy : List Nat → PyData → Bool
 | b :: bs, .list xs => decide (xs.length ≤ b) && xs.all (Gy bs)
 | b :: bs, .tuple xs => decide (xs.length ≤ b) && xs.all (Gy bs)
 | _, p => abt p
def capM : List Nat → Nat
 | [] => 60
 | b :: bs => 60 + b * (capM bs + 2)
theorem afB (bs : List Nat) : 60 ≤ capM bs := by cases bs <;> simp [capM]
theorem Zq {bs : List Nat} {p : PyData} (h : abt p = true) : JT p = true ∧ p.showable = true ∧ p.shown.length ≤ capM bs ∧ p.depth ≤ bs.length + 1 := by
 simp only [abt, Bool.and_eq_true, decide_eq_true_eq] at h
 obtain ⟨h1, h2, h3⟩ := h
 have := afB bs
 refine ⟨?_, h1, by omega, ?_⟩
 ·cases p <;> first | (simp [JT]; done) | (simp at h3; done) | (simp at h3; subst h3; simp [JT, Nm])
 ·cases p with
  | dict kvs =>
   have e : kvs = [] := by simpa using h3
   subst e
   simp [PyData.depth, PyData.depthKv]
  | list xs => simp at h3
  | tuple xs => simp at h3
  | _ => simp [PyData.depth]
theorem ado : ∀ {bs : List Nat} {p : PyData}, Gy bs p = true → JT p = true ∧ p.showable = true ∧ p.shown.length ≤ capM bs ∧ p.depth ≤ bs.length + 1 := by
 intro bs
 induction bs with
 | nil =>
  intro p h
  exact Zq (by cases p <;> exact h)
 | cons b bs ih =>
  intro p h
  have key : ∀ xs : List PyData, (∀ x ∈ xs, Gy bs x = true) → HW xs = true ∧ PyData.showableAll xs = true ∧ piled (PyData.shownAll xs) ≤ xs.length * (capM bs + 2) ∧ PyData.depthAll xs ≤ bs.length + 1 := by
   intro xs
   intro h
   induction xs with
   | nil => simp [HW, PyData.showableAll, PyData.shownAll, piled, PyData.depthAll]
   | cons x xs ih2 =>
    obtain ⟨a0, a1, a2, a3⟩ := ih (h x (by simp))
    obtain ⟨b0, b1, b2, b3⟩ := ih2 fun y hy => h y (by simp [hy])
    refine ⟨by simp [HW, a0, b0], by simp [PyData.showableAll, a1, b1], ?_, by simp only [PyData.depthAll]; omega⟩
    simp only [PyData.shownAll, List.length_cons, Nat.add_mul, piled_cons] at b2 ⊢
    omega
  cases p with
  | tuple xs =>
   simp only [Gy, Bool.and_eq_true, decide_eq_true_eq, List.all_eq_true] at h
   obtain ⟨k0, k1, k2, k3⟩ := key xs h.2
   refine ⟨by simpa [JT] using k0, by simpa [PyData.showable] using k1, ?_, by simp only [PyData.depth, List.length_cons]; omega⟩
   have := Nat.mul_le_mul_right (capM bs + 2) h.1
   simp only [PyData.shown, capM]
   have := QS (PyData.shownAll xs)
   omega
  | list xs =>
   simp only [Gy, Bool.and_eq_true, decide_eq_true_eq, List.all_eq_true] at h
   obtain ⟨k0, k1, k2, k3⟩ := key xs h.2
   refine ⟨by simpa [JT] using k0, by simpa [PyData.showable] using k1, ?_, by simp only [PyData.depth, List.length_cons]; omega⟩
   have := Nat.mul_le_mul_right (capM bs + 2) h.1
   simp only [PyData.shown, capM]
   have := Tw (PyData.shownAll xs)
   omega
  | _ => exact Zq h
theorem R9 {p : PyData} {bs : List Nat} (h : Gy bs p = true) (hb : bs.length ≤ 50 := by decide) (hc : capM bs ≤ 16777216 := by decide) : on1 GJ [.d p] = some (.d (.str p.shown)) := by
 obtain ⟨h0, h1, h2, h3⟩ := ado h
 have : Vy p = true := by
  unfold Vy
  rw [h0, h1, sizeLine_eq]
  simp; omega
 simp [on1, GJ, this]
theorem Zo {n : Nat} (h : n < 1000) (bs : List Nat) : Gy bs (nI n) = true := by
 have e : abt (nI n) = true := by
  have := (aaS (bs := []) (p := nI n) (by simp [Jq]; omega))
  simp only [cap] at this
  simp only [abt, Bool.and_eq_true, decide_eq_true_eq]
  exact ⟨this.1, by omega, trivial⟩
 cases bs <;> exact e
def thr {α : Type} (x : Ex) : M α := fun S => .exc x S
section
variable {α β : Type}
@[simp] theorem aiD (x : Ex) (k : α → M β) : bnd (thr x) k = thr x := rfl
@[simp] theorem ahs (env : En) (x : Ex) (k : α → M (Fl × En)) : lift env (thr x) k = ret (.xc x, env) := rfl
@[simp] theorem ahf (x : Ex) : alone (thr x : M α) = thr x := rfl
def finX : Fl × En → M Va := fun r => match r.1 with
 | .rt v => ret v
 | .nx => ret (.d .none)
 | .xc x => thr x
 | _ => no
@[simp] theorem ais (v : Va) (env : En) : finX (.rt v, env) = ret v := rfl
@[simp] theorem ait (env : En) : finX (.nx, env) = ret (.d .none) := rfl
@[simp] theorem aiq (x : Ex) (env : En) : finX (.xc x, env) = thr x := rfl
theorem Hq {n : Nat} {body : SF} {ds : List Va} {v : Va} (h : bnd (body (Bj n ds)) finX = ret v) : runF n body ds = ret v := by
 funext S
 have hS := congrFun h S
 unfold runF
 unfold bnd at hS
 cases e : body (Bj n ds) S with
 | ok p S' =>
  obtain ⟨fl, env'⟩ := p
  rw [e] at hS
  cases fl <;> exact hS
 | exc x S' => rw [e] at hS; cases hS
 | stuck => rw [e] at hS; cases hS
end
end KP
namespace KG
open PySem PySem.Spec PyProof.Rows L2 KP
def topS (i : Nat) : Stmt := PySem.Challenge.pw_keptpartings_k03_whole_partings.main.body.getD i (.Pass ⟨0, 0, 0, 0⟩)
abbrev FJ : Stmt := topS 8
abbrev GZ : Stmt := topS 9
abbrev GX : Stmt := topS 13
abbrev Fy : Stmt := topS 15
abbrev DQ : Stmt := topS 23
abbrev Df : Stmt := topS 27
abbrev DW : Stmt := topS 28
abbrev Ck : Stmt := topS 31
abbrev Bq : Stmt := topS 32
abbrev BL : Stmt := topS 35
abbrev Bv : Stmt := topS 10
abbrev BK : Stmt := topS 16
abbrev DP : Stmt := topS 19
abbrev Fw : Stmt := topS 20
abbrev G3 : Stmt := topS 29
abbrev Dc : Stmt := topS 33
abbrev CJ : Stmt := topS 11
abbrev De : Stmt := topS 30
abbrev Bw : Stmt := topS 34
abbrev Ci : Stmt := topS 12
abbrev CZ : Stmt := topS 17
abbrev Cg : Stmt := topS 18
abbrev Jb : Stmt := topS 21
abbrev La : Stmt := topS 22
abbrev Cj : Stmt := topS 25
abbrev Jc : Stmt := topS 24
abbrev Bp : Stmt := topS 37
abbrev Dd : Stmt := topS 36
abbrev Bo : Stmt := topS 38
abbrev Vs : Stmt := topS 39
abbrev FnP (K : PySem.W.Frag) (x : Str) (st : Stmt) (f : Addr) (fd : FuncData) : Prop := FunD K x x (defArgs st) (defBody st) (defScope st) [] [] f fd
abbrev Mi : Stmt := ag9 (topS 2) 0
abbrev Mh : Stmt := ag9 (topS 3) 0
def Ie : IniD := ⟨bVE, "BadMachine", ["place"], "BadMachine.__init__", defArgs Mi, defBody Mi, defScope Mi⟩
def Ib : IniD := ⟨bVE, "BadParting", ["value"], "BadParting.__init__", defArgs Mh, defBody Mh, defScope Mh⟩
def LTF : List PySem.Str := []
end KG
namespace KGR
open PySem PySem.Spec PyProof.Rows L2 KP KG
def fn1 : List He.DefD := [⟨("is_whole", none), "is_whole", "is_whole", defArgs FJ, defBody FJ, defScope FJ, [], []⟩,
 ⟨("is_line", none), "is_line", "is_line", defArgs GZ, defBody GZ, defScope GZ, [], []⟩,
 ⟨("size_of", none), "size_of", "size_of", defArgs GX, defBody GX, defScope GX, [], []⟩,
 ⟨("numbered", none), "numbered", "numbered", defArgs Fy, defBody Fy, defScope Fy, [], []⟩,
 ⟨("blocks_of", none), "blocks_of", "blocks_of", defArgs DQ, defBody DQ, defScope DQ, [], []⟩,
 ⟨("_law_begun", none), "_law_begun", "_law_begun", defArgs Df, defBody Df, defScope Df, [], []⟩,
 ⟨("_law_draw", none), "_law_draw", "_law_draw", defArgs DW, defBody DW, defScope DW, [], []⟩,
 ⟨("_law_classes", none), "_law_classes", "_law_classes", defArgs Ck, defBody Ck, defScope Ck, [], []⟩,
 ⟨("_law_all_sheets", none), "_law_all_sheets", "_law_all_sheets", defArgs Bq, defBody Bq, defScope Bq, [], []⟩,
 ⟨("_law_is_sheet", none), "_law_is_sheet", "_law_is_sheet", defArgs BL, defBody BL, defScope BL, [], []⟩,
 ⟨("wrong_in_table", none), "wrong_in_table", "wrong_in_table", defArgs Bv, defBody Bv, defScope Bv, [], []⟩,
 ⟨("is_parting_of", none), "is_parting_of", "is_parting_of", defArgs BK, defBody BK, defScope BK, [], []⟩,
 ⟨("single_of", none), "single_of", "single_of", defArgs DP, defBody DP, defScope DP, [], []⟩,
 ⟨("whole_of", none), "whole_of", "whole_of", defArgs Fw, defBody Fw, defScope Fw, [], []⟩,
 ⟨("_law_of", none), "_law_of", "_law_of", defArgs G3, defBody G3, defScope G3, [], []⟩,
 ⟨("_law_sheet", none), "_law_sheet", "_law_sheet", defArgs Dc, defBody Dc, defScope Dc, [], []⟩,
 ⟨("wrong_place", none), "wrong_place", "wrong_place", defArgs CJ, defBody CJ, defScope CJ, [], []⟩,
 ⟨("_law_frame", none), "_law_frame", "_law_frame", defArgs De, defBody De, defScope De, [], []⟩,
 ⟨("_law_odd_sheet", none), "_law_odd_sheet", "_law_odd_sheet", defArgs Bw, defBody Bw, defScope Bw, [], []⟩,
 ⟨("need_machine", none), "need_machine", "need_machine", defArgs Ci, defBody Ci, defScope Ci, [], []⟩,
 ⟨("is_parting", none), "is_parting", "is_parting", defArgs CZ, defBody CZ, defScope CZ, [], []⟩,
 ⟨("need_parting", none), "need_parting", "need_parting", defArgs Cg, defBody Cg, defScope Cg, [], []⟩,
 ⟨("single", none), "single", "single", defArgs Jb, defBody Jb, defScope Jb, [], []⟩,
 ⟨("whole", none), "whole", "whole", defArgs La, defBody La, defScope La, [], []⟩,
 ⟨("all_partings", none), "all_partings", "all_partings", defArgs Cj, defBody Cj, defScope Cj, [], []⟩,
 ⟨("blocks", none), "blocks", "blocks", defArgs Jc, defBody Jc, defScope Jc, [], []⟩,
 ⟨("_law_ends_right", none), "_law_ends_right", "_law_ends_right", defArgs Bp, defBody Bp, defScope Bp, [], []⟩,
 ⟨("_law_right", none), "_law_right", "_law_right", defArgs Dd, defBody Dd, defScope Dd, [], []⟩,
 ⟨("_law_hand_right", none), "_law_hand_right", "_law_hand_right", defArgs Bo, defBody Bo, defScope Bo, [], []⟩,
 ⟨("law", none), "law", "law", defArgs Vs, defBody Vs, defScope Vs, [], []⟩]
def fn2 : List He.DefD := []
def fn : List He.DefD := fn1 ++ fn2
def fa : List He.Fa := [.free "all", .free "bool", .free "enumerate", .free "int", .free "isinstance", .free "len", .free "list", .free "max", .free "min", .free "range", .free "repr", .free "set", .free "sorted", .free "super", .free "tuple", .int "MOST_LETTERS" 4, .int "MOST_SHOWN" 9, .int "MOST_STANDINGS" 8, .glo "is_whole", .glo "is_line", .glo "size_of", .glo "numbered", .glo "blocks_of", .glo "_law_begun", .glo "_law_draw", .glo "_law_classes", .glo "_law_all_sheets", .glo "_law_is_sheet", .glo "wrong_in_table", .glo "is_parting_of", .glo "single_of", .glo "whole_of", .glo "_law_of", .glo "_law_sheet", .glo "wrong_place", .glo "_law_frame", .glo "_law_odd_sheet", .glo "need_machine", .glo "is_parting", .glo "need_parting", .glo "single", .glo "whole", .glo "all_partings", .glo "blocks", .glo "_law_ends_right", .glo "_law_right", .glo "_law_hand_right", .glo "law"]
abbrev PP : Program := PySem.Challenge.pw_keptpartings_k03_whole_partings
def is : List IniD := [Ie, Ib]
def ex (K : PySem.W.Frag) : Bool := iniB PP.main.file K Ie && (iniB PP.main.file K Ib && (sysB K))
def names : List PySem.Str := (["PartError", "BadMachine", "BadParting", "MOST_STANDINGS", "MOST_LETTERS", "MOST_SHOWN", "is_whole", "is_line", "wrong_in_table", "wrong_place", "need_machine", "size_of", "numbered", "is_parting_of", "is_parting", "need_parting", "single_of", "whole_of", "single", "whole", "blocks_of", "blocks", "all_partings", "_law_begun", "_law_draw", "_law_of", "_law_frame", "_law_classes", "_law_all_sheets", "_law_sheet"] : List PySem.Str) ++ (["_law_odd_sheet", "_law_is_sheet", "_law_right", "_law_ends_right", "_law_hand_right"] : List PySem.Str)
abbrev R : PySem.W.OpenRow := PySem.W.OpenLaw.row PySem.Challenge.rw_keptpartings_k03_whole_partings
abbrev hk : PySem.W.Hook := hookE 5 fa fn ex is
def ob (s : PySem.W.SharedT) : AlE := aeN 5 fa fn ex is (HandSHeadRun.getT s)
theorem ah3 (s : PySem.W.SharedT) : ob s = hk.obs s.abs := acZ (HandSHeadRun.getT_eq s)
theorem run1 (w : World) : RunA R (PySem.W.view R.prog [39]) 12000 names w := by
 intro os
 kernel_rfl
theorem run2 (w : World) : RunB R ob (hk.val w) 12000 w := by
 intro os
 kernel_rfl
theorem run (w : World) : HandSHeadRun.RunEq R (PySem.W.view R.prog [39]) hk ob 12000 names w := agj (run1 w) (run2 w)
end KGR
namespace KP
open PySem PySem.Spec PyProof.Rows L2
def xN : Nat → Nat
 | 0 => 0
 | n + 1 => 5 * xN n + 1
theorem YX (b : Nat) : ∀ a, xN (a + b) = 5 ^ a * xN b + xN a
 | 0 => by simp [xN]
 | a + 1 => by
  have e : a + 1 + b = (a + b) + 1 := by omega
  rw [e]
  show 5 * xN (a + b) + 1 = 5 ^ (a + 1) * xN b + (5 * xN a + 1)
  rw [YX b a, Nat.pow_succ, Nat.mul_add]
  have : 5 * (5 ^ a * xN b) = 5 ^ a * 5 * xN b := by rw [← Nat.mul_assoc, Nat.mul_comm 5]
  omega
theorem V6 : ∀ a, ∃ r, 5 ^ a = 4 * r + 1
 | 0 => ⟨0, rfl⟩
 | a + 1 => by
  obtain ⟨r, h⟩ := V6 a
  exact ⟨5 * r + 1, by rw [Nat.pow_succ, h]; omega⟩
theorem aaF : ∀ k, ∃ o, xN (2 ^ k) = 2 ^ k * (2 * o + 1)
 | 0 => ⟨0, rfl⟩
 | k + 1 => by
  obtain ⟨o, h⟩ := aaF k
  obtain ⟨r, hr⟩ := V6 (2 ^ k)
  refine ⟨(2 * r + 1) * o + r, ?_⟩
  have e : 2 ^ (k + 1) = 2 ^ k + 2 ^ k := by rw [Nat.pow_succ]; omega
  rw [e, YX, h, hr]
  generalize 2 ^ k = t
  have e2 : (4 * r + 1) * (t * (2 * o + 1)) + t * (2 * o + 1) = (t + t) * ((2 * r + 1) * (2 * o + 1)) := by
   have a1 : (4 * r + 1) * (t * (2 * o + 1)) + t * (2 * o + 1) = 2 * (2 * r + 1) * (t * (2 * o + 1)) := by
    rw [show 2 * (2 * r + 1) = 4 * r + 1 + 1 by omega, Nat.add_mul (4 * r + 1) 1, Nat.one_mul]
   rw [a1, Nat.mul_mul_mul_comm, show 2 * t = t + t by omega]
  rw [e2]
  congr 1
  rw [Nat.add_mul, Nat.one_mul, Nat.mul_add (2 * r), Nat.mul_one, Nat.mul_add 2, Nat.add_mul (2 * r) 1 o, Nat.one_mul, Nat.mul_add 2 (2 * r * o) o, Nat.mul_left_comm (2 * r) 2 o]
  omega
theorem aaG : ∀ k j, j < 2 ^ k → ∃ n, n < 2 ^ k ∧ xN n % 2 ^ k = j
 | 0, j, h => ⟨0, by decide, by simp at h ⊢; omega⟩
 | k + 1, j, h => by
  have e : 2 ^ (k + 1) = 2 * 2 ^ k := by rw [Nat.pow_succ]; omega
  have tp : 0 < 2 ^ k := Nat.pow_pos (by decide)
  obtain ⟨n, h1, h2⟩ := aaG k (j % 2 ^ k) (Nat.mod_lt _ tp)
  obtain ⟨o, ho⟩ := aaF k
  obtain ⟨r, hr⟩ := V6 n
  have e3 : xN (n + 2 ^ k) = 2 ^ (k + 1) * (2 * (2 * r * o) + 2 * r + o) + 2 ^ k + xN n := by
   rw [YX, ho, hr, e]
   generalize 2 ^ k = t
   have : (4 * r + 1) * (t * (2 * o + 1)) = t * ((4 * r + 1) * (2 * o + 1)) := Nat.mul_left_comm _ _ _
   have e5 : (4 * r + 1) * (2 * o + 1) = 2 * (2 * (2 * r * o) + 2 * r + o) + 1 := by
    rw [Nat.add_mul, Nat.one_mul, Nat.mul_add, Nat.mul_one, show 4 * r * (2 * o) = 8 * (r * o) by rw [Nat.mul_assoc, Nat.mul_left_comm r 2 o, ← Nat.mul_assoc], show 2 * r * o = 2 * (r * o) by rw [Nat.mul_assoc]]
    omega
   rw [this, e5, Nat.mul_add, Nat.mul_one, show 2 * t * (2 * (2 * r * o) + 2 * r + o) = t * (2 * (2 * (2 * r * o) + 2 * r + o)) by rw [Nat.mul_comm 2 t, Nat.mul_assoc]]
  have m1 : xN (n + 2 ^ k) % 2 ^ (k + 1) = (2 ^ k + xN n) % 2 ^ (k + 1) := by
   rw [e3, Nat.add_assoc, Nat.mul_add_mod]
  have m2 : xN n % 2 ^ (k + 1) % 2 ^ k = xN n % 2 ^ k := Nat.mod_mod_of_dvd _ ⟨2, by rw [e]; omega⟩
  have m3 : (2 ^ k + xN n) % 2 ^ (k + 1) = (2 ^ k + xN n % 2 ^ (k + 1)) % 2 ^ (k + 1) := by rw [Nat.add_mod_mod]
  by_cases c : xN n % 2 ^ (k + 1) = j
  ·exact ⟨n, by omega, c⟩
  ·refine ⟨n + 2 ^ k, by omega, ?_⟩
   rw [m1, m3]
   have l1 : xN n % 2 ^ (k + 1) < 2 ^ (k + 1) := Nat.mod_lt _ (by omega)
   rw [h2] at m2
   generalize xN n % 2 ^ (k + 1) = r1 at *
   rw [e] at l1 h ⊢
   clear m1 m3 e3 ho e
   generalize 2 ^ k = t at *
   have d1 := Nat.div_add_mod r1 t
   have d2 := Nat.div_add_mod j t
   have q1 : r1 / t < 2 := Nat.div_lt_of_lt_mul (by omega)
   have q2 : j / t < 2 := Nat.div_lt_of_lt_mul (by omega)
   rw [m2] at d1
   generalize r1 / t = u at *
   generalize j / t = v at *
   generalize j % t = z at *
   have hu : u = 0 ∨ u = 1 := by omega
   have hv : v = 0 ∨ v = 1 := by omega
   rcases hu with rfl | rfl <;> rcases hv with rfl | rfl
   ·exact absurd (by omega) c
   ·rw [Nat.mod_eq_of_lt (by omega)]; omega
   ·have : t + r1 = 2 * t + j := by omega
    rw [this, Nat.add_mod_left, Nat.mod_eq_of_lt h]
   ·exact absurd (by omega) c
theorem abv (m a : Nat) : ∀ n, lcgI m (xN a % (m + 1)) n = xN (a + n) % (m + 1)
 | 0 => rfl
 | n + 1 => by
  show (lcgI m (xN a % (m + 1)) n * 5 + 1) % (m + 1) = (5 * xN (a + n) + 1) % (m + 1)
  rw [abv m a n, Nat.mul_comm 5]
  have : xN (a + n) % (m + 1) * 5 % (m + 1) = xN (a + n) * 5 % (m + 1) := by rw [Nat.mul_mod, Nat.mod_mod, ← Nat.mul_mod]
  rw [Nat.add_mod, this, ← Nat.add_mod]
theorem agE {m k : Nat} (hk : m + 1 = 2 ^ k) {i j : Nat} (hi : i ≤ m) (hj : j ≤ m) : ∃ n, n ≤ m ∧ lcgI m i n = j := by
 obtain ⟨a, ha, ea⟩ := aaG k i (by omega)
 obtain ⟨b, hb, eb⟩ := aaG k j (by omega)
 rw [← hk] at ea eb ha hb
 by_cases c : a ≤ b
 ·refine ⟨b - a, by omega, ?_⟩
  rw [← ea, abv, show a + (b - a) = b by omega, eb]
 ·refine ⟨b + (m + 1) - a, by omega, ?_⟩
  obtain ⟨o, ho⟩ := aaF k
  rw [← ea, abv, show a + (b + (m + 1) - a) = b + (m + 1) by omega, YX, hk, ho, ← hk, Nat.mul_left_comm, Nat.mul_add_mod, eb]
def Msk (m : Nat) : Prop := m = 7 ∨ m = 31 ∨ m = 127 ∨ m = 511 ∨ m = 2047 ∨ m = 8191
theorem Msk.pow {m : Nat} (h : Msk m) : ∃ k, m + 1 = 2 ^ k := by
 rcases h with rfl | rfl | rfl | rfl | rfl | rfl
 ·exact ⟨3, rfl⟩
 ·exact ⟨5, rfl⟩
 ·exact ⟨7, rfl⟩
 ·exact ⟨9, rfl⟩
 ·exact ⟨11, rfl⟩
 ·exact ⟨13, rfl⟩
theorem Msk.odd {m : Nat} (h : Msk m) : m % 2 = 1 := by
 rcases h with rfl | rfl | rfl | rfl | rfl | rfl <;> rfl
theorem Msk.run {m : Nat} (hm : Msk m) (h : Int) {j : Nat} (hj : j ≤ m) : ∃ n, n ≤ m + 12 ∧ runI m (SetTable.bits h) n = j := by
 obtain ⟨k, hk⟩ := hm.pow
 obtain ⟨n, hn, e⟩ := agE hk (runI_le m (SetTable.bits h) 12) hj
 refine ⟨12 + n, by omega, ?_⟩
 rw [runI_tail (bits_lt h), e]
theorem adL (m : Nat) (h : Int) (k : Nat) : way m h k ≤ m := by
 have b := runEnd_bd (m := m) (i := SetTable.bits h % (m + 1)) (Nat.le_of_lt_succ (Nat.mod_lt _ (Nat.succ_pos _)))
 have z := nth_in (m := m) k (runAt m (SetTable.bits h % (m + 1)) (SetTable.bits h)) (by
  simp only [runAt]
  omega)
 exact Nat.le_trans (Nat.le_add_right _ _) z
theorem Msk.first {m : Nat} (hm : Msk m) (h : Int) {p : Nat → Prop} {j : Nat} (hj : j ≤ m) (hp : p j) : ∃ K, K < 10 * SetTable.turns m ∧ p (way m h K) ∧ ∀ k, k < K → ¬ p (way m h k) := by
 obtain ⟨n, hn, e⟩ := hm.run h hj
 obtain ⟨k, hk, e2⟩ := run_nth m (SetTable.bits h) n
 have e3 : way m h k = j := by
  show (nth m (runAt m (SetTable.bits h % (m + 1)) (SetTable.bits h)) k).j = j
  rw [e2]
  exact e
 obtain ⟨K, a, b, c⟩ := st_least (p := fun k => p (way m h k)) k (by show p (way m h k); rw [e3]; exact hp)
 exact ⟨K, by unfold SetTable.turns; omega, b, c⟩
structure Tab (t : SetTable) (n : Nat) : Prop where
 ris : Ris t.place.toList
 dm : t.dummies = #[]
 sz : t.place.size = n
 msk : Msk t.mask
 bd : ∀ x ∈ t.place.toList, x ≤ t.mask
theorem Tab.free {t : SetTable} {n : Nat} (T : Tab t n) (hn : n ≤ t.mask) (h : Int) : ∃ K, K < 10 * SetTable.turns t.mask ∧ way t.mask h K ∉ t.place.toList ∧ ∀ k, k < K → way t.mask h k ∈ t.place.toList := by
 obtain ⟨j, hj, hjn⟩ := st_missing t.place.toList (t.mask + 1) (by rw [Array.length_toList, T.sz]; omega)
 obtain ⟨K, a, b, c⟩ := T.msk.first h (p := fun x => x ∉ t.place.toList) (Nat.le_of_lt_succ hj) hjn
 exact ⟨K, a, b, fun k hk => Classical.not_not.mp (c k hk)⟩
theorem Tab.probe {t : SetTable} {n : Nat} (T : Tab t n) (hn : n ≤ t.mask) (hashAt : Nat → Int) (h : Int) (hh : ∀ i, i < n → hashAt i ≠ h) :
  ∃ K, t.probe hashAt h (t.probeStart h) = some (.empty (way t.mask h K) none) ∧ way t.mask h K ∉ t.place.toList := by
 obtain ⟨K, a, b, c⟩ := T.free hn h
 refine ⟨K, ?_, b⟩
 rcases go_spec t T.ris T.dm hashAt h (10 * SetTable.turns t.mask) K (t.probeStart h) rfl a c b with ⟨k, i, _, e2, e3, _⟩ | ⟨_, e⟩
 ·have : i < t.place.toList.length := (List.getElem?_eq_some_iff.mp e2).1
  rw [Array.length_toList, T.sz] at this
  exact absurd e3 (hh i this)
 ·exact e
theorem Tab.put {t : SetTable} {n : Nat} (T : Tab t n) {j : Nat} (hj : j ∉ t.place.toList) (hm : j ≤ t.mask) : Tab (t.put j).1 (n + 1) ∧ SetTable.below t.place j ≤ n ∧ (t.put j).1.fill = n + 1 := by
 have hc := (below_cut T.ris j).1
 have hl : SetTable.below t.place j ≤ t.place.toList.length := by rw [Array.length_toList]; exact hc
 have pp := put_place t j
 have sz : (t.put j).1.place.size = n + 1 := by rw [← Array.length_toList, pp, len_ins _ hl, Array.length_toList, T.sz]
 have dm : (t.put j).1.dummies = #[] := put_dm T.dm j
 refine ⟨⟨ris_insert T.ris fun e => hj (List.mem_of_getElem? (by rw [Array.getElem?_toList]; exact e)), dm, sz, T.msk, fun x hx => ?_⟩, by rw [← T.sz]; exact hc, by unfold SetTable.fill; rw [sz, dm]; rfl⟩
 rw [pp] at hx
 rcases mem_ins.mp hx with rfl | z
 ·exact hm
 ·exact T.bd x z
structure Occ (m n : Nat) (owner : Array (Option Nat)) : Prop where
 sz : owner.size = m + 1
 all : ∀ k, k < n → ∃ j, j ≤ m ∧ oAt owner j = some k
 few : ∃ ps : List Nat, ps.length = n ∧ ∀ j, j ≤ m → oAt owner j ≠ none → j ∈ ps
theorem Occ.zero (m : Nat) : Occ m 0 (Array.replicate (m + 1) none) :=
 ⟨Array.size_replicate, fun _ h => absurd h (Nat.not_lt_zero _), [], rfl, fun _ hj e => absurd (oAt_init hj) e⟩
theorem Occ.next {m n : Nat} {owner : Array (Option Nat)} (hm : Msk m) (W : Occ m n owner) (hn : n ≤ m) (h : Int) :
  ∃ j, SetTable.layClean.free m owner (SetTable.turns m) (SetTable.bits h % (m + 1)) (SetTable.bits h) = some j ∧ Occ m (n + 1) (owner.setIfInBounds j (some n)) := by
 obtain ⟨ps, hl, hps⟩ := W.few
 obtain ⟨j0, hj0, hj1⟩ := st_missing ps (m + 1) (by omega)
 have hfree : oAt owner j0 = none := Classical.byContradiction fun z => hj1 (hps j0 (Nat.le_of_lt_succ hj0) z)
 obtain ⟨c, hc, ec⟩ := hm.run h (Nat.le_of_lt_succ hj0)
 have eo : way m h (off m (SetTable.bits h % (m + 1)) (SetTable.bits h) c) = j0 := by
  show (nth m (runAt m (SetTable.bits h % (m + 1)) (SetTable.bits h)) (off m (SetTable.bits h % (m + 1)) (SetTable.bits h) c)).j = j0
  rw [nth_off, itL_run]
  exact ec
 obtain ⟨K, k1, k2, k3⟩ := st_least (p := fun k => oAt owner (way m h k) = none) _ (show oAt owner (way m h (off m (SetTable.bits h % (m + 1)) (SetTable.bits h) c)) = none by rw [eo]; exact hfree)
 have hf := free_spec m owner (SetTable.turns m) c (SetTable.bits h % (m + 1)) (SetTable.bits h) K (by unfold SetTable.turns; omega) k1 (fun k hk => by
  cases q : oAt owner (nth m (runAt m (SetTable.bits h % (m + 1)) (SetTable.bits h)) k).j with
  | none => exact absurd q (k3 k hk)
  | some y => rfl) (Option.isNone_iff_eq_none.mpr k2)
 have hw : way m h K ≤ m := adL m h K
 refine ⟨way m h K, hf, by rw [Array.size_setIfInBounds]; exact W.sz, fun k hk => ?_, way m h K :: ps, congrArg Nat.succ hl, fun j hj e => ?_⟩
 ·by_cases d : k = n
  ·exact ⟨way m h K, hw, by rw [oAt_set_self _ (by rw [W.sz]; omega), d]⟩
  ·obtain ⟨j, j1, j2⟩ := W.all k (by omega)
   refine ⟨j, j1, ?_⟩
   rw [oAt_set_ne _ fun z => by rw [z, k2] at j2; cases j2]
   exact j2
 ·by_cases d : j = way m h K
  ·rw [d]; exact List.mem_cons_self
  ·rw [oAt_set_ne _ d] at e
   exact List.mem_cons_of_mem _ (hps j hj e)
theorem Zi {m : Nat} (hm : Msk m) : ∀ (hs : List Int) (n : Nat) (owner : Array (Option Nat)), Occ m n owner → n + hs.length ≤ m →
  ∃ owner', hs.foldl (stepF m) (some (owner, n)) = some (owner', n + hs.length) ∧ Occ m (n + hs.length) owner'
 | [], n, owner, W, _ => ⟨owner, rfl, W⟩
 | h :: hs, n, owner, W, hl => by
  rw [List.length_cons] at hl
  obtain ⟨j, e, W1⟩ := W.next hm (by omega) h
  obtain ⟨o2, e2, W2⟩ := Zi hm hs (n + 1) _ W1 (by omega)
  have en : n + 1 + hs.length = n + (h :: hs).length := by rw [List.length_cons]; omega
  rw [en] at e2 W2
  exact ⟨o2, by rw [List.foldl_cons, stepF_some e]; exact e2, W2⟩
theorem Z4 (t : SetTable) {hs : Array Int} {wanted M : Nat} (hw : SetTable.sizeAbove wanted - 1 = M) (hM : Msk M) (hn : hs.size ≤ M) :
  ∃ t' order, t.relaid hs wanted = some (t', order) ∧ order.toList.Perm (List.range hs.size) ∧ Tab t' hs.size ∧ t'.mask = M ∧ t'.led = t.led ∧ t'.plain = t.plain := by
 obtain ⟨owner, e, W⟩ := Zi hM hs.toList 0 _ (Occ.zero M) (by rw [Array.length_toList]; omega)
 rw [Nat.zero_add, Array.length_toList] at e W
 have el : SetTable.layClean M hs = some owner := by rw [layClean_eq, e]; rfl
 have er : t.relaid hs wanted = some (tabOf t M owner, ((liveOf M owner).map (·.2)).toArray) := by rw [relaid_eq, hw, el]; rfl
 obtain ⟨q1, q2⟩ := ris_live (fun j => owner.getD j none) (List.range (M + 1)) List.pairwise_lt_range
 have q1' : Ris ((liveOf M owner).map (·.1)) := q1
 have q2' : ∀ x ∈ (liveOf M owner).map (·.1), x ∈ List.range (M + 1) := q2
 have hlen : (liveOf M owner).length = hs.size := by
  obtain ⟨ps, pl, pm⟩ := W.few
  refine Nat.le_antisymm ?_ ?_
  ·rw [← pl, ← List.length_map (as := liveOf M owner) (·.1)]
   refine nat_nodup_len _ _ (List.Pairwise.imp (fun z => Nat.ne_of_lt z) q1') fun x hx => ?_
   obtain ⟨⟨j, k⟩, hq, rfl⟩ := List.mem_map.mp hx
   have := (mem_live W.sz).mp hq
   exact pm j this.1 (by rw [this.2]; simp)
  ·rw [← List.length_map (as := liveOf M owner) (·.2)]
   have := nat_nodup_len (List.range hs.size) ((liveOf M owner).map (·.2)) List.nodup_range fun k hk => by
    obtain ⟨j, j1, j2⟩ := W.all k (List.mem_range.mp hk)
    exact List.mem_map.mpr ⟨(j, k), (mem_live W.sz).mpr ⟨j1, j2⟩, rfl⟩
   rwa [List.length_range] at this
 refine ⟨_, _, er, perm_range _ _ (by rw [List.length_map]; exact hlen) fun k hk => ?_, ⟨q1', rfl, ?_, hM, fun x hx => Nat.le_of_lt_succ (List.mem_range.mp (q2' x hx))⟩, rfl, rfl, rfl⟩
 ·obtain ⟨j, j1, j2⟩ := W.all k hk
  exact List.mem_map.mpr ⟨(j, k), (mem_live W.sz).mpr ⟨j1, j2⟩, rfl⟩
 ·show ((liveOf M owner).map (·.1)).toArray.size = hs.size
  rw [List.size_toArray, List.length_map, hlen]
theorem afb {m n : Nat} (hm : Msk m) (h1 : n * 5 < m * 3) (h2 : (n + 1) * 5 ≥ m * 3) (h3 : n + 1 ≤ 4914) : ∃ M, Msk M ∧ SetTable.sizeAbove (SetTable.grown (n + 1)) - 1 = M ∧ SetTable.sizeAbove (SetTable.grown (n + 1)) ≤ 8192 ∧ (n + 1) * 5 < M * 3 := by
 rcases hm with rfl | rfl | rfl | rfl | rfl | rfl
 ·obtain rfl : n = 4 := by omega
  exact ⟨31, .inr (.inl rfl), by decide +kernel, by decide +kernel, by omega⟩
 ·obtain rfl : n = 18 := by omega
  exact ⟨127, .inr (.inr (.inl rfl)), by decide +kernel, by decide +kernel, by omega⟩
 ·obtain rfl : n = 76 := by omega
  exact ⟨511, .inr (.inr (.inr (.inl rfl))), by decide +kernel, by decide +kernel, by omega⟩
 ·obtain rfl : n = 306 := by omega
  exact ⟨2047, .inr (.inr (.inr (.inr (.inl rfl)))), by decide +kernel, by decide +kernel, by omega⟩
 ·obtain rfl : n = 1228 := by omega
  exact ⟨8191, .inr (.inr (.inr (.inr (.inr rfl)))), by decide +kernel, by decide +kernel, by omega⟩
 ·omega
abbrev hsL (P : Program) (w : World) (L : List (Addr × List Int)) : List Int := L.map fun p => thash P w p.2
structure SetB (P : Program) (w : World) (h : Heap) (a : Addr) (L : List (Addr × List Int)) (es : Array (Int × Value)) (ep : Nat) (t : SetTable) : Prop where
 ob : ∃ o, h.get? a = some o ∧ o.ExactSet ∧ o.data = .set es ep t
 rows : es.toList = rowsOf P w L
 tab : Tab t L.length
 nd : (hsL P w L).Nodup
 pl : t.plain = true
 ld : w.params.followText "set-order" = true ∨ t.led = true
 room : L.length * 5 < t.mask * 3
section
variable {P : Program} {w : World} {A : Around} {E : Value → Shared → Prop} {s : Shared} {a : Addr} {L : List (Addr × List Int)} {es : Array (Int × Value)} {ep : Nat} {t : SetTable}
theorem O7 (h : es.toList = rowsOf P w L) : es.size = L.length := by rw [← Array.length_toList, h, L2.rowsOf, List.length_map]
theorem Y4 {n : Nat} (T : Tab t n) (h : n ≤ t.mask) : t.fits n = true := by
 unfold SetTable.fits SetTable.fill
 rw [T.dm, T.sz]
 simpa using h
theorem SetB.fits (R : SetB P w s.heap a L es ep t) : t.fits es.size = true := by
 rw [O7 R.rows]
 exact Y4 R.tab (by have := R.room; omega)
theorem SetB.to {h h' : Heap} (R : SetB P w h a L es ep t) (k : ∀ o, h.get? a = some o → h'.get? a = some o) : SetB P w h' a L es ep t :=
 ⟨R.ob.imp fun o z => ⟨k o z.1, z.2⟩, R.rows, R.tab, R.nd, R.pl, R.ld, R.room⟩
theorem acF {h : Heap} (ho : h.get? a = some { cls := .type "set", dict := none, data := .set #[] 0 (.fresh 0 0 (!w.params.followText "set-order")) }) : SetB P w h a [] #[] 0 (.fresh 0 0 (!w.params.followText "set-order")) :=
 ⟨⟨_, ho, ⟨rfl, rfl, rfl⟩, rfl⟩, rfl, ⟨.nil, rfl, rfl, .inl rfl, fun _ h => nomatch h⟩, .nil, rfl, by
  show _ ∨ (!w.params.followText "set-order") = true
  cases w.params.followText "set-order" <;> simp, by show 0 * 5 < 7 * 3; omega⟩
theorem aes (R : SetB P w s.heap a L es ep t) {x : Value} {z : Int} (hz : z ∉ hsL P w L) {Q : SetFound → Shared → Prop}
  (hQ : ∀ j, j ≤ t.mask → j ∉ t.place.toList → Q (.free j false) s) : wpAny (model P w) A (setSearch a x z true) Q E s := by
 obtain ⟨o, ho, hex, hd⟩ := R.ob
 have hr := R.room
 obtain ⟨K, e, hK⟩ := R.tab.probe (by omega) (fun i => (es[i]?.map (·.1)).getD 0) z fun i hi q => by
  have e1 : es[i]? = some (thash P w (L[i]).2, Value.ref (L[i]).1) := by
   rw [← Array.getElem?_toList, R.rows, L2.rowsOf, List.getElem?_map, List.getElem?_eq_getElem hi]
   rfl
  have q' : thash P w (L[i]).2 = z := by
   have := q
   simp only [e1] at this
   exact this
  exact hz (q' ▸ List.mem_map.mpr ⟨L[i], List.getElem_mem hi, rfl⟩)
 unfold setSearch
 rw [show (100000 : Nat) = 99999 + 1 from rfl, setSearchFrom_succ]
 refine wpAny_bind (wpAny_setState_of ho hd R.fits ?_)
 dsimp only
 refine wp_if_neg (by unfold SetTable.gaveWay; rw [R.tab.msk.odd]; decide) ?_
 try refine wpAny_bind (wpAny_pure ?_)
 rw [show (none : Option SetTable.Probe).getD (t.probeStart z) = t.probeStart z from rfl, e]
 dsimp only
 exact wpAny_pure (hQ _ (adL _ _ _) hK)
theorem agl {o : Obj} (ho : s.heap.get? a = some o) (hex : o.ExactSet) (hd : o.data = .set es ep t) (rows : es.toList = rowsOf P w L) (T : Tab t L.length) (hm : L.length ≤ t.mask) (nd : (hsL P w L).Nodup)
  (pl : t.plain = true) (ld : w.params.followText "set-order" = true ∨ t.led = true) {wanted M : Nat} (hM : Msk M) (hw : SetTable.sizeAbove wanted - 1 = M) (hw2 : SetTable.sizeAbove wanted ≤ 8192) (hn : L.length * 5 < M * 3) {Q : Unit → Shared → Prop}
  (hQ : ∀ h' L' es' ep' t', Heap.SameBut a s.heap h' → SetB P w h' a L' es' ep' t' → L'.Perm L → Q () { s with heap := h' }) : wpAny (model P w) A (setRelay a wanted) Q E s := by
 have hl := O7 rows
 obtain ⟨t', order, e, pm, T', em, el, ep'⟩ := Z4 t (hs := es.map (·.1)) hw hM (by rw [Array.size_map, hl]; omega)
 rw [Array.size_map, hl] at pm T'
 obtain ⟨L2, r1, r2, _⟩ := order_rows L es order rows pm
 have hl2 : (order.filterMap (es[·]?)).size = es.size := by rw [O7 r1, r2.length_eq, hl]
 rw [setRelay_eq]
 refine wpAny_bind (wpAny_setState_of ho hd (by rw [hl]; exact Y4 T hm) ?_)
 dsimp only
 refine wp_if_neg (by rw [sizeLine_eq]; omega) ?_
 try refine wpAny_bind (wpAny_pure ?_)
 rw [e]
 dsimp only
 refine wpAny_bind ?_
 refine wp_if_neg (by rw [hl2]; simp) ?_
 try refine wpAny_bind (wpAny_pure ?_)
 refine wpAny_pure ?_
 dsimp only
 refine wpAny_storeSet_of ho hd ?_ (by rw [hl2, hl, sizeLine_eq]; have := T.sz; rcases T.msk with q | q | q | q | q | q <;> omega)
 exact hQ _ L2 _ _ t' (Heap.SameBut.update ..) ⟨⟨_, store_at ho hd, ⟨hex.1, hex.2.1, hex.2.2⟩, rfl⟩, r1, by rw [r2.length_eq]; exact T', (r2.map _).nodup_iff.mpr nd, by rw [ep']; exact pl, by rw [el]; exact ld, by rw [r2.length_eq, em]; exact hn⟩ r2
theorem addB (R : SetB P w s.heap a L es ep t) {x : Addr} {k : List Int} (hx : IsT P w s.heap k x) (hk : thash P w k ∉ hsL P w L) (hf : L.length + 1 ≤ 4914) {Q : Bool → Shared → Prop}
  (hQ : ∀ h' L' es' ep' t', Heap.SameBut a s.heap h' → SetB P w h' a L' es' ep' t' → L'.Perm ((x, k) :: L) → Q true { s with heap := h' }) :
  wpAny (model P w) A (setAddHashed a (.ref x) (thash P w k)) Q E s := by
 obtain ⟨o, ho, hex, hd⟩ := R.ob
 have hl := O7 R.rows
 have hr := R.room
 unfold setAddHashed
 refine wpAny_holding ?_
 rw [show (100000 : Nat) = 99999 + 1 from rfl, setAddHashedIn_succ]
 refine wpAny_bind (wpAny_setState_of ho hd R.fits ?_)
 dsimp only
 refine wp_if_neg (by simp [byScan, Value.scannable]) ?_
 try refine wpAny_bind (wpAny_pure ?_)
 refine wpAny_bind (aes R hk fun j hj hjn => ?_)
 dsimp only
 refine wpAny_bind (wpAny_setState_of ho hd R.fits ?_)
 dsimp only
 obtain ⟨T1, hp, hfill⟩ := R.tab.put hjn hj
 have hmask : (t.put j).1.mask = t.mask := rfl
 have hled : (t.put j).1.led = t.led := rfl
 have hpl : (t.put j).1.plain = true := R.pl
 have e2 : (t.put j).2 = SetTable.below t.place j := rfl
 generalize hpt : t.put j = pt at T1 hfill hmask hled hpl e2 ⊢
 obtain ⟨t1, p⟩ := pt
 dsimp only at T1 hfill hmask hled hpl e2 ⊢
 rw [← e2] at hp
 first
  | (refine wpAny_bind ?_; refine wp_if_pos hpl ?_; refine hashBy_tup hx ?_)
  | refine wp_if_pos hpl (wpAny_bind (hashBy_tup hx ?_))
 simp only [if_true]
 have hin : (SetTable.insertAt es p (thash P w k, Value.ref x)).toList = rowsOf P w (L.take p ++ (x, k) :: L.drop p) := by rw [SetTable.toList_insertAt, rows_put, R.rows]
 have pm := put_perm L p (x, k)
 generalize SetTable.insertAt es p (thash P w k, Value.ref x) = es1 at hin ⊢
 generalize L.take p ++ (x, k) :: L.drop p = L1 at hin pm
 have l1 : L1.length = L.length + 1 := pm.length_eq
 have hes := O7 hin
 have nd1 : (hsL P w L1).Nodup := (pm.map _).nodup_iff.mpr (List.nodup_cons.mpr ⟨hk, R.nd⟩)
 refine wpAny_bind (wpAny_storeSet_of ho hd ?_ (by rw [hes, l1, sizeLine_eq]; omega))
 have sb : Heap.SameBut a s.heap (s.heap.update a (Obj.putSet es1 t1)) := Heap.SameBut.update ..
 have ho1 := store_at (es' := es1) (t' := t1) ho hd
 generalize s.heap.update a (Obj.putSet es1 t1) = h1 at sb ho1 ⊢
 have ld1 : w.params.followText "set-order" = true ∨ t1.led = true := by rw [hled]; exact R.ld
 rw [← l1] at T1 hfill
 by_cases c : t1.tooFull = true
 ·first
   | (refine wpAny_bind ?_; refine wp_if_pos (by simp [c]) ?_)
   | (refine wp_if_pos (by simp [c]) ?_; refine wpAny_bind ?_)
  have c2 : (L.length + 1) * 5 ≥ t.mask * 3 := by
   have q := c
   unfold SetTable.tooFull at q
   rw [decide_eq_true_eq, hfill, l1, hmask] at q
   exact q
  obtain ⟨M, g1, g2, g3, g4⟩ := afb R.tab.msk hr c2 hf
  rw [hl]
  refine agl (s := { s with heap := h1 }) ho1 ⟨hex.1, hex.2.1, hex.2.2⟩ rfl hin T1 (by rw [l1, hmask]; omega) nd1 hpl ld1 g1 g2 g3 (by rw [l1]; exact g4) fun h2 L2 es2 ep2 t2 sb2 R2 pm2 => ?_
  exact wpAny_pure (hQ h2 L2 es2 ep2 t2 (sb.trans sb2) R2 (pm2.trans pm))
 ·first
   | refine wp_if_neg (by simp [c]) ?_
   | (refine wpAny_bind ?_; refine wp_if_neg (by simp [c]) ?_; refine wpAny_pure ?_)
  refine wpAny_pure (hQ h1 L1 es1 (ep + 1) t1 sb ⟨⟨_, ho1, ⟨hex.1, hex.2.1, hex.2.2⟩, rfl⟩, hin, T1, nd1, hpl, ld1, ?_⟩ pm)
  have q := c
  unfold SetTable.tooFull at q
  rw [decide_eq_true_eq, hfill] at q
  omega
end
open PySem.W PySem.Calls
section
variable {P : Program} {w : World} {A : Around} {E : Value → Shared → Prop} {s : Shared}
def Kept (h h' : Heap) : Prop := ∀ b o, h.get? b = some o → h'.get? b = some o
theorem aib {I S : Addr} {fp wr : List Addr} {G : Array GenState → Array GenState → Prop} {n : Nat} {Pv : Nat → Value → Prop} {St : Nat → Shared → Prop} {R : Result → Shared → Prop} {h0 : Heap} (ks : List (Addr × List Int))
  (W : WalksS P w A.in1 I fp wr G n Pv St) (hS : S ∉ fp) (hn : n = ks.length) (hf : ks.length ≤ 4914) (nd : (hsL P w ks).Nodup) (val : ∀ i v, Pv i v → ∃ p, ks[i]? = some p ∧ v = .ref p.1)
  (hk : ∀ p ∈ ks, IsT P w h0 p.2 p.1) (new : h0.get? S = none) (neww : ∀ b ∈ wr, h0.get? b = none) (hu : A.in1.units < cLine) :
  ∀ (m i : Nat) (s : Shared), i + m = n → St i s → Kept h0 s.heap → (∃ L es ep t, SetB P w s.heap S L es ep t ∧ L.Perm (ks.take i)) →
   (∀ s' L es ep t, Moved (S :: wr) G s s' → SetB P w s'.heap S L es ep t → L.Perm ks → Kept h0 s'.heap → R (.ok (.ret .none)) s') →
   codeAny (model P w) A (.builtin "set.update.loop" ⟨[.ref S, .ref I], []⟩) R s := by
 have hSw : S ∉ wr := fun z => hS (W.sub S z)
 have kept1 : ∀ {s s' : Shared}, Moved wr G s s' → Kept h0 s.heap → Kept h0 s'.heap := fun mv k b o e => mv.heap b o (fun z => by rw [neww b z] at e; cases e) (k b o e)
 intro m
 induction m with
 | zero =>
  intro i s hm hst hkp hL fin
  obtain ⟨L, es, ep, t, hB, pm⟩ := hL
  obtain rfl : i = n := by omega
  refine codeAny_builtin F.entry_set_update_loop ?_
  rw [Around.under_plainId F.plain_set_update_loop _]
  refine wpAny_bind (m := pyNext (.ref I)) (W.done s _ _ hst fun s' mv => ?_)
  rw [hn, List.take_length] at pm
  have := fin s' L es ep t (mv.mono fun b hb => List.mem_cons_of_mem S hb) (hB.to fun o e => mv.heap S o hSw e) pm (kept1 mv hkp)
  exact wpAny_pure this
 | succ m ih =>
  intro i s hm hst hkp hL fin
  obtain ⟨L, es, ep, t, hB, pm⟩ := hL
  refine codeAny_builtin F.entry_set_update_loop ?_
  rw [Around.under_plainId F.plain_set_update_loop _]
  refine wpAny_bind (m := pyNext (.ref I)) (W.item i s _ _ (by omega) hst fun v s' hP hst' mv => ?_)
  obtain ⟨⟨x, k⟩, hp, rfl⟩ := val i v hP
  have kp' := kept1 mv hkp
  have hB' := hB.to (h' := s'.heap) fun o e => mv.heap S o hSw e
  have hpk : (x, k) ∈ ks := List.mem_of_getElem? hp
  have hx : IsT P w s'.heap k x := isT_keep (hk _ hpk) kp'
  have hil : i < ks.length := by omega
  have ht : ks.take (i + 1) = ks.take i ++ [(x, k)] := by rw [List.take_succ, hp]; rfl
  have nd1 : (hsL P w (ks.take (i + 1))).Nodup := by
   have := nd
   rw [← List.take_append_drop (i + 1) ks, hsL, List.map_append] at this
   exact (List.nodup_append.mp this).1
  have hkn : thash P w k ∉ hsL P w L := fun z => by
   rw [ht, hsL, List.map_append] at nd1
   exact (List.nodup_append.mp nd1).2.2 _ ((pm.map fun p => thash P w p.2).mem_iff.mp z) _ (by simp) rfl
  refine wpAny_bind (m := holding [Value.ref x] (setAdd S (.ref x))) (wpAny_holding ?_)
  unfold setAdd
  refine wpAny_holding (wpAny_bind (wpAny_pyHash_tuple hu hx ?_))
  have hlen : L.length = i := by rw [pm.length_eq, List.length_take]; omega
  refine addB (s := { s' with toks := s'.toks + (k.length + 1) }) hB' hx hkn (by omega) fun h' L' es' ep' t' sb hB2 pm2 => ?_
  have same : ∀ b o, b ≠ S → s'.heap.get? b = some o → h'.get? b = some o := fun b o hb e => (sb.2 b hb).trans e
  have kp2 : Kept h0 h' := fun b o e => same b o (fun z => by rw [z, new] at e; cases e) (kp' b o e)
  have pm3 : L'.Perm (ks.take (i + 1)) := by
   rw [ht]
   exact pm2.trans ((pm.cons _).trans (List.perm_append_singleton _ _).symm)
  refine wpAny_pure ⟨plainId_quiet F.plain_set_update_loop _, ih (i + 1) _ (by omega) (W.frame (i + 1) s' _ _ hst' (Nat.le_add_right _ _) fun b hb o e => same b o (fun z => hS (z ▸ hb)) e) kp2 ⟨L', es', ep', t', hB2, pm3⟩ fun s'' L2 es2 ep2 t2 mv2 hB3 pm4 kp3 => ?_⟩
  refine fin s'' L2 es2 ep2 t2 (Moved.trans W.gtrans ((mv.mono fun b hb => List.mem_cons_of_mem S hb).then_heap (Nat.le_add_right _ _) fun b o hb e => ?_) mv2) hB3 pm4 kp3
  exact same b o (fun z => hb (z ▸ List.mem_cons_self)) e
abbrev fB (w : World) : Obj := { cls := .type "set", dict := none, data := .set #[] 0 (.fresh 0 0 (!w.params.followText "set-order")) }
theorem acb {l : Addr} {items : Array Value} (ks : List (Addr × List Int)) {Q : Value → Shared → Prop} (hh : A.handled = none) (ht : s.heap.IsTuple l items) (hit : items.toList = ks.map fun p => Value.ref p.1)
  (hk : ∀ p ∈ ks, IsT P w s.heap p.2 p.1) (hf : ks.length ≤ 4914) (nd : (hsL P w ks).Nodup) (hu : A.units + 3 < cLine)
  (fin : ∀ (h' : Heap) (tk : Nat) L es ep t, SetB P w h' s.heap.objs.size L es ep t → L.Perm ks → Kept s.heap h' → Q (.ref s.heap.objs.size) { s with heap := h', toks := tk }) :
  wpAny (model P w) A (call (.type "set") [.ref l]) Q E s := by
 have hsz : items.size = ks.length := by rw [← Array.length_toList, hit, List.length_map]
 obtain ⟨c, tl, hmro⟩ := F.called_set.mro
 have m1 := F.called_set.made
 have m2 := F.called_set.sub
 refine wpAny_call (codeAny_of_tree ?_)
 show wpAny (model P w) _ (callAny (.type "set") ⟨[.ref l], []⟩) _ _ _
 refine wpAny_pure ⟨Code.quiet_builtin _ (by decide +kernel), codeAny_builtin F.entry_type_call ?_⟩
 rw [Around.under_plain (weight_type_call_type "set" [.ref l] []) rfl]
 have m3 := F.called_set.notType
 have m4 := F.called_set.canCreate
 have m5 := F.typeCall_set_1 (.ref l)
 repeat any_goals first | assumption | wp_step
 refine codeAny_mono (code_set_led1 (.ref l) (E := E) (Q₁ := fun obj z => obj = .ref s.heap.objs.size ∧ z = { s with heap := s.heap.push (fB w) }) ⟨rfl, rfl⟩) fun r z hr => ?_
 cases r with
 | error e => exact hr
 | ok fl =>
  cases fl with
  | ret obj =>
   obtain ⟨rfl, rfl⟩ := hr
   have gS : (s.heap.push (fB w)).get? s.heap.objs.size = some (fB w) := Heap.get?_push_size _ rfl
   have gT : Shared.TypeIs { s with heap := s.heap.push (fB w) } (.ref s.heap.objs.size) "set" := ⟨_, gS, rfl⟩
   have m6 := F.called_set.init.lookup
   have m7 := F.called_set.init.bind (.ref s.heap.objs.size)
   repeat any_goals first | assumption | wp_step
   refine codeAny_mono (codeAny_call_builtin (R := wants (fun r z => r = .none ∧ ∃ h' tk L es ep t, z = { s with heap := h', toks := tk } ∧ SetB P w h' s.heap.objs.size L es ep t ∧ L.Perm ks ∧ Kept s.heap h') E) F.called_set.init.plain F.entry_set_init (check_set_init_1 gT ?w2)) fun r z hr => ?w3
   case w2 =>
    obtain ⟨ol, hol, hcl, nl, hdl⟩ := ht
    obtain ⟨ocls, odict, odata, oslots⟩ := ol
    simp only at hcl hdl
    subst hcl hdl
    have hol' : (s.heap.push (fB w)).get? l = some { cls := .type "tuple", dict := odict, data := .seq items nl, slots := oslots } := Heap.get?_push_of_some _ hol
    have m8 := F.sub_tuple_set
    have m9 := F.sub_tuple_frozenset
    have ne1 : (Value.type "tuple" == Value.type "dict") = false := by decide
    have ht1 : (s.heap.push (fB w)).IsTuple l items := ⟨_, hol', rfl, nl, rfl⟩
    unfold Builtin.«set.__init__» noKeywords Builtin.Frozenset.updateFrom
    generalize ePI : pyIter = PI
    wp_walk
    subst ePI
    refine wpAny_pyIter_tuple ht1 ?_
    refine wpAny_bind (wpAny_runValue ?_)
    have lt1 : l < s.heap.objs.size := Heap.lt_size hol
    have h3 : A.in1.in1.in1.handled = none := by simp [hh]
    have ne2 : l ≠ (s.heap.push (fB w)).objs.size := by rw [Heap.size_push]; exact Nat.ne_of_lt (Nat.lt_succ_of_lt lt1)
    have out : s.heap.objs.size ∉ [(s.heap.push (fB w)).objs.size, l] := by
     rw [Heap.size_push]
     simp only [List.mem_cons, List.not_mem_nil, or_false, not_or]
     exact ⟨Nat.ne_of_lt (Nat.lt_succ_self _), Nat.ne_of_gt lt1⟩
    have val : ∀ (i : Nat) (v : Value), items[i]? = some v → ∃ p, ks[i]? = some p ∧ v = .ref p.1 := fun i v hv => by
     have q : items.toList[i]? = some v := by rw [Array.getElem?_toList]; exact hv
     rw [hit, List.getElem?_map] at q
     obtain ⟨p, e1, e2⟩ := Option.map_eq_some_iff.mp q
     exact ⟨p, e1, e2.symm⟩
    have above : ∀ b, s.heap.objs.size ≤ b → s.heap.get? b = none := fun b hb => by
     cases q : s.heap.get? b with
     | none => rfl
     | some o => exact absurd (Nat.lt_of_lt_of_le (Heap.lt_size q) hb) (Nat.lt_irrefl b)
    refine aib (h0 := s.heap) ks ((Walks.tuple h3 _ l ne2 items).toS) out hsz hf nd val hk (above _ (Nat.le_refl _)) (fun b hb => above b (by
      rw [List.mem_singleton.mp hb, Heap.size_push]
      exact Nat.le_succ s.heap.objs.size)) hu items.size 0 _ (by omega) ⟨⟨_, Heap.get?_push_size _ rfl, rfl, rfl⟩, ht1.push _⟩ (fun b o e => Heap.get?_push_of_some _ (Heap.get?_push_of_some _ e)) ?v1 ?v2
    case v1 => exact ⟨[], #[], 0, _, acF (Heap.get?_push_of_some _ gS), .refl _⟩
    case v2 =>
     intro z L es ep t hm hS' pm hkp
     obtain ⟨h', g2, d', tk', os'⟩ := z
     obtain rfl : g2 = s.gens := hm.gens
     obtain rfl : d' = s.drawn := hm.drawn
     obtain rfl : os' = s.os := hm.os
     show wpAny _ _ _ _ _ _
     refine wpAny_pure ?_
     show wpAny _ _ (PySem.ret Value.none) _ _ _
     exact wpAny_pure ⟨rfl, h', tk', L, es, ep, t, rfl, hS', pm, hkp⟩
   case w3 =>
    cases r with
    | error e => exact hr
    | ok fl =>
     cases fl with
     | ret r =>
      obtain ⟨rfl, h', tk, L, es, ep, t, rfl, a1, a2, a3⟩ := hr
      repeat any_goals first | assumption | wp_step
      exact fin _ _ _ _ _ _ a1 a2 a3
     | _ => exact hr.elim
  | _ => exact hr.elim
end
section
variable {P : Program} {w : World} {A : Around} {E : Value → Shared → Prop} {s : Shared} {a : Addr} {L : List (Addr × List Int)} {es : Array (Int × Value)} {ep : Nat} {t : SetTable}
theorem aif (R : SetB P w s.heap a L es ep t) {Q : Value → Shared → Prop} (hQ : ∀ z I, SetIt P w s a es z I → Q (.ref I) z) : wpAny (model P w) A (pyIter (.ref a)) Q E s := by
 obtain ⟨o, ho, hex, hd⟩ := R.ob
 have hf := R.fits
 have hT : s.TypeIs (.ref a) "set" := ⟨o, ho, hex.1⟩
 have hne : a ≠ s.heap.objs.size := Nat.ne_of_lt (Heap.lt_size ho)
 have hA : SetAt s.heap a es ep t := ⟨o, ho, hex.1, hd⟩
 have two : ∀ b, b ∈ [s.heap.objs.size, a] → b = a ∨ s.heap.objs.size ≤ b := fun b hb => by
  simp only [List.mem_cons, List.not_mem_nil, or_false] at hb
  rcases hb with rfl | rfl
  ·exact .inr (Nat.le_refl _)
  ·exact .inl rfl
 refine wpAny_pyIter_slot hT F.slot_set_iter (wpAny_call_entry F.slot_set_iter hT entry_s_iter ?_ (F.args_set_iter_1 _))
 unfold Builtin.«frozenset.__iter__»
 refine wpAny_bind (m := Builtin.Frozenset.slot0 "__iter__" _) (wpAny_of_eq (a := a) (by rfl) ?_)
 refine wpAny_bind (m := Builtin.Frozenset.sizeOf a) ?_
 unfold Builtin.Frozenset.sizeOf
 refine wpAny_bind (wpAny_setEntries_of ho hd hf (wpAny_pure ?_))
 first | refine wpAny_bind (setDrawn_at hA hf ?_) | refine wpAny_bind (wpAny_bind (setDrawn_at hA hf ?_))
 refine wp_if_neg (by rw [R.pl]; simp) ?_
 first | refine wpAny_bind (wpAny_pure ?_) | refine wpAny_pure ?_
 refine wpAny_bind (wpAny_setEpoch_of ho hd hf ?_)
 refine wpAny_bind (wpAny_newObj_type (wpAny_pure ⟨_, rfl, "set_iterator", _, ⟨_, Heap.get?_push_size _ rfl, rfl⟩, slot_si_next.lookup, ?_⟩))
 by_cases hb : w.params.followText "set-order" = true
 ·refine hQ _ _ (SetIt.of (fun A' hA' => walks_text (P := P) (ep := ep) hA' hne hf hb) (out := (pickOrder (w.params.setOrder a ep) es).toList.map (·.2)) (by rw [List.length_map, Array.length_toList]) (fun b u e => Heap.get?_push_of_some _ e) rfl rfl rfl (Nat.le_refl _) two ((pick_perm _ es).map _) (fun j v q => ?_) ⟨⟨_, Heap.get?_push_size _ rfl, rfl, rfl⟩, hA.at fun u e => Heap.get?_push_of_some _ e⟩)
  rw [List.getElem?_map, Array.getElem?_toList]
  exact q
 ·have hbf : w.params.followText "set-order" = false := by simpa using hb
  refine hQ _ _ (SetIt.of (fun A' hA' => walks_led (P := P) (ep := ep) hA' hne hf R.tab.ris hbf (by rw [R.pl]; rfl) (R.ld.resolve_left hb)) (out := es.toList.map (·.2)) (by rw [List.length_map, Array.length_toList]) (fun b u e => Heap.get?_push_of_some _ e) rfl rfl rfl (Nat.le_refl _) two (.refl _) (fun j v q => ?_) ⟨⟨_, Heap.get?_push_size _ rfl, rfl, rfl⟩, hA.at fun u e => Heap.get?_push_of_some _ e⟩)
  rw [List.getElem?_map, Array.getElem?_toList]
  exact q
abbrev nl : Obj := { cls := .type "list", data := .seq ([] : List Value).toArray }
theorem adD (hh : A.handled = none) (R : SetB P w s.heap a L es ep t) (hf : L.length ≤ 4914) {Q : List Value → Shared → Prop}
  (hQ : ∀ z vs, Kept s.heap z.heap → s.heap.objs.size ≤ z.heap.objs.size → z.gens = s.gens → z.os = s.os → vs.Perm (L.map fun p => Value.ref p.1) → Q vs z) : wpAny (model P w) A (collect (.ref a)) Q E s := by
 obtain ⟨o, ho, hex, hd⟩ := id R.ob
 have lt : a < s.heap.objs.size := Heap.lt_size ho
 have ev : es.toList.map (·.2) = L.map fun p => Value.ref p.1 := by
  rw [R.rows, L2.rowsOf, List.map_map]
  rfl
 unfold collect
 refine wpAny_bind (wpAny_runValue (codeAny_builtin F.entry_proto_collect ?_))
 rw [Around.under_plainId F.plain_proto_collect _]
 refine wpAny_bind (m := newList []) (wpAny_newObj_type ?_)
 refine wpAny_pure ⟨plainId_quiet F.plain_list_iadd _, codeAny_builtin F.entry_list_iadd ?_⟩
 rw [Around.under_plainId F.plain_list_iadd _]
 have gN : (s.heap.push nl).get? s.heap.objs.size = some nl := Heap.get?_push_size _ rfl
 have ups : Kept s.heap (s.heap.push nl) := fun b u e => Heap.get?_push_of_some _ e
 have R1 : SetB P w (s.heap.push nl) a L es ep t := R.to (ups a)
 have hz1 : (s.heap.push nl).objs.size = s.heap.objs.size + 1 := size_push' _ _
 show wpAny _ A.in1 (Builtin.List.listExtendWith (.ref s.heap.objs.size) (.ref a) (.ref s.heap.objs.size)) _ _ { s with heap := s.heap.push nl }
 unfold Builtin.List.listExtendWith
 refine wpAny_bind (wpAny_typeOf (T := "set") ⟨o, ups a o ho, hex.1⟩ ?_)
 have c1 : Builtin.List.listSameRef (.ref s.heap.objs.size) (.ref a) = false := by simp [Builtin.List.listSameRef, Nat.ne_of_gt lt]
 have c2 : (Value.type "set" == Value.type "list") = false := by decide
 have c3 : (Value.type "set" == Value.type "tuple") = false := by decide
 simp only [c1, c2, c3, Bool.or_false, Bool.false_eq_true, if_false]
 refine wpAny_bind (aif (s := { s with heap := s.heap.push nl }) R1 fun z I hit => ?_)
 obtain ⟨fp, St, out, Pv, k2, g2, o2, t2, hI, hfp, hp, hW, hPv, hst⟩ := hit
 rw [hz1] at hI
 have hS : s.heap.objs.size ∉ fp := fun hm => by
  rcases hfp _ hm with q | q
  ·exact Nat.ne_of_gt lt q
  ·rw [hz1] at q
   exact absurd q (Nat.not_succ_le_self _)
 have hoz := k2 a o (ups a o ho)
 have hTz : z.TypeIs (.ref a) "set" := ⟨o, hoz, hex.1⟩
 refine wpAny_bind (wpAny_holding ?_)
 unfold Builtin.List.listLengthHint
 refine wpAny_bind (wpAny_specialOf hTz F.slot_set_len.lookup ?_)
 (generalize hid : ("set.__len__" : String) = id0; (fail_if_success (clear hid id0)); wp_delta; rw [show splitId id0 = some ("set", "__len__") from by subst hid; decide +kernel]; subst hid)
 refine wpAny_bind (wpAny_isInstance (b := true) hTz sub_set_self ?_)
 refine wpAny_bind (m := typeOf (.ref a)) (wpAny_typeOf hTz (wpAny_pure ?_))
 show wpAny _ A.in1 (rule "list.extend.makes-room" >>= fun _ => Builtin.List.listTouch (.ref s.heap.objs.size) >>= fun _ =>
  again (.builtin "list.extend.loop" ⟨[.ref s.heap.objs.size, .ref I, .ref s.heap.objs.size], []⟩)) _ _ z
 refine wpAny_bind (wpAny_rule (wpAny_bind ?_))
 have gz := k2 _ _ gN
 show wpAny _ A.in1 (updateSeq s.heap.objs.size (·.push .none) >>= fun _ => updateSeq s.heap.objs.size (·.pop)) _ _ _
 refine wpAny_bind (wpAny_updateSeq gz rfl ?_)
 have gz2 := Heap.get?_update_self (Obj.mapSeq (·.push Value.none)) gz rfl
 refine wpAny_updateSeq gz2 rfl ?_
 have gz3 := Heap.get?_update_self (Obj.mapSeq (·.pop)) gz2 rfl
 have oth : ∀ b u, b ≠ s.heap.objs.size → z.heap.get? b = some u → ((z.heap.update s.heap.objs.size (Obj.mapSeq (·.push Value.none))).update s.heap.objs.size (Obj.mapSeq (·.pop))).get? b = some u := fun b u hb e => by
  rw [Heap.get?_update_other _ _ (Ne.symm hb), Heap.get?_update_other _ _ (Ne.symm hb)]
  exact e
 have W := hW A.in1 hh
 have hn : out.length ≤ sizeLine := by rw [hp.length_eq, ev, List.length_map, sizeLine_eq]; omega
 refine wpAny_pure ⟨plainId_quiet F.plain_extend_loop _, codeAny_extend_loopS W.toS hn _ hS _ out.length 0 _ _ _ rfl (Nat.zero_le _) (W.frame 0 _ _ hst fun b hb u e => oth b u (fun q => hS (q ▸ hb)) e) gz3 (ItemsOf.nil Pv) fun z2 acc c mv gz4 hacc => ?_⟩
 refine wpAny_bind (m := load s.heap.objs.size) (wpAny_load gz4 (wpAny_pure ?_))
 show Q acc.toList z2
 rw [items_out hacc hPv]
 refine hQ z2 out (fun b u e => ?_) (Nat.le_of_lt (Heap.lt_size gz4)) (mv.gens.trans g2) (mv.os.trans o2) (by rw [← ev]; exact hp)
 have lb : b < s.heap.objs.size := Heap.lt_size e
 refine mv.heap b u (fun q => ?_) (oth b u (Nat.ne_of_lt lb) (k2 b u (ups b u e)))
 simp only [List.mem_cons, List.not_mem_nil, or_false] at q
 rcases q with q | q
 ·exact absurd lb (by rw [q]; exact Nat.lt_irrefl _)
 ·exact absurd lb (by rw [q]; exact Nat.not_lt_of_le (Nat.le_of_succ_le hI))
end
theorem WY {α : Type} {lt : α → α → Bool} (asym : ∀ x y, lt x y = true → lt y x = false) : ∀ {a b : List α}, a.Perm b → a.Pairwise (fun x y => lt y x = false) → b.Pairwise (fun x y => lt x y = true) → a = b
 | [], b, p, _, _ => p.nil_eq
 | x :: a, [], p, _, _ => absurd p.length_eq (by simp)
 | x :: a, y :: b, p, h1, h2 => by
  obtain ⟨a1, a2⟩ := List.pairwise_cons.mp h1
  obtain ⟨b1, b2⟩ := List.pairwise_cons.mp h2
  have e : x = y := Classical.byContradiction fun ne => by
   have hx : x ∈ b := (List.mem_cons.mp (p.mem_iff.mp List.mem_cons_self)).resolve_left ne
   have hy : y ∈ a := (List.mem_cons.mp (p.mem_iff.mpr List.mem_cons_self)).resolve_left fun z => ne z.symm
   have := b1 x hx
   rw [a1 y hy] at this
   cases this
  subst e
  rw [WY asym p.cons_inv a2 b2]
def lexI (x y : List Int) : Bool := lexLt itemOrd (x.map Sum.inl) (y.map Sum.inl)
abbrev noT : Nat → Bool := fun _ => false
theorem abF {vs : List Value} {k : List Int} (h : IntsAre vs k) : ∀ i, tupItems noT i vs = some (k.map Sum.inl) := by
 induction h with
 | nil => exact fun _ => rfl
 | cons n tk _ ih =>
  intro i
  unfold tupItems
  rw [if_neg Bool.false_ne_true, ih (i + 1)]
  rfl
section
variable {P : Program} {w : World} {A : Around} {E : Value → Shared → Prop} {s : Shared} {a : Addr} {L : List (Addr × List Int)} {es : Array (Int × Value)} {ep : Nat} {t : SetTable}
theorem key_of {h : Heap} {k : List Int} {b : Addr} (x : IsT P w h k b) : G.tupKeyC h noT (.ref b) = some (k.map Sum.inl) := by
 obtain ⟨o, items, n, ho, hc, hd, hi⟩ := x
 have c : G.isTupObj h (.ref b) = true := by
  unfold G.isTupObj
  simp only [ho, hc]
  rfl
 unfold G.tupKeyC
 rw [if_pos c]
 unfold tupKey
 simp only [ho, hd]
 exact abF (ints_of_items hi) 0
theorem firsts_of {h : Heap} : ∀ {vs : List Value}, (∀ v ∈ vs, ∃ b k, v = .ref b ∧ k ≠ [] ∧ IsT P w h k b) → ∃ fs, TupsOf h noT vs fs
 | [], _ => ⟨[], .nil⟩
 | v :: vs, hv => by
  obtain ⟨fs, hfs⟩ := firsts_of fun u hu => hv u (List.mem_cons_of_mem v hu)
  obtain ⟨b, k, rfl, hk, o, items, n, ho, hc, hd, hi⟩ := hv v List.mem_cons_self
  have hi := ints_of_items hi
  cases e : items.toList with
  | nil => rw [e] at hi; cases hi; exact absurd rfl hk
  | cons f r =>
   rw [e] at hi
   cases hi with
   | cons n0 tk _ =>
    refine ⟨.int n0 tk :: fs, .cons ⟨b, o, items, n, rfl, ho, hc, hd, ?_, fun _ => ⟨n0, tk, rfl⟩, fun z => nomatch z⟩ hfs⟩
    rw [← Array.getElem?_toList, e]
    rfl
theorem aeq (hh : A.handled = none) (R : SetB P w s.heap a L es ep t) (ks : List (Addr × List Int)) (pm : L.Perm ks) (hk : ∀ p ∈ ks, IsT P w s.heap p.2 p.1) (hne : ∀ p ∈ ks, p.2 ≠ [])
  (asc : ks.Pairwise fun p q => lexI p.2 q.2 = true) (hf : ks.length ≤ 4914) {Q : Value → Shared → Prop}
  (hQ : ∀ z p c, Kept s.heap z.heap → z.gens = s.gens → z.os = s.os → s.heap.objs.size ≤ p → z.heap.get? p = some (seqObj "list" (ks.map fun p => Value.ref p.1).toArray c) → Q (.ref p) z) :
  wpAny (model P w) A (call (.builtin "sorted") [.ref a]) Q E s := by
 refine Calls.call_function_entry kind_sorted plain_sorted entry_sorted (args_sorted1 _) ?_
 unfold Builtin.«sorted»
 refine wpAny_bind (m := checkCount "sorted" 1 1 _) (wpAny_pure ?_)
 refine wpAny_bind (adD (A := A.in1) hh R (by rw [pm.length_eq]; exact hf) fun z vs k1 hz g1 o1 pv => ?_)
 have pv2 : vs.Perm (ks.map fun p => Value.ref p.1) := pv.trans (pm.map _)
 have hlen : vs.length ≤ 4914 := by rw [pv2.length_eq, List.length_map]; exact hf
 refine wpAny_bind (wpAny_newList ?_ (by rw [sizeLine_eq]; omega))
 have gL : (z.heap.push (seqObj "list" vs.toArray 0)).get? z.heap.objs.size = some (seqObj "list" vs.toArray 0) := Heap.get?_push_size _ rfl
 have up2 : Kept s.heap (z.heap.push (seqObj "list" vs.toArray 0)) := fun b u e => Heap.get?_push_of_some _ (k1 b u e)
 have tk : ∀ p ∈ ks, IsT P w (z.heap.push (seqObj "list" vs.toArray 0)) p.2 p.1 := fun p hp => isT_keep (hk p hp) up2
 have vk : ∀ v ∈ vs, ∃ p ∈ ks, v = .ref p.1 := fun v hv => by
  obtain ⟨p, hp, e⟩ := List.mem_map.mp (pv2.mem_iff.mp hv)
  exact ⟨p, hp, e.symm⟩
 obtain ⟨fs, hfs⟩ := firsts_of (P := P) (w := w) (h := z.heap.push (seqObj "list" vs.toArray 0)) (vs := vs) fun v hv => by
  obtain ⟨p, hp, e⟩ := vk v hv
  exact ⟨p.1, p.2, e, hne p hp, tk p hp⟩
 refine wpAny_bind (wpAny_holding (wpAny_call_entry slot_list_sort ⟨_, gL, rfl⟩ entry_list_sort (G.list_sort_tups (s := { z with heap := z.heap.push (seqObj "list" vs.toArray 0) }) gL hfs (fun v hv => by
  obtain ⟨p, hp, e⟩ := vk v hv
  exact ⟨_, by rw [e]; exact key_of (tk p hp)⟩) (by rw [sizeLine_eq]; omega) fun st' a1 a2 _ => ⟨_, rfl, ?_⟩) (args_list_sort _)))
 have l1 : (arrOf st').toList.Perm (vs.zip vs) := by
  have := Array.perm_iff_toList_perm.mp a1
  rwa [pairsOf_toList] at this
 have same : ∀ q ∈ (arrOf st').toList, q.1 = q.2 := fun q hq => (mem_zip_self (l1.mem_iff.mp hq)).1
 have outp : ((arrOf st').map (·.2)).toList.Perm (ks.map fun p => Value.ref p.1) := by
  rw [Array.toList_map]
  refine (l1.map (·.2)).trans ?_
  rw [List.map_snd_zip (Nat.le_refl _)]
  exact pv2
 have eo : ((arrOf st').map (·.2)).toList = ks.map fun p => Value.ref p.1 := by
  refine WY (lt := fun u v => lexLt itemOrd ((G.tupKeyC (z.heap.push (seqObj "list" vs.toArray 0)) noT u).getD []) ((G.tupKeyC (z.heap.push (seqObj "list" vs.toArray 0)) noT v).getD [])) (fun x y h => ?_) outp ?_ ?_
  ·cases c : lexLt itemOrd ((G.tupKeyC (z.heap.push (seqObj "list" vs.toArray 0)) noT y).getD []) ((G.tupKeyC (z.heap.push (seqObj "list" vs.toArray 0)) noT x).getD []) with
   | false => rfl
   | true =>
    have := lex_trans _ _ _ h c
    rw [lex_irrefl] at this
    cases this
  ·rw [Array.toList_map, List.pairwise_map]
   refine List.pairwise_iff_getElem.mpr fun i j hi hj hij => ?_
   have hj' : j < (arrOf st').size := by rw [← Array.length_toList]; exact hj
   have hi' : i < (arrOf st').size := Nat.lt_trans hij hj'
   have := a2 i j (Nat.le_of_lt hij) (by rw [← a1.size_eq]; exact hj')
   have s1 := same _ (List.getElem_mem hi)
   have s2 := same _ (List.getElem_mem hj)
   rw [← s1, ← s2]
   have q : ∀ n (hn : n < (arrOf st').toList.length), KK (G.tupKindC (z.heap.push (seqObj "list" vs.toArray 0)) noT) (arrOf st') n = (G.tupKeyC (z.heap.push (seqObj "list" vs.toArray 0)) noT ((arrOf st').toList[n]).1).getD [] := fun n hn => by
    have hn' : n < (arrOf st').size := by rw [← Array.length_toList]; exact hn
    unfold KK
    rw [Array.getElem?_eq_getElem hn', Array.getElem_toList]
   rw [q i hi, q j hj] at this
   exact this
  ·rw [List.pairwise_map]
   refine asc.imp_of_mem fun {p q} hp hq h => ?_
   rw [key_of (tk p hp), key_of (tk q hq)]
   exact h
 obtain ⟨c, gc⟩ := sortedHeap_at (vs := vs) (out := (arrOf st').map (·.2)) gL
 have eo2 : (arrOf st').map (·.2) = (ks.map fun p => Value.ref p.1).toArray := by rw [← eo]
 rw [eo2] at gc ⊢
 refine wpAny_pure ⟨_, rfl, hQ _ z.heap.objs.size c (fun b u e => ?_) g1 o1 hz gc⟩
 have lb : b < z.heap.objs.size := Heap.lt_size (k1 b u e)
 show (sortedHeap (z.heap.push (seqObj "list" vs.toArray 0)) z.heap.objs.size vs _).get? b = some u
 rw [sortedHeap_old (Nat.ne_of_lt lb) (by rw [size_push']; exact Nat.lt_succ_of_lt lb)]
 exact up2 b u e
end
def hT (k : List Int) : Int := reduceHash (Builtin.Tuple.tupleHashOf (k.map hashInt))
theorem aih (P : Program) (w : World) (L : List (Addr × List Int)) : hsL P w L = (L.map (·.2)).map hT := by rw [List.map_map]; rfl
structure OkB (ks : List (List Int)) : Prop where
 len : ks.length ≤ 4914
 ne : ∀ k ∈ ks, k ≠ []
 asc : ks.Pairwise fun x y => lexI x y = true
 nd : (ks.map hT).Nodup
def SetBO (P : Program) (w : World) (a : Addr) (L : List (Addr × List Int)) : HO := .ext fun h => ∃ es ep t, SetB P w h a L es ep t
theorem setBO_new {P : Program} {w : World} {H : Hp} {h : Heap} {a : Addr} {L : List (Addr × List Int)} {es : Array (Int × Value)} {ep : Nat} {t : SetTable} (R : SetB P w h a L es ep t) : ObjOk P w H h a (SetBO P w a L) := by
 refine ⟨⟨es, ep, t, R⟩, ?_, fun h1 h2 p k => ?_⟩
 ·obtain ⟨o, ho, _⟩ := R.ob
  exact ⟨o, ho⟩
 ·obtain ⟨es, ep, t, R⟩ := p
  exact ⟨es, ep, t, R.to fun o e => k o e⟩
def agm (K : PySem.W.Frag) (P : Program) (w : World) : List V → Hp → VK → Prop := fun xs H Q => ∃ (l : Addr) (ks : List (Addr × List Int)), xs = [V.ref l] ∧ SqT K H l (ks.map fun p => V.ref p.1) ∧ (∀ p ∈ ks, SqT K H p.1 (p.2.map V.int)) ∧ OkB (ks.map (·.2)) ∧
 ∀ a L, H a = none → L.Perm ks → Q (.ref a) (upd H a (SetBO P w a L))
def adR (K : PySem.W.Frag) (P : Program) (w : World) : List V → Hp → VK → Prop := fun xs H Q => ∃ (a : Addr) (L ks : List (Addr × List Int)), xs = [V.ref a] ∧ H a = some (SetBO P w a L) ∧ L.Perm ks ∧ (∀ p ∈ ks, SqT K H p.1 (p.2.map V.int)) ∧ OkB (ks.map (·.2)) ∧
 ∀ p, H p = none → Q (.ref p) (upd H p (.lst (ks.map fun q => V.ref q.1)))
section
variable {X : Cx}
theorem afv (hc : X.calm = true) (hu : X.A.units + 64 < cLine) : CallR X (.type "set") (agm X.K X.prog X.w) := fun pins s σ H xs us Q I r h => by
 obtain ⟨l, ks, rfl, hl, hk, ok, q⟩ := h
 rw [Vals.ref1 r]
 obtain ⟨its, rv, ht, hz⟩ := I.tuple hl
 have h1 := ok.len
 have h2 := ok.nd
 rw [List.length_map] at h1
 rw [← aih X.prog X.w] at h2
 refine acb (P := X.prog) (w := X.w) (items := its.toArray) ks (I.ok.hd hc) ht (by simpa using refs_of_vals rv) (fun p hp => I.isT (hk p hp)) h1 h2 (by omega) fun h' tk L es ep t R pm k => ?_
 exact ⟨.ref s.heap.objs.size, upd H s.heap.objs.size (SetBO X.prog X.w s.heap.objs.size L), I.laid (t' := tk) k (Nat.le_refl _) (setBO_new R), rfl, q _ L (I.hok.fresh (Nat.le_refl _)) pm⟩
theorem adC (hc : X.calm = true) : CallR X (.builtin "sorted") (adR X.K X.prog X.w) := fun pins s σ H xs us Q I r h => by
 obtain ⟨a, L, ks, rfl, ha, pm, hk, ok, q⟩ := h
 rw [Vals.ref1 r]
 obtain ⟨es, ep, t, R⟩ : ∃ es ep t, SetB X.prog X.w s.heap a L es ep t := (I.hok a _ ha).1
 have h1 := ok.len
 rw [List.length_map] at h1
 refine aeq (I.ok.hd hc) R ks pm (fun p hp => I.isT (hk p hp)) (fun p hp => ok.ne p.2 (List.mem_map.mpr ⟨p, hp, rfl⟩)) (List.pairwise_map.mp ok.asc) h1 fun z p c k g o hp gz => ?_
 have hlen : (ks.map fun q => V.ref q.1).length ≤ sizeLine := by rw [List.length_map, sizeLine_eq]; omega
 have hn : H p = none := I.hok.fresh hp
 have J : Inv X pins σ (upd H p (.lst (ks.map fun q => V.ref q.1))) { s with heap := z.heap, gens := z.gens, drawn := z.drawn, toks := z.toks } :=
  I.call (ch := []) (Un.laid k hp hn) (I.hok.laid k hp ⟨hlen, ks.map fun p => Value.ref p.1, c, vals_of_refs ks, gz⟩) (by rw [g]; exact I.bare) (fun _ z => nomatch z)
 have e : z = { s with heap := z.heap, gens := z.gens, drawn := z.drawn, toks := z.toks } := by
  cases z
  cases o
  rfl
 rw [e]
 exact ⟨.ref p, _, J, rfl, q p hn⟩
end
def aaK (k : List Int) : PyData := .tuple (k.map .int)
instance (ks : List (List Int)) : Decidable (OkB ks) := decidable_of_iff (ks.length ≤ 4914 ∧ (∀ k ∈ ks, k ≠ []) ∧ (ks.Pairwise fun x y => lexI x y = true) ∧ (ks.map hT).Nodup) ⟨fun h => ⟨h.1, h.2.1, h.2.2.1, h.2.2.2⟩, fun h => ⟨h.1, h.2, h.3, h.4⟩⟩
def Q5 : Va → Option Va
 | .d (.tuple xs) => (XD xs).bind fun ks => if OkB ks then some (.d (.list (ks.map aaK))) else none
 | _ => none
def adS (K : PySem.W.Frag) (P : Program) (w : World) : List V → Hp → VK → Prop := fun xs H Q => agm K P w xs H fun u H1 => adR K P w [u] H1 Q
theorem WN {K : PySem.W.Frag} {Z : Hp} : ∀ (L : List (Addr × List Int)), (∀ p ∈ L, Z p.1 = some (.tup (p.2.map V.int)) ∧ p.2.length ≤ sizeLine) → Af K Z (L.map fun q => V.ref q.1) ((L.map (·.2)).map aaK)
 | [], _ => .nil
 | p :: L, h => .cons (.tup (h p List.mem_cons_self).1 (by rw [List.length_map]; exact (h p List.mem_cons_self).2) .ofInts) (WN L fun q hq => h q (List.mem_cons_of_mem _ hq))
theorem aad {K : PySem.W.Frag} {P : Program} {wo : World} : Kl K (adS K P wo) (on1 Q5) := Hu fun Nu φ H u v w Q m h e q => by
 unfold Q5 at e
 split at e
 ·obtain ⟨ks, e1, e2⟩ := Option.bind_eq_some_iff.mp e
  split at e2
  ·rename_i ok
   cases e2
   cases h with
   | tup hs l r =>
    obtain ⟨ps, rfl, rfl, hp⟩ := Y9 r e1
    have hp1 : ∀ p ∈ ps, H p.1 = some (.tup (p.2.map V.int)) := fun p z => (Aj.mp (hp p z)).2
    refine ⟨_, ps, rfl, SqT.of (Aj.mp hs).2, fun p z => SqT.of (hp1 p z), ok, fun a L ha pm => ?_⟩
    have x1 : Ext H (upd H a (SetBO P wo a L)) := Ext.upd ha
    refine ⟨a, L, ps, rfl, upd_same, pm, fun p z => SqT.of (x1 _ _ (hp1 p z)), ok, fun p hpn => ?_⟩
    have m1 : MuOk Nu (upd H a (SetBO P wo a L)) := m.ext fun b o _ z => x1 b o z
    obtain ⟨n1, n2⟩ := Es (K := K) (o := .lst (ps.map fun q => V.ref q.1)) m1 hpn
    have hl := ok.len
    rw [List.length_map] at hl
    refine q _ _ (x1.trans (Ext.upd hpn)) (.lst n2 (by rw [List.length_map, List.length_map, sizeLine_eq]; omega) (WN ps fun t ht => ?_))
    refine ⟨n1 _ _ (Q4 x1 _ _ (hp t ht)), ?_⟩
    obtain ⟨i, hi, e4⟩ := List.getElem_of_mem ht
    have hr := r.getV (i := i) (v := V.ref t.1) (by rw [List.getElem?_map, List.getElem?_eq_getElem hi, e4]; rfl)
    obtain ⟨pd, _, rp⟩ := hr
    cases rp with
    | tup z zl zr =>
     rw [hp t ht] at z
     cases z
     have := zr.length
     rw [List.length_map] at this
     omega
    | lst z _ _ => rw [hp t ht] at z; cases z
    | dcK z _ => exact absurd z (fun z => by rcases z with z | ⟨_, _, z⟩ <;> (rw [hp t ht] at z; cases z))
    | dcT z _ => exact absurd z (fun z => by rcases z with z | ⟨_, _, z⟩ <;> (rw [hp t ht] at z; cases z))
    | exc _ z _ _ _ => rw [hp t ht] at z; cases z
    | exc0 _ z => rw [hp t ht] at z; cases z
  ·cases e2
 ·cases e
section
variable {X : Cx} {ew : WX} {fl : Bool} {e : Expr} {fs : DFA} {p p2 pos pos2 : Pos}
theorem afo (hc : X.calm = true) (hu : X.A.units + 64 < cLine) (hg : Gl X "sorted") (hm : X.mg "sorted" = none) (hg2 : Gl X "set") (hm2 : X.mg "set" = none) (ha : EA X ew fl [e] fs)
  (he : starEach [.Call (.Name "set" p2) [e] [] pos2] X.env = [(false, eval (.Call (.Name "set" p2) [e] [] pos2) X.env)] := by rfl) (he2 : starEach [e] X.env = [(false, eval e X.env)] := by rfl) :
  E X ew fl (.Call (.Name "sorted" p) [.Call (.Name "set" p2) [e] [] pos2] [] pos) (cN (on1 Q5) fs) :=
 Bf (pe_callB (adC hc) hg hm (by decide +kernel) (pa_cons (pe_callTy (afv hc hu) hg2 hm2 (by decide +kernel) ha (by decide) (by decide) he2 rfl) pa_nil he) (by decide) (by decide) he rfl) fun σ H Q h =>
  (Z5 (r := adS X.K X.prog X.w) aad h : _)
end
def gNe0 : Va → Va → Option Va
 | .d (.list (_ :: _)), .d (.list []) => some (.d (.bool true))
 | v, w => gNe v w
def rNe0 (K : PySem.W.Frag) : R2 := fun x y H Q => rNeA K x y H Q ∨ ∃ l b xs, x = V.ref l ∧ y = V.ref b ∧ SqL K H l xs ∧ SqL K H b [] ∧ xs ≠ [] ∧ Q (.bl true) H
theorem ags {X : Cx} (hu : X.A.units + 64 < cLine) : OpR X (compareOp .NotEq) (rNe0 X.K) := fun pins s σ H x y v u Q I rx ry h => by
 rcases h with h | ⟨l, b, xs, rfl, rfl, hl, hb, hne, q⟩
 ·exact JQ hu pins s σ H x y v u Q I rx ry h
 ·obtain rfl : v = Value.ref l := rx
  obtain rfl : u = Value.ref b := ry
  obtain ⟨its, rv, pl, _⟩ := I.list hl
  obtain ⟨its2, rv2, pl2, _⟩ := I.list hb
  have e1 := rv.length
  have e2 := rv2.length
  have hn : xs.length ≠ 0 := fun z => hne (List.eq_nil_of_length_eq_zero z)
  refine PySem.SeqAt.RcNeAt.lists_lengths pl.isList pl2.isList ?_ (by omega) X.prog X.w _ _ ⟨.bl true, H, I, rfl, q⟩
  simp only [List.length_nil] at e2
  simp
  omega
theorem acO {K : PySem.W.Frag} : Gz K (rNe0 K) gNe0 := Gp fun Nu φ H u u2 v v2 w Q m h1 h2 e q => by
 unfold gNe0 at e
 split at e
 ·cases e
  cases h1 with
  | lst hs l r =>
   cases h2 with
   | lst hs2 l2 r2 =>
    cases r2
    refine .inr ⟨_, _, _, rfl, rfl, SqL.of (Aj.mp hs).2, SqL.of (Aj.mp hs2).2, ?_, q H _ Ext.refl (.bl _)⟩
    intro z
    subst z
    cases r
 ·obtain ⟨a, b, r, rfl, rfl, e1, rfl⟩ := Ny e
  unfold hEq at e1
  split at e1
  ·rename_i k hk
   obtain ⟨x, y, rfl, rfl, rfl⟩ := Qh hk
   cases e1
   cases h1
   cases h2
   refine .inl (.inr ⟨rfl, q H _ Ext.refl ?_⟩)
   rw [dec_str, show decide (x = y) = (x == y) by rw [Bool.eq_iff_iff]; simp]
   exact .bl _
  ·split at e1
   ·rename_i h
    cases e1
    simp only [eqOk, Bool.and_eq_true] at h
    exact .inl (.inl ⟨a, b, (Rep.ext Dq h1).dp h.1.1.1, (Rep.ext Dq h2).dp h.1.1.2, h.1.2, h.2, q H _ Ext.refl (.bl _)⟩)
   ·cases e1
end KP
namespace KG
open PySem PySem.Spec PyProof.Rows L2 KP
structure Fx (P : Program) (K : PySem.W.Frag) (mg : Str → Option Value) : Prop where
 sys : SysD K
 Ja : ∀ (w : World) (base : Heap) (k : Nat), ExM P w K mg base k "BadMachine" ["place"]
 IW : ∀ (w : World) (base : Heap) (k : Nat), ExM P w K mg base k "BadParting" ["value"]
 b_all : mg "all" = none
 b_bool : mg "bool" = none
 b_enumerate : mg "enumerate" = none
 b_int : mg "int" = none
 b_isinstance : mg "isinstance" = none
 b_len : mg "len" = none
 b_list : mg "list" = none
 b_max : mg "max" = none
 b_min : mg "min" = none
 b_range : mg "range" = none
 b_repr : mg "repr" = none
 b_set : mg "set" = none
 b_sorted : mg "sorted" = none
 b_super : mg "super" = none
 b_tuple : mg "tuple" = none
 k_MOST_LETTERS : ∃ t, mg "MOST_LETTERS" = some (.int 4 t)
 k_MOST_SHOWN : ∃ t, mg "MOST_SHOWN" = some (.int 9 t)
 k_MOST_STANDINGS : ∃ t, mg "MOST_STANDINGS" = some (.int 8 t)
 Nr : mg "is_whole" = some (.ref (He.ga K "is_whole"))
 W9 : mg "is_line" = some (.ref (He.ga K "is_line"))
 Mw : mg "size_of" = some (.ref (He.ga K "size_of"))
 Vc : mg "numbered" = some (.ref (He.ga K "numbered"))
 Tq : mg "blocks_of" = some (.ref (He.ga K "blocks_of"))
 Q3 : mg "_law_begun" = some (.ref (He.ga K "_law_begun"))
 CP : mg "_law_draw" = some (.ref (He.ga K "_law_draw"))
 N7 : mg "_law_classes" = some (.ref (He.ga K "_law_classes"))
 Kv : mg "_law_all_sheets" = some (.ref (He.ga K "_law_all_sheets"))
 Jm : mg "_law_is_sheet" = some (.ref (He.ga K "_law_is_sheet"))
 Ly : mg "wrong_in_table" = some (.ref (He.ga K "wrong_in_table"))
 Jl : mg "is_parting_of" = some (.ref (He.ga K "is_parting_of"))
 Tn : mg "single_of" = some (.ref (He.ga K "single_of"))
 Vb : mg "whole_of" = some (.ref (He.ga K "whole_of"))
 Tt : mg "_law_of" = some (.ref (He.ga K "_law_of"))
 QZ : mg "_law_sheet" = some (.ref (He.ga K "_law_sheet"))
 Pj : mg "wrong_place" = some (.ref (He.ga K "wrong_place"))
 Mx : mg "_law_frame" = some (.ref (He.ga K "_law_frame"))
 Lz : mg "_law_odd_sheet" = some (.ref (He.ga K "_law_odd_sheet"))
 Ec : mg "need_machine" = some (.ref (He.ga K "need_machine"))
 GD : mg "is_parting" = some (.ref (He.ga K "is_parting"))
 N6 : mg "need_parting" = some (.ref (He.ga K "need_parting"))
 VN : mg "single" = some (.ref (He.ga K "single"))
 Yo : mg "whole" = some (.ref (He.ga K "whole"))
 Gh : mg "all_partings" = some (.ref (He.ga K "all_partings"))
 Rw : mg "blocks" = some (.ref (He.ga K "blocks"))
 Hh : mg "_law_ends_right" = some (.ref (He.ga K "_law_ends_right"))
 HX : mg "_law_right" = some (.ref (He.ga K "_law_right"))
 Ku : mg "_law_hand_right" = some (.ref (He.ga K "_law_hand_right"))
 agC : mg "law" = some (.ref (He.ga K "law"))
 NB : ∃ fd, FnP K "is_whole" FJ (He.ga K "is_whole") fd
 Xq : ∃ fd, FnP K "is_line" GZ (He.ga K "is_line") fd
 M3 : ∃ fd, FnP K "size_of" GX (He.ga K "size_of") fd
 Vm : ∃ fd, FnP K "numbered" Fy (He.ga K "numbered") fd
 Ud : ∃ fd, FnP K "blocks_of" DQ (He.ga K "blocks_of") fd
 Q8 : ∃ fd, FnP K "_law_begun" Df (He.ga K "_law_begun") fd
 Jx : ∃ fd, FnP K "_law_draw" DW (He.ga K "_law_draw") fd
 Oc : ∃ fd, FnP K "_law_classes" Ck (He.ga K "_law_classes") fd
 KD : ∃ fd, FnP K "_law_all_sheets" Bq (He.ga K "_law_all_sheets") fd
 Jw : ∃ fd, FnP K "_law_is_sheet" BL (He.ga K "_law_is_sheet") fd
 LK : ∃ fd, FnP K "wrong_in_table" Bv (He.ga K "wrong_in_table") fd
 Jv : ∃ fd, FnP K "is_parting_of" BK (He.ga K "is_parting_of") fd
 Uc : ∃ fd, FnP K "single_of" DP (He.ga K "single_of") fd
 Vl : ∃ fd, FnP K "whole_of" Fw (He.ga K "whole_of") fd
 Ue : ∃ fd, FnP K "_law_of" G3 (He.ga K "_law_of") fd
 Q6 : ∃ fd, FnP K "_law_sheet" Dc (He.ga K "_law_sheet") fd
 Qc : ∃ fd, FnP K "wrong_place" CJ (He.ga K "wrong_place") fd
 Q7 : ∃ fd, FnP K "_law_frame" De (He.ga K "_law_frame") fd
 LQ : ∃ fd, FnP K "_law_odd_sheet" Bw (He.ga K "_law_odd_sheet") fd
 Ed : ∃ fd, FnP K "need_machine" Ci (He.ga K "need_machine") fd
 J9 : ∃ fd, FnP K "is_parting" CZ (He.ga K "is_parting") fd
 Oa : ∃ fd, FnP K "need_parting" Cg (He.ga K "need_parting") fd
 ZK : ∃ fd, FnP K "single" Jb (He.ga K "single") fd
 ab6 : ∃ fd, FnP K "whole" La (He.ga K "whole") fd
 Kf : ∃ fd, FnP K "all_partings" Cj (He.ga K "all_partings") fd
 We : ∃ fd, FnP K "blocks" Jc (He.ga K "blocks") fd
 KC : ∃ fd, FnP K "_law_ends_right" Bp (He.ga K "_law_ends_right") fd
 M4 : ∃ fd, FnP K "_law_right" Dd (He.ga K "_law_right") fd
 Kz : ∃ fd, FnP K "_law_hand_right" Bo (He.ga K "_law_hand_right") fd
 ag3 : ∃ fd, FnP K "law" Vs (He.ga K "law") fd
def Nv : SF := (sRet (eAnd (c1 (gIsi "int") (vT 0)) (eAnd (eNot (c1 (gIsi "bool") (vT 0))) (Qa gLe gLe (vT 1) (vT 0) (vT 2)))))
def GP : List Va → M Va := fun ds => noX (runF 3 Nv ds)
theorem X8 : FnScope ["value", "least", "most"] ["value", "least", "most"] (defScope FJ) := ⟨rfl, rfl, rfl, by decide +kernel, rfl, by decide +kernel, by decide +kernel⟩
theorem Om {P : Program} {w : World} {K : PySem.W.Frag} {mg : Str → Option Value} {base : Heap} {f : Addr} {fd : FuncData} (c : Fx P K mg) (D : FnP K "is_whole" FJ f fd) : FnD P w K mg base CX0 1 f fd ["value", "least", "most"] GP := by
 refine CQ (N := ["value", "least", "most"]) (g := Nv) D X8 fun cdv A outer s H E hg hr => ?_
 unfold Nv
 exact (Ak (Ba (adx (Ua (c := "int") rfl c.b_isinstance rfl c.b_int (by decide +kernel) (by decide) (v 0)) (adx (aiA (Ua (c := "bool") rfl c.b_isinstance rfl c.b_bool (by decide +kernel) (by decide) (v 0))) (ZG (afp op_le Ml op_le Ml (v 1) (v 0) (v 2)))))))
def Pq : SF := (sSeq (sIf (bOr (bNot (bV (c1 (gIsi "tuple") (vT 0)))) (bNot (bV (Qa gLe gLe (kC (.int 1)) (cN (on1 Ez) (Aa (vT 0) aNil)) (kC (.int 4)))))) (sRet (kC (.bool false))) sNil)
 (sRet (eOr (c2 gEq (vT 1) (kC (.int 0))) (c2 gEq (cN (on1 Ez) (Aa (vT 0) aNil)) (vT 1)))))
def Ur : List Va → M Va := fun ds => noX (runF 2 Pq ds)
theorem Z9 : FnScope ["value", "letters"] ["value", "letters"] (defScope GZ) := ⟨rfl, rfl, rfl, by decide +kernel, rfl, by decide +kernel, by decide +kernel⟩
theorem aaf {P : Program} {w : World} {K : PySem.W.Frag} {mg : Str → Option Value} {base : Heap} {f : Addr} {fd : FuncData} (c : Fx P K mg) (D : FnP K "is_line" GZ f fd) : FnD P w K mg base CX0 1 f fd ["value", "letters"] Ur := by
 refine CQ (N := ["value", "letters"]) (g := Pq) D Z9 fun cdv A outer s H E hg hr => ?_
 unfold Pq
 exact (Ae (Fe (eb_w (Qz (Ff (Gf (Ua (c := "tuple") rfl c.b_isinstance rfl c.b_tuple (by decide +kernel) (by decide) (v 0)))) (MP (Ff (Wc op_le Ml op_le Ml Ac (Ax Do Bt rfl c.b_len (by decide +kernel) (ea_cons (v 0) ea_nil)) (YD rfl c.k_MOST_LETTERS.choose_spec)))))) (Ak (Ba e_bl)) Cq)
  (Ak (Ba (e_or (Xp (Jj (by exact hr.units)) pure_eq (v 1) Ac (nomark _)) (ZG (Xp (Jj (by exact hr.units)) pure_eq (Ax Do Bt rfl c.b_len (by decide +kernel) (ea_cons (v 0) ea_nil)) (v 1) (nomark _)))))))
def Pn : SF := (sRet (cN (on1 Ez) (Aa (c2 gIx (vT 0) (kC (.int 0))) aNil)))
def KY : List Va → M Va := fun ds => noX (runF 1 Pn ds)
theorem Z8 : FnScope ["machine"] ["machine"] (defScope GX) := ⟨rfl, rfl, rfl, by decide +kernel, rfl, by decide +kernel, by decide +kernel⟩
theorem Nk {P : Program} {w : World} {K : PySem.W.Frag} {mg : Str → Option Value} {base : Heap} {f : Addr} {fd : FuncData} (c : Fx P K mg) (D : FnP K "size_of" GX f fd) : FnD P w K mg base CX0 1 f fd ["machine"] KY := by
 refine CQ (N := ["machine"]) (g := Pn) D Z8 fun cdv A outer s H E hg hr => ?_
 unfold Pn
 exact (Ak (Ba (Ax Do Bt rfl c.b_len (by decide +kernel) (ea_cons (e_ix (v 0) Ac) ea_nil))))
def Kw : SF := (sSeq (sPar oD (oF (fLst aNil)) 1 2)
 (sSeq (sFor (lSeq (vT 0)) (gN 3) (sSeq (acH 1 (vT 3) (c1 immV (cN (on1 Ez) (Aa (vF 1) aNil))))
 (sApp 2 (c1 immV (c2 Yx (vF 1) (vF 3))))))
 (sRet (c1 immV (cN (on1 hTup) (Aa (vF 2) aNil))))))
def NT : List Va → M Va := fun ds => noX (runF 4 Kw ds)
theorem Oi : FnScope ["keys", "known", "found", "key"] ["keys"] (defScope Fy) := ⟨rfl, rfl, rfl, by decide +kernel, rfl, by decide +kernel, by decide +kernel⟩
theorem Yj {P : Program} {w : World} {K : PySem.W.Frag} {mg : Str → Option Value} {base : Heap} {f : Addr} {fd : FuncData} (c : Fx P K mg) (D : FnP K "numbered" Fy f fd) : FnD P w K mg base CX0 1 f fd ["keys"] NT := by
 refine CQ (N := ["keys", "known", "found", "key"]) (g := Kw) D Oi fun cdv A outer s H E hg hr => ?_
 unfold Kw
 exact (Ae (Vj (i := 1) (j := 2) rfl Oi.nd rfl rfl (by decide) rfl rfl afl (eo_f (ZF ea_nil)) (by rfl))
  (Ae (Ih PassesOwn.never rfl (Ky (v 0)) (gn 3 Oi.nd) (Ae (afj (by exact hu_of hr) (i := 1) rfl (by first | exact Or.inl rfl | exact Or.inr (Or.inl rfl)) (v 3) (e_up (Ax Do Bt rfl c.b_len (by decide +kernel) (ea_cons (vf 1) ea_nil))))
  (Ak (Xm (i := 2) rfl (by first | exact Or.inl rfl | exact Or.inr (Or.inl rfl)) (e_up (agX (by exact hu_of hr) (vf 1) (vf 3)))))))
  (Ak (Ba (e_up (Bs call_tuple_of CN rfl c.b_tuple (by decide +kernel) (ea_cons (vf 2) ea_nil)))))))
def Lh : SF := (sSeq (aaX (lN Jg (Aa (c2 gAdd (cN (on1 hMax) (Aa (vT 0) aNil)) (kC (.int 1))) aNil)) (gN 3) (fLst aNil) [3] 1)
 (sSeq (sFor (lN TY (Aa (vT 0) aNil)) (gT [(gN 2), (gN 3)]) (aa0 1 (vT 3) (vT 2)))
 (sRet (vF 1))))
def JF : List Va → M Va := fun ds => noX (runF 4 Lh ds)
theorem HR : FnScope ["parting", "found", "standing", "block"] ["parting"] (defScope DQ) := ⟨rfl, rfl, rfl, by decide +kernel, rfl, by decide +kernel, by decide +kernel⟩
theorem W3 {P : Program} {w : World} {K : PySem.W.Frag} {mg : Str → Option Value} {base : Heap} {f : Addr} {fd : FuncData} (c : Fx P K mg) (D : FnP K "blocks_of" DQ f fd) : FnD P w K mg base CX0 1 f fd ["parting"] JF := by
 refine CQ (N := ["parting", "found", "standing", "block"]) (g := Lh) D HR fun cdv A outer s H E hg hr => ?_
 unfold Lh
 exact (Ae (abY (own := [("block", 3)]) (i := 1) rfl HR.nd rfl rfl (sw_true rfl rfl rfl rfl) (Dh rfl c.b_range (ea_cons (e_op Bu Be (Ax (QD rfl (by exact hr.units)) Nh rfl c.b_max (by decide +kernel) (ea_cons (v 0) ea_nil)) Ac) ea_nil)) (blkOk_by (by rfl)) (by decide) (fun _ _ _ _ _ => (gn 3 HR.nd)) (fun _ _ _ _ _ => (ZF ea_nil)))
  (Ae (Ih PassesOwn.never rfl (QC rfl c.b_enumerate (ea_cons (v 0) ea_nil)) (T8 rfl (Ek (gn 2 HR.nd) (Ek (gn 3 HR.nd) Ov))) (Ak (Vk (i := 1) rfl (by first | exact Or.inl rfl | exact Or.inr (Or.inl rfl)) (v 3) (v 2) (by intro _ _; rfl))))
  (Ak (afk (vf 1)))))
def Ig : SF := (sSeq (sAsg (c2 gAdd (eSl gSlA (vT 0) (some (vT 1)) none) (eSl gSlA (vT 0) none (some (vT 1)))) (gN 2))
 (sSeq (sAsg (fD (lcA (lSeq (vT 2)) (gN 5) (bV (c2 gGe (vT 5) (c2 gPow (kC (.int 10)) (kC (.int 18))))) (vT 5) [5])) (gN 3))
 (sSeq (sAsg (c2 gAdd (kC (.int 71)) (vT 1)) (gN 4))
 (sSeq (sFor (lSeq (vT 2)) (gN 5) (sAsg (c2 gMod (cN (on1 hInt) (Aa (c2 gAdd (c2 gMul (vT 4) (kC (.int 48271))) (vT 5)) aNil)) (kC (.int 2147483647))) (gN 4)))
 (sRet (Qp [("left", (eIf (bV (c2 gNe (vT 3) (cN BR aNil))) (c2 gIx (vT 3) (kC (.int 0))) (kC (.int 0)))), ("seed", (vT 4)), ("cells", (c2 gAdd (vT 2) (cN BR (Aa (c2 gAdd (c2 gMul (kC (.int 41)) (vT 1)) (kC (.int 3))) aNil)))), ("spot", (kC (.int 0)))]))))))
def M9 : List Va → M Va := fun ds => noX (runF 6 Ig ds)
theorem DN : FnScope ["script", "k", "cells", "great", "seed", "cell"] ["script", "k"] (defScope Df) := ⟨rfl, rfl, rfl, by decide +kernel, rfl, by decide +kernel, by decide +kernel⟩
theorem VH {P : Program} {w : World} {K : PySem.W.Frag} {mg : Str → Option Value} {base : Heap} {f : Addr} {fd : FuncData} (c : Fx P K mg) (D : FnP K "_law_begun" Df f fd) : FnD P w K mg base CX0 1 f fd ["script", "k"] M9 := by
 refine CQ (N := ["script", "k", "cells", "great", "seed", "cell"]) (g := Ig) D DN fun cdv A outer s H E hg hr => ?_
 unfold Ig
 exact (Ae (BX (i := 2) DN.nd rfl (by first | exact Or.inl rfl | exact Or.inr rfl) (e_op Bu Be (e_sl O6 Jd (v 0) (Lk (v 1)) Ln) (e_sl O6 Jd (v 0) Ln (Lk (v 1)))))
  (Ae (abX (agp (own := [("cell", 5)]) (i := 3) rfl DN.nd rfl rfl (sw_true rfl rfl rfl rfl) (Ky (v 2)) (blkOk_by (by rfl)) (by decide) (fun _ _ _ _ _ => (gn 5 DN.nd)) (fun _ _ _ _ _ => (T9 (Di op_ge aeE (v 5) (e_op op_pow Zd Ac Ac) (nomark _)))) (fun _ _ _ _ _ => (v 5))))
  (Ae (BX (i := 4) DN.nd rfl (by first | exact Or.inl rfl | exact Or.inr rfl) (e_op Bu Be Ac (v 1)))
  (Ae (Ih PassesOwn.never rfl (Ky (v 2)) (gn 5 DN.nd) (Ak (BX (i := 4) DN.nd rfl (by first | exact Or.inl rfl | exact Or.inr rfl) (e_op op_mod Hr (Bs call_int1 Ht rfl c.b_int (by decide +kernel) (ea_cons (e_op Bu Be (e_op Gg CG (v 4) Ac) (v 5)) ea_nil)) Ac))))
  (Ak (Ba (agY (kfs := [("left", (eIf (bV (c2 gNe (vT 3) (cN BR aNil))) (c2 gIx (vT 3) (kC (.int 0))) (kC (.int 0)))), ("seed", (vT 4)), ("cells", (c2 gAdd (vT 2) (cN BR (Aa (c2 gAdd (c2 gMul (kC (.int 41)) (vT 1)) (kC (.int 3))) aNil)))), ("spot", (kC (.int 0)))]) (pps_cons pe_str (e_if (Di (JQ (by exact hr.units)) Hf (v 3) (FW ea_nil) (nomark _)) (e_ix (v 3) Ac) Ac) (pps_cons pe_str (v 4) (pps_cons pe_str (e_op Bu Be (v 2) (FW (ea_cons (e_op Bu Be (e_op Gg CG Ac (v 1)) Ac) ea_nil))) (pps_cons pe_str Ac pps_nil)))) rfl rfl (by simp) (by decide) (by decide) (by decide +kernel))))))))
def Jp : SF := (sSeq (sIf (bV (c2 gGt (cGet "left" (vT 0)) (kC (.int 0)))) (sSeq (sAsg (c2 gMod (cN (on1 hInt) (Aa (cGet "left" (vT 0)) aNil)) (vT 1)) (gN 7))
 (sSeq (Yc 0 "left" (c2 gDiv (cGet "left" (vT 0)) (vT 1)))
 (sRet (vT 7)))) sNil)
 (sSeq (sAsg (cGet "spot" (vT 0)) (gN 2))
 (sSeq (Yc 0 "spot" (c2 gAdd (vT 2) (kC (.int 1))))
 (sSeq (sPar (oE (cGet "cells" (vT 0))) (oE (c2 gAdd (cGet "seed" (vT 0)) (c2 gMul (c2 gMul (kC (.int 40503)) (vT 2)) (vT 2)))) 3 4)
 (sSeq (sAsg (c2 gIx (vT 3) (c2 gMod (cN (on1 hInt) (Aa (vT 2) aNil)) (cN (on1 Ez) (Aa (vT 3) aNil)))) (gN 5))
 (sSeq (sAsg (c2 gMod (cN (on1 hInt) (Aa (c2 gAdd (c2 gMul (vT 5) (c2 gAdd (c2 gMul (kC (.int 2)) (vT 2)) (kC (.int 3)))) (vT 4)) aNil)) (kC (.int 2147483647))) (gN 6))
 (sSeq (sAsg (c2 gMod (cN (on1 hInt) (Aa (c2 gAdd (c2 gAdd (c2 gMul (vT 6) (vT 6)) (c2 gMul (kC (.int 69621)) (vT 2))) (cGet "seed" (vT 0))) aNil)) (kC (.int 2147483629))) (gN 6))
 (sRet (c2 gMod (c2 gDiv (c2 gMod (cN (on1 hInt) (Aa (c2 gAdd (c2 gMul (vT 6) (kC (.int 48271))) (vT 2)) aNil)) (kC (.int 2147483647))) (kC (.int 11))) (vT 1))))))))))
def Br : List Va → M Va := fun ds => noX (runF 8 Jp ds)
theorem Ep : FnScope ["m", "many", "spot", "cells", "added", "cell", "blend", "found"] ["m", "many"] (defScope DW) := ⟨rfl, rfl, rfl, by decide +kernel, rfl, by decide +kernel, by decide +kernel⟩
theorem JR {P : Program} {w : World} {K : PySem.W.Frag} {mg : Str → Option Value} {base : Heap} {f : Addr} {fd : FuncData} (c : Fx P K mg) (D : FnP K "_law_draw" DW f fd) : FnD P w K mg base CX0 1 f fd ["m", "many"] Br := by
 refine CQ (N := ["m", "many", "spot", "cells", "added", "cell", "blend", "found"]) (g := Jp) D Ep fun cdv A outer s H E hg hr => ?_
 unfold Jp
 exact (Ae (Fe (Di op_gt abe (Ub (by exact hu_of hr) (v 0)) Ac (nomark _)) (Ae (BX (i := 7) Ep.nd rfl (by first | exact Or.inl rfl | exact Or.inr rfl) (e_op op_mod Hr (Bs call_int1 Ht rfl c.b_int (by decide +kernel) (ea_cons (Ub (by exact hu_of hr) (v 0)) ea_nil)) (v 1)))
  (Ae (ab0 (by exact hu_of hr) (i := 0) rfl (by first | exact Or.inl rfl | exact Or.inr (Or.inl rfl)) (e_op op_fdiv Vz (Ub (by exact hu_of hr) (v 0)) (v 1)))
  (Ak (Ba (v 7))))) Cq)
  (Ae (BX (i := 2) Ep.nd rfl (by first | exact Or.inl rfl | exact Or.inr rfl) (Ub (by exact hu_of hr) (v 0)))
  (Ae (ab0 (by exact hu_of hr) (i := 0) rfl (by first | exact Or.inl rfl | exact Or.inr (Or.inl rfl)) (e_op Bu Be (v 2) Ac))
  (Ae (Vj (i := 3) (j := 4) rfl Ep.nd rfl rfl (by decide) rfl rfl (eo_e (Ub (by exact hu_of hr) (v 0))) (eo_e (e_op Bu Be (Ub (by exact hu_of hr) (v 0)) (e_op Gg CG (e_op Gg CG Ac (v 2)) (v 2)))) (by rfl))
  (Ae (BX (i := 5) Ep.nd rfl (by first | exact Or.inl rfl | exact Or.inr rfl) (e_ix (v 3) (e_op op_mod Hr (Bs call_int1 Ht rfl c.b_int (by decide +kernel) (ea_cons (v 2) ea_nil)) (Ax Do Bt rfl c.b_len (by decide +kernel) (ea_cons (v 3) ea_nil)))))
  (Ae (BX (i := 6) Ep.nd rfl (by first | exact Or.inl rfl | exact Or.inr rfl) (e_op op_mod Hr (Bs call_int1 Ht rfl c.b_int (by decide +kernel) (ea_cons (e_op Bu Be (e_op Gg CG (v 5) (e_op Bu Be (e_op Gg CG Ac (v 2)) Ac)) (v 4)) ea_nil)) Ac))
  (Ae (BX (i := 6) Ep.nd rfl (by first | exact Or.inl rfl | exact Or.inr rfl) (e_op op_mod Hr (Bs call_int1 Ht rfl c.b_int (by decide +kernel) (ea_cons (e_op Bu Be (e_op Bu Be (e_op Gg CG (v 6) (v 6)) (e_op Gg CG Ac (v 2))) (Ub (by exact hu_of hr) (v 0))) ea_nil)) Ac))
  (Ak (Ba (e_op op_mod Hr (e_op op_fdiv Vz (e_op op_mod Hr (Bs call_int1 Ht rfl c.b_int (by decide +kernel) (ea_cons (e_op Bu Be (e_op Gg CG (v 6) Ac) (v 2)) ea_nil)) Ac) Ac) (v 1)))))))))))
def HF : SF := (sRet (fD (lcA (lN Jg (Aa (c2 gAdd (cN (on1 hMax) (Aa (vT 0) aNil)) (kC (.int 1))) aNil)) (gN 1) bYes (fD (lcA (lN TY (Aa (vT 0) aNil)) (gT [(gN 2), (gN 3)]) (bV (c2 gEq (vT 3) (vT 1))) (vT 2) [2, 3])) [1])))
def Gm : List Va → M Va := fun ds => noX (runF 4 HF ds)
theorem Dt : FnScope ["sheet", "number", "k", "home"] ["sheet"] (defScope Ck) := ⟨rfl, rfl, rfl, by decide +kernel, rfl, by decide +kernel, by decide +kernel⟩
theorem SM {P : Program} {w : World} {K : PySem.W.Frag} {mg : Str → Option Value} {base : Heap} {f : Addr} {fd : FuncData} (c : Fx P K mg) (D : FnP K "_law_classes" Ck f fd) : FnD P w K mg base CX0 1 f fd ["sheet"] Gm := by
 refine CQ (N := ["sheet", "number", "k", "home"]) (g := HF) D Dt fun cdv A outer s H E hg hr => ?_
 unfold HF
 exact (Ak (Ba (Ju (MT (own := [("number", 1)]) rfl Dt.nd (Dh rfl c.b_range (ea_cons (e_op Bu Be (Ax (QD rfl (by exact hr.units)) Nh rfl c.b_max (by decide +kernel) (ea_cons (v 0) ea_nil)) Ac) ea_nil)) (blkOk_by (by rfl)) (by decide) (fun _ _ _ _ _ => (gn 1 Dt.nd)) (fun _ _ _ _ _ => Ke) (fun _ _ _ _ _ => (Ju (MT (own := [("k", 2), ("home", 3)]) rfl Dt.nd (QC rfl c.b_enumerate (ea_cons (v 0) ea_nil)) (blkOk_by (by rfl)) (by decide) (fun _ _ _ _ _ => (T8 rfl (Ek (gn 2 Dt.nd) (Ek (gn 3 Dt.nd) Ov)))) (fun _ _ _ _ _ => (T9 (Di (Jj (by exact hr.units)) pure_eq (v 3) (v 1) (nomark _)))) (fun _ _ _ _ _ => (v 2)))))))))
def FT : SF := (sSeq (sAsg (cN BR (Aa (cN Bg (Aa (kC (.int 0)) aNil)) aNil)) (gN 1))
 (sSeq (sFor (lN Jg (Aa (c2 gSub (vT 0) (kC (.int 1))) aNil)) (gN 2) (sSeq (sAsg (cN BR aNil) (gN 3))
 (sSeq (sFor (lSeq (vT 1)) (gN 4) (sAsg (c2 gAdd (vT 3) (fD (lcA (lN Jg (Aa (c2 gAdd (cN (on1 hMax) (Aa (vT 4) aNil)) (kC (.int 2))) aNil)) (gN 5) bYes (c2 gAdd (vT 4) (cN Bg (Aa (vT 5) aNil))) [5]))) (gN 3)))
 (sAsg (vT 3) (gN 1)))))
 (sRet (vT 1))))
def Hl : List Va → M Va := fun ds => noX (runF 6 FT ds)
theorem Bh : FnScope ["many", "rows", "turn", "longer", "row", "home"] ["many"] (defScope Bq) := ⟨rfl, rfl, rfl, by decide +kernel, rfl, by decide +kernel, by decide +kernel⟩
theorem Pg {P : Program} {w : World} {K : PySem.W.Frag} {mg : Str → Option Value} {base : Heap} {f : Addr} {fd : FuncData} (c : Fx P K mg) (D : FnP K "_law_all_sheets" Bq f fd) : FnD P w K mg base CX0 1 f fd ["many"] Hl := by
 refine CQ (N := ["many", "rows", "turn", "longer", "row", "home"]) (g := FT) D Bh fun cdv A outer s H E hg hr => ?_
 unfold FT
 exact (Ae (BX (i := 1) Bh.nd rfl (by first | exact Or.inl rfl | exact Or.inr rfl) (FW (ea_cons (BV (ea_cons Ac ea_nil)) ea_nil)))
  (Ae (Ih PassesOwn.never rfl (Dh rfl c.b_range (ea_cons (e_op op_sub JP (v 0) Ac) ea_nil)) (gn 2 Bh.nd) (Ae (BX (i := 3) Bh.nd rfl (by first | exact Or.inl rfl | exact Or.inr rfl) (FW ea_nil))
  (Ae (Ih PassesOwn.never rfl (Ky (v 1)) (gn 4 Bh.nd) (Ak (BX (i := 3) Bh.nd rfl (by first | exact Or.inl rfl | exact Or.inr rfl) (e_op Bu Be (v 3) (Ju (MT (own := [("home", 5)]) rfl Bh.nd (Dh rfl c.b_range (ea_cons (e_op Bu Be (Ax (QD rfl (by exact hr.units)) Nh rfl c.b_max (by decide +kernel) (ea_cons (v 4) ea_nil)) Ac) ea_nil)) (blkOk_by (by rfl)) (by decide) (fun _ _ _ _ _ => (gn 5 Bh.nd)) (fun _ _ _ _ _ => Ke) (fun _ _ _ _ _ => (e_op Bu Be (v 4) (BV (ea_cons (v 5) ea_nil))))))))))
  (Ak (BX (i := 1) Bh.nd rfl (by first | exact Or.inl rfl | exact Or.inr rfl) (v 3))))))
  (Ak (Ba (v 1)))))
def G7 : SF := (sSeq (sIf (bOr (bNot (bV (c1 (gIsi "tuple") (vT 1)))) (bV (c2 gNe (cN (on1 Ez) (Aa (vT 1) aNil)) (vT 0)))) (sRet (kC (.bool false))) sNil)
 (sSeq (sIf (bV (c2 gNe0 (fD (lcA (lSeq (vT 1)) (gN 2) (bOr (bNot (bV (c1 (gIsi "int") (vT 2)))) (bV (c1 (gIsi "bool") (vT 2)))) (vT 2) [2])) (cN BR aNil))) (sRet (kC (.bool false))) sNil)
 (sRet (c2 gEq (fD (lcA (lN Jg (Aa (vT 0) aNil)) (gN 3) (bNot (bV (Qa gLe gLe (kC (.int 0)) (c2 gIx (vT 1) (vT 3)) (c2 gAdd (cN (on1 hMax) (Aa (c2 gAdd (cN BR (Aa (c1 gNeg (kC (.int 1))) aNil)) (cN (on1 Xf) (Aa (eSl gSlA (vT 1) none (some (vT 3))) aNil))) aNil)) (kC (.int 1)))))) (vT 3) [3])) (cN BR aNil)))))
def Bl : List Va → M Va := fun ds => noX (runF 4 G7 ds)
theorem Eb : FnScope ["many", "thing", "home", "k"] ["many", "thing"] (defScope BL) := ⟨rfl, rfl, rfl, by decide +kernel, rfl, by decide +kernel, by decide +kernel⟩
theorem Lw {P : Program} {w : World} {K : PySem.W.Frag} {mg : Str → Option Value} {base : Heap} {f : Addr} {fd : FuncData} (c : Fx P K mg) (D : FnP K "_law_is_sheet" BL f fd) : FnD P w K mg base CX0 1 f fd ["many", "thing"] Bl := by
 refine CQ (N := ["many", "thing", "home", "k"]) (g := G7) D Eb fun cdv A outer s H E hg hr => ?_
 unfold G7
 exact (Ae (Fe (eb_w (Qz (Ff (Gf (Ua (c := "tuple") rfl c.b_isinstance rfl c.b_tuple (by decide +kernel) (by decide) (v 1)))) (MP (Di (JQ (by exact hr.units)) Hf (Ax Do Bt rfl c.b_len (by decide +kernel) (ea_cons (v 1) ea_nil)) (v 0) (nomark _))))) (Ak (Ba e_bl)) Cq)
  (Ae (Fe (Di (ags (by exact hr.units)) acO (Ju (MT (own := [("home", 2)]) rfl Eb.nd (Ky (v 1)) (blkOk_by (by rfl)) (by decide) (fun _ _ _ _ _ => (gn 2 Eb.nd)) (fun _ _ _ _ _ => (T9 (eb_w (Qz (Ff (Gf (Ua (c := "int") rfl c.b_isinstance rfl c.b_int (by decide +kernel) (by decide) (v 2)))) (MP (Gf (Ua (c := "bool") rfl c.b_isinstance rfl c.b_bool (by decide +kernel) (by decide) (v 2)))))))) (fun _ _ _ _ _ => (v 2)))) (FW ea_nil) (nomark _)) (Ak (Ba e_bl)) Cq)
  (Ak (Ba (Xp (Jj (by exact hr.units)) pure_eq (Ju (MT (own := [("k", 3)]) rfl Eb.nd (Dh rfl c.b_range (ea_cons (v 0) ea_nil)) (blkOk_by (by rfl)) (by decide) (fun _ _ _ _ _ => (gn 3 Eb.nd)) (fun _ _ _ _ _ => (T9 (Ff (Wc op_le Ml op_le Ml Ac (e_ix (v 1) (v 3)) (e_op Bu Be (Ax (QD rfl (by exact hr.units)) Nh rfl c.b_max (by decide +kernel) (ea_cons (e_op Bu Be (FW (ea_cons (e_un un_neg Rp Ac) ea_nil)) (Bs call_list_of Ss rfl c.b_list (by decide +kernel) (ea_cons (e_sl O6 Jd (v 1) Ln (Lk (v 3))) ea_nil))) ea_nil)) Ac))))) (fun _ _ _ _ _ => (v 3)))) (FW ea_nil) (nomark _))))))
def Gq : SF := (sSeq (sIf (bOr (bNot (bV (c1 (gIsi "tuple") (vT 0)))) (bNot (bV (Qa gLe gLe (kC (.int 1)) (cN (on1 Ez) (Aa (vT 0) aNil)) (kC (.int 8)))))) (sRet (cN BR aNil)) sNil)
 (sSeq (sAsg (kC (.int 0)) (gN 1))
 (sSeq (sFor (lN TY (Aa (vT 0) aNil)) (gT [(gN 2), (gN 3)]) (sSeq (sIf (bNot (bV (Ao true Ur (Aa (vT 3) (Aa (vT 1) aNil))))) (sRet (cN BR (Aa (vT 2) aNil))) sNil)
 (sAsg (cN (on1 Ez) (Aa (vT 3) aNil)) (gN 1))))
 (sSeq (sFor (lN TY (Aa (vT 0) aNil)) (gT [(gN 2), (gN 3)]) (sFor (lN TY (Aa (vT 3) aNil)) (gT [(gN 4), (gN 5)]) (sIf (bNot (bV (Ao true GP (Aa (vT 5) (Aa (kC (.int 0)) (Aa (c2 gSub (cN (on1 Ez) (Aa (vT 0) aNil)) (kC (.int 1))) aNil)))))) (sRet (cN BR (Aa (vT 2) (Aa (vT 4) aNil)))) sNil)))
 (sRet (kC .none))))))
def Iw : List Va → M Va := fun ds => noX (runF 6 Gq ds)
theorem Bm : FnScope ["value", "letters", "number", "line", "letter", "goal"] ["value"] (defScope Bv) := ⟨rfl, rfl, rfl, by decide +kernel, rfl, by decide +kernel, by decide +kernel⟩
theorem Qn {P : Program} {w : World} {K : PySem.W.Frag} {mg : Str → Option Value} {base : Heap} {f : Addr} {fd : FuncData} (c : Fx P K mg) (D : FnP K "wrong_in_table" Bv f fd) : FnD P w K mg base CX0 2 f fd ["value"] Iw := by
 obtain ⟨aat, Us⟩ := c.Xq
 have acr := aaf (P := P) (w := w) (base := base) c Us
 have acv : Binds K aat ["value", "letters"] [] := Us.bindsN (ps := ["value", "letters"]) fun _ _ _ _ _ _ us hl => match us, hl with | [_, _], _ => rfl
 obtain ⟨Jt, DG⟩ := c.NB
 have KN := Om (P := P) (w := w) (base := base) c DG
 have K6 : Binds K Jt ["value", "least", "most"] [] := DG.bindsN (ps := ["value", "least", "most"]) fun _ _ _ _ _ _ us hl => match us, hl with | [_, _, _], _ => rfl
 refine CQ (N := ["value", "letters", "number", "line", "letter", "goal"]) (g := Gq) D Bm fun cdv A outer s H E hg hr => ?_
 unfold Gq
 exact (Ae (Fe (eb_w (Qz (Ff (Gf (Ua (c := "tuple") rfl c.b_isinstance rfl c.b_tuple (by decide +kernel) (by decide) (v 0)))) (MP (Ff (Wc op_le Ml op_le Ml Ac (Ax Do Bt rfl c.b_len (by decide +kernel) (ea_cons (v 0) ea_nil)) (YD rfl c.k_MOST_STANDINGS.choose_spec)))))) (Ak (Ba (FW ea_nil))) Cq)
  (Ae (BX (i := 1) Bm.nd rfl (by first | exact Or.inl rfl | exact Or.inr rfl) Ac)
  (Ae (Ih PassesOwn.never rfl (QC rfl c.b_enumerate (ea_cons (v 0) ea_nil)) (T8 rfl (Ek (gn 2 Bm.nd) (Ek (gn 3 Bm.nd) Ov))) (Ae (Fe (Ff (Gf (Ar acr (by exact hg) (hr.mono (by decide)) rfl c.W9 Us.kp acv (fun _ _ _ _ _ _ _ h => h.elim) (ea_cons (v 3) (ea_cons (v 1) ea_nil)) (Ab (Ab Ag))))) (Ak (Ba (FW (ea_cons (v 2) ea_nil)))) Cq)
  (Ak (BX (i := 1) Bm.nd rfl (by first | exact Or.inl rfl | exact Or.inr rfl) (Ax Do Bt rfl c.b_len (by decide +kernel) (ea_cons (v 3) ea_nil))))))
  (Ae (Ih PassesOwn.never rfl (QC rfl c.b_enumerate (ea_cons (v 0) ea_nil)) (T8 rfl (Ek (gn 2 Bm.nd) (Ek (gn 3 Bm.nd) Ov))) (Ak (Ih PassesOwn.never rfl (QC rfl c.b_enumerate (ea_cons (v 3) ea_nil)) (T8 rfl (Ek (gn 4 Bm.nd) (Ek (gn 5 Bm.nd) Ov))) (Ak (Fe (Ff (Gf (Ar KN (by exact hg) (hr.mono (by decide)) rfl c.Nr DG.kp K6 (fun _ _ _ _ _ _ _ h => h.elim) (ea_cons (v 5) (ea_cons Ac (ea_cons (e_op op_sub JP (Ax Do Bt rfl c.b_len (by decide +kernel) (ea_cons (v 0) ea_nil)) Ac) ea_nil))) (Ab (Ab (Ab Ag)))))) (Ak (Ba (FW (ea_cons (v 2) (ea_cons (v 4) ea_nil))))) Cq)))))
  (Ak (Ba aau))))))
def EY : SF := (sSeq (sIf (bOr (bNot (bV (c1 (gIsi "tuple") (vT 1)))) (bV (c2 gNe (cN (on1 Ez) (Aa (vT 1) aNil)) (Ao true KY (Aa (vT 0) aNil))))) (sRet (kC (.bool false))) sNil)
 (sRet (eAnd (cN (on1 hAll) (Aa (fD (lcA (lSeq (vT 1)) (gN 2) bYes (Ao true GP (Aa (vT 2) (Aa (kC (.int 0)) (Aa (c2 gSub (cN (on1 Ez) (Aa (vT 1) aNil)) (kC (.int 1))) aNil)))) [2])) aNil)) (c2 gEq (Ao true NT (Aa (vT 1) aNil)) (vT 1)))))
def Dz : List Va → M Va := fun ds => noX (runF 3 EY ds)
theorem Im : FnScope ["machine", "value", "block"] ["machine", "value"] (defScope BK) := ⟨rfl, rfl, rfl, by decide +kernel, rfl, by decide +kernel, by decide +kernel⟩
theorem Ls {P : Program} {w : World} {K : PySem.W.Frag} {mg : Str → Option Value} {base : Heap} {f : Addr} {fd : FuncData} (c : Fx P K mg) (D : FnP K "is_parting_of" BK f fd) : FnD P w K mg base CX0 2 f fd ["machine", "value"] Dz := by
 obtain ⟨Hj, CT⟩ := c.M3
 have JB := Nk (P := P) (w := w) (base := base) c CT
 have JH : Binds K Hj ["machine"] [] := CT.bindsN (ps := ["machine"]) fun _ _ _ _ _ _ us hl => match us, hl with | [_], _ => rfl
 obtain ⟨Jt, DG⟩ := c.NB
 have KN := Om (P := P) (w := w) (base := base) c DG
 have K6 : Binds K Jt ["value", "least", "most"] [] := DG.bindsN (ps := ["value", "least", "most"]) fun _ _ _ _ _ _ us hl => match us, hl with | [_, _, _], _ => rfl
 obtain ⟨Yz, QM⟩ := c.Vm
 have aaB := Yj (P := P) (w := w) (base := base) c QM
 have aaD : Binds K Yz ["keys"] [] := QM.bindsN (ps := ["keys"]) fun _ _ _ _ _ _ us hl => match us, hl with | [_], _ => rfl
 refine CQ (N := ["machine", "value", "block"]) (g := EY) D Im fun cdv A outer s H E hg hr => ?_
 unfold EY
 exact (Ae (Fe (eb_w (Qz (Ff (Gf (Ua (c := "tuple") rfl c.b_isinstance rfl c.b_tuple (by decide +kernel) (by decide) (v 1)))) (MP (Di (JQ (by exact hr.units)) Hf (Ax Do Bt rfl c.b_len (by decide +kernel) (ea_cons (v 1) ea_nil)) (Ar JB (by exact hg) (hr.mono (by decide)) rfl c.Mw CT.kp JH (fun _ _ _ _ _ _ _ h => h.elim) (ea_cons (v 0) ea_nil) (Ab Ag)) (nomark _))))) (Ak (Ba e_bl)) Cq)
  (Ak (Ba (adx (Ax (cr_all rfl) acS rfl c.b_all (by decide +kernel) (ea_cons (Ju (MT (own := [("block", 2)]) rfl Im.nd (Ky (v 1)) (blkOk_by (by rfl)) (by decide) (fun _ _ _ _ _ => (gn 2 Im.nd)) (fun _ _ _ _ _ => Ke) (fun _ _ _ _ _ => (Ar KN (by exact hg) (hr.mono (by decide)) rfl c.Nr DG.kp K6 (fun _ _ _ _ _ _ _ h => h.elim) (ea_cons (v 2) (ea_cons Ac (ea_cons (e_op op_sub JP (Ax Do Bt rfl c.b_len (by decide +kernel) (ea_cons (v 1) ea_nil)) Ac) ea_nil))) (Ab (Ab (Ab Ag))))))) ea_nil)) (ZG (Xp (Jj (by exact hr.units)) pure_eq (Ar aaB (by exact hg) (hr.mono (by decide)) rfl c.Vc QM.kp aaD (fun _ _ _ _ _ _ _ h => h.elim) (ea_cons (v 1) ea_nil) (Ab Ag)) (v 1) (nomark _)))))))
def Lg : SF := (sRet (c1 gTRg (Ao true KY (Aa (vT 0) aNil))))
def OD : List Va → M Va := fun ds => noX (runF 1 Lg ds)
theorem WK : FnScope ["machine"] ["machine"] (defScope DP) := ⟨rfl, rfl, rfl, by decide +kernel, rfl, by decide +kernel, by decide +kernel⟩
theorem W0 {P : Program} {w : World} {K : PySem.W.Frag} {mg : Str → Option Value} {base : Heap} {f : Addr} {fd : FuncData} (c : Fx P K mg) (D : FnP K "single_of" DP f fd) : FnD P w K mg base CX0 2 f fd ["machine"] OD := by
 obtain ⟨Hj, CT⟩ := c.M3
 have JB := Nk (P := P) (w := w) (base := base) c CT
 have JH : Binds K Hj ["machine"] [] := CT.bindsN (ps := ["machine"]) fun _ _ _ _ _ _ us hl => match us, hl with | [_], _ => rfl
 refine CQ (N := ["machine"]) (g := Lg) D WK fun cdv A outer s H E hg hr => ?_
 unfold Lg
 exact (Ak (Ba (YC rfl rfl c.b_tuple rfl c.b_range (Ar JB (by exact hg) (hr.mono (by decide)) rfl c.Mw CT.kp JH (fun _ _ _ _ _ _ _ h => h.elim) (ea_cons (v 0) ea_nil) (Ab Ag)))))
def Nt : SF := (sRet (c2 gMul (cN Bg (Aa (kC (.int 0)) aNil)) (Ao true KY (Aa (vT 0) aNil))))
def QK : List Va → M Va := fun ds => noX (runF 1 Nt ds)
theorem X7 : FnScope ["machine"] ["machine"] (defScope Fw) := ⟨rfl, rfl, rfl, by decide +kernel, rfl, by decide +kernel, by decide +kernel⟩
theorem Yi {P : Program} {w : World} {K : PySem.W.Frag} {mg : Str → Option Value} {base : Heap} {f : Addr} {fd : FuncData} (c : Fx P K mg) (D : FnP K "whole_of" Fw f fd) : FnD P w K mg base CX0 2 f fd ["machine"] QK := by
 obtain ⟨Hj, CT⟩ := c.M3
 have JB := Nk (P := P) (w := w) (base := base) c CT
 have JH : Binds K Hj ["machine"] [] := CT.bindsN (ps := ["machine"]) fun _ _ _ _ _ _ us hl => match us, hl with | [_], _ => rfl
 refine CQ (N := ["machine"]) (g := Nt) D X7 fun cdv A outer s H E hg hr => ?_
 unfold Nt
 exact (Ak (Ba (e_op Gg CG (BV (ea_cons Ac ea_nil)) (Ar JB (by exact hg) (hr.mono (by decide)) rfl c.Mw CT.kp JH (fun _ _ _ _ _ _ _ h => h.elim) (ea_cons (v 0) ea_nil) (Ab Ag)))))
def MJ : SF := (sRet (c2 gIx (vT 1) (JN Br (Aa (vT 0) (Aa (cN (on1 Ez) (Aa (vT 1) aNil)) aNil)))))
def KZ : List Va → M Va := fun ds => noX (runF 2 MJ ds)
theorem aaa : FnScope ["m", "some"] ["m", "some"] (defScope G3) := ⟨rfl, rfl, rfl, by decide +kernel, rfl, by decide +kernel, by decide +kernel⟩
theorem U7 {P : Program} {w : World} {K : PySem.W.Frag} {mg : Str → Option Value} {base : Heap} {f : Addr} {fd : FuncData} (c : Fx P K mg) (D : FnP K "_law_of" G3 f fd) : FnD P w K mg base CX0 2 f fd ["m", "some"] KZ := by
 obtain ⟨Fd, Bb⟩ := c.Jx
 have Ca := JR (P := P) (w := w) (base := base) c Bb
 have Ce : Binds K Fd ["m", "many"] [] := Bb.bindsN (ps := ["m", "many"]) fun _ _ _ _ _ _ us hl => match us, hl with | [_, _], _ => rfl
 refine CQ (N := ["m", "some"]) (g := MJ) D aaa fun cdv A outer s H E hg hr => ?_
 unfold MJ
 exact (Ak (Ba (e_ix (v 1) (Ii Ca (by exact hg) (hr.mono (by decide)) rfl c.CP Bb.kp Ce (fun _ _ _ _ _ _ _ h => h.elim) (ea_cons (v 0) (ea_cons (Ax Do Bt rfl c.b_len (by decide +kernel) (ea_cons (v 1) ea_nil)) ea_nil)) (Ab (Ab Ag))))))
def JX : SF := (sSeq (sOwn (fLst (Aa (kC (.int 0)) aNil)) 2)
 (sSeq (sFor (lN Jg (Aa (c2 gSub (vT 1) (kC (.int 1))) aNil)) (gN 3) (sApp 2 (JN Br (Aa (vT 0) (Aa (c1 immV (c2 gAdd (cN (on1 hMax) (Aa (vF 2) aNil)) (kC (.int 2)))) aNil)))))
 (sRet (c1 immV (cN (on1 hTup) (Aa (vF 2) aNil))))))
def M8 : List Va → M Va := fun ds => noX (runF 4 JX ds)
theorem K9 : FnScope ["m", "many", "found", "turn"] ["m", "many"] (defScope Dc) := ⟨rfl, rfl, rfl, by decide +kernel, rfl, by decide +kernel, by decide +kernel⟩
theorem VF {P : Program} {w : World} {K : PySem.W.Frag} {mg : Str → Option Value} {base : Heap} {f : Addr} {fd : FuncData} (c : Fx P K mg) (D : FnP K "_law_sheet" Dc f fd) : FnD P w K mg base CX0 2 f fd ["m", "many"] M8 := by
 obtain ⟨Fd, Bb⟩ := c.Jx
 have Ca := JR (P := P) (w := w) (base := base) c Bb
 have Ce : Binds K Fd ["m", "many"] [] := Bb.bindsN (ps := ["m", "many"]) fun _ _ _ _ _ _ us hl => match us, hl with | [_, _], _ => rfl
 refine CQ (N := ["m", "many", "found", "turn"]) (g := JX) D K9 fun cdv A outer s H E hg hr => ?_
 unfold JX
 exact (Ae (agT (i := 2) K9.nd rfl (by first | exact Or.inl rfl | exact Or.inr rfl) (ZF (ea_cons Ac ea_nil)))
  (Ae (Ih PassesOwn.never rfl (Dh rfl c.b_range (ea_cons (e_op op_sub JP (v 1) Ac) ea_nil)) (gn 3 K9.nd) (Ak (Xm (i := 2) rfl (by first | exact Or.inl rfl | exact Or.inr (Or.inl rfl)) (Ii Ca (by exact hg) (hr.mono (by decide)) rfl c.CP Bb.kp Ce (fun _ _ _ _ _ _ _ h => h.elim) (ea_cons (v 0) (ea_cons (e_up (e_op Bu Be (Ax (QD rfl (by exact hr.units)) Nh rfl c.b_max (by decide +kernel) (ea_cons (vf 2) ea_nil)) Ac)) ea_nil)) (Ab (Ab Ag))))))
  (Ak (Ba (e_up (Bs call_tuple_of CN rfl c.b_tuple (by decide +kernel) (ea_cons (vf 2) ea_nil)))))))
def Jf : SF := (sSeq (sIf (bOr (bNot (bV (c1 (gIsi "tuple") (vT 0)))) (bV (c2 gNe (cN (on1 Ez) (Aa (vT 0) aNil)) (kC (.int 2))))) (sRet (cN Bg aNil)) sNil)
 (sSeq (sAsg (Ao true Iw (Aa (c2 gIx (vT 0) (kC (.int 0))) aNil)) (gN 1))
 (sSeq (sIf (bV (c2 abR (vT 1) (kC .none))) (sRet (cN Bg (Aa (kC (.int 0)) (aaz (vT 1) aNil)))) sNil)
 (sSeq (sIf (bOr (bNot (bV (c1 (gIsi "tuple") (c2 gIx (vT 0) (kC (.int 1)))))) (bV (c2 gNe (cN (on1 Ez) (Aa (c2 gIx (vT 0) (kC (.int 1))) aNil)) (cN (on1 Ez) (Aa (c2 gIx (vT 0) (kC (.int 0))) aNil))))) (sRet (cN Bg (Aa (kC (.int 1)) aNil))) sNil)
 (sSeq (sFor (lN TY (Aa (c2 gIx (vT 0) (kC (.int 1))) aNil)) (gT [(gN 2), (gN 3)]) (sIf (bNot (bV (Ao true GP (Aa (vT 3) (Aa (kC (.int 0)) (Aa (kC (.int 9)) aNil)))))) (sRet (cN Bg (Aa (kC (.int 1)) (Aa (vT 2) aNil)))) sNil))
 (sRet (kC .none)))))))
def Lq : List Va → M Va := fun ds => noX (runF 4 Jf ds)
theorem Ho : FnScope ["thing", "wrong", "number", "shown"] ["thing"] (defScope CJ) := ⟨rfl, rfl, rfl, by decide +kernel, rfl, by decide +kernel, by decide +kernel⟩
theorem Uy {P : Program} {w : World} {K : PySem.W.Frag} {mg : Str → Option Value} {base : Heap} {f : Addr} {fd : FuncData} (c : Fx P K mg) (D : FnP K "wrong_place" CJ f fd) : FnD P w K mg base CX0 3 f fd ["thing"] Lq := by
 obtain ⟨Qw, IK⟩ := c.LK
 have Rj := Qn (P := P) (w := w) (base := base) c IK
 have Rm : Binds K Qw ["value"] [] := IK.bindsN (ps := ["value"]) fun _ _ _ _ _ _ us hl => match us, hl with | [_], _ => rfl
 obtain ⟨Jt, DG⟩ := c.NB
 have KN := Om (P := P) (w := w) (base := base) c DG
 have K6 : Binds K Jt ["value", "least", "most"] [] := DG.bindsN (ps := ["value", "least", "most"]) fun _ _ _ _ _ _ us hl => match us, hl with | [_, _, _], _ => rfl
 refine CQ (N := ["thing", "wrong", "number", "shown"]) (g := Jf) D Ho fun cdv A outer s H E hg hr => ?_
 unfold Jf
 exact (Ae (Fe (eb_w (Qz (Ff (Gf (Ua (c := "tuple") rfl c.b_isinstance rfl c.b_tuple (by decide +kernel) (by decide) (v 0)))) (MP (Di (JQ (by exact hr.units)) Hf (Ax Do Bt rfl c.b_len (by decide +kernel) (ea_cons (v 0) ea_nil)) Ac (nomark _))))) (Ak (Ba (BV ea_nil))) Cq)
  (Ae (BX (i := 1) Ho.nd rfl (by first | exact Or.inl rfl | exact Or.inr rfl) (Ar Rj (by exact hg) (hr.mono (by decide)) rfl c.Ly IK.kp Rm (fun _ _ _ _ _ _ _ h => h.elim) (ea_cons (e_ix (v 0) Ac) ea_nil) (Ab Ag)))
  (Ae (Fe (Di op_notN WR (v 1) aau (nomark _)) (Ak (Ba (BV (ea_cons Ac (ab3 (v 1) ea_nil))))) Cq)
  (Ae (Fe (eb_w (Qz (Ff (Gf (Ua (c := "tuple") rfl c.b_isinstance rfl c.b_tuple (by decide +kernel) (by decide) (e_ix (v 0) Ac)))) (MP (Di (JQ (by exact hr.units)) Hf (Ax Do Bt rfl c.b_len (by decide +kernel) (ea_cons (e_ix (v 0) Ac) ea_nil)) (Ax Do Bt rfl c.b_len (by decide +kernel) (ea_cons (e_ix (v 0) Ac) ea_nil)) (nomark _))))) (Ak (Ba (BV (ea_cons Ac ea_nil)))) Cq)
  (Ae (Ih PassesOwn.never rfl (QC rfl c.b_enumerate (ea_cons (e_ix (v 0) Ac) ea_nil)) (T8 rfl (Ek (gn 2 Ho.nd) (Ek (gn 3 Ho.nd) Ov))) (Ak (Fe (Ff (Gf (Ar KN (by exact hg) (hr.mono (by decide)) rfl c.Nr DG.kp K6 (fun _ _ _ _ _ _ _ h => h.elim) (ea_cons (v 3) (ea_cons Ac (ea_cons (YD rfl c.k_MOST_SHOWN.choose_spec) ea_nil))) (Ab (Ab (Ab Ag)))))) (Ak (Ba (BV (ea_cons Ac (ea_cons (v 2) ea_nil))))) Cq)))
  (Ak (Ba aau)))))))
def J5 : SF := (sSeq (sPar (oE (c2 gAdd (kC (.int 1)) (JN Br (Aa (vT 0) (Aa (vT 1) aNil))))) (oE (c2 gAdd (kC (.int 1)) (JN Br (Aa (vT 0) (Aa (vT 2) aNil))))) 3 4)
 (sSeq (aaX (lN Jg (Aa (vT 3) aNil)) (gN 10) (fLst aNil) [10] 5)
 (sSeq (sFor (lN Jg (Aa (vT 4) aNil)) (gN 6) (sSeq (sPar (oE (JN Br (Aa (vT 0) (Aa (kC (.int 5)) aNil)))) (oE (c2 gAdd (kC (.int 1)) (JN Br (Aa (vT 0) (Aa (cN (on2 adh) (Aa (c2 gSub (vT 3) (kC (.int 1))) (Aa (kC (.int 1)) aNil))) aNil))))) 7 8)
 (sSeq (sAsg (c2 gAdd (kC (.int 1)) (JN Br (Aa (vT 0) (Aa (vT 3) aNil)))) (gN 9))
 (sFor (lN Jg (Aa (vT 3) aNil)) (gN 10) (sSeq (sAsg (JN Br (Aa (vT 0) (Aa (vT 3) aNil))) (gN 11))
 (sSeq (sIf (bV (c2 gLt (vT 7) (kC (.int 2)))) (sAsg (c2 gMod (cN (on1 hInt) (Aa (c2 gAdd (vT 10) (vT 8)) aNil)) (vT 3)) (gN 11)) sNil)
 (sSeq (sIf (bV (c2 gEq (vT 7) (kC (.int 2)))) (sAsg (c2 gAdd (c2 gMul (cN (on1 hInt) (Aa (c2 gDiv (vT 10) (vT 9)) aNil)) (vT 9)) (c2 gMod (cN (on1 hInt) (Aa (c2 gAdd (vT 10) (kC (.int 1))) aNil)) (vT 9))) (gN 11)) sNil)
 (sSeq (sIf (bV (c2 gEq (vT 7) (kC (.int 3)))) (sAsg (c2 gMod (cN (on1 hInt) (Aa (vT 10) aNil)) (vT 9)) (gN 11)) sNil)
 (aa0 5 (vT 10) (cN (on2 aan) (Aa (vT 11) (Aa (c2 gSub (vT 3) (kC (.int 1))) aNil))))))))))))
 (sRet (cN Bg (Aa (c1 immV (cN (on1 hTup) (Aa (lcC (lSeq (vF 5)) (gN 12) bYes (cN (on1 hTup) (Aa (vT 12) aNil)) [12]) aNil))) (Aa (cN (on1 hTup) (Aa (fD (lcA (lN Jg (Aa (vT 3) aNil)) (gN 10) bYes (JN KZ (Aa (vT 0) (Aa (cN BR (Aa (kC (.int 0)) (Aa (kC (.int 0)) (Aa (kC (.int 1)) (Aa (kC (.int 2)) aNil))))) aNil))) [10])) aNil)) aNil)))))))
def Ka : List Va → M Va := fun ds => noX (runF 13 J5 ds)
theorem Bc : FnScope ["m", "most", "wide", "many", "letters", "rows", "turn", "kind", "step", "half", "k", "goal", "row"] ["m", "most", "wide"] (defScope De) := ⟨rfl, rfl, rfl, by decide +kernel, rfl, by decide +kernel, by decide +kernel⟩
theorem VG {P : Program} {w : World} {K : PySem.W.Frag} {mg : Str → Option Value} {base : Heap} {f : Addr} {fd : FuncData} (c : Fx P K mg) (D : FnP K "_law_frame" De f fd) : FnD P w K mg base CX0 3 f fd ["m", "most", "wide"] Ka := by
 obtain ⟨Fd, Bb⟩ := c.Jx
 have Ca := JR (P := P) (w := w) (base := base) c Bb
 have Ce : Binds K Fd ["m", "many"] [] := Bb.bindsN (ps := ["m", "many"]) fun _ _ _ _ _ _ us hl => match us, hl with | [_, _], _ => rfl
 obtain ⟨Qx, JG⟩ := c.Ue
 have Uo := U7 (P := P) (w := w) (base := base) c JG
 have Ut : Binds K Qx ["m", "some"] [] := JG.bindsN (ps := ["m", "some"]) fun _ _ _ _ _ _ us hl => match us, hl with | [_, _], _ => rfl
 refine CQ (N := ["m", "most", "wide", "many", "letters", "rows", "turn", "kind", "step", "half", "k", "goal", "row"]) (g := J5) D Bc fun cdv A outer s H E hg hr => ?_
 unfold J5
 exact (Ae (Vj (i := 3) (j := 4) rfl Bc.nd rfl rfl (by decide) rfl rfl (eo_e (e_op Bu Be Ac (Ii Ca (by exact hg) (hr.mono (by decide)) rfl c.CP Bb.kp Ce (fun _ _ _ _ _ _ _ h => h.elim) (ea_cons (v 0) (ea_cons (v 1) ea_nil)) (Ab (Ab Ag))))) (eo_e (e_op Bu Be Ac (Ii Ca (by exact hg) (hr.mono (by decide)) rfl c.CP Bb.kp Ce (fun _ _ _ _ _ _ _ h => h.elim) (ea_cons (v 0) (ea_cons (v 2) ea_nil)) (Ab (Ab Ag))))) (by rfl))
  (Ae (abY (own := [("k", 10)]) (i := 5) rfl Bc.nd rfl rfl (sw_true rfl rfl rfl rfl) (Dh rfl c.b_range (ea_cons (v 3) ea_nil)) (blkOk_by (by rfl)) (by decide) (fun _ _ _ _ _ => (gn 10 Bc.nd)) (fun _ _ _ _ _ => (ZF ea_nil)))
  (Ae (Ih PassesOwn.never rfl (Dh rfl c.b_range (ea_cons (v 4) ea_nil)) (gn 6 Bc.nd) (Ae (Vj (i := 7) (j := 8) rfl Bc.nd rfl rfl (by decide) rfl rfl (eo_e (Ii Ca (by exact hg) (hr.mono (by decide)) rfl c.CP Bb.kp Ce (fun _ _ _ _ _ _ _ h => h.elim) (ea_cons (v 0) (ea_cons Ac ea_nil)) (Ab (Ab Ag)))) (eo_e (e_op Bu Be Ac (Ii Ca (by exact hg) (hr.mono (by decide)) rfl c.CP Bb.kp Ce (fun _ _ _ _ _ _ _ h => h.elim) (ea_cons (v 0) (ea_cons (Ax (call_max2 rfl) abd rfl c.b_max (by decide +kernel) (ea_cons (e_op op_sub JP (v 3) Ac) (ea_cons Ac ea_nil))) ea_nil)) (Ab (Ab Ag))))) (by rfl))
  (Ae (BX (i := 9) Bc.nd rfl (by first | exact Or.inl rfl | exact Or.inr rfl) (e_op Bu Be Ac (Ii Ca (by exact hg) (hr.mono (by decide)) rfl c.CP Bb.kp Ce (fun _ _ _ _ _ _ _ h => h.elim) (ea_cons (v 0) (ea_cons (v 3) ea_nil)) (Ab (Ab Ag)))))
  (Ak (Ih PassesOwn.never rfl (Dh rfl c.b_range (ea_cons (v 3) ea_nil)) (gn 10 Bc.nd) (Ae (BX (i := 11) Bc.nd rfl (by first | exact Or.inl rfl | exact Or.inr rfl) (Ii Ca (by exact hg) (hr.mono (by decide)) rfl c.CP Bb.kp Ce (fun _ _ _ _ _ _ _ h => h.elim) (ea_cons (v 0) (ea_cons (v 3) ea_nil)) (Ab (Ab Ag))))
  (Ae (Fe (Di op_lt aeC (v 7) Ac (nomark _)) (Ak (BX (i := 11) Bc.nd rfl (by first | exact Or.inl rfl | exact Or.inr rfl) (e_op op_mod Hr (Bs call_int1 Ht rfl c.b_int (by decide +kernel) (ea_cons (e_op Bu Be (v 10) (v 8)) ea_nil)) (v 3)))) Cq)
  (Ae (Fe (Di (Jj (by exact hr.units)) pure_eq (v 7) Ac (nomark _)) (Ak (BX (i := 11) Bc.nd rfl (by first | exact Or.inl rfl | exact Or.inr rfl) (e_op Bu Be (e_op Gg CG (Bs call_int1 Ht rfl c.b_int (by decide +kernel) (ea_cons (e_op op_fdiv Vz (v 10) (v 9)) ea_nil)) (v 9)) (e_op op_mod Hr (Bs call_int1 Ht rfl c.b_int (by decide +kernel) (ea_cons (e_op Bu Be (v 10) Ac) ea_nil)) (v 9))))) Cq)
  (Ae (Fe (Di (Jj (by exact hr.units)) pure_eq (v 7) Ac (nomark _)) (Ak (BX (i := 11) Bc.nd rfl (by first | exact Or.inl rfl | exact Or.inr rfl) (e_op op_mod Hr (Bs call_int1 Ht rfl c.b_int (by decide +kernel) (ea_cons (v 10) ea_nil)) (v 9)))) Cq)
  (Ak (Vk (i := 5) rfl (by first | exact Or.inl rfl | exact Or.inr (Or.inl rfl)) (v 10) (Ax (call_min2 rfl) WT rfl c.b_min (by decide +kernel) (ea_cons (v 11) (ea_cons (e_op op_sub JP (v 3) Ac) ea_nil))) (by intro _ _; rfl))))))))))))
  (Ak (Ba (BV (ea_cons (e_up (Bs call_tuple_of CN rfl c.b_tuple (by decide +kernel) (ea_cons (aiB (own := [("row", 12)]) rfl Bc.nd (Ky (vf 5)) (blkOk_by (by rfl)) (by decide) (fun _ _ _ _ _ => (gn 12 Bc.nd)) (fun _ _ _ _ _ => Ke) (fun _ _ _ _ _ => (Bs call_tuple_of CN rfl c.b_tuple (by decide +kernel) (ea_cons (v 12) ea_nil)))) ea_nil))) (ea_cons (Bs call_tuple_of CN rfl c.b_tuple (by decide +kernel) (ea_cons (Ju (MT (own := [("k", 10)]) rfl Bc.nd (Dh rfl c.b_range (ea_cons (v 3) ea_nil)) (blkOk_by (by rfl)) (by decide) (fun _ _ _ _ _ => (gn 10 Bc.nd)) (fun _ _ _ _ _ => Ke) (fun _ _ _ _ _ => (Ii Uo (by exact hg) (hr.mono (by decide)) rfl c.Tt JG.kp Ut (fun _ _ _ _ _ _ _ h => h.elim) (ea_cons (v 0) (ea_cons (FW (ea_cons Ac (ea_cons Ac (ea_cons Ac (ea_cons Ac ea_nil))))) ea_nil)) (Ab (Ab Ag)))))) ea_nil)) ea_nil))))))))
def Gr : SF := (sSeq (sAsg (cN BR (Aa (kC .none) (Aa (kC (.bool true)) (Aa (kC (.bool false)) (Aa (c1 gNeg (kC (.int 1))) (Aa (kC (.int 0)) (Aa (kC (.int 1)) (Aa (kC (.int 2)) (Aa (kC (.int 9)) (Aa (c2 gPow (kC (.int 10)) (kC (.int 30))) (Aa (kC (.str "0")) (Aa (cN Bg (Aa (kC (.int 0)) aNil)) (Aa (cN BR (Aa (kC (.int 0)) aNil)) (Aa (cN gD0 aNil) aNil)))))))))))))) (gN 2))
 (sSeq (sPar (oE (JN Br (Aa (vT 0) (Aa (cN (on1 Ez) (Aa (vT 1) aNil)) aNil)))) (oE (JN Br (Aa (vT 0) (Aa (kC (.int 8)) aNil)))) 3 4)
 (sSeq (sIf (bV (c2 gEq (vT 4) (kC (.int 0)))) (sRet (c2 Qu (eSl gSlA (vT 1) none (some (vT 3))) (eSl gSlA (vT 1) (some (c2 Qu (vT 3) (kC (.int 1)))) none))) sNil)
 (sSeq (sIf (bV (c2 gEq (vT 4) (kC (.int 1)))) (sRet (c2 Qu (eSl gSlA (vT 1) none (some (c2 Qu (vT 3) (kC (.int 1))))) (eSl gSlA (vT 1) (some (vT 3)) none))) sNil)
 (sSeq (sIf (bV (c2 gEq (vT 4) (kC (.int 2)))) (sRet (cN (on1 Xf) (Aa (vT 1) aNil))) sNil)
 (sSeq (sIf (bV (c2 gEq (vT 4) (kC (.int 3)))) (sRet (c1 abQ (vT 1))) sNil)
 (sSeq (sIf (bV (c2 gEq (vT 4) (kC (.int 4)))) (sRet (cN (on1 hTup) (Aa (fD (lcA (lSeq (vT 1)) (gN 5) bYes (c2 Qu (vT 5) (kC (.int 1))) [5])) aNil))) sNil)
 (sRet (c2 Qu (c2 Qu (eSl gSlA (vT 1) none (some (vT 3))) (cN Bg (Aa (JN KZ (Aa (vT 0) (Aa (vT 2) aNil))) aNil))) (eSl gSlA (vT 1) (some (c2 Qu (vT 3) (kC (.int 1)))) none))))))))))
def Iz : List Va → M Va := fun ds => noX (runF 6 Gr ds)
theorem Ds : FnScope ["m", "sheet", "odds", "at", "pick", "home"] ["m", "sheet"] (defScope Bw) := ⟨rfl, rfl, rfl, by decide +kernel, rfl, by decide +kernel, by decide +kernel⟩
theorem Qo {P : Program} {w : World} {K : PySem.W.Frag} {mg : Str → Option Value} {base : Heap} {f : Addr} {fd : FuncData} (c : Fx P K mg) (D : FnP K "_law_odd_sheet" Bw f fd) : FnD P w K mg base CX0 3 f fd ["m", "sheet"] Iz := by
 obtain ⟨Fd, Bb⟩ := c.Jx
 have Ca := JR (P := P) (w := w) (base := base) c Bb
 have Ce : Binds K Fd ["m", "many"] [] := Bb.bindsN (ps := ["m", "many"]) fun _ _ _ _ _ _ us hl => match us, hl with | [_, _], _ => rfl
 obtain ⟨Qx, JG⟩ := c.Ue
 have Uo := U7 (P := P) (w := w) (base := base) c JG
 have Ut : Binds K Qx ["m", "some"] [] := JG.bindsN (ps := ["m", "some"]) fun _ _ _ _ _ _ us hl => match us, hl with | [_, _], _ => rfl
 refine CQ (N := ["m", "sheet", "odds", "at", "pick", "home"]) (g := Gr) D Ds fun cdv A outer s H E hg hr => ?_
 unfold Gr
 exact (Ae (BX (i := 2) Ds.nd rfl (by first | exact Or.inl rfl | exact Or.inr rfl) (FW (ea_cons aau (ea_cons e_bl (ea_cons e_bl (ea_cons (e_un un_neg Rp Ac) (ea_cons Ac (ea_cons Ac (ea_cons Ac (ea_cons Ac (ea_cons (e_op op_pow Zd Ac Ac) (ea_cons afn (ea_cons (BV (ea_cons Ac ea_nil)) (ea_cons (FW (ea_cons Ac ea_nil)) (ea_cons e_d0 ea_nil)))))))))))))))
  (Ae (Vj (i := 3) (j := 4) rfl Ds.nd rfl rfl (by decide) rfl rfl (eo_e (Ii Ca (by exact hg) (hr.mono (by decide)) rfl c.CP Bb.kp Ce (fun _ _ _ _ _ _ _ h => h.elim) (ea_cons (v 0) (ea_cons (Ax Do Bt rfl c.b_len (by decide +kernel) (ea_cons (v 1) ea_nil)) ea_nil)) (Ab (Ab Ag)))) (eo_e (Ii Ca (by exact hg) (hr.mono (by decide)) rfl c.CP Bb.kp Ce (fun _ _ _ _ _ _ _ h => h.elim) (ea_cons (v 0) (ea_cons Ac ea_nil)) (Ab (Ab Ag)))) (by rfl))
  (Ae (Fe (Di (Jj (by exact hr.units)) pure_eq (v 4) Ac (nomark _)) (Ak (Ba (e_op Mq HS (e_sl O6 Jd (v 1) Ln (Lk (v 3))) (e_sl O6 Jd (v 1) (Lk (e_op Mq HS (v 3) Ac)) Ln)))) Cq)
  (Ae (Fe (Di (Jj (by exact hr.units)) pure_eq (v 4) Ac (nomark _)) (Ak (Ba (e_op Mq HS (e_sl O6 Jd (v 1) Ln (Lk (e_op Mq HS (v 3) Ac))) (e_sl O6 Jd (v 1) (Lk (v 3)) Ln)))) Cq)
  (Ae (Fe (Di (Jj (by exact hr.units)) pure_eq (v 4) Ac (nomark _)) (Ak (Ba (Bs call_list_of Ss rfl c.b_list (by decide +kernel) (ea_cons (v 1) ea_nil)))) Cq)
  (Ae (Fe (Di (Jj (by exact hr.units)) pure_eq (v 4) Ac (nomark _)) (Ak (Ba (agW (v 1)))) Cq)
  (Ae (Fe (Di (Jj (by exact hr.units)) pure_eq (v 4) Ac (nomark _)) (Ak (Ba (Bs call_tuple_of CN rfl c.b_tuple (by decide +kernel) (ea_cons (Ju (MT (own := [("home", 5)]) rfl Ds.nd (Ky (v 1)) (blkOk_by (by rfl)) (by decide) (fun _ _ _ _ _ => (gn 5 Ds.nd)) (fun _ _ _ _ _ => Ke) (fun _ _ _ _ _ => (e_op Mq HS (v 5) Ac)))) ea_nil)))) Cq)
  (Ak (Ba (e_op Mq HS (e_op Mq HS (e_sl O6 Jd (v 1) Ln (Lk (v 3))) (BV (ea_cons (Ii Uo (by exact hg) (hr.mono (by decide)) rfl c.Tt JG.kp Ut (fun _ _ _ _ _ _ _ h => h.elim) (ea_cons (v 0) (ea_cons (v 2) ea_nil)) (Ab (Ab Ag))) ea_nil))) (e_sl O6 Jd (v 1) (Lk (e_op Mq HS (v 3) Ac)) Ln)))))))))))
def Hz : SF := (sSeq (sAsg (Ao true Lq (Aa (vT 0) aNil)) (gN 1))
 (sSeq (sIf (bV (c2 abR (vT 1) (kC .none))) (U4 "BadMachine" "place" (vT 1)) sNil)
 (sRet (vT 0))))
def CK : List Va → M Va := runF 2 Hz
def Fo : List Va → M Va := fun ds => noX (CK ds)
theorem Mg : FnScope ["thing", "place"] ["thing"] (defScope Ci) := ⟨rfl, rfl, rfl, by decide +kernel, rfl, by decide +kernel, by decide +kernel⟩
theorem Et {P : Program} {w : World} {K : PySem.W.Frag} {mg : Str → Option Value} {base : Heap} {f : Addr} {fd : FuncData} (c : Fx P K mg) (D : FnP K "need_machine" Ci f fd) : FnD P w K mg base (L2.CX P w) 4 f fd ["thing"] CK := by
 obtain ⟨Uz, Lr⟩ := c.Qc
 have Ws := Uy (P := P) (w := w) (base := base) c Lr
 have Wv : Binds K Uz ["thing"] [] := Lr.bindsN (ps := ["thing"]) fun _ _ _ _ _ _ us hl => match us, hl with | [_], _ => rfl
 refine Ou (N := ["thing", "place"]) (g := Hz) D Mg fun cdv A outer s H E hg hr tk => ?_
 unfold Hz
 exact (Ae (BX (i := 1) Mg.nd rfl (by first | exact Or.inl rfl | exact Or.inr rfl) (Ar Ws (by exact hg) (hr.mono (by decide)) rfl c.Pj Lr.kp Wv (fun _ _ _ _ _ _ _ h => h.elim) (ea_cons (v 0) ea_nil) (Ab Ag)))
  (Ae (Fe (Di op_notN WR (v 1) aau (nomark _)) (Ak (ZD rfl tk (c.Ja w base 0) (hr.mono (by decide)) rfl (v 1))) Cq)
  (Ak (Ba (v 0)))))
def JW : SF := (sSeq (aab (Ao true CK (Aa (vT 0) aNil)))
 (sRet (Ao true Dz (Aa (vT 0) (Aa (vT 1) aNil)))))
def Rf : List Va → M Va := runF 2 JW
def Bx : List Va → M Va := fun ds => noX (Rf ds)
theorem Vr : FnScope ["machine", "value"] ["machine", "value"] (defScope CZ) := ⟨rfl, rfl, rfl, by decide +kernel, rfl, by decide +kernel, by decide +kernel⟩
theorem Ld {P : Program} {w : World} {K : PySem.W.Frag} {mg : Str → Option Value} {base : Heap} {f : Addr} {fd : FuncData} (c : Fx P K mg) (D : FnP K "is_parting" CZ f fd) : FnD P w K mg base (L2.CX P w) 5 f fd ["machine", "value"] Rf := by
 obtain ⟨Ay, Am⟩ := c.Ed
 have Az := Et (P := P) (w := w) (base := base) c Am
 have HQ : FnD P w K mg base CX0 4 (He.ga K "need_machine") Ay ["thing"] Fo := Gx Az
 have Cp : Binds K Ay ["thing"] [] := Am.bindsN (ps := ["thing"]) fun _ _ _ _ _ _ us hl => match us, hl with | [_], _ => rfl
 obtain ⟨Ir, CV⟩ := c.Jv
 have JC := Ls (P := P) (w := w) (base := base) c CV
 have JK : Binds K Ir ["machine", "value"] [] := CV.bindsN (ps := ["machine", "value"]) fun _ _ _ _ _ _ us hl => match us, hl with | [_, _], _ => rfl
 refine Ou (N := ["machine", "value"]) (g := JW) D Vr fun cdv A outer s H E hg hr tk => ?_
 unfold JW
 exact (Ae (YB (Ar Az (by exact hg) (hr.mono (by decide)) rfl c.Ec Am.kp Cp (Ql tk) (ea_cons (v 0) ea_nil) (Ab Ag)))
  (Ak (Ba (Ar JC (by exact hg) (hr.mono (by decide)) rfl c.Jl CV.kp JK (fun _ _ _ _ _ _ _ h => h.elim) (ea_cons (v 0) (ea_cons (v 1) ea_nil)) (Ab (Ab Ag))))))
def Hw : SF := (sSeq (aab (Ao true CK (Aa (vT 0) aNil)))
 (sSeq (sIf (bNot (bV (Ao true Dz (Aa (vT 0) (Aa (vT 1) aNil))))) (U4 "BadParting" "value" (vT 1)) sNil)
 (sRet (vT 1))))
def Gk : List Va → M Va := runF 2 Hw
def Uq : List Va → M Va := fun ds => noX (Gk ds)
theorem R4 : FnScope ["machine", "parting"] ["machine", "parting"] (defScope Cg) := ⟨rfl, rfl, rfl, by decide +kernel, rfl, by decide +kernel, by decide +kernel⟩
theorem SJ {P : Program} {w : World} {K : PySem.W.Frag} {mg : Str → Option Value} {base : Heap} {f : Addr} {fd : FuncData} (c : Fx P K mg) (D : FnP K "need_parting" Cg f fd) : FnD P w K mg base (L2.CX P w) 5 f fd ["machine", "parting"] Gk := by
 obtain ⟨Ay, Am⟩ := c.Ed
 have Az := Et (P := P) (w := w) (base := base) c Am
 have HQ : FnD P w K mg base CX0 4 (He.ga K "need_machine") Ay ["thing"] Fo := Gx Az
 have Cp : Binds K Ay ["thing"] [] := Am.bindsN (ps := ["thing"]) fun _ _ _ _ _ _ us hl => match us, hl with | [_], _ => rfl
 obtain ⟨Ir, CV⟩ := c.Jv
 have JC := Ls (P := P) (w := w) (base := base) c CV
 have JK : Binds K Ir ["machine", "value"] [] := CV.bindsN (ps := ["machine", "value"]) fun _ _ _ _ _ _ us hl => match us, hl with | [_, _], _ => rfl
 refine Ou (N := ["machine", "parting"]) (g := Hw) D R4 fun cdv A outer s H E hg hr tk => ?_
 unfold Hw
 exact (Ae (YB (Ar Az (by exact hg) (hr.mono (by decide)) rfl c.Ec Am.kp Cp (Ql tk) (ea_cons (v 0) ea_nil) (Ab Ag)))
  (Ae (Fe (Ff (Gf (Ar JC (by exact hg) (hr.mono (by decide)) rfl c.Jl CV.kp JK (fun _ _ _ _ _ _ _ h => h.elim) (ea_cons (v 0) (ea_cons (v 1) ea_nil)) (Ab (Ab Ag))))) (Ak (ZD rfl tk (c.IW w base 0) (hr.mono (by decide)) rfl (v 1))) Cq)
  (Ak (Ba (v 1)))))
def Ry : SF := (sRet (Ao true OD (Aa (Ao true CK (Aa (vT 0) aNil)) aNil)))
def ZV : List Va → M Va := runF 1 Ry
def Qe : List Va → M Va := fun ds => noX (ZV ds)
theorem aaW : FnScope ["machine"] ["machine"] (defScope Jb) := ⟨rfl, rfl, rfl, by decide +kernel, rfl, by decide +kernel, by decide +kernel⟩
theorem abn {P : Program} {w : World} {K : PySem.W.Frag} {mg : Str → Option Value} {base : Heap} {f : Addr} {fd : FuncData} (c : Fx P K mg) (D : FnP K "single" Jb f fd) : FnD P w K mg base (L2.CX P w) 5 f fd ["machine"] ZV := by
 obtain ⟨Xj, OJ⟩ := c.Uc
 have YM := W0 (P := P) (w := w) (base := base) c OJ
 have YT : Binds K Xj ["machine"] [] := OJ.bindsN (ps := ["machine"]) fun _ _ _ _ _ _ us hl => match us, hl with | [_], _ => rfl
 obtain ⟨Ay, Am⟩ := c.Ed
 have Az := Et (P := P) (w := w) (base := base) c Am
 have HQ : FnD P w K mg base CX0 4 (He.ga K "need_machine") Ay ["thing"] Fo := Gx Az
 have Cp : Binds K Ay ["thing"] [] := Am.bindsN (ps := ["thing"]) fun _ _ _ _ _ _ us hl => match us, hl with | [_], _ => rfl
 refine Ou (N := ["machine"]) (g := Ry) D aaW fun cdv A outer s H E hg hr tk => ?_
 unfold Ry
 exact (Ak (Ba (Ar YM (by exact hg) (hr.mono (by decide)) rfl c.Tn OJ.kp YT (fun _ _ _ _ _ _ _ h => h.elim) (ea_cons (Ar Az (by exact hg) (hr.mono (by decide)) rfl c.Ec Am.kp Cp (Ql tk) (ea_cons (v 0) ea_nil) (Ab Ag)) ea_nil) (Ab Ag))))
def V4 : SF := (sRet (Ao true QK (Aa (Ao true CK (Aa (vT 0) aNil)) aNil)))
def acs : List Va → M Va := runF 1 V4
def RL : List Va → M Va := fun ds => noX (acs ds)
theorem acG : FnScope ["machine"] ["machine"] (defScope La) := ⟨rfl, rfl, rfl, by decide +kernel, rfl, by decide +kernel, by decide +kernel⟩
theorem acX {P : Program} {w : World} {K : PySem.W.Frag} {mg : Str → Option Value} {base : Heap} {f : Addr} {fd : FuncData} (c : Fx P K mg) (D : FnP K "whole" La f fd) : FnD P w K mg base (L2.CX P w) 5 f fd ["machine"] acs := by
 obtain ⟨Yy, QL⟩ := c.Vl
 have aaA := Yi (P := P) (w := w) (base := base) c QL
 have aaC : Binds K Yy ["machine"] [] := QL.bindsN (ps := ["machine"]) fun _ _ _ _ _ _ us hl => match us, hl with | [_], _ => rfl
 obtain ⟨Ay, Am⟩ := c.Ed
 have Az := Et (P := P) (w := w) (base := base) c Am
 have HQ : FnD P w K mg base CX0 4 (He.ga K "need_machine") Ay ["thing"] Fo := Gx Az
 have Cp : Binds K Ay ["thing"] [] := Am.bindsN (ps := ["thing"]) fun _ _ _ _ _ _ us hl => match us, hl with | [_], _ => rfl
 refine Ou (N := ["machine"]) (g := V4) D acG fun cdv A outer s H E hg hr tk => ?_
 unfold V4
 exact (Ak (Ba (Ar aaA (by exact hg) (hr.mono (by decide)) rfl c.Vb QL.kp aaC (fun _ _ _ _ _ _ _ h => h.elim) (ea_cons (Ar Az (by exact hg) (hr.mono (by decide)) rfl c.Ec Am.kp Cp (Ql tk) (ea_cons (v 0) ea_nil) (Ab Ag)) ea_nil) (Ab Ag))))
def HD : SF := (sSeq (aab (Ao true CK (Aa (vT 0) aNil)))
 (sSeq (sAsg (cN BR (Aa (cN Bg (Aa (kC (.int 0)) aNil)) aNil)) (gN 1))
 (sSeq (sFor (lN Jg (Aa (c2 gSub (Ao true KY (Aa (vT 0) aNil)) (kC (.int 1))) aNil)) (gN 2) (sAsg (fD (lcA2 (lSeq (vT 1)) (gN 3) bYes (lN Jg (Aa (c2 gAdd (cN (on1 hMax) (Aa (vT 3) aNil)) (kC (.int 2))) aNil)) (gN 4) bYes (cN Bg (aaz (vT 3) (Aa (vT 4) aNil))) [3, 4] [4])) (gN 1)))
 (sRet (cN (on1 hTup) (Aa (vT 1) aNil))))))
def Og : List Va → M Va := runF 5 HD
def BW : List Va → M Va := fun ds => noX (Og ds)
theorem Dr : FnScope ["machine", "rows", "turn", "row", "block"] ["machine"] (defScope Cj) := ⟨rfl, rfl, rfl, by decide +kernel, rfl, by decide +kernel, by decide +kernel⟩
theorem Mr {P : Program} {w : World} {K : PySem.W.Frag} {mg : Str → Option Value} {base : Heap} {f : Addr} {fd : FuncData} (c : Fx P K mg) (D : FnP K "all_partings" Cj f fd) : FnD P w K mg base (L2.CX P w) 5 f fd ["machine"] Og := by
 obtain ⟨Ay, Am⟩ := c.Ed
 have Az := Et (P := P) (w := w) (base := base) c Am
 have HQ : FnD P w K mg base CX0 4 (He.ga K "need_machine") Ay ["thing"] Fo := Gx Az
 have Cp : Binds K Ay ["thing"] [] := Am.bindsN (ps := ["thing"]) fun _ _ _ _ _ _ us hl => match us, hl with | [_], _ => rfl
 obtain ⟨Hj, CT⟩ := c.M3
 have JB := Nk (P := P) (w := w) (base := base) c CT
 have JH : Binds K Hj ["machine"] [] := CT.bindsN (ps := ["machine"]) fun _ _ _ _ _ _ us hl => match us, hl with | [_], _ => rfl
 refine Ou (N := ["machine", "rows", "turn", "row", "block"]) (g := HD) D Dr fun cdv A outer s H E hg hr tk => ?_
 unfold HD
 exact (Ae (YB (Ar Az (by exact hg) (hr.mono (by decide)) rfl c.Ec Am.kp Cp (Ql tk) (ea_cons (v 0) ea_nil) (Ab Ag)))
  (Ae (BX (i := 1) Dr.nd rfl (by first | exact Or.inl rfl | exact Or.inr rfl) (FW (ea_cons (BV (ea_cons Ac ea_nil)) ea_nil)))
  (Ae (Ih (L2.passes_of rfl) rfl (Dh rfl c.b_range (ea_cons (e_op op_sub JP (Ar JB (by exact hg) (hr.mono (by decide)) rfl c.Mw CT.kp JH (fun _ _ _ _ _ _ _ h => h.elim) (ea_cons (v 0) ea_nil) (Ab Ag)) Ac) ea_nil)) (gn 2 Dr.nd) (Ak (abX (aeG (own := [("row", 3), ("block", 4)]) (i := 1) rfl Dr.nd rfl rfl (sw_true rfl rfl rfl rfl) (vs1 := [4]) (Ky (v 1)) (blkOk_by (by rfl)) (by decide) (by decide) (by decide) (fun _ _ _ _ _ => (gn 3 Dr.nd)) (fun _ _ _ _ _ => Ke) (fun _ _ _ _ _ => (Dh rfl c.b_range (ea_cons (e_op Bu Be (Ax (QD rfl (by exact hr.units)) Nh rfl c.b_max (by decide +kernel) (ea_cons (v 3) ea_nil)) Ac) ea_nil))) (fun _ _ _ _ _ => (gn 4 Dr.nd)) (fun _ _ _ _ _ => Ke) (fun _ _ _ _ _ => (BV (ab3 (v 3) (ea_cons (v 4) ea_nil))))))))
  (Ak (Ba (Bs call_tuple_of CN rfl c.b_tuple (by decide +kernel) (ea_cons (v 1) ea_nil)))))))
def Rz : SF := (sRet (cN (on1 hTup) (Aa (fD (lcA (lSeq (Ao true JF (Aa (Ao true Gk (Aa (vT 0) (Aa (vT 1) aNil))) aNil))) (gN 2) bYes (cN (on1 hTup) (Aa (vT 2) aNil)) [2])) aNil)))
def ZW : List Va → M Va := runF 3 Rz
def KR : List Va → M Va := fun ds => noX (ZW ds)
theorem R6 : FnScope ["machine", "parting", "block"] ["machine", "parting"] (defScope Jc) := ⟨rfl, rfl, rfl, by decide +kernel, rfl, by decide +kernel, by decide +kernel⟩
theorem W4 {P : Program} {w : World} {K : PySem.W.Frag} {mg : Str → Option Value} {base : Heap} {f : Addr} {fd : FuncData} (c : Fx P K mg) (D : FnP K "blocks" Jc f fd) : FnD P w K mg base (L2.CX P w) 6 f fd ["machine", "parting"] ZW := by
 obtain ⟨Xl, O2⟩ := c.Ud
 have YQ := W3 (P := P) (w := w) (base := base) c O2
 have YW : Binds K Xl ["parting"] [] := O2.bindsN (ps := ["parting"]) fun _ _ _ _ _ _ us hl => match us, hl with | [_], _ => rfl
 obtain ⟨MK, Km⟩ := c.Oa
 have M7 := SJ (P := P) (w := w) (base := base) c Km
 have acw : FnD P w K mg base CX0 5 (He.ga K "need_parting") MK ["machine", "parting"] Uq := Gx M7
 have UT : Binds K MK ["machine", "parting"] [] := Km.bindsN (ps := ["machine", "parting"]) fun _ _ _ _ _ _ us hl => match us, hl with | [_, _], _ => rfl
 refine Ou (N := ["machine", "parting", "block"]) (g := Rz) D R6 fun cdv A outer s H E hg hr tk => ?_
 unfold Rz
 exact (Ak (Ba (Bs call_tuple_of CN rfl c.b_tuple (by decide +kernel) (ea_cons (Ju (MT (own := [("block", 2)]) rfl R6.nd (Ky (Ar YQ (by exact hg) (hr.mono (by decide)) rfl c.Tq O2.kp YW (fun _ _ _ _ _ _ _ h => h.elim) (ea_cons (Ar M7 (by exact hg) (hr.mono (by decide)) rfl c.N6 Km.kp UT (Ql tk) (ea_cons (v 0) (ea_cons (v 1) ea_nil)) (Ab (Ab Ag))) ea_nil) (Ab Ag))) (blkOk_by (by rfl)) (by decide) (fun _ _ _ _ _ => (gn 2 R6.nd)) (fun _ _ _ _ _ => Ke) (fun _ _ _ _ _ => (Bs call_tuple_of CN rfl c.b_tuple (by decide +kernel) (ea_cons (v 2) ea_nil))))) ea_nil))))
def FQ : SF := (sSeq (sAsg (cN (on1 Ez) (Aa (c2 gIx (vT 0) (kC (.int 0))) aNil)) (gN 1))
 (sSeq (sAsg (cN BR (Aa (Ao true Qe (Aa (vT 0) aNil)) (Aa (Ao true RL (Aa (vT 0) aNil)) (Aa (Ao true Qe (Aa (vT 0) aNil)) (Aa (Ao true RL (Aa (vT 0) aNil)) aNil))))) (gN 2))
 (sSeq (sIf (bV (c2 gNe (cN (on1 GJ) (Aa (vT 2) aNil)) (cN (on1 GJ) (Aa (c2 gMul (cN BR (Aa (c1 gTRg (vT 1)) (Aa (c2 gMul (cN Bg (Aa (kC (.int 0)) aNil)) (vT 1)) aNil))) (kC (.int 2))) aNil)))) (sRet (kC (.bool false))) sNil)
 (sSeq (sIf (bV (c2 gGt (vT 1) (kC (.int 6)))) (sRet (kC (.bool true))) sNil)
 (sSeq (sAsg (cN (on1 hTup) (Aa (Ao true Hl (Aa (vT 1) aNil)) aNil)) (gN 3))
 (sRet (c2 gEq (cN (on1 GJ) (Aa (cN BR (Aa (Ao true BW (Aa (vT 0) aNil)) (Aa (Ao true BW (Aa (vT 0) aNil)) aNil))) aNil)) (cN (on1 GJ) (Aa (cN BR (Aa (vT 3) (Aa (vT 3) aNil))) aNil)))))))))
def FZ : List Va → M Va := fun ds => noX (runF 4 FQ ds)
theorem Ei : FnScope ["frame", "many", "told_so", "every"] ["frame"] (defScope Bp) := ⟨rfl, rfl, rfl, by decide +kernel, rfl, by decide +kernel, by decide +kernel⟩
theorem Pb {P : Program} {w : World} {K : PySem.W.Frag} {mg : Str → Option Value} {base : Heap} {f : Addr} {fd : FuncData} (c : Fx P K mg) (D : FnP K "_law_ends_right" Bp f fd) : FnD P w K mg base CX0 6 f fd ["frame"] FZ := by
 obtain ⟨ZC, Wt⟩ := c.ab6
 have adJ := acX (P := P) (w := w) (base := base) c Wt
 have acq : FnD P w K mg base CX0 5 (He.ga K "whole") ZC ["machine"] RL := Gx adJ
 have acu : Binds K ZC ["machine"] [] := Wt.bindsN (ps := ["machine"]) fun _ _ _ _ _ _ us hl => match us, hl with | [_], _ => rfl
 obtain ⟨Xk, RM⟩ := c.ZK
 have acp := abn (P := P) (w := w) (base := base) c RM
 have ZS : FnD P w K mg base CX0 5 (He.ga K "single") Xk ["machine"] Qe := Gx acp
 have ZZ : Binds K Xk ["machine"] [] := RM.bindsN (ps := ["machine"]) fun _ _ _ _ _ _ us hl => match us, hl with | [_], _ => rfl
 obtain ⟨PN, Hn⟩ := c.KD
 have QJ := Pg (P := P) (w := w) (base := base) c Hn
 have QR : Binds K PN ["many"] [] := Hn.bindsN (ps := ["many"]) fun _ _ _ _ _ _ us hl => match us, hl with | [_], _ => rfl
 obtain ⟨Fb, Cm⟩ := c.Kf
 have Jz := Mr (P := P) (w := w) (base := base) c Cm
 have Gj : FnD P w K mg base CX0 5 (He.ga K "all_partings") Fb ["machine"] BW := Gx Jz
 have Gn : Binds K Fb ["machine"] [] := Cm.bindsN (ps := ["machine"]) fun _ _ _ _ _ _ us hl => match us, hl with | [_], _ => rfl
 refine CQ (N := ["frame", "many", "told_so", "every"]) (g := FQ) D Ei fun cdv A outer s H E hg hr => ?_
 unfold FQ
 exact (Ae (BX (i := 1) Ei.nd rfl (by first | exact Or.inl rfl | exact Or.inr rfl) (Ax Do Bt rfl c.b_len (by decide +kernel) (ea_cons (e_ix (v 0) Ac) ea_nil)))
  (Ae (BX (i := 2) Ei.nd rfl (by first | exact Or.inl rfl | exact Or.inr rfl) (FW (ea_cons (Ar ZS (by exact hg) (hr.mono (by decide)) rfl c.VN RM.kp ZZ (fun _ _ _ _ _ _ _ h => h.elim) (ea_cons (v 0) ea_nil) (Ab Ag)) (ea_cons (Ar acq (by exact hg) (hr.mono (by decide)) rfl c.Yo Wt.kp acu (fun _ _ _ _ _ _ _ h => h.elim) (ea_cons (v 0) ea_nil) (Ab Ag)) (ea_cons (Ar ZS (by exact hg) (hr.mono (by decide)) rfl c.VN RM.kp ZZ (fun _ _ _ _ _ _ _ h => h.elim) (ea_cons (v 0) ea_nil) (Ab Ag)) (ea_cons (Ar acq (by exact hg) (hr.mono (by decide)) rfl c.Yo Wt.kp acu (fun _ _ _ _ _ _ _ h => h.elim) (ea_cons (v 0) ea_nil) (Ab Ag)) ea_nil))))))
  (Ae (Fe (Di (JQ (by exact hr.units)) Hf (Ax (El c.sys (by exact hg) (by exact hr.units)) Cv rfl c.b_repr (by decide +kernel) (ea_cons (v 2) ea_nil)) (Ax (El c.sys (by exact hg) (by exact hr.units)) Cv rfl c.b_repr (by decide +kernel) (ea_cons (e_op Gg CG (FW (ea_cons (YC rfl rfl c.b_tuple rfl c.b_range (v 1)) (ea_cons (e_op Gg CG (BV (ea_cons Ac ea_nil)) (v 1)) ea_nil))) Ac) ea_nil)) (nomark _)) (Ak (Ba e_bl)) Cq)
  (Ae (Fe (Di op_gt abe (v 1) Ac (nomark _)) (Ak (Ba e_bl)) Cq)
  (Ae (BX (i := 3) Ei.nd rfl (by first | exact Or.inl rfl | exact Or.inr rfl) (Bs call_tuple_of CN rfl c.b_tuple (by decide +kernel) (ea_cons (Ar QJ (by exact hg) (hr.mono (by decide)) rfl c.Kv Hn.kp QR (fun _ _ _ _ _ _ _ h => h.elim) (ea_cons (v 1) ea_nil) (Ab Ag)) ea_nil)))
  (Ak (Ba (Xp (Jj (by exact hr.units)) pure_eq (Ax (El c.sys (by exact hg) (by exact hr.units)) Cv rfl c.b_repr (by decide +kernel) (ea_cons (FW (ea_cons (Ar Gj (by exact hg) (hr.mono (by decide)) rfl c.Gh Cm.kp Gn (fun _ _ _ _ _ _ _ h => h.elim) (ea_cons (v 0) ea_nil) (Ab Ag)) (ea_cons (Ar Gj (by exact hg) (hr.mono (by decide)) rfl c.Gh Cm.kp Gn (fun _ _ _ _ _ _ _ h => h.elim) (ea_cons (v 0) ea_nil) (Ab Ag)) ea_nil))) ea_nil)) (Ax (El c.sys (by exact hg) (by exact hr.units)) Cv rfl c.b_repr (by decide +kernel) (ea_cons (FW (ea_cons (v 3) (ea_cons (v 3) ea_nil))) ea_nil)) (nomark _)))))))))
def JZ : SF := (sSeq (sPar (oE (cN (on1 GJ) (Aa (cN BR (Aa (vT 0) (Aa (vT 1) aNil))) aNil))) (oE (Ao true Bl (Aa (cN (on1 Ez) (Aa (c2 gIx (vT 0) (kC (.int 0))) aNil)) (Aa (vT 1) aNil)))) 2 3)
 (sSeq (sAsg (cN BR (Aa (Ao true Bx (Aa (vT 0) (Aa (vT 1) aNil))) (Aa (Ao true Bx (Aa (vT 0) (Aa (vT 1) aNil))) aNil))) (gN 4))
 (sSeq (sIf (bV (c2 gNe (cN (on1 GJ) (Aa (vT 4) aNil)) (cN (on1 GJ) (Aa (cN BR (Aa (vT 3) (Aa (vT 3) aNil))) aNil)))) (sRet (kC (.bool false))) sNil)
 (sSeq (sIf (bV (vT 3)) (sSeq (sAsg (cN (on1 hTup) (Aa (fD (lcA (lSeq (Ao true Gm (Aa (vT 1) aNil))) (gN 6) bYes (cN (on1 hTup) (Aa (vT 6) aNil)) [6])) aNil)) (gN 5))
 (sIf (bV (c2 gNe (cN (on1 GJ) (Aa (cN BR (Aa (Ao true KR (Aa (vT 0) (Aa (vT 1) aNil))) (Aa (Ao true KR (Aa (vT 0) (Aa (vT 1) aNil))) aNil))) aNil)) (cN (on1 GJ) (Aa (cN BR (Aa (vT 5) (Aa (vT 5) aNil))) aNil)))) (sRet (kC (.bool false))) sNil)) sNil)
 (sRet (c2 gEq (cN (on1 GJ) (Aa (cN BR (Aa (vT 0) (Aa (vT 1) aNil))) aNil)) (vT 2)))))))
def Fp : List Va → M Va := fun ds => noX (runF 7 JZ ds)
theorem Ft : FnScope ["frame", "thing", "kept_so", "due", "told_so", "lots_so", "one"] ["frame", "thing"] (defScope Dd) := ⟨rfl, rfl, rfl, by decide +kernel, rfl, by decide +kernel, by decide +kernel⟩
theorem O9 {P : Program} {w : World} {K : PySem.W.Frag} {mg : Str → Option Value} {base : Heap} {f : Addr} {fd : FuncData} (c : Fx P K mg) (D : FnP K "_law_right" Dd f fd) : FnD P w K mg base CX0 7 f fd ["frame", "thing"] Fp := by
 obtain ⟨Iu, CW⟩ := c.Jw
 have JD := Lw (P := P) (w := w) (base := base) c CW
 have JL : Binds K Iu ["many", "thing"] [] := CW.bindsN (ps := ["many", "thing"]) fun _ _ _ _ _ _ us hl => match us, hl with | [_, _], _ => rfl
 obtain ⟨Dg, BJ⟩ := c.J9
 have G9 := Ld (P := P) (w := w) (base := base) c BJ
 have Fj : FnD P w K mg base CX0 5 (He.ga K "is_parting") Dg ["machine", "value"] Bx := Gx G9
 have Fq : Binds K Dg ["machine", "value"] [] := BJ.bindsN (ps := ["machine", "value"]) fun _ _ _ _ _ _ us hl => match us, hl with | [_, _], _ => rfl
 obtain ⟨T7, Ko⟩ := c.Oc
 have UJ := SM (P := P) (w := w) (base := base) c Ko
 have UV : Binds K T7 ["sheet"] [] := Ko.bindsN (ps := ["sheet"]) fun _ _ _ _ _ _ us hl => match us, hl with | [_], _ => rfl
 obtain ⟨MN, Kc⟩ := c.We
 have Um := W4 (P := P) (w := w) (base := base) c Kc
 have RK : FnD P w K mg base CX0 6 (He.ga K "blocks") MN ["machine", "parting"] KR := Gx Um
 have RN : Binds K MN ["machine", "parting"] [] := Kc.bindsN (ps := ["machine", "parting"]) fun _ _ _ _ _ _ us hl => match us, hl with | [_, _], _ => rfl
 refine CQ (N := ["frame", "thing", "kept_so", "due", "told_so", "lots_so", "one"]) (g := JZ) D Ft fun cdv A outer s H E hg hr => ?_
 unfold JZ
 exact (Ae (Vj (i := 2) (j := 3) rfl Ft.nd rfl rfl (by decide) rfl rfl (eo_e (Ax (El c.sys (by exact hg) (by exact hr.units)) Cv rfl c.b_repr (by decide +kernel) (ea_cons (FW (ea_cons (v 0) (ea_cons (v 1) ea_nil))) ea_nil))) (eo_e (Ar JD (by exact hg) (hr.mono (by decide)) rfl c.Jm CW.kp JL (fun _ _ _ _ _ _ _ h => h.elim) (ea_cons (Ax Do Bt rfl c.b_len (by decide +kernel) (ea_cons (e_ix (v 0) Ac) ea_nil)) (ea_cons (v 1) ea_nil)) (Ab (Ab Ag)))) (by rfl))
  (Ae (BX (i := 4) Ft.nd rfl (by first | exact Or.inl rfl | exact Or.inr rfl) (FW (ea_cons (Ar Fj (by exact hg) (hr.mono (by decide)) rfl c.GD BJ.kp Fq (fun _ _ _ _ _ _ _ h => h.elim) (ea_cons (v 0) (ea_cons (v 1) ea_nil)) (Ab (Ab Ag))) (ea_cons (Ar Fj (by exact hg) (hr.mono (by decide)) rfl c.GD BJ.kp Fq (fun _ _ _ _ _ _ _ h => h.elim) (ea_cons (v 0) (ea_cons (v 1) ea_nil)) (Ab (Ab Ag))) ea_nil))))
  (Ae (Fe (Di (JQ (by exact hr.units)) Hf (Ax (El c.sys (by exact hg) (by exact hr.units)) Cv rfl c.b_repr (by decide +kernel) (ea_cons (v 4) ea_nil)) (Ax (El c.sys (by exact hg) (by exact hr.units)) Cv rfl c.b_repr (by decide +kernel) (ea_cons (FW (ea_cons (v 3) (ea_cons (v 3) ea_nil))) ea_nil)) (nomark _)) (Ak (Ba e_bl)) Cq)
  (Ae (Fe (Gf (v 3)) (Ae (BX (i := 5) Ft.nd rfl (by first | exact Or.inl rfl | exact Or.inr rfl) (Bs call_tuple_of CN rfl c.b_tuple (by decide +kernel) (ea_cons (Ju (MT (own := [("one", 6)]) rfl Ft.nd (Ky (Ar UJ (by exact hg) (hr.mono (by decide)) rfl c.N7 Ko.kp UV (fun _ _ _ _ _ _ _ h => h.elim) (ea_cons (v 1) ea_nil) (Ab Ag))) (blkOk_by (by rfl)) (by decide) (fun _ _ _ _ _ => (gn 6 Ft.nd)) (fun _ _ _ _ _ => Ke) (fun _ _ _ _ _ => (Bs call_tuple_of CN rfl c.b_tuple (by decide +kernel) (ea_cons (v 6) ea_nil))))) ea_nil)))
  (Ak (Fe (Di (JQ (by exact hr.units)) Hf (Ax (El c.sys (by exact hg) (by exact hr.units)) Cv rfl c.b_repr (by decide +kernel) (ea_cons (FW (ea_cons (Ar RK (by exact hg) (hr.mono (by decide)) rfl c.Rw Kc.kp RN (fun _ _ _ _ _ _ _ h => h.elim) (ea_cons (v 0) (ea_cons (v 1) ea_nil)) (Ab (Ab Ag))) (ea_cons (Ar RK (by exact hg) (hr.mono (by decide)) rfl c.Rw Kc.kp RN (fun _ _ _ _ _ _ _ h => h.elim) (ea_cons (v 0) (ea_cons (v 1) ea_nil)) (Ab (Ab Ag))) ea_nil))) ea_nil)) (Ax (El c.sys (by exact hg) (by exact hr.units)) Cv rfl c.b_repr (by decide +kernel) (ea_cons (FW (ea_cons (v 5) (ea_cons (v 5) ea_nil))) ea_nil)) (nomark _)) (Ak (Ba e_bl)) Cq))) Cq)
  (Ak (Ba (Xp (Jj (by exact hr.units)) pure_eq (Ax (El c.sys (by exact hg) (by exact hr.units)) Cv rfl c.b_repr (by decide +kernel) (ea_cons (FW (ea_cons (v 0) (ea_cons (v 1) ea_nil))) ea_nil)) (v 2) (nomark _))))))))
def Dy : SF := (sSeq (sAsg (cN BR (Aa (kC (.int 1)) (Aa (kC (.int 2)) (Aa (kC (.int 5)) (Aa (kC (.int 15)) (Aa (kC (.int 52)) (Aa (kC (.int 203)) (Aa (kC (.int 877)) (Aa (kC (.int 4140)) aNil))))))))) (gN 0))
 (sSeq (sFor (lN afc (Aa (kC (.int 1)) (Aa (kC (.int 9)) aNil))) (gN 1) (sSeq (sAsg (cN Bg (Aa (cN (on1 hTup) (Aa (c2 gMul (cN BR (Aa (cN Bg (Aa (kC (.int 0)) aNil)) aNil)) (vT 1)) aNil)) (Aa (c2 gMul (cN Bg (Aa (kC (.int 0)) aNil)) (vT 1)) aNil))) (gN 6))
 (sSeq (sAsg (Ao true BW (Aa (vT 6) aNil)) (gN 7))
 (sSeq (sIf (bOr (bNot (bV (c1 (gIsi "tuple") (vT 7)))) (bOr (bV (c2 gNe (cN (on1 Ez) (Aa (vT 7) aNil)) (c2 gIx (vT 0) (c2 gSub (vT 1) (kC (.int 1)))))) (bV (c2 gNe (cN (on1 Xf) (Aa (vT 7) aNil)) (cN (on1 Q5) (Aa (vT 7) aNil)))))) (sRet (kC (.bool false))) sNil)
 (sSeq (sIf (bV (c2 gNe (fD (lcA (lSeq (vT 7)) (gN 8) (bNot (bV (Ao true Bl (Aa (vT 1) (Aa (vT 8) aNil))))) (vT 8) [8])) (cN BR aNil))) (sRet (kC (.bool false))) sNil)
 (sIf (bV (c2 gNe (cN (on1 GJ) (Aa (cN BR (Aa (c2 gIx (vT 7) (kC (.int 0))) (Aa (c2 gIx (vT 7) (c1 gNeg (kC (.int 1)))) aNil))) aNil)) (cN (on1 GJ) (Aa (cN BR (Aa (c2 gMul (cN Bg (Aa (kC (.int 0)) aNil)) (vT 1)) (Aa (c1 gTRg (vT 1)) aNil))) aNil)))) (sRet (kC (.bool false))) sNil))))))
 (sSeq (sAsg (cN Bg (Aa (cN Bg (Aa (cN Bg (Aa (cN Bg (Aa (kC (.int 0)) aNil)) (Aa (cN Bg (Aa (kC (.int 0)) aNil)) (Aa (cN Bg (Aa (kC (.int 0)) aNil)) aNil)))) (Aa (cN Bg (Aa (kC (.int 0)) (Aa (kC (.int 0)) (Aa (kC (.int 0)) aNil)))) aNil))) (Aa (cN Bg (Aa (cN Bg (Aa (cN Bg (Aa (kC (.int 0)) aNil)) (Aa (cN Bg (Aa (kC (.int 0)) aNil)) (Aa (cN Bg (Aa (kC (.int 0)) aNil)) (Aa (cN Bg (Aa (kC (.int 1)) aNil)) aNil))))) (Aa (cN Bg (Aa (kC (.int 0)) (Aa (kC (.int 0)) (Aa (kC (.int 0)) (Aa (kC (.int 0)) aNil))))) aNil))) aNil))) (gT [(gN 2), (gN 3)]))
 (sSeq (sIf (bV (c2 gNe (cN (on1 GJ) (Aa (Ao true BW (Aa (vT 2) aNil)) aNil)) (cN (on1 GJ) (Aa (cN Bg (Aa (cN Bg (Aa (kC (.int 0)) (Aa (kC (.int 0)) (Aa (kC (.int 0)) aNil)))) (Aa (cN Bg (Aa (kC (.int 0)) (Aa (kC (.int 0)) (Aa (kC (.int 1)) aNil)))) (Aa (cN Bg (Aa (kC (.int 0)) (Aa (kC (.int 1)) (Aa (kC (.int 0)) aNil)))) (Aa (cN Bg (Aa (kC (.int 0)) (Aa (kC (.int 1)) (Aa (kC (.int 1)) aNil)))) (Aa (cN Bg (Aa (kC (.int 0)) (Aa (kC (.int 1)) (Aa (kC (.int 2)) aNil)))) aNil)))))) aNil)))) (sRet (kC (.bool false))) sNil)
 (sSeq (sAsg (cN BR (Aa (cN Bg (Aa (kC (.int 0)) (Aa (kC (.int 0)) (Aa (kC (.int 2)) (Aa (kC (.int 1)) aNil))))) (Aa (cN Bg (Aa (kC (.int 1)) (Aa (kC (.int 0)) (Aa (kC (.int 0)) (Aa (kC (.int 0)) aNil))))) (Aa (cN Bg (Aa (kC (.int 0)) (Aa (kC (.int 2)) (Aa (kC (.int 1)) (Aa (kC (.int 0)) aNil))))) (Aa (cN Bg (Aa (kC (.int 0)) (Aa (kC (.int 1)) (Aa (kC (.int 0)) aNil)))) (Aa (cN Bg (Aa (kC (.int 0)) (Aa (kC (.int 1)) (Aa (kC (.int 0)) (Aa (kC (.int 1)) (Aa (kC (.int 0)) aNil)))))) (Aa (cN Bg (Aa (kC (.int 0)) (Aa (kC (.bool true)) (Aa (kC (.int 0)) (Aa (kC (.int 1)) aNil))))) (Aa (cN Bg (Aa (kC (.int 0)) (Aa (kC (.int 0)) (Aa (kC (.int 0)) (Aa (c1 gNeg (kC (.int 1))) aNil))))) aNil)))))))) (gN 4))
 (sSeq (sAsg (c2 gAdd (vT 4) (cN BR (Aa (kC .none) (Aa (cN BR (Aa (kC (.int 0)) (Aa (kC (.int 1)) (Aa (kC (.int 0)) (Aa (kC (.int 1)) aNil))))) (Aa (kC (.str "0101")) (Aa (cN gD0 aNil) (Aa (kC (.int 0)) (Aa (cN Bg aNil) (Aa (cN Bg (Aa (cN Bg (Aa (kC (.int 0)) aNil)) (Aa (kC (.int 1)) (Aa (kC (.int 0)) (Aa (kC (.int 1)) aNil))))) (Aa (cN Bg (Aa (kC (.int 0)) (Aa (kC (.int 1)) (Aa (cN BR aNil) (Aa (kC (.int 1)) aNil))))) (Aa (cN Bg (Aa (cN gD0 aNil) (Aa (kC (.int 0)) (Aa (kC (.int 0)) (Aa (kC (.int 0)) aNil))))) aNil))))))))))) (gN 4))
 (sSeq (sFor (lSeq (c2 gAdd (vT 4) (cN BR (Aa (cN Bg (Aa (kC (.bool false)) (Aa (kC (.int 0)) (Aa (kC (.int 0)) (Aa (kC (.int 0)) aNil))))) (Aa (cN Bg (Aa (kC (.int 0)) (Aa (kC (.int 1)) (Aa (kC (.int 2)) (Aa (kC (.int 4)) aNil))))) (Aa (cN Bg (Aa (kC (.int 0)) (Aa (kC (.int 0)) (Aa (kC (.int 0)) (Aa (kC (.str "0")) aNil))))) aNil)))))) (gN 5) (sIf (bOr (bNot (bV (Ao true Fp (Aa (vT 3) (Aa (vT 5) aNil))))) (bV (c2 adg (Ao true Bx (Aa (vT 3) (Aa (vT 5) aNil))) (kC (.bool false))))) (sRet (kC (.bool false))) sNil))
 (sSeq (sIf (bNot (bV (Ao true Fp (Aa (vT 3) (Aa (cN Bg (Aa (kC (.int 0)) (Aa (kC (.int 1)) (Aa (kC (.int 1)) (Aa (kC (.int 2)) aNil))))) aNil))))) (sRet (kC (.bool false))) sNil)
 (sRet (eAnd (c2 gEq (Ao true KR (Aa (vT 3) (Aa (cN Bg (Aa (kC (.int 0)) (Aa (kC (.int 1)) (Aa (kC (.int 0)) (Aa (kC (.int 2)) aNil))))) aNil))) (cN Bg (Aa (cN Bg (Aa (kC (.int 0)) (Aa (kC (.int 2)) aNil))) (Aa (cN Bg (Aa (kC (.int 1)) aNil)) (Aa (cN Bg (Aa (kC (.int 3)) aNil)) aNil))))) (c2 gIsB (Ao true Bx (Aa (vT 3) (Aa (cN Bg (Aa (kC (.int 0)) (Aa (kC (.int 1)) (Aa (kC (.int 2)) (Aa (kC (.int 0)) aNil))))) aNil))) (kC (.bool true)))))))))))))
def Hk : List Va → M Va := fun ds => noX (runF 9 Dy ds)
theorem Av : FnScope ["counts", "many", "three", "four", "odds", "thing", "frame", "every", "sheet"] [] (defScope Bo) := ⟨rfl, rfl, rfl, by decide +kernel, rfl, by decide +kernel, by decide +kernel⟩
theorem Pa {P : Program} {w : World} {K : PySem.W.Frag} {mg : Str → Option Value} {base : Heap} {f : Addr} {fd : FuncData} (c : Fx P K mg) (D : FnP K "_law_hand_right" Bo f fd) : FnD P w K mg base CX0 8 f fd [] Hk := by
 obtain ⟨Fb, Cm⟩ := c.Kf
 have Jz := Mr (P := P) (w := w) (base := base) c Cm
 have Gj : FnD P w K mg base CX0 5 (He.ga K "all_partings") Fb ["machine"] BW := Gx Jz
 have Gn : Binds K Fb ["machine"] [] := Cm.bindsN (ps := ["machine"]) fun _ _ _ _ _ _ us hl => match us, hl with | [_], _ => rfl
 obtain ⟨Iu, CW⟩ := c.Jw
 have JD := Lw (P := P) (w := w) (base := base) c CW
 have JL : Binds K Iu ["many", "thing"] [] := CW.bindsN (ps := ["many", "thing"]) fun _ _ _ _ _ _ us hl => match us, hl with | [_, _], _ => rfl
 obtain ⟨Lj, Dj⟩ := c.M4
 have Ik := O9 (P := P) (w := w) (base := base) c Dj
 have Il : Binds K Lj ["frame", "thing"] [] := Dj.bindsN (ps := ["frame", "thing"]) fun _ _ _ _ _ _ us hl => match us, hl with | [_, _], _ => rfl
 obtain ⟨Dg, BJ⟩ := c.J9
 have G9 := Ld (P := P) (w := w) (base := base) c BJ
 have Fj : FnD P w K mg base CX0 5 (He.ga K "is_parting") Dg ["machine", "value"] Bx := Gx G9
 have Fq : Binds K Dg ["machine", "value"] [] := BJ.bindsN (ps := ["machine", "value"]) fun _ _ _ _ _ _ us hl => match us, hl with | [_, _], _ => rfl
 obtain ⟨MN, Kc⟩ := c.We
 have Um := W4 (P := P) (w := w) (base := base) c Kc
 have RK : FnD P w K mg base CX0 6 (He.ga K "blocks") MN ["machine", "parting"] KR := Gx Um
 have RN : Binds K MN ["machine", "parting"] [] := Kc.bindsN (ps := ["machine", "parting"]) fun _ _ _ _ _ _ us hl => match us, hl with | [_, _], _ => rfl
 refine CQ (N := ["counts", "many", "three", "four", "odds", "thing", "frame", "every", "sheet"]) (g := Dy) D Av fun cdv A outer s H E hg hr => ?_
 unfold Dy
 exact (Ae (BX (i := 0) Av.nd rfl (by first | exact Or.inl rfl | exact Or.inr rfl) (FW (ea_cons Ac (ea_cons Ac (ea_cons Ac (ea_cons Ac (ea_cons Ac (ea_cons Ac (ea_cons Ac (ea_cons Ac ea_nil))))))))))
  (Ae (Ih PassesOwn.never rfl (ab2 rfl c.b_range (ea_cons Ac (ea_cons Ac ea_nil))) (gn 1 Av.nd) (Ae (BX (i := 6) Av.nd rfl (by first | exact Or.inl rfl | exact Or.inr rfl) (BV (ea_cons (Bs call_tuple_of CN rfl c.b_tuple (by decide +kernel) (ea_cons (e_op Gg CG (FW (ea_cons (BV (ea_cons Ac ea_nil)) ea_nil)) (v 1)) ea_nil)) (ea_cons (e_op Gg CG (BV (ea_cons Ac ea_nil)) (v 1)) ea_nil))))
  (Ae (BX (i := 7) Av.nd rfl (by first | exact Or.inl rfl | exact Or.inr rfl) (Ar Gj (by exact hg) (hr.mono (by decide)) rfl c.Gh Cm.kp Gn (fun _ _ _ _ _ _ _ h => h.elim) (ea_cons (v 6) ea_nil) (Ab Ag)))
  (Ae (Fe (eb_w (Qz (Ff (Gf (Ua (c := "tuple") rfl c.b_isinstance rfl c.b_tuple (by decide +kernel) (by decide) (v 7)))) (Qz (Di (JQ (by exact hr.units)) Hf (Ax Do Bt rfl c.b_len (by decide +kernel) (ea_cons (v 7) ea_nil)) (e_ix (v 0) (e_op op_sub JP (v 1) Ac)) (nomark _)) (MP (Di (JQ (by exact hr.units)) Hf (Bs call_list_of Ss rfl c.b_list (by decide +kernel) (ea_cons (v 7) ea_nil)) (afo rfl (by exact hr.units) rfl c.b_sorted rfl c.b_set (ea_cons (v 7) ea_nil)) (nomark _)))))) (Ak (Ba e_bl)) Cq)
  (Ae (Fe (Di (JQ (by exact hr.units)) Hf (Ju (MT (own := [("sheet", 8)]) rfl Av.nd (Ky (v 7)) (blkOk_by (by rfl)) (by decide) (fun _ _ _ _ _ => (gn 8 Av.nd)) (fun _ _ _ _ _ => (T9 (Ff (Gf (Ar JD (by exact hg) (hr.mono (by decide)) rfl c.Jm CW.kp JL (fun _ _ _ _ _ _ _ h => h.elim) (ea_cons (v 1) (ea_cons (v 8) ea_nil)) (Ab (Ab Ag))))))) (fun _ _ _ _ _ => (v 8)))) (FW ea_nil) (nomark _)) (Ak (Ba e_bl)) Cq)
  (Ak (Fe (Di (JQ (by exact hr.units)) Hf (Ax (El c.sys (by exact hg) (by exact hr.units)) Cv rfl c.b_repr (by decide +kernel) (ea_cons (FW (ea_cons (e_ix (v 7) Ac) (ea_cons (e_ix (v 7) (e_un un_neg Rp Ac)) ea_nil))) ea_nil)) (Ax (El c.sys (by exact hg) (by exact hr.units)) Cv rfl c.b_repr (by decide +kernel) (ea_cons (FW (ea_cons (e_op Gg CG (BV (ea_cons Ac ea_nil)) (v 1)) (ea_cons (YC rfl rfl c.b_tuple rfl c.b_range (v 1)) ea_nil))) ea_nil)) (nomark _)) (Ak (Ba e_bl)) Cq)))))))
  (Ae (agU (BV (ea_cons (BV (ea_cons (BV (ea_cons (BV (ea_cons Ac ea_nil)) (ea_cons (BV (ea_cons Ac ea_nil)) (ea_cons (BV (ea_cons Ac ea_nil)) ea_nil)))) (ea_cons (BV (ea_cons Ac (ea_cons Ac (ea_cons Ac ea_nil)))) ea_nil))) (ea_cons (BV (ea_cons (BV (ea_cons (BV (ea_cons Ac ea_nil)) (ea_cons (BV (ea_cons Ac ea_nil)) (ea_cons (BV (ea_cons Ac ea_nil)) (ea_cons (BV (ea_cons Ac ea_nil)) ea_nil))))) (ea_cons (BV (ea_cons Ac (ea_cons Ac (ea_cons Ac (ea_cons Ac ea_nil))))) ea_nil))) ea_nil))) (T8 rfl (Ek (gn 2 Av.nd) (Ek (gn 3 Av.nd) Ov))))
  (Ae (Fe (Di (JQ (by exact hr.units)) Hf (Ax (El c.sys (by exact hg) (by exact hr.units)) Cv rfl c.b_repr (by decide +kernel) (ea_cons (Ar Gj (by exact hg) (hr.mono (by decide)) rfl c.Gh Cm.kp Gn (fun _ _ _ _ _ _ _ h => h.elim) (ea_cons (v 2) ea_nil) (Ab Ag)) ea_nil)) (Ax (El c.sys (by exact hg) (by exact hr.units)) Cv rfl c.b_repr (by decide +kernel) (ea_cons (BV (ea_cons (BV (ea_cons Ac (ea_cons Ac (ea_cons Ac ea_nil)))) (ea_cons (BV (ea_cons Ac (ea_cons Ac (ea_cons Ac ea_nil)))) (ea_cons (BV (ea_cons Ac (ea_cons Ac (ea_cons Ac ea_nil)))) (ea_cons (BV (ea_cons Ac (ea_cons Ac (ea_cons Ac ea_nil)))) (ea_cons (BV (ea_cons Ac (ea_cons Ac (ea_cons Ac ea_nil)))) ea_nil)))))) ea_nil)) (nomark _)) (Ak (Ba e_bl)) Cq)
  (Ae (BX (i := 4) Av.nd rfl (by first | exact Or.inl rfl | exact Or.inr rfl) (FW (ea_cons (BV (ea_cons Ac (ea_cons Ac (ea_cons Ac (ea_cons Ac ea_nil))))) (ea_cons (BV (ea_cons Ac (ea_cons Ac (ea_cons Ac (ea_cons Ac ea_nil))))) (ea_cons (BV (ea_cons Ac (ea_cons Ac (ea_cons Ac (ea_cons Ac ea_nil))))) (ea_cons (BV (ea_cons Ac (ea_cons Ac (ea_cons Ac ea_nil)))) (ea_cons (BV (ea_cons Ac (ea_cons Ac (ea_cons Ac (ea_cons Ac (ea_cons Ac ea_nil)))))) (ea_cons (BV (ea_cons Ac (ea_cons e_bl (ea_cons Ac (ea_cons Ac ea_nil))))) (ea_cons (BV (ea_cons Ac (ea_cons Ac (ea_cons Ac (ea_cons (e_un un_neg Rp Ac) ea_nil))))) ea_nil)))))))))
  (Ae (BX (i := 4) Av.nd rfl (by first | exact Or.inl rfl | exact Or.inr rfl) (e_op Bu Be (v 4) (FW (ea_cons aau (ea_cons (FW (ea_cons Ac (ea_cons Ac (ea_cons Ac (ea_cons Ac ea_nil))))) (ea_cons afn (ea_cons e_d0 (ea_cons Ac (ea_cons (BV ea_nil) (ea_cons (BV (ea_cons (BV (ea_cons Ac ea_nil)) (ea_cons Ac (ea_cons Ac (ea_cons Ac ea_nil))))) (ea_cons (BV (ea_cons Ac (ea_cons Ac (ea_cons (FW ea_nil) (ea_cons Ac ea_nil))))) (ea_cons (BV (ea_cons e_d0 (ea_cons Ac (ea_cons Ac (ea_cons Ac ea_nil))))) ea_nil))))))))))))
  (Ae (Ih PassesOwn.never rfl (Ky (e_op Bu Be (v 4) (FW (ea_cons (BV (ea_cons e_bl (ea_cons Ac (ea_cons Ac (ea_cons Ac ea_nil))))) (ea_cons (BV (ea_cons Ac (ea_cons Ac (ea_cons Ac (ea_cons Ac ea_nil))))) (ea_cons (BV (ea_cons Ac (ea_cons Ac (ea_cons Ac (ea_cons afn ea_nil))))) ea_nil)))))) (gn 5 Av.nd) (Ak (Fe (eb_w (Qz (Ff (Gf (Ar Ik (by exact hg) (hr.mono (by decide)) rfl c.HX Dj.kp Il (fun _ _ _ _ _ _ _ h => h.elim) (ea_cons (v 3) (ea_cons (v 5) ea_nil)) (Ab (Ab Ag))))) (MP (Di op_isnot_bl abb (Ar Fj (by exact hg) (hr.mono (by decide)) rfl c.GD BJ.kp Fq (fun _ _ _ _ _ _ _ h => h.elim) (ea_cons (v 3) (ea_cons (v 5) ea_nil)) (Ab (Ab Ag))) e_bl (nomark _))))) (Ak (Ba e_bl)) Cq)))
  (Ae (Fe (Ff (Gf (Ar Ik (by exact hg) (hr.mono (by decide)) rfl c.HX Dj.kp Il (fun _ _ _ _ _ _ _ h => h.elim) (ea_cons (v 3) (ea_cons (BV (ea_cons Ac (ea_cons Ac (ea_cons Ac (ea_cons Ac ea_nil))))) ea_nil)) (Ab (Ab Ag))))) (Ak (Ba e_bl)) Cq)
  (Ak (Ba (adx (Xp (Jj (by exact hr.units)) pure_eq (Ar RK (by exact hg) (hr.mono (by decide)) rfl c.Rw Kc.kp RN (fun _ _ _ _ _ _ _ h => h.elim) (ea_cons (v 3) (ea_cons (BV (ea_cons Ac (ea_cons Ac (ea_cons Ac (ea_cons Ac ea_nil))))) ea_nil)) (Ab (Ab Ag))) (BV (ea_cons (BV (ea_cons Ac (ea_cons Ac ea_nil))) (ea_cons (BV (ea_cons Ac ea_nil)) (ea_cons (BV (ea_cons Ac ea_nil)) ea_nil)))) (nomark _)) (ZG (Xp op_is_bl acR (Ar Fj (by exact hg) (hr.mono (by decide)) rfl c.GD BJ.kp Fq (fun _ _ _ _ _ _ _ h => h.elim) (ea_cons (v 3) (ea_cons (BV (ea_cons Ac (ea_cons Ac (ea_cons Ac (ea_cons Ac ea_nil))))) ea_nil)) (Ab (Ab Ag))) e_bl (nomark _))))))))))))))
def adf : SF := (sSeq (sFor (lN Jg (Aa (c2 gAdd (kC (.int 3)) (cN (on2 aan) (Aa (cN (on1 Ez) (Aa (vT 0) aNil)) (Aa (kC (.int 6)) aNil)))) aNil)) (gN 1) (sSeq (sAsg (JN M9 (Aa (vT 0) (Aa (vT 1) aNil))) (gN 2))
 (sSeq (sAsg (JN Ka (Aa (vT 2) (Aa (kC (.int 8)) (Aa (kC (.int 4)) aNil)))) (gN 3))
 (sSeq (sIf (bOr (bNot (bV (Ao true FZ (Aa (vT 3) aNil)))) (bNot (bV (Ao true FZ (Aa (JN Ka (Aa (vT 2) (Aa (kC (.int 5)) (Aa (kC (.int 2)) aNil)))) aNil))))) (sRet (kC (.bool false))) sNil)
 (sFor (lN Jg (Aa (kC (.int 6)) aNil)) (gN 4) (sSeq (sAsg (JN M8 (Aa (vT 2) (Aa (cN (on1 Ez) (Aa (c2 gIx (vT 3) (kC (.int 0))) aNil)) aNil))) (gN 5))
 (sSeq (sAsg (JN Iz (Aa (vT 2) (Aa (vT 5) aNil))) (gN 6))
 (sIf (bOr (bNot (bV (Ao true Bx (Aa (vT 3) (Aa (vT 5) aNil))))) (bOr (bNot (bV (Ao true Fp (Aa (vT 3) (Aa (vT 5) aNil))))) (bNot (bV (Ao true Fp (Aa (vT 3) (Aa (vT 6) aNil))))))) (sRet (kC (.bool false))) sNil))))))))
 (sRet (Ao true Hk aNil)))
def adK : List Va → M Va := fun ds => noX (runF 7 adf ds)
theorem R5 : FnScope ["script", "k", "m", "frame", "turn", "sheet", "odd"] ["script"] (defScope Vs) := ⟨rfl, rfl, rfl, by decide +kernel, rfl, by decide +kernel, by decide +kernel⟩
theorem agt {P : Program} {w : World} {K : PySem.W.Frag} {mg : Str → Option Value} {base : Heap} {f : Addr} {fd : FuncData} (c : Fx P K mg) (D : FnP K "law" Vs f fd) : FnD P w K mg base CX0 9 f fd ["script"] adK := by
 obtain ⟨Wb, Nf⟩ := c.Q8
 have XH := VH (P := P) (w := w) (base := base) c Nf
 have XN : Binds K Wb ["script", "k"] [] := Nf.bindsN (ps := ["script", "k"]) fun _ _ _ _ _ _ us hl => match us, hl with | [_, _], _ => rfl
 obtain ⟨V9, Kd⟩ := c.Q7
 have Rc := VG (P := P) (w := w) (base := base) c Kd
 have Rg : Binds K V9 ["m", "most", "wide"] [] := Kd.bindsN (ps := ["m", "most", "wide"]) fun _ _ _ _ _ _ us hl => match us, hl with | [_, _, _], _ => rfl
 obtain ⟨PL, Ge⟩ := c.KC
 have KQ := Pb (P := P) (w := w) (base := base) c Ge
 have K7 : Binds K PL ["frame"] [] := Ge.bindsN (ps := ["frame"]) fun _ _ _ _ _ _ us hl => match us, hl with | [_], _ => rfl
 obtain ⟨V8, Nb⟩ := c.Q6
 have XF := VF (P := P) (w := w) (base := base) c Nb
 have XM : Binds K V8 ["m", "many"] [] := Nb.bindsN (ps := ["m", "many"]) fun _ _ _ _ _ _ us hl => match us, hl with | [_, _], _ => rfl
 obtain ⟨Qy, IV⟩ := c.LQ
 have Rk := Qo (P := P) (w := w) (base := base) c IV
 have Ro : Binds K Qy ["m", "sheet"] [] := IV.bindsN (ps := ["m", "sheet"]) fun _ _ _ _ _ _ us hl => match us, hl with | [_, _], _ => rfl
 obtain ⟨Dg, BJ⟩ := c.J9
 have G9 := Ld (P := P) (w := w) (base := base) c BJ
 have Fj : FnD P w K mg base CX0 5 (He.ga K "is_parting") Dg ["machine", "value"] Bx := Gx G9
 have Fq : Binds K Dg ["machine", "value"] [] := BJ.bindsN (ps := ["machine", "value"]) fun _ _ _ _ _ _ us hl => match us, hl with | [_, _], _ => rfl
 obtain ⟨Lj, Dj⟩ := c.M4
 have Ik := O9 (P := P) (w := w) (base := base) c Dj
 have Il : Binds K Lj ["frame", "thing"] [] := Dj.bindsN (ps := ["frame", "thing"]) fun _ _ _ _ _ _ us hl => match us, hl with | [_, _], _ => rfl
 obtain ⟨PB, Hm⟩ := c.Kz
 have QH := Pa (P := P) (w := w) (base := base) c Hm
 have QQ : Binds K PB [] [] := Hm.bindsN (ps := []) fun _ _ _ _ _ _ us hl => match us, hl with | [], _ => rfl
 refine CQ (N := ["script", "k", "m", "frame", "turn", "sheet", "odd"]) (g := adf) D R5 fun cdv A outer s H E hg hr => ?_
 unfold adf
 exact (Ae (Ih PassesOwn.never rfl (Dh rfl c.b_range (ea_cons (e_op Bu Be Ac (Ax (call_min2 rfl) WT rfl c.b_min (by decide +kernel) (ea_cons (Ax Do Bt rfl c.b_len (by decide +kernel) (ea_cons (v 0) ea_nil)) (ea_cons Ac ea_nil)))) ea_nil)) (gn 1 R5.nd) (Ae (BX (i := 2) R5.nd rfl (by first | exact Or.inl rfl | exact Or.inr rfl) (Ii XH (by exact hg) (hr.mono (by decide)) rfl c.Q3 Nf.kp XN (fun _ _ _ _ _ _ _ h => h.elim) (ea_cons (v 0) (ea_cons (v 1) ea_nil)) (Ab (Ab Ag))))
  (Ae (BX (i := 3) R5.nd rfl (by first | exact Or.inl rfl | exact Or.inr rfl) (Ii Rc (by exact hg) (hr.mono (by decide)) rfl c.Mx Kd.kp Rg (fun _ _ _ _ _ _ _ h => h.elim) (ea_cons (v 2) (ea_cons Ac (ea_cons Ac ea_nil))) (Ab (Ab (Ab Ag)))))
  (Ae (Fe (eb_w (Qz (Ff (Gf (Ar KQ (by exact hg) (hr.mono (by decide)) rfl c.Hh Ge.kp K7 (fun _ _ _ _ _ _ _ h => h.elim) (ea_cons (v 3) ea_nil) (Ab Ag)))) (MP (Ff (Gf (Ar KQ (by exact hg) (hr.mono (by decide)) rfl c.Hh Ge.kp K7 (fun _ _ _ _ _ _ _ h => h.elim) (ea_cons (Ii Rc (by exact hg) (hr.mono (by decide)) rfl c.Mx Kd.kp Rg (fun _ _ _ _ _ _ _ h => h.elim) (ea_cons (v 2) (ea_cons Ac (ea_cons Ac ea_nil))) (Ab (Ab (Ab Ag)))) ea_nil) (Ab Ag))))))) (Ak (Ba e_bl)) Cq)
  (Ak (Ih PassesOwn.never rfl (Dh rfl c.b_range (ea_cons Ac ea_nil)) (gn 4 R5.nd) (Ae (BX (i := 5) R5.nd rfl (by first | exact Or.inl rfl | exact Or.inr rfl) (Ii XF (by exact hg) (hr.mono (by decide)) rfl c.QZ Nb.kp XM (fun _ _ _ _ _ _ _ h => h.elim) (ea_cons (v 2) (ea_cons (Ax Do Bt rfl c.b_len (by decide +kernel) (ea_cons (e_ix (v 3) Ac) ea_nil)) ea_nil)) (Ab (Ab Ag))))
  (Ae (BX (i := 6) R5.nd rfl (by first | exact Or.inl rfl | exact Or.inr rfl) (Ii Rk (by exact hg) (hr.mono (by decide)) rfl c.Lz IV.kp Ro (fun _ _ _ _ _ _ _ h => h.elim) (ea_cons (v 2) (ea_cons (v 5) ea_nil)) (Ab (Ab Ag))))
  (Ak (Fe (eb_w (Qz (Ff (Gf (Ar Fj (by exact hg) (hr.mono (by decide)) rfl c.GD BJ.kp Fq (fun _ _ _ _ _ _ _ h => h.elim) (ea_cons (v 3) (ea_cons (v 5) ea_nil)) (Ab (Ab Ag))))) (Qz (Ff (Gf (Ar Ik (by exact hg) (hr.mono (by decide)) rfl c.HX Dj.kp Il (fun _ _ _ _ _ _ _ h => h.elim) (ea_cons (v 3) (ea_cons (v 5) ea_nil)) (Ab (Ab Ag))))) (MP (Ff (Gf (Ar Ik (by exact hg) (hr.mono (by decide)) rfl c.HX Dj.kp Il (fun _ _ _ _ _ _ _ h => h.elim) (ea_cons (v 3) (ea_cons (v 6) ea_nil)) (Ab (Ab Ag))))))))) (Ak (Ba e_bl)) Cq))))))))))
  (Ak (Ba (afq QH (by exact hg) (hr.mono (by decide)) rfl c.Ku Hm.kp QQ (fun _ _ _ _ _ _ _ h => h.elim)))))
end KG
section
namespace KGH
open KG
open PySem PySem.Spec PyProof.Rows L2 KP
theorem Ja {K : PySem.W.Frag} {mg : Str → Option Value} (T : YS K KGR.PP.main.file Ie) (hs : mg "super" = none) (hg : mg "BadMachine" = some (.ref (He.ga K "BadMachine"))) (w : World) (base : Heap) (k : Nat) : ExM KGR.PP w K mg base k "BadMachine" ["place"] := by
 obtain ⟨fd, T2, name, kV, doc, pm, ct, an, cc, cdv, efd⟩ := T.iniK (P := KGR.PP) hs (by kernel_rfl)
 have F := Zy ZM (P := KGR.PP) (w := w) (base := base) (CX := CX0) (k := k) (fp := "place") T2 rfl rfl (by decide) rfl rfl rfl rfl rfl (by decide +kernel) rfl rfl (by decide) (fun _ _ _ _ => rfl) (fun _ _ _ _ => rfl)
 exact ⟨bVE, _, _, fd, ["self", "place"], ZM, hg, T.oex, T.fi, T.ty, F, by subst efd; exact .all fun us hl => match us, hl with | [_, _], _ => rfl⟩
theorem IW {K : PySem.W.Frag} {mg : Str → Option Value} (T : YS K KGR.PP.main.file Ib) (hs : mg "super" = none) (hg : mg "BadParting" = some (.ref (He.ga K "BadParting"))) (w : World) (base : Heap) (k : Nat) : ExM KGR.PP w K mg base k "BadParting" ["value"] := by
 obtain ⟨fd, T2, name, kV, doc, pm, ct, an, cc, cdv, efd⟩ := T.iniK (P := KGR.PP) hs (by kernel_rfl)
 have F := Zy ZM (P := KGR.PP) (w := w) (base := base) (CX := CX0) (k := k) (fp := "value") T2 rfl rfl (by decide) rfl rfl rfl rfl rfl (by decide +kernel) rfl rfl (by decide) (fun _ _ _ _ => rfl) (fun _ _ _ _ => rfl)
 exact ⟨bVE, _, _, fd, ["self", "value"], ZM, hg, T.oex, T.fi, T.ty, F, by subst efd; exact .all fun us hl => match us, hl with | [_, _], _ => rfl⟩
theorem aip {K : PySem.W.Frag} {h : Heap} {mg : Str → Option Value} (X : K.In h) (G : h.Ns mainGlobals mg) (cE : SaysE KGR.fa KGR.fn KGR.ex KGR.is K) : Fx KGR.PP K mg := by
 have c := cE.d
 have e := cE.more
 unfold KGR.ex at e
 obtain ⟨e0, e⟩ := He.ba e
 obtain ⟨e1, e⟩ := He.ba e
 have e2 := e
 have T_BadMachine : YS K KGR.PP.main.file Ie := abI (cE.ini 0 (d := Ie) rfl) e0
 have T_BadParting : YS K KGR.PP.main.file Ib := abI (cE.ini 1 (d := Ib) rfl) e1
 have hsup := He.free_ok X G (c.fact 13 (f := .free "super") rfl)
 exact {
 Ja := Ja T_BadMachine hsup (PySem.W.mg_of X G T_BadMachine.glo)
 IW := IW T_BadParting hsup (PySem.W.mg_of X G T_BadParting.glo)
 sys := aem e2
 b_all := He.free_ok X G (c.fact 0 (f := .free "all") rfl)
 b_bool := He.free_ok X G (c.fact 1 (f := .free "bool") rfl)
 b_enumerate := He.free_ok X G (c.fact 2 (f := .free "enumerate") rfl)
 b_int := He.free_ok X G (c.fact 3 (f := .free "int") rfl)
 b_isinstance := He.free_ok X G (c.fact 4 (f := .free "isinstance") rfl)
 b_len := He.free_ok X G (c.fact 5 (f := .free "len") rfl)
 b_list := He.free_ok X G (c.fact 6 (f := .free "list") rfl)
 b_max := He.free_ok X G (c.fact 7 (f := .free "max") rfl)
 b_min := He.free_ok X G (c.fact 8 (f := .free "min") rfl)
 b_range := He.free_ok X G (c.fact 9 (f := .free "range") rfl)
 b_repr := He.free_ok X G (c.fact 10 (f := .free "repr") rfl)
 b_set := He.free_ok X G (c.fact 11 (f := .free "set") rfl)
 b_sorted := He.free_ok X G (c.fact 12 (f := .free "sorted") rfl)
 b_super := He.free_ok X G (c.fact 13 (f := .free "super") rfl)
 b_tuple := He.free_ok X G (c.fact 14 (f := .free "tuple") rfl)
 k_MOST_LETTERS := He.int_ok X G (c.fact 15 (f := .int "MOST_LETTERS" 4) rfl)
 k_MOST_SHOWN := He.int_ok X G (c.fact 16 (f := .int "MOST_SHOWN" 9) rfl)
 k_MOST_STANDINGS := He.int_ok X G (c.fact 17 (f := .int "MOST_STANDINGS" 8) rfl)
 Nr := He.glo_ok X G (c.fact 18 (f := .glo "is_whole") rfl)
 W9 := He.glo_ok X G (c.fact 19 (f := .glo "is_line") rfl)
 Mw := He.glo_ok X G (c.fact 20 (f := .glo "size_of") rfl)
 Vc := He.glo_ok X G (c.fact 21 (f := .glo "numbered") rfl)
 Tq := He.glo_ok X G (c.fact 22 (f := .glo "blocks_of") rfl)
 Q3 := He.glo_ok X G (c.fact 23 (f := .glo "_law_begun") rfl)
 CP := He.glo_ok X G (c.fact 24 (f := .glo "_law_draw") rfl)
 N7 := He.glo_ok X G (c.fact 25 (f := .glo "_law_classes") rfl)
 Kv := He.glo_ok X G (c.fact 26 (f := .glo "_law_all_sheets") rfl)
 Jm := He.glo_ok X G (c.fact 27 (f := .glo "_law_is_sheet") rfl)
 Ly := He.glo_ok X G (c.fact 28 (f := .glo "wrong_in_table") rfl)
 Jl := He.glo_ok X G (c.fact 29 (f := .glo "is_parting_of") rfl)
 Tn := He.glo_ok X G (c.fact 30 (f := .glo "single_of") rfl)
 Vb := He.glo_ok X G (c.fact 31 (f := .glo "whole_of") rfl)
 Tt := He.glo_ok X G (c.fact 32 (f := .glo "_law_of") rfl)
 QZ := He.glo_ok X G (c.fact 33 (f := .glo "_law_sheet") rfl)
 Pj := He.glo_ok X G (c.fact 34 (f := .glo "wrong_place") rfl)
 Mx := He.glo_ok X G (c.fact 35 (f := .glo "_law_frame") rfl)
 Lz := He.glo_ok X G (c.fact 36 (f := .glo "_law_odd_sheet") rfl)
 Ec := He.glo_ok X G (c.fact 37 (f := .glo "need_machine") rfl)
 GD := He.glo_ok X G (c.fact 38 (f := .glo "is_parting") rfl)
 N6 := He.glo_ok X G (c.fact 39 (f := .glo "need_parting") rfl)
 VN := He.glo_ok X G (c.fact 40 (f := .glo "single") rfl)
 Yo := He.glo_ok X G (c.fact 41 (f := .glo "whole") rfl)
 Gh := He.glo_ok X G (c.fact 42 (f := .glo "all_partings") rfl)
 Rw := He.glo_ok X G (c.fact 43 (f := .glo "blocks") rfl)
 Hh := He.glo_ok X G (c.fact 44 (f := .glo "_law_ends_right") rfl)
 HX := He.glo_ok X G (c.fact 45 (f := .glo "_law_right") rfl)
 Ku := He.glo_ok X G (c.fact 46 (f := .glo "_law_hand_right") rfl)
 agC := He.glo_ok X G (c.fact 47 (f := .glo "law") rfl)
 NB := c.def_ 0 (d := ⟨("is_whole", none), "is_whole", "is_whole", defArgs FJ, defBody FJ, defScope FJ, [], []⟩) rfl
 Xq := c.def_ 1 (d := ⟨("is_line", none), "is_line", "is_line", defArgs GZ, defBody GZ, defScope GZ, [], []⟩) rfl
 M3 := c.def_ 2 (d := ⟨("size_of", none), "size_of", "size_of", defArgs GX, defBody GX, defScope GX, [], []⟩) rfl
 Vm := c.def_ 3 (d := ⟨("numbered", none), "numbered", "numbered", defArgs Fy, defBody Fy, defScope Fy, [], []⟩) rfl
 Ud := c.def_ 4 (d := ⟨("blocks_of", none), "blocks_of", "blocks_of", defArgs DQ, defBody DQ, defScope DQ, [], []⟩) rfl
 Q8 := c.def_ 5 (d := ⟨("_law_begun", none), "_law_begun", "_law_begun", defArgs Df, defBody Df, defScope Df, [], []⟩) rfl
 Jx := c.def_ 6 (d := ⟨("_law_draw", none), "_law_draw", "_law_draw", defArgs DW, defBody DW, defScope DW, [], []⟩) rfl
 Oc := c.def_ 7 (d := ⟨("_law_classes", none), "_law_classes", "_law_classes", defArgs Ck, defBody Ck, defScope Ck, [], []⟩) rfl
 KD := c.def_ 8 (d := ⟨("_law_all_sheets", none), "_law_all_sheets", "_law_all_sheets", defArgs Bq, defBody Bq, defScope Bq, [], []⟩) rfl
 Jw := c.def_ 9 (d := ⟨("_law_is_sheet", none), "_law_is_sheet", "_law_is_sheet", defArgs BL, defBody BL, defScope BL, [], []⟩) rfl
 LK := c.def_ 10 (d := ⟨("wrong_in_table", none), "wrong_in_table", "wrong_in_table", defArgs Bv, defBody Bv, defScope Bv, [], []⟩) rfl
 Jv := c.def_ 11 (d := ⟨("is_parting_of", none), "is_parting_of", "is_parting_of", defArgs BK, defBody BK, defScope BK, [], []⟩) rfl
 Uc := c.def_ 12 (d := ⟨("single_of", none), "single_of", "single_of", defArgs DP, defBody DP, defScope DP, [], []⟩) rfl
 Vl := c.def_ 13 (d := ⟨("whole_of", none), "whole_of", "whole_of", defArgs Fw, defBody Fw, defScope Fw, [], []⟩) rfl
 Ue := c.def_ 14 (d := ⟨("_law_of", none), "_law_of", "_law_of", defArgs G3, defBody G3, defScope G3, [], []⟩) rfl
 Q6 := c.def_ 15 (d := ⟨("_law_sheet", none), "_law_sheet", "_law_sheet", defArgs Dc, defBody Dc, defScope Dc, [], []⟩) rfl
 Qc := c.def_ 16 (d := ⟨("wrong_place", none), "wrong_place", "wrong_place", defArgs CJ, defBody CJ, defScope CJ, [], []⟩) rfl
 Q7 := c.def_ 17 (d := ⟨("_law_frame", none), "_law_frame", "_law_frame", defArgs De, defBody De, defScope De, [], []⟩) rfl
 LQ := c.def_ 18 (d := ⟨("_law_odd_sheet", none), "_law_odd_sheet", "_law_odd_sheet", defArgs Bw, defBody Bw, defScope Bw, [], []⟩) rfl
 Ed := c.def_ 19 (d := ⟨("need_machine", none), "need_machine", "need_machine", defArgs Ci, defBody Ci, defScope Ci, [], []⟩) rfl
 J9 := c.def_ 20 (d := ⟨("is_parting", none), "is_parting", "is_parting", defArgs CZ, defBody CZ, defScope CZ, [], []⟩) rfl
 Oa := c.def_ 21 (d := ⟨("need_parting", none), "need_parting", "need_parting", defArgs Cg, defBody Cg, defScope Cg, [], []⟩) rfl
 ZK := c.def_ 22 (d := ⟨("single", none), "single", "single", defArgs Jb, defBody Jb, defScope Jb, [], []⟩) rfl
 ab6 := c.def_ 23 (d := ⟨("whole", none), "whole", "whole", defArgs La, defBody La, defScope La, [], []⟩) rfl
 Kf := c.def_ 24 (d := ⟨("all_partings", none), "all_partings", "all_partings", defArgs Cj, defBody Cj, defScope Cj, [], []⟩) rfl
 We := c.def_ 25 (d := ⟨("blocks", none), "blocks", "blocks", defArgs Jc, defBody Jc, defScope Jc, [], []⟩) rfl
 KC := c.def_ 26 (d := ⟨("_law_ends_right", none), "_law_ends_right", "_law_ends_right", defArgs Bp, defBody Bp, defScope Bp, [], []⟩) rfl
 M4 := c.def_ 27 (d := ⟨("_law_right", none), "_law_right", "_law_right", defArgs Dd, defBody Dd, defScope Dd, [], []⟩) rfl
 Kz := c.def_ 28 (d := ⟨("_law_hand_right", none), "_law_hand_right", "_law_hand_right", defArgs Bo, defBody Bo, defScope Bo, [], []⟩) rfl
 ag3 := c.def_ 29 (d := ⟨("law", none), "law", "law", defArgs Vs, defBody Vs, defScope Vs, [], []⟩) rfl
 }
end KGH
open PySem PySem.W PySem.Calls PyProof.Rows
theorem KG.holds_of (hlaw : ∀ ns : List Int, ns.length ≤ 63 → (∀ z ∈ ns, Builtin.Int.intBits z ≤ 1048576) → ∃ S, KG.adK [.s ns] [] = .ok (.d (.bool true)) S) : PySem.Challenge.rw_keptpartings_k03_whole_partings.Holds := by
 w_on; o_law
 refine HandSHeadRun.head_any (r := OpenLaw.row PySem.Challenge.rw_keptpartings_k03_whole_partings) (q := view (OpenLaw.row PySem.Challenge.rw_keptpartings_k03_whole_partings).prog [39]) (H := KGR.hk) (ob := KGR.ob) (M := 12000) (loose := KGR.names) (d := HandSHeadRun.topDef (OpenLaw.row PySem.Challenge.rw_keptpartings_k03_whole_partings).prog 39) (kwd := []) KGR.ah3
  (by kernel_rfl) (fun s => by kernel_rfl) KGR.run (by kernel_rfl) (by kernel_rfl) (by kernel_rfl) (by rfl) (by first | assumption | decide +kernel) (by decide +kernel) ⟨rfl, rfl, rfl, rfl, rfl, by decide +kernel⟩ ?hw ?hc
 case hw => w_witness2
 case hc =>
  refine KP.aaH (l := PySem.Challenge.rw_keptpartings_k03_whole_partings) (n := 63) (k := 9) (x := "script") (CX := L2.CX0) rfl (by decide) (by kernel_rfl) ⟨rfl, by decide, by decide⟩ ?F (fun _ _ _ _ z => z)
  intro w mg fa h Y G hmg0
  obtain ⟨K, KX, c⟩ := Y
  have hmg : mg ("law" : PySem.Str) = some (.ref fa) := by
   have e : (HandSHeadRun.topDef (OpenLaw.row PySem.Challenge.rw_keptpartings_k03_whole_partings).prog 39).name = ("law" : PySem.Str) := by kernel_rfl
   rw [← e]
   exact hmg0
  have fx := KGH.aip KX G c
  have e := hmg.symm.trans fx.agC
  cases e
  obtain ⟨fd, D⟩ := fx.ag3
  have b := L2.FunD.bindsA (ps := ["script"]) D fun _ _ _ _ _ _ us hl => match us, hl with | [_], _ => rfl
  exact ⟨K, fd, _, KX, fun s v => b s [v] rfl, fun H a ns hl hb hO hS => KP.ae1 hO hS (hlaw ns hl hb), fun base _ _ => KG.agt fx D⟩
end
namespace KG
open PySem PySem.Spec PyProof.Rows L2 KP
def mk4 (L s : Int) (cs : List Int) (p : Int) : Cd := .m [("left", .int L), ("seed", .int s), ("cells", .list (cs.map PyData.int)), ("spot", .int p)]
def Tp (S : Sto) : Prop := LTF.map Cd.t <+: S
def Good (S : Sto) (n t : Nat) : Prop := ∃ (L s : Int) (cs : List Int) (p : Nat), S[n]? = some (mk4 L s cs p) ∧ p ≤ t ∧ cs ≠ [] ∧ Tp S
theorem Good.mono {S : Sto} {n t t' : Nat} (h : Good S n t) (ht : t ≤ t') : Good S n t' := by
 obtain ⟨L, s, cs, p, h1, h2, h3, h4⟩ := h
 exact ⟨L, s, cs, p, h1, by omega, h3, h4⟩
theorem Good.tp {S : Sto} {n t : Nat} (h : Good S n t) : Tp S := h.elim fun _ h => h.elim fun _ h => h.elim fun _ h => h.elim fun _ h => h.2.2.2
theorem Tp.set {S : Sto} {n : Nat} {L s : Int} {cs : List Int} {p : Int} (h : Tp S) (hS : S[n]? = some (mk4 L s cs p)) (d : Cd) : Tp (S.set n d) := by
 obtain ⟨T, rfl⟩ := h
 have hn : (LTF.map Cd.t).length ≤ n := by
  refine Nat.le_of_not_lt fun h => ?_
  rw [List.getElem?_append_left h, List.getElem?_map] at hS
  obtain ⟨x, _, e⟩ := Option.map_eq_some_iff.mp hS
  cases e
 rw [List.set_append_right _ _ hn]
 exact ⟨_, rfl⟩
theorem Tp.pre {S S' : Sto} (h : Tp S) (p : S <+: S') : Tp S' := List.IsPrefix.trans h p
theorem KJ {α β : Type} {m : M α} {k : α → M β} {S S' : Sto} {a : α} (h : m S = .ok a S') : bnd m k S = k a S' := by unfold bnd; rw [h]
theorem Mz {α : Type} {env : En} {m : M α} {k : α → M (Fl × En)} {S S' : Sto} {a : α} (h : m S = .ok a S') : lift env m k S = k a S' := by unfold lift; rw [h]
theorem Wi {k : Str} {fo : DF} {env : En} {n : Nat} {S : Sto} {kvs : List (Str × PyData)} {p : PyData} (h1 : fo env = ret (.c n)) (h2 : S[n]? = some (.m kvs)) (h3 : kvs.lookup k = some p) : cGet k fo env S = .ok (.d p) S := by
 unfold cGet
 rw [h1, BZ]
 simp [Wg, h2, h3]
theorem Rx {L s : Int} {cs : List Int} {p : Int} {fo : DF} {env : En} {n : Nat} {S : Sto} (h1 : fo env = ret (.c n)) (h2 : S[n]? = some (mk4 L s cs p)) : cGet "left" fo env S = .ok (.d (.int L)) S := Wi h1 h2 rfl
theorem Zv {L s : Int} {cs : List Int} {p : Int} {fo : DF} {env : En} {n : Nat} {S : Sto} (h1 : fo env = ret (.c n)) (h2 : S[n]? = some (mk4 L s cs p)) : cGet "seed" fo env S = .ok (.d (.int s)) S := Wi h1 h2 rfl
theorem abO {L s : Int} {cs : List Int} {p : Int} {fo : DF} {env : En} {n : Nat} {S : Sto} (h1 : fo env = ret (.c n)) (h2 : S[n]? = some (mk4 L s cs p)) : cGet "cells" fo env S = .ok (.d (.list (cs.map PyData.int))) S := Wi h1 h2 rfl
theorem ade {L s : Int} {cs : List Int} {p : Int} {fo : DF} {env : En} {n : Nat} {S : Sto} (h1 : fo env = ret (.c n)) (h2 : S[n]? = some (mk4 L s cs p)) : cGet "spot" fo env S = .ok (.d (.int p)) S := Wi h1 h2 rfl
theorem acL {L s : Int} {cs : List Int} {p : Int} {i : Nat} {f : DF} {env : En} {n : Nat} {S : Sto} {x : Int} (h0 : f env S = .ok (.d (.int x)) S) (h1 : vT i env = ret (.c n)) (h2 : S[n]? = some (mk4 L s cs p)) : Yc i "left" f env S = .ok (.nx, env) (S.set n (mk4 x s cs p)) := by
 unfold Yc
 rw [Mz h0, ack, G4, BZ, h1, BZ]
 simp only [Wg, h2, mk4]
 rfl
theorem acK {L s : Int} {cs : List Int} {p : Int} {i : Nat} {f : DF} {env : En} {n : Nat} {S : Sto} {x : Int} (h0 : f env S = .ok (.d (.int x)) S) (h1 : vT i env = ret (.c n)) (h2 : S[n]? = some (mk4 L s cs p)) : Yc i "spot" f env S = .ok (.nx, env) (S.set n (mk4 L s cs x)) := by
 unfold Yc
 rw [Mz h0, ack, G4, BZ, h1, BZ]
 simp only [Wg, h2, mk4]
 rfl
theorem adP {S : Sto} {n : Nat} {c d : Cd} (h : S[n]? = some c) : (S.set n d)[n]? = some d := by
 have := (List.getElem?_eq_some_iff.mp h).1
 simp [this]
section
variable {env env' : En} {S S1 S2 : Sto} {f g : SF} {e e2 : DF} {c : DB} {v w x : Va} {t : TF} {r : R (Fl × En)}
theorem Ea (h : f env S = .ok (.nx, env') S1) : sSeq f g env S = g env' S1 := by rw [Vt, KJ h]
theorem agd (h : f env S = .ok (.rt v, env') S1) : sSeq f g env S = .ok (.rt v, env') S1 := by rw [Vt, KJ h]; rfl
theorem Ra (h : e env S = .ok v S1) (h2 : t v env = some env') : sAsg e t env S = .ok (.nx, env') S1 := by rw [aeu, Mz h, h2]; rfl
theorem ae8 {b : Bool} (h : c env S = .ok b S1) : sIf c f g env S = if b = true then f env S1 else g env S1 := by rw [agg, Mz h]; split <;> rfl
theorem ret_ok (h : e env S = .ok v S1) : sRet e env S = .ok (.rt v, env) S1 := by rw [Yb, Mz h]; rfl
theorem Wj {b : Bool} (h : e env S = .ok (.d (.bool b)) S1) : bV e env S = .ok b S1 := by rw [ahd, KJ h]; rfl
theorem Eo {h : Va → Va → Option Va} (h1 : e env S = .ok v S1) (h2 : e2 env S1 = .ok w S2) (h3 : h v w = some x) : c2 h e e2 env S = .ok x S2 := by rw [afE, KJ h1, KJ h2, h3]; rfl
theorem KH {h : List Va → Option Va} (h1 : e env S = .ok v S1) (h2 : h [v] = some w) : cN h (Aa e aNil) env S = .ok w S1 := by
 rw [afD, RJ, Ij, KJ h1, Wr, BZ, BZ, h2]; rfl
theorem ad5 {h : List Va → Option Va} (h1 : e env S = .ok v S1) (h3 : e2 env S1 = .ok w S2) (h2 : h [v, w] = some x) : cN h (Aa e (Aa e2 aNil)) env S = .ok x S2 := by
 rw [afD, RJ, Ij, KJ h1, RJ, Ij, Ij, KJ h3, Wr, BZ, BZ, BZ, h2]; rfl
theorem agr {a b : DO} {i j : Nat} {sv sw : Sv} (h1 : a env S = .ok sv S1) (h2 : b env S1 = .ok sw S2) (h3 : i < env.length ∧ j < env.length) : sPar a b i j env S = .ok (.nx, (env.set i (some sv)).set j (some sw)) S2 := by
 rw [aaY, Mz h1, Mz h2, if_pos h3]; rfl
theorem agw (h : e env S = .ok v S1) : oE e env S = .ok (svOf v) S1 := by rw [ah5, KJ h]; rfl
end
theorem ZJ {S : Sto} {n t k : Nat} (hG : Good S n t) (ht : t < 2 ^ 60) (hk : 1 ≤ k) (hk2 : k < 2 ^ 30) : (Br [.c n, .d (.int k)] S).sat (fun v S' => ∃ r : Nat, v = .d (nI r) ∧ r < k ∧ Good S' n (t + 1) ∧ S'.length = S.length) (fun _ _ => False) := by
 obtain ⟨L, s, cs, p, hS, hp, hc, hT⟩ := hG
 have kp : (0 : Int) < k := by omega
 refine Vv ?_
 show (Jp [some (.c n), some (.d (.int k)), none, none, none, none, none, none] S).sat _ _
 unfold Jp
 by_cases hL : 0 < L
 ·rw [agd (v := .d (.int (L % k))) (env' := [some (.c n), some (.d (.int k)), none, none, none, none, none, some (.d (.int (L % k)))]) (S1 := S.set n (mk4 (L / k) s cs p))]
  ·have hm := Int.emod_nonneg L (show (k : Int) ≠ 0 by omega)
   have hm2 := Int.emod_lt_of_pos L kp
   refine ⟨_, rfl, (L % k).toNat, ?_, by omega, ⟨L / k, s, cs, p, adP hS, by omega, hc, hT.set hS _⟩, by simp⟩
   show Va.d (.int (L % k)) = .d (.int ((L % k).toNat : Int))
   rw [Int.toNat_of_nonneg hm]
  ·rw [ae8 (b := true) (Wj (Eo (Rx rfl hS) rfl (by simp [hL]))), if_pos rfl]
   rw [Ea (Ra (Eo (KH (Rx rfl hS) rfl) rfl (HJ kp)) rfl)]
   rw [Ea (acL (Eo (Rx rfl hS) rfl (V5 kp (by omega))) rfl hS)]
   rw [ret_ok rfl]
   rfl
 ·rw [Ea (S1 := S) (env' := [some (.c n), some (.d (.int k)), none, none, none, none, none, none])]
  ·have hlen : 0 < cs.length := by cases cs with
    | nil => exact absurd rfl hc
    | cons _ _ => simp
   have hS1 : (S.set n (mk4 L s cs ((p : Int) + 1)))[n]? = some (mk4 L s cs ((p : Int) + 1)) := adP hS
   have hix : p % cs.length < cs.length := Nat.mod_lt _ hlen
   have hget : (cs.map PyData.int)[p % cs.length]? = some (.int (cs[p % cs.length])) := by simp [hix]
   have hmod : gMod (.d (.int (p : Int))) (.d (.int ((cs.map PyData.int).length : Int))) = some (.d (.int ((p % cs.length : Nat) : Int))) := by
    rw [List.length_map, HJ (by omega)]; simp
   rw [Ea (Ra (ade rfl hS) rfl)]
   rw [Ea (acK (Eo rfl rfl (J8 _ _)) rfl hS)]
   rw [Ea (agr (agw (abO rfl hS1)) (agw (Eo (Zv rfl hS1) (Eo (Eo rfl rfl (HH (.inl (by omega)))) rfl (HH (.inr (by omega)))) (J8 _ _))) (by simp))]
   rw [Ea (Ra (Eo rfl (Eo (KH rfl (V3 _)) (KH rfl (adY _)) hmod) (adi hget)) rfl)]
   generalize cs[p % cs.length] = z
   rw [Ea (Ra (Eo (KH (Eo (Eo rfl (Eo (Eo rfl rfl (HH (.inl (by omega)))) rfl (J8 _ _)) (HH (.inr (by omega)))) rfl (J8 _ _)) (V3 _)) rfl (HJ (by decide))) rfl)]
   generalize hb : (z * (2 * (p : Int) + 3) + (s + 40503 * (p : Int) * (p : Int))) % 2147483647 = b
   have b0 : 0 ≤ b := by rw [← hb]; exact Int.emod_nonneg _ (by decide)
   have b1 : b < 2147483647 := by rw [← hb]; exact Int.emod_lt_of_pos _ (by decide)
   rw [Ea (Ra (Eo (KH (Eo (Eo (Eo rfl rfl (HH (.inl (by omega)))) (Eo rfl rfl (HH (.inl (by omega)))) (J8 _ _)) (Zv rfl hS1) (J8 _ _)) (V3 _)) rfl (HJ (by decide))) rfl)]
   generalize hd : (b * b + 69621 * (p : Int) + s) % 2147483629 = d
   have d0 : 0 ≤ d := by rw [← hd]; exact Int.emod_nonneg _ (by decide)
   have d1 : d < 2147483629 := by rw [← hd]; exact Int.emod_lt_of_pos _ (by decide)
   rw [ret_ok (Eo (Eo (Eo (KH (Eo (Eo rfl rfl (HH (.inl (by omega)))) rfl (J8 _ _)) (V3 _)) rfl (HJ (by decide))) rfl (V5 (by decide) (by decide))) rfl (HJ kp))]
   generalize hy : (d * 48271 + (p : Int)) % 2147483647 / 11 = y
   have hm := Int.emod_nonneg y (show (k : Int) ≠ 0 by omega)
   have hm2 := Int.emod_lt_of_pos y kp
   refine ⟨_, rfl, (y % k).toNat, ?_, by omega, ⟨L, s, cs, p + 1, by exact_mod_cast hS1, by omega, hc, hT.set hS _⟩, by simp⟩
   show Va.d (.int (y % k)) = .d (.int ((y % k).toNat : Int))
   rw [Int.toNat_of_nonneg hm]
  ·rw [ae8 (b := false) (Wj (Eo (Rx rfl hS) rfl (by simp [hL])))]; rfl
theorem agu {S : Sto} {n t : Nat} {xs : List PyData} (hG : Good S n t) (ht : t < 2 ^ 60) (hx : xs ≠ []) (hl : xs.length < 2 ^ 30) : (KZ [.c n, .d (.list xs)] S).sat (fun v S' => ∃ x ∈ xs, v = .d x ∧ Good S' n (t + 1) ∧ S'.length = S.length) (fun _ _ => False) := by
 have h0 : 1 ≤ xs.length := by cases xs with
  | nil => exact absurd rfl hx
  | cons _ _ => simp
 refine Vv ?_
 show (MJ [some (.c n), some (.d (.list xs))] S).sat _ _
 unfold MJ
 rw [Yb]
 refine Cu.mpr ?_
 simp only [afE, aaI, ady, RJ, Wr, afD, lk0, lkS, Option.bind_some, RW, aeo, G4, BZ, adY]
 refine Ad.mpr ((ZJ hG ht h0 hl).mono (fun v S1 h => ?_) fun _ _ q => q.elim)
 obtain ⟨r, rfl, hr, g, l⟩ := h
 rw [adi (x := xs[r]) (by simp [hr])]
 exact ⟨_, rfl, xs[r], by simp, rfl, g, l⟩
theorem V2 (cs : List Int) : fits [cs.length] (.list (cs.map PyData.int)) = true := by
 simp [fits]
theorem agL {a0 a1 a2 a3 a4 : Option Sv} (z : Int) : c2 gGe (vT 5) (c2 gPow (kC (.int 10)) (kC (.int 18))) [a0, a1, a2, a3, a4, some (.d (.int z))] = ret (.d (.bool (decide (10 ^ 18 ≤ z)))) := by
 have hp : gPow (.d (.int 10)) (.d (.int 18)) = some (.d (.int (10 ^ 18))) := by simp [gPow]
 simp [hp]
theorem ach {S : Sto} {ns : List Int} {k : Nat} (hl : ns.length ≤ 63) (hk : k ≤ 64) (hT : Tp S) : (M9 [.s ns, .d (.int k)] S).sat (fun v S' => v = .c S.length ∧ Good S' S.length 0 ∧ S'.length = S.length + 1) (fun _ _ => False) := by
 refine Vv ?_
 show (Ig [some (.s ns), some (.d (.int k)), none, none, none, none] S).sat _ _
 unfold Ig
 have hc : ∃ cs : List Int, cs.length ≤ 126 ∧ c2 gAdd (eSl gSlA (vT 0) (some (vT 1)) none) (eSl gSlA (vT 0) none (some (vT 1))) [some (.s ns), some (.d (.int k)), none, none, none, none] = ret (.d (.list (cs.map PyData.int))) := by
  refine ⟨KP.cutD ns (some k) none ++ KP.cutD ns none (some k), ?_, ?_⟩
  ·have h1 := Lp ns (some (k : Int)) none
   have h2 := Lp ns none (some (k : Int))
   rw [List.length_append]
   omega
  ·have h1 := Lp ns (some (k : Int)) none
   have h2 := Lp ns none (some (k : Int))
   have h3 : (KP.cutD ns (some (k : Int)) none).length + (KP.cutD ns none (some (k : Int))).length ≤ sizeLine := by rw [sizeLine_eq]; omega
   simp only [afE, eSl, Ux, aaI, lk0, lkS, Option.bind_some, RW, aen, G4, BZ, ahe, gSlA, gSlL, if_pos (show ns.length ≤ 1000 by omega)]
   simp only [gAdd, Xh, hAdd, List.length_map, if_pos h3, Option.map_some, G4, List.map_append]
 obtain ⟨cs, hcl, hc⟩ := hc
 have hg : lcA (lSeq (vT 2)) (gN 5) (bV (c2 gGe (vT 5) (c2 gPow (kC (.int 10)) (kC (.int 18))))) (vT 5) [5] [some (.s ns), some (.d (.int k)), some (.d (.list (cs.map PyData.int))), none, none, none] = ret ((cs.filter fun z => decide (10 ^ 18 ≤ z)).map PyData.int) := by
  refine abw (f := PyData.int) (xs := cs) ?_ (by rw [sizeLine_eq]; omega) fun z hz => ⟨_, rfl, ?_, fun _ => rfl⟩
  ·simp
  ·show bV _ [some (.s ns), some (.d (.int k)), some (.d (.list (cs.map PyData.int))), none, none, some (.d (.int z))] = _
   rw [ahd, agL]; rfl
 generalize hgr : (cs.filter fun z => decide (10 ^ 18 ≤ z)) = gr at hg
 rw [Ea (env' := [some (.s ns), some (.d (.int k)), some (.d (.list (cs.map PyData.int))), none, none, none]) (Ra (congrFun hc S) rfl)]
 rw [Ea (env' := [some (.s ns), some (.d (.int k)), some (.d (.list (cs.map PyData.int))), some (.d (.list (gr.map PyData.int))), none, none]) (Ra (congrFun (show _ = ret (.d (.list (gr.map PyData.int))) by rw [aiw, hg]; rfl) S) rfl)]
 rw [Ea (env' := [some (.s ns), some (.d (.int k)), some (.d (.list (cs.map PyData.int))), some (.d (.list (gr.map PyData.int))), some (.d (.int (71 + k))), none]) (Ra (Eo rfl rfl (J8 _ _)) rfl)]
 obtain ⟨env', hlp, s, o, rfl, hs0, hs1⟩ := Tu (t := gN 5) (body := sAsg (c2 gMod (cN (on1 hInt) (Aa (c2 gAdd (c2 gMul (vT 4) (kC (.int 48271))) (vT 5)) aNil)) (kC (.int 2147483647))) (gN 4)) (f := PyData.int) (xs := cs)
  (env := [some (.s ns), some (.d (.int k)), some (.d (.list (cs.map PyData.int))), some (.d (.list (gr.map PyData.int))), some (.d (.int (71 + k))), none])
  (fun _ env => ∃ (s : Int) (o : Option Sv), env = [some (.s ns), some (.d (.int k)), some (.d (.list (cs.map PyData.int))), some (.d (.list (gr.map PyData.int))), some (.d (.int s)), o] ∧ 0 ≤ s ∧ s < 2 ^ 40)
  ⟨71 + k, none, rfl, by omega, by omega⟩ (by
   rintro done z rest env he ⟨s, o, rfl, h0, h1⟩
   refine ⟨[some (.s ns), some (.d (.int k)), some (.d (.list (cs.map PyData.int))), some (.d (.list (gr.map PyData.int))), some (.d (.int ((s * 48271 + z) % 2147483647))), some (.d (.int z))], ?_, _, _, rfl, Int.emod_nonneg _ (by decide), ?_⟩
   ·have e1 := HH (i := s) (j := 48271) (.inl (by omega))
    have e2 := HJ (i := s * 48271 + z) (j := 2147483647) (by decide)
    simp [e1, e2]
   ·have := Int.emod_lt_of_pos (s * 48271 + z) (show (0 : Int) < 2147483647 by decide)
    omega)
 rw [Ea (congrFun (show sFor _ _ _ _ = _ by rw [aaZ]; simp only [abz, aaI, lk0, lkS, Option.bind_some, RW, G4, BZ, aer, Zm]; exact hlp) S)]
 rw [Yb]
 refine Cu.mpr ?_
 have hleft : ∃ L : Int, eIf (bV (c2 gNe (vT 3) (cN BR aNil))) (c2 gIx (vT 3) (kC (.int 0))) (kC (.int 0)) [some (.s ns), some (.d (.int k)), some (.d (.list (cs.map PyData.int))), some (.d (.list (gr.map PyData.int))), some (.d (.int s)), o] = ret (.d (.int L)) := by
  cases gr with
  | nil =>
   refine ⟨0, ?_⟩
   have e := Zx (p := .list []) (q := .list []) (bs := [0]) (cs := [0]) rfl rfl (by decide) (by decide) (k := true) (by simp)
   simp [e]
  | cons z gr =>
   refine ⟨z, ?_⟩
   have e := Zx (p := .list ((z :: gr).map PyData.int)) (q := .list []) (bs := [(z :: gr).length]) (cs := [0]) (V2 _) rfl (by simp) (by decide) (k := false) (by simp)
   simp only [List.map_cons] at e ⊢
   simp [e]
 obtain ⟨L, hleft⟩ := hleft
 have hcells : c2 gAdd (vT 2) (cN BR (Aa (c2 gAdd (c2 gMul (kC (.int 41)) (vT 1)) (kC (.int 3))) aNil)) [some (.s ns), some (.d (.int k)), some (.d (.list (cs.map PyData.int))), some (.d (.list (gr.map PyData.int))), some (.d (.int s)), o] = ret (.d (.list ((cs ++ [41 * (k : Int) + 3]).map PyData.int))) := by
  have e1 := HH (i := 41) (j := k) (.inl (by omega))
  have h3 : cs.length + 1 ≤ sizeLine := by rw [sizeLine_eq]; omega
  simp [e1, gAdd, hAdd, h3]
 have hcell : Qp [("left", (eIf (bV (c2 gNe (vT 3) (cN BR aNil))) (c2 gIx (vT 3) (kC (.int 0))) (kC (.int 0)))), ("seed", (vT 4)), ("cells", (c2 gAdd (vT 2) (cN BR (Aa (c2 gAdd (c2 gMul (kC (.int 41)) (vT 1)) (kC (.int 3))) aNil)))), ("spot", (kC (.int 0)))] [some (.s ns), some (.d (.int k)), some (.d (.list (cs.map PyData.int))), some (.d (.list (gr.map PyData.int))), some (.d (.int s)), o] S = .ok (.c S.length) (S ++ [mk4 L s (cs ++ [41 * (k : Int) + 3]) 0]) := by
  unfold Qp
  simp only [U6, hleft, hcells, BZ, ack, G4, aaI, aie, lk0, lkS, Option.bind_some, RW]
  rfl
 rw [hcell]
 refine ⟨_, rfl, rfl, ⟨L, s, cs ++ [41 * (k : Int) + 3], 0, ?_, by omega, by simp, hT.pre (List.prefix_append _ _)⟩, by simp⟩
 simp
structure Keyed {α : Type} [DecidableEq α] (enc : α → PyData) (st : List α → Dk) : Prop where
 h0 : st [] = .k []
 hset : ∀ fs x, fs.Nodup → fs.length < sizeLine → ∃ r, (st fs).setd (enc x) (nI fs.length) = some (r, st (fstep fs x))
 hget : ∀ fs x, fs.Nodup → x ∈ fs → Yx (.d (st fs).data) (.d (enc x)) = some (.d (nI (fs.idxOf x)))
 hlen : ∀ fs, on1 Ez [.d (st fs).data] = some (.d (.int fs.length))
theorem Ym {α : Type} [DecidableEq α] {enc : α → PyData} {st : List α → Dk} (H : Keyed enc st) {xs : List α} (hl : xs.length < sizeLine) {p : PyData} (hv : Rh (.d p) = some (xs.map enc)) : NT [.d p] = ret (.d (tN (numb xs))) := by
 obtain ⟨env', hlp, o, rfl⟩ := Tu (t := gN 3) (body := sSeq (acH 1 (vT 3) (c1 immV (cN (on1 Ez) (Aa (vF 1) aNil)))) (sApp 2 (c1 immV (c2 Yx (vF 1) (vF 3))))) (f := enc) (xs := xs)
  (env := [some (.d p), some (.dd (.k [])), some (.l1 []), none])
  (fun done env => ∃ o : Option Sv, env = [some (.d p), some (.dd (st (firsts done))), some (.l1 ((numb done).map nI)), o])
  ⟨none, by rw [show firsts ([] : List α) = [] from rfl, H.h0]; rfl⟩ (by
   rintro done x rest env he ⟨o, rfl⟩
   have hdl : done.length < sizeLine := by rw [he] at hl; simp at hl; omega
   have hfl : (firsts done).length < sizeLine := Nat.lt_of_le_of_lt (Vh done) hdl
   obtain ⟨r, hr⟩ := H.hset (firsts done) x (QW done) hfl
   have hg := H.hget (fstep (firsts done) x) x (Tc (QW done)) (Tj.mpr (.inr rfl))
   refine ⟨[some (.d p), some (.dd (st (firsts (done ++ [x])))), some (.l1 ((numb (done ++ [x])).map nI)), some (.d (enc x))], ?_, _, rfl⟩
   rw [Dm, Ms]
   simp [H.hlen, hr, hg, JS, hdl])
 refine aev (env' := [some (.d p), some (.dd (st (firsts xs))), some (.l1 ((numb xs).map nI)), o]) ?_
 show Kw [some (.d p), none, none, none] = _
 unfold Kw
 have hi := Yu (aaM (numb xs))
 simp only [Vt, aaY, ah6, ah4, afi, Wr, BZ, acy, G4, Zm, List.length_nil, Nat.zero_le, if_true, List.length_cons, List.set, aaZ, abz, aaI, lk0, Option.bind_some, RW, hv]
 simp [hv, hlp, hi]
section
variable {α κ : Type} [DecidableEq α] [DecidableEq κ]
def al (key : α → κ) (fs : List α) (n : Nat) : List (κ × PyData) := (fs.zipIdx n).map fun q => (key q.1, nI q.2)
theorem acn (key : α → κ) (fs : List α) (n : Nat) : (al key fs n).length = fs.length := by simp [al]
theorem Wq {key : α → κ} (hk : ∀ a b, key a = key b → a = b) : ∀ (fs : List α) (n : Nat) (x : α), (al key fs n).find? (fun kv => decide (kv.1 = key x)) = if x ∈ fs then some (key x, nI (n + fs.idxOf x)) else none
 | [], n, x => by simp [al]
 | f :: fs, n, x => by
  have ih := Wq hk fs (n + 1) x
  have e : al key (f :: fs) n = (key f, nI n) :: al key fs (n + 1) := by simp [al, List.zipIdx_cons]
  rw [e, List.find?_cons]
  by_cases h : f = x
  ·subst h; simp
  ·have h2 : ¬ key f = key x := fun z => h (hk _ _ z)
   have h3 : ¬ x = f := fun z => h z.symm
   simp only [h2, decide_false, ih, List.mem_cons, h3, false_or, List.idxOf_cons]
   split
   ·have hb : (f == x) = false := by simpa using h
    simp only [hb, cond_false]
    congr 3
    omega
   ·rfl
theorem ahh {key : α → κ} (hk : ∀ a b, key a = key b → a = b) (fs : List α) (x : α) : valD (al key fs 0) (key x) = if x ∈ fs then some (nI (fs.idxOf x)) else none := by
 unfold KP.valD
 rw [Wq hk]
 split <;> simp
theorem ahi {key : α → κ} (hk : ∀ a b, key a = key b → a = b) {fs : List α} {x : α} (hx : x ∉ fs) : putD (al key fs 0) (key x) (nI fs.length) = al key (fs ++ [x]) 0 := by
 have h : ((al key fs 0).any fun kv => decide (kv.1 = key x)) = false := by
  have := Wq hk fs 0 x
  rw [if_neg hx] at this
  rw [List.any_eq_false]
  exact List.find?_eq_none.mp this
 unfold putD
 rw [if_neg (by rw [h]; decide)]
 simp [al, List.zipIdx_append]
end
theorem abB : Keyed nI (fun fs : List Nat => .k (al (fun n : Nat => (.inl (n : Int) : Key)) fs 0)) := by
 have hk : ∀ a b : Nat, (.inl (a : Int) : Key) = .inl (b : Int) → a = b := fun a b h => by have := Sum.inl.inj h; omega
 have ha : ∀ n : Nat, Mf (nI n) = some (.inl (n : Int)) := fun _ => rfl
 refine ⟨rfl, fun fs x hn hl => ?_, fun fs x hn hx => ?_, fun fs => ?_⟩
 ·have hv := ahh hk fs x
  unfold fstep
  by_cases hx : x ∈ fs
  ·rw [if_pos hx] at hv ⊢
   exact ⟨nI (fs.idxOf x), by simp only [Dk.setd, ha, acn, if_pos hl, hv]⟩
  ·rw [if_neg hx] at hv ⊢
   exact ⟨nI fs.length, by simp only [Dk.setd, ha, acn, if_pos hl, hv, ahi hk hx]⟩
 ·have := Wq hk fs 0 x
  rw [if_pos hx] at this
  simp only [Yx, Dk.data, aft, ha, List.find?_map]
  have e : ((fun q : PyData × PyData => decide (Mf q.1 = some (Sum.inl (x : Int)))) ∘ fun p : Key × PyData => (keyP p.1, p.2)) = fun kv => decide (kv.1 = (.inl (x : Int) : Key)) := by
   funext q
   simp [NP]
  rw [e, this]
  simp
 ·simp [Dk.data, acn]
def kN (n : Nat) : Key := .inl (n : Int)
theorem U8 {ns : List Nat} (h : ns.length < sizeLine) : NT [.d (tN ns)] = ret (.d (tN (numb ns))) := Ym abB h rfl
def isWh (p : PyData) (lo hi : Int) : Bool := match p with
 | .int i => decide (lo ≤ i) && decide (i ≤ hi)
 | _ => false
theorem Le (p : PyData) (lo hi : Int) : GP [.d p, .d (.int lo), .d (.int hi)] = ret (vB (isWh p lo hi)) := by
 first | refine Ji ?_ | refine Hq ?_
 unfold Nv Bj
 cases p with
 | int i =>
  by_cases h : lo ≤ i
  ·simp [gIsi, isiB, DK, isWh, vB, h]
  ·simp [gIsi, isiB, DK, isWh, vB, h]
 | _ => simp [gIsi, isiB, DK, isWh, vB]
def isLn (p : PyData) (n : Nat) : Bool := match p with
 | .tuple xs => decide (1 ≤ xs.length) && decide (xs.length ≤ 4) && (decide (n = 0) || decide (xs.length = n))
 | _ => false
theorem aam (p : PyData) (n : Nat) : Ur [.d p, .d (nI n)] = ret (vB (isLn p n)) := by
 first | refine Ji ?_ | refine Hq ?_
 unfold Pq Bj
 cases p with
 | tuple xs =>
  have e1 : (decide ((1 : Int) ≤ xs.length)) = decide (1 ≤ xs.length) := by rw [decide_eq_decide]; omega
  have e2 : (decide ((xs.length : Int) ≤ 4)) = decide (xs.length ≤ 4) := by rw [decide_eq_decide]; omega
  have e3 : (decide ((n : Int) = 0)) = decide (n = 0) := by rw [decide_eq_decide]; omega
  have e4 : (decide ((xs.length : Int) = n)) = decide (xs.length = n) := by rw [decide_eq_decide]; omega
  by_cases h1 : 1 ≤ xs.length
  ·by_cases h2 : xs.length ≤ 4
   ·by_cases h3 : n = 0
    ·simp [gIsi, isiB, DK, isLn, vB, e1, e2, e3, h1, h2, h3]
    ·simp [gIsi, isiB, DK, isLn, vB, e1, e2, e3, e4, h1, h2, h3]
   ·simp [gIsi, isiB, DK, isLn, vB, e1, e2, e3, e4, h1, h2]
  ·simp [gIsi, isiB, DK, isLn, vB, e1, e2, e3, e4, h1]
 | _ => simp [gIsi, isiB, DK, isLn, vB]
structure Mach (rows : List (List Nat)) (sh : List Nat) (n l : Nat) : Prop where
 n0 : 1 ≤ n
 n8 : n ≤ 8
 l0 : 1 ≤ l
 l4 : l ≤ 4
 len : rows.length = n
 row : ∀ r ∈ rows, r.length = l ∧ ∀ x ∈ r, x < n
 slen : sh.length = n
 sh9 : ∀ x ∈ sh, x ≤ 9
theorem VJ {α : Type} {r : α} {i : Nat} {xs : List α} {done rest : List (α × Nat)} (he : xs.zipIdx = done ++ (r, i) :: rest) : r ∈ xs := by
 have : (r, i) ∈ xs.zipIdx := by rw [he]; simp
 exact (List.mem_zipIdx' this).2 ▸ List.getElem_mem _
section
variable {rows : List (List Nat)} {sh : List Nat} {n l : Nat}
theorem V1 {a b : Nat} (h : a ≤ b) : isWh (nI a) 0 b = true := by simp [isWh]; omega
theorem adc {r : List Nat} {k : Nat} (M : Mach rows sh n l) (hr : r ∈ rows) (hk : k = 0 ∨ k = l) : isLn (tN r) k = true := by
 have := (M.row r hr).1
 have h1 := M.l0
 have h4 := M.l4
 simp [isLn, this]; omega
theorem Qg (M : Mach rows sh n l) : Iw [.d (tT rows)] = ret (.d .none) := by
 have hn : rows.length = n := M.len
 have h1 := M.n0
 have h8 := M.n8
 have hsub : (n : Int) - 1 = ((n - 1 : Nat) : Int) := by omega
 have e1 : (1 : Int) ≤ n := by omega
 have e2 : (n : Int) ≤ 8 := by omega
 have e3 := Xn tN rows
 refine Pu.eq (Pu.run ?_)
 unfold Gq Bj
 simp [gIsi, isiB, DK, vB, hn, e1, e2, e3]
 refine Pu.bnd (Pu.loop (f := fun q : List Nat × Nat => .tuple [nI q.2, tN q.1]) (xs := rows.zipIdx) (fun done env => ∃ (a b : Option Sv) (k : Nat), env = [some (.d (tT rows)), some (.d (nI k)), a, b, none, none] ∧ (k = 0 ∨ k = l)) ⟨none, none, 0, rfl, .inl rfl⟩ ?_) ?_
 ·rintro done ⟨r, i⟩ rest env he ⟨a, b, k, rfl, hk⟩
  have hr := VJ he
  have hlen := (M.row r hr).1
  have hc := aam (tN r) k
  rw [adc M hr hk] at hc
  simp [hc, hlen]
  exact Pu.ret ⟨rfl, _, _, l, rfl, .inr rfl⟩
 ·rintro ⟨fl, env⟩ ⟨hfl, a, b, k, he, hk⟩
  dsimp only at hfl he
  subst hfl he
  simp [e3]
  refine Pu.bnd (Pu.loop (f := fun q : List Nat × Nat => .tuple [nI q.2, tN q.1]) (xs := rows.zipIdx) (fun done env => ∃ (a b c d : Option Sv), env = [some (.d (tT rows)), some (.d (nI k)), a, b, c, d]) ⟨a, b, none, none, rfl⟩ ?_) ?_
  ·rintro done ⟨r, i⟩ rest env he ⟨a, b, c, d, rfl⟩
   have hr := VJ he
   have := Xn nI r
   simp [this]
   refine (Pu.loop (f := fun q : Nat × Nat => .tuple [nI q.2, nI q.1]) (xs := r.zipIdx) (fun done env => ∃ (c d : Option Sv), env = [some (.d (tT rows)), some (.d (nI k)), some (.d (nI i)), some (.d (tN r)), c, d]) ⟨c, d, rfl⟩ ?_).mono ?_
   ·rintro done ⟨g, j⟩ rest env he ⟨c, d, rfl⟩
    have hlt := (M.row r hr).2 g (VJ he)
    have hc := Le (nI g) 0 ((n - 1 : Nat) : Int)
    rw [V1 (by omega)] at hc
    simp [hn, hsub, hc]
    exact Pu.ret ⟨rfl, _, _, rfl⟩
   ·rintro ⟨fl, env⟩ ⟨hfl, c, d, he⟩
    exact ⟨hfl, _, _, _, _, he⟩
  ·rintro ⟨fl, env⟩ ⟨hfl, a, b, c, d, he⟩
   dsimp only at hfl he
   subst hfl he
   simp
   exact Pu.ret rfl
theorem Uu (M : Mach rows sh n l) : Lq [.d (mM rows sh)] = ret (.d .none) := by
 have e3 := Xn nI sh
 refine Pu.eq (Pu.run ?_)
 unfold Jf Bj
 simp [gIsi, isiB, DK, vB, Qg M, M.len, M.slen, e3]
 refine Pu.bnd (Pu.loop (f := fun q : Nat × Nat => .tuple [nI q.2, nI q.1]) (xs := sh.zipIdx) (fun done env => ∃ (a b : Option Sv), env = [some (.d (mM rows sh)), some (.d .none), a, b]) ⟨none, none, rfl⟩ ?_) ?_
 ·rintro done ⟨g, j⟩ rest env he ⟨c, d, rfl⟩
  have hlt := M.sh9 g (VJ he)
  have hc := Le (nI g) 0 ((9 : Nat) : Int)
  rw [V1 (by omega)] at hc
  simp at hc
  simp [hc]
  exact Pu.ret ⟨rfl, _, _, rfl⟩
 ·rintro ⟨fl, env⟩ ⟨hfl, a, b, he⟩
  dsimp only at hfl he
  subst hfl he
  simp
  exact Pu.ret rfl
theorem Eu (M : Mach rows sh n l) : CK [.d (mM rows sh)] = ret (.d (mM rows sh)) := by
 first | refine Ji ?_ | refine Hq ?_
 unfold Hz Bj
 simp [Uu M, vB]
theorem Ks (M : Mach rows sh n l) : KY [.d (mM rows sh)] = ret (.d (nI n)) := by
 first | refine Ji ?_ | refine Hq ?_
 unfold Pn Bj
 simp [M.len]
theorem Vx (n : Nat) : rngL 0 (n : Int) = (List.range n).map nI := by simp [rngL]
structure Part (ns : List Nat) (n : Nat) : Prop where
 len : ns.length = n
 num : numb ns = ns
theorem Part.lt {ns : List Nat} (h : Part ns n) {x : Nat} (hx : x ∈ ns) : x < n := by
 rw [← h.num] at hx
 rw [← h.len]
 exact SQ hx
theorem Ul {α : Type} (b : α → Bool) (ms : List α) : M5 (ms.map fun x => PyData.bool (b x)) = some (ms.map b) := by
 induction ms with
 | nil => rfl
 | cons m ms ih => simp [M5, ih]
theorem all_bools {α : Type} (b : α → Bool) (ms : List α) : on1 hAll [.d (.list (ms.map fun x => PyData.bool (b x)))] = some (vB (ms.all b)) := by
 simp [on1, hAll, Ul]
theorem LC (M : Mach rows sh n l) {ns : List Nat} (h : Part ns n) : Dz [.d (mM rows sh), .d (tN ns)] = ret (vB true) := by
 first | refine Ji ?_ | refine Hq ?_
 unfold EY Bj
 have hl := h.len
 have h0 := M.n0
 have h8 := M.n8
 have hs : ns.length < sizeLine := by rw [sizeLine_eq]; omega
 have c1 := Ks M
 have c3 := U8 hs
 rw [h.num] at c3
 have hsub : (n : Int) - 1 = ((n - 1 : Nat) : Int) := by omega
 have c2 : lcA (lSeq (vT 1)) (gN 2) bYes (Ao true GP (Aa (vT 2) (Aa (kC (.int 0)) (Aa (c2 gSub (cN (on1 Ez) (Aa (vT 1) aNil)) (kC (.int 1))) aNil)))) [2] [some (.d (mM rows sh)), some (.d (tN ns)), none] = ret (ns.map fun _ => .bool true) := by
  refine Ot (f := nI) (by simp) (by omega) fun x hx => ?_
  have hc := Le (nI x) 0 ((n - 1 : Nat) : Int)
  rw [V1 (by have := h.lt hx; omega)] at hc
  simp [hl, hsub, hc, vB]
 have hb := all_bools (fun _ => true) ns
 have heq := Xg (p := tN ns) (q := tN ns) (bs := [8]) (cs := [8]) (T5 (by omega)) (T5 (by omega)) (k := true) (hk := by simp)
 simp [gIsi, isiB, DK, c1, hl, c2, c3, hb, heq, vB]
theorem Td (M : Mach rows sh n l) {ns : List Nat} (h : Part ns n) : Gk [.d (mM rows sh), .d (tN ns)] = ret (.d (tN ns)) := by
 first | refine Ji ?_ | refine Hq ?_
 unfold Hw Bj
 simp [Eu M, LC M h, vB]
theorem Mach.aiH (M : Mach rows sh n l) {r : List Nat} (hr : r ∈ rows) {j : Nat} (hj : j < l) : at0 r j < n := by
 have := M.row r hr
 exact this.2 _ (Wk (by omega))
end
theorem ab4 {S : Sto} {c t k : Nat} (hG : Good S c t) (ht : t < 2 ^ 60) (hk : 1 ≤ k) (hk2 : k < 2 ^ 30) : Sat (Br [.c c, .d (.int k)]) S (fun v S' => ∃ r : Nat, v = .d (nI r) ∧ r < k ∧ Good S' c (t + 1) ∧ S'.length = S.length) := ⟨ZJ hG ht hk hk2⟩
theorem of' {S : Sto} {c t : Nat} {α : Type} {f : α → PyData} {xs : List α} (hG : Good S c t) (ht : t < 2 ^ 60) (hx : xs ≠ []) (hl : xs.length < 2 ^ 30) : Sat (KZ [.c c, .d (.list (xs.map f))]) S (fun v S' => ∃ x ∈ xs, v = .d (f x) ∧ Good S' c (t + 1) ∧ S'.length = S.length) := by
 refine Sat.mono ⟨agu hG ht (by simpa using hx) (by simpa using hl)⟩ ?_
 rintro v S' ⟨x, hx, rfl, h1, h2⟩
 obtain ⟨y, hy, rfl⟩ := List.mem_map.mp hx
 exact ⟨y, hy, rfl, h1, h2⟩
section
variable {α β : Type} {S : Sto} {c t k : Nat} {P : α → Sto → Prop} {env : En}
theorem dLB {f : Va → M β} {k' : β → M (Fl × En)} {K : Fl × En → M α} (hG : Good S c t) (ht : t < 2 ^ 60) (hk : 1 ≤ k) (hk2 : k < 2 ^ 30) (h : ∀ (r : Nat) S', r < k → Good S' c (t + 1) → S'.length = S.length → Sat (bnd (lift env (f (.d (.int r))) k') K) S' P) : Sat (bnd (lift env (bnd (Br [.c c, .d (.int k)]) f) k') K) S P :=
 Sat.lb (ab4 hG ht hk hk2) fun a S' ⟨r, e, h1, h2, h3⟩ => by rw [e]; exact h r S' h1 h2 h3
theorem dL {k' : Va → M (Fl × En)} {K : Fl × En → M α} (hG : Good S c t) (ht : t < 2 ^ 60) (hk : 1 ≤ k) (hk2 : k < 2 ^ 30) (h : ∀ (r : Nat) S', r < k → Good S' c (t + 1) → S'.length = S.length → Sat (bnd (k' (.d (.int r))) K) S' P) : Sat (bnd (lift env (Br [.c c, .d (.int k)]) k') K) S P :=
 Sat.l (ab4 hG ht hk hk2) fun a S' ⟨r, e, h1, h2, h3⟩ => by rw [e]; exact h r S' h1 h2 h3
end
abbrev rL (R : List (List Nat)) : List (List PyData) := R.map fun r => r.map nI
theorem aa9 {R : List (List Nat)} {k g : Nat} (h : k < R.length) : (rL R).set k ((R[k]).map nI ++ [nI g]) = rL (R.set k (R[k] ++ [g])) := by
 simp -implicitDefEqProofs [rL, List.map_set]
def afJ (c t most wide : Nat) (S : Sto) (v : Va) (S' : Sto) : Prop := ∃ rows sh n l, v = .d (mM rows sh) ∧ Mach rows sh n l ∧ n ≤ most ∧ l ≤ wide ∧ (∀ x ∈ sh, x ≤ 2) ∧ Good S' c (t + 1000) ∧ S'.length = S.length
def FrI2 (c most wide n L x kind s h T len dl m : Nat) (env : En) (S : Sto) : Prop := ∃ (R : List (List Nat)) (o10 o11 : Option Sv), env = [some (.c c), some (.d (.int most)), some (.d (.int wide)), some (.d (.int n)), some (.d (.int L)), some (.l2 (rL R)), some (.d (.int x)), some (.d (.int kind)), some (.d (.int s)), some (.d (.int h)), o10, o11, none] ∧ R.length = n ∧ (∀ i (hi : i < R.length), (R[i]).length = (if i < m then dl + 1 else dl) ∧ ∀ x ∈ R[i], x < n) ∧ Good S c (T + m) ∧ S.length = len
theorem aao {c most wide n L x kind s h T len dl m : Nat} {env : En} {S : Sto} (hI : FrI2 c most wide n L x kind s h T len dl m env S) (hT : T < 2 ^ 55) (hm : m < n) (n8 : n ≤ 8) (hs : s < 100) (h0 : 1 ≤ h) (h9 : h < 100) (hdl : dl < 100) :
  Sat (bnd (ofO (gN 10 (.d (nI m)) env)) (sSeq (sAsg (JN Br (Aa (vT 0) (Aa (vT 3) aNil))) (gN 11))
 (sSeq (sIf (bV (c2 gLt (vT 7) (kC (.int 2)))) (sAsg (c2 gMod (cN (on1 hInt) (Aa (c2 gAdd (vT 10) (vT 8)) aNil)) (vT 3)) (gN 11)) sNil)
 (sSeq (sIf (bV (c2 gEq (vT 7) (kC (.int 2)))) (sAsg (c2 gAdd (c2 gMul (cN (on1 hInt) (Aa (c2 gDiv (vT 10) (vT 9)) aNil)) (vT 9)) (c2 gMod (cN (on1 hInt) (Aa (c2 gAdd (vT 10) (kC (.int 1))) aNil)) (vT 9))) (gN 11)) sNil)
 (sSeq (sIf (bV (c2 gEq (vT 7) (kC (.int 3)))) (sAsg (c2 gMod (cN (on1 hInt) (Aa (vT 10) aNil)) (vT 9)) (gN 11)) sNil)
 (aa0 5 (vT 10) (cN (on2 aan) (Aa (vT 11) (Aa (c2 gSub (vT 3) (kC (.int 1))) aNil))))))))) S fun r S' => r.1 = .nx ∧ FrI2 c most wide n L x kind s h T len dl (m + 1) r.2 S' := by
 obtain ⟨R, o10, o11, rfl, hR, hrow, hG, hS⟩ := hI
 generalize hP : (fun (r : Fl × En) (S' : Sto) => r.1 = .nx ∧ FrI2 c most wide n L x kind s h T len dl (m + 1) r.2 S') = P
 simp -implicitDefEqProofs
 refine dL hG (by omega) (by omega) (by omega) ?_
 intro d S6 hd hG6 hl6
 have hmR : m < R.length := by omega
 have e1 := ixN_nat (n := R.length) (k := m) hmR
 have e2 : (R[m]).length < sizeLine := by
  rw [sizeLine_eq, (hrow m hmR).1]
  split <;> omega
 have fin : ∀ (z : Int) (env' : En), 0 ≤ z → env' = [some (.c c), some (.d (.int most)), some (.d (.int wide)), some (.d (.int n)), some (.d (.int L)), some (.l2 ((rL R).set m ((R[m]).map nI ++ [.int (min z ((n : Int) - 1))]))), some (.d (.int x)), some (.d (.int kind)), some (.d (.int s)), some (.d (.int h)), some (.d (.int m)), some (.d (.int z)), none] → P (.nx, env') S6 := by
  intro z env' hz he
  obtain ⟨g, hg, hgn⟩ : ∃ g : Nat, min z ((n : Int) - 1) = (g : Int) ∧ g < n := ⟨(min z ((n : Int) - 1)).toNat, by omega, by omega⟩
  have e3 := aa9 (g := g) hmR
  rw [hg, e3] at he
  rw [← hP]
  refine ⟨rfl, R.set m (R[m] ++ [g]), some (.d (.int m)), some (.d (.int z)), he, by simpa using hR, fun i hi => ?_, hG6, by omega⟩
  have hi' : i < R.length := by simpa using hi
  by_cases e : i = m
  ·subst e
   simp only [List.getElem_set_self, List.length_append, List.length_singleton]
   have := hrow i hi'
   rw [if_neg (by omega)] at this
   rw [if_pos (by omega)]
   refine ⟨by omega, fun y hy => ?_⟩
   rcases List.mem_append.mp hy with q | q
   ·exact this.2 y q
   ·simp at q; omega
  ·rw [List.getElem_set_ne (Ne.symm e)]
   have := hrow i hi'
   refine ⟨?_, this.2⟩
   rw [this.1]
   by_cases q : i < m
   ·rw [if_pos q, if_pos (by omega)]
   ·rw [if_neg q, if_neg (by omega)]
 have m1 := HJ (i := (m : Int) + s) (j := n) (by omega)
 have m2 := HJ (i := (m : Int) + 1) (j := h) (by omega)
 have m3 := HJ (i := (m : Int)) (j := h) (by omega)
 have m4 := V5 (i := (m : Int)) (j := h) (by omega) (by omega)
 have m5 := HH (i := (m : Int) / h) (j := h) (.inr (by omega))
 have p1 := Int.emod_nonneg ((m : Int) + s) (show (n : Int) ≠ 0 by omega)
 have p2 := Int.emod_nonneg ((m : Int) + 1) (show (h : Int) ≠ 0 by omega)
 have p3 := Int.emod_nonneg (m : Int) (show (h : Int) ≠ 0 by omega)
 have p4 : (0 : Int) ≤ (m : Int) / h := Int.ediv_nonneg (by omega) (by omega)
 have p5 : (0 : Int) ≤ (m : Int) / h * h := Int.mul_nonneg p4 (by omega)
 by_cases k1 : kind < 2
 ·have q1 : (kind : Int) < 2 := by omega
  have q2 : ¬ (kind : Int) = 2 := by omega
  have q3 : ¬ (kind : Int) = 3 := by omega
  simp -implicitDefEqProofs [q1, q2, q3, m1, e1, hmR, e2]
  exact Sat.ret (fin _ _ p1 rfl)
 ·have q1 : ¬ (kind : Int) < 2 := by omega
  by_cases k2 : kind = 2
  ·have q2 : (kind : Int) = 2 := by omega
   simp -implicitDefEqProofs [q1, q2, m2, m4, m5, e1, hmR, e2]
   exact Sat.ret (fin _ _ (Int.add_nonneg p5 p2) (by rw [q2]))
  ·have q2 : ¬ (kind : Int) = 2 := by omega
   by_cases k3 : kind = 3
   ·have q3 : (kind : Int) = 3 := by omega
    simp -implicitDefEqProofs [q1, q2, q3, m3, e1, hmR, e2]
    exact Sat.ret (fin _ _ p3 (by rw [q3]))
   ·have q3 : ¬ (kind : Int) = 3 := by omega
    simp -implicitDefEqProofs [q1, q2, q3, e1, hmR, e2]
    exact Sat.ret (fin (d : Int) _ (by omega) rfl)
theorem Xi {S : Sto} {c t most wide : Nat} (hG : Good S c t) (ht : t < 2 ^ 50) (h1 : 1 ≤ most) (h8 : most ≤ 8) (w1 : 1 ≤ wide) (w4 : wide ≤ 4) :
  Sat (Ka [.c c, .d (.int most), .d (.int wide)]) S (afJ c t most wide S) := by
 refine Sat.runF ?_
 unfold J5 Bj
 simp -implicitDefEqProofs
 refine dLB hG (by omega) h1 (by omega) ?_
 intro a S1 ha hG1 hl1
 simp -implicitDefEqProofs
 refine dLB hG1 (by omega) w1 (by omega) ?_
 intro b S2 hb hG2 hl2
 have ea : (1 : Int) + a = ((a + 1 : Nat) : Int) := by omega
 have eb : (1 : Int) + b = ((b + 1 : Nat) : Int) := by omega
 generalize hn : a + 1 = n at ea
 generalize hL : b + 1 = L at eb
 have n8 : n ≤ 8 := by omega
 have n0 : 1 ≤ n := by omega
 have L4 : L ≤ 4 := by omega
 have L0 : 1 ≤ L := by omega
 have er := Io n (by omega)
 have eL := Io L (by omega)
 have en : n ≤ sizeLine := by rw [sizeLine_eq]; omega
 simp -implicitDefEqProofs [ea, eb, er, en]
 rw [Uh (g := fun _ => []) (by simp)]
 simp -implicitDefEqProofs [eL]
 have hrep : List.map (fun _ : Nat => ([] : List PyData)) (List.range n) = rL ((List.range n).map fun _ => []) := by simp [rL]
 rw [hrep]
 refine Sat.bnd (Sat.loop (f := nI) (xs := List.range L) (fun done env S => ∃ (R : List (List Nat)) (o6 o7 o8 o9 o10 o11 : Option Sv), env = [some (.c c), some (.d (.int most)), some (.d (.int wide)), some (.d (nI n)), some (.d (nI L)), some (.l2 (rL R)), o6, o7, o8, o9, o10, o11, none] ∧ R.length = n ∧ (∀ r ∈ R, r.length = done.length ∧ ∀ x ∈ r, x < n) ∧ Good S c (t + 2 + 11 * done.length) ∧ S.length = S2.length) ⟨_, none, none, none, none, none, none, rfl, by simp, by intro r hr; simp at hr; simp [hr.2], hG2, rfl⟩ ?_) ?_
 ·rintro done x rest env S he ⟨R, o6, o7, o8, o9, o10, o11, rfl, hR, hrow, hG, hS⟩
  obtain ⟨hx, hdl⟩ := Gu he
  generalize hP : (fun (r : Fl × En) (S' : Sto) => r.1 = .nx ∧ _) = P
  simp -implicitDefEqProofs
  refine dLB (k := 5) hG (by omega) (by omega) (by omega) ?_
  intro kind S3 hkind hG3 hl3
  have em : max ((n : Int) - 1) 1 = ((max (n - 1) 1 : Nat) : Int) := by omega
  simp -implicitDefEqProofs [em]
  refine dLB hG3 (by omega) (by omega) (by omega) ?_
  intro step S4 hstep hG4 hl4
  simp -implicitDefEqProofs
  refine dLB hG4 (by omega) n0 (by omega) ?_
  intro half S5 hhalf hG5 hl5
  have es : (1 : Int) + step = ((step + 1 : Nat) : Int) := by omega
  have eh : (1 : Int) + half = ((half + 1 : Nat) : Int) := by omega
  generalize hs : step + 1 = st at es
  generalize hh : half + 1 = hf at eh
  simp -implicitDefEqProofs [es, eh, er]
  refine (Sat.loop (f := nI) (xs := List.range n) (fun done2 env S => FrI2 c most wide n L x kind st hf (t + 2 + 11 * done.length + 3) S2.length done.length done2.length env S) ⟨R, o10, o11, rfl, hR, fun i hi => by simpa using hrow _ (List.getElem_mem hi), hG5, by omega⟩ ?_).mono ?_
  ·intro done2 k rest2 env S he2 hI
   obtain ⟨hk, hkn⟩ := Gu he2
   subst hk
   have := aao hI (by omega) hkn n8 (by omega) (by omega) (by omega) (by omega)
   rw [List.length_append]
   exact this
  ·rintro ⟨fl, env'⟩ S' ⟨hfl, R', o10', o11', he', hR', hrow', hG', hS'⟩
   rw [List.length_range] at hrow' hG'
   subst hP
   refine ⟨hfl, R', _, _, _, _, _, _, he', hR', fun r hr => ?_, hG'.mono (by simp; omega), hS'⟩
   obtain ⟨i, hi, rfl⟩ := List.getElem_of_mem hr
   have := hrow' i hi
   rw [if_pos (by omega)] at this
   simpa using this
 ·rintro ⟨fl, env'⟩ S' ⟨hfl, R, o6, o7, o8, o9, o10, o11, he', hR, hrow, hG', hS'⟩
  dsimp only at hfl he'
  rw [List.length_range] at hrow hG'
  rw [hfl, he']
  simp -implicitDefEqProofs
  have c1 : lcC (lSeq (vF 5)) (gN 12) bYes (cN (on1 hTup) (Aa (vT 12) aNil)) [12] [some (.c c), some (.d (.int most)), some (.d (.int wide)), some (.d (.int n)), some (.d (.int L)), some (.l2 (rL R)), o6, o7, o8, o9, o10, o11, none] = ret (.d (.list (R.map tN))) := by
   refine ae0 (f := fun r : List Nat => .list (r.map nI)) (by simp [rL, Function.comp_def]) (by omega) fun r hr => ?_
   simp
  have c2 : immV (.d (tT R)) = some (.d (tT R)) := Yu (afY R)
  simp -implicitDefEqProofs [c1, c2]
  refine Sat.lb (@Sat.lcA Nat Nat (gN 10) (JN KZ (Aa (vT 0) (Aa (cN BR (Aa (kC (PyData.int 0)) (Aa (kC (PyData.int 0)) (Aa (kC (PyData.int 1)) (Aa (kC (PyData.int 2)) aNil))))) aNil))) nI nI [10] (List.range n) [some (Sv.c c), some (Sv.d (PyData.int ↑most)), some (Sv.d (PyData.int ↑wide)), some (Sv.d (nI n)), some (Sv.d (nI L)), some (Sv.l2 (rL R)), o6, o7, o8, o9, o10, o11, none] (lN Jg (Aa (vT 3) aNil)) S' (fun ys S => (∀ y ∈ ys, y ≤ 2) ∧ Good S c (t + 2 + 11 * L + ys.length) ∧ S.length = S2.length) (by simp -implicitDefEqProofs [er]) (by simpa using en) ⟨by simp, by simpa using hG', hS'⟩ ?_) ?_
  ·rintro x hx acc S hl ⟨ha, hg, hs⟩
   rw [List.length_range] at hl
   have e4 : (PyData.list [.int 0, .int 0, .int 1, .int 2]) = .list (([0, 0, 1, 2] : List Nat).map nI) := rfl
   simp -implicitDefEqProofs
   rw [e4]
   refine (of' hg (by omega) (by simp) (by simp)).mono ?_
   rintro v S' ⟨y, hy, hv, h1, h2⟩
   have hy2 : y ≤ 2 := by simp at hy; omega
   exact ⟨y, hv, fun z hz => hz.elim (ha z) fun q => by omega, h1.mono (by omega), by omega⟩
  ·rintro ps S' ⟨ys, rfl, hyl, hy, hg, hs⟩
   simp -implicitDefEqProofs
   refine Sat.ret ⟨R, ys, n, L, rfl, ⟨n0, n8, L0, L4, hR, hrow, by simpa using hyl, fun x hx => by have := hy x hx; omega⟩, by omega, by omega, hy, hg.mono (by simp at hyl; omega), by omega⟩
end KG
namespace KP
open PySem PySem.Spec PyProof.Rows L2
section
variable {α : Type} [DecidableEq α]
theorem ac0 {xs : List α} {x : α} (h : ¬ x ∈ firsts xs) : numb (xs ++ [x]) = numb xs ++ [(firsts xs).length] ∧ firsts (xs ++ [x]) = firsts xs ++ [x] := by
 have e : fstep (firsts xs) x = firsts xs ++ [x] := by unfold fstep; rw [if_neg h]
 rw [Ms, Dm, e, List.idxOf_append, if_neg h]; simp
end
theorem Yv {k x : Nat} (h : x < k) : (List.range k).idxOf x = x := by
 have h1 : (List.range k).idxOf x < (List.range k).length := List.idxOf_lt_length_of_mem (by simpa using h)
 have h2 := List.getElem_idxOf h1
 rwa [List.getElem_range] at h2
def bl (ns : List Nat) : Nat := (firsts ns).length
theorem aa2 {xs : List Nat} {x : Nat} : numb (xs ++ [x]) = xs ++ [x] ↔ numb xs = xs ∧ (fstep (firsts xs) x).idxOf x = x := by
 rw [Ms]
 constructor
 ·intro h
  obtain ⟨h1, h2⟩ := List.append_inj h (JS xs)
  exact ⟨h1, by simpa using h2⟩
 ·rintro ⟨h1, h2⟩
  rw [h1, h2]
theorem WM : ∀ (xs : List Nat), numb xs = xs → firsts xs = List.range (bl xs) := by
 intro xs
 induction xs using Ew with
 | h0 => intro _; simp [firsts, bl]
 | h1 xs x ih =>
  intro h
  obtain ⟨h1, h2⟩ := aa2.mp h
  have ih := ih h1
  unfold bl
  rw [Dm]
  rw [ih] at h2 ⊢
  unfold fstep at h2 ⊢
  by_cases hx : x ∈ List.range (bl xs)
  ·rw [if_pos hx]; simp
  ·rw [if_neg hx] at h2 ⊢
   rw [List.idxOf_append, if_neg hx] at h2
   simp at h2
   rw [List.length_append]
   simp [h2, List.range_succ]
theorem R8 {xs : List Nat} {x : Nat} : numb (xs ++ [x]) = xs ++ [x] ↔ numb xs = xs ∧ x ≤ bl xs := by
 rw [aa2]
 constructor
 ·rintro ⟨h1, h2⟩
  refine ⟨h1, ?_⟩
  have hm : x ∈ fstep (firsts xs) x := Tj.mpr (.inr rfl)
  have hl := List.idxOf_lt_length_of_mem hm
  have : (fstep (firsts xs) x).length ≤ bl xs + 1 := by
   unfold fstep bl
   split <;> simp
  omega
 ·rintro ⟨h1, h2⟩
  refine ⟨h1, ?_⟩
  rw [WM xs h1]
  unfold fstep
  by_cases hx : x < bl xs
  ·rw [if_pos (by simpa using hx), Yv hx]
  ·have : x = bl xs := by omega
   subst this
   rw [if_neg (by simp), List.idxOf_append, if_neg (by simp)]
   simp
theorem Yn (xs ys : List Nat) : maxN (xs ++ ys) = max (maxN xs) (maxN ys) := by
 induction xs with
 | nil => simp [maxN]
 | cons x xs ih => simp only [List.cons_append, maxN, ih]; omega
theorem Y8 : ∀ (xs : List Nat), numb xs = xs → xs ≠ [] → bl xs = maxN xs + 1 := by
 intro xs
 induction xs using Ew with
 | h0 => intro _ h; exact absurd rfl h
 | h1 xs x ih =>
  intro h _
  obtain ⟨h1, h2⟩ := R8.mp h
  have hf := WM xs h1
  have hb : bl (xs ++ [x]) = max (bl xs) (x + 1) := by
   unfold bl at h2 ⊢
   rw [Dm, hf]
   unfold fstep
   by_cases hx : x < bl xs
   ·rw [if_pos (by simpa using hx)]
    simp; unfold bl at hx ⊢; omega
   ·rw [if_neg (by simpa using hx)]
    simp; unfold bl at hx ⊢; omega
  rw [hb, Yn]
  by_cases hx : xs = []
  ·subst hx; simp [bl, firsts, maxN]
  ·rw [ih h1 hx]; simp only [maxN]; omega
def Ah : Nat → List (List Nat)
 | 0 => [[0]]
 | k + 1 => (Ah k).flatMap fun row => (List.range (maxN row + 2)).map fun h => row ++ [h]
theorem Cz : ∀ {k : Nat} {ns : List Nat}, ns ∈ Ah k ↔ ns.length = k + 1 ∧ numb ns = ns
 | 0, ns => by
  simp only [Ah, List.mem_singleton]
  constructor
  ·rintro rfl; exact ⟨rfl, by decide⟩
  ·rintro ⟨h1, h2⟩
   match ns, h1 with
   | [x], _ =>
    have := (R8 (xs := []) (x := x)).mp (by simpa using h2)
    simp [bl, firsts] at this
    rw [this.2]
 | k + 1, ns => by
  simp only [Ah, List.mem_flatMap, List.mem_map, List.mem_range]
  constructor
  ·rintro ⟨row, hr, h, hh, rfl⟩
   obtain ⟨h1, h2⟩ := Cz.mp hr
   have hne : row ≠ [] := by intro z; subst z; simp at h1
   refine ⟨by simp [h1], R8.mpr ⟨h2, ?_⟩⟩
   rw [Y8 row h2 hne]; omega
  ·rintro ⟨h1, h2⟩
   have hne : ns ≠ [] := by intro z; subst z; simp at h1
   obtain ⟨row, x, rfl⟩ : ∃ row x, ns = row ++ [x] := ⟨ns.dropLast, ns.getLast hne, (List.dropLast_concat_getLast hne).symm⟩
   obtain ⟨h3, h4⟩ := R8.mp h2
   have hl : row.length = k + 1 := by simpa using h1
   have hrn : row ≠ [] := by intro z; subst z; simp at hl
   rw [Y8 row h3 hrn] at h4
   exact ⟨row, Cz.mpr ⟨hl, h3⟩, x, by omega, rfl⟩
theorem Jh : ∀ k : Nat, k ≤ 7 → (Ah k).length ≤ 4140 := by
 intro k hk
 have : ∀ k : Fin 8, (Ah k.1).length ≤ 4140 := by decide +kernel
 exact this ⟨k, by omega⟩
structure Cls (n : Nat) (cs : List (List Nat)) : Prop where
 perm : cs.flatten.Perm (List.range n)
def relC (cs : List (List Nat)) (a b : Nat) : Prop := ∃ c ∈ cs, a ∈ c ∧ b ∈ c
section
variable {n : Nat} {cs : List (List Nat)}
theorem Cls.mem (h : Cls n cs) {x : Nat} : (∃ c ∈ cs, x ∈ c) ↔ x < n := by
 rw [← List.mem_range, ← h.perm.mem_iff, List.mem_flatten]
theorem Cls.cov (h : Cls n cs) {x : Nat} (hx : x < n) : ∃ c ∈ cs, x ∈ c := h.mem.mpr hx
theorem Cls.lt (h : Cls n cs) {c : List Nat} {x : Nat} (hc : c ∈ cs) (hx : x ∈ c) : x < n := h.mem.mp ⟨c, hc, hx⟩
theorem Cls.tot (h : Cls n cs) : cs.flatten.length = n := by rw [h.perm.length_eq, List.length_range]
theorem ad3 : ∀ {cs : List (List Nat)}, cs.flatten.Nodup → ∀ c ∈ cs, ∀ d ∈ cs, ∀ x, x ∈ c → x ∈ d → c = d
 | [], _, c, hc, _, _, _, _, _ => absurd hc (by simp)
 | e :: cs, h, c, hc, d, hd, x, h1, h2 => by
  rw [List.flatten_cons, List.nodup_append] at h
  obtain ⟨_, hn, hx⟩ := h
  rcases List.mem_cons.mp hc with rfl | hc'
  ·rcases List.mem_cons.mp hd with rfl | hd'
   ·rfl
   ·exact absurd rfl (hx x h1 x (List.mem_flatten.mpr ⟨d, hd', h2⟩))
  ·rcases List.mem_cons.mp hd with rfl | hd'
   ·exact absurd rfl (hx x h2 x (List.mem_flatten.mpr ⟨c, hc', h1⟩))
   ·exact ad3 hn c hc' d hd' x h1 h2
theorem Cls.dis (h : Cls n cs) {c d : List Nat} {x : Nat} (hc : c ∈ cs) (hd : d ∈ cs) (h1 : x ∈ c) (h2 : x ∈ d) : c = d :=
 ad3 (h.perm.nodup_iff.mpr List.nodup_range) c hc d hd x h1 h2
theorem N8 : ∀ {cs : List (List Nat)} {c : List Nat}, c ∈ cs → c.length ≤ cs.flatten.length
 | [], c, h => absurd h (by simp)
 | e :: cs, c, h => by
  rw [List.flatten_cons, List.length_append]
  rcases List.mem_cons.mp h with rfl | h'
  ·omega
  ·have := N8 h'; omega
theorem Cls.clen (h : Cls n cs) {c : List Nat} (hc : c ∈ cs) : c.length ≤ n := by rw [← h.tot]; exact N8 hc
theorem relC.symm {a b : Nat} (h : relC cs a b) : relC cs b a := by obtain ⟨c, h1, h2, h3⟩ := h; exact ⟨c, h1, h3, h2⟩
theorem Cls.refl (h : Cls n cs) {a : Nat} (ha : a < n) : relC cs a a := by obtain ⟨c, h1, h2⟩ := h.cov ha; exact ⟨c, h1, h2, h2⟩
theorem Cls.trans (h : Cls n cs) {a b c : Nat} (h1 : relC cs a b) (h2 : relC cs b c) : relC cs a c := by
 obtain ⟨u, q1, q2, q3⟩ := h1
 obtain ⟨v, p1, p2, p3⟩ := h2
 have := h.dis q1 p1 q3 p2
 subst this
 exact ⟨u, q1, q2, p3⟩
def Yw (cs : List (List Nat)) (k : Nat) : Nat := ((cs.zipIdx.filter fun q => decide (k ∈ q.1)).map (·.2)).headD 0
theorem Py {α : Type} {p : α → Bool} {xs : List α} {x : α} (h : x ∈ xs) (hp : p x = true) : xs.filter p ≠ [] := by
 intro z
 have : x ∈ xs.filter p := List.mem_filter.mpr ⟨h, hp⟩
 rw [z] at this
 simp at this
theorem Xe (h : Cls n cs) {k : Nat} (hk : k < n) : ∃ c i rest, (cs.zipIdx.filter fun q => decide (k ∈ q.1)) = (c, i) :: rest ∧ c ∈ cs ∧ k ∈ c ∧ Yw cs k = i := by
 obtain ⟨c, hc, hkc⟩ := h.cov hk
 obtain ⟨j, hj, rfl⟩ := List.getElem_of_mem hc
 have hm : (cs[j], j) ∈ cs.zipIdx := by
  rw [List.mem_zipIdx_iff_getElem?]; simp [hj]
 have hne := Py (p := fun q : List Nat × Nat => decide (k ∈ q.1)) hm (by simpa using hkc)
 cases e : (cs.zipIdx.filter fun q => decide (k ∈ q.1)) with
 | nil => exact absurd e hne
 | cons q rest =>
  obtain ⟨c, i⟩ := q
  have hq : (c, i) ∈ (cs.zipIdx.filter fun q => decide (k ∈ q.1)) := by rw [e]; simp
  obtain ⟨q1, q2⟩ := List.mem_filter.mp hq
  rw [List.mem_zipIdx_iff_getElem?] at q1
  exact ⟨c, i, rest, rfl, List.mem_of_getElem? q1, by simpa using q2, by simp [Yw, e]⟩
theorem Zt (h : Cls n cs) {a b : Nat} (ha : a < n) (hb : b < n) : Yw cs a = Yw cs b ↔ relC cs a b := by
 constructor
 ·intro e
  obtain ⟨c, i, rest, e1, hc, hac, hi⟩ := Xe h ha
  obtain ⟨d, j, rest2, e2, hd, hbd, hj⟩ := Xe h hb
  have hij : i = j := by omega
  subst hij
  have m1 : (c, i) ∈ cs.zipIdx := (List.mem_filter.mp (by rw [e1]; simp : (c, i) ∈ (cs.zipIdx.filter fun q => decide (a ∈ q.1)))).1
  have m2 : (d, i) ∈ cs.zipIdx := (List.mem_filter.mp (by rw [e2]; simp : (d, i) ∈ (cs.zipIdx.filter fun q => decide (b ∈ q.1)))).1
  rw [List.mem_zipIdx_iff_getElem?] at m1 m2
  have : c = d := by
   dsimp only at m1 m2
   rw [m1] at m2
   exact Option.some.inj m2
  subst this
  exact ⟨c, hc, hac, hbd⟩
 ·rintro ⟨c, hc, hac, hbc⟩
  unfold Yw
  congr 2
  apply List.filter_congr
  rintro ⟨d, i⟩ hq
  rw [List.mem_zipIdx_iff_getElem?] at hq
  have hd : d ∈ cs := List.mem_of_getElem? hq
  rw [decide_eq_decide]
  constructor
  ·intro q; rw [h.dis hd hc q hac]; exact hbc
  ·intro q; rw [h.dis hd hc q hbc]; exact hac
end
def insN (x : Nat) : List Nat → List Nat
 | [] => [x]
 | y :: r => if x ≤ y then x :: y :: r else y :: insN x r
def acE : List Nat → List Nat
 | [] => []
 | x :: r => insN x (acE r)
theorem Xc (x : Nat) : ∀ l : List Nat, (insN x l).Perm (x :: l)
 | [] => .refl _
 | y :: r => by
  unfold insN
  split
  ·exact .refl _
  ·exact ((Xc x r).cons y).trans (.swap x y r)
theorem Kr : ∀ l : List Nat, (acE l).Perm l
 | [] => .refl _
 | x :: r => (Xc x _).trans ((Kr r).cons x)
def FP (one far : Nat) (c : List Nat) : Bool := decide (one ∈ c) || decide (far ∈ c)
def Oq (cs : List (List Nat)) (one far : Nat) : List (List Nat) := cs.filter (fun c => !FP one far c) ++ [acE (cs.filter (FP one far)).flatten]
theorem Jr (p : List Nat → Bool) : ∀ cs : List (List Nat), ((cs.filter fun c => !p c).flatten ++ (cs.filter p).flatten).Perm cs.flatten
 | [] => by simp
 | c :: cs => by
  have ih := Jr p cs
  by_cases h : p c = true
  ·rw [List.filter_cons_of_pos h, List.filter_cons_of_neg (by simpa using h), List.flatten_cons, List.flatten_cons]
   exact ((List.perm_append_comm_assoc _ _ _).trans (ih.append_left _))
  ·rw [List.filter_cons_of_neg h, List.filter_cons_of_pos (by simpa using h), List.flatten_cons, List.flatten_cons, List.append_assoc]
   exact ih.append_left _
theorem Cls.merged {n : Nat} {cs : List (List Nat)} (h : Cls n cs) (one far : Nat) : Cls n (Oq cs one far) := by
 refine ⟨?_⟩
 unfold Oq
 rw [List.flatten_append]
 simp only [List.flatten_cons, List.flatten_nil, List.append_nil]
 exact (((Kr _).append_left _).trans (Jr _ cs)).trans h.perm
theorem aah {n : Nat} {cs : List (List Nat)} (h : Cls n cs) {one far : Nat} (h1 : one < n) : (Oq cs one far).length ≤ cs.length := by
 obtain ⟨c, hc, hx⟩ := h.cov h1
 have : cs.filter (FP one far) ≠ [] := Py hc (by simp [FP, hx])
 have h2 : 0 < (cs.filter (FP one far)).length := List.length_pos_iff.mpr this
 have h3 : ∀ cs : List (List Nat), (cs.filter fun c => !FP one far c).length + (cs.filter (FP one far)).length = cs.length := by
  intro cs
  induction cs with
  | nil => rfl
  | cons d cs ih => by_cases q : FP one far d = true <;> simp [q] at ih ⊢ <;> omega
 have := h3 cs
 simp only [Oq, List.length_append, List.length_singleton]
 omega
theorem Ol {n : Nat} {cs : List (List Nat)} (h : Cls n cs) {one far a b : Nat} (ha : a < n) (hb : b < n) : relC (Oq cs one far) a b ↔ relC cs a b ∨ ((relC cs a one ∨ relC cs a far) ∧ (relC cs b one ∨ relC cs b far)) := by
 have hJ : ∀ x, x ∈ acE (cs.filter (FP one far)).flatten ↔ (relC cs x one ∨ relC cs x far) := by
  intro x
  rw [(Kr _).mem_iff, List.mem_flatten]
  constructor
  ·rintro ⟨c, hc, hx⟩
   obtain ⟨h1, h2⟩ := List.mem_filter.mp hc
   simp only [FP, Bool.or_eq_true, decide_eq_true_eq] at h2
   rcases h2 with h2 | h2
   ·exact .inl ⟨c, h1, hx, h2⟩
   ·exact .inr ⟨c, h1, hx, h2⟩
  ·rintro (⟨c, h1, h2, h3⟩ | ⟨c, h1, h2, h3⟩)
   ·exact ⟨c, List.mem_filter.mpr ⟨h1, by simp [FP, h3]⟩, h2⟩
   ·exact ⟨c, List.mem_filter.mpr ⟨h1, by simp [FP, h3]⟩, h2⟩
 constructor
 ·rintro ⟨c, hc, h1, h2⟩
  rcases List.mem_append.mp hc with q | q
  ·exact .inl ⟨c, (List.mem_filter.mp q).1, h1, h2⟩
  ·have : c = _ := List.mem_singleton.mp q
   subst this
   exact .inr ⟨(hJ a).mp h1, (hJ b).mp h2⟩
 ·rintro (⟨c, hc, h1, h2⟩ | ⟨h1, h2⟩)
  ·by_cases q : FP one far c = true
   ·refine ⟨_, List.mem_append_right _ (List.mem_singleton.mpr rfl), (Kr _).mem_iff.mpr (List.mem_flatten.mpr ⟨c, List.mem_filter.mpr ⟨hc, q⟩, h1⟩), (Kr _).mem_iff.mpr (List.mem_flatten.mpr ⟨c, List.mem_filter.mpr ⟨hc, q⟩, h2⟩)⟩
   ·exact ⟨c, List.mem_append_left _ (List.mem_filter.mpr ⟨hc, by simpa using q⟩), h1, h2⟩
  ·exact ⟨_, List.mem_append_right _ (List.mem_singleton.mpr rfl), (hJ a).mpr h1, (hJ b).mpr h2⟩
def clsB (ns : List Nat) (b : Nat) : List Nat := (ns.zipIdx.filter fun q => decide (q.1 = b)).map (·.2)
def clsOf (ns : List Nat) : List (List Nat) := (List.range (maxN ns + 1)).map (clsB ns)
theorem Hv {ns : List Nat} {b k : Nat} : k ∈ clsB ns b ↔ k < ns.length ∧ at0 ns k = b := by
 simp only [clsB, List.mem_map, List.mem_filter, decide_eq_true_eq]
 constructor
 ·rintro ⟨⟨x, i⟩, ⟨h1, h2⟩, rfl⟩
  rw [List.mem_zipIdx_iff_getElem?] at h1
  dsimp only at h1 h2 ⊢
  obtain ⟨h3, h4⟩ := List.getElem?_eq_some_iff.mp h1
  exact ⟨h3, by rw [Fg h3, h4, h2]⟩
 ·rintro ⟨h1, h2⟩
  refine ⟨(at0 ns k, k), ⟨?_, h2⟩, rfl⟩
  rw [List.mem_zipIdx_iff_getElem?, Fg h1]
  simp [h1]
theorem adE (ns : List Nat) (b : Nat) : (clsB ns b).length ≤ ns.length := by
 unfold clsB
 rw [List.length_map]
 exact Nat.le_trans (List.length_filter_le _ _) (by simp)
theorem ZL (ns : List Nat) (b : Nat) : (clsB ns b).Sublist (List.range ns.length) := by
 have : (List.range ns.length) = ns.zipIdx.map (·.2) := by
  rw [List.zipIdx_map_snd]
  simp [List.range_eq_range']
 rw [this]
 exact (List.filter_sublist).map _
theorem Yg : ∀ {l m : List Nat}, l.Nodup → m.Nodup → (∀ x, x ∈ l ↔ x ∈ m) → l.Perm m := by
 intro l m h1 h2 h
 rw [List.perm_ext_iff_of_nodup h1 h2]
 exact h
theorem Cls.of (ns : List Nat) : Cls ns.length (clsOf ns) := by
 refine ⟨Yg ?_ List.nodup_range fun x => ?_⟩
 ·unfold clsOf
  have key : ∀ bs : List Nat, bs.Nodup → ((bs.map (clsB ns)).flatten).Nodup := by
   intro bs
   induction bs with
   | nil => intro _; simp
   | cons b bs ih =>
    intro h
    obtain ⟨h1, h2⟩ := List.nodup_cons.mp h
    rw [List.map_cons, List.flatten_cons, List.nodup_append]
    refine ⟨(ZL ns b).nodup List.nodup_range, ih h2, ?_⟩
    intro x hx y hy e
    subst e
    obtain ⟨c, hc, hxc⟩ := List.mem_flatten.mp hy
    obtain ⟨b', hb', rfl⟩ := List.mem_map.mp hc
    have e1 := (Hv.mp hx).2
    have e2 := (Hv.mp hxc).2
    rw [e1] at e2
    subst e2
    exact h1 hb'
  exact key _ List.nodup_range
 ·rw [List.mem_flatten, List.mem_range]
  constructor
  ·rintro ⟨c, hc, hx⟩
   obtain ⟨b, _, rfl⟩ := List.mem_map.mp hc
   exact (Hv.mp hx).1
  ·intro hx
   exact ⟨clsB ns (at0 ns x), List.mem_map.mpr ⟨_, by have := Yq (Wk hx); simp; omega, rfl⟩, Hv.mpr ⟨hx, rfl⟩⟩
theorem Mj {ns : List Nat} {a b : Nat} (ha : a < ns.length) (hb : b < ns.length) : relC (clsOf ns) a b ↔ at0 ns a = at0 ns b := by
 constructor
 ·rintro ⟨c, hc, h1, h2⟩
  obtain ⟨k, _, rfl⟩ := List.mem_map.mp hc
  rw [(Hv.mp h1).2, (Hv.mp h2).2]
 ·intro e
  exact ⟨clsB ns (at0 ns a), List.mem_map.mpr ⟨_, by have := Yq (Wk ha); simp; omega, rfl⟩, Hv.mpr ⟨ha, rfl⟩, Hv.mpr ⟨hb, e.symm⟩⟩
end KP
namespace KG
open PySem PySem.Spec PyProof.Rows L2 KP
abbrev lL (cs : List (List Nat)) : PyData := .list (cs.map lI)
theorem VL {ns : List Nat} {n : Nat} (hn : 1 ≤ n) (h : ∀ x ∈ ns, x < n) : maxN ns < n := by
 have := aeV (b := n - 1) fun x hx => by have := h x hx; omega
 omega
theorem Wo {many : Nat} (h1 : 1 ≤ many) (h8 : many ≤ 8) : Hl [.d (.int many)] = ret (.d (.list ((Ah (many - 1)).map tN))) := by
 refine Pu.eq (Pu.run ?_)
 unfold FT Bj
 have e1 : (many : Int) - 1 = ((many - 1 : Nat) : Int) := by omega
 have er := Io (many - 1) (by omega)
 generalize hk : many - 1 = K at e1 er
 simp -implicitDefEqProofs [e1, er]
 refine Pu.for_ (f := nI) (xs := List.range K) (fun done env => ∃ (a b c : Option Sv), env = [some (.d (.int many)), some (.d (.list ((Ah done.length).map tN))), a, b, c, none]) ⟨none, none, none, rfl⟩ ?_ ?_
 ·rintro done x rest env Q he ⟨a, b, c, rfl⟩ hQ
  obtain ⟨hx, hxk⟩ := Gu he
  have hlen := Jh (done.length + 1) (by omega)
  simp -implicitDefEqProofs
  refine Pu.for_ (f := tN) (xs := Ah done.length) (fun d2 env => ∃ (c : Option Sv), env = [some (.d (.int many)), some (.d (.list ((Ah done.length).map tN))), some (.d (nI x)), some (.d (.list ((d2.flatMap fun row => (List.range (maxN row + 2)).map fun h => row ++ [h]).map tN))), c, none]) ⟨c, rfl⟩ ?_ ?_
  ·rintro d2 row rest2 env Q he2 ⟨c, rfl⟩ hQ
   have hrow : row ∈ Ah done.length := by rw [he2]; simp
   obtain ⟨hl, hn⟩ := Cz.mp hrow
   have hne : row ≠ [] := by intro z; subst z; simp at hl
   have hm := ac3 hne
   have hmx : maxN row < 8 := VL (by omega) fun y hy => by
    rw [← hn] at hy
    have := SQ hy
    omega
   obtain ⟨mx, hmx2⟩ : ∃ mx, mx = maxN row + 2 := ⟨_, rfl⟩
   have e2 : (maxN row : Int) + 2 = (mx : Int) := by omega
   have er2 := Io mx (by omega)
   have hadd : ∀ h : Nat, gAdd (.d (tN row)) (.d (.tuple [.int h])) = some (.d (tN (row ++ [h]))) := by
    intro h
    have : row.length + 1 ≤ sizeLine := by rw [sizeLine_eq]; omega
    simp [gAdd, hAdd, hne, this]
   have c3 : lcA (lN Jg (Aa (c2 gAdd (cN (on1 hMax) (Aa (vT 4) aNil)) (kC (.int 2))) aNil)) (gN 5) bYes (c2 gAdd (vT 4) (cN Bg (Aa (vT 5) aNil))) [5] [some (.d (.int many)), some (.d (.list ((Ah done.length).map tN))), some (.d (nI x)), some (.d (.list ((d2.flatMap fun row => (List.range (maxN row + 2)).map fun h => row ++ [h]).map tN))), some (.d (tN row)), none] = ret ((List.range mx).map fun h => tN (row ++ [h])) := by
    refine Ot (f := nI) (by simp -implicitDefEqProofs [hm, e2, er2]) (by rw [sizeLine_eq]; simp; omega) fun h _ => ?_
    simp -implicitDefEqProofs [hadd]
   have hsum : (d2.flatMap fun row => (List.range (maxN row + 2)).map fun h => row ++ [h]).length + mx ≤ sizeLine := by
    have e5 : (Ah (done.length + 1)).length = ((d2 ++ row :: rest2).flatMap fun row => (List.range (maxN row + 2)).map fun h => row ++ [h]).length := by
     rw [← he2]; rfl
    rw [List.flatMap_append, List.length_append, List.flatMap_cons, List.length_append] at e5
    simp only [List.length_map, List.length_range] at e5
    rw [sizeLine_eq]
    omega
   have hg : gAdd (.d (.list ((d2.flatMap fun row => (List.range (maxN row + 2)).map fun h => row ++ [h]).map tN))) (.d (.list ((List.range mx).map fun h => tN (row ++ [h])))) = some (.d (.list (((d2 ++ [row]).flatMap fun row => (List.range (maxN row + 2)).map fun h => row ++ [h]).map tN))) := by
    simp only [gAdd, Xh, hAdd, List.length_map, List.length_range]
    rw [if_pos hsum]
    simp [List.flatMap_append, hmx2]
   simp -implicitDefEqProofs [c3, hg]
   exact Pu.ret (hQ _ ⟨some (.d (tN row)), by simp⟩)
  ·rintro env ⟨c, rfl⟩
   simp -implicitDefEqProofs
   exact Pu.ret (hQ _ ⟨_, _, _, by rw [List.length_append]; rfl⟩)
 ·rintro env ⟨a, b, c, rfl⟩
  rw [List.length_range]
  simp -implicitDefEqProofs
  exact Pu.ret rfl
theorem aaw {ns : List Nat} (hne : ns ≠ []) (hl : ns.length ≤ 8) (hm : maxN ns < 100) : Gm [.d (tN ns)] = ret (.d (lL (clsOf ns))) := by
 first | refine Ji ?_ | refine Hq ?_
 unfold HF Bj
 have h1 := ac3 hne
 obtain ⟨mx, hmx⟩ : ∃ mx, mx = maxN ns + 1 := ⟨_, rfl⟩
 have e2 : (maxN ns : Int) + 1 = (mx : Int) := by omega
 have er2 := Io mx (by omega)
 have c3 : lcA (lN Jg (Aa (c2 gAdd (cN (on1 hMax) (Aa (vT 0) aNil)) (kC (.int 1))) aNil)) (gN 1) bYes (fD (lcA (lN TY (Aa (vT 0) aNil)) (gT [(gN 2), (gN 3)]) (bV (c2 gEq (vT 3) (vT 1))) (vT 2) [2, 3])) [1] [some (.d (tN ns)), none, none, none] = ret ((List.range mx).map fun b => lI (clsB ns b)) := by
  refine Ot (f := nI) (by simp -implicitDefEqProofs [h1, e2, er2]) (by rw [sizeLine_eq]; simp; omega) fun b _ => ?_
  have c4 : lcA (lN TY (Aa (vT 0) aNil)) (gT [(gN 2), (gN 3)]) (bV (c2 gEq (vT 3) (vT 1))) (vT 2) [2, 3] [some (.d (tN ns)), some (.d (nI b)), none, none] = ret ((ns.zipIdx.filter fun q => decide (q.1 = b)).map fun q => nI q.2) := by
   refine VR (f := fun q : Nat × Nat => .tuple [nI q.2, nI q.1]) (by simp -implicitDefEqProofs [Xn nI ns]) (by rw [sizeLine_eq]; simp; omega) (fun q _ => ?_) (fun q _ _ => ?_)
   ·have : decide ((q.1 : Int) = b) = decide (q.1 = b) := by rw [decide_eq_decide]; omega
    simp -implicitDefEqProofs [this]
   ·simp -implicitDefEqProofs
  simp -implicitDefEqProofs [c4, lI, clsB, Function.comp_def]
 simp -implicitDefEqProofs [c3, lL, clsOf, hmx, Function.comp_def]
def abW (xs ys : List Nat) : Bool := xs.zipIdx.all fun q => (List.range q.2).all fun b => !(decide (at0 xs b = q.1) && !decide (at0 ys q.2 = at0 ys b))
theorem Vi {xs ys : List Nat} : abW xs ys = true ↔ ∀ a b, a < xs.length → b < xs.length → at0 xs a = at0 xs b → at0 ys a = at0 ys b := by
 unfold abW
 simp only [List.all_eq_true, List.mem_range, Bool.not_eq_true', Bool.and_eq_false_iff, decide_eq_false_iff_not, Bool.not_eq_false', decide_eq_true_eq]
 have key : (∀ q ∈ xs.zipIdx, ∀ b, b < q.2 → (¬ at0 xs b = q.1 ∨ at0 ys q.2 = at0 ys b)) ↔ ∀ a b, a < xs.length → b < a → at0 xs b = at0 xs a → at0 ys a = at0 ys b := by
  constructor
  ·intro h a b ha hb e
   have := h (at0 xs a, a) (by rw [List.mem_zipIdx_iff_getElem?, Fg ha]; simp [ha]) b hb
   exact this.resolve_left fun z => z e
  ·rintro h ⟨x, a⟩ hq b hb
   rw [List.mem_zipIdx_iff_getElem?] at hq
   obtain ⟨h1, h2⟩ := List.getElem?_eq_some_iff.mp hq
   dsimp only at h1 h2 hb ⊢
   by_cases e : at0 xs b = x
   ·exact .inr (h a b h1 hb (by rw [Fg h1, h2, e]))
   ·exact .inl e
 rw [key]
 constructor
 ·intro h a b ha hb e
  rcases Nat.lt_trichotomy a b with q | q | q
  ·exact (h b a hb q e).symm
  ·rw [q]
  ·exact h a b ha q e.symm
 ·intro h a b ha hb e
  exact h a b ha (by omega) e.symm
end KG
namespace KP
open PySem PySem.Spec PyProof.Rows L2
def hd0 (c : List Nat) : Nat := c.headD 0
def Qm (cs : List (List Nat)) : List (Nat × Nat) := cs.flatMap fun c => c.tail.map fun k => (hd0 c, k)
def Qv (cs : List (List Nat)) (ps : List (Nat × Nat)) : List (List Nat) := ps.foldl (fun cs p => Oq cs p.1 p.2) cs
theorem Nz (cs : List (List Nat)) (ps : List (Nat × Nat)) (p : Nat × Nat) : Qv cs (ps ++ [p]) = Oq (Qv cs ps) p.1 p.2 := by simp [Qv]
section
variable {n : Nat} {cs : List (List Nat)}
theorem Cls.fold (h : Cls n cs) : ∀ (ps : List (Nat × Nat)), (∀ p ∈ ps, p.1 < n ∧ p.2 < n) → Cls n (Qv cs ps) ∧ (Qv cs ps).length ≤ cs.length := by
 intro ps
 induction ps using Ew with
 | h0 => intro _; exact ⟨h, Nat.le_refl _⟩
 | h1 ps p ih =>
  intro hp
  obtain ⟨h1, h2⟩ := ih fun q hq => hp q (by simp [hq])
  rw [Nz]
  exact ⟨h1.merged _ _, Nat.le_trans (aah h1 (hp p (by simp)).1) h2⟩
theorem adk (h : Cls n cs) {a b : Nat} (ha : a < n) (hb : b < n) (hr : relC cs a b) : ∀ (ps : List (Nat × Nat)), (∀ p ∈ ps, p.1 < n ∧ p.2 < n) → relC (Qv cs ps) a b := by
 intro ps
 induction ps using Ew with
 | h0 => intro _; exact hr
 | h1 ps p ih =>
  intro hp
  have hp' : ∀ p ∈ ps, p.1 < n ∧ p.2 < n := fun q hq => hp q (by simp [hq])
  rw [Nz, Ol (Cls.fold h ps hp').1 ha hb]
  exact .inl (ih hp')
theorem adl (h : Cls n cs) : ∀ (ps : List (Nat × Nat)), (∀ p ∈ ps, p.1 < n ∧ p.2 < n) → ∀ p ∈ ps, relC (Qv cs ps) p.1 p.2 := by
 intro ps
 induction ps using Ew with
 | h0 => intro _ p hp; simp at hp
 | h1 ps q ih =>
  intro hp p hpm
  have hp' : ∀ p ∈ ps, p.1 < n ∧ p.2 < n := fun q hq => hp q (by simp [hq])
  have C := (Cls.fold h ps hp').1
  have hb := hp p hpm
  rw [Nz, Ol C hb.1 hb.2]
  rcases List.mem_append.mp hpm with z | z
  ·exact .inl (ih hp' p z)
  ·have : p = q := by simpa using z
   subst this
   exact .inr ⟨.inl (C.refl hb.1), .inr (C.refl hb.2)⟩
theorem aap (h : Cls n cs) (R : Nat → Nat → Prop) (sy : ∀ a b, R a b → R b a) (tr : ∀ a b c, R a b → R b c → R a c) (h0 : ∀ a b, a < n → b < n → relC cs a b → R a b) : ∀ (ps : List (Nat × Nat)), (∀ p ∈ ps, p.1 < n ∧ p.2 < n) → (∀ p ∈ ps, R p.1 p.2) → ∀ a b, a < n → b < n → relC (Qv cs ps) a b → R a b := by
 intro ps
 induction ps using Ew with
 | h0 => intro _ _; exact h0
 | h1 ps q ih =>
  intro hp hR a b ha hb
  have hp' : ∀ p ∈ ps, p.1 < n ∧ p.2 < n := fun q hq => hp q (by simp [hq])
  have C := (Cls.fold h ps hp').1
  have IH := ih hp' fun p hq => hR p (by simp [hq])
  have hq := hp q (by simp)
  have Rq := hR q (by simp)
  rw [Nz, Ol C ha hb]
  have toOne : ∀ x, x < n → (relC (Qv cs ps) x q.1 ∨ relC (Qv cs ps) x q.2) → R x q.1 := by
   intro x hx hh
   rcases hh with z | z
   ·exact IH x q.1 hx hq.1 z
   ·exact tr _ _ _ (IH x q.2 hx hq.2 z) (sy _ _ Rq)
  rintro (z | ⟨z1, z2⟩)
  ·exact IH a b ha hb z
  ·exact tr _ _ _ (toOne a ha z1) (sy _ _ (toOne b hb z2))
end
theorem Xu (ns : List Nat) : (clsOf ns).length = maxN ns + 1 := by simp [clsOf]
theorem Hg {n : Nat} {cs : List (List Nat)} (h : Cls n cs) {p : Nat × Nat} (hp : p ∈ Qm cs) : p.1 < n ∧ p.2 < n := by
 obtain ⟨c, hc, hp⟩ := List.mem_flatMap.mp hp
 obtain ⟨k, hk, rfl⟩ := List.mem_map.mp hp
 cases c with
 | nil => simp at hk
 | cons x c => exact ⟨h.lt hc (by simp [hd0]), h.lt hc (by simp at hk; simp [hk])⟩
theorem abl {cs : List (List Nat)} (R : Nat → Nat → Prop) (rf : ∀ c ∈ cs, ∀ x ∈ c, R x x) (sy : ∀ a b, R a b → R b a) (tr : ∀ a b c, R a b → R b c → R a c) (hp : ∀ p ∈ Qm cs, R p.1 p.2) {a b : Nat} (h : relC cs a b) : R a b := by
 obtain ⟨c, hc, ha, hb⟩ := h
 have key : ∀ x ∈ c, R (hd0 c) x := by
  intro x hx
  cases c with
  | nil => simp at hx
  | cons y c =>
   rcases List.mem_cons.mp hx with rfl | hx
   ·exact rf _ hc _ (by simp [hd0])
   ·exact hp (hd0 (y :: c), x) (List.mem_flatMap.mpr ⟨_, hc, List.mem_map.mpr ⟨x, by simpa using hx, rfl⟩⟩)
 exact tr _ _ _ (sy _ _ (key a ha)) (key b hb)
theorem aa5 {ns : List Nat} {p : Nat × Nat} (hp : p ∈ Qm (clsOf ns)) : at0 ns p.1 = at0 ns p.2 := by
 have hl := Hg (Cls.of ns) hp
 refine (Mj hl.1 hl.2).mp ?_
 obtain ⟨c, hc, hp⟩ := List.mem_flatMap.mp hp
 obtain ⟨k, hk, rfl⟩ := List.mem_map.mp hp
 cases c with
 | nil => simp at hk
 | cons x c => exact ⟨_, hc, by simp [hd0], by simp at hk; simp [hk]⟩
def G6 (xs ys : List Nat) : List Nat := numb ((List.range xs.length).map (Yw (Qv (clsOf xs) (Qm (clsOf ys)))))
theorem RG {α : Type} [DecidableEq α] {xs : List α} {a b : Nat} (ha : a < xs.length) (hb : b < xs.length) : at0 (numb xs) a = at0 (numb xs) b ↔ xs[a] = xs[b] := by
 rw [Fg (by rw [JS]; exact ha), Fg (by rw [JS]; exact hb)]
 exact S9 ha hb
section
variable {n : Nat} {xs ys : List Nat}
theorem TJ (hx : xs.length = n) (hy : ys.length = n) {a b : Nat} (ha : a < n) (hb : b < n) : at0 (G6 xs ys) a = at0 (G6 xs ys) b ↔ relC (Qv (clsOf xs) (Qm (clsOf ys))) a b := by
 have Cx : Cls n (clsOf xs) := hx ▸ Cls.of xs
 have Cy : Cls n (clsOf ys) := hy ▸ Cls.of ys
 unfold G6
 rw [hx, RG (by simpa using ha) (by simpa using hb)]
 simp only [List.getElem_map, List.getElem_range]
 rw [Zt (Cls.fold Cx _ fun p hp => Hg Cy hp).1 ha hb]
theorem abE (hx : xs.length = n) : (G6 xs ys).length = n := by simp [G6, JS, hx]
theorem abD : numb (G6 xs ys) = G6 xs ys := W7 _
theorem aal (hx : xs.length = n) (hy : ys.length = n) {a b : Nat} (ha : a < n) (hb : b < n) (h : at0 xs a = at0 xs b) : at0 (G6 xs ys) a = at0 (G6 xs ys) b := by
 have Cx : Cls n (clsOf xs) := hx ▸ Cls.of xs
 have Cy : Cls n (clsOf ys) := hy ▸ Cls.of ys
 rw [TJ hx hy ha hb]
 exact adk Cx ha hb ((Mj (by omega) (by omega)).mpr h) _ fun p hp => Hg Cy hp
theorem Yt (hx : xs.length = n) (hy : ys.length = n) {a b : Nat} (ha : a < n) (hb : b < n) (h : at0 ys a = at0 ys b) : at0 (G6 xs ys) a = at0 (G6 xs ys) b := by
 have Cx : Cls n (clsOf xs) := hx ▸ Cls.of xs
 have Cy : Cls n (clsOf ys) := hy ▸ Cls.of ys
 rw [TJ hx hy ha hb]
 obtain ⟨C, _⟩ := Cls.fold Cx _ fun p hp => Hg Cy hp
 exact abl (cs := clsOf ys) (relC (Qv (clsOf xs) (Qm (clsOf ys)))) (fun c hc x hx => C.refl (Cy.lt hc hx)) (fun a b h => h.symm) (fun a b c h1 h2 => C.trans h1 h2) (adl Cx _ fun p hp => Hg Cy hp) ((Mj (by omega) (by omega)).mpr h)
theorem TQ (hx : xs.length = n) (hy : ys.length = n) (R : Nat → Nat → Prop) (sy : ∀ a b, R a b → R b a) (tr : ∀ a b c, R a b → R b c → R a c) (h1 : ∀ a b, a < n → b < n → at0 xs a = at0 xs b → R a b) (h2 : ∀ a b, a < n → b < n → at0 ys a = at0 ys b → R a b) {a b : Nat} (ha : a < n) (hb : b < n) (h : at0 (G6 xs ys) a = at0 (G6 xs ys) b) : R a b := by
 have Cx : Cls n (clsOf xs) := hx ▸ Cls.of xs
 have Cy : Cls n (clsOf ys) := hy ▸ Cls.of ys
 rw [TJ hx hy ha hb] at h
 refine aap Cx R sy tr (fun a b ha hb z => h1 a b ha hb ((Mj (by omega) (by omega)).mp z)) _ (fun p hp => Hg Cy hp) (fun p hp => ?_) a b ha hb h
 have := Hg Cy hp
 exact h2 p.1 p.2 this.1 this.2 (aa5 hp)
theorem Od {us vs : List Nat} (hl : us.length = vs.length) (h : ∀ a b, a < us.length → b < us.length → (at0 us a = at0 us b ↔ at0 vs a = at0 vs b)) : numb us = numb vs :=
 U9 hl fun i j hi hj hi' hj' => by
  have := h i j hi hj
  rwa [Fg hi, Fg hj, Fg hi', Fg hj'] at this
end
def Ip (p : List Nat) (one far : Nat) : List Nat := p.map fun b => if b = at0 p far then at0 p one else b
theorem Oo (p : List Nat) (one far : Nat) : (Ip p one far).length = p.length := by simp [Ip]
theorem Vo {p : List Nat} {one far a : Nat} (ha : a < p.length) : at0 (Ip p one far) a = if at0 p a = at0 p far then at0 p one else at0 p a := by
 unfold Ip
 rw [YJ ha, Fg ha]
theorem Qq {p : List Nat} {one far a b : Nat} (ha : a < p.length) (hb : b < p.length) : at0 (Ip p one far) a = at0 (Ip p one far) b ↔ at0 p a = at0 p b ∨ ((at0 p a = at0 p one ∨ at0 p a = at0 p far) ∧ (at0 p b = at0 p one ∨ at0 p b = at0 p far)) := by
 rw [Vo ha, Vo hb]
 split <;> split <;> omega
end KP
namespace KG
open PySem PySem.Spec PyProof.Rows L2 KP
@[simp] theorem ajc (env : En) (g : Va → Option Int → Option Int → Option Va) (f : DF) (lo hi : Option DF) : eSl g f lo hi env = bnd (f env) fun v => bnd (Ux lo env) fun a => bnd (Ux hi env) fun b => ofO (g v a b) := rfl
@[simp] theorem afQ (env : En) : Ux none env = ret none := rfl
@[simp] theorem afP (env : En) (g : DF) : Ux (some g) env = bnd (g env) fun v => bnd (ofO v.asI) fun i => ret (some i) := rfl
theorem adA (xs : List PyData) (k : Nat) : gSlL (.d (.list xs)) (some (k : Int)) none = some (.d (.list (xs.drop k))) := by
 simp only [gSlL, KP.cutD, HT.sIx_nat, HT.sIx_none]
 congr 3
 by_cases h : k ≤ xs.length
 ·rw [Nat.min_eq_left h, List.take_of_length_le (by simp)]
 ·rw [Nat.min_eq_right (by omega), List.drop_eq_nil_of_le (Nat.le_refl _), List.drop_eq_nil_of_le (by omega)]; simp
theorem ad4 (xs : List PyData) (k : Nat) : gSlL (.d (.list xs)) none (some (k : Int)) = some (.d (.list (xs.take k))) := by
 simp only [gSlL, KP.cutD, HT.sIx_nat, HT.sIx_none]
 congr 3
 rw [List.drop_zero, Nat.sub_zero]
 by_cases h : k ≤ xs.length
 ·rw [Nat.min_eq_left h]
 ·rw [Nat.min_eq_right (by omega), List.take_of_length_le (Nat.le_refl _), List.take_of_length_le (by omega)]
@[simp] theorem afO (env : En) (i : Nat) (fk fx fw : DF) (g : Va → Va → Option Va) (a b : SF) : aet i fk fx fw g a b env = bnd (ofO ((lk env i).bind Sv.asDD)) fun d => lift env (fk env) fun kv => bnd (ofO kv.asD) fun k => lift env (fx env) fun xv => bnd (ofO xv.asD) fun x => bnd (ofO (d.setd k x)) fun r =>
 lift (env.set i (some (.dd r.2))) (fw (env.set i (some (.dd r.2)))) fun w => bnd (ofO ((g (.d r.1) w).bind toB)) fun t => if t = true then a (env.set i (some (.dd r.2))) else b (env.set i (some (.dd r.2))) := rfl
def blkF (ns : List Nat) (m j : Nat) : List (List Nat) := (List.range m).map fun b => (clsB ns b).filter fun k => decide (k < j)
theorem Xv (ns : List Nat) (b j : Nat) (hj : j < ns.length) : ((clsB ns b).filter fun k => decide (k < j + 1)) = ((clsB ns b).filter fun k => decide (k < j)) ++ (if at0 ns j = b then [j] else []) := by
 have hs := ZL ns b
 have key : ∀ (m : Nat), m ≤ ns.length → ∀ l : List Nat, l.Sublist (List.range m) → (l.filter fun k => decide (k < j + 1)) = (l.filter fun k => decide (k < j)) ++ (if j ∈ l then [j] else []) := by
  intro m
  induction m with
  | zero => intro _ l hl; simp at hl; subst hl; simp
  | succ m ih =>
   intro hm l hl
   rw [List.range_succ] at hl
   obtain ⟨l1, l2, rfl, h1, h2⟩ := List.sublist_append_iff.mp hl
   rw [List.filter_append, List.filter_append, ih (by omega) l1 h1]
   have hl2 : l2 = [] ∨ l2 = [m] := by
    cases l2 with
    | nil => exact .inl rfl
    | cons x l2 =>
     have := h2
     cases this with
     | cons _ q => simp at q
     | cons_cons _ q => simp at q; subst q; exact .inr rfl
   have hl1 : ∀ x ∈ l1, x < m := fun x hx => by simpa using h1.subset hx
   rcases hl2 with rfl | rfl
   ·simp
   ·by_cases e : m = j
    ·subst e
     have : m ∉ l1 := fun z => Nat.lt_irrefl _ (hl1 m z)
     simp [this]
    ·by_cases e2 : m < j
     ·have hj1 : j ∉ l1 := fun z => by have := hl1 j z; omega
      have e3 : ¬ j = m := fun z => e z.symm
      have e4 : m < j + 1 := by omega
      simp [hj1, e2, e3, e4]
     ·have e3 : ¬ j = m := fun z => e z.symm
      have e4 : ¬ m < j + 1 := by omega
      simp [e2, e3, e4]
 rw [key ns.length (Nat.le_refl _) _ hs]
 congr 1
 have : (j ∈ clsB ns b) ↔ at0 ns j = b := by rw [Hv]; simp [hj]
 by_cases q : at0 ns j = b
 ·rw [if_pos q, if_pos (this.mpr q)]
 ·rw [if_neg q, if_neg (fun z => q (this.mp z))]
theorem acg {ns : List Nat} {m j : Nat} (hj : j < ns.length) (hm : at0 ns j < m) : blkF ns m (j + 1) = (blkF ns m j).set (at0 ns j) ((blkF ns m j)[at0 ns j]'(by simpa [blkF] using hm) ++ [j]) := by
 apply List.ext_getElem (by simp [blkF])
 intro i h1 h2
 have hi : i < m := by simpa [blkF] using h1
 by_cases e : i = at0 ns j
 ·subst e
  rw [List.getElem_set_self]
  simp only [blkF, List.getElem_map, List.getElem_range]
  rw [Xv ns _ j hj, if_pos rfl]
 ·rw [List.getElem_set_ne (Ne.symm e)]
  simp only [blkF, List.getElem_map, List.getElem_range]
  rw [Xv ns _ j hj, if_neg (fun z => e z.symm)]; simp
theorem Xx {ns : List Nat} (hne : ns ≠ []) (hl : ns.length ≤ 8) (hm : maxN ns < 100) : JF [.d (tN ns)] = ret (.d (lL (clsOf ns))) := by
 refine Pu.eq (Pu.run ?_)
 unfold Lh Bj
 have h1 := ac3 hne
 obtain ⟨mx, hmx⟩ : ∃ mx, mx = maxN ns + 1 := ⟨_, rfl⟩
 have e2 : (maxN ns : Int) + 1 = (mx : Int) := by omega
 have er2 := Io mx (by omega)
 have hz : mx ≤ sizeLine := by rw [sizeLine_eq]; omega
 simp -implicitDefEqProofs [h1, e2, er2, hz]
 rw [Uh (g := fun _ => []) (by simp)]
 simp -implicitDefEqProofs [Xn nI ns]
 have h0 : List.map (fun _ : Nat => ([] : List PyData)) (List.range mx) = rL (blkF ns mx 0) := by
  simp only [rL, blkF, List.map_map]
  apply List.map_congr_left
  intro b _
  simp
 rw [h0]
 refine Pu.for_ (f := fun q : Nat × Nat => .tuple [nI q.2, nI q.1]) (xs := ns.zipIdx) (fun done env => ∃ (a b : Option Sv), env = [some (.d (tN ns)), some (.l2 (rL (blkF ns mx done.length))), a, b]) ⟨none, none, rfl⟩ ?_ ?_
 ·rintro done ⟨x, i⟩ rest env Q he ⟨a, b, rfl⟩ hQ
  obtain ⟨hi, hil, hx⟩ := aaE he
  have hxa : at0 ns i = x := by rw [Fg hil]; exact (List.getElem?_eq_some_iff.mp hx).2
  have hxm : x < mx := by have := Yq (Wk hil); omega
  have hRl : (blkF ns mx done.length).length = mx := by simp [blkF]
  have hxR : x < (blkF ns mx done.length).length := by omega
  have e1 := ixN_nat (n := mx) (k := x) hxm
  have e4 : ((blkF ns mx done.length)[x]).length < sizeLine := by
   rw [sizeLine_eq]
   simp only [blkF, List.getElem_map, List.getElem_range]
   have := Nat.le_trans (List.length_filter_le (fun k => decide (k < done.length)) (clsB ns x)) (adE ns x)
   omega
  have hs := aa9 (R := blkF ns mx done.length) (g := i) hxR
  have st := acg (m := mx) hil (by omega)
  have hget : (blkF ns mx done.length)[x]? = some (blkF ns mx done.length)[x] := List.getElem?_eq_getElem hxR
  simp -implicitDefEqProofs [hRl, e1, hget, e4]
  refine Pu.ret (hQ _ ⟨some (.d (nI i)), some (.d (nI x)), ?_⟩)
  rw [List.length_append]
  have e5 : done.length + [(x, i)].length = i + 1 := by rw [hi]; rfl
  rw [e5, st, ← aa9]
  subst hxa; subst hi; rfl
 ·rintro env ⟨a, b, rfl⟩
  rw [List.length_zipIdx]
  simp -implicitDefEqProofs
  refine Pu.ret ?_
  have e3 : blkF ns mx ns.length = clsOf ns := by
   unfold blkF clsOf
   rw [hmx]
   apply List.map_congr_left
   intro b _
   rw [List.filter_eq_self]
   intro k hk
   simpa using (Hv.mp hk).1
  rw [e3]
  simp [rL, lL, Function.comp_def]
structure Known (xs ys : List Nat) (i : Nat) (kvs : List (Key × PyData)) : Prop where
 has : ∀ j, j < i → valD kvs (KG.kN (at0 xs j)) = some (nI (at0 ys j))
 non : ∀ x : Nat, (∀ j, j < i → at0 xs j ≠ x) → valD kvs (KG.kN x) = none
 len : kvs.length ≤ i
theorem Known.nil (xs ys : List Nat) : Known xs ys 0 [] := ⟨fun j hj => absurd hj (Nat.not_lt_zero _), fun _ _ => rfl, Nat.le_refl _⟩
def colN (rows : List (List Nat)) (ys : List Nat) (j : Nat) : List Nat := rows.map fun r => at0 ys (at0 r j)
def Hi (rows : List (List Nat)) (a j : Nat) : Nat := at0 (atR rows a) j
def abu (rows : List (List Nat)) (l : Nat) (xs ys : List Nat) : Bool := (List.range l).all fun j => abW xs (colN rows ys j)
theorem Wf {rows : List (List Nat)} {ys : List Nat} {j a : Nat} (h : a < rows.length) : at0 (colN rows ys j) a = at0 ys (Hi rows a j) := by
 unfold colN Hi
 rw [YJ h, ad6 h]
theorem Vd {rows : List (List Nat)} {l n : Nat} {xs ys : List Nat} (hr : rows.length = n) (hx : xs.length = n) : abu rows l xs ys = true ↔ ∀ j, j < l → ∀ a b, a < n → b < n → at0 xs a = at0 xs b → at0 ys (Hi rows a j) = at0 ys (Hi rows b j) := by
 unfold abu
 rw [List.all_eq_true]
 constructor
 ·intro h j hj a b ha hb e
  have := Vi.mp (h j (by simpa using hj)) a b (by omega) (by omega) e
  rwa [Wf (by omega), Wf (by omega)] at this
 ·intro h j hj
  rw [Vi]
  intro a b ha hb e
  rw [Wf (by omega), Wf (by omega)]
  exact h j (by simpa using hj) a b (by omega) (by omega) e
theorem Mach.Lf {rows : List (List Nat)} {sh : List Nat} {n l : Nat} (M : Mach rows sh n l) {a j : Nat} (ha : a < n) (hj : j < l) : Hi rows a j < n := M.aiH (afG (by rw [M.len]; exact ha)) hj
section
variable {rows : List (List Nat)} {sh : List Nat} {n l : Nat} {xs ys : List Nat}
theorem acz {c : List Nat} {k : Nat} (h : k ∈ c.tail) : hd0 c ∈ c ∧ k ∈ c := by
 cases c with
 | nil => simp at h
 | cons x c => exact ⟨by simp [hd0], by simp at h; simp [h]⟩
end
section
variable {rows : List (List Nat)} {sh : List Nat} {n l : Nat} {xs ys : List Nat}
theorem Mach.text (M : Mach rows sh n l) {b : Nat} {bs : List Nat} (hb : 2 ≤ b) : Jq (b :: 8 :: 8 :: bs) (mM rows sh) = true := by
 have h8 := M.n8
 have h4 := M.l4
 have hn := M.len
 have hs := M.slen
 exact abU (by simpa using hb) (all2 (afg (by omega) fun r hr => V7 (by have := (M.row r hr).1; omega) fun x hx => by have := (M.row r hr).2 x hx; omega) (V7 (by omega) fun x hx => by have := M.sh9 x hx; omega))
theorem Part.text {ns : List Nat} (h : Part ns n) (h8 : n ≤ 8) {bs : List Nat} : Jq (8 :: bs) (tN ns) = true := V7 (by rw [h.len]; exact h8) fun x hx => by have := h.lt hx; omega
end
section
variable {rows : List (List Nat)} {sh : List Nat} {n l : Nat} {xs ys : List Nat}
theorem WD (M : Mach rows sh n l) : OD [.d (mM rows sh)] = ret (.d (tN (List.range n))) := by
 first | refine Ji ?_ | refine Hq ?_
 unfold Lg Bj
 have h8 := M.n8
 have trg : gTRg (.d (.int n)) = some (.d (tN (List.range n))) := by
  simp only [gTRg, Vx]
  rw [if_pos (by omega)]
 simp -implicitDefEqProofs [Ks M, trg]
end
section
variable {rows : List (List Nat)} {sh : List Nat} {n l : Nat} {xs ys : List Nat} {cs : List (List Nat)}
structure Clo (rows : List (List Nat)) (n l : Nat) (cs ds : List (List Nat)) : Prop where
 cls : Cls n ds
 len : ds.length ≤ cs.length
 sup : ∀ a b, a < n → b < n → relC cs a b → relC ds a b
 shut : ∀ c ∈ ds, ∀ j, j < l → ∀ a ∈ c, ∀ b ∈ c, relC ds (Hi rows a j) (Hi rows b j)
 least : ∀ R : Nat → Nat → Prop, (∀ a b, R a b → R b a) → (∀ a b c, R a b → R b c → R a c) → (∀ a b, a < n → b < n → relC cs a b → R a b) → (∀ j, j < l → ∀ a b, a < n → b < n → R a b → R (Hi rows a j) (Hi rows b j)) → ∀ a b, a < n → b < n → relC ds a b → R a b
end
section
variable {rows : List (List Nat)} {sh : List Nat} {n l : Nat} {xs p : List Nat} {ps : List (Nat × Nat)}
structure KInv (rows : List (List Nat)) (n l : Nat) (xs p : List Nat) (ps : List (Nat × Nat)) : Prop where
 len : p.length = n
 prs : ∀ q ∈ ps, q.1 < n ∧ q.2 < n
 low : ∀ R : Nat → Nat → Prop, (∀ a b, R a b → R b a) → (∀ a b c, R a b → R b c → R a c) → (∀ a b, a < n → b < n → at0 xs a = at0 xs b → R a b) → (∀ j, j < l → ∀ a b, a < n → b < n → R a b → R (Hi rows a j) (Hi rows b j)) →
  (∀ a b, a < n → b < n → at0 p a = at0 p b → R a b) ∧ ∀ q ∈ ps, R q.1 q.2
 up : ∀ T : Nat → Nat → Prop, (∀ a b, T a b → T b a) → (∀ a b c, T a b → T b c → T a c) → (∀ a b, a < n → b < n → at0 p a = at0 p b → T a b) → (∀ q ∈ ps, T q.1 q.2) →
  (∀ a b, a < n → b < n → at0 xs a = at0 xs b → T a b) ∧ ∀ j, j < l → ∀ a b, a < n → b < n → at0 p a = at0 p b → T (Hi rows a j) (Hi rows b j)
def TV (cs : List (List Nat)) : List (Nat × Nat) := cs.flatMap fun c => c.tail.map fun k => (hd0 c, k)
theorem Pk {q : Nat × Nat} {cs : List (List Nat)} (h : q ∈ TV cs) : ∃ c ∈ cs, q.1 ∈ c ∧ q.2 ∈ c := by
 obtain ⟨c, hc, h⟩ := List.mem_flatMap.mp h
 obtain ⟨k, hk, rfl⟩ := List.mem_map.mp h
 obtain ⟨m1, m2⟩ := acz hk
 exact ⟨c, hc, m1, m2⟩
theorem abL {T : Nat → Nat → Prop} {cs : List (List Nat)} (h : ∀ q ∈ TV cs, T q.1 q.2) {c : List Nat} (hc : c ∈ cs) {a : Nat} (ha : a ∈ c) (rf : T a a) : T (hd0 c) a := by
 cases c with
 | nil => simp at ha
 | cons x r =>
  rcases List.mem_cons.mp ha with e | e
  ·rw [e] at rf ⊢; exact rf
  ·exact h (x, a) (List.mem_flatMap.mpr ⟨_, hc, List.mem_map.mpr ⟨a, e, rfl⟩⟩)
theorem KInv.start (M : Mach rows sh n l) (hx : xs.length = n) : KInv rows n l xs (List.range n) (TV (clsOf xs)) := by
 have Cx : Cls n (clsOf xs) := hx ▸ Cls.of xs
 have eqr : ∀ a b, a < n → b < n → at0 (List.range n) a = at0 (List.range n) b → a = b := fun a b ha hb e => by
  rw [Fg (by simpa using ha), Fg (by simpa using hb)] at e
  simpa using e
 refine ⟨by simp, fun q hq => ?_, fun R sy tr h1 h2 => ⟨fun a b ha hb e => ?_, fun q hq => ?_⟩, fun T sy tr h1 h2 => ⟨fun a b ha hb e => ?_, fun j hj a b ha hb e => ?_⟩⟩
 ·obtain ⟨c, hc, m1, m2⟩ := Pk hq
  exact ⟨Cx.lt hc m1, Cx.lt hc m2⟩
 ·rw [eqr a b ha hb e]; exact h1 b b hb hb rfl
 ·obtain ⟨c, hc, m1, m2⟩ := Pk hq
  have l1 := Cx.lt hc m1
  have l2 := Cx.lt hc m2
  exact h1 _ _ l1 l2 ((Mj (by omega) (by omega)).mp ⟨c, hc, m1, m2⟩)
 ·obtain ⟨c, hc, m1, m2⟩ := (Mj (ns := xs) (by omega) (by omega)).mpr e
  have r1 := abL h2 hc m1 (h1 a a ha ha rfl)
  have r2 := abL h2 hc m2 (h1 b b hb hb rfl)
  exact tr _ _ _ (sy _ _ r1) r2
 ·rw [eqr a b ha hb e]
  have := M.Lf hb hj
  exact h1 _ _ this this rfl
def abN (rows : List (List Nat)) (l x y : Nat) : List (Nat × Nat) := (List.range l).map fun j => (Hi rows x j, Hi rows y j)
theorem KInv.merge (M : Mach rows sh n l) {x y : Nat} (K : KInv rows n l xs p (ps ++ [(x, y)])) : KInv rows n l xs (Ip p x y) (ps ++ abN rows l x y) := by
 obtain ⟨l1, l2⟩ := K.prs (x, y) (by simp)
 have hl := K.len
 have mr : ∀ a b, a < n → b < n → (at0 (Ip p x y) a = at0 (Ip p x y) b ↔ at0 p a = at0 p b ∨ ((at0 p a = at0 p x ∨ at0 p a = at0 p y) ∧ (at0 p b = at0 p x ∨ at0 p b = at0 p y))) := fun a b ha hb => Qq (by omega) (by omega)
 refine ⟨by rw [Oo, hl], fun r hr => ?_, fun R sy tr h1 h2 => ?_, fun T sy tr h1 h2 => ?_⟩
 ·rcases List.mem_append.mp hr with z | z
  ·exact K.prs r (List.mem_append_left _ z)
  ·obtain ⟨j, hj, rfl⟩ := List.mem_map.mp z
   have hj := List.mem_range.mp hj
   exact ⟨M.Lf l1 hj, M.Lf l2 hj⟩
 ·obtain ⟨k1, k2⟩ := K.low R sy tr h1 h2
  have rxy : R x y := k2 (x, y) (by simp)
  refine ⟨fun a b ha hb e => ?_, fun r hr => ?_⟩
  ·have tox : ∀ c, c < n → (at0 p c = at0 p x ∨ at0 p c = at0 p y) → R c x := fun c hc z => by
    rcases z with z | z
    ·exact k1 c x hc l1 z
    ·exact tr _ _ _ (k1 c y hc l2 z) (sy _ _ rxy)
   rcases (mr a b ha hb).mp e with z | ⟨z1, z2⟩
   ·exact k1 a b ha hb z
   ·exact tr _ _ _ (tox a ha z1) (sy _ _ (tox b hb z2))
  ·rcases List.mem_append.mp hr with z | z
   ·exact k2 r (List.mem_append_left _ z)
   ·obtain ⟨j, hj, rfl⟩ := List.mem_map.mp z
    exact h2 j (List.mem_range.mp hj) x y l1 l2 rxy
 ·have hp : ∀ a b, a < n → b < n → at0 p a = at0 p b → T a b := fun a b ha hb e => h1 a b ha hb ((mr a b ha hb).mpr (.inl e))
  have txy : T x y := h1 x y l1 l2 ((mr x y l1 l2).mpr (.inr ⟨.inl rfl, .inr rfl⟩))
  obtain ⟨k1, k2⟩ := K.up T sy tr hp fun r hr => by
   rcases List.mem_append.mp hr with z | z
   ·exact h2 r (List.mem_append_left _ z)
   ·rw [List.mem_singleton.mp z]; exact txy
  refine ⟨k1, fun j hj a b ha hb e => ?_⟩
  have tg : T (Hi rows x j) (Hi rows y j) := h2 _ (List.mem_append_right _ (List.mem_map.mpr ⟨j, List.mem_range.mpr hj, rfl⟩))
  have tox : ∀ c, c < n → (at0 p c = at0 p x ∨ at0 p c = at0 p y) → T (Hi rows c j) (Hi rows x j) := fun c hc z => by
   rcases z with z | z
   ·exact k2 j hj c x hc l1 z
   ·exact tr _ _ _ (k2 j hj c y hc l2 z) (sy _ _ tg)
  rcases (mr a b ha hb).mp e with z | ⟨z1, z2⟩
  ·exact k2 j hj a b ha hb z
  ·exact tr _ _ _ (tox a ha z1) (sy _ _ (tox b hb z2))
end
section
variable {rows : List (List Nat)} {sh : List Nat} {n l : Nat} {xs : List Nat}
structure KClo (rows : List (List Nat)) (n l : Nat) (xs p : List Nat) : Prop where
 part : Part p n
 sup : ∀ a b, a < n → b < n → at0 xs a = at0 xs b → at0 p a = at0 p b
 shut : ∀ j, j < l → ∀ a b, a < n → b < n → at0 p a = at0 p b → at0 p (Hi rows a j) = at0 p (Hi rows b j)
 least : ∀ R : Nat → Nat → Prop, (∀ a b, R a b → R b a) → (∀ a b c, R a b → R b c → R a c) → (∀ a b, a < n → b < n → at0 xs a = at0 xs b → R a b) → (∀ j, j < l → ∀ a b, a < n → b < n → R a b → R (Hi rows a j) (Hi rows b j)) → ∀ a b, a < n → b < n → at0 p a = at0 p b → R a b
theorem KClo.of (M : Mach rows sh n l) {p : List Nat} (K : KInv rows n l xs p []) : KClo rows n l xs (numb p) := by
 have hl := K.len
 have nr : ∀ a b, a < n → b < n → (at0 (numb p) a = at0 (numb p) b ↔ at0 p a = at0 p b) := fun a b ha hb => by
  rw [RG (by omega) (by omega), Fg (by omega), Fg (by omega)]
 obtain ⟨k1, k2⟩ := K.up (fun a b => at0 p a = at0 p b) (fun _ _ h => h.symm) (fun _ _ _ h1 h2 => h1.trans h2) (fun _ _ _ _ h => h) (by simp)
 refine ⟨⟨by rw [JS, hl], W7 _⟩, fun a b ha hb e => (nr a b ha hb).mpr (k1 a b ha hb e), fun j hj a b ha hb e => (nr _ _ (M.Lf ha hj) (M.Lf hb hj)).mpr (k2 j hj a b ha hb ((nr a b ha hb).mp e)), fun R sy tr h1 h2 a b ha hb e => (K.low R sy tr h1 h2).1 a b ha hb ((nr a b ha hb).mp e)⟩
theorem KClo.same {p : List Nat} {ds : List (List Nat)} (hx : xs.length = n) (K : KClo rows n l xs p) (D : Clo rows n l (clsOf xs) ds) : numb ((List.range n).map (Yw ds)) = p := by
 have hp : p = numb p := K.part.2.symm
 rw [hp]
 have hpl := K.part.len
 refine Od (by simp [hpl]) fun a b ha hb => ?_
 rw [List.length_map, List.length_range] at ha hb
 rw [Xz ha, Xz hb, Zt D.cls ha hb]
 constructor
 ·intro q
  refine D.least (fun a b => at0 p a = at0 p b) (fun _ _ h => h.symm) (fun _ _ _ h1 h2 => h1.trans h2) (fun a b ha hb q => K.sup a b ha hb ((Mj (by omega) (by omega)).mp q)) (fun j hj a b ha hb q => K.shut j hj a b ha hb q) a b ha hb q
 ·intro q
  refine K.least (relC ds) (fun _ _ h => h.symm) (fun _ _ _ h1 h2 => D.cls.trans h1 h2) (fun a b ha hb e => D.sup a b ha hb ((Mj (by omega) (by omega)).mpr e)) (fun j hj a b ha hb h => ?_) a b ha hb q
  obtain ⟨c, hc, m1, m2⟩ := h
  exact D.shut c hc j hj a m1 b m2
end
section
variable {rows : List (List Nat)} {sh : List Nat} {n l : Nat} {xs : List Nat}
def duoN (n x y : Nat) : List Nat := numb (Ip (List.range n) x y)
theorem Z7 : ∀ k, k ≤ 5 → (Ah k).length ≤ 300 := by decide +kernel
end
section
variable {p : List Nat} {n : Nat}
theorem abk (hp : Part p n) (h1 : 1 ≤ n) : p ≠ [] := by
 intro e
 have := hp.len
 rw [e] at this
 simp at this; omega
theorem Rr (hp : Part p n) (h1 : 1 ≤ n) : maxN p + 1 ≤ n := by
 have := VL h1 fun x hx => hp.lt hx
 omega
end
section
variable {rows : List (List Nat)} {sh : List Nat} {n l : Nat} {p : List Nat}
theorem YH (M : Mach rows sh n l) (hp : Part p n) : JF [.d (tN p)] = ret (.d (lL (clsOf p))) :=
 Xx (abk hp M.n0) (by rw [hp.len]; exact M.n8) (by have := Rr hp M.n0; have := M.n8; omega)
end
def leP (n : Nat) (p q : List Nat) : Prop := ∀ a b, a < n → b < n → at0 p a = at0 p b → at0 q a = at0 q b
theorem leP.refl {n : Nat} {p : List Nat} : leP n p p := fun _ _ _ _ h => h
theorem leP.trans {n : Nat} {p q r : List Nat} (h : leP n p q) (h' : leP n q r) : leP n p r := fun a b ha hb e => h' a b ha hb (h a b ha hb e)
theorem leP.anti {n : Nat} {p q : List Nat} (hp : Part p n) (hq : Part q n) (h : leP n p q) (h' : leP n q p) : p = q := by
 have hl := hp.len
 have hl2 := hq.len
 rw [← hp.num, ← hq.num]
 exact Od (by omega) fun a b ha hb => ⟨h a b (by omega) (by omega), h' a b (by omega) (by omega)⟩
section
variable {n : Nat} {p q r s : List Nat}
theorem Ai (hp : Part p n) : Part (G6 p q) n := ⟨abE hp.len, abD⟩
theorem GF (hp : Part p n) (hq : Part q n) : leP n p (G6 p q) := fun a b ha hb h => aal hp.len hq.len ha hb h
theorem HY (hp : Part p n) (hq : Part q n) : leP n q (G6 p q) := fun a b ha hb h => Yt hp.len hq.len ha hb h
theorem Gv (hp : Part p n) (hq : Part q n) (h1 : leP n p r) (h2 : leP n q r) : leP n (G6 p q) r := fun a b ha hb h =>
 TQ hp.len hq.len (fun a b => at0 r a = at0 r b) (fun _ _ e => e.symm) (fun _ _ _ e f => e.trans f) h1 h2 ha hb h
theorem Oh (n : Nat) : Part (List.range n) n := by
 refine ⟨by simp, ?_⟩
 have h : ∀ k, numb (List.range k) = List.range k ∧ firsts (List.range k) = List.range k := by
  intro k
  induction k with
  | zero => exact ⟨rfl, rfl⟩
  | succ k ih =>
   rw [List.range_succ]
   have hn : ¬ k ∈ firsts (List.range k) := by rw [ih.2]; simp
   obtain ⟨e1, e2⟩ := ac0 hn
   rw [e1, e2, ih.1, ih.2]
   simp
 exact (h n).1
theorem NK {n a : Nat} (ha : a < n) : at0 (List.range n) a = a := by rw [Fg (by simpa using ha)]; simp
theorem WF : leP n (List.range n) p := fun a b ha hb e => by
 rw [NK ha, NK hb] at e
 rw [e]
end
structure XJ (rows : List (List Nat)) (n l : Nat) (p : List Nat) : Prop where
 part : Part p n
 shut : ∀ j, j < l → ∀ a b, a < n → b < n → at0 p a = at0 p b → at0 p (Hi rows a j) = at0 p (Hi rows b j)
section
variable {rows : List (List Nat)} {sh : List Nat} {n l : Nat} {p q z : List Nat}
theorem abC (M : Mach rows sh n l) : XJ rows n l p ↔ p ∈ (Ah (n - 1)).filter fun z => abu rows l z z := by
 have h1 := M.n0
 rw [List.mem_filter, Cz]
 constructor
 ·rintro ⟨hp, hs⟩
  have := hp.len
  exact ⟨⟨by omega, hp.num⟩, (Vd M.len hp.len).mpr hs⟩
 ·rintro ⟨⟨e1, e2⟩, h⟩
  have hp : Part p n := ⟨by omega, e2⟩
  exact ⟨hp, (Vd M.len hp.len).mp h⟩
theorem KClo.aid {xs : List Nat} (K : KClo rows n l xs p) : XJ rows n l p := ⟨K.part, K.shut⟩
theorem XJ.join (M : Mach rows sh n l) (hp : XJ rows n l p) (hq : XJ rows n l q) : XJ rows n l (G6 p q) := ⟨Ai hp.part, fun j hj a b ha hb e => by
 exact TQ hp.part.len hq.part.len (fun a b => at0 (G6 p q) (Hi rows a j) = at0 (G6 p q) (Hi rows b j)) (fun _ _ h => h.symm) (fun _ _ _ h h' => h.trans h') (fun a b ha hb e => GF hp.part hq.part _ _ (M.Lf ha hj) (M.Lf hb hj) (hp.shut j hj a b ha hb e)) (fun a b ha hb e => HY hp.part hq.part _ _ (M.Lf ha hj) (M.Lf hb hj) (hq.shut j hj a b ha hb e)) ha hb e⟩
def Sw (n : Nat) : List (Nat × Nat) := (List.range n).flatMap fun a => ((List.range (n - (a + 1))).map fun i => a + 1 + i).map fun b => (a, b)
theorem Np {n a b : Nat} : (a, b) ∈ Sw n ↔ a < b ∧ b < n := by
 simp only [Sw, List.mem_flatMap, List.mem_range, List.mem_map, List.map_map]
 constructor
 ·rintro ⟨c, hc, x, hx, e⟩
  simp only [Function.comp, Prod.mk.injEq] at e
  omega
 ·rintro ⟨h1, h2⟩
  exact ⟨a, by omega, b - (a + 1), by omega, by show (a, a + 1 + (b - (a + 1))) = (a, b); rw [show a + 1 + (b - (a + 1)) = b by omega]⟩
structure KI (rows : List (List Nat)) (n l : Nat) (done : List (Nat × Nat)) (fs : List (List Nat)) : Prop where
 nd : fs.Nodup
 kept : ∀ p ∈ fs, XJ rows n l p
 sing : List.range n ∈ fs
 join : ∀ p ∈ fs, ∀ q ∈ fs, G6 p q ∈ fs
 has : ∀ d ∈ done, ∃ p ∈ fs, KClo rows n l (duoN n d.1 d.2) p
theorem KI.few (M : Mach rows sh n l) {done : List (Nat × Nat)} {fs : List (List Nat)} (K : KI rows n l done fs) : fs.length ≤ 4140 := by
 have h8 := M.n8
 have := K.nd.length_le_of_subset (l₂ := Ah (n - 1)) fun p hp => by
  have := (abC M).mp (K.kept p hp)
  exact (List.mem_filter.mp this).1
 exact Nat.le_trans this (Jh (n - 1) (by omega))
theorem Ys (hp : Part p n) : G6 (List.range n) p = p := leP.anti (Ai (Oh n)) hp (Gv (Oh n) hp WF leP.refl) (HY (Oh n) hp)
theorem KI.same {done : List (Nat × Nat)} {fs : List (List Nat)} {d : Nat × Nat} (K : KI rows n l done fs) (hp : KClo rows n l (duoN n d.1 d.2) p) (hm : p ∈ fs) : KI rows n l (done ++ [d]) fs :=
 ⟨K.nd, K.kept, K.sing, K.join, fun e he => by
  rcases List.mem_append.mp he with he | he
  ·exact K.has e he
  ·rw [List.mem_singleton.mp he]; exact ⟨p, hm, hp⟩⟩
theorem KI.more (M : Mach rows sh n l) {done : List (Nat × Nat)} {fs : List (List Nat)} {d : Nat × Nat} (K : KI rows n l done fs) (hp : KClo rows n l (duoN n d.1 d.2) p) : KI rows n l (done ++ [d]) (WQ fs (WQ [] (fs.map fun q => G6 q p))) := by
 have hk := hp.aid
 have pp := hk.part
 have mem : ∀ x, x ∈ WQ fs (WQ [] (fs.map fun q => G6 q p)) ↔ x ∈ fs ∨ ∃ q ∈ fs, G6 q p = x := by
  intro x
  rw [Th, Th, List.mem_map]
  simp
 refine ⟨Zj K.nd, fun x hx => ?_, (mem _).mpr (.inl K.sing), fun x hx y hy => ?_, fun e he => ?_⟩
 ·rcases (mem x).mp hx with hx | ⟨q, hq, rfl⟩
  ·exact K.kept x hx
  ·exact (K.kept q hq).join M hk
 ·rw [mem] at hx hy ⊢
  rcases hx with hx | ⟨q, hq, rfl⟩
  ·rcases hy with hy | ⟨r, hr, rfl⟩
   ·exact .inl (K.join x hx y hy)
   ·have h1 := (K.kept x hx).part
    have h2 := (K.kept r hr).part
    refine .inr ⟨G6 x r, K.join x hx r hr, ?_⟩
    refine leP.anti (Ai (Ai h1)) (Ai h1) ?_ ?_
    ·exact Gv (Ai h1) pp (Gv h1 h2 (GF h1 (Ai h2)) ((GF h2 pp).trans (HY h1 (Ai h2)))) ((HY h2 pp).trans (HY h1 (Ai h2)))
    ·exact Gv h1 (Ai h2) ((GF h1 h2).trans (GF (Ai h1) pp)) (Gv h2 pp ((HY h1 h2).trans (GF (Ai h1) pp)) (HY (Ai h1) pp))
  ·have h1 := (K.kept q hq).part
   rcases hy with hy | ⟨r, hr, rfl⟩
   ·have h2 := (K.kept y hy).part
    refine .inr ⟨G6 q y, K.join q hq y hy, ?_⟩
    refine leP.anti (Ai (Ai h1)) (Ai (Ai h1)) ?_ ?_
    ·exact Gv (Ai h1) pp (Gv h1 h2 ((GF h1 pp).trans (GF (Ai h1) h2)) (HY (Ai h1) h2)) ((HY h1 pp).trans (GF (Ai h1) h2))
    ·exact Gv (Ai h1) h2 (Gv h1 pp ((GF h1 h2).trans (GF (Ai h1) pp)) (HY (Ai h1) pp)) ((HY h1 h2).trans (GF (Ai h1) pp))
   ·have h2 := (K.kept r hr).part
    refine .inr ⟨G6 q r, K.join q hq r hr, ?_⟩
    refine leP.anti (Ai (Ai h1)) (Ai (Ai h1)) ?_ ?_
    ·exact Gv (Ai h1) pp (Gv h1 h2 ((GF h1 pp).trans (GF (Ai h1) (Ai h2))) ((GF h2 pp).trans (HY (Ai h1) (Ai h2)))) ((HY h1 pp).trans (GF (Ai h1) (Ai h2)))
    ·exact Gv (Ai h1) (Ai h2) (Gv h1 pp ((GF h1 h2).trans (GF (Ai h1) pp)) (HY (Ai h1) pp)) (Gv h2 pp ((HY h1 h2).trans (GF (Ai h1) pp)) (HY (Ai h1) pp))
 ·rcases List.mem_append.mp he with he | he
  ·obtain ⟨x, hx, h⟩ := K.has e he
   exact ⟨x, (mem x).mpr (.inl hx), h⟩
  ·rw [List.mem_singleton.mp he]
   exact ⟨p, (mem p).mpr (.inr ⟨_, K.sing, Ys pp⟩), hp⟩
theorem ag1 (hz : Part z n) {a b : Nat} (ha : a < n) (hb : b < n) (e : at0 z a = at0 z b) : leP n (duoN n a b) z := by
 intro x y hx hy h
 have hl : (Ip (List.range n) a b).length = n := by rw [Oo, List.length_range]
 unfold duoN at h
 rw [RG (by omega) (by omega), ← Fg (by omega), ← Fg (by omega), Qq (by simpa using hx) (by simpa using hy), NK hx, NK hy, NK ha, NK hb] at h
 rcases h with h | ⟨h1, h2⟩
 ·rw [h]
 ·rcases h1 with rfl | rfl <;> rcases h2 with rfl | rfl <;> simp [e]
theorem afs {a b : Nat} (ha : a < n) (hb : b < n) : at0 (duoN n a b) a = at0 (duoN n a b) b := by
 have hl : (Ip (List.range n) a b).length = n := by rw [Oo, List.length_range]
 unfold duoN
 rw [RG (by omega) (by omega), ← Fg (by omega), ← Fg (by omega), Qq (by simpa using ha) (by simpa using hb)]
 exact .inr ⟨.inl rfl, .inr rfl⟩
theorem KI.all (M : Mach rows sh n l) {fs : List (List Nat)} (K : KI rows n l (Sw n) fs) (hz : XJ rows n l z) : z ∈ fs := by
 have step : ∀ L : List (Nat × Nat), (∀ d ∈ L, d ∈ Sw n ∧ at0 z d.1 = at0 z d.2) → ∃ J ∈ fs, leP n J z ∧ ∀ d ∈ L, at0 J d.1 = at0 J d.2 := by
  intro L
  induction L with
  | nil => intro _; exact ⟨_, K.sing, WF, fun d h => nomatch h⟩
  | cons d L ih =>
   intro h
   obtain ⟨J, hJ, h1, h2⟩ := ih fun e he => h e (List.mem_cons_of_mem _ he)
   obtain ⟨hd, e⟩ := h d List.mem_cons_self
   obtain ⟨p, hp, C⟩ := K.has d hd
   obtain ⟨l1, l2⟩ := Np.mp (show (d.1, d.2) ∈ Sw n from hd)
   have pJ := (K.kept J hJ).part
   have pP := (K.kept p hp).part
   have pz : leP n p z := fun a b ha hb q => C.least (fun a b => at0 z a = at0 z b) (fun _ _ h => h.symm) (fun _ _ _ h h' => h.trans h') (ag1 hz.part (by omega) l2 e) (fun j hj a b ha hb q => hz.shut j hj a b ha hb q) a b ha hb q
   refine ⟨G6 J p, K.join J hJ p hp, Gv pJ pP h1 pz, fun f hf => ?_⟩
   rcases List.mem_cons.mp hf with rfl | hf
   ·exact HY pJ pP _ _ (by omega) l2 (C.sup _ _ (by omega) l2 (afs (by omega) l2))
   ·obtain ⟨hf', _⟩ := h f (List.mem_cons_of_mem _ hf)
    obtain ⟨m1, m2⟩ := Np.mp (show (f.1, f.2) ∈ Sw n from hf')
    exact GF pJ pP _ _ (by omega) m2 (h2 f hf)
 obtain ⟨J, hJ, h1, h2⟩ := step ((Sw n).filter fun d => decide (at0 z d.1 = at0 z d.2)) fun d hd => by
  obtain ⟨q1, q2⟩ := List.mem_filter.mp hd
  exact ⟨q1, of_decide_eq_true q2⟩
 have h3 : leP n z J := fun a b ha hb e => by
  rcases Nat.lt_trichotomy a b with h | h | h
  ·exact h2 (a, b) (List.mem_filter.mpr ⟨Np.mpr ⟨h, hb⟩, decide_eq_true e⟩)
  ·rw [h]
  ·exact (h2 (b, a) (List.mem_filter.mpr ⟨Np.mpr ⟨h, ha⟩, decide_eq_true e.symm⟩)).symm
 rw [leP.anti hz.part (K.kept J hJ).part h3 h1]
 exact hJ
def lexN (p q : List Nat) : Prop := lexLe (p.map fun x : Nat => (x : Int)) (q.map fun x : Nat => (x : Int)) = true
theorem VP : ∀ {p q : List Nat} {x y : Nat}, p.length = q.length → lexN p q → (p = q → x ≤ y) → lexN (p ++ [x]) (q ++ [y])
 | [], [], x, y, _, _, h => by
  have := h rfl
  simp only [lexN, List.nil_append, List.map_cons, List.map_nil, lexLe]
  by_cases e : (x : Int) < y
  ·simp [e]
  ·rw [if_neg e, if_neg (by omega)]
 | a :: p, b :: q, x, y, hl, h1, h2 => by
  simp only [lexN, List.cons_append, List.map_cons, lexLe] at h1 ⊢
  by_cases e1 : (a : Int) < b
  ·simp [e1]
  ·by_cases e2 : (b : Int) < a
   ·rw [if_neg e1, if_pos e2] at h1; cases h1
   ·rw [if_neg e1, if_neg e2] at h1 ⊢
    have eab : a = b := by omega
    exact VP (by simpa using hl) h1 fun e => h2 (by rw [eab, e])
theorem U3 : ∀ k, (Ah k).Pairwise fun p q => lexN p q ∧ p ≠ q
 | 0 => by simp [Ah]
 | k + 1 => by
  unfold Ah
  rw [List.pairwise_flatMap]
  refine ⟨fun r hr => ?_, ?_⟩
  ·rw [List.pairwise_map]
   refine List.Pairwise.imp ?_ (List.pairwise_lt_range)
   intro a b hab
   refine ⟨VP rfl (aak _) fun _ => by omega, fun e => ?_⟩
   have := List.append_cancel_left e
   simp at this
   omega
  ·refine List.Pairwise.imp_of_mem ?_ (U3 k)
   rintro p q hp hq ⟨h1, h2⟩ x hx y hy
   obtain ⟨a, _, rfl⟩ := List.mem_map.mp hx
   obtain ⟨b, _, rfl⟩ := List.mem_map.mp hy
   have l1 := (Cz.mp hp).1
   have l2 := (Cz.mp hq).1
   refine ⟨VP (by omega) h1 fun e => absurd e h2, fun e => h2 ?_⟩
   exact (List.append_inj e (by omega)).1
end
def Sh (n : Nat) (p : PyData) : Prop := ∃ ns, p = tN ns ∧ Part ns n
theorem ae6 {p : PyData} {b : Nat} (h : isWh p 0 b = true) : ∃ k : Nat, p = nI k ∧ k ≤ b := by
 cases p with
 | int i =>
  simp only [isWh, Bool.and_eq_true, decide_eq_true_eq] at h
  exact ⟨i.toNat, by show PyData.int i = .int (i.toNat : Int); rw [Int.toNat_of_nonneg h.1], by omega⟩
 | _ => cases h
theorem ad9 {b : Nat} : ∀ {ps : List PyData}, (∀ p ∈ ps, isWh p 0 b = true) → ∃ ns : List Nat, ps = ns.map nI ∧ ∀ k ∈ ns, k ≤ b
 | [], _ => ⟨[], rfl, by simp⟩
 | p :: ps, h => by
  obtain ⟨k, e, hk⟩ := ae6 (h p (by simp))
  obtain ⟨ns, e2, h2⟩ := ad9 (ps := ps) fun q hq => h q (by simp [hq])
  exact ⟨k :: ns, by rw [e, e2]; rfl, fun x hx => by
   rcases List.mem_cons.mp hx with q | q
   ·rw [q]; exact hk
   ·exact h2 x q⟩
section
variable {rows : List (List Nat)} {sh : List Nat} {n l : Nat}
theorem Ri (M : Mach rows sh n l) {p : PyData} (h : ¬ Sh n p) : Dz [.d (mM rows sh), .d p] = ret (vB false) := by
 have h0 := M.n0
 have h8 := M.n8
 have c1 := Ks M
 first | refine Ji ?_ | refine Hq ?_
 unfold EY Bj
 cases p with
 | tuple ps =>
  by_cases hl : ps.length = n
  ·have hsub : (n : Int) - 1 = ((n - 1 : Nat) : Int) := by omega
   have c2 : lcA (lSeq (vT 1)) (gN 2) bYes (Ao true GP (Aa (vT 2) (Aa (kC (.int 0)) (Aa (c2 gSub (cN (on1 Ez) (Aa (vT 1) aNil)) (kC (.int 1))) aNil)))) [2] [some (.d (mM rows sh)), some (.d (.tuple ps)), none] = ret (ps.map fun x => .bool (isWh x 0 ((n - 1 : Nat) : Int))) := by
    have := Ot (h := lSeq (vT 1)) (t := gN 2) (e := Ao true GP (Aa (vT 2) (Aa (kC (.int 0)) (Aa (c2 gSub (cN (on1 Ez) (Aa (vT 1) aNil)) (kC (.int 1))) aNil)))) (vs := [2]) (env := [some (.d (mM rows sh)), some (.d (.tuple ps)), none]) (f := fun x : PyData => x) (g := fun x => .bool (isWh x 0 ((n - 1 : Nat) : Int))) (xs := ps) (by simp) (by rw [sizeLine_eq]; omega) fun x hx => by
     have hc := Le x 0 ((n - 1 : Nat) : Int)
     simp [hl, hsub, hc, vB]
    exact this
   have hb := all_bools (fun x => isWh x 0 ((n - 1 : Nat) : Int)) ps
   cases ha : ps.all (fun x => isWh x 0 ((n - 1 : Nat) : Int)) with
   | false =>
    rw [ha] at hb
    simp [gIsi, isiB, DK, c1, hl, c2, hb, vB]
   | true =>
    rw [ha] at hb
    obtain ⟨ns, rfl, hk⟩ := ad9 fun x hx => List.all_eq_true.mp ha x hx
    simp only [List.map_map] at hb
    have hl' : ns.length = n := by simpa using hl
    have c3 := U8 (ns := ns) (by rw [sizeLine_eq]; omega)
    have hne : numb ns ≠ ns := fun e => h ⟨ns, rfl, hl', e⟩
    have heq := Xg (p := tN (numb ns)) (q := tN ns) (bs := [8]) (cs := [8]) (T5 (by rw [JS]; omega)) (T5 (by omega)) (k := false) (hk := by simp only [Bool.false_eq_true, false_iff]; exact fun e => hne (af5.mp e))
    simp -implicitDefEqProofs [gIsi, isiB, DK, c1, hl', c2, c3, hb, heq, vB]
  ·have hne : (ps.length : Int) ≠ (n : Int) := by omega
   simp [gIsi, isiB, DK, c1, hne, vB]
 | _ => simp [gIsi, isiB, DK, vB]
end
theorem ac4 : ∀ {ns : List Nat}, ns ≠ [] → maxI (-1) (ns.map fun n : Nat => (n : Int)) = (maxN ns : Int)
 | [], h => absurd rfl h
 | n :: ns, _ => by
  have e : maxI (-1) ((n :: ns).map fun n : Nat => (n : Int)) = maxI (n : Int) (ns.map fun n : Nat => (n : Int)) := by
   simp only [maxI, List.map_cons, List.foldl_cons]
   rw [if_pos (by omega)]
  rw [e, Rv]
  rfl
theorem adX {ns : List Nat} (h : numb ns = ns) : maxI (-1) (ns.map fun n : Nat => (n : Int)) + 1 = (bl ns : Int) := by
 by_cases e : ns = []
 ·subst e; rfl
 ·rw [ac4 e, Y8 ns h e]; omega
def atZ (is : List Int) (k : Nat) : Int := is.getD k 0
def okAt (is : List Int) (k : Nat) : Bool := decide (0 ≤ atZ is k) && decide (atZ is k ≤ maxI (-1) (is.take k) + 1)
theorem QV {is : List Int} {x : Int} {k : Nat} (h : k < is.length) : okAt (is ++ [x]) k = okAt is k := by
 unfold okAt
 rw [List.take_append_of_le_length (by omega)]
 have : atZ (is ++ [x]) k = atZ is k := by simp [atZ, List.getD, List.getElem?_append_left h]
 rw [this]
theorem W6 {is : List Int} {x : Int} : okAt (is ++ [x]) is.length = (decide (0 ≤ x) && decide (x ≤ maxI (-1) is + 1)) := by
 unfold okAt
 rw [List.take_left]
 have : atZ (is ++ [x]) is.length = x := by simp [atZ, List.getD]
 rw [this]
theorem aaU (is : List Int) : (∀ k, k < is.length → okAt is k = true) ↔ ∃ ns : List Nat, is = ns.map (fun n : Nat => (n : Int)) ∧ numb ns = ns := by
 induction is using Ew with
 | h0 => exact ⟨fun _ => ⟨[], rfl, rfl⟩, fun _ k h => absurd h (Nat.not_lt_zero _)⟩
 | h1 is x ih =>
  constructor
  ·intro h
   obtain ⟨ns, rfl, hn⟩ := ih.mp fun k hk => by
    have := h k (by simp; omega)
    rwa [QV hk] at this
   have hx := h (ns.map fun n : Nat => (n : Int)).length (by simp)
   rw [W6, Bool.and_eq_true, decide_eq_true_eq, decide_eq_true_eq, adX hn] at hx
   exact ⟨ns ++ [x.toNat], by simp; omega, R8.mpr ⟨hn, by omega⟩⟩
  ·rintro ⟨ns, e, hn⟩ k hk
   obtain ⟨ms, ys, rfl, rfl, e2⟩ := List.map_eq_append_iff.mp e.symm
   obtain ⟨y, zs, rfl, rfl, e3⟩ := List.map_eq_cons_iff.mp e2
   obtain rfl : zs = [] := by simpa using e3
   obtain ⟨hm, hy⟩ := R8.mp hn
   by_cases c : k < (ms.map fun n : Nat => (n : Int)).length
   ·rw [QV c]
    exact ih.mpr ⟨ms, rfl, hm⟩ k c
   ·have ek : k = (ms.map fun n : Nat => (n : Int)).length := by simp at hk c ⊢; omega
    rw [ek, W6, adX hm, Bool.and_eq_true, decide_eq_true_eq, decide_eq_true_eq]
    omega
def badI : PyData → Bool
 | .int _ => false
 | _ => true
theorem Zu : ∀ {ps : List PyData}, ps.filter badI = [] → ∃ is : List Int, ps = is.map .int
 | [], _ => ⟨[], rfl⟩
 | p :: ps, h => by
  rw [List.filter_cons] at h
  split at h
  ·cases h
  ·rename_i hb
   obtain ⟨is, rfl⟩ := Zu h
   cases p with
   | int i => exact ⟨i :: is, rfl⟩
   | _ => exact absurd rfl hb
theorem ne00 : gNe0 (.d (.list [])) (.d (.list [])) = some (vB false) := by kernel_rfl
theorem ne01 {p : PyData} {ps : List PyData} : gNe0 (.d (.list (p :: ps))) (.d (.list [])) = some (vB true) := rfl
theorem Uk : ∀ is : List Int, Oe (is.map .int) = some is
 | [] => rfl
 | i :: is => by simp [Oe, Uk is]
theorem Jo {n : Nat} (h0 : 1 ≤ n) (h8 : n ≤ 8) (p : PyData) : (Sh n p → Bl [.d (nI n), .d p] = ret (vB true)) ∧ (¬ Sh n p → Bl [.d (nI n), .d p] = ret (vB false)) := by
 suffices H : Pu (Bl [.d (nI n), .d p]) fun v => (v = vB true ∧ Sh n p) ∨ (v = vB false ∧ ¬ Sh n p) by
  obtain ⟨v, e, q⟩ := H
  rw [e]
  refine ⟨fun h => ?_, fun h => ?_⟩
  ·rcases q with ⟨rfl, _⟩ | ⟨_, h'⟩
   ·rfl
   ·exact absurd h h'
  ·rcases q with ⟨_, h'⟩ | ⟨rfl, _⟩
   ·exact absurd h' h
   ·rfl
 refine Pu.run ?_
 unfold G7 Bj
 cases p with
 | tuple ps =>
  by_cases hl : ps.length = n
  ·have d1 : lcA (lSeq (vT 1)) (gN 2) (bOr (bNot (bV (c1 (gIsi "int") (vT 2)))) (bV (c1 (gIsi "bool") (vT 2)))) (vT 2) [2] [some (.d (nI n)), some (.d (.tuple ps)), none, none] = ret (ps.filter badI) := by
    have := VR (h := lSeq (vT 1)) (t := gN 2) (c := bOr (bNot (bV (c1 (gIsi "int") (vT 2)))) (bV (c1 (gIsi "bool") (vT 2)))) (e := vT 2) (vs := [2]) (env := [some (.d (nI n)), some (.d (.tuple ps)), none, none]) (f := fun x : PyData => x) (b := badI) (g := fun x => x) (xs := ps) (by simp) (by rw [sizeLine_eq]; omega) (fun x hx => by
     cases x <;> simp -implicitDefEqProofs [gIsi, isiB, DK, vB, badI]) fun x hx hb => by simp -implicitDefEqProofs
    rwa [List.map_id'] at this
   simp -implicitDefEqProofs [gIsi, isiB, DK, hl, vB, d1]
   cases hf : ps.filter badI with
   | cons y ys =>
    simp -implicitDefEqProofs [ne01, vB]
    refine Pu.ret (.inr ⟨rfl, fun ⟨ns, e, hp⟩ => ?_⟩)
    cases e
    have hy : y ∈ (ns.map nI).filter badI := by rw [hf]; simp
    obtain ⟨k, _, rfl⟩ := List.mem_map.mp (List.mem_filter.mp hy).1
    exact absurd (List.mem_filter.mp hy).2 (by simp [badI])
   | nil =>
    obtain ⟨is, rfl⟩ := Zu hf
    have hli : is.length = n := by simpa using hl
    have er := Io n (by omega)
    have c2 : lcA (lN Jg (Aa (vT 0) aNil)) (gN 3) (bNot (bV (Qa gLe gLe (kC (.int 0)) (c2 gIx (vT 1) (vT 3)) (c2 gAdd (cN (on1 hMax) (Aa (c2 gAdd (cN BR (Aa (c1 gNeg (kC (.int 1))) aNil)) (cN (on1 Xf) (Aa (eSl gSlA (vT 1) none (some (vT 3))) aNil))) aNil)) (kC (.int 1)))))) (vT 3) [3] [some (.d (nI n)), some (.d (.tuple (is.map .int))), none, none] = ret (((List.range n).filter fun k => !okAt is k).map nI) := by
     refine VR (f := nI) (by simp -implicitDefEqProofs [er]) (by rw [sizeLine_eq]; simp; omega) (fun k hk => ?_) fun k hk hb => by simp -implicitDefEqProofs
     have hk := List.mem_range.mp hk
     have hix : gIx (.d (.tuple (is.map .int))) (.d (nI k)) = some (.d (.int (atZ is k))) := by
      have hg : (is.map PyData.int)[k]? = some (.int (atZ is k)) := by
       rw [List.getElem?_map, atZ, List.getD, List.getElem?_eq_getElem (by omega)]; rfl
      exact afd hg
     have hneg : gNeg (.d (.int 1)) = some (.d (.int (-1))) := rfl
     have hl1 : BR [.d (.int (-1))] = some (.d (.list [.int (-1)])) := rfl
     have hcut : gSlA (.d (.tuple (is.map .int))) none (some (k : Int)) = some (.d (.tuple ((is.map .int).take k))) := by
      have h := ad4 (is.map PyData.int) k
      simp only [gSlL, Option.some.injEq, Va.d.injEq, PyData.list.injEq] at h
      rw [TX, h]
     have hls : on1 Xf [.d (.tuple ((is.map .int).take k))] = some (.d (.list ((is.map .int).take k))) := rfl
     have hadd : gAdd (.d (.list [.int (-1)])) (.d (.list ((is.map .int).take k))) = some (.d (.list (.int (-1) :: (is.map .int).take k))) := by
      have : 1 + ((is.map PyData.int).take k).length ≤ sizeLine := by rw [sizeLine_eq, List.length_take, List.length_map]; omega
      simp only [gAdd, Xh, hAdd, List.length_cons, List.length_nil]
      rw [if_pos (by omega)]
      rfl
     have hmx : on1 hMax [.d (.list (.int (-1) :: (is.map .int).take k))] = some (.d (.int (maxI (-1) (is.take k)))) := by
      have := Uk ((-1) :: is.take k)
      rw [List.map_cons, List.map_take] at this
      simp only [on1, hMax, seqD, Option.bind_some, this]
     unfold okAt
     by_cases q1 : 0 ≤ atZ is k
     ·simp -implicitDefEqProofs [hix, hneg, hl1, hcut, hls, hadd, hmx, q1, vB]
     ·simp -implicitDefEqProofs [hix, hneg, hl1, hcut, hls, hadd, hmx, q1, vB]
    have hq := Xg (p := .list (((List.range n).filter fun k => !okAt is k).map nI)) (q := .list []) (bs := [8]) (cs := [8]) (by
     show (decide ((((List.range n).filter fun k => !okAt is k).map nI).length ≤ 8) && (((List.range n).filter fun k => !okAt is k).map nI).all (fits [])) = true
     have := List.length_filter_le (fun k => !okAt is k) (List.range n)
     rw [List.length_range] at this
     simp [fits]; omega) (by rfl) (by decide) (by decide) (k := ((List.range n).filter fun k => !okAt is k).isEmpty) (by
     cases (List.range n).filter fun k => !okAt is k <;> simp)
    obtain ⟨b, he⟩ : ∃ b, ((List.range n).filter fun k => !okAt is k).isEmpty = b := ⟨_, rfl⟩
    rw [he] at hq
    simp -implicitDefEqProofs [ne00, vB, c2, hq]
    have key := aaU is
    cases b with
    | true =>
     have h1 : ∀ k, k < is.length → okAt is k = true := fun k hk => by
      have := List.isEmpty_iff.mp he
      have h2 := List.filter_eq_nil_iff.mp this k (List.mem_range.mpr (by omega))
      simpa using h2
     obtain ⟨ns, rfl, hn⟩ := key.mp h1
     exact Pu.ret (.inl ⟨rfl, ns, by rw [List.map_map]; rfl, by rw [List.length_map] at hli; exact hli, hn⟩)
    | false =>
     refine Pu.ret (.inr ⟨rfl, fun ⟨ns, e, hp⟩ => ?_⟩)
     have e2 : is = ns.map (fun n : Nat => (n : Int)) := by
      have e3 : is.map PyData.int = (ns.map (fun n : Nat => (n : Int))).map PyData.int := by
       have := PyData.tuple.inj e
       rw [this]; simp
      exact (List.map_inj_right fun a b h => PyData.int.inj h).mp e3
     have h1 := key.mpr ⟨ns, e2, hp.num⟩
     have : (List.range n).filter (fun k => !okAt is k) = [] := List.filter_eq_nil_iff.mpr fun k hk => by
      have := h1 k (by rw [hli]; exact List.mem_range.mp hk)
      simp [this]
     rw [this] at he
     cases he
  ·have hne : (ps.length : Int) ≠ (n : Int) := by omega
   simp -implicitDefEqProofs [gIsi, isiB, DK, hne, vB]
   exact Pu.ret (.inr ⟨rfl, fun ⟨ns, e, hp⟩ => by cases e; exact hl (by simpa using hp.len)⟩)
 | _ =>
  simp -implicitDefEqProofs [gIsi, isiB, DK, vB]
  exact Pu.ret (.inr ⟨rfl, fun ⟨ns, e, hp⟩ => by cases e⟩)
theorem UG {ns : List Nat} {b : Nat} {bs : List Nat} (h : ∀ x ∈ ns, x < 1000) (hl : ns.length ≤ b) : Gy (b :: bs) (tN ns) = true := by
 show (decide ((ns.map nI).length ≤ b) && (ns.map nI).all (Gy bs)) = true
 simp only [List.length_map, hl, decide_true, Bool.true_and, List.all_eq_true]
 intro x hx
 obtain ⟨y, hy, rfl⟩ := List.mem_map.mp hx
 exact Zo (h y hy) bs
theorem afh {rows : List (List Nat)} {b c : Nat} {bs : List Nat} (h : ∀ r ∈ rows, r.length ≤ c ∧ ∀ x ∈ r, x < 1000) (hl : rows.length ≤ b) : Gy (b :: c :: bs) (tT rows) = true := by
 show (decide ((rows.map tN).length ≤ b) && (rows.map tN).all (Gy (c :: bs))) = true
 simp only [List.length_map, hl, decide_true, Bool.true_and, List.all_eq_true]
 intro x hx
 obtain ⟨r, hr, rfl⟩ := List.mem_map.mp hx
 exact UG (h r hr).2 (h r hr).1
theorem fM_l {xs : List PyData} {b : Nat} {bs : List Nat} (h : ∀ x ∈ xs, Gy bs x = true) (hl : xs.length ≤ b) : Gy (b :: bs) (.list xs) = true := by
 show (decide (xs.length ≤ b) && xs.all (Gy bs)) = true
 simp only [hl, decide_true, Bool.true_and, List.all_eq_true]
 exact h
theorem fM_t {xs : List PyData} {b : Nat} {bs : List Nat} (h : ∀ x ∈ xs, Gy bs x = true) (hl : xs.length ≤ b) : Gy (b :: bs) (.tuple xs) = true := by
 show (decide (xs.length ≤ b) && xs.all (Gy bs)) = true
 simp only [hl, decide_true, Bool.true_and, List.all_eq_true]
 exact h
theorem ah7 (xs : List PyData) (k : Nat) (h : xs.length * k ≤ 1000) (hk : k ≤ 1000 := by decide) : gMul (.d (.list xs)) (.d (.int k)) = some (.d (.list (List.replicate k xs).flatten)) := by
 simp only [gMul, Xh, abM]
 simp [sizeLine_eq, h]
 omega
section
variable {rows : List (List Nat)} {sh : List Nat} {n l : Nat} {xs p : List Nat}
theorem Mach.fM (M : Mach rows sh n l) {b : Nat} {bs : List Nat} (hb : 2 ≤ b) : Gy (b :: 8 :: 8 :: bs) (mM rows sh) = true := by
 have h8 := M.n8
 have h4 := M.l4
 refine fM_t ?_ (by simpa using hb)
 intro x hx
 simp only [List.mem_cons, List.not_mem_nil, or_false] at hx
 rcases hx with rfl | rfl
 ·exact afh (fun r hr => ⟨by rw [(M.row r hr).1]; omega, fun x hx => by have := (M.row r hr).2 x hx; omega⟩) (by rw [M.len]; exact h8)
 ·exact UG (fun x hx => by have := M.sh9 x hx; omega) (by rw [M.slen]; exact h8)
theorem Part.fM {ns : List Nat} (h : Part ns n) (h8 : n ≤ 8) {b : Nat} (hb : 8 ≤ b) {bs : List Nat} : Gy (b :: bs) (tN ns) = true := UG (fun x hx => by have := h.lt hx; omega) (by rw [h.len]; omega)
end
def afI (c t many : Nat) (S : Sto) (v : Va) (S' : Sto) : Prop := ∃ ns, v = .d (tN ns) ∧ Part ns many ∧ Good S' c (t + 20) ∧ S'.length = S.length
theorem aaT {S : Sto} {c t many : Nat} (hG : Good S c t) (ht : t < 2 ^ 50) (h1 : 1 ≤ many) (h8 : many ≤ 8) : Sat (M8 [.c c, .d (.int many)]) S (afI c t many S) := by
 refine Sat.runF ?_
 unfold JX Bj
 have e1 : (many : Int) - 1 = ((many - 1 : Nat) : Int) := by omega
 have er := Io (many - 1) (by omega)
 generalize hk : many - 1 = K at e1 er
 have hz : (1 : Nat) ≤ sizeLine := by rw [sizeLine_eq]; omega
 simp -implicitDefEqProofs [hz, e1, er]
 refine Sat.for_ (f := nI) (xs := List.range K) (fun done env S1 => ∃ (ns : List Nat) (a : Option Sv), env = [some (.c c), some (.d (.int many)), some (.l1 (ns.map nI)), a] ∧ ns.length = done.length + 1 ∧ numb ns = ns ∧ Good S1 c (t + 2 * done.length) ∧ S1.length = S.length) ⟨[0], none, rfl, rfl, by decide, hG, rfl⟩ ?_ ?_
 ·rintro done x rest env S Q he ⟨ns, a, rfl, hl, hn, hG, hS⟩ hQ
  obtain ⟨_, hxk⟩ := Gu he
  have hne : ns ≠ [] := by intro z; rw [z] at hl; simp at hl
  have hmax := ah8 hne
  have hb := Y8 ns hn hne
  have hlt : maxN ns < 8 := VL (by omega) fun y hy => by rw [← hn] at hy; have := SQ hy; omega
  simp -implicitDefEqProofs [hmax]
  obtain ⟨mm, hmm⟩ : ∃ mm : Nat, mm = maxN ns + 2 := ⟨_, rfl⟩
  have em : (maxN ns : Int) + 2 = (mm : Int) := by omega
  simp -implicitDefEqProofs [em]
  have hk1 : 1 ≤ mm := by omega
  have hk2 : mm < 2 ^ 30 := by omega
  refine Sat.lift (ab4 hG (by omega) hk1 hk2) ?_
  rintro v S2 ⟨y, hv, hy, hG2, hl2⟩
  have hsz : ns.length < sizeLine := by rw [sizeLine_eq]; omega
  rw [hv]
  simp -implicitDefEqProofs [hsz]
  refine Sat.ret (hQ _ _ ⟨ns ++ [y], some (.d (nI x)), by simp, by simp; omega, R8.mpr ⟨hn, by omega⟩, hG2.mono (by simp; omega), by omega⟩)
 ·rintro env S' ⟨ns, a, rfl, hl, hn, hG', hS'⟩
  rw [List.length_range] at hl hG'
  have hi := Yu (aaM ns)
  simp -implicitDefEqProofs [hi]
  exact Sat.ret ⟨ns, rfl, ⟨by omega, hn⟩, hG'.mono (by omega), by omega⟩
theorem mulT (p : PyData) (k : Nat) (h1 : 1 ≤ k) (h : k ≤ 100) : gMul (.d (.tuple [p])) (.d (.int k)) = some (.d (.tuple (List.replicate k p))) := by
 simp only [gMul, Xh, abM]
 simp [sizeLine_eq]
 omega
section
variable {rows : List (List Nat)} {sh : List Nat} {n l : Nat} {p : List Nat}
theorem XQ (M : Mach rows sh n l) : QK [.d (mM rows sh)] = ret (.d (tN (List.replicate n 0))) := by
 first | refine Ji ?_ | refine Hq ?_
 unfold Nt Bj
 have h8 := M.n8
 have m := mulT (.int 0) n M.n0 (by omega)
 have e : (PyData.tuple (List.replicate n (.int 0))) = tN (List.replicate n 0) := by simp [List.map_replicate]
 rw [e] at m
 simp -implicitDefEqProofs [Ks M, m]
theorem aaR (M : Mach rows sh n l) : Qe [.d (mM rows sh)] = ret (.d (tN (List.range n))) := by
 refine Pu.eq (Pu.run ?_)
 unfold Ry Bj
 simp -implicitDefEqProofs [Eu M, WD M]
 exact Pu.ret rfl
theorem acx (M : Mach rows sh n l) : RL [.d (mM rows sh)] = ret (.d (tN (List.replicate n 0))) := by
 refine Pu.eq (Pu.run ?_)
 unfold V4 Bj
 simp -implicitDefEqProofs [Eu M, XQ M]
 exact Pu.ret rfl
theorem Je (M : Mach rows sh n l) (p : PyData) : ∃ b, (b = true ↔ Sh n p) ∧ Bx [.d (mM rows sh), .d p] = ret (vB b) ∧ Bl [.d (nI n), .d p] = ret (vB b) := by
 have key : ∀ b, Dz [.d (mM rows sh), .d p] = ret (vB b) → Bx [.d (mM rows sh), .d p] = ret (vB b) := fun b h => by
  refine Pu.eq (Pu.run ?_)
  unfold JW Bj
  simp -implicitDefEqProofs [Eu M, h, vB]
  exact Pu.ret rfl
 have hs := Jo M.n0 M.n8 p
 by_cases h : Sh n p
 ·refine ⟨true, by simp [h], key true ?_, hs.1 h⟩
  obtain ⟨ns, rfl, hp⟩ := h
  exact LC M hp
 ·exact ⟨false, by simp [h], key false (Ri M h), hs.2 h⟩
theorem Jy (M : Mach rows sh n l) : BW [.d (mM rows sh)] = ret (.d (.tuple ((Ah (n - 1)).map tN))) := by
 refine Pu.eq (Pu.run ?_)
 unfold HD Bj
 have h0 := M.n0
 have h8 := M.n8
 have e1 : (n : Int) - 1 = ((n - 1 : Nat) : Int) := by omega
 have er := Io (n - 1) (by omega)
 generalize hk : n - 1 = K at e1 er
 simp -implicitDefEqProofs [Eu M, Ks M, e1, er]
 refine Pu.for_ (f := nI) (xs := List.range K) (fun done env => ∃ (a : Option Sv), env = [some (.d (mM rows sh)), some (.d (.list ((Ah done.length).map tN))), a, none, none]) ⟨none, rfl⟩ ?_ ?_
 ·rintro done x rest env Q he ⟨a, rfl⟩ hQ
  obtain ⟨hx, hxk⟩ := Gu he
  have hlen := Jh (done.length + 1) (by omega)
  have c3 : lcA2 (lSeq (vT 1)) (gN 3) bYes (lN Jg (Aa (c2 gAdd (cN (on1 hMax) (Aa (vT 3) aNil)) (kC (.int 2))) aNil)) (gN 4) bYes (cN Bg (aaz (vT 3) (Aa (vT 4) aNil))) [3, 4] [4] [some (.d (mM rows sh)), some (.d (.list ((Ah done.length).map tN))), some (.d (nI x)), none, none] = ret ((Ah done.length).flatMap fun row => (List.range (maxN row + 2)).map fun h => tN (row ++ [h])) := by
   refine ac7 (f := tN) (f1 := nI) (by simp -implicitDefEqProofs) (fun row hrow => ?_) ?_
   ·obtain ⟨hl, hn⟩ := Cz.mp hrow
    have hne : row ≠ [] := by intro z; subst z; simp at hl
    have hm := ac3 hne
    have hmx : maxN row < 8 := VL (by omega) fun y hy => by
     rw [← hn] at hy
     have := SQ hy
     omega
    obtain ⟨mx, hmx2⟩ : ∃ mx, mx = maxN row + 2 := ⟨_, rfl⟩
    have e2 : (maxN row : Int) + 2 = (mx : Int) := by omega
    have er2 := Io mx (by omega)
    refine ⟨[some (.d (mM rows sh)), some (.d (.list ((Ah done.length).map tN))), some (.d (nI x)), some (.d (tN row)), none], rfl, ?_, fun y _ => ?_⟩
    ·rw [← hmx2]
     simp -implicitDefEqProofs [hm, e2, er2]
    ·have ht : Bg ((row.map nI).map Va.d ++ [.d (nI y)]) = some (.d (tN (row ++ [y]))) := by
      have := Pr ((row ++ [y]).map nI) (by rw [sizeLine_eq]; simp; omega)
      rw [← this]
      simp
     have hs : Rh (.d (tN row)) = some (row.map nI) := rfl
     simp -implicitDefEqProofs [-List.map_map, hs, ht]
   ·have e5 : ((Ah done.length).flatMap fun row => (List.range (maxN row + 2)).map fun h => tN (row ++ [h])).length = (Ah (done.length + 1)).length := by
     rw [Ah, List.length_flatMap, List.length_flatMap]
     simp
    rw [e5, sizeLine_eq]
    omega
  have e6 : ((Ah done.length).flatMap fun row => (List.range (maxN row + 2)).map fun h => tN (row ++ [h])) = (Ah (done.length + 1)).map tN := by
   rw [Ah, List.map_flatMap]
   simp only [List.map_map]
   rfl
  rw [e6] at c3
  simp -implicitDefEqProofs [c3]
  exact Pu.ret (hQ _ ⟨_, by rw [List.length_append]; rfl⟩)
 ·rintro env ⟨a, rfl⟩
  rw [List.length_range]
  simp -implicitDefEqProofs
  exact Pu.ret rfl
theorem Xy (M : Mach rows sh n l) (hp : Part p n) : KR [.d (mM rows sh), .d (tN p)] = ret (.d (tT (clsOf p))) := by
 refine Pu.eq (Pu.run ?_)
 unfold Rz Bj
 have h8 := M.n8
 have hl : (clsOf p).length ≤ 8 := by rw [Xu]; have := Rr hp M.n0; omega
 have c : lcA (lSeq (Ao true JF (Aa (Ao true Gk (Aa (vT 0) (Aa (vT 1) aNil))) aNil))) (gN 2) bYes (cN (on1 hTup) (Aa (vT 2) aNil)) [2] [some (.d (mM rows sh)), some (.d (tN p)), none] = ret ((clsOf p).map tN) := by
  refine Ot (f := lI) (by simp -implicitDefEqProofs [Td M hp, YH M hp]) (by rw [sizeLine_eq]; omega) fun c hc => ?_
  simp -implicitDefEqProofs
 simp -implicitDefEqProofs [c]
 exact Pu.ret rfl
theorem aeY (M : Mach rows sh n l) (hp : Part p n) : Gm [.d (tN p)] = ret (.d (lL (clsOf p))) :=
 aaw (abk hp M.n0) (by rw [hp.len]; exact M.n8) (by have := Rr hp M.n0; have := M.n8; omega)
end
abbrev BP : List Nat := [12, 8, 8]
section
variable {rows : List (List Nat)} {sh : List Nat} {n l : Nat} {p : List Nat}
theorem JV (M : Mach rows sh n l) {p : PyData} (hp : Gy BP p = true) : Fp [.d (mM rows sh), .d p] = ret (vB true) := by
 refine Pu.eq (Pu.run ?_)
 unfold JZ Bj
 obtain ⟨b, hb, c1, c2⟩ := Je M p
 have r1 := R9 (p := .list [mM rows sh, p]) (bs := 2 :: BP) (fM_l (fun x hx => by
  simp only [List.mem_cons, List.not_mem_nil, or_false] at hx
  rcases hx with rfl | rfl
  ·exact M.fM (by omega)
  ·exact hp) (by simp))
 generalize (PyData.list [mM rows sh, p]).shown = z1 at r1
 have r2 := R9 (p := .list [.bool b, .bool b]) (bs := [2]) (by cases b <;> kernel_rfl)
 generalize (PyData.list [PyData.bool b, PyData.bool b]).shown = z2 at r2
 have hn := M.len
 cases b with
 | false =>
  simp -implicitDefEqProofs [r1, hn, c1, c2, r2, vB]
  exact Pu.ret rfl
 | true =>
  obtain ⟨ns, rfl, hp'⟩ := hb.mp rfl
  have c3 := Xy M hp'
  have c4 := aeY M hp'
  have h8 := M.n8
  have hl : (clsOf ns).length ≤ 8 := by rw [Xu]; have := Rr hp' M.n0; omega
  have C := Cls.of ns
  have c5 : lcA (lSeq (Ao true Gm (Aa (vT 1) aNil))) (gN 6) bYes (cN (on1 hTup) (Aa (vT 6) aNil)) [6] [some (.d (mM rows sh)), some (.d (tN ns)), some (.d (.str z1)), some (.d (.bool true)), some (.d (.list [.bool true, .bool true])), none, none] = ret ((clsOf ns).map tN) := by
   refine Ot (f := lI) (by simp -implicitDefEqProofs [c4]) (by rw [sizeLine_eq]; omega) fun c hc => ?_
   simp -implicitDefEqProofs
  have r3 := R9 (p := .list [tT (clsOf ns), tT (clsOf ns)]) (bs := [2, 8, 8]) (fM_l (fun x hx => by
   have e : x = tT (clsOf ns) := by simpa using hx
   rw [e]
   refine afh (fun c hc => ⟨?_, fun x hx => ?_⟩) hl
   ·have h1 := C.clen hc
    rw [hp'.len] at h1
    omega
   ·have h1 := C.lt hc hx
    rw [hp'.len] at h1
    omega) (by simp))
  generalize (PyData.list [tT (clsOf ns), tT (clsOf ns)]).shown = z3 at r3
  simp -implicitDefEqProofs [-List.map_map, r1, hn, c1, c2, r2, vB, c3, c5, r3]
  exact Pu.ret rfl
theorem P0 (M : Mach rows sh n l) : FZ [.d (mM rows sh)] = ret (vB true) := by
 refine Pu.eq (Pu.run ?_)
 unfold FQ Bj
 have h0 := M.n0
 have h8 := M.n8
 have hn := M.len
 have c1 := aaR M
 have c2 := acx M
 have c3 := Jy M
 have trg : gTRg (.d (.int n)) = some (.d (tN (List.range n))) := by
  simp only [gTRg, Vx]
  rw [if_pos (by omega)]
 have m := mulT (.int 0) n M.n0 (by omega)
 have e : (PyData.tuple (List.replicate n (.int 0))) = tN (List.replicate n 0) := by simp [List.map_replicate]
 rw [e] at m
 have m2 : gMul (.d (.list [tN (List.range n), tN (List.replicate n 0)])) (.d (.int 2)) = some (.d (.list [tN (List.range n), tN (List.replicate n 0), tN (List.range n), tN (List.replicate n 0)])) := by
  have := ah7 [tN (List.range n), tN (List.replicate n 0)] 2 (by simp)
  exact this
 have r1 := R9 (p := .list [tN (List.range n), tN (List.replicate n 0), tN (List.range n), tN (List.replicate n 0)]) (bs := [4, 8]) (fM_l (fun x hx => by
  simp only [List.mem_cons, List.not_mem_nil, or_false] at hx
  rcases hx with rfl | rfl | rfl | rfl
  ·exact UG (fun x hx => by have := List.mem_range.mp hx; omega) (by simpa using h8)
  ·exact UG (fun x hx => by rw [List.eq_of_mem_replicate hx]; omega) (by simpa using h8)
  ·exact UG (fun x hx => by have := List.mem_range.mp hx; omega) (by simpa using h8)
  ·exact UG (fun x hx => by rw [List.eq_of_mem_replicate hx]; omega) (by simpa using h8)) (by simp))
 generalize (PyData.list [tN (List.range n), tN (List.replicate n 0), tN (List.range n), tN (List.replicate n 0)]).shown = z1 at r1
 have g4 : BR [.d (tN (List.range n)), .d (tN (List.replicate n 0)), .d (tN (List.range n)), .d (tN (List.replicate n 0))] = some (.d (.list [tN (List.range n), tN (List.replicate n 0), tN (List.range n), tN (List.replicate n 0)])) := Px [tN (List.range n), tN (List.replicate n 0), tN (List.range n), tN (List.replicate n 0)] (by show 4 ≤ sizeLine; decide)
 by_cases h6 : (6 : Int) < n
 ·simp -implicitDefEqProofs [hn, c1, c2, g4, trg, m, m2, r1, h6, vB]
  exact Pu.ret rfl
 ·have c4 := Wo h0 h8
  have r2 := R9 (p := .list [.tuple ((Ah (n - 1)).map tN), .tuple ((Ah (n - 1)).map tN)]) (bs := [2, 300, 8]) (fM_l (fun x hx => by
   have e : x = tT (Ah (n - 1)) := by simpa using hx
   rw [e]
   refine afh (fun r hr => ?_) (Z7 _ (by omega))
   obtain ⟨q1, q2⟩ := Cz.mp hr
   exact ⟨by omega, fun x hx => by rw [← q2] at hx; have := SQ hx; omega⟩) (by simp))
  generalize (PyData.list [PyData.tuple ((Ah (n - 1)).map tN), PyData.tuple ((Ah (n - 1)).map tN)]).shown = z2 at r2
  simp -implicitDefEqProofs [hn, c1, c2, g4, trg, m, m2, r1, h6, vB, c4, c3, r2]
  exact Pu.ret rfl
end
theorem ahj (a b : List PyData) (h0 : a ≠ []) (h : a.length + b.length ≤ 100) : gAdd (.d (.tuple a)) (.d (.tuple b)) = some (.d (.tuple (a ++ b))) := by
 simp [gAdd, hAdd, sizeLine_eq, h0]
 omega
@[simp] theorem agO (i j : Int) : Qu (.d (.int i)) (.d (.int j)) = some (.d (.int (i + j))) := rfl
theorem ZR (a b : List PyData) (h : a.length + b.length ≤ 100) : Qu (.d (.tuple a)) (.d (.tuple b)) = some (.d (.tuple (a ++ b))) := by
 cases a with
 | nil => rfl
 | cons x xs => exact ahj _ _ (by simp) h
theorem ag5 (ys : List PyData) (k : Nat) : gSlA (.d (.tuple ys)) none (some (k : Int)) = some (.d (.tuple (ys.take k))) := by
 have h := ad4 ys k
 simp only [gSlL, Option.some.injEq, Va.d.injEq, PyData.list.injEq] at h
 rw [TX, h]
theorem ag6 (ys : List PyData) (k : Nat) : gSlA (.d (.tuple ys)) (some (k : Int)) none = some (.d (.tuple (ys.drop k))) := by
 have h := adA ys k
 simp only [gSlL, Option.some.injEq, Va.d.injEq, PyData.list.injEq] at h
 rw [TX, h]
def Yk : List PyData := [.none, .bool true, .bool false, .int (-1), .int 0, .int 1, .int 2, .int 9, .int 1000000000000000000000000000000, .str "0", .tuple [.int 0], .list [.int 0], .dict []]
theorem abo : ∀ p ∈ Yk, Gy [8, 8] p = true := by
 intro p hp
 have : (Yk.all fun p => Gy [8, 8] p) = true := by kernel_rfl
 exact List.all_eq_true.mp this p hp
theorem adp {ns : List Nat} (h : ∀ x ∈ ns, x < 1000) : ∀ p ∈ ns.map nI, Gy [8, 8] p = true := by
 intro p hp
 obtain ⟨x, hx, rfl⟩ := List.mem_map.mp hp
 exact Zo (h x hx) _
def ahk (c t : Nat) (S : Sto) (v : Va) (S' : Sto) : Prop := ∃ q, v = .d q ∧ Gy BP q = true ∧ Good S' c (t + 20) ∧ S'.length = S.length
theorem aeK {S : Sto} {c t n : Nat} {ns : List Nat} (hG : Good S c t) (ht : t < 2 ^ 50) (h1 : 1 ≤ n) (h8 : n ≤ 8) (hp : Part ns n) : Sat (Iz [.c c, .d (tN ns)]) S (ahk c t S) := by
 have hlen := hp.len
 have hlt : ∀ x ∈ ns, x < 1000 := fun x hx => by have := hp.lt hx; omega
 have hfit := adp hlt
 have hod : (cN BR (Aa (kC .none) (Aa (kC (.bool true)) (Aa (kC (.bool false)) (Aa (c1 gNeg (kC (.int 1))) (Aa (kC (.int 0)) (Aa (kC (.int 1)) (Aa (kC (.int 2)) (Aa (kC (.int 9)) (Aa (c2 gPow (kC (.int 10)) (kC (.int 30))) (Aa (kC (.str "0")) (Aa (cN Bg (Aa (kC (.int 0)) aNil)) (Aa (cN BR (Aa (kC (.int 0)) aNil)) (Aa (cN gD0 aNil) aNil)))))))))))))) = kC (.list Yk) := by
  funext env S
  kernel_rfl
 refine Sat.runF ?_
 unfold Gr Bj
 rw [hod]
 simp -implicitDefEqProofs [hlen]
 refine Sat.lb (ab4 (k := n) hG (by omega) h1 (by omega)) ?_
 rintro v S1 ⟨sp, rfl, hsp, hG1, hl1⟩
 simp -implicitDefEqProofs
 refine Sat.lb (ab4 (k := 8) hG1 (by omega) (by omega) (by omega)) ?_
 rintro v S2 ⟨how, rfl, hhow, hG2, hl2⟩
 obtain ⟨sq, hsq⟩ : ∃ sq : Nat, sq = sp + 1 := ⟨_, rfl⟩
 have esq : (sp : Int) + 1 = (sq : Int) := by omega
 have t1 := ag5 (ns.map nI) sp
 have t2 := ag5 (ns.map nI) sq
 have f1 := ag6 (ns.map nI) sp
 have f2 := ag6 (ns.map nI) sq
 have L : ∀ k : Nat, ((ns.map nI).take k).length ≤ 8 ∧ ((ns.map nI).drop k).length ≤ 8 := fun k => by
  constructor
  ·rw [List.length_take, List.length_map]; omega
  ·rw [List.length_drop, List.length_map]; omega
 have TK : ∀ k : Nat, ∀ x ∈ (ns.map nI).take k, Gy [8, 8] x = true := fun k x hx => hfit x (List.mem_of_mem_take hx)
 have DR : ∀ k : Nat, ∀ x ∈ (ns.map nI).drop k, Gy [8, 8] x = true := fun k x hx => hfit x (List.mem_of_mem_drop hx)
 have l1 : ((ns.map nI).take sp).length ≤ sp := by rw [List.length_take]; omega
 have a1 := ZR ((ns.map nI).take sp) ((ns.map nI).drop sq) (by have := (L sp).1; have := (L sq).2; omega)
 have a2 := ZR ((ns.map nI).take sq) ((ns.map nI).drop sp) (by have := (L sq).1; have := (L sp).2; omega)
 have fin_ : ∀ q : PyData, Gy BP q = true → ahk c t S (.d q) S2 := fun q hq => ⟨q, rfl, hq, hG2.mono (by omega), by omega⟩
 rcases (show how = 0 ∨ how = 1 ∨ how = 2 ∨ how = 3 ∨ how = 4 ∨ 5 ≤ how by omega) with rfl | rfl | rfl | rfl | rfl | h4
 ·simp -implicitDefEqProofs [-List.map_take, -List.map_drop, -TX, esq, t1, f2, a1]
  refine Sat.ret (fin_ _ (fM_t ?_ ?_))
  ·intro x hx
   rcases List.mem_append.mp hx with hx | hx
   ·exact TK _ x hx
   ·exact DR _ x hx
  ·rw [List.length_append, List.length_take, List.length_drop, List.length_map]; omega
 ·simp -implicitDefEqProofs [-List.map_take, -List.map_drop, -TX, esq, t2, f1, a2]
  refine Sat.ret (fin_ _ (fM_t ?_ ?_))
  ·intro x hx
   rcases List.mem_append.mp hx with hx | hx
   ·exact TK _ x hx
   ·exact DR _ x hx
  ·rw [List.length_append, List.length_take, List.length_drop, List.length_map]; omega
 ·simp -implicitDefEqProofs
  exact Sat.ret (fin_ _ (fM_l hfit (by simp; omega)))
 ·simp -implicitDefEqProofs [-List.map_reverse]
  exact Sat.ret (fin_ _ (fM_t (fun x hx => hfit x (List.mem_reverse.mp hx)) (by simp; omega)))
 ·have c1 : lcA (lSeq (vT 1)) (gN 5) bYes (c2 Qu (vT 5) (kC (.int 1))) [5] [some (.c c), some (.d (tN ns)), some (.d (.list Yk)), some (.d (nI sp)), some (.d (nI 4)), none] = ret ((ns.map (· + 1)).map nI) := by
   rw [List.map_map]
   refine Ot (f := nI) (by simp -implicitDefEqProofs) (by rw [sizeLine_eq]; omega) fun x hx => ?_
   have e : nI (x + 1) = .int ((x : Int) + 1) := by
    show PyData.int ((x + 1 : Nat) : Int) = _
    rw [Int.natCast_add]; rfl
   simp -implicitDefEqProofs
   rw [e]
  simp -implicitDefEqProofs [c1]
  have hf : Gy BP (tN (ns.map (· + 1))) = true := UG (fun x hx => by
   obtain ⟨y, hy, rfl⟩ := List.mem_map.mp hx
   have := hp.lt hy
   show y + 1 < 1000
   omega) (by rw [List.length_map]; omega)
  exact Sat.ret (fin_ _ (by rw [← List.map_map]; exact hf))
 ·have n0 : ¬ how = 0 := by omega
  have n1 : ¬ (how : Int) = 1 := by omega
  have n2 : ¬ (how : Int) = 2 := by omega
  have n3 : ¬ (how : Int) = 3 := by omega
  have n4 : ¬ (how : Int) = 4 := by omega
  simp -implicitDefEqProofs [-List.map_take, -List.map_drop, -TX, n0, n1, n2, n3, n4, esq, t1, f2]
  have o := of' (f := fun p : PyData => p) (xs := Yk) hG2 (by omega) (by simp [Yk]) (by simp [Yk])
  rw [List.map_id'] at o
  refine Sat.lb o ?_
  rintro v S3 ⟨x, hx, rfl, hG3, hl3⟩
  have a3 := ZR ((ns.map nI).take sp) [x] (by have := (L sp).1; simp only [List.length_singleton]; omega)
  have a4 := ZR ((ns.map nI).take sp ++ [x]) ((ns.map nI).drop sq) (by have := (L sp).1; have := (L sq).2; rw [List.length_append, List.length_singleton]; omega)
  simp -implicitDefEqProofs [-List.map_take, -List.map_drop, -TX, -List.append_assoc, a3, f2, a4]
  refine Sat.ret ⟨_, rfl, fM_t ?_ ?_, hG3.mono (by omega), by omega⟩
  ·intro y hy
   rcases List.mem_append.mp hy with hy | hy
   ·rcases List.mem_append.mp hy with hy | hy
    ·exact TK _ y hy
    ·rw [List.mem_singleton.mp hy]; exact abo x hx
   ·exact DR _ y hy
  ·rw [List.length_append, List.length_append, List.length_take, List.length_drop, List.length_map, List.length_singleton]; omega
inductive Tr where
 | lf
 | nd (l : Tr) (x : Nat) (r : Tr)
def Tr.ins (x : Nat) : Tr → Option Tr
 | .lf => some (.nd .lf x .lf)
 | .nd l y r => match Nat.blt x y with
  | true => match l.ins x with
   | some l' => some (.nd l' y r)
   | none => none
  | false => match Nat.blt y x with
   | true => match r.ins x with
    | some r' => some (.nd l y r')
    | none => none
   | false => none
def frc {α : Type} (n : Nat) (f : Nat → α) : α := match n with
 | 0 => f 0
 | k + 1 => f (k + 1)
theorem agP {α : Type} (n : Nat) (f : Nat → α) : frc n f = f n := by cases n <;> rfl
def ag7 : Int → Nat
 | .ofNat n => 2 * n
 | .negSucc n => 2 * n + 1
def Zr (f : List Nat → Nat) : List (List Nat) → Tr → Bool
 | [], _ => true
 | x :: xs, t => frc (f x) fun h => match t.ins h with
  | some t' => Zr f xs t'
  | none => false
def hN (ns : List Nat) : Nat := ag7 (hT (ns.map fun n : Nat => (n : Int)))
def Tr.has : Tr → Nat → Prop
 | .lf, _ => False
 | .nd l y r, z => z = y ∨ l.has z ∨ r.has z
def Tr.bst : Tr → Prop
 | .lf => True
 | .nd l y r => (∀ z, l.has z → z < y) ∧ (∀ z, r.has z → y < z) ∧ l.bst ∧ r.bst
theorem ahc {a b : Nat} (h : Nat.blt a b = true) : a < b := by
 have := Nat.le_of_ble_eq_true h
 omega
theorem abH {x : Nat} : ∀ {t t' : Tr}, t.bst → t.ins x = some t' → ¬ t.has x ∧ t'.bst ∧ ∀ z, t'.has z ↔ z = x ∨ t.has z
 | .lf, t', _, h => by
  cases h
  exact ⟨fun h => h, ⟨fun _ h => h.elim, fun _ h => h.elim, trivial, trivial⟩, fun z => by simp [Tr.has]⟩
 | .nd l y r, t', ⟨b1, b2, b3, b4⟩, h => by
  unfold Tr.ins at h
  cases c1 : Nat.blt x y with
  | true =>
   have lt := ahc c1
   rw [c1] at h
   dsimp only at h
   cases e : l.ins x with
   | none => rw [e] at h; cases h
   | some l' =>
    rw [e] at h
    cases h
    obtain ⟨q1, q2, q3⟩ := abH b3 e
    refine ⟨?_, ⟨fun z hz => ?_, b2, q2, b4⟩, fun z => ?_⟩
    ·rintro (z | z | z)
     ·omega
     ·exact q1 z
     ·have := b2 x z; omega
    ·rcases (q3 z).mp hz with rfl | hz
     ·exact lt
     ·exact b1 z hz
    ·simp only [Tr.has, q3 z]
     constructor
     ·rintro (h | (h | h) | h)
      ·exact .inr (.inl h)
      ·exact .inl h
      ·exact .inr (.inr (.inl h))
      ·exact .inr (.inr (.inr h))
     ·rintro (h | h | h | h)
      ·exact .inr (.inl (.inl h))
      ·exact .inl h
      ·exact .inr (.inl (.inr h))
      ·exact .inr (.inr h)
  | false =>
   rw [c1] at h
   dsimp only at h
   cases c2 : Nat.blt y x with
   | false => rw [c2] at h; cases h
   | true =>
    have lt := ahc c2
    rw [c2] at h
    dsimp only at h
    cases e : r.ins x with
    | none => rw [e] at h; cases h
    | some r' =>
     rw [e] at h
     cases h
     obtain ⟨q1, q2, q3⟩ := abH b4 e
     refine ⟨?_, ⟨b1, fun z hz => ?_, b3, q2⟩, fun z => ?_⟩
     ·rintro (z | z | z)
      ·omega
      ·have := b1 x z; omega
      ·exact q1 z
     ·rcases (q3 z).mp hz with rfl | hz
      ·exact lt
      ·exact b2 z hz
     ·simp only [Tr.has, q3 z]
      constructor
      ·rintro (h | h | (h | h))
       ·exact .inr (.inl h)
       ·exact .inr (.inr (.inl h))
       ·exact .inl h
       ·exact .inr (.inr (.inr h))
      ·rintro (h | h | h | h)
       ·exact .inr (.inr (.inl h))
       ·exact .inl h
       ·exact .inr (.inl h)
       ·exact .inr (.inr (.inr h))
theorem Xd {f : List Nat → Nat} : ∀ {xs : List (List Nat)} {t : Tr}, t.bst → Zr f xs t = true → (xs.map f).Nodup ∧ ∀ z ∈ xs.map f, ¬ t.has z
 | [], _, _, _ => ⟨.nil, by simp⟩
 | x :: xs, t, hb, h => by
  unfold Zr at h
  rw [agP] at h
  cases e : t.ins (f x) with
  | none => rw [e] at h; cases h
  | some t' =>
   rw [e] at h
   obtain ⟨q1, q2, q3⟩ := abH hb e
   obtain ⟨r1, r2⟩ := Xd q2 h
   refine ⟨?_, fun z hz => ?_⟩
   ·rw [List.map_cons]
    exact List.nodup_cons.mpr ⟨fun m => r2 _ m ((q3 _).mpr (.inl rfl)), r1⟩
   ·rw [List.map_cons] at hz
    rcases List.mem_cons.mp hz with rfl | hz
    ·exact q1
    ·exact fun m => r2 z hz ((q3 z).mpr (.inr m))
abbrev toZ (ns : List Nat) : List Int := ns.map fun n : Nat => (n : Int)
theorem hashes : ((List.range 8).all fun k => Zr hN (Ah k) .lf) = true := by decide +kernel
theorem ae9 {k : Nat} (h : k ≤ 7) : (((Ah k).map toZ).map hT).Nodup := by
 have h1 := List.all_eq_true.mp hashes k (List.mem_range.mpr (by omega))
 have h2 := (Xd (t := .lf) trivial h1).1
 refine L2.nodup_of_map (f := ag7) ?_
 rw [List.map_map, List.map_map]
 exact h2
theorem abr : ∀ {p q : List Nat}, p.length = q.length → lexN p q → p ≠ q → lexI (toZ p) (toZ q) = true
 | [], [], _, _, h => absurd rfl h
 | a :: p, b :: q, hl, h, hne => by
  simp only [lexN, List.map_cons, lexLe] at h
  simp only [lexI, List.map_cons, PyProof.Rows.lexLt, PyProof.Rows.itemOrd, PyProof.Rows.itemLt]
  by_cases c1 : (a : Int) < b
  ·simp [c1]
  ·rw [if_neg c1] at h
   by_cases c2 : (b : Int) < a
   ·rw [if_pos c2] at h; cases h
   ·rw [if_neg c2] at h
    have e : a = b := by omega
    subst e
    have := abr (p := p) (q := q) (by simpa using hl) h fun z => hne (by rw [z])
    simp only [lexI, PyProof.Rows.itemOrd] at this
    simpa using this
theorem aag {k : Nat} (h : k ≤ 7) : OkB ((Ah k).map toZ) where
 len := by rw [List.length_map]; have := Jh k h; omega
 ne := fun z hz => by
  obtain ⟨ns, hn, rfl⟩ := List.mem_map.mp hz
  have h1 := (Cz.mp hn).1
  intro e
  rw [List.map_eq_nil_iff.mp e] at h1
  simp at h1
 asc := by
  rw [List.pairwise_map]
  refine (U3 k).imp_of_mem fun {p q} hp hq h => abr ?_ h.1 h.2
  rw [(Cz.mp hp).1, (Cz.mp hq).1]
 nd := ae9 h
theorem XC : ∀ xs : List (List Nat), XD (xs.map tN) = some (xs.map toZ)
 | [] => rfl
 | x :: xs => by
  have e : afH (tN x) = some (toZ x) := by
   show Oe (x.map nI) = _
   rw [QG]
  simp only [List.map_cons, XD, e, XC xs, Option.bind_some, Option.map_some]
theorem X5 {k : Nat} (h : k ≤ 7) : on1 Q5 [.d (.tuple ((Ah k).map tN))] = some (.d (.list ((Ah k).map tN))) := by
 have e : ((Ah k).map toZ).map aaK = (Ah k).map tN := by
  rw [List.map_map]
  refine List.map_congr_left fun x _ => ?_
  show PyData.tuple ((x.map fun n : Nat => (n : Int)).map .int) = .tuple (x.map nI)
  rw [List.map_map]
  rfl
 show Q5 (.d (.tuple ((Ah k).map tN))) = _
 unfold Q5
 dsimp only
 rw [XC, Option.bind_some, if_pos (aag h), e]
section
variable {S S1 S2 S' : Sto} {env env' : En}
theorem abT {ps : List PyData} {g : DL} {t : TF} {body : SF} {S0 : Sto} (h : g env S = .ok ps S0) (h2 : JM t body ps env S0 = .ok (.nx, env') S') : sFor g t body env S = .ok (.nx, env') S' := by
 unfold sFor
 rw [Mz h]
 exact h2
theorem ag0 {f g : DF} {r : R Va} (h : f env S = .ok (vB true) S1) (h2 : g env S1 = r) : eAnd f g env S = r := by
 rw [afr, KJ h]
 exact h2
theorem acf {A B : DB} (h : A env S = .ok false S1) (h2 : B env S1 = .ok false S2) : bOr A B env S = .ok false S2 := by
 unfold bOr
 rw [KJ h, if_neg Bool.false_ne_true]
 exact h2
theorem Ve {c : DB} (h : c env S = .ok false S') : sIf c (sRet (kC (.bool false))) sNil env S = .ok (.nx, env) S' := by
 rw [ae8 h]
 rfl
theorem ah1 {n : Nat} {body : SF} {ds : List Va} {v : Va} (h : body (Bj n ds) S = .ok (.rt v, env') S') : noX (runF n body ds) S = .ok v S' := by
 unfold noX runF
 rw [h]
theorem YG {f : DF} (h : f env S = .ok (vB true) S') : bNot (bV f) env S = .ok false S' := by
 unfold bNot
 rw [KJ (Wj (b := true) h)]
 rfl
end
theorem Yp {α : Type} {t : TF} {body : SF} {E : α → En} {S : Sto} : ∀ (ps : List PyData) (o : α), (∀ p ∈ ps, ∀ o, ∃ o', bnd (ofO (t (.d p) (E o))) body S = .ok (.nx, E o') S) → ∃ o', JM t body ps (E o) S = .ok (.nx, E o') S
 | [], o, _ => ⟨o, rfl⟩
 | p :: ps, o, h => by
  obtain ⟨o1, h1⟩ := h p (by simp) o
  obtain ⟨o2, h2⟩ := Yp ps o1 fun q hq => h q (by simp [hq])
  refine ⟨o2, ?_⟩
  have eq : JM t body (p :: ps) (E o) = KP.bnd (KP.bnd (ofO (t (.d p) (E o))) body) fun r => match r.1 with
   | .nx => JM t body ps r.2
   | .ct => JM t body ps r.2
   | .bk => ret (.nx, r.2)
   | .rt v => ret (.rt v, r.2)
   | .xc x => ret (.xc x, r.2) := by rw [Ij]; rfl
  rw [eq, KJ h1]
  exact h2
abbrev cnts : List Nat := [1, 2, 5, 15, 52, 203, 877, 4140]
theorem afA : ((List.range 8).all fun k => (Ah k).length == at0 cnts k && (Ah k).head? == some (List.replicate (k + 1) 0) && (Ah k).getLast? == some (List.range (k + 1))) = true := by decide +kernel
theorem ag8 {k : Nat} (h : k ≤ 7) : (Ah k).length = at0 cnts k ∧ (∃ r, Ah k = List.replicate (k + 1) 0 :: r) ∧ ∃ r, Ah k = r ++ [List.range (k + 1)] := by
 have h1 := List.all_eq_true.mp afA k (List.mem_range.mpr (by omega))
 simp only [Bool.and_eq_true, beq_iff_eq] at h1
 refine ⟨h1.1.1, ?_, ?_⟩
 ·cases e : Ah k with
  | nil => rw [e] at h1; cases h1.1.2
  | cons x r =>
   rw [e] at h1
   cases h1.1.2
   exact ⟨r, rfl⟩
 ·obtain ⟨r, e⟩ := List.getLast?_eq_some_iff.mp h1.2
  exact ⟨r, e⟩
theorem ac9 (ys : List PyData) (y : PyData) : gIx (.d (.tuple (ys ++ [y]))) (.d (.int (-1))) = some (.d y) := by
 have e : ixN (ys.length + 1) (-1) = some ys.length := by
  unfold ixN
  rw [if_neg (by omega), if_pos (by omega)]
  congr 1
  omega
 simp [gIx, hIx, atI, e]
theorem aia {m : Nat} (h1 : 1 ≤ m) (h8 : m ≤ 8) : Mach (List.replicate m [0]) (List.replicate m 0) m 1 := by
 refine ⟨h1, h8, by omega, by omega, by simp, fun r hr => ?_, by simp, fun x hx => ?_⟩
 ·rw [List.eq_of_mem_replicate hr]
  exact ⟨rfl, fun x hx => by simp at hx; omega⟩
 ·rw [List.eq_of_mem_replicate hx]
  omega
def hb1 : SF := (sAsg (cN Bg (Aa (cN (on1 hTup) (Aa (c2 gMul (cN BR (Aa (cN Bg (Aa (kC (.int 0)) aNil)) aNil)) (vT 1)) aNil)) (Aa (c2 gMul (cN Bg (Aa (kC (.int 0)) aNil)) (vT 1)) aNil))) (gN 6))
def hb2 : SF := (sAsg (Ao true BW (Aa (vT 6) aNil)) (gN 7))
def hb3 : SF := (sIf (bOr (bNot (bV (c1 (gIsi "tuple") (vT 7)))) (bOr (bV (c2 gNe (cN (on1 Ez) (Aa (vT 7) aNil)) (c2 gIx (vT 0) (c2 gSub (vT 1) (kC (.int 1)))))) (bV (c2 gNe (cN (on1 Xf) (Aa (vT 7) aNil)) (cN (on1 Q5) (Aa (vT 7) aNil)))))) (sRet (kC (.bool false))) sNil)
def hb4 : SF := (sIf (bV (c2 gNe (fD (lcA (lSeq (vT 7)) (gN 8) (bNot (bV (Ao true Bl (Aa (vT 1) (Aa (vT 8) aNil))))) (vT 8) [8])) (cN BR aNil))) (sRet (kC (.bool false))) sNil)
def hb5 : SF := (sIf (bV (c2 gNe (cN (on1 GJ) (Aa (cN BR (Aa (c2 gIx (vT 7) (kC (.int 0))) (Aa (c2 gIx (vT 7) (c1 gNeg (kC (.int 1)))) aNil))) aNil)) (cN (on1 GJ) (Aa (cN BR (Aa (c2 gMul (cN Bg (Aa (kC (.int 0)) aNil)) (vT 1)) (Aa (c1 gTRg (vT 1)) aNil))) aNil)))) (sRet (kC (.bool false))) sNil)
def hb : SF := sSeq hb1 (sSeq hb2 (sSeq hb3 (sSeq hb4 hb5)))
abbrev envH (o : Option Sv × Option Sv × Option Sv) : En := [some (.d (.list (cnts.map nI))), o.1, none, none, none, none, o.2.1, o.2.2, none]
theorem Zw {bs : List Nat} {p : PyData} (h : fits bs p = true) (hb : bs.length ≤ 60) : gNe (.d p) (.d p) = some (vB false) := Zx (k := true) h h hb hb (by simp)
theorem aeW {S : Sto} {m : Nat} (h1 : 1 ≤ m) (h8 : m ≤ 8) (o : Option Sv × Option Sv × Option Sv) : ∃ o', bnd (ofO (gN 1 (.d (nI m)) (envH o))) hb S = .ok (.nx, envH o') S := by
 have M := aia h1 h8
 obtain ⟨hl, ⟨r0, hr0⟩, ⟨r1, hr1⟩⟩ := ag8 (k := m - 1) (by omega)
 rw [show m - 1 + 1 = m by omega] at hr0 hr1
 have s1 : hb1 (envH (some (.d (nI m)), o.2.1, o.2.2)) S = .ok (.nx, envH (some (.d (nI m)), some (.d (mM (List.replicate m [0]) (List.replicate m 0))), o.2.2)) S := by
  have : m = 1 ∨ m = 2 ∨ m = 3 ∨ m = 4 ∨ m = 5 ∨ m = 6 ∨ m = 7 ∨ m = 8 := by omega
  rcases this with rfl | rfl | rfl | rfl | rfl | rfl | rfl | rfl <;> kernel_rfl
 have ap := Jy M
 have s2 : hb2 (envH (some (.d (nI m)), some (.d (mM (List.replicate m [0]) (List.replicate m 0))), o.2.2)) S = .ok (.nx, envH (some (.d (nI m)), some (.d (mM (List.replicate m [0]) (List.replicate m 0))), some (.d (.tuple ((Ah (m - 1)).map tN))))) S := by
  unfold hb2
  simp -implicitDefEqProofs [ap]
  rfl
 have part : ∀ z ∈ Ah (m - 1), Part z m := fun z hz => by
  obtain ⟨q1, q2⟩ := Cz.mp hz
  exact ⟨by omega, q2⟩
 have s3 : hb3 (envH (some (.d (nI m)), some (.d (mM (List.replicate m [0]) (List.replicate m 0))), some (.d (.tuple ((Ah (m - 1)).map tN))))) S = .ok (.nx, envH (some (.d (nI m)), some (.d (mM (List.replicate m [0]) (List.replicate m 0))), some (.d (.tuple ((Ah (m - 1)).map tN))))) S := by
  have hc : c2 gIx (vT 0) (c2 gSub (vT 1) (kC (.int 1))) (envH (some (.d (nI m)), some (.d (mM (List.replicate m [0]) (List.replicate m 0))), some (.d (.tuple ((Ah (m - 1)).map tN))))) S = .ok (.d (nI (at0 cnts (m - 1)))) S := by
   have : m = 1 ∨ m = 2 ∨ m = 3 ∨ m = 4 ∨ m = 5 ∨ m = 6 ∨ m = 7 ∨ m = 8 := by omega
   rcases this with rfl | rfl | rfl | rfl | rfl | rfl | rfl | rfl <;> rfl
  have hlen : on1 Ez [.d (.tuple ((Ah (m - 1)).map tN))] = some (.d (nI (at0 cnts (m - 1)))) := by
   rw [← hl]
   show some (Va.d (.int (((Ah (m - 1)).map tN).length : Nat))) = _
   rw [List.length_map]
  have hf : fits [4140, 8] (.list ((Ah (m - 1)).map tN)) = true := by
   show (decide (((Ah (m - 1)).map tN).length ≤ 4140) && ((Ah (m - 1)).map tN).all (fits [8])) = true
   rw [List.length_map, Bool.and_eq_true, decide_eq_true_eq]
   refine ⟨Jh _ (by omega), List.all_eq_true.mpr fun x hx => ?_⟩
   obtain ⟨z, hz, rfl⟩ := List.mem_map.mp hx
   exact T5 (by rw [(part z hz).len]; exact h8)
  refine Ve (acf (S1 := S) (YG (S' := S) rfl) (acf (S1 := S) (Wj (Eo (S1 := S) (KH (S1 := S) rfl hlen) hc (Zw (bs := []) rfl (by decide)))) (Wj (Eo (S1 := S) (KH (S1 := S) rfl (w := .d (.list ((Ah (m - 1)).map tN))) rfl) (KH (S1 := S) rfl (X5 (by omega))) (Zw hf (by decide))))))
 have s4 : hb4 (envH (some (.d (nI m)), some (.d (mM (List.replicate m [0]) (List.replicate m 0))), some (.d (.tuple ((Ah (m - 1)).map tN))))) S = .ok (.nx, envH (some (.d (nI m)), some (.d (mM (List.replicate m [0]) (List.replicate m 0))), some (.d (.tuple ((Ah (m - 1)).map tN))))) S := by
  have c : lcA (lSeq (vT 7)) (gN 8) (bNot (bV (Ao true Bl (Aa (vT 1) (Aa (vT 8) aNil))))) (vT 8) [8] (envH (some (.d (nI m)), some (.d (mM (List.replicate m [0]) (List.replicate m 0))), some (.d (.tuple ((Ah (m - 1)).map tN))))) = ret [] := by
   have := VR (h := lSeq (vT 7)) (t := gN 8) (c := bNot (bV (Ao true Bl (Aa (vT 1) (Aa (vT 8) aNil))))) (e := vT 8) (vs := [8]) (env := envH (some (.d (nI m)), some (.d (mM (List.replicate m [0]) (List.replicate m 0))), some (.d (.tuple ((Ah (m - 1)).map tN))))) (f := tN) (b := fun _ => false) (g := tN) (xs := Ah (m - 1)) (by simp -implicitDefEqProofs) (by have := Jh (m - 1) (by omega); rw [sizeLine_eq]; omega) (fun z hz => by
    have h := (Jo h1 h8 (tN z)).1 ⟨z, rfl, part z hz⟩
    simp -implicitDefEqProofs [h, vB]) (fun z hz h => by cases h)
   rw [this]
   congr 1
   rw [List.filter_eq_nil_iff.mpr fun _ _ => Bool.false_ne_true]
   rfl
  refine Ve (Wj (Eo (v := .d (.list [])) (w := .d (.list [])) (S1 := S) ?_ rfl (by kernel_rfl)))
  simp -implicitDefEqProofs [c]
  rfl
 have s5 : hb5 (envH (some (.d (nI m)), some (.d (mM (List.replicate m [0]) (List.replicate m 0))), some (.d (.tuple ((Ah (m - 1)).map tN))))) S = .ok (.nx, envH (some (.d (nI m)), some (.d (mM (List.replicate m [0]) (List.replicate m 0))), some (.d (.tuple ((Ah (m - 1)).map tN))))) S := by
  have e0 : gIx (.d (.tuple ((Ah (m - 1)).map tN))) (.d (.int 0)) = some (.d (tN (List.replicate m 0))) := by
   rw [hr0]
   exact agN _ _
  have e1 : gIx (.d (.tuple ((Ah (m - 1)).map tN))) (.d (.int (-1))) = some (.d (tN (List.range m))) := by
   rw [hr1, List.map_append]
   exact ac9 _ _
  have r := R9 (p := .list [tN (List.replicate m 0), tN (List.range m)]) (bs := [2, 8]) (fM_l (fun x hx => by
   simp only [List.mem_cons, List.not_mem_nil, or_false] at hx
   rcases hx with rfl | rfl
   ·exact UG (fun x hx => by rw [List.eq_of_mem_replicate hx]; omega) (by simpa using h8)
   ·exact UG (fun x hx => by have := List.mem_range.mp hx; omega) (by simpa using h8)) (by simp))
  have hR : c2 gMul (cN Bg (Aa (kC (.int 0)) aNil)) (vT 1) (envH (some (.d (nI m)), some (.d (mM (List.replicate m [0]) (List.replicate m 0))), some (.d (.tuple ((Ah (m - 1)).map tN))))) S = .ok (.d (tN (List.replicate m 0))) S := by
   have : m = 1 ∨ m = 2 ∨ m = 3 ∨ m = 4 ∨ m = 5 ∨ m = 6 ∨ m = 7 ∨ m = 8 := by omega
   rcases this with rfl | rfl | rfl | rfl | rfl | rfl | rfl | rfl <;> rfl
  have hT : c1 gTRg (vT 1) (envH (some (.d (nI m)), some (.d (mM (List.replicate m [0]) (List.replicate m 0))), some (.d (.tuple ((Ah (m - 1)).map tN))))) S = .ok (.d (tN (List.range m))) S := by
   have trg : gTRg (.d (.int m)) = some (.d (tN (List.range m))) := by
    simp only [gTRg, Vx]
    rw [if_pos (by omega)]
   simp -implicitDefEqProofs [trg]
   rfl
  have q0 : c2 gIx (vT 7) (kC (.int 0)) (envH (some (.d (nI m)), some (.d (mM (List.replicate m [0]) (List.replicate m 0))), some (.d (.tuple ((Ah (m - 1)).map tN))))) S = .ok (.d (tN (List.replicate m 0))) S := Eo (S1 := S) (S2 := S) rfl rfl e0
  have q1 : c2 gIx (vT 7) (c1 gNeg (kC (.int 1))) (envH (some (.d (nI m)), some (.d (mM (List.replicate m [0]) (List.replicate m 0))), some (.d (.tuple ((Ah (m - 1)).map tN))))) S = .ok (.d (tN (List.range m))) S := Eo (w := .d (.int (-1))) (S1 := S) (S2 := S) rfl rfl e1
  exact Ve (Wj (Eo (v := .d (.str (PyData.list [tN (List.replicate m 0), tN (List.range m)]).shown)) (w := .d (.str (PyData.list [tN (List.replicate m 0), tN (List.range m)]).shown)) (S1 := S) (S2 := S) (KH (v := .d (PyData.list [tN (List.replicate m 0), tN (List.range m)])) (S1 := S) (ad5 (S1 := S) (S2 := S) q0 q1 (agM _ _)) r) (KH (v := .d (PyData.list [tN (List.replicate m 0), tN (List.range m)])) (S1 := S) (ad5 (S1 := S) (S2 := S) hR hT (agM _ _)) r) (by rw [abS]; simp)))
 refine ⟨(some (.d (nI m)), some (.d (mM (List.replicate m [0]) (List.replicate m 0))), some (.d (.tuple ((Ah (m - 1)).map tN)))), ?_⟩
 show hb (envH (some (.d (nI m)), o.2.1, o.2.2)) S = _
 unfold hb
 rw [Ea s1, Ea s2, Ea s3, Ea s4]
 exact s5
abbrev afX : PyData := mM [[0], [0], [0]] [0, 0, 0]
abbrev agQ : PyData := mM [[0], [0], [0], [1]] [0, 0, 0, 0]
theorem ah9 : Mach [[0], [0], [0]] [0, 0, 0] 3 1 := ⟨by decide, by decide, by decide, by decide, by decide, by decide, by decide, by decide⟩
theorem abq : Mach [[0], [0], [0], [1]] [0, 0, 0, 0] 4 1 := ⟨by decide, by decide, by decide, by decide, by decide, by decide, by decide, by decide⟩
abbrev od1 : List PyData := [tN [0, 0, 2, 1], tN [1, 0, 0, 0], tN [0, 2, 1, 0], tN [0, 1, 0], tN [0, 1, 0, 1, 0], .tuple [.int 0, .bool true, .int 0, .int 1], .tuple [.int 0, .int 0, .int 0, .int (-1)]]
abbrev od2 : List PyData := od1 ++ [.none, .list [.int 0, .int 1, .int 0, .int 1], .str "0101", .dict [], .int 0, .tuple [], .tuple [.tuple [.int 0], .int 1, .int 0, .int 1], .tuple [.int 0, .int 1, .list [], .int 1], .tuple [.dict [], .int 0, .int 0, .int 0]]
abbrev od3 : List PyData := od2 ++ [.tuple [.bool false, .int 0, .int 0, .int 0], tN [0, 1, 2, 4], .tuple [.int 0, .int 0, .int 0, .str "0"]]
theorem aeL : ∀ p ∈ od3, Gy BP p = true := by
 intro p hp
 have : (od3.all fun p => Gy BP p) = true := by kernel_rfl
 exact List.all_eq_true.mp this p hp
def badR (r : R Va) : Bool := match r with
 | .ok (.d (.bool false)) _ => true
 | _ => false
theorem aeM : ∀ p ∈ od3, ¬ Sh 4 p := by
 intro p hp hs
 have h1 : (od3.all fun p => badR (Bl [.d (nI 4), .d p] [])) = true := by decide +kernel
 have h2 := List.all_eq_true.mp h1 p hp
 rw [(Jo (by omega) (by omega) p).1 hs] at h2
 cases h2
theorem agv {p : PyData} (hp : p ∈ od3) : Bx [.d agQ, .d p] = ret (vB false) := by
 obtain ⟨b, hb, c, _⟩ := Je abq p
 cases b with
 | false => exact c
 | true => exact absurd (hb.mp rfl) (aeM p hp)
theorem part_of {ns : List Nat} {n : Nat} (h : ns.length = n) (h2 : numb ns = ns) : Part ns n := ⟨h, h2⟩
abbrev envF (o : Option Sv × Option Sv × Option Sv) (o4 o5 : Option Sv) : En := [some (.d (.list (cnts.map nI))), o.1, some (.d afX), some (.d agQ), o4, o5, o.2.1, o.2.2, none]
def ob : SF := (sIf (bOr (bNot (bV (Ao true Fp (Aa (vT 3) (Aa (vT 5) aNil))))) (bV (c2 adg (Ao true Bx (Aa (vT 3) (Aa (vT 5) aNil))) (kC (.bool false))))) (sRet (kC (.bool false))) sNil)
theorem acY {S : Sto} (o : Option Sv × Option Sv × Option Sv) : ∃ o5, JM (gN 5) ob od3 (envF o (some (.d (.list od2))) none) S = .ok (.nx, envF o (some (.d (.list od2))) o5) S := by
 refine Yp (E := fun o5 => envF o (some (.d (.list od2))) o5) od3 none fun p hp o5 => ?_
 refine ⟨some (.d p), ?_⟩
 have c1 := JV abq (aeL p hp)
 have c2 := agv hp
 show ob (envF o (some (.d (.list od2))) (some (.d p))) S = _
 refine Ve (acf (S1 := S) (YG (S' := S) ?_) ?_)
 ·simp -implicitDefEqProofs [c1]
  rfl
 ·refine Wj (Eo (v := vB false) (w := vB false) (S1 := S) (S2 := S) ?_ rfl rfl)
  simp -implicitDefEqProofs [c2]
  rfl
theorem afa : Hk [] = ret (vB true) := by
 funext S
 show noX (runF 9 Dy []) S = .ok (vB true) S
 obtain ⟨o, hl1⟩ := Yp (E := envH) (S := S) (body := hb) (t := gN 1) ((List.range' 1 8).map nI) (none, none, none) fun p hp o => by
  obtain ⟨m, hm, rfl⟩ := List.mem_map.mp hp
  have := List.mem_range'_1.mp hm
  exact aeW (by omega) (by omega) o
 obtain ⟨o5, hl2⟩ := acY (S := S) o
 refine ah1 (env' := envF o (some (.d (.list od2))) o5) ?_
 unfold Dy
 refine (Ea (env' := envH (none, none, none)) (S1 := S) (by kernel_rfl)).trans ?_
 refine (Ea (abT (S0 := S) (by kernel_rfl) hl1)).trans ?_
 refine (Ea (env' := envF o none none) (S1 := S) (by kernel_rfl)).trans ?_
 refine (Ea (env' := envF o none none) (S1 := S) (Ve ?_)).trans ?_
 ·have ap := Jy ah9
  have e : (Ah (3 - 1)) = [[0, 0, 0], [0, 0, 1], [0, 1, 0], [0, 1, 1], [0, 1, 2]] := by decide +kernel
  rw [e] at ap
  have r := R9 (p := tT [[0, 0, 0], [0, 0, 1], [0, 1, 0], [0, 1, 1], [0, 1, 2]]) (bs := [8, 8]) (by kernel_rfl)
  have hA : Ao true BW (Aa (vT 2) aNil) (envF o none none) S = .ok (.d (tT [[0, 0, 0], [0, 0, 1], [0, 1, 0], [0, 1, 1], [0, 1, 2]])) S := by
   simp -implicitDefEqProofs [ap]
   rfl
  exact Wj (Eo (v := .d (.str (tT [[0, 0, 0], [0, 0, 1], [0, 1, 0], [0, 1, 1], [0, 1, 2]]).shown)) (w := .d (.str (tT [[0, 0, 0], [0, 0, 1], [0, 1, 0], [0, 1, 1], [0, 1, 2]]).shown)) (S1 := S) (S2 := S) (KH (S1 := S) hA r) (KH (v := .d (tT [[0, 0, 0], [0, 0, 1], [0, 1, 0], [0, 1, 1], [0, 1, 2]])) (S1 := S) (by kernel_rfl) r) (by rw [abS]; simp))
 refine (Ea (env' := envF o (some (.d (.list od1))) none) (S1 := S) (by kernel_rfl)).trans ?_
 refine (Ea (env' := envF o (some (.d (.list od2))) none) (S1 := S) (by kernel_rfl)).trans ?_
 refine (Ea (abT (S0 := S) (by kernel_rfl) hl2)).trans ?_
 refine (Ea (env' := envF o (some (.d (.list od2))) o5) (S1 := S) (Ve (YG ?_))).trans ?_
 ·have c := JV abq (p := tN [0, 1, 1, 2]) (by kernel_rfl)
  have g4 : Bg [.d (.int 0), .d (.int 1), .d (.int 1), .d (.int 2)] = some (.d (tN [0, 1, 1, 2])) := by kernel_rfl
  simp -implicitDefEqProofs [g4, c]
  rfl
 have g4 : Bg [.d (.int 0), .d (.int 1), .d (.int 0), .d (.int 2)] = some (.d (tN [0, 1, 0, 2])) := by kernel_rfl
 have g5 : Bg [.d (.int 0), .d (.int 1), .d (.int 2), .d (.int 0)] = some (.d (tN [0, 1, 2, 0])) := by kernel_rfl
 have b4 := Xy abq (p := [0, 1, 0, 2]) (part_of rfl (by decide +kernel))
 have e4 : tT (clsOf [0, 1, 0, 2]) = tT [[0, 2], [1], [3]] := by
  rw [show clsOf [0, 1, 0, 2] = [[0, 2], [1], [3]] by decide +kernel]
 rw [e4] at b4
 obtain ⟨b, hb, c5, _⟩ := Je abq (tN [0, 1, 2, 0])
 have hbt : b = true := hb.mpr ⟨_, rfl, part_of rfl (by decide +kernel)⟩
 subst hbt
 refine ret_ok (ag0 (S1 := S) (Eo (v := .d (tT [[0, 2], [1], [3]])) (w := .d (tT [[0, 2], [1], [3]])) (S1 := S) (S2 := S) ?_ (by kernel_rfl) (Xg (bs := [8, 8]) (cs := [8, 8]) (k := true) (by kernel_rfl) (by kernel_rfl) (by decide) (by decide) (by simp))) (Eo (v := vB true) (w := vB true) (S1 := S) (S2 := S) ?_ rfl rfl))
 ·simp -implicitDefEqProofs [g4, b4]
  rfl
 ·simp -implicitDefEqProofs [g5, c5]
  rfl
theorem law_eq (ns : List Int) (hl : ns.length ≤ 63) : ∃ S, adK [.s ns] [] = .ok (.d (.bool true)) S := by
 have main : Sat (adK [.s ns]) [] fun v _ => v = .d (.bool true) := by
  refine Sat.runF ?_
  unfold adf Bj
  obtain ⟨tn, htn⟩ : ∃ tn : Nat, (3 : Int) + min (ns.length : Int) 6 = (tn : Int) ∧ tn ≤ 9 := ⟨3 + min ns.length 6, by omega, by omega⟩
  have er := Io tn (by omega)
  have er6 : Jg [.d (.int 6)] = some ((List.range 6).map nI) := Io 6 (by omega)
  simp -implicitDefEqProofs [htn.1, er]
  refine Sat.for_ (f := nI) (xs := List.range tn) (fun done env S => ∃ (a b c d e f : Option Sv), env = [some (.s ns), a, b, c, d, e, f] ∧ Tp S) ⟨none, none, none, none, none, none, rfl, List.nil_prefix⟩ ?_ ?_
  ·rintro done k rest env S Q he ⟨a, b, c, d, e, f, rfl, hT⟩ hQ
   obtain ⟨_, hk⟩ := Gu he
   simp -implicitDefEqProofs
   refine Sat.l (Sat.mk (ach (S := S) (ns := ns) (k := k) hl (by omega) hT)) ?_
   rintro v S1 ⟨rfl, hG1, hl1⟩
   generalize S.length = C at hG1
   simp -implicitDefEqProofs
   refine Sat.l (Xi (most := 8) (wide := 4) hG1 (by omega) (by omega) (by omega) (by omega) (by omega)) ?_
   rintro v S2 ⟨rows, sh, n, l, rfl, M, hnm, hlw, _, hG2, hl2⟩
   have h8 := M.n8
   have h1 := M.n0
   have hn := M.len
   have e1 := P0 M
   simp -implicitDefEqProofs [e1, vB]
   refine Sat.lb (Xi (most := 5) (wide := 2) hG2 (by omega) (by omega) (by omega) (by omega) (by omega)) ?_
   rintro v S3 ⟨rows2, sh2, n2, l2, rfl, M2, _, _, _, hG3, hl3⟩
   have e2 := P0 M2
   simp -implicitDefEqProofs [e2, vB, er6]
   refine Sat.for0 (f := nI) (xs := List.range 6) (fun done env S' => ∃ (a b c : Option Sv), env = [some (.s ns), some (.d (nI k)), some (.c C), some (.d (mM rows sh)), a, b, c] ∧ Good S' C (5000 + 50 * done.length)) ⟨_, _, _, rfl, hG3.mono (by simp)⟩ ?_ ?_
   ·rintro done x rest env S Q he2 ⟨a, b, c, rfl, hG⟩ hQ
    obtain ⟨hxd, hx6⟩ := Gu he2
    simp -implicitDefEqProofs [hn]
    refine Sat.l (aaT (many := n) hG (by omega) h1 h8) ?_
    rintro v S4 ⟨z, rfl, hz, hG4, _⟩
    simp -implicitDefEqProofs
    refine Sat.l (aeK hG4 (by omega) h1 h8 hz) ?_
    rintro v S5 ⟨q, rfl, hq, hG5, _⟩
    obtain ⟨bb, hb, c1, _⟩ := Je M (tN z)
    have hbt : bb = true := hb.mpr ⟨z, rfl, hz⟩
    subst hbt
    have c2 := JV M (p := tN z) (hz.fM h8 (by omega))
    have c3 := JV M hq
    simp -implicitDefEqProofs [c1, c2, c3, vB]
    exact Sat.ret (hQ _ _ ⟨_, _, _, rfl, hG5.mono (by simp; omega)⟩)
   ·rintro env S6 ⟨a6, b6, c6, rfl, hG6⟩
    exact hQ _ _ ⟨_, _, _, _, _, _, rfl, hG6.tp⟩
  ·rintro env S7 ⟨a, b, c, d, e, f, rfl, hT⟩
   simp -implicitDefEqProofs [afa, vB]
   exact Sat.ret rfl
 obtain ⟨v, S, e, rfl⟩ := main.ok
 exact ⟨S, e⟩
end KG
theorem PySem.Challenge.cw_keptpartings_k03_whole_partings_holds : PySem.Challenge.rw_keptpartings_k03_whole_partings.Holds := by
 exact KG.holds_of fun ns hl hb => KG.law_eq ns hl
