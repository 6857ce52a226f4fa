import PyProof.Rows.All
import Wide.All
import OpenK.AllK
import Wide.FinOn
import HandS.ForMost
import HandS.ForExc
import HandS.Flow
import HandS.Wide
import HandS.IsInst
import HandS.ExcInit
import HandS.Lambda
import HandS.CallSlots
import HandS.Defaults
import HandS.TupAny
import HandS.TupMul
import HandS.ExcIs
import HandS.ExcField
import HandS.ExcSuper
import KE.KExcSuper
import HandS.ExcValue
import PyProof.ReprRoads
import HandS.HeadEnd
import PyProof.ReprLen
import KE.DataFind
import HandS.HeadHook1
import HandS.HeadHook2
import HandS.HeadHook4
import HandS.Head0
import HandS.Head1
import HandS.Head2
import HandS.Small
import HandS.Text
import HandS.Iter
import HandS.Exc
import HandS.MakeKw
import HandS.MakeKwOnly
import KE.KStateDown
import HandS.Style
import HandS.More
import HandS.ClsMeth
import HandS.HeadHook3
import HandS.SetFor
import HandS.Strs
import HandS.Sort
import HandS.StrMore
import HandS.DictComp
import KE.GoesEnumKw
import HandS.Star
import PyProof.P3Eq
import PySem.Challenge.RW_onlyfall_k19_rules_merge_numbers
set_option Elab.async false
set_option linter.all false
set_option maxRecDepth 100000
set_option maxHeartbeats 2000000
set_option autoImplicit false
namespace On
open PySem PySem.Spec PyProof.Rows L2

/-! ### plain data -/
/-- data: values that are never changed; loc n: the n-th thing of the store, which may be changed; fn k e: the k-th def or lambda over e -/
inductive D where
  | non | bl (b : Bool) | int (i : Int) | str (x : Str)
  | lst (xs : List D) | tup (xs : List D) | dct (kvs : List (D × D)) | frz (xs : List D)
  | ins (c : Nat) (fs : List (Str × D)) | exn (c : Nat) (fs : List (Str × D))
  | loc (n : Nat) | cls (c : Nat) | fn (k : Nat) (env : List D) | fdc (kvs : List (D × D))
  | tdc (kvs : List (D × D)) | ftc (kvs : List (D × D))
  deriving Inhabited
/-- the store: none: what is dead -/
abbrev J := List (Option D)
/-- what a slot holds: a value; a thing of one's own by its content; the lambda that was handed in -/
inductive Cell where
  | val (d : D) | own (d : D) | act
abbrev Gm := List (Option Cell)
inductive R (α : Type) where
  | ok (a : α) (j : J) | exc (c : Nat) (fs : List (Str × D)) (j : J) | bad
/-- what a thing of the store has now -/
def deref (j : J) (d : D) : D := match d with
  | .loc n => (match j[n]? with
    | some (some c) => c
    | _ => .loc n)
  | d => d

/-- the written part, where the classes stand -/
structure Cb where
  K : PySem.W.Frag
  cm : Nat → Addr
  tb : List (Addr × Str) := []
/-- all but tables of code objects, which may grow -/
def NT (o : HO) : Prop := ∀ ps, o ≠ .tbl ps
structure Pres (B : Addr → Prop) (H H' : Hp) : Prop where
  get : ∀ a o, ¬ B a → NT o → H a = some o → H' a = some o
  tbl : ∀ a ps, H a = some (.tbl ps) → ∃ qs, H' a = some (.tbl qs)
theorem Pres.refl {B : Addr → Prop} {H : Hp} : Pres B H H := ⟨fun _ _ _ _ h => h, fun _ _ h => ⟨_, h⟩⟩
theorem Pres.trans {B : Addr → Prop} {H H1 H2 : Hp} (p : Pres B H H1) (q : Pres B H1 H2) : Pres B H H2 := ⟨fun a o n t h => q.get a o n t (p.get a o n t h), fun a ps h => let ⟨_, h1⟩ := p.tbl a ps h; q.tbl a _ h1⟩
theorem Pres.there {B : Addr → Prop} {H H' : Hp} (p : Pres B H H') {a : Addr} {o : HO} (n : ¬ B a) (h : H a = some o) : ∃ u, H' a = some u := by
  by_cases t : NT o
  · exact ⟨o, p.get a o n t h⟩
  · obtain ⟨ps, e⟩ : ∃ ps, o = .tbl ps := Classical.byContradiction fun z => t fun ps e => z ⟨ps, e⟩
    subst e
    obtain ⟨qs, h1⟩ := p.tbl a ps h
    exact ⟨_, h1⟩
theorem Pres.at {B : Addr → Prop} {H : Hp} {p : Addr} {o u : HO} (h : B p) (hu : H p = some u) (ht : NT u) : Pres B H (upd H p o) := ⟨fun a v n _ e => by
  rw [upd_ne (fun z => n (by rw [z]; exact h))]
  exact e, fun a ps e => ⟨ps, by
    rw [upd_ne (fun z => by rw [z, hu] at e; cases e; exact ht _ rfl)]
    exact e⟩⟩
theorem Pres.new {B : Addr → Prop} {H : Hp} {p : Addr} {o : HO} (h : H p = none) : Pres B H (L2.upd H p o) := ⟨fun a u n _ e => by
  rw [upd_ne (ne_of_none e h)]
  exact e, fun a ps e => ⟨ps, by
    rw [upd_ne (ne_of_none e h)]
    exact e⟩⟩
theorem nt_lst {xs : List V} : NT (.lst xs) := fun _ z => by cases z
theorem nt_tup {xs : List V} : NT (.tup xs) := fun _ z => by cases z
theorem nt_frz {o : Obj} {u : HO} : NT (.frz o u) := fun _ z => by cases z
theorem nt_dK {kvs : List (Key × V)} : NT (.dK kvs) := fun _ z => by cases z
theorem nt_dT {kvs : List (List Key × V)} : NT (.dT kvs) := fun _ z => by cases z
theorem nt_ins {C dx : Addr} {fs : List (Str × V)} : NT (.ins C dx fs) := fun _ z => by cases z
theorem nt_xd {fs : List (Str × V)} : NT (.xd fs) := fun _ z => by cases z
/-- an error that was caught -/
def exg (a C : Addr) (d : Option Addr) : HO := .ext fun h => ∃ (oe : Obj) (vs : Array Value), h.get? a = some oe ∧ oe.cls = .ref C ∧ oe.dict = d ∧ oe.data = .fields vs
def XO (H : Hp) (a C dx : Addr) : Prop := H a = some (exo a C (some dx)) ∨ H a = some (exg a C (some dx))
theorem nt_exg {a C : Addr} {d : Option Addr} : NT (exg a C d) := fun _ z => by unfold exg at z; cases z
theorem nt_exo {a C : Addr} {d : Option Addr} : NT (exo a C d) := fun _ z => by unfold exo at z; cases z
theorem Pres.rd {B : Addr → Prop} {H H' : Hp} (p : Pres B H H') {a : Addr} {u : HO} (n : ¬ B a) (t : NT u) (h : Rd H a u) : Rd H' a u := by
  rcases h with h | ⟨o, h⟩
  · exact .inl (p.get _ _ n t h)
  · exact .inr ⟨o, p.get _ _ n nt_frz h⟩
def Pfx (ρ ρ' : List Addr) : Prop := ∀ (n : Nat) a, ρ[n]? = some a → ρ'[n]? = some a
theorem Pfx.refl {ρ : List Addr} : Pfx ρ ρ := fun _ _ h => h
theorem Pfx.trans {ρ ρ1 ρ2 : List Addr} (p : Pfx ρ ρ1) (q : Pfx ρ1 ρ2) : Pfx ρ ρ2 := fun n a h => q n a (p n a h)
theorem Pfx.mem {ρ ρ' : List Addr} (p : Pfx ρ ρ') {a : Addr} (h : a ∈ ρ) : a ∈ ρ' := by
  obtain ⟨n, hn⟩ := List.mem_iff_getElem?.mp h
  exact List.mem_iff_getElem?.mpr ⟨n, p n a hn⟩
theorem Pfx.app {ρ r : List Addr} : Pfx ρ (ρ ++ r) := fun n a h => by
  have := (List.getElem?_eq_some_iff.mp h).1
  rw [List.getElem?_append_left this]
  exact h
/-- a heap that tracks nothing: what is read there is written by the module -/
abbrev Hn : Hp := fun _ => none
theorem sqLn {K : PySem.W.Frag} {H : Hp} {a : Addr} {xs : List V} (h : SqL K Hn a xs) : SqL K H a xs := by
  rcases h with (h | ⟨o, h⟩) | h
  · cases h
  · cases h
  · exact .inr h
theorem sqTn {K : PySem.W.Frag} {H : Hp} {a : Addr} {xs : List V} (h : SqT K Hn a xs) : SqT K H a xs := by
  rcases h with (h | ⟨o, h⟩) | h
  · cases h
  · cases h
  · exact .inr h

/-! ### what a value stands for -/
def keyD : Key → D
  | .inl i => .int i
  | .inr x => .str x
def isKey : D → Bool
  | .int _ => true
  | .str _ => true
  | _ => false
/-- two keys: a tuple of them may be a key itself -/
def keyP : List D → Bool
  | [a, b] => isKey a && isKey b
  | _ => false
section
variable (C : Cb) (ρ : List Addr) (H : Hp) (B : Addr → Prop)
mutual
inductive Den : V → D → Prop
  | non : Den .non .non
  | bl (b : Bool) : Den (.bl b) (.bl b)
  | int (i : Int) : Den (.int i) (.int i)
  | str (x : Str) : Den (.str x) (.str x)
  | lst {a : Addr} {xs : List V} {ds : List D} : H a = some (.lst xs) → ¬ B a → DenA xs ds → Den (.ref a) (.lst ds)
  | frz {a : Addr} {xs : List V} {ds : List D} : Rd H a (.lst xs) → ¬ B a → DenA xs ds → Den (.ref a) (.frz ds)
  | frzK {a : Addr} {xs : List V} {ds : List D} : SqL C.K Hn a xs → DenA xs ds → Den (.ref a) (.frz ds)
  | tup {a : Addr} {xs : List V} {ds : List D} : H a = some (.tup xs) → ¬ B a → DenA xs ds → Den (.ref a) (.tup ds)
  | tupK {a : Addr} {xs : List V} {ds : List D} : SqT C.K Hn a xs → keyP ds = false → DenA xs ds → Den (.ref a) (.tup ds)
  | dK {a : Addr} {kvs : List (Key × V)} {es : List (D × D)} : Rd H a (.dK kvs) → ¬ B a → DenK kvs es → Den (.ref a) (.dct es)
  | dT {a : Addr} {kvs : List (List Key × V)} {es : List (D × D)} : H a = some (.dT kvs) → ¬ B a → DenT kvs es → Den (.ref a) (.tdc es)
  | fK {a : Addr} {o : Obj} {kvs : List (Key × V)} {es : List (D × D)} : H a = some (.frz o (.dK kvs)) → ¬ B a → DenK kvs es → Den (.ref a) (.fdc es)
  | fT {a : Addr} {o : Obj} {kvs : List (List Key × V)} {es : List (D × D)} : H a = some (.frz o (.dT kvs)) → ¬ B a → DenT kvs es → Den (.ref a) (.ftc es)
  | ins {a dx : Addr} {c : Nat} {fs : List (Str × V)} {gs : List (Str × D)} : H a = some (.ins (C.cm c) dx fs) → ¬ B a → DenF fs gs → Den (.ref a) (.ins c gs)
  | exn {a dx : Addr} {c : Nat} {fs : List (Str × V)} {gs : List (Str × D)} : XO H a (C.cm c) dx → ¬ B a → H dx = some (.xd fs) → ¬ B dx → DenF fs gs → Den (.ref a) (.exn c gs)
  | loc {a : Addr} {n : Nat} : ρ[n]? = some a → Den (.ref a) (.loc n)
  | cls (c : Nat) : Den (.ref (C.cm c)) (.cls c)
inductive DenA : List V → List D → Prop
  | nil : DenA [] []
  | cons {v : V} {d : D} {vs : List V} {ds : List D} : Den v d → DenA vs ds → DenA (v :: vs) (d :: ds)
inductive DenK : List (Key × V) → List (D × D) → Prop
  | nil : DenK [] []
  | cons {k : Key} {v : V} {d : D} {vs : List (Key × V)} {ds : List (D × D)} : Den v d → DenK vs ds → DenK ((k, v) :: vs) ((keyD k, d) :: ds)
inductive DenT : List (List Key × V) → List (D × D) → Prop
  | nil : DenT [] []
  | cons {k : List Key} {v : V} {d : D} {vs : List (List Key × V)} {ds : List (D × D)} : Den v d → DenT vs ds → DenT ((k, v) :: vs) ((.tup (k.map keyD), d) :: ds)
inductive DenF : List (Str × V) → List (Str × D) → Prop
  | nil : DenF [] []
  | cons {f : Str} {v : V} {d : D} {vs : List (Str × V)} {ds : List (Str × D)} : Den v d → DenF vs ds → DenF ((f, v) :: vs) ((f, d) :: ds)
end
end
section
variable {C : Cb} {ρ ρ' : List Addr} {H H' : Hp} {B B' : Addr → Prop}
mutual
theorem Den.mono (p : Pres B H H') (x : Pfx ρ ρ') : ∀ {v : V} {d : D}, Den C ρ H B v d → Den C ρ' H' B v d
  | _, _, .non => .non
  | _, _, .bl b => .bl b
  | _, _, .int i => .int i
  | _, _, .str x => .str x
  | _, _, .lst h n r => .lst (p.get _ _ n nt_lst h) n (DenA.mono p x r)
  | _, _, .frz h n r => .frz (p.rd n nt_lst h) n (DenA.mono p x r)
  | _, _, .frzK h r => .frzK h (DenA.mono p x r)
  | _, _, .tup h n r => .tup (p.get _ _ n nt_tup h) n (DenA.mono p x r)
  | _, _, .tupK h kp r => .tupK h kp (DenA.mono p x r)
  | _, _, .dK h n r => .dK (p.rd n nt_dK h) n (DenK.mono p x r)
  | _, _, .dT h n r => .dT (p.get _ _ n nt_dT h) n (DenT.mono p x r)
  | _, _, .fK h n r => .fK (p.get _ _ n nt_frz h) n (DenK.mono p x r)
  | _, _, .fT h n r => .fT (p.get _ _ n nt_frz h) n (DenT.mono p x r)
  | _, _, .ins h n r => .ins (p.get _ _ n nt_ins h) n (DenF.mono p x r)
  | _, _, .exn h n h2 n2 r => .exn (h.imp (p.get _ _ n nt_exo) (p.get _ _ n nt_exg)) n (p.get _ _ n2 nt_xd h2) n2 (DenF.mono p x r)
  | _, _, .loc h => .loc (x _ _ h)
  | _, _, .cls c => .cls c
theorem DenA.mono (p : Pres B H H') (x : Pfx ρ ρ') : ∀ {v : List V} {d : List D}, DenA C ρ H B v d → DenA C ρ' H' B v d
  | _, _, .nil => .nil
  | _, _, .cons h r => .cons (Den.mono p x h) (DenA.mono p x r)
theorem DenK.mono (p : Pres B H H') (x : Pfx ρ ρ') : ∀ {v : List (Key × V)} {d : List (D × D)}, DenK C ρ H B v d → DenK C ρ' H' B v d
  | _, _, .nil => .nil
  | _, _, .cons h r => .cons (Den.mono p x h) (DenK.mono p x r)
theorem DenT.mono (p : Pres B H H') (x : Pfx ρ ρ') : ∀ {v : List (List Key × V)} {d : List (D × D)}, DenT C ρ H B v d → DenT C ρ' H' B v d
  | _, _, .nil => .nil
  | _, _, .cons h r => .cons (Den.mono p x h) (DenT.mono p x r)
theorem DenF.mono (p : Pres B H H') (x : Pfx ρ ρ') : ∀ {v : List (Str × V)} {d : List (Str × D)}, DenF C ρ H B v d → DenF C ρ' H' B v d
  | _, _, .nil => .nil
  | _, _, .cons h r => .cons (Den.mono p x h) (DenF.mono p x r)
end
/-! fewer things to avoid, or new ones -/
theorem less1 (p : ∀ a, B' a → B a ∨ H a = none) {a : Addr} {u : HO} (h : Rd H a u) (n : ¬ B a) : ¬ B' a := fun z => by
  rcases p a z with q | q
  · exact n q
  · rcases h with h | ⟨o, h⟩
    · rw [q] at h; cases h
    · rw [q] at h; cases h
mutual
theorem Den.less (p : ∀ a, B' a → B a ∨ H a = none) : ∀ {v : V} {d : D}, Den C ρ H B v d → Den C ρ H B' v d
  | _, _, .non => .non
  | _, _, .bl b => .bl b
  | _, _, .int i => .int i
  | _, _, .str x => .str x
  | _, _, .lst h n r => .lst h (less1 p (.inl h) n) (DenA.less p r)
  | _, _, .frz h n r => .frz h (less1 p h n) (DenA.less p r)
  | _, _, .frzK h r => .frzK h (DenA.less p r)
  | _, _, .tup h n r => .tup h (less1 p (.inl h) n) (DenA.less p r)
  | _, _, .tupK h kp r => .tupK h kp (DenA.less p r)
  | _, _, .dK h n r => .dK h (less1 p h n) (DenK.less p r)
  | _, _, .dT h n r => .dT h (less1 p (.inl h) n) (DenT.less p r)
  | _, _, .fK h n r => .fK h (less1 p (.inl h) n) (DenK.less p r)
  | _, _, .fT h n r => .fT h (less1 p (.inl h) n) (DenT.less p r)
  | _, _, .ins h n r => .ins h (less1 p (.inl h) n) (DenF.less p r)
  | _, _, .exn h n h2 n2 r => .exn h (h.elim (fun h => less1 p (.inl h) n) fun h => less1 p (.inl h) n) h2 (less1 p (.inl h2) n2) (DenF.less p r)
  | _, _, .loc h => .loc h
  | _, _, .cls c => .cls c
theorem DenA.less (p : ∀ a, B' a → B a ∨ H a = none) : ∀ {v : List V} {d : List D}, DenA C ρ H B v d → DenA C ρ H B' v d
  | _, _, .nil => .nil
  | _, _, .cons h r => .cons (Den.less p h) (DenA.less p r)
theorem DenK.less (p : ∀ a, B' a → B a ∨ H a = none) : ∀ {v : List (Key × V)} {d : List (D × D)}, DenK C ρ H B v d → DenK C ρ H B' v d
  | _, _, .nil => .nil
  | _, _, .cons h r => .cons (Den.less p h) (DenK.less p r)
theorem DenT.less (p : ∀ a, B' a → B a ∨ H a = none) : ∀ {v : List (List Key × V)} {d : List (D × D)}, DenT C ρ H B v d → DenT C ρ H B' v d
  | _, _, .nil => .nil
  | _, _, .cons h r => .cons (Den.less p h) (DenT.less p r)
theorem DenF.less (p : ∀ a, B' a → B a ∨ H a = none) : ∀ {v : List (Str × V)} {d : List (Str × D)}, DenF C ρ H B v d → DenF C ρ H B' v d
  | _, _, .nil => .nil
  | _, _, .cons h r => .cons (Den.less p h) (DenF.less p r)
end
theorem DenA.map (f : ∀ v d, Den C ρ H B v d → Den C ρ' H' B' v d) : ∀ {vs : List V} {ds : List D}, DenA C ρ H B vs ds → DenA C ρ' H' B' vs ds
  | _, _, .nil => .nil
  | _, _, .cons h r => .cons (f _ _ h) (DenA.map f r)
theorem DenK.map (f : ∀ v d, Den C ρ H B v d → Den C ρ' H' B' v d) : ∀ {vs : List (Key × V)} {ds : List (D × D)}, DenK C ρ H B vs ds → DenK C ρ' H' B' vs ds
  | _, _, .nil => .nil
  | _, _, .cons h r => .cons (f _ _ h) (DenK.map f r)
theorem DenT.map (f : ∀ v d, Den C ρ H B v d → Den C ρ' H' B' v d) : ∀ {vs : List (List Key × V)} {ds : List (D × D)}, DenT C ρ H B vs ds → DenT C ρ' H' B' vs ds
  | _, _, .nil => .nil
  | _, _, .cons h r => .cons (f _ _ h) (DenT.map f r)
theorem DenF.map (f : ∀ v d, Den C ρ H B v d → Den C ρ' H' B' v d) : ∀ {vs : List (Str × V)} {ds : List (Str × D)}, DenF C ρ H B vs ds → DenF C ρ' H' B' vs ds
  | _, _, .nil => .nil
  | _, _, .cons h r => .cons (f _ _ h) (DenF.map f r)
theorem DenA.length : ∀ {vs : List V} {ds : List D}, DenA C ρ H B vs ds → vs.length = ds.length
  | _, _, .nil => rfl
  | _, _, .cons _ r => congrArg Nat.succ r.length
theorem DenA.get : ∀ {vs : List V} {ds : List D} {i : Nat} {d : D}, DenA C ρ H B vs ds → ds[i]? = some d → ∃ v, vs[i]? = some v ∧ Den C ρ H B v d
  | _, _, _, _, .nil, e => by cases e
  | _, _, 0, _, .cons h _, e => by cases e; exact ⟨_, rfl, h⟩
  | _, _, i + 1, _, .cons _ r, e => r.get (i := i) e
theorem DenA.append : ∀ {vs ws : List V} {ds es : List D}, DenA C ρ H B vs ds → DenA C ρ H B ws es → DenA C ρ H B (vs ++ ws) (ds ++ es)
  | _, _, _, _, .nil, s => s
  | _, _, _, _, .cons h r, s => .cons h (r.append s)
theorem DenA.set {v : V} {d : D} (h : Den C ρ H B v d) : ∀ {vs : List V} {ds : List D} (n : Nat), DenA C ρ H B vs ds → DenA C ρ H B (vs.set n v) (ds.set n d)
  | _, _, _, .nil => .nil
  | _, _, 0, .cons _ r => .cons h r
  | _, _, n + 1, .cons q r => .cons q (r.set h n)
theorem DenA.isEmpty {vs : List V} {ds : List D} (r : DenA C ρ H B vs ds) : vs.isEmpty = ds.isEmpty := by
  cases r <;> rfl
theorem DenA.nil_iff {vs : List V} (r : DenA C ρ H B vs []) : vs = [] := by cases r; rfl

/-! ### what is read: a value, or what stands in the store (or in a thing of one's own) -/
inductive Vw (C : Cb) (ρ : List Addr) (H : Hp) (B : Addr → Prop) : V → D → Prop
  | of {v : V} {d : D} : Den C ρ H B v d → Vw C ρ H B v d
  | lst {a : Addr} {xs : List V} {ds : List D} : H a = some (.lst xs) → DenA C ρ H B xs ds → Vw C ρ H B (.ref a) (.lst ds)
  | dK {a : Addr} {kvs : List (Key × V)} {es : List (D × D)} : H a = some (.dK kvs) → DenK C ρ H B kvs es → Vw C ρ H B (.ref a) (.dct es)
  | dT {a : Addr} {kvs : List (List Key × V)} {es : List (D × D)} : H a = some (.dT kvs) → DenT C ρ H B kvs es → Vw C ρ H B (.ref a) (.tdc es)
  | fK {a : Addr} {o : Obj} {kvs : List (Key × V)} {es : List (D × D)} : H a = some (.frz o (.dK kvs)) → DenK C ρ H B kvs es → Vw C ρ H B (.ref a) (.fdc es)
  | fT {a : Addr} {o : Obj} {kvs : List (List Key × V)} {es : List (D × D)} : H a = some (.frz o (.dT kvs)) → DenT C ρ H B kvs es → Vw C ρ H B (.ref a) (.ftc es)
  | ins {a dx : Addr} {c : Nat} {fs : List (Str × V)} {gs : List (Str × D)} : H a = some (.ins (C.cm c) dx fs) → DenF C ρ H B fs gs → Vw C ρ H B (.ref a) (.ins c gs)
theorem Vw.tupSq {v : V} {ds : List D} (h : Vw C ρ H B v (.tup ds)) : ∃ a xs, v = .ref a ∧ SqT C.K H a xs ∧ DenA C ρ H B xs ds := by
  cases h with
  | of h => cases h with
    | tup h n r => exact ⟨_, _, rfl, .inl (.inl h), r⟩
    | tupK h _ r => exact ⟨_, _, rfl, sqTn h, r⟩
theorem Vw.lstSq {v : V} {ds : List D} (h : Vw C ρ H B v (.lst ds)) : ∃ a xs, v = .ref a ∧ SqL C.K H a xs ∧ DenA C ρ H B xs ds := by
  cases h with
  | of h => cases h with
    | lst h n r => exact ⟨_, _, rfl, .inl (.inl h), r⟩
  | lst h r => exact ⟨_, _, rfl, .inl (.inl h), r⟩
theorem Vw.lstRd {v : V} {ds : List D} (h : Vw C ρ H B v (.lst ds)) : ∃ a xs, v = .ref a ∧ H a = some (.lst xs) ∧ DenA C ρ H B xs ds := by
  cases h with
  | of h => cases h with
    | lst h n r => exact ⟨_, _, rfl, h, r⟩
  | lst h r => exact ⟨_, _, rfl, h, r⟩
theorem Vw.frzSq {v : V} {ds : List D} (h : Vw C ρ H B v (.frz ds)) : ∃ a xs, v = .ref a ∧ SqL C.K H a xs ∧ DenA C ρ H B xs ds := by
  cases h with
  | of h => cases h with
    | frz h n r => exact ⟨_, _, rfl, .inl h, r⟩
    | frzK h r => exact ⟨_, _, rfl, sqLn h, r⟩
theorem Vw.insAt {v : V} {c : Nat} {gs : List (Str × D)} (h : Vw C ρ H B v (.ins c gs)) : ∃ a dx fs, v = .ref a ∧ H a = some (.ins (C.cm c) dx fs) ∧ DenF C ρ H B fs gs := by
  cases h with
  | of h => cases h with
    | ins h n r => exact ⟨_, _, _, rfl, h, r⟩
  | ins h r => exact ⟨_, _, _, rfl, h, r⟩
theorem Vw.dctAt {v : V} {es : List (D × D)} (h : Vw C ρ H B v (.dct es)) : ∃ a kvs, v = .ref a ∧ Rd H a (.dK kvs) ∧ DenK C ρ H B kvs es := by
  cases h with
  | of h => cases h with
    | dK h n r => exact ⟨_, _, rfl, h, r⟩
  | dK h r => exact ⟨_, _, rfl, .inl h, r⟩
theorem Vw.tdcAt {v : V} {es : List (D × D)} (h : Vw C ρ H B v (.tdc es)) : ∃ a kvs, v = .ref a ∧ H a = some (.dT kvs) ∧ DenT C ρ H B kvs es := by
  cases h with
  | of h => cases h with
    | dT h n r => exact ⟨_, _, rfl, h, r⟩
  | dT h r => exact ⟨_, _, rfl, h, r⟩
theorem Vw.fdcAt {v : V} {es : List (D × D)} (h : Vw C ρ H B v (.fdc es)) : ∃ a o kvs, v = .ref a ∧ H a = some (.frz o (.dK kvs)) ∧ DenK C ρ H B kvs es := by
  cases h with
  | of h => cases h with
    | fK h n r => exact ⟨_, _, _, rfl, h, r⟩
  | fK h r => exact ⟨_, _, _, rfl, h, r⟩
theorem Vw.ftcAt {v : V} {es : List (D × D)} (h : Vw C ρ H B v (.ftc es)) : ∃ a o kvs, v = .ref a ∧ H a = some (.frz o (.dT kvs)) ∧ DenT C ρ H B kvs es := by
  cases h with
  | of h => cases h with
    | fT h n r => exact ⟨_, _, _, rfl, h, r⟩
  | fT h r => exact ⟨_, _, _, rfl, h, r⟩
/-- the content of what may be changed -/
def Cnt (C : Cb) (ρ : List Addr) (H : Hp) (B : Addr → Prop) (a : Addr) : D → Prop
  | .lst ds => ∃ xs, H a = some (.lst xs) ∧ DenA C ρ H B xs ds
  | .dct es => ∃ kvs, H a = some (.dK kvs) ∧ DenK C ρ H B kvs es
  | .tdc es => ∃ kvs, H a = some (.dT kvs) ∧ DenT C ρ H B kvs es
  | .fdc es => ∃ o kvs, H a = some (.frz o (.dK kvs)) ∧ DenK C ρ H B kvs es
  | .ftc es => ∃ o kvs, H a = some (.frz o (.dT kvs)) ∧ DenT C ρ H B kvs es
  | .ins c fs => ∃ dx vs, H a = some (.ins (C.cm c) dx vs) ∧ DenF C ρ H B vs fs
  | _ => False
theorem Cnt.vw {a : Addr} {d : D} (h : Cnt C ρ H B a d) : Vw C ρ H B (.ref a) d := by
  cases d with
  | lst ds => obtain ⟨xs, h, r⟩ := h; exact .lst h r
  | dct es => obtain ⟨kvs, h, r⟩ := h; exact .dK h r
  | tdc es => obtain ⟨kvs, h, r⟩ := h; exact .dT h r
  | fdc es => obtain ⟨o, kvs, h, r⟩ := h; exact .fK h r
  | ftc es => obtain ⟨o, kvs, h, r⟩ := h; exact .fT h r
  | ins c fs => obtain ⟨dx, vs, h, r⟩ := h; exact .ins h r
  | _ => exact h.elim
theorem Cnt.there {a : Addr} {d : D} (h : Cnt C ρ H B a d) : ∃ o, H a = some o ∧ NT o := by
  cases d with
  | lst ds => obtain ⟨xs, h, r⟩ := h; exact ⟨_, h, nt_lst⟩
  | dct es => obtain ⟨kvs, h, r⟩ := h; exact ⟨_, h, nt_dK⟩
  | tdc es => obtain ⟨kvs, h, r⟩ := h; exact ⟨_, h, nt_dT⟩
  | fdc es => obtain ⟨o, kvs, h, r⟩ := h; exact ⟨_, h, nt_frz⟩
  | ftc es => obtain ⟨o, kvs, h, r⟩ := h; exact ⟨_, h, nt_frz⟩
  | ins c fs => obtain ⟨dx, vs, h, r⟩ := h; exact ⟨_, h, nt_ins⟩
  | _ => exact h.elim
theorem Cnt.map {a : Addr} {d : D} (h : Cnt C ρ H B a d) (k : ∀ o, NT o → H a = some o → H' a = some o) (f : ∀ v d, Den C ρ H B v d → Den C ρ' H' B' v d) : Cnt C ρ' H' B' a d := by
  cases d with
  | lst ds => obtain ⟨xs, h, r⟩ := h; exact ⟨xs, k _ nt_lst h, r.map f⟩
  | dct es => obtain ⟨kvs, h, r⟩ := h; exact ⟨kvs, k _ nt_dK h, r.map f⟩
  | tdc es => obtain ⟨kvs, h, r⟩ := h; exact ⟨kvs, k _ nt_dT h, r.map f⟩
  | fdc es => obtain ⟨o, kvs, h, r⟩ := h; exact ⟨o, kvs, k _ nt_frz h, r.map f⟩
  | ftc es => obtain ⟨o, kvs, h, r⟩ := h; exact ⟨o, kvs, k _ nt_frz h, r.map f⟩
  | ins c fs => obtain ⟨dx, vs, h, r⟩ := h; exact ⟨dx, vs, k _ nt_ins h, r.map f⟩
  | _ => exact h.elim
/-- what is not changed any more is a value -/
theorem Cnt.den {a : Addr} {d : D} (h : Cnt C ρ H B a d) (n : ¬ B a) : Den C ρ H B (.ref a) d := by
  cases d with
  | lst ds => obtain ⟨xs, h, r⟩ := h; exact .lst h n r
  | dct es => obtain ⟨kvs, h, r⟩ := h; exact .dK (.inl h) n r
  | tdc es => obtain ⟨kvs, h, r⟩ := h; exact .dT h n r
  | fdc es => obtain ⟨o, kvs, h, r⟩ := h; exact .fK h n r
  | ftc es => obtain ⟨o, kvs, h, r⟩ := h; exact .fT h n r
  | ins c fs => obtain ⟨dx, vs, h, r⟩ := h; exact .ins h n r
  | _ => exact h.elim
end
end On

set_option Elab.async false
set_option linter.all false
set_option maxRecDepth 100000
set_option maxHeartbeats 2000000
set_option autoImplicit false
namespace On
open PySem PySem.Spec PyProof.Rows L2

/-! ### results -/
def R.bind {α β : Type} (r : R α) (f : α → J → R β) : R β := match r with
  | .ok a j => f a j
  | .exc c fs j => .exc c fs j
  | .bad => .bad
def lift {α : Type} (o : Option α) (j : J) : R α := match o with
  | some a => .ok a j
  | none => .bad

/-! ### the store -/
def Live (ρ : List Addr) (j : J) (a : Addr) : Prop := ∃ (n : Nat) (d : D), ρ[n]? = some a ∧ j[n]? = some (some d)
theorem Live.mem {ρ : List Addr} {j : J} {a : Addr} (h : Live ρ j a) : a ∈ ρ := by
  obtain ⟨n, d, h, _⟩ := h
  exact List.mem_iff_getElem?.mpr ⟨n, h⟩
/-- what is not to be met by values: things of one's own, the store -/
def Bo (O : Addr → Prop) (ρ : List Addr) (j : J) : Addr → Prop := fun a => O a ∨ Live ρ j a
def Trk (B : Addr → Prop) (H : Hp) : Prop := ∀ a, B a → ∃ o, H a = some o
structure Sto (C : Cb) (O : Addr → Prop) (ρ : List Addr) (H : Hp) (j : J) : Prop where
  trk : Trk O H
  tab : LamX.Tabs C.tb H
  rtr : ∀ a, a ∈ ρ → ∃ o, H a = some o
  rl : ρ.length = j.length
  nd : ρ.Nodup
  sto : ∀ (n : Nat) (d : D), j[n]? = some (some d) → ∃ a, ρ[n]? = some a ∧ Cnt C ρ H (Bo O ρ j) a d
/-- one step of the machine: what is not of the store is kept -/
structure Kp (ρ : List Addr) (j : J) (H : Hp) (ρ' : List Addr) (j' : J) (H' : Hp) : Prop where
  keep : ∀ a o, ¬ Live ρ j a → NT o → H a = some o → H' a = some o
  tbl : ∀ a ps, H a = some (.tbl ps) → ∃ qs, H' a = some (.tbl qs)
  grow : ∀ a, Live ρ' j' a → Live ρ j a ∨ H a = none
  frs : ∀ a, a ∈ ρ' → a ∈ ρ ∨ H a = none
  pfx : Pfx ρ ρ'
theorem Kp.pres {ρ ρ' : List Addr} {j j' : J} {H H' : Hp} (k : Kp ρ j H ρ' j' H') : Pres (Live ρ j) H H' := ⟨k.keep, k.tbl⟩
theorem Kp.there {ρ ρ' : List Addr} {j j' : J} {H H' : Hp} (k : Kp ρ j H ρ' j' H') {a : Addr} {o : HO} (n : ¬ Live ρ j a) (h : H a = some o) : ∃ u, H' a = some u := k.pres.there n h
theorem Kp.refl {ρ : List Addr} {j : J} {H : Hp} : Kp ρ j H ρ j H := ⟨fun _ _ _ _ h => h, fun _ _ h => ⟨_, h⟩, fun _ h => .inl h, fun _ h => .inl h, Pfx.refl⟩
theorem Kp.trans {ρ ρ1 ρ2 : List Addr} {j j1 j2 : J} {H H1 H2 : Hp} (r : ∀ a, a ∈ ρ → ∃ o, H a = some o) (p : Kp ρ j H ρ1 j1 H1) (q : Kp ρ1 j1 H1 ρ2 j2 H2) : Kp ρ j H ρ2 j2 H2 where
  keep := fun a o n t h => q.keep a o (fun z => (p.grow a z).elim n fun e => by rw [e] at h; cases h) t (p.keep a o n t h)
  tbl := fun a ps h => let ⟨_, h1⟩ := p.tbl a ps h; q.tbl a _ h1
  grow := fun a z => by
    rcases q.grow a z with w | w
    · exact p.grow a w
    · by_cases l : Live ρ j a
      · exact .inl l
      · refine .inr ?_
        cases e : H a with
        | none => rfl
        | some o => obtain ⟨u, hu⟩ := p.there l e; rw [hu] at w; cases w
  frs := fun a z => by
    rcases q.frs a z with w | w
    · exact p.frs a w
    · by_cases l : a ∈ ρ
      · exact .inl l
      · refine .inr ?_
        cases e : H a with
        | none => rfl
        | some o => obtain ⟨u, hu⟩ := p.there (fun z => l z.mem) e; rw [hu] at w; cases w
  pfx := p.pfx.trans q.pfx
def Ext (H H' : Hp) : Prop := ∀ a o, H a = some o → H' a = some o
theorem Ext.refl {H : Hp} : Ext H H := fun _ _ h => h
theorem Ext.trans {H H1 H2 : Hp} (p : Ext H H1) (q : Ext H1 H2) : Ext H H2 := fun a o h => q a o (p a o h)
theorem Ext.keep {ρ : List Addr} {j : J} {H H' : Hp} (p : Ext H H') : Kp ρ j H ρ j H' := ⟨fun a o _ _ h => p a o h, fun a ps h => ⟨ps, p a _ h⟩, fun _ h => .inl h, fun _ h => .inl h, Pfx.refl⟩
theorem Ext.pres {B : Addr → Prop} {H H' : Hp} (p : Ext H H') : Pres B H H' := ⟨fun a o _ _ h => p a o h, fun a ps h => ⟨ps, p a _ h⟩⟩
theorem Ext.new {H : Hp} {p : Addr} {o : HO} (h : H p = none) : Ext H (upd H p o) := fun a u e => by
  rw [upd_ne (ne_of_none e h)]
  exact e
/-- .. in which one's own things may change too -/
structure Step (ρ : List Addr) (B : Addr → Prop) (H : Hp) (ρ' : List Addr) (B' : Addr → Prop) (H' : Hp) : Prop where
  pres : Pres B H H'
  grow : ∀ a, B' a → B a ∨ H a = none
  pfx : Pfx ρ ρ'
theorem Step.refl {ρ : List Addr} {B : Addr → Prop} {H : Hp} : Step ρ B H ρ B H := ⟨Pres.refl, fun _ h => .inl h, Pfx.refl⟩
theorem Step.trans {ρ ρ1 ρ2 : List Addr} {B B1 B2 : Addr → Prop} {H H1 H2 : Hp} (p : Step ρ B H ρ1 B1 H1) (q : Step ρ1 B1 H1 ρ2 B2 H2) : Step ρ B H ρ2 B2 H2 where
  pres := ⟨fun a o n t h => q.pres.get a o (fun z => (p.grow a z).elim n fun w => by rw [w] at h; cases h) t (p.pres.get a o n t h), fun a ps h => let ⟨_, h1⟩ := p.pres.tbl a ps h; q.pres.tbl a _ h1⟩
  grow := fun a z => by
    by_cases hb : B a
    · exact .inl hb
    · refine .inr ?_
      cases h : H a with
      | none => rfl
      | some o =>
        rcases q.grow a z with w | w
        · rcases p.grow a w with w | w
          · exact absurd w hb
          · rw [w] at h; cases h
        · obtain ⟨u, hu⟩ := p.pres.there hb h; rw [hu] at w; cases w
  pfx := p.pfx.trans q.pfx
theorem Kp.step {ρ ρ' : List Addr} {j j' : J} {H H' : Hp} (k : Kp ρ j H ρ' j' H') (O : Addr → Prop) : Step ρ (Bo O ρ j) H ρ' (Bo O ρ' j') H' where
  pres := ⟨fun a o n t h => k.keep a o (fun z => n (.inr z)) t h, k.tbl⟩
  grow := fun a z => by
    rcases z with z | z
    · exact .inl (.inl z)
    · rcases k.grow a z with w | w
      · exact .inl (.inr w)
      · exact .inr w
  pfx := k.pfx
theorem Kp.stepO {ρ ρ' : List Addr} {j j' : J} {H H' : Hp} (k : Kp ρ j H ρ' j' H') {O O' : Addr → Prop} (hN : ∀ a, O' a → O a ∨ H a = none) : Step ρ (Bo O ρ j) H ρ' (Bo O' ρ' j') H' where
  pres := ⟨fun a o n t h => k.keep a o (fun z => n (.inr z)) t h, k.tbl⟩
  grow := fun a z => by
    rcases z with z | z
    · exact (hN a z).imp .inl id
    · rcases k.grow a z with w | w
      · exact .inl (.inr w)
      · exact .inr w
  pfx := k.pfx
theorem Step.den {C : Cb} {ρ ρ' : List Addr} {B B' : Addr → Prop} {H H' : Hp} (p : Step ρ B H ρ' B' H') {v : V} {d : D} (h : Den C ρ H B v d) : Den C ρ' H' B' v d := by
  have h1 : Den C ρ H (fun a => B a ∨ B' a) v d := h.less fun a z => by
    rcases z with z | z
    · exact .inl z
    · exact p.grow a z
  have h2 : Den C ρ' H' (fun a => B a ∨ B' a) v d := h1.mono ⟨fun a o n t e => p.pres.get a o (fun z => n (.inl z)) t e, p.pres.tbl⟩ p.pfx
  exact h2.less fun a z => .inl (.inr z)
theorem Step.denA {C : Cb} {ρ ρ' : List Addr} {B B' : Addr → Prop} {H H' : Hp} (p : Step ρ B H ρ' B' H') {v : List V} {d : List D} (h : DenA C ρ H B v d) : DenA C ρ' H' B' v d := h.map fun _ _ => p.den
theorem Step.denF {C : Cb} {ρ ρ' : List Addr} {B B' : Addr → Prop} {H H' : Hp} (p : Step ρ B H ρ' B' H') {v : List (Str × V)} {d : List (Str × D)} (h : DenF C ρ H B v d) : DenF C ρ' H' B' v d := h.map fun _ _ => p.den
theorem Sto.trkB {C : Cb} {O : Addr → Prop} {ρ : List Addr} {H : Hp} {j : J} (S : Sto C O ρ H j) : Trk (Bo O ρ j) H := fun a h => by
  rcases h with h | h
  · exact S.trk a h
  · exact S.rtr a h.mem
theorem Sto.fresh {C : Cb} {O : Addr → Prop} {ρ : List Addr} {H : Hp} {j : J} (S : Sto C O ρ H j) {p : Addr} (h : H p = none) : ¬ Bo O ρ j p := fun z => by
  obtain ⟨o, e⟩ := S.trkB p z
  rw [h] at e
  cases e
theorem Sto.ext {C : Cb} {O : Addr → Prop} {ρ : List Addr} {H H' : Hp} {j : J} (S : Sto C O ρ H j) (x : Ext H H') : Sto C O ρ H' j where
  trk := fun a h => let ⟨o, e⟩ := S.trk a h; ⟨o, x a o e⟩
  tab := S.tab.ext x
  rtr := fun a h => let ⟨o, e⟩ := S.rtr a h; ⟨o, x a o e⟩
  rl := S.rl
  nd := S.nd
  sto := fun n d h => let ⟨a, e, q⟩ := S.sto n d h; ⟨a, e, q.map (fun o _ => x a o) fun _ _ r => r.mono x.pres Pfx.refl⟩
/-- neither a table nor a thing that the tables tell of -/
def NW (o : HO) : Prop := NT o ∧ ∀ φ, o ≠ .ext φ
theorem Cnt.nw {C : Cb} {ρ : List Addr} {H : Hp} {B : Addr → Prop} {a : Addr} {d : D} (h : Cnt C ρ H B a d) : ∃ o, H a = some o ∧ NW o := by
  cases d with
  | lst ds => obtain ⟨xs, h, r⟩ := h; exact ⟨_, h, nt_lst, fun _ z => by cases z⟩
  | dct es => obtain ⟨kvs, h, r⟩ := h; exact ⟨_, h, nt_dK, fun _ z => by cases z⟩
  | tdc es => obtain ⟨kvs, h, r⟩ := h; exact ⟨_, h, nt_dT, fun _ z => by cases z⟩
  | fdc es => obtain ⟨o, kvs, h, r⟩ := h; exact ⟨_, h, nt_frz, fun _ z => by cases z⟩
  | ftc es => obtain ⟨o, kvs, h, r⟩ := h; exact ⟨_, h, nt_frz, fun _ z => by cases z⟩
  | ins c fs => obtain ⟨dx, vs, h, r⟩ := h; exact ⟨_, h, nt_ins, fun _ z => by cases z⟩
  | _ => exact h.elim
theorem tabs_write {T : List (Addr × Str)} {H : Hp} {l : Addr} {o u : HO} (t : LamX.Tabs T H) (hu : H l = some u) (hw : NW u) : LamX.Tabs T (upd H l o) := fun p hp => by
  obtain ⟨ps, h1, h2, h3⟩ := t p hp
  refine ⟨ps, by rw [upd_ne (fun z => by rw [z, hu] at h1; cases h1; exact hw.1 _ rfl)]; exact h1, h2, fun pos cv hc => ?_⟩
  obtain ⟨c, e1, e2⟩ := h3 pos cv hc
  exact ⟨c, e1, by rw [upd_ne (fun z => by rw [z, hu] at e2; unfold LamX.CodeO at e2; cases e2; exact hw.2 _ rfl)]; exact e2⟩
theorem Sto.write {C : Cb} {O : Addr → Prop} {ρ : List Addr} {H : Hp} {j : J} (S : Sto C O ρ H j) {l : Addr} {o u : HO} (hl : O l) (hr : l ∉ ρ) (hu : H l = some u) (hw : NW u) : Sto C O ρ (upd H l o) j := by
  have st : Step ρ (Bo O ρ j) H ρ (Bo O ρ j) (upd H l o) := ⟨Pres.at (.inl hl) hu hw.1, fun a z => .inl z, Pfx.refl⟩
  have kp : ∀ a, a ≠ l → ∀ u, H a = some u → upd H l o a = some u := fun a n u e => by rw [upd_ne n]; exact e
  have th : ∀ a, (∃ u, H a = some u) → ∃ u, upd H l o a = some u := fun a ⟨u, e⟩ => by
    by_cases q : a = l
    · rw [q]; exact ⟨_, upd_same⟩
    · exact ⟨u, kp a q u e⟩
  exact ⟨fun a z => th a (S.trk a z), tabs_write S.tab hu hw, fun a z => th a (S.rtr a z), S.rl, S.nd, fun n d e => let ⟨a, ea, q⟩ := S.sto n d e; ⟨a, ea, q.map (fun u _ => kp a (fun z => hr (z ▸ List.mem_iff_getElem?.mpr ⟨n, ea⟩)) u) fun _ _ => st.den⟩⟩
theorem Sto.view {C : Cb} {O : Addr → Prop} {ρ : List Addr} {H : Hp} {j : J} (S : Sto C O ρ H j) {v : V} {d : D} (h : Den C ρ H (Bo O ρ j) v d) : Vw C ρ H (Bo O ρ j) v (deref j d) := by
  cases d with
  | loc n =>
    cases h with
    | loc e =>
      show Vw C ρ H (Bo O ρ j) _ (match j[n]? with | some (some c) => c | _ => .loc n)
      cases q : j[n]? with
      | none => exact .of (.loc e)
      | some o =>
        cases o with
        | none => exact .of (.loc e)
        | some c =>
          obtain ⟨b, eb, hc⟩ := S.sto n c q
          rw [e] at eb
          cases eb
          exact hc.vw
  | _ => exact .of h

/-! ### states -/
/-- the context of a body: what stood at the entry -/
structure Ct where
  b : Cb
  H0 : Hp
  ρ0 : List Addr
  J0 : J
  O0 : Addr → Prop
  slf : Option Addr
def SlotOk (C : Ct) (O : Addr → Prop) (ρ : List Addr) (H : Hp) (B : Addr → Prop) (σ : L2.St) (i : Nat) : Cell → Prop
  | .val d => ∃ v, σ[i]? = some (some v) ∧ Den C.b ρ H B v d
  | .own d => ∃ a, σ[i]? = some (some (.ref a)) ∧ O a ∧ C.H0 a = none ∧ a ∉ ρ ∧ (∀ c fs, d = .ins c fs → C.slf = some a) ∧ Cnt C.b ρ H B a d
  | .act => ∃ a, σ[i]? = some (some (.ref a)) ∧ C.slf = some a
structure Sok (C : Ct) (O : Addr → Prop) (ρ : List Addr) (σ : L2.St) (H : Hp) (Γ : Gm) (j : J) : Prop where
  st : Sto C.b O ρ H j
  len : Γ.length = σ.length
  pre : Pfx C.ρ0 ρ
  ex : ∀ a o, ¬ Live C.ρ0 C.J0 a → NT o → C.H0 a = some o → H a = some o
  ext0 : ∀ a ps, C.H0 a = some (.tbl ps) → ∃ qs, H a = some (.tbl qs)
  onew : ∀ a, O a → C.O0 a ∨ C.H0 a = none
  b0 : ∀ a, C.O0 a → O a
  new : ∀ a, Live ρ j a → Live C.ρ0 C.J0 a ∨ C.H0 a = none
  rnw : ∀ a, a ∈ ρ → a ∈ C.ρ0 ∨ C.H0 a = none
  slot : ∀ i c, Γ[i]? = some (some c) → SlotOk C O ρ H (Bo O ρ j) σ i c
  dist : ∀ (i k : Nat) ds es a, Γ[i]? = some (some (.own ds)) → Γ[k]? = some (some (.own es)) → σ[i]? = some (some (.ref a)) → σ[k]? = some (some (.ref a)) → i = k
  b00 : Trk C.O0 C.H0
section
variable {C : Ct} {O : Addr → Prop} {ρ ρ' : List Addr} {σ : L2.St} {H H' : Hp} {Γ : Gm} {j j' : J}
theorem Sok.there (S : Sok C O ρ σ H Γ j) {a : Addr} {o : HO} (n : ¬ Live C.ρ0 C.J0 a) (h : C.H0 a = some o) : ∃ u, H a = some u := (Pres.mk S.ex S.ext0).there n h
theorem Sok.old (S : Sok C O ρ σ H Γ j) {a : Addr} (h : H a = none) : C.H0 a = none := by
  cases e : C.H0 a with
  | none => rfl
  | some o =>
    by_cases l : Live C.ρ0 C.J0 a
    · obtain ⟨u, hu⟩ := S.st.rtr a (S.pre.mem l.mem); rw [hu] at h; cases h
    · obtain ⟨u, hu⟩ := S.there l e; rw [hu] at h; cases h
theorem Sok.trkB (S : Sok C O ρ σ H Γ j) : Trk (Bo O ρ j) H := S.st.trkB
theorem Sok.keepO {O' : Addr → Prop} (S : Sok C O ρ σ H Γ j) (k : Kp ρ j H ρ' j' H') (hO : ∀ a, O a → O' a) (hN : ∀ a, O' a → O a ∨ H a = none) (s' : Sto C.b O' ρ' H' j') : Sok C O' ρ' σ H' Γ j' where
  st := s'
  len := S.len
  pre := S.pre.trans k.pfx
  ex := fun a o n t h => k.keep a o (fun z => (S.new a z).elim n fun e => by rw [e] at h; cases h) t (S.ex a o n t h)
  ext0 := fun a ps h => let ⟨_, h1⟩ := S.ext0 a ps h; k.tbl a _ h1
  onew := fun a z => (hN a z).elim (S.onew a) fun e => .inr (S.old e)
  b0 := fun a h => hO a (S.b0 a h)
  new := fun a z => by
    rcases k.grow a z with w | w
    · exact S.new a w
    · exact .inr (S.old w)
  rnw := fun a z => by
    rcases k.frs a z with w | w
    · exact S.rnw a w
    · exact .inr (S.old w)
  slot := fun i c h => by
    have q := S.slot i c h
    cases c with
    | val d => obtain ⟨v, e, r⟩ := q; exact ⟨v, e, (k.stepO hN).den r⟩
    | own d =>
      obtain ⟨a, e, b, h0, n, hc, r⟩ := q
      refine ⟨a, e, hO a b, h0, fun z => ?_, hc, r.map (fun o t => k.keep a o (fun z => n z.mem) t) fun _ _ => (k.stepO hN).den⟩
      rcases k.frs a z with w | w
      · exact n w
      · obtain ⟨o, e, _⟩ := r.there; rw [w] at e; cases e
    | act => exact q
  dist := S.dist
  b00 := S.b00
theorem Sok.keep (S : Sok C O ρ σ H Γ j) (k : Kp ρ j H ρ' j' H') (s' : Sto C.b O ρ' H' j') : Sok C O ρ' σ H' Γ j' := S.keepO k (fun _ h => h) (fun _ h => .inl h) s'
theorem Sok.ext (S : Sok C O ρ σ H Γ j) (x : Ext H H') : Sok C O ρ σ H' Γ j := S.keep x.keep (S.st.ext x)
theorem Sok.fresh (S : Sok C O ρ σ H Γ j) {p : Addr} (h : H p = none) : ¬ Bo O ρ j p := S.st.fresh h
theorem Sok.kpt (S : Sok C O ρ σ H Γ j) {ρ2 : List Addr} {j2 : J} {H2 : Hp} (p : Kp ρ j H ρ' j' H') (q : Kp ρ' j' H' ρ2 j2 H2) : Kp ρ j H ρ2 j2 H2 := Kp.trans S.st.rtr p q
end

/-! ### what is wanted behind a piece of code -/
/-- K: of the result, the store, where its things stand, and the heap -/
def Post {α : Type} (C : Ct) (E : WX) (O : Addr → Prop) (σ : L2.St) (Γ : Gm) (ρ : List Addr) (j : J) (H : Hp) (r : R α) (K : α → J → List Addr → Hp → Prop) : Prop := match r with
  | .ok a j' => ∀ ρ' H', Kp ρ j H ρ' j' H' → Sok C O ρ' σ H' Γ j' → K a j' ρ' H'
  | .exc c fs j' => ∀ x vs ρ' H', Kp ρ j H ρ' j' H' → Sok C O ρ' σ H' Γ j' → H' x = some (.xd vs) → ¬ Bo O ρ' j' x → DenF C.b ρ' H' (Bo O ρ' j') vs fs → E (.ref (C.b.cm c)) (some x) σ H'
  | .bad => False
section
variable {α β : Type} {C : Ct} {E : WX} {O : Addr → Prop} {σ : L2.St} {Γ : Gm} {ρ ρ1 : List Addr} {j j1 : J} {H H1 : Hp}
theorem Post.shift {r : R α} {K : α → J → List Addr → Hp → Prop} (S : Sok C O ρ σ H Γ j) (k : Kp ρ j H ρ1 j1 H1) (h : Post C E O σ Γ ρ j H r K) : Post C E O σ Γ ρ1 j1 H1 r K := by
  cases r with
  | ok a j => exact fun ρ' H' k' S' => h ρ' H' (S.kpt k k') S'
  | exc c fs j => exact fun x vs ρ' H' k' S' => h x vs ρ' H' (S.kpt k k') S'
  | bad => exact h
theorem Post.bind {r : R α} {f : α → J → R β} {K : β → J → List Addr → Hp → Prop} (S : Sok C O ρ σ H Γ j) (h : Post C E O σ Γ ρ j H (r.bind f) K) : Post C E O σ Γ ρ j H r fun a j1 ρ1 H1 => Post C E O σ Γ ρ1 j1 H1 (f a j1) K := by
  cases r with
  | ok a j1 => exact fun ρ' H' k S' => Post.shift S k h
  | exc c fs j => exact h
  | bad => exact h
theorem Post.imp {r : R α} {K K' : α → J → List Addr → Hp → Prop} (h : Post C E O σ Γ ρ j H r K) (k : ∀ a j' ρ' H', Kp ρ j H ρ' j' H' → Sok C O ρ' σ H' Γ j' → K a j' ρ' H' → K' a j' ρ' H') : Post C E O σ Γ ρ j H r K' := by
  cases r with
  | ok a j => exact fun ρ' H' k' S => k a j ρ' H' k' S (h ρ' H' k' S)
  | exc c fs j => exact h
  | bad => exact h
theorem Post.now {a : α} {K : α → J → List Addr → Hp → Prop} (S : Sok C O ρ σ H Γ j) (h : Post C E O σ Γ ρ j H (.ok a j) K) : K a j ρ H := h ρ H Kp.refl S
theorem Post.ite {c : Prop} [Decidable c] {r : R α} {K : α → J → List Addr → Hp → Prop} (h : Post C E O σ Γ ρ j H (if c then r else .bad) K) : c ∧ Post C E O σ Γ ρ j H r K := by
  by_cases q : c
  · rw [if_pos q] at h; exact ⟨q, h⟩
  · rw [if_neg q] at h; exact h.elim
end

/-! ### the judgements -/
/-- the start of a piece of code of which m tells the result -/
abbrev St0 {α : Type} (C : Ct) (E : WX) (m : Gm → J → R α) (σ : L2.St) (H : Hp) (K : (Addr → Prop) → α → J → List Addr → Hp → Prop) : Prop := ∃ O ρ Γ j, Sok C O ρ σ H Γ j ∧ Post C E O σ Γ ρ j H (m Γ j) (K O)
abbrev ME (C : Ct) (E : WX) (X : Cx) (e : Expr) (m : Gm → J → R D) : Prop :=
  PE X e fun σ H Q => St0 C E m σ H fun O d j' ρ' H' => ∀ v, Den C.b ρ' H' (Bo O ρ' j') v d → Q v H'
abbrev MT (C : Ct) (E : WX) (X : Cx) (e : Expr) (m : Gm → J → R Bool) : Prop :=
  PT X e fun σ H Q => St0 C E m σ H fun _ b _ _ H' => Q b H'
abbrev MW (C : Ct) (E : WX) (X : Cx) (e : Expr) (m : Gm → J → R Bool) : Prop :=
  PW X e fun σ H Q => St0 C E m σ H fun _ b _ _ H' => Q b H'
abbrev MA (C : Ct) (E : WX) (X : Cx) (es : List Expr) (m : Gm → J → R (List D)) : Prop :=
  PA X es fun σ H Q => St0 C E m σ H fun O ds j' ρ' H' => ∀ vs, DenA C.b ρ' H' (Bo O ρ' j') vs ds → Q vs H'
section
variable {X : Cx} {e : Expr}
theorem PE.imp {t t' : TE} (h : PE X e t) (k : ∀ σ H Q, t' σ H Q → t σ H Q) : PE X e t' := ⟨fun pins s σ H Q I q => h.run pins s σ H Q I (k σ H Q q)⟩
theorem PT.imp {t t' : TT} (h : PT X e t) (k : ∀ σ H Q, t' σ H Q → t σ H Q) : PT X e t' := ⟨fun pins s σ H Q I q => h.run pins s σ H Q I (k σ H Q q)⟩
theorem PW.imp {t t' : TT} (h : PW X e t) (k : ∀ σ H Q, t' σ H Q → t σ H Q) : PW X e t' := ⟨fun wh pins s σ H Q I q => h.run wh pins s σ H Q I (k σ H Q q)⟩
theorem PA.imp {es : List Expr} {t t' : TA} (h : PA X es t) (k : ∀ σ H Q, t' σ H Q → t σ H Q) : PA X es t' := ⟨fun pos pins s σ H Q I q => h.run pos pins s σ H Q I (k σ H Q q)⟩
theorem PS.imp {st : Stmt} {t t' : TS} (h : PS X st t) (k : ∀ D σ H, t' D σ H → t D σ H) : PS X st t' := ⟨fun pins s σ H D I q => h.run pins s σ H D I (k D σ H q)⟩
theorem PSs.imp {st : List Stmt} {t t' : TS} (h : PSs X st t) (k : ∀ D σ H, t' D σ H → t D σ H) : PSs X st t' := ⟨fun pins s σ H D I q => h.run pins s σ H D I (k D σ H q)⟩
end

/-! ### operations on data -/
def OpD (C : Cb) (r : R2) (f : D → D → Option D) : Prop := ∀ ρ B H x y d e z Q, Trk B H → Vw C ρ H B x d → Vw C ρ H B y e → f d e = some z → (∀ v H', Ext H H' → Den C ρ H' B v z → Q v H') → r x y H Q
def UnD (C : Cb) (r : V → Hp → VK → Prop) (f : D → Option D) : Prop := ∀ ρ B H x d z Q, Trk B H → Vw C ρ H B x d → f d = some z → (∀ v H', Ext H H' → Den C ρ H' B v z → Q v H') → r x H Q
inductive VwA (C : Cb) (ρ : List Addr) (H : Hp) (B : Addr → Prop) : List V → List D → Prop
  | nil : VwA C ρ H B [] []
  | cons {v : V} {d : D} {vs : List V} {ds : List D} : Vw C ρ H B v d → VwA C ρ H B vs ds → VwA C ρ H B (v :: vs) (d :: ds)
def CallD (C : Cb) (r : List V → Hp → VK → Prop) (f : List D → Option D) : Prop := ∀ ρ B H xs ds z Q, Trk B H → VwA C ρ H B xs ds → f ds = some z → (∀ v H', Ext H H' → Den C ρ H' B v z → Q v H') → r xs H Q
theorem Sto.viewA {C : Cb} {O : Addr → Prop} {ρ : List Addr} {H : Hp} {j : J} (S : Sto C O ρ H j) : ∀ {vs : List V} {ds : List D}, DenA C ρ H (Bo O ρ j) vs ds → VwA C ρ H (Bo O ρ j) vs (ds.map (deref j))
  | _, _, .nil => .nil
  | _, _, .cons h r => .cons (S.view h) (S.viewA r)
def m2 (f : D → D → Option D) (ma mb : Gm → J → R D) : Gm → J → R D := fun Γ j => (ma Γ j).bind fun d j => (mb Γ j).bind fun e j => lift (f (deref j d) (deref j e)) j
def m1 (f : D → Option D) (ma : Gm → J → R D) : Gm → J → R D := fun Γ j => (ma Γ j).bind fun d j => lift (f (deref j d)) j
def mB (f : List D → Option D) (ma : Gm → J → R (List D)) : Gm → J → R D := fun Γ j => (ma Γ j).bind fun ds j => lift (f (ds.map (deref j))) j
section
variable {C : Ct} {E : WX} {X : Cx} {a b e : Expr} {ma mb : Gm → J → R D} {pos : Pos}
/-- the end of an operation that keeps all -/
theorem post_lift {O : Addr → Prop} {ρ : List Addr} {σ : L2.St} {Γ : Gm} {H : Hp} {j : J} {o : Option D} {Q : VK} (S : Sok C O ρ σ H Γ j) (h : Post C E O σ Γ ρ j H (lift o j) fun d j' ρ' H' => ∀ v, Den C.b ρ' H' (Bo O ρ' j') v d → Q v H') :
    ∃ z, o = some z ∧ ∀ v H', Ext H H' → Den C.b ρ H' (Bo O ρ j) v z → Q v H' := by
  cases o with
  | none => exact h.elim
  | some z => exact ⟨z, rfl, fun v H' k r => h ρ H' k.keep (S.ext k) v r⟩
theorem post_liftB {α : Type} {O : Addr → Prop} {ρ : List Addr} {σ : L2.St} {Γ : Gm} {H : Hp} {j : J} {o : Option α} {K : α → J → List Addr → Hp → Prop} (S : Sok C O ρ σ H Γ j) (h : Post C E O σ Γ ρ j H (lift o j) K) : ∃ z, o = some z ∧ K z j ρ H := by
  cases o with
  | none => exact h.elim
  | some z => exact ⟨z, rfl, Post.now S h⟩
theorem me_two {r : R2} {f : D → D → Option D} (hf : OpD C.b r f) {σ : L2.St} {H : Hp} {Q : VK} {ta tb : TE}
    (ha : ∀ σ H Q, St0 C E ma σ H (fun O d j' ρ' H' => ∀ v, Den C.b ρ' H' (Bo O ρ' j') v d → Q v H') → ta σ H Q)
    (hb : ∀ σ H Q, St0 C E mb σ H (fun O d j' ρ' H' => ∀ v, Den C.b ρ' H' (Bo O ρ' j') v d → Q v H') → tb σ H Q)
    (h : St0 C E (m2 f ma mb) σ H fun O d j' ρ' H' => ∀ v, Den C.b ρ' H' (Bo O ρ' j') v d → Q v H') : tOp r ta tb σ H Q := by
  obtain ⟨O, ρ, Γ, j, S, h⟩ := h
  refine ha σ H _ ⟨O, ρ, Γ, j, S, Post.imp (Post.bind S h) fun d j1 ρ1 H1 k1 S1 q v hv => ?_⟩
  refine hb σ H1 _ ⟨O, ρ1, Γ, j1, S1, Post.imp (Post.bind S1 q) fun e j2 ρ2 H2 k2 S2 q2 u hu => ?_⟩
  obtain ⟨z, hz, q3⟩ := post_lift S2 q2
  exact hf ρ2 (Bo O ρ2 j2) H2 v u _ _ z _ S2.trkB (S2.st.view ((k2.step O).den hv)) (S2.st.view hu) hz q3
theorem me_op {op : Operator} {r : R2} {f : D → D → Option D} (ho : OpR X (binaryOp op) r) (hf : OpD C.b r f) (ha : ME C E X a ma) (hb : ME C E X b mb) : ME C E X (.BinOp a op b pos) (m2 f ma mb) :=
  PE.imp (pe_op ho ha hb) fun _ _ _ h => me_two hf (fun _ _ _ q => q) (fun _ _ _ q => q) h
theorem me_cmp {op : CmpOp} {r : R2} {f : D → D → Option D} (ho : OpR X (compareOp op) r) (hf : OpD C.b r f) (ha : ME C E X a ma) (hb : ME C E X b mb) (hm : behindInMarks op b = false) : ME C E X (.Compare a [op] [b] pos) (m2 f ma mb) :=
  PE.imp (pe_cmpR ho ha hb hm) fun _ _ _ h => me_two hf (fun _ _ _ q => q) (fun _ _ _ q => q) h
theorem me_un {op : UnaryOp} {r : V → Hp → VK → Prop} {f : D → Option D} (ho : UnR X (unaryOp op) r) (hf : UnD C.b r f) (ha : ME C E X a ma) : ME C E X (.UnaryOp op a pos) (m1 f ma) :=
  PE.imp (pe_un ho ha) fun σ H Q ⟨O, ρ, Γ, j, S, h⟩ => ⟨O, ρ, Γ, j, S, Post.imp (Post.bind S h) fun d j1 ρ1 H1 k1 S1 q v hv => by
    obtain ⟨z, hz, q3⟩ := post_lift S1 q
    exact hf ρ1 (Bo O ρ1 j1) H1 v _ z _ S1.trkB (S1.st.view hv) hz q3⟩

/-! ### names and constants -/
def mVar (i : Nat) : Gm → J → R D := fun Γ j => match Γ[i]? with
  | some (some (.val d)) => .ok d j
  | _ => .bad
def mC (d : D) : Gm → J → R D := fun _ j => .ok d j
theorem me_ofvar {i : Nat} (h : PE X e (tVar i)) : ME C E X e (mVar i) := PE.imp h fun σ H Q ⟨O, ρ, Γ, j, S, h⟩ => by
  unfold mVar at h
  cases q : Γ[i]? with
  | none => rw [q] at h; exact h.elim
  | some o =>
    rw [q] at h
    cases o with
    | none => exact h.elim
    | some c =>
      cases c with
      | own _ => exact h.elim
      | act => exact h.elim
      | val d =>
        obtain ⟨v, e, r⟩ := S.slot i _ q
        exact ⟨v, e, h ρ H Kp.refl S v r⟩
theorem me_ofc {v : V} {d : D} (h : PE X e (tC v)) (hd : ∀ ρ H B, Den C.b ρ H B v d) : ME C E X e (mC d) := PE.imp h fun σ H Q ⟨O, ρ, Γ, j, S, h⟩ => h ρ H Kp.refl S v (hd ρ H _)
theorem me_int {i : Int} {k : Nat} : ME C E X (.Constant (.int i) k pos) (mC (.int i)) := me_ofc pe_int fun _ _ _ => .int i
theorem me_bl {i : Bool} {k : Nat} : ME C E X (.Constant (.bool i) k pos) (mC (.bl i)) := me_ofc pe_bl fun _ _ _ => .bl i
theorem me_non {k : Nat} : ME C E X (.Constant .none k pos) (mC .non) := me_ofc pe_non fun _ _ _ => .non
theorem me_str {x : Str} {k : Nat} : ME C E X (.Constant (.str x) k pos) (mC (.str x)) := me_ofc pe_str fun _ _ _ => .str x
theorem mv (i : Nat) {x : Str} (hN : X.N[i]? = some x := by rfl) (hv : Vis X.env.scope x := by first | exact Or.inl rfl | exact Or.inr (Or.inl rfl) | exact Or.inr (Or.inr rfl)) (hd : (x == ("__debug__" : Str)) = false := by decide)
    (hcd : (x == ("__classdict__" : Str)) = false := by decide) : ME C E X (.Name x pos) (mVar i) := me_ofvar (pe_var hN hv hd hcd)

/-! ### argument lists, tuples, lists, built-ins -/
def mNil : Gm → J → R (List D) := fun _ j => .ok [] j
def mCons (ma : Gm → J → R D) (mr : Gm → J → R (List D)) : Gm → J → R (List D) := fun Γ j => (ma Γ j).bind fun d j => (mr Γ j).bind fun ds j => .ok (d :: ds) j
variable {es : List Expr} {mr : Gm → J → R (List D)}
theorem ma_nil : MA C E X [] mNil := PA.imp pa_nil fun σ H Q ⟨O, ρ, Γ, j, S, h⟩ => h ρ H Kp.refl S [] .nil
theorem ma_cons (ha : ME C E X e ma) (hr : MA C E X es mr) (hs : starEach (e :: es) X.env = (false, eval e X.env) :: starEach es X.env := by rfl) : MA C E X (e :: es) (mCons ma mr) :=
  PA.imp (pa_cons ha hr hs) fun σ H Q ⟨O, ρ, Γ, j, S, h⟩ => ⟨O, ρ, Γ, j, S, Post.imp (Post.bind S h) fun d j1 ρ1 H1 k1 S1 q v hv =>
    ⟨O, ρ1, Γ, j1, S1, Post.imp (Post.bind S1 q) fun ds j2 ρ2 H2 k2 S2 q2 vs hvs => q2 ρ2 H2 Kp.refl S2 (v :: vs) (.cons ((k2.step O).den hv) hvs)⟩⟩
def mTup (mr : Gm → J → R (List D)) : Gm → J → R D := fun Γ j => (mr Γ j).bind fun ds j => if ds.length ≤ 100000 then .ok (.tup ds) j else .bad
def mLst (mr : Gm → J → R (List D)) : Gm → J → R D := fun Γ j => (mr Γ j).bind fun ds j => if ds.length ≤ 100000 then .ok (.lst ds) j else .bad
theorem sz5 {n : Nat} (h : n ≤ 100000) : n ≤ sizeLine := Nat.le_trans h (by decide)
theorem me_tup {k : Nat} (hr : MA C E X es mr) : ME C E X (.Tuple es k pos) (mTup mr) :=
  PE.imp (pe_tup hr) fun σ H Q ⟨O, ρ, Γ, j, S, h⟩ => ⟨O, ρ, Γ, j, S, Post.imp (Post.bind S h) fun ds j1 ρ1 H1 k1 S1 q vs hvs => by
    obtain ⟨hl, q⟩ := Post.ite q
    refine ⟨sz5 (by rw [hvs.length]; exact hl), fun p hp => ?_⟩
    have x : Ext H1 (upd H1 p (.tup vs)) := Ext.new hp
    exact q _ _ x.keep (S1.ext x) _ (.tup upd_same (S1.fresh hp) (hvs.mono x.pres Pfx.refl))⟩
theorem me_lst (hr : MA C E X es mr) : ME C E X (.List es pos) (mLst mr) :=
  PE.imp (pe_lst hr) fun σ H Q ⟨O, ρ, Γ, j, S, h⟩ => ⟨O, ρ, Γ, j, S, Post.imp (Post.bind S h) fun ds j1 ρ1 H1 k1 S1 q vs hvs => by
    obtain ⟨hl, q⟩ := Post.ite q
    refine ⟨sz5 (by rw [hvs.length]; exact hl), fun p hp => ?_⟩
    have x : Ext H1 (upd H1 p (.lst vs)) := Ext.new hp
    exact q _ _ x.keep (S1.ext x) _ (.lst upd_same (S1.fresh hp) (hvs.mono x.pres Pfx.refl))⟩
theorem me_callB {id : String} {x : Str} {p : Pos} {r : List V → Hp → VK → Prop} {f : List D → Option D} (hc : CallR X (.builtin id) r) (hf : CallD C.b r f) (hg : Gl X x) (hm : X.mg x = none) (hv : bootBuiltins x = some (.builtin id)) (hr : MA C E X (e :: es) mr) (hn : x ≠ "__name__" := by decide) (hdb : (x == ("__debug__" : Str)) = false := by decide)
    (hs : starEach (e :: es) X.env = (false, eval e X.env) :: starEach es X.env := by rfl) (hpl : (backTo pos (starEach es X.env)).any (·.1) = false := by rfl) : ME C E X (.Call (.Name x p) (e :: es) [] pos) (mB f mr) :=
  PE.imp (pe_callB hc hg hm hv hr hn hdb hs hpl) fun σ H Q ⟨O, ρ, Γ, j, S, h⟩ => ⟨O, ρ, Γ, j, S, Post.imp (Post.bind S h) fun ds j1 ρ1 H1 k1 S1 q vs hvs => by
    obtain ⟨z, hz, q3⟩ := post_lift S1 q
    exact hf ρ1 (Bo O ρ1 j1) H1 vs _ z _ S1.trkB (S1.st.viewA hvs) hz q3⟩
theorem me_callTy {id : String} {x : Str} {p : Pos} {r : List V → Hp → VK → Prop} {f : List D → Option D} (hc : CallR X (.type id) r) (hf : CallD C.b r f) (hg : Gl X x) (hm : X.mg x = none) (hv : bootBuiltins x = some (.type id)) (hr : MA C E X (e :: es) mr) (hn : x ≠ "__name__" := by decide) (hdb : (x == ("__debug__" : Str)) = false := by decide)
    (hs : starEach (e :: es) X.env = (false, eval e X.env) :: starEach es X.env := by rfl) (hpl : (backTo pos (starEach es X.env)).any (·.1) = false := by rfl) : ME C E X (.Call (.Name x p) (e :: es) [] pos) (mB f mr) :=
  PE.imp (pe_callTy hc hg hm hv hr hn hdb hs hpl) fun σ H Q ⟨O, ρ, Γ, j, S, h⟩ => ⟨O, ρ, Γ, j, S, Post.imp (Post.bind S h) fun ds j1 ρ1 H1 k1 S1 q vs hvs => by
    obtain ⟨z, hz, q3⟩ := post_lift S1 q
    exact hf ρ1 (Bo O ρ1 j1) H1 vs _ z _ S1.trkB (S1.st.viewA hvs) hz q3⟩

/-! ### new things of the store -/
theorem Sto.push {Cc : Cb} {O : Addr → Prop} {ρ : List Addr} {H : Hp} {j : J} (S : Sto Cc O ρ H j) {p : Addr} (hp : H p = none) {H' : Hp} (x : Ext H H') (hk : ∃ o, H' p = some o) {d : D} (hc : ∀ (ρ2 : List Addr) (B2 : Addr → Prop), (∀ v e, Den Cc ρ H (Bo O ρ j) v e → Den Cc ρ2 H' B2 v e) → Cnt Cc ρ2 H' B2 p d) : Sto Cc O (ρ ++ [p]) H' (j ++ [some d]) ∧ Kp ρ j H (ρ ++ [p]) (j ++ [some d]) H' := by
  have np : p ∉ ρ := fun z => by obtain ⟨o, e⟩ := S.rtr p z; rw [hp] at e; cases e
  have lv : ∀ a, Live (ρ ++ [p]) (j ++ [some d]) a → Live ρ j a ∨ a = p := fun a ⟨n, e, h1, h2⟩ => by
    by_cases hn : n < ρ.length
    · rw [List.getElem?_append_left hn] at h1
      rw [List.getElem?_append_left (by rw [← S.rl]; exact hn)] at h2
      exact .inl ⟨n, e, h1, h2⟩
    · rw [List.getElem?_append_right (Nat.le_of_not_lt hn)] at h1
      obtain ⟨i, hi⟩ : ∃ i, n - ρ.length = i := ⟨_, rfl⟩
      rw [hi] at h1
      cases i with
      | zero => cases h1; exact .inr rfl
      | succ i => cases h1
  have K : Kp ρ j H (ρ ++ [p]) (j ++ [some d]) H' := ⟨fun a o _ _ h => x a o h, fun a ps h => ⟨ps, x a _ h⟩, fun a z => (lv a z).imp id fun e => by rw [e]; exact hp, fun a z => by
    rcases List.mem_append.mp z with w | w
    · exact .inl w
    · rw [List.mem_singleton.mp w]; exact .inr hp, Pfx.app⟩
  refine ⟨⟨fun a h => let ⟨o, e⟩ := S.trk a h; ⟨o, x a o e⟩, S.tab.ext x, fun a z => ?_, by simp [S.rl], ?_, fun n e h => ?_⟩, K⟩
  · rcases List.mem_append.mp z with w | w
    · obtain ⟨o, e⟩ := S.rtr a w; exact ⟨o, x a o e⟩
    · rw [List.mem_singleton.mp w]; exact hk
  · refine List.nodup_append.mpr ⟨S.nd, by simp, fun a h b hb => ?_⟩
    rw [List.mem_singleton.mp hb]
    exact fun z => np (z ▸ h)
  · have st := K.step O
    by_cases hn : n < j.length
    · rw [List.getElem?_append_left hn] at h
      obtain ⟨a, ea, q⟩ := S.sto n e h
      exact ⟨a, Pfx.app n a ea, q.map (fun o _ => x a o) fun _ _ => st.den⟩
    · rw [List.getElem?_append_right (Nat.le_of_not_lt hn)] at h
      obtain ⟨i, hi⟩ : ∃ i, n - j.length = i := ⟨_, rfl⟩
      rw [hi] at h
      cases i with
      | succ i => cases h
      | zero =>
        cases h
        have en : n = ρ.length := by have := S.rl; omega
        exact ⟨p, by rw [en, List.getElem?_append_right (Nat.le_refl _), Nat.sub_self]; rfl, hc _ _ fun _ _ => st.den⟩
/-- a new list that may be changed -/
def mLstM (mr : Gm → J → R (List D)) : Gm → J → R D := fun Γ j => (mr Γ j).bind fun ds j => if ds.length ≤ 100000 then .ok (.loc j.length) (j ++ [some (.lst ds)]) else .bad
theorem me_lstM (hr : MA C E X es mr) : ME C E X (.List es pos) (mLstM mr) :=
  PE.imp (pe_lst hr) fun σ H Q ⟨O, ρ, Γ, j, S, h⟩ => ⟨O, ρ, Γ, j, S, Post.imp (Post.bind S h) fun ds j1 ρ1 H1 k1 S1 q vs hvs => by
    obtain ⟨hl, q⟩ := Post.ite q
    refine ⟨sz5 (by rw [hvs.length]; exact hl), fun p hp => ?_⟩
    have x : Ext H1 (upd H1 p (.lst vs)) := Ext.new hp
    obtain ⟨s2, k2⟩ := S1.st.push hp x ⟨_, upd_same⟩ (d := .lst ds) fun ρ2 B2 f => ⟨vs, upd_same, hvs.map f⟩
    exact q _ _ k2 (S1.keep k2 s2) _ (.loc (by rw [← S1.st.rl, List.getElem?_append_right (Nat.le_refl _), Nat.sub_self]; rfl))⟩
end
end On

set_option Elab.async false
set_option linter.all false
set_option maxRecDepth 100000
set_option maxHeartbeats 2000000
set_option autoImplicit false
namespace On
open PySem PySem.Spec PyProof.Rows L2

/-! ### statements -/
inductive RS where
  | nx (Γ : Gm) (j : J) | ret (d : D) (j : J) | brk (Γ : Gm) (j : J) | cont (Γ : Gm) (j : J) | exc (c : Nat) (fs : List (Str × D)) (Γ : Gm) (j : J) | bad
def PostS (C : Ct) (E : WX) (ρ : List Addr) (B : Addr → Prop) (H : Hp) (r : RS) (Dn : Ends) : Prop := match r with
  | .nx Γ j => ∀ O' ρ' σ' H', Step ρ B H ρ' (Bo O' ρ' j) H' → Sok C O' ρ' σ' H' Γ j → Dn.nx σ' H'
  | .ret d j => ∀ O' ρ' σ' H' Γ v, Step ρ B H ρ' (Bo O' ρ' j) H' → Sok C O' ρ' σ' H' Γ j → Den C.b ρ' H' (Bo O' ρ' j) v d → Dn.rt v H'
  | .brk Γ j => ∀ O' ρ' σ' H', Step ρ B H ρ' (Bo O' ρ' j) H' → Sok C O' ρ' σ' H' Γ j → Dn.bk σ' H'
  | .cont Γ j => ∀ O' ρ' σ' H', Step ρ B H ρ' (Bo O' ρ' j) H' → Sok C O' ρ' σ' H' Γ j → Dn.ct σ' H'
  | .exc c fs Γ j => ∀ O' ρ' σ' H' x vs, Step ρ B H ρ' (Bo O' ρ' j) H' → Sok C O' ρ' σ' H' Γ j → H' x = some (.xd vs) → ¬ Bo O' ρ' j x → DenF C.b ρ' H' (Bo O' ρ' j) vs fs → E (.ref (C.b.cm c)) (some x) σ' H'
  | .bad => False
theorem PostS.shift {C : Ct} {E : WX} {ρ ρ1 : List Addr} {B B1 : Addr → Prop} {H H1 : Hp} {r : RS} {Dn : Ends} (p : Step ρ B H ρ1 B1 H1) (h : PostS C E ρ B H r Dn) : PostS C E ρ1 B1 H1 r Dn := by
  cases r with
  | nx Γ j => exact fun O' ρ' σ' H' q => h O' ρ' σ' H' (p.trans q)
  | ret d j => exact fun O' ρ' σ' H' Γ v q => h O' ρ' σ' H' Γ v (p.trans q)
  | brk Γ j => exact fun O' ρ' σ' H' q => h O' ρ' σ' H' (p.trans q)
  | cont Γ j => exact fun O' ρ' σ' H' q => h O' ρ' σ' H' (p.trans q)
  | exc c fs Γ j => exact fun O' ρ' σ' H' x vs q => h O' ρ' σ' H' x vs (p.trans q)
  | bad => exact h
abbrev tM (C : Ct) (E : WX) (m : Gm → J → RS) : TS := fun Dn σ H => ∃ O ρ Γ j, Sok C O ρ σ H Γ j ∧ PostS C E ρ (Bo O ρ j) H (m Γ j) Dn
abbrev MS (C : Ct) (E : WX) (X : Cx) (st : Stmt) (m : Gm → J → RS) : Prop := PS X st (tM C E m)
abbrev MB (C : Ct) (E : WX) (X : Cx) (st : List Stmt) (m : Gm → J → RS) : Prop := PSs X st (tM C E m)
def R.bindS {α : Type} (r : R α) (Γ : Gm) (f : α → J → RS) : RS := match r with
  | .ok a j => f a j
  | .exc c fs j => .exc c fs Γ j
  | .bad => .bad
def RS.bindS (r : RS) (f : Gm → J → RS) : RS := match r with
  | .nx Γ j => f Γ j
  | .ret d j => .ret d j
  | .brk Γ j => .brk Γ j
  | .cont Γ j => .cont Γ j
  | .exc c fs Γ j => .exc c fs Γ j
  | .bad => .bad
section
variable {C : Ct} {E : WX} {X : Cx} {O : Addr → Prop} {ρ : List Addr} {σ : L2.St} {Γ : Gm} {H : Hp} {j : J} {Dn : Ends}
theorem PostS.of {α : Type} {r : R α} {f : α → J → RS} (S : Sok C O ρ σ H Γ j) (h : PostS C E ρ (Bo O ρ j) H (r.bindS Γ f) Dn) : Post C E O σ Γ ρ j H r fun a j1 ρ1 H1 => PostS C E ρ1 (Bo O ρ1 j1) H1 (f a j1) Dn := by
  cases r with
  | ok a j => exact fun ρ' H' k S' => PostS.shift (k.step O) h
  | exc c fs j => exact fun x vs ρ' H' k S' hx hn hf => h O ρ' σ H' x vs (k.step O) S' hx hn hf
  | bad => exact h
/-! ### blocks -/
def sNil : Gm → J → RS := fun Γ j => .nx Γ j
def sSeq (ms mr : Gm → J → RS) : Gm → J → RS := fun Γ j => (ms Γ j).bindS mr
variable {st : Stmt} {rest : List Stmt} {ms mr : Gm → J → RS} {e : Expr} {me : Gm → J → R D} {pos : Pos}
theorem mb_nil : MB C E X [] sNil := PSs.imp pss_nil fun Dn σ H ⟨O, ρ, Γ, j, S, h⟩ => h O ρ σ H Step.refl S
theorem mb_cons (h1 : MS C E X st ms) (h2 : MB C E X rest mr) : MB C E X (st :: rest) (sSeq ms mr) :=
  PSs.imp (pss_cons h1 h2) fun Dn σ H ⟨O, ρ, Γ, j, S, h⟩ => ⟨O, ρ, Γ, j, S, by
    have h : PostS C E ρ (Bo O ρ j) H ((ms Γ j).bindS mr) Dn := h
    revert h
    generalize ms Γ j = r
    intro h
    cases r with
    | nx Γ1 j1 => exact fun O' ρ' σ' H' p S' => ⟨O', ρ', Γ1, j1, S', PostS.shift p h⟩
    | ret d j1 => exact h
    | brk Γ1 j1 => exact h
    | cont Γ1 j1 => exact h
    | exc c fs Γ1 j1 => exact h
    | bad => exact h⟩
theorem mb_one (h1 : MS C E X st ms) : MB C E X [st] ms := pss_one h1
def sDrop (me : Gm → J → R D) : Gm → J → RS := fun Γ j => (me Γ j).bindS Γ fun _ j => .nx Γ j
def sRet (me : Gm → J → R D) : Gm → J → RS := fun Γ j => (me Γ j).bindS Γ fun d j => .ret d j
def sRetN : Gm → J → RS := fun _ j => .ret .non j
theorem ms_expr (he : ME C E X e me) (hs : swapsWith e none pos.line X.env = pure false := by rfl) : MS C E X (.Expr e pos) (sDrop me) :=
  PS.imp (ps_expr he hs) fun Dn σ H ⟨O, ρ, Γ, j, S, h⟩ => ⟨O, ρ, Γ, j, S, Post.imp (PostS.of S h) fun d j1 ρ1 H1 k1 S1 q v hv => q O ρ1 σ H1 Step.refl S1⟩
theorem ms_ret (he : ME C E X e me) : MS C E X (.Return (some e) pos) (sRet me) :=
  PS.imp (ps_ret he) fun Dn σ H ⟨O, ρ, Γ, j, S, h⟩ => ⟨O, ρ, Γ, j, S, Post.imp (PostS.of S h) fun d j1 ρ1 H1 k1 S1 q v hv => q O ρ1 σ H1 Γ v Step.refl S1 hv⟩
theorem ms_retN : MS C E X (.Return none pos) sRetN :=
  PS.imp ps_retN fun Dn σ H ⟨O, ρ, Γ, j, S, h⟩ => h O ρ σ H Γ .non Step.refl S .non
theorem ms_pass : MS C E X (.Pass pos) sNil := PS.imp ps_pass fun Dn σ H ⟨O, ρ, Γ, j, S, h⟩ => h O ρ σ H Step.refl S
theorem ms_break : MS C E X (.Break pos) (fun Γ j => .brk Γ j) := PS.imp ps_break fun Dn σ H ⟨O, ρ, Γ, j, S, h⟩ => h O ρ σ H Step.refl S
theorem ms_continue : MS C E X (.Continue pos) (fun Γ j => .cont Γ j) := PS.imp ps_continue fun Dn σ H ⟨O, ρ, Γ, j, S, h⟩ => h O ρ σ H Step.refl S
/-- a statement that is not reached -/
def sBad : Gm → J → RS := fun _ _ => .bad
theorem ms_never : MS C E X st sBad := PS.imp ps_never fun Dn σ H ⟨O, ρ, Γ, j, S, h⟩ => h
theorem mb_never {sts : List Stmt} : MB C E X sts sBad := PSs.imp pss_never fun Dn σ H ⟨O, ρ, Γ, j, S, h⟩ => h
def sIf (mc : Gm → J → R Bool) (ma mb : Gm → J → RS) : Gm → J → RS := fun Γ j => (mc Γ j).bindS Γ fun b j => bif b then ma Γ j else mb Γ j
theorem ms_if {c : Expr} {a b : List Stmt} {mc : Gm → J → R Bool} {ma mb : Gm → J → RS} (hc : MT C E X c mc) (ha : MB C E X a ma) (hb : MB C E X b mb) : MS C E X (.If c a b pos) (sIf mc ma mb) :=
  PS.imp (ps_if hc ha hb) fun Dn σ H ⟨O, ρ, Γ, j, S, h⟩ => ⟨O, ρ, Γ, j, S, Post.imp (PostS.of S h) fun b j1 ρ1 H1 k1 S1 q => by
    cases b with
    | true => exact iteT ⟨O, ρ1, Γ, j1, S1, q⟩
    | false => exact iteF ⟨O, ρ1, Γ, j1, S1, q⟩⟩

/-! ### stores -/
/-- slots are changed: those that are not stay -/
theorem Sok.slots {σ' : L2.St} {Γ' : Gm} (S : Sok C O ρ σ H Γ j) (hl : Γ'.length = σ'.length) (h : ∀ (i : Nat) (c : Cell), Γ'[i]? = some (some c) → (Γ[i]? = some (some c) ∧ σ'[i]? = σ[i]?) ∨ ∃ d v, c = .val d ∧ σ'[i]? = some (some v) ∧ Den C.b ρ H (Bo O ρ j) v d) : Sok C O ρ σ' H Γ' j where
  st := S.st
  len := hl
  pre := S.pre
  ex := S.ex
  ext0 := S.ext0
  onew := S.onew
  b0 := S.b0
  new := S.new
  rnw := S.rnw
  slot := fun i c hc => by
    rcases h i c hc with ⟨h1, h2⟩ | ⟨d, v, rfl, h2, h3⟩
    · have q := S.slot i c h1
      cases c with
      | val d => obtain ⟨v, e, r⟩ := q; exact ⟨v, h2.trans e, r⟩
      | own d => obtain ⟨a, e, r⟩ := q; exact ⟨a, h2.trans e, r⟩
      | act => obtain ⟨a, e, r⟩ := q; exact ⟨a, h2.trans e, r⟩
    · exact ⟨v, h2, h3⟩
  dist := fun i k ds es a h1 h2 h3 h4 => by
    rcases h i _ h1 with ⟨g1, e1⟩ | ⟨d, v, z, _⟩
    · rcases h k _ h2 with ⟨g2, e2⟩ | ⟨d, v, z, _⟩
      · exact S.dist i k ds es a g1 g2 (e1.symm.trans h3) (e2.symm.trans h4)
      · cases z
    · cases z
  b00 := S.b00
theorem set_cases {α : Type} {l : List α} {i k : Nat} {x y : α} (h : (l.set i x)[k]? = some y) : (i = k ∧ i < l.length ∧ y = x) ∨ (i ≠ k ∧ l[k]? = some y) := by
  by_cases e : i = k
  · subst e
    by_cases hl : i < l.length
    · rw [List.getElem?_set_self hl] at h
      cases h
      exact .inl ⟨rfl, hl, rfl⟩
    · rw [List.getElem?_eq_none (by simpa using hl)] at h
      cases h
  · rw [List.getElem?_set_ne e] at h
    exact .inr ⟨e, h⟩
theorem Sok.set {i : Nat} {v : V} {d : D} (S : Sok C O ρ σ H Γ j) (hv : Den C.b ρ H (Bo O ρ j) v d) : Sok C O ρ (σ.set i (some v)) H (Γ.set i (some (.val d))) j :=
  S.slots (by simpa using S.len) fun k c h => by
    rcases set_cases h with ⟨rfl, hl, e⟩ | ⟨ne, h⟩
    · cases e
      exact .inr ⟨d, v, rfl, List.getElem?_set_self (by rw [← S.len]; exact hl), hv⟩
    · exact .inl ⟨h, List.getElem?_set_ne ne⟩
def sSet (i : Nat) (me : Gm → J → R D) : Gm → J → RS := fun Γ j => (me Γ j).bindS Γ fun d j => .nx (Γ.set i (some (.val d))) j
theorem ms_set {i : Nat} {x : Str} {pos' : Pos} (hN : X.N.Nodup) (hi : X.N[i]? = some x) (hx : Loc X.env.scope x) (he : ME C E X e me) (hs : swapsWith e (some (.Name x pos')) pos.line X.env = pure false := by rfl) (hf : X.fn x = true ∨ X.env.scope.names.lookup x = some .local := by first | exact .inl rfl | exact .inr rfl | assumption) :
    MS C E X (.Assign [.Name x pos'] e pos) (sSet i me) :=
  PS.imp (ps_set hN hi hx he hs hf) fun Dn σ H ⟨O, ρ, Γ, j, S, h⟩ => ⟨O, ρ, Γ, j, S, Post.imp (PostS.of S h) fun d j1 ρ1 H1 k1 S1 q v hv => q O ρ1 _ H1 Step.refl (S1.set hv)⟩
/-! ### targets -/
/-- only the slots ts may differ -/
def Off (ts : List Nat) (σ σ' : L2.St) : Prop := σ'.length = σ.length ∧ ∀ k : Nat, k ∉ ts → σ'[k]? = σ[k]?
theorem Off.refl {ts : List Nat} {σ : L2.St} : Off ts σ σ := ⟨rfl, fun _ _ => rfl⟩
theorem Off.trans {ts : List Nat} {σ σ1 σ2 : L2.St} (p : Off ts σ σ1) (q : Off ts σ1 σ2) : Off ts σ σ2 := ⟨q.1.trans p.1, fun k h => (q.2 k h).trans (p.2 k h)⟩
theorem Off.more {ts us : List Nat} {σ σ' : L2.St} (p : Off ts σ σ') (h : ∀ k ∈ ts, k ∈ us) : Off us σ σ' := ⟨p.1, fun k n => p.2 k fun z => n (h k z)⟩
abbrev MG (C : Ct) (X : Cx) (tg : Expr) (ts : List Nat) (g : J → D → Gm → Option Gm) : Prop :=
  PG X tg fun v σ H Q => ∃ O ρ Γ j d Γ', Sok C O ρ σ H Γ j ∧ Den C.b ρ H (Bo O ρ j) v d ∧ g j d Γ = some Γ' ∧ ∀ σ', Off ts σ σ' → Sok C O ρ σ' H Γ' j → Q σ' H
abbrev MGs (C : Ct) (X : Cx) (tgs : List Expr) (ts : List Nat) (g : J → List D → Gm → Option Gm) : Prop :=
  PGs X tgs fun vs σ H Q => ∃ O ρ Γ j ds Γ', Sok C O ρ σ H Γ j ∧ DenA C.b ρ H (Bo O ρ j) vs ds ∧ g j ds Γ = some Γ' ∧ ∀ σ', Off ts σ σ' → Sok C O ρ σ' H Γ' j → Q σ' H
theorem PG.imp {tg : Expr} {t t' : TG} (h : PG X tg t) (k : ∀ v σ H Q, t' v σ H Q → t v σ H Q) : PG X tg t' := ⟨fun pins s σ H v u Q I r q => h.run pins s σ H v u Q I r (k v σ H Q q)⟩
theorem PGs.imp {tg : List Expr} {t t' : TGs} (h : PGs X tg t) (k : ∀ v σ H Q, t' v σ H Q → t v σ H Q) : PGs X tg t' := ⟨fun pins s σ H v u Q I r q => h.run pins s σ H v u Q I r (k v σ H Q q)⟩
def gN (i : Nat) : J → D → Gm → Option Gm := fun _ d Γ => some (Γ.set i (some (.val d)))
def gsNil : J → List D → Gm → Option Gm := fun _ ds Γ => match ds with | [] => some Γ | _ => none
def gsCons (g : J → D → Gm → Option Gm) (gs : J → List D → Gm → Option Gm) : J → List D → Gm → Option Gm := fun j ds Γ => match ds with
  | d :: r => (match g j d Γ with
    | some Γ' => gs j r Γ'
    | none => none)
  | [] => none
def gT (n : Nat) (gs : J → List D → Gm → Option Gm) : J → D → Gm → Option Gm := fun j d Γ => match d with
  | .tup ds => if ds.length = n then gs j ds Γ else none
  | _ => none
theorem mg_name {i : Nat} {x : Str} (hN : X.N.Nodup) (hi : X.N[i]? = some x) (hx : Loc X.env.scope x) (hf : X.fn x = true ∨ X.env.scope.names.lookup x = some .local := by first | exact .inl rfl | exact .inr rfl | assumption) : MG C X (.Name x pos) [i] (gN i) :=
  PG.imp (pg_name hN hi hx hf) fun v σ H Q ⟨O, ρ, Γ, j, d, Γ', S, hd, hg, q⟩ => by
    cases hg
    exact q _ ⟨by simp, fun k h => List.getElem?_set_ne (fun z => h (by simp [z]))⟩ (S.set hd)
theorem mgs_nil : MGs C X [] [] gsNil := PGs.imp pgs_nil fun vs σ H Q ⟨O, ρ, Γ, j, ds, Γ', S, hd, hg, q⟩ => by
  cases hd with
  | nil => cases hg; exact ⟨rfl, q _ Off.refl S⟩
  | cons _ _ => cases hg
theorem mgs_cons {es : List Expr} {ts us : List Nat} {g : J → D → Gm → Option Gm} {gs : J → List D → Gm → Option Gm} (h1 : MG C X e ts g) (h2 : MGs C X es us gs) (hs : (assignEach (e :: es) X.env).map (·.2) = assign e X.env :: (assignEach es X.env).map (·.2) := by rfl) : MGs C X (e :: es) (ts ++ us) (gsCons g gs) :=
  PGs.imp (pgs_cons h1 h2 hs) fun vs σ H Q ⟨O, ρ, Γ, j, ds, Γ', S, hd, hg, q⟩ => by
    cases hd with
    | nil => cases hg
    | @cons v d vs ds h r =>
      unfold gsCons at hg
      dsimp only at hg
      cases e1 : g j d Γ with
      | none => rw [e1] at hg; cases hg
      | some Γ1 =>
        rw [e1] at hg
        exact ⟨v, vs, rfl, O, ρ, Γ, j, d, Γ1, S, h, e1, fun σ1 o1 S1 => ⟨O, ρ, Γ1, j, ds, Γ', S1, r, hg, fun σ2 o2 => q σ2 ((o1.more fun k z => List.mem_append_left _ z).trans (o2.more fun k z => List.mem_append_right _ z))⟩⟩
theorem mg_tup {es : List Expr} {k n : Nat} {ts : List Nat} {gs : J → List D → Gm → Option Gm} (hK : X.K = C.b.K) (hc : X.calm = true) (h : MGs C X es ts gs)
    (hn : (assignEach es X.env).length = n := by rfl) (hst : (assignEach es X.env).findIdx? (·.1) = none := by rfl) : MG C X (.Tuple es k pos) ts (gT n gs) :=
  PG.imp (pg_tup hc h hn hst) fun v σ H Q ⟨O, ρ, Γ, j, d, Γ', S, hd, hg, q⟩ => by
    cases d with
    | tup ds =>
      obtain ⟨a, xs, rfl, hs, hr⟩ := (Vw.of hd).tupSq
      have hg : (if ds.length = n then gs j ds Γ else none) = some Γ' := hg
      by_cases hl : ds.length = n
      · rw [if_pos hl] at hg
        exact ⟨a, xs, rfl, by rw [hK]; exact hs, by rw [hr.length]; exact hl, O, ρ, Γ, j, ds, Γ', S, hr, hg, q⟩
      · rw [if_neg hl] at hg; cases hg
    | _ => cases hg
def sAsg (me : Gm → J → R D) (g : J → D → Gm → Option Gm) : Gm → J → RS := fun Γ j => (me Γ j).bindS Γ fun d j => match g j d Γ with
  | some Γ' => .nx Γ' j
  | none => .bad
theorem ms_asg {tg : Expr} {ts : List Nat} {g : J → D → Gm → Option Gm} (he : ME C E X e me) (hg : MG C X tg ts g) (hs : swapsWithSole [tg] e pos.line X.env = pure false := by rfl) (hw : swappedStores [tg] e X.env = pure none := by rfl)
    (h1 : (assignEach [tg] X.env).map (·.2) = [assign tg X.env] := by rfl) : MS C E X (.Assign [tg] e pos) (sAsg me g) :=
  PS.imp (ps_asg he hg hs hw h1) fun Dn σ H ⟨O, ρ, Γ, j, S, h⟩ => ⟨O, ρ, Γ, j, S, Post.imp (PostS.of S h) fun d j1 ρ1 H1 k1 S1 q v hv => by
    cases e1 : g j1 d Γ with
    | none => rw [e1] at q; exact q.elim
    | some Γ' =>
      rw [e1] at q
      exact ⟨O, ρ1, Γ, j1, d, Γ', S1, hv, e1, fun σ' _ S' => q O ρ1 σ' H1 Step.refl S'⟩⟩
/-- x, y = a, b -/
def sPar (i k : Nat) (mr : Gm → J → R (List D)) : Gm → J → RS := fun Γ j => (mr Γ j).bindS Γ fun ds j => match ds with
  | [d, e] => .nx ((Γ.set i (some (.val d))).set k (some (.val e))) j
  | _ => .bad
theorem ms_par {a b : Expr} {mr : Gm → J → R (List D)} {i k : Nat} {x y : Str} {px py pt pt2 : Pos} {kt k2 : Nat} (hc : X.calm = true) (hN : X.N.Nodup) (hi : X.N[i]? = some x) (hj : X.N[k]? = some y) (hij : i ≠ k) (hx : X.env.scope.names.lookup x = some .local) (hy : X.env.scope.names.lookup y = some .local) (ha : MA C E X [a, b] mr)
    (hw : swappedStores [.Tuple [.Name x px, .Name y py] kt pt] (.Tuple [a, b] k2 pt2) X.env = pure (some [x, y]) := by rfl) (hs : swapsWithSole [.Tuple [.Name x px, .Name y py] kt pt] (.Tuple [a, b] k2 pt2) pos.line X.env = pure false := by rfl) :
    MS C E X (.Assign [.Tuple [.Name x px, .Name y py] kt pt] (.Tuple [a, b] k2 pt2) pos) (sPar i k mr) :=
  PS.imp (ps_par hc hN hi hj hij hx hy ha hw hs) fun Dn σ H ⟨O, ρ, Γ, j, S, h⟩ => ⟨O, ρ, Γ, j, S, Post.imp (PostS.of S h) fun ds j1 ρ1 H1 k1 S1 q vs hvs => by
    cases hvs with
    | nil => exact q.elim
    | cons h1 r1 =>
      cases r1 with
      | nil => exact q.elim
      | cons h2 r2 =>
        cases r2 with
        | cons _ _ => exact q.elim
        | nil => exact ⟨_, _, rfl, q O ρ1 _ H1 Step.refl ((S1.set h1).set h2)⟩⟩
end
end On

set_option Elab.async false
set_option linter.all false
set_option maxRecDepth 100000
set_option maxHeartbeats 2000000
set_option autoImplicit false
namespace On
open PySem PySem.Spec PyProof.Rows L2

/-! ### what is walked: a list of data -/
structure Yl (C : Ct) (P : List Addr → (Addr → Prop) → Hp → Prop) (I : It) (ds : List D) : Prop where
  go : ∀ (i : Nat) ρ B H, P ρ B H → i < ds.length → I.go i H
  yld : ∀ (i : Nat) ρ B H x H' d, P ρ B H → Trk B H → ds[i]? = some d → I.yld i H x H' → Ext H H' ∧ Den C.b ρ H' B x d
  stop : ∀ (i : Nat) ρ B H, P ρ B H → ds.length ≤ i → I.stop i H
  stay : ∀ ρ B H ρ' B' H', Step ρ B H ρ' B' H' → P ρ B H → P ρ' B' H'
abbrev MI (C : Ct) (E : WX) (X : Cx) (tg iter : Expr) (m : Gm → J → R (List D)) : Prop :=
  PI X tg iter fun σ H Rr => St0 C E m σ H fun O ds j' ρ' H' => ∀ I P, Yl C P I ds → P ρ' (Bo O ρ' j') H' → Rr I H'
section
variable {C : Ct} {E : WX} {X : Cx} {tg iter e : Expr} {pos : Pos}
theorem PI.imp {t t' : TI} (h : PI X tg iter t) (k : ∀ σ H Q, t' σ H Q → t σ H Q) : PI X tg iter t' := ⟨fun pins s σ H Q I q => h.run pins s σ H Q I (k σ H Q q)⟩
/-- a list, a tuple -/
theorem yl_list {K : PySem.W.Frag} (hK : K = C.b.K) {a : Addr} {ds : List D} : Yl C (fun ρ B H => Den C.b ρ H B (.ref a) (.lst ds)) (Itl K a) ds where
  go := fun i ρ B H h hi => by
    obtain ⟨b, xs, e, hs, r⟩ := (Vw.of h).lstSq
    cases e
    have hl := r.length
    exact ⟨xs, xs[i]'(by omega), by rw [hK]; exact hs, List.getElem?_eq_getElem _⟩
  yld := fun i ρ B H x H' d h _ hd y => by
    obtain ⟨b, xs, e, hs, r⟩ := (Vw.of h).lstSq
    cases e
    obtain ⟨e, y⟩ := y
    subst e
    obtain ⟨v, hv, hr⟩ := r.get hd
    have := y xs (by rw [hK]; exact hs)
    rw [hv] at this
    cases this
    exact ⟨Ext.refl, hr⟩
  stop := fun i ρ B H h hi => by
    obtain ⟨b, xs, e, hs, r⟩ := (Vw.of h).lstSq
    cases e
    exact ⟨xs, by rw [hK]; exact hs, by rw [r.length]; exact hi⟩
  stay := fun ρ B H ρ' B' H' p h => p.den h
theorem yl_tup {K : PySem.W.Frag} (hK : K = C.b.K) {a : Addr} {ds : List D} : Yl C (fun ρ B H => Den C.b ρ H B (.ref a) (.tup ds)) (Itt K a) ds where
  go := fun i ρ B H h hi => by
    obtain ⟨b, xs, e, hs, r⟩ := (Vw.of h).tupSq
    cases e
    have hl := r.length
    exact ⟨xs, xs[i]'(by omega), by rw [hK]; exact hs, List.getElem?_eq_getElem _⟩
  yld := fun i ρ B H x H' d h _ hd y => by
    obtain ⟨b, xs, e, hs, r⟩ := (Vw.of h).tupSq
    cases e
    obtain ⟨e, y⟩ := y
    subst e
    obtain ⟨v, hv, hr⟩ := r.get hd
    have := y xs (by rw [hK]; exact hs)
    rw [hv] at this
    cases this
    exact ⟨Ext.refl, hr⟩
  stop := fun i ρ B H h hi => by
    obtain ⟨b, xs, e, hs, r⟩ := (Vw.of h).tupSq
    cases e
    exact ⟨xs, by rw [hK]; exact hs, by rw [r.length]; exact hi⟩
  stay := fun ρ B H ρ' B' H' p h => p.den h
/-- a list or a tuple -/
def iSeq (K : PySem.W.Frag) (tl : TE) : TI := fun σ H R => tl σ H fun x H1 => ∃ a, x = .ref a ∧ (((∃ xs, SqL K H1 a xs) ∧ R (Itl K a) H1) ∨ ((∃ xs, SqT K H1 a xs) ∧ R (Itt K a) H1))
theorem pi_seq {l : Expr} {tl : TE} (hl : PE X l tl) : PI X tg l (iSeq X.K tl) := by
  refine ⟨fun pins s σ H R I h => ?_⟩
  refine thn (hl.run pins s σ H _ I h) fun v s1 ⟨x, H1, I1, r1, q1⟩ => ?_
  obtain ⟨a, e, q1⟩ := q1
  subst e
  cases r1
  rcases q1 with ⟨⟨xs, hq⟩, q⟩ | ⟨⟨xs, hq⟩, q⟩
  · obtain ⟨its, rv, p, hz⟩ := I1.list hq
    refine wpAny_pyIter_list p.isList ?_
    refine ⟨s1.heap.objs.size, [s1.heap.objs.size], _, _, H1, rfl, I1.kept (t' := s1.toks) fun b o e => Heap.get?_push_of_some _ e, turn_list a _, ⟨_, Heap.get?_push_size _ rfl, rfl, rfl⟩, fun b hb => ?_, q⟩
    have e : b = s1.heap.objs.size := by simpa using hb
    subst e
    exact I1.fpOk (Nat.le_refl _) (I1.hok.fresh (Nat.le_refl _))
  · obtain ⟨its, rv, p, hz⟩ := I1.tuple hq
    refine wpAny_pyIter_tuple (show s1.heap.IsTuple a its.toArray from p) ?_
    refine ⟨s1.heap.objs.size, [s1.heap.objs.size], _, _, H1, rfl, I1.kept (t' := s1.toks) fun b o e => Heap.get?_push_of_some _ e, turn_tuple a _, ⟨_, Heap.get?_push_size _ rfl, rfl, rfl⟩, fun b hb => ?_, q⟩
    have e : b = s1.heap.objs.size := by simpa using hb
    subst e
    exact I1.fpOk (Nat.le_refl _) (I1.hok.fresh (Nat.le_refl _))
def seqOf : D → Option (List D)
  | .lst ds => some ds
  | .tup ds => some ds
  | _ => none
def iS (me : Gm → J → R D) : Gm → J → R (List D) := fun Γ j => (me Γ j).bind fun d j => lift (seqOf d) j
theorem mi_seq {me : Gm → J → R D} (hK : X.K = C.b.K) (he : ME C E X iter me) : MI C E X tg iter (iS me) :=
  PI.imp (pi_seq he) fun σ H Rr ⟨O, ρ, Γ, j, S, h⟩ => ⟨O, ρ, Γ, j, S, Post.imp (Post.bind S h) fun d j1 ρ1 H1 k1 S1 q v hv => by
    cases d with
    | lst ds =>
      have hv' := hv
      obtain ⟨a, xs, rfl, hs, r⟩ := (Vw.of hv).lstSq
      exact ⟨a, rfl, .inl ⟨⟨xs, by rw [hK]; exact hs⟩, Post.now S1 q _ _ (yl_list hK) hv'⟩⟩
    | tup ds =>
      have hv' := hv
      obtain ⟨a, xs, rfl, hs, r⟩ := (Vw.of hv).tupSq
      exact ⟨a, rfl, .inr ⟨⟨xs, by rw [hK]; exact hs⟩, Post.now S1 q _ _ (yl_tup hK) hv'⟩⟩
    | _ => exact q.elim⟩
/-- range -/
def rangeD (lo : Int) (n : Nat) : List D := (List.range n).map fun (i : Nat) => .int (lo + i)
theorem rangeD_get {lo : Int} {n i : Nat} {d : D} (h : (rangeD lo n)[i]? = some d) : i < n ∧ d = .int (lo + i) := by
  unfold rangeD at h
  rw [List.getElem?_map] at h
  by_cases hi : i < n
  · rw [List.getElem?_range hi] at h
    cases h
    exact ⟨hi, rfl⟩
  · rw [List.getElem?_eq_none (by simpa using hi)] at h
    cases h
theorem yl_range {lo : Int} {n : Nat} : Yl C (fun _ _ _ => True) (Itr lo n) (rangeD lo n) where
  go := fun i ρ B H _ h => by
    have h : i < n := by simpa [rangeD] using h
    exact h
  yld := fun i ρ B H x H' d _ _ h y => by
    obtain ⟨e, rfl⟩ := y
    subst e
    obtain ⟨_, rfl⟩ := rangeD_get h
    exact ⟨Ext.refl, .int _⟩
  stop := fun i ρ B H _ h => by
    have h : n ≤ i := by simpa [rangeD] using h
    exact h
  stay := fun _ _ _ _ _ _ _ _ => trivial
def rng1 : List D → Option (List D)
  | [.int n] => if -(2 ^ 62) ≤ n ∧ n < 2 ^ 62 then some (rangeD 0 n.toNat) else none
  | _ => none
def rng2 : List D → Option (List D)
  | [.int m, .int n] => if -(2 ^ 62) ≤ m ∧ m < 2 ^ 62 ∧ -(2 ^ 62) ≤ n ∧ n < 2 ^ 62 then some (rangeD m (n - m).toNat) else none
  | _ => none
def iR (f : List D → Option (List D)) (ma : Gm → J → R (List D)) : Gm → J → R (List D) := fun Γ j => (ma Γ j).bind fun ds j => lift (f ds) j
theorem mi_range1 {a : Expr} {ma : Gm → J → R (List D)} {p : Pos} (hg : Gl X "range") (hm : X.mg "range" = none) (ha : MA C E X [a] ma) (hs : starEach [a] X.env = [(false, eval a X.env)] := by rfl) : MI C E X tg (.Call (.Name "range" p) [a] [] pos) (iR rng1 ma) :=
  PI.imp (pi_range1 hg hm ha hs) fun σ H Rr ⟨O, ρ, Γ, j, S, h⟩ => ⟨O, ρ, Γ, j, S, Post.imp (Post.bind S h) fun ds j1 ρ1 H1 k1 S1 q vs hvs => by
    unfold rng1 at q
    split at q
    · rename_i n
      cases hvs with
      | cons h r =>
        cases r
        cases h
        by_cases c : -(2 ^ 62) ≤ n ∧ n < 2 ^ 62
        · rw [if_pos c] at q
          exact ⟨n, rfl, c.1, c.2, Post.now S1 q _ _ yl_range trivial⟩
        · rw [if_neg c] at q
          exact q.elim
    · exact q.elim⟩
theorem mi_range2 {a b : Expr} {ma : Gm → J → R (List D)} {p : Pos} (hg : Gl X "range") (hm : X.mg "range" = none) (ha : MA C E X [a, b] ma) (hs : starEach [a, b] X.env = [(false, eval a X.env), (false, eval b X.env)] := by rfl) (hs2 : starEach [b] X.env = [(false, eval b X.env)] := by rfl) :
    MI C E X tg (.Call (.Name "range" p) [a, b] [] pos) (iR rng2 ma) :=
  PI.imp (pi_range2 hg hm ha hs hs2) fun σ H Rr ⟨O, ρ, Γ, j, S, h⟩ => ⟨O, ρ, Γ, j, S, Post.imp (Post.bind S h) fun ds j1 ρ1 H1 k1 S1 q vs hvs => by
    unfold rng2 at q
    split at q
    · rename_i m n
      cases hvs with
      | cons h r =>
        cases r with
        | cons h' r =>
          cases r
          cases h
          cases h'
          by_cases c : -(2 ^ 62) ≤ m ∧ m < 2 ^ 62 ∧ -(2 ^ 62) ≤ n ∧ n < 2 ^ 62
          · rw [if_pos c] at q
            exact ⟨m, n, rfl, c, Post.now S1 q _ _ yl_range trivial⟩
          · rw [if_neg c] at q
            exact q.elim
    · exact q.elim⟩

/-! ### for -/
def loopD (g : J → D → Gm → Option Gm) (mb : Gm → J → RS) : List D → Gm → J → RS
  | [], Γ, j => .nx Γ j
  | d :: ds, Γ, j => match g j d Γ with
    | none => .bad
    | some Γ1 => match mb Γ1 j with
      | .nx Γ' j' => loopD g mb ds Γ' j'
      | .cont Γ' j' => loopD g mb ds Γ' j'
      | .brk Γ' j' => .nx Γ' j'
      | .ret d j' => .ret d j'
      | .exc c fs Γ' j' => .exc c fs Γ' j'
      | .bad => .bad
def sFor (mi : Gm → J → R (List D)) (g : J → D → Gm → Option Gm) (mb : Gm → J → RS) : Gm → J → RS := fun Γ j => (mi Γ j).bindS Γ fun ds j => loopD g mb ds Γ j
theorem drop_get {α : Type} {l : List α} {i : Nat} (h : i < l.length) : l.drop i = l[i] :: l.drop (i + 1) := List.drop_eq_getElem_cons h
theorem ms_for {body : List Stmt} {ts : List Nat} {mi : Gm → J → R (List D)} {g : J → D → Gm → Option Gm} {mb : Gm → J → RS} (hp : PassesOwn (model X.prog X.w) X.A X.env X.xe) (hc : X.calm = true) (hi : MI C E X tg iter mi) (hg : MG C X tg ts g) (hb : MB C E X body mb)
    (hs : ∀ x, foldedSetIterable iter X.env x = pure x := by intro _; rfl) : MS C E X (.For tg iter body [] pos) (sFor mi g mb) :=
  PS.imp (ps_for hp hc hi hg hb hs) fun Dn σ H ⟨O, ρ, Γ, j, S, h⟩ => ⟨O, ρ, Γ, j, S, Post.imp (PostS.of S h) fun ds j1 ρ1 H1 k1 S1 q I P Y hP => by
    refine ⟨fun i m σ2 H2 => m = ds.length - i ∧ i ≤ ds.length ∧ ∃ O2 ρ2 Γ2 j2, Sok C O2 ρ2 σ2 H2 Γ2 j2 ∧ P ρ2 (Bo O2 ρ2 j2) H2 ∧ PostS C E ρ2 (Bo O2 ρ2 j2) H2 (loopD g mb (ds.drop i) Γ2 j2) Dn, ⟨ds.length, by simp, Nat.zero_le _, O, ρ1, Γ, j1, S1, hP, q⟩, ?_⟩
    rintro i m σ2 H2 ⟨rfl, hi, O2, ρ2, Γ2, j2, S2, hP2, q2⟩
    by_cases hlt : i < ds.length
    · refine .inr ⟨Y.go i ρ2 _ H2 hP2 hlt, fun σ' H' => i + 1 ≤ ds.length ∧ ∃ O2 ρ2 Γ2 j2, Sok C O2 ρ2 σ' H' Γ2 j2 ∧ P ρ2 (Bo O2 ρ2 j2) H' ∧ PostS C E ρ2 (Bo O2 ρ2 j2) H' (loopD g mb (ds.drop (i + 1)) Γ2 j2) Dn, fun σ' H' z => ⟨ds.length - (i + 1), by omega, rfl, z.1, z.2⟩, fun x H3 y => ?_⟩
      obtain ⟨x3, d3⟩ := Y.yld i ρ2 _ H2 x H3 _ hP2 S2.trkB (List.getElem?_eq_getElem hlt) y
      have st3 : Step ρ2 (Bo O2 ρ2 j2) H2 ρ2 (Bo O2 ρ2 j2) H3 := ⟨x3.pres, fun _ z => .inl z, Pfx.refl⟩
      rw [drop_get hlt] at q2
      unfold loopD at q2
      cases e1 : g j2 ds[i] Γ2 with
      | none => rw [e1] at q2; exact q2.elim
      | some Γ3 =>
        rw [e1] at q2
        dsimp only at q2
        have S3 := S2.ext x3
        refine ⟨O2, ρ2, Γ2, j2, ds[i], Γ3, S3, d3, e1, fun σ3 _ S3' => ⟨O2, ρ2, Γ3, j2, S3', ?_⟩⟩
        have q3 := PostS.shift st3 q2
        have P3 := Y.stay _ _ _ _ _ _ st3 hP2
        revert q3
        generalize mb Γ3 j2 = r
        intro q3
        cases r with
        | nx Γ' j' => exact fun O' ρ' σ' H' p S' => ⟨hlt, O', ρ', Γ', j', S', Y.stay _ _ _ _ _ _ p P3, PostS.shift p q3⟩
        | cont Γ' j' => exact fun O' ρ' σ' H' p S' => ⟨hlt, O', ρ', Γ', j', S', Y.stay _ _ _ _ _ _ p P3, PostS.shift p q3⟩
        | brk Γ' j' => exact q3
        | ret d j' => exact q3
        | exc c fs Γ' j' => exact q3
        | bad => exact q3
    · have e : i = ds.length := by omega
      subst e
      rw [List.drop_length] at q2
      exact .inl ⟨Y.stop _ ρ2 _ H2 hP2 (Nat.le_refl _), q2 O2 ρ2 σ2 H2 Step.refl S2⟩⟩
end
end On

set_option Elab.async false
set_option linter.all false
set_option maxRecDepth 100000
set_option maxHeartbeats 2000000
set_option autoImplicit false
namespace On
open PySem PySem.Spec PyProof.Rows L2

/-! ### a def's promise, where nothing is being shown (no repr is under way): then repr of containers is known -/
structure FnG (P : Program) (w : World) (K : PySem.W.Frag) (mg : Str → Option Value) (base : Heap) (CX : CXT) (k : Nat) (f : Addr) (fd : FuncData) (ps : List Str) (sp : Sp) : Prop where
  len : ∀ vs H Q E, sp vs H Q E → vs.length = ps.length
  run : ∀ (A : Around) (outer : List Env) (s : Shared) (H : Hp) (args : Args) (us : List Value) (vs : List V) (Q : VK) (E : XK), Room k A → A.guards = some [] → Env0 P w K mg base A outer s H → BindsTo s fd args (ps.zip us) → Vals vs us → sp vs H Q E →
    codeAny (model P w) A (.call (.ref f) args) (CR CX outer P w H s Q E) s
section
variable {P : Program} {w : World} {K : PySem.W.Frag} {mg : Str → Option Value} {base : Heap} {CX : CXT} {k : Nat} {f : Addr} {fd : FuncData} {ps : List Str} {sp : Sp}
theorem FnG.of (F : FnOk P w K mg base CX k f fd ps sp) : FnG P w K mg base CX k f fd ps sp := ⟨F.len, fun A outer s H args us vs Q E hr _ => F.run A outer s H args us vs Q E hr⟩
theorem FnG.mono {j : Nat} (F : FnG P w K mg base CX j f fd ps sp) (h : j ≤ k) : FnG P w K mg base CX k f fd ps sp := ⟨F.len, fun A outer s H args us vs Q E hr => F.run A outer s H args us vs Q E (hr.mono h)⟩
theorem FnG.imp {sp' : Sp} (F : FnG P w K mg base CX k f fd ps sp) (h : ∀ vs H Q E, sp' vs H Q E → sp vs H Q E) : FnG P w K mg base CX k f fd ps sp' :=
  ⟨fun vs H Q E q => F.len vs H Q E (h _ _ _ _ q), fun A outer s H args us vs Q E hr hg he hb hv hs => F.run A outer s H args us vs Q E hr hg he hb hv (h _ _ _ _ hs)⟩
theorem fnG_of {x qual : Str} {params : Arguments} {body : List Stmt} {scope : Scope} {dvs : List V} {kws : List (Str × V)} {N : List Str} (F : FunD K x qual params body scope dvs kws f fd) (S : FnScope N ps scope) (len : ∀ vs H Q E, sp vs H Q E → vs.length = ps.length)
    (hbody : ∀ (cdv : Value), fd.code = cdv → ∀ (A : Around) (outer : List Env) (s : Shared) (H : Hp) (vs : List V) (Q : VK) (E : XK), Room k (A.deeper (envOfC qual scope s.heap.objs.size f cdv)) → (A.deeper (envOfC qual scope s.heap.objs.size f cdv)).guards = some [] → sp vs H Q E →
      ∃ t, PSs (cxOf CX P w K mg base N qual scope f cdv A outer s H E) body t ∧ t { nx := fun _ H' => Q .non H', rt := Q } (L2.start N vs) H) : FnG P w K mg base CX (k + 1) f fd ps sp := by
  obtain ⟨oc, od, dV, kV, doc, pm, an, cdv, ct, osl, rfl, lk, hcd, _, _⟩ := F.ex
  refine ⟨len, fun A outer s H args us vs Q E hr hg e0 hb r hsp => ?_⟩
  have hl := len _ _ _ _ hsp
  have kp : ∀ b o, base.get? b = some o → s.heap.get? b = some o := fun b o e => (e0.bs b o e).1
  have KX : K.In s.heap := e0.mod.kin.keeps kp
  refine codeAny_call_function hr.depth (KX _ _ lk) rfl S.co S.gen rfl (PySem.W.codeRec_of KX hcd) (hb _ _ _ _ (wpAny_newFunctionEnv_cells S.kind (fun y hy => ?_) fun env he s1 x => ?_))
  · rcases S.par y.1 (List.of_mem_zip hy).1 with q | q
    · exact .inl q
    · exact .inr ⟨q, PySem.W.cellsFrom_some _ _ _ (.inl q)⟩
  · subst he
    refine ⟨(e0.mod.nolimit.keeps kp).keeps x.toInCall.keep, codeAny_func ?_⟩
    obtain ⟨t, ht, hq⟩ := hbody cdv rfl A outer s H vs Q E (hr.deeper _) hg hsp
    have I : Inv (cxOf CX P w K mg base N qual scope f cdv A outer s H E) [] (L2.start N vs) H s1 := inv_start S hr.hd e0 hl r x
    refine wpAny_mono (ht.run [] s1 (L2.start N vs) H _ I hq) (fun fl s' hs => ?_) fun e s' hs => hs
    cases fl with
    | ret u => obtain ⟨v, σ', H', J, rv, q⟩ := hs; exact ⟨v, H', J.os, J.bare, J.base, J.hok, rv, q⟩
    | next => obtain ⟨σ', H', J, q⟩ := hs; exact ⟨V.non, H', J.os, J.bare, J.base, J.hok, rfl, q⟩
    | brk => obtain ⟨_, _, _, q⟩ := hs; exact False.elim q
    | cont => obtain ⟨_, _, _, q⟩ := hs; exact False.elim q
end
section
variable {X : Cx} {CX : CXT} {k : Nat} {f : Addr} {fd : FuncData} {ps : List Str} {sp : Sp} {E : L2.St → XK} {x : Str} {p pos : Pos} {e : Expr} {es : List Expr} {t : TA}
theorem run_G {pins : List (Addr × Obj)} {σ : L2.St} {H : Hp} {s : Shared} {Q : VK} {us : List Value} {vs : List V} (F : FnG X.prog X.w X.K X.mg X.base CX k f fd ps sp) (hr : Room k X.A) (hgd : X.A.guards = some []) (hb : Binds X.K fd ps []) (hx : PassesAt CX X σ (E σ))
    (I : Inv X pins σ H s) (r : Vals vs us) (h : sp vs H Q (E σ)) : wpAny (model X.prog X.w) X.A (call (.ref f) us) (EP X pins σ Q) X.xe s := by
  have hl : (us ++ ([] : List Value)).length = ps.length := by rw [List.append_nil, ← r.length]; exact F.len _ _ _ _ h
  have bd := hb s us I.kIn hl
  rw [List.append_nil] at bd
  refine wpAny_call (codeAny_mono (F.run X.A X.stack s H ⟨us, []⟩ us vs Q (E σ) hr hgd I.env0 bd r h) fun r s' hq => ?_)
  cases r with
  | error e => exact hx pins H s e s' I hq
  | ok fl =>
    cases fl with
    | ret u => exact I.after hq
    | next => exact False.elim hq
    | brk => exact False.elim hq
    | cont => exact False.elim hq
theorem pe_callG (F : FnG X.prog X.w X.K X.mg X.base CX k f fd ps sp) (hr : Room k X.A) (hgd : X.A.guards = some []) (hg : Gl X x) (hm : X.mg x = some (.ref f)) (hk : PySem.W.keepIn X.K (.ref f) = true) (hb : Binds X.K fd ps []) (hx : ∀ σ, PassesAt CX X σ (E σ))
    (ha : PA X (e :: es) t) (hdb : (x == ("__debug__" : Str)) = false := by decide) (he : starEach (e :: es) X.env = (false, eval e X.env) :: starEach es X.env := by rfl) (hpl : (backTo pos (starEach es X.env)).any (·.1) = false := by rfl) :
    PE X (.Call (.Name x p) (e :: es) [] pos) (tCallS sp E t) :=
  ⟨fun pins s σ H Q I h => wpAny_Call_Name_kw (ld_glob I hg hm (PySem.W.callWith_K (h₀ := X.base) I.ok.mod.kin hk (thn (ha.run pos pins s σ H _ I h) fun us s1 ⟨vs, H1, I1, r, q⟩ => ⟨I1.kIn, run_G (E := E) F hr hgd hb (hx σ) I1 r q⟩) he hpl) hdb)⟩
theorem pe_callG0 (F : FnG X.prog X.w X.K X.mg X.base CX k f fd ps sp) (hr : Room k X.A) (hgd : X.A.guards = some []) (hg : Gl X x) (hm : X.mg x = some (.ref f)) (hk : PySem.W.keepIn X.K (.ref f) = true) (hb : Binds X.K fd ps []) (hx : ∀ σ, PassesAt CX X σ (E σ))
    (hdb : (x == ("__debug__" : Str)) = false := by decide) : PE X (.Call (.Name x p) [] [] pos) (tCallS sp E tNil) :=
  ⟨fun pins s σ H Q I h => wpAny_Call_Name_kw (ld_glob I hg hm (PySem.W.callWith_K0 I.kIn hk (run_G (us := []) (E := E) F hr hgd hb (hx σ) I .nil h)) hdb)⟩
end

/-! ### what a def promises -/
/-- it hands back what g tells of its arguments and the store -/
def spG (C : Cb) (g : List D → J → R D) : Sp := fun vs H Q E => ∃ (O : Addr → Prop) (ρ : List Addr) (j : J) (ds : List D), Sto C O ρ H j ∧ DenA C ρ H (Bo O ρ j) vs ds ∧ (match g ds j with
  | .ok d j' => ∀ v ρ' H', Kp ρ j H ρ' j' H' → Sto C O ρ' H' j' → Den C ρ' H' (Bo O ρ' j') v d → Q v H'
  | .exc c fs j' => ∀ x us ρ' H', Kp ρ j H ρ' j' H' → Sto C O ρ' H' j' → H' x = some (.xd us) → ¬ Bo O ρ' j' x → DenF C ρ' H' (Bo O ρ' j') us fs → E (.ref (C.cm c)) (some x) H'
  | .bad => False)
/-- the heap without a -/
def er (H : Hp) (a : Addr) : Hp := fun b => if b = a then none else H b
theorem er_self {H : Hp} {a : Addr} : er H a a = none := if_pos rfl
theorem er_ne {H : Hp} {a b : Addr} (h : b ≠ a) : er H a b = H b := if_neg h
theorem er_some {H : Hp} {a b : Addr} {o : HO} (h : er H a b = some o) : H b = some o := by
  by_cases e : b = a
  · rw [e, er_self] at h; cases h
  · rw [er_ne e] at h; exact h
/-- an __init__: its first argument is a new thing of the class c, without fields; it leaves the fields that g tells -/
def spI (C : Cb) (c : Nat) (g : List D → J → R (List (Str × D))) : Sp := fun vs H Q E => ∃ (O : Addr → Prop) (ρ : List Addr) (j : J) (a dx : Addr) (vr : List V) (ds : List D), vs = .ref a :: vr ∧ H a = some (.ins (C.cm c) dx []) ∧ a ∉ ρ ∧ O a ∧ Sto C O ρ H j ∧ DenA C ρ H (Bo O ρ j) vr ds ∧ (match g ds j with
  | .ok fs j' => ∀ ρ' H' dx' us, Kp ρ j (er H a) ρ' j' H' → Sto C O ρ' H' j' → a ∉ ρ' → H' a = some (.ins (C.cm c) dx' us) → DenF C ρ' H' (Bo O ρ' j') us fs → Q .non H'
  | .exc c fs j' => ∀ x us ρ' H', Kp ρ j (er H a) ρ' j' H' → Sto C (fun b => O b ∧ b ≠ a) ρ' H' j' → H' x = some (.xd us) → ¬ Bo (fun b => O b ∧ b ≠ a) ρ' j' x → DenF C ρ' H' (Bo (fun b => O b ∧ b ≠ a) ρ' j') us fs → E (.ref (C.cm c)) (some x) H'
  | .bad => False)
def startG (N : List Str) (cs : List Cell) : Gm := cs.map some ++ List.replicate (N.length - cs.length) none
def outF : RS → R D
  | .nx _ j => .ok .non j
  | .ret d j => .ok d j
  | .exc c fs _ j => .exc c fs j
  | _ => .bad
def outI (c : Nat) : RS → R (List (Str × D))
  | .nx Γ j => (match Γ[(0 : Nat)]? with
    | some (some (Cell.own (D.ins c' fs))) => if c' = c then .ok fs j else .bad
    | _ => .bad)
  | .exc c fs _ j => .exc c fs j
  | _ => .bad
/-- the mirror of a def by its body's -/
def defOf (N : List Str) (n : Nat) (m : Gm → J → RS) : List D → J → R D := fun ds j => if ds.length = n then outF (m (startG N (ds.map .val)) j) else .bad
def initOf (N : List Str) (n c : Nat) (m : Gm → J → RS) : List D → J → R (List (Str × D)) := fun ds j => if ds.length + 1 = n then outI c (m (startG N (.own (.ins c []) :: ds.map .val)) j) else .bad
theorem startG_get {N : List Str} {cs : List Cell} {i : Nat} {c : Cell} (h : (startG N cs)[i]? = some (some c)) : cs[i]? = some c := by
  unfold startG at h
  by_cases hi : i < cs.length
  · rw [List.getElem?_append_left (by simpa using hi), List.getElem?_map] at h
    cases e : cs[i]? with
    | none => rw [e] at h; cases h
    | some d => rw [e] at h; cases h; rfl
  · rw [List.getElem?_append_right (by simpa using Nat.le_of_not_lt hi)] at h
    rw [List.getElem?_replicate] at h
    split at h <;> cases h
theorem start_get {N : List Str} {vs : List V} {i : Nat} {v : V} (h : vs[i]? = some v) : (L2.start N vs)[i]? = some (some v) := by
  unfold L2.start
  have hi : i < vs.length := (List.getElem?_eq_some_iff.mp h).1
  rw [List.getElem?_append_left (by simpa using hi), List.getElem?_map, h]
  rfl
theorem map_val_get {ds : List D} {i : Nat} {c : Cell} (h : (ds.map Cell.val)[i]? = some c) : ∃ d, c = .val d ∧ ds[i]? = some d := by
  rw [List.getElem?_map] at h
  cases e : ds[i]? with
  | none => rw [e] at h; cases h
  | some d => rw [e] at h; cases h; exact ⟨d, rfl, rfl⟩
section
variable {P : Program} {w : World} {mg : Str → Option Value} {base : Heap} {C : Cb} {x qual : Str} {params : Arguments} {body : List Stmt} {scope : Scope} {dvs : List V} {kws : List (Str × V)} {f : Addr} {fd : FuncData} {N ps : List Str} {k : Nat} {m : Gm → J → RS}
theorem sok_start {O : Addr → Prop} {ρ : List Addr} {j : J} {H : Hp} {vs : List V} {ds : List D} (hs : Sto C O ρ H j) (r : DenA C ρ H (Bo O ρ j) vs ds) : Sok ⟨C, H, ρ, j, O, none⟩ O ρ (L2.start N vs) H (startG N (ds.map .val)) j where
  st := hs
  len := by
    have := r.length
    simp [startG, L2.start, this]
  pre := Pfx.refl
  ex := fun a o _ _ h => h
  ext0 := fun a ps h => ⟨ps, h⟩
  onew := fun a h => .inl h
  b0 := fun a h => h
  new := fun a h => .inl h
  rnw := fun a h => .inl h
  slot := fun i c h => by
    obtain ⟨d, rfl, hd⟩ := map_val_get (startG_get h)
    obtain ⟨v, hv, hr⟩ := r.get hd
    exact ⟨v, start_get hv, hr⟩
  dist := fun i k ds es a h1 => by
    obtain ⟨d, e, _⟩ := map_val_get (startG_get h1)
    cases e
  b00 := hs.trk
abbrev EX (E : XK) : WX := fun cls d _ H => E cls d H
theorem Sto.less {O O' : Addr → Prop} {ρ : List Addr} {H : Hp} {j : J} (S : Sto C O ρ H j) (h : ∀ a, O' a → O a) : Sto C O' ρ H j where
  trk := fun a z => S.trk a (h a z)
  tab := S.tab
  rtr := S.rtr
  rl := S.rl
  nd := S.nd
  sto := fun n d e => let ⟨a, ea, q⟩ := S.sto n d e; ⟨a, ea, q.map (fun _ _ z => z) fun _ _ r => r.less fun b z => .inl (z.imp (h b) id)⟩
theorem Sok.out {Ct : Ct} {O : Addr → Prop} {ρ : List Addr} {σ : L2.St} {H : Hp} {Γ : Gm} {j : J} (S : Sok Ct O ρ σ H Γ j) : Kp Ct.ρ0 Ct.J0 Ct.H0 ρ j H ∧ Sto Ct.b Ct.O0 ρ H j := ⟨⟨S.ex, S.ext0, S.new, S.rnw, S.pre⟩, S.st.less S.b0⟩

theorem sok_startI {O : Addr → Prop} {ρ : List Addr} {j : J} {H : Hp} {a dx : Addr} {c : Nat} {vs : List V} {ds : List D} (hs : Sto C O ρ H j) (ha : H a = some (.ins (C.cm c) dx [])) (na : a ∉ ρ) (hO : O a) (r : DenA C ρ H (Bo O ρ j) vs ds) :
    Sok ⟨C, er H a, ρ, j, fun b => O b ∧ b ≠ a, some a⟩ O ρ (L2.start N (.ref a :: vs)) H (startG N (.own (.ins c []) :: ds.map .val)) j where
  st := hs
  len := by
    have := r.length
    simp [startG, L2.start, this]
  pre := Pfx.refl
  ex := fun b o _ _ h => er_some h
  ext0 := fun b ps h => ⟨ps, er_some h⟩
  onew := fun b h => by
    by_cases e : b = a
    · exact .inr (by rw [e]; exact er_self)
    · exact .inl ⟨h, e⟩
  b0 := fun b h => h.1
  new := fun b h => .inl h
  rnw := fun b h => .inl h
  slot := fun i c h => by
    have h := startG_get h
    cases i with
    | zero => cases h; exact ⟨a, start_get rfl, hO, er_self, na, fun _ _ _ => rfl, dx, [], ha, .nil⟩
    | succ i =>
      obtain ⟨d, rfl, hd⟩ := map_val_get (show (ds.map Cell.val)[i]? = some c from h)
      obtain ⟨v, hv, hr⟩ := r.get hd
      exact ⟨v, start_get (show (V.ref a :: vs)[i + 1]? = some v from hv), hr⟩
  dist := fun i k ds' es a' h1 h2 _ _ => by
    have h1 := startG_get h1
    have h2 := startG_get h2
    cases i with
    | zero =>
      cases k with
      | zero => rfl
      | succ k =>
        obtain ⟨d, e, _⟩ := map_val_get (show (ds.map Cell.val)[k]? = some _ from h2)
        cases e
    | succ i =>
      obtain ⟨d, e, _⟩ := map_val_get (show (ds.map Cell.val)[i]? = some _ from h1)
      cases e
  b00 := fun b z => by
    obtain ⟨o, e⟩ := hs.trk b z.1
    exact ⟨o, (er_ne z.2).trans e⟩
/-- THE RULE for a def -/
theorem okG (F : FunD C.K x qual params body scope dvs kws f fd) (S : FnScope N ps scope)
    (hbody : ∀ (cdv : Value), fd.code = cdv → ∀ (A : Around) (outer : List Env) (s : Shared) (H : Hp) (Ct : Ct) (E : XK), Ct.b = C → Room k (A.deeper (envOfC qual scope s.heap.objs.size f cdv)) → (A.deeper (envOfC qual scope s.heap.objs.size f cdv)).guards = some [] →
      MB Ct (EX E) (cxOf (L2.CX P w) P w C.K mg base N qual scope f cdv A outer s H E) body m) : FnG P w C.K mg base (L2.CX P w) (k + 1) f fd ps (spG C (defOf N ps.length m)) := by
  refine fnG_of F S (fun vs H Q E h => ?_) (fun cdv hcdv A outer s H vs Q E hr hgd h => ?_)
  · obtain ⟨O, ρ, j, ds, hs, r, q⟩ := h
    by_cases hl : ds.length = ps.length
    · rw [r.length, hl]
    · unfold defOf at q
      rw [if_neg hl] at q
      exact q.elim
  · obtain ⟨O, ρ, j, ds, hs, r, q⟩ := h
    refine ⟨_, hbody cdv hcdv A outer s H ⟨C, H, ρ, j, O, none⟩ E rfl hr hgd, ?_⟩
    by_cases hl : ds.length = ps.length
    · unfold defOf at q
      rw [if_pos hl] at q
      refine ⟨O, ρ, _, j, sok_start hs r, ?_⟩
      revert q
      generalize m (startG N (ds.map .val)) j = r
      intro q
      have le : ∀ {O' : Addr → Prop} {ρ' : List Addr} {σ' : L2.St} {H' : Hp} {Γ' : Gm} {j' : J}, Sok ⟨C, H, ρ, j, O, none⟩ O' ρ' σ' H' Γ' j' → ∀ a, Bo O ρ' j' a → Bo O' ρ' j' a ∨ H' a = none := fun S a z => .inl (z.imp (S.b0 a) id)
      cases r with
      | nx Γ j' => exact fun O' ρ' σ' H' p S' => q .non ρ' H' S'.out.1 S'.out.2 .non
      | ret d j' => exact fun O' ρ' σ' H' Γ v p S' hv => q v ρ' H' S'.out.1 S'.out.2 (hv.less (le S'))
      | brk Γ j => exact q.elim
      | cont Γ j => exact q.elim
      | exc c fs Γ j => exact fun O' ρ' σ' H' x vs p S' hx hn hf => q x vs ρ' H' S'.out.1 S'.out.2 hx (fun z => hn (z.imp (S'.b0 x) id)) (hf.less (le S'))
      | bad => exact q.elim
    · unfold defOf at q
      rw [if_neg hl] at q
      exact q.elim
/-- THE RULE for an __init__ -/
theorem okI {c : Nat} (F : FunD C.K x qual params body scope dvs kws f fd) (S : FnScope N ps scope)
    (hbody : ∀ (cdv : Value), fd.code = cdv → ∀ (A : Around) (outer : List Env) (s : Shared) (H : Hp) (Ct : Ct) (E : XK), Ct.b = C → Room k (A.deeper (envOfC qual scope s.heap.objs.size f cdv)) → (A.deeper (envOfC qual scope s.heap.objs.size f cdv)).guards = some [] →
      MB Ct (EX E) (cxOf (L2.CX P w) P w C.K mg base N qual scope f cdv A outer s H E) body m) : FnG P w C.K mg base (L2.CX P w) (k + 1) f fd ps (spI C c (initOf N ps.length c m)) := by
  refine fnG_of F S (fun vs H Q E h => ?_) (fun cdv hcdv A outer s H vs Q E hr hgd h => ?_)
  · obtain ⟨O, ρ, j, a, dx, vr, ds, rfl, ha, na, hO, hs, r, q⟩ := h
    by_cases hl : ds.length + 1 = ps.length
    · rw [List.length_cons, r.length, hl]
    · unfold initOf at q
      rw [if_neg hl] at q
      exact q.elim
  · obtain ⟨O, ρ, j, a, dx, vr, ds, rfl, ha, na, hO, hs, r, q⟩ := h
    refine ⟨_, hbody cdv hcdv A outer s H ⟨C, er H a, ρ, j, fun b => O b ∧ b ≠ a, some a⟩ E rfl hr hgd, ?_⟩
    by_cases hl : ds.length + 1 = ps.length
    · unfold initOf at q
      rw [if_pos hl] at q
      refine ⟨O, ρ, _, j, sok_startI hs ha na hO r, ?_⟩
      revert q
      generalize m (startG N (.own (.ins c []) :: ds.map .val)) j = r
      intro q
      cases r with
      | nx Γ j' =>
        refine fun O' ρ' σ' H' p S' => ?_
        have q : (match (match Γ[(0 : Nat)]? with
          | some (some (Cell.own (D.ins c' fs))) => if c' = c then (R.ok fs j' : R (List (Str × D))) else .bad
          | _ => .bad) with
          | .ok fs j' => ∀ ρ' H' dx' us, Kp ρ j (er H a) ρ' j' H' → Sto C O ρ' H' j' → a ∉ ρ' → H' a = some (.ins (C.cm c) dx' us) → DenF C ρ' H' (Bo O ρ' j') us fs → Q .non H'
          | .exc c fs j' => ∀ x us ρ' H', Kp ρ j (er H a) ρ' j' H' → Sto C (fun b => O b ∧ b ≠ a) ρ' H' j' → H' x = some (.xd us) → ¬ Bo (fun b => O b ∧ b ≠ a) ρ' j' x → DenF C ρ' H' (Bo (fun b => O b ∧ b ≠ a) ρ' j') us fs → E (.ref (C.cm c)) (some x) H'
          | .bad => False) := q
        cases hΓ : Γ[(0 : Nat)]? with
        | none => rw [hΓ] at q; exact q.elim
        | some o =>
          cases o with
          | none => rw [hΓ] at q; exact q.elim
          | some cl =>
            cases cl with
            | val d => rw [hΓ] at q; exact q.elim
            | act => rw [hΓ] at q; exact q.elim
            | own d =>
              cases d with
              | ins c' fs =>
                rw [hΓ] at q
                obtain ⟨a', e, hO', h0, n, hc, dx', us, hu, hf⟩ := S'.slot 0 _ hΓ
                have ea : some a = some a' := hc _ _ rfl
                cases ea
                have lb : ∀ b, O b → O' b := fun b z => by
                  by_cases eb : b = a
                  · rw [eb]; exact hO'
                  · exact S'.b0 b ⟨z, eb⟩
                by_cases ec : c' = c
                · dsimp only at q
                  rw [if_pos ec] at q
                  rw [ec] at hu
                  exact q ρ' H' dx' us S'.out.1 (S'.st.less lb) n hu (hf.less fun b z => .inl (z.imp (lb b) id))
                · dsimp only at q
                  rw [if_neg ec] at q
                  exact q.elim
              | _ => rw [hΓ] at q; exact q.elim
      | ret d j' => exact q.elim
      | brk Γ j => exact q.elim
      | cont Γ j => exact q.elim
      | exc c fs Γ j => exact fun O' ρ' σ' H' x vs p S' hx hn hf => q x vs ρ' H' S'.out.1 S'.out.2 hx (fun z => hn (z.imp (S'.b0 x) id)) (hf.less fun b z => .inl (z.imp (S'.b0 b) id))
      | bad => exact q.elim
    · unfold initOf at q
      rw [if_neg hl] at q
      exact q.elim
end

/-! ### calls -/
def mF (g : List D → J → R D) (ma : Gm → J → R (List D)) : Gm → J → R D := fun Γ j => (ma Γ j).bind fun ds j => g ds j
section
variable {C : Ct} {E : WX} {X : Cx} {e : Expr} {es : List Expr} {k : Nat} {f : Addr} {fd : FuncData} {ps : List Str} {x : Str} {p pos : Pos} {ma : Gm → J → R (List D)}
theorem spG_of {g : List D → J → R D} {O : Addr → Prop} {ρ : List Addr} {σ : L2.St} {Γ : Gm} {H : Hp} {j : J} {Q : VK} {vs : List V} {ds : List D} (S : Sok C O ρ σ H Γ j) (hv : DenA C.b ρ H (Bo O ρ j) vs ds) (q : Post C E O σ Γ ρ j H (g ds j) fun d j' ρ' H' => ∀ v, Den C.b ρ' H' (Bo O ρ' j') v d → Q v H') :
    spG C.b g vs H Q (WE E σ) := by
  refine ⟨O, ρ, j, ds, S.st, hv, ?_⟩
  revert q
  generalize g ds j = r
  intro q
  cases r with
  | ok d j' => exact fun v ρ' H' k s' hd => q ρ' H' k (S.keep k s') v hd
  | exc c fs j' => exact fun x us ρ' H' k s' hx hn hf => q x us ρ' H' k (S.keep k s') hx hn hf
  | bad => exact q
theorem me_call {g : List D → J → R D} (tk : Takes X E) (G : FnG X.prog X.w X.K X.mg X.base (L2.CX X.prog X.w) k f fd ps (spG C.b g)) (hr : Room k X.A) (hgd : X.A.guards = some []) (hg : Gl X x) (hm : X.mg x = some (.ref f)) (hk : PySem.W.keepIn X.K (.ref f) = true) (hb : Binds X.K fd ps [])
    (ha : MA C E X (e :: es) ma) (hdb : (x == ("__debug__" : Str)) = false := by decide) (he : starEach (e :: es) X.env = (false, eval e X.env) :: starEach es X.env := by rfl) (hpl : (backTo pos (starEach es X.env)).any (·.1) = false := by rfl) :
    ME C E X (.Call (.Name x p) (e :: es) [] pos) (mF g ma) :=
  PE.imp (pe_callG (E := WE E) G hr hgd hg hm hk hb (fun σ => passAt tk σ) ha hdb he hpl) fun σ H Q ⟨O, ρ, Γ, j, S, h⟩ => ⟨O, ρ, Γ, j, S, Post.imp (Post.bind S h) fun ds j1 ρ1 H1 k1 S1 q vs hv => spG_of S1 hv q⟩
theorem me_call0 {g : List D → J → R D} (tk : Takes X E) (G : FnG X.prog X.w X.K X.mg X.base (L2.CX X.prog X.w) k f fd ps (spG C.b g)) (hr : Room k X.A) (hgd : X.A.guards = some []) (hg : Gl X x) (hm : X.mg x = some (.ref f)) (hk : PySem.W.keepIn X.K (.ref f) = true) (hb : Binds X.K fd ps [])
    (hdb : (x == ("__debug__" : Str)) = false := by decide) : ME C E X (.Call (.Name x p) [] [] pos) (mF g mNil) :=
  PE.imp (pe_callG0 (E := WE E) G hr hgd hg hm hk hb (fun σ => passAt tk σ) hdb) fun σ H Q ⟨O, ρ, Γ, j, S, h⟩ => spG_of S .nil (by simpa [mF, mNil, R.bind] using h)
end
end On

set_option Elab.async false
set_option linter.all false
set_option maxRecDepth 100000
set_option maxHeartbeats 2000000
set_option autoImplicit false
namespace On
open PySem PySem.Spec PyProof.Rows L2

/-! ### truth -/
def truD : D → Option Bool
  | .non => some false
  | .bl b => some b
  | .int i => some (i != 0)
  | .str x => if x.length ≤ 100000 then some ((x.length : Int) != 0) else none
  | .lst xs => some (!xs.isEmpty)
  | .tup xs => some (!xs.isEmpty)
  | _ => none
theorem Vw.den {C : Cb} {ρ : List Addr} {H : Hp} {B : Addr → Prop} {v : V} {d : D} (h : Vw C ρ H B v d) (n : match d with | .lst _ => False | .dct _ => False | .tdc _ => False | .fdc _ => False | .ftc _ => False | .ins _ _ => False | _ => True) : Den C ρ H B v d := by
  cases h with
  | of h => exact h
  | lst _ _ => exact n.elim
  | dK _ _ => exact n.elim
  | dT _ _ => exact n.elim
  | fK _ _ => exact n.elim
  | fT _ _ => exact n.elim
  | ins _ _ => exact n.elim
theorem truD_ok {C : Cb} {ρ : List Addr} {H : Hp} {B : Addr → Prop} {v : V} {d : D} {k : Bool} (h : Vw C ρ H B v d) (e : truD d = some k) : TruV C.K v H k := by
  cases d with
  | non => cases h.den trivial; cases e; rfl
  | bl b => cases h.den trivial; cases e; rfl
  | int i => cases h.den trivial; cases e; rfl
  | str x =>
    cases h.den trivial
    have e : (if x.length ≤ 100000 then some ((x.length : Int) != 0) else none) = some k := e
    by_cases c : x.length ≤ 100000
    · rw [if_pos c] at e
      cases e
      exact ⟨sz5 c, rfl⟩
    · rw [if_neg c] at e
      cases e
  | lst xs =>
    obtain ⟨a, ys, rfl, hs, r⟩ := h.lstSq
    cases e
    exact .inl ⟨ys, hs, by rw [r.isEmpty]⟩
  | tup xs =>
    obtain ⟨a, ys, rfl, hs, r⟩ := h.tupSq
    cases e
    exact .inr (.inl ⟨ys, hs, by rw [r.isEmpty]⟩)
  | _ => cases e
section
variable {C : Ct} {E : WX} {X : Cx} {a b c e : Expr} {ma mb mc : Gm → J → R D} {pos : Pos} {rest : List Expr} {ta tb : Gm → J → R Bool}
def tV (ma : Gm → J → R D) : Gm → J → R Bool := fun Γ j => (ma Γ j).bind fun d j => lift (truD (deref j d)) j
theorem mt_val (hK : X.K = C.b.K) (ha : ME C E X a ma) (he : ∀ whole, isTrue a X.env whole = (do let v ← whole; standAt a.pos; holding [v] (truthy v)) := by intro _; rfl) : MT C E X a (tV ma) :=
  PT.imp (pt_truth ha he) fun σ H Q ⟨O, ρ, Γ, j, S, h⟩ => ⟨O, ρ, Γ, j, S, Post.imp (Post.bind S h) fun d j1 ρ1 H1 k1 S1 q v hv => by
    obtain ⟨z, hz, q⟩ := post_liftB S1 q
    exact ⟨z, by rw [hK]; exact truD_ok (S1.st.view hv) hz, q⟩⟩
/-- a comparison as a test -/
def t2 (f : D → D → Option Bool) (ma mb : Gm → J → R D) : Gm → J → R Bool := fun Γ j => (ma Γ j).bind fun d j => (mb Γ j).bind fun e j => lift (f (deref j d) (deref j e)) j
def obl (f : D → D → Option Bool) : D → D → Option D := fun d e => (f d e).map .bl
theorem mt_cmp {op : CmpOp} {r : R2} {f : D → D → Option Bool} (ho : OpR X (compareOp op) r) (hf : OpD C.b r (obl f)) (ha : ME C E X a ma) (hb : ME C E X b mb) (hm : behindInMarks op b = false) : MT C E X (.Compare a [op] [b] pos) (t2 f ma mb) :=
  PT.imp (pt_cmpR ho ha hb hm) fun σ H Q ⟨O, ρ, Γ, j, S, h⟩ => ⟨O, ρ, Γ, j, S, Post.imp (Post.bind S h) fun d j1 ρ1 H1 k1 S1 q v hv =>
    ⟨O, ρ1, Γ, j1, S1, Post.imp (Post.bind S1 q) fun e j2 ρ2 H2 k2 S2 q2 u hu => by
      cases e1 : f (deref j2 d) (deref j2 e) with
      | none => rw [e1] at q2; exact q2.elim
      | some z =>
        rw [e1] at q2
        exact hf ρ2 (Bo O ρ2 j2) H2 v u _ _ (.bl z) _ S2.trkB (S2.st.view ((k2.step O).den hv)) (S2.st.view hu) (by unfold obl; rw [e1]; rfl) fun w H' x hw => by
          cases hw
          exact ⟨z, rfl, q2 ρ2 H' x.keep (S2.ext x)⟩⟩⟩
/-- a < b < c -/
def mChain (f g : D → D → Option Bool) (ma mb mc : Gm → J → R D) : Gm → J → R D := fun Γ j => (ma Γ j).bind fun d j => (mb Γ j).bind fun e j => match f (deref j d) (deref j e) with
  | some true => (mc Γ j).bind fun h j => lift ((g (deref j e) (deref j h)).map .bl) j
  | some false => .ok (.bl false) j
  | none => .bad
theorem me_chain {op op' : CmpOp} {r r' : R2} {f g : D → D → Option Bool} (ho : OpR X (compareOp op) r) (ho' : OpR X (compareOp op') r') (hf : OpD C.b r (obl f)) (hg : OpD C.b r' (obl g)) (ha : ME C E X a ma) (hb : ME C E X b mb) (hc : ME C E X c mc)
    (hm : lastMarks [op, op'] [b, c] = false := by with_unfolding_all rfl) : ME C E X (.Compare a [op, op'] [b, c] pos) (mChain f g ma mb mc) :=
  PE.imp (pe_chain ho ho' ha hb hc (hm := hm)) fun σ H Q ⟨O, ρ, Γ, j, S, h⟩ => ⟨O, ρ, Γ, j, S, Post.imp (Post.bind S h) fun d j1 ρ1 H1 k1 S1 q v hv =>
    ⟨O, ρ1, Γ, j1, S1, Post.imp (Post.bind S1 q) fun e j2 ρ2 H2 k2 S2 q2 u hu => by
      cases e1 : f (deref j2 d) (deref j2 e) with
      | none => rw [e1] at q2; exact q2.elim
      | some z =>
        rw [e1] at q2
        refine hf ρ2 (Bo O ρ2 j2) H2 v u _ _ (.bl z) _ S2.trkB (S2.st.view ((k2.step O).den hv)) (S2.st.view hu) (by unfold obl; rw [e1]; rfl) fun w H' x hw => ?_
        cases hw
        refine ⟨z, rfl, ?_⟩
        cases z with
        | false => exact iteF (q2 ρ2 H' x.keep (S2.ext x) _ (.bl false))
        | true =>
          refine iteT ⟨O, ρ2, Γ, j2, S2.ext x, Post.imp (Post.bind (S2.ext x) (Post.shift S2 x.keep q2)) fun h j3 ρ3 H3 k3 S3 q3 w hw => ?_⟩
          obtain ⟨z, hz, q4⟩ := post_lift S3 q3
          exact hg ρ3 (Bo O ρ3 j3) H3 u w _ _ z _ S3.trkB (S3.st.view ((k3.step O).den (hu.mono x.pres Pfx.refl))) (S3.st.view hw) hz q4⟩⟩
/-! ### and, or, not, if -/
def tNt (ta : Gm → J → R Bool) : Gm → J → R Bool := fun Γ j => (ta Γ j).bind fun b j => .ok (!b) j
def tAn (ta tb : Gm → J → R Bool) : Gm → J → R Bool := fun Γ j => (ta Γ j).bind fun b j => bif b then tb Γ j else .ok false j
def tOo (ta tb : Gm → J → R Bool) : Gm → J → R Bool := fun Γ j => (ta Γ j).bind fun b j => bif b then .ok true j else tb Γ j
theorem mt_not (ha : MT C E X a ta) : MT C E X (.UnaryOp .Not a pos) (tNt ta) :=
  PT.imp (pt_not ha) fun σ H Q ⟨O, ρ, Γ, j, S, h⟩ => ⟨O, ρ, Γ, j, S, Post.imp (Post.bind S h) fun b j1 ρ1 H1 k1 S1 q => Post.now S1 q⟩
theorem mw_and1 (ha : MT C E X a ta) : MW C E X (.BoolOp .And [a] pos) ta := pw_and1 ha
theorem mw_or1 (ha : MT C E X a ta) : MW C E X (.BoolOp .Or [a] pos) ta := pw_or1 ha
theorem mw_and (ha : MT C E X a ta) (hb : MW C E X (.BoolOp .And (b :: rest) pos) tb) : MW C E X (.BoolOp .And (a :: b :: rest) pos) (tAn ta tb) :=
  PW.imp (pw_and ha hb) fun σ H Q ⟨O, ρ, Γ, j, S, h⟩ => ⟨O, ρ, Γ, j, S, Post.imp (Post.bind S h) fun b j1 ρ1 H1 k1 S1 q => by
    cases b with
    | true => exact iteT ⟨O, ρ1, Γ, j1, S1, q⟩
    | false => exact iteF (Post.now S1 q)⟩
theorem mw_or (ha : MT C E X a ta) (hb : MW C E X (.BoolOp .Or (b :: rest) pos) tb) : MW C E X (.BoolOp .Or (a :: b :: rest) pos) (tOo ta tb) :=
  PW.imp (pw_or ha hb) fun σ H Q ⟨O, ρ, Γ, j, S, h⟩ => ⟨O, ρ, Γ, j, S, Post.imp (Post.bind S h) fun b j1 ρ1 H1 k1 S1 q => by
    cases b with
    | false => exact iteF ⟨O, ρ1, Γ, j1, S1, q⟩
    | true => exact iteT (Post.now S1 q)⟩
/-- as values -/
def mAn (ma mb : Gm → J → R D) : Gm → J → R D := fun Γ j => (ma Γ j).bind fun d j => match truD (deref j d) with
  | some true => mb Γ j
  | some false => .ok d j
  | none => .bad
def mOo (ma mb : Gm → J → R D) : Gm → J → R D := fun Γ j => (ma Γ j).bind fun d j => match truD (deref j d) with
  | some true => .ok d j
  | some false => mb Γ j
  | none => .bad
theorem me_one {op : BoolOp} (h : ME C E X a ma) : ME C E X (.BoolOp op [a] pos) ma := pe_one h
theorem me_and (hK : X.K = C.b.K) (ha : ME C E X a ma) (hb : ME C E X (.BoolOp .And (b :: rest) pos) mb) : ME C E X (.BoolOp .And (a :: b :: rest) pos) (mAn ma mb) :=
  PE.imp (pe_andT ha hb) fun σ H Q ⟨O, ρ, Γ, j, S, h⟩ => ⟨O, ρ, Γ, j, S, Post.imp (Post.bind S h) fun d j1 ρ1 H1 k1 S1 q v hv => by
    cases e1 : truD (deref j1 d) with
    | none => rw [e1] at q; exact q.elim
    | some z =>
      rw [e1] at q
      refine ⟨z, by rw [hK]; exact truD_ok (S1.st.view hv) e1, ?_⟩
      cases z with
      | true => exact iteT ⟨O, ρ1, Γ, j1, S1, q⟩
      | false => exact iteF (Post.now S1 q v hv)⟩
theorem me_or (hK : X.K = C.b.K) (ha : ME C E X a ma) (hb : ME C E X (.BoolOp .Or (b :: rest) pos) mb) : ME C E X (.BoolOp .Or (a :: b :: rest) pos) (mOo ma mb) :=
  PE.imp (pe_orT ha hb) fun σ H Q ⟨O, ρ, Γ, j, S, h⟩ => ⟨O, ρ, Γ, j, S, Post.imp (Post.bind S h) fun d j1 ρ1 H1 k1 S1 q v hv => by
    cases e1 : truD (deref j1 d) with
    | none => rw [e1] at q; exact q.elim
    | some z =>
      rw [e1] at q
      refine ⟨z, by rw [hK]; exact truD_ok (S1.st.view hv) e1, ?_⟩
      cases z with
      | false => exact iteF ⟨O, ρ1, Γ, j1, S1, q⟩
      | true => exact iteT (Post.now S1 q v hv)⟩
def mNt (ma : Gm → J → R D) : Gm → J → R D := fun Γ j => (ma Γ j).bind fun d j => lift ((truD (deref j d)).map fun b => .bl (!b)) j
theorem me_not (hK : X.K = C.b.K) (ha : ME C E X a ma) : ME C E X (.UnaryOp .Not a pos) (mNt ma) :=
  PE.imp (pe_notT ha) fun σ H Q ⟨O, ρ, Γ, j, S, h⟩ => ⟨O, ρ, Γ, j, S, Post.imp (Post.bind S h) fun d j1 ρ1 H1 k1 S1 q v hv => by
    cases e1 : truD (deref j1 d) with
    | none => rw [e1] at q; exact q.elim
    | some z =>
      rw [e1] at q
      exact ⟨z, by rw [hK]; exact truD_ok (S1.st.view hv) e1, Post.now S1 q _ (.bl _)⟩⟩
def mIf (tc : Gm → J → R Bool) (ma mb : Gm → J → R D) : Gm → J → R D := fun Γ j => (tc Γ j).bind fun b j => bif b then ma Γ j else mb Γ j
theorem me_if (hc : MT C E X c ta) (ha : ME C E X a ma) (hb : ME C E X b mb) : ME C E X (.IfExp c a b pos) (mIf ta ma mb) :=
  PE.imp (pe_ifExp hc ha hb) fun σ H Q ⟨O, ρ, Γ, j, S, h⟩ => ⟨O, ρ, Γ, j, S, Post.imp (Post.bind S h) fun b j1 ρ1 H1 k1 S1 q => by
    cases b with
    | true => exact iteT ⟨O, ρ1, Γ, j1, S1, q⟩
    | false => exact iteF ⟨O, ρ1, Γ, j1, S1, q⟩⟩

/-! ### comprehensions -/
def R.nox {α : Type} (r : R α) : R α := match r with
  | .ok a j => .ok a j
  | _ => .bad
abbrev EN : WX := fun _ _ _ _ => False
def wipeG (Γ : Gm) : List Nat → Gm
  | [] => Γ
  | v :: vs => (wipeG Γ vs).set v none
theorem wipeG_length (Γ : Gm) : ∀ vs : List Nat, (wipeG Γ vs).length = Γ.length
  | [] => rfl
  | v :: vs => by unfold wipeG; rw [List.length_set, wipeG_length Γ vs]
theorem wipeG_some {Γ : Gm} {i : Nat} {x : Cell} : ∀ {vs : List Nat}, (wipeG Γ vs)[i]? = some (some x) → Γ[i]? = some (some x) ∧ i ∉ vs
  | [], h => ⟨h, by simp⟩
  | v :: vs, h => by
    unfold wipeG at h
    rcases set_cases h with ⟨_, _, e⟩ | ⟨ne, h⟩
    · cases e
    · obtain ⟨h1, h2⟩ := wipeG_some h
      exact ⟨h1, by simp only [List.mem_cons, not_or]; exact ⟨fun e => ne e.symm, h2⟩⟩
theorem wipe_off {σ σ' : L2.St} (vs : List Nat) (o : Off vs σ σ') : wipe σ' vs = wipe σ vs := by
  apply List.ext_getElem?
  intro k
  by_cases hk : k ∈ vs
  · have lo : ∀ (τ : L2.St) (ws : List Nat), k ∈ ws → (wipe τ ws)[k]? = if k < τ.length then some none else none := by
      intro τ ws
      induction ws with
      | nil => intro h; cases h
      | cons w ws ih =>
        intro h
        show ((wipe τ ws).set w none)[k]? = _
        by_cases e : w = k
        · subst e
          by_cases l : w < τ.length
          · rw [List.getElem?_set_self (by rw [wipe_length]; exact l), if_pos l]
          · rw [List.getElem?_eq_none (by rw [List.length_set, wipe_length]; exact Nat.le_of_not_lt l), if_neg l]
        · rw [List.getElem?_set_ne e]
          rcases List.mem_cons.mp h with z | z
          · exact absurd z.symm e
          · exact ih z
    rw [lo _ _ hk, lo _ _ hk, o.1]
  · rw [wipe_out hk, wipe_out hk]
    exact o.2 k hk
theorem Sok.wiped {O : Addr → Prop} {ρ : List Addr} {σ : L2.St} {H : Hp} {Γ : Gm} {j : J} (S : Sok C O ρ σ H Γ j) (vs : List Nat) : Sok C O ρ (wipe σ vs) H (wipeG Γ vs) j :=
  S.slots (by rw [wipe_length, wipeG_length, S.len]) fun i c h => by
    obtain ⟨h1, h2⟩ := wipeG_some h
    exact .inl ⟨h1, wipe_out h2⟩
/-- one more thing that is not to be met: a new one, not of the store -/
theorem Sok.more {O : Addr → Prop} {ρ : List Addr} {σ : L2.St} {H : Hp} {Γ : Gm} {j : J} (S : Sok C O ρ σ H Γ j) {l : Addr} {o : HO} (hl : H l = none) : Sok C (fun a => O a ∨ a = l) ρ σ (upd H l o) Γ j := by
  have x : Ext H (upd H l o) := Ext.new hl
  have nl : ∀ a, a ∈ ρ → a ≠ l := fun a z e => by obtain ⟨o, h⟩ := S.st.rtr a z; rw [e, hl] at h; cases h
  have st : Step ρ (Bo O ρ j) H ρ (Bo (fun a => O a ∨ a = l) ρ j) (upd H l o) := ⟨x.pres, fun a z => by
    rcases z with (z | z) | z
    · exact .inl (.inl z)
    · rw [z]; exact .inr hl
    · exact .inl (.inr z), Pfx.refl⟩
  exact { st := ⟨fun a z => by
            rcases z with z | z
            · obtain ⟨o, e⟩ := S.st.trk a z; exact ⟨o, x a o e⟩
            · rw [z]; exact ⟨_, upd_same⟩, S.st.tab.ext x, fun a z => let ⟨o, e⟩ := S.st.rtr a z; ⟨o, x a o e⟩, S.st.rl, S.st.nd, fun n d e => let ⟨a, ea, q⟩ := S.st.sto n d e; ⟨a, ea, q.map (fun o _ => x a o) fun _ _ => st.den⟩⟩
          len := S.len, pre := S.pre, ex := fun a o n t h => x a o (S.ex a o n t h), ext0 := fun a ps h => let ⟨qs, e⟩ := S.ext0 a ps h; ⟨qs, x a _ e⟩, onew := fun a z => z.elim (S.onew a) fun e => .inr (S.old (by rw [e]; exact hl)), b0 := fun a h => .inl (S.b0 a h), new := S.new, rnw := S.rnw
          slot := fun i c h => by
            have q := S.slot i c h
            cases c with
            | val d => obtain ⟨v, e, r⟩ := q; exact ⟨v, e, st.den r⟩
            | own d => obtain ⟨a, e, b, h0, n, hc, r⟩ := q; exact ⟨a, e, .inl b, h0, n, hc, r.map (fun o _ => x a o) fun _ _ => st.den⟩
            | act => exact q
          dist := S.dist, b00 := S.b00 }
def lcMap (g : J → D → Gm → Option Gm) (mt : Gm → J → R Bool) (me : Gm → J → R D) (Γ : Gm) : List D → J → R (List D)
  | [], j => .ok [] j
  | d :: ds, j => match g j d Γ with
    | none => .bad
    | some Γ1 => (mt Γ1 j).nox.bind fun b j => bif b then (me Γ1 j).nox.bind fun e j => (lcMap g mt me Γ ds j).bind fun es j => .ok (e :: es) j else lcMap g mt me Γ ds j
def mLc (mi : Gm → J → R (List D)) (g : J → D → Gm → Option Gm) (mt : Gm → J → R Bool) (me : Gm → J → R D) (vs : List Nat) : Gm → J → R D := fun Γ j => (mi Γ j).bind fun ds j => if ds.length ≤ 100000 then (lcMap g mt me (wipeG Γ vs) ds j).bind fun es j => .ok (.lst es) j else .bad
abbrev MTs (C : Ct) (E : WX) (X : Cx) (ifs : List Expr) (m : Gm → J → R Bool) : Prop :=
  PTs X ifs fun σ H Q => St0 C E m σ H fun _ b _ _ H' => Q b H'
def tT : Gm → J → R Bool := fun _ j => .ok true j
theorem PTs.imp {ifs : List Expr} {t t' : TT} (h : PTs X ifs t) (k : ∀ σ H Q, t' σ H Q → t σ H Q) : PTs X ifs t' := ⟨fun pins s σ H Q I q => h.run pins s σ H Q I (k σ H Q q)⟩
theorem mts_nil : MTs C E X [] tT := PTs.imp pts_nil fun σ H Q ⟨O, ρ, Γ, j, S, h⟩ => Post.now S h
theorem mts_one (ha : MT C E X a ta) : MTs C E X [a] ta := pts_one ha
theorem lc_read {ts vs : List Nat} {mi : Gm → J → R (List D)} {g : J → D → Gm → Option Gm} {mt : Gm → J → R Bool} {me : Gm → J → R D} (hts : ∀ k ∈ ts, k ∈ vs) {σ : L2.St} {H : Hp} {Q : VK}
    (h0 : St0 C E (mLc mi g mt me vs) σ H fun O d j' ρ' H' => ∀ v, Den C.b ρ' H' (Bo O ρ' j') v d → Q v H') :
    tLc (fun σ H Rr => St0 C E mi σ H fun O ds j' ρ' H' => ∀ I P, Yl C P I ds → P ρ' (Bo O ρ' j') H' → Rr I H')
      (fun v σ H Q => ∃ O ρ Γ j d Γ', Sok C O ρ σ H Γ j ∧ Den C.b ρ H (Bo O ρ j) v d ∧ g j d Γ = some Γ' ∧ ∀ σ', Off ts σ σ' → Sok C O ρ σ' H Γ' j → Q σ' H)
      (fun σ H Q => St0 C EN mt σ H fun _ b _ _ H' => Q b H')
      (fun σ H Q => St0 C EN me σ H fun O d j' ρ' H' => ∀ v, Den C.b ρ' H' (Bo O ρ' j') v d → Q v H') vs σ H Q := by
  obtain ⟨O, ρ, Γ, j, S, h⟩ := h0
  refine ⟨O, ρ, Γ, j, S, Post.imp (Post.bind S h) fun ds j1 ρ1 H1 k1 S1 q I P Y hP => ?_⟩
  intro L hL
  obtain ⟨hlen, q⟩ := Post.ite q
  have nρ : L ∉ ρ1 := fun z => by obtain ⟨o, e⟩ := S1.st.rtr L z; rw [hL] at e; cases e
  let O' : Addr → Prop := fun a => O a ∨ a = L
  have hO : ∀ a, O a → O' a := fun a z => .inl z
  have hN : ∀ a, O' a → O a ∨ H1 a = none := fun a z => z.imp id fun e => by rw [e]; exact hL
  have x0 : Ext H1 (upd H1 L (.lst [])) := Ext.new hL
  have s0 : Sto C.b O' ρ1 (upd H1 L (.lst [])) j1 := (S1.more (o := .lst []) hL).st
  have q0 : Post C E O σ Γ ρ1 j1 H1 ((lcMap g mt me (wipeG Γ vs) (ds.drop 0) j1).bind fun fs j => .ok (.lst (([] : List D) ++ fs)) j) fun d j' ρ' H' => ∀ v, Den C.b ρ' H' (Bo O ρ' j') v d → Q v H' := q
  let W : Nat → Hp → Prop := fun i H2 => ∃ (ρ2 : List Addr) (j2 : J) (acc : List V) (es : List D), Kp ρ1 j1 H1 ρ2 j2 H2 ∧ Sto C.b O' ρ2 H2 j2 ∧ L ∉ ρ2 ∧ H2 L = some (.lst acc) ∧ acc.length ≤ i ∧ DenA C.b ρ2 H2 (Bo O' ρ2 j2) acc es ∧ P ρ2 (Bo O' ρ2 j2) H2 ∧
      Post C E O σ Γ ρ1 j1 H1 ((lcMap g mt me (wipeG Γ vs) (ds.drop i) j2).bind fun fs j => .ok (.lst (es ++ fs)) j) fun d j' ρ' H' => ∀ v, Den C.b ρ' H' (Bo O ρ' j') v d → Q v H'
  refine ⟨fun i m H2 => m = ds.length - i ∧ i ≤ ds.length ∧ W i H2, ⟨ds.length, by simp, Nat.zero_le _, ρ1, j1, [], [], x0.keep, s0, nρ, upd_same, Nat.le_refl _, .nil, Y.stay _ _ _ _ _ _ ((Ext.keep x0).stepO hN) hP, q0⟩, ?_⟩
  rintro i m H2 ⟨rfl, hi, ρ2, j2, acc, es, k2, s2, n2, hl2, hacc, r2, hP2, q2⟩
  by_cases hlt : i < ds.length
  · refine .inr ⟨Y.go i _ _ H2 hP2 hlt, fun H3 => i + 1 ≤ ds.length ∧ W (i + 1) H3, fun H3 z => ⟨ds.length - (i + 1), by omega, rfl, z.1, z.2⟩, fun x H3 y => ?_⟩
    have S2 : Sok C O' ρ2 (wipe σ vs) H2 (wipeG Γ vs) j2 := (S1.wiped vs).keepO k2 hO hN s2
    obtain ⟨x3, d3⟩ := Y.yld i ρ2 _ H2 x H3 _ hP2 S2.trkB (List.getElem?_eq_getElem hlt) y
    rw [drop_get hlt] at q2
    unfold lcMap at q2
    cases e1 : g j2 ds[i] (wipeG Γ vs) with
    | none => rw [e1] at q2; exact q2.elim
    | some Γ3 =>
      rw [e1] at q2
      dsimp only at q2
      refine ⟨O', ρ2, wipeG Γ vs, j2, ds[i], Γ3, S2.ext x3, d3, e1, fun σ3 o3 S3 => ⟨?_, O', ρ2, Γ3, j2, S3, ?_⟩⟩
      · exact (wipe_off vs (o3.more hts)).trans (by rw [wipe_off vs]; exact ⟨wipe_length _ _, fun k hk => wipe_out hk⟩)
      · have k3 : Kp ρ1 j1 H1 ρ2 j2 H3 := S1.kpt k2 x3.keep
        have hl3 : H3 L = some (.lst acc) := x3 _ _ hl2
        have P3 : P ρ2 (Bo O' ρ2 j2) H3 := Y.stay _ _ _ _ _ _ ((Ext.keep x3).step O') hP2
        have r3 := ((Ext.keep x3).step O').denA r2
        -- the test
        revert q2
        generalize mt Γ3 j2 = rt
        intro q2
        cases rt with
        | exc c fs j3 => exact q2.elim
        | bad => exact q2.elim
        | ok b j4 =>
          refine fun ρ4 H4 k4 S4 => ?_
          have n4 : L ∉ ρ4 := fun z => (k4.frs L z).elim n2 fun e => by rw [hl3] at e; cases e
          have l4 : H4 L = some (.lst acc) := k4.keep _ _ (fun z => n2 z.mem) nt_lst hl3
          have P4 : P ρ4 (Bo O' ρ4 j4) H4 := Y.stay _ _ _ _ _ _ (k4.step O') P3
          have r4 := (k4.step O').denA r3
          have K4 := S1.kpt k3 k4
          cases b with
          | false => exact iteF ⟨hlt, ρ4, j4, acc, es, K4, S4.st, n4, l4, Nat.le_succ_of_le hacc, r4, P4, q2⟩
          | true =>
            refine iteT ⟨O', ρ4, Γ3, j4, S4, ?_⟩
            have q2 : Post C E O σ Γ ρ1 j1 H1 (((me Γ3 j4).nox.bind fun e j => (lcMap g mt me (wipeG Γ vs) (ds.drop (i + 1)) j).bind fun es j => .ok (e :: es) j).bind fun fs j => .ok (.lst (es ++ fs)) j) fun d j' ρ' H' => ∀ v, Den C.b ρ' H' (Bo O ρ' j') v d → Q v H' := q2
            revert q2
            generalize me Γ3 j4 = re
            intro q2
            cases re with
            | exc c fs j5 => exact q2.elim
            | bad => exact q2.elim
            | ok e j5 =>
              refine fun ρ5 H5 k5 S5 v hv => ?_
              have n5 : L ∉ ρ5 := fun z => (k5.frs L z).elim n4 fun e => by rw [l4] at e; cases e
              have l5 : H5 L = some (.lst acc) := k5.keep _ _ (fun z => n4 z.mem) nt_lst l4
              have K5 := S1.kpt K4 k5
              have kL : Step ρ5 (Bo O' ρ5 j5) H5 ρ5 (Bo O' ρ5 j5) (upd H5 L (.lst (acc ++ [v]))) := ⟨Pres.at (.inl (.inr rfl)) l5 nt_lst, fun _ z => .inl z, Pfx.refl⟩
              refine ⟨acc, l5, Nat.lt_of_le_of_lt hacc (Nat.lt_of_lt_of_le hlt (sz5 hlen)), hlt, ρ5, j5, acc ++ [v], es ++ [e], ?_, S5.st.write (.inr rfl) n5 l5 ⟨nt_lst, fun _ z => by cases z⟩, n5, upd_same, by simpa using hacc, ?_, ?_, ?_⟩
              · exact ⟨fun a o n t ea => by rw [upd_ne (ne_of_none ea hL)]; exact K5.keep a o n t ea, fun a ps ea => by rw [upd_ne (ne_of_none ea hL)]; exact K5.tbl a ps ea, K5.grow, K5.frs, K5.pfx⟩
              · exact (kL.denA ((k5.step O').denA r4)).append (.cons (kL.den hv) .nil)
              · exact Y.stay _ _ _ _ _ _ kL (Y.stay _ _ _ _ _ _ (k5.step O') P4)
              · have q3 : Post C E O σ Γ ρ1 j1 H1 (((lcMap g mt me (wipeG Γ vs) (ds.drop (i + 1)) j5).bind fun es j => .ok (e :: es) j).bind fun fs j => .ok (.lst (es ++ fs)) j) fun d j' ρ' H' => ∀ v, Den C.b ρ' H' (Bo O ρ' j') v d → Q v H' := q2
                revert q3
                generalize lcMap g mt me (wipeG Γ vs) (ds.drop (i + 1)) j5 = rr
                intro q3
                cases rr with
                | ok fs j5 => simpa [R.bind] using q3
                | exc c fs j5 => exact q3
                | bad => exact q3
  · have e : i = ds.length := by omega
    subst e
    rw [List.drop_length] at q2
    refine .inl ⟨Y.stop _ _ _ H2 hP2 (Nat.le_refl _), ?_⟩
    have q3 : Post C E O σ Γ ρ1 j1 H1 (.ok (.lst (es ++ [])) j2) fun d j' ρ' H' => ∀ v, Den C.b ρ' H' (Bo O ρ' j') v d → Q v H' := q2
    rw [List.append_nil] at q3
    have lo : ∀ a, Bo O ρ2 j2 a → Bo O' ρ2 j2 a ∨ H2 a = none := fun a z => .inl (z.imp (hO a) id)
    have nB : ¬ Bo O ρ2 j2 L := fun z => by
      rcases z with z | z
      · obtain ⟨o, e⟩ := S1.st.trk L z; rw [hL] at e; cases e
      · exact n2 z.mem
    exact q3 ρ2 H2 k2 (S1.keep k2 (s2.less hO)) _ (.lst hl2 nB (r2.less lo))
end
end On

set_option Elab.async false
set_option linter.all false
set_option maxRecDepth 100000
set_option maxHeartbeats 2000000
set_option autoImplicit false
namespace On
open PySem PySem.Spec PyProof.Rows L2

/-! ### comprehensions as values, stored -/
section
variable {C : Ct} {E : WX} {X : Cx} {elt tg iter : Expr} {ifs : List Expr} {scope : Scope} {own : List (Str × Nat)} {pos : Pos} {ts : List Nat} {mi : Gm → J → R (List D)} {g : J → D → Gm → Option Gm} {mt : Gm → J → R Bool} {me : Gm → J → R D}
theorem me_lc (hc : X.calm = true) (hN : X.N.Nodup) (hi : MI C E X tg iter mi) (ok : BlkOk X.N X.env.scope scope own)
    (hg : ∀ (s : Shared) (H : Hp) (A : Addr) (cl : List (Str × Addr)) (fp : List Addr), MG C (X.blk s H scope (compEnvC scope cl A X.env) fp) tg ts g)
    (ht : ∀ (s : Shared) (H : Hp) (A : Addr) (cl : List (Str × Addr)) (fp : List Addr), MTs C EN (X.blk s H scope (compEnvC scope cl A X.env) fp) ifs mt)
    (he : ∀ (s : Shared) (H : Hp) (A : Addr) (cl : List (Str × Addr)) (fp : List Addr), ME C EN (X.blk s H scope (compEnvC scope cl A X.env) fp) elt me)
    (hts : ∀ k ∈ ts, k ∈ own.map (·.2)) (hs : ∀ x, foldedSetIterable iter X.env x = pure x := by intro _; rfl) :
    ME C E X (.ListComp elt [⟨tg, iter, ifs, 0⟩] scope pos) (mLc mi g mt me (own.map (·.2))) :=
  PE.imp (pe_lc hc hN hi ok hg ht he hs) fun σ H Q h => lc_read hts h
theorem ms_setLc {i : Nat} {y : Str} {py spos : Pos} (hc : X.calm = true) (hN : X.N.Nodup) (hy : X.N[i]? = some y) (hyl : X.env.scope.names.lookup y = some .local)
    (hsw : swapsWith (.ListComp elt [⟨tg, iter, ifs, 0⟩] scope pos) (some (.Name y py)) spos.line X.env = pure true) (hi : MI C E X tg iter mi) (ok : BlkOk X.N X.env.scope scope own)
    (hg : ∀ (s : Shared) (H : Hp) (A : Addr) (cl : List (Str × Addr)) (fp : List Addr), MG C (X.blk s H scope (compEnvC scope cl A X.env) fp) tg ts g)
    (ht : ∀ (s : Shared) (H : Hp) (A : Addr) (cl : List (Str × Addr)) (fp : List Addr), MTs C EN (X.blk s H scope (compEnvC scope cl A X.env) fp) ifs mt)
    (he : ∀ (s : Shared) (H : Hp) (A : Addr) (cl : List (Str × Addr)) (fp : List Addr), ME C EN (X.blk s H scope (compEnvC scope cl A X.env) fp) elt me)
    (hts : ∀ k ∈ ts, k ∈ own.map (·.2)) (hs : ∀ x, foldedSetIterable iter X.env x = pure x := by intro _; rfl) :
    MS C E X (.Assign [.Name y py] (.ListComp elt [⟨tg, iter, ifs, 0⟩] scope pos) spos) (sSet i (mLc mi g mt me (own.map (·.2)))) :=
  PS.imp (ps_setLc hc hN hy hyl hsw hi ok hg ht he hs) fun Dn σ H ⟨O, ρ, Γ, j, S, h⟩ =>
    lc_read hts ⟨O, ρ, Γ, j, S, Post.imp (PostS.of S h) fun d j1 ρ1 H1 k1 S1 q v hv => q O ρ1 _ H1 Step.refl (S1.set hv)⟩
end

/-! ### arithmetic on data -/
section
variable {C : Cb}
def b2 (b : Bool) : Int := if b then 1 else 0
def CM (i j : Int) : Bool := (decide (-(2 ^ 64) < i) && decide (i < 2 ^ 64)) || (decide (-(2 ^ 64) < j) && decide (j < 2 ^ 64))
theorem CM.ok {i j : Int} (h : CM i j = true) : CMul i j := by
  unfold CM at h
  simp only [Bool.or_eq_true, Bool.and_eq_true, decide_eq_true_eq] at h
  exact h
def fSub : D → D → Option D
  | .int i, .int j => some (.int (i - j))
  | .bl b, .int j => some (.int (b2 b - j))
  | _, _ => none
def rBI (f : Int → Int → Int) : R2 := fun x y H Q => ∃ b j, x = .bl b ∧ y = .int j ∧ Q (.int (f (b2 b) j)) H
theorem op_subU {X : Cx} : OpR X (binaryOp .Sub) (fun x y H Q => rI0 (fun i j => .int (i - j)) x y H Q ∨ rBI (· - ·) x y H Q) := op_sub.or fun pins s σ H x y v u Q I rx ry ⟨b, j, e1, e2, q⟩ => by
  subst e1 e2
  cases rx
  obtain ⟨t, rfl⟩ := ry
  exact PySem.IntBool.sub_bool_int ⟨.int _, H, I.tok _, ⟨_, rfl⟩, q⟩
theorem op_addB {X : Cx} : OpR X (binaryOp .Add) (rBI (· + ·)) := fun pins s σ H x y v u Q I rx ry ⟨b, j, e1, e2, q⟩ => by
  subst e1 e2
  cases rx
  obtain ⟨t, rfl⟩ := ry
  exact PySem.IntBool.add_bool_int ⟨.int _, H, I.tok _, ⟨_, rfl⟩, q⟩
theorem od_sub : OpD C (fun x y H Q => rI0 (fun i j => .int (i - j)) x y H Q ∨ rBI (· - ·) x y H Q) fSub := fun ρ B H x y d e z Q ht hx hy hz k => by
  unfold fSub at hz
  split at hz
  · cases hx.den trivial; cases hy.den trivial; cases hz
    exact .inl ⟨_, _, rfl, rfl, k _ H Ext.refl (.int _)⟩
  · cases hx.den trivial; cases hy.den trivial; cases hz
    exact .inr ⟨_, _, rfl, rfl, k _ H Ext.refl (.int _)⟩
  · cases hz
def fMod : D → D → Option D
  | .int i, .int j => if 0 < j then some (.int (i % j)) else none
  | _, _ => none
theorem od_mod : OpD C (rI (fun _ j => 0 < j) fun i j => .int (i % j)) fMod := fun ρ B H x y d e z Q ht hx hy hz k => by
  unfold fMod at hz
  split at hz
  · rename_i i j
    by_cases c : 0 < j
    · rw [if_pos c] at hz
      cases hx.den trivial; cases hy.den trivial; cases hz
      exact ⟨_, _, rfl, rfl, c, k _ H Ext.refl (.int _)⟩
    · rw [if_neg c] at hz; cases hz
  · cases hz
def fDiv : D → D → Option D
  | .int i, .int j => if 0 < j ∧ j.natAbs.log2 < 9000 then some (.int (i / j)) else none
  | _, _ => none
theorem od_div : OpD C (rI CDivW fun i j => .int (i / j)) fDiv := fun ρ B H x y d e z Q ht hx hy hz k => by
  unfold fDiv at hz
  split at hz
  · rename_i i j
    by_cases c : 0 < j ∧ j.natAbs.log2 < 9000
    · rw [if_pos c] at hz
      cases hx.den trivial; cases hy.den trivial; cases hz
      exact ⟨_, _, rfl, rfl, c, k _ H Ext.refl (.int _)⟩
    · rw [if_neg c] at hz; cases hz
  · cases hz
def CP (i j : Int) : Prop := 0 ≤ j ∧ (Builtin.Int.intBits i : Int) * j ≤ 2 ^ 27
instance (i j : Int) : Decidable (CP i j) := inferInstanceAs (Decidable (0 ≤ j ∧ (Builtin.Int.intBits i : Int) * j ≤ 2 ^ 27))
theorem op_powW {X : Cx} : OpR X (binaryOp .Pow) (rI CP fun i j => .int (i ^ j.toNat)) := opI fun _ _ _ _ _ _ _ hc q => pow_int hc.1 hc.2 q
def fPow : D → D → Option D
  | .int i, .int j => if CP i j then some (.int (i ^ j.toNat)) else none
  | _, _ => none
theorem od_pow : OpD C (rI CP fun i j => .int (i ^ j.toNat)) fPow := fun ρ B H x y d e z Q ht hx hy hz k => by
  unfold fPow at hz
  split at hz
  · rename_i i j
    by_cases c : CP i j
    · rw [if_pos c] at hz
      cases hx.den trivial; cases hy.den trivial; cases hz
      exact ⟨_, _, rfl, rfl, c, k _ H Ext.refl (.int _)⟩
    · rw [if_neg c] at hz; cases hz
  · cases hz
/-- + : ints, texts, lists, tuples -/
def fAdd : D → D → Option D
  | .int i, .int j => some (.int (i + j))
  | .str x, .str y => if x.length + y.length ≤ 100000 then some (.str (x ++ y)) else none
  | .lst x, .lst y => if x.length + y.length ≤ 100000 then some (.lst (x ++ y)) else none
  | .tup x, .tup y => if x.length + y.length ≤ 100000 then some (.tup (x ++ y)) else none
  | .bl b, .int j => some (.int (b2 b + j))
  | _, _ => none
def rAddU (K : PySem.W.Frag) : R2 := fun x y H Q => (∃ i j, x = .int i ∧ y = .int j ∧ Q (.int (i + j)) H) ∨ (∃ i j, x = .str i ∧ y = .str j ∧ i.length + j.length ≤ sizeLine ∧ Q (.str (i ++ j)) H) ∨ rCat x y H Q ∨ rCatA K x y H Q ∨ rBI (· + ·) x y H Q
theorem op_addU {X : Cx} : OpR X (binaryOp .Add) (rAddU X.K) := op_add.or (op_add_str.or (op_cat.or (op_catA.or op_addB)))
theorem od_add : OpD C (rAddU C.K) fAdd := fun ρ B H x y d e z Q ht hx hy hz k => by
  unfold fAdd at hz
  split at hz
  · cases hx.den trivial; cases hy.den trivial; cases hz
    exact .inl ⟨_, _, rfl, rfl, k _ H Ext.refl (.int _)⟩
  · rename_i a b
    by_cases c : a.length + b.length ≤ 100000
    · rw [if_pos c] at hz
      cases hx.den trivial; cases hy.den trivial; cases hz
      exact .inr (.inl ⟨_, _, rfl, rfl, sz5 c, k _ H Ext.refl (.str _)⟩)
    · rw [if_neg c] at hz; cases hz
  · rename_i a b
    by_cases c : a.length + b.length ≤ 100000
    · rw [if_pos c] at hz
      cases hz
      obtain ⟨l, xs, rfl, h1, r1⟩ := hx.lstRd
      obtain ⟨m, ys, rfl, h2, r2⟩ := hy.lstRd
      refine .inr (.inr (.inl ⟨l, m, xs, ys, rfl, rfl, h1, h2, sz5 (by rw [r1.length, r2.length]; exact c), fun p hp => ?_⟩))
      have x0 : Ext H (upd H p (.lst (xs ++ ys))) := Ext.new hp
      exact k _ _ x0 (.lst upd_same (fun z => by obtain ⟨o, e⟩ := ht p z; rw [hp] at e; cases e) ((r1.append r2).mono x0.pres Pfx.refl))
    · rw [if_neg c] at hz; cases hz
  · rename_i a b
    by_cases c : a.length + b.length ≤ 100000
    · rw [if_pos c] at hz
      cases hz
      have hx' := hx.den trivial
      have hy' := hy.den trivial
      obtain ⟨l, xs, rfl, h1, r1⟩ := hx.tupSq
      obtain ⟨m, ys, rfl, h2, r2⟩ := hy.tupSq
      refine .inr (.inr (.inr (.inl ⟨l, m, xs, ys, rfl, rfl, h1, h2, sz5 (by rw [r1.length, r2.length]; exact c), ?_, ?_, ?_⟩)))
      · intro e
        subst e
        cases r1
        exact k _ H Ext.refl hy'
      · intro _ e
        subst e
        cases r2
        rw [List.append_nil] at k
        exact k _ H Ext.refl hx'
      · intro _ _ p hp
        have x0 : Ext H (upd H p (.tup (xs ++ ys))) := Ext.new hp
        exact k _ _ x0 (.tup upd_same (fun z => by obtain ⟨o, e⟩ := ht p z; rw [hp] at e; cases e) ((r1.append r2).mono x0.pres Pfx.refl))
    · rw [if_neg c] at hz; cases hz
  · cases hx.den trivial; cases hy.den trivial; cases hz
    exact .inr (.inr (.inr (.inr ⟨_, _, rfl, rfl, k _ H Ext.refl (.int _)⟩)))
  · cases hz
theorem trk_no {B : Addr → Prop} {H : Hp} {p : Addr} (ht : Trk B H) (hp : H p = none) : ¬ B p := fun z => by
  obtain ⟨o, e⟩ := ht p z
  rw [hp] at e
  cases e
/-- * : ints; a tuple, a list by a number -/
def fMul : D → D → Option D
  | .int i, .int j => if CM i j = true then some (.int (i * j)) else none
  | .tup x, .int k => if x.isEmpty = false ∧ 2 ≤ k ∧ k ≤ 1000 ∧ x.length ≤ 100 then some (.tup (List.replicate k.toNat x).flatten) else none
  | _, _ => none
def rMulU (K : PySem.W.Frag) : R2 := fun x y H Q => rI CMul (fun i j => .int (i * j)) x y H Q ∨ rRepT K x y H Q
theorem op_mulU {X : Cx} : OpR X (binaryOp .Mult) (rMulU X.K) := op_mul.or op_repT
theorem DenA.rep {ρ : List Addr} {H : Hp} {B : Addr → Prop} {vs : List V} {ds : List D} (r : DenA C ρ H B vs ds) : ∀ n : Nat, DenA C ρ H B (List.replicate n vs).flatten (List.replicate n ds).flatten
  | 0 => .nil
  | n + 1 => by
    rw [List.replicate_succ, List.replicate_succ, List.flatten_cons, List.flatten_cons]
    exact r.append (r.rep n)
theorem od_mul : OpD C (rMulU C.K) fMul := fun ρ B H x y d e z Q ht hx hy hz k => by
  unfold fMul at hz
  split at hz
  · rename_i i j
    by_cases c : CM i j = true
    · rw [if_pos c] at hz
      cases hx.den trivial; cases hy.den trivial; cases hz
      exact .inl ⟨_, _, rfl, rfl, CM.ok c, k _ H Ext.refl (.int _)⟩
    · rw [if_neg c] at hz; cases hz
  · rename_i a n
    by_cases c : a.isEmpty = false ∧ 2 ≤ n ∧ n ≤ 1000 ∧ a.length ≤ 100
    · rw [if_pos c] at hz
      cases hz
      cases hy.den trivial
      obtain ⟨l, xs, rfl, h1, r1⟩ := hx.tupSq
      refine .inr ⟨l, n, xs, rfl, rfl, h1, ?_, c.2.1, c.2.2.1, by rw [r1.length]; omega, fun p hp => ?_⟩
      · intro e
        subst e
        cases r1
        exact absurd c.1 (by simp)
      · have x0 : Ext H (upd H p (.tup (List.replicate n.toNat xs).flatten)) := Ext.new hp
        exact k _ _ x0 (.tup upd_same (trk_no ht hp) ((r1.rep _).mono x0.pres Pfx.refl))
    · rw [if_neg c] at hz; cases hz
  · cases hz

/-! ### comparisons -/
/-- the order: ints, texts -/
def ltS (x y : Str) : Bool := decide (x.cps.toList < y.cps.toList)
def fLt : D → D → Option Bool
  | .int i, .int j => some (decide (i < j))
  | .str x, .str y => some (ltS x y)
  | _, _ => none
def rLtU : R2 := fun x y H Q => rI0 (fun i j => .bl (decide (i < j))) x y H Q ∨ (∃ i j, x = .str i ∧ y = .str j ∧ Q (.bl (decide (i.cps.toList < j.cps.toList))) H)
theorem op_ltU {X : Cx} : OpR X (compareOp .Lt) rLtU := op_lt.or op_lt_str
theorem od_lt : OpD C rLtU (obl fLt) := fun ρ B H x y d e z Q ht hx hy hz k => by
  unfold obl fLt at hz
  split at hz
  · cases hx.den trivial; cases hy.den trivial; cases hz
    exact .inl ⟨_, _, rfl, rfl, k _ H Ext.refl (.bl _)⟩
  · cases hx.den trivial; cases hy.den trivial; cases hz
    exact .inr ⟨_, _, rfl, rfl, k _ H Ext.refl (.bl _)⟩
  · cases hz
def iCmp (p : Int → Int → Bool) : D → D → Option Bool
  | .int i, .int j => some (p i j)
  | _, _ => none
theorem od_icmp {p : Int → Int → Bool} : OpD C (rI0 fun i j => .bl (p i j)) (obl (iCmp p)) := fun ρ B H x y d e z Q ht hx hy hz k => by
  unfold obl iCmp at hz
  split at hz
  · cases hx.den trivial; cases hy.den trivial; cases hz
    exact ⟨_, _, rfl, rfl, k _ H Ext.refl (.bl _)⟩
  · cases hz
abbrev fLe := iCmp fun i j => decide (i ≤ j)
abbrev fGt := iCmp fun i j => decide (j < i)
abbrev fGe := iCmp fun i j => decide (j ≤ i)
/-- is None, is not None -/
def isN : D → Bool
  | .non => true
  | _ => false
def fIs : D → D → Option Bool
  | d, .non => some (isN d)
  | _, _ => none
def fIsNot : D → D → Option Bool
  | d, .non => some (!isN d)
  | _, _ => none
theorem den_isN {ρ : List Addr} {H : Hp} {B : Addr → Prop} {v : V} {d : D} (h : Vw C ρ H B v d) : decide (v = .non) = isN d := by
  cases h with
  | of h => cases h <;> rfl
  | _ => rfl
theorem od_is : OpD C (fun x y H Q => y = .non ∧ Q (.bl (decide (x = .non))) H) (obl fIs) := fun ρ B H x y d e z Q ht hx hy hz k => by
  cases e with
  | non =>
    cases hy.den trivial
    cases hz
    exact ⟨rfl, k _ H Ext.refl (by rw [den_isN hx]; exact .bl _)⟩
  | _ => cases hz
theorem od_isNot : OpD C (fun x y H Q => y = .non ∧ Q (.bl (!decide (x = .non))) H) (obl fIsNot) := fun ρ B H x y d e z Q ht hx hy hz k => by
  cases e with
  | non =>
    cases hy.den trivial
    cases hz
    exact ⟨rfl, k _ H Ext.refl (by rw [den_isN hx]; exact .bl _)⟩
  | _ => cases hz
/-! ==, != of plain data -/
mutual
def D.py : D → Option PyData
  | .non => some .none
  | .bl b => some (.bool b)
  | .int i => some (.int i)
  | .str x => some (.str x)
  | .lst xs => (D.pyA xs).map .list
  | .tup xs => (D.pyA xs).map .tuple
  | _ => none
def D.pyA : List D → Option (List PyData)
  | [] => some []
  | d :: ds => match d.py, D.pyA ds with
    | some p, some ps => some (p :: ps)
    | _, _ => none
end
mutual
theorem Den.dp {ρ : List Addr} {H : Hp} {B : Addr → Prop} : ∀ {v : V} {d : D} {p : PyData}, Den C ρ H B v d → d.py = some p → Dp C.K H v p
  | _, _, _, .non, e => by cases e; exact .non
  | _, _, _, .bl b, e => by cases e; exact .bl b
  | _, _, _, .int i, e => by cases e; exact .int i
  | _, _, _, .str x, e => by cases e; exact .str x
  | _, _, p, .lst (ds := ds) h n r, e => by
    unfold D.py at e
    cases q : D.pyA ds with
    | none => rw [q] at e; cases e
    | some ps => rw [q] at e; cases e; exact .lst (.inl (.inl h)) (DenA.dp r q)
  | _, _, p, .tup (ds := ds) h n r, e => by
    unfold D.py at e
    cases q : D.pyA ds with
    | none => rw [q] at e; cases e
    | some ps => rw [q] at e; cases e; exact .tup (.inl (.inl h)) (DenA.dp r q)
  | _, _, p, .tupK (ds := ds) h _ r, e => by
    unfold D.py at e
    cases q : D.pyA ds with
    | none => rw [q] at e; cases e
    | some ps => rw [q] at e; cases e; exact .tup (sqTn h) (DenA.dp r q)
  | _, _, _, .frz _ _ _, e => by cases e
  | _, _, _, .frzK _ _, e => by cases e
  | _, _, _, .loc _, e => by cases e
  | _, _, _, .cls _, e => by cases e
  | _, _, _, .dK _ _ _, e => by cases e
  | _, _, _, .dT _ _ _, e => by cases e
  | _, _, _, .fK _ _ _, e => by cases e
  | _, _, _, .fT _ _ _, e => by cases e
  | _, _, _, .ins _ _ _, e => by cases e
  | _, _, _, .exn _ _ _ _ _, e => by cases e
theorem DenA.dp {ρ : List Addr} {H : Hp} {B : Addr → Prop} : ∀ {v : List V} {d : List D} {p : List PyData}, DenA C ρ H B v d → D.pyA d = some p → DpAll C.K H v p
  | _, _, _, .nil, e => by cases e; exact .nil
  | _, _, p, .cons (d := d) (ds := ds) h r, e => by
    unfold D.pyA at e
    cases q1 : d.py with
    | none => rw [q1] at e; cases e
    | some p1 =>
      cases q2 : D.pyA ds with
      | none => rw [q1, q2] at e; cases e
      | some p2 => rw [q1, q2] at e; cases e; exact .cons (Den.dp h q1) (DenA.dp r q2)
end
theorem Vw.dp {ρ : List Addr} {H : Hp} {B : Addr → Prop} {v : V} {d : D} {p : PyData} (h : Vw C ρ H B v d) (e : d.py = some p) : Dp C.K H v p := by
  cases h with
  | of h => exact h.dp e
  | lst h r =>
    rename_i a xs ds
    unfold D.py at e
    cases q : D.pyA ds with
    | none => rw [q] at e; cases e
    | some ps => rw [q] at e; cases e; exact .lst (.inl (.inl h)) (DenA.dp r q)
  | dK _ _ => cases e
  | dT _ _ => cases e
  | fK _ _ => cases e
  | fT _ _ => cases e
  | ins _ _ => cases e
def eqP (d e : D) : Option Bool := match d.py, e.py with
  | some p, some q => if (SeqAt.shaped p && SeqAt.shaped q) = true then some (PyData.eqv p q) else none
  | _, _ => none
def eqD (d e : D) : Option Bool := match d, e with
  | .str x, .str y => some (decide (x = y))
  | d, e => eqP d e
def neD (d e : D) : Option Bool := match d, e with
  | .tup ds, .tup [] => some (!ds.isEmpty)
  | d, e => (eqD d e).map (!·)
def rEqU (K : PySem.W.Frag) : R2 := fun x y H Q => (∃ a b, x = .str a ∧ y = .str b ∧ Q (.bl (decide (a = b))) H) ∨ rEqD K x y H Q
def rNeN (K : PySem.W.Frag) : R2 := fun x y H Q => ∃ a b xs, x = .ref a ∧ y = .ref b ∧ SqT K H a xs ∧ SqT K H b [] ∧ Q (.bl (!xs.isEmpty)) H
theorem op_neN {X : Cx} (hu : X.A.units + 64 < cLine) : OpR X (compareOp .NotEq) (rNeN X.K) := fun pins s σ H x y v u Q I rx ry ⟨a, b, xs, e1, e2, h1, h2, q⟩ => by
  subst e1 e2
  cases rx; cases ry
  obtain ⟨its, rv, p, _⟩ := I.tuple h1
  obtain ⟨ws, rw', p2, _⟩ := I.tuple h2
  cases rw'
  have hl := rv.length
  refine SeqAt.RcNeAt.tuples (e := fun _ => true) (A := X.A) (s := s) p p2 (by omega) (fun j h1 h2 => by simp at h2) X.prog X.w _ _ ⟨.bl (!xs.isEmpty), H, I, ?_, q⟩
  show _ = Value.bool _
  cases xs with
  | nil => cases rv; rfl
  | cons _ _ => cases rv; simp
def rNeU (K : PySem.W.Frag) : R2 := fun x y H Q => (∃ a b, x = .str a ∧ y = .str b ∧ Q (.bl (!decide (a = b))) H) ∨ rNeD K x y H Q ∨ rNeN K x y H Q
theorem dec_str' {a b : Str} : decide (V.str a = V.str b) = decide (a = b) := by
  by_cases h : a = b
  · simp [h]
  · rw [decide_eq_false h, decide_eq_false fun z => h (by cases z; rfl)]
theorem op_eqU {X : Cx} (hu : X.A.units + 64 < cLine) : OpR X (compareOp .Eq) (rEqU X.K) := OpR.or (fun pins s σ H x y v u Q I rx ry ⟨a, b, e1, e2, q⟩ => by subst e1 e2; exact op_eq pins s σ H _ _ v u Q I rx ry ⟨rfl, by rw [dec_str']; exact q⟩) (op_eqD hu)
theorem op_neU {X : Cx} (hu : X.A.units + 64 < cLine) : OpR X (compareOp .NotEq) (rNeU X.K) := OpR.or (fun pins s σ H x y v u Q I rx ry ⟨a, b, e1, e2, q⟩ => by subst e1 e2; exact op_ne pins s σ H _ _ v u Q I rx ry ⟨rfl, by rw [dec_str']; exact q⟩) ((op_neD hu).or (op_neN hu))
theorem eqP_some {d e : D} {b : Bool} (h : eqP d e = some b) : ∃ p q, d.py = some p ∧ e.py = some q ∧ SeqAt.shaped p = true ∧ SeqAt.shaped q = true ∧ b = PyData.eqv p q := by
  unfold eqP at h
  split at h
  · rename_i p q h1 h2
    by_cases c : (SeqAt.shaped p && SeqAt.shaped q) = true
    · rw [if_pos c] at h
      cases h
      exact ⟨p, q, h1, h2, (Bool.and_eq_true_iff.mp c).1, (Bool.and_eq_true_iff.mp c).2, rfl⟩
    · rw [if_neg c] at h; cases h
  · cases h
theorem eqD_run {ρ : List Addr} {H : Hp} {B : Addr → Prop} {x y : V} {d e : D} {b : Bool} {Q : VK} (hx : Vw C ρ H B x d) (hy : Vw C ρ H B y e) (h : eqD d e = some b) (q : Q (.bl b) H) : rEqU C.K x y H Q := by
  unfold eqD at h
  split at h
  · cases h
    cases hx.den trivial; cases hy.den trivial
    exact .inl ⟨_, _, rfl, rfl, q⟩
  · obtain ⟨p, p', h1, h2, h3, h4, rfl⟩ := eqP_some h
    exact .inr ⟨p, p', hx.dp h1, hy.dp h2, h3, h4, q⟩
theorem neD_run {ρ : List Addr} {H : Hp} {B : Addr → Prop} {x y : V} {d e : D} {b : Bool} {Q : VK} (hx : Vw C ρ H B x d) (hy : Vw C ρ H B y e) (h : eqD d e = some b) (q : Q (.bl (!b)) H) : rNeU C.K x y H Q := by
  unfold eqD at h
  split at h
  · cases h
    cases hx.den trivial; cases hy.den trivial
    exact .inl ⟨_, _, rfl, rfl, q⟩
  · obtain ⟨p, p', h1, h2, h3, h4, rfl⟩ := eqP_some h
    exact .inr (.inl ⟨p, p', hx.dp h1, hy.dp h2, h3, h4, q⟩)
theorem od_eq : OpD C (rEqU C.K) (obl eqD) := fun ρ B H x y d e z Q ht hx hy hz k => by
  unfold obl at hz
  cases q : eqD d e with
  | none => rw [q] at hz; cases hz
  | some b =>
    rw [q] at hz
    cases hz
    exact eqD_run hx hy q (k _ H Ext.refl (.bl _))
theorem od_ne : OpD C (rNeU C.K) (obl neD) := fun ρ B H x y d e z Q ht hx hy hz k => by
  unfold obl neD at hz
  split at hz
  · cases hz
    obtain ⟨l, xs, rfl, h1, r1⟩ := hx.tupSq
    obtain ⟨m, ys, rfl, h2, r2⟩ := hy.tupSq
    cases r2
    exact .inr (.inr ⟨l, m, xs, rfl, rfl, h1, h2, k _ H Ext.refl (by rw [r1.isEmpty]; exact .bl _)⟩)
  · cases q : eqD d e with
    | none => rw [q] at hz; cases hz
    | some b =>
      rw [q] at hz
      cases hz
      exact neD_run hx hy q (k _ H Ext.refl (.bl _))
end
end On

set_option Elab.async false
set_option linter.all false
set_option maxRecDepth 100000
set_option maxHeartbeats 2000000
set_option autoImplicit false
namespace On
open PySem PySem.Spec PyProof.Rows L2

section
variable {C : Cb}
/-! ### in, not in: flat items -/
def flatD : D → Option V
  | .non => some .non
  | .bl b => some (.bl b)
  | .int i => some (.int i)
  | .str x => some (.str x)
  | _ => none
def flatA : List D → Option (List V)
  | [] => some []
  | d :: ds => match flatD d, flatA ds with
    | some v, some vs => some (v :: vs)
    | _, _ => none
theorem Den.flat {ρ : List Addr} {H : Hp} {B : Addr → Prop} {v w : V} {d : D} (h : Den C ρ H B v d) (e : flatD d = some w) : v = w ∧ flatV v = true := by
  cases h <;> first | (cases e; exact ⟨rfl, rfl⟩) | cases e
theorem DenA.flat {ρ : List Addr} {H : Hp} {B : Addr → Prop} : ∀ {vs ws : List V} {ds : List D}, DenA C ρ H B vs ds → flatA ds = some ws → vs = ws ∧ vs.all flatV = true
  | _, _, _, .nil, e => by cases e; exact ⟨rfl, rfl⟩
  | _, ws, _, .cons (v := v) (vs := vs) (d := d) (ds := ds) h r, e => by
    unfold flatA at e
    cases q1 : flatD d with
    | none => rw [q1] at e; cases e
    | some w =>
      cases q2 : flatA ds with
      | none => rw [q1, q2] at e; cases e
      | some us =>
        rw [q1, q2] at e
        cases e
        obtain ⟨e1, f1⟩ := h.flat q1
        obtain ⟨e2, f2⟩ := r.flat q2
        subst e1 e2
        exact ⟨rfl, by rw [List.all_cons, f1, f2]; rfl⟩
theorem Vw.flat {ρ : List Addr} {H : Hp} {B : Addr → Prop} {v w : V} {d : D} (h : Vw C ρ H B v d) (e : flatD d = some w) : v = w ∧ flatV v = true := by
  cases h with
  | of h => exact h.flat e
  | _ => cases e
def inD (d e : D) : Option Bool := match seqOf e with
  | some ds => (match flatD d, flatA ds with
    | some v, some vs => some (inV v vs)
    | _, _ => none)
  | none => none
def ninD (d e : D) : Option Bool := (inD d e).map (!·)
theorem inD_some {d e : D} {b : Bool} {ρ : List Addr} {H : Hp} {B : Addr → Prop} {x y : V} (hx : Vw C ρ H B x d) (hy : Vw C ρ H B y e) (h : inD d e = some b) :
    ∃ p xs, y = .ref p ∧ (SqL C.K H p xs ∨ SqT C.K H p xs) ∧ flatV x = true ∧ xs.all flatV = true ∧ b = inV x xs := by
  unfold inD at h
  have fin : ∀ {ds : List D} {xs : List V}, DenA C ρ H B xs ds → (match flatD d, flatA ds with
    | some v, some vs => some (inV v vs)
    | _, _ => none) = some b → flatV x = true ∧ xs.all flatV = true ∧ b = inV x xs := fun {ds xs} r h => by
    cases q1 : flatD d with
    | none => rw [q1] at h; cases h
    | some v =>
      cases q2 : flatA ds with
      | none => rw [q1, q2] at h; cases h
      | some vs =>
        rw [q1, q2] at h
        cases h
        obtain ⟨e1, f1⟩ := hx.flat q1
        obtain ⟨e2, f2⟩ := r.flat q2
        subst e1 e2
        exact ⟨f1, f2, rfl⟩
  cases e with
  | lst ds =>
    obtain ⟨a, xs, rfl, hs, r⟩ := hy.lstSq
    exact ⟨a, xs, rfl, .inl hs, fin r h⟩
  | tup ds =>
    obtain ⟨a, xs, rfl, hs, r⟩ := hy.tupSq
    exact ⟨a, xs, rfl, .inr hs, fin r h⟩
  | _ => cases h
theorem od_in : OpD C (rIn C.K false) (obl inD) := fun ρ B H x y d e z Q ht hx hy hz k => by
  unfold obl at hz
  cases q : inD d e with
  | none => rw [q] at hz; cases hz
  | some b =>
    rw [q] at hz
    cases hz
    obtain ⟨p, xs, h1, h2, h3, h4, h5⟩ := inD_some hx hy q
    exact ⟨p, xs, h1, h2, h3, h4, k _ H Ext.refl (by rw [h5]; exact .bl _)⟩
theorem od_nin : OpD C (rIn C.K true) (obl ninD) := fun ρ B H x y d e z Q ht hx hy hz k => by
  unfold obl ninD at hz
  cases q : inD d e with
  | none => rw [q] at hz; cases hz
  | some b =>
    rw [q] at hz
    cases hz
    obtain ⟨p, xs, h1, h2, h3, h4, h5⟩ := inD_some hx hy q
    exact ⟨p, xs, h1, h2, h3, h4, k _ H Ext.refl (by rw [h5]; exact .bl _)⟩
/-! ### places -/
def itemsOf : D → Option (List D)
  | .lst ds => some ds
  | .tup ds => some ds
  | .frz ds => some ds
  | _ => none
def fIx : D → D → Option D
  | .lst ds, .int i => atI ds i
  | .tup ds, .int i => atI ds i
  | .frz ds, .int i => atI ds i
  | .str x, .int i => if x.length ≤ 100000 then (atI x.cps.toList i).map fun c => .str ⟨#[c]⟩ else none
  | _, _ => none
theorem DenA.atI {ρ : List Addr} {H : Hp} {B : Addr → Prop} {vs : List V} {ds : List D} {i : Int} {d : D} (r : DenA C ρ H B vs ds) (h : atI ds i = some d) : ∃ v, atI vs i = some v ∧ Den C ρ H B v d := by
  unfold L2.atI at h ⊢
  rw [r.length]
  cases q : ixN ds.length i with
  | none => rw [q] at h; cases h
  | some j => rw [q] at h; exact r.get h
theorem od_ix : OpD C (rIx C.K) fIx := fun ρ B H x y d e z Q ht hx hy hz k => by
  unfold fIx at hz
  split at hz
  · cases hy.den trivial
    obtain ⟨a, xs, rfl, hs, r⟩ := hx.lstSq
    obtain ⟨v, hv, hd⟩ := r.atI hz
    exact .inl ⟨a, xs, _, v, rfl, rfl, hs, hv, k _ H Ext.refl hd⟩
  · cases hy.den trivial
    obtain ⟨a, xs, rfl, hs, r⟩ := hx.tupSq
    obtain ⟨v, hv, hd⟩ := r.atI hz
    exact .inr (.inl ⟨a, xs, _, v, rfl, rfl, hs, hv, k _ H Ext.refl hd⟩)
  · cases hy.den trivial
    obtain ⟨a, xs, rfl, hs, r⟩ := hx.frzSq
    obtain ⟨v, hv, hd⟩ := r.atI hz
    exact .inl ⟨a, xs, _, v, rfl, rfl, hs, hv, k _ H Ext.refl hd⟩
  · rename_i x i
    by_cases c : x.length ≤ 100000
    · rw [if_pos c] at hz
      cases hx.den trivial; cases hy.den trivial
      cases q : L2.atI x.cps.toList i with
      | none => rw [q] at hz; cases hz
      | some c' =>
        rw [q] at hz
        cases hz
        exact .inr (.inr ⟨_, _, c', rfl, rfl, sz5 c, q, k _ H Ext.refl (.str _)⟩)
    · rw [if_neg c] at hz; cases hz
  · cases hz
/-! ### slices -/
def cutD {α : Type} (xs : List α) (lo hi : Option Int) : List α := (xs.drop (HT.sIx xs.length 0 lo)).take (HT.sIx xs.length xs.length hi - HT.sIx xs.length 0 lo)
def fSl (d : D) (lo hi : Option Int) : Option D := match d with
  | .lst ds => some (.lst (cutD ds lo hi))
  | .tup ds => some (.tup (cutD ds lo hi))
  | .str x => if x.length ≤ 100000 then some (.str (cutS x lo hi)) else none
  | _ => none
def rSlU (K : PySem.W.Frag) : V → Option Int → Option Int → Hp → VK → Prop := fun x lo hi H Q => (rSlL K x lo hi H Q ∨ rSlA K x lo hi H Q) ∨ rSlS x lo hi H Q
theorem sl_U {X : Cx} : SlR X (rSlU X.K) := (sl_list.or sl_tupA).or sl_str
theorem DenA.take {ρ : List Addr} {H : Hp} {B : Addr → Prop} : ∀ {vs : List V} {ds : List D} (n : Nat), DenA C ρ H B vs ds → DenA C ρ H B (vs.take n) (ds.take n)
  | _, _, 0, _ => .nil
  | _, _, _ + 1, .nil => .nil
  | _, _, n + 1, .cons h r => .cons h (r.take n)
theorem DenA.drop {ρ : List Addr} {H : Hp} {B : Addr → Prop} : ∀ {vs : List V} {ds : List D} (n : Nat), DenA C ρ H B vs ds → DenA C ρ H B (vs.drop n) (ds.drop n)
  | _, _, 0, r => r
  | _, _, _ + 1, .nil => .nil
  | _, _, n + 1, .cons h r => r.drop n
theorem DenA.cut {ρ : List Addr} {H : Hp} {B : Addr → Prop} {vs : List V} {ds : List D} (r : DenA C ρ H B vs ds) (lo hi : Option Int) : DenA C ρ H B (cutV vs lo hi) (cutD ds lo hi) := by
  unfold cutV cutD
  rw [r.length]
  exact (r.drop _).take _
def SlD (C : Cb) (r : V → Option Int → Option Int → Hp → VK → Prop) (f : D → Option Int → Option Int → Option D) : Prop := ∀ ρ B H x d lo hi z Q, Trk B H → Vw C ρ H B x d → f d lo hi = some z → (∀ v H', Ext H H' → Den C ρ H' B v z → Q v H') → r x lo hi H Q
theorem sd_U : SlD C (rSlU C.K) fSl := fun ρ B H x d lo hi z Q ht hx hz k => by
  unfold fSl at hz
  split at hz
  · cases hz
    obtain ⟨a, xs, rfl, hs, r⟩ := hx.lstSq
    refine .inl (.inl ⟨a, xs, rfl, hs, fun p hp => ?_⟩)
    have x0 : Ext H (upd H p (.lst (cutV xs lo hi))) := Ext.new hp
    exact k _ _ x0 (.lst upd_same (trk_no ht hp) ((r.cut lo hi).mono x0.pres Pfx.refl))
  · rename_i ds
    cases hz
    have hx' := hx.den trivial
    obtain ⟨a, xs, rfl, hs, r⟩ := hx.tupSq
    refine .inl (.inr ⟨a, xs, rfl, hs, fun hw => ?_, fun _ p hp => ?_⟩)
    · have e : cutD ds lo hi = ds := by
        unfold cutD
        rw [← r.length, hw.1, hw.2, r.length]
        simp
      rw [e] at k
      exact k _ H Ext.refl hx'
    · have x0 : Ext H (upd H p (.tup (cutV xs lo hi))) := Ext.new hp
      exact k _ _ x0 (.tup upd_same (trk_no ht hp) ((r.cut lo hi).mono x0.pres Pfx.refl))
  · rename_i y
    by_cases c : y.length ≤ 100000
    · rw [if_pos c] at hz
      cases hz
      cases hx.den trivial
      exact .inr ⟨y, rfl, sz5 c, k _ H Ext.refl (.str _)⟩
    · rw [if_neg c] at hz; cases hz
  · cases hz
/-! ### built-ins -/
def lenD : D → Option Nat
  | .lst ds => some ds.length
  | .tup ds => some ds.length
  | .frz ds => some ds.length
  | .str x => if x.length ≤ 100000 then some x.length else none
  | _ => none
def fLen : List D → Option D
  | [d] => (lenD d).map fun n => .int n
  | _ => none
theorem lenD_ok {ρ : List Addr} {H : Hp} {B : Addr → Prop} {v : V} {d : D} {n : Nat} (h : Vw C ρ H B v d) (e : lenD d = some n) : LenV C.K v H n := by
  cases d with
  | lst ds => obtain ⟨a, xs, rfl, hs, r⟩ := h.lstSq; cases e; exact .inl ⟨xs, hs, r.length.symm⟩
  | frz ds => obtain ⟨a, xs, rfl, hs, r⟩ := h.frzSq; cases e; exact .inl ⟨xs, hs, r.length.symm⟩
  | tup ds => obtain ⟨a, xs, rfl, hs, r⟩ := h.tupSq; cases e; exact .inr ⟨xs, hs, r.length.symm⟩
  | str x =>
    cases h.den trivial
    have e : (if x.length ≤ 100000 then some x.length else none) = some n := e
    by_cases c : x.length ≤ 100000
    · rw [if_pos c] at e
      cases e
      exact ⟨sz5 c, rfl⟩
    · rw [if_neg c] at e; cases e
  | _ => cases e
theorem cd_len : CallD C (fun xs H Q => ∃ x n, xs = [x] ∧ LenV C.K x H n ∧ Q (.int n) H) fLen := fun ρ B H xs ds z Q ht hx hz k => by
  unfold fLen at hz
  split at hz
  · rename_i d
    cases hx with
    | cons h r =>
      cases r
      cases q : lenD d with
      | none => rw [q] at hz; cases hz
      | some n =>
        rw [q] at hz
        cases hz
        exact ⟨_, n, rfl, lenD_ok h q, k _ H Ext.refl (.int _)⟩
  · cases hz
/-- list(x), tuple(x) -/
def fList : List D → Option D
  | [.lst ds] => some (.lst ds)
  | [.tup ds] => some (.lst ds)
  | _ => none
def fTuple : List D → Option D
  | [.lst ds] => some (.tup ds)
  | [.tup ds] => some (.tup ds)
  | _ => none
theorem VwA.one {ρ : List Addr} {H : Hp} {B : Addr → Prop} {vs : List V} {d : D} (r : VwA C ρ H B vs [d]) : ∃ v, vs = [v] ∧ Vw C ρ H B v d := by
  cases r with
  | cons h r => cases r; exact ⟨_, rfl, h⟩
theorem cd_list : CallD C (fun xs H Q => ∃ p ys, xs = [.ref p] ∧ (SqL C.K H p ys ∨ SqT C.K H p ys) ∧ ∀ l, H l = none → Q (.ref l) (upd H l (.lst ys))) fList := fun ρ B H xs ds z Q ht hx hz k => by
  unfold fList at hz
  split at hz
  · cases hz
    obtain ⟨v, rfl, h⟩ := hx.one
    obtain ⟨a, xs, rfl, hs, r⟩ := h.lstSq
    refine ⟨a, xs, rfl, .inl hs, fun p hp => ?_⟩
    have x0 : Ext H (upd H p (.lst xs)) := Ext.new hp
    exact k _ _ x0 (.lst upd_same (trk_no ht hp) (r.mono x0.pres Pfx.refl))
  · cases hz
    obtain ⟨v, rfl, h⟩ := hx.one
    obtain ⟨a, xs, rfl, hs, r⟩ := h.tupSq
    refine ⟨a, xs, rfl, .inr hs, fun p hp => ?_⟩
    have x0 : Ext H (upd H p (.lst xs)) := Ext.new hp
    exact k _ _ x0 (.lst upd_same (trk_no ht hp) (r.mono x0.pres Pfx.refl))
  · cases hz
theorem cd_tuple : CallD C (fun xs H Q => ∃ p ys, xs = [.ref p] ∧ ((SqL C.K H p ys ∧ ∀ l, H l = none → Q (.ref l) (upd H l (.tup ys))) ∨ (SqT C.K H p ys ∧ Q (.ref p) H))) fTuple := fun ρ B H xs ds z Q ht hx hz k => by
  unfold fTuple at hz
  split at hz
  · cases hz
    obtain ⟨v, rfl, h⟩ := hx.one
    obtain ⟨a, xs, rfl, hs, r⟩ := h.lstSq
    refine ⟨a, xs, rfl, .inl ⟨hs, fun p hp => ?_⟩⟩
    have x0 : Ext H (upd H p (.tup xs)) := Ext.new hp
    exact k _ _ x0 (.tup upd_same (trk_no ht hp) (r.mono x0.pres Pfx.refl))
  · cases hz
    obtain ⟨v, rfl, h⟩ := hx.one
    have h' := h.den trivial
    obtain ⟨a, xs, rfl, hs, r⟩ := h.tupSq
    exact ⟨a, xs, rfl, .inr ⟨hs, k _ H Ext.refl h'⟩⟩
  · cases hz
/-- int(x) of ints and bools, abs, max, min of two -/
def fInt : List D → Option D
  | [.int i] => some (.int i)
  | [.bl b] => some (.int (b2 b))
  | _ => none
theorem cd_int : CallD C (fun xs H Q => (∃ i, xs = [.int i] ∧ Q (.int i) H) ∨ ∃ k, xs = [.bl k] ∧ Q (.int (if k then 1 else 0)) H) fInt := fun ρ B H xs ds z Q ht hx hz k => by
  unfold fInt at hz
  split at hz
  · cases hz
    obtain ⟨v, rfl, h⟩ := hx.one
    cases h.den trivial
    exact .inl ⟨_, rfl, k _ H Ext.refl (.int _)⟩
  · cases hz
    obtain ⟨v, rfl, h⟩ := hx.one
    cases h.den trivial
    exact .inr ⟨_, rfl, k _ H Ext.refl (.int _)⟩
  · cases hz
def fAbs : List D → Option D
  | [.int i] => some (.int (if i < 0 then -i else i))
  | _ => none
theorem cd_abs : CallD C (fun xs H Q => ∃ i, xs = [.int i] ∧ Q (.int (if i < 0 then -i else i)) H) fAbs := fun ρ B H xs ds z Q ht hx hz k => by
  unfold fAbs at hz
  split at hz
  · cases hz
    obtain ⟨v, rfl, h⟩ := hx.one
    cases h.den trivial
    exact ⟨_, rfl, k _ H Ext.refl (.int _)⟩
  · cases hz
def fMax : List D → Option D
  | [.int i, .int j] => some (.int (if j > i then j else i))
  | _ => none
def fMin : List D → Option D
  | [.int i, .int j] => some (.int (if j < i then j else i))
  | _ => none
theorem VwA.two {ρ : List Addr} {H : Hp} {B : Addr → Prop} {vs : List V} {d e : D} (r : VwA C ρ H B vs [d, e]) : ∃ v w, vs = [v, w] ∧ Vw C ρ H B v d ∧ Vw C ρ H B w e := by
  cases r with
  | cons h r =>
    obtain ⟨w, rfl, h2⟩ := r.one
    exact ⟨_, _, rfl, h, h2⟩
theorem cd_max : CallD C (fun xs H Q => ∃ i j, xs = [.int i, .int j] ∧ Q (.int (if j > i then j else i)) H) fMax := fun ρ B H xs ds z Q ht hx hz k => by
  unfold fMax at hz
  split at hz
  · cases hz
    obtain ⟨v, w, rfl, h1, h2⟩ := hx.two
    cases h1.den trivial; cases h2.den trivial
    exact ⟨_, _, rfl, k _ H Ext.refl (.int _)⟩
  · cases hz
theorem cd_min : CallD C (fun xs H Q => ∃ i j, xs = [.int i, .int j] ∧ Q (.int (if j < i then j else i)) H) fMin := fun ρ B H xs ds z Q ht hx hz k => by
  unfold fMin at hz
  split at hz
  · cases hz
    obtain ⟨v, w, rfl, h1, h2⟩ := hx.two
    cases h1.den trivial; cases h2.den trivial
    exact ⟨_, _, rfl, k _ H Ext.refl (.int _)⟩
  · cases hz
/-- all, any of a list of truths -/
def blsOf : List D → Option (List Bool)
  | [] => some []
  | .bl b :: ds => (blsOf ds).map (b :: ·)
  | _ => none
theorem DenA.bls {ρ : List Addr} {H : Hp} {B : Addr → Prop} : ∀ {vs : List V} {ds : List D} {bs : List Bool}, DenA C ρ H B vs ds → blsOf ds = some bs → vs = bs.map V.bl
  | _, _, _, .nil, e => by cases e; rfl
  | _, _, bs, .cons (d := d) (ds := ds) h r, e => by
    cases d with
    | bl b =>
      have e : (blsOf ds).map (b :: ·) = some bs := e
      cases q : blsOf ds with
      | none => rw [q] at e; cases e
      | some cs =>
        rw [q] at e
        cases e
        cases h
        rw [r.bls q]
        rfl
    | _ => cases e
def fAll : List D → Option D
  | [.lst ds] => (blsOf ds).map fun bs => .bl (bs.all id)
  | _ => none
def fAny : List D → Option D
  | [.lst ds] => (blsOf ds).map fun bs => .bl (bs.any id)
  | _ => none
theorem cd_all : CallD C (rAll C.K) fAll := fun ρ B H xs ds z Q ht hx hz k => by
  unfold fAll at hz
  split at hz
  · rename_i ds
    obtain ⟨v, rfl, h⟩ := hx.one
    obtain ⟨a, xs, rfl, hs, r⟩ := h.lstSq
    cases q : blsOf ds with
    | none => rw [q] at hz; cases hz
    | some bs =>
      rw [q] at hz
      cases hz
      exact ⟨a, bs, rfl, by rw [← r.bls q]; exact hs, k _ H Ext.refl (.bl _)⟩
  · cases hz
theorem cd_any : CallD C (rAny C.K) fAny := fun ρ B H xs ds z Q ht hx hz k => by
  unfold fAny at hz
  split at hz
  · rename_i ds
    obtain ⟨v, rfl, h⟩ := hx.one
    obtain ⟨a, xs, rfl, hs, r⟩ := h.lstSq
    cases q : blsOf ds with
    | none => rw [q] at hz; cases hz
    | some bs =>
      rw [q] at hz
      cases hz
      exact ⟨a, bs, rfl, by rw [← r.bls q]; exact hs, k _ H Ext.refl (.bl _)⟩
  · cases hz
end
end On

set_option Elab.async false
set_option linter.all false
set_option maxRecDepth 100000
set_option maxHeartbeats 2000000
set_option autoImplicit false
namespace On
open PySem PySem.Spec PyProof.Rows L2
/-! ### an error as a value -/
section
variable {prog : Program} {w : World} {A : Around} {E : Value → Shared → Prop} {s : Shared} {K : PySem.W.Frag} {x D : Addr} {ox : Obj} {od : Option Obj}
theorem findObj_dataA {C : Addr} {name : Str} {a g : Value} (hc : (PySem.W.clsIn K C).isSome = true) (ha : PySem.W.findIn K (.ref C) name = some (some a)) (hg : PySem.W.specialIn K a "__get__" = some (some g)) (ht : PySem.W.takesIn K a = some true) : PySem.W.findObj K C od name = some (.bind g a) := by
  obtain ⟨cd, hc⟩ := Option.isSome_iff_exists.mp hc
  unfold PySem.W.findObj
  rw [hc, Option.bind_some, ha, Option.bind_some]
  simp [hg, ht]
theorem cls_isSome (T : ExcC K D) : (PySem.W.clsIn K D).isSome = true := by
  obtain ⟨cd, hc, _⟩ := PySem.W.any_some T.hd
  rw [hc]
  rfl
theorem exc_class {Q : Option Value → Shared → Prop} (T : ExcC K D) (X : K.In s.heap) (I : PySem.W.InstAt s.heap x ox D od) (h : Q (some (.ref D)) { s with toks := s.toks + 1 }) : wpAny (model prog w) A (getAttr? (.ref x) "__class__") Q E s := by
  have hf : PySem.W.findObj K D od "__class__" = some (.bind (.builtin "getset_descriptor.__get__") (.builtin "object.__class__")) := findObj_dataA (cls_isSome T) T.ha T.hn T.ht
  obtain ⟨hp, g, d, t, os⟩ := s
  have L0 := I.type (M := model prog w)
  have L1 := PySem.W.looks_findIn (M := model prog w) X T.hg
  have L2 := PySem.W.looks_findIn (M := model prog w) X T.hk
  have L3 := PySem.W.looks_find (M := model prog w) X I hf
  have sub : PySem.W.Looks (model prog w) hp (isInstance (.ref x) (.type "BaseException")) true := L0.andThen (PySem.W.looks_subIn X T.hs)
  have hx0 : (false && onTheHeap (Value.builtin "BaseException.__getattribute__")) = false := rfl
  have hx2 : (Value.builtin "BaseException.__getattribute__" == Value.builtin "object.__getattribute__") = false := by decide +kernel
  have hx1 : (onTheHeap (Value.ref D) && Value.builtin "BaseException.__getattribute__" == Value.builtin "object.__getattribute__") = false := by rw [hx2]; rfl
  unfold getAttr? getAttrBy? getAttrBy
  refine wpAny_bind (wpAny_mkText (wpAny_bind (wpAny_attempt (wpAny_holding (wpAny_bind (L0.at (wpAny_bind (L1.at ?_))))))))
  show wpAny _ _ (if (onTheHeap (Value.ref D) && Value.builtin "BaseException.__getattribute__" == Value.builtin "object.__getattribute__") = true then _ else _) _ _ _
  rw [hx1, if_neg Bool.false_ne_true]
  unfold getAttrByItsOwn hookBefore
  refine wpAny_bind ?_
  rw [if_pos (show onTheHeap (Value.ref D) = true from rfl)]
  refine L2.at ?_
  refine wpAny_bind (wpAny_attempt (wpAny_holding ?_))
  unfold callGetattribute
  rw [hx0, if_neg Bool.false_ne_true]
  unfold boundAndCalled
  rw [PySem.F.excAttr_ValueError.ga.bind (.ref x)]
  refine wpAny_bind (wpAny_pure ?_)
  show wpAny _ _ (call (.builtin "BaseException.__getattribute__") [.ref x, .str "__class__" t]) _ _ _
  refine wpAny_call (codeAny_call_builtin PySem.F.excAttr_ValueError.ga.plain PySem.F.entry_bexc_ga ?_)
  refine @PySem.W.check_slot (model prog w) _ _ ⟨hp, g, d, t + 1, os⟩ "BaseException.__getattribute__" "BaseException" "__getattribute__" (.ref x) [.str "__class__" t] [] _ (by decide +kernel) (by decide +kernel) sub (PySem.F.args_bexc_ga (.ref x) (.str "__class__" t)) ?_
  unfold Builtin.«object.__getattribute__»
  refine wpAny_bind (wpAny_of_eq (a := ((Value.ref x : Value), [Value.str "__class__" t])) (by first | rfl | (simp only [slotArgs]; rfl)) ?_)
  refine wpAny_bind (wpAny_pure (wpAny_bind (L0.at (wpAny_bind (L3.at ?_)))))
  show wpAny _ _ (holding [Value.builtin "object.__class__"] (call (.builtin "getset_descriptor.__get__") [.builtin "object.__class__", .ref x, .ref D]) >>= ret) _ _ _
  refine wpAny_bind (wpAny_holding (wpAny_call (PySem.W.class_get (s := ⟨hp, g, d, t + 1, os⟩) (ox := ox) (od := od) X I T.hm ?_)))
  refine wpAny_pure ?_
  show wpAny _ _ (handedOut (.ref D)) _ _ _
  rw [PySem.W.handedOut_of (v := .ref D) rfl]
  first
    | exact wpAny_pure (wpAny_pure h)
    | exact wpAny_pure h
    | exact wpAny_pure (wpAny_bind (wpAny_pure (wpAny_pure h)))
theorem kitx_exc (T : ExcC K D) : PySem.W.KitX K (.ref x) (.ref D) (fun h => ∃ ox od, PySem.W.InstAt h x ox D od) where
  ty := fun _ _ _ ⟨_, _, I⟩ => I.type
  it := fun _ _ X _ => by
    obtain ⟨cdD, hcD, _⟩ := PySem.W.any_some T.hd
    unfold PySem.W.clsIn at hcD
    split at hcD
    · rename_i c' d' cd' sl' ho
      intro A' Q' E' s' k q
      unfold isType loadHead
      exact wpAny_bind (wpAny_loadPart (k _ _ (X _ _ ho)) (wpAny_pure q))
    · cases hcD
  ne := fun h tp dd its n sl X htp => by
    obtain ⟨cdD, hcD, _⟩ := PySem.W.any_some T.hd
    refine Bool.eq_false_iff.mpr fun q => ?_
    have e : D = tp := Value.ref.inj (beq_iff_eq.mp q)
    subst e
    unfold PySem.W.clsIn at hcD
    split at hcD
    · rename_i c' d' cd' sl' ho
      have z := (X _ _ ho).symm.trans htp
      cases z
    · cases hcD
  ca := fun X ⟨_, _, I⟩ k => exc_class T X I k
end
theorem exo_inst {P : Program} {w : World} {H : Hp} {h : Heap} {a C dx : Addr} {fs : List (Str × V)} (hok : HOk P w H h) (he : XO H a C dx) (hd : H dx = some (.xd fs)) :
    ∃ (ox od : Obj) (mA : Str → Option Value), PySem.W.InstAt h a ox C (some od) ∧ (∀ f, PySem.W.lookIn f od = some (mA f)) ∧ ∀ f, RelO (fs.lookup f) (mA f) := by
  obtain ⟨oe, ho, hc, hdi, hnc⟩ : ∃ oe : Obj, h.get? a = some oe ∧ oe.cls = .ref C ∧ oe.dict = some dx ∧ PySem.W.notCls oe = true := by
    rcases he with he | he
    · obtain ⟨t1, ho⟩ := exo_at hok he
      exact ⟨_, ho, rfl, rfl, rfl⟩
    · obtain ⟨⟨oe, vs, h1, h2, h3, h4⟩, _⟩ := hok a _ he
      exact ⟨oe, h1, h2, h3, by unfold PySem.W.notCls; rw [h4]⟩
  have hx : ObjOk P w H h dx (.xd fs) := hok dx _ hd
  obtain ⟨mA, hns, hr⟩ := hx
  obtain ⟨od, hod, hl⟩ := lookIn_ns hns
  exact ⟨oe, od, mA, ⟨ho, hc, hnc, by rw [hdi]; exact hod⟩, hl, hr⟩
section
variable {X : Cx} {e : Expr} {te : TE} {pos p : Pos} {f : Str}
/-- e.f, e such an error -/
theorem pe_xfV (he : PE X e te) (hb : attributeBase e f X.env (eval e X.env) = eval e X.env := by rfl) :
    PE X (.Attribute e f pos) (fun σ H Q => te σ H fun x H1 => ∃ (a C dx : Addr) (fs : List (Str × V)) (v : V), x = .ref a ∧ ExcC X.K C ∧ PySem.W.findIn X.K (.ref C) f = some none ∧ XO H1 a C dx ∧ H1 dx = some (.xd fs) ∧ fs.lookup f = some v ∧ Q v H1) := by
  refine ⟨fun pins s σ H Q I h => ?_⟩
  refine attr_of hb (thn (he.run pins s σ H _ I h) fun u s1 hh => ?_)
  obtain ⟨x, H1, I1, rx, a, C, dx, fs, v, ex, T, hno, ea, ed, l, q⟩ := hh
  subst ex
  obtain rfl : u = Value.ref a := rx
  obtain ⟨ox, od, mA, J, hl, hr⟩ := exo_inst I1.hok ea ed
  obtain ⟨u, hu, ru⟩ := RelO.some_of (v := v) (o := mA f) (by rw [← l]; exact hr f)
  exact HandSPX.exc_get I1.kIn J T.hg T.hk T.hs (PySem.W.findObj_own T.hd hno rfl (by rw [hl, hu])) (handed_of ru) ⟨v, H1, I1.tok _, ru, q⟩
/-- isinstance(x, c), x such an error -/
def rIsX (K : PySem.W.Frag) : List V → Hp → VK → Prop := fun xs H Q => ∃ (a C dx : Addr) (fs : List (Str × V)) (c : V) (u : Value) (b : Bool), xs = [.ref a, c] ∧ ClsV c u ∧ ExcC K C ∧ XO H a C dx ∧ H dx = some (.xd fs) ∧ PySem.W.kitOne K (.ref C) u = some b ∧ Q (.bl b) H
theorem call_isX : CallR X (.builtin "isinstance") (rIsX X.K) := by
  intro pins s σ H xs us Q I r h
  obtain ⟨a, C, dx, fs, c, u, b, rfl, k, T, ea, ed, e, q⟩ := h
  obtain ⟨u1, u2, rfl, r1, r2⟩ := vals2 r
  have e2 := k.eq r2
  subst e2
  cases (show u1 = Value.ref a from r1)
  obtain ⟨ox, od, mA, J, hl, hr⟩ := exo_inst I.hok ea ed
  exact PySem.W.kia_one (kitx_exc T) I.kIn ⟨_, _, J⟩ e (fun z => nomatch z) fun tk => ⟨.bl b, H, I.tok tk, rfl, q⟩
end


theorem CallR.or {X : Cx} {f : Value} {r r' : List V → Hp → VK → Prop} (h : CallR X f r) (h' : CallR X f r') : CallR X f fun xs H Q => r xs H Q ∨ r' xs H Q := fun pins s σ H xs us Q I rv q => q.elim (h pins s σ H xs us Q I rv) (h' pins s σ H xs us Q I rv)
section
variable {C : Ct} {E : WX} {X : Cx} {a b e o : Expr} {es : List Expr} {ma mb me : Gm → J → R D} {mr : Gm → J → R (List D)} {pos p p2 : Pos}
/-! ### a[b], a[lo:hi] -/
theorem me_ix {r : R2} {f : D → D → Option D} (hr : IxR X r) (hf : OpD C.b r f) (ha : ME C E X a ma) (hb : ME C E X b mb) (hs : PlainIx b := by exact fun _ _ => rfl) : ME C E X (.Subscript a b pos) (m2 f ma mb) :=
  PE.imp (pe_ix hr ha hb hs) fun _ _ _ h => me_two hf (fun _ _ _ q => q) (fun _ _ _ q => q) h
abbrev MO (C : Ct) (E : WX) (X : Cx) (o : Option Expr) (m : Gm → J → R (Option Int)) : Prop :=
  PO X o fun σ H Q => St0 C E m σ H fun _ i _ _ H' => Q i H'
theorem PO.imp {o : Option Expr} {t t' : TO} (h : PO X o t) (k : ∀ σ H Q, t' σ H Q → t σ H Q) : PO X o t' := ⟨fun pins s σ H Q I q => h.run pins s σ H Q I (k σ H Q q)⟩
def oN : Gm → J → R (Option Int) := fun _ j => .ok none j
def oS (me : Gm → J → R D) : Gm → J → R (Option Int) := fun Γ j => (me Γ j).bind fun d j => match d with
  | .int i => .ok (some i) j
  | _ => .bad
theorem mo_none : MO C E X none oN := PO.imp po_none fun σ H Q ⟨O, ρ, Γ, j, S, h⟩ => Post.now S h
theorem mo_some (he : ME C E X e me) : MO C E X (some e) (oS me) := PO.imp (po_some he) fun σ H Q ⟨O, ρ, Γ, j, S, h⟩ => ⟨O, ρ, Γ, j, S, Post.imp (Post.bind S h) fun d j1 ρ1 H1 k1 S1 q v hv => by
  cases d with
  | int i => cases hv; exact ⟨i, rfl, Post.now S1 q⟩
  | _ => exact q.elim⟩
def mSl (f : D → Option Int → Option Int → Option D) (me : Gm → J → R D) (ml mh : Gm → J → R (Option Int)) : Gm → J → R D := fun Γ j => (me Γ j).bind fun d j => (ml Γ j).bind fun l j => (mh Γ j).bind fun h j => lift (f (deref j d) l h) j
theorem me_slice {lo hi : Option Expr} {ml mh : Gm → J → R (Option Int)} {r : V → Option Int → Option Int → Hp → VK → Prop} {f : D → Option Int → Option Int → Option D} (hr : SlR X r) (hf : SlD C.b r f) (he : ME C E X e me) (hl : MO C E X lo ml) (hu : MO C E X hi mh) :
    ME C E X (.Subscript e (.Slice lo hi none p2) pos) (mSl f me ml mh) :=
  PE.imp (pe_slice hr he hl hu) fun σ H Q ⟨O, ρ, Γ, j, S, h⟩ => ⟨O, ρ, Γ, j, S, Post.imp (Post.bind S h) fun d j1 ρ1 H1 k1 S1 q v hv =>
    ⟨O, ρ1, Γ, j1, S1, Post.imp (Post.bind S1 q) fun l j2 ρ2 H2 k2 S2 q2 => ⟨O, ρ2, Γ, j2, S2, Post.imp (Post.bind S2 q2) fun u j3 ρ3 H3 k3 S3 q3 => by
      obtain ⟨z, hz, q4⟩ := post_lift S3 q3
      exact hf ρ3 (Bo O ρ3 j3) H3 v _ l u z _ S3.trkB (S3.st.view (((S1.kpt k2 k3).step O).den hv)) hz q4⟩⟩⟩
/-! ### the module's names -/
theorem me_gint {x : Str} {i : Int} (hg : Gl X x) (hm : ∃ t, X.mg x = some (.int i t)) (hd : (x == ("__debug__" : Str)) = false := by decide) : ME C E X (.Name x pos) (mC (.int i)) := me_ofc (pe_glob (v := .int i) hg hm.choose_spec ⟨_, rfl⟩ hd) fun _ _ _ => .int i
theorem me_gstr {x : Str} {i : Str} (hg : Gl X x) (hm : ∃ t, X.mg x = some (.str i t)) (hd : (x == ("__debug__" : Str)) = false := by decide) : ME C E X (.Name x pos) (mC (.str i)) := me_ofc (pe_glob (v := .str i) hg hm.choose_spec ⟨_, rfl⟩ hd) fun _ _ _ => .str i
/-- a tuple of flat things that the module has written -/
theorem den_flat {ρ : List Addr} {H : Hp} {B : Addr → Prop} : ∀ {ds : List D} {vs : List V}, flatA ds = some vs → DenA C.b ρ H B vs ds
  | [], _, e => by cases e; exact .nil
  | d :: ds, vs, e => by
    unfold flatA at e
    cases q1 : flatD d with
    | none => rw [q1] at e; cases e
    | some w =>
      cases q2 : flatA ds with
      | none => rw [q1, q2] at e; cases e
      | some us =>
        rw [q1, q2] at e
        cases e
        refine .cons ?_ (den_flat q2)
        cases d <;> cases q1 <;> constructor
theorem me_gtup {x : Str} {l : Addr} {vs : List V} {ds : List D} (hg : Gl X x) (hm : X.mg x = some (.ref l)) (hs : SqT C.b.K Hn l vs) (hf : flatA ds = some vs) (hkp : keyP ds = false := by decide +kernel) (hd : (x == ("__debug__" : Str)) = false := by decide) : ME C E X (.Name x pos) (mC (.tup ds)) :=
  me_ofc (pe_glob (v := .ref l) hg hm rfl hd) fun ρ H B => .tupK hs hkp (den_flat hf)
/-! ### isinstance -/
def tyN : D → Option String
  | .non => some "NoneType"
  | .bl _ => some "bool"
  | .int _ => some "int"
  | .str _ => some "str"
  | .lst _ => some "list"
  | .frz _ => some "list"
  | .tup _ => some "tuple"
  | .dct _ => some "dict"
  | .tdc _ => some "dict"
  | _ => none
/-- what isinstance asks of an own class -/
structure IsC (K : PySem.W.Frag) (A : Addr) : Prop where
  cl : Cls K A
  ha : PySem.W.findIn K (.ref A) "__class__" = some (some (.builtin "object.__class__"))
  hn : PySem.W.specialIn K (.builtin "object.__class__") "__get__" = some (some (.builtin "getset_descriptor.__get__"))
  ht : PySem.W.takesIn K (.builtin "object.__class__") = some true
  hm : PySem.W.mroIn K A (.type "object") = some true
/-- ty: of a built-in type by its name; ow: of an own class; ox: of an own error class -/
def isiD (ty : String → Option Bool) (ow ox : Nat → Option Bool) : D → Option Bool := fun d => match d with
  | .ins c _ => ow c
  | .exn c _ => ox c
  | d => (tyN d).bind ty
theorem sqL_ty {K : PySem.W.Frag} {H : Hp} {l : Addr} {xs : List V} (h : SqL K H l xs) : TyX K H (.ref l) (.type "list") := by
  rcases h with (h | ⟨o, h⟩) | ⟨o, _, _, h, c, _⟩
  · exact .base (.lst h)
  · exact .base (.frz h)
  · exact .kList h c
theorem sqT_ty {K : PySem.W.Frag} {H : Hp} {l : Addr} {xs : List V} (h : SqT K H l xs) : TyX K H (.ref l) (.type "tuple") := by
  rcases h with (h | ⟨o, h⟩) | ⟨o, _, _, h, c, _⟩
  · exact .base (.tup h)
  · exact .fTuple h
  · exact .kTuple h c
/-- what the class of a value is asked for -/
def rIsU (K : PySem.W.Frag) : List V → Hp → VK → Prop := fun xs H Q => (∃ x c t u b, xs = [x, c] ∧ ClsV c u ∧ TyX K H x t ∧ PySem.W.kitOne K t u = some b ∧ Q (.bl b) H) ∨ rIsX K xs H Q
theorem isiD_ok {c : Cb} {u : Value} {cv : V} (hu : ClsV cv u) {ty : String → Option Bool} {ow ox : Nat → Option Bool} (h1 : ∀ t b, ty t = some b → PySem.W.kitOne c.K (.type t) u = some b) (h2 : ∀ n b, ow n = some b → IsC c.K (c.cm n) ∧ PySem.W.kitOne c.K (.ref (c.cm n)) u = some b)
    (h3 : ∀ n b, ox n = some b → ExcC c.K (c.cm n) ∧ PySem.W.kitOne c.K (.ref (c.cm n)) u = some b)
    {ρ : List Addr} {H : Hp} {B : Addr → Prop} {v : V} {d : D} {b : Bool} (h : Vw c ρ H B v d) (e : isiD ty ow ox d = some b) {Q : VK} (q : Q (.bl b) H) : rIsU c.K [v, cv] H Q := by
  have fin : ∀ t, TyX c.K H v t → PySem.W.kitOne c.K t u = some b → rIsU c.K [v, cv] H Q := fun t a b' => .inl ⟨v, cv, t, u, b, rfl, hu, a, b', q⟩
  cases h with
  | of h =>
    cases h with
    | non => exact fin _ (.base .non) (h1 _ _ e)
    | bl b => exact fin _ (.base (.bl b)) (h1 _ _ e)
    | int i => exact fin _ (.base (.int i)) (h1 _ _ e)
    | str x => exact fin _ (.base (.str x)) (h1 _ _ e)
    | lst h n r => exact fin _ (.base (.lst h)) (h1 _ _ e)
    | frz h n r => exact fin _ (sqL_ty (.inl h)) (h1 _ _ e)
    | frzK h r => exact fin _ (sqL_ty (sqLn h)) (h1 _ _ e)
    | tup h n r => exact fin _ (sqT_ty (.inl (.inl h))) (h1 _ _ e)
    | tupK h _ r => exact fin _ (sqT_ty (sqTn h)) (h1 _ _ e)
    | dK h n r =>
      rcases h with h | ⟨o, h⟩
      · exact fin _ (.base (.dK h)) (h1 _ _ e)
      · exact fin _ (.fDict h) (h1 _ _ e)
    | dT h n r => exact fin _ (.base (.dT h)) (h1 _ _ e)
    | fK h n r => cases e
    | fT h n r => cases e
    | ins h n r =>
      obtain ⟨q, z⟩ := h2 _ _ e
      exact fin _ (.base (.ins h q.cl q.ha q.hn q.ht q.hm)) z
    | exn h n hd n2 r =>
      obtain ⟨T, z⟩ := h3 _ _ e
      exact .inr ⟨_, _, _, _, cv, u, b, rfl, hu, T, h, hd, z, q⟩
    | loc _ => cases e
    | cls _ => cases e
  | lst h r => exact fin _ (.base (.lst h)) (h1 _ _ e)
  | dK h r => exact fin _ (.base (.dK h)) (h1 _ _ e)
  | dT h r => exact fin _ (.base (.dT h)) (h1 _ _ e)
  | fK h r => cases e
  | fT h r => cases e
  | ins h r =>
    obtain ⟨q, z⟩ := h2 _ _ e
    exact fin _ (.base (.ins h q.cl q.ha q.hn q.ht q.hm)) z
theorem me_isi {T : Expr} {cv : V} {u : Value} {ty : String → Option Bool} {ow ox : Nat → Option Bool} (hK : X.K = C.b.K) (hg : Gl X "isinstance") (hm : X.mg "isinstance" = none) (hT : PE X T (tC cv)) (hu : ClsV cv u)
    (h1 : ∀ t b, ty t = some b → PySem.W.kitOne C.b.K (.type t) u = some b) (h2 : ∀ n b, ow n = some b → IsC C.b.K (C.b.cm n) ∧ PySem.W.kitOne C.b.K (.ref (C.b.cm n)) u = some b) (h3 : ∀ n b, ox n = some b → ExcC C.b.K (C.b.cm n) ∧ PySem.W.kitOne C.b.K (.ref (C.b.cm n)) u = some b) (he : ME C E X e me)
    (hs : starEach [e, T] X.env = (false, eval e X.env) :: starEach [T] X.env := by rfl) (hs2 : starEach [T] X.env = (false, eval T X.env) :: starEach [] X.env := by rfl) (hpl : (backTo pos (starEach [T] X.env)).any (·.1) = false := by rfl) :
    ME C E X (.Call (.Name "isinstance" p) [e, T] [] pos) (m1 (fun d => (isiD ty ow ox d).map .bl) me) :=
  PE.imp (pe_callB (call_isi.or call_isX) hg hm (by decide +kernel) (pa_cons he (pa_cons hT pa_nil hs2) hs) (by decide) (by decide) hs hpl) fun σ H Q ⟨O, ρ, Γ, j, S, h⟩ => ⟨O, ρ, Γ, j, S, Post.imp (Post.bind S h) fun d j1 ρ1 H1 k1 S1 q v hv => by
    obtain ⟨z, hz, q⟩ := post_lift S1 q
    dsimp only at hz
    cases q1 : isiD ty ow ox (deref j1 d) with
    | none => rw [q1] at hz; cases hz
    | some b =>
      rw [q1] at hz
      cases hz
      have := isiD_ok (H := H1) hu h1 h2 h3 (S1.st.view hv) q1 (q _ H1 Ext.refl (.bl _))
      rw [← hK] at this
      exact this⟩
/-! ### fields of things and of errors -/
def fldD (f : Str) (cs xs : List Nat) : D → Option D
  | .ins c fs => bif cs.contains c then fs.lookup f else none
  | .exn c fs => bif xs.contains c then fs.lookup f else none
  | _ => none
theorem DenF.look {c : Cb} {ρ : List Addr} {H : Hp} {B : Addr → Prop} {f : Str} {d : D} : ∀ {vs : List (Str × V)} {ds : List (Str × D)}, DenF c ρ H B vs ds → ds.lookup f = some d → ∃ v, vs.lookup f = some v ∧ Den c ρ H B v d
  | _, _, .nil, e => by cases e
  | _, _, .cons (f := g) (v := v) (d := d') (vs := vs) (ds := ds) h r, e => by
    rw [List.lookup_cons] at e ⊢
    cases q : (f == g) with
    | true => rw [q] at e; cases e; exact ⟨v, rfl, h⟩
    | false => rw [q] at e; exact r.look e
theorem DenF.nolook {c : Cb} {ρ : List Addr} {H : Hp} {B : Addr → Prop} {f : Str} : ∀ {vs : List (Str × V)} {ds : List (Str × D)}, DenF c ρ H B vs ds → ds.lookup f = none → vs.lookup f = none
  | _, _, .nil, e => rfl
  | _, _, .cons (f := g) (v := v) (d := d') (vs := vs) (ds := ds) h r, e => by
    rw [List.lookup_cons] at e ⊢
    cases q : (f == g) with
    | true => rw [q] at e; cases e
    | false => rw [q] at e; exact r.nolook e
theorem pe_fldU {f : Str} {te : TE} (he : PE X e te) (hb : attributeBase e f X.env (eval e X.env) = eval e X.env := by rfl) :
    PE X (.Attribute e f pos) (fun σ H Q => te σ H fun x H1 => (∃ a C dx fs v, x = .ref a ∧ H1 a = some (.ins C dx fs) ∧ Cls X.K C ∧ NoAttr X.K C f ∧ fs.lookup f = some v ∧ Q v H1) ∨
      ∃ (a C dx : Addr) (fs : List (Str × V)) (v : V), x = .ref a ∧ ExcC X.K C ∧ PySem.W.findIn X.K (.ref C) f = some none ∧ XO H1 a C dx ∧ H1 dx = some (.xd fs) ∧ fs.lookup f = some v ∧ Q v H1) := by
  refine ⟨fun pins s σ H Q I h => ?_⟩
  refine attr_of hb (thn (he.run pins s σ H _ I h) fun u s1 hh => ?_)
  obtain ⟨x, H1, I1, rx, hh⟩ := hh
  rcases hh with ⟨a, C, dx, fs, v, ex, ea, c, n, l, q⟩ | ⟨a, C, dx, fs, v, ex, T, hno, ea, ed, l, q⟩
  · subst ex
    obtain rfl : u = Value.ref a := rx
    exact getattr_ok I1 ea c n l fun u' s2 I2 ru => ⟨v, H1, I2, ru, q⟩
  · subst ex
    obtain rfl : u = Value.ref a := rx
    obtain ⟨ox, od, mA, J, hl, hr⟩ := exo_inst I1.hok ea ed
    obtain ⟨u, hu, ru⟩ := RelO.some_of (v := v) (o := mA f) (by rw [← l]; exact hr f)
    exact HandSPX.exc_get I1.kIn J T.hg T.hk T.hs (PySem.W.findObj_own T.hd hno rfl (by rw [hl, hu])) (handed_of ru) ⟨v, H1, I1.tok _, ru, q⟩
theorem me_fld {f : Str} {cs xs : List Nat} (hK : X.K = C.b.K) (hc : ∀ c, cs.contains c = true → Cls C.b.K (C.b.cm c) ∧ NoAttr C.b.K (C.b.cm c) f) (hx : ∀ c, xs.contains c = true → ExcC C.b.K (C.b.cm c) ∧ PySem.W.findIn C.b.K (.ref (C.b.cm c)) f = some none) (he : ME C E X e me) (hb : attributeBase e f X.env (eval e X.env) = eval e X.env := by rfl) : ME C E X (.Attribute e f pos) (m1 (fldD f cs xs) me) :=
  PE.imp (pe_fldU he hb) fun σ H Q ⟨O, ρ, Γ, j, S, h⟩ => ⟨O, ρ, Γ, j, S, Post.imp (Post.bind S h) fun d j1 ρ1 H1 k1 S1 q v hv => by
    obtain ⟨z, hz, q3⟩ := post_lift S1 q
    clear q
    have hv := S1.st.view hv
    revert hz hv
    generalize deref j1 d = d'
    intro hz hv
    cases d' with
    | ins c fs =>
      have hz : (bif cs.contains c then fs.lookup f else none) = some z := hz
      cases m : cs.contains c with
      | true =>
        rw [m] at hz
        obtain ⟨a, dx, vs, rfl, ha, r⟩ := hv.insAt
        obtain ⟨u, hu, hd⟩ := r.look hz
        exact .inl ⟨_, _, _, _, u, rfl, ha, by rw [hK]; exact (hc c m).1, by rw [hK]; exact (hc c m).2, hu, q3 _ H1 Ext.refl hd⟩
      | false => rw [m] at hz; cases hz
    | exn c fs =>
      have hz : (bif xs.contains c then fs.lookup f else none) = some z := hz
      cases m : xs.contains c with
      | true =>
        rw [m] at hz
        cases hv.den trivial with
        | exn ha n hd n2 r =>
          obtain ⟨u, hu, hd'⟩ := r.look hz
          exact .inr ⟨_, _, _, _, u, rfl, by rw [hK]; exact (hx c m).1, by rw [hK]; exact (hx c m).2, ha, hd, hu, q3 _ H1 Ext.refl hd'⟩
      | false => rw [m] at hz; cases hz
    | _ => cases hz⟩
end
end On

set_option Elab.async false
set_option linter.all false
set_option maxRecDepth 100000
set_option maxHeartbeats 2000000
set_option autoImplicit false
namespace On
open PySem PySem.Spec PyProof.Rows L2

/-! ### what is changed -/
theorem Live.set {ρ : List Addr} {j : J} {n : Nat} {d d' : D} (hn : j[n]? = some (some d)) (a : Addr) : Live ρ (j.set n (some d')) a ↔ Live ρ j a := by
  constructor
  · rintro ⟨m, e, h1, h2⟩
    rcases set_cases h2 with ⟨rfl, _, _⟩ | ⟨_, h2⟩
    · exact ⟨n, d, h1, hn⟩
    · exact ⟨m, e, h1, h2⟩
  · rintro ⟨m, e, h1, h2⟩
    by_cases q : n = m
    · subst q
      exact ⟨n, d', h1, List.getElem?_set_self (List.getElem?_eq_some_iff.mp h2).1⟩
    · exact ⟨m, e, h1, by rw [List.getElem?_set_ne q]; exact h2⟩
theorem Sto.put {C : Cb} {O : Addr → Prop} {ρ : List Addr} {H : Hp} {j : J} (S : Sto C O ρ H j) {n : Nat} {a : Addr} {d d' : D} {o : HO} (hn : j[n]? = some (some d)) (ha : ρ[n]? = some a) (hc : (∀ v e, Den C ρ H (Bo O ρ j) v e → Den C ρ (upd H a o) (Bo O ρ j) v e) → Cnt C ρ (upd H a o) (Bo O ρ j) a d') :
    Sto C O ρ (upd H a o) (j.set n (some d')) ∧ Kp ρ j H ρ (j.set n (some d')) (upd H a o) := by
  have la : Live ρ j a := ⟨n, d, ha, hn⟩
  obtain ⟨u, hu, hw⟩ : ∃ u, H a = some u ∧ NW u := by
    obtain ⟨b, eb, q⟩ := S.sto n d hn
    rw [ha] at eb
    cases eb
    exact q.nw
  have lv := Live.set (ρ := ρ) (d' := d') hn
  have K : Kp ρ j H ρ (j.set n (some d')) (upd H a o) := ⟨fun b u nb _ e => by rw [upd_ne (fun z : b = a => nb (by rw [z]; exact la))]; exact e, fun b ps e => ⟨ps, by rw [upd_ne (fun z => by rw [z, hu] at e; cases e; exact hw.1 _ rfl)]; exact e⟩, fun b z => .inl ((lv b).mp z), fun b z => .inl z, Pfx.refl⟩
  have th : ∀ b, (∃ u, H b = some u) → ∃ u, upd H a o b = some u := fun b ⟨u, e⟩ => by
    by_cases q : b = a
    · rw [q]; exact ⟨_, upd_same⟩
    · exact ⟨u, by rw [upd_ne q]; exact e⟩
  refine ⟨⟨fun b z => th b (S.trk b z), tabs_write S.tab hu hw, fun b z => th b (S.rtr b z), by simp [S.rl], S.nd, fun m e h => ?_⟩, K⟩
  rcases set_cases h with ⟨rfl, _, e⟩ | ⟨ne, h⟩
  · cases e
    exact ⟨a, ha, (hc fun v e r => r.mono (Pres.at (.inr la) hu hw.1) Pfx.refl).map (fun _ _ z => z) fun _ _ r => r.less fun b z => .inl (z.imp id (lv b).mp)⟩
  · obtain ⟨b, eb, q⟩ := S.sto m e h
    have nb : b ≠ a := fun z => by
      exact ne ((List.getElem?_inj (List.getElem?_eq_some_iff.mp ha).1 S.nd).mp (by rw [ha, eb, z]))
    exact ⟨b, eb, q.map (fun u _ e => by rw [upd_ne nb]; exact e) fun _ _ => (K.step O).den⟩
/-- the content of the thing in slot i -/
def conG (i : Nat) (Γ : Gm) (j : J) : Option D := match Γ[i]? with
  | some (some (.own d)) => some d
  | some (some (.val (.loc n))) => (match j[n]? with
    | some o => o
    | none => none)
  | _ => none
def muG (i : Nat) (Γ : Gm) (j : J) (d : D) : RS := match Γ[i]? with
  | some (some (.own _)) => .nx (Γ.set i (some (.own d))) j
  | some (some (.val (.loc n))) => .nx Γ (j.set n (some d))
  | _ => .bad
section
variable {C : Ct} {E : WX} {X : Cx} {O : Addr → Prop} {ρ : List Addr} {σ : L2.St} {H : Hp} {Γ : Gm} {j : J} {i : Nat}
theorem Sok.con {d : D} (S : Sok C O ρ σ H Γ j) (h : conG i Γ j = some d) : ∃ a, σ[i]? = some (some (.ref a)) ∧ Cnt C.b ρ H (Bo O ρ j) a d := by
  unfold conG at h
  split at h
  · rename_i d' hi
    cases h
    obtain ⟨a, e, _, _, _, _, r⟩ := S.slot i _ hi
    exact ⟨a, e, r⟩
  · rename_i n hi
    obtain ⟨v, e, r⟩ := S.slot i _ hi
    cases r with
    | loc hr =>
      split at h
      · rename_i o ho
        subst h
        obtain ⟨b, eb, q⟩ := S.st.sto n d ho
        rw [hr] at eb
        cases eb
        exact ⟨_, e, q⟩
      · cases h
  · cases h
/-- what stands in slot i is changed -/
theorem Sok.mu {d d' : D} {o : HO} {a : Addr} {Dn : Ends} (S : Sok C O ρ σ H Γ j) (h : conG i Γ j = some d) (ea : σ[i]? = some (some (.ref a))) (hc : (∀ v e, Den C.b ρ H (Bo O ρ j) v e → Den C.b ρ (upd H a o) (Bo O ρ j) v e) → Cnt C.b ρ (upd H a o) (Bo O ρ j) a d') (hi : ∀ c fs, d' = .ins c fs → ∃ c0 fs0, d = .ins c0 fs0)
    (q : PostS C E ρ (Bo O ρ j) H (muG i Γ j d') Dn) : Dn.nx σ (upd H a o) := by
  unfold conG at h
  unfold muG at q
  split at h
  · rename_i d0 hΓ
    cases h
    rw [hΓ] at q
    dsimp only at q
    obtain ⟨a', e', hO, h0, nr, hs, r⟩ := S.slot i _ hΓ
    rw [ea] at e'
    cases e'
    obtain ⟨u, hu, hw⟩ := r.nw
    have st : Step ρ (Bo O ρ j) H ρ (Bo O ρ j) (upd H a o) := ⟨Pres.at (.inl hO) hu hw.1, fun _ z => .inl z, Pfx.refl⟩
    have kp : ∀ b, b ≠ a → ∀ u, H b = some u → upd H a o b = some u := fun b n u e => by rw [upd_ne n]; exact e
    refine q O ρ σ _ st ⟨S.st.write hO nr hu hw, by simpa using S.len, S.pre, fun b u n t hb => kp b (fun z => by rw [z, h0] at hb; cases hb) u (S.ex b u n t hb), fun b ps hb => let ⟨qs, e⟩ := S.ext0 b ps hb; ⟨qs, kp b (fun z => by rw [z, h0] at hb; cases hb) _ e⟩, S.onew, S.b0, S.new, S.rnw, fun k c hk => ?_, fun k m ds es b h1 h2 h3 h4 => ?_, S.b00⟩
    · rcases set_cases hk with ⟨rfl, _, e⟩ | ⟨ne, hk⟩
      · cases e
        exact ⟨a, ea, hO, h0, nr, fun c fs z => by obtain ⟨c0, fs0, e0⟩ := hi c fs z; exact hs c0 fs0 e0, hc fun _ _ => st.den⟩
      · have q := S.slot k c hk
        cases c with
        | val d => obtain ⟨v, e, r⟩ := q; exact ⟨v, e, st.den r⟩
        | own d => obtain ⟨b, e, hb, g0, n, hc, r⟩ := q; exact ⟨b, e, hb, g0, n, hc, r.map (fun u _ => kp b (fun z => ne (S.dist i k _ _ a hΓ hk ea (by rw [← z]; exact e))) u) fun _ _ => st.den⟩
        | act => exact q
    · have own : ∀ {k : Nat} {es : D}, (Γ.set i (some (.own d')))[k]? = some (some (.own es)) → ∃ es', Γ[k]? = some (some (.own es')) := fun {k es} g => by
        rcases set_cases g with ⟨rfl, _, _⟩ | ⟨_, g⟩
        · exact ⟨_, hΓ⟩
        · exact ⟨_, g⟩
      obtain ⟨e1, g1⟩ := own h1
      obtain ⟨e2, g2⟩ := own h2
      exact S.dist k m e1 e2 b g1 g2 h3 h4
  · rename_i n hΓ
    rw [hΓ] at q
    dsimp only at q
    obtain ⟨v, e, r⟩ := S.slot i _ hΓ
    rw [ea] at e
    cases e
    cases r with
    | loc hr =>
      split at h
      · rename_i o' ho
        subst h
        obtain ⟨s2, k2⟩ := S.st.put ho hr hc
        exact q O ρ σ _ (k2.step O) (S.keep k2 s2)
      · cases h
  · cases h
variable {a b e o : Expr} {es : List Expr} {ma mb me : Gm → J → R D} {mr : Gm → J → R (List D)} {pos p p2 : Pos}
/-- x.append(e) -/
def sApp (i : Nat) (me : Gm → J → R D) : Gm → J → RS := fun Γ j => match conG i Γ j with
  | some (.lst _) => (me Γ j).bindS Γ fun d j => (match conG i Γ j with
    | some (.lst ds) => if ds.length < 100000 then muG i Γ j (.lst (ds ++ [d])) else .bad
    | _ => .bad)
  | _ => .bad
theorem PostS.ite {c : Prop} [Decidable c] {B : Addr → Prop} {r : RS} {Dn : Ends} (h : PostS C E ρ B H (if c then r else .bad) Dn) : c ∧ PostS C E ρ B H r Dn := by
  by_cases q : c
  · rw [if_pos q] at h; exact ⟨q, h⟩
  · rw [if_neg q] at h; exact h.elim
theorem ms_app {x : Str} {px apos : Pos} (hK : X.K = C.b.K) (hv : PE X (.Name x px) (tVar i)) (he : ME C E X e me) (hs : swapsWith (.Call (.Attribute (.Name x px) "append" apos) [e] [] p) none pos.line X.env = pure false := by rfl)
    (hbase : attributeBase (.Name x px) "append" X.env (eval (.Name x px) X.env) = eval (.Name x px) X.env := by rfl)
    (hfew : ((backTo p (starEach [e] X.env)).all (fun x => !x.1) && (backToKw p (keywordEach [] X.env)).all (fun x => x.1.isSome) && decide ([e].length + ([] : List Keyword).length + (if ([] : List Keyword).isEmpty then 0 else 1) < 30)) = true := by rfl)
    (hline : (apos.endLine == p.line) = true := by rfl) (hst : starEach [e] X.env = (false, eval e X.env) :: starEach [] X.env := by rfl) (hplain : (backTo p (starEach [] X.env)).any (·.1) = false := by rfl) :
    MS C E X (.Expr (.Call (.Attribute (.Name x px) "append" apos) [e] [] p) pos) (sApp i me) :=
  PS.imp (ps_expr (pe_bm PySem.F.plainAttrs_list PySem.F.slot_list_append PySem.F.type_list_append mt_append hv (pa_cons he pa_nil hst) hbase hfew hline hst hplain) hs) fun Dn σ H ⟨O, ρ, Γ, j, S, h⟩ => by
    unfold sApp at h
    split at h
    · rename_i ds0 hc0
      obtain ⟨l, e1, xs0, hx0, r0⟩ := S.con hc0
      refine ⟨.ref l, e1, .inl ⟨rfl, xs0, .inl (.inl hx0)⟩, O, ρ, Γ, j, S, Post.imp (PostS.of S h) fun d j1 ρ1 H1 k1 S1 q v hv => ?_⟩
      split at q
      · rename_i ds hc
        obtain ⟨hl, q⟩ := PostS.ite q
        obtain ⟨l', e1', xs, hx, r⟩ := S1.con hc
        rw [e1] at e1'
        cases e1'
        refine ⟨l, xs, v, rfl, rfl, hx, Nat.lt_of_lt_of_le (by rw [r.length]; exact hl) (sz5 (Nat.le_refl _)), ?_⟩
        exact S1.mu (d' := .lst (ds ++ [d])) hc e1 (fun f => ⟨_, upd_same, (r.append (.cons hv .nil)).map f⟩) (fun _ _ z => by cases z) q
      · exact q.elim
    · exact h.elim
/-- x.extend(e) -/
def sExt (i : Nat) (me : Gm → J → R D) : Gm → J → RS := fun Γ j => match conG i Γ j with
  | some (.lst _) => (me Γ j).bindS Γ fun d j => (match conG i Γ j, d with
    | some (.lst ds), .lst es => if ds.length + es.length ≤ 100000 then muG i Γ j (.lst (ds ++ es)) else .bad
    | _, _ => .bad)
  | _ => .bad
theorem ms_ext {x : Str} {px apos : Pos} (hK : X.K = C.b.K) (hv : PE X (.Name x px) (tVar i)) (he : ME C E X e me) (hs : swapsWith (.Call (.Attribute (.Name x px) "extend" apos) [e] [] p) none pos.line X.env = pure false := by rfl)
    (hbase : attributeBase (.Name x px) "extend" X.env (eval (.Name x px) X.env) = eval (.Name x px) X.env := by rfl)
    (hfew : ((backTo p (starEach [e] X.env)).all (fun x => !x.1) && (backToKw p (keywordEach [] X.env)).all (fun x => x.1.isSome) && decide ([e].length + ([] : List Keyword).length + (if ([] : List Keyword).isEmpty then 0 else 1) < 30)) = true := by rfl)
    (hline : (apos.endLine == p.line) = true := by rfl) (hst : starEach [e] X.env = (false, eval e X.env) :: starEach [] X.env := by rfl) (hplain : (backTo p (starEach [] X.env)).any (·.1) = false := by rfl) :
    MS C E X (.Expr (.Call (.Attribute (.Name x px) "extend" apos) [e] [] p) pos) (sExt i me) :=
  PS.imp (ps_expr (pe_bm PySem.F.plainAttrs_list PySem.F.slot_list_extend PySem.F.type_list_extend mt_extend hv (pa_cons he pa_nil hst) hbase hfew hline hst hplain) hs) fun Dn σ H ⟨O, ρ, Γ, j, S, h⟩ => by
    unfold sExt at h
    split at h
    · rename_i ds0 hc0
      obtain ⟨l, e1, xs0, hx0, r0⟩ := S.con hc0
      refine ⟨.ref l, e1, .inl ⟨rfl, xs0, .inl (.inl hx0)⟩, O, ρ, Γ, j, S, Post.imp (PostS.of S h) fun d j1 ρ1 H1 k1 S1 q v hv => ?_⟩
      split at q
      · rename_i ds es hc
        obtain ⟨hl, q⟩ := PostS.ite q
        obtain ⟨l', e1', xs, hx, r⟩ := S1.con hc
        rw [e1] at e1'
        cases e1'
        obtain ⟨b, ys, rfl, hy, ry⟩ := (Vw.of hv).lstRd
        refine ⟨l, b, xs, ys, rfl, rfl, hx, hy, sz5 (by rw [r.length, ry.length]; exact hl), ?_⟩
        exact S1.mu (d' := .lst (ds ++ es)) hc e1 (fun f => ⟨_, upd_same, (r.append ry).map f⟩) (fun _ _ z => by cases z) q
      · exact q.elim
    · exact h.elim
/-- x[k] = e -/
def sPut (i : Nat) (mk me : Gm → J → R D) : Gm → J → RS := fun Γ j => (me Γ j).bindS Γ fun d j => match conG i Γ j with
  | some _ => (mk Γ j).bindS Γ fun k j => (match conG i Γ j, k with
    | some (.lst ds), .int k => (match ixN ds.length k with
      | some n => muG i Γ j (.lst (ds.set n d))
      | none => .bad)
    | _, _ => .bad)
  | _ => .bad
theorem ms_put {k : Expr} {mk : Gm → J → R D} {x : Str} {px apos : Pos} (hv : PE X (.Name x px) (tVar i)) (hk : ME C E X k mk) (he : ME C E X e me)
    (ha : ∀ v, assign (.Subscript (.Name x px) k apos) X.env v = (do
      let ov ← holding [v] (eval (.Name x px) X.env)
      let iv ← holding [v, ov] (eval k X.env)
      standAt apos
      holding [v, ov, iv] (setItem ov iv v)
      release [v, ov, iv] []) := by intro _; rfl)
    (hs : swapsWithSole [.Subscript (.Name x px) k apos] e pos.line X.env = pure false := by rfl) (hw : swappedStores [.Subscript (.Name x px) k apos] e X.env = pure none := by rfl)
    (h1 : (assignEach [.Subscript (.Name x px) k apos] X.env).map (·.2) = [assign (.Subscript (.Name x px) k apos) X.env] := by rfl) :
    MS C E X (.Assign [.Subscript (.Name x px) k apos] e pos) (sPut i mk me) :=
  PS.imp (ps_asg he (pg_sub hv hk set_list ha) hs hw h1) fun Dn σ H ⟨O, ρ, Γ, j, S, h⟩ => ⟨O, ρ, Γ, j, S, Post.imp (PostS.of S h) fun d j1 ρ1 H1 k1 S1 q v hv => by
    split at q
    · rename_i d0 hc0
      obtain ⟨l, e1, _⟩ := S1.con hc0
      refine ⟨.ref l, e1, O, ρ1, Γ, j1, S1, Post.imp (PostS.of S1 q) fun n j2 ρ2 H2 k2 S2 q2 u hu => ?_⟩
      split at q2
      · rename_i ds n hc
        cases hu
        split at q2
        · rename_i w hw
          obtain ⟨l', e1', xs, hx, r⟩ := S2.con hc
          rw [e1] at e1'
          cases e1'
          refine ⟨l, xs, n, w, rfl, rfl, hx, by rw [r.length]; exact hw, ?_⟩
          exact S2.mu (d' := .lst (ds.set w d)) hc e1 (fun f => ⟨_, upd_same, (DenA.set ((k2.step O).den hv) w r).map f⟩) (fun _ _ z => by cases z) q2
        · exact q2.elim
      · exact q2.elim
    · exact q.elim⟩
/-- self.f = e -/
def putD (f : Str) (d : D) : List (Str × D) → List (Str × D)
  | [] => [(f, d)]
  | (g, e) :: r => if g = f then (g, d) :: r else (g, e) :: putD f d r
theorem DenF.length {c : Cb} {ρ : List Addr} {H : Hp} {B : Addr → Prop} : ∀ {vs : List (Str × V)} {ds : List (Str × D)}, DenF c ρ H B vs ds → vs.length = ds.length
  | _, _, .nil => rfl
  | _, _, .cons _ r => congrArg Nat.succ r.length
theorem DenF.put {c : Cb} {ρ : List Addr} {H : Hp} {B : Addr → Prop} {f : Str} {v : V} {d : D} (h : Den c ρ H B v d) : ∀ {vs : List (Str × V)} {ds : List (Str × D)}, DenF c ρ H B vs ds → DenF c ρ H B (putF f v vs) (putD f d ds)
  | _, _, .nil => .cons h .nil
  | _, _, .cons (f := g) (v := w) (d := e) (vs := vs) (ds := ds) q r => by
    show DenF c ρ H B (if g = f then (g, v) :: vs else (g, w) :: putF f v vs) (if g = f then (g, d) :: ds else (g, e) :: putD f d ds)
    by_cases z : g = f
    · rw [if_pos z, if_pos z]; exact .cons h r
    · rw [if_neg z, if_neg z]; exact .cons q (DenF.put h r)
def sSelf (i : Nat) (f : Str) (cs : List Nat) (me : Gm → J → R D) : Gm → J → RS := fun Γ j => (me Γ j).bindS Γ fun d j => match conG i Γ j with
  | some (.ins n fs) => bif cs.contains n && decide (fs.length < 100) then muG i Γ j (.ins n (putD f d fs)) else .bad
  | _ => .bad
theorem ms_self {x f : Str} {cs : List Nat} {px pos' : Pos} (hK : X.K = C.b.K) (hc : ∀ c, cs.contains c = true → Cls C.b.K (C.b.cm c) ∧ NoAttr C.b.K (C.b.cm c) f) (hv : PE X (.Name x px) (tVar i)) (he : ME C E X e me) (hs : swapsWith e (some (.Attribute (.Name x px) f pos')) pos.line X.env = pure false := by rfl) :
    MS C E X (.Assign [.Attribute (.Name x px) f pos'] e pos) (sSelf i f cs me) :=
  PS.imp (ps_fld hv he hs) fun Dn σ H ⟨O, ρ, Γ, j, S, h⟩ => ⟨O, ρ, Γ, j, S, Post.imp (PostS.of S h) fun d j1 ρ1 H1 k1 S1 q v hv => by
    split at q
    · rename_i n fs hcn
      cases m : (cs.contains n && decide (fs.length < 100)) with
      | false => rw [m] at q; exact q.elim
      | true =>
        rw [m] at q
        obtain ⟨m1, m2⟩ := Bool.and_eq_true_iff.mp m
        obtain ⟨l, e1, dx, vs, ho, r⟩ := S1.con hcn
        refine ⟨.ref l, e1, l, _, dx, vs, rfl, ho, by rw [hK]; exact (hc n m1).1, by rw [hK]; exact (hc n m1).2, Nat.lt_trans (by rw [r.length]; exact of_decide_eq_true m2) (by decide), ?_⟩
        exact S1.mu (d' := .ins n (putD f d fs)) hcn e1 (fun g => ⟨dx, _, upd_same, (DenF.put hv r).map g⟩) (fun _ _ _ => ⟨n, fs, rfl⟩) q
    · exact q.elim⟩
/-- self.f, of the thing itself, in the making -/
def mSelf (i : Nat) (f : Str) (cs : List Nat) : Gm → J → R D := fun Γ j => match conG i Γ j with
  | some (.ins n fs) => bif cs.contains n then lift (fs.lookup f) j else .bad
  | _ => .bad
theorem me_self {x f : Str} {cs : List Nat} {px : Pos} (hK : X.K = C.b.K) (hc : ∀ c, cs.contains c = true → Cls C.b.K (C.b.cm c) ∧ NoAttr C.b.K (C.b.cm c) f) (hv : PE X (.Name x px) (tVar i)) (hb : attributeBase (.Name x px) f X.env (eval (.Name x px) X.env) = eval (.Name x px) X.env := by rfl) : ME C E X (.Attribute (.Name x px) f pos) (mSelf i f cs) :=
  PE.imp (pe_fld hv hb) fun σ H Q ⟨O, ρ, Γ, j, S, h⟩ => by
    unfold mSelf at h
    split at h
    · rename_i n fs hcn
      cases m : cs.contains n with
      | false => rw [m] at h; exact h.elim
      | true =>
        rw [m] at h
        obtain ⟨l, e1, dx, vs, ho, r⟩ := S.con hcn
        obtain ⟨d, hd, q⟩ := post_lift S h
        obtain ⟨v, hv, hr⟩ := r.look hd
        exact ⟨.ref l, e1, l, _, dx, vs, v, rfl, ho, by rw [hK]; exact (hc n m).1, by rw [hK]; exact (hc n m).2, hv, q v H Ext.refl hr⟩
    · exact h.elim
/-- a list of one's own -/
def sOwn (i : Nat) (mr : Gm → J → R (List D)) : Gm → J → RS := fun Γ j => (mr Γ j).bindS Γ fun ds j => if ds.length ≤ 100000 then .nx (Γ.set i (some (.own (.lst ds)))) j else .bad
theorem Sok.own {l : Addr} {d : D} {o : HO} (S : Sok C O ρ σ H Γ j) (hl : H l = none) (hc : (∀ v e, Den C.b ρ H (Bo O ρ j) v e → Den C.b ρ (upd H l o) (Bo (fun a => O a ∨ a = l) ρ j) v e) → Cnt C.b ρ (upd H l o) (Bo (fun a => O a ∨ a = l) ρ j) l d) (hd : ∀ c fs, d ≠ .ins c fs) :
    Step ρ (Bo O ρ j) H ρ (Bo (fun a => O a ∨ a = l) ρ j) (upd H l o) ∧ Sok C (fun a => O a ∨ a = l) ρ (σ.set i (some (.ref l))) (upd H l o) (Γ.set i (some (.own d))) j := by
  have x : Ext H (upd H l o) := Ext.new hl
  have nρ : l ∉ ρ := fun z => by obtain ⟨o, e⟩ := S.st.rtr l z; rw [hl] at e; cases e
  have h0 : C.H0 l = none := S.old hl
  have st : Step ρ (Bo O ρ j) H ρ (Bo (fun a => O a ∨ a = l) ρ j) (upd H l o) := ⟨x.pres, fun a z => by
    rcases z with (z | z) | z
    · exact .inl (.inl z)
    · rw [z]; exact .inr hl
    · exact .inl (.inr z), Pfx.refl⟩
  have S' := S.more (o := o) hl
  refine ⟨st, S'.st, by simpa using S.len, S'.pre, S'.ex, S'.ext0, S'.onew, S'.b0, S'.new, S'.rnw, fun k c hk => ?_, fun k m ds es b h1 h2 h3 h4 => ?_, S'.b00⟩
  · rcases set_cases hk with ⟨rfl, hlt, e⟩ | ⟨ne, hk⟩
    · cases e
      exact ⟨l, List.getElem?_set_self (by rw [← S.len]; exact hlt), .inr rfl, h0, nρ, fun c fs z => (hd c fs z).elim, hc fun _ _ => st.den⟩
    · have q := S'.slot k c hk
      cases c with
      | val d => obtain ⟨v, e, r⟩ := q; exact ⟨v, (List.getElem?_set_ne ne).trans e, r⟩
      | own d => obtain ⟨b, e, r⟩ := q; exact ⟨b, (List.getElem?_set_ne ne).trans e, r⟩
      | act => obtain ⟨b, e, r⟩ := q; exact ⟨b, (List.getElem?_set_ne ne).trans e, r⟩
  · have fr : ∀ {k : Nat} {es : D} {b : Addr}, i ≠ k → Γ[k]? = some (some (.own es)) → σ[k]? = some (some (.ref b)) → b ≠ l := fun {k es b} ne g s z => by
      obtain ⟨a, e, hO, _⟩ := S.slot k _ g
      rw [s] at e
      cases e
      obtain ⟨o, ho⟩ := S.st.trk b hO
      rw [z, hl] at ho
      cases ho
    rcases set_cases h1 with ⟨rfl, hlt, _⟩ | ⟨n1, h1⟩
    · rcases set_cases h2 with ⟨rfl, _, _⟩ | ⟨n2, h2⟩
      · rfl
      · rw [List.getElem?_set_self (by rw [← S.len]; exact hlt)] at h3
        rw [List.getElem?_set_ne n2] at h4
        cases h3
        exact (fr n2 h2 h4 rfl).elim
    · rcases set_cases h2 with ⟨rfl, hlt, _⟩ | ⟨n2, h2⟩
      · rw [List.getElem?_set_self (by rw [← S.len]; exact hlt)] at h4
        rw [List.getElem?_set_ne n1] at h3
        cases h4
        exact (fr n1 h1 h3 rfl).elim
      · rw [List.getElem?_set_ne n1] at h3
        rw [List.getElem?_set_ne n2] at h4
        exact S.dist k m _ _ b h1 h2 h3 h4
theorem ms_own {x : Str} {pos' : Pos} (hN : X.N.Nodup) (hi : X.N[i]? = some x) (hx : Loc X.env.scope x) (hr : MA C E X es mr) (hs : swapsWith (.List es p) (some (.Name x pos')) pos.line X.env = pure false := by rfl) (hf : X.fn x = true ∨ X.env.scope.names.lookup x = some .local := by first | exact .inl rfl | exact .inr rfl | assumption) :
    MS C E X (.Assign [.Name x pos'] (.List es p) pos) (sOwn i mr) :=
  PS.imp (ps_set hN hi hx (pe_lst hr) hs hf) fun Dn σ H ⟨O, ρ, Γ, j, S, h⟩ => ⟨O, ρ, Γ, j, S, Post.imp (PostS.of S h) fun ds j1 ρ1 H1 k1 S1 q vs hvs => by
    obtain ⟨hl, q⟩ := PostS.ite q
    refine ⟨sz5 (by rw [hvs.length]; exact hl), fun p hp => ?_⟩
    obtain ⟨st, S2⟩ := S1.own (i := i) (d := .lst ds) hp (fun f => ⟨vs, upd_same, hvs.map f⟩) (fun _ _ z => by cases z)
    exact q _ _ _ _ st S2⟩
/-- from here on the thing in slot i is a value like others -/
def frzG (i : Nat) (Γ : Gm) : Gm := match Γ[i]? with
  | some (some (.own (.ins c fs))) => Γ
  | some (some (.own d)) => Γ.set i (some (.val d))
  | _ => Γ
theorem Sok.freeze (i : Nat) (S : Sok C O ρ σ H Γ j) : ∃ O', Step ρ (Bo O ρ j) H ρ (Bo O' ρ j) H ∧ Sok C O' ρ σ H (frzG i Γ) j := by
  unfold frzG
  split
  · exact ⟨O, Step.refl, S⟩
  · rename_i d hnd hi
    obtain ⟨l, e1, hb, h0, nr, hs, r⟩ := S.slot i _ hi
    have hiL : i < Γ.length := (List.getElem?_eq_some_iff.mp hi).1
    have ls : ∀ a, Bo (fun a => O a ∧ a ≠ l) ρ j a → Bo O ρ j a ∨ H a = none := fun a z => .inl (z.imp (·.1) id)
    have nB : ¬ Bo (fun a => O a ∧ a ≠ l) ρ j l := fun z => z.elim (fun z => z.2 rfl) fun z => nr z.mem
    have nl : ∀ {k : Nat} {ds' : D} {a : Addr}, i ≠ k → Γ[k]? = some (some (.own ds')) → σ[k]? = some (some (.ref a)) → a ≠ l := fun n g s w => n (S.dist i _ _ _ l hi g e1 (by rw [← w]; exact s))
    refine ⟨fun a => O a ∧ a ≠ l, ⟨Pres.refl, ls, Pfx.refl⟩, ⟨S.st.less fun a z => z.1, by simpa using S.len, S.pre, S.ex, S.ext0, fun a z => S.onew a z.1, fun a z => ⟨S.b0 a z, fun w => ?_⟩, S.new, S.rnw, fun k c hk => ?_, fun k m ds' es' a h1 h2 h3 h4 => ?_, S.b00⟩⟩
    · obtain ⟨o, ho⟩ := S.b00 a z
      rw [w, h0] at ho
      cases ho
    · rcases set_cases hk with ⟨rfl, _, e⟩ | ⟨ne, hk⟩
      · cases e
        exact ⟨.ref l, e1, (r.map (B' := Bo (fun a => O a ∧ a ≠ l) ρ j) (fun _ _ z => z) fun _ _ r => r.less ls).den nB⟩
      · have q := S.slot k c hk
        cases c with
        | val d => obtain ⟨u, z, r⟩ := q; exact ⟨u, z, r.less ls⟩
        | own d => obtain ⟨a, z, b, g0, n, hc, r⟩ := q; exact ⟨a, z, ⟨b, nl ne hk z⟩, g0, n, hc, r.map (fun _ _ z => z) fun _ _ r => r.less ls⟩
        | act => exact q
    · have ne : ∀ {k : Nat} {es' : D}, (Γ.set i (some (.val d)))[k]? = some (some (.own es')) → Γ[k]? = some (some (.own es')) := fun {k es'} g => by
        rcases set_cases g with ⟨_, _, e⟩ | ⟨_, g⟩
        · cases e
        · exact g
      exact S.dist k m ds' es' a (ne h1) (ne h2) h3 h4
  · exact ⟨O, Step.refl, S⟩
theorem mb_freeze (i : Nat) {sts : List Stmt} {m : Gm → J → RS} (h : MB C E X sts m) : MB C E X sts (fun Γ j => m (frzG i Γ) j) :=
  PSs.imp h fun Dn σ H ⟨O, ρ, Γ, j, S, q⟩ => by
    obtain ⟨O', st, S'⟩ := S.freeze i
    exact ⟨O', ρ, _, j, S', PostS.shift st q⟩
end
end On

set_option Elab.async false
set_option linter.all false
set_option maxRecDepth 100000
set_option maxHeartbeats 2000000
set_option autoImplicit false
namespace On
open PySem PySem.Spec PyProof.Rows L2

/-! ### an own error class over ValueError whose __init__ says super().__init__(..) -/
abbrev veMw (x : Addr) : Obj := PySem.W.kxs_mw "ValueError.__init__" x
theorem callWithV {M : Model} {A : Around} {E : Value → Shared → Prop} {s : Shared} {u x : Addr} {pos : Pos} {env : Env} {e : Expr} {Q : Value → Shared → Prop}
    (h : wpAny M A (spliced (backTo pos (starEach [e] env))) (fun vs s₁ => s₁.heap.get? u = some (veMw x) ∧ wpAny M A (call (.ref u) vs) Q E s₁) E s)
    (he : starEach [e] env = (false, eval e env) :: starEach [] env := by rfl) :
    wpAny M A (callWith pos (.ref u) [] (backTo pos (starEach [e] env)) []) Q E s := by
  rw [he] at h ⊢
  refine PySem.W.kxs_callWith (i := "ValueError.__init__") (x := x) rfl ?_
  exact PySem.Calls.evalArgs_plain h

section
variable {prog : Program} {w : World} {A : Around} {E : Value → Shared → Prop} {h : Heap} {g : Array GenState} {d : Drawn} {t : Nat} {os : OsState}
variable {nm q : Str} {C N : Addr} {bs bm : List Value} {hdct : Bool} {sn : List Str} {sub : List Value} {ab : Bool} {col : Option Bool} {dd : Option Addr} {k0 k1 k2 k3 k5 : Option Value}
theorem call_veMw {u e t0 : Addr} {rest : List Value} {Q : Value → Shared → Prop}
    (hC : h.get? C = some (excClassObj nm q C N bs bm hdct sn sub ab col dd k0 k1 k2 k3 k5 "ValueError.__new__")) (he : h.get? e = some (HandSPX.excO C t0)) (hu : h.get? u = some (veMw e)) (hrest : rest.length ≤ sizeLine)
    (hq : ∀ h' t1, (∀ b o, b ≠ e → h.get? b = some o → h'.get? b = some o) → h'.get? e = some (HandSPX.excO C t1) → Q .none ⟨h', g, d, t, os⟩) :
    wpAny (model prog w) A (call (.ref u) rest) Q E ⟨h, g, d, t, os⟩ := by
  refine wpAny_call (codeAny_of_tree ?_)
  show wpAny _ A.in1 (callAny (.ref u) ⟨rest, []⟩) _ _ _
  simp only [callAny]
  refine wpAny_bind (wpAny_load hu ?_)
  simp only [veMw, PySem.W.kxs_mw, show (Value.type "method-wrapper" == Value.type "method" || Value.type "method-wrapper" == Value.type "builtin_function_or_method" || Value.type "method-wrapper" == Value.type "method-wrapper") = true by decide, if_true]
  refine W.KFB.if_so (by decide) ?_
  refine wpAny_bind (PySem.ESX.check_bound F.excBase_ValueError hC he rfl ?_)
  refine wpAny_bind (wpAny_pure (wpAny_pure ?_))
  refine ⟨Code.quiet_builtin _ (by decide +kernel), codeAny_builtin F.excBase_ValueError.initEntry ?_⟩
  rw [Around.under_plainId F.excBase_ValueError.init.plain _]
  wp_walk
  refine hq _ h.objs.size (fun b o hb ho => ?_) ?_
  · rw [Heap.get?_update_other _ _ (Ne.symm hb)]
    exact Heap.get?_push_of_some _ ho
  · rw [Heap.get?_update_self _ (Heap.get?_push_of_some _ he) rfl]
    rfl
end

/-- the written part tells of the def at f: an own __init__ within the class at D -/
structure SupD (P : Program) (K : PySem.W.Frag) (mg : Str → Option Value) (D f cc cda : Addr) (qual : Str) (params : Arguments) (body : List Stmt) (scope : Scope) (ps : List Str) : Prop where
  fn : ∃ oc od osl dV kV doc pm an ct, K.lookup f = some ⟨oc, od, .func (PySem.W.ksFn "__init__" qual params body scope dV kV doc pm an (.ref cda) ct cc), osl⟩ ∧ Binds K (PySem.W.ksFn "__init__" qual params body scope dV kV doc pm an (.ref cda) ct cc) ps []
  code : PySem.W.codeIn K (.ref cda) qual = true
  file : ∃ ccl cdd vs ccs tf file, K.lookup cda = some ⟨ccl, cdd, .fields vs, ccs⟩ ∧ vs[2]? = some (.str file tf) ∧ ((P.main.file : Str) == file) = true
  cell : ∃ cl cld csl, K.lookup cc = some ⟨cl, cld, .cell (some (.ref D)), csl⟩
  cls : ∃ cd, PySem.W.clsIn K D = some cd
  opq : PySem.W.nsIn K cStatics "thirdparty.any" = some none
  top : (P.main.scope.names.lookup ("super" : Str)).isSome = false
  gl : mg "super" = none

/-- super(): the super object, made -/
theorem super_node {P : Program} {w : World} {K : PySem.W.Frag} {mg : Str → Option Value} {base : Heap} {A : Around} {E : Value → Shared → Prop} {D f cc cda a C : Addr} {qual : Str} {params : Arguments} {body : List Stmt} {scope : Scope} {L : Addr} {m : Str → Option Value}
    {hp : Heap} {g : Array GenState} {d : Drawn} {t : Nat} {os : OsState} {p0 p1 : Pos} {attr : Str} {whole : Sem Value} {oa : Obj} {Q : Value → Shared → Prop} {ar : Arg} {ps : List Str}
    (S : SupD P K mg D f cc cda qual params body scope ps) (MD : Mod K mg base) (kp : ∀ b o, base.get? b = some o → hp.get? b = some o) (hL : hp.Ns L m)
    (hpar : (params.posonlyargs ++ params.args).head? = some ar) (hv : m ar.arg = some (.ref a)) (ha : hp.get? a = some oa) (hac : oa.cls = .ref C) (had : ∀ c, oa.data ≠ .cls c) (hsub : PySem.W.mroIn K C (.ref D) = some true)
    (hat : (attr == ("__class__" : Str)) = false) (hks : scope.names.lookup ("super" : Str) = some .globalImplicit) (hkc : scope.names.lookup ("__class__" : Str) = some .free) (hka : scope.names.lookup ar.arg = some .local) (hk : scope.kind = .function)
    (hq : ∀ h', (∀ y o, hp.get? y = some o → h'.get? y = some o) → h'.get? hp.objs.size = some (PySem.W.ks_superObj D a C) → Q (.ref hp.objs.size) ⟨h', g, d, t, os⟩) :
    _root_.PySem.wpAt (model P w) A (.func body (PySem.W.ksEnv qual scope L f (.ref cda) cc)) (attributeBase (.Call (.Name "super" p0) [] [] p1) attr (PySem.W.ksEnv qual scope L f (.ref cda) cc) whole) Q E ⟨hp, g, d, t, os⟩ := by
  have X : K.In hp := MD.kin.keeps kp
  obtain ⟨oc, od, osl, dV, kV, doc, pm, an, ct, hf, hbd⟩ := S.fn
  obtain ⟨ccl, cdd, vs, ccs, tf, file, hcode, hvs, hfile⟩ := S.file
  obtain ⟨cl, cld, csl, hcell⟩ := S.cell
  obtain ⟨cdD, hD⟩ := S.cls
  obtain ⟨mb, hb1, hb2⟩ := MD.blt
  obtain ⟨oD, hD1, hD2⟩ : ∃ oD, hp.get? D = some oD ∧ oD.data = .cls cdD := by
    unfold PySem.W.clsIn at hD
    split at hD
    · rename_i c d cd' sl ho
      cases hD
      exact ⟨_, X _ _ ho, rfl⟩
    · cases hD
  refine ks_wpAt_super_base (env := PySem.W.ksEnv qual scope L f (.ref cda) cc) hks hkc hat rfl (X _ _ hf) rfl hpar rfl (X _ _ hcode) rfl hvs hfile S.top ?_
  refine PySem.W.ks_loadName_global hk hks (PySem.Calls.loadGlobal_builtin (env := PySem.W.ksEnv qual scope L f (.ref cda) cc) (MD.glob.keeps kp) S.gl (hb1.keeps kp) ((hb2 _ (by decide)).trans (by decide +kernel : bootBuiltins "super" = some (.type "super"))) ⟨rfl, ?_⟩)
  refine wpAny_loadName_free hk hkc rfl ⟨_, X _ _ hcell, rfl⟩ ?_
  refine wpAny_loadName_local hk hka hL hv ?_
  refine ks_wpAny_isType_cls hD1 hD2 ⟨rfl, ?_⟩
  exact ks_wpAny_call_super hD1 hD2 ha hac had (PySem.W.looks_mroIn X hsub) (fun h' e k => hq h' k e)

/-- what the written part tells of an own error class C below D, whose super() is ValueError's -/
structure FeC (K : PySem.W.Frag) (D C : Addr) : Prop extends OexC K C where
  mro : PySem.W.mroIn K C (.ref D) = some true
  sve : PySem.W.subIn K (.ref C) (.type "ValueError") = some true
  sup : PySem.W.ks_superIn K C D "__init__" = some (some (.builtin "ValueError.__init__"))
  noval : PySem.W.findIn K (.ref C) "value" = some none
abbrev feParams (q1 q2 : Pos) : Arguments := { posonlyargs := [], args := [{ arg := "self", annotation := none, pos := q1 }, { arg := "value", annotation := none, pos := q2 }], vararg := none, kwonlyargs := [], kw_defaults := [], kwarg := none, defaults := [] }
abbrev feBody (p1 p2 p3 p4 p5 p6 p7 p8 p9 p10 : Pos) : List Stmt := [.Expr (.Call (.Attribute (.Call (.Name "super" p1) [] [] p2) "__init__" p3) [.Name "value" p4] [] p5) p6, .Assign [.Attribute (.Name "self" p7) "value" p8] (.Name "value" p9) p10]
abbrev feScope : Scope := { kind := .function, names := [("self", .local), ("value", .local), ("__class__", .free), ("super", .globalImplicit)], isGenerator := false, isCoroutine := false, more := [] }
/-- how super().__init__(value) is evaluated: one line -/
def FeV (qual : Str) (f cda cc : Addr) (p1 p2 p3 p4 p5 : Pos) : Prop := ∀ L, ∃ pl, eval (.Call (.Attribute (.Call (.Name "super" p1) [] [] p2) "__init__" p3) [.Name "value" p4] [] p5) (PySem.W.ksEnv qual feScope L f (.ref cda) cc) = (do
      let ov ← attributeBase (.Call (.Name "super" p1) [] [] p2) "__init__" (PySem.W.ksEnv qual feScope L f (.ref cda) cc) (eval (.Call (.Name "super" p1) [] [] p2) (PySem.W.ksEnv qual feScope L f (.ref cda) cc))
      standAt p3.atName
      let (f', first) ← holding [ov] (getMethod ov "__init__" pl)
      callWith p5 f' first (backTo p5 (starEach [.Name "value" p4] (PySem.W.ksEnv qual feScope L f (.ref cda) cc))) [])
abbrev exAt (C t1 : Addr) (d : Option Addr) : Obj := { cls := .ref C, dict := d, data := .fields #[.ref t1, .none, .none, .none, .bool false, .none] }

section
variable {P : Program} {w : World} {K : PySem.W.Frag} {mg : Str → Option Value} {base : Heap} {A : Around} {D f cc cda a C t0 : Addr} {qual : Str} {q1 q2 p1 p2 p3 p4 p5 p6 p7 p8 p9 p10 : Pos} {hp : Heap} {g : Array GenState} {d : Drawn} {t : Nat} {os : OsState} {u : Value} {R : Result → Shared → Prop}
theorem fe_init (S : SupD P K mg D f cc cda qual (feParams q1 q2) (feBody p1 p2 p3 p4 p5 p6 p7 p8 p9 p10) feScope ["self", "value"]) (V : FeV qual f cda cc p1 p2 p3 p4 p5) (T : FeC K D C) (MD : Mod K mg base) (kp : ∀ b o, base.get? b = some o → hp.get? b = some o ∧ b ≠ a)
    (hroom : A.depth < recursionLimit) (ha : hp.get? a = some (exAt C t0 none))
    (hq : ∀ h' t' t1 dx, (∀ b o, b ≠ a → hp.get? b = some o → h'.get? b = some o) → hp.objs.size ≤ dx → dx ≠ a → h'.get? a = some (exAt C t1 (some dx)) → h'.Ns1 dx (fun y => if y = "value" then some u else none) → R (.ok (.ret .none)) ⟨h', g, d, t', os⟩) :
    codeAny (model P w) A (.call (.ref f) ⟨[.ref a, u], []⟩) R ⟨hp, g, d, t, os⟩ := by
  have kp0 : ∀ b o, base.get? b = some o → hp.get? b = some o := fun b o e => (kp b o e).1
  have X : K.In hp := MD.kin.keeps kp0
  obtain ⟨oc, od, osl, dV, kV, doc, pm, an, ct, hf, hbd⟩ := S.fn
  obtain ⟨nm, q, N, bs, bm, sn, sub, ab, col, dd, k0, k1, k2, k3, k5, hC, hbm⟩ := T.cls
  have hcl : PySem.W.clsIn K C = some { name := nm, bases := bs, mro := .ref C :: bm, ns := N, qualname := q, hasDict := true, slotNames := sn, subclasses := sub, abstract := ab, collection := col, hasDel := false } := by unfold PySem.W.clsIn; rw [hC] <;> rfl
  refine ks_codeAny_call_defAt (fd := PySem.W.ksFn "__init__" qual (feParams q1 q2) (feBody p1 p2 p3 p4 p5 p6 p7 p8 p9 p10) feScope dV kV doc pm an (.ref cda) ct cc) (binds := [("self", .ref a), ("value", u)]) hroom (X _ _ hf) rfl (MD.nolimit.keeps kp0) (PySem.W.codeRec_of X S.code) rfl
    (hbd _ _ X rfl) (show ∀ x ∈ feScope.names, x.2 ≠ .cell by decide) (by intro x hx; simp only [List.mem_cons, List.not_mem_nil, or_false] at hx; rcases hx with rfl | rfl <;> rfl) (fun h0 hns hk => ?_)
  have kp1 : ∀ b o, base.get? b = some o → h0.get? b = some o := fun b o e => hk b o (kp0 b o e)
  have sz0 : hp.objs.size ≤ h0.objs.size := by
    obtain ⟨o, _, _, e, _⟩ := hns
    exact Nat.le_of_lt (Heap.lt_size e)
  obtain ⟨pl, hev⟩ := V hp.objs.size
  have hcl' := hcl
  have gk : ∀ {h1 : Heap}, (∀ y o, h0.get? y = some o → h1.get? y = some o) → K.In h1 := fun k => MD.kin.keeps fun b o e => k b o (kp1 b o e)
  refine ks_wpAt_execs_cons (ks_wpAt_Expr_any (ks_wpAt_MethodCall (pl := pl) (super_node S MD kp1 hns (ar := { arg := "self", annotation := none, pos := q1 }) rfl (by rfl) (hk _ _ ha) rfl (fun c e => by cases e) T.mro (by decide) rfl rfl rfl rfl fun h1 k1 hso => ?_) hev) (by rfl) (by rfl))
  have sz1 : h0.objs.size < h1.objs.size := Heap.lt_size hso
  have ha1 := k1 _ _ (hk _ _ ha)
  have I1 : PySem.W.InstAt h1 a (exAt C t0 none) C none := ⟨ha1, rfl, rfl, trivial⟩
  have hsup := T.sup
  unfold PySem.W.ks_superIn at hsup
  rw [hcl, Option.bind_some] at hsup
  refine PySem.W.kxs_getMethod PySem.W.kxs_ValueError hso (PySem.W.looks_opaque (gk k1) S.opq) ((PySem.W.looks_clsIn (gk k1) hcl).andThen .now) rfl (gk k1) hsup (I1.type.andThen (PySem.W.looks_subIn (gk k1) T.sve)) (PySem.W.ks_ne (gk k1) I1 hcl) (by decide) ?_
  have hns2 : (h1.push (veMw a)).Ns hp.objs.size (fun x => List.lookup x [(("self" : Str), Value.ref a), (("value" : Str), u)].reverse) := hns.keeps fun b o e => Heap.get?_push_of_some _ (k1 b o e)
  refine callWithV (x := a) (PySem.Calls.spliced_cons (PySem.ESX.ldL hns2 (v := u) (by rfl) (PySem.Calls.spliced_nil ⟨Heap.get?_push_at rfl rfl, ?_⟩) rfl rfl))
  refine call_veMw (gk (fun b o e => Heap.get?_push_of_some _ (k1 b o e)) _ _ hC) (t0 := t0) (Heap.get?_push_of_some _ ha1) (Heap.get?_push_at rfl rfl) (by rw [sizeLine_eq]; simp) fun h2 t1 k2 ha2 => ?_
  have neL : hp.objs.size ≠ a := fun z => absurd (Heap.lt_size ha) (by rw [← z]; exact Nat.lt_irrefl _)
  have k02 : ∀ b o, b ≠ a → h0.get? b = some o → h2.get? b = some o := fun b o n e => k2 b o n (Heap.get?_push_of_some _ (k1 b o e))
  have hns3 : h2.Ns hp.objs.size (fun x => List.lookup x [(("self" : Str), Value.ref a), (("value" : Str), u)].reverse) := by
    obtain ⟨o, es, ep, e, r⟩ := hns
    exact ⟨o, es, ep, k02 _ _ neL e, r⟩
  have lt2 : hp.objs.size < h2.objs.size := by
    obtain ⟨o, _, _, e, _⟩ := hns3
    exact Heap.lt_size e
  have kb2 : ∀ b o, base.get? b = some o → h2.get? b = some o := fun b o e => k02 b o (kp b o e).2 (kp1 b o e)
  have X2 : K.In h2 := MD.kin.keeps kb2
  refine ks_wpAt_execs_cons (ks_wpAt_Assign_Attr (wpAt_of_wpAny (PySem.ESX.ldL hns3 (v := u) (by rfl) (PySem.ESX.ldL hns3 (v := .ref a) (by rfl) ?_ rfl rfl) rfl rfl)) (by rfl))
  refine PySem.W.set_plain X2 (ox := exAt C t1 none) (od := none) ⟨ha2, rfl, rfl, trivial⟩ T.sa ?_
  refine PySem.HandSPX.exc_osa X2 ha2 hcl (show PySem.HandSPX.refsVE (.ref C :: bm) = true from hbm) rfl T.noval (fun h3 tk3 dx k3 dn dne ha3 hn3 => ?_)
  refine wpAt_of_wpAny ?_
  show wpAny _ _ (execs [] _) _ _ _
  rw [execs_nil]
  refine wpAny_pure ?_
  exact hq h3 _ t1 dx (fun b o n e => k3 b o n (k02 b o n (hk b o e))) (Nat.le_trans (Nat.le_of_lt lt2) dn) dne ha3 hn3
end
end On

set_option Elab.async false
set_option linter.all false
set_option maxRecDepth 100000
set_option maxHeartbeats 2000000
set_option autoImplicit false
namespace On
open PySem PySem.Spec PyProof.Rows L2

/-- the def of an own __init__(self, value), where it stands -/
structure FeI (P : Program) (K : PySem.W.Frag) (mg : Str → Option Value) (D f : Addr) : Prop where
  ex : ∃ cc cda qual q1 q2 p1 p2 p3 p4 p5 p6 p7 p8 p9 p10, SupD P K mg D f cc cda qual (feParams q1 q2) (feBody p1 p2 p3 p4 p5 p6 p7 p8 p9 p10) feScope ["self", "value"] ∧ FeV qual f cda cc p1 p2 p3 p4 p5
  ty : PySem.W.typeIn K (.ref f) = some (.type "function")
/-- the class at C below D has that __init__ -/
structure FeK (K : PySem.W.Frag) (D f C : Addr) : Prop extends FeC K D C where
  ini : PySem.W.findIn K (.ref C) "__init__" = some (some (.ref f))

section
variable {P : Program} {w : World} {K : PySem.W.Frag} {mg : Str → Option Value} {base : Heap} {A : Around} {D f C : Addr} {hp : Heap} {g : Array GenState} {d : Drawn} {t : Nat} {os : OsState} {u : Value} {R : Result → Shared → Prop}
theorem fe_make (S : FeI P K mg D f) (T : FeK K D f C) (MD : Mod K mg base) (kp : ∀ b o, base.get? b = some o → hp.get? b = some o) (hroom : (A.under (.builtin "type.__call__" ⟨[.ref C, u], []⟩)).depth < recursionLimit)
    (hq : ∀ h' t' t1 dx a, (∀ b o, hp.get? b = some o → h'.get? b = some o) → hp.objs.size ≤ dx → hp.objs.size ≤ a → dx ≠ a → h'.get? a = some (exAt C t1 (some dx)) → h'.Ns1 dx (fun y => if y = "value" then some u else none) → R (.ok (.ret (.ref a))) ⟨h', g, d, t', os⟩) :
    codeAny (model P w) A (.call (.ref C) ⟨[u], []⟩) R ⟨hp, g, d, t, os⟩ := by
  obtain ⟨cc, cda, qual, q1, q2, p1, p2, p3, p4, p5, p6, p7, p8, p9, p10, SD, SV⟩ := S.ex
  have X : K.In hp := MD.kin.keeps kp
  obtain ⟨nm, q, N, bs, bm, sn, sub, ab, col, dd, k0, k1, k2, k3, k5, hC, hbm⟩ := T.cls
  refine PySem.HandSPX.call_own F.excBase_ValueError (fun Y => PySem.HandSPX.refsVE_contains Y bm hbm) (X _ _ hC) (PySem.W.looks_findIn X T.ini) (fun self => PySem.W.bind_fn X self S.ty) (by rw [sizeLine_eq]; simp) ?_
  have kk : ∀ b o, hp.get? b = some o → ((hp.push (PySem.W.kdv_tup [u])).push (PySem.HandSPX.excO C hp.objs.size)).get? b = some o := fun b o e => Heap.get?_push_of_some _ (Heap.get?_push_of_some _ e)
  have hget : ((hp.push (PySem.W.kdv_tup [u])).push (PySem.HandSPX.excO C hp.objs.size)).get? (hp.objs.size + 1) = some (exAt C hp.objs.size none) := by heap_get
  have lt : ∀ {b o}, hp.get? b = some o → b ≠ hp.objs.size + 1 := fun {b o} e => Nat.ne_of_lt (Nat.lt_succ_of_lt (Heap.lt_size e))
  refine fe_init SD SV T.toFeC MD (fun b o e => ⟨kk b o (kp b o e), lt (kp b o e)⟩) hroom hget fun h' t' t1 dx k dn dne ha hn => ⟨rfl, ?_⟩
  refine hq h' t' t1 dx (hp.objs.size + 1) (fun b o e => k b o (lt e) (kk b o e)) (Nat.le_trans ?_ dn) (Nat.le_succ _) dne ha hn
  show _ ≤ _
  simp only [Heap.push, Array.size_push]
  omega
end
section
variable {X : Cx} {pins : List (Addr × Obj)} {σ : L2.St} {H : Hp} {hp h' : Heap} {g : Array GenState} {dr : Drawn} {t t' : Nat} {os : OsState} {C t1 dx a : Addr} {mA : Str → Option Value} {fs : List (Str × V)}
/-- a new error and its dict: the dict alone is told of (the error is raised) -/
theorem Inv.feR (I : Inv X pins σ H ⟨hp, g, dr, t, os⟩) (k : ∀ b o, hp.get? b = some o → h'.get? b = some o) (hd : hp.objs.size ≤ dx) (ha : hp.objs.size ≤ a) (ne : dx ≠ a) (hn : h'.Ns1 dx mA) (r : ∀ f, RelO (fs.lookup f) (mA f)) :
    ∃ G : Heap, Inv X pins σ (upd H dx (.xd fs)) ⟨G, g, dr, t', os⟩ ∧ (∀ b o, G.get? b = some o → h'.get? b = some o) ∧ G.get? a = none ∧ (∀ b o, b ≠ a → h'.get? b = some o → G.get? b = some o) ∧ upd H dx (.xd fs) a = none := by
  obtain ⟨G, g1, g2⟩ := restrict h' fun b => decide (b ≠ a)
  have gk : ∀ b, b ≠ a → G.get? b = h'.get? b := fun b hb => g1 b (decide_eq_true hb)
  have ge : G.get? a = none := g2 a (by simp)
  have nha : ∀ {b : Addr} {o : Obj}, hp.get? b = some o → b ≠ a := fun {b o} z => Nat.ne_of_lt (Nat.lt_of_lt_of_le (Heap.lt_size z) ha)
  refine ⟨G, I.laid (t' := t') (a := dx) (o := .xd fs) (h' := G) (fun b o e => (gk b (nha e)).trans (k b o e)) hd ⟨mA, hn.at fun o e => (gk dx ne).trans e, r⟩, fun b o e => ?_, ge, fun b o n e => (gk b n).trans e, ?_⟩
  · by_cases hb : b = a
    · rw [hb, ge] at e
      cases e
    · exact (gk b hb).symm.trans e
  · rw [upd_ne (Ne.symm ne)]
    exact I.hok.fresh ha
/-- a new error and its dict, both told of -/
theorem Inv.feV (I : Inv X pins σ H ⟨hp, g, dr, t, os⟩) (k : ∀ b o, hp.get? b = some o → h'.get? b = some o) (hd : hp.objs.size ≤ dx) (ha : hp.objs.size ≤ a) (ne : dx ≠ a) (he : h'.get? a = some (exAt C t1 (some dx))) (hn : h'.Ns1 dx mA) (r : ∀ f, RelO (fs.lookup f) (mA f)) :
    Inv X pins σ (upd (upd H dx (.xd fs)) a (exo a C (some dx))) ⟨h', g, dr, t', os⟩ := by
  obtain ⟨G, J, kG, ge, _, na⟩ := Inv.feR (t' := t') I k hd ha ne hn r
  exact J.laidN (t' := t') kG ge na (exo_ok he)
end
section
variable {X : Cx} {D f C : Addr} {x : Str} {e : Expr} {ta : TE} {p pos : Pos}
theorem one_lookup (k : Str) (v : V) {u : Value} (r : RelV v u) (g : Str) : RelO (([(k, v)] : List (Str × V)).lookup g) (if g = k then some u else none) := relO_put (fs := []) (mA := fun _ => none) r (fun _ => True.intro) g
/-- C(e), as a value -/
theorem pe_fe (S : FeI X.prog X.K X.mg D f) (T : FeK X.K D f C) (hr : Room 1 X.A) (hg : Gl X x) (hm : X.mg x = some (.ref C)) (he : PE X e ta)
    (hs : starEach [e] X.env = (false, eval e X.env) :: starEach [] X.env := by rfl) (hdb : (x == ("__debug__" : Str)) = false := by decide) :
    PE X (.Call (.Name x p) [e] [] pos) (fun σ H Q => ta σ H fun v H1 => ∀ a dx, H1 a = none → H1 dx = none → dx ≠ a → Q (.ref a) (upd (upd H1 dx (.xd [("value", v)])) a (exo a C (some dx)))) := by
  refine ⟨fun pins s σ H Q I h => ?_⟩
  refine wpAny_Call_Name_kw (ld_glob I hg hm ?_ hdb)
  refine PySem.W.callWith_K (h₀ := X.base) I.ok.mod.kin T.kC ?_ hs (by rfl)
  rw [hs]
  show wpAny _ _ (spliced ((false, eval e X.env) :: backTo pos (starEach [] X.env))) _ _ s
  refine Calls.spliced_cons (thn (he.run pins s σ H _ I h) fun u s1 ⟨v, H1, I1, r1, q1⟩ => ?_)
  refine Calls.spliced_nil ⟨I1.kIn, ?_⟩
  show wpAny _ _ (call (.ref C) [u]) _ _ _
  obtain ⟨hp, g, dr, t, os⟩ := s1
  refine wpAny_call (fe_make S T I1.ok.mod (fun b o e => (I1.bs b o e).1) (hr.make C [u] []).depth fun h' t' t1 dx a k hd ha ne hE hn => ?_)
  exact ⟨.ref a, _, Inv.feV (t' := t') I1 k hd ha ne hE hn (one_lookup _ _ r1), rfl, q1 a dx (I1.hok.fresh ha) (I1.hok.fresh hd) ne⟩
/-- C(e), to be raised -/
theorem pmk_fe (S : FeI X.prog X.K X.mg D f) (T : FeK X.K D f C) (hr : Room 1 X.A) (hg : Gl X x) (hm : X.mg x = some (.ref C)) (he : PE X e ta)
    (hs : starEach [e] X.env = (false, eval e X.env) :: starEach [] X.env := by rfl) (hdb : (x == ("__debug__" : Str)) = false := by decide) :
    PMk X (.Call (.Name x p) [e] [] pos) (fun σ H Q => ta σ H fun v H1 => ∀ dx, H1 dx = none → Q (.ref C) (some dx) (upd H1 dx (.xd [("value", v)]))) := by
  intro pins s σ H Q I h
  refine wpAny_Call_Name_kw (ld_glob I hg hm ?_ hdb)
  refine PySem.W.callWith_K (h₀ := X.base) I.ok.mod.kin T.kC ?_ hs (by rfl)
  rw [hs]
  show wpAny _ _ (spliced ((false, eval e X.env) :: backTo pos (starEach [] X.env))) _ _ s
  refine Calls.spliced_cons (thn (he.run pins s σ H _ I h) fun u s1 ⟨v, H1, I1, r1, q1⟩ => ?_)
  refine Calls.spliced_nil ⟨I1.kIn, ?_⟩
  show wpAny _ _ (call (.ref C) [u]) _ _ _
  obtain ⟨hp, g, dr, t, os⟩ := s1
  refine wpAny_call (fe_make S T I1.ok.mod (fun b o e => (I1.bs b o e).1) (hr.make C [u] []).depth fun h' t' t1 dx a k hd ha ne hE hn => ?_)
  obtain ⟨G, J, kG, ge, gk, na⟩ := Inv.feR (t' := t') I1 k hd ha ne hn (one_lookup _ _ r1)
  exact ⟨a, _, _, ⟨G, g, dr, t', os⟩, _, .ref C, some dx, rfl, J, kG, ge, hE, ⟨rfl, rfl⟩, rfl, rfl, na, rfl, I1.bare, raises_own T.exC T.tyC, q1 dx (I1.hok.fresh hd)⟩
end
end On

set_option Elab.async false
set_option linter.all false
set_option maxRecDepth 100000
set_option maxHeartbeats 2000000
set_option autoImplicit false
namespace On
open PySem PySem.Spec PyProof.Rows L2

/-! ### an error class below such a class, with a second field -/
abbrev rfParams (q1 q2 q3 : Pos) (y : Str) : Arguments := { posonlyargs := [], args := [{ arg := "self", annotation := none, pos := q1 }, { arg := "value", annotation := none, pos := q2 }, { arg := y, annotation := none, pos := q3 }], vararg := none, kwonlyargs := [], kw_defaults := [], kwarg := none, defaults := [] }
abbrev rfBody (y : Str) (p1 p2 p3 p4 p5 p6 p7 p8 p9 p10 : Pos) : List Stmt := [.Expr (.Call (.Attribute (.Call (.Name "super" p1) [] [] p2) "__init__" p3) [.Name "value" p4] [] p5) p6, .Assign [.Attribute (.Name "self" p7) y p8] (.Name y p9) p10]
abbrev rfScope (y : Str) : Scope := { kind := .function, names := [("self", .local), ("value", .local), (y, .local), ("__class__", .free), ("super", .globalImplicit)], isGenerator := false, isCoroutine := false, more := [] }
def RfV (y qual : Str) (f cda cc : Addr) (p1 p2 p3 p4 p5 : Pos) : Prop := ∀ L, ∃ pl, eval (.Call (.Attribute (.Call (.Name "super" p1) [] [] p2) "__init__" p3) [.Name "value" p4] [] p5) (PySem.W.ksEnv qual (rfScope y) L f (.ref cda) cc) = (do
      let ov ← attributeBase (.Call (.Name "super" p1) [] [] p2) "__init__" (PySem.W.ksEnv qual (rfScope y) L f (.ref cda) cc) (eval (.Call (.Name "super" p1) [] [] p2) (PySem.W.ksEnv qual (rfScope y) L f (.ref cda) cc))
      standAt p3.atName
      let (f', first) ← holding [ov] (getMethod ov "__init__" pl)
      callWith p5 f' first (backTo p5 (starEach [.Name "value" p4] (PySem.W.ksEnv qual (rfScope y) L f (.ref cda) cc))) [])
/-- the def, its class at D, the def above at f0 of the class at D0 -/
structure RfI (P : Program) (K : PySem.W.Frag) (mg : Str → Option Value) (D0 f0 D f : Addr) : Prop where
  ex : ∃ cc cda qual q1 q2 q3 p1 p2 p3 p4 p5 p6 p7 p8 p9 p10, SupD P K mg D f cc cda qual (rfParams q1 q2 q3 "why") (rfBody "why" p1 p2 p3 p4 p5 p6 p7 p8 p9 p10) (rfScope "why") ["self", "value", "why"] ∧ RfV "why" qual f cda cc p1 p2 p3 p4 p5
  ty : PySem.W.typeIn K (.ref f) = some (.type "function")
  up : FeI P K mg D0 f0
  c0 : FeC K D0 D
  self : PySem.W.mroIn K D (.ref D) = some true
  sup : PySem.W.ks_superIn K D D "__init__" = some (some (.ref f0))
  nowhy : PySem.W.findIn K (.ref D) "why" = some none
  ini : PySem.W.findIn K (.ref D) "__init__" = some (some (.ref f))

section
variable {P : Program} {w : World} {K : PySem.W.Frag} {mg : Str → Option Value} {base : Heap} {A : Around} {D0 f0 C f a t0 : Addr} {hp : Heap} {g : Array GenState} {d : Drawn} {t : Nat} {os : OsState} {u z : Value} {R : Result → Shared → Prop}
theorem rf_init (S : RfI P K mg D0 f0 C f) (MD : Mod K mg base) (kp : ∀ b o, base.get? b = some o → hp.get? b = some o ∧ b ≠ a)
    (hroom : A.depth < recursionLimit) (hroom2 : ∀ e, (A.deeper e).depth < recursionLimit) (ha : hp.get? a = some (exAt C t0 none))
    (hq : ∀ h' t' t1 dx, (∀ b o, b ≠ a → hp.get? b = some o → h'.get? b = some o) → hp.objs.size ≤ dx → dx ≠ a → h'.get? a = some (exAt C t1 (some dx)) → h'.Ns1 dx (fun y => if y = "why" then some z else if y = "value" then some u else none) → R (.ok (.ret .none)) ⟨h', g, d, t', os⟩) :
    codeAny (model P w) A (.call (.ref f) ⟨[.ref a, u, z], []⟩) R ⟨hp, g, d, t, os⟩ := by
  obtain ⟨cc, cda, qual, q1, q2, q3, p1, p2, p3, p4, p5, p6, p7, p8, p9, p10, SD, SV⟩ := S.ex
  have kp0 : ∀ b o, base.get? b = some o → hp.get? b = some o := fun b o e => (kp b o e).1
  have X : K.In hp := MD.kin.keeps kp0
  obtain ⟨oc, od, osl, dV, kV, doc, pm, an, ct, hf, hbd⟩ := SD.fn
  obtain ⟨nm, q, N, bs, bm, sn, sub, ab, col, dd, k0, k1, k2, k3, k5, hC, hbm⟩ := S.c0.cls
  have hcl : PySem.W.clsIn K C = some { name := nm, bases := bs, mro := .ref C :: bm, ns := N, qualname := q, hasDict := true, slotNames := sn, subclasses := sub, abstract := ab, collection := col, hasDel := false } := by unfold PySem.W.clsIn; rw [hC] <;> rfl
  refine ks_codeAny_call_defAt (fd := PySem.W.ksFn "__init__" qual (rfParams q1 q2 q3 "why") (rfBody "why" p1 p2 p3 p4 p5 p6 p7 p8 p9 p10) (rfScope "why") dV kV doc pm an (.ref cda) ct cc) (binds := [("self", .ref a), ("value", u), ("why", z)]) hroom (X _ _ hf) rfl (MD.nolimit.keeps kp0) (PySem.W.codeRec_of X SD.code) rfl
    (hbd _ _ X rfl) (show ∀ x ∈ (rfScope "why").names, x.2 ≠ .cell by decide) (by intro x hx; simp only [List.mem_cons, List.not_mem_nil, or_false] at hx; rcases hx with rfl | rfl | rfl <;> rfl) (fun h0 hns hk => ?_)
  have kp1 : ∀ b o, base.get? b = some o → h0.get? b = some o := fun b o e => hk b o (kp0 b o e)
  obtain ⟨pl, hev⟩ := SV hp.objs.size
  have gk : ∀ {h1 : Heap}, (∀ y o, h0.get? y = some o → h1.get? y = some o) → K.In h1 := fun k => MD.kin.keeps fun b o e => k b o (kp1 b o e)
  refine ks_wpAt_execs_cons (ks_wpAt_Expr_any (ks_wpAt_MethodCall (pl := pl) (super_node SD MD kp1 hns (ar := { arg := "self", annotation := none, pos := q1 }) rfl (by rfl) (hk _ _ ha) rfl (fun c e => by cases e) S.self (by decide) rfl rfl rfl rfl fun h1 k1 hso => ?_) hev) (by rfl) (by rfl))
  have ha1 := k1 _ _ (hk _ _ ha)
  have I1 : PySem.W.InstAt h1 a (exAt C t0 none) C none := ⟨ha1, rfl, rfl, trivial⟩
  have hsup := S.sup
  unfold PySem.W.ks_superIn at hsup
  rw [hcl, Option.bind_some] at hsup
  have fo := S.up.ex
  obtain ⟨cc0, cda0, qual0, q10, q20, p10', p20, p30, p40, p50, p60, p70, p80, p90, p100, SD0, SV0⟩ := fo
  obtain ⟨oc0, od0, osl0, dV0, kV0, doc0, pm0, an0, ct0, hf0, hbd0⟩ := SD0.fn
  have hoc0 : oc0 = .type "function" := by
    have z : (K.lookup f0).map (·.cls) = some (.type "function") := S.up.ty
    rw [hf0] at z
    exact Option.some.inj z
  subst hoc0
  refine ks_wpAny_getMethod_super hso (PySem.W.looks_opaque (gk k1) SD.opq) ((PySem.W.looks_clsIn (gk k1) hcl).andThen .now) rfl (gk k1) hsup (gk k1 _ _ hf0) rfl (PySem.W.ks_ne (gk k1) I1 hcl) (by decide) ?_
  have kq : ∀ b o, h0.get? b = some o → (h1.push (PySem.W.methodObj (.ref f0) (.ref a))).get? b = some o := fun b o e => Heap.get?_push_of_some _ (k1 b o e)
  have hns2 : (h1.push (PySem.W.methodObj (.ref f0) (.ref a))).Ns hp.objs.size (fun x => List.lookup x [(("self" : Str), Value.ref a), (("value" : Str), u), (("why" : Str), z)].reverse) := hns.keeps kq
  have hq0 : (h1.push (PySem.W.methodObj (.ref f0) (.ref a))).get? h1.objs.size = some (PySem.W.methodObj (.ref f0) (.ref a)) := Heap.get?_push_at rfl rfl
  have fi : PySem.W.fnIn K f0 = true := by unfold PySem.W.fnIn; rw [hf0]
  show wpAny _ _ (callWith p5 (.ref h1.objs.size) [] (backTo p5 ((false, eval (.Name "value" p4) (PySem.W.ksEnv qual (rfScope "why") hp.objs.size f (.ref cda) cc)) :: starEach [] (PySem.W.ksEnv qual (rfScope "why") hp.objs.size f (.ref cda) cc))) []) _ _ _
  refine PySem.W.callWith_of rfl (PySem.W.keeps_M (self := .ref a) fi) (PySem.Calls.evalArgs_plain (PySem.Calls.spliced_cons (PySem.ESX.ldL hns2 (v := u) (by rfl) (PySem.Calls.spliced_nil ⟨⟨hq0, gk kq⟩, ?_⟩) rfl rfl)))
  show wpAny _ _ (call (.ref h1.objs.size) [u]) _ _ _
  have neL : hp.objs.size ≠ a := fun z => absurd (Heap.lt_size ha) (by rw [← z]; exact Nat.lt_irrefl _)
  refine wpAny_call (ks_codeAny_call_bound hq0 (fe_init SD0 SV0 S.c0 MD (fun b o e => ⟨kq b o (kp1 b o e), (kp b o e).2⟩) (hroom2 _) (Heap.get?_push_of_some _ ha1) fun h2 t2 t1 dx k2 dn dne ha2 hn2 => ?_))
  have k02 : ∀ b o, b ≠ a → h0.get? b = some o → h2.get? b = some o := fun b o n e => k2 b o n (kq b o e)
  have hns3 : h2.Ns hp.objs.size (fun x => List.lookup x [(("self" : Str), Value.ref a), (("value" : Str), u), (("why" : Str), z)].reverse) := by
    obtain ⟨o, es, ep, e, r⟩ := hns
    exact ⟨o, es, ep, k02 _ _ neL e, r⟩
  have kb2 : ∀ b o, base.get? b = some o → h2.get? b = some o := fun b o e => k02 b o (kp b o e).2 (kp1 b o e)
  have X2 : K.In h2 := MD.kin.keeps kb2
  have dn' : hp.objs.size ≤ dx := Nat.le_trans (by
    obtain ⟨o, _, _, e, _⟩ := hns2
    exact Nat.le_of_lt (Heap.lt_size e)) dn
  refine ks_wpAt_execs_cons (ks_wpAt_Assign_Attr (wpAt_of_wpAny (PySem.ESX.ldL hns3 (v := z) (by rfl) (PySem.ESX.ldL hns3 (v := .ref a) (by rfl) ?_ rfl rfl) rfl rfl)) (by rfl))
  have hw : Within (fun y : Str => if y = "value" then some u else none) ["value"] := fun y hy => by
    by_cases e : y = "value"
    · rw [e]; exact List.mem_cons_self
    · exact absurd (if_neg e) hy
  obtain ⟨oD, _, _, hoD, _, _⟩ := hn2.count hw
  refine PySem.W.set_plain X2 (ox := exAt C t1 (some dx)) (od := some oD) ⟨ha2, rfl, rfl, hoD⟩ S.c0.sa ?_
  refine PySem.OEX.osa_old X2 ha2 hn2 hw (by decide) hcl (show PySem.HandSPX.refsVE (.ref C :: bm) = true from hbm) rfl S.nowhy (fun h3 tk3 k3 hn3 => ?_)
  refine wpAt_of_wpAny ?_
  show wpAny _ _ (execs [] _) _ _ _
  rw [execs_nil]
  refine wpAny_pure ?_
  have dxn : ∀ {b o}, hp.get? b = some o → b ≠ dx := fun {b o} e => Nat.ne_of_lt (Nat.lt_of_lt_of_le (Heap.lt_size e) dn')
  exact hq h3 _ t1 dx (fun b o n e => k3 b o (dxn e) (k02 b o n (hk b o e))) dn' dne (k3 _ _ (Ne.symm dne) ha2) hn3
theorem rf_make (S : RfI P K mg D0 f0 C f) (MD : Mod K mg base) (kp : ∀ b o, base.get? b = some o → hp.get? b = some o) (hroom : (A.under (.builtin "type.__call__" ⟨[.ref C, u, z], []⟩)).depth < recursionLimit) (hroom2 : ∀ e, ((A.under (.builtin "type.__call__" ⟨[.ref C, u, z], []⟩)).deeper e).depth < recursionLimit)
    (hq : ∀ h' t' t1 dx a, (∀ b o, hp.get? b = some o → h'.get? b = some o) → hp.objs.size ≤ dx → hp.objs.size ≤ a → dx ≠ a → h'.get? a = some (exAt C t1 (some dx)) → h'.Ns1 dx (fun y => if y = "why" then some z else if y = "value" then some u else none) → R (.ok (.ret (.ref a))) ⟨h', g, d, t', os⟩) :
    codeAny (model P w) A (.call (.ref C) ⟨[u, z], []⟩) R ⟨hp, g, d, t, os⟩ := by
  have X : K.In hp := MD.kin.keeps kp
  obtain ⟨nm, q, N, bs, bm, sn, sub, ab, col, dd, k0, k1, k2, k3, k5, hC, hbm⟩ := S.c0.cls
  refine PySem.HandSPX.call_own F.excBase_ValueError (fun Y => PySem.HandSPX.refsVE_contains Y bm hbm) (X _ _ hC) (PySem.W.looks_findIn X S.ini) (fun self => PySem.W.bind_fn X self S.ty) (by rw [sizeLine_eq]; simp) ?_
  have kk : ∀ b o, hp.get? b = some o → ((hp.push (PySem.W.kdv_tup [u, z])).push (PySem.HandSPX.excO C hp.objs.size)).get? b = some o := fun b o e => Heap.get?_push_of_some _ (Heap.get?_push_of_some _ e)
  have hget : ((hp.push (PySem.W.kdv_tup [u, z])).push (PySem.HandSPX.excO C hp.objs.size)).get? (hp.objs.size + 1) = some (exAt C hp.objs.size none) := by heap_get
  have lt : ∀ {b o}, hp.get? b = some o → b ≠ hp.objs.size + 1 := fun {b o} e => Nat.ne_of_lt (Nat.lt_succ_of_lt (Heap.lt_size e))
  refine rf_init S MD (fun b o e => ⟨kk b o (kp b o e), lt (kp b o e)⟩) hroom hroom2 hget fun h' t' t1 dx k dn dne ha hn => ⟨rfl, ?_⟩
  refine hq h' t' t1 dx (hp.objs.size + 1) (fun b o e => k b o (lt e) (kk b o e)) (Nat.le_trans ?_ dn) (Nat.le_succ _) dne ha hn
  show _ ≤ _
  simp only [Heap.push, Array.size_push]
  omega
end
section
variable {X : Cx} {D0 f0 f C : Addr} {x : Str} {e1 e2 : Expr} {ta : TA} {p pos : Pos}
theorem two_lookup (k1 k2 : Str) (v1 v2 : V) {u1 u2 : Value} (r1 : RelV v1 u1) (r2 : RelV v2 u2) (g : Str) : RelO (([(k1, v1), (k2, v2)] : List (Str × V)).lookup g) (if g = k1 then some u1 else if g = k2 then some u2 else none) :=
  relO_put (fs := [(k2, v2)]) (mA := fun g => if g = k2 then some u2 else none) r1 (one_lookup k2 v2 r2) g
/-- C(e1, e2), as a value -/
theorem pe_rf (S : RfI X.prog X.K X.mg D0 f0 C f) (hr : Room 2 X.A) (hg : Gl X x) (hm : X.mg x = some (.ref C)) (ha : PA X [e1, e2] ta)
    (hs : starEach [e1, e2] X.env = (false, eval e1 X.env) :: starEach [e2] X.env := by rfl) (hpl : (backTo pos (starEach [e2] X.env)).any (·.1) = false := by rfl) (hdb : (x == ("__debug__" : Str)) = false := by decide) :
    PE X (.Call (.Name x p) [e1, e2] [] pos) (fun σ H Q => ta σ H fun vs H1 => ∃ v1 v2, vs = [v1, v2] ∧ ∀ a dx, H1 a = none → H1 dx = none → dx ≠ a → Q (.ref a) (upd (upd H1 dx (.xd [("why", v2), ("value", v1)])) a (exo a C (some dx)))) := by
  refine ⟨fun pins s σ H Q I h => ?_⟩
  refine wpAny_Call_Name_kw (ld_glob I hg hm ?_ hdb)
  refine PySem.W.callWith_K (h₀ := X.base) I.ok.mod.kin S.c0.kC (thn (ha.run pos pins s σ H _ I h) fun us s1 ⟨vs, H1, I1, r1, v1, v2, ev, q1⟩ => ⟨I1.kIn, ?_⟩) hs hpl
  subst ev
  cases r1 with | @cons _ u _ _ ra rr => cases rr with | @cons _ z _ _ rb rr => cases rr with | nil =>
  show wpAny _ _ (call (.ref C) [u, z]) _ _ _
  obtain ⟨hp, g, dr, t, os⟩ := s1
  refine wpAny_call (rf_make S I1.ok.mod (fun b o e => (I1.bs b o e).1) (hr.make C [u, z] []).depth (fun e => ((hr.make C [u, z] []).deeper e).depth) fun h' t' t1 dx a k hd ha ne hE hn => ?_)
  exact ⟨.ref a, _, Inv.feV (t' := t') I1 k hd ha ne hE hn (two_lookup _ _ _ _ rb ra), rfl, q1 a dx (I1.hok.fresh ha) (I1.hok.fresh hd) ne⟩
/-- C(e1, e2), to be raised -/
theorem pmk_rf (S : RfI X.prog X.K X.mg D0 f0 C f) (hr : Room 2 X.A) (hg : Gl X x) (hm : X.mg x = some (.ref C)) (ha : PA X [e1, e2] ta)
    (hs : starEach [e1, e2] X.env = (false, eval e1 X.env) :: starEach [e2] X.env := by rfl) (hpl : (backTo pos (starEach [e2] X.env)).any (·.1) = false := by rfl) (hdb : (x == ("__debug__" : Str)) = false := by decide) :
    PMk X (.Call (.Name x p) [e1, e2] [] pos) (fun σ H Q => ta σ H fun vs H1 => ∃ v1 v2, vs = [v1, v2] ∧ ∀ dx, H1 dx = none → Q (.ref C) (some dx) (upd H1 dx (.xd [("why", v2), ("value", v1)]))) := by
  intro pins s σ H Q I h
  refine wpAny_Call_Name_kw (ld_glob I hg hm ?_ hdb)
  refine PySem.W.callWith_K (h₀ := X.base) I.ok.mod.kin S.c0.kC (thn (ha.run pos pins s σ H _ I h) fun us s1 ⟨vs, H1, I1, r1, v1, v2, ev, q1⟩ => ⟨I1.kIn, ?_⟩) hs hpl
  subst ev
  cases r1 with | @cons _ u _ _ ra rr => cases rr with | @cons _ z _ _ rb rr => cases rr with | nil =>
  show wpAny _ _ (call (.ref C) [u, z]) _ _ _
  obtain ⟨hp, g, dr, t, os⟩ := s1
  refine wpAny_call (rf_make S I1.ok.mod (fun b o e => (I1.bs b o e).1) (hr.make C [u, z] []).depth (fun e => ((hr.make C [u, z] []).deeper e).depth) fun h' t' t1 dx a k hd ha ne hE hn => ?_)
  obtain ⟨G, J, kG, ge, gk, na⟩ := Inv.feR (t' := t') I1 k hd ha ne hn (two_lookup _ _ _ _ rb ra)
  exact ⟨a, _, _, ⟨G, g, dr, t', os⟩, _, .ref C, some dx, rfl, J, kG, ge, hE, ⟨rfl, rfl⟩, rfl, rfl, na, rfl, I1.bare, raises_own S.c0.exC S.c0.tyC, q1 dx (I1.hok.fresh hd)⟩
end
end On

set_option Elab.async false
set_option linter.all false
set_option maxRecDepth 100000
set_option maxHeartbeats 2000000
set_option autoImplicit false
namespace On
open PySem PySem.Spec PyProof.Rows L2
/-! ### objects made, methods called: what they raise is wished for at the caller's slots -/
section
variable {X : Cx} {CX : CXT} {k : Nat} {f A : Addr} {fd : FuncData} {ps : List Str} {sp : Sp} {E : L2.St → XK} {x m : Str} {p pos apos : Pos} {e o : Expr} {es : List Expr} {t : TA} {ta : TE}
def tMakeS (A : Addr) (sp : Sp) (E : L2.St → XK) (t : TA) : TE := fun σ H Q => t σ H fun vs H1 => ∀ x dx, H1 x = none → H1 dx = none → dx ≠ x → sp (.ref x :: vs) (upd (upd H1 dx (.own x)) x (.ins A dx [])) (fun v H2 => v = .non ∧ Q (.ref x) H2) (E σ)
theorem guards_make {A0 : Around} {C : Addr} {us : List Value} {kw : List (Str × Value)} (h : A0.guards = some []) : (A0.under (.builtin "type.__call__" ⟨.ref C :: us, kw⟩)).guards = some [] := by
  have e : (Code.builtin "type.__call__" ⟨.ref C :: us, kw⟩).isGuard = false := by
    show guardIds.contains "type.__call__" = false
    decide +kernel
  simp [Around.under, Code.guards, e, pushGuards, h]
theorem pe_makeS (M : Mk X.K A f) (F : FnG X.prog X.w X.K X.mg X.base CX k f fd ps sp) (hr : Room (k + 1) X.A) (hgd : X.A.guards = some []) (hg : Gl X x) (hm : X.mg x = some (.ref A)) (hb : Binds X.K fd ps []) (hx : ∀ σ, PassesAt CX X σ (E σ))
    (ha : PA X (e :: es) t) (hdb : (x == ("__debug__" : Str)) = false := by decide) (he : starEach (e :: es) X.env = (false, eval e X.env) :: starEach es X.env := by rfl) (hpl : (backTo pos (starEach es X.env)).any (·.1) = false := by rfl) :
    PE X (.Call (.Name x p) (e :: es) [] pos) (tMakeS A sp E t) := by
  refine ⟨fun pins s σ H Q I h => wpAny_Call_Name_kw (ld_glob I hg hm ?_ hdb)⟩
  refine PySem.W.callWith_K (h₀ := X.base) I.ok.mod.kin M.kp (thn (ha.run pos pins s σ H _ I h) fun us s1 ⟨vs, H1, I1, r, q⟩ => ⟨I1.kIn, ?_⟩) he hpl
  have q1 := q (s1.heap.objs.size + 1) s1.heap.objs.size (I1.hok.fresh (Nat.le_succ _)) (I1.hok.fresh (Nat.le_refl _)) (Nat.ne_of_lt (Nat.lt_succ_self _))
  have I2 := Inv.made (C := A) I1
  have r2 : Vals (V.ref (s1.heap.objs.size + 1) :: vs) (Value.ref (s1.heap.objs.size + 1) :: us) := .cons rfl r
  have hl : ((Value.ref (s1.heap.objs.size + 1) :: us) ++ ([] : List Value)).length = ps.length := by
    have z := r2.length
    rw [F.len _ _ _ _ q1] at z
    rw [List.append_nil]
    exact z.symm
  have bd := hb _ (Value.ref (s1.heap.objs.size + 1) :: us) I2.kIn hl
  rw [List.append_nil] at bd
  show wpAny _ _ (call (.ref A) us) _ _ _
  refine wpAny_call (make_map (f := f) I1.kIn M.makes M.init (beq_iff_eq.mp M.fn) (codeAny_mono (F.run _ X.stack _ _ ⟨Value.ref (s1.heap.objs.size + 1) :: us, []⟩ _ _ _ (E σ) (hr.make A us []) (guards_make hgd) (I2.env0.make A us []) bd r2 q1) fun r s' hq' => ?_))
  cases r with
  | error w => exact hx σ pins _ _ w s' I2 hq'
  | ok fl =>
    cases fl with
    | ret u =>
      obtain ⟨v, H', I3, rv, ev, q3⟩ := I2.after hq'
      subst ev
      exact ⟨rv, ⟨V.ref (s1.heap.objs.size + 1), H', I3, rfl, q3⟩⟩
    | next => exact False.elim hq'
    | brk => exact False.elim hq'
    | cont => exact False.elim hq'
def tMethS (A : Addr) (m : Str) (sp : Sp) (E : L2.St → XK) (ta : TE) (t : TA) : TE := fun σ H Q => ta σ H fun x H1 => ∃ a dx fs, x = .ref a ∧ H1 a = some (.ins A dx fs) ∧ fs.lookup m = none ∧ t σ H1 fun vs H2 => sp (x :: vs) H2 Q (E σ)
theorem pe_methS {pl : Sem Bool} (he : PE X o ta) (c : Cls X.K A) (hm : Meth X.K A m f) (F : FnG X.prog X.w X.K X.mg X.base CX k f fd ps sp) (hr : Room k X.A) (hgd : X.A.guards = some []) (hb : Binds X.K fd ps []) (hx : ∀ σ, PassesAt CX X σ (E σ)) (ha : PA X (e :: es) t)
    (hst : starEach (e :: es) X.env = (false, eval e X.env) :: starEach es X.env := by rfl) (hpl : (backTo pos (starEach es X.env)).any (·.1) = false := by rfl)
    (ht : eval (.Call (.Attribute o m apos) (e :: es) [] pos) X.env = (do
      let ov ← eval o X.env
      standAt apos.atName
      let (f, first) ← holding [ov] (getMethod ov m pl)
      callWith pos f first (backTo pos (starEach (e :: es) X.env)) (backToKw pos (keywordEach [] X.env))) := by rfl) :
    PE X (.Call (.Attribute o m apos) (e :: es) [] pos) (tMethS A m sp E ta t) := by
  refine ⟨fun pins s σ H Q I h => PySem.W.methodCall_KW (pl := pl) (thn (he.run pins s σ H _ I h) fun u s1 ⟨x, H1, I1, rx, a, dx, fs, ex, ea, l, q⟩ => ?_) ht⟩
  subst ex
  obtain rfl : u = Value.ref a := rx
  refine getmeth_ok I1 ea c hm l ?_
  refine PySem.W.callWith_K (first := [.ref a]) (h₀ := X.base) I.ok.mod.kin hm.kp (thn (ha.run pos pins s1 σ H1 _ I1 q) fun us s2 ⟨vs, H2, I2, r, q2⟩ => ⟨I2.kIn, ?_⟩) hst hpl
  exact run_G (us := .ref a :: us) (vs := .ref a :: vs) (E := E) F hr hgd hb (hx σ) I2 (.cons rfl r) q2
end
section
variable {C : Ct} {E : WX} {X : Cx} {a b e o : Expr} {es : List Expr} {ma mb me : Gm → J → R D} {mr : Gm → J → R (List D)} {pos p p2 apos : Pos} {k : Nat} {f : Addr} {fd : FuncData} {ps : List Str} {x m : Str}
/-- C(..): a new thing, which is not changed any more -/
def mMake (c : Nat) (g : List D → J → R (List (Str × D))) (mr : Gm → J → R (List D)) : Gm → J → R D := fun Γ j => (mr Γ j).bind fun ds j => (g ds j).bind fun fs j => .ok (.ins c fs) j
theorem spI_of {c : Nat} {g : List D → J → R (List (Str × D))} {O : Addr → Prop} {ρ : List Addr} {σ : L2.St} {Γ : Gm} {H : Hp} {j : J} {Q : VK} {vs : List V} {ds : List D} (S : Sok C O ρ σ H Γ j) (hv : DenA C.b ρ H (Bo O ρ j) vs ds) (q : Post C E O σ Γ ρ j H ((g ds j).bind fun fs j => .ok (.ins c fs) j) fun d j' ρ' H' => ∀ v, Den C.b ρ' H' (Bo O ρ' j') v d → Q v H')
    {l dx : Addr} (hl : H l = none) (hdx : H dx = none) (nd : dx ≠ l) : spI C.b c g (.ref l :: vs) (upd (upd H dx (.own l)) l (.ins (C.b.cm c) dx [])) (fun v H2 => v = .non ∧ Q (.ref l) H2) (WE E σ) := by
  have x1 : Ext H (upd H dx (.own l)) := Ext.new hdx
  have hl1 : upd H dx (.own l) l = none := by rw [upd_ne nd.symm]; exact hl
  have S1 := S.ext x1
  have S2 := S1.more (o := .ins (C.b.cm c) dx []) hl1
  have nρ : l ∉ ρ := fun z => by obtain ⟨o, e⟩ := S.st.rtr l z; rw [hl] at e; cases e
  have nO : ¬ O l := fun z => by obtain ⟨o, e⟩ := S.st.trk l z; rw [hl] at e; cases e
  have ee : er (upd (upd H dx (.own l)) l (.ins (C.b.cm c) dx [])) l = upd H dx (.own l) := by
    funext b
    by_cases z : b = l
    · rw [z, er_self, hl1]
    · rw [er_ne z, upd_ne z]
  have st : Step ρ (Bo O ρ j) H ρ (Bo (fun a => O a ∨ a = l) ρ j) (upd (upd H dx (.own l)) l (.ins (C.b.cm c) dx [])) := ⟨(x1.trans (Ext.new hl1)).pres, fun a z => by
    rcases z with (z | z) | z
    · exact .inl (.inl z)
    · rw [z]; exact .inr hl
    · exact .inl (.inr z), Pfx.refl⟩
  refine ⟨fun a => O a ∨ a = l, ρ, j, l, dx, vs, ds, rfl, upd_same, nρ, .inr rfl, S2.st, st.denA hv, ?_⟩
  rw [ee]
  revert q
  generalize g ds j = r
  intro q
  cases r with
  | bad => exact q
  | ok fs j' =>
    intro ρ' H' dx' us k s' n ho hf
    have k' := S.kpt x1.keep k
    have s2 : Sto C.b O ρ' H' j' := s'.less fun a z => .inl z
    have nB : ¬ Bo O ρ' j' l := fun z => z.elim nO fun z => n z.mem
    exact ⟨rfl, q ρ' H' k' (S.keep k' s2) _ (.ins ho nB (hf.less fun a z => .inl (z.imp (fun z => .inl z) id)))⟩
  | exc n fs j' =>
    intro x us ρ' H' k s' hx hn hf
    have k' := S.kpt x1.keep k
    have ne : ∀ a, O a → (O a ∨ a = l) ∧ a ≠ l := fun a z => ⟨.inl z, fun w => nO (w ▸ z)⟩
    exact q x us ρ' H' k' (S.keep k' (s'.less ne)) hx (fun z => hn (z.imp (ne x) id)) (hf.less fun a z => .inl (z.imp (ne a) id))
theorem me_make {c : Nat} {g : List D → J → R (List (Str × D))} (tk : Takes X E) (M : Mk X.K (C.b.cm c) f) (G : FnG X.prog X.w X.K X.mg X.base (L2.CX X.prog X.w) k f fd ps (spI C.b c g)) (hr : Room (k + 1) X.A) (hgd : X.A.guards = some []) (hg : Gl X x) (hm : X.mg x = some (.ref (C.b.cm c))) (hb : Binds X.K fd ps [])
    (ha : MA C E X (e :: es) mr) (hdb : (x == ("__debug__" : Str)) = false := by decide) (he : starEach (e :: es) X.env = (false, eval e X.env) :: starEach es X.env := by rfl) (hpl : (backTo pos (starEach es X.env)).any (·.1) = false := by rfl) :
    ME C E X (.Call (.Name x p) (e :: es) [] pos) (mMake c g mr) :=
  PE.imp (pe_makeS (E := WE E) M G hr hgd hg hm hb (fun σ => passAt tk σ) ha hdb he hpl) fun σ H Q ⟨O, ρ, Γ, j, S, h⟩ => ⟨O, ρ, Γ, j, S, Post.imp (Post.bind S h) fun ds j1 ρ1 H1 k1 S1 q vs hv l dx hl hdx nd => spI_of S1 hv q hl hdx nd⟩
/-- o.m(..), o of the class c -/
def mMeth (c : Nat) (m : Str) (g : List D → J → R D) (mo : Gm → J → R D) (mr : Gm → J → R (List D)) : Gm → J → R D := fun Γ j => (mo Γ j).bind fun d j => match deref j d with
  | .ins n fs => if n = c ∧ fs.lookup m = none then (mr Γ j).bind fun ds j => g (d :: ds) j else .bad
  | _ => .bad
theorem me_meth {c : Nat} {g : List D → J → R D} {mo : Gm → J → R D} {pl : Sem Bool} (tk : Takes X E) (hc : Cls X.K (C.b.cm c)) (hm : Meth X.K (C.b.cm c) m f) (G : FnG X.prog X.w X.K X.mg X.base (L2.CX X.prog X.w) k f fd ps (spG C.b g)) (hr : Room k X.A) (hgd : X.A.guards = some []) (hb : Binds X.K fd ps [])
    (ho : ME C E X o mo) (ha : MA C E X (e :: es) mr)
    (hst : starEach (e :: es) X.env = (false, eval e X.env) :: starEach es X.env := by rfl) (hpl : (backTo pos (starEach es X.env)).any (·.1) = false := by rfl)
    (ht : eval (.Call (.Attribute o m apos) (e :: es) [] pos) X.env = (do
      let ov ← eval o X.env
      standAt apos.atName
      let (f, first) ← holding [ov] (getMethod ov m pl)
      callWith pos f first (backTo pos (starEach (e :: es) X.env)) (backToKw pos (keywordEach [] X.env))) := by rfl) :
    ME C E X (.Call (.Attribute o m apos) (e :: es) [] pos) (mMeth c m g mo mr) :=
  PE.imp (pe_methS (pl := pl) (E := WE E) ho hc hm G hr hgd hb (fun σ => passAt tk σ) ha hst hpl ht) fun σ H Q ⟨O, ρ, Γ, j, S, h⟩ => ⟨O, ρ, Γ, j, S, Post.imp (Post.bind S h) fun d j1 ρ1 H1 k1 S1 q v hv => by
    split at q
    · rename_i n fs hd
      obtain ⟨⟨e, hl⟩, q3⟩ := Post.ite q
      clear q
      subst e
      have hw := S1.st.view hv
      rw [hd] at hw
      obtain ⟨a, dx, vs, rfl, ha, r⟩ := hw.insAt
      refine ⟨a, dx, vs, rfl, ha, r.nolook hl, O, ρ1, Γ, j1, S1, Post.imp (Post.bind S1 q3) fun ds j2 ρ2 H2 k2 S2 q2 us hus => ?_⟩
      exact spG_of S2 (.cons ((k2.step O).den hv) hus) q2
    · exact q.elim⟩
end

/-! ### errors made, raised -/
def mX (c : Nat) (me : Gm → J → R D) : Gm → J → R D := fun Γ j => (me Γ j).bind fun d j => .ok (.exn c [("value", d)]) j
def mX2 (c : Nat) (mr : Gm → J → R (List D)) : Gm → J → R D := fun Γ j => (mr Γ j).bind fun ds j => match ds with
  | [d, e] => .ok (.exn c [("why", e), ("value", d)]) j
  | _ => .bad
def sRaise (c : Nat) (me : Gm → J → R D) : Gm → J → RS := fun Γ j => (me Γ j).bindS Γ fun d j => .exc c [("value", d)] Γ j
def sRaise2 (c : Nat) (mr : Gm → J → R (List D)) : Gm → J → RS := fun Γ j => (mr Γ j).bindS Γ fun ds j => match ds with
  | [d, e] => .exc c [("why", e), ("value", d)] Γ j
  | _ => .bad
section
variable {C : Ct} {E : WX} {X : Cx} {e e1 e2 : Expr} {me : Gm → J → R D} {mr : Gm → J → R (List D)} {pos p p2 : Pos} {x : Str} {D0 f0 f : Addr} {c : Nat}
theorem two_new {H : Hp} {a dx : Addr} {o o' : HO} (ha : H a = none) (hd : H dx = none) (ne : dx ≠ a) : Ext H (upd (upd H dx o) a o') :=
  (Ext.new hd).trans (Ext.new (by rw [upd_ne (Ne.symm ne)]; exact ha))
theorem me_exn (S : FeI X.prog X.K X.mg D0 f) (T : FeK X.K D0 f (C.b.cm c)) (hr : Room 1 X.A) (hg : Gl X x) (hm : X.mg x = some (.ref (C.b.cm c))) (he : ME C E X e me)
    (hs : starEach [e] X.env = (false, eval e X.env) :: starEach [] X.env := by rfl) (hdb : (x == ("__debug__" : Str)) = false := by decide) : ME C E X (.Call (.Name x p) [e] [] pos) (mX c me) :=
  PE.imp (pe_fe S T hr hg hm he hs hdb) fun σ H Q ⟨O, ρ, Γ, j, S, h⟩ => ⟨O, ρ, Γ, j, S, Post.imp (Post.bind S h) fun d j1 ρ1 H1 k1 S1 q v hv a dx ha hd ne => by
    have k := two_new (o := .xd [("value", v)]) (o' := exo a (C.b.cm c) (some dx)) ha hd ne
    exact q _ _ k.keep (S1.ext k) _ (.exn (.inl upd_same) (S1.fresh ha) (by rw [upd_ne ne, upd_same]) (S1.fresh hd) (.cons (hv.mono k.pres Pfx.refl) .nil))⟩
theorem me_exn2 (S : RfI X.prog X.K X.mg D0 f0 (C.b.cm c) f) (hr : Room 2 X.A) (hg : Gl X x) (hm : X.mg x = some (.ref (C.b.cm c))) (ha : MA C E X [e1, e2] mr)
    (hs : starEach [e1, e2] X.env = (false, eval e1 X.env) :: starEach [e2] X.env := by rfl) (hpl : (backTo pos (starEach [e2] X.env)).any (·.1) = false := by rfl) (hdb : (x == ("__debug__" : Str)) = false := by decide) :
    ME C E X (.Call (.Name x p) [e1, e2] [] pos) (mX2 c mr) :=
  PE.imp (pe_rf S hr hg hm ha hs hpl hdb) fun σ H Q ⟨O, ρ, Γ, j, S, h⟩ => ⟨O, ρ, Γ, j, S, Post.imp (Post.bind S h) fun ds j1 ρ1 H1 k1 S1 q vs hvs => by
    cases hvs with
    | nil => exact q.elim
    | cons h1 r1 =>
      cases r1 with
      | nil => exact q.elim
      | cons h2 r2 =>
        cases r2 with
        | cons _ _ => exact q.elim
        | nil =>
          rename_i v1 _ v2 _
          refine ⟨_, _, rfl, fun a dx ha hd ne => ?_⟩
          have k := two_new (o := .xd [("why", v2), ("value", v1)]) (o' := exo a (C.b.cm c) (some dx)) ha hd ne
          exact q _ _ k.keep (S1.ext k) _ (.exn (.inl upd_same) (S1.fresh ha) (by rw [upd_ne ne, upd_same]) (S1.fresh hd) (.cons (h2.mono k.pres Pfx.refl) (.cons (h1.mono k.pres Pfx.refl) .nil)))⟩
theorem ms_raise (hc : X.calm = true) (tk : Takes X E) (S : FeI X.prog X.K X.mg D0 f) (T : FeK X.K D0 f (C.b.cm c)) (hr : Room 1 X.A) (hg : Gl X x) (hm : X.mg x = some (.ref (C.b.cm c))) (he : ME C E X e me)
    (hs : starEach [e] X.env = (false, eval e X.env) :: starEach [] X.env := by rfl) (hdb : (x == ("__debug__" : Str)) = false := by decide) : MS C E X (.Raise (some (.Call (.Name x p) [e] [] pos)) none p2) (sRaise c me) :=
  PS.imp (ps_raise hc tk (pmk_fe S T hr hg hm he hs hdb)) fun Dn σ H ⟨O, ρ, Γ, j, S, h⟩ => ⟨O, ρ, Γ, j, S, Post.imp (PostS.of S h) fun d j1 ρ1 H1 k1 S1 q v hv dx hd => by
    have k : Ext H1 (upd H1 dx (.xd [("value", v)])) := Ext.new hd
    exact q O ρ1 σ _ dx _ ((Ext.keep k).step O) (S1.ext k) upd_same (S1.fresh hd) (.cons (hv.mono k.pres Pfx.refl) .nil)⟩
theorem ms_raise2 (hc : X.calm = true) (tk : Takes X E) (S : RfI X.prog X.K X.mg D0 f0 (C.b.cm c) f) (hr : Room 2 X.A) (hg : Gl X x) (hm : X.mg x = some (.ref (C.b.cm c))) (ha : MA C E X [e1, e2] mr)
    (hs : starEach [e1, e2] X.env = (false, eval e1 X.env) :: starEach [e2] X.env := by rfl) (hpl : (backTo pos (starEach [e2] X.env)).any (·.1) = false := by rfl) (hdb : (x == ("__debug__" : Str)) = false := by decide) :
    MS C E X (.Raise (some (.Call (.Name x p) [e1, e2] [] pos)) none p2) (sRaise2 c mr) :=
  PS.imp (ps_raise hc tk (pmk_rf S hr hg hm ha hs hpl hdb)) fun Dn σ H ⟨O, ρ, Γ, j, S, h⟩ => ⟨O, ρ, Γ, j, S, Post.imp (PostS.of S h) fun ds j1 ρ1 H1 k1 S1 q vs hvs => by
    cases hvs with
    | nil => exact q.elim
    | cons h1 r1 =>
      cases r1 with
      | nil => exact q.elim
      | cons h2 r2 =>
        cases r2 with
        | cons _ _ => exact q.elim
        | nil =>
          rename_i v1 _ v2 _
          refine ⟨_, _, rfl, fun dx hd => ?_⟩
          have k : Ext H1 (upd H1 dx (.xd [("why", v2), ("value", v1)])) := Ext.new hd
          exact q O ρ1 σ _ dx _ ((Ext.keep k).step O) (S1.ext k) upd_same (S1.fresh hd) (.cons (h2.mono k.pres Pfx.refl) (.cons (h1.mono k.pres Pfx.refl) .nil))⟩
end
/-! ### match over constants -/
/-- the cases of a match, at a subject v -/
def PM (X : Cx) (cs : List MatchCase) (t : V → TS) : Prop := ∀ (first : Bool) (pins : List (Addr × Obj)) (s : Shared) (σ : L2.St) (H : Hp) (v : V) (u : Value) (Dn : Ends), Inv X pins σ H s → RelV v u → t v Dn σ H → wpAny (model X.prog X.w) X.A (matchCases cs X.env u first) (SP X pins Dn) X.xe s
section
variable {C : Ct} {E : WX} {X : Cx} {e c : Expr} {me mc : Gm → J → R D} {pos p : Pos} {body : List Stmt} {mb mr : Gm → J → RS} {rest : List MatchCase}
theorem pm_nil : PM X [] (fun _ => tNext) := fun first pins s σ H v u Dn I r h => wpAny_matchCases_nil ⟨σ, H, I, h⟩
theorem pm_cons {tc : TE} {tb : TS} {tr : V → TS} {r : R2} (ho : OpR X (compareOp .Eq) r) (hc : PE X c tc) (hb : PSs X body tb) (hr : PM X rest tr) :
    PM X (⟨.MatchValue c p, none, body⟩ :: rest) (fun v Dn σ H => tc σ H fun w H1 => r v w H1 fun z H2 => ∃ k, z = .bl k ∧ if k = true then tb Dn σ H2 else tr v Dn σ H2) := by
  intro first pins s σ H v u Dn I rv h
  refine wpAny_matchCases_cons ?_
  rw [arm_matchPattern_MatchValue]
  refine wpAny_bind (thn (hc.run pins s σ H _ I h) fun u1 s1 ⟨w, H1, I1, rw1, q⟩ => ?_)
  refine wpAny_bind (wpAny_standAt (wpAny_bind (thn (ho pins s1 σ H1 v w u u1 _ I1 rv rw1 q) fun u2 s2 ⟨z, H2, I2, rz, k, ez, q2⟩ => ?_)))
  subst ez
  cases rz
  refine wpAny_bind (wpAny_truthy_bool ?_)
  cases k with
  | true => exact wpAny_pure (wpAny_assignInOrder_none (hb.run pins s2 σ H2 Dn I2 (by simpa using q2)))
  | false => exact wpAny_pure (hr false pins s2 σ H2 v u Dn I2 rv (by simpa using q2))
theorem PM.imp {cs : List MatchCase} {t t' : V → TS} (h : PM X cs t) (k : ∀ v Dn σ H, t' v Dn σ H → t v Dn σ H) : PM X cs t' := fun first pins s σ H v u Dn I r q => h first pins s σ H v u Dn I r (k v Dn σ H q)
abbrev MM (C : Ct) (E : WX) (X : Cx) (cs : List MatchCase) (m : D → Gm → J → RS) : Prop := PM X cs fun v Dn σ H => ∃ O ρ Γ j d, Sok C O ρ σ H Γ j ∧ Den C.b ρ H (Bo O ρ j) v d ∧ PostS C E ρ (Bo O ρ j) H (m d Γ j) Dn
def cNil : D → Gm → J → RS := fun _ Γ j => .nx Γ j
def cCons (c : D) (mb : Gm → J → RS) (mr : D → Gm → J → RS) : D → Gm → J → RS := fun d Γ j => match eqD d c with
  | some true => mb Γ j
  | some false => mr d Γ j
  | none => .bad
theorem mm_nil : MM C E X [] cNil := PM.imp pm_nil fun v Dn σ H ⟨O, ρ, Γ, j, d, S, hd, h⟩ => h O ρ σ H Step.refl S
theorem mm_cons {d : D} {mr : D → Gm → J → RS} (ho : OpR X (compareOp .Eq) (rEqU C.b.K)) (hc : ME C E X c (mC d)) (hb : MB C E X body mb) (hr : MM C E X rest mr) : MM C E X (⟨.MatchValue c p, none, body⟩ :: rest) (cCons d mb mr) :=
  PM.imp (pm_cons ho hc hb hr) fun v Dn σ H ⟨O, ρ, Γ, j, f, S, hd, h⟩ => ⟨O, ρ, Γ, j, S, fun ρ1 H1 k1 S1 w hw => by
    have h1 := PostS.shift (k1.step O) h
    unfold cCons at h1
    split at h1
    · rename_i q
      exact eqD_run (Vw.of ((k1.step O).den hd)) (Vw.of hw) q ⟨true, rfl, iteT ⟨O, ρ1, Γ, j, S1, h1⟩⟩
    · rename_i q
      exact eqD_run (Vw.of ((k1.step O).den hd)) (Vw.of hw) q ⟨false, rfl, iteF ⟨O, ρ1, Γ, j, f, S1, (k1.step O).den hd, h1⟩⟩
    · exact h1.elim⟩
def sMatch (me : Gm → J → R D) (m : D → Gm → J → RS) : Gm → J → RS := fun Γ j => (me Γ j).bindS Γ fun d j => m d Γ j
theorem ms_match {cs : List MatchCase} {m : D → Gm → J → RS} (he : ME C E X e me) (hm : MM C E X cs m) : MS C E X (.Match e cs pos) (sMatch me m) :=
  ⟨fun pins s σ H Dn I ⟨O, ρ, Γ, j, S, h⟩ => wpAny_Match (thn (he.run pins s σ H (fun v H1 => ∃ ρ1 j1 d, Sok C O ρ1 σ H1 Γ j1 ∧ Den C.b ρ1 H1 (Bo O ρ1 j1) v d ∧ PostS C E ρ1 (Bo O ρ1 j1) H1 (m d Γ j1) Dn) I ⟨O, ρ, Γ, j, S, Post.imp (PostS.of S h) fun d j1 ρ1 H1 k1 S1 q v hv => ⟨ρ1, j1, d, S1, hv, q⟩⟩)
    fun u s1 ⟨v, H1, I1, rv, ρ1, j1, d, S1, hd, q⟩ => hm true pins s1 σ H1 v u Dn I1 rv ⟨O, ρ1, Γ, j1, d, S1, hd, q⟩)⟩
end
end On

set_option Elab.async false
set_option linter.all false
set_option maxRecDepth 100000
set_option maxHeartbeats 2000000
set_option autoImplicit false
namespace On
open PySem PySem.Spec PyProof.Rows L2
section
variable {C : Ct} {E : WX} {X : Cx} {a b e o : Expr} {es : List Expr} {ma mb me mo : Gm → J → R D} {mr : Gm → J → R (List D)} {pos p p2 : Pos}
def mDict0 : Gm → J → R D := fun _ j => .ok (.dct []) j
theorem me_dict0 : ME C E X (.Dict [] [] pos) mDict0 :=
  PE.imp pe_dnewK fun σ H Q ⟨O, ρ, Γ, j, S, h⟩ p hp => by
    have x : Ext H (upd H p (.dK [])) := Ext.new hp
    exact h _ _ x.keep (S.ext x) _ (.dK (.inl upd_same) (S.fresh hp) .nil)
/-! enumerate of a list -/
def enumD (i : Nat) : List D → List D
  | [] => []
  | d :: ds => .tup [.int (i : Nat), d] :: enumD (i + 1) ds
theorem enumD_length : ∀ {ds : List D} {i : Nat}, (enumD i ds).length = ds.length
  | [], _ => rfl
  | _ :: ds, i => congrArg Nat.succ (enumD_length (ds := ds) (i := i + 1))
theorem enumD_get : ∀ {ds : List D} {i k : Nat} {d : D}, (enumD i ds)[k]? = some d → ∃ e, ds[k]? = some e ∧ d = .tup [.int ((i + k : Nat)), e]
  | [], _, _, _, h => by cases h
  | e :: ds, i, 0, d, h => by cases h; exact ⟨e, rfl, rfl⟩
  | e :: ds, i, k + 1, d, h => by
    obtain ⟨e', h1, h2⟩ := enumD_get (ds := ds) (i := i + 1) (k := k) h
    exact ⟨e', h1, by rw [h2]; congr 4; omega⟩
theorem yl_enum {K : PySem.W.Frag} (hK : K = C.b.K) {a : Addr} {ds : List D} : Yl C (fun ρ B H => Den C.b ρ H B (.ref a) (.lst ds)) (Ite K a) (enumD 0 ds) where
  go := fun i ρ B H h hi => by
    obtain ⟨b, xs, e, hs, r⟩ := (Vw.of h).lstSq
    cases e
    have hl := r.length
    rw [enumD_length] at hi
    exact ⟨xs, xs[i]'(by omega), by rw [hK]; exact hs, List.getElem?_eq_getElem _⟩
  yld := fun i ρ B H x H' d h tr hd y => by
    obtain ⟨b, xs, e, hs, r⟩ := (Vw.of h).lstSq
    cases e
    obtain ⟨T, w, rfl, hT, rfl, y⟩ := y
    obtain ⟨e, he, rfl⟩ := enumD_get hd
    obtain ⟨v, hv, hr⟩ := r.get he
    have := y xs (by rw [hK]; exact hs)
    rw [hv] at this
    cases this
    have x : Ext H (upd H T (.tup [.int (i : Nat), w])) := Ext.new hT
    have nB : ¬ B T := fun z => by
      obtain ⟨o, e⟩ := tr T z
      rw [hT] at e
      cases e
    refine ⟨x, .tup upd_same nB (.cons ?_ (.cons (hr.mono x.pres Pfx.refl) .nil))⟩
    rw [Nat.zero_add]
    exact .int _
  stop := fun i ρ B H h hi => by
    obtain ⟨b, xs, e, hs, r⟩ := (Vw.of h).lstSq
    cases e
    rw [enumD_length] at hi
    exact ⟨xs, by rw [hK]; exact hs, by rw [r.length]; exact hi⟩
  stay := fun ρ B H ρ' B' H' p h => p.den h
def enOf : List D → Option (List D)
  | [.lst ds] => some (enumD 0 ds)
  | _ => none
theorem mi_enum {ma : Gm → J → R (List D)} {elts : List Expr} {kk : Nat} {tpos : Pos} (hK : X.K = C.b.K) (hg : Gl X "enumerate") (hm : X.mg "enumerate" = none) (ha : MA C E X [e] ma) (hs : starEach [e] X.env = [(false, eval e X.env)] := by rfl) :
    MI C E X (.Tuple elts kk tpos) (.Call (.Name "enumerate" p) [e] [] pos) (iR enOf ma) :=
  PI.imp (pi_enum hg hm ha hs) fun σ H Rr ⟨O, ρ, Γ, j, S, h⟩ => ⟨O, ρ, Γ, j, S, Post.imp (Post.bind S h) fun ds j1 ρ1 H1 k1 S1 q vs hvs => by
    unfold enOf at q
    split at q
    · rename_i es
      cases hvs with
      | cons hv rr =>
      cases rr
      have hv' := hv
      obtain ⟨a, xs, rfl, hx, r⟩ := (Vw.of hv).lstSq
      exact ⟨a, xs, rfl, by rw [hK]; exact hx, Post.now S1 q _ _ (yl_enum hK) hv'⟩
    · exact q.elim⟩
/-! l.count(x) -/
def rCnt (K : PySem.W.Frag) : V → List V → Hp → VK → Prop := fun x ws H Q => ∃ l y ps d xs, x = .ref l ∧ ws = [y] ∧ SqL K H l xs ∧ DpAll K H xs ps ∧ Dp K H y d ∧ PyData.plainAll ps = true ∧ d.plain = true ∧ d.depth ≤ 60 ∧ Q (.int ((ps.countP fun z => PyData.eqv z d : Nat) : Int)) H
theorem mt_cnt (hu : X.A.units + 64 < cLine) : MtM X "list.count" (rCnt X.K) := by
  intro pins s σ H x ws v us Q I rx rv h
  obtain ⟨l, y, ps, d, xs, rfl, rfl, hs, ha, hd, h1, h2, h3, q⟩ := h
  cases rx
  obtain ⟨u, rfl, ru⟩ := rv.one
  obtain ⟨its, rv', pp, hz⟩ := I.list hs
  obtain ⟨as, rs⟩ := Dp.readsAll I ps _ its ha rv'
  obtain ⟨bs, rd⟩ := Dp.reads I d y u hd ru
  refine PySem.SeqAt.count_list_data (vs := its.toArray) pp.isList (by rw [List.toList_toArray]; exact rs) rd h1 h2 ?_ ⟨.int _, H, I.tok _, ⟨_, rfl⟩, q⟩
  have : min (PyData.depthAll ps) d.depth ≤ d.depth := Nat.min_le_right _ _
  omega
def cntD (ds : List D) (d : D) : Option D := match D.pyA ds, d.py with
  | some ps, some q => if PyData.plainAll ps = true ∧ q.plain = true ∧ q.depth ≤ 60 then some (.int ((ps.countP fun z => PyData.eqv z q : Nat) : Int)) else none
  | _, _ => none
def mCnt (mo me : Gm → J → R D) : Gm → J → R D := fun Γ j => (mo Γ j).bind fun d j => match deref j d with
  | .lst _ => (me Γ j).bind fun e j => (match deref j d with
    | .lst ds => lift (cntD ds (deref j e)) j
    | _ => .bad)
  | _ => .bad
theorem me_cnt {apos : Pos} (hK : X.K = C.b.K) (hu : X.A.units + 64 < cLine) (ho : ME C E X o mo) (he : ME C E X e me)
    (hbase : attributeBase o "count" X.env (eval o X.env) = eval o X.env := by rfl)
    (hfew : ((backTo p (starEach [e] X.env)).all (fun x => !x.1) && (backToKw p (keywordEach [] X.env)).all (fun x => x.1.isSome) && decide ([e].length + ([] : List Keyword).length + (if ([] : List Keyword).isEmpty then 0 else 1) < 30)) = true := by rfl)
    (hline : (apos.endLine == p.line) = true := by rfl) (hst : starEach [e] X.env = (false, eval e X.env) :: starEach [] X.env := by rfl) (hplain : (backTo p (starEach [] X.env)).any (·.1) = false := by rfl) :
    ME C E X (.Call (.Attribute o "count" apos) [e] [] p) (mCnt mo me) :=
  PE.imp (pe_bm PySem.F.plainAttrs_list PySem.F.slot_list_count PySem.F.type_list_count (mt_cnt hu) ho (pa_cons he pa_nil hst) hbase hfew hline hst hplain) fun σ H Q ⟨O, ρ, Γ, j, S, h⟩ => by
    refine ⟨O, ρ, Γ, j, S, Post.imp (Post.bind S h) fun d j1 ρ1 H1 k1 S1 q v hv => ?_⟩
    split at q
    · rename_i ds0 hd0
      have hw0 := S1.st.view hv
      rw [hd0] at hw0
      obtain ⟨l, xs, rfl, hx, r⟩ := hw0.lstSq
      refine ⟨.inl ⟨rfl, xs, by rw [hK]; exact hx⟩, O, ρ1, Γ, j1, S1, Post.imp (Post.bind S1 q) fun d2 j2 ρ2 H2 k2 S2 q2 u hu2 => ?_⟩
      split at q2
      · rename_i ds hd
        obtain ⟨z, hz, q3⟩ := post_lift S2 q2
        clear q2
        have hw := S2.st.view ((k2.step O).den hv)
        rw [hd] at hw
        obtain ⟨l', xs', e', hx', r'⟩ := hw.lstSq
        cases e'
        unfold cntD at hz
        split at hz
        · rename_i ps q e1 e2
          by_cases c : PyData.plainAll ps = true ∧ q.plain = true ∧ q.depth ≤ 60
          · rw [if_pos c] at hz
            cases hz
            exact ⟨l, u, ps, q, xs', rfl, rfl, by rw [hK]; exact hx', by rw [hK]; exact r'.dp e1, by rw [hK]; exact (S2.st.view hu2).dp e2, c.1, c.2.1, c.2.2, q3 _ H2 Ext.refl (.int _)⟩
          · rw [if_neg c] at hz; cases hz
        · cases hz
      · exact q2.elim
    · exact q.elim
end
/-! ### repr of data with empty dicts -/
mutual
def D.pyE : D → Option PyData
  | .non => some .none
  | .bl b => some (.bool b)
  | .int i => some (.int i)
  | .str x => some (.str x)
  | .lst xs => (D.pyEA xs).map .list
  | .tup xs => (D.pyEA xs).map .tuple
  | .dct es => (D.pyEK es).map .dict
  | _ => none
def D.pyEK : List (D × D) → Option (List (PyData × PyData))
  | [] => some []
  | (k, d) :: r => match (match k with
      | .str x => some (PyData.str x)
      | .int i => some (PyData.int i)
      | _ => none), d.pyE, D.pyEK r with
    | some q, some p, some ps => some ((q, p) :: ps)
    | _, _, _ => none
def D.pyEA : List D → Option (List PyData)
  | [] => some []
  | d :: ds => match d.pyE, D.pyEA ds with
    | some p, some ps => some (p :: ps)
    | _, _ => none
end
section
variable {X : Cx} {pins : List (Addr × Obj)} {σ : L2.St} {H : Hp} {s : Shared} {C : Cb} {ρ : List Addr} {B : Addr → Prop}
mutual
theorem Den.rdE (I : Inv X pins σ H s) (hK : X.K = C.K) (hsy : H sysModules = none) : ∀ {v : V} {d : D} {p : PyData} {u : Value}, Den C ρ H B v d → d.pyE = some p → RelV v u → ∃ as, Reads s.heap u p as ∧ sysModules ∉ as
  | _, _, _, _, .non, e, r => by cases e; cases r; exact ⟨_, .none, by simp⟩
  | _, _, _, _, .bl b, e, r => by cases e; cases r; exact ⟨_, .bool b, by simp⟩
  | _, _, _, _, .int i, e, r => by cases e; obtain ⟨t, rfl⟩ := r; exact ⟨_, .int i t, by simp⟩
  | _, _, _, _, .str x, e, r => by cases e; obtain ⟨t, rfl⟩ := r; exact ⟨_, .str x t, by simp⟩
  | _, _, p, _, .lst (ds := ds) h n r, e, ru => by
    unfold D.pyE at e
    cases q : D.pyEA ds with
    | none => rw [q] at e; cases e
    | some ps =>
      rw [q] at e; cases e; cases ru
      obtain ⟨its, rv, ⟨o, n, ho, hc, _, hd⟩, _⟩ := I.list (.inl (.inl h))
      obtain ⟨as, hr, na⟩ := DenA.rdE I hK hsy r q rv
      exact ⟨_, .list ho hc hd (by rw [List.toList_toArray]; exact hr), fun z => by
        rcases List.mem_cons.mp z with z | z
        · rw [z, h] at hsy; cases hsy
        · exact na z⟩
  | _, _, p, _, .tup (ds := ds) h n r, e, ru => by
    unfold D.pyE at e
    cases q : D.pyEA ds with
    | none => rw [q] at e; cases e
    | some ps =>
      rw [q] at e; cases e; cases ru
      obtain ⟨its, rv, ⟨o, ho, hc, n, hd⟩, _⟩ := I.tuple (.inl (.inl h))
      obtain ⟨as, hr, na⟩ := DenA.rdE I hK hsy r q rv
      exact ⟨_, .tuple ho hc hd (by rw [List.toList_toArray]; exact hr), na⟩
  | _, _, p, _, .tupK (ds := ds) h _ r, e, ru => by
    unfold D.pyE at e
    cases q : D.pyEA ds with
    | none => rw [q] at e; cases e
    | some ps =>
      rw [q] at e; cases e; cases ru
      obtain ⟨its, rv, ⟨o, ho, hc, n, hd⟩, _⟩ := I.tuple (sqTn (by rw [hK]; exact h))
      obtain ⟨as, hr, na⟩ := DenA.rdE I hK hsy r q rv
      exact ⟨_, .tuple ho hc hd (by rw [List.toList_toArray]; exact hr), na⟩
  | _, _, p, _, .dK (es := es) h n r, e, ru => by
    unfold D.pyE at e
    cases q : D.pyEK es with
    | none => rw [q] at e; cases e
    | some ps =>
      rw [q] at e; cases e; cases ru
      have hx : ObjOk X.prog X.w H s.heap _ (.dK _) := rd_of I.hok h
      obtain ⟨_, hs, vs, kv, o, es', ep, ho, hE, hd, _, hv, _⟩ := hx
      obtain ⟨as, bs, ra, rb, na, nb⟩ := DenK.rdE I hK hsy r q kv hv
      exact ⟨_, .dict ho hE.1 hd ra rb, fun z => by
        rcases List.mem_append.mp z with z | z
        · rcases List.mem_cons.mp z with z | z
          · rw [← z] at hs; simp at hs
          · exact na z
        · exact nb z⟩
  | _, _, _, _, .frz _ _ _, e, _ => by cases e
  | _, _, _, _, .fK _ _ _, e, _ => by cases e
  | _, _, _, _, .fT _ _ _, e, _ => by cases e
  | _, _, _, _, .frzK _ _, e, _ => by cases e
  | _, _, _, _, .dT _ _ _, e, _ => by cases e
  | _, _, _, _, .ins _ _ _, e, _ => by cases e
  | _, _, _, _, .exn _ _ _ _ _, e, _ => by cases e
  | _, _, _, _, .loc _, e, _ => by cases e
  | _, _, _, _, .cls _, e, _ => by cases e
theorem DenK.rdE (I : Inv X pins σ H s) (hK : X.K = C.K) (hsy : H sysModules = none) : ∀ {kvs : List (Key × V)} {es : List (D × D)} {ps : List (PyData × PyData)} {vs : List (Key × Value)} {l : List DictEntry}, DenK C ρ H B kvs es → D.pyEK es = some ps → KV kvs vs → Pairs (mixKind X.prog X.w) l vs →
    ∃ as bs, ReadsAll s.heap (l.map (·.key)) (ps.map (·.1)) as ∧ ReadsAll s.heap (l.map (·.val)) (ps.map (·.2)) bs ∧ sysModules ∉ as ∧ sysModules ∉ bs
  | _, _, _, _, _, .nil, e, kv, pr => by cases e; cases kv; cases pr; exact ⟨_, _, .nil, .nil, by simp, by simp⟩
  | _, _, p, _, _, .cons (k := k) (d := d) (ds := ds) h r, e, kv, pr => by
    cases kv with
    | cons kv1 kv =>
    cases pr with
    | cons p1 p2 pr =>
    unfold D.pyEK at e
    cases q1 : d.pyE with
    | none => rw [q1] at e; split at e <;> simp_all
    | some w1 =>
      cases q2 : D.pyEK ds with
      | none => rw [q1, q2] at e; split at e <;> simp_all
      | some w2 =>
        rw [q1, q2] at e
        obtain ⟨as, bs, ra, rb, na, nb⟩ := DenK.rdE I hK hsy r q2 kv pr
        obtain ⟨ek, rv⟩ := kv1
        rw [← p2] at rv
        obtain ⟨cs, rc, nc⟩ := Den.rdE I hK hsy h q1 rv
        have p1 := p1
        rw [← ek, mixKind_is] at p1
        dsimp only at p1
        cases k with
        | inl i =>
          cases e
          rcases keyIs_shape p1 with ⟨i', t, e1, e2⟩ | ⟨x, t, e1, e2⟩
          · cases e1
            refine ⟨_, _, .cons (as := []) (by show Reads _ _ (PyData.int i) []; dsimp only; rw [e2]; exact .int _ _) ra, .cons rc rb, by simpa using na, fun z => (List.mem_append.mp z).elim nc nb⟩
          · cases e1
        | inr x =>
          cases e
          rcases keyIs_shape p1 with ⟨i', t, e1, e2⟩ | ⟨x, t, e1, e2⟩
          · cases e1
          · cases e1
            refine ⟨_, _, .cons (as := []) (by show Reads _ _ (PyData.str x) []; dsimp only; rw [e2]; exact .str _ _) ra, .cons rc rb, by simpa using na, fun z => (List.mem_append.mp z).elim nc nb⟩
theorem DenA.rdE (I : Inv X pins σ H s) (hK : X.K = C.K) (hsy : H sysModules = none) : ∀ {v : List V} {d : List D} {p : List PyData} {u : List Value}, DenA C ρ H B v d → D.pyEA d = some p → Vals v u → ∃ as, ReadsAll s.heap u p as ∧ sysModules ∉ as
  | _, _, _, _, .nil, e, r => by cases e; cases r; exact ⟨_, .nil, by simp⟩
  | _, _, p, _, .cons (d := d) (ds := ds) h r, e, ru => by
    unfold D.pyEA at e
    cases q1 : d.pyE with
    | none => rw [q1] at e; cases e
    | some p1 =>
      cases q2 : D.pyEA ds with
      | none => rw [q1, q2] at e; cases e
      | some p2 =>
        rw [q1, q2] at e; cases e
        cases ru with
        | cons r1 r2 =>
          obtain ⟨as, x1, n1⟩ := Den.rdE I hK hsy h q1 r1
          obtain ⟨bs, x2, n2⟩ := DenA.rdE I hK hsy r q2 r2
          exact ⟨_, .cons x1 x2, fun z => (List.mem_append.mp z).elim n1 n2⟩
end
theorem Vw.rdE (I : Inv X pins σ H s) (hK : X.K = C.K) (hsy : H sysModules = none) {v : V} {d : D} {p : PyData} {u : Value} (h : Vw C ρ H B v d) (e : d.pyE = some p) (r : RelV v u) : ∃ as, Reads s.heap u p as ∧ sysModules ∉ as := by
  cases h with
  | of h => exact h.rdE I hK hsy e r
  | lst h q => exact (Den.lst (B := fun _ => False) h (fun z => z) (q.less fun _ z => z.elim)).rdE I hK hsy e r
  | dK h q => exact (Den.dK (B := fun _ => False) (.inl h) (fun z => z) (q.less fun _ z => z.elim)).rdE I hK hsy e r
  | dT h q => cases e
  | fK h q => cases e
  | fT h q => cases e
  | ins _ _ => cases e
end
def rReprE (C : Cb) : List V → Hp → VK → Prop := fun xs H Q => ∃ x ρ B d p, xs = [x] ∧ Vw C ρ H B x d ∧ d.pyE = some p ∧ p.showable = true ∧ p.depth ≤ 60 ∧ p.shown.length ≤ sizeLine ∧ Q (.str p.shown) H
theorem call_reprE {X : Cx} {C : Cb} {k : Nat} (hK : X.K = C.K) (hsy : (C.K.lookup sysModules).isSome = true) (hr : Room k X.A) (hgd : X.A.guards = some []) : CallR X (.builtin "repr") (rReprE C) := by
  intro pins s σ H xs us Q I r h
  obtain ⟨x, ρ, B, d, p, rfl, hd, hp, hs, hdp, hz, q⟩ := h
  obtain ⟨u, rfl, ru⟩ := vals1 r
  obtain ⟨osy, hsy⟩ := Option.isSome_iff_exists.mp hsy
  have hsn : H sysModules = none := (I.bs _ _ (I.ok.mod.kin _ _ (by rw [hK]; exact hsy))).2
  obtain ⟨as, rd, na⟩ := Vw.rdE I hK hsn hd hp ru
  have big : ∀ {a : Addr}, u = .ref a → wpAny (model X.prog X.w) X.A (call (.builtin "repr") [u]) (EP X pins σ Q) X.xe s := fun {a} e => by
    subst e
    refine repr_of_reads' rd hs (fun _ => na) hgd ?_ (fun _ _ e => e) (fun h' w tk hk => ⟨.str p.shown, H, I.kept (h' := h') (t' := tk) hk, ⟨w, rfl⟩, q⟩) hz
    have := hr.units
    omega
  cases hd with
  | lst _ _ => exact big ru
  | dK _ _ => exact big ru
  | dT _ _ => exact big ru
  | fK _ _ => exact big ru
  | fT _ _ => exact big ru
  | ins _ _ => exact big ru
  | of hd =>
  cases hd with
  | non => cases hp; cases ru; exact P.repr_of_none ⟨.str _, H, I.tok _, ⟨_, rfl⟩, q⟩
  | bl b => cases hp; cases ru; exact P.repr_of_bool ⟨.str _, H, I.tok _, ⟨_, rfl⟩, by cases b <;> exact q⟩
  | int i => cases hp; obtain ⟨t, rfl⟩ := ru; exact P.repr_of_int (by simpa [PyData.showable] using hs) ⟨.str _, H, I.tok _, ⟨_, rfl⟩, q⟩
  | str y => cases hp; obtain ⟨t, rfl⟩ := ru; exact P.repr_of_str ⟨.str _, H, I.tok _, ⟨_, rfl⟩, q⟩ hz
  | _ => exact big ru
def reprE (d : D) : Option Str := match d.pyE with
  | some p => if p.showable = true ∧ p.depth ≤ 60 ∧ p.leavesShort 40 = true ∧ p.weight ≤ 100000 then some p.shown else none
  | none => none
def fReprE : List D → Option D
  | [d] => (reprE d).map .str
  | _ => none
theorem cd_reprE {C : Cb} : CallD C (rReprE C) fReprE := fun ρ B H xs ds z Q ht hx hz k => by
  unfold fReprE at hz
  split at hz
  · rename_i d
    obtain ⟨v, rfl, h⟩ := hx.one
    unfold reprE at hz
    split at hz
    · rename_i p hp
      by_cases c : p.showable = true ∧ p.depth ≤ 60 ∧ p.leavesShort 40 = true ∧ p.weight ≤ 100000
      · rw [if_pos c] at hz
        cases hz
        exact ⟨v, ρ, B, d, p, rfl, h, hp, c.1, c.2.1, by have := PyData.shown_le 40 (by decide) p c.2.2.1; have := c.2.2.2; rw [sizeLine_eq]; omega, k _ H Ext.refl (.str _)⟩
      · rw [if_neg c] at hz; cases hz
    · cases hz
  · cases hz
/-! ### the end: a law of a list of ints -/
/-- the law's def hands back True for the script -/
def spL (C : Cb) : Sp := fun vs H Q _ => ∃ (a : Addr) (ns : List Int), vs = [.ref a] ∧ ns.length ≤ 63 ∧ (∀ p ∈ C.tb, H p.1 = some (.tbl #[])) ∧ Den C [] H (fun _ => False) (.ref a) (.frz (ns.map D.int)) ∧ ∀ H', Q (.bl true) H'
/-- the law's call, where its def keeps spL; cs: code objects of defs that make lambdas, their tables -/
theorem lawG {P : Program} {w : World} {C : Cb} {mg mb : Str → Option Value} {CX : CXT} {k : Nat} {fa a : Addr} {cs : List (Addr × Addr)} {fd : FuncData} {x : Str} {s1 : Shared} {vs : List Value} {ns : List Int}
    (KX : C.K.In s1.heap) (hns : s1.heap.Ns mainGlobals mg) (hb : s1.heap.Ns builtinsNs mb) (hbb : ∀ x : Str, x ≠ "__name__" → mb x = bootBuiltins x) (hlim : s1.heap.NoLimit) (hg : s1.gens = #[])
    (eT : ∀ p ∈ cs, s1.heap.get? p.2 = some { cls := .none, data := .fields #[] }) (nT : ∀ p ∈ cs, C.K.lookup p.2 = none) (hC : ∀ p ∈ cs, PySem.W.CodeHd s1.heap p.1 p.2) (hcs : ∀ p ∈ C.tb, ∃ q ∈ cs, q.2 = p.1)
    (hbm : ∃ (bm : Addr) (ob : Obj), mg "__builtins__" = some (.ref bm) ∧ bm ≠ builtinsNs ∧ s1.heap.get? bm = some ob ∧ ob.cls = .type "module" ∧ ob.dict = some builtinsNs ∧ ob.data = .plain)
    (ha : s1.heap.get? a = some { cls := .type "list", data := .seq vs.toArray }) (hi : IntsAre vs ns) (hl : ns.length ≤ 63) (hr : Room k callerA)
    (F : ∀ base : Heap, C.K.In base → base.Ns mainGlobals mg → (∀ p ∈ cs, LamX.TabB base mg p.1 p.2) → FnG P w C.K mg base CX k fa fd [x] (spL C)) (hbind : ∀ (s : Shared) (u : Value), BindsTo s fd ⟨[u], []⟩ [(x, u)])
    (hCX : ∀ H e s', CX [] H s1 (fun _ _ _ => False) e s' → False) :
    codeAny (model P w) callerA (.call (.ref fa) ⟨[.ref a], []⟩) (fun r s' => r = .ok (.ret (.bool true)) ∧ OldK s1.heap s'.heap ∧ s'.os = s1.os ∧ AllBare s'.gens) s1 := by
  have rv := vals_ints hi
  have hz : ns.length ≤ sizeLine := Nat.le_trans hl (by decide)
  have dA : ∀ {H : Hp} {ns : List Int}, DenA C [] H (fun _ => False) (ns.map V.int) (ns.map D.int) := fun {H ns} => by
    induction ns with
    | nil => exact .nil
    | cons n ns ih => exact .cons (.int n) ih
  have isT : ∀ b : Addr, b ∈ cs.map (·.2) → s1.heap.get? b = some { cls := .none, data := .fields #[] } := fun b z => by
    obtain ⟨p, hp, rfl⟩ := List.mem_map.mp z
    exact eT p hp
  have aT : a ∉ cs.map (·.2) := fun z => by
    have q := isT a z
    rw [ha] at q
    cases q
  have inT : ∀ p ∈ cs, p.2 ∈ cs.map (·.2) := fun p hp => List.mem_map.mpr ⟨p, hp, rfl⟩
  -- over an abstract heap that knows the script at most, and the tables
  have core : ∀ H : Hp, (∀ p ∈ cs, H p.2 = some (.tbl #[])) → Den C [] H (fun _ => False) (.ref a) (.frz (ns.map D.int)) → HOk P w H s1.heap → (∀ b u, H b = some u → b ∈ cs.map (·.2) ∨ (b = a ∧ C.K.lookup a = none ∧ ∃ o xs, u = .frz o (.lst xs))) →
      codeAny (model P w) callerA (.call (.ref fa) ⟨[.ref a], []⟩) (fun r s' => r = .ok (.ret (.bool true)) ∧ OldK s1.heap s'.heap ∧ s'.os = s1.os ∧ AllBare s'.gens) s1 := by
    intro H hH hD hok hA
    have free : ∀ {b : Addr} {o : Obj}, s1.heap.get? b = some o → (∀ vs n, o.data ≠ .seq vs n) → o.data ≠ .fields #[] → H b = none := fun {b o} e d1 d2 => by
      cases q : H b with
      | none => rfl
      | some u =>
        rcases hA b u q with z | ⟨rfl, _⟩
        · rw [isT b z] at e; cases e; exact (d2 rfl).elim
        · rw [ha] at e; cases e; exact (d1 _ _ rfl).elim
    have freeD : ∀ {b : Addr} {o : Obj} {es : Array DictEntry} {ep : Nat}, s1.heap.get? b = some o → o.data = .dict es ep → H b = none := fun e d => free e (fun _ _ z => by rw [d] at z; cases z) (fun z => by rw [d] at z; cases z)
    have nsK : ∀ {b : Addr} {m : Str → Option Value}, s1.heap.Ns b m → (hidT s1.heap H).Ns b m := fun ⟨o, es, ep, e, d, r⟩ => ⟨o, es, ep, hidT_get e (freeD e d), d, r⟩
    have kB : C.K.In (hidT s1.heap H) := fun b o e => hidT_get (KX b o e) (by
      cases q : H b with
      | none => rfl
      | some u =>
        rcases hA b u q with z | ⟨rfl, n, _⟩
        · obtain ⟨p, hp, rfl⟩ := List.mem_map.mp z
          rw [nT p hp] at e; cases e
        · rw [n] at e; cases e)
    have hM : Mod C.K mg (hidT s1.heap H) := ⟨kB, nsK hns, ⟨mb, nsK hb, hbb⟩, let ⟨mc, h1, h2⟩ := hlim; ⟨mc, nsK h1, h2⟩⟩
    have TB : ∀ p ∈ cs, LamX.TabB (hidT s1.heap H) mg p.1 p.2 := fun p hp => by
      refine ⟨?_, ?_, fun z => ?_⟩
      · obtain ⟨o, us, file, tf, flags, tg, inF, text, tt, e1, r1, r2, r3, r⟩ := hC p hp
        exact ⟨o, us, file, tf, flags, tg, inF, text, tt, hidT_get e1 (free e1 (fun _ _ z => by rw [r2] at z; cases z) fun z => by rw [r2] at z; cases z; simp at r3), r1, r2, r3, r⟩
      · obtain ⟨bm, ob, b1, b2, b3, b4, b5, b6⟩ := hbm
        refine ⟨bm, ob, b1, b2, fun q => ?_, fun q => ?_, hidT_get b3 (free b3 (fun _ _ z => by rw [b6] at z; cases z) fun z => by rw [b6] at z; cases z), b4, b5, b6⟩
        · obtain ⟨o, es, ep, e, hd, _⟩ := hns
          rw [q, e] at b3; cases b3; rw [hd] at b6; cases b6
        · rw [q, eT p hp] at b3; cases b3; cases b6
      · obtain ⟨o, es, ep, e, hd, _⟩ := hns
        rw [z, eT p hp] at e; cases e; cases hd
    have e0 : Env0 P w C.K mg (hidT s1.heap H) callerA [] s1 H := ⟨rfl, hM, fun b o e => of_hidT e, Nat.le_of_eq (hidT_size _ _), trivial, fun b hb => absurd (show b ∈ ([] : List Addr) from hb) (by simp), hok, .of_eq hg⟩
    refine codeAny_mono ((F _ kB (nsK hns) TB).run callerA [] s1 H ⟨[.ref a], []⟩ [.ref a] [.ref a] (fun v _ => v = .bl true) (fun _ _ _ => False) hr rfl e0 (hbind s1 (.ref a)) (.cons rfl .nil) ⟨a, ns, rfl, hl, fun p hp => by obtain ⟨q, hq, e⟩ := hcs p hp; rw [← e]; exact hH q hq, hD, fun _ => rfl⟩) fun r s' h => ?_
    cases r with
    | error e => exact (hCX H e s' h).elim
    | ok fl =>
      cases fl with
      | next => exact False.elim h
      | brk => exact False.elim h
      | cont => exact False.elim h
      | ret u =>
        obtain ⟨v, H', os, bare, un, hok', r', q⟩ := h
        have q' : v = .bl true := q
        subst q'
        obtain rfl : u = Value.bool true := r'
        have key : ∀ b o, b ∉ cs.map (·.2) → s1.heap.get? b = some o → s'.heap.get? b = some o := fun b o nb e => by
          cases q : H b with
          | none => exact un.keep b o e q (by intro z; exact absurd (show b ∈ ([] : List Addr) from z) (by simp)) (by simp)
          | some u =>
            rcases hA b u q with z | ⟨_, _, ob, xs, rfl⟩
            · exact absurd z nb
            · have z2 := un.frzs b ob _ q
              have e1 : s1.heap.get? b = some ob := (hok b _ q).1
              have e2 : s'.heap.get? b = some ob := (hok' b _ z2).1
              rw [e] at e1
              cases e1
              exact e2
        have grown : ∀ p ∈ cs, ∃ more : Array Value, s'.heap.get? p.2 = some { cls := .none, data := .fields more } := fun p hp => let ⟨_, z⟩ := un.tbls p.2 #[] (hH p hp); ⟨_, hok' p.2 _ z⟩
        refine ⟨rfl, ⟨fun b o e => ?_, fun b o e => ?_⟩, os, bare⟩
        · by_cases hb : b ∈ cs.map (·.2)
          · obtain ⟨p, hp, rfl⟩ := List.mem_map.mp hb
            obtain ⟨more, hm⟩ := grown p hp
            rw [eT p hp] at e
            cases e
            exact .inr (.inl ⟨((hC p hp).tab (eT p hp)).isCodeTable, rfl, #[], more, rfl, by rw [Array.empty_append]; exact hm⟩)
          · exact .inl (key b o hb e)
        · by_cases hb : b ∈ cs.map (·.2)
          · obtain ⟨p, hp, rfl⟩ := List.mem_map.mp hb
            obtain ⟨more, hm⟩ := grown p hp
            exact ⟨_, hm⟩
          · exact ⟨o, key b o hb e⟩
  cases hk : C.K.lookup a with
  | some o =>
    have e := KX a o hk
    rw [ha] at e
    cases e
    refine core (fun b => if b ∈ cs.map (·.2) then some (.tbl #[]) else none) (fun p hp => if_pos (inT p hp)) (.frzK (.inr ⟨_, vs.toArray, _, hk, rfl, rfl, rfl, by rw [List.size_toArray, hi.length]; exact hz, by simpa using rv⟩) dA) (fun b u z => ?_) fun b u z => ?_
    · try dsimp only at z
      by_cases hb : b ∈ cs.map (·.2)
      · rw [if_pos hb] at z; cases z; exact isT b hb
      · rw [if_neg hb] at z; cases z
    · try dsimp only at z
      by_cases hb : b ∈ cs.map (·.2)
      · exact .inl hb
      · rw [if_neg hb] at z; cases z
  | none =>
    refine core (fun b => if b = a then some (.frz { cls := .type "list", data := .seq vs.toArray } (.lst (ns.map V.int))) else if b ∈ cs.map (·.2) then some (.tbl #[]) else none) (fun p hp => (if_neg (show ¬ p.2 = a from fun z => aT (by rw [← z]; exact inT p hp))).trans (if_pos (inT p hp))) (.frz (.inr ⟨_, if_pos rfl⟩) (fun z => z) dA) (fun b u z => ?_) fun b u z => ?_
    · try dsimp only at z
      by_cases hb : b = a
      · rw [if_pos hb] at z
        cases z
        subst hb
        exact ⟨ha, by rw [List.length_map]; exact hz, vs, _, rv, ha⟩
      · rw [if_neg hb] at z
        by_cases hb2 : b ∈ cs.map (·.2)
        · rw [if_pos hb2] at z; cases z; exact isT b hb2
        · rw [if_neg hb2] at z; cases z
    · try dsimp only at z
      by_cases hb : b = a
      · rw [if_pos hb] at z
        cases z
        exact .inr ⟨hb, hk, _, _, rfl⟩
      · rw [if_neg hb] at z
        by_cases hb2 : b ∈ cs.map (·.2)
        · exact .inl hb2
        · rw [if_neg hb2] at z; cases z
/-- the goal behind the head -/
theorem walkG {l : PySem.W.OpenLaw} {k : Nat} {q : Program} {loose : List Str} {XP : (Str → Option Value) → Heap → Prop} {YP : World → Heap → Prop} {d : DefRec} {x : Str}
    (hn : l.most = some 63) (hdf : d.params.defaults = []) (hr : Room k callerA)
    (F : ∀ (w : World) (mg : Str → Option Value) (fa : Addr) (h : Heap), YP w h → h.Ns mainGlobals mg → mg d.name = some (.ref fa) →
      ∃ (C : Cb) (fd : FuncData) (cs : List (Addr × Addr)), C.K.In h ∧ (∀ p ∈ cs, h.get? p.2 = some { cls := .none, data := .fields #[] }) ∧ (∀ p ∈ cs, C.K.lookup p.2 = none) ∧ (∀ p ∈ cs, PySem.W.CodeHd h p.1 p.2) ∧ (∀ p ∈ C.tb, ∃ q ∈ cs, q.2 = p.1) ∧
        (∀ (s : Shared) (u : Value), BindsTo s fd ⟨[u], []⟩ [(x, u)]) ∧ ∀ base : Heap, C.K.In base → base.Ns mainGlobals mg → (∀ p ∈ cs, LamX.TabB base mg p.1 p.2) → FnG l.prog w C.K mg base (L2.CX l.prog w) k fa fd [x] (spL C)) :
    PySem.W.WalkO q loose XP YP l.row.toRowW d [] (fun f vs => PySem.call f vs) := by
  refine Att.attach_call hn hdf fun w s0 s1 mg mb fa o pm cd doc a vs ns G Y ho hd hcd hmg hobj hints hlen hg => ?_
  obtain ⟨C, fd, cs, KX, e1, e2, e3, e4, hb, hF⟩ := F w mg fa _ Y G.T.g hmg
  refine lawG KX G.T.g G.T.b G.T.builtins G.T.nolimit hg e1 e2 e3 e4 G.T.bmain hobj hints hlen hr hF hb fun H e s' h => ?_
  obtain ⟨_, _, _, _, _, _, _, _, _, _, _, _, z⟩ := h
  exact z.elim
end On

set_option Elab.async false
set_option linter.all false
set_option maxRecDepth 100000
set_option maxHeartbeats 2000000
set_option autoImplicit false
namespace On
open PySem PySem.Spec PyProof.Rows L2
/-! ### the head's facts -/
abbrev FnS : Type := Option (Str × Str × Arguments × FuncBody × Scope × Addr × List Str × Addr)
/-- the own __init__ of the class x -/
def fnS (K : PySem.W.Frag) (x : Str) : FnS := match K.lookup (He.ma K (He.ga K x) "__init__") with
  | some ⟨_, _, .func fd, _⟩ => some (fd.name, fd.qualname, fd.params, fd.body, fd.scope, fd.globals, fd.closure.map (·.1), fd.builtins)
  | _ => none
structure DefS where
  cls : Str
  qual : Str
  params : Arguments
  body : List Stmt
  scope : Scope
def DefS.val (d : DefS) : FnS := some ("__init__", d.qual, d.params, .stmts d.body, d.scope, mainGlobals, ["__class__"], builtinsNs)
abbrev AlG : Type := Bool × List He.FnW × List FnS
def obsG (B : PySem.W.Frag → Bool) (fn : List He.DefD) (sf : List DefS) (K : PySem.W.Frag) : AlG := (B K && fn.all fun d => d.ok K, fn.map fun d => He.fnW K d.at_, sf.map fun d => fnS K d.cls)
def valG (fn : List He.DefD) (sf : List DefS) : AlG := (true, fn.map He.DefD.val, sf.map DefS.val)
def SaysG (B : PySem.W.Frag → Bool) (fn : List He.DefD) (sf : List DefS) (K : PySem.W.Frag) : Prop := obsG B fn sf K = valG fn sf
def asG (g : Addr → Option Obj) (n : Nat) : List Addr := sysModules :: cStatics :: He.asD g n
def frK (g : Addr → Option Obj) (n : Nat) : PySem.W.Frag := He.frT g (asG g n)
def obsGG (n : Nat) (B : PySem.W.Frag → Bool) (fn : List He.DefD) (sf : List DefS) (tf : List He.Defn) (g : Addr → Option Obj) : AlG × Bool := (obsG B fn sf (frK g n), He.tabsB g tf (frK g n))
/-- the tables of the defs tf that make lambdas: empty, not in K -/
structure TabsG (tf : List He.Defn) (h : Heap) (K : PySem.W.Frag) : Prop where
  hd : ∀ p ∈ tf, PySem.W.codeHdIn K (He.cT K p).1 (He.cT K p).2 = true
  out : ∀ p ∈ tf, K.lookup (He.cT K p).2 = none
  empty : ∀ p ∈ tf, h.get? (He.cT K p).2 = some { cls := .none, data := .fields #[] }
theorem tabsG_of {tf : List He.Defn} {h : Heap} {n : Nat} (e : He.tabsB h.get? tf (frK h.get? n) = true) : TabsG tf h (frK h.get? n) := by
  have key : ∀ p ∈ tf, PySem.W.codeHdIn (frK h.get? n) (He.cT (frK h.get? n) p).1 (He.cT (frK h.get? n) p).2 = true ∧ ∃ o, h.get? (He.cT (frK h.get? n) p).2 = some o ∧ He.emptyTab o = true := fun p hp => by
    obtain ⟨h1, h2⟩ := He.ba (List.all_eq_true.mp e p hp)
    refine ⟨h1, ?_⟩
    cases q : h.get? (He.cT (frK h.get? n) p).2 with
    | none => rw [q] at h2; cases h2
    | some o => rw [q] at h2; exact ⟨o, rfl, h2⟩
  exact ⟨fun p hp => (key p hp).1, fun p hp => let ⟨_, o, q, z⟩ := key p hp; He.frT_none q z, fun p hp => let ⟨_, o, q, z⟩ := key p hp; by rw [q, He.emptyTab_eq z]⟩
def hookG (n : Nat) (B : PySem.W.Frag → Bool) (fn : List He.DefD) (sf : List DefS) (tf : List He.Defn) : PySem.W.Hook where
  α := AlG × Bool
  obs := fun s => obsGG n B fn sf tf s.heap.get?
  val := fun _ => (valG fn sf, true)
  says := fun _ h => ∃ K : PySem.W.Frag, K.In h ∧ SaysG B fn sf K ∧ TabsG tf h K
  of := fun _ _ e => ⟨_, He.frT_in, congrArg (fun z : AlG × Bool => z.1) e, tabsG_of (congrArg (fun z : AlG × Bool => z.2) e)⟩
  keeps := fun _ _ _ ⟨K, hK, c, t⟩ k => ⟨K, PySem.W.Frag.In.keeps hK k, c, ⟨t.hd, t.out, fun p hp => k _ _ (t.empty p hp)⟩⟩
theorem obsGG_eq {n : Nat} {B : PySem.W.Frag → Bool} {fn : List He.DefD} {sf : List DefS} {tf : List He.Defn} {g : Addr → Option Obj} {s : Shared} (h : ∀ a, g a = s.heap.get? a) : obsGG n B fn sf tf g = (hookG n B fn sf tf).obs s := by
  have e : g = s.heap.get? := funext h
  rw [e] <;> rfl
section
variable {B : PySem.W.Frag → Bool} {fn : List He.DefD} {sf : List DefS} {K : PySem.W.Frag}
theorem SaysG.facts (c : SaysG B fn sf K) : B K = true := (He.ba (show (B K && fn.all fun d => d.ok K) = true from congrArg (fun z : AlG => z.1) c)).1
theorem SaysG.def_ (c : SaysG B fn sf K) (i : Nat) {d : He.DefD} (h : fn[i]? = some d := by rfl) : ∃ fd, FunD K d.name d.qual d.params d.body d.scope (d.dvs K) (d.kws K) (He.fAd K d.at_) fd := by
  have c2 := (He.ba (show (B K && fn.all fun d => d.ok K) = true from congrArg (fun z : AlG => z.1) c)).2
  have e : fn.map (fun d => He.fnW K d.at_) = fn.map He.DefD.val := congrArg (fun z : AlG => z.2.1) c
  have e2 : (fn.map fun d => He.fnW K d.at_)[i]? = (fn.map He.DefD.val)[i]? := by rw [e]
  rw [List.getElem?_map, List.getElem?_map, h] at e2
  exact He.DefD.funD (Option.some.inj e2) (List.all_eq_true.mp c2 d (List.mem_of_getElem? h))
theorem SaysG.sup (c : SaysG B fn sf K) (i : Nat) {d : DefS} (h : sf[i]? = some d := by rfl) : fnS K d.cls = d.val := by
  have e : sf.map (fun d => fnS K d.cls) = sf.map DefS.val := congrArg (fun z : AlG => z.2.2) c
  have e2 : (sf.map fun d => fnS K d.cls)[i]? = (sf.map DefS.val)[i]? := by rw [e]
  rw [List.getElem?_map, List.getElem?_map, h] at e2
  exact Option.some.inj e2
end
/-! ### errors: Bools of the written part -/
section
variable {K : PySem.W.Frag} {C D f : Addr}
def oexClsB (K : PySem.W.Frag) (C : Addr) : Bool := match K.lookup C with
  | some ⟨.type "type", _, .cls cd, sl⟩ => (match cd.mro, sl.toList with
    | .ref C' :: bm, [_, _, _, _, some (.builtin n), _] => C' == C && n == "ValueError.__new__" && !cd.hasDel && cd.hasDict && PySem.HandSPX.refsVE bm
    | _, _ => false)
  | _ => false
theorem oexClsB_ok (q : oexClsB K C = true) : ∃ nm q N bs bm sn sub ab col dd k0 k1 k2 k3 k5, K.lookup C = some (excClassObj nm q C N bs bm true sn sub ab col dd k0 k1 k2 k3 k5 "ValueError.__new__") ∧ PySem.HandSPX.refsVE bm = true := by
  unfold oexClsB at q
  split at q
  · rename_i dd cd sl ho
    split at q
    · rename_i C' bm k0 k1 k2 k3 n k5 hm hs
      simp only [Bool.and_eq_true, beq_iff_eq, Bool.not_eq_true'] at q
      obtain ⟨⟨⟨⟨rfl, rfl⟩, hdel⟩, hdct⟩, ht⟩ := q
      obtain ⟨nm, bs, mro, ns, qn, hd, sn, sub, ab, col, del⟩ := cd
      dsimp only at hm hdel hdct
      subst hm hdel hdct
      have hsl : sl = #[k0, k1, k2, k3, some (.builtin "ValueError.__new__"), k5] := by
        obtain ⟨l⟩ := sl
        simp only at hs
        rw [hs]
      subst hsl
      exact ⟨nm, qn, ns, bs, bm, sn, sub, ab, col, dd, k0, k1, k2, k3, k5, ho, ht⟩
    · cases q
  · cases q
def feCB (K : PySem.W.Frag) (D C : Addr) : Bool := oexClsB K C && (He.eqO (PySem.W.findIn K (.ref C) "__setattr__") (some (some (.builtin "object.__setattr__"))) && (decide (PySem.W.subIn K (.ref C) (.type "BaseException") = some true) && (decide (PySem.W.typeIn K (.ref C) = some (.type "type")) && (PySem.W.keepIn K (.ref C) &&
  (decide (PySem.W.mroIn K C (.ref D) = some true) && (decide (PySem.W.subIn K (.ref C) (.type "ValueError") = some true) && (He.eqO (PySem.W.ks_superIn K C D "__init__") (some (some (.builtin "ValueError.__init__"))) && He.eqO (PySem.W.findIn K (.ref C) "value") (some none))))))))
theorem feCB_ok (q : feCB K D C = true) : FeC K D C := by
  obtain ⟨h1, q⟩ := He.ba q
  obtain ⟨h2, q⟩ := He.ba q
  obtain ⟨h3, q⟩ := He.ba q
  obtain ⟨h4, q⟩ := He.ba q
  obtain ⟨h5, q⟩ := He.ba q
  obtain ⟨h6, q⟩ := He.ba q
  obtain ⟨h7, q⟩ := He.ba q
  obtain ⟨h8, h9⟩ := He.ba q
  exact { cls := oexClsB_ok h1, sa := He.eqO_ok h2, exC := of_decide_eq_true h3, tyC := of_decide_eq_true h4, kC := h5, mro := of_decide_eq_true h6, sve := of_decide_eq_true h7, sup := He.eqO_ok h8, noval := He.eqO_ok h9 }
def feKB (K : PySem.W.Frag) (D f C : Addr) : Bool := feCB K D C && He.eqO (PySem.W.findIn K (.ref C) "__init__") (some (some (.ref f)))
theorem feKB_ok (q : feKB K D f C = true) : FeK K D f C := by
  obtain ⟨h1, h2⟩ := He.ba q
  exact { feCB_ok h1 with ini := He.eqO_ok h2 }
def excCB (K : PySem.W.Frag) (D : Addr) : Bool := He.eqO (PySem.W.findIn K (.ref D) "__getattribute__") (some (some (.builtin "BaseException.__getattribute__"))) && (He.eqO (PySem.W.findIn K (.ref D) "__getattr__") (some none) && (decide (PySem.W.subIn K (.ref D) (.type "BaseException") = some true) && (PySem.W.hasDictIn K D &&
  (He.eqO (PySem.W.findIn K (.ref D) "__class__") (some (some (.builtin "object.__class__"))) && (He.eqO (PySem.W.specialIn K (.builtin "object.__class__") "__get__") (some (some (.builtin "getset_descriptor.__get__"))) && (decide (PySem.W.takesIn K (.builtin "object.__class__") = some true) && decide (PySem.W.mroIn K D (.type "object") = some true)))))))
theorem excCB_ok (q : excCB K D = true) : ExcC K D := by
  obtain ⟨h1, q⟩ := He.ba q
  obtain ⟨h2, q⟩ := He.ba q
  obtain ⟨h3, q⟩ := He.ba q
  obtain ⟨h4, q⟩ := He.ba q
  obtain ⟨h5, q⟩ := He.ba q
  obtain ⟨h6, q⟩ := He.ba q
  obtain ⟨h7, h8⟩ := He.ba q
  exact ⟨He.eqO_ok h1, He.eqO_ok h2, of_decide_eq_true h3, h4, He.eqO_ok h5, He.eqO_ok h6, of_decide_eq_true h7, of_decide_eq_true h8⟩
/-- an own __init__ that says super(), of the class x -/
def supB (file : Str) (K : PySem.W.Frag) (x qual : Str) : Bool := PySem.W.isFn K (.ref (He.ma K (He.ga K x) "__init__")) && ((match K.lookup (He.ma K (He.ga K x) "__init__") with
  | some ⟨_, _, .func fd, _⟩ => (match fd.closure, fd.code, fd.defaults with
    | [(_, cc)], .ref cda, .none => PySem.W.codeIn K (.ref cda) qual && (match K.lookup cc with
      | some ⟨_, _, .cell (some (.ref D)), _⟩ => D == He.ga K x
      | _ => false) && (match K.lookup cda with
      | some ⟨_, _, .fields vs, _⟩ => (match (vs[2]? : Option Value) with
        | some (Value.str fl _) => fl == file
        | _ => false)
      | _ => false)
    | _, _, _ => false)
  | _ => false) && ((PySem.W.clsIn K (He.ga K x)).isSome && (He.eqO (PySem.W.nsIn K cStatics "thirdparty.any") (some none) && He.eqO (PySem.W.nsIn K mainGlobals "super") (some none))))
theorem supB_ok {P : Program} {mg : Str → Option Value} {h : Heap} {d : DefS} {file : Str} {ps : List Str} (X : K.In h) (G : h.Ns mainGlobals mg) (e : fnS K d.cls = d.val) (q : supB file K d.cls d.qual = true) (hfile : (P.main.file : Str) = file) (htop : (P.main.scope.names.lookup ("super" : Str)).isSome = false)
    (hb : ∀ (kV doc pm : Value) (an : Option Addr) (cdv ct : Value) (cc : Addr) (us : List Value), us.length = ps.length → bindArgs (PySem.W.ksFn "__init__" d.qual d.params d.body d.scope .none kV doc pm an cdv ct cc) ⟨us, []⟩ = pure (ps.zip us)) :
    PySem.W.typeIn K (.ref (He.ma K (He.ga K d.cls) "__init__")) = some (.type "function") ∧ ∃ cc cda, SupD P K mg (He.ga K d.cls) (He.ma K (He.ga K d.cls) "__init__") cc cda d.qual d.params d.body d.scope ps := by
  obtain ⟨h1, q⟩ := He.ba q
  obtain ⟨h2, q⟩ := He.ba q
  obtain ⟨h3, q⟩ := He.ba q
  obtain ⟨h4, h5⟩ := He.ba q
  refine ⟨by simpa [PySem.W.isFn] using h1, ?_⟩
  unfold fnS at e
  split at h2
  · rename_i oc od fd osl ho
    rw [ho] at e
    split at h2
    · rename_i nm cc cda hcl hcd hdf
      simp only [Bool.and_eq_true] at h2
      obtain ⟨⟨q1, q2⟩, q3⟩ := h2
      split at q2
      · rename_i c1 c2 Dd c3 hcell
        have hD : Dd = He.ga K d.cls := beq_iff_eq.mp q2
        split at q3
        · rename_i e1 e2 vs e3 hco
          split at q3
          · rename_i fl tf hvs
            have hfl : fl = file := beq_iff_eq.mp q3
            obtain ⟨n1, n2, n3, n4, n5, n6, n7, n8, n9, n10, n11, n12, n13, n14, n15⟩ := fd
            dsimp only at hcl hcd hdf
            subst hcl hcd hdf
            have e2 : (some (n1, n2, n3, n4, n5, n6, [nm], n15) : FnS) = some (("__init__" : Str), d.qual, d.params, FuncBody.stmts d.body, d.scope, mainGlobals, [("__class__" : Str)], builtinsNs) := e
            simp only [Option.some.injEq, Prod.mk.injEq, List.cons.injEq, and_true] at e2
            obtain ⟨z1, z2, z3, z4, z5, z6, z7, z8⟩ := e2
            subst z1 z2 z3 z4 z5 z6 z7 z8 hD hfl
            obtain ⟨cd, hcls⟩ := Option.isSome_iff_exists.mp h3
            exact ⟨cc, cda, ⟨oc, od, osl, .none, _, _, _, _, _, ho, Binds.all fun us hl => hb _ _ _ _ _ _ _ us hl⟩, q1, ⟨_, _, _, _, _, _, hco, hvs, by rw [hfile]; exact beq_self_eq_true _⟩, ⟨_, _, _, hcell⟩, ⟨cd, hcls⟩, He.eqO_ok h4, htop, PySem.W.mg_none_of X G (He.eqO_ok h5)⟩
          · cases q3
        · cases q3
      · cases q2
    · cases h2
  · cases h2
end
end On

set_option Elab.async false
set_option linter.all false
set_option maxRecDepth 100000
set_option maxHeartbeats 2000000
set_option autoImplicit false
namespace On
open PySem PySem.Spec PyProof.Rows L2
/-! ### defs by their names -/
structure Gd (P : Program) (w : World) (C : Cb) (mg : Str → Option Value) (base : Heap) (k : Nat) (x : Str) (sp : Sp) : Prop where
  ex : ∃ (f : Addr) (fd : FuncData) (ps : List Str), FnG P w C.K mg base (L2.CX P w) k f fd ps sp ∧ mg x = some (.ref f) ∧ PySem.W.keepIn C.K (.ref f) = true ∧ Binds C.K fd ps []
/-- an own class with its __init__ -/
structure Gi (P : Program) (w : World) (C : Cb) (mg : Str → Option Value) (base : Heap) (k : Nat) (x : Str) (c : Nat) (sp : Sp) : Prop where
  ex : ∃ (f : Addr) (fd : FuncData) (ps : List Str), FnG P w C.K mg base (L2.CX P w) k f fd ps sp ∧ mg x = some (.ref (C.cm c)) ∧ Mk C.K (C.cm c) f ∧ Binds C.K fd ps []
/-- a method -/
structure Gm1 (P : Program) (w : World) (C : Cb) (mg : Str → Option Value) (base : Heap) (k : Nat) (c : Nat) (m : Str) (sp : Sp) : Prop where
  ex : ∃ (f : Addr) (fd : FuncData) (ps : List Str), FnG P w C.K mg base (L2.CX P w) k f fd ps sp ∧ Cls C.K (C.cm c) ∧ Meth C.K (C.cm c) m f ∧ Binds C.K fd ps []
section
variable {C : Ct} {E : WX} {X : Cx} {e o : Expr} {es : List Expr} {k k2 c : Nat} {x x2 m : Str} {p pos py pos2 p2 apos : Pos} {ma mr : Gm → J → R (List D)} {mo : Gm → J → R D} {g : List D → J → R D} {gi : List D → J → R (List (Str × D))}
theorem me_gcall (tk : Takes X E) (G : Gd X.prog X.w C.b X.mg X.base k x (spG C.b g)) (hK : X.K = C.b.K) (hr : Room k X.A) (hgd : X.A.guards = some []) (hg : Gl X x) (ha : MA C E X (e :: es) ma) (hdb : (x == ("__debug__" : Str)) = false := by decide)
    (he : starEach (e :: es) X.env = (false, eval e X.env) :: starEach es X.env := by rfl) (hpl : (backTo pos (starEach es X.env)).any (·.1) = false := by rfl) : ME C E X (.Call (.Name x p) (e :: es) [] pos) (mF g ma) := by
  obtain ⟨f, fd, ps, F, hm, hk, hb⟩ := G.ex
  rw [← hK] at F hk hb
  exact me_call tk F hr hgd hg hm hk hb ha hdb he hpl
theorem me_gcall0 (tk : Takes X E) (G : Gd X.prog X.w C.b X.mg X.base k x (spG C.b g)) (hK : X.K = C.b.K) (hr : Room k X.A) (hgd : X.A.guards = some []) (hg : Gl X x) (hdb : (x == ("__debug__" : Str)) = false := by decide) : ME C E X (.Call (.Name x p) [] [] pos) (mF g mNil) := by
  obtain ⟨f, fd, ps, F, hm, hk, hb⟩ := G.ex
  rw [← hK] at F hk hb
  exact me_call0 tk F hr hgd hg hm hk hb hdb
theorem me_gmake (tk : Takes X E) (G : Gi X.prog X.w C.b X.mg X.base k x c (spI C.b c gi)) (hK : X.K = C.b.K) (hr : Room (k + 1) X.A) (hgd : X.A.guards = some []) (hg : Gl X x) (ha : MA C E X (e :: es) ma) (hdb : (x == ("__debug__" : Str)) = false := by decide)
    (he : starEach (e :: es) X.env = (false, eval e X.env) :: starEach es X.env := by rfl) (hpl : (backTo pos (starEach es X.env)).any (·.1) = false := by rfl) : ME C E X (.Call (.Name x p) (e :: es) [] pos) (mMake c gi ma) := by
  obtain ⟨f, fd, ps, F, hm, hk, hb⟩ := G.ex
  rw [← hK] at F hk hb
  exact me_make tk hk F hr hgd hg hm hb ha hdb he hpl
theorem me_gmeth {pl : Sem Bool} (tk : Takes X E) (G : Gm1 X.prog X.w C.b X.mg X.base k c m (spG C.b g)) (hK : X.K = C.b.K) (hr : Room k X.A) (hgd : X.A.guards = some []) (ho : ME C E X o mo) (ha : MA C E X (e :: es) mr)
    (hst : starEach (e :: es) X.env = (false, eval e X.env) :: starEach es X.env := by rfl) (hpl : (backTo pos (starEach es X.env)).any (·.1) = false := by rfl)
    (ht : eval (.Call (.Attribute o m apos) (e :: es) [] pos) X.env = (do
      let ov ← eval o X.env
      standAt apos.atName
      let (f, first) ← holding [ov] (getMethod ov m pl)
      callWith pos f first (backTo pos (starEach (e :: es) X.env)) (backToKw pos (keywordEach [] X.env))) := by rfl) :
    ME C E X (.Call (.Attribute o m apos) (e :: es) [] pos) (mMeth c m g mo mr) := by
  obtain ⟨f, fd, ps, F, hc, hm, hb⟩ := G.ex
  rw [← hK] at F hc hm hb
  exact me_meth (pl := pl) tk hc hm F hr hgd hb ho ha hst hpl ht
end
/-- a def that was not walked yet: it promises nothing -/
theorem FnG.none {P : Program} {w : World} {K : PySem.W.Frag} {mg : Str → Option Value} {base : Heap} {CX : CXT} {k : Nat} {f : Addr} {fd : FuncData} {ps : List Str} {sp : Sp} (h : ∀ vs H Q E, ¬ sp vs H Q E) : FnG P w K mg base CX k f fd ps sp :=
  ⟨fun vs H Q E q => (h vs H Q E q).elim, fun A outer s H args us vs Q E _ _ _ _ _ q => (h vs H Q E q).elim⟩
theorem spG_bad {C : Cb} (vs : List V) (H : Hp) (Q : VK) (E : XK) : ¬ spG C (fun _ _ => .bad) vs H Q E := fun ⟨_, _, _, _, _, _, q⟩ => q
def fNeg : D → Option D
  | .int i => some (.int (-i))
  | _ => none
theorem ud_neg {C : Cb} : UnD C (rU fun i => .int (-i)) fNeg := fun ρ B H x d z Q ht hx hz k => by
  cases d with
  | int i => cases hx.den trivial; cases hz; exact ⟨i, rfl, k _ H Ext.refl (.int _)⟩
  | _ => cases hz
/-- the law's own def -/
theorem law_of {P : Program} {w : World} {C : Cb} {mg : Str → Option Value} {base : Heap} {k : Nat} {f : Addr} {fd : FuncData} {ps : List Str} {g : List D → J → R D} (h : ∀ ns : List Int, ns.length ≤ 63 → ∃ j, g [.frz (ns.map .int)] [] = .ok (.bl true) j)
    (F : FnG P w C.K mg base (L2.CX P w) k f fd ps (spG C g)) : FnG P w C.K mg base (L2.CX P w) k f fd ps (spL C) :=
  F.imp fun vs H Q E ⟨a, ns, e, hl, hT, hD, q⟩ => by
    subst e
    obtain ⟨j, hj⟩ := h ns hl
    have nb : ∀ b, Bo (fun _ => False) [] [] b → (fun _ => False) b ∨ H b = none := fun b z => by
      rcases z with z | ⟨n, d, z, _⟩
      · exact z.elim
      · cases z
    refine ⟨fun _ => False, [], [], [.frz (ns.map .int)], ⟨fun _ z => z.elim, fun p hp => LamX.TabS.nil (hT p hp), fun _ z => (List.not_mem_nil z).elim, rfl, List.nodup_nil, fun n d z => by cases z⟩, .cons (hD.less nb) .nil, ?_⟩
    rw [hj]
    intro v ρ' H' _ _ hd
    cases hd
    exact q H'
/-! ### tables of isinstance over error classes -/
def isxB (K : PySem.W.Frag) (cm : Nat → Addr) (u : Value) : Nat → List Bool → Bool
  | _, [] => true
  | n, b :: r => decide (PySem.W.kitOne K (.ref (cm n)) u = some b) && isxB K cm u (n + 1) r
theorem isxB_ok {K : PySem.W.Frag} {cm : Nat → Addr} {u : Value} : ∀ {l : List Bool} {n i : Nat} {b : Bool}, isxB K cm u n l = true → l[i]? = some b → PySem.W.kitOne K (.ref (cm (n + i))) u = some b
  | [], _, _, _, _, e => by cases e
  | c :: r, n, 0, b, h, e => by cases e; exact of_decide_eq_true (He.ba h).1
  | c :: r, n, i + 1, b, h, e => by
    have := isxB_ok (l := r) (n := n + 1) (i := i) (He.ba h).2 e
    rw [Nat.add_right_comm] at this
    exact this
def allB (p : Nat → Bool) : Nat → Bool
  | 0 => true
  | n + 1 => p n && allB p n
theorem allB_ok {p : Nat → Bool} : ∀ {n i : Nat}, allB p n = true → i < n → p i = true
  | n + 1, i, h, hi => by
    obtain ⟨h1, h2⟩ := He.ba h
    by_cases e : i = n
    · rw [e]; exact h1
    · exact allB_ok h2 (by omega)
def inCls (s : Stmt) (j : Nat) : Stmt := match s with
  | .ClassDef _ _ _ b _ _ _ _ _ _ _ => b.getD j (.Pass ⟨0, 0, 0, 0⟩)
  | _ => s
end On

set_option Elab.async false
set_option linter.all false
set_option maxRecDepth 100000
set_option maxHeartbeats 2000000
set_option autoImplicit false
namespace On
open PySem PySem.Spec PyProof.Rows L2
/-! ### what the head tells of the written part -/
def okB (bs : List Bool) : Bool := bs.all id
theorem okB_at {bs : List Bool} (h : okB bs = true) (i : Nat) {b : Bool} (e : bs[i]? = some b) : b = true := List.all_eq_true.mp h b (List.mem_of_getElem? e)
abbrev BkOf (fa : List He.Fa) (ex : PySem.W.Frag → List Bool) (K : PySem.W.Frag) : Bool := (fa.all fun f => f.ok K) && okB (ex K)
structure TT (fa : List He.Fa) (ex : PySem.W.Frag → List Bool) (fn : List He.DefD) (sf : List DefS) (tf : List He.Defn) (mg : Str → Option Value) (K : PySem.W.Frag) (base : Heap) : Prop where
  at_ : ∃ h : Heap, K.In h ∧ h.Ns mainGlobals mg
  c : SaysG (BkOf fa ex) fn sf K
  tb : ∀ p ∈ tf, LamX.TabB base mg (He.cT K p).1 (He.cT K p).2
section
variable {fa : List He.Fa} {ex : PySem.W.Frag → List Bool} {fn : List He.DefD} {sf : List DefS} {tf : List He.Defn} {mg : Str → Option Value} {K : PySem.W.Frag} {base : Heap}
theorem TT.fac (T : TT fa ex fn sf tf mg K base) (i : Nat) {f : He.Fa} (h : fa[i]? = some f := by rfl) : f.ok K = true := List.all_eq_true.mp (He.ba T.c.facts).1 f (List.mem_of_getElem? h)
theorem TT.exs (T : TT fa ex fn sf tf mg K base) (i : Nat) {b : Bool} (h : (ex K)[i]? = some b := by rfl) : b = true := okB_at (He.ba T.c.facts).2 i h
theorem TT.glo (T : TT fa ex fn sf tf mg K base) (i : Nat) {x : Str} (h : fa[i]? = some (.glo x) := by rfl) : mg x = some (.ref (He.ga K x)) := let ⟨_, X, G⟩ := T.at_; He.glo_ok X G (T.fac i h)
theorem TT.free (T : TT fa ex fn sf tf mg K base) (i : Nat) {x : Str} (h : fa[i]? = some (.free x) := by rfl) : mg x = none := let ⟨_, X, G⟩ := T.at_; He.free_ok X G (T.fac i h)
theorem TT.int (T : TT fa ex fn sf tf mg K base) (i : Nat) {x : Str} {n : Int} (h : fa[i]? = some (.int x n) := by rfl) : ∃ t, mg x = some (.int n t) := let ⟨_, X, G⟩ := T.at_; He.int_ok X G (T.fac i h)
theorem TT.str (T : TT fa ex fn sf tf mg K base) (i : Nat) {x n : Str} (h : fa[i]? = some (.str x n) := by rfl) : ∃ t, mg x = some (.str n t) := let ⟨_, X, G⟩ := T.at_; He.str_ok X G (T.fac i h)
theorem TT.meth (T : TT fa ex fn sf tf mg K base) (i : Nat) {x m : Str} (h : fa[i]? = some (.meth x m) := by rfl) : Meth K (He.ga K x) m (He.ma K (He.ga K x) m) := He.meth_ok (T.fac i h)
theorem TT.mkr (T : TT fa ex fn sf tf mg K base) (i : Nat) {x : Str} (h : fa[i]? = some (.mkr x) := by rfl) : Mk K (He.ga K x) (He.ma K (He.ga K x) "__init__") := He.mkr_ok (T.fac i h)
theorem TT.def_ (T : TT fa ex fn sf tf mg K base) (i : Nat) {d : He.DefD} (h : fn[i]? = some d := by rfl) : ∃ fd, FunD K d.name d.qual d.params d.body d.scope (d.dvs K) (d.kws K) (He.fAd K d.at_) fd := T.c.def_ i h
end
/-- a def's code object -/
theorem code_of {K : PySem.W.Frag} {p : He.Defn} {x qual : Str} {params : Arguments} {body : List Stmt} {scope : Scope} {dvs : List V} {kws : List (Str × V)} {fd : FuncData} {cdv : Value} (F : FunD K x qual params body scope dvs kws (He.fAd K p) fd) (h : fd.code = cdv) : cdv = .ref (He.cT K p).1 := by
  obtain ⟨oc, od, dV, kV, doc, pm, an, cd, ct, osl, rfl, lk, hcd, _, _⟩ := F.ex
  obtain ⟨c, rfl⟩ := He.codeIn_ref hcd
  subst h
  exact congrArg Value.ref (He.codeOf_eq lk rfl).symm
/-! own classes -/
section
variable {K : PySem.W.Frag} {cm : Nat → Addr}
def iscB (K : PySem.W.Frag) (A : Addr) : Bool := (PySem.W.plainGet K A Str.empty && (PySem.W.hasDictIn K A && (PySem.W.plainOver K A && He.eqO (PySem.W.findIn K (.ref A) "__setattr__") (some (some (.builtin "object.__setattr__")))))) && (He.eqO (PySem.W.findIn K (.ref A) "__class__") (some (some (.builtin "object.__class__"))) &&
  (He.eqO (PySem.W.specialIn K (.builtin "object.__class__") "__get__") (some (some (.builtin "getset_descriptor.__get__"))) && (decide (PySem.W.takesIn K (.builtin "object.__class__") = some true) && decide (PySem.W.mroIn K A (.type "object") = some true))))
theorem iscB_ok {A : Addr} (q : iscB K A = true) : IsC K A := by
  obtain ⟨q0, q⟩ := He.ba q
  obtain ⟨c1, c⟩ := He.ba q0
  obtain ⟨c2, c⟩ := He.ba c
  obtain ⟨c3, c4⟩ := He.ba c
  obtain ⟨h2, q⟩ := He.ba q
  obtain ⟨h3, q⟩ := He.ba q
  obtain ⟨h4, h5⟩ := He.ba q
  exact ⟨⟨c1, c2, c3, He.eqO_ok c4⟩, He.eqO_ok h2, He.eqO_ok h3, of_decide_eq_true h4, of_decide_eq_true h5⟩
/-- classes n0 .. n0 + n - 1 -/
def rngB (p : Nat → Bool) (n0 n : Nat) : Bool := allB (fun i => p (n0 + i)) n
theorem rngB_ok {p : Nat → Bool} {n0 n c : Nat} (h : rngB p n0 n = true) (h1 : n0 ≤ c) (h2 : c < n0 + n) : p c = true := by
  have := allB_ok (i := c - n0) h (by omega)
  rwa [show n0 + (c - n0) = c from by omega] at this
def tyLk (l : List (String × Bool)) : String → Option Bool := fun t => l.lookup t
def owLk (n0 : Nat) (l : List Bool) : Nat → Option Bool := fun n => if n0 ≤ n then l[n - n0]? else none
def isiB (K : PySem.W.Frag) (u : Value) (l : List (String × Bool)) : Bool := l.all fun p => decide (PySem.W.kitOne K (.type p.1) u = some p.2)
theorem isiB_ok {u : Value} {l : List (String × Bool)} (h : isiB K u l = true) (t : String) (b : Bool) (e : tyLk l t = some b) : PySem.W.kitOne K (.type t) u = some b := by
  have m : (t, b) ∈ l := by
    unfold tyLk at e
    clear h
    induction l with
    | nil => cases e
    | cons p r ih =>
      rw [List.lookup_cons] at e
      cases q : (t == p.1) with
      | true => rw [q] at e; cases e; rw [beq_iff_eq.mp q]; exact List.mem_cons_self
      | false => rw [q] at e; exact List.mem_cons_of_mem _ (ih e)
  exact of_decide_eq_true (List.all_eq_true.mp h _ m)
theorem owLk_lt {n0 : Nat} {l : List Bool} {n : Nat} {b : Bool} (e : owLk n0 l n = some b) : n0 ≤ n ∧ n < n0 + l.length ∧ l[n - n0]? = some b := by
  unfold owLk at e
  split at e
  · rename_i h
    have := (List.getElem?_eq_some_iff.mp e).1
    exact ⟨h, by omega, e⟩
  · cases e
theorem ow_ok {u : Value} {n0 : Nat} {l : List Bool} (hi : rngB (fun n => iscB K (cm n)) n0 l.length = true) (h : isxB K cm u n0 l = true) (n : Nat) (b : Bool) (e : owLk n0 l n = some b) : IsC K (cm n) ∧ PySem.W.kitOne K (.ref (cm n)) u = some b := by
  obtain ⟨h1, h2, h3⟩ := owLk_lt e
  refine ⟨iscB_ok (rngB_ok (p := fun n => iscB K (cm n)) hi h1 h2), ?_⟩
  have := isxB_ok h h3
  rwa [show n0 + (n - n0) = n from by omega] at this
theorem ox_ok {u : Value} {n0 : Nat} {l : List Bool} (hi : rngB (fun n => excCB K (cm n)) n0 l.length = true) (h : isxB K cm u n0 l = true) (n : Nat) (b : Bool) (e : owLk n0 l n = some b) : ExcC K (cm n) ∧ PySem.W.kitOne K (.ref (cm n)) u = some b := by
  obtain ⟨h1, h2, h3⟩ := owLk_lt e
  refine ⟨excCB_ok (rngB_ok (p := fun n => excCB K (cm n)) hi h1 h2), ?_⟩
  have := isxB_ok h h3
  rwa [show n0 + (n - n0) = n from by omega] at this
theorem ow_none (n : Nat) (b : Bool) (e : (fun _ => none : Nat → Option Bool) n = some b) : IsC K (cm n) ∧ PySem.W.kitOne K (.ref (cm n)) Value.none = some b := by cases e
def inB (n0 n : Nat) (l : List Nat) : Bool := l.all fun c => decide (n0 ≤ c ∧ c < n0 + n)
/-- e.f: no class of these has it -/
def noB (K : PySem.W.Frag) (cm : Nat → Addr) (f : Str) (l : List Nat) : Bool := l.all fun c => He.eqO (PySem.W.findIn K (.ref (cm c)) f) (some none)
theorem contains_mem {l : List Nat} {c : Nat} (h : l.contains c = true) : c ∈ l := List.contains_iff_mem.mp h
theorem fld_ok {f : Str} {n0 n : Nat} {l : List Nat} (hi : rngB (fun n => iscB K (cm n)) n0 n = true) (hn : inB n0 n l = true) (h : noB K cm f l = true) (c : Nat) (m : l.contains c = true) : Cls K (cm c) ∧ NoAttr K (cm c) f := by
  have q := of_decide_eq_true (List.all_eq_true.mp hn c (contains_mem m))
  exact ⟨(iscB_ok (rngB_ok (p := fun n => iscB K (cm n)) hi q.1 q.2)).cl, He.eqO_ok (List.all_eq_true.mp h c (contains_mem m))⟩
theorem xfld_ok {f : Str} {n0 n : Nat} {l : List Nat} (hi : rngB (fun n => excCB K (cm n)) n0 n = true) (hn : inB n0 n l = true) (h : noB K cm f l = true) (c : Nat) (m : l.contains c = true) : ExcC K (cm c) ∧ PySem.W.findIn K (.ref (cm c)) f = some none := by
  have q := of_decide_eq_true (List.all_eq_true.mp hn c (contains_mem m))
  exact ⟨excCB_ok (rngB_ok (p := fun n => excCB K (cm n)) hi q.1 q.2), He.eqO_ok (List.all_eq_true.mp h c (contains_mem m))⟩
theorem nil_ok {α : Nat → Prop} (c : Nat) (m : ([] : List Nat).contains c = true) : α c := by cases m
end
end On

set_option Elab.async false
set_option linter.all false
set_option maxRecDepth 100000
set_option maxHeartbeats 2000000
set_option autoImplicit false
namespace On
open PySem PySem.Spec PyProof.Rows L2 LamX
/-! ### lambdas with parameters -/
structure LamP (sc scope : Scope) (ps : List Str) : Prop where
  kind : scope.kind = .function
  co : scope.isCoroutine = false
  gen : scope.isGenerator = false
  nc : ∀ y ∈ scope.names, y.2 ≠ .cell
  loc : ∀ y ∈ scope.names, y.2 = .local → y.1 ∈ ps
  par : ∀ y ∈ ps, scope.names.lookup y = some .local
  nd : ps.Nodup
  free : ∀ y ∈ scope.names, y.2 = .free → sc.names.lookup y.1 = some .cell ∨ sc.names.lookup y.1 = some .free
def lamPB (sc scope : Scope) (ps : List Str) : Bool :=
  decide (scope.kind = .function) && (!scope.isCoroutine && (!scope.isGenerator && ((scope.names.all fun y => !decide (y.2 = .cell) && (!decide (y.2 = .local) || ps.contains y.1) && (!decide (y.2 = .free) || decide (sc.names.lookup y.1 = some .cell) || decide (sc.names.lookup y.1 = some .free))) &&
    ((ps.all fun y => decide (scope.names.lookup y = some .local)) && decide ps.Nodup))))
theorem lamP_by {sc scope : Scope} {ps : List Str} (h : lamPB sc scope ps = true) : LamP sc scope ps := by
  unfold lamPB at h
  simp only [Bool.and_eq_true, Bool.or_eq_true, Bool.not_eq_true', decide_eq_true_eq, decide_eq_false_iff_not, List.all_eq_true] at h
  obtain ⟨h1, h2, h3, h4, h5, h6⟩ := h
  refine ⟨h1, h2, h3, fun y hy => (h4 y hy).1.1, fun y hy e => ?_, h5, h6, fun y hy e => ?_⟩
  · rcases (h4 y hy).1.2 with z | z
    · exact absurd e z
    · simpa using z
  · rcases (h4 y hy).2 with (z | z) | z
    · exact absurd e z
    · exact .inl z
    · exact .inr z
theorem LamP.has {X : Cx} {scope : Scope} {ps : List Str} (L : LamP X.env.scope scope ps) (ok : X.Ok) : ∀ y ∈ scope.names, y.2 = .free → ∃ c, X.env.cells.lookup y.1 = some c := fun y hy e => by
  rcases L.free y hy e with k | k
  · exact ok.has _ (.inl k)
  · exact ok.has _ (.inr k)
/-- the slots of the maker, without those whose names the lambda has itself -/
def hideP {α : Type} (ps : List Str) : List Str → List (Option α) → List (Option α)
  | x :: N, o :: σ => (if ps.contains x then none else o) :: hideP ps N σ
  | _, σ => σ
theorem hideP_length {α : Type} (ps : List Str) : ∀ (N : List Str) (σ : List (Option α)), (hideP ps N σ).length = σ.length
  | [], _ => by unfold hideP; rfl
  | _ :: _, [] => rfl
  | x :: N, o :: σ => congrArg Nat.succ (hideP_length ps N σ)
theorem hideP_get {α : Type} {ps : List Str} : ∀ {N : List Str} {σ : List (Option α)} {i : Nat} {x : Str} {v : α}, N[i]? = some x → (hideP ps N σ)[i]? = some (some v) → x ∉ ps ∧ σ[i]? = some (some v)
  | [], _, _, _, _, h, _ => by cases h
  | y :: N, [], i, x, v, _, h => by unfold hideP at h; cases h
  | y :: N, o :: σ, 0, x, v, h, h2 => by
    cases h
    unfold hideP at h2
    by_cases c : ps.contains y = true
    · rw [if_pos c] at h2; cases h2
    · rw [if_neg c] at h2
      exact ⟨fun z => c (by simpa using z), h2⟩
  | y :: N, o :: σ, i + 1, x, v, h, h2 => hideP_get (N := N) (σ := σ) (i := i) h h2
/-- the context of the lambda's body -/
def lamCxP (X : Cx) (A : Around) (outer : List Env) (s : Shared) (H : Hp) (E : XK) (scope : Scope) (f c' : Addr) (ps : List Str) : Cx :=
  { lamCx X A outer s H E scope f c' with N := ps ++ X.N }
theorem zip_rev_lookup : ∀ {ps : List Str} {us : List Value} {i : Nat} {x : Str} {u : Value}, ps.Nodup → ps[i]? = some x → us[i]? = some u → (ps.zip us).reverse.lookup x = some u := by
  intro ps us i x u nd h1 h2
  have hm : (x, u) ∈ (ps.zip us).reverse := by
    rw [List.mem_reverse]
    exact List.mem_iff_getElem?.mpr ⟨i, by rw [List.getElem?_zip_eq_some]; exact ⟨h1, h2⟩⟩
  have uq : ∀ v, (x, v) ∈ (ps.zip us).reverse → v = u := fun v hv => by
    rw [List.mem_reverse] at hv
    obtain ⟨k, hk⟩ := List.mem_iff_getElem?.mp hv
    rw [List.getElem?_zip_eq_some] at hk
    have ki : i = k := (List.getElem?_inj (List.getElem?_eq_some_iff.mp h1).1 nd).mp (by rw [h1, hk.1])
    subst ki
    rw [h2] at hk
    exact (Option.some.inj hk.2).symm
  obtain ⟨v, hv⟩ := mem_lookup hm
  rw [hv, uq v (PySem.mem_of_lookup hv)]
section
variable {X : Cx} {pins : List (Addr × Obj)} {σ : L2.St} {H HZ : Hp} {s s1 : Shared} {ps : List Str}
theorem lam_startP {A : Around} {outer : List Env} {E : XK} {scope : Scope} {f c' : Addr} {h₁ : Heap} {tk : Nat} {vs : List V} {us : List Value} (I : Inv X pins σ H s) (L : LamP X.env.scope scope ps) (e0 : Env0 X.prog X.w X.K X.mg X.base A outer s1 HZ) (hd : A.handled = none) (hl : vs.length = ps.length) (rv : Vals vs us)
    (un : Un (frs X.stack) [] H HZ s.heap s1.heap) (hns : h₁.Ns s1.heap.objs.size fun y => (ps.zip us).reverse.lookup y) (kp : ∀ b o, s1.heap.get? b = some o → h₁.get? b = some o) :
    Inv (lamCxP X A outer s1 HZ E scope f c' ps) [] (vs.map some ++ hideP ps X.N σ) HZ { s1 with heap := h₁, toks := tk } := by
  have hfree := L.has I.ok
  have cm : ∀ {y c}, (cloFrom X.env.cells scope.names []).lookup y = some c → X.env.cells.lookup y = some c := fun {y c} e => by
    rcases cloFrom_mem (PySem.mem_of_lookup e) with hm | ⟨h1, h2⟩
    · cases hm
    · obtain ⟨c1, hc⟩ := hfree _ h1 rfl
      have hc : X.env.cells.lookup y = some c1 := hc
      have e2 : c = c1 := by
        rw [h2, hc] <;> rfl
      rw [e2]
      exact hc
  have look : ∀ {y}, scope.names.lookup y = some .free → ∃ c, (cloFrom X.env.cells scope.names []).lookup y = some c := fun {y} hl => by
    have hy : (y, NameKind.free) ∈ scope.names := PySem.mem_of_lookup hl
    exact mem_lookup (cloFrom_has (cells := X.env.cells) (acc := []) hy)
  have cellK : ∀ {c : Addr} {v : Option Value}, H c = none → s.heap.IsCell c v → h₁.IsCell c v := fun {c v} n ⟨o, ho, hd⟩ => by
    obtain ⟨sl, q⟩ := un.any ho n (by simp)
    exact ⟨_, kp _ _ q, hd⟩
  have noA : ∀ b : Addr, b ∉ (lamCxP X A outer s1 HZ E scope f c' ps).ex := fun b z => absurd (show b ∈ ([] : List Addr) from z) (by simp)
  refine ⟨⟨e0.mod, L.kind, rfl, rfl, Nat.le_refl _, fun y z c e1 e2 => I.ok.inj y z c (cm e1) (cm e2), fun y hy => ?_, fun y c z _ => ?_, fun _ => hd, Around.frames_deeper e0.frames, .inr ⟨rfl, rfl⟩, fun b z => absurd z (noA b), e0.bs, e0.bsz, fun b _ _ => noA b,
      fun b z => absurd z (noA b), e0.funs, e0.frf⟩,
    rfl, e0.bare, Un.kept kp, ⟨_, hns, fun i y v e1 e2 e3 => ?_⟩, fun y c e => ?_, e0.hok.fresh (Nat.le_refl _), fun y c e => ?_, fun q hq => absurd (show q ∈ ([] : List (Addr × Obj)) ++ [] from hq) (by simp), e0.hok.kept kp, ?_⟩
  · have hy : scope.names.lookup y = some .cell ∨ scope.names.lookup y = some .free := hy
    rcases hy with hy | hy
    · exact absurd rfl (L.nc _ (PySem.mem_of_lookup hy))
    · exact look hy
  · have z : false = true := z
    cases z
  · have e1 : (ps ++ X.N)[i]? = some y := e1
    have e3 : Vis scope y := e3
    by_cases hi : i < ps.length
    · rw [List.getElem?_append_left hi] at e1
      rw [List.getElem?_append_left (by simpa [hl] using hi), List.getElem?_map] at e2
      cases ev : vs[i]? with
      | none => rw [ev] at e2; cases e2
      | some v' =>
        rw [ev] at e2
        cases e2
        obtain ⟨u, hu, ru⟩ := rv.get ev
        have yp : y ∈ ps := List.mem_of_getElem? e1
        exact ⟨u, ru, .inl ⟨L.par y yp, zip_rev_lookup L.nd e1 hu⟩⟩
    · rw [List.getElem?_append_right (Nat.le_of_not_lt hi)] at e1
      rw [List.getElem?_append_right (by simpa [hl] using Nat.le_of_not_lt hi)] at e2
      simp only [List.length_map, hl] at e2
      obtain ⟨np, e2⟩ := hideP_get e1 e2
      rcases e3 with k | k | k
      · exact absurd (L.loc _ (PySem.mem_of_lookup k) rfl) np
      · exact absurd rfl (L.nc _ (PySem.mem_of_lookup k))
      · obtain ⟨m, hn, hll⟩ := I.loc
        have hvis : Vis X.env.scope y := (L.free _ (PySem.mem_of_lookup k) rfl).elim (fun k => .inr (.inl k)) (fun k => .inr (.inr k))
        obtain ⟨w', r, q⟩ := hll _ y v e1 e2 hvis
        obtain ⟨c2, h2⟩ := look k
        refine ⟨w', r, .inr ⟨.inr k, c2, h2, ?_⟩⟩
        have c1 := cm h2
        rcases q with ⟨k', _⟩ | ⟨_, c3, e', z⟩
        · have k' : X.env.scope.names.lookup y = some .local := k'
          rcases L.free _ (PySem.mem_of_lookup k) rfl with k2 | k2 <;> rw [show X.env.scope.names.lookup y = _ from k2] at k' <;> cases k'
        · rw [c1] at e'
          cases e'
          exact cellK (I.freeC y _ c1) z
  · obtain ⟨w', z⟩ := I.cell y c (cm e)
    exact ⟨w', cellK (I.freeC y c (cm e)) z⟩
  · obtain ⟨v, o, ho, hd⟩ := I.cell y c (cm e)
    exact un.free c o ho (I.freeC y c (cm e)) (by simp)
  · show (vs.map some ++ hideP ps X.N σ).length = (ps ++ X.N).length
    rw [List.length_append, List.length_map, hideP_length, List.length_append, hl, I.len]
/-- the lambda is made; tables stay tables -/
theorem lam_makeT {T : List (Addr × Str)} {c P : Addr} {params : Arguments} {body : Expr} {scope : Scope} {pos : Pos} {E : Value → Shared → Prop} {Q : Value → Shared → Prop} (I : Inv X pins σ H s) (TB : TabB X.base X.mg c P) (hcode : X.env.code = .ref c)
    (hm : (P, X.env.qual ++ "<lambda>") ∈ T) (hu : ∀ p ∈ T, p.1 = P → p.2 = X.env.qual ++ "<lambda>") (hT : Tabs T H) (hdef : defaultsOf params X.env = ([], [])) (hfree : ∀ y ∈ scope.names, y.2 = .free → ∃ c, X.env.cells.lookup y.1 = some c)
    (q : ∀ (f c' : Addr) (pm ctv : Value) (H1 : Hp) (s' : Shared), Inv X pins σ H1 s' → ExtN H H1 → (∀ b ps, H b = some (.tbl ps) → ∃ qs, H1 b = some (.tbl qs)) → Tabs T H1 → (∀ b, H b = none → b ≠ c' → H1 b = none) → H c' = none ∨ H c' = H1 c' →
      s'.heap.get? f = some (PySem.W.kla_obj "<lambda>" (X.env.qual ++ "<lambda>") params body scope (cloFrom X.env.cells scope.names []) pm c' ctv) → H1 f = none → f ∉ frs X.stack → H1 c' = some (CodeO c' (X.env.qual ++ "<lambda>")) → Q (.ref f) s') :
    wpAny (model X.prog X.w) X.A (eval (.Lambda params body scope pos) X.env) Q E s := by
  have tP := hT _ hm
  obtain ⟨ps, atP, tok, told⟩ := tP
  have gP : s.heap.get? P = some { cls := .none, data := .fields ps } := I.hok P _ atP
  have out : ∀ f, s.heap.objs.size ≤ f → f ∉ frs X.stack := fun f le z => (List.mem_cons.mp (I.stkSub _ z)).elim (fun e => absurd (Nat.lt_of_lt_of_le (e ▸ I.lt) le) (Nat.lt_irrefl _)) fun e => I.nofs le e
  refine PySem.W.kla_eval hdef ?_
  cases among : codeAmong pos ps.toList with
  | some cv =>
    obtain ⟨c', rfl, co⟩ := told pos cv among
    refine PySem.W.kla_makeFunctionHit (mg := X.mg) (c := c) (P := P) (ps := ps) (closure_ok hfree) I.ok.glob (I.mod.glob.keeps I.bk) hcode (TB.code.keeps I.bk) gP tok among (TB.bm.keeps I.bk) fun ctv h' tk kp le => ?_
    exact q h'.objs.size c' _ ctv H _ (I.kept fun b o e => Heap.get?_push_of_some _ (kp b o e)) (ExtN.refl H) (fun b qs e => ⟨qs, e⟩) hT (fun _ e _ => e) (.inr rfl) (Heap.get?_push_size _ rfl) (I.hok.fresh le) (out _ le) co
  | none =>
    refine PySem.W.kla_makeFunction (mg := X.mg) (c := c) (P := P) (ps := ps) (closure_ok hfree) I.ok.glob (I.mod.glob.keeps I.bk) hcode (TB.code.keeps I.bk) gP tok among TB.gP (TB.bm.keeps I.bk) fun c' ctv h' tk kp ge lt rec tb => ?_
    obtain ⟨c2, oc, vs, t, ec, hoc, hdat, hnm⟩ := rec
    cases ec
    have le : s.heap.objs.size ≤ h'.objs.size := Nat.le_trans ge (Nat.le_of_lt lt)
    have nc : H c' = none := I.hok.fresh ge
    have nPc : P ≠ c' := ne_of_none atP nc
    have nf : h'.objs.size ≠ c' := Nat.ne_of_gt lt
    have nfP : h'.objs.size ≠ P := Nat.ne_of_gt (Nat.lt_of_lt_of_le (Heap.lt_size gP) le)
    have toL : (ps ++ #[rawInt pos.line, rawInt pos.col, Value.ref c']).toList = ps.toList ++ [rawInt pos.line, rawInt pos.col, .ref c'] := by simp
    have J := inv_table (q := X.env.qual ++ "<lambda>") (t' := tk) (more := #[rawInt pos.line, rawInt pos.col, .ref c']) (h' := h'.push (PySem.W.kla_obj "<lambda>" (X.env.qual ++ "<lambda>") params body scope (cloFrom X.env.cells scope.names []) ((X.mg "__name__").getD .none) c' ctv)) I atP
      (fun b o nb e => Heap.get?_push_of_some _ (kp b o nb e)) (Heap.get?_push_of_some _ tb) ge ⟨oc, vs, t, Heap.get?_push_of_some _ hoc, hdat, hnm⟩
    have ext : ExtN H (upd (upd H P (.tbl (ps ++ #[rawInt pos.line, rawInt pos.col, .ref c']))) c' (CodeO c' (X.env.qual ++ "<lambda>"))) := fun b o e n => by
      have n1 : b ≠ c' := ne_of_none e nc
      have n2 : b ≠ P := fun z => n ps (by rw [z, atP] at e; exact (Option.some.inj e).symm)
      rw [upd_ne n1, upd_ne n2]
      exact e
    have hold : ∀ b qs, H b = some (.tbl qs) → ∃ rs, upd (upd H P (.tbl (ps ++ #[rawInt pos.line, rawInt pos.col, .ref c']))) c' (CodeO c' (X.env.qual ++ "<lambda>")) b = some (.tbl rs) := fun b qs e => by
      rw [upd_ne (ne_of_none e nc)]
      by_cases z : b = P
      · rw [z, upd_same]; exact ⟨_, rfl⟩
      · rw [upd_ne z]; exact ⟨_, e⟩
    refine q h'.objs.size c' _ ctv _ _ J ext hold (fun p hp => ?_) (fun b e n => ?_) (.inl nc) (Heap.get?_push_size _ rfl) ?_ (out _ le) upd_same
    · by_cases z : p.1 = P
      · rw [hu p hp z, z]
        refine ⟨_, by rw [upd_ne nPc, upd_same], by rw [toL]; exact PySem.TriplesOk_snoc _ _ _ _ tok, fun p' cv hcv => ?_⟩
        rw [toL] at hcv
        rcases among_app _ tok hcv with y | y
        · obtain ⟨c0, e1, e2⟩ := told p' cv y
          exact ⟨c0, e1, ext _ _ e2 codeO_ne⟩
        · exact ⟨c', y, upd_same⟩
      · obtain ⟨ps', a1, a2, a3⟩ := hT p hp
        refine ⟨ps', by rw [upd_ne (ne_of_none a1 nc), upd_ne z]; exact a1, a2, fun p' cv hcv => ?_⟩
        obtain ⟨c0, e1, e2⟩ := a3 p' cv hcv
        exact ⟨c0, e1, ext _ _ e2 codeO_ne⟩
    · rw [upd_ne n, upd_ne (fun z => by rw [z, atP] at e; cases e)]
      exact e
    · rw [upd_ne nf, upd_ne nfP]
      exact I.hok.fresh le
/-- x(..), in the def that got the lambda: Z is that def's context, entered at s -/
theorem pe_actP {Eg : XK} {Ng : List Str} {qg : Str} {sg : Scope} {g f c' : Addr} {cdg pm ctv : Value} {params : Arguments} {body : Expr} {scope : Scope} {k i : Nat} {a : Str} {E : L2.St → XK} {tb : XK → TE} {ta : TA} {e : Expr} {es : List Expr} {p1 p2 : Pos}
    (I : Inv X pins σ H s) (L : LamP X.env.scope scope ps) (hf : s.heap.get? f = some (PySem.W.kla_obj "<lambda>" (X.env.qual ++ "<lambda>") params body scope (cloFrom X.env.cells scope.names []) pm c' ctv)) (hfn : H f = none) (hfr : f ∉ frs X.stack)
    (hbind : ∀ us : List Value, us.length = ps.length → bindArgs (PySem.W.kla_fn "<lambda>" (X.env.qual ++ "<lambda>") params body scope (cloFrom X.env.cells scope.names []) pm (.ref c') ctv) ⟨us, []⟩ = pure (ps.zip us))
    (hr : Room (k + 1) (X.A.deeper (envOfC qg sg s.heap.objs.size g cdg))) (hgd : (X.A.deeper (envOfC qg sg s.heap.objs.size g cdg)).guards = some [])
    (hx : ∀ σZ, PassesAt (L2.CX X.prog X.w) (cxOf (L2.CX X.prog X.w) X.prog X.w X.K X.mg X.base Ng qg sg g cdg X.A X.stack s H Eg) σZ (E σZ))
    (hbody : ∀ (A : Around) (outer : List Env) (s : Shared) (H : Hp) (E : XK), Room k (A.deeper (lamEnv X scope s.heap.objs.size f c')) → (A.deeper (lamEnv X scope s.heap.objs.size f c')).guards = some [] → PE (lamCxP X A outer s H E scope f c' ps) body (tb E))
    (hN : Ng[i]? = some a) (hv : Vis sg a) (ha : PA (cxOf (L2.CX X.prog X.w) X.prog X.w X.K X.mg X.base Ng qg sg g cdg X.A X.stack s H Eg) (e :: es) ta) (hd : (a == ("__debug__" : Str)) = false := by decide) (hcd : (a == ("__classdict__" : Str)) = false := by decide)
    (he : starEach (e :: es) (cxOf (L2.CX X.prog X.w) X.prog X.w X.K X.mg X.base Ng qg sg g cdg X.A X.stack s H Eg).env = (false, eval e (cxOf (L2.CX X.prog X.w) X.prog X.w X.K X.mg X.base Ng qg sg g cdg X.A X.stack s H Eg).env) :: starEach es (cxOf (L2.CX X.prog X.w) X.prog X.w X.K X.mg X.base Ng qg sg g cdg X.A X.stack s H Eg).env := by rfl)
    (hpl : (backTo p2 (starEach es (cxOf (L2.CX X.prog X.w) X.prog X.w X.K X.mg X.base Ng qg sg g cdg X.A X.stack s H Eg).env)).any (·.1) = false := by rfl) :
    PE (cxOf (L2.CX X.prog X.w) X.prog X.w X.K X.mg X.base Ng qg sg g cdg X.A X.stack s H Eg) (.Call (.Name a p1) (e :: es) [] p2)
      (fun σZ HZ Q => σZ[i]? = some (some (.ref f)) ∧ ta σZ HZ fun vs H2 => vs.length = ps.length ∧ H2 c' = some (CodeO c' (X.env.qual ++ "<lambda>")) ∧ tb (E σZ) (vs.map some ++ hideP ps X.N σ) H2 Q) := by
  refine ⟨fun pinsZ sZ σZ HZ Q IZ ⟨hs, ht⟩ => ?_⟩
  refine wpAny_Call_Name_kw (thn ((pe_var (pos := p1) (i := i) hN hv hd hcd).run pinsZ sZ σZ HZ (fun v H1 => v = .ref f ∧ H1 = HZ) IZ ⟨.ref f, hs, rfl, rfl⟩) fun u s1 ⟨v, H1, I1, r1, ev, eH⟩ => ?_)
  subst ev eH
  obtain rfl : u = Value.ref f := r1
  have at1 : s1.heap.get? f = some (PySem.W.kla_obj "<lambda>" (X.env.qual ++ "<lambda>") params body scope (cloFrom X.env.cells scope.names []) pm c' ctv) := I1.base.keep f _ hf hfn hfr (fun z => nomatch (show f ∈ ([] : List Addr) from z))
  refine PySem.W.callWith_F ⟨_, _, _, _, at1⟩ (thn (ha.run p2 pinsZ s1 σZ _ _ I1 ht) fun us s2 ⟨vs, H2, I2, rv, hl, hc, hb⟩ => ?_) he hpl
  have at2 : s2.heap.get? f = some (PySem.W.kla_obj "<lambda>" (X.env.qual ++ "<lambda>") params body scope (cloFrom X.env.cells scope.names []) pm c' ctv) := I2.base.keep f _ hf hfn hfr (fun z => nomatch (show f ∈ ([] : List Addr) from z))
  refine ⟨⟨_, _, _, _, at2⟩, ?_⟩
  have un : Un (frs X.stack) [] H H2 s.heap s2.heap := I2.base
  obtain ⟨⟨oc, ws, t, hoc, hdc, hvc⟩, _, _⟩ := I2.hok c' _ hc
  have rc : codeAny (model X.prog X.w) (X.A.deeper (envOfC qg sg s.heap.objs.size g cdg)) (.call (.ref f) ⟨us, []⟩) (CR (L2.CX X.prog X.w) (envOfC qg sg s.heap.objs.size g cdg :: X.stack) X.prog X.w H2 s2 Q (E σZ)) s2 := by
    refine PySem.W.kla_callFunE hr.depth at2 rfl L.co L.gen rfl ⟨c', oc, ws, t, rfl, hoc, hdc, hvc⟩ ?_
    rw [hbind us (by rw [← rv.length]; exact hl)]
    refine wpAny_pure (wpAny_newFunctionEnv L.nc (fun y hy => L.par _ (List.of_mem_zip hy).1) (fun h₁ hns hsb => ⟨I2.nolimit.fresh _ hsb, ?_⟩) L.kind)
    show codeAny _ _ (.expr body (lamEnv X scope s2.heap.objs.size f c')) _ _
    have kp : ∀ b o, s2.heap.get? b = some o → h₁.get? b = some o := fun b o e => hsb.extBut b o (Nat.ne_of_lt (Heap.lt_size e)) (Heap.get?_push_of_some _ e)
    have J := lam_startP (E := E σZ) (f := f) (c' := c') (tk := s2.toks + (ps.zip us).length) I L I2.env0 hr.hd hl rv un hns kp
    refine PySem.W.kla_codeExpr (wpAny_mono ((hbody _ _ s2 H2 (E σZ) (hr.deeper _) hgd).run [] _ _ H2 Q J hb) (fun v s' hq => ?_) fun e s' hq => hq)
    obtain ⟨w', H', J', rw', q⟩ := hq
    exact ⟨w', H', J'.os, J'.bare, J'.base, J'.hok, rw', q⟩
  show wpAny _ _ (call (.ref f) us) _ _ _
  refine wpAny_call (codeAny_mono rc fun r s' hq => ?_)
  cases r with
  | error e => exact hx σZ pinsZ _ _ e s' I2 hq
  | ok fl =>
    cases fl with
    | ret u => exact I2.after hq
    | next => exact False.elim hq
    | brk => exact False.elim hq
    | cont => exact False.elim hq
end
end On

set_option Elab.async false
set_option linter.all false
set_option maxRecDepth 100000
set_option maxHeartbeats 2000000
set_option autoImplicit false
namespace On
open PySem PySem.Spec PyProof.Rows L2 LamX
/-! ### f(lambda ..: ..) -/
def keepG (Γ : Gm) : Gm := Γ.map fun o => match o with
  | some (.val d) => some (.val d)
  | _ => none
theorem keepG_get {Γ : Gm} {i : Nat} {c : Cell} (h : (keepG Γ)[i]? = some (some c)) : ∃ d, c = .val d ∧ Γ[i]? = some (some (.val d)) := by
  unfold keepG at h
  rw [List.getElem?_map] at h
  cases e : Γ[i]? with
  | none => rw [e] at h; cases h
  | some o =>
    rw [e] at h
    cases o with
    | none => cases h
    | some c' =>
      cases c' with
      | val d => cases h; exact ⟨d, rfl, rfl⟩
      | own d => cases h
      | act => cases h
/-- what the lambda tells of its arguments, made where the slots are Γ -/
def lamM (ps N : List Str) (ml : Gm → J → R D) (Γ : Gm) : List D → J → R D := fun ds j => if ds.length = ps.length then ml (ds.map (fun d => some (.val d)) ++ hideP ps N (keepG Γ)) j else .bad
/-- the lambda that was handed in is called -/
def mAct (i : Nat) (h : List D → J → R D) (ma : Gm → J → R (List D)) : Gm → J → R D := fun Γ j => match Γ[i]? with
  | some (some .act) => (ma Γ j).bind fun ds j => h ds j
  | _ => .bad
def mLam (Ng ps N : List Str) (bg : (List D → J → R D) → Gm → J → RS) (ml : Gm → J → R D) : Gm → J → R D := fun Γ j => outF (bg (lamM ps N ml Γ) (some .act :: List.replicate (Ng.length - 1) none) j)
theorem hideP_put {α : Type} {ps : List Str} : ∀ {N : List Str} {σ : List (Option α)} {i : Nat} {x : Str} {v : α}, N[i]? = some x → x ∉ ps → σ[i]? = some (some v) → (hideP ps N σ)[i]? = some (some v)
  | [], _, _, _, _, h, _, _ => by cases h
  | y :: N, [], i, x, v, _, _, h => by cases h
  | y :: N, o :: σ, 0, x, v, h, np, h2 => by
    cases h
    unfold hideP
    rw [if_neg (fun z => np (by simpa using z))]
    exact h2
  | y :: N, o :: σ, i + 1, x, v, h, np, h2 => hideP_put (N := N) (σ := σ) (i := i) h np h2
theorem not_live_ext {C : Cb} {O : Addr → Prop} {ρ : List Addr} {H : Hp} {j : J} (S : Sto C O ρ H j) {a : Addr} {φ : Heap → Prop} (h : H a = some (.ext φ)) : ¬ Live ρ j a := fun ⟨n, d, h1, h2⟩ => by
  obtain ⟨b, e, q⟩ := S.sto n d h2
  rw [h1] at e
  cases e
  obtain ⟨o, ho, hw⟩ := q.nw
  rw [h] at ho
  cases ho
  exact hw.2 _ rfl
section
variable {C : Ct} {E : WX} {X : Cx} {x a : Str} {p pos lpos : Pos} {Ng ps : List Str} {g c P : Addr} {fd : FuncData} {pg params : Arguments} {qg : Str} {bodyg : List Stmt} {sg scope : Scope} {dvs : List V} {kws : List (Str × V)} {body : Expr} {kg kl : Nat} {bg : (List D → J → R D) → Gm → J → RS} {ml : Gm → J → R D}
/-- what a def that calls the lambda (its one parameter a) keeps, of whatever lambda -/
def Acts (X : Cx) (b : Cb) (Ng : List Str) (qg : Str) (sg : Scope) (g : Addr) (bodyg : List Stmt) (a : Str) (kg : Nat) (bg : (List D → J → R D) → Gm → J → RS) : Prop :=
  ∀ (cdv : Value) (s : Shared) (H : Hp) (Ctg : Ct) (Eg : XK) (h : List D → J → R D), Ctg.b = b → Room kg (X.A.deeper (envOfC qg sg s.heap.objs.size g cdv)) → (X.A.deeper (envOfC qg sg s.heap.objs.size g cdv)).guards = some [] →
    (∀ (e : Expr) (es : List Expr) (p1 p2 : Pos) (ma : Gm → J → R (List D)), MA Ctg (EX Eg) (cxOf (L2.CX X.prog X.w) X.prog X.w X.K X.mg X.base Ng qg sg g cdv X.A X.stack s H Eg) (e :: es) ma →
      starEach (e :: es) (cxOf (L2.CX X.prog X.w) X.prog X.w X.K X.mg X.base Ng qg sg g cdv X.A X.stack s H Eg).env = (false, eval e (cxOf (L2.CX X.prog X.w) X.prog X.w X.K X.mg X.base Ng qg sg g cdv X.A X.stack s H Eg).env) :: starEach es (cxOf (L2.CX X.prog X.w) X.prog X.w X.K X.mg X.base Ng qg sg g cdv X.A X.stack s H Eg).env →
      (backTo p2 (starEach es (cxOf (L2.CX X.prog X.w) X.prog X.w X.K X.mg X.base Ng qg sg g cdv X.A X.stack s H Eg).env)).any (·.1) = false →
      ME Ctg (EX Eg) (cxOf (L2.CX X.prog X.w) X.prog X.w X.K X.mg X.base Ng qg sg g cdv X.A X.stack s H Eg) (.Call (.Name a p1) (e :: es) [] p2) (mAct 0 h ma)) →
    MB Ctg (EX Eg) (cxOf (L2.CX X.prog X.w) X.prog X.w X.K X.mg X.base Ng qg sg g cdv X.A X.stack s H Eg) bodyg (bg h)
theorem me_lamcall (tk : Takes X E) (hK : X.K = C.b.K) (hr : Room (kg + 1) X.A) (hkl : kl + 1 ≤ kg) (hgd : X.A.guards = some []) (hg : Gl X x) (hm : X.mg x = some (.ref g)) (hk : PySem.W.keepIn X.K (.ref g) = true) (F : FunD X.K x qg pg bodyg sg dvs kws g fd) (hb : Binds X.K fd [a] []) (Sg : FnScope Ng [a] sg) (hNg : Ng[0]? = some a) (hva : Vis sg a)
    (hG : Acts X C.b Ng qg sg g bodyg a kg bg)
    (TB : TabB X.base X.mg c P) (hcode : X.env.code = .ref c) (hmT : (P, X.env.qual ++ "<lambda>") ∈ C.b.tb) (hu : ∀ p ∈ C.b.tb, p.1 = P → p.2 = X.env.qual ++ "<lambda>") (L : LamP X.env.scope scope ps) (hdef : defaultsOf params X.env = ([], []))
    (hbind : ∀ (q : Str) (cl : List (Str × Addr)) (pm cv ctv : Value) (us : List Value), us.length = ps.length → bindArgs (PySem.W.kla_fn "<lambda>" q params body scope cl pm cv ctv) ⟨us, []⟩ = pure (ps.zip us))
    (hbody : ∀ (A : Around) (outer : List Env) (s : Shared) (H : Hp) (Ct : Ct) (E : XK) (f c' : Addr), Ct.b = C.b → Room kl (A.deeper (lamEnv X scope s.heap.objs.size f c')) → (A.deeper (lamEnv X scope s.heap.objs.size f c')).guards = some [] → ME Ct (EX E) (lamCxP X A outer s H E scope f c' ps) body ml)
    (hdb : (x == ("__debug__" : Str)) = false := by decide) (hd : (a == ("__debug__" : Str)) = false := by decide) (hcd : (a == ("__classdict__" : Str)) = false := by decide) :
    ME C E X (.Call (.Name x p) [.Lambda params body scope lpos] [] pos) (mLam Ng ps X.N bg ml) := by
  obtain ⟨oc, od, dV, kV, doc, pm, an, cdv, ct, osl, rfl, lk, hcg, _, _⟩ := F.ex
  refine ⟨fun pins s σ H Q I ⟨O, ρ, Γ, j, S, h⟩ => ?_⟩
  refine wpAny_Call_Name_kw (ld_glob I hg hm ?_ hdb)
  refine PySem.W.callWith_K (h₀ := X.base) I.ok.mod.kin hk ?_ (by rfl) (by rfl)
  show wpAny _ _ (spliced ((false, eval (.Lambda params body scope lpos) X.env) :: backTo pos (starEach [] X.env))) _ _ s
  refine Calls.spliced_cons (lam_makeT (T := C.b.tb) I TB hcode hmT hu S.st.tab hdef (L.has I.ok) fun f c' pm' ctv H1 s' I1 eN eT T1 eZ _ hf hfn hfr hco => ?_)
  refine Calls.spliced_nil ⟨I1.kIn, ?_⟩
  -- the state behind the making
  have k1 : Kp ρ j H ρ j H1 := ⟨fun b o _ t e => eN b o e t, eT, fun _ z => .inl z, fun _ z => .inl z, Pfx.refl⟩
  have th : ∀ b, (∃ o, H b = some o) → ∃ o, H1 b = some o := fun b ⟨o, e⟩ => by
    by_cases t : NT o
    · exact ⟨o, eN b o e t⟩
    · obtain ⟨qs, rfl⟩ : ∃ qs, o = .tbl qs := Classical.byContradiction fun z => t fun qs e => z ⟨qs, e⟩
      obtain ⟨rs, e1⟩ := eT b qs e
      exact ⟨_, e1⟩
  have s1 : Sto C.b O ρ H1 j := ⟨fun b z => th b (S.st.trk b z), T1, fun b z => th b (S.st.rtr b z), S.st.rl, S.st.nd, fun n d e => let ⟨b, eb, q⟩ := S.st.sto n d e; ⟨b, eb, q.map (fun o t e => eN b o e t) fun _ _ => (k1.step O).den⟩⟩
  have S1 : Sok C O ρ σ H1 Γ j := S.keep k1 s1
  have h1 := Post.shift S k1 h
  have notc : ¬ Live ρ j c' := not_live_ext s1 (by unfold CodeO at hco; exact hco)
  -- the start of the def
  have Sg0 : Sok ⟨C.b, H1, ρ, j, O, some f⟩ O ρ (L2.start Ng [.ref f]) H1 (some .act :: List.replicate (Ng.length - 1) none) j :=
    { st := s1, len := by simp [L2.start], pre := Pfx.refl, ex := fun _ _ _ _ e => e, ext0 := fun _ qs e => ⟨qs, e⟩, onew := fun _ z => .inl z, b0 := fun _ z => z, new := fun _ z => .inl z, rnw := fun _ z => .inl z
      slot := fun i c hc => by
        cases i with
        | zero => cases hc; exact ⟨f, start_get rfl, rfl⟩
        | succ i =>
          rw [List.getElem?_cons_succ, List.getElem?_replicate] at hc
          split at hc <;> cases hc
      dist := fun i k ds es b hc => by
        cases i with
        | zero => cases hc
        | succ i =>
          rw [List.getElem?_cons_succ, List.getElem?_replicate] at hc
          split at hc <;> cases hc
      b00 := s1.trk }
  have rc : codeAny (model X.prog X.w) X.A (.call (.ref g) ⟨[.ref f], []⟩) (CR (L2.CX X.prog X.w) X.stack X.prog X.w H1 s' Q (WE E σ)) s' := by
    refine run_ofS (N := Ng) (ps := [a]) (us := [.ref f]) (vs := [.ref f]) lk hcg Sg hr I1.env0 (hb s' [.ref f] I1.kIn rfl) (.cons rfl .nil) rfl fun hr' => ?_
    refine ⟨_, hG cdv s' H1 ⟨C.b, H1, ρ, j, O, some f⟩ (WE E σ) (lamM ps X.N ml Γ) rfl hr' hgd (fun e es p1 p2 ma ha he hpl => ?_), O, ρ, _, j, Sg0, ?_⟩
    · -- the lambda called
      refine PE.imp (pe_actP (i := 0) (k := kl) (E := WE (EX (WE E σ))) (tb := fun E' σ' H' Q' => ∃ Ct : Ct, Ct.b = C.b ∧ St0 Ct (EX E') ml σ' H' fun O d j' ρ' H'' => ∀ v, Den Ct.b ρ' H'' (Bo O ρ' j') v d → Q' v H'') I1 L hf hfn hfr (hbind _ _ _ _ _) (hr'.mono hkl) hgd
        (fun σZ => passAt (takes_of rfl rfl rfl rfl) σZ) (fun A outer s0 H0 E' hr2 hg2 => ⟨fun pins s σ H Q I ⟨Ct, hCt, q⟩ => (hbody A outer s0 H0 Ct E' f c' hCt hr2 hg2).run pins s σ H Q I q⟩) hNg hva ha hd hcd he hpl) ?_
      rintro σZ HZ QZ ⟨Oz, ρz, Γz, jz, Sz, hz⟩
      unfold mAct at hz
      split at hz
      · rename_i hΓ
        obtain ⟨b, eb, ef⟩ := Sz.slot 0 _ hΓ
        have ef : some f = some b := ef
        cases ef
        refine ⟨eb, Oz, ρz, Γz, jz, Sz, Post.imp (Post.bind Sz hz) fun ds j2 ρ2 H2 k2 S2 q2 vs hvs => ?_⟩
        have q2 : Post ⟨C.b, H1, ρ, j, O, some f⟩ (EX (WE E σ)) Oz σZ Γz ρ2 j2 H2 (if ds.length = ps.length then ml (ds.map (fun d => some (.val d)) ++ hideP ps X.N (keepG Γ)) j2 else .bad) (fun d j' ρ' H' => ∀ v, Den C.b ρ' H' (Bo Oz ρ' j') v d → QZ v H') := q2
        obtain ⟨hl, q2⟩ := Post.ite q2
        have st : Step ρ (Bo O ρ j) H1 ρ2 (Bo Oz ρ2 j2) H2 := ⟨⟨fun b o n t e => S2.ex b o (fun z => n (.inr z)) t e, S2.ext0⟩, fun b z => by
          rcases z with z | z
          · exact (S2.onew b z).imp .inl id
          · exact (S2.new b z).imp .inr id, S2.pre⟩
        refine ⟨by rw [hvs.length]; exact hl, S2.ex c' _ notc (fun _ z => codeO_ne _ z) hco, ⟨C.b, H2, ρ2, j2, Oz, none⟩, rfl, Oz, ρ2, ds.map (fun d => some (.val d)) ++ hideP ps X.N (keepG Γ), j2, ?_, ?_⟩
        · have gl : (keepG Γ).length = σ.length := by unfold keepG; rw [List.length_map]; exact S1.len
          have key : ∀ (i : Nat) (c : Cell), (ds.map (fun d => some (Cell.val d)) ++ hideP ps X.N (keepG Γ))[i]? = some (some c) → ∃ d, c = .val d ∧ ∃ v, (vs.map some ++ hideP ps X.N σ)[i]? = some (some v) ∧ Den C.b ρ2 H2 (Bo Oz ρ2 j2) v d := fun i c hc => by
            have hvl := hvs.length
            by_cases hi : i < ds.length
            · rw [List.getElem?_append_left (by simpa using hi), List.getElem?_map] at hc
              cases e : ds[i]? with
              | none => rw [e] at hc; cases hc
              | some d =>
                rw [e] at hc
                cases hc
                obtain ⟨v, hv, r⟩ := hvs.get e
                exact ⟨d, rfl, v, by rw [List.getElem?_append_left (by simp; omega), List.getElem?_map, hv]; rfl, r⟩
            · rw [List.getElem?_append_right (by simpa using Nat.le_of_not_lt hi)] at hc
              rw [List.getElem?_append_right (by simp; omega)]
              simp only [List.length_map] at hc ⊢
              rw [hvl]
              have hN : i - ds.length < X.N.length := by
                have := (List.getElem?_eq_some_iff.mp hc).1
                rw [hideP_length, gl, I1.len] at this
                exact this
              obtain ⟨np, hc⟩ := hideP_get (List.getElem?_eq_getElem hN) hc
              obtain ⟨d, rfl, hd'⟩ := keepG_get hc
              obtain ⟨v, ev, r⟩ := S1.slot _ _ hd'
              exact ⟨d, rfl, v, hideP_put (List.getElem?_eq_getElem hN) np ev, st.den r⟩
          exact { st := S2.st, len := by simp [hideP_length, gl, hvs.length], pre := Pfx.refl, ex := fun _ _ _ _ e => e, ext0 := fun _ qs e => ⟨qs, e⟩, onew := fun _ z => .inl z, b0 := fun _ z => z, new := fun _ z => .inl z, rnw := fun _ z => .inl z
                  slot := fun i c hc => by
                    obtain ⟨d, rfl, v, ev, r⟩ := key i c hc
                    exact ⟨v, ev, r⟩
                  dist := fun i k e1 e2 b hc => by
                    obtain ⟨d, z, _⟩ := key i _ hc
                    cases z
                  b00 := S2.st.trk }
        · revert q2
          generalize ml (ds.map (fun d => some (Cell.val d)) ++ hideP ps X.N (keepG Γ)) j2 = r
          intro q2
          cases r with
          | ok d j3 => exact fun ρ3 H3 k3 S3 v hv => q2 ρ3 H3 k3 (S2.keep k3 S3.st) v hv
          | exc n fs j3 => exact fun y us ρ3 H3 k3 S3 hy hn hf' => q2 y us ρ3 H3 k3 (S2.keep k3 S3.st) hy hn hf'
          | bad => exact q2
      · exact hz.elim
    · -- behind the def
      have h1 : Post C E O σ Γ ρ j H1 (outF (bg (lamM ps X.N ml Γ) (some .act :: List.replicate (Ng.length - 1) none) j)) (fun d j' ρ' H' => ∀ v, Den C.b ρ' H' (Bo O ρ' j') v d → Q v H') := h1
      revert h1
      generalize bg (lamM ps X.N ml Γ) (some .act :: List.replicate (Ng.length - 1) none) j = r
      intro h1
      have le : ∀ {O' : Addr → Prop} {ρ' : List Addr} {σ' : L2.St} {H' : Hp} {Γ' : Gm} {j' : J}, Sok ⟨C.b, H1, ρ, j, O, some f⟩ O' ρ' σ' H' Γ' j' → ∀ b, Bo O ρ' j' b → Bo O' ρ' j' b ∨ H' b = none := fun S b z => .inl (z.imp (S.b0 b) id)
      cases r with
      | nx Γ' j' => exact fun O' ρ' σ' H' _ S' => h1 ρ' H' S'.out.1 (S1.keep S'.out.1 S'.out.2) .non .non
      | ret d j' => exact fun O' ρ' σ' H' Γ' v _ S' hv => h1 ρ' H' S'.out.1 (S1.keep S'.out.1 S'.out.2) v (hv.less (le S'))
      | brk Γ' j' => exact h1.elim
      | cont Γ' j' => exact h1.elim
      | exc n fs Γ' j' => exact fun O' ρ' σ' H' y us _ S' hy hn hf' => h1 y us ρ' H' S'.out.1 (S1.keep S'.out.1 S'.out.2) hy (fun z => hn (z.imp (S'.b0 y) id)) (hf'.less (le S'))
      | bad => exact h1.elim
  refine wpAny_call (codeAny_mono rc fun r s2 hq => ?_)
  cases r with
  | error e => exact passAt tk σ pins _ _ e s2 I1 hq
  | ok fl =>
    cases fl with
    | ret u => exact I1.after hq
    | next => exact False.elim hq
    | brk => exact False.elim hq
    | cont => exact False.elim hq
end
end On

set_option Elab.async false
set_option linter.all false
set_option maxRecDepth 100000
set_option maxHeartbeats 2000000
set_option autoImplicit false
namespace On
open PySem PySem.Spec PyProof.Rows L2
/-! ### new things -/
/-- e makes a new thing with the content that m tells -/
abbrev MN (C : Ct) (E : WX) (X : Cx) (e : Expr) (m : Gm → J → R D) : Prop :=
  PE X e fun σ H Q => St0 C E m σ H fun O d j1 ρ1 H1 => ∀ p o, H1 p = none → (∀ c fs, d ≠ .ins c fs) →
    (∀ (ρ2 : List Addr) (B2 : Addr → Prop), (∀ v e, Den C.b ρ1 H1 (Bo O ρ1 j1) v e → Den C.b ρ2 (upd H1 p o) B2 v e) → Cnt C.b ρ2 (upd H1 p o) B2 p d) → Q (.ref p) (upd H1 p o)
def mLoc (m : Gm → J → R D) : Gm → J → R D := fun Γ j => (m Γ j).bind fun d j => .ok (.loc j.length) (j ++ [some d])
def sOwnN (i : Nat) (m : Gm → J → R D) : Gm → J → RS := fun Γ j => (m Γ j).bindS Γ fun d j => .nx (Γ.set i (some (.own d))) j
section
variable {C : Ct} {E : WX} {X : Cx} {a b e o : Expr} {es : List Expr} {ma mb me m : Gm → J → R D} {mr : Gm → J → R (List D)} {pos p p2 : Pos} {i : Nat}
theorem R.bind_ok {α : Type} (r : R α) : (r.bind fun d j => .ok d j) = r := by cases r <;> rfl
theorem Post.more {α : Type} {O : Addr → Prop} {σ : L2.St} {Γ : Gm} {ρ : List Addr} {j : J} {H : Hp} {r : R α} {K : α → J → List Addr → Hp → Prop} (S : Sok C O ρ σ H Γ j) (h : Post C E O σ Γ ρ j H r K) : Post C E O σ Γ ρ j H r fun a j1 ρ1 H1 => Post C E O σ Γ ρ1 j1 H1 (.ok a j1) K :=
  Post.bind (f := fun d j => .ok d j) S (by rw [R.bind_ok]; exact h)
/-- as a value -/
theorem me_new (h : MN C E X e m) : ME C E X e m := PE.imp h fun σ H Q ⟨O, ρ, Γ, j, S, h⟩ => ⟨O, ρ, Γ, j, S, Post.imp (Post.more S h) fun d j1 ρ1 H1 k1 S1 q p o hp _ hc => by
  have x : Ext H1 (upd H1 p o) := Ext.new hp
  have c := hc ρ1 (Bo O ρ1 j1) fun v e r => r.mono x.pres Pfx.refl
  exact q _ _ x.keep (S1.ext x) _ (c.den (S1.fresh hp))⟩
/-- as a thing of the store -/
theorem ml_new (h : MN C E X e m) : ME C E X e (mLoc m) := PE.imp h fun σ H Q ⟨O, ρ, Γ, j, S, h⟩ => ⟨O, ρ, Γ, j, S, Post.imp (Post.bind S h) fun d j1 ρ1 H1 k1 S1 q p o hp _ hc => by
  have x : Ext H1 (upd H1 p o) := Ext.new hp
  obtain ⟨s2, k2⟩ := S1.st.push hp x ⟨_, upd_same⟩ (d := d) fun ρ2 B2 f => hc ρ2 B2 f
  exact q _ _ k2 (S1.keep k2 s2) _ (.loc (by rw [← S1.st.rl, List.getElem?_append_right (Nat.le_refl _), Nat.sub_self]; rfl))⟩
/-- x = a new thing, one's own -/
theorem ms_ownN {x : Str} {pos' : Pos} (hN : X.N.Nodup) (hi : X.N[i]? = some x) (hx : Loc X.env.scope x) (h : MN C E X e m) (hs : swapsWith e (some (.Name x pos')) pos.line X.env = pure false := by rfl) (hf : X.fn x = true ∨ X.env.scope.names.lookup x = some .local := by first | exact .inl rfl | exact .inr rfl | assumption) :
    MS C E X (.Assign [.Name x pos'] e pos) (sOwnN i m) :=
  PS.imp (ps_set hN hi hx h hs hf) fun Dn σ H ⟨O, ρ, Γ, j, S, h⟩ => ⟨O, ρ, Γ, j, S, Post.imp (PostS.of S h) fun d j1 ρ1 H1 k1 S1 q p o hp hd hc => by
    obtain ⟨st, S2⟩ := S1.own (i := i) (d := d) hp (fun f => hc _ _ f) hd
    exact q _ _ _ _ st S2⟩
/-! which expressions make new things -/
theorem mn_lst (hr : MA C E X es mr) : MN C E X (.List es pos) (mLst mr) :=
  PE.imp (pe_lst hr) fun σ H Q ⟨O, ρ, Γ, j, S, h⟩ => ⟨O, ρ, Γ, j, S, Post.imp (Post.bind S h) fun ds j1 ρ1 H1 k1 S1 q vs hvs => by
    obtain ⟨hl, q⟩ := Post.ite q
    exact ⟨sz5 (by rw [hvs.length]; exact hl), fun p hp => Post.now S1 q p _ hp (fun _ _ z => by cases z) fun ρ2 B2 f => ⟨vs, upd_same, hvs.map f⟩⟩⟩
theorem mn_dict0 : MN C E X (.Dict [] [] pos) mDict0 :=
  PE.imp pe_dnewK fun σ H Q ⟨O, ρ, Γ, j, S, h⟩ p hp => Post.now S h p _ hp (fun _ _ z => by cases z) fun ρ2 B2 f => ⟨[], upd_same, .nil⟩
/-- list(x) -/
theorem mn_list {x : Str} (hK : X.K = C.b.K) (hg : Gl X x) (hm : X.mg x = none) (hv : bootBuiltins x = some (.type "list")) (hr : MA C E X (e :: es) mr) (hn : x ≠ "__name__" := by decide) (hdb : (x == ("__debug__" : Str)) = false := by decide)
    (hs : starEach (e :: es) X.env = (false, eval e X.env) :: starEach es X.env := by rfl) (hpl : (backTo pos (starEach es X.env)).any (·.1) = false := by rfl) : MN C E X (.Call (.Name x p) (e :: es) [] pos) (mB fList mr) :=
  PE.imp (pe_callTy call_list_of hg hm hv hr hn hdb hs hpl) fun σ H Q ⟨O, ρ, Γ, j, S, h⟩ => ⟨O, ρ, Γ, j, S, Post.imp (Post.bind S h) fun ds j1 ρ1 H1 k1 S1 q vs hvs => by
    obtain ⟨z, hz, q3⟩ := post_liftB S1 q
    have V := S1.st.viewA hvs
    revert hz V
    generalize ds.map (deref j1) = es
    intro hz V
    unfold fList at hz
    split at hz
    · cases hz
      obtain ⟨v, rfl, h⟩ := V.one
      obtain ⟨a, xs, rfl, hs, r⟩ := h.lstSq
      exact ⟨a, xs, rfl, .inl (by rw [hK]; exact hs), fun p hp => q3 p _ hp (fun _ _ z => by cases z) fun ρ2 B2 f => ⟨xs, upd_same, r.map f⟩⟩
    · cases hz
      obtain ⟨v, rfl, h⟩ := V.one
      obtain ⟨a, xs, rfl, hs, r⟩ := h.tupSq
      exact ⟨a, xs, rfl, .inr (by rw [hK]; exact hs), fun p hp => q3 p _ hp (fun _ _ z => by cases z) fun ρ2 B2 f => ⟨xs, upd_same, r.map f⟩⟩
    · cases hz⟩
/-! ### displays of dicts -/
def rem (H : Hp) (p : Addr) : Hp := fun a => if a = p then none else H a
theorem rem_ne {H : Hp} {p a : Addr} (h : a ≠ p) : rem H p a = H a := if_neg h
theorem rem_same {H : Hp} {p : Addr} : rem H p p = none := if_pos rfl
theorem upd_rem {H : Hp} {p : Addr} {o : HO} : upd (rem H p) p o = upd H p o := by
  funext a
  by_cases h : a = p
  · rw [h, upd_same, upd_same]
  · rw [upd_ne h, upd_ne h, rem_ne h]
theorem Sto.rem {C : Cb} {O : Addr → Prop} {ρ : List Addr} {H : Hp} {j : J} {p : Addr} {u : HO} (S : Sto C (fun a => O a ∨ a = p) ρ H j) (nO : ¬ O p) (nr : p ∉ ρ) (hu : H p = some u) (hw : NW u) : Sto C O ρ (rem H p) j := by
  have P : Pres (Bo (fun a => O a ∨ a = p) ρ j) H (On.rem H p) := ⟨fun a o n _ e => by rw [rem_ne (fun z => n (.inl (.inr z)))]; exact e, fun a ps e => ⟨ps, by rw [rem_ne (fun z => by rw [z, hu] at e; cases e; exact hw.1 _ rfl)]; exact e⟩⟩
  have th : ∀ a, a ≠ p → (∃ u, H a = some u) → ∃ u, On.rem H p a = some u := fun a n ⟨u, e⟩ => ⟨u, by rw [rem_ne n]; exact e⟩
  refine ⟨fun a z => th a (fun e => nO (e ▸ z)) (S.trk a (.inl z)), fun q hq => ?_, fun a z => th a (fun e => nr (e ▸ z)) (S.rtr a z), S.rl, S.nd, fun n d e => ?_⟩
  · obtain ⟨ps, h1, h2, h3⟩ := S.tab q hq
    refine ⟨ps, by rw [rem_ne (fun z => by rw [z, hu] at h1; cases h1; exact hw.1 _ rfl)]; exact h1, h2, fun pos cv hc => ?_⟩
    obtain ⟨c, e1, e2⟩ := h3 pos cv hc
    exact ⟨c, e1, by rw [rem_ne (fun z => by rw [z, hu] at e2; unfold LamX.CodeO at e2; cases e2; exact hw.2 _ rfl)]; exact e2⟩
  · obtain ⟨a, ea, q⟩ := S.sto n d e
    have na : a ≠ p := fun z => nr (by rw [← z]; exact List.mem_iff_getElem?.mpr ⟨n, ea⟩)
    refine ⟨a, ea, q.map (fun o _ h => by rw [rem_ne na]; exact h) fun v d r => (r.mono P Pfx.refl).less fun b z => .inl (z.imp .inl id)⟩
theorem Kp.rem {ρ ρ1 : List Addr} {j j1 : J} {H H1 : Hp} {p : Addr} {o : HO} (hp : H p = none) (k : Kp ρ j (upd H p o) ρ1 j1 H1) : Kp ρ j H ρ1 j1 (rem H1 p) := by
  have n : ∀ {a : Addr}, upd H p o a = none → H a = none := fun {a} e => by
    by_cases q : a = p
    · rw [q]; exact hp
    · rw [upd_ne q] at e; exact e
  exact ⟨fun a u nl t e => by rw [rem_ne (ne_of_none e hp)]; exact k.keep a u nl t (by rw [upd_ne (ne_of_none e hp)]; exact e), fun a ps e => by rw [rem_ne (ne_of_none e hp)]; exact k.tbl a ps (by rw [upd_ne (ne_of_none e hp)]; exact e),
    fun a z => (k.grow a z).imp id n, fun a z => (k.frs a z).imp id n, k.pfx⟩
/-! the pairs -/
inductive DenP (C : Cb) (ρ : List Addr) (H : Hp) (B : Addr → Prop) : List (V × V) → List (D × D) → Prop
  | nil : DenP C ρ H B [] []
  | cons {x y : V} {k d : D} {ps : List (V × V)} {ds : List (D × D)} : Den C ρ H B x k → Den C ρ H B y d → DenP C ρ H B ps ds → DenP C ρ H B ((x, y) :: ps) ((k, d) :: ds)
def keq1 : D → D → Bool
  | .int a, .int b => decide (a = b)
  | .str a, .str b => decide (a = b)
  | _, _ => false
def keq : D → D → Bool
  | .int a, .int b => decide (a = b)
  | .str a, .str b => decide (a = b)
  | .tup [a, b], .tup [c, d] => keq1 a c && keq1 b d
  | _, _ => false
def keyOf : D → Key
  | .int a => .inl a
  | .str a => .inr a
  | _ => .inl 0
theorem keyD_of : ∀ {d : D}, isKey d = true → keyD (keyOf d) = d
  | .int _, _ => rfl
  | .str _, _ => rfl
theorem keq_key : ∀ (a b : Key), keq (keyD a) (keyD b) = decide (a = b)
  | .inl a, .inl b => by show decide (a = b) = _; simp
  | .inr a, .inr b => by show decide (a = b) = _; simp
  | .inl a, .inr b => by show false = _; simp
  | .inr a, .inl b => by show false = _; simp
def lkD (k : D) : List (D × D) → Option D
  | [] => none
  | (a, d) :: r => bif keq a k then some d else lkD k r
def repD (k v : D) : List (D × D) → List (D × D)
  | [] => []
  | (a, d) :: r => (bif keq a k then (a, v) else (a, d)) :: repD k v r
def hasD (k : D) : List (D × D) → Bool
  | [] => false
  | (a, _) :: r => keq a k || hasD k r
def putDK (es : List (D × D)) (k v : D) : List (D × D) := bif hasD k es then repD k v es else es ++ [(k, v)]
def mergeD : List (D × D) → List (D × D) → List (D × D)
  | acc, [] => acc
  | acc, (k, v) :: r => mergeD (putDK acc k v) r
section
variable {c : Cb} {ρ : List Addr} {H : Hp} {B : Addr → Prop}
theorem DenK.look {k : Key} {d : D} : ∀ {kvs : List (Key × V)} {es : List (D × D)}, DenK c ρ H B kvs es → lkD (keyD k) es = some d → ∃ v, valV kvs k = some v ∧ Den c ρ H B v d
  | _, _, .nil, h => by cases h
  | _, _, .cons (k := a) (v := v) q r, h => by
    unfold lkD at h
    rw [keq_key] at h
    by_cases e : a = k
    · rw [decide_eq_true e] at h
      cases h
      exact ⟨v, valV_pos e, q⟩
    · rw [decide_eq_false e] at h
      rw [valV_neg (p := (a, v)) e]
      exact DenK.look r h
theorem DenK.has {k : Key} : ∀ {kvs : List (Key × V)} {es : List (D × D)}, DenK c ρ H B kvs es → (kvs.any fun kv => decide (kv.1 = k)) = hasD (keyD k) es
  | _, _, .nil => rfl
  | _, _, .cons (k := a) q r => by
    unfold hasD
    rw [List.any_cons, keq_key, DenK.has r]
theorem DenK.rep {k : Key} {v : V} {d : D} (h : Den c ρ H B v d) : ∀ {kvs : List (Key × V)} {es : List (D × D)}, DenK c ρ H B kvs es → DenK c ρ H B (kvs.map fun kv => if kv.1 = k then (kv.1, v) else kv) (repD (keyD k) d es)
  | _, _, .nil => .nil
  | _, _, .cons (k := a) q r => by
    unfold repD
    rw [List.map_cons, keq_key]
    by_cases e : a = k
    · rw [decide_eq_true e, if_pos e]; exact .cons h (DenK.rep h r)
    · rw [decide_eq_false e, if_neg e]; exact .cons q (DenK.rep h r)
theorem DenK.append : ∀ {kvs kws : List (Key × V)} {es fs : List (D × D)}, DenK c ρ H B kvs es → DenK c ρ H B kws fs → DenK c ρ H B (kvs ++ kws) (es ++ fs)
  | _, _, _, _, .nil, s => s
  | _, _, _, _, .cons h r, s => .cons h (r.append s)
theorem DenK.put {k : Key} {v : V} {d : D} (h : Den c ρ H B v d) {kvs : List (Key × V)} {es : List (D × D)} (r : DenK c ρ H B kvs es) : DenK c ρ H B (putK kvs k v) (putDK es (keyD k) d) := by
  unfold putK putDK
  rw [DenK.has r]
  cases hasD (keyD k) es with
  | true => rw [if_pos rfl]; exact DenK.rep h r
  | false => rw [if_neg (by simp)]; exact r.append (.cons h .nil)
theorem DenK.merge : ∀ {more : List (Key × V)} {ms : List (D × D)} {kvs : List (Key × V)} {es : List (D × D)}, DenK c ρ H B kvs es → DenK c ρ H B more ms → DenK c ρ H B (mergeK kvs more) (mergeD es ms)
  | _, _, _, _, r, .nil => r
  | _, _, kvs, es, r, .cons (k := a) (v := w) (d := b) q s => DenK.merge (kvs := putK kvs a w) (es := putDK es (keyD a) b) (DenK.put q r) s
theorem DenK.length : ∀ {kvs : List (Key × V)} {es : List (D × D)}, DenK c ρ H B kvs es → kvs.length = es.length
  | _, _, .nil => rfl
  | _, _, .cons _ r => congrArg Nat.succ r.length
theorem keq1_key : ∀ (a b : Key), keq1 (keyD a) (keyD b) = decide (a = b)
  | .inl a, .inl b => by show decide (a = b) = _; simp
  | .inr a, .inr b => by show decide (a = b) = _; simp
  | .inl a, .inr b => by show false = _; simp
  | .inr a, .inl b => by show false = _; simp
theorem keq_tkey (a : List Key) (k1 k2 : Key) : keq (.tup (a.map keyD)) (.tup [keyD k1, keyD k2]) = decide (a = [k1, k2]) := by
  match a with
  | [] => show false = _; simp
  | [_] => show false = _; simp
  | [x, y] => show (keq1 (keyD x) (keyD k1) && keq1 (keyD y) (keyD k2)) = _; rw [keq1_key, keq1_key]; simp
  | _ :: _ :: _ :: _ => show false = _; simp
theorem DenT.look {k1 k2 : Key} {d : D} : ∀ {kvs : List (List Key × V)} {es : List (D × D)}, DenT c ρ H B kvs es → lkD (.tup [keyD k1, keyD k2]) es = some d → ∃ v, valV kvs [k1, k2] = some v ∧ Den c ρ H B v d
  | _, _, .nil, h => by cases h
  | _, _, .cons (k := a) (v := v) q r, h => by
    unfold lkD at h
    rw [keq_tkey] at h
    by_cases e : a = [k1, k2]
    · rw [decide_eq_true e] at h
      cases h
      exact ⟨v, valV_pos e, q⟩
    · rw [decide_eq_false e] at h
      rw [valV_neg (p := (a, v)) e]
      exact DenT.look r h
theorem DenT.lookN {k1 k2 : Key} : ∀ {kvs : List (List Key × V)} {es : List (D × D)}, DenT c ρ H B kvs es → lkD (.tup [keyD k1, keyD k2]) es = none → valV kvs [k1, k2] = none
  | _, _, .nil, _ => rfl
  | _, _, .cons (k := a) (v := v) q r, h => by
    unfold lkD at h
    rw [keq_tkey] at h
    by_cases e : a = [k1, k2]
    · rw [decide_eq_true e] at h; cases h
    · rw [decide_eq_false e] at h
      rw [valV_neg (p := (a, v)) e]
      exact DenT.lookN r h
theorem DenK.lookN {k : Key} : ∀ {kvs : List (Key × V)} {es : List (D × D)}, DenK c ρ H B kvs es → lkD (keyD k) es = none → valV kvs k = none
  | _, _, .nil, _ => rfl
  | _, _, .cons (k := a) (v := v) q r, h => by
    unfold lkD at h
    rw [keq_key] at h
    by_cases e : a = k
    · rw [decide_eq_true e] at h; cases h
    · rw [decide_eq_false e] at h
      rw [valV_neg (p := (a, v)) e]
      exact DenK.lookN r h
theorem DenT.has {k1 k2 : Key} : ∀ {kvs : List (List Key × V)} {es : List (D × D)}, DenT c ρ H B kvs es → (kvs.any fun kv => decide (kv.1 = [k1, k2])) = hasD (.tup [keyD k1, keyD k2]) es
  | _, _, .nil => rfl
  | _, _, .cons (k := a) q r => by
    unfold hasD
    rw [List.any_cons, keq_tkey, DenT.has r]
theorem DenT.rep {k1 k2 : Key} {v : V} {d : D} (h : Den c ρ H B v d) : ∀ {kvs : List (List Key × V)} {es : List (D × D)}, DenT c ρ H B kvs es → DenT c ρ H B (kvs.map fun kv => if kv.1 = [k1, k2] then (kv.1, v) else kv) (repD (.tup [keyD k1, keyD k2]) d es)
  | _, _, .nil => .nil
  | _, _, .cons (k := a) q r => by
    unfold repD
    rw [List.map_cons, keq_tkey]
    by_cases e : a = [k1, k2]
    · rw [decide_eq_true e, if_pos e]; exact .cons h (DenT.rep h r)
    · rw [decide_eq_false e, if_neg e]; exact .cons q (DenT.rep h r)
theorem DenT.append : ∀ {kvs kws : List (List Key × V)} {es fs : List (D × D)}, DenT c ρ H B kvs es → DenT c ρ H B kws fs → DenT c ρ H B (kvs ++ kws) (es ++ fs)
  | _, _, _, _, .nil, s => s
  | _, _, _, _, .cons h r, s => .cons h (r.append s)
theorem DenT.put {k1 k2 : Key} {v : V} {d : D} (h : Den c ρ H B v d) {kvs : List (List Key × V)} {es : List (D × D)} (r : DenT c ρ H B kvs es) : DenT c ρ H B (putK kvs [k1, k2] v) (putDK es (.tup [keyD k1, keyD k2]) d) := by
  unfold putK putDK
  rw [DenT.has r]
  cases hasD (.tup [keyD k1, keyD k2]) es with
  | true => rw [if_pos rfl]; exact DenT.rep h r
  | false => rw [if_neg (by simp)]; exact r.append (.cons (k := [k1, k2]) h .nil)
theorem DenT.length : ∀ {kvs : List (List Key × V)} {es : List (D × D)}, DenT c ρ H B kvs es → kvs.length = es.length
  | _, _, .nil => rfl
  | _, _, .cons _ r => congrArg Nat.succ r.length
theorem DenP.keys : ∀ {ps : List (V × V)} {ds : List (D × D)}, DenP c ρ H B ps ds → (ds.all fun p => isKey p.1) = true → ∃ kvs : List (Key × V), ps = kvs.map (fun kv => (kV kv.1, kv.2)) ∧ DenK c ρ H B kvs ds
  | _, _, .nil, _ => ⟨[], rfl, .nil⟩
  | _, _, .cons (x := x) (y := y) (k := k) (d := d) h1 h2 r, hk => by
    rw [List.all_cons, Bool.and_eq_true] at hk
    obtain ⟨kvs, e, q⟩ := DenP.keys r hk.2
    cases k with
    | int i => cases h1; exact ⟨(.inl i, y) :: kvs, by rw [e]; rfl, .cons (k := .inl i) h2 q⟩
    | str i => cases h1; exact ⟨(.inr i, y) :: kvs, by rw [e]; rfl, .cons (k := .inr i) h2 q⟩
    | _ => cases hk.1
end
def pNil : Gm → J → R (List (D × D)) := fun _ j => .ok [] j
def pCons (mk mv : Gm → J → R D) (mr : Gm → J → R (List (D × D))) : Gm → J → R (List (D × D)) := fun Γ j => (mk Γ j).bind fun k j => (mv Γ j).bind fun v j => (mr Γ j).bind fun r j => .ok ((k, v) :: r) j
def MP (C : Ct) (E : WX) (X : Cx) (pos : Pos) (keys : List (Option Expr)) (values : List Expr) (m : Gm → J → R (List (D × D))) : Prop :=
  ∃ trs, PPs X pos keys values trs ∧ ∀ σ H Q, St0 C E m σ H (fun O ds j' ρ' H' => ∀ ps, DenP C.b ρ' H' (Bo O ρ' j') ps ds → Q ps H') → tPairs trs σ H Q
theorem mp_nil : MP C E X pos [] [] pNil := ⟨[], pps_nil, fun σ H Q ⟨O, ρ, Γ, j, S, h⟩ => Post.now S h [] .nil⟩
theorem mp_cons {k v : Expr} {ks : List (Option Expr)} {vs : List Expr} {mk mv : Gm → J → R D} {mr : Gm → J → R (List (D × D))} (hk : ME C E X k mk) (hv : ME C E X v mv) (hr : MP C E X pos ks vs mr) : MP C E X pos (some k :: ks) (v :: vs) (pCons mk mv mr) := by
  obtain ⟨trs, hp, ht⟩ := hr
  refine ⟨_, pps_cons hk hv hp, fun σ H Q ⟨O, ρ, Γ, j, S, h⟩ => ?_⟩
  refine ⟨O, ρ, Γ, j, S, Post.imp (Post.bind S h) fun d j1 ρ1 H1 k1 S1 q x hx => ?_⟩
  refine ⟨O, ρ1, Γ, j1, S1, Post.imp (Post.bind S1 q) fun e j2 ρ2 H2 k2 S2 q2 y hy => ?_⟩
  refine ht σ H2 _ ⟨O, ρ2, Γ, j2, S2, Post.imp (Post.bind S2 q2) fun r j3 ρ3 H3 k3 S3 q3 ps hps => ?_⟩
  exact Post.now S3 q3 _ (.cons ((k3.step O).den ((k2.step O).den hx)) ((k3.step O).den hy) hps)
/-- {k: v, ..} -/
def mDsp (mp : Gm → J → R (List (D × D))) : Gm → J → R D := fun Γ j => (mp Γ j).nox.bind fun ds j => bif (ds.all fun p => isKey p.1) && decide (ds.length ≤ 15) then .ok (.dct (mergeD [] ds)) j else .bad
theorem mn_dsp {keys : List (Option Expr)} {values : List Expr} {mp : Gm → J → R (List (D × D))} (h : MP C E X pos keys values mp) (hall : keys.all (·.isSome) = true := by rfl) (hl : keys.length = values.length := by rfl) (h0 : keys ≠ [] := by exact List.cons_ne_nil _ _) (h15 : keys.length ≤ 15 := by decide) :
    MN C E X (.Dict keys values pos) (mDsp mp) := by
  obtain ⟨trs, hp, ht⟩ := h
  refine PE.imp (pe_disp hp hall hl h0 h15) fun σ H Q ⟨O, ρ, Γ, j, S, h⟩ p hp => ?_
  have S0 := S.more (o := .dK []) hp
  refine ht σ _ _ ⟨_, ρ, Γ, j, S0, ?_⟩
  unfold mDsp at h
  revert h
  generalize mp Γ j = r
  intro h
  cases r with
  | exc c fs j1 => exact h.elim
  | bad => exact h.elim
  | ok ds j1 =>
    refine fun ρ1 H1 k1 S1 ps hps => ?_
    have np : p ∉ ρ1 := fun z => by
      rcases k1.frs p z with w | w
      · obtain ⟨o, e⟩ := S.st.rtr p w; rw [hp] at e; cases e
      · rw [upd_same] at w; cases w
    have h1 : H1 p = some (.dK []) := k1.keep _ _ (fun z => by obtain ⟨o, e⟩ := S.st.rtr p z.mem; rw [hp] at e; cases e) nt_dK upd_same
    have h : Post C E O σ Γ ρ j H (bif (ds.all fun p => isKey p.1) && decide (ds.length ≤ 15) then .ok (D.dct (mergeD [] ds)) j1 else .bad) _ := h
    cases m : ((ds.all fun p => isKey p.1) && decide (ds.length ≤ 15)) with
    | false => rw [m] at h; exact h.elim
    | true =>
      rw [m] at h
      obtain ⟨m1, m2⟩ := Bool.and_eq_true_iff.mp m
      obtain ⟨kvs, e, r⟩ := hps.keys m1
      refine ⟨h1, kvs, e, by rw [r.length]; exact of_decide_eq_true m2, ?_⟩
      have nO : ¬ O p := fun z => S.fresh hp (.inl z)
      have s2 : Sto C.b O ρ1 (rem H1 p) j1 := S1.st.rem nO np h1 ⟨nt_dK, fun _ z => by cases z⟩
      have k2 := Kp.rem hp k1
      have P : Pres (Bo (fun a => O a ∨ a = p) ρ1 j1) H1 (rem H1 p) := ⟨fun a o n _ e => by rw [rem_ne (fun z => n (.inl (.inr z)))]; exact e, fun a ps e => ⟨ps, by rw [rem_ne (fun z => by rw [z, h1] at e; cases e)]; exact e⟩⟩
      have q := h ρ1 (rem H1 p) k2 (S.keep k2 s2) p (.dK (mergeK [] kvs)) rem_same (fun _ _ z => by cases z) fun ρ2 B2 f => ⟨_, upd_same, DenK.merge .nil (r.map fun v d z => f v d ((z.mono P Pfx.refl).less fun b w => .inl (w.imp .inl id)))⟩
      rw [upd_rem] at q
      exact q
/-! ### d[k] -/
def rDG : R2 := fun x y H Q => ∃ a v, x = .ref a ∧ DGet H a y (some v) ∧ Q v H
def keyT : D → Bool
  | .tup ks => keyP ks
  | _ => false
/-- what a dict has at a key -/
def getK : D → D → Option (Option D)
  | .dct es, k => bif isKey k then some (lkD k es) else none
  | .fdc es, k => bif isKey k then some (lkD k es) else none
  | .tdc es, k => bif keyT k then some (lkD k es) else none
  | .ftc es, k => bif keyT k then some (lkD k es) else none
  | _, _ => none
def fDx (d k : D) : Option D := match getK d k with
  | some (some z) => some z
  | _ => none
theorem isKey_cases {k : D} (h : isKey k = true) : (∃ i, k = .int i) ∨ ∃ x, k = .str x := by
  cases k with
  | int i => exact .inl ⟨i, rfl⟩
  | str x => exact .inr ⟨x, rfl⟩
  | _ => cases h
theorem DGet.kR {H : Hp} {a : Addr} {kvs : List (Key × V)} {k : Key} (e : Rd H a (.dK kvs)) : DGet H a (kV k) (valV kvs k) := .inl ⟨kvs, k, e, rfl, rfl⟩
theorem den_key {c : Cb} {ρ : List Addr} {H : Hp} {B : Addr → Prop} {v : V} {k : D} (h : Vw c ρ H B v k) (hk : isKey k = true) : v = kV (keyOf k) := by
  cases h with
  | of h => cases h <;> first | rfl | cases hk
  | _ => cases hk
/-- a tuple of two keys -/
theorem den_tkey {c : Cb} {ρ : List Addr} {H : Hp} {B : Addr → Prop} {v : V} {k : D} (h : Vw c ρ H B v k) (hk : keyT k = true) : ∃ (k1 k2 : Key) (b : Addr), k = .tup [keyD k1, keyD k2] ∧ v = .ref b ∧ H b = some (.tup ([k1, k2].map kV)) := by
  cases k with
  | tup ks =>
    have hk : keyP ks = true := hk
    match ks, hk with
    | [x, y], hk =>
      have hk := Bool.and_eq_true_iff.mp (show (isKey x && isKey y) = true from hk)
      have hk' : keyP [x, y] = true := Bool.and_eq_true_iff.mpr hk
      cases h with
      | of h =>
        cases h with
        | tupK _ kp _ => rw [hk'] at kp; cases kp
        | tup h _ r =>
          cases r with
          | cons r1 r =>
            cases r with
            | cons r2 r =>
              cases r
              have e1 := den_key (.of r1) hk.1
              have e2 := den_key (.of r2) hk.2
              subst e1 e2
              exact ⟨keyOf x, keyOf y, _, by rw [keyD_of hk.1, keyD_of hk.2], rfl, h⟩
  | _ => cases hk
theorem DGet.tR {H : Hp} {a b : Addr} {kvs : List (List Key × V)} {k : List Key} (e : Rd H a (.dT kvs)) (eb : H b = some (.tup (k.map kV))) : DGet H a (.ref b) (valV kvs k) := .inr ⟨kvs, k, b, e, rfl, eb, rfl⟩
def OvD (c : Cb) (ρ : List Addr) (H : Hp) (B : Addr → Prop) : Option D → Option V → Prop
  | none, ov => ov = none
  | some z, ov => ∃ v, ov = some v ∧ Den c ρ H B v z
theorem getK_ok {c : Cb} {ρ : List Addr} {H : Hp} {B : Addr → Prop} {x y : V} {d e : D} {o : Option D} (hx : Vw c ρ H B x d) (hy : Vw c ρ H B y e) (h : getK d e = some o) :
    ∃ a, x = .ref a ∧ IsD H a ∧ ∃ ov, DGet H a y ov ∧ OvD c ρ H B o ov := by
  have kk : ∀ {a : Addr} {kvs : List (Key × V)} {es : List (D × D)}, x = .ref a → Rd H a (.dK kvs) → DenK c ρ H B kvs es → (bif isKey e then some (lkD e es) else none) = some o → ∃ a, x = .ref a ∧ IsD H a ∧ ∃ ov, DGet H a y ov ∧ OvD c ρ H B o ov := by
    intro a kvs es e1 hr r h
    cases hk : isKey e with
    | false => rw [hk] at h; cases h
    | true =>
      rw [hk] at h
      have h : some (lkD e es) = some o := h
      cases h
      refine ⟨a, e1, .inl ⟨_, hr⟩, valV kvs (keyOf e), by rw [den_key hy hk]; exact DGet.kR hr, ?_⟩
      have ek := keyD_of hk
      cases q : lkD e es with
      | none => exact r.lookN (k := keyOf e) (by rw [ek]; exact q)
      | some z => exact r.look (k := keyOf e) (by rw [ek]; exact q)
  have kt : ∀ {a : Addr} {kvs : List (List Key × V)} {es : List (D × D)}, x = .ref a → Rd H a (.dT kvs) → DenT c ρ H B kvs es → (bif keyT e then some (lkD e es) else none) = some o → ∃ a, x = .ref a ∧ IsD H a ∧ ∃ ov, DGet H a y ov ∧ OvD c ρ H B o ov := by
    intro a kvs es e1 hr r h
    cases hk : keyT e with
    | false => rw [hk] at h; cases h
    | true =>
      rw [hk] at h
      have h : some (lkD e es) = some o := h
      cases h
      obtain ⟨k1, k2, b, e2, e3, hb⟩ := den_tkey hy hk
      subst e2 e3
      refine ⟨a, e1, .inr ⟨_, hr⟩, valV kvs [k1, k2], DGet.tR hr hb, ?_⟩
      cases q : lkD (.tup [keyD k1, keyD k2]) es with
      | none => exact r.lookN q
      | some z => exact r.look q
  cases d with
  | dct es => obtain ⟨a, kvs, e1, hr, r⟩ := hx.dctAt; exact kk e1 hr r h
  | fdc es => obtain ⟨a, o', kvs, e1, hr, r⟩ := hx.fdcAt; exact kk e1 (.inr ⟨o', hr⟩) r h
  | tdc es => obtain ⟨a, kvs, e1, hr, r⟩ := hx.tdcAt; exact kt e1 (.inl hr) r h
  | ftc es => obtain ⟨a, o', kvs, e1, hr, r⟩ := hx.ftcAt; exact kt e1 (.inr ⟨o', hr⟩) r h
  | _ => cases h
theorem od_dx {c : Cb} : OpD c rDG fDx := fun ρ B H x y d e z Q ht hx hy hz k => by
  unfold fDx at hz
  split at hz
  · rename_i z' q
    cases hz
    obtain ⟨a, e1, _, ov, g, v, e2, hv⟩ := getK_ok hx hy q
    subst e1 e2
    exact ⟨a, v, rfl, g, k v H Ext.refl hv⟩
  · cases hz
theorem me_dx {a b : Expr} (hu : X.A.units + 64 < cLine) (ha : ME C E X a ma) (hb : ME C E X b mb) (hs : NoSl b := by exact fun _ _ => rfl) : ME C E X (.Subscript a b pos) (m2 fDx ma mb) :=
  PE.imp (pe_dget (by omega) ha hb hs) fun _ _ _ h => me_two od_dx (fun _ _ _ q => q) (fun _ _ _ q => q) h
/-! x[k], x a thing of one's own or of the store -/
def mOx (f : D → D → Option D) (i : Nat) (mb : Gm → J → R D) : Gm → J → R D := fun Γ j => match conG i Γ j with
  | some _ => (mb Γ j).bind fun e j => (match conG i Γ j with
    | some c => lift (f c (deref j e)) j
    | none => .bad)
  | none => .bad
theorem ox_two {r : R2} {f : D → D → Option D} (hf : OpD C.b r f) {σ : L2.St} {H : Hp} {Q : VK} {tb : TE}
    (hb : ∀ σ H Q, St0 C E mb σ H (fun O d j' ρ' H' => ∀ v, Den C.b ρ' H' (Bo O ρ' j') v d → Q v H') → tb σ H Q)
    (h : St0 C E (mOx f i mb) σ H fun O d j' ρ' H' => ∀ v, Den C.b ρ' H' (Bo O ρ' j') v d → Q v H') : tOp r (tVar i) tb σ H Q := by
  obtain ⟨O, ρ, Γ, j, S, h⟩ := h
  unfold mOx at h
  split at h
  · rename_i c0 hc0
    obtain ⟨l, e1, _⟩ := S.con hc0
    refine ⟨.ref l, e1, hb σ H _ ⟨O, ρ, Γ, j, S, Post.imp (Post.bind S h) fun e j2 ρ2 H2 k2 S2 q2 u hu => ?_⟩⟩
    split at q2
    · rename_i c hc
      obtain ⟨l', e1', r⟩ := S2.con hc
      rw [e1] at e1'
      cases e1'
      obtain ⟨z, hz, q3⟩ := post_lift S2 q2
      exact hf ρ2 (Bo O ρ2 j2) H2 _ u _ _ z _ S2.trkB r.vw (S2.st.view hu) hz q3
    · exact q2.elim
  · exact h.elim
theorem me_ox {x : Str} {px : Pos} {r : R2} {f : D → D → Option D} (hr : IxR X r) (hf : OpD C.b r f) (hv : PE X (.Name x px) (tVar i)) (hb : ME C E X b mb) (hs : PlainIx b := by exact fun _ _ => rfl) : ME C E X (.Subscript (.Name x px) b pos) (mOx f i mb) :=
  PE.imp (pe_ix hr hv hb hs) fun _ _ _ h => ox_two hf (fun _ _ _ q => q) h
theorem me_odx {x : Str} {px : Pos} (hu : X.A.units + 64 < cLine) (hv : PE X (.Name x px) (tVar i)) (hb : ME C E X b mb) (hs : NoSl b := by exact fun _ _ => rfl) : ME C E X (.Subscript (.Name x px) b pos) (mOx fDx i mb) :=
  PE.imp (pe_dget (by omega) hv hb hs) fun _ _ _ h => ox_two od_dx (fun _ _ _ q => q) h
/-! ### x[k] = e of a dict; of two keys at once -/
/-- a dict with one more entry, or another value -/
def putKD : D → D → D → Option D
  | .dct es, k, d => bif isKey k && decide (es.length < 100000) then some (.dct (putDK es k d)) else none
  | .tdc es, k, d => bif keyT k && decide (es.length < 100000) then some (.tdc (putDK es k d)) else none
  | _, _, _ => none
def dputG (i : Nat) (Γ : Gm) (j : J) (k d : D) : RS := match conG i Γ j with
  | some c => (match putKD c k d with
    | some c' => muG i Γ j c'
    | none => .bad)
  | none => .bad
theorem putKD_ok {c : Cb} {ρ : List Addr} {H : Hp} {B : Addr → Prop} {p : Addr} {u v : V} {d0 k d d1 : D} (h : Cnt c ρ H B p d0) (hk : Den c ρ H B u k) (hd : Den c ρ H B v d) (e : putKD d0 k d = some d1) :
    ∃ o, DPut H p u v (upd H p o) ∧ (∀ c fs, d1 ≠ .ins c fs) ∧ ∀ (ρ2 : List Addr) (B2 : Addr → Prop), (∀ v e, Den c ρ H B v e → Den c ρ2 (upd H p o) B2 v e) → Cnt c ρ2 (upd H p o) B2 p d1 := by
  unfold putKD at e
  split at e
  · rename_i es
    cases m : (isKey k && decide (es.length < 100000)) with
    | false => rw [m] at e; cases e
    | true =>
      rw [m] at e
      have e : some (D.dct (putDK es k d)) = some d1 := e
      cases e
      obtain ⟨m1, m2⟩ := Bool.and_eq_true_iff.mp m
      have m2 := of_decide_eq_true m2
      obtain ⟨kvs, hp, r⟩ := h
      have eu : u = kV (keyOf k) := den_key (.of hk) m1
      refine ⟨.dK (putK kvs (keyOf k) v), by rw [eu]; exact DPut.k hp (Nat.lt_of_lt_of_le (by rw [r.length]; exact m2) (by rw [sizeLine_eq]; omega)), (fun _ _ z => by cases z), fun ρ2 B2 f => ⟨_, upd_same, ?_⟩⟩
      have := DenK.put (k := keyOf k) (f _ _ hd) (r.map f)
      rw [keyD_of m1] at this
      exact this
  · rename_i es
    cases m : (keyT k && decide (es.length < 100000)) with
    | false => rw [m] at e; cases e
    | true =>
      rw [m] at e
      have e : some (D.tdc (putDK es k d)) = some d1 := e
      cases e
      obtain ⟨m1, m2⟩ := Bool.and_eq_true_iff.mp m
      have m2 := of_decide_eq_true m2
      obtain ⟨kvs, hp, r⟩ := h
      obtain ⟨k1, k2, b, e2, e3, hb⟩ := den_tkey (.of hk) m1
      subst e2 e3
      refine ⟨.dT (putK kvs [k1, k2] v), DPut.t hp hb (Nat.lt_of_lt_of_le (by rw [r.length]; exact m2) (by rw [sizeLine_eq]; omega)), (fun _ _ z => by cases z), fun ρ2 B2 f => ⟨_, upd_same, DenT.put (f _ _ hd) (r.map f)⟩⟩
  · cases e
/-- what is put -/
theorem Sok.dput {O : Addr → Prop} {ρ : List Addr} {σ : L2.St} {H : Hp} {Γ : Gm} {j : J} {k d : D} {u v : V} {l : Addr} {Dn : Ends} (S : Sok C O ρ σ H Γ j) (e1 : σ[i]? = some (some (.ref l))) (hk : Den C.b ρ H (Bo O ρ j) u k) (hd : Den C.b ρ H (Bo O ρ j) v d) (q : PostS C E ρ (Bo O ρ j) H (dputG i Γ j k d) Dn) :
    ∃ H', DPut H l u v H' ∧ Dn.nx σ H' := by
  unfold dputG at q
  split at q
  · rename_i c hc
    split at q
    · rename_i c' hp
      obtain ⟨l', e1', r⟩ := S.con hc
      rw [e1] at e1'
      cases e1'
      obtain ⟨o, g, ni, cn⟩ := putKD_ok r hk hd hp
      exact ⟨_, g, S.mu (d' := c') hc e1 (fun f => cn _ _ f) (fun a b z => (ni a b z).elim) q⟩
    · exact q.elim
  · exact q.elim
def sDput (i : Nat) (mk me : Gm → J → R D) : Gm → J → RS := fun Γ j => (me Γ j).bindS Γ fun d j => match conG i Γ j with
  | some _ => (mk Γ j).bindS Γ fun k j => dputG i Γ j k d
  | none => .bad
theorem ms_dput {k : Expr} {mk : Gm → J → R D} {x : Str} {px apos : Pos} (hu : X.A.units + 64 < cLine) (hv : PE X (.Name x px) (tVar i)) (hk : ME C E X k mk) (he : ME C E X e me)
    (ha : ∀ v, assign (.Subscript (.Name x px) k apos) X.env v = (do
      let ov ← holding [v] (eval (.Name x px) X.env)
      let iv ← holding [v, ov] (eval k X.env)
      standAt apos
      holding [v, ov, iv] (setItem ov iv v)
      release [v, ov, iv] []) := by intro _; rfl)
    (hs : swapsWithSole [.Subscript (.Name x px) k apos] e pos.line X.env = pure false := by rfl) (hw : swappedStores [.Subscript (.Name x px) k apos] e X.env = pure none := by rfl)
    (h1 : (assignEach [.Subscript (.Name x px) k apos] X.env).map (·.2) = [assign (.Subscript (.Name x px) k apos) X.env] := by rfl) :
    MS C E X (.Assign [.Subscript (.Name x px) k apos] e pos) (sDput i mk me) :=
  PS.imp (ps_asg he (pg_sub hv hk (set_dict (by omega)) ha) hs hw h1) fun Dn σ H ⟨O, ρ, Γ, j, S, h⟩ => ⟨O, ρ, Γ, j, S, Post.imp (PostS.of S h) fun d j1 ρ1 H1 k1 S1 q v hv => by
    split at q
    · rename_i d0 hc0
      obtain ⟨l, e1, _⟩ := S1.con hc0
      refine ⟨.ref l, e1, O, ρ1, Γ, j1, S1, Post.imp (PostS.of S1 q) fun n j2 ρ2 H2 k2 S2 q2 u hu => ?_⟩
      obtain ⟨H', g, q3⟩ := S2.dput e1 hu ((k2.step O).den hv) q2
      exact ⟨l, H', rfl, g, q3⟩
    · exact q.elim⟩
/-- o[k] = e, o a thing of the store -/
def putE : D → D → D → Option D
  | .lst ds, k, d => (match k with
    | .int k => (ixN ds.length k).map fun w => .lst (ds.set w d)
    | _ => none)
  | c, k, d => putKD c k d
def sPutE (mo mk me : Gm → J → R D) : Gm → J → RS := fun Γ j => (me Γ j).bindS Γ fun d j => (mo Γ j).bindS Γ fun o j => (mk Γ j).bindS Γ fun k j => match o with
  | .loc n => (match j[n]? with
    | some (some c) => (match putE c k d with
      | some c' => .nx Γ (j.set n (some c'))
      | none => .bad)
    | _ => .bad)
  | _ => .bad
def rSetU : TSet := fun o i v H Q => rSetL o i v H Q ∨ rSetD o i v H Q
theorem set_U (hu : X.A.units + 1 < cLine) : PSet X rSetU := fun pins s σ H o i v ov iv u Q I ro ri rv h => h.elim (set_list pins s σ H o i v ov iv u Q I ro ri rv) (set_dict hu pins s σ H o i v ov iv u Q I ro ri rv)
theorem putE_ok {c : Cb} {ρ : List Addr} {H : Hp} {B : Addr → Prop} {p : Addr} {u v : V} {d0 k d d1 : D} (h : Cnt c ρ H B p d0) (hk : Den c ρ H B u k) (hd : Den c ρ H B v d) (e : putE d0 k d = some d1) :
    ∃ o, (∀ Q, Q (upd H p o) → rSetU (.ref p) u v H Q) ∧ ∀ (ρ2 : List Addr) (B2 : Addr → Prop), (∀ v e, Den c ρ H B v e → Den c ρ2 (upd H p o) B2 v e) → Cnt c ρ2 (upd H p o) B2 p d1 := by
  unfold putE at e
  split at e
  · rename_i ds
    split at e
    · rename_i i
      obtain ⟨w, hw, rfl⟩ := Option.map_eq_some_iff.mp e
      obtain ⟨xs, hp, r⟩ := h
      cases hk
      exact ⟨.lst (xs.set w v), fun Q q => .inl ⟨p, xs, i, w, rfl, rfl, hp, by rw [r.length]; exact hw, q⟩, fun ρ2 B2 f => ⟨_, upd_same, (DenA.set hd w r).map f⟩⟩
    · cases e
  · obtain ⟨o, g, _, cn⟩ := putKD_ok h hk hd e
    exact ⟨o, fun Q q => .inr ⟨p, _, rfl, g, q⟩, cn⟩
theorem ms_putE {k : Expr} {mk mo : Gm → J → R D} {apos : Pos} (hu : X.A.units + 64 < cLine) (ho : ME C E X o mo) (hk : ME C E X k mk) (he : ME C E X e me)
    (ha : ∀ v, assign (.Subscript o k apos) X.env v = (do
      let ov ← holding [v] (eval o X.env)
      let iv ← holding [v, ov] (eval k X.env)
      standAt apos
      holding [v, ov, iv] (setItem ov iv v)
      release [v, ov, iv] []) := by intro _; rfl)
    (hs : swapsWithSole [.Subscript o k apos] e pos.line X.env = pure false := by rfl) (hw : swappedStores [.Subscript o k apos] e X.env = pure none := by rfl)
    (h1 : (assignEach [.Subscript o k apos] X.env).map (·.2) = [assign (.Subscript o k apos) X.env] := by rfl) :
    MS C E X (.Assign [.Subscript o k apos] e pos) (sPutE mo mk me) :=
  PS.imp (ps_asg he (pg_sub ho hk (set_U (by omega)) ha) hs hw h1) fun Dn σ H ⟨O, ρ, Γ, j, S, h⟩ => ⟨O, ρ, Γ, j, S, Post.imp (PostS.of S h) fun d j1 ρ1 H1 k1 S1 q v hv =>
    ⟨O, ρ1, Γ, j1, S1, Post.imp (PostS.of S1 q) fun c j2 ρ2 H2 k2 S2 q2 x hx => ⟨O, ρ2, Γ, j2, S2, Post.imp (PostS.of S2 q2) fun n j3 ρ3 H3 k3 S3 q3 u hu => by
      split at q3
      · rename_i n
        cases hx with
        | loc hr =>
          split at q3
          · rename_i c0 hn
            split at q3
            · rename_i c1 hp
              obtain ⟨b, eb, r⟩ := S3.st.sto n _ hn
              have := k3.pfx _ _ hr
              rw [this] at eb
              cases eb
              obtain ⟨o, g, cn⟩ := putE_ok r hu ((k3.step O).den ((k2.step O).den hv)) hp
              refine g _ ?_
              obtain ⟨s4, k4⟩ := S3.st.put (d' := c1) (o := o) hn this fun f => cn _ _ f
              exact q3 O ρ3 σ _ (k4.step O) (S3.keep k4 s4)
            · exact q3.elim
          · exact q3.elim
      · exact q3.elim⟩⟩⟩
/-- x[k1], x[k2] = a tuple of two -/
def sDput2 (i : Nat) (mk ml me : Gm → J → R D) : Gm → J → RS := fun Γ j => (me Γ j).bindS Γ fun t j => match t with
  | .tup [d1, d2] => (match conG i Γ j with
    | some _ => (mk Γ j).bindS Γ fun k j => (dputG i Γ j k d1).bindS fun Γ j => (match conG i Γ j with
      | some _ => (ml Γ j).bindS Γ fun k j => dputG i Γ j k d2
      | none => .bad)
    | none => .bad)
  | _ => .bad
theorem ms_dput2 {k1e k2e : Expr} {mk ml : Gm → J → R D} {x : Str} {px py a1 a2 tp : Pos} {kt : Nat} (hK : X.K = C.b.K) (hu : X.A.units + 64 < cLine) (hc : X.calm = true) (hx : PE X (.Name x px) (tVar i)) (hy : PE X (.Name x py) (tVar i)) (hk : ME C E X k1e mk) (hl : ME C E X k2e ml) (he : ME C E X e me)
    (ha : ∀ v, assign (.Subscript (.Name x px) k1e a1) X.env v = (do
      let ov ← holding [v] (eval (.Name x px) X.env)
      let iv ← holding [v, ov] (eval k1e X.env)
      standAt a1
      holding [v, ov, iv] (setItem ov iv v)
      release [v, ov, iv] []) := by intro _; rfl)
    (hb : ∀ v, assign (.Subscript (.Name x py) k2e a2) X.env v = (do
      let ov ← holding [v] (eval (.Name x py) X.env)
      let iv ← holding [v, ov] (eval k2e X.env)
      standAt a2
      holding [v, ov, iv] (setItem ov iv v)
      release [v, ov, iv] []) := by intro _; rfl)
    (hn : (assignEach [.Subscript (.Name x px) k1e a1, .Subscript (.Name x py) k2e a2] X.env).length = 2 := by rfl) (hst : (assignEach [.Subscript (.Name x px) k1e a1, .Subscript (.Name x py) k2e a2] X.env).findIdx? (·.1) = none := by rfl)
    (hs1 : (assignEach [.Subscript (.Name x px) k1e a1, .Subscript (.Name x py) k2e a2] X.env).map (·.2) = assign (.Subscript (.Name x px) k1e a1) X.env :: (assignEach [.Subscript (.Name x py) k2e a2] X.env).map (·.2) := by rfl)
    (hs2 : (assignEach [.Subscript (.Name x py) k2e a2] X.env).map (·.2) = assign (.Subscript (.Name x py) k2e a2) X.env :: (assignEach [] X.env).map (·.2) := by rfl)
    (hs : swapsWithSole [.Tuple [.Subscript (.Name x px) k1e a1, .Subscript (.Name x py) k2e a2] kt tp] e pos.line X.env = pure false := by rfl) (hw : swappedStores [.Tuple [.Subscript (.Name x px) k1e a1, .Subscript (.Name x py) k2e a2] kt tp] e X.env = pure none := by rfl)
    (h1 : (assignEach [.Tuple [.Subscript (.Name x px) k1e a1, .Subscript (.Name x py) k2e a2] kt tp] X.env).map (·.2) = [assign (.Tuple [.Subscript (.Name x px) k1e a1, .Subscript (.Name x py) k2e a2] kt tp) X.env] := by rfl) :
    MS C E X (.Assign [.Tuple [.Subscript (.Name x px) k1e a1, .Subscript (.Name x py) k2e a2] kt tp] e pos) (sDput2 i mk ml me) :=
  PS.imp (ps_asg he (pg_tup hc (pgs_cons (pg_sub hx hk (set_dict (by omega)) ha) (pgs_cons (pg_sub hy hl (set_dict (by omega)) hb) pgs_nil hs2) hs1) hn hst) hs hw h1) fun Dn σ H ⟨O, ρ, Γ, j, S, h⟩ => ⟨O, ρ, Γ, j, S, Post.imp (PostS.of S h) fun t j1 ρ1 H1 k1 S1 q v hv => by
    split at q
    · rename_i d1 d2
      obtain ⟨a, xs, rfl, hsq, hr⟩ := (Vw.of hv).tupSq
      cases hr with
      | @cons v1 _ _ _ r1 r =>
        cases r with
        | @cons v2 _ _ _ r2 r =>
          cases r
          split at q
          · rename_i c0 hc0
            obtain ⟨l, e1, _⟩ := S1.con hc0
            refine ⟨a, _, rfl, by rw [hK]; exact hsq, rfl, v1, [v2], rfl, .ref l, e1, O, ρ1, Γ, j1, S1, Post.imp (PostS.of S1 q) fun k j2 ρ2 H2 k2 S2 q2 u hu => ?_⟩
            let Dn1 : Ends := { Dn with nx := fun σ' H' => gCons (gSub (tVar i) (fun σ H Q => St0 C E ml σ H fun O d j' ρ' H' => ∀ v, Den C.b ρ' H' (Bo O ρ' j') v d → Q v H') rSetD) gNil [v2] σ' H' Dn.nx }
            have q3 : PostS C E ρ2 (Bo O ρ2 j2) H2 (dputG i Γ j2 k d1) Dn1 := by
              revert q2
              generalize dputG i Γ j2 k d1 = rr
              intro q2
              cases rr with
              | nx Γ3 j3 =>
                intro O' ρ' σ' H' st S'
                have q2 := PostS.shift st q2
                unfold RS.bindS at q2
                dsimp only at q2
                split at q2
                · rename_i c3 hc3
                  obtain ⟨l3, e3, _⟩ := S'.con hc3
                  refine ⟨v2, [], rfl, .ref l3, e3, O', ρ', Γ3, j3, S', Post.imp (PostS.of S' q2) fun k' j4 ρ4 H4 k4 S4 q4 u' hu' => ?_⟩
                  obtain ⟨H5, g, q5⟩ := S4.dput e3 hu' ((k4.step O').den (st.den ((k2.step O).den r2))) q4
                  exact ⟨l3, H5, rfl, g, rfl, q5⟩
                · exact q2.elim
              | ret d j1 => exact q2
              | brk Γ1 j1 => exact q2
              | cont Γ1 j1 => exact q2
              | exc c fs Γ1 j1 => exact q2
              | bad => exact q2
            obtain ⟨H', g, q4⟩ := S2.dput e1 hu ((k2.step O).den r1) q3
            exact ⟨l, H', rfl, g, q4⟩
          · exact q.elim
    · exact q.elim⟩
end
end On

set_option Elab.async false
set_option linter.all false
set_option maxRecDepth 100000
set_option maxHeartbeats 2000000
set_option autoImplicit false
namespace On
open PySem PySem.Spec PyProof.Rows L2
/-! ### d.get(k, x) -/
def isDc : D → Bool
  | .dct _ => true
  | .fdc _ => true
  | .tdc _ => true
  | .ftc _ => true
  | _ => false
theorem isDc_ok {c : Cb} {ρ : List Addr} {H : Hp} {B : Addr → Prop} {x : V} {d : D} (hx : Vw c ρ H B x d) (h : isDc d = true) : ∃ a, x = .ref a ∧ IsD H a := by
  cases d with
  | dct es => obtain ⟨a, kvs, e1, hr, r⟩ := hx.dctAt; exact ⟨a, e1, .inl ⟨_, hr⟩⟩
  | fdc es => obtain ⟨a, o', kvs, e1, hr, r⟩ := hx.fdcAt; exact ⟨a, e1, .inl ⟨_, .inr ⟨o', hr⟩⟩⟩
  | tdc es => obtain ⟨a, kvs, e1, hr, r⟩ := hx.tdcAt; exact ⟨a, e1, .inr ⟨_, .inl hr⟩⟩
  | ftc es => obtain ⟨a, o', kvs, e1, hr, r⟩ := hx.ftcAt; exact ⟨a, e1, .inr ⟨_, .inr ⟨o', hr⟩⟩⟩
  | _ => cases h
def mGet (md mk mx : Gm → J → R D) : Gm → J → R D := fun Γ j => (md Γ j).bind fun d j => bif isDc (deref j d) then ((mk Γ j).bind fun k j => (mx Γ j).bind fun x j => match getK (deref j d) (deref j k) with
  | some o => .ok (o.getD x) j
  | none => .bad) else .bad
section
variable {C : Ct} {E : WX} {X : Cx} {a b e f o : Expr} {ma mb me mf m mo md mk mx : Gm → J → R D} {pos apos cpos p : Pos}
theorem me_get (hu : X.A.units + 64 < cLine) (ho : ME C E X o md) (he : ME C E X e mk) (hf : ME C E X f mx) (m : M2 X o "get" apos e f cpos := by exact ⟨rfl, rfl, rfl, rfl⟩) : ME C E X (.Call (.Attribute o "get" apos) [e, f] [] cpos) (mGet md mk mx) :=
  PE.imp (pe_dget2 (by omega) ho he hf m) fun σ H Q ⟨O, ρ, Γ, j, S, h⟩ => ⟨O, ρ, Γ, j, S, Post.imp (Post.bind S h) fun d j1 ρ1 H1 k1 S1 q v hv => by
    cases hi : isDc (deref j1 d) with
    | false => rw [hi] at q; exact q.elim
    | true =>
      rw [hi] at q
      obtain ⟨a, rfl, hd⟩ := isDc_ok (S1.st.view hv) hi
      have q : Post C E O σ Γ ρ1 j1 H1 ((mk Γ j1).bind fun k j => (mx Γ j).bind fun x j => match getK (deref j d) (deref j k) with
        | some o => .ok (o.getD x) j
        | none => .bad) _ := q
      refine ⟨a, rfl, hd, O, ρ1, Γ, j1, S1, Post.imp (Post.bind S1 q) fun k j2 ρ2 H2 k2 S2 q2 y hy => ⟨O, ρ2, Γ, j2, S2, Post.imp (Post.bind S2 q2) fun x j3 ρ3 H3 k3 S3 q3 z hz => ?_⟩⟩
      split at q3
      · rename_i o ho
        obtain ⟨a', e', _, ov, g, r⟩ := getK_ok (S3.st.view ((k3.step O).den ((k2.step O).den hv))) (S3.st.view ((k3.step O).den hy)) ho
        cases e'
        refine ⟨ov, g, ?_⟩
        cases o with
        | none => have r : ov = none := r; subst r; exact Post.now S3 q3 z hz
        | some w => obtain ⟨v, e, hw⟩ := (show ∃ v, ov = some v ∧ Den C.b ρ3 H3 (Bo O ρ3 j3) v w from r); subst e; exact Post.now S3 q3 v hw
      · exact q3.elim⟩
/-! ### texts: split, [i], in, for -/
theorem DenA.strs {c : Cb} {ρ : List Addr} {H : Hp} {B : Addr → Prop} : ∀ (ys : List Str), DenA c ρ H B (ys.map V.str) (ys.map D.str)
  | [] => .nil
  | y :: ys => .cons (.str _) (DenA.strs ys)
def mSplit (mo me : Gm → J → R D) : Gm → J → R D := fun Γ j => (mo Γ j).bind fun d j => match d with
  | .str x => (me Γ j).bind fun e j => (match e with
    | .str b => bif !(b.length == 0) && decide (x.length < 100000) then .ok (.lst ((Txt.split x b).map .str)) j else .bad
    | _ => .bad)
  | _ => .bad
theorem mn_split (ho : ME C E X o mo) (he : ME C E X e me) (hs : starEach [e] X.env = [(false, eval e X.env)] := by rfl) (hbase : attributeBase o "split" X.env (eval o X.env) = eval o X.env := by rfl) (hline : (apos.endLine == pos.line) = true := by rfl) :
    MN C E X (.Call (.Attribute o "split" apos) [e] [] pos) (mSplit mo me) :=
  PE.imp (pe_split ho he hs hbase hline) fun σ H Q ⟨O, ρ, Γ, j, S, h⟩ => ⟨O, ρ, Γ, j, S, Post.imp (Post.bind S h) fun d j1 ρ1 H1 k1 S1 q v hv => by
    split at q
    · rename_i x
      cases hv
      refine ⟨⟨x, rfl⟩, O, ρ1, Γ, j1, S1, Post.imp (Post.bind S1 q) fun k j2 ρ2 H2 k2 S2 q2 y hy => ?_⟩
      split at q2
      · rename_i b
        cases hy
        cases hb : (!(b.length == 0) && decide (x.length < 100000)) with
        | false => rw [hb] at q2; exact q2.elim
        | true =>
          rw [hb] at q2
          obtain ⟨h1, h2⟩ := Bool.and_eq_true_iff.mp hb
          refine ⟨x, b, rfl, rfl, by simpa using h1, ?_, fun p hp => Post.now S2 q2 p _ hp (fun _ _ z => by cases z) fun ρ2 B2 f => ⟨_, upd_same, DenA.strs _⟩⟩
          have := of_decide_eq_true h2
          rw [sizeLine_eq]; omega
      · exact q2.elim
    · exact q.elim⟩
theorem Vw.strAt {c : Cb} {ρ : List Addr} {H : Hp} {B : Addr → Prop} {v : V} {x : Str} (h : Vw c ρ H B v (.str x)) : v = .str x := by
  cases h.den trivial; rfl
theorem Vw.intAt {c : Cb} {ρ : List Addr} {H : Hp} {B : Addr → Prop} {v : V} {x : Int} (h : Vw c ρ H B v (.int x)) : v = .int x := by
  cases h.den trivial; rfl
/-- x[i] of a text -/
def fIxS : D → D → Option D
  | .str z, .int i => if 0 ≤ i ∧ i < 2 ^ 62 ∧ i < z.length then (z.cps[i.toNat]?).map fun c => .str ⟨#[c]⟩ else none
  | _, _ => none
theorem od_ixS {c : Cb} : OpD c (fun x y H Q => ∃ z i c, x = .str z ∧ y = .int i ∧ 0 ≤ i ∧ i < 2 ^ 63 ∧ i < z.length ∧ z.cps[i.toNat]? = some c ∧ Q (.str ⟨#[c]⟩) H) fIxS := fun ρ B H x y d e z Q ht hx hy hz k => by
  unfold fIxS at hz
  split at hz
  · rename_i z i
    split at hz
    · rename_i hi
      obtain ⟨c, hc, e⟩ := Option.map_eq_some_iff.mp hz
      cases e
      cases hx.strAt
      cases hy.intAt
      exact ⟨_, _, c, rfl, rfl, hi.1, by omega, hi.2.2, hc, k _ H Ext.refl (.str _)⟩
    · cases hz
  · cases hz
theorem me_ixS (ha : ME C E X a ma) (hb : ME C E X b mb) (hs : PlainIxT b := by exact fun _ _ => rfl) : ME C E X (.Subscript a b pos) (m2 fIxS ma mb) :=
  PE.imp (pe_item_str ha hb hs) fun _ _ _ h => me_two od_ixS (fun _ _ _ q => q) (fun _ _ _ q => q) h
/-- x in y, both texts -/
def inS : D → D → Option Bool
  | .str i, .str j => some (!(Builtin.Str.occurrences j i 0 j.length 1).isEmpty)
  | _, _ => none
theorem od_inS {c : Cb} : OpD c (fun x y H Q => ∃ i j, x = .str i ∧ y = .str j ∧ Q (.bl (!(Builtin.Str.occurrences j i 0 j.length 1).isEmpty)) H) (obl inS) := fun ρ B H x y d e z Q ht hx hy hz k => by
  unfold obl inS at hz
  split at hz
  · cases hz
    cases hx.strAt
    cases hy.strAt
    exact ⟨_, _, rfl, rfl, k _ H Ext.refl (.bl _)⟩
  · cases hz
def strD (x : Str) : List D := x.cps.toList.map fun c => .str ⟨#[c]⟩
theorem yl_str {x : Str} : Yl C (fun _ _ _ => True) (Its x) (strD x) where
  go := fun i ρ B H _ h => by
    have h : i < x.cps.size := by simpa [strD] using h
    exact h
  yld := fun i ρ B H y H' d _ _ h w => by
    obtain ⟨e, c, hc, rfl⟩ := w
    subst e
    have : d = .str ⟨#[c]⟩ := by
      unfold strD at h
      rw [List.getElem?_map, Array.getElem?_toList, hc] at h
      cases h
      rfl
    subst this
    exact ⟨Ext.refl, .str _⟩
  stop := fun i ρ B H _ h => by
    have h : x.cps.size ≤ i := by simpa [strD] using h
    exact h
  stay := fun _ _ _ _ _ _ _ _ => trivial
def iSt (me : Gm → J → R D) : Gm → J → R (List D) := fun Γ j => (me Γ j).bind fun d j => match d with
  | .str x => .ok (strD x) j
  | _ => .bad
theorem mi_str {tg iter : Expr} (he : ME C E X iter me) : MI C E X tg iter (iSt me) :=
  PI.imp (pi_str he) fun σ H Rr ⟨O, ρ, Γ, j, S, h⟩ => ⟨O, ρ, Γ, j, S, Post.imp (Post.bind S h) fun d j1 ρ1 H1 k1 S1 q v hv => by
    split at q
    · cases hv
      exact ⟨_, rfl, Post.now S1 q _ _ yl_str trivial⟩
    · exact q.elim⟩
end
end On

set_option Elab.async false
set_option linter.all false
set_option maxRecDepth 100000
set_option maxHeartbeats 2000000
set_option autoImplicit false
namespace On
open PySem PySem.Spec PyProof.Rows L2
/-! ### a list times an int -/
def fMulL : D → D → Option D
  | .lst x, .int k => if 0 ≤ k ∧ k ≤ 1000 ∧ x.length ≤ 100 then some (.lst (List.replicate k.toNat x).flatten) else none
  | _, _ => none
theorem od_repL {c : Cb} : OpD c rRep fMulL := fun ρ B H x y d e z Q ht hx hy hz k => by
  unfold fMulL at hz
  split at hz
  · rename_i a n
    by_cases q : 0 ≤ n ∧ n ≤ 1000 ∧ a.length ≤ 100
    · rw [if_pos q] at hz
      cases hz
      cases hy.den trivial
      obtain ⟨l, xs, rfl, h1, r1⟩ := hx.lstRd
      refine ⟨l, n, xs, rfl, rfl, h1, by omega, by omega, ?_, fun p hp => ?_⟩
      · rw [r1.length, sizeLine_eq]
        have : a.length * n.toNat ≤ 100 * 1000 := Nat.mul_le_mul q.2.2 (by omega)
        omega
      · have x0 : Ext H (upd H p (.lst (List.replicate n.toNat xs).flatten)) := Ext.new hp
        exact k _ _ x0 (.lst upd_same (trk_no ht hp) ((r1.rep _).mono x0.pres Pfx.refl))
    · rw [if_neg q] at hz; cases hz
  · cases hz
end On

set_option Elab.async false
set_option linter.all false
set_option maxRecDepth 100000
set_option maxHeartbeats 2000000
set_option autoImplicit false
namespace On
open PySem PySem.Spec PyProof.Rows L2
/-! ### try .. except x as n: the error is told of from then on -/
section
variable {X : Cx} {pins : List (Addr × Obj)} {σ : L2.St} {H : Hp} {s : Shared}
theorem Inv.adopt {a C : Addr} {oe : Obj} {vs : Array Value} {d : Option Addr} {sI : Shared} {σ' : L2.St} {H' : Hp} (I : Inv X pins σ H s) (J : Inv X pins σ' H' sI) (hx : X.ex = []) (hI : sI.heap.get? a = none) (ha : s.heap.get? a = some oe) (hc : oe.cls = .ref C) (hd : oe.dict = d) (hv : oe.data = .fields vs) (na : H a = none) (nL : a ≠ X.env.locals) :
    Inv X pins σ (upd H a (exg a C d)) s := by
  have h0 : ∀ b o, X.s_0.heap.get? b = some o → b ≠ a := fun b o e z => by
    obtain ⟨o', e'⟩ := J.base.there b o e (by rw [hx]; exact List.not_mem_nil)
    rw [z, hI] at e'
    cases e'
  have nH : ∀ {b : Addr} {o : HO}, H b = some o → b ≠ a := fun {b o} e z => by rw [z, na] at e; cases e
  refine ⟨I.ok, I.os, I.bare, ⟨I.base.keep, I.base.slot, fun b o e n hb => ?_, I.base.there, fun b xs e => ?_, fun b o u e => ?_, fun b ps e => ?_⟩, I.loc, I.cell, ?_, fun x c e => ?_, fun p hp => ?_, I.hok.laidN (fun _ _ e => e) na ?_, I.len⟩
  · rw [upd_ne (h0 b o e)]; exact I.base.free b o e n hb
  · rw [upd_ne (nH (I.base.tups b xs e))]; exact I.base.tups b xs e
  · rw [upd_ne (nH (I.base.frzs b o u e))]; exact I.base.frzs b o u e
  · obtain ⟨more, q⟩ := I.base.tbls b ps e
    exact ⟨more, by rw [upd_ne (nH q)]; exact q⟩
  · rw [upd_ne (Ne.symm nL)]; exact I.free
  · have : c ≠ a := fun z => by
      obtain ⟨v, o, h1, h2⟩ := I.cell x c e
      rw [z, ha] at h1
      cases h1
      rw [hv] at h2
      simp at h2
    rw [upd_ne this]
    exact I.freeC x c e
  · obtain ⟨e, n, r⟩ := I.pin p hp
    have : p.1 ≠ a := fun z => by
      obtain ⟨e', _⟩ := J.pin p hp
      rw [z, hI] at e'
      cases e'
    exact ⟨e, by rw [upd_ne this]; exact n, r⟩
  · exact ⟨⟨oe, vs, ha, hc, hd, hv⟩, ⟨oe, ha⟩, fun h1 h2 ⟨o, w, e1, e2⟩ k => ⟨o, w, k _ e1, e2⟩⟩
theorem Inv.suite0 {a : Addr} (I : Inv X pins σ H s) : Inv (X.suite a (X.pn ++ pins)) [] σ H s :=
  ⟨I.ok.suite _ _, I.os, I.bare, I.base, I.loc, I.cell, I.free, I.freeC, fun p hp => I.pin p (by rw [List.append_nil] at hp; exact hp), I.hok, I.len⟩
theorem Inv.unsuite0 {a : Addr} {pn' : List (Addr × Obj)} (I : Inv (X.suite a (X.pn ++ pins)) pn' σ H s) (ok : X.Ok) : Inv X pins σ H s :=
  ⟨ok, I.os, I.bare, I.base, I.loc, I.cell, I.free, I.freeC, fun p hp => I.pin p (List.mem_append_left _ hp), I.hok, I.len⟩
end
/-- what the clause wishes -/
def wOwn (K : PySem.W.Frag) (c : Value) (i : Nat) (ts : TS) (Wout : WX) (D : Ends) : WX := fun cls d σ H =>
  ∃ b C, PySem.W.exmOne K cls c = some b ∧ cls = .ref C ∧ (b = true → ∀ a, H a = none → ts { nx := fun σ' H' => D.nx (σ'.set i none) H', rt := D.rt, bk := fun σ' H' => D.bk (σ'.set i none) H', ct := fun σ' H' => D.ct (σ'.set i none) H' } (σ.set i (some (.ref a))) (upd H a (exg a C d))) ∧
    (b = false → Wout cls d σ H)
section
variable {X : Cx} {x n : Str} {c : Value} {i : Nat} {body suite : List Stmt} {b₀ : Stmt} {np pos pos' : Pos} {tb : WX → TS} {ts : TS} {Wout : WX}
theorem ps_try_own (hx : X.ex = []) (hs : X.stack = X.env :: X.outer) (hf : X.env.frame = some X.env.locals) (hN : X.N.Nodup) (hi : X.N[i]? = some n) (hln : X.env.kindOf n = some .local) (hc : Names X x c) (tk : Takes X Wout)
    (hb : ∀ (W : WX) (pn : List (Addr × Obj)) (xe : Value → Shared → Prop), Takes (X.tr pn xe) W → PassesOwn (model X.prog X.w) X.A X.env xe → PSs (X.tr pn xe) body (tb W))
    (hsu : ∀ (a : Addr) (pn : List (Addr × Obj)), PSs (X.suite a pn) (b₀ :: suite) ts) :
    PS X (.Try body [.ExceptHandler (some (.Name x np)) (some n) (b₀ :: suite) pos'] [] [] pos) (fun D σ H => tb (wOwn X.K c i ts Wout D) D σ H) := by
  refine ⟨fun pins s σ H D I h => ?_⟩
  have ok := I.ok
  have hfr : X.A.frames = some (X.env :: X.outer) := by rw [ok.frames, hs]
  refine wpAny_Try_except (wpAny_mono ((hb (wOwn X.K c i ts Wout D) (X.pn ++ pins) (fun e s₁ => wpAny (model X.prog X.w) X.A (noteFrame e X.env) (fun _ s₂ => wpAny (model X.prog X.w) X.A (setFlight e none) (fun _ s₃ =>
    wpAny (model X.prog X.w) X.A (handleBy e X.env [.ExceptHandler (some (.Name x np)) (some n) (b₀ :: suite) pos']) (SP X pins D) X.xe s₃) X.xe s₂) X.xe s₁) (fun u s' xx => ?_) PassesOwn.looking).run [] s σ H D (I.toTry _) h) (fun f s1 hsp => ?_) (fun e s1 he => he))
  · obtain ⟨a, B, sI, pins', σ', H', cls, d, rfl, J', nb, up, sky, na, os, ag, b, C, hb1, rfl, hyes, hno⟩ := xx
    have J : Inv X pins σ' H' sI := J'.ofTry ok
    have sky' : Sky B (X.env :: X.outer) a (Zc (.ref C) d) X.env.locals s'.heap := by rw [← hs]; exact sky
    show wpAny (model X.prog X.w) X.A (noteFrame (.ref a) X.env) _ _ _
    refine Sky.land Zc.steady hfr hf sky' fun h3 fl3 up3 => ?_
    have J3 : Inv X pins σ' H' { s' with heap := h3 } := J.landed nb fl3.1 (up.trans up3) os ag
    obtain ⟨oe3, vs3, he3, hz3, hd3⟩ := fl3.there
    have nfr : a ∉ frs (X.env :: X.outer) := fun hm => by
      obtain ⟨_, o', e', hnf⟩ := fl3.2.2.1.mem hm
      rw [he3] at e'; cases e'
      exact hnf _ hd3
    have nL : a ≠ X.env.locals := fun z => nfr (List.mem_filterMap.mpr ⟨X.env, List.mem_cons_self, by rw [hf, z]⟩)
    have nF : a ∉ X.fs := fun hm => by
      obtain ⟨e, he, q⟩ := List.mem_filterMap.mp hm
      exact nfr (List.mem_filterMap.mpr ⟨e, List.mem_cons_of_mem _ he, q⟩)
    have nI : sI.heap.get? a = none := by
      cases e : sI.heap.get? a with
      | none => rfl
      | some o =>
        have z := nb a o e (by rw [hs]; exact nfr)
        rw [fl3.2.1] at z
        cases z
    have S3 := J3.suite he3 hd3 na nL nF
    refine wpAny_handleBy_cons (codeAny_handlers_test ?_) (by intro q; cases q)
    have LT : PySem.W.Looks (model X.prog X.w) h3 (typeOf (.ref a)) (.ref C) := fun A Q E s k q => wpAny_typeOf_ref (k _ _ he3) (by rw [hz3.1]; exact q)
    have LM := PySem.W.exm_one (M := model X.prog X.w) (J3.kIn) LT hb1
    have test : ∀ {Q : Value → Shared → Prop} {E : Value → Shared → Prop}, Q c { s' with heap := h3 } → wpAny (model X.prog X.w) (X.A.mark (some (.ref a))) (eval (.Name x np) X.env) Q E { s' with heap := h3 } := fun {Q E} q => by
      obtain ⟨hg, hdbg, hm | ⟨hm, hv, hnn⟩⟩ := hc
      · exact ld_glob (X := X.suite a ((a, oe3) :: (X.pn ++ pins))) S3 hg hm q hdbg
      · exact ld_blt (X := X.suite a ((a, oe3) :: (X.pn ++ pins))) S3 hg hm hv q hnn hdbg
    refine test (LM.here ?_)
    cases b with
    | true =>
      refine codeAny_handlers_suite_as ?_
      refine HandSPX.lands_againZ fl3 fun h4 fl4 up4 => ?_
      have J4 : Inv X pins σ' H' { s' with heap := h4 } := J.landed nb fl4.1 ((up.trans up3).trans up4) os ag
      obtain ⟨oe4, vs4, he4, hz4, hd4⟩ := fl4.there
      have S4 := Inv.suite0 (a := a) (Inv.adopt (C := C) (d := d) J4 J hx nI he4 hz4.1 hz4.2 hd4 na nL)
      refine store_ok (X := X.suite a (X.pn ++ pins)) (v := .ref a) S4 hN hi (.inl hln) rfl (fun s5 S5 => ?_) (.inr hln)
      refine wpAny_mono ((hsu a (X.pn ++ pins)).run [] s5 _ _ _ S5 (hyes rfl a na)) (fun f s6 hsp => ?_) (fun _ _ z => False.elim z)
      have end_ : ∀ {σ6 : L2.St} {H6 : Hp} {Q : Shared → Prop}, Inv (X.suite a (X.pn ++ pins)) [] σ6 H6 s6 → (∀ s7, Inv X pins (σ6.set i none) H6 s7 → Q s7) →
          wpAny (model X.prog X.w) X.A (do bindName X.env n .none; unbindBehindTheSuite X.env n pos') (fun _ s7 => Q s7) X.xe s6 := fun {σ6 H6 Q} S6 hq => gone_ok (Inv.unsuite0 S6 ok) hN hi hln hq
      cases f with
      | next =>
        obtain ⟨σ6, H6, S6, q6⟩ := hsp
        exact end_ S6 fun s7 J7 => ⟨_, _, J7, q6⟩
      | brk =>
        obtain ⟨σ6, H6, S6, q6⟩ := hsp
        exact end_ S6 fun s7 J7 => ⟨_, _, J7, q6⟩
      | cont =>
        obtain ⟨σ6, H6, S6, q6⟩ := hsp
        exact end_ S6 fun s7 J7 => ⟨_, _, J7, q6⟩
      | ret u =>
        obtain ⟨v6, σ6, H6, S6, r6, q6⟩ := hsp
        exact end_ S6 fun s7 J7 => ⟨_, _, _, J7, r6, q6⟩
    | false =>
      show wpAny _ X.A (handleBy (.ref a) X.env []) _ _ _
      refine wpAny_handleBy_nil ?_
      obtain ⟨k1, k2, k3, oe, vs, T, oT, ts', he, hz, hd, h1, hr⟩ := id fl3
      unfold PySem.passOn
      refine wpAny_bind (wpAny_field he hd h1 ?_)
      rw [if_neg (show ¬ ((Value.ref T == Value.none) = true) from by simp)]
      have fin : wpAny (model X.prog X.w) X.A (setFlight (.ref a) X.env.frame) (fun _ s4 => wpAny (model X.prog X.w) X.A (throw (.ref a) : Sem Flow) (SP X pins D) X.xe s4) X.xe { s' with heap := h3 } := by
        rw [hf]
        refine HandSPX.setFlight_upZ fl3 fun h4 hh4 up4 => wpAny_throw (tk _ _ ?_)
        exact ⟨a, B, sI, pins, σ', H', .ref C, d, rfl, J, nb, (up.trans up3).trans up4, .inr (.inr (by rw [hs]; exact hh4)), na, os, ag, hno rfl⟩
      first
        | exact wpAny_bind (wpAny_pure (wpAny_bind fin))
        | exact wpAny_bind fin
  · cases f with
    | next =>
      obtain ⟨σ', H', J', q⟩ := hsp
      exact wpAny_execs_nil ⟨σ', H', J'.ofTry ok, q⟩
    | brk =>
      obtain ⟨σ', H', J', q⟩ := hsp
      exact ⟨σ', H', J'.ofTry ok, q⟩
    | cont =>
      obtain ⟨σ', H', J', q⟩ := hsp
      exact ⟨σ', H', J'.ofTry ok, q⟩
    | ret u =>
      obtain ⟨v, σ', H', J', r, q⟩ := hsp
      exact ⟨v, σ', H', J'.ofTry ok, r, q⟩
end
/-! ### in the layer -/
def RS.unset (i : Nat) : RS → RS
  | .nx Γ j => .nx (Γ.set i none) j
  | .ret d j => .ret d j
  | .brk Γ j => .brk (Γ.set i none) j
  | .cont Γ j => .cont (Γ.set i none) j
  | .exc _ _ _ _ => .bad
  | .bad => .bad
def sTry (f : Nat → Option Bool) (i : Nat) (mb ms : Gm → J → RS) : Gm → J → RS := fun Γ j => match mb Γ j with
  | .exc c fs Γ' j' => (match f c with
    | some true => (ms (Γ'.set i (some (.val (.exn c fs)))) j').unset i
    | some false => .exc c fs Γ' j'
    | none => .bad)
  | r => r
section
variable {C : Ct} {E : WX} {X : Cx} {O : Addr → Prop} {ρ : List Addr} {σ : L2.St} {Γ : Gm} {H : Hp} {j : J}
theorem Sok.unset {i : Nat} (S : Sok C O ρ σ H Γ j) : Sok C O ρ (σ.set i none) H (Γ.set i none) j :=
  S.slots (by simpa using S.len) fun k c h => by
    rcases set_cases h with ⟨rfl, hl, e⟩ | ⟨ne, h⟩
    · cases e
    · exact .inl ⟨h, List.getElem?_set_ne ne⟩
variable {x n : Str} {cv : Value} {i : Nat} {body suite : List Stmt} {b₀ : Stmt} {np pos pos' : Pos} {mb ms : Gm → J → RS} {f : Nat → Option Bool}
theorem ms_try (hx : X.ex = []) (hs : X.stack = X.env :: X.outer) (hf : X.env.frame = some X.env.locals) (hN : X.N.Nodup) (hi : X.N[i]? = some n) (hln : X.env.kindOf n = some .local) (hc : Names X x cv) (tk : Takes X E)
    (hcl : ∀ c b, f c = some b → PySem.W.exmOne X.K (.ref (C.b.cm c)) cv = some b)
    (hb : ∀ (W : WX) (pn : List (Addr × Obj)) (xe : Value → Shared → Prop), Takes (X.tr pn xe) W → PassesOwn (model X.prog X.w) X.A X.env xe → MB C W (X.tr pn xe) body mb)
    (hsu : ∀ (a : Addr) (pn : List (Addr × Obj)), MB C (fun _ _ _ _ => False) (X.suite a pn) (b₀ :: suite) ms) :
    MS C E X (.Try body [.ExceptHandler (some (.Name x np)) (some n) (b₀ :: suite) pos'] [] [] pos) (sTry f i mb ms) :=
  PS.imp (ps_try_own (tb := fun W => tM C W mb) (ts := tM C (fun _ _ _ _ => False) ms) (Wout := E) hx hs hf hN hi hln hc tk hb hsu) fun Dn σ H ⟨O, ρ, Γ, j, S, h⟩ => ⟨O, ρ, Γ, j, S, by
    unfold sTry at h
    revert h
    generalize mb Γ j = r
    intro h
    cases r with
    | nx Γ1 j1 => exact h
    | ret d j1 => exact h
    | brk Γ1 j1 => exact h
    | cont Γ1 j1 => exact h
    | bad => exact h
    | exc c fs Γ1 j1 =>
      intro O' ρ' σ' H' y vs st S' hy ny hfs
      dsimp only at h
      cases e : f c with
      | none => rw [e] at h; exact h.elim
      | some b =>
        rw [e] at h
        cases b with
        | false => exact ⟨false, _, hcl c _ e, rfl, fun z => (by cases z), fun _ => h O' ρ' σ' H' y vs st S' hy ny hfs⟩
        | true =>
          refine ⟨true, _, hcl c _ e, rfl, fun _ a na => ?_, fun z => (by cases z)⟩
          have x0 : Ext H' (upd H' a (exg a (C.b.cm c) (some y))) := Ext.new na
          have ne : y ≠ a := fun z => by rw [z, na] at hy; cases hy
          have S2 := (S'.ext x0).set (i := i) (v := .ref a) (d := .exn c fs) (.exn (.inr upd_same) (S'.fresh na) (by rw [upd_ne ne]; exact hy) ny (hfs.mono x0.pres Pfx.refl))
          refine ⟨O', ρ', _, j1, S2, ?_⟩
          have h := PostS.shift (st.trans ((Ext.keep x0).step O')) h
          revert h
          generalize ms (Γ1.set i (some (.val (.exn c fs)))) j1 = r2
          intro h
          cases r2 with
          | nx Γ2 j2 => exact fun O6 ρ6 σ6 H6 st6 S6 => h O6 ρ6 _ H6 st6 S6.unset
          | ret d j2 => exact h
          | brk Γ2 j2 => exact fun O6 ρ6 σ6 H6 st6 S6 => h O6 ρ6 _ H6 st6 S6.unset
          | cont Γ2 j2 => exact fun O6 ρ6 σ6 H6 st6 S6 => h O6 ρ6 _ H6 st6 S6.unset
          | exc c2 fs2 Γ2 j2 => exact h.elim
          | bad => exact h⟩
end
/-! which classes a clause catches -/
def exmB (K : PySem.W.Frag) (cm : Nat → Addr) (u : Value) : Nat → List Bool → Bool
  | _, [] => true
  | n, b :: r => decide (PySem.W.exmOne K (.ref (cm n)) u = some b) && exmB K cm u (n + 1) r
theorem exmB_ok {K : PySem.W.Frag} {cm : Nat → Addr} {u : Value} : ∀ {l : List Bool} {n i : Nat} {b : Bool}, exmB K cm u n l = true → l[i]? = some b → PySem.W.exmOne K (.ref (cm (n + i))) u = some b
  | [], _, _, _, _, e => by cases e
  | c :: r, n, 0, b, h, e => by cases e; exact of_decide_eq_true (He.ba h).1
  | c :: r, n, i + 1, b, h, e => by
    have := exmB_ok (l := r) (n := n + 1) (i := i) (He.ba h).2 e
    rw [Nat.add_right_comm] at this
    exact this
theorem exm_ok {K : PySem.W.Frag} {cm : Nat → Addr} {u : Value} {n0 : Nat} {l : List Bool} (h : exmB K cm u n0 l = true) (c : Nat) (b : Bool) (e : owLk n0 l c = some b) : PySem.W.exmOne K (.ref (cm c)) u = some b := by
  obtain ⟨h1, h2, h3⟩ := owLk_lt e
  have := exmB_ok h h3
  rwa [show n0 + (c - n0) = c from by omega] at this
end On

set_option Elab.async false
set_option linter.all false
set_option maxRecDepth 100000
set_option maxHeartbeats 2000000
set_option autoImplicit false
namespace On
open PySem PySem.Spec PyProof.Rows L2
/-! ### x == y by an own __eq__ -/
def rOwnEq (K : PySem.W.Frag) (A : Addr) (sp : Sp) : R2 := fun x y H Q => ∃ a dx fs t, x = .ref a ∧ H a = some (.ins A dx fs) ∧ TyX K H y t ∧ PySem.W.notFirst K A t = true ∧ ∀ σ, sp [x, y] H (fun v H' => (∃ b, v = .bl b) ∧ Q v H') (WE (fun _ _ _ _ => False) σ)
section
variable {X : Cx} {A f : Addr} {fd : FuncData} {ps : List Str} {sp : Sp} {k : Nat}
theorem op_own (F : FnG X.prog X.w X.K X.mg X.base (L2.CX X.prog X.w) k f fd ps sp) (hr : Room k X.A) (hgd : X.A.guards = some []) (hb : Binds X.K fd ps []) (hm : Meth X.K A "__eq__" f) : OpR X (compareOp .Eq) (rOwnEq X.K A sp) := by
  rintro pins s σ H x y v u Q I rx ry ⟨a, dx, fs, t, rfl, ha, ty, nf, q⟩
  cases (show v = Value.ref a from rx)
  obtain ⟨mA, J, _⟩ := ins_get I.hok ha
  obtain ⟨od, J, _⟩ := J.look
  obtain ⟨m, hF⟩ := I.fr
  obtain ⟨P, Z, hP, _⟩ := kit_of I ry ty
  show wpAny (model X.prog X.w) X.A (richCompare .Eq (.ref a) u) _ _ _
  refine PySem.W.cmp_K (op := .Eq) (tb := t) hr.units0 hF I.ok.mod.kin J (Z.ty _ _ I.kIn hP) nf hm.at_ hm.fn ?_
  refine wpAny_mono (run_G (us := [.ref a, u]) (vs := [.ref a, y]) (E := fun σ => WE (fun _ _ _ _ => False) σ) F hr hgd hb (passAt takes0 σ) I (.cons rfl (.cons ry .nil)) (q σ)) (fun w s' hw => ?_) fun _ _ x => x
  obtain ⟨z, H', I', rz, ⟨b, rfl⟩, qq⟩ := hw
  cases (show w = Value.bool b from rz)
  exact ⟨.bl b, H', I', rfl, qq⟩
end
def tyNames : List String := ["NoneType", "bool", "int", "str", "list", "tuple", "dict"]
def tyOk (cs : List Nat) : D → Bool
  | .ins n _ => cs.contains n
  | d => (tyN d).isSome
/-- what == asks of the other's class -/
structure NF (c : Cb) (A : Addr) (cs : List Nat) : Prop where
  ty : ∀ t, tyNames.contains t = true → PySem.W.notFirst c.K A (.type t) = true
  ow : ∀ n, cs.contains n = true → IsC c.K (c.cm n) ∧ PySem.W.notFirst c.K A (.ref (c.cm n)) = true
theorem tyX_ok {c : Cb} {A : Addr} {cs : List Nat} (N : NF c A cs) {ρ : List Addr} {H : Hp} {B : Addr → Prop} {v : V} {d : D} (h : Vw c ρ H B v d) (e : tyOk cs d = true) : ∃ t, TyX c.K H v t ∧ PySem.W.notFirst c.K A t = true := by
  cases h with
  | of h =>
    cases h with
    | non => exact ⟨_, .base .non, N.ty _ rfl⟩
    | bl b => exact ⟨_, .base (.bl b), N.ty _ rfl⟩
    | int i => exact ⟨_, .base (.int i), N.ty _ rfl⟩
    | str x => exact ⟨_, .base (.str x), N.ty _ rfl⟩
    | lst h n r => exact ⟨_, .base (.lst h), N.ty _ rfl⟩
    | frz h n r => exact ⟨_, sqL_ty (.inl h), N.ty _ rfl⟩
    | frzK h r => exact ⟨_, sqL_ty (sqLn h), N.ty _ rfl⟩
    | tup h n r => exact ⟨_, sqT_ty (.inl (.inl h)), N.ty _ rfl⟩
    | tupK h _ r => exact ⟨_, sqT_ty (sqTn h), N.ty _ rfl⟩
    | dK h n r =>
      rcases h with h | ⟨o, h⟩
      · exact ⟨_, .base (.dK h), N.ty _ rfl⟩
      · exact ⟨_, .fDict h, N.ty _ rfl⟩
    | dT h n r => exact ⟨_, .base (.dT h), N.ty _ rfl⟩
    | fK h n r => cases e
    | fT h n r => cases e
    | ins h n r =>
      obtain ⟨q, z⟩ := N.ow _ e
      exact ⟨_, .base (.ins h q.cl q.ha q.hn q.ht q.hm), z⟩
    | exn h n hd n2 r => cases e
    | loc _ => cases e
    | cls _ => cases e
  | lst h r => exact ⟨_, .base (.lst h), N.ty _ rfl⟩
  | dK h r => exact ⟨_, .base (.dK h), N.ty _ rfl⟩
  | dT h r => exact ⟨_, .base (.dT h), N.ty _ rfl⟩
  | fK h r => cases e
  | fT h r => cases e
  | ins h r =>
    obtain ⟨q, z⟩ := N.ow _ e
    exact ⟨_, .base (.ins h q.cl q.ha q.hn q.ht q.hm), z⟩
def eqRes (r : R D) : R D := r.nox.bind fun d j => match d with
  | .bl b => .ok (.bl b) j
  | _ => .bad
def mEqO (c : Nat) (cs : List Nat) (g : List D → J → R D) (ma mb : Gm → J → R D) : Gm → J → R D := fun Γ j => (ma Γ j).bind fun d j => (mb Γ j).bind fun e j => match deref j d with
  | .ins n _ => bif (n == c) && tyOk cs (deref j e) then eqRes (g [d, e] j) else .bad
  | _ => .bad
section
variable {C : Ct} {E : WX} {X : Cx} {a b : Expr} {ma mb : Gm → J → R D} {pos : Pos} {c k : Nat} {cs : List Nat} {g : List D → J → R D}
theorem eqRes_post {O : Addr → Prop} {ρ : List Addr} {σ : L2.St} {Γ : Gm} {H : Hp} {j : J} {r : R D} {Q : VK} (h : Post C E O σ Γ ρ j H (eqRes r) fun d j' ρ' H' => ∀ v, Den C.b ρ' H' (Bo O ρ' j') v d → Q v H') :
    Post C (fun _ _ _ _ => False) O σ Γ ρ j H r fun d j' ρ' H' => ∀ v, Den C.b ρ' H' (Bo O ρ' j') v d → (∃ b, v = .bl b) ∧ Q v H' := by
  cases r with
  | bad => exact h
  | exc c fs j => exact h.elim
  | ok d j1 =>
    cases d with
    | bl b => exact fun ρ' H' k S v hv => ⟨by cases hv; exact ⟨b, rfl⟩, h ρ' H' k S v hv⟩
    | _ => exact h.elim
theorem me_eqO (G : Gm1 X.prog X.w C.b X.mg X.base k c "__eq__" (spG C.b g)) (N : NF C.b (C.b.cm c) cs) (hK : X.K = C.b.K) (hr : Room k X.A) (hgd : X.A.guards = some []) (ha : ME C E X a ma) (hb : ME C E X b mb) (hm : behindInMarks .Eq b = false) : ME C E X (.Compare a [.Eq] [b] pos) (mEqO c cs g ma mb) := by
  obtain ⟨f, fd, ps, F, hc, hme, hbi⟩ := G.ex
  rw [← hK] at F hme hbi
  refine PE.imp (pe_cmpR (op_own F hr hgd hbi hme) ha hb hm) fun σ H Q ⟨O, ρ, Γ, j, S, h⟩ => ⟨O, ρ, Γ, j, S, Post.imp (Post.bind S h) fun d j1 ρ1 H1 k1 S1 q x hx => ⟨O, ρ1, Γ, j1, S1, Post.imp (Post.bind S1 q) fun e j2 ρ2 H2 k2 S2 q2 y hy => ?_⟩⟩
  split at q2
  · rename_i n fs hd
    cases m : ((n == c) && tyOk cs (deref j2 e)) with
    | false => rw [m] at q2; exact q2.elim
    | true =>
      rw [m] at q2
      obtain ⟨m1, m2⟩ := Bool.and_eq_true_iff.mp m
      have := beq_iff_eq.mp m1
      subst this
      have hw := S2.st.view ((k2.step O).den hx)
      rw [hd] at hw
      obtain ⟨a, dx, vs, rfl, hia, r⟩ := hw.insAt
      obtain ⟨t, ty, nf⟩ := tyX_ok N (S2.st.view hy) m2
      rw [← hK] at ty nf
      have z := spG_of (E := fun _ _ _ _ => False) S2 (.cons ((k2.step O).den hx) (.cons hy .nil)) (eqRes_post q2)
      exact ⟨a, dx, vs, t, rfl, hia, ty, nf, fun σ' => z⟩
  · exact q2.elim
end
/-! the facts -/
def nfB (K : PySem.W.Frag) (cm : Nat → Addr) (A : Addr) (cs : List Nat) : Bool := (tyNames.all fun t => PySem.W.notFirst K A (.type t)) && cs.all fun n => PySem.W.notFirst K A (.ref (cm n))
theorem nf_ok {c : Cb} {n0 m i : Nat} {cs : List Nat} (hi : rngB (fun n => iscB c.K (c.cm n)) n0 m = true) (hn : inB n0 m cs = true) (h : nfB c.K c.cm (c.cm i) cs = true) : NF c (c.cm i) cs where
  ty := fun t ht => by
    obtain ⟨h1, _⟩ := Bool.and_eq_true_iff.mp h
    exact List.all_eq_true.mp h1 t (List.contains_iff_mem.mp ht)
  ow := fun n hc => by
    obtain ⟨_, h2⟩ := Bool.and_eq_true_iff.mp h
    have hm := List.contains_iff_mem.mp hc
    have hr := of_decide_eq_true (List.all_eq_true.mp hn n hm)
    exact ⟨iscB_ok (rngB_ok (p := fun n => iscB c.K (c.cm n)) hi hr.1 hr.2), List.all_eq_true.mp h2 n hm⟩
end On

set_option Elab.async false
set_option linter.all false
set_option maxRecDepth 100000
set_option maxHeartbeats 2000000
set_option autoImplicit false
namespace On
open PySem PySem.Spec PyProof.Rows L2
/-! ### C(e, .., k = v, ..), defaults -/
def tMakeKS (A : Addr) (n m : Nat) (sp : Sp) (gV : List V → List V → List V) (E : L2.St → XK) (t tk : TA) : TE := fun σ H Q => t σ H fun vs H1 => tk σ H1 fun zs H2 => vs.length = n ∧ zs.length = m ∧
  ∀ x dx, H2 x = none → H2 dx = none → dx ≠ x → sp (gV (.ref x :: vs) zs) (upd (upd H2 dx (.own x)) x (.ins A dx [])) (fun v H3 => v = .non ∧ Q (.ref x) H3) (E σ)
section
variable {X : Cx} {CX : CXT} {k n : Nat} {f A : Addr} {fd : FuncData} {ps ks : List Str} {sp : Sp} {E : L2.St → XK} {x : Str} {p pos : Pos} {e : Expr} {es : List Expr} {kws : List Keyword} {t tk : TA} {g : List Value → List Value → List Value} {gV : List V → List V → List V}
theorem run_makeKS {pins : List (Addr × Obj)} {σ : L2.St} {H : Hp} {s : Shared} {Q : VK} {us ws : List Value} {vs zs : List V} (M : Mk X.K A f) (F : FnG X.prog X.w X.K X.mg X.base CX k f fd ps sp) (hr : Room (k + 1) X.A) (hgd : X.A.guards = some []) (hb : KBn X.K fd ps (n + 1) ks g gV)
    (hx : PassesAt CX X σ (E σ)) (I : Inv X pins σ H s) (r : Vals vs us) (rz : Vals zs ws) (l1 : vs.length = n) (l2 : zs.length = ks.length)
    (h : ∀ x dx, H x = none → H dx = none → dx ≠ x → sp (gV (.ref x :: vs) zs) (upd (upd H dx (.own x)) x (.ins A dx [])) (fun v H2 => v = .non ∧ Q (.ref x) H2) (E σ)) :
    wpAny (model X.prog X.w) X.A (call (.ref A) us (ks.zip ws)) (EP X pins σ Q) X.xe s := by
  have hq := h (s.heap.objs.size + 1) s.heap.objs.size (I.hok.fresh (Nat.le_succ _)) (I.hok.fresh (Nat.le_refl _)) (Nat.ne_of_lt (Nat.lt_succ_self _))
  have I2 := Inv.made (C := A) I
  have r1 : Vals (V.ref (s.heap.objs.size + 1) :: vs) (Value.ref (s.heap.objs.size + 1) :: us) := .cons rfl r
  have e1 : (Value.ref (s.heap.objs.size + 1) :: us).length = n + 1 := r1.length.symm.trans (congrArg Nat.succ l1)
  refine wpAny_call (make_map (f := f) I.kIn M.makes M.init (beq_iff_eq.mp M.fn) (codeAny_mono (F.run _ X.stack _ _ ⟨Value.ref (s.heap.objs.size + 1) :: us, ks.zip ws⟩ (g (Value.ref (s.heap.objs.size + 1) :: us) ws) _ _ (E σ) (hr.make A us (ks.zip ws)) (guards_make hgd)
    (I2.env0.make A us (ks.zip ws)) (hb.to _ (Value.ref (s.heap.objs.size + 1) :: us) ws I2.kIn e1 (rz.length.symm.trans l2)) (hb.rel r1 rz) hq) fun r s' hq' => ?_))
  cases r with
  | error w => exact hx pins _ _ w s' I2 hq'
  | ok fl =>
    cases fl with
    | ret u =>
      obtain ⟨v, H', I3, rv, ev, q3⟩ := I2.after hq'
      subst ev
      exact ⟨rv, ⟨V.ref (s.heap.objs.size + 1), H', I3, rfl, q3⟩⟩
    | next => exact False.elim hq'
    | brk => exact False.elim hq'
    | cont => exact False.elim hq'
theorem pe_makeKS (M : Mk X.K A f) (F : FnG X.prog X.w X.K X.mg X.base CX k f fd ps sp) (hr : Room (k + 1) X.A) (hgd : X.A.guards = some []) (hg : Gl X x) (hm : X.mg x = some (.ref A)) (hb : KBn X.K fd ps (n + 1) ks g gV) (hx : ∀ σ, PassesAt CX X σ (E σ)) (ha : PA X (e :: es) t) (hkw : PK X kws tk)
    (hall : (backToKw pos (keywordEach kws X.env)).all (·.1.isSome) = true := by rfl) (hks : (backToKw pos (keywordEach kws X.env)).filterMap (·.1) = ks := by rfl) (hdb : (x == ("__debug__" : Str)) = false := by decide)
    (he : starEach (e :: es) X.env = (false, eval e X.env) :: starEach es X.env := by rfl) (hpl : ((backTo pos (starEach (e :: es) X.env)).any (·.1) || (backToKw pos (keywordEach kws X.env)).any (·.1.isNone)) = false := by rfl) :
    PE X (.Call (.Name x p) (e :: es) kws pos) (tMakeKS A n ks.length sp gV E t tk) := by
  refine ⟨fun pins s σ H Q I h => wpAny_Call_Name_kw (ld_glob I hg hm ?_ hdb)⟩
  refine PySem.W.callWith_KW (h₀ := X.base) I.ok.mod.kin M.kp hall (thn (ha.run pos pins s σ H _ I h) fun us s1 ⟨vs, H1, I1, r, q⟩ => ?_) hpl he
  refine thn (hkw.run pos pins s1 σ H1 _ I1 q) fun ws s2 ⟨zs, H2, I2, rz, l1, l2, q2⟩ => ⟨I2.kIn, ?_⟩
  rw [hks]
  exact run_makeKS M F hr hgd hb (hx σ) I2 r rz l1 l2 q2
theorem pe_makeKS0 (M : Mk X.K A f) (F : FnG X.prog X.w X.K X.mg X.base CX k f fd ps sp) (hr : Room (k + 1) X.A) (hgd : X.A.guards = some []) (hg : Gl X x) (hm : X.mg x = some (.ref A)) (hb : KBn X.K fd ps (0 + 1) ks g gV) (hx : ∀ σ, PassesAt CX X σ (E σ)) (hkw : PK X kws tk)
    (hall : (backToKw pos (keywordEach kws X.env)).all (·.1.isSome) = true := by rfl) (hks : (backToKw pos (keywordEach kws X.env)).filterMap (·.1) = ks := by rfl) (hdb : (x == ("__debug__" : Str)) = false := by decide)
    (hpl : ((backTo pos (starEach [] X.env)).any (·.1) || (backToKw pos (keywordEach kws X.env)).any (·.1.isNone)) = false := by rfl) :
    PE X (.Call (.Name x p) [] kws pos) (tMakeKS A 0 ks.length sp gV E tNil tk) := by
  refine ⟨fun pins s σ H Q I h => wpAny_Call_Name_kw (ld_glob I hg hm ?_ hdb)⟩
  refine PySem.W.callWith_KW0 (h₀ := X.base) I.ok.mod.kin M.kp hall ?_ hpl
  refine thn (hkw.run pos pins s σ H _ I h) fun ws s2 ⟨zs, H2, I2, rz, l1, l2, q2⟩ => ⟨I2.kIn, ?_⟩
  rw [hks]
  exact run_makeKS (us := []) (vs := []) M F hr hgd hb (hx σ) I2 .nil rz rfl l2 q2
end
/-! in the layer -/
def mArr (n m : Nat) (gD : List D → List D → List D) (mr mk : Gm → J → R (List D)) : Gm → J → R (List D) := fun Γ j => (mr Γ j).bind fun ds j => (mk Γ j).bind fun es j => if ds.length = n ∧ es.length = m then .ok (gD ds es) j else .bad
structure ArrD (C : Cb) (n m : Nat) (gV : List V → List V → List V) (gD : List D → List D → List D) : Prop where
  go : ∀ (x : V) ρ H B vs zs ds es, DenA C ρ H B vs ds → DenA C ρ H B zs es → vs.length = n → zs.length = m → ∃ ws, gV (x :: vs) zs = x :: ws ∧ DenA C ρ H B ws (gD ds es)
/-- a class made with n values and the keywords ks -/
structure GiK (P : Program) (w : World) (C : Cb) (mg : Str → Option Value) (base : Heap) (k : Nat) (x : Str) (c n : Nat) (ks : List Str) (gD : List D → List D → List D) (sp : Sp) : Prop where
  ex : ∃ (f : Addr) (fd : FuncData) (ps : List Str) (g : List Value → List Value → List Value) (gV : List V → List V → List V), FnG P w C.K mg base (L2.CX P w) k f fd ps sp ∧ mg x = some (.ref (C.cm c)) ∧ Mk C.K (C.cm c) f ∧ KBn C.K fd ps (n + 1) ks g gV ∧ ArrD C n ks.length gV gD
abbrev MK (C : Ct) (E : WX) (X : Cx) (kws : List Keyword) (m : Gm → J → R (List D)) : Prop :=
  PK X kws fun σ H Q => St0 C E m σ H fun O ds j' ρ' H' => ∀ vs, DenA C.b ρ' H' (Bo O ρ' j') vs ds → Q vs H'
section
variable {C : Ct} {E : WX} {X : Cx} {e : Expr} {es : List Expr} {kws : List Keyword} {me : Gm → J → R D} {mr mk : Gm → J → R (List D)} {pos p kpos : Pos} {k n c : Nat} {x : Str} {ks : List Str} {nm : Option Str} {gD : List D → List D → List D} {gi : List D → J → R (List (Str × D))}
theorem PK.imp {t t' : TA} (h : PK X kws t) (k : ∀ σ H Q, t' σ H Q → t σ H Q) : PK X kws t' := ⟨fun pos pins s σ H Q I q => h.run pos pins s σ H Q I (k σ H Q q)⟩
theorem mk_nil : MK C E X [] mNil := PK.imp pk_nil fun σ H Q ⟨O, ρ, Γ, j, S, h⟩ => Post.now S h [] .nil
theorem mk_cons (ha : ME C E X e me) (hr : MK C E X kws mk) : MK C E X (⟨nm, e, kpos⟩ :: kws) (mCons me mk) :=
  PK.imp (pk_cons ha hr) fun σ H Q ⟨O, ρ, Γ, j, S, h⟩ => ⟨O, ρ, Γ, j, S, Post.imp (Post.bind S h) fun d j1 ρ1 H1 k1 S1 q v hv => ⟨O, ρ1, Γ, j1, S1, Post.imp (Post.bind S1 q) fun ds j2 ρ2 H2 k2 S2 q2 vs hvs => Post.now S2 q2 _ (.cons ((k2.step O).den hv) hvs)⟩⟩
theorem makeK_aux {gV : List V → List V → List V} {m : Nat} (A : ArrD C.b n m gV gD) {O : Addr → Prop} {ρ : List Addr} {σ : L2.St} {Γ : Gm} {H : Hp} {j : J} {Q : VK} {vs zs : List V} {ds es : List D} (S : Sok C O ρ σ H Γ j) (h1 : DenA C.b ρ H (Bo O ρ j) vs ds) (h2 : DenA C.b ρ H (Bo O ρ j) zs es)
    (q : Post C E O σ Γ ρ j H ((if ds.length = n ∧ es.length = m then (.ok (gD ds es) j : R (List D)) else .bad).bind fun ds j => (gi ds j).bind fun fs j => .ok (.ins c fs) j) fun d j' ρ' H' => ∀ v, Den C.b ρ' H' (Bo O ρ' j') v d → Q v H') :
    vs.length = n ∧ zs.length = m ∧ ∀ x dx, H x = none → H dx = none → dx ≠ x → spI C.b c gi (gV (.ref x :: vs) zs) (upd (upd H dx (.own x)) x (.ins (C.b.cm c) dx [])) (fun v H3 => v = .non ∧ Q (.ref x) H3) (WE E σ) := by
  by_cases hl : ds.length = n ∧ es.length = m
  · rw [if_pos hl] at q
    have l1 : vs.length = n := by rw [h1.length]; exact hl.1
    have l2 : zs.length = m := by rw [h2.length]; exact hl.2
    refine ⟨l1, l2, fun x dx hx hdx nd => ?_⟩
    obtain ⟨ws, e, r⟩ := A.go (.ref x) ρ H (Bo O ρ j) vs zs ds es h1 h2 l1 l2
    rw [e]
    exact spI_of S r q hx hdx nd
  · rw [if_neg hl] at q
    exact q.elim
theorem me_gmakeK {m : Nat} (tk : Takes X E) (G : GiK X.prog X.w C.b X.mg X.base k x c n ks gD (spI C.b c gi)) (hK : X.K = C.b.K) (hr : Room (k + 1) X.A) (hgd : X.A.guards = some []) (hg : Gl X x) (ha : MA C E X (e :: es) mr) (hkw : MK C E X kws mk)
    (hall : (backToKw pos (keywordEach kws X.env)).all (·.1.isSome) = true := by rfl) (hks : (backToKw pos (keywordEach kws X.env)).filterMap (·.1) = ks := by rfl) (hdb : (x == ("__debug__" : Str)) = false := by decide)
    (he : starEach (e :: es) X.env = (false, eval e X.env) :: starEach es X.env := by rfl) (hpl : ((backTo pos (starEach (e :: es) X.env)).any (·.1) || (backToKw pos (keywordEach kws X.env)).any (·.1.isNone)) = false := by rfl) (hml : ks.length = m := by rfl) :
    ME C E X (.Call (.Name x p) (e :: es) kws pos) (mMake c gi (mArr n m gD mr mk)) := by
  subst hml
  obtain ⟨f, fd, ps, g, gV, F, hm, hmk, hb, A⟩ := G.ex
  rw [← hK] at F hmk hb
  refine PE.imp (pe_makeKS (E := WE E) hmk F hr hgd hg hm hb (fun σ => passAt tk σ) ha hkw hall hks hdb he hpl) fun σ H Q ⟨O, ρ, Γ, j, S, h⟩ => ⟨O, ρ, Γ, j, S, ?_⟩
  have h : Post C E O σ Γ ρ j H ((mr Γ j).bind fun ds j => (mk Γ j).bind fun es j => ((if ds.length = n ∧ es.length = ks.length then (.ok (gD ds es) j : R (List D)) else .bad).bind fun ds j => (gi ds j).bind fun fs j => .ok (D.ins c fs) j)) (fun d j' ρ' H' => ∀ v, Den C.b ρ' H' (Bo O ρ' j') v d → Q v H') := by
    have e : mMake c gi (mArr n ks.length gD mr mk) Γ j = ((mr Γ j).bind fun ds j => (mk Γ j).bind fun es j => ((if ds.length = n ∧ es.length = ks.length then (.ok (gD ds es) j : R (List D)) else .bad).bind fun ds j => (gi ds j).bind fun fs j => .ok (D.ins c fs) j)) := by
      unfold mMake mArr
      cases mr Γ j with
      | ok ds j1 =>
        show ((mk Γ j1).bind _).bind _ = (mk Γ j1).bind _
        cases mk Γ j1 <;> rfl
      | exc _ _ _ => rfl
      | bad => rfl
    rw [← e]
    exact h
  exact Post.imp (Post.bind S h) fun ds j1 ρ1 H1 k1 S1 q vs hv => ⟨O, ρ1, Γ, j1, S1, Post.imp (Post.bind S1 q) fun es j2 ρ2 H2 k2 S2 q2 zs hz => makeK_aux A S2 ((k2.step O).denA hv) hz q2⟩
theorem me_gmakeK0 {m : Nat} (tk : Takes X E) (G : GiK X.prog X.w C.b X.mg X.base k x c 0 ks gD (spI C.b c gi)) (hK : X.K = C.b.K) (hr : Room (k + 1) X.A) (hgd : X.A.guards = some []) (hg : Gl X x) (hkw : MK C E X kws mk)
    (hall : (backToKw pos (keywordEach kws X.env)).all (·.1.isSome) = true := by rfl) (hks : (backToKw pos (keywordEach kws X.env)).filterMap (·.1) = ks := by rfl) (hdb : (x == ("__debug__" : Str)) = false := by decide)
    (hpl : ((backTo pos (starEach [] X.env)).any (·.1) || (backToKw pos (keywordEach kws X.env)).any (·.1.isNone)) = false := by rfl) (hml : ks.length = m := by rfl) :
    ME C E X (.Call (.Name x p) [] kws pos) (mMake c gi (mArr 0 m gD mNil mk)) := by
  subst hml
  obtain ⟨f, fd, ps, g, gV, F, hm, hmk, hb, A⟩ := G.ex
  rw [← hK] at F hmk hb
  refine PE.imp (pe_makeKS0 (E := WE E) hmk F hr hgd hg hm hb (fun σ => passAt tk σ) hkw hall hks hdb hpl) fun σ H Q ⟨O, ρ, Γ, j, S, h⟩ => ?_
  have h : Post C E O σ Γ ρ j H ((mk Γ j).bind fun es j => ((if ([] : List D).length = 0 ∧ es.length = ks.length then (.ok (gD [] es) j : R (List D)) else .bad).bind fun ds j => (gi ds j).bind fun fs j => .ok (D.ins c fs) j)) (fun d j' ρ' H' => ∀ v, Den C.b ρ' H' (Bo O ρ' j') v d → Q v H') := by
    have e : mMake c gi (mArr 0 ks.length gD mNil mk) Γ j = ((mk Γ j).bind fun es j => ((if ([] : List D).length = 0 ∧ es.length = ks.length then (.ok (gD [] es) j : R (List D)) else .bad).bind fun ds j => (gi ds j).bind fun fs j => .ok (D.ins c fs) j)) := by
      show ((mk Γ j).bind _).bind _ = (mk Γ j).bind _
      cases mk Γ j <;> rfl
    rw [← e]
    exact h
  exact ⟨O, ρ, Γ, j, S, Post.imp (Post.bind S h) fun es j2 ρ2 H2 k2 S2 q2 zs hz => makeK_aux A S2 .nil hz q2⟩
end
/-! defaults that are empty tuples: where they stand -/
def dfA (p : Str × Option Str) (i : Nat) (K : PySem.W.Frag) : Addr := match K.lookup (He.fAd K p) with
  | some ⟨_, _, .func fd, _⟩ => (match fd.defaults with
    | .ref T => (match K.lookup T with
      | some ⟨_, _, .seq its _, _⟩ => (match its[i]? with
        | some (.ref a) => a
        | _ => 0)
      | _ => 0)
    | _ => 0)
  | _ => 0
def kdA (p : Str × Option Str) (x : Str) (K : PySem.W.Frag) : Addr := match K.lookup (He.fAd K p) with
  | some ⟨_, _, .func fd, _⟩ => (match fd.kwdefaults with
    | .ref D => (match PySem.W.nsIn K D x with
      | some (some (.ref a)) => a
      | _ => 0)
    | _ => 0)
  | _ => 0
def nilB (K : PySem.W.Frag) (a : Addr) : Bool := match K.lookup a with
  | some ⟨.type c, _, .seq its _, _⟩ => decide (c = "tuple") && decide (its = #[])
  | _ => false
theorem nilB_ok {c : Cb} {a : Addr} (h : nilB c.K a = true) {ρ : List Addr} {H : Hp} {B : Addr → Prop} : Den c ρ H B (.ref a) (.tup []) := by
  unfold nilB at h
  split at h
  · rename_i cl od its n osl e
    obtain ⟨h1, h2⟩ := Bool.and_eq_true_iff.mp h
    have h1 := of_decide_eq_true h1
    have h2 := of_decide_eq_true h2
    subst h1 h2
    exact .tupK (.inr ⟨_, _, _, e, rfl, rfl, by rw [sizeLine_eq]; simp, .nil⟩) rfl .nil
  · cases h
end On

set_option Elab.async false
set_option linter.all false
set_option maxRecDepth 100000
set_option maxHeartbeats 2000000
set_option autoImplicit false
namespace On
open PySem PySem.Spec PyProof.Rows L2
/-! ### facts of __call__ -/
def icB (K : PySem.W.Frag) (A : Addr) : Bool := match PySem.W.findIn K (.ref A) "__call__" with
  | some (some (.ref f)) => PySem.W.fnIn K f
  | _ => false
theorem icB_ok {K : PySem.W.Frag} {A : Addr} (h : icB K A = true) (f : Addr) (e : PySem.W.findIn K (.ref A) "__call__" = some (some (.ref f))) : PySem.W.fnIn K f = true := by
  unfold icB at h
  rw [e] at h
  exact h
theorem u65 {k : Nat} {A : Around} (hr : Room k A) : A.units + 65 < cLine := by
  have := hr.un
  omega
end On

set_option Elab.async false
set_option linter.all false
set_option maxRecDepth 100000
set_option maxHeartbeats 0
set_option autoImplicit false

namespace K19
open PySem PySem.Spec PyProof.Rows L2 On
abbrev PR : Program := PySem.Challenge.pw_onlyfall_k19_rules_merge_numbers
def top (i : Nat) : Stmt := PySem.Challenge.pw_onlyfall_k19_rules_merge_numbers.main.body.getD i (.Pass ⟨0, 0, 0, 0⟩)
abbrev dd (x : Str) (i : Nat) : He.DefD := ⟨(x, none), x, x, defArgs (top i), defBody (top i), defScope (top i), [], []⟩
abbrev dm (c m q : Str) (i j : Nat) : He.DefD := ⟨(c, some m), m, q, defArgs (inCls (top i) j), defBody (inCls (top i) j), defScope (inCls (top i) j), [], []⟩
abbrev ds (x q : Str) (i j : Nat) : DefS := ⟨x, q, defArgs (inCls (top i) j), defBody (inCls (top i) j), defScope (inCls (top i) j)⟩
def fn : List He.DefD := [dd "is_number" 15, dd "is_name" 16, dd "ascending" 18, dd "is_rising" 19, dd "like" 20, dd "is_among" 21, dd "line_parts" 29, dd "can_follow" 30, dd "read_layout" 31, dd "ends_of" 32, dm "Layout" "__init__" "Layout.__init__" 33 0, dd "is_cell" 34, dd "is_row" 46, dd "are_rows" 47, dd "numbers_by_cell" 54, (⟨("Book", some "__init__"), "__init__", "Book.__init__", defArgs (inCls (top 59) 0), defBody (inCls (top 59) 0), defScope (inCls (top 59) 0), [.adr (dfA ("Book", some "__init__") 0)], []⟩ : He.DefD), dd "is_picks" 64, dd "way_of" 65, dd "picked" 66, dm "Rule" "__init__" "Rule.__init__" 67 0, dm "Rule" "told" "Rule.told" 67 2, dm "Rule" "__call__" "Rule.__call__" 67 4, dd "_law_jar" 69, dd "_law_take" 70, dd "_law_of" 71, dd "_law_words" 72, dd "_law_picks" 73, dd "_law_comes" 74, dd "_law_heard" 75, dd "_law_near" 76, dd "_law_numbers_right" 77, dd "_law_is_merge" 78, dd "_law_odd_right" 79, dd "_law_right" 80, dd "law" 81]
def sf : List DefS := [ds "FallError" "FallError.__init__" 2 0]
def tf : List He.Defn := []
def fa0 : List He.Fa := [.glo "is_number", .free "int", .free "isinstance", .free "bool", .glo "is_name", .free "str", .free "len", .str "LETTERS" "abcdefghijklmnopqrstuvwxyz", .free "all", .glo "ascending", .free "sorted", .free "set"]
def fa1 : List He.Fa := [.free "tuple", .glo "is_rising", .free "range", .glo "like", .glo "is_among", .free "any", .glo "line_parts", .int "STEP" 2, .int "DEEPEST" 2, .str "DIR" "dir", .str "FILE" "file", .str "CODE" "code"]
def fa2 : List He.Fa := [.glo "can_follow", .glo "read_layout", .glo "BadLayout", .free "enumerate", .glo "ends_of", .str "ALL" "*", .glo "Layout", .mkr "Layout", .glo "is_cell", .glo "is_row", .int "ROW_PARTS" 3, .int "MOST_books" 999]
def fa3 : List He.Fa := [.glo "are_rows", .glo "numbers_by_cell", .glo "BadRows", .glo "Book", .mkr "Book", .glo "is_picks", .int "WAYS" 3, .glo "PICKS", .glo "way_of", .glo "picked", .free "max", .glo "BadPicks"]
def fa4 : List He.Fa := [.glo "Rule", .mkr "Rule", .meth "Rule" "told", .int "MOST_rules" 999, .glo "Conflict", .glo "BadMerge", .meth "Rule" "__call__", .glo "_law_jar", .free "abs", .glo "_law_take", .glo "_law_of", .glo "_law_words"]
def fa5 : List He.Fa := [.glo "_law_picks", .glo "_law_comes", .glo "_law_heard", .glo "FallError", .glo "_law_near", .glo "_law_numbers_right", .free "repr", .glo "_law_is_merge", .glo "_law_odd_right", .glo "_law_right", .glo "law", .free "min"]
def fa : List He.Fa := fa0 ++ fa1 ++ fa2 ++ fa3 ++ fa4 ++ fa5
def cn0 : List PySem.Str := ["FallError", "BadLayout", "BadCell", "BadRows", "BadText", "BadNumber", "UnlikeLayouts", "BadPicks", "BadMerge", "Conflict", "Layout", "Book"]
def cn1 : List PySem.Str := ["Rule"]
def cn : List PySem.Str := cn0 ++ cn1
abbrev cmK (K : PySem.W.Frag) (n : Nat) : Addr := He.ga K (cn.getD n "")
abbrev cb (K : PySem.W.Frag) : Cb := ⟨K, cmK K, []⟩
abbrev ty_int : List (String × Bool) := [("NoneType", false), ("bool", true), ("int", true), ("str", false), ("list", false), ("tuple", false), ("dict", false)]
abbrev ow_int : List Bool := [false, false, false]
abbrev ox_int : List Bool := [false, false, false, false, false, false, false, false, false, false]
abbrev ty_bool : List (String × Bool) := [("NoneType", false), ("bool", true), ("int", false), ("str", false), ("list", false), ("tuple", false), ("dict", false)]
abbrev ow_bool : List Bool := [false, false, false]
abbrev ox_bool : List Bool := [false, false, false, false, false, false, false, false, false, false]
abbrev ty_str : List (String × Bool) := [("NoneType", false), ("bool", false), ("int", false), ("str", true), ("list", false), ("tuple", false), ("dict", false)]
abbrev ow_str : List Bool := [false, false, false]
abbrev ox_str : List Bool := [false, false, false, false, false, false, false, false, false, false]
abbrev ty_tuple : List (String × Bool) := [("NoneType", false), ("bool", false), ("int", false), ("str", false), ("list", false), ("tuple", true), ("dict", false)]
abbrev ow_tuple : List Bool := [false, false, false]
abbrev ox_tuple : List Bool := [false, false, false, false, false, false, false, false, false, false]
abbrev ty_Book : List (String × Bool) := [("NoneType", false), ("bool", false), ("int", false), ("str", false), ("list", false), ("tuple", false), ("dict", false)]
abbrev ow_Book : List Bool := [false, true, false]
abbrev ox_Book : List Bool := [false, false, false, false, false, false, false, false, false, false]
abbrev ty_Conflict : List (String × Bool) := [("NoneType", false), ("bool", false), ("int", false), ("str", false), ("list", false), ("tuple", false), ("dict", false)]
abbrev ow_Conflict : List Bool := [false, false, false]
abbrev ox_Conflict : List Bool := [false, false, false, false, false, false, false, false, false, true]
abbrev xs_value : List Nat := [0, 1, 2, 3, 4, 5, 6, 7, 8, 9]
abbrev ty_BadMerge : List (String × Bool) := [("NoneType", false), ("bool", false), ("int", false), ("str", false), ("list", false), ("tuple", false), ("dict", false)]
abbrev ow_BadMerge : List Bool := [false, false, false]
abbrev ox_BadMerge : List Bool := [false, false, false, false, false, false, false, false, true, false]
def ex (K : PySem.W.Frag) : List Bool := [
  supB "/claim/cut.py" K "FallError" "FallError.__init__",
  rngB (fun n => feKB K (He.ga K "FallError") (He.ma K (He.ga K "FallError") "__init__") (cmK K n)) 0 10,
  isiB K (.type "int") ty_int,
  rngB (fun n => iscB K (cmK K n)) 10 3,
  isxB K (cmK K) (.type "int") 10 ow_int,
  rngB (fun n => excCB K (cmK K n)) 0 10,
  isxB K (cmK K) (.type "int") 0 ox_int,
  isiB K (.type "bool") ty_bool,
  isxB K (cmK K) (.type "bool") 10 ow_bool,
  isxB K (cmK K) (.type "bool") 0 ox_bool,
  isiB K (.type "str") ty_str,
  isxB K (cmK K) (.type "str") 10 ow_str,
  isxB K (cmK K) (.type "str") 0 ox_str,
  isiB K (.type "tuple") ty_tuple,
  isxB K (cmK K) (.type "tuple") 10 ow_tuple,
  isxB K (cmK K) (.type "tuple") 0 ox_tuple,
  noB K (cmK K) "own_text" [10],
  noB K (cmK K) "own_files_of" [10],
  noB K (cmK K) "own_leaves_of" [10],
  noB K (cmK K) "places" [10],
  noB K (cmK K) "codes" [10],
  noB K (cmK K) "files" [10],
  noB K (cmK K) "leaves" [10],
  noB K (cmK K) "spots" [10],
  noB K (cmK K) "layout" [11],
  noB K (cmK K) "numbers" [11],
  He.tupB K "PICKS" [.str "main", .str "branch", .str "elder", .str "lesser", .str "greater", .str "both", .str "refuse"],
  noB K (cmK K) "picks" [12],
  isiB K (.ref (cmK K 11)) ty_Book,
  isxB K (cmK K) (.ref (cmK K 11)) 10 ow_Book,
  isxB K (cmK K) (.ref (cmK K 11)) 0 ox_Book,
  icB K (cmK K 12),
  exmB K (cmK K) (.ref (cmK K 0)) 0 [true, true, true, true, true, true, true, true, true, true],
  isiB K (.ref (cmK K 9)) ty_Conflict,
  isxB K (cmK K) (.ref (cmK K 9)) 10 ow_Conflict,
  isxB K (cmK K) (.ref (cmK K 9)) 0 ox_Conflict,
  noB K (cmK K) "value" xs_value,
  isiB K (.ref (cmK K 8)) ty_BadMerge,
  isxB K (cmK K) (.ref (cmK K 8)) 10 ow_BadMerge,
  isxB K (cmK K) (.ref (cmK K 8)) 0 ox_BadMerge,
  (K.lookup sysModules).isSome]
def loose0 : List PySem.Str := ["_wall", "FallError", "BadLayout", "BadCell", "BadRows", "BadText", "BadNumber", "UnlikeLayouts", "BadPicks", "BadMerge", "Conflict", "LETTERS"]
def loose1 : List PySem.Str := ["FIGURES", "is_number", "is_name", "figure", "ascending", "is_rising", "like", "is_among", "ALL", "DIR", "FILE", "CODE"]
def loose2 : List PySem.Str := ["STEP", "DEEPEST", "line_parts", "can_follow", "read_layout", "ends_of", "Layout", "is_cell", "is_cell_pair", "spot_number", "cell_mask", "inside"]
def loose3 : List PySem.Str := ["unions", "is_no_more", "MOST_books", "MOST_TIMES", "ROW_PARTS", "is_row", "are_rows", "rows_of", "read_rows", "bounded", "signed_number", "check_layouts"]
def loose4 : List PySem.Str := ["signed_rows", "numbers_by_cell", "masks_of", "numbers_of", "is_within", "times", "Book", "PICKS", "WAYS", "MOST_rules", "is_picks", "way_of"]
def loose5 : List PySem.Str := ["picked", "Rule", "_law_jar", "_law_take", "_law_of", "_law_words", "_law_picks", "_law_comes", "_law_heard", "_law_near", "_law_numbers_right", "_law_is_merge"]
def loose6 : List PySem.Str := ["_law_odd_right", "_law_right"]
def loose : List PySem.Str := loose0 ++ loose1 ++ loose2 ++ loose3 ++ loose4 ++ loose5 ++ loose6
abbrev Rw : PySem.W.OpenRow := PySem.W.OpenLaw.row PySem.Challenge.rw_onlyfall_k19_rules_merge_numbers
abbrev hk : PySem.W.Hook := hookG 5 (BkOf fa ex) fn sf tf
def ob (s : PySem.W.SharedT) : AlG × Bool := obsGG 5 (BkOf fa ex) fn sf tf (HandSHeadRun.getT s)
theorem ob_eq (s : PySem.W.SharedT) : ob s = hk.obs s.abs := obsGG_eq (HandSHeadRun.getT_eq s)
end K19

set_option Elab.async false
set_option linter.all false
set_option maxRecDepth 100000
set_option maxHeartbeats 0
set_option autoImplicit false
namespace K19
open PySem PySem.Spec PyProof.Rows L2 On
open HandSHeadRun PySem.W in
theorem run3 {r : OpenRow} {q : Program} {H : Hook} {ob : SharedT → H.α} {M : Nat} {loose : List PySem.Str} {w : World}
    (a : ∀ os : OsState, (endF (stepQ (denQ tabQ) r.prog w) M r.prog w os).map (fun s => looksF r.prog (boot_heap w.params) s.abs) = some true)
    (b : ∀ os : OsState, (endF (stepQ (denQ tabQ) r.prog w) M r.prog w os).map (fun s => seenQ q loose (importedModules r.prog.main.body) (fun s => xlAt q [] s && recOk r.toRowW.records s) s.abs) = some (openGood q loose))
    (c : ∀ os : OsState, (endF (stepQ (denQ tabQ) r.prog w) M r.prog w os).map ob = some (H.val w)) : RunEq r q H ob M loose w := fun os => by
  obtain ⟨s, hs, h1⟩ := Option.map_eq_some_iff.mp (a os)
  obtain ⟨s2, hs2, h2⟩ := Option.map_eq_some_iff.mp (b os)
  obtain ⟨s3, hs3, h3⟩ := Option.map_eq_some_iff.mp (c os)
  cases Option.some.inj (hs.symm.trans hs2)
  cases Option.some.inj (hs.symm.trans hs3)
  rw [hs]
  exact congrArg some (Prod.ext h1 (Prod.ext h2 h3))
open HandSHeadRun PySem.W in
theorem runA (w : World) (os : OsState) : (endF (stepQ (denQ tabQ) Rw.prog w) 8000 Rw.prog w os).map (fun s => looksF Rw.prog (boot_heap w.params) s.abs) = some true := by
  kernel_rfl
open HandSHeadRun PySem.W in
theorem runB (w : World) (os : OsState) : (endF (stepQ (denQ tabQ) Rw.prog w) 8000 Rw.prog w os).map (fun s => seenQ (PySem.W.view Rw.prog [81]) loose (importedModules Rw.prog.main.body) (fun s => xlAt (PySem.W.view Rw.prog [81]) [] s && recOk Rw.toRowW.records s) s.abs) = some (openGood (PySem.W.view Rw.prog [81]) loose) := by
  kernel_rfl
open HandSHeadRun PySem.W in
theorem runC (w : World) (os : OsState) : (endF (stepQ (denQ tabQ) Rw.prog w) 8000 Rw.prog w os).map ob = some (hk.val w) := by
  kernel_rfl
theorem run (w : World) : HandSHeadRun.RunEq Rw (PySem.W.view Rw.prog [81]) hk ob 8000 loose w := run3 (runA w) (runB w) (runC w)
end K19

set_option Elab.async false
set_option linter.all false
set_option maxRecDepth 100000
set_option maxHeartbeats 2000000
set_option autoImplicit false
namespace On
open PySem PySem.Spec PyProof.Rows L2
/-! ### == by an own __eq__, as a test -/
section
variable {C : Ct} {E : WX} {X : Cx} {a b : Expr} {ma mb : Gm → J → R D} {pos : Pos} {c k : Nat} {cs : List Nat} {g : List D → J → R D}
theorem mt_eqO (G : Gm1 X.prog X.w C.b X.mg X.base k c "__eq__" (spG C.b g)) (N : NF C.b (C.b.cm c) cs) (hK : X.K = C.b.K) (hr : Room k X.A) (hgd : X.A.guards = some []) (ha : ME C E X a ma) (hb : ME C E X b mb) (hm : behindInMarks .Eq b = false) : MT C E X (.Compare a [.Eq] [b] pos) (tV (mEqO c cs g ma mb)) := by
  obtain ⟨f, fd, ps, F, hc, hme, hbi⟩ := G.ex
  rw [← hK] at F hme hbi
  refine PT.imp (pt_cmpR (op_own F hr hgd hbi hme) ha hb hm) fun σ H Q ⟨O, ρ, Γ, j, S, h⟩ => ⟨O, ρ, Γ, j, S, ?_⟩
  have h : Post C E O σ Γ ρ j H ((ma Γ j).bind fun d j => (mb Γ j).bind fun e j => (match deref j d with
      | .ins n _ => bif (n == c) && tyOk cs (deref j e) then eqRes (g [d, e] j) else .bad
      | _ => .bad).bind fun d j => lift (truD (deref j d)) j) (fun b j' ρ' H' => Q b H') := by
    have e : tV (mEqO c cs g ma mb) Γ j = ((ma Γ j).bind fun d j => (mb Γ j).bind fun e j => (match deref j d with
      | .ins n _ => bif (n == c) && tyOk cs (deref j e) then eqRes (g [d, e] j) else .bad
      | _ => .bad).bind fun d j => lift (truD (deref j d)) j) := by
      unfold tV mEqO
      cases ma Γ j with
      | ok d j1 =>
        show ((mb Γ j1).bind _).bind _ = (mb Γ j1).bind _
        cases mb Γ j1 <;> rfl
      | exc _ _ _ => rfl
      | bad => rfl
    rw [← e]
    exact h
  refine Post.imp (Post.bind S h) fun d j1 ρ1 H1 k1 S1 q x hx => ⟨O, ρ1, Γ, j1, S1, Post.imp (Post.bind S1 q) fun e j2 ρ2 H2 k2 S2 q2 y hy => ?_⟩
  split at q2
  · rename_i n fs hd
    cases m : ((n == c) && tyOk cs (deref j2 e)) with
    | false => rw [m] at q2; exact q2.elim
    | true =>
      rw [m] at q2
      obtain ⟨m1, m2⟩ := Bool.and_eq_true_iff.mp m
      have := beq_iff_eq.mp m1
      subst this
      have hw := S2.st.view ((k2.step O).den hx)
      rw [hd] at hw
      obtain ⟨a, dx, vs, rfl, hia, r⟩ := hw.insAt
      obtain ⟨t, ty, nf⟩ := tyX_ok N (S2.st.view hy) m2
      rw [← hK] at ty nf
      have q3 : Post C (fun _ _ _ _ => False) O σ Γ ρ2 j2 H2 (g [d, e] j2) fun r j' ρ' H' => ∀ v, Den C.b ρ' H' (Bo O ρ' j') v r → (∃ b, v = .bl b) ∧ ∃ b, v = .bl b ∧ Q b H' := by
        revert q2
        show Post C E O σ Γ ρ2 j2 H2 ((eqRes (g [d, e] j2)).bind _) _ → _
        generalize g [d, e] j2 = r
        intro q2
        cases r with
        | bad => exact q2
        | exc c fs j => exact q2.elim
        | ok d j1 =>
          cases d with
          | bl b => exact fun ρ' H' k S v hv => by cases hv; exact ⟨⟨b, rfl⟩, b, rfl, q2 ρ' H' k S⟩
          | _ => exact q2.elim
      have z := spG_of (E := fun _ _ _ _ => False) S2 (.cons ((k2.step O).den hx) (.cons hy .nil)) q3
      exact ⟨a, dx, vs, t, rfl, hia, ty, nf, fun σ' => z⟩
  · exact q2.elim
end
/-! ### a, b, c = x, y, z -/
def sPar3 (i k l : Nat) (mr : Gm → J → R (List D)) : Gm → J → RS := fun Γ j => (mr Γ j).bindS Γ fun ds j => match ds with
  | [d, e, f] => .nx (((Γ.set i (some (.val d))).set k (some (.val e))).set l (some (.val f))) j
  | _ => .bad
section
variable {C : Ct} {E : WX} {X : Cx} {a b c e : Expr} {mr : Gm → J → R (List D)} {me : Gm → J → R D} {pos : Pos}
theorem ms_par3 {i k l : Nat} {x y z : Str} {px py pz pt pt2 : Pos} {kt k2 : Nat} (hc : X.calm = true) (hN : X.N.Nodup) (hi : X.N[i]? = some x) (hj : X.N[k]? = some y) (hl : X.N[l]? = some z) (hij : i ≠ k) (hil : i ≠ l) (hjl : k ≠ l) (hx : X.env.scope.names.lookup x = some .local) (hy : X.env.scope.names.lookup y = some .local) (hz : X.env.scope.names.lookup z = some .local) (ha : MA C E X [a, b, c] mr)
    (hw : swappedStores [.Tuple [.Name x px, .Name y py, .Name z pz] kt pt] (.Tuple [a, b, c] k2 pt2) X.env = pure (some [x, y, z]) := by rfl) (hs : swapsWithSole [.Tuple [.Name x px, .Name y py, .Name z pz] kt pt] (.Tuple [a, b, c] k2 pt2) pos.line X.env = pure false := by rfl) :
    MS C E X (.Assign [.Tuple [.Name x px, .Name y py, .Name z pz] kt pt] (.Tuple [a, b, c] k2 pt2) pos) (sPar3 i k l mr) :=
  PS.imp (ps_par3 hc hN hi hj hl hij hil hjl hx hy hz ha hw hs) fun Dn σ H ⟨O, ρ, Γ, j, S, h⟩ => ⟨O, ρ, Γ, j, S, Post.imp (PostS.of S h) fun ds j1 ρ1 H1 k1 S1 q vs hvs => by
    cases hvs with
    | nil => exact q.elim
    | cons h1 r1 =>
      cases r1 with
      | nil => exact q.elim
      | cons h2 r2 =>
        cases r2 with
        | nil => exact q.elim
        | cons h3 r3 =>
          cases r3 with
          | cons _ _ => exact q.elim
          | nil => exact ⟨_, _, _, rfl, q O ρ1 _ H1 Step.refl (((S1.set h1).set h2).set h3)⟩⟩
/-! ### t[::-1] -/
theorem adjust_rev (n : Nat) : Builtin.Slice.sliceAdjust none none (-1) (n : Int) = ((n : Int) - 1, -1) := by
  unfold Builtin.Slice.sliceAdjust
  simp
theorem places_rev (n : Nat) : Builtin.Slice.slicePlaces ((n : Int) - 1) (-1) (-1) = n := by
  unfold Builtin.Slice.slicePlaces
  simp
  omega
theorem pick_rev (xs : Array Value) : ((List.range xs.size).filterMap fun (k : Nat) => xs[(((xs.size : Int) - 1) + (k : Int) * (-1)).toNat]?).toArray = xs.toList.reverse.toArray := by
  have e : (fun (k : Nat) => xs[(((xs.size : Int) - 1) + (k : Int) * (-1)).toNat]?) = (fun k => xs[k]?) ∘ fun k => xs.size - 1 - k := by
    funext k
    have : (((xs.size : Int) - 1) + (k : Int) * (-1)).toNat = xs.size - 1 - k := by omega
    rw [this]
    rfl
  rw [e, ← List.filterMap_map, PySem.W.krv_range, List.filterMap_reverse, PySem.W.krv_all]
section
variable {prog : Program} {w : World} {A : Around} {E : Value → Shared → Prop} {s : Shared}
theorem sliceApplied_rev {sl : Addr} {n : Nat} {u : Tok} {Q : Int × Int × Nat → Shared → Prop} (hs : s.heap.IsSliceOf sl .none .none (.int (-1) u)) (h : Q ((n : Int) - 1, -1, n) s) :
    wpAny (model prog w) A (Builtin.Slice.sliceApplied (.ref sl) (pure (n : Int))) Q E s := by
  obtain ⟨os, hos, hcs, hds⟩ := id hs
  unfold Builtin.Slice.sliceApplied Builtin.Slice.sliceFields
  refine wpAny_bind (wpAny_bind (wpAny_field hos hds (x := .none) rfl (wpAny_bind (wpAny_field hos hds (x := .none) rfl (wpAny_bind (wpAny_field hos hds (x := .int (-1) u) rfl (wpAny_pure ?_)))))))
  refine wpAny_bind (slicePart_int ?_)
  show wpAny _ _ (if ((-1 : Int) == 0) = true then _ else _) _ _ s
  rw [if_neg (by decide)]
  refine wpAny_bind (slicePart_none (wpAny_bind (slicePart_none (wpAny_bind (wpAny_pure ?_)))))
  show wpAny _ _ (match Builtin.Slice.sliceAdjust none none (-1) (n : Int) with | (lo, hi) => pure (lo, (-1 : Int), Builtin.Slice.slicePlaces lo hi (-1))) _ _ s
  rw [adjust_rev n]
  show wpAny _ _ (pure ((n : Int) - 1, (-1 : Int), Builtin.Slice.slicePlaces ((n : Int) - 1) (-1) (-1))) _ _ s
  rw [places_rev n]
  exact wpAny_pure h
theorem getItem_tuple_rev {t sl : Addr} {items : Array Value} {u : Tok} {Q : Value → Shared → Prop} (ht : IsTup s.heap t items) (hs : s.heap.IsSliceOf sl .none .none (.int (-1) u))
    (h : Q (.ref s.heap.objs.size) { s with heap := s.heap.push { cls := .type "tuple", data := .seq items.toList.reverse.toArray } }) (hsz : items.size ≤ sizeLine) : wpAny (model prog w) A (getItem (.ref t) (.ref sl)) Q E s := by
  have hrev : sizeOk (.seq items.toList.reverse.toArray) := by
    show items.toList.reverse.toArray.size ≤ sizeLine
    rw [List.size_toArray, List.length_reverse, Array.length_toList]
    exact hsz
  obtain ⟨os, hos, hcs, hds⟩ := id hs
  have hTs : s.TypeIs (.ref sl) "slice" := ⟨os, hos, hcs⟩
  unfold getItem
  try with_reducible refine wpAny_holding ?_
  first | refine wpAny_bind (wpAny_pure ?_) | skip
  refine wpAny_bind (wpAny_sequenceKey ht.typeIs (by decide) ?_)
  refine wpAny_bind (wpAny_callSpecial?_slot (name := Str.ofString "__getitem__") ht.typeIs slot_tuple_getitem
    (wpAny_call_entry slot_tuple_getitem ht.typeIs entry_tuple_getitem ?_ (args_tuple_getitem _ _)))
  show wpAny _ _ (Builtin.Tuple.tupleItemsOf (.ref t) >>= _) _ _ s
  refine wpAny_bind (tupleItemsOf_ ht ?_)
  refine wpAny_bind (wpAny_typeOf hTs ?_)
  rw [if_pos (by decide)]
  refine wpAny_bind (sliceApplied_rev hs ?_)
  have hno : ¬ (((items.size : Int) - 1 == 0 && (-1 : Int) == 1 && items.size == items.size) = true) := by simp
  show wpAny _ _ (if ((items.size : Int) - 1 == 0 && (-1 : Int) == 1 && items.size == items.size) = true then _ else _) _ _ s
  rw [if_neg hno, pick_rev items]
  first
    | exact wpAny_bind (m := Builtin.Tuple.tupleExact _) (wpAny_newObj_type (wpAny_pure ⟨_, rfl, wpAny_pure h⟩) hrev)
    | exact wpAny_bind (m := Builtin.Tuple.tupleExact _) (wpAny_newObj_type (wpAny_bind (wpAny_pure (wpAny_pure ⟨_, rfl, wpAny_pure h⟩))) hrev)
    | exact wpAny_bind (wpAny_bind (m := Builtin.Tuple.tupleExact _) (wpAny_newObj_type (wpAny_pure (wpAny_pure ⟨_, rfl, wpAny_pure h⟩)) hrev))
    | exact wpAny_bind (wpAny_bind (m := Builtin.Tuple.tupleExact _) (wpAny_newObj_type (wpAny_pure ⟨_, rfl, wpAny_pure h⟩) hrev))
end
def tRevT (K : PySem.W.Frag) (te : TE) : TE := fun σ H Q => te σ H fun x H1 => ∃ a xs, x = .ref a ∧ SqT K H1 a xs ∧ ∀ p, H1 p = none → Q (.ref p) (upd H1 p (.tup xs.reverse))
theorem pe_revT {te : TE} {k : Nat} {p1 p2 p3 : Pos} (he : PE X e te) : PE X (.Subscript e (.Slice none none (some (.UnaryOp .USub (.Constant (.int 1) k p1) p2)) p3) pos) (tRevT X.K te) := by
  refine ⟨fun pins s σ H Q I h => ?_⟩
  refine Subscript_ (thn (he.run pins s σ H _ I h) fun v s1 ⟨x, H1, I1, r1, q1⟩ => ?_)
  obtain ⟨a, xs, ex, hx, q⟩ := q1
  subst ex
  cases r1
  have hst : PO X (some (.UnaryOp .USub (.Constant (.int 1) k p1) p2)) (tPart (tUn (rU fun i => .int (-i)) (tC (.int 1)))) := po_some (pe_un un_neg pe_int)
  refine wpAny_Slice (thn (po_none.run pins s1 σ H1 (fun o H2 => o = none ∧ H2 = H1) I1 ⟨rfl, rfl⟩) fun vl s2 ⟨l, H2, I2, pl, el, e2⟩ => ?_)
  subst el e2
  refine thn (po_none.run pins s2 σ H2 (fun o H3 => o = none ∧ H3 = H2) I2 ⟨rfl, rfl⟩) fun vu s3 ⟨u, H3, I3, pu, eu, e3⟩ => ?_
  subst eu e3
  refine thn (hst.run pins s3 σ H3 (fun o H4 => o = some (-1) ∧ H4 = H3) I3 ⟨1, rfl, -1, rfl, rfl, rfl⟩) fun vs s4 ⟨o, H4, I4, ps, eo, e4⟩ => ?_
  subst eo e4
  have I5 : Inv X pins σ H4 { s4 with heap := s4.heap.push { cls := .type "slice", data := .fields #[vl, vu, vs] } } := I4.kept (t' := s4.toks) fun b ob q => Heap.get?_push_of_some _ q
  obtain ⟨its, r, ht, hz⟩ := I5.tuple hx
  show wpAny (model X.prog X.w) X.A (subscriptTail e (.Slice none none (some (.UnaryOp .USub (.Constant (.int 1) k p1) p2)) p3) (.ref a) (.ref s4.heap.objs.size)) (EP X pins σ Q) X.xe { s4 with heap := s4.heap.push { cls := .type "slice", data := .fields #[vl, vu, vs] } }
  refine tail_any (ops := [.ref a, .ref s4.heap.objs.size]) ht.typeIs (slot_tuple_getitem.lookup) ?_ (by with_unfolding_all rfl)
  have el : vl = .none := by cases pl; rfl
  have eu : vu = .none := by cases pu; rfl
  obtain ⟨tk, es⟩ : ∃ t, vs = .int (-1) t := by cases ps; exact ⟨_, rfl⟩
  subst el eu es
  refine getItem_tuple_rev ht (Heap.IsSliceOf.new _ _ _ _) ?_ (by rw [List.size_toArray, ← r.length]; exact hz)
  refine ⟨.ref _, _, I5.laid (t' := s4.toks) (o := .tup xs.reverse) (fun b ob q => Heap.get?_push_of_some _ q) (Nat.le_refl _) ?_, rfl, q _ (I5.hok.fresh (Nat.le_refl _))⟩
  exact ⟨by rw [List.length_reverse]; exact hz, _, r.reverse, IsTup.new _ _⟩
def mRev (me : Gm → J → R D) : Gm → J → R D := fun Γ j => (me Γ j).bind fun d j => match d with
  | .tup ds => .ok (.tup ds.reverse) j
  | _ => .bad
theorem DenA.append' {c : Cb} {ρ : List Addr} {H : Hp} {B : Addr → Prop} : ∀ {vs ws : List V} {ds es : List D}, DenA c ρ H B vs ds → DenA c ρ H B ws es → DenA c ρ H B (vs ++ ws) (ds ++ es)
  | _, _, _, _, .nil, s => s
  | _, _, _, _, .cons h r, s => .cons h (r.append' s)
theorem DenA.reverse {c : Cb} {ρ : List Addr} {H : Hp} {B : Addr → Prop} : ∀ {vs : List V} {ds : List D}, DenA c ρ H B vs ds → DenA c ρ H B vs.reverse ds.reverse
  | _, _, .nil => .nil
  | _, _, .cons h r => by
    rw [List.reverse_cons, List.reverse_cons]
    exact r.reverse.append' (.cons h .nil)
theorem me_rev {k : Nat} {p1 p2 p3 : Pos} (hK : X.K = C.b.K) (he : ME C E X e me) : ME C E X (.Subscript e (.Slice none none (some (.UnaryOp .USub (.Constant (.int 1) k p1) p2)) p3) pos) (mRev me) :=
  PE.imp (pe_revT he) fun σ H Q ⟨O, ρ, Γ, j, S, h⟩ => ⟨O, ρ, Γ, j, S, Post.imp (Post.bind S h) fun d j1 ρ1 H1 k1 S1 q v hv => by
    split at q
    · obtain ⟨a, xs, rfl, hs, r⟩ := (Vw.of hv).tupSq
      refine ⟨a, xs, rfl, by rw [hK]; exact hs, fun p hp => ?_⟩
      have x0 : Ext H1 (upd H1 p (.tup xs.reverse)) := Ext.new hp
      exact q _ _ x0.keep (S1.ext x0) _ (.tup upd_same (S1.fresh hp) (r.reverse.mono x0.pres Pfx.refl))
    · exact q.elim⟩
end
end On

set_option Elab.async false
set_option linter.all false
set_option maxRecDepth 100000
set_option maxHeartbeats 2000000
set_option autoImplicit false
namespace On
open PySem PySem.Spec PyProof.Rows L2 LamX
section
variable {X : Cx} {pins : List (Addr × Obj)} {σ : L2.St} {H HZ : Hp} {s s1 : Shared} {ps : List Str}
/-- x(), in the def that got the lambda: Z is that def's context, entered at s -/
theorem pe_act0 {pn : List (Addr × Obj)} {xe : Value → Shared → Prop} {Eg : XK} {Ng : List Str} {qg : Str} {sg : Scope} {g f c' : Addr} {cdg pm ctv : Value} {params : Arguments} {body : Expr} {scope : Scope} {k i : Nat} {a : Str} {E : L2.St → XK} {tb : XK → TE} {p1 p2 : Pos}
    (I : Inv X pins σ H s) (L : LamP X.env.scope scope ps) (hf : s.heap.get? f = some (PySem.W.kla_obj "<lambda>" (X.env.qual ++ "<lambda>") params body scope (cloFrom X.env.cells scope.names []) pm c' ctv)) (hfn : H f = none) (hfr : f ∉ frs X.stack)
    (hbind : ∀ us : List Value, us.length = ps.length → bindArgs (PySem.W.kla_fn "<lambda>" (X.env.qual ++ "<lambda>") params body scope (cloFrom X.env.cells scope.names []) pm (.ref c') ctv) ⟨us, []⟩ = pure (ps.zip us))
    (hr : Room (k + 1) (X.A.deeper (envOfC qg sg s.heap.objs.size g cdg))) (hgd : (X.A.deeper (envOfC qg sg s.heap.objs.size g cdg)).guards = some [])
    (hx : ∀ σZ, PassesAt (L2.CX X.prog X.w) ((cxOf (L2.CX X.prog X.w) X.prog X.w X.K X.mg X.base Ng qg sg g cdg X.A X.stack s H Eg).tr pn xe) σZ (E σZ))
    (hbody : ∀ (A : Around) (outer : List Env) (s : Shared) (H : Hp) (E : XK), Room k (A.deeper (lamEnv X scope s.heap.objs.size f c')) → (A.deeper (lamEnv X scope s.heap.objs.size f c')).guards = some [] → PE (lamCxP X A outer s H E scope f c' ps) body (tb E))
    (hN : Ng[i]? = some a) (hv : Vis sg a) (hd : (a == ("__debug__" : Str)) = false := by decide) (hcd : (a == ("__classdict__" : Str)) = false := by decide) :
    PE ((cxOf (L2.CX X.prog X.w) X.prog X.w X.K X.mg X.base Ng qg sg g cdg X.A X.stack s H Eg).tr pn xe) (.Call (.Name a p1) [] [] p2)
      (fun σZ HZ Q => σZ[i]? = some (some (.ref f)) ∧ ps = [] ∧ HZ c' = some (CodeO c' (X.env.qual ++ "<lambda>")) ∧ tb (E σZ) (hideP ps X.N σ) HZ Q) := by
  refine ⟨fun pinsZ sZ σZ HZ Q IZ ⟨hs, hps, hc, hb⟩ => ?_⟩
  refine wpAny_Call_Name_kw (thn ((pe_var (pos := p1) (i := i) hN hv hd hcd).run pinsZ sZ σZ HZ (fun v H1 => v = .ref f ∧ H1 = HZ) IZ ⟨.ref f, hs, rfl, rfl⟩) fun u s1 ⟨v, H1, I1, r1, ev, eH⟩ => ?_)
  subst ev eH
  obtain rfl : u = Value.ref f := r1
  have at1 : s1.heap.get? f = some (PySem.W.kla_obj "<lambda>" (X.env.qual ++ "<lambda>") params body scope (cloFrom X.env.cells scope.names []) pm c' ctv) := I1.base.keep f _ hf hfn hfr (fun z => nomatch (show f ∈ ([] : List Addr) from z))
  refine PySem.W.callWith_F0 ⟨_, _, _, _, at1⟩ ?_
  have hl : ([] : List V).length = ps.length := by rw [hps]; rfl
  have un : Un (frs X.stack) [] H H1 s.heap s1.heap := I1.base
  obtain ⟨⟨oc, ws, t, hoc, hdc, hvc⟩, _, _⟩ := I1.hok c' _ hc
  have rc : codeAny (model X.prog X.w) (X.A.deeper (envOfC qg sg s.heap.objs.size g cdg)) (.call (.ref f) ⟨[], []⟩) (CR (L2.CX X.prog X.w) (envOfC qg sg s.heap.objs.size g cdg :: X.stack) X.prog X.w H1 s1 Q (E σZ)) s1 := by
    refine PySem.W.kla_callFunE hr.depth at1 rfl L.co L.gen rfl ⟨c', oc, ws, t, rfl, hoc, hdc, hvc⟩ ?_
    rw [hbind [] hl]
    refine wpAny_pure (wpAny_newFunctionEnv L.nc (fun y hy => L.par _ (List.of_mem_zip hy).1) (fun h₁ hns hsb => ⟨I1.nolimit.fresh _ hsb, ?_⟩) L.kind)
    show codeAny _ _ (.expr body (lamEnv X scope s1.heap.objs.size f c')) _ _
    have kp : ∀ b o, s1.heap.get? b = some o → h₁.get? b = some o := fun b o e => hsb.extBut b o (Nat.ne_of_lt (Heap.lt_size e)) (Heap.get?_push_of_some _ e)
    have J := lam_startP (E := E σZ) (f := f) (c' := c') (tk := s1.toks + (ps.zip ([] : List Value)).length) I L I1.env0 hr.hd (vs := []) (us := []) hl .nil un hns kp
    refine PySem.W.kla_codeExpr (wpAny_mono ((hbody _ _ s1 _ (E σZ) (hr.deeper _) hgd).run [] _ _ H1 Q J hb) (fun v s' hq => ?_) fun e s' hq => hq)
    obtain ⟨w', H', J', rw', q⟩ := hq
    exact ⟨w', H', J'.os, J'.bare, J'.base, J'.hok, rw', q⟩
  show wpAny _ _ (call (.ref f) []) _ _ _
  refine wpAny_call (codeAny_mono rc fun r s' hq => ?_)
  cases r with
  | error e => exact hx σZ pinsZ _ _ e s' I1 hq
  | ok fl =>
    cases fl with
    | ret u => exact I1.after hq
    | next => exact False.elim hq
    | brk => exact False.elim hq
    | cont => exact False.elim hq
end
section
variable {C : Ct} {E : WX} {X : Cx} {x a : Str} {p pos lpos : Pos} {Ng ps : List Str} {g c P : Addr} {fd : FuncData} {pg params : Arguments} {qg : Str} {bodyg : List Stmt} {sg scope : Scope} {dvs : List V} {kws : List (Str × V)} {body : Expr} {kg kl : Nat} {bg : (List D → J → R D) → Gm → J → RS} {ml : Gm → J → R D}
/-- what a def that calls the lambda without arguments keeps, of whatever lambda -/
def Acts0 (X : Cx) (b : Cb) (Ng : List Str) (qg : Str) (sg : Scope) (g : Addr) (bodyg : List Stmt) (a : Str) (kg : Nat) (bg : (List D → J → R D) → Gm → J → RS) : Prop :=
  ∀ (cdv : Value) (s : Shared) (H : Hp) (Ctg : Ct) (Eg : XK) (h : List D → J → R D), Ctg.b = b → Room kg (X.A.deeper (envOfC qg sg s.heap.objs.size g cdv)) → (X.A.deeper (envOfC qg sg s.heap.objs.size g cdv)).guards = some [] →
    (∀ (p1 p2 : Pos) (W : WX) (pn : List (Addr × Obj)) (xe : Value → Shared → Prop), Takes ((cxOf (L2.CX X.prog X.w) X.prog X.w X.K X.mg X.base Ng qg sg g cdv X.A X.stack s H Eg).tr pn xe) W → ME Ctg W ((cxOf (L2.CX X.prog X.w) X.prog X.w X.K X.mg X.base Ng qg sg g cdv X.A X.stack s H Eg).tr pn xe) (.Call (.Name a p1) [] [] p2) (mAct 0 h mNil)) →
    MB Ctg (EX Eg) (cxOf (L2.CX X.prog X.w) X.prog X.w X.K X.mg X.base Ng qg sg g cdv X.A X.stack s H Eg) bodyg (bg h)
theorem me_lamcall0 (tk : Takes X E) (hK : X.K = C.b.K) (hr : Room (kg + 1) X.A) (hkl : kl + 1 ≤ kg) (hgd : X.A.guards = some []) (hg : Gl X x) (hm : X.mg x = some (.ref g)) (hk : PySem.W.keepIn X.K (.ref g) = true) (F : FunD X.K x qg pg bodyg sg dvs kws g fd) (hb : Binds X.K fd [a] []) (Sg : FnScope Ng [a] sg) (hNg : Ng[0]? = some a) (hva : Vis sg a)
    (hps : ps = []) (hG : Acts0 X C.b Ng qg sg g bodyg a kg bg)
    (TB : TabB X.base X.mg c P) (hcode : X.env.code = .ref c) (hmT : (P, X.env.qual ++ "<lambda>") ∈ C.b.tb) (hu : ∀ p ∈ C.b.tb, p.1 = P → p.2 = X.env.qual ++ "<lambda>") (L : LamP X.env.scope scope ps) (hdef : defaultsOf params X.env = ([], []))
    (hbind : ∀ (q : Str) (cl : List (Str × Addr)) (pm cv ctv : Value) (us : List Value), us.length = ps.length → bindArgs (PySem.W.kla_fn "<lambda>" q params body scope cl pm cv ctv) ⟨us, []⟩ = pure (ps.zip us))
    (hbody : ∀ (A : Around) (outer : List Env) (s : Shared) (H : Hp) (Ct : Ct) (E : XK) (f c' : Addr), Ct.b = C.b → Room kl (A.deeper (lamEnv X scope s.heap.objs.size f c')) → (A.deeper (lamEnv X scope s.heap.objs.size f c')).guards = some [] → ME Ct (EX E) (lamCxP X A outer s H E scope f c' ps) body ml)
    (hdb : (x == ("__debug__" : Str)) = false := by decide) (hd : (a == ("__debug__" : Str)) = false := by decide) (hcd : (a == ("__classdict__" : Str)) = false := by decide) :
    ME C E X (.Call (.Name x p) [.Lambda params body scope lpos] [] pos) (mLam Ng ps X.N bg ml) := by
  obtain ⟨oc, od, dV, kV, doc, pm, an, cdv, ct, osl, rfl, lk, hcg, _, _⟩ := F.ex
  refine ⟨fun pins s σ H Q I ⟨O, ρ, Γ, j, S, h⟩ => ?_⟩
  refine wpAny_Call_Name_kw (ld_glob I hg hm ?_ hdb)
  refine PySem.W.callWith_K (h₀ := X.base) I.ok.mod.kin hk ?_ (by rfl) (by rfl)
  show wpAny _ _ (spliced ((false, eval (.Lambda params body scope lpos) X.env) :: backTo pos (starEach [] X.env))) _ _ s
  refine Calls.spliced_cons (lam_makeT (T := C.b.tb) I TB hcode hmT hu S.st.tab hdef (L.has I.ok) fun f c' pm' ctv H1 s' I1 eN eT T1 eZ _ hf hfn hfr hco => ?_)
  refine Calls.spliced_nil ⟨I1.kIn, ?_⟩
  -- the state behind the making
  have k1 : Kp ρ j H ρ j H1 := ⟨fun b o _ t e => eN b o e t, eT, fun _ z => .inl z, fun _ z => .inl z, Pfx.refl⟩
  have th : ∀ b, (∃ o, H b = some o) → ∃ o, H1 b = some o := fun b ⟨o, e⟩ => by
    by_cases t : NT o
    · exact ⟨o, eN b o e t⟩
    · obtain ⟨qs, rfl⟩ : ∃ qs, o = .tbl qs := Classical.byContradiction fun z => t fun qs e => z ⟨qs, e⟩
      obtain ⟨rs, e1⟩ := eT b qs e
      exact ⟨_, e1⟩
  have s1 : Sto C.b O ρ H1 j := ⟨fun b z => th b (S.st.trk b z), T1, fun b z => th b (S.st.rtr b z), S.st.rl, S.st.nd, fun n d e => let ⟨b, eb, q⟩ := S.st.sto n d e; ⟨b, eb, q.map (fun o t e => eN b o e t) fun _ _ => (k1.step O).den⟩⟩
  have S1 : Sok C O ρ σ H1 Γ j := S.keep k1 s1
  have h1 := Post.shift S k1 h
  have notc : ¬ Live ρ j c' := not_live_ext s1 (by unfold CodeO at hco; exact hco)
  -- the start of the def
  have Sg0 : Sok ⟨C.b, H1, ρ, j, O, some f⟩ O ρ (L2.start Ng [.ref f]) H1 (some .act :: List.replicate (Ng.length - 1) none) j :=
    { st := s1, len := by simp [L2.start], pre := Pfx.refl, ex := fun _ _ _ _ e => e, ext0 := fun _ qs e => ⟨qs, e⟩, onew := fun _ z => .inl z, b0 := fun _ z => z, new := fun _ z => .inl z, rnw := fun _ z => .inl z
      slot := fun i c hc => by
        cases i with
        | zero => cases hc; exact ⟨f, start_get rfl, rfl⟩
        | succ i =>
          rw [List.getElem?_cons_succ, List.getElem?_replicate] at hc
          split at hc <;> cases hc
      dist := fun i k ds es b hc => by
        cases i with
        | zero => cases hc
        | succ i =>
          rw [List.getElem?_cons_succ, List.getElem?_replicate] at hc
          split at hc <;> cases hc
      b00 := s1.trk }
  have rc : codeAny (model X.prog X.w) X.A (.call (.ref g) ⟨[.ref f], []⟩) (CR (L2.CX X.prog X.w) X.stack X.prog X.w H1 s' Q (WE E σ)) s' := by
    refine run_ofS (N := Ng) (ps := [a]) (us := [.ref f]) (vs := [.ref f]) lk hcg Sg hr I1.env0 (hb s' [.ref f] I1.kIn rfl) (.cons rfl .nil) rfl fun hr' => ?_
    refine ⟨_, hG cdv s' H1 ⟨C.b, H1, ρ, j, O, some f⟩ (WE E σ) (lamM ps X.N ml Γ) rfl hr' hgd (fun p1 p2 W pn xe tkW => ?_), O, ρ, _, j, Sg0, ?_⟩
    · -- the lambda called
      refine PE.imp (pe_act0 (i := 0) (k := kl) (E := WE W) (tb := fun E' σ' H' Q' => ∃ Ct : Ct, Ct.b = C.b ∧ St0 Ct (EX E') ml σ' H' fun O d j' ρ' H'' => ∀ v, Den Ct.b ρ' H'' (Bo O ρ' j') v d → Q' v H'') I1 L hf hfn hfr (hbind _ _ _ _ _) (hr'.mono hkl) hgd
        (fun σZ => passAt tkW σZ) (fun A outer s0 H0 E' hr2 hg2 => ⟨fun pins s σ H Q I ⟨Ct, hCt, q⟩ => (hbody A outer s0 H0 Ct E' f c' hCt hr2 hg2).run pins s σ H Q I q⟩) hNg hva hd hcd) ?_
      rintro σZ HZ QZ ⟨Oz, ρz, Γz, jz, Sz, hz⟩
      unfold mAct at hz
      split at hz
      · rename_i hΓ
        obtain ⟨b, eb, ef⟩ := Sz.slot 0 _ hΓ
        have ef : some f = some b := ef
        cases ef
        have q2 : Post ⟨C.b, H1, ρ, j, O, some f⟩ W Oz σZ Γz ρz jz HZ (if ([] : List D).length = ps.length then ml (([] : List D).map (fun d => some (.val d)) ++ hideP ps X.N (keepG Γ)) jz else .bad) (fun d j' ρ' H' => ∀ v, Den C.b ρ' H' (Bo Oz ρ' j') v d → QZ v H') := hz
        obtain ⟨hl, q2⟩ := Post.ite q2
        have st : Step ρ (Bo O ρ j) H1 ρz (Bo Oz ρz jz) HZ := ⟨⟨fun b o n t e => Sz.ex b o (fun z => n (.inr z)) t e, Sz.ext0⟩, fun b z => by
          rcases z with z | z
          · exact (Sz.onew b z).imp .inl id
          · exact (Sz.new b z).imp .inr id, Sz.pre⟩
        refine ⟨eb, hps, Sz.ex c' _ notc (fun _ z => codeO_ne _ z) hco, ⟨C.b, HZ, ρz, jz, Oz, none⟩, rfl, Oz, ρz, hideP ps X.N (keepG Γ), jz, ?_, ?_⟩
        · have gl : (keepG Γ).length = σ.length := by unfold keepG; rw [List.length_map]; exact S1.len
          have key : ∀ (i : Nat) (c : Cell), (hideP ps X.N (keepG Γ))[i]? = some (some c) → ∃ d, c = .val d ∧ ∃ v, (hideP ps X.N σ)[i]? = some (some v) ∧ Den C.b ρz HZ (Bo Oz ρz jz) v d := fun i c hc => by
            have hN : i < X.N.length := by
              have := (List.getElem?_eq_some_iff.mp hc).1
              rw [hideP_length, gl, I1.len] at this
              exact this
            obtain ⟨np, hc⟩ := hideP_get (List.getElem?_eq_getElem hN) hc
            obtain ⟨d, rfl, hd'⟩ := keepG_get hc
            obtain ⟨v, ev, r⟩ := S1.slot _ _ hd'
            exact ⟨d, rfl, v, hideP_put (List.getElem?_eq_getElem hN) np ev, st.den r⟩
          exact { st := Sz.st, len := by simp [hideP_length, gl], pre := Pfx.refl, ex := fun _ _ _ _ e => e, ext0 := fun _ qs e => ⟨qs, e⟩, onew := fun _ z => .inl z, b0 := fun _ z => z, new := fun _ z => .inl z, rnw := fun _ z => .inl z
                  slot := fun i c hc => by
                    obtain ⟨d, rfl, v, ev, r⟩ := key i c hc
                    exact ⟨v, ev, r⟩
                  dist := fun i k e1 e2 b hc => by
                    obtain ⟨d, z, _⟩ := key i _ hc
                    cases z
                  b00 := Sz.st.trk }
        · revert q2
          show Post _ _ _ _ _ _ _ _ (ml (hideP ps X.N (keepG Γ)) jz) _ → _
          generalize ml (hideP ps X.N (keepG Γ)) jz = r
          intro q2
          cases r with
          | ok d j3 => exact fun ρ3 H3 k3 S3 v hv => q2 ρ3 H3 k3 (Sz.keep k3 S3.st) v hv
          | exc n fs j3 => exact fun y us ρ3 H3 k3 S3 hy hn hf' => q2 y us ρ3 H3 k3 (Sz.keep k3 S3.st) hy hn hf'
          | bad => exact q2
      · exact hz.elim
    · -- behind the def
      have h1 : Post C E O σ Γ ρ j H1 (outF (bg (lamM ps X.N ml Γ) (some .act :: List.replicate (Ng.length - 1) none) j)) (fun d j' ρ' H' => ∀ v, Den C.b ρ' H' (Bo O ρ' j') v d → Q v H') := h1
      revert h1
      generalize bg (lamM ps X.N ml Γ) (some .act :: List.replicate (Ng.length - 1) none) j = r
      intro h1
      have le : ∀ {O' : Addr → Prop} {ρ' : List Addr} {σ' : L2.St} {H' : Hp} {Γ' : Gm} {j' : J}, Sok ⟨C.b, H1, ρ, j, O, some f⟩ O' ρ' σ' H' Γ' j' → ∀ b, Bo O ρ' j' b → Bo O' ρ' j' b ∨ H' b = none := fun S b z => .inl (z.imp (S.b0 b) id)
      cases r with
      | nx Γ' j' => exact fun O' ρ' σ' H' _ S' => h1 ρ' H' S'.out.1 (S1.keep S'.out.1 S'.out.2) .non .non
      | ret d j' => exact fun O' ρ' σ' H' Γ' v _ S' hv => h1 ρ' H' S'.out.1 (S1.keep S'.out.1 S'.out.2) v (hv.less (le S'))
      | brk Γ' j' => exact h1.elim
      | cont Γ' j' => exact h1.elim
      | exc n fs Γ' j' => exact fun O' ρ' σ' H' y us _ S' hy hn hf' => h1 y us ρ' H' S'.out.1 (S1.keep S'.out.1 S'.out.2) hy (fun z => hn (z.imp (S'.b0 y) id)) (hf'.less (le S'))
      | bad => exact h1.elim
  refine wpAny_call (codeAny_mono rc fun r s2 hq => ?_)
  cases r with
  | error e => exact passAt tk σ pins _ _ e s2 I1 hq
  | ok fl =>
    cases fl with
    | ret u => exact I1.after hq
    | next => exact False.elim hq
    | brk => exact False.elim hq
    | cont => exact False.elim hq
end
end On

set_option Elab.async false
set_option linter.all false
set_option maxRecDepth 100000
set_option maxHeartbeats 2000000
set_option autoImplicit false
namespace On
open PySem PySem.Spec PyProof.Rows L2
/-! ### x != y by an own __eq__ -/
section
variable {prog : Program} {w : World} {A : Around} {E : Value → Shared → Prop} {s : Shared} {K : PySem.W.Frag} {x C f : Addr} {ox : Obj} {od : Option Obj} {b : Value}
theorem ne_entry {Q : Fin → Shared → Prop} (X : K.In s.heap) (I : PySem.W.InstAt s.heap x ox C od) (hs : PySem.W.findIn K (.ref C) "__eq__" = some (some (.ref f))) (hf : PySem.W.isFn K (.ref f) = true) (hu : A.units < cLine)
    (hcall : wpAny (model prog w) A (call (.ref f) [.ref x, b]) (fun v s' => ∃ c, v = .bool c ∧ Q (.done (.ret (.bool (!c)))) s') E s) : wpAny (model prog w) A (Builtin.«object.__ne__» ⟨[.ref x, b], []⟩) Q E s := by
  unfold Builtin.«object.__ne__»
  repeat (first
    | with_reducible refine wpAny_cRoomFor hu ?_
    | (refine wpAny_bind (m := callSpecialIfBound? (.ref x) (Str.ofString "__eq__") [b])
        (PySem.W.ifBound_K X I hs hf (wpAny_mono hcall (fun r s' hr => by
          obtain ⟨b, rfl, hq⟩ := hr
          repeat (first | exact hq | exact wpAny_pure hq | exact wpAny_truthy_bool hq | (refine wpAny_bind (m := truthy (.bool _)) (wpAny_truthy_bool ?_)) | wp_step)) fun _ _ e => e)))
    | wp_step)
theorem call_objNe {Q : Value → Shared → Prop} (X : K.In s.heap) (I : PySem.W.InstAt s.heap x ox C od) (hm : PySem.W.mroIn K C (.type "object") = some true) (hs : PySem.W.findIn K (.ref C) "__eq__" = some (some (.ref f))) (hf : PySem.W.isFn K (.ref f) = true) (hu : A.units + 1 < cLine)
    (hcall : wpAny (model prog w) A.in1 (call (.ref f) [.ref x, b]) (fun v s' => ∃ c, v = .bool c ∧ Q (.bool (!c)) s') E s) : wpAny (model prog w) A (call (.builtin "object.__ne__") [.ref x, b]) Q E s :=
  wpAny_call (codeAny_call_builtin F.cmp_object.ne.plain F.cmpEntry_ne (PySem.W.check_slot F.cmpKind_ne F.cmpSplit_ne (I.type.andThen (PySem.W.looks_mroIn X hm)) (F.cmpArgs_ne _ _) (ne_entry (A := A.in1) X I hs hf hu (wpAny_mono hcall (fun v s' ⟨c, e, q⟩ => ⟨c, e, q⟩) fun _ _ e => e))))
theorem ifBound_objNe {M : Model} {args : List Value} {Q : Option Value → Shared → Prop} (X : K.In s.heap) (I : PySem.W.InstAt s.heap x ox C od) (hs : PySem.W.findIn K (.ref C) "__ne__" = some (some (.builtin "object.__ne__")))
    (h : wpAny M A (call (.builtin "object.__ne__") (.ref x :: args)) (fun v => Q (some v)) E s) : wpAny M A (callSpecialIfBound? (.ref x) "__ne__" args) Q E s := by
  simp only [callSpecialIfBound?, bindSpecialIfBound?]
  refine wpAny_holding (wpAny_bind (wpAny_bind (wpAny_bind (I.type.here ((PySem.W.looks_findIn X hs).here ?_)))))
  refine wpAny_bind (wpAny_askSetting (wpAny_ite ?_))
  have fin : wpAny M A (call (.builtin "object.__ne__") ([.ref x] ++ args) >>= fun v => pure (some v)) Q E s := wpAny_bind (wpAny_mono h (fun v s' h' => wpAny_pure h') fun _ _ h' => h')
  split
  · exact wpAny_bind (wpAny_of_eq (F.cmp_object.ne.bind _) (wpAny_pure (by exact fin)))
  · exact wpAny_tryCatch (wpAny_bind (wpAny_of_eq (F.cmp_object.ne.bind _) (wpAny_pure (by exact fin))))
theorem rc_ne {h₀ : Heap} {L : Addr} {m : Str → Option Value} {tb : Value} {Q : Value → Shared → Prop} (hu : A.units + 1 < cLine) (X : K.In s.heap) (I : PySem.W.InstAt s.heap x ox C od) (hb : PySem.W.Looks (model prog w) s.heap (typeOf b) tb) (hn : PySem.W.notFirst K C tb = true) (hm : PySem.W.mroIn K C (.type "object") = some true)
    (hne : PySem.W.findIn K (.ref C) "__ne__" = some (some (.builtin "object.__ne__"))) (hs : PySem.W.findIn K (.ref C) "__eq__" = some (some (.ref f))) (hf : PySem.W.isFn K (.ref f) = true)
    (hcall : wpAny (model prog w) A.in1 (call (.ref f) [.ref x, b]) (fun v s' => ∃ c, v = .bool c ∧ Q (.bool (!c)) s') E s) : wpAny (model prog w) A (richCompare .NotEq (.ref x) b) Q E s := by
  have one : wpAny (model prog w) A (tryCompare (.ref x) "__ne__" b) (fun r s' => ∃ v, r = some v ∧ Q v s') E s := by
    unfold tryCompare
    refine wpAny_bind (ifBound_objNe X I hne (wpAny_mono (call_objNe X I hm hs hf hu (Q := fun v s' => (∃ c, v = .bool c) ∧ Q v s') (wpAny_mono hcall (fun v s' ⟨c, e, q⟩ => ⟨c, e, ⟨_, rfl⟩, q⟩) fun _ _ e => e)) (fun v s' hv => ?_) fun _ _ e => e))
    obtain ⟨⟨c, rfl⟩, q⟩ := hv
    exact wpAny_pure ⟨_, rfl, q⟩
  unfold richCompare
  simp only [oneThing_ref]
  refine wpAny_holding (wpAny_bind (wpAny_cRoomFor (by omega) ?_))
  refine wpAny_bind (I.type.here (wpAny_bind (hb.here ?_)))
  split
  · rename_i q
    have e : PySem.W.subIn K tb (.ref C) = some false := by
      rcases Bool.or_eq_true_iff.mp hn with e | e
      · rw [beq_iff_eq.mp e] at q; simp at q
      · exact beq_iff_eq.mp e
    refine wpAny_bind ((PySem.W.looks_subIn X e).here ?_)
    simp only [Bool.false_eq_true, if_false]
    refine wpAny_bind (wpAny_mono one (fun r s' z => ?_) fun _ _ e => e)
    obtain ⟨v, rfl, hq⟩ := z
    exact wpAny_pure hq
  · refine wpAny_bind (wpAny_pure ?_)
    simp only [Bool.false_eq_true, if_false]
    refine wpAny_bind (wpAny_mono one (fun r s' z => ?_) fun _ _ e => e)
    obtain ⟨v, rfl, hq⟩ := z
    exact wpAny_pure hq
end
def rOwnNe (K : PySem.W.Frag) (A : Addr) (sp : Sp) : R2 := fun x y H Q => ∃ a dx fs t, x = .ref a ∧ H a = some (.ins A dx fs) ∧ TyX K H y t ∧ PySem.W.notFirst K A t = true ∧ ∀ σ, sp [x, y] H (fun v H' => ∃ b, v = .bl b ∧ Q (.bl (!b)) H') (WE (fun _ _ _ _ => False) σ)
section
variable {X : Cx} {A f : Addr} {fd : FuncData} {ps : List Str} {sp : Sp} {k : Nat}
theorem op_ownNe (F : FnG X.prog X.w X.K X.mg X.base (L2.CX X.prog X.w) k f fd ps sp) (hr : Room (k + 1) X.A) (hgd : X.A.guards = some []) (hb : Binds X.K fd ps []) (hm : Meth X.K A "__eq__" f) (hmr : PySem.W.mroIn X.K A (.type "object") = some true) (hne : PySem.W.findIn X.K (.ref A) "__ne__" = some (some (.builtin "object.__ne__"))) :
    OpR X (compareOp .NotEq) (rOwnNe X.K A sp) := by
  rintro pins s σ H x y v u Q I rx ry ⟨a, dx, fs, t, rfl, ha, ty, nf, q⟩
  cases (show v = Value.ref a from rx)
  obtain ⟨mA, J, _⟩ := ins_get I.hok ha
  obtain ⟨od, J, _⟩ := J.look
  obtain ⟨P, Z, hP, _⟩ := kit_of I ry ty
  show wpAny (model X.prog X.w) X.A (richCompare .NotEq (.ref a) u) _ _ _
  have hu : X.A.units + 1 < cLine := by have := hr.un; omega
  refine rc_ne (h₀ := X.base) (L := X.env.locals) (m := fun _ => none) hu I.kIn J (Z.ty _ _ I.kIn hP) nf hmr hne hm.at_ hm.fn ?_
  have h := q σ
  have r : Vals [V.ref a, y] [Value.ref a, u] := .cons rfl (.cons ry .nil)
  have hl : ([Value.ref a, u] ++ ([] : List Value)).length = ps.length := by rw [List.append_nil, ← r.length]; exact F.len _ _ _ _ h
  have bd := hb s [.ref a, u] I.kIn hl
  rw [List.append_nil] at bd
  refine wpAny_call (codeAny_mono (F.run X.A.in1 X.stack s H ⟨[.ref a, u], []⟩ [.ref a, u] [.ref a, y] _ _ hr.in1 hgd I.env0.in1 bd r h) fun r s' hq => ?_)
  cases r with
  | error e => exact passAt takes0 σ pins H s e s' I hq
  | ok fl =>
    cases fl with
    | ret w =>
      obtain ⟨z, H', I', rz, b, rfl, qq⟩ := I.after hq
      cases (show w = Value.bool b from rz)
      exact ⟨b, rfl, .bl (!b), H', I', rfl, qq⟩
    | next => exact False.elim hq
    | brk => exact False.elim hq
    | cont => exact False.elim hq
end
def neRes (r : R D) : R D := r.nox.bind fun d j => match d with
  | .bl b => .ok (.bl (!b)) j
  | _ => .bad
def mNeO (c : Nat) (cs : List Nat) (g : List D → J → R D) (ma mb : Gm → J → R D) : Gm → J → R D := fun Γ j => (ma Γ j).bind fun d j => (mb Γ j).bind fun e j => match deref j d with
  | .ins n _ => bif (n == c) && tyOk cs (deref j e) then neRes (g [d, e] j) else .bad
  | _ => .bad
section
variable {C : Ct} {E : WX} {X : Cx} {a b : Expr} {ma mb : Gm → J → R D} {pos : Pos} {c k : Nat} {cs : List Nat} {g : List D → J → R D}
theorem neRes_post {O : Addr → Prop} {ρ : List Addr} {σ : L2.St} {Γ : Gm} {H : Hp} {j : J} {r : R D} {Q : VK} (h : Post C E O σ Γ ρ j H (neRes r) fun d j' ρ' H' => ∀ v, Den C.b ρ' H' (Bo O ρ' j') v d → Q v H') :
    Post C (fun _ _ _ _ => False) O σ Γ ρ j H r fun d j' ρ' H' => ∀ v, Den C.b ρ' H' (Bo O ρ' j') v d → ∃ b, v = .bl b ∧ Q (.bl (!b)) H' := by
  cases r with
  | bad => exact h
  | exc c fs j => exact h.elim
  | ok d j1 =>
    cases d with
    | bl b => exact fun ρ' H' k S v hv => by cases hv; exact ⟨b, rfl, h ρ' H' k S _ (.bl _)⟩
    | _ => exact h.elim
theorem me_neO (G : Gm1 X.prog X.w C.b X.mg X.base k c "__eq__" (spG C.b g)) (N : NF C.b (C.b.cm c) cs) (hmr : PySem.W.mroIn C.b.K (C.b.cm c) (.type "object") = some true) (hne : PySem.W.findIn C.b.K (.ref (C.b.cm c)) "__ne__" = some (some (.builtin "object.__ne__"))) (hK : X.K = C.b.K) (hr : Room (k + 1) X.A) (hgd : X.A.guards = some []) (ha : ME C E X a ma) (hb : ME C E X b mb) (hm : behindInMarks .NotEq b = false) : ME C E X (.Compare a [.NotEq] [b] pos) (mNeO c cs g ma mb) := by
  obtain ⟨f, fd, ps, F, hc, hme, hbi⟩ := G.ex
  rw [← hK] at F hme hbi hmr hne
  refine PE.imp (pe_cmpR (op_ownNe F hr hgd hbi hme hmr hne) ha hb hm) fun σ H Q ⟨O, ρ, Γ, j, S, h⟩ => ⟨O, ρ, Γ, j, S, Post.imp (Post.bind S h) fun d j1 ρ1 H1 k1 S1 q x hx => ⟨O, ρ1, Γ, j1, S1, Post.imp (Post.bind S1 q) fun e j2 ρ2 H2 k2 S2 q2 y hy => ?_⟩⟩
  split at q2
  · rename_i n fs hd
    cases m : ((n == c) && tyOk cs (deref j2 e)) with
    | false => rw [m] at q2; exact q2.elim
    | true =>
      rw [m] at q2
      obtain ⟨m1, m2⟩ := Bool.and_eq_true_iff.mp m
      have := beq_iff_eq.mp m1
      subst this
      have hw := S2.st.view ((k2.step O).den hx)
      rw [hd] at hw
      obtain ⟨a, dx, vs, rfl, hia, r⟩ := hw.insAt
      obtain ⟨t, ty, nf⟩ := tyX_ok N (S2.st.view hy) m2
      rw [← hK] at ty nf
      have z := spG_of (E := fun _ _ _ _ => False) S2 (.cons ((k2.step O).den hx) (.cons hy .nil)) (neRes_post q2)
      exact ⟨a, dx, vs, t, rfl, hia, ty, nf, fun σ' => z⟩
  · exact q2.elim
end
def neB (K : PySem.W.Frag) (A : Addr) : Bool := decide (PySem.W.mroIn K A (.type "object") = some true) && He.eqO (PySem.W.findIn K (.ref A) "__ne__") (some (some (.builtin "object.__ne__")))
theorem neB_ok {K : PySem.W.Frag} {A : Addr} (h : neB K A = true) : PySem.W.mroIn K A (.type "object") = some true ∧ PySem.W.findIn K (.ref A) "__ne__" = some (some (.builtin "object.__ne__")) :=
  ⟨of_decide_eq_true (Bool.and_eq_true_iff.mp h).1, He.eqO_ok (Bool.and_eq_true_iff.mp h).2⟩
end On

set_option Elab.async false
set_option linter.all false
set_option maxRecDepth 100000
set_option maxHeartbeats 2000000
set_option autoImplicit false
namespace On
open PySem PySem.Spec PyProof.Rows L2
/-! ### classmethods and the module's dicts, in the head's facts -/
structure CmD where
  at_ : Str × Str
  name : Str
  qual : Str
  params : Arguments
  body : List Stmt
  scope : Scope
def cmG (K : PySem.W.Frag) (p : Str × Str) : Addr := match PySem.W.recIn K (He.ma K (He.ga K p.1) p.2) "classmethod" with
  | some (.ref g :: _) => g
  | _ => (match PySem.W.recIn K (He.ma K (He.ga K p.1) p.2) "property" with
    | some (.ref g :: _) => g
    | _ => 0)
def cmW (K : PySem.W.Frag) (p : Str × Str) : He.FnW := match K.lookup (cmG K p) with
  | some ⟨_, _, .func fd, _⟩ => some (fd.name, fd.qualname, fd.params, fd.body, fd.scope, fd.globals, fd.closure, fd.builtins)
  | _ => none
def CmD.val (d : CmD) : He.FnW := some (d.name, d.qual, d.params, .stmts d.body, d.scope, mainGlobals, [], builtinsNs)
def CmD.ok (K : PySem.W.Frag) (d : CmD) : Bool := PySem.W.keepIn K (.ref (cmG K d.at_)) && (match K.lookup (cmG K d.at_) with
  | some ⟨_, _, .func fd, _⟩ => PySem.W.codeIn K fd.code d.qual && He.dflB K fd.defaults []
  | _ => false)
theorem CmD.funD {K : PySem.W.Frag} {d : CmD} (e : cmW K d.at_ = d.val) (c : d.ok K = true) : ∃ fd, FunD K d.name d.qual d.params d.body d.scope [] [] (cmG K d.at_) fd := by
  obtain ⟨kp, c2⟩ := He.ba c
  unfold cmW at e
  cases q : K.lookup (cmG K d.at_) with
  | none => rw [q] at c2; cases c2
  | some o =>
    obtain ⟨oc, od, dt, osl⟩ := o
    rw [q] at c2 e
    cases dt with
    | func fd =>
      obtain ⟨n1, n2, n3, n4, n5, n6, n7, n8, n9, n10, n11, n12, n13, n14, n15⟩ := fd
      have e2 : (some (n1, n2, n3, n4, n5, n6, n7, n15) : He.FnW) = some (d.name, d.qual, d.params, .stmts d.body, d.scope, mainGlobals, [], builtinsNs) := e
      simp only [Option.some.injEq, Prod.mk.injEq] at e2
      obtain ⟨h1, h2, h3, h4, h5, h6, h7, h8⟩ := e2
      subst h1 h2 h3 h4 h5 h6 h7 h8
      have c3 : (PySem.W.codeIn K n13 d.qual && He.dflB K n8 []) = true := c2
      obtain ⟨k1, k2⟩ := He.ba c3
      exact ⟨_, ⟨oc, od, n8, n9, n10, n11, n12, n13, n14, osl, rfl, q, k1, He.dflB_ok k2, .inl rfl⟩, kp⟩
    | _ => cases c2
abbrev AlW : Type := (AlG × Bool) × List He.FnW × List (Option (List (Option (Str × Int))))
def obsWG (n : Nat) (B : PySem.W.Frag → Bool) (fn : List He.DefD) (sf : List DefS) (tf : List He.Defn) (cf : List CmD) (ts : List He.Tab) (g : Addr → Option Obj) : AlW := (obsGG n B fn sf tf g, cf.map fun d => cmW (frK g n) d.at_, ts.map fun t => He.dicW (frK g n) (t.1 (frK g n)))
def valW (fn : List He.DefD) (sf : List DefS) (cf : List CmD) (ts : List He.Tab) (w : World) : AlW := ((valG fn sf, true), cf.map CmD.val, ts.map fun t => some (He.keysIn w.params t.2))
structure SaysW (w : World) (cf : List CmD) (ts : List He.Tab) (K : PySem.W.Frag) : Prop where
  cm : cf.map (fun d => cmW K d.at_) = cf.map CmD.val
  kd : ts.map (fun t => He.dicW K (t.1 K)) = ts.map fun t => some (He.keysIn w.params t.2)
def hookW (n : Nat) (B : PySem.W.Frag → Bool) (fn : List He.DefD) (sf : List DefS) (tf : List He.Defn) (cf : List CmD) (ts : List He.Tab) : PySem.W.Hook where
  α := AlW
  obs := fun s => obsWG n B fn sf tf cf ts s.heap.get?
  val := fun w => valW fn sf cf ts w
  says := fun w h => ∃ K : PySem.W.Frag, K.In h ∧ SaysG B fn sf K ∧ TabsG tf h K ∧ SaysW w cf ts K
  of := fun w s e => ⟨_, He.frT_in, congrArg (fun z : AlW => z.1.1) e, tabsG_of (congrArg (fun z : AlW => z.1.2) e), congrArg (fun z : AlW => z.2.1) e, congrArg (fun z : AlW => z.2.2) e⟩
  keeps := fun _ _ _ ⟨K, hK, c, t, s⟩ k => ⟨K, PySem.W.Frag.In.keeps hK k, c, ⟨t.hd, t.out, fun p hp => k _ _ (t.empty p hp)⟩, s⟩
theorem obsWG_eq {n : Nat} {B : PySem.W.Frag → Bool} {fn : List He.DefD} {sf : List DefS} {tf : List He.Defn} {cf : List CmD} {ts : List He.Tab} {g : Addr → Option Obj} {s : Shared} (h : ∀ a, g a = s.heap.get? a) : obsWG n B fn sf tf cf ts g = (hookW n B fn sf tf cf ts).obs s := by
  have e : g = s.heap.get? := funext h
  rw [e] <;> rfl
structure TW (w : World) (cf : List CmD) (ts : List He.Tab) (fa : List He.Fa) (ex : PySem.W.Frag → List Bool) (fn : List He.DefD) (sf : List DefS) (tf : List He.Defn) (mg : Str → Option Value) (K : PySem.W.Frag) (base : Heap) : Prop extends TT fa ex fn sf tf mg K base where
  w_ : SaysW w cf ts K
section
variable {w : World} {cf : List CmD} {ts : List He.Tab} {fa : List He.Fa} {ex : PySem.W.Frag → List Bool} {fn : List He.DefD} {sf : List DefS} {tf : List He.Defn} {mg : Str → Option Value} {K : PySem.W.Frag} {base : Heap}
theorem TW.tab (T : TW w cf ts fa ex fn sf tf mg K base) (i : Nat) {t : He.Tab} (h : ts[i]? = some t := by rfl) : ∃ es n, KDict K w (t.1 K) es n := by
  have e2 : (ts.map fun t => He.dicW K (t.1 K))[i]? = (ts.map fun t => some (He.keysIn w.params t.2))[i]? := by rw [T.w_.kd]
  rw [List.getElem?_map, List.getElem?_map, h] at e2
  exact He.dicW_ok (Option.some.inj e2)
theorem TW.cm (T : TW w cf ts fa ex fn sf tf mg K base) (i : Nat) {d : CmD} (c : d.ok K = true) (h : cf[i]? = some d := by rfl) : ∃ fd, FunD K d.name d.qual d.params d.body d.scope [] [] (cmG K d.at_) fd := by
  have e2 : (cf.map fun d => cmW K d.at_)[i]? = (cf.map CmD.val)[i]? := by rw [T.w_.cm]
  rw [List.getElem?_map, List.getElem?_map, h] at e2
  exact CmD.funD (Option.some.inj e2) c
end
/-! ### C.m(..), m a classmethod -/
section
variable {X : Cx} {CX : CXT} {k : Nat} {C p g : Addr} {mc : Value} {fd : FuncData} {ps : List Str} {sp : Sp} {E : L2.St → XK} {o e : Expr} {es : List Expr} {m : Str} {pos apos : Pos} {ta : TE} {t : TA} {pl : Sem Bool}
def tCMethS (C : Addr) (sp : Sp) (E : L2.St → XK) (ta : TE) (t : TA) : TE := fun σ H Q => ta σ H fun x H1 => x = .ref C ∧ t σ H1 fun vs H2 => sp (.ref C :: vs) H2 Q (E σ)
theorem pe_cmethS (he : PE X o ta) (r : ClX.CRead X.K C mc) (c : ClX.CMet X.K C mc m p g) (F : FnG X.prog X.w X.K X.mg X.base CX k g fd ps sp) (hr : Room k X.A) (hgd : X.A.guards = some []) (hb : Binds X.K fd ps []) (hx : ∀ σ, PassesAt CX X σ (E σ)) (ha : PA X (e :: es) t)
    (hst : starEach (e :: es) X.env = (false, eval e X.env) :: starEach es X.env := by rfl) (hpl : (backTo pos (starEach es X.env)).any (·.1) = false := by rfl)
    (ht : eval (.Call (.Attribute o m apos) (e :: es) [] pos) X.env = (do
      let ov ← eval o X.env
      standAt apos.atName
      let (f, first) ← holding [ov] (getMethod ov m pl)
      callWith pos f first (backTo pos (starEach (e :: es) X.env)) (backToKw pos (keywordEach [] X.env))) := by rfl) :
    PE X (.Call (.Attribute o m apos) (e :: es) [] pos) (tCMethS C sp E ta t) := by
  refine ⟨fun pins s σ H Q I h => ?_⟩
  refine PySem.W.methodCall_KW (pl := pl) (thn (he.run pins s σ H _ I h) fun u s1 ⟨x, H1, I1, rx, ex, q⟩ => ?_) ht
  subst ex
  obtain rfl : u = Value.ref C := rx
  refine ClX.getmethcm_ok I1 r c fun s2 I2 => ?_
  refine ClX.callwith_cm I2 (ClX.base_none I1 (Nat.le_refl _)) c.fi (thn (ha.run pos _ s2 σ H1 _ I2 q) fun us s3 ⟨vs, H2, I3, rv, q2⟩ => ⟨⟨ClX.pin_at I3, I3.kIn⟩, ?_⟩) hst hpl
  have I4 := ClX.unpin I3
  have r4 : Vals (V.ref C :: vs) (Value.ref C :: us) := .cons rfl rv
  have hl : ((Value.ref C :: us) ++ ([] : List Value)).length = ps.length := by rw [List.append_nil, ← r4.length]; exact F.len _ _ _ _ q2
  have bd := hb s3 (.ref C :: us) I4.kIn hl
  rw [List.append_nil] at bd
  refine wpAny_call (PySem.W.method_call (ClX.pin_at I3) (codeAny_mono (F.run X.A X.stack s3 H2 ⟨.ref C :: us, []⟩ _ _ Q (E σ) hr hgd I4.env0 bd r4 q2) fun r s' hq => ?_))
  cases r with
  | error w => exact hx σ pins _ _ w s' I4 hq
  | ok fl =>
    cases fl with
    | ret u => exact I4.after hq
    | next => exact False.elim hq
    | brk => exact False.elim hq
    | cont => exact False.elim hq
/-! ### x(..), x a name that holds a class -/
theorem pe_makeV {A f : Addr} {i : Nat} {x : Str} {q : Pos} (M : Mk X.K A f) (F : FnG X.prog X.w X.K X.mg X.base CX k f fd ps sp) (hr : Room (k + 1) X.A) (hgd : X.A.guards = some []) (hN : X.N[i]? = some x) (hv : Vis X.env.scope x) (hb : Binds X.K fd ps []) (hx : ∀ σ, PassesAt CX X σ (E σ))
    (ha : PA X (e :: es) t) (hd : (x == ("__debug__" : Str)) = false := by decide) (hcd : (x == ("__classdict__" : Str)) = false := by decide) (he : starEach (e :: es) X.env = (false, eval e X.env) :: starEach es X.env := by rfl) (hpl : (backTo pos (starEach es X.env)).any (·.1) = false := by rfl) :
    PE X (.Call (.Name x q) (e :: es) [] pos) (fun σ H Q => σ[i]? = some (some (.ref A)) ∧ tMakeS A sp E t σ H Q) := by
  refine ⟨fun pins s0 σ H0 Q I0 ⟨hs, h⟩ => ?_⟩
  refine wpAny_Call_Name_kw (thn ((pe_var (pos := q) (i := i) hN hv hd hcd).run pins s0 σ H0 (fun v H1 => v = .ref A ∧ H1 = H0) I0 ⟨.ref A, hs, rfl, rfl⟩) fun u s ⟨v, H, I, r1, ev, eH⟩ => ?_)
  subst ev eH
  obtain rfl : u = Value.ref A := r1
  refine PySem.W.callWith_K (h₀ := X.base) I.ok.mod.kin M.kp (thn (ha.run pos pins s σ _ _ I h) fun us s1 ⟨vs, H1, I1, r, q⟩ => ⟨I1.kIn, ?_⟩) he hpl
  have q1 := q (s1.heap.objs.size + 1) s1.heap.objs.size (I1.hok.fresh (Nat.le_succ _)) (I1.hok.fresh (Nat.le_refl _)) (Nat.ne_of_lt (Nat.lt_succ_self _))
  have I2 := Inv.made (C := A) I1
  have r2 : Vals (V.ref (s1.heap.objs.size + 1) :: vs) (Value.ref (s1.heap.objs.size + 1) :: us) := .cons rfl r
  have hl : ((Value.ref (s1.heap.objs.size + 1) :: us) ++ ([] : List Value)).length = ps.length := by
    have z := r2.length
    rw [F.len _ _ _ _ q1] at z
    rw [List.append_nil]
    exact z.symm
  have bd := hb _ (Value.ref (s1.heap.objs.size + 1) :: us) I2.kIn hl
  rw [List.append_nil] at bd
  show wpAny _ _ (call (.ref A) us) _ _ _
  refine wpAny_call (make_map (f := f) I1.kIn M.makes M.init (beq_iff_eq.mp M.fn) (codeAny_mono (F.run _ X.stack _ _ ⟨Value.ref (s1.heap.objs.size + 1) :: us, []⟩ _ _ _ (E σ) (hr.make A us []) (guards_make hgd) (I2.env0.make A us []) bd r2 q1) fun r s' hq' => ?_))
  cases r with
  | error w => exact hx σ pins _ _ w s' I2 hq'
  | ok fl =>
    cases fl with
    | ret u =>
      obtain ⟨v, H', I3, rv, ev, q3⟩ := I2.after hq'
      subst ev
      exact ⟨rv, ⟨V.ref (s1.heap.objs.size + 1), H', I3, rfl, q3⟩⟩
    | next => exact False.elim hq'
    | brk => exact False.elim hq'
    | cont => exact False.elim hq'
end
/-! in the layer -/
structure Gc (P : Program) (w : World) (C : Cb) (mg : Str → Option Value) (base : Heap) (k : Nat) (x : Str) (c : Nat) (m : Str) (sp : Sp) : Prop where
  ex : ∃ (p g : Addr) (mc : Value) (fd : FuncData) (ps : List Str), FnG P w C.K mg base (L2.CX P w) k g fd ps sp ∧ mg x = some (.ref (C.cm c)) ∧ ClX.CRead C.K (C.cm c) mc ∧ ClX.CMet C.K (C.cm c) mc m p g ∧ Binds C.K fd ps []
def mCm (c : Nat) (g : List D → J → R D) (mr : Gm → J → R (List D)) : Gm → J → R D := fun Γ j => (mr Γ j).bind fun ds j => g (.cls c :: ds) j
def mMakeV (i c : Nat) (g : List D → J → R (List (Str × D))) (mr : Gm → J → R (List D)) : Gm → J → R D := fun Γ j => match Γ[i]? with
  | some (some (.val (.cls n))) => if n = c then (mr Γ j).bind fun ds j => (g ds j).bind fun fs j => .ok (.ins c fs) j else .bad
  | _ => .bad
section
variable {C : Ct} {E : WX} {X : Cx} {e : Expr} {es : List Expr} {mr : Gm → J → R (List D)} {pos p q apos : Pos} {k c i : Nat} {x y m : Str} {g : List D → J → R D} {gi : List D → J → R (List (Str × D))}
theorem me_cmeth {pl : Sem Bool} (tk : Takes X E) (G : Gc X.prog X.w C.b X.mg X.base k x c m (spG C.b g)) (hK : X.K = C.b.K) (hr : Room k X.A) (hgd : X.A.guards = some []) (hg : Gl X x) (ha : MA C E X (e :: es) mr) (hdb : (x == ("__debug__" : Str)) = false := by decide)
    (hst : starEach (e :: es) X.env = (false, eval e X.env) :: starEach es X.env := by rfl) (hpl : (backTo pos (starEach es X.env)).any (·.1) = false := by rfl)
    (ht : eval (.Call (.Attribute (.Name x p) m apos) (e :: es) [] pos) X.env = (do
      let ov ← eval (.Name x p) X.env
      standAt apos.atName
      let (f, first) ← holding [ov] (getMethod ov m pl)
      callWith pos f first (backTo pos (starEach (e :: es) X.env)) (backToKw pos (keywordEach [] X.env))) := by rfl) :
    ME C E X (.Call (.Attribute (.Name x p) m apos) (e :: es) [] pos) (mCm c g mr) := by
  obtain ⟨pp, gg, mc, fd, ps, F, hm, hrd, hcm, hb⟩ := G.ex
  rw [← hK] at F hrd hcm hb
  refine PE.imp (pe_cmethS (pl := pl) (E := WE E) (pe_glob (v := .ref (C.b.cm c)) hg hm rfl hdb) hrd hcm F hr hgd hb (fun σ => passAt tk σ) ha hst hpl ht) fun σ H Q ⟨O, ρ, Γ, j, S, h⟩ => ⟨rfl, O, ρ, Γ, j, S, Post.imp (Post.bind S h) fun ds j1 ρ1 H1 k1 S1 q vs hv => spG_of S1 (.cons (.cls c) hv) q⟩
theorem me_gmakeV (tk : Takes X E) (G : Gi X.prog X.w C.b X.mg X.base k y c (spI C.b c gi)) (hK : X.K = C.b.K) (hr : Room (k + 1) X.A) (hgd : X.A.guards = some []) (hN : X.N[i]? = some x) (hv : Vis X.env.scope x) (ha : MA C E X (e :: es) mr) (hd : (x == ("__debug__" : Str)) = false := by decide) (hcd : (x == ("__classdict__" : Str)) = false := by decide)
    (he : starEach (e :: es) X.env = (false, eval e X.env) :: starEach es X.env := by rfl) (hpl : (backTo pos (starEach es X.env)).any (·.1) = false := by rfl) : ME C E X (.Call (.Name x q) (e :: es) [] pos) (mMakeV i c gi mr) := by
  obtain ⟨f, fd, ps, F, hm, hk, hb⟩ := G.ex
  rw [← hK] at F hk hb
  refine PE.imp (pe_makeV (i := i) (E := WE E) hk F hr hgd hN hv hb (fun σ => passAt tk σ) ha hd hcd he hpl) fun σ H Q ⟨O, ρ, Γ, j, S, h⟩ => ?_
  unfold mMakeV at h
  split at h
  · rename_i n hΓ
    obtain ⟨hn, h⟩ := Post.ite h
    subst hn
    obtain ⟨v, ev, hv⟩ := S.slot i _ hΓ
    cases hv
    exact ⟨ev, O, ρ, Γ, j, S, Post.imp (Post.bind S h) fun ds j1 ρ1 H1 k1 S1 q vs hv l dx hl hdx nd => spI_of S1 hv q hl hdx nd⟩
  · exact h.elim
end
/-! facts of classmethods -/
def cmB (K : PySem.W.Frag) (C : Addr) (m : Str) (p : Addr) (g : Addr) : Bool := PySem.W.readsIn K C (.type "type") && (He.eqO (PySem.W.specialIn K (.ref C) "__getattribute__") (some (some (.builtin "type.__getattribute__"))) &&
  ((match PySem.W.findCls K (.ref C) (.type "type") m with
    | some (.get (.builtin b) (.ref q) .none (.ref D)) => decide (b = "classmethod.__get__") && (decide (q = p) && decide (D = C))
    | _ => false) && ((match PySem.W.recIn K p "classmethod" with
    | some (.ref h :: _) => decide (h = g)
    | _ => false) && PySem.W.fnIn K g)))
theorem cmB_ok {K : PySem.W.Frag} {C p g : Addr} {m : Str} (h : cmB K C m p g = true) : ClX.CRead K C (.type "type") ∧ ClX.CMet K C (.type "type") m p g := by
  obtain ⟨h1, h⟩ := He.ba h
  obtain ⟨h2, h⟩ := He.ba h
  obtain ⟨h3, h⟩ := He.ba h
  obtain ⟨h4, h5⟩ := He.ba h
  refine ⟨⟨h1, He.eqO_ok h2⟩, ?_, ?_, h5⟩
  · split at h3
    · rename_i b q D e
      obtain ⟨a1, a⟩ := He.ba h3
      obtain ⟨a2, a3⟩ := He.ba a
      rw [e, of_decide_eq_true a1, of_decide_eq_true a2, of_decide_eq_true a3]
    · cases h3
  · split at h4
    · rename_i h' rest e
      exact ⟨rest, by rw [e, of_decide_eq_true h4]⟩
    · cases h4
/-! ### the module's dicts with text keys -/
mutual
def kdD (K : PySem.W.Frag) : Nat → Value → D → Bool
  | 0, _, _ => false
  | n + 1, u, d => match u, d with
    | .str x _, .str y => decide (x = y)
    | .ref a, .tup ds => (match K.lookup a with
      | some ⟨.type c, _, .seq its _, _⟩ => decide (c = "tuple") && (decide (its.size ≤ 1000) && (!keyP ds && kdL K n its.toList ds))
      | _ => false)
    | _, _ => false
def kdL (K : PySem.W.Frag) : Nat → List Value → List D → Bool
  | 0, _, _ => false
  | _ + 1, [], [] => true
  | n + 1, u :: us, d :: ds => kdD K n u d && kdL K n us ds
  | _ + 1, _, _ => false
end
mutual
theorem kdD_ok {c : Cb} {ρ : List Addr} {H : Hp} {B : Addr → Prop} : ∀ {n : Nat} {u : Value} {d : D}, kdD c.K n u d = true → ∃ v, RelV v u ∧ Den c ρ H B v d
  | 0, _, _, h => by unfold kdD at h; cases h
  | n + 1, u, d, h => by
    unfold kdD at h
    split at h
    · rename_i x t y
      have := of_decide_eq_true h
      subst this
      exact ⟨.str x, ⟨t, rfl⟩, .str x⟩
    · rename_i a ds
      split at h
      · rename_i cl od its m osl e
        obtain ⟨h1, h⟩ := He.ba h
        obtain ⟨h2, h⟩ := He.ba h
        obtain ⟨hkp, h3⟩ := He.ba h
        obtain ⟨vs, r, dn⟩ := kdL_ok (ρ := ρ) (H := H) (B := B) h3
        have h1 := of_decide_eq_true h1
        subst h1
        refine ⟨.ref a, rfl, .tupK (.inr ⟨_, its, m, e, rfl, rfl, ?_, r⟩) (by simpa using hkp) dn⟩
        have := of_decide_eq_true h2
        rw [sizeLine_eq]; omega
      · cases h
    · cases h
theorem kdL_ok {c : Cb} {ρ : List Addr} {H : Hp} {B : Addr → Prop} : ∀ {n : Nat} {us : List Value} {ds : List D}, kdL c.K n us ds = true → ∃ vs, Vals vs us ∧ DenA c ρ H B vs ds
  | 0, _, _, h => by unfold kdL at h; cases h
  | n + 1, [], [], _ => ⟨[], .nil, .nil⟩
  | n + 1, u :: us, d :: ds, h => by
    unfold kdL at h
    obtain ⟨h1, h2⟩ := He.ba h
    obtain ⟨v, r, q⟩ := kdD_ok (ρ := ρ) (H := H) (B := B) h1
    obtain ⟨vs, r2, q2⟩ := kdL_ok (ρ := ρ) (H := H) (B := B) h2
    exact ⟨v :: vs, .cons r r2, .cons q q2⟩
  | n + 1, [], _ :: _, h => by unfold kdL at h; cases h
  | n + 1, _ :: _, [], h => by unfold kdL at h; cases h
end
/-- what the dict at a has at these keys -/
def kdB (K : PySem.W.Frag) (a : Addr) (tab : List (Str × Option D)) : Bool := tab.all fun q => match PySem.W.nsIn K a q.1, q.2 with
  | some none, none => true
  | some (some u), some d => kdD K 20 u d
  | _, _ => false
def fKn (tab : List (Str × Option D)) : D → Option Bool
  | .str z => (tab.lookup z).map fun o => !o.isSome
  | _ => none
def fKx (tab : List (Str × Option D)) : D → Option D
  | .str z => (tab.lookup z).bind fun o => o
  | _ => none
def tKn (tab : List (Str × Option D)) (ma : Gm → J → R D) : Gm → J → R Bool := fun Γ j => (ma Γ j).bind fun d j => lift (fKn tab d) j
theorem lookup_mem' {tab : List (Str × Option D)} {z : Str} {o : Option D} (h : tab.lookup z = some o) : (z, o) ∈ tab := PySem.mem_of_lookup h
section
variable {C : Ct} {E : WX} {X : Cx} {a b : Expr} {ma : Gm → J → R D} {pos p : Pos} {x : Str} {d : Addr} {tab : List (Str × Option D)}
theorem mt_kn (hK : X.K = C.b.K) (KD : ∃ es n, KDict C.b.K X.w d es n) (ht : kdB C.b.K d tab = true) (hg : Gl X x) (hm : X.mg x = some (.ref d)) (ha : ME C E X a ma) (hmk : behindInMarks .NotIn (.Name x p) = false) (hdb : (x == ("__debug__" : Str)) = false := by decide) : MT C E X (.Compare a [.NotIn] [.Name x p] pos) (tKn tab ma) := by
  obtain ⟨es, n, KD⟩ := KD
  rw [← hK] at KD
  refine PT.imp (pt_cmpR (op_notIn_kd KD) ha (pe_glob (v := .ref d) hg hm rfl hdb) hmk) fun σ H Q ⟨O, ρ, Γ, j, S, h⟩ => ⟨O, ρ, Γ, j, S, Post.imp (Post.bind S h) fun e j1 ρ1 H1 k1 S1 q v hv => ?_⟩
  obtain ⟨z, hz, q⟩ := post_liftB S1 q
  cases e with
  | str y =>
    cases hv
    obtain ⟨o, ho, rfl⟩ := Option.map_eq_some_iff.mp (show (tab.lookup y).map (fun o => !o.isSome) = some z from hz)
    have t1 := List.all_eq_true.mp ht _ (lookup_mem' ho)
    dsimp only at t1
    rw [← hK] at t1
    split at t1
    · rename_i e2
      exact ⟨y, none, rfl, rfl, e2, true, rfl, q⟩
    · rename_i u _ e2
      exact ⟨y, some u, rfl, rfl, e2, false, rfl, q⟩
    · cases t1
  | _ => cases hz
theorem me_kx (hK : X.K = C.b.K) (KD : ∃ es n, KDict C.b.K X.w d es n) (ht : kdB C.b.K d tab = true) (hg : Gl X x) (hm : X.mg x = some (.ref d)) (ha : ME C E X a ma) (hs : PlainIx a := by exact fun _ _ => rfl) (hdb : (x == ("__debug__" : Str)) = false := by decide) : ME C E X (.Subscript (.Name x p) a pos) (m1 (fKx tab) ma) := by
  obtain ⟨es, n, KD⟩ := KD
  rw [← hK] at KD
  refine PE.imp (pe_ix ix_kdict (pe_glob (v := .ref d) hg hm rfl hdb) ha hs) fun σ H Q ⟨O, ρ, Γ, j, S, h⟩ => ⟨O, ρ, Γ, j, S, Post.imp (Post.bind S h) fun e j1 ρ1 H1 k1 S1 q v hv => ?_⟩
  obtain ⟨z, hz, q⟩ := post_lift S1 q
  have hw := S1.st.view hv
  revert hz hw
  generalize deref j1 e = e'
  intro hz hw
  cases e' with
  | str y =>
    cases hw.strAt
    obtain ⟨o, ho, e2⟩ := Option.bind_eq_some_iff.mp (show (tab.lookup y).bind (fun o => o) = some z from hz)
    subst e2
    have t1 := List.all_eq_true.mp ht _ (lookup_mem' ho)
    dsimp only at t1
    cases e1 : PySem.W.nsIn C.b.K d y with
    | none => rw [e1] at t1; cases t1
    | some r =>
      rw [e1] at t1
      cases r with
      | none => cases t1
      | some u =>
        obtain ⟨v0, r0, dn⟩ := kdD_ok (c := C.b) (ρ := ρ1) (H := H1) (B := Bo O ρ1 j1) (show kdD C.b.K 20 u z = true from t1)
        rw [← hK] at e1
        exact ⟨d, y, v0, rfl, rfl, ⟨es, n, u, KD.at_, KD.lit, e1, r0⟩, q v0 H1 Ext.refl dn⟩
  | _ => cases hz
end
end On

set_option Elab.async false
set_option linter.all false
set_option maxRecDepth 100000
set_option maxHeartbeats 2000000
set_option autoImplicit false
namespace On
open PySem PySem.Spec PyProof.Rows L2
/-! ### str(i) -/
def fStrI : List D → Option D
  | [.int i] => if i.natAbs.log2 < 1920 then some (.str (toString i)) else none
  | [.bl b] => some (.str (if b then "True" else "False"))
  | _ => none
theorem call_strI {X : Cx} : CallR X (.type "str") (fun xs H Q => (∃ i, xs = [.int i] ∧ i.natAbs.log2 < 1920 ∧ Q (.str (toString i)) H) ∨ ∃ b : Bool, xs = [.bl b] ∧ Q (.str (if b then "True" else "False")) H) := by
  intro pins s σ H xs us Q I r h
  rcases h with h | ⟨b, rfl, q⟩
  · exact call_str_int pins s σ H xs us Q I r h
  · obtain ⟨u, rfl, r1⟩ := vals1 r
    cases r1
    exact PySem.P.str_of_bool ⟨.str _, H, I.tok _, ⟨_, rfl⟩, q⟩
theorem cd_strI {C : Cb} : CallD C (fun xs H Q => (∃ i, xs = [.int i] ∧ i.natAbs.log2 < 1920 ∧ Q (.str (toString i)) H) ∨ ∃ b : Bool, xs = [.bl b] ∧ Q (.str (if b then "True" else "False")) H) fStrI := fun ρ B H xs ds z Q ht hx hz k => by
  unfold fStrI at hz
  split at hz
  · rename_i i
    split at hz
    · rename_i hl
      cases hz
      obtain ⟨v, rfl, h⟩ := hx.one
      cases h.intAt
      exact .inl ⟨i, rfl, hl, k _ H Ext.refl (.str _)⟩
    · cases hz
  · rename_i b
    cases hz
    obtain ⟨v, rfl, h⟩ := hx.one
    cases h with
    | of h => cases h; exact .inr ⟨b, rfl, k _ H Ext.refl (.str _)⟩
  · cases hz
/-! ### isinstance(e, (A, B)), e a caught error -/
def rIsXT (K : PySem.W.Frag) : List V → Hp → VK → Prop := fun xs H Q => ∃ (a C dx tp : Addr) (fs : List (Str × V)) (cs : List V) (us : List Value) (b : Bool), xs = [.ref a, .ref tp] ∧ H tp = some (.tup cs) ∧ Paired ClsV cs us ∧ ExcC K C ∧ XO H a C dx ∧ H dx = some (.xd fs) ∧ PySem.W.kitAny K (.ref C) us = some b ∧ Q (.bl b) H
theorem call_isXT {X : Cx} : CallR X (.builtin "isinstance") (rIsXT X.K) := by
  intro pins s σ H xs us Q I r h
  obtain ⟨a, C, dx, tp, fs, cs, ws, b, rfl, hT, k, T, ea, ed, e, q⟩ := h
  obtain ⟨u1, u2, rfl, r1, r2⟩ := vals2 r
  cases (show u2 = Value.ref tp from r2)
  cases (show u1 = Value.ref a from r1)
  obtain ⟨ox, od, mA, J, hl, hr⟩ := exo_inst I.hok ea ed
  obtain ⟨_, its, rv, o, h1, h2, n, h3⟩ := (show ObjOk X.prog X.w H s.heap tp (.tup cs) from I.hok tp _ hT)
  have e3 := ClsV.all k rv
  subst e3
  obtain ⟨oc, od, dt, sl⟩ := o
  simp only at h2 h3
  subst h2 h3
  exact PySem.W.kia_tup (kitx_exc T) I.kIn ⟨_, _, J⟩ h1 e (fun z => nomatch z) fun tk => ⟨.bl b, H, I.tok tk, rfl, q⟩
def mIsX2 (f : Nat → Option Bool) (me : Gm → J → R D) : Gm → J → R D := fun Γ j => (me Γ j).bind fun d j => match d with
  | .exn c _ => lift ((f c).map .bl) j
  | _ => .bad
section
variable {C : Ct} {E : WX} {X : Cx} {e T1 T2 : Expr} {me : Gm → J → R D} {pos p tp : Pos} {kk : Nat} {A1 A2 : Addr} {f : Nat → Option Bool}
theorem me_isX2 (hK : X.K = C.b.K) (hg : Gl X "isinstance") (hm : X.mg "isinstance" = none) (h1 : PE X T1 (tC (.ref A1))) (h2 : PE X T2 (tC (.ref A2))) (hf : ∀ c b, f c = some b → ExcC C.b.K (C.b.cm c) ∧ PySem.W.kitAny C.b.K (.ref (C.b.cm c)) [.ref A1, .ref A2] = some b) (he : ME C E X e me)
    (hs : starEach [e, .Tuple [T1, T2] kk tp] X.env = (false, eval e X.env) :: starEach [.Tuple [T1, T2] kk tp] X.env := by rfl) (hs2 : starEach [.Tuple [T1, T2] kk tp] X.env = (false, eval (.Tuple [T1, T2] kk tp) X.env) :: starEach [] X.env := by rfl) (hpl : (backTo pos (starEach [.Tuple [T1, T2] kk tp] X.env)).any (·.1) = false := by rfl)
    (hs3 : starEach [T1, T2] X.env = (false, eval T1 X.env) :: starEach [T2] X.env := by rfl) (hs4 : starEach [T2] X.env = (false, eval T2 X.env) :: starEach [] X.env := by rfl) :
    ME C E X (.Call (.Name "isinstance" p) [e, .Tuple [T1, T2] kk tp] [] pos) (mIsX2 f me) :=
  PE.imp (pe_callB call_isXT hg hm (by decide +kernel) (pa_cons he (pa_cons (pe_tup (pa_cons h1 (pa_cons h2 pa_nil hs4) hs3)) pa_nil hs2) hs) (by decide) (by decide) hs hpl) fun σ H Q ⟨O, ρ, Γ, j, S, h⟩ => ⟨O, ρ, Γ, j, S, Post.imp (Post.bind S h) fun d j1 ρ1 H1 k1 S1 q v hv => by
    split at q
    · rename_i c gs
      cases hv with
      | exn hx n hd n2 r =>
        rename_i a dx fs
        cases e1 : f c with
        | none => rw [e1] at q; exact q.elim
        | some b =>
          rw [e1] at q
          obtain ⟨T, ka⟩ := hf c b e1
          refine ⟨by rw [sizeLine_eq]; simp, fun tpp hp => ?_⟩
          have x0 : Ext H1 (upd H1 tpp (.tup [.ref A1, .ref A2])) := Ext.new hp
          have ne : ∀ {z : Addr} {o : HO}, H1 z = some o → z ≠ tpp := fun {z o} e w => by rw [w, hp] at e; cases e
          refine ⟨a, _, dx, tpp, fs, [.ref A1, .ref A2], [.ref A1, .ref A2], b, rfl, upd_same, .cons (.own _) (.cons (.own _) .nil), by rw [hK]; exact T, ?_, by rw [upd_ne (ne hd)]; exact hd, by rw [hK]; exact ka, ?_⟩
          · rcases hx with hx | hx
            · exact .inl (by rw [upd_ne (ne hx)]; exact hx)
            · exact .inr (by rw [upd_ne (ne hx)]; exact hx)
          · exact q _ _ x0.keep (S1.ext x0) _ (.bl _)
    · exact q.elim⟩
end
def isX2B (K : PySem.W.Frag) (cm : Nat → Addr) (us : List Value) : Nat → List Bool → Bool
  | _, [] => true
  | n, b :: r => decide (PySem.W.kitAny K (.ref (cm n)) us = some b) && isX2B K cm us (n + 1) r
theorem isX2B_ok {K : PySem.W.Frag} {cm : Nat → Addr} {us : List Value} : ∀ {l : List Bool} {n i : Nat} {b : Bool}, isX2B K cm us n l = true → l[i]? = some b → PySem.W.kitAny K (.ref (cm (n + i))) us = some b
  | [], _, _, _, _, e => by cases e
  | c :: r, n, 0, b, h, e => by cases e; exact of_decide_eq_true (He.ba h).1
  | c :: r, n, i + 1, b, h, e => by
    have := isX2B_ok (l := r) (n := n + 1) (i := i) (He.ba h).2 e
    rw [Nat.add_right_comm] at this
    exact this
theorem ox2_ok {K : PySem.W.Frag} {cm : Nat → Addr} {us : List Value} {n0 : Nat} {l : List Bool} (hi : rngB (fun n => excCB K (cm n)) n0 l.length = true) (h : isX2B K cm us n0 l = true) (n : Nat) (b : Bool) (e : owLk n0 l n = some b) : ExcC K (cm n) ∧ PySem.W.kitAny K (.ref (cm n)) us = some b := by
  obtain ⟨h1, h2, h3⟩ := owLk_lt e
  refine ⟨excCB_ok (rngB_ok (p := fun n => excCB K (cm n)) hi h1 h2), ?_⟩
  have := isX2B_ok h h3
  rwa [show n0 + (n - n0) = n from by omega] at this
end On

set_option Elab.async false
set_option linter.all false
set_option maxRecDepth 100000
set_option maxHeartbeats 3200000
set_option autoImplicit false
namespace On
open PySem PySem.Spec PyProof.Rows L2
/-! ### sets of texts, whose order can be asked -/
abbrev tE (w : World) (p : Str × Tok) : Int × Value := (hashStr w p.1, .str p.1 p.2)
def tBack (e : Int × Value) : Str × Tok := match e.2 with
  | .str x t => (x, t)
  | _ => (Str.empty, 0)
theorem back_perm {w : World} {l : List (Int × Value)} {ps : List (Str × Tok)} (h : l.Perm (ps.map (tE w))) : ∃ qs : List (Str × Tok), l = qs.map (tE w) ∧ qs.Perm ps := by
  refine ⟨l.map tBack, ?_, ?_⟩
  · rw [List.map_map]
    have : ∀ e ∈ l, (tE w ∘ tBack) e = e := fun e he => by
      obtain ⟨p, _, rfl⟩ := List.mem_map.mp (h.mem_iff.mp he)
      rfl
    rw [List.map_congr_left this, List.map_id']
  · have := h.map tBack
    rw [List.map_map] at this
    have e : (tBack ∘ tE w) = id := rfl
    rw [e, List.map_id] at this
    exact this
structure TSet (w : World) (h : Heap) (a : Addr) (ps : List (Str × Tok)) : Prop where
  ex : ∃ o es ep t, h.get? a = some o ∧ o.ExactSet ∧ o.data = .set es ep t ∧ es.toList = ps.map (tE w) ∧ t.fits es.size = true ∧ Ris t.place.toList ∧ (w.params.followText "set-order" = true ∨ t.led = true)
  nd : (ps.map (·.1)).Nodup
  few : ps.length < scanBound
theorem TSet.at {w : World} {h h' : Heap} {a : Addr} {ps : List (Str × Tok)} (R : TSet w h a ps) (k : ∀ o, h.get? a = some o → h'.get? a = some o) : TSet w h' a ps := by
  obtain ⟨o, es, ep, t, ho, r⟩ := R.ex
  exact ⟨⟨o, es, ep, t, k o ho, r⟩, R.nd, R.few⟩
section
variable {P : Program} {w : World} {A : Around} {E : Value → Shared → Prop} {s : Shared} {a : Addr} {ps : List (Str × Tok)}
theorem elems_t (l : List (Str × Tok)) : ElemsOf (PySem.strKind P w) (l.map (tE w)) := fun e he => by
  obtain ⟨p, _, rfl⟩ := List.mem_map.mp he
  exact ⟨⟨p.1, PySem.strKind_is _ _ _ _, rfl⟩, rfl⟩
theorem is_t {x : Str} {p : Str × Tok} : (PySem.strKind P w).is x (tE w p).2 = true ↔ p.1 = x := by
  constructor
  · intro h
    obtain ⟨t, e⟩ := Value.isStrOf_shape (show Value.isStrOf x (.str p.1 p.2) = true from h)
    cases e
    rfl
  · rintro rfl
    exact PySem.strKind_is _ _ _ _
/-- what is stored behind an insertion, relaid if it is too full -/
theorem tset_store {g : Bool → Sem Unit} (hg : ∀ (b : Bool) (s' : Shared) (R : Unit → Shared → Prop), R () s' → wpAny (model P w) A (g b) R E s') {o : Obj} {es es1 : Array (Int × Value)} {ep : Nat} {t t1 : SetTable} {qs : List (Str × Tok)}
    (ho : s.heap.get? a = some o) (hx : o.ExactSet) (hd : o.data = .set es ep t) (h1 : es1.toList = qs.map (tE w)) (hn : (qs.map (·.1)).Nodup) (hb : qs.length < scanBound) (hf : t1.fits es1.size = true) (hr : Ris t1.place.toList) (hl : w.params.followText "set-order" = true ∨ t1.led = true)
    {dm : Bool} {R : Option Bool → Shared → Prop} (hR : ∀ h' qs', Heap.SameBut a s.heap h' → TSet w h' a qs' → qs'.Perm qs → R (some true) { s with heap := h' }) :
    wpAny (model P w) A (do
        storeSet a es1 t1
        if (!dm && t1.tooFull) = true then do
            g (relayAll t1 es1 (SetTable.grown es1.size)).2.2
            storeSet a (relayAll t1 es1 (SetTable.grown es1.size)).1 (relayAll t1 es1 (SetTable.grown es1.size)).2.1
            pure (some true)
          else pure (some true)) R E s := by
  have sz1 : es1.size = qs.length := by rw [← Array.length_toList, h1, List.length_map]
  refine wpAny_bind (wpAny_storeSet_of ho hd ?_ (fits_of_scanBound (by rw [sz1]; exact hb)))
  have u1 := store_at (es' := es1) (t' := t1) ho hd
  have c1 := Heap.SameBut.update s.heap a (Obj.putSet es1 t1)
  split
  · obtain ⟨qs2, e2, p2⟩ := back_perm (w := w) (l := (relayAll t1 es1 (SetTable.grown es1.size)).1.toList) (ps := qs) (by rw [← h1]; exact relayAll_perm _ _ _)
    have f2 := relayAll_fits t1 es1 (SetTable.grown es1.size)
    have r2 := relayAll_ris t1 es1 (SetTable.grown es1.size)
    have l2 := relayAll_led t1 es1 (SetTable.grown es1.size)
    revert e2 f2 r2 l2
    generalize relayAll t1 es1 (SetTable.grown es1.size) = Z
    rintro e2 f2 r2 l2
    have sz2 : Z.1.size = qs2.length := by rw [← Array.length_toList, e2, List.length_map]
    have b2 : qs2.length < scanBound := by rw [p2.length_eq]; exact hb
    refine wpAny_bind (hg _ _ _ (wpAny_bind (wpAny_storeSet_of u1 rfl ?_ (fits_of_scanBound (by rw [sz2]; exact b2)))))
    have u2 := store_at (es' := Z.1) (t' := Z.2.1) u1 rfl
    refine wpAny_pure (hR _ qs2 (c1.trans (Heap.SameBut.update _ a _)) ⟨⟨_, Z.1, _, Z.2.1, u2, hx, rfl, e2, f2, r2, ?_⟩, (p2.map _).nodup_iff.mpr hn, b2⟩ p2)
    rcases hl with z | z
    · exact .inl z
    · exact .inr (l2.trans z)
  · exact wpAny_pure (hR _ qs c1 ⟨⟨_, es1, _, t1, u1, hx, rfl, h1, hf, hr, hl⟩, hn, hb⟩ (List.Perm.refl _))
theorem tset_add {x : Str} {tk : Tok} {Q : Bool → Shared → Prop} (R : TSet w s.heap a ps) (room : ps.length + 1 < scanBound)
    (hQ : ∀ b h' qs, Heap.SameBut a s.heap h' → TSet w h' a qs → (∀ y, y ∈ qs.map (·.1) ↔ y = x ∨ y ∈ ps.map (·.1)) → qs.length ≤ ps.length + 1 → Q b { s with heap := h' }) :
    wpAny (model P w) A (setAddHashed a (.str x tk) (hashStr w x)) Q E s := by
  obtain ⟨⟨o, es, ep, t, ho, hx, hd, he, hf, hr, hl⟩, nd, few⟩ := id R
  have hk : (PySem.strKind P w).is x (.str x tk) = true := PySem.strKind_is _ _ _ _
  have el : ElemsOf (PySem.strKind P w) es.toList := by rw [he]; exact elems_t ps
  have sz : es.size = ps.length := by rw [← Array.length_toList, he, List.length_map]
  have hb : es.size < scanBound := by rw [sz]; exact few
  unfold setAddHashed setAddHashedIn
  refine wpAny_holding (wpAny_bind (wpAny_setState_of ho hd hf ?_))
  dsimp only
  rw [byScan_of (knd := PySem.strKind P w) rfl hb el, if_pos rfl]
  unfold setAddByScan
  refine wpAny_bind (wpAny_bind (wpAny_rule (wpAny_bind (wpAny_setScan_of (knd := PySem.strKind P w) hk ho hd hf el ?_))))
  cases hfi : List.findIdx? (fun e => (PySem.strKind P w).is x e.2) es.toList with
  | some i =>
    dsimp only
    obtain ⟨hi, pi, _⟩ := List.findIdx?_eq_some_iff_getElem.mp hfi
    have hm : x ∈ ps.map (·.1) := by
      have : es.toList[i] ∈ ps.map (tE w) := by rw [← he]; exact List.getElem_mem hi
      obtain ⟨p, hp, e⟩ := List.mem_map.mp this
      rw [← e] at pi
      exact List.mem_map.mpr ⟨p, hp, is_t.mp pi⟩
    refine wpAny_pure (wpAny_pure (hQ _ s.heap ps (Heap.SameBut.refl a s.heap) R (fun y => ?_) (Nat.le_succ _)))
    exact ⟨.inr, fun z => z.elim (fun e => e ▸ hm) id⟩
  | none =>
    dsimp only
    have hm : x ∉ ps.map (·.1) := fun z => by
      obtain ⟨p, hp, e⟩ := List.mem_map.mp z
      have c := List.findIdx?_eq_none_iff.mp hfi (tE w p) (by rw [he]; exact List.mem_map.mpr ⟨p, hp, rfl⟩)
      rw [is_t.mpr e] at c
      cases c
    obtain ⟨qs, e1, p1⟩ := back_perm (w := w) (l := (layNew t es (hashStr w x) (.str x tk)).1.toList) (ps := (x, tk) :: ps) (by
      refine (layNew_perm t es (hashStr w x) (.str x tk)).trans ?_
      rw [Array.toList_push, he]
      exact List.perm_append_singleton _ _)
    have f1 := layNew_fits t es (hashStr w x) (.str x tk)
    have r1 := layNew_ris t es (hashStr w x) (.str x tk) hr
    have l1 := layNew_led t es (hashStr w x) (.str x tk)
    have nd1 : (qs.map (·.1)).Nodup := (p1.map _).nodup_iff.mpr (List.nodup_cons.mpr ⟨hm, nd⟩)
    have len1 : qs.length = ps.length + 1 := p1.length_eq
    have fin : ∀ h' qs', Heap.SameBut a s.heap h' → TSet w h' a qs' → qs'.Perm qs → Q true { s with heap := h' } := fun h' qs' sb r p => hQ true h' qs' sb r (fun y => by
      rw [((p.trans p1).map (·.1)).mem_iff, List.map_cons, List.mem_cons]) (Nat.le_of_eq (p.length_eq.trans len1))
    have gw : ∀ (b : Bool) (s' : Shared) (R : Unit → Shared → Prop), R () s' → wpAny (model P w) A (match b with | true => rule "set.scan.the-table-gave-way" | false => pure ()) R E s' := fun b s' R q => by
      cases b
      · exact wpAny_pure q
      · exact wpAny_rule q
    revert e1 f1 r1 l1
    generalize layNew t es (hashStr w x) (.str x tk) = Z
    obtain ⟨es1, t1, dm, gave⟩ := Z
    intro e1 f1 r1 l1
    dsimp only at e1 f1 r1 l1 ⊢
    have ld : w.params.followText "set-order" = true ∨ t1.led = true := hl.elim .inl fun z => .inr (l1.trans z)
    refine wpAny_bind (gw _ _ _ ?_)
    split
    · refine wpAny_bind ?_
      rw [hashByValue_scannable 8 (show (Value.str x tk).scannable = true from rfl)]
      refine wpAny_pure ?_
      refine tset_store (qs := qs) (fun b s' R q => gw b s' R q) ho hx hd e1 nd1 (by omega) ?_ ?_ ?_ fun h' qs' sb r p => ?_
      · first | (split <;> first | exact f1 | exact SetTable.fits_plain_off f1) | exact f1
      · first | (split <;> exact r1) | exact r1
      · first | (split <;> exact ld) | exact ld
      · exact wpAny_pure (fin h' qs' sb r p)
    · refine wpAny_bind (wpAny_pure ?_)
      simp only [↓reduceIte]
      refine tset_store (qs := qs) (fun b s' R q => gw b s' R q) ho hx hd e1 nd1 (by omega) f1 r1 ld fun h' qs' sb r p => ?_
      exact wpAny_pure (fin h' qs' sb r p)
abbrev newSetO (w : World) : Obj := { cls := .type "set", dict := none, data := .set #[] 0 (.fresh 0 0 (!w.params.followText "set-order")) }
theorem tset_new {h : Heap} (ho : h.get? a = some (newSetO w)) : TSet w h a [] := by
  refine ⟨⟨_, #[], 0, _, ho, ⟨rfl, rfl, rfl⟩, rfl, rfl, rfl, List.Pairwise.nil, ?_⟩, List.nodup_nil, by decide⟩
  cases e : w.params.followText "set-order"
  · exact .inr rfl
  · exact .inl rfl
/-- what was taken of the first n texts of a list -/
def Taken (xs : List Str) (n : Nat) (ps : List (Str × Tok)) : Prop := (∀ y, y ∈ ps.map (·.1) ↔ y ∈ xs.take n) ∧ ps.length ≤ n
theorem tset_loop {I : Addr} {fp wr : List Addr} {G : Array GenState → Array GenState → Prop} {n : Nat} {Pv : Nat → Value → Prop} {St : Nat → Shared → Prop} {R : Result → Shared → Prop} (W : WalksS P w A.in1 I fp wr G n Pv St) (S : Addr) (hS : S ∉ fp)
    (xs : List Str) (hn : n = xs.length) (hb : xs.length + 1 < scanBound) (hv : ∀ i v, Pv i v → ∃ x t, xs[i]? = some x ∧ v = .str x t) :
    ∀ (k i : Nat) (s : Shared), i + k = n → St i s → (∃ ps, TSet w s.heap S ps ∧ Taken xs i ps) → (∀ s' ps, Moved (S :: wr) G s s' → TSet w s'.heap S ps → Taken xs n ps → R (.ok (.ret .none)) s') →
      codeAny (model P w) A (.builtin "set.update.loop" ⟨[.ref S, .ref I], []⟩) R s
  | 0, i, s, e, st, ⟨ps, T, tk⟩, hR => by
    obtain rfl : i = n := by omega
    refine codeAny_builtin F.entry_set_update_loop ?_
    rw [Around.under_plainId F.plain_set_update_loop _]
    refine wpAny_bind (W.done s _ _ st fun s' mv => wpAny_pure (hR s' ps (mv.mono fun b hb => List.mem_cons_of_mem _ hb) (T.at fun o e => mv.heap S o (fun z => hS (W.sub _ z)) e) tk))
  | k + 1, i, s, e, st, ⟨ps, T, tk⟩, hR => by
    refine codeAny_builtin F.entry_set_update_loop ?_
    rw [Around.under_plainId F.plain_set_update_loop _]
    refine wpAny_bind (W.item i s _ _ (by omega) st fun v s' hP st' mv => ?_)
    obtain ⟨x, t, hx, rfl⟩ := hv i v hP
    have T' : TSet w s'.heap S ps := T.at fun o e => mv.heap S o (fun z => hS (W.sub _ z)) e
    have few : ps.length + 1 < scanBound := by have := tk.2; omega
    refine wpAny_bind (wpAny_holding ?_)
    unfold setAdd
    refine wpAny_holding (wpAny_bind (wpAny_pyHash_str ?_))
    refine tset_add (s := { s' with toks := s'.toks + 1 }) T' few fun b h' qs sb T2 hq hl => ?_
    have tk2 : Taken xs (i + 1) qs := ⟨fun y => by
      rw [hq y, tk.1 y, List.take_add_one, hx]
      simp [List.mem_append, or_comm], by have := tk.2; omega⟩
    refine wpAny_pure ⟨plainId_quiet F.plain_set_update_loop _, tset_loop W S hS xs hn hb hv k (i + 1) _ (by omega) (W.frame _ s' _ _ st' (Nat.le_succ _) fun b hb o e => ?_) ⟨qs, T2, tk2⟩ fun s2 ps2 mv2 T3 tk3 => hR s2 ps2 (Moved.trans W.gtrans ((mv.mono fun b hb => List.mem_cons_of_mem _ hb).then_heap (Nat.le_succ _) fun b o hb e => ?_) mv2) T3 tk3⟩
    · exact (sb.2 b fun z => hS (z ▸ hb)).trans e
    · exact (sb.2 b fun z => hb (z ▸ List.mem_cons_self)).trans e
set_option maxHeartbeats 6400000 in
/-- set(l), l a list of texts -/
theorem call_tset {l : Addr} {items : Array Value} (xs : List Str) {Q : Value → Shared → Prop} (hh : A.handled = none) (hl : s.heap.IsList l items) (hi : StrsAre items.toList xs) (hb : xs.length + 1 < scanBound)
    (hQ : ∀ h' tk ps, TSet w h' s.heap.objs.size ps → Taken xs xs.length ps → (∀ b o, s.heap.get? b = some o → h'.get? b = some o) → Q (.ref s.heap.objs.size) { s with heap := h', toks := tk }) :
    wpAny (model P w) A (call (.type "set") [.ref l]) Q E s := by
  have isz : items.size = xs.length := by rw [← StrsAre.len_eq hi, Array.length_toList]
  obtain ⟨_, _, hmro⟩ := F.called_set.mro
  have m1 := F.called_set.made
  have m2 := F.called_set.sub
  have m3 := F.called_set.notType
  have m4 := F.called_set.canCreate
  have m5 := F.typeCall_set_1 (.ref l)
  refine wpAny_call (codeAny_of_tree ?_)
  show wpAny _ _ (callAny (.type "set") _) _ _ _
  refine wpAny_pure ⟨Code.quiet_builtin _ (by decide +kernel), codeAny_builtin F.entry_type_call ?_⟩
  rw [Around.under_plain (weight_type_call_type "set" [.ref l] []) rfl]
  repeat (any_goals (first | assumption | wp_step))
  refine codeAny_mono (code_set_led1 (.ref l) (E := E) (Q₁ := fun u z => u = .ref s.heap.objs.size ∧ z = { s with heap := s.heap.push (newSetO w) }) ⟨rfl, rfl⟩) fun r s1 hr => ?_
  cases r with
  | error e => exact hr
  | ok fl =>
  cases fl with
  | next => exact hr.elim
  | brk => exact hr.elim
  | cont => exact hr.elim
  | ret u =>
  obtain ⟨rfl, rfl⟩ := hr
  have g1 : (s.heap.push (newSetO w)).get? s.heap.objs.size = some (newSetO w) := Heap.get?_push_size _ rfl
  have g2 : Shared.TypeIs { s with heap := s.heap.push (newSetO w) } (.ref s.heap.objs.size) "set" := ⟨_, g1, rfl⟩
  have g3 := F.called_set.init.lookup
  have g4 := F.called_set.init.bind (.ref s.heap.objs.size)
  repeat (any_goals (first | assumption | wp_step))
  refine codeAny_mono (codeAny_call_builtin (R := wants (fun r z => r = .none ∧ ∃ h' tk ps, z = { s with heap := h', toks := tk } ∧ TSet w h' s.heap.objs.size ps ∧ Taken xs xs.length ps ∧ ∀ b o, s.heap.get? b = some o → h'.get? b = some o) E) F.called_set.init.plain F.entry_set_init (check_set_init_1 g2 ?_)) fun r z hz => ?_
  · obtain ⟨⟨ocls, odict, odata, oslots⟩, hol, hcl, nl, hdl⟩ := hl
    simp only at hcl hdl
    subst hcl hdl
    have hlt : l < s.heap.objs.size := Heap.lt_size hol
    have k1 : (s.heap.push (newSetO w)).get? l = some { cls := .type "list", dict := odict, data := .seq items nl, slots := oslots } := Heap.get?_push_of_some _ hol
    have k2 := F.sub_list_set
    have k3 := F.sub_list_frozenset
    have k4 : (Value.type "list" == Value.type "dict") = false := by decide
    have k5 : (s.heap.push (newSetO w)).IsList l items := ⟨_, k1, rfl, nl, rfl⟩
    have k6 : (s.heap.push (newSetO w)).objs.size = s.heap.objs.size + 1 := Heap.size_push ..
    unfold Builtin.«set.__init__» noKeywords Builtin.Frozenset.updateFrom
    generalize hPI : pyIter = PI
    wp_walk
    subst hPI
    refine wpAny_pyIter_list k5 (wpAny_bind (wpAny_runValue ?_))
    refine tset_loop ((Walks.list (by simp [hh]) _ l (by rw [k6]; exact Nat.ne_of_lt (Nat.lt_succ_of_lt hlt)) items).toS) s.heap.objs.size (by rw [k6]; simp only [List.mem_cons, List.not_mem_nil, or_false, not_or]; exact ⟨Nat.ne_of_lt (Nat.lt_succ_self _), Nat.ne_of_gt hlt⟩) xs isz hb (fun i v hv => ?_) items.size 0 _ (by omega)
      ⟨⟨_, Heap.get?_push_size _ rfl, rfl, rfl⟩, k5.push _⟩ ⟨[], tset_new (Heap.get?_push_of_some _ g1), fun y => by simp, Nat.le_refl _⟩ fun s' ps mv T tk => ?_
    · have : i < xs.length := by rw [← isz]; exact (Array.getElem?_eq_some_iff.mp hv).1
      obtain ⟨t, e⟩ := SS.strs_at hi i v (by rw [Array.getElem?_toList]; exact hv)
      exact ⟨xs[i], t, List.getElem?_eq_getElem this, by rw [e, List.getD_eq_getElem?_getD, List.getElem?_eq_getElem this]; rfl⟩
    · obtain ⟨h', gg, dd, tt, oo⟩ := s'
      obtain rfl : gg = s.gens := mv.gens
      obtain rfl : dd = s.drawn := mv.drawn
      obtain rfl : oo = s.os := mv.os
      refine wpAny_pure ?_
      show wpAny _ _ (ret Value.none) _ _ _
      rw [isz] at tk
      refine wpAny_pure ⟨rfl, h', tt, ps, rfl, T, tk, fun b o e => ?_⟩
      have hb0 := Heap.lt_size e
      exact mv.heap b o (by rw [k6]; simp only [List.mem_cons, List.not_mem_nil, or_false, not_or]; exact ⟨Nat.ne_of_lt hb0, Nat.ne_of_lt (Nat.lt_succ_of_lt hb0)⟩) (Heap.get?_push_of_some _ (Heap.get?_push_of_some _ e))
  · cases r with
    | error e => exact hz
    | ok fl =>
    cases fl with
    | next => exact hz.elim
    | brk => exact hz.elim
    | cont => exact hz.elim
    | ret u =>
    obtain ⟨rfl, h', tk, ps, rfl, T, tkn, kk⟩ := hz
    repeat (any_goals (first | assumption | wp_step))
    exact hQ _ _ _ T tkn kk
end
end On

set_option Elab.async false
set_option linter.all false
set_option maxRecDepth 100000
set_option maxHeartbeats 3200000
set_option autoImplicit false
namespace On
open PySem PySem.Spec PyProof.Rows L2
section
variable {P : Program} {w : World} {A : Around} {E : Value → Shared → Prop} {s : Shared} {a : Addr} {ps : List (Str × Tok)}
/-- sorted(s), s a set of texts -/
theorem sorted_tset {Q : Value → Shared → Prop} (R : TSet w s.heap a ps) (hh : A.handled = none) (h64 : ps.length < 64)
    (hQ : ∀ s' p (out : Array Value) (c : Nat) (ys : List Str), (∀ b o, s.heap.get? b = some o → s'.heap.get? b = some o) → s'.gens = s.gens → s'.os = s.os → s.heap.objs.size ≤ p → s'.heap.get? p = some (seqObj "list" out c) → StrsAre out.toList ys → ys.Perm (ps.map (·.1)) → sortedS ys = true → Q (.ref p) s') :
    wpAny (model P w) A (call (.builtin "sorted") [.ref a]) Q E s := by
  obtain ⟨⟨o, es, ep, t, ho, hx, hd, he, hf, hr, hl⟩, nd, few⟩ := R
  have sz : es.size = ps.length := by rw [← Array.length_toList, he, List.length_map]
  refine Calls.call_function_entry kind_sorted plain_sorted entry_sorted (args_sorted1 _) ?_
  unfold Builtin.«sorted»
  refine wpAny_bind (m := checkCount "sorted" 1 1 _) (wpAny_pure (wpAny_bind ?_))
  refine collect_set (A := A.in1) hh ⟨o, ho, hx.1, hd⟩ hf (by rw [sz]; exact few) hr hl fun s1 vs k1 z1 g1 o1 pm => ?_
  have vl : vs.length = ps.length := by rw [pm.length_eq, List.length_map, he, List.length_map]
  have hS : StrsAre vs (vs.map strOf) := strsAre_map vs fun v hv => by
    obtain ⟨e, h1, h2⟩ := List.mem_map.mp (pm.mem_iff.mp hv)
    rw [he] at h1
    obtain ⟨p, _, rfl⟩ := List.mem_map.mp h1
    exact ⟨p.1, p.2, h2.symm⟩
  have pv : (vs.map strOf).Perm (ps.map (·.1)) := by
    have := pm.map strOf
    rw [he, List.map_map, List.map_map] at this
    exact this
  refine wpAny_bind (wpAny_newList ?_ (by rw [vl, sizeLine_eq]; omega))
  have hL : (s1.heap.push (seqObj "list" vs.toArray 0)).get? s1.heap.objs.size = some (seqObj "list" vs.toArray 0) := Heap.get?_push_size _ rfl
  refine wpAny_bind (wpAny_holding (wpAny_call_entry slot_list_sort ⟨_, hL, rfl⟩ entry_list_sort (list_sort_treeK strKind_oneLt hL hS.keysOf (fun _ _ _ e => keyKind_strs (by rw [← e]; exact hS)) (by rw [vl]; exact h64) fun st hp hs => ⟨_, rfl, ?_⟩) (args_list_sort _)))
  obtain ⟨ys, q1, q2, q3⟩ := sorted_out_str hS hp hs
  obtain ⟨c, hc⟩ := sortedHeap_at (vs := vs) (out := (arrOf st).map (·.2)) hL
  refine wpAny_pure ⟨_, rfl, hQ _ s1.heap.objs.size _ c ys (fun b u e => ?_) g1 o1 z1 hc q1 (q2.trans pv) q3⟩
  have q := k1 b u e
  have lt := Heap.lt_size q
  exact (sortedHeap_old (Nat.ne_of_lt lt) (by rw [size_push']; exact Nat.lt_succ_of_lt lt)).trans (Heap.get?_push_of_some _ q)
end
/-! ### sorted(set(e)) -/
def TSo (w : World) (a : Addr) (ps : List (Str × Tok)) : HO := .ext fun h => TSet w h a ps
theorem nt_TSo {w : World} {a : Addr} {ps : List (Str × Tok)} : NT (TSo w a ps) := fun _ z => by unfold TSo at z; cases z
section
variable {X : Cx}
def rTSet (K : PySem.W.Frag) (w : World) : List V → Hp → VK → Prop := fun vs H Q => ∃ l xs, vs = [.ref l] ∧ SqL K H l (xs.map V.str) ∧ xs.length < 64 ∧ ∀ a ps, H a = none → Taken xs xs.length ps → Q (.ref a) (upd H a (TSo w a ps))
theorem cr_tset (hc : X.calm = true) : CallR X (.type "set") (rTSet X.K X.w) := by
  intro pins s σ H vs us Q I r h
  obtain ⟨l, xs, rfl, hs, h64, q⟩ := h
  obtain ⟨its, rv, hl, _⟩ := I.list hs
  rw [Vals.ref1 r]
  refine call_tset xs (I.ok.hd hc) hl.isList (by rw [List.toList_toArray]; exact rv.strs) (Nat.lt_of_lt_of_le (Nat.succ_lt_succ h64) (by decide)) fun h' tk ps T tn k => ?_
  have nw : H s.heap.objs.size = none := I.hok.fresh (Nat.le_refl _)
  refine ⟨.ref _, upd H s.heap.objs.size (TSo X.w s.heap.objs.size ps), I.laid (t' := tk) k (Nat.le_refl _) ?_, rfl, q _ ps nw tn⟩
  obtain ⟨o, es, ep, t, ho, r⟩ := T.ex
  exact ⟨T, ⟨o, ho⟩, fun h1 h2 z kk => TSet.at z kk⟩
def rTSort (w : World) : List V → Hp → VK → Prop := fun vs H Q => ∃ a ps, vs = [.ref a] ∧ H a = some (TSo w a ps) ∧ ps.length < 64 ∧ ∀ (ys : List Str) p, ys.Perm (ps.map (·.1)) → (ps.map (·.1)).Nodup → sortedS ys = true → H p = none → Q (.ref p) (upd H p (.lst (ys.map V.str)))
theorem cr_tsort (hc : X.calm = true) : CallR X (.builtin "sorted") (rTSort X.w) := by
  intro pins s σ H vs us Q I r h
  obtain ⟨a, ps, rfl, ha, h64, q⟩ := h
  have T : TSet X.w s.heap a ps := (I.hok a _ ha).1
  rw [Vals.ref1 r]
  refine sorted_tset T (I.ok.hd hc) h64 fun s' p out c ys k g o hp hg hi pm st => ?_
  have nw : H p = none := I.hok.fresh hp
  have len : (ys.map V.str).length ≤ sizeLine := by rw [List.length_map, pm.length_eq, List.length_map, sizeLine_eq]; omega
  obtain ⟨h', g', d', t', o'⟩ := s'
  have e1 : o' = s.os := o
  have e2 : g' = s.gens := g
  subst e1 e2
  have J : Inv X pins σ (upd H p (.lst (ys.map V.str))) { s with heap := h', drawn := d', toks := t' } :=
    I.call (ch := []) (Un.laid k hp nw) (I.hok.laid k hp ⟨len, out.toList, c, vals_of_strs hi, hg⟩) I.bare (fun _ z => nomatch z)
  exact ⟨.ref p, _, J, rfl, q ys p pm T.nd st nw⟩
end
end On

set_option Elab.async false
set_option linter.all false
set_option maxRecDepth 100000
set_option maxHeartbeats 3200000
set_option autoImplicit false
namespace On
open PySem PySem.Spec PyProof.Rows L2
/-! ### texts in their order, each once -/
def lS (x y : Str) : Prop := x.cps.toList < y.cps.toList
theorem lS_irr {x : Str} : ¬ lS x x := List.lt_irrefl _
theorem lS_trans {x y z : Str} (h : lS x y) (k : lS y z) : lS x z := List.lt_trans h k
theorem str_cps {x y : Str} (h : x.cps.toList = y.cps.toList) : x = y := by
  obtain ⟨a⟩ := x
  obtain ⟨b⟩ := y
  obtain rfl : a = b := Array.toList_inj.mp h
  rfl
theorem lS_tri {x y : Str} (h : ¬ lS x y) (k : ¬ lS y x) : x = y := str_cps (List.le_antisymm (List.not_lt.mp k) (List.not_lt.mp h))
theorem rising_all {y : Str} : ∀ {p : Str} {l : List Str}, risingS p l = true → y ∈ l → ¬ lS y p
  | p, x :: r, h, hy => by
    have h : (!ltCps x.cps.toList p.cps.toList && risingS x r) = true := h
    simp only [Bool.and_eq_true, Bool.not_eq_true'] at h
    rw [ltCps_eq] at h
    have h1 : ¬ lS x p := fun z => by have := h.1; rw [decide_eq_true (show x.cps.toList < p.cps.toList from z)] at this; cases this
    rcases List.mem_cons.mp hy with rfl | hy
    · exact h1
    · intro z
      have := rising_all h.2 hy
      by_cases c : lS p x
      · exact this (lS_trans z c)
      · exact this (lS_tri h1 c ▸ z)
theorem sorted_pw : ∀ {l : List Str}, sortedS l = true → l.Nodup → l.Pairwise lS
  | [], _, _ => .nil
  | x :: r, h, nd => by
    have nd' := List.nodup_cons.mp nd
    have h : risingS x r = true := h
    refine List.pairwise_cons.mpr ⟨fun y hy => ?_, sorted_pw (l := r) ?_ nd'.2⟩
    · have := rising_all h hy
      by_cases c : lS x y
      · exact c
      · exact absurd (lS_tri c this ▸ hy) nd'.1
    · cases r with
      | nil => rfl
      | cons z r =>
        have h : (!ltCps z.cps.toList x.cps.toList && risingS z r) = true := h
        exact (Bool.and_eq_true_iff.mp h).2
theorem pw_unique : ∀ {l m : List Str}, l.Pairwise lS → m.Pairwise lS → (∀ y, y ∈ l ↔ y ∈ m) → l = m
  | [], [], _, _, _ => rfl
  | [], b :: m, _, _, h => by have := (h b).mpr List.mem_cons_self; cases this
  | a :: l, [], _, _, h => by have := (h a).mp List.mem_cons_self; cases this
  | a :: l, b :: m, h1, h2, h => by
    obtain ⟨a1, a2⟩ := List.pairwise_cons.mp h1
    obtain ⟨b1, b2⟩ := List.pairwise_cons.mp h2
    have e : a = b := by
      rcases List.mem_cons.mp ((h a).mp List.mem_cons_self) with e | e
      · exact e
      · rcases List.mem_cons.mp ((h b).mpr List.mem_cons_self) with e' | e'
        · exact e'.symm
        · exact absurd (lS_trans (b1 a e) (a1 b e')) lS_irr
    subst e
    rw [pw_unique a2 b2 fun y => ?_]
    constructor
    · intro z
      rcases List.mem_cons.mp ((h y).mp (List.mem_cons_of_mem _ z)) with e | e
      · exact absurd (e ▸ a1 y z) lS_irr
      · exact e
    · intro z
      rcases List.mem_cons.mp ((h y).mpr (List.mem_cons_of_mem _ z)) with e | e
      · exact absurd (e ▸ b1 y z) lS_irr
      · exact e
def insS (x : Str) : List Str → List Str
  | [] => [x]
  | y :: r => if x = y then y :: r else if ltS x y = true then x :: y :: r else y :: insS x r
def canS : List Str → List Str
  | [] => []
  | x :: r => insS x (canS r)
theorem ins_mem {x z : Str} : ∀ {l : List Str}, z ∈ insS x l ↔ z = x ∨ z ∈ l
  | [] => by simp [insS]
  | y :: r => by
    unfold insS
    by_cases c : x = y
    · subst c
      rw [if_pos rfl]
      simp
    · rw [if_neg c]
      by_cases c2 : ltS x y = true
      · rw [if_pos c2]; simp
      · rw [if_neg c2, List.mem_cons, ins_mem, List.mem_cons]
        exact ⟨fun h => h.elim (fun e => .inr (.inl e)) fun h => h.elim .inl fun e => .inr (.inr e), fun h => h.elim (fun e => .inr (.inl e)) fun h => h.elim .inl fun e => .inr (.inr e)⟩
theorem ins_pw {x : Str} : ∀ {l : List Str}, l.Pairwise lS → (insS x l).Pairwise lS
  | [], _ => List.pairwise_singleton _ _
  | y :: r, h => by
    obtain ⟨h1, h2⟩ := List.pairwise_cons.mp h
    unfold insS
    by_cases c : x = y
    · rw [if_pos c]; exact h
    · rw [if_neg c]
      by_cases c2 : ltS x y = true
      · rw [if_pos c2]
        have c2 : x.cps.toList < y.cps.toList := of_decide_eq_true c2
        have c2 : lS x y := c2
        refine List.pairwise_cons.mpr ⟨fun z hz => ?_, h⟩
        rcases List.mem_cons.mp hz with rfl | hz
        · exact c2
        · exact lS_trans c2 (h1 z hz)
      · rw [if_neg c2]
        have c2 : ¬ lS x y := fun z => c2 (decide_eq_true (show x.cps.toList < y.cps.toList from z))
        refine List.pairwise_cons.mpr ⟨fun z hz => ?_, ins_pw h2⟩
        rcases ins_mem.mp hz with rfl | hz
        · by_cases c3 : lS y z
          · exact c3
          · exact absurd (lS_tri c2 c3) c
        · exact h1 z hz
theorem can_mem {z : Str} : ∀ {l : List Str}, z ∈ canS l ↔ z ∈ l
  | [] => Iff.rfl
  | x :: r => by rw [canS, ins_mem, can_mem (l := r), List.mem_cons]
theorem can_pw : ∀ {l : List Str}, (canS l).Pairwise lS
  | [] => .nil
  | x :: r => ins_pw can_pw
theorem can_of {xs ys zs : List Str} (p : ys.Perm zs) (nd : zs.Nodup) (st : sortedS ys = true) (h : ∀ y, y ∈ zs ↔ y ∈ xs) : ys = canS xs :=
  pw_unique (sorted_pw st (p.nodup_iff.mpr nd)) can_pw fun y => by rw [p.mem_iff, h y, can_mem]
/-! ### the rule -/
def strsD : List D → Option (List Str)
  | [] => some []
  | .str x :: r => (strsD r).map (x :: ·)
  | _ => none
theorem DenA.strsV {C : Cb} {ρ : List Addr} {H : Hp} {B : Addr → Prop} : ∀ {vs : List V} {ds : List D} {xs : List Str}, DenA C ρ H B vs ds → strsD ds = some xs → vs = xs.map V.str
  | _, _, _, .nil, e => by cases e; rfl
  | _, _, xs, .cons (d := d) (ds := ds) h r, e => by
    cases d with
    | str x =>
      have e : (strsD ds).map (x :: ·) = some xs := e
      cases q : strsD ds with
      | none => rw [q] at e; cases e
      | some ys =>
        rw [q] at e
        cases e
        cases h
        rw [r.strsV q]
        rfl
    | _ => cases e
theorem denA_strs {C : Cb} {ρ : List Addr} {H : Hp} {B : Addr → Prop} : ∀ (xs : List Str), DenA C ρ H B (xs.map V.str) (xs.map D.str)
  | [] => .nil
  | x :: r => .cons (.str x) (denA_strs r)
def srtD (d : D) : Option D := match d with
  | .lst ds => (match strsD ds with
    | some xs => if xs.length < 64 then some (.lst ((canS xs).map .str)) else none
    | none => none)
  | _ => none
def mSrt (me : Gm → J → R D) : Gm → J → R D := fun Γ j => (me Γ j).bind fun d j => lift (srtD (deref j d)) j
section
variable {C : Ct} {E : WX} {X : Cx} {e : Expr} {me : Gm → J → R D} {p p2 q pos : Pos}
theorem me_srt (hc : X.calm = true) (hK : X.K = C.b.K) (hg : Gl X "sorted") (hm : X.mg "sorted" = none) (hg2 : Gl X "set") (hm2 : X.mg "set" = none) (he : ME C E X e me)
    (hs : starEach [e] X.env = (false, eval e X.env) :: starEach [] X.env := by rfl) (hpl : (backTo q (starEach [] X.env)).any (·.1) = false := by rfl)
    (hs2 : starEach [.Call (.Name "set" p2) [e] [] q] X.env = (false, eval (.Call (.Name "set" p2) [e] [] q) X.env) :: starEach [] X.env := by rfl) (hpl2 : (backTo pos (starEach [] X.env)).any (·.1) = false := by rfl) :
    ME C E X (.Call (.Name "sorted" p) [.Call (.Name "set" p2) [e] [] q] [] pos) (mSrt me) :=
  PE.imp (pe_callB (cr_tsort hc) hg hm (by decide +kernel) (pa_cons (pe_callTy (cr_tset hc) hg2 hm2 (by decide +kernel) (pa_cons he pa_nil hs) (by decide) (by decide) hs hpl) pa_nil hs2) (by decide) (by decide) hs2 hpl2) fun σ H Q ⟨O, ρ, Γ, j, S, h⟩ => ⟨O, ρ, Γ, j, S, Post.imp (Post.bind S h) fun d j1 ρ1 H1 k1 S1 q v hv => by
    obtain ⟨z, hz, q⟩ := post_lift S1 q
    unfold srtD at hz
    split at hz
    · rename_i ds hd
      split at hz
      · rename_i xs hx
        by_cases c : xs.length < 64
        · rw [if_pos c] at hz
          cases hz
          have hw := S1.st.view hv
          rw [hd] at hw
          obtain ⟨l, vs, rfl, hl, r⟩ := hw.lstSq
          have ev := r.strsV hx
          subst ev
          refine ⟨l, xs, rfl, by rw [hK]; exact hl, c, fun a ps na tk => ?_⟩
          have x0 : Ext H1 (upd H1 a (TSo X.w a ps)) := Ext.new na
          refine ⟨a, ps, rfl, upd_same, Nat.lt_of_le_of_lt tk.2 c, fun ys b pm nd st nb => ?_⟩
          have x1 : Ext (upd H1 a (TSo X.w a ps)) (upd (upd H1 a (TSo X.w a ps)) b (.lst (ys.map V.str))) := Ext.new nb
          have e1 : ys = canS xs := can_of pm nd st fun y => by rw [tk.1 y, List.take_length]
          subst e1
          refine q _ _ (x0.trans x1) (.lst upd_same ?_ (denA_strs _))
          exact (S1.ext x0).fresh nb
        · rw [if_neg c] at hz; cases hz
      · cases hz
    · cases hz⟩
end
end On

set_option Elab.async false
set_option linter.all false
set_option maxRecDepth 100000
set_option maxHeartbeats 2000000
set_option autoImplicit false
namespace On
open PySem PySem.Spec PyProof.Rows L2
section
variable {C : Ct} {E : WX} {X : Cx} {a b c e o : Expr} {es : List Expr} {ma mb mc me mo : Gm → J → R D} {mr : Gm → J → R (List D)} {pos p apos : Pos}
/-! ### s.lstrip(b) -/
def mLst1 (mo me : Gm → J → R D) : Gm → J → R D := fun Γ j => (mo Γ j).bind fun d j => match d with
  | .str x => (me Γ j).bind fun e j => (match e with
    | .str b => if x.length ≤ 100000 then .ok (.str (Txt.lstripChars x b)) j else .bad
    | _ => .bad)
  | _ => .bad
theorem me_lstrip (ho : ME C E X o mo) (he : ME C E X e me) (hs : starEach [e] X.env = [(false, eval e X.env)] := by rfl) (hbase : attributeBase o "lstrip" X.env (eval o X.env) = eval o X.env := by rfl) (hline : (apos.endLine == pos.line) = true := by rfl) :
    ME C E X (.Call (.Attribute o "lstrip" apos) [e] [] pos) (mLst1 mo me) :=
  PE.imp (pe_m1 F.slot_str_lstrip F.type_str_lstrip mt_lstripChars ho he hs hbase hline) fun σ H Q ⟨O, ρ, Γ, j, S, h⟩ => ⟨O, ρ, Γ, j, S, Post.imp (Post.bind S h) fun d j1 ρ1 H1 k1 S1 q v hv => by
    split at q
    · rename_i x
      cases hv
      refine ⟨⟨x, rfl⟩, O, ρ1, Γ, j1, S1, Post.imp (Post.bind S1 q) fun k j2 ρ2 H2 k2 S2 q2 y hy => ?_⟩
      split at q2
      · rename_i b
        cases hy
        obtain ⟨hl, q3⟩ := Post.ite q2
        exact ⟨x, b, rfl, rfl, sz5 hl, Post.now S2 q3 _ (.str _)⟩
      · exact q2.elim
    · exact q.elim⟩
/-! ### o.append(e), o a thing of the store that an expression tells -/
def sAppE (mo me : Gm → J → R D) : Gm → J → RS := fun Γ j => (mo Γ j).bindS Γ fun o j => match o with
  | .loc n => (match j[n]? with
    | some (some (.lst _)) => (me Γ j).bindS Γ fun d j => (match j[n]? with
      | some (some (.lst ds)) => if ds.length < 100000 then .nx Γ (j.set n (some (.lst (ds ++ [d])))) else .bad
      | _ => .bad)
    | _ => .bad)
  | _ => .bad
theorem ms_appE (hK : X.K = C.b.K) (ho : ME C E X o mo) (he : ME C E X e me) (hs : swapsWith (.Call (.Attribute o "append" apos) [e] [] p) none pos.line X.env = pure false := by rfl)
    (hbase : attributeBase o "append" X.env (eval o X.env) = eval o X.env := by rfl)
    (hfew : ((backTo p (starEach [e] X.env)).all (fun x => !x.1) && (backToKw p (keywordEach [] X.env)).all (fun x => x.1.isSome) && decide ([e].length + ([] : List Keyword).length + (if ([] : List Keyword).isEmpty then 0 else 1) < 30)) = true := by rfl)
    (hline : (apos.endLine == p.line) = true := by rfl) (hst : starEach [e] X.env = (false, eval e X.env) :: starEach [] X.env := by rfl) (hplain : (backTo p (starEach [] X.env)).any (·.1) = false := by rfl) :
    MS C E X (.Expr (.Call (.Attribute o "append" apos) [e] [] p) pos) (sAppE mo me) :=
  PS.imp (ps_expr (pe_bm PySem.F.plainAttrs_list PySem.F.slot_list_append PySem.F.type_list_append mt_append ho (pa_cons he pa_nil hst) hbase hfew hline hst hplain) hs) fun Dn σ H ⟨O, ρ, Γ, j, S, h⟩ => ⟨O, ρ, Γ, j, S, Post.imp (PostS.of S h) fun d j1 ρ1 H1 k1 S1 q v hv => by
    split at q
    · rename_i n
      split at q
      · rename_i ds0 hn0
        cases hv with
        | loc hr =>
          obtain ⟨b0, eb0, xs0, hx0, r0⟩ := S1.st.sto n _ hn0
          rw [hr] at eb0
          cases eb0
          refine ⟨.inl ⟨rfl, xs0, .inl (.inl hx0)⟩, O, ρ1, Γ, j1, S1, Post.imp (PostS.of S1 q) fun d2 j2 ρ2 H2 k2 S2 q2 u hu => ?_⟩
          split at q2
          · rename_i ds hn
            obtain ⟨hl, q2⟩ := PostS.ite q2
            obtain ⟨b, eb, xs, hx, r⟩ := S2.st.sto n _ hn
            have hr2 := k2.pfx _ _ hr
            rw [hr2] at eb
            cases eb
            refine ⟨_, xs, u, rfl, rfl, hx, Nat.lt_of_lt_of_le (by rw [r.length]; exact hl) (sz5 (Nat.le_refl _)), ?_⟩
            obtain ⟨s4, k4⟩ := S2.st.put (d' := .lst (ds ++ [d2])) (o := .lst (xs ++ [u])) hn hr2 fun f => ⟨_, upd_same, (r.append (.cons hu .nil)).map f⟩
            exact q2 O ρ2 σ _ (k4.step O) (S2.keep k4 s4)
          · exact q2.elim
      · exact q.elim
    · exact q.elim⟩
end
/-! ### a call to which a thing of one's own is lent: the def sees no store, and hands back what is flat -/
mutual
def D.noLoc : D → Bool
  | .loc _ => false
  | .lst xs => D.noLocA xs
  | .tup xs => D.noLocA xs
  | .frz _ => false
  | .dct es => D.noLocE es
  | .ins _ fs => D.noLocF fs
  | .exn _ fs => D.noLocF fs
  | .fn _ _ => false
  | .fdc es => D.noLocE es
  | .tdc es => D.noLocE es
  | .ftc es => D.noLocE es
  | _ => true
def D.noLocA : List D → Bool
  | [] => true
  | d :: ds => d.noLoc && D.noLocA ds
def D.noLocE : List (D × D) → Bool
  | [] => true
  | (k, d) :: r => d.noLoc && D.noLocE r
def D.noLocF : List (Str × D) → Bool
  | [] => true
  | (k, d) :: r => d.noLoc && D.noLocF r
end
section
variable {C : Cb} {ρ ρ' : List Addr} {H : Hp} {B : Addr → Prop}
mutual
theorem Den.noLoc : ∀ {v : V} {d : D}, Den C ρ H B v d → d.noLoc = true → Den C ρ' H B v d
  | _, _, .non, _ => .non
  | _, _, .bl b, _ => .bl b
  | _, _, .int i, _ => .int i
  | _, _, .str x, _ => .str x
  | _, _, .lst h n r, e => .lst h n (DenA.noLoc r (by simpa [D.noLoc] using e))
  | _, _, .frz h n r, e => by simp [D.noLoc] at e
  | _, _, .frzK h r, e => by simp [D.noLoc] at e
  | _, _, .tup h n r, e => .tup h n (DenA.noLoc r (by simpa [D.noLoc] using e))
  | _, _, .tupK h kp r, e => .tupK h kp (DenA.noLoc r (by simpa [D.noLoc] using e))
  | _, _, .dK h n r, e => .dK h n (DenK.noLoc r (by simpa [D.noLoc] using e))
  | _, _, .dT h n r, e => .dT h n (DenT.noLoc r (by simpa [D.noLoc] using e))
  | _, _, .fK h n r, e => .fK h n (DenK.noLoc r (by simpa [D.noLoc] using e))
  | _, _, .fT h n r, e => .fT h n (DenT.noLoc r (by simpa [D.noLoc] using e))
  | _, _, .ins h n r, e => .ins h n (DenF.noLoc r (by simpa [D.noLoc] using e))
  | _, _, .exn h n h2 n2 r, e => .exn h n h2 n2 (DenF.noLoc r (by simpa [D.noLoc] using e))
  | _, _, .loc h, e => by simp [D.noLoc] at e
  | _, _, .cls c, _ => .cls c
theorem DenA.noLoc : ∀ {v : List V} {d : List D}, DenA C ρ H B v d → D.noLocA d = true → DenA C ρ' H B v d
  | _, _, .nil, _ => .nil
  | _, _, .cons h r, e => by
    have e := Bool.and_eq_true_iff.mp (show (_ && _) = true from e)
    exact .cons (Den.noLoc h e.1) (DenA.noLoc r e.2)
theorem DenK.noLoc : ∀ {v : List (Key × V)} {d : List (D × D)}, DenK C ρ H B v d → D.noLocE d = true → DenK C ρ' H B v d
  | _, _, .nil, _ => .nil
  | _, _, .cons h r, e => by
    have e := Bool.and_eq_true_iff.mp (show (_ && _) = true from e)
    exact .cons (Den.noLoc h e.1) (DenK.noLoc r e.2)
theorem DenT.noLoc : ∀ {v : List (List Key × V)} {d : List (D × D)}, DenT C ρ H B v d → D.noLocE d = true → DenT C ρ' H B v d
  | _, _, .nil, _ => .nil
  | _, _, .cons h r, e => by
    have e := Bool.and_eq_true_iff.mp (show (_ && _) = true from e)
    exact .cons (Den.noLoc h e.1) (DenT.noLoc r e.2)
theorem DenF.noLoc : ∀ {v : List (Str × V)} {d : List (Str × D)}, DenF C ρ H B v d → D.noLocF d = true → DenF C ρ' H B v d
  | _, _, .nil, _ => .nil
  | _, _, .cons h r, e => by
    have e := Bool.and_eq_true_iff.mp (show (_ && _) = true from e)
    exact .cons (Den.noLoc h e.1) (DenF.noLoc r e.2)
end
end
def flatB : D → Bool
  | .non => true
  | .bl _ => true
  | .int _ => true
  | .str _ => true
  | _ => false
theorem Den.flatB {C : Cb} {ρ ρ' : List Addr} {H H' : Hp} {B B' : Addr → Prop} {v : V} {d : D} (h : Den C ρ H B v d) (e : On.flatB d = true) : Den C ρ' H' B' v d := by
  cases h <;> first | cases e; done | constructor
def mBor (g : List D → J → R D) (i : Nat) (mr : Gm → J → R (List D)) : Gm → J → R D := fun Γ j => match Γ[i]? with
  | some (some (.own c)) => (mr Γ j).bind fun ds j => if (c.noLoc && D.noLocA ds) = true then (match g (c :: ds) [] with
    | .ok r _ => if flatB r = true then .ok r j else .bad
    | _ => .bad) else .bad
  | _ => .bad
section
variable {C : Ct} {E : WX} {X : Cx} {es : List Expr} {mr : Gm → J → R (List D)} {g : List D → J → R D} {x y : Str} {p px pos : Pos} {k i : Nat}
theorem me_bor (tk : Takes X E) (G : Gd X.prog X.w C.b X.mg X.base k x (spG C.b g)) (hK : X.K = C.b.K) (hr : Room k X.A) (hgd : X.A.guards = some []) (hg : Gl X x) (hv : PE X (.Name y px) (tVar i)) (ha : MA C E X es mr) (hdb : (x == ("__debug__" : Str)) = false := by decide)
    (he : starEach (.Name y px :: es) X.env = (false, eval (.Name y px) X.env) :: starEach es X.env := by rfl) (hpl : (backTo pos (starEach es X.env)).any (·.1) = false := by rfl) : ME C E X (.Call (.Name x p) (.Name y px :: es) [] pos) (mBor g i mr) := by
  obtain ⟨f, fd, ps, F, hm, hk, hb⟩ := G.ex
  rw [← hK] at F hk hb
  refine PE.imp (pe_callG (E := WE E) F hr hgd hg hm hk hb (fun σ => passAt tk σ) (pa_cons hv ha he) hdb he hpl) fun σ H Q ⟨O, ρ, Γ, j, S, h⟩ => ?_
  unfold mBor at h
  split at h
  · rename_i c hc
    obtain ⟨l, e1, _⟩ := S.slot i _ hc
    refine ⟨.ref l, e1, O, ρ, Γ, j, S, Post.imp (Post.bind S h) fun ds j1 ρ1 H1 k1 S1 q vs hvs => ?_⟩
    obtain ⟨hn, q⟩ := Post.ite q
    obtain ⟨n1, n2⟩ := Bool.and_eq_true_iff.mp hn
    obtain ⟨l', e1', hO, _, nr, _, hcn⟩ := S1.slot i _ hc
    rw [e1] at e1'
    cases e1'
    let O' : Addr → Prop := fun a => Bo O ρ1 j1 a ∧ a ≠ l
    have sub : ∀ a, Bo O' [] [] a → Bo O ρ1 j1 a ∨ H1 a = none := fun a z => by
      rcases z with z | z
      · exact .inl z.1
      · exact (by simpa using z.mem)
    have nl : ¬ Bo O' [] [] l := fun z => by
      rcases z with z | z
      · exact z.2 rfl
      · exact (by simpa using z.mem)
    have dc : Den C.b [] H1 (Bo O' [] []) (.ref l) c := by
      have := (hcn.map (H' := H1) (B' := Bo O' [] []) (ρ' := ρ1) (fun o _ z => z) fun v d z => z.less sub).den nl
      exact this.noLoc n1
    have dv : DenA C.b [] H1 (Bo O' [] []) vs ds := DenA.noLoc (hvs.map fun v d z => z.less sub) n2
    have st : Sto C.b O' [] H1 [] := ⟨fun a z => S1.trkB a z.1, S1.st.tab, fun a z => (by cases z), rfl, List.nodup_nil, fun n d z => (by cases z)⟩
    refine ⟨O', [], [], c :: ds, st, .cons dc dv, ?_⟩
    revert q
    cases g (c :: ds) [] with
    | bad => exact fun q => q.elim
    | exc cc fs j' => exact fun q => q.elim
    | ok r j' =>
      intro q v ρ2 H2 kp s2 hd
      obtain ⟨hf, q⟩ := Post.ite q
      have keep : ∀ a o, NT o → H1 a = some o → H2 a = some o := fun a o t e => kp.keep a o (fun z => by simpa using z.mem) t e
      have kk : Kp ρ1 j1 H1 ρ1 j1 H2 := ⟨fun a o _ t e => keep a o t e, kp.tbl, fun _ z => .inl z, fun _ z => .inl z, Pfx.refl⟩
      have th : ∀ a, (∃ o, H1 a = some o) → ∃ o, H2 a = some o := fun a ⟨o, e⟩ => kp.there (fun z => by simpa using z.mem) e
      have ss : Sto C.b O ρ1 H2 j1 := ⟨fun a z => th a (S1.st.trk a z), s2.tab, fun a z => th a (S1.st.rtr a z), S1.st.rl, S1.st.nd, fun n d z => let ⟨a, ea, qq⟩ := S1.st.sto n d z; ⟨a, ea, qq.map (fun o t e => keep a o t e) fun _ _ => (kk.step O).den⟩⟩
      exact q ρ1 H2 kk (S1.keep kk ss) v (hd.flatB hf)
  · exact h.elim
end
end On

set_option Elab.async false
set_option linter.all false
set_option maxRecDepth 100000
set_option maxHeartbeats 2000000
set_option autoImplicit false
namespace On
open PySem PySem.Spec PyProof.Rows L2
/-! ### walks over a locked dict -/
section
variable {C : Cb} {ρ : List Addr} {H : Hp} {B : Addr → Prop}
theorem DenK.len : ∀ {kvs : List (Key × V)} {es : List (D × D)}, DenK C ρ H B kvs es → kvs.length = es.length
  | _, _, .nil => rfl
  | _, _, .cons _ r => congrArg Nat.succ r.len
theorem DenK.at_ : ∀ {kvs : List (Key × V)} {es : List (D × D)} {i : Nat} {q : D × D}, DenK C ρ H B kvs es → es[i]? = some q → ∃ k v, kvs[i]? = some (k, v) ∧ q.1 = keyD k ∧ Den C ρ H B v q.2
  | _, _, _, _, .nil, e => by cases e
  | _, _, 0, _, .cons h _, e => by cases e; exact ⟨_, _, rfl, rfl, h⟩
  | _, _, i + 1, _, .cons _ r, e => r.at_ (i := i) e
theorem den_kV (k : Key) : Den C ρ H B (kV k) (keyD k) := by
  cases k with
  | inl i => exact .int i
  | inr x => exact .str x
end
section
variable {C : Ct} {E : WX} {X : Cx} {tg iter e : Expr} {me : Gm → J → R D} {pos : Pos}
/-- what a walk over a locked dict leans on -/
def LkK (C : Ct) (a : Addr) (o : Obj) (kvs : List (Key × V)) (es : List (D × D)) : List Addr → (Addr → Prop) → Hp → Prop := fun ρ B H => H a = some (.frz o (.dK kvs)) ∧ ¬ B a ∧ DenK C.b ρ H B kvs es
theorem LkK.stay {a : Addr} {o : Obj} {kvs : List (Key × V)} {es : List (D × D)} {ρ ρ' : List Addr} {B B' : Addr → Prop} {H H' : Hp} (p : Step ρ B H ρ' B' H') (h : LkK C a o kvs es ρ B H) : LkK C a o kvs es ρ' B' H' := by
  obtain ⟨h1, h2, h3⟩ := h
  refine ⟨p.pres.get _ _ h2 nt_frz h1, fun z => ?_, h3.map fun _ _ => p.den⟩
  rcases p.grow a z with w | w
  · exact h2 w
  · rw [h1] at w; cases w
theorem yl_keys {a : Addr} {o : Obj} {kvs : List (Key × V)} {es : List (D × D)} : Yl C (LkK C a o kvs es) (Itk a o kvs) (es.map (·.1)) where
  go := fun i ρ B H h hi => ⟨h.1, by rw [h.2.2.len]; simpa using hi⟩
  yld := fun i ρ B H x H' d h _ hd y => by
    obtain ⟨eH, k, v, hk, ex⟩ := y
    subst eH ex
    rw [List.getElem?_map] at hd
    cases q : es[i]? with
    | none => rw [q] at hd; cases hd
    | some z =>
      rw [q] at hd
      cases hd
      obtain ⟨k', v', hk', e1, _⟩ := h.2.2.at_ q
      rw [hk] at hk'
      cases hk'
      exact ⟨Ext.refl, by show Den _ _ _ _ _ z.1; rw [e1]; exact den_kV k⟩
  stop := fun i ρ B H h hi => ⟨h.1, by rw [h.2.2.len]; simpa using hi⟩
  stay := fun ρ B H ρ' B' H' p h => h.stay p
theorem yl_items {a : Addr} {o : Obj} {kvs : List (Key × V)} {es : List (D × D)} : Yl C (LkK C a o kvs es) (Iti a o kvs) (es.map fun q => .tup [q.1, q.2]) where
  go := fun i ρ B H h hi => ⟨h.1, by rw [h.2.2.len]; simpa using hi⟩
  yld := fun i ρ B H x H' d h ht hd y => by
    obtain ⟨T, k, v, hk, ex, hT, eH⟩ := y
    subst eH ex
    rw [List.getElem?_map] at hd
    cases q : es[i]? with
    | none => rw [q] at hd; cases hd
    | some z =>
      rw [q] at hd
      cases hd
      obtain ⟨k', v', hk', e1, r⟩ := h.2.2.at_ q
      rw [hk] at hk'
      cases hk'
      have x : Ext H (upd H T (.tup [kV k, v])) := Ext.new hT
      refine ⟨x, .tup upd_same (fun z => ?_) (.cons (by rw [e1]; exact den_kV k) (.cons (r.mono x.pres Pfx.refl) .nil))⟩
      obtain ⟨o, w⟩ := ht T z
      rw [hT] at w
      cases w
  stop := fun i ρ B H h hi => ⟨h.1, by rw [h.2.2.len]; simpa using hi⟩
  stay := fun ρ B H ρ' B' H' p h => h.stay p
/-- keys that are numbers or texts -/
def fkey (es : List (D × D)) : Bool := es.all fun q => isKey q.1
def iFk (me : Gm → J → R D) : Gm → J → R (List D) := fun Γ j => (me Γ j).bind fun d j => match d with
  | .fdc es => .ok (es.map (·.1)) j
  | _ => .bad
def iFi (me : Gm → J → R D) : Gm → J → R (List D) := fun Γ j => (me Γ j).bind fun d j => match d with
  | .fdc es => .ok (es.map fun q => .tup [q.1, q.2]) j
  | _ => .bad
theorem Den.lkK {c : Cb} {ρ : List Addr} {H : Hp} {B : Addr → Prop} {v : V} {es : List (D × D)} (h : Den c ρ H B v (.fdc es)) : ∃ a o kvs, v = .ref a ∧ H a = some (.frz o (.dK kvs)) ∧ ¬ B a ∧ DenK c ρ H B kvs es := by
  cases h with
  | fK h n r => exact ⟨_, _, _, rfl, h, n, r⟩
theorem mi_fkeys (he : ME C E X iter me) : MI C E X tg iter (iFk me) :=
  PI.imp (pi_keys he) fun σ H Rr ⟨O, ρ, Γ, j, S, h⟩ => ⟨O, ρ, Γ, j, S, Post.imp (Post.bind S h) fun d j1 ρ1 H1 k1 S1 q v hv => by
    split at q
    · rename_i es
      obtain ⟨a, o, kvs, rfl, h1, h2, h3⟩ := hv.lkK
      exact ⟨a, o, rfl, .inl ⟨kvs, h1, Post.now S1 q _ _ yl_keys ⟨h1, h2, h3⟩⟩⟩
    · exact q.elim⟩
theorem mi_fitems {elts : List Expr} {kk : Nat} {tpos apos cpos : Pos} (he : ME C E X e me) (hbase : attributeBase e "items" X.env (eval e X.env) = eval e X.env := by rfl) (hline : (apos.endLine == cpos.line) = true := by rfl) :
    MI C E X (.Tuple elts kk tpos) (.Call (.Attribute e "items" apos) [] [] cpos) (iFi me) :=
  PI.imp (pi_items he hbase hline) fun σ H Rr ⟨O, ρ, Γ, j, S, h⟩ => ⟨O, ρ, Γ, j, S, Post.imp (Post.bind S h) fun d j1 ρ1 H1 k1 S1 q v hv => by
    split at q
    · rename_i es
      obtain ⟨a, o, kvs, rfl, h1, h2, h3⟩ := hv.lkK
      exact ⟨a, o, kvs, rfl, h1, Post.now S1 q _ _ yl_items ⟨h1, h2, h3⟩⟩
    · exact q.elim⟩
end
/-! ### from here on a dict of one's own is a value, locked -/
def frzL (i : Nat) (Γ : Gm) : Gm := match Γ[i]? with
  | some (some (.own (.dct es))) => Γ.set i (some (.val (.fdc es)))
  | some (some (.own (.tdc es))) => Γ.set i (some (.val (.ftc es)))
  | _ => Γ
section
variable {C : Ct} {E : WX} {X : Cx}
theorem Sok.lockOwn {O : Addr → Prop} {ρ : List Addr} {σ : L2.St} {H : Hp} {Γ : Gm} {j : J} {i : Nat} {d1 d2 : D} {l : Addr} (S : Sok C O ρ σ H Γ j) (hi : Γ[i]? = some (some (.own d1))) (e1 : σ[i]? = some (some (.ref l))) {u : HO} (hu : H l = some u) (hw : NW u) (od : Obj)
    (hd : ∀ H' (O' : Addr → Prop), Step ρ (Bo O ρ j) H ρ (Bo O' ρ j) H' → H' l = some (.frz od u) → ¬ Bo O' ρ j l → Den C.b ρ H' (Bo O' ρ j) (.ref l) d2) :
    ∃ O', Step ρ (Bo O ρ j) H ρ (Bo O' ρ j) (upd H l (.frz od u)) ∧ Sok C O' ρ σ (upd H l (.frz od u)) (Γ.set i (some (.val d2))) j := by
  obtain ⟨l', e1', hb, h0, nr, hs, r⟩ := S.slot i _ hi
  rw [e1] at e1'
  cases e1'
  let O' : Addr → Prop := fun a => O a ∧ a ≠ l
  have nB : ¬ Bo O' ρ j l := fun z => z.elim (fun z => z.2 rfl) fun z => nr z.mem
  have st : Step ρ (Bo O ρ j) H ρ (Bo O' ρ j) (upd H l (.frz od u)) := ⟨Pres.at (.inl hb) hu hw.1, fun a z => .inl (z.imp (·.1) id), Pfx.refl⟩
  have nl : ∀ {k : Nat} {ds' : D} {a : Addr}, i ≠ k → Γ[k]? = some (some (.own ds')) → σ[k]? = some (some (.ref a)) → a ≠ l := fun n g s w => n (S.dist i _ _ _ l hi g e1 (by rw [← w]; exact s))
  have ne0 : ∀ a o, C.H0 a = some o → a ≠ l := fun a o e z => by rw [z, h0] at e; cases e
  refine ⟨O', st, ⟨(S.st.write hb nr hu hw).less fun a z => z.1, by simpa using S.len, S.pre, fun a o n t e => ?_, fun a ps e => ?_, fun a z => S.onew a z.1, fun a z => ⟨S.b0 a z, fun w => ?_⟩, S.new, S.rnw, fun k c hk => ?_, fun k m ds' es' a h1 h2 h3 h4 => ?_, S.b00⟩⟩
  · rw [upd_ne (ne0 a o e)]; exact S.ex a o n t e
  · obtain ⟨qs, q⟩ := S.ext0 a ps e
    exact ⟨qs, by rw [upd_ne (ne0 a _ e)]; exact q⟩
  · obtain ⟨o, ho⟩ := S.b00 a z
    exact ne0 a o ho w
  · rcases set_cases hk with ⟨rfl, _, e⟩ | ⟨ne, hk⟩
    · cases e
      exact ⟨.ref l, e1, hd _ O' st upd_same nB⟩
    · have q := S.slot k c hk
      cases c with
      | val d => obtain ⟨u, z, r⟩ := q; exact ⟨u, z, st.den r⟩
      | own d =>
        obtain ⟨a, z, b, g0, n, hc, r⟩ := q
        have al := nl ne hk z
        exact ⟨a, z, ⟨b, al⟩, g0, n, hc, r.map (fun o _ w => by rw [upd_ne al]; exact w) fun _ _ => st.den⟩
      | act => exact q
  · have ne : ∀ {k : Nat} {es' : D}, (Γ.set i (some (.val d2)))[k]? = some (some (.own es')) → Γ[k]? = some (some (.own es')) := fun {k es'} g => by
      rcases set_cases g with ⟨_, _, e⟩ | ⟨_, g⟩
      · cases e
      · exact g
    exact S.dist k m ds' es' a (ne h1) (ne h2) h3 h4
theorem mb_freezeL (i : Nat) {sts : List Stmt} {m : Gm → J → RS} (h : MB C E X sts m) : MB C E X sts (fun Γ j => m (frzL i Γ) j) := by
  refine ⟨fun pins s σ H Dn I ⟨O, ρ, Γ, j, S, q⟩ => ?_⟩
  have q : PostS C E ρ (Bo O ρ j) H (m (frzL i Γ) j) Dn := q
  unfold frzL at q
  split at q
  · rename_i es hi
    obtain ⟨l, e1, hb, h0, nr, hs, r⟩ := S.slot i _ hi
    obtain ⟨kvs, hu, r⟩ := r
    · obtain ⟨od, I1⟩ := I.lock hu True.intro
      obtain ⟨O', st, S'⟩ := S.lockOwn hi e1 hu ⟨nt_dK, fun _ z => by cases z⟩ od fun H' O' st h1 h2 => .fK h1 h2 (r.map fun _ _ => st.den)
      exact h.run pins s σ _ Dn I1 ⟨O', ρ, _, j, S', PostS.shift st q⟩
  · rename_i es hi
    obtain ⟨l, e1, hb, h0, nr, hs, r⟩ := S.slot i _ hi
    obtain ⟨kvs, hu, r⟩ := r
    · obtain ⟨od, I1⟩ := I.lock hu True.intro
      obtain ⟨O', st, S'⟩ := S.lockOwn hi e1 hu ⟨nt_dT, fun _ z => by cases z⟩ od fun H' O' st h1 h2 => .fT h1 h2 (r.map fun _ _ => st.den)
      exact h.run pins s σ _ Dn I1 ⟨O', ρ, _, j, S', PostS.shift st q⟩
  · exact h.run pins s σ _ Dn I ⟨O, ρ, Γ, j, S, q⟩
end
end On

set_option Elab.async false
set_option linter.all false
set_option maxRecDepth 100000
set_option maxHeartbeats 2000000
set_option autoImplicit false
namespace On
open PySem PySem.Spec PyProof.Rows L2
/-! ### what an expression has made is locked as it is told -/
def tLockN (t : TE) : TE := fun σ H Q => t σ H fun v H' => ∃ d u, v = .ref d ∧ H' d = some u ∧ Mut (some u) ∧ ∀ od, Q v (upd H' d (.frz od u))
theorem pe_lockN {X : Cx} {e : Expr} {t : TE} (h : PE X e t) : PE X e (tLockN t) := by
  refine ⟨fun pins s σ H Q I hw => ?_⟩
  refine thn (h.run pins s σ _ _ I hw) fun v s1 ⟨x, H1, I1, r, d, u, ex, hd, mu, q⟩ => ?_
  obtain ⟨od, I2⟩ := I1.lock hd mu
  exact ⟨x, _, I2, r, q od⟩
/-! ### {k: v for target in iter if ..} -/
def dcMap (g : J → D → Gm → Option Gm) (mt : Gm → J → R Bool) (mk mv : Gm → J → R D) (Γ : Gm) : List D → List (D × D) → J → R (List (D × D))
  | [], acc, j => .ok acc j
  | d :: ds, acc, j => match g j d Γ with
    | none => .bad
    | some Γ1 => (mt Γ1 j).nox.bind fun b j => bif b then (mk Γ1 j).nox.bind fun k j => (mv Γ1 j).nox.bind fun v j => (bif isKey k then dcMap g mt mk mv Γ ds (putDK acc k v) j else .bad) else dcMap g mt mk mv Γ ds acc j
def mDc (mi : Gm → J → R (List D)) (g : J → D → Gm → Option Gm) (mt : Gm → J → R Bool) (mk mv : Gm → J → R D) (vs : List Nat) : Gm → J → R D := fun Γ j => (mi Γ j).bind fun ds j => if ds.length ≤ 100000 then (dcMap g mt mk mv (wipeG Γ vs) ds [] j).bind fun es j => .ok (.fdc es) j else .bad
section
variable {C : Ct} {E : WX} {X : Cx}
theorem dc_read {ts vs : List Nat} {mi : Gm → J → R (List D)} {g : J → D → Gm → Option Gm} {mt : Gm → J → R Bool} {mk mv : Gm → J → R D} (hts : ∀ k ∈ ts, k ∈ vs) {σ : L2.St} {H : Hp} {Q : VK}
    (h0 : St0 C E (mDc mi g mt mk mv vs) σ H fun O d j' ρ' H' => ∀ v, Den C.b ρ' H' (Bo O ρ' j') v d → Q v H') :
    tLockN (tDc (fun σ H Rr => St0 C E mi σ H fun O ds j' ρ' H' => ∀ I P, Yl C P I ds → P ρ' (Bo O ρ' j') H' → Rr I H')
      (fun v σ H Q => ∃ O ρ Γ j d Γ', Sok C O ρ σ H Γ j ∧ Den C.b ρ H (Bo O ρ j) v d ∧ g j d Γ = some Γ' ∧ ∀ σ', Off ts σ σ' → Sok C O ρ σ' H Γ' j → Q σ' H)
      (fun σ H Q => St0 C EN mt σ H fun _ b _ _ H' => Q b H')
      (fun σ H Q => St0 C EN mk σ H fun O d j' ρ' H' => ∀ v, Den C.b ρ' H' (Bo O ρ' j') v d → Q v H')
      (fun σ H Q => St0 C EN mv σ H fun O d j' ρ' H' => ∀ v, Den C.b ρ' H' (Bo O ρ' j') v d → Q v H') vs) σ H Q := by
  obtain ⟨O, ρ, Γ, j, S, h⟩ := h0
  refine ⟨O, ρ, Γ, j, S, Post.imp (Post.bind S h) fun ds j1 ρ1 H1 k1 S1 q I P Y hP => ?_⟩
  intro L hL
  obtain ⟨hlen, q⟩ := Post.ite q
  have nρ : L ∉ ρ1 := fun z => by obtain ⟨o, e⟩ := S1.st.rtr L z; rw [hL] at e; cases e
  let O' : Addr → Prop := fun a => O a ∨ a = L
  have hO : ∀ a, O a → O' a := fun a z => .inl z
  have hN : ∀ a, O' a → O a ∨ H1 a = none := fun a z => z.imp id fun e => by rw [e]; exact hL
  have x0 : Ext H1 (upd H1 L (.dK [])) := Ext.new hL
  have s0 : Sto C.b O' ρ1 (upd H1 L (.dK [])) j1 := (S1.more (o := .dK []) hL).st
  let W : Nat → Hp → Prop := fun i H2 => ∃ (ρ2 : List Addr) (j2 : J) (acc : List (Key × V)) (es : List (D × D)), Kp ρ1 j1 H1 ρ2 j2 H2 ∧ Sto C.b O' ρ2 H2 j2 ∧ L ∉ ρ2 ∧ H2 L = some (.dK acc) ∧ acc.length ≤ i ∧ DenK C.b ρ2 H2 (Bo O' ρ2 j2) acc es ∧ P ρ2 (Bo O' ρ2 j2) H2 ∧
      Post C E O σ Γ ρ1 j1 H1 ((dcMap g mt mk mv (wipeG Γ vs) (ds.drop i) es j2).bind fun fs j => .ok (.fdc fs) j) fun d j' ρ' H' => ∀ v, Den C.b ρ' H' (Bo O ρ' j') v d → Q v H'
  refine ⟨fun i m H2 => m = ds.length - i ∧ i ≤ ds.length ∧ W i H2, ⟨ds.length, by simp, Nat.zero_le _, ρ1, j1, [], [], x0.keep, s0, nρ, upd_same, Nat.le_refl _, .nil, Y.stay _ _ _ _ _ _ ((Ext.keep x0).stepO hN) hP, q⟩, ?_⟩
  rintro i m H2 ⟨rfl, hi, ρ2, j2, acc, es, k2, s2, n2, hl2, hacc, r2, hP2, q2⟩
  by_cases hlt : i < ds.length
  · refine .inr ⟨Y.go i _ _ H2 hP2 hlt, fun H3 => i + 1 ≤ ds.length ∧ W (i + 1) H3, fun H3 z => ⟨ds.length - (i + 1), by omega, rfl, z.1, z.2⟩, fun x H3 y => ?_⟩
    have S2 : Sok C O' ρ2 (wipe σ vs) H2 (wipeG Γ vs) j2 := (S1.wiped vs).keepO k2 hO hN s2
    obtain ⟨x3, d3⟩ := Y.yld i ρ2 _ H2 x H3 _ hP2 S2.trkB (List.getElem?_eq_getElem hlt) y
    rw [drop_get hlt] at q2
    unfold dcMap at q2
    cases e1 : g j2 ds[i] (wipeG Γ vs) with
    | none => rw [e1] at q2; exact q2.elim
    | some Γ3 =>
      rw [e1] at q2
      dsimp only at q2
      refine ⟨O', ρ2, wipeG Γ vs, j2, ds[i], Γ3, S2.ext x3, d3, e1, fun σ3 o3 S3 => ⟨?_, O', ρ2, Γ3, j2, S3, ?_⟩⟩
      · exact (wipe_off vs (o3.more hts)).trans (by rw [wipe_off vs]; exact ⟨wipe_length _ _, fun k hk => wipe_out hk⟩)
      · have k3 : Kp ρ1 j1 H1 ρ2 j2 H3 := S1.kpt k2 x3.keep
        have hl3 : H3 L = some (.dK acc) := x3 _ _ hl2
        have P3 : P ρ2 (Bo O' ρ2 j2) H3 := Y.stay _ _ _ _ _ _ ((Ext.keep x3).step O') hP2
        have r3 := r2.map fun _ _ => ((Ext.keep x3).step O').den
        revert q2
        generalize mt Γ3 j2 = rt
        intro q2
        cases rt with
        | exc c fs j3 => exact q2.elim
        | bad => exact q2.elim
        | ok b j4 =>
          refine fun ρ4 H4 k4 S4 => ?_
          have n4 : L ∉ ρ4 := fun z => (k4.frs L z).elim n2 fun e => by rw [hl3] at e; cases e
          have l4 : H4 L = some (.dK acc) := k4.keep _ _ (fun z => n2 z.mem) nt_dK hl3
          have P4 : P ρ4 (Bo O' ρ4 j4) H4 := Y.stay _ _ _ _ _ _ (k4.step O') P3
          have r4 := r3.map fun _ _ => (k4.step O').den
          have K4 := S1.kpt k3 k4
          cases b with
          | false => exact iteF ⟨hlt, ρ4, j4, acc, es, K4, S4.st, n4, l4, Nat.le_succ_of_le hacc, r4, P4, q2⟩
          | true =>
            refine iteT ⟨O', ρ4, Γ3, j4, S4, ?_⟩
            have q2 : Post C E O σ Γ ρ1 j1 H1 (((mk Γ3 j4).nox.bind fun k j => (mv Γ3 j).nox.bind fun v j => (bif isKey k then dcMap g mt mk mv (wipeG Γ vs) (ds.drop (i + 1)) (putDK es k v) j else .bad)).bind fun fs j => .ok (.fdc fs) j) fun d j' ρ' H' => ∀ v, Den C.b ρ' H' (Bo O ρ' j') v d → Q v H' := q2
            revert q2
            generalize mk Γ3 j4 = rk
            intro q2
            cases rk with
            | exc c fs j5 => exact q2.elim
            | bad => exact q2.elim
            | ok kd j5 =>
              refine fun ρ5 H5 k5 S5 kv hkv => ⟨O', ρ5, Γ3, j5, S5, ?_⟩
              have n5 : L ∉ ρ5 := fun z => (k5.frs L z).elim n4 fun e => by rw [l4] at e; cases e
              have l5 : H5 L = some (.dK acc) := k5.keep _ _ (fun z => n4 z.mem) nt_dK l4
              have P5 : P ρ5 (Bo O' ρ5 j5) H5 := Y.stay _ _ _ _ _ _ (k5.step O') P4
              have r5 := r4.map fun _ _ => (k5.step O').den
              have K5 := S1.kpt K4 k5
              have q2 : Post C E O σ Γ ρ1 j1 H1 (((mv Γ3 j5).nox.bind fun v j => (bif isKey kd then dcMap g mt mk mv (wipeG Γ vs) (ds.drop (i + 1)) (putDK es kd v) j else .bad)).bind fun fs j => .ok (.fdc fs) j) fun d j' ρ' H' => ∀ v, Den C.b ρ' H' (Bo O ρ' j') v d → Q v H' := q2
              revert q2
              generalize mv Γ3 j5 = rv
              intro q2
              cases rv with
              | exc c fs j6 => exact q2.elim
              | bad => exact q2.elim
              | ok vd j6 =>
                refine fun ρ6 H6 k6 S6 v hv => ?_
                have n6 : L ∉ ρ6 := fun z => (k6.frs L z).elim n5 fun e => by rw [l5] at e; cases e
                have l6 : H6 L = some (.dK acc) := k6.keep _ _ (fun z => n5 z.mem) nt_dK l5
                have K6 := S1.kpt K5 k6
                have q2 : Post C E O σ Γ ρ1 j1 H1 ((bif isKey kd then dcMap g mt mk mv (wipeG Γ vs) (ds.drop (i + 1)) (putDK es kd vd) j6 else .bad).bind fun fs j => .ok (.fdc fs) j) fun d j' ρ' H' => ∀ v, Den C.b ρ' H' (Bo O ρ' j') v d → Q v H' := q2
                cases ik : isKey kd with
                | false => rw [ik] at q2; exact q2.elim
                | true =>
                  rw [ik] at q2
                  have ek : kv = kV (keyOf kd) := den_key (.of hkv) ik
                  have kL : Step ρ6 (Bo O' ρ6 j6) H6 ρ6 (Bo O' ρ6 j6) (upd H6 L (.dK (putK acc (keyOf kd) v))) := ⟨Pres.at (.inl (.inr rfl)) l6 nt_dK, fun _ z => .inl z, Pfx.refl⟩
                  refine ⟨acc, keyOf kd, ek, l6, Nat.lt_of_le_of_lt hacc (Nat.lt_of_lt_of_le hlt (sz5 hlen)), hlt, ρ6, j6, putK acc (keyOf kd) v, putDK es kd vd, ?_, S6.st.write (.inr rfl) n6 l6 ⟨nt_dK, fun _ z => by cases z⟩, n6, upd_same, ?_, ?_, ?_, q2⟩
                  · exact ⟨fun a o n t ea => by rw [upd_ne (ne_of_none ea hL)]; exact K6.keep a o n t ea, fun a ps ea => by rw [upd_ne (ne_of_none ea hL)]; exact K6.tbl a ps ea, K6.grow, K6.frs, K6.pfx⟩
                  · have := length_putK acc (keyOf kd) v; omega
                  · have := DenK.put (k := keyOf kd) (kL.den hv) ((r5.map fun _ _ => (k6.step O').den).map fun _ _ => kL.den)
                    rw [keyD_of ik] at this
                    exact this
                  · exact Y.stay _ _ _ _ _ _ kL (Y.stay _ _ _ _ _ _ (k6.step O') P5)
  · have e : i = ds.length := by omega
    subst e
    rw [List.drop_length] at q2
    refine .inl ⟨Y.stop _ _ _ H2 hP2 (Nat.le_refl _), L, _, rfl, hl2, True.intro, fun od => ?_⟩
    have q3 : Post C E O σ Γ ρ1 j1 H1 (.ok (.fdc es) j2) fun d j' ρ' H' => ∀ v, Den C.b ρ' H' (Bo O ρ' j') v d → Q v H' := q2
    have nB : ¬ Bo O ρ2 j2 L := fun z => by
      rcases z with z | z
      · obtain ⟨o, e⟩ := S1.st.trk L z; rw [hL] at e; cases e
      · exact n2 z.mem
    have st : Step ρ2 (Bo O' ρ2 j2) H2 ρ2 (Bo O ρ2 j2) (upd H2 L (.frz od (.dK acc))) := ⟨Pres.at (.inl (.inr rfl)) hl2 nt_dK, fun a z => .inl (z.imp (hO a) id), Pfx.refl⟩
    have kk : Kp ρ1 j1 H1 ρ2 j2 (upd H2 L (.frz od (.dK acc))) := ⟨fun a o n t ea => by rw [upd_ne (ne_of_none ea hL)]; exact k2.keep a o n t ea, fun a ps ea => by rw [upd_ne (ne_of_none ea hL)]; exact k2.tbl a ps ea, k2.grow, k2.frs, k2.pfx⟩
    exact q3 ρ2 _ kk (S1.keep kk ((s2.write (.inr rfl) n2 hl2 ⟨nt_dK, fun _ z => by cases z⟩).less hO)) _ (.fK upd_same nB (r2.map fun _ _ => st.den))
variable {kx vx tg iter : Expr} {ifs : List Expr} {scope : Scope} {own : List (Str × Nat)} {pos : Pos} {ts : List Nat} {mi : Gm → J → R (List D)} {g : J → D → Gm → Option Gm} {mt : Gm → J → R Bool} {mk mv : Gm → J → R D}
theorem me_dc (hc : X.calm = true) (hN : X.N.Nodup) (hi : MI C E X tg iter mi) (ok : BlkOk X.N X.env.scope scope own)
    (hg : ∀ (s : Shared) (H : Hp) (A : Addr) (cl : List (Str × Addr)) (fp : List Addr), MG C (X.blk s H scope (compEnvC scope cl A X.env) fp) tg ts g)
    (ht : ∀ (s : Shared) (H : Hp) (A : Addr) (cl : List (Str × Addr)) (fp : List Addr), MTs C EN (X.blk s H scope (compEnvC scope cl A X.env) fp) ifs mt)
    (hk : ∀ (s : Shared) (H : Hp) (A : Addr) (cl : List (Str × Addr)) (fp : List Addr), ME C EN (X.blk s H scope (compEnvC scope cl A X.env) fp) kx mk)
    (hv : ∀ (s : Shared) (H : Hp) (A : Addr) (cl : List (Str × Addr)) (fp : List Addr), ME C EN (X.blk s H scope (compEnvC scope cl A X.env) fp) vx mv)
    (hts : ∀ k ∈ ts, k ∈ own.map (·.2)) (hs : ∀ x, foldedSetIterable iter X.env x = pure x := by intro _; rfl) :
    ME C E X (.DictComp kx vx [⟨tg, iter, ifs, 0⟩] scope pos) (mDc mi g mt mk mv (own.map (·.2))) :=
  PE.imp (pe_lockN (pe_dc hc hN hi ok hg ht hk hv hs)) fun σ H Q h => dc_read hts h
end
end On

set_option Elab.async false
set_option linter.all false
set_option maxRecDepth 100000
set_option maxHeartbeats 2000000
set_option autoImplicit false
namespace On
open PySem PySem.Spec PyProof.Rows L2
/-! ### [e for a in x if .. for b in y if ..] -/
def noOL (Γ : Gm) : Bool := Γ.all fun c => match c with
  | some (.own (.lst _)) => false
  | _ => true
theorem noOL_ok {Γ : Gm} {i : Nat} {ds : List D} (h : noOL Γ = true) : Γ[i]? ≠ some (some (.own (.lst ds))) := fun e => by
  have := List.all_eq_true.mp h _ (List.mem_of_getElem? e)
  cases this
theorem noOL_wipe {Γ : Gm} (h : noOL Γ = true) : ∀ vs : List Nat, noOL (wipeG Γ vs) = true
  | [] => h
  | v :: vs => by
    refine List.all_eq_true.mpr fun c hc => ?_
    unfold wipeG at hc
    rcases List.mem_or_eq_of_mem_set hc with z | z
    · exact List.all_eq_true.mp (noOL_wipe h vs) c z
    · rw [z]
/-- a list in the making grows -/
theorem Sok.writeO {C : Ct} {O : Addr → Prop} {ρ : List Addr} {σ : L2.St} {H : Hp} {Γ : Gm} {j : J} {l : Addr} {xs ys : List V} (S : Sok C O ρ σ H Γ j) (hl : O l) (nr : l ∉ ρ) (hu : H l = some (.lst xs)) (h0 : C.H0 l = none) (no : noOL Γ = true) : Sok C O ρ σ (upd H l (.lst ys)) Γ j := by
  have st : Step ρ (Bo O ρ j) H ρ (Bo O ρ j) (upd H l (.lst ys)) := ⟨Pres.at (.inl hl) hu nt_lst, fun _ z => .inl z, Pfx.refl⟩
  have ne0 : ∀ a o, C.H0 a = some o → a ≠ l := fun a o e z => by rw [z, h0] at e; cases e
  refine ⟨S.st.write hl nr hu ⟨nt_lst, fun _ z => by cases z⟩, S.len, S.pre, fun a o n t e => ?_, fun a ps e => ?_, S.onew, S.b0, S.new, S.rnw, fun k c hk => ?_, S.dist, S.b00⟩
  · rw [upd_ne (ne0 a o e)]; exact S.ex a o n t e
  · obtain ⟨qs, q⟩ := S.ext0 a ps e
    exact ⟨qs, by rw [upd_ne (ne0 a _ e)]; exact q⟩
  · have q := S.slot k c hk
    cases c with
    | val d => obtain ⟨u, z, r⟩ := q; exact ⟨u, z, st.den r⟩
    | own d =>
      obtain ⟨a, z, b, g0, n, hc, r⟩ := q
      have al : a ≠ l := fun e => by
        subst e
        cases d with
        | lst ds => exact noOL_ok no hk
        | dct es => obtain ⟨kvs, h, _⟩ := r; rw [hu] at h; cases h
        | tdc es => obtain ⟨kvs, h, _⟩ := r; rw [hu] at h; cases h
        | fdc es => obtain ⟨o, kvs, h, _⟩ := r; rw [hu] at h; cases h
        | ftc es => obtain ⟨o, kvs, h, _⟩ := r; rw [hu] at h; cases h
        | ins c fs => obtain ⟨dx, vs, h, _⟩ := r; rw [hu] at h; cases h
        | _ => exact r.elim
      exact ⟨a, z, b, g0, n, hc, r.map (fun o _ w => by rw [upd_ne al]; exact w) fun _ _ => st.den⟩
    | act => exact q
def lcMap2 (g : J → D → Gm → Option Gm) (mt : Gm → J → R Bool) (mi1 : Gm → J → R (List D)) (g1 : J → D → Gm → Option Gm) (mt1 : Gm → J → R Bool) (me : Gm → J → R D) (vs1 : List Nat) (Γ : Gm) : List D → J → R (List D)
  | [], j => .ok [] j
  | d :: ds, j => match g j d Γ with
    | none => .bad
    | some Γ1 => (mt Γ1 j).nox.bind fun b j => bif b then (mi1 Γ1 j).nox.bind fun es j => (if es.length ≤ 300 ∧ noOL Γ1 = true then (lcMap g1 mt1 me (wipeG Γ1 vs1) es j).bind fun fs j => (lcMap2 g mt mi1 g1 mt1 me vs1 Γ ds j).bind fun gs j => .ok (fs ++ gs) j else .bad) else lcMap2 g mt mi1 g1 mt1 me vs1 Γ ds j
def mLc2 (mi : Gm → J → R (List D)) (g : J → D → Gm → Option Gm) (mt : Gm → J → R Bool) (mi1 : Gm → J → R (List D)) (g1 : J → D → Gm → Option Gm) (mt1 : Gm → J → R Bool) (me : Gm → J → R D) (vs vs1 : List Nat) : Gm → J → R D :=
  fun Γ j => (mi Γ j).bind fun ds j => if ds.length ≤ 300 then (lcMap2 g mt mi1 g1 mt1 me vs1 (wipeG Γ vs) ds j).bind fun es j => .ok (.lst es) j else .bad
section
variable {C : Ct} {E : WX} {X : Cx}
theorem R.bind_assoc {α β γ : Type} (r : R α) (f : α → J → R β) (k : β → J → R γ) : (r.bind f).bind k = r.bind fun a j => (f a j).bind k := by cases r <;> rfl
theorem lc2_read {ts vs ts1 vs1 : List Nat} {mi mi1 : Gm → J → R (List D)} {g g1 : J → D → Gm → Option Gm} {mt mt1 : Gm → J → R Bool} {me : Gm → J → R D} (hts : ∀ k ∈ ts, k ∈ vs) (hts1 : ∀ k ∈ ts1, k ∈ vs1) {σ : L2.St} {H : Hp} {Q : VK}
    (h0 : St0 C E (mLc2 mi g mt mi1 g1 mt1 me vs vs1) σ H fun O d j' ρ' H' => ∀ v, Den C.b ρ' H' (Bo O ρ' j') v d → Q v H') :
    tLc2 (fun σ H Rr => St0 C E mi σ H fun O ds j' ρ' H' => ∀ I P, Yl C P I ds → P ρ' (Bo O ρ' j') H' → Rr I H')
      (fun v σ H Q => ∃ O ρ Γ j d Γ', Sok C O ρ σ H Γ j ∧ Den C.b ρ H (Bo O ρ j) v d ∧ g j d Γ = some Γ' ∧ ∀ σ', Off ts σ σ' → Sok C O ρ σ' H Γ' j → Q σ' H)
      (fun σ H Q => St0 C EN mt σ H fun _ b _ _ H' => Q b H')
      (fun σ H Rr => St0 C EN mi1 σ H fun O ds j' ρ' H' => ∀ I P, Yl C P I ds → P ρ' (Bo O ρ' j') H' → Rr I H')
      (fun v σ H Q => ∃ O ρ Γ j d Γ', Sok C O ρ σ H Γ j ∧ Den C.b ρ H (Bo O ρ j) v d ∧ g1 j d Γ = some Γ' ∧ ∀ σ', Off ts1 σ σ' → Sok C O ρ σ' H Γ' j → Q σ' H)
      (fun σ H Q => St0 C EN mt1 σ H fun _ b _ _ H' => Q b H')
      (fun σ H Q => St0 C EN me σ H fun O d j' ρ' H' => ∀ v, Den C.b ρ' H' (Bo O ρ' j') v d → Q v H') vs vs1 σ H Q := by
  obtain ⟨O, ρ, Γ, j, S, h⟩ := h0
  refine ⟨O, ρ, Γ, j, S, Post.imp (Post.bind S h) fun ds j1 ρ1 H1 k1 S1 q I P Y hP => ?_⟩
  intro L hL
  obtain ⟨hlen, q⟩ := Post.ite q
  have nρ : L ∉ ρ1 := fun z => by obtain ⟨o, e⟩ := S1.st.rtr L z; rw [hL] at e; cases e
  let O' : Addr → Prop := fun a => O a ∨ a = L
  have hO : ∀ a, O a → O' a := fun a z => .inl z
  have hN : ∀ a, O' a → O a ∨ H1 a = none := fun a z => z.imp id fun e => by rw [e]; exact hL
  have x0 : Ext H1 (upd H1 L (.lst [])) := Ext.new hL
  have s0 : Sto C.b O' ρ1 (upd H1 L (.lst [])) j1 := (S1.more (o := .lst []) hL).st
  let PK : R D → Prop := fun r => Post C E O σ Γ ρ1 j1 H1 r fun d j' ρ' H' => ∀ v, Den C.b ρ' H' (Bo O ρ' j') v d → Q v H'
  let A (n : Nat) (ρ2 : List Addr) (j2 : J) (H2 : Hp) (es : List D) : Prop := ∃ acc : List V, Kp ρ1 j1 H1 ρ2 j2 H2 ∧ Sto C.b O' ρ2 H2 j2 ∧ L ∉ ρ2 ∧ H2 L = some (.lst acc) ∧ acc.length ≤ n ∧ DenA C.b ρ2 H2 (Bo O' ρ2 j2) acc es ∧ P ρ2 (Bo O' ρ2 j2) H2
  have Akp : ∀ {n : Nat} {ρ2 ρ3 : List Addr} {j2 j3 : J} {H2 H3 : Hp} {es : List D}, A n ρ2 j2 H2 es → Kp ρ2 j2 H2 ρ3 j3 H3 → Sto C.b O' ρ3 H3 j3 → A n ρ3 j3 H3 es := fun {n ρ2 ρ3 j2 j3 H2 H3 es} ⟨acc, k2, s2, n2, l2, ha, r2, p2⟩ k3 s3 =>
    ⟨acc, S1.kpt k2 k3, s3, fun z => (k3.frs L z).elim n2 fun e => (by rw [l2] at e; cases e), k3.keep _ _ (fun z => n2 z.mem) nt_lst l2, ha, (k3.step O').denA r2, Y.stay _ _ _ _ _ _ (k3.step O') p2⟩
  let W : Nat → Hp → Prop := fun i H2 => ∃ (ρ2 : List Addr) (j2 : J) (es : List D), A (i * 300) ρ2 j2 H2 es ∧ PK ((lcMap2 g mt mi1 g1 mt1 me vs1 (wipeG Γ vs) (ds.drop i) j2).bind fun fs j => .ok (.lst (es ++ fs)) j)
  refine ⟨fun i m H2 => m = ds.length - i ∧ i ≤ ds.length ∧ W i H2, ⟨ds.length, by simp, Nat.zero_le _, ρ1, j1, [], ⟨[], x0.keep, s0, nρ, upd_same, Nat.zero_le _, .nil, Y.stay _ _ _ _ _ _ ((Ext.keep x0).stepO hN) hP⟩, q⟩, ?_⟩
  rintro i m H2 ⟨rfl, hi, ρ2, j2, es, a2, q2⟩
  by_cases hlt : i < ds.length
  · obtain ⟨acc2, k2, s2, n2, hl2, hacc, r2, hP2⟩ := id a2
    refine .inr ⟨Y.go i _ _ H2 hP2 hlt, fun H3 => i + 1 ≤ ds.length ∧ W (i + 1) H3, fun H3 z => ⟨ds.length - (i + 1), by omega, rfl, z.1, z.2⟩, fun x H3 y => ?_⟩
    have S2 : Sok C O' ρ2 (wipe σ vs) H2 (wipeG Γ vs) j2 := (S1.wiped vs).keepO k2 hO hN s2
    obtain ⟨x3, d3⟩ := Y.yld i ρ2 _ H2 x H3 _ hP2 S2.trkB (List.getElem?_eq_getElem hlt) y
    rw [drop_get hlt] at q2
    unfold lcMap2 at q2
    cases e1 : g j2 ds[i] (wipeG Γ vs) with
    | none => rw [e1] at q2; exact q2.elim
    | some Γ3 =>
      rw [e1] at q2
      dsimp only at q2
      refine ⟨O', ρ2, wipeG Γ vs, j2, ds[i], Γ3, S2.ext x3, d3, e1, fun σ3 o3 S3 => ⟨?_, O', ρ2, Γ3, j2, S3, ?_⟩⟩
      · exact (wipe_off vs (o3.more hts)).trans (by rw [wipe_off vs]; exact ⟨wipe_length _ _, fun k hk => wipe_out hk⟩)
      · have a3 := Akp a2 x3.keep S3.st
        revert q2
        generalize mt Γ3 j2 = rt
        intro q2
        cases rt with
        | exc c fs j3 => exact q2.elim
        | bad => exact q2.elim
        | ok b j4 =>
          refine fun ρ4 H4 k4 S4 => ?_
          have a4 := Akp a3 k4 S4.st
          cases b with
          | false =>
            obtain ⟨acc, z1, z2, z3, z4, z5, z6⟩ := a4
            exact iteF ⟨hlt, ρ4, j4, es, ⟨acc, z1, z2, z3, z4, by omega, z6⟩, q2⟩
          | true =>
            refine iteT ⟨O', ρ4, Γ3, j4, S4, ?_⟩
            have q2 : PK (((mi1 Γ3 j4).nox.bind fun ds1 j => (if ds1.length ≤ 300 ∧ noOL Γ3 = true then (lcMap g1 mt1 me (wipeG Γ3 vs1) ds1 j).bind fun fs j => (lcMap2 g mt mi1 g1 mt1 me vs1 (wipeG Γ vs) (ds.drop (i + 1)) j).bind fun gs j => .ok (fs ++ gs) j else .bad)).bind fun fs j => .ok (.lst (es ++ fs)) j) := q2
            revert q2
            generalize mi1 Γ3 j4 = ri
            intro q2
            cases ri with
            | exc c fs j5 => exact q2.elim
            | bad => exact q2.elim
            | ok ds1 j5 =>
              refine fun ρ5 H5 k5 S5 I1 P1 Y1 hP1 => ?_
              have a5 := Akp a4 k5 S5.st
              have q2 : PK ((if ds1.length ≤ 300 ∧ noOL Γ3 = true then (lcMap g1 mt1 me (wipeG Γ3 vs1) ds1 j5).bind fun fs j => (lcMap2 g mt mi1 g1 mt1 me vs1 (wipeG Γ vs) (ds.drop (i + 1)) j).bind fun gs j => .ok (fs ++ gs) j else .bad).bind fun fs j => .ok (.lst (es ++ fs)) j) := q2
              by_cases hl1 : ds1.length ≤ 300 ∧ noOL Γ3 = true
              · rw [if_pos hl1] at q2
                let N (k : Nat) (es1 : List D) (j' : J) : R D := (lcMap g1 mt1 me (wipeG Γ3 vs1) (ds1.drop k) j').bind fun fs j => (lcMap2 g mt mi1 g1 mt1 me vs1 (wipeG Γ vs) (ds.drop (i + 1)) j).bind fun gs j => .ok (.lst (es ++ es1 ++ fs ++ gs)) j
                let W1 : Nat → Hp → Prop := fun k H6 => ∃ (ρ6 : List Addr) (j6 : J) (es1 : List D), Sok C O' ρ6 (wipe σ3 vs1) H6 (wipeG Γ3 vs1) j6 ∧ A (i * 300 + k) ρ6 j6 H6 (es ++ es1) ∧ P1 ρ6 (Bo O' ρ6 j6) H6 ∧ PK (N k es1 j6)
                refine ⟨fun k m H6 => m = ds1.length - k ∧ k ≤ ds1.length ∧ W1 k H6, ⟨ds1.length, by simp, Nat.zero_le _, ρ5, j5, [], S5.wiped vs1, by rw [List.append_nil]; exact a5, hP1, ?_⟩, ?_⟩
                · have q3 := q2
                  rw [R.bind_assoc] at q3
                  show PK ((lcMap g1 mt1 me (wipeG Γ3 vs1) ds1 j5).bind _)
                  revert q3
                  generalize lcMap g1 mt1 me (wipeG Γ3 vs1) ds1 j5 = rr
                  intro q3
                  cases rr with
                  | exc c fs j6 => exact q3
                  | bad => exact q3
                  | ok fs j6 =>
                    have q3 : PK (((lcMap2 g mt mi1 g1 mt1 me vs1 (wipeG Γ vs) (ds.drop (i + 1)) j6).bind fun gs j => .ok (fs ++ gs) j).bind fun fs j => .ok (.lst (es ++ fs)) j) := q3
                    rw [R.bind_assoc] at q3
                    simpa [R.bind] using q3
                rintro k m H6 ⟨rfl, hk, ρ6, j6, es1, S6, a6, hP6, q6⟩
                by_cases hkt : k < ds1.length
                · obtain ⟨acc6, K6, s6, n6, hl6, ha6, r6, p6⟩ := id a6
                  refine .inr ⟨Y1.go k _ _ H6 hP6 hkt, fun H7 => k + 1 ≤ ds1.length ∧ W1 (k + 1) H7, fun H7 z => ⟨ds1.length - (k + 1), by omega, rfl, z.1, z.2⟩, fun x1 H7 y1 => ?_⟩
                  obtain ⟨x7, d7⟩ := Y1.yld k ρ6 _ H6 x1 H7 _ hP6 S6.trkB (List.getElem?_eq_getElem hkt) y1
                  have q6 : PK ((lcMap g1 mt1 me (wipeG Γ3 vs1) (ds1.drop k) j6).bind fun fs j => (lcMap2 g mt mi1 g1 mt1 me vs1 (wipeG Γ vs) (ds.drop (i + 1)) j).bind fun gs j => .ok (.lst (es ++ es1 ++ fs ++ gs)) j) := q6
                  rw [drop_get hkt] at q6
                  unfold lcMap at q6
                  cases e7 : g1 j6 ds1[k] (wipeG Γ3 vs1) with
                  | none => rw [e7] at q6; exact q6.elim
                  | some Γ7 =>
                    rw [e7] at q6
                    dsimp only at q6
                    refine ⟨O', ρ6, wipeG Γ3 vs1, j6, ds1[k], Γ7, S6.ext x7, d7, e7, fun σ7 o7 S7 => ⟨?_, O', ρ6, Γ7, j6, S7, ?_⟩⟩
                    · exact (wipe_off vs1 (o7.more hts1)).trans (by rw [wipe_off vs1]; exact ⟨wipe_length _ _, fun k hk => wipe_out hk⟩)
                    · have a7 := Akp a6 x7.keep S7.st
                      have k7 : Kp ρ6 j6 H6 ρ6 j6 H7 := x7.keep
                      have P7 := Y1.stay _ _ _ _ _ _ ((Ext.keep x7).step O') hP6
                      revert q6
                      generalize mt1 Γ7 j6 = rt1
                      intro q6
                      cases rt1 with
                      | exc c fs j3 => exact q6.elim
                      | bad => exact q6.elim
                      | ok b1 j8 =>
                        refine fun ρ8 H8 k8 S8 => ?_
                        have a8 := Akp a7 k8 S8.st
                        have K8 := S6.kpt k7 k8
                        have P8 := Y1.stay _ _ _ _ _ _ (k8.step O') P7
                        cases b1 with
                        | false =>
                          obtain ⟨acc, z1, z2, z3, z4, z5, z6⟩ := a8
                          exact iteF ⟨hkt, ρ8, j8, es1, S6.keep K8 S8.st, ⟨acc, z1, z2, z3, z4, by omega, z6⟩, P8, q6⟩
                        | true =>
                          refine iteT ⟨O', ρ8, Γ7, j8, S8, ?_⟩
                          have q6 : PK (((me Γ7 j8).nox.bind fun e j => (lcMap g1 mt1 me (wipeG Γ3 vs1) (ds1.drop (k + 1)) j).bind fun es j => .ok (e :: es) j).bind fun fs j => (lcMap2 g mt mi1 g1 mt1 me vs1 (wipeG Γ vs) (ds.drop (i + 1)) j).bind fun gs j => .ok (.lst (es ++ es1 ++ fs ++ gs)) j) := q6
                          revert q6
                          generalize me Γ7 j8 = re
                          intro q6
                          cases re with
                          | exc c fs j5 => exact q6.elim
                          | bad => exact q6.elim
                          | ok e j9 =>
                            refine fun ρ9 H9 k9 S9 v hv => ?_
                            obtain ⟨acc, K9, s9, n9, l9, ha9, r9, p9⟩ := Akp a8 k9 S9.st
                            have kL : Step ρ9 (Bo O' ρ9 j9) H9 ρ9 (Bo O' ρ9 j9) (upd H9 L (.lst (acc ++ [v]))) := ⟨Pres.at (.inl (.inr rfl)) l9 nt_lst, fun _ z => .inl z, Pfx.refl⟩
                            refine ⟨acc, l9, ?_, hkt, ρ9, j9, es1 ++ [e], ?_, ⟨acc ++ [v], ?_, s9.write (.inr rfl) n9 l9 ⟨nt_lst, fun _ z => by cases z⟩, n9, upd_same, by simp; omega, ?_, Y.stay _ _ _ _ _ _ kL p9⟩, ?_, ?_⟩
                            · have : i * 300 + k < 100000 := by omega
                              exact Nat.lt_of_le_of_lt ha9 (Nat.lt_of_lt_of_le this (sz5 (Nat.le_refl _)))
                            · exact (S6.keep (S6.kpt K8 k9) s9).writeO (.inr rfl) n9 l9 (S1.old hL) (noOL_wipe hl1.2 vs1)
                            · exact ⟨fun a o n t ea => by rw [upd_ne (ne_of_none ea hL)]; exact K9.keep a o n t ea, fun a ps ea => by rw [upd_ne (ne_of_none ea hL)]; exact K9.tbl a ps ea, K9.grow, K9.frs, K9.pfx⟩
                            · rw [← List.append_assoc]
                              exact (kL.denA r9).append (.cons (kL.den hv) .nil)
                            · exact Y1.stay _ _ _ _ _ _ kL (Y1.stay _ _ _ _ _ _ (k9.step O') P8)
                            · show PK (N (k + 1) (es1 ++ [e]) j9)
                              have q7 : PK (((lcMap g1 mt1 me (wipeG Γ3 vs1) (ds1.drop (k + 1)) j9).bind fun es j => .ok (e :: es) j).bind fun fs j => (lcMap2 g mt mi1 g1 mt1 me vs1 (wipeG Γ vs) (ds.drop (i + 1)) j).bind fun gs j => .ok (.lst (es ++ es1 ++ fs ++ gs)) j) := q6
                              rw [R.bind_assoc] at q7
                              simpa [N, R.bind] using q7
                · have ek : k = ds1.length := by omega
                  subst ek
                  have q6 : PK ((lcMap g1 mt1 me (wipeG Γ3 vs1) (ds1.drop ds1.length) j6).bind fun fs j => (lcMap2 g mt mi1 g1 mt1 me vs1 (wipeG Γ vs) (ds.drop (i + 1)) j).bind fun gs j => .ok (.lst (es ++ es1 ++ fs ++ gs)) j) := q6
                  rw [List.drop_length] at q6
                  obtain ⟨acc, z1, z2, z3, z4, z5, z6⟩ := a6
                  refine .inl ⟨Y1.stop _ _ _ H6 hP6 (Nat.le_refl _), hlt, ρ6, j6, es ++ es1, ⟨acc, z1, z2, z3, z4, by omega, z6⟩, ?_⟩
                  simpa [lcMap, R.bind] using q6
              · rw [if_neg hl1] at q2; exact q2.elim
  · have e : i = ds.length := by omega
    subst e
    rw [List.drop_length] at q2
    obtain ⟨acc, k2, s2, n2, hl2, hacc, r2, hP2⟩ := a2
    refine .inl ⟨Y.stop _ _ _ H2 hP2 (Nat.le_refl _), ?_⟩
    have q3 : PK (.ok (.lst (es ++ [])) j2) := q2
    rw [List.append_nil] at q3
    have lo : ∀ a, Bo O ρ2 j2 a → Bo O' ρ2 j2 a ∨ H2 a = none := fun a z => .inl (z.imp (hO a) id)
    have nB : ¬ Bo O ρ2 j2 L := fun z => by
      rcases z with z | z
      · obtain ⟨o, e⟩ := S1.st.trk L z; rw [hL] at e; cases e
      · exact n2 z.mem
    exact q3 ρ2 H2 k2 (S1.keep k2 (s2.less hO)) _ (.lst hl2 nB (r2.less lo))
variable {elt tg iter tg1 iter1 : Expr} {ifs ifs1 : List Expr} {scope : Scope} {own : List (Str × Nat)} {pos : Pos} {ts ts1 vs1 : List Nat} {mi mi1 : Gm → J → R (List D)} {g g1 : J → D → Gm → Option Gm} {mt mt1 : Gm → J → R Bool} {me : Gm → J → R D}
theorem me_lc2 (hc : X.calm = true) (hN : X.N.Nodup) (hi : MI C E X tg iter mi) (ok : BlkOk X.N X.env.scope scope own) (hv : ∀ i ∈ vs1, i ∈ own.map (·.2))
    (hg : ∀ (s : Shared) (H : Hp) (A : Addr) (cl : List (Str × Addr)) (fp : List Addr), MG C (X.blk s H scope (compEnvC scope cl A X.env) fp) tg ts g)
    (ht : ∀ (s : Shared) (H : Hp) (A : Addr) (cl : List (Str × Addr)) (fp : List Addr), MTs C EN (X.blk s H scope (compEnvC scope cl A X.env) fp) ifs mt)
    (hi1 : ∀ (s : Shared) (H : Hp) (A : Addr) (cl : List (Str × Addr)) (fp : List Addr), MI C EN (X.blk s H scope (compEnvC scope cl A X.env) fp) tg1 iter1 mi1)
    (hg1 : ∀ (s : Shared) (H : Hp) (A : Addr) (cl : List (Str × Addr)) (fp : List Addr), MG C (X.blk s H scope (compEnvC scope cl A X.env) fp) tg1 ts1 g1)
    (ht1 : ∀ (s : Shared) (H : Hp) (A : Addr) (cl : List (Str × Addr)) (fp : List Addr), MTs C EN (X.blk s H scope (compEnvC scope cl A X.env) fp) ifs1 mt1)
    (he : ∀ (s : Shared) (H : Hp) (A : Addr) (cl : List (Str × Addr)) (fp : List Addr), ME C EN (X.blk s H scope (compEnvC scope cl A X.env) fp) elt me)
    (hts : ∀ k ∈ ts, k ∈ own.map (·.2)) (hts1 : ∀ k ∈ ts1, k ∈ vs1) (hs : ∀ x, foldedSetIterable iter X.env x = pure x := by intro _; rfl) (hs1 : ∀ env x, foldedSetIterable iter1 env x = pure x := by intro _ _; rfl) :
    ME C E X (.ListComp elt [⟨tg, iter, ifs, 0⟩, ⟨tg1, iter1, ifs1, 0⟩] scope pos) (mLc2 mi g mt mi1 g1 mt1 me (own.map (·.2)) vs1) :=
  PE.imp (pe_lc2 hc hN hi ok hv hg ht hi1 hg1 ht1 he hs hs1) fun σ H Q h => lc2_read hts hts1 h
end
end On

set_option Elab.async false
set_option linter.all false
set_option maxRecDepth 100000
set_option maxHeartbeats 2000000
set_option autoImplicit false
namespace On
open PySem PySem.Spec PyProof.Rows L2
/-! ### enumerate(list, start=c) -/
def ItE (K : PySem.W.Frag) (a : Addr) (c : Int) : It where
  go := fun n H => ∃ (ys : List V) (y : V), SqL K H a ys ∧ ys[n]? = some y
  yld := fun n H v H' => ∃ T y, v = .ref T ∧ H T = none ∧ H' = upd H T (.tup [.int (c + (n : Int)), y]) ∧ ∀ ys, SqL K H a ys → ys[n]? = some y
  stop := fun n H => ∃ ys : List V, SqL K H a ys ∧ ys.length ≤ n
theorem drawsEnd {P : Program} {w : World} {A : Around} (hh : A.handled = none) (it l : Addr) (items : Array Value) (n : Nat) (hn : items.size ≤ n) :
    Draws P w A it [it, l] n (fun _ _ => True) (fun k h => h.IsListIter it l k ∧ h.IsList l items ∧ k = n) where
  live := fun _ _ z => by obtain ⟨o, ho, _⟩ := z.1; exact ⟨o, ho⟩
  frame := fun _ _ _ z hk => ⟨z.1.at fun o q => hk it (by simp) o q, z.2.1.at fun o q => hk l (by simp) o q, z.2.2⟩
  item := fun k s Q E hk z _ => absurd z.2.2 (Nat.ne_of_lt hk)
  done := fun s Q E z hE => wpAny_nextOf_list_end hh z.1 z.2.1 (Array.getElem?_eq_none hn) hE
theorem turn_enumK {P : Program} {w : World} {K : PySem.W.Frag} {elts : List Expr} {kk : Nat} {tpos : Pos} {a e it : Addr} (c : Int) (hei : e ≠ it) (hai : a ≠ it) (hae : a ≠ e) :
    Turn P w K (.Tuple elts kk tpos) (ItE K a c) [e, it] e (fun n h => (∃ old, IsEnum h e it (c + (n : Int)) old) ∧ h.IsListIter it a n) where
  mem := List.mem_cons_self
  obj := fun n h z b hb => by
    obtain ⟨⟨old, q⟩, o, ho, hc, hd⟩ := z
    rcases List.mem_cons.mp hb with rfl | hb
    · exact ⟨_, q, fun v y => nomatch y⟩
    · rw [List.mem_singleton.mp hb]
      exact ⟨o, ho, fun v y => by rw [hd] at y; cases y⟩
  keep := fun n h h' z k => by
    obtain ⟨⟨old, q⟩, hi⟩ := z
    exact ⟨⟨old, k e (by simp) _ q⟩, hi.at fun o y => k it (by simp) o y⟩
  item := by
    intro X hP hw hK hc n pins s σ H E I hf z hg
    subst hP hw hK
    obtain ⟨⟨old, q⟩, hi⟩ := z
    obtain ⟨ys, y, hs, hy⟩ := hg
    obtain ⟨us, rv, pl, hz⟩ := I.list hs
    obtain ⟨u, hu, ru⟩ := rv.get hy
    have l1 : e < s.heap.objs.size := Heap.lt_size q
    have l2 : it < s.heap.objs.size := by obtain ⟨_, z, _⟩ := hi; exact Heap.lt_size z
    have hlt : n < us.toArray.size := by
      have := (List.getElem?_eq_some_iff.mp hu).1
      simpa using this
    refine wpAny_pyNext_enum_itemC (Draws.list (A := X.A.in1) (I.ok.hd hc) it a hai us.toArray) q ⟨hi, pl.isList⟩ hlt hei (by simp [hei, Ne.symm hae]) fun x h' tk hx ho hi' hT hsz hk => ?_
    have ex : x = u := by
      rw [List.getElem?_toArray, hu] at hx
      exact (Option.some.inj hx).symm
    subst ex
    refine ⟨_, rfl, wpAny_letOwnedTupleGo_enum (s := { s with heap := h', toks := tk + 1 }) ho fun h2 q2 sb => ?_⟩
    have hT2 : h2.get? s.heap.objs.size = some { cls := .type "tuple", data := .seq #[.int (c + (n : Int)) tk, x] } := (sb.2 _ (Nat.ne_of_gt l1)).trans hT
    have nw : ObjOk X.prog X.w (upd H s.heap.objs.size (.tup [.int (c + (n : Int)), y])) h2 s.heap.objs.size (.tup [.int (c + (n : Int)), y]) :=
      ⟨by show 2 ≤ sizeLine; decide, [.int (c + (n : Int)) tk, x], .cons ⟨_, rfl⟩ (.cons ru .nil), ⟨_, hT2, rfl, _, rfl⟩⟩
    have I2 : Inv X pins σ (upd H s.heap.objs.size (.tup [.int (c + (n : Int)), y])) { s with heap := h2, toks := tk + 1 } :=
      I.turnedNew (ch := [e, it]) (fun b ob nb z => (sb.2 b (fun w => nb (by simp [w]))).trans (hk b ob (fun w => nb (by simp [w])) (fun w => nb (by simp [w])) z)) hf (Nat.le_refl _) nw
    refine ⟨.ref s.heap.objs.size, _, I2, rfl, ⟨_, y, rfl, I.hok.fresh (Nat.le_refl _), rfl, fun zs hzs => by rw [I.list_inj hzs hs]; exact hy⟩, ⟨⟨x, ?_⟩, hi'.1.at fun o z => (sb.2 it (Ne.symm hei)).trans z⟩, fun b hb => ?_⟩
    · have e1 : c + ((n + 1 : Nat) : Int) = c + (n : Int) + 1 := by omega
      rw [e1]
      exact q2
    · have lb : b < s.heap.objs.size := by
        rcases List.mem_cons.mp hb with z | z
        · rw [z]; exact l1
        · rw [List.mem_singleton.mp z]; exact l2
      rw [upd_ne (Nat.ne_of_lt lb)]
      exact (hf b hb).1
  done := by
    intro X hP hw hK hc n pins s σ H E I hf z hg
    subst hP hw hK
    obtain ⟨⟨old, q⟩, hi⟩ := z
    obtain ⟨ys, hs, hy⟩ := hg
    obtain ⟨us, rv, pl, hz⟩ := I.list hs
    obtain ⟨f0, f1, f2, f3, f4, f5⟩ := hf it (List.mem_cons_of_mem _ (List.mem_singleton.mpr rfl))
    have ln : us.toArray.size ≤ n := by
      have := rv.length
      simpa [← this] using hy
    exact wpAny_pyNext_enum_endD (drawsEnd (A := X.A.in1) (I.ok.hd hc) it a us.toArray n ln) q ⟨hi, pl.isList, rfl⟩ fun h' eb => ⟨rfl, I.turned (t' := s.toks) (fun b o nb z => eb b o nb z) f0 f1 f3 f4 f5⟩
  self := fun A n s Q E z h => by
    obtain ⟨⟨_, q⟩, _⟩ := z
    exact wpAny_pyIter_enum q h
section
variable {X : Cx} {e : Expr} {te : TE} {p p1 pos tpos kpos : Pos} {elts : List Expr} {kk k1 : Nat} {c : Int}
def iEnumK (K : PySem.W.Frag) (c : Int) (te : TE) : TI := fun σ H Rr => te σ H fun v H1 => ∃ a ys, v = .ref a ∧ SqL K H1 a ys ∧ Rr (ItE K a c) H1
theorem callWith_typeK {M : Model} {A : Around} {Ex : Value → Shared → Prop} {s : Shared} {T : String} {args : List (Bool × Sem Value)} {kws : List (Option Str × Sem Value)} {Q : Value → Shared → Prop}
    (hp : args.any (·.1) = false) (hk : kws.any (·.1.isNone) = false) (h : wpAny M A (evalArgs (.type T) true args kws) (fun a s1 => wpAny M A (call (.type T) a.pos a.kw) Q Ex s1) Ex s) :
    wpAny M A (callWith pos (.type T) [] args kws) Q Ex s := by
  unfold callWith
  refine wpAny_bind (wpAny_holding (wpAny_mono h (fun a s1 z => wpAny_bind (wpAny_standAt ?_)) fun _ _ z => z))
  simp only [hp, hk, Bool.or_false]
  exact wpAny_bind (wpAny_pure (wpAny_bind (wpAny_mono z (fun r s2 y => wpAny_bind (wpAny_holding (wpAny_point (wpAny_pure y)))) fun _ _ y => y)))
theorem pi_enumK (hg : Gl X "enumerate") (hm : X.mg "enumerate" = none) (he : PE X e te) (hk0 : -(2 ^ 63) ≤ c) (hk1 : c < 2 ^ 63) (hs : starEach [e] X.env = [(false, eval e X.env)] := by rfl) :
    PI X (.Tuple elts kk tpos) (.Call (.Name "enumerate" p) [e] [⟨some "start", .Constant (.int c) k1 p1, kpos⟩] pos) (iEnumK X.K c te) := by
  refine ⟨fun pins s σ H Rr I h => ?_⟩
  refine wpAny_Call_Name_kw (ld_blt I hg hm boot_enumerate ?_)
  refine callWith_typeK (by rw [hs]; rfl) rfl ?_
  rw [hs]
  refine PyProof.Rows.evalArgs_kwB (x := eval e X.env) (rest := []) (keywords := backToKw pos (keywordEach [⟨some "start", .Constant (.int c) k1 p1, kpos⟩] X.env)) rfl ?_
  refine Calls.spliced_cons (thn (he.run pins s σ H _ I h) fun u s1 ⟨x, H1, I1, r1, q1⟩ => Calls.spliced_nil ?_)
  have pk := (pk_cons (X := X) (nm := some "start") (kpos := kpos) (show PE X (.Constant (.int c) k1 p1) (tC (.int c)) from pe_int) pk_nil)
  refine thn (pk.run pos pins s1 σ H1 (fun vs H2 => vs = [.int c] ∧ H2 = H1) I1 ⟨rfl, rfl⟩) fun us s2 ⟨vs, H2, I2, r2, e1, e2⟩ => ?_
  subst e1 e2
  cases r2 with
  | cons r rr =>
    cases rr
    obtain ⟨t, rfl⟩ := r
    obtain ⟨a, ys, rfl, hq, q⟩ := q1
    cases r1
    obtain ⟨its, rv, pl, hz⟩ := I2.list hq
    have al : a < s2.heap.objs.size := by obtain ⟨o, ho, _⟩ := pl.isList; exact Heap.lt_size ho
    refine PySem.enum_begins_start (begins_list a its.toArray) pl.isList hk0 hk1 fun h' he' ho hsz hk => wpAny_pyIter_enum he' ?_
    have I3 : Inv X pins σ H2 { s2 with heap := h' } := I2.kept (t' := s2.toks) hk
    refine ⟨s2.heap.objs.size + 1, [s2.heap.objs.size + 1, s2.heap.objs.size], _, _, H2, rfl, I3, turn_enumK c (Nat.succ_ne_self _) (Nat.ne_of_lt al) (Nat.ne_of_lt (Nat.lt_succ_of_lt al)), ⟨⟨.none, by simpa using he'⟩, ⟨_, ho, rfl, rfl⟩⟩, fun b hb => ?_, q⟩
    have le : s2.heap.objs.size ≤ b := by
      rcases List.mem_cons.mp hb with z | z
      · rw [z]; exact Nat.le_succ _
      · rw [List.mem_singleton.mp z]; exact Nat.le_refl _
    exact I2.fpOk le (I2.hok.fresh le)
end
def enumC (c : Int) : List D → List D
  | [] => []
  | d :: r => .tup [.int c, d] :: enumC (c + 1) r
theorem enumC_len : ∀ (c : Int) (ds : List D), (enumC c ds).length = ds.length
  | _, [] => rfl
  | c, _ :: r => congrArg Nat.succ (enumC_len (c + 1) r)
theorem enumC_at : ∀ {c : Int} {ds : List D} {i : Nat} {d : D}, (enumC c ds)[i]? = some d → ∃ e, ds[i]? = some e ∧ d = .tup [.int (c + (i : Int)), e]
  | _, [], _, _, h => by cases h
  | c, x :: r, 0, d, h => by
    have h : some (D.tup [.int c, x]) = some d := h
    cases h
    exact ⟨x, rfl, by simp⟩
  | c, x :: r, i + 1, d, h => by
    obtain ⟨e, h1, h2⟩ := enumC_at (c := c + 1) (ds := r) (i := i) h
    refine ⟨e, h1, ?_⟩
    rw [h2]
    have : c + 1 + (i : Int) = c + ((i + 1 : Nat) : Int) := by omega
    rw [this]
section
variable {C : Ct} {E : WX} {X : Cx} {e : Expr} {me : Gm → J → R D} {p p1 pos tpos kpos : Pos} {elts : List Expr} {kk k1 : Nat} {c : Int}
theorem yl_enumC {K : PySem.W.Frag} (hK : K = C.b.K) {a : Addr} {ds : List D} : Yl C (fun ρ B H => Den C.b ρ H B (.ref a) (.lst ds)) (ItE K a c) (enumC c ds) where
  go := fun i ρ B H h hi => by
    obtain ⟨b, xs, e, hs, r⟩ := (Vw.of h).lstSq
    cases e
    rw [enumC_len] at hi
    have hl := r.length
    exact ⟨xs, xs[i]'(by omega), by rw [hK]; exact hs, List.getElem?_eq_getElem _⟩
  yld := fun i ρ B H x H' d h ht hd y => by
    obtain ⟨b, xs, e, hs, r⟩ := (Vw.of h).lstSq
    cases e
    obtain ⟨T, y, ex, hT, eH, hy⟩ := y
    subst ex eH
    obtain ⟨z, hz, ez⟩ := enumC_at hd
    subst ez
    obtain ⟨v, hv, hr⟩ := r.get hz
    have hvy := hy xs (by rw [hK]; exact hs)
    rw [hv] at hvy
    obtain rfl : v = y := Option.some.inj hvy
    have x : Ext H (upd H T (.tup [.int (c + (i : Int)), v])) := Ext.new hT
    refine ⟨x, .tup upd_same (fun z => ?_) (.cons (.int _) (.cons (hr.mono x.pres Pfx.refl) .nil))⟩
    obtain ⟨o, w⟩ := ht T z
    rw [hT] at w
    cases w
  stop := fun i ρ B H h hi => by
    obtain ⟨b, xs, e, hs, r⟩ := (Vw.of h).lstSq
    cases e
    rw [enumC_len] at hi
    exact ⟨xs, by rw [hK]; exact hs, by rw [r.length]; exact hi⟩
  stay := fun ρ B H ρ' B' H' q h => q.den h
def iEnC (c : Int) (me : Gm → J → R D) : Gm → J → R (List D) := fun Γ j => (me Γ j).bind fun d j => match d with
  | .lst ds => .ok (enumC c ds) j
  | _ => .bad
theorem mi_enumC (hK : X.K = C.b.K) (hg : Gl X "enumerate") (hm : X.mg "enumerate" = none) (he : ME C E X e me) (hk0 : -(2 ^ 63) ≤ c := by decide) (hk1 : c < 2 ^ 63 := by decide) (hs : starEach [e] X.env = [(false, eval e X.env)] := by rfl) :
    MI C E X (.Tuple elts kk tpos) (.Call (.Name "enumerate" p) [e] [⟨some "start", .Constant (.int c) k1 p1, kpos⟩] pos) (iEnC c me) :=
  PI.imp (pi_enumK hg hm he hk0 hk1 hs) fun σ H Rr ⟨O, ρ, Γ, j, S, h⟩ => ⟨O, ρ, Γ, j, S, Post.imp (Post.bind S h) fun d j1 ρ1 H1 k1 S1 q v hv => by
    split at q
    · rename_i ds
      have hv' := hv
      obtain ⟨a, xs, rfl, hx, r⟩ := (Vw.of hv).lstSq
      exact ⟨a, xs, rfl, by rw [hK]; exact hx, Post.now S1 q _ _ (yl_enumC hK) hv'⟩
    · exact q.elim⟩
end
end On

set_option Elab.async false
set_option linter.all false
set_option maxRecDepth 100000
set_option maxHeartbeats 2000000
set_option autoImplicit false
namespace On
open PySem PySem.Spec PyProof.Rows L2
/-! ### {(a, b): v for target in iter if ..}: a dict whose keys are tuples -/
section
variable {X : Cx} {pins : List (Addr × Obj)} {σ : L2.St} {H : Hp} {s : Shared}
theorem setT {E : Value → Shared → Prop} {D b : Addr} {kvs : List (List Key × V)} {k : List Key} {v : V} {r : Value} {Q : Unit → Shared → Prop} (hu : X.A.units + 1 < cLine) (I : Inv X pins σ H s) (hD : H D = some (.dT kvs)) (hb : H b = some (.tup (k.map kV))) (hl : kvs.length < sizeLine) (rv : RelV v r)
    (h : ∀ s', Inv X pins σ (upd H D (.dT (putK kvs k v))) s' → Q () s') : wpAny (model X.prog X.w) X.A (dictSet D (.ref b) r) Q E s := by
  obtain ⟨z, hd, xs, rel, dd⟩ := dt_of I.hok hD
  have z1 : xs.length ≤ sizeLine := Paired.length rel ▸ z
  have z2 : (putK kvs k v).length ≤ sizeLine := Nat.le_trans (length_putK kvs k v) hl
  refine wpAny_dictSet_heap (hsz := z1) (show (tupleKind (mixKind X.prog X.w)).room X.A from Nat.lt_of_succ_lt hu) (key_of I.hok hb) dd fun h' dd' hs => h _ ?_
  obtain ⟨q, es, ep, hq, g2, g3, g4, _, g5⟩ := dd'
  refine d_write I (by rw [hD]; trivial) hs ⟨q, hq⟩ ⟨z2, hd, _, (rel.put k hb rv).keeps fun c ys ec => ?_, q, es, ep, hq, g2, g3, g4, g5⟩
  rw [upd_ne (ne_of ec hD (fun w => nomatch w))]
  exact ec
def tDcT (wi : TI) (g : TG) (tt : L2.TT) (tk tv : TE) (vs : List Nat) : TE := fun σ H Q => wi σ H fun J H1 => ∀ D, H1 D = none → ∃ W : Nat → Nat → Hp → Prop, (∃ m, W 0 m (upd H1 D (.dT []))) ∧ ∀ i m H, W i m H →
  (J.stop i H ∧ Q (.ref D) H) ∨ (J.go i H ∧ ∃ Nx : Hp → Prop, (∀ H', Nx H' → ∃ m', m' < m ∧ W (i + 1) m' H') ∧ ∀ x H', J.yld i H x H' → g x (wipe σ vs) H' fun σ2 H2 => wipe σ2 vs = wipe σ vs ∧ tt σ2 H2 fun b H3 =>
    if b = true then tk σ2 H3 fun y H4 => tv σ2 H4 fun z H5 => ∃ kvs k b, y = .ref b ∧ H5 b = some (.tup (k.map kV)) ∧ H5 D = some (.dT kvs) ∧ kvs.length < sizeLine ∧ Nx (upd H5 D (.dT (putK kvs k z))) else Nx H3)
theorem pe_dcT {kx vx tg iter : Expr} {ifs : List Expr} {scope : Scope} {own : List (Str × Nat)} {pos : Pos} {wi : TI} {g : TG} {tt : L2.TT} {tk tv : TE} (hu : X.A.units + 1 < cLine) (hc : X.calm = true) (hN : X.N.Nodup) (hi : PI X tg iter wi) (ok : BlkOk X.N X.env.scope scope own)
    (hg : ∀ (s : Shared) (H : Hp) (A : Addr) (cl : List (Str × Addr)) (fp : List Addr), PG (X.blk s H scope (compEnvC scope cl A X.env) fp) tg g)
    (ht : ∀ (s : Shared) (H : Hp) (A : Addr) (cl : List (Str × Addr)) (fp : List Addr), PTs (X.blk s H scope (compEnvC scope cl A X.env) fp) ifs tt)
    (hk : ∀ (s : Shared) (H : Hp) (A : Addr) (cl : List (Str × Addr)) (fp : List Addr), PE (X.blk s H scope (compEnvC scope cl A X.env) fp) kx tk)
    (he : ∀ (s : Shared) (H : Hp) (A : Addr) (cl : List (Str × Addr)) (fp : List Addr), PE (X.blk s H scope (compEnvC scope cl A X.env) fp) vx tv) (hs : ∀ x, foldedSetIterable iter X.env x = pure x) :
    PE X (.DictComp kx vx [⟨tg, iter, ifs, 0⟩] scope pos) (tDcT wi g tt tk tv (own.map (·.2))) := by
  refine ⟨fun pins s σ H Q I h => ?_⟩
  rw [arm_eval_DictComp]
  have free : ∀ y ∈ scope.names, y.2 = .free → ∃ c, X.env.cells.lookup y.1 = some c := fun y hy e => by
    rcases ok.free y hy e with k | k
    · exact I.ok.has _ (.inl k)
    · exact I.ok.has _ (.inr k)
  refine wpAny_comprehension_free rfl hs (closure_ok free) ok.kind (fun y hy e => by rw [ok.uniq y hy, e])
    (thn (hi.run pins s σ H _ I h) fun xv s1 hx => thn hx fun itv s2 h2 => ?_)
  obtain ⟨it, fp, tn, J, H2, e, I2, T, st2, f2, q⟩ := h2
  subst e
  refine wpAny_newObj_type (newEnv_comp ?_)
  generalize eD : s2.heap.objs.size = D
  obtain ⟨W, ⟨m0, w0⟩, turn⟩ := q D (I2.hok.fresh (Nat.le_of_eq eD))
  generalize e3 : ({ s2 with heap := s2.heap.push { cls := .type "dict", data := .dict #[] } } : Shared) = s3
  have h3 : s3.heap = s2.heap.push { cls := .type "dict", data := .dict #[] } := by rw [← e3]
  have I3 : Inv X pins σ (upd H2 D (.dT [])) s3 := by
    rw [← e3]
    refine I2.laid (t' := s2.toks) (fun b o z => Heap.get?_push_of_some _ z) (Nat.le_of_eq eD) ?_
    rw [← eD]
    exact dt_empty s2.heap I2.big
  have below : ∀ b ∈ fp, b < s2.heap.objs.size := fun b hb => let ⟨o, z, _⟩ := T.obj _ _ st2 b hb; Heap.lt_size z
  have f3 : ∀ b ∈ fp, FpOk X pins (upd H2 D (.dT [])) b ∧ b < s3.heap.objs.size := fun b hb => by
    refine ⟨⟨?_, (f2 b hb).2⟩, by rw [h3, Heap.size_push]; exact Nat.lt_succ_of_lt (below b hb)⟩
    rw [upd_ne (eD ▸ Nat.ne_of_lt (below b hb))]
    exact (f2 b hb).1
  have st3 : tn 0 s3.heap := T.keep _ _ _ st2 fun b _ o z => by rw [h3]; exact Heap.get?_push_of_some _ z
  have I4 := block_start I3 ok hN f3
  generalize eC : cellsFrom (s3.heap.objs.size + 1) scope.names (cloFrom X.env.cells scope.names []) = cl at I4 ⊢
  have pg := hg s3 (upd H2 D (.dT [])) s3.heap.objs.size cl fp
  have pt := ht s3 (upd H2 D (.dT [])) s3.heap.objs.size cl fp
  have pk := hk s3 (upd H2 D (.dT [])) s3.heap.objs.size cl fp
  have pv := he s3 (upd H2 D (.dT [])) s3.heap.objs.size cl fp
  have nfp : ∀ b ∈ fp, (upd H2 D (.dT [])) b = none := fun b hb => (f3 b hb).1.1
  generalize hce : compEnvC scope cl s3.heap.objs.size X.env = ce at I4 pg pt pk pv ⊢
  have cL : ce.locals = s3.heap.objs.size := by subst hce; rfl
  generalize eH : upd H2 D (.dT []) = H3 at I3 I4 pg pt pk pv w0 nfp f3
  generalize e4 : ({ s3 with heap := pushCells (s3.heap.push { cls := .type "dict", data := .dict #[] }) scope.names } : Shared) = s4 at I4 ⊢
  have st4 : tn 0 s4.heap := T.keep _ _ _ st3 fun b _ o z => by rw [← e4]; exact pushCells_keeps _ _ _ _ (Heap.get?_push_of_some _ z)
  have stat : ∀ {σ' : L2.St} {H' : Hp} {s' : Shared}, Inv (X.blk s3 H3 scope ce fp) [] σ' H' s' → (∀ b ∈ fp, H' b = none) → ∀ b ∈ fp, FpOk (X.blk s3 H3 scope ce fp) [] H' b := fun {σ' H' s'} I' hn b hb =>
    ⟨hn b hb, (I'.ok.exf b hb).1, I'.ok.exfs b hb, .inl hb, fun x c z => (I'.ok.exf b hb).2 x c z, fun p hp => absurd (show p ∈ ([] : List (Addr × Obj)) ++ [] from hp) (by simp)⟩
  have fin0 : ∀ {s' : Shared} {H' : Hp} {m : Str → Option Value}, Inv X pins σ H' s' → Q (.ref D) H' → s'.heap.Ns s3.heap.objs.size m → FpOk X pins H' s3.heap.objs.size → compPost (model X.prog X.w) X.A X.xe none (EP X pins σ Q) (.ref D) s3.heap.objs.size (.ok .next) s' := fun {s' H' m} I' qq hn f => by
    refine ⟨m, hn, fun h'' sb => ?_⟩
    obtain ⟨a0, a1, _, a3, a4, a5⟩ := f
    exact ⟨.ref D, H', I'.turned (t' := s'.toks) (fun b o hb z => (sb.2 b hb).trans z) a0 a1 a3 a4 a5, rfl, qq⟩
  have loop : codeAny (model X.prog X.w) X.A (.compLoop (.DictComp kx vx [⟨tg, iter, ifs, 0⟩] scope pos) 0 (.ref it) (.ref D) ce) (compPost (model X.prog X.w) X.A X.xe none (EP X pins σ Q) (.ref D) s3.heap.objs.size) s4 := by
    refine compLoop_anyD (fun n s' => ∃ i H', Inv (X.blk s3 H3 scope ce fp) [] (wipe σ (own.map (·.2))) H' s' ∧ tn i s'.heap ∧ (∀ b ∈ fp, H' b = none) ∧ W i n H') ?_ m0 ⟨0, H3, I4, st4, nfp, w0⟩
    rintro n s5 ⟨i, H5, I5, st5, n5, w5⟩
    rcases turn i n H5 w5 with ⟨stop, qq⟩ | ⟨go, Nx, hNx, step⟩
    · refine thnF (T.done (X.blk s3 H3 scope ce fp) rfl rfl rfl hc i [] s5 _ H5 (fun _ _ => False) I5 (stat I5 n5) st5 stop) fun r s6 ⟨hr, I6⟩ => ?_
      subst hr
      have I7 : Inv X pins σ H5 s6 := I3.call' (ch := fp) I6.os I6.base I6.hok I6.bare fun b hb => let z := (f3 b hb).1; ⟨z.2.2.2.1, z.2.1, z.2.2.2.2.1, z.2.2.2.2.2⟩
      have nC : H5 s3.heap.objs.size = none := cL ▸ (show H5 ce.locals = none from I6.free)
      obtain ⟨m, hn, _⟩ := I6.loc
      exact fin0 I7 qq (cL ▸ (show s6.heap.Ns ce.locals m from hn)) (I3.fpOk (Nat.le_refl _) nC)
    · refine thnF (T.item (X.blk s3 H3 scope ce fp) rfl rfl rfl hc i [] s5 _ H5 (fun _ _ => False) I5 (stat I5 n5) st5 go) fun r s6 ⟨u, hr, h6⟩ => ?_
      subst hr
      refine thnF h6 fun _ s7 ⟨x, H7, I7, r7, y7, st7, n7⟩ => ?_
      refine thnF (pg.run _ s7 _ H7 x u _ (I7.pinned (stat I7 n7) (T.obj _ _ st7)) r7 (step x H7 y7)) fun _ s8 ⟨σ8, H8, I8, hw8, q8⟩ => ?_
      refine thnF (pt.run _ s8 σ8 H8 _ I8 q8) fun b s9 ⟨H9, I9, q9⟩ => ?_
      have fin : ∀ {s' : Shared} {H' : Hp}, Inv (X.blk s3 H3 scope ce fp) ([] ++ pinsAt fp s7.heap) σ8 H' s' → Nx H' → ∃ m, m < n ∧ ∃ i H', Inv (X.blk s3 H3 scope ce fp) [] (wipe σ (own.map (·.2))) H' s' ∧ tn i s'.heap ∧ (∀ b ∈ fp, H' b = none) ∧ W i m H' := fun {s' H'} I' nx => by
        obtain ⟨m', hm, w'⟩ := hNx H' nx
        have pin' : ∀ b ∈ fp, ∀ o, s7.heap.get? b = some o → s'.heap.get? b = some o ∧ H' b = none := fun b hb o z =>
          let y := I'.pin (b, o) (List.mem_append_right _ (List.mem_append_right _ (mem_pinsAt hb z))); ⟨y.1, y.2.1⟩
        refine ⟨m', hm, i + 1, H', (I'.unpinned (pins := [])).weak (by rw [← hw8, wipe_length]) (fun j v z => ?_), T.keep _ _ _ st7 fun b hb o z => (pin' b hb o z).1, fun b hb => ?_, w'⟩
        · rw [← hw8] at z
          exact (wipe_some z).1
        · obtain ⟨o, z, _⟩ := T.obj _ _ st7 b hb
          exact (pin' b hb o z).2
      cases b with
      | false =>
        simp only [Bool.false_eq_true, if_false] at q9 ⊢
        exact fin I9 q9
      | true =>
        simp only [if_true] at q9 ⊢
        refine thnF (pk.run _ s9 σ8 H9 _ I9 q9) fun z s10 ⟨yk, H10, I10, r10, q10⟩ => ?_
        refine thnF (pv.run _ s10 σ8 H10 _ I10 q10) fun z2 s11 ⟨yv, H11, I11, r11, kvs, k, b, ek, hb, hD11, hz11, nx⟩ => ?_
        subst ek
        cases (show z = Value.ref b from r10)
        exact setT (X := X.blk s3 H3 scope ce fp) hu I11 hD11 hb hz11 r11 fun s12 I12 => fin I12 nx
  subst hce
  exact codeAny_compStart_dict loop (T.self X.A 0 _ _ _ st4 loop)
end
end On

set_option Elab.async false
set_option linter.all false
set_option maxRecDepth 100000
set_option maxHeartbeats 2000000
set_option autoImplicit false
namespace On
open PySem PySem.Spec PyProof.Rows L2
def dcMapT (g : J → D → Gm → Option Gm) (mt : Gm → J → R Bool) (mk mv : Gm → J → R D) (Γ : Gm) : List D → List (D × D) → J → R (List (D × D))
  | [], acc, j => .ok acc j
  | d :: ds, acc, j => match g j d Γ with
    | none => .bad
    | some Γ1 => (mt Γ1 j).nox.bind fun b j => bif b then (mk Γ1 j).nox.bind fun k j => (mv Γ1 j).nox.bind fun v j => (bif keyT k then dcMapT g mt mk mv Γ ds (putDK acc k v) j else .bad) else dcMapT g mt mk mv Γ ds acc j
def mDcT (mi : Gm → J → R (List D)) (g : J → D → Gm → Option Gm) (mt : Gm → J → R Bool) (mk mv : Gm → J → R D) (vs : List Nat) : Gm → J → R D := fun Γ j => (mi Γ j).bind fun ds j => if ds.length ≤ 100000 then (dcMapT g mt mk mv (wipeG Γ vs) ds [] j).bind fun es j => .ok (.tdc es) j else .bad
theorem upd_self {H : Hp} {p : Addr} {o : HO} (h : H p = some o) : upd H p o = H := by
  funext a
  by_cases e : a = p
  · rw [e, upd_same, h]
  · rw [upd_ne e]
/-- what is wanted of a new thing -/
abbrev KNew (C : Ct) (Q : VK) : (Addr → Prop) → D → J → List Addr → Hp → Prop := fun O d j1 ρ1 H1 => ∀ p o, H1 p = none → (∀ c fs, d ≠ .ins c fs) → (∀ (ρ2 : List Addr) (B2 : Addr → Prop), (∀ v e, Den C.b ρ1 H1 (Bo O ρ1 j1) v e → Den C.b ρ2 (upd H1 p o) B2 v e) → Cnt C.b ρ2 (upd H1 p o) B2 p d) → Q (.ref p) (upd H1 p o)
section
variable {C : Ct} {E : WX} {X : Cx}
theorem dcT_read {ts vs : List Nat} {mi : Gm → J → R (List D)} {g : J → D → Gm → Option Gm} {mt : Gm → J → R Bool} {mk mv : Gm → J → R D} (hts : ∀ k ∈ ts, k ∈ vs) {σ : L2.St} {H : Hp} {Q : VK}
    (h0 : St0 C E (mDcT mi g mt mk mv vs) σ H (KNew C Q)) :
    tDcT (fun σ H Rr => St0 C E mi σ H fun O ds j' ρ' H' => ∀ I P, Yl C P I ds → P ρ' (Bo O ρ' j') H' → Rr I H')
      (fun v σ H Q => ∃ O ρ Γ j d Γ', Sok C O ρ σ H Γ j ∧ Den C.b ρ H (Bo O ρ j) v d ∧ g j d Γ = some Γ' ∧ ∀ σ', Off ts σ σ' → Sok C O ρ σ' H Γ' j → Q σ' H)
      (fun σ H Q => St0 C EN mt σ H fun _ b _ _ H' => Q b H')
      (fun σ H Q => St0 C EN mk σ H fun O d j' ρ' H' => ∀ v, Den C.b ρ' H' (Bo O ρ' j') v d → Q v H')
      (fun σ H Q => St0 C EN mv σ H fun O d j' ρ' H' => ∀ v, Den C.b ρ' H' (Bo O ρ' j') v d → Q v H') vs σ H Q := by
  obtain ⟨O, ρ, Γ, j, S, h⟩ := h0
  refine ⟨O, ρ, Γ, j, S, Post.imp (Post.bind S h) fun ds j1 ρ1 H1 k1 S1 q I P Y hP => ?_⟩
  intro L hL
  obtain ⟨hlen, q⟩ := Post.ite q
  have nρ : L ∉ ρ1 := fun z => by obtain ⟨o, e⟩ := S1.st.rtr L z; rw [hL] at e; cases e
  let O' : Addr → Prop := fun a => O a ∨ a = L
  have hO : ∀ a, O a → O' a := fun a z => .inl z
  have hN : ∀ a, O' a → O a ∨ H1 a = none := fun a z => z.imp id fun e => by rw [e]; exact hL
  have x0 : Ext H1 (upd H1 L (.dT [])) := Ext.new hL
  have s0 : Sto C.b O' ρ1 (upd H1 L (.dT [])) j1 := (S1.more (o := .dT []) hL).st
  let W : Nat → Hp → Prop := fun i H2 => ∃ (ρ2 : List Addr) (j2 : J) (acc : List (List Key × V)) (es : List (D × D)), Kp ρ1 j1 H1 ρ2 j2 H2 ∧ Sto C.b O' ρ2 H2 j2 ∧ L ∉ ρ2 ∧ H2 L = some (.dT acc) ∧ acc.length ≤ i ∧ DenT C.b ρ2 H2 (Bo O' ρ2 j2) acc es ∧ P ρ2 (Bo O' ρ2 j2) H2 ∧
      Post C E O σ Γ ρ1 j1 H1 ((dcMapT g mt mk mv (wipeG Γ vs) (ds.drop i) es j2).bind fun fs j => .ok (D.tdc fs) j) (KNew C Q O)
  refine ⟨fun i m H2 => m = ds.length - i ∧ i ≤ ds.length ∧ W i H2, ⟨ds.length, by simp, Nat.zero_le _, ρ1, j1, [], [], x0.keep, s0, nρ, upd_same, Nat.le_refl _, .nil, Y.stay _ _ _ _ _ _ ((Ext.keep x0).stepO hN) hP, q⟩, ?_⟩
  rintro i m H2 ⟨rfl, hi, ρ2, j2, acc, es, k2, s2, n2, hl2, hacc, r2, hP2, q2⟩
  by_cases hlt : i < ds.length
  · refine .inr ⟨Y.go i _ _ H2 hP2 hlt, fun H3 => i + 1 ≤ ds.length ∧ W (i + 1) H3, fun H3 z => ⟨ds.length - (i + 1), by omega, rfl, z.1, z.2⟩, fun x H3 y => ?_⟩
    have S2 : Sok C O' ρ2 (wipe σ vs) H2 (wipeG Γ vs) j2 := (S1.wiped vs).keepO k2 hO hN s2
    obtain ⟨x3, d3⟩ := Y.yld i ρ2 _ H2 x H3 _ hP2 S2.trkB (List.getElem?_eq_getElem hlt) y
    rw [drop_get hlt] at q2
    unfold dcMapT at q2
    cases e1 : g j2 ds[i] (wipeG Γ vs) with
    | none => rw [e1] at q2; exact q2.elim
    | some Γ3 =>
      rw [e1] at q2
      dsimp only at q2
      refine ⟨O', ρ2, wipeG Γ vs, j2, ds[i], Γ3, S2.ext x3, d3, e1, fun σ3 o3 S3 => ⟨?_, O', ρ2, Γ3, j2, S3, ?_⟩⟩
      · exact (wipe_off vs (o3.more hts)).trans (by rw [wipe_off vs]; exact ⟨wipe_length _ _, fun k hk => wipe_out hk⟩)
      · have k3 : Kp ρ1 j1 H1 ρ2 j2 H3 := S1.kpt k2 x3.keep
        have hl3 : H3 L = some (.dT acc) := x3 _ _ hl2
        have P3 : P ρ2 (Bo O' ρ2 j2) H3 := Y.stay _ _ _ _ _ _ ((Ext.keep x3).step O') hP2
        have r3 := r2.map fun _ _ => ((Ext.keep x3).step O').den
        revert q2
        generalize mt Γ3 j2 = rt
        intro q2
        cases rt with
        | exc c fs j3 => exact q2.elim
        | bad => exact q2.elim
        | ok b j4 =>
          refine fun ρ4 H4 k4 S4 => ?_
          have n4 : L ∉ ρ4 := fun z => (k4.frs L z).elim n2 fun e => by rw [hl3] at e; cases e
          have l4 : H4 L = some (.dT acc) := k4.keep _ _ (fun z => n2 z.mem) nt_dT hl3
          have P4 : P ρ4 (Bo O' ρ4 j4) H4 := Y.stay _ _ _ _ _ _ (k4.step O') P3
          have r4 := r3.map fun _ _ => (k4.step O').den
          have K4 := S1.kpt k3 k4
          cases b with
          | false => exact iteF ⟨hlt, ρ4, j4, acc, es, K4, S4.st, n4, l4, Nat.le_succ_of_le hacc, r4, P4, q2⟩
          | true =>
            refine iteT ⟨O', ρ4, Γ3, j4, S4, ?_⟩
            have q2 : Post C E O σ Γ ρ1 j1 H1 (((mk Γ3 j4).nox.bind fun k j => (mv Γ3 j).nox.bind fun v j => (bif keyT k then dcMapT g mt mk mv (wipeG Γ vs) (ds.drop (i + 1)) (putDK es k v) j else .bad)).bind fun fs j => .ok (D.tdc fs) j) (KNew C Q O) := q2
            revert q2
            generalize mk Γ3 j4 = rk
            intro q2
            cases rk with
            | exc c fs j5 => exact q2.elim
            | bad => exact q2.elim
            | ok kd j5 =>
              refine fun ρ5 H5 k5 S5 kv hkv => ⟨O', ρ5, Γ3, j5, S5, ?_⟩
              have n5 : L ∉ ρ5 := fun z => (k5.frs L z).elim n4 fun e => by rw [l4] at e; cases e
              have l5 : H5 L = some (.dT acc) := k5.keep _ _ (fun z => n4 z.mem) nt_dT l4
              have P5 : P ρ5 (Bo O' ρ5 j5) H5 := Y.stay _ _ _ _ _ _ (k5.step O') P4
              have r5 := r4.map fun _ _ => (k5.step O').den
              have K5 := S1.kpt K4 k5
              have q2 : Post C E O σ Γ ρ1 j1 H1 (((mv Γ3 j5).nox.bind fun v j => (bif keyT kd then dcMapT g mt mk mv (wipeG Γ vs) (ds.drop (i + 1)) (putDK es kd v) j else .bad)).bind fun fs j => .ok (D.tdc fs) j) (KNew C Q O) := q2
              revert q2
              generalize mv Γ3 j5 = rv
              intro q2
              cases rv with
              | exc c fs j6 => exact q2.elim
              | bad => exact q2.elim
              | ok vd j6 =>
                refine fun ρ6 H6 k6 S6 v hv => ?_
                have n6 : L ∉ ρ6 := fun z => (k6.frs L z).elim n5 fun e => by rw [l5] at e; cases e
                have l6 : H6 L = some (.dT acc) := k6.keep _ _ (fun z => n5 z.mem) nt_dT l5
                have K6 := S1.kpt K5 k6
                have q2 : Post C E O σ Γ ρ1 j1 H1 ((bif keyT kd then dcMapT g mt mk mv (wipeG Γ vs) (ds.drop (i + 1)) (putDK es kd vd) j6 else .bad).bind fun fs j => .ok (D.tdc fs) j) (KNew C Q O) := q2
                cases ik : keyT kd with
                | false => rw [ik] at q2; exact q2.elim
                | true =>
                  rw [ik] at q2
                  obtain ⟨k1, k2, bb, e1', e2', hbb⟩ := den_tkey (.of ((k6.step O').den hkv)) ik
                  subst e1' e2'
                  have kL : Step ρ6 (Bo O' ρ6 j6) H6 ρ6 (Bo O' ρ6 j6) (upd H6 L (.dT (putK acc [k1, k2] v))) := ⟨Pres.at (.inl (.inr rfl)) l6 nt_dT, fun _ z => .inl z, Pfx.refl⟩
                  refine ⟨acc, [k1, k2], bb, rfl, hbb, l6, Nat.lt_of_le_of_lt hacc (Nat.lt_of_lt_of_le hlt (sz5 hlen)), hlt, ρ6, j6, putK acc [k1, k2] v, putDK es (.tup [keyD k1, keyD k2]) vd, ?_, S6.st.write (.inr rfl) n6 l6 ⟨nt_dT, fun _ z => by cases z⟩, n6, upd_same, ?_, ?_, ?_, q2⟩
                  · exact ⟨fun a o n t ea => by rw [upd_ne (ne_of_none ea hL)]; exact K6.keep a o n t ea, fun a ps ea => by rw [upd_ne (ne_of_none ea hL)]; exact K6.tbl a ps ea, K6.grow, K6.frs, K6.pfx⟩
                  · have := length_putK acc [k1, k2] v; omega
                  · exact DenT.put (kL.den hv) ((r5.map fun _ _ => (k6.step O').den).map fun _ _ => kL.den)
                  · exact Y.stay _ _ _ _ _ _ kL (Y.stay _ _ _ _ _ _ (k6.step O') P5)
  · have e : i = ds.length := by omega
    subst e
    rw [List.drop_length] at q2
    refine .inl ⟨Y.stop _ _ _ H2 hP2 (Nat.le_refl _), ?_⟩
    have q3 : Post C E O σ Γ ρ1 j1 H1 (.ok (D.tdc es) j2) (KNew C Q O) := q2
    have nO : ¬ O L := fun z => by obtain ⟨o, e⟩ := S1.st.trk L z; rw [hL] at e; cases e
    have kk : Kp ρ1 j1 H1 ρ2 j2 (rem H2 L) := ⟨fun a o n t ea => by rw [rem_ne (ne_of_none ea hL)]; exact k2.keep a o n t ea, fun a ps ea => by rw [rem_ne (ne_of_none ea hL)]; exact k2.tbl a ps ea, k2.grow, k2.frs, k2.pfx⟩
    have s3 : Sto C.b O ρ2 (rem H2 L) j2 := s2.rem nO n2 hl2 ⟨nt_dT, fun _ z => by cases z⟩
    have P : Pres (Bo O' ρ2 j2) H2 (rem H2 L) := ⟨fun a o n _ e => by rw [rem_ne (fun z => n (.inl (.inr z)))]; exact e, fun a ps e => ⟨ps, by rw [rem_ne (fun z => by rw [z, hl2] at e; cases e)]; exact e⟩⟩
    have q4 := q3 ρ2 (rem H2 L) kk (S1.keep kk s3) L (.dT acc) rem_same (fun _ _ z => by cases z) fun ρ3 B3 f => ⟨acc, upd_same, r2.map fun v d z => f v d ((z.mono P Pfx.refl).less fun b w => .inl (w.imp .inl id))⟩
    rw [upd_rem, upd_self hl2] at q4
    exact q4
variable {kx vx tg iter : Expr} {ifs : List Expr} {scope : Scope} {own : List (Str × Nat)} {pos : Pos} {ts : List Nat} {mi : Gm → J → R (List D)} {g : J → D → Gm → Option Gm} {mt : Gm → J → R Bool} {mk mv : Gm → J → R D}
theorem mn_dcT (hu : X.A.units + 64 < cLine) (hc : X.calm = true) (hN : X.N.Nodup) (hi : MI C E X tg iter mi) (ok : BlkOk X.N X.env.scope scope own)
    (hg : ∀ (s : Shared) (H : Hp) (A : Addr) (cl : List (Str × Addr)) (fp : List Addr), MG C (X.blk s H scope (compEnvC scope cl A X.env) fp) tg ts g)
    (ht : ∀ (s : Shared) (H : Hp) (A : Addr) (cl : List (Str × Addr)) (fp : List Addr), MTs C EN (X.blk s H scope (compEnvC scope cl A X.env) fp) ifs mt)
    (hk : ∀ (s : Shared) (H : Hp) (A : Addr) (cl : List (Str × Addr)) (fp : List Addr), ME C EN (X.blk s H scope (compEnvC scope cl A X.env) fp) kx mk)
    (hv : ∀ (s : Shared) (H : Hp) (A : Addr) (cl : List (Str × Addr)) (fp : List Addr), ME C EN (X.blk s H scope (compEnvC scope cl A X.env) fp) vx mv)
    (hts : ∀ k ∈ ts, k ∈ own.map (·.2)) (hs : ∀ x, foldedSetIterable iter X.env x = pure x := by intro _; rfl) :
    MN C E X (.DictComp kx vx [⟨tg, iter, ifs, 0⟩] scope pos) (mDcT mi g mt mk mv (own.map (·.2))) :=
  PE.imp (pe_dcT (by omega) hc hN hi ok hg ht hk hv hs) fun σ H Q h => dcT_read hts h

/-! ### a new dict, locked as it is told -/
def lockD : D → Option D
  | .dct es => some (.fdc es)
  | .tdc es => some (.ftc es)
  | _ => none
def mLkN (m : Gm → J → R D) : Gm → J → R D := fun Γ j => (m Γ j).bind fun d j => lift (lockD d) j
theorem me_newL {e : Expr} {m : Gm → J → R D} (h : MN C E X e m) : ME C E X e (mLkN m) := PE.imp (pe_lockN h) fun σ H Q ⟨O, ρ, Γ, j, S, h⟩ => ⟨O, ρ, Γ, j, S, Post.imp (Post.bind S h) fun d j1 ρ1 H1 k1 S1 q p o hp _ hc => by
  have x : Ext H1 (upd H1 p o) := Ext.new hp
  have c := hc ρ1 (Bo O ρ1 j1) fun v e r => r.mono x.pres Pfx.refl
  unfold lockD at q
  split at q
  · rename_i es _
    obtain ⟨kvs, hk, r⟩ := c
    refine ⟨p, .dK kvs, rfl, hk, True.intro, fun od => ?_⟩
    have eo : o = .dK kvs := Option.some.inj (upd_same.symm.trans hk)
    subst eo
    have x2 : Ext H1 (upd (upd H1 p (.dK kvs)) p (.frz od (.dK kvs))) := fun a u e => by rw [upd_ne (ne_of_none e hp), upd_ne (ne_of_none e hp)]; exact e
    have c2 : DenK C.b ρ1 (upd (upd H1 p (.dK kvs)) p (.frz od (.dK kvs))) (Bo O ρ1 j1) kvs es := by
      have r2 : DenK C.b ρ1 (upd H1 p (.dK kvs)) (fun a => Bo O ρ1 j1 a ∨ a = p) kvs es := by
        have c' := hc ρ1 (fun a => Bo O ρ1 j1 a ∨ a = p) fun v e r => (r.less fun a z => z.imp id fun w => by rw [w]; exact hp).mono x.pres Pfx.refl
        obtain ⟨kvs', hk', r'⟩ := c'
        cases (hk.symm.trans hk')
        exact r'
      exact r2.map fun v e z => (z.mono ⟨fun a u n t e => by rw [upd_ne (fun w => n (.inr w))]; exact e, fun a ps e => ⟨ps, by rw [upd_ne (fun w => by rw [w, upd_same] at e; cases e)]; exact e⟩⟩ Pfx.refl).less fun a w => .inl (.inl w)
    exact q ρ1 _ x2.keep (S1.ext x2) _ (.fK upd_same (S1.fresh hp) c2)
  · rename_i es _
    obtain ⟨kvs, hk, r⟩ := c
    refine ⟨p, .dT kvs, rfl, hk, True.intro, fun od => ?_⟩
    have eo : o = .dT kvs := Option.some.inj (upd_same.symm.trans hk)
    subst eo
    have x2 : Ext H1 (upd (upd H1 p (.dT kvs)) p (.frz od (.dT kvs))) := fun a u e => by rw [upd_ne (ne_of_none e hp), upd_ne (ne_of_none e hp)]; exact e
    have c2 : DenT C.b ρ1 (upd (upd H1 p (.dT kvs)) p (.frz od (.dT kvs))) (Bo O ρ1 j1) kvs es := by
      have r2 : DenT C.b ρ1 (upd H1 p (.dT kvs)) (fun a => Bo O ρ1 j1 a ∨ a = p) kvs es := by
        have c' := hc ρ1 (fun a => Bo O ρ1 j1 a ∨ a = p) fun v e r => (r.less fun a z => z.imp id fun w => by rw [w]; exact hp).mono x.pres Pfx.refl
        obtain ⟨kvs', hk', r'⟩ := c'
        cases (hk.symm.trans hk')
        exact r'
      exact r2.map fun v e z => (z.mono ⟨fun a u n t e => by rw [upd_ne (fun w => n (.inr w))]; exact e, fun a ps e => ⟨ps, by rw [upd_ne (fun w => by rw [w, upd_same] at e; cases e)]; exact e⟩⟩ Pfx.refl).less fun a w => .inl (.inl w)
    exact q ρ1 _ x2.keep (S1.ext x2) _ (.fT upd_same (S1.fresh hp) c2)
  · exact q.elim⟩
end
end On

set_option Elab.async false
set_option linter.all false
set_option maxRecDepth 100000
set_option maxHeartbeats 2000000
set_option autoImplicit false
namespace On
open PySem PySem.Spec PyProof.Rows L2
/-! ### x(..), x a name that holds an instance of an own class -/
section
variable {X : Cx} {CX : CXT} {k i : Nat} {f A : Addr} {fd : FuncData} {ps : List Str} {sp : Sp} {E : L2.St → XK} {x : Str} {e : Expr} {es : List Expr} {t : TA} {pos q : Pos}
theorem pe_icall (M : Meth X.K A "__call__" f) (hfi : PySem.W.fnIn X.K f = true) (F : FnG X.prog X.w X.K X.mg X.base CX k f fd ps sp) (hr : Room k X.A) (hgd : X.A.guards = some []) (hN : X.N[i]? = some x) (hv : Vis X.env.scope x) (hb : Binds X.K fd ps []) (hx : ∀ σ, PassesAt CX X σ (E σ))
    (ha : PA X (e :: es) t) (hd : (x == ("__debug__" : Str)) = false := by decide) (hcd : (x == ("__classdict__" : Str)) = false := by decide) (he : starEach (e :: es) X.env = (false, eval e X.env) :: starEach es X.env := by rfl) (hpl : (backTo pos (starEach es X.env)).any (·.1) = false := by rfl) :
    PE X (.Call (.Name x q) (e :: es) [] pos) (fun σ H Q => ∃ a, σ[i]? = some (some (.ref a)) ∧ t σ H fun vs H1 => (∃ dx fs, H1 a = some (.ins A dx fs)) ∧ sp (.ref a :: vs) H1 Q (E σ)) := by
  refine ⟨fun pins s0 σ H0 Q I0 ⟨a, hs, h⟩ => ?_⟩
  refine wpAny_Call_Name_kw (thn ((pe_var (pos := q) (i := i) hN hv hd hcd).run pins s0 σ H0 (fun v H1 => v = .ref a ∧ H1 = H0) I0 ⟨.ref a, hs, rfl, rfl⟩) fun u s ⟨v, H, I, r1, ev, eH⟩ => ?_)
  subst ev eH
  obtain rfl : u = Value.ref a := r1
  refine StX.callO_with (thn (ha.run pos pins s σ _ _ I h) fun us s1 ⟨vs, H1, I1, r, ⟨dx, fs, hi⟩, qq⟩ => ?_) he hpl
  obtain ⟨ox, od, J, hdt⟩ := StX.insC_at (X := X) I1 (.inr ⟨dx, fs, hi⟩)
  refine ⟨⟨A, ox, od, J, hdt⟩, ?_⟩
  have r2 : Vals (V.ref a :: vs) (Value.ref a :: us) := .cons rfl r
  have hl : ((Value.ref a :: us) ++ ([] : List Value)).length = ps.length := by rw [List.append_nil, ← r2.length]; exact F.len _ _ _ _ qq
  have bd := hb s1 (.ref a :: us) I1.kIn hl
  rw [List.append_nil] at bd
  refine wpAny_call (PySem.W.kco_code I1.kIn J hdt M.at_ M.fn hfi (codeAny_mono (F.run X.A X.stack s1 H1 ⟨.ref a :: us, []⟩ _ _ Q (E σ) hr hgd I1.env0 bd r2 qq) fun r s' hq => ?_))
  cases r with
  | error w => exact hx σ pins _ _ w s' I1 hq
  | ok fl =>
    cases fl with
    | ret u => exact I1.after hq
    | next => exact False.elim hq
    | brk => exact False.elim hq
    | cont => exact False.elim hq
end
def isIns (c : Nat) : D → Bool
  | .ins n _ => decide (n = c)
  | _ => false
theorem isIns_ok {b : Cb} {ρ : List Addr} {H : Hp} {B : Addr → Prop} {v : V} {c : Nat} {d : D} (h : Vw b ρ H B v d) (e : isIns c d = true) : ∃ a dx fs, v = .ref a ∧ H a = some (.ins (b.cm c) dx fs) := by
  cases d with
  | ins n fs =>
    have e : n = c := of_decide_eq_true e
    subst e
    obtain ⟨a, dx, vs, e, hi, _⟩ := h.insAt
    exact ⟨a, dx, vs, e, hi⟩
  | _ => cases e
def mICall (i c : Nat) (g : List D → J → R D) (mr : Gm → J → R (List D)) : Gm → J → R D := fun Γ j => match Γ[i]? with
  | some (some (.val d)) => bif isIns c (deref j d) then ((mr Γ j).bind fun ds j => bif isIns c (deref j d) then g (d :: ds) j else .bad) else .bad
  | _ => .bad
section
variable {C : Ct} {E : WX} {X : Cx} {e : Expr} {es : List Expr} {mr : Gm → J → R (List D)} {pos q : Pos} {k c i : Nat} {x : Str} {g : List D → J → R D}
theorem me_icall (tk : Takes X E) (G : Gm1 X.prog X.w C.b X.mg X.base k c "__call__" (spG C.b g)) (hfi : ∀ f, PySem.W.findIn C.b.K (.ref (C.b.cm c)) "__call__" = some (some (.ref f)) → PySem.W.fnIn C.b.K f = true) (hK : X.K = C.b.K) (hr : Room k X.A) (hgd : X.A.guards = some []) (hN : X.N[i]? = some x) (hv : Vis X.env.scope x) (ha : MA C E X (e :: es) mr) (hd : (x == ("__debug__" : Str)) = false := by decide) (hcd : (x == ("__classdict__" : Str)) = false := by decide)
    (he : starEach (e :: es) X.env = (false, eval e X.env) :: starEach es X.env := by rfl) (hpl : (backTo pos (starEach es X.env)).any (·.1) = false := by rfl) : ME C E X (.Call (.Name x q) (e :: es) [] pos) (mICall i c g mr) := by
  obtain ⟨f, fd, ps, F, hcl, hm, hb⟩ := G.ex
  have hf := hfi f hm.at_
  rw [← hK] at F hm hb hf
  refine PE.imp (pe_icall (i := i) (E := WE E) hm hf F hr hgd hN hv hb (fun σ => passAt tk σ) ha hd hcd he hpl) fun σ H Q ⟨O, ρ, Γ, j, S, h⟩ => ?_
  unfold mICall at h
  split at h
  · rename_i d hΓ
    obtain ⟨v, ev, hv⟩ := S.slot i _ hΓ
    cases h1 : isIns c (deref j d) with
    | false => rw [h1] at h; exact h.elim
    | true =>
      rw [h1] at h
      obtain ⟨a, _, _, rfl, _⟩ := isIns_ok (S.st.view hv) h1
      have h : Post C E O σ Γ ρ j H ((mr Γ j).bind fun ds j => bif isIns c (deref j d) then g (d :: ds) j else .bad) _ := h
      refine ⟨a, ev, O, ρ, Γ, j, S, Post.imp (Post.bind S h) fun ds j1 ρ1 H1 k1 S1 q vs hvs => ?_⟩
      have ha1 := (k1.step O).den hv
      cases h2 : isIns c (deref j1 d) with
      | false => rw [h2] at q; exact q.elim
      | true =>
        rw [h2] at q
        obtain ⟨a', dx, fs, e', hi⟩ := isIns_ok (S1.st.view ha1) h2
        cases e'
        exact ⟨⟨dx, fs, hi⟩, spG_of S1 (.cons ha1 hvs) q⟩
  · exact h.elim
end
end On

set_option Elab.async false
set_option linter.all false
set_option maxRecDepth 100000
set_option maxHeartbeats 2000000
set_option autoImplicit false
namespace On
open PySem PySem.Spec PyProof.Rows L2
/-! ### == of tuples that hold things of the store: the same thing is equal to itself -/
def eqI (d e : D) : Option Bool := match d, e with
  | .loc m, .loc n => if m = n then some true else none
  | .str x, .str y => some (decide (x = y))
  | d, e => eqP d e
def eqIA : List D → List D → Option Bool
  | [], [] => some true
  | d :: ds, e :: es => match eqI d e, eqIA ds es with
    | some a, some b => some (a && b)
    | _, _ => none
  | _, _ => none
def eqT : D → D → Option Bool
  | .tup ds, .tup es => eqIA ds es
  | _, _ => none
def eqJ (ds es : List D) (j : Nat) : Bool := (eqI (ds.getD j .non) (es.getD j .non)).getD false
theorem eqIA_all : ∀ {ds es : List D} {b : Bool}, eqIA ds es = some b → ds.length = es.length ∧ b = (List.range ds.length).all (eqJ ds es) ∧ ∀ j, j < ds.length → eqI (ds.getD j .non) (es.getD j .non) = some (eqJ ds es j)
  | [], [], b, h => by cases h; exact ⟨rfl, rfl, fun j hj => absurd hj (Nat.not_lt_zero _)⟩
  | [], _ :: _, b, h => by cases h
  | _ :: _, [], b, h => by cases h
  | d :: ds, e :: es, b, h => by
    unfold eqIA at h
    split at h
    · rename_i x y hx hy
      cases h
      obtain ⟨h1, h2, h3⟩ := eqIA_all hy
      have e0 : eqJ (d :: ds) (e :: es) 0 = x := by show (eqI d e).getD false = x; rw [hx]; rfl
      have es' : ∀ j, eqJ (d :: ds) (e :: es) (j + 1) = eqJ ds es j := fun j => rfl
      refine ⟨congrArg Nat.succ h1, ?_, fun j hj => ?_⟩
      · rw [List.length_cons, List.range_succ_eq_map, List.all_cons, e0, h2, List.all_map]
        rfl
      · cases j with
        | zero => rw [e0]; exact hx
        | succ j => exact h3 j (Nat.lt_of_succ_lt_succ hj)
    · cases h
theorem DenA.getD {c : Cb} {ρ : List Addr} {H : Hp} {B : Addr → Prop} : ∀ {vs : List V} {ds : List D}, DenA c ρ H B vs ds → ∀ {j : Nat}, j < ds.length → ∃ v, vs[j]? = some v ∧ Den c ρ H B v (ds.getD j .non) := fun {vs ds} r {j} hj => by
  have e : ds[j]? = some (ds.getD j .non) := by rw [List.getD_eq_getElem?_getD, List.getElem?_eq_getElem hj]; rfl
  exact r.get e
theorem Vals.get {vs : List V} {us : List Value} (r : Vals vs us) : ∀ {j : Nat} {v : V}, vs[j]? = some v → ∃ u, us[j]? = some u ∧ RelV v u := by
  induction r with
  | nil => intro j v e; cases e
  | cons h t ih =>
    intro j v e
    cases j with
    | zero => cases e; exact ⟨_, rfl, h⟩
    | succ j => exact ih (j := j) e
section
variable {X : Cx} {c : Cb}
theorem eqAt_I {pins : List (Addr × Obj)} {σ : L2.St} {H : Hp} {s : Shared} {A : Around} {ρ : List Addr} {B : Addr → Prop} {v w : V} {u z : Value} {d e : D} {b : Bool} (hK : X.K = c.K) (I : Inv X pins σ H s) (hu : A.units + 64 < cLine) (hv : Den c ρ H B v d) (hw : Den c ρ H B w e) (ru : RelV v u) (rz : RelV w z) (h : eqI d e = some b) : SeqAt.EqAt A s u z b := by
  unfold eqI at h
  split at h
  · rename_i m n
    by_cases q : m = n
    · rw [if_pos q] at h
      cases h
      subst q
      cases hv with
      | loc h1 =>
        cases hw with
        | loc h2 =>
          rw [h1] at h2
          cases h2
          cases ru
          cases rz
          exact SeqAt.EqAt.same _
    · rw [if_neg q] at h; cases h
  · rename_i x y
    cases h
    cases hv
    cases hw
    obtain ⟨t, rfl⟩ := ru
    obtain ⟨t', rfl⟩ := rz
    have := SeqAt.EqAt.str_str (A := A) (s := s) x t y t'
    rw [show (x == y) = decide (x = y) from by by_cases q : x = y <;> simp [q]] at this
    exact this
  · obtain ⟨p, q, hp, hq, sp, sq, rfl⟩ := eqP_some h
    obtain ⟨as, r1⟩ := Dp.reads I p v u (by rw [hK]; exact (Vw.of hv).dp hp) ru
    obtain ⟨bs, r2⟩ := Dp.reads I q w z (by rw [hK]; exact (Vw.of hw).dp hq) rz
    exact SeqAt.eqAt_reads p q A s u z as bs r1 r2 (SeqAt.canLay_of_shaped sp) (SeqAt.canLay_of_shaped sq) (SeqAt.room_of_shaped sp hu)
def rEqT (c : Cb) : R2 := fun x y H Q => ∃ ρ B d e b, Vw c ρ H B x d ∧ Vw c ρ H B y e ∧ eqT d e = some b ∧ Q (.bl b) H
theorem op_eqT (hK : X.K = c.K) (hu : X.A.units + 65 < cLine) : OpR X (compareOp .Eq) (rEqT c) := by
  intro pins s σ H x y v u Q I rx ry h
  obtain ⟨ρ, B, d, e, b, hx, hy, he, q⟩ := h
  unfold eqT at he
  split at he
  · rename_i ds es
    obtain ⟨a, xs, rfl, hs, r⟩ := hx.tupSq
    obtain ⟨a', xs', rfl, hs', r'⟩ := hy.tupSq
    cases rx
    cases ry
    obtain ⟨h1, h2, h3⟩ := eqIA_all he
    obtain ⟨its, rv, p, _⟩ := I.tuple (by rw [hK]; exact hs)
    obtain ⟨its', rv', p', _⟩ := I.tuple (by rw [hK]; exact hs')
    have l1 : its.length = ds.length := rv.length.symm.trans r.length
    have l2 : its'.length = es.length := rv'.length.symm.trans r'.length
    refine SeqAt.eq_tupleAt (e := eqJ ds es) p p' (by omega) (fun j j1 j2 => ?_) ?_
    · have j1 : j < its.length := by simpa using j1
      have j2 : j < its'.length := by simpa using j2
      have k1 : j < ds.length := by omega
      obtain ⟨v, ev, dv⟩ := r.getD k1
      obtain ⟨w, ew, dw⟩ := r'.getD (by omega : j < es.length)
      obtain ⟨z, ez, rz⟩ := Vals.get rv ev
      obtain ⟨z', ez', rz'⟩ := Vals.get rv' ew
      rw [List.getElem?_eq_getElem j1] at ez
      rw [List.getElem?_eq_getElem j2] at ez'
      have e1 : its.toArray[j] = z := by simpa using ez
      have e2 : its'.toArray[j] = z' := by simpa using ez'
      rw [e1, e2]
      exact eqAt_I hK I (by show X.A.units + 1 + 64 < cLine; omega) dv dw rz rz' (h3 j k1)
    · have : ((List.range (min its.toArray.size its'.toArray.size)).all (eqJ ds es) && its.toArray.size == its'.toArray.size) = b := by
        have s1 : its.toArray.size = ds.length := by simpa using l1
        have s2 : its'.toArray.size = ds.length := by rw [h1]; simpa using l2
        rw [s1, s2, Nat.min_self, h2]
        simp
      rw [this]
      exact ⟨.bl b, H, I, rfl, q⟩
  · cases he
theorem od_eqT : OpD c (rEqT c) (obl eqT) := fun ρ B H x y d e z Q ht hx hy hz k => by
  unfold obl at hz
  cases q : eqT d e with
  | none => rw [q] at hz; cases hz
  | some b =>
    rw [q] at hz
    cases hz
    exact ⟨ρ, B, d, e, b, hx, hy, q, k _ H Ext.refl (.bl b)⟩
end
end On

set_option Elab.async false
set_option linter.all false
set_option maxRecDepth 100000
set_option maxHeartbeats 2000000
set_option autoImplicit false
namespace On
open PySem PySem.Spec PyProof.Rows L2
/-! ### C(..): a new thing of the store -/
def mMakeL (c : Nat) (g : List D → J → R (List (Str × D))) (mr : Gm → J → R (List D)) : Gm → J → R D := fun Γ j => (mr Γ j).bind fun ds j => (g ds j).bind fun fs j => .ok (.loc j.length) (j ++ [some (.ins c fs)])
section
variable {C : Ct} {E : WX} {X : Cx} {e : Expr} {es : List Expr} {mr ma : Gm → J → R (List D)} {pos p : Pos} {k c : Nat} {f : Addr} {fd : FuncData} {ps : List Str} {x : Str} {gi : List D → J → R (List (Str × D))}
theorem spI_ofL {c : Nat} {g : List D → J → R (List (Str × D))} {O : Addr → Prop} {ρ : List Addr} {σ : L2.St} {Γ : Gm} {H : Hp} {j : J} {Q : VK} {vs : List V} {ds : List D} (S : Sok C O ρ σ H Γ j) (hv : DenA C.b ρ H (Bo O ρ j) vs ds) (q : Post C E O σ Γ ρ j H ((g ds j).bind fun fs j => .ok (.loc j.length) (j ++ [some (.ins c fs)])) fun d j' ρ' H' => ∀ v, Den C.b ρ' H' (Bo O ρ' j') v d → Q v H')
    {l dx : Addr} (hl : H l = none) (hdx : H dx = none) (nd : dx ≠ l) : spI C.b c g (.ref l :: vs) (upd (upd H dx (.own l)) l (.ins (C.b.cm c) dx [])) (fun v H2 => v = .non ∧ Q (.ref l) H2) (WE E σ) := by
  have x1 : Ext H (upd H dx (.own l)) := Ext.new hdx
  have hl1 : upd H dx (.own l) l = none := by rw [upd_ne nd.symm]; exact hl
  have S1 := S.ext x1
  have S2 := S1.more (o := .ins (C.b.cm c) dx []) hl1
  have nρ : l ∉ ρ := fun z => by obtain ⟨o, e⟩ := S.st.rtr l z; rw [hl] at e; cases e
  have nO : ¬ O l := fun z => by obtain ⟨o, e⟩ := S.st.trk l z; rw [hl] at e; cases e
  have ee : er (upd (upd H dx (.own l)) l (.ins (C.b.cm c) dx [])) l = upd H dx (.own l) := by
    funext b
    by_cases z : b = l
    · rw [z, er_self, hl1]
    · rw [er_ne z, upd_ne z]
  have st : Step ρ (Bo O ρ j) H ρ (Bo (fun a => O a ∨ a = l) ρ j) (upd (upd H dx (.own l)) l (.ins (C.b.cm c) dx [])) := ⟨(x1.trans (Ext.new hl1)).pres, fun a z => by
    rcases z with (z | z) | z
    · exact .inl (.inl z)
    · rw [z]; exact .inr hl
    · exact .inl (.inr z), Pfx.refl⟩
  refine ⟨fun a => O a ∨ a = l, ρ, j, l, dx, vs, ds, rfl, upd_same, nρ, .inr rfl, S2.st, st.denA hv, ?_⟩
  rw [ee]
  revert q
  generalize g ds j = r
  intro q
  cases r with
  | bad => exact q
  | ok fs j' =>
    intro ρ' H' dx' us k s' n ho hf
    have k' := S.kpt x1.keep k
    have nl : l ∉ ρ' := n
    have s0 : Sto C.b O ρ' (rem H' l) j' := s'.rem nO n ho ⟨nt_ins, fun _ z => by cases z⟩
    have k0 : Kp ρ j H ρ' j' (rem H' l) := ⟨fun a o nn t e => by rw [rem_ne (ne_of_none e hl)]; exact k'.keep a o nn t e, fun a ps e => by rw [rem_ne (ne_of_none e hl)]; exact k'.tbl a ps e, k'.grow, k'.frs, k'.pfx⟩
    have x3 : Ext (rem H' l) H' := fun a o e => by
      by_cases z : a = l
      · rw [z, rem_same] at e; cases e
      · rw [rem_ne z] at e; exact e
    have P : Pres (Bo (fun a => O a ∨ a = l) ρ' j') H' (rem H' l) := ⟨fun a o n _ e => by rw [rem_ne (fun z => n (.inl (.inr z)))]; exact e, fun a ps e => ⟨ps, by rw [rem_ne (fun z => by rw [z, ho] at e; cases e)]; exact e⟩⟩
    obtain ⟨s5, k5⟩ := s0.push rem_same x3 ⟨_, ho⟩ (d := .ins c fs) fun ρ2 B2 f => ⟨dx', us, ho, hf.map fun v d z => f v d ((z.mono P Pfx.refl).less fun b w => .inl (w.imp .inl id))⟩
    exact ⟨rfl, q _ _ (Kp.trans S.st.rtr k0 k5) ((S.keep k0 s0).keep k5 s5) _ (.loc (by rw [← s0.rl, List.getElem?_append_right (Nat.le_refl _), Nat.sub_self]; rfl))⟩
  | exc n fs j' =>
    intro x us ρ' H' k s' hx hn hf
    have k' := S.kpt x1.keep k
    have ne : ∀ a, O a → (O a ∨ a = l) ∧ a ≠ l := fun a z => ⟨.inl z, fun w => nO (w ▸ z)⟩
    exact q x us ρ' H' k' (S.keep k' (s'.less ne)) hx (fun z => hn (z.imp (ne x) id)) (hf.less fun a z => .inl (z.imp (ne a) id))
theorem ml_make {c : Nat} {g : List D → J → R (List (Str × D))} (tk : Takes X E) (M : Mk X.K (C.b.cm c) f) (G : FnG X.prog X.w X.K X.mg X.base (L2.CX X.prog X.w) k f fd ps (spI C.b c g)) (hr : Room (k + 1) X.A) (hgd : X.A.guards = some []) (hg : Gl X x) (hm : X.mg x = some (.ref (C.b.cm c))) (hb : Binds X.K fd ps [])
    (ha : MA C E X (e :: es) mr) (hdb : (x == ("__debug__" : Str)) = false := by decide) (he : starEach (e :: es) X.env = (false, eval e X.env) :: starEach es X.env := by rfl) (hpl : (backTo pos (starEach es X.env)).any (·.1) = false := by rfl) :
    ME C E X (.Call (.Name x p) (e :: es) [] pos) (mMakeL c g mr) :=
  PE.imp (pe_makeS (E := WE E) M G hr hgd hg hm hb (fun σ => passAt tk σ) ha hdb he hpl) fun σ H Q ⟨O, ρ, Γ, j, S, h⟩ => ⟨O, ρ, Γ, j, S, Post.imp (Post.bind S h) fun ds j1 ρ1 H1 k1 S1 q vs hv l dx hl hdx nd => spI_ofL S1 hv q hl hdx nd⟩
theorem ml_gmake (tk : Takes X E) (G : Gi X.prog X.w C.b X.mg X.base k x c (spI C.b c gi)) (hK : X.K = C.b.K) (hr : Room (k + 1) X.A) (hgd : X.A.guards = some []) (hg : Gl X x) (ha : MA C E X (e :: es) ma) (hdb : (x == ("__debug__" : Str)) = false := by decide)
    (he : starEach (e :: es) X.env = (false, eval e X.env) :: starEach es X.env := by rfl) (hpl : (backTo pos (starEach es X.env)).any (·.1) = false := by rfl) : ME C E X (.Call (.Name x p) (e :: es) [] pos) (mMakeL c gi ma) := by
  obtain ⟨f, fd, ps, F, hm, hk, hb⟩ := G.ex
  rw [← hK] at F hk hb
  exact ml_make tk hk F hr hgd hg hm hb ha hdb he hpl
end
section
variable {C : Ct} {E : WX} {X : Cx} {e : Expr} {es : List Expr} {kws : List Keyword} {me : Gm → J → R D} {mr mk : Gm → J → R (List D)} {pos p kpos : Pos} {k n c : Nat} {x : Str} {ks : List Str} {nm : Option Str} {gD : List D → List D → List D} {gi : List D → J → R (List (Str × D))}
theorem makeK_auxL {gV : List V → List V → List V} {m : Nat} (A : ArrD C.b n m gV gD) {O : Addr → Prop} {ρ : List Addr} {σ : L2.St} {Γ : Gm} {H : Hp} {j : J} {Q : VK} {vs zs : List V} {ds es : List D} (S : Sok C O ρ σ H Γ j) (h1 : DenA C.b ρ H (Bo O ρ j) vs ds) (h2 : DenA C.b ρ H (Bo O ρ j) zs es)
    (q : Post C E O σ Γ ρ j H ((if ds.length = n ∧ es.length = m then (.ok (gD ds es) j : R (List D)) else .bad).bind fun ds j => (gi ds j).bind fun fs j => .ok (.loc j.length) (j ++ [some (.ins c fs)])) fun d j' ρ' H' => ∀ v, Den C.b ρ' H' (Bo O ρ' j') v d → Q v H') :
    vs.length = n ∧ zs.length = m ∧ ∀ x dx, H x = none → H dx = none → dx ≠ x → spI C.b c gi (gV (.ref x :: vs) zs) (upd (upd H dx (.own x)) x (.ins (C.b.cm c) dx [])) (fun v H3 => v = .non ∧ Q (.ref x) H3) (WE E σ) := by
  by_cases hl : ds.length = n ∧ es.length = m
  · rw [if_pos hl] at q
    have l1 : vs.length = n := by rw [h1.length]; exact hl.1
    have l2 : zs.length = m := by rw [h2.length]; exact hl.2
    refine ⟨l1, l2, fun x dx hx hdx nd => ?_⟩
    obtain ⟨ws, e, r⟩ := A.go (.ref x) ρ H (Bo O ρ j) vs zs ds es h1 h2 l1 l2
    rw [e]
    exact spI_ofL S r q hx hdx nd
  · rw [if_neg hl] at q
    exact q.elim
theorem ml_gmakeK {m : Nat} (tk : Takes X E) (G : GiK X.prog X.w C.b X.mg X.base k x c n ks gD (spI C.b c gi)) (hK : X.K = C.b.K) (hr : Room (k + 1) X.A) (hgd : X.A.guards = some []) (hg : Gl X x) (ha : MA C E X (e :: es) mr) (hkw : MK C E X kws mk)
    (hall : (backToKw pos (keywordEach kws X.env)).all (·.1.isSome) = true := by rfl) (hks : (backToKw pos (keywordEach kws X.env)).filterMap (·.1) = ks := by rfl) (hdb : (x == ("__debug__" : Str)) = false := by decide)
    (he : starEach (e :: es) X.env = (false, eval e X.env) :: starEach es X.env := by rfl) (hpl : ((backTo pos (starEach (e :: es) X.env)).any (·.1) || (backToKw pos (keywordEach kws X.env)).any (·.1.isNone)) = false := by rfl) (hml : ks.length = m := by rfl) :
    ME C E X (.Call (.Name x p) (e :: es) kws pos) (mMakeL c gi (mArr n m gD mr mk)) := by
  subst hml
  obtain ⟨f, fd, ps, g, gV, F, hm, hmk, hb, A⟩ := G.ex
  rw [← hK] at F hmk hb
  refine PE.imp (pe_makeKS (E := WE E) hmk F hr hgd hg hm hb (fun σ => passAt tk σ) ha hkw hall hks hdb he hpl) fun σ H Q ⟨O, ρ, Γ, j, S, h⟩ => ⟨O, ρ, Γ, j, S, ?_⟩
  have h : Post C E O σ Γ ρ j H ((mr Γ j).bind fun ds j => (mk Γ j).bind fun es j => ((if ds.length = n ∧ es.length = ks.length then (.ok (gD ds es) j : R (List D)) else .bad).bind fun ds j => (gi ds j).bind fun fs j => .ok (D.loc j.length) (j ++ [some (D.ins c fs)]))) (fun d j' ρ' H' => ∀ v, Den C.b ρ' H' (Bo O ρ' j') v d → Q v H') := by
    have e : mMakeL c gi (mArr n ks.length gD mr mk) Γ j = ((mr Γ j).bind fun ds j => (mk Γ j).bind fun es j => ((if ds.length = n ∧ es.length = ks.length then (.ok (gD ds es) j : R (List D)) else .bad).bind fun ds j => (gi ds j).bind fun fs j => .ok (D.loc j.length) (j ++ [some (D.ins c fs)]))) := by
      unfold mMakeL mArr
      cases mr Γ j with
      | ok ds j1 =>
        show ((mk Γ j1).bind _).bind _ = (mk Γ j1).bind _
        cases mk Γ j1 <;> rfl
      | exc _ _ _ => rfl
      | bad => rfl
    rw [← e]
    exact h
  exact Post.imp (Post.bind S h) fun ds j1 ρ1 H1 k1 S1 q vs hv => ⟨O, ρ1, Γ, j1, S1, Post.imp (Post.bind S1 q) fun es j2 ρ2 H2 k2 S2 q2 zs hz => makeK_auxL A S2 ((k2.step O).denA hv) hz q2⟩
theorem ml_gmakeK0 {m : Nat} (tk : Takes X E) (G : GiK X.prog X.w C.b X.mg X.base k x c 0 ks gD (spI C.b c gi)) (hK : X.K = C.b.K) (hr : Room (k + 1) X.A) (hgd : X.A.guards = some []) (hg : Gl X x) (hkw : MK C E X kws mk)
    (hall : (backToKw pos (keywordEach kws X.env)).all (·.1.isSome) = true := by rfl) (hks : (backToKw pos (keywordEach kws X.env)).filterMap (·.1) = ks := by rfl) (hdb : (x == ("__debug__" : Str)) = false := by decide)
    (hpl : ((backTo pos (starEach [] X.env)).any (·.1) || (backToKw pos (keywordEach kws X.env)).any (·.1.isNone)) = false := by rfl) (hml : ks.length = m := by rfl) :
    ME C E X (.Call (.Name x p) [] kws pos) (mMakeL c gi (mArr 0 m gD mNil mk)) := by
  subst hml
  obtain ⟨f, fd, ps, g, gV, F, hm, hmk, hb, A⟩ := G.ex
  rw [← hK] at F hmk hb
  refine PE.imp (pe_makeKS0 (E := WE E) hmk F hr hgd hg hm hb (fun σ => passAt tk σ) hkw hall hks hdb hpl) fun σ H Q ⟨O, ρ, Γ, j, S, h⟩ => ?_
  have h : Post C E O σ Γ ρ j H ((mk Γ j).bind fun es j => ((if ([] : List D).length = 0 ∧ es.length = ks.length then (.ok (gD [] es) j : R (List D)) else .bad).bind fun ds j => (gi ds j).bind fun fs j => .ok (D.loc j.length) (j ++ [some (D.ins c fs)]))) (fun d j' ρ' H' => ∀ v, Den C.b ρ' H' (Bo O ρ' j') v d → Q v H') := by
    have e : mMakeL c gi (mArr 0 ks.length gD mNil mk) Γ j = ((mk Γ j).bind fun es j => ((if ([] : List D).length = 0 ∧ es.length = ks.length then (.ok (gD [] es) j : R (List D)) else .bad).bind fun ds j => (gi ds j).bind fun fs j => .ok (D.loc j.length) (j ++ [some (D.ins c fs)]))) := by
      show ((mk Γ j).bind _).bind _ = (mk Γ j).bind _
      cases mk Γ j <;> rfl
    rw [← e]
    exact h
  exact ⟨O, ρ, Γ, j, S, Post.imp (Post.bind S h) fun es j2 ρ2 H2 k2 S2 q2 zs hz => makeK_auxL A S2 .nil hz q2⟩
end
/-! ### x == [] -/
def eqE : D → D → Option Bool
  | .lst ds, .lst [] => some ds.isEmpty
  | _, _ => none
def rEqE (K : PySem.W.Frag) : R2 := fun x y H Q => ∃ a b xs, x = .ref a ∧ y = .ref b ∧ SqL K H a xs ∧ SqL K H b [] ∧ Q (.bl xs.isEmpty) H
theorem op_eqE {X : Cx} (hu : X.A.units + 64 < cLine) : OpR X (compareOp .Eq) (rEqE X.K) := fun pins s σ H x y v u Q I rx ry ⟨a, b, xs, e1, e2, h1, h2, q⟩ => by
  subst e1 e2
  cases rx
  cases ry
  obtain ⟨its, rv, p, _⟩ := I.list h1
  obtain ⟨its', rv', p', _⟩ := I.list h2
  cases rv'
  cases rv with
  | nil => exact SeqAt.eq_listAt (e := fun _ => true) p.isList p'.isList rfl (by omega) (fun j j1 => absurd j1 (by simp)) ⟨.bl true, H, I, rfl, q⟩
  | cons _ _ => exact SeqAt.eq_list_lengthsAt p.isList p'.isList (by simp) (by omega) ⟨.bl false, H, I, rfl, q⟩
theorem od_eqE {c : Cb} : OpD c (rEqE c.K) (obl eqE) := fun ρ B H x y d e z Q ht hx hy hz k => by
  unfold obl eqE at hz
  split at hz
  · rename_i ds
    cases hz
    obtain ⟨a, xs, rfl, hs, r⟩ := hx.lstSq
    obtain ⟨a', xs', rfl, hs', r'⟩ := hy.lstSq
    cases r'
    exact ⟨a, a', xs, rfl, rfl, hs, hs', by rw [r.isEmpty]; exact k _ H Ext.refl (.bl _)⟩
  · cases hz
end On

set_option Elab.async false
set_option linter.all false
set_option maxRecDepth 100000
set_option maxHeartbeats 2000000
set_option autoImplicit false
namespace On
open PySem PySem.Spec PyProof.Rows L2
/-! ### a list comprehension's list is a new thing -/
section
variable {C : Ct} {E : WX} {X : Cx}
theorem lc_readN {ts vs : List Nat} {mi : Gm → J → R (List D)} {g : J → D → Gm → Option Gm} {mt : Gm → J → R Bool} {me : Gm → J → R D} (hts : ∀ k ∈ ts, k ∈ vs) {σ : L2.St} {H : Hp} {Q : VK}
    (h0 : St0 C E (mLc mi g mt me vs) σ H (KNew C Q)) :
    tLc (fun σ H Rr => St0 C E mi σ H fun O ds j' ρ' H' => ∀ I P, Yl C P I ds → P ρ' (Bo O ρ' j') H' → Rr I H')
      (fun v σ H Q => ∃ O ρ Γ j d Γ', Sok C O ρ σ H Γ j ∧ Den C.b ρ H (Bo O ρ j) v d ∧ g j d Γ = some Γ' ∧ ∀ σ', Off ts σ σ' → Sok C O ρ σ' H Γ' j → Q σ' H)
      (fun σ H Q => St0 C EN mt σ H fun _ b _ _ H' => Q b H')
      (fun σ H Q => St0 C EN me σ H fun O d j' ρ' H' => ∀ v, Den C.b ρ' H' (Bo O ρ' j') v d → Q v H') vs σ H Q := by
  obtain ⟨O, ρ, Γ, j, S, h⟩ := h0
  refine ⟨O, ρ, Γ, j, S, Post.imp (Post.bind S h) fun ds j1 ρ1 H1 k1 S1 q I P Y hP => ?_⟩
  intro L hL
  obtain ⟨hlen, q⟩ := Post.ite q
  have nρ : L ∉ ρ1 := fun z => by obtain ⟨o, e⟩ := S1.st.rtr L z; rw [hL] at e; cases e
  let O' : Addr → Prop := fun a => O a ∨ a = L
  have hO : ∀ a, O a → O' a := fun a z => .inl z
  have hN : ∀ a, O' a → O a ∨ H1 a = none := fun a z => z.imp id fun e => by rw [e]; exact hL
  have x0 : Ext H1 (upd H1 L (.lst [])) := Ext.new hL
  have s0 : Sto C.b O' ρ1 (upd H1 L (.lst [])) j1 := (S1.more (o := .lst []) hL).st
  have q0 : Post C E O σ Γ ρ1 j1 H1 ((lcMap g mt me (wipeG Γ vs) (ds.drop 0) j1).bind fun fs j => .ok (.lst (([] : List D) ++ fs)) j) (KNew C Q O) := q
  let W : Nat → Hp → Prop := fun i H2 => ∃ (ρ2 : List Addr) (j2 : J) (acc : List V) (es : List D), Kp ρ1 j1 H1 ρ2 j2 H2 ∧ Sto C.b O' ρ2 H2 j2 ∧ L ∉ ρ2 ∧ H2 L = some (.lst acc) ∧ acc.length ≤ i ∧ DenA C.b ρ2 H2 (Bo O' ρ2 j2) acc es ∧ P ρ2 (Bo O' ρ2 j2) H2 ∧
      Post C E O σ Γ ρ1 j1 H1 ((lcMap g mt me (wipeG Γ vs) (ds.drop i) j2).bind fun fs j => .ok (.lst (es ++ fs)) j) (KNew C Q O)
  refine ⟨fun i m H2 => m = ds.length - i ∧ i ≤ ds.length ∧ W i H2, ⟨ds.length, by simp, Nat.zero_le _, ρ1, j1, [], [], x0.keep, s0, nρ, upd_same, Nat.le_refl _, .nil, Y.stay _ _ _ _ _ _ ((Ext.keep x0).stepO hN) hP, q0⟩, ?_⟩
  rintro i m H2 ⟨rfl, hi, ρ2, j2, acc, es, k2, s2, n2, hl2, hacc, r2, hP2, q2⟩
  by_cases hlt : i < ds.length
  · refine .inr ⟨Y.go i _ _ H2 hP2 hlt, fun H3 => i + 1 ≤ ds.length ∧ W (i + 1) H3, fun H3 z => ⟨ds.length - (i + 1), by omega, rfl, z.1, z.2⟩, fun x H3 y => ?_⟩
    have S2 : Sok C O' ρ2 (wipe σ vs) H2 (wipeG Γ vs) j2 := (S1.wiped vs).keepO k2 hO hN s2
    obtain ⟨x3, d3⟩ := Y.yld i ρ2 _ H2 x H3 _ hP2 S2.trkB (List.getElem?_eq_getElem hlt) y
    rw [drop_get hlt] at q2
    unfold lcMap at q2
    cases e1 : g j2 ds[i] (wipeG Γ vs) with
    | none => rw [e1] at q2; exact q2.elim
    | some Γ3 =>
      rw [e1] at q2
      dsimp only at q2
      refine ⟨O', ρ2, wipeG Γ vs, j2, ds[i], Γ3, S2.ext x3, d3, e1, fun σ3 o3 S3 => ⟨?_, O', ρ2, Γ3, j2, S3, ?_⟩⟩
      · exact (wipe_off vs (o3.more hts)).trans (by rw [wipe_off vs]; exact ⟨wipe_length _ _, fun k hk => wipe_out hk⟩)
      · have k3 : Kp ρ1 j1 H1 ρ2 j2 H3 := S1.kpt k2 x3.keep
        have hl3 : H3 L = some (.lst acc) := x3 _ _ hl2
        have P3 : P ρ2 (Bo O' ρ2 j2) H3 := Y.stay _ _ _ _ _ _ ((Ext.keep x3).step O') hP2
        have r3 := ((Ext.keep x3).step O').denA r2
        -- the test
        revert q2
        generalize mt Γ3 j2 = rt
        intro q2
        cases rt with
        | exc c fs j3 => exact q2.elim
        | bad => exact q2.elim
        | ok b j4 =>
          refine fun ρ4 H4 k4 S4 => ?_
          have n4 : L ∉ ρ4 := fun z => (k4.frs L z).elim n2 fun e => by rw [hl3] at e; cases e
          have l4 : H4 L = some (.lst acc) := k4.keep _ _ (fun z => n2 z.mem) nt_lst hl3
          have P4 : P ρ4 (Bo O' ρ4 j4) H4 := Y.stay _ _ _ _ _ _ (k4.step O') P3
          have r4 := (k4.step O').denA r3
          have K4 := S1.kpt k3 k4
          cases b with
          | false => exact iteF ⟨hlt, ρ4, j4, acc, es, K4, S4.st, n4, l4, Nat.le_succ_of_le hacc, r4, P4, q2⟩
          | true =>
            refine iteT ⟨O', ρ4, Γ3, j4, S4, ?_⟩
            have q2 : Post C E O σ Γ ρ1 j1 H1 (((me Γ3 j4).nox.bind fun e j => (lcMap g mt me (wipeG Γ vs) (ds.drop (i + 1)) j).bind fun es j => .ok (e :: es) j).bind fun fs j => .ok (.lst (es ++ fs)) j) (KNew C Q O) := q2
            revert q2
            generalize me Γ3 j4 = re
            intro q2
            cases re with
            | exc c fs j5 => exact q2.elim
            | bad => exact q2.elim
            | ok e j5 =>
              refine fun ρ5 H5 k5 S5 v hv => ?_
              have n5 : L ∉ ρ5 := fun z => (k5.frs L z).elim n4 fun e => by rw [l4] at e; cases e
              have l5 : H5 L = some (.lst acc) := k5.keep _ _ (fun z => n4 z.mem) nt_lst l4
              have K5 := S1.kpt K4 k5
              have kL : Step ρ5 (Bo O' ρ5 j5) H5 ρ5 (Bo O' ρ5 j5) (upd H5 L (.lst (acc ++ [v]))) := ⟨Pres.at (.inl (.inr rfl)) l5 nt_lst, fun _ z => .inl z, Pfx.refl⟩
              refine ⟨acc, l5, Nat.lt_of_le_of_lt hacc (Nat.lt_of_lt_of_le hlt (sz5 hlen)), hlt, ρ5, j5, acc ++ [v], es ++ [e], ?_, S5.st.write (.inr rfl) n5 l5 ⟨nt_lst, fun _ z => by cases z⟩, n5, upd_same, by simpa using hacc, ?_, ?_, ?_⟩
              · exact ⟨fun a o n t ea => by rw [upd_ne (ne_of_none ea hL)]; exact K5.keep a o n t ea, fun a ps ea => by rw [upd_ne (ne_of_none ea hL)]; exact K5.tbl a ps ea, K5.grow, K5.frs, K5.pfx⟩
              · exact (kL.denA ((k5.step O').denA r4)).append (.cons (kL.den hv) .nil)
              · exact Y.stay _ _ _ _ _ _ kL (Y.stay _ _ _ _ _ _ (k5.step O') P4)
              · have q3 : Post C E O σ Γ ρ1 j1 H1 (((lcMap g mt me (wipeG Γ vs) (ds.drop (i + 1)) j5).bind fun es j => .ok (e :: es) j).bind fun fs j => .ok (.lst (es ++ fs)) j) (KNew C Q O) := q2
                revert q3
                generalize lcMap g mt me (wipeG Γ vs) (ds.drop (i + 1)) j5 = rr
                intro q3
                cases rr with
                | ok fs j5 => simpa [R.bind] using q3
                | exc c fs j5 => exact q3
                | bad => exact q3
  · have e : i = ds.length := by omega
    subst e
    rw [List.drop_length] at q2
    refine .inl ⟨Y.stop _ _ _ H2 hP2 (Nat.le_refl _), ?_⟩
    have q3 : Post C E O σ Γ ρ1 j1 H1 (.ok (.lst (es ++ [])) j2) (KNew C Q O) := q2
    rw [List.append_nil] at q3
    have nO : ¬ O L := fun z => by obtain ⟨o, e⟩ := S1.st.trk L z; rw [hL] at e; cases e
    have kk : Kp ρ1 j1 H1 ρ2 j2 (rem H2 L) := ⟨fun a o n t ea => by rw [rem_ne (ne_of_none ea hL)]; exact k2.keep a o n t ea, fun a ps ea => by rw [rem_ne (ne_of_none ea hL)]; exact k2.tbl a ps ea, k2.grow, k2.frs, k2.pfx⟩
    have s3 : Sto C.b O ρ2 (rem H2 L) j2 := s2.rem nO n2 hl2 ⟨nt_lst, fun _ z => by cases z⟩
    have P : Pres (Bo O' ρ2 j2) H2 (rem H2 L) := ⟨fun a o n _ e => by rw [rem_ne (fun z => n (.inl (.inr z)))]; exact e, fun a ps e => ⟨ps, by rw [rem_ne (fun z => by rw [z, hl2] at e; cases e)]; exact e⟩⟩
    have q4 := q3 ρ2 (rem H2 L) kk (S1.keep kk s3) L (.lst acc) rem_same (fun _ _ z => by cases z) fun ρ3 B3 f => ⟨acc, upd_same, r2.map fun v d z => f v d ((z.mono P Pfx.refl).less fun b w => .inl (w.imp .inl id))⟩
    rw [upd_rem, upd_self hl2] at q4
    exact q4
variable {C : Ct} {E : WX} {X : Cx} {elt tg iter : Expr} {ifs : List Expr} {scope : Scope} {own : List (Str × Nat)} {pos : Pos} {ts : List Nat} {mi : Gm → J → R (List D)} {g : J → D → Gm → Option Gm} {mt : Gm → J → R Bool} {me : Gm → J → R D}
theorem mn_lc (hc : X.calm = true) (hN : X.N.Nodup) (hi : MI C E X tg iter mi) (ok : BlkOk X.N X.env.scope scope own)
    (hg : ∀ (s : Shared) (H : Hp) (A : Addr) (cl : List (Str × Addr)) (fp : List Addr), MG C (X.blk s H scope (compEnvC scope cl A X.env) fp) tg ts g)
    (ht : ∀ (s : Shared) (H : Hp) (A : Addr) (cl : List (Str × Addr)) (fp : List Addr), MTs C EN (X.blk s H scope (compEnvC scope cl A X.env) fp) ifs mt)
    (he : ∀ (s : Shared) (H : Hp) (A : Addr) (cl : List (Str × Addr)) (fp : List Addr), ME C EN (X.blk s H scope (compEnvC scope cl A X.env) fp) elt me)
    (hts : ∀ k ∈ ts, k ∈ own.map (·.2)) (hs : ∀ x, foldedSetIterable iter X.env x = pure x := by intro _; rfl) :
    MN C E X (.ListComp elt [⟨tg, iter, ifs, 0⟩] scope pos) (mLc mi g mt me (own.map (·.2))) :=
  PE.imp (pe_lc hc hN hi ok hg ht he hs) fun σ H Q h => lc_readN hts h
theorem ms_ownLc {i : Nat} {y : Str} {py spos : Pos} (hc : X.calm = true) (hN : X.N.Nodup) (hy : X.N[i]? = some y) (hyl : X.env.scope.names.lookup y = some .local)
    (hsw : swapsWith (.ListComp elt [⟨tg, iter, ifs, 0⟩] scope pos) (some (.Name y py)) spos.line X.env = pure true) (hi : MI C E X tg iter mi) (ok : BlkOk X.N X.env.scope scope own)
    (hg : ∀ (s : Shared) (H : Hp) (A : Addr) (cl : List (Str × Addr)) (fp : List Addr), MG C (X.blk s H scope (compEnvC scope cl A X.env) fp) tg ts g)
    (ht : ∀ (s : Shared) (H : Hp) (A : Addr) (cl : List (Str × Addr)) (fp : List Addr), MTs C EN (X.blk s H scope (compEnvC scope cl A X.env) fp) ifs mt)
    (he : ∀ (s : Shared) (H : Hp) (A : Addr) (cl : List (Str × Addr)) (fp : List Addr), ME C EN (X.blk s H scope (compEnvC scope cl A X.env) fp) elt me)
    (hts : ∀ k ∈ ts, k ∈ own.map (·.2)) (hs : ∀ x, foldedSetIterable iter X.env x = pure x := by intro _; rfl) :
    MS C E X (.Assign [.Name y py] (.ListComp elt [⟨tg, iter, ifs, 0⟩] scope pos) spos) (sOwnN i (mLc mi g mt me (own.map (·.2)))) :=
  PS.imp (ps_setLc hc hN hy hyl hsw hi ok hg ht he hs) fun Dn σ H ⟨O, ρ, Γ, j, S, h⟩ =>
    lc_readN hts ⟨O, ρ, Γ, j, S, Post.imp (PostS.of S h) fun d j1 ρ1 H1 k1 S1 q p o hp hd hc => by
      obtain ⟨st, S2⟩ := S1.own (i := i) (d := d) hp (fun f => hc _ _ f) hd
      exact q _ _ _ _ st S2⟩
end
/-! ### the lock of a thing of the store, for a walk over it -/
end On

set_option Elab.async false
set_option linter.all false
set_option maxRecDepth 100000
set_option maxHeartbeats 2000000
set_option autoImplicit false
namespace On
open PySem PySem.Spec PyProof.Rows L2
/-! ### what holds behind a mirror -/
def R.wp {α : Type} (r : R α) (P : α → J → Prop) (X : Nat → List (Str × D) → J → Prop) : Prop := match r with
  | .ok a j => P a j
  | .exc c fs j => X c fs j
  | .bad => False
structure Wt where
  nx : Gm → J → Prop
  ret : D → J → Prop
  brk : Gm → J → Prop
  cont : Gm → J → Prop
  exc : Nat → List (Str × D) → Gm → J → Prop
def RS.wp (r : RS) (W : Wt) : Prop := match r with
  | .nx Γ j => W.nx Γ j
  | .ret d j => W.ret d j
  | .brk Γ j => W.brk Γ j
  | .cont Γ j => W.cont Γ j
  | .exc c fs Γ j => W.exc c fs Γ j
  | .bad => False
abbrev X0 : Nat → List (Str × D) → J → Prop := fun _ _ _ => False
section
variable {α β : Type} {P : α → J → Prop} {X : Nat → List (Str × D) → J → Prop} {W : Wt} {Γ : Gm} {j : J}
theorem R.wp_mono {r : R α} {P' : α → J → Prop} {X' : Nat → List (Str × D) → J → Prop} (h : r.wp P X) (k : ∀ a j, P a j → P' a j) (kx : ∀ c fs j, X c fs j → X' c fs j) : r.wp P' X' := by
  cases r with
  | ok a j => exact k a j h
  | exc c fs j => exact kx c fs j h
  | bad => exact h
theorem R.wp_imp {r : R α} {P' : α → J → Prop} (h : r.wp P X0) (k : ∀ a j, P a j → P' a j) : r.wp P' X := R.wp_mono h k fun _ _ _ z => z.elim
theorem R.wp_ok {r : R α} (h : r.wp P X0) : ∃ a j, r = .ok a j ∧ P a j := by
  cases r with
  | ok a j => exact ⟨a, j, rfl, h⟩
  | exc c fs j => exact h.elim
  | bad => exact h.elim
@[simp] theorem wp_okv {a : α} : (R.ok a j).wp P X = P a j := rfl
@[simp] theorem wp_bad : (R.bad : R α).wp P X = False := rfl
@[simp] theorem wp_exc {c : Nat} {fs : List (Str × D)} : (R.exc c fs j : R α).wp P X = X c fs j := rfl
@[simp] theorem wp_bind {r : R α} {f : α → J → R β} {P : β → J → Prop} : (r.bind f).wp P X = r.wp (fun a j => (f a j).wp P X) X := by cases r <;> rfl
@[simp] theorem wp_lift {o : Option α} : (lift o j).wp P X = (match o with | some a => P a j | none => False) := by cases o <;> rfl
@[simp] theorem wpS_nx : (RS.nx Γ j).wp W = W.nx Γ j := rfl
@[simp] theorem wpS_ret {d : D} : (RS.ret d j).wp W = W.ret d j := rfl
@[simp] theorem wpS_brk : (RS.brk Γ j).wp W = W.brk Γ j := rfl
@[simp] theorem wpS_cont : (RS.cont Γ j).wp W = W.cont Γ j := rfl
@[simp] theorem wpS_exc {c : Nat} {fs : List (Str × D)} : (RS.exc c fs Γ j).wp W = W.exc c fs Γ j := rfl
@[simp] theorem wpS_bad : RS.bad.wp W = False := rfl
@[simp] theorem wpS_bindS {r : R α} {f : α → J → RS} : (r.bindS Γ f).wp W = r.wp (fun a j => (f a j).wp W) (fun c fs j => W.exc c fs Γ j) := by cases r <;> rfl
@[simp] theorem wpS_seq {r : RS} {f : Gm → J → RS} : (r.bindS f).wp W = r.wp { W with nx := fun Γ j => (f Γ j).wp W } := by cases r <;> rfl
@[simp] theorem wp_outF {r : RS} {P : D → J → Prop} : (outF r).wp P X = r.wp ⟨fun _ j => P .non j, P, fun _ _ => False, fun _ _ => False, fun c fs _ j => X c fs j⟩ := by cases r <;> rfl
@[simp] theorem wp_cond {b : Bool} {r s : R α} : (bif b then r else s).wp P X = (bif b then r.wp P X else s.wp P X) := by cases b <;> rfl
@[simp] theorem wpS_cond {b : Bool} {r s : RS} : (bif b then r else s).wp W = (bif b then r.wp W else s.wp W) := by cases b <;> rfl
@[simp] theorem wp_ite {c : Prop} [Decidable c] {r s : R α} : (if c then r else s).wp P X = (if c then r.wp P X else s.wp P X) := by split <;> rfl
@[simp] theorem wpS_ite {c : Prop} [Decidable c] {r s : RS} : (if c then r else s).wp W = (if c then r.wp W else s.wp W) := by split <;> rfl
theorem RS.wp_mono {r : RS} {W' : Wt} (h : r.wp W) (k1 : ∀ Γ j, W.nx Γ j → W'.nx Γ j) (k2 : ∀ d j, W.ret d j → W'.ret d j) (k3 : ∀ Γ j, W.brk Γ j → W'.brk Γ j) (k4 : ∀ Γ j, W.cont Γ j → W'.cont Γ j) (k5 : ∀ c fs Γ j, W.exc c fs Γ j → W'.exc c fs Γ j) : r.wp W' := by
  cases r with
  | nx Γ j => exact k1 _ _ h
  | ret d j => exact k2 _ _ h
  | brk Γ j => exact k3 _ _ h
  | cont Γ j => exact k4 _ _ h
  | exc c fs Γ j => exact k5 _ _ _ _ h
  | bad => exact h
end
/-! ### the combinators, opened -/
section
variable {Γ : Gm} {j : J} {i k : Nat} {ma mb mc me mo mk : Gm → J → R D} {mr : Gm → J → R (List D)} {ta tb : Gm → J → R Bool} {ms mt' : Gm → J → RS} {d : D}
@[simp] theorem x_defOf {N : List Str} {n : Nat} {m : Gm → J → RS} {ds : List D} : defOf N n m ds j = if ds.length = n then outF (m (startG N (ds.map .val)) j) else .bad := rfl
@[simp] theorem x_startG {N : List Str} {cs : List Cell} : startG N cs = cs.map some ++ List.replicate (N.length - cs.length) none := rfl
@[simp] theorem x_seq : sSeq ms mt' Γ j = (ms Γ j).bindS mt' := rfl
@[simp] theorem x_nil : sNil Γ j = .nx Γ j := rfl
@[simp] theorem x_ret : sRet me Γ j = (me Γ j).bindS Γ fun d j => .ret d j := rfl
@[simp] theorem x_retN : sRetN Γ j = .ret .non j := rfl
@[simp] theorem x_drop : sDrop me Γ j = (me Γ j).bindS Γ fun _ j => .nx Γ j := rfl
@[simp] theorem x_if : sIf ta ms mt' Γ j = (ta Γ j).bindS Γ fun b j => bif b then ms Γ j else mt' Γ j := rfl
@[simp] theorem x_set : sSet i me Γ j = (me Γ j).bindS Γ fun d j => .nx (Γ.set i (some (.val d))) j := rfl
@[simp] theorem x_var : mVar i Γ j = (match Γ[i]? with | some (some (.val d)) => .ok d j | _ => .bad) := rfl
@[simp] theorem x_C : mC d Γ j = .ok d j := rfl
@[simp] theorem x_m2 {f : D → D → Option D} : m2 f ma mb Γ j = (ma Γ j).bind fun d j => (mb Γ j).bind fun e j => lift (f (deref j d) (deref j e)) j := rfl
@[simp] theorem x_m1 {f : D → Option D} : m1 f ma Γ j = (ma Γ j).bind fun d j => lift (f (deref j d)) j := rfl
@[simp] theorem x_mB {f : List D → Option D} : mB f mr Γ j = (mr Γ j).bind fun ds j => lift (f (ds.map (deref j))) j := rfl
@[simp] theorem x_mNil : mNil Γ j = .ok [] j := rfl
@[simp] theorem x_mCons : mCons ma mr Γ j = (ma Γ j).bind fun d j => (mr Γ j).bind fun ds j => .ok (d :: ds) j := rfl
@[simp] theorem x_mTup : mTup mr Γ j = (mr Γ j).bind fun ds j => if ds.length ≤ 100000 then .ok (.tup ds) j else .bad := rfl
@[simp] theorem x_mLst : mLst mr Γ j = (mr Γ j).bind fun ds j => if ds.length ≤ 100000 then .ok (.lst ds) j else .bad := rfl
@[simp] theorem x_mLstM : mLstM mr Γ j = (mr Γ j).bind fun ds j => if ds.length ≤ 100000 then .ok (.loc j.length) (j ++ [some (.lst ds)]) else .bad := rfl
@[simp] theorem x_t2 {f : D → D → Option Bool} : t2 f ma mb Γ j = (ma Γ j).bind fun d j => (mb Γ j).bind fun e j => lift (f (deref j d) (deref j e)) j := rfl
@[simp] theorem x_tV : tV ma Γ j = (ma Γ j).bind fun d j => lift (truD (deref j d)) j := rfl
@[simp] theorem x_tNt : tNt ta Γ j = (ta Γ j).bind fun b j => .ok (!b) j := rfl
@[simp] theorem x_tAn : tAn ta tb Γ j = (ta Γ j).bind fun b j => bif b then tb Γ j else .ok false j := rfl
@[simp] theorem x_tOo : tOo ta tb Γ j = (ta Γ j).bind fun b j => bif b then .ok true j else tb Γ j := rfl
@[simp] theorem x_tT : tT Γ j = .ok true j := rfl
@[simp] theorem x_mIf : mIf ta ma mb Γ j = (ta Γ j).bind fun b j => bif b then ma Γ j else mb Γ j := rfl
@[simp] theorem x_mF {g : List D → J → R D} : mF g mr Γ j = (mr Γ j).bind fun ds j => g ds j := rfl
@[simp] theorem x_mNt : mNt ma Γ j = (ma Γ j).bind fun d j => lift ((truD (deref j d)).map fun b => .bl (!b)) j := rfl
@[simp] theorem x_par : sPar i k mr Γ j = (mr Γ j).bindS Γ fun ds j => (match ds with | [d, e] => .nx ((Γ.set i (some (.val d))).set k (some (.val e))) j | _ => .bad) := rfl
@[simp] theorem x_for {mi : Gm → J → R (List D)} {g : J → D → Gm → Option Gm} : sFor mi g ms Γ j = (mi Γ j).bindS Γ fun ds j => loopD g ms ds Γ j := rfl
@[simp] theorem x_iR {f : List D → Option (List D)} : iR f mr Γ j = (mr Γ j).bind fun ds j => lift (f ds) j := rfl
@[simp] theorem x_iS : iS me Γ j = (me Γ j).bind fun d j => lift (seqOf d) j := rfl
@[simp] theorem x_lc {mi : Gm → J → R (List D)} {g : J → D → Gm → Option Gm} {vs : List Nat} : mLc mi g ta me vs Γ j = (mi Γ j).bind fun ds j => if ds.length ≤ 100000 then (lcMap g ta me (wipeG Γ vs) ds j).bind fun es j => .ok (.lst es) j else .bad := rfl
@[simp] theorem x_put : sPut i mk me Γ j = (me Γ j).bindS Γ fun d j => (match conG i Γ j with
  | some _ => (mk Γ j).bindS Γ fun k j => (match conG i Γ j, k with
    | some (.lst ds), .int k => (match ixN ds.length k with
      | some n => muG i Γ j (.lst (ds.set n d))
      | none => .bad)
    | _, _ => .bad)
  | _ => .bad) := rfl
@[simp] theorem x_mX {c : Nat} : mX c me Γ j = (me Γ j).bind fun d j => .ok (.exn c [("value", d)]) j := rfl
@[simp] theorem x_mX2 {c : Nat} : mX2 c mr Γ j = (mr Γ j).bind fun ds j => (match ds with | [d, e] => .ok (.exn c [("why", e), ("value", d)]) j | _ => .bad) := rfl
@[simp] theorem x_own : sOwn i mr Γ j = (mr Γ j).bindS Γ fun ds j => if ds.length ≤ 100000 then .nx (Γ.set i (some (.own (.lst ds)))) j else .bad := rfl
@[simp] theorem x_cnt : mCnt mo me Γ j = (mo Γ j).bind fun d j => (match deref j d with
  | .lst _ => (me Γ j).bind fun e j => (match deref j d with
    | .lst ds => lift (cntD ds (deref j e)) j
    | _ => .bad)
  | _ => .bad) := rfl
@[simp] theorem x_dict0 : mDict0 Γ j = .ok (.dct []) j := rfl
@[simp] theorem de_int {i : Int} : deref j (.int i) = .int i := rfl
@[simp] theorem de_str {x : Str} : deref j (.str x) = .str x := rfl
@[simp] theorem de_bl {b : Bool} : deref j (.bl b) = .bl b := rfl
@[simp] theorem de_non : deref j .non = .non := rfl
@[simp] theorem de_lst {xs : List D} : deref j (.lst xs) = .lst xs := rfl
@[simp] theorem de_tup {xs : List D} : deref j (.tup xs) = .tup xs := rfl
@[simp] theorem de_frz {xs : List D} : deref j (.frz xs) = .frz xs := rfl
@[simp] theorem de_dct {xs : List (D × D)} : deref j (.dct xs) = .dct xs := rfl
@[simp] theorem de_ins {c : Nat} {xs : List (Str × D)} : deref j (.ins c xs) = .ins c xs := rfl
@[simp] theorem de_exn {c : Nat} {xs : List (Str × D)} : deref j (.exn c xs) = .exn c xs := rfl
theorem de_loc {n : Nat} {d : D} (h : j[n]? = some (some d)) : deref j (.loc n) = d := by unfold deref; simp only [h]
end
/-! ### operations -/
section
variable {i k : Int} {xs ys : List D} {x y : Str} {b c : Bool}
@[simp] theorem o_ixl : fIx (.lst xs) (.int i) = atI xs i := rfl
@[simp] theorem o_ixt : fIx (.tup xs) (.int i) = atI xs i := rfl
@[simp] theorem o_ixf : fIx (.frz xs) (.int i) = atI xs i := rfl
@[simp] theorem o_addi : fAdd (.int i) (.int k) = some (.int (i + k)) := rfl
@[simp] theorem o_adds : fAdd (.str x) (.str y) = if x.length + y.length ≤ 100000 then some (.str (x ++ y)) else none := rfl
@[simp] theorem o_addl : fAdd (.lst xs) (.lst ys) = if xs.length + ys.length ≤ 100000 then some (.lst (xs ++ ys)) else none := rfl
@[simp] theorem o_addt : fAdd (.tup xs) (.tup ys) = if xs.length + ys.length ≤ 100000 then some (.tup (xs ++ ys)) else none := rfl
@[simp] theorem o_sub : fSub (.int i) (.int k) = some (.int (i - k)) := rfl
@[simp] theorem o_neg : fNeg (.int i) = some (.int (-i)) := rfl
@[simp] theorem o_lt : fLt (.int i) (.int k) = some (decide (i < k)) := rfl
@[simp] theorem o_lts : fLt (.str x) (.str y) = some (ltS x y) := rfl
@[simp] theorem o_le : iCmp (fun i j => decide (i ≤ j)) (.int i) (.int k) = some (decide (i ≤ k)) := rfl
@[simp] theorem o_gt : iCmp (fun i j => decide (j < i)) (.int i) (.int k) = some (decide (k < i)) := rfl
@[simp] theorem o_ge : iCmp (fun i j => decide (j ≤ i)) (.int i) (.int k) = some (decide (k ≤ i)) := rfl
@[simp] theorem o_int : fInt [.int i] = some (.int i) := rfl
@[simp] theorem o_intb : fInt [.bl b] = some (.int (b2 b)) := rfl
@[simp] theorem o_abs : fAbs [.int i] = some (.int (if i < 0 then -i else i)) := rfl
@[simp] theorem o_max : fMax [.int i, .int k] = some (.int (if k > i then k else i)) := rfl
@[simp] theorem o_min : fMin [.int i, .int k] = some (.int (if k < i then k else i)) := rfl
@[simp] theorem o_lenl : fLen [.lst xs] = some (.int xs.length) := rfl
@[simp] theorem o_lent : fLen [.tup xs] = some (.int xs.length) := rfl
@[simp] theorem o_lenf : fLen [.frz xs] = some (.int xs.length) := rfl
@[simp] theorem o_tupl : fTuple [.lst xs] = some (.tup xs) := rfl
@[simp] theorem o_tupt : fTuple [.tup xs] = some (.tup xs) := rfl
@[simp] theorem o_listl : fList [.lst xs] = some (.lst xs) := rfl
@[simp] theorem o_listt : fList [.tup xs] = some (.lst xs) := rfl
@[simp] theorem o_trub : truD (.bl b) = some b := rfl
@[simp] theorem o_truN : truD .non = some false := rfl
@[simp] theorem o_obl {f : D → D → Option Bool} {d e : D} : obl f d e = (f d e).map .bl := rfl
@[simp] theorem o_eqi : eqD (.int i) (.int k) = some (decide (i = k)) := rfl
@[simp] theorem o_eqs : eqD (.str x) (.str y) = some (decide (x = y)) := rfl
@[simp] theorem o_nes : neD (.str x) (.str y) = some (!decide (x = y)) := rfl
@[simp] theorem o_nei : neD (.int i) (.int k) = some (!decide (i = k)) := rfl
@[simp] theorem o_eqN : eqD .non .non = some true := rfl
theorem fMul_l (h : -18446744073709551616 < i) (h2 : i < 18446744073709551616) : fMul (.int i) (.int k) = some (.int (i * k)) := by
  have e : CM i k = true := by simp [CM]; left; constructor <;> omega
  show (if CM i k = true then some (D.int (i * k)) else none) = _
  rw [if_pos e]
theorem fMul_r (h : -18446744073709551616 < k) (h2 : k < 18446744073709551616) : fMul (.int i) (.int k) = some (.int (i * k)) := by
  have e : CM i k = true := by simp [CM]; right; constructor <;> omega
  show (if CM i k = true then some (D.int (i * k)) else none) = _
  rw [if_pos e]
theorem fMod_p (h : 0 < k) : fMod (.int i) (.int k) = some (.int (i % k)) := by
  show (if 0 < k then some (D.int (i % k)) else none) = _
  rw [if_pos h]
theorem fDiv_p (h : 0 < k) (h2 : k < 18446744073709551616) : fDiv (.int i) (.int k) = some (.int (i / k)) := by
  have e : k.natAbs.log2 < 9000 := by
    rw [Nat.log2_lt (by omega)]
    exact Nat.lt_of_lt_of_le (show k.natAbs < 2 ^ 64 by omega) (Nat.pow_le_pow_right (by decide) (by decide))
  show (if 0 < k ∧ k.natAbs.log2 < 9000 then some (D.int (i / k)) else none) = _
  rw [if_pos ⟨h, e⟩]
theorem atI_nat {α : Type} {l : List α} {n : Nat} : atI l (n : Int) = l[n]? := by
  unfold atI ixN
  by_cases h : n < l.length
  · simp [h]
  · simp [h]
end
/-! ### jars -/
def jarD (a b c : Int) : D := .lst [.int a, .int b, .int c]
/-- a jar from which m things more may be drawn -/
def Jar (j : J) (n : Nat) (m : Nat) : Prop := ∃ a b c : Int, j[n]? = some (some (jarD a b c)) ∧ 0 ≤ a ∧ 0 ≤ b ∧ b < 2 ^ 62 ∧ 0 ≤ c ∧ c + m < 2 ^ 60
/-- all but the n-th thing of the store is kept -/
def Same (n : Nat) (j j' : J) : Prop := j'.length = j.length ∧ ∀ i : Nat, i ≠ n → j'[i]? = j[i]?
theorem Same.refl {n : Nat} {j : J} : Same n j j := ⟨rfl, fun _ _ => rfl⟩
theorem Same.trans {n : Nat} {j j1 j2 : J} (p : Same n j j1) (q : Same n j1 j2) : Same n j j2 := ⟨q.1.trans p.1, fun i h => (q.2 i h).trans (p.2 i h)⟩
theorem Same.set {n : Nat} {j : J} {o : Option D} : Same n j (j.set n o) := ⟨by simp, fun i h => List.getElem?_set_ne (Ne.symm h)⟩
theorem Jar.mono {j : J} {n m k : Nat} (h : Jar j n m) (l : k ≤ m) : Jar j n k := let ⟨a, b, c, h1, h2, h3, h4, h5, h6⟩ := h; ⟨a, b, c, h1, h2, h3, h4, h5, by omega⟩
end On

set_option Elab.async false
set_option linter.all false
set_option maxRecDepth 100000
set_option maxHeartbeats 2000000
set_option autoImplicit false
namespace On
open PySem PySem.Spec PyProof.Rows L2
def cb_jar : Gm → J → RS :=
  (sSeq (sSet 2 (mIf (t2 fLt (mVar 1) (mB fLen (mCons (mVar 0) mNil))) (m2 fIx (mVar 0) (mVar 1)) (m2 fAdd (m2 fMul (mC (.int 53)) (mVar 1)) (mC (.int 23))))) (sSeq (sSet 3 (m2 fMul (m2 fMod (mB fInt (mCons (mB fAbs (mCons (mVar 2) mNil)) mNil)) (m2 fPow (m2 fPow (mC (.int 10)) (mC (.int 60))) (mC (.int 5)))) (mB fInt (mCons (m2 (obl fGe) (mB fAbs (mCons (mVar 2) mNil)) (m2 fPow (mC (.int 10)) (mC (.int 18)))) mNil)))) (sSeq (sSet 4 (m2 fAdd (m2 fAdd (m2 fMul (m2 fMod (mB fInt (mCons (mVar 2) mNil)) (mC (.int 2305843009213693951))) (mC (.int 64879))) (m2 fMul (m2 fMul (mC (.int 7873)) (mVar 1)) (mVar 1))) (mC (.int 67)))) (sRet (mLstM (mCons (mVar 3) (mCons (m2 fMod (mB fInt (mCons (mVar 4) mNil)) (mC (.int 2305843009213693921))) (mCons (mC (.int 0)) mNil))))))))
def c_jar : List D → J → R D := defOf (["_law_script", "_law_k", "_law_cell", "_law_mine", "_law_more"] : List Str) 2 cb_jar
def cb_take : Gm → J → RS :=
  (sSeq (sIf (t2 fGt (m2 fIx (mVar 0) (mC (.int 0))) (mC (.int 0))) (sSeq (sSet 2 (m2 fMod (mB fInt (mCons (m2 fIx (mVar 0) (mC (.int 0))) mNil)) (mVar 1))) (sSeq (sPut 0 (mC (.int 0)) (m2 fDiv (m2 fIx (mVar 0) (mC (.int 0))) (mVar 1))) (sRet (mVar 2)))) sNil) (sSeq (sPut 0 (mC (.int 2)) (m2 fAdd (m2 fIx (mVar 0) (mC (.int 2))) (mC (.int 1)))) (sSeq (sSet 3 (m2 fMod (mB fInt (mCons (m2 fMul (m2 fAdd (m2 fAdd (m2 fIx (mVar 0) (mC (.int 1))) (m2 fMul (m2 fMul (mC (.int 65519)) (m2 fIx (mVar 0) (mC (.int 2)))) (m2 fIx (mVar 0) (mC (.int 2))))) (mC (.int 47))) (mC (.int 48271))) mNil)) (mC (.int 2305843009213693921)))) (sSeq (sSet 4 (m2 fAdd (m2 fMod (mB fInt (mCons (mVar 3) mNil)) (mC (.int 1000003))) (m2 fMul (mC (.int 99989)) (m2 fIx (mVar 0) (mC (.int 2)))))) (sSeq (sSet 3 (m2 fMod (mB fInt (mCons (m2 fMul (mVar 3) (mVar 4)) mNil)) (mC (.int 2305843009213693907)))) (sRet (m2 fMod (mB fInt (mCons (m2 fAdd (m2 fDiv (mVar 3) (mC (.int 127))) (m2 fDiv (mVar 3) (mC (.int 1000033)))) mNil)) (mVar 1))))))))
def c_take : List D → J → R D := defOf (["_law_jar_here", "_law_many", "_law_digit", "_law_big", "_law_more"] : List Str) 2 cb_take
def cb_of : Gm → J → RS :=
  (sRet (m2 fIx (mVar 1) (mF c_take (mCons (mVar 0) (mCons (mB fLen (mCons (mVar 1) mNil)) mNil)))))
def c_of : List D → J → R D := defOf (["_law_jar_here", "_law_some"] : List Str) 2 cb_of
theorem jar_at {j : J} {n : Nat} {d e : D} (h : j[n]? = some (some d)) : (j.set n (some e))[n]? = some (some e) := List.getElem?_set_self (List.getElem?_eq_some_iff.mp h).1
theorem take_wp {j : J} {n m : Nat} {k : Int} {P : D → J → Prop} {X : Nat → List (Str × D) → J → Prop} (h : Jar j n (m + 1)) (hk : 0 < k) (hk2 : k < 18446744073709551616) (q : ∀ r j', 0 ≤ r → r < k → Jar j' n m → Same n j j' → P (.int r) j') : (c_take [.loc n, .int k] j).wp P X := by
  obtain ⟨a, b, c, h1, h2, h3, h4, h5, h6⟩ := h
  unfold c_take cb_take
  simp [de_loc h1, jarD, atI, ixN, conG, muG, h1, fMod_p hk, fDiv_p hk hk2]
  split
  · exact q _ _ (Int.emod_nonneg _ (by omega)) (Int.emod_lt_of_pos _ hk) ⟨a / k, b, c, jar_at h1, Int.ediv_nonneg h2 (by omega), h3, h4, h5, by omega⟩ Same.set
  · have e1 : fMul (.int (65519 * (c + 1))) (.int (c + 1)) = some (.int (65519 * (c + 1) * (c + 1))) := fMul_r (by omega) (by omega)
    have e2 : ∀ y : Int, fMul (.int (y % 2305843009213693921)) (.int (y % 2305843009213693921 % 1000003 + 99989 * (c + 1))) = some (.int (y % 2305843009213693921 * (y % 2305843009213693921 % 1000003 + 99989 * (c + 1)))) := fun y => fMul_l (by omega) (by omega)
    simp [de_loc (jar_at h1), fMul_l, fMul_r, fMod_p, fDiv_p, atI, ixN, e1, e2, hk, hk2]
    exact q _ _ (Int.emod_nonneg _ (by omega)) (Int.emod_lt_of_pos _ hk) ⟨a, b, c + 1, jar_at h1, h2, h3, h4, by omega, by omega⟩ Same.set
theorem of_wp {j : J} {n m : Nat} {ds : List D} {P : D → J → Prop} {X : Nat → List (Str × D) → J → Prop} (h : Jar j n (m + 1)) (hd : ds ≠ []) (hl : ds.length < 100000) (q : ∀ d j', d ∈ ds → Jar j' n m → Same n j j' → P d j') : (c_of [.loc n, .lst ds] j).wp P X := by
  unfold c_of cb_of
  have hp : 0 < ds.length := List.length_pos_iff.mpr hd
  simp
  refine take_wp h (by omega) (by omega) fun r j' h0 h1 hj hs => ?_
  obtain ⟨i, rfl⟩ := Int.eq_ofNat_of_zero_le h0
  have hi : i < ds.length := by omega
  simp [atI_nat, hi]
  exact q _ _ (List.getElem_mem hi) hj hs
theorem cp1 : CP 10 60 := by decide
theorem cp2 : CP (10 ^ 60) 5 := by decide
theorem cp3 : CP 10 18 := by decide
theorem fPow_p {i k : Int} (h : CP i k) : fPow (.int i) (.int k) = some (.int (i ^ k.toNat)) := by
  show (if CP i k then some (D.int (i ^ k.toNat)) else none) = _
  rw [if_pos h]
theorem pow_two : ∃ M1 M2 M3 : Int, 0 < M2 ∧ fPow (.int 10) (.int 60) = some (.int M1) ∧ fPow (.int M1) (.int 5) = some (.int M2) ∧ fPow (.int 10) (.int 18) = some (.int M3) :=
  ⟨10 ^ 60, (10 ^ 60) ^ 5, 10 ^ 18, Int.pow_pos (Int.pow_pos (by decide)), fPow_p cp1, fPow_p cp2, fPow_p cp3⟩
theorem atI_in {α : Type} {l : List α} {i : Int} (h0 : 0 ≤ i) (h1 : i < l.length) : ∃ x, x ∈ l ∧ atI l i = some x := by
  obtain ⟨n, rfl⟩ := Int.eq_ofNat_of_zero_le h0
  have hi : n < l.length := by omega
  exact ⟨l[n], List.getElem_mem hi, by rw [atI_nat]; exact List.getElem?_eq_getElem hi⟩
theorem jar_wp {j : J} {ns : List Int} {k : Int} {P : D → J → Prop} {X : Nat → List (Str × D) → J → Prop} (hk0 : 0 ≤ k) (hk : k < 1000) (q : ∀ d, Jar (j ++ [some d]) j.length 1000000000000 → P (.loc j.length) (j ++ [some d])) : (c_jar [.frz (ns.map .int), .int k] j).wp P X := by
  unfold c_jar cb_jar
  obtain ⟨M1, M2, M3, hM, e1, e2, e3⟩ := pow_two
  revert e1 e2 e3
  generalize fPow = f
  intro e1 e2 e3
  have e4 : ∀ i, fMod (.int i) (.int M2) = some (.int (i % M2)) := fun i => fMod_p hM
  have e5 : ∀ (i : Int) (b : Bool), fMul (.int i) (.int (b2 b)) = some (.int (i * b2 b)) := fun i b => by cases b <;> exact fMul_r (by decide) (by decide)
  have e6 : ∀ i : Int, fMul (.int (i % 2305843009213693951)) (.int 64879) = some (.int (i % 2305843009213693951 * 64879)) := fun i => fMul_r (by decide) (by decide)
  have e7 : fMul (.int 7873) (.int k) = some (.int (7873 * k)) := fMul_l (by decide) (by decide)
  have e8 : fMul (.int (7873 * k)) (.int k) = some (.int (7873 * k * k)) := fMul_r (by omega) (by omega)
  have e9 : fMul (.int 53) (.int k) = some (.int (53 * k)) := fMul_l (by decide) (by decide)
  have fin : ∀ cell : Int, P (.loc j.length) (j ++ [some (.lst [.int ((if cell < 0 then -cell else cell) % M2 * b2 (decide (M3 ≤ if cell < 0 then -cell else cell))), .int ((cell % 2305843009213693951 * 64879 + 7873 * k * k + 67) % 2305843009213693921), .int 0])]) := fun c => by
    refine q _ ⟨_, _, 0, by rw [List.getElem?_append_right (Nat.le_refl _), Nat.sub_self]; rfl, ?_, Int.emod_nonneg _ (by omega), Int.lt_trans (Int.emod_lt_of_pos _ (by omega)) (by omega), Int.le_refl _, by omega⟩
    refine Int.mul_nonneg (Int.emod_nonneg _ (by omega)) ?_
    cases (decide (M3 ≤ if c < 0 then -c else c)) <;> decide
  by_cases hl : k < (ns.length : Int)
  · obtain ⟨x, hx, ex⟩ := atI_in (l := ns.map D.int) hk0 (by simpa using hl)
    obtain ⟨cell, _, rfl⟩ := List.mem_map.mp hx
    simp [e1, e2, e3, e4, e5, e6, e7, e8, e9, ex, hl, fMod_p]
    exact fin _
  · simp [e1, e2, e3, e4, e5, e6, e7, e8, e9, hl, fMod_p]
    exact fin _
/-! ### loops -/
theorem loopD_wp {g : J → D → Gm → Option Gm} {mb : Gm → J → RS} {W : Wt} (I : List D → Gm → J → Prop) (hs : ∀ d ds Γ j, I (d :: ds) Γ j → ∃ Γ1, g j d Γ = some Γ1 ∧ (mb Γ1 j).wp ⟨I ds, W.ret, W.nx, I ds, W.exc⟩) (he : ∀ Γ j, I [] Γ j → W.nx Γ j) :
    ∀ {ds : List D} {Γ : Gm} {j : J}, I ds Γ j → (loopD g mb ds Γ j).wp W
  | [], Γ, j, h => he Γ j h
  | d :: ds, Γ, j, h => by
    obtain ⟨Γ1, e, w⟩ := hs d ds Γ j h
    unfold loopD
    rw [e]
    revert w
    dsimp only
    generalize mb Γ1 j = r
    intro w
    cases r with
    | nx Γ' j' => exact loopD_wp I hs he w
    | cont Γ' j' => exact loopD_wp I hs he w
    | brk Γ' j' => exact w
    | ret d j' => exact w
    | exc c fs Γ' j' => exact w
    | bad => exact w
theorem lcMap_wp {g : J → D → Gm → Option Gm} {mt : Gm → J → R Bool} {me : Gm → J → R D} {Γ : Gm} {X : Nat → List (Str × D) → J → Prop} (I : List D → List D → J → Prop)
    (hs : ∀ d ds acc j, I (d :: ds) acc j → ∃ Γ1, g j d Γ = some Γ1 ∧ (mt Γ1 j).wp (fun b j1 => bif b then (me Γ1 j1).wp (fun e j2 => I ds (acc ++ [e]) j2) X0 else I ds acc j1) X0) :
    ∀ {ds acc : List D} {j : J} {P : List D → J → Prop}, I ds acc j → (∀ es j, I [] (acc ++ es) j → P es j) → (lcMap g mt me Γ ds j).wp P X
  | [], acc, j, P, h, q => by
    show P [] j
    exact q [] j (by rw [List.append_nil]; exact h)
  | d :: ds, acc, j, P, h, q => by
    obtain ⟨Γ1, e, w⟩ := hs d ds acc j h
    unfold lcMap
    rw [e]
    dsimp only
    revert w
    generalize mt Γ1 j = r
    intro w
    cases r with
    | exc c fs j => exact w.elim
    | bad => exact w.elim
    | ok b j1 =>
      cases b with
      | false => exact lcMap_wp I hs (acc := acc) w q
      | true =>
        have w : (me Γ1 j1).wp (fun e j2 => I ds (acc ++ [e]) j2) X0 := w
        show ((me Γ1 j1).nox.bind fun e j => (lcMap g mt me Γ ds j).bind fun es j => .ok (e :: es) j).wp P X
        revert w
        generalize me Γ1 j1 = r2
        intro w
        cases r2 with
        | exc c fs j => exact w.elim
        | bad => exact w.elim
        | ok e j2 =>
          show ((lcMap g mt me Γ ds j2).bind fun es j => .ok (e :: es) j).wp P X
          rw [wp_bind]
          exact lcMap_wp I hs (acc := acc ++ [e]) w fun es j h => q (e :: es) j (by rw [List.append_assoc] at h; exact h)
theorem rangeD_succ {lo : Int} {n : Nat} : rangeD lo (n + 1) = .int lo :: rangeD (lo + 1) n := by
  unfold rangeD
  rw [List.range_succ_eq_map, List.map_cons, List.map_map]
  congr 1
  · simp
  · apply List.map_congr_left
    intro i _
    simp
    omega
theorem rng1_p {n : Int} (h0 : 0 ≤ n) (h1 : n < 1000000000) : rng1 [.int n] = some (rangeD 0 n.toNat) := by
  show (if -(2 ^ 62) ≤ n ∧ n < 2 ^ 62 then some (rangeD 0 n.toNat) else none) = _
  rw [if_pos (by constructor <;> omega)]
theorem rangeD_length {lo : Int} {n : Nat} : (rangeD lo n).length = n := by simp [rangeD]
/-! ### values that are shown -/
structure Sm (w dp : Nat) (d : D) : Prop where
  ex : ∃ p, d.pyE = some p ∧ p.showable = true ∧ p.leavesShort 40 = true ∧ p.weight ≤ w ∧ p.depth ≤ dp
  nl : ∀ j, deref j d = d
theorem Sm.mono {w dp w' dp' : Nat} {d : D} (h : Sm w dp d) (h1 : w ≤ w') (h2 : dp ≤ dp') : Sm w' dp' d := let ⟨⟨p, a, b, c, e, f⟩, n⟩ := h; ⟨⟨p, a, b, c, by omega, by omega⟩, n⟩
theorem Sm.non : Sm 0 0 .non := ⟨⟨.none, rfl, rfl, rfl, Nat.le_refl _, Nat.le_refl _⟩, fun _ => rfl⟩
theorem Sm.bl {b : Bool} : Sm 0 0 (.bl b) := ⟨⟨.bool b, rfl, rfl, rfl, Nat.le_refl _, Nat.le_refl _⟩, fun _ => rfl⟩
theorem Sm.dct0 : Sm 0 1 (.dct []) := ⟨⟨.dict [], by unfold D.pyE; rfl, rfl, rfl, Nat.le_refl _, by decide⟩, fun _ => rfl⟩
theorem Sm.int {i : Int} (h : i.natAbs < 10 ^ 39) : Sm 130 0 (.int i) := by
  have hl : i.natAbs.log2 < 130 := by
    by_cases z : i.natAbs = 0
    · rw [z]; decide
    · rw [Nat.log2_lt z]
      exact Nat.lt_of_lt_of_le h (by decide)
  refine ⟨⟨.int i, rfl, ?_, ?_, ?_, Nat.le_refl _⟩, fun _ => rfl⟩
  · show decide (i.natAbs.log2 < 1920) = true
    exact decide_eq_true (by omega)
  · show decide ((PyData.shown (.int i)).length ≤ 40) = true
    refine decide_eq_true ?_
    have := int_text_length_le10 (a := i) (k := 39) (by decide) h
    have e : (PyData.shown (.int i)).length = (toString i).length := by
      show (Str.ofString (toString i)).length = _
      exact PySem.ofString_length _
    omega
  · show (if i == 0 then 0 else i.natAbs.log2 + 1) ≤ 130
    split <;> omega
theorem Sm.str {x : Str} (h : x.cps.toList.all (fun c => decide (c < 16 ^ 8)) = true) : Sm x.cps.size 0 (.str x) := ⟨⟨.str x, rfl, rfl, h, Nat.le_refl _, Nat.le_refl _⟩, fun _ => rfl⟩
theorem Sm.all {w dp : Nat} : ∀ {ds : List D}, (∀ d ∈ ds, Sm w dp d) → ∃ ps, D.pyEA ds = some ps ∧ PyData.showableAll ps = true ∧ PyData.leavesShortAll 40 ps = true ∧ PyData.weightAll ps ≤ ds.length * (w + 1) ∧ PyData.depthAll ps ≤ dp
  | [], _ => ⟨[], rfl, rfl, rfl, Nat.zero_le _, Nat.zero_le _⟩
  | d :: ds, h => by
    obtain ⟨ps, a1, a2, a3, a4, a5⟩ := Sm.all (ds := ds) fun e he => h e (List.mem_cons_of_mem _ he)
    obtain ⟨p, b1, b2, b3, b4, b5⟩ := (h d List.mem_cons_self).ex
    refine ⟨p :: ps, by unfold D.pyEA; rw [b1, a1], by simp [PyData.showableAll, a2, b2], by simp [PyData.leavesShortAll, a3, b3], ?_, ?_⟩
    · show PyData.weight p + 1 + PyData.weightAll ps ≤ (ds.length + 1) * (w + 1)
      rw [Nat.succ_mul]
      omega
    · show max (PyData.depth p) (PyData.depthAll ps) ≤ dp
      omega
theorem Sm.lst {w dp : Nat} {ds : List D} (h : ∀ d ∈ ds, Sm w dp d) : Sm (ds.length * (w + 1)) (dp + 1) (.lst ds) := by
  obtain ⟨ps, a1, a2, a3, a4, a5⟩ := Sm.all h
  exact ⟨⟨.list ps, by unfold D.pyE; rw [a1]; rfl, a2, a3, a4, Nat.succ_le_succ a5⟩, fun _ => rfl⟩
theorem Sm.tup {w dp : Nat} {ds : List D} (h : ∀ d ∈ ds, Sm w dp d) : Sm (ds.length * (w + 1)) (dp + 1) (.tup ds) := by
  obtain ⟨ps, a1, a2, a3, a4, a5⟩ := Sm.all h
  exact ⟨⟨.tuple ps, by unfold D.pyE; rw [a1]; rfl, a2, a3, a4, Nat.succ_le_succ a5⟩, fun _ => rfl⟩
theorem Sm.repr {w dp : Nat} {d : D} (h : Sm w dp d) (h1 : w ≤ 100000) (h2 : dp ≤ 60) : ∃ x, reprE d = some x := by
  obtain ⟨p, a1, a2, a3, a4, a5⟩ := h.ex
  exact ⟨p.shown, by unfold reprE; rw [a1]; exact if_pos ⟨a2, by omega, a3, by omega⟩⟩
theorem o_repr {d : D} {x : Str} (h : reprE d = some x) : fReprE [d] = some (.str x) := by show (reprE d).map D.str = _; rw [h]; rfl
end On

set_option Elab.async false
set_option linter.all false
set_option maxRecDepth 100000
set_option maxHeartbeats 2000000
set_option autoImplicit false
namespace On
open PySem PySem.Spec PyProof.Rows L2
section
variable {Γ : Gm} {j : J} {i k : Nat} {ma mb mc me mo mk ml : Gm → J → R D} {mr : Gm → J → R (List D)} {mp : Gm → J → R (List (D × D))} {ta tb : Gm → J → R Bool} {ms mt' : Gm → J → RS} {d : D} {α : Type} {P : α → J → Prop} {X : Nat → List (Str × D) → J → Prop} {W : Wt}
@[simp] theorem wp_nox {r : R α} : (r.nox).wp P X = r.wp P (fun _ _ _ => False) := by cases r <;> rfl
@[simp] theorem x_asg {g : J → D → Gm → Option Gm} : sAsg me g Γ j = (me Γ j).bindS Γ fun d j => (match g j d Γ with | some Γ' => .nx Γ' j | none => .bad) := rfl
@[simp] theorem x_gN : gN i j d Γ = some (Γ.set i (some (.val d))) := rfl
@[simp] theorem x_gsNil : gsNil j [] Γ = some Γ := rfl
@[simp] theorem x_gsCons {g : J → D → Gm → Option Gm} {gs : J → List D → Gm → Option Gm} {r : List D} : gsCons g gs j (d :: r) Γ = (match g j d Γ with | some Γ' => gs j r Γ' | none => none) := rfl
@[simp] theorem x_gT {n : Nat} {gs : J → List D → Gm → Option Gm} {ds : List D} : gT n gs j (.tup ds) Γ = if ds.length = n then gs j ds Γ else none := rfl
@[simp] theorem x_loc : mLoc me Γ j = (me Γ j).bind fun d j => .ok (.loc j.length) (j ++ [some d]) := rfl
@[simp] theorem x_ownN : sOwnN i me Γ j = (me Γ j).bindS Γ fun d j => .nx (Γ.set i (some (.own d))) j := rfl
@[simp] theorem x_pNil : pNil Γ j = .ok [] j := rfl
@[simp] theorem x_pCons : pCons mk me mp Γ j = (mk Γ j).bind fun k j => (me Γ j).bind fun v j => (mp Γ j).bind fun r j => .ok ((k, v) :: r) j := rfl
@[simp] theorem x_dsp : mDsp mp Γ j = (mp Γ j).nox.bind fun ds j => bif (ds.all fun p => isKey p.1) && decide (ds.length ≤ 15) then .ok (.dct (mergeD [] ds)) j else .bad := rfl
@[simp] theorem x_ox {f : D → D → Option D} : mOx f i mb Γ j = (match conG i Γ j with
  | some _ => (mb Γ j).bind fun e j => (match conG i Γ j with
    | some c => lift (f c (deref j e)) j
    | none => .bad)
  | none => .bad) := rfl
@[simp] theorem x_dput : sDput i mk me Γ j = (me Γ j).bindS Γ fun d j => (match conG i Γ j with
  | some _ => (mk Γ j).bindS Γ fun k j => dputG i Γ j k d
  | none => .bad) := rfl
@[simp] theorem x_dput2 : sDput2 i mk ml me Γ j = (me Γ j).bindS Γ fun t j => (match t with
  | .tup [d1, d2] => (match conG i Γ j with
    | some _ => (mk Γ j).bindS Γ fun k j => (dputG i Γ j k d1).bindS fun Γ j => (match conG i Γ j with
      | some _ => (ml Γ j).bindS Γ fun k j => dputG i Γ j k d2
      | none => .bad)
    | none => .bad)
  | _ => .bad) := rfl
@[simp] theorem x_putE : sPutE mo mk me Γ j = (me Γ j).bindS Γ fun d j => (mo Γ j).bindS Γ fun o j => (mk Γ j).bindS Γ fun k j => (match o with
  | .loc n => (match j[n]? with
    | some (some c) => (match putE c k d with
      | some c' => .nx Γ (j.set n (some c'))
      | none => .bad)
    | _ => .bad)
  | _ => .bad) := rfl
@[simp] theorem x_make {c : Nat} {g : List D → J → R (List (Str × D))} : mMake c g mr Γ j = (mr Γ j).bind fun ds j => (g ds j).bind fun fs j => .ok (.ins c fs) j := rfl
@[simp] theorem x_meth {c : Nat} {m : Str} {g : List D → J → R D} : mMeth c m g mo mr Γ j = (mo Γ j).bind fun d j => (match deref j d with
  | .ins n fs => if n = c ∧ fs.lookup m = none then (mr Γ j).bind fun ds j => g (d :: ds) j else .bad
  | _ => .bad) := rfl
@[simp] theorem x_match {m : D → Gm → J → RS} : sMatch me m Γ j = (me Γ j).bindS Γ fun d j => m d Γ j := rfl
@[simp] theorem x_cNil : cNil d Γ j = .nx Γ j := rfl
@[simp] theorem x_cCons {c : D} {m : D → Gm → J → RS} : cCons c ms m d Γ j = (match eqD d c with
  | some true => ms Γ j
  | some false => m d Γ j
  | none => .bad) := rfl
@[simp] theorem x_raise {c : Nat} : sRaise c me Γ j = (me Γ j).bindS Γ fun d j => .exc c [("value", d)] Γ j := rfl
@[simp] theorem x_mAn {r : Gm → J → R D} : mAn ma r Γ j = (ma Γ j).bind fun d j => (match truD (deref j d) with | some b => bif b then r Γ j else .ok d j | none => .bad) := by
  unfold mAn
  congr 1
  funext d j
  cases truD (deref j d) with
  | none => rfl
  | some b => cases b <;> rfl
@[simp] theorem x_oN : oN Γ j = .ok none j := rfl
@[simp] theorem x_oS : oS me Γ j = (me Γ j).bind fun d j => (match d with | .int i => .ok (some i) j | _ => .bad) := rfl
@[simp] theorem x_sl {f : D → Option Int → Option Int → Option D} {m1 m2 : Gm → J → R (Option Int)} : mSl f me m1 m2 Γ j = (me Γ j).bind fun d j => (m1 Γ j).bind fun l j => (m2 Γ j).bind fun h j => lift (f (deref j d) l h) j := rfl
end
/-- statement by statement -/
theorem seqw {s r : Gm → J → RS} {Γ : Gm} {j : J} {W : Wt} (h : ∀ K : Gm → J → Prop, (∀ Γ' j', (r Γ' j').wp W → K Γ' j') → (s Γ j).wp ⟨K, W.ret, W.brk, W.cont, W.exc⟩) : (sSeq s r Γ j).wp W := by
  have := h (fun Γ' j' => (r Γ' j').wp W) fun _ _ z => z
  rw [x_seq, wpS_seq]
  exact this
theorem defw {N : List Str} {n : Nat} {m : Gm → J → RS} {ds : List D} {j : J} {P : D → J → Prop} {X : Nat → List (Str × D) → J → Prop} (hl : ds.length = n) (h : (m (ds.map (fun d => some (.val d)) ++ List.replicate (N.length - ds.length) none) j).wp ⟨fun _ j => P .non j, P, fun _ _ => False, fun _ _ => False, fun c fs _ j => X c fs j⟩) : (defOf N n m ds j).wp P X := by
  rw [x_defOf, if_pos hl, wp_outF, x_startG, List.map_map, List.length_map]
  exact h
theorem wp_nx {r : RS} {Γ' : Gm} {j' : J} {W : Wt} (h : r = .nx Γ' j') (k : W.nx Γ' j') : r.wp W := by rw [h]; exact k
theorem wp_rt {r : RS} {d : D} {j' : J} {W : Wt} (h : r = .ret d j') (k : W.ret d j') : r.wp W := by rw [h]; exact k
theorem Jar.app {j : J} {n m : Nat} {l : J} (h : Jar j n m) : Jar (j ++ l) n m := by
  obtain ⟨a, b, c, h1, h2⟩ := h
  exact ⟨a, b, c, by rw [List.getElem?_append_left (List.getElem?_eq_some_iff.mp h1).1]; exact h1, h2⟩
theorem eqD_refl {d : D} {p : PyData} (h : d.py = some p) (hs : SeqAt.shaped p = true) : eqD d d = some true := by
  have : eqP d d = some true := by
    unfold eqP
    rw [h]
    simp [hs, PySem.SeqAt.eqv_refl p (SeqAt.canLay_of_shaped hs)]
  unfold eqD
  split
  · simp
  · exact this
end On

set_option Elab.async false
set_option linter.all false
set_option maxRecDepth 100000
set_option maxHeartbeats 4000000
set_option autoImplicit false
namespace On
open PySem PySem.Spec PyProof.Rows L2
section
variable {Γ : Gm} {j : J} {i : Nat} {me mk mx md mo : Gm → J → R D} {ds : List D}
@[simp] theorem x_app : sApp i me Γ j = (match conG i Γ j with
  | some (.lst _) => (me Γ j).bindS Γ fun d j => (match conG i Γ j with
    | some (.lst ds) => if ds.length < 100000 then muG i Γ j (.lst (ds ++ [d])) else .bad
    | _ => .bad)
  | _ => .bad) := rfl
@[simp] theorem x_split : mSplit mo me Γ j = (mo Γ j).bind fun d j => (match d with
  | .str x => (me Γ j).bind fun e j => (match e with
    | .str b => bif !(b.length == 0) && decide (x.length < 100000) then .ok (.lst ((Txt.split x b).map .str)) j else .bad
    | _ => .bad)
  | _ => .bad) := rfl
end
end On

set_option Elab.async false
set_option linter.all false
set_option maxRecDepth 100000
set_option maxHeartbeats 4000000
set_option autoImplicit false
namespace On
open PySem PySem.Spec PyProof.Rows L2
section
variable {Γ : Gm} {j : J} {i k l : Nat} {me ma mb : Gm → J → R D} {mr mk : Gm → J → R (List D)} {ms mt : Gm → J → RS} {ds : List D}
theorem seq_nx {a r : Gm → J → RS} {Γ' : Gm} {j' : J} (h : a Γ j = .nx Γ' j') : sSeq a r Γ j = r Γ' j' := by unfold sSeq; rw [h]; rfl
theorem seq_exc {a r : Gm → J → RS} {Γ' : Gm} {j' : J} {c : Nat} {fs : List (Str × D)} (h : a Γ j = .exc c fs Γ' j') : sSeq a r Γ j = .exc c fs Γ' j' := by unfold sSeq; rw [h]; rfl
theorem sIf_f {T : Gm → J → R Bool} {A B : Gm → J → RS} {j' : J} (h : T Γ j = .ok false j') : sIf T A B Γ j = B Γ j' := by unfold sIf; rw [h]; rfl
theorem sIf_t {T : Gm → J → R Bool} {A B : Gm → J → RS} {j' : J} (h : T Γ j = .ok true j') : sIf T A B Γ j = A Γ j' := by unfold sIf; rw [h]; rfl
@[simp] theorem x_par3 : sPar3 i k l mr Γ j = (mr Γ j).bindS Γ fun ds j => (match ds with
  | [d, e, f] => .nx (((Γ.set i (some (.val d))).set k (some (.val e))).set l (some (.val f))) j
  | _ => .bad) := rfl
@[simp] theorem x_arr {n m : Nat} {gD : List D → List D → List D} : mArr n m gD mr mk Γ j = (mr Γ j).bind fun ds j => (mk Γ j).bind fun es j => if ds.length = n ∧ es.length = m then .ok (gD ds es) j else .bad := rfl
@[simp] theorem x_rev : mRev me Γ j = (me Γ j).bind fun d j => (match d with
  | .tup ds => .ok (.tup ds.reverse) j
  | _ => .bad) := rfl
def eqW (c : Nat) (cs : List Nat) (g : List D → J → R D) (d e : D) (j : J) : R D := match deref j d with
  | .ins n _ => bif (n == c) && tyOk cs (deref j e) then eqRes (g [d, e] j) else .bad
  | _ => .bad
@[simp] theorem x_eqO {c : Nat} {cs : List Nat} {g : List D → J → R D} : mEqO c cs g ma mb Γ j = (ma Γ j).bind fun d j => (mb Γ j).bind fun e j => eqW c cs g d e j := rfl
theorem eqW_ok {c : Nat} {cs : List Nat} {g : List D → J → R D} {d e : D} {j' : J} {fs : List (Str × D)} {b : Bool} (hd : deref j d = .ins c fs) (ht : tyOk cs (deref j e) = true) (hg : g [d, e] j = .ok (.bl b) j') : eqW c cs g d e j = .ok (.bl b) j' := by
  unfold eqW
  rw [hd]
  dsimp only
  rw [ht, hg]
  simp
  rfl
@[simp] theorem x_eqRes {b : Bool} : eqRes (.ok (.bl b) j) = .ok (.bl b) j := rfl
theorem try_wp {f : Nat → Option Bool} {W : Wt} (h : (ms Γ j).wp ⟨W.nx, W.ret, W.brk, W.cont, fun c fs Γ' j' => match f c with
    | some true => ((mt (Γ'.set i (some (.val (.exn c fs)))) j').unset i).wp W
    | some false => W.exc c fs Γ' j'
    | none => False⟩) : (sTry f i ms mt Γ j).wp W := by
  unfold sTry
  revert h
  generalize ms Γ j = r
  intro h
  cases r with
  | nx Γ' j' => exact h
  | ret d j' => exact h
  | brk Γ' j' => exact h
  | cont Γ' j' => exact h
  | bad => exact h.elim
  | exc c fs Γ' j' =>
    have h : (match f c with
      | some true => ((mt (Γ'.set i (some (.val (.exn c fs)))) j').unset i).wp W
      | some false => W.exc c fs Γ' j'
      | none => False) := h
    dsimp only
    cases e : f c with
    | none => rw [e] at h; exact h.elim
    | some b =>
      rw [e] at h
      cases b <;> exact h
end
end On

set_option Elab.async false
set_option linter.all false
set_option maxRecDepth 100000
set_option maxHeartbeats 4000000
set_option autoImplicit false
namespace On
open PySem PySem.Spec PyProof.Rows L2
/-- a jar, beside others that stay -/
def Jr (L : List (Nat × Nat)) (j : J) (n m : Nat) : Prop := Jar j n m ∧ (∀ p ∈ L, p.1 ≠ n) ∧ ∀ p ∈ L, Jar j p.1 p.2
theorem Jr.mono {L : List (Nat × Nat)} {j : J} {n m m' : Nat} (h : Jr L j n m) (hm : m' ≤ m) : Jr L j n m' := ⟨h.1.mono hm, h.2⟩
theorem Jar.same {n k m : Nat} {j j' : J} (s : Same n j j') (ne : k ≠ n) (h : Jar j k m) : Jar j' k m := by
  obtain ⟨a, b, c, h1, h2⟩ := h
  exact ⟨a, b, c, by rw [s.2 k ne]; exact h1, h2⟩
theorem Jr.same {L : List (Nat × Nat)} {n m m' : Nat} {j j' : J} (h : Jr L j n m) (s : Same n j j') (h' : Jar j' n m') : Jr L j' n m' := ⟨h', h.2.1, fun p hp => Jar.same s (h.2.1 p hp) (h.2.2 p hp)⟩
theorem takeL {L : List (Nat × Nat)} {j : J} {n m : Nat} {k : Int} {P : D → J → Prop} {X : Nat → List (Str × D) → J → Prop} (h : Jr L j n (m + 1)) (hk : 0 < k) (hk2 : k < 18446744073709551616) (q : ∀ r j', 0 ≤ r → r < k → Jr L j' n m → Same n j j' → P (.int r) j') : (c_take [.loc n, .int k] j).wp P X :=
  take_wp (m := m) h.1 hk hk2 fun r j' r0 r1 hj s => q r j' r0 r1 (h.same s hj) s
theorem ofL {L : List (Nat × Nat)} {j : J} {n m : Nat} {ds : List D} {P : D → J → Prop} {X : Nat → List (Str × D) → J → Prop} (h : Jr L j n (m + 1)) (hd : ds ≠ []) (hl : ds.length < 100000) (q : ∀ d j', d ∈ ds → Jr L j' n m → Same n j j' → P d j') : (c_of [.loc n, .lst ds] j).wp P X :=
  of_wp (m := m) h.1 hd hl fun d j' hd hj s => q d j' hd (h.same s hj) s
end On

set_option Elab.async false
set_option linter.all false
set_option maxRecDepth 100000
set_option maxHeartbeats 2000000
set_option autoImplicit false
namespace On
open PySem PySem.Spec PyProof.Rows L2
section
variable {α β : Type} {Γ : Gm} {j : J} {i k c : Nat} {ma mb mc me mo mk mv : Gm → J → R D} {mr : Gm → J → R (List D)} {ta tb : Gm → J → R Bool} {d : D} {fs : List (Str × D)}
@[simp] theorem b_ok {a : α} {f : α → J → R β} : (R.ok a j).bind f = f a j := rfl
@[simp] theorem b_exc {f : α → J → R β} : (R.exc c fs j : R α).bind f = .exc c fs j := rfl
@[simp] theorem b_bad {f : α → J → R β} : (R.bad : R α).bind f = .bad := rfl
@[simp] theorem bs_ok {a : α} {f : α → J → RS} : (R.ok a j).bindS Γ f = f a j := rfl
@[simp] theorem bs_exc {f : α → J → RS} : (R.exc c fs j : R α).bindS Γ f = .exc c fs Γ j := rfl
@[simp] theorem bs_bad {f : α → J → RS} : (R.bad : R α).bindS Γ f = .bad := rfl
@[simp] theorem ss_nx {f : Gm → J → RS} : (RS.nx Γ j).bindS f = f Γ j := rfl
@[simp] theorem ss_ret {f : Gm → J → RS} : (RS.ret d j).bindS f = .ret d j := rfl
@[simp] theorem ss_exc {f : Gm → J → RS} : (RS.exc c fs Γ j).bindS f = .exc c fs Γ j := rfl
@[simp] theorem ss_bad {f : Gm → J → RS} : RS.bad.bindS f = .bad := rfl
@[simp] theorem n_ok {a : α} : (R.ok a j).nox = .ok a j := rfl
@[simp] theorem l_some {a : α} : lift (some a) j = .ok a j := rfl
@[simp] theorem l_none : lift (none : Option α) j = .bad := rfl
@[simp] theorem of_nx : outF (.nx Γ j) = .ok .non j := rfl
@[simp] theorem of_ret : outF (.ret d j) = .ok d j := rfl
@[simp] theorem of_exc : outF (.exc c fs Γ j) = .exc c fs j := rfl
@[simp] theorem x_chain {f g : D → D → Option Bool} : mChain f g ma mb mc Γ j = (ma Γ j).bind fun d j => (mb Γ j).bind fun e j => (match f (deref j d) (deref j e) with
  | some true => (mc Γ j).bind fun h j => lift ((g (deref j e) (deref j h)).map .bl) j
  | some false => .ok (.bl false) j
  | none => .bad) := rfl
@[simp] theorem x_lst1 : mLst1 mo me Γ j = (mo Γ j).bind fun d j => (match d with
  | .str x => (me Γ j).bind fun e j => (match e with
    | .str b => if x.length ≤ 100000 then .ok (.str (Txt.lstripChars x b)) j else .bad
    | _ => .bad)
  | _ => .bad) := rfl
@[simp] theorem x_iSt : iSt me Γ j = (me Γ j).bind fun d j => (match d with
  | .str x => .ok (strD x) j
  | _ => .bad) := rfl
@[simp] theorem x_srt : mSrt me Γ j = (me Γ j).bind fun d j => lift (srtD (deref j d)) j := rfl
@[simp] theorem x_bor {g : List D → J → R D} : mBor g i mr Γ j = (match Γ[i]? with
  | some (some (.own c)) => (mr Γ j).bind fun ds j => if (c.noLoc && D.noLocA ds) = true then (match g (c :: ds) [] with
    | .ok r _ => if flatB r = true then .ok r j else .bad
    | _ => .bad) else .bad
  | _ => .bad) := rfl
@[simp] theorem x_appE : sAppE mo me Γ j = (mo Γ j).bindS Γ fun o j => (match o with
  | .loc n => (match j[n]? with
    | some (some (.lst _)) => (me Γ j).bindS Γ fun d j => (match j[n]? with
      | some (some (.lst ds)) => if ds.length < 100000 then .nx Γ (j.set n (some (.lst (ds ++ [d])))) else .bad
      | _ => .bad)
    | _ => .bad)
  | _ => .bad) := rfl
@[simp] theorem x_iEnC {c : Int} : iEnC c me Γ j = (me Γ j).bind fun d j => (match d with
  | .lst ds => .ok (enumC c ds) j
  | _ => .bad) := rfl
@[simp] theorem x_iFk : iFk me Γ j = (me Γ j).bind fun d j => (match d with
  | .fdc es => .ok (es.map (·.1)) j
  | _ => .bad) := rfl
@[simp] theorem x_iFi : iFi me Γ j = (me Γ j).bind fun d j => (match d with
  | .fdc es => .ok (es.map fun q => .tup [q.1, q.2]) j
  | _ => .bad) := rfl
@[simp] theorem x_dc {mi : Gm → J → R (List D)} {g : J → D → Gm → Option Gm} {vs : List Nat} : mDc mi g ta mk mv vs Γ j = (mi Γ j).bind fun ds j => if ds.length ≤ 100000 then (dcMap g ta mk mv (wipeG Γ vs) ds [] j).bind fun es j => .ok (.fdc es) j else .bad := rfl
@[simp] theorem x_dcT {mi : Gm → J → R (List D)} {g : J → D → Gm → Option Gm} {vs : List Nat} : mDcT mi g ta mk mv vs Γ j = (mi Γ j).bind fun ds j => if ds.length ≤ 100000 then (dcMapT g ta mk mv (wipeG Γ vs) ds [] j).bind fun es j => .ok (.tdc es) j else .bad := rfl
@[simp] theorem x_lc2 {mi mi1 : Gm → J → R (List D)} {g g1 : J → D → Gm → Option Gm} {vs vs1 : List Nat} : mLc2 mi g ta mi1 g1 tb me vs vs1 Γ j = (mi Γ j).bind fun ds j => if ds.length ≤ 300 then (lcMap2 g ta mi1 g1 tb me vs1 (wipeG Γ vs) ds j).bind fun es j => .ok (.lst es) j else .bad := rfl
@[simp] theorem x_sself {f : Str} {cs : List Nat} : sSelf i f cs me Γ j = (me Γ j).bindS Γ fun d j => (match conG i Γ j with
  | some (.ins n fs) => bif cs.contains n && decide (fs.length < 100) then muG i Γ j (.ins n (putD f d fs)) else .bad
  | _ => .bad) := rfl
@[simp] theorem x_mself {f : Str} {cs : List Nat} : mSelf i f cs Γ j = (match conG i Γ j with
  | some (.ins n fs) => bif cs.contains n then lift (fs.lookup f) j else .bad
  | _ => .bad) := rfl
@[simp] theorem x_icall {g : List D → J → R D} : mICall i c g mr Γ j = (match Γ[i]? with
  | some (some (.val d)) => bif isIns c (deref j d) then ((mr Γ j).bind fun ds j => bif isIns c (deref j d) then g (d :: ds) j else .bad) else .bad
  | _ => .bad) := rfl
@[simp] theorem x_makeL {g : List D → J → R (List (Str × D))} : mMakeL c g mr Γ j = (mr Γ j).bind fun ds j => (g ds j).bind fun fs j => .ok (.loc j.length) (j ++ [some (.ins c fs)]) := rfl
@[simp] theorem x_initOf {N : List Str} {n : Nat} {m : Gm → J → RS} {ds : List D} : initOf N n c m ds j = if ds.length + 1 = n then outI c (m (startG N (.own (.ins c []) :: ds.map .val)) j) else .bad := rfl
@[simp] theorem x_outI_exc {n : Nat} : outI n (.exc c fs Γ j) = .exc c fs j := rfl
theorem x_outI {n : Nat} {r : Gm} : outI n (.nx (some (.own (.ins n fs)) :: r) j) = .ok fs j := by
  show (if n = n then R.ok fs j else .bad) = _
  rw [if_pos rfl]
@[simp] theorem de_fdc {es : List (D × D)} : deref j (.fdc es) = .fdc es := rfl
@[simp] theorem de_tdc {es : List (D × D)} : deref j (.tdc es) = .tdc es := rfl
@[simp] theorem de_ftc {es : List (D × D)} : deref j (.ftc es) = .ftc es := rfl
theorem o_eqb {x y : Bool} : eqD (.bl x) (.bl y) = some (x == y) := by
  cases x <;> cases y <;> decide +kernel
@[simp] theorem o_eqE {ds : List D} : eqE (.lst ds) (.lst []) = some ds.isEmpty := rfl
@[simp] theorem o_trb {b : Bool} : truD (.bl b) = some b := rfl
@[simp] theorem at_0 {a : α} {l : List α} : atI (a :: l) 0 = some a := by
  have := atI_nat (l := a :: l) (n := 0)
  simpa using this
@[simp] theorem at_1 {a b : α} {l : List α} : atI (a :: b :: l) 1 = some b := by
  have := atI_nat (l := a :: b :: l) (n := 1)
  simpa using this
@[simp] theorem at_2 {a b c : α} {l : List α} : atI (a :: b :: c :: l) 2 = some c := by
  have := atI_nat (l := a :: b :: c :: l) (n := 2)
  simpa using this
theorem at_last {l : List α} : atI l (-1) = l.getLast? := by
  unfold atI ixN
  cases l with
  | nil => simp
  | cons a l =>
    rw [if_neg (by omega), if_pos (by simp; omega)]
    show (a :: l)[(-1 + ((a :: l).length : Int)).toNat]? = _
    rw [List.getLast?_eq_getElem?]
    congr 1
    simp
    omega
theorem o_div2 {x : Int} : fDiv (.int x) (.int 2) = some (.int (x / 2)) := fDiv_p (by decide) (by decide)
theorem o_mul22 : fMul (.int 2) (.int 2) = some (.int 4) := by
  rw [fMul_l (by decide) (by decide)]; rfl
@[simp] theorem o_isNN : fIs .non .non = some true := rfl
@[simp] theorem o_isTN {xs : List D} : fIs (.tup xs) .non = some false := rfl
@[simp] theorem o_isIN {x : Int} : fIs (.int x) .non = some false := rfl
@[simp] theorem o_isSN {x : Str} : fIs (.str x) .non = some false := rfl
@[simp] theorem o_isLN {xs : List D} : fIs (.lst xs) .non = some false := rfl
@[simp] theorem o_isXN {c : Nat} {fs : List (Str × D)} : fIs (.exn c fs) .non = some false := rfl
@[simp] theorem o_inNN : fIsNot .non .non = some false := rfl
@[simp] theorem o_inIN {x : Int} : fIsNot (.int x) .non = some true := rfl
@[simp] theorem o_inSN {x : Str} : fIsNot (.str x) .non = some true := rfl
@[simp] theorem o_inTN {xs : List D} : fIsNot (.tup xs) .non = some true := rfl
@[simp] theorem nl_int {x : Int} : (D.int x).noLoc = true := rfl
@[simp] theorem nl_str {x : Str} : (D.str x).noLoc = true := rfl
@[simp] theorem nl_bl {x : Bool} : (D.bl x).noLoc = true := rfl
@[simp] theorem nl_non : D.non.noLoc = true := rfl
@[simp] theorem nl_lst {xs : List D} : (D.lst xs).noLoc = D.noLocA xs := by simp [D.noLoc]
@[simp] theorem nl_tup {xs : List D} : (D.tup xs).noLoc = D.noLocA xs := by simp [D.noLoc]
@[simp] theorem nl_nil : D.noLocA [] = true := by simp [D.noLocA]
@[simp] theorem nl_cons {d : D} {xs : List D} : D.noLocA (d :: xs) = (d.noLoc && D.noLocA xs) := by simp [D.noLocA]
@[simp] theorem fb_bl {b : Bool} : flatB (.bl b) = true := rfl
@[simp] theorem x_try {f : Nat → Option Bool} {mb ms : Gm → J → RS} : sTry f i mb ms Γ j = (match mb Γ j with
  | .exc c fs Γ' j' => (match f c with
    | some true => (ms (Γ'.set i (some (.val (.exn c fs)))) j').unset i
    | some false => .exc c fs Γ' j'
    | none => .bad)
  | r => r) := by
  unfold sTry
  rfl
@[simp] theorem un_nx : (RS.nx Γ j).unset i = .nx (Γ.set i none) j := rfl
@[simp] theorem un_ret : (RS.ret d j).unset i = .ret d j := rfl
end
end On

set_option Elab.async false
set_option linter.all false
set_option maxRecDepth 100000
set_option maxHeartbeats 2000000
set_option autoImplicit false
namespace On
open PySem PySem.Spec PyProof.Rows L2
/-! ### lines and layouts, plainly -/
@[simp] theorem w_cd : (Str.ofString "code" = Str.ofString "dir") = False := eq_false (by decide +kernel)
@[simp] theorem w_cf : (Str.ofString "code" = Str.ofString "file") = False := eq_false (by decide +kernel)
@[simp] theorem w_dc : (Str.ofString "dir" = Str.ofString "code") = False := eq_false (by decide +kernel)
@[simp] theorem w_df : (Str.ofString "dir" = Str.ofString "file") = False := eq_false (by decide +kernel)
@[simp] theorem w_fc : (Str.ofString "file" = Str.ofString "code") = False := eq_false (by decide +kernel)
@[simp] theorem w_fd : (Str.ofString "file" = Str.ofString "dir") = False := eq_false (by decide +kernel)
structure Ln where
  d : Int
  w : Str
  n : Str
  deriving DecidableEq
def Ln.D (r : Ln) : On.D := .tup [.int r.d, .str r.w, .str r.n]
def letS (c : Nat) : Bool := !(Builtin.Str.occurrences ("abcdefghijklmnopqrstuvwxyz" : Str) ⟨#[c]⟩ 0 ("abcdefghijklmnopqrstuvwxyz" : Str).length 1).isEmpty
def isNameS (x : Str) : Bool := decide (1 ≤ x.length) && (decide (x.length ≤ 8) && x.cps.toList.all letS)
def blS (x : Str) : Int := (x.length : Int) - ((Txt.lstripChars x " ").length : Int)
def wdS (x : Str) : List Str := Txt.split (cutS x (some (blS x)) none) " "
def lineS (x : Str) : Option Ln := match wdS x with
  | [w, n] => if (blS x = 0 ∨ blS x = 2 ∨ blS x = 4) ∧ (w = "dir" ∨ w = "file" ∨ w = "code") ∧ isNameS n = true then some ⟨blS x / 2, w, n⟩ else none
  | _ => none
def sameTree (r : Ln) (w : Str) : Bool := decide (r.w = ("code" : Str)) == decide (w = ("code" : Str))
def followS (rows : List Ln) (d : Int) (w n : Str) : Bool :=
  if (rows.any fun r => sameTree r w && decide (r.n = n)) = true then false
  else match rows.getLast? with
    | none => !decide (w = ("code" : Str)) && decide (d = 0)
    | some r => if r.w = ("dir" : Str) then !decide (w = ("code" : Str)) && decide (d = r.d + 1)
      else if r.w = ("code" : Str) then decide (w = ("code" : Str)) && decide (d ≤ r.d + 1)
      else if w = ("code" : Str) then decide (d = 0) else decide (d ≤ r.d)
/-- the rows of lines, or the number of the first line that is none -/
def readL : Int → List Ln → List Str → Except Int (List Ln)
  | _, rows, [] => .ok rows
  | n, rows, x :: xs => match lineS x with
    | none => .error n
    | some r => if followS rows r.d r.w r.n = true then readL (n + 1) (rows ++ [r]) xs else .error n
def readS (x : Str) : Except Int (List Ln) := match readL 1 [] (Txt.split x "\n") with
  | .error n => .error n
  | .ok rows => match rows.getLast? with
    | some r => if r.w = ("code" : Str) then .ok rows else .error ((rows.length : Int) + 1)
    | none => .error 0
/-! ### parts of a text -/
theorem spl_len {S : List Nat} : ∀ {l : List Nat} {k : Nat} {acc p : List Nat}, p ∈ TL.spl S k acc l → p.length ≤ acc.length + l.length := by
  intro l
  induction l with
  | nil => intro k acc p h; simp [TL.spl] at h; rw [h]; simp
  | cons c l ih =>
    intro k acc p h
    cases k with
    | succ k =>
      have := ih (show p ∈ TL.spl S k acc l from by simpa [TL.spl] using h)
      simp; omega
    | zero =>
      unfold TL.spl at h
      split at h
      · rcases List.mem_cons.mp h with e | h
        · rw [e]; simp
        · have := ih h
          simp at this ⊢; omega
      · have := ih h
        simp at this ⊢; omega
theorem split_le {x y p : Str} (hy : TL.tl y ≠ []) (hk : y.cps.all (· < 256) = true) (h : p ∈ Txt.split x y) : p.length ≤ x.length := by
  have e := TL.split_spl x y hy (TL.kind_ok hk)
  have h2 : TL.tl p ∈ TL.spl (TL.tl y) 0 [] (TL.tl x) := by rw [← e]; exact List.mem_map.mpr ⟨p, h, rfl⟩
  have := spl_len h2
  simpa [Str.length] using this
/-! ### comprehensions that keep the store -/
theorem lcP {α : Type} {j : J} {g : J → D → Gm → Option Gm} {mt : Gm → J → R Bool} {me : Gm → J → R D} {Γ : Gm} (a : α → D) (p : α → Bool) (f : α → D) : ∀ (l : List α), (∀ x ∈ l, ∃ Γ1, g j (a x) Γ = some Γ1 ∧ mt Γ1 j = .ok (p x) j ∧ (p x = true → me Γ1 j = .ok (f x) j)) → lcMap g mt me Γ (l.map a) j = .ok ((l.filter p).map f) j
  | [], _ => rfl
  | x :: l, h => by
    obtain ⟨Γ1, h1, h2, h3⟩ := h x (List.mem_cons_self ..)
    have ih := lcP a p f l fun y hy => h y (List.mem_cons_of_mem _ hy)
    show lcMap g mt me Γ (a x :: l.map a) j = _
    unfold lcMap
    rw [h1]
    show (mt Γ1 j).nox.bind _ = _
    rw [h2]
    show (bif p x then _ else _) = _
    cases hp : p x with
    | true => simp [h3 hp, ih, hp]
    | false => simp [ih, hp]
theorem lcA {α : Type} {j : J} {g : J → D → Gm → Option Gm} {me : Gm → J → R D} {Γ : Gm} (a : α → D) (f : α → D) (l : List α) (h : ∀ x ∈ l, ∃ Γ1, g j (a x) Γ = some Γ1 ∧ me Γ1 j = .ok (f x) j) : lcMap g tT me Γ (l.map a) j = .ok (l.map f) j := by
  have := lcP (j := j) (g := g) (mt := tT) (me := me) (Γ := Γ) a (fun _ => true) f l fun x hx => let ⟨Γ1, h1, h2⟩ := h x hx; ⟨Γ1, h1, rfl, fun _ => h2⟩
  rw [List.filter_eq_self.mpr (fun _ _ => rfl)] at this
  exact this
theorem flatA_strs : ∀ xs : List Str, flatA (xs.map .str) = some (xs.map V.str)
  | [] => rfl
  | x :: xs => by
    show (match flatD (.str x), flatA (xs.map D.str) with | some v, some vs => some (v :: vs) | _, _ => none) = _
    rw [flatA_strs xs]; rfl
theorem inV_strs {x : Str} : ∀ xs : List Str, inV (.str x) (xs.map V.str) = xs.any fun y => decide (y = x)
  | [] => rfl
  | y :: xs => by
    show (eqV (.str y) (.str x) || inV (.str x) (xs.map V.str)) = _
    rw [inV_strs xs, List.any_cons]
    congr 1
theorem inD_lstS {x : Str} {xs : List Str} : inD (.str x) (.lst (xs.map .str)) = some (xs.any fun y => decide (y = x)) := by
  unfold inD
  simp only [seqOf, flatA_strs, flatD, inV_strs]
theorem inD_tupS {x : Str} {xs : List Str} : inD (.str x) (.tup (xs.map .str)) = some (xs.any fun y => decide (y = x)) := by
  unfold inD
  simp only [seqOf, flatA_strs, flatD, inV_strs]
theorem noLoc_rows : ∀ rows : List Ln, D.noLocA (rows.map Ln.D) = true
  | [] => rfl
  | r :: rows => by
    show (r.D.noLoc && D.noLocA (rows.map Ln.D)) = true
    rw [noLoc_rows rows]; rfl
theorem spl_ne {S : List Nat} : ∀ (l : List Nat) (k : Nat) (acc : List Nat), TL.spl S k acc l ≠ [] := by
  intro l
  induction l with
  | nil => intro k acc; simp [TL.spl]
  | cons c l ih =>
    intro k acc
    cases k with
    | succ k => simpa [TL.spl] using ih k acc
    | zero =>
      unfold TL.spl
      split
      · simp
      · exact ih _ _
theorem split_ne {x y : Str} (hy : TL.tl y ≠ []) (hk : y.cps.all (· < 256) = true) : Txt.split x y ≠ [] := fun h => by
  have e := TL.split_spl x y hy (TL.kind_ok hk)
  rw [h] at e
  exact spl_ne _ _ _ e.symm
theorem readL_len : ∀ {lines : List Str} {n : Int} {rows rows' : List Ln}, readL n rows lines = .ok rows' → rows'.length = rows.length + lines.length
  | [], n, rows, rows', h => by cases h; rfl
  | x :: lines, n, rows, rows', h => by
    unfold readL at h
    split at h
    · cases h
    · split at h
      · have := readL_len h
        simp at this ⊢; omega
      · cases h
end On

set_option Elab.async false
set_option linter.all false
set_option maxRecDepth 100000
set_option maxHeartbeats 2000000
set_option autoImplicit false
namespace On
open PySem PySem.Spec PyProof.Rows L2
/-! ### the names below each name, plainly -/
abbrev Tb := List (Str × List Str)
def addAt (k x : Str) : Tb → Tb
  | [] => []
  | (a, l) :: r => if a = k then (a, l ++ [x]) :: r else (a, l) :: addAt k x r
def addAll (ks : List Str) (x : Str) (T : Tb) : Tb := ks.foldl (fun T k => addAt k x T) T
def isLeaf (d : Int) : List (Int × Str) → Bool
  | [] => true
  | (e, _) :: _ => decide (e ≤ d)
def pathTo (path : List Str) (d : Int) (n : Str) : List Str := On.cutD path none (some d) ++ [n]
def endsL : List (Int × Str) → List Str → Tb → Tb
  | [], _, T => T
  | (d, n) :: r, path, T => endsL r (pathTo path d n) (if isLeaf d r = true then addAll ("*" :: pathTo path d n) n (T ++ [(n, [])]) else T ++ [(n, [])])
def endsS (rows : List (Int × Str)) : Tb := endsL rows [] [("*", [])]
def tabD (T : Tb) : List (D × D) := T.map fun p => (.str p.1, .tup ((canS p.2).map .str))
def cells (T : Tb) : J := T.map fun p => some (.lst (p.2.map .str))
def fnd : Nat → Tb → List (D × D)
  | _, [] => []
  | L, p :: T => (.str p.1, .loc L) :: fnd (L + 1) T
def keysT (T : Tb) : List Str := T.map (·.1)
theorem cells_length (T : Tb) : (cells T).length = T.length := by simp [cells]
theorem fnd_length : ∀ (T : Tb) (L : Nat), (fnd L T).length = T.length
  | [], _ => rfl
  | _ :: T, L => by show (fnd (L + 1) T).length + 1 = _; rw [fnd_length T]; rfl
theorem keys_add {k x : Str} : ∀ T : Tb, keysT (addAt k x T) = keysT T
  | [] => rfl
  | (a, l) :: r => by
    unfold addAt
    split
    · rfl
    · show a :: keysT (addAt k x r) = _; rw [keys_add r]; rfl
theorem fnd_keys : ∀ {T U : Tb} {L : Nat}, keysT T = keysT U → fnd L T = fnd L U
  | [], [], _, _ => rfl
  | [], _ :: _, _, h => by cases h
  | _ :: _, [], _, h => by cases h
  | p :: T, q :: U, L, h => by
    have h1 : p.1 = q.1 := (List.cons.inj h).1
    show (D.str p.1, D.loc L) :: fnd (L + 1) T = (D.str q.1, D.loc L) :: fnd (L + 1) U
    rw [h1, fnd_keys (List.cons.inj h).2]
theorem fnd_snoc {n : Str} {l : List Str} : ∀ (T : Tb) (L : Nat), fnd L (T ++ [(n, l)]) = fnd L T ++ [(.str n, .loc (L + T.length))]
  | [], L => rfl
  | p :: T, L => by
    show (D.str p.1, D.loc L) :: fnd (L + 1) (T ++ [(n, l)]) = _
    rw [fnd_snoc T (L + 1)]
    show _ = (D.str p.1, D.loc L) :: (fnd (L + 1) T ++ [(.str n, .loc (L + (T.length + 1)))])
    rw [show L + 1 + T.length = L + (T.length + 1) by omega]
theorem has_fnd {n : Str} : ∀ (T : Tb) (L : Nat), n ∉ keysT T → hasD (.str n) (fnd L T) = false
  | [], _, _ => rfl
  | p :: T, L, h => by
    show (keq (.str p.1) (.str n) || hasD (.str n) (fnd (L + 1) T)) = false
    rw [has_fnd T (L + 1) fun z => h (List.mem_cons_of_mem _ z)]
    have : ¬ p.1 = n := fun e => h (by rw [← e]; exact List.mem_cons_self ..)
    show (decide (p.1 = n) || false) = false
    simp [this]
/-- the entry of a key -/
theorem fnd_at {k x : Str} : ∀ {T : Tb} (L : Nat), k ∈ keysT T → ∃ i l, lkD (.str k) (fnd L T) = some (.loc (L + i)) ∧ (cells T)[i]? = some (some (.lst l)) ∧ l.length ≤ (T.map fun p => p.2.length).sum ∧ (cells T).set i (some (.lst (l ++ [.str x]))) = cells (addAt k x T)
  | [], _, h => by cases h
  | (a, l) :: T, L, h => by
    by_cases e : a = k
    · refine ⟨0, l.map .str, ?_, rfl, by simp, ?_⟩
      · show (bif decide (a = k) then some (D.loc L) else _) = _
        rw [decide_eq_true e]; rfl
      · unfold addAt
        rw [if_pos e]
        show some (D.lst (l.map .str ++ [.str x])) :: cells T = some (D.lst ((l ++ [x]).map .str)) :: cells T
        simp
    · have h : k ∈ keysT T := by
        rcases List.mem_cons.mp h with z | z
        · exact absurd z.symm e
        · exact z
      obtain ⟨i, m, h1, h2, h3, h4⟩ := fnd_at (T := T) (x := x) (L + 1) h
      refine ⟨i + 1, m, ?_, h2, by simp; omega, ?_⟩
      · show (bif decide (a = k) then _ else lkD (.str k) (fnd (L + 1) T)) = _
        rw [decide_eq_false e]
        show lkD (.str k) (fnd (L + 1) T) = _
        rw [h1, show L + 1 + i = L + (i + 1) by omega]
      · unfold addAt
        rw [if_neg e]
        show _ :: (cells T).set i _ = _ :: cells (addAt k x T)
        rw [h4]
def wide (T : Tb) : Nat := (T.map fun p => p.2.length).sum
theorem wide_add {k x : Str} : ∀ T : Tb, wide (addAt k x T) ≤ wide T + 1
  | [] => Nat.zero_le _
  | (a, l) :: r => by
    unfold addAt
    split
    · show (l ++ [x]).length + wide r ≤ l.length + wide r + 1; simp; omega
    · have := wide_add (k := k) (x := x) r
      show l.length + wide (addAt k x r) ≤ l.length + wide r + 1; omega
theorem keys_addAll {x : Str} : ∀ (ks : List Str) (T : Tb), keysT (addAll ks x T) = keysT T
  | [], _ => rfl
  | k :: ks, T => by
    show keysT (addAll ks x (addAt k x T)) = _
    rw [keys_addAll ks, keys_add]
theorem wide_addAll {x : Str} : ∀ (ks : List Str) (T : Tb), wide (addAll ks x T) ≤ wide T + ks.length
  | [], _ => Nat.le_refl _
  | k :: ks, T => by
    have h1 := wide_addAll (x := x) ks (addAt k x T)
    have h2 := wide_add (k := k) (x := x) T
    show wide (addAll ks x (addAt k x T)) ≤ _
    simp; omega
theorem keys_length {T U : Tb} (h : keysT T = keysT U) : T.length = U.length := by
  have := congrArg List.length h
  simpa [keysT] using this
/-! dict comprehensions -/
theorem hasD_app {k : D} : ∀ (a b : List (D × D)), hasD k (a ++ b) = (hasD k a || hasD k b)
  | [], b => rfl
  | (x, _) :: a, b => by
    show (keq x k || hasD k (a ++ b)) = _
    rw [hasD_app a b, ← Bool.or_assoc]; rfl
theorem dcA {α : Type} {j : J} {g : J → D → Gm → Option Gm} {mk mv : Gm → J → R D} {Γ : Gm} (a : α → D) (key : α → Str) (f : α → D) : ∀ (l : List α) (acc : List (D × D)), (∀ x ∈ l, ∃ Γ1, g j (a x) Γ = some Γ1 ∧ mk Γ1 j = .ok (.str (key x)) j ∧ mv Γ1 j = .ok (f x) j) → (l.map key).Nodup → (∀ x ∈ l, hasD (.str (key x)) acc = false) →
    dcMap g tT mk mv Γ (l.map a) acc j = .ok (acc ++ l.map fun x => (.str (key x), f x)) j
  | [], acc, _, _, _ => by show R.ok acc j = .ok (acc ++ []) j; rw [List.append_nil]
  | x :: l, acc, h, hn, ha => by
    obtain ⟨Γ1, h1, h2, h3⟩ := h x (List.mem_cons_self ..)
    rw [List.map_cons, List.nodup_cons] at hn
    have hp : putDK acc (.str (key x)) (f x) = acc ++ [(.str (key x), f x)] := by
      unfold putDK
      rw [ha x (List.mem_cons_self ..)]; rfl
    have ih := dcA a key f l (acc ++ [(.str (key x), f x)]) (fun y hy => h y (List.mem_cons_of_mem _ hy)) hn.2 fun y hy => by
      rw [hasD_app, ha y (List.mem_cons_of_mem _ hy)]
      have : ¬ key x = key y := fun e => hn.1 (by rw [e]; exact List.mem_map.mpr ⟨y, hy, rfl⟩)
      show (false || (decide (key x = key y) || false)) = false
      simp [this]
    show dcMap g tT mk mv Γ (a x :: l.map a) acc j = _
    unfold dcMap
    rw [h1]
    show (R.nox (.ok true j)).bind _ = _
    simp [h2, h3, isKey, hp, ih]
end On

set_option Elab.async false
set_option linter.all false
set_option maxRecDepth 100000
set_option maxHeartbeats 2000000
set_option autoImplicit false
namespace On
open PySem PySem.Spec PyProof.Rows L2
/-! ### what a layout has, plainly -/
def isCode (r : Ln) : Bool := decide (r.w = ("code" : Str))
def plR (rows : List Ln) : List (Int × Str) := (rows.filter fun r => !isCode r).map fun r => (r.d, r.n)
def clR (rows : List Ln) : List (Int × Str) := (rows.filter isCode).map fun r => (r.d, r.n)
def topS (rows : List (Int × Str)) : List Str := match endsS rows with
  | (_, l) :: _ => canS l
  | [] => []
def spotsS (fs ls : List Str) : List D := fs.flatMap fun f => ls.map fun l => .tup [.str f, .str l]
def namesD (rows : List (Int × Str)) : List D := ((("*" : Str) :: rows.map (·.2)).map .str)
def layF (text : Str) (rows : List Ln) : List (Str × D) :=
  [("own_text", .str text), ("own_files_of", .fdc (tabD (endsS (plR rows)))), ("own_leaves_of", .fdc (tabD (endsS (clR rows)))),
   ("places", .tup (namesD (plR rows))), ("codes", .tup (namesD (clR rows))),
   ("files", .tup ((topS (plR rows)).map .str)), ("leaves", .tup ((topS (clR rows)).map .str)), ("spots", .tup (spotsS (topS (plR rows)) (topS (clR rows))))]
def goodR (r : Ln) : Prop := isNameS r.n = true ∧ 0 ≤ r.d ∧ r.d ≤ 2 ∧ (r.w = "dir" ∨ r.w = "file" ∨ r.w = "code")
theorem lineS_good {x : Str} {r : Ln} (h : lineS x = some r) : goodR r := by
  unfold lineS at h
  split at h
  · rename_i w n _
    by_cases c : (blS x = 0 ∨ blS x = 2 ∨ blS x = 4) ∧ (w = "dir" ∨ w = "file" ∨ w = "code") ∧ isNameS n = true
    · rw [if_pos c] at h
      cases h
      obtain ⟨c1, c2, c3⟩ := c
      refine ⟨c3, ?_, ?_, c2⟩
      · show 0 ≤ blS x / 2; omega
      · show blS x / 2 ≤ 2; omega
    · rw [if_neg c] at h; cases h
  · cases h
theorem follow_new {rows : List Ln} {d : Int} {w n : Str} (h : followS rows d w n = true) : ∀ r ∈ rows, sameTree r w = true → r.n ≠ n := fun r hr hs e => by
  unfold followS at h
  have : (rows.any fun r => sameTree r w && decide (r.n = n)) = true := List.any_eq_true.mpr ⟨r, hr, by simp [hs, e]⟩
  rw [if_pos this] at h
  cases h
structure Okr (rows : List Ln) : Prop where
  good : ∀ r ∈ rows, goodR r
  pl : ((plR rows).map (·.2)).Nodup
  cl : ((clR rows).map (·.2)).Nodup
theorem Okr.snoc {rows : List Ln} {r : Ln} (h : Okr rows) (g : goodR r) (hf : followS rows r.d r.w r.n = true) : Okr (rows ++ [r]) := by
  have nw := follow_new hf
  refine ⟨fun x hx => ?_, ?_, ?_⟩
  · rcases List.mem_append.mp hx with z | z
    · exact h.good x z
    · rw [List.mem_singleton.mp z]; exact g
  · unfold plR
    rw [List.filter_append, List.map_append, List.map_append, List.nodup_append]
    refine ⟨h.pl, by cases hc : isCode r <;> simp [hc], fun a ha b hb e => ?_⟩
    subst e
    cases hc : isCode r with
    | true => simp [hc] at hb
    | false =>
      simp [hc] at hb ha
      obtain ⟨x, ⟨hx1, hx2⟩, hx3⟩ := ha
      refine nw x hx1 ?_ (hx3.trans hb)
      unfold sameTree
      have : decide (r.w = ("code" : Str)) = false := hc
      rw [this]
      have : decide (x.w = ("code" : Str)) = false := hx2
      rw [this]; rfl
  · unfold clR
    rw [List.filter_append, List.map_append, List.map_append, List.nodup_append]
    refine ⟨h.cl, by cases hc : isCode r <;> simp [hc], fun a ha b hb e => ?_⟩
    subst e
    cases hc : isCode r with
    | false => simp [hc] at hb
    | true =>
      simp [hc] at hb ha
      obtain ⟨x, ⟨hx1, hx2⟩, hx3⟩ := ha
      refine nw x hx1 ?_ (hx3.trans hb)
      unfold sameTree
      have : decide (r.w = ("code" : Str)) = true := hc
      rw [this]
      have : decide (x.w = ("code" : Str)) = true := hx2
      rw [this]; rfl
theorem readL_ok : ∀ {lines : List Str} {n : Int} {rows rows' : List Ln}, Okr rows → readL n rows lines = .ok rows' → Okr rows'
  | [], n, rows, rows', o, h => by cases h; exact o
  | x :: lines, n, rows, rows', o, h => by
    unfold readL at h
    split at h
    · cases h
    · rename_i r hr
      split at h
      · rename_i hf
        exact readL_ok (o.snoc (lineS_good hr) hf) h
      · cases h
theorem readS_ok {x : Str} {rows : List Ln} (h : readS x = .ok rows) : Okr rows ∧ rows.length = (Txt.split x "\n").length := by
  unfold readS at h
  split at h
  · cases h
  · rename_i rows' hr
    split at h
    · split at h
      · cases h
        exact ⟨readL_ok (rows := []) ⟨(fun _ z => by cases z), List.nodup_nil, List.nodup_nil⟩ hr, by have := readL_len hr; simpa using this⟩
      · cases h
    · cases h
theorem star_no {r : Ln} (h : goodR r) : r.n ≠ ("*" : Str) := fun e => by
  have := h.1
  rw [e] at this
  revert this
  decide +kernel
theorem plR_good {rows : List Ln} (h : Okr rows) : (("*" : Str) :: (plR rows).map (·.2)).Nodup ∧ (∀ r ∈ plR rows, 0 ≤ r.1 ∧ r.1 ≤ 2) ∧ (plR rows).length ≤ rows.length := by
  refine ⟨List.nodup_cons.mpr ⟨fun z => ?_, h.pl⟩, fun r hr => ?_, by unfold plR; rw [List.length_map]; exact List.length_filter_le ..⟩
  · simp [plR] at z
    obtain ⟨x, hx, e⟩ := z
    exact star_no (h.good x hx.1) e
  · simp [plR] at hr
    obtain ⟨x, hx, e⟩ := hr
    have := h.good x hx.1
    rw [← e]
    exact ⟨this.2.1, this.2.2.1⟩
theorem clR_good {rows : List Ln} (h : Okr rows) : (("*" : Str) :: (clR rows).map (·.2)).Nodup ∧ (∀ r ∈ clR rows, 0 ≤ r.1 ∧ r.1 ≤ 2) ∧ (clR rows).length ≤ rows.length := by
  refine ⟨List.nodup_cons.mpr ⟨fun z => ?_, h.cl⟩, fun r hr => ?_, by unfold clR; rw [List.length_map]; exact List.length_filter_le ..⟩
  · simp [clR] at z
    obtain ⟨x, hx, e⟩ := z
    exact star_no (h.good x hx.1) e
  · simp [clR] at hr
    obtain ⟨x, hx, e⟩ := hr
    have := h.good x hx.1
    rw [← e]
    exact ⟨this.2.1, this.2.2.1⟩
theorem ofS_inj {a b : String} : (Str.ofString a = Str.ofString b) = (a = b) := propext ⟨fun h => by
  have h1 := congrArg TL.tl h
  rw [TL.tl_ofString, TL.tl_ofString] at h1
  have h2 : a.toList = b.toList := by
    have inj : ∀ (l m : List Char), l.map Char.toNat = m.map Char.toNat → l = m := by
      intro l
      induction l with
      | nil => intro m e; cases m with
        | nil => rfl
        | cons _ _ => cases e
      | cons c l ih => intro m e; cases m with
        | nil => cases e
        | cons d m =>
          rw [List.map_cons, List.map_cons] at e
          have e1 := (List.cons.inj e).1
          rw [ih m (List.cons.inj e).2]
          congr 1
          exact Char.toNat_inj.mp e1
    exact inj _ _ h1
  exact String.toList_inj.mp h2, fun h => by rw [h]⟩
theorem ofS_beq {a b : String} : (Str.ofString a == Str.ofString b) = decide (a = b) := by
  by_cases h : a = b
  · simp [h]
  · have : ¬ Str.ofString a = Str.ofString b := by rw [ofS_inj]; exact h
    simp [h, this]
theorem ends_top_len {rows : List (Int × Str)} : True := trivial
theorem insS_len {x : Str} : ∀ l : List Str, (insS x l).length ≤ l.length + 1
  | [] => by simp [insS]
  | y :: l => by
    unfold insS
    have := insS_len (x := x) l
    split
    · simp
    · split
      · simp
      · simp; omega
theorem canS_len : ∀ l : List Str, (canS l).length ≤ l.length
  | [] => by simp [canS]
  | x :: l => by
    have := canS_len l
    have := insS_len (x := x) (canS l)
    show (insS x (canS l)).length ≤ _
    simp; omega
end On

set_option Elab.async false
set_option linter.all false
set_option maxRecDepth 100000
set_option maxHeartbeats 0
set_option autoImplicit false
namespace K19
open PySem PySem.Spec PyProof.Rows L2 On
section
variable {w : World} {mg : Str → Option Value} {base : Heap} {K : PySem.W.Frag}

theorem fe (T : TT fa ex fn sf tf mg K base) : FeI PR K mg (He.ga K "FallError") (He.ma K (He.ga K "FallError") "__init__") := by
  obtain ⟨h, X, G⟩ := T.at_
  obtain ⟨ty, cc, cda, S⟩ := supB_ok (P := PR) (d := ds "FallError" "FallError.__init__" 2 0) (ps := ["self", "value"]) X G (T.c.sup 0) (T.exs 0) rfl (by decide +kernel) (fun kV doc pm an cdv ct cc us hl => match us, hl with | [_, _], _ => rfl)
  exact ⟨⟨cc, cda, _, _, _, _, _, _, _, _, _, _, _, _, _, S, fun L => ⟨_, rfl⟩⟩, ty⟩
theorem fek (T : TT fa ex fn sf tf mg K base) (c : Nat) (h : decide (c < 10) = true) : FeK K (He.ga K "FallError") (He.ma K (He.ga K "FallError") "__init__") (cmK K c) := feKB_ok (rngB_ok (p := fun n => feKB K (He.ga K "FallError") (He.ma K (He.ga K "FallError") "__init__") (cmK K n)) (c := c) (T.exs 1) (Nat.zero_le _) (by have := of_decide_eq_true h; omega))
abbrev n_is_number : List Str := ["value", "least", "most"]
theorem sc_is_number : FnScope n_is_number ["value", "least", "most"] (defScope (top 15)) := ⟨rfl, rfl, rfl, by decide +kernel, rfl, by decide +kernel, by decide +kernel⟩
def b_is_number : Gm → J → RS :=
  (sRet (mAn (m1 (fun d => (isiD (tyLk ty_int) (owLk 10 ow_int) (owLk 0 ox_int) d).map .bl) (mVar 0)) (mAn (mNt (m1 (fun d => (isiD (tyLk ty_bool) (owLk 10 ow_bool) (owLk 0 ox_bool) d).map .bl) (mVar 0))) (mChain fLe fLe (mVar 1) (mVar 0) (mVar 2)))))
def f_is_number : List D → J → R D := defOf n_is_number 3 b_is_number
theorem h_is_number {f : Addr} {fd : FuncData} (T : TT fa ex fn sf tf mg K base) (F : FunD K (dd "is_number" 15).name (dd "is_number" 15).qual (dd "is_number" 15).params (dd "is_number" 15).body (dd "is_number" 15).scope ((dd "is_number" 15).dvs K) ((dd "is_number" 15).kws K) f fd) : FnG PR w K mg base (L2.CX PR w) 2 f fd ["value", "least", "most"] (spG (cb K) f_is_number) := by
  refine okG (C := cb K) (k := 1) F sc_is_number (m := b_is_number) (fun cdv hcdv A outer s H Ct E hC hr hgd => ?_)
  obtain ⟨b, H0, ρ0, J0, O0, slf⟩ := Ct
  cases hC
  exact (mb_one (ms_ret (me_and rfl (me_isi rfl rfl (T.free 2) (pe_bltn (v := .ty "int") rfl (T.free 1) (by decide +kernel) rfl) (.ty _) (isiB_ok (T.exs 2)) (ow_ok (T.exs 3) (T.exs 4)) (ox_ok (T.exs 5) (T.exs 6)) (mv 0)) (me_and rfl (me_not rfl (me_isi rfl rfl (T.free 2) (pe_bltn (v := .ty "bool") rfl (T.free 3) (by decide +kernel) rfl) (.ty _) (isiB_ok (T.exs 7)) (ow_ok (T.exs 3) (T.exs 8)) (ox_ok (T.exs 5) (T.exs 9)) (mv 0))) (me_one (me_chain op_le op_le od_icmp od_icmp (mv 1) (mv 0) (mv 2)))))))
theorem g_is_number (T : TT fa ex fn sf tf mg K base) : Gd PR w (cb K) mg base 2 "is_number" (spG (cb K) f_is_number) := by
  obtain ⟨fd, F⟩ := T.def_ 0 (d := dd "is_number" 15)
  exact ⟨_, fd, ["value", "least", "most"], h_is_number T F, T.glo 0, F.kp, FunD.bindsN (ps := ["value", "least", "most"]) F fun _ _ _ _ _ _ us hl => match us, hl with | [_, _, _], _ => rfl⟩
abbrev n_is_name : List Str := ["value", "sign"]
theorem sc_is_name : FnScope n_is_name ["value"] (defScope (top 16)) := ⟨rfl, rfl, rfl, by decide +kernel, rfl, by decide +kernel, by decide +kernel⟩
def b_is_name : Gm → J → RS :=
  (sRet (mAn (m1 (fun d => (isiD (tyLk ty_str) (owLk 10 ow_str) (owLk 0 ox_str) d).map .bl) (mVar 0)) (mAn (mChain fLe fLe (mC (.int 1)) (mB fLen (mCons (mVar 0) mNil)) (mC (.int 8))) (mB fAll (mCons (mLc (iSt (mVar 0)) (gN 1) tT (m2 (obl inS) (mVar 1) (mC (.str "abcdefghijklmnopqrstuvwxyz"))) (([("sign", 1)] : List (Str × Nat)).map (·.2))) mNil)))))
def f_is_name : List D → J → R D := defOf n_is_name 1 b_is_name
theorem h_is_name {f : Addr} {fd : FuncData} (T : TT fa ex fn sf tf mg K base) (F : FunD K (dd "is_name" 16).name (dd "is_name" 16).qual (dd "is_name" 16).params (dd "is_name" 16).body (dd "is_name" 16).scope ((dd "is_name" 16).dvs K) ((dd "is_name" 16).kws K) f fd) : FnG PR w K mg base (L2.CX PR w) 2 f fd ["value"] (spG (cb K) f_is_name) := by
  refine okG (C := cb K) (k := 1) F sc_is_name (m := b_is_name) (fun cdv hcdv A outer s H Ct E hC hr hgd => ?_)
  obtain ⟨b, H0, ρ0, J0, O0, slf⟩ := Ct
  cases hC
  exact (mb_one (ms_ret (me_and rfl (me_isi rfl rfl (T.free 2) (pe_bltn (v := .ty "str") rfl (T.free 5) (by decide +kernel) rfl) (.ty _) (isiB_ok (T.exs 10)) (ow_ok (T.exs 3) (T.exs 11)) (ox_ok (T.exs 5) (T.exs 12)) (mv 0)) (me_and rfl (me_chain op_le op_le od_icmp od_icmp me_int (me_callB call_len cd_len rfl (T.free 6) (by decide +kernel) (ma_cons (mv 0) ma_nil)) me_int) (me_one (me_callB (cr_all rfl) cd_all rfl (T.free 8) (by decide +kernel) (ma_cons (me_lc rfl sc_is_name.nd (mi_str (mv 0)) (blkOk_by (own := [("sign", 1)]) (by show blkC n_is_name (defScope (top 16)) _ _ = true; decide +kernel)) (fun _ _ _ _ _ => (mg_name (i := 1) sc_is_name.nd rfl (by first | exact Or.inl rfl | exact Or.inr rfl))) (fun _ _ _ _ _ => mts_nil) (fun _ _ _ _ _ => (me_cmp op_in_str od_inS (mv 1) (me_gstr rfl (T.str 7)) rfl)) (by decide)) ma_nil)))))))
theorem g_is_name (T : TT fa ex fn sf tf mg K base) : Gd PR w (cb K) mg base 2 "is_name" (spG (cb K) f_is_name) := by
  obtain ⟨fd, F⟩ := T.def_ 1 (d := dd "is_name" 16)
  exact ⟨_, fd, ["value"], h_is_name T F, T.glo 4, F.kp, FunD.bindsN (ps := ["value"]) F fun _ _ _ _ _ _ us hl => match us, hl with | [_], _ => rfl⟩
abbrev n_ascending : List Str := ["rows"]
theorem sc_ascending : FnScope n_ascending ["rows"] (defScope (top 18)) := ⟨rfl, rfl, rfl, by decide +kernel, rfl, by decide +kernel, by decide +kernel⟩
def b_ascending : Gm → J → RS :=
  (sRet (mB fTuple (mCons (mSrt (mVar 0)) mNil)))
def f_ascending : List D → J → R D := defOf n_ascending 1 b_ascending
theorem h_ascending {f : Addr} {fd : FuncData} (T : TT fa ex fn sf tf mg K base) (F : FunD K (dd "ascending" 18).name (dd "ascending" 18).qual (dd "ascending" 18).params (dd "ascending" 18).body (dd "ascending" 18).scope ((dd "ascending" 18).dvs K) ((dd "ascending" 18).kws K) f fd) : FnG PR w K mg base (L2.CX PR w) 2 f fd ["rows"] (spG (cb K) f_ascending) := by
  refine okG (C := cb K) (k := 1) F sc_ascending (m := b_ascending) (fun cdv hcdv A outer s H Ct E hC hr hgd => ?_)
  obtain ⟨b, H0, ρ0, J0, O0, slf⟩ := Ct
  cases hC
  exact (mb_one (ms_ret (me_callTy call_tuple_of cd_tuple rfl (T.free 12) (by decide +kernel) (ma_cons (me_srt rfl rfl rfl (T.free 10) rfl (T.free 11) (mv 0)) ma_nil))))
theorem g_ascending (T : TT fa ex fn sf tf mg K base) : Gd PR w (cb K) mg base 2 "ascending" (spG (cb K) f_ascending) := by
  obtain ⟨fd, F⟩ := T.def_ 2 (d := dd "ascending" 18)
  exact ⟨_, fd, ["rows"], h_ascending T F, T.glo 9, F.kp, FunD.bindsN (ps := ["rows"]) F fun _ _ _ _ _ _ us hl => match us, hl with | [_], _ => rfl⟩
abbrev n_is_rising : List Str := ["rows", "at"]
theorem sc_is_rising : FnScope n_is_rising ["rows"] (defScope (top 19)) := ⟨rfl, rfl, rfl, by decide +kernel, rfl, by decide +kernel, by decide +kernel⟩
def b_is_rising : Gm → J → RS :=
  (sRet (mB fAll (mCons (mLc (iR rng1 (mCons (m2 fSub (mB fLen (mCons (mVar 0) mNil)) (mC (.int 1))) mNil)) (gN 1) tT (m2 (obl fLt) (m2 fIx (mVar 0) (mVar 1)) (m2 fIx (mVar 0) (m2 fAdd (mVar 1) (mC (.int 1))))) (([("at", 1)] : List (Str × Nat)).map (·.2))) mNil)))
def f_is_rising : List D → J → R D := defOf n_is_rising 1 b_is_rising
theorem h_is_rising {f : Addr} {fd : FuncData} (T : TT fa ex fn sf tf mg K base) (F : FunD K (dd "is_rising" 19).name (dd "is_rising" 19).qual (dd "is_rising" 19).params (dd "is_rising" 19).body (dd "is_rising" 19).scope ((dd "is_rising" 19).dvs K) ((dd "is_rising" 19).kws K) f fd) : FnG PR w K mg base (L2.CX PR w) 2 f fd ["rows"] (spG (cb K) f_is_rising) := by
  refine okG (C := cb K) (k := 1) F sc_is_rising (m := b_is_rising) (fun cdv hcdv A outer s H Ct E hC hr hgd => ?_)
  obtain ⟨b, H0, ρ0, J0, O0, slf⟩ := Ct
  cases hC
  exact (mb_one (ms_ret (me_callB (cr_all rfl) cd_all rfl (T.free 8) (by decide +kernel) (ma_cons (me_lc rfl sc_is_rising.nd (mi_range1 rfl (T.free 14) (ma_cons (me_op op_subU od_sub (me_callB call_len cd_len rfl (T.free 6) (by decide +kernel) (ma_cons (mv 0) ma_nil)) me_int) ma_nil)) (blkOk_by (own := [("at", 1)]) (by show blkC n_is_rising (defScope (top 19)) _ _ = true; decide +kernel)) (fun _ _ _ _ _ => (mg_name (i := 1) sc_is_rising.nd rfl (by first | exact Or.inl rfl | exact Or.inr rfl))) (fun _ _ _ _ _ => mts_nil) (fun _ _ _ _ _ => (me_cmp op_ltU od_lt (me_ix ix_seq od_ix (mv 0) (mv 1)) (me_ix ix_seq od_ix (mv 0) (me_op op_addU od_add (mv 1) me_int)) (nomark _))) (by decide)) ma_nil))))
theorem g_is_rising (T : TT fa ex fn sf tf mg K base) : Gd PR w (cb K) mg base 2 "is_rising" (spG (cb K) f_is_rising) := by
  obtain ⟨fd, F⟩ := T.def_ 3 (d := dd "is_rising" 19)
  exact ⟨_, fd, ["rows"], h_is_rising T F, T.glo 13, F.kp, FunD.bindsN (ps := ["rows"]) F fun _ _ _ _ _ _ us hl => match us, hl with | [_], _ => rfl⟩
abbrev n_like : List Str := ["one", "other", "at"]
theorem sc_like : FnScope n_like ["one", "other"] (defScope (top 20)) := ⟨rfl, rfl, rfl, by decide +kernel, rfl, by decide +kernel, by decide +kernel⟩
def b_like (f_like : List D → J → R D) : Gm → J → RS :=
  (sSeq (sIf (tV (m1 (fun d => (isiD (tyLk ty_tuple) (owLk 10 ow_tuple) (owLk 0 ox_tuple) d).map .bl) (mVar 0))) (sSeq (sIf (tOo (tNt (tV (m1 (fun d => (isiD (tyLk ty_tuple) (owLk 10 ow_tuple) (owLk 0 ox_tuple) d).map .bl) (mVar 1)))) (t2 neD (mB fLen (mCons (mVar 0) mNil)) (mB fLen (mCons (mVar 1) mNil)))) (sRet (mC (.bl false))) sNil) (sRet (mB fAll (mCons (mLc (iR rng1 (mCons (mB fLen (mCons (mVar 0) mNil)) mNil)) (gN 2) tT (mF f_like (mCons (m2 fIx (mVar 0) (mVar 2)) (mCons (m2 fIx (mVar 1) (mVar 2)) mNil))) (([("at", 2)] : List (Str × Nat)).map (·.2))) mNil)))) sNil) (sSeq (sIf (tV (m1 (fun d => (isiD (tyLk ty_str) (owLk 10 ow_str) (owLk 0 ox_str) d).map .bl) (mVar 0))) (sRet (mAn (m1 (fun d => (isiD (tyLk ty_str) (owLk 10 ow_str) (owLk 0 ox_str) d).map .bl) (mVar 1)) (m2 (obl eqD) (mVar 0) (mVar 1)))) sNil) (sSeq (sIf (tOo (tV (m1 (fun d => (isiD (tyLk ty_bool) (owLk 10 ow_bool) (owLk 0 ox_bool) d).map .bl) (mVar 0))) (tV (m1 (fun d => (isiD (tyLk ty_bool) (owLk 10 ow_bool) (owLk 0 ox_bool) d).map .bl) (mVar 1)))) (sRet (mAn (m1 (fun d => (isiD (tyLk ty_bool) (owLk 10 ow_bool) (owLk 0 ox_bool) d).map .bl) (mVar 0)) (mAn (m1 (fun d => (isiD (tyLk ty_bool) (owLk 10 ow_bool) (owLk 0 ox_bool) d).map .bl) (mVar 1)) (m2 (obl eqD) (mVar 0) (mVar 1))))) sNil) (sSeq (sIf (tV (m1 (fun d => (isiD (tyLk ty_int) (owLk 10 ow_int) (owLk 0 ox_int) d).map .bl) (mVar 0))) (sRet (mAn (m1 (fun d => (isiD (tyLk ty_int) (owLk 10 ow_int) (owLk 0 ox_int) d).map .bl) (mVar 1)) (m2 (obl eqD) (mVar 0) (mVar 1)))) sNil) (sRet (mAn (m2 (obl fIs) (mVar 0) (mC .non)) (m2 (obl fIs) (mVar 1) (mC .non))))))))
def f_like : Nat → List D → J → R D
  | 0 => fun _ _ => .bad
  | n + 1 => defOf n_like 2 (b_like (f_like n))
theorem g_like (T : TT fa ex fn sf tf mg K base) : ∀ n, Gd PR w (cb K) mg base (n + 1) "like" (spG (cb K) (f_like n))
  | 0 => by
    obtain ⟨fd, F⟩ := T.def_ 4 (d := dd "like" 20)
    exact ⟨_, fd, ["one", "other"], FnG.none spG_bad, T.glo 15, F.kp, FunD.bindsN (ps := ["one", "other"]) F fun _ _ _ _ _ _ us hl => match us, hl with | [_, _], _ => rfl⟩
  | n + 1 => by
    have ih := g_like T n
    obtain ⟨fd, F⟩ := T.def_ 4 (d := dd "like" 20)
    refine ⟨_, fd, ["one", "other"], (okG (k := n + 1) F sc_like (m := b_like (f_like n)) (fun cdv hcdv A outer s H Ct E hC hr hgd => ?_)).mono (by omega), T.glo 15, F.kp, FunD.bindsN (ps := ["one", "other"]) F fun _ _ _ _ _ _ us hl => match us, hl with | [_, _], _ => rfl⟩
    obtain ⟨b, H0, ρ0, J0, O0, slf⟩ := Ct
    cases hC
    exact (mb_cons (ms_if (mt_val rfl (me_isi rfl rfl (T.free 2) (pe_bltn (v := .ty "tuple") rfl (T.free 12) (by decide +kernel) rfl) (.ty _) (isiB_ok (T.exs 13)) (ow_ok (T.exs 3) (T.exs 14)) (ox_ok (T.exs 5) (T.exs 15)) (mv 0))) (mb_cons (ms_if (PW.pt (mw_or (mt_not (mt_val rfl (me_isi rfl rfl (T.free 2) (pe_bltn (v := .ty "tuple") rfl (T.free 12) (by decide +kernel) rfl) (.ty _) (isiB_ok (T.exs 13)) (ow_ok (T.exs 3) (T.exs 14)) (ox_ok (T.exs 5) (T.exs 15)) (mv 1)))) (mw_or1 (mt_cmp (op_neU hr.units) od_ne (me_callB call_len cd_len rfl (T.free 6) (by decide +kernel) (ma_cons (mv 0) ma_nil)) (me_callB call_len cd_len rfl (T.free 6) (by decide +kernel) (ma_cons (mv 1) ma_nil)) (nomark _))))) (mb_one (ms_ret me_bl)) mb_nil) (mb_one (ms_ret (me_callB (cr_all rfl) cd_all rfl (T.free 8) (by decide +kernel) (ma_cons (me_lc rfl sc_like.nd (mi_range1 rfl (T.free 14) (ma_cons (me_callB call_len cd_len rfl (T.free 6) (by decide +kernel) (ma_cons (mv 0) ma_nil)) ma_nil)) (blkOk_by (own := [("at", 2)]) (by show blkC n_like (defScope (top 20)) _ _ = true; decide +kernel)) (fun _ _ _ _ _ => (mg_name (i := 2) sc_like.nd rfl (by first | exact Or.inl rfl | exact Or.inr rfl))) (fun _ _ _ _ _ => mts_nil) (fun _ _ _ _ _ => (me_gcall takes0 ih rfl (hr.mono (by omega)) hgd rfl (ma_cons (me_ix ix_seq od_ix (mv 0) (mv 2)) (ma_cons (me_ix ix_seq od_ix (mv 1) (mv 2)) ma_nil)))) (by decide)) ma_nil))))) mb_nil) (mb_cons (ms_if (mt_val rfl (me_isi rfl rfl (T.free 2) (pe_bltn (v := .ty "str") rfl (T.free 5) (by decide +kernel) rfl) (.ty _) (isiB_ok (T.exs 10)) (ow_ok (T.exs 3) (T.exs 11)) (ox_ok (T.exs 5) (T.exs 12)) (mv 0))) (mb_one (ms_ret (me_and rfl (me_isi rfl rfl (T.free 2) (pe_bltn (v := .ty "str") rfl (T.free 5) (by decide +kernel) rfl) (.ty _) (isiB_ok (T.exs 10)) (ow_ok (T.exs 3) (T.exs 11)) (ox_ok (T.exs 5) (T.exs 12)) (mv 1)) (me_one (me_cmp (op_eqU hr.units) od_eq (mv 0) (mv 1) (nomark _)))))) mb_nil) (mb_cons (ms_if (PW.pt (mw_or (mt_val rfl (me_isi rfl rfl (T.free 2) (pe_bltn (v := .ty "bool") rfl (T.free 3) (by decide +kernel) rfl) (.ty _) (isiB_ok (T.exs 7)) (ow_ok (T.exs 3) (T.exs 8)) (ox_ok (T.exs 5) (T.exs 9)) (mv 0))) (mw_or1 (mt_val rfl (me_isi rfl rfl (T.free 2) (pe_bltn (v := .ty "bool") rfl (T.free 3) (by decide +kernel) rfl) (.ty _) (isiB_ok (T.exs 7)) (ow_ok (T.exs 3) (T.exs 8)) (ox_ok (T.exs 5) (T.exs 9)) (mv 1)))))) (mb_one (ms_ret (me_and rfl (me_isi rfl rfl (T.free 2) (pe_bltn (v := .ty "bool") rfl (T.free 3) (by decide +kernel) rfl) (.ty _) (isiB_ok (T.exs 7)) (ow_ok (T.exs 3) (T.exs 8)) (ox_ok (T.exs 5) (T.exs 9)) (mv 0)) (me_and rfl (me_isi rfl rfl (T.free 2) (pe_bltn (v := .ty "bool") rfl (T.free 3) (by decide +kernel) rfl) (.ty _) (isiB_ok (T.exs 7)) (ow_ok (T.exs 3) (T.exs 8)) (ox_ok (T.exs 5) (T.exs 9)) (mv 1)) (me_one (me_cmp (op_eqU hr.units) od_eq (mv 0) (mv 1) (nomark _))))))) mb_nil) (mb_cons (ms_if (mt_val rfl (me_isi rfl rfl (T.free 2) (pe_bltn (v := .ty "int") rfl (T.free 1) (by decide +kernel) rfl) (.ty _) (isiB_ok (T.exs 2)) (ow_ok (T.exs 3) (T.exs 4)) (ox_ok (T.exs 5) (T.exs 6)) (mv 0))) (mb_one (ms_ret (me_and rfl (me_isi rfl rfl (T.free 2) (pe_bltn (v := .ty "int") rfl (T.free 1) (by decide +kernel) rfl) (.ty _) (isiB_ok (T.exs 2)) (ow_ok (T.exs 3) (T.exs 4)) (ox_ok (T.exs 5) (T.exs 6)) (mv 1)) (me_one (me_cmp (op_eqU hr.units) od_eq (mv 0) (mv 1) (nomark _)))))) mb_nil) (mb_one (ms_ret (me_and rfl (me_cmp op_isN od_is (mv 0) me_non (nomark _)) (me_one (me_cmp op_isN od_is (mv 1) me_non (nomark _))))))))))
abbrev n_is_among : List Str := ["value", "rows", "row"]
theorem sc_is_among : FnScope n_is_among ["value", "rows"] (defScope (top 21)) := ⟨rfl, rfl, rfl, by decide +kernel, rfl, by decide +kernel, by decide +kernel⟩
def b_is_among : Gm → J → RS :=
  (sRet (mB fAny (mCons (mLc (iS (mVar 1)) (gN 2) tT (mF (f_like 1) (mCons (mVar 2) (mCons (mVar 0) mNil))) (([("row", 2)] : List (Str × Nat)).map (·.2))) mNil)))
def f_is_among : List D → J → R D := defOf n_is_among 2 b_is_among
theorem h_is_among {f : Addr} {fd : FuncData} (T : TT fa ex fn sf tf mg K base) (F : FunD K (dd "is_among" 21).name (dd "is_among" 21).qual (dd "is_among" 21).params (dd "is_among" 21).body (dd "is_among" 21).scope ((dd "is_among" 21).dvs K) ((dd "is_among" 21).kws K) f fd) : FnG PR w K mg base (L2.CX PR w) 3 f fd ["value", "rows"] (spG (cb K) f_is_among) := by
  refine okG (C := cb K) (k := 2) F sc_is_among (m := b_is_among) (fun cdv hcdv A outer s H Ct E hC hr hgd => ?_)
  obtain ⟨b, H0, ρ0, J0, O0, slf⟩ := Ct
  cases hC
  exact (mb_one (ms_ret (me_callB (cr_any rfl) cd_any rfl (T.free 17) (by decide +kernel) (ma_cons (me_lc rfl sc_is_among.nd (mi_seq rfl (mv 1)) (blkOk_by (own := [("row", 2)]) (by show blkC n_is_among (defScope (top 21)) _ _ = true; decide +kernel)) (fun _ _ _ _ _ => (mg_name (i := 2) sc_is_among.nd rfl (by first | exact Or.inl rfl | exact Or.inr rfl))) (fun _ _ _ _ _ => mts_nil) (fun _ _ _ _ _ => (me_gcall takes0 (g_like T 1) rfl (hr.mono (by decide : 2 ≤ 2)) hgd rfl (ma_cons (mv 2) (ma_cons (mv 0) ma_nil)))) (by decide)) ma_nil))))
theorem g_is_among (T : TT fa ex fn sf tf mg K base) : Gd PR w (cb K) mg base 3 "is_among" (spG (cb K) f_is_among) := by
  obtain ⟨fd, F⟩ := T.def_ 5 (d := dd "is_among" 21)
  exact ⟨_, fd, ["value", "rows"], h_is_among T F, T.glo 16, F.kp, FunD.bindsN (ps := ["value", "rows"]) F fun _ _ _ _ _ _ us hl => match us, hl with | [_, _], _ => rfl⟩
abbrev n_line_parts : List Str := ["line", "blanks", "words"]
theorem sc_line_parts : FnScope n_line_parts ["line"] (defScope (top 29)) := ⟨rfl, rfl, rfl, by decide +kernel, rfl, by decide +kernel, by decide +kernel⟩
def b_line_parts : Gm → J → RS :=
  (sSeq (sSet 1 (m2 fSub (mB fLen (mCons (mVar 0) mNil)) (mB fLen (mCons (mLst1 (mVar 0) (mC (.str " "))) mNil)))) (sSeq (sSet 2 (mSplit (mSl fSl (mVar 0) (oS (mVar 1)) oN) (mC (.str " ")))) (sSeq (sIf (tOo (t2 ninD (mVar 1) (mTup (mCons (mC (.int 0)) (mCons (mC (.int 2)) (mCons (m2 fMul (mC (.int 2)) (mC (.int 2))) mNil))))) (t2 neD (mB fLen (mCons (mVar 2) mNil)) (mC (.int 2)))) (sRet (mC .non)) sNil) (sSeq (sIf (tOo (t2 ninD (m2 fIx (mVar 2) (mC (.int 0))) (mTup (mCons (mC (.str "dir")) (mCons (mC (.str "file")) (mCons (mC (.str "code")) mNil))))) (tNt (tV (mF f_is_name (mCons (m2 fIx (mVar 2) (mC (.int 1))) mNil))))) (sRet (mC .non)) sNil) (sRet (mTup (mCons (m2 fDiv (mVar 1) (mC (.int 2))) (mCons (m2 fIx (mVar 2) (mC (.int 0))) (mCons (m2 fIx (mVar 2) (mC (.int 1))) mNil)))))))))
def f_line_parts : List D → J → R D := defOf n_line_parts 1 b_line_parts
theorem h_line_parts {f : Addr} {fd : FuncData} (T : TT fa ex fn sf tf mg K base) (F : FunD K (dd "line_parts" 29).name (dd "line_parts" 29).qual (dd "line_parts" 29).params (dd "line_parts" 29).body (dd "line_parts" 29).scope ((dd "line_parts" 29).dvs K) ((dd "line_parts" 29).kws K) f fd) : FnG PR w K mg base (L2.CX PR w) 3 f fd ["line"] (spG (cb K) f_line_parts) := by
  refine okG (C := cb K) (k := 2) F sc_line_parts (m := b_line_parts) (fun cdv hcdv A outer s H Ct E hC hr hgd => ?_)
  obtain ⟨b, H0, ρ0, J0, O0, slf⟩ := Ct
  cases hC
  exact (mb_cons (ms_set (i := 1) sc_line_parts.nd rfl (by first | exact Or.inl rfl | exact Or.inr rfl) (me_op op_subU od_sub (me_callB call_len cd_len rfl (T.free 6) (by decide +kernel) (ma_cons (mv 0) ma_nil)) (me_callB call_len cd_len rfl (T.free 6) (by decide +kernel) (ma_cons (me_lstrip (mv 0) me_str) ma_nil)))) (mb_cons (ms_set (i := 2) sc_line_parts.nd rfl (by first | exact Or.inl rfl | exact Or.inr rfl) (me_new (mn_split (me_slice sl_U sd_U (mv 0) (mo_some (mv 1)) mo_none) me_str))) (mb_cons (ms_if (PW.pt (mw_or (mt_cmp op_notIn_seq od_nin (mv 1) (me_tup (ma_cons me_int (ma_cons (me_gint rfl (T.int 19)) (ma_cons (me_op op_mulU od_mul (me_gint rfl (T.int 19)) (me_gint rfl (T.int 20))) ma_nil)))) rfl) (mw_or1 (mt_cmp (op_neU hr.units) od_ne (me_callB call_len cd_len rfl (T.free 6) (by decide +kernel) (ma_cons (mv 2) ma_nil)) me_int (nomark _))))) (mb_one (ms_ret me_non)) mb_nil) (mb_cons (ms_if (PW.pt (mw_or (mt_cmp op_notIn_seq od_nin (me_ix ix_seq od_ix (mv 2) me_int) (me_tup (ma_cons (me_gstr rfl (T.str 21)) (ma_cons (me_gstr rfl (T.str 22)) (ma_cons (me_gstr rfl (T.str 23)) ma_nil)))) rfl) (mw_or1 (mt_not (mt_val rfl (me_gcall (takes_of rfl rfl rfl rfl) (g_is_name T) rfl (hr.mono (by decide : 2 ≤ 2)) hgd rfl (ma_cons (me_ix ix_seq od_ix (mv 2) me_int) ma_nil))))))) (mb_one (ms_ret me_non)) mb_nil) (mb_one (ms_ret (me_tup (ma_cons (me_op op_fdivW od_div (mv 1) (me_gint rfl (T.int 19))) (ma_cons (me_ix ix_seq od_ix (mv 2) me_int) (ma_cons (me_ix ix_seq od_ix (mv 2) me_int) ma_nil))))))))))
theorem g_line_parts (T : TT fa ex fn sf tf mg K base) : Gd PR w (cb K) mg base 3 "line_parts" (spG (cb K) f_line_parts) := by
  obtain ⟨fd, F⟩ := T.def_ 6 (d := dd "line_parts" 29)
  exact ⟨_, fd, ["line"], h_line_parts T F, T.glo 18, F.kp, FunD.bindsN (ps := ["line"]) F fun _ _ _ _ _ _ us hl => match us, hl with | [_], _ => rfl⟩
abbrev n_can_follow : List Str := ["rows", "depth", "word", "name", "level", "elder", "other"]
theorem sc_can_follow : FnScope n_can_follow ["rows", "depth", "word", "name"] (defScope (top 30)) := ⟨rfl, rfl, rfl, by decide +kernel, rfl, by decide +kernel, by decide +kernel⟩
def b_can_follow : Gm → J → RS :=
  (sSeq (sIf (t2 inD (mVar 3) (mLc (iS (mVar 0)) (gT 3 (gsCons (gN 4) (gsCons (gN 5) (gsCons (gN 6) gsNil)))) (t2 eqD (m2 (obl eqD) (mVar 5) (mC (.str "code"))) (m2 (obl eqD) (mVar 2) (mC (.str "code")))) (mVar 6) (([("level", 4), ("elder", 5), ("other", 6)] : List (Str × Nat)).map (·.2)))) (sRet (mC (.bl false))) sNil) (sSeq (sIf (t2 eqE (mVar 0) (mLst mNil)) (sRet (mAn (m2 (obl neD) (mVar 2) (mC (.str "code"))) (m2 (obl eqD) (mVar 1) (mC (.int 0))))) sNil) (sSeq (sAsg (m2 fIx (mVar 0) (m1 fNeg (mC (.int 1)))) (gT 3 (gsCons (gN 4) (gsCons (gN 5) (gsCons (gN 6) gsNil))))) (sSeq (sIf (t2 eqD (mVar 5) (mC (.str "dir"))) (sRet (mAn (m2 (obl neD) (mVar 2) (mC (.str "code"))) (m2 (obl eqD) (mVar 1) (m2 fAdd (mVar 4) (mC (.int 1)))))) sNil) (sSeq (sIf (t2 eqD (mVar 5) (mC (.str "code"))) (sRet (mAn (m2 (obl eqD) (mVar 2) (mC (.str "code"))) (m2 (obl fLe) (mVar 1) (m2 fAdd (mVar 4) (mC (.int 1)))))) sNil) (sRet (mIf (t2 eqD (mVar 2) (mC (.str "code"))) (m2 (obl eqD) (mVar 1) (mC (.int 0))) (m2 (obl fLe) (mVar 1) (mVar 4)))))))))
def f_can_follow : List D → J → R D := defOf n_can_follow 4 b_can_follow
theorem h_can_follow {f : Addr} {fd : FuncData} (T : TT fa ex fn sf tf mg K base) (F : FunD K (dd "can_follow" 30).name (dd "can_follow" 30).qual (dd "can_follow" 30).params (dd "can_follow" 30).body (dd "can_follow" 30).scope ((dd "can_follow" 30).dvs K) ((dd "can_follow" 30).kws K) f fd) : FnG PR w K mg base (L2.CX PR w) 2 f fd ["rows", "depth", "word", "name"] (spG (cb K) f_can_follow) := by
  refine okG (C := cb K) (k := 1) F sc_can_follow (m := b_can_follow) (fun cdv hcdv A outer s H Ct E hC hr hgd => ?_)
  obtain ⟨b, H0, ρ0, J0, O0, slf⟩ := Ct
  cases hC
  exact (mb_cons (ms_if (mt_cmp op_in_seq od_in (mv 3) (me_lc rfl sc_can_follow.nd (mi_seq rfl (mv 0)) (blkOk_by (own := [("level", 4), ("elder", 5), ("other", 6)]) (by show blkC n_can_follow (defScope (top 30)) _ _ = true; decide +kernel)) (fun _ _ _ _ _ => (mg_tup rfl rfl (mgs_cons (mg_name (i := 4) sc_can_follow.nd rfl (by first | exact Or.inl rfl | exact Or.inr rfl)) (mgs_cons (mg_name (i := 5) sc_can_follow.nd rfl (by first | exact Or.inl rfl | exact Or.inr rfl)) (mgs_cons (mg_name (i := 6) sc_can_follow.nd rfl (by first | exact Or.inl rfl | exact Or.inr rfl)) mgs_nil))))) (fun _ _ _ _ _ => (mts_one (mt_cmp (op_eqU hr.units) od_eq (me_cmp (op_eqU hr.units) od_eq (mv 5) (me_gstr rfl (T.str 23)) (nomark _)) (me_cmp (op_eqU hr.units) od_eq (mv 2) (me_gstr rfl (T.str 23)) (nomark _)) (nomark _)))) (fun _ _ _ _ _ => (mv 6)) (by decide)) rfl) (mb_one (ms_ret me_bl)) mb_nil) (mb_cons (ms_if (mt_cmp (op_eqE hr.units) od_eqE (mv 0) (me_lst ma_nil) (nomark _)) (mb_one (ms_ret (me_and rfl (me_cmp (op_neU hr.units) od_ne (mv 2) (me_gstr rfl (T.str 23)) (nomark _)) (me_one (me_cmp (op_eqU hr.units) od_eq (mv 1) me_int (nomark _)))))) mb_nil) (mb_cons (ms_asg (me_ix ix_seq od_ix (mv 0) (me_un un_neg ud_neg me_int)) (mg_tup rfl rfl (mgs_cons (mg_name (i := 4) sc_can_follow.nd rfl (by first | exact Or.inl rfl | exact Or.inr rfl)) (mgs_cons (mg_name (i := 5) sc_can_follow.nd rfl (by first | exact Or.inl rfl | exact Or.inr rfl)) (mgs_cons (mg_name (i := 6) sc_can_follow.nd rfl (by first | exact Or.inl rfl | exact Or.inr rfl)) mgs_nil))))) (mb_cons (ms_if (mt_cmp (op_eqU hr.units) od_eq (mv 5) (me_gstr rfl (T.str 21)) (nomark _)) (mb_one (ms_ret (me_and rfl (me_cmp (op_neU hr.units) od_ne (mv 2) (me_gstr rfl (T.str 23)) (nomark _)) (me_one (me_cmp (op_eqU hr.units) od_eq (mv 1) (me_op op_addU od_add (mv 4) me_int) (nomark _)))))) mb_nil) (mb_cons (ms_if (mt_cmp (op_eqU hr.units) od_eq (mv 5) (me_gstr rfl (T.str 23)) (nomark _)) (mb_one (ms_ret (me_and rfl (me_cmp (op_eqU hr.units) od_eq (mv 2) (me_gstr rfl (T.str 23)) (nomark _)) (me_one (me_cmp op_le od_icmp (mv 1) (me_op op_addU od_add (mv 4) me_int) (nomark _)))))) mb_nil) (mb_one (ms_ret (me_if (mt_cmp (op_eqU hr.units) od_eq (mv 2) (me_gstr rfl (T.str 23)) (nomark _)) (me_cmp (op_eqU hr.units) od_eq (mv 1) me_int (nomark _)) (me_cmp op_le od_icmp (mv 1) (mv 4) (nomark _))))))))))
theorem g_can_follow (T : TT fa ex fn sf tf mg K base) : Gd PR w (cb K) mg base 2 "can_follow" (spG (cb K) f_can_follow) := by
  obtain ⟨fd, F⟩ := T.def_ 7 (d := dd "can_follow" 30)
  exact ⟨_, fd, ["rows", "depth", "word", "name"], h_can_follow T F, T.glo 24, F.kp, FunD.bindsN (ps := ["rows", "depth", "word", "name"]) F fun _ _ _ _ _ _ us hl => match us, hl with | [_, _, _, _], _ => rfl⟩
abbrev n_read_layout : List Str := ["text", "rows", "number", "line", "parts"]
theorem sc_read_layout : FnScope n_read_layout ["text"] (defScope (top 31)) := ⟨rfl, rfl, rfl, by decide +kernel, rfl, by decide +kernel, by decide +kernel⟩
def b_read_layout : Gm → J → RS :=
  (sSeq (sIf (tNt (tV (m1 (fun d => (isiD (tyLk ty_str) (owLk 10 ow_str) (owLk 0 ox_str) d).map .bl) (mVar 0)))) (sRaise 1 (mC (.int 0))) sNil) (sSeq (sOwn 1 mNil) (sSeq (sFor (iEnC 1 (mSplit (mVar 0) (mC (.str "\n")))) (gT 2 (gsCons (gN 2) (gsCons (gN 3) gsNil))) (sSeq (sSet 4 (mF f_line_parts (mCons (mVar 3) mNil))) (sSeq (sIf (tOo (t2 fIs (mVar 4) (mC .non)) (tNt (tV (mBor f_can_follow 1 (mCons (m2 fIx (mVar 4) (mC (.int 0))) (mCons (m2 fIx (mVar 4) (mC (.int 1))) (mCons (m2 fIx (mVar 4) (mC (.int 2))) mNil))))))) (sRaise 1 (mVar 2)) sNil) (sApp 1 (mVar 4))))) (fun Γ j => (sSeq (sIf (t2 neD (m2 fIx (m2 fIx (mVar 1) (m1 fNeg (mC (.int 1)))) (mC (.int 1))) (mC (.str "code"))) (sRaise 1 (m2 fAdd (mB fLen (mCons (mVar 1) mNil)) (mC (.int 1)))) sNil) (sRet (mVar 1))) (frzG 1 Γ) j))))
def f_read_layout : List D → J → R D := defOf n_read_layout 1 b_read_layout
theorem h_read_layout {f : Addr} {fd : FuncData} (T : TT fa ex fn sf tf mg K base) (F : FunD K (dd "read_layout" 31).name (dd "read_layout" 31).qual (dd "read_layout" 31).params (dd "read_layout" 31).body (dd "read_layout" 31).scope ((dd "read_layout" 31).dvs K) ((dd "read_layout" 31).kws K) f fd) : FnG PR w K mg base (L2.CX PR w) 4 f fd ["text"] (spG (cb K) f_read_layout) := by
  refine okG (C := cb K) (k := 3) F sc_read_layout (m := b_read_layout) (fun cdv hcdv A outer s H Ct E hC hr hgd => ?_)
  obtain ⟨b, H0, ρ0, J0, O0, slf⟩ := Ct
  cases hC
  exact (mb_cons (ms_if (mt_not (mt_val rfl (me_isi rfl rfl (T.free 2) (pe_bltn (v := .ty "str") rfl (T.free 5) (by decide +kernel) rfl) (.ty _) (isiB_ok (T.exs 10)) (ow_ok (T.exs 3) (T.exs 11)) (ox_ok (T.exs 5) (T.exs 12)) (mv 0)))) (mb_one (ms_raise rfl (takes_of rfl rfl rfl rfl) (fe T) (fek T 1 (by decide)) (hr.mono (by decide : 1 ≤ 3)) rfl (T.glo 26) me_int)) mb_nil) (mb_cons (ms_own (i := 1) sc_read_layout.nd rfl (by first | exact Or.inl rfl | exact Or.inr rfl) ma_nil) (mb_cons (ms_for (passes_of rfl) rfl (mi_enumC (c := 1) rfl rfl (T.free 27) (me_new (mn_split (mv 0) me_str))) (mg_tup rfl rfl (mgs_cons (mg_name (i := 2) sc_read_layout.nd rfl (by first | exact Or.inl rfl | exact Or.inr rfl)) (mgs_cons (mg_name (i := 3) sc_read_layout.nd rfl (by first | exact Or.inl rfl | exact Or.inr rfl)) mgs_nil))) (mb_cons (ms_set (i := 4) sc_read_layout.nd rfl (by first | exact Or.inl rfl | exact Or.inr rfl) (me_gcall (takes_of rfl rfl rfl rfl) (g_line_parts T) rfl (hr.mono (by decide : 3 ≤ 3)) hgd rfl (ma_cons (mv 3) ma_nil))) (mb_cons (ms_if (PW.pt (mw_or (mt_cmp op_isN od_is (mv 4) me_non (nomark _)) (mw_or1 (mt_not (mt_val rfl (me_bor (i := 1) (takes_of rfl rfl rfl rfl) (g_can_follow T) rfl (hr.mono (by decide : 2 ≤ 3)) hgd rfl (pv 1) (ma_cons (me_ix ix_seq od_ix (mv 4) me_int) (ma_cons (me_ix ix_seq od_ix (mv 4) me_int) (ma_cons (me_ix ix_seq od_ix (mv 4) me_int) ma_nil))))))))) (mb_one (ms_raise rfl (takes_of rfl rfl rfl rfl) (fe T) (fek T 1 (by decide)) (hr.mono (by decide : 1 ≤ 3)) rfl (T.glo 26) (mv 2))) mb_nil) (mb_one (ms_app (i := 1) rfl (pv 1) (mv 4)))))) (mb_freeze 1 (mb_cons (ms_if (mt_cmp (op_neU hr.units) od_ne (me_ix ix_seq od_ix (me_ix ix_seq od_ix (mv 1) (me_un un_neg ud_neg me_int)) me_int) (me_gstr rfl (T.str 23)) (nomark _)) (mb_one (ms_raise rfl (takes_of rfl rfl rfl rfl) (fe T) (fek T 1 (by decide)) (hr.mono (by decide : 1 ≤ 3)) rfl (T.glo 26) (me_op op_addU od_add (me_callB call_len cd_len rfl (T.free 6) (by decide +kernel) (ma_cons (mv 1) ma_nil)) me_int))) mb_nil) (mb_one (ms_ret (mv 1))))))))
theorem g_read_layout (T : TT fa ex fn sf tf mg K base) : Gd PR w (cb K) mg base 4 "read_layout" (spG (cb K) f_read_layout) := by
  obtain ⟨fd, F⟩ := T.def_ 8 (d := dd "read_layout" 31)
  exact ⟨_, fd, ["text"], h_read_layout T F, T.glo 25, F.kp, FunD.bindsN (ps := ["text"]) F fun _ _ _ _ _ _ us hl => match us, hl with | [_], _ => rfl⟩
abbrev n_ends_of : List Str := ["rows", "found", "path", "at", "depth", "name", "above", "ends"]
theorem sc_ends_of : FnScope n_ends_of ["rows"] (defScope (top 32)) := ⟨rfl, rfl, rfl, by decide +kernel, rfl, by decide +kernel, by decide +kernel⟩
def b_ends_of : Gm → J → RS :=
  (sSeq (sOwnN 1 (mDsp (pCons (mC (.str "*")) (mLstM mNil) pNil))) (sSeq (sSet 2 (mLst mNil)) (sSeq (sFor (iR enOf (mCons (mVar 0) mNil)) (gT 2 (gsCons (gN 3) (gsCons (gT 2 (gsCons (gN 4) (gsCons (gN 5) gsNil))) gsNil))) (sSeq (sSet 2 (m2 fAdd (mSl fSl (mVar 2) oN (oS (mVar 4))) (mLst (mCons (mVar 5) mNil)))) (sSeq (sDput 1 (mVar 5) (mLstM mNil)) (sIf (tOo (t2 eqD (m2 fAdd (mVar 3) (mC (.int 1))) (mB fLen (mCons (mVar 0) mNil))) (t2 fLe (m2 fIx (m2 fIx (mVar 0) (m2 fAdd (mVar 3) (mC (.int 1)))) (mC (.int 0))) (mVar 4))) (sFor (iS (m2 fAdd (mLst (mCons (mC (.str "*")) mNil)) (mVar 2))) (gN 6) (sAppE (mOx fDx 1 (mVar 6)) (mVar 5))) sNil)))) (fun Γ j => (sRet (mDc (iFi (mVar 1)) (gT 2 (gsCons (gN 5) (gsCons (gN 7) gsNil))) tT (mVar 5) (mF f_ascending (mCons (mVar 7) mNil)) (([("name", 5), ("ends", 7)] : List (Str × Nat)).map (·.2)))) (frzL 1 Γ) j))))
def f_ends_of : List D → J → R D := defOf n_ends_of 1 b_ends_of
theorem h_ends_of {f : Addr} {fd : FuncData} (T : TT fa ex fn sf tf mg K base) (F : FunD K (dd "ends_of" 32).name (dd "ends_of" 32).qual (dd "ends_of" 32).params (dd "ends_of" 32).body (dd "ends_of" 32).scope ((dd "ends_of" 32).dvs K) ((dd "ends_of" 32).kws K) f fd) : FnG PR w K mg base (L2.CX PR w) 3 f fd ["rows"] (spG (cb K) f_ends_of) := by
  refine okG (C := cb K) (k := 2) F sc_ends_of (m := b_ends_of) (fun cdv hcdv A outer s H Ct E hC hr hgd => ?_)
  obtain ⟨b, H0, ρ0, J0, O0, slf⟩ := Ct
  cases hC
  exact (mb_cons (ms_ownN (i := 1) sc_ends_of.nd rfl (by first | exact Or.inl rfl | exact Or.inr rfl) (mn_dsp (mp_cons (me_gstr rfl (T.str 29)) (me_lstM ma_nil) mp_nil))) (mb_cons (ms_set (i := 2) sc_ends_of.nd rfl (by first | exact Or.inl rfl | exact Or.inr rfl) (me_lst ma_nil)) (mb_cons (ms_for (passes_of rfl) rfl (mi_enum rfl rfl (T.free 27) (ma_cons (mv 0) ma_nil)) (mg_tup rfl rfl (mgs_cons (mg_name (i := 3) sc_ends_of.nd rfl (by first | exact Or.inl rfl | exact Or.inr rfl)) (mgs_cons (mg_tup rfl rfl (mgs_cons (mg_name (i := 4) sc_ends_of.nd rfl (by first | exact Or.inl rfl | exact Or.inr rfl)) (mgs_cons (mg_name (i := 5) sc_ends_of.nd rfl (by first | exact Or.inl rfl | exact Or.inr rfl)) mgs_nil))) mgs_nil))) (mb_cons (ms_set (i := 2) sc_ends_of.nd rfl (by first | exact Or.inl rfl | exact Or.inr rfl) (me_op op_addU od_add (me_slice sl_U sd_U (mv 2) mo_none (mo_some (mv 4))) (me_lst (ma_cons (mv 5) ma_nil)))) (mb_cons (ms_dput (i := 1) hr.units (pv 1) (mv 5) (me_lstM ma_nil)) (mb_one (ms_if (PW.pt (mw_or (mt_cmp (op_eqU hr.units) od_eq (me_op op_addU od_add (mv 3) me_int) (me_callB call_len cd_len rfl (T.free 6) (by decide +kernel) (ma_cons (mv 0) ma_nil)) (nomark _)) (mw_or1 (mt_cmp op_le od_icmp (me_ix ix_seq od_ix (me_ix ix_seq od_ix (mv 0) (me_op op_addU od_add (mv 3) me_int)) me_int) (mv 4) (nomark _))))) (mb_one (ms_for (passes_of rfl) rfl (mi_seq rfl (me_op op_addU od_add (me_lst (ma_cons (me_gstr rfl (T.str 29)) ma_nil)) (mv 2))) (mg_name (i := 6) sc_ends_of.nd rfl (by first | exact Or.inl rfl | exact Or.inr rfl)) (mb_one (ms_appE rfl (me_odx (i := 1) hr.units (pv 1) (mv 6)) (mv 5))))) mb_nil))))) (mb_freezeL 1 (mb_one (ms_ret (me_dc rfl sc_ends_of.nd (mi_fitems (mv 1)) (blkOk_by (own := [("name", 5), ("ends", 7)]) (by show blkC n_ends_of (defScope (top 32)) _ _ = true; decide +kernel)) (fun _ _ _ _ _ => (mg_tup rfl rfl (mgs_cons (mg_name (i := 5) sc_ends_of.nd rfl (by first | exact Or.inl rfl | exact Or.inr rfl)) (mgs_cons (mg_name (i := 7) sc_ends_of.nd rfl (by first | exact Or.inl rfl | exact Or.inr rfl)) mgs_nil)))) (fun _ _ _ _ _ => mts_nil) (fun _ _ _ _ _ => (mv 5)) (fun _ _ _ _ _ => (me_gcall takes0 (g_ascending T) rfl (hr.mono (by decide : 2 ≤ 2)) hgd rfl (ma_cons (mv 7) ma_nil))) (by decide))))))))
theorem g_ends_of (T : TT fa ex fn sf tf mg K base) : Gd PR w (cb K) mg base 3 "ends_of" (spG (cb K) f_ends_of) := by
  obtain ⟨fd, F⟩ := T.def_ 9 (d := dd "ends_of" 32)
  exact ⟨_, fd, ["rows"], h_ends_of T F, T.glo 28, F.kp, FunD.bindsN (ps := ["rows"]) F fun _ _ _ _ _ _ us hl => match us, hl with | [_], _ => rfl⟩
abbrev n_Layout_init : List Str := ["self", "text", "rows", "depth", "word", "name", "file", "leaf"]
theorem sc_Layout_init : FnScope n_Layout_init ["self", "text"] (defScope (inCls (top 33) 0)) := ⟨rfl, rfl, rfl, by decide +kernel, rfl, by decide +kernel, by decide +kernel⟩
def b_Layout_init : Gm → J → RS :=
  (sSeq (sSet 2 (mF f_read_layout (mCons (mVar 1) mNil))) (sSeq (sSelf 0 "own_text" [10] (mVar 1)) (sSeq (sSelf 0 "own_files_of" [10] (mF f_ends_of (mCons (mLc (iS (mVar 2)) (gT 3 (gsCons (gN 3) (gsCons (gN 4) (gsCons (gN 5) gsNil)))) (t2 neD (mVar 4) (mC (.str "code"))) (mTup (mCons (mVar 3) (mCons (mVar 5) mNil))) (([("depth", 3), ("word", 4), ("name", 5)] : List (Str × Nat)).map (·.2))) mNil))) (sSeq (sSelf 0 "own_leaves_of" [10] (mF f_ends_of (mCons (mLc (iS (mVar 2)) (gT 3 (gsCons (gN 3) (gsCons (gN 4) (gsCons (gN 5) gsNil)))) (t2 eqD (mVar 4) (mC (.str "code"))) (mTup (mCons (mVar 3) (mCons (mVar 5) mNil))) (([("depth", 3), ("word", 4), ("name", 5)] : List (Str × Nat)).map (·.2))) mNil))) (sSeq (sSelf 0 "places" [10] (mB fTuple (mCons (mLc (iFk (mSelf 0 "own_files_of" [10])) (gN 5) tT (mVar 5) (([("name", 5)] : List (Str × Nat)).map (·.2))) mNil))) (sSeq (sSelf 0 "codes" [10] (mB fTuple (mCons (mLc (iFk (mSelf 0 "own_leaves_of" [10])) (gN 5) tT (mVar 5) (([("name", 5)] : List (Str × Nat)).map (·.2))) mNil))) (sSeq (sSelf 0 "files" [10] (m2 fDx (mSelf 0 "own_files_of" [10]) (mC (.str "*")))) (sSeq (sSelf 0 "leaves" [10] (m2 fDx (mSelf 0 "own_leaves_of" [10]) (mC (.str "*")))) (sSelf 0 "spots" [10] (mB fTuple (mCons (mLc2 (iS (mSelf 0 "files" [10])) (gN 6) tT (iS (mSelf 0 "leaves" [10])) (gN 7) tT (mTup (mCons (mVar 6) (mCons (mVar 7) mNil))) (([("file", 6), ("leaf", 7)] : List (Str × Nat)).map (·.2)) [7]) mNil)))))))))))
def f_Layout_init : List D → J → R (List (Str × D)) := initOf n_Layout_init 2 10 b_Layout_init
theorem g_Layout_init (T : TT fa ex fn sf tf mg K base) : Gi PR w (cb K) mg base 5 "Layout" 10 (spI (cb K) 10 f_Layout_init) := by
  obtain ⟨fd, F⟩ := T.def_ 10 (d := dm "Layout" "__init__" "Layout.__init__" 33 0)
  refine ⟨_, fd, ["self", "text"], okI (k := 4) (c := 10) F sc_Layout_init (m := b_Layout_init) (fun cdv hcdv A outer s H Ct E hC hr hgd => ?_), T.glo 30, T.mkr 31, FunD.bindsN (ps := ["self", "text"]) F fun _ _ _ _ _ _ us hl => match us, hl with | [_, _], _ => rfl⟩
  obtain ⟨b, H0, ρ0, J0, O0, slf⟩ := Ct
  cases hC
  exact (mb_cons (ms_set (i := 2) sc_Layout_init.nd rfl (by first | exact Or.inl rfl | exact Or.inr rfl) (me_gcall (takes_of rfl rfl rfl rfl) (g_read_layout T) rfl (hr.mono (by decide : 4 ≤ 4)) hgd rfl (ma_cons (mv 1) ma_nil))) (mb_cons (ms_self (i := 0) rfl (fld_ok (n0 := 10) (n := 3) (T.exs 3) (by decide) (T.exs 16)) (pv 0) (mv 1)) (mb_cons (ms_self (i := 0) rfl (fld_ok (n0 := 10) (n := 3) (T.exs 3) (by decide) (T.exs 17)) (pv 0) (me_gcall (takes_of rfl rfl rfl rfl) (g_ends_of T) rfl (hr.mono (by decide : 3 ≤ 4)) hgd rfl (ma_cons (me_lc rfl sc_Layout_init.nd (mi_seq rfl (mv 2)) (blkOk_by (own := [("depth", 3), ("word", 4), ("name", 5)]) (by show blkC n_Layout_init (defScope (inCls (top 33) 0)) _ _ = true; decide +kernel)) (fun _ _ _ _ _ => (mg_tup rfl rfl (mgs_cons (mg_name (i := 3) sc_Layout_init.nd rfl (by first | exact Or.inl rfl | exact Or.inr rfl)) (mgs_cons (mg_name (i := 4) sc_Layout_init.nd rfl (by first | exact Or.inl rfl | exact Or.inr rfl)) (mgs_cons (mg_name (i := 5) sc_Layout_init.nd rfl (by first | exact Or.inl rfl | exact Or.inr rfl)) mgs_nil))))) (fun _ _ _ _ _ => (mts_one (mt_cmp (op_neU hr.units) od_ne (mv 4) (me_gstr rfl (T.str 23)) (nomark _)))) (fun _ _ _ _ _ => (me_tup (ma_cons (mv 3) (ma_cons (mv 5) ma_nil)))) (by decide)) ma_nil))) (mb_cons (ms_self (i := 0) rfl (fld_ok (n0 := 10) (n := 3) (T.exs 3) (by decide) (T.exs 18)) (pv 0) (me_gcall (takes_of rfl rfl rfl rfl) (g_ends_of T) rfl (hr.mono (by decide : 3 ≤ 4)) hgd rfl (ma_cons (me_lc rfl sc_Layout_init.nd (mi_seq rfl (mv 2)) (blkOk_by (own := [("depth", 3), ("word", 4), ("name", 5)]) (by show blkC n_Layout_init (defScope (inCls (top 33) 0)) _ _ = true; decide +kernel)) (fun _ _ _ _ _ => (mg_tup rfl rfl (mgs_cons (mg_name (i := 3) sc_Layout_init.nd rfl (by first | exact Or.inl rfl | exact Or.inr rfl)) (mgs_cons (mg_name (i := 4) sc_Layout_init.nd rfl (by first | exact Or.inl rfl | exact Or.inr rfl)) (mgs_cons (mg_name (i := 5) sc_Layout_init.nd rfl (by first | exact Or.inl rfl | exact Or.inr rfl)) mgs_nil))))) (fun _ _ _ _ _ => (mts_one (mt_cmp (op_eqU hr.units) od_eq (mv 4) (me_gstr rfl (T.str 23)) (nomark _)))) (fun _ _ _ _ _ => (me_tup (ma_cons (mv 3) (ma_cons (mv 5) ma_nil)))) (by decide)) ma_nil))) (mb_cons (ms_self (i := 0) rfl (fld_ok (n0 := 10) (n := 3) (T.exs 3) (by decide) (T.exs 19)) (pv 0) (me_callTy call_tuple_of cd_tuple rfl (T.free 12) (by decide +kernel) (ma_cons (me_lc rfl sc_Layout_init.nd (mi_fkeys (me_self rfl (fld_ok (n0 := 10) (n := 3) (T.exs 3) (by decide) (T.exs 17)) (pv 0))) (blkOk_by (own := [("name", 5)]) (by show blkC n_Layout_init (defScope (inCls (top 33) 0)) _ _ = true; decide +kernel)) (fun _ _ _ _ _ => (mg_name (i := 5) sc_Layout_init.nd rfl (by first | exact Or.inl rfl | exact Or.inr rfl))) (fun _ _ _ _ _ => mts_nil) (fun _ _ _ _ _ => (mv 5)) (by decide)) ma_nil))) (mb_cons (ms_self (i := 0) rfl (fld_ok (n0 := 10) (n := 3) (T.exs 3) (by decide) (T.exs 20)) (pv 0) (me_callTy call_tuple_of cd_tuple rfl (T.free 12) (by decide +kernel) (ma_cons (me_lc rfl sc_Layout_init.nd (mi_fkeys (me_self rfl (fld_ok (n0 := 10) (n := 3) (T.exs 3) (by decide) (T.exs 18)) (pv 0))) (blkOk_by (own := [("name", 5)]) (by show blkC n_Layout_init (defScope (inCls (top 33) 0)) _ _ = true; decide +kernel)) (fun _ _ _ _ _ => (mg_name (i := 5) sc_Layout_init.nd rfl (by first | exact Or.inl rfl | exact Or.inr rfl))) (fun _ _ _ _ _ => mts_nil) (fun _ _ _ _ _ => (mv 5)) (by decide)) ma_nil))) (mb_cons (ms_self (i := 0) rfl (fld_ok (n0 := 10) (n := 3) (T.exs 3) (by decide) (T.exs 21)) (pv 0) (me_dx hr.units (me_self rfl (fld_ok (n0 := 10) (n := 3) (T.exs 3) (by decide) (T.exs 17)) (pv 0)) (me_gstr rfl (T.str 29)))) (mb_cons (ms_self (i := 0) rfl (fld_ok (n0 := 10) (n := 3) (T.exs 3) (by decide) (T.exs 22)) (pv 0) (me_dx hr.units (me_self rfl (fld_ok (n0 := 10) (n := 3) (T.exs 3) (by decide) (T.exs 18)) (pv 0)) (me_gstr rfl (T.str 29)))) (mb_one (ms_self (i := 0) rfl (fld_ok (n0 := 10) (n := 3) (T.exs 3) (by decide) (T.exs 23)) (pv 0) (me_callTy call_tuple_of cd_tuple rfl (T.free 12) (by decide +kernel) (ma_cons (me_lc2 rfl sc_Layout_init.nd (mi_seq rfl (me_self rfl (fld_ok (n0 := 10) (n := 3) (T.exs 3) (by decide) (T.exs 21)) (pv 0))) (blkOk_by (own := [("file", 6), ("leaf", 7)]) (by show blkC n_Layout_init (defScope (inCls (top 33) 0)) _ _ = true; decide +kernel)) (by decide) (fun _ _ _ _ _ => (mg_name (i := 6) sc_Layout_init.nd rfl (by first | exact Or.inl rfl | exact Or.inr rfl))) (fun _ _ _ _ _ => mts_nil) (fun _ _ _ _ _ => (mi_seq rfl (me_self rfl (fld_ok (n0 := 10) (n := 3) (T.exs 3) (by decide) (T.exs 22)) (pv 0)))) (fun _ _ _ _ _ => (mg_name (i := 7) sc_Layout_init.nd rfl (by first | exact Or.inl rfl | exact Or.inr rfl))) (fun _ _ _ _ _ => mts_nil) (fun _ _ _ _ _ => (me_tup (ma_cons (mv 6) (ma_cons (mv 7) ma_nil)))) (by decide) (by decide)) ma_nil))))))))))))
abbrev n_is_cell : List Str := ["layout", "place", "code"]
theorem sc_is_cell : FnScope n_is_cell ["layout", "place", "code"] (defScope (top 34)) := ⟨rfl, rfl, rfl, by decide +kernel, rfl, by decide +kernel, by decide +kernel⟩
def b_is_cell : Gm → J → RS :=
  (sSeq (sIf (tOo (tNt (tV (m1 (fun d => (isiD (tyLk ty_str) (owLk 10 ow_str) (owLk 0 ox_str) d).map .bl) (mVar 1)))) (tNt (tV (m1 (fun d => (isiD (tyLk ty_str) (owLk 10 ow_str) (owLk 0 ox_str) d).map .bl) (mVar 2))))) (sRet (mC (.bl false))) sNil) (sRet (mAn (m2 (obl inD) (mVar 1) (m1 (fldD "places" [10] []) (mVar 0))) (m2 (obl inD) (mVar 2) (m1 (fldD "codes" [10] []) (mVar 0))))))
def f_is_cell : List D → J → R D := defOf n_is_cell 3 b_is_cell
theorem h_is_cell {f : Addr} {fd : FuncData} (T : TT fa ex fn sf tf mg K base) (F : FunD K (dd "is_cell" 34).name (dd "is_cell" 34).qual (dd "is_cell" 34).params (dd "is_cell" 34).body (dd "is_cell" 34).scope ((dd "is_cell" 34).dvs K) ((dd "is_cell" 34).kws K) f fd) : FnG PR w K mg base (L2.CX PR w) 2 f fd ["layout", "place", "code"] (spG (cb K) f_is_cell) := by
  refine okG (C := cb K) (k := 1) F sc_is_cell (m := b_is_cell) (fun cdv hcdv A outer s H Ct E hC hr hgd => ?_)
  obtain ⟨b, H0, ρ0, J0, O0, slf⟩ := Ct
  cases hC
  exact (mb_cons (ms_if (PW.pt (mw_or (mt_not (mt_val rfl (me_isi rfl rfl (T.free 2) (pe_bltn (v := .ty "str") rfl (T.free 5) (by decide +kernel) rfl) (.ty _) (isiB_ok (T.exs 10)) (ow_ok (T.exs 3) (T.exs 11)) (ox_ok (T.exs 5) (T.exs 12)) (mv 1)))) (mw_or1 (mt_not (mt_val rfl (me_isi rfl rfl (T.free 2) (pe_bltn (v := .ty "str") rfl (T.free 5) (by decide +kernel) rfl) (.ty _) (isiB_ok (T.exs 10)) (ow_ok (T.exs 3) (T.exs 11)) (ox_ok (T.exs 5) (T.exs 12)) (mv 2))))))) (mb_one (ms_ret me_bl)) mb_nil) (mb_one (ms_ret (me_and rfl (me_cmp op_in_seq od_in (mv 1) (me_fld rfl (fld_ok (n0 := 10) (n := 3) (T.exs 3) (by decide) (T.exs 19)) nil_ok (mv 0)) rfl) (me_one (me_cmp op_in_seq od_in (mv 2) (me_fld rfl (fld_ok (n0 := 10) (n := 3) (T.exs 3) (by decide) (T.exs 20)) nil_ok (mv 0)) rfl))))))
theorem g_is_cell (T : TT fa ex fn sf tf mg K base) : Gd PR w (cb K) mg base 2 "is_cell" (spG (cb K) f_is_cell) := by
  obtain ⟨fd, F⟩ := T.def_ 11 (d := dd "is_cell" 34)
  exact ⟨_, fd, ["layout", "place", "code"], h_is_cell T F, T.glo 32, F.kp, FunD.bindsN (ps := ["layout", "place", "code"]) F fun _ _ _ _ _ _ us hl => match us, hl with | [_, _, _], _ => rfl⟩
abbrev n_is_row : List Str := ["layout", "value"]
theorem sc_is_row : FnScope n_is_row ["layout", "value"] (defScope (top 46)) := ⟨rfl, rfl, rfl, by decide +kernel, rfl, by decide +kernel, by decide +kernel⟩
def b_is_row : Gm → J → RS :=
  (sSeq (sIf (tOo (tNt (tV (m1 (fun d => (isiD (tyLk ty_tuple) (owLk 10 ow_tuple) (owLk 0 ox_tuple) d).map .bl) (mVar 1)))) (t2 neD (mB fLen (mCons (mVar 1) mNil)) (mC (.int 3)))) (sRet (mC (.bl false))) sNil) (sRet (mAn (mF f_is_cell (mCons (mVar 0) (mCons (m2 fIx (mVar 1) (mC (.int 0))) (mCons (m2 fIx (mVar 1) (mC (.int 1))) mNil)))) (mF f_is_number (mCons (m2 fIx (mVar 1) (mC (.int 2))) (mCons (mC (.int 1)) (mCons (mC (.int 999)) mNil)))))))
def f_is_row : List D → J → R D := defOf n_is_row 2 b_is_row
theorem h_is_row {f : Addr} {fd : FuncData} (T : TT fa ex fn sf tf mg K base) (F : FunD K (dd "is_row" 46).name (dd "is_row" 46).qual (dd "is_row" 46).params (dd "is_row" 46).body (dd "is_row" 46).scope ((dd "is_row" 46).dvs K) ((dd "is_row" 46).kws K) f fd) : FnG PR w K mg base (L2.CX PR w) 3 f fd ["layout", "value"] (spG (cb K) f_is_row) := by
  refine okG (C := cb K) (k := 2) F sc_is_row (m := b_is_row) (fun cdv hcdv A outer s H Ct E hC hr hgd => ?_)
  obtain ⟨b, H0, ρ0, J0, O0, slf⟩ := Ct
  cases hC
  exact (mb_cons (ms_if (PW.pt (mw_or (mt_not (mt_val rfl (me_isi rfl rfl (T.free 2) (pe_bltn (v := .ty "tuple") rfl (T.free 12) (by decide +kernel) rfl) (.ty _) (isiB_ok (T.exs 13)) (ow_ok (T.exs 3) (T.exs 14)) (ox_ok (T.exs 5) (T.exs 15)) (mv 1)))) (mw_or1 (mt_cmp (op_neU hr.units) od_ne (me_callB call_len cd_len rfl (T.free 6) (by decide +kernel) (ma_cons (mv 1) ma_nil)) (me_gint rfl (T.int 34)) (nomark _))))) (mb_one (ms_ret me_bl)) mb_nil) (mb_one (ms_ret (me_and rfl (me_gcall (takes_of rfl rfl rfl rfl) (g_is_cell T) rfl (hr.mono (by decide : 2 ≤ 2)) hgd rfl (ma_cons (mv 0) (ma_cons (me_ix ix_seq od_ix (mv 1) me_int) (ma_cons (me_ix ix_seq od_ix (mv 1) me_int) ma_nil)))) (me_one (me_gcall (takes_of rfl rfl rfl rfl) (g_is_number T) rfl (hr.mono (by decide : 2 ≤ 2)) hgd rfl (ma_cons (me_ix ix_seq od_ix (mv 1) me_int) (ma_cons me_int (ma_cons (me_gint rfl (T.int 35)) ma_nil)))))))))
theorem g_is_row (T : TT fa ex fn sf tf mg K base) : Gd PR w (cb K) mg base 3 "is_row" (spG (cb K) f_is_row) := by
  obtain ⟨fd, F⟩ := T.def_ 12 (d := dd "is_row" 46)
  exact ⟨_, fd, ["layout", "value"], h_is_row T F, T.glo 33, F.kp, FunD.bindsN (ps := ["layout", "value"]) F fun _ _ _ _ _ _ us hl => match us, hl with | [_, _], _ => rfl⟩
abbrev n_are_rows : List Str := ["layout", "value", "row", "place", "code", "number"]
theorem sc_are_rows : FnScope n_are_rows ["layout", "value"] (defScope (top 47)) := ⟨rfl, rfl, rfl, by decide +kernel, rfl, by decide +kernel, by decide +kernel⟩
def b_are_rows : Gm → J → RS :=
  (sSeq (sIf (tOo (tNt (tV (m1 (fun d => (isiD (tyLk ty_tuple) (owLk 10 ow_tuple) (owLk 0 ox_tuple) d).map .bl) (mVar 1)))) (tNt (tV (mB fAll (mCons (mLc (iS (mVar 1)) (gN 2) tT (mF f_is_row (mCons (mVar 0) (mCons (mVar 2) mNil))) (([("row", 2)] : List (Str × Nat)).map (·.2))) mNil))))) (sRet (mC (.bl false))) sNil) (sRet (mF f_is_rising (mCons (mLc (iS (mVar 1)) (gT 3 (gsCons (gN 3) (gsCons (gN 4) (gsCons (gN 5) gsNil)))) tT (mTup (mCons (mVar 3) (mCons (mVar 4) mNil))) (([("place", 3), ("code", 4), ("number", 5)] : List (Str × Nat)).map (·.2))) mNil))))
def f_are_rows : List D → J → R D := defOf n_are_rows 2 b_are_rows
theorem h_are_rows {f : Addr} {fd : FuncData} (T : TT fa ex fn sf tf mg K base) (F : FunD K (dd "are_rows" 47).name (dd "are_rows" 47).qual (dd "are_rows" 47).params (dd "are_rows" 47).body (dd "are_rows" 47).scope ((dd "are_rows" 47).dvs K) ((dd "are_rows" 47).kws K) f fd) : FnG PR w K mg base (L2.CX PR w) 4 f fd ["layout", "value"] (spG (cb K) f_are_rows) := by
  refine okG (C := cb K) (k := 3) F sc_are_rows (m := b_are_rows) (fun cdv hcdv A outer s H Ct E hC hr hgd => ?_)
  obtain ⟨b, H0, ρ0, J0, O0, slf⟩ := Ct
  cases hC
  exact (mb_cons (ms_if (PW.pt (mw_or (mt_not (mt_val rfl (me_isi rfl rfl (T.free 2) (pe_bltn (v := .ty "tuple") rfl (T.free 12) (by decide +kernel) rfl) (.ty _) (isiB_ok (T.exs 13)) (ow_ok (T.exs 3) (T.exs 14)) (ox_ok (T.exs 5) (T.exs 15)) (mv 1)))) (mw_or1 (mt_not (mt_val rfl (me_callB (cr_all rfl) cd_all rfl (T.free 8) (by decide +kernel) (ma_cons (me_lc rfl sc_are_rows.nd (mi_seq rfl (mv 1)) (blkOk_by (own := [("row", 2)]) (by show blkC n_are_rows (defScope (top 47)) _ _ = true; decide +kernel)) (fun _ _ _ _ _ => (mg_name (i := 2) sc_are_rows.nd rfl (by first | exact Or.inl rfl | exact Or.inr rfl))) (fun _ _ _ _ _ => mts_nil) (fun _ _ _ _ _ => (me_gcall takes0 (g_is_row T) rfl (hr.mono (by decide : 3 ≤ 3)) hgd rfl (ma_cons (mv 0) (ma_cons (mv 2) ma_nil)))) (by decide)) ma_nil))))))) (mb_one (ms_ret me_bl)) mb_nil) (mb_one (ms_ret (me_gcall (takes_of rfl rfl rfl rfl) (g_is_rising T) rfl (hr.mono (by decide : 2 ≤ 3)) hgd rfl (ma_cons (me_lc rfl sc_are_rows.nd (mi_seq rfl (mv 1)) (blkOk_by (own := [("place", 3), ("code", 4), ("number", 5)]) (by show blkC n_are_rows (defScope (top 47)) _ _ = true; decide +kernel)) (fun _ _ _ _ _ => (mg_tup rfl rfl (mgs_cons (mg_name (i := 3) sc_are_rows.nd rfl (by first | exact Or.inl rfl | exact Or.inr rfl)) (mgs_cons (mg_name (i := 4) sc_are_rows.nd rfl (by first | exact Or.inl rfl | exact Or.inr rfl)) (mgs_cons (mg_name (i := 5) sc_are_rows.nd rfl (by first | exact Or.inl rfl | exact Or.inr rfl)) mgs_nil))))) (fun _ _ _ _ _ => mts_nil) (fun _ _ _ _ _ => (me_tup (ma_cons (mv 3) (ma_cons (mv 4) ma_nil)))) (by decide)) ma_nil)))))
theorem g_are_rows (T : TT fa ex fn sf tf mg K base) : Gd PR w (cb K) mg base 4 "are_rows" (spG (cb K) f_are_rows) := by
  obtain ⟨fd, F⟩ := T.def_ 13 (d := dd "are_rows" 47)
  exact ⟨_, fd, ["layout", "value"], h_are_rows T F, T.glo 36, F.kp, FunD.bindsN (ps := ["layout", "value"]) F fun _ _ _ _ _ _ us hl => match us, hl with | [_, _], _ => rfl⟩
abbrev n_numbers_by_cell : List Str := ["rows", "place", "code", "number"]
theorem sc_numbers_by_cell : FnScope n_numbers_by_cell ["rows"] (defScope (top 54)) := ⟨rfl, rfl, rfl, by decide +kernel, rfl, by decide +kernel, by decide +kernel⟩
def b_numbers_by_cell : Gm → J → RS :=
  (sRet (mDcT (iS (mVar 0)) (gT 3 (gsCons (gN 1) (gsCons (gN 2) (gsCons (gN 3) gsNil)))) tT (mTup (mCons (mVar 1) (mCons (mVar 2) mNil))) (mVar 3) (([("place", 1), ("code", 2), ("number", 3)] : List (Str × Nat)).map (·.2))))
def f_numbers_by_cell : List D → J → R D := defOf n_numbers_by_cell 1 b_numbers_by_cell
theorem h_numbers_by_cell {f : Addr} {fd : FuncData} (T : TT fa ex fn sf tf mg K base) (F : FunD K (dd "numbers_by_cell" 54).name (dd "numbers_by_cell" 54).qual (dd "numbers_by_cell" 54).params (dd "numbers_by_cell" 54).body (dd "numbers_by_cell" 54).scope ((dd "numbers_by_cell" 54).dvs K) ((dd "numbers_by_cell" 54).kws K) f fd) : FnG PR w K mg base (L2.CX PR w) 2 f fd ["rows"] (spG (cb K) f_numbers_by_cell) := by
  refine okG (C := cb K) (k := 1) F sc_numbers_by_cell (m := b_numbers_by_cell) (fun cdv hcdv A outer s H Ct E hC hr hgd => ?_)
  obtain ⟨b, H0, ρ0, J0, O0, slf⟩ := Ct
  cases hC
  exact (mb_one (ms_ret (me_new (mn_dcT hr.units rfl sc_numbers_by_cell.nd (mi_seq rfl (mv 0)) (blkOk_by (own := [("place", 1), ("code", 2), ("number", 3)]) (by show blkC n_numbers_by_cell (defScope (top 54)) _ _ = true; decide +kernel)) (fun _ _ _ _ _ => (mg_tup rfl rfl (mgs_cons (mg_name (i := 1) sc_numbers_by_cell.nd rfl (by first | exact Or.inl rfl | exact Or.inr rfl)) (mgs_cons (mg_name (i := 2) sc_numbers_by_cell.nd rfl (by first | exact Or.inl rfl | exact Or.inr rfl)) (mgs_cons (mg_name (i := 3) sc_numbers_by_cell.nd rfl (by first | exact Or.inl rfl | exact Or.inr rfl)) mgs_nil))))) (fun _ _ _ _ _ => mts_nil) (fun _ _ _ _ _ => (me_tup (ma_cons (mv 1) (ma_cons (mv 2) ma_nil)))) (fun _ _ _ _ _ => (mv 3)) (by decide)))))
theorem g_numbers_by_cell (T : TT fa ex fn sf tf mg K base) : Gd PR w (cb K) mg base 2 "numbers_by_cell" (spG (cb K) f_numbers_by_cell) := by
  obtain ⟨fd, F⟩ := T.def_ 14 (d := dd "numbers_by_cell" 54)
  exact ⟨_, fd, ["rows"], h_numbers_by_cell T F, T.glo 37, F.kp, FunD.bindsN (ps := ["rows"]) F fun _ _ _ _ _ _ us hl => match us, hl with | [_], _ => rfl⟩
abbrev n_Book_init : List Str := ["self", "layout", "rows"]
theorem sc_Book_init : FnScope n_Book_init ["self", "layout", "rows"] (defScope (inCls (top 59) 0)) := ⟨rfl, rfl, rfl, by decide +kernel, rfl, by decide +kernel, by decide +kernel⟩
def b_Book_init : Gm → J → RS :=
  (sSeq (sIf (tNt (tV (mF f_are_rows (mCons (mVar 1) (mCons (mVar 2) mNil))))) (sRaise 3 (mVar 2)) sNil) (sSeq (sSelf 0 "layout" [11] (mVar 1)) (sSelf 0 "numbers" [11] (mF f_numbers_by_cell (mCons (mVar 2) mNil)))))
def f_Book_init : List D → J → R (List (Str × D)) := initOf n_Book_init 3 11 b_Book_init
theorem h_Book_init {f : Addr} {fd : FuncData} (T : TT fa ex fn sf tf mg K base) (F : FunD K ((⟨("Book", some "__init__"), "__init__", "Book.__init__", defArgs (inCls (top 59) 0), defBody (inCls (top 59) 0), defScope (inCls (top 59) 0), [.adr (dfA ("Book", some "__init__") 0)], []⟩ : He.DefD)).name ((⟨("Book", some "__init__"), "__init__", "Book.__init__", defArgs (inCls (top 59) 0), defBody (inCls (top 59) 0), defScope (inCls (top 59) 0), [.adr (dfA ("Book", some "__init__") 0)], []⟩ : He.DefD)).qual ((⟨("Book", some "__init__"), "__init__", "Book.__init__", defArgs (inCls (top 59) 0), defBody (inCls (top 59) 0), defScope (inCls (top 59) 0), [.adr (dfA ("Book", some "__init__") 0)], []⟩ : He.DefD)).params ((⟨("Book", some "__init__"), "__init__", "Book.__init__", defArgs (inCls (top 59) 0), defBody (inCls (top 59) 0), defScope (inCls (top 59) 0), [.adr (dfA ("Book", some "__init__") 0)], []⟩ : He.DefD)).body ((⟨("Book", some "__init__"), "__init__", "Book.__init__", defArgs (inCls (top 59) 0), defBody (inCls (top 59) 0), defScope (inCls (top 59) 0), [.adr (dfA ("Book", some "__init__") 0)], []⟩ : He.DefD)).scope (((⟨("Book", some "__init__"), "__init__", "Book.__init__", defArgs (inCls (top 59) 0), defBody (inCls (top 59) 0), defScope (inCls (top 59) 0), [.adr (dfA ("Book", some "__init__") 0)], []⟩ : He.DefD)).dvs K) (((⟨("Book", some "__init__"), "__init__", "Book.__init__", defArgs (inCls (top 59) 0), defBody (inCls (top 59) 0), defScope (inCls (top 59) 0), [.adr (dfA ("Book", some "__init__") 0)], []⟩ : He.DefD)).kws K) f fd) : FnG PR w K mg base (L2.CX PR w) 5 f fd ["self", "layout", "rows"] (spI (cb K) 11 f_Book_init) := by
  refine okI (C := cb K) (k := 4) (c := 11) F sc_Book_init (m := b_Book_init) (fun cdv hcdv A outer s H Ct E hC hr hgd => ?_)
  obtain ⟨b, H0, ρ0, J0, O0, slf⟩ := Ct
  cases hC
  exact (mb_cons (ms_if (mt_not (mt_val rfl (me_gcall (takes_of rfl rfl rfl rfl) (g_are_rows T) rfl (hr.mono (by decide : 4 ≤ 4)) hgd rfl (ma_cons (mv 1) (ma_cons (mv 2) ma_nil))))) (mb_one (ms_raise rfl (takes_of rfl rfl rfl rfl) (fe T) (fek T 3 (by decide)) (hr.mono (by decide : 1 ≤ 4)) rfl (T.glo 38) (mv 2))) mb_nil) (mb_cons (ms_self (i := 0) rfl (fld_ok (n0 := 10) (n := 3) (T.exs 3) (by decide) (T.exs 24)) (pv 0) (mv 1)) (mb_one (ms_self (i := 0) rfl (fld_ok (n0 := 10) (n := 3) (T.exs 3) (by decide) (T.exs 25)) (pv 0) (me_gcall (takes_of rfl rfl rfl rfl) (g_numbers_by_cell T) rfl (hr.mono (by decide : 2 ≤ 4)) hgd rfl (ma_cons (mv 2) ma_nil))))))
abbrev n_is_picks : List Str := ["value", "row", "one"]
theorem sc_is_picks : FnScope n_is_picks ["value"] (defScope (top 64)) := ⟨rfl, rfl, rfl, by decide +kernel, rfl, by decide +kernel, by decide +kernel⟩
def b_is_picks : Gm → J → RS :=
  (sSeq (sIf (tOo (tNt (tV (m1 (fun d => (isiD (tyLk ty_tuple) (owLk 10 ow_tuple) (owLk 0 ox_tuple) d).map .bl) (mVar 0)))) (t2 neD (mB fLen (mCons (mVar 0) mNil)) (mC (.int 3)))) (sRet (mC (.bl false))) sNil) (sSeq (sFor (iS (mVar 0)) (gN 1) (sIf (tOo (tNt (tV (m1 (fun d => (isiD (tyLk ty_tuple) (owLk 10 ow_tuple) (owLk 0 ox_tuple) d).map .bl) (mVar 1)))) (tOo (t2 neD (mB fLen (mCons (mVar 1) mNil)) (mC (.int 3))) (tNt (tV (mB fAll (mCons (mLc (iS (mVar 1)) (gN 2) tT (mF f_is_among (mCons (mVar 2) (mCons (mC (.tup [.str "main", .str "branch", .str "elder", .str "lesser", .str "greater", .str "both", .str "refuse"])) mNil))) (([("one", 2)] : List (Str × Nat)).map (·.2))) mNil)))))) (sRet (mC (.bl false))) sNil)) (sRet (mC (.bl true)))))
def f_is_picks : List D → J → R D := defOf n_is_picks 1 b_is_picks
theorem h_is_picks {f : Addr} {fd : FuncData} (T : TT fa ex fn sf tf mg K base) (F : FunD K (dd "is_picks" 64).name (dd "is_picks" 64).qual (dd "is_picks" 64).params (dd "is_picks" 64).body (dd "is_picks" 64).scope ((dd "is_picks" 64).dvs K) ((dd "is_picks" 64).kws K) f fd) : FnG PR w K mg base (L2.CX PR w) 4 f fd ["value"] (spG (cb K) f_is_picks) := by
  refine okG (C := cb K) (k := 3) F sc_is_picks (m := b_is_picks) (fun cdv hcdv A outer s H Ct E hC hr hgd => ?_)
  obtain ⟨b, H0, ρ0, J0, O0, slf⟩ := Ct
  cases hC
  exact (mb_cons (ms_if (PW.pt (mw_or (mt_not (mt_val rfl (me_isi rfl rfl (T.free 2) (pe_bltn (v := .ty "tuple") rfl (T.free 12) (by decide +kernel) rfl) (.ty _) (isiB_ok (T.exs 13)) (ow_ok (T.exs 3) (T.exs 14)) (ox_ok (T.exs 5) (T.exs 15)) (mv 0)))) (mw_or1 (mt_cmp (op_neU hr.units) od_ne (me_callB call_len cd_len rfl (T.free 6) (by decide +kernel) (ma_cons (mv 0) ma_nil)) (me_gint rfl (T.int 42)) (nomark _))))) (mb_one (ms_ret me_bl)) mb_nil) (mb_cons (ms_for (passes_of rfl) rfl (mi_seq rfl (mv 0)) (mg_name (i := 1) sc_is_picks.nd rfl (by first | exact Or.inl rfl | exact Or.inr rfl)) (mb_one (ms_if (PW.pt (mw_or (mt_not (mt_val rfl (me_isi rfl rfl (T.free 2) (pe_bltn (v := .ty "tuple") rfl (T.free 12) (by decide +kernel) rfl) (.ty _) (isiB_ok (T.exs 13)) (ow_ok (T.exs 3) (T.exs 14)) (ox_ok (T.exs 5) (T.exs 15)) (mv 1)))) (mw_or (mt_cmp (op_neU hr.units) od_ne (me_callB call_len cd_len rfl (T.free 6) (by decide +kernel) (ma_cons (mv 1) ma_nil)) (me_gint rfl (T.int 42)) (nomark _)) (mw_or1 (mt_not (mt_val rfl (me_callB (cr_all rfl) cd_all rfl (T.free 8) (by decide +kernel) (ma_cons (me_lc rfl sc_is_picks.nd (mi_seq rfl (mv 1)) (blkOk_by (own := [("one", 2)]) (by show blkC n_is_picks (defScope (top 64)) _ _ = true; decide +kernel)) (fun _ _ _ _ _ => (mg_name (i := 2) sc_is_picks.nd rfl (by first | exact Or.inl rfl | exact Or.inr rfl))) (fun _ _ _ _ _ => mts_nil) (fun _ _ _ _ _ => (me_gcall takes0 (g_is_among T) rfl (hr.mono (by decide : 3 ≤ 3)) hgd rfl (ma_cons (mv 2) (ma_cons (me_gtup rfl (T.glo 43) (He.tupB_ok (T.exs 26) Hn) rfl) ma_nil)))) (by decide)) ma_nil)))))))) (mb_one (ms_ret me_bl)) mb_nil))) (mb_one (ms_ret me_bl))))
theorem g_is_picks (T : TT fa ex fn sf tf mg K base) : Gd PR w (cb K) mg base 4 "is_picks" (spG (cb K) f_is_picks) := by
  obtain ⟨fd, F⟩ := T.def_ 16 (d := dd "is_picks" 64)
  exact ⟨_, fd, ["value"], h_is_picks T F, T.glo 41, F.kp, FunD.bindsN (ps := ["value"]) F fun _ _ _ _ _ _ us hl => match us, hl with | [_], _ => rfl⟩
abbrev n_way_of : List Str := ["elder", "number"]
theorem sc_way_of : FnScope n_way_of ["elder", "number"] (defScope (top 65)) := ⟨rfl, rfl, rfl, by decide +kernel, rfl, by decide +kernel, by decide +kernel⟩
def b_way_of : Gm → J → RS :=
  (sRet (m2 fAdd (mB fInt (mCons (m2 (obl fGe) (mVar 1) (mVar 0)) mNil)) (mB fInt (mCons (m2 (obl fGt) (mVar 1) (mVar 0)) mNil))))
def f_way_of : List D → J → R D := defOf n_way_of 2 b_way_of
theorem h_way_of {f : Addr} {fd : FuncData} (T : TT fa ex fn sf tf mg K base) (F : FunD K (dd "way_of" 65).name (dd "way_of" 65).qual (dd "way_of" 65).params (dd "way_of" 65).body (dd "way_of" 65).scope ((dd "way_of" 65).dvs K) ((dd "way_of" 65).kws K) f fd) : FnG PR w K mg base (L2.CX PR w) 2 f fd ["elder", "number"] (spG (cb K) f_way_of) := by
  refine okG (C := cb K) (k := 1) F sc_way_of (m := b_way_of) (fun cdv hcdv A outer s H Ct E hC hr hgd => ?_)
  obtain ⟨b, H0, ρ0, J0, O0, slf⟩ := Ct
  cases hC
  exact (mb_one (ms_ret (me_op op_addU od_add (me_callTy call_int1 cd_int rfl (T.free 1) (by decide +kernel) (ma_cons (me_cmp op_ge od_icmp (mv 1) (mv 0) (nomark _)) ma_nil)) (me_callTy call_int1 cd_int rfl (T.free 1) (by decide +kernel) (ma_cons (me_cmp op_gt od_icmp (mv 1) (mv 0) (nomark _)) ma_nil)))))
theorem g_way_of (T : TT fa ex fn sf tf mg K base) : Gd PR w (cb K) mg base 2 "way_of" (spG (cb K) f_way_of) := by
  obtain ⟨fd, F⟩ := T.def_ 17 (d := dd "way_of" 65)
  exact ⟨_, fd, ["elder", "number"], h_way_of T F, T.glo 44, F.kp, FunD.bindsN (ps := ["elder", "number"]) F fun _ _ _ _ _ _ us hl => match us, hl with | [_, _], _ => rfl⟩
abbrev n_picked : List Str := ["pick", "elder", "main", "branch"]
theorem sc_picked : FnScope n_picked ["pick", "elder", "main", "branch"] (defScope (top 66)) := ⟨rfl, rfl, rfl, by decide +kernel, rfl, by decide +kernel, by decide +kernel⟩
def b_picked : Gm → J → RS :=
  (sSeq (sMatch (mVar 0) (cCons (.str "main") (sRet (mVar 2)) (cCons (.str "branch") (sRet (mVar 3)) (cCons (.str "elder") (sRet (mVar 1)) (cCons (.str "lesser") (sRet (mIf (t2 fLt (mVar 2) (mVar 3)) (mVar 2) (mVar 3))) (cCons (.str "greater") (sRet (mIf (t2 fGt (mVar 2) (mVar 3)) (mVar 2) (mVar 3))) (cCons (.str "both") (sRet (mB fMax (mCons (mC (.int 0)) (mCons (m2 fSub (m2 fAdd (mVar 2) (mVar 3)) (mVar 1)) mNil)))) cNil))))))) (sRet (mC .non)))
def f_picked : List D → J → R D := defOf n_picked 4 b_picked
theorem h_picked {f : Addr} {fd : FuncData} (T : TT fa ex fn sf tf mg K base) (F : FunD K (dd "picked" 66).name (dd "picked" 66).qual (dd "picked" 66).params (dd "picked" 66).body (dd "picked" 66).scope ((dd "picked" 66).dvs K) ((dd "picked" 66).kws K) f fd) : FnG PR w K mg base (L2.CX PR w) 2 f fd ["pick", "elder", "main", "branch"] (spG (cb K) f_picked) := by
  refine okG (C := cb K) (k := 1) F sc_picked (m := b_picked) (fun cdv hcdv A outer s H Ct E hC hr hgd => ?_)
  obtain ⟨b, H0, ρ0, J0, O0, slf⟩ := Ct
  cases hC
  exact (mb_cons (ms_match (mv 0) (mm_cons (op_eqU hr.units) me_str (mb_one (ms_ret (mv 2))) (mm_cons (op_eqU hr.units) me_str (mb_one (ms_ret (mv 3))) (mm_cons (op_eqU hr.units) me_str (mb_one (ms_ret (mv 1))) (mm_cons (op_eqU hr.units) me_str (mb_one (ms_ret (me_if (mt_cmp op_ltU od_lt (mv 2) (mv 3) (nomark _)) (mv 2) (mv 3)))) (mm_cons (op_eqU hr.units) me_str (mb_one (ms_ret (me_if (mt_cmp op_gt od_icmp (mv 2) (mv 3) (nomark _)) (mv 2) (mv 3)))) (mm_cons (op_eqU hr.units) me_str (mb_one (ms_ret (me_callB (call_max2 rfl) cd_max rfl (T.free 46) (by decide +kernel) (ma_cons me_int (ma_cons (me_op op_subU od_sub (me_op op_addU od_add (mv 2) (mv 3)) (mv 1)) ma_nil))))) mm_nil))))))) (mb_one (ms_ret me_non)))
theorem g_picked (T : TT fa ex fn sf tf mg K base) : Gd PR w (cb K) mg base 2 "picked" (spG (cb K) f_picked) := by
  obtain ⟨fd, F⟩ := T.def_ 18 (d := dd "picked" 66)
  exact ⟨_, fd, ["pick", "elder", "main", "branch"], h_picked T F, T.glo 45, F.kp, FunD.bindsN (ps := ["pick", "elder", "main", "branch"]) F fun _ _ _ _ _ _ us hl => match us, hl with | [_, _, _, _], _ => rfl⟩
abbrev n_Rule_init : List Str := ["self", "picks"]
theorem sc_Rule_init : FnScope n_Rule_init ["self", "picks"] (defScope (inCls (top 67) 0)) := ⟨rfl, rfl, rfl, by decide +kernel, rfl, by decide +kernel, by decide +kernel⟩
def b_Rule_init : Gm → J → RS :=
  (sSeq (sIf (tNt (tV (mF f_is_picks (mCons (mVar 1) mNil)))) (sRaise 7 (mVar 1)) sNil) (sSelf 0 "picks" [12] (mVar 1)))
def f_Rule_init : List D → J → R (List (Str × D)) := initOf n_Rule_init 2 12 b_Rule_init
theorem g_Rule_init (T : TT fa ex fn sf tf mg K base) : Gi PR w (cb K) mg base 5 "Rule" 12 (spI (cb K) 12 f_Rule_init) := by
  obtain ⟨fd, F⟩ := T.def_ 19 (d := dm "Rule" "__init__" "Rule.__init__" 67 0)
  refine ⟨_, fd, ["self", "picks"], okI (k := 4) (c := 12) F sc_Rule_init (m := b_Rule_init) (fun cdv hcdv A outer s H Ct E hC hr hgd => ?_), T.glo 48, T.mkr 49, FunD.bindsN (ps := ["self", "picks"]) F fun _ _ _ _ _ _ us hl => match us, hl with | [_, _], _ => rfl⟩
  obtain ⟨b, H0, ρ0, J0, O0, slf⟩ := Ct
  cases hC
  exact (mb_cons (ms_if (mt_not (mt_val rfl (me_gcall (takes_of rfl rfl rfl rfl) (g_is_picks T) rfl (hr.mono (by decide : 4 ≤ 4)) hgd rfl (ma_cons (mv 1) ma_nil)))) (mb_one (ms_raise rfl (takes_of rfl rfl rfl rfl) (fe T) (fek T 7 (by decide)) (hr.mono (by decide : 1 ≤ 4)) rfl (T.glo 47) (mv 1))) mb_nil) (mb_one (ms_self (i := 0) rfl (fld_ok (n0 := 10) (n := 3) (T.exs 3) (by decide) (T.exs 27)) (pv 0) (mv 1))))
abbrev n_Rule_told : List Str := ["self", "elder", "main", "branch"]
theorem sc_Rule_told : FnScope n_Rule_told ["self", "elder", "main", "branch"] (defScope (inCls (top 67) 2)) := ⟨rfl, rfl, rfl, by decide +kernel, rfl, by decide +kernel, by decide +kernel⟩
def b_Rule_told : Gm → J → RS :=
  (sRet (mF f_picked (mCons (m2 fIx (m2 fIx (m1 (fldD "picks" [12] []) (mVar 0)) (mF f_way_of (mCons (mVar 1) (mCons (mVar 2) mNil)))) (mF f_way_of (mCons (mVar 1) (mCons (mVar 3) mNil)))) (mCons (mVar 1) (mCons (mVar 2) (mCons (mVar 3) mNil))))))
def f_Rule_told : List D → J → R D := defOf n_Rule_told 4 b_Rule_told
theorem h_Rule_told {f : Addr} {fd : FuncData} (T : TT fa ex fn sf tf mg K base) (F : FunD K (dm "Rule" "told" "Rule.told" 67 2).name (dm "Rule" "told" "Rule.told" 67 2).qual (dm "Rule" "told" "Rule.told" 67 2).params (dm "Rule" "told" "Rule.told" 67 2).body (dm "Rule" "told" "Rule.told" 67 2).scope ((dm "Rule" "told" "Rule.told" 67 2).dvs K) ((dm "Rule" "told" "Rule.told" 67 2).kws K) f fd) : FnG PR w K mg base (L2.CX PR w) 3 f fd ["self", "elder", "main", "branch"] (spG (cb K) f_Rule_told) := by
  refine okG (C := cb K) (k := 2) F sc_Rule_told (m := b_Rule_told) (fun cdv hcdv A outer s H Ct E hC hr hgd => ?_)
  obtain ⟨b, H0, ρ0, J0, O0, slf⟩ := Ct
  cases hC
  exact (mb_one (ms_ret (me_gcall (takes_of rfl rfl rfl rfl) (g_picked T) rfl (hr.mono (by decide : 2 ≤ 2)) hgd rfl (ma_cons (me_ix ix_seq od_ix (me_ix ix_seq od_ix (me_fld rfl (fld_ok (n0 := 10) (n := 3) (T.exs 3) (by decide) (T.exs 27)) nil_ok (mv 0)) (me_gcall (takes_of rfl rfl rfl rfl) (g_way_of T) rfl (hr.mono (by decide : 2 ≤ 2)) hgd rfl (ma_cons (mv 1) (ma_cons (mv 2) ma_nil)))) (me_gcall (takes_of rfl rfl rfl rfl) (g_way_of T) rfl (hr.mono (by decide : 2 ≤ 2)) hgd rfl (ma_cons (mv 1) (ma_cons (mv 3) ma_nil)))) (ma_cons (mv 1) (ma_cons (mv 2) (ma_cons (mv 3) ma_nil)))))))
theorem g_Rule_told (T : TT fa ex fn sf tf mg K base) : Gm1 PR w (cb K) mg base 3 12 "told" (spG (cb K) f_Rule_told) := by
  obtain ⟨fd, F⟩ := T.def_ 20 (d := dm "Rule" "told" "Rule.told" 67 2)
  exact ⟨_, fd, ["self", "elder", "main", "branch"], h_Rule_told T F, (iscB_ok (rngB_ok (p := fun n => iscB K (cmK K n)) (c := 12) (T.exs 3) (by decide) (by decide))).cl, T.meth 50, FunD.bindsN (ps := ["self", "elder", "main", "branch"]) F fun _ _ _ _ _ _ us hl => match us, hl with | [_, _, _, _], _ => rfl⟩
abbrev n_Rule_call : List Str := ["self", "elder", "main", "branch", "three", "one", "number"]
theorem sc_Rule_call : FnScope n_Rule_call ["self", "elder", "main", "branch"] (defScope (inCls (top 67) 4)) := ⟨rfl, rfl, rfl, by decide +kernel, rfl, by decide +kernel, by decide +kernel⟩
def b_Rule_call : Gm → J → RS :=
  (sSeq (sSet 4 (mTup (mCons (mVar 1) (mCons (mVar 2) (mCons (mVar 3) mNil))))) (sSeq (sIf (tV (mB fAll (mCons (mLc (iS (mVar 4)) (gN 5) tT (mF f_is_number (mCons (mVar 5) (mCons (mC (.int 0)) (mCons (mC (.int 999)) mNil)))) (([("one", 5)] : List (Str × Nat)).map (·.2))) mNil))) (sSeq (sSet 6 (mMeth 12 "told" f_Rule_told (mVar 0) (mCons (mVar 1) (mCons (mVar 2) (mCons (mVar 3) mNil))))) (sSeq (sIf (t2 fIs (mVar 6) (mC .non)) (sRaise 9 (mVar 4)) sNil) (sRet (mVar 6)))) sNil) (sSeq (sIf (tNt (tV (mB fAll (mCons (mLc (iS (mVar 4)) (gN 5) tT (m1 (fun d => (isiD (tyLk ty_Book) (owLk 10 ow_Book) (owLk 0 ox_Book) d).map .bl) (mVar 5)) (([("one", 5)] : List (Str × Nat)).map (·.2))) mNil)))) (sRaise 8 (mVar 4)) sNil) sBad)))
def f_Rule_call : List D → J → R D := defOf n_Rule_call 4 b_Rule_call
theorem h_Rule_call {f : Addr} {fd : FuncData} (T : TT fa ex fn sf tf mg K base) (F : FunD K (dm "Rule" "__call__" "Rule.__call__" 67 4).name (dm "Rule" "__call__" "Rule.__call__" 67 4).qual (dm "Rule" "__call__" "Rule.__call__" 67 4).params (dm "Rule" "__call__" "Rule.__call__" 67 4).body (dm "Rule" "__call__" "Rule.__call__" 67 4).scope ((dm "Rule" "__call__" "Rule.__call__" 67 4).dvs K) ((dm "Rule" "__call__" "Rule.__call__" 67 4).kws K) f fd) : FnG PR w K mg base (L2.CX PR w) 4 f fd ["self", "elder", "main", "branch"] (spG (cb K) f_Rule_call) := by
  refine okG (C := cb K) (k := 3) F sc_Rule_call (m := b_Rule_call) (fun cdv hcdv A outer s H Ct E hC hr hgd => ?_)
  obtain ⟨b, H0, ρ0, J0, O0, slf⟩ := Ct
  cases hC
  exact (mb_cons (ms_set (i := 4) sc_Rule_call.nd rfl (by first | exact Or.inl rfl | exact Or.inr rfl) (me_tup (ma_cons (mv 1) (ma_cons (mv 2) (ma_cons (mv 3) ma_nil))))) (mb_cons (ms_if (mt_val rfl (me_callB (cr_all rfl) cd_all rfl (T.free 8) (by decide +kernel) (ma_cons (me_lc rfl sc_Rule_call.nd (mi_seq rfl (mv 4)) (blkOk_by (own := [("one", 5)]) (by show blkC n_Rule_call (defScope (inCls (top 67) 4)) _ _ = true; decide +kernel)) (fun _ _ _ _ _ => (mg_name (i := 5) sc_Rule_call.nd rfl (by first | exact Or.inl rfl | exact Or.inr rfl))) (fun _ _ _ _ _ => mts_nil) (fun _ _ _ _ _ => (me_gcall takes0 (g_is_number T) rfl (hr.mono (by decide : 2 ≤ 3)) hgd rfl (ma_cons (mv 5) (ma_cons me_int (ma_cons (me_gint rfl (T.int 51)) ma_nil))))) (by decide)) ma_nil))) (mb_cons (ms_set (i := 6) sc_Rule_call.nd rfl (by first | exact Or.inl rfl | exact Or.inr rfl) (me_gmeth (takes_of rfl rfl rfl rfl) (g_Rule_told T) rfl (hr.mono (by decide : 3 ≤ 3)) hgd (mv 0) (ma_cons (mv 1) (ma_cons (mv 2) (ma_cons (mv 3) ma_nil))))) (mb_cons (ms_if (mt_cmp op_isN od_is (mv 6) me_non (nomark _)) (mb_one (ms_raise rfl (takes_of rfl rfl rfl rfl) (fe T) (fek T 9 (by decide)) (hr.mono (by decide : 1 ≤ 3)) rfl (T.glo 52) (mv 4))) mb_nil) (mb_one (ms_ret (mv 6))))) mb_nil) (mb_cons (ms_if (mt_not (mt_val rfl (me_callB (cr_all rfl) cd_all rfl (T.free 8) (by decide +kernel) (ma_cons (me_lc rfl sc_Rule_call.nd (mi_seq rfl (mv 4)) (blkOk_by (own := [("one", 5)]) (by show blkC n_Rule_call (defScope (inCls (top 67) 4)) _ _ = true; decide +kernel)) (fun _ _ _ _ _ => (mg_name (i := 5) sc_Rule_call.nd rfl (by first | exact Or.inl rfl | exact Or.inr rfl))) (fun _ _ _ _ _ => mts_nil) (fun _ _ _ _ _ => (me_isi rfl rfl (T.free 2) (pe_glob (v := .ref (cmK K 11)) rfl (T.glo 39) rfl) (.own _) (isiB_ok (T.exs 28)) (ow_ok (T.exs 3) (T.exs 29)) (ox_ok (T.exs 5) (T.exs 30)) (mv 5))) (by decide)) ma_nil)))) (mb_one (ms_raise rfl (takes_of rfl rfl rfl rfl) (fe T) (fek T 8 (by decide)) (hr.mono (by decide : 1 ≤ 3)) rfl (T.glo 53) (mv 4))) mb_nil) (mb_one ms_never))))
theorem g_Rule_call (T : TT fa ex fn sf tf mg K base) : Gm1 PR w (cb K) mg base 4 12 "__call__" (spG (cb K) f_Rule_call) := by
  obtain ⟨fd, F⟩ := T.def_ 21 (d := dm "Rule" "__call__" "Rule.__call__" 67 4)
  exact ⟨_, fd, ["self", "elder", "main", "branch"], h_Rule_call T F, (iscB_ok (rngB_ok (p := fun n => iscB K (cmK K n)) (c := 12) (T.exs 3) (by decide) (by decide))).cl, T.meth 54, FunD.bindsN (ps := ["self", "elder", "main", "branch"]) F fun _ _ _ _ _ _ us hl => match us, hl with | [_, _, _, _], _ => rfl⟩
abbrev n_law_jar : List Str := ["_law_script", "_law_k", "_law_cell", "_law_mine", "_law_more"]
theorem sc_law_jar : FnScope n_law_jar ["_law_script", "_law_k"] (defScope (top 69)) := ⟨rfl, rfl, rfl, by decide +kernel, rfl, by decide +kernel, by decide +kernel⟩
def b_law_jar : Gm → J → RS :=
  (sSeq (sSet 2 (mIf (t2 fLt (mVar 1) (mB fLen (mCons (mVar 0) mNil))) (m2 fIx (mVar 0) (mVar 1)) (m2 fAdd (m2 fMul (mC (.int 53)) (mVar 1)) (mC (.int 23))))) (sSeq (sSet 3 (m2 fMul (m2 fMod (mB fInt (mCons (mB fAbs (mCons (mVar 2) mNil)) mNil)) (m2 fPow (m2 fPow (mC (.int 10)) (mC (.int 60))) (mC (.int 5)))) (mB fInt (mCons (m2 (obl fGe) (mB fAbs (mCons (mVar 2) mNil)) (m2 fPow (mC (.int 10)) (mC (.int 18)))) mNil)))) (sSeq (sSet 4 (m2 fAdd (m2 fAdd (m2 fMul (m2 fMod (mB fInt (mCons (mVar 2) mNil)) (mC (.int 2305843009213693951))) (mC (.int 64879))) (m2 fMul (m2 fMul (mC (.int 7873)) (mVar 1)) (mVar 1))) (mC (.int 67)))) (sRet (mLstM (mCons (mVar 3) (mCons (m2 fMod (mB fInt (mCons (mVar 4) mNil)) (mC (.int 2305843009213693921))) (mCons (mC (.int 0)) mNil))))))))
def f_law_jar : List D → J → R D := defOf n_law_jar 2 b_law_jar
theorem h_law_jar {f : Addr} {fd : FuncData} (T : TT fa ex fn sf tf mg K base) (F : FunD K (dd "_law_jar" 69).name (dd "_law_jar" 69).qual (dd "_law_jar" 69).params (dd "_law_jar" 69).body (dd "_law_jar" 69).scope ((dd "_law_jar" 69).dvs K) ((dd "_law_jar" 69).kws K) f fd) : FnG PR w K mg base (L2.CX PR w) 2 f fd ["_law_script", "_law_k"] (spG (cb K) f_law_jar) := by
  refine okG (C := cb K) (k := 1) F sc_law_jar (m := b_law_jar) (fun cdv hcdv A outer s H Ct E hC hr hgd => ?_)
  obtain ⟨b, H0, ρ0, J0, O0, slf⟩ := Ct
  cases hC
  exact (mb_cons (ms_set (i := 2) sc_law_jar.nd rfl (by first | exact Or.inl rfl | exact Or.inr rfl) (me_if (mt_cmp op_ltU od_lt (mv 1) (me_callB call_len cd_len rfl (T.free 6) (by decide +kernel) (ma_cons (mv 0) ma_nil)) (nomark _)) (me_ix ix_seq od_ix (mv 0) (mv 1)) (me_op op_addU od_add (me_op op_mulU od_mul me_int (mv 1)) me_int))) (mb_cons (ms_set (i := 3) sc_law_jar.nd rfl (by first | exact Or.inl rfl | exact Or.inr rfl) (me_op op_mulU od_mul (me_op op_mod od_mod (me_callTy call_int1 cd_int rfl (T.free 1) (by decide +kernel) (ma_cons (me_callB call_abs cd_abs rfl (T.free 56) (by decide +kernel) (ma_cons (mv 2) ma_nil)) ma_nil)) (me_op op_powW od_pow (me_op op_powW od_pow me_int me_int) me_int)) (me_callTy call_int1 cd_int rfl (T.free 1) (by decide +kernel) (ma_cons (me_cmp op_ge od_icmp (me_callB call_abs cd_abs rfl (T.free 56) (by decide +kernel) (ma_cons (mv 2) ma_nil)) (me_op op_powW od_pow me_int me_int) (nomark _)) ma_nil)))) (mb_cons (ms_set (i := 4) sc_law_jar.nd rfl (by first | exact Or.inl rfl | exact Or.inr rfl) (me_op op_addU od_add (me_op op_addU od_add (me_op op_mulU od_mul (me_op op_mod od_mod (me_callTy call_int1 cd_int rfl (T.free 1) (by decide +kernel) (ma_cons (mv 2) ma_nil)) me_int) me_int) (me_op op_mulU od_mul (me_op op_mulU od_mul me_int (mv 1)) (mv 1))) me_int)) (mb_one (ms_ret (me_lstM (ma_cons (mv 3) (ma_cons (me_op op_mod od_mod (me_callTy call_int1 cd_int rfl (T.free 1) (by decide +kernel) (ma_cons (mv 4) ma_nil)) me_int) (ma_cons me_int ma_nil)))))))))
theorem g_law_jar (T : TT fa ex fn sf tf mg K base) : Gd PR w (cb K) mg base 2 "_law_jar" (spG (cb K) f_law_jar) := by
  obtain ⟨fd, F⟩ := T.def_ 22 (d := dd "_law_jar" 69)
  exact ⟨_, fd, ["_law_script", "_law_k"], h_law_jar T F, T.glo 55, F.kp, FunD.bindsN (ps := ["_law_script", "_law_k"]) F fun _ _ _ _ _ _ us hl => match us, hl with | [_, _], _ => rfl⟩
abbrev n_law_take : List Str := ["_law_jar_here", "_law_many", "_law_digit", "_law_big", "_law_more"]
theorem sc_law_take : FnScope n_law_take ["_law_jar_here", "_law_many"] (defScope (top 70)) := ⟨rfl, rfl, rfl, by decide +kernel, rfl, by decide +kernel, by decide +kernel⟩
def b_law_take : Gm → J → RS :=
  (sSeq (sIf (t2 fGt (m2 fIx (mVar 0) (mC (.int 0))) (mC (.int 0))) (sSeq (sSet 2 (m2 fMod (mB fInt (mCons (m2 fIx (mVar 0) (mC (.int 0))) mNil)) (mVar 1))) (sSeq (sPut 0 (mC (.int 0)) (m2 fDiv (m2 fIx (mVar 0) (mC (.int 0))) (mVar 1))) (sRet (mVar 2)))) sNil) (sSeq (sPut 0 (mC (.int 2)) (m2 fAdd (m2 fIx (mVar 0) (mC (.int 2))) (mC (.int 1)))) (sSeq (sSet 3 (m2 fMod (mB fInt (mCons (m2 fMul (m2 fAdd (m2 fAdd (m2 fIx (mVar 0) (mC (.int 1))) (m2 fMul (m2 fMul (mC (.int 65519)) (m2 fIx (mVar 0) (mC (.int 2)))) (m2 fIx (mVar 0) (mC (.int 2))))) (mC (.int 47))) (mC (.int 48271))) mNil)) (mC (.int 2305843009213693921)))) (sSeq (sSet 4 (m2 fAdd (m2 fMod (mB fInt (mCons (mVar 3) mNil)) (mC (.int 1000003))) (m2 fMul (mC (.int 99989)) (m2 fIx (mVar 0) (mC (.int 2)))))) (sSeq (sSet 3 (m2 fMod (mB fInt (mCons (m2 fMul (mVar 3) (mVar 4)) mNil)) (mC (.int 2305843009213693907)))) (sRet (m2 fMod (mB fInt (mCons (m2 fAdd (m2 fDiv (mVar 3) (mC (.int 127))) (m2 fDiv (mVar 3) (mC (.int 1000033)))) mNil)) (mVar 1))))))))
def f_law_take : List D → J → R D := defOf n_law_take 2 b_law_take
theorem h_law_take {f : Addr} {fd : FuncData} (T : TT fa ex fn sf tf mg K base) (F : FunD K (dd "_law_take" 70).name (dd "_law_take" 70).qual (dd "_law_take" 70).params (dd "_law_take" 70).body (dd "_law_take" 70).scope ((dd "_law_take" 70).dvs K) ((dd "_law_take" 70).kws K) f fd) : FnG PR w K mg base (L2.CX PR w) 2 f fd ["_law_jar_here", "_law_many"] (spG (cb K) f_law_take) := by
  refine okG (C := cb K) (k := 1) F sc_law_take (m := b_law_take) (fun cdv hcdv A outer s H Ct E hC hr hgd => ?_)
  obtain ⟨b, H0, ρ0, J0, O0, slf⟩ := Ct
  cases hC
  exact (mb_cons (ms_if (mt_cmp op_gt od_icmp (me_ix ix_seq od_ix (mv 0) me_int) me_int (nomark _)) (mb_cons (ms_set (i := 2) sc_law_take.nd rfl (by first | exact Or.inl rfl | exact Or.inr rfl) (me_op op_mod od_mod (me_callTy call_int1 cd_int rfl (T.free 1) (by decide +kernel) (ma_cons (me_ix ix_seq od_ix (mv 0) me_int) ma_nil)) (mv 1))) (mb_cons (ms_put (i := 0) (pv 0) me_int (me_op op_fdivW od_div (me_ix ix_seq od_ix (mv 0) me_int) (mv 1))) (mb_one (ms_ret (mv 2))))) mb_nil) (mb_cons (ms_put (i := 0) (pv 0) me_int (me_op op_addU od_add (me_ix ix_seq od_ix (mv 0) me_int) me_int)) (mb_cons (ms_set (i := 3) sc_law_take.nd rfl (by first | exact Or.inl rfl | exact Or.inr rfl) (me_op op_mod od_mod (me_callTy call_int1 cd_int rfl (T.free 1) (by decide +kernel) (ma_cons (me_op op_mulU od_mul (me_op op_addU od_add (me_op op_addU od_add (me_ix ix_seq od_ix (mv 0) me_int) (me_op op_mulU od_mul (me_op op_mulU od_mul me_int (me_ix ix_seq od_ix (mv 0) me_int)) (me_ix ix_seq od_ix (mv 0) me_int))) me_int) me_int) ma_nil)) me_int)) (mb_cons (ms_set (i := 4) sc_law_take.nd rfl (by first | exact Or.inl rfl | exact Or.inr rfl) (me_op op_addU od_add (me_op op_mod od_mod (me_callTy call_int1 cd_int rfl (T.free 1) (by decide +kernel) (ma_cons (mv 3) ma_nil)) me_int) (me_op op_mulU od_mul me_int (me_ix ix_seq od_ix (mv 0) me_int)))) (mb_cons (ms_set (i := 3) sc_law_take.nd rfl (by first | exact Or.inl rfl | exact Or.inr rfl) (me_op op_mod od_mod (me_callTy call_int1 cd_int rfl (T.free 1) (by decide +kernel) (ma_cons (me_op op_mulU od_mul (mv 3) (mv 4)) ma_nil)) me_int)) (mb_one (ms_ret (me_op op_mod od_mod (me_callTy call_int1 cd_int rfl (T.free 1) (by decide +kernel) (ma_cons (me_op op_addU od_add (me_op op_fdivW od_div (mv 3) me_int) (me_op op_fdivW od_div (mv 3) me_int)) ma_nil)) (mv 1)))))))))
theorem g_law_take (T : TT fa ex fn sf tf mg K base) : Gd PR w (cb K) mg base 2 "_law_take" (spG (cb K) f_law_take) := by
  obtain ⟨fd, F⟩ := T.def_ 23 (d := dd "_law_take" 70)
  exact ⟨_, fd, ["_law_jar_here", "_law_many"], h_law_take T F, T.glo 57, F.kp, FunD.bindsN (ps := ["_law_jar_here", "_law_many"]) F fun _ _ _ _ _ _ us hl => match us, hl with | [_, _], _ => rfl⟩
abbrev n_law_of : List Str := ["_law_jar_here", "_law_some"]
theorem sc_law_of : FnScope n_law_of ["_law_jar_here", "_law_some"] (defScope (top 71)) := ⟨rfl, rfl, rfl, by decide +kernel, rfl, by decide +kernel, by decide +kernel⟩
def b_law_of : Gm → J → RS :=
  (sRet (m2 fIx (mVar 1) (mF f_law_take (mCons (mVar 0) (mCons (mB fLen (mCons (mVar 1) mNil)) mNil)))))
def f_law_of : List D → J → R D := defOf n_law_of 2 b_law_of
theorem h_law_of {f : Addr} {fd : FuncData} (T : TT fa ex fn sf tf mg K base) (F : FunD K (dd "_law_of" 71).name (dd "_law_of" 71).qual (dd "_law_of" 71).params (dd "_law_of" 71).body (dd "_law_of" 71).scope ((dd "_law_of" 71).dvs K) ((dd "_law_of" 71).kws K) f fd) : FnG PR w K mg base (L2.CX PR w) 3 f fd ["_law_jar_here", "_law_some"] (spG (cb K) f_law_of) := by
  refine okG (C := cb K) (k := 2) F sc_law_of (m := b_law_of) (fun cdv hcdv A outer s H Ct E hC hr hgd => ?_)
  obtain ⟨b, H0, ρ0, J0, O0, slf⟩ := Ct
  cases hC
  exact (mb_one (ms_ret (me_ix ix_seq od_ix (mv 1) (me_gcall (takes_of rfl rfl rfl rfl) (g_law_take T) rfl (hr.mono (by decide : 2 ≤ 2)) hgd rfl (ma_cons (mv 0) (ma_cons (me_callB call_len cd_len rfl (T.free 6) (by decide +kernel) (ma_cons (mv 1) ma_nil)) ma_nil))))))
theorem g_law_of (T : TT fa ex fn sf tf mg K base) : Gd PR w (cb K) mg base 3 "_law_of" (spG (cb K) f_law_of) := by
  obtain ⟨fd, F⟩ := T.def_ 24 (d := dd "_law_of" 71)
  exact ⟨_, fd, ["_law_jar_here", "_law_some"], h_law_of T F, T.glo 58, F.kp, FunD.bindsN (ps := ["_law_jar_here", "_law_some"]) F fun _ _ _ _ _ _ us hl => match us, hl with | [_, _], _ => rfl⟩
abbrev n_law_words : List Str := []
theorem sc_law_words : FnScope n_law_words [] (defScope (top 72)) := ⟨rfl, rfl, rfl, by decide +kernel, rfl, by decide +kernel, by decide +kernel⟩
def b_law_words : Gm → J → RS :=
  (sRet (mLst (mCons (mC (.str "main")) (mCons (mC (.str "branch")) (mCons (mC (.str "elder")) (mCons (mC (.str "lesser")) (mCons (mC (.str "greater")) (mCons (mC (.str "both")) (mCons (mC (.str "refuse")) mNil)))))))))
def f_law_words : List D → J → R D := defOf n_law_words 0 b_law_words
theorem h_law_words {f : Addr} {fd : FuncData} (T : TT fa ex fn sf tf mg K base) (F : FunD K (dd "_law_words" 72).name (dd "_law_words" 72).qual (dd "_law_words" 72).params (dd "_law_words" 72).body (dd "_law_words" 72).scope ((dd "_law_words" 72).dvs K) ((dd "_law_words" 72).kws K) f fd) : FnG PR w K mg base (L2.CX PR w) 2 f fd [] (spG (cb K) f_law_words) := by
  refine okG (C := cb K) (k := 1) F sc_law_words (m := b_law_words) (fun cdv hcdv A outer s H Ct E hC hr hgd => ?_)
  obtain ⟨b, H0, ρ0, J0, O0, slf⟩ := Ct
  cases hC
  exact (mb_one (ms_ret (me_lst (ma_cons me_str (ma_cons me_str (ma_cons me_str (ma_cons me_str (ma_cons me_str (ma_cons me_str (ma_cons me_str ma_nil))))))))))
theorem g_law_words (T : TT fa ex fn sf tf mg K base) : Gd PR w (cb K) mg base 2 "_law_words" (spG (cb K) f_law_words) := by
  obtain ⟨fd, F⟩ := T.def_ 25 (d := dd "_law_words" 72)
  exact ⟨_, fd, [], h_law_words T F, T.glo 59, F.kp, FunD.bindsN (ps := []) F fun _ _ _ _ _ _ us hl => match us, hl with | [], _ => rfl⟩
abbrev n_law_picks : List Str := ["_law_jar_here", "_law_way", "_law_some", "_law_branch", "_law_main"]
theorem sc_law_picks : FnScope n_law_picks ["_law_jar_here"] (defScope (top 73)) := ⟨rfl, rfl, rfl, by decide +kernel, rfl, by decide +kernel, by decide +kernel⟩
def b_law_picks : Gm → J → RS :=
  (sSeq (sSet 1 (mF f_law_take (mCons (mVar 0) (mCons (mC (.int 9)) mNil)))) (sSeq (sIf (t2 eqD (mVar 1) (mC (.int 0))) (sRet (mTup (mCons (mTup (mCons (mC (.str "refuse")) (mCons (mC (.str "main")) (mCons (mC (.str "refuse")) mNil)))) (mCons (mTup (mCons (mC (.str "branch")) (mCons (mC (.str "branch")) (mCons (mC (.str "branch")) mNil)))) (mCons (mTup (mCons (mC (.str "refuse")) (mCons (mC (.str "main")) (mCons (mC (.str "refuse")) mNil)))) mNil))))) sNil) (sSeq (sIf (t2 fLt (mVar 1) (mC (.int 4))) (sRet (m2 fMul (mTup (mCons (m2 fMul (mTup (mCons (m2 fIx (mLst (mCons (mC (.str "lesser")) (mCons (mC (.str "greater")) (mCons (mC (.str "both")) mNil)))) (m2 fSub (mVar 1) (mC (.int 1)))) mNil)) (mC (.int 3))) mNil)) (mC (.int 3)))) sNil) (sSeq (sIf (t2 eqD (mVar 1) (mC (.int 4))) (sRet (m2 fMul (mTup (mCons (m2 fMul (mTup (mCons (mF f_law_of (mCons (mVar 0) (mCons (mF f_law_words mNil) mNil))) mNil)) (mC (.int 3))) mNil)) (mC (.int 3)))) sNil) (sSeq (sSet 2 (mSl fSl (mF f_law_words mNil) oN (oS (m2 fAdd (mC (.int 6)) (mB fInt (mCons (m2 (obl fGt) (mVar 1) (mC (.int 6))) mNil)))))) (sRet (mB fTuple (mCons (mLc (iR rng1 (mCons (mC (.int 3)) mNil)) (gN 4) tT (mB fTuple (mCons (mLc (iR rng1 (mCons (mC (.int 3)) mNil)) (gN 3) tT (mF f_law_of (mCons (mVar 0) (mCons (mVar 2) mNil))) (([("_law_branch", 3)] : List (Str × Nat)).map (·.2))) mNil)) (([("_law_main", 4)] : List (Str × Nat)).map (·.2))) mNil))))))))
def f_law_picks : List D → J → R D := defOf n_law_picks 1 b_law_picks
theorem h_law_picks {f : Addr} {fd : FuncData} (T : TT fa ex fn sf tf mg K base) (F : FunD K (dd "_law_picks" 73).name (dd "_law_picks" 73).qual (dd "_law_picks" 73).params (dd "_law_picks" 73).body (dd "_law_picks" 73).scope ((dd "_law_picks" 73).dvs K) ((dd "_law_picks" 73).kws K) f fd) : FnG PR w K mg base (L2.CX PR w) 4 f fd ["_law_jar_here"] (spG (cb K) f_law_picks) := by
  refine okG (C := cb K) (k := 3) F sc_law_picks (m := b_law_picks) (fun cdv hcdv A outer s H Ct E hC hr hgd => ?_)
  obtain ⟨b, H0, ρ0, J0, O0, slf⟩ := Ct
  cases hC
  exact (mb_cons (ms_set (i := 1) sc_law_picks.nd rfl (by first | exact Or.inl rfl | exact Or.inr rfl) (me_gcall (takes_of rfl rfl rfl rfl) (g_law_take T) rfl (hr.mono (by decide : 2 ≤ 3)) hgd rfl (ma_cons (mv 0) (ma_cons me_int ma_nil)))) (mb_cons (ms_if (mt_cmp (op_eqU hr.units) od_eq (mv 1) me_int (nomark _)) (mb_one (ms_ret (me_tup (ma_cons (me_tup (ma_cons me_str (ma_cons me_str (ma_cons me_str ma_nil)))) (ma_cons (me_tup (ma_cons me_str (ma_cons me_str (ma_cons me_str ma_nil)))) (ma_cons (me_tup (ma_cons me_str (ma_cons me_str (ma_cons me_str ma_nil)))) ma_nil)))))) mb_nil) (mb_cons (ms_if (mt_cmp op_ltU od_lt (mv 1) me_int (nomark _)) (mb_one (ms_ret (me_op op_mulU od_mul (me_tup (ma_cons (me_op op_mulU od_mul (me_tup (ma_cons (me_ix ix_seq od_ix (me_lst (ma_cons me_str (ma_cons me_str (ma_cons me_str ma_nil)))) (me_op op_subU od_sub (mv 1) me_int)) ma_nil)) me_int) ma_nil)) me_int))) mb_nil) (mb_cons (ms_if (mt_cmp (op_eqU hr.units) od_eq (mv 1) me_int (nomark _)) (mb_one (ms_ret (me_op op_mulU od_mul (me_tup (ma_cons (me_op op_mulU od_mul (me_tup (ma_cons (me_gcall (takes_of rfl rfl rfl rfl) (g_law_of T) rfl (hr.mono (by decide : 3 ≤ 3)) hgd rfl (ma_cons (mv 0) (ma_cons (me_gcall0 (takes_of rfl rfl rfl rfl) (g_law_words T) rfl (hr.mono (by decide : 2 ≤ 3)) hgd rfl) ma_nil))) ma_nil)) me_int) ma_nil)) me_int))) mb_nil) (mb_cons (ms_set (i := 2) sc_law_picks.nd rfl (by first | exact Or.inl rfl | exact Or.inr rfl) (me_slice sl_U sd_U (me_gcall0 (takes_of rfl rfl rfl rfl) (g_law_words T) rfl (hr.mono (by decide : 2 ≤ 3)) hgd rfl) mo_none (mo_some (me_op op_addU od_add me_int (me_callTy call_int1 cd_int rfl (T.free 1) (by decide +kernel) (ma_cons (me_cmp op_gt od_icmp (mv 1) me_int (nomark _)) ma_nil)))))) (mb_one (ms_ret (me_callTy call_tuple_of cd_tuple rfl (T.free 12) (by decide +kernel) (ma_cons (me_lc rfl sc_law_picks.nd (mi_range1 rfl (T.free 14) (ma_cons me_int ma_nil)) (blkOk_by (own := [("_law_main", 4)]) (by show blkC n_law_picks (defScope (top 73)) _ _ = true; decide +kernel)) (fun _ _ _ _ _ => (mg_name (i := 4) sc_law_picks.nd rfl (by first | exact Or.inl rfl | exact Or.inr rfl))) (fun _ _ _ _ _ => mts_nil) (fun _ _ _ _ _ => (me_callTy call_tuple_of cd_tuple rfl (T.free 12) (by decide +kernel) (ma_cons (me_lc rfl sc_law_picks.nd (mi_range1 rfl (T.free 14) (ma_cons me_int ma_nil)) (blkOk_by (own := [("_law_branch", 3)]) (by kernel_rfl)) (fun _ _ _ _ _ => (mg_name (i := 3) sc_law_picks.nd rfl (by first | exact Or.inl rfl | exact Or.inr rfl))) (fun _ _ _ _ _ => mts_nil) (fun _ _ _ _ _ => (me_gcall takes0 (g_law_of T) rfl (hr.mono (by decide : 3 ≤ 3)) hgd rfl (ma_cons (mv 0) (ma_cons (mv 2) ma_nil)))) (by decide)) ma_nil))) (by decide)) ma_nil)))))))))
theorem g_law_picks (T : TT fa ex fn sf tf mg K base) : Gd PR w (cb K) mg base 4 "_law_picks" (spG (cb K) f_law_picks) := by
  obtain ⟨fd, F⟩ := T.def_ 26 (d := dd "_law_picks" 73)
  exact ⟨_, fd, ["_law_jar_here"], h_law_picks T F, T.glo 60, F.kp, FunD.bindsN (ps := ["_law_jar_here"]) F fun _ _ _ _ _ _ us hl => match us, hl with | [_], _ => rfl⟩
abbrev n_law_comes : List Str := ["_law_picks_here", "_law_elder", "_law_main", "_law_branch", "_law_row", "_law_pick", "_law_low", "_law_high", "_law_found"]
theorem sc_law_comes : FnScope n_law_comes ["_law_picks_here", "_law_elder", "_law_main", "_law_branch"] (defScope (top 74)) := ⟨rfl, rfl, rfl, by decide +kernel, rfl, by decide +kernel, by decide +kernel⟩
def b_law_comes : Gm → J → RS :=
  (sSeq (sSet 4 (m2 fIx (mVar 0) (m2 fAdd (mB fInt (mCons (m2 (obl fGe) (mVar 2) (mVar 1)) mNil)) (mB fInt (mCons (m2 (obl fGt) (mVar 2) (mVar 1)) mNil))))) (sSeq (sSet 5 (m2 fIx (mVar 4) (m2 fAdd (mB fInt (mCons (m2 (obl fGe) (mVar 3) (mVar 1)) mNil)) (mB fInt (mCons (m2 (obl fGt) (mVar 3) (mVar 1)) mNil))))) (sSeq (sAsg (mIf (t2 fLt (mVar 2) (mVar 3)) (mTup (mCons (mVar 2) (mCons (mVar 3) mNil))) (mTup (mCons (mVar 3) (mCons (mVar 2) mNil)))) (gT 2 (gsCons (gN 6) (gsCons (gN 7) gsNil)))) (sSeq (sOwnN 8 (mDsp (pCons (mC (.str "main")) (mVar 2) (pCons (mC (.str "branch")) (mVar 3) (pCons (mC (.str "elder")) (mVar 1) pNil))))) (sSeq (sDput2 8 (mC (.str "lesser")) (mC (.str "greater")) (mTup (mCons (mVar 6) (mCons (mVar 7) mNil)))) (sSeq (sDput 8 (mC (.str "both")) (mIf (t2 fGt (m2 fAdd (mVar 2) (mVar 3)) (mVar 1)) (m2 fSub (m2 fAdd (mVar 2) (mVar 3)) (mVar 1)) (mC (.int 0)))) (fun Γ j => (sRet (mIf (t2 eqD (mVar 5) (mC (.str "refuse"))) (mTup (mCons (mC (.str "conflict")) (mCons (mTup (mCons (mVar 1) (mCons (mVar 2) (mCons (mVar 3) mNil)))) mNil))) (mTup (mCons (mC (.str "told")) (mCons (m2 fDx (mVar 8) (mVar 5)) mNil))))) (frzG 8 Γ) j)))))))
def f_law_comes : List D → J → R D := defOf n_law_comes 4 b_law_comes
theorem h_law_comes {f : Addr} {fd : FuncData} (T : TT fa ex fn sf tf mg K base) (F : FunD K (dd "_law_comes" 74).name (dd "_law_comes" 74).qual (dd "_law_comes" 74).params (dd "_law_comes" 74).body (dd "_law_comes" 74).scope ((dd "_law_comes" 74).dvs K) ((dd "_law_comes" 74).kws K) f fd) : FnG PR w K mg base (L2.CX PR w) 2 f fd ["_law_picks_here", "_law_elder", "_law_main", "_law_branch"] (spG (cb K) f_law_comes) := by
  refine okG (C := cb K) (k := 1) F sc_law_comes (m := b_law_comes) (fun cdv hcdv A outer s H Ct E hC hr hgd => ?_)
  obtain ⟨b, H0, ρ0, J0, O0, slf⟩ := Ct
  cases hC
  exact (mb_cons (ms_set (i := 4) sc_law_comes.nd rfl (by first | exact Or.inl rfl | exact Or.inr rfl) (me_ix ix_seq od_ix (mv 0) (me_op op_addU od_add (me_callTy call_int1 cd_int rfl (T.free 1) (by decide +kernel) (ma_cons (me_cmp op_ge od_icmp (mv 2) (mv 1) (nomark _)) ma_nil)) (me_callTy call_int1 cd_int rfl (T.free 1) (by decide +kernel) (ma_cons (me_cmp op_gt od_icmp (mv 2) (mv 1) (nomark _)) ma_nil))))) (mb_cons (ms_set (i := 5) sc_law_comes.nd rfl (by first | exact Or.inl rfl | exact Or.inr rfl) (me_ix ix_seq od_ix (mv 4) (me_op op_addU od_add (me_callTy call_int1 cd_int rfl (T.free 1) (by decide +kernel) (ma_cons (me_cmp op_ge od_icmp (mv 3) (mv 1) (nomark _)) ma_nil)) (me_callTy call_int1 cd_int rfl (T.free 1) (by decide +kernel) (ma_cons (me_cmp op_gt od_icmp (mv 3) (mv 1) (nomark _)) ma_nil))))) (mb_cons (ms_asg (me_if (mt_cmp op_ltU od_lt (mv 2) (mv 3) (nomark _)) (me_tup (ma_cons (mv 2) (ma_cons (mv 3) ma_nil))) (me_tup (ma_cons (mv 3) (ma_cons (mv 2) ma_nil)))) (mg_tup rfl rfl (mgs_cons (mg_name (i := 6) sc_law_comes.nd rfl (by first | exact Or.inl rfl | exact Or.inr rfl)) (mgs_cons (mg_name (i := 7) sc_law_comes.nd rfl (by first | exact Or.inl rfl | exact Or.inr rfl)) mgs_nil)))) (mb_cons (ms_ownN (i := 8) sc_law_comes.nd rfl (by first | exact Or.inl rfl | exact Or.inr rfl) (mn_dsp (mp_cons me_str (mv 2) (mp_cons me_str (mv 3) (mp_cons me_str (mv 1) mp_nil))))) (mb_cons (ms_dput2 (i := 8) rfl hr.units rfl (pv 8) (pv 8) me_str me_str (me_tup (ma_cons (mv 6) (ma_cons (mv 7) ma_nil)))) (mb_cons (ms_dput (i := 8) hr.units (pv 8) me_str (me_if (mt_cmp op_gt od_icmp (me_op op_addU od_add (mv 2) (mv 3)) (mv 1) (nomark _)) (me_op op_subU od_sub (me_op op_addU od_add (mv 2) (mv 3)) (mv 1)) me_int)) (mb_freeze 8 (mb_one (ms_ret (me_if (mt_cmp (op_eqU hr.units) od_eq (mv 5) me_str (nomark _)) (me_tup (ma_cons me_str (ma_cons (me_tup (ma_cons (mv 1) (ma_cons (mv 2) (ma_cons (mv 3) ma_nil)))) ma_nil))) (me_tup (ma_cons me_str (ma_cons (me_dx hr.units (mv 8) (mv 5)) ma_nil)))))))))))))
theorem g_law_comes (T : TT fa ex fn sf tf mg K base) : Gd PR w (cb K) mg base 2 "_law_comes" (spG (cb K) f_law_comes) := by
  obtain ⟨fd, F⟩ := T.def_ 27 (d := dd "_law_comes" 74)
  exact ⟨_, fd, ["_law_picks_here", "_law_elder", "_law_main", "_law_branch"], h_law_comes T F, T.glo 61, F.kp, FunD.bindsN (ps := ["_law_picks_here", "_law_elder", "_law_main", "_law_branch"]) F fun _ _ _ _ _ _ us hl => match us, hl with | [_, _, _, _], _ => rfl⟩
abbrev n_law_heard : List Str := ["_law_made", "_law_trio", "_law_told", "_law_caught", "error"]
theorem sc_law_heard : FnScope n_law_heard ["_law_made", "_law_trio"] (defScope (top 75)) := ⟨rfl, rfl, rfl, by decide +kernel, rfl, by decide +kernel, by decide +kernel⟩
def b_law_heard : Gm → J → RS :=
  (sSeq (sAsg (mTup (mCons (mC .non) (mCons (mC .non) mNil))) (gT 2 (gsCons (gN 2) (gsCons (gN 3) gsNil)))) (sSeq (sTry (owLk 0 [true, true, true, true, true, true, true, true, true, true]) 4 (sSet 2 (mICall 0 12 f_Rule_call (mCons (m2 fIx (mVar 1) (mC (.int 0))) (mCons (m2 fIx (mVar 1) (mC (.int 1))) (mCons (m2 fIx (mVar 1) (mC (.int 2))) mNil))))) (sSet 3 (mVar 4))) (sSeq (sIf (t2 fIs (mVar 3) (mC .non)) (sRet (mTup (mCons (mC (.str "told")) (mCons (mVar 2) mNil)))) sNil) (sSeq (sIf (tV (m1 (fun d => (isiD (tyLk ty_Conflict) (owLk 10 ow_Conflict) (owLk 0 ox_Conflict) d).map .bl) (mVar 3))) (sRet (mTup (mCons (mC (.str "conflict")) (mCons (m1 (fldD "value" [] xs_value) (mVar 3)) mNil)))) sNil) (sRet (mIf (tV (m1 (fun d => (isiD (tyLk ty_BadMerge) (owLk 10 ow_BadMerge) (owLk 0 ox_BadMerge) d).map .bl) (mVar 3))) (mTup (mCons (mC (.str "merge")) (mCons (m1 (fldD "value" [] xs_value) (mVar 3)) mNil))) (mTup (mCons (mC (.str "odd")) (mCons (mC .non) mNil)))))))))
def f_law_heard : List D → J → R D := defOf n_law_heard 2 b_law_heard
theorem h_law_heard {f : Addr} {fd : FuncData} (T : TT fa ex fn sf tf mg K base) (F : FunD K (dd "_law_heard" 75).name (dd "_law_heard" 75).qual (dd "_law_heard" 75).params (dd "_law_heard" 75).body (dd "_law_heard" 75).scope ((dd "_law_heard" 75).dvs K) ((dd "_law_heard" 75).kws K) f fd) : FnG PR w K mg base (L2.CX PR w) 5 f fd ["_law_made", "_law_trio"] (spG (cb K) f_law_heard) := by
  refine okG (C := cb K) (k := 4) F sc_law_heard (m := b_law_heard) (fun cdv hcdv A outer s H Ct E hC hr hgd => ?_)
  obtain ⟨b, H0, ρ0, J0, O0, slf⟩ := Ct
  cases hC
  exact (mb_cons (ms_asg (me_tup (ma_cons me_non (ma_cons me_non ma_nil))) (mg_tup rfl rfl (mgs_cons (mg_name (i := 2) sc_law_heard.nd rfl (by first | exact Or.inl rfl | exact Or.inr rfl)) (mgs_cons (mg_name (i := 3) sc_law_heard.nd rfl (by first | exact Or.inl rfl | exact Or.inr rfl)) mgs_nil)))) (mb_cons (ms_try (i := 4) rfl rfl rfl sc_law_heard.nd rfl rfl ⟨rfl, by decide, .inl (T.glo 63)⟩ (takes_of rfl rfl rfl rfl) (exm_ok (T.exs 32)) (fun W pn xe tk2 _ => (mb_one (ms_set (i := 2) sc_law_heard.nd rfl (by first | exact Or.inl rfl | exact Or.inr rfl) (me_icall (i := 0) tk2 (g_Rule_call T) (icB_ok (T.exs 31)) rfl (hr.mono (by decide : 4 ≤ 4)) hgd rfl (by first | exact Or.inl rfl | exact Or.inr (Or.inl rfl) | exact Or.inr (Or.inr rfl)) (ma_cons (me_ix ix_seq od_ix (mv 1) me_int) (ma_cons (me_ix ix_seq od_ix (mv 1) me_int) (ma_cons (me_ix ix_seq od_ix (mv 1) me_int) ma_nil))))))) (fun a pn => (mb_one (ms_set (i := 3) sc_law_heard.nd rfl (by first | exact Or.inl rfl | exact Or.inr rfl) (mv 4))))) (mb_cons (ms_if (mt_cmp op_isN od_is (mv 3) me_non (nomark _)) (mb_one (ms_ret (me_tup (ma_cons me_str (ma_cons (mv 2) ma_nil))))) mb_nil) (mb_cons (ms_if (mt_val rfl (me_isi rfl rfl (T.free 2) (pe_glob (v := .ref (cmK K 9)) rfl (T.glo 52) rfl) (.own _) (isiB_ok (T.exs 33)) (ow_ok (T.exs 3) (T.exs 34)) (ox_ok (T.exs 5) (T.exs 35)) (mv 3))) (mb_one (ms_ret (me_tup (ma_cons me_str (ma_cons (me_fld rfl nil_ok (xfld_ok (n0 := 0) (n := 10) (T.exs 5) (by decide) (T.exs 36)) (mv 3)) ma_nil))))) mb_nil) (mb_one (ms_ret (me_if (mt_val rfl (me_isi rfl rfl (T.free 2) (pe_glob (v := .ref (cmK K 8)) rfl (T.glo 53) rfl) (.own _) (isiB_ok (T.exs 37)) (ow_ok (T.exs 3) (T.exs 38)) (ox_ok (T.exs 5) (T.exs 39)) (mv 3))) (me_tup (ma_cons me_str (ma_cons (me_fld rfl nil_ok (xfld_ok (n0 := 0) (n := 10) (T.exs 5) (by decide) (T.exs 36)) (mv 3)) ma_nil))) (me_tup (ma_cons me_str (ma_cons me_non ma_nil))))))))))
theorem g_law_heard (T : TT fa ex fn sf tf mg K base) : Gd PR w (cb K) mg base 5 "_law_heard" (spG (cb K) f_law_heard) := by
  obtain ⟨fd, F⟩ := T.def_ 28 (d := dd "_law_heard" 75)
  exact ⟨_, fd, ["_law_made", "_law_trio"], h_law_heard T F, T.glo 62, F.kp, FunD.bindsN (ps := ["_law_made", "_law_trio"]) F fun _ _ _ _ _ _ us hl => match us, hl with | [_, _], _ => rfl⟩
abbrev n_law_near : List Str := ["_law_jar_here", "_law_elder", "_law_way"]
theorem sc_law_near : FnScope n_law_near ["_law_jar_here", "_law_elder", "_law_way"] (defScope (top 76)) := ⟨rfl, rfl, rfl, by decide +kernel, rfl, by decide +kernel, by decide +kernel⟩
def b_law_near : Gm → J → RS :=
  (sSeq (sIf (t2 eqD (mVar 2) (mC (.int 1))) (sRet (mVar 1)) sNil) (sSeq (sIf (t2 eqD (mVar 2) (mC (.int 0))) (sRet (mF f_law_of (mCons (mVar 0) (mCons (mLst (mCons (m2 fSub (mVar 1) (mC (.int 1))) (mCons (mC (.int 0)) (mCons (mF f_law_take (mCons (mVar 0) (mCons (mVar 1) mNil))) mNil)))) mNil)))) sNil) (sRet (mF f_law_of (mCons (mVar 0) (mCons (mLst (mCons (m2 fAdd (mVar 1) (mC (.int 1))) (mCons (mC (.int 999)) (mCons (m2 fAdd (m2 fAdd (mVar 1) (mC (.int 1))) (mF f_law_take (mCons (mVar 0) (mCons (m2 fSub (mC (.int 999)) (mVar 1)) mNil)))) mNil)))) mNil))))))
def f_law_near : List D → J → R D := defOf n_law_near 3 b_law_near
theorem h_law_near {f : Addr} {fd : FuncData} (T : TT fa ex fn sf tf mg K base) (F : FunD K (dd "_law_near" 76).name (dd "_law_near" 76).qual (dd "_law_near" 76).params (dd "_law_near" 76).body (dd "_law_near" 76).scope ((dd "_law_near" 76).dvs K) ((dd "_law_near" 76).kws K) f fd) : FnG PR w K mg base (L2.CX PR w) 4 f fd ["_law_jar_here", "_law_elder", "_law_way"] (spG (cb K) f_law_near) := by
  refine okG (C := cb K) (k := 3) F sc_law_near (m := b_law_near) (fun cdv hcdv A outer s H Ct E hC hr hgd => ?_)
  obtain ⟨b, H0, ρ0, J0, O0, slf⟩ := Ct
  cases hC
  exact (mb_cons (ms_if (mt_cmp (op_eqU hr.units) od_eq (mv 2) me_int (nomark _)) (mb_one (ms_ret (mv 1))) mb_nil) (mb_cons (ms_if (mt_cmp (op_eqU hr.units) od_eq (mv 2) me_int (nomark _)) (mb_one (ms_ret (me_gcall (takes_of rfl rfl rfl rfl) (g_law_of T) rfl (hr.mono (by decide : 3 ≤ 3)) hgd rfl (ma_cons (mv 0) (ma_cons (me_lst (ma_cons (me_op op_subU od_sub (mv 1) me_int) (ma_cons me_int (ma_cons (me_gcall (takes_of rfl rfl rfl rfl) (g_law_take T) rfl (hr.mono (by decide : 2 ≤ 3)) hgd rfl (ma_cons (mv 0) (ma_cons (mv 1) ma_nil))) ma_nil)))) ma_nil))))) mb_nil) (mb_one (ms_ret (me_gcall (takes_of rfl rfl rfl rfl) (g_law_of T) rfl (hr.mono (by decide : 3 ≤ 3)) hgd rfl (ma_cons (mv 0) (ma_cons (me_lst (ma_cons (me_op op_addU od_add (mv 1) me_int) (ma_cons me_int (ma_cons (me_op op_addU od_add (me_op op_addU od_add (mv 1) me_int) (me_gcall (takes_of rfl rfl rfl rfl) (g_law_take T) rfl (hr.mono (by decide : 2 ≤ 3)) hgd rfl (ma_cons (mv 0) (ma_cons (me_op op_subU od_sub me_int (mv 1)) ma_nil)))) ma_nil)))) ma_nil)))))))
theorem g_law_near (T : TT fa ex fn sf tf mg K base) : Gd PR w (cb K) mg base 4 "_law_near" (spG (cb K) f_law_near) := by
  obtain ⟨fd, F⟩ := T.def_ 29 (d := dd "_law_near" 76)
  exact ⟨_, fd, ["_law_jar_here", "_law_elder", "_law_way"], h_law_near T F, T.glo 64, F.kp, FunD.bindsN (ps := ["_law_jar_here", "_law_elder", "_law_way"]) F fun _ _ _ _ _ _ us hl => match us, hl with | [_, _, _], _ => rfl⟩
abbrev n_law_numbers_right : List Str := ["_law_jar_here", "_law_made", "_law_picks_here", "_law_way", "_law_elder", "_law_trio", "_law_turn", "_law_one", "_law_due"]
theorem sc_law_numbers_right : FnScope n_law_numbers_right ["_law_jar_here", "_law_made", "_law_picks_here"] (defScope (top 77)) := ⟨rfl, rfl, rfl, by decide +kernel, rfl, by decide +kernel, by decide +kernel⟩
def b_law_numbers_right : Gm → J → RS :=
  (sSeq (sFor (iR rng1 (mCons (mC (.int 9)) mNil)) (gN 3) (sSeq (sSet 4 (mF f_law_of (mCons (mVar 0) (mCons (mLst (mCons (mC (.int 1)) (mCons (mC (.int 2)) (mCons (mC (.int 3)) (mCons (mC (.int 998)) (mCons (m2 fAdd (mC (.int 1)) (mF f_law_take (mCons (mVar 0) (mCons (mC (.int 998)) mNil)))) mNil)))))) mNil)))) (sSeq (sSet 5 (mTup (mCons (mVar 4) (mCons (mF f_law_near (mCons (mVar 0) (mCons (mVar 4) (mCons (m2 fDiv (mVar 3) (mC (.int 3))) mNil)))) (mCons (mF f_law_near (mCons (mVar 0) (mCons (mVar 4) (mCons (m2 fMod (mVar 3) (mC (.int 3))) mNil)))) mNil))))) (sIf (t2 neD (mB fReprE (mCons (mF f_law_heard (mCons (mVar 1) (mCons (mVar 5) mNil))) mNil)) (mB fReprE (mCons (mF f_law_comes (mCons (mVar 2) (mCons (m2 fIx (mVar 5) (mC (.int 0))) (mCons (m2 fIx (mVar 5) (mC (.int 1))) (mCons (m2 fIx (mVar 5) (mC (.int 2))) mNil))))) mNil))) (sRet (mC (.bl false))) sNil)))) (sSeq (sFor (iR rng1 (mCons (mC (.int 6)) mNil)) (gN 6) (sSeq (sSet 5 (mB fTuple (mCons (mLc (iR rng1 (mCons (mC (.int 3)) mNil)) (gN 7) tT (mF f_law_of (mCons (mVar 0) (mCons (mLst (mCons (mC (.int 0)) (mCons (mC (.int 1)) (mCons (mC (.int 2)) (mCons (mC (.int 998)) (mCons (mC (.int 999)) (mCons (mF f_law_take (mCons (mVar 0) (mCons (mC (.int 1000)) mNil))) mNil))))))) mNil))) (([("_law_one", 7)] : List (Str × Nat)).map (·.2))) mNil))) (sSeq (sSet 8 (mF f_law_comes (mCons (mVar 2) (mCons (m2 fIx (mVar 5) (mC (.int 0))) (mCons (m2 fIx (mVar 5) (mC (.int 1))) (mCons (m2 fIx (mVar 5) (mC (.int 2))) mNil)))))) (sIf (t2 neD (mB fReprE (mCons (mLst (mCons (mF f_law_heard (mCons (mVar 1) (mCons (mVar 5) mNil))) (mCons (mF f_law_heard (mCons (mVar 1) (mCons (mVar 5) mNil))) mNil))) mNil)) (mB fReprE (mCons (mLst (mCons (mVar 8) (mCons (mVar 8) mNil))) mNil))) (sRet (mC (.bl false))) sNil)))) (sRet (mC (.bl true)))))
def f_law_numbers_right : List D → J → R D := defOf n_law_numbers_right 3 b_law_numbers_right
theorem h_law_numbers_right {f : Addr} {fd : FuncData} (T : TT fa ex fn sf tf mg K base) (F : FunD K (dd "_law_numbers_right" 77).name (dd "_law_numbers_right" 77).qual (dd "_law_numbers_right" 77).params (dd "_law_numbers_right" 77).body (dd "_law_numbers_right" 77).scope ((dd "_law_numbers_right" 77).dvs K) ((dd "_law_numbers_right" 77).kws K) f fd) : FnG PR w K mg base (L2.CX PR w) 6 f fd ["_law_jar_here", "_law_made", "_law_picks_here"] (spG (cb K) f_law_numbers_right) := by
  refine okG (C := cb K) (k := 5) F sc_law_numbers_right (m := b_law_numbers_right) (fun cdv hcdv A outer s H Ct E hC hr hgd => ?_)
  obtain ⟨b, H0, ρ0, J0, O0, slf⟩ := Ct
  cases hC
  exact (mb_cons (ms_for (passes_of rfl) rfl (mi_range1 rfl (T.free 14) (ma_cons me_int ma_nil)) (mg_name (i := 3) sc_law_numbers_right.nd rfl (by first | exact Or.inl rfl | exact Or.inr rfl)) (mb_cons (ms_set (i := 4) sc_law_numbers_right.nd rfl (by first | exact Or.inl rfl | exact Or.inr rfl) (me_gcall (takes_of rfl rfl rfl rfl) (g_law_of T) rfl (hr.mono (by decide : 3 ≤ 5)) hgd rfl (ma_cons (mv 0) (ma_cons (me_lst (ma_cons me_int (ma_cons me_int (ma_cons me_int (ma_cons me_int (ma_cons (me_op op_addU od_add me_int (me_gcall (takes_of rfl rfl rfl rfl) (g_law_take T) rfl (hr.mono (by decide : 2 ≤ 5)) hgd rfl (ma_cons (mv 0) (ma_cons me_int ma_nil)))) ma_nil)))))) ma_nil)))) (mb_cons (ms_set (i := 5) sc_law_numbers_right.nd rfl (by first | exact Or.inl rfl | exact Or.inr rfl) (me_tup (ma_cons (mv 4) (ma_cons (me_gcall (takes_of rfl rfl rfl rfl) (g_law_near T) rfl (hr.mono (by decide : 4 ≤ 5)) hgd rfl (ma_cons (mv 0) (ma_cons (mv 4) (ma_cons (me_op op_fdivW od_div (mv 3) me_int) ma_nil)))) (ma_cons (me_gcall (takes_of rfl rfl rfl rfl) (g_law_near T) rfl (hr.mono (by decide : 4 ≤ 5)) hgd rfl (ma_cons (mv 0) (ma_cons (mv 4) (ma_cons (me_op op_mod od_mod (mv 3) me_int) ma_nil)))) ma_nil))))) (mb_one (ms_if (mt_cmp (op_neU hr.units) od_ne (me_callB (call_reprE rfl (T.exs 40) hr hgd) cd_reprE rfl (T.free 66) (by decide +kernel) (ma_cons (me_gcall (takes_of rfl rfl rfl rfl) (g_law_heard T) rfl (hr.mono (by decide : 5 ≤ 5)) hgd rfl (ma_cons (mv 1) (ma_cons (mv 5) ma_nil))) ma_nil)) (me_callB (call_reprE rfl (T.exs 40) hr hgd) cd_reprE rfl (T.free 66) (by decide +kernel) (ma_cons (me_gcall (takes_of rfl rfl rfl rfl) (g_law_comes T) rfl (hr.mono (by decide : 2 ≤ 5)) hgd rfl (ma_cons (mv 2) (ma_cons (me_ix ix_seq od_ix (mv 5) me_int) (ma_cons (me_ix ix_seq od_ix (mv 5) me_int) (ma_cons (me_ix ix_seq od_ix (mv 5) me_int) ma_nil))))) ma_nil)) (nomark _)) (mb_one (ms_ret me_bl)) mb_nil))))) (mb_cons (ms_for (passes_of rfl) rfl (mi_range1 rfl (T.free 14) (ma_cons me_int ma_nil)) (mg_name (i := 6) sc_law_numbers_right.nd rfl (by first | exact Or.inl rfl | exact Or.inr rfl)) (mb_cons (ms_set (i := 5) sc_law_numbers_right.nd rfl (by first | exact Or.inl rfl | exact Or.inr rfl) (me_callTy call_tuple_of cd_tuple rfl (T.free 12) (by decide +kernel) (ma_cons (me_lc rfl sc_law_numbers_right.nd (mi_range1 rfl (T.free 14) (ma_cons me_int ma_nil)) (blkOk_by (own := [("_law_one", 7)]) (by show blkC n_law_numbers_right (defScope (top 77)) _ _ = true; decide +kernel)) (fun _ _ _ _ _ => (mg_name (i := 7) sc_law_numbers_right.nd rfl (by first | exact Or.inl rfl | exact Or.inr rfl))) (fun _ _ _ _ _ => mts_nil) (fun _ _ _ _ _ => (me_gcall takes0 (g_law_of T) rfl (hr.mono (by decide : 3 ≤ 5)) hgd rfl (ma_cons (mv 0) (ma_cons (me_lst (ma_cons me_int (ma_cons me_int (ma_cons me_int (ma_cons me_int (ma_cons me_int (ma_cons (me_gcall takes0 (g_law_take T) rfl (hr.mono (by decide : 2 ≤ 5)) hgd rfl (ma_cons (mv 0) (ma_cons me_int ma_nil))) ma_nil))))))) ma_nil)))) (by decide)) ma_nil))) (mb_cons (ms_set (i := 8) sc_law_numbers_right.nd rfl (by first | exact Or.inl rfl | exact Or.inr rfl) (me_gcall (takes_of rfl rfl rfl rfl) (g_law_comes T) rfl (hr.mono (by decide : 2 ≤ 5)) hgd rfl (ma_cons (mv 2) (ma_cons (me_ix ix_seq od_ix (mv 5) me_int) (ma_cons (me_ix ix_seq od_ix (mv 5) me_int) (ma_cons (me_ix ix_seq od_ix (mv 5) me_int) ma_nil)))))) (mb_one (ms_if (mt_cmp (op_neU hr.units) od_ne (me_callB (call_reprE rfl (T.exs 40) hr hgd) cd_reprE rfl (T.free 66) (by decide +kernel) (ma_cons (me_lst (ma_cons (me_gcall (takes_of rfl rfl rfl rfl) (g_law_heard T) rfl (hr.mono (by decide : 5 ≤ 5)) hgd rfl (ma_cons (mv 1) (ma_cons (mv 5) ma_nil))) (ma_cons (me_gcall (takes_of rfl rfl rfl rfl) (g_law_heard T) rfl (hr.mono (by decide : 5 ≤ 5)) hgd rfl (ma_cons (mv 1) (ma_cons (mv 5) ma_nil))) ma_nil))) ma_nil)) (me_callB (call_reprE rfl (T.exs 40) hr hgd) cd_reprE rfl (T.free 66) (by decide +kernel) (ma_cons (me_lst (ma_cons (mv 8) (ma_cons (mv 8) ma_nil))) ma_nil)) (nomark _)) (mb_one (ms_ret me_bl)) mb_nil))))) (mb_one (ms_ret me_bl))))
theorem g_law_numbers_right (T : TT fa ex fn sf tf mg K base) : Gd PR w (cb K) mg base 6 "_law_numbers_right" (spG (cb K) f_law_numbers_right) := by
  obtain ⟨fd, F⟩ := T.def_ 30 (d := dd "_law_numbers_right" 77)
  exact ⟨_, fd, ["_law_jar_here", "_law_made", "_law_picks_here"], h_law_numbers_right T F, T.glo 65, F.kp, FunD.bindsN (ps := ["_law_jar_here", "_law_made", "_law_picks_here"]) F fun _ _ _ _ _ _ us hl => match us, hl with | [_, _, _], _ => rfl⟩
abbrev n_law_is_merge : List Str := ["_law_heard_here", "_law_trio", "_law_word", "_law_value", "_law_one"]
theorem sc_law_is_merge : FnScope n_law_is_merge ["_law_heard_here", "_law_trio"] (defScope (top 78)) := ⟨rfl, rfl, rfl, by decide +kernel, rfl, by decide +kernel, by decide +kernel⟩
def b_law_is_merge : Gm → J → RS :=
  (sSeq (sAsg (mVar 0) (gT 2 (gsCons (gN 2) (gsCons (gN 3) gsNil)))) (sSeq (sIf (tOo (t2 neD (mVar 2) (mC (.str "merge"))) (tOo (tNt (tV (m1 (fun d => (isiD (tyLk ty_tuple) (owLk 10 ow_tuple) (owLk 0 ox_tuple) d).map .bl) (mVar 3)))) (tOo (t2 neD (mB fLen (mCons (mVar 3) mNil)) (mC (.int 3))) (tNt (t2 eqT (mVar 3) (mVar 1)))))) (sRet (mC (.bl false))) sNil) (sRet (m2 (obl eqD) (mLc (iS (mVar 3)) (gN 4) tT (m1 (fun d => (isiD (tyLk ty_bool) (owLk 10 ow_bool) (owLk 0 ox_bool) d).map .bl) (mVar 4)) (([("_law_one", 4)] : List (Str × Nat)).map (·.2))) (mLc (iS (mVar 1)) (gN 4) tT (m1 (fun d => (isiD (tyLk ty_bool) (owLk 10 ow_bool) (owLk 0 ox_bool) d).map .bl) (mVar 4)) (([("_law_one", 4)] : List (Str × Nat)).map (·.2)))))))
def f_law_is_merge : List D → J → R D := defOf n_law_is_merge 2 b_law_is_merge
theorem h_law_is_merge {f : Addr} {fd : FuncData} (T : TT fa ex fn sf tf mg K base) (F : FunD K (dd "_law_is_merge" 78).name (dd "_law_is_merge" 78).qual (dd "_law_is_merge" 78).params (dd "_law_is_merge" 78).body (dd "_law_is_merge" 78).scope ((dd "_law_is_merge" 78).dvs K) ((dd "_law_is_merge" 78).kws K) f fd) : FnG PR w K mg base (L2.CX PR w) 2 f fd ["_law_heard_here", "_law_trio"] (spG (cb K) f_law_is_merge) := by
  refine okG (C := cb K) (k := 1) F sc_law_is_merge (m := b_law_is_merge) (fun cdv hcdv A outer s H Ct E hC hr hgd => ?_)
  obtain ⟨b, H0, ρ0, J0, O0, slf⟩ := Ct
  cases hC
  exact (mb_cons (ms_asg (mv 0) (mg_tup rfl rfl (mgs_cons (mg_name (i := 2) sc_law_is_merge.nd rfl (by first | exact Or.inl rfl | exact Or.inr rfl)) (mgs_cons (mg_name (i := 3) sc_law_is_merge.nd rfl (by first | exact Or.inl rfl | exact Or.inr rfl)) mgs_nil)))) (mb_cons (ms_if (PW.pt (mw_or (mt_cmp (op_neU hr.units) od_ne (mv 2) me_str (nomark _)) (mw_or (mt_not (mt_val rfl (me_isi rfl rfl (T.free 2) (pe_bltn (v := .ty "tuple") rfl (T.free 12) (by decide +kernel) rfl) (.ty _) (isiB_ok (T.exs 13)) (ow_ok (T.exs 3) (T.exs 14)) (ox_ok (T.exs 5) (T.exs 15)) (mv 3)))) (mw_or (mt_cmp (op_neU hr.units) od_ne (me_callB call_len cd_len rfl (T.free 6) (by decide +kernel) (ma_cons (mv 3) ma_nil)) me_int (nomark _)) (mw_or1 (mt_not (mt_cmp (op_eqT rfl (u65 hr)) od_eqT (mv 3) (mv 1) (nomark _)))))))) (mb_one (ms_ret me_bl)) mb_nil) (mb_one (ms_ret (me_cmp (op_eqU hr.units) od_eq (me_lc rfl sc_law_is_merge.nd (mi_seq rfl (mv 3)) (blkOk_by (own := [("_law_one", 4)]) (by show blkC n_law_is_merge (defScope (top 78)) _ _ = true; decide +kernel)) (fun _ _ _ _ _ => (mg_name (i := 4) sc_law_is_merge.nd rfl (by first | exact Or.inl rfl | exact Or.inr rfl))) (fun _ _ _ _ _ => mts_nil) (fun _ _ _ _ _ => (me_isi rfl rfl (T.free 2) (pe_bltn (v := .ty "bool") rfl (T.free 3) (by decide +kernel) rfl) (.ty _) (isiB_ok (T.exs 7)) (ow_ok (T.exs 3) (T.exs 8)) (ox_ok (T.exs 5) (T.exs 9)) (mv 4))) (by decide)) (me_lc rfl sc_law_is_merge.nd (mi_seq rfl (mv 1)) (blkOk_by (own := [("_law_one", 4)]) (by show blkC n_law_is_merge (defScope (top 78)) _ _ = true; decide +kernel)) (fun _ _ _ _ _ => (mg_name (i := 4) sc_law_is_merge.nd rfl (by first | exact Or.inl rfl | exact Or.inr rfl))) (fun _ _ _ _ _ => mts_nil) (fun _ _ _ _ _ => (me_isi rfl rfl (T.free 2) (pe_bltn (v := .ty "bool") rfl (T.free 3) (by decide +kernel) rfl) (.ty _) (isiB_ok (T.exs 7)) (ow_ok (T.exs 3) (T.exs 8)) (ox_ok (T.exs 5) (T.exs 9)) (mv 4))) (by decide)) (nomark _))))))
theorem g_law_is_merge (T : TT fa ex fn sf tf mg K base) : Gd PR w (cb K) mg base 2 "_law_is_merge" (spG (cb K) f_law_is_merge) := by
  obtain ⟨fd, F⟩ := T.def_ 31 (d := dd "_law_is_merge" 78)
  exact ⟨_, fd, ["_law_heard_here", "_law_trio"], h_law_is_merge T F, T.glo 67, F.kp, FunD.bindsN (ps := ["_law_heard_here", "_law_trio"]) F fun _ _ _ _ _ _ us hl => match us, hl with | [_, _], _ => rfl⟩
theorem gk_Book_2 (T : TT fa ex fn sf tf mg K base) : GiK PR w (cb K) mg base 5 "Book" 11 2 [] (fun ds es => ds) (spI (cb K) 11 f_Book_init) := by
  obtain ⟨fd, F⟩ := T.def_ 15 (d := (⟨("Book", some "__init__"), "__init__", "Book.__init__", defArgs (inCls (top 59) 0), defBody (inCls (top 59) 0), defScope (inCls (top 59) 0), [.adr (dfA ("Book", some "__init__") 0)], []⟩ : He.DefD))
  obtain ⟨its, kb⟩ := FunD.kbindsD (ps := ["self", "layout", "rows"]) F 3 [] (fun us its ws => us) (List.cons_ne_nil _ _) (fun r1 r2 r4 => r1) (fun _ _ _ _ _ _ _ us its ws l1 l2 l4 => match us, its, ws, l1, l2, l4 with | [_, _, _], [_], [], _, _, _ => ⟨_, rfl, rfl⟩)
  exact ⟨_, fd, ["self", "layout", "rows"], _, _, h_Book_init T F, T.glo 39, T.mkr 40, kb, ⟨fun x ρ H B vs zs ds es h1 h2 l1 l2 => ⟨vs, rfl, h1⟩⟩⟩
abbrev n_law_odd_right : List Str := ["_law_jar_here", "_law_made", "_law_book", "_law_some", "_law_turn", "_law_trio", "_law_one"]
theorem sc_law_odd_right : FnScope n_law_odd_right ["_law_jar_here", "_law_made"] (defScope (top 79)) := ⟨rfl, rfl, rfl, by decide +kernel, rfl, by decide +kernel, by decide +kernel⟩
def b_law_odd_right : Gm → J → RS :=
  (sSeq (sSet 2 (mMakeL 11 f_Book_init (mArr 2 0 (fun ds es => ds) (mCons (mMake 10 f_Layout_init (mCons (mC (.str "file a\ncode x")) mNil)) (mCons (mTup (mCons (mTup (mCons (mC (.str "a")) (mCons (mC (.str "x")) (mCons (m2 fAdd (mC (.int 1)) (mF f_law_take (mCons (mVar 0) (mCons (mC (.int 3)) mNil)))) mNil)))) mNil)) mNil)) mNil))) (sSeq (sSet 3 (mLst (mCons (mC (.bl true)) (mCons (mC (.bl false)) (mCons (mC .non) (mCons (m1 fNeg (mC (.int 1))) (mCons (m1 fNeg (mC (.int 999))) (mCons (mC (.int 1000)) (mCons (m2 fPow (mC (.int 10)) (mC (.int 17))) (mCons (mC (.str "1")) (mCons (mC (.str "")) (mCons (mTup mNil) (mCons (mLst mNil) (mCons (mLst (mCons (mC (.int 1)) mNil)) (mCons (mLoc mDict0) (mCons (mTup (mCons (mC (.int 0)) (mCons (mC (.int 0)) (mCons (mC (.int 0)) mNil)))) (mCons (mVar 2) mNil))))))))))))))))) (sSeq (sFor (iR rng1 (mCons (mC (.int 12)) mNil)) (gN 4) (sSeq (sOwnN 5 (mLc (iR rng1 (mCons (mC (.int 3)) mNil)) (gN 6) tT (mF f_law_of (mCons (mVar 0) (mCons (mLst (mCons (mC (.int 0)) (mCons (mC (.int 1)) (mCons (mC (.int 999)) (mCons (mVar 2) (mCons (mC .non) mNil)))))) mNil))) (([("_law_one", 6)] : List (Str × Nat)).map (·.2)))) (sSeq (sPut 5 (mF f_law_take (mCons (mVar 0) (mCons (mC (.int 3)) mNil))) (mF f_law_of (mCons (mVar 0) (mCons (mVar 3) mNil)))) (fun Γ j => (sIf (tAn (tNt (tV (mB fAll (mCons (mLc (iS (mVar 5)) (gN 6) tT (m1 (fun d => (isiD (tyLk ty_Book) (owLk 10 ow_Book) (owLk 0 ox_Book) d).map .bl) (mVar 6)) (([("_law_one", 6)] : List (Str × Nat)).map (·.2))) mNil)))) (tNt (tV (mF f_law_is_merge (mCons (mF f_law_heard (mCons (mVar 1) (mCons (mVar 5) mNil))) (mCons (mB fTuple (mCons (mVar 5) mNil)) mNil)))))) (sRet (mC (.bl false))) sNil) (frzG 5 Γ) j)))) (sRet (mC (.bl true))))))
def f_law_odd_right : List D → J → R D := defOf n_law_odd_right 2 b_law_odd_right
theorem h_law_odd_right {f : Addr} {fd : FuncData} (T : TT fa ex fn sf tf mg K base) (F : FunD K (dd "_law_odd_right" 79).name (dd "_law_odd_right" 79).qual (dd "_law_odd_right" 79).params (dd "_law_odd_right" 79).body (dd "_law_odd_right" 79).scope ((dd "_law_odd_right" 79).dvs K) ((dd "_law_odd_right" 79).kws K) f fd) : FnG PR w K mg base (L2.CX PR w) 7 f fd ["_law_jar_here", "_law_made"] (spG (cb K) f_law_odd_right) := by
  refine okG (C := cb K) (k := 6) F sc_law_odd_right (m := b_law_odd_right) (fun cdv hcdv A outer s H Ct E hC hr hgd => ?_)
  obtain ⟨b, H0, ρ0, J0, O0, slf⟩ := Ct
  cases hC
  exact (mb_cons (ms_set (i := 2) sc_law_odd_right.nd rfl (by first | exact Or.inl rfl | exact Or.inr rfl) (ml_gmakeK (takes_of rfl rfl rfl rfl) (gk_Book_2 T) rfl (hr.mono (by decide : 6 ≤ 6)) hgd rfl (ma_cons (me_gmake (takes_of rfl rfl rfl rfl) (g_Layout_init T) rfl (hr.mono (by decide : 6 ≤ 6)) hgd rfl (ma_cons me_str ma_nil)) (ma_cons (me_tup (ma_cons (me_tup (ma_cons me_str (ma_cons me_str (ma_cons (me_op op_addU od_add me_int (me_gcall (takes_of rfl rfl rfl rfl) (g_law_take T) rfl (hr.mono (by decide : 2 ≤ 6)) hgd rfl (ma_cons (mv 0) (ma_cons me_int ma_nil)))) ma_nil)))) ma_nil)) ma_nil)) mk_nil)) (mb_cons (ms_set (i := 3) sc_law_odd_right.nd rfl (by first | exact Or.inl rfl | exact Or.inr rfl) (me_lst (ma_cons me_bl (ma_cons me_bl (ma_cons me_non (ma_cons (me_un un_neg ud_neg me_int) (ma_cons (me_un un_neg ud_neg me_int) (ma_cons me_int (ma_cons (me_op op_powW od_pow me_int me_int) (ma_cons me_str (ma_cons me_str (ma_cons (me_tup ma_nil) (ma_cons (me_lst ma_nil) (ma_cons (me_lst (ma_cons me_int ma_nil)) (ma_cons (ml_new mn_dict0) (ma_cons (me_tup (ma_cons me_int (ma_cons me_int (ma_cons me_int ma_nil)))) (ma_cons (mv 2) ma_nil))))))))))))))))) (mb_cons (ms_for (passes_of rfl) rfl (mi_range1 rfl (T.free 14) (ma_cons me_int ma_nil)) (mg_name (i := 4) sc_law_odd_right.nd rfl (by first | exact Or.inl rfl | exact Or.inr rfl)) (mb_cons (ms_ownLc (i := 5) rfl sc_law_odd_right.nd rfl rfl (sw_true rfl rfl rfl (by decide +kernel)) (mi_range1 rfl (T.free 14) (ma_cons me_int ma_nil)) (blkOk_by (own := [("_law_one", 6)]) (by show blkC n_law_odd_right (defScope (top 79)) _ _ = true; decide +kernel)) (fun _ _ _ _ _ => (mg_name (i := 6) sc_law_odd_right.nd rfl (by first | exact Or.inl rfl | exact Or.inr rfl))) (fun _ _ _ _ _ => mts_nil) (fun _ _ _ _ _ => (me_gcall takes0 (g_law_of T) rfl (hr.mono (by decide : 3 ≤ 6)) hgd rfl (ma_cons (mv 0) (ma_cons (me_lst (ma_cons me_int (ma_cons me_int (ma_cons me_int (ma_cons (mv 2) (ma_cons me_non ma_nil)))))) ma_nil)))) (by decide)) (mb_cons (ms_put (i := 5) (pv 5) (me_gcall (takes_of rfl rfl rfl rfl) (g_law_take T) rfl (hr.mono (by decide : 2 ≤ 6)) hgd rfl (ma_cons (mv 0) (ma_cons me_int ma_nil))) (me_gcall (takes_of rfl rfl rfl rfl) (g_law_of T) rfl (hr.mono (by decide : 3 ≤ 6)) hgd rfl (ma_cons (mv 0) (ma_cons (mv 3) ma_nil)))) (mb_freeze 5 (mb_one (ms_if (PW.pt (mw_and (mt_not (mt_val rfl (me_callB (cr_all rfl) cd_all rfl (T.free 8) (by decide +kernel) (ma_cons (me_lc rfl sc_law_odd_right.nd (mi_seq rfl (mv 5)) (blkOk_by (own := [("_law_one", 6)]) (by show blkC n_law_odd_right (defScope (top 79)) _ _ = true; decide +kernel)) (fun _ _ _ _ _ => (mg_name (i := 6) sc_law_odd_right.nd rfl (by first | exact Or.inl rfl | exact Or.inr rfl))) (fun _ _ _ _ _ => mts_nil) (fun _ _ _ _ _ => (me_isi rfl rfl (T.free 2) (pe_glob (v := .ref (cmK K 11)) rfl (T.glo 39) rfl) (.own _) (isiB_ok (T.exs 28)) (ow_ok (T.exs 3) (T.exs 29)) (ox_ok (T.exs 5) (T.exs 30)) (mv 6))) (by decide)) ma_nil)))) (mw_and1 (mt_not (mt_val rfl (me_gcall (takes_of rfl rfl rfl rfl) (g_law_is_merge T) rfl (hr.mono (by decide : 2 ≤ 6)) hgd rfl (ma_cons (me_gcall (takes_of rfl rfl rfl rfl) (g_law_heard T) rfl (hr.mono (by decide : 5 ≤ 6)) hgd rfl (ma_cons (mv 1) (ma_cons (mv 5) ma_nil))) (ma_cons (me_callTy call_tuple_of cd_tuple rfl (T.free 12) (by decide +kernel) (ma_cons (mv 5) ma_nil)) ma_nil)))))))) (mb_one (ms_ret me_bl)) mb_nil)))))) (mb_one (ms_ret me_bl)))))
theorem g_law_odd_right (T : TT fa ex fn sf tf mg K base) : Gd PR w (cb K) mg base 7 "_law_odd_right" (spG (cb K) f_law_odd_right) := by
  obtain ⟨fd, F⟩ := T.def_ 32 (d := dd "_law_odd_right" 79)
  exact ⟨_, fd, ["_law_jar_here", "_law_made"], h_law_odd_right T F, T.glo 68, F.kp, FunD.bindsN (ps := ["_law_jar_here", "_law_made"]) F fun _ _ _ _ _ _ us hl => match us, hl with | [_, _], _ => rfl⟩
abbrev n_law_right : List Str := ["_law_jar_here", "_law_picks_here", "_law_made"]
theorem sc_law_right : FnScope n_law_right ["_law_jar_here"] (defScope (top 80)) := ⟨rfl, rfl, rfl, by decide +kernel, rfl, by decide +kernel, by decide +kernel⟩
def b_law_right : Gm → J → RS :=
  (sSeq (sSet 1 (mF f_law_picks (mCons (mVar 0) mNil))) (sSeq (sSet 2 (mMake 12 f_Rule_init (mCons (mVar 1) mNil))) (sSeq (sIf (tOo (tNt (tV (mF f_law_numbers_right (mCons (mVar 0) (mCons (mVar 2) (mCons (mVar 1) mNil)))))) (tNt (tV (mF f_law_odd_right (mCons (mVar 0) (mCons (mVar 2) mNil)))))) (sRet (mC (.bl false))) sNil) (sRet (m2 (obl eqD) (m1 (fldD "picks" [12] []) (mVar 2)) (mVar 1))))))
def f_law_right : List D → J → R D := defOf n_law_right 1 b_law_right
theorem h_law_right {f : Addr} {fd : FuncData} (T : TT fa ex fn sf tf mg K base) (F : FunD K (dd "_law_right" 80).name (dd "_law_right" 80).qual (dd "_law_right" 80).params (dd "_law_right" 80).body (dd "_law_right" 80).scope ((dd "_law_right" 80).dvs K) ((dd "_law_right" 80).kws K) f fd) : FnG PR w K mg base (L2.CX PR w) 8 f fd ["_law_jar_here"] (spG (cb K) f_law_right) := by
  refine okG (C := cb K) (k := 7) F sc_law_right (m := b_law_right) (fun cdv hcdv A outer s H Ct E hC hr hgd => ?_)
  obtain ⟨b, H0, ρ0, J0, O0, slf⟩ := Ct
  cases hC
  exact (mb_cons (ms_set (i := 1) sc_law_right.nd rfl (by first | exact Or.inl rfl | exact Or.inr rfl) (me_gcall (takes_of rfl rfl rfl rfl) (g_law_picks T) rfl (hr.mono (by decide : 4 ≤ 7)) hgd rfl (ma_cons (mv 0) ma_nil))) (mb_cons (ms_set (i := 2) sc_law_right.nd rfl (by first | exact Or.inl rfl | exact Or.inr rfl) (me_gmake (takes_of rfl rfl rfl rfl) (g_Rule_init T) rfl (hr.mono (by decide : 6 ≤ 7)) hgd rfl (ma_cons (mv 1) ma_nil))) (mb_cons (ms_if (PW.pt (mw_or (mt_not (mt_val rfl (me_gcall (takes_of rfl rfl rfl rfl) (g_law_numbers_right T) rfl (hr.mono (by decide : 6 ≤ 7)) hgd rfl (ma_cons (mv 0) (ma_cons (mv 2) (ma_cons (mv 1) ma_nil)))))) (mw_or1 (mt_not (mt_val rfl (me_gcall (takes_of rfl rfl rfl rfl) (g_law_odd_right T) rfl (hr.mono (by decide : 7 ≤ 7)) hgd rfl (ma_cons (mv 0) (ma_cons (mv 2) ma_nil)))))))) (mb_one (ms_ret me_bl)) mb_nil) (mb_one (ms_ret (me_cmp (op_eqU hr.units) od_eq (me_fld rfl (fld_ok (n0 := 10) (n := 3) (T.exs 3) (by decide) (T.exs 27)) nil_ok (mv 2)) (mv 1) (nomark _)))))))
theorem g_law_right (T : TT fa ex fn sf tf mg K base) : Gd PR w (cb K) mg base 8 "_law_right" (spG (cb K) f_law_right) := by
  obtain ⟨fd, F⟩ := T.def_ 33 (d := dd "_law_right" 80)
  exact ⟨_, fd, ["_law_jar_here"], h_law_right T F, T.glo 69, F.kp, FunD.bindsN (ps := ["_law_jar_here"]) F fun _ _ _ _ _ _ us hl => match us, hl with | [_], _ => rfl⟩
abbrev n_law : List Str := ["_law_script", "_law_k"]
theorem sc_law : FnScope n_law ["_law_script"] (defScope (top 81)) := ⟨rfl, rfl, rfl, by decide +kernel, rfl, by decide +kernel, by decide +kernel⟩
def b_law : Gm → J → RS :=
  (sRet (mB fAll (mCons (mLc (iR rng1 (mCons (mB fMax (mCons (mC (.int 1)) (mCons (mB fMin (mCons (mC (.int 30)) (mCons (mB fLen (mCons (mVar 0) mNil)) mNil))) mNil))) mNil)) (gN 1) tT (mF f_law_right (mCons (mF f_law_jar (mCons (mVar 0) (mCons (mVar 1) mNil))) mNil)) (([("_law_k", 1)] : List (Str × Nat)).map (·.2))) mNil)))
def f_law : List D → J → R D := defOf n_law 1 b_law
theorem h_law {f : Addr} {fd : FuncData} (T : TT fa ex fn sf tf mg K base) (F : FunD K (dd "law" 81).name (dd "law" 81).qual (dd "law" 81).params (dd "law" 81).body (dd "law" 81).scope ((dd "law" 81).dvs K) ((dd "law" 81).kws K) f fd) : FnG PR w K mg base (L2.CX PR w) 9 f fd ["_law_script"] (spG (cb K) f_law) := by
  refine okG (C := cb K) (k := 8) F sc_law (m := b_law) (fun cdv hcdv A outer s H Ct E hC hr hgd => ?_)
  obtain ⟨b, H0, ρ0, J0, O0, slf⟩ := Ct
  cases hC
  exact (mb_one (ms_ret (me_callB (cr_all rfl) cd_all rfl (T.free 8) (by decide +kernel) (ma_cons (me_lc rfl sc_law.nd (mi_range1 rfl (T.free 14) (ma_cons (me_callB (call_max2 rfl) cd_max rfl (T.free 46) (by decide +kernel) (ma_cons me_int (ma_cons (me_callB (call_min2 rfl) cd_min rfl (T.free 71) (by decide +kernel) (ma_cons me_int (ma_cons (me_callB call_len cd_len rfl (T.free 6) (by decide +kernel) (ma_cons (mv 0) ma_nil)) ma_nil))) ma_nil))) ma_nil)) (blkOk_by (own := [("_law_k", 1)]) (by show blkC n_law (defScope (top 81)) _ _ = true; decide +kernel)) (fun _ _ _ _ _ => (mg_name (i := 1) sc_law.nd rfl (by first | exact Or.inl rfl | exact Or.inr rfl))) (fun _ _ _ _ _ => mts_nil) (fun _ _ _ _ _ => (me_gcall takes0 (g_law_right T) rfl (hr.mono (by decide : 8 ≤ 8)) hgd rfl (ma_cons (me_gcall takes0 (g_law_jar T) rfl (hr.mono (by decide : 2 ≤ 8)) hgd rfl (ma_cons (mv 0) (ma_cons (mv 1) ma_nil))) ma_nil))) (by decide)) ma_nil))))
theorem g_law (T : TT fa ex fn sf tf mg K base) : Gd PR w (cb K) mg base 9 "law" (spG (cb K) f_law) := by
  obtain ⟨fd, F⟩ := T.def_ 34 (d := dd "law" 81)
  exact ⟨_, fd, ["_law_script"], h_law T F, T.glo 70, F.kp, FunD.bindsN (ps := ["_law_script"]) F fun _ _ _ _ _ _ us hl => match us, hl with | [_], _ => rfl⟩
end
end K19

set_option Elab.async false
set_option linter.all false
set_option maxRecDepth 100000
set_option maxHeartbeats 2000000
set_option autoImplicit false
namespace K19
open PySem PySem.Spec PyProof.Rows L2 On
@[simp] theorem ty_str_str : List.lookup "str" ty_str = some true := rfl
theorem lcStr {j : J} {g : J → D → Gm → Option Gm} {me : Gm → J → R D} {Γ : Gm} {f : Nat → D} (h : ∀ c j, ∃ Γ1, g j (.str ⟨#[c]⟩) Γ = some Γ1 ∧ me Γ1 j = .ok (f c) j) : ∀ l : List Nat, lcMap g tT me Γ (l.map fun c => .str ⟨#[c]⟩) j = .ok (l.map f) j
  | [] => rfl
  | c :: l => by
    obtain ⟨Γ1, h1, h2⟩ := h c j
    have ih := lcStr (j := j) h l
    show lcMap g tT me Γ (.str ⟨#[c]⟩ :: l.map _) j = _
    unfold lcMap
    rw [h1]
    show (R.nox (.ok true j)).bind _ = _
    simp [h2, ih]
theorem blsOf_map {α : Type} {f : α → Bool} : ∀ l : List α, blsOf (l.map fun c => .bl (f c)) = some (l.map f)
  | [] => rfl
  | c :: l => by
    show (blsOf (l.map fun c => D.bl (f c))).map (f c :: ·) = _
    rw [blsOf_map l]; rfl
theorem fAll_map {α : Type} {f : α → Bool} {l : List α} : fAll [.lst (l.map fun c => .bl (f c))] = some (.bl (l.all f)) := by
  show (blsOf _).map _ = _
  rw [blsOf_map]
  simp
theorem is_name_eq {x : Str} {j : J} (hx : x.length ≤ 100000) : f_is_name [.str x] j = .ok (.bl (isNameS x)) j := by
  have hs : (strD x).length ≤ 100000 := by unfold strD; rw [List.length_map]; exact hx
  have hl : ∀ j, lcMap (gN 1) tT (m2 (obl inS) (mVar 1) (mC (D.str (Str.ofString "abcdefghijklmnopqrstuvwxyz")))) (wipeG [some (Cell.val (D.str x)), none] [1]) (strD x) j = .ok (x.cps.toList.map fun c => .bl (letS c)) j :=
    fun j => lcStr (fun c j => ⟨_, rfl, rfl⟩) _
  unfold f_is_name b_is_name
  simp [isiD, tyN, tyLk, lenD, fLen, hx, hs, hl, fAll_map]
  unfold isNameS
  by_cases h1 : 1 ≤ x.length
  · have h1' : (1 : Int) ≤ (x.length : Int) := by omega
    by_cases h2 : x.length ≤ 8
    · have h2' : (x.length : Int) ≤ 8 := by omega
      simp [h1, h2, h1', h2']
    · have h2' : ¬ (x.length : Int) ≤ 8 := by omega
      simp [h1, h2, h1', h2']
  · have h1' : ¬ (1 : Int) ≤ (x.length : Int) := by omega
    simp [h1, h1']
theorem strSub_le (x : Str) (i j : Nat) : (Builtin.Str.strSub x i j).length ≤ x.length := by
  have := congrArg List.length (TL.tl_strSub x i j)
  rw [List.length_take, List.length_drop] at this
  have h1 : (TL.tl (Builtin.Str.strSub x i j)).length = (Builtin.Str.strSub x i j).length := by simp [Str.length]
  have h2 : (TL.tl x).length = x.length := by simp [Str.length]
  omega
theorem lstrip_le (x y : Str) : (Txt.lstripChars x y).length ≤ x.length := by
  unfold Txt.lstripChars Txt.stripBy
  split
  · exact Nat.le_refl _
  · exact strSub_le _ _ _
theorem cutS_le (x : Str) (lo hi : Option Int) : (cutS x lo hi).length ≤ x.length := by
  unfold cutS Str.length
  simp
  omega
theorem inD_ints {x a b c : Int} : ninD (.int x) (.tup [.int a, .int b, .int c]) = some (!(decide (a = x) || decide (b = x) || decide (c = x))) := by
  show (some (inV (.int x) [.int a, .int b, .int c])).map (!·) = _
  simp only [inV, eqV, List.any_cons, List.any_nil, Bool.or_false, Option.map_some, Bool.or_assoc]
  simp only [beq_iff_eq, show ∀ (a b : Int), (a == b) = decide (a = b) from fun a b => by by_cases h : a = b <;> simp [h]]
theorem inD_strs3 {x a b c : Str} : ninD (.str x) (.tup [.str a, .str b, .str c]) = some (!(decide (a = x) || decide (b = x) || decide (c = x))) := by
  show (some (inV (.str x) [.str a, .str b, .str c])).map (!·) = _
  simp only [inV, eqV, List.any_cons, List.any_nil, Bool.or_false, Option.map_some, Bool.or_assoc]
  simp only [beq_iff_eq, show ∀ (a b : Str), (a == b) = decide (a = b) from fun a b => by by_cases h : a = b <;> simp [h]]
theorem line_parts_eq {x : Str} {j : J} (hx : x.length < 100000) : f_line_parts [.str x] j = .ok (match lineS x with | some r => r.D | none => .non) j := by
  have hl : (Txt.lstripChars x (Str.ofString " ")).length ≤ 100000 := Nat.le_trans (lstrip_le _ _) (Nat.le_of_lt hx)
  have hc : (cutS x (some (↑x.length - ↑(Txt.lstripChars x (Str.ofString " ")).length)) none).length < 100000 := Nat.lt_of_le_of_lt (cutS_le _ _ _) hx
  have hb : (!(Str.ofString " ").length == 0) = true := by decide
  have hn : ∀ n ∈ wdS x, n.length ≤ 100000 := fun n h => Nat.le_trans (split_le (by decide) (by decide +kernel) h) (Nat.le_trans (cutS_le _ _ _) (Nat.le_of_lt hx))
  have hm := o_mul22
  unfold f_line_parts b_line_parts
  simp [lenD, fLen, fSl, Nat.le_of_lt hx, hl, hc, hb, hm, inD_ints]
  have e1 : (↑x.length - ↑(Txt.lstripChars x (Str.ofString " ")).length : Int) = blS x := rfl
  rw [e1]
  have e2 : Txt.split (cutS x (some (blS x)) none) (Str.ofString " ") = wdS x := rfl
  rw [e2]
  unfold lineS
  by_cases hB : blS x = 0 ∨ blS x = 2 ∨ blS x = 4
  · have hB' : (!decide (0 = blS x) && !decide (2 = blS x) && !decide (4 = blS x)) = false := by
      rcases hB with h | h | h <;> simp [h]
    simp only [hB', hB, true_and]
    match hw : wdS x with
    | [] => simp
    | [_] => simp
    | [w, n] =>
      have hn2 : n.length ≤ 100000 := hn n (by rw [hw]; simp)
      simp [inD_strs3, is_name_eq hn2, o_div2]
      by_cases h1 : w = Str.ofString "dir" ∨ w = Str.ofString "file" ∨ w = Str.ofString "code"
      · have h1' : (!decide (Str.ofString "dir" = w) && !decide (Str.ofString "file" = w) && !decide (Str.ofString "code" = w)) = false := by
          rcases h1 with h | h | h <;> simp [h]
        simp only [h1', h1, true_and]
        cases isNameS n <;> simp [Ln.D, o_div2]
      · have h1' : (!decide (Str.ofString "dir" = w) && !decide (Str.ofString "file" = w) && !decide (Str.ofString "code" = w)) = true := by
          simp only [not_or] at h1
          simp [Ne.symm h1.1, Ne.symm h1.2.1, Ne.symm h1.2.2]
        simp only [h1', h1, false_and]
        simp
    | _ :: _ :: _ :: r =>
      have : ¬ ((r.length : Int) + 1 + 1 + 1 = 2) := by omega
      simp [this]
  · have hB' : (!decide (0 = blS x) && !decide (2 = blS x) && !decide (4 = blS x)) = true := by
      simp only [not_or] at hB
      simp [Ne.symm hB.1, Ne.symm hB.2.1, Ne.symm hB.2.2]
    simp only [hB', hB, false_and]
    match wdS x with
    | [] => simp
    | [_] => simp
    | [_, _] => simp
    | _ :: _ :: _ :: _ => simp
theorem can_follow_eq {rows : List Ln} {d : Int} {w n : Str} {j : J} (hr : rows.length ≤ 100000) : f_can_follow [.lst (rows.map Ln.D), .int d, .str w, .str n] j = .ok (.bl (followS rows d w n)) j := by
  have hl : lcMap (gT 3 (gsCons (gN 4) (gsCons (gN 5) (gsCons (gN 6) gsNil)))) (t2 eqD (m2 (obl eqD) (mVar 5) (mC (.str "code"))) (m2 (obl eqD) (mVar 2) (mC (.str "code")))) (mVar 6) (wipeG [some (.val (.lst (rows.map Ln.D))), some (.val (.int d)), some (.val (.str w)), some (.val (.str n)), none, none, none] [4, 5, 6]) (rows.map Ln.D) j = .ok ((rows.filter fun r => sameTree r w).map fun r => .str r.n) j :=
    lcP Ln.D (fun r => sameTree r w) (fun r => .str r.n) rows fun r _ => ⟨_, rfl, by simp [wipeG, o_eqb, sameTree], fun _ => by simp [wipeG]⟩
  have hm : ((rows.filter fun r => sameTree r w).map fun r => D.str r.n) = ((rows.filter fun r => sameTree r w).map fun r => r.n).map D.str := by rw [List.map_map]; rfl
  have ha : ((rows.filter fun r => sameTree r w).map fun r => r.n).any (fun y => decide (y = n)) = rows.any fun r => sameTree r w && decide (r.n = n) := by
    rw [List.any_map, List.any_filter]; rfl
  unfold f_can_follow b_can_follow
  simp [hr, hl, seqOf]
  rw [hm, inD_lstS, ha]
  unfold followS
  cases rows.any fun r => sameTree r w && decide (r.n = n) with
  | true => simp
  | false =>
    rcases List.eq_nil_or_concat rows with h | ⟨l, r, h⟩
    · subst h
      simp
      cases decide (w = Str.ofString "code") <;> simp
    · rw [List.concat_eq_append] at h
      subst h
      have e : atI ((l ++ [r]).map Ln.D) (-1) = some r.D := by rw [at_last]; simp
      have e0 : ((l ++ [r]).map Ln.D).isEmpty = false := by simp
      rw [show (l ++ [r]).getLast? = some r from by simp]
      generalize (l ++ [r]).map Ln.D = X at e e0 ⊢
      by_cases h1 : r.w = Str.ofString "dir"
      · simp [e, e0, Ln.D, h1]
        cases decide (w = Str.ofString "code") <;> simp
      · by_cases h2 : r.w = Str.ofString "code"
        · simp [e, e0, Ln.D, h1, h2]
          cases decide (w = Str.ofString "code") <;> simp
        · by_cases h3 : w = Str.ofString "code"
          · simp [e, e0, Ln.D, h1, h2, h3]
          · simp [e, e0, Ln.D, h1, h2, h3]
abbrev xBL : Nat := 1
theorem read_loop {text : Str} {j : J} : ∀ (lines : List Str) (n : Int) (rows : List Ln) (c2 c3 c4 : Option Cell), rows.length + lines.length ≤ 1000 → (∀ l ∈ lines, l.length < 100000) →
    ∃ Γe c2' c3' c4', loopD (gT 2 (gsCons (gN 2) (gsCons (gN 3) gsNil))) (sSeq (sSet 4 (mF f_line_parts (mCons (mVar 3) mNil))) (sSeq (sIf (tOo (t2 fIs (mVar 4) (mC .non)) (tNt (tV (mBor f_can_follow 1 (mCons (m2 fIx (mVar 4) (mC (.int 0))) (mCons (m2 fIx (mVar 4) (mC (.int 1))) (mCons (m2 fIx (mVar 4) (mC (.int 2))) mNil))))))) (sRaise xBL (mVar 2)) sNil) (sApp 1 (mVar 4))))
      (enumC n (lines.map .str)) [some (.val (.str text)), some (.own (.lst (rows.map Ln.D))), c2, c3, c4] j = (match readL n rows lines with
        | .ok rows' => .nx [some (.val (.str text)), some (.own (.lst (rows'.map Ln.D))), c2', c3', c4'] j
        | .error m => .exc xBL [("value", .int m)] Γe j)
  | [], n, rows, c2, c3, c4, _, _ => ⟨[], c2, c3, c4, rfl⟩
  | x :: lines, n, rows, c2, c3, c4, hb, hl => by
    have hx := hl x (List.mem_cons_self ..)
    have e := line_parts_eq (j := j) hx
    show ∃ Γe c2' c3' c4', loopD _ _ (.tup [.int n, .str x] :: enumC (n + 1) (lines.map .str)) _ j = _
    unfold loopD readL
    cases hL : lineS x with
    | none =>
      rw [hL] at e
      simp [e]
    | some r =>
      rw [hL] at e
      simp at hb
      have hf := can_follow_eq (rows := rows) (d := r.d) (w := r.w) (n := r.n) (j := []) (by omega)
      cases hq : followS rows r.d r.w r.n with
      | false =>
        rw [hq] at hf
        simp [e, hf, Ln.D, noLoc_rows, hq]
      | true =>
        rw [hq] at hf
        have ih := read_loop (text := text) (j := j) lines (n + 1) (rows ++ [r]) (some (.val (.int n))) (some (.val (.str x))) (some (.val r.D)) (by simp; omega) fun l h => hl l (List.mem_cons_of_mem _ h)
        have hz : rows.length < 100000 := by omega
        simp [e, hf, Ln.D, noLoc_rows, hq, conG, muG, hz] at ih ⊢
        exact ih
theorem read_layout_eq {text : Str} {j : J} (h1 : text.length < 100000) (h2 : (Txt.split text "\n").length ≤ 1000) : f_read_layout [.str text] j = (match readS text with
    | .ok rows => .ok (.lst (rows.map Ln.D)) j
    | .error m => .exc xBL [("value", .int m)] j) := by
  obtain ⟨Γe, c2, c3, c4, hl⟩ := read_loop (text := text) (j := j) (Txt.split text "\n") 1 [] none none none (by simpa using h2) fun l hl => Nat.lt_of_le_of_lt (split_le (by decide) (by decide +kernel) hl) h1
  have hb : (!(Str.ofString "\n").length == 0) = true := by decide
  simp at hl
  unfold f_read_layout b_read_layout readS
  simp [isiD, tyN, tyLk, hb, h1, hl]
  cases hr : readL 1 [] (Txt.split text (Str.ofString "\n")) with
  | error m => simp
  | ok rows =>
    have hlen := readL_len hr
    have hne := split_ne (x := text) (y := Str.ofString "\n") (by decide) (by decide +kernel)
    rcases List.eq_nil_or_concat rows with h | ⟨l, r, h⟩
    · subst h
      exfalso
      cases hs : Txt.split text (Str.ofString "\n") with
      | nil => exact hne hs
      | cons a b => rw [hs] at hlen; simp at hlen
    · rw [List.concat_eq_append] at h
      have e : atI (rows.map Ln.D) (-1) = some r.D := by rw [at_last, h]; simp
      have e2 : rows.getLast? = some r := by rw [h]; simp
      by_cases hc : r.w = Str.ofString "code"
      · simp [frzG, e, e2, Ln.D, hc]
      · simp [frzG, e, e2, Ln.D, hc]
end K19

set_option Elab.async false
set_option linter.all false
set_option maxRecDepth 100000
set_option maxHeartbeats 2000000
set_option autoImplicit false
namespace K19
open PySem PySem.Spec PyProof.Rows L2 On
theorem ends_inner {j0 : J} {n : Str} {c0 c2 c3 c4 c7 : Option Cell} : ∀ (ks : List Str) (T : Tb) (c6 : Option Cell), (∀ k ∈ ks, k ∈ keysT T) → wide T + ks.length < 100000 →
    ∃ c6', loopD (gN 6) (sAppE (mOx fDx 1 (mVar 6)) (mVar 5)) (ks.map .str) [c0, some (.own (.dct (fnd j0.length T))), c2, c3, c4, some (.val (.str n)), c6, c7] (j0 ++ cells T)
      = .nx [c0, some (.own (.dct (fnd j0.length (addAll ks n T)))), c2, c3, c4, some (.val (.str n)), c6', c7] (j0 ++ cells (addAll ks n T))
  | [], T, c6, _, _ => ⟨c6, rfl⟩
  | k :: ks, T, c6, h, hw => by
    obtain ⟨i, l, h1, h2, h3, h4⟩ := fnd_at (x := n) j0.length (h k (List.mem_cons_self ..))
    have h3 : l.length ≤ wide T := h3
    simp at hw
    have hl : l.length < 100000 := by omega
    have e1 : (j0 ++ cells T)[j0.length + i]? = some (some (.lst l)) := by
      rw [List.getElem?_append_right (by omega), show j0.length + i - j0.length = i by omega]; exact h2
    have e2 : (j0 ++ cells T).set (j0.length + i) (some (.lst (l ++ [.str n]))) = j0 ++ cells (addAt k n T) := by
      rw [List.set_append_right _ _ (by omega), show j0.length + i - j0.length = i by omega, h4]
    have w2 := wide_add (k := k) (x := n) T
    obtain ⟨c6', ih⟩ := ends_inner (j0 := j0) (n := n) (c0 := c0) (c2 := c2) (c3 := c3) (c4 := c4) (c7 := c7) ks (addAt k n T) (some (.val (.str k))) (fun x hx => by rw [keys_add]; exact h x (List.mem_cons_of_mem _ hx)) (by omega)
    refine ⟨c6', ?_⟩
    have ef : fnd j0.length (addAt k n T) = fnd j0.length T := fnd_keys (keys_add T)
    rw [ef] at ih
    show loopD _ _ (.str k :: ks.map .str) _ _ = .nx [c0, some (.own (.dct (fnd j0.length (addAll ks n (addAt k n T))))), c2, c3, c4, some (.val (.str n)), c6', c7] (j0 ++ cells (addAll ks n (addAt k n T)))
    rw [← ih]
    conv => lhs; unfold loopD
    simp [conG, fDx, getK, isKey, h1, e1, hl, e2]
def rD (p : Int × Str) : D := .tup [.int p.1, .str p.2]
theorem pathTo_len {path : List Str} {d : Int} {n : Str} : (pathTo path d n).length ≤ path.length + 1 := by
  unfold pathTo On.cutD
  simp
  omega
theorem pathTo_mem {path : List Str} {d : Int} {n k : Str} (h : k ∈ pathTo path d n) : k ∈ path ∨ k = n := by
  unfold pathTo On.cutD at h
  simp at h
  rcases h with h | h
  · exact .inl (List.mem_of_mem_take h)
  · exact .inr h
theorem cutD_str {path : List Str} {d : Int} {n : Str} : On.cutD (path.map D.str) none (some d) ++ [D.str n] = (pathTo path d n).map D.str := by
  unfold pathTo On.cutD
  simp [List.map_take]
abbrev endsB : Gm → J → RS := (sSeq (sSet 2 (m2 fAdd (mSl fSl (mVar 2) oN (oS (mVar 4))) (mLst (mCons (mVar 5) mNil)))) (sSeq (sDput 1 (mVar 5) (mLstM mNil)) (sIf (tOo (t2 eqD (m2 fAdd (mVar 3) (mC (.int 1))) (mB fLen (mCons (mVar 0) mNil))) (t2 fLe (m2 fIx (m2 fIx (mVar 0) (m2 fAdd (mVar 3) (mC (.int 1)))) (mC (.int 0))) (mVar 4))) (sFor (iS (m2 fAdd (mLst (mCons (mC (.str "*")) mNil)) (mVar 2))) (gN 6) (sAppE (mOx fDx 1 (mVar 6)) (mVar 5))) sNil)))
theorem ends_step {j0 : J} {X : List D} {a d : Int} {n : Str} {path : List Str} {T : Tb} {c6 c7 : Option Cell} {b : Bool} (nT : n ∉ keysT T) (hs : ("*" : Str) ∈ keysT T) (hp : ∀ k ∈ path, k ∈ keysT T) (b1 : path.length ≤ 100) (b2 : T.length ≤ 200) (b3 : wide T + 200 < 100000)
    (ht : (a + 1 = (X.length : Int) ∧ b = true) ∨ (¬ a + 1 = (X.length : Int) ∧ ∃ e m, atI X (a + 1) = some (.tup [.int e, .str m]) ∧ b = decide (e ≤ d))) :
    ∃ c6', endsB [some (.val (.lst X)), some (.own (.dct (fnd j0.length T))), some (.val (.lst (path.map .str))), some (.val (.int a)), some (.val (.int d)), some (.val (.str n)), c6, c7] (j0 ++ cells T)
      = .nx [some (.val (.lst X)), some (.own (.dct (fnd j0.length (if b = true then addAll ("*" :: pathTo path d n) n (T ++ [(n, [])]) else T ++ [(n, [])])))), some (.val (.lst ((pathTo path d n).map .str))), some (.val (.int a)), some (.val (.int d)), some (.val (.str n)), c6', c7] (j0 ++ cells (if b = true then addAll ("*" :: pathTo path d n) n (T ++ [(n, [])]) else T ++ [(n, [])])) := by
  have hput : putKD (.dct (fnd j0.length T)) (.str n) (.loc (j0.length + T.length)) = some (.dct (fnd j0.length (T ++ [(n, [])]))) := by
    have : (fnd j0.length T).length < 100000 := by rw [fnd_length]; omega
    simp [putKD, putDK, isKey, this, has_fnd T j0.length nT, fnd_snoc]
  have hst : (j0 ++ cells T) ++ [some (.lst [])] = j0 ++ cells (T ++ [(n, [])]) := by simp [cells]
  have hlen : (j0 ++ cells T).length = j0.length + T.length := by simp [cells_length]
  have kT1 : keysT (T ++ [(n, [])]) = keysT T ++ [n] := by simp [keysT]
  have wT1 : wide (T ++ [(n, [])]) = wide T := by simp [wide]
  have pl := pathTo_len (path := path) (d := d) (n := n)
  have hcut : On.cutD (path.map D.str) none (some d) ++ [D.str n] = (pathTo path d n).map D.str := cutD_str
  have hcl : (On.cutD (path.map D.str) none (some d)).length + 1 ≤ 100000 := by
    have := congrArg List.length hcut
    simp at this
    omega
  have hpl : 1 + (pathTo path d n).length ≤ 100000 := by omega
  obtain ⟨c6i, inner⟩ := ends_inner (j0 := j0) (n := n) (c0 := some (.val (.lst X))) (c2 := some (.val (.lst ((pathTo path d n).map .str)))) (c3 := some (.val (.int a))) (c4 := some (.val (.int d))) (c7 := c7) ("*" :: pathTo path d n) (T ++ [(n, [])]) c6 (fun k hk => by
    rw [kT1]
    rcases List.mem_cons.mp hk with h | h
    · rw [h]; exact List.mem_append_left _ hs
    · rcases pathTo_mem h with h | h
      · exact List.mem_append_left _ (hp k h)
      · rw [h]; simp) (by rw [wT1]; simp; omega)
  simp only [List.map_cons] at inner
  rcases ht with ⟨h1, rfl⟩ | ⟨h1, e, m, h2, rfl⟩
  · refine ⟨c6i, ?_⟩
    simp [fSl, hcut, hcl, conG, muG, dputG, hput, hst, hlen, h1, hpl, seqOf, inner]
  · by_cases hd : e ≤ d
    · refine ⟨c6i, ?_⟩
      simp [fSl, hcut, hcl, conG, muG, dputG, hput, hst, hlen, h1, h2, hd, hpl, seqOf, inner]
    · refine ⟨c6, ?_⟩
      simp [fSl, hcut, hcl, conG, muG, dputG, hput, hst, hlen, h1, h2, hd, hpl, seqOf, inner]
theorem ends_outer {j0 : J} {c7 : Option Cell} : ∀ (suf pre : List (Int × Str)) (path : List Str) (T : Tb) (c3 c4 c5 c6 : Option Cell), (keysT T ++ suf.map (·.2)).Nodup → ("*" : Str) ∈ keysT T → (∀ k ∈ path, k ∈ keysT T) → path.length + suf.length ≤ 100 → T.length + suf.length ≤ 200 → wide T + suf.length * 200 < 90000 →
    ∃ c2' c3' c4' c5' c6', loopD (gT 2 (gsCons (gN 3) (gsCons (gT 2 (gsCons (gN 4) (gsCons (gN 5) gsNil))) gsNil))) endsB
      (enumD pre.length (suf.map rD)) [some (.val (.lst ((pre ++ suf).map rD))), some (.own (.dct (fnd j0.length T))), some (.val (.lst (path.map .str))), c3, c4, c5, c6, c7] (j0 ++ cells T)
      = .nx [some (.val (.lst ((pre ++ suf).map rD))), some (.own (.dct (fnd j0.length (endsL suf path T)))), c2', c3', c4', c5', c6', c7] (j0 ++ cells (endsL suf path T))
  | [], pre, path, T, c3, c4, c5, c6, _, _, _, _, _, _ => ⟨some (.val (.lst (path.map .str))), c3, c4, c5, c6, rfl⟩
  | (d, n) :: suf, pre, path, T, c3, c4, c5, c6, hn, hs, hp, b1, b2, b3 => by
    have nT : n ∉ keysT T := fun z => by
      rw [List.nodup_append] at hn
      exact hn.2.2 n z n (by simp) rfl
    simp at b1 b2 b3
    have kT1 : keysT (T ++ [(n, [])]) = keysT T ++ [n] := by simp [keysT]
    have wT1 : wide (T ++ [(n, [])]) = wide T := by simp [wide]
    have pl := pathTo_len (path := path) (d := d) (n := n)
    have eq1 : pre ++ (d, n) :: suf = (pre ++ [(d, n)]) ++ suf := by simp
    have lp : (pre ++ [(d, n)]).length = pre.length + 1 := by simp
    obtain ⟨c6', st⟩ := ends_step (j0 := j0) (X := (pre ++ (d, n) :: suf).map rD) (a := (pre.length : Int)) (d := d) (n := n) (path := path) (T := T) (c6 := c6) (c7 := c7) (b := isLeaf d suf) nT hs hp (by omega) (by omega) (by omega) (by
      cases suf with
      | nil => exact .inl ⟨by simp, rfl⟩
      | cons q r =>
        obtain ⟨e, m⟩ := q
        refine .inr ⟨by simp; omega, e, m, ?_, rfl⟩
        rw [show ((pre.length : Int) + 1) = ((pre.length + 1 : Nat) : Int) by omega, On.atI_nat]
        rw [List.getElem?_map, List.getElem?_append_right (by omega), show pre.length + 1 - pre.length = 1 by omega]
        rfl)
    generalize hT2 : (if isLeaf d suf = true then addAll ("*" :: pathTo path d n) n (T ++ [(n, [])]) else T ++ [(n, [])]) = T2 at st
    have hk : keysT T2 = keysT T ++ [n] := by rw [← hT2]; split <;> simp [keys_addAll, kT1]
    have hw : wide T2 ≤ wide T + (pathTo path d n).length + 1 := by
      rw [← hT2]
      split
      · have := wide_addAll (x := n) ("*" :: pathTo path d n) (T ++ [(n, [])]); rw [wT1] at this; simp at this; omega
      · omega
    have hl2 : T2.length = T.length + 1 := by have := congrArg List.length hk; simpa [keysT] using this
    obtain ⟨c2f, c3f, c4f, c5f, c6f, ih⟩ := ends_outer (j0 := j0) (c7 := c7) suf (pre ++ [(d, n)]) (pathTo path d n) T2 (some (.val (.int (pre.length : Int)))) (some (.val (.int d))) (some (.val (.str n))) c6' (by rw [hk]; simpa using hn) (by rw [hk]; exact List.mem_append_left _ hs) (fun k hk2 => by
      rw [hk]
      rcases pathTo_mem hk2 with h | h
      · exact List.mem_append_left _ (hp k h)
      · rw [h]; simp) (by omega) (by omega) (by omega)
    refine ⟨c2f, c3f, c4f, c5f, c6f, ?_⟩
    rw [lp, ← eq1] at ih
    have e2 : endsL ((d, n) :: suf) path T = endsL suf (pathTo path d n) T2 := by rw [← hT2]; rfl
    rw [e2, ← ih]
    show loopD _ _ (.tup [.int (pre.length : Int), rD (d, n)] :: enumD (pre.length + 1) (suf.map rD)) _ _ = _
    conv => lhs; unfold loopD
    rw [show gT 2 (gsCons (gN 3) (gsCons (gT 2 (gsCons (gN 4) (gsCons (gN 5) gsNil))) gsNil)) (j0 ++ cells T) (.tup [.int (pre.length : Int), rD (d, n)]) [some (.val (.lst ((pre ++ (d, n) :: suf).map rD))), some (.own (.dct (fnd j0.length T))), some (.val (.lst (path.map .str))), c3, c4, c5, c6, c7] = some [some (.val (.lst ((pre ++ (d, n) :: suf).map rD))), some (.own (.dct (fnd j0.length T))), some (.val (.lst (path.map .str))), some (.val (.int (pre.length : Int))), some (.val (.int d)), some (.val (.str n)), c6, c7] from rfl]
    show (match endsB [some (.val (.lst ((pre ++ (d, n) :: suf).map rD))), some (.own (.dct (fnd j0.length T))), some (.val (.lst (path.map .str))), some (.val (.int (pre.length : Int))), some (.val (.int d)), some (.val (.str n)), c6, c7] (j0 ++ cells T) with
      | .nx Γ' j' => loopD _ endsB _ Γ' j'
      | .cont Γ' j' => loopD _ endsB _ Γ' j'
      | .brk Γ' j' => .nx Γ' j'
      | .ret d j' => .ret d j'
      | .exc c fs Γ' j' => .exc c fs Γ' j'
      | .bad => .bad) = _
    rw [st]
theorem ascending_eq {j : J} {n : Nat} {xs : List Str} (h : j[n]? = some (some (.lst (xs.map .str)))) (hl : xs.length < 64) : f_ascending [.loc n] j = .ok (.tup ((canS xs).map .str)) j := by
  have hs : strsD (xs.map .str) = some xs := by
    clear h hl
    induction xs with
    | nil => rfl
    | cons x xs ih => show (strsD (xs.map .str)).map (x :: ·) = _; rw [ih]; rfl
  unfold f_ascending b_ascending
  simp [de_loc h, srtD, hs, hl]
theorem fnd_mem {j0 : J} : ∀ (T : Tb) (pre : Tb), ∀ q ∈ fnd (j0.length + pre.length) T, ∃ p ∈ T, ∃ n, q = (.str p.1, .loc n) ∧ (j0 ++ cells (pre ++ T))[n]? = some (some (.lst (p.2.map .str)))
  | [], _, q, h => by cases h
  | p :: T, pre, q, h => by
    rcases List.mem_cons.mp (show q ∈ (D.str p.1, D.loc (j0.length + pre.length)) :: fnd (j0.length + pre.length + 1) T from h) with e | h
    · refine ⟨p, List.mem_cons_self .., _, e, ?_⟩
      rw [List.getElem?_append_right (by omega), show j0.length + pre.length - j0.length = pre.length by omega]
      simp [cells]
    · have := fnd_mem (j0 := j0) T (pre ++ [p])
      rw [show j0.length + (pre ++ [p]).length = j0.length + pre.length + 1 by simp; omega, show pre ++ [p] ++ T = pre ++ p :: T by simp] at this
      obtain ⟨p', h1, n, h2, h3⟩ := this q h
      exact ⟨p', List.mem_cons_of_mem _ h1, n, h2, h3⟩
theorem pathTo_le {path : List Str} {d : Int} {n : Str} (h0 : 0 ≤ d) (h2 : d ≤ 2) : (pathTo path d n).length ≤ 3 := by
  unfold pathTo On.cutD HT.sIx
  simp
  rw [if_neg (by omega)]
  omega
theorem ends_wide : ∀ (rows : List (Int × Str)) (path : List Str) (T : Tb), (∀ r ∈ rows, 0 ≤ r.1 ∧ r.1 ≤ 2) → wide (endsL rows path T) ≤ wide T + rows.length * 4
  | [], _, _, _ => by simp [endsL]
  | (d, n) :: rows, path, T, h => by
    have hd := h (d, n) (List.mem_cons_self ..)
    have pl : (pathTo path d n).length ≤ 3 := pathTo_le hd.1 hd.2
    have ih := ends_wide rows (pathTo path d n) (if isLeaf d rows = true then addAll ("*" :: pathTo path d n) n (T ++ [(n, [])]) else T ++ [(n, [])]) fun r hr => h r (List.mem_cons_of_mem _ hr)
    have wT1 : wide (T ++ [(n, [])]) = wide T := by simp [wide]
    have : wide (if isLeaf d rows = true then addAll ("*" :: pathTo path d n) n (T ++ [(n, [])]) else T ++ [(n, [])]) ≤ wide T + 4 := by
      split
      · have := wide_addAll (x := n) ("*" :: pathTo path d n) (T ++ [(n, [])]); rw [wT1] at this; simp at this; omega
      · omega
    show wide (endsL rows _ _) ≤ _
    simp
    omega
theorem keys_ends : ∀ (rows : List (Int × Str)) (path : List Str) (T : Tb), keysT (endsL rows path T) = keysT T ++ rows.map (·.2)
  | [], _, T => by simp [endsL]
  | (d, n) :: rows, path, T => by
    show keysT (endsL rows _ _) = _
    rw [keys_ends rows]
    have kT1 : keysT (T ++ [(n, [])]) = keysT T ++ [n] := by simp [keysT]
    split <;> simp [keys_addAll, kT1]
theorem wide_mem {T : Tb} {p : Str × List Str} (h : p ∈ T) : p.2.length ≤ wide T := by
  induction T with
  | nil => cases h
  | cons q T ih =>
    show _ ≤ q.2.length + wide T
    rcases List.mem_cons.mp h with e | h
    · rw [e]; omega
    · have := ih h; omega
theorem fnd_zip : ∀ (T : Tb) (L : Nat), (fnd L T).map (fun q => D.tup [q.1, q.2]) = (T.zipIdx L).map fun x => D.tup [.str x.1.1, .loc x.2]
  | [], _ => rfl
  | p :: T, L => by
    show D.tup [.str p.1, .loc L] :: (fnd (L + 1) T).map _ = _
    rw [fnd_zip T (L + 1)]; rfl
theorem tab_zip : ∀ (T : Tb) (L : Nat), ((T.zipIdx L).map fun x => (D.str x.1.1, D.tup ((canS x.1.2).map .str))) = tabD T
  | [], _ => rfl
  | p :: T, L => by
    show (D.str p.1, D.tup ((canS p.2).map .str)) :: ((T.zipIdx (L + 1)).map _) = _
    rw [tab_zip T (L + 1)]; rfl
theorem keys_zip : ∀ (T : Tb) (L : Nat), ((T.zipIdx L).map fun x => x.1.1) = keysT T
  | [], _ => rfl
  | p :: T, L => by
    show p.1 :: ((T.zipIdx (L + 1)).map _) = _
    rw [keys_zip T (L + 1)]; rfl
theorem cells_at {j0 : J} : ∀ (T pre : Tb) (x : (Str × List Str) × Nat), x ∈ T.zipIdx (j0.length + pre.length) → x.1 ∈ T ∧ (j0 ++ cells (pre ++ T))[x.2]? = some (some (.lst (x.1.2.map .str)))
  | [], _, _, h => by cases h
  | p :: T, pre, x, h => by
    rcases List.mem_cons.mp (show x ∈ (p, j0.length + pre.length) :: T.zipIdx (j0.length + pre.length + 1) from h) with e | h
    · subst e
      refine ⟨List.mem_cons_self .., ?_⟩
      rw [List.getElem?_append_right (by simp), show j0.length + pre.length - j0.length = pre.length by omega]
      simp [cells]
    · have := cells_at (j0 := j0) T (pre ++ [p]) x
      rw [show j0.length + (pre ++ [p]).length = j0.length + pre.length + 1 by simp; omega, show pre ++ [p] ++ T = pre ++ p :: T by simp] at this
      exact ⟨List.mem_cons_of_mem _ (this h).1, (this h).2⟩
theorem ends_of_eq {rows : List (Int × Str)} {j : J} (hn : (("*" : Str) :: rows.map (·.2)).Nodup) (hl : rows.length ≤ 15) (hd : ∀ r ∈ rows, 0 ≤ r.1 ∧ r.1 ≤ 2) : f_ends_of [.lst (rows.map rD)] j = .ok (.fdc (tabD (endsS rows))) (j ++ cells (endsS rows)) := by
  obtain ⟨c2, c3, c4, c5, c6, ho⟩ := ends_outer (j0 := j) (c7 := none) rows [] [] [("*", [])] none none none none (by simpa [keysT] using hn) (by simp [keysT]) (by simp) (by simp; omega) (by simp; omega) (by simp [wide]; omega)
  have hw := ends_wide rows [] [("*", [])] hd
  have hk : keysT (endsS rows) = ("*" : Str) :: rows.map (·.2) := keys_ends rows [] [("*", [])]
  have hlen : (endsS rows).length ≤ 100000 := by
    have := congrArg List.length hk
    simp [keysT] at this
    omega
  have e1 : mergeD [] [(D.str (Str.ofString "*"), D.loc j.length)] = fnd j.length [("*", [])] := rfl
  have e2 : j ++ [some (D.lst [])] = j ++ cells [("*", [])] := rfl
  have hdc : dcMap (gT 2 (gsCons (gN 5) (gsCons (gN 7) gsNil))) tT (mVar 5) (mF f_ascending (mCons (mVar 7) mNil)) (wipeG [some (.val (.lst (rows.map rD))), some (.val (.fdc (fnd j.length (endsS rows)))), c2, c3, c4, c5, c6, none] [5, 7]) ((fnd j.length (endsS rows)).map fun q => .tup [q.1, q.2]) [] (j ++ cells (endsS rows)) = .ok (tabD (endsS rows)) (j ++ cells (endsS rows)) := by
    rw [fnd_zip, dcA (fun x : (Str × List Str) × Nat => D.tup [.str x.1.1, .loc x.2]) (fun x => x.1.1) (fun x => .tup ((canS x.1.2).map .str)) _ [] (fun x hx => ?_) (by rw [keys_zip, hk]; exact hn) (fun _ _ => rfl), tab_zip]
    · rfl
    · obtain ⟨m1, m2⟩ := cells_at (j0 := j) (endsS rows) [] x hx
      have hx2 : x.1.2.length < 64 := by
        have := wide_mem m1
        have : wide (endsS rows) ≤ 0 + rows.length * 4 := hw
        omega
      refine ⟨_, rfl, by simp [wipeG], ?_⟩
      have := ascending_eq m2 hx2
      simp [wipeG]
      exact this
  unfold f_ends_of b_ends_of
  simp [isKey, enOf, e1, e2]
  have ho2 : loopD (gT 2 (gsCons (gN 3) (gsCons (gT 2 (gsCons (gN 4) (gsCons (gN 5) gsNil))) gsNil))) endsB (enumD 0 (rows.map rD)) [some (.val (.lst (rows.map rD))), some (.own (.dct (fnd j.length [("*", [])]))), some (.val (.lst [])), none, none, none, none, none] (j ++ cells [("*", [])]) = .nx [some (.val (.lst (rows.map rD))), some (.own (.dct (fnd j.length (endsS rows)))), c2, c3, c4, c5, c6, none] (j ++ cells (endsS rows)) := ho
  rw [ho2]
  simp [frzL, fnd_length, hlen, hdc]
end K19

set_option Elab.async false
set_option linter.all false
set_option maxRecDepth 100000
set_option maxHeartbeats 2000000
set_option autoImplicit false
namespace K19
open PySem PySem.Spec PyProof.Rows L2 On
abbrev cLay : Nat := 10
theorem tab_star {rows : List (Int × Str)} : lkD (.str "*") (tabD (endsS rows)) = some (.tup ((topS rows).map .str)) := by
  have hk : keysT (endsS rows) = ("*" : Str) :: rows.map (·.2) := keys_ends rows [] [("*", [])]
  unfold topS
  cases h : endsS rows with
  | nil => rw [h] at hk; cases hk
  | cons p T =>
    rw [h] at hk
    have e : p.1 = "*" := (List.cons.inj hk).1
    show (bif decide (p.1 = "*") then some (D.tup ((canS p.2).map .str)) else _) = _
    rw [decide_eq_true e]
    rfl
theorem tab_keys {rows : List (Int × Str)} : (tabD (endsS rows)).map (·.1) = namesD rows := by
  have hk : keysT (endsS rows) = ("*" : Str) :: rows.map (·.2) := keys_ends rows [] [("*", [])]
  unfold namesD
  rw [← hk]
  unfold tabD keysT
  simp
theorem lc2_spots {j : J} {Γ : Gm} {g g1 : J → D → Gm → Option Gm} {mi1 : Gm → J → R (List D)} {me : Gm → J → R D} {vs1 : List Nat} {ls : List Str} (hl : ls.length ≤ 300) : ∀ (fs : List Str), (∀ f ∈ fs, ∃ Γ1, g j (.str f) Γ = some Γ1 ∧ mi1 Γ1 j = .ok (ls.map .str) j ∧ noOL Γ1 = true ∧ ∀ l ∈ ls, ∃ Γ2, g1 j (.str l) (wipeG Γ1 vs1) = some Γ2 ∧ me Γ2 j = .ok (.tup [.str f, .str l]) j) →
    lcMap2 g tT mi1 g1 tT me vs1 Γ (fs.map .str) j = .ok (spotsS fs ls) j
  | [], _ => rfl
  | f :: fs, h => by
    obtain ⟨Γ1, h1, h2, h3, h4⟩ := h f (List.mem_cons_self ..)
    have ih := lc2_spots hl fs fun x hx => h x (List.mem_cons_of_mem _ hx)
    show lcMap2 g tT mi1 g1 tT me vs1 Γ (.str f :: fs.map .str) j = _
    unfold lcMap2
    rw [h1]
    show (R.nox (.ok true j)).bind _ = _
    have e := lcA (j := j) (g := g1) (me := me) (Γ := wipeG Γ1 vs1) D.str (fun l => .tup [.str f, .str l]) ls h4
    simp [h2, h3, hl, e, ih, spotsS]
theorem lay_lc1 {rows : List Ln} {c0 c1 c2 c6 c7 : Option Cell} {j : J} : lcMap (gT 3 (gsCons (gN 3) (gsCons (gN 4) (gsCons (gN 5) gsNil)))) (t2 neD (mVar 4) (mC (.str "code"))) (mTup (mCons (mVar 3) (mCons (mVar 5) mNil))) (wipeG [c0, c1, c2, none, none, none, c6, c7] [3, 4, 5]) (rows.map Ln.D) j = .ok ((plR rows).map rD) j := by
  rw [lcP Ln.D (fun r => !isCode r) (fun r => rD (r.d, r.n)) rows fun r _ => ⟨_, rfl, by simp [wipeG, isCode], fun _ => by simp [wipeG, rD]⟩]
  unfold plR
  rw [List.map_map]; rfl
theorem lay_lc2 {rows : List Ln} {c0 c1 c2 c6 c7 : Option Cell} {j : J} : lcMap (gT 3 (gsCons (gN 3) (gsCons (gN 4) (gsCons (gN 5) gsNil)))) (t2 eqD (mVar 4) (mC (.str "code"))) (mTup (mCons (mVar 3) (mCons (mVar 5) mNil))) (wipeG [c0, c1, c2, none, none, none, c6, c7] [3, 4, 5]) (rows.map Ln.D) j = .ok ((clR rows).map rD) j := by
  rw [lcP Ln.D isCode (fun r => rD (r.d, r.n)) rows fun r _ => ⟨_, rfl, by simp [wipeG, isCode], fun _ => by simp [wipeG, rD]⟩]
  unfold clR
  rw [List.map_map]; rfl
theorem lay_lc3 {rows : List (Int × Str)} {c0 c1 c2 c3 c4 c5 c6 c7 : Option Cell} {j : J} : lcMap (gN 5) tT (mVar 5) (wipeG [c0, c1, c2, c3, c4, c5, c6, c7] [5]) (namesD rows) j = .ok (namesD rows) j :=
  lcA D.str D.str _ fun r _ => ⟨_, rfl, by simp [wipeG]⟩
theorem topS_len {rows : List (Int × Str)} (hd : ∀ r ∈ rows, 0 ≤ r.1 ∧ r.1 ≤ 2) : (topS rows).length ≤ rows.length * 4 := by
  have hw : wide (endsS rows) ≤ 0 + rows.length * 4 := ends_wide rows [] [("*", [])] hd
  unfold topS
  split
  · rename_i p l T h
    rw [h] at hw
    have := wide_mem (T := (p, l) :: T) (p := (p, l)) (List.mem_cons_self ..)
    have := canS_len l
    simp at *
    omega
  · simp
theorem lay_lc4 {fs ls : List Str} {flds : List (Str × D)} {d1 d2 : D} {j : J} (hl : ls.length ≤ 300) (h : flds.lookup ("leaves" : Str) = some (.tup (ls.map .str))) : lcMap2 (gN 6) tT (iS (mSelf 0 "leaves" [cLay])) (gN 7) tT (mTup (mCons (mVar 6) (mCons (mVar 7) mNil))) [7] (wipeG [some (.own (.ins cLay flds)), some (.val d1), some (.val d2), none, none, none, none, none] [6, 7]) (fs.map .str) j = .ok (spotsS fs ls) j := by
  refine lc2_spots hl fs fun f _ => ⟨_, rfl, ?_, rfl, fun l _ => ⟨_, rfl, ?_⟩⟩
  · simp [wipeG, conG, h, seqOf]
  · simp [wipeG]
theorem Layout_eq {text : Str} {rows : List Ln} {j : J} (h1 : text.length < 100000) (hr : readS text = .ok rows) (h2 : rows.length ≤ 15) : f_Layout_init [.str text] j = .ok (layF text rows) (j ++ cells (endsS (plR rows)) ++ cells (endsS (clR rows))) := by
  obtain ⟨ok, hlen⟩ := readS_ok hr
  have e0 := read_layout_eq (text := text) (j := j) h1 (by rw [← hlen]; omega)
  rw [hr] at e0
  obtain ⟨p1, p2, p3⟩ := plR_good ok
  obtain ⟨q1, q2, q3⟩ := clR_good ok
  have e1 := ends_of_eq (j := j) p1 (by omega) p2
  have e2 := ends_of_eq (j := j ++ cells (endsS (plR rows))) q1 (by omega) q2
  have t1 := tab_keys (rows := plR rows)
  have t2' := tab_keys (rows := clR rows)
  have k1 : (namesD (plR rows)).length ≤ 100000 := by simp [namesD]; omega
  have k2 : (namesD (clR rows)).length ≤ 100000 := by simp [namesD]; omega
  have l1 := topS_len p2
  have l2 := topS_len q2
  have m1 : (topS (plR rows)).length ≤ 300 := by omega
  have m2 : (topS (clR rows)).length ≤ 300 := by omega
  have hb : rows.length ≤ 100000 := by omega
  have g1 : fDx (.fdc (tabD (endsS (plR rows)))) (.str "*") = some (.tup ((topS (plR rows)).map .str)) := by simp [fDx, getK, isKey, tab_star]
  have g2 : fDx (.fdc (tabD (endsS (clR rows)))) (.str "*") = some (.tup ((topS (clR rows)).map .str)) := by simp [fDx, getK, isKey, tab_star]
  unfold f_Layout_init b_Layout_init
  simp only [x_initOf, x_startG, x_seq]
  simp [e0, conG, muG, putD, seqOf, hb, lay_lc1, e1, ofS_inj, lay_lc2, e2]
  simp [conG, muG, putD, ofS_beq, ofS_inj, List.lookup, t1, t2', lay_lc3, k1, k2, g1, g2, seqOf, m1, lay_lc4 m2]
  rw [x_outI]
  rfl
end K19

set_option Elab.async false
set_option linter.all false
set_option maxRecDepth 100000
set_option maxHeartbeats 4000000
set_option autoImplicit false
namespace K19
open PySem PySem.Spec PyProof.Rows L2 On
/-! words are unlike -/
@[simp] theorem sn_0 : ((Str.ofString "main" : Str) = Str.ofString "branch") = False := eq_false (by decide +kernel)
@[simp] theorem sn_1 : ((Str.ofString "main" : Str) = Str.ofString "elder") = False := eq_false (by decide +kernel)
@[simp] theorem sn_2 : ((Str.ofString "main" : Str) = Str.ofString "lesser") = False := eq_false (by decide +kernel)
@[simp] theorem sn_3 : ((Str.ofString "main" : Str) = Str.ofString "greater") = False := eq_false (by decide +kernel)
@[simp] theorem sn_4 : ((Str.ofString "main" : Str) = Str.ofString "both") = False := eq_false (by decide +kernel)
@[simp] theorem sn_5 : ((Str.ofString "main" : Str) = Str.ofString "refuse") = False := eq_false (by decide +kernel)
@[simp] theorem sn_6 : ((Str.ofString "main" : Str) = Str.ofString "told") = False := eq_false (by decide +kernel)
@[simp] theorem sn_7 : ((Str.ofString "main" : Str) = Str.ofString "conflict") = False := eq_false (by decide +kernel)
@[simp] theorem sn_8 : ((Str.ofString "branch" : Str) = Str.ofString "main") = False := eq_false (by decide +kernel)
@[simp] theorem sn_9 : ((Str.ofString "branch" : Str) = Str.ofString "elder") = False := eq_false (by decide +kernel)
@[simp] theorem sn_10 : ((Str.ofString "branch" : Str) = Str.ofString "lesser") = False := eq_false (by decide +kernel)
@[simp] theorem sn_11 : ((Str.ofString "branch" : Str) = Str.ofString "greater") = False := eq_false (by decide +kernel)
@[simp] theorem sn_12 : ((Str.ofString "branch" : Str) = Str.ofString "both") = False := eq_false (by decide +kernel)
@[simp] theorem sn_13 : ((Str.ofString "branch" : Str) = Str.ofString "refuse") = False := eq_false (by decide +kernel)
@[simp] theorem sn_14 : ((Str.ofString "branch" : Str) = Str.ofString "told") = False := eq_false (by decide +kernel)
@[simp] theorem sn_15 : ((Str.ofString "branch" : Str) = Str.ofString "conflict") = False := eq_false (by decide +kernel)
@[simp] theorem sn_16 : ((Str.ofString "elder" : Str) = Str.ofString "main") = False := eq_false (by decide +kernel)
@[simp] theorem sn_17 : ((Str.ofString "elder" : Str) = Str.ofString "branch") = False := eq_false (by decide +kernel)
@[simp] theorem sn_18 : ((Str.ofString "elder" : Str) = Str.ofString "lesser") = False := eq_false (by decide +kernel)
@[simp] theorem sn_19 : ((Str.ofString "elder" : Str) = Str.ofString "greater") = False := eq_false (by decide +kernel)
@[simp] theorem sn_20 : ((Str.ofString "elder" : Str) = Str.ofString "both") = False := eq_false (by decide +kernel)
@[simp] theorem sn_21 : ((Str.ofString "elder" : Str) = Str.ofString "refuse") = False := eq_false (by decide +kernel)
@[simp] theorem sn_22 : ((Str.ofString "elder" : Str) = Str.ofString "told") = False := eq_false (by decide +kernel)
@[simp] theorem sn_23 : ((Str.ofString "elder" : Str) = Str.ofString "conflict") = False := eq_false (by decide +kernel)
@[simp] theorem sn_24 : ((Str.ofString "lesser" : Str) = Str.ofString "main") = False := eq_false (by decide +kernel)
@[simp] theorem sn_25 : ((Str.ofString "lesser" : Str) = Str.ofString "branch") = False := eq_false (by decide +kernel)
@[simp] theorem sn_26 : ((Str.ofString "lesser" : Str) = Str.ofString "elder") = False := eq_false (by decide +kernel)
@[simp] theorem sn_27 : ((Str.ofString "lesser" : Str) = Str.ofString "greater") = False := eq_false (by decide +kernel)
@[simp] theorem sn_28 : ((Str.ofString "lesser" : Str) = Str.ofString "both") = False := eq_false (by decide +kernel)
@[simp] theorem sn_29 : ((Str.ofString "lesser" : Str) = Str.ofString "refuse") = False := eq_false (by decide +kernel)
@[simp] theorem sn_30 : ((Str.ofString "lesser" : Str) = Str.ofString "told") = False := eq_false (by decide +kernel)
@[simp] theorem sn_31 : ((Str.ofString "lesser" : Str) = Str.ofString "conflict") = False := eq_false (by decide +kernel)
@[simp] theorem sn_32 : ((Str.ofString "greater" : Str) = Str.ofString "main") = False := eq_false (by decide +kernel)
@[simp] theorem sn_33 : ((Str.ofString "greater" : Str) = Str.ofString "branch") = False := eq_false (by decide +kernel)
@[simp] theorem sn_34 : ((Str.ofString "greater" : Str) = Str.ofString "elder") = False := eq_false (by decide +kernel)
@[simp] theorem sn_35 : ((Str.ofString "greater" : Str) = Str.ofString "lesser") = False := eq_false (by decide +kernel)
@[simp] theorem sn_36 : ((Str.ofString "greater" : Str) = Str.ofString "both") = False := eq_false (by decide +kernel)
@[simp] theorem sn_37 : ((Str.ofString "greater" : Str) = Str.ofString "refuse") = False := eq_false (by decide +kernel)
@[simp] theorem sn_38 : ((Str.ofString "greater" : Str) = Str.ofString "told") = False := eq_false (by decide +kernel)
@[simp] theorem sn_39 : ((Str.ofString "greater" : Str) = Str.ofString "conflict") = False := eq_false (by decide +kernel)
@[simp] theorem sn_40 : ((Str.ofString "both" : Str) = Str.ofString "main") = False := eq_false (by decide +kernel)
@[simp] theorem sn_41 : ((Str.ofString "both" : Str) = Str.ofString "branch") = False := eq_false (by decide +kernel)
@[simp] theorem sn_42 : ((Str.ofString "both" : Str) = Str.ofString "elder") = False := eq_false (by decide +kernel)
@[simp] theorem sn_43 : ((Str.ofString "both" : Str) = Str.ofString "lesser") = False := eq_false (by decide +kernel)
@[simp] theorem sn_44 : ((Str.ofString "both" : Str) = Str.ofString "greater") = False := eq_false (by decide +kernel)
@[simp] theorem sn_45 : ((Str.ofString "both" : Str) = Str.ofString "refuse") = False := eq_false (by decide +kernel)
@[simp] theorem sn_46 : ((Str.ofString "both" : Str) = Str.ofString "told") = False := eq_false (by decide +kernel)
@[simp] theorem sn_47 : ((Str.ofString "both" : Str) = Str.ofString "conflict") = False := eq_false (by decide +kernel)
@[simp] theorem sn_48 : ((Str.ofString "refuse" : Str) = Str.ofString "main") = False := eq_false (by decide +kernel)
@[simp] theorem sn_49 : ((Str.ofString "refuse" : Str) = Str.ofString "branch") = False := eq_false (by decide +kernel)
@[simp] theorem sn_50 : ((Str.ofString "refuse" : Str) = Str.ofString "elder") = False := eq_false (by decide +kernel)
@[simp] theorem sn_51 : ((Str.ofString "refuse" : Str) = Str.ofString "lesser") = False := eq_false (by decide +kernel)
@[simp] theorem sn_52 : ((Str.ofString "refuse" : Str) = Str.ofString "greater") = False := eq_false (by decide +kernel)
@[simp] theorem sn_53 : ((Str.ofString "refuse" : Str) = Str.ofString "both") = False := eq_false (by decide +kernel)
@[simp] theorem sn_54 : ((Str.ofString "refuse" : Str) = Str.ofString "told") = False := eq_false (by decide +kernel)
@[simp] theorem sn_55 : ((Str.ofString "refuse" : Str) = Str.ofString "conflict") = False := eq_false (by decide +kernel)
@[simp] theorem sn_56 : ((Str.ofString "told" : Str) = Str.ofString "main") = False := eq_false (by decide +kernel)
@[simp] theorem sn_57 : ((Str.ofString "told" : Str) = Str.ofString "branch") = False := eq_false (by decide +kernel)
@[simp] theorem sn_58 : ((Str.ofString "told" : Str) = Str.ofString "elder") = False := eq_false (by decide +kernel)
@[simp] theorem sn_59 : ((Str.ofString "told" : Str) = Str.ofString "lesser") = False := eq_false (by decide +kernel)
@[simp] theorem sn_60 : ((Str.ofString "told" : Str) = Str.ofString "greater") = False := eq_false (by decide +kernel)
@[simp] theorem sn_61 : ((Str.ofString "told" : Str) = Str.ofString "both") = False := eq_false (by decide +kernel)
@[simp] theorem sn_62 : ((Str.ofString "told" : Str) = Str.ofString "refuse") = False := eq_false (by decide +kernel)
@[simp] theorem sn_63 : ((Str.ofString "told" : Str) = Str.ofString "conflict") = False := eq_false (by decide +kernel)
@[simp] theorem sn_64 : ((Str.ofString "conflict" : Str) = Str.ofString "main") = False := eq_false (by decide +kernel)
@[simp] theorem sn_65 : ((Str.ofString "conflict" : Str) = Str.ofString "branch") = False := eq_false (by decide +kernel)
@[simp] theorem sn_66 : ((Str.ofString "conflict" : Str) = Str.ofString "elder") = False := eq_false (by decide +kernel)
@[simp] theorem sn_67 : ((Str.ofString "conflict" : Str) = Str.ofString "lesser") = False := eq_false (by decide +kernel)
@[simp] theorem sn_68 : ((Str.ofString "conflict" : Str) = Str.ofString "greater") = False := eq_false (by decide +kernel)
@[simp] theorem sn_69 : ((Str.ofString "conflict" : Str) = Str.ofString "both") = False := eq_false (by decide +kernel)
@[simp] theorem sn_70 : ((Str.ofString "conflict" : Str) = Str.ofString "refuse") = False := eq_false (by decide +kernel)
@[simp] theorem sn_71 : ((Str.ofString "conflict" : Str) = Str.ofString "told") = False := eq_false (by decide +kernel)
theorem e_jar : f_law_jar = c_jar := rfl
theorem e_take : f_law_take = c_take := rfl
theorem e_of : f_law_of = c_of := rfl
def ws (w : Nat) : Str := match w with
  | 0 => "main" | 1 => "branch" | 2 => "elder" | 3 => "lesser" | 4 => "greater" | 5 => "both" | _ => "refuse"
abbrev wd (w : Nat) : D := .str (ws w)
def way (e n : Int) : Nat := if n < e then 0 else if n = e then 1 else 2
def pkD (p : Nat → Nat → Nat) : D := .tup [.tup [wd (p 0 0), wd (p 0 1), wd (p 0 2)], .tup [wd (p 1 0), wd (p 1 1), wd (p 1 2)], .tup [wd (p 2 0), wd (p 2 1), wd (p 2 2)]]
/-- what a pick tells -/
def told (w : Nat) (e m b : Int) : Option Int := match w with
  | 0 => some m | 1 => some b | 2 => some e | 3 => some (if m < b then m else b) | 4 => some (if b < m then m else b) | 5 => some (if m + b - e > 0 then m + b - e else 0) | _ => none
def oD : Option Int → D
  | some n => .int n
  | none => .non
theorem way_cases (e n : Int) : (way e n = 0 ∧ n < e) ∨ (way e n = 1 ∧ n = e) ∨ (way e n = 2 ∧ e < n) := by
  unfold way
  split
  · exact .inl ⟨rfl, by assumption⟩
  · split
    · exact .inr (.inl ⟨rfl, by assumption⟩)
    · exact .inr (.inr ⟨rfl, by omega⟩)
theorem way_of {e n : Int} {j : J} : f_way_of [.int e, .int n] j = .ok (.int (way e n)) j := by
  have h : fAdd (.int (b2 (decide (e ≤ n)))) (.int (b2 (decide (e < n)))) = some (.int (way e n)) := by
    rcases way_cases e n with ⟨h1, h2⟩ | ⟨h1, h2⟩ | ⟨h1, h2⟩
    · rw [h1, decide_eq_false (by omega), decide_eq_false (by omega)]; rfl
    · rw [h1, decide_eq_true (by omega), decide_eq_false (by omega)]; rfl
    · rw [h1, decide_eq_true (by omega), decide_eq_true (by omega)]; rfl
  show (lift (fAdd (.int (b2 (decide (e ≤ n)))) (.int (b2 (decide (e < n))))) j : R D) = _
  rw [h]
  rfl
/-- a cell of the picks -/
theorem cell_of {p : Nat → Nat → Nat} {x y : Nat} (hx : x < 3) (hy : y < 3) : ∃ r, atI [D.tup [wd (p 0 0), wd (p 0 1), wd (p 0 2)], .tup [wd (p 1 0), wd (p 1 1), wd (p 1 2)], .tup [wd (p 2 0), wd (p 2 1), wd (p 2 2)]] (x : Int) = some (.tup r) ∧ atI r (y : Int) = some (wd (p x y)) := by
  rcases (show x = 0 ∨ x = 1 ∨ x = 2 by omega) with rfl | rfl | rfl <;> rcases (show y = 0 ∨ y = 1 ∨ y = 2 by omega) with rfl | rfl | rfl <;> exact ⟨_, rfl, rfl⟩
theorem eq_of {α : Type} {r : R α} {a : α} {j' : J} (h : r.wp (fun a1 j1 => a1 = a ∧ j1 = j') X0) : r = .ok a j' := by
  obtain ⟨a1, j1, e, rfl, rfl⟩ := R.wp_ok h
  exact e
theorem way_lt (e n : Int) : way e n < 3 := by rcases way_cases e n with ⟨h, _⟩ | ⟨h, _⟩ | ⟨h, _⟩ <;> omega
theorem seven {P : Nat → Prop} {w : Nat} (hw : w < 7) (h0 : P 0) (h1 : P 1) (h2 : P 2) (h3 : P 3) (h4 : P 4) (h5 : P 5) (h6 : P 6) : P w := by
  rcases (show w = 0 ∨ w = 1 ∨ w = 2 ∨ w = 3 ∨ w = 4 ∨ w = 5 ∨ w = 6 by omega) with rfl | rfl | rfl | rfl | rfl | rfl | rfl <;> assumption
theorem picked_eq {w : Nat} (hw : w < 7) {e m b : Int} {j : J} : f_picked [wd w, .int e, .int m, .int b] j = .ok (oD (told w e m b)) j := by
  refine seven (P := fun w => f_picked [wd w, .int e, .int m, .int b] j = .ok (oD (told w e m b)) j) hw (by kernel_rfl) (by kernel_rfl) (by kernel_rfl) ?_ ?_ (by kernel_rfl) (by kernel_rfl)
  · refine eq_of ?_
    unfold f_picked b_picked
    by_cases h : m < b
    · simp [ws, told, oD, h]
    · simp [ws, told, oD, h]
  · refine eq_of ?_
    unfold f_picked b_picked
    by_cases h : b < m
    · simp [ws, told, oD, h, fGt]
    · simp [ws, told, oD, h, fGt]
theorem fld_picks {d : D} : fldD "picks" [12] [] (.ins 12 [("picks", d)]) = some d := by kernel_rfl
theorem told_eq {p : Nat → Nat → Nat} (hp : ∀ x y, p x y < 7) {e m b : Int} {j : J} : f_Rule_told [.ins 12 [("picks", pkD p)], .int e, .int m, .int b] j = .ok (oD (told (p (way e m) (way e b)) e m b)) j := by
  obtain ⟨r, h1, h2⟩ := cell_of (p := p) (way_lt e m) (way_lt e b)
  refine eq_of ?_
  unfold f_Rule_told b_Rule_told
  simp [fld_picks, way_of, pkD, h1, h2, picked_eq (hp _ _)]
theorem o_isNot_i {n : Int} : fIsNot (.int n) .non = some true := by kernel_rfl
theorem o_isNot_n : fIsNot .non .non = some false := by kernel_rfl
def comesD (w : Nat) (e m b : Int) : D := match told w e m b with
  | some n => .tup [.str "told", .int n]
  | none => .tup [.str "conflict", .tup [.int e, .int m, .int b]]
theorem comes_eq {p : Nat → Nat → Nat} (hp : ∀ x y, p x y < 7) {e m b : Int} {j : J} : f_law_comes [pkD p, .int e, .int m, .int b] j = .ok (comesD (p (way e m) (way e b)) e m b) j := by
  obtain ⟨r, h1, h2⟩ := cell_of (p := p) (way_lt e m) (way_lt e b)
  have a1 : ∀ n : Int, b2 (decide (e ≤ n)) + b2 (decide (e < n)) = way e n := fun n => by
    have := way_of (e := e) (n := n) (j := j)
    rcases way_cases e n with ⟨h1, h2⟩ | ⟨h1, h2⟩ | ⟨h1, h2⟩
    · rw [h1, decide_eq_false (by omega), decide_eq_false (by omega)]; rfl
    · rw [h1, decide_eq_true (by omega), decide_eq_false (by omega)]; rfl
    · rw [h1, decide_eq_true (by omega), decide_eq_true (by omega)]; rfl
  have ik : ∀ x : Str, isKey (.str x) = true := fun _ => rfl
  have hx : ∀ j', fIx (deref j' (pkD p)) (.int (way e m)) = some (.tup r) := fun j' => h1
  have hd : mergeD [] [(D.str "main", D.int m), (D.str "branch", D.int b), (D.str "elder", D.int e)] = [(D.str "main", D.int m), (D.str "branch", D.int b), (D.str "elder", D.int e)] := by kernel_rfl
  have main : ∀ w, w < 7 → atI r (way e b : Int) = some (wd w) → f_law_comes [pkD p, .int e, .int m, .int b] j = .ok (comesD w e m b) j := by
    intro w hw hr
    refine eq_of (defw rfl ?_)
    show (b_law_comes [some (.val (pkD p)), some (.val (.int e)), some (.val (.int m)), some (.val (.int b)), none, none, none, none, none] j).wp _
    unfold b_law_comes
    refine seqw fun K hK => ?_
    simp [fGe, fGt, a1, hx]
    refine hK _ _ ?_
    clear hK
    refine seqw fun K hK => ?_
    simp [fGe, fGt, a1, hr]
    refine hK _ _ ?_
    clear hK
    obtain ⟨lo, hi, e1, e2, e3⟩ : ∃ lo hi : Int, (if m < b then m else b) = lo ∧ (if b < m then m else b) = hi ∧ ((m < b ∧ lo = m ∧ hi = b) ∨ (¬ m < b ∧ lo = b ∧ hi = m)) := ⟨_, _, rfl, rfl, by
      by_cases h : m < b
      · exact .inl ⟨h, if_pos h, if_neg (by omega)⟩
      · refine .inr ⟨h, if_neg h, ?_⟩
        split <;> omega⟩
    obtain ⟨n, e4, e5⟩ : ∃ n : Int, (if m + b - e > 0 then m + b - e else 0) = n ∧ ((e < m + b ∧ n = m + b - e) ∨ (¬ e < m + b ∧ n = 0)) := ⟨_, rfl, by
      by_cases h : e < m + b
      · exact .inl ⟨h, if_pos (by omega)⟩
      · exact .inr ⟨h, if_neg (by omega)⟩⟩
    refine seqw fun K hK => ?_
    have := hK [some (.val (pkD p)), some (.val (.int e)), some (.val (.int m)), some (.val (.int b)), some (.val (.tup r)), some (.val (wd w)), some (.val (.int lo)), some (.val (.int hi)), none] j
    have t3 : K [some (.val (pkD p)), some (.val (.int e)), some (.val (.int m)), some (.val (.int b)), some (.val (.tup r)), some (.val (wd w)), some (.val (.int lo)), some (.val (.int hi)), none] j := by
      refine this ?_
      clear this hK K e3
      refine seqw fun K hK => ?_
      simp [ik, hd]
      refine hK _ _ ?_
      clear hK
      refine seqw fun K hK => ?_
      refine wp_nx (Γ' := [some (.val (pkD p)), some (.val (.int e)), some (.val (.int m)), some (.val (.int b)), some (.val (.tup r)), some (.val (wd w)), some (.val (.int lo)), some (.val (.int hi)), some (.own (.dct [(.str "main", .int m), (.str "branch", .int b), (.str "elder", .int e), (.str "lesser", .int lo), (.str "greater", .int hi)]))]) (j' := j) (by kernel_rfl) (hK _ _ ?_)
      clear hK
      refine seqw fun K hK => ?_
      have hc : conG 8 [some (.val (pkD p)), some (.val (.int e)), some (.val (.int m)), some (.val (.int b)), some (.val (.tup r)), some (.val (wd w)), some (.val (.int lo)), some (.val (.int hi)), some (.own (.dct [(.str "main", .int m), (.str "branch", .int b), (.str "elder", .int e), (.str "lesser", .int lo), (.str "greater", .int hi)]))] j = some (.dct [(.str "main", .int m), (.str "branch", .int b), (.str "elder", .int e), (.str "lesser", .int lo), (.str "greater", .int hi)]) := rfl
      have hdp : dputG 8 [some (.val (pkD p)), some (.val (.int e)), some (.val (.int m)), some (.val (.int b)), some (.val (.tup r)), some (.val (wd w)), some (.val (.int lo)), some (.val (.int hi)), some (.own (.dct [(.str "main", .int m), (.str "branch", .int b), (.str "elder", .int e), (.str "lesser", .int lo), (.str "greater", .int hi)]))] j (.str "both") (.int n) = .nx [some (.val (pkD p)), some (.val (.int e)), some (.val (.int m)), some (.val (.int b)), some (.val (.tup r)), some (.val (wd w)), some (.val (.int lo)), some (.val (.int hi)), some (.own (.dct [(.str "main", .int m), (.str "branch", .int b), (.str "elder", .int e), (.str "lesser", .int lo), (.str "greater", .int hi), (.str "both", .int n)]))] j := by kernel_rfl
      have t4 : K [some (.val (pkD p)), some (.val (.int e)), some (.val (.int m)), some (.val (.int b)), some (.val (.tup r)), some (.val (wd w)), some (.val (.int lo)), some (.val (.int hi)), some (.own (.dct [(.str "main", .int m), (.str "branch", .int b), (.str "elder", .int e), (.str "lesser", .int lo), (.str "greater", .int hi), (.str "both", .int n)]))] j := by
        refine hK _ _ ?_
        clear hK hc hdp e5
        have fz : frzG 8 [some (.val (pkD p)), some (.val (.int e)), some (.val (.int m)), some (.val (.int b)), some (.val (.tup r)), some (.val (wd w)), some (.val (.int lo)), some (.val (.int hi)), some (.own (.dct [(.str "main", .int m), (.str "branch", .int b), (.str "elder", .int e), (.str "lesser", .int lo), (.str "greater", .int hi), (.str "both", .int n)]))] = [some (.val (pkD p)), some (.val (.int e)), some (.val (.int m)), some (.val (.int b)), some (.val (.tup r)), some (.val (wd w)), some (.val (.int lo)), some (.val (.int hi)), some (.val (.dct [(.str "main", .int m), (.str "branch", .int b), (.str "elder", .int e), (.str "lesser", .int lo), (.str "greater", .int hi), (.str "both", .int n)]))] := rfl
        show (sRet _ (frzG 8 _) j).wp _
        rw [fz]
        rcases (show w = 0 ∨ w = 1 ∨ w = 2 ∨ w = 3 ∨ w = 4 ∨ w = 5 ∨ w = 6 by omega) with rfl | rfl | rfl | rfl | rfl | rfl | rfl
        · exact wp_rt (d := .tup [.str "told", .int m]) (by kernel_rfl) ⟨rfl, rfl⟩
        · exact wp_rt (d := .tup [.str "told", .int b]) (by kernel_rfl) ⟨rfl, rfl⟩
        · exact wp_rt (d := .tup [.str "told", .int e]) (by kernel_rfl) ⟨rfl, rfl⟩
        · exact wp_rt (d := .tup [.str "told", .int lo]) (by kernel_rfl) ⟨by rw [← e1]; rfl, rfl⟩
        · exact wp_rt (d := .tup [.str "told", .int hi]) (by kernel_rfl) ⟨by rw [← e2]; rfl, rfl⟩
        · exact wp_rt (d := .tup [.str "told", .int n]) (by kernel_rfl) ⟨by rw [← e4]; rfl, rfl⟩
        · exact wp_rt (d := .tup [.str "conflict", .tup [.int e, .int m, .int b]]) (by kernel_rfl) ⟨rfl, rfl⟩
      rcases e5 with ⟨h, rfl⟩ | ⟨h, rfl⟩
      · simp [fGt, h, hc, hdp]; exact t4
      · simp [fGt, h, hc, hdp]; exact t4
    rcases e3 with ⟨h, rfl, rfl⟩ | ⟨h, rfl, rfl⟩
    · simp [h]; exact t3
    · simp [h]; exact t3
  exact main _ (hp _ _) h2
end K19

set_option Elab.async false
set_option linter.all false
set_option maxRecDepth 100000
set_option maxHeartbeats 4000000
set_option autoImplicit false
namespace K19
open PySem PySem.Spec PyProof.Rows L2 On
def W7 : List D := [wd 0, wd 1, wd 2, wd 3, wd 4, wd 5, wd 6]
theorem words {j : J} : f_law_words [] j = .ok (.lst W7) j := by kernel_rfl
theorem W7_mem {d : D} (h : d ∈ W7) : ∃ w, w < 7 ∧ d = wd w := by
  simp only [W7, List.mem_cons, List.not_mem_nil, or_false] at h
  rcases h with rfl | rfl | rfl | rfl | rfl | rfl | rfl
  · exact ⟨0, by decide, rfl⟩
  · exact ⟨1, by decide, rfl⟩
  · exact ⟨2, by decide, rfl⟩
  · exact ⟨3, by decide, rfl⟩
  · exact ⟨4, by decide, rfl⟩
  · exact ⟨5, by decide, rfl⟩
  · exact ⟨6, by decide, rfl⟩
/-- picks -/
def Pk (d : D) : Prop := ∃ p : Nat → Nat → Nat, (∀ x y, p x y < 7) ∧ d = pkD p
theorem Pk.of {a b c d e f g h i : D} (ha : a ∈ W7) (hb : b ∈ W7) (hc : c ∈ W7) (hd : d ∈ W7) (he : e ∈ W7) (hf : f ∈ W7) (hg : g ∈ W7) (hh : h ∈ W7) (hi : i ∈ W7) : Pk (.tup [.tup [a, b, c], .tup [d, e, f], .tup [g, h, i]]) := by
  obtain ⟨w0, h0, rfl⟩ := W7_mem ha
  obtain ⟨w1, h1, rfl⟩ := W7_mem hb
  obtain ⟨w2, h2, rfl⟩ := W7_mem hc
  obtain ⟨w3, h3, rfl⟩ := W7_mem hd
  obtain ⟨w4, h4, rfl⟩ := W7_mem he
  obtain ⟨w5, h5, rfl⟩ := W7_mem hf
  obtain ⟨w6, h6, rfl⟩ := W7_mem hg
  obtain ⟨w7, h7, rfl⟩ := W7_mem hh
  obtain ⟨w8, h8, rfl⟩ := W7_mem hi
  refine ⟨fun x y => match x, y with | 0, 0 => w0 | 0, 1 => w1 | 0, _ => w2 | 1, 0 => w3 | 1, 1 => w4 | 1, _ => w5 | _, 0 => w6 | _, 1 => w7 | _, _ => w8, fun x y => ?_, rfl⟩
  dsimp only
  split <;> assumption
theorem wd_mem {w : Nat} (h : w < 7) : wd w ∈ W7 := seven (P := fun w => wd w ∈ W7) h (by simp [W7]) (by simp [W7]) (by simp [W7]) (by simp [W7]) (by simp [W7]) (by simp [W7]) (by simp [W7])
theorem Pk.cells {d : D} (h : Pk d) : ∃ a b c e f g h i k, d = .tup [.tup [a, b, c], .tup [e, f, g], .tup [h, i, k]] ∧ a ∈ W7 ∧ b ∈ W7 ∧ c ∈ W7 ∧ e ∈ W7 ∧ f ∈ W7 ∧ g ∈ W7 ∧ h ∈ W7 ∧ i ∈ W7 ∧ k ∈ W7 := by
  obtain ⟨p, hp, rfl⟩ := h
  exact ⟨_, _, _, _, _, _, _, _, _, rfl, wd_mem (hp _ _), wd_mem (hp _ _), wd_mem (hp _ _), wd_mem (hp _ _), wd_mem (hp _ _), wd_mem (hp _ _), wd_mem (hp _ _), wd_mem (hp _ _), wd_mem (hp _ _)⟩
theorem o_mul3 {d : D} : fMul (.tup [d]) (.int 3) = some (.tup [d, d, d]) := by kernel_rfl
theorem lst_lc {g : J → D → Gm → Option Gm} {mt : Gm → J → R Bool} {me : Gm → J → R D} {Γ : Gm} {d : D} {ds : List D} {j : J} {P : List D → J → Prop} {X : Nat → List (Str × D) → J → Prop} {Γ1 : Gm} (hg : g j d Γ = some Γ1) (h : (mt Γ1 j).wp (fun b j1 => bif b then (me Γ1 j1).wp (fun e j2 => (lcMap g mt me Γ ds j2).wp (fun es j3 => P (e :: es) j3) X) X0 else (lcMap g mt me Γ ds j1).wp P X) X0) : (lcMap g mt me Γ (d :: ds) j).wp P X := by
  unfold lcMap
  rw [hg]
  dsimp only
  revert h
  generalize mt Γ1 j = r
  intro h
  cases r with
  | exc c fs j => exact h.elim
  | bad => exact h.elim
  | ok b j1 =>
    cases b with
    | false => exact h
    | true =>
      show ((me Γ1 j1).nox.bind fun e j => (lcMap g mt me Γ ds j).bind fun es j => .ok (e :: es) j).wp P X
      have h : (me Γ1 j1).wp (fun e j2 => (lcMap g mt me Γ ds j2).wp (fun es j3 => P (e :: es) j3) X) X0 := h
      revert h
      generalize me Γ1 j1 = r2
      intro h
      cases r2 with
      | exc c fs j => exact h.elim
      | bad => exact h.elim
      | ok e j2 =>
        show ((lcMap g mt me Γ ds j2).bind fun es j => .ok (e :: es) j).wp P X
        rw [wp_bind]
        exact h
theorem lst_nil {g : J → D → Gm → Option Gm} {mt : Gm → J → R Bool} {me : Gm → J → R D} {Γ : Gm} {j : J} {P : List D → J → Prop} {X : Nat → List (Str × D) → J → Prop} (h : P [] j) : (lcMap g mt me Γ [] j).wp P X := h
theorem lst_T {g : J → D → Gm → Option Gm} {me : Gm → J → R D} {Γ : Gm} {d : D} {ds : List D} {j : J} {P : List D → J → Prop} {X : Nat → List (Str × D) → J → Prop} {Γ1 : Gm} (hg : g j d Γ = some Γ1) (h : (me Γ1 j).wp (fun e j2 => (lcMap g tT me Γ ds j2).wp (fun es j3 => P (e :: es) j3) X) X0) : (lcMap g tT me Γ (d :: ds) j).wp P X := lst_lc hg h
end K19

set_option Elab.async false
set_option linter.all false
set_option maxRecDepth 100000
set_option maxHeartbeats 4000000
set_option autoImplicit false
namespace K19
open PySem PySem.Spec PyProof.Rows L2 On
theorem rng3 : rng1 [.int 3] = some [.int 0, .int 1, .int 2] := by kernel_rfl
theorem row_wp {j : J} {n m : Nat} {ds : List D} {c1 c3 c4 : Option Cell} {P : D → J → Prop} {X : Nat → List (Str × D) → J → Prop} (h : Jar j n (m + 3)) (h1 : ds ≠ []) (h2 : ds.length < 100000) (q : ∀ a b c j', a ∈ ds → b ∈ ds → c ∈ ds → Jar j' n m → P (.tup [a, b, c]) j') :
    (mB fTuple (mCons (mLc (iR rng1 (mCons (mC (.int 3)) mNil)) (gN 3) tT (mF f_law_of (mCons (mVar 0) (mCons (mVar 2) mNil))) (([("_law_branch", 3)] : List (Str × Nat)).map (·.2))) mNil) [some (.val (.loc n)), c1, some (.val (.lst ds)), c3, c4] j).wp P X := by
  simp [rng3, wipeG]
  refine lst_T rfl ?_
  simp [e_of]
  refine of_wp (m := m + 2) h h1 h2 fun a j1 ha hj1 _ => ?_
  refine lst_T rfl ?_
  simp [e_of]
  refine of_wp (m := m + 1) hj1 h1 h2 fun b j2 hb hj2 _ => ?_
  refine lst_T rfl ?_
  simp [e_of]
  refine of_wp (m := m) hj2 h1 h2 fun c j3 hc hj3 _ => ?_
  refine lst_nil ?_
  exact q a b c j3 ha hb hc hj3
theorem picks_wp {j : J} {n m : Nat} {P : D → J → Prop} {X : Nat → List (Str × D) → J → Prop} (h : Jar j n (m + 12)) (q : ∀ d j', Pk d → Jar j' n m → P d j') : (f_law_picks [.loc n] j).wp P X := by
  refine defw rfl ?_
  show (b_law_picks [some (.val (.loc n)), none, none, none, none] j).wp _
  unfold b_law_picks
  refine seqw fun K hK => ?_
  simp [e_take]
  refine take_wp (m := m + 11) h (by decide) (by decide) fun r j1 h0 h1 hj _ => hK _ _ ?_
  clear hK
  refine seqw fun K hK => ?_
  by_cases c0 : r = 0
  · simp [c0]
    exact q _ _ (Pk.of (wd_mem (w := 6) (by decide)) (wd_mem (w := 0) (by decide)) (wd_mem (w := 6) (by decide)) (wd_mem (w := 1) (by decide)) (wd_mem (w := 1) (by decide)) (wd_mem (w := 1) (by decide)) (wd_mem (w := 6) (by decide)) (wd_mem (w := 0) (by decide)) (wd_mem (w := 6) (by decide))) (hj.mono (by omega))
  simp [c0]
  refine hK _ _ ?_
  clear hK
  refine seqw fun K hK => ?_
  by_cases c1 : r < 4
  · simp [c1]
    have all3 : ∀ w, w < 7 → P (.tup [.tup [wd w, wd w, wd w], .tup [wd w, wd w, wd w], .tup [wd w, wd w, wd w]]) j1 := fun w hw => q _ _ (Pk.of (wd_mem hw) (wd_mem hw) (wd_mem hw) (wd_mem hw) (wd_mem hw) (wd_mem hw) (wd_mem hw) (wd_mem hw) (wd_mem hw)) (hj.mono (by omega))
    rcases (show r = 1 ∨ r = 2 ∨ r = 3 by omega) with rfl | rfl | rfl
    · simp [atI, ixN, o_mul3]; exact all3 3 (by decide)
    · simp [atI, ixN, o_mul3]; exact all3 4 (by decide)
    · simp [atI, ixN, o_mul3]; exact all3 5 (by decide)
  simp [c1]
  refine hK _ _ ?_
  clear hK
  refine seqw fun K hK => ?_
  by_cases c2 : r = 4
  · simp [c2, words, e_of]
    refine of_wp (m := m + 10) hj (by simp [W7]) (by simp [W7]) fun d j2 hd hj2 _ => ?_
    simp [o_mul3]
    exact q _ _ (Pk.of hd hd hd hd hd hd hd hd hd) (hj2.mono (by omega))
  simp [c2]
  refine hK _ _ ?_
  clear hK
  refine seqw fun K hK => ?_
  obtain ⟨ds, e1, e2, e3⟩ : ∃ ds : List D, fSl (.lst W7) none (some (6 + b2 (decide (6 < r)))) = some (.lst ds) ∧ ds ≠ [] ∧ (ds.length < 100000 ∧ ∀ d ∈ ds, d ∈ W7) := by
    cases decide (6 < r) with
    | false => exact ⟨[wd 0, wd 1, wd 2, wd 3, wd 4, wd 5], by kernel_rfl, by simp, by simp, by simp [W7]⟩
    | true => exact ⟨W7, by kernel_rfl, by simp [W7], by simp [W7], fun d h => h⟩
  simp [words, fGt, e1]
  refine hK _ _ ?_
  clear hK
  rw [x_ret, wpS_bindS, x_mB, wp_bind, x_mCons, wp_bind, x_lc, wp_bind]
  simp only [x_iR, x_mCons, x_mNil, x_C, wp_bind, wp_okv, wp_lift, rng3, List.length_cons, List.length_nil]
  rw [if_pos (by decide), wp_bind]
  refine lst_T rfl ?_
  refine row_wp (m := m + 8) (h := hj) e2 e3.1 fun a b c j2 ha hb hc hj2 => ?_
  refine lst_T rfl ?_
  refine row_wp (m := m + 5) (h := hj2) e2 e3.1 fun d e f j3 hd he hf hj3 => ?_
  refine lst_T rfl ?_
  refine row_wp (m := m + 2) (h := hj3) e2 e3.1 fun g h i j4 hg hh hi hj4 => ?_
  refine lst_nil ?_
  exact q _ _ (Pk.of (e3.2 _ ha) (e3.2 _ hb) (e3.2 _ hc) (e3.2 _ hd) (e3.2 _ he) (e3.2 _ hf) (e3.2 _ hg) (e3.2 _ hh) (e3.2 _ hi)) (hj4.mono (by omega))
end K19

set_option Elab.async false
set_option linter.all false
set_option maxRecDepth 100000
set_option maxHeartbeats 4000000
set_option autoImplicit false
namespace K19
open PySem PySem.Spec PyProof.Rows L2 On
theorem among {w : D} (h : w ∈ W7) {j : J} : f_is_among [w, .tup [.str "main", .str "branch", .str "elder", .str "lesser", .str "greater", .str "both", .str "refuse"]] j = .ok (.bl true) j := by
  obtain ⟨v, hv, rfl⟩ := W7_mem h
  exact seven (P := fun v => f_is_among [wd v, .tup [.str "main", .str "branch", .str "elder", .str "lesser", .str "greater", .str "both", .str "refuse"]] j = .ok (.bl true) j) hv (by kernel_rfl) (by kernel_rfl) (by kernel_rfl) (by kernel_rfl) (by kernel_rfl) (by kernel_rfl) (by kernel_rfl)
theorem isTup {ds : List D} : isiD (tyLk ty_tuple) (owLk 10 ow_tuple) (owLk 0 ox_tuple) (.tup ds) = some true := by kernel_rfl
theorem is_picks {d : D} (h : Pk d) {j : J} : f_is_picks [d] j = .ok (.bl true) j := by
  obtain ⟨a, b, c, e, f, g, h', i, k, rfl, ha, hb, hc, he, hf, hg, hh, hi, hk⟩ := h.cells
  refine eq_of (defw rfl ?_)
  show (b_is_picks [some (.val (.tup [.tup [a, b, c], .tup [e, f, g], .tup [h', i, k]])), none, none] j).wp _
  unfold b_is_picks
  refine seqw fun K hK => ?_
  simp [isTup]
  refine hK _ _ ?_
  clear hK
  refine seqw fun K hK => ?_
  rw [x_for, wpS_bindS]
  simp [seqOf]
  refine loopD_wp (fun ds Γ j' => j' = j ∧ (∀ d ∈ ds, ∃ a b c, d = .tup [a, b, c] ∧ a ∈ W7 ∧ b ∈ W7 ∧ c ∈ W7) ∧ ∃ x y, Γ = [some (.val (.tup [.tup [a, b, c], .tup [e, f, g], .tup [h', i, k]])), x, y]) ?_ ?_ ⟨rfl, ?_, _, _, rfl⟩
  · rintro d ds Γ j' ⟨rfl, hd, x, y, rfl⟩
    obtain ⟨a', b', c', rfl, ha', hb', hc'⟩ := hd d List.mem_cons_self
    refine ⟨_, rfl, ?_⟩
    simp [isTup, seqOf, wipeG]
    refine lst_T rfl ?_
    simp [among ha']
    refine lst_T rfl ?_
    simp [among hb']
    refine lst_T rfl ?_
    simp [among hc']
    refine lst_nil ?_
    exact ⟨rfl, rfl, fun d hx => hd d (List.mem_cons_of_mem _ hx)⟩
  · rintro Γ j' ⟨rfl, _, x, y, rfl⟩
    refine hK _ _ ?_
    simp
  · intro d hd
    simp at hd
    rcases hd with rfl | rfl | rfl
    · exact ⟨_, _, _, rfl, ha, hb, hc⟩
    · exact ⟨_, _, _, rfl, he, hf, hg⟩
    · exact ⟨_, _, _, rfl, hh, hi, hk⟩
theorem rule_init {d : D} (h : Pk d) {j : J} : f_Rule_init [d] j = .ok [("picks", d)] j := by
  have : f_Rule_init [d] j = outI 12 ((((f_is_picks [d] j).bind fun d j => lift (truD (deref j d)) j).bind fun b j => .ok (!b) j).bindS [some (.own (.ins 12 [])), some (.val d)] (fun b j => bif b then sRaise 7 (mVar 1) [some (.own (.ins 12 [])), some (.val d)] j else sNil [some (.own (.ins 12 [])), some (.val d)] j) |>.bindS (sSelf 0 "picks" [12] (mVar 1))) := by kernel_rfl
  rw [this, is_picks h]
  kernel_rfl
end K19

set_option Elab.async false
set_option linter.all false
set_option maxRecDepth 100000
set_option maxHeartbeats 2000000
set_option autoImplicit false
namespace K19
open PySem PySem.Spec PyProof.Rows L2 On
def isN : D → Bool
  | .int i => decide (0 ≤ i) && decide (i ≤ 999)
  | _ => false
def isBk : D → Bool
  | .ins n _ => decide (n = 11)
  | _ => false
def isBo : D → Bool
  | .bl _ => true
  | _ => false
def kd : D → Bool
  | .non => true
  | .bl _ => true
  | .int _ => true
  | .str _ => true
  | .lst _ => true
  | .tup _ => true
  | .dct _ => true
  | .ins n _ => decide (n = 11)
  | _ => false
theorem isi_int {e : D} (h : kd e = true) : isiD (tyLk ty_int) (owLk 10 ow_int) (owLk 0 ox_int) e = some (match e with | .int _ => true | .bl _ => true | _ => false) := by
  cases e with
  | ins n fs =>
    have : n = 11 := of_decide_eq_true h
    subst this
    rfl
  | _ => first | rfl | cases h
theorem isi_bool {e : D} (h : kd e = true) : isiD (tyLk ty_bool) (owLk 10 ow_bool) (owLk 0 ox_bool) e = some (isBo e) := by
  cases e with
  | ins n fs =>
    have : n = 11 := of_decide_eq_true h
    subst this
    rfl
  | _ => first | rfl | cases h
theorem isi_book {e : D} (h : kd e = true) : isiD (tyLk ty_Book) (owLk 10 ow_Book) (owLk 0 ox_Book) e = some (isBk e) := by
  cases e with
  | ins n fs =>
    have : n = 11 := of_decide_eq_true h
    subst this
    rfl
  | _ => first | rfl | cases h
theorem num_eq {d : D} {j : J} (h : kd (deref j d) = true) : f_is_number [d, .int 0, .int 999] j = .ok (.bl (isN (deref j d))) j := by
  unfold f_is_number b_is_number
  simp only [x_defOf]
  simp [isi_int h, isi_bool h]
  generalize deref j d = e at h
  cases e with
  | int i =>
    simp [isBo, isN, fLe]
    by_cases h0 : 0 ≤ i
    · simp [h0]
    · simp [h0]
  | _ => simp [isBo, isN]
theorem lc_num {j : J} {a b c : D} {c0 c1 c2 c3 c4 c5 c6 : Option Cell} (ha : kd (deref j a) = true) (hb : kd (deref j b) = true) (hc : kd (deref j c) = true) :
    lcMap (gN 5) tT (mF f_is_number (mCons (mVar 5) (mCons (mC (.int 0)) (mCons (mC (.int 999)) mNil)))) (wipeG [c0, c1, c2, c3, c4, c5, c6] [5]) [a, b, c] j = .ok [.bl (isN (deref j a)), .bl (isN (deref j b)), .bl (isN (deref j c))] j := by
  have := lcA (j := j) (g := gN 5) (me := mF f_is_number (mCons (mVar 5) (mCons (mC (.int 0)) (mCons (mC (.int 999)) mNil)))) (Γ := wipeG [c0, c1, c2, c3, c4, c5, c6] [5]) id (fun d => .bl (isN (deref j d))) [a, b, c] fun x hx => ⟨_, rfl, by
    have hx : kd (deref j x) = true := by
      simp at hx
      rcases hx with rfl | rfl | rfl <;> assumption
    simp [wipeG, num_eq hx]⟩
  simpa using this
theorem lc_book {j : J} {a b c : D} {c0 c1 c2 c3 c4 c5 c6 : Option Cell} (ha : kd (deref j a) = true) (hb : kd (deref j b) = true) (hc : kd (deref j c) = true) :
    lcMap (gN 5) tT (m1 (fun d => (isiD (tyLk ty_Book) (owLk 10 ow_Book) (owLk 0 ox_Book) d).map .bl) (mVar 5)) (wipeG [c0, c1, c2, c3, c4, c5, c6] [5]) [a, b, c] j = .ok [.bl (isBk (deref j a)), .bl (isBk (deref j b)), .bl (isBk (deref j c))] j := by
  have := lcA (j := j) (g := gN 5) (me := m1 (fun d => (isiD (tyLk ty_Book) (owLk 10 ow_Book) (owLk 0 ox_Book) d).map .bl) (mVar 5)) (Γ := wipeG [c0, c1, c2, c3, c4, c5, c6] [5]) id (fun d => .bl (isBk (deref j d))) [a, b, c] fun x hx => ⟨_, rfl, by
    have hx : kd (deref j x) = true := by
      simp at hx
      rcases hx with rfl | rfl | rfl <;> assumption
    simp [wipeG, isi_book hx]⟩
  simpa using this
theorem all3 {a b c : Bool} : fAll [.lst [.bl a, .bl b, .bl c]] = some (.bl (a && (b && c))) := by
  cases a <;> cases b <;> cases c <;> rfl
abbrev ruD (p : Nat → Nat → Nat) : D := .ins 12 [("picks", pkD p)]
theorem call_num {p : Nat → Nat → Nat} (hp : ∀ x y, p x y < 7) {e m b : Int} {j : J} (h1 : isN (.int e) = true) (h2 : isN (.int m) = true) (h3 : isN (.int b) = true) :
    f_Rule_call [ruD p, .int e, .int m, .int b] j = (match told (p (way e m) (way e b)) e m b with
      | some n => .ok (.int n) j
      | none => .exc 9 [("value", .tup [.int e, .int m, .int b])] j) := by
  have l := lc_num (j := j) (a := .int e) (b := .int m) (c := .int b) (c0 := some (.val (ruD p))) (c1 := some (.val (.int e))) (c2 := some (.val (.int m))) (c3 := some (.val (.int b))) (c4 := some (.val (.tup [.int e, .int m, .int b]))) (c5 := none) (c6 := none) rfl rfl rfl
  simp only [de_int, h1, h2, h3] at l
  have hl : List.lookup ("told" : Str) [(("picks" : Str), pkD p)] = none := by kernel_rfl
  unfold f_Rule_call b_Rule_call
  simp [l, all3, seqOf, told_eq hp, hl]
  cases told (p (way e m) (way e b)) e m b with
  | none => simp [oD]
  | some n => simp [oD]
theorem call_odd {p : Nat → Nat → Nat} {a b c : D} {j : J} (ha : kd (deref j a) = true) (hb : kd (deref j b) = true) (hc : kd (deref j c) = true) (hn : (isN (deref j a) && (isN (deref j b) && isN (deref j c))) = false) (hk : (isBk (deref j a) && (isBk (deref j b) && isBk (deref j c))) = false) :
    f_Rule_call [ruD p, a, b, c] j = .exc 8 [("value", .tup [a, b, c])] j := by
  unfold f_Rule_call b_Rule_call
  simp [lc_num ha hb hc, lc_book ha hb hc, all3, seqOf, hn, hk]
@[simp] theorem lk_0 {c : Nat} (h : c < 10) : owLk 0 [true, true, true, true, true, true, true, true, true, true] c = some true := by
  rcases (show c = 0 ∨ c = 1 ∨ c = 2 ∨ c = 3 ∨ c = 4 ∨ c = 5 ∨ c = 6 ∨ c = 7 ∨ c = 8 ∨ c = 9 by omega) with rfl | rfl | rfl | rfl | rfl | rfl | rfl | rfl | rfl | rfl <;> rfl
theorem ruI {p : Nat → Nat → Nat} {j : J} : isIns 12 (deref j (ruD p)) = true := rfl
theorem cf9 {fs : List (Str × D)} : isiD (tyLk ty_Conflict) (owLk 10 ow_Conflict) (owLk 0 ox_Conflict) (.exn 9 fs) = some true := rfl
theorem cf8 {fs : List (Str × D)} : isiD (tyLk ty_Conflict) (owLk 10 ow_Conflict) (owLk 0 ox_Conflict) (.exn 8 fs) = some false := rfl
theorem bm8 {fs : List (Str × D)} : isiD (tyLk ty_BadMerge) (owLk 10 ow_BadMerge) (owLk 0 ox_BadMerge) (.exn 8 fs) = some true := rfl
theorem fv {c : Nat} (h : c = 8 ∨ c = 9) {d : D} : fldD "value" [] xs_value (.exn c [("value", d)]) = some d := by
  rcases h with rfl | rfl <;> rfl
theorem heard_num {p : Nat → Nat → Nat} (hp : ∀ x y, p x y < 7) {e m b : Int} {j : J} (h1 : isN (.int e) = true) (h2 : isN (.int m) = true) (h3 : isN (.int b) = true) :
    f_law_heard [ruD p, .tup [.int e, .int m, .int b]] j = .ok (comesD (p (way e m) (way e b)) e m b) j := by
  have hc := call_num hp (j := j) h1 h2 h3
  unfold f_law_heard b_law_heard comesD
  cases ht : told (p (way e m) (way e b)) e m b with
  | none =>
    rw [ht] at hc
    simp [hc, isIns, lk_0, cf9, fv]
  | some n =>
    rw [ht] at hc
    simp [hc, isIns]
theorem heard_odd {p : Nat → Nat → Nat} {a b c : D} {j : J} (ha : kd (deref j a) = true) (hb : kd (deref j b) = true) (hc : kd (deref j c) = true) (hn : (isN (deref j a) && (isN (deref j b) && isN (deref j c))) = false) (hk : (isBk (deref j a) && (isBk (deref j b) && isBk (deref j c))) = false) :
    f_law_heard [ruD p, .lst [a, b, c]] j = .ok (.tup [.str "merge", .tup [a, b, c]]) j := by
  have h := call_odd (p := p) ha hb hc hn hk
  unfold f_law_heard b_law_heard
  simp [h, isIns, lk_0, cf8, bm8, fv]
end K19

set_option Elab.async false
set_option linter.all false
set_option maxRecDepth 100000
set_option maxHeartbeats 2000000
set_option autoImplicit false
namespace K19
open PySem PySem.Spec PyProof.Rows L2 On
theorem inR {i : Int} (h : isN (.int i) = true) : 0 ≤ i ∧ i ≤ 999 := by
  unfold isN at h
  simp at h
  exact h
theorem ofR {i : Int} (h0 : 0 ≤ i) (h1 : i ≤ 999) : isN (.int i) = true := by simp [isN, h0, h1]
theorem sm_comes {w : Nat} {e m b : Int} (he : isN (.int e) = true) (hm : isN (.int m) = true) (hb : isN (.int b) = true) : Sm 5000 5 (comesD w e m b) := by
  obtain ⟨e0, e1⟩ := inR he
  obtain ⟨m0, m1⟩ := inR hm
  obtain ⟨b0, b1⟩ := inR hb
  have big : (2000 : Nat) < 10 ^ 39 := by decide
  have si : ∀ {i : Int}, -2000 ≤ i → i ≤ 2000 → Sm 130 1 (.int i) := fun {i} h0 h1 => (Sm.int (Nat.lt_of_le_of_lt (show i.natAbs ≤ 2000 by omega) big)).mono (by omega) (by omega)
  have st : Sm 130 1 (.str "told") := (Sm.str (by decide +kernel)).mono (by decide) (by omega)
  have sc : Sm 600 2 (.str "conflict") := (Sm.str (by decide +kernel)).mono (by decide) (by omega)
  unfold comesD
  split
  · rename_i n hn
    have hn2 : -2000 ≤ n ∧ n ≤ 2000 := by
      unfold told at hn
      split at hn <;> first | (cases hn; done) | (cases hn; omega) | (cases hn; split <;> omega) | skip
    exact (Sm.tup (w := 130) (dp := 1) (ds := [.str "told", .int n]) fun d hd => by
      simp at hd
      rcases hd with rfl | rfl
      · exact st
      · exact si hn2.1 hn2.2).mono (by simp) (by omega)
  · have s3 : Sm 600 2 (.tup [.int e, .int m, .int b]) := (Sm.tup (w := 130) (dp := 1) (ds := [.int e, .int m, .int b]) fun d hd => by
      simp at hd
      rcases hd with rfl | rfl | rfl
      · exact si (by omega) (by omega)
      · exact si (by omega) (by omega)
      · exact si (by omega) (by omega)).mono (by simp) (by omega)
    exact (Sm.tup (w := 600) (dp := 2) (ds := [.str "conflict", .tup [.int e, .int m, .int b]]) fun d hd => by
      simp at hd
      rcases hd with rfl | rfl
      · exact sc
      · exact s3).mono (by simp) (by omega)
theorem near_wp {j : J} {n m : Nat} {e w : Int} {P : D → J → Prop} {X : Nat → List (Str × D) → J → Prop} (h : Jar j n (m + 2)) (he1 : 1 ≤ e) (he2 : e ≤ 998) (q : ∀ r j', isN (.int r) = true → Jar j' n m → Same n j j' → P (.int r) j') : (f_law_near [.loc n, .int e, .int w] j).wp P X := by
  unfold f_law_near b_law_near
  by_cases h1 : w = 1
  · simp [h1]
    exact q _ _ (ofR (by omega) (by omega)) (h.mono (by omega)) Same.refl
  · by_cases h0 : w = 0
    · simp [h0, e_take, e_of]
      refine take_wp (m := m + 1) h (by omega) (by omega) fun r j1 r0 r1 hj s1 => ?_
      try simp
      refine of_wp hj (by simp) (by simp) fun d j2 hd hj2 s2 => ?_
      simp at hd
      rcases hd with rfl | rfl | rfl
      · exact q _ _ (ofR (by omega) (by omega)) hj2 (s1.trans s2)
      · exact q _ _ (ofR (by omega) (by omega)) hj2 (s1.trans s2)
      · exact q _ _ (ofR (by omega) (by omega)) hj2 (s1.trans s2)
    · simp [h1, h0, e_take, e_of]
      refine take_wp (m := m + 1) h (by omega) (by omega) fun r j1 r0 r1 hj s1 => ?_
      try simp
      refine of_wp hj (by simp) (by simp) fun d j2 hd hj2 s2 => ?_
      simp at hd
      rcases hd with rfl | rfl | rfl
      · exact q _ _ (ofR (by omega) (by omega)) hj2 (s1.trans s2)
      · exact q _ _ (ofR (by omega) (by omega)) hj2 (s1.trans s2)
      · exact q _ _ (ofR (by omega) (by omega)) hj2 (s1.trans s2)
theorem six_mem {r : Int} (r0 : 0 ≤ r) (r1 : r < 1000) {d : D} (h : d ∈ [D.int 0, .int 1, .int 2, .int 998, .int 999, .int r]) : ∃ i : Int, d = .int i ∧ isN (.int i) = true := by
  simp at h
  rcases h with rfl | rfl | rfl | rfl | rfl | rfl
  · exact ⟨_, rfl, ofR (by omega) (by omega)⟩
  · exact ⟨_, rfl, ofR (by omega) (by omega)⟩
  · exact ⟨_, rfl, ofR (by omega) (by omega)⟩
  · exact ⟨_, rfl, ofR (by omega) (by omega)⟩
  · exact ⟨_, rfl, ofR (by omega) (by omega)⟩
  · exact ⟨_, rfl, ofR (by omega) (by omega)⟩
theorem numbers_wp {j : J} {n : Nat} {p : Nat → Nat → Nat} (hp : ∀ x y, p x y < 7) {P : D → J → Prop} {X : Nat → List (Str × D) → J → Prop} (h : Jar j n 1000) (q : ∀ j', Jar j' n 500 → j'.length = j.length → P (.bl true) j') : (f_law_numbers_right [.loc n, ruD p, pkD p] j).wp P X := by
  refine defw rfl ?_
  unfold b_law_numbers_right
  refine seqw fun K hK => ?_
  have r9 : rng1 [.int 9] = some (rangeD 0 9) := rfl
  have r6 : rng1 [.int 6] = some (rangeD 0 6) := rfl
  have r3 : rng1 [.int 3] = some (rangeD 0 3) := rfl
  simp [r9]
  refine loopD_wp (fun ds Γ j' => Jar j' n (940 + ds.length * 6) ∧ j'.length = j.length ∧ ds.length ≤ 9 ∧ (∀ d ∈ ds, ∃ i : Int, d = .int i) ∧ ∃ c3 c4 c5, Γ = [some (.val (.loc n)), some (.val (ruD p)), some (.val (pkD p)), c3, c4, c5, none, none, none]) ?_ ?_ ⟨h.mono (by simp [rangeD_length]), rfl, by simp [rangeD_length], ?_, _, _, _, rfl⟩
  · rintro d ds Γ j1 ⟨hj, hl, hb, hd, c3, c4, c5, rfl⟩
    obtain ⟨i, rfl⟩ := hd d List.mem_cons_self
    refine ⟨_, rfl, ?_⟩
    simp [e_take, e_of]
    simp at hj hb
    refine take_wp (m := 940 + ds.length * 6 + 5) (hj.mono (by omega)) (by decide) (by decide) fun r j2 r0 r1 hj s2 => ?_
    simp
    refine of_wp (m := 940 + ds.length * 6 + 4) hj (by simp) (by simp) fun d j3 hd3 hj s3 => ?_
    obtain ⟨e, rfl, e1, e2⟩ : ∃ e : Int, d = .int e ∧ 1 ≤ e ∧ e ≤ 998 := by
      simp at hd3
      rcases hd3 with rfl | rfl | rfl | rfl | rfl
      · exact ⟨_, rfl, by omega, by omega⟩
      · exact ⟨_, rfl, by omega, by omega⟩
      · exact ⟨_, rfl, by omega, by omega⟩
      · exact ⟨_, rfl, by omega, by omega⟩
      · exact ⟨_, rfl, by omega, by omega⟩
    simp [fDiv_p, fMod_p]
    refine near_wp (m := 940 + ds.length * 6 + 2) hj e1 e2 fun m j4 hm hj s4 => ?_
    refine near_wp (m := 940 + ds.length * 6) hj e1 e2 fun b j5 hb5 hj s5 => ?_
    have he : isN (.int e) = true := ofR (by omega) (by omega)
    obtain ⟨x, hx⟩ := (sm_comes (w := p (way e m) (way e b)) he hm hb5).repr (by omega) (by omega)
    have hx2 := o_repr hx
    have dr := (sm_comes (w := p (way e m) (way e b)) he hm hb5).nl
    simp [heard_num hp he hm hb5, comes_eq hp, dr, hx2]
    exact ⟨hj, by rw [s5.1, s4.1, s3.1, s2.1]; exact hl, by omega, fun d hd2 => hd d (List.mem_cons_of_mem _ hd2)⟩
  · rintro Γ j1 ⟨hj, hl, _, _, c3, c4, c5, rfl⟩
    refine hK _ _ ?_
    clear hK
    refine seqw fun K hK => ?_
    simp [r6]
    refine loopD_wp (fun ds Γ j' => Jar j' n (500 + ds.length * 6) ∧ j'.length = j.length ∧ ds.length ≤ 6 ∧ ∃ c3 c4 c5 c6 c8, Γ = [some (.val (.loc n)), some (.val (ruD p)), some (.val (pkD p)), c3, c4, c5, c6, none, c8]) ?_ ?_ ⟨hj.mono (by simp [rangeD_length]), hl, by simp [rangeD_length], _, _, _, _, _, rfl⟩
    · rintro d ds Γ j2 ⟨hj, hl, hb, c3, c4, c5, c6, c8, rfl⟩
      refine ⟨_, rfl, ?_⟩
      simp at hj hb
      have ds3 : rangeD 0 3 = [.int 0, .int 1, .int 2] := rfl
      simp [e_take, e_of, r3, ds3, wipeG]
      refine lst_T rfl ?_
      simp
      refine take_wp (m := 500 + ds.length * 6 + 5) (hj.mono (by omega)) (by decide) (by decide) fun r j3 r0 r1 hj s3 => ?_
      refine of_wp (m := 500 + ds.length * 6 + 4) hj (by simp) (by simp) fun d1 j4 hd1 hj s4 => ?_
      obtain ⟨e, rfl, he⟩ := six_mem r0 r1 hd1
      refine lst_T rfl ?_
      simp
      refine take_wp (m := 500 + ds.length * 6 + 3) hj (by decide) (by decide) fun r j5 r0 r1 hj s5 => ?_
      refine of_wp (m := 500 + ds.length * 6 + 2) hj (by simp) (by simp) fun d2 j6 hd2 hj s6 => ?_
      obtain ⟨m, rfl, hm⟩ := six_mem r0 r1 hd2
      refine lst_T rfl ?_
      simp
      refine take_wp (m := 500 + ds.length * 6 + 1) hj (by decide) (by decide) fun r j7 r0 r1 hj s7 => ?_
      refine of_wp (m := 500 + ds.length * 6) hj (by simp) (by simp) fun d3 j8 hd3 hj s8 => ?_
      obtain ⟨b, rfl, hb8⟩ := six_mem r0 r1 hd3
      refine lst_nil ?_
      have S := sm_comes (w := p (way e m) (way e b)) he hm hb8
      obtain ⟨x, hx⟩ := (Sm.lst (ds := [comesD (p (way e m) (way e b)) e m b, comesD (p (way e m) (way e b)) e m b]) fun d hd => by
        simp at hd
        rw [hd]
        exact S).repr (by simp) (by omega)
      have hx2 := o_repr hx
      simp [heard_num hp he hm hb8, comes_eq hp, hx2]
      exact ⟨hj, by rw [s8.1, s7.1, s6.1, s5.1, s4.1, s3.1]; exact hl, by omega⟩
    · rintro Γ j2 ⟨hj, hl, _, c3, c4, c5, c6, c8, rfl⟩
      refine hK _ _ ?_
      simp
      exact q _ (hj.mono (by simp)) hl
  · intro d hd
    unfold rangeD at hd
    simp at hd
    obtain ⟨i, _, rfl⟩ := hd
    exact ⟨_, rfl⟩
end K19

set_option Elab.async false
set_option linter.all false
set_option maxRecDepth 100000
set_option maxHeartbeats 2000000
set_option autoImplicit false
namespace K19
open PySem PySem.Spec PyProof.Rows L2 On
abbrev text0 : Str := "file a\ncode x"
def rows0 : List Ln := [⟨0, "file", "a"⟩, ⟨0, "code", "x"⟩]
theorem read0 : readS text0 = .ok rows0 := by kernel_rfl
def lay0 : List (Str × D) := layF text0 rows0
theorem lay_eq {j : J} : ∃ r, f_Layout_init [.str text0] j = .ok lay0 (j ++ r) :=
  ⟨_, by rw [Layout_eq (by decide) read0 (by decide), List.append_assoc]; rfl⟩
theorem cell0 {j : J} : f_is_cell [.ins 10 lay0, .str "a", .str "x"] j = .ok (.bl true) j := by kernel_rfl
theorem num1 {v : Int} {j : J} (h1 : 1 ≤ v) (h2 : v ≤ 3) : f_is_number [.int v, .int 1, .int 999] j = .ok (.bl true) j := by
  unfold f_is_number b_is_number
  have e1 : isiD (tyLk ty_int) (owLk 10 ow_int) (owLk 0 ox_int) (.int v) = some true := rfl
  have e2 : isiD (tyLk ty_bool) (owLk 10 ow_bool) (owLk 0 ox_bool) (.int v) = some false := rfl
  have h3 : v ≤ 999 := by omega
  simp [e1, e2, fLe, h1, h3]
theorem row0 {v : Int} {j : J} (h1 : 1 ≤ v) (h2 : v ≤ 3) : f_is_row [.ins 10 lay0, .tup [.str "a", .str "x", .int v]] j = .ok (.bl true) j := by
  unfold f_is_row b_is_row
  simp [isTup, cell0, num1 h1 h2]
theorem rising0 {j : J} : f_is_rising [.lst [.tup [.str "a", .str "x"]]] j = .ok (.bl true) j := by kernel_rfl
theorem rows_ok {v : Int} {j : J} (h1 : 1 ≤ v) (h2 : v ≤ 3) : f_are_rows [.ins 10 lay0, .tup [.tup [.str "a", .str "x", .int v]]] j = .ok (.bl true) j := by
  have l1 : ∀ (c2 c3 c4 c5 : Option Cell), lcMap (gN 2) tT (mF f_is_row (mCons (mVar 0) (mCons (mVar 2) mNil))) (wipeG [some (.val (.ins 10 lay0)), some (.val (.tup [.tup [.str "a", .str "x", .int v]])), c2, c3, c4, c5] [2]) [.tup [.str "a", .str "x", .int v]] j = .ok [.bl true] j := fun c2 c3 c4 c5 => by
    have := lcA (j := j) (g := gN 2) (me := mF f_is_row (mCons (mVar 0) (mCons (mVar 2) mNil))) (Γ := wipeG [some (.val (.ins 10 lay0)), some (.val (.tup [.tup [.str "a", .str "x", .int v]])), c2, c3, c4, c5] [2]) id (fun _ => .bl true) [.tup [.str "a", .str "x", .int v]] fun x hx => ⟨_, rfl, by
      simp at hx
      subst hx
      simp [wipeG, row0 h1 h2]⟩
    simpa using this
  have l2 : ∀ (c2 c3 c4 c5 : Option Cell), lcMap (gT 3 (gsCons (gN 3) (gsCons (gN 4) (gsCons (gN 5) gsNil)))) tT (mTup (mCons (mVar 3) (mCons (mVar 4) mNil))) (wipeG [some (.val (.ins 10 lay0)), some (.val (.tup [.tup [.str "a", .str "x", .int v]])), c2, c3, c4, c5] [3, 4, 5]) [.tup [.str "a", .str "x", .int v]] j = .ok [.tup [.str "a", .str "x"]] j := fun c2 c3 c4 c5 => by kernel_rfl
  have a1 : fAll [.lst [.bl true]] = some (.bl true) := rfl
  unfold f_are_rows b_are_rows
  simp [isTup, seqOf, l1, l2, a1, rising0]
def bk (v : Int) : List (Str × D) := [("layout", .ins 10 lay0), ("numbers", .tdc [(.tup [.str "a", .str "x"], .int v)])]
theorem nbc {v : Int} {j : J} : f_numbers_by_cell [.tup [.tup [.str "a", .str "x", .int v]]] j = .ok (.tdc [(.tup [.str "a", .str "x"], .int v)]) j := by kernel_rfl
theorem book_init {v : Int} {j : J} (h1 : 1 ≤ v) (h2 : v ≤ 3) : f_Book_init [.ins 10 lay0, .tup [.tup [.str "a", .str "x", .int v]]] j = .ok (bk v) j := by
  unfold f_Book_init b_Book_init
  simp [rows_ok h1 h2, conG, muG, putD, nbc, ofS_inj]
  rw [x_outI]; rfl
/-! ### three values -/
theorem boolL {a b c : Bool} : eqD (.lst [.bl a, .bl b, .bl c]) (.lst [.bl a, .bl b, .bl c]) = some true := by
  cases a <;> cases b <;> cases c <;> rfl
theorem lc_bool {j : J} {a b c : D} {c0 c1 c2 c3 c4 : Option Cell} (ha : kd (deref j a) = true) (hb : kd (deref j b) = true) (hc : kd (deref j c) = true) :
    lcMap (gN 4) tT (m1 (fun d => (isiD (tyLk ty_bool) (owLk 10 ow_bool) (owLk 0 ox_bool) d).map .bl) (mVar 4)) (wipeG [c0, c1, c2, c3, c4] [4]) [a, b, c] j = .ok [.bl (isBo (deref j a)), .bl (isBo (deref j b)), .bl (isBo (deref j c))] j := by
  have := lcA (j := j) (g := gN 4) (me := m1 (fun d => (isiD (tyLk ty_bool) (owLk 10 ow_bool) (owLk 0 ox_bool) d).map .bl) (mVar 4)) (Γ := wipeG [c0, c1, c2, c3, c4] [4]) id (fun d => .bl (isBo (deref j d))) [a, b, c] fun x hx => ⟨_, rfl, by
    have hx : kd (deref j x) = true := by
      simp at hx
      rcases hx with rfl | rfl | rfl <;> assumption
    simp [wipeG, isi_bool hx]⟩
  simpa using this
theorem merge_eq {j : J} {a b c : D} (ha : kd (deref j a) = true) (hb : kd (deref j b) = true) (hc : kd (deref j c) = true) (ea : eqI a a = some true) (eb : eqI b b = some true) (ec : eqI c c = some true) :
    f_law_is_merge [.tup [.str "merge", .tup [a, b, c]], .tup [a, b, c]] j = .ok (.bl true) j := by
  have e3 : eqT (.tup [a, b, c]) (.tup [a, b, c]) = some true := by
    show eqIA [a, b, c] [a, b, c] = _
    simp [eqIA, ea, eb, ec]
  unfold f_law_is_merge b_law_is_merge
  simp [isTup, e3, seqOf, lc_bool ha hb hc, boolL]
end K19

set_option Elab.async false
set_option linter.all false
set_option maxRecDepth 100000
set_option maxHeartbeats 2000000
set_option autoImplicit false
namespace K19
open PySem PySem.Spec PyProof.Rows L2 On
def U0 (nb : Nat) : List D := [.int 0, .int 1, .int 999, .loc nb, .non]
def S0 (nb nd : Nat) : List D := [.bl true, .bl false, .non, .int (-1), .int (-999), .int 1000, .int 100000000000000000, .str "1", .str "", .tup [], .lst [], .lst [.int 1], .loc nd, .tup [.int 0, .int 0, .int 0], .loc nb]
structure Bks (j : J) (nb nd : Nat) : Prop where
  b : ∃ v, j[nb]? = some (some (.ins 11 (bk v)))
  d : j[nd]? = some (some (.dct []))
theorem Bks.same {j j' : J} {n nb nd : Nat} (h : Bks j nb nd) (s : Same n j j') (h1 : nb ≠ n) (h2 : nd ≠ n) : Bks j' nb nd := by
  obtain ⟨v, hb⟩ := h.b
  exact ⟨⟨v, by rw [s.2 nb h1]; exact hb⟩, by rw [s.2 nd h2]; exact h.d⟩
theorem U0_ok {j : J} {nb nd : Nat} (h : Bks j nb nd) {d : D} (hd : d ∈ U0 nb) : kd (deref j d) = true ∧ eqI d d = some true := by
  obtain ⟨v, hb⟩ := h.b
  simp [U0] at hd
  rcases hd with rfl | rfl | rfl | rfl | rfl
  · exact ⟨rfl, rfl⟩
  · exact ⟨rfl, rfl⟩
  · exact ⟨rfl, rfl⟩
  · rw [de_loc hb]; exact ⟨rfl, by simp [eqI]⟩
  · exact ⟨rfl, rfl⟩
theorem S0_ok {j : J} {nb nd : Nat} (h : Bks j nb nd) {d : D} (hd : d ∈ S0 nb nd) : kd (deref j d) = true ∧ eqI d d = some true ∧ isN (deref j d) = false := by
  obtain ⟨v, hb⟩ := h.b
  simp [S0] at hd
  rcases hd with rfl | rfl | rfl | rfl | rfl | rfl | rfl | rfl | rfl | rfl | rfl | rfl | rfl | rfl | rfl
  · exact ⟨rfl, rfl, rfl⟩
  · exact ⟨rfl, rfl, rfl⟩
  · exact ⟨rfl, rfl, rfl⟩
  · exact ⟨rfl, by kernel_rfl, by simp [isN]⟩
  · exact ⟨rfl, by kernel_rfl, by simp [isN]⟩
  · exact ⟨rfl, by kernel_rfl, by simp [isN]⟩
  · exact ⟨rfl, by kernel_rfl, by simp [isN]⟩
  · exact ⟨rfl, by simp [eqI], rfl⟩
  · exact ⟨rfl, by simp [eqI], rfl⟩
  · exact ⟨rfl, by kernel_rfl, rfl⟩
  · exact ⟨rfl, by kernel_rfl, rfl⟩
  · exact ⟨rfl, by kernel_rfl, rfl⟩
  · rw [de_loc h.d]; exact ⟨rfl, by simp [eqI], rfl⟩
  · exact ⟨rfl, by kernel_rfl, rfl⟩
  · rw [de_loc hb]; exact ⟨rfl, by simp [eqI], rfl⟩
theorem odd_wp {j : J} {n : Nat} {p : Nat → Nat → Nat} {P : D → J → Prop} {X : Nat → List (Str × D) → J → Prop} (h : Jar j n 500) (q : ∀ j', P (.bl true) j') : (f_law_odd_right [.loc n, ruD p] j).wp P X := by
  obtain ⟨r, hr⟩ := lay_eq (j := j)
  refine defw rfl ?_
  unfold b_law_odd_right
  refine seqw fun K hK => ?_
  simp [hr, e_take]
  refine take_wp (m := 400) (h.app.mono (by omega)) (by decide) (by decide) fun v j1 v0 v1 hj s1 => ?_
  simp [book_init (v := 1 + v) (j := j1) (by omega) (by omega)]
  refine hK _ _ ?_
  clear hK
  refine seqw fun K hK => ?_
  have hpw : fPow (.int 10) (.int 17) = some (.int 100000000000000000) := by rw [fPow_p (by decide)]; rfl
  simp [hpw]
  refine hK _ _ ?_
  clear hK
  refine seqw fun K hK => ?_
  have r12 : rng1 [.int 12] = some (rangeD 0 12) := rfl
  have r3 : rng1 [.int 3] = some [.int 0, .int 1, .int 2] := rfl
  simp [r12]
  have hnl : n < j1.length := by
    obtain ⟨a, b, c, h1, _⟩ := hj
    exact (List.getElem?_eq_some_iff.mp h1).1
  have hB : Bks (j1 ++ [some (.ins 11 (bk (1 + v))), some (.dct [])]) j1.length (j1.length + 1) := ⟨⟨1 + v, by simp⟩, by simp⟩
  have hJ : Jar (j1 ++ [some (.ins 11 (bk (1 + v))), some (.dct [])]) n 400 := hj.app
  generalize j1 ++ [some (D.ins 11 (bk (1 + v))), some (D.dct [])] = j2 at hB hJ ⊢
  have nb : j1.length ≠ n := by omega
  have nd : j1.length + 1 ≠ n := by omega
  generalize hnb : j1.length = nb' at hB nb nd ⊢
  generalize hnd : nb' + 1 = nd' at hB nd ⊢
  have lb : ∀ {j : J} {a b c : D} {c0 c1 c2 c3 c4 c5 : Option Cell}, kd (deref j a) = true → kd (deref j b) = true → kd (deref j c) = true → lcMap (gN 6) tT (m1 (fun d => (isiD (tyLk ty_Book) (owLk 10 ow_Book) (owLk 0 ox_Book) d).map .bl) (mVar 6)) [c0, c1, c2, c3, c4, c5, none] [a, b, c] j = .ok [.bl (isBk (deref j a)), .bl (isBk (deref j b)), .bl (isBk (deref j c))] j := by
    intro j a b c c0 c1 c2 c3 c4 c5 ha hb hc
    have := lcA (j := j) (g := gN 6) (me := m1 (fun d => (isiD (tyLk ty_Book) (owLk 10 ow_Book) (owLk 0 ox_Book) d).map .bl) (mVar 6)) (Γ := [c0, c1, c2, c3, c4, c5, none]) id (fun d => .bl (isBk (deref j d))) [a, b, c] fun x hx => ⟨_, rfl, by
      have hx : kd (deref j x) = true := by
        simp at hx
        rcases hx with rfl | rfl | rfl <;> assumption
      simp [isi_book hx]⟩
    simpa using this
  refine loopD_wp (fun ds Γ j' => Jar j' n (100 + ds.length * 5) ∧ Bks j' nb' nd' ∧ ds.length ≤ 12 ∧ ∃ c4 c5, Γ = [some (.val (.loc n)), some (.val (ruD p)), some (.val (.loc nb')), some (.val (.lst (S0 nb' nd'))), c4, c5, none]) ?_ ?_ ⟨hJ.mono (by simp [rangeD_length]), hB, by simp [rangeD_length], _, _, rfl⟩
  · rintro d ds Γ j3 ⟨hj, hB, hb, c4, c5, rfl⟩
    refine ⟨_, rfl, ?_⟩
    simp at hj hb
    rw [x_seq, wpS_seq]
    simp only [x_ownN, x_lc, x_iR, x_mCons, x_C, x_mNil, b_ok, r3, l_some]
    simp [e_of, wipeG]
    refine lst_T rfl ?_
    simp
    refine of_wp (ds := U0 nb') (m := 100 + ds.length * 5 + 4) (hj.mono (by omega)) (by simp [U0]) (by simp [U0]) fun a j4 ha hj s4 => ?_
    refine lst_T rfl ?_
    simp
    refine of_wp (ds := U0 nb') (m := 100 + ds.length * 5 + 3) hj (by simp [U0]) (by simp [U0]) fun b j5 hb5 hj s5 => ?_
    refine lst_T rfl ?_
    simp
    refine of_wp (ds := U0 nb') (m := 100 + ds.length * 5 + 2) hj (by simp [U0]) (by simp [U0]) fun c j6 hc hj s6 => ?_
    refine lst_nil ?_
    simp [e_of, e_take]
    refine of_wp (ds := S0 nb' nd') (m := 100 + ds.length * 5 + 1) hj (by simp [S0]) (by simp [S0]) fun o j7 ho hj s7 => ?_
    simp [conG]
    refine take_wp (m := 100 + ds.length * 5) hj (by decide) (by decide) fun k j8 k0 k1 hj s8 => ?_
    have hB8 : Bks j8 nb' nd' := ((((hB.same s4 nb nd).same s5 nb nd).same s6 nb nd).same s7 nb nd).same s8 nb nd
    have oa := U0_ok hB8 ha
    have ob := U0_ok hB8 hb5
    have oc := U0_ok hB8 hc
    have oo := S0_ok hB8 ho
    obtain ⟨w, hw, x, y, z, hset, hx, hy, hz, hn⟩ : ∃ w, ixN 3 k = some w ∧ ∃ x y z, [a, b, c].set w o = [x, y, z] ∧ (kd (deref j8 x) = true ∧ eqI x x = some true) ∧ (kd (deref j8 y) = true ∧ eqI y y = some true) ∧ (kd (deref j8 z) = true ∧ eqI z z = some true) ∧ (isN (deref j8 x) && (isN (deref j8 y) && isN (deref j8 z))) = false := by
      rcases (show k = 0 ∨ k = 1 ∨ k = 2 by omega) with rfl | rfl | rfl
      · exact ⟨0, rfl, o, b, c, rfl, ⟨oo.1, oo.2.1⟩, ob, oc, by rw [oo.2.2]; rfl⟩
      · exact ⟨1, rfl, a, o, c, rfl, oa, ⟨oo.1, oo.2.1⟩, oc, by rw [oo.2.2]; simp⟩
      · exact ⟨2, rfl, a, b, o, rfl, oa, ob, ⟨oo.1, oo.2.1⟩, by rw [oo.2.2]; simp⟩
    simp [hw, hset, muG, frzG, seqOf, lb hx.1 hy.1 hz.1, all3]
    cases hk : (isBk (deref j8 x) && (isBk (deref j8 y) && isBk (deref j8 z))) with
    | true =>
      simp only [Bool.and_eq_true] at hk
      simp [hk]
      exact ⟨hj, hB8, by omega⟩
    | false =>
      have hk2 : ¬ (isBk (deref j8 x) = true ∧ isBk (deref j8 y) = true ∧ isBk (deref j8 z) = true) := fun e => by simp [e] at hk
      simp [hk2, heard_odd hx.1 hy.1 hz.1 hn hk, merge_eq hx.1 hy.1 hz.1 hx.2 hy.2 hz.2]
      exact ⟨hj, hB8, by omega⟩
  · rintro Γ j3 ⟨hj, hB, _, c4, c5, rfl⟩
    refine hK _ _ ?_
    simp
    exact q _
end K19

set_option Elab.async false
set_option linter.all false
set_option maxRecDepth 100000
set_option maxHeartbeats 2000000
set_option autoImplicit false
namespace K19
open PySem PySem.Spec PyProof.Rows L2 On
def okS (x : Str) : Bool := PyData.canLay0 (.str x)
theorem W7_ok {d : D} (h : d ∈ W7) : ∃ x, d = .str x ∧ okS x = true := by
  obtain ⟨v, hv, rfl⟩ := W7_mem h
  exact ⟨_, rfl, seven (P := fun v => okS (ws v) = true) hv (by kernel_rfl) (by kernel_rfl) (by kernel_rfl) (by kernel_rfl) (by kernel_rfl) (by kernel_rfl) (by kernel_rfl)⟩
theorem Pk.py {d : D} (h : Pk d) : ∃ p, d.py = some p ∧ p.canLay0 = true ∧ p.depth = 2 := by
  obtain ⟨a, b, c, e, f, g, h', i, k, rfl, ha, hb, hc, he, hf, hg, hh, hi, hk⟩ := h.cells
  obtain ⟨x0, rfl, o0⟩ := W7_ok ha
  obtain ⟨x1, rfl, o1⟩ := W7_ok hb
  obtain ⟨x2, rfl, o2⟩ := W7_ok hc
  obtain ⟨x3, rfl, o3⟩ := W7_ok he
  obtain ⟨x4, rfl, o4⟩ := W7_ok hf
  obtain ⟨x5, rfl, o5⟩ := W7_ok hg
  obtain ⟨x6, rfl, o6⟩ := W7_ok hh
  obtain ⟨x7, rfl, o7⟩ := W7_ok hi
  obtain ⟨x8, rfl, o8⟩ := W7_ok hk
  refine ⟨.tuple [.tuple [.str x0, .str x1, .str x2], .tuple [.str x3, .str x4, .str x5], .tuple [.str x6, .str x7, .str x8]], rfl, ?_, by kernel_rfl⟩
  show ((okS x0 && (okS x1 && (okS x2 && true))) && ((okS x3 && (okS x4 && (okS x5 && true))) && ((okS x6 && (okS x7 && (okS x8 && true))) && true))) = true
  rw [o0, o1, o2, o3, o4, o5, o6, o7, o8]
  rfl
theorem Pk.de {d : D} (h : Pk d) (j : J) : deref j d = d := by obtain ⟨p, _, rfl⟩ := h; rfl
theorem Pk.eq {d : D} (h : Pk d) : eqD d d = some true := by
  obtain ⟨p, h1, h2, h3⟩ := h.py
  exact eqD_refl h1 (by unfold SeqAt.shaped; rw [h2, h3]; rfl)
theorem right_wp {j : J} {n : Nat} {P : D → J → Prop} {X : Nat → List (Str × D) → J → Prop} (h : Jar j n 2000) (q : ∀ j', P (.bl true) j') : (f_law_right [.loc n] j).wp P X := by
  refine defw rfl ?_
  unfold b_law_right
  simp
  refine picks_wp (m := 1000) (h.mono (by omega)) fun d j0 p0 hj0 => ?_
  obtain ⟨p, hp, rfl⟩ := id p0
  simp [rule_init p0]
  refine numbers_wp hp hj0 fun j1 hj1 _ => ?_
  simp
  refine odd_wp hj1 fun j2 => ?_
  have fp : fldD "picks" [12] [] (.ins 12 [("picks", pkD p)]) = some (pkD p) := fld_picks
  simp [fp, p0.eq, p0.de]
  exact q _
theorem bls_true : ∀ {es : List D}, (∀ e ∈ es, e = .bl true) → blsOf es = some (es.map fun _ => true)
  | [], _ => rfl
  | e :: es, h => by
    rw [h e List.mem_cons_self]
    have := bls_true fun e he => h e (List.mem_cons_of_mem _ he)
    simp [blsOf, this]
theorem law_true (ns : List Int) (hl : ns.length ≤ 63) : ∃ j, f_law [.frz (ns.map .int)] [] = .ok (.bl true) j := by
  have w : (f_law [.frz (ns.map .int)] []).wp (fun d _ => d = .bl true) X0 := by
    refine defw rfl ?_
    show (b_law [some (.val (.frz (ns.map .int))), none] []).wp _
    unfold b_law
    simp [e_jar]
    rw [rng1_p (by split <;> split <;> omega) (by split <;> split <;> omega)]
    dsimp only
    refine ⟨by rw [rangeD_length]; split <;> split <;> omega, ?_⟩
    refine lcMap_wp (fun ds acc j => (∀ d ∈ ds, ∃ k : Int, d = .int k ∧ 0 ≤ k ∧ k < 1000) ∧ ∀ e ∈ acc, e = .bl true) ?_ (acc := []) ⟨?_, by simp⟩ ?_
    · rintro d ds acc j ⟨hd, ha⟩
      obtain ⟨k, rfl, k0, k1⟩ := hd d List.mem_cons_self
      refine ⟨_, rfl, ?_⟩
      simp [wipeG]
      refine jar_wp k0 k1 fun jd hj => ?_
      refine right_wp (hj.mono (by decide)) fun j' => ?_
      refine ⟨fun d hx => hd d (List.mem_cons_of_mem _ hx), fun e he => ?_⟩
      rcases he with z | z
      · exact ha e z
      · exact z
    · intro d hd
      unfold rangeD at hd
      obtain ⟨i, hi, rfl⟩ := List.mem_map.mp hd
      rw [List.mem_range] at hi
      refine ⟨_, rfl, by omega, ?_⟩
      have : (i : Int) < 40 := by
        revert hi
        split <;> split <;> omega
      omega
    · rintro es j ⟨_, ha⟩
      have : fAll [.lst es] = some (.bl true) := by
        have ha : ∀ e ∈ es, e = .bl true := ha
        have hb := bls_true ha
        show (blsOf es).map (fun bs => D.bl (bs.all id)) = _
        rw [hb]
        simp
      simp [this]
  obtain ⟨a, j, e, rfl⟩ := R.wp_ok w
  exact ⟨j, e⟩
end K19

set_option Elab.async false
set_option linter.all false
set_option maxRecDepth 100000
set_option maxHeartbeats 0
set_option autoImplicit false
namespace K19
open PySem PySem.Spec PyProof.Rows L2 On
theorem fin {w : World} {K : PySem.W.Frag} {h : Heap} {mg : Str → Option Value} {f : Addr} (X : K.In h) (G : h.Ns mainGlobals mg) (c : SaysG (BkOf fa ex) fn sf K) (t : TabsG tf h K) (hfa : mg ("law" : Str) = some (.ref f)) :
    ∃ (C : Cb) (fd : FuncData) (cs : List (Addr × Addr)), C.K.In h ∧ (∀ p ∈ cs, h.get? p.2 = some { cls := .none, data := .fields #[] }) ∧ (∀ p ∈ cs, C.K.lookup p.2 = none) ∧ (∀ p ∈ cs, PySem.W.CodeHd h p.1 p.2) ∧ (∀ p ∈ C.tb, ∃ q ∈ cs, q.2 = p.1) ∧
      (∀ (s : Shared) (u : Value), BindsTo s fd ⟨[u], []⟩ [("_law_script", u)]) ∧ ∀ base : Heap, C.K.In base → base.Ns mainGlobals mg → (∀ p ∈ cs, LamX.TabB base mg p.1 p.2) → FnG PR w C.K mg base (L2.CX PR w) 9 f fd ["_law_script"] (spL C) := by
  obtain ⟨fd, F⟩ := c.def_ 34 (d := dd "law" 81)
  have e := hfa.symm.trans (He.glo_ok X G (List.all_eq_true.mp (He.ba c.facts).1 (.glo "law") (List.mem_of_getElem? (i := 70) rfl)))
  cases e
  have b := FunD.bindsA (ps := ["_law_script"]) F fun _ _ _ _ _ _ us hl => match us, hl with | [_], _ => rfl
  refine ⟨cb K, fd, tf.map (He.cT K), X, fun p hp => ?_, fun p hp => ?_, fun p hp => ?_, fun p hp => ?_, fun s v => b s [v] rfl, fun base _ _ tb => law_of law_true (h_law ⟨⟨h, X, G⟩, c, fun p hp => tb _ (List.mem_map.mpr ⟨p, hp, rfl⟩)⟩ F)⟩
  · obtain ⟨r, hr, rfl⟩ := List.mem_map.mp hp
    exact t.empty r hr
  · obtain ⟨r, hr, rfl⟩ := List.mem_map.mp hp
    exact t.out r hr
  · obtain ⟨r, hr, rfl⟩ := List.mem_map.mp hp
    exact PySem.W.codeHd_of_K X (t.hd r hr)
  · exact (List.not_mem_nil (show p ∈ ([] : List (Addr × Str)) from hp)).elim
end K19

open PySem PySem.W PySem.Calls PyProof.Rows
set_option maxRecDepth 100000 in
set_option maxHeartbeats 0 in
theorem PySem.Challenge.cw_onlyfall_k19_rules_merge_numbers_holds : PySem.Challenge.rw_onlyfall_k19_rules_merge_numbers.Holds := by
  w_on; o_law
  refine HandSHeadRun.head_any (r := OpenLaw.row PySem.Challenge.rw_onlyfall_k19_rules_merge_numbers) (q := view (OpenLaw.row PySem.Challenge.rw_onlyfall_k19_rules_merge_numbers).prog [81]) (H := K19.hk) (ob := K19.ob) (M := 8000) (loose := K19.loose) (d := HandSHeadRun.topDef (OpenLaw.row PySem.Challenge.rw_onlyfall_k19_rules_merge_numbers).prog 81) (kwd := []) K19.ob_eq
    (by kernel_rfl) (fun s => by kernel_rfl) K19.run (by kernel_rfl) (by kernel_rfl) (by kernel_rfl) (by rfl) (by first | assumption | decide +kernel) (by decide +kernel) ⟨rfl, rfl, rfl, rfl, rfl, by decide +kernel⟩ ?hw ?hc
  case hw => w_witness2
  case hc =>
    refine On.walkG (l := PySem.Challenge.rw_onlyfall_k19_rules_merge_numbers) (k := 9) (x := "_law_script") rfl (by kernel_rfl) ⟨rfl, by decide, by decide⟩ ?F
    intro w mg fa h Y G hmg0
    obtain ⟨K, KX, c, tt⟩ := Y
    have hmg : mg ("law" : PySem.Str) = some (.ref fa) := by
      have e : (HandSHeadRun.topDef (OpenLaw.row PySem.Challenge.rw_onlyfall_k19_rules_merge_numbers).prog 81).name = ("law" : PySem.Str) := by kernel_rfl
      rw [← e]
      exact hmg0
    exact K19.fin KX G c tt hmg
