import PyProof.Rows.All
import Wide.All
import OpenK.AllK
import Wide.FinOn
import HandS.ForMost
import HandS.ForExc
import HandS.Flow
import HandS.Wide
import HandS.IsInst
import HandS.ExcInit
import HandS.CallSlots
import HandS.Defaults
import HandS.TupAny
import HandS.TupMul
import HandS.ExcIs
import HandS.ExcField
import HandS.ExcSuper
import KE.KExcSuper
import HandS.ExcValue
import PyProof.ReprRoads
import HandS.HeadEnd
import PyProof.ReprLen
import KE.DataFind
import HandS.HeadHook1
import HandS.HeadHook2
import HandS.Head0
import HandS.Head1
import HandS.Head2
import KE.KStateDown
import PySem.Challenge.RW_onlyfall_k67_errors_keep_their_values
set_option Elab.async false
set_option linter.all false
set_option maxRecDepth 100000
set_option maxHeartbeats 2000000
set_option autoImplicit false
namespace On
open PySem PySem.Spec PyProof.Rows L2

/-! ### plain data -/
/-- data: values that are never changed; loc n: the n-th thing of the store, which may be changed; fn k e: the k-th def or lambda over e -/
inductive D where
  | non | bl (b : Bool) | int (i : Int) | str (x : Str)
  | lst (xs : List D) | tup (xs : List D) | dct (kvs : List (D × D)) | frz (xs : List D)
  | ins (c : Nat) (fs : List (Str × D)) | exn (c : Nat) (fs : List (Str × D))
  | loc (n : Nat) | cls (c : Nat) | fn (k : Nat) (env : List D)
  deriving Inhabited
/-- the store: none: what is dead -/
abbrev J := List (Option D)
/-- what a slot holds: a value; a thing of one's own by its content -/
inductive Cell where
  | val (d : D) | own (d : D)
abbrev Gm := List (Option Cell)
inductive R (α : Type) where
  | ok (a : α) (j : J) | exc (c : Nat) (fs : List (Str × D)) (j : J) | bad
/-- what a thing of the store has now -/
def deref (j : J) (d : D) : D := match d with
  | .loc n => (match j[n]? with
    | some (some c) => c
    | _ => .loc n)
  | d => d

/-- the written part, where the classes stand -/
structure Cb where
  K : PySem.W.Frag
  cm : Nat → Addr
def Pres (B : Addr → Prop) (H H' : Hp) : Prop := ∀ a o, ¬ B a → H a = some o → H' a = some o
theorem Pres.refl {B : Addr → Prop} {H : Hp} : Pres B H H := fun _ _ _ h => h
theorem Pres.trans {B : Addr → Prop} {H H1 H2 : Hp} (p : Pres B H H1) (q : Pres B H1 H2) : Pres B H H2 := fun a o n h => q a o n (p a o n h)
theorem Pres.at {B : Addr → Prop} {H : Hp} {p : Addr} {o : HO} (h : B p) : Pres B H (upd H p o) := fun a u n e => by
  rw [upd_ne (fun z => n (by rw [z]; exact h))]
  exact e
theorem Pres.new {B : Addr → Prop} {H : Hp} {p : Addr} {o : HO} (h : H p = none) : Pres B H (L2.upd H p o) := fun a u n e => by
  rw [upd_ne (ne_of_none e h)]
  exact e
theorem Pres.rd {B : Addr → Prop} {H H' : Hp} (p : Pres B H H') {a : Addr} {u : HO} (n : ¬ B a) (h : Rd H a u) : Rd H' a u := by
  rcases h with h | ⟨o, h⟩
  · exact .inl (p _ _ n h)
  · exact .inr ⟨o, p _ _ n h⟩
def Pfx (ρ ρ' : List Addr) : Prop := ∀ (n : Nat) a, ρ[n]? = some a → ρ'[n]? = some a
theorem Pfx.refl {ρ : List Addr} : Pfx ρ ρ := fun _ _ h => h
theorem Pfx.trans {ρ ρ1 ρ2 : List Addr} (p : Pfx ρ ρ1) (q : Pfx ρ1 ρ2) : Pfx ρ ρ2 := fun n a h => q n a (p n a h)
theorem Pfx.mem {ρ ρ' : List Addr} (p : Pfx ρ ρ') {a : Addr} (h : a ∈ ρ) : a ∈ ρ' := by
  obtain ⟨n, hn⟩ := List.mem_iff_getElem?.mp h
  exact List.mem_iff_getElem?.mpr ⟨n, p n a hn⟩
theorem Pfx.app {ρ r : List Addr} : Pfx ρ (ρ ++ r) := fun n a h => by
  have := (List.getElem?_eq_some_iff.mp h).1
  rw [List.getElem?_append_left this]
  exact h
/-- a heap that tracks nothing: what is read there is written by the module -/
abbrev Hn : Hp := fun _ => none
theorem sqLn {K : PySem.W.Frag} {H : Hp} {a : Addr} {xs : List V} (h : SqL K Hn a xs) : SqL K H a xs := by
  rcases h with (h | ⟨o, h⟩) | h
  · cases h
  · cases h
  · exact .inr h
theorem sqTn {K : PySem.W.Frag} {H : Hp} {a : Addr} {xs : List V} (h : SqT K Hn a xs) : SqT K H a xs := by
  rcases h with (h | ⟨o, h⟩) | h
  · cases h
  · cases h
  · exact .inr h

/-! ### what a value stands for -/
def keyD : Key → D
  | .inl i => .int i
  | .inr x => .str x
section
variable (C : Cb) (ρ : List Addr) (H : Hp) (B : Addr → Prop)
mutual
inductive Den : V → D → Prop
  | non : Den .non .non
  | bl (b : Bool) : Den (.bl b) (.bl b)
  | int (i : Int) : Den (.int i) (.int i)
  | str (x : Str) : Den (.str x) (.str x)
  | lst {a : Addr} {xs : List V} {ds : List D} : H a = some (.lst xs) → ¬ B a → DenA xs ds → Den (.ref a) (.lst ds)
  | frz {a : Addr} {xs : List V} {ds : List D} : Rd H a (.lst xs) → ¬ B a → DenA xs ds → Den (.ref a) (.frz ds)
  | frzK {a : Addr} {xs : List V} {ds : List D} : SqL C.K Hn a xs → DenA xs ds → Den (.ref a) (.frz ds)
  | tup {a : Addr} {xs : List V} {ds : List D} : Rd H a (.tup xs) → ¬ B a → DenA xs ds → Den (.ref a) (.tup ds)
  | tupK {a : Addr} {xs : List V} {ds : List D} : SqT C.K Hn a xs → DenA xs ds → Den (.ref a) (.tup ds)
  | dK {a : Addr} {kvs : List (Key × V)} {es : List (D × D)} : H a = some (.dK kvs) → ¬ B a → DenK kvs es → Den (.ref a) (.dct es)
  | dT {a : Addr} {kvs : List (List Key × V)} {es : List (D × D)} : H a = some (.dT kvs) → ¬ B a → DenT kvs es → Den (.ref a) (.dct es)
  | ins {a dx : Addr} {c : Nat} {fs : List (Str × V)} {gs : List (Str × D)} : H a = some (.ins (C.cm c) dx fs) → ¬ B a → DenF fs gs → Den (.ref a) (.ins c gs)
  | exn {a dx : Addr} {c : Nat} {fs : List (Str × V)} {gs : List (Str × D)} : H a = some (exo a (C.cm c) (some dx)) → ¬ B a → H dx = some (.xd fs) → ¬ B dx → DenF fs gs → Den (.ref a) (.exn c gs)
  | loc {a : Addr} {n : Nat} : ρ[n]? = some a → Den (.ref a) (.loc n)
  | cls (c : Nat) : Den (.ref (C.cm c)) (.cls c)
inductive DenA : List V → List D → Prop
  | nil : DenA [] []
  | cons {v : V} {d : D} {vs : List V} {ds : List D} : Den v d → DenA vs ds → DenA (v :: vs) (d :: ds)
inductive DenK : List (Key × V) → List (D × D) → Prop
  | nil : DenK [] []
  | cons {k : Key} {v : V} {d : D} {vs : List (Key × V)} {ds : List (D × D)} : Den v d → DenK vs ds → DenK ((k, v) :: vs) ((keyD k, d) :: ds)
inductive DenT : List (List Key × V) → List (D × D) → Prop
  | nil : DenT [] []
  | cons {k : List Key} {v : V} {d : D} {vs : List (List Key × V)} {ds : List (D × D)} : Den v d → DenT vs ds → DenT ((k, v) :: vs) ((.tup (k.map keyD), d) :: ds)
inductive DenF : List (Str × V) → List (Str × D) → Prop
  | nil : DenF [] []
  | cons {f : Str} {v : V} {d : D} {vs : List (Str × V)} {ds : List (Str × D)} : Den v d → DenF vs ds → DenF ((f, v) :: vs) ((f, d) :: ds)
end
end
section
variable {C : Cb} {ρ ρ' : List Addr} {H H' : Hp} {B B' : Addr → Prop}
mutual
theorem Den.mono (p : Pres B H H') (x : Pfx ρ ρ') : ∀ {v : V} {d : D}, Den C ρ H B v d → Den C ρ' H' B v d
  | _, _, .non => .non
  | _, _, .bl b => .bl b
  | _, _, .int i => .int i
  | _, _, .str x => .str x
  | _, _, .lst h n r => .lst (p _ _ n h) n (DenA.mono p x r)
  | _, _, .frz h n r => .frz (p.rd n h) n (DenA.mono p x r)
  | _, _, .frzK h r => .frzK h (DenA.mono p x r)
  | _, _, .tup h n r => .tup (p.rd n h) n (DenA.mono p x r)
  | _, _, .tupK h r => .tupK h (DenA.mono p x r)
  | _, _, .dK h n r => .dK (p _ _ n h) n (DenK.mono p x r)
  | _, _, .dT h n r => .dT (p _ _ n h) n (DenT.mono p x r)
  | _, _, .ins h n r => .ins (p _ _ n h) n (DenF.mono p x r)
  | _, _, .exn h n h2 n2 r => .exn (p _ _ n h) n (p _ _ n2 h2) n2 (DenF.mono p x r)
  | _, _, .loc h => .loc (x _ _ h)
  | _, _, .cls c => .cls c
theorem DenA.mono (p : Pres B H H') (x : Pfx ρ ρ') : ∀ {v : List V} {d : List D}, DenA C ρ H B v d → DenA C ρ' H' B v d
  | _, _, .nil => .nil
  | _, _, .cons h r => .cons (Den.mono p x h) (DenA.mono p x r)
theorem DenK.mono (p : Pres B H H') (x : Pfx ρ ρ') : ∀ {v : List (Key × V)} {d : List (D × D)}, DenK C ρ H B v d → DenK C ρ' H' B v d
  | _, _, .nil => .nil
  | _, _, .cons h r => .cons (Den.mono p x h) (DenK.mono p x r)
theorem DenT.mono (p : Pres B H H') (x : Pfx ρ ρ') : ∀ {v : List (List Key × V)} {d : List (D × D)}, DenT C ρ H B v d → DenT C ρ' H' B v d
  | _, _, .nil => .nil
  | _, _, .cons h r => .cons (Den.mono p x h) (DenT.mono p x r)
theorem DenF.mono (p : Pres B H H') (x : Pfx ρ ρ') : ∀ {v : List (Str × V)} {d : List (Str × D)}, DenF C ρ H B v d → DenF C ρ' H' B v d
  | _, _, .nil => .nil
  | _, _, .cons h r => .cons (Den.mono p x h) (DenF.mono p x r)
end
/-! fewer things to avoid, or new ones -/
theorem less1 (p : ∀ a, B' a → B a ∨ H a = none) {a : Addr} {u : HO} (h : Rd H a u) (n : ¬ B a) : ¬ B' a := fun z => by
  rcases p a z with q | q
  · exact n q
  · rcases h with h | ⟨o, h⟩
    · rw [q] at h; cases h
    · rw [q] at h; cases h
mutual
theorem Den.less (p : ∀ a, B' a → B a ∨ H a = none) : ∀ {v : V} {d : D}, Den C ρ H B v d → Den C ρ H B' v d
  | _, _, .non => .non
  | _, _, .bl b => .bl b
  | _, _, .int i => .int i
  | _, _, .str x => .str x
  | _, _, .lst h n r => .lst h (less1 p (.inl h) n) (DenA.less p r)
  | _, _, .frz h n r => .frz h (less1 p h n) (DenA.less p r)
  | _, _, .frzK h r => .frzK h (DenA.less p r)
  | _, _, .tup h n r => .tup h (less1 p h n) (DenA.less p r)
  | _, _, .tupK h r => .tupK h (DenA.less p r)
  | _, _, .dK h n r => .dK h (less1 p (.inl h) n) (DenK.less p r)
  | _, _, .dT h n r => .dT h (less1 p (.inl h) n) (DenT.less p r)
  | _, _, .ins h n r => .ins h (less1 p (.inl h) n) (DenF.less p r)
  | _, _, .exn h n h2 n2 r => .exn h (less1 p (.inl h) n) h2 (less1 p (.inl h2) n2) (DenF.less p r)
  | _, _, .loc h => .loc h
  | _, _, .cls c => .cls c
theorem DenA.less (p : ∀ a, B' a → B a ∨ H a = none) : ∀ {v : List V} {d : List D}, DenA C ρ H B v d → DenA C ρ H B' v d
  | _, _, .nil => .nil
  | _, _, .cons h r => .cons (Den.less p h) (DenA.less p r)
theorem DenK.less (p : ∀ a, B' a → B a ∨ H a = none) : ∀ {v : List (Key × V)} {d : List (D × D)}, DenK C ρ H B v d → DenK C ρ H B' v d
  | _, _, .nil => .nil
  | _, _, .cons h r => .cons (Den.less p h) (DenK.less p r)
theorem DenT.less (p : ∀ a, B' a → B a ∨ H a = none) : ∀ {v : List (List Key × V)} {d : List (D × D)}, DenT C ρ H B v d → DenT C ρ H B' v d
  | _, _, .nil => .nil
  | _, _, .cons h r => .cons (Den.less p h) (DenT.less p r)
theorem DenF.less (p : ∀ a, B' a → B a ∨ H a = none) : ∀ {v : List (Str × V)} {d : List (Str × D)}, DenF C ρ H B v d → DenF C ρ H B' v d
  | _, _, .nil => .nil
  | _, _, .cons h r => .cons (Den.less p h) (DenF.less p r)
end
theorem DenA.map (f : ∀ v d, Den C ρ H B v d → Den C ρ' H' B' v d) : ∀ {vs : List V} {ds : List D}, DenA C ρ H B vs ds → DenA C ρ' H' B' vs ds
  | _, _, .nil => .nil
  | _, _, .cons h r => .cons (f _ _ h) (DenA.map f r)
theorem DenK.map (f : ∀ v d, Den C ρ H B v d → Den C ρ' H' B' v d) : ∀ {vs : List (Key × V)} {ds : List (D × D)}, DenK C ρ H B vs ds → DenK C ρ' H' B' vs ds
  | _, _, .nil => .nil
  | _, _, .cons h r => .cons (f _ _ h) (DenK.map f r)
theorem DenT.map (f : ∀ v d, Den C ρ H B v d → Den C ρ' H' B' v d) : ∀ {vs : List (List Key × V)} {ds : List (D × D)}, DenT C ρ H B vs ds → DenT C ρ' H' B' vs ds
  | _, _, .nil => .nil
  | _, _, .cons h r => .cons (f _ _ h) (DenT.map f r)
theorem DenF.map (f : ∀ v d, Den C ρ H B v d → Den C ρ' H' B' v d) : ∀ {vs : List (Str × V)} {ds : List (Str × D)}, DenF C ρ H B vs ds → DenF C ρ' H' B' vs ds
  | _, _, .nil => .nil
  | _, _, .cons h r => .cons (f _ _ h) (DenF.map f r)
theorem DenA.length : ∀ {vs : List V} {ds : List D}, DenA C ρ H B vs ds → vs.length = ds.length
  | _, _, .nil => rfl
  | _, _, .cons _ r => congrArg Nat.succ r.length
theorem DenA.get : ∀ {vs : List V} {ds : List D} {i : Nat} {d : D}, DenA C ρ H B vs ds → ds[i]? = some d → ∃ v, vs[i]? = some v ∧ Den C ρ H B v d
  | _, _, _, _, .nil, e => by cases e
  | _, _, 0, _, .cons h _, e => by cases e; exact ⟨_, rfl, h⟩
  | _, _, i + 1, _, .cons _ r, e => r.get (i := i) e
theorem DenA.append : ∀ {vs ws : List V} {ds es : List D}, DenA C ρ H B vs ds → DenA C ρ H B ws es → DenA C ρ H B (vs ++ ws) (ds ++ es)
  | _, _, _, _, .nil, s => s
  | _, _, _, _, .cons h r, s => .cons h (r.append s)
theorem DenA.set {v : V} {d : D} (h : Den C ρ H B v d) : ∀ {vs : List V} {ds : List D} (n : Nat), DenA C ρ H B vs ds → DenA C ρ H B (vs.set n v) (ds.set n d)
  | _, _, _, .nil => .nil
  | _, _, 0, .cons _ r => .cons h r
  | _, _, n + 1, .cons q r => .cons q (r.set h n)
theorem DenA.isEmpty {vs : List V} {ds : List D} (r : DenA C ρ H B vs ds) : vs.isEmpty = ds.isEmpty := by
  cases r <;> rfl
theorem DenA.nil_iff {vs : List V} (r : DenA C ρ H B vs []) : vs = [] := by cases r; rfl

/-! ### what is read: a value, or what stands in the store (or in a thing of one's own) -/
inductive Vw (C : Cb) (ρ : List Addr) (H : Hp) (B : Addr → Prop) : V → D → Prop
  | of {v : V} {d : D} : Den C ρ H B v d → Vw C ρ H B v d
  | lst {a : Addr} {xs : List V} {ds : List D} : H a = some (.lst xs) → DenA C ρ H B xs ds → Vw C ρ H B (.ref a) (.lst ds)
  | dK {a : Addr} {kvs : List (Key × V)} {es : List (D × D)} : H a = some (.dK kvs) → DenK C ρ H B kvs es → Vw C ρ H B (.ref a) (.dct es)
  | dT {a : Addr} {kvs : List (List Key × V)} {es : List (D × D)} : H a = some (.dT kvs) → DenT C ρ H B kvs es → Vw C ρ H B (.ref a) (.dct es)
  | ins {a dx : Addr} {c : Nat} {fs : List (Str × V)} {gs : List (Str × D)} : H a = some (.ins (C.cm c) dx fs) → DenF C ρ H B fs gs → Vw C ρ H B (.ref a) (.ins c gs)
theorem Vw.tupSq {v : V} {ds : List D} (h : Vw C ρ H B v (.tup ds)) : ∃ a xs, v = .ref a ∧ SqT C.K H a xs ∧ DenA C ρ H B xs ds := by
  cases h with
  | of h => cases h with
    | tup h n r => exact ⟨_, _, rfl, .inl h, r⟩
    | tupK h r => exact ⟨_, _, rfl, sqTn h, r⟩
theorem Vw.lstSq {v : V} {ds : List D} (h : Vw C ρ H B v (.lst ds)) : ∃ a xs, v = .ref a ∧ SqL C.K H a xs ∧ DenA C ρ H B xs ds := by
  cases h with
  | of h => cases h with
    | lst h n r => exact ⟨_, _, rfl, .inl (.inl h), r⟩
  | lst h r => exact ⟨_, _, rfl, .inl (.inl h), r⟩
theorem Vw.lstRd {v : V} {ds : List D} (h : Vw C ρ H B v (.lst ds)) : ∃ a xs, v = .ref a ∧ H a = some (.lst xs) ∧ DenA C ρ H B xs ds := by
  cases h with
  | of h => cases h with
    | lst h n r => exact ⟨_, _, rfl, h, r⟩
  | lst h r => exact ⟨_, _, rfl, h, r⟩
theorem Vw.frzSq {v : V} {ds : List D} (h : Vw C ρ H B v (.frz ds)) : ∃ a xs, v = .ref a ∧ SqL C.K H a xs ∧ DenA C ρ H B xs ds := by
  cases h with
  | of h => cases h with
    | frz h n r => exact ⟨_, _, rfl, .inl h, r⟩
    | frzK h r => exact ⟨_, _, rfl, sqLn h, r⟩
theorem Vw.insAt {v : V} {c : Nat} {gs : List (Str × D)} (h : Vw C ρ H B v (.ins c gs)) : ∃ a dx fs, v = .ref a ∧ H a = some (.ins (C.cm c) dx fs) ∧ DenF C ρ H B fs gs := by
  cases h with
  | of h => cases h with
    | ins h n r => exact ⟨_, _, _, rfl, h, r⟩
  | ins h r => exact ⟨_, _, _, rfl, h, r⟩
theorem Vw.dctAt {v : V} {es : List (D × D)} (h : Vw C ρ H B v (.dct es)) : (∃ a kvs, v = .ref a ∧ H a = some (.dK kvs) ∧ DenK C ρ H B kvs es) ∨ ∃ a kvs, v = .ref a ∧ H a = some (.dT kvs) ∧ DenT C ρ H B kvs es := by
  cases h with
  | of h => cases h with
    | dK h n r => exact .inl ⟨_, _, rfl, h, r⟩
    | dT h n r => exact .inr ⟨_, _, rfl, h, r⟩
  | dK h r => exact .inl ⟨_, _, rfl, h, r⟩
  | dT h r => exact .inr ⟨_, _, rfl, h, r⟩
/-- the content of what may be changed -/
def Cnt (C : Cb) (ρ : List Addr) (H : Hp) (B : Addr → Prop) (a : Addr) : D → Prop
  | .lst ds => ∃ xs, H a = some (.lst xs) ∧ DenA C ρ H B xs ds
  | .dct es => (∃ kvs, H a = some (.dK kvs) ∧ DenK C ρ H B kvs es) ∨ ∃ kvs, H a = some (.dT kvs) ∧ DenT C ρ H B kvs es
  | .ins c fs => ∃ dx vs, H a = some (.ins (C.cm c) dx vs) ∧ DenF C ρ H B vs fs
  | _ => False
theorem Cnt.vw {a : Addr} {d : D} (h : Cnt C ρ H B a d) : Vw C ρ H B (.ref a) d := by
  cases d with
  | lst ds => obtain ⟨xs, h, r⟩ := h; exact .lst h r
  | dct es =>
    rcases h with ⟨kvs, h, r⟩ | ⟨kvs, h, r⟩
    · exact .dK h r
    · exact .dT h r
  | ins c fs => obtain ⟨dx, vs, h, r⟩ := h; exact .ins h r
  | _ => exact h.elim
theorem Cnt.there {a : Addr} {d : D} (h : Cnt C ρ H B a d) : ∃ o, H a = some o := by
  cases d with
  | lst ds => obtain ⟨xs, h, r⟩ := h; exact ⟨_, h⟩
  | dct es =>
    rcases h with ⟨kvs, h, r⟩ | ⟨kvs, h, r⟩
    · exact ⟨_, h⟩
    · exact ⟨_, h⟩
  | ins c fs => obtain ⟨dx, vs, h, r⟩ := h; exact ⟨_, h⟩
  | _ => exact h.elim
theorem Cnt.map {a : Addr} {d : D} (h : Cnt C ρ H B a d) (k : ∀ o, H a = some o → H' a = some o) (f : ∀ v d, Den C ρ H B v d → Den C ρ' H' B' v d) : Cnt C ρ' H' B' a d := by
  cases d with
  | lst ds => obtain ⟨xs, h, r⟩ := h; exact ⟨xs, k _ h, r.map f⟩
  | dct es =>
    rcases h with ⟨kvs, h, r⟩ | ⟨kvs, h, r⟩
    · exact .inl ⟨kvs, k _ h, r.map f⟩
    · exact .inr ⟨kvs, k _ h, r.map f⟩
  | ins c fs => obtain ⟨dx, vs, h, r⟩ := h; exact ⟨dx, vs, k _ h, r.map f⟩
  | _ => exact h.elim
/-- what is not changed any more is a value -/
theorem Cnt.den {a : Addr} {d : D} (h : Cnt C ρ H B a d) (n : ¬ B a) : Den C ρ H B (.ref a) d := by
  cases d with
  | lst ds => obtain ⟨xs, h, r⟩ := h; exact .lst h n r
  | dct es =>
    rcases h with ⟨kvs, h, r⟩ | ⟨kvs, h, r⟩
    · exact .dK h n r
    · exact .dT h n r
  | ins c fs => obtain ⟨dx, vs, h, r⟩ := h; exact .ins h n r
  | _ => exact h.elim
end
end On

set_option Elab.async false
set_option linter.all false
set_option maxRecDepth 100000
set_option maxHeartbeats 2000000
set_option autoImplicit false
namespace On
open PySem PySem.Spec PyProof.Rows L2

/-! ### results -/
def R.bind {α β : Type} (r : R α) (f : α → J → R β) : R β := match r with
  | .ok a j => f a j
  | .exc c fs j => .exc c fs j
  | .bad => .bad
def lift {α : Type} (o : Option α) (j : J) : R α := match o with
  | some a => .ok a j
  | none => .bad

/-! ### the store -/
def Live (ρ : List Addr) (j : J) (a : Addr) : Prop := ∃ (n : Nat) (d : D), ρ[n]? = some a ∧ j[n]? = some (some d)
theorem Live.mem {ρ : List Addr} {j : J} {a : Addr} (h : Live ρ j a) : a ∈ ρ := by
  obtain ⟨n, d, h, _⟩ := h
  exact List.mem_iff_getElem?.mpr ⟨n, h⟩
/-- what is not to be met by values: things of one's own, the store -/
def Bo (O : Addr → Prop) (ρ : List Addr) (j : J) : Addr → Prop := fun a => O a ∨ Live ρ j a
def Trk (B : Addr → Prop) (H : Hp) : Prop := ∀ a, B a → ∃ o, H a = some o
structure Sto (C : Cb) (O : Addr → Prop) (ρ : List Addr) (H : Hp) (j : J) : Prop where
  trk : Trk O H
  rtr : ∀ a, a ∈ ρ → ∃ o, H a = some o
  rl : ρ.length = j.length
  nd : ρ.Nodup
  sto : ∀ (n : Nat) (d : D), j[n]? = some (some d) → ∃ a, ρ[n]? = some a ∧ Cnt C ρ H (Bo O ρ j) a d
/-- one step of the machine: what is not of the store is kept -/
structure Kp (ρ : List Addr) (j : J) (H : Hp) (ρ' : List Addr) (j' : J) (H' : Hp) : Prop where
  keep : ∀ a o, ¬ Live ρ j a → H a = some o → H' a = some o
  grow : ∀ a, Live ρ' j' a → Live ρ j a ∨ H a = none
  frs : ∀ a, a ∈ ρ' → a ∈ ρ ∨ H a = none
  pfx : Pfx ρ ρ'
theorem Kp.refl {ρ : List Addr} {j : J} {H : Hp} : Kp ρ j H ρ j H := ⟨fun _ _ _ h => h, fun _ h => .inl h, fun _ h => .inl h, Pfx.refl⟩
theorem Kp.trans {ρ ρ1 ρ2 : List Addr} {j j1 j2 : J} {H H1 H2 : Hp} (r : ∀ a, a ∈ ρ → ∃ o, H a = some o) (p : Kp ρ j H ρ1 j1 H1) (q : Kp ρ1 j1 H1 ρ2 j2 H2) : Kp ρ j H ρ2 j2 H2 where
  keep := fun a o n h => q.keep a o (fun z => (p.grow a z).elim n fun e => by rw [e] at h; cases h) (p.keep a o n h)
  grow := fun a z => by
    rcases q.grow a z with w | w
    · exact p.grow a w
    · by_cases l : Live ρ j a
      · exact .inl l
      · refine .inr ?_
        cases e : H a with
        | none => rfl
        | some o => rw [p.keep a o l e] at w; cases w
  frs := fun a z => by
    rcases q.frs a z with w | w
    · exact p.frs a w
    · by_cases l : a ∈ ρ
      · exact .inl l
      · refine .inr ?_
        cases e : H a with
        | none => rfl
        | some o => rw [p.keep a o (fun z => l z.mem) e] at w; cases w
  pfx := p.pfx.trans q.pfx
def Ext (H H' : Hp) : Prop := ∀ a o, H a = some o → H' a = some o
theorem Ext.refl {H : Hp} : Ext H H := fun _ _ h => h
theorem Ext.trans {H H1 H2 : Hp} (p : Ext H H1) (q : Ext H1 H2) : Ext H H2 := fun a o h => q a o (p a o h)
theorem Ext.keep {ρ : List Addr} {j : J} {H H' : Hp} (p : Ext H H') : Kp ρ j H ρ j H' := ⟨fun a o _ h => p a o h, fun _ h => .inl h, fun _ h => .inl h, Pfx.refl⟩
theorem Ext.pres {B : Addr → Prop} {H H' : Hp} (p : Ext H H') : Pres B H H' := fun a o _ h => p a o h
theorem Ext.new {H : Hp} {p : Addr} {o : HO} (h : H p = none) : Ext H (upd H p o) := fun a u e => by
  rw [upd_ne (ne_of_none e h)]
  exact e
/-- .. in which one's own things may change too -/
structure Step (ρ : List Addr) (B : Addr → Prop) (H : Hp) (ρ' : List Addr) (B' : Addr → Prop) (H' : Hp) : Prop where
  pres : Pres B H H'
  grow : ∀ a, B' a → B a ∨ H a = none
  pfx : Pfx ρ ρ'
theorem Step.refl {ρ : List Addr} {B : Addr → Prop} {H : Hp} : Step ρ B H ρ B H := ⟨Pres.refl, fun _ h => .inl h, Pfx.refl⟩
theorem Step.trans {ρ ρ1 ρ2 : List Addr} {B B1 B2 : Addr → Prop} {H H1 H2 : Hp} (p : Step ρ B H ρ1 B1 H1) (q : Step ρ1 B1 H1 ρ2 B2 H2) : Step ρ B H ρ2 B2 H2 where
  pres := fun a o n h => by
    refine q.pres a o (fun z => ?_) (p.pres a o n h)
    rcases p.grow a z with w | w
    · exact n w
    · rw [w] at h; cases h
  grow := fun a z => by
    by_cases hb : B a
    · exact .inl hb
    · refine .inr ?_
      cases h : H a with
      | none => rfl
      | some o =>
        rcases q.grow a z with w | w
        · rcases p.grow a w with w | w
          · exact absurd w hb
          · rw [w] at h; cases h
        · rw [p.pres a o hb h] at w; cases w
  pfx := p.pfx.trans q.pfx
theorem Kp.step {ρ ρ' : List Addr} {j j' : J} {H H' : Hp} (k : Kp ρ j H ρ' j' H') (O : Addr → Prop) : Step ρ (Bo O ρ j) H ρ' (Bo O ρ' j') H' where
  pres := fun a o n h => k.keep a o (fun z => n (.inr z)) h
  grow := fun a z => by
    rcases z with z | z
    · exact .inl (.inl z)
    · rcases k.grow a z with w | w
      · exact .inl (.inr w)
      · exact .inr w
  pfx := k.pfx
theorem Kp.stepO {ρ ρ' : List Addr} {j j' : J} {H H' : Hp} (k : Kp ρ j H ρ' j' H') {O O' : Addr → Prop} (hN : ∀ a, O' a → O a ∨ H a = none) : Step ρ (Bo O ρ j) H ρ' (Bo O' ρ' j') H' where
  pres := fun a o n h => k.keep a o (fun z => n (.inr z)) h
  grow := fun a z => by
    rcases z with z | z
    · exact (hN a z).imp .inl id
    · rcases k.grow a z with w | w
      · exact .inl (.inr w)
      · exact .inr w
  pfx := k.pfx
theorem Step.den {C : Cb} {ρ ρ' : List Addr} {B B' : Addr → Prop} {H H' : Hp} (p : Step ρ B H ρ' B' H') {v : V} {d : D} (h : Den C ρ H B v d) : Den C ρ' H' B' v d := by
  have h1 : Den C ρ H (fun a => B a ∨ B' a) v d := h.less fun a z => by
    rcases z with z | z
    · exact .inl z
    · exact p.grow a z
  have h2 : Den C ρ' H' (fun a => B a ∨ B' a) v d := h1.mono (fun a o n e => p.pres a o (fun z => n (.inl z)) e) p.pfx
  exact h2.less fun a z => .inl (.inr z)
theorem Step.denA {C : Cb} {ρ ρ' : List Addr} {B B' : Addr → Prop} {H H' : Hp} (p : Step ρ B H ρ' B' H') {v : List V} {d : List D} (h : DenA C ρ H B v d) : DenA C ρ' H' B' v d := h.map fun _ _ => p.den
theorem Step.denF {C : Cb} {ρ ρ' : List Addr} {B B' : Addr → Prop} {H H' : Hp} (p : Step ρ B H ρ' B' H') {v : List (Str × V)} {d : List (Str × D)} (h : DenF C ρ H B v d) : DenF C ρ' H' B' v d := h.map fun _ _ => p.den
theorem Sto.trkB {C : Cb} {O : Addr → Prop} {ρ : List Addr} {H : Hp} {j : J} (S : Sto C O ρ H j) : Trk (Bo O ρ j) H := fun a h => by
  rcases h with h | h
  · exact S.trk a h
  · exact S.rtr a h.mem
theorem Sto.fresh {C : Cb} {O : Addr → Prop} {ρ : List Addr} {H : Hp} {j : J} (S : Sto C O ρ H j) {p : Addr} (h : H p = none) : ¬ Bo O ρ j p := fun z => by
  obtain ⟨o, e⟩ := S.trkB p z
  rw [h] at e
  cases e
theorem Sto.ext {C : Cb} {O : Addr → Prop} {ρ : List Addr} {H H' : Hp} {j : J} (S : Sto C O ρ H j) (x : Ext H H') : Sto C O ρ H' j where
  trk := fun a h => let ⟨o, e⟩ := S.trk a h; ⟨o, x a o e⟩
  rtr := fun a h => let ⟨o, e⟩ := S.rtr a h; ⟨o, x a o e⟩
  rl := S.rl
  nd := S.nd
  sto := fun n d h => let ⟨a, e, q⟩ := S.sto n d h; ⟨a, e, q.map (x a) fun _ _ r => r.mono x.pres Pfx.refl⟩
theorem Sto.write {C : Cb} {O : Addr → Prop} {ρ : List Addr} {H : Hp} {j : J} (S : Sto C O ρ H j) {l : Addr} {o : HO} (hl : O l) (hr : l ∉ ρ) : Sto C O ρ (upd H l o) j := by
  have st : Step ρ (Bo O ρ j) H ρ (Bo O ρ j) (upd H l o) := ⟨Pres.at (.inl hl), fun a z => .inl z, Pfx.refl⟩
  have kp : ∀ a, a ≠ l → ∀ u, H a = some u → upd H l o a = some u := fun a n u e => by rw [upd_ne n]; exact e
  have th : ∀ a, (∃ u, H a = some u) → ∃ u, upd H l o a = some u := fun a ⟨u, e⟩ => by
    by_cases q : a = l
    · rw [q]; exact ⟨_, upd_same⟩
    · exact ⟨u, kp a q u e⟩
  exact ⟨fun a z => th a (S.trk a z), fun a z => th a (S.rtr a z), S.rl, S.nd, fun n d e => let ⟨a, ea, q⟩ := S.sto n d e; ⟨a, ea, q.map (kp a (fun z => hr (z ▸ List.mem_iff_getElem?.mpr ⟨n, ea⟩))) fun _ _ => st.den⟩⟩
theorem Sto.view {C : Cb} {O : Addr → Prop} {ρ : List Addr} {H : Hp} {j : J} (S : Sto C O ρ H j) {v : V} {d : D} (h : Den C ρ H (Bo O ρ j) v d) : Vw C ρ H (Bo O ρ j) v (deref j d) := by
  cases d with
  | loc n =>
    cases h with
    | loc e =>
      show Vw C ρ H (Bo O ρ j) _ (match j[n]? with | some (some c) => c | _ => .loc n)
      cases q : j[n]? with
      | none => exact .of (.loc e)
      | some o =>
        cases o with
        | none => exact .of (.loc e)
        | some c =>
          obtain ⟨b, eb, hc⟩ := S.sto n c q
          rw [e] at eb
          cases eb
          exact hc.vw
  | _ => exact .of h

/-! ### states -/
/-- the context of a body: what stood at the entry -/
structure Ct where
  b : Cb
  H0 : Hp
  ρ0 : List Addr
  J0 : J
  O0 : Addr → Prop
  slf : Option Addr
def SlotOk (C : Ct) (O : Addr → Prop) (ρ : List Addr) (H : Hp) (B : Addr → Prop) (σ : L2.St) (i : Nat) : Cell → Prop
  | .val d => ∃ v, σ[i]? = some (some v) ∧ Den C.b ρ H B v d
  | .own d => ∃ a, σ[i]? = some (some (.ref a)) ∧ O a ∧ C.H0 a = none ∧ a ∉ ρ ∧ (∀ c fs, d = .ins c fs → C.slf = some a) ∧ Cnt C.b ρ H B a d
structure Sok (C : Ct) (O : Addr → Prop) (ρ : List Addr) (σ : L2.St) (H : Hp) (Γ : Gm) (j : J) : Prop where
  st : Sto C.b O ρ H j
  len : Γ.length = σ.length
  pre : Pfx C.ρ0 ρ
  ex : ∀ a o, ¬ Live C.ρ0 C.J0 a → C.H0 a = some o → H a = some o
  b0 : ∀ a, C.O0 a → O a
  new : ∀ a, Live ρ j a → Live C.ρ0 C.J0 a ∨ C.H0 a = none
  rnw : ∀ a, a ∈ ρ → a ∈ C.ρ0 ∨ C.H0 a = none
  slot : ∀ i c, Γ[i]? = some (some c) → SlotOk C O ρ H (Bo O ρ j) σ i c
  dist : ∀ (i k : Nat) ds es a, Γ[i]? = some (some (.own ds)) → Γ[k]? = some (some (.own es)) → σ[i]? = some (some (.ref a)) → σ[k]? = some (some (.ref a)) → i = k
  b00 : Trk C.O0 C.H0
section
variable {C : Ct} {O : Addr → Prop} {ρ ρ' : List Addr} {σ : L2.St} {H H' : Hp} {Γ : Gm} {j j' : J}
theorem Sok.trkB (S : Sok C O ρ σ H Γ j) : Trk (Bo O ρ j) H := S.st.trkB
theorem Sok.keepO {O' : Addr → Prop} (S : Sok C O ρ σ H Γ j) (k : Kp ρ j H ρ' j' H') (hO : ∀ a, O a → O' a) (hN : ∀ a, O' a → O a ∨ H a = none) (s' : Sto C.b O' ρ' H' j') : Sok C O' ρ' σ H' Γ j' where
  st := s'
  len := S.len
  pre := S.pre.trans k.pfx
  ex := fun a o n h => k.keep a o (fun z => (S.new a z).elim n fun e => by rw [e] at h; cases h) (S.ex a o n h)
  b0 := fun a h => hO a (S.b0 a h)
  new := fun a z => by
    rcases k.grow a z with w | w
    · exact S.new a w
    · by_cases l : Live C.ρ0 C.J0 a
      · exact .inl l
      · refine .inr ?_
        cases e : C.H0 a with
        | none => rfl
        | some o => rw [S.ex a o l e] at w; cases w
  rnw := fun a z => by
    rcases k.frs a z with w | w
    · exact S.rnw a w
    · by_cases l : Live C.ρ0 C.J0 a
      · exact .inl l.mem
      · refine .inr ?_
        cases e : C.H0 a with
        | none => rfl
        | some o => rw [S.ex a o l e] at w; cases w
  slot := fun i c h => by
    have q := S.slot i c h
    cases c with
    | val d => obtain ⟨v, e, r⟩ := q; exact ⟨v, e, (k.stepO hN).den r⟩
    | own d =>
      obtain ⟨a, e, b, h0, n, hc, r⟩ := q
      refine ⟨a, e, hO a b, h0, fun z => ?_, hc, r.map (fun o => k.keep a o fun z => n z.mem) fun _ _ => (k.stepO hN).den⟩
      rcases k.frs a z with w | w
      · exact n w
      · obtain ⟨o, e⟩ := r.there; rw [w] at e; cases e
  dist := S.dist
  b00 := S.b00
theorem Sok.keep (S : Sok C O ρ σ H Γ j) (k : Kp ρ j H ρ' j' H') (s' : Sto C.b O ρ' H' j') : Sok C O ρ' σ H' Γ j' := S.keepO k (fun _ h => h) (fun _ h => .inl h) s'
theorem Sok.ext (S : Sok C O ρ σ H Γ j) (x : Ext H H') : Sok C O ρ σ H' Γ j := S.keep x.keep (S.st.ext x)
theorem Sok.fresh (S : Sok C O ρ σ H Γ j) {p : Addr} (h : H p = none) : ¬ Bo O ρ j p := S.st.fresh h
theorem Sok.kpt (S : Sok C O ρ σ H Γ j) {ρ2 : List Addr} {j2 : J} {H2 : Hp} (p : Kp ρ j H ρ' j' H') (q : Kp ρ' j' H' ρ2 j2 H2) : Kp ρ j H ρ2 j2 H2 := Kp.trans S.st.rtr p q
end

/-! ### what is wanted behind a piece of code -/
/-- K: of the result, the store, where its things stand, and the heap -/
def Post {α : Type} (C : Ct) (E : WX) (O : Addr → Prop) (σ : L2.St) (Γ : Gm) (ρ : List Addr) (j : J) (H : Hp) (r : R α) (K : α → J → List Addr → Hp → Prop) : Prop := match r with
  | .ok a j' => ∀ ρ' H', Kp ρ j H ρ' j' H' → Sok C O ρ' σ H' Γ j' → K a j' ρ' H'
  | .exc c fs j' => ∀ x vs ρ' H', Kp ρ j H ρ' j' H' → Sok C O ρ' σ H' Γ j' → H' x = some (.xd vs) → ¬ Bo O ρ' j' x → DenF C.b ρ' H' (Bo O ρ' j') vs fs → E (.ref (C.b.cm c)) (some x) σ H'
  | .bad => False
section
variable {α β : Type} {C : Ct} {E : WX} {O : Addr → Prop} {σ : L2.St} {Γ : Gm} {ρ ρ1 : List Addr} {j j1 : J} {H H1 : Hp}
theorem Post.shift {r : R α} {K : α → J → List Addr → Hp → Prop} (S : Sok C O ρ σ H Γ j) (k : Kp ρ j H ρ1 j1 H1) (h : Post C E O σ Γ ρ j H r K) : Post C E O σ Γ ρ1 j1 H1 r K := by
  cases r with
  | ok a j => exact fun ρ' H' k' S' => h ρ' H' (S.kpt k k') S'
  | exc c fs j => exact fun x vs ρ' H' k' S' => h x vs ρ' H' (S.kpt k k') S'
  | bad => exact h
theorem Post.bind {r : R α} {f : α → J → R β} {K : β → J → List Addr → Hp → Prop} (S : Sok C O ρ σ H Γ j) (h : Post C E O σ Γ ρ j H (r.bind f) K) : Post C E O σ Γ ρ j H r fun a j1 ρ1 H1 => Post C E O σ Γ ρ1 j1 H1 (f a j1) K := by
  cases r with
  | ok a j1 => exact fun ρ' H' k S' => Post.shift S k h
  | exc c fs j => exact h
  | bad => exact h
theorem Post.imp {r : R α} {K K' : α → J → List Addr → Hp → Prop} (h : Post C E O σ Γ ρ j H r K) (k : ∀ a j' ρ' H', Kp ρ j H ρ' j' H' → Sok C O ρ' σ H' Γ j' → K a j' ρ' H' → K' a j' ρ' H') : Post C E O σ Γ ρ j H r K' := by
  cases r with
  | ok a j => exact fun ρ' H' k' S => k a j ρ' H' k' S (h ρ' H' k' S)
  | exc c fs j => exact h
  | bad => exact h
theorem Post.now {a : α} {K : α → J → List Addr → Hp → Prop} (S : Sok C O ρ σ H Γ j) (h : Post C E O σ Γ ρ j H (.ok a j) K) : K a j ρ H := h ρ H Kp.refl S
theorem Post.ite {c : Prop} [Decidable c] {r : R α} {K : α → J → List Addr → Hp → Prop} (h : Post C E O σ Γ ρ j H (if c then r else .bad) K) : c ∧ Post C E O σ Γ ρ j H r K := by
  by_cases q : c
  · rw [if_pos q] at h; exact ⟨q, h⟩
  · rw [if_neg q] at h; exact h.elim
end

/-! ### the judgements -/
/-- the start of a piece of code of which m tells the result -/
abbrev St0 {α : Type} (C : Ct) (E : WX) (m : Gm → J → R α) (σ : L2.St) (H : Hp) (K : (Addr → Prop) → α → J → List Addr → Hp → Prop) : Prop := ∃ O ρ Γ j, Sok C O ρ σ H Γ j ∧ Post C E O σ Γ ρ j H (m Γ j) (K O)
abbrev ME (C : Ct) (E : WX) (X : Cx) (e : Expr) (m : Gm → J → R D) : Prop :=
  PE X e fun σ H Q => St0 C E m σ H fun O d j' ρ' H' => ∀ v, Den C.b ρ' H' (Bo O ρ' j') v d → Q v H'
abbrev MT (C : Ct) (E : WX) (X : Cx) (e : Expr) (m : Gm → J → R Bool) : Prop :=
  PT X e fun σ H Q => St0 C E m σ H fun _ b _ _ H' => Q b H'
abbrev MW (C : Ct) (E : WX) (X : Cx) (e : Expr) (m : Gm → J → R Bool) : Prop :=
  PW X e fun σ H Q => St0 C E m σ H fun _ b _ _ H' => Q b H'
abbrev MA (C : Ct) (E : WX) (X : Cx) (es : List Expr) (m : Gm → J → R (List D)) : Prop :=
  PA X es fun σ H Q => St0 C E m σ H fun O ds j' ρ' H' => ∀ vs, DenA C.b ρ' H' (Bo O ρ' j') vs ds → Q vs H'
section
variable {X : Cx} {e : Expr}
theorem PE.imp {t t' : TE} (h : PE X e t) (k : ∀ σ H Q, t' σ H Q → t σ H Q) : PE X e t' := ⟨fun pins s σ H Q I q => h.run pins s σ H Q I (k σ H Q q)⟩
theorem PT.imp {t t' : TT} (h : PT X e t) (k : ∀ σ H Q, t' σ H Q → t σ H Q) : PT X e t' := ⟨fun pins s σ H Q I q => h.run pins s σ H Q I (k σ H Q q)⟩
theorem PW.imp {t t' : TT} (h : PW X e t) (k : ∀ σ H Q, t' σ H Q → t σ H Q) : PW X e t' := ⟨fun wh pins s σ H Q I q => h.run wh pins s σ H Q I (k σ H Q q)⟩
theorem PA.imp {es : List Expr} {t t' : TA} (h : PA X es t) (k : ∀ σ H Q, t' σ H Q → t σ H Q) : PA X es t' := ⟨fun pos pins s σ H Q I q => h.run pos pins s σ H Q I (k σ H Q q)⟩
theorem PS.imp {st : Stmt} {t t' : TS} (h : PS X st t) (k : ∀ D σ H, t' D σ H → t D σ H) : PS X st t' := ⟨fun pins s σ H D I q => h.run pins s σ H D I (k D σ H q)⟩
theorem PSs.imp {st : List Stmt} {t t' : TS} (h : PSs X st t) (k : ∀ D σ H, t' D σ H → t D σ H) : PSs X st t' := ⟨fun pins s σ H D I q => h.run pins s σ H D I (k D σ H q)⟩
end

/-! ### operations on data -/
def OpD (C : Cb) (r : R2) (f : D → D → Option D) : Prop := ∀ ρ B H x y d e z Q, Trk B H → Vw C ρ H B x d → Vw C ρ H B y e → f d e = some z → (∀ v H', Ext H H' → Den C ρ H' B v z → Q v H') → r x y H Q
def UnD (C : Cb) (r : V → Hp → VK → Prop) (f : D → Option D) : Prop := ∀ ρ B H x d z Q, Trk B H → Vw C ρ H B x d → f d = some z → (∀ v H', Ext H H' → Den C ρ H' B v z → Q v H') → r x H Q
inductive VwA (C : Cb) (ρ : List Addr) (H : Hp) (B : Addr → Prop) : List V → List D → Prop
  | nil : VwA C ρ H B [] []
  | cons {v : V} {d : D} {vs : List V} {ds : List D} : Vw C ρ H B v d → VwA C ρ H B vs ds → VwA C ρ H B (v :: vs) (d :: ds)
def CallD (C : Cb) (r : List V → Hp → VK → Prop) (f : List D → Option D) : Prop := ∀ ρ B H xs ds z Q, Trk B H → VwA C ρ H B xs ds → f ds = some z → (∀ v H', Ext H H' → Den C ρ H' B v z → Q v H') → r xs H Q
theorem Sto.viewA {C : Cb} {O : Addr → Prop} {ρ : List Addr} {H : Hp} {j : J} (S : Sto C O ρ H j) : ∀ {vs : List V} {ds : List D}, DenA C ρ H (Bo O ρ j) vs ds → VwA C ρ H (Bo O ρ j) vs (ds.map (deref j))
  | _, _, .nil => .nil
  | _, _, .cons h r => .cons (S.view h) (S.viewA r)
def m2 (f : D → D → Option D) (ma mb : Gm → J → R D) : Gm → J → R D := fun Γ j => (ma Γ j).bind fun d j => (mb Γ j).bind fun e j => lift (f (deref j d) (deref j e)) j
def m1 (f : D → Option D) (ma : Gm → J → R D) : Gm → J → R D := fun Γ j => (ma Γ j).bind fun d j => lift (f (deref j d)) j
def mB (f : List D → Option D) (ma : Gm → J → R (List D)) : Gm → J → R D := fun Γ j => (ma Γ j).bind fun ds j => lift (f (ds.map (deref j))) j
section
variable {C : Ct} {E : WX} {X : Cx} {a b e : Expr} {ma mb : Gm → J → R D} {pos : Pos}
/-- the end of an operation that keeps all -/
theorem post_lift {O : Addr → Prop} {ρ : List Addr} {σ : L2.St} {Γ : Gm} {H : Hp} {j : J} {o : Option D} {Q : VK} (S : Sok C O ρ σ H Γ j) (h : Post C E O σ Γ ρ j H (lift o j) fun d j' ρ' H' => ∀ v, Den C.b ρ' H' (Bo O ρ' j') v d → Q v H') :
    ∃ z, o = some z ∧ ∀ v H', Ext H H' → Den C.b ρ H' (Bo O ρ j) v z → Q v H' := by
  cases o with
  | none => exact h.elim
  | some z => exact ⟨z, rfl, fun v H' k r => h ρ H' k.keep (S.ext k) v r⟩
theorem post_liftB {α : Type} {O : Addr → Prop} {ρ : List Addr} {σ : L2.St} {Γ : Gm} {H : Hp} {j : J} {o : Option α} {K : α → J → List Addr → Hp → Prop} (S : Sok C O ρ σ H Γ j) (h : Post C E O σ Γ ρ j H (lift o j) K) : ∃ z, o = some z ∧ K z j ρ H := by
  cases o with
  | none => exact h.elim
  | some z => exact ⟨z, rfl, Post.now S h⟩
theorem me_two {r : R2} {f : D → D → Option D} (hf : OpD C.b r f) {σ : L2.St} {H : Hp} {Q : VK} {ta tb : TE}
    (ha : ∀ σ H Q, St0 C E ma σ H (fun O d j' ρ' H' => ∀ v, Den C.b ρ' H' (Bo O ρ' j') v d → Q v H') → ta σ H Q)
    (hb : ∀ σ H Q, St0 C E mb σ H (fun O d j' ρ' H' => ∀ v, Den C.b ρ' H' (Bo O ρ' j') v d → Q v H') → tb σ H Q)
    (h : St0 C E (m2 f ma mb) σ H fun O d j' ρ' H' => ∀ v, Den C.b ρ' H' (Bo O ρ' j') v d → Q v H') : tOp r ta tb σ H Q := by
  obtain ⟨O, ρ, Γ, j, S, h⟩ := h
  refine ha σ H _ ⟨O, ρ, Γ, j, S, Post.imp (Post.bind S h) fun d j1 ρ1 H1 k1 S1 q v hv => ?_⟩
  refine hb σ H1 _ ⟨O, ρ1, Γ, j1, S1, Post.imp (Post.bind S1 q) fun e j2 ρ2 H2 k2 S2 q2 u hu => ?_⟩
  obtain ⟨z, hz, q3⟩ := post_lift S2 q2
  exact hf ρ2 (Bo O ρ2 j2) H2 v u _ _ z _ S2.trkB (S2.st.view ((k2.step O).den hv)) (S2.st.view hu) hz q3
theorem me_op {op : Operator} {r : R2} {f : D → D → Option D} (ho : OpR X (binaryOp op) r) (hf : OpD C.b r f) (ha : ME C E X a ma) (hb : ME C E X b mb) : ME C E X (.BinOp a op b pos) (m2 f ma mb) :=
  PE.imp (pe_op ho ha hb) fun _ _ _ h => me_two hf (fun _ _ _ q => q) (fun _ _ _ q => q) h
theorem me_cmp {op : CmpOp} {r : R2} {f : D → D → Option D} (ho : OpR X (compareOp op) r) (hf : OpD C.b r f) (ha : ME C E X a ma) (hb : ME C E X b mb) (hm : behindInMarks op b = false) : ME C E X (.Compare a [op] [b] pos) (m2 f ma mb) :=
  PE.imp (pe_cmpR ho ha hb hm) fun _ _ _ h => me_two hf (fun _ _ _ q => q) (fun _ _ _ q => q) h
theorem me_un {op : UnaryOp} {r : V → Hp → VK → Prop} {f : D → Option D} (ho : UnR X (unaryOp op) r) (hf : UnD C.b r f) (ha : ME C E X a ma) : ME C E X (.UnaryOp op a pos) (m1 f ma) :=
  PE.imp (pe_un ho ha) fun σ H Q ⟨O, ρ, Γ, j, S, h⟩ => ⟨O, ρ, Γ, j, S, Post.imp (Post.bind S h) fun d j1 ρ1 H1 k1 S1 q v hv => by
    obtain ⟨z, hz, q3⟩ := post_lift S1 q
    exact hf ρ1 (Bo O ρ1 j1) H1 v _ z _ S1.trkB (S1.st.view hv) hz q3⟩

/-! ### names and constants -/
def mVar (i : Nat) : Gm → J → R D := fun Γ j => match Γ[i]? with
  | some (some (.val d)) => .ok d j
  | _ => .bad
def mC (d : D) : Gm → J → R D := fun _ j => .ok d j
theorem me_ofvar {i : Nat} (h : PE X e (tVar i)) : ME C E X e (mVar i) := PE.imp h fun σ H Q ⟨O, ρ, Γ, j, S, h⟩ => by
  unfold mVar at h
  cases q : Γ[i]? with
  | none => rw [q] at h; exact h.elim
  | some o =>
    rw [q] at h
    cases o with
    | none => exact h.elim
    | some c =>
      cases c with
      | own _ => exact h.elim
      | val d =>
        obtain ⟨v, e, r⟩ := S.slot i _ q
        exact ⟨v, e, h ρ H Kp.refl S v r⟩
theorem me_ofc {v : V} {d : D} (h : PE X e (tC v)) (hd : ∀ ρ H B, Den C.b ρ H B v d) : ME C E X e (mC d) := PE.imp h fun σ H Q ⟨O, ρ, Γ, j, S, h⟩ => h ρ H Kp.refl S v (hd ρ H _)
theorem me_int {i : Int} {k : Nat} : ME C E X (.Constant (.int i) k pos) (mC (.int i)) := me_ofc pe_int fun _ _ _ => .int i
theorem me_bl {i : Bool} {k : Nat} : ME C E X (.Constant (.bool i) k pos) (mC (.bl i)) := me_ofc pe_bl fun _ _ _ => .bl i
theorem me_non {k : Nat} : ME C E X (.Constant .none k pos) (mC .non) := me_ofc pe_non fun _ _ _ => .non
theorem me_str {x : Str} {k : Nat} : ME C E X (.Constant (.str x) k pos) (mC (.str x)) := me_ofc pe_str fun _ _ _ => .str x
theorem mv (i : Nat) {x : Str} (hN : X.N[i]? = some x := by rfl) (hv : Vis X.env.scope x := by first | exact Or.inl rfl | exact Or.inr (Or.inl rfl) | exact Or.inr (Or.inr rfl)) (hd : (x == ("__debug__" : Str)) = false := by decide)
    (hcd : (x == ("__classdict__" : Str)) = false := by decide) : ME C E X (.Name x pos) (mVar i) := me_ofvar (pe_var hN hv hd hcd)

/-! ### argument lists, tuples, lists, built-ins -/
def mNil : Gm → J → R (List D) := fun _ j => .ok [] j
def mCons (ma : Gm → J → R D) (mr : Gm → J → R (List D)) : Gm → J → R (List D) := fun Γ j => (ma Γ j).bind fun d j => (mr Γ j).bind fun ds j => .ok (d :: ds) j
variable {es : List Expr} {mr : Gm → J → R (List D)}
theorem ma_nil : MA C E X [] mNil := PA.imp pa_nil fun σ H Q ⟨O, ρ, Γ, j, S, h⟩ => h ρ H Kp.refl S [] .nil
theorem ma_cons (ha : ME C E X e ma) (hr : MA C E X es mr) (hs : starEach (e :: es) X.env = (false, eval e X.env) :: starEach es X.env := by rfl) : MA C E X (e :: es) (mCons ma mr) :=
  PA.imp (pa_cons ha hr hs) fun σ H Q ⟨O, ρ, Γ, j, S, h⟩ => ⟨O, ρ, Γ, j, S, Post.imp (Post.bind S h) fun d j1 ρ1 H1 k1 S1 q v hv =>
    ⟨O, ρ1, Γ, j1, S1, Post.imp (Post.bind S1 q) fun ds j2 ρ2 H2 k2 S2 q2 vs hvs => q2 ρ2 H2 Kp.refl S2 (v :: vs) (.cons ((k2.step O).den hv) hvs)⟩⟩
def mTup (mr : Gm → J → R (List D)) : Gm → J → R D := fun Γ j => (mr Γ j).bind fun ds j => if ds.length ≤ 100000 then .ok (.tup ds) j else .bad
def mLst (mr : Gm → J → R (List D)) : Gm → J → R D := fun Γ j => (mr Γ j).bind fun ds j => if ds.length ≤ 100000 then .ok (.lst ds) j else .bad
theorem sz5 {n : Nat} (h : n ≤ 100000) : n ≤ sizeLine := Nat.le_trans h (by decide)
theorem me_tup {k : Nat} (hr : MA C E X es mr) : ME C E X (.Tuple es k pos) (mTup mr) :=
  PE.imp (pe_tup hr) fun σ H Q ⟨O, ρ, Γ, j, S, h⟩ => ⟨O, ρ, Γ, j, S, Post.imp (Post.bind S h) fun ds j1 ρ1 H1 k1 S1 q vs hvs => by
    obtain ⟨hl, q⟩ := Post.ite q
    refine ⟨sz5 (by rw [hvs.length]; exact hl), fun p hp => ?_⟩
    have x : Ext H1 (upd H1 p (.tup vs)) := Ext.new hp
    exact q _ _ x.keep (S1.ext x) _ (.tup (.inl upd_same) (S1.fresh hp) (hvs.mono x.pres Pfx.refl))⟩
theorem me_lst (hr : MA C E X es mr) : ME C E X (.List es pos) (mLst mr) :=
  PE.imp (pe_lst hr) fun σ H Q ⟨O, ρ, Γ, j, S, h⟩ => ⟨O, ρ, Γ, j, S, Post.imp (Post.bind S h) fun ds j1 ρ1 H1 k1 S1 q vs hvs => by
    obtain ⟨hl, q⟩ := Post.ite q
    refine ⟨sz5 (by rw [hvs.length]; exact hl), fun p hp => ?_⟩
    have x : Ext H1 (upd H1 p (.lst vs)) := Ext.new hp
    exact q _ _ x.keep (S1.ext x) _ (.lst upd_same (S1.fresh hp) (hvs.mono x.pres Pfx.refl))⟩
theorem me_callB {id : String} {x : Str} {p : Pos} {r : List V → Hp → VK → Prop} {f : List D → Option D} (hc : CallR X (.builtin id) r) (hf : CallD C.b r f) (hg : Gl X x) (hm : X.mg x = none) (hv : bootBuiltins x = some (.builtin id)) (hr : MA C E X (e :: es) mr) (hn : x ≠ "__name__" := by decide) (hdb : (x == ("__debug__" : Str)) = false := by decide)
    (hs : starEach (e :: es) X.env = (false, eval e X.env) :: starEach es X.env := by rfl) (hpl : (backTo pos (starEach es X.env)).any (·.1) = false := by rfl) : ME C E X (.Call (.Name x p) (e :: es) [] pos) (mB f mr) :=
  PE.imp (pe_callB hc hg hm hv hr hn hdb hs hpl) fun σ H Q ⟨O, ρ, Γ, j, S, h⟩ => ⟨O, ρ, Γ, j, S, Post.imp (Post.bind S h) fun ds j1 ρ1 H1 k1 S1 q vs hvs => by
    obtain ⟨z, hz, q3⟩ := post_lift S1 q
    exact hf ρ1 (Bo O ρ1 j1) H1 vs _ z _ S1.trkB (S1.st.viewA hvs) hz q3⟩
theorem me_callTy {id : String} {x : Str} {p : Pos} {r : List V → Hp → VK → Prop} {f : List D → Option D} (hc : CallR X (.type id) r) (hf : CallD C.b r f) (hg : Gl X x) (hm : X.mg x = none) (hv : bootBuiltins x = some (.type id)) (hr : MA C E X (e :: es) mr) (hn : x ≠ "__name__" := by decide) (hdb : (x == ("__debug__" : Str)) = false := by decide)
    (hs : starEach (e :: es) X.env = (false, eval e X.env) :: starEach es X.env := by rfl) (hpl : (backTo pos (starEach es X.env)).any (·.1) = false := by rfl) : ME C E X (.Call (.Name x p) (e :: es) [] pos) (mB f mr) :=
  PE.imp (pe_callTy hc hg hm hv hr hn hdb hs hpl) fun σ H Q ⟨O, ρ, Γ, j, S, h⟩ => ⟨O, ρ, Γ, j, S, Post.imp (Post.bind S h) fun ds j1 ρ1 H1 k1 S1 q vs hvs => by
    obtain ⟨z, hz, q3⟩ := post_lift S1 q
    exact hf ρ1 (Bo O ρ1 j1) H1 vs _ z _ S1.trkB (S1.st.viewA hvs) hz q3⟩

/-! ### new things of the store -/
theorem Sto.push {Cc : Cb} {O : Addr → Prop} {ρ : List Addr} {H : Hp} {j : J} (S : Sto Cc O ρ H j) {p : Addr} (hp : H p = none) {H' : Hp} (x : Ext H H') (hk : ∃ o, H' p = some o) {d : D} (hc : ∀ (ρ2 : List Addr) (B2 : Addr → Prop), (∀ v e, Den Cc ρ H (Bo O ρ j) v e → Den Cc ρ2 H' B2 v e) → Cnt Cc ρ2 H' B2 p d) : Sto Cc O (ρ ++ [p]) H' (j ++ [some d]) ∧ Kp ρ j H (ρ ++ [p]) (j ++ [some d]) H' := by
  have np : p ∉ ρ := fun z => by obtain ⟨o, e⟩ := S.rtr p z; rw [hp] at e; cases e
  have lv : ∀ a, Live (ρ ++ [p]) (j ++ [some d]) a → Live ρ j a ∨ a = p := fun a ⟨n, e, h1, h2⟩ => by
    by_cases hn : n < ρ.length
    · rw [List.getElem?_append_left hn] at h1
      rw [List.getElem?_append_left (by rw [← S.rl]; exact hn)] at h2
      exact .inl ⟨n, e, h1, h2⟩
    · rw [List.getElem?_append_right (Nat.le_of_not_lt hn)] at h1
      obtain ⟨i, hi⟩ : ∃ i, n - ρ.length = i := ⟨_, rfl⟩
      rw [hi] at h1
      cases i with
      | zero => cases h1; exact .inr rfl
      | succ i => cases h1
  have K : Kp ρ j H (ρ ++ [p]) (j ++ [some d]) H' := ⟨fun a o _ h => x a o h, fun a z => (lv a z).imp id fun e => by rw [e]; exact hp, fun a z => by
    rcases List.mem_append.mp z with w | w
    · exact .inl w
    · rw [List.mem_singleton.mp w]; exact .inr hp, Pfx.app⟩
  refine ⟨⟨fun a h => let ⟨o, e⟩ := S.trk a h; ⟨o, x a o e⟩, fun a z => ?_, by simp [S.rl], ?_, fun n e h => ?_⟩, K⟩
  · rcases List.mem_append.mp z with w | w
    · obtain ⟨o, e⟩ := S.rtr a w; exact ⟨o, x a o e⟩
    · rw [List.mem_singleton.mp w]; exact hk
  · refine List.nodup_append.mpr ⟨S.nd, by simp, fun a h b hb => ?_⟩
    rw [List.mem_singleton.mp hb]
    exact fun z => np (z ▸ h)
  · have st := K.step O
    by_cases hn : n < j.length
    · rw [List.getElem?_append_left hn] at h
      obtain ⟨a, ea, q⟩ := S.sto n e h
      exact ⟨a, Pfx.app n a ea, q.map (x a) fun _ _ => st.den⟩
    · rw [List.getElem?_append_right (Nat.le_of_not_lt hn)] at h
      obtain ⟨i, hi⟩ : ∃ i, n - j.length = i := ⟨_, rfl⟩
      rw [hi] at h
      cases i with
      | succ i => cases h
      | zero =>
        cases h
        have en : n = ρ.length := by have := S.rl; omega
        exact ⟨p, by rw [en, List.getElem?_append_right (Nat.le_refl _), Nat.sub_self]; rfl, hc _ _ fun _ _ => st.den⟩
/-- a new list that may be changed -/
def mLstM (mr : Gm → J → R (List D)) : Gm → J → R D := fun Γ j => (mr Γ j).bind fun ds j => if ds.length ≤ 100000 then .ok (.loc j.length) (j ++ [some (.lst ds)]) else .bad
theorem me_lstM (hr : MA C E X es mr) : ME C E X (.List es pos) (mLstM mr) :=
  PE.imp (pe_lst hr) fun σ H Q ⟨O, ρ, Γ, j, S, h⟩ => ⟨O, ρ, Γ, j, S, Post.imp (Post.bind S h) fun ds j1 ρ1 H1 k1 S1 q vs hvs => by
    obtain ⟨hl, q⟩ := Post.ite q
    refine ⟨sz5 (by rw [hvs.length]; exact hl), fun p hp => ?_⟩
    have x : Ext H1 (upd H1 p (.lst vs)) := Ext.new hp
    obtain ⟨s2, k2⟩ := S1.st.push hp x ⟨_, upd_same⟩ (d := .lst ds) fun ρ2 B2 f => ⟨vs, upd_same, hvs.map f⟩
    exact q _ _ k2 (S1.keep k2 s2) _ (.loc (by rw [← S1.st.rl, List.getElem?_append_right (Nat.le_refl _), Nat.sub_self]; rfl))⟩
end
end On

set_option Elab.async false
set_option linter.all false
set_option maxRecDepth 100000
set_option maxHeartbeats 2000000
set_option autoImplicit false
namespace On
open PySem PySem.Spec PyProof.Rows L2

/-! ### statements -/
inductive RS where
  | nx (Γ : Gm) (j : J) | ret (d : D) (j : J) | brk (Γ : Gm) (j : J) | cont (Γ : Gm) (j : J) | exc (c : Nat) (fs : List (Str × D)) (Γ : Gm) (j : J) | bad
def PostS (C : Ct) (E : WX) (ρ : List Addr) (B : Addr → Prop) (H : Hp) (r : RS) (Dn : Ends) : Prop := match r with
  | .nx Γ j => ∀ O' ρ' σ' H', Step ρ B H ρ' (Bo O' ρ' j) H' → Sok C O' ρ' σ' H' Γ j → Dn.nx σ' H'
  | .ret d j => ∀ O' ρ' σ' H' Γ v, Step ρ B H ρ' (Bo O' ρ' j) H' → Sok C O' ρ' σ' H' Γ j → Den C.b ρ' H' (Bo O' ρ' j) v d → Dn.rt v H'
  | .brk Γ j => ∀ O' ρ' σ' H', Step ρ B H ρ' (Bo O' ρ' j) H' → Sok C O' ρ' σ' H' Γ j → Dn.bk σ' H'
  | .cont Γ j => ∀ O' ρ' σ' H', Step ρ B H ρ' (Bo O' ρ' j) H' → Sok C O' ρ' σ' H' Γ j → Dn.ct σ' H'
  | .exc c fs Γ j => ∀ O' ρ' σ' H' x vs, Step ρ B H ρ' (Bo O' ρ' j) H' → Sok C O' ρ' σ' H' Γ j → H' x = some (.xd vs) → ¬ Bo O' ρ' j x → DenF C.b ρ' H' (Bo O' ρ' j) vs fs → E (.ref (C.b.cm c)) (some x) σ' H'
  | .bad => False
theorem PostS.shift {C : Ct} {E : WX} {ρ ρ1 : List Addr} {B B1 : Addr → Prop} {H H1 : Hp} {r : RS} {Dn : Ends} (p : Step ρ B H ρ1 B1 H1) (h : PostS C E ρ B H r Dn) : PostS C E ρ1 B1 H1 r Dn := by
  cases r with
  | nx Γ j => exact fun O' ρ' σ' H' q => h O' ρ' σ' H' (p.trans q)
  | ret d j => exact fun O' ρ' σ' H' Γ v q => h O' ρ' σ' H' Γ v (p.trans q)
  | brk Γ j => exact fun O' ρ' σ' H' q => h O' ρ' σ' H' (p.trans q)
  | cont Γ j => exact fun O' ρ' σ' H' q => h O' ρ' σ' H' (p.trans q)
  | exc c fs Γ j => exact fun O' ρ' σ' H' x vs q => h O' ρ' σ' H' x vs (p.trans q)
  | bad => exact h
abbrev tM (C : Ct) (E : WX) (m : Gm → J → RS) : TS := fun Dn σ H => ∃ O ρ Γ j, Sok C O ρ σ H Γ j ∧ PostS C E ρ (Bo O ρ j) H (m Γ j) Dn
abbrev MS (C : Ct) (E : WX) (X : Cx) (st : Stmt) (m : Gm → J → RS) : Prop := PS X st (tM C E m)
abbrev MB (C : Ct) (E : WX) (X : Cx) (st : List Stmt) (m : Gm → J → RS) : Prop := PSs X st (tM C E m)
def R.bindS {α : Type} (r : R α) (Γ : Gm) (f : α → J → RS) : RS := match r with
  | .ok a j => f a j
  | .exc c fs j => .exc c fs Γ j
  | .bad => .bad
def RS.bindS (r : RS) (f : Gm → J → RS) : RS := match r with
  | .nx Γ j => f Γ j
  | .ret d j => .ret d j
  | .brk Γ j => .brk Γ j
  | .cont Γ j => .cont Γ j
  | .exc c fs Γ j => .exc c fs Γ j
  | .bad => .bad
section
variable {C : Ct} {E : WX} {X : Cx} {O : Addr → Prop} {ρ : List Addr} {σ : L2.St} {Γ : Gm} {H : Hp} {j : J} {Dn : Ends}
theorem PostS.of {α : Type} {r : R α} {f : α → J → RS} (S : Sok C O ρ σ H Γ j) (h : PostS C E ρ (Bo O ρ j) H (r.bindS Γ f) Dn) : Post C E O σ Γ ρ j H r fun a j1 ρ1 H1 => PostS C E ρ1 (Bo O ρ1 j1) H1 (f a j1) Dn := by
  cases r with
  | ok a j => exact fun ρ' H' k S' => PostS.shift (k.step O) h
  | exc c fs j => exact fun x vs ρ' H' k S' hx hn hf => h O ρ' σ H' x vs (k.step O) S' hx hn hf
  | bad => exact h
/-! ### blocks -/
def sNil : Gm → J → RS := fun Γ j => .nx Γ j
def sSeq (ms mr : Gm → J → RS) : Gm → J → RS := fun Γ j => (ms Γ j).bindS mr
variable {st : Stmt} {rest : List Stmt} {ms mr : Gm → J → RS} {e : Expr} {me : Gm → J → R D} {pos : Pos}
theorem mb_nil : MB C E X [] sNil := PSs.imp pss_nil fun Dn σ H ⟨O, ρ, Γ, j, S, h⟩ => h O ρ σ H Step.refl S
theorem mb_cons (h1 : MS C E X st ms) (h2 : MB C E X rest mr) : MB C E X (st :: rest) (sSeq ms mr) :=
  PSs.imp (pss_cons h1 h2) fun Dn σ H ⟨O, ρ, Γ, j, S, h⟩ => ⟨O, ρ, Γ, j, S, by
    have h : PostS C E ρ (Bo O ρ j) H ((ms Γ j).bindS mr) Dn := h
    revert h
    generalize ms Γ j = r
    intro h
    cases r with
    | nx Γ1 j1 => exact fun O' ρ' σ' H' p S' => ⟨O', ρ', Γ1, j1, S', PostS.shift p h⟩
    | ret d j1 => exact h
    | brk Γ1 j1 => exact h
    | cont Γ1 j1 => exact h
    | exc c fs Γ1 j1 => exact h
    | bad => exact h⟩
theorem mb_one (h1 : MS C E X st ms) : MB C E X [st] ms := pss_one h1
def sDrop (me : Gm → J → R D) : Gm → J → RS := fun Γ j => (me Γ j).bindS Γ fun _ j => .nx Γ j
def sRet (me : Gm → J → R D) : Gm → J → RS := fun Γ j => (me Γ j).bindS Γ fun d j => .ret d j
def sRetN : Gm → J → RS := fun _ j => .ret .non j
theorem ms_expr (he : ME C E X e me) (hs : swapsWith e none pos.line X.env = pure false := by rfl) : MS C E X (.Expr e pos) (sDrop me) :=
  PS.imp (ps_expr he hs) fun Dn σ H ⟨O, ρ, Γ, j, S, h⟩ => ⟨O, ρ, Γ, j, S, Post.imp (PostS.of S h) fun d j1 ρ1 H1 k1 S1 q v hv => q O ρ1 σ H1 Step.refl S1⟩
theorem ms_ret (he : ME C E X e me) : MS C E X (.Return (some e) pos) (sRet me) :=
  PS.imp (ps_ret he) fun Dn σ H ⟨O, ρ, Γ, j, S, h⟩ => ⟨O, ρ, Γ, j, S, Post.imp (PostS.of S h) fun d j1 ρ1 H1 k1 S1 q v hv => q O ρ1 σ H1 Γ v Step.refl S1 hv⟩
theorem ms_retN : MS C E X (.Return none pos) sRetN :=
  PS.imp ps_retN fun Dn σ H ⟨O, ρ, Γ, j, S, h⟩ => h O ρ σ H Γ .non Step.refl S .non
theorem ms_pass : MS C E X (.Pass pos) sNil := PS.imp ps_pass fun Dn σ H ⟨O, ρ, Γ, j, S, h⟩ => h O ρ σ H Step.refl S
theorem ms_break : MS C E X (.Break pos) (fun Γ j => .brk Γ j) := PS.imp ps_break fun Dn σ H ⟨O, ρ, Γ, j, S, h⟩ => h O ρ σ H Step.refl S
theorem ms_continue : MS C E X (.Continue pos) (fun Γ j => .cont Γ j) := PS.imp ps_continue fun Dn σ H ⟨O, ρ, Γ, j, S, h⟩ => h O ρ σ H Step.refl S
/-- a statement that is not reached -/
def sBad : Gm → J → RS := fun _ _ => .bad
theorem ms_never : MS C E X st sBad := PS.imp ps_never fun Dn σ H ⟨O, ρ, Γ, j, S, h⟩ => h
theorem mb_never {sts : List Stmt} : MB C E X sts sBad := PSs.imp pss_never fun Dn σ H ⟨O, ρ, Γ, j, S, h⟩ => h
def sIf (mc : Gm → J → R Bool) (ma mb : Gm → J → RS) : Gm → J → RS := fun Γ j => (mc Γ j).bindS Γ fun b j => bif b then ma Γ j else mb Γ j
theorem ms_if {c : Expr} {a b : List Stmt} {mc : Gm → J → R Bool} {ma mb : Gm → J → RS} (hc : MT C E X c mc) (ha : MB C E X a ma) (hb : MB C E X b mb) : MS C E X (.If c a b pos) (sIf mc ma mb) :=
  PS.imp (ps_if hc ha hb) fun Dn σ H ⟨O, ρ, Γ, j, S, h⟩ => ⟨O, ρ, Γ, j, S, Post.imp (PostS.of S h) fun b j1 ρ1 H1 k1 S1 q => by
    cases b with
    | true => exact iteT ⟨O, ρ1, Γ, j1, S1, q⟩
    | false => exact iteF ⟨O, ρ1, Γ, j1, S1, q⟩⟩

/-! ### stores -/
/-- slots are changed: those that are not stay -/
theorem Sok.slots {σ' : L2.St} {Γ' : Gm} (S : Sok C O ρ σ H Γ j) (hl : Γ'.length = σ'.length) (h : ∀ (i : Nat) (c : Cell), Γ'[i]? = some (some c) → (Γ[i]? = some (some c) ∧ σ'[i]? = σ[i]?) ∨ ∃ d v, c = .val d ∧ σ'[i]? = some (some v) ∧ Den C.b ρ H (Bo O ρ j) v d) : Sok C O ρ σ' H Γ' j where
  st := S.st
  len := hl
  pre := S.pre
  ex := S.ex
  b0 := S.b0
  new := S.new
  rnw := S.rnw
  slot := fun i c hc => by
    rcases h i c hc with ⟨h1, h2⟩ | ⟨d, v, rfl, h2, h3⟩
    · have q := S.slot i c h1
      cases c with
      | val d => obtain ⟨v, e, r⟩ := q; exact ⟨v, h2.trans e, r⟩
      | own d => obtain ⟨a, e, r⟩ := q; exact ⟨a, h2.trans e, r⟩
    · exact ⟨v, h2, h3⟩
  dist := fun i k ds es a h1 h2 h3 h4 => by
    rcases h i _ h1 with ⟨g1, e1⟩ | ⟨d, v, z, _⟩
    · rcases h k _ h2 with ⟨g2, e2⟩ | ⟨d, v, z, _⟩
      · exact S.dist i k ds es a g1 g2 (e1.symm.trans h3) (e2.symm.trans h4)
      · cases z
    · cases z
  b00 := S.b00
theorem set_cases {α : Type} {l : List α} {i k : Nat} {x y : α} (h : (l.set i x)[k]? = some y) : (i = k ∧ i < l.length ∧ y = x) ∨ (i ≠ k ∧ l[k]? = some y) := by
  by_cases e : i = k
  · subst e
    by_cases hl : i < l.length
    · rw [List.getElem?_set_self hl] at h
      cases h
      exact .inl ⟨rfl, hl, rfl⟩
    · rw [List.getElem?_eq_none (by simpa using hl)] at h
      cases h
  · rw [List.getElem?_set_ne e] at h
    exact .inr ⟨e, h⟩
theorem Sok.set {i : Nat} {v : V} {d : D} (S : Sok C O ρ σ H Γ j) (hv : Den C.b ρ H (Bo O ρ j) v d) : Sok C O ρ (σ.set i (some v)) H (Γ.set i (some (.val d))) j :=
  S.slots (by simpa using S.len) fun k c h => by
    rcases set_cases h with ⟨rfl, hl, e⟩ | ⟨ne, h⟩
    · cases e
      exact .inr ⟨d, v, rfl, List.getElem?_set_self (by rw [← S.len]; exact hl), hv⟩
    · exact .inl ⟨h, List.getElem?_set_ne ne⟩
def sSet (i : Nat) (me : Gm → J → R D) : Gm → J → RS := fun Γ j => (me Γ j).bindS Γ fun d j => .nx (Γ.set i (some (.val d))) j
theorem ms_set {i : Nat} {x : Str} {pos' : Pos} (hN : X.N.Nodup) (hi : X.N[i]? = some x) (hx : Loc X.env.scope x) (he : ME C E X e me) (hs : swapsWith e (some (.Name x pos')) pos.line X.env = pure false := by rfl) (hf : X.fn x = true ∨ X.env.scope.names.lookup x = some .local := by first | exact .inl rfl | exact .inr rfl | assumption) :
    MS C E X (.Assign [.Name x pos'] e pos) (sSet i me) :=
  PS.imp (ps_set hN hi hx he hs hf) fun Dn σ H ⟨O, ρ, Γ, j, S, h⟩ => ⟨O, ρ, Γ, j, S, Post.imp (PostS.of S h) fun d j1 ρ1 H1 k1 S1 q v hv => q O ρ1 _ H1 Step.refl (S1.set hv)⟩
/-! ### targets -/
/-- only the slots ts may differ -/
def Off (ts : List Nat) (σ σ' : L2.St) : Prop := σ'.length = σ.length ∧ ∀ k : Nat, k ∉ ts → σ'[k]? = σ[k]?
theorem Off.refl {ts : List Nat} {σ : L2.St} : Off ts σ σ := ⟨rfl, fun _ _ => rfl⟩
theorem Off.trans {ts : List Nat} {σ σ1 σ2 : L2.St} (p : Off ts σ σ1) (q : Off ts σ1 σ2) : Off ts σ σ2 := ⟨q.1.trans p.1, fun k h => (q.2 k h).trans (p.2 k h)⟩
theorem Off.more {ts us : List Nat} {σ σ' : L2.St} (p : Off ts σ σ') (h : ∀ k ∈ ts, k ∈ us) : Off us σ σ' := ⟨p.1, fun k n => p.2 k fun z => n (h k z)⟩
abbrev MG (C : Ct) (X : Cx) (tg : Expr) (ts : List Nat) (g : J → D → Gm → Option Gm) : Prop :=
  PG X tg fun v σ H Q => ∃ O ρ Γ j d Γ', Sok C O ρ σ H Γ j ∧ Den C.b ρ H (Bo O ρ j) v d ∧ g j d Γ = some Γ' ∧ ∀ σ', Off ts σ σ' → Sok C O ρ σ' H Γ' j → Q σ' H
abbrev MGs (C : Ct) (X : Cx) (tgs : List Expr) (ts : List Nat) (g : J → List D → Gm → Option Gm) : Prop :=
  PGs X tgs fun vs σ H Q => ∃ O ρ Γ j ds Γ', Sok C O ρ σ H Γ j ∧ DenA C.b ρ H (Bo O ρ j) vs ds ∧ g j ds Γ = some Γ' ∧ ∀ σ', Off ts σ σ' → Sok C O ρ σ' H Γ' j → Q σ' H
theorem PG.imp {tg : Expr} {t t' : TG} (h : PG X tg t) (k : ∀ v σ H Q, t' v σ H Q → t v σ H Q) : PG X tg t' := ⟨fun pins s σ H v u Q I r q => h.run pins s σ H v u Q I r (k v σ H Q q)⟩
theorem PGs.imp {tg : List Expr} {t t' : TGs} (h : PGs X tg t) (k : ∀ v σ H Q, t' v σ H Q → t v σ H Q) : PGs X tg t' := ⟨fun pins s σ H v u Q I r q => h.run pins s σ H v u Q I r (k v σ H Q q)⟩
def gN (i : Nat) : J → D → Gm → Option Gm := fun _ d Γ => some (Γ.set i (some (.val d)))
def gsNil : J → List D → Gm → Option Gm := fun _ ds Γ => match ds with | [] => some Γ | _ => none
def gsCons (g : J → D → Gm → Option Gm) (gs : J → List D → Gm → Option Gm) : J → List D → Gm → Option Gm := fun j ds Γ => match ds with
  | d :: r => (match g j d Γ with
    | some Γ' => gs j r Γ'
    | none => none)
  | [] => none
def gT (n : Nat) (gs : J → List D → Gm → Option Gm) : J → D → Gm → Option Gm := fun j d Γ => match d with
  | .tup ds => if ds.length = n then gs j ds Γ else none
  | _ => none
theorem mg_name {i : Nat} {x : Str} (hN : X.N.Nodup) (hi : X.N[i]? = some x) (hx : Loc X.env.scope x) (hf : X.fn x = true ∨ X.env.scope.names.lookup x = some .local := by first | exact .inl rfl | exact .inr rfl | assumption) : MG C X (.Name x pos) [i] (gN i) :=
  PG.imp (pg_name hN hi hx hf) fun v σ H Q ⟨O, ρ, Γ, j, d, Γ', S, hd, hg, q⟩ => by
    cases hg
    exact q _ ⟨by simp, fun k h => List.getElem?_set_ne (fun z => h (by simp [z]))⟩ (S.set hd)
theorem mgs_nil : MGs C X [] [] gsNil := PGs.imp pgs_nil fun vs σ H Q ⟨O, ρ, Γ, j, ds, Γ', S, hd, hg, q⟩ => by
  cases hd with
  | nil => cases hg; exact ⟨rfl, q _ Off.refl S⟩
  | cons _ _ => cases hg
theorem mgs_cons {es : List Expr} {ts us : List Nat} {g : J → D → Gm → Option Gm} {gs : J → List D → Gm → Option Gm} (h1 : MG C X e ts g) (h2 : MGs C X es us gs) (hs : (assignEach (e :: es) X.env).map (·.2) = assign e X.env :: (assignEach es X.env).map (·.2) := by rfl) : MGs C X (e :: es) (ts ++ us) (gsCons g gs) :=
  PGs.imp (pgs_cons h1 h2 hs) fun vs σ H Q ⟨O, ρ, Γ, j, ds, Γ', S, hd, hg, q⟩ => by
    cases hd with
    | nil => cases hg
    | @cons v d vs ds h r =>
      unfold gsCons at hg
      dsimp only at hg
      cases e1 : g j d Γ with
      | none => rw [e1] at hg; cases hg
      | some Γ1 =>
        rw [e1] at hg
        exact ⟨v, vs, rfl, O, ρ, Γ, j, d, Γ1, S, h, e1, fun σ1 o1 S1 => ⟨O, ρ, Γ1, j, ds, Γ', S1, r, hg, fun σ2 o2 => q σ2 ((o1.more fun k z => List.mem_append_left _ z).trans (o2.more fun k z => List.mem_append_right _ z))⟩⟩
theorem mg_tup {es : List Expr} {k n : Nat} {ts : List Nat} {gs : J → List D → Gm → Option Gm} (hK : X.K = C.b.K) (hc : X.calm = true) (h : MGs C X es ts gs)
    (hn : (assignEach es X.env).length = n := by rfl) (hst : (assignEach es X.env).findIdx? (·.1) = none := by rfl) : MG C X (.Tuple es k pos) ts (gT n gs) :=
  PG.imp (pg_tup hc h hn hst) fun v σ H Q ⟨O, ρ, Γ, j, d, Γ', S, hd, hg, q⟩ => by
    cases d with
    | tup ds =>
      obtain ⟨a, xs, rfl, hs, hr⟩ := (Vw.of hd).tupSq
      have hg : (if ds.length = n then gs j ds Γ else none) = some Γ' := hg
      by_cases hl : ds.length = n
      · rw [if_pos hl] at hg
        exact ⟨a, xs, rfl, by rw [hK]; exact hs, by rw [hr.length]; exact hl, O, ρ, Γ, j, ds, Γ', S, hr, hg, q⟩
      · rw [if_neg hl] at hg; cases hg
    | _ => cases hg
def sAsg (me : Gm → J → R D) (g : J → D → Gm → Option Gm) : Gm → J → RS := fun Γ j => (me Γ j).bindS Γ fun d j => match g j d Γ with
  | some Γ' => .nx Γ' j
  | none => .bad
theorem ms_asg {tg : Expr} {ts : List Nat} {g : J → D → Gm → Option Gm} (he : ME C E X e me) (hg : MG C X tg ts g) (hs : swapsWithSole [tg] e pos.line X.env = pure false := by rfl) (hw : swappedStores [tg] e X.env = pure none := by rfl)
    (h1 : (assignEach [tg] X.env).map (·.2) = [assign tg X.env] := by rfl) : MS C E X (.Assign [tg] e pos) (sAsg me g) :=
  PS.imp (ps_asg he hg hs hw h1) fun Dn σ H ⟨O, ρ, Γ, j, S, h⟩ => ⟨O, ρ, Γ, j, S, Post.imp (PostS.of S h) fun d j1 ρ1 H1 k1 S1 q v hv => by
    cases e1 : g j1 d Γ with
    | none => rw [e1] at q; exact q.elim
    | some Γ' =>
      rw [e1] at q
      exact ⟨O, ρ1, Γ, j1, d, Γ', S1, hv, e1, fun σ' _ S' => q O ρ1 σ' H1 Step.refl S'⟩⟩
/-- x, y = a, b -/
def sPar (i k : Nat) (mr : Gm → J → R (List D)) : Gm → J → RS := fun Γ j => (mr Γ j).bindS Γ fun ds j => match ds with
  | [d, e] => .nx ((Γ.set i (some (.val d))).set k (some (.val e))) j
  | _ => .bad
theorem ms_par {a b : Expr} {mr : Gm → J → R (List D)} {i k : Nat} {x y : Str} {px py pt pt2 : Pos} {kt k2 : Nat} (hc : X.calm = true) (hN : X.N.Nodup) (hi : X.N[i]? = some x) (hj : X.N[k]? = some y) (hij : i ≠ k) (hx : X.env.scope.names.lookup x = some .local) (hy : X.env.scope.names.lookup y = some .local) (ha : MA C E X [a, b] mr)
    (hw : swappedStores [.Tuple [.Name x px, .Name y py] kt pt] (.Tuple [a, b] k2 pt2) X.env = pure (some [x, y]) := by rfl) (hs : swapsWithSole [.Tuple [.Name x px, .Name y py] kt pt] (.Tuple [a, b] k2 pt2) pos.line X.env = pure false := by rfl) :
    MS C E X (.Assign [.Tuple [.Name x px, .Name y py] kt pt] (.Tuple [a, b] k2 pt2) pos) (sPar i k mr) :=
  PS.imp (ps_par hc hN hi hj hij hx hy ha hw hs) fun Dn σ H ⟨O, ρ, Γ, j, S, h⟩ => ⟨O, ρ, Γ, j, S, Post.imp (PostS.of S h) fun ds j1 ρ1 H1 k1 S1 q vs hvs => by
    cases hvs with
    | nil => exact q.elim
    | cons h1 r1 =>
      cases r1 with
      | nil => exact q.elim
      | cons h2 r2 =>
        cases r2 with
        | cons _ _ => exact q.elim
        | nil => exact ⟨_, _, rfl, q O ρ1 _ H1 Step.refl ((S1.set h1).set h2)⟩⟩
end
end On

set_option Elab.async false
set_option linter.all false
set_option maxRecDepth 100000
set_option maxHeartbeats 2000000
set_option autoImplicit false
namespace On
open PySem PySem.Spec PyProof.Rows L2

/-! ### what is walked: a list of data -/
structure Yl (C : Ct) (P : List Addr → (Addr → Prop) → Hp → Prop) (I : It) (ds : List D) : Prop where
  go : ∀ (i : Nat) ρ B H, P ρ B H → i < ds.length → I.go i H
  yld : ∀ (i : Nat) ρ B H x H' d, P ρ B H → Trk B H → ds[i]? = some d → I.yld i H x H' → Ext H H' ∧ Den C.b ρ H' B x d
  stop : ∀ (i : Nat) ρ B H, P ρ B H → ds.length ≤ i → I.stop i H
  stay : ∀ ρ B H ρ' B' H', Step ρ B H ρ' B' H' → P ρ B H → P ρ' B' H'
abbrev MI (C : Ct) (E : WX) (X : Cx) (tg iter : Expr) (m : Gm → J → R (List D)) : Prop :=
  PI X tg iter fun σ H Rr => St0 C E m σ H fun O ds j' ρ' H' => ∀ I P, Yl C P I ds → P ρ' (Bo O ρ' j') H' → Rr I H'
section
variable {C : Ct} {E : WX} {X : Cx} {tg iter e : Expr} {pos : Pos}
theorem PI.imp {t t' : TI} (h : PI X tg iter t) (k : ∀ σ H Q, t' σ H Q → t σ H Q) : PI X tg iter t' := ⟨fun pins s σ H Q I q => h.run pins s σ H Q I (k σ H Q q)⟩
/-- a list, a tuple -/
theorem yl_list {K : PySem.W.Frag} (hK : K = C.b.K) {a : Addr} {ds : List D} : Yl C (fun ρ B H => Den C.b ρ H B (.ref a) (.lst ds)) (Itl K a) ds where
  go := fun i ρ B H h hi => by
    obtain ⟨b, xs, e, hs, r⟩ := (Vw.of h).lstSq
    cases e
    have hl := r.length
    exact ⟨xs, xs[i]'(by omega), by rw [hK]; exact hs, List.getElem?_eq_getElem _⟩
  yld := fun i ρ B H x H' d h _ hd y => by
    obtain ⟨b, xs, e, hs, r⟩ := (Vw.of h).lstSq
    cases e
    obtain ⟨e, y⟩ := y
    subst e
    obtain ⟨v, hv, hr⟩ := r.get hd
    have := y xs (by rw [hK]; exact hs)
    rw [hv] at this
    cases this
    exact ⟨Ext.refl, hr⟩
  stop := fun i ρ B H h hi => by
    obtain ⟨b, xs, e, hs, r⟩ := (Vw.of h).lstSq
    cases e
    exact ⟨xs, by rw [hK]; exact hs, by rw [r.length]; exact hi⟩
  stay := fun ρ B H ρ' B' H' p h => p.den h
theorem yl_tup {K : PySem.W.Frag} (hK : K = C.b.K) {a : Addr} {ds : List D} : Yl C (fun ρ B H => Den C.b ρ H B (.ref a) (.tup ds)) (Itt K a) ds where
  go := fun i ρ B H h hi => by
    obtain ⟨b, xs, e, hs, r⟩ := (Vw.of h).tupSq
    cases e
    have hl := r.length
    exact ⟨xs, xs[i]'(by omega), by rw [hK]; exact hs, List.getElem?_eq_getElem _⟩
  yld := fun i ρ B H x H' d h _ hd y => by
    obtain ⟨b, xs, e, hs, r⟩ := (Vw.of h).tupSq
    cases e
    obtain ⟨e, y⟩ := y
    subst e
    obtain ⟨v, hv, hr⟩ := r.get hd
    have := y xs (by rw [hK]; exact hs)
    rw [hv] at this
    cases this
    exact ⟨Ext.refl, hr⟩
  stop := fun i ρ B H h hi => by
    obtain ⟨b, xs, e, hs, r⟩ := (Vw.of h).tupSq
    cases e
    exact ⟨xs, by rw [hK]; exact hs, by rw [r.length]; exact hi⟩
  stay := fun ρ B H ρ' B' H' p h => p.den h
/-- a list or a tuple -/
def iSeq (K : PySem.W.Frag) (tl : TE) : TI := fun σ H R => tl σ H fun x H1 => ∃ a, x = .ref a ∧ (((∃ xs, SqL K H1 a xs) ∧ R (Itl K a) H1) ∨ ((∃ xs, SqT K H1 a xs) ∧ R (Itt K a) H1))
theorem pi_seq {l : Expr} {tl : TE} (hl : PE X l tl) : PI X tg l (iSeq X.K tl) := by
  refine ⟨fun pins s σ H R I h => ?_⟩
  refine thn (hl.run pins s σ H _ I h) fun v s1 ⟨x, H1, I1, r1, q1⟩ => ?_
  obtain ⟨a, e, q1⟩ := q1
  subst e
  cases r1
  rcases q1 with ⟨⟨xs, hq⟩, q⟩ | ⟨⟨xs, hq⟩, q⟩
  · obtain ⟨its, rv, p, hz⟩ := I1.list hq
    refine wpAny_pyIter_list p.isList ?_
    refine ⟨s1.heap.objs.size, [s1.heap.objs.size], _, _, H1, rfl, I1.kept (t' := s1.toks) fun b o e => Heap.get?_push_of_some _ e, turn_list a _, ⟨_, Heap.get?_push_size _ rfl, rfl, rfl⟩, fun b hb => ?_, q⟩
    have e : b = s1.heap.objs.size := by simpa using hb
    subst e
    exact I1.fpOk (Nat.le_refl _) (I1.hok.fresh (Nat.le_refl _))
  · obtain ⟨its, rv, p, hz⟩ := I1.tuple hq
    refine wpAny_pyIter_tuple (show s1.heap.IsTuple a its.toArray from p) ?_
    refine ⟨s1.heap.objs.size, [s1.heap.objs.size], _, _, H1, rfl, I1.kept (t' := s1.toks) fun b o e => Heap.get?_push_of_some _ e, turn_tuple a _, ⟨_, Heap.get?_push_size _ rfl, rfl, rfl⟩, fun b hb => ?_, q⟩
    have e : b = s1.heap.objs.size := by simpa using hb
    subst e
    exact I1.fpOk (Nat.le_refl _) (I1.hok.fresh (Nat.le_refl _))
def seqOf : D → Option (List D)
  | .lst ds => some ds
  | .tup ds => some ds
  | _ => none
def iS (me : Gm → J → R D) : Gm → J → R (List D) := fun Γ j => (me Γ j).bind fun d j => lift (seqOf d) j
theorem mi_seq {me : Gm → J → R D} (hK : X.K = C.b.K) (he : ME C E X iter me) : MI C E X tg iter (iS me) :=
  PI.imp (pi_seq he) fun σ H Rr ⟨O, ρ, Γ, j, S, h⟩ => ⟨O, ρ, Γ, j, S, Post.imp (Post.bind S h) fun d j1 ρ1 H1 k1 S1 q v hv => by
    cases d with
    | lst ds =>
      have hv' := hv
      obtain ⟨a, xs, rfl, hs, r⟩ := (Vw.of hv).lstSq
      exact ⟨a, rfl, .inl ⟨⟨xs, by rw [hK]; exact hs⟩, Post.now S1 q _ _ (yl_list hK) hv'⟩⟩
    | tup ds =>
      have hv' := hv
      obtain ⟨a, xs, rfl, hs, r⟩ := (Vw.of hv).tupSq
      exact ⟨a, rfl, .inr ⟨⟨xs, by rw [hK]; exact hs⟩, Post.now S1 q _ _ (yl_tup hK) hv'⟩⟩
    | _ => exact q.elim⟩
/-- range -/
def rangeD (lo : Int) (n : Nat) : List D := (List.range n).map fun (i : Nat) => .int (lo + i)
theorem rangeD_get {lo : Int} {n i : Nat} {d : D} (h : (rangeD lo n)[i]? = some d) : i < n ∧ d = .int (lo + i) := by
  unfold rangeD at h
  rw [List.getElem?_map] at h
  by_cases hi : i < n
  · rw [List.getElem?_range hi] at h
    cases h
    exact ⟨hi, rfl⟩
  · rw [List.getElem?_eq_none (by simpa using hi)] at h
    cases h
theorem yl_range {lo : Int} {n : Nat} : Yl C (fun _ _ _ => True) (Itr lo n) (rangeD lo n) where
  go := fun i ρ B H _ h => by
    have h : i < n := by simpa [rangeD] using h
    exact h
  yld := fun i ρ B H x H' d _ _ h y => by
    obtain ⟨e, rfl⟩ := y
    subst e
    obtain ⟨_, rfl⟩ := rangeD_get h
    exact ⟨Ext.refl, .int _⟩
  stop := fun i ρ B H _ h => by
    have h : n ≤ i := by simpa [rangeD] using h
    exact h
  stay := fun _ _ _ _ _ _ _ _ => trivial
def rng1 : List D → Option (List D)
  | [.int n] => if -(2 ^ 62) ≤ n ∧ n < 2 ^ 62 then some (rangeD 0 n.toNat) else none
  | _ => none
def rng2 : List D → Option (List D)
  | [.int m, .int n] => if -(2 ^ 62) ≤ m ∧ m < 2 ^ 62 ∧ -(2 ^ 62) ≤ n ∧ n < 2 ^ 62 then some (rangeD m (n - m).toNat) else none
  | _ => none
def iR (f : List D → Option (List D)) (ma : Gm → J → R (List D)) : Gm → J → R (List D) := fun Γ j => (ma Γ j).bind fun ds j => lift (f ds) j
theorem mi_range1 {a : Expr} {ma : Gm → J → R (List D)} {p : Pos} (hg : Gl X "range") (hm : X.mg "range" = none) (ha : MA C E X [a] ma) (hs : starEach [a] X.env = [(false, eval a X.env)] := by rfl) : MI C E X tg (.Call (.Name "range" p) [a] [] pos) (iR rng1 ma) :=
  PI.imp (pi_range1 hg hm ha hs) fun σ H Rr ⟨O, ρ, Γ, j, S, h⟩ => ⟨O, ρ, Γ, j, S, Post.imp (Post.bind S h) fun ds j1 ρ1 H1 k1 S1 q vs hvs => by
    unfold rng1 at q
    split at q
    · rename_i n
      cases hvs with
      | cons h r =>
        cases r
        cases h
        by_cases c : -(2 ^ 62) ≤ n ∧ n < 2 ^ 62
        · rw [if_pos c] at q
          exact ⟨n, rfl, c.1, c.2, Post.now S1 q _ _ yl_range trivial⟩
        · rw [if_neg c] at q
          exact q.elim
    · exact q.elim⟩
theorem mi_range2 {a b : Expr} {ma : Gm → J → R (List D)} {p : Pos} (hg : Gl X "range") (hm : X.mg "range" = none) (ha : MA C E X [a, b] ma) (hs : starEach [a, b] X.env = [(false, eval a X.env), (false, eval b X.env)] := by rfl) (hs2 : starEach [b] X.env = [(false, eval b X.env)] := by rfl) :
    MI C E X tg (.Call (.Name "range" p) [a, b] [] pos) (iR rng2 ma) :=
  PI.imp (pi_range2 hg hm ha hs hs2) fun σ H Rr ⟨O, ρ, Γ, j, S, h⟩ => ⟨O, ρ, Γ, j, S, Post.imp (Post.bind S h) fun ds j1 ρ1 H1 k1 S1 q vs hvs => by
    unfold rng2 at q
    split at q
    · rename_i m n
      cases hvs with
      | cons h r =>
        cases r with
        | cons h' r =>
          cases r
          cases h
          cases h'
          by_cases c : -(2 ^ 62) ≤ m ∧ m < 2 ^ 62 ∧ -(2 ^ 62) ≤ n ∧ n < 2 ^ 62
          · rw [if_pos c] at q
            exact ⟨m, n, rfl, c, Post.now S1 q _ _ yl_range trivial⟩
          · rw [if_neg c] at q
            exact q.elim
    · exact q.elim⟩

/-! ### for -/
def loopD (g : J → D → Gm → Option Gm) (mb : Gm → J → RS) : List D → Gm → J → RS
  | [], Γ, j => .nx Γ j
  | d :: ds, Γ, j => match g j d Γ with
    | none => .bad
    | some Γ1 => match mb Γ1 j with
      | .nx Γ' j' => loopD g mb ds Γ' j'
      | .cont Γ' j' => loopD g mb ds Γ' j'
      | .brk Γ' j' => .nx Γ' j'
      | .ret d j' => .ret d j'
      | .exc c fs Γ' j' => .exc c fs Γ' j'
      | .bad => .bad
def sFor (mi : Gm → J → R (List D)) (g : J → D → Gm → Option Gm) (mb : Gm → J → RS) : Gm → J → RS := fun Γ j => (mi Γ j).bindS Γ fun ds j => loopD g mb ds Γ j
theorem drop_get {α : Type} {l : List α} {i : Nat} (h : i < l.length) : l.drop i = l[i] :: l.drop (i + 1) := List.drop_eq_getElem_cons h
theorem ms_for {body : List Stmt} {ts : List Nat} {mi : Gm → J → R (List D)} {g : J → D → Gm → Option Gm} {mb : Gm → J → RS} (hp : PassesOwn (model X.prog X.w) X.A X.env X.xe) (hc : X.calm = true) (hi : MI C E X tg iter mi) (hg : MG C X tg ts g) (hb : MB C E X body mb)
    (hs : ∀ x, foldedSetIterable iter X.env x = pure x := by intro _; rfl) : MS C E X (.For tg iter body [] pos) (sFor mi g mb) :=
  PS.imp (ps_for hp hc hi hg hb hs) fun Dn σ H ⟨O, ρ, Γ, j, S, h⟩ => ⟨O, ρ, Γ, j, S, Post.imp (PostS.of S h) fun ds j1 ρ1 H1 k1 S1 q I P Y hP => by
    refine ⟨fun i m σ2 H2 => m = ds.length - i ∧ i ≤ ds.length ∧ ∃ O2 ρ2 Γ2 j2, Sok C O2 ρ2 σ2 H2 Γ2 j2 ∧ P ρ2 (Bo O2 ρ2 j2) H2 ∧ PostS C E ρ2 (Bo O2 ρ2 j2) H2 (loopD g mb (ds.drop i) Γ2 j2) Dn, ⟨ds.length, by simp, Nat.zero_le _, O, ρ1, Γ, j1, S1, hP, q⟩, ?_⟩
    rintro i m σ2 H2 ⟨rfl, hi, O2, ρ2, Γ2, j2, S2, hP2, q2⟩
    by_cases hlt : i < ds.length
    · refine .inr ⟨Y.go i ρ2 _ H2 hP2 hlt, fun σ' H' => i + 1 ≤ ds.length ∧ ∃ O2 ρ2 Γ2 j2, Sok C O2 ρ2 σ' H' Γ2 j2 ∧ P ρ2 (Bo O2 ρ2 j2) H' ∧ PostS C E ρ2 (Bo O2 ρ2 j2) H' (loopD g mb (ds.drop (i + 1)) Γ2 j2) Dn, fun σ' H' z => ⟨ds.length - (i + 1), by omega, rfl, z.1, z.2⟩, fun x H3 y => ?_⟩
      obtain ⟨x3, d3⟩ := Y.yld i ρ2 _ H2 x H3 _ hP2 S2.trkB (List.getElem?_eq_getElem hlt) y
      have st3 : Step ρ2 (Bo O2 ρ2 j2) H2 ρ2 (Bo O2 ρ2 j2) H3 := ⟨x3.pres, fun _ z => .inl z, Pfx.refl⟩
      rw [drop_get hlt] at q2
      unfold loopD at q2
      cases e1 : g j2 ds[i] Γ2 with
      | none => rw [e1] at q2; exact q2.elim
      | some Γ3 =>
        rw [e1] at q2
        dsimp only at q2
        have S3 := S2.ext x3
        refine ⟨O2, ρ2, Γ2, j2, ds[i], Γ3, S3, d3, e1, fun σ3 _ S3' => ⟨O2, ρ2, Γ3, j2, S3', ?_⟩⟩
        have q3 := PostS.shift st3 q2
        have P3 := Y.stay _ _ _ _ _ _ st3 hP2
        revert q3
        generalize mb Γ3 j2 = r
        intro q3
        cases r with
        | nx Γ' j' => exact fun O' ρ' σ' H' p S' => ⟨hlt, O', ρ', Γ', j', S', Y.stay _ _ _ _ _ _ p P3, PostS.shift p q3⟩
        | cont Γ' j' => exact fun O' ρ' σ' H' p S' => ⟨hlt, O', ρ', Γ', j', S', Y.stay _ _ _ _ _ _ p P3, PostS.shift p q3⟩
        | brk Γ' j' => exact q3
        | ret d j' => exact q3
        | exc c fs Γ' j' => exact q3
        | bad => exact q3
    · have e : i = ds.length := by omega
      subst e
      rw [List.drop_length] at q2
      exact .inl ⟨Y.stop _ ρ2 _ H2 hP2 (Nat.le_refl _), q2 O2 ρ2 σ2 H2 Step.refl S2⟩⟩
end
end On

set_option Elab.async false
set_option linter.all false
set_option maxRecDepth 100000
set_option maxHeartbeats 2000000
set_option autoImplicit false
namespace On
open PySem PySem.Spec PyProof.Rows L2

/-! ### a def's promise, where nothing is being shown (no repr is under way): then repr of containers is known -/
structure FnG (P : Program) (w : World) (K : PySem.W.Frag) (mg : Str → Option Value) (base : Heap) (CX : CXT) (k : Nat) (f : Addr) (fd : FuncData) (ps : List Str) (sp : Sp) : Prop where
  len : ∀ vs H Q E, sp vs H Q E → vs.length = ps.length
  run : ∀ (A : Around) (outer : List Env) (s : Shared) (H : Hp) (args : Args) (us : List Value) (vs : List V) (Q : VK) (E : XK), Room k A → A.guards = some [] → Env0 P w K mg base A outer s H → BindsTo s fd args (ps.zip us) → Vals vs us → sp vs H Q E →
    codeAny (model P w) A (.call (.ref f) args) (CR CX outer P w H s Q E) s
section
variable {P : Program} {w : World} {K : PySem.W.Frag} {mg : Str → Option Value} {base : Heap} {CX : CXT} {k : Nat} {f : Addr} {fd : FuncData} {ps : List Str} {sp : Sp}
theorem FnG.of (F : FnOk P w K mg base CX k f fd ps sp) : FnG P w K mg base CX k f fd ps sp := ⟨F.len, fun A outer s H args us vs Q E hr _ => F.run A outer s H args us vs Q E hr⟩
theorem FnG.mono {j : Nat} (F : FnG P w K mg base CX j f fd ps sp) (h : j ≤ k) : FnG P w K mg base CX k f fd ps sp := ⟨F.len, fun A outer s H args us vs Q E hr => F.run A outer s H args us vs Q E (hr.mono h)⟩
theorem FnG.imp {sp' : Sp} (F : FnG P w K mg base CX k f fd ps sp) (h : ∀ vs H Q E, sp' vs H Q E → sp vs H Q E) : FnG P w K mg base CX k f fd ps sp' :=
  ⟨fun vs H Q E q => F.len vs H Q E (h _ _ _ _ q), fun A outer s H args us vs Q E hr hg he hb hv hs => F.run A outer s H args us vs Q E hr hg he hb hv (h _ _ _ _ hs)⟩
theorem fnG_of {x qual : Str} {params : Arguments} {body : List Stmt} {scope : Scope} {dvs : List V} {kws : List (Str × V)} {N : List Str} (F : FunD K x qual params body scope dvs kws f fd) (S : FnScope N ps scope) (len : ∀ vs H Q E, sp vs H Q E → vs.length = ps.length)
    (hbody : ∀ (cdv : Value) (A : Around) (outer : List Env) (s : Shared) (H : Hp) (vs : List V) (Q : VK) (E : XK), Room k (A.deeper (envOfC qual scope s.heap.objs.size f cdv)) → (A.deeper (envOfC qual scope s.heap.objs.size f cdv)).guards = some [] → sp vs H Q E →
      ∃ t, PSs (cxOf CX P w K mg base N qual scope f cdv A outer s H E) body t ∧ t { nx := fun _ H' => Q .non H', rt := Q } (L2.start N vs) H) : FnG P w K mg base CX (k + 1) f fd ps sp := by
  obtain ⟨oc, od, dV, kV, doc, pm, an, cdv, ct, osl, rfl, lk, hcd, _, _⟩ := F.ex
  refine ⟨len, fun A outer s H args us vs Q E hr hg e0 hb r hsp => ?_⟩
  have hl := len _ _ _ _ hsp
  have kp : ∀ b o, base.get? b = some o → s.heap.get? b = some o := fun b o e => (e0.bs b o e).1
  have KX : K.In s.heap := e0.mod.kin.keeps kp
  refine codeAny_call_function hr.depth (KX _ _ lk) rfl S.co S.gen rfl (PySem.W.codeRec_of KX hcd) (hb _ _ _ _ (wpAny_newFunctionEnv_cells S.kind (fun y hy => ?_) fun env he s1 x => ?_))
  · rcases S.par y.1 (List.of_mem_zip hy).1 with q | q
    · exact .inl q
    · exact .inr ⟨q, PySem.W.cellsFrom_some _ _ _ (.inl q)⟩
  · subst he
    refine ⟨(e0.mod.nolimit.keeps kp).keeps x.toInCall.keep, codeAny_func ?_⟩
    obtain ⟨t, ht, hq⟩ := hbody cdv A outer s H vs Q E (hr.deeper _) hg hsp
    have I : Inv (cxOf CX P w K mg base N qual scope f cdv A outer s H E) [] (L2.start N vs) H s1 := inv_start S hr.hd e0 hl r x
    refine wpAny_mono (ht.run [] s1 (L2.start N vs) H _ I hq) (fun fl s' hs => ?_) fun e s' hs => hs
    cases fl with
    | ret u => obtain ⟨v, σ', H', J, rv, q⟩ := hs; exact ⟨v, H', J.os, J.bare, J.base, J.hok, rv, q⟩
    | next => obtain ⟨σ', H', J, q⟩ := hs; exact ⟨V.non, H', J.os, J.bare, J.base, J.hok, rfl, q⟩
    | brk => obtain ⟨_, _, _, q⟩ := hs; exact False.elim q
    | cont => obtain ⟨_, _, _, q⟩ := hs; exact False.elim q
end
section
variable {X : Cx} {CX : CXT} {k : Nat} {f : Addr} {fd : FuncData} {ps : List Str} {sp : Sp} {E : L2.St → XK} {x : Str} {p pos : Pos} {e : Expr} {es : List Expr} {t : TA}
theorem run_G {pins : List (Addr × Obj)} {σ : L2.St} {H : Hp} {s : Shared} {Q : VK} {us : List Value} {vs : List V} (F : FnG X.prog X.w X.K X.mg X.base CX k f fd ps sp) (hr : Room k X.A) (hgd : X.A.guards = some []) (hb : Binds X.K fd ps []) (hx : PassesAt CX X σ (E σ))
    (I : Inv X pins σ H s) (r : Vals vs us) (h : sp vs H Q (E σ)) : wpAny (model X.prog X.w) X.A (call (.ref f) us) (EP X pins σ Q) X.xe s := by
  have hl : (us ++ ([] : List Value)).length = ps.length := by rw [List.append_nil, ← r.length]; exact F.len _ _ _ _ h
  have bd := hb s us I.kIn hl
  rw [List.append_nil] at bd
  refine wpAny_call (codeAny_mono (F.run X.A X.stack s H ⟨us, []⟩ us vs Q (E σ) hr hgd I.env0 bd r h) fun r s' hq => ?_)
  cases r with
  | error e => exact hx pins H s e s' I hq
  | ok fl =>
    cases fl with
    | ret u => exact I.after hq
    | next => exact False.elim hq
    | brk => exact False.elim hq
    | cont => exact False.elim hq
theorem pe_callG (F : FnG X.prog X.w X.K X.mg X.base CX k f fd ps sp) (hr : Room k X.A) (hgd : X.A.guards = some []) (hg : Gl X x) (hm : X.mg x = some (.ref f)) (hk : PySem.W.keepIn X.K (.ref f) = true) (hb : Binds X.K fd ps []) (hx : ∀ σ, PassesAt CX X σ (E σ))
    (ha : PA X (e :: es) t) (hdb : (x == ("__debug__" : Str)) = false := by decide) (he : starEach (e :: es) X.env = (false, eval e X.env) :: starEach es X.env := by rfl) (hpl : (backTo pos (starEach es X.env)).any (·.1) = false := by rfl) :
    PE X (.Call (.Name x p) (e :: es) [] pos) (tCallS sp E t) :=
  ⟨fun pins s σ H Q I h => wpAny_Call_Name_kw (ld_glob I hg hm (PySem.W.callWith_K (h₀ := X.base) I.ok.mod.kin hk (thn (ha.run pos pins s σ H _ I h) fun us s1 ⟨vs, H1, I1, r, q⟩ => ⟨I1.kIn, run_G (E := E) F hr hgd hb (hx σ) I1 r q⟩) he hpl) hdb)⟩
theorem pe_callG0 (F : FnG X.prog X.w X.K X.mg X.base CX k f fd ps sp) (hr : Room k X.A) (hgd : X.A.guards = some []) (hg : Gl X x) (hm : X.mg x = some (.ref f)) (hk : PySem.W.keepIn X.K (.ref f) = true) (hb : Binds X.K fd ps []) (hx : ∀ σ, PassesAt CX X σ (E σ))
    (hdb : (x == ("__debug__" : Str)) = false := by decide) : PE X (.Call (.Name x p) [] [] pos) (tCallS sp E tNil) :=
  ⟨fun pins s σ H Q I h => wpAny_Call_Name_kw (ld_glob I hg hm (PySem.W.callWith_K0 I.kIn hk (run_G (us := []) (E := E) F hr hgd hb (hx σ) I .nil h)) hdb)⟩
end

/-! ### what a def promises -/
/-- it hands back what g tells of its arguments and the store -/
def spG (C : Cb) (g : List D → J → R D) : Sp := fun vs H Q E => ∃ (O : Addr → Prop) (ρ : List Addr) (j : J) (ds : List D), Sto C O ρ H j ∧ DenA C ρ H (Bo O ρ j) vs ds ∧ (match g ds j with
  | .ok d j' => ∀ v ρ' H', Kp ρ j H ρ' j' H' → Sto C O ρ' H' j' → Den C ρ' H' (Bo O ρ' j') v d → Q v H'
  | .exc c fs j' => ∀ x us ρ' H', Kp ρ j H ρ' j' H' → Sto C O ρ' H' j' → H' x = some (.xd us) → ¬ Bo O ρ' j' x → DenF C ρ' H' (Bo O ρ' j') us fs → E (.ref (C.cm c)) (some x) H'
  | .bad => False)
/-- the heap without a -/
def er (H : Hp) (a : Addr) : Hp := fun b => if b = a then none else H b
theorem er_self {H : Hp} {a : Addr} : er H a a = none := if_pos rfl
theorem er_ne {H : Hp} {a b : Addr} (h : b ≠ a) : er H a b = H b := if_neg h
theorem er_some {H : Hp} {a b : Addr} {o : HO} (h : er H a b = some o) : H b = some o := by
  by_cases e : b = a
  · rw [e, er_self] at h; cases h
  · rw [er_ne e] at h; exact h
/-- an __init__: its first argument is a new thing of the class c, without fields; it leaves the fields that g tells -/
def spI (C : Cb) (c : Nat) (g : List D → J → R (List (Str × D))) : Sp := fun vs H Q E => ∃ (O : Addr → Prop) (ρ : List Addr) (j : J) (a dx : Addr) (vr : List V) (ds : List D), vs = .ref a :: vr ∧ H a = some (.ins (C.cm c) dx []) ∧ a ∉ ρ ∧ O a ∧ Sto C O ρ H j ∧ DenA C ρ H (Bo O ρ j) vr ds ∧ (match g ds j with
  | .ok fs j' => ∀ ρ' H' dx' us, Kp ρ j (er H a) ρ' j' H' → Sto C O ρ' H' j' → a ∉ ρ' → H' a = some (.ins (C.cm c) dx' us) → DenF C ρ' H' (Bo O ρ' j') us fs → Q .non H'
  | .exc c fs j' => ∀ x us ρ' H', Kp ρ j (er H a) ρ' j' H' → Sto C (fun b => O b ∧ b ≠ a) ρ' H' j' → H' x = some (.xd us) → ¬ Bo (fun b => O b ∧ b ≠ a) ρ' j' x → DenF C ρ' H' (Bo (fun b => O b ∧ b ≠ a) ρ' j') us fs → E (.ref (C.cm c)) (some x) H'
  | .bad => False)
def startG (N : List Str) (cs : List Cell) : Gm := cs.map some ++ List.replicate (N.length - cs.length) none
def outF : RS → R D
  | .nx _ j => .ok .non j
  | .ret d j => .ok d j
  | .exc c fs _ j => .exc c fs j
  | _ => .bad
def outI (c : Nat) : RS → R (List (Str × D))
  | .nx Γ j => (match Γ[(0 : Nat)]? with
    | some (some (Cell.own (D.ins c' fs))) => if c' = c then .ok fs j else .bad
    | _ => .bad)
  | .exc c fs _ j => .exc c fs j
  | _ => .bad
/-- the mirror of a def by its body's -/
def defOf (N : List Str) (n : Nat) (m : Gm → J → RS) : List D → J → R D := fun ds j => if ds.length = n then outF (m (startG N (ds.map .val)) j) else .bad
def initOf (N : List Str) (n c : Nat) (m : Gm → J → RS) : List D → J → R (List (Str × D)) := fun ds j => if ds.length + 1 = n then outI c (m (startG N (.own (.ins c []) :: ds.map .val)) j) else .bad
theorem startG_get {N : List Str} {cs : List Cell} {i : Nat} {c : Cell} (h : (startG N cs)[i]? = some (some c)) : cs[i]? = some c := by
  unfold startG at h
  by_cases hi : i < cs.length
  · rw [List.getElem?_append_left (by simpa using hi), List.getElem?_map] at h
    cases e : cs[i]? with
    | none => rw [e] at h; cases h
    | some d => rw [e] at h; cases h; rfl
  · rw [List.getElem?_append_right (by simpa using Nat.le_of_not_lt hi)] at h
    rw [List.getElem?_replicate] at h
    split at h <;> cases h
theorem start_get {N : List Str} {vs : List V} {i : Nat} {v : V} (h : vs[i]? = some v) : (L2.start N vs)[i]? = some (some v) := by
  unfold L2.start
  have hi : i < vs.length := (List.getElem?_eq_some_iff.mp h).1
  rw [List.getElem?_append_left (by simpa using hi), List.getElem?_map, h]
  rfl
theorem map_val_get {ds : List D} {i : Nat} {c : Cell} (h : (ds.map Cell.val)[i]? = some c) : ∃ d, c = .val d ∧ ds[i]? = some d := by
  rw [List.getElem?_map] at h
  cases e : ds[i]? with
  | none => rw [e] at h; cases h
  | some d => rw [e] at h; cases h; exact ⟨d, rfl, rfl⟩
section
variable {P : Program} {w : World} {mg : Str → Option Value} {base : Heap} {C : Cb} {x qual : Str} {params : Arguments} {body : List Stmt} {scope : Scope} {dvs : List V} {kws : List (Str × V)} {f : Addr} {fd : FuncData} {N ps : List Str} {k : Nat} {m : Gm → J → RS}
theorem sok_start {O : Addr → Prop} {ρ : List Addr} {j : J} {H : Hp} {vs : List V} {ds : List D} (hs : Sto C O ρ H j) (r : DenA C ρ H (Bo O ρ j) vs ds) : Sok ⟨C, H, ρ, j, O, none⟩ O ρ (L2.start N vs) H (startG N (ds.map .val)) j where
  st := hs
  len := by
    have := r.length
    simp [startG, L2.start, this]
  pre := Pfx.refl
  ex := fun a o _ h => h
  b0 := fun a h => h
  new := fun a h => .inl h
  rnw := fun a h => .inl h
  slot := fun i c h => by
    obtain ⟨d, rfl, hd⟩ := map_val_get (startG_get h)
    obtain ⟨v, hv, hr⟩ := r.get hd
    exact ⟨v, start_get hv, hr⟩
  dist := fun i k ds es a h1 => by
    obtain ⟨d, e, _⟩ := map_val_get (startG_get h1)
    cases e
  b00 := hs.trk
abbrev EX (E : XK) : WX := fun cls d _ H => E cls d H
theorem Sto.less {O O' : Addr → Prop} {ρ : List Addr} {H : Hp} {j : J} (S : Sto C O ρ H j) (h : ∀ a, O' a → O a) : Sto C O' ρ H j where
  trk := fun a z => S.trk a (h a z)
  rtr := S.rtr
  rl := S.rl
  nd := S.nd
  sto := fun n d e => let ⟨a, ea, q⟩ := S.sto n d e; ⟨a, ea, q.map (fun _ z => z) fun _ _ r => r.less fun b z => .inl (z.imp (h b) id)⟩
theorem Sok.out {Ct : Ct} {O : Addr → Prop} {ρ : List Addr} {σ : L2.St} {H : Hp} {Γ : Gm} {j : J} (S : Sok Ct O ρ σ H Γ j) : Kp Ct.ρ0 Ct.J0 Ct.H0 ρ j H ∧ Sto Ct.b Ct.O0 ρ H j := ⟨⟨S.ex, S.new, S.rnw, S.pre⟩, S.st.less S.b0⟩

theorem sok_startI {O : Addr → Prop} {ρ : List Addr} {j : J} {H : Hp} {a dx : Addr} {c : Nat} {vs : List V} {ds : List D} (hs : Sto C O ρ H j) (ha : H a = some (.ins (C.cm c) dx [])) (na : a ∉ ρ) (hO : O a) (r : DenA C ρ H (Bo O ρ j) vs ds) :
    Sok ⟨C, er H a, ρ, j, fun b => O b ∧ b ≠ a, some a⟩ O ρ (L2.start N (.ref a :: vs)) H (startG N (.own (.ins c []) :: ds.map .val)) j where
  st := hs
  len := by
    have := r.length
    simp [startG, L2.start, this]
  pre := Pfx.refl
  ex := fun b o _ h => er_some h
  b0 := fun b h => h.1
  new := fun b h => .inl h
  rnw := fun b h => .inl h
  slot := fun i c h => by
    have h := startG_get h
    cases i with
    | zero => cases h; exact ⟨a, start_get rfl, hO, er_self, na, fun _ _ _ => rfl, dx, [], ha, .nil⟩
    | succ i =>
      obtain ⟨d, rfl, hd⟩ := map_val_get (show (ds.map Cell.val)[i]? = some c from h)
      obtain ⟨v, hv, hr⟩ := r.get hd
      exact ⟨v, start_get (show (V.ref a :: vs)[i + 1]? = some v from hv), hr⟩
  dist := fun i k ds' es a' h1 h2 _ _ => by
    have h1 := startG_get h1
    have h2 := startG_get h2
    cases i with
    | zero =>
      cases k with
      | zero => rfl
      | succ k =>
        obtain ⟨d, e, _⟩ := map_val_get (show (ds.map Cell.val)[k]? = some _ from h2)
        cases e
    | succ i =>
      obtain ⟨d, e, _⟩ := map_val_get (show (ds.map Cell.val)[i]? = some _ from h1)
      cases e
  b00 := fun b z => by
    obtain ⟨o, e⟩ := hs.trk b z.1
    exact ⟨o, (er_ne z.2).trans e⟩
/-- THE RULE for a def -/
theorem okG (F : FunD C.K x qual params body scope dvs kws f fd) (S : FnScope N ps scope)
    (hbody : ∀ (cdv : Value) (A : Around) (outer : List Env) (s : Shared) (H : Hp) (Ct : Ct) (E : XK), Ct.b = C → Room k (A.deeper (envOfC qual scope s.heap.objs.size f cdv)) → (A.deeper (envOfC qual scope s.heap.objs.size f cdv)).guards = some [] →
      MB Ct (EX E) (cxOf (L2.CX P w) P w C.K mg base N qual scope f cdv A outer s H E) body m) : FnG P w C.K mg base (L2.CX P w) (k + 1) f fd ps (spG C (defOf N ps.length m)) := by
  refine fnG_of F S (fun vs H Q E h => ?_) (fun cdv A outer s H vs Q E hr hgd h => ?_)
  · obtain ⟨O, ρ, j, ds, hs, r, q⟩ := h
    by_cases hl : ds.length = ps.length
    · rw [r.length, hl]
    · unfold defOf at q
      rw [if_neg hl] at q
      exact q.elim
  · obtain ⟨O, ρ, j, ds, hs, r, q⟩ := h
    refine ⟨_, hbody cdv A outer s H ⟨C, H, ρ, j, O, none⟩ E rfl hr hgd, ?_⟩
    by_cases hl : ds.length = ps.length
    · unfold defOf at q
      rw [if_pos hl] at q
      refine ⟨O, ρ, _, j, sok_start hs r, ?_⟩
      revert q
      generalize m (startG N (ds.map .val)) j = r
      intro q
      have le : ∀ {O' : Addr → Prop} {ρ' : List Addr} {σ' : L2.St} {H' : Hp} {Γ' : Gm} {j' : J}, Sok ⟨C, H, ρ, j, O, none⟩ O' ρ' σ' H' Γ' j' → ∀ a, Bo O ρ' j' a → Bo O' ρ' j' a ∨ H' a = none := fun S a z => .inl (z.imp (S.b0 a) id)
      cases r with
      | nx Γ j' => exact fun O' ρ' σ' H' p S' => q .non ρ' H' S'.out.1 S'.out.2 .non
      | ret d j' => exact fun O' ρ' σ' H' Γ v p S' hv => q v ρ' H' S'.out.1 S'.out.2 (hv.less (le S'))
      | brk Γ j => exact q.elim
      | cont Γ j => exact q.elim
      | exc c fs Γ j => exact fun O' ρ' σ' H' x vs p S' hx hn hf => q x vs ρ' H' S'.out.1 S'.out.2 hx (fun z => hn (z.imp (S'.b0 x) id)) (hf.less (le S'))
      | bad => exact q.elim
    · unfold defOf at q
      rw [if_neg hl] at q
      exact q.elim
/-- THE RULE for an __init__ -/
theorem okI {c : Nat} (F : FunD C.K x qual params body scope dvs kws f fd) (S : FnScope N ps scope)
    (hbody : ∀ (cdv : Value) (A : Around) (outer : List Env) (s : Shared) (H : Hp) (Ct : Ct) (E : XK), Ct.b = C → Room k (A.deeper (envOfC qual scope s.heap.objs.size f cdv)) → (A.deeper (envOfC qual scope s.heap.objs.size f cdv)).guards = some [] →
      MB Ct (EX E) (cxOf (L2.CX P w) P w C.K mg base N qual scope f cdv A outer s H E) body m) : FnG P w C.K mg base (L2.CX P w) (k + 1) f fd ps (spI C c (initOf N ps.length c m)) := by
  refine fnG_of F S (fun vs H Q E h => ?_) (fun cdv A outer s H vs Q E hr hgd h => ?_)
  · obtain ⟨O, ρ, j, a, dx, vr, ds, rfl, ha, na, hO, hs, r, q⟩ := h
    by_cases hl : ds.length + 1 = ps.length
    · rw [List.length_cons, r.length, hl]
    · unfold initOf at q
      rw [if_neg hl] at q
      exact q.elim
  · obtain ⟨O, ρ, j, a, dx, vr, ds, rfl, ha, na, hO, hs, r, q⟩ := h
    refine ⟨_, hbody cdv A outer s H ⟨C, er H a, ρ, j, fun b => O b ∧ b ≠ a, some a⟩ E rfl hr hgd, ?_⟩
    by_cases hl : ds.length + 1 = ps.length
    · unfold initOf at q
      rw [if_pos hl] at q
      refine ⟨O, ρ, _, j, sok_startI hs ha na hO r, ?_⟩
      revert q
      generalize m (startG N (.own (.ins c []) :: ds.map .val)) j = r
      intro q
      cases r with
      | nx Γ j' =>
        refine fun O' ρ' σ' H' p S' => ?_
        have q : (match (match Γ[(0 : Nat)]? with
          | some (some (Cell.own (D.ins c' fs))) => if c' = c then (R.ok fs j' : R (List (Str × D))) else .bad
          | _ => .bad) with
          | .ok fs j' => ∀ ρ' H' dx' us, Kp ρ j (er H a) ρ' j' H' → Sto C O ρ' H' j' → a ∉ ρ' → H' a = some (.ins (C.cm c) dx' us) → DenF C ρ' H' (Bo O ρ' j') us fs → Q .non H'
          | .exc c fs j' => ∀ x us ρ' H', Kp ρ j (er H a) ρ' j' H' → Sto C (fun b => O b ∧ b ≠ a) ρ' H' j' → H' x = some (.xd us) → ¬ Bo (fun b => O b ∧ b ≠ a) ρ' j' x → DenF C ρ' H' (Bo (fun b => O b ∧ b ≠ a) ρ' j') us fs → E (.ref (C.cm c)) (some x) H'
          | .bad => False) := q
        cases hΓ : Γ[(0 : Nat)]? with
        | none => rw [hΓ] at q; exact q.elim
        | some o =>
          cases o with
          | none => rw [hΓ] at q; exact q.elim
          | some cl =>
            cases cl with
            | val d => rw [hΓ] at q; exact q.elim
            | own d =>
              cases d with
              | ins c' fs =>
                rw [hΓ] at q
                obtain ⟨a', e, hO', h0, n, hc, dx', us, hu, hf⟩ := S'.slot 0 _ hΓ
                have ea : some a = some a' := hc _ _ rfl
                cases ea
                have lb : ∀ b, O b → O' b := fun b z => by
                  by_cases eb : b = a
                  · rw [eb]; exact hO'
                  · exact S'.b0 b ⟨z, eb⟩
                by_cases ec : c' = c
                · dsimp only at q
                  rw [if_pos ec] at q
                  rw [ec] at hu
                  exact q ρ' H' dx' us S'.out.1 (S'.st.less lb) n hu (hf.less fun b z => .inl (z.imp (lb b) id))
                · dsimp only at q
                  rw [if_neg ec] at q
                  exact q.elim
              | _ => rw [hΓ] at q; exact q.elim
      | ret d j' => exact q.elim
      | brk Γ j => exact q.elim
      | cont Γ j => exact q.elim
      | exc c fs Γ j => exact fun O' ρ' σ' H' x vs p S' hx hn hf => q x vs ρ' H' S'.out.1 S'.out.2 hx (fun z => hn (z.imp (S'.b0 x) id)) (hf.less fun b z => .inl (z.imp (S'.b0 b) id))
      | bad => exact q.elim
    · unfold initOf at q
      rw [if_neg hl] at q
      exact q.elim
end

/-! ### calls -/
def mF (g : List D → J → R D) (ma : Gm → J → R (List D)) : Gm → J → R D := fun Γ j => (ma Γ j).bind fun ds j => g ds j
section
variable {C : Ct} {E : WX} {X : Cx} {e : Expr} {es : List Expr} {k : Nat} {f : Addr} {fd : FuncData} {ps : List Str} {x : Str} {p pos : Pos} {ma : Gm → J → R (List D)}
theorem spG_of {g : List D → J → R D} {O : Addr → Prop} {ρ : List Addr} {σ : L2.St} {Γ : Gm} {H : Hp} {j : J} {Q : VK} {vs : List V} {ds : List D} (S : Sok C O ρ σ H Γ j) (hv : DenA C.b ρ H (Bo O ρ j) vs ds) (q : Post C E O σ Γ ρ j H (g ds j) fun d j' ρ' H' => ∀ v, Den C.b ρ' H' (Bo O ρ' j') v d → Q v H') :
    spG C.b g vs H Q (WE E σ) := by
  refine ⟨O, ρ, j, ds, S.st, hv, ?_⟩
  revert q
  generalize g ds j = r
  intro q
  cases r with
  | ok d j' => exact fun v ρ' H' k s' hd => q ρ' H' k (S.keep k s') v hd
  | exc c fs j' => exact fun x us ρ' H' k s' hx hn hf => q x us ρ' H' k (S.keep k s') hx hn hf
  | bad => exact q
theorem me_call {g : List D → J → R D} (tk : Takes X E) (G : FnG X.prog X.w X.K X.mg X.base (L2.CX X.prog X.w) k f fd ps (spG C.b g)) (hr : Room k X.A) (hgd : X.A.guards = some []) (hg : Gl X x) (hm : X.mg x = some (.ref f)) (hk : PySem.W.keepIn X.K (.ref f) = true) (hb : Binds X.K fd ps [])
    (ha : MA C E X (e :: es) ma) (hdb : (x == ("__debug__" : Str)) = false := by decide) (he : starEach (e :: es) X.env = (false, eval e X.env) :: starEach es X.env := by rfl) (hpl : (backTo pos (starEach es X.env)).any (·.1) = false := by rfl) :
    ME C E X (.Call (.Name x p) (e :: es) [] pos) (mF g ma) :=
  PE.imp (pe_callG (E := WE E) G hr hgd hg hm hk hb (fun σ => passAt tk σ) ha hdb he hpl) fun σ H Q ⟨O, ρ, Γ, j, S, h⟩ => ⟨O, ρ, Γ, j, S, Post.imp (Post.bind S h) fun ds j1 ρ1 H1 k1 S1 q vs hv => spG_of S1 hv q⟩
theorem me_call0 {g : List D → J → R D} (tk : Takes X E) (G : FnG X.prog X.w X.K X.mg X.base (L2.CX X.prog X.w) k f fd ps (spG C.b g)) (hr : Room k X.A) (hgd : X.A.guards = some []) (hg : Gl X x) (hm : X.mg x = some (.ref f)) (hk : PySem.W.keepIn X.K (.ref f) = true) (hb : Binds X.K fd ps [])
    (hdb : (x == ("__debug__" : Str)) = false := by decide) : ME C E X (.Call (.Name x p) [] [] pos) (mF g mNil) :=
  PE.imp (pe_callG0 (E := WE E) G hr hgd hg hm hk hb (fun σ => passAt tk σ) hdb) fun σ H Q ⟨O, ρ, Γ, j, S, h⟩ => spG_of S .nil (by simpa [mF, mNil, R.bind] using h)
end
end On

set_option Elab.async false
set_option linter.all false
set_option maxRecDepth 100000
set_option maxHeartbeats 2000000
set_option autoImplicit false
namespace On
open PySem PySem.Spec PyProof.Rows L2

/-! ### truth -/
def truD : D → Option Bool
  | .non => some false
  | .bl b => some b
  | .int i => some (i != 0)
  | .str x => if x.length ≤ 100000 then some ((x.length : Int) != 0) else none
  | .lst xs => some (!xs.isEmpty)
  | .tup xs => some (!xs.isEmpty)
  | _ => none
theorem Vw.den {C : Cb} {ρ : List Addr} {H : Hp} {B : Addr → Prop} {v : V} {d : D} (h : Vw C ρ H B v d) (n : match d with | .lst _ => False | .dct _ => False | .ins _ _ => False | _ => True) : Den C ρ H B v d := by
  cases h with
  | of h => exact h
  | lst _ _ => exact n.elim
  | dK _ _ => exact n.elim
  | dT _ _ => exact n.elim
  | ins _ _ => exact n.elim
theorem truD_ok {C : Cb} {ρ : List Addr} {H : Hp} {B : Addr → Prop} {v : V} {d : D} {k : Bool} (h : Vw C ρ H B v d) (e : truD d = some k) : TruV C.K v H k := by
  cases d with
  | non => cases h.den trivial; cases e; rfl
  | bl b => cases h.den trivial; cases e; rfl
  | int i => cases h.den trivial; cases e; rfl
  | str x =>
    cases h.den trivial
    have e : (if x.length ≤ 100000 then some ((x.length : Int) != 0) else none) = some k := e
    by_cases c : x.length ≤ 100000
    · rw [if_pos c] at e
      cases e
      exact ⟨sz5 c, rfl⟩
    · rw [if_neg c] at e
      cases e
  | lst xs =>
    obtain ⟨a, ys, rfl, hs, r⟩ := h.lstSq
    cases e
    exact .inl ⟨ys, hs, by rw [r.isEmpty]⟩
  | tup xs =>
    obtain ⟨a, ys, rfl, hs, r⟩ := h.tupSq
    cases e
    exact .inr (.inl ⟨ys, hs, by rw [r.isEmpty]⟩)
  | _ => cases e
section
variable {C : Ct} {E : WX} {X : Cx} {a b c e : Expr} {ma mb mc : Gm → J → R D} {pos : Pos} {rest : List Expr} {ta tb : Gm → J → R Bool}
def tV (ma : Gm → J → R D) : Gm → J → R Bool := fun Γ j => (ma Γ j).bind fun d j => lift (truD (deref j d)) j
theorem mt_val (hK : X.K = C.b.K) (ha : ME C E X a ma) (he : ∀ whole, isTrue a X.env whole = (do let v ← whole; standAt a.pos; holding [v] (truthy v)) := by intro _; rfl) : MT C E X a (tV ma) :=
  PT.imp (pt_truth ha he) fun σ H Q ⟨O, ρ, Γ, j, S, h⟩ => ⟨O, ρ, Γ, j, S, Post.imp (Post.bind S h) fun d j1 ρ1 H1 k1 S1 q v hv => by
    obtain ⟨z, hz, q⟩ := post_liftB S1 q
    exact ⟨z, by rw [hK]; exact truD_ok (S1.st.view hv) hz, q⟩⟩
/-- a comparison as a test -/
def t2 (f : D → D → Option Bool) (ma mb : Gm → J → R D) : Gm → J → R Bool := fun Γ j => (ma Γ j).bind fun d j => (mb Γ j).bind fun e j => lift (f (deref j d) (deref j e)) j
def obl (f : D → D → Option Bool) : D → D → Option D := fun d e => (f d e).map .bl
theorem mt_cmp {op : CmpOp} {r : R2} {f : D → D → Option Bool} (ho : OpR X (compareOp op) r) (hf : OpD C.b r (obl f)) (ha : ME C E X a ma) (hb : ME C E X b mb) (hm : behindInMarks op b = false) : MT C E X (.Compare a [op] [b] pos) (t2 f ma mb) :=
  PT.imp (pt_cmpR ho ha hb hm) fun σ H Q ⟨O, ρ, Γ, j, S, h⟩ => ⟨O, ρ, Γ, j, S, Post.imp (Post.bind S h) fun d j1 ρ1 H1 k1 S1 q v hv =>
    ⟨O, ρ1, Γ, j1, S1, Post.imp (Post.bind S1 q) fun e j2 ρ2 H2 k2 S2 q2 u hu => by
      cases e1 : f (deref j2 d) (deref j2 e) with
      | none => rw [e1] at q2; exact q2.elim
      | some z =>
        rw [e1] at q2
        exact hf ρ2 (Bo O ρ2 j2) H2 v u _ _ (.bl z) _ S2.trkB (S2.st.view ((k2.step O).den hv)) (S2.st.view hu) (by unfold obl; rw [e1]; rfl) fun w H' x hw => by
          cases hw
          exact ⟨z, rfl, q2 ρ2 H' x.keep (S2.ext x)⟩⟩⟩
/-- a < b < c -/
def mChain (f g : D → D → Option Bool) (ma mb mc : Gm → J → R D) : Gm → J → R D := fun Γ j => (ma Γ j).bind fun d j => (mb Γ j).bind fun e j => match f (deref j d) (deref j e) with
  | some true => (mc Γ j).bind fun h j => lift ((g (deref j e) (deref j h)).map .bl) j
  | some false => .ok (.bl false) j
  | none => .bad
theorem me_chain {op op' : CmpOp} {r r' : R2} {f g : D → D → Option Bool} (ho : OpR X (compareOp op) r) (ho' : OpR X (compareOp op') r') (hf : OpD C.b r (obl f)) (hg : OpD C.b r' (obl g)) (ha : ME C E X a ma) (hb : ME C E X b mb) (hc : ME C E X c mc)
    (hm : lastMarks [op, op'] [b, c] = false := by with_unfolding_all rfl) : ME C E X (.Compare a [op, op'] [b, c] pos) (mChain f g ma mb mc) :=
  PE.imp (pe_chain ho ho' ha hb hc (hm := hm)) fun σ H Q ⟨O, ρ, Γ, j, S, h⟩ => ⟨O, ρ, Γ, j, S, Post.imp (Post.bind S h) fun d j1 ρ1 H1 k1 S1 q v hv =>
    ⟨O, ρ1, Γ, j1, S1, Post.imp (Post.bind S1 q) fun e j2 ρ2 H2 k2 S2 q2 u hu => by
      cases e1 : f (deref j2 d) (deref j2 e) with
      | none => rw [e1] at q2; exact q2.elim
      | some z =>
        rw [e1] at q2
        refine hf ρ2 (Bo O ρ2 j2) H2 v u _ _ (.bl z) _ S2.trkB (S2.st.view ((k2.step O).den hv)) (S2.st.view hu) (by unfold obl; rw [e1]; rfl) fun w H' x hw => ?_
        cases hw
        refine ⟨z, rfl, ?_⟩
        cases z with
        | false => exact iteF (q2 ρ2 H' x.keep (S2.ext x) _ (.bl false))
        | true =>
          refine iteT ⟨O, ρ2, Γ, j2, S2.ext x, Post.imp (Post.bind (S2.ext x) (Post.shift S2 x.keep q2)) fun h j3 ρ3 H3 k3 S3 q3 w hw => ?_⟩
          obtain ⟨z, hz, q4⟩ := post_lift S3 q3
          exact hg ρ3 (Bo O ρ3 j3) H3 u w _ _ z _ S3.trkB (S3.st.view ((k3.step O).den (hu.mono x.pres Pfx.refl))) (S3.st.view hw) hz q4⟩⟩
/-! ### and, or, not, if -/
def tNt (ta : Gm → J → R Bool) : Gm → J → R Bool := fun Γ j => (ta Γ j).bind fun b j => .ok (!b) j
def tAn (ta tb : Gm → J → R Bool) : Gm → J → R Bool := fun Γ j => (ta Γ j).bind fun b j => bif b then tb Γ j else .ok false j
def tOo (ta tb : Gm → J → R Bool) : Gm → J → R Bool := fun Γ j => (ta Γ j).bind fun b j => bif b then .ok true j else tb Γ j
theorem mt_not (ha : MT C E X a ta) : MT C E X (.UnaryOp .Not a pos) (tNt ta) :=
  PT.imp (pt_not ha) fun σ H Q ⟨O, ρ, Γ, j, S, h⟩ => ⟨O, ρ, Γ, j, S, Post.imp (Post.bind S h) fun b j1 ρ1 H1 k1 S1 q => Post.now S1 q⟩
theorem mw_and1 (ha : MT C E X a ta) : MW C E X (.BoolOp .And [a] pos) ta := pw_and1 ha
theorem mw_or1 (ha : MT C E X a ta) : MW C E X (.BoolOp .Or [a] pos) ta := pw_or1 ha
theorem mw_and (ha : MT C E X a ta) (hb : MW C E X (.BoolOp .And (b :: rest) pos) tb) : MW C E X (.BoolOp .And (a :: b :: rest) pos) (tAn ta tb) :=
  PW.imp (pw_and ha hb) fun σ H Q ⟨O, ρ, Γ, j, S, h⟩ => ⟨O, ρ, Γ, j, S, Post.imp (Post.bind S h) fun b j1 ρ1 H1 k1 S1 q => by
    cases b with
    | true => exact iteT ⟨O, ρ1, Γ, j1, S1, q⟩
    | false => exact iteF (Post.now S1 q)⟩
theorem mw_or (ha : MT C E X a ta) (hb : MW C E X (.BoolOp .Or (b :: rest) pos) tb) : MW C E X (.BoolOp .Or (a :: b :: rest) pos) (tOo ta tb) :=
  PW.imp (pw_or ha hb) fun σ H Q ⟨O, ρ, Γ, j, S, h⟩ => ⟨O, ρ, Γ, j, S, Post.imp (Post.bind S h) fun b j1 ρ1 H1 k1 S1 q => by
    cases b with
    | false => exact iteF ⟨O, ρ1, Γ, j1, S1, q⟩
    | true => exact iteT (Post.now S1 q)⟩
/-- as values -/
def mAn (ma mb : Gm → J → R D) : Gm → J → R D := fun Γ j => (ma Γ j).bind fun d j => match truD (deref j d) with
  | some true => mb Γ j
  | some false => .ok d j
  | none => .bad
def mOo (ma mb : Gm → J → R D) : Gm → J → R D := fun Γ j => (ma Γ j).bind fun d j => match truD (deref j d) with
  | some true => .ok d j
  | some false => mb Γ j
  | none => .bad
theorem me_one {op : BoolOp} (h : ME C E X a ma) : ME C E X (.BoolOp op [a] pos) ma := pe_one h
theorem me_and (hK : X.K = C.b.K) (ha : ME C E X a ma) (hb : ME C E X (.BoolOp .And (b :: rest) pos) mb) : ME C E X (.BoolOp .And (a :: b :: rest) pos) (mAn ma mb) :=
  PE.imp (pe_andT ha hb) fun σ H Q ⟨O, ρ, Γ, j, S, h⟩ => ⟨O, ρ, Γ, j, S, Post.imp (Post.bind S h) fun d j1 ρ1 H1 k1 S1 q v hv => by
    cases e1 : truD (deref j1 d) with
    | none => rw [e1] at q; exact q.elim
    | some z =>
      rw [e1] at q
      refine ⟨z, by rw [hK]; exact truD_ok (S1.st.view hv) e1, ?_⟩
      cases z with
      | true => exact iteT ⟨O, ρ1, Γ, j1, S1, q⟩
      | false => exact iteF (Post.now S1 q v hv)⟩
theorem me_or (hK : X.K = C.b.K) (ha : ME C E X a ma) (hb : ME C E X (.BoolOp .Or (b :: rest) pos) mb) : ME C E X (.BoolOp .Or (a :: b :: rest) pos) (mOo ma mb) :=
  PE.imp (pe_orT ha hb) fun σ H Q ⟨O, ρ, Γ, j, S, h⟩ => ⟨O, ρ, Γ, j, S, Post.imp (Post.bind S h) fun d j1 ρ1 H1 k1 S1 q v hv => by
    cases e1 : truD (deref j1 d) with
    | none => rw [e1] at q; exact q.elim
    | some z =>
      rw [e1] at q
      refine ⟨z, by rw [hK]; exact truD_ok (S1.st.view hv) e1, ?_⟩
      cases z with
      | false => exact iteF ⟨O, ρ1, Γ, j1, S1, q⟩
      | true => exact iteT (Post.now S1 q v hv)⟩
def mNt (ma : Gm → J → R D) : Gm → J → R D := fun Γ j => (ma Γ j).bind fun d j => lift ((truD (deref j d)).map fun b => .bl (!b)) j
theorem me_not (hK : X.K = C.b.K) (ha : ME C E X a ma) : ME C E X (.UnaryOp .Not a pos) (mNt ma) :=
  PE.imp (pe_notT ha) fun σ H Q ⟨O, ρ, Γ, j, S, h⟩ => ⟨O, ρ, Γ, j, S, Post.imp (Post.bind S h) fun d j1 ρ1 H1 k1 S1 q v hv => by
    cases e1 : truD (deref j1 d) with
    | none => rw [e1] at q; exact q.elim
    | some z =>
      rw [e1] at q
      exact ⟨z, by rw [hK]; exact truD_ok (S1.st.view hv) e1, Post.now S1 q _ (.bl _)⟩⟩
def mIf (tc : Gm → J → R Bool) (ma mb : Gm → J → R D) : Gm → J → R D := fun Γ j => (tc Γ j).bind fun b j => bif b then ma Γ j else mb Γ j
theorem me_if (hc : MT C E X c ta) (ha : ME C E X a ma) (hb : ME C E X b mb) : ME C E X (.IfExp c a b pos) (mIf ta ma mb) :=
  PE.imp (pe_ifExp hc ha hb) fun σ H Q ⟨O, ρ, Γ, j, S, h⟩ => ⟨O, ρ, Γ, j, S, Post.imp (Post.bind S h) fun b j1 ρ1 H1 k1 S1 q => by
    cases b with
    | true => exact iteT ⟨O, ρ1, Γ, j1, S1, q⟩
    | false => exact iteF ⟨O, ρ1, Γ, j1, S1, q⟩⟩

/-! ### comprehensions -/
def R.nox {α : Type} (r : R α) : R α := match r with
  | .ok a j => .ok a j
  | _ => .bad
abbrev EN : WX := fun _ _ _ _ => False
def wipeG (Γ : Gm) : List Nat → Gm
  | [] => Γ
  | v :: vs => (wipeG Γ vs).set v none
theorem wipeG_length (Γ : Gm) : ∀ vs : List Nat, (wipeG Γ vs).length = Γ.length
  | [] => rfl
  | v :: vs => by unfold wipeG; rw [List.length_set, wipeG_length Γ vs]
theorem wipeG_some {Γ : Gm} {i : Nat} {x : Cell} : ∀ {vs : List Nat}, (wipeG Γ vs)[i]? = some (some x) → Γ[i]? = some (some x) ∧ i ∉ vs
  | [], h => ⟨h, by simp⟩
  | v :: vs, h => by
    unfold wipeG at h
    rcases set_cases h with ⟨_, _, e⟩ | ⟨ne, h⟩
    · cases e
    · obtain ⟨h1, h2⟩ := wipeG_some h
      exact ⟨h1, by simp only [List.mem_cons, not_or]; exact ⟨fun e => ne e.symm, h2⟩⟩
theorem wipe_off {σ σ' : L2.St} (vs : List Nat) (o : Off vs σ σ') : wipe σ' vs = wipe σ vs := by
  apply List.ext_getElem?
  intro k
  by_cases hk : k ∈ vs
  · have lo : ∀ (τ : L2.St) (ws : List Nat), k ∈ ws → (wipe τ ws)[k]? = if k < τ.length then some none else none := by
      intro τ ws
      induction ws with
      | nil => intro h; cases h
      | cons w ws ih =>
        intro h
        show ((wipe τ ws).set w none)[k]? = _
        by_cases e : w = k
        · subst e
          by_cases l : w < τ.length
          · rw [List.getElem?_set_self (by rw [wipe_length]; exact l), if_pos l]
          · rw [List.getElem?_eq_none (by rw [List.length_set, wipe_length]; exact Nat.le_of_not_lt l), if_neg l]
        · rw [List.getElem?_set_ne e]
          rcases List.mem_cons.mp h with z | z
          · exact absurd z.symm e
          · exact ih z
    rw [lo _ _ hk, lo _ _ hk, o.1]
  · rw [wipe_out hk, wipe_out hk]
    exact o.2 k hk
theorem Sok.wiped {O : Addr → Prop} {ρ : List Addr} {σ : L2.St} {H : Hp} {Γ : Gm} {j : J} (S : Sok C O ρ σ H Γ j) (vs : List Nat) : Sok C O ρ (wipe σ vs) H (wipeG Γ vs) j :=
  S.slots (by rw [wipe_length, wipeG_length, S.len]) fun i c h => by
    obtain ⟨h1, h2⟩ := wipeG_some h
    exact .inl ⟨h1, wipe_out h2⟩
/-- one more thing that is not to be met: a new one, not of the store -/
theorem Sok.more {O : Addr → Prop} {ρ : List Addr} {σ : L2.St} {H : Hp} {Γ : Gm} {j : J} (S : Sok C O ρ σ H Γ j) {l : Addr} {o : HO} (hl : H l = none) : Sok C (fun a => O a ∨ a = l) ρ σ (upd H l o) Γ j := by
  have x : Ext H (upd H l o) := Ext.new hl
  have nl : ∀ a, a ∈ ρ → a ≠ l := fun a z e => by obtain ⟨o, h⟩ := S.st.rtr a z; rw [e, hl] at h; cases h
  have st : Step ρ (Bo O ρ j) H ρ (Bo (fun a => O a ∨ a = l) ρ j) (upd H l o) := ⟨x.pres, fun a z => by
    rcases z with (z | z) | z
    · exact .inl (.inl z)
    · rw [z]; exact .inr hl
    · exact .inl (.inr z), Pfx.refl⟩
  exact { st := ⟨fun a z => by
            rcases z with z | z
            · obtain ⟨o, e⟩ := S.st.trk a z; exact ⟨o, x a o e⟩
            · rw [z]; exact ⟨_, upd_same⟩, fun a z => let ⟨o, e⟩ := S.st.rtr a z; ⟨o, x a o e⟩, S.st.rl, S.st.nd, fun n d e => let ⟨a, ea, q⟩ := S.st.sto n d e; ⟨a, ea, q.map (x a) fun _ _ => st.den⟩⟩
          len := S.len, pre := S.pre, ex := fun a o n h => x a o (S.ex a o n h), b0 := fun a h => .inl (S.b0 a h), new := S.new, rnw := S.rnw
          slot := fun i c h => by
            have q := S.slot i c h
            cases c with
            | val d => obtain ⟨v, e, r⟩ := q; exact ⟨v, e, st.den r⟩
            | own d => obtain ⟨a, e, b, h0, n, hc, r⟩ := q; exact ⟨a, e, .inl b, h0, n, hc, r.map (x a) fun _ _ => st.den⟩
          dist := S.dist, b00 := S.b00 }
/-- a thing that is neither of the store nor of a slot is written -/
theorem Sok.write {O : Addr → Prop} {ρ : List Addr} {σ : L2.St} {H : Hp} {Γ : Gm} {j : J} (S : Sok C O ρ σ H Γ j) {l : Addr} {o : HO} (hl : O l) (hr : l ∉ ρ) (h0 : C.H0 l = none) (hs : ∀ (i : Nat) d, Γ[i]? = some (some (.own d)) → σ[i]? ≠ some (some (.ref l))) : Sok C O ρ σ (upd H l o) Γ j := by
  have st : Step ρ (Bo O ρ j) H ρ (Bo O ρ j) (upd H l o) := ⟨Pres.at (.inl hl), fun a z => .inl z, Pfx.refl⟩
  have kp : ∀ a, a ≠ l → ∀ u, H a = some u → upd H l o a = some u := fun a n u e => by rw [upd_ne n]; exact e
  have nl : ∀ a, a ∈ ρ → a ≠ l := fun a z e => hr (e ▸ z)
  have th : ∀ a, (∃ u, H a = some u) → ∃ u, upd H l o a = some u := fun a ⟨u, e⟩ => by
    by_cases q : a = l
    · rw [q]; exact ⟨_, upd_same⟩
    · exact ⟨u, kp a q u e⟩
  exact { st := ⟨fun a z => th a (S.st.trk a z), fun a z => th a (S.st.rtr a z), S.st.rl, S.st.nd, fun n d e => let ⟨a, ea, q⟩ := S.st.sto n d e; ⟨a, ea, q.map (kp a (nl a (List.mem_iff_getElem?.mpr ⟨n, ea⟩))) fun _ _ => st.den⟩⟩
          len := S.len, pre := S.pre, ex := fun a u n h => kp a (fun e => by rw [e, h0] at h; cases h) u (S.ex a u n h), b0 := S.b0, new := S.new, rnw := S.rnw
          slot := fun i c h => by
            have q := S.slot i c h
            cases c with
            | val d => obtain ⟨v, e, r⟩ := q; exact ⟨v, e, st.den r⟩
            | own d => obtain ⟨a, e, b, g0, n, hc, r⟩ := q; exact ⟨a, e, b, g0, n, hc, r.map (kp a fun z => hs i d h (by rw [← z]; exact e)) fun _ _ => st.den⟩
          dist := S.dist, b00 := S.b00 }
def lcMap (g : J → D → Gm → Option Gm) (mt : Gm → J → R Bool) (me : Gm → J → R D) (Γ : Gm) : List D → J → R (List D)
  | [], j => .ok [] j
  | d :: ds, j => match g j d Γ with
    | none => .bad
    | some Γ1 => (mt Γ1 j).nox.bind fun b j => bif b then (me Γ1 j).nox.bind fun e j => (lcMap g mt me Γ ds j).bind fun es j => .ok (e :: es) j else lcMap g mt me Γ ds j
def mLc (mi : Gm → J → R (List D)) (g : J → D → Gm → Option Gm) (mt : Gm → J → R Bool) (me : Gm → J → R D) (vs : List Nat) : Gm → J → R D := fun Γ j => (mi Γ j).bind fun ds j => if ds.length ≤ 100000 then (lcMap g mt me (wipeG Γ vs) ds j).bind fun es j => .ok (.lst es) j else .bad
abbrev MTs (C : Ct) (E : WX) (X : Cx) (ifs : List Expr) (m : Gm → J → R Bool) : Prop :=
  PTs X ifs fun σ H Q => St0 C E m σ H fun _ b _ _ H' => Q b H'
def tT : Gm → J → R Bool := fun _ j => .ok true j
theorem PTs.imp {ifs : List Expr} {t t' : TT} (h : PTs X ifs t) (k : ∀ σ H Q, t' σ H Q → t σ H Q) : PTs X ifs t' := ⟨fun pins s σ H Q I q => h.run pins s σ H Q I (k σ H Q q)⟩
theorem mts_nil : MTs C E X [] tT := PTs.imp pts_nil fun σ H Q ⟨O, ρ, Γ, j, S, h⟩ => Post.now S h
theorem mts_one (ha : MT C E X a ta) : MTs C E X [a] ta := pts_one ha
theorem lc_read {ts vs : List Nat} {mi : Gm → J → R (List D)} {g : J → D → Gm → Option Gm} {mt : Gm → J → R Bool} {me : Gm → J → R D} (hts : ∀ k ∈ ts, k ∈ vs) {σ : L2.St} {H : Hp} {Q : VK}
    (h0 : St0 C E (mLc mi g mt me vs) σ H fun O d j' ρ' H' => ∀ v, Den C.b ρ' H' (Bo O ρ' j') v d → Q v H') :
    tLc (fun σ H Rr => St0 C E mi σ H fun O ds j' ρ' H' => ∀ I P, Yl C P I ds → P ρ' (Bo O ρ' j') H' → Rr I H')
      (fun v σ H Q => ∃ O ρ Γ j d Γ', Sok C O ρ σ H Γ j ∧ Den C.b ρ H (Bo O ρ j) v d ∧ g j d Γ = some Γ' ∧ ∀ σ', Off ts σ σ' → Sok C O ρ σ' H Γ' j → Q σ' H)
      (fun σ H Q => St0 C EN mt σ H fun _ b _ _ H' => Q b H')
      (fun σ H Q => St0 C EN me σ H fun O d j' ρ' H' => ∀ v, Den C.b ρ' H' (Bo O ρ' j') v d → Q v H') vs σ H Q := by
  obtain ⟨O, ρ, Γ, j, S, h⟩ := h0
  refine ⟨O, ρ, Γ, j, S, Post.imp (Post.bind S h) fun ds j1 ρ1 H1 k1 S1 q I P Y hP => ?_⟩
  intro L hL
  obtain ⟨hlen, q⟩ := Post.ite q
  have nρ : L ∉ ρ1 := fun z => by obtain ⟨o, e⟩ := S1.st.rtr L z; rw [hL] at e; cases e
  let O' : Addr → Prop := fun a => O a ∨ a = L
  have hO : ∀ a, O a → O' a := fun a z => .inl z
  have hN : ∀ a, O' a → O a ∨ H1 a = none := fun a z => z.imp id fun e => by rw [e]; exact hL
  have x0 : Ext H1 (upd H1 L (.lst [])) := Ext.new hL
  have s0 : Sto C.b O' ρ1 (upd H1 L (.lst [])) j1 := (S1.more (o := .lst []) hL).st
  have q0 : Post C E O σ Γ ρ1 j1 H1 ((lcMap g mt me (wipeG Γ vs) (ds.drop 0) j1).bind fun fs j => .ok (.lst (([] : List D) ++ fs)) j) fun d j' ρ' H' => ∀ v, Den C.b ρ' H' (Bo O ρ' j') v d → Q v H' := q
  let W : Nat → Hp → Prop := fun i H2 => ∃ (ρ2 : List Addr) (j2 : J) (acc : List V) (es : List D), Kp ρ1 j1 H1 ρ2 j2 H2 ∧ Sto C.b O' ρ2 H2 j2 ∧ L ∉ ρ2 ∧ H2 L = some (.lst acc) ∧ acc.length ≤ i ∧ DenA C.b ρ2 H2 (Bo O' ρ2 j2) acc es ∧ P ρ2 (Bo O' ρ2 j2) H2 ∧
      Post C E O σ Γ ρ1 j1 H1 ((lcMap g mt me (wipeG Γ vs) (ds.drop i) j2).bind fun fs j => .ok (.lst (es ++ fs)) j) fun d j' ρ' H' => ∀ v, Den C.b ρ' H' (Bo O ρ' j') v d → Q v H'
  refine ⟨fun i m H2 => m = ds.length - i ∧ i ≤ ds.length ∧ W i H2, ⟨ds.length, by simp, Nat.zero_le _, ρ1, j1, [], [], x0.keep, s0, nρ, upd_same, Nat.le_refl _, .nil, Y.stay _ _ _ _ _ _ ((Ext.keep x0).stepO hN) hP, q0⟩, ?_⟩
  rintro i m H2 ⟨rfl, hi, ρ2, j2, acc, es, k2, s2, n2, hl2, hacc, r2, hP2, q2⟩
  by_cases hlt : i < ds.length
  · refine .inr ⟨Y.go i _ _ H2 hP2 hlt, fun H3 => i + 1 ≤ ds.length ∧ W (i + 1) H3, fun H3 z => ⟨ds.length - (i + 1), by omega, rfl, z.1, z.2⟩, fun x H3 y => ?_⟩
    have S2 : Sok C O' ρ2 (wipe σ vs) H2 (wipeG Γ vs) j2 := (S1.wiped vs).keepO k2 hO hN s2
    obtain ⟨x3, d3⟩ := Y.yld i ρ2 _ H2 x H3 _ hP2 S2.trkB (List.getElem?_eq_getElem hlt) y
    rw [drop_get hlt] at q2
    unfold lcMap at q2
    cases e1 : g j2 ds[i] (wipeG Γ vs) with
    | none => rw [e1] at q2; exact q2.elim
    | some Γ3 =>
      rw [e1] at q2
      dsimp only at q2
      refine ⟨O', ρ2, wipeG Γ vs, j2, ds[i], Γ3, S2.ext x3, d3, e1, fun σ3 o3 S3 => ⟨?_, O', ρ2, Γ3, j2, S3, ?_⟩⟩
      · exact (wipe_off vs (o3.more hts)).trans (by rw [wipe_off vs]; exact ⟨wipe_length _ _, fun k hk => wipe_out hk⟩)
      · have k3 : Kp ρ1 j1 H1 ρ2 j2 H3 := S1.kpt k2 x3.keep
        have hl3 : H3 L = some (.lst acc) := x3 _ _ hl2
        have P3 : P ρ2 (Bo O' ρ2 j2) H3 := Y.stay _ _ _ _ _ _ ((Ext.keep x3).step O') hP2
        have r3 := ((Ext.keep x3).step O').denA r2
        -- the test
        revert q2
        generalize mt Γ3 j2 = rt
        intro q2
        cases rt with
        | exc c fs j3 => exact q2.elim
        | bad => exact q2.elim
        | ok b j4 =>
          refine fun ρ4 H4 k4 S4 => ?_
          have n4 : L ∉ ρ4 := fun z => (k4.frs L z).elim n2 fun e => by rw [hl3] at e; cases e
          have l4 : H4 L = some (.lst acc) := k4.keep _ _ (fun z => n2 z.mem) hl3
          have P4 : P ρ4 (Bo O' ρ4 j4) H4 := Y.stay _ _ _ _ _ _ (k4.step O') P3
          have r4 := (k4.step O').denA r3
          have K4 := S1.kpt k3 k4
          cases b with
          | false => exact iteF ⟨hlt, ρ4, j4, acc, es, K4, S4.st, n4, l4, Nat.le_succ_of_le hacc, r4, P4, q2⟩
          | true =>
            refine iteT ⟨O', ρ4, Γ3, j4, S4, ?_⟩
            have q2 : Post C E O σ Γ ρ1 j1 H1 (((me Γ3 j4).nox.bind fun e j => (lcMap g mt me (wipeG Γ vs) (ds.drop (i + 1)) j).bind fun es j => .ok (e :: es) j).bind fun fs j => .ok (.lst (es ++ fs)) j) fun d j' ρ' H' => ∀ v, Den C.b ρ' H' (Bo O ρ' j') v d → Q v H' := q2
            revert q2
            generalize me Γ3 j4 = re
            intro q2
            cases re with
            | exc c fs j5 => exact q2.elim
            | bad => exact q2.elim
            | ok e j5 =>
              refine fun ρ5 H5 k5 S5 v hv => ?_
              have n5 : L ∉ ρ5 := fun z => (k5.frs L z).elim n4 fun e => by rw [l4] at e; cases e
              have l5 : H5 L = some (.lst acc) := k5.keep _ _ (fun z => n4 z.mem) l4
              have K5 := S1.kpt K4 k5
              have kL : Step ρ5 (Bo O' ρ5 j5) H5 ρ5 (Bo O' ρ5 j5) (upd H5 L (.lst (acc ++ [v]))) := ⟨Pres.at (.inl (.inr rfl)), fun _ z => .inl z, Pfx.refl⟩
              refine ⟨acc, l5, Nat.lt_of_le_of_lt hacc (Nat.lt_of_lt_of_le hlt (sz5 hlen)), hlt, ρ5, j5, acc ++ [v], es ++ [e], ?_, S5.st.write (.inr rfl) n5, n5, upd_same, by simpa using hacc, ?_, ?_, ?_⟩
              · exact ⟨fun a o n ea => by rw [upd_ne (ne_of_none ea hL)]; exact K5.keep a o n ea, K5.grow, K5.frs, K5.pfx⟩
              · exact (kL.denA ((k5.step O').denA r4)).append (.cons (kL.den hv) .nil)
              · exact Y.stay _ _ _ _ _ _ kL (Y.stay _ _ _ _ _ _ (k5.step O') P4)
              · have q3 : Post C E O σ Γ ρ1 j1 H1 (((lcMap g mt me (wipeG Γ vs) (ds.drop (i + 1)) j5).bind fun es j => .ok (e :: es) j).bind fun fs j => .ok (.lst (es ++ fs)) j) fun d j' ρ' H' => ∀ v, Den C.b ρ' H' (Bo O ρ' j') v d → Q v H' := q2
                revert q3
                generalize lcMap g mt me (wipeG Γ vs) (ds.drop (i + 1)) j5 = rr
                intro q3
                cases rr with
                | ok fs j5 => simpa [R.bind] using q3
                | exc c fs j5 => exact q3
                | bad => exact q3
  · have e : i = ds.length := by omega
    subst e
    rw [List.drop_length] at q2
    refine .inl ⟨Y.stop _ _ _ H2 hP2 (Nat.le_refl _), ?_⟩
    have q3 : Post C E O σ Γ ρ1 j1 H1 (.ok (.lst (es ++ [])) j2) fun d j' ρ' H' => ∀ v, Den C.b ρ' H' (Bo O ρ' j') v d → Q v H' := q2
    rw [List.append_nil] at q3
    have lo : ∀ a, Bo O ρ2 j2 a → Bo O' ρ2 j2 a ∨ H2 a = none := fun a z => .inl (z.imp (hO a) id)
    have nB : ¬ Bo O ρ2 j2 L := fun z => by
      rcases z with z | z
      · obtain ⟨o, e⟩ := S1.st.trk L z; rw [hL] at e; cases e
      · exact n2 z.mem
    exact q3 ρ2 H2 k2 (S1.keep k2 (s2.less hO)) _ (.lst hl2 nB (r2.less lo))
end
end On

set_option Elab.async false
set_option linter.all false
set_option maxRecDepth 100000
set_option maxHeartbeats 2000000
set_option autoImplicit false
namespace On
open PySem PySem.Spec PyProof.Rows L2

/-! ### comprehensions as values, stored -/
section
variable {C : Ct} {E : WX} {X : Cx} {elt tg iter : Expr} {ifs : List Expr} {scope : Scope} {own : List (Str × Nat)} {pos : Pos} {ts : List Nat} {mi : Gm → J → R (List D)} {g : J → D → Gm → Option Gm} {mt : Gm → J → R Bool} {me : Gm → J → R D}
theorem me_lc (hc : X.calm = true) (hN : X.N.Nodup) (hi : MI C E X tg iter mi) (ok : BlkOk X.N X.env.scope scope own)
    (hg : ∀ (s : Shared) (H : Hp) (A : Addr) (cl : List (Str × Addr)) (fp : List Addr), MG C (X.blk s H scope (compEnvC scope cl A X.env) fp) tg ts g)
    (ht : ∀ (s : Shared) (H : Hp) (A : Addr) (cl : List (Str × Addr)) (fp : List Addr), MTs C EN (X.blk s H scope (compEnvC scope cl A X.env) fp) ifs mt)
    (he : ∀ (s : Shared) (H : Hp) (A : Addr) (cl : List (Str × Addr)) (fp : List Addr), ME C EN (X.blk s H scope (compEnvC scope cl A X.env) fp) elt me)
    (hts : ∀ k ∈ ts, k ∈ own.map (·.2)) (hs : ∀ x, foldedSetIterable iter X.env x = pure x := by intro _; rfl) :
    ME C E X (.ListComp elt [⟨tg, iter, ifs, 0⟩] scope pos) (mLc mi g mt me (own.map (·.2))) :=
  PE.imp (pe_lc hc hN hi ok hg ht he hs) fun σ H Q h => lc_read hts h
theorem ms_setLc {i : Nat} {y : Str} {py spos : Pos} (hc : X.calm = true) (hN : X.N.Nodup) (hy : X.N[i]? = some y) (hyl : X.env.scope.names.lookup y = some .local)
    (hsw : swapsWith (.ListComp elt [⟨tg, iter, ifs, 0⟩] scope pos) (some (.Name y py)) spos.line X.env = pure true) (hi : MI C E X tg iter mi) (ok : BlkOk X.N X.env.scope scope own)
    (hg : ∀ (s : Shared) (H : Hp) (A : Addr) (cl : List (Str × Addr)) (fp : List Addr), MG C (X.blk s H scope (compEnvC scope cl A X.env) fp) tg ts g)
    (ht : ∀ (s : Shared) (H : Hp) (A : Addr) (cl : List (Str × Addr)) (fp : List Addr), MTs C EN (X.blk s H scope (compEnvC scope cl A X.env) fp) ifs mt)
    (he : ∀ (s : Shared) (H : Hp) (A : Addr) (cl : List (Str × Addr)) (fp : List Addr), ME C EN (X.blk s H scope (compEnvC scope cl A X.env) fp) elt me)
    (hts : ∀ k ∈ ts, k ∈ own.map (·.2)) (hs : ∀ x, foldedSetIterable iter X.env x = pure x := by intro _; rfl) :
    MS C E X (.Assign [.Name y py] (.ListComp elt [⟨tg, iter, ifs, 0⟩] scope pos) spos) (sSet i (mLc mi g mt me (own.map (·.2)))) :=
  PS.imp (ps_setLc hc hN hy hyl hsw hi ok hg ht he hs) fun Dn σ H ⟨O, ρ, Γ, j, S, h⟩ =>
    lc_read hts ⟨O, ρ, Γ, j, S, Post.imp (PostS.of S h) fun d j1 ρ1 H1 k1 S1 q v hv => q O ρ1 _ H1 Step.refl (S1.set hv)⟩
end

/-! ### arithmetic on data -/
section
variable {C : Cb}
def b2 (b : Bool) : Int := if b then 1 else 0
def CM (i j : Int) : Bool := (decide (-(2 ^ 64) < i) && decide (i < 2 ^ 64)) || (decide (-(2 ^ 64) < j) && decide (j < 2 ^ 64))
theorem CM.ok {i j : Int} (h : CM i j = true) : CMul i j := by
  unfold CM at h
  simp only [Bool.or_eq_true, Bool.and_eq_true, decide_eq_true_eq] at h
  exact h
def fSub : D → D → Option D
  | .int i, .int j => some (.int (i - j))
  | _, _ => none
theorem od_sub : OpD C (rI0 fun i j => .int (i - j)) fSub := fun ρ B H x y d e z Q ht hx hy hz k => by
  unfold fSub at hz
  split at hz
  · cases hx.den trivial; cases hy.den trivial; cases hz
    exact ⟨_, _, rfl, rfl, k _ H Ext.refl (.int _)⟩
  · cases hz
def fMod : D → D → Option D
  | .int i, .int j => if 0 < j then some (.int (i % j)) else none
  | _, _ => none
theorem od_mod : OpD C (rI (fun _ j => 0 < j) fun i j => .int (i % j)) fMod := fun ρ B H x y d e z Q ht hx hy hz k => by
  unfold fMod at hz
  split at hz
  · rename_i i j
    by_cases c : 0 < j
    · rw [if_pos c] at hz
      cases hx.den trivial; cases hy.den trivial; cases hz
      exact ⟨_, _, rfl, rfl, c, k _ H Ext.refl (.int _)⟩
    · rw [if_neg c] at hz; cases hz
  · cases hz
def fDiv : D → D → Option D
  | .int i, .int j => if 0 < j ∧ j.natAbs.log2 < 9000 then some (.int (i / j)) else none
  | _, _ => none
theorem od_div : OpD C (rI CDivW fun i j => .int (i / j)) fDiv := fun ρ B H x y d e z Q ht hx hy hz k => by
  unfold fDiv at hz
  split at hz
  · rename_i i j
    by_cases c : 0 < j ∧ j.natAbs.log2 < 9000
    · rw [if_pos c] at hz
      cases hx.den trivial; cases hy.den trivial; cases hz
      exact ⟨_, _, rfl, rfl, c, k _ H Ext.refl (.int _)⟩
    · rw [if_neg c] at hz; cases hz
  · cases hz
def CP (i j : Int) : Prop := 0 ≤ j ∧ (Builtin.Int.intBits i : Int) * j ≤ 2 ^ 27
instance (i j : Int) : Decidable (CP i j) := inferInstanceAs (Decidable (0 ≤ j ∧ (Builtin.Int.intBits i : Int) * j ≤ 2 ^ 27))
theorem op_powW {X : Cx} : OpR X (binaryOp .Pow) (rI CP fun i j => .int (i ^ j.toNat)) := opI fun _ _ _ _ _ _ _ hc q => pow_int hc.1 hc.2 q
def fPow : D → D → Option D
  | .int i, .int j => if CP i j then some (.int (i ^ j.toNat)) else none
  | _, _ => none
theorem od_pow : OpD C (rI CP fun i j => .int (i ^ j.toNat)) fPow := fun ρ B H x y d e z Q ht hx hy hz k => by
  unfold fPow at hz
  split at hz
  · rename_i i j
    by_cases c : CP i j
    · rw [if_pos c] at hz
      cases hx.den trivial; cases hy.den trivial; cases hz
      exact ⟨_, _, rfl, rfl, c, k _ H Ext.refl (.int _)⟩
    · rw [if_neg c] at hz; cases hz
  · cases hz
/-- + : ints, texts, lists, tuples -/
def fAdd : D → D → Option D
  | .int i, .int j => some (.int (i + j))
  | .str x, .str y => if x.length + y.length ≤ 100000 then some (.str (x ++ y)) else none
  | .lst x, .lst y => if x.length + y.length ≤ 100000 then some (.lst (x ++ y)) else none
  | .tup x, .tup y => if x.length + y.length ≤ 100000 then some (.tup (x ++ y)) else none
  | _, _ => none
def rAddU (K : PySem.W.Frag) : R2 := fun x y H Q => (∃ i j, x = .int i ∧ y = .int j ∧ Q (.int (i + j)) H) ∨ (∃ i j, x = .str i ∧ y = .str j ∧ i.length + j.length ≤ sizeLine ∧ Q (.str (i ++ j)) H) ∨ rCat x y H Q ∨ rCatA K x y H Q
theorem op_addU {X : Cx} : OpR X (binaryOp .Add) (rAddU X.K) := op_add.or (op_add_str.or (op_cat.or op_catA))
theorem od_add : OpD C (rAddU C.K) fAdd := fun ρ B H x y d e z Q ht hx hy hz k => by
  unfold fAdd at hz
  split at hz
  · cases hx.den trivial; cases hy.den trivial; cases hz
    exact .inl ⟨_, _, rfl, rfl, k _ H Ext.refl (.int _)⟩
  · rename_i a b
    by_cases c : a.length + b.length ≤ 100000
    · rw [if_pos c] at hz
      cases hx.den trivial; cases hy.den trivial; cases hz
      exact .inr (.inl ⟨_, _, rfl, rfl, sz5 c, k _ H Ext.refl (.str _)⟩)
    · rw [if_neg c] at hz; cases hz
  · rename_i a b
    by_cases c : a.length + b.length ≤ 100000
    · rw [if_pos c] at hz
      cases hz
      obtain ⟨l, xs, rfl, h1, r1⟩ := hx.lstRd
      obtain ⟨m, ys, rfl, h2, r2⟩ := hy.lstRd
      refine .inr (.inr (.inl ⟨l, m, xs, ys, rfl, rfl, h1, h2, sz5 (by rw [r1.length, r2.length]; exact c), fun p hp => ?_⟩))
      have x0 : Ext H (upd H p (.lst (xs ++ ys))) := Ext.new hp
      exact k _ _ x0 (.lst upd_same (fun z => by obtain ⟨o, e⟩ := ht p z; rw [hp] at e; cases e) ((r1.append r2).mono x0.pres Pfx.refl))
    · rw [if_neg c] at hz; cases hz
  · rename_i a b
    by_cases c : a.length + b.length ≤ 100000
    · rw [if_pos c] at hz
      cases hz
      have hx' := hx.den trivial
      have hy' := hy.den trivial
      obtain ⟨l, xs, rfl, h1, r1⟩ := hx.tupSq
      obtain ⟨m, ys, rfl, h2, r2⟩ := hy.tupSq
      refine .inr (.inr (.inr ⟨l, m, xs, ys, rfl, rfl, h1, h2, sz5 (by rw [r1.length, r2.length]; exact c), ?_, ?_, ?_⟩))
      · intro e
        subst e
        cases r1
        exact k _ H Ext.refl hy'
      · intro _ e
        subst e
        cases r2
        rw [List.append_nil] at k
        exact k _ H Ext.refl hx'
      · intro _ _ p hp
        have x0 : Ext H (upd H p (.tup (xs ++ ys))) := Ext.new hp
        exact k _ _ x0 (.tup (.inl upd_same) (fun z => by obtain ⟨o, e⟩ := ht p z; rw [hp] at e; cases e) ((r1.append r2).mono x0.pres Pfx.refl))
    · rw [if_neg c] at hz; cases hz
  · cases hz
theorem trk_no {B : Addr → Prop} {H : Hp} {p : Addr} (ht : Trk B H) (hp : H p = none) : ¬ B p := fun z => by
  obtain ⟨o, e⟩ := ht p z
  rw [hp] at e
  cases e
/-- * : ints; a tuple, a list by a number -/
def fMul : D → D → Option D
  | .int i, .int j => if CM i j = true then some (.int (i * j)) else none
  | .tup x, .int k => if x.isEmpty = false ∧ 2 ≤ k ∧ k ≤ 1000 ∧ x.length ≤ 100 then some (.tup (List.replicate k.toNat x).flatten) else none
  | _, _ => none
def rMulU (K : PySem.W.Frag) : R2 := fun x y H Q => rI CMul (fun i j => .int (i * j)) x y H Q ∨ rRepT K x y H Q
theorem op_mulU {X : Cx} : OpR X (binaryOp .Mult) (rMulU X.K) := op_mul.or op_repT
theorem DenA.rep {ρ : List Addr} {H : Hp} {B : Addr → Prop} {vs : List V} {ds : List D} (r : DenA C ρ H B vs ds) : ∀ n : Nat, DenA C ρ H B (List.replicate n vs).flatten (List.replicate n ds).flatten
  | 0 => .nil
  | n + 1 => by
    rw [List.replicate_succ, List.replicate_succ, List.flatten_cons, List.flatten_cons]
    exact r.append (r.rep n)
theorem od_mul : OpD C (rMulU C.K) fMul := fun ρ B H x y d e z Q ht hx hy hz k => by
  unfold fMul at hz
  split at hz
  · rename_i i j
    by_cases c : CM i j = true
    · rw [if_pos c] at hz
      cases hx.den trivial; cases hy.den trivial; cases hz
      exact .inl ⟨_, _, rfl, rfl, CM.ok c, k _ H Ext.refl (.int _)⟩
    · rw [if_neg c] at hz; cases hz
  · rename_i a n
    by_cases c : a.isEmpty = false ∧ 2 ≤ n ∧ n ≤ 1000 ∧ a.length ≤ 100
    · rw [if_pos c] at hz
      cases hz
      cases hy.den trivial
      obtain ⟨l, xs, rfl, h1, r1⟩ := hx.tupSq
      refine .inr ⟨l, n, xs, rfl, rfl, h1, ?_, c.2.1, c.2.2.1, by rw [r1.length]; omega, fun p hp => ?_⟩
      · intro e
        subst e
        cases r1
        exact absurd c.1 (by simp)
      · have x0 : Ext H (upd H p (.tup (List.replicate n.toNat xs).flatten)) := Ext.new hp
        exact k _ _ x0 (.tup (.inl upd_same) (trk_no ht hp) ((r1.rep _).mono x0.pres Pfx.refl))
    · rw [if_neg c] at hz; cases hz
  · cases hz

/-! ### comparisons -/
/-- the order: ints, texts -/
def ltS (x y : Str) : Bool := decide (x.cps.toList < y.cps.toList)
def fLt : D → D → Option Bool
  | .int i, .int j => some (decide (i < j))
  | .str x, .str y => some (ltS x y)
  | _, _ => none
def rLtU : R2 := fun x y H Q => rI0 (fun i j => .bl (decide (i < j))) x y H Q ∨ (∃ i j, x = .str i ∧ y = .str j ∧ Q (.bl (decide (i.cps.toList < j.cps.toList))) H)
theorem op_ltU {X : Cx} : OpR X (compareOp .Lt) rLtU := op_lt.or op_lt_str
theorem od_lt : OpD C rLtU (obl fLt) := fun ρ B H x y d e z Q ht hx hy hz k => by
  unfold obl fLt at hz
  split at hz
  · cases hx.den trivial; cases hy.den trivial; cases hz
    exact .inl ⟨_, _, rfl, rfl, k _ H Ext.refl (.bl _)⟩
  · cases hx.den trivial; cases hy.den trivial; cases hz
    exact .inr ⟨_, _, rfl, rfl, k _ H Ext.refl (.bl _)⟩
  · cases hz
def iCmp (p : Int → Int → Bool) : D → D → Option Bool
  | .int i, .int j => some (p i j)
  | _, _ => none
theorem od_icmp {p : Int → Int → Bool} : OpD C (rI0 fun i j => .bl (p i j)) (obl (iCmp p)) := fun ρ B H x y d e z Q ht hx hy hz k => by
  unfold obl iCmp at hz
  split at hz
  · cases hx.den trivial; cases hy.den trivial; cases hz
    exact ⟨_, _, rfl, rfl, k _ H Ext.refl (.bl _)⟩
  · cases hz
abbrev fLe := iCmp fun i j => decide (i ≤ j)
abbrev fGt := iCmp fun i j => decide (j < i)
abbrev fGe := iCmp fun i j => decide (j ≤ i)
/-- is None, is not None -/
def isN : D → Bool
  | .non => true
  | _ => false
def fIs : D → D → Option Bool
  | d, .non => some (isN d)
  | _, _ => none
def fIsNot : D → D → Option Bool
  | d, .non => some (!isN d)
  | _, _ => none
theorem den_isN {ρ : List Addr} {H : Hp} {B : Addr → Prop} {v : V} {d : D} (h : Vw C ρ H B v d) : decide (v = .non) = isN d := by
  cases h with
  | of h => cases h <;> rfl
  | _ => rfl
theorem od_is : OpD C (fun x y H Q => y = .non ∧ Q (.bl (decide (x = .non))) H) (obl fIs) := fun ρ B H x y d e z Q ht hx hy hz k => by
  cases e with
  | non =>
    cases hy.den trivial
    cases hz
    exact ⟨rfl, k _ H Ext.refl (by rw [den_isN hx]; exact .bl _)⟩
  | _ => cases hz
theorem od_isNot : OpD C (fun x y H Q => y = .non ∧ Q (.bl (!decide (x = .non))) H) (obl fIsNot) := fun ρ B H x y d e z Q ht hx hy hz k => by
  cases e with
  | non =>
    cases hy.den trivial
    cases hz
    exact ⟨rfl, k _ H Ext.refl (by rw [den_isN hx]; exact .bl _)⟩
  | _ => cases hz
/-! ==, != of plain data -/
mutual
def D.py : D → Option PyData
  | .non => some .none
  | .bl b => some (.bool b)
  | .int i => some (.int i)
  | .str x => some (.str x)
  | .lst xs => (D.pyA xs).map .list
  | .tup xs => (D.pyA xs).map .tuple
  | _ => none
def D.pyA : List D → Option (List PyData)
  | [] => some []
  | d :: ds => match d.py, D.pyA ds with
    | some p, some ps => some (p :: ps)
    | _, _ => none
end
mutual
theorem Den.dp {ρ : List Addr} {H : Hp} {B : Addr → Prop} : ∀ {v : V} {d : D} {p : PyData}, Den C ρ H B v d → d.py = some p → Dp C.K H v p
  | _, _, _, .non, e => by cases e; exact .non
  | _, _, _, .bl b, e => by cases e; exact .bl b
  | _, _, _, .int i, e => by cases e; exact .int i
  | _, _, _, .str x, e => by cases e; exact .str x
  | _, _, p, .lst (ds := ds) h n r, e => by
    unfold D.py at e
    cases q : D.pyA ds with
    | none => rw [q] at e; cases e
    | some ps => rw [q] at e; cases e; exact .lst (.inl (.inl h)) (DenA.dp r q)
  | _, _, p, .tup (ds := ds) h n r, e => by
    unfold D.py at e
    cases q : D.pyA ds with
    | none => rw [q] at e; cases e
    | some ps => rw [q] at e; cases e; exact .tup (.inl h) (DenA.dp r q)
  | _, _, p, .tupK (ds := ds) h r, e => by
    unfold D.py at e
    cases q : D.pyA ds with
    | none => rw [q] at e; cases e
    | some ps => rw [q] at e; cases e; exact .tup (sqTn h) (DenA.dp r q)
  | _, _, _, .frz _ _ _, e => by cases e
  | _, _, _, .frzK _ _, e => by cases e
  | _, _, _, .loc _, e => by cases e
  | _, _, _, .cls _, e => by cases e
  | _, _, _, .dK _ _ _, e => by cases e
  | _, _, _, .dT _ _ _, e => by cases e
  | _, _, _, .ins _ _ _, e => by cases e
  | _, _, _, .exn _ _ _ _ _, e => by cases e
theorem DenA.dp {ρ : List Addr} {H : Hp} {B : Addr → Prop} : ∀ {v : List V} {d : List D} {p : List PyData}, DenA C ρ H B v d → D.pyA d = some p → DpAll C.K H v p
  | _, _, _, .nil, e => by cases e; exact .nil
  | _, _, p, .cons (d := d) (ds := ds) h r, e => by
    unfold D.pyA at e
    cases q1 : d.py with
    | none => rw [q1] at e; cases e
    | some p1 =>
      cases q2 : D.pyA ds with
      | none => rw [q1, q2] at e; cases e
      | some p2 => rw [q1, q2] at e; cases e; exact .cons (Den.dp h q1) (DenA.dp r q2)
end
theorem Vw.dp {ρ : List Addr} {H : Hp} {B : Addr → Prop} {v : V} {d : D} {p : PyData} (h : Vw C ρ H B v d) (e : d.py = some p) : Dp C.K H v p := by
  cases h with
  | of h => exact h.dp e
  | lst h r =>
    rename_i a xs ds
    unfold D.py at e
    cases q : D.pyA ds with
    | none => rw [q] at e; cases e
    | some ps => rw [q] at e; cases e; exact .lst (.inl (.inl h)) (DenA.dp r q)
  | dK _ _ => cases e
  | dT _ _ => cases e
  | ins _ _ => cases e
def eqP (d e : D) : Option Bool := match d.py, e.py with
  | some p, some q => if (SeqAt.shaped p && SeqAt.shaped q) = true then some (PyData.eqv p q) else none
  | _, _ => none
def eqD (d e : D) : Option Bool := match d, e with
  | .str x, .str y => some (decide (x = y))
  | d, e => eqP d e
def neD (d e : D) : Option Bool := (eqD d e).map (!·)
def rEqU (K : PySem.W.Frag) : R2 := fun x y H Q => (∃ a b, x = .str a ∧ y = .str b ∧ Q (.bl (decide (a = b))) H) ∨ rEqD K x y H Q
def rNeU (K : PySem.W.Frag) : R2 := fun x y H Q => (∃ a b, x = .str a ∧ y = .str b ∧ Q (.bl (!decide (a = b))) H) ∨ rNeD K x y H Q
theorem dec_str' {a b : Str} : decide (V.str a = V.str b) = decide (a = b) := by
  by_cases h : a = b
  · simp [h]
  · rw [decide_eq_false h, decide_eq_false fun z => h (by cases z; rfl)]
theorem op_eqU {X : Cx} (hu : X.A.units + 64 < cLine) : OpR X (compareOp .Eq) (rEqU X.K) := OpR.or (fun pins s σ H x y v u Q I rx ry ⟨a, b, e1, e2, q⟩ => by subst e1 e2; exact op_eq pins s σ H _ _ v u Q I rx ry ⟨rfl, by rw [dec_str']; exact q⟩) (op_eqD hu)
theorem op_neU {X : Cx} (hu : X.A.units + 64 < cLine) : OpR X (compareOp .NotEq) (rNeU X.K) := OpR.or (fun pins s σ H x y v u Q I rx ry ⟨a, b, e1, e2, q⟩ => by subst e1 e2; exact op_ne pins s σ H _ _ v u Q I rx ry ⟨rfl, by rw [dec_str']; exact q⟩) (op_neD hu)
theorem eqP_some {d e : D} {b : Bool} (h : eqP d e = some b) : ∃ p q, d.py = some p ∧ e.py = some q ∧ SeqAt.shaped p = true ∧ SeqAt.shaped q = true ∧ b = PyData.eqv p q := by
  unfold eqP at h
  split at h
  · rename_i p q h1 h2
    by_cases c : (SeqAt.shaped p && SeqAt.shaped q) = true
    · rw [if_pos c] at h
      cases h
      exact ⟨p, q, h1, h2, (Bool.and_eq_true_iff.mp c).1, (Bool.and_eq_true_iff.mp c).2, rfl⟩
    · rw [if_neg c] at h; cases h
  · cases h
theorem eqD_run {ρ : List Addr} {H : Hp} {B : Addr → Prop} {x y : V} {d e : D} {b : Bool} {Q : VK} (hx : Vw C ρ H B x d) (hy : Vw C ρ H B y e) (h : eqD d e = some b) (q : Q (.bl b) H) : rEqU C.K x y H Q := by
  unfold eqD at h
  split at h
  · cases h
    cases hx.den trivial; cases hy.den trivial
    exact .inl ⟨_, _, rfl, rfl, q⟩
  · obtain ⟨p, p', h1, h2, h3, h4, rfl⟩ := eqP_some h
    exact .inr ⟨p, p', hx.dp h1, hy.dp h2, h3, h4, q⟩
theorem neD_run {ρ : List Addr} {H : Hp} {B : Addr → Prop} {x y : V} {d e : D} {b : Bool} {Q : VK} (hx : Vw C ρ H B x d) (hy : Vw C ρ H B y e) (h : eqD d e = some b) (q : Q (.bl (!b)) H) : rNeU C.K x y H Q := by
  unfold eqD at h
  split at h
  · cases h
    cases hx.den trivial; cases hy.den trivial
    exact .inl ⟨_, _, rfl, rfl, q⟩
  · obtain ⟨p, p', h1, h2, h3, h4, rfl⟩ := eqP_some h
    exact .inr ⟨p, p', hx.dp h1, hy.dp h2, h3, h4, q⟩
theorem od_eq : OpD C (rEqU C.K) (obl eqD) := fun ρ B H x y d e z Q ht hx hy hz k => by
  unfold obl at hz
  cases q : eqD d e with
  | none => rw [q] at hz; cases hz
  | some b =>
    rw [q] at hz
    cases hz
    exact eqD_run hx hy q (k _ H Ext.refl (.bl _))
theorem od_ne : OpD C (rNeU C.K) (obl neD) := fun ρ B H x y d e z Q ht hx hy hz k => by
  unfold obl neD at hz
  cases q : eqD d e with
  | none => rw [q] at hz; cases hz
  | some b =>
    rw [q] at hz
    cases hz
    exact neD_run hx hy q (k _ H Ext.refl (.bl _))
end
end On

set_option Elab.async false
set_option linter.all false
set_option maxRecDepth 100000
set_option maxHeartbeats 2000000
set_option autoImplicit false
namespace On
open PySem PySem.Spec PyProof.Rows L2

section
variable {C : Cb}
/-! ### in, not in: flat items -/
def flatD : D → Option V
  | .non => some .non
  | .bl b => some (.bl b)
  | .int i => some (.int i)
  | .str x => some (.str x)
  | _ => none
def flatA : List D → Option (List V)
  | [] => some []
  | d :: ds => match flatD d, flatA ds with
    | some v, some vs => some (v :: vs)
    | _, _ => none
theorem Den.flat {ρ : List Addr} {H : Hp} {B : Addr → Prop} {v w : V} {d : D} (h : Den C ρ H B v d) (e : flatD d = some w) : v = w ∧ flatV v = true := by
  cases h <;> first | (cases e; exact ⟨rfl, rfl⟩) | cases e
theorem DenA.flat {ρ : List Addr} {H : Hp} {B : Addr → Prop} : ∀ {vs ws : List V} {ds : List D}, DenA C ρ H B vs ds → flatA ds = some ws → vs = ws ∧ vs.all flatV = true
  | _, _, _, .nil, e => by cases e; exact ⟨rfl, rfl⟩
  | _, ws, _, .cons (v := v) (vs := vs) (d := d) (ds := ds) h r, e => by
    unfold flatA at e
    cases q1 : flatD d with
    | none => rw [q1] at e; cases e
    | some w =>
      cases q2 : flatA ds with
      | none => rw [q1, q2] at e; cases e
      | some us =>
        rw [q1, q2] at e
        cases e
        obtain ⟨e1, f1⟩ := h.flat q1
        obtain ⟨e2, f2⟩ := r.flat q2
        subst e1 e2
        exact ⟨rfl, by rw [List.all_cons, f1, f2]; rfl⟩
theorem Vw.flat {ρ : List Addr} {H : Hp} {B : Addr → Prop} {v w : V} {d : D} (h : Vw C ρ H B v d) (e : flatD d = some w) : v = w ∧ flatV v = true := by
  cases h with
  | of h => exact h.flat e
  | _ => cases e
def inD (d e : D) : Option Bool := match seqOf e with
  | some ds => (match flatD d, flatA ds with
    | some v, some vs => some (inV v vs)
    | _, _ => none)
  | none => none
def ninD (d e : D) : Option Bool := (inD d e).map (!·)
theorem inD_some {d e : D} {b : Bool} {ρ : List Addr} {H : Hp} {B : Addr → Prop} {x y : V} (hx : Vw C ρ H B x d) (hy : Vw C ρ H B y e) (h : inD d e = some b) :
    ∃ p xs, y = .ref p ∧ (SqL C.K H p xs ∨ SqT C.K H p xs) ∧ flatV x = true ∧ xs.all flatV = true ∧ b = inV x xs := by
  unfold inD at h
  have fin : ∀ {ds : List D} {xs : List V}, DenA C ρ H B xs ds → (match flatD d, flatA ds with
    | some v, some vs => some (inV v vs)
    | _, _ => none) = some b → flatV x = true ∧ xs.all flatV = true ∧ b = inV x xs := fun {ds xs} r h => by
    cases q1 : flatD d with
    | none => rw [q1] at h; cases h
    | some v =>
      cases q2 : flatA ds with
      | none => rw [q1, q2] at h; cases h
      | some vs =>
        rw [q1, q2] at h
        cases h
        obtain ⟨e1, f1⟩ := hx.flat q1
        obtain ⟨e2, f2⟩ := r.flat q2
        subst e1 e2
        exact ⟨f1, f2, rfl⟩
  cases e with
  | lst ds =>
    obtain ⟨a, xs, rfl, hs, r⟩ := hy.lstSq
    exact ⟨a, xs, rfl, .inl hs, fin r h⟩
  | tup ds =>
    obtain ⟨a, xs, rfl, hs, r⟩ := hy.tupSq
    exact ⟨a, xs, rfl, .inr hs, fin r h⟩
  | _ => cases h
theorem od_in : OpD C (rIn C.K false) (obl inD) := fun ρ B H x y d e z Q ht hx hy hz k => by
  unfold obl at hz
  cases q : inD d e with
  | none => rw [q] at hz; cases hz
  | some b =>
    rw [q] at hz
    cases hz
    obtain ⟨p, xs, h1, h2, h3, h4, h5⟩ := inD_some hx hy q
    exact ⟨p, xs, h1, h2, h3, h4, k _ H Ext.refl (by rw [h5]; exact .bl _)⟩
theorem od_nin : OpD C (rIn C.K true) (obl ninD) := fun ρ B H x y d e z Q ht hx hy hz k => by
  unfold obl ninD at hz
  cases q : inD d e with
  | none => rw [q] at hz; cases hz
  | some b =>
    rw [q] at hz
    cases hz
    obtain ⟨p, xs, h1, h2, h3, h4, h5⟩ := inD_some hx hy q
    exact ⟨p, xs, h1, h2, h3, h4, k _ H Ext.refl (by rw [h5]; exact .bl _)⟩
/-! ### places -/
def itemsOf : D → Option (List D)
  | .lst ds => some ds
  | .tup ds => some ds
  | .frz ds => some ds
  | _ => none
def fIx : D → D → Option D
  | .lst ds, .int i => atI ds i
  | .tup ds, .int i => atI ds i
  | .frz ds, .int i => atI ds i
  | .str x, .int i => if x.length ≤ 100000 then (atI x.cps.toList i).map fun c => .str ⟨#[c]⟩ else none
  | _, _ => none
theorem DenA.atI {ρ : List Addr} {H : Hp} {B : Addr → Prop} {vs : List V} {ds : List D} {i : Int} {d : D} (r : DenA C ρ H B vs ds) (h : atI ds i = some d) : ∃ v, atI vs i = some v ∧ Den C ρ H B v d := by
  unfold L2.atI at h ⊢
  rw [r.length]
  cases q : ixN ds.length i with
  | none => rw [q] at h; cases h
  | some j => rw [q] at h; exact r.get h
theorem od_ix : OpD C (rIx C.K) fIx := fun ρ B H x y d e z Q ht hx hy hz k => by
  unfold fIx at hz
  split at hz
  · cases hy.den trivial
    obtain ⟨a, xs, rfl, hs, r⟩ := hx.lstSq
    obtain ⟨v, hv, hd⟩ := r.atI hz
    exact .inl ⟨a, xs, _, v, rfl, rfl, hs, hv, k _ H Ext.refl hd⟩
  · cases hy.den trivial
    obtain ⟨a, xs, rfl, hs, r⟩ := hx.tupSq
    obtain ⟨v, hv, hd⟩ := r.atI hz
    exact .inr (.inl ⟨a, xs, _, v, rfl, rfl, hs, hv, k _ H Ext.refl hd⟩)
  · cases hy.den trivial
    obtain ⟨a, xs, rfl, hs, r⟩ := hx.frzSq
    obtain ⟨v, hv, hd⟩ := r.atI hz
    exact .inl ⟨a, xs, _, v, rfl, rfl, hs, hv, k _ H Ext.refl hd⟩
  · rename_i x i
    by_cases c : x.length ≤ 100000
    · rw [if_pos c] at hz
      cases hx.den trivial; cases hy.den trivial
      cases q : L2.atI x.cps.toList i with
      | none => rw [q] at hz; cases hz
      | some c' =>
        rw [q] at hz
        cases hz
        exact .inr (.inr ⟨_, _, c', rfl, rfl, sz5 c, q, k _ H Ext.refl (.str _)⟩)
    · rw [if_neg c] at hz; cases hz
  · cases hz
/-! ### slices -/
def cutD {α : Type} (xs : List α) (lo hi : Option Int) : List α := (xs.drop (HT.sIx xs.length 0 lo)).take (HT.sIx xs.length xs.length hi - HT.sIx xs.length 0 lo)
def fSl (d : D) (lo hi : Option Int) : Option D := match d with
  | .lst ds => some (.lst (cutD ds lo hi))
  | .tup ds => some (.tup (cutD ds lo hi))
  | _ => none
def rSlU (K : PySem.W.Frag) : V → Option Int → Option Int → Hp → VK → Prop := fun x lo hi H Q => rSlL K x lo hi H Q ∨ rSlA K x lo hi H Q
theorem sl_U {X : Cx} : SlR X (rSlU X.K) := sl_list.or sl_tupA
theorem DenA.take {ρ : List Addr} {H : Hp} {B : Addr → Prop} : ∀ {vs : List V} {ds : List D} (n : Nat), DenA C ρ H B vs ds → DenA C ρ H B (vs.take n) (ds.take n)
  | _, _, 0, _ => .nil
  | _, _, _ + 1, .nil => .nil
  | _, _, n + 1, .cons h r => .cons h (r.take n)
theorem DenA.drop {ρ : List Addr} {H : Hp} {B : Addr → Prop} : ∀ {vs : List V} {ds : List D} (n : Nat), DenA C ρ H B vs ds → DenA C ρ H B (vs.drop n) (ds.drop n)
  | _, _, 0, r => r
  | _, _, _ + 1, .nil => .nil
  | _, _, n + 1, .cons h r => r.drop n
theorem DenA.cut {ρ : List Addr} {H : Hp} {B : Addr → Prop} {vs : List V} {ds : List D} (r : DenA C ρ H B vs ds) (lo hi : Option Int) : DenA C ρ H B (cutV vs lo hi) (cutD ds lo hi) := by
  unfold cutV cutD
  rw [r.length]
  exact (r.drop _).take _
def SlD (C : Cb) (r : V → Option Int → Option Int → Hp → VK → Prop) (f : D → Option Int → Option Int → Option D) : Prop := ∀ ρ B H x d lo hi z Q, Trk B H → Vw C ρ H B x d → f d lo hi = some z → (∀ v H', Ext H H' → Den C ρ H' B v z → Q v H') → r x lo hi H Q
theorem sd_U : SlD C (rSlU C.K) fSl := fun ρ B H x d lo hi z Q ht hx hz k => by
  unfold fSl at hz
  split at hz
  · cases hz
    obtain ⟨a, xs, rfl, hs, r⟩ := hx.lstSq
    refine .inl ⟨a, xs, rfl, hs, fun p hp => ?_⟩
    have x0 : Ext H (upd H p (.lst (cutV xs lo hi))) := Ext.new hp
    exact k _ _ x0 (.lst upd_same (trk_no ht hp) ((r.cut lo hi).mono x0.pres Pfx.refl))
  · rename_i ds
    cases hz
    have hx' := hx.den trivial
    obtain ⟨a, xs, rfl, hs, r⟩ := hx.tupSq
    refine .inr ⟨a, xs, rfl, hs, fun hw => ?_, fun _ p hp => ?_⟩
    · have e : cutD ds lo hi = ds := by
        unfold cutD
        rw [← r.length, hw.1, hw.2, r.length]
        simp
      rw [e] at k
      exact k _ H Ext.refl hx'
    · have x0 : Ext H (upd H p (.tup (cutV xs lo hi))) := Ext.new hp
      exact k _ _ x0 (.tup (.inl upd_same) (trk_no ht hp) ((r.cut lo hi).mono x0.pres Pfx.refl))
  · cases hz
/-! ### built-ins -/
def lenD : D → Option Nat
  | .lst ds => some ds.length
  | .tup ds => some ds.length
  | .frz ds => some ds.length
  | .str x => if x.length ≤ 100000 then some x.length else none
  | _ => none
def fLen : List D → Option D
  | [d] => (lenD d).map fun n => .int n
  | _ => none
theorem lenD_ok {ρ : List Addr} {H : Hp} {B : Addr → Prop} {v : V} {d : D} {n : Nat} (h : Vw C ρ H B v d) (e : lenD d = some n) : LenV C.K v H n := by
  cases d with
  | lst ds => obtain ⟨a, xs, rfl, hs, r⟩ := h.lstSq; cases e; exact .inl ⟨xs, hs, r.length.symm⟩
  | frz ds => obtain ⟨a, xs, rfl, hs, r⟩ := h.frzSq; cases e; exact .inl ⟨xs, hs, r.length.symm⟩
  | tup ds => obtain ⟨a, xs, rfl, hs, r⟩ := h.tupSq; cases e; exact .inr ⟨xs, hs, r.length.symm⟩
  | str x =>
    cases h.den trivial
    have e : (if x.length ≤ 100000 then some x.length else none) = some n := e
    by_cases c : x.length ≤ 100000
    · rw [if_pos c] at e
      cases e
      exact ⟨sz5 c, rfl⟩
    · rw [if_neg c] at e; cases e
  | _ => cases e
theorem cd_len : CallD C (fun xs H Q => ∃ x n, xs = [x] ∧ LenV C.K x H n ∧ Q (.int n) H) fLen := fun ρ B H xs ds z Q ht hx hz k => by
  unfold fLen at hz
  split at hz
  · rename_i d
    cases hx with
    | cons h r =>
      cases r
      cases q : lenD d with
      | none => rw [q] at hz; cases hz
      | some n =>
        rw [q] at hz
        cases hz
        exact ⟨_, n, rfl, lenD_ok h q, k _ H Ext.refl (.int _)⟩
  · cases hz
/-- list(x), tuple(x) -/
def fList : List D → Option D
  | [.lst ds] => some (.lst ds)
  | [.tup ds] => some (.lst ds)
  | _ => none
def fTuple : List D → Option D
  | [.lst ds] => some (.tup ds)
  | [.tup ds] => some (.tup ds)
  | _ => none
theorem VwA.one {ρ : List Addr} {H : Hp} {B : Addr → Prop} {vs : List V} {d : D} (r : VwA C ρ H B vs [d]) : ∃ v, vs = [v] ∧ Vw C ρ H B v d := by
  cases r with
  | cons h r => cases r; exact ⟨_, rfl, h⟩
theorem cd_list : CallD C (fun xs H Q => ∃ p ys, xs = [.ref p] ∧ (SqL C.K H p ys ∨ SqT C.K H p ys) ∧ ∀ l, H l = none → Q (.ref l) (upd H l (.lst ys))) fList := fun ρ B H xs ds z Q ht hx hz k => by
  unfold fList at hz
  split at hz
  · cases hz
    obtain ⟨v, rfl, h⟩ := hx.one
    obtain ⟨a, xs, rfl, hs, r⟩ := h.lstSq
    refine ⟨a, xs, rfl, .inl hs, fun p hp => ?_⟩
    have x0 : Ext H (upd H p (.lst xs)) := Ext.new hp
    exact k _ _ x0 (.lst upd_same (trk_no ht hp) (r.mono x0.pres Pfx.refl))
  · cases hz
    obtain ⟨v, rfl, h⟩ := hx.one
    obtain ⟨a, xs, rfl, hs, r⟩ := h.tupSq
    refine ⟨a, xs, rfl, .inr hs, fun p hp => ?_⟩
    have x0 : Ext H (upd H p (.lst xs)) := Ext.new hp
    exact k _ _ x0 (.lst upd_same (trk_no ht hp) (r.mono x0.pres Pfx.refl))
  · cases hz
theorem cd_tuple : CallD C (fun xs H Q => ∃ p ys, xs = [.ref p] ∧ ((SqL C.K H p ys ∧ ∀ l, H l = none → Q (.ref l) (upd H l (.tup ys))) ∨ (SqT C.K H p ys ∧ Q (.ref p) H))) fTuple := fun ρ B H xs ds z Q ht hx hz k => by
  unfold fTuple at hz
  split at hz
  · cases hz
    obtain ⟨v, rfl, h⟩ := hx.one
    obtain ⟨a, xs, rfl, hs, r⟩ := h.lstSq
    refine ⟨a, xs, rfl, .inl ⟨hs, fun p hp => ?_⟩⟩
    have x0 : Ext H (upd H p (.tup xs)) := Ext.new hp
    exact k _ _ x0 (.tup (.inl upd_same) (trk_no ht hp) (r.mono x0.pres Pfx.refl))
  · cases hz
    obtain ⟨v, rfl, h⟩ := hx.one
    have h' := h.den trivial
    obtain ⟨a, xs, rfl, hs, r⟩ := h.tupSq
    exact ⟨a, xs, rfl, .inr ⟨hs, k _ H Ext.refl h'⟩⟩
  · cases hz
/-- int(x) of ints and bools, abs, max, min of two -/
def fInt : List D → Option D
  | [.int i] => some (.int i)
  | [.bl b] => some (.int (b2 b))
  | _ => none
theorem cd_int : CallD C (fun xs H Q => (∃ i, xs = [.int i] ∧ Q (.int i) H) ∨ ∃ k, xs = [.bl k] ∧ Q (.int (if k then 1 else 0)) H) fInt := fun ρ B H xs ds z Q ht hx hz k => by
  unfold fInt at hz
  split at hz
  · cases hz
    obtain ⟨v, rfl, h⟩ := hx.one
    cases h.den trivial
    exact .inl ⟨_, rfl, k _ H Ext.refl (.int _)⟩
  · cases hz
    obtain ⟨v, rfl, h⟩ := hx.one
    cases h.den trivial
    exact .inr ⟨_, rfl, k _ H Ext.refl (.int _)⟩
  · cases hz
def fAbs : List D → Option D
  | [.int i] => some (.int (if i < 0 then -i else i))
  | _ => none
theorem cd_abs : CallD C (fun xs H Q => ∃ i, xs = [.int i] ∧ Q (.int (if i < 0 then -i else i)) H) fAbs := fun ρ B H xs ds z Q ht hx hz k => by
  unfold fAbs at hz
  split at hz
  · cases hz
    obtain ⟨v, rfl, h⟩ := hx.one
    cases h.den trivial
    exact ⟨_, rfl, k _ H Ext.refl (.int _)⟩
  · cases hz
def fMax : List D → Option D
  | [.int i, .int j] => some (.int (if j > i then j else i))
  | _ => none
def fMin : List D → Option D
  | [.int i, .int j] => some (.int (if j < i then j else i))
  | _ => none
theorem VwA.two {ρ : List Addr} {H : Hp} {B : Addr → Prop} {vs : List V} {d e : D} (r : VwA C ρ H B vs [d, e]) : ∃ v w, vs = [v, w] ∧ Vw C ρ H B v d ∧ Vw C ρ H B w e := by
  cases r with
  | cons h r =>
    obtain ⟨w, rfl, h2⟩ := r.one
    exact ⟨_, _, rfl, h, h2⟩
theorem cd_max : CallD C (fun xs H Q => ∃ i j, xs = [.int i, .int j] ∧ Q (.int (if j > i then j else i)) H) fMax := fun ρ B H xs ds z Q ht hx hz k => by
  unfold fMax at hz
  split at hz
  · cases hz
    obtain ⟨v, w, rfl, h1, h2⟩ := hx.two
    cases h1.den trivial; cases h2.den trivial
    exact ⟨_, _, rfl, k _ H Ext.refl (.int _)⟩
  · cases hz
theorem cd_min : CallD C (fun xs H Q => ∃ i j, xs = [.int i, .int j] ∧ Q (.int (if j < i then j else i)) H) fMin := fun ρ B H xs ds z Q ht hx hz k => by
  unfold fMin at hz
  split at hz
  · cases hz
    obtain ⟨v, w, rfl, h1, h2⟩ := hx.two
    cases h1.den trivial; cases h2.den trivial
    exact ⟨_, _, rfl, k _ H Ext.refl (.int _)⟩
  · cases hz
/-- all, any of a list of truths -/
def blsOf : List D → Option (List Bool)
  | [] => some []
  | .bl b :: ds => (blsOf ds).map (b :: ·)
  | _ => none
theorem DenA.bls {ρ : List Addr} {H : Hp} {B : Addr → Prop} : ∀ {vs : List V} {ds : List D} {bs : List Bool}, DenA C ρ H B vs ds → blsOf ds = some bs → vs = bs.map V.bl
  | _, _, _, .nil, e => by cases e; rfl
  | _, _, bs, .cons (d := d) (ds := ds) h r, e => by
    cases d with
    | bl b =>
      have e : (blsOf ds).map (b :: ·) = some bs := e
      cases q : blsOf ds with
      | none => rw [q] at e; cases e
      | some cs =>
        rw [q] at e
        cases e
        cases h
        rw [r.bls q]
        rfl
    | _ => cases e
def fAll : List D → Option D
  | [.lst ds] => (blsOf ds).map fun bs => .bl (bs.all id)
  | _ => none
def fAny : List D → Option D
  | [.lst ds] => (blsOf ds).map fun bs => .bl (bs.any id)
  | _ => none
theorem cd_all : CallD C (rAll C.K) fAll := fun ρ B H xs ds z Q ht hx hz k => by
  unfold fAll at hz
  split at hz
  · rename_i ds
    obtain ⟨v, rfl, h⟩ := hx.one
    obtain ⟨a, xs, rfl, hs, r⟩ := h.lstSq
    cases q : blsOf ds with
    | none => rw [q] at hz; cases hz
    | some bs =>
      rw [q] at hz
      cases hz
      exact ⟨a, bs, rfl, by rw [← r.bls q]; exact hs, k _ H Ext.refl (.bl _)⟩
  · cases hz
theorem cd_any : CallD C (rAny C.K) fAny := fun ρ B H xs ds z Q ht hx hz k => by
  unfold fAny at hz
  split at hz
  · rename_i ds
    obtain ⟨v, rfl, h⟩ := hx.one
    obtain ⟨a, xs, rfl, hs, r⟩ := h.lstSq
    cases q : blsOf ds with
    | none => rw [q] at hz; cases hz
    | some bs =>
      rw [q] at hz
      cases hz
      exact ⟨a, bs, rfl, by rw [← r.bls q]; exact hs, k _ H Ext.refl (.bl _)⟩
  · cases hz
end
end On

set_option Elab.async false
set_option linter.all false
set_option maxRecDepth 100000
set_option maxHeartbeats 2000000
set_option autoImplicit false
namespace On
open PySem PySem.Spec PyProof.Rows L2
/-! ### an error as a value -/
section
variable {prog : Program} {w : World} {A : Around} {E : Value → Shared → Prop} {s : Shared} {K : PySem.W.Frag} {x D : Addr} {ox : Obj} {od : Option Obj}
theorem findObj_dataA {C : Addr} {name : Str} {a g : Value} (hc : (PySem.W.clsIn K C).isSome = true) (ha : PySem.W.findIn K (.ref C) name = some (some a)) (hg : PySem.W.specialIn K a "__get__" = some (some g)) (ht : PySem.W.takesIn K a = some true) : PySem.W.findObj K C od name = some (.bind g a) := by
  obtain ⟨cd, hc⟩ := Option.isSome_iff_exists.mp hc
  unfold PySem.W.findObj
  rw [hc, Option.bind_some, ha, Option.bind_some]
  simp [hg, ht]
theorem cls_isSome (T : ExcC K D) : (PySem.W.clsIn K D).isSome = true := by
  obtain ⟨cd, hc, _⟩ := PySem.W.any_some T.hd
  rw [hc]
  rfl
theorem exc_class {Q : Option Value → Shared → Prop} (T : ExcC K D) (X : K.In s.heap) (I : PySem.W.InstAt s.heap x ox D od) (h : Q (some (.ref D)) { s with toks := s.toks + 1 }) : wpAny (model prog w) A (getAttr? (.ref x) "__class__") Q E s := by
  have hf : PySem.W.findObj K D od "__class__" = some (.bind (.builtin "getset_descriptor.__get__") (.builtin "object.__class__")) := findObj_dataA (cls_isSome T) T.ha T.hn T.ht
  obtain ⟨hp, g, d, t, os⟩ := s
  have L0 := I.type (M := model prog w)
  have L1 := PySem.W.looks_findIn (M := model prog w) X T.hg
  have L2 := PySem.W.looks_findIn (M := model prog w) X T.hk
  have L3 := PySem.W.looks_find (M := model prog w) X I hf
  have sub : PySem.W.Looks (model prog w) hp (isInstance (.ref x) (.type "BaseException")) true := L0.andThen (PySem.W.looks_subIn X T.hs)
  have hx0 : (false && onTheHeap (Value.builtin "BaseException.__getattribute__")) = false := rfl
  have hx2 : (Value.builtin "BaseException.__getattribute__" == Value.builtin "object.__getattribute__") = false := by decide +kernel
  have hx1 : (onTheHeap (Value.ref D) && Value.builtin "BaseException.__getattribute__" == Value.builtin "object.__getattribute__") = false := by rw [hx2]; rfl
  unfold getAttr? getAttrBy? getAttrBy
  refine wpAny_bind (wpAny_mkText (wpAny_bind (wpAny_attempt (wpAny_holding (wpAny_bind (L0.at (wpAny_bind (L1.at ?_))))))))
  show wpAny _ _ (if (onTheHeap (Value.ref D) && Value.builtin "BaseException.__getattribute__" == Value.builtin "object.__getattribute__") = true then _ else _) _ _ _
  rw [hx1, if_neg Bool.false_ne_true]
  unfold getAttrByItsOwn hookBefore
  refine wpAny_bind ?_
  rw [if_pos (show onTheHeap (Value.ref D) = true from rfl)]
  refine L2.at ?_
  refine wpAny_bind (wpAny_attempt (wpAny_holding ?_))
  unfold callGetattribute
  rw [hx0, if_neg Bool.false_ne_true]
  unfold boundAndCalled
  rw [PySem.F.excAttr_ValueError.ga.bind (.ref x)]
  refine wpAny_bind (wpAny_pure ?_)
  show wpAny _ _ (call (.builtin "BaseException.__getattribute__") [.ref x, .str "__class__" t]) _ _ _
  refine wpAny_call (codeAny_call_builtin PySem.F.excAttr_ValueError.ga.plain PySem.F.entry_bexc_ga ?_)
  refine @PySem.W.check_slot (model prog w) _ _ ⟨hp, g, d, t + 1, os⟩ "BaseException.__getattribute__" "BaseException" "__getattribute__" (.ref x) [.str "__class__" t] [] _ (by decide +kernel) (by decide +kernel) sub (PySem.F.args_bexc_ga (.ref x) (.str "__class__" t)) ?_
  unfold Builtin.«object.__getattribute__»
  refine wpAny_bind (wpAny_of_eq (a := ((Value.ref x : Value), [Value.str "__class__" t])) (by first | rfl | (simp only [slotArgs]; rfl)) ?_)
  refine wpAny_bind (wpAny_pure (wpAny_bind (L0.at (wpAny_bind (L3.at ?_)))))
  show wpAny _ _ (holding [Value.builtin "object.__class__"] (call (.builtin "getset_descriptor.__get__") [.builtin "object.__class__", .ref x, .ref D]) >>= ret) _ _ _
  refine wpAny_bind (wpAny_holding (wpAny_call (PySem.W.class_get (s := ⟨hp, g, d, t + 1, os⟩) (ox := ox) (od := od) X I T.hm ?_)))
  refine wpAny_pure ?_
  show wpAny _ _ (handedOut (.ref D)) _ _ _
  rw [PySem.W.handedOut_of (v := .ref D) rfl]
  first
    | exact wpAny_pure (wpAny_pure h)
    | exact wpAny_pure h
    | exact wpAny_pure (wpAny_bind (wpAny_pure (wpAny_pure h)))
theorem kitx_exc (T : ExcC K D) : PySem.W.KitX K (.ref x) (.ref D) (fun h => ∃ ox od, PySem.W.InstAt h x ox D od) where
  ty := fun _ _ _ ⟨_, _, I⟩ => I.type
  it := fun _ _ X _ => by
    obtain ⟨cdD, hcD, _⟩ := PySem.W.any_some T.hd
    unfold PySem.W.clsIn at hcD
    split at hcD
    · rename_i c' d' cd' sl' ho
      intro A' Q' E' s' k q
      unfold isType loadHead
      exact wpAny_bind (wpAny_loadPart (k _ _ (X _ _ ho)) (wpAny_pure q))
    · cases hcD
  ne := fun h tp dd its n sl X htp => by
    obtain ⟨cdD, hcD, _⟩ := PySem.W.any_some T.hd
    refine Bool.eq_false_iff.mpr fun q => ?_
    have e : D = tp := Value.ref.inj (beq_iff_eq.mp q)
    subst e
    unfold PySem.W.clsIn at hcD
    split at hcD
    · rename_i c' d' cd' sl' ho
      have z := (X _ _ ho).symm.trans htp
      cases z
    · cases hcD
  ca := fun X ⟨_, _, I⟩ k => exc_class T X I k
end
theorem exo_inst {P : Program} {w : World} {H : Hp} {h : Heap} {a C dx : Addr} {fs : List (Str × V)} (hok : HOk P w H h) (he : H a = some (exo a C (some dx))) (hd : H dx = some (.xd fs)) :
    ∃ (ox od : Obj) (mA : Str → Option Value), PySem.W.InstAt h a ox C (some od) ∧ (∀ f, PySem.W.lookIn f od = some (mA f)) ∧ ∀ f, RelO (fs.lookup f) (mA f) := by
  obtain ⟨t1, ho⟩ := exo_at hok he
  have hx : ObjOk P w H h dx (.xd fs) := hok dx _ hd
  obtain ⟨mA, hns, hr⟩ := hx
  obtain ⟨od, hod, hl⟩ := lookIn_ns hns
  exact ⟨_, od, mA, ⟨ho, rfl, rfl, hod⟩, hl, hr⟩
section
variable {X : Cx} {e : Expr} {te : TE} {pos p : Pos} {f : Str}
/-- e.f, e such an error -/
theorem pe_xfV (he : PE X e te) (hb : attributeBase e f X.env (eval e X.env) = eval e X.env := by rfl) :
    PE X (.Attribute e f pos) (fun σ H Q => te σ H fun x H1 => ∃ (a C dx : Addr) (fs : List (Str × V)) (v : V), x = .ref a ∧ ExcC X.K C ∧ PySem.W.findIn X.K (.ref C) f = some none ∧ H1 a = some (exo a C (some dx)) ∧ H1 dx = some (.xd fs) ∧ fs.lookup f = some v ∧ Q v H1) := by
  refine ⟨fun pins s σ H Q I h => ?_⟩
  refine attr_of hb (thn (he.run pins s σ H _ I h) fun u s1 hh => ?_)
  obtain ⟨x, H1, I1, rx, a, C, dx, fs, v, ex, T, hno, ea, ed, l, q⟩ := hh
  subst ex
  obtain rfl : u = Value.ref a := rx
  obtain ⟨ox, od, mA, J, hl, hr⟩ := exo_inst I1.hok ea ed
  obtain ⟨u, hu, ru⟩ := RelO.some_of (v := v) (o := mA f) (by rw [← l]; exact hr f)
  exact HandSPX.exc_get I1.kIn J T.hg T.hk T.hs (PySem.W.findObj_own T.hd hno rfl (by rw [hl, hu])) (handed_of ru) ⟨v, H1, I1.tok _, ru, q⟩
/-- isinstance(x, c), x such an error -/
def rIsX (K : PySem.W.Frag) : List V → Hp → VK → Prop := fun xs H Q => ∃ (a C dx : Addr) (fs : List (Str × V)) (c : V) (u : Value) (b : Bool), xs = [.ref a, c] ∧ ClsV c u ∧ ExcC K C ∧ H a = some (exo a C (some dx)) ∧ H dx = some (.xd fs) ∧ PySem.W.kitOne K (.ref C) u = some b ∧ Q (.bl b) H
theorem call_isX : CallR X (.builtin "isinstance") (rIsX X.K) := by
  intro pins s σ H xs us Q I r h
  obtain ⟨a, C, dx, fs, c, u, b, rfl, k, T, ea, ed, e, q⟩ := h
  obtain ⟨u1, u2, rfl, r1, r2⟩ := vals2 r
  have e2 := k.eq r2
  subst e2
  cases (show u1 = Value.ref a from r1)
  obtain ⟨ox, od, mA, J, hl, hr⟩ := exo_inst I.hok ea ed
  exact PySem.W.kia_one (kitx_exc T) I.kIn ⟨_, _, J⟩ e (fun z => nomatch z) fun tk => ⟨.bl b, H, I.tok tk, rfl, q⟩
end


theorem CallR.or {X : Cx} {f : Value} {r r' : List V → Hp → VK → Prop} (h : CallR X f r) (h' : CallR X f r') : CallR X f fun xs H Q => r xs H Q ∨ r' xs H Q := fun pins s σ H xs us Q I rv q => q.elim (h pins s σ H xs us Q I rv) (h' pins s σ H xs us Q I rv)
section
variable {C : Ct} {E : WX} {X : Cx} {a b e o : Expr} {es : List Expr} {ma mb me : Gm → J → R D} {mr : Gm → J → R (List D)} {pos p p2 : Pos}
/-! ### a[b], a[lo:hi] -/
theorem me_ix {r : R2} {f : D → D → Option D} (hr : IxR X r) (hf : OpD C.b r f) (ha : ME C E X a ma) (hb : ME C E X b mb) (hs : PlainIx b := by exact fun _ _ => rfl) : ME C E X (.Subscript a b pos) (m2 f ma mb) :=
  PE.imp (pe_ix hr ha hb hs) fun _ _ _ h => me_two hf (fun _ _ _ q => q) (fun _ _ _ q => q) h
abbrev MO (C : Ct) (E : WX) (X : Cx) (o : Option Expr) (m : Gm → J → R (Option Int)) : Prop :=
  PO X o fun σ H Q => St0 C E m σ H fun _ i _ _ H' => Q i H'
theorem PO.imp {o : Option Expr} {t t' : TO} (h : PO X o t) (k : ∀ σ H Q, t' σ H Q → t σ H Q) : PO X o t' := ⟨fun pins s σ H Q I q => h.run pins s σ H Q I (k σ H Q q)⟩
def oN : Gm → J → R (Option Int) := fun _ j => .ok none j
def oS (me : Gm → J → R D) : Gm → J → R (Option Int) := fun Γ j => (me Γ j).bind fun d j => match d with
  | .int i => .ok (some i) j
  | _ => .bad
theorem mo_none : MO C E X none oN := PO.imp po_none fun σ H Q ⟨O, ρ, Γ, j, S, h⟩ => Post.now S h
theorem mo_some (he : ME C E X e me) : MO C E X (some e) (oS me) := PO.imp (po_some he) fun σ H Q ⟨O, ρ, Γ, j, S, h⟩ => ⟨O, ρ, Γ, j, S, Post.imp (Post.bind S h) fun d j1 ρ1 H1 k1 S1 q v hv => by
  cases d with
  | int i => cases hv; exact ⟨i, rfl, Post.now S1 q⟩
  | _ => exact q.elim⟩
def mSl (f : D → Option Int → Option Int → Option D) (me : Gm → J → R D) (ml mh : Gm → J → R (Option Int)) : Gm → J → R D := fun Γ j => (me Γ j).bind fun d j => (ml Γ j).bind fun l j => (mh Γ j).bind fun h j => lift (f (deref j d) l h) j
theorem me_slice {lo hi : Option Expr} {ml mh : Gm → J → R (Option Int)} {r : V → Option Int → Option Int → Hp → VK → Prop} {f : D → Option Int → Option Int → Option D} (hr : SlR X r) (hf : SlD C.b r f) (he : ME C E X e me) (hl : MO C E X lo ml) (hu : MO C E X hi mh) :
    ME C E X (.Subscript e (.Slice lo hi none p2) pos) (mSl f me ml mh) :=
  PE.imp (pe_slice hr he hl hu) fun σ H Q ⟨O, ρ, Γ, j, S, h⟩ => ⟨O, ρ, Γ, j, S, Post.imp (Post.bind S h) fun d j1 ρ1 H1 k1 S1 q v hv =>
    ⟨O, ρ1, Γ, j1, S1, Post.imp (Post.bind S1 q) fun l j2 ρ2 H2 k2 S2 q2 => ⟨O, ρ2, Γ, j2, S2, Post.imp (Post.bind S2 q2) fun u j3 ρ3 H3 k3 S3 q3 => by
      obtain ⟨z, hz, q4⟩ := post_lift S3 q3
      exact hf ρ3 (Bo O ρ3 j3) H3 v _ l u z _ S3.trkB (S3.st.view (((S1.kpt k2 k3).step O).den hv)) hz q4⟩⟩⟩
/-! ### the module's names -/
theorem me_gint {x : Str} {i : Int} (hg : Gl X x) (hm : ∃ t, X.mg x = some (.int i t)) (hd : (x == ("__debug__" : Str)) = false := by decide) : ME C E X (.Name x pos) (mC (.int i)) := me_ofc (pe_glob (v := .int i) hg hm.choose_spec ⟨_, rfl⟩ hd) fun _ _ _ => .int i
theorem me_gstr {x : Str} {i : Str} (hg : Gl X x) (hm : ∃ t, X.mg x = some (.str i t)) (hd : (x == ("__debug__" : Str)) = false := by decide) : ME C E X (.Name x pos) (mC (.str i)) := me_ofc (pe_glob (v := .str i) hg hm.choose_spec ⟨_, rfl⟩ hd) fun _ _ _ => .str i
/-- a tuple of flat things that the module has written -/
theorem den_flat {ρ : List Addr} {H : Hp} {B : Addr → Prop} : ∀ {ds : List D} {vs : List V}, flatA ds = some vs → DenA C.b ρ H B vs ds
  | [], _, e => by cases e; exact .nil
  | d :: ds, vs, e => by
    unfold flatA at e
    cases q1 : flatD d with
    | none => rw [q1] at e; cases e
    | some w =>
      cases q2 : flatA ds with
      | none => rw [q1, q2] at e; cases e
      | some us =>
        rw [q1, q2] at e
        cases e
        refine .cons ?_ (den_flat q2)
        cases d <;> cases q1 <;> constructor
theorem me_gtup {x : Str} {l : Addr} {vs : List V} {ds : List D} (hg : Gl X x) (hm : X.mg x = some (.ref l)) (hs : SqT C.b.K Hn l vs) (hf : flatA ds = some vs) (hd : (x == ("__debug__" : Str)) = false := by decide) : ME C E X (.Name x pos) (mC (.tup ds)) :=
  me_ofc (pe_glob (v := .ref l) hg hm rfl hd) fun ρ H B => .tupK hs (den_flat hf)
/-! ### isinstance -/
def tyN : D → Option String
  | .non => some "NoneType"
  | .bl _ => some "bool"
  | .int _ => some "int"
  | .str _ => some "str"
  | .lst _ => some "list"
  | .frz _ => some "list"
  | .tup _ => some "tuple"
  | .dct _ => some "dict"
  | _ => none
/-- what isinstance asks of an own class -/
structure IsC (K : PySem.W.Frag) (A : Addr) : Prop where
  cl : Cls K A
  ha : PySem.W.findIn K (.ref A) "__class__" = some (some (.builtin "object.__class__"))
  hn : PySem.W.specialIn K (.builtin "object.__class__") "__get__" = some (some (.builtin "getset_descriptor.__get__"))
  ht : PySem.W.takesIn K (.builtin "object.__class__") = some true
  hm : PySem.W.mroIn K A (.type "object") = some true
/-- ty: of a built-in type by its name; ow: of an own class; ox: of an own error class -/
def isiD (ty : String → Option Bool) (ow ox : Nat → Option Bool) : D → Option Bool := fun d => match d with
  | .ins c _ => ow c
  | .exn c _ => ox c
  | d => (tyN d).bind ty
theorem sqL_ty {K : PySem.W.Frag} {H : Hp} {l : Addr} {xs : List V} (h : SqL K H l xs) : TyX K H (.ref l) (.type "list") := by
  rcases h with (h | ⟨o, h⟩) | ⟨o, _, _, h, c, _⟩
  · exact .base (.lst h)
  · exact .base (.frz h)
  · exact .kList h c
theorem sqT_ty {K : PySem.W.Frag} {H : Hp} {l : Addr} {xs : List V} (h : SqT K H l xs) : TyX K H (.ref l) (.type "tuple") := by
  rcases h with (h | ⟨o, h⟩) | ⟨o, _, _, h, c, _⟩
  · exact .base (.tup h)
  · exact .fTuple h
  · exact .kTuple h c
/-- what the class of a value is asked for -/
def rIsU (K : PySem.W.Frag) : List V → Hp → VK → Prop := fun xs H Q => (∃ x c t u b, xs = [x, c] ∧ ClsV c u ∧ TyX K H x t ∧ PySem.W.kitOne K t u = some b ∧ Q (.bl b) H) ∨ rIsX K xs H Q
theorem isiD_ok {c : Cb} {u : Value} {cv : V} (hu : ClsV cv u) {ty : String → Option Bool} {ow ox : Nat → Option Bool} (h1 : ∀ t b, ty t = some b → PySem.W.kitOne c.K (.type t) u = some b) (h2 : ∀ n b, ow n = some b → IsC c.K (c.cm n) ∧ PySem.W.kitOne c.K (.ref (c.cm n)) u = some b)
    (h3 : ∀ n b, ox n = some b → ExcC c.K (c.cm n) ∧ PySem.W.kitOne c.K (.ref (c.cm n)) u = some b)
    {ρ : List Addr} {H : Hp} {B : Addr → Prop} {v : V} {d : D} {b : Bool} (h : Vw c ρ H B v d) (e : isiD ty ow ox d = some b) {Q : VK} (q : Q (.bl b) H) : rIsU c.K [v, cv] H Q := by
  have fin : ∀ t, TyX c.K H v t → PySem.W.kitOne c.K t u = some b → rIsU c.K [v, cv] H Q := fun t a b' => .inl ⟨v, cv, t, u, b, rfl, hu, a, b', q⟩
  cases h with
  | of h =>
    cases h with
    | non => exact fin _ (.base .non) (h1 _ _ e)
    | bl b => exact fin _ (.base (.bl b)) (h1 _ _ e)
    | int i => exact fin _ (.base (.int i)) (h1 _ _ e)
    | str x => exact fin _ (.base (.str x)) (h1 _ _ e)
    | lst h n r => exact fin _ (.base (.lst h)) (h1 _ _ e)
    | frz h n r => exact fin _ (sqL_ty (.inl h)) (h1 _ _ e)
    | frzK h r => exact fin _ (sqL_ty (sqLn h)) (h1 _ _ e)
    | tup h n r => exact fin _ (sqT_ty (.inl h)) (h1 _ _ e)
    | tupK h r => exact fin _ (sqT_ty (sqTn h)) (h1 _ _ e)
    | dK h n r => exact fin _ (.base (.dK h)) (h1 _ _ e)
    | dT h n r => exact fin _ (.base (.dT h)) (h1 _ _ e)
    | ins h n r =>
      obtain ⟨q, z⟩ := h2 _ _ e
      exact fin _ (.base (.ins h q.cl q.ha q.hn q.ht q.hm)) z
    | exn h n hd n2 r =>
      obtain ⟨T, z⟩ := h3 _ _ e
      exact .inr ⟨_, _, _, _, cv, u, b, rfl, hu, T, h, hd, z, q⟩
    | loc _ => cases e
    | cls _ => cases e
  | lst h r => exact fin _ (.base (.lst h)) (h1 _ _ e)
  | dK h r => exact fin _ (.base (.dK h)) (h1 _ _ e)
  | dT h r => exact fin _ (.base (.dT h)) (h1 _ _ e)
  | ins h r =>
    obtain ⟨q, z⟩ := h2 _ _ e
    exact fin _ (.base (.ins h q.cl q.ha q.hn q.ht q.hm)) z
theorem me_isi {T : Expr} {cv : V} {u : Value} {ty : String → Option Bool} {ow ox : Nat → Option Bool} (hK : X.K = C.b.K) (hg : Gl X "isinstance") (hm : X.mg "isinstance" = none) (hT : PE X T (tC cv)) (hu : ClsV cv u)
    (h1 : ∀ t b, ty t = some b → PySem.W.kitOne C.b.K (.type t) u = some b) (h2 : ∀ n b, ow n = some b → IsC C.b.K (C.b.cm n) ∧ PySem.W.kitOne C.b.K (.ref (C.b.cm n)) u = some b) (h3 : ∀ n b, ox n = some b → ExcC C.b.K (C.b.cm n) ∧ PySem.W.kitOne C.b.K (.ref (C.b.cm n)) u = some b) (he : ME C E X e me)
    (hs : starEach [e, T] X.env = (false, eval e X.env) :: starEach [T] X.env := by rfl) (hs2 : starEach [T] X.env = (false, eval T X.env) :: starEach [] X.env := by rfl) (hpl : (backTo pos (starEach [T] X.env)).any (·.1) = false := by rfl) :
    ME C E X (.Call (.Name "isinstance" p) [e, T] [] pos) (m1 (fun d => (isiD ty ow ox d).map .bl) me) :=
  PE.imp (pe_callB (call_isi.or call_isX) hg hm (by decide +kernel) (pa_cons he (pa_cons hT pa_nil hs2) hs) (by decide) (by decide) hs hpl) fun σ H Q ⟨O, ρ, Γ, j, S, h⟩ => ⟨O, ρ, Γ, j, S, Post.imp (Post.bind S h) fun d j1 ρ1 H1 k1 S1 q v hv => by
    obtain ⟨z, hz, q⟩ := post_lift S1 q
    dsimp only at hz
    cases q1 : isiD ty ow ox (deref j1 d) with
    | none => rw [q1] at hz; cases hz
    | some b =>
      rw [q1] at hz
      cases hz
      have := isiD_ok (H := H1) hu h1 h2 h3 (S1.st.view hv) q1 (q _ H1 Ext.refl (.bl _))
      rw [← hK] at this
      exact this⟩
/-! ### fields of things and of errors -/
def fldD (f : Str) (cs xs : List Nat) : D → Option D
  | .ins c fs => bif cs.contains c then fs.lookup f else none
  | .exn c fs => bif xs.contains c then fs.lookup f else none
  | _ => none
theorem DenF.look {c : Cb} {ρ : List Addr} {H : Hp} {B : Addr → Prop} {f : Str} {d : D} : ∀ {vs : List (Str × V)} {ds : List (Str × D)}, DenF c ρ H B vs ds → ds.lookup f = some d → ∃ v, vs.lookup f = some v ∧ Den c ρ H B v d
  | _, _, .nil, e => by cases e
  | _, _, .cons (f := g) (v := v) (d := d') (vs := vs) (ds := ds) h r, e => by
    rw [List.lookup_cons] at e ⊢
    cases q : (f == g) with
    | true => rw [q] at e; cases e; exact ⟨v, rfl, h⟩
    | false => rw [q] at e; exact r.look e
theorem DenF.nolook {c : Cb} {ρ : List Addr} {H : Hp} {B : Addr → Prop} {f : Str} : ∀ {vs : List (Str × V)} {ds : List (Str × D)}, DenF c ρ H B vs ds → ds.lookup f = none → vs.lookup f = none
  | _, _, .nil, e => rfl
  | _, _, .cons (f := g) (v := v) (d := d') (vs := vs) (ds := ds) h r, e => by
    rw [List.lookup_cons] at e ⊢
    cases q : (f == g) with
    | true => rw [q] at e; cases e
    | false => rw [q] at e; exact r.nolook e
theorem pe_fldU {f : Str} {te : TE} (he : PE X e te) (hb : attributeBase e f X.env (eval e X.env) = eval e X.env := by rfl) :
    PE X (.Attribute e f pos) (fun σ H Q => te σ H fun x H1 => (∃ a C dx fs v, x = .ref a ∧ H1 a = some (.ins C dx fs) ∧ Cls X.K C ∧ NoAttr X.K C f ∧ fs.lookup f = some v ∧ Q v H1) ∨
      ∃ (a C dx : Addr) (fs : List (Str × V)) (v : V), x = .ref a ∧ ExcC X.K C ∧ PySem.W.findIn X.K (.ref C) f = some none ∧ H1 a = some (exo a C (some dx)) ∧ H1 dx = some (.xd fs) ∧ fs.lookup f = some v ∧ Q v H1) := by
  refine ⟨fun pins s σ H Q I h => ?_⟩
  refine attr_of hb (thn (he.run pins s σ H _ I h) fun u s1 hh => ?_)
  obtain ⟨x, H1, I1, rx, hh⟩ := hh
  rcases hh with ⟨a, C, dx, fs, v, ex, ea, c, n, l, q⟩ | ⟨a, C, dx, fs, v, ex, T, hno, ea, ed, l, q⟩
  · subst ex
    obtain rfl : u = Value.ref a := rx
    exact getattr_ok I1 ea c n l fun u' s2 I2 ru => ⟨v, H1, I2, ru, q⟩
  · subst ex
    obtain rfl : u = Value.ref a := rx
    obtain ⟨ox, od, mA, J, hl, hr⟩ := exo_inst I1.hok ea ed
    obtain ⟨u, hu, ru⟩ := RelO.some_of (v := v) (o := mA f) (by rw [← l]; exact hr f)
    exact HandSPX.exc_get I1.kIn J T.hg T.hk T.hs (PySem.W.findObj_own T.hd hno rfl (by rw [hl, hu])) (handed_of ru) ⟨v, H1, I1.tok _, ru, q⟩
theorem me_fld {f : Str} {cs xs : List Nat} (hK : X.K = C.b.K) (hc : ∀ c, cs.contains c = true → Cls C.b.K (C.b.cm c) ∧ NoAttr C.b.K (C.b.cm c) f) (hx : ∀ c, xs.contains c = true → ExcC C.b.K (C.b.cm c) ∧ PySem.W.findIn C.b.K (.ref (C.b.cm c)) f = some none) (he : ME C E X e me) (hb : attributeBase e f X.env (eval e X.env) = eval e X.env := by rfl) : ME C E X (.Attribute e f pos) (m1 (fldD f cs xs) me) :=
  PE.imp (pe_fldU he hb) fun σ H Q ⟨O, ρ, Γ, j, S, h⟩ => ⟨O, ρ, Γ, j, S, Post.imp (Post.bind S h) fun d j1 ρ1 H1 k1 S1 q v hv => by
    obtain ⟨z, hz, q3⟩ := post_lift S1 q
    clear q
    have hv := S1.st.view hv
    revert hz hv
    generalize deref j1 d = d'
    intro hz hv
    cases d' with
    | ins c fs =>
      have hz : (bif cs.contains c then fs.lookup f else none) = some z := hz
      cases m : cs.contains c with
      | true =>
        rw [m] at hz
        obtain ⟨a, dx, vs, rfl, ha, r⟩ := hv.insAt
        obtain ⟨u, hu, hd⟩ := r.look hz
        exact .inl ⟨_, _, _, _, u, rfl, ha, by rw [hK]; exact (hc c m).1, by rw [hK]; exact (hc c m).2, hu, q3 _ H1 Ext.refl hd⟩
      | false => rw [m] at hz; cases hz
    | exn c fs =>
      have hz : (bif xs.contains c then fs.lookup f else none) = some z := hz
      cases m : xs.contains c with
      | true =>
        rw [m] at hz
        cases hv.den trivial with
        | exn ha n hd n2 r =>
          obtain ⟨u, hu, hd'⟩ := r.look hz
          exact .inr ⟨_, _, _, _, u, rfl, by rw [hK]; exact (hx c m).1, by rw [hK]; exact (hx c m).2, ha, hd, hu, q3 _ H1 Ext.refl hd'⟩
      | false => rw [m] at hz; cases hz
    | _ => cases hz⟩
end
end On

set_option Elab.async false
set_option linter.all false
set_option maxRecDepth 100000
set_option maxHeartbeats 2000000
set_option autoImplicit false
namespace On
open PySem PySem.Spec PyProof.Rows L2

/-! ### what is changed -/
theorem Live.set {ρ : List Addr} {j : J} {n : Nat} {d d' : D} (hn : j[n]? = some (some d)) (a : Addr) : Live ρ (j.set n (some d')) a ↔ Live ρ j a := by
  constructor
  · rintro ⟨m, e, h1, h2⟩
    rcases set_cases h2 with ⟨rfl, _, _⟩ | ⟨_, h2⟩
    · exact ⟨n, d, h1, hn⟩
    · exact ⟨m, e, h1, h2⟩
  · rintro ⟨m, e, h1, h2⟩
    by_cases q : n = m
    · subst q
      exact ⟨n, d', h1, List.getElem?_set_self (List.getElem?_eq_some_iff.mp h2).1⟩
    · exact ⟨m, e, h1, by rw [List.getElem?_set_ne q]; exact h2⟩
theorem Sto.put {C : Cb} {O : Addr → Prop} {ρ : List Addr} {H : Hp} {j : J} (S : Sto C O ρ H j) {n : Nat} {a : Addr} {d d' : D} {o : HO} (hn : j[n]? = some (some d)) (ha : ρ[n]? = some a) (hc : (∀ v e, Den C ρ H (Bo O ρ j) v e → Den C ρ (upd H a o) (Bo O ρ j) v e) → Cnt C ρ (upd H a o) (Bo O ρ j) a d') :
    Sto C O ρ (upd H a o) (j.set n (some d')) ∧ Kp ρ j H ρ (j.set n (some d')) (upd H a o) := by
  have la : Live ρ j a := ⟨n, d, ha, hn⟩
  have lv := Live.set (ρ := ρ) (d' := d') hn
  have K : Kp ρ j H ρ (j.set n (some d')) (upd H a o) := ⟨fun b u nb e => by rw [upd_ne (fun z : b = a => nb (by rw [z]; exact la))]; exact e, fun b z => .inl ((lv b).mp z), fun b z => .inl z, Pfx.refl⟩
  have th : ∀ b, (∃ u, H b = some u) → ∃ u, upd H a o b = some u := fun b ⟨u, e⟩ => by
    by_cases q : b = a
    · rw [q]; exact ⟨_, upd_same⟩
    · exact ⟨u, by rw [upd_ne q]; exact e⟩
  refine ⟨⟨fun b z => th b (S.trk b z), fun b z => th b (S.rtr b z), by simp [S.rl], S.nd, fun m e h => ?_⟩, K⟩
  rcases set_cases h with ⟨rfl, _, e⟩ | ⟨ne, h⟩
  · cases e
    exact ⟨a, ha, (hc fun v e r => r.mono (Pres.at (.inr la)) Pfx.refl).map (fun _ z => z) fun _ _ r => r.less fun b z => .inl (z.imp id (lv b).mp)⟩
  · obtain ⟨b, eb, q⟩ := S.sto m e h
    have nb : b ≠ a := fun z => by
      exact ne ((List.getElem?_inj (List.getElem?_eq_some_iff.mp ha).1 S.nd).mp (by rw [ha, eb, z]))
    exact ⟨b, eb, q.map (fun u e => by rw [upd_ne nb]; exact e) fun _ _ => (K.step O).den⟩
/-- the content of the thing in slot i -/
def conG (i : Nat) (Γ : Gm) (j : J) : Option D := match Γ[i]? with
  | some (some (.own d)) => some d
  | some (some (.val (.loc n))) => (match j[n]? with
    | some o => o
    | none => none)
  | _ => none
def muG (i : Nat) (Γ : Gm) (j : J) (d : D) : RS := match Γ[i]? with
  | some (some (.own _)) => .nx (Γ.set i (some (.own d))) j
  | some (some (.val (.loc n))) => .nx Γ (j.set n (some d))
  | _ => .bad
section
variable {C : Ct} {E : WX} {X : Cx} {O : Addr → Prop} {ρ : List Addr} {σ : L2.St} {H : Hp} {Γ : Gm} {j : J} {i : Nat}
theorem Sok.con {d : D} (S : Sok C O ρ σ H Γ j) (h : conG i Γ j = some d) : ∃ a, σ[i]? = some (some (.ref a)) ∧ Cnt C.b ρ H (Bo O ρ j) a d := by
  unfold conG at h
  split at h
  · rename_i d' hi
    cases h
    obtain ⟨a, e, _, _, _, _, r⟩ := S.slot i _ hi
    exact ⟨a, e, r⟩
  · rename_i n hi
    obtain ⟨v, e, r⟩ := S.slot i _ hi
    cases r with
    | loc hr =>
      split at h
      · rename_i o ho
        subst h
        obtain ⟨b, eb, q⟩ := S.st.sto n d ho
        rw [hr] at eb
        cases eb
        exact ⟨_, e, q⟩
      · cases h
  · cases h
/-- what stands in slot i is changed -/
theorem Sok.mu {d d' : D} {o : HO} {a : Addr} {Dn : Ends} (S : Sok C O ρ σ H Γ j) (h : conG i Γ j = some d) (ea : σ[i]? = some (some (.ref a))) (hc : (∀ v e, Den C.b ρ H (Bo O ρ j) v e → Den C.b ρ (upd H a o) (Bo O ρ j) v e) → Cnt C.b ρ (upd H a o) (Bo O ρ j) a d') (hi : ∀ c fs, d' = .ins c fs → ∃ c0 fs0, d = .ins c0 fs0)
    (q : PostS C E ρ (Bo O ρ j) H (muG i Γ j d') Dn) : Dn.nx σ (upd H a o) := by
  unfold conG at h
  unfold muG at q
  split at h
  · rename_i d0 hΓ
    cases h
    rw [hΓ] at q
    dsimp only at q
    obtain ⟨a', e', hO, h0, nr, hs, r⟩ := S.slot i _ hΓ
    rw [ea] at e'
    cases e'
    have st : Step ρ (Bo O ρ j) H ρ (Bo O ρ j) (upd H a o) := ⟨Pres.at (.inl hO), fun _ z => .inl z, Pfx.refl⟩
    have kp : ∀ b, b ≠ a → ∀ u, H b = some u → upd H a o b = some u := fun b n u e => by rw [upd_ne n]; exact e
    refine q O ρ σ _ st ⟨S.st.write hO nr, by simpa using S.len, S.pre, fun b u n hb => kp b (fun z => by rw [z, h0] at hb; cases hb) u (S.ex b u n hb), S.b0, S.new, S.rnw, fun k c hk => ?_, fun k m ds es b h1 h2 h3 h4 => ?_, S.b00⟩
    · rcases set_cases hk with ⟨rfl, _, e⟩ | ⟨ne, hk⟩
      · cases e
        exact ⟨a, ea, hO, h0, nr, fun c fs z => by obtain ⟨c0, fs0, e0⟩ := hi c fs z; exact hs c0 fs0 e0, hc fun _ _ => st.den⟩
      · have q := S.slot k c hk
        cases c with
        | val d => obtain ⟨v, e, r⟩ := q; exact ⟨v, e, st.den r⟩
        | own d => obtain ⟨b, e, hb, g0, n, hc, r⟩ := q; exact ⟨b, e, hb, g0, n, hc, r.map (kp b fun z => ne (S.dist i k _ _ a hΓ hk ea (by rw [← z]; exact e))) fun _ _ => st.den⟩
    · have own : ∀ {k : Nat} {es : D}, (Γ.set i (some (.own d')))[k]? = some (some (.own es)) → ∃ es', Γ[k]? = some (some (.own es')) := fun {k es} g => by
        rcases set_cases g with ⟨rfl, _, _⟩ | ⟨_, g⟩
        · exact ⟨_, hΓ⟩
        · exact ⟨_, g⟩
      obtain ⟨e1, g1⟩ := own h1
      obtain ⟨e2, g2⟩ := own h2
      exact S.dist k m e1 e2 b g1 g2 h3 h4
  · rename_i n hΓ
    rw [hΓ] at q
    dsimp only at q
    obtain ⟨v, e, r⟩ := S.slot i _ hΓ
    rw [ea] at e
    cases e
    cases r with
    | loc hr =>
      split at h
      · rename_i o' ho
        subst h
        obtain ⟨s2, k2⟩ := S.st.put ho hr hc
        exact q O ρ σ _ (k2.step O) (S.keep k2 s2)
      · cases h
  · cases h
variable {a b e o : Expr} {es : List Expr} {ma mb me : Gm → J → R D} {mr : Gm → J → R (List D)} {pos p p2 : Pos}
/-- x.append(e) -/
def sApp (i : Nat) (me : Gm → J → R D) : Gm → J → RS := fun Γ j => match conG i Γ j with
  | some (.lst _) => (me Γ j).bindS Γ fun d j => (match conG i Γ j with
    | some (.lst ds) => if ds.length < 100000 then muG i Γ j (.lst (ds ++ [d])) else .bad
    | _ => .bad)
  | _ => .bad
theorem PostS.ite {c : Prop} [Decidable c] {B : Addr → Prop} {r : RS} {Dn : Ends} (h : PostS C E ρ B H (if c then r else .bad) Dn) : c ∧ PostS C E ρ B H r Dn := by
  by_cases q : c
  · rw [if_pos q] at h; exact ⟨q, h⟩
  · rw [if_neg q] at h; exact h.elim
theorem ms_app {x : Str} {px apos : Pos} (hK : X.K = C.b.K) (hv : PE X (.Name x px) (tVar i)) (he : ME C E X e me) (hs : swapsWith (.Call (.Attribute (.Name x px) "append" apos) [e] [] p) none pos.line X.env = pure false := by rfl)
    (hbase : attributeBase (.Name x px) "append" X.env (eval (.Name x px) X.env) = eval (.Name x px) X.env := by rfl)
    (hfew : ((backTo p (starEach [e] X.env)).all (fun x => !x.1) && (backToKw p (keywordEach [] X.env)).all (fun x => x.1.isSome) && decide ([e].length + ([] : List Keyword).length + (if ([] : List Keyword).isEmpty then 0 else 1) < 30)) = true := by rfl)
    (hline : (apos.endLine == p.line) = true := by rfl) (hst : starEach [e] X.env = (false, eval e X.env) :: starEach [] X.env := by rfl) (hplain : (backTo p (starEach [] X.env)).any (·.1) = false := by rfl) :
    MS C E X (.Expr (.Call (.Attribute (.Name x px) "append" apos) [e] [] p) pos) (sApp i me) :=
  PS.imp (ps_expr (pe_bm PySem.F.plainAttrs_list PySem.F.slot_list_append PySem.F.type_list_append mt_append hv (pa_cons he pa_nil hst) hbase hfew hline hst hplain) hs) fun Dn σ H ⟨O, ρ, Γ, j, S, h⟩ => by
    unfold sApp at h
    split at h
    · rename_i ds0 hc0
      obtain ⟨l, e1, xs0, hx0, r0⟩ := S.con hc0
      refine ⟨.ref l, e1, .inl ⟨rfl, xs0, .inl (.inl hx0)⟩, O, ρ, Γ, j, S, Post.imp (PostS.of S h) fun d j1 ρ1 H1 k1 S1 q v hv => ?_⟩
      split at q
      · rename_i ds hc
        obtain ⟨hl, q⟩ := PostS.ite q
        obtain ⟨l', e1', xs, hx, r⟩ := S1.con hc
        rw [e1] at e1'
        cases e1'
        refine ⟨l, xs, v, rfl, rfl, hx, Nat.lt_of_lt_of_le (by rw [r.length]; exact hl) (sz5 (Nat.le_refl _)), ?_⟩
        exact S1.mu (d' := .lst (ds ++ [d])) hc e1 (fun f => ⟨_, upd_same, (r.append (.cons hv .nil)).map f⟩) (fun _ _ z => by cases z) q
      · exact q.elim
    · exact h.elim
/-- x.extend(e) -/
def sExt (i : Nat) (me : Gm → J → R D) : Gm → J → RS := fun Γ j => match conG i Γ j with
  | some (.lst _) => (me Γ j).bindS Γ fun d j => (match conG i Γ j, d with
    | some (.lst ds), .lst es => if ds.length + es.length ≤ 100000 then muG i Γ j (.lst (ds ++ es)) else .bad
    | _, _ => .bad)
  | _ => .bad
theorem ms_ext {x : Str} {px apos : Pos} (hK : X.K = C.b.K) (hv : PE X (.Name x px) (tVar i)) (he : ME C E X e me) (hs : swapsWith (.Call (.Attribute (.Name x px) "extend" apos) [e] [] p) none pos.line X.env = pure false := by rfl)
    (hbase : attributeBase (.Name x px) "extend" X.env (eval (.Name x px) X.env) = eval (.Name x px) X.env := by rfl)
    (hfew : ((backTo p (starEach [e] X.env)).all (fun x => !x.1) && (backToKw p (keywordEach [] X.env)).all (fun x => x.1.isSome) && decide ([e].length + ([] : List Keyword).length + (if ([] : List Keyword).isEmpty then 0 else 1) < 30)) = true := by rfl)
    (hline : (apos.endLine == p.line) = true := by rfl) (hst : starEach [e] X.env = (false, eval e X.env) :: starEach [] X.env := by rfl) (hplain : (backTo p (starEach [] X.env)).any (·.1) = false := by rfl) :
    MS C E X (.Expr (.Call (.Attribute (.Name x px) "extend" apos) [e] [] p) pos) (sExt i me) :=
  PS.imp (ps_expr (pe_bm PySem.F.plainAttrs_list PySem.F.slot_list_extend PySem.F.type_list_extend mt_extend hv (pa_cons he pa_nil hst) hbase hfew hline hst hplain) hs) fun Dn σ H ⟨O, ρ, Γ, j, S, h⟩ => by
    unfold sExt at h
    split at h
    · rename_i ds0 hc0
      obtain ⟨l, e1, xs0, hx0, r0⟩ := S.con hc0
      refine ⟨.ref l, e1, .inl ⟨rfl, xs0, .inl (.inl hx0)⟩, O, ρ, Γ, j, S, Post.imp (PostS.of S h) fun d j1 ρ1 H1 k1 S1 q v hv => ?_⟩
      split at q
      · rename_i ds es hc
        obtain ⟨hl, q⟩ := PostS.ite q
        obtain ⟨l', e1', xs, hx, r⟩ := S1.con hc
        rw [e1] at e1'
        cases e1'
        obtain ⟨b, ys, rfl, hy, ry⟩ := (Vw.of hv).lstRd
        refine ⟨l, b, xs, ys, rfl, rfl, hx, hy, sz5 (by rw [r.length, ry.length]; exact hl), ?_⟩
        exact S1.mu (d' := .lst (ds ++ es)) hc e1 (fun f => ⟨_, upd_same, (r.append ry).map f⟩) (fun _ _ z => by cases z) q
      · exact q.elim
    · exact h.elim
/-- x[k] = e -/
def sPut (i : Nat) (mk me : Gm → J → R D) : Gm → J → RS := fun Γ j => (me Γ j).bindS Γ fun d j => match conG i Γ j with
  | some _ => (mk Γ j).bindS Γ fun k j => (match conG i Γ j, k with
    | some (.lst ds), .int k => (match ixN ds.length k with
      | some n => muG i Γ j (.lst (ds.set n d))
      | none => .bad)
    | _, _ => .bad)
  | _ => .bad
theorem ms_put {k : Expr} {mk : Gm → J → R D} {x : Str} {px apos : Pos} (hv : PE X (.Name x px) (tVar i)) (hk : ME C E X k mk) (he : ME C E X e me)
    (ha : ∀ v, assign (.Subscript (.Name x px) k apos) X.env v = (do
      let ov ← holding [v] (eval (.Name x px) X.env)
      let iv ← holding [v, ov] (eval k X.env)
      standAt apos
      holding [v, ov, iv] (setItem ov iv v)
      release [v, ov, iv] []) := by intro _; rfl)
    (hs : swapsWithSole [.Subscript (.Name x px) k apos] e pos.line X.env = pure false := by rfl) (hw : swappedStores [.Subscript (.Name x px) k apos] e X.env = pure none := by rfl)
    (h1 : (assignEach [.Subscript (.Name x px) k apos] X.env).map (·.2) = [assign (.Subscript (.Name x px) k apos) X.env] := by rfl) :
    MS C E X (.Assign [.Subscript (.Name x px) k apos] e pos) (sPut i mk me) :=
  PS.imp (ps_asg he (pg_sub hv hk set_list ha) hs hw h1) fun Dn σ H ⟨O, ρ, Γ, j, S, h⟩ => ⟨O, ρ, Γ, j, S, Post.imp (PostS.of S h) fun d j1 ρ1 H1 k1 S1 q v hv => by
    split at q
    · rename_i d0 hc0
      obtain ⟨l, e1, _⟩ := S1.con hc0
      refine ⟨.ref l, e1, O, ρ1, Γ, j1, S1, Post.imp (PostS.of S1 q) fun n j2 ρ2 H2 k2 S2 q2 u hu => ?_⟩
      split at q2
      · rename_i ds n hc
        cases hu
        split at q2
        · rename_i w hw
          obtain ⟨l', e1', xs, hx, r⟩ := S2.con hc
          rw [e1] at e1'
          cases e1'
          refine ⟨l, xs, n, w, rfl, rfl, hx, by rw [r.length]; exact hw, ?_⟩
          exact S2.mu (d' := .lst (ds.set w d)) hc e1 (fun f => ⟨_, upd_same, (DenA.set ((k2.step O).den hv) w r).map f⟩) (fun _ _ z => by cases z) q2
        · exact q2.elim
      · exact q2.elim
    · exact q.elim⟩
/-- self.f = e -/
def putD (f : Str) (d : D) : List (Str × D) → List (Str × D)
  | [] => [(f, d)]
  | (g, e) :: r => if g = f then (g, d) :: r else (g, e) :: putD f d r
theorem DenF.length {c : Cb} {ρ : List Addr} {H : Hp} {B : Addr → Prop} : ∀ {vs : List (Str × V)} {ds : List (Str × D)}, DenF c ρ H B vs ds → vs.length = ds.length
  | _, _, .nil => rfl
  | _, _, .cons _ r => congrArg Nat.succ r.length
theorem DenF.put {c : Cb} {ρ : List Addr} {H : Hp} {B : Addr → Prop} {f : Str} {v : V} {d : D} (h : Den c ρ H B v d) : ∀ {vs : List (Str × V)} {ds : List (Str × D)}, DenF c ρ H B vs ds → DenF c ρ H B (putF f v vs) (putD f d ds)
  | _, _, .nil => .cons h .nil
  | _, _, .cons (f := g) (v := w) (d := e) (vs := vs) (ds := ds) q r => by
    show DenF c ρ H B (if g = f then (g, v) :: vs else (g, w) :: putF f v vs) (if g = f then (g, d) :: ds else (g, e) :: putD f d ds)
    by_cases z : g = f
    · rw [if_pos z, if_pos z]; exact .cons h r
    · rw [if_neg z, if_neg z]; exact .cons q (DenF.put h r)
def sSelf (i : Nat) (f : Str) (cs : List Nat) (me : Gm → J → R D) : Gm → J → RS := fun Γ j => (me Γ j).bindS Γ fun d j => match conG i Γ j with
  | some (.ins n fs) => bif cs.contains n && decide (fs.length < 100) then muG i Γ j (.ins n (putD f d fs)) else .bad
  | _ => .bad
theorem ms_self {x f : Str} {cs : List Nat} {px pos' : Pos} (hK : X.K = C.b.K) (hc : ∀ c, cs.contains c = true → Cls C.b.K (C.b.cm c) ∧ NoAttr C.b.K (C.b.cm c) f) (hv : PE X (.Name x px) (tVar i)) (he : ME C E X e me) (hs : swapsWith e (some (.Attribute (.Name x px) f pos')) pos.line X.env = pure false := by rfl) :
    MS C E X (.Assign [.Attribute (.Name x px) f pos'] e pos) (sSelf i f cs me) :=
  PS.imp (ps_fld hv he hs) fun Dn σ H ⟨O, ρ, Γ, j, S, h⟩ => ⟨O, ρ, Γ, j, S, Post.imp (PostS.of S h) fun d j1 ρ1 H1 k1 S1 q v hv => by
    split at q
    · rename_i n fs hcn
      cases m : (cs.contains n && decide (fs.length < 100)) with
      | false => rw [m] at q; exact q.elim
      | true =>
        rw [m] at q
        obtain ⟨m1, m2⟩ := Bool.and_eq_true_iff.mp m
        obtain ⟨l, e1, dx, vs, ho, r⟩ := S1.con hcn
        refine ⟨.ref l, e1, l, _, dx, vs, rfl, ho, by rw [hK]; exact (hc n m1).1, by rw [hK]; exact (hc n m1).2, Nat.lt_trans (by rw [r.length]; exact of_decide_eq_true m2) (by decide), ?_⟩
        exact S1.mu (d' := .ins n (putD f d fs)) hcn e1 (fun g => ⟨dx, _, upd_same, (DenF.put hv r).map g⟩) (fun _ _ _ => ⟨n, fs, rfl⟩) q
    · exact q.elim⟩
/-- self.f, of the thing itself, in the making -/
def mSelf (i : Nat) (f : Str) (cs : List Nat) : Gm → J → R D := fun Γ j => match conG i Γ j with
  | some (.ins n fs) => bif cs.contains n then lift (fs.lookup f) j else .bad
  | _ => .bad
theorem me_self {x f : Str} {cs : List Nat} {px : Pos} (hK : X.K = C.b.K) (hc : ∀ c, cs.contains c = true → Cls C.b.K (C.b.cm c) ∧ NoAttr C.b.K (C.b.cm c) f) (hv : PE X (.Name x px) (tVar i)) (hb : attributeBase (.Name x px) f X.env (eval (.Name x px) X.env) = eval (.Name x px) X.env := by rfl) : ME C E X (.Attribute (.Name x px) f pos) (mSelf i f cs) :=
  PE.imp (pe_fld hv hb) fun σ H Q ⟨O, ρ, Γ, j, S, h⟩ => by
    unfold mSelf at h
    split at h
    · rename_i n fs hcn
      cases m : cs.contains n with
      | false => rw [m] at h; exact h.elim
      | true =>
        rw [m] at h
        obtain ⟨l, e1, dx, vs, ho, r⟩ := S.con hcn
        obtain ⟨d, hd, q⟩ := post_lift S h
        obtain ⟨v, hv, hr⟩ := r.look hd
        exact ⟨.ref l, e1, l, _, dx, vs, v, rfl, ho, by rw [hK]; exact (hc n m).1, by rw [hK]; exact (hc n m).2, hv, q v H Ext.refl hr⟩
    · exact h.elim
/-- a list of one's own -/
def sOwn (i : Nat) (mr : Gm → J → R (List D)) : Gm → J → RS := fun Γ j => (mr Γ j).bindS Γ fun ds j => if ds.length ≤ 100000 then .nx (Γ.set i (some (.own (.lst ds)))) j else .bad
theorem Sok.own {l : Addr} {d : D} {o : HO} (S : Sok C O ρ σ H Γ j) (hl : H l = none) (hc : (∀ v e, Den C.b ρ H (Bo O ρ j) v e → Den C.b ρ (upd H l o) (Bo (fun a => O a ∨ a = l) ρ j) v e) → Cnt C.b ρ (upd H l o) (Bo (fun a => O a ∨ a = l) ρ j) l d) (hd : ∀ c fs, d ≠ .ins c fs) :
    Step ρ (Bo O ρ j) H ρ (Bo (fun a => O a ∨ a = l) ρ j) (upd H l o) ∧ Sok C (fun a => O a ∨ a = l) ρ (σ.set i (some (.ref l))) (upd H l o) (Γ.set i (some (.own d))) j := by
  have x : Ext H (upd H l o) := Ext.new hl
  have nρ : l ∉ ρ := fun z => by obtain ⟨o, e⟩ := S.st.rtr l z; rw [hl] at e; cases e
  have h0 : C.H0 l = none := by
    cases e : C.H0 l with
    | none => rfl
    | some u =>
      by_cases q : Live C.ρ0 C.J0 l
      · exact absurd (S.pre.mem q.mem) nρ
      · rw [S.ex l u q e] at hl; cases hl
  have st : Step ρ (Bo O ρ j) H ρ (Bo (fun a => O a ∨ a = l) ρ j) (upd H l o) := ⟨x.pres, fun a z => by
    rcases z with (z | z) | z
    · exact .inl (.inl z)
    · rw [z]; exact .inr hl
    · exact .inl (.inr z), Pfx.refl⟩
  have S' := S.more (o := o) hl
  refine ⟨st, S'.st, by simpa using S.len, S'.pre, S'.ex, S'.b0, S'.new, S'.rnw, fun k c hk => ?_, fun k m ds es b h1 h2 h3 h4 => ?_, S'.b00⟩
  · rcases set_cases hk with ⟨rfl, hlt, e⟩ | ⟨ne, hk⟩
    · cases e
      exact ⟨l, List.getElem?_set_self (by rw [← S.len]; exact hlt), .inr rfl, h0, nρ, fun c fs z => (hd c fs z).elim, hc fun _ _ => st.den⟩
    · have q := S'.slot k c hk
      cases c with
      | val d => obtain ⟨v, e, r⟩ := q; exact ⟨v, (List.getElem?_set_ne ne).trans e, r⟩
      | own d => obtain ⟨b, e, r⟩ := q; exact ⟨b, (List.getElem?_set_ne ne).trans e, r⟩
  · have fr : ∀ {k : Nat} {es : D} {b : Addr}, i ≠ k → Γ[k]? = some (some (.own es)) → σ[k]? = some (some (.ref b)) → b ≠ l := fun {k es b} ne g s z => by
      obtain ⟨a, e, hO, _⟩ := S.slot k _ g
      rw [s] at e
      cases e
      obtain ⟨o, ho⟩ := S.st.trk b hO
      rw [z, hl] at ho
      cases ho
    rcases set_cases h1 with ⟨rfl, hlt, _⟩ | ⟨n1, h1⟩
    · rcases set_cases h2 with ⟨rfl, _, _⟩ | ⟨n2, h2⟩
      · rfl
      · rw [List.getElem?_set_self (by rw [← S.len]; exact hlt)] at h3
        rw [List.getElem?_set_ne n2] at h4
        cases h3
        exact (fr n2 h2 h4 rfl).elim
    · rcases set_cases h2 with ⟨rfl, hlt, _⟩ | ⟨n2, h2⟩
      · rw [List.getElem?_set_self (by rw [← S.len]; exact hlt)] at h4
        rw [List.getElem?_set_ne n1] at h3
        cases h4
        exact (fr n1 h1 h3 rfl).elim
      · rw [List.getElem?_set_ne n1] at h3
        rw [List.getElem?_set_ne n2] at h4
        exact S.dist k m _ _ b h1 h2 h3 h4
theorem ms_own {x : Str} {pos' : Pos} (hN : X.N.Nodup) (hi : X.N[i]? = some x) (hx : Loc X.env.scope x) (hr : MA C E X es mr) (hs : swapsWith (.List es p) (some (.Name x pos')) pos.line X.env = pure false := by rfl) (hf : X.fn x = true ∨ X.env.scope.names.lookup x = some .local := by first | exact .inl rfl | exact .inr rfl | assumption) :
    MS C E X (.Assign [.Name x pos'] (.List es p) pos) (sOwn i mr) :=
  PS.imp (ps_set hN hi hx (pe_lst hr) hs hf) fun Dn σ H ⟨O, ρ, Γ, j, S, h⟩ => ⟨O, ρ, Γ, j, S, Post.imp (PostS.of S h) fun ds j1 ρ1 H1 k1 S1 q vs hvs => by
    obtain ⟨hl, q⟩ := PostS.ite q
    refine ⟨sz5 (by rw [hvs.length]; exact hl), fun p hp => ?_⟩
    obtain ⟨st, S2⟩ := S1.own (i := i) (d := .lst ds) hp (fun f => ⟨vs, upd_same, hvs.map f⟩) (fun _ _ z => by cases z)
    exact q _ _ _ _ st S2⟩
/-- from here on the thing in slot i is a value like others -/
def frzG (i : Nat) (Γ : Gm) : Gm := match Γ[i]? with
  | some (some (.own (.ins c fs))) => Γ
  | some (some (.own d)) => Γ.set i (some (.val d))
  | _ => Γ
theorem Sok.freeze (i : Nat) (S : Sok C O ρ σ H Γ j) : ∃ O', Step ρ (Bo O ρ j) H ρ (Bo O' ρ j) H ∧ Sok C O' ρ σ H (frzG i Γ) j := by
  unfold frzG
  split
  · exact ⟨O, Step.refl, S⟩
  · rename_i d hnd hi
    obtain ⟨l, e1, hb, h0, nr, hs, r⟩ := S.slot i _ hi
    have hiL : i < Γ.length := (List.getElem?_eq_some_iff.mp hi).1
    have ls : ∀ a, Bo (fun a => O a ∧ a ≠ l) ρ j a → Bo O ρ j a ∨ H a = none := fun a z => .inl (z.imp (·.1) id)
    have nB : ¬ Bo (fun a => O a ∧ a ≠ l) ρ j l := fun z => z.elim (fun z => z.2 rfl) fun z => nr z.mem
    have nl : ∀ {k : Nat} {ds' : D} {a : Addr}, i ≠ k → Γ[k]? = some (some (.own ds')) → σ[k]? = some (some (.ref a)) → a ≠ l := fun n g s w => n (S.dist i _ _ _ l hi g e1 (by rw [← w]; exact s))
    refine ⟨fun a => O a ∧ a ≠ l, ⟨Pres.refl, ls, Pfx.refl⟩, ⟨S.st.less fun a z => z.1, by simpa using S.len, S.pre, S.ex, fun a z => ⟨S.b0 a z, fun w => ?_⟩, S.new, S.rnw, fun k c hk => ?_, fun k m ds' es' a h1 h2 h3 h4 => ?_, S.b00⟩⟩
    · obtain ⟨o, ho⟩ := S.b00 a z
      rw [w, h0] at ho
      cases ho
    · rcases set_cases hk with ⟨rfl, _, e⟩ | ⟨ne, hk⟩
      · cases e
        exact ⟨.ref l, e1, (r.map (B' := Bo (fun a => O a ∧ a ≠ l) ρ j) (fun _ z => z) fun _ _ r => r.less ls).den nB⟩
      · have q := S.slot k c hk
        cases c with
        | val d => obtain ⟨u, z, r⟩ := q; exact ⟨u, z, r.less ls⟩
        | own d => obtain ⟨a, z, b, g0, n, hc, r⟩ := q; exact ⟨a, z, ⟨b, nl ne hk z⟩, g0, n, hc, r.map (fun _ z => z) fun _ _ r => r.less ls⟩
    · have ne : ∀ {k : Nat} {es' : D}, (Γ.set i (some (.val d)))[k]? = some (some (.own es')) → Γ[k]? = some (some (.own es')) := fun {k es'} g => by
        rcases set_cases g with ⟨_, _, e⟩ | ⟨_, g⟩
        · cases e
        · exact g
      exact S.dist k m ds' es' a (ne h1) (ne h2) h3 h4
  · exact ⟨O, Step.refl, S⟩
theorem mb_freeze (i : Nat) {sts : List Stmt} {m : Gm → J → RS} (h : MB C E X sts m) : MB C E X sts (fun Γ j => m (frzG i Γ) j) :=
  PSs.imp h fun Dn σ H ⟨O, ρ, Γ, j, S, q⟩ => by
    obtain ⟨O', st, S'⟩ := S.freeze i
    exact ⟨O', ρ, _, j, S', PostS.shift st q⟩
end
end On

set_option Elab.async false
set_option linter.all false
set_option maxRecDepth 100000
set_option maxHeartbeats 2000000
set_option autoImplicit false
namespace On
open PySem PySem.Spec PyProof.Rows L2

/-! ### an own error class over ValueError whose __init__ says super().__init__(..) -/
abbrev veMw (x : Addr) : Obj := PySem.W.kxs_mw "ValueError.__init__" x
theorem callWithV {M : Model} {A : Around} {E : Value → Shared → Prop} {s : Shared} {u x : Addr} {pos : Pos} {env : Env} {e : Expr} {Q : Value → Shared → Prop}
    (h : wpAny M A (spliced (backTo pos (starEach [e] env))) (fun vs s₁ => s₁.heap.get? u = some (veMw x) ∧ wpAny M A (call (.ref u) vs) Q E s₁) E s)
    (he : starEach [e] env = (false, eval e env) :: starEach [] env := by rfl) :
    wpAny M A (callWith pos (.ref u) [] (backTo pos (starEach [e] env)) []) Q E s := by
  rw [he] at h ⊢
  refine PySem.W.kxs_callWith (i := "ValueError.__init__") (x := x) rfl ?_
  exact PySem.Calls.evalArgs_plain h

section
variable {prog : Program} {w : World} {A : Around} {E : Value → Shared → Prop} {h : Heap} {g : Array GenState} {d : Drawn} {t : Nat} {os : OsState}
variable {nm q : Str} {C N : Addr} {bs bm : List Value} {hdct : Bool} {sn : List Str} {sub : List Value} {ab : Bool} {col : Option Bool} {dd : Option Addr} {k0 k1 k2 k3 k5 : Option Value}
theorem call_veMw {u e t0 : Addr} {rest : List Value} {Q : Value → Shared → Prop}
    (hC : h.get? C = some (excClassObj nm q C N bs bm hdct sn sub ab col dd k0 k1 k2 k3 k5 "ValueError.__new__")) (he : h.get? e = some (HandSPX.excO C t0)) (hu : h.get? u = some (veMw e)) (hrest : rest.length ≤ sizeLine)
    (hq : ∀ h' t1, (∀ b o, b ≠ e → h.get? b = some o → h'.get? b = some o) → h'.get? e = some (HandSPX.excO C t1) → Q .none ⟨h', g, d, t, os⟩) :
    wpAny (model prog w) A (call (.ref u) rest) Q E ⟨h, g, d, t, os⟩ := by
  refine wpAny_call (codeAny_of_tree ?_)
  show wpAny _ A.in1 (callAny (.ref u) ⟨rest, []⟩) _ _ _
  simp only [callAny]
  refine wpAny_bind (wpAny_load hu ?_)
  simp only [veMw, PySem.W.kxs_mw, show (Value.type "method-wrapper" == Value.type "method" || Value.type "method-wrapper" == Value.type "builtin_function_or_method" || Value.type "method-wrapper" == Value.type "method-wrapper") = true by decide, if_true]
  refine W.KFB.if_so (by decide) ?_
  refine wpAny_bind (PySem.ESX.check_bound F.excBase_ValueError hC he rfl ?_)
  refine wpAny_bind (wpAny_pure (wpAny_pure ?_))
  refine ⟨Code.quiet_builtin _ (by decide +kernel), codeAny_builtin F.excBase_ValueError.initEntry ?_⟩
  rw [Around.under_plainId F.excBase_ValueError.init.plain _]
  wp_walk
  refine hq _ h.objs.size (fun b o hb ho => ?_) ?_
  · rw [Heap.get?_update_other _ _ (Ne.symm hb)]
    exact Heap.get?_push_of_some _ ho
  · rw [Heap.get?_update_self _ (Heap.get?_push_of_some _ he) rfl]
    rfl
end

/-- the written part tells of the def at f: an own __init__ within the class at D -/
structure SupD (P : Program) (K : PySem.W.Frag) (mg : Str → Option Value) (D f cc cda : Addr) (qual : Str) (params : Arguments) (body : List Stmt) (scope : Scope) (ps : List Str) : Prop where
  fn : ∃ oc od osl dV kV doc pm an ct, K.lookup f = some ⟨oc, od, .func (PySem.W.ksFn "__init__" qual params body scope dV kV doc pm an (.ref cda) ct cc), osl⟩ ∧ Binds K (PySem.W.ksFn "__init__" qual params body scope dV kV doc pm an (.ref cda) ct cc) ps []
  code : PySem.W.codeIn K (.ref cda) qual = true
  file : ∃ ccl cdd vs ccs tf file, K.lookup cda = some ⟨ccl, cdd, .fields vs, ccs⟩ ∧ vs[2]? = some (.str file tf) ∧ ((P.main.file : Str) == file) = true
  cell : ∃ cl cld csl, K.lookup cc = some ⟨cl, cld, .cell (some (.ref D)), csl⟩
  cls : ∃ cd, PySem.W.clsIn K D = some cd
  opq : PySem.W.nsIn K cStatics "thirdparty.any" = some none
  top : (P.main.scope.names.lookup ("super" : Str)).isSome = false
  gl : mg "super" = none

/-- super(): the super object, made -/
theorem super_node {P : Program} {w : World} {K : PySem.W.Frag} {mg : Str → Option Value} {base : Heap} {A : Around} {E : Value → Shared → Prop} {D f cc cda a C : Addr} {qual : Str} {params : Arguments} {body : List Stmt} {scope : Scope} {L : Addr} {m : Str → Option Value}
    {hp : Heap} {g : Array GenState} {d : Drawn} {t : Nat} {os : OsState} {p0 p1 : Pos} {attr : Str} {whole : Sem Value} {oa : Obj} {Q : Value → Shared → Prop} {ar : Arg} {ps : List Str}
    (S : SupD P K mg D f cc cda qual params body scope ps) (MD : Mod K mg base) (kp : ∀ b o, base.get? b = some o → hp.get? b = some o) (hL : hp.Ns L m)
    (hpar : (params.posonlyargs ++ params.args).head? = some ar) (hv : m ar.arg = some (.ref a)) (ha : hp.get? a = some oa) (hac : oa.cls = .ref C) (had : ∀ c, oa.data ≠ .cls c) (hsub : PySem.W.mroIn K C (.ref D) = some true)
    (hat : (attr == ("__class__" : Str)) = false) (hks : scope.names.lookup ("super" : Str) = some .globalImplicit) (hkc : scope.names.lookup ("__class__" : Str) = some .free) (hka : scope.names.lookup ar.arg = some .local) (hk : scope.kind = .function)
    (hq : ∀ h', (∀ y o, hp.get? y = some o → h'.get? y = some o) → h'.get? hp.objs.size = some (PySem.W.ks_superObj D a C) → Q (.ref hp.objs.size) ⟨h', g, d, t, os⟩) :
    _root_.PySem.wpAt (model P w) A (.func body (PySem.W.ksEnv qual scope L f (.ref cda) cc)) (attributeBase (.Call (.Name "super" p0) [] [] p1) attr (PySem.W.ksEnv qual scope L f (.ref cda) cc) whole) Q E ⟨hp, g, d, t, os⟩ := by
  have X : K.In hp := MD.kin.keeps kp
  obtain ⟨oc, od, osl, dV, kV, doc, pm, an, ct, hf, hbd⟩ := S.fn
  obtain ⟨ccl, cdd, vs, ccs, tf, file, hcode, hvs, hfile⟩ := S.file
  obtain ⟨cl, cld, csl, hcell⟩ := S.cell
  obtain ⟨cdD, hD⟩ := S.cls
  obtain ⟨mb, hb1, hb2⟩ := MD.blt
  obtain ⟨oD, hD1, hD2⟩ : ∃ oD, hp.get? D = some oD ∧ oD.data = .cls cdD := by
    unfold PySem.W.clsIn at hD
    split at hD
    · rename_i c d cd' sl ho
      cases hD
      exact ⟨_, X _ _ ho, rfl⟩
    · cases hD
  refine ks_wpAt_super_base (env := PySem.W.ksEnv qual scope L f (.ref cda) cc) hks hkc hat rfl (X _ _ hf) rfl hpar rfl (X _ _ hcode) rfl hvs hfile S.top ?_
  refine PySem.W.ks_loadName_global hk hks (PySem.Calls.loadGlobal_builtin (env := PySem.W.ksEnv qual scope L f (.ref cda) cc) (MD.glob.keeps kp) S.gl (hb1.keeps kp) ((hb2 _ (by decide)).trans (by decide +kernel : bootBuiltins "super" = some (.type "super"))) ⟨rfl, ?_⟩)
  refine wpAny_loadName_free hk hkc rfl ⟨_, X _ _ hcell, rfl⟩ ?_
  refine wpAny_loadName_local hk hka hL hv ?_
  refine ks_wpAny_isType_cls hD1 hD2 ⟨rfl, ?_⟩
  exact ks_wpAny_call_super hD1 hD2 ha hac had (PySem.W.looks_mroIn X hsub) (fun h' e k => hq h' k e)

/-- what the written part tells of an own error class C below D, whose super() is ValueError's -/
structure FeC (K : PySem.W.Frag) (D C : Addr) : Prop extends OexC K C where
  mro : PySem.W.mroIn K C (.ref D) = some true
  sve : PySem.W.subIn K (.ref C) (.type "ValueError") = some true
  sup : PySem.W.ks_superIn K C D "__init__" = some (some (.builtin "ValueError.__init__"))
  noval : PySem.W.findIn K (.ref C) "value" = some none
abbrev feParams (q1 q2 : Pos) : Arguments := { posonlyargs := [], args := [{ arg := "self", annotation := none, pos := q1 }, { arg := "value", annotation := none, pos := q2 }], vararg := none, kwonlyargs := [], kw_defaults := [], kwarg := none, defaults := [] }
abbrev feBody (p1 p2 p3 p4 p5 p6 p7 p8 p9 p10 : Pos) : List Stmt := [.Expr (.Call (.Attribute (.Call (.Name "super" p1) [] [] p2) "__init__" p3) [.Name "value" p4] [] p5) p6, .Assign [.Attribute (.Name "self" p7) "value" p8] (.Name "value" p9) p10]
abbrev feScope : Scope := { kind := .function, names := [("self", .local), ("value", .local), ("__class__", .free), ("super", .globalImplicit)], isGenerator := false, isCoroutine := false, more := [] }
/-- how super().__init__(value) is evaluated: one line -/
def FeV (qual : Str) (f cda cc : Addr) (p1 p2 p3 p4 p5 : Pos) : Prop := ∀ L, ∃ pl, eval (.Call (.Attribute (.Call (.Name "super" p1) [] [] p2) "__init__" p3) [.Name "value" p4] [] p5) (PySem.W.ksEnv qual feScope L f (.ref cda) cc) = (do
      let ov ← attributeBase (.Call (.Name "super" p1) [] [] p2) "__init__" (PySem.W.ksEnv qual feScope L f (.ref cda) cc) (eval (.Call (.Name "super" p1) [] [] p2) (PySem.W.ksEnv qual feScope L f (.ref cda) cc))
      standAt p3.atName
      let (f', first) ← holding [ov] (getMethod ov "__init__" pl)
      callWith p5 f' first (backTo p5 (starEach [.Name "value" p4] (PySem.W.ksEnv qual feScope L f (.ref cda) cc))) [])
abbrev exAt (C t1 : Addr) (d : Option Addr) : Obj := { cls := .ref C, dict := d, data := .fields #[.ref t1, .none, .none, .none, .bool false, .none] }

section
variable {P : Program} {w : World} {K : PySem.W.Frag} {mg : Str → Option Value} {base : Heap} {A : Around} {D f cc cda a C t0 : Addr} {qual : Str} {q1 q2 p1 p2 p3 p4 p5 p6 p7 p8 p9 p10 : Pos} {hp : Heap} {g : Array GenState} {d : Drawn} {t : Nat} {os : OsState} {u : Value} {R : Result → Shared → Prop}
theorem fe_init (S : SupD P K mg D f cc cda qual (feParams q1 q2) (feBody p1 p2 p3 p4 p5 p6 p7 p8 p9 p10) feScope ["self", "value"]) (V : FeV qual f cda cc p1 p2 p3 p4 p5) (T : FeC K D C) (MD : Mod K mg base) (kp : ∀ b o, base.get? b = some o → hp.get? b = some o ∧ b ≠ a)
    (hroom : A.depth < recursionLimit) (ha : hp.get? a = some (exAt C t0 none))
    (hq : ∀ h' t' t1 dx, (∀ b o, b ≠ a → hp.get? b = some o → h'.get? b = some o) → hp.objs.size ≤ dx → dx ≠ a → h'.get? a = some (exAt C t1 (some dx)) → h'.Ns1 dx (fun y => if y = "value" then some u else none) → R (.ok (.ret .none)) ⟨h', g, d, t', os⟩) :
    codeAny (model P w) A (.call (.ref f) ⟨[.ref a, u], []⟩) R ⟨hp, g, d, t, os⟩ := by
  have kp0 : ∀ b o, base.get? b = some o → hp.get? b = some o := fun b o e => (kp b o e).1
  have X : K.In hp := MD.kin.keeps kp0
  obtain ⟨oc, od, osl, dV, kV, doc, pm, an, ct, hf, hbd⟩ := S.fn
  obtain ⟨nm, q, N, bs, bm, sn, sub, ab, col, dd, k0, k1, k2, k3, k5, hC, hbm⟩ := T.cls
  have hcl : PySem.W.clsIn K C = some { name := nm, bases := bs, mro := .ref C :: bm, ns := N, qualname := q, hasDict := true, slotNames := sn, subclasses := sub, abstract := ab, collection := col, hasDel := false } := by unfold PySem.W.clsIn; rw [hC] <;> rfl
  refine ks_codeAny_call_defAt (fd := PySem.W.ksFn "__init__" qual (feParams q1 q2) (feBody p1 p2 p3 p4 p5 p6 p7 p8 p9 p10) feScope dV kV doc pm an (.ref cda) ct cc) (binds := [("self", .ref a), ("value", u)]) hroom (X _ _ hf) rfl (MD.nolimit.keeps kp0) (PySem.W.codeRec_of X S.code) rfl
    (hbd _ _ X rfl) (show ∀ x ∈ feScope.names, x.2 ≠ .cell by decide) (by intro x hx; simp only [List.mem_cons, List.not_mem_nil, or_false] at hx; rcases hx with rfl | rfl <;> rfl) (fun h0 hns hk => ?_)
  have kp1 : ∀ b o, base.get? b = some o → h0.get? b = some o := fun b o e => hk b o (kp0 b o e)
  have sz0 : hp.objs.size ≤ h0.objs.size := by
    obtain ⟨o, _, _, e, _⟩ := hns
    exact Nat.le_of_lt (Heap.lt_size e)
  obtain ⟨pl, hev⟩ := V hp.objs.size
  have hcl' := hcl
  have gk : ∀ {h1 : Heap}, (∀ y o, h0.get? y = some o → h1.get? y = some o) → K.In h1 := fun k => MD.kin.keeps fun b o e => k b o (kp1 b o e)
  refine ks_wpAt_execs_cons (ks_wpAt_Expr_any (ks_wpAt_MethodCall (pl := pl) (super_node S MD kp1 hns (ar := { arg := "self", annotation := none, pos := q1 }) rfl (by rfl) (hk _ _ ha) rfl (fun c e => by cases e) T.mro (by decide) rfl rfl rfl rfl fun h1 k1 hso => ?_) hev) (by rfl) (by rfl))
  have sz1 : h0.objs.size < h1.objs.size := Heap.lt_size hso
  have ha1 := k1 _ _ (hk _ _ ha)
  have I1 : PySem.W.InstAt h1 a (exAt C t0 none) C none := ⟨ha1, rfl, rfl, trivial⟩
  have hsup := T.sup
  unfold PySem.W.ks_superIn at hsup
  rw [hcl, Option.bind_some] at hsup
  refine PySem.W.kxs_getMethod PySem.W.kxs_ValueError hso (PySem.W.looks_opaque (gk k1) S.opq) ((PySem.W.looks_clsIn (gk k1) hcl).andThen .now) rfl (gk k1) hsup (I1.type.andThen (PySem.W.looks_subIn (gk k1) T.sve)) (PySem.W.ks_ne (gk k1) I1 hcl) (by decide) ?_
  have hns2 : (h1.push (veMw a)).Ns hp.objs.size (fun x => List.lookup x [(("self" : Str), Value.ref a), (("value" : Str), u)].reverse) := hns.keeps fun b o e => Heap.get?_push_of_some _ (k1 b o e)
  refine callWithV (x := a) (PySem.Calls.spliced_cons (PySem.ESX.ldL hns2 (v := u) (by rfl) (PySem.Calls.spliced_nil ⟨Heap.get?_push_at rfl rfl, ?_⟩) rfl rfl))
  refine call_veMw (gk (fun b o e => Heap.get?_push_of_some _ (k1 b o e)) _ _ hC) (t0 := t0) (Heap.get?_push_of_some _ ha1) (Heap.get?_push_at rfl rfl) (by rw [sizeLine_eq]; simp) fun h2 t1 k2 ha2 => ?_
  have neL : hp.objs.size ≠ a := fun z => absurd (Heap.lt_size ha) (by rw [← z]; exact Nat.lt_irrefl _)
  have k02 : ∀ b o, b ≠ a → h0.get? b = some o → h2.get? b = some o := fun b o n e => k2 b o n (Heap.get?_push_of_some _ (k1 b o e))
  have hns3 : h2.Ns hp.objs.size (fun x => List.lookup x [(("self" : Str), Value.ref a), (("value" : Str), u)].reverse) := by
    obtain ⟨o, es, ep, e, r⟩ := hns
    exact ⟨o, es, ep, k02 _ _ neL e, r⟩
  have lt2 : hp.objs.size < h2.objs.size := by
    obtain ⟨o, _, _, e, _⟩ := hns3
    exact Heap.lt_size e
  have kb2 : ∀ b o, base.get? b = some o → h2.get? b = some o := fun b o e => k02 b o (kp b o e).2 (kp1 b o e)
  have X2 : K.In h2 := MD.kin.keeps kb2
  refine ks_wpAt_execs_cons (ks_wpAt_Assign_Attr (wpAt_of_wpAny (PySem.ESX.ldL hns3 (v := u) (by rfl) (PySem.ESX.ldL hns3 (v := .ref a) (by rfl) ?_ rfl rfl) rfl rfl)) (by rfl))
  refine PySem.W.set_plain X2 (ox := exAt C t1 none) (od := none) ⟨ha2, rfl, rfl, trivial⟩ T.sa ?_
  refine PySem.HandSPX.exc_osa X2 ha2 hcl (show PySem.HandSPX.refsVE (.ref C :: bm) = true from hbm) rfl T.noval (fun h3 tk3 dx k3 dn dne ha3 hn3 => ?_)
  refine wpAt_of_wpAny ?_
  show wpAny _ _ (execs [] _) _ _ _
  rw [execs_nil]
  refine wpAny_pure ?_
  exact hq h3 _ t1 dx (fun b o n e => k3 b o n (k02 b o n (hk b o e))) (Nat.le_trans (Nat.le_of_lt lt2) dn) dne ha3 hn3
end
end On

set_option Elab.async false
set_option linter.all false
set_option maxRecDepth 100000
set_option maxHeartbeats 2000000
set_option autoImplicit false
namespace On
open PySem PySem.Spec PyProof.Rows L2

/-- the def of an own __init__(self, value), where it stands -/
structure FeI (P : Program) (K : PySem.W.Frag) (mg : Str → Option Value) (D f : Addr) : Prop where
  ex : ∃ cc cda qual q1 q2 p1 p2 p3 p4 p5 p6 p7 p8 p9 p10, SupD P K mg D f cc cda qual (feParams q1 q2) (feBody p1 p2 p3 p4 p5 p6 p7 p8 p9 p10) feScope ["self", "value"] ∧ FeV qual f cda cc p1 p2 p3 p4 p5
  ty : PySem.W.typeIn K (.ref f) = some (.type "function")
/-- the class at C below D has that __init__ -/
structure FeK (K : PySem.W.Frag) (D f C : Addr) : Prop extends FeC K D C where
  ini : PySem.W.findIn K (.ref C) "__init__" = some (some (.ref f))

section
variable {P : Program} {w : World} {K : PySem.W.Frag} {mg : Str → Option Value} {base : Heap} {A : Around} {D f C : Addr} {hp : Heap} {g : Array GenState} {d : Drawn} {t : Nat} {os : OsState} {u : Value} {R : Result → Shared → Prop}
theorem fe_make (S : FeI P K mg D f) (T : FeK K D f C) (MD : Mod K mg base) (kp : ∀ b o, base.get? b = some o → hp.get? b = some o) (hroom : (A.under (.builtin "type.__call__" ⟨[.ref C, u], []⟩)).depth < recursionLimit)
    (hq : ∀ h' t' t1 dx a, (∀ b o, hp.get? b = some o → h'.get? b = some o) → hp.objs.size ≤ dx → hp.objs.size ≤ a → dx ≠ a → h'.get? a = some (exAt C t1 (some dx)) → h'.Ns1 dx (fun y => if y = "value" then some u else none) → R (.ok (.ret (.ref a))) ⟨h', g, d, t', os⟩) :
    codeAny (model P w) A (.call (.ref C) ⟨[u], []⟩) R ⟨hp, g, d, t, os⟩ := by
  obtain ⟨cc, cda, qual, q1, q2, p1, p2, p3, p4, p5, p6, p7, p8, p9, p10, SD, SV⟩ := S.ex
  have X : K.In hp := MD.kin.keeps kp
  obtain ⟨nm, q, N, bs, bm, sn, sub, ab, col, dd, k0, k1, k2, k3, k5, hC, hbm⟩ := T.cls
  refine PySem.HandSPX.call_own F.excBase_ValueError (fun Y => PySem.HandSPX.refsVE_contains Y bm hbm) (X _ _ hC) (PySem.W.looks_findIn X T.ini) (fun self => PySem.W.bind_fn X self S.ty) (by rw [sizeLine_eq]; simp) ?_
  have kk : ∀ b o, hp.get? b = some o → ((hp.push (PySem.W.kdv_tup [u])).push (PySem.HandSPX.excO C hp.objs.size)).get? b = some o := fun b o e => Heap.get?_push_of_some _ (Heap.get?_push_of_some _ e)
  have hget : ((hp.push (PySem.W.kdv_tup [u])).push (PySem.HandSPX.excO C hp.objs.size)).get? (hp.objs.size + 1) = some (exAt C hp.objs.size none) := by heap_get
  have lt : ∀ {b o}, hp.get? b = some o → b ≠ hp.objs.size + 1 := fun {b o} e => Nat.ne_of_lt (Nat.lt_succ_of_lt (Heap.lt_size e))
  refine fe_init SD SV T.toFeC MD (fun b o e => ⟨kk b o (kp b o e), lt (kp b o e)⟩) hroom hget fun h' t' t1 dx k dn dne ha hn => ⟨rfl, ?_⟩
  refine hq h' t' t1 dx (hp.objs.size + 1) (fun b o e => k b o (lt e) (kk b o e)) (Nat.le_trans ?_ dn) (Nat.le_succ _) dne ha hn
  show _ ≤ _
  simp only [Heap.push, Array.size_push]
  omega
end
section
variable {X : Cx} {pins : List (Addr × Obj)} {σ : L2.St} {H : Hp} {hp h' : Heap} {g : Array GenState} {dr : Drawn} {t t' : Nat} {os : OsState} {C t1 dx a : Addr} {mA : Str → Option Value} {fs : List (Str × V)}
/-- a new error and its dict: the dict alone is told of (the error is raised) -/
theorem Inv.feR (I : Inv X pins σ H ⟨hp, g, dr, t, os⟩) (k : ∀ b o, hp.get? b = some o → h'.get? b = some o) (hd : hp.objs.size ≤ dx) (ha : hp.objs.size ≤ a) (ne : dx ≠ a) (hn : h'.Ns1 dx mA) (r : ∀ f, RelO (fs.lookup f) (mA f)) :
    ∃ G : Heap, Inv X pins σ (upd H dx (.xd fs)) ⟨G, g, dr, t', os⟩ ∧ (∀ b o, G.get? b = some o → h'.get? b = some o) ∧ G.get? a = none ∧ (∀ b o, b ≠ a → h'.get? b = some o → G.get? b = some o) ∧ upd H dx (.xd fs) a = none := by
  obtain ⟨G, g1, g2⟩ := restrict h' fun b => decide (b ≠ a)
  have gk : ∀ b, b ≠ a → G.get? b = h'.get? b := fun b hb => g1 b (decide_eq_true hb)
  have ge : G.get? a = none := g2 a (by simp)
  have nha : ∀ {b : Addr} {o : Obj}, hp.get? b = some o → b ≠ a := fun {b o} z => Nat.ne_of_lt (Nat.lt_of_lt_of_le (Heap.lt_size z) ha)
  refine ⟨G, I.laid (t' := t') (a := dx) (o := .xd fs) (h' := G) (fun b o e => (gk b (nha e)).trans (k b o e)) hd ⟨mA, hn.at fun o e => (gk dx ne).trans e, r⟩, fun b o e => ?_, ge, fun b o n e => (gk b n).trans e, ?_⟩
  · by_cases hb : b = a
    · rw [hb, ge] at e
      cases e
    · exact (gk b hb).symm.trans e
  · rw [upd_ne (Ne.symm ne)]
    exact I.hok.fresh ha
/-- a new error and its dict, both told of -/
theorem Inv.feV (I : Inv X pins σ H ⟨hp, g, dr, t, os⟩) (k : ∀ b o, hp.get? b = some o → h'.get? b = some o) (hd : hp.objs.size ≤ dx) (ha : hp.objs.size ≤ a) (ne : dx ≠ a) (he : h'.get? a = some (exAt C t1 (some dx))) (hn : h'.Ns1 dx mA) (r : ∀ f, RelO (fs.lookup f) (mA f)) :
    Inv X pins σ (upd (upd H dx (.xd fs)) a (exo a C (some dx))) ⟨h', g, dr, t', os⟩ := by
  obtain ⟨G, J, kG, ge, _, na⟩ := Inv.feR (t' := t') I k hd ha ne hn r
  exact J.laidN (t' := t') kG ge na (exo_ok he)
end
section
variable {X : Cx} {D f C : Addr} {x : Str} {e : Expr} {ta : TE} {p pos : Pos}
theorem one_lookup (k : Str) (v : V) {u : Value} (r : RelV v u) (g : Str) : RelO (([(k, v)] : List (Str × V)).lookup g) (if g = k then some u else none) := relO_put (fs := []) (mA := fun _ => none) r (fun _ => True.intro) g
/-- C(e), as a value -/
theorem pe_fe (S : FeI X.prog X.K X.mg D f) (T : FeK X.K D f C) (hr : Room 1 X.A) (hg : Gl X x) (hm : X.mg x = some (.ref C)) (he : PE X e ta)
    (hs : starEach [e] X.env = (false, eval e X.env) :: starEach [] X.env := by rfl) (hdb : (x == ("__debug__" : Str)) = false := by decide) :
    PE X (.Call (.Name x p) [e] [] pos) (fun σ H Q => ta σ H fun v H1 => ∀ a dx, H1 a = none → H1 dx = none → dx ≠ a → Q (.ref a) (upd (upd H1 dx (.xd [("value", v)])) a (exo a C (some dx)))) := by
  refine ⟨fun pins s σ H Q I h => ?_⟩
  refine wpAny_Call_Name_kw (ld_glob I hg hm ?_ hdb)
  refine PySem.W.callWith_K (h₀ := X.base) I.ok.mod.kin T.kC ?_ hs (by rfl)
  rw [hs]
  show wpAny _ _ (spliced ((false, eval e X.env) :: backTo pos (starEach [] X.env))) _ _ s
  refine Calls.spliced_cons (thn (he.run pins s σ H _ I h) fun u s1 ⟨v, H1, I1, r1, q1⟩ => ?_)
  refine Calls.spliced_nil ⟨I1.kIn, ?_⟩
  show wpAny _ _ (call (.ref C) [u]) _ _ _
  obtain ⟨hp, g, dr, t, os⟩ := s1
  refine wpAny_call (fe_make S T I1.ok.mod (fun b o e => (I1.bs b o e).1) (hr.make C [u] []).depth fun h' t' t1 dx a k hd ha ne hE hn => ?_)
  exact ⟨.ref a, _, Inv.feV (t' := t') I1 k hd ha ne hE hn (one_lookup _ _ r1), rfl, q1 a dx (I1.hok.fresh ha) (I1.hok.fresh hd) ne⟩
/-- C(e), to be raised -/
theorem pmk_fe (S : FeI X.prog X.K X.mg D f) (T : FeK X.K D f C) (hr : Room 1 X.A) (hg : Gl X x) (hm : X.mg x = some (.ref C)) (he : PE X e ta)
    (hs : starEach [e] X.env = (false, eval e X.env) :: starEach [] X.env := by rfl) (hdb : (x == ("__debug__" : Str)) = false := by decide) :
    PMk X (.Call (.Name x p) [e] [] pos) (fun σ H Q => ta σ H fun v H1 => ∀ dx, H1 dx = none → Q (.ref C) (some dx) (upd H1 dx (.xd [("value", v)]))) := by
  intro pins s σ H Q I h
  refine wpAny_Call_Name_kw (ld_glob I hg hm ?_ hdb)
  refine PySem.W.callWith_K (h₀ := X.base) I.ok.mod.kin T.kC ?_ hs (by rfl)
  rw [hs]
  show wpAny _ _ (spliced ((false, eval e X.env) :: backTo pos (starEach [] X.env))) _ _ s
  refine Calls.spliced_cons (thn (he.run pins s σ H _ I h) fun u s1 ⟨v, H1, I1, r1, q1⟩ => ?_)
  refine Calls.spliced_nil ⟨I1.kIn, ?_⟩
  show wpAny _ _ (call (.ref C) [u]) _ _ _
  obtain ⟨hp, g, dr, t, os⟩ := s1
  refine wpAny_call (fe_make S T I1.ok.mod (fun b o e => (I1.bs b o e).1) (hr.make C [u] []).depth fun h' t' t1 dx a k hd ha ne hE hn => ?_)
  obtain ⟨G, J, kG, ge, gk, na⟩ := Inv.feR (t' := t') I1 k hd ha ne hn (one_lookup _ _ r1)
  exact ⟨a, _, _, ⟨G, g, dr, t', os⟩, _, .ref C, some dx, rfl, J, kG, ge, hE, ⟨rfl, rfl⟩, rfl, rfl, na, rfl, I1.bare, raises_own T.exC T.tyC, q1 dx (I1.hok.fresh hd)⟩
end
end On

set_option Elab.async false
set_option linter.all false
set_option maxRecDepth 100000
set_option maxHeartbeats 2000000
set_option autoImplicit false
namespace On
open PySem PySem.Spec PyProof.Rows L2

/-! ### an error class below such a class, with a second field -/
abbrev rfParams (q1 q2 q3 : Pos) (y : Str) : Arguments := { posonlyargs := [], args := [{ arg := "self", annotation := none, pos := q1 }, { arg := "value", annotation := none, pos := q2 }, { arg := y, annotation := none, pos := q3 }], vararg := none, kwonlyargs := [], kw_defaults := [], kwarg := none, defaults := [] }
abbrev rfBody (y : Str) (p1 p2 p3 p4 p5 p6 p7 p8 p9 p10 : Pos) : List Stmt := [.Expr (.Call (.Attribute (.Call (.Name "super" p1) [] [] p2) "__init__" p3) [.Name "value" p4] [] p5) p6, .Assign [.Attribute (.Name "self" p7) y p8] (.Name y p9) p10]
abbrev rfScope (y : Str) : Scope := { kind := .function, names := [("self", .local), ("value", .local), (y, .local), ("__class__", .free), ("super", .globalImplicit)], isGenerator := false, isCoroutine := false, more := [] }
def RfV (y qual : Str) (f cda cc : Addr) (p1 p2 p3 p4 p5 : Pos) : Prop := ∀ L, ∃ pl, eval (.Call (.Attribute (.Call (.Name "super" p1) [] [] p2) "__init__" p3) [.Name "value" p4] [] p5) (PySem.W.ksEnv qual (rfScope y) L f (.ref cda) cc) = (do
      let ov ← attributeBase (.Call (.Name "super" p1) [] [] p2) "__init__" (PySem.W.ksEnv qual (rfScope y) L f (.ref cda) cc) (eval (.Call (.Name "super" p1) [] [] p2) (PySem.W.ksEnv qual (rfScope y) L f (.ref cda) cc))
      standAt p3.atName
      let (f', first) ← holding [ov] (getMethod ov "__init__" pl)
      callWith p5 f' first (backTo p5 (starEach [.Name "value" p4] (PySem.W.ksEnv qual (rfScope y) L f (.ref cda) cc))) [])
/-- the def, its class at D, the def above at f0 of the class at D0 -/
structure RfI (P : Program) (K : PySem.W.Frag) (mg : Str → Option Value) (D0 f0 D f : Addr) : Prop where
  ex : ∃ cc cda qual q1 q2 q3 p1 p2 p3 p4 p5 p6 p7 p8 p9 p10, SupD P K mg D f cc cda qual (rfParams q1 q2 q3 "why") (rfBody "why" p1 p2 p3 p4 p5 p6 p7 p8 p9 p10) (rfScope "why") ["self", "value", "why"] ∧ RfV "why" qual f cda cc p1 p2 p3 p4 p5
  ty : PySem.W.typeIn K (.ref f) = some (.type "function")
  up : FeI P K mg D0 f0
  c0 : FeC K D0 D
  self : PySem.W.mroIn K D (.ref D) = some true
  sup : PySem.W.ks_superIn K D D "__init__" = some (some (.ref f0))
  nowhy : PySem.W.findIn K (.ref D) "why" = some none
  ini : PySem.W.findIn K (.ref D) "__init__" = some (some (.ref f))

section
variable {P : Program} {w : World} {K : PySem.W.Frag} {mg : Str → Option Value} {base : Heap} {A : Around} {D0 f0 C f a t0 : Addr} {hp : Heap} {g : Array GenState} {d : Drawn} {t : Nat} {os : OsState} {u z : Value} {R : Result → Shared → Prop}
theorem rf_init (S : RfI P K mg D0 f0 C f) (MD : Mod K mg base) (kp : ∀ b o, base.get? b = some o → hp.get? b = some o ∧ b ≠ a)
    (hroom : A.depth < recursionLimit) (hroom2 : ∀ e, (A.deeper e).depth < recursionLimit) (ha : hp.get? a = some (exAt C t0 none))
    (hq : ∀ h' t' t1 dx, (∀ b o, b ≠ a → hp.get? b = some o → h'.get? b = some o) → hp.objs.size ≤ dx → dx ≠ a → h'.get? a = some (exAt C t1 (some dx)) → h'.Ns1 dx (fun y => if y = "why" then some z else if y = "value" then some u else none) → R (.ok (.ret .none)) ⟨h', g, d, t', os⟩) :
    codeAny (model P w) A (.call (.ref f) ⟨[.ref a, u, z], []⟩) R ⟨hp, g, d, t, os⟩ := by
  obtain ⟨cc, cda, qual, q1, q2, q3, p1, p2, p3, p4, p5, p6, p7, p8, p9, p10, SD, SV⟩ := S.ex
  have kp0 : ∀ b o, base.get? b = some o → hp.get? b = some o := fun b o e => (kp b o e).1
  have X : K.In hp := MD.kin.keeps kp0
  obtain ⟨oc, od, osl, dV, kV, doc, pm, an, ct, hf, hbd⟩ := SD.fn
  obtain ⟨nm, q, N, bs, bm, sn, sub, ab, col, dd, k0, k1, k2, k3, k5, hC, hbm⟩ := S.c0.cls
  have hcl : PySem.W.clsIn K C = some { name := nm, bases := bs, mro := .ref C :: bm, ns := N, qualname := q, hasDict := true, slotNames := sn, subclasses := sub, abstract := ab, collection := col, hasDel := false } := by unfold PySem.W.clsIn; rw [hC] <;> rfl
  refine ks_codeAny_call_defAt (fd := PySem.W.ksFn "__init__" qual (rfParams q1 q2 q3 "why") (rfBody "why" p1 p2 p3 p4 p5 p6 p7 p8 p9 p10) (rfScope "why") dV kV doc pm an (.ref cda) ct cc) (binds := [("self", .ref a), ("value", u), ("why", z)]) hroom (X _ _ hf) rfl (MD.nolimit.keeps kp0) (PySem.W.codeRec_of X SD.code) rfl
    (hbd _ _ X rfl) (show ∀ x ∈ (rfScope "why").names, x.2 ≠ .cell by decide) (by intro x hx; simp only [List.mem_cons, List.not_mem_nil, or_false] at hx; rcases hx with rfl | rfl | rfl <;> rfl) (fun h0 hns hk => ?_)
  have kp1 : ∀ b o, base.get? b = some o → h0.get? b = some o := fun b o e => hk b o (kp0 b o e)
  obtain ⟨pl, hev⟩ := SV hp.objs.size
  have gk : ∀ {h1 : Heap}, (∀ y o, h0.get? y = some o → h1.get? y = some o) → K.In h1 := fun k => MD.kin.keeps fun b o e => k b o (kp1 b o e)
  refine ks_wpAt_execs_cons (ks_wpAt_Expr_any (ks_wpAt_MethodCall (pl := pl) (super_node SD MD kp1 hns (ar := { arg := "self", annotation := none, pos := q1 }) rfl (by rfl) (hk _ _ ha) rfl (fun c e => by cases e) S.self (by decide) rfl rfl rfl rfl fun h1 k1 hso => ?_) hev) (by rfl) (by rfl))
  have ha1 := k1 _ _ (hk _ _ ha)
  have I1 : PySem.W.InstAt h1 a (exAt C t0 none) C none := ⟨ha1, rfl, rfl, trivial⟩
  have hsup := S.sup
  unfold PySem.W.ks_superIn at hsup
  rw [hcl, Option.bind_some] at hsup
  have fo := S.up.ex
  obtain ⟨cc0, cda0, qual0, q10, q20, p10', p20, p30, p40, p50, p60, p70, p80, p90, p100, SD0, SV0⟩ := fo
  obtain ⟨oc0, od0, osl0, dV0, kV0, doc0, pm0, an0, ct0, hf0, hbd0⟩ := SD0.fn
  have hoc0 : oc0 = .type "function" := by
    have z : (K.lookup f0).map (·.cls) = some (.type "function") := S.up.ty
    rw [hf0] at z
    exact Option.some.inj z
  subst hoc0
  refine ks_wpAny_getMethod_super hso (PySem.W.looks_opaque (gk k1) SD.opq) ((PySem.W.looks_clsIn (gk k1) hcl).andThen .now) rfl (gk k1) hsup (gk k1 _ _ hf0) rfl (PySem.W.ks_ne (gk k1) I1 hcl) (by decide) ?_
  have kq : ∀ b o, h0.get? b = some o → (h1.push (PySem.W.methodObj (.ref f0) (.ref a))).get? b = some o := fun b o e => Heap.get?_push_of_some _ (k1 b o e)
  have hns2 : (h1.push (PySem.W.methodObj (.ref f0) (.ref a))).Ns hp.objs.size (fun x => List.lookup x [(("self" : Str), Value.ref a), (("value" : Str), u), (("why" : Str), z)].reverse) := hns.keeps kq
  have hq0 : (h1.push (PySem.W.methodObj (.ref f0) (.ref a))).get? h1.objs.size = some (PySem.W.methodObj (.ref f0) (.ref a)) := Heap.get?_push_at rfl rfl
  have fi : PySem.W.fnIn K f0 = true := by unfold PySem.W.fnIn; rw [hf0]
  show wpAny _ _ (callWith p5 (.ref h1.objs.size) [] (backTo p5 ((false, eval (.Name "value" p4) (PySem.W.ksEnv qual (rfScope "why") hp.objs.size f (.ref cda) cc)) :: starEach [] (PySem.W.ksEnv qual (rfScope "why") hp.objs.size f (.ref cda) cc))) []) _ _ _
  refine PySem.W.callWith_of rfl (PySem.W.keeps_M (self := .ref a) fi) (PySem.Calls.evalArgs_plain (PySem.Calls.spliced_cons (PySem.ESX.ldL hns2 (v := u) (by rfl) (PySem.Calls.spliced_nil ⟨⟨hq0, gk kq⟩, ?_⟩) rfl rfl)))
  show wpAny _ _ (call (.ref h1.objs.size) [u]) _ _ _
  have neL : hp.objs.size ≠ a := fun z => absurd (Heap.lt_size ha) (by rw [← z]; exact Nat.lt_irrefl _)
  refine wpAny_call (ks_codeAny_call_bound hq0 (fe_init SD0 SV0 S.c0 MD (fun b o e => ⟨kq b o (kp1 b o e), (kp b o e).2⟩) (hroom2 _) (Heap.get?_push_of_some _ ha1) fun h2 t2 t1 dx k2 dn dne ha2 hn2 => ?_))
  have k02 : ∀ b o, b ≠ a → h0.get? b = some o → h2.get? b = some o := fun b o n e => k2 b o n (kq b o e)
  have hns3 : h2.Ns hp.objs.size (fun x => List.lookup x [(("self" : Str), Value.ref a), (("value" : Str), u), (("why" : Str), z)].reverse) := by
    obtain ⟨o, es, ep, e, r⟩ := hns
    exact ⟨o, es, ep, k02 _ _ neL e, r⟩
  have kb2 : ∀ b o, base.get? b = some o → h2.get? b = some o := fun b o e => k02 b o (kp b o e).2 (kp1 b o e)
  have X2 : K.In h2 := MD.kin.keeps kb2
  have dn' : hp.objs.size ≤ dx := Nat.le_trans (by
    obtain ⟨o, _, _, e, _⟩ := hns2
    exact Nat.le_of_lt (Heap.lt_size e)) dn
  refine ks_wpAt_execs_cons (ks_wpAt_Assign_Attr (wpAt_of_wpAny (PySem.ESX.ldL hns3 (v := z) (by rfl) (PySem.ESX.ldL hns3 (v := .ref a) (by rfl) ?_ rfl rfl) rfl rfl)) (by rfl))
  have hw : Within (fun y : Str => if y = "value" then some u else none) ["value"] := fun y hy => by
    by_cases e : y = "value"
    · rw [e]; exact List.mem_cons_self
    · exact absurd (if_neg e) hy
  obtain ⟨oD, _, _, hoD, _, _⟩ := hn2.count hw
  refine PySem.W.set_plain X2 (ox := exAt C t1 (some dx)) (od := some oD) ⟨ha2, rfl, rfl, hoD⟩ S.c0.sa ?_
  refine PySem.OEX.osa_old X2 ha2 hn2 hw (by decide) hcl (show PySem.HandSPX.refsVE (.ref C :: bm) = true from hbm) rfl S.nowhy (fun h3 tk3 k3 hn3 => ?_)
  refine wpAt_of_wpAny ?_
  show wpAny _ _ (execs [] _) _ _ _
  rw [execs_nil]
  refine wpAny_pure ?_
  have dxn : ∀ {b o}, hp.get? b = some o → b ≠ dx := fun {b o} e => Nat.ne_of_lt (Nat.lt_of_lt_of_le (Heap.lt_size e) dn')
  exact hq h3 _ t1 dx (fun b o n e => k3 b o (dxn e) (k02 b o n (hk b o e))) dn' dne (k3 _ _ (Ne.symm dne) ha2) hn3
theorem rf_make (S : RfI P K mg D0 f0 C f) (MD : Mod K mg base) (kp : ∀ b o, base.get? b = some o → hp.get? b = some o) (hroom : (A.under (.builtin "type.__call__" ⟨[.ref C, u, z], []⟩)).depth < recursionLimit) (hroom2 : ∀ e, ((A.under (.builtin "type.__call__" ⟨[.ref C, u, z], []⟩)).deeper e).depth < recursionLimit)
    (hq : ∀ h' t' t1 dx a, (∀ b o, hp.get? b = some o → h'.get? b = some o) → hp.objs.size ≤ dx → hp.objs.size ≤ a → dx ≠ a → h'.get? a = some (exAt C t1 (some dx)) → h'.Ns1 dx (fun y => if y = "why" then some z else if y = "value" then some u else none) → R (.ok (.ret (.ref a))) ⟨h', g, d, t', os⟩) :
    codeAny (model P w) A (.call (.ref C) ⟨[u, z], []⟩) R ⟨hp, g, d, t, os⟩ := by
  have X : K.In hp := MD.kin.keeps kp
  obtain ⟨nm, q, N, bs, bm, sn, sub, ab, col, dd, k0, k1, k2, k3, k5, hC, hbm⟩ := S.c0.cls
  refine PySem.HandSPX.call_own F.excBase_ValueError (fun Y => PySem.HandSPX.refsVE_contains Y bm hbm) (X _ _ hC) (PySem.W.looks_findIn X S.ini) (fun self => PySem.W.bind_fn X self S.ty) (by rw [sizeLine_eq]; simp) ?_
  have kk : ∀ b o, hp.get? b = some o → ((hp.push (PySem.W.kdv_tup [u, z])).push (PySem.HandSPX.excO C hp.objs.size)).get? b = some o := fun b o e => Heap.get?_push_of_some _ (Heap.get?_push_of_some _ e)
  have hget : ((hp.push (PySem.W.kdv_tup [u, z])).push (PySem.HandSPX.excO C hp.objs.size)).get? (hp.objs.size + 1) = some (exAt C hp.objs.size none) := by heap_get
  have lt : ∀ {b o}, hp.get? b = some o → b ≠ hp.objs.size + 1 := fun {b o} e => Nat.ne_of_lt (Nat.lt_succ_of_lt (Heap.lt_size e))
  refine rf_init S MD (fun b o e => ⟨kk b o (kp b o e), lt (kp b o e)⟩) hroom hroom2 hget fun h' t' t1 dx k dn dne ha hn => ⟨rfl, ?_⟩
  refine hq h' t' t1 dx (hp.objs.size + 1) (fun b o e => k b o (lt e) (kk b o e)) (Nat.le_trans ?_ dn) (Nat.le_succ _) dne ha hn
  show _ ≤ _
  simp only [Heap.push, Array.size_push]
  omega
end
section
variable {X : Cx} {D0 f0 f C : Addr} {x : Str} {e1 e2 : Expr} {ta : TA} {p pos : Pos}
theorem two_lookup (k1 k2 : Str) (v1 v2 : V) {u1 u2 : Value} (r1 : RelV v1 u1) (r2 : RelV v2 u2) (g : Str) : RelO (([(k1, v1), (k2, v2)] : List (Str × V)).lookup g) (if g = k1 then some u1 else if g = k2 then some u2 else none) :=
  relO_put (fs := [(k2, v2)]) (mA := fun g => if g = k2 then some u2 else none) r1 (one_lookup k2 v2 r2) g
/-- C(e1, e2), as a value -/
theorem pe_rf (S : RfI X.prog X.K X.mg D0 f0 C f) (hr : Room 2 X.A) (hg : Gl X x) (hm : X.mg x = some (.ref C)) (ha : PA X [e1, e2] ta)
    (hs : starEach [e1, e2] X.env = (false, eval e1 X.env) :: starEach [e2] X.env := by rfl) (hpl : (backTo pos (starEach [e2] X.env)).any (·.1) = false := by rfl) (hdb : (x == ("__debug__" : Str)) = false := by decide) :
    PE X (.Call (.Name x p) [e1, e2] [] pos) (fun σ H Q => ta σ H fun vs H1 => ∃ v1 v2, vs = [v1, v2] ∧ ∀ a dx, H1 a = none → H1 dx = none → dx ≠ a → Q (.ref a) (upd (upd H1 dx (.xd [("why", v2), ("value", v1)])) a (exo a C (some dx)))) := by
  refine ⟨fun pins s σ H Q I h => ?_⟩
  refine wpAny_Call_Name_kw (ld_glob I hg hm ?_ hdb)
  refine PySem.W.callWith_K (h₀ := X.base) I.ok.mod.kin S.c0.kC (thn (ha.run pos pins s σ H _ I h) fun us s1 ⟨vs, H1, I1, r1, v1, v2, ev, q1⟩ => ⟨I1.kIn, ?_⟩) hs hpl
  subst ev
  cases r1 with | @cons _ u _ _ ra rr => cases rr with | @cons _ z _ _ rb rr => cases rr with | nil =>
  show wpAny _ _ (call (.ref C) [u, z]) _ _ _
  obtain ⟨hp, g, dr, t, os⟩ := s1
  refine wpAny_call (rf_make S I1.ok.mod (fun b o e => (I1.bs b o e).1) (hr.make C [u, z] []).depth (fun e => ((hr.make C [u, z] []).deeper e).depth) fun h' t' t1 dx a k hd ha ne hE hn => ?_)
  exact ⟨.ref a, _, Inv.feV (t' := t') I1 k hd ha ne hE hn (two_lookup _ _ _ _ rb ra), rfl, q1 a dx (I1.hok.fresh ha) (I1.hok.fresh hd) ne⟩
/-- C(e1, e2), to be raised -/
theorem pmk_rf (S : RfI X.prog X.K X.mg D0 f0 C f) (hr : Room 2 X.A) (hg : Gl X x) (hm : X.mg x = some (.ref C)) (ha : PA X [e1, e2] ta)
    (hs : starEach [e1, e2] X.env = (false, eval e1 X.env) :: starEach [e2] X.env := by rfl) (hpl : (backTo pos (starEach [e2] X.env)).any (·.1) = false := by rfl) (hdb : (x == ("__debug__" : Str)) = false := by decide) :
    PMk X (.Call (.Name x p) [e1, e2] [] pos) (fun σ H Q => ta σ H fun vs H1 => ∃ v1 v2, vs = [v1, v2] ∧ ∀ dx, H1 dx = none → Q (.ref C) (some dx) (upd H1 dx (.xd [("why", v2), ("value", v1)]))) := by
  intro pins s σ H Q I h
  refine wpAny_Call_Name_kw (ld_glob I hg hm ?_ hdb)
  refine PySem.W.callWith_K (h₀ := X.base) I.ok.mod.kin S.c0.kC (thn (ha.run pos pins s σ H _ I h) fun us s1 ⟨vs, H1, I1, r1, v1, v2, ev, q1⟩ => ⟨I1.kIn, ?_⟩) hs hpl
  subst ev
  cases r1 with | @cons _ u _ _ ra rr => cases rr with | @cons _ z _ _ rb rr => cases rr with | nil =>
  show wpAny _ _ (call (.ref C) [u, z]) _ _ _
  obtain ⟨hp, g, dr, t, os⟩ := s1
  refine wpAny_call (rf_make S I1.ok.mod (fun b o e => (I1.bs b o e).1) (hr.make C [u, z] []).depth (fun e => ((hr.make C [u, z] []).deeper e).depth) fun h' t' t1 dx a k hd ha ne hE hn => ?_)
  obtain ⟨G, J, kG, ge, gk, na⟩ := Inv.feR (t' := t') I1 k hd ha ne hn (two_lookup _ _ _ _ rb ra)
  exact ⟨a, _, _, ⟨G, g, dr, t', os⟩, _, .ref C, some dx, rfl, J, kG, ge, hE, ⟨rfl, rfl⟩, rfl, rfl, na, rfl, I1.bare, raises_own S.c0.exC S.c0.tyC, q1 dx (I1.hok.fresh hd)⟩
end
end On

set_option Elab.async false
set_option linter.all false
set_option maxRecDepth 100000
set_option maxHeartbeats 2000000
set_option autoImplicit false
namespace On
open PySem PySem.Spec PyProof.Rows L2
/-! ### objects made, methods called: what they raise is wished for at the caller's slots -/
section
variable {X : Cx} {CX : CXT} {k : Nat} {f A : Addr} {fd : FuncData} {ps : List Str} {sp : Sp} {E : L2.St → XK} {x m : Str} {p pos apos : Pos} {e o : Expr} {es : List Expr} {t : TA} {ta : TE}
def tMakeS (A : Addr) (sp : Sp) (E : L2.St → XK) (t : TA) : TE := fun σ H Q => t σ H fun vs H1 => ∀ x dx, H1 x = none → H1 dx = none → dx ≠ x → sp (.ref x :: vs) (upd (upd H1 dx (.own x)) x (.ins A dx [])) (fun v H2 => v = .non ∧ Q (.ref x) H2) (E σ)
theorem guards_make {A0 : Around} {C : Addr} {us : List Value} {kw : List (Str × Value)} (h : A0.guards = some []) : (A0.under (.builtin "type.__call__" ⟨.ref C :: us, kw⟩)).guards = some [] := by
  have e : (Code.builtin "type.__call__" ⟨.ref C :: us, kw⟩).isGuard = false := by
    show guardIds.contains "type.__call__" = false
    decide +kernel
  simp [Around.under, Code.guards, e, pushGuards, h]
theorem pe_makeS (M : Mk X.K A f) (F : FnG X.prog X.w X.K X.mg X.base CX k f fd ps sp) (hr : Room (k + 1) X.A) (hgd : X.A.guards = some []) (hg : Gl X x) (hm : X.mg x = some (.ref A)) (hb : Binds X.K fd ps []) (hx : ∀ σ, PassesAt CX X σ (E σ))
    (ha : PA X (e :: es) t) (hdb : (x == ("__debug__" : Str)) = false := by decide) (he : starEach (e :: es) X.env = (false, eval e X.env) :: starEach es X.env := by rfl) (hpl : (backTo pos (starEach es X.env)).any (·.1) = false := by rfl) :
    PE X (.Call (.Name x p) (e :: es) [] pos) (tMakeS A sp E t) := by
  refine ⟨fun pins s σ H Q I h => wpAny_Call_Name_kw (ld_glob I hg hm ?_ hdb)⟩
  refine PySem.W.callWith_K (h₀ := X.base) I.ok.mod.kin M.kp (thn (ha.run pos pins s σ H _ I h) fun us s1 ⟨vs, H1, I1, r, q⟩ => ⟨I1.kIn, ?_⟩) he hpl
  have q1 := q (s1.heap.objs.size + 1) s1.heap.objs.size (I1.hok.fresh (Nat.le_succ _)) (I1.hok.fresh (Nat.le_refl _)) (Nat.ne_of_lt (Nat.lt_succ_self _))
  have I2 := Inv.made (C := A) I1
  have r2 : Vals (V.ref (s1.heap.objs.size + 1) :: vs) (Value.ref (s1.heap.objs.size + 1) :: us) := .cons rfl r
  have hl : ((Value.ref (s1.heap.objs.size + 1) :: us) ++ ([] : List Value)).length = ps.length := by
    have z := r2.length
    rw [F.len _ _ _ _ q1] at z
    rw [List.append_nil]
    exact z.symm
  have bd := hb _ (Value.ref (s1.heap.objs.size + 1) :: us) I2.kIn hl
  rw [List.append_nil] at bd
  show wpAny _ _ (call (.ref A) us) _ _ _
  refine wpAny_call (make_map (f := f) I1.kIn M.makes M.init (beq_iff_eq.mp M.fn) (codeAny_mono (F.run _ X.stack _ _ ⟨Value.ref (s1.heap.objs.size + 1) :: us, []⟩ _ _ _ (E σ) (hr.make A us []) (guards_make hgd) (I2.env0.make A us []) bd r2 q1) fun r s' hq' => ?_))
  cases r with
  | error w => exact hx σ pins _ _ w s' I2 hq'
  | ok fl =>
    cases fl with
    | ret u =>
      obtain ⟨v, H', I3, rv, ev, q3⟩ := I2.after hq'
      subst ev
      exact ⟨rv, ⟨V.ref (s1.heap.objs.size + 1), H', I3, rfl, q3⟩⟩
    | next => exact False.elim hq'
    | brk => exact False.elim hq'
    | cont => exact False.elim hq'
def tMethS (A : Addr) (m : Str) (sp : Sp) (E : L2.St → XK) (ta : TE) (t : TA) : TE := fun σ H Q => ta σ H fun x H1 => ∃ a dx fs, x = .ref a ∧ H1 a = some (.ins A dx fs) ∧ fs.lookup m = none ∧ t σ H1 fun vs H2 => sp (x :: vs) H2 Q (E σ)
theorem pe_methS {pl : Sem Bool} (he : PE X o ta) (c : Cls X.K A) (hm : Meth X.K A m f) (F : FnG X.prog X.w X.K X.mg X.base CX k f fd ps sp) (hr : Room k X.A) (hgd : X.A.guards = some []) (hb : Binds X.K fd ps []) (hx : ∀ σ, PassesAt CX X σ (E σ)) (ha : PA X (e :: es) t)
    (hst : starEach (e :: es) X.env = (false, eval e X.env) :: starEach es X.env := by rfl) (hpl : (backTo pos (starEach es X.env)).any (·.1) = false := by rfl)
    (ht : eval (.Call (.Attribute o m apos) (e :: es) [] pos) X.env = (do
      let ov ← eval o X.env
      standAt apos.atName
      let (f, first) ← holding [ov] (getMethod ov m pl)
      callWith pos f first (backTo pos (starEach (e :: es) X.env)) (backToKw pos (keywordEach [] X.env))) := by rfl) :
    PE X (.Call (.Attribute o m apos) (e :: es) [] pos) (tMethS A m sp E ta t) := by
  refine ⟨fun pins s σ H Q I h => PySem.W.methodCall_KW (pl := pl) (thn (he.run pins s σ H _ I h) fun u s1 ⟨x, H1, I1, rx, a, dx, fs, ex, ea, l, q⟩ => ?_) ht⟩
  subst ex
  obtain rfl : u = Value.ref a := rx
  refine getmeth_ok I1 ea c hm l ?_
  refine PySem.W.callWith_K (first := [.ref a]) (h₀ := X.base) I.ok.mod.kin hm.kp (thn (ha.run pos pins s1 σ H1 _ I1 q) fun us s2 ⟨vs, H2, I2, r, q2⟩ => ⟨I2.kIn, ?_⟩) hst hpl
  exact run_G (us := .ref a :: us) (vs := .ref a :: vs) (E := E) F hr hgd hb (hx σ) I2 (.cons rfl r) q2
end
section
variable {C : Ct} {E : WX} {X : Cx} {a b e o : Expr} {es : List Expr} {ma mb me : Gm → J → R D} {mr : Gm → J → R (List D)} {pos p p2 apos : Pos} {k : Nat} {f : Addr} {fd : FuncData} {ps : List Str} {x m : Str}
/-- C(..): a new thing, which is not changed any more -/
def mMake (c : Nat) (g : List D → J → R (List (Str × D))) (mr : Gm → J → R (List D)) : Gm → J → R D := fun Γ j => (mr Γ j).bind fun ds j => (g ds j).bind fun fs j => .ok (.ins c fs) j
theorem spI_of {c : Nat} {g : List D → J → R (List (Str × D))} {O : Addr → Prop} {ρ : List Addr} {σ : L2.St} {Γ : Gm} {H : Hp} {j : J} {Q : VK} {vs : List V} {ds : List D} (S : Sok C O ρ σ H Γ j) (hv : DenA C.b ρ H (Bo O ρ j) vs ds) (q : Post C E O σ Γ ρ j H ((g ds j).bind fun fs j => .ok (.ins c fs) j) fun d j' ρ' H' => ∀ v, Den C.b ρ' H' (Bo O ρ' j') v d → Q v H')
    {l dx : Addr} (hl : H l = none) (hdx : H dx = none) (nd : dx ≠ l) : spI C.b c g (.ref l :: vs) (upd (upd H dx (.own l)) l (.ins (C.b.cm c) dx [])) (fun v H2 => v = .non ∧ Q (.ref l) H2) (WE E σ) := by
  have x1 : Ext H (upd H dx (.own l)) := Ext.new hdx
  have hl1 : upd H dx (.own l) l = none := by rw [upd_ne nd.symm]; exact hl
  have S1 := S.ext x1
  have S2 := S1.more (o := .ins (C.b.cm c) dx []) hl1
  have nρ : l ∉ ρ := fun z => by obtain ⟨o, e⟩ := S.st.rtr l z; rw [hl] at e; cases e
  have nO : ¬ O l := fun z => by obtain ⟨o, e⟩ := S.st.trk l z; rw [hl] at e; cases e
  have ee : er (upd (upd H dx (.own l)) l (.ins (C.b.cm c) dx [])) l = upd H dx (.own l) := by
    funext b
    by_cases z : b = l
    · rw [z, er_self, hl1]
    · rw [er_ne z, upd_ne z]
  have st : Step ρ (Bo O ρ j) H ρ (Bo (fun a => O a ∨ a = l) ρ j) (upd (upd H dx (.own l)) l (.ins (C.b.cm c) dx [])) := ⟨(x1.trans (Ext.new hl1)).pres, fun a z => by
    rcases z with (z | z) | z
    · exact .inl (.inl z)
    · rw [z]; exact .inr hl
    · exact .inl (.inr z), Pfx.refl⟩
  refine ⟨fun a => O a ∨ a = l, ρ, j, l, dx, vs, ds, rfl, upd_same, nρ, .inr rfl, S2.st, st.denA hv, ?_⟩
  rw [ee]
  revert q
  generalize g ds j = r
  intro q
  cases r with
  | bad => exact q
  | ok fs j' =>
    intro ρ' H' dx' us k s' n ho hf
    have k' := S.kpt x1.keep k
    have s2 : Sto C.b O ρ' H' j' := s'.less fun a z => .inl z
    have nB : ¬ Bo O ρ' j' l := fun z => z.elim nO fun z => n z.mem
    exact ⟨rfl, q ρ' H' k' (S.keep k' s2) _ (.ins ho nB (hf.less fun a z => .inl (z.imp (fun z => .inl z) id)))⟩
  | exc n fs j' =>
    intro x us ρ' H' k s' hx hn hf
    have k' := S.kpt x1.keep k
    have ne : ∀ a, O a → (O a ∨ a = l) ∧ a ≠ l := fun a z => ⟨.inl z, fun w => nO (w ▸ z)⟩
    exact q x us ρ' H' k' (S.keep k' (s'.less ne)) hx (fun z => hn (z.imp (ne x) id)) (hf.less fun a z => .inl (z.imp (ne a) id))
theorem me_make {c : Nat} {g : List D → J → R (List (Str × D))} (tk : Takes X E) (M : Mk X.K (C.b.cm c) f) (G : FnG X.prog X.w X.K X.mg X.base (L2.CX X.prog X.w) k f fd ps (spI C.b c g)) (hr : Room (k + 1) X.A) (hgd : X.A.guards = some []) (hg : Gl X x) (hm : X.mg x = some (.ref (C.b.cm c))) (hb : Binds X.K fd ps [])
    (ha : MA C E X (e :: es) mr) (hdb : (x == ("__debug__" : Str)) = false := by decide) (he : starEach (e :: es) X.env = (false, eval e X.env) :: starEach es X.env := by rfl) (hpl : (backTo pos (starEach es X.env)).any (·.1) = false := by rfl) :
    ME C E X (.Call (.Name x p) (e :: es) [] pos) (mMake c g mr) :=
  PE.imp (pe_makeS (E := WE E) M G hr hgd hg hm hb (fun σ => passAt tk σ) ha hdb he hpl) fun σ H Q ⟨O, ρ, Γ, j, S, h⟩ => ⟨O, ρ, Γ, j, S, Post.imp (Post.bind S h) fun ds j1 ρ1 H1 k1 S1 q vs hv l dx hl hdx nd => spI_of S1 hv q hl hdx nd⟩
/-- o.m(..), o of the class c -/
def mMeth (c : Nat) (m : Str) (g : List D → J → R D) (mo : Gm → J → R D) (mr : Gm → J → R (List D)) : Gm → J → R D := fun Γ j => (mo Γ j).bind fun d j => match deref j d with
  | .ins n fs => if n = c ∧ fs.lookup m = none then (mr Γ j).bind fun ds j => g (d :: ds) j else .bad
  | _ => .bad
theorem me_meth {c : Nat} {g : List D → J → R D} {mo : Gm → J → R D} {pl : Sem Bool} (tk : Takes X E) (hc : Cls X.K (C.b.cm c)) (hm : Meth X.K (C.b.cm c) m f) (G : FnG X.prog X.w X.K X.mg X.base (L2.CX X.prog X.w) k f fd ps (spG C.b g)) (hr : Room k X.A) (hgd : X.A.guards = some []) (hb : Binds X.K fd ps [])
    (ho : ME C E X o mo) (ha : MA C E X (e :: es) mr)
    (hst : starEach (e :: es) X.env = (false, eval e X.env) :: starEach es X.env := by rfl) (hpl : (backTo pos (starEach es X.env)).any (·.1) = false := by rfl)
    (ht : eval (.Call (.Attribute o m apos) (e :: es) [] pos) X.env = (do
      let ov ← eval o X.env
      standAt apos.atName
      let (f, first) ← holding [ov] (getMethod ov m pl)
      callWith pos f first (backTo pos (starEach (e :: es) X.env)) (backToKw pos (keywordEach [] X.env))) := by rfl) :
    ME C E X (.Call (.Attribute o m apos) (e :: es) [] pos) (mMeth c m g mo mr) :=
  PE.imp (pe_methS (pl := pl) (E := WE E) ho hc hm G hr hgd hb (fun σ => passAt tk σ) ha hst hpl ht) fun σ H Q ⟨O, ρ, Γ, j, S, h⟩ => ⟨O, ρ, Γ, j, S, Post.imp (Post.bind S h) fun d j1 ρ1 H1 k1 S1 q v hv => by
    split at q
    · rename_i n fs hd
      obtain ⟨⟨e, hl⟩, q3⟩ := Post.ite q
      clear q
      subst e
      have hw := S1.st.view hv
      rw [hd] at hw
      obtain ⟨a, dx, vs, rfl, ha, r⟩ := hw.insAt
      refine ⟨a, dx, vs, rfl, ha, r.nolook hl, O, ρ1, Γ, j1, S1, Post.imp (Post.bind S1 q3) fun ds j2 ρ2 H2 k2 S2 q2 us hus => ?_⟩
      exact spG_of S2 (.cons ((k2.step O).den hv) hus) q2
    · exact q.elim⟩
end

/-! ### errors made, raised -/
def mX (c : Nat) (me : Gm → J → R D) : Gm → J → R D := fun Γ j => (me Γ j).bind fun d j => .ok (.exn c [("value", d)]) j
def mX2 (c : Nat) (mr : Gm → J → R (List D)) : Gm → J → R D := fun Γ j => (mr Γ j).bind fun ds j => match ds with
  | [d, e] => .ok (.exn c [("why", e), ("value", d)]) j
  | _ => .bad
def sRaise (c : Nat) (me : Gm → J → R D) : Gm → J → RS := fun Γ j => (me Γ j).bindS Γ fun d j => .exc c [("value", d)] Γ j
def sRaise2 (c : Nat) (mr : Gm → J → R (List D)) : Gm → J → RS := fun Γ j => (mr Γ j).bindS Γ fun ds j => match ds with
  | [d, e] => .exc c [("why", e), ("value", d)] Γ j
  | _ => .bad
section
variable {C : Ct} {E : WX} {X : Cx} {e e1 e2 : Expr} {me : Gm → J → R D} {mr : Gm → J → R (List D)} {pos p p2 : Pos} {x : Str} {D0 f0 f : Addr} {c : Nat}
theorem two_new {H : Hp} {a dx : Addr} {o o' : HO} (ha : H a = none) (hd : H dx = none) (ne : dx ≠ a) : Ext H (upd (upd H dx o) a o') :=
  (Ext.new hd).trans (Ext.new (by rw [upd_ne (Ne.symm ne)]; exact ha))
theorem me_exn (S : FeI X.prog X.K X.mg D0 f) (T : FeK X.K D0 f (C.b.cm c)) (hr : Room 1 X.A) (hg : Gl X x) (hm : X.mg x = some (.ref (C.b.cm c))) (he : ME C E X e me)
    (hs : starEach [e] X.env = (false, eval e X.env) :: starEach [] X.env := by rfl) (hdb : (x == ("__debug__" : Str)) = false := by decide) : ME C E X (.Call (.Name x p) [e] [] pos) (mX c me) :=
  PE.imp (pe_fe S T hr hg hm he hs hdb) fun σ H Q ⟨O, ρ, Γ, j, S, h⟩ => ⟨O, ρ, Γ, j, S, Post.imp (Post.bind S h) fun d j1 ρ1 H1 k1 S1 q v hv a dx ha hd ne => by
    have k := two_new (o := .xd [("value", v)]) (o' := exo a (C.b.cm c) (some dx)) ha hd ne
    exact q _ _ k.keep (S1.ext k) _ (.exn upd_same (S1.fresh ha) (by rw [upd_ne ne, upd_same]) (S1.fresh hd) (.cons (hv.mono k.pres Pfx.refl) .nil))⟩
theorem me_exn2 (S : RfI X.prog X.K X.mg D0 f0 (C.b.cm c) f) (hr : Room 2 X.A) (hg : Gl X x) (hm : X.mg x = some (.ref (C.b.cm c))) (ha : MA C E X [e1, e2] mr)
    (hs : starEach [e1, e2] X.env = (false, eval e1 X.env) :: starEach [e2] X.env := by rfl) (hpl : (backTo pos (starEach [e2] X.env)).any (·.1) = false := by rfl) (hdb : (x == ("__debug__" : Str)) = false := by decide) :
    ME C E X (.Call (.Name x p) [e1, e2] [] pos) (mX2 c mr) :=
  PE.imp (pe_rf S hr hg hm ha hs hpl hdb) fun σ H Q ⟨O, ρ, Γ, j, S, h⟩ => ⟨O, ρ, Γ, j, S, Post.imp (Post.bind S h) fun ds j1 ρ1 H1 k1 S1 q vs hvs => by
    cases hvs with
    | nil => exact q.elim
    | cons h1 r1 =>
      cases r1 with
      | nil => exact q.elim
      | cons h2 r2 =>
        cases r2 with
        | cons _ _ => exact q.elim
        | nil =>
          rename_i v1 _ v2 _
          refine ⟨_, _, rfl, fun a dx ha hd ne => ?_⟩
          have k := two_new (o := .xd [("why", v2), ("value", v1)]) (o' := exo a (C.b.cm c) (some dx)) ha hd ne
          exact q _ _ k.keep (S1.ext k) _ (.exn upd_same (S1.fresh ha) (by rw [upd_ne ne, upd_same]) (S1.fresh hd) (.cons (h2.mono k.pres Pfx.refl) (.cons (h1.mono k.pres Pfx.refl) .nil)))⟩
theorem ms_raise (hc : X.calm = true) (tk : Takes X E) (S : FeI X.prog X.K X.mg D0 f) (T : FeK X.K D0 f (C.b.cm c)) (hr : Room 1 X.A) (hg : Gl X x) (hm : X.mg x = some (.ref (C.b.cm c))) (he : ME C E X e me)
    (hs : starEach [e] X.env = (false, eval e X.env) :: starEach [] X.env := by rfl) (hdb : (x == ("__debug__" : Str)) = false := by decide) : MS C E X (.Raise (some (.Call (.Name x p) [e] [] pos)) none p2) (sRaise c me) :=
  PS.imp (ps_raise hc tk (pmk_fe S T hr hg hm he hs hdb)) fun Dn σ H ⟨O, ρ, Γ, j, S, h⟩ => ⟨O, ρ, Γ, j, S, Post.imp (PostS.of S h) fun d j1 ρ1 H1 k1 S1 q v hv dx hd => by
    have k : Ext H1 (upd H1 dx (.xd [("value", v)])) := Ext.new hd
    exact q O ρ1 σ _ dx _ ((Ext.keep k).step O) (S1.ext k) upd_same (S1.fresh hd) (.cons (hv.mono k.pres Pfx.refl) .nil)⟩
theorem ms_raise2 (hc : X.calm = true) (tk : Takes X E) (S : RfI X.prog X.K X.mg D0 f0 (C.b.cm c) f) (hr : Room 2 X.A) (hg : Gl X x) (hm : X.mg x = some (.ref (C.b.cm c))) (ha : MA C E X [e1, e2] mr)
    (hs : starEach [e1, e2] X.env = (false, eval e1 X.env) :: starEach [e2] X.env := by rfl) (hpl : (backTo pos (starEach [e2] X.env)).any (·.1) = false := by rfl) (hdb : (x == ("__debug__" : Str)) = false := by decide) :
    MS C E X (.Raise (some (.Call (.Name x p) [e1, e2] [] pos)) none p2) (sRaise2 c mr) :=
  PS.imp (ps_raise hc tk (pmk_rf S hr hg hm ha hs hpl hdb)) fun Dn σ H ⟨O, ρ, Γ, j, S, h⟩ => ⟨O, ρ, Γ, j, S, Post.imp (PostS.of S h) fun ds j1 ρ1 H1 k1 S1 q vs hvs => by
    cases hvs with
    | nil => exact q.elim
    | cons h1 r1 =>
      cases r1 with
      | nil => exact q.elim
      | cons h2 r2 =>
        cases r2 with
        | cons _ _ => exact q.elim
        | nil =>
          rename_i v1 _ v2 _
          refine ⟨_, _, rfl, fun dx hd => ?_⟩
          have k : Ext H1 (upd H1 dx (.xd [("why", v2), ("value", v1)])) := Ext.new hd
          exact q O ρ1 σ _ dx _ ((Ext.keep k).step O) (S1.ext k) upd_same (S1.fresh hd) (.cons (h2.mono k.pres Pfx.refl) (.cons (h1.mono k.pres Pfx.refl) .nil))⟩
end
/-! ### match over constants -/
/-- the cases of a match, at a subject v -/
def PM (X : Cx) (cs : List MatchCase) (t : V → TS) : Prop := ∀ (first : Bool) (pins : List (Addr × Obj)) (s : Shared) (σ : L2.St) (H : Hp) (v : V) (u : Value) (Dn : Ends), Inv X pins σ H s → RelV v u → t v Dn σ H → wpAny (model X.prog X.w) X.A (matchCases cs X.env u first) (SP X pins Dn) X.xe s
section
variable {C : Ct} {E : WX} {X : Cx} {e c : Expr} {me mc : Gm → J → R D} {pos p : Pos} {body : List Stmt} {mb mr : Gm → J → RS} {rest : List MatchCase}
theorem pm_nil : PM X [] (fun _ => tNext) := fun first pins s σ H v u Dn I r h => wpAny_matchCases_nil ⟨σ, H, I, h⟩
theorem pm_cons {tc : TE} {tb : TS} {tr : V → TS} {r : R2} (ho : OpR X (compareOp .Eq) r) (hc : PE X c tc) (hb : PSs X body tb) (hr : PM X rest tr) :
    PM X (⟨.MatchValue c p, none, body⟩ :: rest) (fun v Dn σ H => tc σ H fun w H1 => r v w H1 fun z H2 => ∃ k, z = .bl k ∧ if k = true then tb Dn σ H2 else tr v Dn σ H2) := by
  intro first pins s σ H v u Dn I rv h
  refine wpAny_matchCases_cons ?_
  rw [arm_matchPattern_MatchValue]
  refine wpAny_bind (thn (hc.run pins s σ H _ I h) fun u1 s1 ⟨w, H1, I1, rw1, q⟩ => ?_)
  refine wpAny_bind (wpAny_standAt (wpAny_bind (thn (ho pins s1 σ H1 v w u u1 _ I1 rv rw1 q) fun u2 s2 ⟨z, H2, I2, rz, k, ez, q2⟩ => ?_)))
  subst ez
  cases rz
  refine wpAny_bind (wpAny_truthy_bool ?_)
  cases k with
  | true => exact wpAny_pure (wpAny_assignInOrder_none (hb.run pins s2 σ H2 Dn I2 (by simpa using q2)))
  | false => exact wpAny_pure (hr false pins s2 σ H2 v u Dn I2 rv (by simpa using q2))
theorem PM.imp {cs : List MatchCase} {t t' : V → TS} (h : PM X cs t) (k : ∀ v Dn σ H, t' v Dn σ H → t v Dn σ H) : PM X cs t' := fun first pins s σ H v u Dn I r q => h first pins s σ H v u Dn I r (k v Dn σ H q)
abbrev MM (C : Ct) (E : WX) (X : Cx) (cs : List MatchCase) (m : D → Gm → J → RS) : Prop := PM X cs fun v Dn σ H => ∃ O ρ Γ j d, Sok C O ρ σ H Γ j ∧ Den C.b ρ H (Bo O ρ j) v d ∧ PostS C E ρ (Bo O ρ j) H (m d Γ j) Dn
def cNil : D → Gm → J → RS := fun _ Γ j => .nx Γ j
def cCons (c : D) (mb : Gm → J → RS) (mr : D → Gm → J → RS) : D → Gm → J → RS := fun d Γ j => match eqD d c with
  | some true => mb Γ j
  | some false => mr d Γ j
  | none => .bad
theorem mm_nil : MM C E X [] cNil := PM.imp pm_nil fun v Dn σ H ⟨O, ρ, Γ, j, d, S, hd, h⟩ => h O ρ σ H Step.refl S
theorem mm_cons {d : D} {mr : D → Gm → J → RS} (ho : OpR X (compareOp .Eq) (rEqU C.b.K)) (hc : ME C E X c (mC d)) (hb : MB C E X body mb) (hr : MM C E X rest mr) : MM C E X (⟨.MatchValue c p, none, body⟩ :: rest) (cCons d mb mr) :=
  PM.imp (pm_cons ho hc hb hr) fun v Dn σ H ⟨O, ρ, Γ, j, f, S, hd, h⟩ => ⟨O, ρ, Γ, j, S, fun ρ1 H1 k1 S1 w hw => by
    have h1 := PostS.shift (k1.step O) h
    unfold cCons at h1
    split at h1
    · rename_i q
      exact eqD_run (Vw.of ((k1.step O).den hd)) (Vw.of hw) q ⟨true, rfl, iteT ⟨O, ρ1, Γ, j, S1, h1⟩⟩
    · rename_i q
      exact eqD_run (Vw.of ((k1.step O).den hd)) (Vw.of hw) q ⟨false, rfl, iteF ⟨O, ρ1, Γ, j, f, S1, (k1.step O).den hd, h1⟩⟩
    · exact h1.elim⟩
def sMatch (me : Gm → J → R D) (m : D → Gm → J → RS) : Gm → J → RS := fun Γ j => (me Γ j).bindS Γ fun d j => m d Γ j
theorem ms_match {cs : List MatchCase} {m : D → Gm → J → RS} (he : ME C E X e me) (hm : MM C E X cs m) : MS C E X (.Match e cs pos) (sMatch me m) :=
  ⟨fun pins s σ H Dn I ⟨O, ρ, Γ, j, S, h⟩ => wpAny_Match (thn (he.run pins s σ H (fun v H1 => ∃ ρ1 j1 d, Sok C O ρ1 σ H1 Γ j1 ∧ Den C.b ρ1 H1 (Bo O ρ1 j1) v d ∧ PostS C E ρ1 (Bo O ρ1 j1) H1 (m d Γ j1) Dn) I ⟨O, ρ, Γ, j, S, Post.imp (PostS.of S h) fun d j1 ρ1 H1 k1 S1 q v hv => ⟨ρ1, j1, d, S1, hv, q⟩⟩)
    fun u s1 ⟨v, H1, I1, rv, ρ1, j1, d, S1, hd, q⟩ => hm true pins s1 σ H1 v u Dn I1 rv ⟨O, ρ1, Γ, j1, d, S1, hd, q⟩)⟩
end
end On

set_option Elab.async false
set_option linter.all false
set_option maxRecDepth 100000
set_option maxHeartbeats 2000000
set_option autoImplicit false
namespace On
open PySem PySem.Spec PyProof.Rows L2
section
variable {C : Ct} {E : WX} {X : Cx} {a b e o : Expr} {es : List Expr} {ma mb me mo : Gm → J → R D} {mr : Gm → J → R (List D)} {pos p p2 : Pos}
def mDict0 : Gm → J → R D := fun _ j => .ok (.dct []) j
theorem me_dict0 : ME C E X (.Dict [] [] pos) mDict0 :=
  PE.imp pe_dnewK fun σ H Q ⟨O, ρ, Γ, j, S, h⟩ p hp => by
    have x : Ext H (upd H p (.dK [])) := Ext.new hp
    exact h _ _ x.keep (S.ext x) _ (.dK upd_same (S.fresh hp) .nil)
/-! enumerate of a list -/
def enumD (i : Nat) : List D → List D
  | [] => []
  | d :: ds => .tup [.int (i : Nat), d] :: enumD (i + 1) ds
theorem enumD_length : ∀ {ds : List D} {i : Nat}, (enumD i ds).length = ds.length
  | [], _ => rfl
  | _ :: ds, i => congrArg Nat.succ (enumD_length (ds := ds) (i := i + 1))
theorem enumD_get : ∀ {ds : List D} {i k : Nat} {d : D}, (enumD i ds)[k]? = some d → ∃ e, ds[k]? = some e ∧ d = .tup [.int ((i + k : Nat)), e]
  | [], _, _, _, h => by cases h
  | e :: ds, i, 0, d, h => by cases h; exact ⟨e, rfl, rfl⟩
  | e :: ds, i, k + 1, d, h => by
    obtain ⟨e', h1, h2⟩ := enumD_get (ds := ds) (i := i + 1) (k := k) h
    exact ⟨e', h1, by rw [h2]; congr 4; omega⟩
theorem yl_enum {K : PySem.W.Frag} (hK : K = C.b.K) {a : Addr} {ds : List D} : Yl C (fun ρ B H => Den C.b ρ H B (.ref a) (.lst ds)) (Ite K a) (enumD 0 ds) where
  go := fun i ρ B H h hi => by
    obtain ⟨b, xs, e, hs, r⟩ := (Vw.of h).lstSq
    cases e
    have hl := r.length
    rw [enumD_length] at hi
    exact ⟨xs, xs[i]'(by omega), by rw [hK]; exact hs, List.getElem?_eq_getElem _⟩
  yld := fun i ρ B H x H' d h tr hd y => by
    obtain ⟨b, xs, e, hs, r⟩ := (Vw.of h).lstSq
    cases e
    obtain ⟨T, w, rfl, hT, rfl, y⟩ := y
    obtain ⟨e, he, rfl⟩ := enumD_get hd
    obtain ⟨v, hv, hr⟩ := r.get he
    have := y xs (by rw [hK]; exact hs)
    rw [hv] at this
    cases this
    have x : Ext H (upd H T (.tup [.int (i : Nat), w])) := Ext.new hT
    have nB : ¬ B T := fun z => by
      obtain ⟨o, e⟩ := tr T z
      rw [hT] at e
      cases e
    refine ⟨x, .tup (.inl upd_same) nB (.cons ?_ (.cons (hr.mono x.pres Pfx.refl) .nil))⟩
    rw [Nat.zero_add]
    exact .int _
  stop := fun i ρ B H h hi => by
    obtain ⟨b, xs, e, hs, r⟩ := (Vw.of h).lstSq
    cases e
    rw [enumD_length] at hi
    exact ⟨xs, by rw [hK]; exact hs, by rw [r.length]; exact hi⟩
  stay := fun ρ B H ρ' B' H' p h => p.den h
def enOf : List D → Option (List D)
  | [.lst ds] => some (enumD 0 ds)
  | _ => none
theorem mi_enum {ma : Gm → J → R (List D)} {elts : List Expr} {kk : Nat} {tpos : Pos} (hK : X.K = C.b.K) (hg : Gl X "enumerate") (hm : X.mg "enumerate" = none) (ha : MA C E X [e] ma) (hs : starEach [e] X.env = [(false, eval e X.env)] := by rfl) :
    MI C E X (.Tuple elts kk tpos) (.Call (.Name "enumerate" p) [e] [] pos) (iR enOf ma) :=
  PI.imp (pi_enum hg hm ha hs) fun σ H Rr ⟨O, ρ, Γ, j, S, h⟩ => ⟨O, ρ, Γ, j, S, Post.imp (Post.bind S h) fun ds j1 ρ1 H1 k1 S1 q vs hvs => by
    unfold enOf at q
    split at q
    · rename_i es
      cases hvs with
      | cons hv rr =>
      cases rr
      have hv' := hv
      obtain ⟨a, xs, rfl, hx, r⟩ := (Vw.of hv).lstSq
      exact ⟨a, xs, rfl, by rw [hK]; exact hx, Post.now S1 q _ _ (yl_enum hK) hv'⟩
    · exact q.elim⟩
/-! l.count(x) -/
def rCnt (K : PySem.W.Frag) : V → List V → Hp → VK → Prop := fun x ws H Q => ∃ l y ps d xs, x = .ref l ∧ ws = [y] ∧ SqL K H l xs ∧ DpAll K H xs ps ∧ Dp K H y d ∧ PyData.plainAll ps = true ∧ d.plain = true ∧ d.depth ≤ 60 ∧ Q (.int ((ps.countP fun z => PyData.eqv z d : Nat) : Int)) H
theorem mt_cnt (hu : X.A.units + 64 < cLine) : MtM X "list.count" (rCnt X.K) := by
  intro pins s σ H x ws v us Q I rx rv h
  obtain ⟨l, y, ps, d, xs, rfl, rfl, hs, ha, hd, h1, h2, h3, q⟩ := h
  cases rx
  obtain ⟨u, rfl, ru⟩ := rv.one
  obtain ⟨its, rv', pp, hz⟩ := I.list hs
  obtain ⟨as, rs⟩ := Dp.readsAll I ps _ its ha rv'
  obtain ⟨bs, rd⟩ := Dp.reads I d y u hd ru
  refine PySem.SeqAt.count_list_data (vs := its.toArray) pp.isList (by rw [List.toList_toArray]; exact rs) rd h1 h2 ?_ ⟨.int _, H, I.tok _, ⟨_, rfl⟩, q⟩
  have : min (PyData.depthAll ps) d.depth ≤ d.depth := Nat.min_le_right _ _
  omega
def cntD (ds : List D) (d : D) : Option D := match D.pyA ds, d.py with
  | some ps, some q => if PyData.plainAll ps = true ∧ q.plain = true ∧ q.depth ≤ 60 then some (.int ((ps.countP fun z => PyData.eqv z q : Nat) : Int)) else none
  | _, _ => none
def mCnt (mo me : Gm → J → R D) : Gm → J → R D := fun Γ j => (mo Γ j).bind fun d j => match deref j d with
  | .lst _ => (me Γ j).bind fun e j => (match deref j d with
    | .lst ds => lift (cntD ds (deref j e)) j
    | _ => .bad)
  | _ => .bad
theorem me_cnt {apos : Pos} (hK : X.K = C.b.K) (hu : X.A.units + 64 < cLine) (ho : ME C E X o mo) (he : ME C E X e me)
    (hbase : attributeBase o "count" X.env (eval o X.env) = eval o X.env := by rfl)
    (hfew : ((backTo p (starEach [e] X.env)).all (fun x => !x.1) && (backToKw p (keywordEach [] X.env)).all (fun x => x.1.isSome) && decide ([e].length + ([] : List Keyword).length + (if ([] : List Keyword).isEmpty then 0 else 1) < 30)) = true := by rfl)
    (hline : (apos.endLine == p.line) = true := by rfl) (hst : starEach [e] X.env = (false, eval e X.env) :: starEach [] X.env := by rfl) (hplain : (backTo p (starEach [] X.env)).any (·.1) = false := by rfl) :
    ME C E X (.Call (.Attribute o "count" apos) [e] [] p) (mCnt mo me) :=
  PE.imp (pe_bm PySem.F.plainAttrs_list PySem.F.slot_list_count PySem.F.type_list_count (mt_cnt hu) ho (pa_cons he pa_nil hst) hbase hfew hline hst hplain) fun σ H Q ⟨O, ρ, Γ, j, S, h⟩ => by
    refine ⟨O, ρ, Γ, j, S, Post.imp (Post.bind S h) fun d j1 ρ1 H1 k1 S1 q v hv => ?_⟩
    split at q
    · rename_i ds0 hd0
      have hw0 := S1.st.view hv
      rw [hd0] at hw0
      obtain ⟨l, xs, rfl, hx, r⟩ := hw0.lstSq
      refine ⟨.inl ⟨rfl, xs, by rw [hK]; exact hx⟩, O, ρ1, Γ, j1, S1, Post.imp (Post.bind S1 q) fun d2 j2 ρ2 H2 k2 S2 q2 u hu2 => ?_⟩
      split at q2
      · rename_i ds hd
        obtain ⟨z, hz, q3⟩ := post_lift S2 q2
        clear q2
        have hw := S2.st.view ((k2.step O).den hv)
        rw [hd] at hw
        obtain ⟨l', xs', e', hx', r'⟩ := hw.lstSq
        cases e'
        unfold cntD at hz
        split at hz
        · rename_i ps q e1 e2
          by_cases c : PyData.plainAll ps = true ∧ q.plain = true ∧ q.depth ≤ 60
          · rw [if_pos c] at hz
            cases hz
            exact ⟨l, u, ps, q, xs', rfl, rfl, by rw [hK]; exact hx', by rw [hK]; exact r'.dp e1, by rw [hK]; exact (S2.st.view hu2).dp e2, c.1, c.2.1, c.2.2, q3 _ H2 Ext.refl (.int _)⟩
          · rw [if_neg c] at hz; cases hz
        · cases hz
      · exact q2.elim
    · exact q.elim
end
/-! ### repr of data with empty dicts -/
mutual
def D.pyE : D → Option PyData
  | .non => some .none
  | .bl b => some (.bool b)
  | .int i => some (.int i)
  | .str x => some (.str x)
  | .lst xs => (D.pyEA xs).map .list
  | .tup xs => (D.pyEA xs).map .tuple
  | .dct [] => some (.dict [])
  | _ => none
def D.pyEA : List D → Option (List PyData)
  | [] => some []
  | d :: ds => match d.pyE, D.pyEA ds with
    | some p, some ps => some (p :: ps)
    | _, _ => none
end
section
variable {X : Cx} {pins : List (Addr × Obj)} {σ : L2.St} {H : Hp} {s : Shared} {C : Cb} {ρ : List Addr} {B : Addr → Prop}
mutual
theorem Den.rdE (I : Inv X pins σ H s) (hK : X.K = C.K) (hsy : H sysModules = none) : ∀ {v : V} {d : D} {p : PyData} {u : Value}, Den C ρ H B v d → d.pyE = some p → RelV v u → ∃ as, Reads s.heap u p as ∧ sysModules ∉ as
  | _, _, _, _, .non, e, r => by cases e; cases r; exact ⟨_, .none, by simp⟩
  | _, _, _, _, .bl b, e, r => by cases e; cases r; exact ⟨_, .bool b, by simp⟩
  | _, _, _, _, .int i, e, r => by cases e; obtain ⟨t, rfl⟩ := r; exact ⟨_, .int i t, by simp⟩
  | _, _, _, _, .str x, e, r => by cases e; obtain ⟨t, rfl⟩ := r; exact ⟨_, .str x t, by simp⟩
  | _, _, p, _, .lst (ds := ds) h n r, e, ru => by
    unfold D.pyE at e
    cases q : D.pyEA ds with
    | none => rw [q] at e; cases e
    | some ps =>
      rw [q] at e; cases e; cases ru
      obtain ⟨its, rv, ⟨o, n, ho, hc, _, hd⟩, _⟩ := I.list (.inl (.inl h))
      obtain ⟨as, hr, na⟩ := DenA.rdE I hK hsy r q rv
      exact ⟨_, .list ho hc hd (by rw [List.toList_toArray]; exact hr), fun z => by
        rcases List.mem_cons.mp z with z | z
        · rw [z, h] at hsy; cases hsy
        · exact na z⟩
  | _, _, p, _, .tup (ds := ds) h n r, e, ru => by
    unfold D.pyE at e
    cases q : D.pyEA ds with
    | none => rw [q] at e; cases e
    | some ps =>
      rw [q] at e; cases e; cases ru
      obtain ⟨its, rv, ⟨o, ho, hc, n, hd⟩, _⟩ := I.tuple (.inl h)
      obtain ⟨as, hr, na⟩ := DenA.rdE I hK hsy r q rv
      exact ⟨_, .tuple ho hc hd (by rw [List.toList_toArray]; exact hr), na⟩
  | _, _, p, _, .tupK (ds := ds) h r, e, ru => by
    unfold D.pyE at e
    cases q : D.pyEA ds with
    | none => rw [q] at e; cases e
    | some ps =>
      rw [q] at e; cases e; cases ru
      obtain ⟨its, rv, ⟨o, ho, hc, n, hd⟩, _⟩ := I.tuple (sqTn (by rw [hK]; exact h))
      obtain ⟨as, hr, na⟩ := DenA.rdE I hK hsy r q rv
      exact ⟨_, .tuple ho hc hd (by rw [List.toList_toArray]; exact hr), na⟩
  | _, _, p, _, .dK h n r, e, ru => by
    cases r with
    | cons _ _ => cases e
    | nil =>
      have e : some (PyData.dict []) = some p := by simpa [D.pyE] using e
      cases e
      cases ru
      have hx : ObjOk X.prog X.w H s.heap _ (.dK []) := I.hok _ _ h
      obtain ⟨_, hs, vs, kv, o, es, ep, ho, hE, hd, _, hv, _⟩ := hx
      cases kv
      have he : es = #[] := by
        have : es.toList = [] := by
          generalize es.toList = l at hv
          cases l with
          | nil => rfl
          | cons _ _ => cases hv
        exact Array.toList_eq_nil_iff.mp this
      subst he
      exact ⟨_, .dict (as := []) (bs := []) ho hE.1 hd .nil .nil, fun z => by
        rcases List.mem_cons.mp z with z | z
        · rw [← z] at hs; simp at hs
        · cases z⟩
  | _, _, _, _, .frz _ _ _, e, _ => by cases e
  | _, _, _, _, .frzK _ _, e, _ => by cases e
  | _, _, p, _, .dT h n r, e, ru => by
    cases r with
    | cons _ _ => cases e
    | nil =>
      have e : some (PyData.dict []) = some p := by simpa [D.pyE] using e
      cases e
      cases ru
      have hx : ObjOk X.prog X.w H s.heap _ (.dT []) := I.hok _ _ h
      obtain ⟨_, hs, xs, kv, o, es, ep, ho, hE, hd, he, _⟩ := hx
      cases kv
      have he : es = #[] := Array.toList_eq_nil_iff.mp he
      subst he
      exact ⟨_, .dict (as := []) (bs := []) ho hE.1 hd .nil .nil, fun z => by
        rcases List.mem_cons.mp z with z | z
        · rw [← z] at hs; simp at hs
        · cases z⟩
  | _, _, _, _, .ins _ _ _, e, _ => by cases e
  | _, _, _, _, .exn _ _ _ _ _, e, _ => by cases e
  | _, _, _, _, .loc _, e, _ => by cases e
  | _, _, _, _, .cls _, e, _ => by cases e
theorem DenA.rdE (I : Inv X pins σ H s) (hK : X.K = C.K) (hsy : H sysModules = none) : ∀ {v : List V} {d : List D} {p : List PyData} {u : List Value}, DenA C ρ H B v d → D.pyEA d = some p → Vals v u → ∃ as, ReadsAll s.heap u p as ∧ sysModules ∉ as
  | _, _, _, _, .nil, e, r => by cases e; cases r; exact ⟨_, .nil, by simp⟩
  | _, _, p, _, .cons (d := d) (ds := ds) h r, e, ru => by
    unfold D.pyEA at e
    cases q1 : d.pyE with
    | none => rw [q1] at e; cases e
    | some p1 =>
      cases q2 : D.pyEA ds with
      | none => rw [q1, q2] at e; cases e
      | some p2 =>
        rw [q1, q2] at e; cases e
        cases ru with
        | cons r1 r2 =>
          obtain ⟨as, x1, n1⟩ := Den.rdE I hK hsy h q1 r1
          obtain ⟨bs, x2, n2⟩ := DenA.rdE I hK hsy r q2 r2
          exact ⟨_, .cons x1 x2, fun z => (List.mem_append.mp z).elim n1 n2⟩
end
theorem Vw.rdE (I : Inv X pins σ H s) (hK : X.K = C.K) (hsy : H sysModules = none) {v : V} {d : D} {p : PyData} {u : Value} (h : Vw C ρ H B v d) (e : d.pyE = some p) (r : RelV v u) : ∃ as, Reads s.heap u p as ∧ sysModules ∉ as := by
  cases h with
  | of h => exact h.rdE I hK hsy e r
  | lst h q => exact (Den.lst (B := fun _ => False) h (fun z => z) (q.less fun _ z => z.elim)).rdE I hK hsy e r
  | dK h q => exact (Den.dK (B := fun _ => False) h (fun z => z) (q.less fun _ z => z.elim)).rdE I hK hsy e r
  | dT h q => exact (Den.dT (B := fun _ => False) h (fun z => z) (q.less fun _ z => z.elim)).rdE I hK hsy e r
  | ins _ _ => cases e
end
def rReprE (C : Cb) : List V → Hp → VK → Prop := fun xs H Q => ∃ x ρ B d p, xs = [x] ∧ Vw C ρ H B x d ∧ d.pyE = some p ∧ p.showable = true ∧ p.depth ≤ 60 ∧ p.shown.length ≤ sizeLine ∧ Q (.str p.shown) H
theorem call_reprE {X : Cx} {C : Cb} {k : Nat} (hK : X.K = C.K) (hsy : (C.K.lookup sysModules).isSome = true) (hr : Room k X.A) (hgd : X.A.guards = some []) : CallR X (.builtin "repr") (rReprE C) := by
  intro pins s σ H xs us Q I r h
  obtain ⟨x, ρ, B, d, p, rfl, hd, hp, hs, hdp, hz, q⟩ := h
  obtain ⟨u, rfl, ru⟩ := vals1 r
  obtain ⟨osy, hsy⟩ := Option.isSome_iff_exists.mp hsy
  have hsn : H sysModules = none := (I.bs _ _ (I.ok.mod.kin _ _ (by rw [hK]; exact hsy))).2
  obtain ⟨as, rd, na⟩ := Vw.rdE I hK hsn hd hp ru
  have big : ∀ {a : Addr}, u = .ref a → wpAny (model X.prog X.w) X.A (call (.builtin "repr") [u]) (EP X pins σ Q) X.xe s := fun {a} e => by
    subst e
    refine repr_of_reads' rd hs (fun _ => na) hgd ?_ (fun _ _ e => e) (fun h' w tk hk => ⟨.str p.shown, H, I.kept (h' := h') (t' := tk) hk, ⟨w, rfl⟩, q⟩) hz
    have := hr.units
    omega
  cases hd with
  | lst _ _ => exact big ru
  | dK _ _ => exact big ru
  | dT _ _ => exact big ru
  | ins _ _ => exact big ru
  | of hd =>
  cases hd with
  | non => cases hp; cases ru; exact P.repr_of_none ⟨.str _, H, I.tok _, ⟨_, rfl⟩, q⟩
  | bl b => cases hp; cases ru; exact P.repr_of_bool ⟨.str _, H, I.tok _, ⟨_, rfl⟩, by cases b <;> exact q⟩
  | int i => cases hp; obtain ⟨t, rfl⟩ := ru; exact P.repr_of_int (by simpa [PyData.showable] using hs) ⟨.str _, H, I.tok _, ⟨_, rfl⟩, q⟩
  | str y => cases hp; obtain ⟨t, rfl⟩ := ru; exact P.repr_of_str ⟨.str _, H, I.tok _, ⟨_, rfl⟩, q⟩ hz
  | _ => exact big ru
def reprE (d : D) : Option Str := match d.pyE with
  | some p => if p.showable = true ∧ p.depth ≤ 60 ∧ p.leavesShort 40 = true ∧ p.weight ≤ 100000 then some p.shown else none
  | none => none
def fReprE : List D → Option D
  | [d] => (reprE d).map .str
  | _ => none
theorem cd_reprE {C : Cb} : CallD C (rReprE C) fReprE := fun ρ B H xs ds z Q ht hx hz k => by
  unfold fReprE at hz
  split at hz
  · rename_i d
    obtain ⟨v, rfl, h⟩ := hx.one
    unfold reprE at hz
    split at hz
    · rename_i p hp
      by_cases c : p.showable = true ∧ p.depth ≤ 60 ∧ p.leavesShort 40 = true ∧ p.weight ≤ 100000
      · rw [if_pos c] at hz
        cases hz
        exact ⟨v, ρ, B, d, p, rfl, h, hp, c.1, c.2.1, by have := PyData.shown_le 40 (by decide) p c.2.2.1; have := c.2.2.2; rw [sizeLine_eq]; omega, k _ H Ext.refl (.str _)⟩
      · rw [if_neg c] at hz; cases hz
    · cases hz
  · cases hz
/-! ### the end: a law of a list of ints -/
/-- the law's def hands back True for the script -/
def spL (C : Cb) : Sp := fun vs H Q _ => ∃ (a : Addr) (ns : List Int), vs = [.ref a] ∧ ns.length ≤ 63 ∧ Den C [] H (fun _ => False) (.ref a) (.frz (ns.map D.int)) ∧ ∀ H', Q (.bl true) H'
/-- the law's call, where its def keeps spL -/
theorem lawG {P : Program} {w : World} {C : Cb} {mg mb : Str → Option Value} {CX : CXT} {k : Nat} {fa a : Addr} {fd : FuncData} {x : Str} {s1 : Shared} {vs : List Value} {ns : List Int}
    (KX : C.K.In s1.heap) (hns : s1.heap.Ns mainGlobals mg) (hb : s1.heap.Ns builtinsNs mb) (hbb : ∀ x : Str, x ≠ "__name__" → mb x = bootBuiltins x) (hlim : s1.heap.NoLimit) (hg : s1.gens = #[])
    (ha : s1.heap.get? a = some { cls := .type "list", data := .seq vs.toArray }) (hi : IntsAre vs ns) (hl : ns.length ≤ 63) (hr : Room k callerA)
    (F : ∀ base : Heap, C.K.In base → base.Ns mainGlobals mg → FnG P w C.K mg base CX k fa fd [x] (spL C)) (hbind : ∀ (s : Shared) (u : Value), BindsTo s fd ⟨[u], []⟩ [(x, u)])
    (hCX : ∀ H e s', CX [] H s1 (fun _ _ _ => False) e s' → False) :
    codeAny (model P w) callerA (.call (.ref fa) ⟨[.ref a], []⟩) (fun r s' => r = .ok (.ret (.bool true)) ∧ OldK s1.heap s'.heap ∧ s'.os = s1.os ∧ AllBare s'.gens) s1 := by
  have rv := vals_ints hi
  have hz : ns.length ≤ sizeLine := Nat.le_trans hl (by decide)
  have dA : ∀ {H : Hp} {ns : List Int}, DenA C [] H (fun _ => False) (ns.map V.int) (ns.map D.int) := fun {H ns} => by
    induction ns with
    | nil => exact .nil
    | cons n ns ih => exact .cons (.int n) ih
  -- over an abstract heap that knows the script at most
  have core : ∀ H : Hp, Den C [] H (fun _ => False) (.ref a) (.frz (ns.map D.int)) → HOk P w H s1.heap → (∀ b u, H b = some u → b = a ∧ C.K.lookup a = none ∧ ∃ o xs, u = .frz o (.lst xs)) →
      codeAny (model P w) callerA (.call (.ref fa) ⟨[.ref a], []⟩) (fun r s' => r = .ok (.ret (.bool true)) ∧ OldK s1.heap s'.heap ∧ s'.os = s1.os ∧ AllBare s'.gens) s1 := by
    intro H hD hok hA
    have free : ∀ {b : Addr} {o : Obj} {es : Array DictEntry} {ep : Nat}, s1.heap.get? b = some o → o.data = .dict es ep → H b = none := fun {b o es ep} e d => by
      cases q : H b with
      | none => rfl
      | some u =>
        obtain ⟨e', _⟩ := hA b u q
        rw [e', ha] at e
        cases e
        cases d
    have nsK : ∀ {b : Addr} {m : Str → Option Value}, s1.heap.Ns b m → (hidT s1.heap H).Ns b m := fun ⟨o, es, ep, e, d, r⟩ => ⟨o, es, ep, hidT_get e (free e d), d, r⟩
    have kB : C.K.In (hidT s1.heap H) := fun b o e => hidT_get (KX b o e) (by
      cases q : H b with
      | none => rfl
      | some u =>
        obtain ⟨e', n, _⟩ := hA b u q
        rw [e', n] at e
        cases e)
    have hM : Mod C.K mg (hidT s1.heap H) := ⟨kB, nsK hns, ⟨mb, nsK hb, hbb⟩, let ⟨mc, h1, h2⟩ := hlim; ⟨mc, nsK h1, h2⟩⟩
    have e0 : Env0 P w C.K mg (hidT s1.heap H) callerA [] s1 H := ⟨rfl, hM, fun b o e => of_hidT e, Nat.le_of_eq (hidT_size _ _), trivial, fun b hb => absurd (show b ∈ ([] : List Addr) from hb) (by simp), hok, .of_eq hg⟩
    refine codeAny_mono ((F _ kB (nsK hns)).run callerA [] s1 H ⟨[.ref a], []⟩ [.ref a] [.ref a] (fun v _ => v = .bl true) (fun _ _ _ => False) hr rfl e0 (hbind s1 (.ref a)) (.cons rfl .nil) ⟨a, ns, rfl, hl, hD, fun _ => rfl⟩) fun r s' h => ?_
    cases r with
    | error e => exact (hCX H e s' h).elim
    | ok fl =>
      cases fl with
      | next => exact False.elim h
      | brk => exact False.elim h
      | cont => exact False.elim h
      | ret u =>
        obtain ⟨v, H', os, bare, un, hok', r', q⟩ := h
        have q' : v = .bl true := q
        subst q'
        obtain rfl : u = Value.bool true := r'
        refine ⟨rfl, OldK.of_keep fun b o e => ?_, os, bare⟩
        cases q : H b with
        | none => exact un.keep b o e q (by intro z; exact absurd (show b ∈ ([] : List Addr) from z) (by simp)) (by simp)
        | some u =>
          obtain ⟨_, _, ob, xs, rfl⟩ := hA b u q
          have z2 := un.frzs b ob _ q
          have e1 : s1.heap.get? b = some ob := (hok b _ q).1
          have e2 : s'.heap.get? b = some ob := (hok' b _ z2).1
          rw [e] at e1
          cases e1
          exact e2
  cases hk : C.K.lookup a with
  | some o =>
    have e := KX a o hk
    rw [ha] at e
    cases e
    refine core (fun _ => none) (.frzK (.inr ⟨_, vs.toArray, _, hk, rfl, rfl, rfl, by rw [List.size_toArray, hi.length]; exact hz, by simpa using rv⟩) dA) (fun b u z => by cases z) fun b u z => by cases z
  | none =>
    refine core (fun b => if b = a then some (.frz { cls := .type "list", data := .seq vs.toArray } (.lst (ns.map V.int))) else none) (.frz (.inr ⟨_, if_pos rfl⟩) (fun z => z) dA) (fun b u z => ?_) fun b u z => ?_
    · try dsimp only at z
      by_cases hb : b = a
      · rw [if_pos hb] at z
        cases z
        subst hb
        exact ⟨ha, by rw [List.length_map]; exact hz, vs, _, rv, ha⟩
      · rw [if_neg hb] at z; cases z
    · try dsimp only at z
      by_cases hb : b = a
      · rw [if_pos hb] at z
        cases z
        exact ⟨hb, hk, _, _, rfl⟩
      · rw [if_neg hb] at z; cases z
/-- the goal behind the head -/
theorem walkG {l : PySem.W.OpenLaw} {k : Nat} {q : Program} {loose : List Str} {XP : (Str → Option Value) → Heap → Prop} {YP : World → Heap → Prop} {d : DefRec} {x : Str}
    (hn : l.most = some 63) (hdf : d.params.defaults = []) (hr : Room k callerA)
    (F : ∀ (w : World) (mg : Str → Option Value) (fa : Addr) (h : Heap), YP w h → h.Ns mainGlobals mg → mg d.name = some (.ref fa) →
      ∃ (C : Cb) (fd : FuncData), C.K.In h ∧ (∀ (s : Shared) (u : Value), BindsTo s fd ⟨[u], []⟩ [(x, u)]) ∧ ∀ base : Heap, C.K.In base → base.Ns mainGlobals mg → FnG l.prog w C.K mg base (L2.CX l.prog w) k fa fd [x] (spL C)) :
    PySem.W.WalkO q loose XP YP l.row.toRowW d [] (fun f vs => PySem.call f vs) := by
  refine Att.attach_call hn hdf fun w s0 s1 mg mb fa o pm cd doc a vs ns G Y ho hd hcd hmg hobj hints hlen hg => ?_
  obtain ⟨C, fd, KX, hb, hF⟩ := F w mg fa _ Y G.T.g hmg
  refine lawG KX G.T.g G.T.b G.T.builtins G.T.nolimit hg hobj hints hlen hr hF hb fun H e s' h => ?_
  obtain ⟨_, _, _, _, _, _, _, _, _, _, _, _, z⟩ := h
  exact z.elim
end On

set_option Elab.async false
set_option linter.all false
set_option maxRecDepth 100000
set_option maxHeartbeats 2000000
set_option autoImplicit false
namespace On
open PySem PySem.Spec PyProof.Rows L2
/-! ### the head's facts -/
abbrev FnS : Type := Option (Str × Str × Arguments × FuncBody × Scope × Addr × List Str × Addr)
/-- the own __init__ of the class x -/
def fnS (K : PySem.W.Frag) (x : Str) : FnS := match K.lookup (He.ma K (He.ga K x) "__init__") with
  | some ⟨_, _, .func fd, _⟩ => some (fd.name, fd.qualname, fd.params, fd.body, fd.scope, fd.globals, fd.closure.map (·.1), fd.builtins)
  | _ => none
structure DefS where
  cls : Str
  qual : Str
  params : Arguments
  body : List Stmt
  scope : Scope
def DefS.val (d : DefS) : FnS := some ("__init__", d.qual, d.params, .stmts d.body, d.scope, mainGlobals, ["__class__"], builtinsNs)
abbrev AlG : Type := Bool × List He.FnW × List FnS
def obsG (B : PySem.W.Frag → Bool) (fn : List He.DefD) (sf : List DefS) (K : PySem.W.Frag) : AlG := (B K && fn.all fun d => d.ok K, fn.map fun d => He.fnW K d.at_, sf.map fun d => fnS K d.cls)
def valG (fn : List He.DefD) (sf : List DefS) : AlG := (true, fn.map He.DefD.val, sf.map DefS.val)
def SaysG (B : PySem.W.Frag → Bool) (fn : List He.DefD) (sf : List DefS) (K : PySem.W.Frag) : Prop := obsG B fn sf K = valG fn sf
def asG (g : Addr → Option Obj) (n : Nat) : List Addr := sysModules :: cStatics :: He.asD g n
def obsGG (n : Nat) (B : PySem.W.Frag → Bool) (fn : List He.DefD) (sf : List DefS) (g : Addr → Option Obj) : AlG := obsG B fn sf (He.frG g (asG g n))
def hookG (n : Nat) (B : PySem.W.Frag → Bool) (fn : List He.DefD) (sf : List DefS) : PySem.W.Hook where
  α := AlG
  obs := fun s => obsGG n B fn sf s.heap.get?
  val := fun _ => valG fn sf
  says := fun _ h => ∃ K : PySem.W.Frag, K.In h ∧ SaysG B fn sf K
  of := fun _ _ e => ⟨_, He.frG_in, e⟩
  keeps := fun _ _ _ ⟨K, hK, c⟩ k => ⟨K, PySem.W.Frag.In.keeps hK k, c⟩
theorem obsGG_eq {n : Nat} {B : PySem.W.Frag → Bool} {fn : List He.DefD} {sf : List DefS} {g : Addr → Option Obj} {s : Shared} (h : ∀ a, g a = s.heap.get? a) : obsGG n B fn sf g = (hookG n B fn sf).obs s := by
  have e : g = s.heap.get? := funext h
  rw [e] <;> rfl
section
variable {B : PySem.W.Frag → Bool} {fn : List He.DefD} {sf : List DefS} {K : PySem.W.Frag}
theorem SaysG.facts (c : SaysG B fn sf K) : B K = true := (He.ba (show (B K && fn.all fun d => d.ok K) = true from congrArg (fun z : AlG => z.1) c)).1
theorem SaysG.def_ (c : SaysG B fn sf K) (i : Nat) {d : He.DefD} (h : fn[i]? = some d := by rfl) : ∃ fd, FunD K d.name d.qual d.params d.body d.scope (d.dvs K) (d.kws K) (He.fAd K d.at_) fd := by
  have c2 := (He.ba (show (B K && fn.all fun d => d.ok K) = true from congrArg (fun z : AlG => z.1) c)).2
  have e : fn.map (fun d => He.fnW K d.at_) = fn.map He.DefD.val := congrArg (fun z : AlG => z.2.1) c
  have e2 : (fn.map fun d => He.fnW K d.at_)[i]? = (fn.map He.DefD.val)[i]? := by rw [e]
  rw [List.getElem?_map, List.getElem?_map, h] at e2
  exact He.DefD.funD (Option.some.inj e2) (List.all_eq_true.mp c2 d (List.mem_of_getElem? h))
theorem SaysG.sup (c : SaysG B fn sf K) (i : Nat) {d : DefS} (h : sf[i]? = some d := by rfl) : fnS K d.cls = d.val := by
  have e : sf.map (fun d => fnS K d.cls) = sf.map DefS.val := congrArg (fun z : AlG => z.2.2) c
  have e2 : (sf.map fun d => fnS K d.cls)[i]? = (sf.map DefS.val)[i]? := by rw [e]
  rw [List.getElem?_map, List.getElem?_map, h] at e2
  exact Option.some.inj e2
end
/-! ### errors: Bools of the written part -/
section
variable {K : PySem.W.Frag} {C D f : Addr}
def oexClsB (K : PySem.W.Frag) (C : Addr) : Bool := match K.lookup C with
  | some ⟨.type "type", _, .cls cd, sl⟩ => (match cd.mro, sl.toList with
    | .ref C' :: bm, [_, _, _, _, some (.builtin n), _] => C' == C && n == "ValueError.__new__" && !cd.hasDel && cd.hasDict && PySem.HandSPX.refsVE bm
    | _, _ => false)
  | _ => false
theorem oexClsB_ok (q : oexClsB K C = true) : ∃ nm q N bs bm sn sub ab col dd k0 k1 k2 k3 k5, K.lookup C = some (excClassObj nm q C N bs bm true sn sub ab col dd k0 k1 k2 k3 k5 "ValueError.__new__") ∧ PySem.HandSPX.refsVE bm = true := by
  unfold oexClsB at q
  split at q
  · rename_i dd cd sl ho
    split at q
    · rename_i C' bm k0 k1 k2 k3 n k5 hm hs
      simp only [Bool.and_eq_true, beq_iff_eq, Bool.not_eq_true'] at q
      obtain ⟨⟨⟨⟨rfl, rfl⟩, hdel⟩, hdct⟩, ht⟩ := q
      obtain ⟨nm, bs, mro, ns, qn, hd, sn, sub, ab, col, del⟩ := cd
      dsimp only at hm hdel hdct
      subst hm hdel hdct
      have hsl : sl = #[k0, k1, k2, k3, some (.builtin "ValueError.__new__"), k5] := by
        obtain ⟨l⟩ := sl
        simp only at hs
        rw [hs]
      subst hsl
      exact ⟨nm, qn, ns, bs, bm, sn, sub, ab, col, dd, k0, k1, k2, k3, k5, ho, ht⟩
    · cases q
  · cases q
def feCB (K : PySem.W.Frag) (D C : Addr) : Bool := oexClsB K C && (He.eqO (PySem.W.findIn K (.ref C) "__setattr__") (some (some (.builtin "object.__setattr__"))) && (decide (PySem.W.subIn K (.ref C) (.type "BaseException") = some true) && (decide (PySem.W.typeIn K (.ref C) = some (.type "type")) && (PySem.W.keepIn K (.ref C) &&
  (decide (PySem.W.mroIn K C (.ref D) = some true) && (decide (PySem.W.subIn K (.ref C) (.type "ValueError") = some true) && (He.eqO (PySem.W.ks_superIn K C D "__init__") (some (some (.builtin "ValueError.__init__"))) && He.eqO (PySem.W.findIn K (.ref C) "value") (some none))))))))
theorem feCB_ok (q : feCB K D C = true) : FeC K D C := by
  obtain ⟨h1, q⟩ := He.ba q
  obtain ⟨h2, q⟩ := He.ba q
  obtain ⟨h3, q⟩ := He.ba q
  obtain ⟨h4, q⟩ := He.ba q
  obtain ⟨h5, q⟩ := He.ba q
  obtain ⟨h6, q⟩ := He.ba q
  obtain ⟨h7, q⟩ := He.ba q
  obtain ⟨h8, h9⟩ := He.ba q
  exact { cls := oexClsB_ok h1, sa := He.eqO_ok h2, exC := of_decide_eq_true h3, tyC := of_decide_eq_true h4, kC := h5, mro := of_decide_eq_true h6, sve := of_decide_eq_true h7, sup := He.eqO_ok h8, noval := He.eqO_ok h9 }
def feKB (K : PySem.W.Frag) (D f C : Addr) : Bool := feCB K D C && He.eqO (PySem.W.findIn K (.ref C) "__init__") (some (some (.ref f)))
theorem feKB_ok (q : feKB K D f C = true) : FeK K D f C := by
  obtain ⟨h1, h2⟩ := He.ba q
  exact { feCB_ok h1 with ini := He.eqO_ok h2 }
def excCB (K : PySem.W.Frag) (D : Addr) : Bool := He.eqO (PySem.W.findIn K (.ref D) "__getattribute__") (some (some (.builtin "BaseException.__getattribute__"))) && (He.eqO (PySem.W.findIn K (.ref D) "__getattr__") (some none) && (decide (PySem.W.subIn K (.ref D) (.type "BaseException") = some true) && (PySem.W.hasDictIn K D &&
  (He.eqO (PySem.W.findIn K (.ref D) "__class__") (some (some (.builtin "object.__class__"))) && (He.eqO (PySem.W.specialIn K (.builtin "object.__class__") "__get__") (some (some (.builtin "getset_descriptor.__get__"))) && (decide (PySem.W.takesIn K (.builtin "object.__class__") = some true) && decide (PySem.W.mroIn K D (.type "object") = some true)))))))
theorem excCB_ok (q : excCB K D = true) : ExcC K D := by
  obtain ⟨h1, q⟩ := He.ba q
  obtain ⟨h2, q⟩ := He.ba q
  obtain ⟨h3, q⟩ := He.ba q
  obtain ⟨h4, q⟩ := He.ba q
  obtain ⟨h5, q⟩ := He.ba q
  obtain ⟨h6, q⟩ := He.ba q
  obtain ⟨h7, h8⟩ := He.ba q
  exact ⟨He.eqO_ok h1, He.eqO_ok h2, of_decide_eq_true h3, h4, He.eqO_ok h5, He.eqO_ok h6, of_decide_eq_true h7, of_decide_eq_true h8⟩
/-- an own __init__ that says super(), of the class x -/
def supB (file : Str) (K : PySem.W.Frag) (x qual : Str) : Bool := PySem.W.isFn K (.ref (He.ma K (He.ga K x) "__init__")) && ((match K.lookup (He.ma K (He.ga K x) "__init__") with
  | some ⟨_, _, .func fd, _⟩ => (match fd.closure, fd.code, fd.defaults with
    | [(_, cc)], .ref cda, .none => PySem.W.codeIn K (.ref cda) qual && (match K.lookup cc with
      | some ⟨_, _, .cell (some (.ref D)), _⟩ => D == He.ga K x
      | _ => false) && (match K.lookup cda with
      | some ⟨_, _, .fields vs, _⟩ => (match (vs[2]? : Option Value) with
        | some (Value.str fl _) => fl == file
        | _ => false)
      | _ => false)
    | _, _, _ => false)
  | _ => false) && ((PySem.W.clsIn K (He.ga K x)).isSome && (He.eqO (PySem.W.nsIn K cStatics "thirdparty.any") (some none) && He.eqO (PySem.W.nsIn K mainGlobals "super") (some none))))
theorem supB_ok {P : Program} {mg : Str → Option Value} {h : Heap} {d : DefS} {file : Str} {ps : List Str} (X : K.In h) (G : h.Ns mainGlobals mg) (e : fnS K d.cls = d.val) (q : supB file K d.cls d.qual = true) (hfile : (P.main.file : Str) = file) (htop : (P.main.scope.names.lookup ("super" : Str)).isSome = false)
    (hb : ∀ (kV doc pm : Value) (an : Option Addr) (cdv ct : Value) (cc : Addr) (us : List Value), us.length = ps.length → bindArgs (PySem.W.ksFn "__init__" d.qual d.params d.body d.scope .none kV doc pm an cdv ct cc) ⟨us, []⟩ = pure (ps.zip us)) :
    PySem.W.typeIn K (.ref (He.ma K (He.ga K d.cls) "__init__")) = some (.type "function") ∧ ∃ cc cda, SupD P K mg (He.ga K d.cls) (He.ma K (He.ga K d.cls) "__init__") cc cda d.qual d.params d.body d.scope ps := by
  obtain ⟨h1, q⟩ := He.ba q
  obtain ⟨h2, q⟩ := He.ba q
  obtain ⟨h3, q⟩ := He.ba q
  obtain ⟨h4, h5⟩ := He.ba q
  refine ⟨by simpa [PySem.W.isFn] using h1, ?_⟩
  unfold fnS at e
  split at h2
  · rename_i oc od fd osl ho
    rw [ho] at e
    split at h2
    · rename_i nm cc cda hcl hcd hdf
      simp only [Bool.and_eq_true] at h2
      obtain ⟨⟨q1, q2⟩, q3⟩ := h2
      split at q2
      · rename_i c1 c2 Dd c3 hcell
        have hD : Dd = He.ga K d.cls := beq_iff_eq.mp q2
        split at q3
        · rename_i e1 e2 vs e3 hco
          split at q3
          · rename_i fl tf hvs
            have hfl : fl = file := beq_iff_eq.mp q3
            obtain ⟨n1, n2, n3, n4, n5, n6, n7, n8, n9, n10, n11, n12, n13, n14, n15⟩ := fd
            dsimp only at hcl hcd hdf
            subst hcl hcd hdf
            have e2 : (some (n1, n2, n3, n4, n5, n6, [nm], n15) : FnS) = some (("__init__" : Str), d.qual, d.params, FuncBody.stmts d.body, d.scope, mainGlobals, [("__class__" : Str)], builtinsNs) := e
            simp only [Option.some.injEq, Prod.mk.injEq, List.cons.injEq, and_true] at e2
            obtain ⟨z1, z2, z3, z4, z5, z6, z7, z8⟩ := e2
            subst z1 z2 z3 z4 z5 z6 z7 z8 hD hfl
            obtain ⟨cd, hcls⟩ := Option.isSome_iff_exists.mp h3
            exact ⟨cc, cda, ⟨oc, od, osl, .none, _, _, _, _, _, ho, Binds.all fun us hl => hb _ _ _ _ _ _ _ us hl⟩, q1, ⟨_, _, _, _, _, _, hco, hvs, by rw [hfile]; exact beq_self_eq_true _⟩, ⟨_, _, _, hcell⟩, ⟨cd, hcls⟩, He.eqO_ok h4, htop, PySem.W.mg_none_of X G (He.eqO_ok h5)⟩
          · cases q3
        · cases q3
      · cases q2
    · cases h2
  · cases h2
end
end On

set_option Elab.async false
set_option linter.all false
set_option maxRecDepth 100000
set_option maxHeartbeats 2000000
set_option autoImplicit false
namespace On
open PySem PySem.Spec PyProof.Rows L2
/-! ### defs by their names -/
structure Gd (P : Program) (w : World) (C : Cb) (mg : Str → Option Value) (base : Heap) (k : Nat) (x : Str) (sp : Sp) : Prop where
  ex : ∃ (f : Addr) (fd : FuncData) (ps : List Str), FnG P w C.K mg base (L2.CX P w) k f fd ps sp ∧ mg x = some (.ref f) ∧ PySem.W.keepIn C.K (.ref f) = true ∧ Binds C.K fd ps []
/-- an own class with its __init__ -/
structure Gi (P : Program) (w : World) (C : Cb) (mg : Str → Option Value) (base : Heap) (k : Nat) (x : Str) (c : Nat) (sp : Sp) : Prop where
  ex : ∃ (f : Addr) (fd : FuncData) (ps : List Str), FnG P w C.K mg base (L2.CX P w) k f fd ps sp ∧ mg x = some (.ref (C.cm c)) ∧ Mk C.K (C.cm c) f ∧ Binds C.K fd ps []
/-- a method -/
structure Gm1 (P : Program) (w : World) (C : Cb) (mg : Str → Option Value) (base : Heap) (k : Nat) (c : Nat) (m : Str) (sp : Sp) : Prop where
  ex : ∃ (f : Addr) (fd : FuncData) (ps : List Str), FnG P w C.K mg base (L2.CX P w) k f fd ps sp ∧ Cls C.K (C.cm c) ∧ Meth C.K (C.cm c) m f ∧ Binds C.K fd ps []
section
variable {C : Ct} {E : WX} {X : Cx} {e o : Expr} {es : List Expr} {k k2 c : Nat} {x x2 m : Str} {p pos py pos2 p2 apos : Pos} {ma mr : Gm → J → R (List D)} {mo : Gm → J → R D} {g : List D → J → R D} {gi : List D → J → R (List (Str × D))}
theorem me_gcall (tk : Takes X E) (G : Gd X.prog X.w C.b X.mg X.base k x (spG C.b g)) (hK : X.K = C.b.K) (hr : Room k X.A) (hgd : X.A.guards = some []) (hg : Gl X x) (ha : MA C E X (e :: es) ma) (hdb : (x == ("__debug__" : Str)) = false := by decide)
    (he : starEach (e :: es) X.env = (false, eval e X.env) :: starEach es X.env := by rfl) (hpl : (backTo pos (starEach es X.env)).any (·.1) = false := by rfl) : ME C E X (.Call (.Name x p) (e :: es) [] pos) (mF g ma) := by
  obtain ⟨f, fd, ps, F, hm, hk, hb⟩ := G.ex
  rw [← hK] at F hk hb
  exact me_call tk F hr hgd hg hm hk hb ha hdb he hpl
theorem me_gcall0 (tk : Takes X E) (G : Gd X.prog X.w C.b X.mg X.base k x (spG C.b g)) (hK : X.K = C.b.K) (hr : Room k X.A) (hgd : X.A.guards = some []) (hg : Gl X x) (hdb : (x == ("__debug__" : Str)) = false := by decide) : ME C E X (.Call (.Name x p) [] [] pos) (mF g mNil) := by
  obtain ⟨f, fd, ps, F, hm, hk, hb⟩ := G.ex
  rw [← hK] at F hk hb
  exact me_call0 tk F hr hgd hg hm hk hb hdb
theorem me_gmake (tk : Takes X E) (G : Gi X.prog X.w C.b X.mg X.base k x c (spI C.b c gi)) (hK : X.K = C.b.K) (hr : Room (k + 1) X.A) (hgd : X.A.guards = some []) (hg : Gl X x) (ha : MA C E X (e :: es) ma) (hdb : (x == ("__debug__" : Str)) = false := by decide)
    (he : starEach (e :: es) X.env = (false, eval e X.env) :: starEach es X.env := by rfl) (hpl : (backTo pos (starEach es X.env)).any (·.1) = false := by rfl) : ME C E X (.Call (.Name x p) (e :: es) [] pos) (mMake c gi ma) := by
  obtain ⟨f, fd, ps, F, hm, hk, hb⟩ := G.ex
  rw [← hK] at F hk hb
  exact me_make tk hk F hr hgd hg hm hb ha hdb he hpl
theorem me_gmeth {pl : Sem Bool} (tk : Takes X E) (G : Gm1 X.prog X.w C.b X.mg X.base k c m (spG C.b g)) (hK : X.K = C.b.K) (hr : Room k X.A) (hgd : X.A.guards = some []) (ho : ME C E X o mo) (ha : MA C E X (e :: es) mr)
    (hst : starEach (e :: es) X.env = (false, eval e X.env) :: starEach es X.env := by rfl) (hpl : (backTo pos (starEach es X.env)).any (·.1) = false := by rfl)
    (ht : eval (.Call (.Attribute o m apos) (e :: es) [] pos) X.env = (do
      let ov ← eval o X.env
      standAt apos.atName
      let (f, first) ← holding [ov] (getMethod ov m pl)
      callWith pos f first (backTo pos (starEach (e :: es) X.env)) (backToKw pos (keywordEach [] X.env))) := by rfl) :
    ME C E X (.Call (.Attribute o m apos) (e :: es) [] pos) (mMeth c m g mo mr) := by
  obtain ⟨f, fd, ps, F, hc, hm, hb⟩ := G.ex
  rw [← hK] at F hc hm hb
  exact me_meth (pl := pl) tk hc hm F hr hgd hb ho ha hst hpl ht
end
/-- a def that was not walked yet: it promises nothing -/
theorem FnG.none {P : Program} {w : World} {K : PySem.W.Frag} {mg : Str → Option Value} {base : Heap} {CX : CXT} {k : Nat} {f : Addr} {fd : FuncData} {ps : List Str} {sp : Sp} (h : ∀ vs H Q E, ¬ sp vs H Q E) : FnG P w K mg base CX k f fd ps sp :=
  ⟨fun vs H Q E q => (h vs H Q E q).elim, fun A outer s H args us vs Q E _ _ _ _ _ q => (h vs H Q E q).elim⟩
theorem spG_bad {C : Cb} (vs : List V) (H : Hp) (Q : VK) (E : XK) : ¬ spG C (fun _ _ => .bad) vs H Q E := fun ⟨_, _, _, _, _, _, q⟩ => q
def fNeg : D → Option D
  | .int i => some (.int (-i))
  | _ => none
theorem ud_neg {C : Cb} : UnD C (rU fun i => .int (-i)) fNeg := fun ρ B H x d z Q ht hx hz k => by
  cases d with
  | int i => cases hx.den trivial; cases hz; exact ⟨i, rfl, k _ H Ext.refl (.int _)⟩
  | _ => cases hz
/-- the law's own def -/
theorem law_of {P : Program} {w : World} {C : Cb} {mg : Str → Option Value} {base : Heap} {k : Nat} {f : Addr} {fd : FuncData} {ps : List Str} {g : List D → J → R D} (h : ∀ ns : List Int, ns.length ≤ 63 → ∃ j, g [.frz (ns.map .int)] [] = .ok (.bl true) j)
    (F : FnG P w C.K mg base (L2.CX P w) k f fd ps (spG C g)) : FnG P w C.K mg base (L2.CX P w) k f fd ps (spL C) :=
  F.imp fun vs H Q E ⟨a, ns, e, hl, hD, q⟩ => by
    subst e
    obtain ⟨j, hj⟩ := h ns hl
    have nb : ∀ b, Bo (fun _ => False) [] [] b → (fun _ => False) b ∨ H b = none := fun b z => by
      rcases z with z | ⟨n, d, z, _⟩
      · exact z.elim
      · cases z
    refine ⟨fun _ => False, [], [], [.frz (ns.map .int)], ⟨fun _ z => z.elim, fun _ z => (List.not_mem_nil z).elim, rfl, List.nodup_nil, fun n d z => by cases z⟩, .cons (hD.less nb) .nil, ?_⟩
    rw [hj]
    intro v ρ' H' _ _ hd
    cases hd
    exact q H'
/-! ### tables of isinstance over error classes -/
def isxB (K : PySem.W.Frag) (cm : Nat → Addr) (u : Value) : Nat → List Bool → Bool
  | _, [] => true
  | n, b :: r => decide (PySem.W.kitOne K (.ref (cm n)) u = some b) && isxB K cm u (n + 1) r
theorem isxB_ok {K : PySem.W.Frag} {cm : Nat → Addr} {u : Value} : ∀ {l : List Bool} {n i : Nat} {b : Bool}, isxB K cm u n l = true → l[i]? = some b → PySem.W.kitOne K (.ref (cm (n + i))) u = some b
  | [], _, _, _, _, e => by cases e
  | c :: r, n, 0, b, h, e => by cases e; exact of_decide_eq_true (He.ba h).1
  | c :: r, n, i + 1, b, h, e => by
    have := isxB_ok (l := r) (n := n + 1) (i := i) (He.ba h).2 e
    rw [Nat.add_right_comm] at this
    exact this
def allB (p : Nat → Bool) : Nat → Bool
  | 0 => true
  | n + 1 => p n && allB p n
theorem allB_ok {p : Nat → Bool} : ∀ {n i : Nat}, allB p n = true → i < n → p i = true
  | n + 1, i, h, hi => by
    obtain ⟨h1, h2⟩ := He.ba h
    by_cases e : i = n
    · rw [e]; exact h1
    · exact allB_ok h2 (by omega)
def inCls (s : Stmt) (j : Nat) : Stmt := match s with
  | .ClassDef _ _ _ b _ _ _ _ _ _ _ => b.getD j (.Pass ⟨0, 0, 0, 0⟩)
  | _ => s
end On

set_option Elab.async false
set_option linter.all false
set_option maxRecDepth 100000
set_option maxHeartbeats 2000000
set_option autoImplicit false
namespace On
open PySem PySem.Spec PyProof.Rows L2
/-! ### what the head tells of the written part -/
def okB (bs : List Bool) : Bool := bs.all id
theorem okB_at {bs : List Bool} (h : okB bs = true) (i : Nat) {b : Bool} (e : bs[i]? = some b) : b = true := List.all_eq_true.mp h b (List.mem_of_getElem? e)
abbrev BkOf (fa : List He.Fa) (ex : PySem.W.Frag → List Bool) (K : PySem.W.Frag) : Bool := (fa.all fun f => f.ok K) && okB (ex K)
structure TT (fa : List He.Fa) (ex : PySem.W.Frag → List Bool) (fn : List He.DefD) (sf : List DefS) (mg : Str → Option Value) (K : PySem.W.Frag) : Prop where
  at_ : ∃ h : Heap, K.In h ∧ h.Ns mainGlobals mg
  c : SaysG (BkOf fa ex) fn sf K
section
variable {fa : List He.Fa} {ex : PySem.W.Frag → List Bool} {fn : List He.DefD} {sf : List DefS} {mg : Str → Option Value} {K : PySem.W.Frag}
theorem TT.fac (T : TT fa ex fn sf mg K) (i : Nat) {f : He.Fa} (h : fa[i]? = some f := by rfl) : f.ok K = true := List.all_eq_true.mp (He.ba T.c.facts).1 f (List.mem_of_getElem? h)
theorem TT.exs (T : TT fa ex fn sf mg K) (i : Nat) {b : Bool} (h : (ex K)[i]? = some b := by rfl) : b = true := okB_at (He.ba T.c.facts).2 i h
theorem TT.glo (T : TT fa ex fn sf mg K) (i : Nat) {x : Str} (h : fa[i]? = some (.glo x) := by rfl) : mg x = some (.ref (He.ga K x)) := let ⟨_, X, G⟩ := T.at_; He.glo_ok X G (T.fac i h)
theorem TT.free (T : TT fa ex fn sf mg K) (i : Nat) {x : Str} (h : fa[i]? = some (.free x) := by rfl) : mg x = none := let ⟨_, X, G⟩ := T.at_; He.free_ok X G (T.fac i h)
theorem TT.int (T : TT fa ex fn sf mg K) (i : Nat) {x : Str} {n : Int} (h : fa[i]? = some (.int x n) := by rfl) : ∃ t, mg x = some (.int n t) := let ⟨_, X, G⟩ := T.at_; He.int_ok X G (T.fac i h)
theorem TT.str (T : TT fa ex fn sf mg K) (i : Nat) {x n : Str} (h : fa[i]? = some (.str x n) := by rfl) : ∃ t, mg x = some (.str n t) := let ⟨_, X, G⟩ := T.at_; He.str_ok X G (T.fac i h)
theorem TT.meth (T : TT fa ex fn sf mg K) (i : Nat) {x m : Str} (h : fa[i]? = some (.meth x m) := by rfl) : Meth K (He.ga K x) m (He.ma K (He.ga K x) m) := He.meth_ok (T.fac i h)
theorem TT.mkr (T : TT fa ex fn sf mg K) (i : Nat) {x : Str} (h : fa[i]? = some (.mkr x) := by rfl) : Mk K (He.ga K x) (He.ma K (He.ga K x) "__init__") := He.mkr_ok (T.fac i h)
theorem TT.def_ (T : TT fa ex fn sf mg K) (i : Nat) {d : He.DefD} (h : fn[i]? = some d := by rfl) : ∃ fd, FunD K d.name d.qual d.params d.body d.scope (d.dvs K) (d.kws K) (He.fAd K d.at_) fd := T.c.def_ i h
end
/-! own classes -/
section
variable {K : PySem.W.Frag} {cm : Nat → Addr}
def iscB (K : PySem.W.Frag) (A : Addr) : Bool := (PySem.W.plainGet K A Str.empty && (PySem.W.hasDictIn K A && (PySem.W.plainOver K A && He.eqO (PySem.W.findIn K (.ref A) "__setattr__") (some (some (.builtin "object.__setattr__")))))) && (He.eqO (PySem.W.findIn K (.ref A) "__class__") (some (some (.builtin "object.__class__"))) &&
  (He.eqO (PySem.W.specialIn K (.builtin "object.__class__") "__get__") (some (some (.builtin "getset_descriptor.__get__"))) && (decide (PySem.W.takesIn K (.builtin "object.__class__") = some true) && decide (PySem.W.mroIn K A (.type "object") = some true))))
theorem iscB_ok {A : Addr} (q : iscB K A = true) : IsC K A := by
  obtain ⟨q0, q⟩ := He.ba q
  obtain ⟨c1, c⟩ := He.ba q0
  obtain ⟨c2, c⟩ := He.ba c
  obtain ⟨c3, c4⟩ := He.ba c
  obtain ⟨h2, q⟩ := He.ba q
  obtain ⟨h3, q⟩ := He.ba q
  obtain ⟨h4, h5⟩ := He.ba q
  exact ⟨⟨c1, c2, c3, He.eqO_ok c4⟩, He.eqO_ok h2, He.eqO_ok h3, of_decide_eq_true h4, of_decide_eq_true h5⟩
/-- classes n0 .. n0 + n - 1 -/
def rngB (p : Nat → Bool) (n0 n : Nat) : Bool := allB (fun i => p (n0 + i)) n
theorem rngB_ok {p : Nat → Bool} {n0 n c : Nat} (h : rngB p n0 n = true) (h1 : n0 ≤ c) (h2 : c < n0 + n) : p c = true := by
  have := allB_ok (i := c - n0) h (by omega)
  rwa [show n0 + (c - n0) = c from by omega] at this
def tyLk (l : List (String × Bool)) : String → Option Bool := fun t => l.lookup t
def owLk (n0 : Nat) (l : List Bool) : Nat → Option Bool := fun n => if n0 ≤ n then l[n - n0]? else none
def isiB (K : PySem.W.Frag) (u : Value) (l : List (String × Bool)) : Bool := l.all fun p => decide (PySem.W.kitOne K (.type p.1) u = some p.2)
theorem isiB_ok {u : Value} {l : List (String × Bool)} (h : isiB K u l = true) (t : String) (b : Bool) (e : tyLk l t = some b) : PySem.W.kitOne K (.type t) u = some b := by
  have m : (t, b) ∈ l := by
    unfold tyLk at e
    clear h
    induction l with
    | nil => cases e
    | cons p r ih =>
      rw [List.lookup_cons] at e
      cases q : (t == p.1) with
      | true => rw [q] at e; cases e; rw [beq_iff_eq.mp q]; exact List.mem_cons_self
      | false => rw [q] at e; exact List.mem_cons_of_mem _ (ih e)
  exact of_decide_eq_true (List.all_eq_true.mp h _ m)
theorem owLk_lt {n0 : Nat} {l : List Bool} {n : Nat} {b : Bool} (e : owLk n0 l n = some b) : n0 ≤ n ∧ n < n0 + l.length ∧ l[n - n0]? = some b := by
  unfold owLk at e
  split at e
  · rename_i h
    have := (List.getElem?_eq_some_iff.mp e).1
    exact ⟨h, by omega, e⟩
  · cases e
theorem ow_ok {u : Value} {n0 : Nat} {l : List Bool} (hi : rngB (fun n => iscB K (cm n)) n0 l.length = true) (h : isxB K cm u n0 l = true) (n : Nat) (b : Bool) (e : owLk n0 l n = some b) : IsC K (cm n) ∧ PySem.W.kitOne K (.ref (cm n)) u = some b := by
  obtain ⟨h1, h2, h3⟩ := owLk_lt e
  refine ⟨iscB_ok (rngB_ok (p := fun n => iscB K (cm n)) hi h1 h2), ?_⟩
  have := isxB_ok h h3
  rwa [show n0 + (n - n0) = n from by omega] at this
theorem ox_ok {u : Value} {n0 : Nat} {l : List Bool} (hi : rngB (fun n => excCB K (cm n)) n0 l.length = true) (h : isxB K cm u n0 l = true) (n : Nat) (b : Bool) (e : owLk n0 l n = some b) : ExcC K (cm n) ∧ PySem.W.kitOne K (.ref (cm n)) u = some b := by
  obtain ⟨h1, h2, h3⟩ := owLk_lt e
  refine ⟨excCB_ok (rngB_ok (p := fun n => excCB K (cm n)) hi h1 h2), ?_⟩
  have := isxB_ok h h3
  rwa [show n0 + (n - n0) = n from by omega] at this
theorem ow_none (n : Nat) (b : Bool) (e : (fun _ => none : Nat → Option Bool) n = some b) : IsC K (cm n) ∧ PySem.W.kitOne K (.ref (cm n)) Value.none = some b := by cases e
def inB (n0 n : Nat) (l : List Nat) : Bool := l.all fun c => decide (n0 ≤ c ∧ c < n0 + n)
/-- e.f: no class of these has it -/
def noB (K : PySem.W.Frag) (cm : Nat → Addr) (f : Str) (l : List Nat) : Bool := l.all fun c => He.eqO (PySem.W.findIn K (.ref (cm c)) f) (some none)
theorem contains_mem {l : List Nat} {c : Nat} (h : l.contains c = true) : c ∈ l := List.contains_iff_mem.mp h
theorem fld_ok {f : Str} {n0 n : Nat} {l : List Nat} (hi : rngB (fun n => iscB K (cm n)) n0 n = true) (hn : inB n0 n l = true) (h : noB K cm f l = true) (c : Nat) (m : l.contains c = true) : Cls K (cm c) ∧ NoAttr K (cm c) f := by
  have q := of_decide_eq_true (List.all_eq_true.mp hn c (contains_mem m))
  exact ⟨(iscB_ok (rngB_ok (p := fun n => iscB K (cm n)) hi q.1 q.2)).cl, He.eqO_ok (List.all_eq_true.mp h c (contains_mem m))⟩
theorem xfld_ok {f : Str} {n0 n : Nat} {l : List Nat} (hi : rngB (fun n => excCB K (cm n)) n0 n = true) (hn : inB n0 n l = true) (h : noB K cm f l = true) (c : Nat) (m : l.contains c = true) : ExcC K (cm c) ∧ PySem.W.findIn K (.ref (cm c)) f = some none := by
  have q := of_decide_eq_true (List.all_eq_true.mp hn c (contains_mem m))
  exact ⟨excCB_ok (rngB_ok (p := fun n => excCB K (cm n)) hi q.1 q.2), He.eqO_ok (List.all_eq_true.mp h c (contains_mem m))⟩
theorem nil_ok {α : Nat → Prop} (c : Nat) (m : ([] : List Nat).contains c = true) : α c := by cases m
end
end On

set_option Elab.async false
set_option linter.all false
set_option maxRecDepth 100000
set_option maxHeartbeats 2000000
set_option autoImplicit false
namespace On
open PySem PySem.Spec PyProof.Rows L2
/-! ### what holds behind a mirror -/
def R.wp {α : Type} (r : R α) (P : α → J → Prop) (X : Nat → List (Str × D) → J → Prop) : Prop := match r with
  | .ok a j => P a j
  | .exc c fs j => X c fs j
  | .bad => False
structure Wt where
  nx : Gm → J → Prop
  ret : D → J → Prop
  brk : Gm → J → Prop
  cont : Gm → J → Prop
  exc : Nat → List (Str × D) → Gm → J → Prop
def RS.wp (r : RS) (W : Wt) : Prop := match r with
  | .nx Γ j => W.nx Γ j
  | .ret d j => W.ret d j
  | .brk Γ j => W.brk Γ j
  | .cont Γ j => W.cont Γ j
  | .exc c fs Γ j => W.exc c fs Γ j
  | .bad => False
abbrev X0 : Nat → List (Str × D) → J → Prop := fun _ _ _ => False
section
variable {α β : Type} {P : α → J → Prop} {X : Nat → List (Str × D) → J → Prop} {W : Wt} {Γ : Gm} {j : J}
theorem R.wp_mono {r : R α} {P' : α → J → Prop} {X' : Nat → List (Str × D) → J → Prop} (h : r.wp P X) (k : ∀ a j, P a j → P' a j) (kx : ∀ c fs j, X c fs j → X' c fs j) : r.wp P' X' := by
  cases r with
  | ok a j => exact k a j h
  | exc c fs j => exact kx c fs j h
  | bad => exact h
theorem R.wp_imp {r : R α} {P' : α → J → Prop} (h : r.wp P X0) (k : ∀ a j, P a j → P' a j) : r.wp P' X := R.wp_mono h k fun _ _ _ z => z.elim
theorem R.wp_ok {r : R α} (h : r.wp P X0) : ∃ a j, r = .ok a j ∧ P a j := by
  cases r with
  | ok a j => exact ⟨a, j, rfl, h⟩
  | exc c fs j => exact h.elim
  | bad => exact h.elim
@[simp] theorem wp_okv {a : α} : (R.ok a j).wp P X = P a j := rfl
@[simp] theorem wp_bad : (R.bad : R α).wp P X = False := rfl
@[simp] theorem wp_exc {c : Nat} {fs : List (Str × D)} : (R.exc c fs j : R α).wp P X = X c fs j := rfl
@[simp] theorem wp_bind {r : R α} {f : α → J → R β} {P : β → J → Prop} : (r.bind f).wp P X = r.wp (fun a j => (f a j).wp P X) X := by cases r <;> rfl
@[simp] theorem wp_lift {o : Option α} : (lift o j).wp P X = (match o with | some a => P a j | none => False) := by cases o <;> rfl
@[simp] theorem wpS_nx : (RS.nx Γ j).wp W = W.nx Γ j := rfl
@[simp] theorem wpS_ret {d : D} : (RS.ret d j).wp W = W.ret d j := rfl
@[simp] theorem wpS_brk : (RS.brk Γ j).wp W = W.brk Γ j := rfl
@[simp] theorem wpS_cont : (RS.cont Γ j).wp W = W.cont Γ j := rfl
@[simp] theorem wpS_exc {c : Nat} {fs : List (Str × D)} : (RS.exc c fs Γ j).wp W = W.exc c fs Γ j := rfl
@[simp] theorem wpS_bad : RS.bad.wp W = False := rfl
@[simp] theorem wpS_bindS {r : R α} {f : α → J → RS} : (r.bindS Γ f).wp W = r.wp (fun a j => (f a j).wp W) (fun c fs j => W.exc c fs Γ j) := by cases r <;> rfl
@[simp] theorem wpS_seq {r : RS} {f : Gm → J → RS} : (r.bindS f).wp W = r.wp { W with nx := fun Γ j => (f Γ j).wp W } := by cases r <;> rfl
@[simp] theorem wp_outF {r : RS} {P : D → J → Prop} : (outF r).wp P X = r.wp ⟨fun _ j => P .non j, P, fun _ _ => False, fun _ _ => False, fun c fs _ j => X c fs j⟩ := by cases r <;> rfl
@[simp] theorem wp_cond {b : Bool} {r s : R α} : (bif b then r else s).wp P X = (bif b then r.wp P X else s.wp P X) := by cases b <;> rfl
@[simp] theorem wpS_cond {b : Bool} {r s : RS} : (bif b then r else s).wp W = (bif b then r.wp W else s.wp W) := by cases b <;> rfl
@[simp] theorem wp_ite {c : Prop} [Decidable c] {r s : R α} : (if c then r else s).wp P X = (if c then r.wp P X else s.wp P X) := by split <;> rfl
@[simp] theorem wpS_ite {c : Prop} [Decidable c] {r s : RS} : (if c then r else s).wp W = (if c then r.wp W else s.wp W) := by split <;> rfl
theorem RS.wp_mono {r : RS} {W' : Wt} (h : r.wp W) (k1 : ∀ Γ j, W.nx Γ j → W'.nx Γ j) (k2 : ∀ d j, W.ret d j → W'.ret d j) (k3 : ∀ Γ j, W.brk Γ j → W'.brk Γ j) (k4 : ∀ Γ j, W.cont Γ j → W'.cont Γ j) (k5 : ∀ c fs Γ j, W.exc c fs Γ j → W'.exc c fs Γ j) : r.wp W' := by
  cases r with
  | nx Γ j => exact k1 _ _ h
  | ret d j => exact k2 _ _ h
  | brk Γ j => exact k3 _ _ h
  | cont Γ j => exact k4 _ _ h
  | exc c fs Γ j => exact k5 _ _ _ _ h
  | bad => exact h
end
/-! ### the combinators, opened -/
section
variable {Γ : Gm} {j : J} {i k : Nat} {ma mb mc me mo mk : Gm → J → R D} {mr : Gm → J → R (List D)} {ta tb : Gm → J → R Bool} {ms mt' : Gm → J → RS} {d : D}
@[simp] theorem x_defOf {N : List Str} {n : Nat} {m : Gm → J → RS} {ds : List D} : defOf N n m ds j = if ds.length = n then outF (m (startG N (ds.map .val)) j) else .bad := rfl
@[simp] theorem x_startG {N : List Str} {cs : List Cell} : startG N cs = cs.map some ++ List.replicate (N.length - cs.length) none := rfl
@[simp] theorem x_seq : sSeq ms mt' Γ j = (ms Γ j).bindS mt' := rfl
@[simp] theorem x_nil : sNil Γ j = .nx Γ j := rfl
@[simp] theorem x_ret : sRet me Γ j = (me Γ j).bindS Γ fun d j => .ret d j := rfl
@[simp] theorem x_retN : sRetN Γ j = .ret .non j := rfl
@[simp] theorem x_drop : sDrop me Γ j = (me Γ j).bindS Γ fun _ j => .nx Γ j := rfl
@[simp] theorem x_if : sIf ta ms mt' Γ j = (ta Γ j).bindS Γ fun b j => bif b then ms Γ j else mt' Γ j := rfl
@[simp] theorem x_set : sSet i me Γ j = (me Γ j).bindS Γ fun d j => .nx (Γ.set i (some (.val d))) j := rfl
@[simp] theorem x_var : mVar i Γ j = (match Γ[i]? with | some (some (.val d)) => .ok d j | _ => .bad) := rfl
@[simp] theorem x_C : mC d Γ j = .ok d j := rfl
@[simp] theorem x_m2 {f : D → D → Option D} : m2 f ma mb Γ j = (ma Γ j).bind fun d j => (mb Γ j).bind fun e j => lift (f (deref j d) (deref j e)) j := rfl
@[simp] theorem x_m1 {f : D → Option D} : m1 f ma Γ j = (ma Γ j).bind fun d j => lift (f (deref j d)) j := rfl
@[simp] theorem x_mB {f : List D → Option D} : mB f mr Γ j = (mr Γ j).bind fun ds j => lift (f (ds.map (deref j))) j := rfl
@[simp] theorem x_mNil : mNil Γ j = .ok [] j := rfl
@[simp] theorem x_mCons : mCons ma mr Γ j = (ma Γ j).bind fun d j => (mr Γ j).bind fun ds j => .ok (d :: ds) j := rfl
@[simp] theorem x_mTup : mTup mr Γ j = (mr Γ j).bind fun ds j => if ds.length ≤ 100000 then .ok (.tup ds) j else .bad := rfl
@[simp] theorem x_mLst : mLst mr Γ j = (mr Γ j).bind fun ds j => if ds.length ≤ 100000 then .ok (.lst ds) j else .bad := rfl
@[simp] theorem x_mLstM : mLstM mr Γ j = (mr Γ j).bind fun ds j => if ds.length ≤ 100000 then .ok (.loc j.length) (j ++ [some (.lst ds)]) else .bad := rfl
@[simp] theorem x_t2 {f : D → D → Option Bool} : t2 f ma mb Γ j = (ma Γ j).bind fun d j => (mb Γ j).bind fun e j => lift (f (deref j d) (deref j e)) j := rfl
@[simp] theorem x_tV : tV ma Γ j = (ma Γ j).bind fun d j => lift (truD (deref j d)) j := rfl
@[simp] theorem x_tNt : tNt ta Γ j = (ta Γ j).bind fun b j => .ok (!b) j := rfl
@[simp] theorem x_tAn : tAn ta tb Γ j = (ta Γ j).bind fun b j => bif b then tb Γ j else .ok false j := rfl
@[simp] theorem x_tOo : tOo ta tb Γ j = (ta Γ j).bind fun b j => bif b then .ok true j else tb Γ j := rfl
@[simp] theorem x_tT : tT Γ j = .ok true j := rfl
@[simp] theorem x_mIf : mIf ta ma mb Γ j = (ta Γ j).bind fun b j => bif b then ma Γ j else mb Γ j := rfl
@[simp] theorem x_mF {g : List D → J → R D} : mF g mr Γ j = (mr Γ j).bind fun ds j => g ds j := rfl
@[simp] theorem x_mNt : mNt ma Γ j = (ma Γ j).bind fun d j => lift ((truD (deref j d)).map fun b => .bl (!b)) j := rfl
@[simp] theorem x_par : sPar i k mr Γ j = (mr Γ j).bindS Γ fun ds j => (match ds with | [d, e] => .nx ((Γ.set i (some (.val d))).set k (some (.val e))) j | _ => .bad) := rfl
@[simp] theorem x_for {mi : Gm → J → R (List D)} {g : J → D → Gm → Option Gm} : sFor mi g ms Γ j = (mi Γ j).bindS Γ fun ds j => loopD g ms ds Γ j := rfl
@[simp] theorem x_iR {f : List D → Option (List D)} : iR f mr Γ j = (mr Γ j).bind fun ds j => lift (f ds) j := rfl
@[simp] theorem x_iS : iS me Γ j = (me Γ j).bind fun d j => lift (seqOf d) j := rfl
@[simp] theorem x_lc {mi : Gm → J → R (List D)} {g : J → D → Gm → Option Gm} {vs : List Nat} : mLc mi g ta me vs Γ j = (mi Γ j).bind fun ds j => if ds.length ≤ 100000 then (lcMap g ta me (wipeG Γ vs) ds j).bind fun es j => .ok (.lst es) j else .bad := rfl
@[simp] theorem x_put : sPut i mk me Γ j = (me Γ j).bindS Γ fun d j => (match conG i Γ j with
  | some _ => (mk Γ j).bindS Γ fun k j => (match conG i Γ j, k with
    | some (.lst ds), .int k => (match ixN ds.length k with
      | some n => muG i Γ j (.lst (ds.set n d))
      | none => .bad)
    | _, _ => .bad)
  | _ => .bad) := rfl
@[simp] theorem x_mX {c : Nat} : mX c me Γ j = (me Γ j).bind fun d j => .ok (.exn c [("value", d)]) j := rfl
@[simp] theorem x_mX2 {c : Nat} : mX2 c mr Γ j = (mr Γ j).bind fun ds j => (match ds with | [d, e] => .ok (.exn c [("why", e), ("value", d)]) j | _ => .bad) := rfl
@[simp] theorem x_own : sOwn i mr Γ j = (mr Γ j).bindS Γ fun ds j => if ds.length ≤ 100000 then .nx (Γ.set i (some (.own (.lst ds)))) j else .bad := rfl
@[simp] theorem x_cnt : mCnt mo me Γ j = (mo Γ j).bind fun d j => (match deref j d with
  | .lst _ => (me Γ j).bind fun e j => (match deref j d with
    | .lst ds => lift (cntD ds (deref j e)) j
    | _ => .bad)
  | _ => .bad) := rfl
@[simp] theorem x_dict0 : mDict0 Γ j = .ok (.dct []) j := rfl
@[simp] theorem de_int {i : Int} : deref j (.int i) = .int i := rfl
@[simp] theorem de_str {x : Str} : deref j (.str x) = .str x := rfl
@[simp] theorem de_bl {b : Bool} : deref j (.bl b) = .bl b := rfl
@[simp] theorem de_non : deref j .non = .non := rfl
@[simp] theorem de_lst {xs : List D} : deref j (.lst xs) = .lst xs := rfl
@[simp] theorem de_tup {xs : List D} : deref j (.tup xs) = .tup xs := rfl
@[simp] theorem de_frz {xs : List D} : deref j (.frz xs) = .frz xs := rfl
@[simp] theorem de_dct {xs : List (D × D)} : deref j (.dct xs) = .dct xs := rfl
@[simp] theorem de_ins {c : Nat} {xs : List (Str × D)} : deref j (.ins c xs) = .ins c xs := rfl
@[simp] theorem de_exn {c : Nat} {xs : List (Str × D)} : deref j (.exn c xs) = .exn c xs := rfl
theorem de_loc {n : Nat} {d : D} (h : j[n]? = some (some d)) : deref j (.loc n) = d := by unfold deref; simp only [h]
end
/-! ### operations -/
section
variable {i k : Int} {xs ys : List D} {x y : Str} {b c : Bool}
@[simp] theorem o_ixl : fIx (.lst xs) (.int i) = atI xs i := rfl
@[simp] theorem o_ixt : fIx (.tup xs) (.int i) = atI xs i := rfl
@[simp] theorem o_ixf : fIx (.frz xs) (.int i) = atI xs i := rfl
@[simp] theorem o_addi : fAdd (.int i) (.int k) = some (.int (i + k)) := rfl
@[simp] theorem o_adds : fAdd (.str x) (.str y) = if x.length + y.length ≤ 100000 then some (.str (x ++ y)) else none := rfl
@[simp] theorem o_addl : fAdd (.lst xs) (.lst ys) = if xs.length + ys.length ≤ 100000 then some (.lst (xs ++ ys)) else none := rfl
@[simp] theorem o_addt : fAdd (.tup xs) (.tup ys) = if xs.length + ys.length ≤ 100000 then some (.tup (xs ++ ys)) else none := rfl
@[simp] theorem o_sub : fSub (.int i) (.int k) = some (.int (i - k)) := rfl
@[simp] theorem o_neg : fNeg (.int i) = some (.int (-i)) := rfl
@[simp] theorem o_lt : fLt (.int i) (.int k) = some (decide (i < k)) := rfl
@[simp] theorem o_lts : fLt (.str x) (.str y) = some (ltS x y) := rfl
@[simp] theorem o_le : iCmp (fun i j => decide (i ≤ j)) (.int i) (.int k) = some (decide (i ≤ k)) := rfl
@[simp] theorem o_gt : iCmp (fun i j => decide (j < i)) (.int i) (.int k) = some (decide (k < i)) := rfl
@[simp] theorem o_ge : iCmp (fun i j => decide (j ≤ i)) (.int i) (.int k) = some (decide (k ≤ i)) := rfl
@[simp] theorem o_int : fInt [.int i] = some (.int i) := rfl
@[simp] theorem o_intb : fInt [.bl b] = some (.int (b2 b)) := rfl
@[simp] theorem o_abs : fAbs [.int i] = some (.int (if i < 0 then -i else i)) := rfl
@[simp] theorem o_max : fMax [.int i, .int k] = some (.int (if k > i then k else i)) := rfl
@[simp] theorem o_min : fMin [.int i, .int k] = some (.int (if k < i then k else i)) := rfl
@[simp] theorem o_lenl : fLen [.lst xs] = some (.int xs.length) := rfl
@[simp] theorem o_lent : fLen [.tup xs] = some (.int xs.length) := rfl
@[simp] theorem o_lenf : fLen [.frz xs] = some (.int xs.length) := rfl
@[simp] theorem o_tupl : fTuple [.lst xs] = some (.tup xs) := rfl
@[simp] theorem o_tupt : fTuple [.tup xs] = some (.tup xs) := rfl
@[simp] theorem o_listl : fList [.lst xs] = some (.lst xs) := rfl
@[simp] theorem o_listt : fList [.tup xs] = some (.lst xs) := rfl
@[simp] theorem o_trub : truD (.bl b) = some b := rfl
@[simp] theorem o_truN : truD .non = some false := rfl
@[simp] theorem o_obl {f : D → D → Option Bool} {d e : D} : obl f d e = (f d e).map .bl := rfl
@[simp] theorem o_eqi : eqD (.int i) (.int k) = some (decide (i = k)) := rfl
@[simp] theorem o_eqs : eqD (.str x) (.str y) = some (decide (x = y)) := rfl
@[simp] theorem o_nes : neD (.str x) (.str y) = some (!decide (x = y)) := rfl
@[simp] theorem o_nei : neD (.int i) (.int k) = some (!decide (i = k)) := rfl
@[simp] theorem o_eqN : eqD .non .non = some true := rfl
theorem fMul_l (h : -18446744073709551616 < i) (h2 : i < 18446744073709551616) : fMul (.int i) (.int k) = some (.int (i * k)) := by
  have e : CM i k = true := by simp [CM]; left; constructor <;> omega
  show (if CM i k = true then some (D.int (i * k)) else none) = _
  rw [if_pos e]
theorem fMul_r (h : -18446744073709551616 < k) (h2 : k < 18446744073709551616) : fMul (.int i) (.int k) = some (.int (i * k)) := by
  have e : CM i k = true := by simp [CM]; right; constructor <;> omega
  show (if CM i k = true then some (D.int (i * k)) else none) = _
  rw [if_pos e]
theorem fMod_p (h : 0 < k) : fMod (.int i) (.int k) = some (.int (i % k)) := by
  show (if 0 < k then some (D.int (i % k)) else none) = _
  rw [if_pos h]
theorem fDiv_p (h : 0 < k) (h2 : k < 18446744073709551616) : fDiv (.int i) (.int k) = some (.int (i / k)) := by
  have e : k.natAbs.log2 < 9000 := by
    rw [Nat.log2_lt (by omega)]
    exact Nat.lt_of_lt_of_le (show k.natAbs < 2 ^ 64 by omega) (Nat.pow_le_pow_right (by decide) (by decide))
  show (if 0 < k ∧ k.natAbs.log2 < 9000 then some (D.int (i / k)) else none) = _
  rw [if_pos ⟨h, e⟩]
theorem atI_nat {α : Type} {l : List α} {n : Nat} : atI l (n : Int) = l[n]? := by
  unfold atI ixN
  by_cases h : n < l.length
  · simp [h]
  · simp [h]
end
/-! ### jars -/
def jarD (a b c : Int) : D := .lst [.int a, .int b, .int c]
/-- a jar from which m things more may be drawn -/
def Jar (j : J) (n : Nat) (m : Nat) : Prop := ∃ a b c : Int, j[n]? = some (some (jarD a b c)) ∧ 0 ≤ a ∧ 0 ≤ b ∧ b < 2 ^ 62 ∧ 0 ≤ c ∧ c + m < 2 ^ 60
/-- all but the n-th thing of the store is kept -/
def Same (n : Nat) (j j' : J) : Prop := j'.length = j.length ∧ ∀ i : Nat, i ≠ n → j'[i]? = j[i]?
theorem Same.refl {n : Nat} {j : J} : Same n j j := ⟨rfl, fun _ _ => rfl⟩
theorem Same.trans {n : Nat} {j j1 j2 : J} (p : Same n j j1) (q : Same n j1 j2) : Same n j j2 := ⟨q.1.trans p.1, fun i h => (q.2 i h).trans (p.2 i h)⟩
theorem Same.set {n : Nat} {j : J} {o : Option D} : Same n j (j.set n o) := ⟨by simp, fun i h => List.getElem?_set_ne (Ne.symm h)⟩
theorem Jar.mono {j : J} {n m k : Nat} (h : Jar j n m) (l : k ≤ m) : Jar j n k := let ⟨a, b, c, h1, h2, h3, h4, h5, h6⟩ := h; ⟨a, b, c, h1, h2, h3, h4, h5, by omega⟩
end On

set_option Elab.async false
set_option linter.all false
set_option maxRecDepth 100000
set_option maxHeartbeats 2000000
set_option autoImplicit false
namespace On
open PySem PySem.Spec PyProof.Rows L2
def cb_jar : Gm → J → RS :=
  (sSeq (sSet 2 (mIf (t2 fLt (mVar 1) (mB fLen (mCons (mVar 0) mNil))) (m2 fIx (mVar 0) (mVar 1)) (m2 fAdd (m2 fMul (mC (.int 53)) (mVar 1)) (mC (.int 23))))) (sSeq (sSet 3 (m2 fMul (m2 fMod (mB fInt (mCons (mB fAbs (mCons (mVar 2) mNil)) mNil)) (m2 fPow (m2 fPow (mC (.int 10)) (mC (.int 60))) (mC (.int 5)))) (mB fInt (mCons (m2 (obl fGe) (mB fAbs (mCons (mVar 2) mNil)) (m2 fPow (mC (.int 10)) (mC (.int 18)))) mNil)))) (sSeq (sSet 4 (m2 fAdd (m2 fAdd (m2 fMul (m2 fMod (mB fInt (mCons (mVar 2) mNil)) (mC (.int 2305843009213693951))) (mC (.int 64879))) (m2 fMul (m2 fMul (mC (.int 7873)) (mVar 1)) (mVar 1))) (mC (.int 67)))) (sRet (mLstM (mCons (mVar 3) (mCons (m2 fMod (mB fInt (mCons (mVar 4) mNil)) (mC (.int 2305843009213693921))) (mCons (mC (.int 0)) mNil))))))))
def c_jar : List D → J → R D := defOf (["_law_script", "_law_k", "_law_cell", "_law_mine", "_law_more"] : List Str) 2 cb_jar
def cb_take : Gm → J → RS :=
  (sSeq (sIf (t2 fGt (m2 fIx (mVar 0) (mC (.int 0))) (mC (.int 0))) (sSeq (sSet 2 (m2 fMod (mB fInt (mCons (m2 fIx (mVar 0) (mC (.int 0))) mNil)) (mVar 1))) (sSeq (sPut 0 (mC (.int 0)) (m2 fDiv (m2 fIx (mVar 0) (mC (.int 0))) (mVar 1))) (sRet (mVar 2)))) sNil) (sSeq (sPut 0 (mC (.int 2)) (m2 fAdd (m2 fIx (mVar 0) (mC (.int 2))) (mC (.int 1)))) (sSeq (sSet 3 (m2 fMod (mB fInt (mCons (m2 fMul (m2 fAdd (m2 fAdd (m2 fIx (mVar 0) (mC (.int 1))) (m2 fMul (m2 fMul (mC (.int 65519)) (m2 fIx (mVar 0) (mC (.int 2)))) (m2 fIx (mVar 0) (mC (.int 2))))) (mC (.int 47))) (mC (.int 48271))) mNil)) (mC (.int 2305843009213693921)))) (sSeq (sSet 4 (m2 fAdd (m2 fMod (mB fInt (mCons (mVar 3) mNil)) (mC (.int 1000003))) (m2 fMul (mC (.int 99989)) (m2 fIx (mVar 0) (mC (.int 2)))))) (sSeq (sSet 3 (m2 fMod (mB fInt (mCons (m2 fMul (mVar 3) (mVar 4)) mNil)) (mC (.int 2305843009213693907)))) (sRet (m2 fMod (mB fInt (mCons (m2 fAdd (m2 fDiv (mVar 3) (mC (.int 127))) (m2 fDiv (mVar 3) (mC (.int 1000033)))) mNil)) (mVar 1))))))))
def c_take : List D → J → R D := defOf (["_law_jar_here", "_law_many", "_law_digit", "_law_big", "_law_more"] : List Str) 2 cb_take
def cb_of : Gm → J → RS :=
  (sRet (m2 fIx (mVar 1) (mF c_take (mCons (mVar 0) (mCons (mB fLen (mCons (mVar 1) mNil)) mNil)))))
def c_of : List D → J → R D := defOf (["_law_jar_here", "_law_some"] : List Str) 2 cb_of
theorem jar_at {j : J} {n : Nat} {d e : D} (h : j[n]? = some (some d)) : (j.set n (some e))[n]? = some (some e) := List.getElem?_set_self (List.getElem?_eq_some_iff.mp h).1
theorem take_wp {j : J} {n m : Nat} {k : Int} {P : D → J → Prop} {X : Nat → List (Str × D) → J → Prop} (h : Jar j n (m + 1)) (hk : 0 < k) (hk2 : k < 18446744073709551616) (q : ∀ r j', 0 ≤ r → r < k → Jar j' n m → Same n j j' → P (.int r) j') : (c_take [.loc n, .int k] j).wp P X := by
  obtain ⟨a, b, c, h1, h2, h3, h4, h5, h6⟩ := h
  unfold c_take cb_take
  simp [de_loc h1, jarD, atI, ixN, conG, muG, h1, fMod_p hk, fDiv_p hk hk2]
  split
  · exact q _ _ (Int.emod_nonneg _ (by omega)) (Int.emod_lt_of_pos _ hk) ⟨a / k, b, c, jar_at h1, Int.ediv_nonneg h2 (by omega), h3, h4, h5, by omega⟩ Same.set
  · have e1 : fMul (.int (65519 * (c + 1))) (.int (c + 1)) = some (.int (65519 * (c + 1) * (c + 1))) := fMul_r (by omega) (by omega)
    have e2 : ∀ y : Int, fMul (.int (y % 2305843009213693921)) (.int (y % 2305843009213693921 % 1000003 + 99989 * (c + 1))) = some (.int (y % 2305843009213693921 * (y % 2305843009213693921 % 1000003 + 99989 * (c + 1)))) := fun y => fMul_l (by omega) (by omega)
    simp [de_loc (jar_at h1), fMul_l, fMul_r, fMod_p, fDiv_p, atI, ixN, e1, e2, hk, hk2]
    exact q _ _ (Int.emod_nonneg _ (by omega)) (Int.emod_lt_of_pos _ hk) ⟨a, b, c + 1, jar_at h1, h2, h3, h4, by omega, by omega⟩ Same.set
theorem of_wp {j : J} {n m : Nat} {ds : List D} {P : D → J → Prop} {X : Nat → List (Str × D) → J → Prop} (h : Jar j n (m + 1)) (hd : ds ≠ []) (hl : ds.length < 100000) (q : ∀ d j', d ∈ ds → Jar j' n m → Same n j j' → P d j') : (c_of [.loc n, .lst ds] j).wp P X := by
  unfold c_of cb_of
  have hp : 0 < ds.length := List.length_pos_iff.mpr hd
  simp
  refine take_wp h (by omega) (by omega) fun r j' h0 h1 hj hs => ?_
  obtain ⟨i, rfl⟩ := Int.eq_ofNat_of_zero_le h0
  have hi : i < ds.length := by omega
  simp [atI_nat, hi]
  exact q _ _ (List.getElem_mem hi) hj hs
theorem cp1 : CP 10 60 := by decide
theorem cp2 : CP (10 ^ 60) 5 := by decide
theorem cp3 : CP 10 18 := by decide
theorem fPow_p {i k : Int} (h : CP i k) : fPow (.int i) (.int k) = some (.int (i ^ k.toNat)) := by
  show (if CP i k then some (D.int (i ^ k.toNat)) else none) = _
  rw [if_pos h]
theorem pow_two : ∃ M1 M2 M3 : Int, 0 < M2 ∧ fPow (.int 10) (.int 60) = some (.int M1) ∧ fPow (.int M1) (.int 5) = some (.int M2) ∧ fPow (.int 10) (.int 18) = some (.int M3) :=
  ⟨10 ^ 60, (10 ^ 60) ^ 5, 10 ^ 18, Int.pow_pos (Int.pow_pos (by decide)), fPow_p cp1, fPow_p cp2, fPow_p cp3⟩
theorem atI_in {α : Type} {l : List α} {i : Int} (h0 : 0 ≤ i) (h1 : i < l.length) : ∃ x, x ∈ l ∧ atI l i = some x := by
  obtain ⟨n, rfl⟩ := Int.eq_ofNat_of_zero_le h0
  have hi : n < l.length := by omega
  exact ⟨l[n], List.getElem_mem hi, by rw [atI_nat]; exact List.getElem?_eq_getElem hi⟩
theorem jar_wp {j : J} {ns : List Int} {k : Int} {P : D → J → Prop} {X : Nat → List (Str × D) → J → Prop} (hk0 : 0 ≤ k) (hk : k < 1000) (q : ∀ d, Jar (j ++ [some d]) j.length 1000000000000 → P (.loc j.length) (j ++ [some d])) : (c_jar [.frz (ns.map .int), .int k] j).wp P X := by
  unfold c_jar cb_jar
  obtain ⟨M1, M2, M3, hM, e1, e2, e3⟩ := pow_two
  revert e1 e2 e3
  generalize fPow = f
  intro e1 e2 e3
  have e4 : ∀ i, fMod (.int i) (.int M2) = some (.int (i % M2)) := fun i => fMod_p hM
  have e5 : ∀ (i : Int) (b : Bool), fMul (.int i) (.int (b2 b)) = some (.int (i * b2 b)) := fun i b => by cases b <;> exact fMul_r (by decide) (by decide)
  have e6 : ∀ i : Int, fMul (.int (i % 2305843009213693951)) (.int 64879) = some (.int (i % 2305843009213693951 * 64879)) := fun i => fMul_r (by decide) (by decide)
  have e7 : fMul (.int 7873) (.int k) = some (.int (7873 * k)) := fMul_l (by decide) (by decide)
  have e8 : fMul (.int (7873 * k)) (.int k) = some (.int (7873 * k * k)) := fMul_r (by omega) (by omega)
  have e9 : fMul (.int 53) (.int k) = some (.int (53 * k)) := fMul_l (by decide) (by decide)
  have fin : ∀ cell : Int, P (.loc j.length) (j ++ [some (.lst [.int ((if cell < 0 then -cell else cell) % M2 * b2 (decide (M3 ≤ if cell < 0 then -cell else cell))), .int ((cell % 2305843009213693951 * 64879 + 7873 * k * k + 67) % 2305843009213693921), .int 0])]) := fun c => by
    refine q _ ⟨_, _, 0, by rw [List.getElem?_append_right (Nat.le_refl _), Nat.sub_self]; rfl, ?_, Int.emod_nonneg _ (by omega), Int.lt_trans (Int.emod_lt_of_pos _ (by omega)) (by omega), Int.le_refl _, by omega⟩
    refine Int.mul_nonneg (Int.emod_nonneg _ (by omega)) ?_
    cases (decide (M3 ≤ if c < 0 then -c else c)) <;> decide
  by_cases hl : k < (ns.length : Int)
  · obtain ⟨x, hx, ex⟩ := atI_in (l := ns.map D.int) hk0 (by simpa using hl)
    obtain ⟨cell, _, rfl⟩ := List.mem_map.mp hx
    simp [e1, e2, e3, e4, e5, e6, e7, e8, e9, ex, hl, fMod_p]
    exact fin _
  · simp [e1, e2, e3, e4, e5, e6, e7, e8, e9, hl, fMod_p]
    exact fin _
/-! ### loops -/
theorem loopD_wp {g : J → D → Gm → Option Gm} {mb : Gm → J → RS} {W : Wt} (I : List D → Gm → J → Prop) (hs : ∀ d ds Γ j, I (d :: ds) Γ j → ∃ Γ1, g j d Γ = some Γ1 ∧ (mb Γ1 j).wp ⟨I ds, W.ret, W.nx, I ds, W.exc⟩) (he : ∀ Γ j, I [] Γ j → W.nx Γ j) :
    ∀ {ds : List D} {Γ : Gm} {j : J}, I ds Γ j → (loopD g mb ds Γ j).wp W
  | [], Γ, j, h => he Γ j h
  | d :: ds, Γ, j, h => by
    obtain ⟨Γ1, e, w⟩ := hs d ds Γ j h
    unfold loopD
    rw [e]
    revert w
    dsimp only
    generalize mb Γ1 j = r
    intro w
    cases r with
    | nx Γ' j' => exact loopD_wp I hs he w
    | cont Γ' j' => exact loopD_wp I hs he w
    | brk Γ' j' => exact w
    | ret d j' => exact w
    | exc c fs Γ' j' => exact w
    | bad => exact w
theorem lcMap_wp {g : J → D → Gm → Option Gm} {mt : Gm → J → R Bool} {me : Gm → J → R D} {Γ : Gm} {X : Nat → List (Str × D) → J → Prop} (I : List D → List D → J → Prop)
    (hs : ∀ d ds acc j, I (d :: ds) acc j → ∃ Γ1, g j d Γ = some Γ1 ∧ (mt Γ1 j).wp (fun b j1 => bif b then (me Γ1 j1).wp (fun e j2 => I ds (acc ++ [e]) j2) X0 else I ds acc j1) X0) :
    ∀ {ds acc : List D} {j : J} {P : List D → J → Prop}, I ds acc j → (∀ es j, I [] (acc ++ es) j → P es j) → (lcMap g mt me Γ ds j).wp P X
  | [], acc, j, P, h, q => by
    show P [] j
    exact q [] j (by rw [List.append_nil]; exact h)
  | d :: ds, acc, j, P, h, q => by
    obtain ⟨Γ1, e, w⟩ := hs d ds acc j h
    unfold lcMap
    rw [e]
    dsimp only
    revert w
    generalize mt Γ1 j = r
    intro w
    cases r with
    | exc c fs j => exact w.elim
    | bad => exact w.elim
    | ok b j1 =>
      cases b with
      | false => exact lcMap_wp I hs (acc := acc) w q
      | true =>
        have w : (me Γ1 j1).wp (fun e j2 => I ds (acc ++ [e]) j2) X0 := w
        show ((me Γ1 j1).nox.bind fun e j => (lcMap g mt me Γ ds j).bind fun es j => .ok (e :: es) j).wp P X
        revert w
        generalize me Γ1 j1 = r2
        intro w
        cases r2 with
        | exc c fs j => exact w.elim
        | bad => exact w.elim
        | ok e j2 =>
          show ((lcMap g mt me Γ ds j2).bind fun es j => .ok (e :: es) j).wp P X
          rw [wp_bind]
          exact lcMap_wp I hs (acc := acc ++ [e]) w fun es j h => q (e :: es) j (by rw [List.append_assoc] at h; exact h)
theorem rangeD_succ {lo : Int} {n : Nat} : rangeD lo (n + 1) = .int lo :: rangeD (lo + 1) n := by
  unfold rangeD
  rw [List.range_succ_eq_map, List.map_cons, List.map_map]
  congr 1
  · simp
  · apply List.map_congr_left
    intro i _
    simp
    omega
theorem rng1_p {n : Int} (h0 : 0 ≤ n) (h1 : n < 1000000000) : rng1 [.int n] = some (rangeD 0 n.toNat) := by
  show (if -(2 ^ 62) ≤ n ∧ n < 2 ^ 62 then some (rangeD 0 n.toNat) else none) = _
  rw [if_pos (by constructor <;> omega)]
theorem rangeD_length {lo : Int} {n : Nat} : (rangeD lo n).length = n := by simp [rangeD]
/-! ### values that are shown -/
structure Sm (w dp : Nat) (d : D) : Prop where
  ex : ∃ p, d.pyE = some p ∧ p.showable = true ∧ p.leavesShort 40 = true ∧ p.weight ≤ w ∧ p.depth ≤ dp
  nl : ∀ j, deref j d = d
theorem Sm.mono {w dp w' dp' : Nat} {d : D} (h : Sm w dp d) (h1 : w ≤ w') (h2 : dp ≤ dp') : Sm w' dp' d := let ⟨⟨p, a, b, c, e, f⟩, n⟩ := h; ⟨⟨p, a, b, c, by omega, by omega⟩, n⟩
theorem Sm.non : Sm 0 0 .non := ⟨⟨.none, rfl, rfl, rfl, Nat.le_refl _, Nat.le_refl _⟩, fun _ => rfl⟩
theorem Sm.bl {b : Bool} : Sm 0 0 (.bl b) := ⟨⟨.bool b, rfl, rfl, rfl, Nat.le_refl _, Nat.le_refl _⟩, fun _ => rfl⟩
theorem Sm.dct0 : Sm 0 1 (.dct []) := ⟨⟨.dict [], by unfold D.pyE; rfl, rfl, rfl, Nat.le_refl _, by decide⟩, fun _ => rfl⟩
theorem Sm.int {i : Int} (h : i.natAbs < 10 ^ 39) : Sm 130 0 (.int i) := by
  have hl : i.natAbs.log2 < 130 := by
    by_cases z : i.natAbs = 0
    · rw [z]; decide
    · rw [Nat.log2_lt z]
      exact Nat.lt_of_lt_of_le h (by decide)
  refine ⟨⟨.int i, rfl, ?_, ?_, ?_, Nat.le_refl _⟩, fun _ => rfl⟩
  · show decide (i.natAbs.log2 < 1920) = true
    exact decide_eq_true (by omega)
  · show decide ((PyData.shown (.int i)).length ≤ 40) = true
    refine decide_eq_true ?_
    have := int_text_length_le10 (a := i) (k := 39) (by decide) h
    have e : (PyData.shown (.int i)).length = (toString i).length := by
      show (Str.ofString (toString i)).length = _
      exact PySem.ofString_length _
    omega
  · show (if i == 0 then 0 else i.natAbs.log2 + 1) ≤ 130
    split <;> omega
theorem Sm.str {x : Str} (h : x.cps.toList.all (fun c => decide (c < 16 ^ 8)) = true) : Sm x.cps.size 0 (.str x) := ⟨⟨.str x, rfl, rfl, h, Nat.le_refl _, Nat.le_refl _⟩, fun _ => rfl⟩
theorem Sm.all {w dp : Nat} : ∀ {ds : List D}, (∀ d ∈ ds, Sm w dp d) → ∃ ps, D.pyEA ds = some ps ∧ PyData.showableAll ps = true ∧ PyData.leavesShortAll 40 ps = true ∧ PyData.weightAll ps ≤ ds.length * (w + 1) ∧ PyData.depthAll ps ≤ dp
  | [], _ => ⟨[], rfl, rfl, rfl, Nat.zero_le _, Nat.zero_le _⟩
  | d :: ds, h => by
    obtain ⟨ps, a1, a2, a3, a4, a5⟩ := Sm.all (ds := ds) fun e he => h e (List.mem_cons_of_mem _ he)
    obtain ⟨p, b1, b2, b3, b4, b5⟩ := (h d List.mem_cons_self).ex
    refine ⟨p :: ps, by unfold D.pyEA; rw [b1, a1], by simp [PyData.showableAll, a2, b2], by simp [PyData.leavesShortAll, a3, b3], ?_, ?_⟩
    · show PyData.weight p + 1 + PyData.weightAll ps ≤ (ds.length + 1) * (w + 1)
      rw [Nat.succ_mul]
      omega
    · show max (PyData.depth p) (PyData.depthAll ps) ≤ dp
      omega
theorem Sm.lst {w dp : Nat} {ds : List D} (h : ∀ d ∈ ds, Sm w dp d) : Sm (ds.length * (w + 1)) (dp + 1) (.lst ds) := by
  obtain ⟨ps, a1, a2, a3, a4, a5⟩ := Sm.all h
  exact ⟨⟨.list ps, by unfold D.pyE; rw [a1]; rfl, a2, a3, a4, Nat.succ_le_succ a5⟩, fun _ => rfl⟩
theorem Sm.tup {w dp : Nat} {ds : List D} (h : ∀ d ∈ ds, Sm w dp d) : Sm (ds.length * (w + 1)) (dp + 1) (.tup ds) := by
  obtain ⟨ps, a1, a2, a3, a4, a5⟩ := Sm.all h
  exact ⟨⟨.tuple ps, by unfold D.pyE; rw [a1]; rfl, a2, a3, a4, Nat.succ_le_succ a5⟩, fun _ => rfl⟩
theorem Sm.repr {w dp : Nat} {d : D} (h : Sm w dp d) (h1 : w ≤ 100000) (h2 : dp ≤ 60) : ∃ x, reprE d = some x := by
  obtain ⟨p, a1, a2, a3, a4, a5⟩ := h.ex
  exact ⟨p.shown, by unfold reprE; rw [a1]; exact if_pos ⟨a2, by omega, a3, by omega⟩⟩
theorem o_repr {d : D} {x : Str} (h : reprE d = some x) : fReprE [d] = some (.str x) := by show (reprE d).map D.str = _; rw [h]; rfl
end On

set_option Elab.async false
set_option linter.all false
set_option maxRecDepth 100000
set_option maxHeartbeats 0
set_option autoImplicit false

namespace K67
open PySem PySem.Spec PyProof.Rows L2 On
abbrev PR : Program := PySem.Challenge.pw_onlyfall_k67_errors_keep_their_values
def top (i : Nat) : Stmt := PySem.Challenge.pw_onlyfall_k67_errors_keep_their_values.main.body.getD i (.Pass ⟨0, 0, 0, 0⟩)
abbrev dd (x : Str) (i : Nat) : He.DefD := ⟨(x, none), x, x, defArgs (top i), defBody (top i), defScope (top i), [], []⟩
abbrev dm (c m q : Str) (i j : Nat) : He.DefD := ⟨(c, some m), m, q, defArgs (inCls (top i) j), defBody (inCls (top i) j), defScope (inCls (top i) j), [], []⟩
abbrev ds (x q : Str) (i j : Nat) : DefS := ⟨x, q, defArgs (inCls (top i) j), defBody (inCls (top i) j), defScope (inCls (top i) j)⟩
def fn : List He.DefD := [dd "_law_jar" 34, dd "_law_take" 35, dd "_law_of" 36, dd "_law_value" 37, dd "_law_made" 38, dd "_law_kinds" 39, dd "_law_all_right" 40, dd "law" 41]
def sf : List DefS := [ds "FallError" "FallError.__init__" 1 0, ds "Refused" "Refused.__init__" 26 0]
def fa0 : List He.Fa := [.glo "_law_jar", .free "len", .free "abs", .free "int", .glo "_law_take", .glo "_law_of", .glo "_law_value", .free "range", .free "tuple", .glo "_law_made", .glo "BadBranch", .glo "BadCell"]
def fa1 : List He.Fa := [.glo "BadCounts", .glo "BadDeed", .glo "BadLayout", .glo "BadLine", .glo "BadLines", .glo "BadMerge", .glo "BadNumber", .glo "BadPicks", .glo "BadPolicy", .glo "BadPrices", .glo "BadRows", .glo "BadSide"]
def fa2 : List He.Fa := [.glo "BadStand", .glo "BadStory", .glo "BadText", .glo "BadWish", .glo "BadWishes", .glo "BadWord", .glo "BadWorld", .glo "Conflict", .glo "Idle", .glo "NoLine", .glo "NothingToRedo", .glo "NothingToUndo"]
def fa3 : List He.Fa := [.glo "NoTrial", .glo "NotLet", .glo "Refused", .glo "TooMany", .glo "UnlikeLayouts", .glo "_law_kinds", .free "isinstance", .glo "_law_all_right", .free "repr", .free "enumerate", .glo "FallError", .free "ValueError"]
def fa4 : List He.Fa := [.glo "law", .free "min", .free "max"]
def fa : List He.Fa := fa0 ++ fa1 ++ fa2 ++ fa3 ++ fa4
def cn0 : List PySem.Str := ["FallError", "BadLayout", "BadCell", "BadRows", "BadText", "BadNumber", "UnlikeLayouts", "BadCounts", "NotLet", "BadPicks", "BadWord", "BadMerge"]
def cn1 : List PySem.Str := ["Conflict", "BadWorld", "BadPolicy", "BadStand", "BadDeed", "BadStory", "BadSide", "BadWish", "BadWishes", "BadPrices", "BadBranch", "TooMany"]
def cn2 : List PySem.Str := ["Idle", "Refused", "NoLine", "NothingToUndo", "NothingToRedo", "NoTrial", "BadLines", "BadLine"]
def cn : List PySem.Str := cn0 ++ cn1 ++ cn2
abbrev cmK (K : PySem.W.Frag) (n : Nat) : Addr := He.ga K (cn.getD n "")
abbrev cb (K : PySem.W.Frag) : Cb := ⟨K, cmK K⟩
abbrev ty_BadBranch : List (String × Bool) := [("NoneType", false), ("bool", false), ("int", false), ("str", false), ("list", false), ("tuple", false), ("dict", false)]
abbrev ow_BadBranch : List Bool := []
abbrev ox_BadBranch : List Bool := [false, false, false, false, false, false, false, false, false, false, false, false, false, false, false, false, false, false, false, false, false, false, true, false, false, false, false, false, false, false, false, false]
abbrev ty_BadCell : List (String × Bool) := [("NoneType", false), ("bool", false), ("int", false), ("str", false), ("list", false), ("tuple", false), ("dict", false)]
abbrev ow_BadCell : List Bool := []
abbrev ox_BadCell : List Bool := [false, false, true, false, false, false, false, false, false, false, false, false, false, false, false, false, false, false, false, false, false, false, false, false, false, false, false, false, false, false, false, false]
abbrev ty_BadCounts : List (String × Bool) := [("NoneType", false), ("bool", false), ("int", false), ("str", false), ("list", false), ("tuple", false), ("dict", false)]
abbrev ow_BadCounts : List Bool := []
abbrev ox_BadCounts : List Bool := [false, false, false, false, false, false, false, true, false, false, false, false, false, false, false, false, false, false, false, false, false, false, false, false, false, false, false, false, false, false, false, false]
abbrev ty_BadDeed : List (String × Bool) := [("NoneType", false), ("bool", false), ("int", false), ("str", false), ("list", false), ("tuple", false), ("dict", false)]
abbrev ow_BadDeed : List Bool := []
abbrev ox_BadDeed : List Bool := [false, false, false, false, false, false, false, false, false, false, false, false, false, false, false, false, true, false, false, false, false, false, false, false, false, false, false, false, false, false, false, false]
abbrev ty_BadLayout : List (String × Bool) := [("NoneType", false), ("bool", false), ("int", false), ("str", false), ("list", false), ("tuple", false), ("dict", false)]
abbrev ow_BadLayout : List Bool := []
abbrev ox_BadLayout : List Bool := [false, true, false, false, false, false, false, false, false, false, false, false, false, false, false, false, false, false, false, false, false, false, false, false, false, false, false, false, false, false, false, false]
abbrev ty_BadLine : List (String × Bool) := [("NoneType", false), ("bool", false), ("int", false), ("str", false), ("list", false), ("tuple", false), ("dict", false)]
abbrev ow_BadLine : List Bool := []
abbrev ox_BadLine : List Bool := [false, false, false, false, false, false, false, false, false, false, false, false, false, false, false, false, false, false, false, false, false, false, false, false, false, false, false, false, false, false, false, true]
abbrev ty_BadLines : List (String × Bool) := [("NoneType", false), ("bool", false), ("int", false), ("str", false), ("list", false), ("tuple", false), ("dict", false)]
abbrev ow_BadLines : List Bool := []
abbrev ox_BadLines : List Bool := [false, false, false, false, false, false, false, false, false, false, false, false, false, false, false, false, false, false, false, false, false, false, false, false, false, false, false, false, false, false, true, false]
abbrev ty_BadMerge : List (String × Bool) := [("NoneType", false), ("bool", false), ("int", false), ("str", false), ("list", false), ("tuple", false), ("dict", false)]
abbrev ow_BadMerge : List Bool := []
abbrev ox_BadMerge : List Bool := [false, false, false, false, false, false, false, false, false, false, false, true, false, false, false, false, false, false, false, false, false, false, false, false, false, false, false, false, false, false, false, false]
abbrev ty_BadNumber : List (String × Bool) := [("NoneType", false), ("bool", false), ("int", false), ("str", false), ("list", false), ("tuple", false), ("dict", false)]
abbrev ow_BadNumber : List Bool := []
abbrev ox_BadNumber : List Bool := [false, false, false, false, false, true, false, false, false, false, false, false, false, false, false, false, false, false, false, false, false, false, false, false, false, false, false, false, false, false, false, false]
abbrev ty_BadPicks : List (String × Bool) := [("NoneType", false), ("bool", false), ("int", false), ("str", false), ("list", false), ("tuple", false), ("dict", false)]
abbrev ow_BadPicks : List Bool := []
abbrev ox_BadPicks : List Bool := [false, false, false, false, false, false, false, false, false, true, false, false, false, false, false, false, false, false, false, false, false, false, false, false, false, false, false, false, false, false, false, false]
abbrev ty_BadPolicy : List (String × Bool) := [("NoneType", false), ("bool", false), ("int", false), ("str", false), ("list", false), ("tuple", false), ("dict", false)]
abbrev ow_BadPolicy : List Bool := []
abbrev ox_BadPolicy : List Bool := [false, false, false, false, false, false, false, false, false, false, false, false, false, false, true, false, false, false, false, false, false, false, false, false, false, false, false, false, false, false, false, false]
abbrev ty_BadPrices : List (String × Bool) := [("NoneType", false), ("bool", false), ("int", false), ("str", false), ("list", false), ("tuple", false), ("dict", false)]
abbrev ow_BadPrices : List Bool := []
abbrev ox_BadPrices : List Bool := [false, false, false, false, false, false, false, false, false, false, false, false, false, false, false, false, false, false, false, false, false, true, false, false, false, false, false, false, false, false, false, false]
abbrev ty_BadRows : List (String × Bool) := [("NoneType", false), ("bool", false), ("int", false), ("str", false), ("list", false), ("tuple", false), ("dict", false)]
abbrev ow_BadRows : List Bool := []
abbrev ox_BadRows : List Bool := [false, false, false, true, false, false, false, false, false, false, false, false, false, false, false, false, false, false, false, false, false, false, false, false, false, false, false, false, false, false, false, false]
abbrev ty_BadSide : List (String × Bool) := [("NoneType", false), ("bool", false), ("int", false), ("str", false), ("list", false), ("tuple", false), ("dict", false)]
abbrev ow_BadSide : List Bool := []
abbrev ox_BadSide : List Bool := [false, false, false, false, false, false, false, false, false, false, false, false, false, false, false, false, false, false, true, false, false, false, false, false, false, false, false, false, false, false, false, false]
abbrev ty_BadStand : List (String × Bool) := [("NoneType", false), ("bool", false), ("int", false), ("str", false), ("list", false), ("tuple", false), ("dict", false)]
abbrev ow_BadStand : List Bool := []
abbrev ox_BadStand : List Bool := [false, false, false, false, false, false, false, false, false, false, false, false, false, false, false, true, false, false, false, false, false, false, false, false, false, false, false, false, false, false, false, false]
abbrev ty_BadStory : List (String × Bool) := [("NoneType", false), ("bool", false), ("int", false), ("str", false), ("list", false), ("tuple", false), ("dict", false)]
abbrev ow_BadStory : List Bool := []
abbrev ox_BadStory : List Bool := [false, false, false, false, false, false, false, false, false, false, false, false, false, false, false, false, false, true, false, false, false, false, false, false, false, false, false, false, false, false, false, false]
abbrev ty_BadText : List (String × Bool) := [("NoneType", false), ("bool", false), ("int", false), ("str", false), ("list", false), ("tuple", false), ("dict", false)]
abbrev ow_BadText : List Bool := []
abbrev ox_BadText : List Bool := [false, false, false, false, true, false, false, false, false, false, false, false, false, false, false, false, false, false, false, false, false, false, false, false, false, false, false, false, false, false, false, false]
abbrev ty_BadWish : List (String × Bool) := [("NoneType", false), ("bool", false), ("int", false), ("str", false), ("list", false), ("tuple", false), ("dict", false)]
abbrev ow_BadWish : List Bool := []
abbrev ox_BadWish : List Bool := [false, false, false, false, false, false, false, false, false, false, false, false, false, false, false, false, false, false, false, true, false, false, false, false, false, false, false, false, false, false, false, false]
abbrev ty_BadWishes : List (String × Bool) := [("NoneType", false), ("bool", false), ("int", false), ("str", false), ("list", false), ("tuple", false), ("dict", false)]
abbrev ow_BadWishes : List Bool := []
abbrev ox_BadWishes : List Bool := [false, false, false, false, false, false, false, false, false, false, false, false, false, false, false, false, false, false, false, false, true, false, false, false, false, false, false, false, false, false, false, false]
abbrev ty_BadWord : List (String × Bool) := [("NoneType", false), ("bool", false), ("int", false), ("str", false), ("list", false), ("tuple", false), ("dict", false)]
abbrev ow_BadWord : List Bool := []
abbrev ox_BadWord : List Bool := [false, false, false, false, false, false, false, false, false, false, true, false, false, false, false, false, false, false, false, false, false, false, false, false, false, false, false, false, false, false, false, false]
abbrev ty_BadWorld : List (String × Bool) := [("NoneType", false), ("bool", false), ("int", false), ("str", false), ("list", false), ("tuple", false), ("dict", false)]
abbrev ow_BadWorld : List Bool := []
abbrev ox_BadWorld : List Bool := [false, false, false, false, false, false, false, false, false, false, false, false, false, true, false, false, false, false, false, false, false, false, false, false, false, false, false, false, false, false, false, false]
abbrev ty_Conflict : List (String × Bool) := [("NoneType", false), ("bool", false), ("int", false), ("str", false), ("list", false), ("tuple", false), ("dict", false)]
abbrev ow_Conflict : List Bool := []
abbrev ox_Conflict : List Bool := [false, false, false, false, false, false, false, false, false, false, false, false, true, false, false, false, false, false, false, false, false, false, false, false, false, false, false, false, false, false, false, false]
abbrev ty_Idle : List (String × Bool) := [("NoneType", false), ("bool", false), ("int", false), ("str", false), ("list", false), ("tuple", false), ("dict", false)]
abbrev ow_Idle : List Bool := []
abbrev ox_Idle : List Bool := [false, false, false, false, false, false, false, false, false, false, false, false, false, false, false, false, false, false, false, false, false, false, false, false, true, false, false, false, false, false, false, false]
abbrev ty_NoLine : List (String × Bool) := [("NoneType", false), ("bool", false), ("int", false), ("str", false), ("list", false), ("tuple", false), ("dict", false)]
abbrev ow_NoLine : List Bool := []
abbrev ox_NoLine : List Bool := [false, false, false, false, false, false, false, false, false, false, false, false, false, false, false, false, false, false, false, false, false, false, false, false, false, false, true, false, false, false, false, false]
abbrev ty_NothingToRedo : List (String × Bool) := [("NoneType", false), ("bool", false), ("int", false), ("str", false), ("list", false), ("tuple", false), ("dict", false)]
abbrev ow_NothingToRedo : List Bool := []
abbrev ox_NothingToRedo : List Bool := [false, false, false, false, false, false, false, false, false, false, false, false, false, false, false, false, false, false, false, false, false, false, false, false, false, false, false, false, true, false, false, false]
abbrev ty_NothingToUndo : List (String × Bool) := [("NoneType", false), ("bool", false), ("int", false), ("str", false), ("list", false), ("tuple", false), ("dict", false)]
abbrev ow_NothingToUndo : List Bool := []
abbrev ox_NothingToUndo : List Bool := [false, false, false, false, false, false, false, false, false, false, false, false, false, false, false, false, false, false, false, false, false, false, false, false, false, false, false, true, false, false, false, false]
abbrev ty_NoTrial : List (String × Bool) := [("NoneType", false), ("bool", false), ("int", false), ("str", false), ("list", false), ("tuple", false), ("dict", false)]
abbrev ow_NoTrial : List Bool := []
abbrev ox_NoTrial : List Bool := [false, false, false, false, false, false, false, false, false, false, false, false, false, false, false, false, false, false, false, false, false, false, false, false, false, false, false, false, false, true, false, false]
abbrev ty_NotLet : List (String × Bool) := [("NoneType", false), ("bool", false), ("int", false), ("str", false), ("list", false), ("tuple", false), ("dict", false)]
abbrev ow_NotLet : List Bool := []
abbrev ox_NotLet : List Bool := [false, false, false, false, false, false, false, false, true, false, false, false, false, false, false, false, false, false, false, false, false, false, false, false, false, false, false, false, false, false, false, false]
abbrev ty_Refused : List (String × Bool) := [("NoneType", false), ("bool", false), ("int", false), ("str", false), ("list", false), ("tuple", false), ("dict", false)]
abbrev ow_Refused : List Bool := []
abbrev ox_Refused : List Bool := [false, false, false, false, false, false, false, false, false, false, false, false, false, false, false, false, false, false, false, false, false, false, false, false, false, true, false, false, false, false, false, false]
abbrev ty_TooMany : List (String × Bool) := [("NoneType", false), ("bool", false), ("int", false), ("str", false), ("list", false), ("tuple", false), ("dict", false)]
abbrev ow_TooMany : List Bool := []
abbrev ox_TooMany : List Bool := [false, false, false, false, false, false, false, false, false, false, false, false, false, false, false, false, false, false, false, false, false, false, false, true, false, false, false, false, false, false, false, false]
abbrev ty_UnlikeLayouts : List (String × Bool) := [("NoneType", false), ("bool", false), ("int", false), ("str", false), ("list", false), ("tuple", false), ("dict", false)]
abbrev ow_UnlikeLayouts : List Bool := []
abbrev ox_UnlikeLayouts : List Bool := [false, false, false, false, false, false, true, false, false, false, false, false, false, false, false, false, false, false, false, false, false, false, false, false, false, false, false, false, false, false, false, false]
abbrev ty_FallError : List (String × Bool) := [("NoneType", false), ("bool", false), ("int", false), ("str", false), ("list", false), ("tuple", false), ("dict", false)]
abbrev ow_FallError : List Bool := []
abbrev ox_FallError : List Bool := [true, true, true, true, true, true, true, true, true, true, true, true, true, true, true, true, true, true, true, true, true, true, true, true, true, true, true, true, true, true, true, true]
abbrev ty_ValueError : List (String × Bool) := [("NoneType", false), ("bool", false), ("int", false), ("str", false), ("list", false), ("tuple", false), ("dict", false)]
abbrev ow_ValueError : List Bool := []
abbrev ox_ValueError : List Bool := [true, true, true, true, true, true, true, true, true, true, true, true, true, true, true, true, true, true, true, true, true, true, true, true, true, true, true, true, true, true, true, true]
abbrev xs_value : List Nat := [0, 1, 2, 3, 4, 5, 6, 7, 8, 9, 10, 11, 12, 13, 14, 15, 16, 17, 18, 19, 20, 21, 22, 23, 24, 25, 26, 27, 28, 29, 30, 31]
abbrev xs_why : List Nat := [25]
def ex (K : PySem.W.Frag) : List Bool := [
  supB "/claim/cut.py" K "FallError" "FallError.__init__",
  rngB (fun n => n == 25 || feKB K (He.ga K "FallError") (He.ma K (He.ga K "FallError") "__init__") (cmK K n)) 0 32,
  supB "/claim/cut.py" K "Refused" "Refused.__init__",
  feCB K (He.ga K "FallError") (cmK K 25),
  decide (PySem.W.mroIn K (cmK K 25) (.ref (cmK K 25)) = some true),
  He.eqO (PySem.W.ks_superIn K (cmK K 25) (cmK K 25) "__init__") (some (some (.ref (He.ma K (He.ga K "FallError") "__init__")))),
  He.eqO (PySem.W.findIn K (.ref (cmK K 25)) "why") (some none),
  He.eqO (PySem.W.findIn K (.ref (cmK K 25)) "__init__") (some (some (.ref (He.ma K (cmK K 25) "__init__")))),
  isiB K (.ref (cmK K 22)) ty_BadBranch,
  rngB (fun n => excCB K (cmK K n)) 0 32,
  isxB K (cmK K) (.ref (cmK K 22)) 0 ox_BadBranch,
  isiB K (.ref (cmK K 2)) ty_BadCell,
  isxB K (cmK K) (.ref (cmK K 2)) 0 ox_BadCell,
  isiB K (.ref (cmK K 7)) ty_BadCounts,
  isxB K (cmK K) (.ref (cmK K 7)) 0 ox_BadCounts,
  isiB K (.ref (cmK K 16)) ty_BadDeed,
  isxB K (cmK K) (.ref (cmK K 16)) 0 ox_BadDeed,
  isiB K (.ref (cmK K 1)) ty_BadLayout,
  isxB K (cmK K) (.ref (cmK K 1)) 0 ox_BadLayout,
  isiB K (.ref (cmK K 31)) ty_BadLine,
  isxB K (cmK K) (.ref (cmK K 31)) 0 ox_BadLine,
  isiB K (.ref (cmK K 30)) ty_BadLines,
  isxB K (cmK K) (.ref (cmK K 30)) 0 ox_BadLines,
  isiB K (.ref (cmK K 11)) ty_BadMerge,
  isxB K (cmK K) (.ref (cmK K 11)) 0 ox_BadMerge,
  isiB K (.ref (cmK K 5)) ty_BadNumber,
  isxB K (cmK K) (.ref (cmK K 5)) 0 ox_BadNumber,
  isiB K (.ref (cmK K 9)) ty_BadPicks,
  isxB K (cmK K) (.ref (cmK K 9)) 0 ox_BadPicks,
  isiB K (.ref (cmK K 14)) ty_BadPolicy,
  isxB K (cmK K) (.ref (cmK K 14)) 0 ox_BadPolicy,
  isiB K (.ref (cmK K 21)) ty_BadPrices,
  isxB K (cmK K) (.ref (cmK K 21)) 0 ox_BadPrices,
  isiB K (.ref (cmK K 3)) ty_BadRows,
  isxB K (cmK K) (.ref (cmK K 3)) 0 ox_BadRows,
  isiB K (.ref (cmK K 18)) ty_BadSide,
  isxB K (cmK K) (.ref (cmK K 18)) 0 ox_BadSide,
  isiB K (.ref (cmK K 15)) ty_BadStand,
  isxB K (cmK K) (.ref (cmK K 15)) 0 ox_BadStand,
  isiB K (.ref (cmK K 17)) ty_BadStory,
  isxB K (cmK K) (.ref (cmK K 17)) 0 ox_BadStory,
  isiB K (.ref (cmK K 4)) ty_BadText,
  isxB K (cmK K) (.ref (cmK K 4)) 0 ox_BadText,
  isiB K (.ref (cmK K 19)) ty_BadWish,
  isxB K (cmK K) (.ref (cmK K 19)) 0 ox_BadWish,
  isiB K (.ref (cmK K 20)) ty_BadWishes,
  isxB K (cmK K) (.ref (cmK K 20)) 0 ox_BadWishes,
  isiB K (.ref (cmK K 10)) ty_BadWord,
  isxB K (cmK K) (.ref (cmK K 10)) 0 ox_BadWord,
  isiB K (.ref (cmK K 13)) ty_BadWorld,
  isxB K (cmK K) (.ref (cmK K 13)) 0 ox_BadWorld,
  isiB K (.ref (cmK K 12)) ty_Conflict,
  isxB K (cmK K) (.ref (cmK K 12)) 0 ox_Conflict,
  isiB K (.ref (cmK K 24)) ty_Idle,
  isxB K (cmK K) (.ref (cmK K 24)) 0 ox_Idle,
  isiB K (.ref (cmK K 26)) ty_NoLine,
  isxB K (cmK K) (.ref (cmK K 26)) 0 ox_NoLine,
  isiB K (.ref (cmK K 28)) ty_NothingToRedo,
  isxB K (cmK K) (.ref (cmK K 28)) 0 ox_NothingToRedo,
  isiB K (.ref (cmK K 27)) ty_NothingToUndo,
  isxB K (cmK K) (.ref (cmK K 27)) 0 ox_NothingToUndo,
  isiB K (.ref (cmK K 29)) ty_NoTrial,
  isxB K (cmK K) (.ref (cmK K 29)) 0 ox_NoTrial,
  isiB K (.ref (cmK K 8)) ty_NotLet,
  isxB K (cmK K) (.ref (cmK K 8)) 0 ox_NotLet,
  isiB K (.ref (cmK K 25)) ty_Refused,
  isxB K (cmK K) (.ref (cmK K 25)) 0 ox_Refused,
  isiB K (.ref (cmK K 23)) ty_TooMany,
  isxB K (cmK K) (.ref (cmK K 23)) 0 ox_TooMany,
  isiB K (.ref (cmK K 6)) ty_UnlikeLayouts,
  isxB K (cmK K) (.ref (cmK K 6)) 0 ox_UnlikeLayouts,
  (K.lookup sysModules).isSome,
  isiB K (.ref (cmK K 0)) ty_FallError,
  isxB K (cmK K) (.ref (cmK K 0)) 0 ox_FallError,
  isiB K (.type "ValueError") ty_ValueError,
  isxB K (cmK K) (.type "ValueError") 0 ox_ValueError,
  noB K (cmK K) "value" xs_value,
  noB K (cmK K) "why" xs_why]
def loose0 : List PySem.Str := ["FallError", "BadLayout", "BadCell", "BadRows", "BadText", "BadNumber", "UnlikeLayouts", "BadCounts", "NotLet", "BadPicks", "BadWord", "BadMerge"]
def loose1 : List PySem.Str := ["Conflict", "BadWorld", "BadPolicy", "BadStand", "BadDeed", "BadStory", "BadSide", "BadWish", "BadWishes", "BadPrices", "BadBranch", "TooMany"]
def loose2 : List PySem.Str := ["Idle", "Refused", "NoLine", "NothingToUndo", "NothingToRedo", "NoTrial", "BadLines", "BadLine", "_law_jar", "_law_take", "_law_of", "_law_value"]
def loose3 : List PySem.Str := ["_law_made", "_law_kinds", "_law_all_right"]
def loose : List PySem.Str := loose0 ++ loose1 ++ loose2 ++ loose3
abbrev Rw : PySem.W.OpenRow := PySem.W.OpenLaw.row PySem.Challenge.rw_onlyfall_k67_errors_keep_their_values
abbrev hk : PySem.W.Hook := hookG 5 (BkOf fa ex) fn sf
def ob (s : PySem.W.SharedT) : AlG := obsGG 5 (BkOf fa ex) fn sf (HandSHeadRun.getT s)
theorem ob_eq (s : PySem.W.SharedT) : ob s = hk.obs s.abs := obsGG_eq (HandSHeadRun.getT_eq s)
section
variable {w : World} {mg : Str → Option Value} {base : Heap} {K : PySem.W.Frag}
theorem fe (T : TT fa ex fn sf mg K) : FeI PR K mg (He.ga K "FallError") (He.ma K (He.ga K "FallError") "__init__") := by
  obtain ⟨h, X, G⟩ := T.at_
  obtain ⟨ty, cc, cda, S⟩ := supB_ok (P := PR) (d := ds "FallError" "FallError.__init__" 1 0) (ps := ["self", "value"]) X G (T.c.sup 0) (T.exs 0) rfl (by decide +kernel) (fun kV doc pm an cdv ct cc us hl => match us, hl with | [_, _], _ => rfl)
  exact ⟨⟨cc, cda, _, _, _, _, _, _, _, _, _, _, _, _, _, S, fun L => ⟨_, rfl⟩⟩, ty⟩
theorem fek (T : TT fa ex fn sf mg K) (c : Nat) (h : (decide (c < 32) && !(c == 25)) = true) : FeK K (He.ga K "FallError") (He.ma K (He.ga K "FallError") "__init__") (cmK K c) := by
  obtain ⟨h1, h2⟩ := Bool.and_eq_true_iff.mp h
  have q := rngB_ok (p := fun n => n == 25 || feKB K (He.ga K "FallError") (He.ma K (He.ga K "FallError") "__init__") (cmK K n)) (c := c) (T.exs 1) (Nat.zero_le _) (by have := of_decide_eq_true h1; omega)
  rcases Bool.or_eq_true_iff.mp q with z | z
  · rw [z] at h2; cases h2
  · exact feKB_ok z
theorem rf (T : TT fa ex fn sf mg K) : RfI PR K mg (He.ga K "FallError") (He.ma K (He.ga K "FallError") "__init__") (cmK K 25) (He.ma K (cmK K 25) "__init__") := by
  obtain ⟨h, X, G⟩ := T.at_
  obtain ⟨ty, cc, cda, S⟩ := supB_ok (P := PR) (d := ds "Refused" "Refused.__init__" 26 0) (ps := ["self", "value", "why"]) X G (T.c.sup 1) (T.exs 2) rfl (by decide +kernel) (fun kV doc pm an cdv ct cc us hl => match us, hl with | [_, _, _], _ => rfl)
  exact ⟨⟨cc, cda, _, _, _, _, _, _, _, _, _, _, _, _, _, _, S, fun L => ⟨_, rfl⟩⟩, ty, fe T, feCB_ok (T.exs 3), of_decide_eq_true (T.exs 4), He.eqO_ok (T.exs 5), He.eqO_ok (T.exs 6), He.eqO_ok (T.exs 7)⟩
abbrev n_law_jar : List Str := ["_law_script", "_law_k", "_law_cell", "_law_mine", "_law_more"]
theorem sc_law_jar : FnScope n_law_jar ["_law_script", "_law_k"] (defScope (top 34)) := ⟨rfl, rfl, rfl, by decide +kernel, rfl, by decide +kernel, by decide +kernel⟩
def b_law_jar : Gm → J → RS :=
  (sSeq (sSet 2 (mIf (t2 fLt (mVar 1) (mB fLen (mCons (mVar 0) mNil))) (m2 fIx (mVar 0) (mVar 1)) (m2 fAdd (m2 fMul (mC (.int 53)) (mVar 1)) (mC (.int 23))))) (sSeq (sSet 3 (m2 fMul (m2 fMod (mB fInt (mCons (mB fAbs (mCons (mVar 2) mNil)) mNil)) (m2 fPow (m2 fPow (mC (.int 10)) (mC (.int 60))) (mC (.int 5)))) (mB fInt (mCons (m2 (obl fGe) (mB fAbs (mCons (mVar 2) mNil)) (m2 fPow (mC (.int 10)) (mC (.int 18)))) mNil)))) (sSeq (sSet 4 (m2 fAdd (m2 fAdd (m2 fMul (m2 fMod (mB fInt (mCons (mVar 2) mNil)) (mC (.int 2305843009213693951))) (mC (.int 64879))) (m2 fMul (m2 fMul (mC (.int 7873)) (mVar 1)) (mVar 1))) (mC (.int 67)))) (sRet (mLstM (mCons (mVar 3) (mCons (m2 fMod (mB fInt (mCons (mVar 4) mNil)) (mC (.int 2305843009213693921))) (mCons (mC (.int 0)) mNil))))))))
def f_law_jar : List D → J → R D := defOf n_law_jar 2 b_law_jar
theorem h_law_jar {f : Addr} {fd : FuncData} (T : TT fa ex fn sf mg K) (F : FunD K (dd "_law_jar" 34).name (dd "_law_jar" 34).qual (dd "_law_jar" 34).params (dd "_law_jar" 34).body (dd "_law_jar" 34).scope ((dd "_law_jar" 34).dvs K) ((dd "_law_jar" 34).kws K) f fd) : FnG PR w K mg base (L2.CX PR w) 2 f fd ["_law_script", "_law_k"] (spG (cb K) f_law_jar) := by
  refine okG (C := cb K) (k := 1) F sc_law_jar (m := b_law_jar) (fun cdv A outer s H Ct E hC hr hgd => ?_)
  obtain ⟨b, H0, ρ0, J0, O0, slf⟩ := Ct
  cases hC
  exact (mb_cons (ms_set (i := 2) sc_law_jar.nd rfl (by first | exact Or.inl rfl | exact Or.inr rfl) (me_if (mt_cmp op_ltU od_lt (mv 1) (me_callB call_len cd_len rfl (T.free 1) (by decide +kernel) (ma_cons (mv 0) ma_nil)) (nomark _)) (me_ix ix_seq od_ix (mv 0) (mv 1)) (me_op op_addU od_add (me_op op_mulU od_mul me_int (mv 1)) me_int))) (mb_cons (ms_set (i := 3) sc_law_jar.nd rfl (by first | exact Or.inl rfl | exact Or.inr rfl) (me_op op_mulU od_mul (me_op op_mod od_mod (me_callTy call_int1 cd_int rfl (T.free 3) (by decide +kernel) (ma_cons (me_callB call_abs cd_abs rfl (T.free 2) (by decide +kernel) (ma_cons (mv 2) ma_nil)) ma_nil)) (me_op op_powW od_pow (me_op op_powW od_pow me_int me_int) me_int)) (me_callTy call_int1 cd_int rfl (T.free 3) (by decide +kernel) (ma_cons (me_cmp op_ge od_icmp (me_callB call_abs cd_abs rfl (T.free 2) (by decide +kernel) (ma_cons (mv 2) ma_nil)) (me_op op_powW od_pow me_int me_int) (nomark _)) ma_nil)))) (mb_cons (ms_set (i := 4) sc_law_jar.nd rfl (by first | exact Or.inl rfl | exact Or.inr rfl) (me_op op_addU od_add (me_op op_addU od_add (me_op op_mulU od_mul (me_op op_mod od_mod (me_callTy call_int1 cd_int rfl (T.free 3) (by decide +kernel) (ma_cons (mv 2) ma_nil)) me_int) me_int) (me_op op_mulU od_mul (me_op op_mulU od_mul me_int (mv 1)) (mv 1))) me_int)) (mb_one (ms_ret (me_lstM (ma_cons (mv 3) (ma_cons (me_op op_mod od_mod (me_callTy call_int1 cd_int rfl (T.free 3) (by decide +kernel) (ma_cons (mv 4) ma_nil)) me_int) (ma_cons me_int ma_nil)))))))))
theorem g_law_jar (T : TT fa ex fn sf mg K) : Gd PR w (cb K) mg base 2 "_law_jar" (spG (cb K) f_law_jar) := by
  obtain ⟨fd, F⟩ := T.def_ 0 (d := dd "_law_jar" 34)
  exact ⟨_, fd, ["_law_script", "_law_k"], h_law_jar T F, T.glo 0, F.kp, FunD.bindsN (ps := ["_law_script", "_law_k"]) F fun _ _ _ _ _ _ us hl => match us, hl with | [_, _], _ => rfl⟩
abbrev n_law_take : List Str := ["_law_jar_here", "_law_many", "_law_digit", "_law_big", "_law_more"]
theorem sc_law_take : FnScope n_law_take ["_law_jar_here", "_law_many"] (defScope (top 35)) := ⟨rfl, rfl, rfl, by decide +kernel, rfl, by decide +kernel, by decide +kernel⟩
def b_law_take : Gm → J → RS :=
  (sSeq (sIf (t2 fGt (m2 fIx (mVar 0) (mC (.int 0))) (mC (.int 0))) (sSeq (sSet 2 (m2 fMod (mB fInt (mCons (m2 fIx (mVar 0) (mC (.int 0))) mNil)) (mVar 1))) (sSeq (sPut 0 (mC (.int 0)) (m2 fDiv (m2 fIx (mVar 0) (mC (.int 0))) (mVar 1))) (sRet (mVar 2)))) sNil) (sSeq (sPut 0 (mC (.int 2)) (m2 fAdd (m2 fIx (mVar 0) (mC (.int 2))) (mC (.int 1)))) (sSeq (sSet 3 (m2 fMod (mB fInt (mCons (m2 fMul (m2 fAdd (m2 fAdd (m2 fIx (mVar 0) (mC (.int 1))) (m2 fMul (m2 fMul (mC (.int 65519)) (m2 fIx (mVar 0) (mC (.int 2)))) (m2 fIx (mVar 0) (mC (.int 2))))) (mC (.int 47))) (mC (.int 48271))) mNil)) (mC (.int 2305843009213693921)))) (sSeq (sSet 4 (m2 fAdd (m2 fMod (mB fInt (mCons (mVar 3) mNil)) (mC (.int 1000003))) (m2 fMul (mC (.int 99989)) (m2 fIx (mVar 0) (mC (.int 2)))))) (sSeq (sSet 3 (m2 fMod (mB fInt (mCons (m2 fMul (mVar 3) (mVar 4)) mNil)) (mC (.int 2305843009213693907)))) (sRet (m2 fMod (mB fInt (mCons (m2 fAdd (m2 fDiv (mVar 3) (mC (.int 127))) (m2 fDiv (mVar 3) (mC (.int 1000033)))) mNil)) (mVar 1))))))))
def f_law_take : List D → J → R D := defOf n_law_take 2 b_law_take
theorem h_law_take {f : Addr} {fd : FuncData} (T : TT fa ex fn sf mg K) (F : FunD K (dd "_law_take" 35).name (dd "_law_take" 35).qual (dd "_law_take" 35).params (dd "_law_take" 35).body (dd "_law_take" 35).scope ((dd "_law_take" 35).dvs K) ((dd "_law_take" 35).kws K) f fd) : FnG PR w K mg base (L2.CX PR w) 2 f fd ["_law_jar_here", "_law_many"] (spG (cb K) f_law_take) := by
  refine okG (C := cb K) (k := 1) F sc_law_take (m := b_law_take) (fun cdv A outer s H Ct E hC hr hgd => ?_)
  obtain ⟨b, H0, ρ0, J0, O0, slf⟩ := Ct
  cases hC
  exact (mb_cons (ms_if (mt_cmp op_gt od_icmp (me_ix ix_seq od_ix (mv 0) me_int) me_int (nomark _)) (mb_cons (ms_set (i := 2) sc_law_take.nd rfl (by first | exact Or.inl rfl | exact Or.inr rfl) (me_op op_mod od_mod (me_callTy call_int1 cd_int rfl (T.free 3) (by decide +kernel) (ma_cons (me_ix ix_seq od_ix (mv 0) me_int) ma_nil)) (mv 1))) (mb_cons (ms_put (i := 0) (pv 0) me_int (me_op op_fdivW od_div (me_ix ix_seq od_ix (mv 0) me_int) (mv 1))) (mb_one (ms_ret (mv 2))))) mb_nil) (mb_cons (ms_put (i := 0) (pv 0) me_int (me_op op_addU od_add (me_ix ix_seq od_ix (mv 0) me_int) me_int)) (mb_cons (ms_set (i := 3) sc_law_take.nd rfl (by first | exact Or.inl rfl | exact Or.inr rfl) (me_op op_mod od_mod (me_callTy call_int1 cd_int rfl (T.free 3) (by decide +kernel) (ma_cons (me_op op_mulU od_mul (me_op op_addU od_add (me_op op_addU od_add (me_ix ix_seq od_ix (mv 0) me_int) (me_op op_mulU od_mul (me_op op_mulU od_mul me_int (me_ix ix_seq od_ix (mv 0) me_int)) (me_ix ix_seq od_ix (mv 0) me_int))) me_int) me_int) ma_nil)) me_int)) (mb_cons (ms_set (i := 4) sc_law_take.nd rfl (by first | exact Or.inl rfl | exact Or.inr rfl) (me_op op_addU od_add (me_op op_mod od_mod (me_callTy call_int1 cd_int rfl (T.free 3) (by decide +kernel) (ma_cons (mv 3) ma_nil)) me_int) (me_op op_mulU od_mul me_int (me_ix ix_seq od_ix (mv 0) me_int)))) (mb_cons (ms_set (i := 3) sc_law_take.nd rfl (by first | exact Or.inl rfl | exact Or.inr rfl) (me_op op_mod od_mod (me_callTy call_int1 cd_int rfl (T.free 3) (by decide +kernel) (ma_cons (me_op op_mulU od_mul (mv 3) (mv 4)) ma_nil)) me_int)) (mb_one (ms_ret (me_op op_mod od_mod (me_callTy call_int1 cd_int rfl (T.free 3) (by decide +kernel) (ma_cons (me_op op_addU od_add (me_op op_fdivW od_div (mv 3) me_int) (me_op op_fdivW od_div (mv 3) me_int)) ma_nil)) (mv 1)))))))))
theorem g_law_take (T : TT fa ex fn sf mg K) : Gd PR w (cb K) mg base 2 "_law_take" (spG (cb K) f_law_take) := by
  obtain ⟨fd, F⟩ := T.def_ 1 (d := dd "_law_take" 35)
  exact ⟨_, fd, ["_law_jar_here", "_law_many"], h_law_take T F, T.glo 4, F.kp, FunD.bindsN (ps := ["_law_jar_here", "_law_many"]) F fun _ _ _ _ _ _ us hl => match us, hl with | [_, _], _ => rfl⟩
abbrev n_law_of : List Str := ["_law_jar_here", "_law_some"]
theorem sc_law_of : FnScope n_law_of ["_law_jar_here", "_law_some"] (defScope (top 36)) := ⟨rfl, rfl, rfl, by decide +kernel, rfl, by decide +kernel, by decide +kernel⟩
def b_law_of : Gm → J → RS :=
  (sRet (m2 fIx (mVar 1) (mF f_law_take (mCons (mVar 0) (mCons (mB fLen (mCons (mVar 1) mNil)) mNil)))))
def f_law_of : List D → J → R D := defOf n_law_of 2 b_law_of
theorem h_law_of {f : Addr} {fd : FuncData} (T : TT fa ex fn sf mg K) (F : FunD K (dd "_law_of" 36).name (dd "_law_of" 36).qual (dd "_law_of" 36).params (dd "_law_of" 36).body (dd "_law_of" 36).scope ((dd "_law_of" 36).dvs K) ((dd "_law_of" 36).kws K) f fd) : FnG PR w K mg base (L2.CX PR w) 3 f fd ["_law_jar_here", "_law_some"] (spG (cb K) f_law_of) := by
  refine okG (C := cb K) (k := 2) F sc_law_of (m := b_law_of) (fun cdv A outer s H Ct E hC hr hgd => ?_)
  obtain ⟨b, H0, ρ0, J0, O0, slf⟩ := Ct
  cases hC
  exact (mb_one (ms_ret (me_ix ix_seq od_ix (mv 1) (me_gcall (takes_of rfl rfl rfl rfl) (g_law_take T) rfl (hr.mono (by decide : 2 ≤ 2)) hgd rfl (ma_cons (mv 0) (ma_cons (me_callB call_len cd_len rfl (T.free 1) (by decide +kernel) (ma_cons (mv 1) ma_nil)) ma_nil))))))
theorem g_law_of (T : TT fa ex fn sf mg K) : Gd PR w (cb K) mg base 3 "_law_of" (spG (cb K) f_law_of) := by
  obtain ⟨fd, F⟩ := T.def_ 2 (d := dd "_law_of" 36)
  exact ⟨_, fd, ["_law_jar_here", "_law_some"], h_law_of T F, T.glo 5, F.kp, FunD.bindsN (ps := ["_law_jar_here", "_law_some"]) F fun _ _ _ _ _ _ us hl => match us, hl with | [_, _], _ => rfl⟩
abbrev n_law_value : List Str := ["_law_jar_here", "_law_deep", "_law_way", "_law_some", "_law_turn"]
theorem sc_law_value : FnScope n_law_value ["_law_jar_here", "_law_deep"] (defScope (top 37)) := ⟨rfl, rfl, rfl, by decide +kernel, rfl, by decide +kernel, by decide +kernel⟩
def b_law_value (f_law_value : List D → J → R D) : Gm → J → RS :=
  (sSeq (sSet 2 (mF f_law_take (mCons (mVar 0) (mCons (mIf (t2 fGt (mVar 1) (mC (.int 0))) (mC (.int 9)) (mC (.int 7))) mNil)))) (sSeq (sIf (t2 fLt (mVar 2) (mC (.int 3))) (sRet (m2 fIx (mLst (mCons (mF f_law_take (mCons (mVar 0) (mCons (mC (.int 1000)) mNil))) (mCons (m1 fNeg (mF f_law_take (mCons (mVar 0) (mCons (mC (.int 10)) mNil)))) (mCons (mF f_law_take (mCons (mVar 0) (mCons (mC (.int 999999999999999999)) mNil))) mNil)))) (mVar 2))) sNil) (sSeq (sIf (t2 fLt (mVar 2) (mC (.int 7))) (sRet (m2 fIx (mLst (mCons (mC .non) (mCons (m2 (obl eqD) (mF f_law_take (mCons (mVar 0) (mCons (mC (.int 2)) mNil))) (mC (.int 1))) (mCons (mF f_law_of (mCons (mVar 0) (mCons (mLst (mCons (mC (.str "")) (mCons (mC (.str "a")) (mCons (mC (.str "falls")) (mCons (mC (.str " ")) mNil))))) mNil))) (mCons mDict0 mNil))))) (m2 fSub (mVar 2) (mC (.int 3))))) sNil) (sSeq (sSet 3 (mLc (iR rng1 (mCons (mF f_law_take (mCons (mVar 0) (mCons (mC (.int 4)) mNil))) mNil)) (gN 4) tT (mF f_law_value (mCons (mVar 0) (mCons (m2 fSub (mVar 1) (mC (.int 1))) mNil))) (([("_law_turn", 4)] : List (Str × Nat)).map (·.2)))) (sRet (mIf (t2 eqD (mVar 2) (mC (.int 7))) (mB fTuple (mCons (mVar 3) mNil)) (mVar 3)))))))
def f_law_value : Nat → List D → J → R D
  | 0 => fun _ _ => .bad
  | n + 1 => defOf n_law_value 2 (b_law_value (f_law_value n))
theorem g_law_value (T : TT fa ex fn sf mg K) : ∀ n, Gd PR w (cb K) mg base (n + 3) "_law_value" (spG (cb K) (f_law_value n))
  | 0 => by
    obtain ⟨fd, F⟩ := T.def_ 3 (d := dd "_law_value" 37)
    exact ⟨_, fd, ["_law_jar_here", "_law_deep"], FnG.none spG_bad, T.glo 6, F.kp, FunD.bindsN (ps := ["_law_jar_here", "_law_deep"]) F fun _ _ _ _ _ _ us hl => match us, hl with | [_, _], _ => rfl⟩
  | n + 1 => by
    have ih := g_law_value T n
    obtain ⟨fd, F⟩ := T.def_ 3 (d := dd "_law_value" 37)
    refine ⟨_, fd, ["_law_jar_here", "_law_deep"], (okG (k := n + 3) F sc_law_value (m := b_law_value (f_law_value n)) (fun cdv A outer s H Ct E hC hr hgd => ?_)).mono (by omega), T.glo 6, F.kp, FunD.bindsN (ps := ["_law_jar_here", "_law_deep"]) F fun _ _ _ _ _ _ us hl => match us, hl with | [_, _], _ => rfl⟩
    obtain ⟨b, H0, ρ0, J0, O0, slf⟩ := Ct
    cases hC
    exact (mb_cons (ms_set (i := 2) sc_law_value.nd rfl (by first | exact Or.inl rfl | exact Or.inr rfl) (me_gcall (takes_of rfl rfl rfl rfl) (g_law_take T) rfl (hr.mono (by omega : 2 ≤ n + 3)) hgd rfl (ma_cons (mv 0) (ma_cons (me_if (mt_cmp op_gt od_icmp (mv 1) me_int (nomark _)) me_int me_int) ma_nil)))) (mb_cons (ms_if (mt_cmp op_ltU od_lt (mv 2) me_int (nomark _)) (mb_one (ms_ret (me_ix ix_seq od_ix (me_lst (ma_cons (me_gcall (takes_of rfl rfl rfl rfl) (g_law_take T) rfl (hr.mono (by omega : 2 ≤ n + 3)) hgd rfl (ma_cons (mv 0) (ma_cons me_int ma_nil))) (ma_cons (me_un un_neg ud_neg (me_gcall (takes_of rfl rfl rfl rfl) (g_law_take T) rfl (hr.mono (by omega : 2 ≤ n + 3)) hgd rfl (ma_cons (mv 0) (ma_cons me_int ma_nil)))) (ma_cons (me_gcall (takes_of rfl rfl rfl rfl) (g_law_take T) rfl (hr.mono (by omega : 2 ≤ n + 3)) hgd rfl (ma_cons (mv 0) (ma_cons me_int ma_nil))) ma_nil)))) (mv 2)))) mb_nil) (mb_cons (ms_if (mt_cmp op_ltU od_lt (mv 2) me_int (nomark _)) (mb_one (ms_ret (me_ix ix_seq od_ix (me_lst (ma_cons me_non (ma_cons (me_cmp (op_eqU hr.units) od_eq (me_gcall (takes_of rfl rfl rfl rfl) (g_law_take T) rfl (hr.mono (by omega : 2 ≤ n + 3)) hgd rfl (ma_cons (mv 0) (ma_cons me_int ma_nil))) me_int (nomark _)) (ma_cons (me_gcall (takes_of rfl rfl rfl rfl) (g_law_of T) rfl (hr.mono (by omega : 3 ≤ n + 3)) hgd rfl (ma_cons (mv 0) (ma_cons (me_lst (ma_cons me_str (ma_cons me_str (ma_cons me_str (ma_cons me_str ma_nil))))) ma_nil))) (ma_cons me_dict0 ma_nil))))) (me_op op_sub od_sub (mv 2) me_int)))) mb_nil) (mb_cons (ms_setLc (i := 3) rfl sc_law_value.nd rfl rfl (sw_true rfl rfl rfl (by decide +kernel)) (mi_range1 rfl (T.free 7) (ma_cons (me_gcall (takes_of rfl rfl rfl rfl) (g_law_take T) rfl (hr.mono (by omega : 2 ≤ n + 3)) hgd rfl (ma_cons (mv 0) (ma_cons me_int ma_nil))) ma_nil)) (blkOk_by (own := [("_law_turn", 4)]) (by show blkC n_law_value (defScope (top 37)) _ _ = true; decide +kernel)) (fun _ _ _ _ _ => (mg_name (i := 4) sc_law_value.nd rfl (by first | exact Or.inl rfl | exact Or.inr rfl))) (fun _ _ _ _ _ => mts_nil) (fun _ _ _ _ _ => (me_gcall takes0 ih rfl (hr.mono (by omega)) hgd rfl (ma_cons (mv 0) (ma_cons (me_op op_sub od_sub (mv 1) me_int) ma_nil)))) (by decide)) (mb_one (ms_ret (me_if (mt_cmp (op_eqU hr.units) od_eq (mv 2) me_int (nomark _)) (me_callTy call_tuple_of cd_tuple rfl (T.free 8) (by decide +kernel) (ma_cons (mv 3) ma_nil)) (mv 3))))))))
abbrev n_law_made : List Str := ["_law_thing", "_law_found"]
theorem sc_law_made : FnScope n_law_made ["_law_thing"] (defScope (top 38)) := ⟨rfl, rfl, rfl, by decide +kernel, rfl, by decide +kernel, by decide +kernel⟩
def b_law_made : Gm → J → RS :=
  (sSeq (sOwn 1 (mCons (mX 22 (mVar 0)) (mCons (mX 2 (mVar 0)) (mCons (mX 7 (mVar 0)) (mCons (mX 16 (mVar 0)) (mCons (mX 1 (mVar 0)) (mCons (mX 31 (mVar 0)) mNil))))))) (sSeq (sExt 1 (mLst (mCons (mX 30 (mVar 0)) (mCons (mX 11 (mVar 0)) (mCons (mX 5 (mVar 0)) (mCons (mX 9 (mVar 0)) (mCons (mX 14 (mVar 0)) mNil))))))) (sSeq (sExt 1 (mLst (mCons (mX 21 (mVar 0)) (mCons (mX 3 (mVar 0)) (mCons (mX 18 (mVar 0)) (mCons (mX 15 (mVar 0)) (mCons (mX 17 (mVar 0)) (mCons (mX 4 (mVar 0)) mNil)))))))) (sSeq (sExt 1 (mLst (mCons (mX 19 (mVar 0)) (mCons (mX 20 (mVar 0)) (mCons (mX 10 (mVar 0)) (mCons (mX 13 (mVar 0)) (mCons (mX 12 (mVar 0)) (mCons (mX 24 (mVar 0)) mNil)))))))) (sSeq (sExt 1 (mLst (mCons (mX 26 (mVar 0)) (mCons (mX 28 (mVar 0)) (mCons (mX 27 (mVar 0)) (mCons (mX 29 (mVar 0)) (mCons (mX 8 (mVar 0)) mNil))))))) (fun Γ j => (sRet (m2 fAdd (mVar 1) (mLst (mCons (mX2 25 (mCons (mVar 0) (mCons (mTup (mCons (mVar 0) (mCons (mC (.int 1)) mNil))) mNil))) (mCons (mX 23 (mVar 0)) (mCons (mX 6 (mVar 0)) mNil)))))) (frzG 1 Γ) j))))))
def f_law_made : List D → J → R D := defOf n_law_made 1 b_law_made
theorem h_law_made {f : Addr} {fd : FuncData} (T : TT fa ex fn sf mg K) (F : FunD K (dd "_law_made" 38).name (dd "_law_made" 38).qual (dd "_law_made" 38).params (dd "_law_made" 38).body (dd "_law_made" 38).scope ((dd "_law_made" 38).dvs K) ((dd "_law_made" 38).kws K) f fd) : FnG PR w K mg base (L2.CX PR w) 3 f fd ["_law_thing"] (spG (cb K) f_law_made) := by
  refine okG (C := cb K) (k := 2) F sc_law_made (m := b_law_made) (fun cdv A outer s H Ct E hC hr hgd => ?_)
  obtain ⟨b, H0, ρ0, J0, O0, slf⟩ := Ct
  cases hC
  exact (mb_cons (ms_own (i := 1) sc_law_made.nd rfl (by first | exact Or.inl rfl | exact Or.inr rfl) (ma_cons (me_exn (fe T) (fek T 22 (by decide)) (hr.mono (by decide : 1 ≤ 2)) rfl (T.glo 10) (mv 0)) (ma_cons (me_exn (fe T) (fek T 2 (by decide)) (hr.mono (by decide : 1 ≤ 2)) rfl (T.glo 11) (mv 0)) (ma_cons (me_exn (fe T) (fek T 7 (by decide)) (hr.mono (by decide : 1 ≤ 2)) rfl (T.glo 12) (mv 0)) (ma_cons (me_exn (fe T) (fek T 16 (by decide)) (hr.mono (by decide : 1 ≤ 2)) rfl (T.glo 13) (mv 0)) (ma_cons (me_exn (fe T) (fek T 1 (by decide)) (hr.mono (by decide : 1 ≤ 2)) rfl (T.glo 14) (mv 0)) (ma_cons (me_exn (fe T) (fek T 31 (by decide)) (hr.mono (by decide : 1 ≤ 2)) rfl (T.glo 15) (mv 0)) ma_nil))))))) (mb_cons (ms_ext (i := 1) rfl (pv 1) (me_lst (ma_cons (me_exn (fe T) (fek T 30 (by decide)) (hr.mono (by decide : 1 ≤ 2)) rfl (T.glo 16) (mv 0)) (ma_cons (me_exn (fe T) (fek T 11 (by decide)) (hr.mono (by decide : 1 ≤ 2)) rfl (T.glo 17) (mv 0)) (ma_cons (me_exn (fe T) (fek T 5 (by decide)) (hr.mono (by decide : 1 ≤ 2)) rfl (T.glo 18) (mv 0)) (ma_cons (me_exn (fe T) (fek T 9 (by decide)) (hr.mono (by decide : 1 ≤ 2)) rfl (T.glo 19) (mv 0)) (ma_cons (me_exn (fe T) (fek T 14 (by decide)) (hr.mono (by decide : 1 ≤ 2)) rfl (T.glo 20) (mv 0)) ma_nil))))))) (mb_cons (ms_ext (i := 1) rfl (pv 1) (me_lst (ma_cons (me_exn (fe T) (fek T 21 (by decide)) (hr.mono (by decide : 1 ≤ 2)) rfl (T.glo 21) (mv 0)) (ma_cons (me_exn (fe T) (fek T 3 (by decide)) (hr.mono (by decide : 1 ≤ 2)) rfl (T.glo 22) (mv 0)) (ma_cons (me_exn (fe T) (fek T 18 (by decide)) (hr.mono (by decide : 1 ≤ 2)) rfl (T.glo 23) (mv 0)) (ma_cons (me_exn (fe T) (fek T 15 (by decide)) (hr.mono (by decide : 1 ≤ 2)) rfl (T.glo 24) (mv 0)) (ma_cons (me_exn (fe T) (fek T 17 (by decide)) (hr.mono (by decide : 1 ≤ 2)) rfl (T.glo 25) (mv 0)) (ma_cons (me_exn (fe T) (fek T 4 (by decide)) (hr.mono (by decide : 1 ≤ 2)) rfl (T.glo 26) (mv 0)) ma_nil)))))))) (mb_cons (ms_ext (i := 1) rfl (pv 1) (me_lst (ma_cons (me_exn (fe T) (fek T 19 (by decide)) (hr.mono (by decide : 1 ≤ 2)) rfl (T.glo 27) (mv 0)) (ma_cons (me_exn (fe T) (fek T 20 (by decide)) (hr.mono (by decide : 1 ≤ 2)) rfl (T.glo 28) (mv 0)) (ma_cons (me_exn (fe T) (fek T 10 (by decide)) (hr.mono (by decide : 1 ≤ 2)) rfl (T.glo 29) (mv 0)) (ma_cons (me_exn (fe T) (fek T 13 (by decide)) (hr.mono (by decide : 1 ≤ 2)) rfl (T.glo 30) (mv 0)) (ma_cons (me_exn (fe T) (fek T 12 (by decide)) (hr.mono (by decide : 1 ≤ 2)) rfl (T.glo 31) (mv 0)) (ma_cons (me_exn (fe T) (fek T 24 (by decide)) (hr.mono (by decide : 1 ≤ 2)) rfl (T.glo 32) (mv 0)) ma_nil)))))))) (mb_cons (ms_ext (i := 1) rfl (pv 1) (me_lst (ma_cons (me_exn (fe T) (fek T 26 (by decide)) (hr.mono (by decide : 1 ≤ 2)) rfl (T.glo 33) (mv 0)) (ma_cons (me_exn (fe T) (fek T 28 (by decide)) (hr.mono (by decide : 1 ≤ 2)) rfl (T.glo 34) (mv 0)) (ma_cons (me_exn (fe T) (fek T 27 (by decide)) (hr.mono (by decide : 1 ≤ 2)) rfl (T.glo 35) (mv 0)) (ma_cons (me_exn (fe T) (fek T 29 (by decide)) (hr.mono (by decide : 1 ≤ 2)) rfl (T.glo 36) (mv 0)) (ma_cons (me_exn (fe T) (fek T 8 (by decide)) (hr.mono (by decide : 1 ≤ 2)) rfl (T.glo 37) (mv 0)) ma_nil))))))) (mb_freeze 1 (mb_one (ms_ret (me_op op_addU od_add (mv 1) (me_lst (ma_cons (me_exn2 (rf T) (hr.mono (by decide : 2 ≤ 2)) rfl (T.glo 38) (ma_cons (mv 0) (ma_cons (me_tup (ma_cons (mv 0) (ma_cons me_int ma_nil))) ma_nil))) (ma_cons (me_exn (fe T) (fek T 23 (by decide)) (hr.mono (by decide : 1 ≤ 2)) rfl (T.glo 39) (mv 0)) (ma_cons (me_exn (fe T) (fek T 6 (by decide)) (hr.mono (by decide : 1 ≤ 2)) rfl (T.glo 40) (mv 0)) ma_nil)))))))))))))
theorem g_law_made (T : TT fa ex fn sf mg K) : Gd PR w (cb K) mg base 3 "_law_made" (spG (cb K) f_law_made) := by
  obtain ⟨fd, F⟩ := T.def_ 4 (d := dd "_law_made" 38)
  exact ⟨_, fd, ["_law_thing"], h_law_made T F, T.glo 9, F.kp, FunD.bindsN (ps := ["_law_thing"]) F fun _ _ _ _ _ _ us hl => match us, hl with | [_], _ => rfl⟩
abbrev n_law_kinds : List Str := ["_law_error", "_law_found"]
theorem sc_law_kinds : FnScope n_law_kinds ["_law_error"] (defScope (top 39)) := ⟨rfl, rfl, rfl, by decide +kernel, rfl, by decide +kernel, by decide +kernel⟩
def b_law_kinds : Gm → J → RS :=
  (sSeq (sOwn 1 (mCons (m1 (fun d => (isiD (tyLk ty_BadBranch) (owLk 32 ow_BadBranch) (owLk 0 ox_BadBranch) d).map .bl) (mVar 0)) (mCons (m1 (fun d => (isiD (tyLk ty_BadCell) (owLk 32 ow_BadCell) (owLk 0 ox_BadCell) d).map .bl) (mVar 0)) (mCons (m1 (fun d => (isiD (tyLk ty_BadCounts) (owLk 32 ow_BadCounts) (owLk 0 ox_BadCounts) d).map .bl) (mVar 0)) mNil)))) (sSeq (sExt 1 (mLst (mCons (m1 (fun d => (isiD (tyLk ty_BadDeed) (owLk 32 ow_BadDeed) (owLk 0 ox_BadDeed) d).map .bl) (mVar 0)) (mCons (m1 (fun d => (isiD (tyLk ty_BadLayout) (owLk 32 ow_BadLayout) (owLk 0 ox_BadLayout) d).map .bl) (mVar 0)) (mCons (m1 (fun d => (isiD (tyLk ty_BadLine) (owLk 32 ow_BadLine) (owLk 0 ox_BadLine) d).map .bl) (mVar 0)) mNil))))) (sSeq (sExt 1 (mLst (mCons (m1 (fun d => (isiD (tyLk ty_BadLines) (owLk 32 ow_BadLines) (owLk 0 ox_BadLines) d).map .bl) (mVar 0)) (mCons (m1 (fun d => (isiD (tyLk ty_BadMerge) (owLk 32 ow_BadMerge) (owLk 0 ox_BadMerge) d).map .bl) (mVar 0)) (mCons (m1 (fun d => (isiD (tyLk ty_BadNumber) (owLk 32 ow_BadNumber) (owLk 0 ox_BadNumber) d).map .bl) (mVar 0)) mNil))))) (sSeq (sExt 1 (mLst (mCons (m1 (fun d => (isiD (tyLk ty_BadPicks) (owLk 32 ow_BadPicks) (owLk 0 ox_BadPicks) d).map .bl) (mVar 0)) (mCons (m1 (fun d => (isiD (tyLk ty_BadPolicy) (owLk 32 ow_BadPolicy) (owLk 0 ox_BadPolicy) d).map .bl) (mVar 0)) (mCons (m1 (fun d => (isiD (tyLk ty_BadPrices) (owLk 32 ow_BadPrices) (owLk 0 ox_BadPrices) d).map .bl) (mVar 0)) mNil))))) (sSeq (sExt 1 (mLst (mCons (m1 (fun d => (isiD (tyLk ty_BadRows) (owLk 32 ow_BadRows) (owLk 0 ox_BadRows) d).map .bl) (mVar 0)) (mCons (m1 (fun d => (isiD (tyLk ty_BadSide) (owLk 32 ow_BadSide) (owLk 0 ox_BadSide) d).map .bl) (mVar 0)) (mCons (m1 (fun d => (isiD (tyLk ty_BadStand) (owLk 32 ow_BadStand) (owLk 0 ox_BadStand) d).map .bl) (mVar 0)) mNil))))) (sSeq (sExt 1 (mLst (mCons (m1 (fun d => (isiD (tyLk ty_BadStory) (owLk 32 ow_BadStory) (owLk 0 ox_BadStory) d).map .bl) (mVar 0)) (mCons (m1 (fun d => (isiD (tyLk ty_BadText) (owLk 32 ow_BadText) (owLk 0 ox_BadText) d).map .bl) (mVar 0)) (mCons (m1 (fun d => (isiD (tyLk ty_BadWish) (owLk 32 ow_BadWish) (owLk 0 ox_BadWish) d).map .bl) (mVar 0)) mNil))))) (sSeq (sExt 1 (mLst (mCons (m1 (fun d => (isiD (tyLk ty_BadWishes) (owLk 32 ow_BadWishes) (owLk 0 ox_BadWishes) d).map .bl) (mVar 0)) (mCons (m1 (fun d => (isiD (tyLk ty_BadWord) (owLk 32 ow_BadWord) (owLk 0 ox_BadWord) d).map .bl) (mVar 0)) (mCons (m1 (fun d => (isiD (tyLk ty_BadWorld) (owLk 32 ow_BadWorld) (owLk 0 ox_BadWorld) d).map .bl) (mVar 0)) mNil))))) (sSeq (sExt 1 (mLst (mCons (m1 (fun d => (isiD (tyLk ty_Conflict) (owLk 32 ow_Conflict) (owLk 0 ox_Conflict) d).map .bl) (mVar 0)) (mCons (m1 (fun d => (isiD (tyLk ty_Idle) (owLk 32 ow_Idle) (owLk 0 ox_Idle) d).map .bl) (mVar 0)) (mCons (m1 (fun d => (isiD (tyLk ty_NoLine) (owLk 32 ow_NoLine) (owLk 0 ox_NoLine) d).map .bl) (mVar 0)) mNil))))) (sSeq (sExt 1 (mLst (mCons (m1 (fun d => (isiD (tyLk ty_NothingToRedo) (owLk 32 ow_NothingToRedo) (owLk 0 ox_NothingToRedo) d).map .bl) (mVar 0)) (mCons (m1 (fun d => (isiD (tyLk ty_NothingToUndo) (owLk 32 ow_NothingToUndo) (owLk 0 ox_NothingToUndo) d).map .bl) (mVar 0)) (mCons (m1 (fun d => (isiD (tyLk ty_NoTrial) (owLk 32 ow_NoTrial) (owLk 0 ox_NoTrial) d).map .bl) (mVar 0)) mNil))))) (sSeq (sExt 1 (mLst (mCons (m1 (fun d => (isiD (tyLk ty_NotLet) (owLk 32 ow_NotLet) (owLk 0 ox_NotLet) d).map .bl) (mVar 0)) (mCons (m1 (fun d => (isiD (tyLk ty_Refused) (owLk 32 ow_Refused) (owLk 0 ox_Refused) d).map .bl) (mVar 0)) (mCons (m1 (fun d => (isiD (tyLk ty_TooMany) (owLk 32 ow_TooMany) (owLk 0 ox_TooMany) d).map .bl) (mVar 0)) mNil))))) (fun Γ j => (sRet (m2 fAdd (mVar 1) (mLst (mCons (m1 (fun d => (isiD (tyLk ty_UnlikeLayouts) (owLk 32 ow_UnlikeLayouts) (owLk 0 ox_UnlikeLayouts) d).map .bl) (mVar 0)) mNil)))) (frzG 1 Γ) j)))))))))))
def f_law_kinds : List D → J → R D := defOf n_law_kinds 1 b_law_kinds
theorem h_law_kinds {f : Addr} {fd : FuncData} (T : TT fa ex fn sf mg K) (F : FunD K (dd "_law_kinds" 39).name (dd "_law_kinds" 39).qual (dd "_law_kinds" 39).params (dd "_law_kinds" 39).body (dd "_law_kinds" 39).scope ((dd "_law_kinds" 39).dvs K) ((dd "_law_kinds" 39).kws K) f fd) : FnG PR w K mg base (L2.CX PR w) 2 f fd ["_law_error"] (spG (cb K) f_law_kinds) := by
  refine okG (C := cb K) (k := 1) F sc_law_kinds (m := b_law_kinds) (fun cdv A outer s H Ct E hC hr hgd => ?_)
  obtain ⟨b, H0, ρ0, J0, O0, slf⟩ := Ct
  cases hC
  exact (mb_cons (ms_own (i := 1) sc_law_kinds.nd rfl (by first | exact Or.inl rfl | exact Or.inr rfl) (ma_cons (me_isi rfl rfl (T.free 42) (pe_glob (v := .ref (cmK K 22)) rfl (T.glo 10) rfl) (.own _) (isiB_ok (T.exs 8)) (fun n b e => by simp [owLk] at e) (ox_ok (T.exs 9) (T.exs 10)) (mv 0)) (ma_cons (me_isi rfl rfl (T.free 42) (pe_glob (v := .ref (cmK K 2)) rfl (T.glo 11) rfl) (.own _) (isiB_ok (T.exs 11)) (fun n b e => by simp [owLk] at e) (ox_ok (T.exs 9) (T.exs 12)) (mv 0)) (ma_cons (me_isi rfl rfl (T.free 42) (pe_glob (v := .ref (cmK K 7)) rfl (T.glo 12) rfl) (.own _) (isiB_ok (T.exs 13)) (fun n b e => by simp [owLk] at e) (ox_ok (T.exs 9) (T.exs 14)) (mv 0)) ma_nil)))) (mb_cons (ms_ext (i := 1) rfl (pv 1) (me_lst (ma_cons (me_isi rfl rfl (T.free 42) (pe_glob (v := .ref (cmK K 16)) rfl (T.glo 13) rfl) (.own _) (isiB_ok (T.exs 15)) (fun n b e => by simp [owLk] at e) (ox_ok (T.exs 9) (T.exs 16)) (mv 0)) (ma_cons (me_isi rfl rfl (T.free 42) (pe_glob (v := .ref (cmK K 1)) rfl (T.glo 14) rfl) (.own _) (isiB_ok (T.exs 17)) (fun n b e => by simp [owLk] at e) (ox_ok (T.exs 9) (T.exs 18)) (mv 0)) (ma_cons (me_isi rfl rfl (T.free 42) (pe_glob (v := .ref (cmK K 31)) rfl (T.glo 15) rfl) (.own _) (isiB_ok (T.exs 19)) (fun n b e => by simp [owLk] at e) (ox_ok (T.exs 9) (T.exs 20)) (mv 0)) ma_nil))))) (mb_cons (ms_ext (i := 1) rfl (pv 1) (me_lst (ma_cons (me_isi rfl rfl (T.free 42) (pe_glob (v := .ref (cmK K 30)) rfl (T.glo 16) rfl) (.own _) (isiB_ok (T.exs 21)) (fun n b e => by simp [owLk] at e) (ox_ok (T.exs 9) (T.exs 22)) (mv 0)) (ma_cons (me_isi rfl rfl (T.free 42) (pe_glob (v := .ref (cmK K 11)) rfl (T.glo 17) rfl) (.own _) (isiB_ok (T.exs 23)) (fun n b e => by simp [owLk] at e) (ox_ok (T.exs 9) (T.exs 24)) (mv 0)) (ma_cons (me_isi rfl rfl (T.free 42) (pe_glob (v := .ref (cmK K 5)) rfl (T.glo 18) rfl) (.own _) (isiB_ok (T.exs 25)) (fun n b e => by simp [owLk] at e) (ox_ok (T.exs 9) (T.exs 26)) (mv 0)) ma_nil))))) (mb_cons (ms_ext (i := 1) rfl (pv 1) (me_lst (ma_cons (me_isi rfl rfl (T.free 42) (pe_glob (v := .ref (cmK K 9)) rfl (T.glo 19) rfl) (.own _) (isiB_ok (T.exs 27)) (fun n b e => by simp [owLk] at e) (ox_ok (T.exs 9) (T.exs 28)) (mv 0)) (ma_cons (me_isi rfl rfl (T.free 42) (pe_glob (v := .ref (cmK K 14)) rfl (T.glo 20) rfl) (.own _) (isiB_ok (T.exs 29)) (fun n b e => by simp [owLk] at e) (ox_ok (T.exs 9) (T.exs 30)) (mv 0)) (ma_cons (me_isi rfl rfl (T.free 42) (pe_glob (v := .ref (cmK K 21)) rfl (T.glo 21) rfl) (.own _) (isiB_ok (T.exs 31)) (fun n b e => by simp [owLk] at e) (ox_ok (T.exs 9) (T.exs 32)) (mv 0)) ma_nil))))) (mb_cons (ms_ext (i := 1) rfl (pv 1) (me_lst (ma_cons (me_isi rfl rfl (T.free 42) (pe_glob (v := .ref (cmK K 3)) rfl (T.glo 22) rfl) (.own _) (isiB_ok (T.exs 33)) (fun n b e => by simp [owLk] at e) (ox_ok (T.exs 9) (T.exs 34)) (mv 0)) (ma_cons (me_isi rfl rfl (T.free 42) (pe_glob (v := .ref (cmK K 18)) rfl (T.glo 23) rfl) (.own _) (isiB_ok (T.exs 35)) (fun n b e => by simp [owLk] at e) (ox_ok (T.exs 9) (T.exs 36)) (mv 0)) (ma_cons (me_isi rfl rfl (T.free 42) (pe_glob (v := .ref (cmK K 15)) rfl (T.glo 24) rfl) (.own _) (isiB_ok (T.exs 37)) (fun n b e => by simp [owLk] at e) (ox_ok (T.exs 9) (T.exs 38)) (mv 0)) ma_nil))))) (mb_cons (ms_ext (i := 1) rfl (pv 1) (me_lst (ma_cons (me_isi rfl rfl (T.free 42) (pe_glob (v := .ref (cmK K 17)) rfl (T.glo 25) rfl) (.own _) (isiB_ok (T.exs 39)) (fun n b e => by simp [owLk] at e) (ox_ok (T.exs 9) (T.exs 40)) (mv 0)) (ma_cons (me_isi rfl rfl (T.free 42) (pe_glob (v := .ref (cmK K 4)) rfl (T.glo 26) rfl) (.own _) (isiB_ok (T.exs 41)) (fun n b e => by simp [owLk] at e) (ox_ok (T.exs 9) (T.exs 42)) (mv 0)) (ma_cons (me_isi rfl rfl (T.free 42) (pe_glob (v := .ref (cmK K 19)) rfl (T.glo 27) rfl) (.own _) (isiB_ok (T.exs 43)) (fun n b e => by simp [owLk] at e) (ox_ok (T.exs 9) (T.exs 44)) (mv 0)) ma_nil))))) (mb_cons (ms_ext (i := 1) rfl (pv 1) (me_lst (ma_cons (me_isi rfl rfl (T.free 42) (pe_glob (v := .ref (cmK K 20)) rfl (T.glo 28) rfl) (.own _) (isiB_ok (T.exs 45)) (fun n b e => by simp [owLk] at e) (ox_ok (T.exs 9) (T.exs 46)) (mv 0)) (ma_cons (me_isi rfl rfl (T.free 42) (pe_glob (v := .ref (cmK K 10)) rfl (T.glo 29) rfl) (.own _) (isiB_ok (T.exs 47)) (fun n b e => by simp [owLk] at e) (ox_ok (T.exs 9) (T.exs 48)) (mv 0)) (ma_cons (me_isi rfl rfl (T.free 42) (pe_glob (v := .ref (cmK K 13)) rfl (T.glo 30) rfl) (.own _) (isiB_ok (T.exs 49)) (fun n b e => by simp [owLk] at e) (ox_ok (T.exs 9) (T.exs 50)) (mv 0)) ma_nil))))) (mb_cons (ms_ext (i := 1) rfl (pv 1) (me_lst (ma_cons (me_isi rfl rfl (T.free 42) (pe_glob (v := .ref (cmK K 12)) rfl (T.glo 31) rfl) (.own _) (isiB_ok (T.exs 51)) (fun n b e => by simp [owLk] at e) (ox_ok (T.exs 9) (T.exs 52)) (mv 0)) (ma_cons (me_isi rfl rfl (T.free 42) (pe_glob (v := .ref (cmK K 24)) rfl (T.glo 32) rfl) (.own _) (isiB_ok (T.exs 53)) (fun n b e => by simp [owLk] at e) (ox_ok (T.exs 9) (T.exs 54)) (mv 0)) (ma_cons (me_isi rfl rfl (T.free 42) (pe_glob (v := .ref (cmK K 26)) rfl (T.glo 33) rfl) (.own _) (isiB_ok (T.exs 55)) (fun n b e => by simp [owLk] at e) (ox_ok (T.exs 9) (T.exs 56)) (mv 0)) ma_nil))))) (mb_cons (ms_ext (i := 1) rfl (pv 1) (me_lst (ma_cons (me_isi rfl rfl (T.free 42) (pe_glob (v := .ref (cmK K 28)) rfl (T.glo 34) rfl) (.own _) (isiB_ok (T.exs 57)) (fun n b e => by simp [owLk] at e) (ox_ok (T.exs 9) (T.exs 58)) (mv 0)) (ma_cons (me_isi rfl rfl (T.free 42) (pe_glob (v := .ref (cmK K 27)) rfl (T.glo 35) rfl) (.own _) (isiB_ok (T.exs 59)) (fun n b e => by simp [owLk] at e) (ox_ok (T.exs 9) (T.exs 60)) (mv 0)) (ma_cons (me_isi rfl rfl (T.free 42) (pe_glob (v := .ref (cmK K 29)) rfl (T.glo 36) rfl) (.own _) (isiB_ok (T.exs 61)) (fun n b e => by simp [owLk] at e) (ox_ok (T.exs 9) (T.exs 62)) (mv 0)) ma_nil))))) (mb_cons (ms_ext (i := 1) rfl (pv 1) (me_lst (ma_cons (me_isi rfl rfl (T.free 42) (pe_glob (v := .ref (cmK K 8)) rfl (T.glo 37) rfl) (.own _) (isiB_ok (T.exs 63)) (fun n b e => by simp [owLk] at e) (ox_ok (T.exs 9) (T.exs 64)) (mv 0)) (ma_cons (me_isi rfl rfl (T.free 42) (pe_glob (v := .ref (cmK K 25)) rfl (T.glo 38) rfl) (.own _) (isiB_ok (T.exs 65)) (fun n b e => by simp [owLk] at e) (ox_ok (T.exs 9) (T.exs 66)) (mv 0)) (ma_cons (me_isi rfl rfl (T.free 42) (pe_glob (v := .ref (cmK K 23)) rfl (T.glo 39) rfl) (.own _) (isiB_ok (T.exs 67)) (fun n b e => by simp [owLk] at e) (ox_ok (T.exs 9) (T.exs 68)) (mv 0)) ma_nil))))) (mb_freeze 1 (mb_one (ms_ret (me_op op_addU od_add (mv 1) (me_lst (ma_cons (me_isi rfl rfl (T.free 42) (pe_glob (v := .ref (cmK K 6)) rfl (T.glo 40) rfl) (.own _) (isiB_ok (T.exs 69)) (fun n b e => by simp [owLk] at e) (ox_ok (T.exs 9) (T.exs 70)) (mv 0)) ma_nil))))))))))))))))
theorem g_law_kinds (T : TT fa ex fn sf mg K) : Gd PR w (cb K) mg base 2 "_law_kinds" (spG (cb K) f_law_kinds) := by
  obtain ⟨fd, F⟩ := T.def_ 5 (d := dd "_law_kinds" 39)
  exact ⟨_, fd, ["_law_error"], h_law_kinds T F, T.glo 41, F.kp, FunD.bindsN (ps := ["_law_error"]) F fun _ _ _ _ _ _ us hl => match us, hl with | [_], _ => rfl⟩
abbrev n_law_all_right : List Str := ["_law_thing", "_law_made_here", "_law_due", "_law_at", "_law_error", "_law_kinds_here", "_law_plain_one"]
theorem sc_law_all_right : FnScope n_law_all_right ["_law_thing"] (defScope (top 40)) := ⟨rfl, rfl, rfl, by decide +kernel, rfl, by decide +kernel, by decide +kernel⟩
def b_law_all_right : Gm → J → RS :=
  (sSeq (sPar 1 2 (mCons (mF f_law_made (mCons (mVar 0) mNil)) (mCons (mB fReprE (mCons (mVar 0) mNil)) mNil))) (sSeq (sFor (iR enOf (mCons (mVar 1) mNil)) (gT 2 (gsCons (gN 3) (gsCons (gN 4) gsNil))) (sSeq (sSet 5 (mF f_law_kinds (mCons (mVar 4) mNil))) (sSeq (sIf (tOo (tNt (tV (m1 (fun d => (isiD (tyLk ty_FallError) (owLk 32 ow_FallError) (owLk 0 ox_FallError) d).map .bl) (mVar 4)))) (tOo (tNt (tV (m1 (fun d => (isiD (tyLk ty_ValueError) (owLk 32 ow_ValueError) (owLk 0 ox_ValueError) d).map .bl) (mVar 4)))) (t2 neD (mB fReprE (mCons (m1 (fldD "value" [] xs_value) (mVar 4)) mNil)) (mVar 2)))) (sRet (mC (.bl false))) sNil) (sIf (tOo (tNt (tV (m2 fIx (mVar 5) (mVar 3)))) (t2 neD (mCnt (mVar 5) (mC (.bl true))) (mC (.int 1)))) (sRet (mC (.bl false))) sNil)))) (sSeq (sSet 6 (mX 0 (mVar 0))) (sSeq (sIf (tOo (t2 neD (mB fReprE (mCons (m1 (fldD "value" [] xs_value) (mVar 6)) mNil)) (mVar 2)) (tOo (t2 neD (mCnt (mF f_law_kinds (mCons (mVar 6) mNil)) (mC (.bl true))) (mC (.int 0))) (tNt (tV (m1 (fun d => (isiD (tyLk ty_ValueError) (owLk 32 ow_ValueError) (owLk 0 ox_ValueError) d).map .bl) (mVar 6)))))) (sRet (mC (.bl false))) sNil) (sRet (m2 (obl eqD) (mB fReprE (mCons (m1 (fldD "why" [] xs_why) (m2 fIx (mVar 1) (mC (.int 28)))) mNil)) (mB fReprE (mCons (mTup (mCons (mVar 0) (mCons (mC (.int 1)) mNil))) mNil))))))))
def f_law_all_right : List D → J → R D := defOf n_law_all_right 1 b_law_all_right
theorem h_law_all_right {f : Addr} {fd : FuncData} (T : TT fa ex fn sf mg K) (F : FunD K (dd "_law_all_right" 40).name (dd "_law_all_right" 40).qual (dd "_law_all_right" 40).params (dd "_law_all_right" 40).body (dd "_law_all_right" 40).scope ((dd "_law_all_right" 40).dvs K) ((dd "_law_all_right" 40).kws K) f fd) : FnG PR w K mg base (L2.CX PR w) 4 f fd ["_law_thing"] (spG (cb K) f_law_all_right) := by
  refine okG (C := cb K) (k := 3) F sc_law_all_right (m := b_law_all_right) (fun cdv A outer s H Ct E hC hr hgd => ?_)
  obtain ⟨b, H0, ρ0, J0, O0, slf⟩ := Ct
  cases hC
  exact (mb_cons (ms_par (i := 1) (k := 2) rfl sc_law_all_right.nd rfl rfl (by decide) rfl rfl (ma_cons (me_gcall (takes_of rfl rfl rfl rfl) (g_law_made T) rfl (hr.mono (by decide : 3 ≤ 3)) hgd rfl (ma_cons (mv 0) ma_nil)) (ma_cons (me_callB (call_reprE rfl (T.exs 71) hr hgd) cd_reprE rfl (T.free 44) (by decide +kernel) (ma_cons (mv 0) ma_nil)) ma_nil))) (mb_cons (ms_for (passes_of rfl) rfl (mi_enum rfl rfl (T.free 45) (ma_cons (mv 1) ma_nil)) (mg_tup rfl rfl (mgs_cons (mg_name (i := 3) sc_law_all_right.nd rfl (by first | exact Or.inl rfl | exact Or.inr rfl)) (mgs_cons (mg_name (i := 4) sc_law_all_right.nd rfl (by first | exact Or.inl rfl | exact Or.inr rfl)) mgs_nil))) (mb_cons (ms_set (i := 5) sc_law_all_right.nd rfl (by first | exact Or.inl rfl | exact Or.inr rfl) (me_gcall (takes_of rfl rfl rfl rfl) (g_law_kinds T) rfl (hr.mono (by decide : 2 ≤ 3)) hgd rfl (ma_cons (mv 4) ma_nil))) (mb_cons (ms_if (PW.pt (mw_or (mt_not (mt_val rfl (me_isi rfl rfl (T.free 42) (pe_glob (v := .ref (cmK K 0)) rfl (T.glo 46) rfl) (.own _) (isiB_ok (T.exs 72)) (fun n b e => by simp [owLk] at e) (ox_ok (T.exs 9) (T.exs 73)) (mv 4)))) (mw_or (mt_not (mt_val rfl (me_isi rfl rfl (T.free 42) (pe_bltn (v := .ty "ValueError") rfl (T.free 47) (by decide +kernel) rfl) (.ty _) (isiB_ok (T.exs 74)) (fun n b e => by simp [owLk] at e) (ox_ok (T.exs 9) (T.exs 75)) (mv 4)))) (mw_or1 (mt_cmp (op_neU hr.units) od_ne (me_callB (call_reprE rfl (T.exs 71) hr hgd) cd_reprE rfl (T.free 44) (by decide +kernel) (ma_cons (me_fld rfl nil_ok (xfld_ok (n0 := 0) (n := 32) (T.exs 9) (by decide) (T.exs 76)) (mv 4)) ma_nil)) (mv 2) (nomark _)))))) (mb_one (ms_ret me_bl)) mb_nil) (mb_one (ms_if (PW.pt (mw_or (mt_not (mt_val rfl (me_ix ix_seq od_ix (mv 5) (mv 3)))) (mw_or1 (mt_cmp (op_neU hr.units) od_ne (me_cnt rfl hr.units (mv 5) me_bl) me_int (nomark _))))) (mb_one (ms_ret me_bl)) mb_nil))))) (mb_cons (ms_set (i := 6) sc_law_all_right.nd rfl (by first | exact Or.inl rfl | exact Or.inr rfl) (me_exn (fe T) (fek T 0 (by decide)) (hr.mono (by decide : 1 ≤ 3)) rfl (T.glo 46) (mv 0))) (mb_cons (ms_if (PW.pt (mw_or (mt_cmp (op_neU hr.units) od_ne (me_callB (call_reprE rfl (T.exs 71) hr hgd) cd_reprE rfl (T.free 44) (by decide +kernel) (ma_cons (me_fld rfl nil_ok (xfld_ok (n0 := 0) (n := 32) (T.exs 9) (by decide) (T.exs 76)) (mv 6)) ma_nil)) (mv 2) (nomark _)) (mw_or (mt_cmp (op_neU hr.units) od_ne (me_cnt rfl hr.units (me_gcall (takes_of rfl rfl rfl rfl) (g_law_kinds T) rfl (hr.mono (by decide : 2 ≤ 3)) hgd rfl (ma_cons (mv 6) ma_nil)) me_bl) me_int (nomark _)) (mw_or1 (mt_not (mt_val rfl (me_isi rfl rfl (T.free 42) (pe_bltn (v := .ty "ValueError") rfl (T.free 47) (by decide +kernel) rfl) (.ty _) (isiB_ok (T.exs 74)) (fun n b e => by simp [owLk] at e) (ox_ok (T.exs 9) (T.exs 75)) (mv 6)))))))) (mb_one (ms_ret me_bl)) mb_nil) (mb_one (ms_ret (me_cmp (op_eqU hr.units) od_eq (me_callB (call_reprE rfl (T.exs 71) hr hgd) cd_reprE rfl (T.free 44) (by decide +kernel) (ma_cons (me_fld rfl nil_ok (xfld_ok (n0 := 0) (n := 32) (T.exs 9) (by decide) (T.exs 77)) (me_ix ix_seq od_ix (mv 1) me_int)) ma_nil)) (me_callB (call_reprE rfl (T.exs 71) hr hgd) cd_reprE rfl (T.free 44) (by decide +kernel) (ma_cons (me_tup (ma_cons (mv 0) (ma_cons me_int ma_nil))) ma_nil)) (nomark _))))))))
theorem g_law_all_right (T : TT fa ex fn sf mg K) : Gd PR w (cb K) mg base 4 "_law_all_right" (spG (cb K) f_law_all_right) := by
  obtain ⟨fd, F⟩ := T.def_ 6 (d := dd "_law_all_right" 40)
  exact ⟨_, fd, ["_law_thing"], h_law_all_right T F, T.glo 43, F.kp, FunD.bindsN (ps := ["_law_thing"]) F fun _ _ _ _ _ _ us hl => match us, hl with | [_], _ => rfl⟩
abbrev n_law : List Str := ["_law_script", "_law_k", "_law_jar_here"]
theorem sc_law : FnScope n_law ["_law_script"] (defScope (top 41)) := ⟨rfl, rfl, rfl, by decide +kernel, rfl, by decide +kernel, by decide +kernel⟩
def b_law : Gm → J → RS :=
  (sSeq (sFor (iR rng1 (mCons (mB fMax (mCons (mC (.int 1)) (mCons (mB fMin (mCons (mC (.int 20)) (mCons (mB fLen (mCons (mVar 0) mNil)) mNil))) mNil))) mNil)) (gN 1) (sSeq (sSet 2 (mF f_law_jar (mCons (mVar 0) (mCons (mVar 1) mNil)))) (sIf (tOo (tNt (tV (mF f_law_all_right (mCons (mF (f_law_value 3) (mCons (mVar 2) (mCons (mC (.int 2)) mNil))) mNil)))) (tNt (tV (mF f_law_all_right (mCons (mF (f_law_value 3) (mCons (mVar 2) (mCons (mC (.int 0)) mNil))) mNil))))) (sRet (mC (.bl false))) sNil))) (sRet (mC (.bl true))))
def f_law : List D → J → R D := defOf n_law 1 b_law
theorem h_law {f : Addr} {fd : FuncData} (T : TT fa ex fn sf mg K) (F : FunD K (dd "law" 41).name (dd "law" 41).qual (dd "law" 41).params (dd "law" 41).body (dd "law" 41).scope ((dd "law" 41).dvs K) ((dd "law" 41).kws K) f fd) : FnG PR w K mg base (L2.CX PR w) 7 f fd ["_law_script"] (spG (cb K) f_law) := by
  refine okG (C := cb K) (k := 6) F sc_law (m := b_law) (fun cdv A outer s H Ct E hC hr hgd => ?_)
  obtain ⟨b, H0, ρ0, J0, O0, slf⟩ := Ct
  cases hC
  exact (mb_cons (ms_for (passes_of rfl) rfl (mi_range1 rfl (T.free 7) (ma_cons (me_callB (call_max2 rfl) cd_max rfl (T.free 50) (by decide +kernel) (ma_cons me_int (ma_cons (me_callB (call_min2 rfl) cd_min rfl (T.free 49) (by decide +kernel) (ma_cons me_int (ma_cons (me_callB call_len cd_len rfl (T.free 1) (by decide +kernel) (ma_cons (mv 0) ma_nil)) ma_nil))) ma_nil))) ma_nil)) (mg_name (i := 1) sc_law.nd rfl (by first | exact Or.inl rfl | exact Or.inr rfl)) (mb_cons (ms_set (i := 2) sc_law.nd rfl (by first | exact Or.inl rfl | exact Or.inr rfl) (me_gcall (takes_of rfl rfl rfl rfl) (g_law_jar T) rfl (hr.mono (by decide : 2 ≤ 6)) hgd rfl (ma_cons (mv 0) (ma_cons (mv 1) ma_nil)))) (mb_one (ms_if (PW.pt (mw_or (mt_not (mt_val rfl (me_gcall (takes_of rfl rfl rfl rfl) (g_law_all_right T) rfl (hr.mono (by decide : 4 ≤ 6)) hgd rfl (ma_cons (me_gcall (takes_of rfl rfl rfl rfl) (g_law_value T 3) rfl (hr.mono (by decide : 6 ≤ 6)) hgd rfl (ma_cons (mv 2) (ma_cons me_int ma_nil))) ma_nil)))) (mw_or1 (mt_not (mt_val rfl (me_gcall (takes_of rfl rfl rfl rfl) (g_law_all_right T) rfl (hr.mono (by decide : 4 ≤ 6)) hgd rfl (ma_cons (me_gcall (takes_of rfl rfl rfl rfl) (g_law_value T 3) rfl (hr.mono (by decide : 6 ≤ 6)) hgd rfl (ma_cons (mv 2) (ma_cons me_int ma_nil))) ma_nil))))))) (mb_one (ms_ret me_bl)) mb_nil)))) (mb_one (ms_ret me_bl)))
theorem g_law (T : TT fa ex fn sf mg K) : Gd PR w (cb K) mg base 7 "law" (spG (cb K) f_law) := by
  obtain ⟨fd, F⟩ := T.def_ 7 (d := dd "law" 41)
  exact ⟨_, fd, ["_law_script"], h_law T F, T.glo 48, F.kp, FunD.bindsN (ps := ["_law_script"]) F fun _ _ _ _ _ _ us hl => match us, hl with | [_], _ => rfl⟩
end
end K67

set_option Elab.async false
set_option linter.all false
set_option maxRecDepth 100000
set_option maxHeartbeats 0
set_option autoImplicit false
namespace K67
open PySem PySem.Spec PyProof.Rows L2 On
theorem run (w : World) : HandSHeadRun.RunEq Rw (PySem.W.view Rw.prog [41]) hk ob 8000 loose w := by
  intro os
  kernel_rfl
end K67

set_option Elab.async false
set_option linter.all false
set_option maxRecDepth 100000
set_option maxHeartbeats 4000000
set_option autoImplicit false
namespace K67
open PySem PySem.Spec PyProof.Rows L2 On
theorem e_jar : f_law_jar = c_jar := rfl
theorem e_take : f_law_take = c_take := rfl
theorem e_of : f_law_of = c_of := rfl
theorem pw {d : Nat} : 1 ≤ 4 ^ d := Nat.pow_pos (by decide)
theorem value_wp {n : Nat} : ∀ (fuel deep m : Nat) (j : J) (P : D → J → Prop), deep < fuel → Jar j n (m + 20 * 4 ^ deep) → (∀ d j', Sm (131 * 4 ^ deep) (deep + 1) d → Jar j' n m → On.Same n j j' → P d j') → (f_law_value fuel [.loc n, .int deep] j).wp P X0 := by
  intro fuel
  induction fuel with
  | zero => intro deep m j P hf; omega
  | succ f ih =>
    intro deep m j P hf hj q
    have p4 := @pw deep
    have ht : ∀ (K : D → J → Prop) (X : Nat → List (Str × D) → J → Prop), (∀ r j1, 0 ≤ r → (r < 7 ∨ (0 < deep ∧ r < 9)) → Jar j1 n (m + 20 * 4 ^ deep - 1) → On.Same n j j1 → K (.int r) j1) → (if 0 < deep then (c_take [.loc n, .int 9] j).wp K X else (c_take [.loc n, .int 7] j).wp K X) := fun K X h => by
      by_cases hd : 0 < deep
      · rw [if_pos hd]
        exact take_wp (hj.mono (by omega)) (by decide) (by decide) fun r j1 r0 r1 hj1 s1 => h r j1 r0 (.inr ⟨hd, r1⟩) hj1 s1
      · rw [if_neg hd]
        exact take_wp (hj.mono (by omega)) (by decide) (by decide) fun r j1 r0 r1 hj1 s1 => h r j1 r0 (.inl r1) hj1 s1
    unfold f_law_value b_law_value
    simp [e_take, e_of]
    refine ht _ _ fun r j1 r0 rr hj1 s1 => ?_
    simp
    split
    · rename_i h3
      refine take_wp (m := m + 20 * 4 ^ deep - 2) (hj1.mono (by omega)) (by decide) (by decide) fun a j2 a0 a1 hj2 s2 => ?_
      refine take_wp (m := m + 20 * 4 ^ deep - 3) (hj2.mono (by omega)) (by decide) (by decide) fun b j3 b0 b1 hj3 s3 => ?_
      simp
      refine take_wp (m := m + 20 * 4 ^ deep - 4) (hj3.mono (by omega)) (by decide) (by decide) fun c j4 c0 c1 hj4 s4 => ?_
      have ss := ((s1.trans s2).trans s3).trans s4
      obtain ⟨x, hx, ex⟩ := atI_in (l := [D.int a, D.int (-b), D.int c]) r0 (by simpa using h3)
      rw [ex]
      refine q _ _ ?_ (hj4.mono (by omega)) ss
      simp at hx
      rcases hx with rfl | rfl | rfl
      · exact (Sm.int (by omega)).mono (by omega) (by omega)
      · exact (Sm.int (by omega)).mono (by omega) (by omega)
      · exact (Sm.int (by omega)).mono (by omega) (by omega)
    · rename_i h3
      split
      · rename_i h7
        refine take_wp (m := m + 20 * 4 ^ deep - 2) (hj1.mono (by omega)) (by decide) (by decide) fun a j2 a0 a1 hj2 s2 => ?_
        simp
        refine of_wp (m := m + 20 * 4 ^ deep - 3) (hj2.mono (by omega)) (by simp) (by simp) fun d j3 hd hj3 s3 => ?_
        obtain ⟨x, hx, ex⟩ := atI_in (l := [D.non, D.bl (decide (a = 1)), d, D.dct []]) (i := r - 3) (by omega) (by simp; omega)
        rw [ex]
        refine q _ _ ?_ (hj3.mono (by omega)) ((s1.trans s2).trans s3)
        simp at hx
        rcases hx with rfl | rfl | rfl | rfl
        · exact Sm.non.mono (by omega) (by omega)
        · exact Sm.bl.mono (by omega) (by omega)
        · simp at hd
          rcases hd with rfl | rfl | rfl | rfl
          · exact (Sm.str (by decide +kernel)).mono (Nat.le_trans (show _ ≤ 5 by decide +kernel) (by omega)) (by omega)
          · exact (Sm.str (by decide +kernel)).mono (Nat.le_trans (show _ ≤ 5 by decide +kernel) (by omega)) (by omega)
          · exact (Sm.str (by decide +kernel)).mono (Nat.le_trans (show _ ≤ 5 by decide +kernel) (by omega)) (by omega)
          · exact (Sm.str (by decide +kernel)).mono (Nat.le_trans (show _ ≤ 5 by decide +kernel) (by omega)) (by omega)
        · exact Sm.dct0.mono (by omega) (by omega)
      · rename_i h7
        have hd : 0 < deep ∧ r < 9 := by
          rcases rr with z | z
          · omega
          · exact z
        obtain ⟨dp, rfl⟩ : ∃ dp, deep = dp + 1 := ⟨deep - 1, by omega⟩
        have e4 : 4 ^ (dp + 1) = 4 * 4 ^ dp := by rw [Nat.pow_succ]; omega
        refine take_wp (m := m + 60 * 4 ^ dp) (hj1.mono (by omega)) (by decide) (by decide) fun a j2 a0 a1 hj2 s2 => ?_
        rw [rng1_p a0 (by omega)]
        dsimp only
        refine ⟨by rw [rangeD_length]; omega, ?_⟩
        refine lcMap_wp (fun ds acc j' => ds.length + acc.length = a.toNat ∧ (∀ d ∈ acc, Sm (131 * 4 ^ dp) (dp + 1) d) ∧ Jar j' n (m + 20 * ds.length * 4 ^ dp) ∧ On.Same n j j') ?_ (acc := []) ⟨by simp [rangeD_length], by simp, hj2.mono ?_, s1.trans s2⟩ ?_
        · intro d ds acc j' ⟨h1, h2, h3, h4⟩
          refine ⟨_, rfl, ?_⟩
          simp [wipeG]
          refine ih dp (m + 20 * ds.length * 4 ^ dp) j' _ (by omega) (h3.mono (by rw [List.length_cons, Nat.mul_add, Nat.add_mul]; omega)) fun e j3 he hj3 s3 => ⟨by simp at h1; omega, fun d hd => ?_, hj3, h4.trans s3⟩
          rcases hd with hd | rfl
          · exact h2 d hd
          · exact he
        · rw [rangeD_length]
          have : a.toNat ≤ 3 := by omega
          have := Nat.mul_le_mul_right (4 ^ dp) (Nat.mul_le_mul_left 20 this)
          omega
        · intro es j' ⟨h1, h2, h3, h4⟩
          have hl : es.length ≤ 3 := by simp at h1; omega
          have hw : es.length * (131 * 4 ^ dp + 1) ≤ 131 * 4 ^ (dp + 1) := by
            have := Nat.mul_le_mul_right (131 * 4 ^ dp + 1) hl
            omega
          split
          · exact q _ _ ((Sm.tup h2).mono hw (by omega)) (by simpa using h3) h4
          · exact q _ _ ((Sm.lst h2).mono hw (by omega)) (by simpa using h3) h4
theorem kinds_0 {fs : List (Str × D)} {j : J} : f_law_kinds [.exn 0 fs] j = .ok (.lst [.bl false, .bl false, .bl false, .bl false, .bl false, .bl false, .bl false, .bl false, .bl false, .bl false, .bl false, .bl false, .bl false, .bl false, .bl false, .bl false, .bl false, .bl false, .bl false, .bl false, .bl false, .bl false, .bl false, .bl false, .bl false, .bl false, .bl false, .bl false, .bl false, .bl false, .bl false]) j := by
  kernel_rfl
theorem kinds_1 {fs : List (Str × D)} {j : J} : f_law_kinds [.exn 1 fs] j = .ok (.lst [.bl false, .bl false, .bl false, .bl false, .bl true, .bl false, .bl false, .bl false, .bl false, .bl false, .bl false, .bl false, .bl false, .bl false, .bl false, .bl false, .bl false, .bl false, .bl false, .bl false, .bl false, .bl false, .bl false, .bl false, .bl false, .bl false, .bl false, .bl false, .bl false, .bl false, .bl false]) j := by
  kernel_rfl
theorem kinds_2 {fs : List (Str × D)} {j : J} : f_law_kinds [.exn 2 fs] j = .ok (.lst [.bl false, .bl true, .bl false, .bl false, .bl false, .bl false, .bl false, .bl false, .bl false, .bl false, .bl false, .bl false, .bl false, .bl false, .bl false, .bl false, .bl false, .bl false, .bl false, .bl false, .bl false, .bl false, .bl false, .bl false, .bl false, .bl false, .bl false, .bl false, .bl false, .bl false, .bl false]) j := by
  kernel_rfl
theorem kinds_3 {fs : List (Str × D)} {j : J} : f_law_kinds [.exn 3 fs] j = .ok (.lst [.bl false, .bl false, .bl false, .bl false, .bl false, .bl false, .bl false, .bl false, .bl false, .bl false, .bl false, .bl false, .bl true, .bl false, .bl false, .bl false, .bl false, .bl false, .bl false, .bl false, .bl false, .bl false, .bl false, .bl false, .bl false, .bl false, .bl false, .bl false, .bl false, .bl false, .bl false]) j := by
  kernel_rfl
theorem kinds_4 {fs : List (Str × D)} {j : J} : f_law_kinds [.exn 4 fs] j = .ok (.lst [.bl false, .bl false, .bl false, .bl false, .bl false, .bl false, .bl false, .bl false, .bl false, .bl false, .bl false, .bl false, .bl false, .bl false, .bl false, .bl false, .bl true, .bl false, .bl false, .bl false, .bl false, .bl false, .bl false, .bl false, .bl false, .bl false, .bl false, .bl false, .bl false, .bl false, .bl false]) j := by
  kernel_rfl
theorem kinds_5 {fs : List (Str × D)} {j : J} : f_law_kinds [.exn 5 fs] j = .ok (.lst [.bl false, .bl false, .bl false, .bl false, .bl false, .bl false, .bl false, .bl false, .bl true, .bl false, .bl false, .bl false, .bl false, .bl false, .bl false, .bl false, .bl false, .bl false, .bl false, .bl false, .bl false, .bl false, .bl false, .bl false, .bl false, .bl false, .bl false, .bl false, .bl false, .bl false, .bl false]) j := by
  kernel_rfl
theorem kinds_6 {fs : List (Str × D)} {j : J} : f_law_kinds [.exn 6 fs] j = .ok (.lst [.bl false, .bl false, .bl false, .bl false, .bl false, .bl false, .bl false, .bl false, .bl false, .bl false, .bl false, .bl false, .bl false, .bl false, .bl false, .bl false, .bl false, .bl false, .bl false, .bl false, .bl false, .bl false, .bl false, .bl false, .bl false, .bl false, .bl false, .bl false, .bl false, .bl false, .bl true]) j := by
  kernel_rfl
theorem kinds_7 {fs : List (Str × D)} {j : J} : f_law_kinds [.exn 7 fs] j = .ok (.lst [.bl false, .bl false, .bl true, .bl false, .bl false, .bl false, .bl false, .bl false, .bl false, .bl false, .bl false, .bl false, .bl false, .bl false, .bl false, .bl false, .bl false, .bl false, .bl false, .bl false, .bl false, .bl false, .bl false, .bl false, .bl false, .bl false, .bl false, .bl false, .bl false, .bl false, .bl false]) j := by
  kernel_rfl
theorem kinds_8 {fs : List (Str × D)} {j : J} : f_law_kinds [.exn 8 fs] j = .ok (.lst [.bl false, .bl false, .bl false, .bl false, .bl false, .bl false, .bl false, .bl false, .bl false, .bl false, .bl false, .bl false, .bl false, .bl false, .bl false, .bl false, .bl false, .bl false, .bl false, .bl false, .bl false, .bl false, .bl false, .bl false, .bl false, .bl false, .bl false, .bl true, .bl false, .bl false, .bl false]) j := by
  kernel_rfl
theorem kinds_9 {fs : List (Str × D)} {j : J} : f_law_kinds [.exn 9 fs] j = .ok (.lst [.bl false, .bl false, .bl false, .bl false, .bl false, .bl false, .bl false, .bl false, .bl false, .bl true, .bl false, .bl false, .bl false, .bl false, .bl false, .bl false, .bl false, .bl false, .bl false, .bl false, .bl false, .bl false, .bl false, .bl false, .bl false, .bl false, .bl false, .bl false, .bl false, .bl false, .bl false]) j := by
  kernel_rfl
theorem kinds_10 {fs : List (Str × D)} {j : J} : f_law_kinds [.exn 10 fs] j = .ok (.lst [.bl false, .bl false, .bl false, .bl false, .bl false, .bl false, .bl false, .bl false, .bl false, .bl false, .bl false, .bl false, .bl false, .bl false, .bl false, .bl false, .bl false, .bl false, .bl false, .bl true, .bl false, .bl false, .bl false, .bl false, .bl false, .bl false, .bl false, .bl false, .bl false, .bl false, .bl false]) j := by
  kernel_rfl
theorem kinds_11 {fs : List (Str × D)} {j : J} : f_law_kinds [.exn 11 fs] j = .ok (.lst [.bl false, .bl false, .bl false, .bl false, .bl false, .bl false, .bl false, .bl true, .bl false, .bl false, .bl false, .bl false, .bl false, .bl false, .bl false, .bl false, .bl false, .bl false, .bl false, .bl false, .bl false, .bl false, .bl false, .bl false, .bl false, .bl false, .bl false, .bl false, .bl false, .bl false, .bl false]) j := by
  kernel_rfl
theorem kinds_12 {fs : List (Str × D)} {j : J} : f_law_kinds [.exn 12 fs] j = .ok (.lst [.bl false, .bl false, .bl false, .bl false, .bl false, .bl false, .bl false, .bl false, .bl false, .bl false, .bl false, .bl false, .bl false, .bl false, .bl false, .bl false, .bl false, .bl false, .bl false, .bl false, .bl false, .bl true, .bl false, .bl false, .bl false, .bl false, .bl false, .bl false, .bl false, .bl false, .bl false]) j := by
  kernel_rfl
theorem kinds_13 {fs : List (Str × D)} {j : J} : f_law_kinds [.exn 13 fs] j = .ok (.lst [.bl false, .bl false, .bl false, .bl false, .bl false, .bl false, .bl false, .bl false, .bl false, .bl false, .bl false, .bl false, .bl false, .bl false, .bl false, .bl false, .bl false, .bl false, .bl false, .bl false, .bl true, .bl false, .bl false, .bl false, .bl false, .bl false, .bl false, .bl false, .bl false, .bl false, .bl false]) j := by
  kernel_rfl
theorem kinds_14 {fs : List (Str × D)} {j : J} : f_law_kinds [.exn 14 fs] j = .ok (.lst [.bl false, .bl false, .bl false, .bl false, .bl false, .bl false, .bl false, .bl false, .bl false, .bl false, .bl true, .bl false, .bl false, .bl false, .bl false, .bl false, .bl false, .bl false, .bl false, .bl false, .bl false, .bl false, .bl false, .bl false, .bl false, .bl false, .bl false, .bl false, .bl false, .bl false, .bl false]) j := by
  kernel_rfl
theorem kinds_15 {fs : List (Str × D)} {j : J} : f_law_kinds [.exn 15 fs] j = .ok (.lst [.bl false, .bl false, .bl false, .bl false, .bl false, .bl false, .bl false, .bl false, .bl false, .bl false, .bl false, .bl false, .bl false, .bl false, .bl true, .bl false, .bl false, .bl false, .bl false, .bl false, .bl false, .bl false, .bl false, .bl false, .bl false, .bl false, .bl false, .bl false, .bl false, .bl false, .bl false]) j := by
  kernel_rfl
theorem kinds_16 {fs : List (Str × D)} {j : J} : f_law_kinds [.exn 16 fs] j = .ok (.lst [.bl false, .bl false, .bl false, .bl true, .bl false, .bl false, .bl false, .bl false, .bl false, .bl false, .bl false, .bl false, .bl false, .bl false, .bl false, .bl false, .bl false, .bl false, .bl false, .bl false, .bl false, .bl false, .bl false, .bl false, .bl false, .bl false, .bl false, .bl false, .bl false, .bl false, .bl false]) j := by
  kernel_rfl
theorem kinds_17 {fs : List (Str × D)} {j : J} : f_law_kinds [.exn 17 fs] j = .ok (.lst [.bl false, .bl false, .bl false, .bl false, .bl false, .bl false, .bl false, .bl false, .bl false, .bl false, .bl false, .bl false, .bl false, .bl false, .bl false, .bl true, .bl false, .bl false, .bl false, .bl false, .bl false, .bl false, .bl false, .bl false, .bl false, .bl false, .bl false, .bl false, .bl false, .bl false, .bl false]) j := by
  kernel_rfl
theorem kinds_18 {fs : List (Str × D)} {j : J} : f_law_kinds [.exn 18 fs] j = .ok (.lst [.bl false, .bl false, .bl false, .bl false, .bl false, .bl false, .bl false, .bl false, .bl false, .bl false, .bl false, .bl false, .bl false, .bl true, .bl false, .bl false, .bl false, .bl false, .bl false, .bl false, .bl false, .bl false, .bl false, .bl false, .bl false, .bl false, .bl false, .bl false, .bl false, .bl false, .bl false]) j := by
  kernel_rfl
theorem kinds_19 {fs : List (Str × D)} {j : J} : f_law_kinds [.exn 19 fs] j = .ok (.lst [.bl false, .bl false, .bl false, .bl false, .bl false, .bl false, .bl false, .bl false, .bl false, .bl false, .bl false, .bl false, .bl false, .bl false, .bl false, .bl false, .bl false, .bl true, .bl false, .bl false, .bl false, .bl false, .bl false, .bl false, .bl false, .bl false, .bl false, .bl false, .bl false, .bl false, .bl false]) j := by
  kernel_rfl
theorem kinds_20 {fs : List (Str × D)} {j : J} : f_law_kinds [.exn 20 fs] j = .ok (.lst [.bl false, .bl false, .bl false, .bl false, .bl false, .bl false, .bl false, .bl false, .bl false, .bl false, .bl false, .bl false, .bl false, .bl false, .bl false, .bl false, .bl false, .bl false, .bl true, .bl false, .bl false, .bl false, .bl false, .bl false, .bl false, .bl false, .bl false, .bl false, .bl false, .bl false, .bl false]) j := by
  kernel_rfl
theorem kinds_21 {fs : List (Str × D)} {j : J} : f_law_kinds [.exn 21 fs] j = .ok (.lst [.bl false, .bl false, .bl false, .bl false, .bl false, .bl false, .bl false, .bl false, .bl false, .bl false, .bl false, .bl true, .bl false, .bl false, .bl false, .bl false, .bl false, .bl false, .bl false, .bl false, .bl false, .bl false, .bl false, .bl false, .bl false, .bl false, .bl false, .bl false, .bl false, .bl false, .bl false]) j := by
  kernel_rfl
theorem kinds_22 {fs : List (Str × D)} {j : J} : f_law_kinds [.exn 22 fs] j = .ok (.lst [.bl true, .bl false, .bl false, .bl false, .bl false, .bl false, .bl false, .bl false, .bl false, .bl false, .bl false, .bl false, .bl false, .bl false, .bl false, .bl false, .bl false, .bl false, .bl false, .bl false, .bl false, .bl false, .bl false, .bl false, .bl false, .bl false, .bl false, .bl false, .bl false, .bl false, .bl false]) j := by
  kernel_rfl
theorem kinds_23 {fs : List (Str × D)} {j : J} : f_law_kinds [.exn 23 fs] j = .ok (.lst [.bl false, .bl false, .bl false, .bl false, .bl false, .bl false, .bl false, .bl false, .bl false, .bl false, .bl false, .bl false, .bl false, .bl false, .bl false, .bl false, .bl false, .bl false, .bl false, .bl false, .bl false, .bl false, .bl false, .bl false, .bl false, .bl false, .bl false, .bl false, .bl false, .bl true, .bl false]) j := by
  kernel_rfl
theorem kinds_24 {fs : List (Str × D)} {j : J} : f_law_kinds [.exn 24 fs] j = .ok (.lst [.bl false, .bl false, .bl false, .bl false, .bl false, .bl false, .bl false, .bl false, .bl false, .bl false, .bl false, .bl false, .bl false, .bl false, .bl false, .bl false, .bl false, .bl false, .bl false, .bl false, .bl false, .bl false, .bl true, .bl false, .bl false, .bl false, .bl false, .bl false, .bl false, .bl false, .bl false]) j := by
  kernel_rfl
theorem kinds_25 {fs : List (Str × D)} {j : J} : f_law_kinds [.exn 25 fs] j = .ok (.lst [.bl false, .bl false, .bl false, .bl false, .bl false, .bl false, .bl false, .bl false, .bl false, .bl false, .bl false, .bl false, .bl false, .bl false, .bl false, .bl false, .bl false, .bl false, .bl false, .bl false, .bl false, .bl false, .bl false, .bl false, .bl false, .bl false, .bl false, .bl false, .bl true, .bl false, .bl false]) j := by
  kernel_rfl
theorem kinds_26 {fs : List (Str × D)} {j : J} : f_law_kinds [.exn 26 fs] j = .ok (.lst [.bl false, .bl false, .bl false, .bl false, .bl false, .bl false, .bl false, .bl false, .bl false, .bl false, .bl false, .bl false, .bl false, .bl false, .bl false, .bl false, .bl false, .bl false, .bl false, .bl false, .bl false, .bl false, .bl false, .bl true, .bl false, .bl false, .bl false, .bl false, .bl false, .bl false, .bl false]) j := by
  kernel_rfl
theorem kinds_27 {fs : List (Str × D)} {j : J} : f_law_kinds [.exn 27 fs] j = .ok (.lst [.bl false, .bl false, .bl false, .bl false, .bl false, .bl false, .bl false, .bl false, .bl false, .bl false, .bl false, .bl false, .bl false, .bl false, .bl false, .bl false, .bl false, .bl false, .bl false, .bl false, .bl false, .bl false, .bl false, .bl false, .bl false, .bl true, .bl false, .bl false, .bl false, .bl false, .bl false]) j := by
  kernel_rfl
theorem kinds_28 {fs : List (Str × D)} {j : J} : f_law_kinds [.exn 28 fs] j = .ok (.lst [.bl false, .bl false, .bl false, .bl false, .bl false, .bl false, .bl false, .bl false, .bl false, .bl false, .bl false, .bl false, .bl false, .bl false, .bl false, .bl false, .bl false, .bl false, .bl false, .bl false, .bl false, .bl false, .bl false, .bl false, .bl true, .bl false, .bl false, .bl false, .bl false, .bl false, .bl false]) j := by
  kernel_rfl
theorem kinds_29 {fs : List (Str × D)} {j : J} : f_law_kinds [.exn 29 fs] j = .ok (.lst [.bl false, .bl false, .bl false, .bl false, .bl false, .bl false, .bl false, .bl false, .bl false, .bl false, .bl false, .bl false, .bl false, .bl false, .bl false, .bl false, .bl false, .bl false, .bl false, .bl false, .bl false, .bl false, .bl false, .bl false, .bl false, .bl false, .bl true, .bl false, .bl false, .bl false, .bl false]) j := by
  kernel_rfl
theorem kinds_30 {fs : List (Str × D)} {j : J} : f_law_kinds [.exn 30 fs] j = .ok (.lst [.bl false, .bl false, .bl false, .bl false, .bl false, .bl false, .bl true, .bl false, .bl false, .bl false, .bl false, .bl false, .bl false, .bl false, .bl false, .bl false, .bl false, .bl false, .bl false, .bl false, .bl false, .bl false, .bl false, .bl false, .bl false, .bl false, .bl false, .bl false, .bl false, .bl false, .bl false]) j := by
  kernel_rfl
theorem kinds_31 {fs : List (Str × D)} {j : J} : f_law_kinds [.exn 31 fs] j = .ok (.lst [.bl false, .bl false, .bl false, .bl false, .bl false, .bl true, .bl false, .bl false, .bl false, .bl false, .bl false, .bl false, .bl false, .bl false, .bl false, .bl false, .bl false, .bl false, .bl false, .bl false, .bl false, .bl false, .bl false, .bl false, .bl false, .bl false, .bl false, .bl false, .bl false, .bl false, .bl false]) j := by
  kernel_rfl
def madeL (d : D) : List D := [.exn 22 [("value", d)], .exn 2 [("value", d)], .exn 7 [("value", d)], .exn 16 [("value", d)], .exn 1 [("value", d)], .exn 31 [("value", d)], .exn 30 [("value", d)], .exn 11 [("value", d)], .exn 5 [("value", d)], .exn 9 [("value", d)], .exn 14 [("value", d)], .exn 21 [("value", d)], .exn 3 [("value", d)], .exn 18 [("value", d)], .exn 15 [("value", d)], .exn 17 [("value", d)], .exn 4 [("value", d)], .exn 19 [("value", d)], .exn 20 [("value", d)], .exn 10 [("value", d)], .exn 13 [("value", d)], .exn 12 [("value", d)], .exn 24 [("value", d)], .exn 26 [("value", d)], .exn 28 [("value", d)], .exn 27 [("value", d)], .exn 29 [("value", d)], .exn 8 [("value", d)], .exn 25 [("why", .tup [d, .int 1]), ("value", d)], .exn 23 [("value", d)], .exn 6 [("value", d)]]
theorem made_eq {d : D} {j : J} : f_law_made [d] j = .ok (.lst (madeL d)) j := by
  kernel_rfl
structure Good (d e : D) : Prop where
  ex : ∃ (at_ : Int) (c : Nat) (fs : List (Str × D)) (ks : List D), e = .tup [.int at_, .exn c fs] ∧ (∀ j, f_law_kinds [.exn c fs] j = .ok (.lst ks) j) ∧ isiD (tyLk ty_FallError) (owLk 32 ow_FallError) (owLk 0 ox_FallError) (.exn c fs) = some true ∧
    isiD (tyLk ty_ValueError) (owLk 32 ow_ValueError) (owLk 0 ox_ValueError) (.exn c fs) = some true ∧ fldD "value" [] xs_value (.exn c fs) = some d ∧ atI ks at_ = some (.bl true) ∧ cntD ks (.bl true) = some (.int 1)
theorem good_0 {d : D} : Good d (.tup [.int 0, .exn 22 [("value", d)]]) := ⟨0, 22, [("value", d)], _, rfl, fun _ => kinds_22, by kernel_rfl, by kernel_rfl, by kernel_rfl, by kernel_rfl, by kernel_rfl⟩
theorem good_1 {d : D} : Good d (.tup [.int 1, .exn 2 [("value", d)]]) := ⟨1, 2, [("value", d)], _, rfl, fun _ => kinds_2, by kernel_rfl, by kernel_rfl, by kernel_rfl, by kernel_rfl, by kernel_rfl⟩
theorem good_2 {d : D} : Good d (.tup [.int 2, .exn 7 [("value", d)]]) := ⟨2, 7, [("value", d)], _, rfl, fun _ => kinds_7, by kernel_rfl, by kernel_rfl, by kernel_rfl, by kernel_rfl, by kernel_rfl⟩
theorem good_3 {d : D} : Good d (.tup [.int 3, .exn 16 [("value", d)]]) := ⟨3, 16, [("value", d)], _, rfl, fun _ => kinds_16, by kernel_rfl, by kernel_rfl, by kernel_rfl, by kernel_rfl, by kernel_rfl⟩
theorem good_4 {d : D} : Good d (.tup [.int 4, .exn 1 [("value", d)]]) := ⟨4, 1, [("value", d)], _, rfl, fun _ => kinds_1, by kernel_rfl, by kernel_rfl, by kernel_rfl, by kernel_rfl, by kernel_rfl⟩
theorem good_5 {d : D} : Good d (.tup [.int 5, .exn 31 [("value", d)]]) := ⟨5, 31, [("value", d)], _, rfl, fun _ => kinds_31, by kernel_rfl, by kernel_rfl, by kernel_rfl, by kernel_rfl, by kernel_rfl⟩
theorem good_6 {d : D} : Good d (.tup [.int 6, .exn 30 [("value", d)]]) := ⟨6, 30, [("value", d)], _, rfl, fun _ => kinds_30, by kernel_rfl, by kernel_rfl, by kernel_rfl, by kernel_rfl, by kernel_rfl⟩
theorem good_7 {d : D} : Good d (.tup [.int 7, .exn 11 [("value", d)]]) := ⟨7, 11, [("value", d)], _, rfl, fun _ => kinds_11, by kernel_rfl, by kernel_rfl, by kernel_rfl, by kernel_rfl, by kernel_rfl⟩
theorem good_8 {d : D} : Good d (.tup [.int 8, .exn 5 [("value", d)]]) := ⟨8, 5, [("value", d)], _, rfl, fun _ => kinds_5, by kernel_rfl, by kernel_rfl, by kernel_rfl, by kernel_rfl, by kernel_rfl⟩
theorem good_9 {d : D} : Good d (.tup [.int 9, .exn 9 [("value", d)]]) := ⟨9, 9, [("value", d)], _, rfl, fun _ => kinds_9, by kernel_rfl, by kernel_rfl, by kernel_rfl, by kernel_rfl, by kernel_rfl⟩
theorem good_10 {d : D} : Good d (.tup [.int 10, .exn 14 [("value", d)]]) := ⟨10, 14, [("value", d)], _, rfl, fun _ => kinds_14, by kernel_rfl, by kernel_rfl, by kernel_rfl, by kernel_rfl, by kernel_rfl⟩
theorem good_11 {d : D} : Good d (.tup [.int 11, .exn 21 [("value", d)]]) := ⟨11, 21, [("value", d)], _, rfl, fun _ => kinds_21, by kernel_rfl, by kernel_rfl, by kernel_rfl, by kernel_rfl, by kernel_rfl⟩
theorem good_12 {d : D} : Good d (.tup [.int 12, .exn 3 [("value", d)]]) := ⟨12, 3, [("value", d)], _, rfl, fun _ => kinds_3, by kernel_rfl, by kernel_rfl, by kernel_rfl, by kernel_rfl, by kernel_rfl⟩
theorem good_13 {d : D} : Good d (.tup [.int 13, .exn 18 [("value", d)]]) := ⟨13, 18, [("value", d)], _, rfl, fun _ => kinds_18, by kernel_rfl, by kernel_rfl, by kernel_rfl, by kernel_rfl, by kernel_rfl⟩
theorem good_14 {d : D} : Good d (.tup [.int 14, .exn 15 [("value", d)]]) := ⟨14, 15, [("value", d)], _, rfl, fun _ => kinds_15, by kernel_rfl, by kernel_rfl, by kernel_rfl, by kernel_rfl, by kernel_rfl⟩
theorem good_15 {d : D} : Good d (.tup [.int 15, .exn 17 [("value", d)]]) := ⟨15, 17, [("value", d)], _, rfl, fun _ => kinds_17, by kernel_rfl, by kernel_rfl, by kernel_rfl, by kernel_rfl, by kernel_rfl⟩
theorem good_16 {d : D} : Good d (.tup [.int 16, .exn 4 [("value", d)]]) := ⟨16, 4, [("value", d)], _, rfl, fun _ => kinds_4, by kernel_rfl, by kernel_rfl, by kernel_rfl, by kernel_rfl, by kernel_rfl⟩
theorem good_17 {d : D} : Good d (.tup [.int 17, .exn 19 [("value", d)]]) := ⟨17, 19, [("value", d)], _, rfl, fun _ => kinds_19, by kernel_rfl, by kernel_rfl, by kernel_rfl, by kernel_rfl, by kernel_rfl⟩
theorem good_18 {d : D} : Good d (.tup [.int 18, .exn 20 [("value", d)]]) := ⟨18, 20, [("value", d)], _, rfl, fun _ => kinds_20, by kernel_rfl, by kernel_rfl, by kernel_rfl, by kernel_rfl, by kernel_rfl⟩
theorem good_19 {d : D} : Good d (.tup [.int 19, .exn 10 [("value", d)]]) := ⟨19, 10, [("value", d)], _, rfl, fun _ => kinds_10, by kernel_rfl, by kernel_rfl, by kernel_rfl, by kernel_rfl, by kernel_rfl⟩
theorem good_20 {d : D} : Good d (.tup [.int 20, .exn 13 [("value", d)]]) := ⟨20, 13, [("value", d)], _, rfl, fun _ => kinds_13, by kernel_rfl, by kernel_rfl, by kernel_rfl, by kernel_rfl, by kernel_rfl⟩
theorem good_21 {d : D} : Good d (.tup [.int 21, .exn 12 [("value", d)]]) := ⟨21, 12, [("value", d)], _, rfl, fun _ => kinds_12, by kernel_rfl, by kernel_rfl, by kernel_rfl, by kernel_rfl, by kernel_rfl⟩
theorem good_22 {d : D} : Good d (.tup [.int 22, .exn 24 [("value", d)]]) := ⟨22, 24, [("value", d)], _, rfl, fun _ => kinds_24, by kernel_rfl, by kernel_rfl, by kernel_rfl, by kernel_rfl, by kernel_rfl⟩
theorem good_23 {d : D} : Good d (.tup [.int 23, .exn 26 [("value", d)]]) := ⟨23, 26, [("value", d)], _, rfl, fun _ => kinds_26, by kernel_rfl, by kernel_rfl, by kernel_rfl, by kernel_rfl, by kernel_rfl⟩
theorem good_24 {d : D} : Good d (.tup [.int 24, .exn 28 [("value", d)]]) := ⟨24, 28, [("value", d)], _, rfl, fun _ => kinds_28, by kernel_rfl, by kernel_rfl, by kernel_rfl, by kernel_rfl, by kernel_rfl⟩
theorem good_25 {d : D} : Good d (.tup [.int 25, .exn 27 [("value", d)]]) := ⟨25, 27, [("value", d)], _, rfl, fun _ => kinds_27, by kernel_rfl, by kernel_rfl, by kernel_rfl, by kernel_rfl, by kernel_rfl⟩
theorem good_26 {d : D} : Good d (.tup [.int 26, .exn 29 [("value", d)]]) := ⟨26, 29, [("value", d)], _, rfl, fun _ => kinds_29, by kernel_rfl, by kernel_rfl, by kernel_rfl, by kernel_rfl, by kernel_rfl⟩
theorem good_27 {d : D} : Good d (.tup [.int 27, .exn 8 [("value", d)]]) := ⟨27, 8, [("value", d)], _, rfl, fun _ => kinds_8, by kernel_rfl, by kernel_rfl, by kernel_rfl, by kernel_rfl, by kernel_rfl⟩
theorem good_28 {d : D} : Good d (.tup [.int 28, .exn 25 [("why", .tup [d, .int 1]), ("value", d)]]) := ⟨28, 25, [("why", .tup [d, .int 1]), ("value", d)], _, rfl, fun _ => kinds_25, by kernel_rfl, by kernel_rfl, by kernel_rfl, by kernel_rfl, by kernel_rfl⟩
theorem good_29 {d : D} : Good d (.tup [.int 29, .exn 23 [("value", d)]]) := ⟨29, 23, [("value", d)], _, rfl, fun _ => kinds_23, by kernel_rfl, by kernel_rfl, by kernel_rfl, by kernel_rfl, by kernel_rfl⟩
theorem good_30 {d : D} : Good d (.tup [.int 30, .exn 6 [("value", d)]]) := ⟨30, 6, [("value", d)], _, rfl, fun _ => kinds_6, by kernel_rfl, by kernel_rfl, by kernel_rfl, by kernel_rfl, by kernel_rfl⟩
def enL (d : D) : List D := [.tup [.int 0, .exn 22 [("value", d)]], .tup [.int 1, .exn 2 [("value", d)]], .tup [.int 2, .exn 7 [("value", d)]], .tup [.int 3, .exn 16 [("value", d)]], .tup [.int 4, .exn 1 [("value", d)]], .tup [.int 5, .exn 31 [("value", d)]], .tup [.int 6, .exn 30 [("value", d)]], .tup [.int 7, .exn 11 [("value", d)]], .tup [.int 8, .exn 5 [("value", d)]], .tup [.int 9, .exn 9 [("value", d)]], .tup [.int 10, .exn 14 [("value", d)]], .tup [.int 11, .exn 21 [("value", d)]], .tup [.int 12, .exn 3 [("value", d)]], .tup [.int 13, .exn 18 [("value", d)]], .tup [.int 14, .exn 15 [("value", d)]], .tup [.int 15, .exn 17 [("value", d)]], .tup [.int 16, .exn 4 [("value", d)]], .tup [.int 17, .exn 19 [("value", d)]], .tup [.int 18, .exn 20 [("value", d)]], .tup [.int 19, .exn 10 [("value", d)]], .tup [.int 20, .exn 13 [("value", d)]], .tup [.int 21, .exn 12 [("value", d)]], .tup [.int 22, .exn 24 [("value", d)]], .tup [.int 23, .exn 26 [("value", d)]], .tup [.int 24, .exn 28 [("value", d)]], .tup [.int 25, .exn 27 [("value", d)]], .tup [.int 26, .exn 29 [("value", d)]], .tup [.int 27, .exn 8 [("value", d)]], .tup [.int 28, .exn 25 [("why", .tup [d, .int 1]), ("value", d)]], .tup [.int 29, .exn 23 [("value", d)]], .tup [.int 30, .exn 6 [("value", d)]]]
theorem en_eq {d : D} : enumD 0 (madeL d) = enL d := by kernel_rfl
theorem en_good {d : D} : ∀ e ∈ enL d, Good d e := List.forall_mem_cons.mpr ⟨good_0, List.forall_mem_cons.mpr ⟨good_1, List.forall_mem_cons.mpr ⟨good_2, List.forall_mem_cons.mpr ⟨good_3, List.forall_mem_cons.mpr ⟨good_4, List.forall_mem_cons.mpr ⟨good_5, List.forall_mem_cons.mpr ⟨good_6, List.forall_mem_cons.mpr ⟨good_7, List.forall_mem_cons.mpr ⟨good_8, List.forall_mem_cons.mpr ⟨good_9, List.forall_mem_cons.mpr ⟨good_10, List.forall_mem_cons.mpr ⟨good_11, List.forall_mem_cons.mpr ⟨good_12, List.forall_mem_cons.mpr ⟨good_13, List.forall_mem_cons.mpr ⟨good_14, List.forall_mem_cons.mpr ⟨good_15, List.forall_mem_cons.mpr ⟨good_16, List.forall_mem_cons.mpr ⟨good_17, List.forall_mem_cons.mpr ⟨good_18, List.forall_mem_cons.mpr ⟨good_19, List.forall_mem_cons.mpr ⟨good_20, List.forall_mem_cons.mpr ⟨good_21, List.forall_mem_cons.mpr ⟨good_22, List.forall_mem_cons.mpr ⟨good_23, List.forall_mem_cons.mpr ⟨good_24, List.forall_mem_cons.mpr ⟨good_25, List.forall_mem_cons.mpr ⟨good_26, List.forall_mem_cons.mpr ⟨good_27, List.forall_mem_cons.mpr ⟨good_28, List.forall_mem_cons.mpr ⟨good_29, List.forall_mem_cons.mpr ⟨good_30, fun _ h => (List.not_mem_nil h).elim⟩⟩⟩⟩⟩⟩⟩⟩⟩⟩⟩⟩⟩⟩⟩⟩⟩⟩⟩⟩⟩⟩⟩⟩⟩⟩⟩⟩⟩⟩⟩
theorem all_right {d : D} {x y : Str} {j : J} {P : D → J → Prop} {X : Nat → List (Str × D) → J → Prop} (h : reprE d = some x) (h2 : reprE (.tup [d, .int 1]) = some y) (hn : ∀ j, deref j d = d) (q : P (.bl true) j) : (f_law_all_right [d] j).wp P X := by
  unfold f_law_all_right b_law_all_right
  simp [made_eq, hn, o_repr h, enOf, en_eq]
  refine loopD_wp (fun ds Γ j' => j' = j ∧ (∀ e ∈ ds, Good d e) ∧ ∃ a b c, Γ = [some (.val d), some (.val (.lst (madeL d))), some (.val (.str x)), a, b, c, none]) ?_ ?_ ⟨rfl, en_good, _, _, _, rfl⟩
  · rintro e ds Γ j' ⟨rfl, hg, a, b, c, rfl⟩
    obtain ⟨at_, c', fs, ks, rfl, g1, g2, g3, g4, g5, g6⟩ := (hg e List.mem_cons_self).ex
    refine ⟨_, rfl, ?_⟩
    simp [g1, g2, g3, g4, g5, g6, hn, o_repr h]
    exact fun e he => hg e (List.mem_cons_of_mem _ he)
  · rintro Γ j' ⟨rfl, _, a, b, c, rfl⟩
    have w1 : fldD "value" [] xs_value (.exn 0 [("value", d)]) = some d := by kernel_rfl
    have w2 : atI (madeL d) 28 = some (.exn 25 [("why", .tup [d, .int 1]), ("value", d)]) := by kernel_rfl
    have w3 : fldD "why" [] xs_why (.exn 25 [("why", .tup [d, .int 1]), ("value", d)]) = some (.tup [d, .int 1]) := by kernel_rfl
    have w4 : isiD (tyLk ty_ValueError) (owLk 32 ow_ValueError) (owLk 0 ox_ValueError) (D.exn 0 [("value", d)]) = some true := by kernel_rfl
    obtain ⟨ks, k1, k2⟩ : ∃ ks, (∀ j, f_law_kinds [.exn 0 [("value", d)]] j = .ok (.lst ks) j) ∧ cntD ks (.bl true) = some (.int 0) := ⟨_, fun _ => kinds_0, by kernel_rfl⟩
    simp [w1, w2, w3, w4, k1, k2, hn, o_repr h, o_repr h2]
    exact q
theorem one_more {w dp : Nat} {d : D} (h : Sm w dp d) : Sm (2 * (w + 131)) (dp + 1) (.tup [d, .int 1]) :=
  (Sm.tup (ds := [d, .int 1]) (w := w + 130) (dp := dp) fun e he => by
    simp at he
    rcases he with rfl | rfl
    · exact h.mono (by omega) (Nat.le_refl _)
    · exact (Sm.int (by decide)).mono (by omega) (by omega)).mono (by show 2 * (w + 130 + 1) ≤ _; omega) (Nat.le_refl _)
theorem all_right' {w dp : Nat} {d : D} {j : J} {P : D → J → Prop} {X : Nat → List (Str × D) → J → Prop} (h : Sm w dp d) (hw : w ≤ 40000) (hd : dp ≤ 50) (q : P (.bl true) j) : (f_law_all_right [d] j).wp P X := by
  obtain ⟨x, hx⟩ := h.repr (by omega) (by omega)
  obtain ⟨y, hy⟩ := (one_more h).repr (by omega) (by omega)
  exact all_right hx hy h.nl q
theorem law_true (ns : List Int) (hl : ns.length ≤ 63) : ∃ j, f_law [.frz (ns.map .int)] [] = .ok (.bl true) j := by
  have w : (f_law [.frz (ns.map .int)] []).wp (fun d _ => d = .bl true) X0 := by
    unfold f_law b_law
    simp [e_jar]
    rw [rng1_p (by split <;> split <;> omega) (by split <;> split <;> omega)]
    dsimp only
    refine loopD_wp (fun ds Γ j => (∀ d ∈ ds, ∃ k : Int, d = .int k ∧ 0 ≤ k ∧ k < 1000) ∧ ∃ a b, Γ = [some (.val (.frz (ns.map .int))), a, b]) ?_ ?_ ⟨?_, _, _, rfl⟩
    · rintro d ds Γ j ⟨hd, a, b, rfl⟩
      obtain ⟨k, rfl, k0, k1⟩ := hd d List.mem_cons_self
      refine ⟨_, rfl, ?_⟩
      simp
      refine jar_wp k0 k1 fun jd hj => ?_
      refine value_wp 3 2 10000 _ _ (by decide) (hj.mono (by decide)) fun d1 j1 hd1 hj1 s1 => ?_
      refine all_right' hd1 (by decide) (by decide) ?_
      simp
      refine value_wp 3 0 1000 _ _ (by decide) (hj1.mono (by decide)) fun d2 j2 hd2 hj2 s2 => ?_
      refine all_right' hd2 (by decide) (by decide) ?_
      simp
      exact fun d hx => hd d (List.mem_cons_of_mem _ hx)
    · rintro Γ j _
      simp
    · intro d hd
      unfold rangeD at hd
      obtain ⟨i, hi, rfl⟩ := List.mem_map.mp hd
      rw [List.mem_range] at hi
      refine ⟨_, rfl, by omega, ?_⟩
      have : (i : Int) < 20 := by
        revert hi
        split <;> split <;> omega
      omega
  obtain ⟨a, j, e, rfl⟩ := R.wp_ok w
  exact ⟨j, e⟩
end K67

set_option Elab.async false
set_option linter.all false
set_option maxRecDepth 100000
set_option maxHeartbeats 0
set_option autoImplicit false
namespace K67
open PySem PySem.Spec PyProof.Rows L2 On
theorem fin {w : World} {K : PySem.W.Frag} {h : Heap} {mg : Str → Option Value} {f : Addr} (T : TT fa ex fn sf mg K) (X : K.In h) (hfa : mg ("law" : Str) = some (.ref f)) :
    ∃ (C : Cb) (fd : FuncData), C.K.In h ∧ (∀ (s : Shared) (u : Value), BindsTo s fd ⟨[u], []⟩ [("_law_script", u)]) ∧ ∀ base : Heap, C.K.In base → base.Ns mainGlobals mg → FnG PR w C.K mg base (L2.CX PR w) 7 f fd ["_law_script"] (spL C) := by
  obtain ⟨fd, F⟩ := T.def_ 7 (d := dd "law" 41)
  have e := hfa.symm.trans (T.glo 48)
  cases e
  have b := FunD.bindsA (ps := ["_law_script"]) F fun _ _ _ _ _ _ us hl => match us, hl with | [_], _ => rfl
  exact ⟨cb K, fd, X, fun s v => b s [v] rfl, fun base _ _ => law_of law_true (h_law T F)⟩
end K67

open PySem PySem.W PySem.Calls PyProof.Rows
set_option maxRecDepth 100000 in
set_option maxHeartbeats 0 in
theorem PySem.Challenge.cw_onlyfall_k67_errors_keep_their_values_holds : PySem.Challenge.rw_onlyfall_k67_errors_keep_their_values.Holds := by
  w_on; o_law
  refine HandSHeadRun.head_any (r := OpenLaw.row PySem.Challenge.rw_onlyfall_k67_errors_keep_their_values) (q := view (OpenLaw.row PySem.Challenge.rw_onlyfall_k67_errors_keep_their_values).prog [41]) (H := K67.hk) (ob := K67.ob) (M := 8000) (loose := K67.loose) (d := HandSHeadRun.topDef (OpenLaw.row PySem.Challenge.rw_onlyfall_k67_errors_keep_their_values).prog 41) (kwd := []) K67.ob_eq
    (by kernel_rfl) (fun s => by kernel_rfl) K67.run (by kernel_rfl) (by kernel_rfl) (by kernel_rfl) (by rfl) (by first | assumption | decide +kernel) (by decide +kernel) ⟨rfl, rfl, rfl, rfl, rfl, by decide +kernel⟩ ?hw ?hc
  case hw => w_witness2
  case hc =>
    refine On.walkG (l := PySem.Challenge.rw_onlyfall_k67_errors_keep_their_values) (k := 7) (x := "_law_script") rfl (by kernel_rfl) ⟨rfl, by decide, by decide⟩ ?F
    intro w mg fa h Y G hmg0
    obtain ⟨K, KX, c⟩ := Y
    have hmg : mg ("law" : PySem.Str) = some (.ref fa) := by
      have e : (HandSHeadRun.topDef (OpenLaw.row PySem.Challenge.rw_onlyfall_k67_errors_keep_their_values).prog 41).name = ("law" : PySem.Str) := by kernel_rfl
      rw [← e]
      exact hmg0
    exact K67.fin ⟨⟨h, KX, G⟩, c⟩ KX hmg
