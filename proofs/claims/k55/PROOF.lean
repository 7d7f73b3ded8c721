import PyProof.Rows.All
import Wide.All
import OpenK.AllK
import Wide.FinOn
import HandS.ForMost
import HandS.ForExc
import HandS.Wide
import HandS.IsInst
import HandS.CallSlots
import HandS.Style
import HandS.TupAny
import HandS.TupMul
import HandS.SortInts
import KE.KTupSum
import KE.GoesEnum
import HandS.More
import HandS.SetFor
import HandS.Conv
import HandS.Text
import KE.KRevSl
import HandS.ExcIs
import HandS.ExcField
import HandS.ExcValue
import KE.KExcIs
import PyProof.ReprRoads
import KE.DataFind
import HandS.Strs
import PySem.Challenge.RW_nudgebest_k55_tasks_stilled
set_option Elab.async false
set_option linter.all false
set_option maxRecDepth 100000
set_option maxHeartbeats 2000000
/-! The data layer: values as plain data, lists that are changed as cells. -/
namespace DL
open PySem PySem.Spec PyProof.Rows L2

/-- data: what a value is worth, without addresses; raw: a value as it is -/
inductive D where
  | non | bl (b : Bool) | int (i : Int) | str (x : Str)
  | lst (xs : List D) | tup (xs : List D) | scr (ns : List Int) | raw (v : V) | emp

mutual
inductive Rep (K : PySem.W.Frag) (H : Hp) : V → D → Prop
  | non : Rep K H .non .non
  | bl (b : Bool) : Rep K H (.bl b) (.bl b)
  | int (i : Int) : Rep K H (.int i) (.int i)
  | str (x : Str) : Rep K H (.str x) (.str x)
  | lst {a : Addr} {xs : List V} {ds : List D} : H a = some (.lst xs) → RepA K H xs ds → Rep K H (.ref a) (.lst ds)
  | tup {a : Addr} {xs : List V} {ds : List D} : SqT K H a xs → RepA K H xs ds → Rep K H (.ref a) (.tup ds)
  | scr {a : Addr} {ns : List Int} : SqL K H a (ns.map V.int) → Rep K H (.ref a) (.scr ns)
  | raw (v : V) : Rep K H v (.raw v)
  | emp {a : Addr} : H a = some (.dK []) → Rep K H (.ref a) .emp
inductive RepA (K : PySem.W.Frag) (H : Hp) : List V → List D → Prop
  | nil : RepA K H [] []
  | cons {v : V} {vs : List V} {d : D} {ds : List D} : Rep K H v d → RepA K H vs ds → RepA K H (v :: vs) (d :: ds)
end

section
variable {K : PySem.W.Frag} {H H' : Hp}
theorem same_t {a : Addr} {xs : List V} (e : Same H H') (h : SqT K H a xs) : SqT K H' a xs := by
  rcases h with (h | ⟨o, h⟩) | h
  · exact .inl (.inl (e _ _ h))
  · exact .inl (.inr ⟨o, e _ _ h⟩)
  · exact .inr h
mutual
theorem Rep.mono (e : Same H H') : ∀ {v : V} {d : D}, Rep K H v d → Rep K H' v d
  | _, _, .non => .non
  | _, _, .bl b => .bl b
  | _, _, .int i => .int i
  | _, _, .str x => .str x
  | _, _, .lst h r => .lst (e _ _ h) (RepA.mono e r)
  | _, _, .tup h r => .tup (same_t e h) (RepA.mono e r)
  | _, _, .scr h => .scr (e.seq h)
  | _, _, .raw v => .raw v
  | _, _, .emp h => .emp (e _ _ h)
theorem RepA.mono (e : Same H H') : ∀ {vs : List V} {ds : List D}, RepA K H vs ds → RepA K H' vs ds
  | _, _, .nil => .nil
  | _, _, .cons h r => .cons (Rep.mono e h) (RepA.mono e r)
end
theorem RepA.length : ∀ {vs : List V} {ds : List D}, RepA K H vs ds → vs.length = ds.length
  | _, _, .nil => rfl
  | _, _, .cons _ r => congrArg (· + 1) r.length
theorem RepA.get : ∀ {vs : List V} {ds : List D} {i : Nat} {d : D}, RepA K H vs ds → ds[i]? = some d → ∃ v, vs[i]? = some v ∧ Rep K H v d
  | _, _, _, _, .nil, h => by simp at h
  | _, _, 0, _, .cons a _, h => by
    have e := Option.some.inj h
    subst e
    exact ⟨_, rfl, a⟩
  | _, _, i + 1, _, .cons _ r, h => RepA.get (i := i) r h
theorem RepA.getV : ∀ {vs : List V} {ds : List D} {i : Nat} {v : V}, RepA K H vs ds → vs[i]? = some v → ∃ d, ds[i]? = some d ∧ Rep K H v d
  | _, _, _, _, .nil, h => by simp at h
  | _, _, 0, _, .cons a _, h => by
    have e := Option.some.inj h
    subst e
    exact ⟨_, rfl, a⟩
  | _, _, i + 1, _, .cons _ r, h => RepA.getV (i := i) r h
theorem RepA.append : ∀ {vs ws : List V} {ds es : List D}, RepA K H vs ds → RepA K H ws es → RepA K H (vs ++ ws) (ds ++ es)
  | _, _, _, _, .nil, s => s
  | _, _, _, _, .cons a r, s => .cons a (RepA.append r s)
theorem RepA.one {v : V} {d : D} (h : Rep K H v d) : RepA K H [v] [d] := .cons h .nil
theorem RepA.take : ∀ {vs : List V} {ds : List D} (n : Nat), RepA K H vs ds → RepA K H (vs.take n) (ds.take n)
  | _, _, 0, _ => .nil
  | _, _, _ + 1, .nil => .nil
  | _, _, n + 1, .cons a r => .cons a (RepA.take n r)
theorem RepA.drop : ∀ {vs : List V} {ds : List D} (n : Nat), RepA K H vs ds → RepA K H (vs.drop n) (ds.drop n)
  | _, _, 0, r => r
  | _, _, _ + 1, .nil => .nil
  | _, _, n + 1, .cons _ r => RepA.drop n r
theorem RepA.set {v : V} {d : D} (h : Rep K H v d) : ∀ {vs : List V} {ds : List D} (n : Nat), RepA K H vs ds → RepA K H (vs.set n v) (ds.set n d)
  | _, _, _, .nil => .nil
  | _, _, 0, .cons _ r => .cons h r
  | _, _, n + 1, .cons a r => .cons a (RepA.set h n r)
theorem RepA.ints : ∀ {vs : List V} {ns : List Int}, RepA K H vs (ns.map D.int) → vs = ns.map V.int
  | _, [], r => by cases r; rfl
  | _, n :: ns, r => by
    cases r with
    | cons a r => cases a; rw [RepA.ints r]; rfl
theorem RepA.bls : ∀ {vs : List V} {bs : List Bool}, RepA K H vs (bs.map D.bl) → vs = bs.map V.bl
  | _, [], r => by cases r; rfl
  | _, n :: ns, r => by
    cases r with
    | cons a r => cases a; rw [RepA.bls r]; rfl
theorem RepA.ofInts : ∀ (ns : List Int), RepA K H (ns.map V.int) (ns.map D.int)
  | [] => .nil
  | n :: ns => .cons (.int n) (RepA.ofInts ns)
end

/-- what stands in a cell: a list, a dict (keys ints and texts; tuples of these), an instance, its own dict, a caught or made error -/
inductive C where
  | lst (ds : List D) | dk (kvs : List (Key × D)) | dt (kvs : List (List Key × D)) | ins (C dx : Addr) (fs : List (Str × D)) | own (x : Addr) | exc (cls : Value) (fs : Option (List (Str × D)))
def cellL : Option C → Option (List D)
  | some (.lst ds) => some ds
  | _ => none
@[simp] theorem cellL_lst {ds : List D} : cellL (some (.lst ds)) = some ds := rfl
@[simp] theorem cellL_none : cellL none = none := rfl
theorem cellL_some {o : Option C} {ds : List D} (h : cellL o = some ds) : o = some (.lst ds) := by
  cases o with
  | none => cases h
  | some c =>
    cases c with
    | lst es => cases h; rfl
    | _ => cases h

abbrev M := Addr → Option C
def updM (μ : M) (p : Addr) (c : C) : M := fun b => if b = p then some c else μ b
def delM (μ : M) (p : Addr) : M := fun b => if b = p then none else μ b
theorem updM_same {μ : M} {p : Addr} {c : C} : updM μ p c p = some c := by unfold updM; rw [if_pos rfl]
theorem updM_ne {μ : M} {p q : Addr} {c : C} (h : q ≠ p) : updM μ p c q = μ q := by unfold updM; rw [if_neg h]
theorem updM_upd {μ : M} {p : Addr} {c d : C} : updM (updM μ p c) p d = updM μ p d := by funext b; unfold updM; split <;> rfl
theorem del_upd {μ : M} {p : Addr} {c : C} (h : μ p = none) : delM (updM μ p c) p = μ := by
  funext b
  unfold delM updM
  by_cases e : b = p
  · rw [if_pos e, e, h]
  · rw [if_neg e, if_neg e]
theorem ne_fresh {μ : M} {p q : Addr} {c : C} (h : μ p = some c) (h' : μ q = none) : p ≠ q := by
  intro e
  rw [e, h'] at h
  cases h

inductive RepF (K : PySem.W.Frag) (H : Hp) : List (Str × V) → List (Str × D) → Prop
  | nil : RepF K H [] []
  | cons {x : Str} {v : V} {d : D} {vs : List (Str × V)} {ds : List (Str × D)} : Rep K H v d → RepF K H vs ds → RepF K H ((x, v) :: vs) ((x, d) :: ds)
theorem RepF.mono {K : PySem.W.Frag} {H H' : Hp} (e : Same H H') : ∀ {vs : List (Str × V)} {ds : List (Str × D)}, RepF K H vs ds → RepF K H' vs ds
  | _, _, .nil => .nil
  | _, _, .cons h r => .cons (h.mono e) (RepF.mono e r)
inductive RepK (K : PySem.W.Frag) (H : Hp) {κ : Type} : List (κ × V) → List (κ × D) → Prop
  | nil : RepK K H [] []
  | cons {x : κ} {v : V} {d : D} {vs : List (κ × V)} {ds : List (κ × D)} : Rep K H v d → RepK K H vs ds → RepK K H ((x, v) :: vs) ((x, d) :: ds)
theorem RepK.mono {K : PySem.W.Frag} {κ : Type} {H H' : Hp} (e : Same H H') : ∀ {vs : List (κ × V)} {ds : List (κ × D)}, RepK K H vs ds → RepK K H' vs ds
  | _, _, .nil => .nil
  | _, _, .cons h r => .cons (h.mono e) (RepK.mono e r)
/-- an error's object as far as it is known -/
def ExP (cls : Value) (a : Addr) (d : Option Addr) (h : Heap) : Prop := ∃ (oe : Obj) (vs : Array Value), h.get? a = some oe ∧ oe.cls = cls ∧ oe.dict = d ∧ oe.data = .fields vs
/-- the own dict of an exception -/
def XOk (K : PySem.W.Frag) (Hc : Hp) : Option Addr → Option (List (Str × D)) → Prop
  | none, none => True
  | some a, some fs => ∃ vs, Hc a = some (.xd vs) ∧ RepF K Hc vs fs
  | _, _ => False
theorem XOk.mono {K : PySem.W.Frag} {H H' : Hp} (e : Same H H') : ∀ {d : Option Addr} {fs : Option (List (Str × D))}, XOk K H d fs → XOk K H' d fs
  | none, none, _ => True.intro
  | some a, some fs, ⟨vs, h, r⟩ => ⟨vs, e _ _ h, r.mono e⟩
def CellOk (K : PySem.W.Frag) (Hc : Hp) (p : Addr) : C → HO → Prop
  | .lst ds, o => ∃ vs, o = .lst vs ∧ RepA K Hc vs ds
  | .dk kvs, o => ∃ vs, o = .dK vs ∧ RepK K Hc vs kvs
  | .dt kvs, o => ∃ vs, o = .dT vs ∧ RepK K Hc vs kvs
  | .ins C dx fs, o => ∃ vs, o = .ins C dx vs ∧ RepF K Hc vs fs
  | .own x, o => o = .own x
  | .exc cls fs, o => ∃ φ d, o = .ext φ ∧ (∀ h, φ h → ExP cls p d h) ∧ XOk K Hc d fs

structure Split (K : PySem.W.Frag) (H Hc : Hp) (μ : M) : Prop where
  cell : ∀ p c, μ p = some c → Hc p = none ∧ ∃ o, H p = some o ∧ CellOk K Hc p c o
  rest : ∀ p, μ p = none → H p = Hc p

theorem CellOk.mono {K : PySem.W.Frag} {Hc Hc' : Hp} {p : Addr} (e : Same Hc Hc') : ∀ {c : C} {o : HO}, CellOk K Hc p c o → CellOk K Hc' p c o
  | .lst _, _, ⟨vs, h, r⟩ => ⟨vs, h, r.mono e⟩
  | .dk _, _, ⟨vs, h, r⟩ => ⟨vs, h, r.mono e⟩
  | .dt _, _, ⟨vs, h, r⟩ => ⟨vs, h, r.mono e⟩
  | .ins _ _ _, _, ⟨vs, h, r⟩ => ⟨vs, h, r.mono e⟩
  | .own _, _, h => h
  | .exc _ _, _, ⟨φ, d, h1, h2, h3⟩ => ⟨φ, d, h1, h2, h3.mono e⟩

section
variable {K : PySem.W.Frag} {H Hc : Hp} {μ : M}
theorem Split.same (s : Split K H Hc μ) : Same Hc H := fun a o h => by
  cases e : μ a with
  | none => rw [s.rest a e]; exact h
  | some c => rw [(s.cell a c e).1] at h; cases h
theorem Split.fresh (s : Split K H Hc μ) {p : Addr} (h : H p = none) : μ p = none ∧ Hc p = none := by
  cases e : μ p with
  | none => exact ⟨rfl, by rw [← s.rest p e]; exact h⟩
  | some c =>
    obtain ⟨_, o, ho, _⟩ := s.cell p c e
    rw [h] at ho
    cases ho
theorem same_new {Hc : Hp} {p : Addr} {o : HO} (h : Hc p = none) : Same Hc (upd Hc p o) := fun b x e => by
  rw [upd_ne (ne_of_none e h)]
  exact e
/-- a new object that is data -/
theorem Split.data (s : Split K H Hc μ) {p : Addr} {o : HO} (h : H p = none) : Split K (upd H p o) (upd Hc p o) μ := by
  obtain ⟨h1, h2⟩ := s.fresh h
  refine ⟨fun q c e => ?_, fun q e => ?_⟩
  · have ne : q ≠ p := fun z => by rw [z, h1] at e; cases e
    obtain ⟨a, o', b, c'⟩ := s.cell q c e
    exact ⟨by rw [upd_ne ne]; exact a, o', by rw [upd_ne ne]; exact b, c'.mono (same_new h2)⟩
  · by_cases ne : q = p
    · rw [ne, upd_same, upd_same]
    · rw [upd_ne ne, upd_ne ne]
      exact s.rest q e
/-- a new cell -/
theorem Split.new (s : Split K H Hc μ) {p : Addr} {o : HO} {c : C} (h : H p = none) (ok : CellOk K Hc p c o) : Split K (upd H p o) Hc (updM μ p c) := by
  obtain ⟨h1, h2⟩ := s.fresh h
  refine ⟨fun q c' e => ?_, fun q e => ?_⟩
  · by_cases ne : q = p
    · subst ne
      rw [updM_same] at e
      cases e
      exact ⟨h2, o, upd_same, ok⟩
    · rw [updM_ne ne] at e
      rw [upd_ne ne]
      exact s.cell q c' e
  · by_cases ne : q = p
    · subst ne
      rw [updM_same] at e
      cases e
    · rw [updM_ne ne] at e
      rw [upd_ne ne]
      exact s.rest q e
/-- a cell is changed -/
theorem Split.put (s : Split K H Hc μ) {p : Addr} {o : HO} {c c' : C} (h : μ p = some c) (ok : CellOk K Hc p c' o) : Split K (upd H p o) Hc (updM μ p c') := by
  refine ⟨fun q c2 e => ?_, fun q e => ?_⟩
  · by_cases ne : q = p
    · subst ne
      rw [updM_same] at e
      cases e
      exact ⟨(s.cell q c h).1, o, upd_same, ok⟩
    · rw [updM_ne ne] at e
      rw [upd_ne ne]
      exact s.cell q c2 e
  · by_cases ne : q = p
    · subst ne
      rw [updM_same] at e
      cases e
    · rw [updM_ne ne] at e
      rw [upd_ne ne]
      exact s.rest q e
end

/-- fewer cells -/
def Sub (μ μ' : M) : Prop := ∀ p c, μ p = some c → μ' p = some c
theorem Sub.refl (μ : M) : Sub μ μ := fun _ _ h => h
theorem Sub.trans {a b c : M} (h : Sub a b) (k : Sub b c) : Sub a c := fun p x e => k p x (h p x e)
theorem Sub.new {μ : M} {p : Addr} {c : C} (h : μ p = none) : Sub μ (updM μ p c) := fun q x e => by
  rw [updM_ne (ne_fresh e h)]
  exact e
theorem Sub.upd {μ μ' : M} (s : Sub μ μ') {p : Addr} {c : C} : Sub (updM μ p c) (updM μ' p c) := fun q x e => by
  by_cases h : q = p
  · subst h
    rw [updM_same] at e ⊢
    exact e
  · rw [updM_ne h] at e ⊢
    exact s q x e
theorem Sub.put {μ μ' : M} (s : Sub μ μ') {p : Addr} {c : C} (h : μ p = none) : Sub μ (updM μ' p c) := fun q x e => by
  rw [updM_ne (ne_fresh e h)]
  exact s q x e
theorem Sub.del {μ : M} (p : Addr) : Sub (delM μ p) μ := fun q x e => by
  unfold delM at e
  split at e
  · cases e
  · exact e
theorem Sub.fresh {μ μ' : M} (s : Sub μ μ') {p : Addr} (h : μ' p = none) : μ p = none := by
  cases e : μ p with
  | none => rfl
  | some c => rw [s p c e] at h; cases h
/-- cells become data -/
theorem Split.sub {K : PySem.W.Frag} {H Hc : Hp} {μ μ' : M} (s : Split K H Hc μ') (h : Sub μ μ') : ∃ Hc', Same Hc Hc' ∧ Split K H Hc' μ ∧ ∀ p, μ p = none → Hc' p = H p := by
  refine ⟨fun a => match μ a with | none => H a | some _ => none, ?_, ⟨?_, ?_⟩, ?_⟩
  · intro a o e
    show (match μ a with | none => H a | some _ => none) = some o
    cases m : μ a with
    | none => exact s.same a o e
    | some c =>
      rw [(s.cell a c (h a c m)).1] at e
      cases e
  · intro p c e
    obtain ⟨a, o, b, k⟩ := s.cell p c (h p c e)
    refine ⟨by show (match μ p with | none => H p | some _ => none) = none; rw [e], o, b, k.mono ?_⟩
    intro a' o' e'
    show (match μ a' with | none => H a' | some _ => none) = some o'
    cases m : μ a' with
    | none => exact s.same a' o' e'
    | some c' =>
      rw [(s.cell a' c' (h a' c' m)).1] at e'
      cases e'
  · intro p e
    show H p = (match μ p with | none => H p | some _ => none)
    rw [e]
  · intro p e
    show (match μ p with | none => H p | some _ => none) = H p
    rw [e]

/-! ### readings over data -/
abbrev Sl := List (Option D)
abbrev QD := D → M → Prop
/-- an exception: its class, its fields (where it has any), the cells behind it -/
abbrev XD := Value → Option (List (Str × D)) → M → Prop
abbrev DTE := XD → Sl → M → QD → Prop
abbrev DTT := XD → Sl → M → (Bool → M → Prop) → Prop
abbrev DTA := XD → Sl → M → (List D → M → Prop) → Prop
structure DEnds where
  nx : Sl → M → Prop
  rt : QD
  bk : Sl → M → Prop
  ct : Sl → M → Prop
  xc : Sl → XD
abbrev DTS := DEnds → Sl → M → Prop

structure RepS (K : PySem.W.Frag) (H : Hp) (σ : L2.St) (δ : Sl) : Prop where
  len : σ.length = δ.length
  val : ∀ (i : Nat) (d : D), δ[i]? = some (some d) → ∃ v, σ[i]? = some (some v) ∧ Rep K H v d
theorem RepS.mono {K : PySem.W.Frag} {H H' : Hp} {σ : L2.St} {δ : Sl} (e : Same H H') (r : RepS K H σ δ) : RepS K H' σ δ :=
  ⟨r.len, fun i d h => let ⟨v, a, b⟩ := r.val i d h; ⟨v, a, b.mono e⟩⟩
theorem RepS.set {K : PySem.W.Frag} {H : Hp} {σ : L2.St} {δ : Sl} (r : RepS K H σ δ) (i : Nat) {v : V} {d : D} (h : Rep K H v d) : RepS K H (σ.set i (some v)) (δ.set i (some d)) := by
  refine ⟨by rw [List.length_set, List.length_set]; exact r.len, fun j e hj => ?_⟩
  by_cases ij : i = j
  · subst ij
    by_cases hl : i < δ.length
    · rw [List.getElem?_set_self hl] at hj
      cases hj
      exact ⟨v, by rw [List.getElem?_set_self (by rw [r.len]; exact hl)], h⟩
    · rw [List.getElem?_eq_none (by rw [List.length_set]; omega)] at hj
      cases hj
  · rw [List.getElem?_set_ne ij] at hj
    obtain ⟨u, a, b⟩ := r.val j e hj
    exact ⟨u, by rw [List.getElem?_set_ne ij]; exact a, b⟩
theorem RepS.unset {K : PySem.W.Frag} {H : Hp} {σ : L2.St} {δ : Sl} (r : RepS K H σ δ) (i : Nat) (x : Option V) : RepS K H (σ.set i x) (δ.set i none) := by
  refine ⟨by rw [List.length_set, List.length_set]; exact r.len, fun j e hj => ?_⟩
  by_cases ij : i = j
  · subst ij
    by_cases hl : i < δ.length
    · rw [List.getElem?_set_self hl] at hj
      cases hj
    · rw [List.getElem?_eq_none (by rw [List.length_set]; omega)] at hj
      cases hj
  · rw [List.getElem?_set_ne ij] at hj
    obtain ⟨u, a, b⟩ := r.val j e hj
    exact ⟨u, by rw [List.getElem?_set_ne ij]; exact a, b⟩

/-- what is wanted of a value, from what is wanted of its data -/
def Ret (K : PySem.W.Frag) (Hc : Hp) (Qd : QD) (Q : VK) : Prop := ∀ d μ', Qd d μ' → ∀ v H' Hc', Same Hc Hc' → Split K H' Hc' μ' → Rep K Hc' v d → Q v H'
def RetA (K : PySem.W.Frag) (Hc : Hp) (Qd : List D → M → Prop) (Q : List V → Hp → Prop) : Prop := ∀ ds μ', Qd ds μ' → ∀ vs H' Hc', Same Hc Hc' → Split K H' Hc' μ' → RepA K Hc' vs ds → Q vs H'
def RetT (K : PySem.W.Frag) (Hc : Hp) (Qd : Bool → M → Prop) (Q : Bool → Hp → Prop) : Prop := ∀ b μ', Qd b μ' → ∀ H' Hc', Same Hc Hc' → Split K H' Hc' μ' → Q b H'
def RetN (K : PySem.W.Frag) (Hc : Hp) (Qd : Sl → M → Prop) (Q : L2.St → Hp → Prop) : Prop := ∀ δ μ', Qd δ μ' → ∀ σ H' Hc', Same Hc Hc' → Split K H' Hc' μ' → RepS K Hc' σ δ → Q σ H'
def RetX (K : PySem.W.Frag) (Hc : Hp) (Xd : XD) (E : XK) : Prop := ∀ cls fs μ', Xd cls fs μ' → ∀ d H' Hc', Same Hc Hc' → Split K H' Hc' μ' → XOk K Hc' d fs → E cls d H'
def RetW (K : PySem.W.Frag) (Hc : Hp) (Wd : Sl → XD) (W : WX) : Prop := ∀ δ cls fs μ', Wd δ cls fs μ' → ∀ σ d H' Hc', Same Hc Hc' → Split K H' Hc' μ' → RepS K Hc' σ δ → XOk K Hc' d fs → W cls d σ H'
section
variable {K : PySem.W.Frag} {Hc Hc' : Hp}
theorem Ret.mono {Qd : QD} {Q : VK} (e : Same Hc Hc') (r : Ret K Hc Qd Q) : Ret K Hc' Qd Q := fun d μ h v H H2 s => r d μ h v H H2 (e.trans s)
theorem RetT.mono {Qd : Bool → M → Prop} {Q : Bool → Hp → Prop} (e : Same Hc Hc') (r : RetT K Hc Qd Q) : RetT K Hc' Qd Q := fun d μ h H H2 s => r d μ h H H2 (e.trans s)
theorem RetA.mono {Qd : List D → M → Prop} {Q : List V → Hp → Prop} (e : Same Hc Hc') (r : RetA K Hc Qd Q) : RetA K Hc' Qd Q := fun d μ h v H H2 s => r d μ h v H H2 (e.trans s)
theorem RetN.mono {Qd : Sl → M → Prop} {Q : L2.St → Hp → Prop} (e : Same Hc Hc') (r : RetN K Hc Qd Q) : RetN K Hc' Qd Q := fun d μ h v H H2 s => r d μ h v H H2 (e.trans s)
theorem RetX.mono {Xd : XD} {E : XK} (e : Same Hc Hc') (r : RetX K Hc Xd E) : RetX K Hc' Xd E := fun c f μ h d H H2 s => r c f μ h d H H2 (e.trans s)
theorem RetW.mono {Wd : Sl → XD} {W : WX} (e : Same Hc Hc') (r : RetW K Hc Wd W) : RetW K Hc' Wd W := fun δ c f μ h σ d H H2 s => r δ c f μ h σ d H H2 (e.trans s)
theorem RetW.at {Wd : Sl → XD} {W : WX} {σ : L2.St} {δ : Sl} (r : RetW K Hc Wd W) (rs : RepS K Hc σ δ) : RetX K Hc (Wd δ) (fun cls d H => W cls d σ H) :=
  fun cls fs μ' h d H' Hc' e s x => r δ cls fs μ' h σ d H' Hc' e s (rs.mono e) x
end

def upE (K : PySem.W.Frag) (W : WX) (t : DTE) : TE := fun σ H Q => ∃ δ μ Hc Qd Xd, Split K H Hc μ ∧ RepS K Hc σ δ ∧ t Xd δ μ Qd ∧ Ret K Hc Qd Q ∧ RetX K Hc Xd (fun cls d H => W cls d σ H)
def upT (K : PySem.W.Frag) (W : WX) (t : DTT) : TT := fun σ H Q => ∃ δ μ Hc Qd Xd, Split K H Hc μ ∧ RepS K Hc σ δ ∧ t Xd δ μ Qd ∧ RetT K Hc Qd Q ∧ RetX K Hc Xd (fun cls d H => W cls d σ H)
def upA (K : PySem.W.Frag) (W : WX) (t : DTA) : TA := fun σ H Q => ∃ δ μ Hc Qd Xd, Split K H Hc μ ∧ RepS K Hc σ δ ∧ t Xd δ μ Qd ∧ RetA K Hc Qd Q ∧ RetX K Hc Xd (fun cls d H => W cls d σ H)
structure RetE (K : PySem.W.Frag) (Hc : Hp) (Dd : DEnds) (W : WX) (D : Ends) : Prop where
  nx : RetN K Hc Dd.nx D.nx
  rt : Ret K Hc Dd.rt D.rt
  bk : RetN K Hc Dd.bk D.bk
  ct : RetN K Hc Dd.ct D.ct
  xc : RetW K Hc Dd.xc W
theorem RetE.mono {K : PySem.W.Frag} {Hc Hc' : Hp} {Dd : DEnds} {W : WX} {D : Ends} (e : Same Hc Hc') (r : RetE K Hc Dd W D) : RetE K Hc' Dd W D := ⟨r.nx.mono e, r.rt.mono e, r.bk.mono e, r.ct.mono e, r.xc.mono e⟩
def upS (K : PySem.W.Frag) (W : WX) (t : DTS) : TS := fun D σ H => ∃ δ μ Hc Dd, Split K H Hc μ ∧ RepS K Hc σ δ ∧ t Dd δ μ ∧ RetE K Hc Dd W D

def DE (X : Cx) (W : WX) (e : Expr) (t : DTE) : Prop := PE X e (upE X.K W t)
def DT (X : Cx) (W : WX) (e : Expr) (t : DTT) : Prop := PT X e (upT X.K W t)
def DW (X : Cx) (W : WX) (e : Expr) (t : DTT) : Prop := PW X e (upT X.K W t)
def DA (X : Cx) (W : WX) (es : List Expr) (t : DTA) : Prop := PA X es (upA X.K W t)
def DS (X : Cx) (W : WX) (s : Stmt) (t : DTS) : Prop := PS X s (upS X.K W t)
def DSs (X : Cx) (W : WX) (ss : List Stmt) (t : DTS) : Prop := PSs X ss (upS X.K W t)

section
variable {X : Cx}
theorem PE.imp {e : Expr} {t t' : TE} (h : PE X e t) (i : ∀ σ H Q, t' σ H Q → t σ H Q) : PE X e t' := ⟨fun pins s σ H Q I w => h.run pins s σ H Q I (i σ H Q w)⟩
theorem PT.imp {e : Expr} {t t' : TT} (h : PT X e t) (i : ∀ σ H Q, t' σ H Q → t σ H Q) : PT X e t' := ⟨fun pins s σ H Q I w => h.run pins s σ H Q I (i σ H Q w)⟩
theorem PW.imp {e : Expr} {t t' : TT} (h : PW X e t) (i : ∀ σ H Q, t' σ H Q → t σ H Q) : PW X e t' := ⟨fun wh pins s σ H Q I w => h.run wh pins s σ H Q I (i σ H Q w)⟩
theorem PA.imp {es : List Expr} {t t' : TA} (h : PA X es t) (i : ∀ σ H Q, t' σ H Q → t σ H Q) : PA X es t' := ⟨fun pos pins s σ H Q I w => h.run pos pins s σ H Q I (i σ H Q w)⟩
theorem PS.imp {s : Stmt} {t t' : TS} (h : PS X s t) (i : ∀ D σ H, t' D σ H → t D σ H) : PS X s t' := ⟨fun pins s σ H D I w => h.run pins s σ H D I (i D σ H w)⟩
theorem PSs.imp {s : List Stmt} {t t' : TS} (h : PSs X s t) (i : ∀ D σ H, t' D σ H → t D σ H) : PSs X s t' := ⟨fun pins s σ H D I w => h.run pins s σ H D I (i D σ H w)⟩
end

/-- one of two ways -/
def ifB (b : Bool) (A B : Prop) : Prop := match b with
  | true => A
  | false => B
@[simp] theorem ifB_true {A B : Prop} : ifB true A B = A := rfl
@[simp] theorem ifB_false {A B : Prop} : ifB false A B = B := rfl
theorem ifB_ite {b : Bool} {A B A' B' : Prop} (h : ifB b A B) (ha : A → A') (hb : B → B') : if b = true then A' else B' := by
  cases b with
  | true => rw [if_pos rfl]; exact ha h
  | false => rw [if_neg Bool.false_ne_true]; exact hb h
theorem ifB_of {b : Bool} {A B : Prop} (ha : b = true → A) (hb : b = false → B) : ifB b A B := by
  cases b with
  | true => exact ha rfl
  | false => exact hb rfl
theorem ifB_dec {p : Prop} [Decidable p] {A B : Prop} (ha : p → A) (hb : ¬ p → B) : ifB (decide p) A B := by
  by_cases h : p
  · rw [decide_eq_true h]; exact ha h
  · rw [decide_eq_false h]; exact hb h

def OptP {α : Type} (o : Option α) (P : α → Prop) : Prop := match o with
  | some x => P x
  | none => False
theorem OptP.ex {α : Type} {o : Option α} {P : α → Prop} (h : OptP o P) : ∃ x, o = some x ∧ P x := by
  cases o with
  | none => exact h.elim
  | some x => exact ⟨x, rfl, h⟩
theorem OptP.of {α : Type} {o : Option α} {P : α → Prop} {x : α} (e : o = some x) (h : P x) : OptP o P := by rw [e]; exact h
@[simp] theorem OptP_some {α : Type} {x : α} {P : α → Prop} : OptP (some x) P = P x := rfl
/-- a value that is there -/
def OptQ (o : Option D) (Q : QD) (μ : M) : Prop := match o with
  | some d => Q d μ
  | none => False
theorem OptQ.ex {o : Option D} {Q : QD} {μ : M} (h : OptQ o Q μ) : ∃ x, o = some x ∧ Q x μ := by
  cases o with
  | none => exact h.elim
  | some x => exact ⟨x, rfl, h⟩
theorem OptQ.of {o : Option D} {Q : QD} {μ : M} {x : D} (e : o = some x) (h : Q x μ) : OptQ o Q μ := by rw [e]; exact h
@[simp] theorem OptQ_some {x : D} {Q : QD} {μ : M} : OptQ (some x) Q μ = Q x μ := rfl
def OptB (o : Option Bool) (Q : Bool → M → Prop) (μ : M) : Prop := match o with
  | some d => Q d μ
  | none => False
theorem OptB.ex {o : Option Bool} {Q : Bool → M → Prop} {μ : M} (h : OptB o Q μ) : ∃ x, o = some x ∧ Q x μ := by
  cases o with
  | none => exact h.elim
  | some x => exact ⟨x, rfl, h⟩
theorem OptB.of {o : Option Bool} {Q : Bool → M → Prop} {μ : M} {x : Bool} (e : o = some x) (h : Q x μ) : OptB o Q μ := by rw [e]; exact h
@[simp] theorem OptB_some {x : Bool} {Q : Bool → M → Prop} {μ : M} : OptB (some x) Q μ = Q x μ := rfl
/-! ### the cell behind a reference, read -/
def view (μ : M) : D → D
  | .raw (.ref p) => match cellL (μ p) with
    | some ds => .lst ds
    | none => .raw (.ref p)
  | d => d
theorem view_ref {μ : M} {p : Addr} : view μ (.raw (.ref p)) = (match cellL (μ p) with | some ds => D.lst ds | none => .raw (.ref p)) := rfl
theorem view_refs {μ : M} {p : Addr} {d : D} (h : view μ (.raw (.ref p)) = d) : (∃ ds, μ p = some (.lst ds) ∧ d = .lst ds) ∨ d = .raw (.ref p) := by
  rw [view_ref] at h
  cases e : cellL (μ p) with
  | none => rw [e] at h; exact .inr h.symm
  | some ds => rw [e] at h; exact .inl ⟨ds, cellL_some e, h.symm⟩
section
variable {K : PySem.W.Frag} {H Hc : Hp} {μ : M} {v : V} {d : D}
theorem view_lst {ds : List D} (s : Split K H Hc μ) (r : Rep K Hc v d) (h : view μ d = .lst ds) : ∃ a vs, v = .ref a ∧ H a = some (.lst vs) ∧ RepA K Hc vs ds := by
  cases r with
  | lst hs ha =>
    cases (show D.lst _ = D.lst ds from h)
    exact ⟨_, _, rfl, s.same _ _ hs, ha⟩
  | raw =>
    cases v with
    | ref p =>
      rcases view_refs h with ⟨es, e, h'⟩ | h'
      · cases h'
        obtain ⟨_, o, ho, vs, rfl, ra⟩ := s.cell p _ e
        exact ⟨p, vs, rfl, ho, ra⟩
      · cases h'
    | _ => cases h
  | _ => cases h
theorem view_tup {ds : List D} (s : Split K H Hc μ) (r : Rep K Hc v d) (h : view μ d = .tup ds) : ∃ a vs, v = .ref a ∧ SqT K H a vs ∧ RepA K Hc vs ds := by
  cases r with
  | tup hs ha =>
    cases (show D.tup _ = D.tup ds from h)
    exact ⟨_, _, rfl, same_t s.same hs, ha⟩
  | raw =>
    cases v with
    | ref p =>
      rcases view_refs h with ⟨es, e, h'⟩ | h' <;> cases h'
    | _ => cases h
  | _ => cases h
theorem view_int {i : Int} (r : Rep K Hc v d) (h : view μ d = .int i) : v = .int i := by
  cases r with
  | int j => cases (show D.int _ = D.int i from h); rfl
  | raw =>
    cases v with
    | ref p =>
      rcases view_refs h with ⟨es, e, h'⟩ | h' <;> cases h'
    | _ => cases h
  | _ => cases h
theorem view_str {x : Str} (r : Rep K Hc v d) (h : view μ d = .str x) : v = .str x := by
  cases r with
  | str j => cases (show D.str _ = D.str x from h); rfl
  | raw =>
    cases v with
    | ref p =>
      rcases view_refs h with ⟨es, e, h'⟩ | h' <;> cases h'
    | _ => cases h
  | _ => cases h
theorem view_scr {ns : List Int} (s : Split K H Hc μ) (r : Rep K Hc v d) (h : view μ d = .scr ns) : ∃ a, v = .ref a ∧ SqL K H a (ns.map V.int) := by
  cases r with
  | scr hs => cases (show D.scr _ = D.scr ns from h); exact ⟨_, rfl, s.same.seq hs⟩
  | raw =>
    cases v with
    | ref p =>
      rcases view_refs h with ⟨es, e, h'⟩ | h' <;> cases h'
    | _ => cases h
  | _ => cases h
end
end DL
set_option Elab.async false
set_option linter.all false
set_option maxRecDepth 100000
set_option maxHeartbeats 2000000
/-! The data layer: expressions. -/
namespace DL
open PySem PySem.Spec L2

theorem view_rep {K : PySem.W.Frag} {H Hc : Hp} {μ : M} {v : V} {d : D} (s : Split K H Hc μ) (r : Rep K Hc v d) : Rep K H v (view μ d) := by
  cases r with
  | raw =>
    cases v with
    | ref p =>
      rcases view_refs (μ := μ) (p := p) rfl with ⟨es, e, h'⟩ | h'
      · rw [h']
        obtain ⟨_, o, ho, vs, rfl, ra⟩ := s.cell p _ e
        exact .lst ho (ra.mono s.same)
      · rw [h']
        exact .raw _
    | _ => exact .raw _
  | non => exact .non
  | bl b => exact .bl b
  | int i => exact .int i
  | str x => exact .str x
  | lst h a => exact .lst (s.same _ _ h) (a.mono s.same)
  | tup h a => exact .tup (same_t s.same h) (a.mono s.same)
  | scr h => exact .scr (s.same.seq h)
  | emp h => exact .emp (s.same _ _ h)

@[simp] theorem view_non {μ : M} : view μ .non = .non := rfl
@[simp] theorem view_bl {μ : M} {b} : view μ (.bl b) = .bl b := rfl
@[simp] theorem view_int' {μ : M} {i} : view μ (.int i) = .int i := rfl
@[simp] theorem view_str' {μ : M} {i} : view μ (.str i) = .str i := rfl
@[simp] theorem view_lst' {μ : M} {i} : view μ (.lst i) = .lst i := rfl
@[simp] theorem view_tup' {μ : M} {i} : view μ (.tup i) = .tup i := rfl
@[simp] theorem view_emp' {μ : M} : view μ .emp = .emp := rfl
@[simp] theorem view_scr' {μ : M} {i} : view μ (.scr i) = .scr i := rfl
theorem view_cell {μ : M} {p : Addr} {ds : List D} (h : μ p = some (.lst ds)) : view μ (.raw (.ref p)) = .lst ds := by
  rw [view_ref, h]
  rfl

theorem Ret.new {K : PySem.W.Frag} {H Hc : Hp} {μ : M} {Qd : QD} {Q : VK} {vs : List V} {ds : List D} (rt : Ret K Hc Qd Q) (s : Split K H Hc μ) (ra : RepA K Hc vs ds) (q : Qd (.lst ds) μ) : ∀ p, H p = none → Q (.ref p) (upd H p (.lst vs)) := fun p hp => by
  have f := (s.fresh hp).2
  exact rt _ _ q _ _ (upd Hc p (.lst vs)) (same_new f) (s.data hp) (.lst upd_same (ra.mono (same_new f)))
theorem Ret.newT {K : PySem.W.Frag} {H Hc : Hp} {μ : M} {Qd : QD} {Q : VK} {vs : List V} {ds : List D} (rt : Ret K Hc Qd Q) (s : Split K H Hc μ) (ra : RepA K Hc vs ds) (q : Qd (.tup ds) μ) : ∀ p, H p = none → Q (.ref p) (upd H p (.tup vs)) := fun p hp => by
  have f := (s.fresh hp).2
  exact rt _ _ q _ _ (upd Hc p (.tup vs)) (same_new f) (s.data hp) (.tup (.inl (.inl upd_same)) (ra.mono (same_new f)))
theorem Ret.newC {K : PySem.W.Frag} {H Hc : Hp} {μ : M} {Qd : QD} {Q : VK} {vs : List V} {ds : List D} (rt : Ret K Hc Qd Q) (s : Split K H Hc μ) (ra : RepA K Hc vs ds) (q : ∀ p, μ p = none → Qd (.raw (.ref p)) (updM μ p (.lst ds))) : ∀ p, H p = none → Q (.ref p) (upd H p (.lst vs)) := fun p hp =>
  rt _ _ (q p (s.fresh hp).1) _ _ Hc (Same.refl Hc) (s.new hp ⟨vs, rfl, ra⟩) (.raw _)
theorem Ret.val {K : PySem.W.Frag} {H Hc : Hp} {μ : M} {Qd : QD} {Q : VK} {v : V} {d : D} (rt : Ret K Hc Qd Q) (s : Split K H Hc μ) (r : Rep K Hc v d) (q : Qd d μ) : Q v H := rt _ _ q _ _ Hc (Same.refl Hc) s r

/-! ### two operands -/
abbrev DR2 := D → D → M → QD → Prop
def LOp (K : PySem.W.Frag) (r : R2) (g : DR2) : Prop := ∀ (x y : V) (d e : D) (H Hc : Hp) (μ : M) (Q : VK) (Qd : QD), Split K H Hc μ → Rep K Hc x d → Rep K Hc y e → g d e μ Qd → Ret K Hc Qd Q → r x y H Q
def kOp2 (g : DR2) (x : D) (Q : QD) (y : D) (μ : M) : Prop := g x y μ Q
def kOp1 (g : DR2) (tb : DTE) (W : XD) (δ : Sl) (Q : QD) (x : D) (μ : M) : Prop := tb W δ μ (kOp2 g x Q)
def dOp (g : DR2) (ta tb : DTE) (W : XD) (δ : Sl) (μ : M) (Q : QD) : Prop := ta W δ μ (kOp1 g tb W δ Q)
theorem lift2 {K : PySem.W.Frag} {W : WX} {r : R2} {g : DR2} {ta tb : DTE} (l : LOp K r g) : ∀ σ H Q, upE K W (dOp g ta tb) σ H Q → tOp r (upE K W ta) (upE K W tb) σ H Q :=
  fun σ H Q ⟨δ, μ, Hc, Qd, Xd, s, rs, h, rt, rx⟩ => ⟨δ, μ, Hc, _, Xd, s, rs, h, fun x μ1 h1 v H1 Hc1 e1 s1 r1 =>
    ⟨δ, μ1, Hc1, _, Xd, s1, rs.mono e1, h1, fun y μ2 h2 w H2 Hc2 e2 s2 r2 => l v w x y H2 Hc2 μ2 Q Qd s2 (r1.mono e2) r2 h2 (rt.mono (e1.trans e2)), rx.mono e1⟩, rx⟩
theorem OpR.or {X : Cx} {f : Value → Value → Sem Value} {r1 r2 : R2} (h1 : OpR X f r1) (h2 : OpR X f r2) : OpR X f (fun x y H Q => r1 x y H Q ∨ r2 x y H Q) :=
  fun pins s σ H x y v u Q I rx ry h => h.elim (h1 pins s σ H x y v u Q I rx ry) (h2 pins s σ H x y v u Q I rx ry)

def gAdd : DR2 := fun a b μ Q => match view μ a, view μ b with
  | .int i, .int j => Q (.int (i + j)) μ
  | .str x, .str y => x.length + y.length ≤ sizeLine ∧ Q (.str (x ++ y)) μ
  | .lst xs, .lst ys => xs.length + ys.length ≤ sizeLine ∧ Q (.lst (xs ++ ys)) μ
  | .tup xs, .tup ys => xs.length + ys.length ≤ sizeLine ∧ Q (.tup (xs ++ ys)) μ
  | _, _ => False
/-- ints alone -/
def gI (c : Int → Int → Prop) (f : Int → Int → D) : DR2 := fun a b μ Q => match view μ a, view μ b with
  | .int i, .int j => c i j ∧ Q (f i j) μ
  | _, _ => False
def gI0 (f : Int → Int → D) : DR2 := fun a b μ Q => match view μ a, view μ b with
  | .int i, .int j => Q (f i j) μ
  | _, _ => False
def gMul : DR2 := fun a b μ Q => match view μ a, view μ b with
  | .int i, .int j => IntMulOk i j ∧ Q (.int (i * j)) μ
  | .lst xs, .int k => (-(2 ^ 63) ≤ k ∧ k < 2 ^ 63 ∧ xs.length * k.toNat ≤ sizeLine) ∧ Q (.lst (List.replicate k.toNat xs).flatten) μ
  | .tup xs, .int k => (xs ≠ [] ∧ 2 ≤ k ∧ k ≤ 1000 ∧ xs.length ≤ 1000) ∧ Q (.tup (List.replicate k.toNat xs).flatten) μ
  | _, _ => False
section
variable {K : PySem.W.Frag}
theorem RepA.rep {H : Hp} {xs : List V} {us : List D} (h : RepA K H xs us) : ∀ k : Nat, RepA K H (List.replicate k xs).flatten (List.replicate k us).flatten
  | 0 => .nil
  | k + 1 => by
    rw [List.replicate_succ, List.replicate_succ, List.flatten_cons, List.flatten_cons]
    exact RepA.append h (RepA.rep h k)
theorem l_I {c : Int → Int → Prop} {fv : Int → Int → V} {f : Int → Int → D} (hf : ∀ H i j, Rep K H (fv i j) (f i j)) : LOp K (rI c fv) (gI c f) := by
  intro x y d e H Hc μ Q Qd s rx ry h rt
  unfold gI at h
  split at h
  · rename_i i j e1 e2
    exact ⟨i, j, view_int rx e1, view_int ry e2, h.1, rt.val s (hf _ _ _) h.2⟩
  · exact h.elim
theorem l_I0 {fv : Int → Int → V} {f : Int → Int → D} (hf : ∀ H i j, Rep K H (fv i j) (f i j)) : LOp K (rI0 fv) (gI0 f) := by
  intro x y d e H Hc μ Q Qd s rx ry h rt
  unfold gI0 at h
  split at h
  · rename_i i j e1 e2
    exact ⟨i, j, view_int rx e1, view_int ry e2, rt.val s (hf _ _ _) h⟩
  · exact h.elim
def rAddAll (K : PySem.W.Frag) : R2 := fun x y H Q => ((rI0 fun i j => .int (i + j)) x y H Q ∨ (fun x y H Q => ∃ i j, x = V.str i ∧ y = .str j ∧ i.length + j.length ≤ sizeLine ∧ Q (.str (i ++ j)) H) x y H Q) ∨ (rCat x y H Q ∨ rCatA K x y H Q)
theorem l_add : LOp K (rAddAll K) gAdd := by
  intro x y d e H Hc μ Q Qd s rx ry h rt
  unfold gAdd at h
  split at h
  · rename_i i j e1 e2
    exact .inl (.inl ⟨i, j, view_int rx e1, view_int ry e2, rt.val s (.int _) h⟩)
  · rename_i i j e1 e2
    exact .inl (.inr ⟨i, j, view_str rx e1, view_str ry e2, h.1, rt.val s (.str _) h.2⟩)
  · rename_i xs ys e1 e2
    obtain ⟨a, vs, rfl, ha, ra⟩ := view_lst s rx e1
    obtain ⟨b, ws, rfl, hb, rb⟩ := view_lst s ry e2
    exact .inr (.inl ⟨a, b, vs, ws, rfl, rfl, ha, hb, by rw [ra.length, rb.length]; exact h.1, rt.new s (ra.append rb) h.2⟩)
  · rename_i xs ys e1 e2
    have own : ∀ {v : V} {d : D} {zs : List D}, Rep K Hc v d → view μ d = .tup zs → Rep K Hc v (.tup zs) := fun {v d zs} r e => by
      cases r with
      | tup h3 h4 =>
        cases (show D.tup _ = D.tup _ from e)
        exact .tup h3 h4
      | raw =>
        exfalso
        cases v with
        | ref a =>
          rcases view_refs e with ⟨es, _, h'⟩ | h' <;> cases h'
        | _ => cases e
      | _ => cases e
    have o1 := own rx e1
    have o2 := own ry e2
    obtain ⟨a, vs, rfl, ha, ra⟩ := view_tup s rx e1
    obtain ⟨b, ws, rfl, hb, rb⟩ := view_tup s ry e2
    refine .inr (.inr ⟨a, b, vs, ws, rfl, rfl, ha, hb, by rw [ra.length, rb.length]; exact h.1, fun z => ?_, fun _ z => ?_, fun _ _ => rt.newT s (ra.append rb) h.2⟩)
    · subst z
      cases ra
      rw [List.nil_append] at h
      exact rt.val s o2 h.2
    · subst z
      cases rb
      rw [List.append_nil] at h
      exact rt.val s o1 h.2
  · exact h.elim
def rMulAll (K : PySem.W.Frag) : R2 := fun x y H Q => (rI IntMulOk fun i j => .int (i * j)) x y H Q ∨ (rRep x y H Q ∨ rRepT K x y H Q)
theorem l_mul : LOp K (rMulAll K) gMul := by
  intro x y d e H Hc μ Q Qd s rx ry h rt
  unfold gMul at h
  split at h
  · rename_i i j e1 e2
    exact .inl ⟨i, j, view_int rx e1, view_int ry e2, h.1, rt.val s (.int _) h.2⟩
  · rename_i xs k e1 e2
    obtain ⟨a, vs, rfl, ha, ra⟩ := view_lst s rx e1
    exact .inr (.inl ⟨a, k, vs, rfl, view_int ry e2, ha, h.1.1, h.1.2.1, by rw [ra.length]; exact h.1.2.2, rt.new s (ra.rep _) h.2⟩)
  · rename_i xs k e1 e2
    obtain ⟨a, vs, rfl, ha, ra⟩ := view_tup s rx e1
    refine .inr (.inr ⟨a, k, vs, rfl, view_int ry e2, ha, fun z => ?_, h.1.2.1, h.1.2.2.1, by rw [ra.length]; exact h.1.2.2.2, rt.newT s (ra.rep _) h.2⟩)
    subst z
    cases ra
    exact h.1.1 rfl
  · exact h.elim
end
theorem op_addAll {X : Cx} : OpR X (binaryOp .Add) (rAddAll X.K) := (op_add.or op_add_str).or (op_cat.or op_catA)
theorem op_mulAll {X : Cx} : OpR X (binaryOp .Mult) (rMulAll X.K) :=
  OpR.or (opI fun _ _ _ _ _ _ _ hc q => PyProof.Rows.mul_int q hc) (OpR.or op_rep op_repT)
def CDivD (i j : Int) : Prop := j ≠ 0 ∧ Builtin.divisionGoesByPylong i j = false
theorem op_fdivD {X : Cx} : OpR X (binaryOp .FloorDiv) (rI CDivD fun i j => .int (i.fdiv j)) := opI fun _ _ _ _ _ _ _ hc q => PyProof.Rows.floordiv_int hc.1 q (.inl hc.2)

/-! ### equality of data -/
mutual
def toP : D → PyData
  | .non => .none
  | .bl b => .bool b
  | .int i => .int i
  | .str x => .str x
  | .lst xs => .list (toPs xs)
  | .tup xs => .tuple (toPs xs)
  | .scr _ => .none
  | .raw _ => .none
  | .emp => .none
def toPs : List D → List PyData
  | [] => []
  | x :: xs => toP x :: toPs xs
end
def okN : Nat → D → Bool
  | _, .non => true
  | _, .bl _ => true
  | _, .int _ => true
  | _, .str x => PyData.strOk x
  | n + 1, .lst xs => xs.all (okN n)
  | n + 1, .tup xs => xs.all (okN n)
  | _, _ => false
def eqD (a b : D) : Bool := PyData.eqv (toP a) (toP b)
mutual
theorem dp_of {K : PySem.W.Frag} {H : Hp} : ∀ {n : Nat} {v : V} {d : D}, okN n d = true → Rep K H v d → Dp K H v (toP d)
  | _, _, _, _, .non => .non
  | _, _, _, _, .bl b => .bl b
  | _, _, _, _, .int i => .int i
  | _, _, _, _, .str x => .str x
  | n + 1, _, _, h, .lst a r => .lst (.inl (.inl a)) (dps_of (n := n) (by simpa [okN] using h) r)
  | n + 1, _, _, h, .tup a r => .tup a (dps_of (n := n) (by simpa [okN] using h) r)
  | 0, _, _, h, .lst a r => by simp [okN] at h
  | 0, _, _, h, .tup a r => by simp [okN] at h
  | n, _, _, h, .scr a => by cases n <;> simp [okN] at h
  | n, v, _, h, .raw _ => by cases n <;> simp [okN] at h
  | n, _, _, h, .emp _ => by cases n <;> simp [okN] at h
theorem dps_of {K : PySem.W.Frag} {H : Hp} : ∀ {n : Nat} {vs : List V} {ds : List D}, (∀ d ∈ ds, okN n d = true) → RepA K H vs ds → DpAll K H vs (toPs ds)
  | _, _, _, _, .nil => .nil
  | n, _, _, h, .cons a r => .cons (dp_of (h _ List.mem_cons_self) a) (dps_of (fun d hd => h d (List.mem_cons_of_mem _ hd)) r)
end
theorem toPs_eq : ∀ xs : List D, toPs xs = xs.map toP
  | [] => rfl
  | x :: xs => by rw [toPs, toPs_eq xs, List.map_cons]
theorem okN_lay : ∀ (n : Nat) (d : D), okN n d = true → (toP d).canLay0 = true ∧ (toP d).depth ≤ n
  | n, .non, _ => by simp [toP, PyData.canLay0, PyData.depth]
  | n, .bl _, _ => by simp [toP, PyData.canLay0, PyData.depth]
  | n, .int _, _ => by simp [toP, PyData.canLay0, PyData.depth]
  | n, .str x, h => by
    have h' : PyData.strOk x = true := by cases n <;> simpa [okN] using h
    simp [toP, PyData.canLay0, PyData.depth, h']
  | 0, .lst xs, h => by simp [okN] at h
  | 0, .tup xs, h => by simp [okN] at h
  | n, .scr _, h => by cases n <;> simp [okN] at h
  | n, .raw _, h => by cases n <;> simp [okN] at h
  | n, .emp, h => by cases n <;> simp [okN] at h
  | n + 1, .lst xs, h => by
    have h' : ∀ d ∈ xs, okN n d = true := by simpa [okN] using h
    have key : ∀ ys : List D, (∀ d ∈ ys, okN n d = true) → PyData.canLayAll0 (toPs ys) = true ∧ PyData.depthAll (toPs ys) ≤ n := by
      intro ys
      induction ys with
      | nil => intro _; simp [toPs, PyData.canLayAll0, PyData.depthAll]
      | cons y ys ih =>
        intro hy
        have a := okN_lay n y (hy y List.mem_cons_self)
        have b := ih fun d hd => hy d (List.mem_cons_of_mem _ hd)
        simp only [toPs, PyData.canLayAll0, PyData.depthAll]
        exact ⟨by rw [a.1, b.1]; rfl, by omega⟩
    have z := key xs h'
    simp only [toP, PyData.canLay0, PyData.depth]
    exact ⟨z.1, by omega⟩
  | n + 1, .tup xs, h => by
    have h' : ∀ d ∈ xs, okN n d = true := by simpa [okN] using h
    have key : ∀ ys : List D, (∀ d ∈ ys, okN n d = true) → PyData.canLayAll0 (toPs ys) = true ∧ PyData.depthAll (toPs ys) ≤ n := by
      intro ys
      induction ys with
      | nil => intro _; simp [toPs, PyData.canLayAll0, PyData.depthAll]
      | cons y ys ih =>
        intro hy
        have a := okN_lay n y (hy y List.mem_cons_self)
        have b := ih fun d hd => hy d (List.mem_cons_of_mem _ hd)
        simp only [toPs, PyData.canLayAll0, PyData.depthAll]
        exact ⟨by rw [a.1, b.1]; rfl, by omega⟩
    have z := key xs h'
    simp only [toP, PyData.canLay0, PyData.depth]
    exact ⟨z.1, by omega⟩
theorem shaped_of {d : D} (h : okN 64 d = true) : SeqAt.shaped (toP d) = true := by
  have z := okN_lay 64 d h
  unfold SeqAt.shaped
  rw [z.1, decide_eq_true z.2]
  rfl
def gEq : DR2 := fun a b μ Q => okN 64 (view μ a) = true ∧ okN 64 (view μ b) = true ∧ Q (.bl (eqD (view μ a) (view μ b))) μ
def gNe : DR2 := fun a b μ Q => okN 64 (view μ a) = true ∧ okN 64 (view μ b) = true ∧ Q (.bl (!eqD (view μ a) (view μ b))) μ
theorem l_eq {K : PySem.W.Frag} : LOp K (rEqD K) gEq := fun x y d e H Hc μ Q Qd s rx ry h rt =>
  ⟨_, _, dp_of h.1 (view_rep s rx), dp_of h.2.1 (view_rep s ry), shaped_of h.1, shaped_of h.2.1, rt.val s (.bl _) h.2.2⟩
theorem l_ne {K : PySem.W.Frag} : LOp K (rNeD K) gNe := fun x y d e H Hc μ Q Qd s rx ry h rt =>
  ⟨_, _, dp_of h.1 (view_rep s rx), dp_of h.2.1 (view_rep s ry), shaped_of h.1, shaped_of h.2.1, rt.val s (.bl _) h.2.2⟩

/-! ### is -/
def isN : D → Option Bool
  | .non => some true
  | .raw .non => some true
  | _ => some false
def gIs (neg : Bool) : DR2 := fun a b μ Q => match a, b with
  | .bl x, .bl y => Q (.bl (neg ^^ decide (x = y))) μ
  | .raw v, .non => Q (.bl (neg ^^ decide (v = .non))) μ
  | .non, .non => Q (.bl (neg ^^ true)) μ
  | _, .non => Q (.bl (neg ^^ false)) μ
  | _, _ => False
def rIsAll : R2 := fun x y H Q => (y = .non ∧ Q (.bl (decide (x = .non))) H) ∨ rIsB x y H Q
def rNotAll : R2 := fun x y H Q => (y = .non ∧ Q (.bl (!decide (x = .non))) H) ∨ rNotB x y H Q
theorem l_is {K : PySem.W.Frag} : LOp K rIsAll (gIs false) := by
  intro x y d e H Hc μ Q Qd s rx ry h rt
  unfold gIs at h
  split at h
  · cases rx; cases ry
    rename_i a b
    exact .inr ⟨a, b, rfl, rfl, rt.val s (.bl _) (by simpa using h)⟩
  · cases rx; cases ry
    exact .inl ⟨rfl, rt.val s (.bl _) (by simpa using h)⟩
  · cases rx; cases ry
    exact .inl ⟨rfl, rt.val s (.bl _) (by simpa using h)⟩
  · rename_i n1 n2
    cases ry
    refine .inl ⟨rfl, rt.val s (.bl _) ?_⟩
    have e : decide (x = V.non) = false := decide_eq_false fun z => by
      subst z
      cases rx
      · exact n2 rfl
      · exact n1 _ rfl
    rw [e]
    simpa using h
  · exact h.elim
theorem l_isnot {K : PySem.W.Frag} : LOp K rNotAll (gIs true) := by
  intro x y d e H Hc μ Q Qd s rx ry h rt
  unfold gIs at h
  split at h
  · cases rx; cases ry
    rename_i a b
    exact .inr ⟨a, b, rfl, rfl, rt.val s (.bl _) (by simpa using h)⟩
  · cases rx; cases ry
    exact .inl ⟨rfl, rt.val s (.bl _) (by simpa using h)⟩
  · cases rx; cases ry
    exact .inl ⟨rfl, rt.val s (.bl _) (by simpa using h)⟩
  · rename_i n1 n2
    cases ry
    refine .inl ⟨rfl, rt.val s (.bl _) ?_⟩
    have e : decide (x = V.non) = false := decide_eq_false fun z => by
      subst z
      cases rx
      · exact n2 rfl
      · exact n1 _ rfl
    rw [e]
    simpa using h
  · exact h.elim

/-! ### items -/
def gIx : DR2 := fun a b μ Q => match view μ a, view μ b with
  | .lst xs, .int i => OptQ (atI xs i) Q μ
  | .tup xs, .int i => OptQ (atI xs i) Q μ
  | .scr ns, .int i => OptQ ((atI ns i).map D.int) Q μ
  | .str z, .int i => z.length ≤ sizeLine ∧ OptQ ((atI z.cps.toList i).map fun c => .str ⟨#[c]⟩) Q μ
  | _, _ => False
theorem atI_rep {K : PySem.W.Frag} {H : Hp} {vs : List V} {ds : List D} {i : Int} {d : D} (r : RepA K H vs ds) (h : atI ds i = some d) : ∃ v, atI vs i = some v ∧ Rep K H v d := by
  unfold atI at h ⊢
  rw [r.length]
  cases e : ixN ds.length i with
  | none => rw [e] at h; cases h
  | some j =>
    rw [e] at h
    exact r.get h
theorem atI_map {α β : Type} {f : α → β} {xs : List α} {i : Int} {x : α} (h : atI xs i = some x) : atI (xs.map f) i = some (f x) := by
  unfold atI at h ⊢
  rw [List.length_map]
  cases e : ixN xs.length i with
  | none => rw [e] at h; cases h
  | some j =>
    rw [e] at h
    show (xs.map f)[j]? = some (f x)
    rw [List.getElem?_map, show xs[j]? = some x from h]
    rfl
theorem l_ix {K : PySem.W.Frag} : LOp K (rIx K) gIx := by
  intro x y d e H Hc μ Q Qd s rx ry h rt
  unfold gIx at h
  split at h
  · rename_i xs i e1 e2
    obtain ⟨a, vs, rfl, ha, ra⟩ := view_lst s rx e1
    obtain ⟨z, hz, hq⟩ := h.ex
    obtain ⟨v, hv, rv⟩ := atI_rep ra hz
    exact .inl ⟨a, vs, i, v, rfl, view_int ry e2, SqL.of ha, hv, rt.val s rv hq⟩
  · rename_i xs i e1 e2
    obtain ⟨a, vs, rfl, ha, ra⟩ := view_tup s rx e1
    obtain ⟨z, hz, hq⟩ := h.ex
    obtain ⟨v, hv, rv⟩ := atI_rep ra hz
    exact .inr (.inl ⟨a, vs, i, v, rfl, view_int ry e2, ha, hv, rt.val s rv hq⟩)
  · rename_i ns i e1 e2
    obtain ⟨a, rfl, ha⟩ := view_scr s rx e1
    obtain ⟨z, hz, hq⟩ := h.ex
    obtain ⟨n, hn, rfl⟩ := Option.map_eq_some_iff.mp hz
    exact .inl ⟨a, _, i, _, rfl, view_int ry e2, ha, atI_map hn, rt.val s (.int _) hq⟩
  · rename_i z i e1 e2
    obtain ⟨c', hc', hq⟩ := h.2.ex
    obtain ⟨c, hc, rfl⟩ := Option.map_eq_some_iff.mp hc'
    exact .inr (.inr ⟨z, i, c, view_str rx e1, view_int ry e2, h.1, hc, rt.val s (.str _) hq⟩)
  · exact h.elim

/-! ### x in xs, of flat things -/
def flatD : D → Bool
  | .non => true
  | .bl _ => true
  | .int _ => true
  | .str _ => true
  | _ => false
def inD (x : D) (xs : List D) : Bool := xs.any fun y => eqD y x
def gIn (neg : Bool) : DR2 := fun a b μ Q => match view μ b with
  | .lst xs => flatD a = true ∧ xs.all flatD = true ∧ Q (.bl (neg ^^ inD a xs)) μ
  | .tup xs => flatD a = true ∧ xs.all flatD = true ∧ Q (.bl (neg ^^ inD a xs)) μ
  | .str z => match a with
    | .str y => Q (.bl (neg ^^ !(Builtin.Str.occurrences z y 0 z.length 1).isEmpty)) μ
    | _ => False
  | _ => False
theorem flat_rep {K : PySem.W.Frag} {H : Hp} {v : V} {d : D} (r : Rep K H v d) (h : flatD d = true) : flatV v = true ∧ ∀ {w : V} {e : D}, Rep K H w e → flatD e = true → eqV w v = eqD e d := by
  cases r with
  | non => refine ⟨rfl, fun r' h' => ?_⟩; cases r' <;> first | rfl | cases h'
  | bl => refine ⟨rfl, fun r' h' => ?_⟩; cases r' <;> first | rfl | cases h'
  | int => refine ⟨rfl, fun r' h' => ?_⟩; cases r' <;> first | rfl | cases h'
  | str => refine ⟨rfl, fun r' h' => ?_⟩; cases r' <;> first | rfl | cases h'
  | _ => cases h
theorem flat_all {K : PySem.W.Frag} {H : Hp} {v : V} {d : D} (r : Rep K H v d) (h : flatD d = true) : ∀ {vs : List V} {ds : List D}, RepA K H vs ds → ds.all flatD = true → vs.all flatV = true ∧ inV v vs = inD d ds
  | _, _, .nil, _ => ⟨rfl, rfl⟩
  | _, _, .cons a ra, hf => by
    rw [List.all_cons, Bool.and_eq_true] at hf
    obtain ⟨h1, h2⟩ := flat_all r h ra hf.2
    obtain ⟨h3, _⟩ := flat_rep a hf.1
    refine ⟨by rw [List.all_cons, h3, h1]; rfl, ?_⟩
    unfold inV inD at h2 ⊢
    rw [List.any_cons, List.any_cons, h2, (flat_rep r h).2 a hf.1]
def rInAll (K : PySem.W.Frag) : R2 := fun x y H Q => rIn K false x y H Q ∨ (fun x y H Q => ∃ i j, x = V.str i ∧ y = .str j ∧ Q (.bl (!(Builtin.Str.occurrences j i 0 j.length 1).isEmpty)) H) x y H Q
def rNotInAll (K : PySem.W.Frag) : R2 := fun x y H Q => rIn K true x y H Q ∨ (fun x y H Q => ∃ i j, x = V.str i ∧ y = .str j ∧ Q (.bl !!(Builtin.Str.occurrences j i 0 j.length 1).isEmpty) H) x y H Q
theorem l_in {K : PySem.W.Frag} : LOp K (rInAll K) (gIn false) := by
  intro x y d e H Hc μ Q Qd s rx ry h rt
  unfold gIn at h
  split at h
  · rename_i xs e1
    obtain ⟨a, vs, rfl, ha, ra⟩ := view_lst s ry e1
    obtain ⟨z1, z2⟩ := flat_all rx h.1 ra h.2.1
    exact .inl ⟨a, vs, rfl, .inl (SqL.of ha), (flat_rep rx h.1).1, z1, rt.val s (.bl _) (by simpa [z2] using h.2.2)⟩
  · rename_i xs e1
    obtain ⟨a, vs, rfl, ha, ra⟩ := view_tup s ry e1
    obtain ⟨z1, z2⟩ := flat_all rx h.1 ra h.2.1
    exact .inl ⟨a, vs, rfl, .inr ha, (flat_rep rx h.1).1, z1, rt.val s (.bl _) (by simpa [z2] using h.2.2)⟩
  · rename_i z e1
    split at h
    · cases rx
      exact .inr ⟨_, z, rfl, view_str ry e1, rt.val s (.bl _) (by simpa using h)⟩
    · exact h.elim
  · exact h.elim
theorem l_notin {K : PySem.W.Frag} : LOp K (rNotInAll K) (gIn true) := by
  intro x y d e H Hc μ Q Qd s rx ry h rt
  unfold gIn at h
  split at h
  · rename_i xs e1
    obtain ⟨a, vs, rfl, ha, ra⟩ := view_lst s ry e1
    obtain ⟨z1, z2⟩ := flat_all rx h.1 ra h.2.1
    exact .inl ⟨a, vs, rfl, .inl (SqL.of ha), (flat_rep rx h.1).1, z1, rt.val s (.bl _) (by simpa [z2] using h.2.2)⟩
  · rename_i xs e1
    obtain ⟨a, vs, rfl, ha, ra⟩ := view_tup s ry e1
    obtain ⟨z1, z2⟩ := flat_all rx h.1 ra h.2.1
    exact .inl ⟨a, vs, rfl, .inr ha, (flat_rep rx h.1).1, z1, rt.val s (.bl _) (by simpa [z2] using h.2.2)⟩
  · rename_i z e1
    split at h
    · cases rx
      exact .inr ⟨_, z, rfl, view_str ry e1, rt.val s (.bl _) (by simpa using h)⟩
    · exact h.elim
  · exact h.elim

/-! ### the rules -/
section
variable {X : Cx} {W : WX} {a b c e : Expr} {pos : Pos} {ta tb tc te : DTE}
def dVar (i : Nat) (_ : XD) (δ : Sl) (μ : M) (Q : QD) : Prop := match δ[i]? with
  | some (some d) => Q d μ
  | _ => False
def dC (d : D) (_ : XD) (_ : Sl) (μ : M) (Q : QD) : Prop := Q d μ
theorem de_var (i : Nat) {x : Str} (hN : X.N[i]? = some x := by rfl) (hv : Vis X.env.scope x := by first | exact Or.inl rfl | exact Or.inr (Or.inl rfl) | exact Or.inr (Or.inr rfl)) (hd : (x == ("__debug__" : Str)) = false := by decide)
    (hcd : (x == ("__classdict__" : Str)) = false := by decide) : DE X W (.Name x pos) (dVar i) := PE.imp (pv i hN hv hd hcd) fun σ H Q ⟨δ, μ, Hc, Qd, Xd, s, rs, h, rt, rx⟩ => by
  unfold dVar at h
  split at h
  · rename_i d e1
    obtain ⟨v, h1, h2⟩ := rs.val i d e1
    exact ⟨v, h1, rt.val s h2 h⟩
  · exact h.elim
theorem de_c {v : V} {d : D} (h : PE X e (tC v)) (r : ∀ Hc, Rep X.K Hc v d) : DE X W e (dC d) := PE.imp h fun σ H Q ⟨δ, μ, Hc, Qd, Xd, s, rs, h, rt, rx⟩ => rt.val s (r Hc) h
theorem de_int {i : Int} {j : Nat} : DE X W (.Constant (.int i) j pos) (dC (.int i)) := de_c pe_int fun _ => .int _
theorem de_bl {i : Bool} {j : Nat} : DE X W (.Constant (.bool i) j pos) (dC (.bl i)) := de_c pe_bl fun _ => .bl _
theorem de_non {j : Nat} : DE X W (.Constant .none j pos) (dC .non) := de_c pe_non fun _ => .non
theorem de_str {i : Str} {j : Nat} : DE X W (.Constant (.str i) j pos) (dC (.str i)) := de_c pe_str fun _ => .str _
/-- a constant of the module -/
theorem de_glob {x : Str} {v : V} {u : Value} {d : D} (hg : Gl X x) (hm : X.mg x = some u) (r : RelV v u) (rp : ∀ Hc, Rep X.K Hc v d) (hd : (x == ("__debug__" : Str)) = false := by decide) : DE X W (.Name x pos) (dC d) := de_c (pe_glob hg hm r hd) rp

theorem de_op {op : Operator} {r : R2} {g : DR2} (ho : OpR X (binaryOp op) r) (l : LOp X.K r g) (ha : DE X W a ta) (hb : DE X W b tb) : DE X W (.BinOp a op b pos) (dOp g ta tb) := PE.imp (pe_op ho ha hb) (lift2 l)
theorem de_add (ha : DE X W a ta) (hb : DE X W b tb) : DE X W (.BinOp a .Add b pos) (dOp gAdd ta tb) := de_op op_addAll l_add ha hb
theorem de_sub (ha : DE X W a ta) (hb : DE X W b tb) : DE X W (.BinOp a .Sub b pos) (dOp (gI0 fun i j => .int (i - j)) ta tb) := de_op op_sub (l_I0 fun _ _ _ => .int _) ha hb
theorem de_mul (ha : DE X W a ta) (hb : DE X W b tb) : DE X W (.BinOp a .Mult b pos) (dOp gMul ta tb) := de_op op_mulAll l_mul ha hb
theorem de_fdiv (ha : DE X W a ta) (hb : DE X W b tb) : DE X W (.BinOp a .FloorDiv b pos) (dOp (gI CDivD fun i j => .int (i.fdiv j)) ta tb) := de_op op_fdivD (l_I fun _ _ _ => .int _) ha hb
theorem de_mod (ha : DE X W a ta) (hb : DE X W b tb) : DE X W (.BinOp a .Mod b pos) (dOp (gI (fun _ j => j ≠ 0) fun i j => .int (i.fmod j)) ta tb) := de_op op_modN (l_I fun _ _ _ => .int _) ha hb
theorem de_pow (ha : DE X W a ta) (hb : DE X W b tb) : DE X W (.BinOp a .Pow b pos) (dOp (gI CPow fun i j => .int (i ^ j.toNat)) ta tb) := de_op op_pow (l_I fun _ _ _ => .int _) ha hb
theorem de_ix (ha : DE X W a ta) (hb : DE X W b tb) (hs : PlainIx b := by exact fun _ _ => rfl) : DE X W (.Subscript a b pos) (dOp gIx ta tb) := PE.imp (pe_ix ix_seq ha hb hs) (lift2 l_ix)

/-! ### comparisons -/
theorem de_cmp {op : CmpOp} {r : R2} {g : DR2} (ho : OpR X (compareOp op) r) (l : LOp X.K r g) (ha : DE X W a ta) (hb : DE X W b tb) (hm : behindInMarks op b = false) : DE X W (.Compare a [op] [b] pos) (dOp g ta tb) := PE.imp (pe_cmpR ho ha hb hm) (lift2 l)
/-- a value as a test: a truth -/
def kB (Q : Bool → M → Prop) (d : D) (μ : M) : Prop := match d with
  | .bl b => Q b μ
  | _ => False
def dB (t : DTE) (W : XD) (δ : Sl) (μ : M) (Q : Bool → M → Prop) : Prop := t W δ μ (kB Q)
theorem dt_cmp {op : CmpOp} {r : R2} {g : DR2} (ho : OpR X (compareOp op) r) (l : LOp X.K r g) (ha : DE X W a ta) (hb : DE X W b tb) (hm : behindInMarks op b = false) : DT X W (.Compare a [op] [b] pos) (dB (dOp g ta tb)) :=
  PT.imp (pt_cmpR ho ha hb hm) fun σ H Q ⟨δ, μ, Hc, Qd, Xd, s, rs, h, rt, rx⟩ => lift2 l σ H _ ⟨δ, μ, Hc, _, Xd, s, rs, h, fun d μ' hd v H' Hc' e1 s1 r1 => by
    cases r1 with
    | bl b => exact ⟨b, rfl, rt b μ' hd H' Hc' e1 s1⟩
    | _ => exact hd.elim, rx⟩
abbrev gLt : DR2 := gI0 fun i j => .bl (decide (i < j))
abbrev gLe : DR2 := gI0 fun i j => .bl (decide (i ≤ j))
abbrev gGt : DR2 := gI0 fun i j => .bl (decide (j < i))
abbrev gGe : DR2 := gI0 fun i j => .bl (decide (j ≤ i))
theorem de_lt (ha : DE X W a ta) (hb : DE X W b tb) : DE X W (.Compare a [.Lt] [b] pos) (dOp gLt ta tb) := de_cmp op_lt (l_I0 fun _ _ _ => .bl _) ha hb (nomark _)
theorem de_le (ha : DE X W a ta) (hb : DE X W b tb) : DE X W (.Compare a [.LtE] [b] pos) (dOp gLe ta tb) := de_cmp op_le (l_I0 fun _ _ _ => .bl _) ha hb (nomark _)
theorem de_gt (ha : DE X W a ta) (hb : DE X W b tb) : DE X W (.Compare a [.Gt] [b] pos) (dOp gGt ta tb) := de_cmp op_gt (l_I0 fun _ _ _ => .bl _) ha hb (nomark _)
theorem de_ge (ha : DE X W a ta) (hb : DE X W b tb) : DE X W (.Compare a [.GtE] [b] pos) (dOp gGe ta tb) := de_cmp op_ge (l_I0 fun _ _ _ => .bl _) ha hb (nomark _)
theorem de_eq {k : Nat} (hr : Room k X.A) (ha : DE X W a ta) (hb : DE X W b tb) : DE X W (.Compare a [.Eq] [b] pos) (dOp gEq ta tb) := de_cmp (op_eqD hr.units) l_eq ha hb (nomark _)
theorem de_ne {k : Nat} (hr : Room k X.A) (ha : DE X W a ta) (hb : DE X W b tb) : DE X W (.Compare a [.NotEq] [b] pos) (dOp gNe ta tb) := de_cmp (op_neD hr.units) l_ne ha hb (nomark _)
theorem de_is (ha : DE X W a ta) (hb : DE X W b tb) : DE X W (.Compare a [.Is] [b] pos) (dOp (gIs false) ta tb) := de_cmp (OpR.or op_isN op_isBl) l_is ha hb (nomark _)
theorem de_isnot (ha : DE X W a ta) (hb : DE X W b tb) : DE X W (.Compare a [.IsNot] [b] pos) (dOp (gIs true) ta tb) := de_cmp (OpR.or op_notN op_notBl) l_isnot ha hb (nomark _)
theorem de_in (ha : DE X W a ta) (hb : DE X W b tb) (hm : behindInMarks .In b = false := by rfl) : DE X W (.Compare a [.In] [b] pos) (dOp (gIn false) ta tb) := de_cmp (OpR.or op_in_seq op_in_str) l_in ha hb hm
theorem de_notin (ha : DE X W a ta) (hb : DE X W b tb) (hm : behindInMarks .NotIn b = false := by rfl) : DE X W (.Compare a [.NotIn] [b] pos) (dOp (gIn true) ta tb) := de_cmp (OpR.or op_notIn_seq op_notIn_str) l_notin ha hb hm
theorem dt_lt (ha : DE X W a ta) (hb : DE X W b tb) : DT X W (.Compare a [.Lt] [b] pos) (dB (dOp gLt ta tb)) := dt_cmp op_lt (l_I0 fun _ _ _ => .bl _) ha hb (nomark _)
theorem dt_le (ha : DE X W a ta) (hb : DE X W b tb) : DT X W (.Compare a [.LtE] [b] pos) (dB (dOp gLe ta tb)) := dt_cmp op_le (l_I0 fun _ _ _ => .bl _) ha hb (nomark _)
theorem dt_gt (ha : DE X W a ta) (hb : DE X W b tb) : DT X W (.Compare a [.Gt] [b] pos) (dB (dOp gGt ta tb)) := dt_cmp op_gt (l_I0 fun _ _ _ => .bl _) ha hb (nomark _)
theorem dt_ge (ha : DE X W a ta) (hb : DE X W b tb) : DT X W (.Compare a [.GtE] [b] pos) (dB (dOp gGe ta tb)) := dt_cmp op_ge (l_I0 fun _ _ _ => .bl _) ha hb (nomark _)
theorem dt_eq {k : Nat} (hr : Room k X.A) (ha : DE X W a ta) (hb : DE X W b tb) : DT X W (.Compare a [.Eq] [b] pos) (dB (dOp gEq ta tb)) := dt_cmp (op_eqD hr.units) l_eq ha hb (nomark _)
theorem dt_ne {k : Nat} (hr : Room k X.A) (ha : DE X W a ta) (hb : DE X W b tb) : DT X W (.Compare a [.NotEq] [b] pos) (dB (dOp gNe ta tb)) := dt_cmp (op_neD hr.units) l_ne ha hb (nomark _)
theorem dt_is (ha : DE X W a ta) (hb : DE X W b tb) : DT X W (.Compare a [.Is] [b] pos) (dB (dOp (gIs false) ta tb)) := dt_cmp (OpR.or op_isN op_isBl) l_is ha hb (nomark _)
theorem dt_isnot (ha : DE X W a ta) (hb : DE X W b tb) : DT X W (.Compare a [.IsNot] [b] pos) (dB (dOp (gIs true) ta tb)) := dt_cmp (OpR.or op_notN op_notBl) l_isnot ha hb (nomark _)
theorem dt_in (ha : DE X W a ta) (hb : DE X W b tb) (hm : behindInMarks .In b = false := by rfl) : DT X W (.Compare a [.In] [b] pos) (dB (dOp (gIn false) ta tb)) := dt_cmp (OpR.or op_in_seq op_in_str) l_in ha hb hm
theorem dt_notin (ha : DE X W a ta) (hb : DE X W b tb) (hm : behindInMarks .NotIn b = false := by rfl) : DT X W (.Compare a [.NotIn] [b] pos) (dB (dOp (gIn true) ta tb)) := dt_cmp (OpR.or op_notIn_seq op_notIn_str) l_notin ha hb hm

/-! ### chains of two -/
def kChain3 (g' : DR2) (tc : DTE) (W : XD) (δ : Sl) (Q : QD) (y : D) (z : D) (μ : M) : Prop := match z with
  | .bl true => tc W δ μ (kOp2 g' y Q)
  | .bl false => Q (.bl false) μ
  | _ => False
def kChain2 (g g' : DR2) (tc : DTE) (W : XD) (δ : Sl) (Q : QD) (x : D) (y : D) (μ : M) : Prop := g x y μ (kChain3 g' tc W δ Q y)
def kChain1 (g g' : DR2) (tb tc : DTE) (W : XD) (δ : Sl) (Q : QD) (x : D) (μ : M) : Prop := tb W δ μ (kChain2 g g' tc W δ Q x)
def dChain (g g' : DR2) (ta tb tc : DTE) (W : XD) (δ : Sl) (μ : M) (Q : QD) : Prop := ta W δ μ (kChain1 g g' tb tc W δ Q)
theorem lift3 {K : PySem.W.Frag} {r r' : R2} {g g' : DR2} (l : LOp K r g) (l' : LOp K r' g') : ∀ σ H Q, upE K W (dChain g g' ta tb tc) σ H Q → tChain r r' (upE K W ta) (upE K W tb) (upE K W tc) σ H Q :=
  fun σ H Q ⟨δ, μ, Hc, Qd, Xd, s, rs, h, rt, rx⟩ => ⟨δ, μ, Hc, _, Xd, s, rs, h, fun x μ1 h1 v H1 Hc1 e1 s1 r1 =>
    ⟨δ, μ1, Hc1, _, Xd, s1, rs.mono e1, h1, fun y μ2 h2 w H2 Hc2 e2 s2 r2 => l v w x y H2 Hc2 μ2 _ _ s2 (r1.mono e2) r2 h2 fun z μ3 h3 u H3 Hc3 e3 s3 r3 => by
      cases r3 with
      | bl k =>
        refine ⟨k, rfl, ?_⟩
        cases k with
        | true =>
          rw [if_pos rfl]
          exact ⟨δ, μ3, Hc3, _, Xd, s3, rs.mono ((e1.trans e2).trans e3), h3, fun q μ4 h4 u4 H4 Hc4 e4 s4 r4 => l' w u4 y q H4 Hc4 μ4 Q Qd s4 (r2.mono (e3.trans e4)) r4 h4 (rt.mono (((e1.trans e2).trans e3).trans e4)), rx.mono ((e1.trans e2).trans e3)⟩
        | false =>
          rw [if_neg Bool.false_ne_true]
          exact (rt.mono ((e1.trans e2).trans e3)).val s3 (.bl _) h3
      | _ => exact h3.elim, rx.mono e1⟩, rx⟩
theorem de_chain {op op' : CmpOp} {r r' : R2} {g g' : DR2} (ho : OpR X (compareOp op) r) (l : LOp X.K r g) (ho' : OpR X (compareOp op') r') (l' : LOp X.K r' g') (ha : DE X W a ta) (hb : DE X W b tb) (hc : DE X W c tc)
    (hm : lastMarks [op, op'] [b, c] = false := by with_unfolding_all rfl) : DE X W (.Compare a [op, op'] [b, c] pos) (dChain g g' ta tb tc) := PE.imp (pe_chain ho ho' ha hb hc hm) (lift3 l l')
theorem dt_chain {op op' : CmpOp} {r r' : R2} {g g' : DR2} (ho : OpR X (compareOp op) r) (l : LOp X.K r g) (ho' : OpR X (compareOp op') r') (l' : LOp X.K r' g') (ha : DE X W a ta) (hb : DE X W b tb) (hc : DE X W c tc)
    (hm : lastMarks [op, op'] [b, c] = false := by with_unfolding_all rfl) : DT X W (.Compare a [op, op'] [b, c] pos) (dB (dChain g g' ta tb tc)) :=
  PT.imp (pt_chain ho ho' ha hb hc hm) fun σ H Q ⟨δ, μ, Hc, Qd, Xd, s, rs, h, rt, rx⟩ => lift3 l l' σ H _ ⟨δ, μ, Hc, _, Xd, s, rs, h, fun d μ' hd v H' Hc' e1 s1 r1 => by
    cases r1 with
    | bl b => exact ⟨b, rfl, rt b μ' hd H' Hc' e1 s1⟩
    | _ => exact hd.elim, rx⟩

/-! ### truth, and, or, not -/
def truD (μ : M) (d : D) : Option Bool := match view μ d with
  | .non => some false
  | .bl b => some b
  | .int i => some (i != 0)
  | .lst xs => some (!xs.isEmpty)
  | .tup xs => some (!xs.isEmpty)
  | _ => none
def kTru (Q : Bool → M → Prop) (d : D) (μ : M) : Prop := OptB (truD μ d) Q μ
def dTru (t : DTE) (W : XD) (δ : Sl) (μ : M) (Q : Bool → M → Prop) : Prop := t W δ μ (kTru Q)
theorem dt_tru (ha : DE X W a ta) (he : ∀ whole, isTrue a X.env whole = (do let v ← whole; standAt a.pos; holding [v] (truthy v)) := by intro _; rfl) : DT X W a (dTru ta) :=
  PT.imp (pt_truth ha he) fun σ H Q ⟨δ, μ, Hc, Qd, Xd, s, rs, h, rt, rx⟩ => by
    refine (show upE X.K W ta σ H _ from ⟨δ, μ, Hc, _, Xd, s, rs, h, ?_, rx⟩)
    intro d μ' hd v H' Hc' e1 s1 r1
    obtain ⟨k, hk, hq⟩ := OptB.ex hd
    refine ⟨k, ?_, rt k μ' hq H' Hc' e1 s1⟩
    have z := view_rep s1 r1
    unfold truD at hk
    split at hk
    · rename_i ev; rw [ev] at z; cases z; exact (Option.some.inj hk).symm
    · rename_i ev; rw [ev] at z; cases z; exact (Option.some.inj hk).symm
    · rename_i ev; rw [ev] at z; cases z; exact (Option.some.inj hk).symm
    · rename_i ev
      rw [ev] at z
      cases z with
      | lst h1 h2 =>
        refine .inl ⟨_, SqL.of h1, ?_⟩
        rw [← Option.some.inj hk]
        cases h2 <;> rfl
    · rename_i ev
      rw [ev] at z
      cases z with
      | tup h1 h2 =>
        refine .inr (.inl ⟨_, h1, ?_⟩)
        rw [← Option.some.inj hk]
        cases h2 <;> rfl
    · cases hk
def ifAnd (c : Bool) (u : DTT) (W : XD) (δ : Sl) (μ : M) (Q : Bool → M → Prop) : Prop := match c with
  | true => u W δ μ Q
  | false => Q false μ
def ifOr (c : Bool) (u : DTT) (W : XD) (δ : Sl) (μ : M) (Q : Bool → M → Prop) : Prop := match c with
  | true => Q true μ
  | false => u W δ μ Q
def kAnd (u : DTT) (W : XD) (δ : Sl) (Q : Bool → M → Prop) (c : Bool) (μ : M) : Prop := ifAnd c u W δ μ Q
def kOr (u : DTT) (W : XD) (δ : Sl) (Q : Bool → M → Prop) (c : Bool) (μ : M) : Prop := ifOr c u W δ μ Q
def kNot (Q : Bool → M → Prop) (c : Bool) (μ : M) : Prop := Q (!c) μ
def dAnd (t u : DTT) (W : XD) (δ : Sl) (μ : M) (Q : Bool → M → Prop) : Prop := t W δ μ (kAnd u W δ Q)
def dOr (t u : DTT) (W : XD) (δ : Sl) (μ : M) (Q : Bool → M → Prop) : Prop := t W δ μ (kOr u W δ Q)
def dNot (t : DTT) (W : XD) (δ : Sl) (μ : M) (Q : Bool → M → Prop) : Prop := t W δ μ (kNot Q)
theorem ifAnd_of {c : Bool} {u : DTT} {W : XD} {δ : Sl} {μ : M} {Q : Bool → M → Prop} (h1 : c = true → u W δ μ Q) (h2 : c = false → Q false μ) : ifAnd c u W δ μ Q := by
  cases c with
  | true => exact h1 rfl
  | false => exact h2 rfl
theorem ifOr_of {c : Bool} {u : DTT} {W : XD} {δ : Sl} {μ : M} {Q : Bool → M → Prop} (h1 : c = true → Q true μ) (h2 : c = false → u W δ μ Q) : ifOr c u W δ μ Q := by
  cases c with
  | true => exact h1 rfl
  | false => exact h2 rfl
theorem ifAnd_dec {p : Prop} [Decidable p] {u : DTT} {W : XD} {δ : Sl} {μ : M} {Q : Bool → M → Prop} (h1 : p → u W δ μ Q) (h2 : ¬ p → Q false μ) : ifAnd (decide p) u W δ μ Q := ifAnd_of (fun h => h1 (of_decide_eq_true h)) (fun h => h2 (of_decide_eq_false h))
theorem ifOr_dec {p : Prop} [Decidable p] {u : DTT} {W : XD} {δ : Sl} {μ : M} {Q : Bool → M → Prop} (h1 : p → Q true μ) (h2 : ¬ p → u W δ μ Q) : ifOr (decide p) u W δ μ Q := ifOr_of (fun h => h1 (of_decide_eq_true h)) (fun h => h2 (of_decide_eq_false h))
variable {tA tB' : DTT} {rest : List Expr}
theorem dw_and1 (ha : DT X W a tA) : DW X W (.BoolOp .And [a] pos) tA := pw_and1 ha
theorem dw_or1 (ha : DT X W a tA) : DW X W (.BoolOp .Or [a] pos) tA := pw_or1 ha
theorem dw_and (ha : DT X W a tA) (hb : DW X W (.BoolOp .And (b :: rest) pos) tB') : DW X W (.BoolOp .And (a :: b :: rest) pos) (dAnd tA tB') :=
  PW.imp (pw_and ha hb) fun σ H Q ⟨δ, μ, Hc, Qd, Xd, s, rs, h, rt, rx⟩ => ⟨δ, μ, Hc, _, Xd, s, rs, h, fun c μ1 h1 H1 Hc1 e1 s1 => by
    cases c with
    | true => exact ⟨δ, μ1, Hc1, Qd, Xd, s1, rs.mono e1, h1, rt.mono e1, rx.mono e1⟩
    | false => exact rt false μ1 h1 _ _ e1 s1, rx⟩
theorem dw_or (ha : DT X W a tA) (hb : DW X W (.BoolOp .Or (b :: rest) pos) tB') : DW X W (.BoolOp .Or (a :: b :: rest) pos) (dOr tA tB') :=
  PW.imp (pw_or ha hb) fun σ H Q ⟨δ, μ, Hc, Qd, Xd, s, rs, h, rt, rx⟩ => ⟨δ, μ, Hc, _, Xd, s, rs, h, fun c μ1 h1 H1 Hc1 e1 s1 => by
    cases c with
    | true => exact rt true μ1 h1 _ _ e1 s1
    | false => exact ⟨δ, μ1, Hc1, Qd, Xd, s1, rs.mono e1, h1, rt.mono e1, rx.mono e1⟩, rx⟩
theorem DW.dt (h : DW X W a tA) : DT X W a tA := PW.pt h
theorem dt_not (ha : DT X W a tA) : DT X W (.UnaryOp .Not a pos) (dNot tA) :=
  PT.imp (pt_not ha) fun σ H Q ⟨δ, μ, Hc, Qd, Xd, s, rs, h, rt, rx⟩ => ⟨δ, μ, Hc, _, Xd, s, rs, h, fun c μ1 h1 H1 Hc1 e1 s1 => rt _ _ h1 _ _ e1 s1, rx⟩
/-! .. as values: truths -/
def ifAndV (c : Bool) (u : DTE) (W : XD) (δ : Sl) (μ : M) (Q : QD) : Prop := match c with
  | true => u W δ μ Q
  | false => Q (.bl false) μ
def ifOrV (c : Bool) (u : DTE) (W : XD) (δ : Sl) (μ : M) (Q : QD) : Prop := match c with
  | true => Q (.bl true) μ
  | false => u W δ μ Q
def kAndV (u : DTE) (W : XD) (δ : Sl) (Q : QD) (d : D) (μ : M) : Prop := match d with
  | .bl c => ifAndV c u W δ μ Q
  | _ => False
def kOrV (u : DTE) (W : XD) (δ : Sl) (Q : QD) (d : D) (μ : M) : Prop := match d with
  | .bl c => ifOrV c u W δ μ Q
  | _ => False
def kNotV (Q : QD) (d : D) (μ : M) : Prop := match d with
  | .bl c => Q (.bl !c) μ
  | _ => False
def dAndV (t u : DTE) (W : XD) (δ : Sl) (μ : M) (Q : QD) : Prop := t W δ μ (kAndV u W δ Q)
def dOrV (t u : DTE) (W : XD) (δ : Sl) (μ : M) (Q : QD) : Prop := t W δ μ (kOrV u W δ Q)
def dNotV (t : DTE) (W : XD) (δ : Sl) (μ : M) (Q : QD) : Prop := t W δ μ (kNotV Q)
theorem ifAndV_of {c : Bool} {u : DTE} {W : XD} {δ : Sl} {μ : M} {Q : QD} (h1 : c = true → u W δ μ Q) (h2 : c = false → Q (.bl false) μ) : ifAndV c u W δ μ Q := by
  cases c with
  | true => exact h1 rfl
  | false => exact h2 rfl
theorem ifOrV_of {c : Bool} {u : DTE} {W : XD} {δ : Sl} {μ : M} {Q : QD} (h1 : c = true → Q (.bl true) μ) (h2 : c = false → u W δ μ Q) : ifOrV c u W δ μ Q := by
  cases c with
  | true => exact h1 rfl
  | false => exact h2 rfl
theorem de_one {op} {t : DTE} (h : DE X W a t) : DE X W (.BoolOp op [a] pos) t := pe_one h
theorem de_and (ha : DE X W a ta) (hb : DE X W (.BoolOp .And (b :: rest) pos) tb) : DE X W (.BoolOp .And (a :: b :: rest) pos) (dAndV ta tb) :=
  PE.imp (pe_and ha hb) fun σ H Q ⟨δ, μ, Hc, Qd, Xd, s, rs, h, rt, rx⟩ => ⟨δ, μ, Hc, _, Xd, s, rs, h, fun d μ1 h1 v H1 Hc1 e1 s1 r1 => by
    cases r1 with
    | bl c =>
      refine ⟨c, rfl, ?_⟩
      cases c with
      | true => exact ⟨δ, μ1, Hc1, Qd, Xd, s1, rs.mono e1, h1, rt.mono e1, rx.mono e1⟩
      | false => exact rt _ _ h1 _ _ _ e1 s1 (.bl _)
    | _ => exact h1.elim, rx⟩
theorem de_or (ha : DE X W a ta) (hb : DE X W (.BoolOp .Or (b :: rest) pos) tb) : DE X W (.BoolOp .Or (a :: b :: rest) pos) (dOrV ta tb) :=
  PE.imp (pe_or ha hb) fun σ H Q ⟨δ, μ, Hc, Qd, Xd, s, rs, h, rt, rx⟩ => ⟨δ, μ, Hc, _, Xd, s, rs, h, fun d μ1 h1 v H1 Hc1 e1 s1 r1 => by
    cases r1 with
    | bl c =>
      refine ⟨c, rfl, ?_⟩
      cases c with
      | true => exact rt _ _ h1 _ _ _ e1 s1 (.bl _)
      | false => exact ⟨δ, μ1, Hc1, Qd, Xd, s1, rs.mono e1, h1, rt.mono e1, rx.mono e1⟩
    | _ => exact h1.elim, rx⟩
/-- not x, as a value: x by its truth -/
theorem de_not (ha : DE X W a ta) : DE X W (.UnaryOp .Not a pos) (dNotV ta) :=
  PE.imp (pe_not ha) fun σ H Q ⟨δ, μ, Hc, Qd, Xd, s, rs, h, rt, rx⟩ => ⟨δ, μ, Hc, _, Xd, s, rs, h, fun d μ1 h1 v H1 Hc1 e1 s1 r1 => by
    cases r1 with
    | bl c => exact ⟨c, rfl, rt _ _ h1 _ _ _ e1 s1 (.bl _)⟩
    | _ => exact h1.elim, rx⟩
def ifE (c : Bool) (ta tb : DTE) (W : XD) (δ : Sl) (μ : M) (Q : QD) : Prop := match c with
  | true => ta W δ μ Q
  | false => tb W δ μ Q
theorem ifE_of {c : Bool} {ta tb : DTE} {W : XD} {δ : Sl} {μ : M} {Q : QD} (h1 : c = true → ta W δ μ Q) (h2 : c = false → tb W δ μ Q) : ifE c ta tb W δ μ Q := by
  cases c with
  | true => exact h1 rfl
  | false => exact h2 rfl
def kIfE (ta tb : DTE) (W : XD) (δ : Sl) (Q : QD) (c : Bool) (μ : M) : Prop := ifE c ta tb W δ μ Q
def dIfE (t : DTT) (ta tb : DTE) (W : XD) (δ : Sl) (μ : M) (Q : QD) : Prop := t W δ μ (kIfE ta tb W δ Q)
theorem de_if (hc : DT X W c tA) (ha : DE X W a ta) (hb : DE X W b tb) : DE X W (.IfExp c a b pos) (dIfE tA ta tb) :=
  PE.imp (pe_ifExp hc ha hb) fun σ H Q ⟨δ, μ, Hc, Qd, Xd, s, rs, h, rt, rx⟩ => ⟨δ, μ, Hc, _, Xd, s, rs, h, fun c μ1 h1 H1 Hc1 e1 s1 => by
    cases c with
    | true => exact ⟨δ, μ1, Hc1, Qd, Xd, s1, rs.mono e1, h1, rt.mono e1, rx.mono e1⟩
    | false => exact ⟨δ, μ1, Hc1, Qd, Xd, s1, rs.mono e1, h1, rt.mono e1, rx.mono e1⟩, rx⟩

/-! ### arguments, displays -/
def dNil (_ : XD) (_ : Sl) (μ : M) (Q : List D → M → Prop) : Prop := Q [] μ
def kCons2 (d : D) (Q : List D → M → Prop) (ds : List D) (μ : M) : Prop := Q (d :: ds) μ
def kCons1 (r : DTA) (W : XD) (δ : Sl) (Q : List D → M → Prop) (d : D) (μ : M) : Prop := r W δ μ (kCons2 d Q)
def dCons (t : DTE) (r : DTA) (W : XD) (δ : Sl) (μ : M) (Q : List D → M → Prop) : Prop := t W δ μ (kCons1 r W δ Q)
variable {es : List Expr} {tr : DTA}
theorem da_nil : DA X W [] dNil := PA.imp pa_nil fun σ H Q ⟨δ, μ, Hc, Qd, Xd, s, rs, h, rt, rx⟩ => rt _ _ h _ _ Hc (Same.refl _) s .nil
theorem da_cons (ha : DE X W e te) (hr : DA X W es tr) (hs : starEach (e :: es) X.env = (false, eval e X.env) :: starEach es X.env := by rfl) : DA X W (e :: es) (dCons te tr) :=
  PA.imp (pa_cons ha hr hs) fun σ H Q ⟨δ, μ, Hc, Qd, Xd, s, rs, h, rt, rx⟩ => ⟨δ, μ, Hc, _, Xd, s, rs, h, fun d μ1 h1 v H1 Hc1 e1 s1 r1 =>
    ⟨δ, μ1, Hc1, _, Xd, s1, rs.mono e1, h1, fun ds μ2 h2 vs H2 Hc2 e2 s2 r2 => rt _ _ h2 _ _ _ (e1.trans e2) s2 (.cons (r1.mono e2) r2), rx.mono e1⟩, rx⟩
def kTup (Q : QD) (ds : List D) (μ : M) : Prop := ds.length ≤ sizeLine ∧ Q (.tup ds) μ
def kLst (Q : QD) (ds : List D) (μ : M) : Prop := ds.length ≤ sizeLine ∧ Q (.lst ds) μ
/-- a new cell -/
def NewC (ds : List D) (μ : M) (Q : QD) : Prop := ∀ p, μ p = none → Q (.raw (.ref p)) (updM μ p (.lst ds))
def kLstC (Q : QD) (ds : List D) (μ : M) : Prop := ds.length ≤ sizeLine ∧ NewC ds μ Q
def dTup (t : DTA) (W : XD) (δ : Sl) (μ : M) (Q : QD) : Prop := t W δ μ (kTup Q)
def dLst (t : DTA) (W : XD) (δ : Sl) (μ : M) (Q : QD) : Prop := t W δ μ (kLst Q)
/-- a list that will be changed -/
def dLstC (t : DTA) (W : XD) (δ : Sl) (μ : M) (Q : QD) : Prop := t W δ μ (kLstC Q)
theorem de_tup {x1} (h : DA X W es tr) : DE X W (.Tuple es x1 pos) (dTup tr) := PE.imp (pe_tup h) fun σ H Q ⟨δ, μ, Hc, Qd, Xd, s, rs, h, rt, rx⟩ => ⟨δ, μ, Hc, _, Xd, s, rs, h, fun ds μ1 h1 vs H1 Hc1 e1 s1 r1 =>
    ⟨by rw [r1.length]; exact h1.1, (rt.mono e1).newT s1 r1 h1.2⟩, rx⟩
theorem de_lst (h : DA X W es tr) : DE X W (.List es pos) (dLst tr) := PE.imp (pe_lst h) fun σ H Q ⟨δ, μ, Hc, Qd, Xd, s, rs, h, rt, rx⟩ => ⟨δ, μ, Hc, _, Xd, s, rs, h, fun ds μ1 h1 vs H1 Hc1 e1 s1 r1 =>
    ⟨by rw [r1.length]; exact h1.1, (rt.mono e1).new s1 r1 h1.2⟩, rx⟩
theorem de_lstC (h : DA X W es tr) : DE X W (.List es pos) (dLstC tr) := PE.imp (pe_lst h) fun σ H Q ⟨δ, μ, Hc, Qd, Xd, s, rs, h, rt, rx⟩ => ⟨δ, μ, Hc, _, Xd, s, rs, h, fun ds μ1 h1 vs H1 Hc1 e1 s1 r1 =>
    ⟨by rw [r1.length]; exact h1.1, (rt.mono e1).newC s1 r1 h1.2⟩, rx⟩
/-- a cell becomes data -/
def kFz (Q : QD) (d : D) (μ : M) : Prop := match d with
  | .raw (.ref p) => ∃ ds, μ p = some (.lst ds) ∧ Q (.lst ds) (delM μ p)
  | _ => False
def dFz (t : DTE) (W : XD) (δ : Sl) (μ : M) (Q : QD) : Prop := t W δ μ (kFz Q)
theorem de_fz (h : DE X W e te) : DE X W e (dFz te) := PE.imp h fun σ H Q ⟨δ, μ, Hc, Qd, Xd, s, rs, h, rt, rx⟩ => ⟨δ, μ, Hc, _, Xd, s, rs, h, fun d μ1 h1 v H1 Hc1 e1 s1 r1 => by
    cases r1 with
    | raw =>
      cases v with
      | ref p =>
        obtain ⟨ds, hp, hq⟩ := (show ∃ ds, μ1 p = some (.lst ds) ∧ Qd (.lst ds) (delM μ1 p) from h1)
        obtain ⟨_, o, ho, vs, rfl, ra⟩ := s1.cell p _ hp
        obtain ⟨Hc2, e2, s2, hh⟩ := s1.sub (Sub.del p)
        refine rt _ _ hq _ _ Hc2 (e1.trans e2) s2 (.lst ?_ (ra.mono e2))
        rw [hh p (by unfold delM; rw [if_pos rfl])]
        exact ho
      | _ => exact h1.elim
    | _ => exact h1.elim, rx⟩
end
end DL
set_option Elab.async false
set_option linter.all false
set_option maxRecDepth 100000
set_option maxHeartbeats 2000000
/-! The data layer: calls, statements, loops, comprehensions, errors. -/
namespace DL
open PySem PySem.Spec L2

/-! ### calls of defs -/
abbrev Ct := List D → M → QD → XD → Prop
def spD (K : PySem.W.Frag) (c : Ct) : Sp := fun vs H Q E => ∃ ds μ Hc Qd Xd, Split K H Hc μ ∧ RepA K Hc vs ds ∧ c ds μ Qd Xd ∧ Ret K Hc Qd Q ∧ RetX K Hc Xd E
/-- a def of the text keeps its contract -/
structure Dfn (P : Program) (w : World) (K : PySem.W.Frag) (mg : Str → Option Value) (base : Heap) (CX : CXT) (x qual : Str) (st : Stmt) (k : Nat) (ps : List Str) (c : Ct) : Prop where
  ex : ∃ f fd, Fun K x qual st f fd ∧ mg x = some (.ref f) ∧ FnOk P w K mg base CX k f fd ps (spD K c) ∧ Binds K fd ps []
/-- what a callee lets out is taken -/
def Pw (CX : CXT) (X : Cx) (W : WX) : Prop := ∀ σ, PassesAt CX X σ (WE W σ)
theorem pw0 {X : Cx} {W : WX} : Pw CX0 X W := fun _ _ _ _ _ _ _ h => h.elim
theorem pw1 {X : Cx} {W : WX} (tk : Takes X W) : Pw (L2.CX X.prog X.w) X W := fun σ => passAt tk σ
def kCall (c : Ct) (W : XD) (Q : QD) (ds : List D) (μ : M) : Prop := c ds μ Q W
def dCall (c : Ct) (t : DTA) (W : XD) (δ : Sl) (μ : M) (Q : QD) : Prop := t W δ μ (kCall c W Q)
abbrev W0 : WX := fun _ _ _ _ => False

def pick {α : Type} (pm : List Nat) (xs : List α) : List α := pm.filterMap (xs[·]?)
section
variable {X : Cx} {W : WX} {a b e : Expr} {es : List Expr} {pos p : Pos} {ta tb te : DTE} {tr tk : DTA} {CX : CXT} {x qual : Str} {st : Stmt} {k : Nat} {ps : List Str} {c : Ct}
theorem de_call (F : Dfn X.prog X.w X.K X.mg X.base CX x qual st k ps c) (hr : Room k X.A) (pw : Pw CX X W) (ha : DA X W (e :: es) tr) (hg : Gl X x := by rfl) (hdb : (x == ("__debug__" : Str)) = false := by decide)
    (he : starEach (e :: es) X.env = (false, eval e X.env) :: starEach es X.env := by rfl) (hpl : (backTo pos (starEach es X.env)).any (·.1) = false := by rfl) : DE X W (.Call (.Name x p) (e :: es) [] pos) (dCall c tr) := by
  obtain ⟨f, fd, FF, hm, G, bn⟩ := F.ex
  exact PE.imp (pe_callS G hr hg hm FF.kp bn pw ha hdb he hpl) fun σ H Q ⟨δ, μ, Hc, Qd, Xd, s, rs, h, rt, rx⟩ => ⟨δ, μ, Hc, _, Xd, s, rs, h, fun ds μ1 h1 vs H1 Hc1 e1 s1 r1 =>
    ⟨ds, μ1, Hc1, Qd, Xd, s1, r1, h1, rt.mono e1, rx.mono e1⟩, rx⟩
theorem de_call0 (F : Dfn X.prog X.w X.K X.mg X.base CX x qual st k ps c) (hr : Room k X.A) (pw : Pw CX X W) (hg : Gl X x := by rfl) (hdb : (x == ("__debug__" : Str)) = false := by decide) : DE X W (.Call (.Name x p) [] [] pos) (dCall c dNil) := by
  obtain ⟨f, fd, FF, hm, G, bn⟩ := F.ex
  refine ⟨fun pins s σ H Q I h => ?_⟩
  refine wpAny_Call_Name_kw (ld_glob I hg hm ?_ hdb)
  obtain ⟨δ, μ, Hc, Qd, Xd, sp, rs, h, rt, rx⟩ := h
  exact PySem.W.callWith_K0 I.kIn FF.kp (run_fnS (us := []) (E := WE W) G hr bn (pw σ) I .nil ⟨[], μ, Hc, Qd, Xd, sp, .nil, h, rt, rx⟩)
/-! keywords: the evaluated values, picked into the parameters' order -/
theorem RepA.pick {K : PySem.W.Frag} {H : Hp} {vs : List V} {ds : List D} (r : RepA K H vs ds) : ∀ pm : List Nat, RepA K H (pick pm vs) (pick pm ds)
  | [] => .nil
  | i :: pm => by
    have ih := RepA.pick r pm
    unfold DL.pick at ih ⊢
    rw [List.filterMap_cons, List.filterMap_cons]
    cases e : ds[i]? with
    | none =>
      have z : vs[i]? = none := by
        rw [List.getElem?_eq_none_iff] at e ⊢
        rw [r.length]
        exact e
      rw [z]
      exact ih
    | some d =>
      obtain ⟨v, hv, rv⟩ := r.get e
      rw [hv]
      exact .cons rv ih
theorem vals_pick {vs : List V} {us : List Value} (r : Vals vs us) : ∀ pm : List Nat, Vals (pick pm vs) (pick pm us)
  | [] => .nil
  | i :: pm => by
    have ih := vals_pick r pm
    unfold DL.pick at ih ⊢
    rw [List.filterMap_cons, List.filterMap_cons]
    cases e : vs[i]? with
    | none =>
      rw [r.none_of e]
      exact ih
    | some d =>
      obtain ⟨v, hv, rv⟩ := r.get e
      rw [hv]
      exact .cons rv ih
/-- how a call with m positional arguments and the keywords ks binds -/
def KBn (K : PySem.W.Frag) (x qual : Str) (st : Stmt) (ps ks : List Str) (m n : Nat) (pm : List Nat) : Prop := ∀ (f : Addr) (fd : FuncData), Fun K x qual st f fd → ∀ (s : Shared) (us : List Value), us.length = n → BindsTo s fd ⟨us.take m, ks.zip (us.drop m)⟩ (ps.zip (pick pm us))
theorem kbn_of {K : PySem.W.Frag} {ks : List Str} {m n : Nat} {pm : List Nat} (h : ∀ (kV doc pmv : Value) (an : Option Addr) (cdv ct : Value) (us : List Value), us.length = n → bindArgs (PySem.W.fnOf x qual (defArgs st) (defBody st) (defScope st) .none kV doc pmv an cdv ct) ⟨us.take m, ks.zip (us.drop m)⟩ = pure (ps.zip (pick pm us))) :
    KBn K x qual st ps ks m n pm := fun f fd F s us hl => by
  obtain ⟨oc, od, kV, doc, pmv, an, cdv, ct, osl, rfl, lk, hcd⟩ := F.ex
  exact .of_eq (h kV doc pmv an cdv ct us hl)
def DK (X : Cx) (W : WX) (kws : List Keyword) (t : DTA) : Prop := PK X kws (upA X.K W t)
theorem dk_nil : DK X W [] dNil := ⟨fun pos pins s σ H Q I h => pk_nil.run pos pins s σ H Q I (let ⟨δ, μ, Hc, Qd, Xd, s, rs, h, rt, rx⟩ := h; rt _ _ h _ _ Hc (Same.refl _) s .nil)⟩
theorem dk_cons {nm : Option Str} {kws : List Keyword} {kpos : Pos} (ha : DE X W e te) (hr : DK X W kws tr) : DK X W (⟨nm, e, kpos⟩ :: kws) (dCons te tr) := ⟨fun pos pins s σ H Q I h => (pk_cons (nm := nm) (kpos := kpos) ha hr).run pos pins s σ H Q I (let ⟨δ, μ, Hc, Qd, Xd, s, rs, h, rt, rx⟩ := h
  ⟨δ, μ, Hc, _, Xd, s, rs, h, fun d μ1 h1 v H1 Hc1 e1 s1 r1 =>
    ⟨δ, μ1, Hc1, _, Xd, s1, rs.mono e1, h1, fun ds μ2 h2 vs H2 Hc2 e2 s2 r2 => rt _ _ h2 _ _ _ (e1.trans e2) s2 (.cons (r1.mono e2) r2), rx.mono e1⟩, rx⟩)⟩
def kCallK2 (c : Ct) (n : Nat) (pm : List Nat) (W : XD) (Q : QD) (ds es : List D) (μ : M) : Prop := (ds ++ es).length = n ∧ c (pick pm (ds ++ es)) μ Q W
def kCallK1 (c : Ct) (n : Nat) (pm : List Nat) (tk : DTA) (W : XD) (δ : Sl) (Q : QD) (ds : List D) (μ : M) : Prop := tk W δ μ (kCallK2 c n pm W Q ds)
def dCallK (c : Ct) (n : Nat) (pm : List Nat) (t tk : DTA) (W : XD) (δ : Sl) (μ : M) (Q : QD) : Prop := t W δ μ (kCallK1 c n pm tk W δ Q)
def kLenIs (m : Nat) (Q : List D → M → Prop) (ds : List D) (μ : M) : Prop := ds.length = m ∧ Q ds μ
def dLenIs (m : Nat) (t : DTA) (W : XD) (δ : Sl) (μ : M) (Q : List D → M → Prop) : Prop := t W δ μ (kLenIs m Q)
theorem run_kw {ks : List Str} {m n : Nat} {pm : List Nat} {f : Addr} {fd : FuncData} (FF : Fun X.K x qual st f fd) (G : FnOk X.prog X.w X.K X.mg X.base CX k f fd ps (spD X.K c)) (hr : Room k X.A) (pw : Pw CX X W) (kb : KBn X.K x qual st ps ks m n pm)
    {pins : List (Addr × Obj)} {σ : L2.St} {H Hc : Hp} {s : Shared} {Q : VK} {us ws : List Value} {vs zs : List V} {ds es : List D} {μ : M} {Qd : QD} {Xd : XD} (I : Inv X pins σ H s) (r : Vals vs us) (rz : Vals zs ws) (hm : us.length = m)
    (sp : Split X.K H Hc μ) (rd : RepA X.K Hc (vs ++ zs) (ds ++ es)) (hn : (ds ++ es).length = n) (h : c (pick pm (ds ++ es)) μ Qd Xd) (rt : Ret X.K Hc Qd Q) (rx : RetX X.K Hc Xd (WE W σ)) :
    wpAny (model X.prog X.w) X.A (call (.ref f) us (ks.zip ws)) (EP X pins σ Q) X.xe s := by
  have rr : Vals (vs ++ zs) (us ++ ws) := r.append rz
  have hl : (us ++ ws).length = n := by rw [← rr.length, rd.length]; exact hn
  have b := kb f fd FF s (us ++ ws) hl
  rw [List.take_left' hm, List.drop_left' hm] at b
  have q : spD X.K c (pick pm (vs ++ zs)) H Q (WE W σ) := ⟨_, μ, Hc, Qd, Xd, sp, rd.pick pm, h, rt, rx⟩
  refine wpAny_call (codeAny_mono (G.run X.A X.stack s H ⟨us, ks.zip ws⟩ (pick pm (us ++ ws)) (pick pm (vs ++ zs)) Q (WE W σ) hr I.env0 b (vals_pick rr pm) q) fun r s' hq => ?_)
  cases r with
  | error e => exact pw σ pins H s e s' I hq
  | ok fl =>
    cases fl with
    | ret u => exact I.after hq
    | next => exact False.elim hq
    | brk => exact False.elim hq
    | cont => exact False.elim hq
theorem de_callK0 {ks : List Str} {n : Nat} {pm : List Nat} {kws : List Keyword} (F : Dfn X.prog X.w X.K X.mg X.base CX x qual st k ps c) (hr : Room k X.A) (pw : Pw CX X W) (kb : KBn X.K x qual st ps ks 0 n pm) (hkw : DK X W kws tk) (hg : Gl X x := by rfl)
    (hall : (backToKw pos (keywordEach kws X.env)).all (·.1.isSome) = true := by rfl) (hks : (backToKw pos (keywordEach kws X.env)).filterMap (·.1) = ks := by rfl) (hdb : (x == ("__debug__" : Str)) = false := by decide)
    (hpl : ((backTo pos (starEach [] X.env)).any (·.1) || (backToKw pos (keywordEach kws X.env)).any (·.1.isNone)) = false := by rfl) : DE X W (.Call (.Name x p) [] kws pos) (dCallK c n pm dNil tk) := by
  obtain ⟨f, fd, FF, hm, G, bn⟩ := F.ex
  refine ⟨fun pins s σ H Q I ⟨δ, μ, Hc, Qd, Xd, sp, rs, h, rt, rx⟩ => ?_⟩
  refine wpAny_Call_Name_kw (ld_glob I hg hm ?_ hdb)
  refine PySem.W.callWith_KW0 (h₀ := X.base) I.ok.mod.kin FF.kp hall (thn (hkw.run pos pins s σ H (fun zs H2 => ∃ es μ2 Hc2, Same Hc Hc2 ∧ Split X.K H2 Hc2 μ2 ∧ RepA X.K Hc2 zs es ∧ ([] ++ es).length = n ∧ c (pick pm ([] ++ es)) μ2 Qd Xd) I ⟨δ, μ, Hc, _, Xd, sp, rs, h, fun es μ2 h2 zs H2 Hc2 e2 s2 r2 => ⟨es, μ2, Hc2, e2, s2, r2, h2.1, h2.2⟩, rx⟩) fun ws s2 hh => ?_) hpl
  obtain ⟨zs, H2, I2, rz, es, μ2, Hc2, e2, s2', r2, hn, hc⟩ := hh
  refine ⟨I2.kIn, ?_⟩
  rw [hks, List.append_nil]
  exact run_kw (us := []) (vs := []) (ds := []) FF G hr pw kb I2 .nil rz rfl s2' r2 hn hc (rt.mono e2) (rx.mono e2)
theorem de_callK {ks : List Str} {m n : Nat} {pm : List Nat} {kws : List Keyword} (F : Dfn X.prog X.w X.K X.mg X.base CX x qual st k ps c) (hr : Room k X.A) (pw : Pw CX X W) (kb : KBn X.K x qual st ps ks m n pm) (ha : DA X W (e :: es) tr) (hkw : DK X W kws tk)
    (hlen : (e :: es).length = m := by rfl) (hg : Gl X x := by rfl)
    (hall : (backToKw pos (keywordEach kws X.env)).all (·.1.isSome) = true := by rfl) (hks : (backToKw pos (keywordEach kws X.env)).filterMap (·.1) = ks := by rfl) (hdb : (x == ("__debug__" : Str)) = false := by decide)
    (he : starEach (e :: es) X.env = (false, eval e X.env) :: starEach es X.env := by rfl)
    (hpl : ((backTo pos (starEach (e :: es) X.env)).any (·.1) || (backToKw pos (keywordEach kws X.env)).any (·.1.isNone)) = false := by rfl) : DE X W (.Call (.Name x p) (e :: es) kws pos) (dCallK c n pm (dLenIs m tr) tk) := by
  obtain ⟨f, fd, FF, hm, G, bn⟩ := F.ex
  refine ⟨fun pins s σ H Q I ⟨δ, μ, Hc, Qd, Xd, sp, rs, h, rt, rx⟩ => ?_⟩
  refine wpAny_Call_Name_kw (ld_glob I hg hm ?_ hdb)
  refine PySem.W.callWith_KW (h₀ := X.base) I.ok.mod.kin FF.kp hall (thn (ha.run pos pins s σ H (fun vs H1 => ∃ ds μ1 Hc1, Same Hc Hc1 ∧ Split X.K H1 Hc1 μ1 ∧ RepA X.K Hc1 vs ds ∧ ds.length = m ∧ tk Xd δ μ1 (kCallK2 c n pm Xd Qd ds)) I
    ⟨δ, μ, Hc, _, Xd, sp, rs, h, fun ds μ1 h1 vs H1 Hc1 e1 s1 r1 => ⟨ds, μ1, Hc1, e1, s1, r1, h1.1, h1.2⟩, rx⟩) fun us s1 hh => ?_) hpl he
  obtain ⟨vs, H1, I1, rv, ds, μ1, Hc1, e1, s1', r1, hd, h1⟩ := hh
  refine thn (hkw.run pos pins s1 σ H1 (fun zs H2 => ∃ es μ2 Hc2, Same Hc1 Hc2 ∧ Split X.K H2 Hc2 μ2 ∧ RepA X.K Hc2 zs es ∧ (ds ++ es).length = n ∧ c (pick pm (ds ++ es)) μ2 Qd Xd) I1 ⟨δ, μ1, Hc1, _, Xd, s1', rs.mono e1, h1, fun es μ2 h2 zs H2 Hc2 e2 s2 r2 => ⟨es, μ2, Hc2, e2, s2, r2, h2.1, h2.2⟩, rx.mono e1⟩) fun ws s2 hh => ?_
  obtain ⟨zs, H2, I2, rz, es', μ2, Hc2, e2, s2', r2, hn, hc⟩ := hh
  refine ⟨I2.kIn, ?_⟩
  rw [hks, List.nil_append]
  exact run_kw FF G hr pw kb I2 rv rz (by rw [← rv.length, r1.length]; exact hd) s2' ((r1.mono e2).append r2) hn hc (rt.mono (e1.trans e2)) (rx.mono (e1.trans e2))

/-! ### calls of built-ins -/
abbrev DRC := List D → M → QD → Prop
def LCall (K : PySem.W.Frag) (r : List V → Hp → VK → Prop) (g : DRC) : Prop := ∀ (vs : List V) (ds : List D) (H Hc : Hp) (μ : M) (Q : VK) (Qd : QD), Split K H Hc μ → RepA K Hc vs ds → g ds μ Qd → Ret K Hc Qd Q → r vs H Q
def kCB (g : DRC) (Q : QD) (ds : List D) (μ : M) : Prop := g ds μ Q
def dCB (g : DRC) (t : DTA) (W : XD) (δ : Sl) (μ : M) (Q : QD) : Prop := t W δ μ (kCB g Q)
theorem liftCB {K : PySem.W.Frag} {r : List V → Hp → VK → Prop} {g : DRC} (l : LCall K r g) : ∀ σ H Q, upE K W (dCB g tr) σ H Q → tCB r (upA K W tr) σ H Q :=
  fun σ H Q ⟨δ, μ, Hc, Qd, Xd, s, rs, h, rt, rx⟩ => ⟨δ, μ, Hc, _, Xd, s, rs, h, fun ds μ1 h1 vs H1 Hc1 e1 s1 r1 => l vs ds H1 Hc1 μ1 Q Qd s1 r1 h1 (rt.mono e1), rx⟩
variable {id T : String} {r : List V → Hp → VK → Prop} {g : DRC}
theorem de_blt (hc : CallR X (.builtin id) r) (l : LCall X.K r g) (hm : X.mg x = none) (hv : bootBuiltins x = some (.builtin id)) (ha : DA X W (e :: es) tr) (hg : Gl X x := by rfl) (hn : x ≠ "__name__" := by decide) (hdb : (x == ("__debug__" : Str)) = false := by decide)
    (he : starEach (e :: es) X.env = (false, eval e X.env) :: starEach es X.env := by rfl) (hpl : (backTo pos (starEach es X.env)).any (·.1) = false := by rfl) : DE X W (.Call (.Name x p) (e :: es) [] pos) (dCB g tr) := PE.imp (pe_callB hc hg hm hv ha hn hdb he hpl) (liftCB l)
theorem de_blty (hc : CallR X (.type T) r) (l : LCall X.K r g) (hm : X.mg x = none) (hv : bootBuiltins x = some (.type T)) (ha : DA X W (e :: es) tr) (hg : Gl X x := by rfl) (hn : x ≠ "__name__" := by decide) (hdb : (x == ("__debug__" : Str)) = false := by decide)
    (he : starEach (e :: es) X.env = (false, eval e X.env) :: starEach es X.env := by rfl) (hpl : (backTo pos (starEach es X.env)).any (·.1) = false := by rfl) : DE X W (.Call (.Name x p) (e :: es) [] pos) (dCB g tr) := PE.imp (pe_callTy hc hg hm hv ha hn hdb he hpl) (liftCB l)
/-- a built-in's name as a value -/
theorem de_bltn {v : V} {u : Value} (hm : X.mg x = none) (hv : bootBuiltins x = some u) (r : RelV v u) (hg : Gl X x := by rfl) (hn : x ≠ "__name__" := by decide) (hd : (x == ("__debug__" : Str)) = false := by decide) : DE X W (.Name x p) (dC (.raw v)) := de_c (pe_bltn hg hm hv r hn hd) fun _ => .raw v
end

def gLen : DRC := fun ds μ Q => match ds with
  | [d] => match view μ d with
    | .lst xs => Q (.int xs.length) μ
    | .tup xs => Q (.int xs.length) μ
    | .scr ns => Q (.int ns.length) μ
    | .str z => z.length ≤ sizeLine ∧ Q (.int z.length) μ
    | _ => False
  | _ => False
theorem RepA.one' {K : PySem.W.Frag} {H : Hp} {vs : List V} {d : D} (r : RepA K H vs [d]) : ∃ v, vs = [v] ∧ Rep K H v d := by
  cases r with
  | cons a r => cases r; exact ⟨_, rfl, a⟩
theorem RepA.two' {K : PySem.W.Frag} {H : Hp} {vs : List V} {d e : D} (r : RepA K H vs [d, e]) : ∃ v u, vs = [v, u] ∧ Rep K H v d ∧ Rep K H u e := by
  cases r with
  | cons a r =>
    obtain ⟨u, rfl, b⟩ := r.one'
    exact ⟨_, u, rfl, a, b⟩
theorem l_len {K : PySem.W.Frag} : LCall K (fun xs H Q => ∃ x n, xs = [x] ∧ LenV K x H n ∧ Q (.int n) H) gLen := by
  intro vs ds H Hc μ Q Qd s ra h rt
  unfold gLen at h
  split at h
  · obtain ⟨v, rfl, r⟩ := ra.one'
    split at h
    · rename_i xs e1
      obtain ⟨a, ws, rfl, ha, rb⟩ := view_lst s r e1
      exact ⟨_, _, rfl, .inl ⟨ws, SqL.of ha, rfl⟩, rt.val s (.int _) (by rw [rb.length]; exact h)⟩
    · rename_i xs e1
      obtain ⟨a, ws, rfl, ha, rb⟩ := view_tup s r e1
      exact ⟨_, _, rfl, .inr ⟨ws, ha, rfl⟩, rt.val s (.int _) (by rw [rb.length]; exact h)⟩
    · rename_i ns e1
      obtain ⟨a, rfl, ha⟩ := view_scr s r e1
      exact ⟨_, _, rfl, .inl ⟨_, ha, rfl⟩, rt.val s (.int _) (by rw [List.length_map]; exact h)⟩
    · rename_i z e1
      cases view_str r e1
      exact ⟨_, _, rfl, ⟨h.1, rfl⟩, rt.val s (.int _) h.2⟩
    · exact h.elim
  · exact h.elim
def gAbs : DRC := fun ds μ Q => match ds with
  | [.int i] => Q (.int (if i < 0 then -i else i)) μ
  | _ => False
theorem l_abs {K : PySem.W.Frag} : LCall K (fun xs H Q => ∃ i, xs = [V.int i] ∧ Q (.int (if i < 0 then -i else i)) H) gAbs := by
  intro vs ds H Hc μ Q Qd s ra h rt
  unfold gAbs at h
  split at h
  · obtain ⟨v, rfl, r⟩ := ra.one'
    cases r
    exact ⟨_, rfl, rt.val s (.int _) h⟩
  · exact h.elim
def gMax2 : DRC := fun ds μ Q => match ds with
  | [.int i, .int j] => Q (.int (if j > i then j else i)) μ
  | _ => False
def gMin2 : DRC := fun ds μ Q => match ds with
  | [.int i, .int j] => Q (.int (if j < i then j else i)) μ
  | _ => False
theorem l_max2 {K : PySem.W.Frag} : LCall K (fun xs H Q => ∃ i j, xs = [V.int i, V.int j] ∧ Q (.int (if j > i then j else i)) H) gMax2 := by
  intro vs ds H Hc μ Q Qd s ra h rt
  unfold gMax2 at h
  split at h
  · obtain ⟨v, u, rfl, r1, r2⟩ := ra.two'
    cases r1; cases r2
    exact ⟨_, _, rfl, rt.val s (.int _) h⟩
  · exact h.elim
theorem l_min2 {K : PySem.W.Frag} : LCall K (fun xs H Q => ∃ i j, xs = [V.int i, V.int j] ∧ Q (.int (if j < i then j else i)) H) gMin2 := by
  intro vs ds H Hc μ Q Qd s ra h rt
  unfold gMin2 at h
  split at h
  · obtain ⟨v, u, rfl, r1, r2⟩ := ra.two'
    cases r1; cases r2
    exact ⟨_, _, rfl, rt.val s (.int _) h⟩
  · exact h.elim
/-- lists of truths -/
def blsOf : List D → Option (List Bool)
  | [] => some []
  | .bl b :: ds => (blsOf ds).map (b :: ·)
  | _ => none
def intsOf : List D → Option (List Int)
  | [] => some []
  | .int b :: ds => (intsOf ds).map (b :: ·)
  | _ => none
theorem blsOf_eq : ∀ {ds : List D} {bs : List Bool}, blsOf ds = some bs → ds = bs.map D.bl
  | [], bs, h => by cases h; rfl
  | .bl b :: ds, bs, h => by
    unfold blsOf at h
    cases e : blsOf ds with
    | none => rw [e] at h; cases h
    | some cs =>
      rw [e] at h
      cases h
      rw [blsOf_eq e]
      rfl
  | .non :: _, _, h => by cases h
  | .int _ :: _, _, h => by cases h
  | .str _ :: _, _, h => by cases h
  | .lst _ :: _, _, h => by cases h
  | .tup _ :: _, _, h => by cases h
  | .scr _ :: _, _, h => by cases h
  | .raw _ :: _, _, h => by cases h
  | .emp :: _, _, h => by cases h
theorem intsOf_eq : ∀ {ds : List D} {bs : List Int}, intsOf ds = some bs → ds = bs.map D.int
  | [], bs, h => by cases h; rfl
  | .int b :: ds, bs, h => by
    unfold intsOf at h
    cases e : intsOf ds with
    | none => rw [e] at h; cases h
    | some cs =>
      rw [e] at h
      cases h
      rw [intsOf_eq e]
      rfl
  | .non :: _, _, h => by cases h
  | .bl _ :: _, _, h => by cases h
  | .str _ :: _, _, h => by cases h
  | .lst _ :: _, _, h => by cases h
  | .tup _ :: _, _, h => by cases h
  | .scr _ :: _, _, h => by cases h
  | .raw _ :: _, _, h => by cases h
  | .emp :: _, _, h => by cases h
theorem blsOf_map : ∀ bs : List Bool, blsOf (bs.map D.bl) = some bs
  | [] => rfl
  | b :: bs => by rw [List.map_cons, blsOf, blsOf_map bs]; rfl
theorem intsOf_map : ∀ bs : List Int, intsOf (bs.map D.int) = some bs
  | [] => rfl
  | b :: bs => by rw [List.map_cons, intsOf, intsOf_map bs]; rfl
def gAll : DRC := fun ds μ Q => match ds with
  | [d] => match view μ d with
    | .lst xs => OptQ ((blsOf xs).map fun bs => .bl (bs.all fun b => b)) Q μ
    | _ => False
  | _ => False
def gAny : DRC := fun ds μ Q => match ds with
  | [d] => match view μ d with
    | .lst xs => OptQ ((blsOf xs).map fun bs => .bl (bs.any fun b => b)) Q μ
    | _ => False
  | _ => False
def gSum : DRC := fun ds μ Q => match ds with
  | [d] => match view μ d with
    | .lst xs => OptQ ((intsOf xs).map fun bs => .int bs.sum) Q μ
    | .tup xs => OptQ ((intsOf xs).map fun bs => .int bs.sum) Q μ
    | _ => False
  | _ => False
theorem l_all {K : PySem.W.Frag} : LCall K (rAll K) gAll := by
  intro vs ds H Hc μ Q Qd s ra h rt
  unfold gAll at h
  split at h
  · obtain ⟨v, rfl, r⟩ := ra.one'
    split at h
    · rename_i xs e1
      obtain ⟨a, ws, rfl, ha, rb⟩ := view_lst s r e1
      obtain ⟨bs', hb', hq⟩ := h.ex
      obtain ⟨bs, hb, rfl⟩ := Option.map_eq_some_iff.mp hb'
      rw [blsOf_eq hb] at rb
      rw [rb.bls] at ha
      exact ⟨a, bs, rfl, SqL.of ha, rt.val s (.bl _) hq⟩
    · exact h.elim
  · exact h.elim
theorem l_any {K : PySem.W.Frag} : LCall K (rAny K) gAny := by
  intro vs ds H Hc μ Q Qd s ra h rt
  unfold gAny at h
  split at h
  · obtain ⟨v, rfl, r⟩ := ra.one'
    split at h
    · rename_i xs e1
      obtain ⟨a, ws, rfl, ha, rb⟩ := view_lst s r e1
      obtain ⟨bs', hb', hq⟩ := h.ex
      obtain ⟨bs, hb, rfl⟩ := Option.map_eq_some_iff.mp hb'
      rw [blsOf_eq hb] at rb
      rw [rb.bls] at ha
      exact ⟨a, bs, rfl, SqL.of ha, rt.val s (.bl _) hq⟩
    · exact h.elim
  · exact h.elim
open PyProof.Rows in
theorem sum_rawT {prog : Program} {w : World} {A : Around} {E : Value → Shared → Prop} {s : Shared} {l : Addr} {its : List Value} {ns : List Int} {Q : Value → Shared → Prop} (hh : A.handled = none) (hl : s.heap.IsTuple l its.toArray) (hi : IntsAre its ns)
    (h : ∀ h' tk t', (∀ b o, s.heap.get? b = some o → h'.get? b = some o) → Q (.int ns.sum t') { s with heap := h', toks := tk }) : wpAny (model prog w) A (call (.builtin "sum") [.ref l]) Q E s := by
  obtain ⟨xs, e⟩ := hi.allInts.items
  have hn : numsOf (intItems xs).toList = ns := by rw [← e]; exact hi.numsOf
  rw [nums_intItems] at hn
  rw [e] at hl
  refine PySem.W.ktm_sumG hh hl fun h' tk t' hk => ?_
  have := h h' tk t' hk
  rw [preSum_eq, List.take_of_length_le (by simp), hn]; exact this
def rSumA (K : PySem.W.Frag) : List V → Hp → VK → Prop := fun vs H Q => ∃ (a : Addr) (ns : List Int), vs = [V.ref a] ∧ (SqL K H a (ns.map V.int) ∨ SqT K H a (ns.map V.int)) ∧ Q (.int ns.sum) H
theorem cr_sumA {X : Cx} (hc : X.calm = true) : CallR X (.builtin "sum") (rSumA X.K) := by
  intro pins s σ H vs us Q I r h
  obtain ⟨a, ns, rfl, hs | hs, q⟩ := h
  · exact cr_sum hc pins s σ H _ us Q I r ⟨a, ns, rfl, hs, q⟩
  · obtain ⟨its, rv, hl, _⟩ := I.tuple hs
    rw [Vals.ref1 r]
    exact sum_rawT (I.ok.hd hc) hl rv.ints fun h' tk t' hk => ⟨.int _, H, I.kept hk, ⟨_, rfl⟩, q⟩
theorem l_sum {K : PySem.W.Frag} : LCall K (rSumA K) gSum := by
  intro vs ds H Hc μ Q Qd s ra h rt
  unfold gSum at h
  split at h
  · obtain ⟨v, rfl, r⟩ := ra.one'
    split at h
    · rename_i xs e1
      obtain ⟨a, ws, rfl, ha, rb⟩ := view_lst s r e1
      obtain ⟨bs', hb', hq⟩ := h.ex
      obtain ⟨bs, hb, rfl⟩ := Option.map_eq_some_iff.mp hb'
      rw [intsOf_eq hb] at rb
      rw [rb.ints] at ha
      exact ⟨a, bs, rfl, .inl (SqL.of ha), rt.val s (.int _) hq⟩
    · rename_i xs e1
      obtain ⟨a, ws, rfl, ha, rb⟩ := view_tup s r e1
      obtain ⟨bs', hb', hq⟩ := h.ex
      obtain ⟨bs, hb, rfl⟩ := Option.map_eq_some_iff.mp hb'
      rw [intsOf_eq hb] at rb
      rw [rb.ints] at ha
      exact ⟨a, bs, rfl, .inr ha, rt.val s (.int _) hq⟩
    · exact h.elim
  · exact h.elim
/-- list(xs): data, or a cell -/
def gList : DRC := fun ds μ Q => match ds with
  | [d] => match view μ d with
    | .lst xs => Q (.lst xs) μ
    | .tup xs => Q (.lst xs) μ
    | _ => False
  | _ => False
def gListC : DRC := fun ds μ Q => match ds with
  | [d] => match view μ d with
    | .lst xs => NewC xs μ Q
    | .tup xs => NewC xs μ Q
    | _ => False
  | _ => False
abbrev rListOf (K : PySem.W.Frag) : List V → Hp → VK → Prop := fun xs H Q => ∃ p ys, xs = [.ref p] ∧ (SqL K H p ys ∨ SqT K H p ys) ∧ ∀ l, H l = none → Q (.ref l) (upd H l (.lst ys))
theorem l_list {K : PySem.W.Frag} : LCall K (rListOf K) gList := by
  intro vs ds H Hc μ Q Qd s ra h rt
  unfold gList at h
  split at h
  · obtain ⟨v, rfl, r⟩ := ra.one'
    split at h
    · rename_i xs e1
      obtain ⟨a, ws, rfl, ha, rb⟩ := view_lst s r e1
      exact ⟨a, ws, rfl, .inl (SqL.of ha), rt.new s rb h⟩
    · rename_i xs e1
      obtain ⟨a, ws, rfl, ha, rb⟩ := view_tup s r e1
      exact ⟨a, ws, rfl, .inr ha, rt.new s rb h⟩
    · exact h.elim
  · exact h.elim
theorem l_listC {K : PySem.W.Frag} : LCall K (rListOf K) gListC := by
  intro vs ds H Hc μ Q Qd s ra h rt
  unfold gListC at h
  split at h
  · obtain ⟨v, rfl, r⟩ := ra.one'
    split at h
    · rename_i xs e1
      obtain ⟨a, ws, rfl, ha, rb⟩ := view_lst s r e1
      exact ⟨a, ws, rfl, .inl (SqL.of ha), rt.newC s rb h⟩
    · rename_i xs e1
      obtain ⟨a, ws, rfl, ha, rb⟩ := view_tup s r e1
      exact ⟨a, ws, rfl, .inr ha, rt.newC s rb h⟩
    · exact h.elim
  · exact h.elim
def gTuple : DRC := fun ds μ Q => match ds with
  | [d] => match view μ d with
    | .lst xs => Q (.tup xs) μ
    | _ => False
  | _ => False
theorem l_tuple {K : PySem.W.Frag} : LCall K (fun xs H Q => ∃ p ys, xs = [.ref p] ∧ ((SqL K H p ys ∧ ∀ l, H l = none → Q (.ref l) (upd H l (.tup ys))) ∨ (SqT K H p ys ∧ Q (.ref p) H))) gTuple := by
  intro vs ds H Hc μ Q Qd s ra h rt
  unfold gTuple at h
  split at h
  · obtain ⟨v, rfl, r⟩ := ra.one'
    split at h
    · rename_i xs e1
      obtain ⟨a, ws, rfl, ha, rb⟩ := view_lst s r e1
      exact ⟨a, ws, rfl, .inl ⟨SqL.of ha, rt.newT s rb h⟩⟩
    · exact h.elim
  · exact h.elim
/-! isinstance of data against a built-in class -/
def tyN : D → Option String
  | .non => some "NoneType"
  | .bl _ => some "bool"
  | .int _ => some "int"
  | .str _ => some "str"
  | .lst _ => some "list"
  | .tup _ => some "tuple"
  | .emp => some "dict"
  | _ => none
theorem tyX_of {K : PySem.W.Frag} {H : Hp} {v : V} {d : D} {n : String} (r : Rep K H v d) (h : tyN d = some n) : TyX K H v (.type n) := by
  cases r with
  | non => cases h; exact .base .non
  | bl b => cases h; exact .base (.bl b)
  | int b => cases h; exact .base (.int b)
  | str b => cases h; exact .base (.str b)
  | lst a _ => cases h; exact .base (.lst a)
  | tup a _ =>
    cases h
    rcases a with (a | ⟨o, a⟩) | ⟨o, its, n, a, b, _⟩
    · exact .base (.tup a)
    · exact .fTuple a
    · exact .kTuple a b
  | emp a => cases h; exact .base (.dK a)
  | _ => cases h
def subN : String → String → Bool
  | "bool", "int" => true
  | a, b => a == b
def knownTy (a : String) : Bool := a == "NoneType" || a == "bool" || a == "int" || a == "str" || a == "list" || a == "tuple"
def gIsi (T : String) : DR2 := fun a b μ Q => match b with
  | .raw (.ty T') => T' = T ∧ OptQ ((tyN (view μ a)).map fun n => .bl (subN n T)) Q μ
  | _ => False
theorem kitB_all {d : D} {n T : String} (h : tyN d = some n) (hT : T = "int" ∨ T = "bool" ∨ T = "str" ∨ T = "list" ∨ T = "tuple") : kitB n T = some (subN n T) := by
  have hn : n = "NoneType" ∨ n = "bool" ∨ n = "int" ∨ n = "str" ∨ n = "list" ∨ n = "tuple" ∨ n = "dict" := by
    cases d <;> first | (cases h; simp) | cases h
  rcases hn with rfl | rfl | rfl | rfl | rfl | rfl | rfl <;> rcases hT with rfl | rfl | rfl | rfl | rfl <;> decide +kernel
def gIsiC (T : String) : DRC := fun ds μ Q => match ds with
  | [a, b] => gIsi T a b μ Q
  | _ => False
theorem l_isi {K : PySem.W.Frag} {T : String} (hT : T = "int" ∨ T = "bool" ∨ T = "str" ∨ T = "list" ∨ T = "tuple") : LCall K (rIsi K) (gIsiC T) := by
  intro vs ds H Hc μ Q Qd s ra h rt
  unfold gIsiC at h
  split at h
  · obtain ⟨v, u, rfl, r1, r2⟩ := ra.two'
    unfold gIsi at h
    split at h
    · rename_i T'
      obtain ⟨e1, h2⟩ := h
      subst e1
      obtain ⟨n', hn', hq⟩ := h2.ex
      obtain ⟨n, hn, rfl⟩ := Option.map_eq_some_iff.mp hn'
      cases r2
      exact ⟨v, _, .type n, .type T', _, rfl, .ty _, tyX_of (view_rep s r1) hn, kit_ty (kitB_all hn hT), rt.val s (.bl _) hq⟩
    · exact h.elim
  · exact h.elim
end DL
set_option Elab.async false
set_option linter.all false
set_option maxRecDepth 100000
set_option maxHeartbeats 2000000
/-! The data layer: statements, loops, comprehensions, errors. -/
namespace DL
open PySem PySem.Spec L2

section
variable {X : Cx} {W : WX} {a b c e : Expr} {es : List Expr} {pos p : Pos} {ta tb te : DTE} {tr : DTA} {st : Stmt} {rest body : List Stmt} {t u : DTS}
def dNext (E : DEnds) (δ : Sl) (μ : M) : Prop := E.nx δ μ
def dSeq (t u : DTS) (E : DEnds) (δ : Sl) (μ : M) : Prop := t { E with nx := u E } δ μ
theorem dss_nil : DSs X W [] dNext := PSs.imp pss_nil fun D σ H ⟨δ, μ, Hc, Dd, s, rs, h, rt⟩ => rt.nx _ _ h _ _ Hc (Same.refl _) s rs
theorem dss_cons (h1 : DS X W st t) (h2 : DSs X W rest u) : DSs X W (st :: rest) (dSeq t u) := PSs.imp (pss_cons h1 h2) fun D σ H ⟨δ, μ, Hc, Dd, s, rs, h, rt⟩ =>
  ⟨δ, μ, Hc, { Dd with nx := u Dd }, s, rs, h, ⟨fun δ' μ' h' σ' H' Hc' e' s' rs' => ⟨δ', μ', Hc', Dd, s', rs', h', rt.mono e'⟩, rt.rt, rt.bk, rt.ct, rt.xc⟩⟩
theorem dss_one (h1 : DS X W st t) : DSs X W [st] t := pss_one h1
def kDrop (E : DEnds) (δ : Sl) (_ : D) (μ : M) : Prop := E.nx δ μ
def dDrop (te : DTE) (E : DEnds) (δ : Sl) (μ : M) : Prop := te (E.xc δ) δ μ (kDrop E δ)
theorem ds_expr (he : DE X W e te) (hs : swapsWith e none pos.line X.env = pure false := by rfl) : DS X W (.Expr e pos) (dDrop te) := PS.imp (ps_expr he hs) fun D σ H ⟨δ, μ, Hc, Dd, s, rs, h, rt⟩ =>
  ⟨δ, μ, Hc, _, _, s, rs, h, fun d μ1 h1 v H1 Hc1 e1 s1 r1 => rt.nx _ _ h1 _ _ _ e1 s1 (rs.mono e1), rt.xc.at rs⟩
def dRet (te : DTE) (E : DEnds) (δ : Sl) (μ : M) : Prop := te (E.xc δ) δ μ E.rt
theorem ds_ret (he : DE X W e te) : DS X W (.Return (some e) pos) (dRet te) := PS.imp (ps_ret he) fun D σ H ⟨δ, μ, Hc, Dd, s, rs, h, rt⟩ => ⟨δ, μ, Hc, _, _, s, rs, h, rt.rt, rt.xc.at rs⟩
def dRetN (E : DEnds) (_ : Sl) (μ : M) : Prop := E.rt .non μ
theorem ds_retN : DS X W (.Return none pos) dRetN := PS.imp ps_retN fun D σ H ⟨δ, μ, Hc, Dd, s, rs, h, rt⟩ => rt.rt.val s .non h
theorem ds_pass : DS X W (.Pass pos) dNext := PS.imp ps_pass fun D σ H ⟨δ, μ, Hc, Dd, s, rs, h, rt⟩ => rt.nx _ _ h _ _ Hc (Same.refl _) s rs
def dBreak (E : DEnds) (δ : Sl) (μ : M) : Prop := E.bk δ μ
def dCont (E : DEnds) (δ : Sl) (μ : M) : Prop := E.ct δ μ
theorem ds_break : DS X W (.Break pos) dBreak := PS.imp ps_break fun D σ H ⟨δ, μ, Hc, Dd, s, rs, h, rt⟩ => rt.bk _ _ h _ _ Hc (Same.refl _) s rs
theorem ds_cont : DS X W (.Continue pos) dCont := PS.imp ps_continue fun D σ H ⟨δ, μ, Hc, Dd, s, rs, h, rt⟩ => rt.ct _ _ h _ _ Hc (Same.refl _) s rs
def ifS (b : Bool) (t u : DTS) (E : DEnds) (δ : Sl) (μ : M) : Prop := match b with
  | true => t E δ μ
  | false => u E δ μ
theorem ifS_of {b : Bool} {t u : DTS} {E : DEnds} {δ : Sl} {μ : M} (h1 : b = true → t E δ μ) (h2 : b = false → u E δ μ) : ifS b t u E δ μ := by
  cases b with
  | true => exact h1 rfl
  | false => exact h2 rfl
theorem ifS_dec {p : Prop} [Decidable p] {t u : DTS} {E : DEnds} {δ : Sl} {μ : M} (h1 : p → t E δ μ) (h2 : ¬ p → u E δ μ) : ifS (decide p) t u E δ μ := ifS_of (fun h => h1 (of_decide_eq_true h)) (fun h => h2 (of_decide_eq_false h))
theorem ifS_ndec {p : Prop} [Decidable p] {t u : DTS} {E : DEnds} {δ : Sl} {μ : M} (h1 : ¬ p → t E δ μ) (h2 : p → u E δ μ) : ifS (!decide p) t u E δ μ := ifS_of (fun h => h1 (by simpa using h)) (fun h => h2 (by simpa using h))
def kIf (t u : DTS) (E : DEnds) (δ : Sl) (b : Bool) (μ : M) : Prop := ifS b t u E δ μ
def dIf (c : DTT) (t u : DTS) (E : DEnds) (δ : Sl) (μ : M) : Prop := c (E.xc δ) δ μ (kIf t u E δ)
theorem ds_if {tc : DTT} {sa sb : List Stmt} (hc : DT X W c tc) (ha : DSs X W sa t) (hb : DSs X W sb u) : DS X W (.If c sa sb pos) (dIf tc t u) := PS.imp (ps_if hc ha hb) fun D σ H ⟨δ, μ, Hc, Dd, s, rs, h, rt⟩ =>
  ⟨δ, μ, Hc, _, _, s, rs, h, fun b μ1 h1 H1 Hc1 e1 s1 => by
    cases b with
    | true => exact ⟨δ, μ1, Hc1, Dd, s1, rs.mono e1, h1, rt.mono e1⟩
    | false => exact ⟨δ, μ1, Hc1, Dd, s1, rs.mono e1, h1, rt.mono e1⟩, rt.xc.at rs⟩
/-- name = e -/
def kSet (i : Nat) (E : DEnds) (δ : Sl) (d : D) (μ : M) : Prop := E.nx (δ.set i (some d)) μ
def dSet (i : Nat) (te : DTE) (E : DEnds) (δ : Sl) (μ : M) : Prop := te (E.xc δ) δ μ (kSet i E δ)
theorem ds_set {i : Nat} {x : Str} {pos' : Pos} (hN : X.N.Nodup) (he : DE X W e te) (hi : X.N[i]? = some x := by rfl) (hx : Loc X.env.scope x := by first | exact .inl rfl | exact .inr rfl)
    (hs : swapsWith e (some (.Name x pos')) pos.line X.env = pure false := by rfl) (hf : X.fn x = true ∨ X.env.scope.names.lookup x = some .local := by first | exact .inl rfl | exact .inr rfl | assumption) :
    DS X W (.Assign [.Name x pos'] e pos) (dSet i te) := PS.imp (ps_set hN hi hx he hs hf) fun D σ H ⟨δ, μ, Hc, Dd, s, rs, h, rt⟩ =>
  ⟨δ, μ, Hc, _, _, s, rs, h, fun d μ1 h1 v H1 Hc1 e1 s1 r1 => rt.nx _ _ h1 _ _ _ e1 s1 ((rs.mono e1).set i r1), rt.xc.at rs⟩
/-- a, b = x, y -/
def kPar (i j : Nat) (E : DEnds) (δ : Sl) (ds : List D) (μ : M) : Prop := match ds with
  | [d, e] => E.nx ((δ.set i (some d)).set j (some e)) μ
  | _ => False
def dPar (i j : Nat) (tr : DTA) (E : DEnds) (δ : Sl) (μ : M) : Prop := tr (E.xc δ) δ μ (kPar i j E δ)
theorem ds_par {i j : Nat} {x y : Str} {px py pt : Pos} {kt k2 pt2} (hN : X.N.Nodup) (ha : DA X W [a, b] tr) (hij : i ≠ j := by decide) (hi : X.N[i]? = some x := by rfl) (hj : X.N[j]? = some y := by rfl) (hc : X.calm = true := by rfl)
    (hx : X.env.scope.names.lookup x = some .local := by rfl) (hy : X.env.scope.names.lookup y = some .local := by rfl)
    (hw : swappedStores [.Tuple [.Name x px, .Name y py] kt pt] (.Tuple [a, b] k2 pt2) X.env = pure (some [x, y]) := by rfl)
    (hs : swapsWithSole [.Tuple [.Name x px, .Name y py] kt pt] (.Tuple [a, b] k2 pt2) pos.line X.env = pure false := by rfl) :
    DS X W (.Assign [.Tuple [.Name x px, .Name y py] kt pt] (.Tuple [a, b] k2 pt2) pos) (dPar i j tr) := PS.imp (ps_par hc hN hi hj hij hx hy ha hw hs) fun D σ H ⟨δ, μ, Hc, Dd, s, rs, h, rt⟩ =>
  ⟨δ, μ, Hc, _, _, s, rs, h, fun ds μ1 h1 vs H1 Hc1 e1 s1 r1 => by
    unfold kPar at h1
    split at h1
    · obtain ⟨v, w, rfl, ra, rb⟩ := r1.two'
      exact ⟨v, w, rfl, rt.nx _ _ h1 _ _ _ e1 s1 (((rs.mono e1).set i ra).set j rb)⟩
    · exact h1.elim, rt.xc.at rs⟩
/-- name op= e -/
def kAug (i : Nat) (g : DR2) (E : DEnds) (δ : Sl) (x : D) (y : D) (μ : M) : Prop := g x y μ (kSet i E δ)
def dAug (i : Nat) (g : DR2) (te : DTE) (E : DEnds) (δ : Sl) (μ : M) : Prop := match δ[i]? with
  | some (some x) => te (E.xc δ) δ μ (kAug i g E δ x)
  | _ => False
theorem ds_aug {i : Nat} {x : Str} {op : Operator} {g : DR2} {ti : TIp} {pos' : Pos} (hN : X.N.Nodup) (ho : PIp X op ti) (l : LOp X.K ti g) (he : DE X W e te) (hi : X.N[i]? = some x := by rfl) (hx : Loc X.env.scope x := by first | exact .inl rfl | exact .inr rfl)
    (hf : X.fn x = true ∨ X.env.scope.names.lookup x = some .local := by first | exact .inl rfl | exact .inr rfl | assumption) : DS X W (.AugAssign (.Name x pos') op e pos) (dAug i g te) :=
  PS.imp (ps_aug hN hi hx he ho hf) fun D σ H ⟨δ, μ, Hc, Dd, s, rs, h, rt⟩ => by
    unfold dAug at h
    split at h
    · rename_i d ed
      obtain ⟨v, hv, rv⟩ := rs.val i d ed
      exact ⟨v, hv, δ, μ, Hc, _, _, s, rs, h, fun d' μ1 h1 v' H1 Hc1 e1 s1 r1 => l v v' d d' H1 Hc1 μ1 _ _ s1 (rv.mono e1) r1 h1 fun z μ2 h2 w H2 Hc2 e2 s2 r2 => rt.nx _ _ h2 _ _ _ (e1.trans e2) s2 ((rs.mono (e1.trans e2)).set i r2), rt.xc.at rs⟩
    · exact h.elim
theorem l_ipI {K : PySem.W.Frag} {f : Int → Int → Int} : LOp K (ipI f) (gI0 fun i j => .int (f i j)) := fun x y d e H Hc μ Q Qd s rx ry h rt => l_I0 (K := K) (fv := fun i j => .int (f i j)) (fun _ _ _ => .int _) x y d e H Hc μ Q Qd s rx ry h rt

/-! ### targets that are names -/
abbrev TGD := M → D → Option (List (Nat × D))
abbrev TGDs := M → List D → Option (List (Nat × D))
def tgN (i : Nat) : TGD := fun _ d => some [(i, d)]
def tgT (fs : TGDs) : TGD := fun μ d => match view μ d with
  | .tup ds => fs μ ds
  | _ => none
def tgNil : TGDs := fun _ ds => match ds with
  | [] => some []
  | _ => none
def tgCons (f : TGD) (fs : TGDs) : TGDs := fun μ ds => match ds with
  | d :: ds => (f μ d).bind fun b => (fs μ ds).map (b ++ ·)
  | _ => none
def sets {α : Type} (bs : List (Nat × α)) (σ : List (Option α)) : List (Option α) := bs.foldl (fun σ b => σ.set b.1 (some b.2)) σ
theorem sets_append {α : Type} (as bs : List (Nat × α)) (σ : List (Option α)) : sets (as ++ bs) σ = sets bs (sets as σ) := List.foldl_append ..
def RepB (K : PySem.W.Frag) (H : Hp) : List (Nat × V) → List (Nat × D) → Prop := Paired fun x y => x.1 = y.1 ∧ Rep K H x.2 y.2
theorem RepS.sets {K : PySem.W.Frag} {H : Hp} : ∀ {bs : List (Nat × V)} {cs : List (Nat × D)} {σ : L2.St} {δ : Sl}, RepB K H bs cs → RepS K H σ δ → RepS K H (sets bs σ) (sets cs δ)
  | _, _, _, _, .nil, r => r
  | (i, v) :: bs, (j, d) :: cs, σ, δ, .cons h t, r => by
    obtain ⟨h1, h2⟩ := h
    cases (show i = j from h1)
    exact RepS.sets (bs := bs) (cs := cs) t (r.set i h2)
theorem RepB.append {K : PySem.W.Frag} {H : Hp} : ∀ {bs bs' : List (Nat × V)} {cs cs' : List (Nat × D)}, RepB K H bs cs → RepB K H bs' cs' → RepB K H (bs ++ bs') (cs ++ cs')
  | _, _, _, _, .nil, s => s
  | _, _, _, _, .cons h t, s => .cons h (RepB.append t s)
theorem RepB.mono {K : PySem.W.Frag} {H H' : Hp} (e : Same H H') : ∀ {bs : List (Nat × V)} {cs : List (Nat × D)}, RepB K H bs cs → RepB K H' bs cs
  | _, _, .nil => .nil
  | _, _, .cons h t => .cons ⟨h.1, h.2.mono e⟩ (RepB.mono e t)
theorem RepB.fst {K : PySem.W.Frag} {H : Hp} : ∀ {bs : List (Nat × V)} {cs : List (Nat × D)}, RepB K H bs cs → bs.map (·.1) = cs.map (·.1)
  | _, _, .nil => rfl
  | _, _, .cons h t => by rw [List.map_cons, List.map_cons, h.1, RepB.fst t]
def LG (K : PySem.W.Frag) (g : TG) (f : TGD) : Prop := ∀ (v : V) (d : D) (H Hc : Hp) (μ : M) (σ : L2.St) (Q : L2.St → Hp → Prop) (cs : List (Nat × D)), Split K H Hc μ → Rep K Hc v d → f μ d = some cs → (∀ bs, RepB K Hc bs cs → Q (sets bs σ) H) → g v σ H Q
def LGs (K : PySem.W.Frag) (g : TGs) (f : TGDs) : Prop := ∀ (vs : List V) (ds : List D) (H Hc : Hp) (μ : M) (σ : L2.St) (Q : L2.St → Hp → Prop) (cs : List (Nat × D)), Split K H Hc μ → RepA K Hc vs ds → f μ ds = some cs → (∀ bs, RepB K Hc bs cs → Q (sets bs σ) H) → g vs σ H Q
theorem lg_name {K : PySem.W.Frag} {i : Nat} : LG K (gName i) (tgN i) := fun v d H Hc μ σ Q cs s r h q => by
  cases h
  exact q [(i, v)] (.cons ⟨rfl, r⟩ .nil)
theorem lg_nil {K : PySem.W.Frag} : LGs K gNil tgNil := fun vs ds H Hc μ σ Q cs s r h q => by
  cases r with
  | nil => cases h; exact ⟨rfl, q [] .nil⟩
  | cons _ _ => cases h
theorem lg_cons {K : PySem.W.Frag} {g : TG} {gs : TGs} {f : TGD} {fs : TGDs} (h1 : LG K g f) (h2 : LGs K gs fs) : LGs K (gCons g gs) (tgCons f fs) := fun vs ds H Hc μ σ Q cs s r h q => by
  cases r with
  | nil => cases h
  | @cons v vs d ds a ra =>
    have h' : ((f μ d).bind fun b => (fs μ ds).map (b ++ ·)) = some cs := h
    cases e1 : f μ d with
    | none => rw [e1] at h'; cases h'
    | some b1 =>
      rw [e1] at h'
      cases e2 : fs μ ds with
      | none => rw [Option.bind_some, e2] at h'; cases h'
      | some b2 =>
        rw [Option.bind_some, e2] at h'
        cases h'
        refine ⟨v, vs, rfl, h1 v d H Hc μ σ _ b1 s a e1 fun bs rb => h2 vs ds H Hc μ _ _ b2 s ra e2 fun bs2 rb2 => ?_⟩
        rw [← sets_append]
        exact q _ (rb.append rb2)
theorem lg_tup {K : PySem.W.Frag} {n : Nat} {gs : TGs} {fs : TGDs} (h : LGs K gs fs) (hn : ∀ μ ds cs, fs μ ds = some cs → ds.length = n) : LG K (gTup K n gs) (tgT fs) := fun v d H Hc μ σ Q cs s r hf q => by
  unfold tgT at hf
  split at hf
  · rename_i ds e1
    obtain ⟨a, vs, rfl, ha, ra⟩ := view_tup s r e1
    exact ⟨a, vs, rfl, ha, by rw [ra.length]; exact hn _ _ _ hf, h vs ds H Hc μ σ Q cs s ra hf q⟩
  · cases hf
theorem ln_nil : ∀ (μ : M) ds cs, tgNil μ ds = some cs → ds.length = 0 := fun μ ds cs h => by
  cases ds with
  | nil => rfl
  | cons _ _ => cases h
theorem ln_cons {f : TGD} {fs : TGDs} {n : Nat} (h : ∀ (μ : M) ds cs, fs μ ds = some cs → ds.length = n) : ∀ (μ : M) ds cs, tgCons f fs μ ds = some cs → ds.length = n + 1 := fun μ ds cs hh => by
  cases ds with
  | nil => cases hh
  | cons d ds =>
    have h' : ((f μ d).bind fun b => (fs μ ds).map (b ++ ·)) = some cs := hh
    cases e1 : f μ d with
    | none => rw [e1] at h'; cases h'
    | some b1 =>
      rw [e1] at h'
      cases e2 : fs μ ds with
      | none => rw [Option.bind_some, e2] at h'; cases h'
      | some b2 => rw [List.length_cons, h μ ds b2 e2]
/-- target = e -/
def setsK (o : Option (List (Nat × D))) (E : DEnds) (δ : Sl) (μ : M) : Prop := match o with
  | some cs => E.nx (sets cs δ) μ
  | none => False
theorem setsK.ex {o : Option (List (Nat × D))} {E : DEnds} {δ : Sl} {μ : M} (h : setsK o E δ μ) : ∃ cs, o = some cs ∧ E.nx (sets cs δ) μ := by
  cases o with
  | none => exact h.elim
  | some x => exact ⟨x, rfl, h⟩
def kAsg (f : TGD) (E : DEnds) (δ : Sl) (d : D) (μ : M) : Prop := setsK (f μ d) E δ μ
def dAsg (te : DTE) (f : TGD) (E : DEnds) (δ : Sl) (μ : M) : Prop := te (E.xc δ) δ μ (kAsg f E δ)
theorem ds_asg {tg : Expr} {g : TG} {f : TGD} (he : DE X W e te) (hg : PG X tg g) (lg : LG X.K g f) (hs : swapsWithSole [tg] e pos.line X.env = pure false := by rfl) (hw : swappedStores [tg] e X.env = pure none := by rfl)
    (h1 : (assignEach [tg] X.env).map (·.2) = [assign tg X.env] := by rfl) : DS X W (.Assign [tg] e pos) (dAsg te f) := PS.imp (ps_asg he hg hs hw h1) fun D σ H ⟨δ, μ, Hc, Dd, s, rs, h, rt⟩ =>
  ⟨δ, μ, Hc, _, _, s, rs, h, fun d μ1 h1 v H1 Hc1 e1 s1 r1 => by
    obtain ⟨cs, hc, hq⟩ := setsK.ex h1
    exact lg v d H1 Hc1 μ1 σ _ cs s1 r1 hc fun bs rb => rt.nx _ _ hq _ _ _ e1 s1 (RepS.sets rb (rs.mono e1)), rt.xc.at rs⟩

/-! ### o[i] = e, o a cell -/
def putIx (o : Option Nat) (p : Addr) (ds : List D) (d : D) (E : DEnds) (δ : Sl) (μ : M) : Prop := match o with
  | some j => E.nx δ (updM μ p (.lst (ds.set j d)))
  | none => False
theorem putIx.ex {o : Option Nat} {p : Addr} {ds : List D} {d : D} {E : DEnds} {δ : Sl} {μ : M} (h : putIx o p ds d E δ μ) : ∃ j, o = some j ∧ E.nx δ (updM μ p (.lst (ds.set j d))) := by
  cases o with
  | none => exact h.elim
  | some x => exact ⟨x, rfl, h⟩
def kSetIx3 (E : DEnds) (δ : Sl) (d o i : D) (μ : M) : Prop := match o, i with
  | .raw (.ref p), .int k => ∃ ds, μ p = some (.lst ds) ∧ putIx (ixN ds.length k) p ds d E δ μ
  | _, _ => False
def kSetIx2 (ti : DTE) (E : DEnds) (δ : Sl) (d o : D) (μ : M) : Prop := ti (E.xc δ) δ μ (kSetIx3 E δ d o)
def kSetIx1 (to ti : DTE) (E : DEnds) (δ : Sl) (d : D) (μ : M) : Prop := to (E.xc δ) δ μ (kSetIx2 ti E δ d)
def dSetIx (te to ti : DTE) (E : DEnds) (δ : Sl) (μ : M) : Prop := te (E.xc δ) δ μ (kSetIx1 to ti E δ)
theorem ds_setix {o i : Expr} {to ti : DTE} {pos' : Pos} (he : DE X W e te) (ho : DE X W o to) (hi : DE X W i ti)
    (ha : ∀ v, assign (.Subscript o i pos') X.env v = (do
      let ov ← holding [v] (eval o X.env)
      let iv ← holding [v, ov] (eval i X.env)
      standAt pos'
      holding [v, ov, iv] (setItem ov iv v)
      release [v, ov, iv] []) := by intro _; rfl) (hs : swapsWithSole [.Subscript o i pos'] e pos.line X.env = pure false := by rfl) (hw : swappedStores [.Subscript o i pos'] e X.env = pure none := by rfl)
    (h1 : (assignEach [.Subscript o i pos'] X.env).map (·.2) = [assign (.Subscript o i pos') X.env] := by rfl) : DS X W (.Assign [.Subscript o i pos'] e pos) (dSetIx te to ti) :=
  PS.imp (ps_asg he (pg_sub ho hi set_list ha) hs hw h1) fun D σ H ⟨δ, μ, Hc, Dd, s, rs, h, rt⟩ =>
  ⟨δ, μ, Hc, _, _, s, rs, h, fun d μ1 h1 v H1 Hc1 e1 s1 r1 => ⟨δ, μ1, Hc1, _, _, s1, rs.mono e1, h1, fun o' μ2 h2 w H2 Hc2 e2 s2 r2 => ⟨δ, μ2, Hc2, _, _, s2, rs.mono (e1.trans e2), h2, fun i' μ3 h3 z H3 Hc3 e3 s3 r3 => by
    unfold kSetIx3 at h3
    split at h3
    · rename_i p k
      obtain ⟨ds, hp, h4⟩ := h3
      obtain ⟨j, hj, hq⟩ := h4.ex
      cases r2
      cases r3
      obtain ⟨_, ob, ho', vs, rfl, ra⟩ := s3.cell p _ hp
      refine ⟨p, vs, k, j, rfl, rfl, ho', by rw [ra.length]; exact hj, ?_⟩
      exact rt.nx _ _ hq _ _ Hc3 ((e1.trans e2).trans e3) (s3.put hp ⟨_, rfl, ra.set (r1.mono (e2.trans e3)) j⟩) (rs.mono ((e1.trans e2).trans e3))
    · exact h3.elim, (rt.xc.at rs).mono (e1.trans e2)⟩, (rt.xc.at rs).mono e1⟩, rt.xc.at rs⟩

/-! ### while -/
/-- a smaller turn -/
def Less (I : Nat → Sl → M → Prop) (m : Nat) (δ : Sl) (μ : M) : Prop := ∃ m', m' < m ∧ I m' δ μ
def dWhile (c : DTT) (tb : DTS) (E : DEnds) (δ : Sl) (μ : M) : Prop := ∃ I : Nat → Sl → M → Prop, (∃ m, I m δ μ) ∧ ∀ m δ μ, I m δ μ →
  c (E.xc δ) δ μ (kIf (fun _ => tb { E with nx := Less I m, ct := Less I m, bk := E.nx }) dNext E δ)
theorem while_by {c : DTT} {tb : DTS} {E : DEnds} {δ : Sl} {μ : M} (I : Nat → Sl → M → Prop) {m : Nat} (h0 : I m δ μ) (hs : ∀ m δ μ, I m δ μ → c (E.xc δ) δ μ (kIf (fun _ => tb { E with nx := Less I m, ct := Less I m, bk := E.nx }) dNext E δ)) : dWhile c tb E δ μ := ⟨I, ⟨m, h0⟩, hs⟩
theorem ds_while {tc : DTT} {tb : DTS} (hp : PassesOwn (model X.prog X.w) X.A X.env X.xe) (hc : DT X W c tc) (hb : DSs X W body tb) : DS X W (.While c body [] pos) (dWhile tc tb) :=
  PS.imp (ps_while hp hc hb) fun D σ H ⟨δ, μ, Hc, Dd, s, rs, h, rt⟩ => by
    obtain ⟨I, ⟨m0, w0⟩, turn⟩ := h
    refine ⟨fun m σ' H' => ∃ δ' μ' Hc', Same Hc Hc' ∧ Split X.K H' Hc' μ' ∧ RepS X.K Hc' σ' δ' ∧ I m δ' μ', ⟨m0, δ, μ, Hc, Same.refl _, s, rs, w0⟩, ?_⟩
    rintro m σ1 H1 ⟨δ1, μ1, Hc1, e1, s1, rs1, i1⟩
    refine ⟨δ1, μ1, Hc1, _, _, s1, rs1, turn m δ1 μ1 i1, fun b μ2 h2 H2 Hc2 e2 s2 => ?_, (rt.xc.mono e1).at rs1⟩
    cases b with
    | true =>
      rw [if_pos rfl]
      refine ⟨fun σ' H' => ∃ m', m' < m ∧ ∃ δ' μ' Hc', Same Hc Hc' ∧ Split X.K H' Hc' μ' ∧ RepS X.K Hc' σ' δ' ∧ I m' δ' μ', fun σ' H' ⟨m', hm, q⟩ => ⟨m', hm, q⟩, δ1, μ2, Hc2, _, s2, rs1.mono e2, h2, ?_⟩
      refine ⟨?_, rt.rt.mono (e1.trans e2), rt.nx.mono (e1.trans e2), ?_, rt.xc.mono (e1.trans e2)⟩
      · rintro δ3 μ3 ⟨m', hm, i3⟩ σ3 H3 Hc3 e3 s3 rs3
        exact ⟨m', hm, δ3, μ3, Hc3, (e1.trans e2).trans e3, s3, rs3, i3⟩
      · rintro δ3 μ3 ⟨m', hm, i3⟩ σ3 H3 Hc3 e3 s3 rs3
        exact ⟨m', hm, δ3, μ3, Hc3, (e1.trans e2).trans e3, s3, rs3, i3⟩
    | false =>
      rw [if_neg Bool.false_ne_true]
      exact rt.nx _ _ h2 _ _ _ (e1.trans e2) s2 (rs1.mono e2)
end
end DL
set_option Elab.async false
set_option linter.all false
set_option maxRecDepth 100000
set_option maxHeartbeats 2000000
/-! The data layer: for, comprehensions, errors, defs. -/
namespace DL
open PySem PySem.Spec L2

/-- what is walked: the items, and what must stay true of the cells -/
structure Src where
  ds : List D
  ok : M → Prop
  mono : ∀ μ p c, μ p = none → ok μ → ok (updM μ p c)
abbrev Src.dat (ds : List D) : Src := ⟨ds, fun _ => True, fun _ _ _ _ _ => True.intro⟩
abbrev Src.cel (p : Addr) (ds : List D) : Src := ⟨ds, fun μ => μ p = some (.lst ds), fun μ q c h e => by rw [updM_ne (ne_fresh e h)]; exact e⟩
def Wlk (K : PySem.W.Frag) (J : It) (S : Src) (Hc0 : Hp) : Prop := ∀ (i : Nat) (H Hc : Hp) (μ : M), Same Hc0 Hc → Split K H Hc μ → S.ok μ →
  (∀ d, S.ds[i]? = some d → J.go i H ∧ ∀ x H', J.yld i H x H' → ∃ Hc', Same Hc Hc' ∧ Split K H' Hc' μ ∧ Rep K Hc' x d) ∧ (i = S.ds.length → J.stop i H)
abbrev DTI := XD → Sl → M → (Src → M → Prop) → Prop
def RetI (K : PySem.W.Frag) (Hc : Hp) (Rd : Src → M → Prop) (R : It → Hp → Prop) : Prop := ∀ S μ', Rd S μ' → ∀ J H' Hc', Same Hc Hc' → Split K H' Hc' μ' → Wlk K J S Hc' → R J H'
def upI (K : PySem.W.Frag) (W : WX) (t : DTI) : TI := fun σ H R => ∃ δ μ Hc Rd Xd, Split K H Hc μ ∧ RepS K Hc σ δ ∧ t Xd δ μ Rd ∧ RetI K Hc Rd R ∧ RetX K Hc Xd (fun cls d H => W cls d σ H)
def DI (X : Cx) (W : WX) (tg iter : Expr) (t : DTI) : Prop := PI X tg iter (upI X.K W t)
theorem PI.imp {X : Cx} {tg e : Expr} {t t' : TI} (h : PI X tg e t) (i : ∀ σ H Q, t' σ H Q → t σ H Q) : PI X tg e t' := ⟨fun pins s σ H Q I w => h.run pins s σ H Q I (i σ H Q w)⟩

section
variable {X : Cx} {W : WX} {a b c e tg iter : Expr} {es : List Expr} {pos p : Pos} {ta tb te : DTE} {tr : DTA} {st : Stmt} {rest body : List Stmt} {t u : DTS} {ti : DTI}
/-! ### a list or a tuple -/
def iSeq (K : PySem.W.Frag) (tl : TE) : TI := fun σ H R => tl σ H fun x H1 => ∃ a, x = .ref a ∧ (((∃ xs, SqL K H1 a xs) ∧ R (Itl K a) H1) ∨ ((∃ xs, SqT K H1 a xs) ∧ R (Itt K a) H1))
theorem pi_seq {l : Expr} {tl : TE} (hl : PE X l tl) : PI X tg l (iSeq X.K tl) := by
  refine ⟨fun pins s σ H R I h => ?_⟩
  refine thn (hl.run pins s σ H _ I h) fun v s1 ⟨x, H1, I1, r1, q1⟩ => ?_
  obtain ⟨a, e, h | h⟩ := q1
  · obtain ⟨⟨xs, hq⟩, q⟩ := h
    subst e
    cases r1
    obtain ⟨its, rv, p, hz⟩ := I1.list hq
    refine wpAny_pyIter_list p.isList ?_
    refine ⟨s1.heap.objs.size, [s1.heap.objs.size], _, _, H1, rfl, I1.kept (t' := s1.toks) fun b o e => Heap.get?_push_of_some _ e, turn_list a _, ⟨_, Heap.get?_push_size _ rfl, rfl, rfl⟩, fun b hb => ?_, q⟩
    have e : b = s1.heap.objs.size := by simpa using hb
    subst e
    exact I1.fpOk (Nat.le_refl _) (I1.hok.fresh (Nat.le_refl _))
  · obtain ⟨⟨xs, hq⟩, q⟩ := h
    subst e
    cases r1
    obtain ⟨its, rv, p, hz⟩ := I1.tuple hq
    refine wpAny_pyIter_tuple (show s1.heap.IsTuple a its.toArray from p) ?_
    refine ⟨s1.heap.objs.size, [s1.heap.objs.size], _, _, H1, rfl, I1.kept (t' := s1.toks) fun b o e => Heap.get?_push_of_some _ e, turn_tuple a _, ⟨_, Heap.get?_push_size _ rfl, rfl, rfl⟩, fun b hb => ?_, q⟩
    have e : b = s1.heap.objs.size := by simpa using hb
    subst e
    exact I1.fpOk (Nat.le_refl _) (I1.hok.fresh (Nat.le_refl _))
/-- a list that is read: the address stays a list of these items -/
theorem wlk_list {K : PySem.W.Frag} {ad : Addr} {S : Src} {Hc0 : Hp} (h : ∀ H Hc μ, Same Hc0 Hc → Split K H Hc μ → S.ok μ → ∃ vs, H ad = some (.lst vs) ∧ RepA K Hc vs S.ds) : Wlk K (Itl K ad) S Hc0 := fun i H Hc μ e0 s ok => by
  obtain ⟨vs, hv, ra⟩ := h H Hc μ e0 s ok
  refine ⟨fun d hd => ?_, fun hi => ⟨vs, SqL.of hv, by rw [ra.length]; omega⟩⟩
  obtain ⟨v, h1, h2⟩ := ra.get hd
  refine ⟨⟨vs, v, SqL.of hv, h1⟩, fun x H' hy => ?_⟩
  obtain ⟨rfl, hx⟩ := hy
  have e := hx vs (SqL.of hv)
  rw [h1] at e
  cases e
  exact ⟨Hc, Same.refl _, s, h2⟩
theorem wlk_tup {K : PySem.W.Frag} {ad : Addr} {S : Src} {Hc0 : Hp} {vs : List V} (h : SqT K Hc0 ad vs) (ra : RepA K Hc0 vs S.ds) : Wlk K (Itt K ad) S Hc0 := fun i H Hc μ e0 s ok => by
  have hv : SqT K H ad vs := same_t s.same (same_t e0 h)
  refine ⟨fun d hd => ?_, fun hi => ⟨vs, hv, by rw [ra.length]; omega⟩⟩
  obtain ⟨v, h1, h2⟩ := ra.get hd
  refine ⟨⟨vs, v, hv, h1⟩, fun x H' hy => ?_⟩
  obtain ⟨rfl, hx⟩ := hy
  have e := hx vs hv
  rw [h1] at e
  cases e
  exact ⟨Hc, Same.refl _, s, h2.mono e0⟩
/-- the items of data, of a cell -/
def srcOf (μ : M) : D → Option Src
  | .lst xs => some (.dat xs)
  | .tup xs => some (.dat xs)
  | .raw (.ref p) => match cellL (μ p) with
    | some xs => some (.cel p xs)
    | none => none
  | _ => none
theorem src_refs {μ : M} {p : Addr} {S : Src} (h : srcOf μ (.raw (.ref p)) = some S) : ∃ xs, μ p = some (.lst xs) ∧ S = .cel p xs := by
  have h' : (match cellL (μ p) with | some xs => some (Src.cel p xs) | none => none) = some S := h
  cases e : cellL (μ p) with
  | none => rw [e] at h'; cases h'
  | some xs => rw [e] at h'; exact ⟨xs, cellL_some e, (Option.some.inj h').symm⟩
def OptS (o : Option Src) (R : Src → M → Prop) (μ : M) : Prop := match o with
  | some S => R S μ
  | none => False
theorem OptS.ex {o : Option Src} {R : Src → M → Prop} {μ : M} (h : OptS o R μ) : ∃ S, o = some S ∧ R S μ := by
  cases o with
  | none => exact h.elim
  | some x => exact ⟨x, rfl, h⟩
@[simp] theorem OptS_some {S : Src} {R : Src → M → Prop} {μ : M} : OptS (some S) R μ = R S μ := rfl
def kSeqI (R : Src → M → Prop) (d : D) (μ : M) : Prop := OptS (srcOf μ d) R μ
def dSeqI (te : DTE) (W : XD) (δ : Sl) (μ : M) (R : Src → M → Prop) : Prop := te W δ μ (kSeqI R)
theorem di_seq (he : DE X W e te) : DI X W tg e (dSeqI te) := PI.imp (pi_seq he) fun σ H R ⟨δ, μ, Hc, Rd, Xd, s, rs, h, ri, rx⟩ => by
    refine (show upE X.K W te σ H _ from ⟨δ, μ, Hc, _, Xd, s, rs, h, ?_, rx⟩)
    intro d μ1 h1 v H1 Hc1 e1 s1 r1
    obtain ⟨S, hS, hR⟩ := OptS.ex h1
    cases r1 with
    | @lst ad vs ds ha ra =>
      cases (show some (Src.dat ds) = some S from hS)
      refine ⟨ad, rfl, .inl ⟨⟨vs, SqL.of (s1.same _ _ ha)⟩, ri _ _ hR _ _ _ e1 s1 (wlk_list fun H' Hc' μ' e' s' _ => ⟨vs, s'.same _ _ (e' _ _ ha), ra.mono e'⟩)⟩⟩
    | @tup ad vs ds ha ra =>
      cases (show some (Src.dat ds) = some S from hS)
      refine ⟨ad, rfl, .inr ⟨⟨vs, same_t s1.same ha⟩, ri _ _ hR _ _ _ e1 s1 (wlk_tup ha ra)⟩⟩
    | raw =>
      cases v with
      | ref p =>
        obtain ⟨xs, hp, rfl⟩ := src_refs hS
        obtain ⟨_, o, ho, vs, rfl, ra⟩ := s1.cell p _ hp
        refine ⟨p, rfl, .inl ⟨⟨vs, SqL.of ho⟩, ri _ _ hR _ _ _ e1 s1 (wlk_list fun H' Hc' μ' e' s' hok => ?_)⟩⟩
        obtain ⟨_, o', ho', vs', rfl, ra'⟩ := s'.cell p _ (show μ' p = some (.lst xs) from hok)
        exact ⟨vs', ho', ra'⟩
      | _ => cases hS
    | _ => cases hS
/-! ### range -/
def rangeD (lo : Int) (n : Nat) : List D := (List.range n).map fun i => .int (lo + (i : Nat))
theorem rangeD_get {lo : Int} {n i : Nat} : (rangeD lo n)[i]? = if i < n then some (.int (lo + (i : Nat))) else none := by
  unfold rangeD
  rw [List.getElem?_map]
  by_cases h : i < n
  · rw [List.getElem?_range h, if_pos h]; rfl
  · rw [List.getElem?_eq_none (by rw [List.length_range]; omega), if_neg h]; rfl
theorem rangeD_some {lo : Int} {n i : Nat} {d : D} (h : (rangeD lo n)[i]? = some d) : d = .int (lo + (i : Nat)) ∧ i < n := by
  rw [rangeD_get] at h
  by_cases hi : i < n
  · rw [if_pos hi] at h
    exact ⟨(Option.some.inj h).symm, hi⟩
  · rw [if_neg hi] at h
    cases h
theorem rangeD_len {lo : Int} {n : Nat} : (rangeD lo n).length = n := by unfold rangeD; rw [List.length_map, List.length_range]
theorem wlk_range {K : PySem.W.Frag} {lo : Int} {n : Nat} {Hc0 : Hp} : Wlk K (Itr lo n) (.dat (rangeD lo n)) Hc0 := fun i H Hc μ e0 s ok => by
  refine ⟨fun d hd => ?_, fun hi => by rw [rangeD_len] at hi; exact Nat.le_of_eq hi.symm⟩
  rw [rangeD_get] at hd
  split at hd
  · rename_i hi
    cases hd
    refine ⟨hi, fun x H' hy => ?_⟩
    obtain ⟨rfl, rfl⟩ := hy
    exact ⟨Hc, Same.refl _, s, .int _⟩
  · cases hd
def kRange1 (R : Src → M → Prop) (ds : List D) (μ : M) : Prop := match ds with
  | [.int j] => (-(2 ^ 62) ≤ j ∧ j < 2 ^ 62) ∧ R (.dat (rangeD 0 j.toNat)) μ
  | _ => False
def kRange2 (R : Src → M → Prop) (ds : List D) (μ : M) : Prop := match ds with
  | [.int i, .int j] => (-(2 ^ 62) ≤ i ∧ i < 2 ^ 62 ∧ -(2 ^ 62) ≤ j ∧ j < 2 ^ 62) ∧ R (.dat (rangeD i (j - i).toNat)) μ
  | _ => False
def dRange1 (tr : DTA) (W : XD) (δ : Sl) (μ : M) (R : Src → M → Prop) : Prop := tr W δ μ (kRange1 R)
def dRange2 (tr : DTA) (W : XD) (δ : Sl) (μ : M) (R : Src → M → Prop) : Prop := tr W δ μ (kRange2 R)
theorem di_range1 {p pos : Pos} (hm : X.mg "range" = none) (ha : DA X W [a] tr) (hg : Gl X "range" := by rfl) (hs : starEach [a] X.env = [(false, eval a X.env)] := by rfl) : DI X W tg (.Call (.Name "range" p) [a] [] pos) (dRange1 tr) :=
  PI.imp (pi_range1 hg hm ha hs) fun σ H R ⟨δ, μ, Hc, Rd, Xd, s, rs, h, ri, rx⟩ => ⟨δ, μ, Hc, _, Xd, s, rs, h, fun ds μ1 h1 vs H1 Hc1 e1 s1 r1 => by
    unfold kRange1 at h1
    split at h1
    · obtain ⟨v, rfl, r⟩ := r1.one'
      cases r
      exact ⟨_, rfl, h1.1.1, h1.1.2, ri _ _ h1.2 _ _ _ e1 s1 wlk_range⟩
    · exact h1.elim, rx⟩
theorem di_range2 {p pos : Pos} (hm : X.mg "range" = none) (ha : DA X W [a, b] tr) (hg : Gl X "range" := by rfl) (hs : starEach [a, b] X.env = [(false, eval a X.env), (false, eval b X.env)] := by rfl) (hs2 : starEach [b] X.env = [(false, eval b X.env)] := by rfl) :
    DI X W tg (.Call (.Name "range" p) [a, b] [] pos) (dRange2 tr) :=
  PI.imp (pi_range2 hg hm ha hs hs2) fun σ H R ⟨δ, μ, Hc, Rd, Xd, s, rs, h, ri, rx⟩ => ⟨δ, μ, Hc, _, Xd, s, rs, h, fun ds μ1 h1 vs H1 Hc1 e1 s1 r1 => by
    unfold kRange2 at h1
    split at h1
    · obtain ⟨v, w, rfl, r, r'⟩ := r1.two'
      cases r; cases r'
      exact ⟨_, _, rfl, h1.1, ri _ _ h1.2 _ _ _ e1 s1 wlk_range⟩
    · exact h1.elim, rx⟩
/-! ### for -/
/-- one turn: the target is set, the body runs -/
def turnD (o : Option (List (Nat × D))) (tb : DTS) (E : DEnds) (δ : Sl) (μ : M) : Prop := match o with
  | some cs => tb E (sets cs δ) μ
  | none => False
theorem turnD.ex {o : Option (List (Nat × D))} {tb : DTS} {E : DEnds} {δ : Sl} {μ : M} (h : turnD o tb E δ μ) : ∃ cs, o = some cs ∧ tb E (sets cs δ) μ := by
  cases o with
  | none => exact h.elim
  | some x => exact ⟨x, rfl, h⟩
def loopD (ok : M → Prop) (f : TGD) (tb : DTS) (E : DEnds) : List D → Sl → M → Prop
  | [], δ, μ => ok μ ∧ E.nx δ μ
  | d :: ds, δ, μ => ok μ ∧ turnD (f μ d) tb { E with nx := loopD ok f tb E ds, ct := loopD ok f tb E ds, bk := E.nx } δ μ
/-- by an invariant over the turn's number -/
def loopJ (ok : M → Prop) (f : TGD) (tb : DTS) (E : DEnds) (ds : List D) (δ : Sl) (μ : M) : Prop := ∃ J : Nat → Sl → M → Prop, J 0 δ μ ∧ ∀ i δ μ, J i δ μ → ok μ ∧
  (∀ d, ds[i]? = some d → turnD (f μ d) tb { E with nx := J (i + 1), ct := J (i + 1), bk := E.nx } δ μ) ∧ (i = ds.length → E.nx δ μ)
def kFor (f : TGD) (tb : DTS) (E : DEnds) (δ : Sl) (S : Src) (μ : M) : Prop := loopJ S.ok f tb E S.ds δ μ
def dFor (ti : DTI) (f : TGD) (tb : DTS) (E : DEnds) (δ : Sl) (μ : M) : Prop := ti (E.xc δ) δ μ (kFor f tb E δ)
theorem drop_get {α : Type} {l r : List α} {x : α} {i : Nat} (h : l.drop i = x :: r) : l[i]? = some x ∧ l.drop (i + 1) = r := by
  have hi : i < l.length := by
    rcases Nat.lt_or_ge i l.length with h' | h'
    · exact h'
    · rw [List.drop_eq_nil_of_le h'] at h; cases h
  rw [List.drop_eq_getElem_cons hi] at h
  cases h
  exact ⟨List.getElem?_eq_getElem hi, rfl⟩
theorem drop_of {α : Type} {l : List α} {x : α} {i : Nat} (h : l[i]? = some x) : l.drop i = x :: l.drop (i + 1) := by
  obtain ⟨hi, e⟩ := List.getElem?_eq_some_iff.mp h
  rw [List.drop_eq_getElem_cons hi, e]
/-- turn by turn -/
theorem loop_unroll {ok : M → Prop} {f : TGD} {tb : DTS} {E : DEnds} {ds : List D} {δ : Sl} {μ : M} (h : loopD ok f tb E ds δ μ) : loopJ ok f tb E ds δ μ := by
  refine ⟨fun i δ μ => loopD ok f tb E (ds.drop i) δ μ, by dsimp only; rw [List.drop_zero]; exact h, fun i δ μ hh => ?_⟩
  dsimp only at hh ⊢
  refine ⟨?_, fun d hd => ?_, fun hi => ?_⟩
  · cases e : ds.drop i with
    | nil => rw [e] at hh; exact hh.1
    | cons _ _ => rw [e] at hh; exact hh.1
  · rw [drop_of hd] at hh
    exact hh.2
  · rw [hi, List.drop_length] at hh
    exact hh.2
theorem ds_for {g : TG} {f : TGD} {tb : DTS} (hp : PassesOwn (model X.prog X.w) X.A X.env X.xe) (hi : DI X W tg iter ti) (hg : PG X tg g) (lg : LG X.K g f) (hb : DSs X W body tb) (hc : X.calm = true := by rfl)
    (hs : ∀ x, foldedSetIterable iter X.env x = pure x := by intro _; rfl) : DS X W (.For tg iter body [] pos) (dFor ti f tb) :=
  PS.imp (ps_for hp hc hi hg hb hs) fun D σ H ⟨δ, μ, Hc, Dd, s, rs, h, rt⟩ => ⟨δ, μ, Hc, _, _, s, rs, h, fun S μ1 h1 J H1 Hc1 e1 s1 wk => by
    obtain ⟨N, n0, ns⟩ := h1
    refine ⟨fun i m σ' H' => i + m = S.ds.length ∧ ∃ δ' μ' Hc', Same Hc1 Hc' ∧ Split X.K H' Hc' μ' ∧ RepS X.K Hc' σ' δ' ∧ N i δ' μ', ⟨S.ds.length, by omega, δ, μ1, Hc1, Same.refl _, s1, rs.mono e1, n0⟩, ?_⟩
    rintro i m σ2 H2 ⟨hm, δ2, μ2, Hc2, e2, s2, rs2, l2⟩
    obtain ⟨ok2, l3, l4⟩ := ns i δ2 μ2 l2
    cases hd : S.ds[i]? with
    | none =>
      have hi : i = S.ds.length := by
        have := List.getElem?_eq_none_iff.mp hd
        omega
      refine .inl ⟨(wk i H2 Hc2 μ2 e2 s2 ok2).2 (by omega), ?_⟩
      exact rt.nx _ _ (l4 hi) _ _ _ (e1.trans e2) s2 rs2
    | some d =>
      obtain ⟨go, yl⟩ := (wk i H2 Hc2 μ2 e2 s2 ok2).1 d hd
      refine .inr ⟨go, fun σ' H' => ∃ δ' μ' Hc', Same Hc1 Hc' ∧ Split X.K H' Hc' μ' ∧ RepS X.K Hc' σ' δ' ∧ N (i + 1) δ' μ', fun σ' H' q => ?_, fun x H' hy => ?_⟩
      · have hlt : i < S.ds.length := (List.getElem?_eq_some_iff.mp hd).1
        exact ⟨m - 1, by omega, by omega, q⟩
      · obtain ⟨Hc3, e3, s3, r3⟩ := yl x H' hy
        obtain ⟨cs, hcs, hq⟩ := turnD.ex (l3 d hd)
        refine lg x d H' Hc3 μ2 σ2 _ cs s3 r3 hcs fun bs rb => ?_
        refine ⟨sets cs δ2, μ2, Hc3, _, s3, RepS.sets rb (rs2.mono e3), hq, ?_⟩
        have e13 := (e1.trans e2).trans e3
        refine ⟨?_, rt.rt.mono e13, rt.nx.mono e13, ?_, rt.xc.mono e13⟩
        · intro δ4 μ4 h4 σ4 H4 Hc4 e4 s4 rs4
          exact ⟨δ4, μ4, Hc4, (e2.trans e3).trans e4, s4, rs4, h4⟩
        · intro δ4 μ4 h4 σ4 H4 Hc4 e4 s4 rs4
          exact ⟨δ4, μ4, Hc4, (e2.trans e3).trans e4, s4, rs4, h4⟩, rt.xc.at rs⟩
/-! ### comprehensions -/
abbrev XF : XD := fun _ _ _ => False
def dYes (_ : XD) (_ : Sl) (μ : M) (Q : Bool → M → Prop) : Prop := Q true μ
def kItem (acc : List D) (R : List D → M → Prop) (y : D) (μ : M) : Prop := acc.length < sizeLine ∧ R (acc ++ [y]) μ
def kTest (te : DTE) (δ : Sl) (acc : List D) (R : List D → M → Prop) (b : Bool) (μ : M) : Prop := match b with
  | true => te XF δ μ (kItem acc R)
  | false => R acc μ
theorem kTest_of {te : DTE} {δ : Sl} {acc : List D} {R : List D → M → Prop} {b : Bool} {μ : M} (h1 : b = true → te XF δ μ (kItem acc R)) (h2 : b = false → R acc μ) : kTest te δ acc R b μ := by
  cases b with
  | true => exact h1 rfl
  | false => exact h2 rfl
/-- one turn of a comprehension -/
def turnC (o : Option (List (Nat × D))) (tt : DTT) (te : DTE) (acc : List D) (R : List D → M → Prop) (δ : Sl) (μ : M) : Prop := match o with
  | some cs => tt XF (sets cs δ) μ (kTest te (sets cs δ) acc R)
  | none => False
theorem turnC.ex {o : Option (List (Nat × D))} {tt : DTT} {te : DTE} {acc : List D} {R : List D → M → Prop} {δ : Sl} {μ : M} (h : turnC o tt te acc R δ μ) : ∃ cs, o = some cs ∧ tt XF (sets cs δ) μ (kTest te (sets cs δ) acc R) := by
  cases o with
  | none => exact h.elim
  | some x => exact ⟨x, rfl, h⟩
def compD (ok : M → Prop) (f : TGD) (tt : DTT) (te : DTE) (Q : List D → M → Prop) (δ : Sl) : List D → List D → M → Prop
  | [], acc, μ => ok μ ∧ Q acc μ
  | d :: ds, acc, μ => ok μ ∧ turnC (f μ d) tt te acc (compD ok f tt te Q δ ds) δ μ
def compJ (ok : M → Prop) (f : TGD) (tt : DTT) (te : DTE) (Q : List D → M → Prop) (δ : Sl) (ds : List D) (μ : M) : Prop := ∃ J : Nat → List D → M → Prop, J 0 [] μ ∧ ∀ i acc μ, J i acc μ → ok μ ∧
  (∀ d, ds[i]? = some d → turnC (f μ d) tt te acc (J (i + 1)) δ μ) ∧ (i = ds.length → Q acc μ)
theorem comp_unroll {ok : M → Prop} {f : TGD} {tt : DTT} {te : DTE} {Q : List D → M → Prop} {δ : Sl} {ds : List D} {μ : M} (h : compD ok f tt te Q δ ds [] μ) : compJ ok f tt te Q δ ds μ := by
  refine ⟨fun i acc μ => compD ok f tt te Q δ (ds.drop i) acc μ, by dsimp only; rw [List.drop_zero]; exact h, fun i acc μ hh => ?_⟩
  dsimp only at hh ⊢
  refine ⟨?_, fun d hd => ?_, fun hi => ?_⟩
  · cases e : ds.drop i with
    | nil => rw [e] at hh; exact hh.1
    | cons _ _ => rw [e] at hh; exact hh.1
  · rw [drop_of hd] at hh
    exact hh.2
  · rw [hi, List.drop_length] at hh
    exact hh.2
end

theorem wipe_set {σ : L2.St} {vs : List Nat} {i : Nat} {x : Option V} (h : i ∈ vs) : wipe (σ.set i x) vs = wipe σ vs := by
  apply List.ext_getElem?
  intro j
  have key : ∀ (τ : L2.St) (ws : List Nat) (j : Nat), (wipe τ ws)[j]? = if j ∈ ws then (if j < τ.length then some none else none) else τ[j]? := by
    intro τ ws
    induction ws with
    | nil => intro j; simp [wipe]
    | cons w ws ih =>
      intro j
      unfold wipe
      by_cases e : w = j
      · subst e
        by_cases hl : w < τ.length
        · rw [List.getElem?_set_self (by rw [wipe_length]; exact hl), if_pos List.mem_cons_self, if_pos hl]
        · rw [List.getElem?_eq_none (by rw [List.length_set, wipe_length]; omega), if_pos List.mem_cons_self, if_neg hl]
      · rw [List.getElem?_set_ne e, ih j]
        by_cases hm : j ∈ ws
        · rw [if_pos hm, if_pos (List.mem_cons_of_mem _ hm)]
        · rw [if_neg hm, if_neg (by
            intro z
            rcases List.mem_cons.mp z with z | z
            · exact e z.symm
            · exact hm z)]
  rw [key, key]
  by_cases hm : j ∈ vs
  · rw [if_pos hm, if_pos hm, List.length_set]
  · rw [if_neg hm, if_neg hm, List.getElem?_set_ne]
    intro z
    subst z
    exact hm h
theorem wipe_sets {vs : List Nat} : ∀ {bs : List (Nat × V)} {σ : L2.St}, (∀ b ∈ bs, b.1 ∈ vs) → wipe (sets bs σ) vs = wipe σ vs
  | [], _, _ => rfl
  | b :: bs, σ, h => by
    show wipe (sets bs (σ.set b.1 (some b.2))) vs = wipe σ vs
    rw [wipe_sets fun c hc => h c (List.mem_cons_of_mem _ hc), wipe_set (h b List.mem_cons_self)]
/-- slots forgotten -/
def wipeD (δ : Sl) : List Nat → Sl
  | [] => δ
  | v :: vs => (wipeD δ vs).set v none
theorem RepS.wipe {K : PySem.W.Frag} {H : Hp} {σ : L2.St} {δ : Sl} (r : RepS K H σ δ) : ∀ vs : List Nat, RepS K H (L2.wipe σ vs) (wipeD δ vs)
  | [] => r
  | v :: vs => (RepS.wipe r vs).unset v none
/-- [e for x in xs if t]: data; vs the slots of the block's own names -/
def kLstD (Q : QD) (acc : List D) (μ : M) : Prop := Q (.lst acc) μ
def kNewC (Q : QD) (acc : List D) (μ : M) : Prop := NewC acc μ Q
def kLc (f : TGD) (tt : DTT) (te : DTE) (vs : List Nat) (Q : List D → M → Prop) (δ : Sl) (S : Src) (μ : M) : Prop := compJ S.ok f tt te Q (wipeD δ vs) S.ds μ
def dLc (ti : DTI) (f : TGD) (tt : DTT) (te : DTE) (vs : List Nat) (W : XD) (δ : Sl) (μ : M) (Q : QD) : Prop := ti W δ μ (kLc f tt te vs (kLstD Q) δ)
/-- .. a cell -/
def dLcC (ti : DTI) (f : TGD) (tt : DTT) (te : DTE) (vs : List Nat) (W : XD) (δ : Sl) (μ : M) (Q : QD) : Prop := ti W δ μ (kLc f tt te vs (kNewC Q) δ)
def SlotsIn (f : TGD) (vs : List Nat) : Prop := ∀ μ d cs, f μ d = some cs → ∀ c ∈ cs, c.1 ∈ vs
def SlotsIns (f : TGDs) (vs : List Nat) : Prop := ∀ μ d cs, f μ d = some cs → ∀ c ∈ cs, c.1 ∈ vs
theorem si_name {i : Nat} {vs : List Nat} (h : i ∈ vs) : SlotsIn (tgN i) vs := fun μ d cs e c hc => by
  cases e
  rcases List.mem_cons.mp hc with rfl | z
  · exact h
  · cases z
theorem si_nil {vs : List Nat} : SlotsIns tgNil vs := fun μ ds cs e c hc => by
  cases ds with
  | nil => cases e; cases hc
  | cons _ _ => cases e
theorem si_cons {f : TGD} {fs : TGDs} {vs : List Nat} (h1 : SlotsIn f vs) (h2 : SlotsIns fs vs) : SlotsIns (tgCons f fs) vs := fun μ ds cs e c hc => by
  cases ds with
  | nil => cases e
  | cons d ds =>
    have h' : ((f μ d).bind fun b => (fs μ ds).map (b ++ ·)) = some cs := e
    cases e1 : f μ d with
    | none => rw [e1] at h'; cases h'
    | some b1 =>
      rw [e1] at h'
      cases e2 : fs μ ds with
      | none => rw [Option.bind_some, e2] at h'; cases h'
      | some b2 =>
        rw [Option.bind_some, e2] at h'
        cases h'
        rcases List.mem_append.mp hc with z | z
        · exact h1 μ d b1 e1 c z
        · exact h2 μ ds b2 e2 c z
theorem si_tup {fs : TGDs} {vs : List Nat} (h : SlotsIns fs vs) : SlotsIn (tgT fs) vs := fun μ d cs e c hc => by
  unfold tgT at e
  split at e
  · exact h _ _ _ e c hc
  · cases e
end DL
set_option Elab.async false
set_option linter.all false
set_option maxRecDepth 100000
set_option maxHeartbeats 2000000
/-! The data layer: zip and enumerate over lists and tuples. -/
namespace DL
open PySem PySem.Spec PyProof.Rows L2

/-- a list or a tuple -/
inductive Kd where
  | l | t
def SqK (K : PySem.W.Frag) (k : Kd) (H : Hp) (a : Addr) (xs : List V) : Prop := match k with
  | .l => SqL K H a xs
  | .t => SqT K H a xs
def IterK (k : Kd) (h : Heap) (it a : Addr) (i : Nat) : Prop := match k with
  | .l => h.IsListIter it a i
  | .t => h.IsTupleIter it a i
def SeqK (k : Kd) (h : Heap) (a : Addr) (items : Array Value) : Prop := match k with
  | .l => h.IsList a items
  | .t => h.IsTuple a items
def objK (k : Kd) (a : Addr) : Obj := match k with
  | .l => { cls := .type "list_iterator", data := .fields #[.ref a, .int 0 0] }
  | .t => { cls := .type "tuple_iterator", data := .fields #[.ref a, .int 0 0] }
theorem begK (k : Kd) (a : Addr) (items : Array Value) : Begins (.ref a) (objK k a) fun h => SeqK k h a items := by
  cases k
  · exact begins_list a items
  · exact begins_tuple a items
theorem drawK {prog : Program} {w : World} {A : Around} (hh : A.handled = none) (k : Kd) (it a : Addr) (hne : a ≠ it) (items : Array Value) :
    Draws prog w A it [it, a] items.size (fun i v => items[i]? = some v) (fun i h => IterK k h it a i ∧ SeqK k h a items) := by
  cases k
  · exact Draws.list hh it a hne items
  · exact Draws.tuple hh it a hne items
theorem IterK.at {k : Kd} {h h' : Heap} {it a : Addr} {i : Nat} (x : IterK k h it a i) (e : ∀ o, h.get? it = some o → h'.get? it = some o) : IterK k h' it a i := by
  cases k
  · exact (show h.IsListIter it a i from x).at e
  · exact (show h.IsTupleIter it a i from x).at e
theorem IterK.obj {k : Kd} {h : Heap} {it a : Addr} {i : Nat} (x : IterK k h it a i) : ∃ o, h.get? it = some o ∧ ∀ v, o.data ≠ .cell v := by
  cases k
  · obtain ⟨o, e, _, d⟩ := (show h.IsListIter it a i from x)
    exact ⟨o, e, fun v q => by rw [d] at q; cases q⟩
  · obtain ⟨o, e, _, d⟩ := (show h.IsTupleIter it a i from x)
    exact ⟨o, e, fun v q => by rw [d] at q; cases q⟩
theorem IterK.first {k : Kd} {h : Heap} {it a : Addr} (e : h.get? it = some (objK k a)) : IterK k h it a 0 := by
  cases k
  · exact ⟨_, e, rfl, rfl⟩
  · exact ⟨_, e, rfl, rfl⟩
theorem SeqK.lt {k : Kd} {h : Heap} {a : Addr} {items : Array Value} (x : SeqK k h a items) : a < h.objs.size := by
  cases k
  · obtain ⟨o, e, _⟩ := (show h.IsList a items from x)
    exact Heap.lt_size e
  · obtain ⟨o, e, _⟩ := (show h.IsTuple a items from x)
    exact Heap.lt_size e
section
variable {X : Cx} {pins : List (Addr × Obj)} {σ : L2.St} {H : Hp} {s : Shared} {a b : Addr} {xs ys : List V} {k : Kd}
theorem seqK (I : Inv X pins σ H s) (h : SqK X.K k H a xs) : ∃ its : List Value, Vals xs its ∧ SeqK k s.heap a its.toArray ∧ xs.length ≤ sizeLine := by
  cases k
  · obtain ⟨its, r, p, z⟩ := I.list h
    exact ⟨its, r, p.isList, z⟩
  · obtain ⟨its, r, p, z⟩ := I.tuple h
    exact ⟨its, r, p, z⟩
theorem seqK_inj (I : Inv X pins σ H s) (h : SqK X.K k H a xs) (h' : SqK X.K k H a ys) : xs = ys := by
  cases k
  · exact I.list_inj h h'
  · exact I.tuple_inj h h'
end

/-- a turning iterator that lays tuples, from what the library says of it at each turn -/
theorem turn_of {P : Program} {w : World} {K : PySem.W.Frag} {elts : List Expr} {kk : Nat} {tpos : Pos} {J : It} {fp : List Addr} {z : Addr} {tn : Nat → Heap → Prop} (mem : z ∈ fp)
    (obj : ∀ i h, tn i h → ∀ b ∈ fp, ∃ o, h.get? b = some o ∧ ∀ v, o.data ≠ .cell v)
    (keep : ∀ i h h', tn i h → (∀ b ∈ fp, ∀ o, h.get? b = some o → h'.get? b = some o) → tn i h')
    (step : ∀ (X : Cx), X.prog = P → X.w = w → X.K = K → X.calm = true → ∀ (i : Nat) (pins : List (Addr × Obj)) (s : Shared) (σ : L2.St) (H : Hp), Inv X pins σ H s → tn i s.heap → J.go i H →
      ∃ fp' wr n Pt St Mid, WalksT P w X.A z fp' wr n Pt St Mid ∧ i < n ∧ St i s.heap ∧ (∀ b ∈ wr, b ∈ fp) ∧ (∀ h', St (i + 1) h' → tn (i + 1) h') ∧
        ∀ vals, Pt i vals → ∃ xs : List V, Vals xs vals.toList ∧ xs.length ≤ sizeLine ∧ ∀ T, H T = none → J.yld i H (.ref T) (upd H T (.tup xs)))
    (stop : ∀ (X : Cx), X.prog = P → X.w = w → X.K = K → X.calm = true → ∀ (i : Nat) (pins : List (Addr × Obj)) (s : Shared) (σ : L2.St) (H : Hp), Inv X pins σ H s → tn i s.heap → J.stop i H →
      ∃ fp' wr n Pt St Mid, WalksT P w X.A z fp' wr n Pt St Mid ∧ i = n ∧ St i s.heap ∧ (∀ b ∈ wr, b ∈ fp))
    (self : ∀ (A : Around) (i : Nat) (s : Shared) (Q : Value → Shared → Prop) (E : Value → Shared → Prop), tn i s.heap → Q (.ref z) s → wpAny (model P w) A (pyIter (.ref z)) Q E s) :
    Turn P w K (.Tuple elts kk tpos) J fp z tn where
  mem := mem
  obj := obj
  keep := keep
  item := by
    intro X hP hw hK hc i pins s σ H E I hf st hg
    obtain ⟨fp', wr, n, Pt, St, Mid, W, hi, hst, hsub, hnx, hy⟩ := step X hP hw hK hc i pins s σ H I st hg
    refine W.item i s _ E hi hst fun T vals h' tk hP' hT hIs hM hk => ?_
    refine ⟨_, rfl, W.go elts kk tpos i T { s with heap := h', toks := tk } _ E hM fun h'' hst' hk' => ?_⟩
    obtain ⟨xs, rv, hl, hyl⟩ := hy vals hP'
    have hap := W.apart i T h' hM
    have hT2 : h''.IsTuple T vals := hIs.at fun o e => hk' T o hap e
    have new : ObjOk X.prog X.w (upd H T (.tup xs)) h'' T (.tup xs) := ⟨hl, vals.toList, rv, hT2⟩
    have I1 : Inv X pins σ (upd H T (.tup xs)) { s with heap := h'', toks := tk } :=
      I.turnedNew (t' := tk) (ch := fp) (fun b o hb e => hk' b o (fun q => hb (hsub b q)) (hk b o (fun q => hb (hsub b q)) e)) hf hT new
    refine ⟨.ref T, _, I1, rfl, hyl T (I.hok.fresh hT), hnx h'' hst', fun b hb => ?_⟩
    obtain ⟨o, e, _⟩ := obj i s.heap st b hb
    rw [upd_ne (Nat.ne_of_lt (Nat.lt_of_lt_of_le (Heap.lt_size e) hT))]
    exact (hf b hb).1
  done := by
    intro X hP hw hK hc i pins s σ H E I hf st hg
    obtain ⟨fp', wr, n, Pt, St, Mid, W, hi, hst, hsub⟩ := stop X hP hw hK hc i pins s σ H I st hg
    subst hi
    exact W.done s _ E hst fun h' tk hk => ⟨rfl, I.turnedL (t' := tk) (ch := fp) (fun b o hb e => hk b o (fun q => hb (hsub b q)) e) hf⟩
  self := self

/-! ### enumerate -/
def ItE (K : PySem.W.Frag) (k : Kd) (a : Addr) (k₀ : Int) : It :=
  ⟨fun i H => ∃ (xs : List V) (x : V), SqK K k H a xs ∧ xs[i]? = some x,
    fun i H v H' => ∃ T x, v = .ref T ∧ H T = none ∧ H' = upd H T (.tup [.int (k₀ + (i : Nat)), x]) ∧ ∀ xs, SqK K k H a xs → xs[i]? = some x,
    fun i H => ∃ xs : List V, SqK K k H a xs ∧ i = xs.length⟩
theorem turn_enumK {P : Program} {w : World} {K : PySem.W.Frag} {elts : List Expr} {kk : Nat} {tpos : Pos} {k : Kd} {a e it : Addr} {k₀ : Int} (hei : e ≠ it) (hea : e ≠ a) (hai : a ≠ it) :
    Turn P w K (.Tuple elts kk tpos) (ItE K k a k₀) [e, it] e (fun i h => (∃ old, IsEnum h e it (k₀ + (i : Int)) old) ∧ IterK k h it a i) := by
  refine turn_of (by simp) ?_ ?_ ?_ ?_ ?_
  · intro i h st b hb
    obtain ⟨⟨old, he⟩, hi⟩ := st
    have e' : b = e ∨ b = it := by simpa using hb
    rcases e' with z | z
    · rw [z]; exact ⟨_, he, fun v q => nomatch q⟩
    · rw [z]; exact hi.obj
  · intro i h h' st kp
    obtain ⟨⟨old, he⟩, hi⟩ := st
    exact ⟨⟨old, kp e (by simp) _ he⟩, hi.at fun o q => kp it (by simp) o q⟩
  · intro X hP hw hK hc i pins s σ H I st hg
    subst hP hw hK
    obtain ⟨he, hi⟩ := st
    obtain ⟨xs, x, hq, hx⟩ := hg
    obtain ⟨its, rv, p, hz⟩ := seqK I hq
    have hl := rv.length
    have hlt : i < xs.length := (List.getElem?_eq_some_iff.mp hx).1
    refine ⟨_, _, _, _, _, _, WalksT.enumFrom k₀ (drawK (show X.A.in1.handled = none from I.ok.hd hc) k it a hai its.toArray) e hei (by simp [hei, hea]) (by simp), by rw [List.size_toArray]; omega, ⟨he, hi, p⟩, fun b hb => hb, fun h' st' => ⟨st'.1, st'.2.1⟩, ?_⟩
    rintro vals ⟨t, u, hu, rfl⟩
    obtain ⟨u', hu', ru⟩ := rv.get hx
    have eu : its[i]? = some u := by simpa using hu
    rw [eu] at hu'
    cases hu'
    exact ⟨[.int (k₀ + (i : Nat)), x], .cons ⟨_, rfl⟩ (.cons ru .nil), by show 2 ≤ sizeLine; decide, fun T hT => ⟨T, x, rfl, hT, rfl, fun ys hy => by rw [seqK_inj I hy hq]; exact hx⟩⟩
  · intro X hP hw hK hc i pins s σ H I st hg
    subst hP hw hK
    obtain ⟨he, hi⟩ := st
    obtain ⟨xs, hq, hx⟩ := hg
    obtain ⟨its, rv, p, hz⟩ := seqK I hq
    have hl := rv.length
    exact ⟨_, _, _, _, _, _, WalksT.enumFrom k₀ (drawK (show X.A.in1.handled = none from I.ok.hd hc) k it a hai its.toArray) e hei (by simp [hei, hea]) (by simp), by rw [List.size_toArray]; omega, ⟨he, hi, p⟩, fun b hb => hb⟩
  · intro A i s Q E st h
    obtain ⟨⟨_, he⟩, _⟩ := st
    exact wpAny_pyIter_enum he h
/-- the object of enumerate(..) at its begin -/
def enumAt (it : Addr) : Obj := { cls := .type "enumerate", data := .fields #[.none, .bool false, .ref it, rawInt 0, .none, .none] }
/-- enumerate of one thing lays the thing's iterator and, behind it, its own object -/
theorem enumNew {v : Value} {o : Obj} {H : Heap → Prop} (B : Begins v o H) :
    Meets (Builtin.«enumerate.__new__» ⟨[.type "enumerate", v], []⟩) (fun _ R s => H s.heap ∧ R (.ok (.ret (.ref (s.heap.push o).objs.size))) { s with heap := (s.heap.push o).push (enumAt s.heap.objs.size) }) := by
  refine .of_wp fun prog w A R st given => ?_
  have exact' := sub_enumerate
  have begun : ∀ {A' : Around} {X : Value → Shared → Prop} {Q : Value → Shared → Prop}, Q (.ref st.heap.objs.size) { st with heap := st.heap.push o } → wpAny (model prog w) A' (pyIter v) Q X st := fun q => B.iter prog w _ _ st _ given.1 q
  have fin := given.2
  wp_walk using begun
  refine wpAny_stack_any fun frames => wpAny_pure ?_
  split
  · rename_i cl _ _ _ _ _
    cases (cl == Value.type "enumerate") <;> (wp_walk using begun; exact ⟨_, rfl, fin⟩)
  · wp_walk using begun
    exact ⟨_, rfl, fin⟩
theorem enum_begins1 {prog : Program} {w : World} {A : Around} {E : Value → Shared → Prop} {s : Shared} {v : Value} {o : Obj} {H : Heap → Prop} {Q : Value → Shared → Prop} (B : Begins v o H) (given : H s.heap)
    (goal : ∀ h', IsEnum h' (s.heap.objs.size + 1) s.heap.objs.size 0 .none → h'.get? s.heap.objs.size = some o → h'.objs.size = s.heap.objs.size + 2 → (∀ c u, s.heap.get? c = some u → h'.get? c = some u) → Q (.ref (s.heap.objs.size + 1)) { s with heap := h' }) :
    wpAny (model prog w) A (call (.type "enumerate") [v]) Q E s := by
  have one : (s.heap.push o).objs.size = s.heap.objs.size + 1 := Heap.size_push ..
  have made : ((s.heap.push o).push (enumAt s.heap.objs.size)).get? (s.heap.objs.size + 1) = some (enumAt s.heap.objs.size) := by
    rw [← one]
    exact Heap.get?_push_size _ rfl
  have told : Q (.ref (s.heap.objs.size + 1)) { s with heap := (s.heap.push o).push (enumAt s.heap.objs.size) } :=
    goal _ made (Heap.get?_push_of_some _ (Heap.get?_push_size _ B.free)) (by rw [Heap.size_push, one]) fun c u e => Heap.get?_push_of_some _ (Heap.get?_push_of_some _ e)
  rw [← one] at made told
  exact callType_new F.called_enumerate (by decide) (F.typeCall_enumerate_1 _) (F.newCall_enumerate_1 _) (fun obj => F.args_object_init_2 obj _) F.entry_enumerate_new (enumNew B) ⟨given, ⟨_, made, rfl⟩, told⟩
/-- addresses that are all new may be a walk's own -/
abbrev ownNew {X : Cx} {pins : List (Addr × Obj)} {σ : L2.St} {H : Hp} {s : Shared} {fp : List Addr} (I : Inv X pins σ H s) (new : ∀ c ∈ fp, s.heap.objs.size ≤ c) {c : Addr} (hc : c ∈ fp) := I.fpOk (new c hc) (I.hok.fresh (new c hc))
theorem newAll {n : Nat} {l : List Nat} : ∀ c ∈ l.map (n + ·), n ≤ c := fun c h => by obtain ⟨k, _, rfl⟩ := List.mem_map.mp h; exact Nat.le_add_right n k
def iEnumK (K : PySem.W.Frag) (ta : TA) : TI := fun σ H R => ta σ H fun vs H1 => ∃ k a xs, vs = [.ref a] ∧ SqK K k H1 a xs ∧ R (ItE K k a 0) H1
theorem pi_enumK {X : Cx} {e : Expr} {ta : TA} {p pos tpos : Pos} {elts : List Expr} {kk : Nat} (hg : Gl X "enumerate") (hm : X.mg "enumerate" = none) (ha : PA X [e] ta) (hs : starEach [e] X.env = [(false, eval e X.env)] := by rfl) :
    PI X (.Tuple elts kk tpos) (.Call (.Name "enumerate" p) [e] [] pos) (iEnumK X.K ta) := by
  refine ⟨fun pins s σ H R I h => ?_⟩
  refine Call_ (ld_blt I hg hm boot_enumerate (PyProof.Rows.callWith_type1 (thn (ha.run pos pins s σ H _ I h) fun us s1 ⟨vs, H1, I1, r1, q1⟩ => ?_) hs rfl))
  obtain ⟨k, a, xs, ex, hq, q⟩ := q1
  subst ex
  cases r1 with
  | cons r rr =>
    cases rr
    cases r
    obtain ⟨its, rv, p', hz⟩ := seqK I1 hq
    have la := p'.lt
    refine enum_begins1 (begK k a its.toArray) p' fun h' he hit hsz hk => wpAny_pyIter_enum he ?_
    refine ⟨s1.heap.objs.size + 1, [s1.heap.objs.size + 1, s1.heap.objs.size], _, _, H1, rfl, I1.kept (t' := s1.toks) hk, turn_enumK (k := k) (a := a) (k₀ := 0) (Nat.succ_ne_self _) (Nat.ne_of_gt (Nat.lt_succ_of_lt la)) (Nat.ne_of_lt la), ⟨⟨.none, by simpa using he⟩, .first hit⟩, fun b hb => ownNew I1 (newAll (l := [1, 0])) hb, q⟩

/-! ### zip of two -/
def ItZ2 (K : PySem.W.Frag) (k1 k2 : Kd) (a b : Addr) : It :=
  ⟨fun i H => ∃ (xs ys : List V) (x y : V), SqK K k1 H a xs ∧ SqK K k2 H b ys ∧ xs[i]? = some x ∧ ys[i]? = some y,
    fun i H v H' => ∃ T x y, v = .ref T ∧ H T = none ∧ H' = upd H T (.tup [x, y]) ∧ (∀ xs, SqK K k1 H a xs → xs[i]? = some x) ∧ ∀ ys, SqK K k2 H b ys → ys[i]? = some y,
    fun i H => ∃ xs ys : List V, SqK K k1 H a xs ∧ SqK K k2 H b ys ∧ i = min xs.length ys.length⟩
theorem turn_zipK2 {P : Program} {w : World} {K : PySem.W.Frag} {elts : List Expr} {kk : Nat} {tpos : Pos} {k1 k2 : Kd} {a b z TI TO i1 i2 : Addr} (D : ZipSep2 z TI TO i1 i2 [i1, a] [i2, b]) (h1 : a ≠ i1) (h2 : b ≠ i2) :
    Turn P w K (.Tuple elts kk tpos) (ItZ2 K k1 k2 a b) [z, TI, TO, i1, i2] z (fun i h => IsZip h z TI TO .none ∧ IsTupOf2 h TI (.ref i1) (.ref i2) ∧ (∃ x y, IsTupOf2 h TO x y) ∧ IterK k1 h i1 a i ∧ IterK k2 h i2 b i) := by
  refine turn_of (by simp) ?_ ?_ ?_ ?_ ?_
  · intro i h st c hc
    obtain ⟨hz, hTI, ⟨x, y, hTO⟩, e1, e2⟩ := st
    have e' : c = z ∨ c = TI ∨ c = TO ∨ c = i1 ∨ c = i2 := by simpa using hc
    rcases e' with q | q | q | q | q
    · rw [q]; exact ⟨_, hz, fun v q => nomatch q⟩
    · rw [q]; exact ⟨_, hTI, fun v q => nomatch q⟩
    · rw [q]; exact ⟨_, hTO, fun v q => nomatch q⟩
    · rw [q]; exact e1.obj
    · rw [q]; exact e2.obj
  · intro i h h' st kp
    obtain ⟨hz, hTI, ⟨x, y, hTO⟩, e1, e2⟩ := st
    exact ⟨kp z (by simp) _ hz, kp TI (by simp) _ hTI, ⟨x, y, kp TO (by simp) _ hTO⟩, e1.at fun o q => kp i1 (by simp) o q, e2.at fun o q => kp i2 (by simp) o q⟩
  · intro X hP hw hK hc i pins s σ H I st hg
    subst hP hw hK
    obtain ⟨hz, hTI, hTO, e1, e2⟩ := st
    obtain ⟨xs, ys, x, y, hqx, hqy, hx, hy⟩ := hg
    obtain ⟨its1, rv1, p1, hz1⟩ := seqK I hqx
    obtain ⟨its2, rv2, p2, hz2⟩ := seqK I hqy
    have l1 := rv1.length
    have l2 := rv2.length
    have lt1 : i < xs.length := (List.getElem?_eq_some_iff.mp hx).1
    have lt2 : i < ys.length := (List.getElem?_eq_some_iff.mp hy).1
    have hh : X.A.in1.handled = none := I.ok.hd hc
    refine ⟨_, _, _, _, _, _, WalksT.zipD2 D (drawK hh k1 i1 a h1 its1.toArray) (drawK hh k2 i2 b h2 its2.toArray), by rw [List.size_toArray, List.size_toArray]; omega, ⟨hz, hTI, hTO, ⟨e1, p1⟩, ⟨e2, p2⟩⟩,
      fun c hc' => ?_, fun h' st' => ⟨st'.1, st'.2.1, st'.2.2.1, st'.2.2.2.1.1, st'.2.2.2.2.1⟩, ?_⟩
    · have e' : c = z ∨ c = TO ∨ c = i1 ∨ c = i2 := by simpa using hc'
      rcases e' with q | q | q | q <;> simp [q]
    · rintro vals ⟨u1, u2, hu1, hu2, rfl⟩
      obtain ⟨v1, hv1, rv1'⟩ := rv1.get hx
      obtain ⟨v2, hv2, rv2'⟩ := rv2.get hy
      have f1 : its1[i]? = some u1 := by simpa using hu1
      have f2 : its2[i]? = some u2 := by simpa using hu2
      rw [f1] at hv1
      rw [f2] at hv2
      cases hv1
      cases hv2
      exact ⟨[x, y], .cons rv1' (.cons rv2' .nil), by show 2 ≤ sizeLine; decide, fun T hT => ⟨T, x, y, rfl, hT, rfl, fun l hl => by rw [seqK_inj I hl hqx]; exact hx, fun l hl => by rw [seqK_inj I hl hqy]; exact hy⟩⟩
  · intro X hP hw hK hc i pins s σ H I st hg
    subst hP hw hK
    obtain ⟨hz, hTI, hTO, e1, e2⟩ := st
    obtain ⟨xs, ys, hqx, hqy, hi⟩ := hg
    obtain ⟨its1, rv1, p1, hz1⟩ := seqK I hqx
    obtain ⟨its2, rv2, p2, hz2⟩ := seqK I hqy
    have l1 := rv1.length
    have l2 := rv2.length
    have hh : X.A.in1.handled = none := I.ok.hd hc
    refine ⟨_, _, _, _, _, _, WalksT.zipD2 D (drawK hh k1 i1 a h1 its1.toArray) (drawK hh k2 i2 b h2 its2.toArray), by rw [List.size_toArray, List.size_toArray, ← l1, ← l2]; exact hi, ⟨hz, hTI, hTO, ⟨e1, p1⟩, ⟨e2, p2⟩⟩, fun c hc' => ?_⟩
    have e' : c = z ∨ c = TO ∨ c = i1 ∨ c = i2 := by simpa using hc'
    rcases e' with q | q | q | q <;> simp [q]
  · intro A i s Q E st h
    exact wpAny_pyIter_zip st.1 h
def iZip2 (K : PySem.W.Frag) (ta : TA) : TI := fun σ H R => ta σ H fun vs H1 => ∃ k1 k2 a b xs ys, vs = [.ref a, .ref b] ∧ SqK K k1 H1 a xs ∧ SqK K k2 H1 b ys ∧ R (ItZ2 K k1 k2 a b) H1
theorem pi_zip2 {X : Cx} {e e2 : Expr} {ta : TA} {p pos tpos : Pos} {elts : List Expr} {kk : Nat} (hg : Gl X "zip") (hm : X.mg "zip" = none) (ha : PA X [e, e2] ta)
    (hs : starEach [e, e2] X.env = (false, eval e X.env) :: starEach [e2] X.env := by rfl) (hpl : (backTo pos (starEach [e2] X.env)).any (·.1) = false := by rfl) :
    PI X (.Tuple elts kk tpos) (.Call (.Name "zip" p) [e, e2] [] pos) (iZip2 X.K ta) := by
  refine ⟨fun pins s σ H R I h => ?_⟩
  refine Call_ (ld_blt I hg hm PyProof.Rows.boot_zip (PyProof.Rows.callWith_type1 (thn (ha.run pos pins s σ H _ I h) fun us s1 ⟨vs, H1, I1, r1, q1⟩ => ?_) hs hpl))
  obtain ⟨k1, k2, a, b, xs, ys, ex, hqx, hqy, q⟩ := q1
  subst ex
  cases r1 with
  | cons r rr =>
    cases rr with
    | cons r' rr =>
      cases rr
      cases r
      cases r'
      obtain ⟨its1, rv1, p1, _⟩ := seqK I1 hqx
      obtain ⟨its2, rv2, p2, _⟩ := seqK I1 hqy
      have la := p1.lt
      have lb := p2.lt
      refine zip_begins2 (begK k1 a its1.toArray) (begK k2 b its2.toArray) p1 p2 fun h' hz hTI hTO h1 h2 hsz hk => wpAny_pyIter_zip hz ?_
      refine ⟨s1.heap.objs.size + 4, [s1.heap.objs.size + 4, s1.heap.objs.size + 2, s1.heap.objs.size + 3, s1.heap.objs.size, s1.heap.objs.size + 1], _, _, H1, rfl, I1.kept (t' := s1.toks) hk,
        turn_zipK2 (k1 := k1) (k2 := k2) (zip_sep2 (fp1 := [a]) (fp2 := [b]) (fun c hc => by rw [List.mem_singleton.mp hc]; exact la) (fun c hc => by rw [List.mem_singleton.mp hc]; exact lb)) (Nat.ne_of_lt la) (Nat.ne_of_lt (Nat.lt_succ_of_lt lb)), ⟨hz, hTI, ⟨_, _, hTO⟩, .first h1, .first h2⟩, fun c hcm => ownNew I1 (newAll (l := [4, 2, 3, 0, 1])) hcm, q⟩

/-! ### zip of three -/
def ItZ3 (K : PySem.W.Frag) (k1 k2 k3 : Kd) (a b c : Addr) : It :=
  ⟨fun i H => ∃ (xs ys zs : List V) (x y z : V), SqK K k1 H a xs ∧ SqK K k2 H b ys ∧ SqK K k3 H c zs ∧ xs[i]? = some x ∧ ys[i]? = some y ∧ zs[i]? = some z,
    fun i H v H' => ∃ T x y z, v = .ref T ∧ H T = none ∧ H' = upd H T (.tup [x, y, z]) ∧ (∀ xs, SqK K k1 H a xs → xs[i]? = some x) ∧ (∀ ys, SqK K k2 H b ys → ys[i]? = some y) ∧ ∀ zs, SqK K k3 H c zs → zs[i]? = some z,
    fun i H => ∃ xs ys zs : List V, SqK K k1 H a xs ∧ SqK K k2 H b ys ∧ SqK K k3 H c zs ∧ i = min (min xs.length ys.length) zs.length⟩
theorem turn_zipK3 {P : Program} {w : World} {K : PySem.W.Frag} {elts : List Expr} {kk : Nat} {tpos : Pos} {k1 k2 k3 : Kd} {a b c z TI TO i1 i2 i3 : Addr} (D : ZipSep3 z TI TO i1 i2 i3 [i1, a] [i2, b] [i3, c]) (h1 : a ≠ i1) (h2 : b ≠ i2) (h3 : c ≠ i3) :
    Turn P w K (.Tuple elts kk tpos) (ItZ3 K k1 k2 k3 a b c) [z, TI, TO, i1, i2, i3] z (fun i h => IsZip h z TI TO .none ∧ IsTupOf3 h TI (.ref i1) (.ref i2) (.ref i3) ∧ (∃ x y u, IsTupOf3 h TO x y u) ∧ IterK k1 h i1 a i ∧ IterK k2 h i2 b i ∧ IterK k3 h i3 c i) := by
  refine turn_of (by simp) ?_ ?_ ?_ ?_ ?_
  · intro i h st c hc
    obtain ⟨hz, hTI, ⟨x, y, u, hTO⟩, e1, e2, e3⟩ := st
    have e' : c = z ∨ c = TI ∨ c = TO ∨ c = i1 ∨ c = i2 ∨ c = i3 := by simpa using hc
    rcases e' with q | q | q | q | q | q
    · rw [q]; exact ⟨_, hz, fun v q => nomatch q⟩
    · rw [q]; exact ⟨_, hTI, fun v q => nomatch q⟩
    · rw [q]; exact ⟨_, hTO, fun v q => nomatch q⟩
    · rw [q]; exact e1.obj
    · rw [q]; exact e2.obj
    · rw [q]; exact e3.obj
  · intro i h h' st kp
    obtain ⟨hz, hTI, ⟨x, y, u, hTO⟩, e1, e2, e3⟩ := st
    exact ⟨kp z (by simp) _ hz, kp TI (by simp) _ hTI, ⟨x, y, u, kp TO (by simp) _ hTO⟩, e1.at fun o q => kp i1 (by simp) o q, e2.at fun o q => kp i2 (by simp) o q, e3.at fun o q => kp i3 (by simp) o q⟩
  · intro X hP hw hK hc i pins s σ H I st hg
    subst hP hw hK
    obtain ⟨hz, hTI, hTO, e1, e2, e3⟩ := st
    obtain ⟨xs, ys, zs, x, y, u, hqx, hqy, hqz, hx, hy, hu⟩ := hg
    obtain ⟨its1, rv1, p1, hz1⟩ := seqK I hqx
    obtain ⟨its2, rv2, p2, hz2⟩ := seqK I hqy
    obtain ⟨its3, rv3, p3, hz3⟩ := seqK I hqz
    have l1 := rv1.length
    have l2 := rv2.length
    have l3 := rv3.length
    have lt1 : i < xs.length := (List.getElem?_eq_some_iff.mp hx).1
    have lt2 : i < ys.length := (List.getElem?_eq_some_iff.mp hy).1
    have lt3 : i < zs.length := (List.getElem?_eq_some_iff.mp hu).1
    have hh : X.A.in1.handled = none := I.ok.hd hc
    refine ⟨_, _, _, _, _, _, WalksT.zipD3 D (drawK hh k1 i1 a h1 its1.toArray) (drawK hh k2 i2 b h2 its2.toArray) (drawK hh k3 i3 c h3 its3.toArray), by rw [List.size_toArray, List.size_toArray, List.size_toArray]; omega, ⟨hz, hTI, hTO, ⟨e1, p1⟩, ⟨e2, p2⟩, ⟨e3, p3⟩⟩,
      fun c hc' => ?_, fun h' st' => ⟨st'.1, st'.2.1, st'.2.2.1, st'.2.2.2.1.1, st'.2.2.2.2.1.1, st'.2.2.2.2.2.1⟩, ?_⟩
    · have e' : c = z ∨ c = TO ∨ c = i1 ∨ c = i2 ∨ c = i3 := by simpa using hc'
      rcases e' with q | q | q | q | q <;> simp [q]
    · rintro vals ⟨u1, u2, u3, hu1, hu2, hu3, rfl⟩
      obtain ⟨v1, hv1, rv1'⟩ := rv1.get hx
      obtain ⟨v2, hv2, rv2'⟩ := rv2.get hy
      obtain ⟨v3, hv3, rv3'⟩ := rv3.get hu
      have f1 : its1[i]? = some u1 := by simpa using hu1
      have f2 : its2[i]? = some u2 := by simpa using hu2
      have f3 : its3[i]? = some u3 := by simpa using hu3
      rw [f1] at hv1
      rw [f2] at hv2
      rw [f3] at hv3
      cases hv1
      cases hv2
      cases hv3
      exact ⟨[x, y, u], .cons rv1' (.cons rv2' (.cons rv3' .nil)), by show 3 ≤ sizeLine; decide, fun T hT => ⟨T, x, y, u, rfl, hT, rfl, fun l hl => by rw [seqK_inj I hl hqx]; exact hx, fun l hl => by rw [seqK_inj I hl hqy]; exact hy, fun l hl => by rw [seqK_inj I hl hqz]; exact hu⟩⟩
  · intro X hP hw hK hc i pins s σ H I st hg
    subst hP hw hK
    obtain ⟨hz, hTI, hTO, e1, e2, e3⟩ := st
    obtain ⟨xs, ys, zs, hqx, hqy, hqz, hi⟩ := hg
    obtain ⟨its1, rv1, p1, hz1⟩ := seqK I hqx
    obtain ⟨its2, rv2, p2, hz2⟩ := seqK I hqy
    obtain ⟨its3, rv3, p3, hz3⟩ := seqK I hqz
    have l1 := rv1.length
    have l2 := rv2.length
    have l3 := rv3.length
    have hh : X.A.in1.handled = none := I.ok.hd hc
    refine ⟨_, _, _, _, _, _, WalksT.zipD3 D (drawK hh k1 i1 a h1 its1.toArray) (drawK hh k2 i2 b h2 its2.toArray) (drawK hh k3 i3 c h3 its3.toArray), by rw [List.size_toArray, List.size_toArray, List.size_toArray, ← l1, ← l2, ← l3]; exact hi, ⟨hz, hTI, hTO, ⟨e1, p1⟩, ⟨e2, p2⟩, ⟨e3, p3⟩⟩, fun c hc' => ?_⟩
    have e' : c = z ∨ c = TO ∨ c = i1 ∨ c = i2 ∨ c = i3 := by simpa using hc'
    rcases e' with q | q | q | q | q <;> simp [q]
  · intro A i s Q E st h
    exact wpAny_pyIter_zip st.1 h
def iZip3 (K : PySem.W.Frag) (ta : TA) : TI := fun σ H R => ta σ H fun vs H1 => ∃ k1 k2 k3 a b c xs ys zs, vs = [.ref a, .ref b, .ref c] ∧ SqK K k1 H1 a xs ∧ SqK K k2 H1 b ys ∧ SqK K k3 H1 c zs ∧ R (ItZ3 K k1 k2 k3 a b c) H1
theorem pi_zip3 {X : Cx} {e e2 e3 : Expr} {ta : TA} {p pos tpos : Pos} {elts : List Expr} {kk : Nat} (hg : Gl X "zip") (hm : X.mg "zip" = none) (ha : PA X [e, e2, e3] ta)
    (hs : starEach [e, e2, e3] X.env = (false, eval e X.env) :: starEach [e2, e3] X.env := by rfl) (hpl : (backTo pos (starEach [e2, e3] X.env)).any (·.1) = false := by rfl) :
    PI X (.Tuple elts kk tpos) (.Call (.Name "zip" p) [e, e2, e3] [] pos) (iZip3 X.K ta) := by
  refine ⟨fun pins s σ H R I h => ?_⟩
  refine Call_ (ld_blt I hg hm PyProof.Rows.boot_zip (PyProof.Rows.callWith_type1 (thn (ha.run pos pins s σ H _ I h) fun us s1 ⟨vs, H1, I1, r1, q1⟩ => ?_) hs hpl))
  obtain ⟨k1, k2, k3, a, b, c, xs, ys, zs, ex, hqx, hqy, hqz, q⟩ := q1
  subst ex
  cases r1 with
  | cons r rr =>
    cases rr with
    | cons r' rr =>
      cases rr with
      | cons r'' rr =>
      cases rr
      cases r
      cases r'
      cases r''
      obtain ⟨its1, rv1, p1, _⟩ := seqK I1 hqx
      obtain ⟨its2, rv2, p2, _⟩ := seqK I1 hqy
      obtain ⟨its3, rv3, p3, _⟩ := seqK I1 hqz
      have la := p1.lt
      have lb := p2.lt
      have lc := p3.lt
      refine zip_begins3 (begK k1 a its1.toArray) (begK k2 b its2.toArray) (begK k3 c its3.toArray) p1 p2 p3 fun h' hz hTI hTO h1 h2 h3 hsz hk => wpAny_pyIter_zip hz ?_
      refine ⟨s1.heap.objs.size + 5, [s1.heap.objs.size + 5, s1.heap.objs.size + 3, s1.heap.objs.size + 4, s1.heap.objs.size, s1.heap.objs.size + 1, s1.heap.objs.size + 2], _, _, H1, rfl, I1.kept (t' := s1.toks) hk,
        turn_zipK3 (k1 := k1) (k2 := k2) (k3 := k3) (zip_sep3 (fp1 := [a]) (fp2 := [b]) (fp3 := [c]) (fun d hc => by rw [List.mem_singleton.mp hc]; exact la) (fun d hc => by rw [List.mem_singleton.mp hc]; exact lb) (fun d hc => by rw [List.mem_singleton.mp hc]; exact lc)) (Nat.ne_of_lt la) (Nat.ne_of_lt (Nat.lt_succ_of_lt lb)) (Nat.ne_of_lt (Nat.lt_succ_of_lt (Nat.lt_succ_of_lt lc))), ⟨hz, hTI, ⟨_, _, _, hTO⟩, .first h1, .first h2, .first h3⟩, fun d hcm => ownNew I1 (newAll (l := [5, 3, 4, 0, 1, 2])) hcm, q⟩

/-! ### over data -/
/-- what stands at an address through the walk -/
def WSrc (K : PySem.W.Frag) (k : Kd) (a : Addr) (S : Src) (Hc0 : Hp) : Prop := ∀ H Hc μ, Same Hc0 Hc → Split K H Hc μ → S.ok μ → ∃ vs, SqK K k H a vs ∧ RepA K Hc vs S.ds
theorem src_of {K : PySem.W.Frag} {H Hc : Hp} {μ : M} {v : V} {d : D} {S : Src} (s : Split K H Hc μ) (r : Rep K Hc v d) (h : srcOf μ d = some S) : ∃ k a, v = .ref a ∧ S.ok μ ∧ WSrc K k a S Hc := by
  cases r with
  | @lst ad vs ds ha ra =>
    cases (show some (Src.dat ds) = some S from h)
    exact ⟨.l, ad, rfl, True.intro, fun H' Hc' μ' e' s' _ => ⟨vs, SqL.of (s'.same _ _ (e' _ _ ha)), ra.mono e'⟩⟩
  | @tup ad vs ds ha ra =>
    cases (show some (Src.dat ds) = some S from h)
    exact ⟨.t, ad, rfl, True.intro, fun H' Hc' μ' e' s' _ => ⟨vs, same_t s'.same (same_t e' ha), ra.mono e'⟩⟩
  | raw =>
    cases v with
    | ref p =>
      obtain ⟨xs, hp, rfl⟩ := src_refs h
      refine ⟨.l, p, rfl, hp, fun H' Hc' μ' e' s' hok => ?_⟩
      obtain ⟨_, o', ho', vs', rfl, ra'⟩ := s'.cell p _ (show μ' p = some (.lst xs) from hok)
      exact ⟨vs', SqL.of ho', ra'⟩
    | _ => cases h
  | _ => cases h
theorem WSrc.mono {K : PySem.W.Frag} {k : Kd} {a : Addr} {S : Src} {Hc Hc' : Hp} (e : Same Hc Hc') (w : WSrc K k a S Hc) : WSrc K k a S Hc' := fun H2 Hc2 μ2 e2 s2 ok => w H2 Hc2 μ2 (e.trans e2) s2 ok
/-- a tuple laid at the turn -/
theorem new_tup {K : PySem.W.Frag} {H Hc : Hp} {μ : M} {T : Addr} {vs : List V} {ds : List D} (s : Split K H Hc μ) (hT : H T = none) (ra : RepA K Hc vs ds) : ∃ Hc', Same Hc Hc' ∧ Split K (upd H T (.tup vs)) Hc' μ ∧ Rep K Hc' (.ref T) (.tup ds) :=
  ⟨upd Hc T (.tup vs), same_new (s.fresh hT).2, s.data hT, .tup (.inl (.inl upd_same)) (ra.mono (same_new (s.fresh hT).2))⟩
def enumL (n : Int) (ds : List D) : List D := ds.mapIdx fun i d => .tup [.int (n + (i : Nat)), d]
theorem enumL_get {n : Int} {ds : List D} {i : Nat} : (enumL n ds)[i]? = ds[i]?.map fun d => .tup [.int (n + (i : Nat)), d] := by unfold enumL; rw [List.getElem?_mapIdx]
theorem enumL_len {n : Int} {ds : List D} : (enumL n ds).length = ds.length := by unfold enumL; rw [List.length_mapIdx]
abbrev Src.enum (n : Int) (S : Src) : Src := ⟨enumL n S.ds, S.ok, S.mono⟩
theorem wlk_enum {K : PySem.W.Frag} {k : Kd} {a : Addr} {S : Src} {Hc0 : Hp} {n : Int} (w : WSrc K k a S Hc0) : Wlk K (ItE K k a n) (S.enum n) Hc0 := fun i H Hc μ e0 s ok => by
  obtain ⟨vs, hv, ra⟩ := w H Hc μ e0 s ok
  refine ⟨fun d hd => ?_, fun hi => ⟨vs, hv, by rw [ra.length]; rw [enumL_len] at hi; exact hi⟩⟩
  rw [enumL_get] at hd
  obtain ⟨d0, hd0, rfl⟩ := Option.map_eq_some_iff.mp hd
  obtain ⟨v, h1, h2⟩ := ra.get hd0
  refine ⟨⟨vs, v, hv, h1⟩, fun x H' hy => ?_⟩
  obtain ⟨T, x0, rfl, hT, rfl, hx⟩ := hy
  have e := hx vs hv
  rw [h1] at e
  cases e
  exact new_tup s hT (.cons (.int _) (.cons h2 .nil))
def zipL (xs ys : List D) : List D := List.zipWith (fun x y => .tup [x, y]) xs ys
theorem zipL_get {xs ys : List D} {i : Nat} {d : D} (h : (zipL xs ys)[i]? = some d) : ∃ x y, xs[i]? = some x ∧ ys[i]? = some y ∧ d = .tup [x, y] := by
  unfold zipL at h
  rw [List.getElem?_zipWith] at h
  split at h
  · rename_i x y hx hy
    exact ⟨x, y, hx, hy, (Option.some.inj h).symm⟩
  · cases h
theorem zipL_len {xs ys : List D} : (zipL xs ys).length = min xs.length ys.length := by unfold zipL; rw [List.length_zipWith]
abbrev Src.zip (S T : Src) : Src := ⟨zipL S.ds T.ds, fun μ => S.ok μ ∧ T.ok μ, fun μ p c h k => ⟨S.mono μ p c h k.1, T.mono μ p c h k.2⟩⟩
theorem wlk_zip2 {K : PySem.W.Frag} {k1 k2 : Kd} {a b : Addr} {S T : Src} {Hc0 : Hp} (w1 : WSrc K k1 a S Hc0) (w2 : WSrc K k2 b T Hc0) : Wlk K (ItZ2 K k1 k2 a b) (S.zip T) Hc0 := fun i H Hc μ e0 s ok => by
  obtain ⟨vs, hv, ra⟩ := w1 H Hc μ e0 s ok.1
  obtain ⟨ws, hw, rb⟩ := w2 H Hc μ e0 s ok.2
  refine ⟨fun d hd => ?_, fun hi => ⟨vs, ws, hv, hw, by rw [ra.length, rb.length]; rw [zipL_len] at hi; exact hi⟩⟩
  obtain ⟨d1, d2, hd1, hd2, rfl⟩ := zipL_get hd
  obtain ⟨v, h1, h2⟩ := ra.get hd1
  obtain ⟨u, h3, h4⟩ := rb.get hd2
  refine ⟨⟨vs, ws, v, u, hv, hw, h1, h3⟩, fun x H' hy => ?_⟩
  obtain ⟨T, x0, y0, rfl, hT, rfl, hx, hy⟩ := hy
  have e := hx vs hv
  rw [h1] at e
  cases e
  have e := hy ws hw
  rw [h3] at e
  cases e
  exact new_tup s hT (.cons h2 (.cons h4 .nil))
def zipL3 (xs ys zs : List D) : List D := List.zipWith (fun x yz => .tup [x, yz.1, yz.2]) xs (List.zip ys zs)
theorem zipL3_get {xs ys zs : List D} {i : Nat} {d : D} (h : (zipL3 xs ys zs)[i]? = some d) : ∃ x y z, xs[i]? = some x ∧ ys[i]? = some y ∧ zs[i]? = some z ∧ d = .tup [x, y, z] := by
  unfold zipL3 at h
  rw [List.getElem?_zipWith] at h
  split at h
  · rename_i x yz hx hy
    obtain ⟨y, z⟩ := yz
    obtain ⟨h1, h2⟩ := List.getElem?_zip_eq_some.mp hy
    exact ⟨x, y, z, hx, h1, h2, (Option.some.inj h).symm⟩
  · cases h
theorem zipL3_len {xs ys zs : List D} : (zipL3 xs ys zs).length = min (min xs.length ys.length) zs.length := by unfold zipL3; rw [List.length_zipWith, List.length_zip]; omega
abbrev Src.zip3 (S T U : Src) : Src := ⟨zipL3 S.ds T.ds U.ds, fun μ => S.ok μ ∧ T.ok μ ∧ U.ok μ, fun μ p c h k => ⟨S.mono μ p c h k.1, T.mono μ p c h k.2.1, U.mono μ p c h k.2.2⟩⟩
theorem wlk_zip3 {K : PySem.W.Frag} {k1 k2 k3 : Kd} {a b c : Addr} {S T U : Src} {Hc0 : Hp} (w1 : WSrc K k1 a S Hc0) (w2 : WSrc K k2 b T Hc0) (w3 : WSrc K k3 c U Hc0) : Wlk K (ItZ3 K k1 k2 k3 a b c) (S.zip3 T U) Hc0 := fun i H Hc μ e0 s ok => by
  obtain ⟨vs, hv, ra⟩ := w1 H Hc μ e0 s ok.1
  obtain ⟨ws, hw, rb⟩ := w2 H Hc μ e0 s ok.2.1
  obtain ⟨zs, hz, rc⟩ := w3 H Hc μ e0 s ok.2.2
  refine ⟨fun d hd => ?_, fun hi => ⟨vs, ws, zs, hv, hw, hz, by rw [ra.length, rb.length, rc.length]; rw [zipL3_len] at hi; exact hi⟩⟩
  obtain ⟨d1, d2, d3, hd1, hd2, hd3, rfl⟩ := zipL3_get hd
  obtain ⟨v, h1, h2⟩ := ra.get hd1
  obtain ⟨u, h3, h4⟩ := rb.get hd2
  obtain ⟨q, h5, h6⟩ := rc.get hd3
  refine ⟨⟨vs, ws, zs, v, u, q, hv, hw, hz, h1, h3, h5⟩, fun x H' hy => ?_⟩
  obtain ⟨T, x0, y0, z0, rfl, hT, rfl, hx, hy, hz'⟩ := hy
  have e := hx vs hv
  rw [h1] at e
  cases e
  have e := hy ws hw
  rw [h3] at e
  cases e
  have e := hz' zs hz
  rw [h5] at e
  cases e
  exact new_tup s hT (.cons h2 (.cons h4 (.cons h6 .nil)))
def kS2 (F : Src → Src → Src) (R : Src → M → Prop) (S T : Src) (μ : M) : Prop := R (F S T) μ
def OptS2 (o p : Option Src) (F : Src → Src → Src) (R : Src → M → Prop) (μ : M) : Prop := match o, p with
  | some S, some T => R (F S T) μ
  | _, _ => False
def OptS3 (o p q : Option Src) (F : Src → Src → Src → Src) (R : Src → M → Prop) (μ : M) : Prop := match o, p, q with
  | some S, some T, some U => R (F S T U) μ
  | _, _, _ => False
@[simp] theorem OptS2_some {S T : Src} {F : Src → Src → Src} {R : Src → M → Prop} {μ : M} : OptS2 (some S) (some T) F R μ = R (F S T) μ := rfl
@[simp] theorem OptS3_some {S T U : Src} {F : Src → Src → Src → Src} {R : Src → M → Prop} {μ : M} : OptS3 (some S) (some T) (some U) F R μ = R (F S T U) μ := rfl
theorem OptS2.ex {o p : Option Src} {F : Src → Src → Src} {R : Src → M → Prop} {μ : M} (h : OptS2 o p F R μ) : ∃ S T, o = some S ∧ p = some T ∧ R (F S T) μ := by
  unfold OptS2 at h
  split at h
  · exact ⟨_, _, rfl, rfl, h⟩
  · exact h.elim
theorem OptS3.ex {o p q : Option Src} {F : Src → Src → Src → Src} {R : Src → M → Prop} {μ : M} (h : OptS3 o p q F R μ) : ∃ S T U, o = some S ∧ p = some T ∧ q = some U ∧ R (F S T U) μ := by
  unfold OptS3 at h
  split at h
  · exact ⟨_, _, _, rfl, rfl, rfl, h⟩
  · exact h.elim
def kEnum (R : Src → M → Prop) (ds : List D) (μ : M) : Prop := match ds with
  | [d] => OptS ((srcOf μ d).map (Src.enum 0)) R μ
  | _ => False
def kZip2 (R : Src → M → Prop) (ds : List D) (μ : M) : Prop := match ds with
  | [d, e] => OptS2 (srcOf μ d) (srcOf μ e) Src.zip R μ
  | _ => False
def kZip3 (R : Src → M → Prop) (ds : List D) (μ : M) : Prop := match ds with
  | [d, e, f] => OptS3 (srcOf μ d) (srcOf μ e) (srcOf μ f) Src.zip3 R μ
  | _ => False
def dEnum (tr : DTA) (W : XD) (δ : Sl) (μ : M) (R : Src → M → Prop) : Prop := tr W δ μ (kEnum R)
def dZip2 (tr : DTA) (W : XD) (δ : Sl) (μ : M) (R : Src → M → Prop) : Prop := tr W δ μ (kZip2 R)
def dZip3 (tr : DTA) (W : XD) (δ : Sl) (μ : M) (R : Src → M → Prop) : Prop := tr W δ μ (kZip3 R)
section
variable {X : Cx} {W : WX} {a b c : Expr} {tr : DTA} {elts : List Expr} {kk : Nat} {tpos : Pos}
theorem RepA.three' {K : PySem.W.Frag} {H : Hp} {vs : List V} {d e f : D} (r : RepA K H vs [d, e, f]) : ∃ v u w, vs = [v, u, w] ∧ Rep K H v d ∧ Rep K H u e ∧ Rep K H w f := by
  cases r with
  | cons a r =>
    obtain ⟨u, w, rfl, b, c⟩ := r.two'
    exact ⟨_, u, w, rfl, a, b, c⟩
theorem di_enum {p pos : Pos} (hm : X.mg "enumerate" = none) (ha : DA X W [a] tr) (hg : Gl X "enumerate" := by rfl) (hs : starEach [a] X.env = [(false, eval a X.env)] := by rfl) : DI X W (.Tuple elts kk tpos) (.Call (.Name "enumerate" p) [a] [] pos) (dEnum tr) :=
  PI.imp (pi_enumK hg hm ha hs) fun σ H R ⟨δ, μ, Hc, Rd, Xd, s, rs, h, ri, rx⟩ => ⟨δ, μ, Hc, _, Xd, s, rs, h, fun ds μ1 h1 vs H1 Hc1 e1 s1 r1 => by
    unfold kEnum at h1
    split at h1
    · obtain ⟨v, rfl, r⟩ := r1.one'
      obtain ⟨S', hS', hR⟩ := OptS.ex h1
      obtain ⟨S, hS, rfl⟩ := Option.map_eq_some_iff.mp hS'
      obtain ⟨k, ad, rfl, ok, ws⟩ := src_of s1 r hS
      obtain ⟨xs, hx, _⟩ := ws _ _ _ (Same.refl _) s1 ok
      exact ⟨k, ad, xs, rfl, hx, ri _ _ hR _ _ _ e1 s1 (wlk_enum ws)⟩
    · exact h1.elim, rx⟩
theorem di_zip2 {p pos : Pos} (hm : X.mg "zip" = none) (ha : DA X W [a, b] tr) (hg : Gl X "zip" := by rfl) (hs : starEach [a, b] X.env = (false, eval a X.env) :: starEach [b] X.env := by rfl) (hpl : (backTo pos (starEach [b] X.env)).any (·.1) = false := by rfl) :
    DI X W (.Tuple elts kk tpos) (.Call (.Name "zip" p) [a, b] [] pos) (dZip2 tr) :=
  PI.imp (pi_zip2 hg hm ha hs hpl) fun σ H R ⟨δ, μ, Hc, Rd, Xd, s, rs, h, ri, rx⟩ => ⟨δ, μ, Hc, _, Xd, s, rs, h, fun ds μ1 h1 vs H1 Hc1 e1 s1 r1 => by
    unfold kZip2 at h1
    split at h1
    · obtain ⟨v, u, rfl, r, r'⟩ := r1.two'
      obtain ⟨S, T, hS, hT, hR⟩ := OptS2.ex h1
      obtain ⟨k1, a1, rfl, ok1, ws1⟩ := src_of s1 r hS
      obtain ⟨k2, a2, rfl, ok2, ws2⟩ := src_of s1 r' hT
      obtain ⟨xs, hx, _⟩ := ws1 _ _ _ (Same.refl _) s1 ok1
      obtain ⟨ys, hy, _⟩ := ws2 _ _ _ (Same.refl _) s1 ok2
      exact ⟨k1, k2, a1, a2, xs, ys, rfl, hx, hy, ri _ _ hR _ _ _ e1 s1 (wlk_zip2 ws1 ws2)⟩
    · exact h1.elim, rx⟩
theorem di_zip3 {p pos : Pos} (hm : X.mg "zip" = none) (ha : DA X W [a, b, c] tr) (hg : Gl X "zip" := by rfl) (hs : starEach [a, b, c] X.env = (false, eval a X.env) :: starEach [b, c] X.env := by rfl) (hpl : (backTo pos (starEach [b, c] X.env)).any (·.1) = false := by rfl) :
    DI X W (.Tuple elts kk tpos) (.Call (.Name "zip" p) [a, b, c] [] pos) (dZip3 tr) :=
  PI.imp (pi_zip3 hg hm ha hs hpl) fun σ H R ⟨δ, μ, Hc, Rd, Xd, s, rs, h, ri, rx⟩ => ⟨δ, μ, Hc, _, Xd, s, rs, h, fun ds μ1 h1 vs H1 Hc1 e1 s1 r1 => by
    unfold kZip3 at h1
    split at h1
    · obtain ⟨v, u, q, rfl, r, r', r''⟩ := r1.three'
      obtain ⟨S, T, U, hS, hT, hU, hR⟩ := OptS3.ex h1
      obtain ⟨k1, a1, rfl, ok1, ws1⟩ := src_of s1 r hS
      obtain ⟨k2, a2, rfl, ok2, ws2⟩ := src_of s1 r' hT
      obtain ⟨k3, a3, rfl, ok3, ws3⟩ := src_of s1 r'' hU
      obtain ⟨xs, hx, _⟩ := ws1 _ _ _ (Same.refl _) s1 ok1
      obtain ⟨ys, hy, _⟩ := ws2 _ _ _ (Same.refl _) s1 ok2
      obtain ⟨zs, hz, _⟩ := ws3 _ _ _ (Same.refl _) s1 ok3
      exact ⟨k1, k2, k3, a1, a2, a3, xs, ys, zs, rfl, hx, hy, hz, ri _ _ hR _ _ _ e1 s1 (wlk_zip3 ws1 ws2 ws3)⟩
    · exact h1.elim, rx⟩
end
end DL
set_option Elab.async false
set_option linter.all false
set_option maxRecDepth 100000
set_option maxHeartbeats 2000000
/-! The data layer: methods of lists, slices, list(range), and more built-ins. -/
namespace DL
open PySem PySem.Spec PyProof.Rows L2

theorem Ret.put {K : PySem.W.Frag} {H Hc : Hp} {μ : M} {Qd : QD} {Q : VK} {v : V} {d : D} {p : Addr} {c c' : C} {o : HO} (rt : Ret K Hc Qd Q) (s : Split K H Hc μ) (hp : μ p = some c) (ok : CellOk K Hc p c' o) (r : Rep K Hc v d) (q : Qd d (updM μ p c')) : Q v (upd H p o) :=
  rt _ _ q _ _ Hc (Same.refl _) (s.put hp ok) r
theorem Ret.putL {K : PySem.W.Frag} {H Hc : Hp} {μ : M} {Qd : QD} {Q : VK} {v : V} {d : D} {p : Addr} {c : C} {vs : List V} {ds : List D} (rt : Ret K Hc Qd Q) (s : Split K H Hc μ) (hp : μ p = some c) (ra : RepA K Hc vs ds) (r : Rep K Hc v d) (q : Qd d (updM μ p (.lst ds))) : Q v (upd H p (.lst vs)) :=
  rt.put s hp (c' := .lst ds) ⟨vs, rfl, ra⟩ r q
abbrev DRM := D → List D → M → QD → Prop
def LMt (K : PySem.W.Frag) (r : V → List V → Hp → VK → Prop) (g : DRM) : Prop := ∀ (v : V) (d : D) (vs : List V) (ds : List D) (H Hc : Hp) (μ : M) (Q : VK) (Qd : QD), Split K H Hc μ → Rep K Hc v d → RepA K Hc vs ds → g d ds μ Qd → Ret K Hc Qd Q → r v vs H Q
/-- a list stands there -/
def isL (μ : M) (d : D) : Prop := ∃ ds, view μ d = .lst ds
theorem isL_cell {μ : M} {p : Addr} {ds : List D} (h : μ p = some (.lst ds)) : isL μ (.raw (.ref p)) := ⟨ds, view_cell h⟩
theorem isL_lst {μ : M} {ds : List D} : isL μ (.lst ds) := ⟨ds, rfl⟩
def kM2 (g : DRM) (d : D) (Q : QD) (ds : List D) (μ : M) : Prop := g d ds μ Q
def kM1 (g : DRM) (tr : DTA) (W : XD) (δ : Sl) (Q : QD) (d : D) (μ : M) : Prop := isL μ d ∧ tr W δ μ (kM2 g d Q)
def dM (g : DRM) (to : DTE) (tr : DTA) (W : XD) (δ : Sl) (μ : M) (Q : QD) : Prop := to W δ μ (kM1 g tr W δ Q)
def kM0 (g : DRM) (Q : QD) (d : D) (μ : M) : Prop := isL μ d ∧ g d [] μ Q
def dM0 (g : DRM) (to : DTE) (W : XD) (δ : Sl) (μ : M) (Q : QD) : Prop := to W δ μ (kM0 g Q)
section
variable {X : Cx} {W : WX} {o e : Expr} {es : List Expr} {to : DTE} {tr : DTA} {name : Str} {apos cpos : Pos} {id : String} {r : V → List V → Hp → VK → Prop} {g : DRM}
theorem de_m (slot : Slot "list" name id) (hty : typeOf (.builtin id) = pure (.type "method_descriptor")) (hm : MtR X id r) (l : LMt X.K r g) (ho : DE X W o to) (ha : DA X W (e :: es) tr)
    (hbase : attributeBase o name X.env (eval o X.env) = eval o X.env := by rfl)
    (hfew : ((backTo cpos (starEach (e :: es) X.env)).all (fun x => !x.1) && (backToKw cpos (keywordEach [] X.env)).all (fun x => x.1.isSome)
      && decide ((e :: es).length + ([] : List Keyword).length + (if ([] : List Keyword).isEmpty then 0 else 1) < 30)) = true := by rfl)
    (hline : (apos.endLine == cpos.line) = true := by rfl) (hs : starEach (e :: es) X.env = (false, eval e X.env) :: starEach es X.env := by rfl) (hplain : (backTo cpos (starEach es X.env)).any (·.1) = false := by rfl) :
    DE X W (.Call (.Attribute o name apos) (e :: es) [] cpos) (dM g to tr) :=
  PE.imp (pe_bm F.plainAttrs_list slot hty hm ho ha hbase hfew hline hs hplain) fun σ H Q ⟨δ, μ, Hc, Qd, Xd, s, rs, h, rt, rx⟩ => ⟨δ, μ, Hc, _, Xd, s, rs, h, fun d μ1 h1 v H1 Hc1 e1 s1 r1 => by
    obtain ⟨⟨ds0, hv⟩, h2⟩ := h1
    obtain ⟨a, vs0, rfl, ha0, _⟩ := view_lst s1 r1 hv
    exact ⟨.inl ⟨rfl, vs0, SqL.of ha0⟩, δ, μ1, Hc1, _, Xd, s1, rs.mono e1, h2, fun ds μ2 h3 vs H2 Hc2 e2 s2 r2 => l _ d vs ds H2 Hc2 μ2 Q Qd s2 (r1.mono e2) r2 h3 (rt.mono (e1.trans e2)), rx.mono e1⟩, rx⟩
theorem de_m0 (slot : Slot "list" name id) (hty : typeOf (.builtin id) = pure (.type "method_descriptor")) (hm : MtR X id r) (l : LMt X.K r g) (ho : DE X W o to)
    (hbase : attributeBase o name X.env (eval o X.env) = eval o X.env := by rfl) (hline : (apos.endLine == cpos.line) = true := by rfl) :
    DE X W (.Call (.Attribute o name apos) [] [] cpos) (dM0 g to) :=
  PE.imp (pe_bm0 F.plainAttrs_list slot hty hm ho hbase hline) fun σ H Q ⟨δ, μ, Hc, Qd, Xd, s, rs, h, rt, rx⟩ => ⟨δ, μ, Hc, _, Xd, s, rs, h, fun d μ1 h1 v H1 Hc1 e1 s1 r1 => by
    obtain ⟨⟨ds0, hv⟩, h2⟩ := h1
    obtain ⟨a, vs0, rfl, ha0, _⟩ := view_lst s1 r1 hv
    exact ⟨.inl ⟨rfl, vs0, SqL.of ha0⟩, l _ d [] [] H1 Hc1 μ1 Q Qd s1 r1 .nil h2 (rt.mono e1)⟩, rx⟩
end
/-- a cell as a tracked list -/
theorem cell_lst {K : PySem.W.Frag} {H Hc : Hp} {μ : M} {p : Addr} {ds : List D} (s : Split K H Hc μ) (h : μ p = some (.lst ds)) : ∃ vs, H p = some (.lst vs) ∧ RepA K Hc vs ds := by
  obtain ⟨_, o, ho, vs, rfl, ra⟩ := s.cell p _ h
  exact ⟨vs, ho, ra⟩
theorem rep_raw {K : PySem.W.Frag} {H : Hp} {v u : V} (r : Rep K H v (.raw u)) : v = u := by cases r; rfl
def gAppend : DRM := fun d ds μ Q => match d, ds with
  | .raw (.ref p), [y] => ∃ xs, μ p = some (.lst xs) ∧ xs.length < sizeLine ∧ Q .non (updM μ p (.lst (xs ++ [y])))
  | _, _ => False
def gInsert : DRM := fun d ds μ Q => match d, ds with
  | .raw (.ref p), [.int i, y] => ∃ xs, μ p = some (.lst xs) ∧ xs.length < sizeLine ∧ 0 ≤ i ∧ i < 2 ^ 63 ∧ Q .non (updM μ p (.lst (xs.take i.toNat ++ [y] ++ xs.drop i.toNat)))
  | _, _ => False
def gExtend : DRM := fun d ds μ Q => match d, ds with
  | .raw (.ref p), [e] => ∃ xs zs, μ p = some (.lst xs) ∧ view μ e = .lst zs ∧ xs.length + zs.length ≤ sizeLine ∧ Q .non (updM μ p (.lst (xs ++ zs)))
  | _, _ => False
def gPop1 : DRM := fun d ds μ Q => match d, ds with
  | .raw (.ref p), [.int i] => ∃ xs k y, μ p = some (.lst xs) ∧ -(2 ^ 63) ≤ i ∧ i < 2 ^ 63 ∧ seqIndex? i xs.length = some k ∧ xs[k]? = some y ∧ Q y (updM μ p (.lst (xs.eraseIdx k)))
  | _, _ => False
def gPop0 : DRM := fun d ds μ Q => match d, ds with
  | .raw (.ref p), [] => ∃ xs y, μ p = some (.lst xs) ∧ xs[xs.length - 1]? = some y ∧ Q y (updM μ p (.lst xs.dropLast))
  | _, _ => False
def gReverse : DRM := fun d ds μ Q => match d, ds with
  | .raw (.ref p), [] => ∃ xs, μ p = some (.lst xs) ∧ Q .non (updM μ p (.lst xs.reverse))
  | _, _ => False
def gSort : DRM := fun d ds μ Q => match d, ds with
  | .raw (.ref p), [] => ∃ ns : List Int, μ p = some (.lst (ns.map D.int)) ∧ ∀ ns' : List Int, ns'.Perm ns → ns'.Pairwise (· ≤ ·) → Q .non (updM μ p (.lst (ns'.map D.int)))
  | _, _ => False
def gRemove : DRM := fun d ds μ Q => match d, ds with
  | .raw (.ref p), [.int k] => ∃ (ns : List Int) (j : Nat), μ p = some (.lst (ns.map D.int)) ∧ ns[j]? = some k ∧ (∀ m : Nat, m < j → ns[m]? ≠ some k) ∧ Q .non (updM μ p (.lst ((ns.eraseIdx j).map D.int)))
  | _, _ => False
def gCount : DRM := fun d ds μ Q => match ds with
  | [.int k] => ∃ ns : List Int, view μ d = .lst (ns.map D.int) ∧ Q (.int (ns.count k : Nat)) μ
  | _ => False
def gIndex : DRM := fun d ds μ Q => match ds with
  | [y] => ∃ xs j z, view μ d = .lst xs ∧ flatD y = true ∧ xs.all flatD = true ∧ xs[j]? = some z ∧ eqD z y = true ∧ (∀ (m : Nat) (z' : D), m < j → xs[m]? = some z' → eqD z' y = false) ∧ Q (.int (j : Nat)) μ
  | _ => False
theorem RepA.reverse {K : PySem.W.Frag} {H : Hp} : ∀ {vs : List V} {ds : List D}, RepA K H vs ds → RepA K H vs.reverse ds.reverse
  | _, _, .nil => .nil
  | _, _, .cons a r => by rw [List.reverse_cons, List.reverse_cons]; exact (RepA.reverse r).append (.cons a .nil)
theorem RepA.eraseIdx {K : PySem.W.Frag} {H : Hp} : ∀ {vs : List V} {ds : List D} (n : Nat), RepA K H vs ds → RepA K H (vs.eraseIdx n) (ds.eraseIdx n)
  | _, _, _, .nil => .nil
  | _, _, 0, .cons _ r => r
  | _, _, n + 1, .cons a r => .cons a (RepA.eraseIdx n r)
theorem RepA.dropLast {K : PySem.W.Frag} {H : Hp} {vs : List V} {ds : List D} (r : RepA K H vs ds) : RepA K H vs.dropLast ds.dropLast := by
  rw [List.dropLast_eq_take, List.dropLast_eq_take, r.length]
  exact r.take _
section
variable {K : PySem.W.Frag}
theorem l_append : LMt K rAppend gAppend := by
  intro v d vs ds H Hc μ Q Qd s r ra h rt
  unfold gAppend at h
  split at h
  · obtain ⟨xs, hp, hl, q⟩ := h
    obtain ⟨us, hu, ru⟩ := cell_lst s hp
    obtain ⟨y, rfl, ry⟩ := ra.one'
    cases rep_raw r
    exact ⟨_, us, y, rfl, rfl, hu, by rw [ru.length]; exact hl, rt.putL s hp (ru.append (.cons ry .nil)) .non q⟩
  · exact h.elim
theorem l_insert : LMt K (fun x vs H Q => ∃ (l : Addr) (xs : List V) (i : Int) (y : V), x = .ref l ∧ vs = [.int i, y] ∧ H l = some (.lst xs) ∧ xs.length < sizeLine ∧ 0 ≤ i ∧ i < 2 ^ 63 ∧
    Q .non (upd H l (.lst (xs.take i.toNat ++ [y] ++ xs.drop i.toNat)))) gInsert := by
  intro v d vs ds H Hc μ Q Qd s r ra h rt
  unfold gInsert at h
  split at h
  · obtain ⟨xs, hp, hl, h0, h1, q⟩ := h
    obtain ⟨us, hu, ru⟩ := cell_lst s hp
    obtain ⟨i', y, rfl, ri, ry⟩ := ra.two'
    cases rep_raw r
    cases ri
    exact ⟨_, us, _, y, rfl, rfl, hu, by rw [ru.length]; exact hl, h0, h1, rt.putL s hp (((ru.take _).append (.cons ry .nil)).append (ru.drop _)) .non q⟩
  · exact h.elim
theorem l_extend : LMt K rExtend gExtend := by
  intro v d vs ds H Hc μ Q Qd s r ra h rt
  unfold gExtend at h
  split at h
  · obtain ⟨xs, zs, hp, hz, hl, q⟩ := h
    obtain ⟨us, hu, ru⟩ := cell_lst s hp
    obtain ⟨y, rfl, ry⟩ := ra.one'
    cases rep_raw r
    obtain ⟨b, ws, rfl, hb, rb⟩ := view_lst s ry hz
    exact ⟨_, b, us, ws, rfl, rfl, hu, hb, by rw [ru.length, rb.length]; exact hl, rt.putL s hp (ru.append rb) .non q⟩
  · exact h.elim
theorem l_pop1 : LMt K rPopAt gPop1 := by
  intro v d vs ds H Hc μ Q Qd s r ra h rt
  unfold gPop1 at h
  split at h
  · obtain ⟨xs, k, y, hp, h1, h2, hk, hy, q⟩ := h
    obtain ⟨us, hu, ru⟩ := cell_lst s hp
    obtain ⟨i', rfl, ri⟩ := ra.one'
    cases rep_raw r
    cases ri
    obtain ⟨u, hu', ru'⟩ := ru.get hy
    exact ⟨_, us, _, k, u, rfl, rfl, hu, h1, h2, by rw [ru.length]; exact hk, hu', rt.putL s hp (ru.eraseIdx k) ru' q⟩
  · exact h.elim
theorem l_pop0 : LMt K rPop gPop0 := by
  intro v d vs ds H Hc μ Q Qd s r ra h rt
  unfold gPop0 at h
  split at h
  · obtain ⟨xs, y, hp, hy, q⟩ := h
    obtain ⟨us, hu, ru⟩ := cell_lst s hp
    cases rep_raw r
    cases ra
    rw [← ru.length] at hy
    obtain ⟨u, hu', ru'⟩ := ru.get hy
    exact ⟨_, us, u, rfl, rfl, hu, hu', rt.putL s hp (ru.dropLast) ru' q⟩
  · exact h.elim
theorem l_reverse : LMt K rReverse gReverse := by
  intro v d vs ds H Hc μ Q Qd s r ra h rt
  unfold gReverse at h
  split at h
  · obtain ⟨xs, hp, q⟩ := h
    obtain ⟨us, hu, ru⟩ := cell_lst s hp
    cases rep_raw r
    cases ra
    exact ⟨_, us, rfl, rfl, hu, rt.putL s hp (ru.reverse) .non q⟩
  · exact h.elim
theorem l_sort : LMt K rSortI gSort := by
  intro v d vs ds H Hc μ Q Qd s r ra h rt
  unfold gSort at h
  split at h
  · obtain ⟨ns, hp, q⟩ := h
    obtain ⟨us, hu, ru⟩ := cell_lst s hp
    cases rep_raw r
    cases ra
    rw [ru.ints] at hu
    exact ⟨_, ns, rfl, rfl, hu, fun ns' h1 h2 => rt.putL s hp (.ofInts ns') .non (q ns' h1 h2)⟩
  · exact h.elim
theorem l_remove : LMt K rRemI gRemove := by
  intro v d vs ds H Hc μ Q Qd s r ra h rt
  unfold gRemove at h
  split at h
  · obtain ⟨ns, j, hp, hj, hno, q⟩ := h
    obtain ⟨us, hu, ru⟩ := cell_lst s hp
    obtain ⟨i', rfl, ri⟩ := ra.one'
    cases rep_raw r
    cases ri
    rw [ru.ints] at hu
    exact ⟨_, ns, _, j, rfl, rfl, hu, hj, hno, rt.putL s hp (.ofInts _) .non q⟩
  · exact h.elim
theorem l_count : LMt K (rCntI K) gCount := by
  intro v d vs ds H Hc μ Q Qd s r ra h rt
  unfold gCount at h
  split at h
  · obtain ⟨ns, hv, q⟩ := h
    obtain ⟨a, us, rfl, hu, ru⟩ := view_lst s r hv
    obtain ⟨i', rfl, ri⟩ := ra.one'
    cases ri
    rw [ru.ints] at hu
    exact ⟨a, ns, _, rfl, rfl, SqL.of hu, rt.val s (.int _) q⟩
  · exact h.elim
theorem l_index : LMt K (rIndex K) gIndex := by
  intro v d vs ds H Hc μ Q Qd s r ra h rt
  unfold gIndex at h
  split at h
  · obtain ⟨xs, j, z, hv, h1, h2, hj, hz, hno, q⟩ := h
    obtain ⟨a, us, rfl, hu, ru⟩ := view_lst s r hv
    obtain ⟨y, rfl, ry⟩ := ra.one'
    obtain ⟨z1, z2⟩ := flat_all ry h1 ru h2
    obtain ⟨w, hw, rw'⟩ := ru.get hj
    have fl : ∀ {i : Nat} {x : D}, xs[i]? = some x → flatD x = true := fun e => List.all_eq_true.mp h2 _ (List.mem_of_getElem? e)
    refine ⟨a, us, y, j, w, rfl, rfl, SqL.of hu, (flat_rep ry h1).1, z1, hw, by rw [(flat_rep ry h1).2 rw' (fl hj)]; exact hz, fun m z' hm hz' => ?_, rt.val s (.int _) q⟩
    obtain ⟨d', hd', rd'⟩ := ru.getV hz'
    rw [(flat_rep ry h1).2 rd' (fl hd')]
    exact hno m d' hm hd'
  · exact h.elim
end
section
variable {X : Cx} {W : WX} {o e : Expr} {es : List Expr} {to : DTE} {tr : DTA} {apos cpos : Pos}
end

/-! ### slices -/
def cutD (xs : List D) (lo hi : Option Int) : List D := (xs.drop (HT.sIx xs.length 0 lo)).take (HT.sIx xs.length xs.length hi - HT.sIx xs.length 0 lo)
theorem cut_rep {K : PySem.W.Frag} {H : Hp} {vs : List V} {ds : List D} {lo hi : Option Int} (r : RepA K H vs ds) : RepA K H (cutV vs lo hi) (cutD ds lo hi) := by
  unfold cutV cutD
  rw [r.length]
  exact (r.drop _).take _
theorem cutD_all {xs : List D} {lo hi : Option Int} (h : HT.sIx xs.length 0 lo = 0 ∧ HT.sIx xs.length xs.length hi = xs.length) : cutD xs lo hi = xs := by
  unfold cutD
  rw [h.1, h.2, List.drop_zero, Nat.sub_zero, List.take_length]
abbrev DTO := XD → Sl → M → (Option Int → M → Prop) → Prop
def RetO (K : PySem.W.Frag) (Hc : Hp) (Qd : Option Int → M → Prop) (Q : Option Int → Hp → Prop) : Prop := ∀ b μ', Qd b μ' → ∀ H' Hc', Same Hc Hc' → Split K H' Hc' μ' → Q b H'
def upO (K : PySem.W.Frag) (W : WX) (t : DTO) : TO := fun σ H Q => ∃ δ μ Hc Qd Xd, Split K H Hc μ ∧ RepS K Hc σ δ ∧ t Xd δ μ Qd ∧ RetO K Hc Qd Q ∧ RetX K Hc Xd (fun cls d H => W cls d σ H)
def DO' (X : Cx) (W : WX) (e : Option Expr) (t : DTO) : Prop := PO X e (upO X.K W t)
def dNoPart (_ : XD) (_ : Sl) (μ : M) (Q : Option Int → M → Prop) : Prop := Q none μ
def kPart (Q : Option Int → M → Prop) (d : D) (μ : M) : Prop := match d with
  | .int i => Q (some i) μ
  | _ => False
def dPart (t : DTE) (W : XD) (δ : Sl) (μ : M) (Q : Option Int → M → Prop) : Prop := t W δ μ (kPart Q)
theorem PO.imp {X : Cx} {e : Option Expr} {t t' : TO} (h : PO X e t) (i : ∀ σ H Q, t' σ H Q → t σ H Q) : PO X e t' := ⟨fun pins s σ H Q I w => h.run pins s σ H Q I (i σ H Q w)⟩
abbrev DRS := D → Option Int → Option Int → M → QD → Prop
def kSl3 (g : DRS) (d : D) (lo : Option Int) (Q : QD) (hi : Option Int) (μ : M) : Prop := g d lo hi μ Q
def kSl2 (g : DRS) (d : D) (th : DTO) (W : XD) (δ : Sl) (Q : QD) (lo : Option Int) (μ : M) : Prop := th W δ μ (kSl3 g d lo Q)
def kSl1 (g : DRS) (tl th : DTO) (W : XD) (δ : Sl) (Q : QD) (d : D) (μ : M) : Prop := tl W δ μ (kSl2 g d th W δ Q)
def dSlG (g : DRS) (te : DTE) (tl th : DTO) (W : XD) (δ : Sl) (μ : M) (Q : QD) : Prop := te W δ μ (kSl1 g tl th W δ Q)
def gSl : DRS := fun d lo hi μ Q => match view μ d with
  | .lst xs => Q (.lst (cutD xs lo hi)) μ
  | .tup xs => Q (.tup (cutD xs lo hi)) μ
  | .str z => z.length ≤ sizeLine ∧ Q (.str (cutS z lo hi)) μ
  | _ => False
/-- .. of a list, a cell -/
def gSlC : DRS := fun d lo hi μ Q => match view μ d with
  | .lst xs => NewC (cutD xs lo hi) μ Q
  | _ => False
abbrev dSl := dSlG gSl
abbrev dSlC := dSlG gSlC
def rSlAll (K : PySem.W.Frag) : V → Option Int → Option Int → Hp → VK → Prop := fun x lo hi H Q => rSlL K x lo hi H Q ∨ (rSlA K x lo hi H Q ∨ rSlS x lo hi H Q)
def LSl (K : PySem.W.Frag) (r : V → Option Int → Option Int → Hp → VK → Prop) (g : DRS) : Prop := ∀ (v : V) (d : D) (lo hi : Option Int) (H Hc : Hp) (μ : M) (Q : VK) (Qd : QD), Split K H Hc μ → Rep K Hc v d → g d lo hi μ Qd → Ret K Hc Qd Q → r v lo hi H Q
theorem l_sl {K : PySem.W.Frag} : LSl K (rSlAll K) gSl := by
  intro v d lo hi H Hc μ Q Qd s r h rt
  unfold gSl at h
  split at h
  · rename_i xs e1
    obtain ⟨a, vs, rfl, ha, ra⟩ := view_lst s r e1
    exact .inl ⟨a, vs, rfl, SqL.of ha, rt.new s (cut_rep ra) h⟩
  · rename_i xs e1
    obtain ⟨a, vs, rfl, ha, ra⟩ := view_tup s r e1
    refine .inr (.inl ⟨a, vs, rfl, ha, fun hw => ?_, fun _ => rt.newT s (cut_rep ra) h⟩)
    rw [ra.length] at hw
    rw [cutD_all hw] at h
    cases r with
    | tup h3 h4 =>
      cases (show D.tup _ = D.tup _ from e1)
      exact rt.val s (.tup h3 h4) h
    | raw =>
      exfalso
      rcases view_refs e1 with ⟨es, _, h'⟩ | h' <;> cases h'
    | lst h3 h4 => cases e1
    | scr h3 => cases e1
    | emp h3 => cases e1
  · rename_i z e1
    exact .inr (.inr ⟨z, view_str r e1, h.1, rt.val s (.str _) h.2⟩)
  · exact h.elim
theorem l_slC {K : PySem.W.Frag} : LSl K (rSlAll K) gSlC := by
  intro v d lo hi H Hc μ Q Qd s r h rt
  unfold gSlC at h
  split at h
  · rename_i xs e1
    obtain ⟨a, vs, rfl, ha, ra⟩ := view_lst s r e1
    exact .inl ⟨a, vs, rfl, SqL.of ha, rt.newC s (cut_rep ra) h⟩
  · exact h.elim
section
variable {X : Cx} {W : WX} {a e : Expr} {lo hi : Option Expr} {te : DTE} {tl th : DTO} {g : DRS} {p2 pos : Pos}
theorem do_none : DO' X W none dNoPart := PO.imp po_none fun σ H Q ⟨δ, μ, Hc, Qd, Xd, s, rs, h, rt, rx⟩ => rt _ _ h _ _ (Same.refl _) s
theorem do_some (h : DE X W e te) : DO' X W (some e) (dPart te) := PO.imp (po_some h) fun σ H Q ⟨δ, μ, Hc, Qd, Xd, s, rs, h, rt, rx⟩ => ⟨δ, μ, Hc, _, Xd, s, rs, h, fun d μ1 h1 v H1 Hc1 e1 s1 r1 => by
    unfold kPart at h1
    split at h1
    · cases r1
      exact ⟨_, rfl, rt _ _ h1 _ _ e1 s1⟩
    · exact h1.elim, rx⟩
theorem de_slG (l : LSl X.K (rSlAll X.K) g) (he : DE X W e te) (hl : DO' X W lo tl) (hu : DO' X W hi th) : DE X W (.Subscript e (.Slice lo hi none p2) pos) (dSlG g te tl th) :=
  PE.imp (pe_slice (SlR.or sl_list (SlR.or sl_tupA sl_str)) he hl hu) fun σ H Q ⟨δ, μ, Hc, Qd, Xd, s, rs, h, rt, rx⟩ => ⟨δ, μ, Hc, _, Xd, s, rs, h, fun d μ1 h1 v H1 Hc1 e1 s1 r1 =>
    ⟨δ, μ1, Hc1, _, Xd, s1, rs.mono e1, h1, fun o1 μ2 h2 H2 Hc2 e2 s2 => ⟨δ, μ2, Hc2, _, Xd, s2, rs.mono (e1.trans e2), h2, fun o2 μ3 h3 H3 Hc3 e3 s3 =>
      l v d o1 o2 H3 Hc3 μ3 Q Qd s3 (r1.mono (e2.trans e3)) h3 (rt.mono ((e1.trans e2).trans e3)), rx.mono (e1.trans e2)⟩, rx.mono e1⟩, rx⟩
theorem de_sl (he : DE X W e te) (hl : DO' X W lo tl) (hu : DO' X W hi th) : DE X W (.Subscript e (.Slice lo hi none p2) pos) (dSl te tl th) := de_slG l_sl he hl hu
theorem de_slC (he : DE X W e te) (hl : DO' X W lo tl) (hu : DO' X W hi th) : DE X W (.Subscript e (.Slice lo hi none p2) pos) (dSlC te tl th) := de_slG l_slC he hl hu
end

/-! ### list(range(..)) -/
def kLR1 (g : List D → M → QD → Prop) (Q : QD) (d : D) (μ : M) : Prop := match d with
  | .int j => (-(2 ^ 62) ≤ j ∧ j ≤ 16777216) ∧ g (rangeD 0 j.toNat) μ Q
  | _ => False
def dLR1 (g : List D → M → QD → Prop) (t : DTE) (W : XD) (δ : Sl) (μ : M) (Q : QD) : Prop := t W δ μ (kLR1 g Q)
def kLR22 (g : List D → M → QD → Prop) (Q : QD) (d e : D) (μ : M) : Prop := match d, e with
  | .int i, .int j => (-(2 ^ 62) ≤ i ∧ i < 2 ^ 62 ∧ -(2 ^ 62) ≤ j ∧ j < 2 ^ 62 ∧ (j - i).toNat ≤ 16777216) ∧ g (rangeD i (j - i).toNat) μ Q
  | _, _ => False
def kLR21 (g : List D → M → QD → Prop) (tb : DTE) (W : XD) (δ : Sl) (Q : QD) (d : D) (μ : M) : Prop := tb W δ μ (kLR22 g Q d)
def dLR2 (g : List D → M → QD → Prop) (ta tb : DTE) (W : XD) (δ : Sl) (μ : M) (Q : QD) : Prop := ta W δ μ (kLR21 g tb W δ Q)
/-- what becomes of the new list: data, or a cell -/
def nLst (ds : List D) (μ : M) (Q : QD) : Prop := Q (.lst ds) μ
def LNew (K : PySem.W.Frag) (g : List D → M → QD → Prop) : Prop := ∀ {H Hc : Hp} {μ : M} {Qd : QD} {Q : VK} {vs : List V} {ds : List D}, Ret K Hc Qd Q → Split K H Hc μ → RepA K Hc vs ds → g ds μ Qd → ∀ p, H p = none → Q (.ref p) (upd H p (.lst vs))
theorem ln_lst {K : PySem.W.Frag} : LNew K nLst := fun rt s ra q => rt.new s ra q
theorem ln_cel {K : PySem.W.Frag} : LNew K NewC := fun rt s ra q => rt.newC s ra q
theorem rg_rep {K : PySem.W.Frag} {H : Hp} {a : Int} : ∀ n : Nat, RepA K H ((List.range n).map fun i => V.int (a + (i : Nat))) (rangeD a n)
  | 0 => .nil
  | n + 1 => by
    unfold rangeD
    rw [List.range_succ, List.map_append, List.map_append]
    exact (rg_rep n).append (.cons (.int _) .nil)
section
variable {X : Cx} {W : WX} {a b : Expr} {ta tb : DTE} {g : List D → M → QD → Prop} {p pos p' pos' : Pos}
theorem de_lr1 (ln : LNew X.K g) (hm : X.mg "list" = none) (hmr : X.mg "range" = none) (ha : DE X W a ta) (hc : X.calm = true := by rfl) (hg : Gl X "list" := by rfl) (hgr : Gl X "range" := by rfl)
    (na : starEach [a] X.env = (false, eval a X.env) :: starEach [] X.env := by rfl) (na' : starEach [.Call (.Name "range" p) [a] [] pos] X.env = (false, eval (.Call (.Name "range" p) [a] [] pos) X.env) :: starEach [] X.env := by rfl) :
    DE X W (.Call (.Name "list" p') [.Call (.Name "range" p) [a] [] pos] [] pos') (dLR1 g ta) :=
  PE.imp (pe_listRg hc hg hm (prg_1 hgr hmr ha na) na') fun σ H Q ⟨δ, μ, Hc, Qd, Xd, s, rs, h, rt, rx⟩ => ⟨δ, μ, Hc, _, Xd, s, rs, h, fun d μ1 h1 v H1 Hc1 e1 s1 r1 => by
    unfold kLR1 at h1
    split at h1
    · rename_i j
      cases r1
      refine ⟨j, rfl, ⟨by decide, by decide, h1.1.1, by omega, by rw [Int.sub_zero]; omega⟩, ?_⟩
      have := rg_rep (K := X.K) (H := Hc1) (a := 0) j.toNat
      unfold rgV
      rw [Int.sub_zero]
      exact ln (rt.mono e1) s1 this h1.2
    · exact h1.elim, rx⟩
theorem de_lr2 (ln : LNew X.K g) (hm : X.mg "list" = none) (hmr : X.mg "range" = none) (ha : DE X W a ta) (hb : DE X W b tb) (hc : X.calm = true := by rfl) (hg : Gl X "list" := by rfl) (hgr : Gl X "range" := by rfl)
    (na : starEach [a, b] X.env = (false, eval a X.env) :: starEach [b] X.env := by rfl) (nb : starEach [b] X.env = (false, eval b X.env) :: starEach [] X.env := by rfl) (hp : (backTo pos (starEach [b] X.env)).any (·.1) = false := by rfl)
    (na' : starEach [.Call (.Name "range" p) [a, b] [] pos] X.env = (false, eval (.Call (.Name "range" p) [a, b] [] pos) X.env) :: starEach [] X.env := by rfl) :
    DE X W (.Call (.Name "list" p') [.Call (.Name "range" p) [a, b] [] pos] [] pos') (dLR2 g ta tb) :=
  PE.imp (pe_listRg hc hg hm (prg_2 hgr hmr ha hb na nb hp) na') fun σ H Q ⟨δ, μ, Hc, Qd, Xd, s, rs, h, rt, rx⟩ => ⟨δ, μ, Hc, _, Xd, s, rs, h, fun d μ1 h1 v H1 Hc1 e1 s1 r1 =>
    ⟨δ, μ1, Hc1, _, Xd, s1, rs.mono e1, h1, fun d' μ2 h2 v' H2 Hc2 e2 s2 r2 => by
    unfold kLR22 at h2
    split at h2
    · rename_i i j
      cases r1
      cases r2
      refine ⟨i, j, rfl, rfl, ⟨h2.1.1, h2.1.2.1, h2.1.2.2.1, h2.1.2.2.2.1, h2.1.2.2.2.2⟩, ?_⟩
      exact ln (rt.mono (e1.trans e2)) s2 (rg_rep (K := X.K) (H := Hc2) (a := i) (j - i).toNat) h2.2
    · exact h2.elim, rx.mono e1⟩, rx⟩
end

/-! ### new lists as cells -/
def gRepC : DR2 := fun a b μ Q => match view μ a, view μ b with
  | .lst xs, .int k => (-(2 ^ 63) ≤ k ∧ k < 2 ^ 63 ∧ xs.length * k.toNat ≤ sizeLine) ∧ NewC (List.replicate k.toNat xs).flatten μ Q
  | _, _ => False
def gCatC : DR2 := fun a b μ Q => match view μ a, view μ b with
  | .lst xs, .lst ys => xs.length + ys.length ≤ sizeLine ∧ NewC (xs ++ ys) μ Q
  | _, _ => False
theorem l_repC {K : PySem.W.Frag} : LOp K (rMulAll K) gRepC := by
  intro x y d e H Hc μ Q Qd s rx ry h rt
  unfold gRepC at h
  split at h
  · rename_i xs k e1 e2
    obtain ⟨a, vs, rfl, ha, ra⟩ := view_lst s rx e1
    exact .inr (.inl ⟨a, k, vs, rfl, view_int ry e2, ha, h.1.1, h.1.2.1, by rw [ra.length]; exact h.1.2.2, rt.newC s (ra.rep _) h.2⟩)
  · exact h.elim
theorem l_catC {K : PySem.W.Frag} : LOp K (rAddAll K) gCatC := by
  intro x y d e H Hc μ Q Qd s rx ry h rt
  unfold gCatC at h
  split at h
  · rename_i xs ys e1 e2
    obtain ⟨a, vs, rfl, ha, ra⟩ := view_lst s rx e1
    obtain ⟨b, ws, rfl, hb, rb⟩ := view_lst s ry e2
    exact .inr (.inl ⟨a, b, vs, ws, rfl, rfl, ha, hb, by rw [ra.length, rb.length]; exact h.1, rt.newC s (ra.append rb) h.2⟩)
  · exact h.elim
section
variable {X : Cx} {W : WX} {a b : Expr} {ta tb : DTE} {pos : Pos}
theorem de_repC (ha : DE X W a ta) (hb : DE X W b tb) : DE X W (.BinOp a .Mult b pos) (dOp gRepC ta tb) := de_op op_mulAll l_repC ha hb
theorem de_catC (ha : DE X W a ta) (hb : DE X W b tb) : DE X W (.BinOp a .Add b pos) (dOp gCatC ta tb) := de_op op_addAll l_catC ha hb
end

/-! ### more built-ins -/
def gInt : DRC := fun ds μ Q => match ds with
  | [.int i] => Q (.int i) μ
  | [.bl b] => Q (.int (if b then 1 else 0)) μ
  | _ => False
theorem l_int {K : PySem.W.Frag} : LCall K (fun xs H Q => (∃ i, xs = [.int i] ∧ Q (.int i) H) ∨ ∃ k, xs = [.bl k] ∧ Q (.int (if k then 1 else 0)) H) gInt := by
  intro vs ds H Hc μ Q Qd s ra h rt
  unfold gInt at h
  split at h
  · obtain ⟨v, rfl, r⟩ := ra.one'
    cases r
    exact .inl ⟨_, rfl, rt.val s (.int _) h⟩
  · obtain ⟨v, rfl, r⟩ := ra.one'
    cases r
    exact .inr ⟨_, rfl, rt.val s (.int _) h⟩
  · exact h.elim
def gSorted : DRC := fun ds μ Q => match ds with
  | [d] => ∃ ns : List Int, view μ d = .lst (ns.map D.int) ∧ ∀ ns' : List Int, ns'.Perm ns → ns'.Pairwise (· ≤ ·) → Q (.lst (ns'.map D.int)) μ
  | _ => False
theorem l_sorted {K : PySem.W.Frag} : LCall K (rSortedI K) gSorted := by
  intro vs ds H Hc μ Q Qd s ra h rt
  unfold gSorted at h
  split at h
  · obtain ⟨v, rfl, r⟩ := ra.one'
    obtain ⟨ns, hv, q⟩ := h
    obtain ⟨a, ws, rfl, ha, rb⟩ := view_lst s r hv
    rw [rb.ints] at ha
    exact ⟨a, ns, rfl, SqL.of ha, fun ns' p h1 h2 hp => rt.new s (.ofInts ns') (q ns' h1 h2) p hp⟩
  · exact h.elim
def gMaxL : DRC := fun ds μ Q => match ds with
  | [d] => ∃ ns : List Int, view μ d = .lst (ns.map D.int) ∧ 0 < ns.length ∧ ∀ m, m ∈ ns → (∀ y, y ∈ ns → y ≤ m) → Q (.int m) μ
  | _ => False
def gMinL : DRC := fun ds μ Q => match ds with
  | [d] => ∃ ns : List Int, view μ d = .lst (ns.map D.int) ∧ 0 < ns.length ∧ ∀ m, m ∈ ns → (∀ y, y ∈ ns → m ≤ y) → Q (.int m) μ
  | _ => False
theorem l_maxL {K : PySem.W.Frag} : LCall K (rMax K) gMaxL := by
  intro vs ds H Hc μ Q Qd s ra h rt
  unfold gMaxL at h
  split at h
  · obtain ⟨v, rfl, r⟩ := ra.one'
    obtain ⟨ns, hv, h0, q⟩ := h
    obtain ⟨a, ws, rfl, ha, rb⟩ := view_lst s r hv
    rw [rb.ints] at ha
    exact ⟨a, ns, rfl, SqL.of ha, h0, fun m h1 h2 => rt.val s (.int _) (q m h1 h2)⟩
  · exact h.elim
theorem l_minL {K : PySem.W.Frag} : LCall K (rMin K) gMinL := by
  intro vs ds H Hc μ Q Qd s ra h rt
  unfold gMinL at h
  split at h
  · obtain ⟨v, rfl, r⟩ := ra.one'
    obtain ⟨ns, hv, h0, q⟩ := h
    obtain ⟨a, ws, rfl, ha, rb⟩ := view_lst s r hv
    rw [rb.ints] at ha
    exact ⟨a, ns, rfl, SqL.of ha, h0, fun m h1 h2 => rt.val s (.int _) (q m h1 h2)⟩
  · exact h.elim
/-! ### {} -/
def dEmp (_ : XD) (_ : Sl) (μ : M) (Q : QD) : Prop := Q .emp μ
theorem de_emp {X : Cx} {W : WX} {pos : Pos} : DE X W (.Dict [] [] pos) dEmp := PE.imp pe_dnewK fun σ H Q ⟨δ, μ, Hc, Qd, Xd, s, rs, h, rt, rx⟩ p hp =>
  rt _ _ h _ _ (upd Hc p (.dK [])) (same_new (s.fresh hp).2) (s.data hp) (.emp upd_same)
end DL
set_option Elab.async false
set_option linter.all false
set_option maxRecDepth 100000
set_option maxHeartbeats 2000000
/-! The data layer: slices with a step. -/
namespace DL
open PySem PySem.Spec PyProof.Rows L2

/-! ### t[::-1] of a tuple -/
theorem pick_rev (xs : Array Value) : ((List.range xs.size).filterMap fun (m : Nat) => xs[(((xs.size : Int) - 1) + (m : Int) * (-1)).toNat]?).toArray = xs.toList.reverse.toArray := by
  congr 1
  apply List.ext_getElem?
  intro i
  have e : ((List.range xs.size).filterMap fun (m : Nat) => xs[(((xs.size : Int) - 1) + (m : Int) * (-1)).toNat]?) = (List.range xs.size).pmap (fun m (h : m < xs.size) => xs[xs.size - 1 - m]) (fun m hm => List.mem_range.mp hm) := by
    have key : ∀ (l : List Nat) (hl : ∀ m ∈ l, m < xs.size), (l.filterMap fun (m : Nat) => xs[(((xs.size : Int) - 1) + (m : Int) * (-1)).toNat]?) = l.pmap (fun m (h : m < xs.size) => xs[xs.size - 1 - m]) hl := by
      intro l
      induction l with
      | nil => intro _; rfl
      | cons m l ih =>
        intro hl
        have hm := hl m List.mem_cons_self
        have e1 : (((xs.size : Int) - 1) + (m : Int) * (-1)).toNat = xs.size - 1 - m := by omega
        rw [List.filterMap_cons, e1, Array.getElem?_eq_getElem (by omega), List.pmap_cons]
        simp only
        rw [ih fun k hk => hl k (List.mem_cons_of_mem _ hk)]
    exact key _ _
  rw [e]
  by_cases hi : i < xs.size
  · rw [List.getElem?_eq_getElem (by simpa using hi), List.getElem?_eq_getElem (by simpa using hi)]
    simp
  · rw [List.getElem?_eq_none (by simpa using hi), List.getElem?_eq_none (by simpa using hi)]
section
variable {prog : Program} {w : World} {A : Around} {E : Value → Shared → Prop} {s : Shared}
theorem sliceApplied_rev {sl : Addr} {t : Tok} {n : Nat} {Q : Int × Int × Nat → Shared → Prop} (hs : s.heap.IsSliceOf sl .none .none (.int (-1) t))
    (h : Q ((n : Int) - 1, -1, n) s) : wpAny (model prog w) A (Builtin.Slice.sliceApplied (.ref sl) (pure (n : Int))) Q E s := by
  obtain ⟨os, hos, hcs, hds⟩ := id hs
  unfold Builtin.Slice.sliceApplied Builtin.Slice.sliceFields
  refine wpAny_bind (wpAny_bind (wpAny_field hos hds (x := .none) rfl (wpAny_bind (wpAny_field hos hds (x := .none) rfl (wpAny_bind (wpAny_field hos hds (x := .int (-1) t) rfl (wpAny_pure ?_)))))))
  refine wpAny_bind (slicePart_int ?_)
  show wpAny _ _ (if ((-1 : Int) == 0) = true then _ else _) _ _ s
  rw [if_neg (by decide)]
  refine wpAny_bind (slicePart_none (wpAny_bind (slicePart_none (wpAny_bind (wpAny_pure ?_)))))
  have e1 : Builtin.Slice.sliceAdjust none none (-1) (n : Int) = ((n : Int) - 1, -1) := by
    unfold Builtin.Slice.sliceAdjust
    simp
  have e2 : Builtin.Slice.slicePlaces ((n : Int) - 1) (-1) (-1) = n := by
    unfold Builtin.Slice.slicePlaces
    simp
    split <;> omega
  show wpAny _ _ (match Builtin.Slice.sliceAdjust none none (-1) (n : Int) with | (lo, hi) => pure (lo, (-1 : Int), Builtin.Slice.slicePlaces lo hi (-1))) _ _ s
  rw [e1]
  show wpAny _ _ (pure ((n : Int) - 1, (-1 : Int), Builtin.Slice.slicePlaces ((n : Int) - 1) (-1) (-1))) _ _ s
  rw [e2]
  exact wpAny_pure h
/-- t[::-1] of a tuple: __getitem__ of tuples, walked from its definition -/
theorem getItem_tuple_rev {t sl : Addr} {u : Tok} {items : Array Value} {Q : Value → Shared → Prop} (tup : IsTup s.heap t items) (cut : s.heap.IsSliceOf sl .none .none (.int (-1) u))
    (goal : Q (.ref s.heap.objs.size) { s with heap := s.heap.push { cls := .type "tuple", data := .seq items.toList.reverse.toArray } }) (few : items.size ≤ sizeLine) :
    wpAny (model prog w) A (getItem (.ref t) (.ref sl)) Q E s := by
  have tyT := tup.typeIs
  have tyS : s.TypeIs (.ref sl) "slice" := by obtain ⟨o, ho, hc, _⟩ := cut; exact ⟨o, ho, hc⟩
  have fits : sizeOk (.seq items.toList.reverse.toArray) := by
    show items.toList.reverse.toArray.size ≤ sizeLine
    simpa using few
  have body : ∀ {P : Value → Shared → Prop} {X : Value → Shared → Prop}, P (.ref s.heap.objs.size) { s with heap := s.heap.push { cls := .type "tuple", data := .seq items.toList.reverse.toArray } } → wpAny (model prog w) A (call (.builtin "tuple.__getitem__") [.ref t, .ref sl]) P X s := by
    intro P X done
    refine wpAny_call_entry PyProof.Rows.slot_tuple_getitem tyT PyProof.Rows.entry_tuple_getitem ?_ (PyProof.Rows.args_tuple_getitem _ _)
    unfold Builtin.«tuple.__getitem__»
    obtain ⟨ot, hot, hct, nt, hdt⟩ := id tup
    generalize hA : Builtin.Slice.sliceApplied = SA
    wp_walk
    subst hA
    rw [hdt]
    refine wpAny_pure (wpAny_pure (wpAny_bind (wpAny_typeOf tyS ?_)))
    rw [if_pos (by decide)]
    refine wpAny_bind (sliceApplied_rev cut ?_)
    have other : ((((items.size : Nat) : Int) - 1) == 0 && (-1 : Int) == 1 && items.size == items.size) = false := by simp
    dsimp only
    rw [other, if_neg Bool.false_ne_true, pick_rev]
    unfold Builtin.Tuple.tupleExact
    refine wpAny_bind (wpAny_newObj_type ?_ fits)
    exact wpAny_pure ⟨_, rfl, done⟩
  unfold getItem
  generalize hS : @callSpecial? = CS
  wp_walk
  subst hS
  exact wpAny_callSpecial?_slot tyT PyProof.Rows.slot_tuple_getitem (body (wpAny_pure goal))
end
/-- a[::-1]: a new list, a new tuple -/
def rRev (K : PySem.W.Frag) : V → Hp → VK → Prop := fun x H Q => ∃ a xs, x = .ref a ∧ ((SqL K H a xs ∧ ∀ p, H p = none → Q (.ref p) (upd H p (.lst xs.reverse))) ∨ (SqT K H a xs ∧ ∀ p, H p = none → Q (.ref p) (upd H p (.tup xs.reverse))))
section
variable {X : Cx} {e : Expr} {te : TE} {pos p1 p2 p3 : Pos} {j : Nat}
theorem sizeV {xs : List V} {its : List Value} (r : Vals xs its) : its.toArray.size = xs.length := by
  have := r.length
  simp [this]
/-- a new object at the top of the heap, told as the value -/
theorem layTop {pins : List (Addr × Obj)} {σ : L2.St} {H : Hp} {s : Shared} {Q : VK} {o : HO} {ob : Obj} (I : Inv X pins σ H s) (ok : ∀ H', ObjOk X.prog X.w H' (s.heap.push ob) s.heap.objs.size o) (goal : ∀ p, H p = none → Q (.ref p) (upd H p o)) :
    EP X pins σ Q (.ref s.heap.objs.size) { s with heap := s.heap.push ob } :=
  ⟨.ref _, _, I.laid (t' := s.toks) (o := o) (fun _ _ e => Heap.get?_push_of_some _ e) (Nat.le_refl _) (ok _), rfl, goal _ (I.hok.fresh (Nat.le_refl _))⟩
theorem pe_rev (he : PE X e te) : PE X (.Subscript e (.Slice none none (some (.UnaryOp .USub (.Constant (.int 1) j p1) p3)) p2) pos) (fun σ H Q => te σ H fun x H1 => rRev X.K x H1 Q) := by
  refine ⟨fun pins s σ H Q I h => ?_⟩
  refine Subscript_ (thn (he.run pins s σ H _ I h) fun v s1 ⟨x, H1, I1, r1, q1⟩ => ?_)
  have hm : PE X (.UnaryOp .USub (.Constant (.int 1) j p1) p3) _ := pe_un un_neg pe_int
  refine wpAny_Slice ?_
  rw [evalPart_none]
  refine wpAny_pure ?_
  refine wpAny_pure ?_
  rw [evalPart_some]
  refine thn (hm.run pins s1 σ H1 (fun y H2 => y = .int (-1) ∧ H2 = H1) I1 ⟨1, rfl, rfl, rfl⟩) fun vk s3 ⟨y, H3, I3, ry, ey, eH⟩ => ?_
  subst ey eH
  obtain ⟨tk, rfl⟩ := ry
  have I4 : Inv X pins σ H3 { s3 with heap := s3.heap.push { cls := .type "slice", data := .fields #[.none, .none, .int (-1) tk] } } := I3.kept (t' := s3.toks) fun b ob q => Heap.get?_push_of_some _ q
  show wpAny (model X.prog X.w) X.A (subscriptTail e (.Slice none none (some (.UnaryOp .USub (.Constant (.int 1) j p1) p3)) p2) v (.ref s3.heap.objs.size)) (EP X pins σ Q) X.xe { s3 with heap := s3.heap.push { cls := .type "slice", data := .fields #[.none, .none, .int (-1) tk] } }
  obtain ⟨a, xs, rfl, ⟨hq, q⟩ | ⟨hq, q⟩⟩ := q1
  · cases r1
    obtain ⟨its, r, p, hz⟩ := I4.list hq
    refine tail_any (ops := [.ref a, _]) p.isList.typeIs PySem.slot_list_getitem.lookup (wpAny_getItem_list_slice p.isList (Heap.IsSliceOf.new ..) .none .none (.int (-1) tk) (by decide) ?_ (by rw [sizeV r]; exact hz)) (by with_unfolding_all rfl)
    rw [PySem.W.krv_pick]
    exact layTop (o := .lst xs.reverse) I4 (fun _ => ⟨by rw [List.length_reverse]; exact hz, its.reverse, 0, r.reverse, Heap.get?_push_size _ rfl⟩) q
  · cases r1
    obtain ⟨its, r, p, hz⟩ := I4.tuple hq
    exact tail_any (ops := [.ref a, _]) p.typeIs PyProof.Rows.slot_tuple_getitem.lookup (getItem_tuple_rev p (Heap.IsSliceOf.new ..) (layTop (o := .tup xs.reverse) I4 (fun _ => ⟨by rw [List.length_reverse]; exact hz, its.reverse, r.reverse, IsTup.new _ _⟩) q) (by rw [sizeV r]; exact hz)) (by with_unfolding_all rfl)
end
/-! over data -/
def kRev (Q : QD) (d : D) (μ : M) : Prop := match view μ d with
  | .lst xs => Q (.lst xs.reverse) μ
  | .tup xs => Q (.tup xs.reverse) μ
  | _ => False
def dRev (t : DTE) (W : XD) (δ : Sl) (μ : M) (Q : QD) : Prop := t W δ μ (kRev Q)
section
variable {X : Cx} {W : WX} {e : Expr} {te : DTE} {pos p1 p2 p3 : Pos} {j : Nat}
theorem de_rev (he : DE X W e te) : DE X W (.Subscript e (.Slice none none (some (.UnaryOp .USub (.Constant (.int 1) j p1) p3)) p2) pos) (dRev te) :=
  PE.imp (pe_rev he) fun σ H Q ⟨δ, μ, Hc, Qd, Xd, s, rs, h, rt, rx⟩ => (show upE X.K W te σ H _ from ⟨δ, μ, Hc, _, Xd, s, rs, h, fun d μ1 h1 v H1 Hc1 e1 s1 r1 => by
    unfold kRev at h1
    split at h1
    · rename_i xs ev
      obtain ⟨a, vs, rfl, ha, ra⟩ := view_lst s1 r1 ev
      exact ⟨a, vs, rfl, .inl ⟨SqL.of ha, (rt.mono e1).new s1 ra.reverse h1⟩⟩
    · rename_i xs ev
      obtain ⟨a, vs, rfl, ha, ra⟩ := view_tup s1 r1 ev
      exact ⟨a, vs, rfl, .inr ⟨ha, (rt.mono e1).newT s1 ra.reverse h1⟩⟩
    · exact h1.elim, rx⟩)
end
end DL
set_option Elab.async false
set_option linter.all false
set_option maxRecDepth 100000
set_option maxHeartbeats 2000000
/-! The data layer: comprehensions (a list that is being made is hidden while its items are reckoned). -/
namespace DL
open PySem PySem.Spec L2

def hide (H : Hp) (p : Addr) : Hp := fun b => if b = p then none else H b
theorem hide_same {H : Hp} {p : Addr} : hide H p p = none := by unfold hide; rw [if_pos rfl]
theorem hide_ne {H : Hp} {p b : Addr} (h : b ≠ p) : hide H p b = H b := by unfold hide; rw [if_neg h]
theorem hide_some {H : Hp} {p b : Addr} {o : HO} (h : hide H p b = some o) : b ≠ p ∧ H b = some o := by
  unfold hide at h
  split at h
  · cases h
  · rename_i n; exact ⟨n, h⟩
section
variable {X : Cx} {pins : List (Addr × Obj)} {σ : L2.St} {H : Hp} {s : Shared} {p : Addr} {xs : List V}
theorem inv_hide (I : L2.Inv X pins σ H s) (hp : H p = some (.lst xs)) : ∃ its n, Vals xs its ∧ xs.length ≤ sizeLine ∧ s.heap.get? p = some { cls := .type "list", data := .seq its.toArray n } ∧ L2.Inv X ((p, { cls := .type "list", data := .seq its.toArray n }) :: pins) σ (hide H p) s := by
  obtain ⟨z, its, n, r, e⟩ := I.hok p _ hp
  refine ⟨its, n, r, z, e, ?_⟩
  have neO : ∀ b u, H b = some u → (∀ ys, u ≠ .lst ys) → hide H p b = some u := fun b u hb hu => by
    rw [hide_ne]
    · exact hb
    · intro z
      rw [z, hp] at hb
      exact hu xs (Option.some.inj hb).symm
  have hf : ∀ b ∈ X.fs, H b = none := fun b hb => by
    obtain ⟨_, o, ho, _⟩ := I.ok.funs.mem hb
    exact I.base.free b o ho (I.ok.frf b hb) fun z => I.ok.exfs b z hb
  have hn : ∀ b, H b = none → hide H p b = none := fun b hb => by
    by_cases e : b = p
    · rw [e]; exact hide_same
    · rw [hide_ne e]; exact hb
  refine ⟨I.ok, I.os, I.bare, ⟨I.base.keep, I.base.slot, fun b o e n hx => hn b (I.base.free b o e n hx), I.base.there, fun b ys e => neO _ _ (I.base.tups b ys e) (fun _ z => nomatch z), fun b o u e => neO _ _ (I.base.frzs b o u e) (fun _ z => nomatch z), fun b ps e => ?_⟩, I.loc, I.cell, hn _ I.free, fun x c e => hn _ (I.freeC x c e), fun q hq => ?_, fun b u e => ?_, I.len⟩
  · obtain ⟨more, q⟩ := I.base.tbls b ps e
    exact ⟨more, neO _ _ q (fun _ z => nomatch z)⟩
  · rcases List.mem_append.mp hq with hq | hq
    · obtain ⟨h1, h2, h3⟩ := I.pin q (List.mem_append_left _ hq)
      exact ⟨h1, hn _ h2, h3⟩
    · rcases List.mem_cons.mp hq with rfl | hq
      · refine ⟨e, hide_same, fun z => ?_, fun z => ?_, fun v z => nomatch z⟩
        · have := I.free
          rw [← z, hp] at this
          cases this
        · have := hf _ z
          rw [hp] at this
          cases this
      · obtain ⟨h1, h2, h3⟩ := I.pin q (List.mem_append_right _ hq)
        exact ⟨h1, hn _ h2, h3⟩
  · obtain ⟨_, e'⟩ := hide_some e
    exact (I.hok b u e').stay (fun _ _ _ q => q) (fun c q => neO _ _ q (fun _ z => nomatch z)) fun c ys q => neO _ _ q (fun _ z => nomatch z)
theorem inv_back {its : List Value} {n : Nat} {H' : Hp} {s' : Shared} {σ' : L2.St} (I : L2.Inv X pins σ H s) (hp : H p = some (.lst xs)) (r : Vals xs its) (z : xs.length ≤ sizeLine) (J : L2.Inv X ((p, { cls := .type "list", data := .seq its.toArray n }) :: pins) σ' H' s') :
    H' p = none ∧ L2.Inv X pins σ' (upd H' p (.lst xs)) s' := by
  obtain ⟨e, hn, _⟩ := J.pin (p, _) (List.mem_append_right _ List.mem_cons_self)
  refine ⟨hn, ?_⟩
  have neN : ∀ b, H b = none → b ≠ p := fun b hb z => by rw [z, hp] at hb; cases hb
  have neS : ∀ b u, H' b = some u → upd H' p (.lst xs) b = some u := fun b u hb => by
    rw [upd_ne]
    · exact hb
    · intro z
      have hn' : H' p = none := hn
      rw [z, hn'] at hb
      cases hb
  have up : ∀ b, b ≠ p → H' b = none → upd H' p (.lst xs) b = none := fun b hb h => by rw [upd_ne hb]; exact h
  refine ⟨J.ok, J.os, J.bare, ⟨J.base.keep, J.base.slot, fun b o e n hx => up b (neN b (I.base.free b o e n hx)) (J.base.free b o e n hx), J.base.there, fun b ys e => neS _ _ (J.base.tups b ys e), fun b o u e => neS _ _ (J.base.frzs b o u e), fun b ps e => ?_⟩, J.loc, J.cell, up _ (neN _ I.free) J.free, fun x c e => up _ (neN _ (I.freeC x c e)) (J.freeC x c e), fun q hq => ?_, fun b u e' => ?_, J.len⟩
  · obtain ⟨more, q⟩ := J.base.tbls b ps e
    exact ⟨more, neS _ _ q⟩
  · have hq' : q ∈ X.pn ++ ((p, { cls := .type "list", data := .seq its.toArray n }) :: pins) := by
      rcases List.mem_append.mp hq with h | h
      · exact List.mem_append_left _ h
      · exact List.mem_append_right _ (List.mem_cons_of_mem _ h)
    obtain ⟨h1, h2, h3⟩ := J.pin q hq'
    exact ⟨h1, up _ (neN _ (I.pin q hq).2.1) h2, h3⟩
  · by_cases hb : b = p
    · subst hb
      rw [upd_same] at e'
      cases e'
      exact ⟨z, its, n, r, e⟩
    · rw [upd_ne hb] at e'
      exact (J.hok b u e').stay (fun _ _ _ q => q) (fun c q => neS _ _ q) fun c ys q => neS _ _ q
/-- the list at p is set aside while an expression is reckoned -/
theorem pe_hide {e : Expr} {t : TE} (h : PE X e t) : PE X e (fun σ H Q => ∃ p xs, H p = some (.lst xs) ∧ t σ (hide H p) fun v H' => H' p = none → Q v (upd H' p (.lst xs))) := by
  refine ⟨fun pins s σ H Q I ⟨p, xs, hp, hw⟩ => ?_⟩
  obtain ⟨its, n, r, z, e, J⟩ := inv_hide I hp
  refine thn (h.run _ s σ _ _ J hw) fun v s1 ⟨x, H1, J1, r1, q1⟩ => ?_
  exact ⟨x, _, (inv_back I hp r z J1).2, r1, q1 (inv_back I hp r z J1).1⟩
theorem pts_hide {es : List Expr} {t : TT} (h : PTs X es t) : PTs X es (fun σ H Q => ∃ p xs, H p = some (.lst xs) ∧ t σ (hide H p) fun v H' => H' p = none → Q v (upd H' p (.lst xs))) := by
  refine ⟨fun pins s σ H Q I ⟨p, xs, hp, hw⟩ => ?_⟩
  obtain ⟨its, n, r, z, e, J⟩ := inv_hide I hp
  refine thn (h.run _ s σ _ _ J hw) fun v s1 ⟨H1, J1, q1⟩ => ?_
  exact ⟨_, (inv_back I hp r z J1).2, q1 (inv_back I hp r z J1).1⟩
theorem pg_hide {tg : Expr} {g : TG} (h : PG X tg g) : PG X tg (fun v σ H Q => ∃ p xs, H p = some (.lst xs) ∧ g v σ (hide H p) fun σ' H' => H' p = none → Q σ' (upd H' p (.lst xs))) := by
  refine ⟨fun pins s σ H v u Q I rv ⟨p, xs, hp, hw⟩ => ?_⟩
  obtain ⟨its, n, r, z, e, J⟩ := inv_hide I hp
  refine thn (h.run _ s σ _ v u _ J rv hw) fun _ s1 ⟨σ1, H1, J1, q1⟩ => ?_
  exact ⟨σ1, _, (inv_back I hp r z J1).2, q1 (inv_back I hp r z J1).1⟩
end
theorem split_hide {K : PySem.W.Frag} {H Hc : Hp} {μ : M} {p : Addr} {ds : List D} (s : Split K H Hc (updM μ p (.lst ds))) (hn : μ p = none) : Split K (hide H p) Hc μ ∧ ∃ xs, H p = some (.lst xs) ∧ RepA K Hc xs ds := by
  obtain ⟨h1, o, h2, xs, rfl, ra⟩ := s.cell p _ updM_same
  refine ⟨⟨fun q c e => ?_, fun q e => ?_⟩, xs, h2, ra⟩
  · have ne : q ≠ p := fun z => by rw [z, hn] at e; cases e
    rw [hide_ne ne]
    exact s.cell q c (by rw [updM_ne ne]; exact e)
  · by_cases ne : q = p
    · rw [ne, hide_same, h1]
    · rw [hide_ne ne]
      exact s.rest q (by rw [updM_ne ne]; exact e)
theorem split_back {K : PySem.W.Frag} {H Hc : Hp} {μ : M} {p : Addr} {ds : List D} {xs : List V} (s : Split K H Hc μ) (hp : H p = none) (ra : RepA K Hc xs ds) : μ p = none ∧ Split K (upd H p (.lst xs)) Hc (updM μ p (.lst ds)) := ⟨(s.fresh hp).1, s.new hp ⟨xs, rfl, ra⟩⟩
def hidE (t : TE) : TE := fun σ H Q => ∃ p xs, H p = some (.lst xs) ∧ t σ (hide H p) fun v H' => H' p = none → Q v (upd H' p (.lst xs))
def hidT' (t : TT) : TT := fun σ H Q => ∃ p xs, H p = some (.lst xs) ∧ t σ (hide H p) fun v H' => H' p = none → Q v (upd H' p (.lst xs))
def hidG (g : TG) : TG := fun v σ H Q => ∃ p xs, H p = some (.lst xs) ∧ g v σ (hide H p) fun σ' H' => H' p = none → Q σ' (upd H' p (.lst xs))
/-- one comprehension: what stands at its end is wanted by Qe -/
theorem lc_lift {K : PySem.W.Frag} {W : WX} {ti : DTI} {g : TG} {f : TGD} {tt : DTT} {te : DTE} {vs : List Nat} (lg : LG K g f) (sl : SlotsIn f vs) {σ : L2.St} {H Hc : Hp} {μ : M} {δ : Sl} {Xd : XD} {Q : VK} {Qe : List D → M → Prop}
    (s : Split K H Hc μ) (rs : RepS K Hc σ δ) (h : ti Xd δ μ (kLc f tt te vs Qe δ)) (rx : RetX K Hc Xd (fun cls d H => W cls d σ H))
    (fin : ∀ p acc μ' H' Hc', Same Hc Hc' → Split K H' Hc' (updM μ' p (.lst acc)) → μ' p = none → Qe acc μ' → Q (.ref p) H') : tLc (upI K W ti) (hidG g) (hidT' (upT K W0 tt)) (hidE (upE K W0 te)) vs σ H Q := by
  refine ⟨δ, μ, Hc, _, Xd, s, rs, h, fun S μ1 h1 J H1 Hc1 e1 s1 wk => ?_, rx⟩
  intro p hp
  obtain ⟨N, n0, ns⟩ := h1
  refine ⟨fun i m H' => i + m = S.ds.length ∧ ∃ μ' Hc' acc, Same Hc1 Hc' ∧ Split K H' Hc' (updM μ' p (.lst acc)) ∧ μ' p = none ∧ N i acc μ', ⟨S.ds.length, by omega, μ1, Hc1, [], Same.refl _, (split_back s1 hp .nil).2, (split_back s1 hp (.nil : RepA K Hc1 [] [])).1, n0⟩, ?_⟩
  rintro i m H2 ⟨hm, μ2, Hc2, acc, e2, s2, n2, l2⟩
  obtain ⟨ok2, l3, l4⟩ := ns i acc μ2 l2
  cases hd : S.ds[i]? with
  | none =>
    have hi : i = S.ds.length := by
      have := List.getElem?_eq_none_iff.mp hd
      omega
    exact .inl ⟨(wk i H2 Hc2 _ e2 s2 (S.mono _ _ _ n2 ok2)).2 (by omega), fin p acc μ2 H2 Hc2 (e1.trans e2) s2 n2 (l4 hi)⟩
  | some d =>
    obtain ⟨go, yl⟩ := (wk i H2 Hc2 _ e2 s2 (S.mono _ _ _ n2 ok2)).1 d hd
    refine .inr ⟨go, fun H' => ∃ μ' Hc' acc, Same Hc1 Hc' ∧ Split K H' Hc' (updM μ' p (.lst acc)) ∧ μ' p = none ∧ N (i + 1) acc μ', fun H' q => ?_, fun x H' hy => ?_⟩
    · have hlt : i < S.ds.length := (List.getElem?_eq_some_iff.mp hd).1
      exact ⟨m - 1, by omega, by omega, q⟩
    · obtain ⟨Hc3, e3, s3, r3⟩ := yl x H' hy
      obtain ⟨cs, hcs, hq⟩ := turnC.ex (l3 d hd)
      obtain ⟨s3h, xs, hx, ra⟩ := split_hide s3 n2
      have e03 := (e1.trans e2).trans e3
      have rs3 : RepS K Hc3 (wipe σ vs) (wipeD δ vs) := (rs.mono e03).wipe vs
      refine ⟨p, xs, hx, lg x d _ Hc3 μ2 _ _ cs s3h r3 hcs fun bs rb => ?_⟩
      intro hn4
      refine ⟨by
        rw [wipe_sets fun b hb => ?_]
        · have key : ∀ (τ : L2.St) (ws : List Nat), wipe (wipe τ ws) ws = wipe τ ws := fun τ ws => by
            have k2 : ∀ (us : List Nat), (∀ u ∈ us, u ∈ ws) → wipe (wipe τ us) ws = wipe τ ws := by
              intro us
              induction us with
              | nil => intro _; rfl
              | cons u us ih =>
                intro hu
                show wipe ((wipe τ us).set u none) ws = wipe τ ws
                rw [wipe_set (hu u List.mem_cons_self), ih fun z hz => hu z (List.mem_cons_of_mem _ hz)]
            exact k2 ws fun _ h => h
          exact key σ vs
        · have z := rb.fst
          have m1 : b.1 ∈ bs.map (·.1) := List.mem_map.mpr ⟨b, hb, rfl⟩
          rw [z] at m1
          obtain ⟨c, hc, ec⟩ := List.mem_map.mp m1
          rw [← ec]
          exact sl μ2 d cs hcs c hc, ?_⟩
      -- the tests
      refine ⟨p, xs, upd_same, sets cs (wipeD δ vs), μ2, Hc3, _, XF, ?_, RepS.sets rb rs3, hq, ?_, fun _ _ _ z => z.elim⟩
      · have e : hide (upd (hide H' p) p (.lst xs)) p = hide H' p := by
          funext b
          by_cases hb : b = p
          · rw [hb, hide_same, hide_same]
          · rw [hide_ne hb, upd_ne hb]
        rw [e]
        exact s3h
      · intro b μ4 h4 H4 Hc4 e4 s4 hn5
        cases b with
        | true =>
          rw [if_pos rfl]
          refine ⟨p, xs, upd_same, sets cs (wipeD δ vs), μ4, Hc4, _, XF, ?_, (RepS.sets rb rs3).mono e4, h4, ?_, fun _ _ _ z => z.elim⟩
          · have e : hide (upd H4 p (.lst xs)) p = H4 := by
              funext b
              by_cases hb : b = p
              · rw [hb, hide_same, hn5]
              · rw [hide_ne hb, upd_ne hb]
            rw [e]
            exact s4
          · intro y μ5 h5 v H5 Hc5 e5 s5 r5 hn6
            refine ⟨xs, upd_same, by rw [ra.length]; exact h5.1, μ5, Hc5, acc ++ [y], ((e2.trans e3).trans e4).trans e5, ?_, (s5.fresh hn6).1, h5.2⟩
            have e : upd (upd H5 p (.lst xs)) p (.lst (xs ++ [v])) = upd H5 p (.lst (xs ++ [v])) := upd_upd
            rw [e]
            exact (split_back s5 hn6 ((ra.mono (e4.trans e5)).append (RepA.one r5))).2
        | false =>
          rw [if_neg Bool.false_ne_true]
          exact ⟨μ4, Hc4, acc, (e2.trans e3).trans e4, (split_back s4 hn5 (ra.mono e4)).2, (s4.fresh hn5).1, h4⟩
def DTs (X : Cx) (W : WX) (es : List Expr) (t : DTT) : Prop := PTs X es (upT X.K W t)
section
variable {X : Cx} {W : WX} {elt tg iter c : Expr} {ifs : List Expr} {scope : Scope} {own : List (Str × Nat)} {pos : Pos} {ti : DTI} {g : TG} {f : TGD} {tt : DTT} {te : DTE}
theorem dts_nil : DTs X W [] dYes := ⟨fun pins s σ H Q I h => pts_nil.run pins s σ H Q I (let ⟨δ, μ, Hc, Qd, Xd, s, rs, h, rt, rx⟩ := h; rt _ _ h _ Hc (Same.refl _) s)⟩
theorem dts_one (h : DT X W c tt) : DTs X W [c] tt := pts_one h
theorem fin_data {K : PySem.W.Frag} {Hc : Hp} {Qd : QD} {Q : VK} (rt : Ret K Hc Qd Q) : ∀ p acc μ' H' Hc', Same Hc Hc' → Split K H' Hc' (updM μ' p (.lst acc)) → μ' p = none → Qd (.lst acc) μ' → Q (.ref p) H' := fun p acc μ' H' Hc' e s n q => by
  obtain ⟨h1, o, h2, xs, rfl, ra⟩ := s.cell p _ updM_same
  obtain ⟨Hc2, e2, s2, hh⟩ := s.sub (Sub.new n)
  exact rt _ _ q _ _ Hc2 (e.trans e2) s2 (.lst (by rw [hh p n]; exact h2) (ra.mono e2))
theorem fin_cell {K : PySem.W.Frag} {Hc : Hp} {Qd : QD} {Q : VK} (rt : Ret K Hc Qd Q) : ∀ p acc μ' H' Hc', Same Hc Hc' → Split K H' Hc' (updM μ' p (.lst acc)) → μ' p = none → (∀ p, μ' p = none → Qd (.raw (.ref p)) (updM μ' p (.lst acc))) → Q (.ref p) H' := fun p acc μ' H' Hc' e s n q => rt _ _ (q p n) _ _ _ e s (.raw _)
theorem de_lc (hN : X.N.Nodup) (hi : DI X W tg iter ti) (ok : BlkOk X.N X.env.scope scope own) (lg : LG X.K g f) (sl : SlotsIn f (own.map (·.2)))
    (hg : ∀ (s : Shared) (H : Hp) (C : Addr) (cl : List (Str × Addr)) (fp : List Addr), PG (X.blk s H scope (compEnvC scope cl C X.env) fp) tg g) (ht : ∀ (s : Shared) (H : Hp) (C : Addr) (cl : List (Str × Addr)) (fp : List Addr), DTs (X.blk s H scope (compEnvC scope cl C X.env) fp) W0 ifs tt)
    (he : ∀ (s : Shared) (H : Hp) (C : Addr) (cl : List (Str × Addr)) (fp : List Addr), DE (X.blk s H scope (compEnvC scope cl C X.env) fp) W0 elt te) (hc : X.calm = true := by rfl) (hs : ∀ x, foldedSetIterable iter X.env x = pure x := by intro _; rfl) :
    DE X W (.ListComp elt [⟨tg, iter, ifs, 0⟩] scope pos) (dLc ti f tt te (own.map (·.2))) :=
  PE.imp (pe_lc (g := hidG g) (tt := hidT' (upT X.K W0 tt)) (te := hidE (upE X.K W0 te)) hc hN hi ok (fun s H C cl fp => pg_hide (hg s H C cl fp)) (fun s H C cl fp => pts_hide (t := upT X.K W0 tt) (ht s H C cl fp)) (fun s H C cl fp => pe_hide (t := upE X.K W0 te) (he s H C cl fp)) hs) fun σ H Q ⟨δ, μ, Hc, Qd, Xd, s, rs, h, rt, rx⟩ => lc_lift lg sl s rs h rx (fin_data rt)
theorem de_lcC (hN : X.N.Nodup) (hi : DI X W tg iter ti) (ok : BlkOk X.N X.env.scope scope own) (lg : LG X.K g f) (sl : SlotsIn f (own.map (·.2)))
    (hg : ∀ (s : Shared) (H : Hp) (C : Addr) (cl : List (Str × Addr)) (fp : List Addr), PG (X.blk s H scope (compEnvC scope cl C X.env) fp) tg g) (ht : ∀ (s : Shared) (H : Hp) (C : Addr) (cl : List (Str × Addr)) (fp : List Addr), DTs (X.blk s H scope (compEnvC scope cl C X.env) fp) W0 ifs tt)
    (he : ∀ (s : Shared) (H : Hp) (C : Addr) (cl : List (Str × Addr)) (fp : List Addr), DE (X.blk s H scope (compEnvC scope cl C X.env) fp) W0 elt te) (hc : X.calm = true := by rfl) (hs : ∀ x, foldedSetIterable iter X.env x = pure x := by intro _; rfl) :
    DE X W (.ListComp elt [⟨tg, iter, ifs, 0⟩] scope pos) (dLcC ti f tt te (own.map (·.2))) :=
  PE.imp (pe_lc (g := hidG g) (tt := hidT' (upT X.K W0 tt)) (te := hidE (upE X.K W0 te)) hc hN hi ok (fun s H C cl fp => pg_hide (hg s H C cl fp)) (fun s H C cl fp => pts_hide (t := upT X.K W0 tt) (ht s H C cl fp)) (fun s H C cl fp => pe_hide (t := upE X.K W0 te) (he s H C cl fp)) hs) fun σ H Q ⟨δ, μ, Hc, Qd, Xd, s, rs, h, rt, rx⟩ => lc_lift lg sl s rs h rx (fin_cell rt)
/-- y = [..] -/
theorem ds_setLc {i : Nat} {y : Str} {py spos : Pos} (hN : X.N.Nodup) (hi : DI X W tg iter ti) (ok : BlkOk X.N X.env.scope scope own) (lg : LG X.K g f) (sl : SlotsIn f (own.map (·.2)))
    (hg : ∀ (s : Shared) (H : Hp) (C : Addr) (cl : List (Str × Addr)) (fp : List Addr), PG (X.blk s H scope (compEnvC scope cl C X.env) fp) tg g) (ht : ∀ (s : Shared) (H : Hp) (C : Addr) (cl : List (Str × Addr)) (fp : List Addr), DTs (X.blk s H scope (compEnvC scope cl C X.env) fp) W0 ifs tt)
    (he : ∀ (s : Shared) (H : Hp) (C : Addr) (cl : List (Str × Addr)) (fp : List Addr), DE (X.blk s H scope (compEnvC scope cl C X.env) fp) W0 elt te) (hsw : swapsWith (.ListComp elt [⟨tg, iter, ifs, 0⟩] scope pos) (some (.Name y py)) spos.line X.env = pure true)
    (hy : X.N[i]? = some y := by rfl) (hyl : X.env.scope.names.lookup y = some .local := by rfl) (hc : X.calm = true := by rfl) (hs : ∀ x, foldedSetIterable iter X.env x = pure x := by intro _; rfl) :
    DS X W (.Assign [.Name y py] (.ListComp elt [⟨tg, iter, ifs, 0⟩] scope pos) spos) (dSet i (dLc ti f tt te (own.map (·.2)))) :=
  PS.imp (ps_setLc (g := hidG g) (tt := hidT' (upT X.K W0 tt)) (te := hidE (upE X.K W0 te)) hc hN hy hyl hsw hi ok (fun s H C cl fp => pg_hide (hg s H C cl fp)) (fun s H C cl fp => pts_hide (t := upT X.K W0 tt) (ht s H C cl fp)) (fun s H C cl fp => pe_hide (t := upE X.K W0 te) (he s H C cl fp)) hs) fun D σ H ⟨δ, μ, Hc, Dd, s, rs, h, rt⟩ =>
    lc_lift (Q := fun x H1 => gName i x σ H1 D.nx) lg sl s rs h (rt.xc.at rs) (fin_data (Qd := fun d μ1 => Dd.nx (δ.set i (some d)) μ1) fun d μ1 h1 v H1 Hc1 e1 s1 r1 => rt.nx _ _ h1 _ _ _ e1 s1 ((rs.mono e1).set i r1))
theorem ds_setLcC {i : Nat} {y : Str} {py spos : Pos} (hN : X.N.Nodup) (hi : DI X W tg iter ti) (ok : BlkOk X.N X.env.scope scope own) (lg : LG X.K g f) (sl : SlotsIn f (own.map (·.2)))
    (hg : ∀ (s : Shared) (H : Hp) (C : Addr) (cl : List (Str × Addr)) (fp : List Addr), PG (X.blk s H scope (compEnvC scope cl C X.env) fp) tg g) (ht : ∀ (s : Shared) (H : Hp) (C : Addr) (cl : List (Str × Addr)) (fp : List Addr), DTs (X.blk s H scope (compEnvC scope cl C X.env) fp) W0 ifs tt)
    (he : ∀ (s : Shared) (H : Hp) (C : Addr) (cl : List (Str × Addr)) (fp : List Addr), DE (X.blk s H scope (compEnvC scope cl C X.env) fp) W0 elt te) (hsw : swapsWith (.ListComp elt [⟨tg, iter, ifs, 0⟩] scope pos) (some (.Name y py)) spos.line X.env = pure true)
    (hy : X.N[i]? = some y := by rfl) (hyl : X.env.scope.names.lookup y = some .local := by rfl) (hc : X.calm = true := by rfl) (hs : ∀ x, foldedSetIterable iter X.env x = pure x := by intro _; rfl) :
    DS X W (.Assign [.Name y py] (.ListComp elt [⟨tg, iter, ifs, 0⟩] scope pos) spos) (dSet i (dLcC ti f tt te (own.map (·.2)))) :=
  PS.imp (ps_setLc (g := hidG g) (tt := hidT' (upT X.K W0 tt)) (te := hidE (upE X.K W0 te)) hc hN hy hyl hsw hi ok (fun s H C cl fp => pg_hide (hg s H C cl fp)) (fun s H C cl fp => pts_hide (t := upT X.K W0 tt) (ht s H C cl fp)) (fun s H C cl fp => pe_hide (t := upE X.K W0 te) (he s H C cl fp)) hs) fun D σ H ⟨δ, μ, Hc, Dd, s, rs, h, rt⟩ =>
    lc_lift (Q := fun x H1 => gName i x σ H1 D.nx) lg sl s rs h (rt.xc.at rs) (fin_cell (Qd := fun d μ1 => Dd.nx (δ.set i (some d)) μ1) fun d μ1 h1 v H1 Hc1 e1 s1 r1 => rt.nx _ _ h1 _ _ _ e1 s1 ((rs.mono e1).set i r1))
end
end DL
set_option Elab.async false
set_option linter.all false
set_option maxRecDepth 100000
set_option maxHeartbeats 2000000
/-! The data layer: errors, defs. -/
namespace DL
open PySem PySem.Spec L2
section
variable {X : Cx} {W : WX} {e : Expr} {pos p : Pos}
/-- raise C('..') -/
def dRaise (C : Addr) (E : DEnds) (δ : Sl) (μ : M) : Prop := E.xc δ (.ref C) none μ
theorem ds_raise {C : Addr} (tk : Takes X W) (he : PMk X e (fun _ H Q => Q (.ref C) none H)) (hc : X.calm = true := by rfl) : DS X W (.Raise (some e) none pos) (dRaise C) :=
  PS.imp (ps_raise hc tk he) fun D σ H ⟨δ, μ, Hc, Dd, s, rs, h, rt⟩ => rt.xc δ _ none μ h σ none H Hc (Same.refl _) s rs True.intro
/-- try: body except x as n: suite -/
def kUnset (i : Nat) (R : Sl → M → Prop) (δ : Sl) (μ : M) : Prop := R (δ.set i none) μ
def suiteE (i : Nat) (E : DEnds) : DEnds := { nx := kUnset i E.nx, rt := E.rt, bk := kUnset i E.bk, ct := kUnset i E.ct, xc := fun _ => XF }
def kTry (K : PySem.W.Frag) (c : Value) (i : Nat) (ts : Addr → DTS) (E : DEnds) (δ : Sl) (cls : Value) (fs : Option (List (Str × D))) (μ : M) : Prop := ∃ b, PySem.W.exmOne K cls c = some b ∧
  (b = true → ∀ a, μ a = none → ts a (suiteE i E) (δ.set i (some (.raw (.ref a)))) μ) ∧ (b = false → E.xc δ cls fs μ)
def dTryAs (K : PySem.W.Frag) (c : Value) (i : Nat) (tb : DTS) (ts : Addr → DTS) (E : DEnds) (δ : Sl) (μ : M) : Prop := tb { E with xc := kTry K c i ts E } δ μ
theorem ds_tryAs {x n : Str} {c : Value} {i : Nat} {body suite : List Stmt} {b0 : Stmt} {np pos' : Pos} {tb : DTS} {ts : Addr → DTS} (hN : X.N.Nodup) (hc : Names X x c) (tk : Takes X W)
    (hb : ∀ (W' : WX) (pn : List (Addr × Obj)) (xe : Value → Shared → Prop), Takes (X.tr pn xe) W' → PassesOwn (model X.prog X.w) X.A X.env xe → DSs (X.tr pn xe) W' body tb)
    (hsu : ∀ (a : Addr) (pn : List (Addr × Obj)), DSs (X.suite a pn) W0 (b0 :: suite) (ts a)) (hs : X.stack = X.env :: X.outer := by rfl) (hf : X.env.frame = some X.env.locals := by rfl) (hi : X.N[i]? = some n := by rfl) (hln : X.env.kindOf n = some .local := by rfl) :
    DS X W (.Try body [.ExceptHandler (some (.Name x np)) (some n) (b0 :: suite) pos'] [] [] pos) (dTryAs X.K c i tb ts) :=
  PS.imp (ps_try_as (i := i) (tb := fun W' => upS X.K W' tb) (ts := fun a _ _ => upS X.K W0 (ts a)) (Wout := W) hs hf hN hi hln hc tk (fun W' pn xe tk' po => hb W' pn xe tk' po) (fun a oe cls d pn hz hf => hsu a ((a, oe) :: pn)))
    fun D σ H ⟨δ, μ, Hc, Dd, s, rs, h, rt⟩ => ⟨δ, μ, Hc, _, s, rs, h, ⟨rt.nx, rt.rt, rt.bk, rt.ct, fun δ1 cls fs μ1 hx σ1 d H1 Hc1 e1 s1 rs1 xo => by
      obtain ⟨b, hb, h1, h2⟩ := hx
      refine ⟨b, hb, fun hb1 a ha => ?_, fun hb0 => rt.xc _ _ _ _ (h2 hb0) _ _ _ _ e1 s1 rs1 xo⟩
      refine ⟨_, μ1, Hc1, _, s1, rs1.set i (.raw _), h1 hb1 a (s1.fresh ha).1, ?_⟩
      refine ⟨fun δ2 μ2 q2 σ2 H2 Hc2 e2 s2 rs2 => ?_, rt.rt.mono e1, fun δ2 μ2 q2 σ2 H2 Hc2 e2 s2 rs2 => ?_, fun δ2 μ2 q2 σ2 H2 Hc2 e2 s2 rs2 => ?_, fun _ _ _ _ z => z.elim⟩
      · exact rt.nx _ _ q2 _ _ _ (e1.trans e2) s2 (rs2.unset i none)
      · exact rt.bk _ _ q2 _ _ _ (e1.trans e2) s2 (rs2.unset i none)
      · exact rt.ct _ _ q2 _ _ _ (e1.trans e2) s2 (rs2.unset i none)⟩⟩
end

/-! ### defs -/
def Fin (Q : QD) : QD := fun d μ => ∃ μ', Sub μ' μ ∧ Q d μ'
theorem Fin.of {Q : QD} {d : D} {μ : M} (h : Q d μ) : Fin Q d μ := ⟨μ, Sub.refl _, h⟩
def FinX (Xd : XD) : XD := fun c f μ => ∃ μ', Sub μ' μ ∧ Xd c f μ'
def kEnd (Q : QD) (_ : Sl) (μ : M) : Prop := Fin Q .non μ
def ends (Q : QD) (Xd : XD) : DEnds := { nx := kEnd Q, rt := Fin Q, bk := fun _ _ => False, ct := fun _ _ => False, xc := fun _ => Xd }
def startD (N : List Str) (ds : List D) : Sl := ds.map some ++ List.replicate (N.length - ds.length) none
theorem ret_fin {K : PySem.W.Frag} {Hc : Hp} {Qd : QD} {Q : VK} (rt : Ret K Hc Qd Q) : Ret K Hc (Fin Qd) Q := fun d μ ⟨μ', sb, h⟩ v H' Hc' e s r => by
  obtain ⟨Hc2, e2, s2, _⟩ := s.sub sb
  exact rt d μ' h v H' Hc2 (e.trans e2) s2 (r.mono e2)
theorem retX_fin {K : PySem.W.Frag} {Hc : Hp} {Xd : XD} {E : XK} (rt : RetX K Hc Xd E) : RetX K Hc (FinX Xd) E := fun c f μ ⟨μ', sb, h⟩ d H' Hc' e s x => by
  obtain ⟨Hc2, e2, s2, _⟩ := s.sub sb
  exact rt c f μ' h d H' Hc2 (e.trans e2) s2 (x.mono e2)
theorem repS_start {K : PySem.W.Frag} {Hc : Hp} {N : List Str} {vs : List V} {ds : List D} (r : RepA K Hc vs ds) : RepS K Hc (L2.start N vs) (startD N ds) := by
  unfold L2.start startD
  refine ⟨by simp [r.length], fun i d h => ?_⟩
  by_cases hi : i < ds.length
  · rw [List.getElem?_append_left (by rw [List.length_map]; exact hi), List.getElem?_map] at h
    cases e : ds[i]? with
    | none => rw [e] at h; cases h
    | some d' =>
      rw [e] at h
      cases h
      obtain ⟨v, h1, h2⟩ := r.get e
      exact ⟨v, by rw [List.getElem?_append_left (by rw [List.length_map, r.length]; exact hi), List.getElem?_map, h1]; rfl, h2⟩
  · rw [List.getElem?_append_right (by rw [List.length_map]; omega)] at h
    rw [List.getElem?_replicate] at h
    split at h
    · cases h
    · cases h
section
variable {P : Program} {w : World} {K : PySem.W.Frag} {mg : Str → Option Value} {base : Heap}
/-- a def from which no error comes -/
theorem dfn0 {x qual : Str} {st : Stmt} {f : Addr} {fd : FuncData} {N ps : List Str} {k : Nat} {c : Ct} {t : DTS} (F : Fun K x qual st f fd) (hm : mg x = some (.ref f)) (bn : Binds K fd ps []) (S : FnScope N ps (defScope st)) (len : ∀ ds μ Q Xd, c ds μ Q Xd → ds.length = ps.length)
    (hd : ∀ (cdv : Value) (A : Around) (outer : List Env) (s : Shared) (H : Hp) (E : XK), Room k (A.deeper (PyProof.Rows.envOfC qual (defScope st) s.heap.objs.size f cdv)) → DSs (cxOf CX0 P w K mg base N qual (defScope st) f cdv A outer s H E).nox W0 (defBody st) t)
    (hb : ∀ ds μ Q Xd, c ds μ Q Xd → t (ends Q XF) (startD N ds) μ) : Dfn P w K mg base CX0 x qual st (k + 1) ps c := by
  refine ⟨f, fd, F, hm, ?_, bn⟩
  refine F.ok S (fun vs H Q E ⟨ds, μ, Hc, Qd, Xd, s, ra, h, rt, rx⟩ => by rw [ra.length]; exact len _ _ _ _ h) (fun cdv A outer s H vs Q E hr h => ?_)
  obtain ⟨ds, μ, Hc, Qd, Xd, sp, ra, h, rt, rx⟩ := h
  refine ⟨_, hd cdv A outer s H E hr, _, μ, Hc, _, sp, repS_start ra, hb _ _ _ _ h, ?_⟩
  exact ⟨fun δ μ' h' σ H' Hc' e' s' rs' => ret_fin rt _ _ h' _ _ _ e' s' .non, ret_fin rt, fun _ _ z => z.elim, fun _ _ z => z.elim, fun _ _ _ _ z => z.elim⟩
/-- a def that may raise -/
theorem dfn1 {x qual : Str} {st : Stmt} {f : Addr} {fd : FuncData} {N ps : List Str} {k : Nat} {c : Ct} {t : DTS} (F : Fun K x qual st f fd) (hm : mg x = some (.ref f)) (bn : Binds K fd ps []) (S : FnScope N ps (defScope st)) (len : ∀ ds μ Q Xd, c ds μ Q Xd → ds.length = ps.length)
    (hd : ∀ (cdv : Value) (A : Around) (outer : List Env) (s : Shared) (H : Hp) (E : XK), Room k (A.deeper (PyProof.Rows.envOfC qual (defScope st) s.heap.objs.size f cdv)) →
      Takes (cxOf (L2.CX P w) P w K mg base N qual (defScope st) f cdv A outer s H E) (fun cls d _ H' => E cls d H') → DSs (cxOf (L2.CX P w) P w K mg base N qual (defScope st) f cdv A outer s H E) (fun cls d _ H' => E cls d H') (defBody st) t)
    (hb : ∀ ds μ Q Xd, c ds μ Q Xd → t (ends Q (FinX Xd)) (startD N ds) μ) : Dfn P w K mg base (L2.CX P w) x qual st (k + 1) ps c := by
  refine ⟨f, fd, F, hm, ?_, bn⟩
  refine F.okX S (fun vs H Q E ⟨ds, μ, Hc, Qd, Xd, s, ra, h, rt, rx⟩ => by rw [ra.length]; exact len _ _ _ _ h) (fun cdv A outer s H vs Q E hr h => ?_)
  obtain ⟨ds, μ, Hc, Qd, Xd, sp, ra, h, rt, rx⟩ := h
  refine ⟨_, hd cdv A outer s H E hr (takes_of rfl rfl rfl rfl), _, μ, Hc, _, sp, repS_start ra, hb _ _ _ _ h, ?_⟩
  exact ⟨fun δ μ' h' σ H' Hc' e' s' rs' => ret_fin rt _ _ h' _ _ _ e' s' .non, ret_fin rt, fun _ _ z => z.elim, fun _ _ z => z.elim, fun δ cls fs μ' h' σ d H' Hc' e' s' rs' xo => retX_fin rx cls fs μ' h' d H' Hc' e' s' xo⟩
end
/-- the module's tuple of ints -/
theorem rep_ktup {K : PySem.W.Frag} {a : Addr} {o : Obj} {its : Array Value} {n : Nat} {vs : List V} {ds : List D} (h : K.lookup a = some o) (hc : o.cls = .type "tuple") (hd : o.data = .seq its n) (hz : its.size ≤ sizeLine) (hv : Vals vs its.toList) (r : ∀ H, RepA K H vs ds) : ∀ H, Rep K H (.ref a) (.tup ds) :=
  fun H => .tup (.inr ⟨o, its, n, h, hc, hd, hz, hv⟩) (r H)
/-- the slots at a def's start -/
def begin' (n : Nat) (ds : List D) : Sl := ds.map some ++ List.replicate (n - ds.length) none
/-- a reading keeps a contract -/
def HB (c : Ct) (t : DTS) (n : Nat) : Prop := ∀ ds μ Q Xd, c ds μ Q Xd → t (ends Q XF) (begin' n ds) μ
def HBX (c : Ct) (t : DTS) (n : Nat) : Prop := ∀ ds μ Q Xd, c ds μ Q Xd → t (ends Q (FinX Xd)) (begin' n ds) μ
def Len (c : Ct) (n : Nat) : Prop := ∀ ds μ Q Xd, c ds μ Q Xd → ds.length = n
section
variable {P : Program} {w : World} {K : PySem.W.Frag} {mg : Str → Option Value} {base : Heap} {x qual : Str} {st : Stmt} {f : Addr} {fd : FuncData} {N ps : List Str} {k n m : Nat} {c : Ct} {t : DTS}
theorem dfnA (F : Fun K x qual st f fd) (hm : mg x = some (.ref f)) (bn : Binds K fd ps []) (S : FnScope N ps (defScope st)) (len : Len c m) (hb : HB c t n)
    (hd : ∀ (cdv : Value) (A : Around) (outer : List Env) (s : Shared) (H : Hp) (E : XK), Room k (A.deeper (PyProof.Rows.envOfC qual (defScope st) s.heap.objs.size f cdv)) → DSs (cxOf CX0 P w K mg base N qual (defScope st) f cdv A outer s H E).nox W0 (defBody st) t)
    (hn : N.length = n := by rfl) (hp : ps.length = m := by rfl) : Dfn P w K mg base CX0 x qual st (k + 1) ps c := by
  subst hn hp
  exact dfn0 F hm bn S len hd hb
theorem dfnX (F : Fun K x qual st f fd) (hm : mg x = some (.ref f)) (bn : Binds K fd ps []) (S : FnScope N ps (defScope st)) (len : Len c m) (hb : HBX c t n)
    (hd : ∀ (cdv : Value) (A : Around) (outer : List Env) (s : Shared) (H : Hp) (E : XK), Room k (A.deeper (PyProof.Rows.envOfC qual (defScope st) s.heap.objs.size f cdv)) →
      Takes (cxOf (L2.CX P w) P w K mg base N qual (defScope st) f cdv A outer s H E) (fun cls d _ H' => E cls d H') → DSs (cxOf (L2.CX P w) P w K mg base N qual (defScope st) f cdv A outer s H E) (fun cls d _ H' => E cls d H') (defBody st) t)
    (hn : N.length = n := by rfl) (hp : ps.length = m := by rfl) : Dfn P w K mg base (L2.CX P w) x qual st (k + 1) ps c := by
  subst hn hp
  exact dfn1 F hm bn S len hd hb
end
end DL
set_option Elab.async false
set_option linter.all false
set_option maxRecDepth 100000
set_option maxHeartbeats 2000000
/-! The data layer: constants, classes of errors, the end of a law, words for proofs. -/
namespace DL
open PySem PySem.Spec L2
/-- a constant of the module is this data -/
def KC (K : PySem.W.Frag) (mg : Str → Option Value) (x : Str) (d : D) : Prop := ∃ v u, mg x = some u ∧ RelV v u ∧ ∀ H, Rep K H v d
section
variable {X : Cx} {W : WX} {a : Expr} {pos : Pos} {ta : DTE}
theorem de_kc {x : Str} {d : D} (h : KC X.K X.mg x d) (hg : Gl X x := by rfl) (hd : (x == ("__debug__" : Str)) = false := by decide) : DE X W (.Name x pos) (dC d) := by
  obtain ⟨v, u, h1, h2, h3⟩ := h
  exact de_glob hg h1 h2 h3 hd
/-- -a -/
def kNeg (Q : QD) (d : D) (μ : M) : Prop := match d with
  | .int i => Q (.int (-i)) μ
  | _ => False
def dNeg (t : DTE) (W : XD) (δ : Sl) (μ : M) (Q : QD) : Prop := t W δ μ (kNeg Q)
theorem de_neg (ha : DE X W a ta) : DE X W (.UnaryOp .USub a pos) (dNeg ta) := PE.imp (pe_un un_neg ha) fun σ H Q ⟨δ, μ, Hc, Qd, Xd, s, rs, h, rt, rx⟩ => ⟨δ, μ, Hc, _, Xd, s, rs, h, fun d μ1 h1 v H1 Hc1 e1 s1 r1 => by
    unfold kNeg at h1
    split at h1
    · cases r1
      exact ⟨_, rfl, (rt.mono e1).val s1 (.int _) h1⟩
    · exact h1.elim, rx⟩
end
/-- an own class of errors over ValueError -/
structure ExcT (K : PySem.W.Frag) (mg : Str → Option Value) (x : Str) (C : Addr) : Prop where
  g : mg x = some (.ref C)
  x : PySem.W.excIn K C [.type "ValueError", .type "Exception", .type "BaseException", .type "object"] "ValueError.__new__" = true
  k : PySem.W.keepIn K (.ref C) = true
  b : PySem.W.subIn K (.ref C) (.type "BaseException") = some true
  t : PySem.W.typeIn K (.ref C) = some (.type "type")
/-- the law's own contract -/
def cLaw : Ct := fun ds μ Q _ => ∃ ns : List Int, ds = [.scr ns] ∧ ns.length ≤ 63 ∧ ∀ μ', Q (.bl true) μ'
theorem law_end {K : PySem.W.Frag} {H : Hp} {a : Addr} {ns : List Int} (hl : ns.length ≤ 63) (h : SqL K H a (ns.map V.int)) : spD K cLaw [.ref a] H (fun v _ => v = .bl true) fun _ _ _ => False :=
  ⟨[.scr ns], fun _ => none, H, fun d _ => d = .bl true, XF, ⟨fun _ _ z => (nomatch z), fun _ _ => rfl⟩, .cons (.scr h) .nil, ⟨ns, rfl, hl, fun _ => rfl⟩, fun d μ' e v H' Hc' _ _ r => by subst e; cases r; rfl, fun _ _ _ z => z.elim⟩

theorem exm_pair {K : PySem.W.Frag} {S R : Addr} {b : Bool} (h1 : PySem.W.subIn K (.ref S) (.type "BaseException") = some true) (h2 : PySem.W.isClsIn K S = true) (h3 : PySem.W.typeIn K (.ref S) = some (.type "type")) (h4 : PySem.W.subIn K (.ref R) (.ref S) = some b) :
    PySem.W.exmOne K (.ref R) (.ref S) = some b := by
  have e1 : (PySem.W.subIn K (.ref S) (.type "BaseException") == some true) = true := by rw [h1] <;> rfl
  have e2 : ((PySem.W.clsIn K S).isSome && PySem.W.typeIn K (.ref S) == some (.type "type")) = true := by
    have h2' : (PySem.W.clsIn K S).isSome = true := h2
    rw [h2', h3] <;> rfl
  show (if (PySem.W.subIn K (.ref S) (.type "BaseException") == some true) = true then (if ((PySem.W.clsIn K S).isSome && PySem.W.typeIn K (.ref S) == some (.type "type")) = true then PySem.W.subIn K (.ref R) (.ref S) else none) else none) = some b
  rw [if_pos e1, if_pos e2]
  exact h4
theorem fun_uniq {K : PySem.W.Frag} {x qual : Str} {st : Stmt} {f : Addr} {fd fd' : FuncData} (F : Fun K x qual st f fd) (G : Fun K x qual st f fd') : fd = fd' := by
  obtain ⟨_, _, _, _, _, _, _, _, _, _, l, _⟩ := F.ex
  obtain ⟨_, _, _, _, _, _, _, _, _, _, l', _⟩ := G.ex
  rw [l] at l'
  injection l' with l'
  injection l' with _ _ l' _
  injection l'
/-! ### words for proofs -/
theorem ifS_true {t u : DTS} {E : DEnds} {δ : Sl} {μ : M} : ifS true t u E δ μ = t E δ μ := rfl
theorem ifS_false {t u : DTS} {E : DEnds} {δ : Sl} {μ : M} : ifS false t u E δ μ = u E δ μ := rfl
theorem ifAnd_true {u : DTT} {W : XD} {δ : Sl} {μ : M} {Q : Bool → M → Prop} : ifAnd true u W δ μ Q = u W δ μ Q := rfl
theorem ifAnd_false {u : DTT} {W : XD} {δ : Sl} {μ : M} {Q : Bool → M → Prop} : ifAnd false u W δ μ Q = Q false μ := rfl
theorem ifOr_true {u : DTT} {W : XD} {δ : Sl} {μ : M} {Q : Bool → M → Prop} : ifOr true u W δ μ Q = Q true μ := rfl
theorem ifOr_false {u : DTT} {W : XD} {δ : Sl} {μ : M} {Q : Bool → M → Prop} : ifOr false u W δ μ Q = u W δ μ Q := rfl
theorem ifAndV_true {u : DTE} {W : XD} {δ : Sl} {μ : M} {Q : QD} : ifAndV true u W δ μ Q = u W δ μ Q := rfl
theorem ifAndV_false {u : DTE} {W : XD} {δ : Sl} {μ : M} {Q : QD} : ifAndV false u W δ μ Q = Q (.bl false) μ := rfl
theorem ifOrV_true {u : DTE} {W : XD} {δ : Sl} {μ : M} {Q : QD} : ifOrV true u W δ μ Q = Q (.bl true) μ := rfl
theorem ifOrV_false {u : DTE} {W : XD} {δ : Sl} {μ : M} {Q : QD} : ifOrV false u W δ μ Q = u W δ μ Q := rfl
theorem ifE_true {t u : DTE} {W : XD} {δ : Sl} {μ : M} {Q : QD} : ifE true t u W δ μ Q = t W δ μ Q := rfl
theorem ifE_false {t u : DTE} {W : XD} {δ : Sl} {μ : M} {Q : QD} : ifE false t u W δ μ Q = u W δ μ Q := rfl
theorem kChain3_true {g' : DR2} {tc : DTE} {W : XD} {δ : Sl} {Q : QD} {y : D} {μ : M} : kChain3 g' tc W δ Q y (.bl true) μ = tc W δ μ (kOp2 g' y Q) := rfl
theorem kChain3_false {g' : DR2} {tc : DTE} {W : XD} {δ : Sl} {Q : QD} {y : D} {μ : M} : kChain3 g' tc W δ Q y (.bl false) μ = Q (.bl false) μ := rfl
theorem kChain3_of {g' : DR2} {tc : DTE} {W : XD} {δ : Sl} {Q : QD} {y : D} {μ : M} {b : Bool} (h1 : b = true → tc W δ μ (kOp2 g' y Q)) (h2 : b = false → Q (.bl false) μ) : kChain3 g' tc W δ Q y (.bl b) μ := by
  cases b with
  | true => exact h1 rfl
  | false => exact h2 rfl
theorem kTest_true {te : DTE} {δ : Sl} {acc : List D} {R : List D → M → Prop} {μ : M} : kTest te δ acc R true μ = te XF δ μ (kItem acc R) := rfl
theorem kTest_false {te : DTE} {δ : Sl} {acc : List D} {R : List D → M → Prop} {μ : M} : kTest te δ acc R false μ = R acc μ := rfl
theorem putIx_some {j : Nat} {p : Addr} {ds : List D} {d : D} {E : DEnds} {δ : Sl} {μ : M} : putIx (some j) p ds d E δ μ = E.nx δ (updM μ p (.lst (ds.set j d))) := rfl
theorem setsK_some {cs : List (Nat × D)} {E : DEnds} {δ : Sl} {μ : M} : setsK (some cs) E δ μ = E.nx (sets cs δ) μ := rfl
theorem turnD_some {cs : List (Nat × D)} {tb : DTS} {E : DEnds} {δ : Sl} {μ : M} : turnD (some cs) tb E δ μ = tb E (sets cs δ) μ := rfl
theorem turnC_some {cs : List (Nat × D)} {tt : DTT} {te : DTE} {acc : List D} {R : List D → M → Prop} {δ : Sl} {μ : M} : turnC (some cs) tt te acc R δ μ = tt XF (sets cs δ) μ (kTest te (sets cs δ) acc R) := rfl
theorem subN_dict_int : subN "dict" "int" = false := by decide
theorem subN_dict_bool : subN "dict" "bool" = false := by decide
theorem subN_dict_str : subN "dict" "str" = false := by decide
theorem subN_dict_list : subN "dict" "list" = false := by decide
theorem subN_dict_tuple : subN "dict" "tuple" = false := by decide
theorem subN_NoneType_int : subN "NoneType" "int" = false := by decide
theorem subN_NoneType_bool : subN "NoneType" "bool" = false := by decide
theorem subN_NoneType_str : subN "NoneType" "str" = false := by decide
theorem subN_NoneType_list : subN "NoneType" "list" = false := by decide
theorem subN_NoneType_tuple : subN "NoneType" "tuple" = false := by decide
theorem subN_bool_int : subN "bool" "int" = true := by decide
theorem subN_bool_bool : subN "bool" "bool" = true := by decide
theorem subN_bool_str : subN "bool" "str" = false := by decide
theorem subN_bool_list : subN "bool" "list" = false := by decide
theorem subN_bool_tuple : subN "bool" "tuple" = false := by decide
theorem subN_int_int : subN "int" "int" = true := by decide
theorem subN_int_bool : subN "int" "bool" = false := by decide
theorem subN_int_str : subN "int" "str" = false := by decide
theorem subN_int_list : subN "int" "list" = false := by decide
theorem subN_int_tuple : subN "int" "tuple" = false := by decide
theorem subN_str_int : subN "str" "int" = false := by decide
theorem subN_str_bool : subN "str" "bool" = false := by decide
theorem subN_str_str : subN "str" "str" = true := by decide
theorem subN_str_list : subN "str" "list" = false := by decide
theorem subN_str_tuple : subN "str" "tuple" = false := by decide
theorem subN_list_int : subN "list" "int" = false := by decide
theorem subN_list_bool : subN "list" "bool" = false := by decide
theorem subN_list_str : subN "list" "str" = false := by decide
theorem subN_list_list : subN "list" "list" = true := by decide
theorem subN_list_tuple : subN "list" "tuple" = false := by decide
theorem subN_tuple_int : subN "tuple" "int" = false := by decide
theorem subN_tuple_bool : subN "tuple" "bool" = false := by decide
theorem subN_tuple_str : subN "tuple" "str" = false := by decide
theorem subN_tuple_list : subN "tuple" "list" = false := by decide
theorem subN_tuple_tuple : subN "tuple" "tuple" = true := by decide
theorem eqD_int {a b : Int} : eqD (.int a) (.int b) = decide (a = b) := by
  show (a == b) = _
  by_cases h : a = b
  · subst h; simp
  · rw [decide_eq_false h]; simpa using h
theorem eqD_str {a b : Str} : eqD (.str a) (.str b) = decide (a = b) := by
  show (a == b) = _
  by_cases h : a = b
  · subst h; simp
  · rw [decide_eq_false h]; simpa using h
theorem eqD_bl {a b : Bool} : eqD (.bl a) (.bl b) = decide (a = b) := by
  cases a <;> cases b <;> rfl
def eqDs (xs ys : List D) : Bool := PyData.eqvAll (toPs xs) (toPs ys)
theorem eqD_tup {a b : List D} : eqD (.tup a) (.tup b) = eqDs a b := rfl
theorem eqD_lst {a b : List D} : eqD (.lst a) (.lst b) = eqDs a b := rfl
theorem eqDs_nil : eqDs [] [] = true := rfl
theorem eqDs_cons {x y : D} {xs ys : List D} : eqDs (x :: xs) (y :: ys) = (eqD x y && eqDs xs ys) := rfl
/-- all other cells are as they were -/
def Oth (μ μ' : M) (p : Addr) : Prop := ∀ q, q ≠ p → μ' q = μ q
theorem Oth.refl (μ : M) (p : Addr) : Oth μ μ p := fun _ _ => rfl
theorem Oth.trans {a b c : M} {p : Addr} (h : Oth a b p) (k : Oth b c p) : Oth a c p := fun q n => (k q n).trans (h q n)
theorem Oth.upd {μ : M} {p : Addr} {c : C} : Oth μ (updM μ p c) p := fun _ n => updM_ne n
theorem atI_zero {α : Type} {x : α} {xs : List α} : atI (x :: xs) 0 = some x := by
  unfold atI ixN
  rw [if_pos (Int.le_refl 0), if_pos (by rw [List.length_cons]; omega)]
  rfl
theorem atI_one {α : Type} {x y : α} {xs : List α} : atI (x :: y :: xs) 1 = some y := by
  unfold atI ixN
  rw [if_pos (by omega), if_pos (by rw [List.length_cons, List.length_cons]; omega)]
  rfl
theorem atI_two {α : Type} {x y z : α} {xs : List α} : atI (x :: y :: z :: xs) 2 = some z := by
  unfold atI ixN
  rw [if_pos (by omega), if_pos (by rw [List.length_cons, List.length_cons, List.length_cons]; omega)]
  rfl
theorem ixN_zero {n : Nat} : ixN (n + 1) 0 = some 0 := by
  unfold ixN
  rw [if_pos (Int.le_refl 0), if_pos (by omega)]
  rfl
theorem ixN_one {n : Nat} : ixN (n + 2) 1 = some 1 := by
  unfold ixN
  rw [if_pos (by omega), if_pos (by omega)]
  rfl
/-- an item of a short list at a place that is not written -/
theorem atI_lt {α : Type} {xs : List α} {i : Int} (h0 : 0 ≤ i) (h1 : i < xs.length) : ∃ x, atI xs i = some x ∧ xs[i.toNat]? = some x := by
  unfold atI ixN
  rw [if_pos h0, if_pos h1]
  have : i.toNat < xs.length := by omega
  exact ⟨xs[i.toNat], by show xs[i.toNat]? = _; rw [List.getElem?_eq_getElem this], by rw [List.getElem?_eq_getElem this]⟩
theorem mulOk_pow {i j : Int} {a b : Nat} (ha : i.natAbs < 2 ^ a) (hb : j.natAbs < 2 ^ b) (h : a + b ≤ 900000) : IntMulOk i j :=
  (wide_mul (a := a + 1) (b := b + 1) (Nat.lt_of_lt_of_le ha (Nat.pow_le_pow_right (by decide) (by omega))) (Nat.lt_of_lt_of_le hb (Nat.pow_le_pow_right (by decide) (by omega))) (by omega) (by omega) (by omega)).ok
theorem mulOk_64 {x y : Int} (h1 : -9000000000000000000 < x) (h2 : x < 9000000000000000000) (h3 : -9000000000000000000 < y) (h4 : y < 9000000000000000000) : IntMulOk x y := by
  have e : (2 : Nat) ^ 63 = 9223372036854775808 := by decide
  exact mulOk_pow (a := 63) (b := 63) (by omega) (by omega) (by decide)
theorem divOk_pow {i j : Int} {b : Nat} (h : j ≠ 0) (hb : j.natAbs < 2 ^ b) (h9 : b ≤ 8999) : CDivD i j :=
  ⟨h, PyProof.noPylong_of_log2 (Nat.lt_of_lt_of_le (PySem.Flt.log2_lt_of (by omega) (Nat.lt_of_lt_of_le hb (Nat.pow_le_pow_right (by decide) (Nat.le_succ b)))) (by omega))⟩
theorem divOk_small {i j : Int} (h : j ≠ 0) (hb : j.natAbs < 1073741824) : CDivD i j := ⟨h, PyProof.noPylong_small hb⟩
end DL
set_option linter.all false
set_option maxRecDepth 100000
/-! Fractions: lowest terms. -/
namespace Fr
def gcdI (a b : Int) : Int := (Nat.gcd a.natAbs b.natAbs : Nat)
/-- the divisor by which lowest terms are made -/
def by_ (t b : Int) : Int := if b < 0 then 0 - gcdI t b else gcdI t b
def low (t b : Int) : Int × Int := (t.fdiv (by_ t b), b.fdiv (by_ t b))
theorem gcdI_pos {t b : Int} (h : b ≠ 0) : 0 < gcdI t b := by
  unfold gcdI
  have : 0 < Nat.gcd t.natAbs b.natAbs := Nat.gcd_pos_of_pos_right _ (Int.natAbs_pos.mpr h)
  omega
theorem by_ne {t b : Int} (h : b ≠ 0) : by_ t b ≠ 0 := by
  have := gcdI_pos (t := t) h
  unfold by_
  split <;> omega
theorem by_natAbs {t b : Int} : (by_ t b).natAbs = Nat.gcd t.natAbs b.natAbs := by
  unfold by_ gcdI
  split <;> omega
theorem by_le {t b : Int} (h : b ≠ 0) : (by_ t b).natAbs ≤ b.natAbs := by
  rw [by_natAbs]
  exact Nat.gcd_le_right _ (Int.natAbs_pos.mpr h)
theorem by_dvd_t {t b : Int} : by_ t b ∣ t := by
  rw [← Int.natAbs_dvd_natAbs, by_natAbs]
  exact Nat.gcd_dvd_left _ _
theorem by_dvd_b {t b : Int} : by_ t b ∣ b := by
  rw [← Int.natAbs_dvd_natAbs, by_natAbs]
  exact Nat.gcd_dvd_right _ _
theorem fdiv_of {x g : Int} (hg : g ≠ 0) (h : g ∣ x) : x.fdiv g * g = x := by
  rw [Int.fdiv_eq_ediv_of_dvd h]
  exact Int.ediv_mul_cancel h
theorem low_t {t b : Int} (h : b ≠ 0) : (low t b).1 * by_ t b = t := fdiv_of (by_ne h) by_dvd_t
theorem low_b {t b : Int} (h : b ≠ 0) : (low t b).2 * by_ t b = b := fdiv_of (by_ne h) by_dvd_b
theorem low_pos {t b : Int} (h : b ≠ 0) : 1 ≤ (low t b).2 := by
  have e := low_b (t := t) h
  have hg := gcdI_pos (t := t) h
  by_cases hb : b < 0
  · have eb : by_ t b = - gcdI t b := by unfold by_; rw [if_pos hb]; omega
    rw [eb] at e
    rcases Int.lt_or_le (low t b).2 1 with hl | hl
    · exfalso
      have : 0 ≤ (low t b).2 * -gcdI t b := by
        have h1 : (low t b).2 ≤ 0 := by omega
        have := Int.mul_nonneg_of_nonpos_of_nonpos h1 (show -gcdI t b ≤ 0 by omega)
        exact this
      omega
    · exact hl
  · have eb : by_ t b = gcdI t b := by unfold by_; rw [if_neg hb]
    rw [eb] at e
    rcases Int.lt_or_le (low t b).2 1 with hl | hl
    · exfalso
      have : (low t b).2 * gcdI t b ≤ 0 := Int.mul_nonpos_of_nonpos_of_nonneg (by omega) (by omega)
      omega
    · exact hl
theorem low_cop {t b : Int} (h : b ≠ 0) : Nat.gcd (low t b).1.natAbs (low t b).2.natAbs = 1 := by
  have e1 : (low t b).1.natAbs * Nat.gcd t.natAbs b.natAbs = t.natAbs := by rw [← by_natAbs (t := t) (b := b), ← Int.natAbs_mul, low_t h]
  have e2 : (low t b).2.natAbs * Nat.gcd t.natAbs b.natAbs = b.natAbs := by rw [← by_natAbs (t := t) (b := b), ← Int.natAbs_mul, low_b h]
  have hp : 0 < Nat.gcd t.natAbs b.natAbs := Nat.gcd_pos_of_pos_right _ (Int.natAbs_pos.mpr h)
  have e3 := Nat.gcd_mul_right (low t b).1.natAbs (Nat.gcd t.natAbs b.natAbs) (low t b).2.natAbs
  rw [e1, e2] at e3
  have : Nat.gcd (low t b).1.natAbs (low t b).2.natAbs * Nat.gcd t.natAbs b.natAbs = 1 * Nat.gcd t.natAbs b.natAbs := by rw [← e3, Nat.one_mul]
  exact Nat.eq_of_mul_eq_mul_right hp this
theorem low_cross {t b : Int} (h : b ≠ 0) : (low t b).1 * b = t * (low t b).2 := by
  have e1 := low_t (t := t) h
  have e2 := low_b (t := t) h
  calc (low t b).1 * b = (low t b).1 * ((low t b).2 * by_ t b) := by rw [e2]
    _ = ((low t b).1 * by_ t b) * (low t b).2 := by rw [Int.mul_comm (low t b).2, Int.mul_assoc]
    _ = t * (low t b).2 := by rw [e1]
theorem low_le1 {t b : Int} (h : b ≠ 0) : (low t b).1.natAbs ≤ t.natAbs := by
  have e1 : (low t b).1.natAbs * (by_ t b).natAbs = t.natAbs := by rw [← Int.natAbs_mul, low_t h]
  have hp : 1 ≤ (by_ t b).natAbs := Int.natAbs_pos.mpr (by_ne h)
  calc (low t b).1.natAbs = (low t b).1.natAbs * 1 := (Nat.mul_one _).symm
    _ ≤ (low t b).1.natAbs * (by_ t b).natAbs := Nat.mul_le_mul_left _ hp
    _ = t.natAbs := e1
theorem low_le2 {t b : Int} (h : b ≠ 0) : (low t b).2.natAbs ≤ b.natAbs := by
  have e1 : (low t b).2.natAbs * (by_ t b).natAbs = b.natAbs := by rw [← Int.natAbs_mul, low_b h]
  have hp : 1 ≤ (by_ t b).natAbs := Int.natAbs_pos.mpr (by_ne h)
  calc (low t b).2.natAbs = (low t b).2.natAbs * 1 := (Nat.mul_one _).symm
    _ ≤ (low t b).2.natAbs * (by_ t b).natAbs := Nat.mul_le_mul_left _ hp
    _ = b.natAbs := e1
/-- two fractions in lowest terms that are worth the same are the same -/
theorem cop_unique {x y u v : Int} (hy : 1 ≤ y) (hv : 1 ≤ v) (h1 : Nat.gcd x.natAbs y.natAbs = 1) (h2 : Nat.gcd u.natAbs v.natAbs = 1) (e : x * v = u * y) : x = u ∧ y = v := by
  have en : x.natAbs * v.natAbs = u.natAbs * y.natAbs := by rw [← Int.natAbs_mul, ← Int.natAbs_mul, e]
  have d1 : y.natAbs ∣ v.natAbs := by
    have : y.natAbs ∣ x.natAbs * v.natAbs := ⟨u.natAbs, by rw [en, Nat.mul_comm]⟩
    exact Nat.Coprime.dvd_of_dvd_mul_left (by rw [Nat.coprime_comm]; exact h1) this
  have d2 : v.natAbs ∣ y.natAbs := by
    have : v.natAbs ∣ u.natAbs * y.natAbs := ⟨x.natAbs, by rw [← en, Nat.mul_comm]⟩
    exact Nat.Coprime.dvd_of_dvd_mul_left (by rw [Nat.coprime_comm]; exact h2) this
  have ev : y.natAbs = v.natAbs := Nat.dvd_antisymm d1 d2
  have eyv : y = v := by omega
  subst eyv
  exact ⟨Int.eq_of_mul_eq_mul_right (by omega) e, rfl⟩
theorem low_unique {t b x y : Int} (h : b ≠ 0) (hy : 1 ≤ y) (hc : Nat.gcd x.natAbs y.natAbs = 1) (e : x * b = t * y) : low t b = (x, y) := by
  have e1 := low_cross (t := t) h
  have e2 : (low t b).1 * y = x * (low t b).2 := by
    have : (low t b).1 * y * b = x * (low t b).2 * b := by
      calc (low t b).1 * y * b = ((low t b).1 * b) * y := by rw [Int.mul_assoc, Int.mul_comm y, ← Int.mul_assoc]
        _ = t * (low t b).2 * y := by rw [e1]
        _ = (t * y) * (low t b).2 := by rw [Int.mul_assoc, Int.mul_comm (low t b).2, ← Int.mul_assoc]
        _ = (x * b) * (low t b).2 := by rw [e]
        _ = x * (low t b).2 * b := by rw [Int.mul_assoc, Int.mul_comm b, ← Int.mul_assoc]
    exact Int.eq_of_mul_eq_mul_right h this
  obtain ⟨a, c⟩ := cop_unique (low_pos h) hy (low_cop h) hc e2
  exact Prod.ext a c
theorem low_one {t : Int} : low t 1 = (t, 1) := low_unique (by decide) (by decide) (by simp) (by simp)
/-- a fraction in lowest terms, of at most n bits -/
structure Ok (n : Nat) (f : Int × Int) : Prop where
  pos : 1 ≤ f.2
  cop : Nat.gcd f.1.natAbs f.2.natAbs = 1
  tb : f.1.natAbs < 2 ^ n
  bb : f.2.natAbs < 2 ^ n
theorem Ok.ne {n : Nat} {f : Int × Int} (h : Ok n f) : f.2 ≠ 0 := by have := h.pos; omega
theorem Ok.mono {n m : Nat} {f : Int × Int} (h : Ok n f) (l : n ≤ m) : Ok m f := ⟨h.pos, h.cop, Nat.lt_of_lt_of_le h.tb (Nat.pow_le_pow_right (by decide) l), Nat.lt_of_lt_of_le h.bb (Nat.pow_le_pow_right (by decide) l)⟩
theorem Ok.self {n : Nat} {f : Int × Int} (h : Ok n f) : low f.1 f.2 = f := low_unique h.ne h.pos h.cop rfl
theorem ok_low {n : Nat} {t b : Int} (h : b ≠ 0) (ht : t.natAbs < 2 ^ n) (hb : b.natAbs < 2 ^ n) : Ok n (low t b) := ⟨low_pos h, low_cop h, Nat.lt_of_le_of_lt (low_le1 h) ht, Nat.lt_of_le_of_lt (low_le2 h) hb⟩
theorem mul_lt {x y : Int} {a b : Nat} (ha : x.natAbs < 2 ^ a) (hb : y.natAbs < 2 ^ b) : (x * y).natAbs < 2 ^ (a + b) := L2.wide_lt ha hb
theorem add_lt {x y : Int} {a : Nat} (ha : x.natAbs < 2 ^ a) (hb : y.natAbs < 2 ^ a) : (x + y).natAbs < 2 ^ (a + 1) := by
  rw [Nat.pow_succ]
  omega
theorem sub_lt {x y : Int} {a : Nat} (ha : x.natAbs < 2 ^ a) (hb : y.natAbs < 2 ^ a) : (x - y).natAbs < 2 ^ (a + 1) := by
  rw [Nat.pow_succ]
  omega
theorem lt_mono {x : Int} {a b : Nat} (h : x.natAbs < 2 ^ a) (l : a ≤ b) : x.natAbs < 2 ^ b := Nat.lt_of_lt_of_le h (Nat.pow_le_pow_right (by decide) l)
theorem mul_ne {x y : Int} (h : x ≠ 0) (k : y ≠ 0) : x * y ≠ 0 := Int.mul_ne_zero h k
def addF (f g : Int × Int) : Int × Int := low (f.1 * g.2 + g.1 * f.2) (f.2 * g.2)
def subF (f g : Int × Int) : Int × Int := low (f.1 * g.2 - g.1 * f.2) (f.2 * g.2)
def mulF (f g : Int × Int) : Int × Int := low (f.1 * g.1) (f.2 * g.2)
def divF (f g : Int × Int) : Int × Int := low (f.1 * g.2) (f.2 * g.1)
theorem ok_add {n m : Nat} {f g : Int × Int} (h : Ok n f) (k : Ok m g) : Ok (n + m + 1) (addF f g) := by
  refine ok_low (mul_ne h.ne k.ne) (add_lt (mul_lt h.tb k.bb) ?_) (lt_mono (mul_lt h.bb k.bb) (by omega))
  rw [Nat.add_comm n m]
  exact mul_lt k.tb h.bb
theorem sub_add {n m : Nat} {f g : Int × Int} (h : Ok n f) (k : Ok m g) : subF (addF f g) g = f := by
  have hne : f.2 * g.2 ≠ 0 := mul_ne h.ne k.ne
  have hc := low_cross (t := f.1 * g.2 + g.1 * f.2) hne
  have hp := low_pos (t := f.1 * g.2 + g.1 * f.2) hne
  unfold subF
  show low ((addF f g).1 * g.2 - g.1 * (addF f g).2) ((addF f g).2 * g.2) = f
  have hc' : (addF f g).1 * (f.2 * g.2) = (f.1 * g.2 + g.1 * f.2) * (addF f g).2 := hc
  have hp' : 1 ≤ (addF f g).2 := hp
  refine low_unique (mul_ne (by omega) k.ne) h.pos h.cop ?_
  -- f1 * (s2 * g2) = (s1 * g2 - g1 * s2) * f2
  generalize addF f g = s at *
  have e : s.1 * g.2 * f.2 = f.1 * g.2 * s.2 + g.1 * f.2 * s.2 := by
    have : s.1 * g.2 * f.2 = s.1 * (f.2 * g.2) := by rw [Int.mul_assoc, Int.mul_comm g.2]
    rw [this, hc', Int.add_mul]
  have e2 : (s.1 * g.2 - g.1 * s.2) * f.2 = s.1 * g.2 * f.2 - g.1 * f.2 * s.2 := by
    rw [Int.sub_mul, Int.mul_assoc g.1, Int.mul_comm s.2, ← Int.mul_assoc]
  rw [e2, e]
  have e3 : f.1 * (s.2 * g.2) = f.1 * g.2 * s.2 := by rw [Int.mul_comm s.2, Int.mul_assoc]
  omega
end Fr
set_option Elab.async false
set_option linter.all false
set_option maxRecDepth 100000
set_option maxHeartbeats 2000000
set_option exponentiation.threshold 20000
/-! Fractions of the program, and the law's pool: contracts, readings, and that the readings keep them. -/
local macro_rules | `(tactic| walk_at "r") => `(tactic| simp only [DL.dSeq, DL.dSet, DL.kSet, DL.dCB, DL.kCB, DL.dCons, DL.kCons1, DL.kCons2, DL.dNil, DL.dVar, DL.dC, DL.dOp, DL.kOp1, DL.kOp2, DL.dB, DL.kB, DL.dIf, DL.kIf, DL.dRet, DL.dRetN, DL.dTup, DL.kTup, DL.dLst, DL.kLst, DL.dLstC, DL.kLstC, DL.dCall, DL.kCall, DL.dCallK, DL.kCallK1, DL.kCallK2, DL.dLenIs, DL.kLenIs, DL.dNext, DL.dDrop, DL.kDrop, DL.dPar, DL.kPar, DL.dAug, DL.kAug, DL.dAsg, DL.kAsg, DL.dSetIx, DL.kSetIx1, DL.kSetIx2, DL.kSetIx3, DL.dTru, DL.kTru, DL.dAnd, DL.kAnd, DL.dOr, DL.kOr, DL.dNot, DL.kNot, DL.dAndV, DL.kAndV, DL.dOrV, DL.kOrV, DL.dNotV, DL.kNotV, DL.dIfE, DL.kIfE, DL.dChain, DL.kChain1, DL.kChain2, DL.kChain3_true, DL.kChain3_false, DL.dNeg, DL.kNeg, DL.dFz, DL.kFz, DL.dRaise, DL.dTryAs, DL.suiteE, DL.kUnset, DL.dFor, DL.kFor, DL.dSeqI, DL.kSeqI, DL.dRange1, DL.kRange1, DL.dRange2, DL.kRange2, DL.dLc, DL.kLc, DL.dLcC, DL.kLstD, DL.kNewC, DL.dYes, DL.wipeD, DL.loopD, DL.compD, DL.kItem, DL.kTest_true, DL.kTest_false, DL.putIx_some, DL.setsK_some, DL.turnD_some, DL.turnC_some, DL.ifS_true, DL.ifS_false, DL.ifAnd_true, DL.ifAnd_false, DL.ifOr_true, DL.ifOr_false, DL.ifAndV_true, DL.ifAndV_false, DL.ifOrV_true, DL.ifOrV_false, DL.ifE_true, DL.ifE_false, DL.srcOf, DL.tgN, DL.tgT, DL.tgNil, DL.tgCons, DL.sets, List.foldl_cons, List.foldl_nil, DL.gI, DL.gI0, DL.gAdd, DL.gMul, DL.gIx, DL.gEq, DL.gNe, DL.gIs, DL.gIn, DL.gLen, DL.gAbs, DL.gMax2, DL.gMin2, DL.gAll, DL.gAny, DL.gSum, DL.gList, DL.gListC, DL.gTuple, DL.gIsiC, DL.gIsi, DL.tyN, DL.subN_NoneType_int, DL.subN_NoneType_bool, DL.subN_NoneType_str, DL.subN_NoneType_list, DL.subN_NoneType_tuple, DL.subN_bool_int, DL.subN_bool_bool, DL.subN_bool_str, DL.subN_bool_list, DL.subN_bool_tuple, DL.subN_int_int, DL.subN_int_bool, DL.subN_int_str, DL.subN_int_list, DL.subN_int_tuple, DL.subN_str_int, DL.subN_str_bool, DL.subN_str_str, DL.subN_str_list, DL.subN_str_tuple, DL.subN_list_int, DL.subN_list_bool, DL.subN_list_str, DL.subN_list_list, DL.subN_list_tuple, DL.subN_tuple_int, DL.subN_tuple_bool, DL.subN_tuple_str, DL.subN_tuple_list, DL.subN_tuple_tuple, DL.truD, DL.blsOf, DL.view_non, DL.view_bl, DL.view_int', DL.view_str', DL.view_lst', DL.view_tup', DL.view_scr', DL.ends, DL.kEnd, DL.OptP_some, DL.OptQ_some, DL.OptB_some, DL.OptS_some, List.getElem?_cons_zero, List.getElem?_cons_succ, List.set_cons_zero, List.set_cons_succ, DL.atI_zero, DL.atI_one, DL.atI_two, List.length_cons, List.length_nil, DL.pick, List.filterMap_cons, List.filterMap_nil, List.nil_append, List.cons_append, List.map_cons, List.map_nil, Option.map_some, Option.bind_some, true_and, and_true, Bool.false_eq_true, Bool.not_true, Bool.not_false, Bool.xor_false, Bool.xor_true, Bool.false_xor, Bool.true_xor, decide_true, decide_false, Nat.zero_add, Nat.reduceAdd, not_true_eq_false, not_false_eq_true, DL.eqD_int, DL.eqD_str, DL.eqD_bl, DL.eqD_tup, DL.eqD_lst, DL.eqDs_nil, DL.eqDs_cons, Bool.and_true, Bool.and_false, List.all_cons, List.all_nil, List.any_cons, List.any_nil, Bool.and_self, DL.dM, DL.kM1, DL.kM2, DL.dM0, DL.kM0, DL.gAppend, DL.gInsert, DL.gExtend, DL.gPop1, DL.gPop0, DL.gReverse, DL.gSort, DL.gRemove, DL.gCount, DL.gIndex, DL.dSlG, DL.kSl1, DL.kSl2, DL.kSl3, DL.gSl, DL.gSlC, DL.dNoPart, DL.dPart, DL.kPart, DL.dLR1, DL.kLR1, DL.dLR2, DL.kLR21, DL.kLR22, DL.nLst, DL.gRepC, DL.gCatC, DL.gInt, DL.gSorted, DL.gMaxL, DL.gMinL, DL.dEnum, DL.kEnum, DL.dZip2, DL.kZip2, DL.dZip3, DL.kZip3, DL.OptS2_some, DL.OptS3_some, DL.dRev, DL.kRev, DL.dEmp, DL.view_emp', DL.subN_dict_int, DL.subN_dict_bool, DL.subN_dict_str, DL.subN_dict_list, DL.subN_dict_tuple, DL.cellL_lst, DL.cellL_none])
local macro_rules | `(tactic| simp! only [$xs,*]) => `(tactic| simp only [DL.dSeq, DL.dSet, DL.kSet, DL.dCB, DL.kCB, DL.dCons, DL.kCons1, DL.kCons2, DL.dNil, DL.dVar, DL.dC, DL.dOp, DL.kOp1, DL.kOp2, DL.dB, DL.kB, DL.dIf, DL.kIf, DL.dRet, DL.dRetN, DL.dTup, DL.kTup, DL.dLst, DL.kLst, DL.dLstC, DL.kLstC, DL.dCall, DL.kCall, DL.dCallK, DL.kCallK1, DL.kCallK2, DL.dLenIs, DL.kLenIs, DL.dNext, DL.dDrop, DL.kDrop, DL.dPar, DL.kPar, DL.dAug, DL.kAug, DL.dAsg, DL.kAsg, DL.dSetIx, DL.kSetIx1, DL.kSetIx2, DL.kSetIx3, DL.dTru, DL.kTru, DL.dAnd, DL.kAnd, DL.dOr, DL.kOr, DL.dNot, DL.kNot, DL.dAndV, DL.kAndV, DL.dOrV, DL.kOrV, DL.dNotV, DL.kNotV, DL.dIfE, DL.kIfE, DL.dChain, DL.kChain1, DL.kChain2, DL.kChain3_true, DL.kChain3_false, DL.dNeg, DL.kNeg, DL.dFz, DL.kFz, DL.dRaise, DL.dTryAs, DL.suiteE, DL.kUnset, DL.dFor, DL.kFor, DL.dSeqI, DL.kSeqI, DL.dRange1, DL.kRange1, DL.dRange2, DL.kRange2, DL.dLc, DL.kLc, DL.dLcC, DL.kLstD, DL.kNewC, DL.dYes, DL.wipeD, DL.loopD, DL.compD, DL.kItem, DL.kTest_true, DL.kTest_false, DL.putIx_some, DL.setsK_some, DL.turnD_some, DL.turnC_some, DL.ifS_true, DL.ifS_false, DL.ifAnd_true, DL.ifAnd_false, DL.ifOr_true, DL.ifOr_false, DL.ifAndV_true, DL.ifAndV_false, DL.ifOrV_true, DL.ifOrV_false, DL.ifE_true, DL.ifE_false, DL.srcOf, DL.tgN, DL.tgT, DL.tgNil, DL.tgCons, DL.sets, List.foldl_cons, List.foldl_nil, DL.gI, DL.gI0, DL.gAdd, DL.gMul, DL.gIx, DL.gEq, DL.gNe, DL.gIs, DL.gIn, DL.gLen, DL.gAbs, DL.gMax2, DL.gMin2, DL.gAll, DL.gAny, DL.gSum, DL.gList, DL.gListC, DL.gTuple, DL.gIsiC, DL.gIsi, DL.tyN, DL.subN_NoneType_int, DL.subN_NoneType_bool, DL.subN_NoneType_str, DL.subN_NoneType_list, DL.subN_NoneType_tuple, DL.subN_bool_int, DL.subN_bool_bool, DL.subN_bool_str, DL.subN_bool_list, DL.subN_bool_tuple, DL.subN_int_int, DL.subN_int_bool, DL.subN_int_str, DL.subN_int_list, DL.subN_int_tuple, DL.subN_str_int, DL.subN_str_bool, DL.subN_str_str, DL.subN_str_list, DL.subN_str_tuple, DL.subN_list_int, DL.subN_list_bool, DL.subN_list_str, DL.subN_list_list, DL.subN_list_tuple, DL.subN_tuple_int, DL.subN_tuple_bool, DL.subN_tuple_str, DL.subN_tuple_list, DL.subN_tuple_tuple, DL.truD, DL.blsOf, DL.view_non, DL.view_bl, DL.view_int', DL.view_str', DL.view_lst', DL.view_tup', DL.view_scr', DL.ends, DL.kEnd, DL.OptP_some, DL.OptQ_some, DL.OptB_some, DL.OptS_some, List.getElem?_cons_zero, List.getElem?_cons_succ, List.set_cons_zero, List.set_cons_succ, DL.atI_zero, DL.atI_one, DL.atI_two, List.length_cons, List.length_nil, DL.pick, List.filterMap_cons, List.filterMap_nil, List.nil_append, List.cons_append, List.map_cons, List.map_nil, Option.map_some, Option.bind_some, true_and, and_true, Bool.false_eq_true, Bool.not_true, Bool.not_false, Bool.xor_false, Bool.xor_true, Bool.false_xor, Bool.true_xor, decide_true, decide_false, Nat.zero_add, Nat.reduceAdd, not_true_eq_false, not_false_eq_true, DL.eqD_int, DL.eqD_str, DL.eqD_bl, DL.eqD_tup, DL.eqD_lst, DL.eqDs_nil, DL.eqDs_cons, Bool.and_true, Bool.and_false, List.all_cons, List.all_nil, List.any_cons, List.any_nil, Bool.and_self, DL.dM, DL.kM1, DL.kM2, DL.dM0, DL.kM0, DL.gAppend, DL.gInsert, DL.gExtend, DL.gPop1, DL.gPop0, DL.gReverse, DL.gSort, DL.gRemove, DL.gCount, DL.gIndex, DL.dSlG, DL.kSl1, DL.kSl2, DL.kSl3, DL.gSl, DL.gSlC, DL.dNoPart, DL.dPart, DL.kPart, DL.dLR1, DL.kLR1, DL.dLR2, DL.kLR21, DL.kLR22, DL.nLst, DL.gRepC, DL.gCatC, DL.gInt, DL.gSorted, DL.gMaxL, DL.gMinL, DL.dEnum, DL.kEnum, DL.dZip2, DL.kZip2, DL.dZip3, DL.kZip3, DL.OptS2_some, DL.OptS3_some, DL.dRev, DL.kRev, DL.dEmp, DL.view_emp', DL.subN_dict_int, DL.subN_dict_bool, DL.subN_dict_str, DL.subN_dict_list, DL.subN_dict_tuple, DL.cellL_lst, DL.cellL_none, $xs,*])
namespace NB
open PySem PySem.Spec L2 DL Fr
def fr (f : Int × Int) : D := .tup [.int f.1, .int f.2]
abbrev k_NOUGHT : D := .tup [.int 0, .int 1]
structure Sz (f : Int × Int) : Prop where
  ne : f.2 ≠ 0
  tb : f.1.natAbs < 2 ^ 4000
  bb : f.2.natAbs < 2 ^ 4000
def c_shared : Ct := fun ds μ Q _ => ∃ a b : Int, ds = [.int a, .int b] ∧ Q (.int (gcdI a b)) μ
def c_lowest : Ct := fun ds μ Q _ => ∃ t b : Int, ds = [.int t, .int b] ∧ b ≠ 0 ∧ b.natAbs < 2 ^ 8100 ∧ Q (fr (low t b)) μ
def c_plus : Ct := fun ds μ Q _ => ∃ f g, ds = [fr f, fr g] ∧ Sz f ∧ Sz g ∧ Q (fr (addF f g)) μ
def c_minus : Ct := fun ds μ Q _ => ∃ f g, ds = [fr f, fr g] ∧ Sz f ∧ Sz g ∧ Q (fr (subF f g)) μ
def c_times : Ct := fun ds μ Q _ => ∃ f g, ds = [fr f, fr g] ∧ Sz f ∧ Sz g ∧ Q (fr (mulF f g)) μ
def c_over (C : Addr) : Ct := fun ds μ Q X => ∃ f g, ds = [fr f, fr g] ∧ Sz f ∧ Sz g ∧ (g.1 = 0 → X (.ref C) none μ) ∧ (g.1 ≠ 0 → Q (fr (divF f g)) μ)
def c_under : Ct := fun ds μ Q _ => ∃ f g, ds = [fr f, fr g] ∧ Sz f ∧ Sz g ∧ Q (.bl (decide (f.1 * g.2 < g.1 * f.2))) μ
def c_total : Ct := fun ds μ Q _ => ∃ fs : List (Int × Int), ds = [.lst (fs.map fr)] ∧ fs.length ≤ 10 ∧ (∀ f ∈ fs, Ok 110 f) ∧ Q (fr (fs.foldl addF (0, 1))) μ
/-- the pool: two numbers from nought on -/
def Pool (μ : M) (p : Addr) : Prop := ∃ c s : Int, μ p = some (.lst [.int c, .int s]) ∧ 0 ≤ c ∧ 0 ≤ s ∧ s < 2147483647
def c_cell_at : Ct := fun ds μ Q _ => ∃ (ns : List Int) (k : Int), ds = [.scr ns, .int k] ∧ 0 ≤ k ∧ ∀ c : Int, Q (.int c) μ
def c_pool : Ct := fun ds μ Q _ => ∃ (ns : List Int) (k : Int), ds = [.scr ns, .int k] ∧ 0 ≤ k ∧ k < 100 ∧ ∀ p μ', μ p = none → Pool μ' p → Oth μ μ' p → Q (.raw (.ref p)) μ'
def c_take : Ct := fun ds μ Q _ => ∃ (p : Addr) (m : Int), ds = [.raw (.ref p), .int m] ∧ Pool μ p ∧ 0 < m ∧ m < 2 ^ 100 ∧ ∀ r μ', 0 ≤ r → r < m → Pool μ' p → Oth μ μ' p → Q (.int r) μ'
def c_low : Ct := c_lowest

def t_shared : DTS :=
  (dSeq (dSet 0 (dCB gAbs (dCons (dVar 0) dNil)))
    (dSeq (dSet 1 (dCB gAbs (dCons (dVar 1) dNil)))
    (dSeq (dWhile (dB (dOp gGt (dVar 1) (dC (.int 0)))) (dPar 0 1 (dCons (dVar 1) (dCons (dOp (gI (fun _ j => j ≠ 0) fun i j => .int (i.fmod j)) (dVar 0) (dVar 1)) dNil))))
    (dRet (dVar 0)))))
def t_lowest : DTS :=
  (dSeq (dIf (dB (dOp gEq (dVar 1) (dC (.int 1)))) (dRet (dTup (dCons (dVar 0) (dCons (dC (.int 1)) dNil)))) dNext)
    (dSeq (dSet 2 (dCall c_shared (dCons (dVar 0) (dCons (dVar 1) dNil))))
    (dSeq (dIf (dB (dOp gLt (dVar 1) (dC (.int 0)))) (dSet 2 (dOp (gI0 fun i j => .int (i - j)) (dC (.int 0)) (dVar 2))) dNext)
    (dRet (dTup (dCons (dOp (gI CDivD fun i j => .int (i.fdiv j)) (dVar 0) (dVar 2)) (dCons (dOp (gI CDivD fun i j => .int (i.fdiv j)) (dVar 1) (dVar 2)) dNil)))))))
def t_plus : DTS :=
  (dRet (dCall c_lowest (dCons (dOp gAdd (dOp gMul (dOp gIx (dVar 0) (dC (.int 0))) (dOp gIx (dVar 1) (dC (.int 1)))) (dOp gMul (dOp gIx (dVar 1) (dC (.int 0))) (dOp gIx (dVar 0) (dC (.int 1))))) (dCons (dOp gMul (dOp gIx (dVar 0) (dC (.int 1))) (dOp gIx (dVar 1) (dC (.int 1)))) dNil))))
def t_minus : DTS :=
  (dRet (dCall c_lowest (dCons (dOp (gI0 fun i j => .int (i - j)) (dOp gMul (dOp gIx (dVar 0) (dC (.int 0))) (dOp gIx (dVar 1) (dC (.int 1)))) (dOp gMul (dOp gIx (dVar 1) (dC (.int 0))) (dOp gIx (dVar 0) (dC (.int 1))))) (dCons (dOp gMul (dOp gIx (dVar 0) (dC (.int 1))) (dOp gIx (dVar 1) (dC (.int 1)))) dNil))))
def t_times : DTS :=
  (dRet (dCall c_lowest (dCons (dOp gMul (dOp gIx (dVar 0) (dC (.int 0))) (dOp gIx (dVar 1) (dC (.int 0)))) (dCons (dOp gMul (dOp gIx (dVar 0) (dC (.int 1))) (dOp gIx (dVar 1) (dC (.int 1)))) dNil))))
def t_over (C_NoNumber : Addr) : DTS :=
  (dSeq (dIf (dB (dOp gEq (dOp gIx (dVar 1) (dC (.int 0))) (dC (.int 0)))) (dRaise C_NoNumber) dNext)
    (dRet (dCall c_lowest (dCons (dOp gMul (dOp gIx (dVar 0) (dC (.int 0))) (dOp gIx (dVar 1) (dC (.int 1)))) (dCons (dOp gMul (dOp gIx (dVar 0) (dC (.int 1))) (dOp gIx (dVar 1) (dC (.int 0)))) dNil)))))
def t_under : DTS :=
  (dRet (dOp gLt (dOp gMul (dOp gIx (dVar 0) (dC (.int 0))) (dOp gIx (dVar 1) (dC (.int 1)))) (dOp gMul (dOp gIx (dVar 1) (dC (.int 0))) (dOp gIx (dVar 0) (dC (.int 1))))))
def t_total : DTS :=
  (dSeq (dSet 1 (dC k_NOUGHT))
    (dSeq (dFor (dSeqI (dVar 0)) (tgN 2) (dSet 1 (dCall c_plus (dCons (dVar 1) (dCons (dVar 2) dNil)))))
    (dRet (dVar 1))))
def t_law_cell_at : DTS :=
  (dSeq (dIf (dB (dOp gLt (dVar 1) (dCB gLen (dCons (dVar 0) dNil)))) (dRet (dOp gIx (dVar 0) (dVar 1))) dNext)
    (dRet (dC (.int 0))))
def t_law_pool : DTS :=
  (dSeq (dSet 2 (dCall c_cell_at (dCons (dVar 0) (dCons (dVar 1) dNil))))
    (dSeq (dSet 3 (dOp (gI (fun _ j => j ≠ 0) fun i j => .int (i.fmod j)) (dOp gMul (dOp gAdd (dOp gAdd (dOp (gI (fun _ j => j ≠ 0) fun i j => .int (i.fmod j)) (dVar 2) (dC (.int 2147483629))) (dOp gMul (dOp gMul (dC (.int 7919)) (dVar 1)) (dVar 1))) (dC (.int 1))) (dC (.int 48271))) (dC (.int 2147483647))))
    (dSeq (dIf (dB (dOp gLt (dVar 2) (dOp (gI CPow fun i j => .int (i ^ j.toNat)) (dC (.int 10)) (dC (.int 18))))) (dSet 2 (dC (.int 0))) dNext)
    (dRet (dLstC (dCons (dVar 2) (dCons (dOp (gI (fun _ j => j ≠ 0) fun i j => .int (i.fmod j)) (dOp gMul (dVar 3) (dVar 3)) (dC (.int 2147483629))) dNil)))))))
def t_law_take : DTS :=
  (dSeq (dIf (dB (dOp gGt (dOp gIx (dVar 0) (dC (.int 0))) (dC (.int 0)))) (dSeq (dSet 2 (dOp (gI (fun _ j => j ≠ 0) fun i j => .int (i.fmod j)) (dOp gIx (dVar 0) (dC (.int 0))) (dVar 1)))
    (dSeq (dSetIx (dOp (gI CDivD fun i j => .int (i.fdiv j)) (dOp gIx (dVar 0) (dC (.int 0))) (dVar 1)) (dVar 0) (dC (.int 0)))
    (dRet (dVar 2)))) dNext)
    (dSeq (dSetIx (dOp (gI (fun _ j => j ≠ 0) fun i j => .int (i.fmod j)) (dOp gAdd (dOp gMul (dOp gIx (dVar 0) (dC (.int 1))) (dC (.int 48271))) (dC (.int 11))) (dC (.int 2147483647))) (dVar 0) (dC (.int 1)))
    (dRet (dOp (gI (fun _ j => j ≠ 0) fun i j => .int (i.fmod j)) (dOp (gI CDivD fun i j => .int (i.fdiv j)) (dOp (gI (fun _ j => j ≠ 0) fun i j => .int (i.fmod j)) (dOp gMul (dOp gIx (dVar 0) (dC (.int 1))) (dOp gIx (dVar 0) (dC (.int 1)))) (dC (.int 2147483629))) (dC (.int 64))) (dVar 1)))))
def t_law_low : DTS :=
  (dSeq (dSet 2 (dCB gAbs (dCons (dVar 0) dNil)))
    (dSeq (dSet 3 (dCB gAbs (dCons (dVar 1) dNil)))
    (dSeq (dWhile (dB (dOp gGt (dVar 3) (dC (.int 0)))) (dPar 2 3 (dCons (dVar 3) (dCons (dOp (gI (fun _ j => j ≠ 0) fun i j => .int (i.fmod j)) (dVar 2) (dVar 3)) dNil))))
    (dSeq (dIf (dB (dOp gLt (dVar 1) (dC (.int 0)))) (dSet 2 (dOp (gI0 fun i j => .int (i - j)) (dC (.int 0)) (dVar 2))) dNext)
    (dRet (dTup (dCons (dOp (gI CDivD fun i j => .int (i.fdiv j)) (dVar 0) (dVar 2)) (dCons (dOp (gI CDivD fun i j => .int (i.fdiv j)) (dVar 1) (dVar 2)) dNil))))))))

theorem gcdI_abs {a b : Int} : gcdI (if a < 0 then -a else a) (if b < 0 then -b else b) = gcdI a b := by
  unfold gcdI
  have h1 : (if a < 0 then -a else a).natAbs = a.natAbs := by split <;> omega
  have h2 : (if b < 0 then -b else b).natAbs = b.natAbs := by split <;> omega
  rw [h1, h2]
theorem gcdI_step {x y : Int} (hx : 0 ≤ x) (hy : 0 < y) : gcdI y (x.fmod y) = gcdI x y := by
  unfold gcdI
  have e : (x.fmod y).natAbs = x.natAbs % y.natAbs := by
    rw [Int.fmod_eq_emod_of_nonneg x (by omega)]
    obtain ⟨n, rfl⟩ := Int.eq_ofNat_of_zero_le hx
    obtain ⟨m, rfl⟩ := Int.eq_ofNat_of_zero_le (Int.le_of_lt hy)
    rfl
  rw [e, Nat.gcd_comm, ← Nat.gcd_rec, Nat.gcd_comm]
theorem gcdI_zero {x : Int} (hx : 0 ≤ x) : gcdI x 0 = x := by
  unfold gcdI
  simp
  omega

theorem hb_shared : HB c_shared t_shared 2 := by
  intro ds μ Q X h
  obtain ⟨a, b, rfl, q⟩ := h
  show t_shared (ends Q XF) [some (.int a), some (.int b)] μ
  simp! only [t_shared]
  refine while_by (fun m δ μ' => ∃ x y : Int, δ = [some (.int x), some (.int y)] ∧ 0 ≤ x ∧ 0 ≤ y ∧ gcdI x y = gcdI a b ∧ m = y.toNat ∧ μ' = μ) ⟨_, _, rfl, by split <;> omega, by split <;> omega, gcdI_abs, rfl, rfl⟩ ?_
  rintro m δ μ' ⟨x, y, rfl, hx, hy, hg, rfl, rfl⟩
  walk_at "r"
  refine ifS_dec (fun h0 => ?_) (fun h => ?_)
  · have e1 := Int.fmod_nonneg_of_pos x h0
    have e2 := Int.fmod_lt_of_pos x h0
    walk_at "r"
    refine ⟨by omega, (x.fmod y).toNat, by omega, y, x.fmod y, rfl, by omega, by omega, ?_, rfl, rfl⟩
    rw [gcdI_step hx h0, hg]
  · have h0 : y = 0 := by omega
    subst h0
    rw [gcdI_zero hx] at hg
    walk_at "r"
    exact .of (by rw [hg]; exact q)
theorem hb_lowest : HB c_lowest t_lowest 3 := by
  intro ds μ Q X h
  obtain ⟨t, b, rfl, hb, hz, q⟩ := h
  show t_lowest (ends Q XF) [some (.int t), some (.int b), none] μ
  simp! only [t_lowest]
  refine ⟨rfl, rfl, ifS_dec (fun h1 => ?_) (fun _ => ?_)⟩
  · subst h1
    rw [low_one] at q
    walk_at "r"
    exact ⟨by decide, .of q⟩
  · walk_at "r"
    refine ⟨t, b, rfl, ?_⟩
    walk_at "r"
    have e : by_ t b = if b < 0 then 0 - gcdI t b else gcdI t b := rfl
    have hd : ∀ x, CDivD x (by_ t b) := fun x => divOk_pow (by_ne hb) (Nat.lt_of_le_of_lt (by_le hb) hz) (by decide)
    refine ifS_dec (fun h => ?_) (fun h => ?_)
    · rw [if_pos h] at e
      walk_at "r"
      rw [← e]
      exact ⟨hd _, hd _, by decide, .of q⟩
    · rw [if_neg h] at e
      walk_at "r"
      rw [← e]
      exact ⟨hd _, hd _, by decide, .of q⟩
theorem mok {x y : Int} (hx : x.natAbs < 2 ^ 4000) (hy : y.natAbs < 2 ^ 4000) : IntMulOk x y := mulOk_pow hx hy (by decide)
theorem hb_plus : HB c_plus t_plus 2 := by
  intro ds μ Q X h
  obtain ⟨⟨a, b⟩, ⟨c, d⟩, rfl, hf, hg, q⟩ := h
  show t_plus (ends Q XF) [some (fr (a, b)), some (fr (c, d))] μ
  simp! only [t_plus, fr]
  exact ⟨mok hf.tb hg.bb, mok hg.tb hf.bb, mok hf.bb hg.bb, _, _, rfl, mul_ne hf.ne hg.ne, lt_mono (mul_lt hf.bb hg.bb) (by omega), .of q⟩
theorem hb_minus : HB c_minus t_minus 2 := by
  intro ds μ Q X h
  obtain ⟨⟨a, b⟩, ⟨c, d⟩, rfl, hf, hg, q⟩ := h
  show t_minus (ends Q XF) [some (fr (a, b)), some (fr (c, d))] μ
  simp! only [t_minus, fr]
  exact ⟨mok hf.tb hg.bb, mok hg.tb hf.bb, mok hf.bb hg.bb, _, _, rfl, mul_ne hf.ne hg.ne, lt_mono (mul_lt hf.bb hg.bb) (by omega), .of q⟩
theorem hb_times : HB c_times t_times 2 := by
  intro ds μ Q X h
  obtain ⟨⟨a, b⟩, ⟨c, d⟩, rfl, hf, hg, q⟩ := h
  show t_times (ends Q XF) [some (fr (a, b)), some (fr (c, d))] μ
  simp! only [t_times, fr]
  exact ⟨mok hf.tb hg.tb, mok hf.bb hg.bb, _, _, rfl, mul_ne hf.ne hg.ne, lt_mono (mul_lt hf.bb hg.bb) (by omega), .of q⟩
theorem hb_over {C_NoNumber : Addr} : HBX (c_over C_NoNumber) (t_over C_NoNumber) 2 := by
  intro ds μ Q X h
  obtain ⟨⟨a, b⟩, ⟨c, d⟩, rfl, hf, hg, q0, q1⟩ := h
  show t_over C_NoNumber (ends Q (FinX X)) [some (fr (a, b)), some (fr (c, d))] μ
  simp! only [t_over, fr]
  refine ⟨rfl, rfl, ifS_dec (fun h => ?_) (fun h => ?_)⟩
  · walk_at "r"
    exact ⟨μ, Sub.refl _, q0 h⟩
  · walk_at "r"
    exact ⟨mok hf.tb hg.bb, mok hf.bb hg.tb, _, _, rfl, mul_ne hf.ne h, lt_mono (mul_lt hf.bb hg.tb) (by omega), .of (q1 h)⟩
theorem hb_under : HB c_under t_under 2 := by
  intro ds μ Q X h
  obtain ⟨⟨a, b⟩, ⟨c, d⟩, rfl, hf, hg, q⟩ := h
  show t_under (ends Q XF) [some (fr (a, b)), some (fr (c, d))] μ
  simp! only [t_under, fr]
  exact ⟨mok hf.tb hg.bb, mok hg.tb hf.bb, .of q⟩
theorem Ok.sz {n : Nat} {f : Int × Int} (h : Ok n f) (l : n ≤ 4000) : Sz f := ⟨h.ne, lt_mono h.tb l, lt_mono h.bb l⟩
theorem ok_fold : ∀ (fs : List (Int × Int)) (n : Nat) (s : Int × Int), Ok n s → (∀ f ∈ fs, Ok 110 f) → Ok (n + 111 * fs.length) (fs.foldl addF s)
  | [], n, s, h, _ => h
  | f :: fs, n, s, h, k => by
    have := ok_fold fs (n + 110 + 1) (addF s f) (ok_add h (k f List.mem_cons_self)) fun g hg => k g (List.mem_cons_of_mem _ hg)
    rw [List.foldl_cons, List.length_cons]
    have e : n + 110 + 1 + 111 * fs.length = n + 111 * (fs.length + 1) := by omega
    rw [e] at this
    exact this
theorem ok_nought : Ok 1 ((0, 1) : Int × Int) := ⟨by decide, by decide, by decide, by decide⟩
theorem take_succ {α : Type} {l : List α} {i : Nat} {x : α} (h : l[i]? = some x) : l.take (i + 1) = l.take i ++ [x] := by
  rw [List.take_add_one, h]
  rfl
theorem fold_take {fs : List (Int × Int)} {i : Nat} {x : Int × Int} {s : Int × Int} (h : fs[i]? = some x) : (fs.take (i + 1)).foldl addF s = addF ((fs.take i).foldl addF s) x := by
  rw [take_succ h, List.foldl_append]
  rfl

theorem hb_total : HB c_total t_total 3 := by
  intro ds μ Q X h
  obtain ⟨fs, rfl, hl, hk, q⟩ := h
  show t_total (ends Q XF) [some (.lst (fs.map fr)), none, none] μ
  simp! only [t_total]
  refine ⟨fun i δ μ' => μ' = μ ∧ ∃ x, δ = [some (.lst (fs.map fr)), some (fr ((fs.take i).foldl addF (0, 1))), x], ⟨rfl, none, rfl⟩, ?_⟩
  rintro i δ μ' ⟨rfl, x, rfl⟩
  refine ⟨trivial, fun d hd => ?_, fun hi => ?_⟩
  · rw [List.getElem?_map] at hd
    cases e : fs[i]? with
    | none => rw [e] at hd; cases hd
    | some g =>
      rw [e] at hd
      cases hd
      walk_at "r"
      have hm : ∀ f ∈ fs.take i, Ok 110 f := fun f hf => hk f (List.mem_of_mem_take hf)
      have h1 := ok_fold (fs.take i) 1 (0, 1) ok_nought hm
      have hlen : (fs.take i).length ≤ 10 := by rw [List.length_take]; omega
      refine ⟨_, g, rfl, Ok.sz h1 (by omega), Ok.sz (hk g (List.mem_of_getElem? e)) (by decide), ?_⟩
      walk_at "r"
      refine ⟨some (fr g), ?_⟩
      rw [fold_take e]
  · walk_at "r"
    rw [List.length_map] at hi
    subst hi
    rw [List.take_length]
    exact .of q
theorem hb_law_cell_at : HB c_cell_at t_law_cell_at 2 := by
  intro ds μ Q X h
  obtain ⟨ns, k, rfl, hk, q⟩ := h
  show t_law_cell_at (ends Q XF) [some (.scr ns), some (.int k)] μ
  simp! only [t_law_cell_at]
  refine ifS_dec (fun h => ?_) (fun h => ?_)
  · obtain ⟨x, e, _⟩ := atI_lt hk h
    simp! only [e]
    exact .of (q _)
  · walk_at "r"
    exact .of (q _)
theorem hb_law_pool : HB c_pool t_law_pool 4 := by
  intro ds μ Q X h
  obtain ⟨ns, k, rfl, hk, hk2, q⟩ := h
  show t_law_pool (ends Q XF) [some (.scr ns), some (.int k), none, none] μ
  simp! only [t_law_pool]
  refine ⟨ns, k, rfl, hk, fun c => ?_⟩
  walk_at "r"
  have e0 : ∀ x : Int, 0 ≤ x.fmod 2147483629 ∧ x.fmod 2147483629 < 2147483629 := fun x => ⟨Int.fmod_nonneg_of_pos x (by decide), Int.fmod_lt_of_pos x (by decide)⟩
  have e1 : ∀ x : Int, 0 ≤ x.fmod 2147483647 ∧ x.fmod 2147483647 < 2147483647 := fun x => ⟨Int.fmod_nonneg_of_pos x (by decide), Int.fmod_lt_of_pos x (by decide)⟩
  have kk : 0 ≤ 7919 * k * k ∧ 7919 * k * k < 2 ^ 40 := by
    have h1 : 0 ≤ k * k := Int.mul_nonneg hk hk
    have h2 : k * k ≤ 100 * 100 := Int.mul_le_mul (by omega) (by omega) hk (by decide)
    have h3 : 7919 * k * k = 7919 * (k * k) := Int.mul_assoc ..
    omega
  have a1 := e0 c
  have m1 : IntMulOk 7919 k := mulOk_64 (by omega) (by omega) (by omega) (by omega)
  have m2 : IntMulOk (7919 * k) k := mulOk_64 (by omega) (by omega) (by omega) (by omega)
  have m3 : IntMulOk (c.fmod 2147483629 + 7919 * k * k + 1) 48271 := mulOk_64 (by omega) (by omega) (by omega) (by omega)
  refine ⟨by decide, m1, m2, m3, by decide, ⟨by decide, by decide, by decide⟩, ?_⟩
  generalize (c.fmod 2147483629 + 7919 * k * k + 1) * 48271 = y
  have b1 := e1 y
  have m4 : IntMulOk (y.fmod 2147483647) (y.fmod 2147483647) := mulOk_64 (by omega) (by omega) (by omega) (by omega)
  have b2 := e0 (y.fmod 2147483647 * y.fmod 2147483647)
  refine ifS_dec (fun h => ?_) (fun h => ?_)
  · walk_at "r"
    refine ⟨m4, by decide, by decide, fun p hp => .of (q p _ hp ⟨0, _, updM_same, by decide, b2.1, by omega⟩ Oth.upd)⟩
  · walk_at "r"
    refine ⟨m4, by decide, by decide, fun p hp => .of (q p _ hp ⟨c, _, updM_same, ?_, b2.1, by omega⟩ Oth.upd)⟩
    have z : ¬ c < 10 ^ Int.toNat 18 := h
    have : (10 : Int) ^ Int.toNat 18 = 1000000000000000000 := by decide
    omega
theorem hb_law_take : HB c_take t_law_take 3 := by
  intro ds μ Q X h
  obtain ⟨p, m, rfl, ⟨c, s, hp, hc, hs, hs2⟩, h0, h1, q⟩ := h
  show t_law_take (ends Q XF) [some (.raw (.ref p)), some (.int m), none] μ
  have e0 := Int.fmod_nonneg_of_pos c h0
  have e1 := Int.fmod_lt_of_pos c h0
  have z100 : (2 : Nat) ^ 100 = 1267650600228229401496703205376 := by decide
  have hd : ∀ x, CDivD x m := fun x => divOk_pow (b := 100) (by omega) (by omega) (by decide)
  simp! only [t_law_take, view_cell hp]
  refine ifS_dec (fun h => ?_) (fun h => ?_)
  · simp! only [view_cell hp]
    refine ⟨by omega, hd _, _, hp, ?_⟩
    simp! only [ixN_zero]
    have ef : 0 ≤ c.fdiv m := by rw [Int.fdiv_eq_ediv_of_nonneg c (by omega)]; exact Int.ediv_nonneg hc (by omega)
    exact .of (q _ _ e0 e1 ⟨_, s, updM_same, ef, hs, hs2⟩ Oth.upd)
  · have m1 : IntMulOk s 48271 := mulOk_64 (by omega) (by omega) (by omega) (by omega)
    simp! only [view_cell hp]
    refine ⟨m1, by decide, _, hp, ?_⟩
    simp! only [ixN_one]
    have hv : (updM μ p (C.lst [D.int c, D.int ((s * 48271 + 11).fmod 2147483647)])) p = some (C.lst [D.int c, D.int ((s * 48271 + 11).fmod 2147483647)]) := updM_same
    simp! only [view_cell hv]
    generalize s * 48271 + 11 = y
    have b1 : 0 ≤ y.fmod 2147483647 ∧ y.fmod 2147483647 < 2147483647 := ⟨Int.fmod_nonneg_of_pos _ (by decide), Int.fmod_lt_of_pos _ (by decide)⟩
    have m4 : IntMulOk (y.fmod 2147483647) (y.fmod 2147483647) := mulOk_64 (by omega) (by omega) (by omega) (by omega)
    refine ⟨m4, by decide, divOk_small (by decide) (by decide), by omega, .of (q _ _ (Int.fmod_nonneg_of_pos _ h0) (Int.fmod_lt_of_pos _ h0) ⟨_, _, updM_same, hc, b1.1, b1.2⟩ Oth.upd)⟩
theorem hb_law_low : HB c_low t_law_low 4 := by
  intro ds μ Q X h
  obtain ⟨t, b, rfl, hb, hz, q⟩ := h
  show t_law_low (ends Q XF) [some (.int t), some (.int b), none, none] μ
  simp! only [t_law_low]
  refine while_by (fun m δ μ' => ∃ x y : Int, δ = [some (.int t), some (.int b), some (.int x), some (.int y)] ∧ 0 ≤ x ∧ 0 ≤ y ∧ gcdI x y = gcdI t b ∧ m = y.toNat ∧ μ' = μ) ⟨_, _, rfl, by split <;> omega, by split <;> omega, gcdI_abs, rfl, rfl⟩ ?_
  rintro m δ μ' ⟨x, y, rfl, hx, hy, hg, rfl, rfl⟩
  walk_at "r"
  refine ifS_dec (fun h0 => ?_) (fun h => ?_)
  · have e1 := Int.fmod_nonneg_of_pos x h0
    have e2 := Int.fmod_lt_of_pos x h0
    walk_at "r"
    refine ⟨by omega, (x.fmod y).toNat, by omega, y, x.fmod y, rfl, by omega, by omega, ?_, rfl, rfl⟩
    rw [gcdI_step hx h0, hg]
  · have h0 : y = 0 := by omega
    subst h0
    rw [gcdI_zero hx] at hg
    have e : by_ t b = if b < 0 then 0 - x else x := by rw [hg]; rfl
    have hd : ∀ x, CDivD x (by_ t b) := fun x => divOk_pow (by_ne hb) (Nat.lt_of_le_of_lt (by_le hb) hz) (by decide)
    walk_at "r"
    refine ifS_dec (fun h => ?_) (fun h => ?_)
    · rw [if_pos h] at e
      walk_at "r"
      rw [← e]
      exact ⟨hd _, hd _, by decide, .of q⟩
    · rw [if_neg h] at e
      walk_at "r"
      rw [← e]
      exact ⟨hd _, hd _, by decide, .of q⟩
end NB
set_option Elab.async false
set_option linter.all false
/-! Trails over ties: plain lists. -/
namespace NB
/-- items gone one behind the other from a place to a place -/
def Trl (F : List ((Int × Int) × Int)) : Int → List Nat → Int → Prop
  | h, [], e => h = e
  | h, i :: is, e => ∃ t, F[i]? = some (t, 1) ∧ (t.1 = h ∨ t.2 = h) ∧ Trl F (t.1 + t.2 - h) is e
theorem Trl.snoc {F : List ((Int × Int) × Int)} {j : Nat} {t : Int × Int} (hj : F[j]? = some (t, 1)) : ∀ {a : Int} {is : List Nat} {c : Int}, Trl F a is c → (t.1 = c ∨ t.2 = c) → Trl F a (is ++ [j]) (t.1 + t.2 - c)
  | a, [], c, h, ht => by
    cases (show a = c from h)
    exact ⟨t, hj, ht, rfl⟩
  | a, i :: is, c, h, ht => by
    obtain ⟨u, h1, h2, h3⟩ := h
    exact ⟨u, h1, h2, Trl.snoc hj h3 ht⟩
/-- each place but the first has a taken tie to one ahead of it -/
def Down (m : Int) (F : List ((Int × Int) × Int)) : Prop := ∀ p : Int, 1 ≤ p → p < m → ∃ (j : Nat) (t : Int × Int), F[j]? = some (t, 1) ∧ ((t.1 = p ∧ 0 ≤ t.2 ∧ t.2 < p) ∨ (t.2 = p ∧ 0 ≤ t.1 ∧ t.1 < p))
theorem trail_ex {m : Int} {F : List ((Int × Int) × Int)} (hd : Down m F) : ∀ (n : Nat) (a b : Int), 0 ≤ a → a < m → 0 ≤ b → b < m → a + b ≤ n →
    ∃ is, Trl F a is b ∧ is.Nodup ∧ ∀ i ∈ is, ∃ t c, F[i]? = some (t, c) ∧ t.1 ≤ max a b ∧ t.2 ≤ max a b := by
  intro n
  induction n with
  | zero =>
    intro a b h1 h2 h3 h4 h5
    have ea : a = 0 := by omega
    have eb : b = 0 := by omega
    subst ea eb
    exact ⟨[], rfl, List.nodup_nil, by simp⟩
  | succ n ih =>
    intro a b h1 h2 h3 h4 h5
    rcases Int.lt_trichotomy a b with h | h | h
    · obtain ⟨j, t, hj, ht⟩ := hd b (by omega) h4
      have hq : ∃ q, 0 ≤ q ∧ q < b ∧ (t.1 = q ∨ t.2 = q) ∧ t.1 + t.2 - q = b := by
        rcases ht with ⟨e, e1, e2⟩ | ⟨e, e1, e2⟩
        · exact ⟨t.2, e1, e2, .inr rfl, by omega⟩
        · exact ⟨t.1, e1, e2, .inl rfl, by omega⟩
      obtain ⟨q, q0, q1, q2, q3⟩ := hq
      obtain ⟨is, t1, t2, t3⟩ := ih a q h1 h2 q0 (by omega) (by omega)
      have hmx : t.1 ≤ b ∧ t.2 ≤ b ∧ (t.1 = b ∨ t.2 = b) := by omega
      refine ⟨is ++ [j], q3 ▸ t1.snoc hj q2, ?_, fun i hi => ?_⟩
      · refine List.nodup_append.mpr ⟨t2, by simp, fun x hx y hy => ?_⟩
        rw [List.mem_singleton] at hy
        subst hy
        intro e
        subst e
        obtain ⟨u, c, k1, k2, k3⟩ := t3 x hx
        rw [hj] at k1
        cases k1
        omega
      · rcases List.mem_append.mp hi with hi | hi
        · obtain ⟨u, c, k1, k2, k3⟩ := t3 i hi
          exact ⟨u, c, k1, by omega, by omega⟩
        · rw [List.mem_singleton] at hi
          subst hi
          exact ⟨t, 1, hj, by omega, by omega⟩
    · subst h
      exact ⟨[], rfl, List.nodup_nil, by simp⟩
    · obtain ⟨j, t, hj, ht⟩ := hd a (by omega) h2
      have hq : ∃ q, 0 ≤ q ∧ q < a ∧ (t.1 = a ∨ t.2 = a) ∧ t.1 + t.2 - a = q := by
        rcases ht with ⟨e, e1, e2⟩ | ⟨e, e1, e2⟩
        · exact ⟨t.2, e1, e2, .inl e, by omega⟩
        · exact ⟨t.1, e1, e2, .inr e, by omega⟩
      obtain ⟨q, q0, q1, q2, q3⟩ := hq
      obtain ⟨is, t1, t2, t3⟩ := ih q b q0 (by omega) h3 h4 (by omega)
      have hmx : t.1 ≤ a ∧ t.2 ≤ a ∧ (t.1 = a ∨ t.2 = a) := by omega
      refine ⟨j :: is, ⟨t, hj, q2, q3 ▸ t1⟩, List.nodup_cons.mpr ⟨fun hx => ?_, t2⟩, fun i hi => ?_⟩
      · obtain ⟨u, c, k1, k2, k3⟩ := t3 j hx
        rw [hj] at k1
        cases k1
        omega
      · rcases List.mem_cons.mp hi with hi | hi
        · subst hi
          exact ⟨t, 1, hj, by omega, by omega⟩
        · obtain ⟨u, c, k1, k2, k3⟩ := t3 i hi
          exact ⟨u, c, k1, by omega, by omega⟩
/-- 1 at the items, else 0 -/
def ind (n : Nat) (is : List Nat) : List Int := (List.range n).map fun i => if i ∈ is then 1 else 0
theorem ind_len {n : Nat} {is : List Nat} : (ind n is).length = n := by unfold ind; rw [List.length_map, List.length_range]
theorem ind_get {n : Nat} {is : List Nat} {i : Nat} (h : i < n) : (ind n is)[i]? = some (if i ∈ is then 1 else 0) := by
  unfold ind
  rw [List.getElem?_map, List.getElem?_range h]
  rfl
theorem ind_nil {n : Nat} : ind n [] = List.replicate n 0 := by
  apply List.ext_getElem?
  intro i
  by_cases h : i < n
  · rw [ind_get h, List.getElem?_replicate, if_pos h]
    simp
  · rw [List.getElem?_eq_none (by rw [ind_len]; omega), List.getElem?_eq_none (by rw [List.length_replicate]; omega)]
theorem ind_set {n : Nat} {is : List Nat} {j : Nat} : (ind n is).set j 1 = ind n (is ++ [j]) := by
  apply List.ext_getElem?
  intro i
  by_cases h : i < n
  · rw [ind_get h]
    by_cases e : j = i
    · subst e
      rw [List.getElem?_set_self (by rw [ind_len]; exact h)]
      simp
    · rw [List.getElem?_set_ne e, ind_get h]
      simp [Ne.symm e]
  · rw [List.getElem?_eq_none (by rw [List.length_set, ind_len]; omega), List.getElem?_eq_none (by rw [ind_len]; omega)]
theorem take_drop_set {α : Type} {l : List α} {i : Nat} {x : α} (h : i < l.length) : l.take i ++ [x] ++ l.drop (i + 1) = l.set i x := by
  rw [List.set_eq_take_append_cons_drop, if_pos h]
  simp
/-- a row of trails: (place, items) -/
abbrev Row := List (Int × List Nat)
def RowOk (F : List ((Int × Int) × Int)) (b : Int) (x : Int × List Nat) : Prop := Trl F b x.2 x.1 ∧ x.2.Nodup ∧ ∀ i ∈ x.2, i < F.length
/-- the end can still be come to -/
def Hope (F : List ((Int × Int) × Int)) (e : Int) (x : Int × List Nat) : Prop := ∃ is, Trl F x.1 is e ∧ is.Nodup ∧ (∀ i ∈ is, i ∉ x.2) ∧ ∀ i ∈ is, i < F.length
/-- onward by one item -/
def step1 (F : List ((Int × Int) × Int)) (x : Int × List Nat) (i : Nat) : Row := match F[i]? with
  | some (t, c) => if c = 1 ∧ (t.1 = x.1 ∨ t.2 = x.1) ∧ i ∉ x.2 then [(t.1 + t.2 - x.1, x.2 ++ [i])] else []
  | none => []
def ext (F : List ((Int × Int) × Int)) (x : Int × List Nat) (n : Nat) : Row := (List.range n).flatMap (step1 F x)
theorem ext_succ {F : List ((Int × Int) × Int)} {x : Int × List Nat} {n : Nat} : ext F x (n + 1) = ext F x n ++ step1 F x n := by
  unfold ext
  rw [List.range_succ, List.flatMap_append, List.flatMap_singleton]
theorem step_mem {F : List ((Int × Int) × Int)} {x y : Int × List Nat} {i : Nat} (h : y ∈ step1 F x i) : ∃ t, F[i]? = some (t, 1) ∧ (t.1 = x.1 ∨ t.2 = x.1) ∧ i ∉ x.2 ∧ y = (t.1 + t.2 - x.1, x.2 ++ [i]) := by
  unfold step1 at h
  split at h
  · rename_i t c e
    split at h
    · rename_i hc
      obtain ⟨rfl, h2, h3⟩ := hc
      rw [List.mem_singleton] at h
      exact ⟨t, e, h2, h3, h⟩
    · cases h
  · cases h
theorem ext_mem {F : List ((Int × Int) × Int)} {x y : Int × List Nat} {n : Nat} (h : y ∈ ext F x n) : ∃ i t, i < n ∧ F[i]? = some (t, 1) ∧ (t.1 = x.1 ∨ t.2 = x.1) ∧ i ∉ x.2 ∧ y = (t.1 + t.2 - x.1, x.2 ++ [i]) := by
  unfold ext at h
  obtain ⟨i, hi, hy⟩ := List.mem_flatMap.mp h
  obtain ⟨t, h1, h2, h3, h4⟩ := step_mem hy
  exact ⟨i, t, List.mem_range.mp hi, h1, h2, h3, h4⟩
theorem ext_ok {F : List ((Int × Int) × Int)} {b : Int} {x y : Int × List Nat} {n : Nat} (hx : RowOk F b x) (h : y ∈ ext F x n) : RowOk F b y := by
  obtain ⟨i, t, _, h1, h2, h3, rfl⟩ := ext_mem h
  refine ⟨hx.1.snoc h1 h2, List.nodup_append.mpr ⟨hx.2.1, by simp, fun a ha c hc => ?_⟩, fun j hj => ?_⟩
  · rw [List.mem_singleton] at hc
    subst hc
    exact fun e => h3 (e ▸ ha)
  · rcases List.mem_append.mp hj with hj | hj
    · exact hx.2.2 j hj
    · rw [List.mem_singleton] at hj
      subst hj
      exact (List.getElem?_eq_some_iff.mp h1).1
theorem ext_hope {F : List ((Int × Int) × Int)} {e : Int} {x : Int × List Nat} (h : Hope F e x) (hne : x.1 ≠ e) : ∃ y ∈ ext F x F.length, Hope F e y := by
  obtain ⟨is, h1, h2, h3, h4⟩ := h
  cases is with
  | nil => exact absurd (show x.1 = e from h1) hne
  | cons i is =>
    obtain ⟨t, k1, k2, k3⟩ := h1
    have ni := List.nodup_cons.mp h2
    refine ⟨(t.1 + t.2 - x.1, x.2 ++ [i]), ?_, is, k3, ni.2, fun j hj => ?_, fun j hj => h4 j (List.mem_cons_of_mem _ hj)⟩
    · unfold ext
      refine List.mem_flatMap.mpr ⟨i, List.mem_range.mpr (h4 i List.mem_cons_self), ?_⟩
      unfold step1
      rw [k1]
      dsimp only
      rw [if_pos ⟨rfl, k2, h3 i List.mem_cons_self⟩]
      exact List.mem_singleton_self _
    · intro hm
      rcases List.mem_append.mp hm with hm | hm
      · exact h3 j (List.mem_cons_of_mem _ hj) hm
      · rw [List.mem_singleton] at hm
        subst hm
        exact ni.1 hj
/-- how much is left to be tried -/
def wgt (m : Nat) (x : Int × List Nat) : Nat := (m + 1) ^ (m - x.2.length)
def wgts (m : Nat) (R : Row) : Nat := (R.map (wgt m)).sum
theorem nodup_sub : ∀ {is L : List Nat}, is.Nodup → is ⊆ L → is.length ≤ L.length
  | [], _, _, _ => Nat.zero_le _
  | a :: r, L, h, hs => by
    have hn := List.nodup_cons.mp h
    have ha : a ∈ L := hs List.mem_cons_self
    have := nodup_sub (is := r) (L := L.erase a) hn.2 fun x hx => (List.mem_erase_of_ne (show x ≠ a from fun e => hn.1 (e ▸ hx))).mpr (hs (List.mem_cons_of_mem _ hx))
    rw [List.length_erase_of_mem ha] at this
    have hp := List.length_pos_of_mem ha
    rw [List.length_cons]
    omega
theorem nodup_len {m : Nat} {is : List Nat} (h : is.Nodup) (hl : ∀ i ∈ is, i < m) : is.length ≤ m := by
  have : is ⊆ List.range m := fun i hi => List.mem_range.mpr (hl i hi)
  have := nodup_sub h this
  rwa [List.length_range] at this
theorem step_wgt {F : List ((Int × Int) × Int)} {x : Int × List Nat} {i : Nat} : wgts F.length (step1 F x i) ≤ (F.length + 1) ^ (F.length - (x.2.length + 1)) := by
  unfold step1
  split
  · split
    · unfold wgts wgt
      simp
    · exact Nat.zero_le _
  · exact Nat.zero_le _
theorem wgts_app {m : Nat} {R S : Row} : wgts m (R ++ S) = wgts m R + wgts m S := by
  unfold wgts
  rw [List.map_append, List.sum_append]
theorem ext_wgt {F : List ((Int × Int) × Int)} {x : Int × List Nat} : ∀ n : Nat, wgts F.length (ext F x n) ≤ n * (F.length + 1) ^ (F.length - (x.2.length + 1))
  | 0 => by simp [ext, wgts]
  | n + 1 => by
    rw [ext_succ, wgts_app, Nat.succ_mul]
    exact Nat.add_le_add (ext_wgt n) step_wgt
theorem ext_less {F : List ((Int × Int) × Int)} {b : Int} {x : Int × List Nat} (hx : RowOk F b x) : wgts F.length (ext F x F.length) < wgt F.length x := by
  have hl := nodup_len hx.2.1 hx.2.2
  rcases Nat.lt_or_ge x.2.length F.length with h | h
  · refine Nat.lt_of_le_of_lt (ext_wgt F.length) ?_
    unfold wgt
    have e : F.length - x.2.length = (F.length - (x.2.length + 1)) + 1 := by omega
    rw [e, Nat.pow_succ, Nat.mul_comm]
    exact Nat.mul_lt_mul_of_pos_left (Nat.lt_succ_self _) (Nat.pow_pos (Nat.succ_pos _))
  · have hx0 : ext F x F.length = [] := by
      apply List.eq_nil_iff_forall_not_mem.mpr
      intro y hy
      have k := ext_ok hx hy
      obtain ⟨i, t, _, _, _, _, rfl⟩ := ext_mem hy
      have := nodup_len k.2.1 k.2.2
      rw [List.length_append] at this
      have e1 : [i].length = 1 := rfl
      omega
    rw [hx0]
    unfold wgt wgts
    exact Nat.pow_pos (Nat.succ_pos _)
end NB
namespace NB
theorem row_len {m : Nat} : ∀ R : Row, R.length ≤ wgts m R
  | [] => Nat.zero_le _
  | x :: R => by
    have h := row_len (m := m) R
    have h2 : 1 ≤ wgt m x := Nat.pow_pos (Nat.succ_pos _)
    show R.length + 1 ≤ ((x :: R).map (wgt m)).sum
    rw [List.map_cons, List.sum_cons]
    unfold wgts at h
    omega
theorem ext_len {F : List ((Int × Int) × Int)} {x : Int × List Nat} : ∀ n : Nat, (ext F x n).length ≤ n
  | 0 => by simp [ext]
  | n + 1 => by
    rw [ext_succ, List.length_append]
    have h := ext_len (F := F) (x := x) n
    have h2 : (step1 F x n).length ≤ 1 := by
      unfold step1
      split
      · split <;> simp
      · simp
    omega
theorem wgts_first {m : Nat} {b : Int} (h : m ≤ 7) : wgts m [(b, [])] ≤ 2097152 := by
  have e : wgts m [(b, [])] = (m + 1) ^ m := by simp [wgts, wgt]
  rw [e]
  exact Nat.le_trans (Nat.pow_le_pow_left (show m + 1 ≤ 8 by omega) m) (Nat.le_trans (Nat.pow_le_pow_right (by decide) h) (by decide))
end NB
set_option Elab.async false
set_option linter.all false
set_option maxRecDepth 100000
set_option maxHeartbeats 2000000
set_option exponentiation.threshold 20000
/-! What the laws draw: fractions, ties, wishes. -/
local macro_rules | `(tactic| walk_at "r") => `(tactic| simp only [DL.dSeq, DL.dSet, DL.kSet, DL.dCB, DL.kCB, DL.dCons, DL.kCons1, DL.kCons2, DL.dNil, DL.dVar, DL.dC, DL.dOp, DL.kOp1, DL.kOp2, DL.dB, DL.kB, DL.dIf, DL.kIf, DL.dRet, DL.dRetN, DL.dTup, DL.kTup, DL.dLst, DL.kLst, DL.dLstC, DL.kLstC, DL.dCall, DL.kCall, DL.dCallK, DL.kCallK1, DL.kCallK2, DL.dLenIs, DL.kLenIs, DL.dNext, DL.dDrop, DL.kDrop, DL.dPar, DL.kPar, DL.dAug, DL.kAug, DL.dAsg, DL.kAsg, DL.dSetIx, DL.kSetIx1, DL.kSetIx2, DL.kSetIx3, DL.dTru, DL.kTru, DL.dAnd, DL.kAnd, DL.dOr, DL.kOr, DL.dNot, DL.kNot, DL.dAndV, DL.kAndV, DL.dOrV, DL.kOrV, DL.dNotV, DL.kNotV, DL.dIfE, DL.kIfE, DL.dChain, DL.kChain1, DL.kChain2, DL.kChain3_true, DL.kChain3_false, DL.dNeg, DL.kNeg, DL.dFz, DL.kFz, DL.dRaise, DL.dTryAs, DL.suiteE, DL.kUnset, DL.dFor, DL.kFor, DL.dSeqI, DL.kSeqI, DL.dRange1, DL.kRange1, DL.dRange2, DL.kRange2, DL.dLc, DL.kLc, DL.dLcC, DL.kLstD, DL.kNewC, DL.dYes, DL.wipeD, DL.loopD, DL.compD, DL.kItem, DL.kTest_true, DL.kTest_false, DL.putIx_some, DL.setsK_some, DL.turnD_some, DL.turnC_some, DL.ifS_true, DL.ifS_false, DL.ifAnd_true, DL.ifAnd_false, DL.ifOr_true, DL.ifOr_false, DL.ifAndV_true, DL.ifAndV_false, DL.ifOrV_true, DL.ifOrV_false, DL.ifE_true, DL.ifE_false, DL.srcOf, DL.tgN, DL.tgT, DL.tgNil, DL.tgCons, DL.sets, List.foldl_cons, List.foldl_nil, DL.gI, DL.gI0, DL.gAdd, DL.gMul, DL.gIx, DL.gEq, DL.gNe, DL.gIs, DL.gIn, DL.gLen, DL.gAbs, DL.gMax2, DL.gMin2, DL.gAll, DL.gAny, DL.gSum, DL.gList, DL.gListC, DL.gTuple, DL.gIsiC, DL.gIsi, DL.tyN, DL.subN_NoneType_int, DL.subN_NoneType_bool, DL.subN_NoneType_str, DL.subN_NoneType_list, DL.subN_NoneType_tuple, DL.subN_bool_int, DL.subN_bool_bool, DL.subN_bool_str, DL.subN_bool_list, DL.subN_bool_tuple, DL.subN_int_int, DL.subN_int_bool, DL.subN_int_str, DL.subN_int_list, DL.subN_int_tuple, DL.subN_str_int, DL.subN_str_bool, DL.subN_str_str, DL.subN_str_list, DL.subN_str_tuple, DL.subN_list_int, DL.subN_list_bool, DL.subN_list_str, DL.subN_list_list, DL.subN_list_tuple, DL.subN_tuple_int, DL.subN_tuple_bool, DL.subN_tuple_str, DL.subN_tuple_list, DL.subN_tuple_tuple, DL.truD, DL.blsOf, DL.view_non, DL.view_bl, DL.view_int', DL.view_str', DL.view_lst', DL.view_tup', DL.view_scr', DL.ends, DL.kEnd, DL.OptP_some, DL.OptQ_some, DL.OptB_some, DL.OptS_some, List.getElem?_cons_zero, List.getElem?_cons_succ, List.set_cons_zero, List.set_cons_succ, DL.atI_zero, DL.atI_one, DL.atI_two, List.length_cons, List.length_nil, DL.pick, List.filterMap_cons, List.filterMap_nil, List.nil_append, List.cons_append, List.map_cons, List.map_nil, Option.map_some, Option.bind_some, true_and, and_true, Bool.false_eq_true, Bool.not_true, Bool.not_false, Bool.xor_false, Bool.xor_true, Bool.false_xor, Bool.true_xor, decide_true, decide_false, Nat.zero_add, Nat.reduceAdd, not_true_eq_false, not_false_eq_true, DL.eqD_int, DL.eqD_str, DL.eqD_bl, DL.eqD_tup, DL.eqD_lst, DL.eqDs_nil, DL.eqDs_cons, Bool.and_true, Bool.and_false, List.all_cons, List.all_nil, List.any_cons, List.any_nil, Bool.and_self, DL.dM, DL.kM1, DL.kM2, DL.dM0, DL.kM0, DL.gAppend, DL.gInsert, DL.gExtend, DL.gPop1, DL.gPop0, DL.gReverse, DL.gSort, DL.gRemove, DL.gCount, DL.gIndex, DL.dSlG, DL.kSl1, DL.kSl2, DL.kSl3, DL.gSl, DL.gSlC, DL.dNoPart, DL.dPart, DL.kPart, DL.dLR1, DL.kLR1, DL.dLR2, DL.kLR21, DL.kLR22, DL.nLst, DL.gRepC, DL.gCatC, DL.gInt, DL.gSorted, DL.gMaxL, DL.gMinL, DL.dEnum, DL.kEnum, DL.dZip2, DL.kZip2, DL.dZip3, DL.kZip3, DL.OptS2_some, DL.OptS3_some, DL.dRev, DL.kRev, DL.dEmp, DL.view_emp', DL.subN_dict_int, DL.subN_dict_bool, DL.subN_dict_str, DL.subN_dict_list, DL.subN_dict_tuple, DL.cellL_lst, DL.cellL_none])
local macro_rules | `(tactic| simp! only [$xs,*]) => `(tactic| simp only [DL.dSeq, DL.dSet, DL.kSet, DL.dCB, DL.kCB, DL.dCons, DL.kCons1, DL.kCons2, DL.dNil, DL.dVar, DL.dC, DL.dOp, DL.kOp1, DL.kOp2, DL.dB, DL.kB, DL.dIf, DL.kIf, DL.dRet, DL.dRetN, DL.dTup, DL.kTup, DL.dLst, DL.kLst, DL.dLstC, DL.kLstC, DL.dCall, DL.kCall, DL.dCallK, DL.kCallK1, DL.kCallK2, DL.dLenIs, DL.kLenIs, DL.dNext, DL.dDrop, DL.kDrop, DL.dPar, DL.kPar, DL.dAug, DL.kAug, DL.dAsg, DL.kAsg, DL.dSetIx, DL.kSetIx1, DL.kSetIx2, DL.kSetIx3, DL.dTru, DL.kTru, DL.dAnd, DL.kAnd, DL.dOr, DL.kOr, DL.dNot, DL.kNot, DL.dAndV, DL.kAndV, DL.dOrV, DL.kOrV, DL.dNotV, DL.kNotV, DL.dIfE, DL.kIfE, DL.dChain, DL.kChain1, DL.kChain2, DL.kChain3_true, DL.kChain3_false, DL.dNeg, DL.kNeg, DL.dFz, DL.kFz, DL.dRaise, DL.dTryAs, DL.suiteE, DL.kUnset, DL.dFor, DL.kFor, DL.dSeqI, DL.kSeqI, DL.dRange1, DL.kRange1, DL.dRange2, DL.kRange2, DL.dLc, DL.kLc, DL.dLcC, DL.kLstD, DL.kNewC, DL.dYes, DL.wipeD, DL.loopD, DL.compD, DL.kItem, DL.kTest_true, DL.kTest_false, DL.putIx_some, DL.setsK_some, DL.turnD_some, DL.turnC_some, DL.ifS_true, DL.ifS_false, DL.ifAnd_true, DL.ifAnd_false, DL.ifOr_true, DL.ifOr_false, DL.ifAndV_true, DL.ifAndV_false, DL.ifOrV_true, DL.ifOrV_false, DL.ifE_true, DL.ifE_false, DL.srcOf, DL.tgN, DL.tgT, DL.tgNil, DL.tgCons, DL.sets, List.foldl_cons, List.foldl_nil, DL.gI, DL.gI0, DL.gAdd, DL.gMul, DL.gIx, DL.gEq, DL.gNe, DL.gIs, DL.gIn, DL.gLen, DL.gAbs, DL.gMax2, DL.gMin2, DL.gAll, DL.gAny, DL.gSum, DL.gList, DL.gListC, DL.gTuple, DL.gIsiC, DL.gIsi, DL.tyN, DL.subN_NoneType_int, DL.subN_NoneType_bool, DL.subN_NoneType_str, DL.subN_NoneType_list, DL.subN_NoneType_tuple, DL.subN_bool_int, DL.subN_bool_bool, DL.subN_bool_str, DL.subN_bool_list, DL.subN_bool_tuple, DL.subN_int_int, DL.subN_int_bool, DL.subN_int_str, DL.subN_int_list, DL.subN_int_tuple, DL.subN_str_int, DL.subN_str_bool, DL.subN_str_str, DL.subN_str_list, DL.subN_str_tuple, DL.subN_list_int, DL.subN_list_bool, DL.subN_list_str, DL.subN_list_list, DL.subN_list_tuple, DL.subN_tuple_int, DL.subN_tuple_bool, DL.subN_tuple_str, DL.subN_tuple_list, DL.subN_tuple_tuple, DL.truD, DL.blsOf, DL.view_non, DL.view_bl, DL.view_int', DL.view_str', DL.view_lst', DL.view_tup', DL.view_scr', DL.ends, DL.kEnd, DL.OptP_some, DL.OptQ_some, DL.OptB_some, DL.OptS_some, List.getElem?_cons_zero, List.getElem?_cons_succ, List.set_cons_zero, List.set_cons_succ, DL.atI_zero, DL.atI_one, DL.atI_two, List.length_cons, List.length_nil, DL.pick, List.filterMap_cons, List.filterMap_nil, List.nil_append, List.cons_append, List.map_cons, List.map_nil, Option.map_some, Option.bind_some, true_and, and_true, Bool.false_eq_true, Bool.not_true, Bool.not_false, Bool.xor_false, Bool.xor_true, Bool.false_xor, Bool.true_xor, decide_true, decide_false, Nat.zero_add, Nat.reduceAdd, not_true_eq_false, not_false_eq_true, DL.eqD_int, DL.eqD_str, DL.eqD_bl, DL.eqD_tup, DL.eqD_lst, DL.eqDs_nil, DL.eqDs_cons, Bool.and_true, Bool.and_false, List.all_cons, List.all_nil, List.any_cons, List.any_nil, Bool.and_self, DL.dM, DL.kM1, DL.kM2, DL.dM0, DL.kM0, DL.gAppend, DL.gInsert, DL.gExtend, DL.gPop1, DL.gPop0, DL.gReverse, DL.gSort, DL.gRemove, DL.gCount, DL.gIndex, DL.dSlG, DL.kSl1, DL.kSl2, DL.kSl3, DL.gSl, DL.gSlC, DL.dNoPart, DL.dPart, DL.kPart, DL.dLR1, DL.kLR1, DL.dLR2, DL.kLR21, DL.kLR22, DL.nLst, DL.gRepC, DL.gCatC, DL.gInt, DL.gSorted, DL.gMaxL, DL.gMinL, DL.dEnum, DL.kEnum, DL.dZip2, DL.kZip2, DL.dZip3, DL.kZip3, DL.OptS2_some, DL.OptS3_some, DL.dRev, DL.kRev, DL.dEmp, DL.view_emp', DL.subN_dict_int, DL.subN_dict_bool, DL.subN_dict_str, DL.subN_dict_list, DL.subN_dict_tuple, DL.cellL_lst, DL.cellL_none, $xs,*])
namespace NB
open PySem PySem.Spec L2 DL Fr
/-- what comes of a drawing -/
def Drw {α : Type} (p : Addr) (μ : M) (Q : QD) (ok : α → Prop) (d : α → D) : Prop := ∀ x μ', ok x → Pool μ' p → Oth μ μ' p → Q (d x) μ'
def c_number : Ct := fun ds μ Q _ => ∃ p : Addr, ds = [.raw (.ref p)] ∧ Pool μ p ∧ Drw p μ Q (fun f => Ok 5 f ∧ 0 ≤ f.1) fr
def c_price : Ct := fun ds μ Q _ => ∃ p : Addr, ds = [.raw (.ref p)] ∧ Pool μ p ∧ Drw p μ Q (fun f => Ok 40 f) fr
def c_shuffled : Ct := fun ds μ Q _ => ∃ (p : Addr) (xs : List D), ds = [.raw (.ref p), .lst xs] ∧ Pool μ p ∧ xs.length ≤ 1000 ∧ Drw p μ Q (fun ys : List D => ys.Perm xs) D.lst
/-- the tie that comes i-th: to place i + 1 from one ahead of it -/
def Par (i : Nat) (t : Int × Int) : Prop := (t.1 = (i : Int) + 1 ∧ 0 ≤ t.2 ∧ t.2 ≤ i) ∨ (t.2 = (i : Int) + 1 ∧ 0 ≤ t.1 ∧ t.1 ≤ i)
def Span (many : Int) (T : List (Int × Int)) : Prop := (T.length : Int) = many - 1 ∧ ∀ i t, T[i]? = some t → Par i t
def c_spanning : Ct := fun ds μ Q _ => ∃ (p : Addr) (m : Int), ds = [.raw (.ref p), .int m] ∧ Pool μ p ∧ 2 ≤ m ∧ m ≤ 1000 ∧ Drw p μ Q (Span m) fun T => .lst (T.map fr)
def Tie (many : Int) (t : Int × Int) : Prop := 0 ≤ t.1 ∧ t.1 < many ∧ 0 ≤ t.2 ∧ t.2 < many ∧ t.1 ≠ t.2
/-- a tie and whether it is taken -/
def tk (x : (Int × Int) × Int) : D := .tup [fr x.1, .int x.2]
def More (many limit : Int) (T : List (Int × Int)) (F : List ((Int × Int) × Int)) : Prop := ∃ E : List (Int × Int), (E.length : Int) ≤ limit ∧ (∀ t ∈ E, Tie many t) ∧ F.Perm (T.map (·, 1) ++ E.map (·, 0))
def c_more_ties : Ct := fun ds μ Q _ => ∃ (p : Addr) (T : List (Int × Int)) (m l : Int), ds = [.raw (.ref p), .lst (T.map fr), .int m, .int l] ∧ Pool μ p ∧ 2 ≤ m ∧ m ≤ 1000 ∧ 0 ≤ l ∧ l ≤ 100 ∧ T.length ≤ 100 ∧ Drw p μ Q (More m l T) fun F => .lst (F.map tk)
structure Cnts (ns : List Int) : Prop where
  ne : 1 ≤ ns.length
  le : ns.length ≤ 16
  bd : ∀ n ∈ ns, 0 ≤ n ∧ n ≤ 100
def tiesD (F : List ((Int × Int) × Int)) : D := .tup (F.map fun x => fr x.1)
/-- a count moved along a tie -/
def fl (ns : List Int) (x : (Int × Int) × Int) : List Int :=
  (ns.set x.1.1.toNat (ns.getD x.1.1.toNat 0 + x.2)).set x.1.2.toNat ((ns.set x.1.1.toNat (ns.getD x.1.1.toNat 0 + x.2)).getD x.1.2.toNat 0 - x.2)
def flow (m : Nat) (F : List (Int × Int)) (cs : List Int) : List Int := (F.zip cs).foldl fl (List.replicate m 0)
/-- works done in an order: when each is done -/
def dones (lasts : List Int) : List Int → Int → List Int → List Int
  | [], _, acc => acc
  | o :: os, t, acc => dones lasts os (t + lasts.getD o.toNat 0) (acc.set o.toNat (t + lasts.getD o.toNat 0))
def upTo (n : Nat) : List Int := (List.range n).map Int.ofNat
/-- a drawn shape and its plan -/
inductive Wish : D → List Int → Prop
  | tree {m : Int} {T : List (Int × Int)} {F : List ((Int × Int) × Int)} (hm : 2 ≤ m ∧ m ≤ 5) (sp : Span m T) (mo : More m 3 T F) : Wish (.tup [.str (PySem.Str.ofString "tree"), .int m, tiesD F]) (F.map (·.2))
  | way {m b e : Int} {T : List (Int × Int)} {F : List ((Int × Int) × Int)} {is : List Nat} (hm : 2 ≤ m ∧ m ≤ 5) (sp : Span m T) (mo : More m 3 T F) (hb : 0 ≤ b ∧ b < m) (he : 0 ≤ e ∧ e < m) (ne : b ≠ e) (tr : RowOk F b (e, is)) :
      Wish (.tup [.str (PySem.Str.ofString "way"), .int m, tiesD F, .int b, .int e]) (ind F.length is)
  | pair {m : Int} {R : List Int} {E : List (Int × Int)} {F : List ((Int × Int) × Int)} (hm : 1 ≤ m ∧ m ≤ 4) (hR : R.Perm (upTo m.toNat)) (hE : E.length ≤ 3) (ok : ∀ t ∈ E, 0 ≤ t.1 ∧ t.1 < m ∧ 0 ≤ t.2 ∧ t.2 < m) (pf : F.Perm ((R.mapIdx fun i r => (((i : Int), r), (1 : Int))) ++ E.map (·, 0))) :
      Wish (.tup [.str (PySem.Str.ofString "pair"), .int m, tiesD F]) (F.map (·.2))
  | deal {h w : Nat} {dealt rooms : List Int} (hh : 1 ≤ h ∧ h ≤ 3) (hw : 1 ≤ w) (hwl : h * w ≤ 6) (dl : dealt.length = w) (db : ∀ d ∈ dealt, 0 ≤ d ∧ d < h) (rl : rooms.length = h) (rb : ∀ (i : Nat) (r : Int), rooms[i]? = some r → (dealt.count (i : Int) : Int) ≤ r ∧ r ≤ 6) :
      Wish (.tup [.str (PySem.Str.ofString "deal"), .tup (rooms.map D.int), .int (w : Int)]) ((List.range h).flatMap fun (i : Nat) => dealt.map fun d => if d = (i : Int) then 1 else 0)
  | stream {m : Int} {T : List (Int × Int)} {F : List ((Int × Int) × Int)} {rooms cs : List Int} (hm : 2 ≤ m ∧ m ≤ 4) (sp : Span m T) (mo : More m 1 (T.take 3) F) (rl : rooms.length = F.length) (rb : ∀ r ∈ rooms, 1 ≤ r ∧ r ≤ 2) (cl : cs.length = F.length)
      (cb : ∀ (i : Nat) (c r : Int), cs[i]? = some c → rooms[i]? = some r → 0 ≤ c ∧ c ≤ r) :
      Wish (.tup [.str (PySem.Str.ofString "stream"), .int m, tiesD F, .tup (rooms.map D.int), .tup ((flow m.toNat (F.map (·.1)) cs).map D.int)]) cs
  | bench {lasts order : List Int} (h1 : 1 ≤ lasts.length ∧ lasts.length ≤ 8) (lb : ∀ l ∈ lasts, 1 ≤ l ∧ l ≤ 4) (ho : order.Perm (upTo lasts.length)) :
      Wish (.tup [.str (PySem.Str.ofString "bench"), .tup (lasts.map D.int)]) (dones lasts order 0 (List.replicate lasts.length 0))
def WishD (x : D × List Int) : D := .tup [x.1, .lst (x.2.map D.int)]
def WishOk (x : D × List Int) : Prop := Wish x.1 x.2
def c_wish_of : Ct := fun ds μ Q _ => ∃ p : Addr, ds = [.raw (.ref p)] ∧ Pool μ p ∧ Drw p μ Q WishOk WishD
def c_web_wish : Ct := fun ds μ Q _ => ∃ (p : Addr) (w : Int), ds = [.raw (.ref p), .int w] ∧ Pool μ p ∧ Drw p μ Q WishOk WishD
/-- a drawn row of so many works -/
def BenchOk (w : Int) (x : D × List Int) : Prop := Wish x.1 x.2 ∧ (x.2.length : Int) = w ∧ ∃ ls, x.1 = .tup [.str (PySem.Str.ofString "bench"), .tup ls]
def c_bench_wish : Ct := fun ds μ Q _ => ∃ (p : Addr) (w : Int), ds = [.raw (.ref p), .int w] ∧ 1 ≤ w ∧ w ≤ 8 ∧ Pool μ p ∧ Drw p μ Q (BenchOk w) WishD
def t_law_plus : DTS :=
  (dRet (dCall c_low (dCons (dOp gAdd (dOp gMul (dOp gIx (dVar 0) (dC (.int 0))) (dOp gIx (dVar 1) (dC (.int 1)))) (dOp gMul (dOp gIx (dVar 1) (dC (.int 0))) (dOp gIx (dVar 0) (dC (.int 1))))) (dCons (dOp gMul (dOp gIx (dVar 0) (dC (.int 1))) (dOp gIx (dVar 1) (dC (.int 1)))) dNil))))
def t_law_minus : DTS :=
  (dRet (dCall c_low (dCons (dOp (gI0 fun i j => .int (i - j)) (dOp gMul (dOp gIx (dVar 0) (dC (.int 0))) (dOp gIx (dVar 1) (dC (.int 1)))) (dOp gMul (dOp gIx (dVar 1) (dC (.int 0))) (dOp gIx (dVar 0) (dC (.int 1))))) (dCons (dOp gMul (dOp gIx (dVar 0) (dC (.int 1))) (dOp gIx (dVar 1) (dC (.int 1)))) dNil))))
def t_law_times : DTS :=
  (dRet (dCall c_low (dCons (dOp gMul (dOp gIx (dVar 0) (dC (.int 0))) (dOp gIx (dVar 1) (dC (.int 0)))) (dCons (dOp gMul (dOp gIx (dVar 0) (dC (.int 1))) (dOp gIx (dVar 1) (dC (.int 1)))) dNil))))
def t_law_less : DTS :=
  (dRet (dOp gLt (dOp gMul (dOp gIx (dVar 0) (dC (.int 0))) (dOp gIx (dVar 1) (dC (.int 1)))) (dOp gMul (dOp gIx (dVar 1) (dC (.int 0))) (dOp gIx (dVar 0) (dC (.int 1))))))
def t_law_number : DTS :=
  (dSeq (dSet 1 (dOp gIx (dLst (dCons (dC (.int 1)) (dCons (dC (.int 1)) (dCons (dC (.int 2)) (dCons (dC (.int 3)) (dCons (dC (.int 4)) (dCons (dC (.int 6)) dNil))))))) (dCall c_take (dCons (dVar 0) (dCons (dC (.int 6)) dNil)))))
    (dRet (dCall c_low (dCons (dCall c_take (dCons (dVar 0) (dCons (dC (.int 13)) dNil))) (dCons (dVar 1) dNil)))))
def t_law_price : DTS :=
  (dSeq (dSet 1 (dCall c_number (dCons (dVar 0) dNil)))
    (dSeq (dSet 2 (dCall c_take (dCons (dVar 0) (dCons (dC (.int 4)) dNil))))
    (dSeq (dIf (dB (dOp gEq (dVar 2) (dC (.int 2)))) (dSet 1 (dTup (dCons (dOp (gI0 fun i j => .int (i - j)) (dC (.int 0)) (dOp gIx (dVar 1) (dC (.int 0)))) (dCons (dOp gIx (dVar 1) (dC (.int 1))) dNil)))) dNext)
    (dSeq (dIf (dB (dOp gEq (dVar 2) (dC (.int 3)))) (dSet 1 (dCall c_low (dCons (dOp (gI0 fun i j => .int (i - j)) (dCall c_take (dCons (dVar 0) (dCons (dOp (gI CPow fun i j => .int (i ^ j.toNat)) (dC (.int 10)) (dC (.int 11))) dNil))) (dOp (gI CPow fun i j => .int (i ^ j.toNat)) (dC (.int 10)) (dC (.int 10)))) (dCons (dOp gAdd (dC (.int 1)) (dCall c_take (dCons (dVar 0) (dCons (dC (.int 1000)) dNil)))) dNil)))) dNext)
    (dRet (dVar 1))))))
def t_law_shuffled : DTS :=
  (dSeq (dSet 2 (dLstC dNil))
    (dSeq (dFor (dSeqI (dVar 1)) (tgN 3) (dDrop (dM gInsert (dVar 2) (dCons (dCall c_take (dCons (dVar 0) (dCons (dOp gAdd (dCB gLen (dCons (dVar 2) dNil)) (dC (.int 1))) dNil))) (dCons (dVar 3) dNil)))))
    (dRet (dFz (dVar 2)))))
def t_law_spanning : DTS :=
  (dSeq (dSet 2 (dLstC dNil))
    (dSeq (dFor (dRange2 (dCons (dC (.int 1)) (dCons (dVar 1) dNil))) (tgN 3) (dSeq (dSet 4 (dCall c_take (dCons (dVar 0) (dCons (dVar 3) dNil))))
    (dDrop (dM gAppend (dVar 2) (dCons (dOp gIx (dLst (dCons (dTup (dCons (dVar 3) (dCons (dVar 4) dNil))) (dCons (dTup (dCons (dVar 4) (dCons (dVar 3) dNil))) dNil))) (dCall c_take (dCons (dVar 0) (dCons (dC (.int 2)) dNil)))) dNil)))))
    (dRet (dFz (dVar 2)))))
def t_law_more_ties : DTS :=
  (dSeq (dSet 4 (dLcC (dSeqI (dVar 1)) (tgN 8) dYes (dTup (dCons (dVar 8) (dCons (dC (.int 1)) dNil))) [8]))
    (dSeq (dFor (dRange1 (dCons (dCall c_take (dCons (dVar 0) (dCons (dOp gAdd (dVar 3) (dC (.int 1))) dNil))) dNil)) (tgN 5) (dSeq (dSet 6 (dCall c_take (dCons (dVar 0) (dCons (dVar 2) dNil))))
    (dSeq (dSet 7 (dOp (gI (fun _ j => j ≠ 0) fun i j => .int (i.fmod j)) (dOp gAdd (dOp gAdd (dVar 6) (dC (.int 1))) (dCall c_take (dCons (dVar 0) (dCons (dOp (gI0 fun i j => .int (i - j)) (dVar 2) (dC (.int 1))) dNil)))) (dVar 2)))
    (dDrop (dM gAppend (dVar 4) (dCons (dTup (dCons (dTup (dCons (dVar 6) (dCons (dVar 7) dNil))) (dCons (dC (.int 0)) dNil))) dNil))))))
    (dRet (dCall c_shuffled (dCons (dVar 0) (dCons (dFz (dVar 4)) dNil))))))
def t_law_web_wish : DTS :=
  (dSeq (dSet 2 (dOp gAdd (dC (.int 2)) (dCall c_take (dCons (dVar 0) (dCons (dC (.int 4)) dNil)))))
    (dSeq (dSet 3 (dCall c_more_ties (dCons (dVar 0) (dCons (dCall c_spanning (dCons (dVar 0) (dCons (dVar 2) dNil))) (dCons (dVar 2) (dCons (dC (.int 3)) dNil))))))
    (dSeq (dSet 4 (dCB gTuple (dCons (dLc (dSeqI (dVar 3)) (tgT (tgCons (tgN 12) (tgCons (tgN 13) tgNil))) dYes (dVar 12) [12, 13]) dNil)))
    (dSeq (dSet 5 (dLc (dSeqI (dVar 3)) (tgT (tgCons (tgN 12) (tgCons (tgN 13) tgNil))) dYes (dVar 13) [12, 13]))
    (dSeq (dIf (dB (dOp gEq (dVar 1) (dC (.int 1)))) (dRet (dTup (dCons (dTup (dCons (dC (.str (PySem.Str.ofString "tree"))) (dCons (dVar 2) (dCons (dVar 4) dNil)))) (dCons (dVar 5) dNil)))) dNext)
    (dSeq (dSet 6 (dCall c_take (dCons (dVar 0) (dCons (dVar 2) dNil))))
    (dSeq (dSet 7 (dOp (gI (fun _ j => j ≠ 0) fun i j => .int (i.fmod j)) (dOp gAdd (dOp gAdd (dVar 6) (dC (.int 1))) (dCall c_take (dCons (dVar 0) (dCons (dOp (gI0 fun i j => .int (i - j)) (dVar 2) (dC (.int 1))) dNil)))) (dVar 2)))
    (dSeq (dSet 8 (dLstC (dCons (dTup (dCons (dVar 6) (dCons (dOp gMul (dLst (dCons (dC (.int 0)) dNil)) (dCB gLen (dCons (dVar 4) dNil))) dNil))) dNil)))
    (dSeq (dWhile (dB (dOp gNe (dOp gIx (dOp gIx (dVar 8) (dC (.int 0))) (dC (.int 0))) (dVar 7))) (dSeq (dAsg (dM gPop1 (dVar 8) (dCons (dC (.int 0)) dNil)) (tgT (tgCons (tgN 9) (tgCons (tgN 10) tgNil))))
    (dFor (dEnum (dCons (dVar 4) dNil)) (tgT (tgCons (tgN 11) (tgCons (tgN 12) tgNil))) (dIf (dAnd (dB (dOp gEq (dOp gIx (dVar 5) (dVar 11)) (dC (.int 1)))) (dAnd (dB (dOp (gIn false) (dVar 9) (dVar 12))) (dB (dOp gEq (dOp gIx (dVar 10) (dVar 11)) (dC (.int 0)))))) (dDrop (dM gAppend (dVar 8) (dCons (dTup (dCons (dOp (gI0 fun i j => .int (i - j)) (dOp gAdd (dOp gIx (dVar 12) (dC (.int 0))) (dOp gIx (dVar 12) (dC (.int 1)))) (dVar 9)) (dCons (dOp gAdd (dOp gAdd (dSl (dVar 10) dNoPart (dPart (dVar 11))) (dLst (dCons (dC (.int 1)) dNil))) (dSl (dVar 10) (dPart (dOp gAdd (dVar 11) (dC (.int 1)))) dNoPart)) dNil))) dNil))) dNext))))
    (dRet (dTup (dCons (dTup (dCons (dC (.str (PySem.Str.ofString "way"))) (dCons (dVar 2) (dCons (dVar 4) (dCons (dVar 6) (dCons (dVar 7) dNil)))))) (dCons (dOp gIx (dOp gIx (dVar 8) (dC (.int 0))) (dC (.int 1))) dNil)))))))))))))
def t_law_pair_wish : DTS :=
  (dSeq (dSet 1 (dOp gAdd (dC (.int 1)) (dCall c_take (dCons (dVar 0) (dCons (dC (.int 4)) dNil)))))
    (dSeq (dSet 2 (dCall c_shuffled (dCons (dVar 0) (dCons (dLR1 nLst (dVar 1)) dNil))))
    (dSeq (dSet 3 (dLcC (dRange1 (dCons (dVar 1) dNil)) (tgN 5) dYes (dTup (dCons (dTup (dCons (dVar 5) (dCons (dOp gIx (dVar 2) (dVar 5)) dNil))) (dCons (dC (.int 1)) dNil))) [5]))
    (dSeq (dFor (dRange1 (dCons (dCall c_take (dCons (dVar 0) (dCons (dC (.int 4)) dNil))) dNil)) (tgN 4) (dDrop (dM gAppend (dVar 3) (dCons (dTup (dCons (dTup (dCons (dCall c_take (dCons (dVar 0) (dCons (dVar 1) dNil))) (dCons (dCall c_take (dCons (dVar 0) (dCons (dVar 1) dNil))) dNil))) (dCons (dC (.int 0)) dNil))) dNil))))
    (dSeq (dSet 3 (dCall c_shuffled (dCons (dVar 0) (dCons (dFz (dVar 3)) dNil))))
    (dRet (dTup (dCons (dTup (dCons (dC (.str (PySem.Str.ofString "pair"))) (dCons (dVar 1) (dCons (dCB gTuple (dCons (dLc (dSeqI (dVar 3)) (tgT (tgCons (tgN 6) (tgCons (tgN 7) tgNil))) dYes (dVar 6) [6, 7]) dNil)) dNil)))) (dCons (dLc (dSeqI (dVar 3)) (tgT (tgCons (tgN 6) (tgCons (tgN 7) tgNil))) dYes (dVar 7) [6, 7]) dNil)))))))))
def t_law_deal_wish : DTS :=
  (dSeq (dSet 1 (dOp gAdd (dC (.int 1)) (dCall c_take (dCons (dVar 0) (dCons (dC (.int 3)) dNil)))))
    (dSeq (dSet 2 (dOp gAdd (dC (.int 1)) (dCall c_take (dCons (dVar 0) (dCons (dOp gIx (dLst (dCons (dC (.int 6)) (dCons (dC (.int 3)) (dCons (dC (.int 2)) dNil)))) (dOp (gI0 fun i j => .int (i - j)) (dVar 1) (dC (.int 1)))) dNil)))))
    (dSeq (dSet 3 (dLc (dRange1 (dCons (dVar 2) dNil)) (tgN 7) dYes (dCall c_take (dCons (dVar 0) (dCons (dVar 1) dNil))) [7]))
    (dSeq (dSet 4 (dCB gTuple (dCons (dLc (dRange1 (dCons (dVar 1) dNil)) (tgN 6) dYes (dCB gMin2 (dCons (dC (.int 6)) (dCons (dOp gAdd (dM gCount (dVar 3) (dCons (dVar 6) dNil)) (dCall c_take (dCons (dVar 0) (dCons (dC (.int 2)) dNil)))) dNil))) [6]) dNil)))
    (dSeq (dSet 5 (dLst dNil))
    (dSeq (dFor (dRange1 (dCons (dVar 1) dNil)) (tgN 6) (dSet 5 (dOp gAdd (dVar 5) (dLc (dSeqI (dVar 3)) (tgN 8) dYes (dCB gInt (dCons (dOp gEq (dVar 8) (dVar 6)) dNil)) [8]))))
    (dRet (dTup (dCons (dTup (dCons (dC (.str (PySem.Str.ofString "deal"))) (dCons (dVar 4) (dCons (dVar 2) dNil)))) (dCons (dVar 5) dNil))))))))))
def t_law_stream_wish : DTS :=
  (dSeq (dSet 1 (dOp gAdd (dC (.int 2)) (dCall c_take (dCons (dVar 0) (dCons (dC (.int 3)) dNil)))))
    (dSeq (dSet 2 (dCall c_more_ties (dCons (dVar 0) (dCons (dSl (dCall c_spanning (dCons (dVar 0) (dCons (dVar 1) dNil))) dNoPart (dPart (dC (.int 3)))) (dCons (dVar 1) (dCons (dC (.int 1)) dNil))))))
    (dSeq (dSet 3 (dCB gTuple (dCons (dLc (dSeqI (dVar 2)) (tgT (tgCons (tgN 7) (tgCons (tgN 9) tgNil))) dYes (dVar 7) [7, 9]) dNil)))
    (dSeq (dSet 4 (dCB gTuple (dCons (dLc (dSeqI (dVar 3)) (tgN 7) dYes (dOp gAdd (dC (.int 1)) (dCall c_take (dCons (dVar 0) (dCons (dC (.int 2)) dNil)))) [7]) dNil)))
    (dSeq (dSet 5 (dLc (dSeqI (dVar 4)) (tgN 10) dYes (dCall c_take (dCons (dVar 0) (dCons (dOp gAdd (dVar 10) (dC (.int 1))) dNil))) [10]))
    (dSeq (dSet 6 (dOp gRepC (dLst (dCons (dC (.int 0)) dNil)) (dVar 1)))
    (dSeq (dFor (dZip2 (dCons (dVar 3) (dCons (dVar 5) dNil))) (tgT (tgCons (tgN 7) (tgCons (tgN 8) tgNil))) (dSeq (dSetIx (dOp gAdd (dOp gIx (dVar 6) (dOp gIx (dVar 7) (dC (.int 0)))) (dVar 8)) (dVar 6) (dOp gIx (dVar 7) (dC (.int 0))))
    (dSetIx (dOp (gI0 fun i j => .int (i - j)) (dOp gIx (dVar 6) (dOp gIx (dVar 7) (dC (.int 1)))) (dVar 8)) (dVar 6) (dOp gIx (dVar 7) (dC (.int 1))))))
    (dRet (dTup (dCons (dTup (dCons (dC (.str (PySem.Str.ofString "stream"))) (dCons (dVar 1) (dCons (dVar 3) (dCons (dVar 4) (dCons (dCB gTuple (dCons (dVar 6) dNil)) dNil)))))) (dCons (dVar 5) dNil)))))))))))
def t_law_bench_wish : DTS :=
  (dSeq (dSet 2 (dCB gTuple (dCons (dLc (dRange1 (dCons (dVar 1) dNil)) (tgN 5) dYes (dOp gAdd (dC (.int 1)) (dCall c_take (dCons (dVar 0) (dCons (dC (.int 4)) dNil)))) [5]) dNil)))
    (dSeq (dSet 3 (dOp gRepC (dLst (dCons (dC (.int 0)) dNil)) (dVar 1)))
    (dSeq (dSet 4 (dC (.int 0)))
    (dSeq (dFor (dSeqI (dCall c_shuffled (dCons (dVar 0) (dCons (dLR1 nLst (dVar 1)) dNil)))) (tgN 5) (dSeq (dSet 4 (dOp gAdd (dVar 4) (dOp gIx (dVar 2) (dVar 5))))
    (dSetIx (dVar 4) (dVar 3) (dVar 5))))
    (dRet (dTup (dCons (dTup (dCons (dC (.str (PySem.Str.ofString "bench"))) (dCons (dVar 2) dNil))) (dCons (dFz (dVar 3)) dNil))))))))
def t_law_wish : DTS :=
  (dSeq (dSet 1 (dCall c_take (dCons (dVar 0) (dCons (dC (.int 7)) dNil))))
    (dSeq (dIf (dOr (dB (dOp gLt (dVar 1) (dC (.int 2)))) (dB (dOp gEq (dVar 1) (dC (.int 6))))) (dRet (dCall c_web_wish (dCons (dVar 0) (dCons (dOp (gI (fun _ j => j ≠ 0) fun i j => .int (i.fmod j)) (dVar 1) (dC (.int 2))) dNil)))) dNext)
    (dSeq (dIf (dB (dOp gEq (dVar 1) (dC (.int 2)))) (dRet (dCall c_wish_of (dCons (dVar 0) dNil))) dNext)
    (dSeq (dIf (dB (dOp gEq (dVar 1) (dC (.int 3)))) (dRet (dCall c_wish_of (dCons (dVar 0) dNil))) dNext)
    (dSeq (dIf (dB (dOp gEq (dVar 1) (dC (.int 4)))) (dRet (dCall c_wish_of (dCons (dVar 0) dNil))) dNext)
    (dRet (dCall c_bench_wish (dCons (dVar 0) (dCons (dOp gAdd (dC (.int 1)) (dCall c_take (dCons (dVar 0) (dCons (dC (.int 4)) dNil)))) dNil)))))))))

theorem hb_law_plus : HB c_plus t_law_plus 2 := by
  intro ds μ Q X h
  obtain ⟨⟨a, b⟩, ⟨c, d⟩, rfl, hf, hg, q⟩ := h
  show t_law_plus (ends Q XF) [some (fr (a, b)), some (fr (c, d))] μ
  simp! only [t_law_plus, fr]
  exact ⟨mok hf.tb hg.bb, mok hg.tb hf.bb, mok hf.bb hg.bb, _, _, rfl, mul_ne hf.ne hg.ne, lt_mono (mul_lt hf.bb hg.bb) (by omega), .of q⟩
theorem hb_law_minus : HB c_minus t_law_minus 2 := by
  intro ds μ Q X h
  obtain ⟨⟨a, b⟩, ⟨c, d⟩, rfl, hf, hg, q⟩ := h
  show t_law_minus (ends Q XF) [some (fr (a, b)), some (fr (c, d))] μ
  simp! only [t_law_minus, fr]
  exact ⟨mok hf.tb hg.bb, mok hg.tb hf.bb, mok hf.bb hg.bb, _, _, rfl, mul_ne hf.ne hg.ne, lt_mono (mul_lt hf.bb hg.bb) (by omega), .of q⟩
theorem hb_law_times : HB c_times t_law_times 2 := by
  intro ds μ Q X h
  obtain ⟨⟨a, b⟩, ⟨c, d⟩, rfl, hf, hg, q⟩ := h
  show t_law_times (ends Q XF) [some (fr (a, b)), some (fr (c, d))] μ
  simp! only [t_law_times, fr]
  exact ⟨mok hf.tb hg.tb, mok hf.bb hg.bb, _, _, rfl, mul_ne hf.ne hg.ne, lt_mono (mul_lt hf.bb hg.bb) (by omega), .of q⟩
theorem hb_law_less : HB c_under t_law_less 2 := by
  intro ds μ Q X h
  obtain ⟨⟨a, b⟩, ⟨c, d⟩, rfl, hf, hg, q⟩ := h
  show t_law_less (ends Q XF) [some (fr (a, b)), some (fr (c, d))] μ
  simp! only [t_law_less, fr]
  exact ⟨mok hf.tb hg.bb, mok hg.tb hf.bb, .of q⟩
theorem hb_law_number : HB c_number t_law_number 2 := by
  intro ds μ Q X h
  obtain ⟨p, rfl, hp, q⟩ := h
  show t_law_number (ends Q XF) [some (.raw (.ref p)), none] μ
  simp! only [t_law_number]
  refine ⟨by decide, p, _, rfl, hp, by decide, by decide, fun r μ1 a1 b1 h1 o1 => ?_⟩
  walk_at "r"
  obtain ⟨x, ex, hx⟩ := atI_lt (xs := [D.int 1, D.int 1, D.int 2, D.int 3, D.int 4, D.int 6]) (i := r) a1 (by show r < 6; exact b1)
  rw [ex]
  obtain ⟨b, rfl, hb0, hb⟩ : ∃ t : Int, x = .int t ∧ 1 ≤ t ∧ t ≤ 6 := by
    have hr : r.toNat = 0 ∨ r.toNat = 1 ∨ r.toNat = 2 ∨ r.toNat = 3 ∨ r.toNat = 4 ∨ r.toNat = 5 := by omega
    rcases hr with e | e | e | e | e | e <;> rw [e] at hx <;> cases hx <;> exact ⟨_, rfl, by decide, by decide⟩
  walk_at "r"
  refine ⟨p, _, rfl, h1, by decide, by decide, fun r2 μ2 a2 b2 h2 o2 => ?_⟩
  walk_at "r"
  have z : (2 : Nat) ^ 8100 = 2 ^ 8 * 2 ^ 8092 := by rw [← Nat.pow_add]
  have hz : b.natAbs < 2 ^ 8100 := lt_mono (a := 5) (by omega) (by decide)
  refine ⟨_, _, rfl, by omega, hz, .of (q (low r2 b) μ2 ⟨ok_low (by omega) (by omega) (by omega), ?_⟩ h2 (o1.trans o2))⟩
  have e := low_cross (t := r2) (b := b) (by omega)
  have e2 := low_pos (t := r2) (b := b) (by omega)
  have e3 : 0 ≤ r2 * (low r2 b).2 := Int.mul_nonneg a2 (by omega)
  rw [← e] at e3
  rcases Int.lt_or_le (low r2 b).1 0 with h | h
  · have := Int.mul_neg_of_neg_of_pos h (show 0 < b by omega)
    omega
  · exact h
def t_law_price_tail : DTS := (dSeq (dIf (dB (dOp gEq (dVar 2) (dC (.int 3)))) (dSet 1 (dCall c_low (dCons (dOp (gI0 fun i j => .int (i - j)) (dCall c_take (dCons (dVar 0) (dCons (dOp (gI CPow fun i j => .int (i ^ j.toNat)) (dC (.int 10)) (dC (.int 11))) dNil))) (dOp (gI CPow fun i j => .int (i ^ j.toNat)) (dC (.int 10)) (dC (.int 10)))) (dCons (dOp gAdd (dC (.int 1)) (dCall c_take (dCons (dVar 0) (dCons (dC (.int 1000)) dNil)))) dNil)))) dNext) (dRet (dVar 1)))
theorem hb_law_price : HB c_price t_law_price 3 := by
  intro ds μ Q X h
  obtain ⟨p, rfl, hp, q⟩ := h
  show t_law_price (ends Q XF) [some (.raw (.ref p)), none, none] μ
  have p11 : (10 : Int) ^ Int.toNat 11 = 100000000000 := by decide
  have p10 : (10 : Int) ^ Int.toNat 10 = 10000000000 := by decide
  simp! only [t_law_price]
  refine ⟨p, rfl, hp, fun f μ1 hf h1 o1 => ?_⟩
  walk_at "r"
  refine ⟨p, _, rfl, h1, by decide, by decide, fun r μ2 a2 b2 h2 o2 => ?_⟩
  walk_at "r"
  have fin3 : ∀ g, Ok 40 g → r ≠ 3 → t_law_price_tail (ends Q XF) [some (.raw (.ref p)), some (fr g), some (.int r)] μ2 := fun g hg h3 => by
    simp! only [t_law_price_tail]
    refine ⟨rfl, rfl, ifS_dec (fun h => absurd h h3) (fun _ => ?_)⟩
    walk_at "r"
    exact .of (q g μ2 hg h2 (o1.trans o2))
  refine ⟨rfl, rfl, ifS_dec (fun h => ?_) (fun h => ?_)⟩
  · obtain ⟨a, b⟩ := f
    simp! only [fr]
    refine ⟨by decide, ?_⟩
    refine fin3 (0 - a, b) ?_ (by omega)
    have k := hf.1.mono (show 5 ≤ 40 by decide)
    exact ⟨k.pos, by have := k.cop; simpa using this, by have := k.tb; simpa using this, k.bb⟩
  · walk_at "r"
    refine ⟨rfl, rfl, ifS_dec (fun h3 => ?_) (fun h3 => ?_)⟩
    · simp! only [p11, p10]
      refine ⟨⟨by decide, by decide, by decide⟩, p, _, rfl, h2, by decide, by decide, fun r3 μ3 a3 b3 h3' o3 => ?_⟩
      simp! only [p11, p10]
      refine ⟨⟨by decide, by decide, by decide⟩, p, _, rfl, h3', by decide, by decide, fun r4 μ4 a4 b4 h4 o4 => ?_⟩
      walk_at "r"
      refine ⟨_, _, rfl, by omega, lt_mono (a := 40) (by omega) (by decide), ?_⟩
      walk_at "r"
      exact .of (q _ μ4 (ok_low (by omega) (by omega) (by omega)) h4 (((o1.trans o2).trans o3).trans o4))
    · walk_at "r"
      exact .of (q f μ2 (hf.1.mono (by decide)) h2 (o1.trans o2))
/-- all other cells but two -/
def Oth2 (μ μ' : M) (p c : Addr) : Prop := ∀ q, q ≠ p → q ≠ c → μ' q = μ q
theorem Oth2.del {μ μ' : M} {p c : Addr} (h0 : μ c = none) (h : Oth2 μ μ' p c) : Oth μ (delM μ' c) p := fun q hq => by
  unfold delM
  by_cases e : q = c
  · rw [if_pos e, e, h0]
  · rw [if_neg e]
    exact h q hq e
theorem Oth2.step {μ μ' μ2 : M} {p c : Addr} (h : Oth2 μ μ' p c) (o : Oth μ' μ2 p) : Oth2 μ μ2 p c := fun q h1 h2 => (o q h1).trans (h q h1 h2)
theorem Oth2.put {μ μ' : M} {p c : Addr} {x : C} (h : Oth2 μ μ' p c) : Oth2 μ (updM μ' c x) p c := fun q h1 h2 => by rw [updM_ne h2]; exact h q h1 h2
theorem Oth2.new {μ μ' : M} {p c : Addr} {x : C} (o : Oth μ μ' p) : Oth2 μ (updM μ' c x) p c := fun q h1 h2 => by rw [updM_ne h2]; exact o q h1
theorem pool_ne {μ : M} {p c : Addr} (h : Pool μ p) (h0 : μ c = none) : c ≠ p := fun e => by
  obtain ⟨_, _, h, _⟩ := h
  rw [← e, h0] at h
  cases h
theorem pool_del {μ : M} {p c : Addr} (hne : c ≠ p) (h : Pool μ p) : Pool (delM μ c) p := by
  obtain ⟨a, b, h, r⟩ := h
  exact ⟨a, b, by unfold delM; rw [if_neg (Ne.symm hne)]; exact h, r⟩
theorem pool_upd {μ : M} {p c : Addr} {x : C} (hne : c ≠ p) (h : Pool μ p) : Pool (updM μ c x) p := by
  obtain ⟨a, b, h, r⟩ := h
  exact ⟨a, b, by rw [updM_ne (Ne.symm hne)]; exact h, r⟩
theorem oth_cell {μ μ' : M} {p c : Addr} {x : Option C} (o : Oth μ μ' p) (hne : c ≠ p) (h : μ c = x) : μ' c = x := (o c hne).trans h
theorem perm_ins {α : Type} {ys zs : List α} {d : α} (r : Nat) (h : ys.Perm zs) : (ys.take r ++ [d] ++ ys.drop r).Perm (zs ++ [d]) := by
  have h1 : (ys.take r ++ [d] ++ ys.drop r).Perm (d :: ys) := by
    have := List.perm_middle (a := d) (l₁ := ys.take r) (l₂ := ys.drop r)
    rw [List.take_append_drop] at this
    simpa using this
  refine h1.trans ((List.Perm.cons d h).trans ?_)
  have := List.perm_append_comm (l₁ := [d]) (l₂ := zs)
  simpa using this
theorem hb_law_shuffled : HB c_shuffled t_law_shuffled 4 := by
  intro ds μ Q X h
  obtain ⟨p, xs, rfl, hp, hl, q⟩ := h
  show t_law_shuffled (ends Q XF) [some (.raw (.ref p)), some (.lst xs), none, none] μ
  simp! only [t_law_shuffled]
  refine ⟨by decide, fun c hc => ?_⟩
  have hne := pool_ne hp hc
  walk_at "r"
  refine ⟨fun i δ μ' => ∃ ys x, ys.Perm (xs.take i) ∧ δ = [some (.raw (.ref p)), some (.lst xs), some (.raw (.ref c)), x] ∧ Pool μ' p ∧ μ' c = some (.lst ys) ∧ Oth2 μ μ' p c,
    ⟨[], none, by simp, rfl, pool_upd hne hp, updM_same, Oth2.new (Oth.refl _ _)⟩, ?_⟩
  rintro i δ μ' ⟨ys, x, hys, rfl, hp', hc', ho⟩
  have hyl : ys.length ≤ 1000 := by rw [hys.length_eq, List.length_take]; omega
  refine ⟨trivial, fun d hd => ?_, fun hi => ?_⟩
  · simp! only [view_cell hc']
    refine ⟨isL_cell hc', p, _, rfl, hp', by omega, by omega, fun r μ2 a2 b2 h2 o2 => ?_⟩
    walk_at "r"
    refine ⟨ys, oth_cell o2 hne hc', Nat.lt_of_le_of_lt hyl (by decide), a2, by omega, ?_⟩
    exact ⟨_, _, by rw [take_succ hd]; exact perm_ins _ hys, rfl, pool_upd hne h2, updM_same, (ho.step o2).put⟩
  · walk_at "r"
    refine ⟨ys, hc', .of (q ys _ ?_ (pool_del hne hp') (ho.del hc))⟩
    rw [hi, List.take_length] at hys
    exact hys
theorem hb_law_spanning : HB c_spanning t_law_spanning 5 := by
  intro ds μ Q X h
  obtain ⟨p, m, rfl, hp, hm, hm2, q⟩ := h
  show t_law_spanning (ends Q XF) [some (.raw (.ref p)), some (.int m), none, none, none] μ
  simp! only [t_law_spanning]
  refine ⟨by decide, fun c hc => ?_⟩
  have hne := pool_ne hp hc
  walk_at "r"
  refine ⟨⟨by decide, by decide, by omega, by omega⟩, ?_⟩
  refine ⟨fun i δ μ' => ∃ (T : List (Int × Int)) (x y : Option D), T.length = i ∧ (∀ i t, T[i]? = some t → Par i t) ∧ i ≤ (m - 1).toNat ∧ δ = [some (.raw (.ref p)), some (.int m), some (.raw (.ref c)), x, y] ∧ Pool μ' p ∧ μ' c = some (.lst (T.map fr)) ∧ Oth2 μ μ' p c,
    ⟨[], none, none, rfl, by simp, by omega, rfl, pool_upd hne hp, updM_same, Oth2.new (Oth.refl _ _)⟩, ?_⟩
  rintro i δ μ' ⟨T, x, y, hT, hpar, hi, rfl, hp', hc', ho⟩
  refine ⟨trivial, fun d hd => ?_, fun hi => ?_⟩
  · obtain ⟨rfl, hlt⟩ := rangeD_some hd
    walk_at "r"
    refine ⟨p, _, rfl, hp', by omega, by omega, fun r μ2 a2 b2 h2 o2 => ?_⟩
    walk_at "r"
    have hc2 := oth_cell o2 hne hc'
    refine ⟨isL_cell hc2, by decide, by decide, by decide, p, _, rfl, h2, by decide, by decide, fun r2 μ3 a3 b3 h3 o3 => ?_⟩
    walk_at "r"
    obtain ⟨z, ez, hz⟩ := atI_lt (xs := [D.tup [.int (1 + (i : Int)), .int r], D.tup [.int r, .int (1 + (i : Int))]]) (i := r2) a3 (by show r2 < 2; exact b3)
    rw [ez]
    obtain ⟨t, rfl, ht⟩ : ∃ t, z = fr t ∧ Par i t := by
      have hr : r2.toNat = 0 ∨ r2.toNat = 1 := by omega
      rcases hr with e | e <;> rw [e] at hz <;> cases hz
      · exact ⟨(1 + (i : Int), r), rfl, .inl ⟨by show 1 + (i : Int) = i + 1; omega, a2, by show r ≤ i; omega⟩⟩
      · exact ⟨(r, 1 + (i : Int)), rfl, .inr ⟨by show 1 + (i : Int) = i + 1; omega, a2, by show r ≤ i; omega⟩⟩
    walk_at "r"
    refine ⟨T.map fr, oth_cell o3 hne hc2, by rw [List.length_map, hT]; exact Nat.lt_of_lt_of_le (show i < 1000 by omega) (by decide), ?_⟩
    refine ⟨T ++ [t], _, _, by rw [List.length_append, hT]; rfl, fun j u hu => ?_, by omega, rfl, pool_upd hne h3, ?_, ((ho.step o2).step o3).put⟩
    · by_cases hj : j < T.length
      · rw [List.getElem?_append_left hj] at hu
        exact hpar j u hu
      · rw [List.getElem?_append_right (by omega)] at hu
        have : j - T.length = 0 := by
          rcases Nat.eq_zero_or_pos (j - T.length) with e | e
          · exact e
          · rw [List.getElem?_eq_none (by simp; omega)] at hu
            cases hu
        rw [this] at hu
        cases hu
        have : j = i := by omega
        rw [this]
        exact ht
    · rw [updM_same, List.map_append]
      rfl
  · walk_at "r"
    rw [rangeD_len] at hi
    exact ⟨_, hc', .of (q T _ ⟨by omega, hpar⟩ (pool_del hne hp') (ho.del hc))⟩
theorem fr_inj_map {T : List (Int × Int)} {i : Nat} {d : D} (h : (T.map fr)[i]? = some d) : ∃ t, T[i]? = some t ∧ d = fr t := by
  rw [List.getElem?_map] at h
  obtain ⟨t, h1, h2⟩ := Option.map_eq_some_iff.mp h
  exact ⟨t, h1, h2.symm⟩
theorem map_some {α : Type} {f : α → D} {T : List α} {i : Nat} {d : D} (h : (T.map f)[i]? = some d) : ∃ t, T[i]? = some t ∧ d = f t := by
  rw [List.getElem?_map] at h
  obtain ⟨t, h1, h2⟩ := Option.map_eq_some_iff.mp h
  exact ⟨t, h1, h2.symm⟩
theorem perm_map {α : Type} {f : α → D} {T : List α} : ∀ {ys : List D}, ys.Perm (T.map f) → ∃ S : List α, ys = S.map f ∧ S.Perm T := by
  intro ys h
  have : ∀ {a b : List D}, a.Perm b → ∀ T : List α, b = T.map f → ∃ S : List α, a = S.map f ∧ S.Perm T := by
    intro a b h
    induction h with
    | nil => intro T e; cases T with
      | nil => exact ⟨[], rfl, .refl _⟩
      | cons _ _ => cases e
    | cons x _ ih => intro T e; cases T with
      | nil => cases e
      | cons t T =>
        rw [List.map_cons] at e
        injection e with e1 e2
        obtain ⟨S, h1, h2⟩ := ih T e2
        exact ⟨t :: S, by rw [List.map_cons, h1, e1], h2.cons t⟩
    | swap x y l => intro T e
                    match T, e with
                    | t :: u :: T, e =>
                      rw [List.map_cons, List.map_cons] at e
                      injection e with e1 e2
                      injection e2 with e2 e3
                      exact ⟨u :: t :: T, by rw [List.map_cons, List.map_cons, e1, e2, e3], .swap ..⟩
                    | [_], e => cases e
                    | [], e => cases e
    | trans _ _ ih1 ih2 =>
      intro T e
      obtain ⟨S, h1, h2⟩ := ih2 T e
      obtain ⟨R, h3, h4⟩ := ih1 S h1
      exact ⟨R, h3, h4.trans h2⟩
  exact this h T rfl
theorem fmod_em {a b : Int} (h : 0 < b) : a.fmod b = a % b := Int.fmod_eq_emod_of_nonneg a (Int.le_of_lt h)
theorem other_ne {m a r : Int} (hm : 2 ≤ m) (ha : 0 ≤ a) (ha2 : a < m) (hr : 0 ≤ r) (hr2 : r < m - 1) : 0 ≤ (a + 1 + r).fmod m ∧ (a + 1 + r).fmod m < m ∧ a ≠ (a + 1 + r).fmod m := by
  rw [fmod_em (by omega)]
  have h1 := Int.emod_nonneg (a + 1 + r) (show m ≠ 0 by omega)
  have h2 := Int.emod_lt_of_pos (a + 1 + r) (show 0 < m by omega)
  refine ⟨h1, h2, fun e => ?_⟩
  by_cases h : a + 1 + r < m
  · rw [Int.emod_eq_of_lt (by omega) h] at e
    omega
  · have : (a + 1 + r) % m = a + 1 + r - m := by
      rw [← Int.sub_emod_right, Int.emod_eq_of_lt (by omega) (by omega)]
    omega
theorem hb_law_more_ties : HB c_more_ties t_law_more_ties 9 := by
  intro ds μ Q X h
  obtain ⟨p, T, m, l, rfl, hp, hm, hm2, hl, hl2, hTl, q⟩ := h
  show t_law_more_ties (ends Q XF) [some (.raw (.ref p)), some (.lst (T.map fr)), some (.int m), some (.int l), none, none, none, none, none] μ
  simp! only [t_law_more_ties]
  refine ⟨fun i acc μ' => μ' = μ ∧ acc = (T.take i).map fun t => tk (t, 1), ⟨rfl, by simp⟩, ?_⟩
  rintro i acc μ' ⟨rfl, rfl⟩
  refine ⟨trivial, fun d hd => ?_, fun hi => ?_⟩
  · obtain ⟨t, ht, rfl⟩ := map_some hd
    walk_at "r"
    refine ⟨by decide, ?_, ?_⟩
    · rw [List.length_map, List.length_take]
      exact Nat.lt_of_le_of_lt (show min i T.length ≤ 100 by omega) (by decide)
    · rw [take_succ ht, List.map_append]
      rfl
  · rw [List.length_map] at hi
    subst hi
    rw [List.take_length]
    intro c hc
    have hne := pool_ne hp hc
    walk_at "r"
    refine ⟨p, _, rfl, pool_upd hne hp, by omega, by omega, fun r μ1 a1 b1 h1 o1 => ?_⟩
    walk_at "r"
    refine ⟨⟨by omega, by omega⟩, ?_⟩
    have hc1 := oth_cell o1 hne updM_same
    have ho1 : Oth2 μ' μ1 p c := (Oth2.new (Oth.refl _ _)).step o1
    refine ⟨fun i δ μ2 => ∃ (E : List (Int × Int)) (x y z : Option D), E.length = i ∧ (∀ t ∈ E, Tie m t) ∧ δ = [some (.raw (.ref p)), some (.lst (T.map fr)), some (.int m), some (.int l), some (.raw (.ref c)), x, y, z, none] ∧ Pool μ2 p ∧
      μ2 c = some (.lst ((T.map (·, (1 : Int)) ++ E.map (·, (0 : Int))).map tk)) ∧ Oth2 μ' μ2 p c, ⟨[], none, none, none, rfl, by simp, rfl, h1, ?_, ho1⟩, ?_⟩
    · rw [hc1]
      simp
    · rintro i δ μ2 ⟨E, x, y, z, hE, hT, rfl, hp2, hc2, ho2⟩
      refine ⟨trivial, fun d hd => ?_, fun hi => ?_⟩
      · obtain ⟨rfl, hlt⟩ := rangeD_some hd
        walk_at "r"
        refine ⟨p, _, rfl, hp2, by omega, by omega, fun r2 μ3 a3 b3 h3 o3 => ?_⟩
        walk_at "r"
        refine ⟨p, _, rfl, h3, by omega, by omega, fun r3 μ4 a4 b4 h4 o4 => ?_⟩
        walk_at "r"
        have hc4 := oth_cell o4 hne (oth_cell o3 hne hc2)
        obtain ⟨k1, k2, k3⟩ := other_ne hm a3 b3 a4 b4
        refine ⟨by omega, isL_cell hc4, by decide, by decide, _, hc4, ?_, ?_⟩
        · rw [List.length_map, List.length_append, List.length_map, List.length_map]
          exact Nat.lt_of_lt_of_le (show T.length + E.length < 1000 by omega) (by decide)
        · refine ⟨E ++ [(r2, (r2 + 1 + r3).fmod m)], _, _, _, by rw [List.length_append, hE]; rfl, fun t ht => ?_, rfl, pool_upd hne h4, ?_, ((ho2.step o3).step o4).put⟩
          · rcases List.mem_append.mp ht with h | h
            · exact hT t h
            · rw [List.mem_singleton.mp h]
              exact ⟨a3, b3, k1, k2, k3⟩
          · rw [updM_same]
            simp [tk, fr]
      · rw [rangeD_len] at hi
        walk_at "r"
        refine ⟨_, hc2, p, _, rfl, pool_del hne hp2, ?_, fun ys μ5 hys h5 o5 => ?_⟩
        · rw [List.length_map, List.length_append, List.length_map, List.length_map]
          omega
        · obtain ⟨S, rfl, hS⟩ := perm_map hys
          exact .of (q S μ5 ⟨E, by omega, hT, hS⟩ h5 ((ho2.del hc).trans o5))
/-- a comprehension that draws nothing -/
theorem comp_pure {α : Type} {xs : List α} {ok : M → Prop} {enc g : α → D} {f : TGD} {tt : DTT} {te : DTE} {Q : List D → M → Prop} {δ : Sl} {μ : M} (ho : ok μ) (hl : xs.length < sizeLine)
    (st : ∀ x ∈ xs, ∀ (acc : List D) (R : List D → M → Prop), acc.length < sizeLine → R (acc ++ [g x]) μ → turnC (f μ (enc x)) tt te acc R δ μ) (q : Q (xs.map g) μ) : compJ ok f tt te Q δ (xs.map enc) μ := by
  refine ⟨fun i acc μ' => μ' = μ ∧ acc = (xs.take i).map g, ⟨rfl, by simp⟩, ?_⟩
  rintro i acc μ' ⟨rfl, rfl⟩
  refine ⟨ho, fun d hd => ?_, fun hi => ?_⟩
  · obtain ⟨x, hx, rfl⟩ := map_some hd
    refine st x (List.mem_of_getElem? hx) _ _ ?_ ⟨rfl, ?_⟩
    · rw [List.length_map, List.length_take]
      exact Nat.lt_of_le_of_lt (Nat.min_le_right _ _) hl
    · rw [take_succ hx, List.map_append]
      rfl
  · rw [List.length_map] at hi
    rw [hi, List.take_length]
    exact q
theorem atI_nat {α : Type} {xs : List α} {i : Nat} : atI xs (i : Int) = xs[i]? := by
  unfold atI ixN
  rw [if_pos (by omega)]
  by_cases h : i < xs.length
  · rw [if_pos (by omega)]
    rfl
  · rw [if_neg (by omega), List.getElem?_eq_none (by omega)]
    rfl
theorem ixN_nat {n i : Nat} (h : i < n) : ixN n (i : Int) = some i := by
  unfold ixN
  rw [if_pos (by omega), if_pos (by omega)]
  rfl
theorem cut_take {xs : List D} {i : Nat} : cutD xs none (some (i : Int)) = xs.take i := by
  unfold cutD
  rw [HT.sIx_none, HT.sIx_nat, Nat.sub_zero, List.drop_zero]
  by_cases h : i ≤ xs.length
  · rw [Nat.min_eq_left h]
  · rw [Nat.min_eq_right (by omega), List.take_length, List.take_of_length_le (by omega)]
theorem cut_drop {xs : List D} {i : Nat} : cutD xs (some ((i : Int) + 1)) none = xs.drop (i + 1) := by
  unfold cutD
  rw [HT.sIx_none, show ((i : Int) + 1) = ((i + 1 : Nat) : Int) by omega, HT.sIx_nat]
  by_cases h : i + 1 ≤ xs.length
  · rw [Nat.min_eq_left h, List.take_of_length_le (by rw [List.length_drop]; omega)]
  · rw [Nat.min_eq_right (by omega), Nat.sub_self, List.take_zero, List.drop_eq_nil_of_le (by omega)]
theorem inD_two {h a b : Int} : inD (.int h) [.int a, .int b] = decide (a = h ∨ b = h) := by
  unfold inD
  rw [List.any_cons, List.any_cons, List.any_nil, eqD_int, eqD_int, Bool.or_false, Bool.decide_or]
theorem More.len {m l : Int} {T : List (Int × Int)} {F : List ((Int × Int) × Int)} (h : More m l T F) : T.length ≤ F.length ∧ (F.length : Int) ≤ T.length + l := by
  obtain ⟨E, h1, _, h3⟩ := h
  have := h3.length_eq
  rw [List.length_append, List.length_map, List.length_map] at this
  omega
theorem More.bit {m l : Int} {T : List (Int × Int)} {F : List ((Int × Int) × Int)} (h : More m l T F) : ∀ x ∈ F, x.2 = 0 ∨ x.2 = 1 := fun x hx => by
  obtain ⟨E, h1, _, h3⟩ := h
  rcases List.mem_append.mp (h3.mem_iff.mp hx) with h | h
  · obtain ⟨t, _, rfl⟩ := List.mem_map.mp h
    exact .inr rfl
  · obtain ⟨t, _, rfl⟩ := List.mem_map.mp h
    exact .inl rfl
theorem down_of {m l : Int} {T : List (Int × Int)} {F : List ((Int × Int) × Int)} (sp : Span m T) (h : More m l T F) : Down m F := fun p h1 h2 => by
  obtain ⟨E, _, _, h3⟩ := h
  have hi : (p - 1).toNat < T.length := by have := sp.1; omega
  have hg := List.getElem?_eq_getElem hi
  have hp := sp.2 _ _ hg
  have hm : (T[(p - 1).toNat], (1 : Int)) ∈ F := h3.mem_iff.mpr (List.mem_append_left _ (List.mem_map.mpr ⟨_, List.getElem_mem hi, rfl⟩))
  obtain ⟨j, hj⟩ := List.getElem?_of_mem hm
  refine ⟨j, _, hj, ?_⟩
  unfold Par at hp
  omega
def encR (n : Nat) (x : Int × List Nat) : D := .tup [.int x.1, .lst ((ind n x.2).map D.int)]
theorem hope_first {m b e : Int} {F : List ((Int × Int) × Int)} (hd : Down m F) (hb : 0 ≤ b) (hb2 : b < m) (he : 0 ≤ e) (he2 : e < m) : Hope F e (b, []) := by
  obtain ⟨is, h1, h2, h3⟩ := trail_ex hd (b + e).toNat b e hb hb2 he he2 (by omega)
  refine ⟨is, h1, h2, by simp, fun i hi => ?_⟩
  obtain ⟨t, c, k, _⟩ := h3 i hi
  exact (List.getElem?_eq_some_iff.mp k).1
theorem sq0 {n : Nat} : seqIndex? 0 (n + 1) = some 0 := by
  unfold seqIndex?
  simp
theorem hb_law_web_wish : HB c_web_wish t_law_web_wish 14 := by
  intro ds μ Q X h
  obtain ⟨p, w, rfl, hp, q⟩ := h
  show t_law_web_wish (ends Q XF) [some (.raw (.ref p)), some (.int w), none, none, none, none, none, none, none, none, none, none, none, none] μ
  simp! only [t_law_web_wish]
  refine ⟨p, _, rfl, hp, by decide, by decide, fun r1 μ1 a1 b1 h1 o1 => ?_⟩
  walk_at "r"
  refine ⟨p, _, rfl, h1, by omega, by omega, fun T μ2 hT h2 o2 => ?_⟩
  have hTl := hT.1
  walk_at "r"
  refine ⟨p, T, _, _, rfl, h2, by omega, by omega, by decide, by decide, by omega, fun F μ3 hF h3 o3 => ?_⟩
  have hFl := hF.len
  have hFs : F.length < sizeLine := Nat.lt_of_lt_of_le (show F.length < 1000 by omega) (by decide)
  generalize hm : (2 : Int) + r1 = m at *
  walk_at "r"
  refine comp_pure (enc := tk) (g := fun x => fr x.1) trivial hFs (fun x hx acc R ha hR => ?_) ?_
  · simp! only [tk]
    exact ⟨ha, hR⟩
  walk_at "r"
  refine comp_pure (enc := tk) (g := fun x => .int x.2) trivial hFs (fun x hx acc R ha hR => ?_) ?_
  · simp! only [tk]
    exact ⟨ha, hR⟩
  have e5 : (F.map fun x => D.int x.2) = (F.map (·.2)).map D.int := by rw [List.map_map]; rfl
  have o3' := (o1.trans o2).trans o3
  walk_at "r"
  refine ⟨rfl, rfl, ifS_dec (fun h => ?_) (fun h => ?_)⟩
  · walk_at "r"
    refine ⟨by show 3 ≤ sizeLine; decide, by show 2 ≤ sizeLine; decide, .of ?_⟩
    rw [e5]
    exact q (_, _) μ3 (Wish.tree ⟨by omega, by omega⟩ hT hF) h3 o3'
  · walk_at "r"
    refine ⟨p, _, rfl, h3, by omega, by omega, fun b μ4 a4 b4 h4 o4 => ?_⟩
    walk_at "r"
    refine ⟨p, _, rfl, h4, by omega, by omega, fun r μ5 a5 b5 h5 o5 => ?_⟩
    have o5' := (o3'.trans o4).trans o5
    obtain ⟨k1, k2, k3⟩ := other_ne (show 2 ≤ m by omega) a4 b4 a5 b5
    walk_at "r"
    generalize (b + 1 + r).fmod m = e at *
    refine ⟨by omega, by decide, ⟨by omega, by rw [List.length_map]; omega, ?_⟩, by decide, by decide, fun c hc => ?_⟩
    · rw [List.length_map]
      show 1 * F.length ≤ sizeLine
      omega
    have hne := pool_ne h5 hc
    have hd := down_of hT hF
    have enc0 : [D.tup [D.int b, D.lst (List.replicate (((F.map fun x => fr x.1).length : Int)).toNat [D.int 0]).flatten]] = [((b, []) : Int × List Nat)].map (encR F.length) := by
      rw [List.map_cons, List.map_nil, encR, ind_nil, List.length_map, Int.toNat_natCast, List.flatten_replicate_singleton, List.map_replicate]
    rw [enc0]
    walk_at "r"
    refine while_by (fun n δ μ' => ∃ (R : Row) (x9 x10 x11 x12 : Option D), δ = [some (.raw (.ref p)), some (.int w), some (.int m), some (.lst (F.map tk)), some (tiesD F), some (.lst ((F.map (·.2)).map D.int)), some (.int b), some (.int e), some (.raw (.ref c)), x9, x10, x11, x12, none] ∧
      Pool μ' p ∧ μ' c = some (.lst (R.map (encR F.length))) ∧ Oth2 μ μ' p c ∧ (∀ x ∈ R, RowOk F b x) ∧ (∃ x ∈ R, Hope F e x) ∧ n = wgts F.length R ∧ n ≤ 2097152)
      ⟨[(b, [])], none, none, none, none, by rw [e5]; rfl, pool_upd hne h5, updM_same, Oth2.new o5', ?_, ⟨_, List.mem_singleton_self _, hope_first hd a4 b4 k1 k2⟩, rfl, wgts_first (by omega)⟩ ?_
    · intro x hx
      rw [List.mem_singleton.mp hx]
      exact ⟨rfl, List.nodup_nil, by simp⟩
    rintro n δ μ' ⟨R, x9, x10, x11, x12, rfl, hp', hc', ho, hR, hH, rfl, hw⟩
    cases R with
    | nil => obtain ⟨x, hx, _⟩ := hH; cases hx
    | cons x R =>
      rw [List.map_cons] at hc'
      simp! only [view_cell hc', encR]
      refine ⟨rfl, rfl, ifS_ndec (fun hx => ?_) (fun hx => ?_)⟩
      · walk_at "r"
        refine ⟨isL_cell hc', _, 0, _, hc', by decide, by decide, sq0, rfl, ?_⟩
        simp! only [encR, tiesD]
        have hxo := hR x List.mem_cons_self
        refine ⟨fun i δ μ2 => i ≤ F.length ∧ ∃ (x11 x12 : Option D), δ = [some (.raw (.ref p)), some (.int w), some (.int m), some (.lst (F.map tk)), some (tiesD F), some (.lst ((F.map (·.2)).map D.int)), some (.int b), some (.int e), some (.raw (.ref c)), some (.int x.1), some (.lst ((ind F.length x.2).map D.int)), x11, x12, none] ∧
          Pool μ2 p ∧ μ2 c = some (.lst ((R ++ ext F x i).map (encR F.length))) ∧ Oth2 μ μ2 p c, ⟨Nat.zero_le _, x11, x12, rfl, pool_upd hne hp', ?_, ho.put⟩, ?_⟩
        · rw [updM_same]
          simp [ext, encR]
        rintro i δ μ2 ⟨hil, x11, x12, rfl, hp2, hc2, ho2⟩
        refine ⟨trivial, fun d hd => ?_, fun hi => ?_⟩
        · have hd2 : (enumL 0 (F.map fun x => fr x.1))[i]? = some d := hd
          rw [enumL_get, List.getElem?_map] at hd2
          cases hFi : F[i]? with
          | none => rw [hFi] at hd2; cases hd2
          | some y =>
            rw [hFi] at hd2
            cases hd2
            obtain ⟨⟨t1, t2⟩, cc⟩ := y
            have hlt : i < F.length := (List.getElem?_eq_some_iff.mp hFi).1
            have g1 : ((F.map (·.2)).map D.int)[i]? = some (.int cc) := by rw [List.getElem?_map, List.getElem?_map, hFi]; rfl
            have g2 : ((ind F.length x.2).map D.int)[i]? = some (.int (if i ∈ x.2 then 1 else 0)) := by rw [List.getElem?_map, ind_get hlt]; rfl
            have no : step1 F x i = [] → (fun i δ μ2 => i ≤ F.length ∧ ∃ (x11 x12 : Option D), δ = [some (.raw (.ref p)), some (.int w), some (.int m), some (.lst (F.map tk)), some (tiesD F), some (.lst ((F.map (·.2)).map D.int)), some (.int b), some (.int e), some (.raw (.ref c)), some (.int x.1), some (.lst ((ind F.length x.2).map D.int)), x11, x12, none] ∧
                Pool μ2 p ∧ μ2 c = some (.lst ((R ++ ext F x i).map (encR F.length))) ∧ Oth2 μ μ2 p c) (i + 1) [some (.raw (.ref p)), some (.int w), some (.int m), some (.lst (F.map tk)), some (tiesD F), some (.lst ((F.map (·.2)).map D.int)), some (.int b), some (.int e), some (.raw (.ref c)), some (.int x.1), some (.lst ((ind F.length x.2).map D.int)), some (.int (i : Int)), some (fr (t1, t2)), none] μ2 := fun hs =>
              ⟨hlt, _, _, rfl, hp2, by rw [ext_succ, hs, List.append_nil]; exact hc2, ho2⟩
            simp! only [fr, Int.zero_add, atI_nat, g1, g2, inD_two, flatD]
            refine ⟨rfl, rfl, ifAnd_dec (fun hk1 => ?_) (fun hk1 => ?_)⟩
            · simp! only [fr, Int.zero_add, atI_nat, g1, g2, inD_two, flatD]
              refine ifAnd_dec (fun hk2 => ?_) (fun hk2 => ?_)
              · simp! only [fr, Int.zero_add, atI_nat, g1, g2, inD_two, flatD]
                refine ⟨rfl, rfl, ifS_dec (fun hk3 => ?_) (fun hk3 => ?_)⟩
                · simp! only [fr, Int.zero_add, atI_nat, g1, g2, inD_two, flatD, cut_take, cut_drop]
                  have hrl := row_len (m := F.length) R
                  have hel := ext_len (F := F) (x := x) i
                  have hw2 : wgts F.length R ≤ wgts F.length (x :: R) := by
                    show (R.map (wgt F.length)).sum ≤ ((x :: R).map (wgt F.length)).sum
                    rw [List.map_cons, List.sum_cons]
                    omega
                  have hle : (ind F.length x.2).length = F.length := ind_len
                  have hni : i ∉ x.2 := fun z => by rw [if_pos z] at hk3; exact absurd hk3 (by decide)
                  have hs : step1 F x i = [(t1 + t2 - x.1, x.2 ++ [i])] := by
                    unfold step1
                    rw [hFi]
                    dsimp only
                    rw [if_pos ⟨hk1, hk2, hni⟩]
                  have sz : 16777216 ≤ sizeLine := by decide
                  have hcut : (((ind F.length x.2).map D.int).take i ++ [D.int 1] ++ ((ind F.length x.2).map D.int).drop (i + 1)) = (ind F.length (x.2 ++ [i])).map D.int := by
                    rw [take_drop_set (by rw [List.length_map, hle]; exact hlt), ← ind_set, List.map_set]
                  refine ⟨isL_cell hc2, by decide, ?_, ?_, by decide, _, hc2, ?_, hlt, _, _, rfl, pool_upd hne hp2, ?_, ho2.put⟩
                  · rw [List.length_take, List.length_map, hle]
                    omega
                  · rw [List.length_append, List.length_take, List.length_drop, List.length_map, hle]
                    show min i F.length + 1 + (F.length - (i + 1)) ≤ sizeLine
                    omega
                  · rw [List.length_map, List.length_append]
                    omega
                  · rw [updM_same, hcut, ext_succ, hs]
                    simp [encR]
                · walk_at "r"
                  refine no ?_
                  unfold step1
                  rw [hFi]
                  dsimp only
                  rw [if_neg fun z => hk3 (by rw [if_neg z.2.2])]
              · walk_at "r"
                refine no ?_
                unfold step1
                rw [hFi]
                dsimp only
                rw [if_neg fun z => hk2 z.2.1]
            · walk_at "r"
              refine no ?_
              unfold step1
              rw [hFi]
              dsimp only
              rw [if_neg fun z => hk1 z.1]
        · have hi2 : i = F.length := by
            have : i = (enumL 0 (F.map fun x => fr x.1)).length := hi
            rw [enumL_len, List.length_map] at this
            exact this
          subst hi2
          have hless : wgts F.length (R ++ ext F x F.length) < wgts F.length (x :: R) := by
            rw [wgts_app]
            have := ext_less hxo
            show _ < ((x :: R).map (wgt F.length)).sum
            rw [List.map_cons, List.sum_cons]
            unfold wgts at *
            omega
          refine ⟨_, hless, R ++ ext F x F.length, _, _, _, _, rfl, hp2, hc2, ho2, fun y hy => ?_, ?_, rfl, by omega⟩
          · rcases List.mem_append.mp hy with h | h
            · exact hR y (List.mem_cons_of_mem _ h)
            · exact ext_ok hxo h
          · obtain ⟨y, hy, hH⟩ := hH
            rcases List.mem_cons.mp hy with h | h
            · subst h
              obtain ⟨z, hz, hz2⟩ := ext_hope hH hx
              exact ⟨z, List.mem_append_right _ hz, hz2⟩
            · exact ⟨y, List.mem_append_left _ h, hH⟩
      · simp! only [view_cell hc', encR]
        refine ⟨by show 5 ≤ sizeLine; decide, by show 2 ≤ sizeLine; decide, ⟨delM μ' c, Sub.del c, ?_⟩⟩
        exact q (_, _) _ (Wish.way ⟨by omega, by omega⟩ hT hF ⟨a4, b4⟩ ⟨k1, k2⟩ k3 (hx ▸ hR x List.mem_cons_self)) (pool_del hne hp') (ho.del ((o5' c hne).symm.trans hc))
/-- two lists, item by item -/
def All2 {α β : Type} (P : α → β → Prop) (xs : List α) (ys : List β) : Prop := ys.length = xs.length ∧ ∀ (i : Nat) x y, xs[i]? = some x → ys[i]? = some y → P x y
theorem All2.nil {α β : Type} {P : α → β → Prop} : All2 P [] [] := ⟨rfl, fun i x y h => by simp at h⟩
theorem All2.snoc {α β : Type} {P : α → β → Prop} {xs : List α} {ys : List β} {x : α} {y : β} (h : All2 P xs ys) (hp : P x y) : All2 P (xs ++ [x]) (ys ++ [y]) := by
  refine ⟨by rw [List.length_append, List.length_append, h.1]; rfl, fun i u v h1 h2 => ?_⟩
  by_cases hi : i < xs.length
  · rw [List.getElem?_append_left hi] at h1
    rw [List.getElem?_append_left (by rw [h.1]; exact hi)] at h2
    exact h.2 i u v h1 h2
  · rw [List.getElem?_append_right (by omega)] at h1
    rw [List.getElem?_append_right (by rw [h.1]; omega), h.1] at h2
    cases e : i - xs.length with
    | zero =>
      rw [e] at h1 h2
      cases h1
      cases h2
      exact hp
    | succ n =>
      rw [e] at h1
      simp at h1
theorem All2.mem {α β : Type} {P : α → β → Prop} {xs : List α} {ys : List β} (h : All2 P xs ys) {y : β} (hy : y ∈ ys) : ∃ x ∈ xs, P x y := by
  obtain ⟨i, hi⟩ := List.getElem?_of_mem hy
  have hl : i < xs.length := by rw [← h.1]; exact (List.getElem?_eq_some_iff.mp hi).1
  exact ⟨xs[i], List.getElem_mem hl, h.2 i _ y (List.getElem?_eq_getElem hl) hi⟩
/-- a comprehension that draws -/
theorem comp_draw {α β : Type} {xs : List α} {ok : M → Prop} {enc : α → D} {g : β → D} {P : α → β → Prop} {p : Addr} {f : TGD} {tt : DTT} {te : DTE} {Q : List D → M → Prop} {δ : Sl} {μ : M} (ho : ∀ μ', Oth μ μ' p → ok μ') (hp : Pool μ p) (hl : xs.length < sizeLine)
    (st : ∀ x ∈ xs, ∀ (acc : List D) (R : List D → M → Prop) (μ' : M), Pool μ' p → Oth μ μ' p → acc.length < sizeLine → (∀ y μ2, P x y → Pool μ2 p → Oth μ' μ2 p → R (acc ++ [g y]) μ2) → turnC (f μ' (enc x)) tt te acc R δ μ')
    (q : ∀ (ys : List β) μ', All2 P xs ys → Pool μ' p → Oth μ μ' p → Q (ys.map g) μ') : compJ ok f tt te Q δ (xs.map enc) μ := by
  refine ⟨fun i acc μ' => ∃ ys : List β, acc = ys.map g ∧ All2 P (xs.take i) ys ∧ Pool μ' p ∧ Oth μ μ' p, ⟨[], rfl, .nil, hp, Oth.refl _ _⟩, ?_⟩
  rintro i acc μ' ⟨ys, rfl, h2, hp', o⟩
  refine ⟨ho μ' o, fun d hd => ?_, fun hi => ?_⟩
  · obtain ⟨x, hx, rfl⟩ := map_some hd
    refine st x (List.mem_of_getElem? hx) _ _ _ hp' o ?_ fun y μ2 hy h3 o3 => ⟨ys ++ [y], by rw [List.map_append]; rfl, by rw [take_succ hx]; exact h2.snoc hy, h3, o.trans o3⟩
    rw [List.length_map, h2.1, List.length_take]
    exact Nat.lt_of_le_of_lt (Nat.min_le_right _ _) hl
  · rw [List.length_map] at hi
    subst hi
    rw [List.take_length] at h2
    exact q ys μ' h2 hp' o
theorem rangeD_map {a : Int} {n : Nat} : rangeD a n = (List.range n).map fun i : Nat => D.int (a + (i : Nat)) := rfl
theorem rangeD_upTo {n : Nat} : rangeD 0 n = (upTo n).map D.int := by
  unfold rangeD upTo
  rw [List.map_map]
  apply List.map_congr_left
  intro i _
  show D.int (0 + (i : Int)) = D.int (Int.ofNat i)
  rw [Int.zero_add]
  rfl
theorem upTo_len {n : Nat} : (upTo n).length = n := by unfold upTo; rw [List.length_map, List.length_range]
theorem atI_int {ns : List Int} {i : Int} (h0 : 0 ≤ i) (h1 : i < ns.length) : atI (ns.map D.int) i = some (.int (ns.getD i.toNat 0)) := by
  obtain ⟨x, e1, e2⟩ := atI_lt (xs := ns.map D.int) h0 (by rw [List.length_map]; exact h1)
  rw [e1, ← e2, List.getElem?_map, List.getD_eq_getElem?_getD]
  have : i.toNat < ns.length := by omega
  rw [List.getElem?_eq_getElem this]
  rfl
theorem ixN_int {n : Nat} {i : Int} (h0 : 0 ≤ i) (h1 : i < n) : ixN n i = some i.toNat := by
  unfold ixN
  rw [if_pos h0, if_pos h1]
theorem hb_law_pair_wish : HB c_wish_of t_law_pair_wish 8 := by
  intro ds μ Q X h
  obtain ⟨p, rfl, hp, q⟩ := h
  show t_law_pair_wish (ends Q XF) [some (.raw (.ref p)), none, none, none, none, none, none, none] μ
  simp! only [t_law_pair_wish]
  refine ⟨p, _, rfl, hp, by decide, by decide, fun r1 μ1 a1 b1 h1 o1 => ?_⟩
  walk_at "r"
  generalize hm : (1 : Int) + r1 = m at *
  have hmn : (m.toNat : Int) = m := by omega
  refine ⟨⟨by omega, by omega⟩, p, _, rfl, h1, by rw [rangeD_len]; omega, fun ys μ2 hys h2 o2 => ?_⟩
  rw [rangeD_upTo] at hys
  obtain ⟨R, rfl, hR⟩ := perm_map hys
  have hRl : R.length = m.toNat := by rw [hR.length_eq, upTo_len]
  walk_at "r"
  refine ⟨⟨by omega, by omega⟩, ?_⟩
  rw [rangeD_map]
  have sz : 16777216 ≤ sizeLine := by decide
  refine comp_pure (enc := fun i : Nat => D.int (0 + (i : Nat))) (g := fun i : Nat => tk (((i : Int), R.getD i 0), 1)) trivial (by rw [List.length_range]; omega) (fun i hi acc R' ha hR' => ?_) ?_
  · have hi' := List.mem_range.mp hi
    have e := atI_int (ns := R) (i := (i : Int)) (by omega) (by omega)
    simp! only [Int.zero_add, e]
    exact ⟨by decide, by decide, ha, hR'⟩
  intro c hc
  have o2' := o1.trans o2
  have hne := pool_ne h2 hc
  have e0 : ((List.range m.toNat).map fun i : Nat => tk (((i : Int), R.getD i 0), 1)) = (R.mapIdx fun i r => (((i : Int), r), (1 : Int))).map tk := by
    apply List.ext_getElem?
    intro i
    rw [List.getElem?_map, List.getElem?_map, List.getElem?_mapIdx]
    by_cases hi : i < m.toNat
    · rw [List.getElem?_range hi, List.getElem?_eq_getElem (show i < R.length by omega)]
      simp [List.getD_eq_getElem?_getD, List.getElem?_eq_getElem (show i < R.length by omega)]
    · rw [List.getElem?_eq_none (by rw [List.length_range]; omega), List.getElem?_eq_none (show R.length ≤ i by omega)]
      rfl
  rw [e0]
  generalize hB : (R.mapIdx fun i r => (((i : Int), r), (1 : Int))) = B
  have hBl : B.length = m.toNat := by rw [← hB, List.length_mapIdx, hRl]
  walk_at "r"
  refine ⟨p, _, rfl, pool_upd hne h2, by decide, by decide, fun r3 μ3 a3 b3 h3 o3 => ?_⟩
  walk_at "r"
  refine ⟨⟨by omega, by omega⟩, ?_⟩
  refine ⟨fun i δ μ2 => ∃ (E : List (Int × Int)) (x : Option D), E.length = i ∧ (∀ t ∈ E, 0 ≤ t.1 ∧ t.1 < m ∧ 0 ≤ t.2 ∧ t.2 < m) ∧ δ = [some (.raw (.ref p)), some (.int m), some (.lst (R.map D.int)), some (.raw (.ref c)), x, none, none, none] ∧ Pool μ2 p ∧
      μ2 c = some (.lst ((B ++ E.map (·, (0 : Int))).map tk)) ∧ Oth2 μ μ2 p c, ⟨[], none, rfl, by simp, rfl, h3, ?_, (Oth2.new o2').step o3⟩, ?_⟩
  · rw [oth_cell o3 hne updM_same]
    simp
  · rintro i δ μ4 ⟨E, x, hE, hT, rfl, hp4, hc4, ho4⟩
    refine ⟨trivial, fun d hd => ?_, fun hi => ?_⟩
    · obtain ⟨rfl, hlt⟩ := rangeD_some hd
      walk_at "r"
      refine ⟨isL_cell hc4, p, _, rfl, hp4, by omega, by omega, fun r5 μ5 a5 b5 h5 o5 => ?_⟩
      walk_at "r"
      refine ⟨p, _, rfl, h5, by omega, by omega, fun r6 μ6 a6 b6 h6 o6 => ?_⟩
      walk_at "r"
      refine ⟨by decide, by decide, _, oth_cell o6 hne (oth_cell o5 hne hc4), ?_, ?_⟩
      · rw [List.length_map, List.length_append, List.length_map, hBl]
        omega
      · refine ⟨E ++ [(r5, r6)], _, by rw [List.length_append, hE]; rfl, fun t ht => ?_, rfl, pool_upd hne h6, ?_, ((ho4.step o5).step o6).put⟩
        · rcases List.mem_append.mp ht with h | h
          · exact hT t h
          · rw [List.mem_singleton.mp h]
            exact ⟨a5, b5, a6, b6⟩
        · rw [updM_same]
          simp [tk, fr]
    · rw [rangeD_len] at hi
      walk_at "r"
      refine ⟨_, hc4, p, _, rfl, pool_del hne hp4, ?_, fun ys μ5 hys h5 o5 => ?_⟩
      · rw [List.length_map, List.length_append, List.length_map, hBl]
        omega
      · obtain ⟨F, rfl, hF⟩ := perm_map hys
        have hFl : F.length ≤ 20 := by rw [hF.length_eq, List.length_append, List.length_map, hBl]; omega
        walk_at "r"
        refine comp_pure (enc := tk) (g := fun x => fr x.1) trivial (by omega) (fun x hx acc R ha hR => ?_) ?_
        · simp! only [tk]
          exact ⟨ha, hR⟩
        walk_at "r"
        refine ⟨by show 3 ≤ sizeLine; decide, ?_⟩
        refine comp_pure (enc := tk) (g := fun x => .int x.2) trivial (by omega) (fun x hx acc R ha hR => ?_) ?_
        · simp! only [tk]
          exact ⟨ha, hR⟩
        walk_at "r"
        have e5 : (F.map fun x => D.int x.2) = (F.map (·.2)).map D.int := by rw [List.map_map]; rfl
        refine ⟨by show 2 ≤ sizeLine; decide, .of ?_⟩
        rw [e5]
        exact q (_, _) μ5 (Wish.pair (R := R) (E := E) ⟨by omega, by omega⟩ hR (by omega) hT (hB ▸ hF)) h5 ((ho4.del ((o2' c hne).symm.trans hc)).trans o5)
theorem hb_law_deal_wish : HB c_wish_of t_law_deal_wish 9 := by
  intro ds μ Q X h
  obtain ⟨p, rfl, hp, q⟩ := h
  show t_law_deal_wish (ends Q XF) [some (.raw (.ref p)), none, none, none, none, none, none, none, none] μ
  have sz : 16777216 ≤ sizeLine := by decide
  simp! only [t_law_deal_wish]
  refine ⟨p, _, rfl, hp, by decide, by decide, fun r1 μ1 a1 b1 h1 o1 => ?_⟩
  walk_at "r"
  obtain ⟨z, ez, hz⟩ := atI_lt (xs := [D.int 6, D.int 3, D.int 2]) (i := 1 + r1 - 1) (by omega) (by show 1 + r1 - 1 < 3; omega)
  rw [ez]
  obtain ⟨h, hh⟩ : ∃ h : Nat, (1 : Int) + r1 = h := ⟨(1 + r1).toNat, by omega⟩
  obtain ⟨k, rfl, k0, kb⟩ : ∃ k : Int, z = .int k ∧ 2 ≤ k ∧ (h : Int) * k ≤ 6 := by
    have hr : (1 + r1 - 1).toNat = 0 ∨ (1 + r1 - 1).toNat = 1 ∨ (1 + r1 - 1).toNat = 2 := by omega
    rcases hr with e | e | e <;> rw [e] at hz <;> cases hz
    · exact ⟨6, rfl, by decide, by omega⟩
    · exact ⟨3, rfl, by decide, by omega⟩
    · exact ⟨2, rfl, by decide, by omega⟩
  rw [hh]
  refine ⟨by decide, p, _, rfl, h1, by omega, ?_, fun r2 μ2 a2 b2 h2 o2 => ?_⟩
  · have : 1 * k ≤ (h : Int) * k := Int.mul_le_mul_of_nonneg_right (by omega) (by omega)
    omega
  obtain ⟨w, hw⟩ : ∃ w : Nat, (1 : Int) + r2 = w := ⟨(1 + r2).toNat, by omega⟩
  have hw6 : h * w ≤ 6 := by
    have : (h : Int) * w ≤ (h : Int) * k := Int.mul_le_mul_of_nonneg_left (by omega) (by omega)
    have e : ((h * w : Nat) : Int) = (h : Int) * w := Int.natCast_mul h w
    omega
  have hw7 : w ≤ 6 := Nat.le_trans (Nat.le_mul_of_pos_left w (show 0 < h by omega)) hw6
  walk_at "r"
  rw [hw]
  refine ⟨⟨by omega, by omega⟩, ?_⟩
  rw [rangeD_map]
  refine comp_draw (p := p) (P := fun _ d => 0 ≤ d ∧ d < (h : Int)) (g := D.int) (fun _ _ => trivial) h2 (by rw [List.length_range]; omega) (fun x hx acc R μ' hp' o' ha hR => ?_) (fun dealt μ3 hd h3 o3 => ?_)
  · walk_at "r"
    exact ⟨p, _, rfl, hp', by omega, by omega, fun r3 μ4 a4 b4 h4 o4 => ⟨ha, hR r3 μ4 ⟨a4, b4⟩ h4 o4⟩⟩
  have hdl : dealt.length = w := by rw [hd.1, List.length_range]; omega
  have hdb : ∀ d ∈ dealt, 0 ≤ d ∧ d < (h : Int) := fun d hm => (hd.mem hm).elim fun _ z => z.2
  walk_at "r"
  refine ⟨⟨by omega, by omega⟩, ?_⟩
  rw [rangeD_map]
  refine comp_draw (xs := List.range (h : Int).toNat) (enc := fun i : Nat => D.int (0 + (i : Nat))) (p := p) (P := fun (i : Nat) (r : Int) => ((dealt.count (i : Int) : Nat) : Int) ≤ r ∧ r ≤ 6) (g := D.int) (fun _ _ => trivial) h3 (by rw [List.length_range]; omega) (fun x hx acc R μ' hp' o' ha hR => ?_) (fun rooms μ4 hr h4 o4 => ?_)
  · simp! only [Int.zero_add]
    have hcl := List.count_le_length (a := (x : Int)) (l := dealt)
    refine ⟨isL_lst, dealt, rfl, p, _, rfl, hp', by decide, by decide, fun r3 μ4 a4 b4 h4 o4 => ?_⟩
    walk_at "r"
    refine ⟨ha, hR _ μ4 ⟨?_, ?_⟩ h4 o4⟩
    · split <;> omega
    · split <;> omega
  have hrl : rooms.length = h := by rw [hr.1, List.length_range]; omega
  walk_at "r"
  refine ⟨by decide, ⟨by omega, by omega⟩, ?_⟩
  have hone : ∀ i : Nat, (dealt.map fun d => if d = (i : Int) then (1 : Int) else 0).length = w := fun i => by rw [List.length_map, hdl]
  have hfl : ∀ i : Nat, ((List.range i).flatMap fun (i : Nat) => dealt.map fun d => if d = (i : Int) then (1 : Int) else 0).length = i * w := by
    intro i
    induction i with
    | zero => simp
    | succ i ih => rw [List.range_succ, List.flatMap_append, List.length_append, ih, List.flatMap_singleton, hone, Nat.succ_mul]
  refine ⟨fun i δ μ' => μ' = μ4 ∧ i ≤ h ∧ ∃ x : Option D, δ = [some (.raw (.ref p)), some (.int h), some (.int w), some (.lst (dealt.map D.int)), some (.tup (rooms.map D.int)), some (.lst (((List.range i).flatMap fun (i : Nat) => dealt.map fun d => if d = (i : Int) then (1 : Int) else 0).map D.int)), x, none, none],
    ⟨rfl, Nat.zero_le _, none, rfl⟩, ?_⟩
  rintro i δ μ' ⟨rfl, hih, x, rfl⟩
  refine ⟨trivial, fun d hd => ?_, fun hi => ?_⟩
  · obtain ⟨rfl, hlt⟩ := rangeD_some hd
    walk_at "r"
    refine comp_pure (enc := D.int) (g := fun d => D.int (if d = (i : Int) then 1 else 0)) trivial (by omega) (fun d hd' acc R ha hR => ?_) ?_
    · simp! only [Int.zero_add]
      refine ⟨rfl, rfl, ha, ?_⟩
      simpa using hR
    · walk_at "r"
      have hlt' : i < h := by omega
      have hiw : i * w + w ≤ 6 := Nat.le_trans (by rw [← Nat.succ_mul]; exact Nat.mul_le_mul_right w hlt') hw6
      refine ⟨?_, by omega, some (.int (0 + (i : Nat))), ?_⟩
      · rw [List.length_map, List.length_map, hfl, hdl]
        omega
      · rw [List.range_succ, List.flatMap_append, List.flatMap_singleton, List.map_append, List.map_map]
        rfl
  · rw [rangeD_len] at hi
    have hih' : i = h := by omega
    subst hih'
    walk_at "r"
    exact ⟨by decide, by decide, .of (q (_, _) μ' (Wish.deal ⟨by omega, by omega⟩ (by omega) hw6 hdl hdb hrl fun j r hj => hr.2 j j r (by
      rw [List.getElem?_range]
      have := (List.getElem?_eq_some_iff.mp hj).1
      omega) hj) h4 (((o1.trans o2).trans o3).trans o4))⟩
theorem span_tie {m : Int} {T : List (Int × Int)} (sp : Span m T) : ∀ t ∈ T, Tie m t := fun t ht => by
  obtain ⟨i, hi⟩ := List.getElem?_of_mem ht
  have h1 := sp.2 i t hi
  have h2 := (List.getElem?_eq_some_iff.mp hi).1
  have h3 := sp.1
  unfold Par at h1
  unfold Tie
  omega
theorem more_tie {m l : Int} {T : List (Int × Int)} {F : List ((Int × Int) × Int)} (h : More m l T F) (ht : ∀ t ∈ T, Tie m t) : ∀ x ∈ F, Tie m x.1 := fun x hx => by
  obtain ⟨E, _, h2, h3⟩ := h
  rcases List.mem_append.mp (h3.mem_iff.mp hx) with h | h
  · obtain ⟨t, h4, rfl⟩ := List.mem_map.mp h
    exact ht t h4
  · obtain ⟨t, h4, rfl⟩ := List.mem_map.mp h
    exact h2 t h4
theorem cut_take3 {xs : List D} : cutD xs none (some 3) = xs.take 3 := cut_take (i := 3)
theorem fl_len {ns : List Int} {x : (Int × Int) × Int} : (fl ns x).length = ns.length := by unfold fl; rw [List.length_set, List.length_set]
theorem flow_len {xs : List ((Int × Int) × Int)} : ∀ {ns : List Int}, (xs.foldl fl ns).length = ns.length := by
  induction xs with
  | nil => intro ns; rfl
  | cons x xs ih => intro ns; rw [List.foldl_cons, ih, fl_len]
theorem hb_law_stream_wish : HB c_wish_of t_law_stream_wish 11 := by
  intro ds μ Q X h
  obtain ⟨p, rfl, hp, q⟩ := h
  show t_law_stream_wish (ends Q XF) [some (.raw (.ref p)), none, none, none, none, none, none, none, none, none, none] μ
  have sz : 16777216 ≤ sizeLine := by decide
  simp! only [t_law_stream_wish]
  refine ⟨p, _, rfl, hp, by decide, by decide, fun r1 μ1 a1 b1 h1 o1 => ?_⟩
  walk_at "r"
  generalize hm : (2 : Int) + r1 = m at *
  refine ⟨p, _, rfl, h1, by omega, by omega, fun T μ2 hT h2 o2 => ?_⟩
  have hTl := hT.1
  simp! only [cut_take3]
  refine ⟨p, T.take 3, _, _, by rw [List.map_take], h2, by omega, by omega, by decide, by decide, by rw [List.length_take]; omega, fun F μ3 hF h3 o3 => ?_⟩
  have hFl := hF.len
  have hFt : ∀ x ∈ F, Tie m x.1 := more_tie hF fun t ht => span_tie hT t (List.mem_of_mem_take ht)
  rw [List.length_take] at hFl
  walk_at "r"
  refine comp_pure (enc := tk) (g := fun x => fr x.1) trivial (by omega) (fun x hx acc R ha hR => ?_) ?_
  · simp! only [tk]
    exact ⟨ha, hR⟩
  walk_at "r"
  refine comp_draw (xs := F) (enc := fun x => fr x.1) (p := p) (P := fun _ (r : Int) => 1 ≤ r ∧ r ≤ 2) (g := D.int) (fun _ _ => trivial) h3 (by omega) (fun x hx acc R μ' hp' o' ha hR => ?_) (fun rooms μ4 hr h4 o4 => ?_)
  · walk_at "r"
    exact ⟨p, _, rfl, hp', by decide, by decide, fun r3 μ4 a4 b4 h4 o4 => ⟨ha, hR _ μ4 ⟨by omega, by omega⟩ h4 o4⟩⟩
  have hrb : ∀ r ∈ rooms, 1 ≤ r ∧ r ≤ 2 := fun r hm => (hr.mem hm).elim fun _ z => z.2
  walk_at "r"
  refine comp_draw (xs := rooms) (enc := D.int) (p := p) (P := fun (r c : Int) => 0 ≤ c ∧ c ≤ r) (g := D.int) (fun _ _ => trivial) h4 (by rw [hr.1]; omega) (fun x hx acc R μ' hp' o' ha hR => ?_) (fun cs μ5 hcs h5 o5 => ?_)
  · have := hrb x hx
    walk_at "r"
    exact ⟨p, _, rfl, hp', by omega, by omega, fun r3 μ4 a4 b4 h4 o4 => ⟨ha, hR _ μ4 ⟨by omega, by omega⟩ h4 o4⟩⟩
  have o5' := (((o1.trans o2).trans o3).trans o4).trans o5
  have hcl : cs.length = F.length := by rw [hcs.1, hr.1]
  walk_at "r"
  refine ⟨by decide, ⟨by omega, by omega, by show 1 * m.toNat ≤ sizeLine; omega⟩, fun c hc => ?_⟩
  have hne := pool_ne h5 hc
  have e0 : (List.replicate m.toNat [D.int 0]).flatten = (List.replicate m.toNat (0 : Int)).map D.int := by rw [List.flatten_replicate_singleton, List.map_replicate]
  rw [e0]
  walk_at "r"
  generalize hz : (F.map (·.1)).zip cs = zs
  have hzl : zs.length = F.length := by rw [← hz, List.length_zip, List.length_map, hcl, Nat.min_self]
  refine ⟨fun i δ μ' => i ≤ zs.length ∧ ∃ (x y : Option D), δ = [some (.raw (.ref p)), some (.int m), some (.lst (F.map tk)), some (tiesD F), some (.tup (rooms.map D.int)), some (.lst (cs.map D.int)), some (.raw (.ref c)), x, y, none, none] ∧ Pool μ' p ∧
    μ' c = some (.lst (((zs.take i).foldl fl (List.replicate m.toNat 0)).map D.int)) ∧ Oth2 μ μ' p c, ⟨Nat.zero_le _, none, none, rfl, pool_upd hne h5, updM_same, Oth2.new o5'⟩, ?_⟩
  rintro i δ μ' ⟨hil, x, y, rfl, hp', hc', ho⟩
  refine ⟨trivial, fun d hd => ?_, fun hi => ?_⟩
  · obtain ⟨d1, d2, hd1, hd2, rfl⟩ := zipL_get (show (zipL (F.map fun x => fr x.1) (cs.map D.int))[i]? = some d from hd)
    obtain ⟨f, hf, rfl⟩ := map_some hd1
    obtain ⟨n, hn, rfl⟩ := map_some hd2
    obtain ⟨t1, t2, t3, t4, _⟩ := hFt f (List.mem_of_getElem? hf)
    have hzi : zs[i]? = some (f.1, n) := by
      rw [← hz, List.getElem?_zip_eq_some]
      exact ⟨by rw [List.getElem?_map, hf]; rfl, hn⟩
    have hlt : i < zs.length := (List.getElem?_eq_some_iff.mp hzi).1
    generalize hN : (zs.take i).foldl fl (List.replicate m.toNat 0) = N at *
    have hNl : N.length = m.toNat := by rw [← hN, flow_len, List.length_replicate]
    have e1 := atI_int (ns := N) (i := f.1.1) t1 (by omega)
    simp! only [fr, view_cell hc', e1]
    refine ⟨_, hc', ?_⟩
    rw [List.length_map, ixN_int t1 (by omega)]
    walk_at "r"
    rw [← List.map_set]
    have e2 := atI_int (ns := N.set f.1.1.toNat (N.getD f.1.1.toNat 0 + n)) (i := f.1.2) t3 (by rw [List.length_set]; omega)
    simp! only [fr, view_cell (updM_same (μ := μ') (p := c) (c := C.lst ((N.set f.1.1.toNat (N.getD f.1.1.toNat 0 + n)).map D.int))), e2]
    refine ⟨_, updM_same, ?_⟩
    rw [List.length_map, List.length_set, ixN_int t3 (by omega)]
    walk_at "r"
    rw [← List.map_set, updM_upd]
    refine ⟨hlt, _, _, rfl, pool_upd hne hp', ?_, ho.put⟩
    rw [updM_same, take_succ hzi, List.foldl_append, hN]
    rfl
  · have hi2 : i = zs.length := by
      have : i = (zipL (F.map fun x => fr x.1) (cs.map D.int)).length := hi
      rw [zipL_len, List.length_map, List.length_map, hcl, Nat.min_self] at this
      omega
    subst hi2
    rw [List.take_length] at hc'
    simp! only [view_cell hc']
    refine ⟨by show 5 ≤ sizeLine; decide, by show 2 ≤ sizeLine; decide, ⟨delM μ' c, Sub.del c, ?_⟩⟩
    rw [← hz]
    exact q (_, _) _ (Wish.stream ⟨by omega, by omega⟩ hT hF hr.1 hrb hcl fun j n r h1 h2 => hcs.2 j r n h2 h1) (pool_del hne hp') (ho.del ((o5' c hne).symm.trans hc))
theorem dones_len {lasts : List Int} : ∀ (os : List Int) (t : Int) (acc : List Int), (dones lasts os t acc).length = acc.length
  | [], _, _ => rfl
  | o :: os, t, acc => by rw [dones, dones_len os, List.length_set]
theorem dones_bd {lasts : List Int} (hl : ∀ l ∈ lasts, 1 ≤ l ∧ l ≤ 4) : ∀ (os : List Int) (t : Int) (acc : List Int) (B : Int), 0 ≤ t → t + 4 * os.length ≤ B → (∀ n ∈ acc, 0 ≤ n ∧ n ≤ B) → ∀ n ∈ dones lasts os t acc, 0 ≤ n ∧ n ≤ B
  | [], _, _, _, _, _, h => h
  | o :: os, t, acc, B, ht, hB, h => by
    have hx : 0 ≤ lasts.getD o.toNat 0 ∧ lasts.getD o.toNat 0 ≤ 4 := by
      rw [List.getD_eq_getElem?_getD]
      cases e : lasts[o.toNat]? with
      | none => simp
      | some l => have := hl l (List.mem_of_getElem? e); simp; omega
    rw [dones]
    rw [List.length_cons] at hB
    refine dones_bd hl os _ _ B (by omega) (by omega) fun n hn => ?_
    rcases List.mem_or_eq_of_mem_set hn with h1 | h1
    · exact h n h1
    · rw [h1]
      omega
theorem perm_range {R : List Int} {n : Nat} (h : R.Perm (upTo n)) : ∀ r ∈ R, 0 ≤ r ∧ r < n := fun r hr => by
  have := h.mem_iff.mp hr
  unfold upTo at this
  obtain ⟨i, hi, rfl⟩ := List.mem_map.mp this
  have := List.mem_range.mp hi
  exact ⟨Int.natCast_nonneg i, by show ((i : Nat) : Int) < n; omega⟩
theorem hb_law_bench_wish : HB c_bench_wish t_law_bench_wish 6 := by
  intro ds μ Q X h
  obtain ⟨p, w, rfl, hw, hw8, hp, q⟩ := h
  show t_law_bench_wish (ends Q XF) [some (.raw (.ref p)), some (.int w), none, none, none, none] μ
  have sz : 16777216 ≤ sizeLine := by decide
  simp! only [t_law_bench_wish]
  refine ⟨⟨by omega, by omega⟩, ?_⟩
  rw [rangeD_map]
  refine comp_draw (xs := List.range w.toNat) (enc := fun i : Nat => D.int (0 + (i : Nat))) (p := p) (P := fun _ (r : Int) => 1 ≤ r ∧ r ≤ 4) (g := D.int) (fun _ _ => trivial) hp (by rw [List.length_range]; omega) (fun x hx acc R μ' hp' o' ha hR => ?_) (fun lasts μ1 hl h1 o1 => ?_)
  · walk_at "r"
    exact ⟨p, _, rfl, hp', by decide, by decide, fun r3 μ4 a4 b4 h4 o4 => ⟨ha, hR _ μ4 ⟨by omega, by omega⟩ h4 o4⟩⟩
  have hll : lasts.length = w.toNat := by rw [hl.1, List.length_range]
  have hlb : ∀ r ∈ lasts, 1 ≤ r ∧ r ≤ 4 := fun r hm => (hl.mem hm).elim fun _ z => z.2
  walk_at "r"
  refine ⟨by decide, ⟨by omega, by omega, by show 1 * w.toNat ≤ sizeLine; omega⟩, fun c hc => ?_⟩
  have hne := pool_ne h1 hc
  have e0 : (List.replicate w.toNat [D.int 0]).flatten = (List.replicate lasts.length (0 : Int)).map D.int := by rw [List.flatten_replicate_singleton, List.map_replicate, hll]
  rw [e0]
  walk_at "r"
  refine ⟨⟨by omega, by omega⟩, p, _, rfl, pool_upd hne h1, by rw [rangeD_len]; omega, fun ys μ2 hys h2 o2 => ?_⟩
  rw [rangeD_upTo] at hys
  obtain ⟨R, rfl, hR⟩ := perm_map hys
  have hRb := perm_range hR
  rw [← hll] at hR hRb
  walk_at "r"
  refine ⟨fun i δ μ' => ∃ (t : Int) (acc : List Int) (x : Option D), acc.length = lasts.length ∧ dones lasts (R.drop i) t acc = dones lasts R 0 (List.replicate lasts.length 0) ∧ δ = [some (.raw (.ref p)), some (.int w), some (.tup (lasts.map D.int)), some (.raw (.ref c)), some (.int t), x] ∧ Pool μ' p ∧
    μ' c = some (.lst (acc.map D.int)) ∧ Oth2 μ μ' p c, ⟨0, List.replicate lasts.length 0, none, List.length_replicate, rfl, rfl, h2, oth_cell o2 hne updM_same, (Oth2.new o1).step o2⟩, ?_⟩
  rintro i δ μ' ⟨t, acc, x, hal, hdn, rfl, hp', hc', ho⟩
  refine ⟨trivial, fun d hd => ?_, fun hi => ?_⟩
  · obtain ⟨o, ho', rfl⟩ := map_some hd
    obtain ⟨b1, b2⟩ := hRb o (List.mem_of_getElem? ho')
    have e1 := atI_int (ns := lasts) (i := o) b1 b2
    simp! only [e1]
    refine ⟨_, hc', ?_⟩
    rw [List.length_map, ixN_int b1 (by omega)]
    walk_at "r"
    rw [← List.map_set]
    refine ⟨_, _, _, by rw [List.length_set]; exact hal, ?_, rfl, pool_upd hne hp', updM_same, ho.put⟩
    rw [← hdn, drop_of ho']
    rfl
  · rw [List.length_map] at hi
    subst hi
    rw [List.drop_length] at hdn
    walk_at "r"
    refine ⟨by show 2 ≤ sizeLine; decide, _, hc', by show 2 ≤ sizeLine; decide, .of ?_⟩
    rw [show acc = _ from hdn]
    exact q (_, _) _ ⟨Wish.bench ⟨by omega, by omega⟩ hlb hR, by rw [dones_len, List.length_replicate]; omega, _, rfl⟩ (pool_del hne hp') (ho.del ((o1 c hne).symm.trans hc))
theorem hb_law_wish : HB c_wish_of t_law_wish 2 := by
  intro ds μ Q X h
  obtain ⟨p, rfl, hp, q⟩ := h
  show t_law_wish (ends Q XF) [some (.raw (.ref p)), none] μ
  simp! only [t_law_wish]
  refine ⟨p, _, rfl, hp, by decide, by decide, fun r μ1 a1 b1 h1 o1 => ?_⟩
  have fin : ∀ {E : DEnds}, E = ends Q XF → Drw p μ1 (fun d μ => E.rt d μ) WishOk WishD := fun e x μ2 hx h2 o2 => by subst e; exact .of (q x μ2 hx h2 (o1.trans o2))
  have web : c_web_wish [.raw (.ref p), .int (r.fmod 2)] μ1 (Fin Q) XF := ⟨p, _, rfl, h1, fun x μ2 hx h2 o2 => .of (q x μ2 hx h2 (o1.trans o2))⟩
  have oth : c_wish_of [.raw (.ref p)] μ1 (Fin Q) XF := ⟨p, rfl, h1, fun x μ2 hx h2 o2 => .of (q x μ2 hx h2 (o1.trans o2))⟩
  walk_at "r"
  refine ifOr_dec (fun h => ?_) (fun h => ?_)
  · walk_at "r"
    exact ⟨by decide, web⟩
  · walk_at "r"
    refine ⟨rfl, rfl, ifS_dec (fun h => ?_) (fun h => ?_)⟩
    · walk_at "r"
      exact ⟨by decide, web⟩
    · walk_at "r"
      refine ⟨rfl, rfl, ifS_dec (fun h => ?_) (fun h => ?_)⟩
      · walk_at "r"
        exact oth
      · walk_at "r"
        refine ⟨rfl, rfl, ifS_dec (fun h => ?_) (fun h => ?_)⟩
        · walk_at "r"
          exact oth
        · walk_at "r"
          refine ⟨rfl, rfl, ifS_dec (fun h => ?_) (fun h => ?_)⟩
          · walk_at "r"
            exact oth
          · walk_at "r"
            refine ⟨p, _, rfl, h1, by decide, by decide, fun r2 μ2 a2 b2 h2 o2 => ?_⟩
            walk_at "r"
            exact ⟨p, _, rfl, by omega, by omega, h2, fun x μ3 hx h3 o3 => .of (q x μ3 hx.1 h3 ((o1.trans o2).trans o3))⟩
theorem Wish.cnts {s : D} {ns : List Int} (h : Wish s ns) : Cnts ns := by
  cases h with
  | tree hm sp mo =>
    have h1 := sp.1
    have h2 := mo.len
    refine ⟨by rw [List.length_map]; omega, by rw [List.length_map]; omega, fun n hn => ?_⟩
    obtain ⟨x, hx, rfl⟩ := List.mem_map.mp hn
    rcases mo.bit x hx with e | e <;> rw [e] <;> decide
  | way hm sp mo hb he ne tr =>
    have h1 := sp.1
    have h2 := mo.len
    refine ⟨by rw [ind_len]; omega, by rw [ind_len]; omega, fun n hn => ?_⟩
    unfold ind at hn
    obtain ⟨i, _, rfl⟩ := List.mem_map.mp hn
    split <;> decide
  | @pair m R E F hm hR hE ok pf =>
    have hl := pf.length_eq
    have hRl := hR.length_eq
    rw [upTo_len] at hRl
    rw [List.length_append, List.length_mapIdx, List.length_map] at hl
    refine ⟨by rw [List.length_map]; omega, by rw [List.length_map]; omega, fun n hn => ?_⟩
    obtain ⟨x, hx, rfl⟩ := List.mem_map.mp hn
    rcases List.mem_append.mp (pf.mem_iff.mp hx) with h | h
    · obtain ⟨i, hi⟩ := List.getElem?_of_mem h
      rw [List.getElem?_mapIdx] at hi
      obtain ⟨r, _, rfl⟩ := Option.map_eq_some_iff.mp hi
      exact ⟨by show (0 : Int) ≤ 1; decide, by show (1 : Int) ≤ 100; decide⟩
    · obtain ⟨t, _, rfl⟩ := List.mem_map.mp h
      exact ⟨by show (0 : Int) ≤ 0; decide, by show (0 : Int) ≤ 100; decide⟩
  | @deal h w dealt rooms hh hw hwl dl db rl rb =>
    have hfl : ∀ i : Nat, ((List.range i).flatMap fun (i : Nat) => dealt.map fun d => if d = (i : Int) then (1 : Int) else 0).length = i * w := by
      intro i
      induction i with
      | zero => simp
      | succ i ih => rw [List.range_succ, List.flatMap_append, List.length_append, ih, List.flatMap_singleton, List.length_map, dl, Nat.succ_mul]
    refine ⟨by rw [hfl]; exact Nat.mul_pos hh.1 hw, by rw [hfl]; omega, fun n hn => ?_⟩
    obtain ⟨i, _, hi⟩ := List.mem_flatMap.mp hn
    obtain ⟨d, _, rfl⟩ := List.mem_map.mp hi
    split <;> decide
  | @stream m T F rooms cs hm sp mo rl rb cl cb =>
    have h1 := sp.1
    have h2 := mo.len
    rw [List.length_take] at h2
    refine ⟨by omega, by omega, fun n hn => ?_⟩
    obtain ⟨i, hi⟩ := List.getElem?_of_mem hn
    have hl : i < rooms.length := by have := (List.getElem?_eq_some_iff.mp hi).1; omega
    have h3 := cb i n _ hi (List.getElem?_eq_getElem hl)
    have h4 := rb _ (List.getElem_mem hl)
    omega
  | @bench lasts order h1 lb ho =>
    refine ⟨by rw [dones_len, List.length_replicate]; omega, by rw [dones_len, List.length_replicate]; omega, ?_⟩
    have hol := ho.length_eq
    rw [upTo_len] at hol
    exact dones_bd lb order 0 _ 100 (by decide) (by omega) fun n hn => by
      rw [List.eq_of_mem_replicate hn]
      decide
end NB
set_option Elab.async false
set_option linter.all false
/-! Fractions, more: sums in lowest terms by cross products. -/
namespace Fr
theorem mul_cancel {a b c : Int} (h : c ≠ 0) (e : a * c = b * c) : a = b := Int.eq_of_mul_eq_mul_right h e
theorem rg1 {x y t b u v : Int} (c1 : x * v = u * y) (e : t * v = u * b) : x * b * v = t * y * v := by grind
theorem rg2 {x y z w t b u v : Int} (c1 : x * b = t * y) (c2 : z * v = u * w) : (x * w + z * y) * (b * v) = (t * v + u * b) * (y * w) := by grind
theorem rg3 {x y z w t b u v : Int} (c1 : x * b = t * y) (c2 : z * v = u * w) : (x * w - z * y) * (b * v) = (t * v - u * b) * (y * w) := by grind
theorem rg4 {x y z w t b u v : Int} (c1 : x * b = t * y) (c2 : z * v = u * w) : (x * z) * (b * v) = (t * u) * (y * w) := by grind
theorem rg5 {a b f g : Int} : a * (b * g) = (a * g + f * 0 * b) * b := by grind
theorem rg6 {t u b f g d : Int} (e : t * g = u * g + d * f * b) : (t * b - u * b) * (g * 1) = f * d * (b * b) := by grind
theorem low_eq {t b u v : Int} (hb : b ≠ 0) (hv : v ≠ 0) (e : t * v = u * b) : low t b = low u v := by
  have c1 := low_cross (t := u) hv
  have p1 := low_pos (t := u) hv
  refine low_unique (x := (low u v).1) (y := (low u v).2) hb p1 (low_cop hv) ?_
  exact mul_cancel hv (rg1 c1 e)
theorem add_low {t b u v : Int} (hb : b ≠ 0) (hv : v ≠ 0) : addF (low t b) (low u v) = low (t * v + u * b) (b * v) := by
  have c1 := low_cross (t := t) hb
  have c2 := low_cross (t := u) hv
  have p1 := low_pos (t := t) hb
  have p2 := low_pos (t := u) hv
  exact low_eq (mul_ne (by omega) (by omega)) (mul_ne hb hv) (rg2 c1 c2)
theorem sub_low {t b u v : Int} (hb : b ≠ 0) (hv : v ≠ 0) : subF (low t b) (low u v) = low (t * v - u * b) (b * v) := by
  have c1 := low_cross (t := t) hb
  have c2 := low_cross (t := u) hv
  have p1 := low_pos (t := t) hb
  have p2 := low_pos (t := u) hv
  exact low_eq (mul_ne (by omega) (by omega)) (mul_ne hb hv) (rg3 c1 c2)
theorem mul_low {t b u v : Int} (hb : b ≠ 0) (hv : v ≠ 0) : mulF (low t b) (low u v) = low (t * u) (b * v) := by
  have c1 := low_cross (t := t) hb
  have c2 := low_cross (t := u) hv
  have p1 := low_pos (t := t) hb
  have p2 := low_pos (t := u) hv
  exact low_eq (mul_ne (by omega) (by omega)) (mul_ne hb hv) (rg4 c1 c2)
/-- what counts cost: step by step in lowest terms -/
def costS (acc : Int × Int) (x : (Int × Int) × Int) : Int × Int := if x.2 ≠ 0 then addF acc (mulF x.1 (x.2, 1)) else acc
def costF (zs : List ((Int × Int) × Int)) : Int × Int := zs.foldl costS (0, 1)
/-- .. top and bottom -/
def tbS (a : Int × Int) (x : (Int × Int) × Int) : Int × Int := (a.1 * x.1.2 + x.1.1 * x.2 * a.2, a.2 * x.1.2)
def tbF (zs : List ((Int × Int) × Int)) : Int × Int := zs.foldl tbS (0, 1)
theorem cost_step {a : Int × Int} {f : Int × Int} {n : Int} (ha : 1 ≤ a.2) (hf : 1 ≤ f.2) : costS (low a.1 a.2) (f, n) = low (tbS a (f, n)).1 (tbS a (f, n)).2 := by
  unfold costS tbS
  dsimp only
  split
  · have e : mulF f (n, 1) = low (f.1 * n) f.2 := by unfold mulF; rw [Int.mul_one]
    rw [e, add_low (by omega) (by omega)]
  · rename_i h
    have h0 : n = 0 := Decidable.of_not_not h
    subst h0
    exact low_eq (by omega) (mul_ne (by omega) (by omega)) rg5
theorem tb_pos : ∀ (zs : List ((Int × Int) × Int)) (a : Int × Int), 1 ≤ a.2 → (∀ x ∈ zs, 1 ≤ x.1.2) → 1 ≤ (zs.foldl tbS a).2
  | [], a, h, _ => h
  | x :: zs, a, h, hz => tb_pos zs (tbS a x) (by
      have hx := hz x List.mem_cons_self
      unfold tbS
      dsimp only
      have := Int.mul_pos (show 0 < a.2 by omega) (show 0 < x.1.2 by omega)
      omega) fun y hy => hz y (List.mem_cons_of_mem _ hy)
theorem cost_tb : ∀ (zs : List ((Int × Int) × Int)) (a : Int × Int), 1 ≤ a.2 → (∀ x ∈ zs, 1 ≤ x.1.2) → zs.foldl costS (low a.1 a.2) = low (zs.foldl tbS a).1 (zs.foldl tbS a).2
  | [], _, _, _ => rfl
  | (f, n) :: zs, a, h, hz => by
    have hf : 1 ≤ f.2 := hz (f, n) List.mem_cons_self
    rw [List.foldl_cons, List.foldl_cons, cost_step h hf]
    refine cost_tb zs (tbS a (f, n)) ?_ fun y hy => hz y (List.mem_cons_of_mem _ hy)
    unfold tbS
    dsimp only
    have := Int.mul_pos (show 0 < a.2 by omega) (show 0 < f.2 by omega)
    omega
theorem costF_eq {zs : List ((Int × Int) × Int)} (hz : ∀ x ∈ zs, 1 ≤ x.1.2) : costF zs = low (tbF zs).1 (tbF zs).2 := by
  have := cost_tb zs (0, 1) (by decide) hz
  rwa [show low ((0 : Int), (1 : Int)).1 ((0 : Int), (1 : Int)).2 = ((0 : Int), (1 : Int)) from low_one] at this
/-- bottoms do not hang on counts -/
theorem tb_bot : ∀ (zs : List ((Int × Int) × Int)) (a : Int × Int), (zs.foldl tbS a).2 = a.2 * (zs.map fun x => x.1.2).foldl (· * ·) 1
  | [], a => by simp
  | x :: zs, a => by
    rw [List.foldl_cons, tb_bot zs, List.map_cons, List.foldl_cons]
    have key : ∀ (l : List Int) (c : Int), l.foldl (· * ·) c = c * l.foldl (· * ·) 1 := by
      intro l
      induction l with
      | nil => intro c; simp
      | cons y l ih => intro c; rw [List.foldl_cons, List.foldl_cons, ih, ih (1 * y)]; grind
    rw [key _ (1 * x.1.2)]
    unfold tbS
    dsimp only
    grind
/-- the top goes up by d times f with the count -/
theorem tb_more : ∀ (zs ws : List ((Int × Int) × Int)) (f : Int × Int) (n d : Int) (a : Int × Int), f.2 ≠ 0 →
    ((zs ++ (f, n + d) :: ws).foldl tbS a).1 * f.2 = ((zs ++ (f, n) :: ws).foldl tbS a).1 * f.2 + d * f.1 * ((zs ++ (f, n) :: ws).foldl tbS a).2
  | [], ws, f, n, d, a, hf => by
    rw [List.nil_append, List.nil_append, List.foldl_cons, List.foldl_cons]
    have key : ∀ (ws : List ((Int × Int) × Int)) (u v : Int × Int), u.2 = v.2 → u.1 * f.2 = v.1 * f.2 + d * f.1 * v.2 → (ws.foldl tbS u).1 * f.2 = (ws.foldl tbS v).1 * f.2 + d * f.1 * (ws.foldl tbS v).2 := by
      intro ws
      induction ws with
      | nil => intro u v _ e; exact e
      | cons w ws ih =>
        intro u v e1 e2
        rw [List.foldl_cons, List.foldl_cons]
        refine ih _ _ ?_ ?_
        · unfold tbS
          dsimp only
          rw [e1]
        · unfold tbS
          dsimp only
          rw [e1]
          grind
    refine key ws _ _ rfl ?_
    unfold tbS
    dsimp only
    grind
  | z :: zs, ws, f, n, d, a, hf => by
    rw [List.cons_append, List.cons_append, List.foldl_cons, List.foldl_cons]
    exact tb_more zs ws f n d (tbS a z) hf
theorem cost_more {zs ws : List ((Int × Int) × Int)} {f : Int × Int} {n d : Int} (hz : ∀ x ∈ zs, 1 ≤ x.1.2) (hw : ∀ x ∈ ws, 1 ≤ x.1.2) (hf : 1 ≤ f.2) :
    subF (costF (zs ++ (f, n + d) :: ws)) (costF (zs ++ (f, n) :: ws)) = mulF f (d, 1) := by
  have h1 : ∀ k, ∀ x ∈ zs ++ (f, k) :: ws, 1 ≤ x.1.2 := fun k x hx => by
    rcases List.mem_append.mp hx with h | h
    · exact hz x h
    · rcases List.mem_cons.mp h with h | h
      · rw [h]; exact hf
      · exact hw x h
  rw [costF_eq (h1 _), costF_eq (h1 _)]
  have p1 := tb_pos (zs ++ (f, n + d) :: ws) (0, 1) (by decide) (h1 _)
  have p2 := tb_pos (zs ++ (f, n) :: ws) (0, 1) (by decide) (h1 _)
  have e := tb_more zs ws f n d (0, 1) (by omega)
  have eb : (tbF (zs ++ (f, n + d) :: ws)).2 = (tbF (zs ++ (f, n) :: ws)).2 := by
    unfold tbF
    rw [tb_bot, tb_bot]
    simp
  unfold tbF at *
  rw [sub_low (by omega) (by omega)]
  unfold mulF
  refine low_eq (mul_ne (by omega) (by omega)) (by rw [Int.mul_one]; omega) ?_
  rw [eb]
  exact rg6 e
theorem cost_zero : ∀ (zs : List ((Int × Int) × Int)) (a : Int × Int), (∀ x ∈ zs, x.2 = 0) → zs.foldl costS a = a
  | [], _, _ => rfl
  | x :: zs, a, h => by
    rw [List.foldl_cons, show costS a x = a by unfold costS; rw [if_neg (by rw [h x List.mem_cons_self]; decide)]]
    exact cost_zero zs a fun y hy => h y (List.mem_cons_of_mem _ hy)
theorem ok_mul1 {n : Nat} {f : Int × Int} {c : Int} (h : Ok n f) (hc : c.natAbs < 2 ^ 10) : Ok (n + 10) (mulF f (c, 1)) := by
  unfold mulF
  refine ok_low (by have := h.pos; show f.2 * 1 ≠ 0; omega) (mul_lt h.tb hc) ?_
  show (f.2 * 1).natAbs < 2 ^ (n + 10)
  rw [Int.mul_one]
  exact lt_mono h.bb (by omega)
theorem ok_costS {n m : Nat} {a f : Int × Int} {c : Int} (ha : Ok n a) (h : Ok m f) (hc : c.natAbs < 2 ^ 10) : Ok (n + (m + 11)) (costS a (f, c)) := by
  unfold costS
  split
  · exact (ok_add ha (ok_mul1 h hc)).mono (by omega)
  · exact ha.mono (by omega)
theorem ok_cost {m : Nat} : ∀ (zs : List ((Int × Int) × Int)) (n : Nat) (a : Int × Int), Ok n a → (∀ x ∈ zs, Ok m x.1 ∧ x.2.natAbs < 2 ^ 10) → Ok (n + (m + 11) * zs.length) (zs.foldl costS a)
  | [], n, a, h, _ => h
  | (f, c) :: zs, n, a, h, hz => by
    have h1 := hz (f, c) List.mem_cons_self
    have := ok_cost zs (n + (m + 11)) (costS a (f, c)) (ok_costS h h1.1 h1.2) fun y hy => hz y (List.mem_cons_of_mem _ hy)
    rw [List.foldl_cons, List.length_cons]
    have e : n + (m + 11) + (m + 11) * zs.length = n + (m + 11) * (zs.length + 1) := by rw [Nat.mul_succ]; omega
    rwa [e] at this
/-- sizes of top and bottom -/
theorem tb_size {m : Nat} : ∀ (zs : List ((Int × Int) × Int)) (n : Nat) (a : Int × Int), a.1.natAbs < 2 ^ n → a.2.natAbs < 2 ^ n → (∀ x ∈ zs, Ok m x.1 ∧ x.2.natAbs < 2 ^ 10) →
    (zs.foldl tbS a).1.natAbs < 2 ^ (n + (m + 11) * zs.length) ∧ (zs.foldl tbS a).2.natAbs < 2 ^ (n + (m + 11) * zs.length)
  | [], n, a, h1, h2, _ => ⟨h1, h2⟩
  | (f, c) :: zs, n, a, h1, h2, hz => by
    have k := hz (f, c) List.mem_cons_self
    have s1 : (tbS a (f, c)).1.natAbs < 2 ^ (n + (m + 11)) := by
      unfold tbS
      have e1 : (a.1 * f.2).natAbs < 2 ^ (n + m + 10) := lt_mono (mul_lt h1 k.1.bb) (by omega)
      have e2 : (f.1 * c * a.2).natAbs < 2 ^ (n + m + 10) := lt_mono (mul_lt (mul_lt k.1.tb k.2) h2) (by omega)
      exact lt_mono (add_lt e1 e2) (by omega)
    have s2 : (tbS a (f, c)).2.natAbs < 2 ^ (n + (m + 11)) := by
      unfold tbS
      exact lt_mono (mul_lt h2 k.1.bb) (by omega)
    have := tb_size zs (n + (m + 11)) (tbS a (f, c)) s1 s2 fun y hy => hz y (List.mem_cons_of_mem _ hy)
    rw [List.foldl_cons, List.length_cons]
    have e : n + (m + 11) + (m + 11) * zs.length = n + (m + 11) * (zs.length + 1) := by rw [Nat.mul_succ]; omega
    rwa [e] at this
end Fr
set_option Elab.async false
set_option linter.all false
set_option maxRecDepth 100000
set_option maxHeartbeats 2000000
set_option exponentiation.threshold 20000
/-! What plans cost. -/
local macro_rules | `(tactic| walk_at "r") => `(tactic| simp only [DL.dSeq, DL.dSet, DL.kSet, DL.dCB, DL.kCB, DL.dCons, DL.kCons1, DL.kCons2, DL.dNil, DL.dVar, DL.dC, DL.dOp, DL.kOp1, DL.kOp2, DL.dB, DL.kB, DL.dIf, DL.kIf, DL.dRet, DL.dRetN, DL.dTup, DL.kTup, DL.dLst, DL.kLst, DL.dLstC, DL.kLstC, DL.dCall, DL.kCall, DL.dCallK, DL.kCallK1, DL.kCallK2, DL.dLenIs, DL.kLenIs, DL.dNext, DL.dDrop, DL.kDrop, DL.dPar, DL.kPar, DL.dAug, DL.kAug, DL.dAsg, DL.kAsg, DL.dSetIx, DL.kSetIx1, DL.kSetIx2, DL.kSetIx3, DL.dTru, DL.kTru, DL.dAnd, DL.kAnd, DL.dOr, DL.kOr, DL.dNot, DL.kNot, DL.dAndV, DL.kAndV, DL.dOrV, DL.kOrV, DL.dNotV, DL.kNotV, DL.dIfE, DL.kIfE, DL.dChain, DL.kChain1, DL.kChain2, DL.kChain3_true, DL.kChain3_false, DL.dNeg, DL.kNeg, DL.dFz, DL.kFz, DL.dRaise, DL.dTryAs, DL.suiteE, DL.kUnset, DL.dFor, DL.kFor, DL.dSeqI, DL.kSeqI, DL.dRange1, DL.kRange1, DL.dRange2, DL.kRange2, DL.dLc, DL.kLc, DL.dLcC, DL.kLstD, DL.kNewC, DL.dYes, DL.wipeD, DL.loopD, DL.compD, DL.kItem, DL.kTest_true, DL.kTest_false, DL.putIx_some, DL.setsK_some, DL.turnD_some, DL.turnC_some, DL.ifS_true, DL.ifS_false, DL.ifAnd_true, DL.ifAnd_false, DL.ifOr_true, DL.ifOr_false, DL.ifAndV_true, DL.ifAndV_false, DL.ifOrV_true, DL.ifOrV_false, DL.ifE_true, DL.ifE_false, DL.srcOf, DL.tgN, DL.tgT, DL.tgNil, DL.tgCons, DL.sets, List.foldl_cons, List.foldl_nil, DL.gI, DL.gI0, DL.gAdd, DL.gMul, DL.gIx, DL.gEq, DL.gNe, DL.gIs, DL.gIn, DL.gLen, DL.gAbs, DL.gMax2, DL.gMin2, DL.gAll, DL.gAny, DL.gSum, DL.gList, DL.gListC, DL.gTuple, DL.gIsiC, DL.gIsi, DL.tyN, DL.subN_NoneType_int, DL.subN_NoneType_bool, DL.subN_NoneType_str, DL.subN_NoneType_list, DL.subN_NoneType_tuple, DL.subN_bool_int, DL.subN_bool_bool, DL.subN_bool_str, DL.subN_bool_list, DL.subN_bool_tuple, DL.subN_int_int, DL.subN_int_bool, DL.subN_int_str, DL.subN_int_list, DL.subN_int_tuple, DL.subN_str_int, DL.subN_str_bool, DL.subN_str_str, DL.subN_str_list, DL.subN_str_tuple, DL.subN_list_int, DL.subN_list_bool, DL.subN_list_str, DL.subN_list_list, DL.subN_list_tuple, DL.subN_tuple_int, DL.subN_tuple_bool, DL.subN_tuple_str, DL.subN_tuple_list, DL.subN_tuple_tuple, DL.truD, DL.blsOf, DL.view_non, DL.view_bl, DL.view_int', DL.view_str', DL.view_lst', DL.view_tup', DL.view_scr', DL.ends, DL.kEnd, DL.OptP_some, DL.OptQ_some, DL.OptB_some, DL.OptS_some, List.getElem?_cons_zero, List.getElem?_cons_succ, List.set_cons_zero, List.set_cons_succ, DL.atI_zero, DL.atI_one, DL.atI_two, List.length_cons, List.length_nil, DL.pick, List.filterMap_cons, List.filterMap_nil, List.nil_append, List.cons_append, List.map_cons, List.map_nil, Option.map_some, Option.bind_some, true_and, and_true, Bool.false_eq_true, Bool.not_true, Bool.not_false, Bool.xor_false, Bool.xor_true, Bool.false_xor, Bool.true_xor, decide_true, decide_false, Nat.zero_add, Nat.reduceAdd, not_true_eq_false, not_false_eq_true, DL.eqD_int, DL.eqD_str, DL.eqD_bl, DL.eqD_tup, DL.eqD_lst, DL.eqDs_nil, DL.eqDs_cons, Bool.and_true, Bool.and_false, List.all_cons, List.all_nil, List.any_cons, List.any_nil, Bool.and_self, DL.dM, DL.kM1, DL.kM2, DL.dM0, DL.kM0, DL.gAppend, DL.gInsert, DL.gExtend, DL.gPop1, DL.gPop0, DL.gReverse, DL.gSort, DL.gRemove, DL.gCount, DL.gIndex, DL.dSlG, DL.kSl1, DL.kSl2, DL.kSl3, DL.gSl, DL.gSlC, DL.dNoPart, DL.dPart, DL.kPart, DL.dLR1, DL.kLR1, DL.dLR2, DL.kLR21, DL.kLR22, DL.nLst, DL.gRepC, DL.gCatC, DL.gInt, DL.gSorted, DL.gMaxL, DL.gMinL, DL.dEnum, DL.kEnum, DL.dZip2, DL.kZip2, DL.dZip3, DL.kZip3, DL.OptS2_some, DL.OptS3_some, DL.dRev, DL.kRev, DL.dEmp, DL.view_emp', DL.subN_dict_int, DL.subN_dict_bool, DL.subN_dict_str, DL.subN_dict_list, DL.subN_dict_tuple, DL.cellL_lst, DL.cellL_none])
local macro_rules | `(tactic| simp! only [$xs,*]) => `(tactic| simp only [DL.dSeq, DL.dSet, DL.kSet, DL.dCB, DL.kCB, DL.dCons, DL.kCons1, DL.kCons2, DL.dNil, DL.dVar, DL.dC, DL.dOp, DL.kOp1, DL.kOp2, DL.dB, DL.kB, DL.dIf, DL.kIf, DL.dRet, DL.dRetN, DL.dTup, DL.kTup, DL.dLst, DL.kLst, DL.dLstC, DL.kLstC, DL.dCall, DL.kCall, DL.dCallK, DL.kCallK1, DL.kCallK2, DL.dLenIs, DL.kLenIs, DL.dNext, DL.dDrop, DL.kDrop, DL.dPar, DL.kPar, DL.dAug, DL.kAug, DL.dAsg, DL.kAsg, DL.dSetIx, DL.kSetIx1, DL.kSetIx2, DL.kSetIx3, DL.dTru, DL.kTru, DL.dAnd, DL.kAnd, DL.dOr, DL.kOr, DL.dNot, DL.kNot, DL.dAndV, DL.kAndV, DL.dOrV, DL.kOrV, DL.dNotV, DL.kNotV, DL.dIfE, DL.kIfE, DL.dChain, DL.kChain1, DL.kChain2, DL.kChain3_true, DL.kChain3_false, DL.dNeg, DL.kNeg, DL.dFz, DL.kFz, DL.dRaise, DL.dTryAs, DL.suiteE, DL.kUnset, DL.dFor, DL.kFor, DL.dSeqI, DL.kSeqI, DL.dRange1, DL.kRange1, DL.dRange2, DL.kRange2, DL.dLc, DL.kLc, DL.dLcC, DL.kLstD, DL.kNewC, DL.dYes, DL.wipeD, DL.loopD, DL.compD, DL.kItem, DL.kTest_true, DL.kTest_false, DL.putIx_some, DL.setsK_some, DL.turnD_some, DL.turnC_some, DL.ifS_true, DL.ifS_false, DL.ifAnd_true, DL.ifAnd_false, DL.ifOr_true, DL.ifOr_false, DL.ifAndV_true, DL.ifAndV_false, DL.ifOrV_true, DL.ifOrV_false, DL.ifE_true, DL.ifE_false, DL.srcOf, DL.tgN, DL.tgT, DL.tgNil, DL.tgCons, DL.sets, List.foldl_cons, List.foldl_nil, DL.gI, DL.gI0, DL.gAdd, DL.gMul, DL.gIx, DL.gEq, DL.gNe, DL.gIs, DL.gIn, DL.gLen, DL.gAbs, DL.gMax2, DL.gMin2, DL.gAll, DL.gAny, DL.gSum, DL.gList, DL.gListC, DL.gTuple, DL.gIsiC, DL.gIsi, DL.tyN, DL.subN_NoneType_int, DL.subN_NoneType_bool, DL.subN_NoneType_str, DL.subN_NoneType_list, DL.subN_NoneType_tuple, DL.subN_bool_int, DL.subN_bool_bool, DL.subN_bool_str, DL.subN_bool_list, DL.subN_bool_tuple, DL.subN_int_int, DL.subN_int_bool, DL.subN_int_str, DL.subN_int_list, DL.subN_int_tuple, DL.subN_str_int, DL.subN_str_bool, DL.subN_str_str, DL.subN_str_list, DL.subN_str_tuple, DL.subN_list_int, DL.subN_list_bool, DL.subN_list_str, DL.subN_list_list, DL.subN_list_tuple, DL.subN_tuple_int, DL.subN_tuple_bool, DL.subN_tuple_str, DL.subN_tuple_list, DL.subN_tuple_tuple, DL.truD, DL.blsOf, DL.view_non, DL.view_bl, DL.view_int', DL.view_str', DL.view_lst', DL.view_tup', DL.view_scr', DL.ends, DL.kEnd, DL.OptP_some, DL.OptQ_some, DL.OptB_some, DL.OptS_some, List.getElem?_cons_zero, List.getElem?_cons_succ, List.set_cons_zero, List.set_cons_succ, DL.atI_zero, DL.atI_one, DL.atI_two, List.length_cons, List.length_nil, DL.pick, List.filterMap_cons, List.filterMap_nil, List.nil_append, List.cons_append, List.map_cons, List.map_nil, Option.map_some, Option.bind_some, true_and, and_true, Bool.false_eq_true, Bool.not_true, Bool.not_false, Bool.xor_false, Bool.xor_true, Bool.false_xor, Bool.true_xor, decide_true, decide_false, Nat.zero_add, Nat.reduceAdd, not_true_eq_false, not_false_eq_true, DL.eqD_int, DL.eqD_str, DL.eqD_bl, DL.eqD_tup, DL.eqD_lst, DL.eqDs_nil, DL.eqDs_cons, Bool.and_true, Bool.and_false, List.all_cons, List.all_nil, List.any_cons, List.any_nil, Bool.and_self, DL.dM, DL.kM1, DL.kM2, DL.dM0, DL.kM0, DL.gAppend, DL.gInsert, DL.gExtend, DL.gPop1, DL.gPop0, DL.gReverse, DL.gSort, DL.gRemove, DL.gCount, DL.gIndex, DL.dSlG, DL.kSl1, DL.kSl2, DL.kSl3, DL.gSl, DL.gSlC, DL.dNoPart, DL.dPart, DL.kPart, DL.dLR1, DL.kLR1, DL.dLR2, DL.kLR21, DL.kLR22, DL.nLst, DL.gRepC, DL.gCatC, DL.gInt, DL.gSorted, DL.gMaxL, DL.gMinL, DL.dEnum, DL.kEnum, DL.dZip2, DL.kZip2, DL.dZip3, DL.kZip3, DL.OptS2_some, DL.OptS3_some, DL.dRev, DL.kRev, DL.dEmp, DL.view_emp', DL.subN_dict_int, DL.subN_dict_bool, DL.subN_dict_str, DL.subN_dict_list, DL.subN_dict_tuple, DL.cellL_lst, DL.cellL_none, $xs,*])
namespace NB
open PySem PySem.Spec L2 DL Fr
mutual
theorem eqD_self : ∀ d : D, eqD d d = true
  | .non => rfl
  | .bl b => by cases b <;> rfl
  | .int i => by rw [eqD_int]; simp
  | .str x => by rw [eqD_str]; simp
  | .lst xs => by rw [eqD_lst]; exact eqDs_self xs
  | .tup xs => by rw [eqD_tup]; exact eqDs_self xs
  | .scr _ => rfl
  | .raw _ => rfl
  | .emp => rfl
theorem eqDs_self : ∀ xs : List D, eqDs xs xs = true
  | [] => rfl
  | x :: xs => by rw [eqDs_cons, eqD_self x, eqDs_self xs]; rfl
end
theorem okN_lst {n : Nat} {xs : List D} (h : ∀ d ∈ xs, okN n d = true) : okN (n + 1) (.lst xs) = true := by
  unfold okN
  exact List.all_eq_true.mpr h
theorem okN_int {n : Nat} {i : Int} : okN n (.int i) = true := by cases n <;> rfl
theorem okN_fr {f : Int × Int} {n : Nat} : okN (n + 1) (fr f) = true := by
  show (List.all [D.int f.1, D.int f.2] (okN n)) = true
  rw [List.all_cons, List.all_cons, okN_int, okN_int]
  rfl
theorem okN_frs {fs : List (Int × Int)} {n : Nat} : okN (n + 2) (.lst (fs.map fr)) = true := okN_lst fun d hd => by
  obtain ⟨f, _, rfl⟩ := List.mem_map.mp hd
  exact okN_fr
theorem okN_ints {ns : List Int} {n : Nat} : okN (n + 2) (.lst (ns.map D.int)) = true := okN_lst fun d hd => by
  obtain ⟨f, _, rfl⟩ := List.mem_map.mp hd
  exact okN_int
theorem eqD_fr {f g : Int × Int} : eqD (fr f) (fr g) = decide (f = g) := by
  unfold fr
  rw [eqD_tup, eqDs_cons, eqDs_cons, eqDs_nil, eqD_int, eqD_int, Bool.and_true]
  by_cases h : f = g
  · subst h; simp
  · rw [decide_eq_false h]
    cases f; cases g
    simp at h ⊢
    exact h
def c_cost : Ct := fun ds μ Q _ => ∃ (fs : List (Int × Int)) (ns : List Int), ds = [.lst (fs.map fr), .lst (ns.map D.int)] ∧ fs.length ≤ 16 ∧ (∀ f ∈ fs, Ok 40 f) ∧ (∀ n ∈ ns, n.natAbs < 2 ^ 10) ∧ Q (fr (costF (fs.zip ns))) μ
def c_lcost : Ct := c_cost
def t_cost : DTS :=
  (dSeq (dSet 2 (dC k_NOUGHT))
    (dSeq (dFor (dZip2 (dCons (dVar 0) (dCons (dVar 1) dNil))) (tgT (tgCons (tgN 3) (tgCons (tgN 4) tgNil))) (dIf (dB (dOp gNe (dVar 4) (dC (.int 0)))) (dSet 2 (dCall c_plus (dCons (dVar 2) (dCons (dCall c_times (dCons (dVar 3) (dCons (dTup (dCons (dVar 4) (dCons (dC (.int 1)) dNil))) dNil))) dNil)))) dNext))
    (dRet (dVar 2))))
def t_law_cost : DTS :=
  (dSeq (dSet 2 (dC (.int 0)))
    (dSeq (dSet 3 (dC (.int 1)))
    (dSeq (dFor (dZip2 (dCons (dVar 0) (dCons (dVar 1) dNil))) (tgT (tgCons (tgN 4) (tgCons (tgN 5) tgNil))) (dSeq (dSet 2 (dOp gAdd (dOp gMul (dVar 2) (dOp gIx (dVar 4) (dC (.int 1)))) (dOp gMul (dOp gMul (dOp gIx (dVar 4) (dC (.int 0))) (dVar 5)) (dVar 3))))
    (dSet 3 (dOp gMul (dVar 3) (dOp gIx (dVar 4) (dC (.int 1)))))))
    (dRet (dCall c_low (dCons (dVar 2) (dCons (dVar 3) dNil)))))))

theorem zip_ok {fs : List (Int × Int)} {ns : List Int} (h1 : ∀ f ∈ fs, Ok 40 f) (h2 : ∀ n ∈ ns, n.natAbs < 2 ^ 10) : ∀ x ∈ fs.zip ns, Ok 40 x.1 ∧ x.2.natAbs < 2 ^ 10 := fun x hx => by
  obtain ⟨a, b⟩ := x
  have := List.of_mem_zip hx
  exact ⟨h1 a this.1, h2 b this.2⟩
theorem zip_at {fs : List (Int × Int)} {ns : List Int} {i : Nat} {d : D} (hd : (zipL (fs.map fr) (ns.map D.int))[i]? = some d) : ∃ f n, (fs.zip ns)[i]? = some (f, n) ∧ d = .tup [fr f, .int n] := by
  obtain ⟨d1, d2, h1, h2, rfl⟩ := zipL_get hd
  obtain ⟨f, hf, rfl⟩ := map_some h1
  obtain ⟨n, hn, rfl⟩ := map_some h2
  exact ⟨f, n, List.getElem?_zip_eq_some.mpr ⟨hf, hn⟩, rfl⟩
theorem hb_cost : HB c_cost t_cost 5 := by
  intro ds μ Q X h
  obtain ⟨fs, ns, rfl, hl, hf, hn, q⟩ := h
  show t_cost (ends Q XF) [some (.lst (fs.map fr)), some (.lst (ns.map D.int)), none, none, none] μ
  have hz := zip_ok hf hn
  simp! only [t_cost]
  refine ⟨fun i δ μ' => μ' = μ ∧ ∃ x y, δ = [some (.lst (fs.map fr)), some (.lst (ns.map D.int)), some (fr (((fs.zip ns).take i).foldl costS (0, 1))), x, y], ⟨rfl, none, none, rfl⟩, ?_⟩
  rintro i δ μ' ⟨rfl, x, y, rfl⟩
  refine ⟨trivial, fun d hd => ?_, fun hi => ?_⟩
  · obtain ⟨f, n, hfn, rfl⟩ := zip_at hd
    have hm := hz _ (List.mem_of_getElem? hfn)
    have hlen : ((fs.zip ns).take i).length ≤ 16 := by rw [List.length_take, List.length_zip]; omega
    have hok := ok_cost (m := 40) ((fs.zip ns).take i) 1 (0, 1) ok_nought fun z h => hz z (List.mem_of_mem_take h)
    have e := take_succ hfn
    walk_at "r"
    refine ⟨rfl, rfl, ifS_ndec (fun h0 => ?_) (fun h0 => ?_)⟩
    · walk_at "r"
      refine ⟨by decide, f, (n, 1), rfl, Ok.sz hm.1 (by decide), ⟨show (1 : Int) ≠ 0 by decide, lt_mono hm.2 (by decide), show (1 : Int).natAbs < 2 ^ 4000 from lt_mono (a := 1) (by decide) (by decide)⟩, ?_⟩
      walk_at "r"
      refine ⟨_, _, rfl, Ok.sz hok (by omega), Ok.sz (ok_mul1 hm.1 hm.2) (by decide), ?_⟩
      walk_at "r"
      refine ⟨some (fr f), some (.int n), ?_⟩
      rw [e, List.foldl_append, List.foldl_cons, List.foldl_nil, costS, if_pos h0]
    · walk_at "r"
      refine ⟨some (fr f), some (.int n), ?_⟩
      rw [e, List.foldl_append, List.foldl_cons, List.foldl_nil, costS, if_neg (by simpa using h0)]
  · have hi2 : i = (fs.zip ns).length := by
      have : i = (zipL (fs.map fr) (ns.map D.int)).length := hi
      rw [zipL_len, List.length_map, List.length_map] at this
      rw [List.length_zip]
      exact this
    subst hi2
    walk_at "r"
    rw [List.take_length]
    exact .of q
theorem hb_law_cost : HB c_lcost t_law_cost 6 := by
  intro ds μ Q X h
  obtain ⟨fs, ns, rfl, hl, hf, hn, q⟩ := h
  show t_law_cost (ends Q XF) [some (.lst (fs.map fr)), some (.lst (ns.map D.int)), none, none, none, none] μ
  have hz := zip_ok hf hn
  simp! only [t_law_cost]
  refine ⟨fun i δ μ' => μ' = μ ∧ ∃ x y, δ = [some (.lst (fs.map fr)), some (.lst (ns.map D.int)), some (.int (((fs.zip ns).take i).foldl tbS (0, 1)).1), some (.int (((fs.zip ns).take i).foldl tbS (0, 1)).2), x, y], ⟨rfl, none, none, rfl⟩, ?_⟩
  rintro i δ μ' ⟨rfl, x, y, rfl⟩
  have hlen : ((fs.zip ns).take i).length ≤ 16 := by rw [List.length_take, List.length_zip]; omega
  have hsz := tb_size (m := 40) ((fs.zip ns).take i) 1 (0, 1) (by decide) (by decide) fun z h => hz z (List.mem_of_mem_take h)
  have s1 := lt_mono hsz.1 (show _ ≤ 900 by omega)
  have s2 := lt_mono hsz.2 (show _ ≤ 900 by omega)
  refine ⟨trivial, fun d hd => ?_, fun hi => ?_⟩
  · obtain ⟨f, n, hfn, rfl⟩ := zip_at hd
    have hm := hz _ (List.mem_of_getElem? hfn)
    have e := take_succ hfn
    simp! only [fr]
    refine ⟨mulOk_pow s1 hm.1.bb (by decide), mulOk_pow hm.1.tb hm.2 (by decide), mulOk_pow (mul_lt hm.1.tb hm.2) s2 (by decide), mulOk_pow s2 hm.1.bb (by decide), ?_⟩
    refine ⟨some (fr f), some (.int n), ?_⟩
    rw [e, List.foldl_append, List.foldl_cons, List.foldl_nil]
    rfl
  · have hi2 : i = (fs.zip ns).length := by
      have : i = (zipL (fs.map fr) (ns.map D.int)).length := hi
      rw [zipL_len, List.length_map, List.length_map] at this
      rw [List.length_zip]
      exact this
    subst hi2
    walk_at "r"
    rw [List.take_length] at *
    have hp := tb_pos (fs.zip ns) (0, 1) (by decide) fun x hx => (hz x hx).1.pos
    refine ⟨_, _, rfl, by omega, lt_mono s2 (by decide), .of ?_⟩
    rw [costF_eq fun x hx => (hz x hx).1.pos] at q
    exact q
end NB
set_option Elab.async false
set_option linter.all false
set_option maxRecDepth 100000
set_option maxHeartbeats 2000000
set_option exponentiation.threshold 20000
/-! Shapes: what is one, by plain functions over data. -/
local macro_rules | `(tactic| walk_at "r") => `(tactic| simp only [DL.dSeq, DL.dSet, DL.kSet, DL.dCB, DL.kCB, DL.dCons, DL.kCons1, DL.kCons2, DL.dNil, DL.dVar, DL.dC, DL.dOp, DL.kOp1, DL.kOp2, DL.dB, DL.kB, DL.dIf, DL.kIf, DL.dRet, DL.dRetN, DL.dTup, DL.kTup, DL.dLst, DL.kLst, DL.dLstC, DL.kLstC, DL.dCall, DL.kCall, DL.dCallK, DL.kCallK1, DL.kCallK2, DL.dLenIs, DL.kLenIs, DL.dNext, DL.dDrop, DL.kDrop, DL.dPar, DL.kPar, DL.dAug, DL.kAug, DL.dAsg, DL.kAsg, DL.dSetIx, DL.kSetIx1, DL.kSetIx2, DL.kSetIx3, DL.dTru, DL.kTru, DL.dAnd, DL.kAnd, DL.dOr, DL.kOr, DL.dNot, DL.kNot, DL.dAndV, DL.kAndV, DL.dOrV, DL.kOrV, DL.dNotV, DL.kNotV, DL.dIfE, DL.kIfE, DL.dChain, DL.kChain1, DL.kChain2, DL.kChain3_true, DL.kChain3_false, DL.dNeg, DL.kNeg, DL.dFz, DL.kFz, DL.dRaise, DL.dTryAs, DL.suiteE, DL.kUnset, DL.dFor, DL.kFor, DL.dSeqI, DL.kSeqI, DL.dRange1, DL.kRange1, DL.dRange2, DL.kRange2, DL.dLc, DL.kLc, DL.dLcC, DL.kLstD, DL.kNewC, DL.dYes, DL.wipeD, DL.loopD, DL.compD, DL.kItem, DL.kTest_true, DL.kTest_false, DL.putIx_some, DL.setsK_some, DL.turnD_some, DL.turnC_some, DL.ifS_true, DL.ifS_false, DL.ifAnd_true, DL.ifAnd_false, DL.ifOr_true, DL.ifOr_false, DL.ifAndV_true, DL.ifAndV_false, DL.ifOrV_true, DL.ifOrV_false, DL.ifE_true, DL.ifE_false, DL.srcOf, DL.tgN, DL.tgT, DL.tgNil, DL.tgCons, DL.sets, List.foldl_cons, List.foldl_nil, DL.gI, DL.gI0, DL.gAdd, DL.gMul, DL.gIx, DL.gEq, DL.gNe, DL.gIs, DL.gIn, DL.gLen, DL.gAbs, DL.gMax2, DL.gMin2, DL.gAll, DL.gAny, DL.gSum, DL.gList, DL.gListC, DL.gTuple, DL.gIsiC, DL.gIsi, DL.tyN, DL.subN_NoneType_int, DL.subN_NoneType_bool, DL.subN_NoneType_str, DL.subN_NoneType_list, DL.subN_NoneType_tuple, DL.subN_bool_int, DL.subN_bool_bool, DL.subN_bool_str, DL.subN_bool_list, DL.subN_bool_tuple, DL.subN_int_int, DL.subN_int_bool, DL.subN_int_str, DL.subN_int_list, DL.subN_int_tuple, DL.subN_str_int, DL.subN_str_bool, DL.subN_str_str, DL.subN_str_list, DL.subN_str_tuple, DL.subN_list_int, DL.subN_list_bool, DL.subN_list_str, DL.subN_list_list, DL.subN_list_tuple, DL.subN_tuple_int, DL.subN_tuple_bool, DL.subN_tuple_str, DL.subN_tuple_list, DL.subN_tuple_tuple, DL.truD, DL.blsOf, DL.view_non, DL.view_bl, DL.view_int', DL.view_str', DL.view_lst', DL.view_tup', DL.view_scr', DL.ends, DL.kEnd, DL.OptP_some, DL.OptQ_some, DL.OptB_some, DL.OptS_some, List.getElem?_cons_zero, List.getElem?_cons_succ, List.set_cons_zero, List.set_cons_succ, DL.atI_zero, DL.atI_one, DL.atI_two, List.length_cons, List.length_nil, DL.pick, List.filterMap_cons, List.filterMap_nil, List.nil_append, List.cons_append, List.map_cons, List.map_nil, Option.map_some, Option.bind_some, true_and, and_true, Bool.false_eq_true, Bool.not_true, Bool.not_false, Bool.xor_false, Bool.xor_true, Bool.false_xor, Bool.true_xor, decide_true, decide_false, Nat.zero_add, Nat.reduceAdd, not_true_eq_false, not_false_eq_true, DL.eqD_int, DL.eqD_str, DL.eqD_bl, DL.eqD_tup, DL.eqD_lst, DL.eqDs_nil, DL.eqDs_cons, Bool.and_true, Bool.and_false, List.all_cons, List.all_nil, List.any_cons, List.any_nil, Bool.and_self, DL.dM, DL.kM1, DL.kM2, DL.dM0, DL.kM0, DL.gAppend, DL.gInsert, DL.gExtend, DL.gPop1, DL.gPop0, DL.gReverse, DL.gSort, DL.gRemove, DL.gCount, DL.gIndex, DL.dSlG, DL.kSl1, DL.kSl2, DL.kSl3, DL.gSl, DL.gSlC, DL.dNoPart, DL.dPart, DL.kPart, DL.dLR1, DL.kLR1, DL.dLR2, DL.kLR21, DL.kLR22, DL.nLst, DL.gRepC, DL.gCatC, DL.gInt, DL.gSorted, DL.gMaxL, DL.gMinL, DL.dEnum, DL.kEnum, DL.dZip2, DL.kZip2, DL.dZip3, DL.kZip3, DL.OptS2_some, DL.OptS3_some, DL.dRev, DL.kRev, DL.dEmp, DL.view_emp', DL.subN_dict_int, DL.subN_dict_bool, DL.subN_dict_str, DL.subN_dict_list, DL.subN_dict_tuple, DL.cellL_lst, DL.cellL_none])
local macro_rules | `(tactic| simp! only [$xs,*]) => `(tactic| simp only [DL.dSeq, DL.dSet, DL.kSet, DL.dCB, DL.kCB, DL.dCons, DL.kCons1, DL.kCons2, DL.dNil, DL.dVar, DL.dC, DL.dOp, DL.kOp1, DL.kOp2, DL.dB, DL.kB, DL.dIf, DL.kIf, DL.dRet, DL.dRetN, DL.dTup, DL.kTup, DL.dLst, DL.kLst, DL.dLstC, DL.kLstC, DL.dCall, DL.kCall, DL.dCallK, DL.kCallK1, DL.kCallK2, DL.dLenIs, DL.kLenIs, DL.dNext, DL.dDrop, DL.kDrop, DL.dPar, DL.kPar, DL.dAug, DL.kAug, DL.dAsg, DL.kAsg, DL.dSetIx, DL.kSetIx1, DL.kSetIx2, DL.kSetIx3, DL.dTru, DL.kTru, DL.dAnd, DL.kAnd, DL.dOr, DL.kOr, DL.dNot, DL.kNot, DL.dAndV, DL.kAndV, DL.dOrV, DL.kOrV, DL.dNotV, DL.kNotV, DL.dIfE, DL.kIfE, DL.dChain, DL.kChain1, DL.kChain2, DL.kChain3_true, DL.kChain3_false, DL.dNeg, DL.kNeg, DL.dFz, DL.kFz, DL.dRaise, DL.dTryAs, DL.suiteE, DL.kUnset, DL.dFor, DL.kFor, DL.dSeqI, DL.kSeqI, DL.dRange1, DL.kRange1, DL.dRange2, DL.kRange2, DL.dLc, DL.kLc, DL.dLcC, DL.kLstD, DL.kNewC, DL.dYes, DL.wipeD, DL.loopD, DL.compD, DL.kItem, DL.kTest_true, DL.kTest_false, DL.putIx_some, DL.setsK_some, DL.turnD_some, DL.turnC_some, DL.ifS_true, DL.ifS_false, DL.ifAnd_true, DL.ifAnd_false, DL.ifOr_true, DL.ifOr_false, DL.ifAndV_true, DL.ifAndV_false, DL.ifOrV_true, DL.ifOrV_false, DL.ifE_true, DL.ifE_false, DL.srcOf, DL.tgN, DL.tgT, DL.tgNil, DL.tgCons, DL.sets, List.foldl_cons, List.foldl_nil, DL.gI, DL.gI0, DL.gAdd, DL.gMul, DL.gIx, DL.gEq, DL.gNe, DL.gIs, DL.gIn, DL.gLen, DL.gAbs, DL.gMax2, DL.gMin2, DL.gAll, DL.gAny, DL.gSum, DL.gList, DL.gListC, DL.gTuple, DL.gIsiC, DL.gIsi, DL.tyN, DL.subN_NoneType_int, DL.subN_NoneType_bool, DL.subN_NoneType_str, DL.subN_NoneType_list, DL.subN_NoneType_tuple, DL.subN_bool_int, DL.subN_bool_bool, DL.subN_bool_str, DL.subN_bool_list, DL.subN_bool_tuple, DL.subN_int_int, DL.subN_int_bool, DL.subN_int_str, DL.subN_int_list, DL.subN_int_tuple, DL.subN_str_int, DL.subN_str_bool, DL.subN_str_str, DL.subN_str_list, DL.subN_str_tuple, DL.subN_list_int, DL.subN_list_bool, DL.subN_list_str, DL.subN_list_list, DL.subN_list_tuple, DL.subN_tuple_int, DL.subN_tuple_bool, DL.subN_tuple_str, DL.subN_tuple_list, DL.subN_tuple_tuple, DL.truD, DL.blsOf, DL.view_non, DL.view_bl, DL.view_int', DL.view_str', DL.view_lst', DL.view_tup', DL.view_scr', DL.ends, DL.kEnd, DL.OptP_some, DL.OptQ_some, DL.OptB_some, DL.OptS_some, List.getElem?_cons_zero, List.getElem?_cons_succ, List.set_cons_zero, List.set_cons_succ, DL.atI_zero, DL.atI_one, DL.atI_two, List.length_cons, List.length_nil, DL.pick, List.filterMap_cons, List.filterMap_nil, List.nil_append, List.cons_append, List.map_cons, List.map_nil, Option.map_some, Option.bind_some, true_and, and_true, Bool.false_eq_true, Bool.not_true, Bool.not_false, Bool.xor_false, Bool.xor_true, Bool.false_xor, Bool.true_xor, decide_true, decide_false, Nat.zero_add, Nat.reduceAdd, not_true_eq_false, not_false_eq_true, DL.eqD_int, DL.eqD_str, DL.eqD_bl, DL.eqD_tup, DL.eqD_lst, DL.eqDs_nil, DL.eqDs_cons, Bool.and_true, Bool.and_false, List.all_cons, List.all_nil, List.any_cons, List.any_nil, Bool.and_self, DL.dM, DL.kM1, DL.kM2, DL.dM0, DL.kM0, DL.gAppend, DL.gInsert, DL.gExtend, DL.gPop1, DL.gPop0, DL.gReverse, DL.gSort, DL.gRemove, DL.gCount, DL.gIndex, DL.dSlG, DL.kSl1, DL.kSl2, DL.kSl3, DL.gSl, DL.gSlC, DL.dNoPart, DL.dPart, DL.kPart, DL.dLR1, DL.kLR1, DL.dLR2, DL.kLR21, DL.kLR22, DL.nLst, DL.gRepC, DL.gCatC, DL.gInt, DL.gSorted, DL.gMaxL, DL.gMinL, DL.dEnum, DL.kEnum, DL.dZip2, DL.kZip2, DL.dZip3, DL.kZip3, DL.OptS2_some, DL.OptS3_some, DL.dRev, DL.kRev, DL.dEmp, DL.view_emp', DL.subN_dict_int, DL.subN_dict_bool, DL.subN_dict_str, DL.subN_dict_list, DL.subN_dict_tuple, DL.cellL_lst, DL.cellL_none, $xs,*])
namespace NB
open PySem PySem.Spec L2 DL Fr
def plainD : D → Bool
  | .raw _ => false
  | .scr _ => false
  | _ => true
theorem okN_plain {n : Nat} {d : D} (h : okN n d = true) : plainD d = true := by
  cases d <;> first | rfl | (cases n <;> simp [okN] at h)
theorem okN_items {n : Nat} {xs : List D} (h : okN (n + 1) (.tup xs) = true) : ∀ x ∈ xs, okN n x = true := List.all_eq_true.mp h
theorem okN_mono : ∀ {n m : Nat} {d : D}, okN n d = true → n ≤ m → okN m d = true
  | n, m, .non, _, _ => by cases m <;> rfl
  | n, m, .bl _, _, _ => by cases m <;> rfl
  | n, m, .int _, _, _ => by cases m <;> rfl
  | n, m, .str x, h, _ => by cases n <;> cases m <;> exact h
  | 0, m, .lst xs, h, _ => by simp [okN] at h
  | 0, m, .tup xs, h, _ => by simp [okN] at h
  | n + 1, 0, .lst xs, h, l => absurd l (by omega)
  | n + 1, 0, .tup xs, h, l => absurd l (by omega)
  | n + 1, m + 1, .lst xs, h, l => by
    unfold okN at h ⊢
    exact List.all_eq_true.mpr fun x hx => okN_mono (List.all_eq_true.mp h x hx) (by omega)
  | n + 1, m + 1, .tup xs, h, l => by
    unfold okN at h ⊢
    exact List.all_eq_true.mpr fun x hx => okN_mono (List.all_eq_true.mp h x hx) (by omega)
  | n, m, .scr _, h, _ => by cases n <;> simp [okN] at h
  | n, m, .raw _, h, _ => by cases n <;> simp [okN] at h
  | n, m, .emp, h, _ => by cases n <;> simp [okN] at h
def wholeB : D → Bool
  | .int _ => true
  | _ => false
def withinB (lo hi : Int) : D → Bool
  | .int i => decide (lo ≤ i) && decide (i ≤ hi)
  | _ => false
def areWithinB (m lo hi : Int) : D → Bool
  | .tup xs => decide ((xs.length : Int) = m) && xs.all (withinB lo hi)
  | _ => false
def c_is_whole : Ct := fun ds μ Q _ => ∃ d, ds = [d] ∧ plainD d = true ∧ Q (.bl (wholeB d)) μ
def c_is_within : Ct := fun ds μ Q _ => ∃ d lo hi, ds = [d, .int lo, .int hi] ∧ plainD d = true ∧ Q (.bl (withinB lo hi d)) μ
def Row1 (d : D) : Prop := plainD d = true ∧ ∀ xs, d = .tup xs → xs.length < 1000 ∧ ∀ x ∈ xs, okN 40 x = true
def c_are_within : Ct := fun ds μ Q _ => ∃ d m lo hi, ds = [d, .int m, .int lo, .int hi] ∧ Row1 d ∧ Q (.bl (areWithinB m lo hi d)) μ
def sameB : D → Bool
  | .tup [a, b] => eqD a b
  | _ => false
def tieB (many : Int) (unlike : Bool) (t : D) : Bool := areWithinB 2 0 (many - 1) t && !(unlike && sameB t)
def areTiesB (many : Int) (unlike : Bool) : D → Bool
  | .tup xs => (decide ((1 : Int) ≤ xs.length) && decide ((xs.length : Int) ≤ 16)) && xs.all (tieB many unlike)
  | _ => false
def Row2 (d : D) : Prop := plainD d = true ∧ ∀ xs, d = .tup xs → xs.length < 1000 ∧ ∀ x ∈ xs, Row1 x
def c_are_ties : Ct := fun ds μ Q _ => ∃ d m u, ds = [d, .int m, .bl u] ∧ Row2 d ∧ Q (.bl (areTiesB m u d)) μ
abbrev k_MOST_ITEMS : D := .int 16
abbrev k_MOST_PLACES : D := .int 10
abbrev k_MOST_PAIRS : D := .int 6
abbrev k_MOST_HANDS : D := .int 4
abbrev k_MOST_ROOM : D := .int 6
abbrev k_MOST_WORKS : D := .int 6
abbrev k_MOST_FLOW : D := .int 9
abbrev k_MOST_BENCH : D := .int 8
abbrev k_TIED : D := .tup [.str (PySem.Str.ofString "way"), .str (PySem.Str.ofString "tree"), .str (PySem.Str.ofString "pair"), .str (PySem.Str.ofString "stream")]
def t_is_whole : DTS :=
  (dRet (dAndV (dCB (gIsiC "int") (dCons (dVar 0) (dCons (dC (.raw (.ty "int"))) dNil))) (dNotV (dCB (gIsiC "bool") (dCons (dVar 0) (dCons (dC (.raw (.ty "bool"))) dNil))))))
def t_is_within : DTS :=
  (dRet (dAndV (dCall c_is_whole (dCons (dVar 0) dNil)) (dChain gLe gLe (dVar 1) (dVar 0) (dVar 2))))
def t_are_within : DTS :=
  (dSeq (dIf (dOr (dNot (dTru (dCB (gIsiC "tuple") (dCons (dVar 0) (dCons (dC (.raw (.ty "tuple"))) dNil))))) (dB (dOp gNe (dCB gLen (dCons (dVar 0) dNil)) (dVar 1)))) (dRet (dC (.bl false))) dNext)
    (dRet (dCB gAll (dCons (dLc (dSeqI (dVar 0)) (tgN 4) dYes (dCall c_is_within (dCons (dVar 4) (dCons (dVar 2) (dCons (dVar 3) dNil)))) [4]) dNil))))
def t_law_whole : DTS :=
  (dRet (dAndV (dCB (gIsiC "int") (dCons (dVar 0) (dCons (dC (.raw (.ty "int"))) dNil))) (dAndV (dNotV (dCB (gIsiC "bool") (dCons (dVar 0) (dCons (dC (.raw (.ty "bool"))) dNil)))) (dChain gLe gLe (dVar 1) (dVar 0) (dVar 2)))))
def t_law_row : DTS :=
  (dSeq (dIf (dOr (dNot (dTru (dCB (gIsiC "tuple") (dCons (dVar 0) (dCons (dC (.raw (.ty "tuple"))) dNil))))) (dB (dOp gNe (dCB gLen (dCons (dVar 0) dNil)) (dVar 1)))) (dRet (dC (.bl false))) dNext)
    (dRet (dOp gEq (dLc (dSeqI (dVar 0)) (tgN 4) (dNot (dTru (dCall c_is_within (dCons (dVar 4) (dCons (dVar 2) (dCons (dVar 3) dNil)))))) (dVar 4) [4]) (dLst dNil))))
def t_are_ties : DTS :=
  (dSeq (dIf (dOr (dNot (dTru (dCB (gIsiC "tuple") (dCons (dVar 0) (dCons (dC (.raw (.ty "tuple"))) dNil))))) (dNot (dB (dChain gLe gLe (dC (.int 1)) (dCB gLen (dCons (dVar 0) dNil)) (dC k_MOST_ITEMS))))) (dRet (dC (.bl false))) dNext)
    (dSeq (dFor (dSeqI (dVar 0)) (tgN 3) (dIf (dOr (dNot (dTru (dCall c_are_within (dCons (dVar 3) (dCons (dC (.int 2)) (dCons (dC (.int 0)) (dCons (dOp (gI0 fun i j => .int (i - j)) (dVar 1) (dC (.int 1))) dNil))))))) (dAnd (dTru (dVar 2)) (dB (dOp gEq (dOp gIx (dVar 3) (dC (.int 0))) (dOp gIx (dVar 3) (dC (.int 1))))))) (dRet (dC (.bl false))) dNext))
    (dRet (dC (.bl true)))))
def t_law_ties : DTS :=
  (dSeq (dIf (dOr (dNot (dTru (dCB (gIsiC "tuple") (dCons (dVar 0) (dCons (dC (.raw (.ty "tuple"))) dNil))))) (dNot (dB (dChain gLe gLe (dC (.int 1)) (dCB gLen (dCons (dVar 0) dNil)) (dC (.int 16)))))) (dRet (dC (.bl false))) dNext)
    (dSeq (dFor (dSeqI (dVar 0)) (tgN 3) (dIf (dOr (dNot (dTru (dCall c_are_within (dCons (dVar 3) (dCons (dC (.int 2)) (dCons (dC (.int 0)) (dCons (dOp (gI0 fun i j => .int (i - j)) (dVar 1) (dC (.int 1))) dNil))))))) (dAnd (dTru (dVar 2)) (dB (dOp gEq (dOp gIx (dVar 3) (dC (.int 0))) (dOp gIx (dVar 3) (dC (.int 1))))))) (dRet (dC (.bl false))) dNext))
    (dRet (dC (.bl true)))))

theorem hb_is_whole : HB c_is_whole t_is_whole 1 := by
  intro ds μ Q X h
  obtain ⟨d, rfl, hp, q⟩ := h
  show t_is_whole (ends Q XF) [some d] μ
  cases d with
  | raw _ => cases hp
  | scr _ => cases hp
  | _ =>
    simp! only [t_is_whole]
    exact .of q
theorem chain_within {lo hi i : Int} {μ : M} {Q : QD} (h : Q (.bl (decide (lo ≤ i) && decide (i ≤ hi))) μ) : dChain gLe gLe (dC (.int lo)) (dC (.int i)) (dC (.int hi)) XF [] μ Q := by
  walk_at "r"
  refine kChain3_of (fun h1 => ?_) (fun h1 => ?_)
  · walk_at "r"
    rw [h1] at h
    exact h
  · rw [h1] at h
    exact h
theorem hb_is_within : HB c_is_within t_is_within 3 := by
  intro ds μ Q X h
  obtain ⟨d, lo, hi, rfl, hp, q⟩ := h
  show t_is_within (ends Q XF) [some d, some (.int lo), some (.int hi)] μ
  simp! only [t_is_within]
  refine ⟨d, rfl, hp, ?_⟩
  cases d with
  | raw _ => cases hp
  | scr _ => cases hp
  | int i =>
    simp! only [wholeB]
    refine kChain3_of (fun h1 => ?_) (fun h1 => ?_)
    · walk_at "r"
      rw [withinB, h1] at q
      exact .of q
    · rw [withinB, h1] at q
      exact .of q
  | _ =>
    simp! only [wholeB]
    exact .of q
theorem hb_law_whole : HB c_is_within t_law_whole 3 := by
  intro ds μ Q X h
  obtain ⟨d, lo, hi, rfl, hp, q⟩ := h
  show t_law_whole (ends Q XF) [some d, some (.int lo), some (.int hi)] μ
  cases d with
  | raw _ => cases hp
  | scr _ => cases hp
  | int i =>
    simp! only [t_law_whole]
    refine kChain3_of (fun h1 => ?_) (fun h1 => ?_)
    · walk_at "r"
      rw [withinB, h1] at q
      exact .of q
    · rw [withinB, h1] at q
      exact .of q
  | _ =>
    simp! only [t_law_whole]
    exact .of q
theorem hb_are_within : HB c_are_within t_are_within 5 := by
  intro ds μ Q X h
  obtain ⟨d, m, lo, hi, rfl, ⟨hp, hr⟩, q⟩ := h
  show t_are_within (ends Q XF) [some d, some (.int m), some (.int lo), some (.int hi), none] μ
  cases d with
  | raw _ => cases hp
  | scr _ => cases hp
  | tup xs =>
    obtain ⟨hl, hx⟩ := hr xs rfl
    have sz : 16777216 ≤ sizeLine := by decide
    simp! only [t_are_within]
    refine ⟨rfl, rfl, ifS_ndec (fun h1 => ?_) (fun h1 => ?_)⟩
    · walk_at "r"
      rw [areWithinB, decide_eq_false h1] at q
      exact .of q
    · walk_at "r"
      rw [areWithinB, decide_eq_true h1, Bool.true_and] at q
      have e0 : xs = xs.map id := (List.map_id xs).symm
      rw [e0]
      refine comp_pure (enc := id) (g := fun x => .bl (withinB lo hi x)) trivial (by omega) (fun x hx' acc R ha hR => ?_) ?_
      · simp! only [id]
        exact ⟨x, lo, hi, rfl, okN_plain (hx x hx'), ha, hR⟩
      · have e1 : (xs.map fun x => D.bl (withinB lo hi x)) = (xs.map (withinB lo hi)).map D.bl := by rw [List.map_map]; rfl
        rw [e1]
        simp! only [blsOf_map]
        refine .of ?_
        have e2 : (xs.map (withinB lo hi)).all (fun b => b) = xs.all (withinB lo hi) := by rw [List.all_map]; rfl
        rw [e2]
        exact q
  | _ =>
    simp! only [t_are_within]
    exact .of q
/-- a comprehension that picks -/
theorem comp_filter {xs : List D} {p : D → Bool} {ok : M → Prop} {f : TGD} {tt : DTT} {te : DTE} {Q : List D → M → Prop} {δ : Sl} {μ : M} (ho : ok μ) (hl : xs.length < sizeLine)
    (st : ∀ x ∈ xs, ∀ (acc : List D) (R : List D → M → Prop), acc.length < sizeLine → (p x = true → R (acc ++ [x]) μ) → (p x = false → R acc μ) → turnC (f μ x) tt te acc R δ μ) (q : Q (xs.filter p) μ) : compJ ok f tt te Q δ xs μ := by
  refine ⟨fun i acc μ' => μ' = μ ∧ acc = (xs.take i).filter p, ⟨rfl, by simp⟩, ?_⟩
  rintro i acc μ' ⟨rfl, rfl⟩
  refine ⟨ho, fun d hd => ?_, fun hi => ?_⟩
  · refine st d (List.mem_of_getElem? hd) _ _ ?_ (fun h => ⟨rfl, ?_⟩) (fun h => ⟨rfl, ?_⟩)
    · refine Nat.lt_of_le_of_lt (List.length_filter_le _ _) ?_
      rw [List.length_take]
      exact Nat.lt_of_le_of_lt (Nat.min_le_right _ _) hl
    · rw [take_succ hd, List.filter_append, List.filter_cons_of_pos h, List.filter_nil]
    · rw [take_succ hd, List.filter_append, List.filter_cons_of_neg (by rw [h]; decide), List.filter_nil, List.append_nil]
  · rw [hi, List.take_length]
    exact q
theorem eqDs_nil_r {xs : List D} : eqDs xs [] = xs.isEmpty := by cases xs <;> rfl
theorem filter_none {xs : List D} {p : D → Bool} : (xs.filter fun x => !p x).isEmpty = xs.all p := by
  induction xs with
  | nil => rfl
  | cons x xs ih =>
    rw [List.filter_cons, List.all_cons]
    cases h : p x with
    | true => simpa using ih
    | false => simp
theorem hb_law_row : HB c_are_within t_law_row 5 := by
  intro ds μ Q X h
  obtain ⟨d, m, lo, hi, rfl, ⟨hp, hr⟩, q⟩ := h
  show t_law_row (ends Q XF) [some d, some (.int m), some (.int lo), some (.int hi), none] μ
  cases d with
  | raw _ => cases hp
  | scr _ => cases hp
  | tup xs =>
    obtain ⟨hl, hx⟩ := hr xs rfl
    have sz : 16777216 ≤ sizeLine := by decide
    simp! only [t_law_row]
    refine ⟨rfl, rfl, ifS_ndec (fun h1 => ?_) (fun h1 => ?_)⟩
    · walk_at "r"
      rw [areWithinB, decide_eq_false h1] at q
      exact .of q
    · walk_at "r"
      rw [areWithinB, decide_eq_true h1, Bool.true_and] at q
      refine comp_filter (p := fun x => !withinB lo hi x) trivial (by omega) (fun x hx' acc R ha h1 h2 => ?_) ?_
      · walk_at "r"
        refine ⟨x, lo, hi, rfl, okN_plain (hx x hx'), ?_⟩
        walk_at "r"
        refine kTest_of (fun h => ?_) (fun h => h2 h)
        walk_at "r"
        exact ⟨ha, h1 h⟩
      · walk_at "r"
        refine ⟨by decide, okN_lst (n := 63) (fun x hx' => ?_), rfl, ?_⟩
        · exact okN_mono (hx x (List.mem_filter.mp hx').1) (by decide)
        · rw [eqDs_nil_r, filter_none]
          exact .of q
  | _ =>
    simp! only [t_law_row]
    exact .of q
theorem two_ints {lo hi : Int} {t : D} (h : areWithinB 2 lo hi t = true) : ∃ a b : Int, t = .tup [.int a, .int b] := by
  cases t with
  | tup xs =>
    rw [areWithinB, Bool.and_eq_true] at h
    have hl : (xs.length : Int) = 2 := of_decide_eq_true h.1
    match xs, hl with
    | [x, y], _ =>
      have h2 := h.2
      rw [List.all_cons, List.all_cons, Bool.and_eq_true, Bool.and_eq_true] at h2
      cases x with
      | int a =>
        cases y with
        | int b => exact ⟨a, b, rfl⟩
        | _ => exact absurd h2.2.1 Bool.false_ne_true
      | _ => exact absurd h2.1 Bool.false_ne_true
    | [], hl => exact absurd hl (by decide)
    | [_], hl => simp at hl
    | _ :: _ :: _ :: _, hl => simp at hl; omega
  | _ => cases h
theorem all_take {xs : List D} {p : D → Bool} {i : Nat} {d : D} (hd : xs[i]? = some d) (h : (xs.take i).all p = true) (hp : p d = true) : (xs.take (i + 1)).all p = true := by
  rw [take_succ hd, List.all_append, h, List.all_cons, hp]
  rfl
theorem all_false {xs : List D} {p : D → Bool} {d : D} (hd : d ∈ xs) (hp : p d = false) : xs.all p = false := by
  rw [List.all_eq_false]
  exact ⟨d, hd, by rw [hp]; decide⟩
theorem hb_are_ties : HB c_are_ties t_are_ties 4 := by
  intro ds μ Q X h
  obtain ⟨d, m, u, rfl, ⟨hp, hr⟩, q⟩ := h
  show t_are_ties (ends Q XF) [some d, some (.int m), some (.bl u), none] μ
  cases d with
  | raw _ => cases hp
  | scr _ => cases hp
  | tup xs =>
    obtain ⟨hl, hx⟩ := hr xs rfl
    simp! only [t_are_ties]
    have bad : ((decide ((1 : Int) ≤ xs.length) && decide ((xs.length : Int) ≤ 16)) = false) → Fin Q (.bl false) μ := fun h => by
      rw [areTiesB, h] at q
      exact .of q
    refine kChain3_of (fun h1 => ?_) (fun h1 => ?_)
    · walk_at "r"
      refine ifS_ndec (fun h2 => ?_) (fun h2 => ?_)
      · walk_at "r"
        exact bad (by rw [h1, decide_eq_false h2]; rfl)
      · walk_at "r"
        rw [areTiesB, h1, decide_eq_true h2, Bool.true_and, Bool.true_and] at q
        refine ⟨fun i δ μ' => μ' = μ ∧ (xs.take i).all (tieB m u) = true ∧ ∃ x, δ = [some (.tup xs), some (.int m), some (.bl u), x], ⟨rfl, by simp, none, rfl⟩, ?_⟩
        rintro i δ μ' ⟨rfl, hall, x, rfl⟩
        refine ⟨trivial, fun t ht => ?_, fun hi => ?_⟩
        · have hm := List.mem_of_getElem? ht
          walk_at "r"
          refine ⟨t, 2, 0, m - 1, rfl, hx t hm, ?_⟩
          have no : tieB m u t = false → Fin Q (.bl false) μ' := fun h => by
            rw [all_false hm h] at q
            exact .of q
          cases hw : areWithinB 2 0 (m - 1) t with
          | false =>
            walk_at "r"
            exact no (by unfold tieB; rw [hw]; rfl)
          | true =>
            obtain ⟨a, b, rfl⟩ := two_ints hw
            walk_at "r"
            cases u with
            | false =>
              walk_at "r"
              exact ⟨all_take ht hall (by unfold tieB; rw [hw]; rfl), _, rfl⟩
            | true =>
              walk_at "r"
              refine ⟨rfl, rfl, ifS_dec (fun hab => ?_) (fun hab => ?_)⟩
              · walk_at "r"
                exact no (by unfold tieB; rw [hw]; simp [sameB, eqD_int, hab])
              · walk_at "r"
                exact ⟨all_take ht hall (by unfold tieB; rw [hw]; simp [sameB, eqD_int, hab]), _, rfl⟩
        · rw [hi, List.take_length] at hall
          walk_at "r"
          rw [hall] at q
          exact .of q
    · walk_at "r"
      exact bad (by rw [h1]; rfl)
  | _ =>
    simp! only [t_are_ties]
    exact .of q
theorem hb_law_ties : HB c_are_ties t_law_ties 4 := by
  intro ds μ Q X h
  obtain ⟨d, m, u, rfl, ⟨hp, hr⟩, q⟩ := h
  show t_law_ties (ends Q XF) [some d, some (.int m), some (.bl u), none] μ
  cases d with
  | raw _ => cases hp
  | scr _ => cases hp
  | tup xs =>
    obtain ⟨hl, hx⟩ := hr xs rfl
    simp! only [t_law_ties]
    have bad : ((decide ((1 : Int) ≤ xs.length) && decide ((xs.length : Int) ≤ 16)) = false) → Fin Q (.bl false) μ := fun h => by
      rw [areTiesB, h] at q
      exact .of q
    refine kChain3_of (fun h1 => ?_) (fun h1 => ?_)
    · walk_at "r"
      refine ifS_ndec (fun h2 => ?_) (fun h2 => ?_)
      · walk_at "r"
        exact bad (by rw [h1, decide_eq_false h2]; rfl)
      · walk_at "r"
        rw [areTiesB, h1, decide_eq_true h2, Bool.true_and, Bool.true_and] at q
        refine ⟨fun i δ μ' => μ' = μ ∧ (xs.take i).all (tieB m u) = true ∧ ∃ x, δ = [some (.tup xs), some (.int m), some (.bl u), x], ⟨rfl, by simp, none, rfl⟩, ?_⟩
        rintro i δ μ' ⟨rfl, hall, x, rfl⟩
        refine ⟨trivial, fun t ht => ?_, fun hi => ?_⟩
        · have hm := List.mem_of_getElem? ht
          walk_at "r"
          refine ⟨t, 2, 0, m - 1, rfl, hx t hm, ?_⟩
          have no : tieB m u t = false → Fin Q (.bl false) μ' := fun h => by
            rw [all_false hm h] at q
            exact .of q
          cases hw : areWithinB 2 0 (m - 1) t with
          | false =>
            walk_at "r"
            exact no (by unfold tieB; rw [hw]; rfl)
          | true =>
            obtain ⟨a, b, rfl⟩ := two_ints hw
            walk_at "r"
            cases u with
            | false =>
              walk_at "r"
              exact ⟨all_take ht hall (by unfold tieB; rw [hw]; rfl), _, rfl⟩
            | true =>
              walk_at "r"
              refine ⟨rfl, rfl, ifS_dec (fun hab => ?_) (fun hab => ?_)⟩
              · walk_at "r"
                exact no (by unfold tieB; rw [hw]; simp [sameB, eqD_int, hab])
              · walk_at "r"
                exact ⟨all_take ht hall (by unfold tieB; rw [hw]; simp [sameB, eqD_int, hab]), _, rfl⟩
        · rw [hi, List.take_length] at hall
          walk_at "r"
          rw [hall] at q
          exact .of q
    · walk_at "r"
      exact bad (by rw [h1]; rfl)
  | _ =>
    simp! only [t_law_ties]
    exact .of q
/-- things: no cells, no script, all short -/
def shN : Nat → D → Bool
  | _, .non => true
  | _, .bl _ => true
  | _, .int _ => true
  | _, .str x => PyData.strOk x
  | n + 1, .lst xs => decide (xs.length < 1000) && xs.all (shN n)
  | n + 1, .tup xs => decide (xs.length < 1000) && xs.all (shN n)
  | _, _ => false
theorem shN_ok : ∀ {n : Nat} {d : D}, shN n d = true → okN n d = true
  | n, .non, _ => by cases n <;> rfl
  | n, .bl _, _ => by cases n <;> rfl
  | n, .int _, _ => by cases n <;> rfl
  | n, .str x, h => by cases n <;> exact h
  | 0, .lst xs, h => by simp [shN] at h
  | 0, .tup xs, h => by simp [shN] at h
  | n + 1, .lst xs, h => by
    unfold shN at h
    unfold okN
    rw [Bool.and_eq_true] at h
    exact List.all_eq_true.mpr fun x hx => shN_ok (List.all_eq_true.mp h.2 x hx)
  | n + 1, .tup xs, h => by
    unfold shN at h
    unfold okN
    rw [Bool.and_eq_true] at h
    exact List.all_eq_true.mpr fun x hx => shN_ok (List.all_eq_true.mp h.2 x hx)
  | n, .scr _, h => by cases n <;> simp [shN] at h
  | n, .raw _, h => by cases n <;> simp [shN] at h
  | n, .emp, h => by cases n <;> simp [shN] at h
theorem shN_tup {n : Nat} {xs : List D} (h : shN (n + 1) (.tup xs) = true) : xs.length < 1000 ∧ ∀ x ∈ xs, shN n x = true := by
  unfold shN at h
  rw [Bool.and_eq_true] at h
  exact ⟨of_decide_eq_true h.1, List.all_eq_true.mp h.2⟩
theorem shN_row1 {n : Nat} {d : D} (h : shN n d = true) (hn : n ≤ 41) : Row1 d := by
  refine ⟨okN_plain (shN_ok h), fun xs e => ?_⟩
  subst e
  cases n with
  | zero => simp [shN] at h
  | succ n =>
    obtain ⟨h1, h2⟩ := shN_tup h
    exact ⟨h1, fun x hx => okN_mono (shN_ok (h2 x hx)) (by omega)⟩
theorem shN_row2 {n : Nat} {d : D} (h : shN n d = true) (hn : n ≤ 42) : Row2 d := by
  refine ⟨okN_plain (shN_ok h), fun xs e => ?_⟩
  subst e
  cases n with
  | zero => simp [shN] at h
  | succ n =>
    obtain ⟨h1, h2⟩ := shN_tup h
    exact ⟨h1, fun x hx => shN_row1 (h2 x hx) (by omega)⟩
def itm (xs : List D) (i : Nat) : D := xs.getD i .non
def numOf : D → Int
  | .int i => i
  | _ => 0
theorem itm_at {xs : List D} {i : Nat} {k : Int} (hk : k = (i : Int)) (h : i < xs.length) : atI xs k = some (itm xs i) := by
  rw [hk, NB.atI_nat, List.getElem?_eq_getElem h]
  unfold itm
  rw [List.getD_eq_getElem?_getD, List.getElem?_eq_getElem h]
  rfl
theorem itm_mem {xs : List D} {i : Nat} (h : i < xs.length) : itm xs i ∈ xs := by
  unfold itm
  rw [List.getD_eq_getElem?_getD, List.getElem?_eq_getElem h]
  exact List.getElem_mem h
theorem within_int {lo hi : Int} {d : D} (h : withinB lo hi d = true) : d = .int (numOf d) := by
  cases d with
  | int i => rfl
  | _ => cases h
def webB (n : Int) (xs : List D) : Bool := decide ((xs.length : Int) = n) && (withinB 2 10 (itm xs 1) && areTiesB (numOf (itm xs 1)) true (itm xs 2))
def c_is_web : Ct := fun ds μ Q _ => ∃ xs n, ds = [.tup xs, .int n] ∧ 3 ≤ n ∧ shN 40 (.tup xs) = true ∧ Q (.bl (webB n xs)) μ
def t_is_web : DTS :=
  (dSeq (dIf (dOr (dB (dOp gNe (dCB gLen (dCons (dVar 0) dNil)) (dVar 1))) (dNot (dTru (dCall c_is_within (dCons (dOp gIx (dVar 0) (dC (.int 1))) (dCons (dC (.int 2)) (dCons (dC k_MOST_PLACES) dNil))))))) (dRet (dC (.bl false))) dNext)
    (dRet (dCall c_are_ties (dCons (dOp gIx (dVar 0) (dC (.int 2))) (dCons (dOp gIx (dVar 0) (dC (.int 1))) (dCons (dC (.bl true)) dNil))))))
def t_law_is_web : DTS :=
  (dRet (dAndV (dOp gEq (dCB gLen (dCons (dVar 0) dNil)) (dVar 1)) (dAndV (dCall c_is_within (dCons (dOp gIx (dVar 0) (dC (.int 1))) (dCons (dC (.int 2)) (dCons (dC (.int 10)) dNil)))) (dCall c_are_ties (dCons (dOp gIx (dVar 0) (dC (.int 2))) (dCons (dOp gIx (dVar 0) (dC (.int 1))) (dCons (dC (.bl true)) dNil)))))))

theorem hb_is_web : HB c_is_web t_is_web 2 := by
  intro ds μ Q X h
  obtain ⟨xs, n, rfl, hn, hs, q⟩ := h
  show t_is_web (ends Q XF) [some (.tup xs), some (.int n)] μ
  obtain ⟨_, hsx⟩ := shN_tup hs
  simp! only [t_is_web]
  refine ⟨rfl, rfl, ifOr_of (fun h => ?_) (fun h => ?_)⟩
  · walk_at "r"
    have h' : ¬ (xs.length : Int) = n := by simpa using h
    rw [webB, decide_eq_false h'] at q
    exact .of q
  · have h' : (xs.length : Int) = n := by simpa using h
    rw [webB, decide_eq_true h', Bool.true_and] at q
    have e1 := itm_at (xs := xs) (i := 1) (k := 1) rfl (by omega)
    have e2 := itm_at (xs := xs) (i := 2) (k := 2) rfl (by omega)
    simp! only [e1, e2]
    refine ⟨_, _, _, rfl, okN_plain (shN_ok (hsx _ (itm_mem (by omega)))), ?_⟩
    cases hw : withinB 2 10 (itm xs 1) with
    | false =>
      walk_at "r"
      rw [hw] at q
      exact .of q
    | true =>
      rw [hw, Bool.true_and] at q
      have ei := within_int hw
      simp! only [e1, e2]
      exact ⟨_, numOf (itm xs 1), true, by rw [← ei], shN_row2 (hsx _ (itm_mem (by omega))) (by decide), .of q⟩
theorem hb_law_is_web : HB c_is_web t_law_is_web 2 := by
  intro ds μ Q X h
  obtain ⟨xs, n, rfl, hn, hs, q⟩ := h
  show t_law_is_web (ends Q XF) [some (.tup xs), some (.int n)] μ
  obtain ⟨_, hsx⟩ := shN_tup hs
  simp! only [t_law_is_web]
  refine ⟨rfl, rfl, ifAndV_of (fun h => ?_) (fun h => ?_)⟩
  · have h' : (xs.length : Int) = n := by simpa using h
    rw [webB, decide_eq_true h', Bool.true_and] at q
    have e1 := itm_at (xs := xs) (i := 1) (k := 1) rfl (by omega)
    have e2 := itm_at (xs := xs) (i := 2) (k := 2) rfl (by omega)
    simp! only [e1, e2]
    refine ⟨_, _, _, rfl, okN_plain (shN_ok (hsx _ (itm_mem (by omega)))), ?_⟩
    cases hw : withinB 2 10 (itm xs 1) with
    | false =>
      walk_at "r"
      rw [hw] at q
      exact .of q
    | true =>
      rw [hw, Bool.true_and] at q
      have ei := within_int hw
      simp! only [e1, e2]
      exact ⟨_, numOf (itm xs 1), true, by rw [← ei], shN_row2 (hsx _ (itm_mem (by omega))) (by decide), .of q⟩
  · have h' : ¬ (xs.length : Int) = n := by simpa using h
    rw [webB, decide_eq_false h'] at q
    exact .of q
def lenOf : D → Int
  | .tup xs => xs.length
  | _ => 0
def wayB (xs : List D) : Bool := webB 5 xs && (areWithinB 2 0 (numOf (itm xs 1) - 1) (.tup (xs.drop 3)) && !eqD (itm xs 3) (itm xs 4))
def c_is_way : Ct := fun ds μ Q _ => ∃ xs, ds = [.tup xs] ∧ shN 40 (.tup xs) = true ∧ Q (.bl (wayB xs)) μ
theorem webB_len {n : Int} {xs : List D} (h : webB n xs = true) : (xs.length : Int) = n ∧ itm xs 1 = .int (numOf (itm xs 1)) := by
  unfold webB at h
  rw [Bool.and_eq_true, Bool.and_eq_true] at h
  exact ⟨of_decide_eq_true h.1, within_int h.2.1⟩
theorem cut_drop3 {xs : List D} : cutD xs (some 3) none = xs.drop 3 := cut_drop (i := 2)
def t_is_way : DTS :=
  (dSeq (dIf (dNot (dTru (dCall c_is_web (dCons (dVar 0) (dCons (dC (.int 5)) dNil))))) (dRet (dC (.bl false))) dNext)
    (dRet (dAndV (dCall c_are_within (dCons (dSl (dVar 0) (dPart (dC (.int 3))) dNoPart) (dCons (dC (.int 2)) (dCons (dC (.int 0)) (dCons (dOp (gI0 fun i j => .int (i - j)) (dOp gIx (dVar 0) (dC (.int 1))) (dC (.int 1))) dNil))))) (dOp gNe (dOp gIx (dVar 0) (dC (.int 3))) (dOp gIx (dVar 0) (dC (.int 4)))))))

theorem hb_is_way : HB c_is_way t_is_way 1 := by
  intro ds μ Q X h
  obtain ⟨xs, rfl, hs, q⟩ := h
  show t_is_way (ends Q XF) [some (.tup xs)] μ
  obtain ⟨_, hsx⟩ := shN_tup hs
  simp! only [t_is_way]
  refine ⟨xs, 5, rfl, by decide, hs, ?_⟩
  cases hw : webB 5 xs with
  | false =>
    walk_at "r"
    rw [wayB, hw] at q
    exact .of q
  | true =>
    rw [wayB, hw, Bool.true_and] at q
    obtain ⟨hl, e1⟩ := webB_len hw
    have a1 := itm_at (xs := xs) (i := 1) (k := 1) rfl (by omega)
    have a3 := itm_at (xs := xs) (i := 3) (k := 3) rfl (by omega)
    have a4 := itm_at (xs := xs) (i := 4) (k := 4) rfl (by omega)
    rw [e1] at a1
    simp! only [cut_drop3, a1]
    refine ⟨.tup (xs.drop 3), 2, 0, _, rfl, ⟨rfl, fun ys e => ?_⟩, ?_⟩
    · cases e
      exact ⟨by rw [List.length_drop]; omega, fun x hx => okN_mono (shN_ok (hsx x (List.mem_of_mem_drop hx))) (by decide)⟩
    · cases hr : areWithinB 2 0 (numOf (itm xs 1) - 1) (.tup (xs.drop 3)) with
      | false =>
        walk_at "r"
        rw [hr] at q
        exact .of q
      | true =>
        rw [hr, Bool.true_and] at q
        simp! only [a3, a4]
        have v : ∀ i, i < xs.length → view μ (itm xs i) = itm xs i ∧ okN 64 (itm xs i) = true := fun i hi => by
          have h1 := shN_ok (hsx _ (itm_mem hi))
          have h2 := okN_plain h1
          refine ⟨?_, okN_mono h1 (by decide)⟩
          cases e : itm xs i with
          | raw _ => rw [e] at h2; cases h2
          | _ => rfl
        obtain ⟨v3, o3⟩ := v 3 (by omega)
        obtain ⟨v4, o4⟩ := v 4 (by omega)
        rw [v3, v4]
        exact ⟨o3, o4, .of q⟩
end NB
set_option Elab.async false
set_option linter.all false
set_option maxRecDepth 100000
set_option maxHeartbeats 2000000
set_option exponentiation.threshold 20000
/-! Shapes: the whole test. -/
local macro_rules | `(tactic| walk_at "r") => `(tactic| simp only [DL.dSeq, DL.dSet, DL.kSet, DL.dCB, DL.kCB, DL.dCons, DL.kCons1, DL.kCons2, DL.dNil, DL.dVar, DL.dC, DL.dOp, DL.kOp1, DL.kOp2, DL.dB, DL.kB, DL.dIf, DL.kIf, DL.dRet, DL.dRetN, DL.dTup, DL.kTup, DL.dLst, DL.kLst, DL.dLstC, DL.kLstC, DL.dCall, DL.kCall, DL.dCallK, DL.kCallK1, DL.kCallK2, DL.dLenIs, DL.kLenIs, DL.dNext, DL.dDrop, DL.kDrop, DL.dPar, DL.kPar, DL.dAug, DL.kAug, DL.dAsg, DL.kAsg, DL.dSetIx, DL.kSetIx1, DL.kSetIx2, DL.kSetIx3, DL.dTru, DL.kTru, DL.dAnd, DL.kAnd, DL.dOr, DL.kOr, DL.dNot, DL.kNot, DL.dAndV, DL.kAndV, DL.dOrV, DL.kOrV, DL.dNotV, DL.kNotV, DL.dIfE, DL.kIfE, DL.dChain, DL.kChain1, DL.kChain2, DL.kChain3_true, DL.kChain3_false, DL.dNeg, DL.kNeg, DL.dFz, DL.kFz, DL.dRaise, DL.dTryAs, DL.suiteE, DL.kUnset, DL.dFor, DL.kFor, DL.dSeqI, DL.kSeqI, DL.dRange1, DL.kRange1, DL.dRange2, DL.kRange2, DL.dLc, DL.kLc, DL.dLcC, DL.kLstD, DL.kNewC, DL.dYes, DL.wipeD, DL.loopD, DL.compD, DL.kItem, DL.kTest_true, DL.kTest_false, DL.putIx_some, DL.setsK_some, DL.turnD_some, DL.turnC_some, DL.ifS_true, DL.ifS_false, DL.ifAnd_true, DL.ifAnd_false, DL.ifOr_true, DL.ifOr_false, DL.ifAndV_true, DL.ifAndV_false, DL.ifOrV_true, DL.ifOrV_false, DL.ifE_true, DL.ifE_false, DL.srcOf, DL.tgN, DL.tgT, DL.tgNil, DL.tgCons, DL.sets, List.foldl_cons, List.foldl_nil, DL.gI, DL.gI0, DL.gAdd, DL.gMul, DL.gIx, DL.gEq, DL.gNe, DL.gIs, DL.gIn, DL.gLen, DL.gAbs, DL.gMax2, DL.gMin2, DL.gAll, DL.gAny, DL.gSum, DL.gList, DL.gListC, DL.gTuple, DL.gIsiC, DL.gIsi, DL.tyN, DL.subN_NoneType_int, DL.subN_NoneType_bool, DL.subN_NoneType_str, DL.subN_NoneType_list, DL.subN_NoneType_tuple, DL.subN_bool_int, DL.subN_bool_bool, DL.subN_bool_str, DL.subN_bool_list, DL.subN_bool_tuple, DL.subN_int_int, DL.subN_int_bool, DL.subN_int_str, DL.subN_int_list, DL.subN_int_tuple, DL.subN_str_int, DL.subN_str_bool, DL.subN_str_str, DL.subN_str_list, DL.subN_str_tuple, DL.subN_list_int, DL.subN_list_bool, DL.subN_list_str, DL.subN_list_list, DL.subN_list_tuple, DL.subN_tuple_int, DL.subN_tuple_bool, DL.subN_tuple_str, DL.subN_tuple_list, DL.subN_tuple_tuple, DL.truD, DL.blsOf, DL.view_non, DL.view_bl, DL.view_int', DL.view_str', DL.view_lst', DL.view_tup', DL.view_scr', DL.ends, DL.kEnd, DL.OptP_some, DL.OptQ_some, DL.OptB_some, DL.OptS_some, List.getElem?_cons_zero, List.getElem?_cons_succ, List.set_cons_zero, List.set_cons_succ, DL.atI_zero, DL.atI_one, DL.atI_two, List.length_cons, List.length_nil, DL.pick, List.filterMap_cons, List.filterMap_nil, List.nil_append, List.cons_append, List.map_cons, List.map_nil, Option.map_some, Option.bind_some, true_and, and_true, Bool.false_eq_true, Bool.not_true, Bool.not_false, Bool.xor_false, Bool.xor_true, Bool.false_xor, Bool.true_xor, decide_true, decide_false, Nat.zero_add, Nat.reduceAdd, not_true_eq_false, not_false_eq_true, DL.eqD_int, DL.eqD_str, DL.eqD_bl, DL.eqD_tup, DL.eqD_lst, DL.eqDs_nil, DL.eqDs_cons, Bool.and_true, Bool.and_false, List.all_cons, List.all_nil, List.any_cons, List.any_nil, Bool.and_self, DL.dM, DL.kM1, DL.kM2, DL.dM0, DL.kM0, DL.gAppend, DL.gInsert, DL.gExtend, DL.gPop1, DL.gPop0, DL.gReverse, DL.gSort, DL.gRemove, DL.gCount, DL.gIndex, DL.dSlG, DL.kSl1, DL.kSl2, DL.kSl3, DL.gSl, DL.gSlC, DL.dNoPart, DL.dPart, DL.kPart, DL.dLR1, DL.kLR1, DL.dLR2, DL.kLR21, DL.kLR22, DL.nLst, DL.gRepC, DL.gCatC, DL.gInt, DL.gSorted, DL.gMaxL, DL.gMinL, DL.dEnum, DL.kEnum, DL.dZip2, DL.kZip2, DL.dZip3, DL.kZip3, DL.OptS2_some, DL.OptS3_some, DL.dRev, DL.kRev, DL.dEmp, DL.view_emp', DL.subN_dict_int, DL.subN_dict_bool, DL.subN_dict_str, DL.subN_dict_list, DL.subN_dict_tuple, DL.cellL_lst, DL.cellL_none])
local macro_rules | `(tactic| simp! only [$xs,*]) => `(tactic| simp only [DL.dSeq, DL.dSet, DL.kSet, DL.dCB, DL.kCB, DL.dCons, DL.kCons1, DL.kCons2, DL.dNil, DL.dVar, DL.dC, DL.dOp, DL.kOp1, DL.kOp2, DL.dB, DL.kB, DL.dIf, DL.kIf, DL.dRet, DL.dRetN, DL.dTup, DL.kTup, DL.dLst, DL.kLst, DL.dLstC, DL.kLstC, DL.dCall, DL.kCall, DL.dCallK, DL.kCallK1, DL.kCallK2, DL.dLenIs, DL.kLenIs, DL.dNext, DL.dDrop, DL.kDrop, DL.dPar, DL.kPar, DL.dAug, DL.kAug, DL.dAsg, DL.kAsg, DL.dSetIx, DL.kSetIx1, DL.kSetIx2, DL.kSetIx3, DL.dTru, DL.kTru, DL.dAnd, DL.kAnd, DL.dOr, DL.kOr, DL.dNot, DL.kNot, DL.dAndV, DL.kAndV, DL.dOrV, DL.kOrV, DL.dNotV, DL.kNotV, DL.dIfE, DL.kIfE, DL.dChain, DL.kChain1, DL.kChain2, DL.kChain3_true, DL.kChain3_false, DL.dNeg, DL.kNeg, DL.dFz, DL.kFz, DL.dRaise, DL.dTryAs, DL.suiteE, DL.kUnset, DL.dFor, DL.kFor, DL.dSeqI, DL.kSeqI, DL.dRange1, DL.kRange1, DL.dRange2, DL.kRange2, DL.dLc, DL.kLc, DL.dLcC, DL.kLstD, DL.kNewC, DL.dYes, DL.wipeD, DL.loopD, DL.compD, DL.kItem, DL.kTest_true, DL.kTest_false, DL.putIx_some, DL.setsK_some, DL.turnD_some, DL.turnC_some, DL.ifS_true, DL.ifS_false, DL.ifAnd_true, DL.ifAnd_false, DL.ifOr_true, DL.ifOr_false, DL.ifAndV_true, DL.ifAndV_false, DL.ifOrV_true, DL.ifOrV_false, DL.ifE_true, DL.ifE_false, DL.srcOf, DL.tgN, DL.tgT, DL.tgNil, DL.tgCons, DL.sets, List.foldl_cons, List.foldl_nil, DL.gI, DL.gI0, DL.gAdd, DL.gMul, DL.gIx, DL.gEq, DL.gNe, DL.gIs, DL.gIn, DL.gLen, DL.gAbs, DL.gMax2, DL.gMin2, DL.gAll, DL.gAny, DL.gSum, DL.gList, DL.gListC, DL.gTuple, DL.gIsiC, DL.gIsi, DL.tyN, DL.subN_NoneType_int, DL.subN_NoneType_bool, DL.subN_NoneType_str, DL.subN_NoneType_list, DL.subN_NoneType_tuple, DL.subN_bool_int, DL.subN_bool_bool, DL.subN_bool_str, DL.subN_bool_list, DL.subN_bool_tuple, DL.subN_int_int, DL.subN_int_bool, DL.subN_int_str, DL.subN_int_list, DL.subN_int_tuple, DL.subN_str_int, DL.subN_str_bool, DL.subN_str_str, DL.subN_str_list, DL.subN_str_tuple, DL.subN_list_int, DL.subN_list_bool, DL.subN_list_str, DL.subN_list_list, DL.subN_list_tuple, DL.subN_tuple_int, DL.subN_tuple_bool, DL.subN_tuple_str, DL.subN_tuple_list, DL.subN_tuple_tuple, DL.truD, DL.blsOf, DL.view_non, DL.view_bl, DL.view_int', DL.view_str', DL.view_lst', DL.view_tup', DL.view_scr', DL.ends, DL.kEnd, DL.OptP_some, DL.OptQ_some, DL.OptB_some, DL.OptS_some, List.getElem?_cons_zero, List.getElem?_cons_succ, List.set_cons_zero, List.set_cons_succ, DL.atI_zero, DL.atI_one, DL.atI_two, List.length_cons, List.length_nil, DL.pick, List.filterMap_cons, List.filterMap_nil, List.nil_append, List.cons_append, List.map_cons, List.map_nil, Option.map_some, Option.bind_some, true_and, and_true, Bool.false_eq_true, Bool.not_true, Bool.not_false, Bool.xor_false, Bool.xor_true, Bool.false_xor, Bool.true_xor, decide_true, decide_false, Nat.zero_add, Nat.reduceAdd, not_true_eq_false, not_false_eq_true, DL.eqD_int, DL.eqD_str, DL.eqD_bl, DL.eqD_tup, DL.eqD_lst, DL.eqDs_nil, DL.eqDs_cons, Bool.and_true, Bool.and_false, List.all_cons, List.all_nil, List.any_cons, List.any_nil, Bool.and_self, DL.dM, DL.kM1, DL.kM2, DL.dM0, DL.kM0, DL.gAppend, DL.gInsert, DL.gExtend, DL.gPop1, DL.gPop0, DL.gReverse, DL.gSort, DL.gRemove, DL.gCount, DL.gIndex, DL.dSlG, DL.kSl1, DL.kSl2, DL.kSl3, DL.gSl, DL.gSlC, DL.dNoPart, DL.dPart, DL.kPart, DL.dLR1, DL.kLR1, DL.dLR2, DL.kLR21, DL.kLR22, DL.nLst, DL.gRepC, DL.gCatC, DL.gInt, DL.gSorted, DL.gMaxL, DL.gMinL, DL.dEnum, DL.kEnum, DL.dZip2, DL.kZip2, DL.dZip3, DL.kZip3, DL.OptS2_some, DL.OptS3_some, DL.dRev, DL.kRev, DL.dEmp, DL.view_emp', DL.subN_dict_int, DL.subN_dict_bool, DL.subN_dict_str, DL.subN_dict_list, DL.subN_dict_tuple, DL.cellL_lst, DL.cellL_none, $xs,*])
namespace NB
open PySem PySem.Spec L2 DL Fr
theorem len2 {xs : List D} (h : (xs.length : Int) = 2) : ∃ a b, xs = [a, b] := by
  match xs, h with
  | [a, b], _ => exact ⟨a, b, rfl⟩
  | [], h => exact absurd h (by decide)
  | [_], h => simp at h
  | _ :: _ :: _ :: _, h => simp at h; omega
theorem len3 {xs : List D} (h : (xs.length : Int) = 3) : ∃ a b c, xs = [a, b, c] := by
  match xs, h with
  | [a, b, c], _ => exact ⟨a, b, c, rfl⟩
  | [], h => exact absurd h (by decide)
  | [_], h => simp at h
  | [_, _], h => simp at h
  | _ :: _ :: _ :: _ :: _, h => simp at h; omega
theorem len5 {xs : List D} (h : (xs.length : Int) = 5) : ∃ a b c d e, xs = [a, b, c, d, e] := by
  match xs, h with
  | [a, b, c, d, e], _ => exact ⟨a, b, c, d, e, rfl⟩
  | [], h => exact absurd h (by decide)
  | [_], h => simp at h
  | [_, _], h => simp at h
  | [_, _, _], h => simp at h
  | [_, _, _, _], h => simp at h
  | _ :: _ :: _ :: _ :: _ :: _ :: _, h => simp at h; omega
theorem atI_three {α : Type} {a b c d : α} {xs : List α} : atI (a :: b :: c :: d :: xs) 3 = some d := by
  have := NB.atI_nat (xs := a :: b :: c :: d :: xs) (i := 3)
  simpa using this
theorem atI_four {α : Type} {a b c d e : α} {xs : List α} : atI (a :: b :: c :: d :: e :: xs) 4 = some e := by
  have := NB.atI_nat (xs := a :: b :: c :: d :: e :: xs) (i := 4)
  simpa using this
def pairB : List D → Bool
  | [_, .int m, t] => withinB 1 6 (.int m) && areTiesB m false t
  | _ => false
def dealB : List D → Bool
  | [_, .tup rs, .int w] => (decide ((1 : Int) ≤ rs.length) && decide ((rs.length : Int) ≤ 4)) && (areWithinB rs.length 0 6 (.tup rs) && (withinB 1 6 (.int w) && decide ((rs.length : Int) * w ≤ 16)))
  | _ => false
def sumOf : D → Int
  | .tup xs => (xs.map numOf).sum
  | _ => 0
def streamB : List D → Bool
  | [w, .int m, .tup ts, r, n] => webB 5 [w, .int m, .tup ts, r, n] && (areWithinB ts.length 1 9 r && (areWithinB m (-9) 9 n && decide (sumOf n = 0)))
  | _ => false
def benchB : List D → Bool
  | [_, .tup ls] => (decide ((1 : Int) ≤ ls.length) && decide ((ls.length : Int) ≤ 8)) && areWithinB ls.length 1 9 (.tup ls)
  | _ => false
theorem pairB_len {xs : List D} (h : ¬ (xs.length : Int) = 3) : pairB xs = false := by
  unfold pairB
  split
  · exact absurd rfl h
  · rfl
theorem dealB_len {xs : List D} (h : ¬ (xs.length : Int) = 3) : dealB xs = false := by
  unfold dealB
  split
  · exact absurd rfl h
  · rfl
theorem benchB_len {xs : List D} (h : ¬ (xs.length : Int) = 2) : benchB xs = false := by
  unfold benchB
  split
  · exact absurd rfl h
  · rfl
def restB : D → List D → Bool
  | .str w, xs => if w = PySem.Str.ofString "pair" then pairB xs else if w = PySem.Str.ofString "deal" then dealB xs else if w = PySem.Str.ofString "bench" then benchB xs else false
  | _, _ => false
def kindB : D → List D → Bool
  | .str w, xs => if w = PySem.Str.ofString "way" then wayB xs else if w = PySem.Str.ofString "tree" then webB 3 xs else if w = PySem.Str.ofString "stream" then streamB xs else restB (.str w) xs
  | _, _ => false
/-- what is a shape -/
def shapeB : D → Bool
  | .tup (w :: xs) => kindB w (w :: xs)
  | _ => false
def c_tupB (f : List D → Bool) : Ct := fun ds μ Q _ => ∃ xs, ds = [.tup xs] ∧ shN 40 (.tup xs) = true ∧ Q (.bl (f xs)) μ
def c_is_pair : Ct := c_tupB pairB
def c_is_deal : Ct := c_tupB dealB
def c_is_stream : Ct := c_tupB streamB
def c_is_bench : Ct := c_tupB benchB
/-- any thing: no cell, no script; a tuple of short ones -/
def Thing (d : D) : Prop := plainD d = true ∧ ∀ xs, d = .tup xs → shN 40 (.tup xs) = true
def c_is_shape : Ct := fun ds μ Q _ => ∃ d, ds = [d] ∧ Thing d ∧ Q (.bl (shapeB d)) μ
def c_is_rest : Ct := fun ds μ Q _ => ∃ w xs, ds = [.tup (.str w :: xs)] ∧ shN 40 (.tup (.str w :: xs)) = true ∧ Q (.bl (restB (.str w) (.str w :: xs))) μ
def t_is_pair : DTS :=
  (dSeq (dIf (dOr (dB (dOp gNe (dCB gLen (dCons (dVar 0) dNil)) (dC (.int 3)))) (dNot (dTru (dCall c_is_within (dCons (dOp gIx (dVar 0) (dC (.int 1))) (dCons (dC (.int 1)) (dCons (dC k_MOST_PAIRS) dNil))))))) (dRet (dC (.bl false))) dNext)
    (dRet (dCall c_are_ties (dCons (dOp gIx (dVar 0) (dC (.int 2))) (dCons (dOp gIx (dVar 0) (dC (.int 1))) (dCons (dC (.bl false)) dNil))))))
def t_is_deal : DTS :=
  (dSeq (dIf (dOr (dB (dOp gNe (dCB gLen (dCons (dVar 0) dNil)) (dC (.int 3)))) (dOr (dNot (dTru (dCB (gIsiC "tuple") (dCons (dOp gIx (dVar 0) (dC (.int 1))) (dCons (dC (.raw (.ty "tuple"))) dNil))))) (dNot (dB (dChain gLe gLe (dC (.int 1)) (dCB gLen (dCons (dOp gIx (dVar 0) (dC (.int 1))) dNil)) (dC k_MOST_HANDS)))))) (dRet (dC (.bl false))) dNext)
    (dSeq (dIf (dOr (dNot (dTru (dCall c_are_within (dCons (dOp gIx (dVar 0) (dC (.int 1))) (dCons (dCB gLen (dCons (dOp gIx (dVar 0) (dC (.int 1))) dNil)) (dCons (dC (.int 0)) (dCons (dC k_MOST_ROOM) dNil))))))) (dNot (dTru (dCall c_is_within (dCons (dOp gIx (dVar 0) (dC (.int 2))) (dCons (dC (.int 1)) (dCons (dC k_MOST_WORKS) dNil))))))) (dRet (dC (.bl false))) dNext)
    (dRet (dOp gLe (dOp gMul (dCB gLen (dCons (dOp gIx (dVar 0) (dC (.int 1))) dNil)) (dOp gIx (dVar 0) (dC (.int 2)))) (dC k_MOST_ITEMS)))))
def t_is_stream : DTS :=
  (dSeq (dIf (dOr (dNot (dTru (dCall c_is_web (dCons (dVar 0) (dCons (dC (.int 5)) dNil))))) (dNot (dTru (dCall c_are_within (dCons (dOp gIx (dVar 0) (dC (.int 3))) (dCons (dCB gLen (dCons (dOp gIx (dVar 0) (dC (.int 2))) dNil)) (dCons (dC (.int 1)) (dCons (dC k_MOST_FLOW) dNil)))))))) (dRet (dC (.bl false))) dNext)
    (dRet (dAndV (dCall c_are_within (dCons (dOp gIx (dVar 0) (dC (.int 4))) (dCons (dOp gIx (dVar 0) (dC (.int 1))) (dCons (dOp (gI0 fun i j => .int (i - j)) (dC (.int 0)) (dC k_MOST_FLOW)) (dCons (dC k_MOST_FLOW) dNil))))) (dOp gEq (dCB gSum (dCons (dOp gIx (dVar 0) (dC (.int 4))) dNil)) (dC (.int 0))))))
def t_is_bench : DTS :=
  (dSeq (dIf (dOr (dB (dOp gNe (dCB gLen (dCons (dVar 0) dNil)) (dC (.int 2)))) (dOr (dNot (dTru (dCB (gIsiC "tuple") (dCons (dOp gIx (dVar 0) (dC (.int 1))) (dCons (dC (.raw (.ty "tuple"))) dNil))))) (dNot (dB (dChain gLe gLe (dC (.int 1)) (dCB gLen (dCons (dOp gIx (dVar 0) (dC (.int 1))) dNil)) (dC k_MOST_BENCH)))))) (dRet (dC (.bl false))) dNext)
    (dRet (dCall c_are_within (dCons (dOp gIx (dVar 0) (dC (.int 1))) (dCons (dCB gLen (dCons (dOp gIx (dVar 0) (dC (.int 1))) dNil)) (dCons (dC (.int 1)) (dCons (dC k_MOST_FLOW) dNil)))))))
def t_is_shape : DTS :=
  (dSeq (dIf (dOr (dNot (dTru (dCB (gIsiC "tuple") (dCons (dVar 0) (dCons (dC (.raw (.ty "tuple"))) dNil))))) (dOr (dB (dOp gEq (dVar 0) (dTup dNil))) (dNot (dTru (dCB (gIsiC "str") (dCons (dOp gIx (dVar 0) (dC (.int 0))) (dCons (dC (.raw (.ty "str"))) dNil))))))) (dRet (dC (.bl false))) dNext)
    (dSeq (dIf (dB (dOp gEq (dOp gIx (dVar 0) (dC (.int 0))) (dC (.str (PySem.Str.ofString "way"))))) (dRet (dCall c_is_way (dCons (dVar 0) dNil))) dNext)
    (dSeq (dIf (dB (dOp gEq (dOp gIx (dVar 0) (dC (.int 0))) (dC (.str (PySem.Str.ofString "tree"))))) (dRet (dCall c_is_web (dCons (dVar 0) (dCons (dC (.int 3)) dNil)))) dNext)
    (dSeq (dIf (dB (dOp gEq (dOp gIx (dVar 0) (dC (.int 0))) (dC (.str (PySem.Str.ofString "pair"))))) (dRet (dCall c_is_pair (dCons (dVar 0) dNil))) dNext)
    (dSeq (dIf (dB (dOp gEq (dOp gIx (dVar 0) (dC (.int 0))) (dC (.str (PySem.Str.ofString "deal"))))) (dRet (dCall c_is_deal (dCons (dVar 0) dNil))) dNext)
    (dSeq (dIf (dB (dOp gEq (dOp gIx (dVar 0) (dC (.int 0))) (dC (.str (PySem.Str.ofString "stream"))))) (dRet (dCall c_is_stream (dCons (dVar 0) dNil))) dNext)
    (dRet (dAndV (dOp gEq (dOp gIx (dVar 0) (dC (.int 0))) (dC (.str (PySem.Str.ofString "bench")))) (dCall c_is_bench (dCons (dVar 0) dNil))))))))))
def t_items_of : DTS :=
  (dSeq (dIf (dB (dOp (gIn false) (dOp gIx (dVar 0) (dC (.int 0))) (dC k_TIED))) (dRet (dCB gLen (dCons (dOp gIx (dVar 0) (dC (.int 2))) dNil))) dNext)
    (dSeq (dIf (dB (dOp gEq (dOp gIx (dVar 0) (dC (.int 0))) (dC (.str (PySem.Str.ofString "deal"))))) (dRet (dOp gMul (dCB gLen (dCons (dOp gIx (dVar 0) (dC (.int 1))) dNil)) (dOp gIx (dVar 0) (dC (.int 2))))) dNext)
    (dRet (dCB gLen (dCons (dOp gIx (dVar 0) (dC (.int 1))) dNil)))))
def t_law_is_rest : DTS :=
  (dSeq (dSet 1 (dOp gIx (dVar 0) (dC (.int 0))))
    (dSeq (dIf (dB (dOp gEq (dVar 1) (dC (.str (PySem.Str.ofString "pair"))))) (dRet (dAndV (dOp gEq (dCB gLen (dCons (dVar 0) dNil)) (dC (.int 3))) (dAndV (dCall c_is_within (dCons (dOp gIx (dVar 0) (dC (.int 1))) (dCons (dC (.int 1)) (dCons (dC (.int 6)) dNil)))) (dCall c_are_ties (dCons (dOp gIx (dVar 0) (dC (.int 2))) (dCons (dOp gIx (dVar 0) (dC (.int 1))) (dCons (dC (.bl false)) dNil))))))) dNext)
    (dSeq (dIf (dB (dOp gEq (dVar 1) (dC (.str (PySem.Str.ofString "deal"))))) (dSeq (dIf (dOr (dB (dOp gNe (dCB gLen (dCons (dVar 0) dNil)) (dC (.int 3)))) (dOr (dNot (dTru (dCB (gIsiC "tuple") (dCons (dOp gIx (dVar 0) (dC (.int 1))) (dCons (dC (.raw (.ty "tuple"))) dNil))))) (dNot (dTru (dCall c_is_within (dCons (dOp gIx (dVar 0) (dC (.int 2))) (dCons (dC (.int 1)) (dCons (dC (.int 6)) dNil)))))))) (dRet (dC (.bl false))) dNext)
    (dSeq (dIf (dOr (dNot (dB (dChain gLe gLe (dC (.int 1)) (dCB gLen (dCons (dOp gIx (dVar 0) (dC (.int 1))) dNil)) (dC (.int 4))))) (dB (dOp gGt (dOp gMul (dCB gLen (dCons (dOp gIx (dVar 0) (dC (.int 1))) dNil)) (dOp gIx (dVar 0) (dC (.int 2)))) (dC (.int 16))))) (dRet (dC (.bl false))) dNext)
    (dRet (dCall c_are_within (dCons (dOp gIx (dVar 0) (dC (.int 1))) (dCons (dCB gLen (dCons (dOp gIx (dVar 0) (dC (.int 1))) dNil)) (dCons (dC (.int 0)) (dCons (dC (.int 6)) dNil)))))))) dNext)
    (dSeq (dIf (dOr (dB (dOp gNe (dVar 1) (dC (.str (PySem.Str.ofString "bench"))))) (dOr (dB (dOp gNe (dCB gLen (dCons (dVar 0) dNil)) (dC (.int 2)))) (dNot (dTru (dCB (gIsiC "tuple") (dCons (dOp gIx (dVar 0) (dC (.int 1))) (dCons (dC (.raw (.ty "tuple"))) dNil))))))) (dRet (dC (.bl false))) dNext)
    (dRet (dAndV (dChain gLe gLe (dC (.int 1)) (dCB gLen (dCons (dOp gIx (dVar 0) (dC (.int 1))) dNil)) (dC (.int 8))) (dCall c_are_within (dCons (dOp gIx (dVar 0) (dC (.int 1))) (dCons (dCB gLen (dCons (dOp gIx (dVar 0) (dC (.int 1))) dNil)) (dCons (dC (.int 1)) (dCons (dC (.int 9)) dNil)))))))))))
def t_law_is : DTS :=
  (dSeq (dIf (dOr (dNot (dTru (dCB (gIsiC "tuple") (dCons (dVar 0) (dCons (dC (.raw (.ty "tuple"))) dNil))))) (dOr (dB (dOp gEq (dVar 0) (dTup dNil))) (dNot (dTru (dCB (gIsiC "str") (dCons (dOp gIx (dVar 0) (dC (.int 0))) (dCons (dC (.raw (.ty "str"))) dNil))))))) (dRet (dC (.bl false))) dNext)
    (dSeq (dIf (dB (dOp gEq (dOp gIx (dVar 0) (dC (.int 0))) (dC (.str (PySem.Str.ofString "tree"))))) (dRet (dCall c_is_web (dCons (dVar 0) (dCons (dC (.int 3)) dNil)))) dNext)
    (dSeq (dIf (dB (dOp gEq (dOp gIx (dVar 0) (dC (.int 0))) (dC (.str (PySem.Str.ofString "way"))))) (dRet (dAndV (dCall c_is_web (dCons (dVar 0) (dCons (dC (.int 5)) dNil))) (dAndV (dCall c_are_within (dCons (dSl (dVar 0) (dPart (dC (.int 3))) dNoPart) (dCons (dC (.int 2)) (dCons (dC (.int 0)) (dCons (dOp (gI0 fun i j => .int (i - j)) (dOp gIx (dVar 0) (dC (.int 1))) (dC (.int 1))) dNil))))) (dOp gNe (dOp gIx (dVar 0) (dC (.int 3))) (dOp gIx (dVar 0) (dC (.int 4))))))) dNext)
    (dSeq (dIf (dB (dOp gEq (dOp gIx (dVar 0) (dC (.int 0))) (dC (.str (PySem.Str.ofString "stream"))))) (dSeq (dIf (dOr (dNot (dTru (dCall c_is_web (dCons (dVar 0) (dCons (dC (.int 5)) dNil))))) (dNot (dTru (dCall c_are_within (dCons (dOp gIx (dVar 0) (dC (.int 3))) (dCons (dCB gLen (dCons (dOp gIx (dVar 0) (dC (.int 2))) dNil)) (dCons (dC (.int 1)) (dCons (dC (.int 9)) dNil)))))))) (dRet (dC (.bl false))) dNext)
    (dRet (dAndV (dCall c_are_within (dCons (dOp gIx (dVar 0) (dC (.int 4))) (dCons (dOp gIx (dVar 0) (dC (.int 1))) (dCons (dNeg (dC (.int 9))) (dCons (dC (.int 9)) dNil))))) (dOp gEq (dCB gSum (dCons (dOp gIx (dVar 0) (dC (.int 4))) dNil)) (dC (.int 0)))))) dNext)
    (dRet (dCall c_is_rest (dCons (dVar 0) dNil)))))))

theorem hb_is_pair : HB c_is_pair t_is_pair 1 := by
  intro ds μ Q X h
  obtain ⟨xs, rfl, hs, q⟩ := h
  show t_is_pair (ends Q XF) [some (.tup xs)] μ
  obtain ⟨_, hsx⟩ := shN_tup hs
  simp! only [t_is_pair]
  refine ⟨rfl, rfl, ifOr_of (fun h => ?_) (fun h => ?_)⟩
  · have h' : ¬ (xs.length : Int) = 3 := by simpa using h
    rw [pairB_len h'] at q
    walk_at "r"
    exact .of q
  · have h' : (xs.length : Int) = 3 := by simpa using h
    obtain ⟨a, b, c, rfl⟩ := len3 h'
    have hb := shN_ok (hsx b (by simp))
    have hc := hsx c (by simp)
    walk_at "r"
    refine ⟨b, 1, 6, rfl, okN_plain hb, ?_⟩
    cases b with
    | int m =>
      cases hw : withinB 1 6 (.int m) with
      | false =>
        rw [pairB, hw] at q
        walk_at "r"
        exact .of q
      | true =>
        rw [pairB, hw, Bool.true_and] at q
        walk_at "r"
        exact ⟨c, m, false, rfl, shN_row2 hc (by decide), .of q⟩
    | _ =>
      simp! only [withinB]
      exact .of q
theorem hb_is_bench : HB c_is_bench t_is_bench 1 := by
  intro ds μ Q X h
  obtain ⟨xs, rfl, hs, q⟩ := h
  show t_is_bench (ends Q XF) [some (.tup xs)] μ
  obtain ⟨_, hsx⟩ := shN_tup hs
  simp! only [t_is_bench]
  refine ⟨rfl, rfl, ifOr_of (fun h => ?_) (fun h => ?_)⟩
  · have h' : ¬ (xs.length : Int) = 2 := by simpa using h
    rw [benchB_len h'] at q
    walk_at "r"
    exact .of q
  · have h' : (xs.length : Int) = 2 := by simpa using h
    obtain ⟨a, b, rfl⟩ := len2 h'
    have hb := hsx b (by simp)
    have hp := okN_plain (shN_ok hb)
    cases b with
    | raw _ => cases hp
    | scr _ => cases hp
    | tup ls =>
      walk_at "r"
      refine kChain3_of (fun h1 => ?_) (fun h1 => ?_)
      · walk_at "r"
        cases h2 : decide ((ls.length : Int) ≤ 8) with
        | false =>
          rw [benchB, h1, h2] at q
          walk_at "r"
          exact .of q
        | true =>
          rw [benchB, h1, h2, Bool.true_and, Bool.true_and] at q
          walk_at "r"
          exact ⟨_, _, _, _, rfl, shN_row1 hb (by decide), .of q⟩
      · rw [benchB, h1] at q
        walk_at "r"
        exact .of q
    | _ =>
      walk_at "r"
      exact .of q
theorem hb_is_deal : HB c_is_deal t_is_deal 1 := by
  intro ds μ Q X h
  obtain ⟨xs, rfl, hs, q⟩ := h
  show t_is_deal (ends Q XF) [some (.tup xs)] μ
  obtain ⟨_, hsx⟩ := shN_tup hs
  simp! only [t_is_deal]
  refine ⟨rfl, rfl, ifOr_of (fun h => ?_) (fun h => ?_)⟩
  · have h' : ¬ (xs.length : Int) = 3 := by simpa using h
    rw [dealB_len h'] at q
    walk_at "r"
    exact .of q
  · have h' : (xs.length : Int) = 3 := by simpa using h
    obtain ⟨a, b, c, rfl⟩ := len3 h'
    have hb := hsx b (by simp)
    have hc := okN_plain (shN_ok (hsx c (by simp)))
    have hp := okN_plain (shN_ok hb)
    cases b with
    | raw _ => cases hp
    | scr _ => cases hp
    | tup rs =>
      have bad : ∀ {β : Bool}, (∀ w, c = .int w → dealB [a, .tup rs, c] = false) → Fin Q (.bl false) μ := fun hh => by
        have : dealB [a, .tup rs, c] = false := by
          cases c with
          | int w => exact hh w rfl
          | _ => rfl
        rw [this] at q
        exact .of q
      walk_at "r"
      refine kChain3_of (fun h1 => ?_) (fun h1 => ?_)
      · walk_at "r"
        cases h2 : decide ((rs.length : Int) ≤ 4) with
        | false =>
          walk_at "r"
          exact bad (β := true) fun w e => by subst e; rw [dealB, h1, h2]; rfl
        | true =>
          walk_at "r"
          refine ⟨_, _, _, _, rfl, shN_row1 hb (by decide), ?_⟩
          cases h3 : areWithinB rs.length 0 6 (.tup rs) with
          | false =>
            walk_at "r"
            exact bad (β := true) fun w e => by subst e; rw [dealB, h1, h2, h3]; rfl
          | true =>
            walk_at "r"
            refine ⟨c, 1, 6, rfl, hc, ?_⟩
            cases c with
            | int w =>
              cases h4 : withinB 1 6 (.int w) with
              | false =>
                walk_at "r"
                exact bad (β := true) fun w e => by cases e; rw [dealB, h1, h2, h3, h4]; rfl
              | true =>
                rw [dealB, h1, h2, h3, h4] at q
                rw [withinB, Bool.and_eq_true] at h4
                have l1 : (rs.length : Int) ≤ 4 := of_decide_eq_true h2
                have l2 := of_decide_eq_true h4.1
                have l3 := of_decide_eq_true h4.2
                walk_at "r"
                exact ⟨mulOk_64 (by omega) (by omega) (by omega) (by omega), .of q⟩
            | _ =>
              simp! only [withinB]
              exact .of q
      · walk_at "r"
        exact bad (β := true) fun w e => by subst e; rw [dealB, h1]; rfl
    | _ =>
      walk_at "r"
      exact .of q
theorem sum_ints {xs : List D} {lo hi m : Int} (h : areWithinB m lo hi (.tup xs) = true) : intsOf xs = some (xs.map numOf) := by
  rw [areWithinB, Bool.and_eq_true] at h
  have h2 := h.2
  have e : xs = (xs.map numOf).map D.int := by
    rw [List.map_map]
    conv => lhs; rw [← List.map_id xs]
    apply List.map_congr_left
    intro x hx
    exact within_int (List.all_eq_true.mp h2 x hx)
  conv => lhs; rw [e]
  exact intsOf_map _
theorem stream_len {xs : List D} (h : webB 5 xs = true) : ∃ w m ts r n, xs = [w, .int m, .tup ts, r, n] := by
  obtain ⟨hl, h1⟩ := webB_len h
  obtain ⟨a, b, c, d, e, rfl⟩ := len5 hl
  have h1' : b = .int (numOf b) := h1
  unfold webB at h
  rw [Bool.and_eq_true, Bool.and_eq_true] at h
  have h2 : areTiesB (numOf b) true c = true := h.2.2
  cases c with
  | tup ts => exact ⟨a, numOf b, ts, d, e, by rw [← h1']⟩
  | _ => cases h2
theorem streamB_no {xs : List D} (h : webB 5 xs = false) : streamB xs = false := by
  unfold streamB
  split
  · rw [h]; rfl
  · rfl
theorem hb_is_stream : HB c_is_stream t_is_stream 1 := by
  intro ds μ Q X h
  obtain ⟨xs, rfl, hs, q⟩ := h
  show t_is_stream (ends Q XF) [some (.tup xs)] μ
  obtain ⟨_, hsx⟩ := shN_tup hs
  simp! only [t_is_stream]
  refine ⟨xs, 5, rfl, by decide, hs, ?_⟩
  cases hw : webB 5 xs with
  | false =>
    rw [streamB_no hw] at q
    walk_at "r"
    exact .of q
  | true =>
    obtain ⟨w, m, ts, r, n, rfl⟩ := stream_len hw
    rw [streamB, hw, Bool.true_and] at q
    have hr := hsx r (by simp)
    have hn := hsx n (by simp)
    simp! only [atI_three, atI_four]
    refine ⟨_, _, _, _, rfl, shN_row1 hr (by decide), ?_⟩
    cases h1 : areWithinB ts.length 1 9 r with
    | false =>
      rw [h1] at q
      walk_at "r"
      exact .of q
    | true =>
      rw [h1, Bool.true_and] at q
      simp! only [atI_three, atI_four]
      refine ⟨n, m, -9, 9, rfl, shN_row1 hn (by decide), ?_⟩
      cases h2 : areWithinB m (-9) 9 n with
      | false =>
        rw [h2] at q
        walk_at "r"
        exact .of q
      | true =>
        rw [h2, Bool.true_and] at q
        cases n with
        | tup ns =>
          simp! only [atI_three, atI_four, sum_ints h2]
          exact ⟨rfl, rfl, .of q⟩
        | _ => cases h2
theorem eq_ifs {p : Prop} [Decidable p] {t u : DTS} {E : DEnds} {δ : Sl} {μ : M} (h1 : p → t E δ μ) (h2 : ¬ p → u E δ μ) : ifS (decide p) t u E δ μ := ifS_dec h1 h2
theorem hb_is_shape : HB c_is_shape t_is_shape 1 := by
  intro ds μ Q X h
  obtain ⟨d, rfl, ⟨hp, ht⟩, q⟩ := h
  show t_is_shape (ends Q XF) [some d] μ
  cases d with
  | raw _ => cases hp
  | scr _ => cases hp
  | tup xs =>
    have hs := ht xs rfl
    obtain ⟨_, hsx⟩ := shN_tup hs
    have hok : okN 64 (.tup xs) = true := okN_mono (shN_ok hs) (by decide)
    simp! only [t_is_shape]
    refine ⟨by decide, hok, rfl, ?_⟩
    cases xs with
    | nil =>
      simp! only [eqDs_nil]
      exact .of q
    | cons w xs =>
      have e0 : eqDs (w :: xs) [] = false := rfl
      have hw := okN_plain (shN_ok (hsx w (by simp)))
      cases w with
      | raw _ => cases hw
      | scr _ => cases hw
      | str w =>
        simp! only [e0]
        refine ⟨okN_mono (shN_ok (hsx _ (by simp))) (by decide), by decide +kernel, eq_ifs (fun h => ?_) (fun h0 => ?_)⟩
        · walk_at "r"
          subst h
          exact ⟨_, rfl, hs, .of q⟩
        walk_at "r"
        refine ⟨okN_mono (shN_ok (hsx _ (by simp))) (by decide), by decide +kernel, eq_ifs (fun h => ?_) (fun h1 => ?_)⟩
        · walk_at "r"
          subst h
          exact ⟨_, _, rfl, by decide, hs, .of q⟩
        walk_at "r"
        refine ⟨okN_mono (shN_ok (hsx _ (by simp))) (by decide), by decide +kernel, eq_ifs (fun h => ?_) (fun h2 => ?_)⟩
        · walk_at "r"
          subst h
          exact ⟨_, rfl, hs, .of q⟩
        walk_at "r"
        refine ⟨okN_mono (shN_ok (hsx _ (by simp))) (by decide), by decide +kernel, eq_ifs (fun h => ?_) (fun h3 => ?_)⟩
        · walk_at "r"
          subst h
          exact ⟨_, rfl, hs, .of q⟩
        walk_at "r"
        refine ⟨okN_mono (shN_ok (hsx _ (by simp))) (by decide), by decide +kernel, eq_ifs (fun h => ?_) (fun h4 => ?_)⟩
        · walk_at "r"
          subst h
          exact ⟨_, rfl, hs, .of q⟩
        walk_at "r"
        have e1 : shapeB (.tup (.str w :: xs)) = if w = PySem.Str.ofString "bench" then benchB (.str w :: xs) else false := by
          show kindB (.str w) (.str w :: xs) = _
          unfold kindB restB
          dsimp only
          rw [if_neg h0, if_neg h1, if_neg h4, if_neg h2, if_neg h3]
        rw [e1] at q
        refine ⟨okN_mono (shN_ok (hsx _ (by simp))) (by decide), by decide +kernel, ifAndV_of (fun h => ?_) (fun h => ?_)⟩
        · have h' := of_decide_eq_true h
          rw [if_pos h'] at q
          walk_at "r"
          exact ⟨_, rfl, hs, .of q⟩
        · have h' := of_decide_eq_false h
          rw [if_neg h'] at q
          exact .of q
      | _ =>
        simp! only [e0]
        exact .of q
  | _ =>
    simp! only [t_is_shape]
    exact .of q
theorem hb_law_is_rest : HB c_is_rest t_law_is_rest 2 := by
  intro ds μ Q X h
  obtain ⟨w, xs, rfl, hs, q⟩ := h
  show t_law_is_rest (ends Q XF) [some (.tup (.str w :: xs)), none] μ
  obtain ⟨_, hsx⟩ := shN_tup hs
  have ow : okN 64 (.str w) = true := okN_mono (shN_ok (hsx _ (by simp))) (by decide)
  generalize hys : (D.str w :: xs) = ys at *
  have a0 : atI ys 0 = some (.str w) := by rw [← hys]; exact atI_zero
  simp! only [t_law_is_rest, a0]
  refine ⟨ow, by decide +kernel, eq_ifs (fun h => ?_) (fun h0 => ?_)⟩
  · rw [restB, if_pos h] at q
    walk_at "r"
    refine ⟨rfl, rfl, ifAndV_of (fun h => ?_) (fun h => ?_)⟩
    · obtain ⟨a, b, c, rfl⟩ := len3 (of_decide_eq_true h)
      have hb := shN_ok (hsx b (by simp))
      have hc := hsx c (by simp)
      walk_at "r"
      refine ⟨b, 1, 6, rfl, okN_plain hb, ?_⟩
      cases b with
      | int m =>
        cases hw : withinB 1 6 (.int m) with
        | false =>
          rw [pairB, hw] at q
          walk_at "r"
          exact .of q
        | true =>
          rw [pairB, hw, Bool.true_and] at q
          walk_at "r"
          exact ⟨c, m, false, rfl, shN_row2 hc (by decide), .of q⟩
      | _ =>
        simp! only [withinB]
        exact .of q
    · rw [pairB_len (of_decide_eq_false h)] at q
      exact .of q
  rw [restB, if_neg h0] at q
  walk_at "r"
  refine ⟨ow, by decide +kernel, eq_ifs (fun h => ?_) (fun h1 => ?_)⟩
  · rw [if_pos h] at q
    walk_at "r"
    refine ⟨rfl, rfl, ifOr_of (fun h => ?_) (fun h => ?_)⟩
    · have h' : ¬ (ys.length : Int) = 3 := by simpa using h
      rw [dealB_len h'] at q
      walk_at "r"
      exact .of q
    · have h' : (ys.length : Int) = 3 := by simpa using h
      obtain ⟨a, b, c, rfl⟩ := len3 h'
      have hb := hsx b (by simp)
      have hc := okN_plain (shN_ok (hsx c (by simp)))
      have hp := okN_plain (shN_ok hb)
      cases b with
      | raw _ => cases hp
      | scr _ => cases hp
      | tup rs =>
        walk_at "r"
        refine ⟨c, 1, 6, rfl, hc, ?_⟩
        cases c with
        | int v =>
          rw [dealB] at q
          cases h4 : withinB 1 6 (.int v) with
          | false =>
            rw [h4] at q
            walk_at "r"
            have e : ((decide ((1 : Int) ≤ rs.length) && decide ((rs.length : Int) ≤ 4)) && (areWithinB rs.length 0 6 (.tup rs) && (false && decide ((rs.length : Int) * v ≤ 16)))) = false := by simp
            rw [e] at q
            exact .of q
          | true =>
            rw [h4, Bool.true_and] at q
            have h4' := h4
            rw [withinB, Bool.and_eq_true] at h4'
            have l2 := of_decide_eq_true h4'.1
            have l3 := of_decide_eq_true h4'.2
            walk_at "r"
            refine kChain3_of (fun h1 => ?_) (fun h1 => ?_)
            · rw [h1, Bool.true_and] at q
              walk_at "r"
              cases h2 : decide ((rs.length : Int) ≤ 4) with
              | false =>
                rw [h2] at q
                walk_at "r"
                exact .of q
              | true =>
                rw [h2, Bool.true_and] at q
                have l1 : (rs.length : Int) ≤ 4 := of_decide_eq_true h2
                walk_at "r"
                refine ⟨mulOk_64 (by omega) (by omega) (by omega) (by omega), eq_ifs (fun h5 => ?_) (fun h5 => ?_)⟩
                · rw [decide_eq_false (by omega), Bool.and_false] at q
                  walk_at "r"
                  exact .of q
                · rw [decide_eq_true (by omega), Bool.and_true] at q
                  walk_at "r"
                  exact ⟨_, _, _, _, rfl, shN_row1 hb (by decide), .of q⟩
            · rw [h1] at q
              walk_at "r"
              exact .of q
        | _ =>
          simp! only [withinB]
          exact .of q
      | _ =>
        walk_at "r"
        exact .of q
  rw [if_neg h1] at q
  walk_at "r"
  refine ⟨ow, by decide +kernel, ifOr_of (fun h => ?_) (fun h => ?_)⟩
  · have h' : ¬ w = PySem.Str.ofString "bench" := by simpa using h
    rw [if_neg h'] at q
    walk_at "r"
    exact .of q
  · have h' : w = PySem.Str.ofString "bench" := by simpa using h
    rw [if_pos h'] at q
    walk_at "r"
    refine ⟨rfl, rfl, ifOr_of (fun h => ?_) (fun h => ?_)⟩
    · have h' : ¬ (ys.length : Int) = 2 := by simpa using h
      rw [benchB_len h'] at q
      walk_at "r"
      exact .of q
    · have h' : (ys.length : Int) = 2 := by simpa using h
      obtain ⟨a, b, rfl⟩ := len2 h'
      have hb := hsx b (by simp)
      have hp := okN_plain (shN_ok hb)
      cases b with
      | raw _ => cases hp
      | scr _ => cases hp
      | tup ls =>
        walk_at "r"
        refine kChain3_of (fun h1 => ?_) (fun h1 => ?_)
        · walk_at "r"
          cases h2 : decide ((ls.length : Int) ≤ 8) with
          | false =>
            rw [benchB, h1, h2] at q
            walk_at "r"
            exact .of q
          | true =>
            rw [benchB, h1, h2, Bool.true_and, Bool.true_and] at q
            walk_at "r"
            exact ⟨_, _, _, _, rfl, shN_row1 hb (by decide), .of q⟩
        · rw [benchB, h1] at q
          exact .of q
      | _ =>
        walk_at "r"
        exact .of q
theorem hb_law_is : HB c_is_shape t_law_is 1 := by
  intro ds μ Q X h
  obtain ⟨d, rfl, ⟨hp, ht⟩, q⟩ := h
  show t_law_is (ends Q XF) [some d] μ
  cases d with
  | raw _ => cases hp
  | scr _ => cases hp
  | tup xs =>
    have hs := ht xs rfl
    obtain ⟨_, hsx⟩ := shN_tup hs
    have hok : okN 64 (.tup xs) = true := okN_mono (shN_ok hs) (by decide)
    simp! only [t_law_is]
    refine ⟨by decide, hok, rfl, ?_⟩
    cases xs with
    | nil =>
      simp! only [eqDs_nil]
      exact .of q
    | cons w xs =>
      have e0 : eqDs (w :: xs) [] = false := rfl
      have hw := okN_plain (shN_ok (hsx w (by simp)))
      cases w with
      | raw _ => cases hw
      | scr _ => cases hw
      | str w =>
        have ow : okN 64 (.str w) = true := okN_mono (shN_ok (hsx _ (by simp))) (by decide)
        simp! only [e0]
        refine ⟨ow, by decide +kernel, eq_ifs (fun h => ?_) (fun h0 => ?_)⟩
        · walk_at "r"
          subst h
          exact ⟨_, _, rfl, by decide, hs, .of q⟩
        have q' : Q (.bl (kindB (.str w) (.str w :: xs))) μ := q
        have hsx' := hsx
        generalize hys : (D.str w :: xs) = ys at *
        have a0 : atI ys 0 = some (.str w) := by rw [← hys]; exact atI_zero
        rw [kindB] at q'
        simp! only [a0]
        refine ⟨ow, by decide +kernel, eq_ifs (fun h => ?_) (fun h1 => ?_)⟩
        · rw [if_pos h] at q'
          walk_at "r"
          refine ⟨ys, 5, rfl, by decide, hs, ?_⟩
          cases hw : webB 5 ys with
          | false =>
            walk_at "r"
            rw [wayB, hw] at q'
            exact .of q'
          | true =>
            rw [wayB, hw, Bool.true_and] at q'
            obtain ⟨hl, e1⟩ := webB_len hw
            have a1 := itm_at (xs := ys) (i := 1) (k := 1) rfl (by omega)
            have a3 := itm_at (xs := ys) (i := 3) (k := 3) rfl (by omega)
            have a4 := itm_at (xs := ys) (i := 4) (k := 4) rfl (by omega)
            rw [e1] at a1
            simp! only [cut_drop3, a1]
            refine ⟨.tup (ys.drop 3), 2, 0, _, rfl, ⟨rfl, fun zs e => ?_⟩, ?_⟩
            · cases e
              exact ⟨by rw [List.length_drop]; omega, fun x hx => okN_mono (shN_ok (hsx' x (List.mem_of_mem_drop hx))) (by decide)⟩
            · cases hr : areWithinB 2 0 (numOf (itm ys 1) - 1) (.tup (ys.drop 3)) with
              | false =>
                walk_at "r"
                rw [hr] at q'
                exact .of q'
              | true =>
                rw [hr, Bool.true_and] at q'
                simp! only [a3, a4]
                have v : ∀ i, i < ys.length → view μ (itm ys i) = itm ys i ∧ okN 64 (itm ys i) = true := fun i hi => by
                  have h1 := shN_ok (hsx' _ (itm_mem hi))
                  have h2 := okN_plain h1
                  refine ⟨?_, okN_mono h1 (by decide)⟩
                  cases e : itm ys i with
                  | raw _ => rw [e] at h2; cases h2
                  | _ => rfl
                obtain ⟨v3, o3⟩ := v 3 (by omega)
                obtain ⟨v4, o4⟩ := v 4 (by omega)
                rw [v3, v4]
                exact ⟨o3, o4, .of q'⟩
        rw [if_neg h1, if_neg h0] at q'
        simp! only [a0]
        refine ⟨ow, by decide +kernel, eq_ifs (fun h => ?_) (fun h2 => ?_)⟩
        · rw [if_pos h] at q'
          walk_at "r"
          refine ⟨ys, 5, rfl, by decide, hs, ?_⟩
          cases hw : webB 5 ys with
          | false =>
            rw [streamB_no hw] at q'
            walk_at "r"
            exact .of q'
          | true =>
            obtain ⟨w', m, ts, r, n, rfl⟩ := stream_len hw
            rw [streamB, hw, Bool.true_and] at q'
            have hr := hsx' r (by simp)
            have hn := hsx' n (by simp)
            simp! only [atI_three, atI_four]
            refine ⟨_, _, _, _, rfl, shN_row1 hr (by decide), ?_⟩
            cases h1 : areWithinB ts.length 1 9 r with
            | false =>
              rw [h1] at q'
              walk_at "r"
              exact .of q'
            | true =>
              rw [h1, Bool.true_and] at q'
              simp! only [atI_three, atI_four]
              refine ⟨n, m, -9, 9, rfl, shN_row1 hn (by decide), ?_⟩
              cases h2 : areWithinB m (-9) 9 n with
              | false =>
                rw [h2] at q'
                walk_at "r"
                exact .of q'
              | true =>
                rw [h2, Bool.true_and] at q'
                cases n with
                | tup ns =>
                  simp! only [atI_three, atI_four, sum_ints h2]
                  exact ⟨rfl, rfl, .of q'⟩
                | _ => cases h2
        rw [if_neg h2] at q'
        walk_at "r"
        subst hys
        exact ⟨w, xs, rfl, hs, .of q'⟩
      | _ =>
        simp! only [e0]
        exact .of q
  | _ =>
    simp! only [t_law_is]
    exact .of q
/-- the number of items -/
def itemsB : D → Int
  | .tup [.str w, .tup rs, .int v] => if w = PySem.Str.ofString "deal" then (rs.length : Int) * v else 0
  | .tup [.str w, .tup ls] => ls.length
  | .tup (.str w :: _ :: .tup ts :: _) => ts.length
  | _ => 0
/-- a shape's parts as far as items_of reads them -/
def ShapeI (d : D) (n : Int) : Prop :=
  (∃ w m ts r, d = .tup (.str w :: m :: .tup ts :: r) ∧ (w = PySem.Str.ofString "way" ∨ w = PySem.Str.ofString "tree" ∨ w = PySem.Str.ofString "pair" ∨ w = PySem.Str.ofString "stream") ∧ n = ts.length) ∨
  (∃ rs v, d = .tup [.str (PySem.Str.ofString "deal"), .tup rs, .int v] ∧ 0 ≤ v ∧ v ≤ 1000 ∧ rs.length ≤ 1000 ∧ n = rs.length * v) ∨
  (∃ ls, d = .tup [.str (PySem.Str.ofString "bench"), .tup ls] ∧ n = ls.length)
def c_items_of : Ct := fun ds μ Q _ => ∃ d n, ds = [d] ∧ ShapeI d n ∧ Q (.int n) μ
theorem inD_tied {w : Str} (h : w = PySem.Str.ofString "way" ∨ w = PySem.Str.ofString "tree" ∨ w = PySem.Str.ofString "pair" ∨ w = PySem.Str.ofString "stream") :
    inD (.str w) [.str (PySem.Str.ofString "way"), .str (PySem.Str.ofString "tree"), .str (PySem.Str.ofString "pair"), .str (PySem.Str.ofString "stream")] = true := by
  rcases h with h | h | h | h <;> subst h <;> decide +kernel
theorem hb_items_of : HB c_items_of t_items_of 1 := by
  intro ds μ Q X h
  obtain ⟨d, n, rfl, h, q⟩ := h
  show t_items_of (ends Q XF) [some d] μ
  rcases h with ⟨w, m, ts, r, rfl, hw, rfl⟩ | ⟨rs, v, rfl, h0, h1, h2, rfl⟩ | ⟨ls, rfl, rfl⟩
  · simp! only [t_items_of, inD_tied hw, flatD]
    exact .of q
  · have e : inD (.str (PySem.Str.ofString "deal")) [.str (PySem.Str.ofString "way"), .str (PySem.Str.ofString "tree"), .str (PySem.Str.ofString "pair"), .str (PySem.Str.ofString "stream")] = false := by decide +kernel
    simp! only [t_items_of, e, flatD]
    exact ⟨by decide +kernel, by decide +kernel, mulOk_64 (by omega) (by omega) (by omega) (by omega), .of q⟩
  · have e : inD (.str (PySem.Str.ofString "bench")) [.str (PySem.Str.ofString "way"), .str (PySem.Str.ofString "tree"), .str (PySem.Str.ofString "pair"), .str (PySem.Str.ofString "stream")] = false := by decide +kernel
    simp! only [t_items_of, e, flatD]
    refine ⟨by decide +kernel, by decide +kernel, ifS_dec (fun h => absurd h (by decide +kernel)) (fun _ => ?_)⟩
    walk_at "r"
    exact .of q
end NB
set_option Elab.async false
set_option linter.all false
set_option maxRecDepth 100000
set_option maxHeartbeats 2000000
set_option exponentiation.threshold 20000
/-! Drawn wishes are shapes. -/
namespace NB
open PySem PySem.Spec L2 DL Fr
/-- things whose tuples and lists are of at most L items -/
def smL (L : Nat) : Nat → D → Bool
  | _, .non => true
  | _, .bl _ => true
  | _, .int _ => true
  | _, .str x => PyData.strOk x
  | n + 1, .lst xs => decide (xs.length ≤ L) && xs.all (smL L n)
  | n + 1, .tup xs => decide (xs.length ≤ L) && xs.all (smL L n)
  | _, _ => false
theorem smL_sh : ∀ {L n : Nat} {d : D}, smL L n d = true → L < 1000 → shN n d = true
  | _, n, .non, _, _ => by cases n <;> rfl
  | _, n, .bl _, _, _ => by cases n <;> rfl
  | _, n, .int _, _, _ => by cases n <;> rfl
  | _, n, .str x, h, _ => by cases n <;> exact h
  | _, 0, .lst xs, h, _ => by simp [smL] at h
  | _, 0, .tup xs, h, _ => by simp [smL] at h
  | L, n + 1, .lst xs, h, l => by
    unfold smL at h
    unfold shN
    rw [Bool.and_eq_true] at h ⊢
    exact ⟨decide_eq_true (Nat.lt_of_le_of_lt (of_decide_eq_true h.1) l), List.all_eq_true.mpr fun x hx => smL_sh (List.all_eq_true.mp h.2 x hx) l⟩
  | L, n + 1, .tup xs, h, l => by
    unfold smL at h
    unfold shN
    rw [Bool.and_eq_true] at h ⊢
    exact ⟨decide_eq_true (Nat.lt_of_le_of_lt (of_decide_eq_true h.1) l), List.all_eq_true.mpr fun x hx => smL_sh (List.all_eq_true.mp h.2 x hx) l⟩
  | _, n, .scr _, h, _ => by cases n <;> simp [smL] at h
  | _, n, .raw _, h, _ => by cases n <;> simp [smL] at h
  | _, n, .emp, h, _ => by cases n <;> simp [smL] at h
theorem smL_mono : ∀ {L M n m : Nat} {d : D}, smL L n d = true → L ≤ M → n ≤ m → smL M m d = true
  | _, _, n, m, .non, _, _, _ => by cases m <;> rfl
  | _, _, n, m, .bl _, _, _, _ => by cases m <;> rfl
  | _, _, n, m, .int _, _, _, _ => by cases m <;> rfl
  | _, _, n, m, .str x, h, _, _ => by cases n <;> cases m <;> exact h
  | _, _, 0, m, .lst xs, h, _, _ => by simp [smL] at h
  | _, _, 0, m, .tup xs, h, _, _ => by simp [smL] at h
  | _, _, n + 1, 0, _, _, _, l => absurd l (by omega)
  | L, M, n + 1, m + 1, .lst xs, h, l, k => by
    unfold smL at h ⊢
    rw [Bool.and_eq_true] at h ⊢
    exact ⟨decide_eq_true (Nat.le_trans (of_decide_eq_true h.1) l), List.all_eq_true.mpr fun x hx => smL_mono (List.all_eq_true.mp h.2 x hx) l (by omega)⟩
  | L, M, n + 1, m + 1, .tup xs, h, l, k => by
    unfold smL at h ⊢
    rw [Bool.and_eq_true] at h ⊢
    exact ⟨decide_eq_true (Nat.le_trans (of_decide_eq_true h.1) l), List.all_eq_true.mpr fun x hx => smL_mono (List.all_eq_true.mp h.2 x hx) l (by omega)⟩
  | _, _, n, _, .scr _, h, _, _ => by cases n <;> simp [smL] at h
  | _, _, n, _, .raw _, h, _, _ => by cases n <;> simp [smL] at h
  | _, _, n, _, .emp, h, _, _ => by cases n <;> simp [smL] at h
theorem smL_tup {L n : Nat} {xs : List D} (h1 : xs.length ≤ L) (h2 : ∀ x ∈ xs, smL L n x = true) : smL L (n + 1) (.tup xs) = true := by
  unfold smL
  rw [Bool.and_eq_true]
  exact ⟨decide_eq_true h1, List.all_eq_true.mpr h2⟩
theorem smL_lst {L n : Nat} {xs : List D} (h1 : xs.length ≤ L) (h2 : ∀ x ∈ xs, smL L n x = true) : smL L (n + 1) (.lst xs) = true := by
  unfold smL
  rw [Bool.and_eq_true]
  exact ⟨decide_eq_true h1, List.all_eq_true.mpr h2⟩
theorem smL_of {L n : Nat} {xs : List D} (h : smL L (n + 1) (.tup xs) = true) : xs.length ≤ L ∧ ∀ x ∈ xs, smL L n x = true := by
  unfold smL at h
  rw [Bool.and_eq_true] at h
  exact ⟨of_decide_eq_true h.1, List.all_eq_true.mp h.2⟩
theorem smL_int {L n : Nat} {i : Int} : smL L n (.int i) = true := by cases n <;> rfl
theorem smL_fr {L n : Nat} {f : Int × Int} (h : 2 ≤ L) : smL L (n + 1) (fr f) = true := smL_tup h fun x hx => by
  simp only [List.mem_cons, List.not_mem_nil, or_false] at hx
  rcases hx with rfl | rfl <;> exact smL_int
theorem smL_ints {L n : Nat} {ns : List Int} (h : ns.length ≤ L) : smL L (n + 1) (.tup (ns.map D.int)) = true := smL_tup (by rw [List.length_map]; exact h) fun x hx => by
  obtain ⟨i, _, rfl⟩ := List.mem_map.mp hx
  exact smL_int
theorem smL_ties {L n : Nat} {F : List ((Int × Int) × Int)} (h : F.length ≤ L) (h2 : 2 ≤ L) : smL L (n + 2) (tiesD F) = true := smL_tup (by rw [List.length_map]; exact h) fun x hx => by
  obtain ⟨i, _, rfl⟩ := List.mem_map.mp hx
  exact smL_fr h2
/-- no truths in it -/
def noB : Nat → D → Bool
  | _, .bl _ => false
  | n + 1, .tup xs => xs.all (noB n)
  | _, .int _ => true
  | _, .str _ => true
  | _, _ => false
theorem noB_int {n : Nat} {i : Int} : noB n (.int i) = true := by cases n <;> rfl
theorem noB_str {n : Nat} {i : Str} : noB n (.str i) = true := by cases n <;> rfl
theorem noB_ints {n : Nat} {ns : List Int} : noB (n + 1) (.tup (ns.map D.int)) = true := by
  unfold noB
  refine List.all_eq_true.mpr fun x hx => ?_
  obtain ⟨i, _, rfl⟩ := List.mem_map.mp hx
  exact noB_int
theorem noB_ties {n : Nat} {F : List ((Int × Int) × Int)} : noB (n + 2) (tiesD F) = true := by
  unfold tiesD noB
  refine List.all_eq_true.mpr fun x hx => ?_
  obtain ⟨i, _, rfl⟩ := List.mem_map.mp hx
  show noB (n + 1) (.tup [.int i.1.1, .int i.1.2]) = true
  unfold noB
  rw [List.all_cons, List.all_cons, noB_int, noB_int]
  rfl
/-! ### ties -/
theorem par_tie {m : Int} {T : List (Int × Int)} (h : Span m T) : ∀ t ∈ T, Tie m t := fun t ht => by
  obtain ⟨i, hi⟩ := List.getElem?_of_mem ht
  have hp := h.2 i t hi
  have hl := (List.getElem?_eq_some_iff.mp hi).1
  have := h.1
  unfold Par at hp
  unfold Tie
  omega
theorem more_ties {m l : Int} {T : List (Int × Int)} {F : List ((Int × Int) × Int)} (ht : ∀ t ∈ T, Tie m t) (h : More m l T F) : ∀ x ∈ F, Tie m x.1 := fun x hx => by
  obtain ⟨E, _, h2, h3⟩ := h
  rcases List.mem_append.mp (h3.mem_iff.mp hx) with h | h
  · obtain ⟨t, k, rfl⟩ := List.mem_map.mp h
    exact ht t k
  · obtain ⟨t, k, rfl⟩ := List.mem_map.mp h
    exact h2 t k
theorem tieB_of {m : Int} {u : Bool} {t : Int × Int} (h0 : 0 ≤ t.1 ∧ t.1 < m ∧ 0 ≤ t.2 ∧ t.2 < m) (h1 : u = true → t.1 ≠ t.2) : tieB m u (fr t) = true := by
  have e1 : areWithinB 2 0 (m - 1) (fr t) = true := by
    show (decide ((([D.int t.1, D.int t.2] : List D).length : Int) = 2) && ([D.int t.1, D.int t.2] : List D).all (withinB 0 (m - 1))) = true
    rw [List.all_cons, List.all_cons, List.all_nil, withinB, withinB, decide_eq_true h0.1, decide_eq_true (show t.1 ≤ m - 1 by omega), decide_eq_true h0.2.2.1, decide_eq_true (show t.2 ≤ m - 1 by omega)]
    rfl
  unfold tieB
  rw [e1, Bool.true_and]
  cases u with
  | false => rfl
  | true =>
    have : sameB (fr t) = false := by
      show eqD (.int t.1) (.int t.2) = false
      rw [eqD_int]
      exact decide_eq_false (h1 rfl)
    rw [this]
    rfl
theorem areTiesB_of {m : Int} {u : Bool} {F : List ((Int × Int) × Int)} (h1 : 1 ≤ F.length) (h2 : F.length ≤ 16) (h : ∀ x ∈ F, (0 ≤ x.1.1 ∧ x.1.1 < m ∧ 0 ≤ x.1.2 ∧ x.1.2 < m) ∧ (u = true → x.1.1 ≠ x.1.2)) : areTiesB m u (tiesD F) = true := by
  unfold tiesD areTiesB
  dsimp only
  rw [List.length_map, decide_eq_true (show (1 : Int) ≤ F.length by omega), decide_eq_true (show (F.length : Int) ≤ 16 by omega), Bool.true_and, Bool.true_and]
  refine List.all_eq_true.mpr fun d hd => ?_
  obtain ⟨x, hx, rfl⟩ := List.mem_map.mp hd
  exact tieB_of (h x hx).1 (h x hx).2
theorem within_of {lo hi i : Int} (h1 : lo ≤ i) (h2 : i ≤ hi) : withinB lo hi (.int i) = true := by
  rw [withinB, decide_eq_true h1, decide_eq_true h2]
  rfl
theorem areWithin_of {m lo hi : Int} {ns : List Int} (h : (ns.length : Int) = m) (h2 : ∀ n ∈ ns, lo ≤ n ∧ n ≤ hi) : areWithinB m lo hi (.tup (ns.map D.int)) = true := by
  rw [areWithinB, List.length_map, decide_eq_true h, Bool.true_and]
  refine List.all_eq_true.mpr fun d hd => ?_
  obtain ⟨x, hx, rfl⟩ := List.mem_map.mp hd
  exact within_of (h2 x hx).1 (h2 x hx).2
/-! ### flows -/
theorem sum_set : ∀ {ns : List Int} {i : Nat} {v : Int}, i < ns.length → (ns.set i v).sum = ns.sum - ns.getD i 0 + v
  | [], i, v, h => by simp at h
  | n :: ns, 0, v, _ => by simp; omega
  | n :: ns, i + 1, v, h => by
    rw [List.set_cons_succ, List.sum_cons, List.sum_cons, sum_set (by simpa using h)]
    simp only [List.getD_cons_succ]
    omega
theorem fl_sum {ns : List Int} {x : (Int × Int) × Int} (h1 : 0 ≤ x.1.1 ∧ x.1.1 < ns.length) (h2 : 0 ≤ x.1.2 ∧ x.1.2 < ns.length) : (fl ns x).sum = ns.sum := by
  unfold fl
  have k1 : x.1.1.toNat < ns.length := by omega
  have k2 : x.1.2.toNat < ns.length := by omega
  rw [sum_set (by rw [List.length_set]; exact k2), sum_set k1]
  omega
theorem getD_mem {ns : List Int} {i : Nat} (h : i < ns.length) : ns.getD i 0 ∈ ns := by
  rw [List.getD_eq_getElem?_getD, List.getElem?_eq_getElem h]
  exact List.getElem_mem h
theorem fl_bd {ns : List Int} {x : (Int × Int) × Int} {b : Int} (h1 : 0 ≤ x.1.1 ∧ x.1.1 < ns.length) (h2 : 0 ≤ x.1.2 ∧ x.1.2 < ns.length) (hne : x.1.1 ≠ x.1.2) (hc : 0 ≤ x.2 ∧ x.2 ≤ 2) (hb : ∀ n ∈ ns, -b ≤ n ∧ n ≤ b) : ∀ n ∈ fl ns x, -(b + 2) ≤ n ∧ n ≤ b + 2 := fun n hn => by
  have k1 : x.1.1.toNat < ns.length := by omega
  have k2 : x.1.2.toNat < ns.length := by omega
  have b1 := hb _ (getD_mem k1)
  have b2 := hb _ (getD_mem k2)
  unfold fl at hn
  have e : (ns.set x.1.1.toNat (ns.getD x.1.1.toNat 0 + x.2)).getD x.1.2.toNat 0 = ns.getD x.1.2.toNat 0 := by
    rw [List.getD_eq_getElem?_getD, List.getElem?_set_ne (by omega), ← List.getD_eq_getElem?_getD]
  rw [e] at hn
  rcases List.mem_or_eq_of_mem_set hn with h | h
  · rcases List.mem_or_eq_of_mem_set h with h | h
    · have := hb n h
      omega
    · omega
  · omega
theorem flow_facts : ∀ (zs : List ((Int × Int) × Int)) (ns : List Int) (b : Int), (∀ x ∈ zs, Tie ns.length x.1 ∧ 0 ≤ x.2 ∧ x.2 ≤ 2) → (∀ n ∈ ns, -b ≤ n ∧ n ≤ b) →
    (zs.foldl fl ns).length = ns.length ∧ (zs.foldl fl ns).sum = ns.sum ∧ ∀ n ∈ zs.foldl fl ns, -(b + 2 * zs.length) ≤ n ∧ n ≤ b + 2 * zs.length
  | [], ns, b, _, hb => ⟨rfl, rfl, fun n hn => by have := hb n hn; simp; omega⟩
  | x :: zs, ns, b, h, hb => by
    have hx := h x List.mem_cons_self
    unfold Tie at hx
    have i1 := fl_bd (b := b) ⟨hx.1.1, hx.1.2.1⟩ ⟨hx.1.2.2.1, hx.1.2.2.2.1⟩ hx.1.2.2.2.2 hx.2 hb
    have i2 := flow_facts zs (fl ns x) (b + 2) (fun y hy => by rw [fl_len]; exact h y (List.mem_cons_of_mem _ hy)) i1
    refine ⟨by rw [List.foldl_cons, i2.1, fl_len], by rw [List.foldl_cons, i2.2.1, fl_sum ⟨hx.1.1, hx.1.2.1⟩ ⟨hx.1.2.2.1, hx.1.2.2.2.1⟩], fun n hn => ?_⟩
    have := i2.2.2 n hn
    rw [List.length_cons]
    omega
theorem flow_ok {m : Int} {F : List ((Int × Int) × Int)} {rooms cs : List Int} (hm : 2 ≤ m) (ht : ∀ x ∈ F, Tie m x.1) (hl : F.length ≤ 4) (rl : rooms.length = F.length) (rb : ∀ r ∈ rooms, 1 ≤ r ∧ r ≤ 2) (cl : cs.length = F.length)
    (cb : ∀ (i : Nat) (c r : Int), cs[i]? = some c → rooms[i]? = some r → 0 ≤ c ∧ c ≤ r) :
    ((flow m.toNat (F.map (·.1)) cs).length : Int) = m ∧ (flow m.toNat (F.map (·.1)) cs).sum = 0 ∧ ∀ n ∈ flow m.toNat (F.map (·.1)) cs, -9 ≤ n ∧ n ≤ 9 := by
  unfold flow
  have hz : ∀ x ∈ (F.map (·.1)).zip cs, Tie (List.replicate m.toNat (0 : Int)).length x.1 ∧ 0 ≤ x.2 ∧ x.2 ≤ 2 := fun x hx => by
    rw [List.length_replicate]
    obtain ⟨i, hi⟩ := List.getElem?_of_mem hx
    obtain ⟨t, c⟩ := x
    rw [List.getElem?_zip_eq_some, List.getElem?_map] at hi
    obtain ⟨h1, h2⟩ := hi
    dsimp only at h1 h2
    obtain ⟨y, hy, rfl⟩ := Option.map_eq_some_iff.mp h1
    have a := ht y (List.mem_of_getElem? hy)
    have hlt : i < rooms.length := by rw [rl]; exact (List.getElem?_eq_some_iff.mp hy).1
    have b := cb i c _ h2 (List.getElem?_eq_getElem hlt)
    have d := rb _ (List.getElem_mem hlt)
    have e : ((m.toNat : Nat) : Int) = m := by omega
    rw [e]
    exact ⟨a, b.1, Int.le_trans b.2 d.2⟩
  obtain ⟨a, b, c⟩ := flow_facts ((F.map (·.1)).zip cs) (List.replicate m.toNat 0) 0 hz (fun n hn => by rw [List.eq_of_mem_replicate hn]; decide)
  refine ⟨by rw [a, List.length_replicate]; omega, by rw [b]; simp, fun n hn => ?_⟩
  have := c n hn
  have l : ((F.map (·.1)).zip cs).length ≤ 4 := by rw [List.length_zip, List.length_map]; omega
  omega
/-! ### a drawn wish -/
structure WishFacts (s : D) (n : Nat) : Prop where
  shape : shapeB s = true
  items : ShapeI s n
  small : smL 16 3 s = true
  nob : noB 3 s = true
  tup : ∃ w xs, s = .tup (.str w :: xs)
theorem smL_five {a b c d e : D} (h1 : smL 16 2 a = true) (h2 : smL 16 2 b = true) (h3 : smL 16 2 c = true) (h4 : smL 16 2 d = true) (h5 : smL 16 2 e = true) : smL 16 3 (.tup [a, b, c, d, e]) = true := smL_tup (by simp) fun x hx => by
  simp only [List.mem_cons, List.not_mem_nil, or_false] at hx
  rcases hx with rfl | rfl | rfl | rfl | rfl <;> assumption
theorem smL_three {a b c : D} (h1 : smL 16 2 a = true) (h2 : smL 16 2 b = true) (h3 : smL 16 2 c = true) : smL 16 3 (.tup [a, b, c]) = true := smL_tup (by simp) fun x hx => by
  simp only [List.mem_cons, List.not_mem_nil, or_false] at hx
  rcases hx with rfl | rfl | rfl <;> assumption
theorem smL_two {a b : D} (h1 : smL 16 2 a = true) (h2 : smL 16 2 b = true) : smL 16 3 (.tup [a, b]) = true := smL_tup (by simp) fun x hx => by
  simp only [List.mem_cons, List.not_mem_nil, or_false] at hx
  rcases hx with rfl | rfl <;> assumption
theorem noB_five {a b c d e : D} (h1 : noB 2 a = true) (h2 : noB 2 b = true) (h3 : noB 2 c = true) (h4 : noB 2 d = true) (h5 : noB 2 e = true) : noB 3 (.tup [a, b, c, d, e]) = true := by
  show ([a, b, c, d, e] : List D).all (noB 2) = true
  rw [List.all_cons, List.all_cons, List.all_cons, List.all_cons, List.all_cons, h1, h2, h3, h4, h5]
  rfl
theorem noB_three {a b c : D} (h1 : noB 2 a = true) (h2 : noB 2 b = true) (h3 : noB 2 c = true) : noB 3 (.tup [a, b, c]) = true := by
  show ([a, b, c] : List D).all (noB 2) = true
  rw [List.all_cons, List.all_cons, List.all_cons, h1, h2, h3]
  rfl
theorem noB_two {a b : D} (h1 : noB 2 a = true) (h2 : noB 2 b = true) : noB 3 (.tup [a, b]) = true := by
  show ([a, b] : List D).all (noB 2) = true
  rw [List.all_cons, List.all_cons, h1, h2]
  rfl
theorem Wish.facts {s : D} {ns : List Int} (h : Wish s ns) : WishFacts s ns.length := by
  cases h with
  | tree hm sp mo =>
    rename_i m T F
    have h1 := sp.1
    have h2 := mo.len
    have ht := more_ties (par_tie sp) mo
    refine ⟨?_, .inl ⟨_, _, F.map (fun x => fr x.1), [], rfl, .inr (.inl rfl), by rw [List.length_map, List.length_map]⟩, smL_three (by decide +kernel) smL_int (smL_ties (by omega) (by decide)), noB_three noB_str noB_int noB_ties, _, _, rfl⟩
    show webB 3 [.str (PySem.Str.ofString "tree"), .int m, tiesD F] = true
    unfold webB
    rw [show itm [.str (PySem.Str.ofString "tree"), .int m, tiesD F] 1 = .int m from rfl, show itm [.str (PySem.Str.ofString "tree"), .int m, tiesD F] 2 = tiesD F from rfl, within_of (by omega) (by omega),
      areTiesB_of (by omega) (by omega) fun x hx => by have := ht x hx; unfold Tie at this; exact ⟨⟨this.1, this.2.1, this.2.2.1, this.2.2.2.1⟩, fun _ => this.2.2.2.2⟩]
    rfl
  | way hm sp mo hb he ne tr =>
    rename_i m b e T F is
    have h1 := sp.1
    have h2 := mo.len
    have ht := more_ties (par_tie sp) mo
    refine ⟨?_, .inl ⟨_, _, F.map (fun x => fr x.1), _, rfl, .inl rfl, by rw [ind_len, List.length_map]⟩, smL_five (by decide +kernel) smL_int (smL_ties (by omega) (by decide)) smL_int smL_int, noB_five noB_str noB_int noB_ties noB_int noB_int, _, _, rfl⟩
    show wayB [.str (PySem.Str.ofString "way"), .int m, tiesD F, .int b, .int e] = true
    have hw : webB 5 [.str (PySem.Str.ofString "way"), .int m, tiesD F, .int b, .int e] = true := by
      unfold webB
      rw [show itm [.str (PySem.Str.ofString "way"), .int m, tiesD F, .int b, .int e] 1 = .int m from rfl, show itm [.str (PySem.Str.ofString "way"), .int m, tiesD F, .int b, .int e] 2 = tiesD F from rfl, within_of (by omega) (by omega),
        areTiesB_of (by omega) (by omega) fun x hx => by have := ht x hx; unfold Tie at this; exact ⟨⟨this.1, this.2.1, this.2.2.1, this.2.2.2.1⟩, fun _ => this.2.2.2.2⟩]
      rfl
    unfold wayB
    rw [hw, Bool.true_and]
    have e1 : areWithinB 2 0 (m - 1) (.tup ([b, e].map D.int)) = true := areWithin_of rfl fun n hn => by
      simp only [List.mem_cons, List.not_mem_nil, or_false] at hn
      rcases hn with rfl | rfl <;> omega
    have e2 : areWithinB 2 0 (numOf (itm [.str (PySem.Str.ofString "way"), .int m, tiesD F, .int b, .int e] 1) - 1) (.tup (List.drop 3 [.str (PySem.Str.ofString "way"), .int m, tiesD F, .int b, .int e])) = true := e1
    rw [e2, Bool.true_and]
    show (!eqD (.int b) (.int e)) = true
    rw [eqD_int, decide_eq_false ne]
    rfl
  | pair hm hR hE ok pf =>
    rename_i m R E F
    have hl : F.length = m.toNat + E.length := by
      rw [pf.length_eq, List.length_append, List.length_mapIdx, List.length_map, hR.length_eq, upTo_len]
    have hRm : ∀ r ∈ R, 0 ≤ r ∧ r < m := fun r hr => by
      have := hR.mem_iff.mp hr
      unfold upTo at this
      obtain ⟨i, hi, rfl⟩ := List.mem_map.mp this
      have := List.mem_range.mp hi
      show (0 : Int) ≤ (i : Int) ∧ (i : Int) < m
      omega
    have hRl : R.length = m.toNat := by rw [hR.length_eq, upTo_len]
    refine ⟨?_, .inl ⟨_, _, F.map (fun x => fr x.1), [], rfl, .inr (.inr (.inl rfl)), by rw [List.length_map, List.length_map]⟩, smL_three (by decide +kernel) smL_int (smL_ties (by omega) (by decide)), noB_three noB_str noB_int noB_ties, _, _, rfl⟩
    show pairB [.str (PySem.Str.ofString "pair"), .int m, tiesD F] = true
    unfold pairB
    dsimp only
    rw [within_of (by omega) (by omega), areTiesB_of (by omega) (by omega) fun x hx => ?_]
    · rfl
    · refine ⟨?_, fun z => by cases z⟩
      rcases List.mem_append.mp (pf.mem_iff.mp hx) with h | h
      · obtain ⟨i, hi⟩ := List.getElem?_of_mem h
        rw [List.getElem?_mapIdx] at hi
        obtain ⟨r, hr, rfl⟩ := Option.map_eq_some_iff.mp hi
        have a := hRm r (List.mem_of_getElem? hr)
        have b := (List.getElem?_eq_some_iff.mp hr).1
        show 0 ≤ (i : Int) ∧ (i : Int) < m ∧ 0 ≤ r ∧ r < m
        omega
      · obtain ⟨t, k, rfl⟩ := List.mem_map.mp h
        exact ok t k
  | deal hh hw hwl dl db rl rb =>
    rename_i h w dealt rooms
    have hw6 : w ≤ 6 := Nat.le_trans (Nat.le_mul_of_pos_left w (by omega)) hwl
    have hrb : ∀ r ∈ rooms, 0 ≤ r ∧ r ≤ 6 := fun r hr => by
      obtain ⟨i, hi⟩ := List.getElem?_of_mem hr
      have := rb i r hi
      omega
    have hlen : ((List.range h).flatMap fun (i : Nat) => dealt.map fun d => if d = (i : Int) then (1 : Int) else 0).length = h * w := by
      have : ∀ k : Nat, ((List.range k).flatMap fun (i : Nat) => dealt.map fun d => if d = (i : Int) then (1 : Int) else 0).length = k * w := by
        intro k
        induction k with
        | zero => simp
        | succ k ih => rw [List.range_succ, List.flatMap_append, List.length_append, ih, List.flatMap_singleton, List.length_map, dl, Nat.succ_mul]
      exact this h
    refine ⟨?_, .inr (.inl ⟨rooms.map D.int, w, rfl, by omega, by omega, by rw [List.length_map]; omega, by rw [hlen, List.length_map, rl]; exact Int.natCast_mul h w⟩), smL_three (by decide +kernel) (smL_ints (by omega)) smL_int, noB_three noB_str noB_ints noB_int, _, _, rfl⟩
    show dealB [.str (PySem.Str.ofString "deal"), .tup (rooms.map D.int), .int w] = true
    unfold dealB
    dsimp only
    have e : ((h * w : Nat) : Int) = (h : Int) * w := Int.natCast_mul h w
    rw [areWithin_of (by rw [List.length_map]) hrb, within_of (by omega) (by omega), List.length_map, rl, decide_eq_true (show (1 : Int) ≤ h by omega), decide_eq_true (show (h : Int) ≤ 4 by omega), decide_eq_true (show (h : Int) * w ≤ 16 by omega)]
    rfl
  | stream hm sp mo rl rb cl cb =>
    rename_i m T F rooms
    have h1 := sp.1
    have h2 := mo.len
    rw [List.length_take] at h2
    have ht := more_ties (fun t ht => par_tie sp t (List.mem_of_mem_take ht)) mo
    obtain ⟨f1, f2, f3⟩ := flow_ok (by omega) ht (by omega) rl rb cl cb
    refine ⟨?_, .inl ⟨_, _, F.map (fun x => fr x.1), _, rfl, .inr (.inr (.inr rfl)), by rw [cl, List.length_map]⟩, smL_five (by decide +kernel) smL_int (smL_ties (by omega) (by decide)) (smL_ints (by omega)) (smL_ints (by omega)), noB_five noB_str noB_int noB_ties noB_ints noB_ints, _, _, rfl⟩
    generalize flow m.toNat (F.map (·.1)) ns = needs at *
    show streamB [.str (PySem.Str.ofString "stream"), .int m, .tup (F.map fun x => fr x.1), .tup (rooms.map D.int), .tup (needs.map D.int)] = true
    have hw : webB 5 [.str (PySem.Str.ofString "stream"), .int m, .tup (F.map fun x => fr x.1), .tup (rooms.map D.int), .tup (needs.map D.int)] = true := by
      unfold webB
      rw [show itm [.str (PySem.Str.ofString "stream"), .int m, .tup (F.map fun x => fr x.1), .tup (rooms.map D.int), .tup (needs.map D.int)] 1 = .int m from rfl, show itm [.str (PySem.Str.ofString "stream"), .int m, .tup (F.map fun x => fr x.1), .tup (rooms.map D.int), .tup (needs.map D.int)] 2 = tiesD F from rfl, within_of (by omega) (by omega),
        areTiesB_of (by omega) (by omega) fun x hx => by have := ht x hx; unfold Tie at this; exact ⟨⟨this.1, this.2.1, this.2.2.1, this.2.2.2.1⟩, fun _ => this.2.2.2.2⟩]
      rfl
    unfold streamB
    dsimp only
    have e3 : sumOf (.tup (needs.map D.int)) = 0 := by
      show ((needs.map D.int).map numOf).sum = 0
      rw [List.map_map, show (numOf ∘ D.int) = id from rfl, List.map_id]
      exact f2
    rw [hw, areWithin_of (by rw [List.length_map, rl]) (fun r hr => ⟨(rb r hr).1, by have := (rb r hr).2; omega⟩), areWithin_of f1 f3, decide_eq_true e3]
    rfl
  | bench h1 lb ho =>
    rename_i lasts order
    refine ⟨?_, .inr (.inr ⟨_, rfl, by rw [dones_len, List.length_replicate, List.length_map]⟩), smL_two (by decide +kernel) (smL_ints (by omega)), noB_two noB_str noB_ints, _, _, rfl⟩
    show benchB [.str (PySem.Str.ofString "bench"), .tup (lasts.map D.int)] = true
    unfold benchB
    dsimp only
    rw [areWithin_of (by rw [List.length_map]) (fun r hr => ⟨(lb r hr).1, by have := (lb r hr).2; omega⟩), List.length_map, decide_eq_true (show (1 : Int) ≤ lasts.length by omega), decide_eq_true (show (lasts.length : Int) ≤ 8 by omega)]
    rfl
theorem thing_of {L n : Nat} {d : D} (h : smL L n d = true) (hL : L < 1000) (hn : n ≤ 40) : Thing d := by
  have h1 := smL_sh h hL
  refine ⟨okN_plain (shN_ok h1), fun xs e => ?_⟩
  subst e
  exact smL_sh (smL_mono h (Nat.le_refl _) hn) hL
end NB
set_option Elab.async false
set_option linter.all false
set_option maxRecDepth 100000
set_option maxHeartbeats 2000000
/-! Loops over lists that are encoded item by item. -/
namespace DL
open PySem PySem.Spec L2
theorem split_at {α : Type} {xs : List α} {i : Nat} {x : α} (h : xs[i]? = some x) : xs = xs.take i ++ x :: xs.drop (i + 1) := by
  rw [← drop_of h, List.take_append_drop]
theorem map_at {α : Type} {enc : α → D} {xs : List α} {i : Nat} {d : D} (h : (xs.map enc)[i]? = some d) : ∃ x, xs[i]? = some x ∧ d = enc x := by
  rw [List.getElem?_map] at h
  obtain ⟨t, h1, h2⟩ := Option.map_eq_some_iff.mp h
  exact ⟨t, h1, h2.symm⟩
theorem take_snoc {α : Type} {l : List α} {i : Nat} {x : α} (h : l[i]? = some x) : l.take (i + 1) = l.take i ++ [x] := by
  rw [List.take_add_one, h]
  rfl
/-- a loop by what holds behind a part of the list -/
theorem for_pre {α : Type} {ok : M → Prop} {f : TGD} {tb : DTS} {E : DEnds} {enc : α → D} {xs : List α} {δ : Sl} {μ : M} (J : List α → Sl → M → Prop) (h0 : J [] δ μ)
    (ht : ∀ (pre : List α) (x : α) (post : List α) (δ : Sl) (μ : M), xs = pre ++ x :: post → J pre δ μ → ok μ ∧ turnD (f μ (enc x)) tb { E with nx := J (pre ++ [x]), ct := J (pre ++ [x]), bk := E.nx } δ μ)
    (he : ∀ δ μ, J xs δ μ → ok μ ∧ E.nx δ μ) : loopJ ok f tb E (xs.map enc) δ μ := by
  refine ⟨fun i δ μ => i ≤ xs.length ∧ J (xs.take i) δ μ, ⟨Nat.zero_le _, by rw [List.take_zero]; exact h0⟩, ?_⟩
  rintro i δ μ ⟨hi, hJ⟩
  have key : ∀ d, (xs.map enc)[i]? = some d → ok μ ∧ turnD (f μ d) tb { E with nx := fun δ μ => i + 1 ≤ xs.length ∧ J (xs.take (i + 1)) δ μ, ct := fun δ μ => i + 1 ≤ xs.length ∧ J (xs.take (i + 1)) δ μ, bk := E.nx } δ μ := by
    intro d hd
    obtain ⟨x, hx, rfl⟩ := map_at hd
    have z := ht (xs.take i) x (xs.drop (i + 1)) δ μ (split_at hx) hJ
    have hl : i + 1 ≤ xs.length := (List.getElem?_eq_some_iff.mp hx).1
    rw [take_snoc hx]
    have e : J (xs.take i ++ [x]) = fun δ μ => i + 1 ≤ xs.length ∧ J (xs.take i ++ [x]) δ μ := by
      funext δ μ
      exact propext ⟨fun h => ⟨hl, h⟩, fun h => h.2⟩
    rw [e] at z
    exact z
  refine ⟨?_, fun d hd => (key d hd).2, fun he' => ?_⟩
  · cases hd : (xs.map enc)[i]? with
    | some d => exact (key d hd).1
    | none =>
      have := List.getElem?_eq_none_iff.mp hd
      rw [List.length_map] at this
      rw [List.take_of_length_le this] at hJ
      exact (he δ μ hJ).1
  · rw [List.length_map] at he'
    rw [he', List.take_length] at hJ
    exact (he δ μ hJ).2
/-- a loop by its state -/
theorem for_fold {α σ : Type} {ok : M → Prop} {f : TGD} {tb : DTS} {E : DEnds} {enc : α → D} {xs : List α} {δ : Sl} {μ : M} (step : σ → α → σ) (s0 : σ) (St : σ → Sl → M → Prop) (h0 : St s0 δ μ) (hok : ∀ s δ μ, St s δ μ → ok μ)
    (ht : ∀ (pre : List α) (x : α) (post : List α) (s : σ) (δ : Sl) (μ : M), xs = pre ++ x :: post → s = pre.foldl step s0 → St s δ μ → turnD (f μ (enc x)) tb { E with nx := St (step s x), ct := St (step s x), bk := E.nx } δ μ)
    (he : ∀ δ μ, St (xs.foldl step s0) δ μ → E.nx δ μ) : loopJ ok f tb E (xs.map enc) δ μ := by
  refine for_pre (fun pre δ μ => St (pre.foldl step s0) δ μ) h0 (fun pre x post δ μ e hJ => ⟨hok _ _ _ hJ, ?_⟩) (fun δ μ hJ => ⟨hok _ _ _ hJ, he δ μ hJ⟩)
  have z := ht pre x post _ δ μ e rfl hJ
  have e2 : (pre ++ [x]).foldl step s0 = step (pre.foldl step s0) x := by rw [List.foldl_append]; rfl
  rw [e2]
  exact z
theorem zip_map {α β : Type} {e1 : α → D} {e2 : β → D} {xs : List α} {ys : List β} : zipL (xs.map e1) (ys.map e2) = (xs.zip ys).map fun p => .tup [e1 p.1, e2 p.2] := by
  unfold zipL
  rw [List.zipWith_map, List.zip, List.map_zipWith]
theorem zip3_map {α β γ : Type} {e1 : α → D} {e2 : β → D} {e3 : γ → D} {xs : List α} {ys : List β} {zs : List γ} : zipL3 (xs.map e1) (ys.map e2) (zs.map e3) = (xs.zip (ys.zip zs)).map fun p => .tup [e1 p.1, e2 p.2.1, e3 p.2.2] := by
  unfold zipL3
  rw [List.zip_map, List.zipWith_map]
  generalize ys.zip zs = ws
  rw [List.zip, List.map_zipWith]
  rfl
theorem enum_map {α : Type} {e1 : α → D} {xs : List α} : enumL 0 (xs.map e1) = xs.zipIdx.map fun p => .tup [.int ((p.2 : Nat) : Int), e1 p.1] := by
  apply List.ext_getElem?
  intro i
  rw [enumL_get, List.getElem?_map, List.getElem?_map, List.getElem?_zipIdx]
  cases xs[i]? with
  | none => rfl
  | some x => simp
theorem range_map0 {n : Nat} : rangeD 0 n = (List.range n).map fun i : Nat => D.int (i : Int) := by
  unfold rangeD
  apply List.map_congr_left
  intro i _
  rw [Int.zero_add]
/-- a def that is never called -/
def cNo : Ct := fun _ _ _ _ => False
theorem dfn_no {P : Program} {w : World} {K : PySem.W.Frag} {mg : Str → Option Value} {base : Heap} {CX : CXT} {x qual : Str} {st : Stmt} {f : Addr} {fd : FuncData} {k : Nat} {ps : List Str} (F : Fun K x qual st f fd) (hm : mg x = some (.ref f)) (bn : Binds K fd ps []) : Dfn P w K mg base CX x qual st k ps cNo :=
  ⟨f, fd, F, hm, ⟨fun vs H Q E h => by obtain ⟨_, _, _, _, _, _, _, z, _⟩ := h; exact z.elim, fun A outer s H args us vs Q E hr he hb hv h => by obtain ⟨_, _, _, _, _, _, _, z, _⟩ := h; exact z.elim⟩, bn⟩
theorem src_cell {μ : M} {p : Addr} {ds : List D} (h : μ p = some (.lst ds)) : srcOf μ (.raw (.ref p)) = some (.cel p ds) := by
  show (match cellL (μ p) with | some xs => some (Src.cel p xs) | none => none) = _
  rw [h]
  rfl
end DL
set_option Elab.async false
set_option linter.all false
set_option maxRecDepth 100000
set_option maxHeartbeats 2000000
set_option exponentiation.threshold 20000
/-! Drawn tasks. -/
local macro_rules | `(tactic| walk_at "r") => `(tactic| simp only [DL.dSeq, DL.dSet, DL.kSet, DL.dCB, DL.kCB, DL.dCons, DL.kCons1, DL.kCons2, DL.dNil, DL.dVar, DL.dC, DL.dOp, DL.kOp1, DL.kOp2, DL.dB, DL.kB, DL.dIf, DL.kIf, DL.dRet, DL.dRetN, DL.dTup, DL.kTup, DL.dLst, DL.kLst, DL.dLstC, DL.kLstC, DL.dCall, DL.kCall, DL.dCallK, DL.kCallK1, DL.kCallK2, DL.dLenIs, DL.kLenIs, DL.dNext, DL.dDrop, DL.kDrop, DL.dPar, DL.kPar, DL.dAug, DL.kAug, DL.dAsg, DL.kAsg, DL.dSetIx, DL.kSetIx1, DL.kSetIx2, DL.kSetIx3, DL.dTru, DL.kTru, DL.dAnd, DL.kAnd, DL.dOr, DL.kOr, DL.dNot, DL.kNot, DL.dAndV, DL.kAndV, DL.dOrV, DL.kOrV, DL.dNotV, DL.kNotV, DL.dIfE, DL.kIfE, DL.dChain, DL.kChain1, DL.kChain2, DL.kChain3_true, DL.kChain3_false, DL.dNeg, DL.kNeg, DL.dFz, DL.kFz, DL.dRaise, DL.dTryAs, DL.suiteE, DL.kUnset, DL.dFor, DL.kFor, DL.dSeqI, DL.kSeqI, DL.dRange1, DL.kRange1, DL.dRange2, DL.kRange2, DL.dLc, DL.kLc, DL.dLcC, DL.kLstD, DL.kNewC, DL.dYes, DL.wipeD, DL.loopD, DL.compD, DL.kItem, DL.kTest_true, DL.kTest_false, DL.putIx_some, DL.setsK_some, DL.turnD_some, DL.turnC_some, DL.ifS_true, DL.ifS_false, DL.ifAnd_true, DL.ifAnd_false, DL.ifOr_true, DL.ifOr_false, DL.ifAndV_true, DL.ifAndV_false, DL.ifOrV_true, DL.ifOrV_false, DL.ifE_true, DL.ifE_false, DL.srcOf, DL.tgN, DL.tgT, DL.tgNil, DL.tgCons, DL.sets, List.foldl_cons, List.foldl_nil, DL.gI, DL.gI0, DL.gAdd, DL.gMul, DL.gIx, DL.gEq, DL.gNe, DL.gIs, DL.gIn, DL.gLen, DL.gAbs, DL.gMax2, DL.gMin2, DL.gAll, DL.gAny, DL.gSum, DL.gList, DL.gListC, DL.gTuple, DL.gIsiC, DL.gIsi, DL.tyN, DL.subN_NoneType_int, DL.subN_NoneType_bool, DL.subN_NoneType_str, DL.subN_NoneType_list, DL.subN_NoneType_tuple, DL.subN_bool_int, DL.subN_bool_bool, DL.subN_bool_str, DL.subN_bool_list, DL.subN_bool_tuple, DL.subN_int_int, DL.subN_int_bool, DL.subN_int_str, DL.subN_int_list, DL.subN_int_tuple, DL.subN_str_int, DL.subN_str_bool, DL.subN_str_str, DL.subN_str_list, DL.subN_str_tuple, DL.subN_list_int, DL.subN_list_bool, DL.subN_list_str, DL.subN_list_list, DL.subN_list_tuple, DL.subN_tuple_int, DL.subN_tuple_bool, DL.subN_tuple_str, DL.subN_tuple_list, DL.subN_tuple_tuple, DL.truD, DL.blsOf, DL.view_non, DL.view_bl, DL.view_int', DL.view_str', DL.view_lst', DL.view_tup', DL.view_scr', DL.ends, DL.kEnd, DL.OptP_some, DL.OptQ_some, DL.OptB_some, DL.OptS_some, List.getElem?_cons_zero, List.getElem?_cons_succ, List.set_cons_zero, List.set_cons_succ, DL.atI_zero, DL.atI_one, DL.atI_two, List.length_cons, List.length_nil, DL.pick, List.filterMap_cons, List.filterMap_nil, List.nil_append, List.cons_append, List.map_cons, List.map_nil, Option.map_some, Option.bind_some, true_and, and_true, Bool.false_eq_true, Bool.not_true, Bool.not_false, Bool.xor_false, Bool.xor_true, Bool.false_xor, Bool.true_xor, decide_true, decide_false, Nat.zero_add, Nat.reduceAdd, not_true_eq_false, not_false_eq_true, DL.eqD_int, DL.eqD_str, DL.eqD_bl, DL.eqD_tup, DL.eqD_lst, DL.eqDs_nil, DL.eqDs_cons, Bool.and_true, Bool.and_false, List.all_cons, List.all_nil, List.any_cons, List.any_nil, Bool.and_self, DL.dM, DL.kM1, DL.kM2, DL.dM0, DL.kM0, DL.gAppend, DL.gInsert, DL.gExtend, DL.gPop1, DL.gPop0, DL.gReverse, DL.gSort, DL.gRemove, DL.gCount, DL.gIndex, DL.dSlG, DL.kSl1, DL.kSl2, DL.kSl3, DL.gSl, DL.gSlC, DL.dNoPart, DL.dPart, DL.kPart, DL.dLR1, DL.kLR1, DL.dLR2, DL.kLR21, DL.kLR22, DL.nLst, DL.gRepC, DL.gCatC, DL.gInt, DL.gSorted, DL.gMaxL, DL.gMinL, DL.dEnum, DL.kEnum, DL.dZip2, DL.kZip2, DL.dZip3, DL.kZip3, DL.OptS2_some, DL.OptS3_some, DL.dRev, DL.kRev, DL.dEmp, DL.view_emp', DL.subN_dict_int, DL.subN_dict_bool, DL.subN_dict_str, DL.subN_dict_list, DL.subN_dict_tuple, DL.cellL_lst, DL.cellL_none])
local macro_rules | `(tactic| simp! only [$xs,*]) => `(tactic| simp only [DL.dSeq, DL.dSet, DL.kSet, DL.dCB, DL.kCB, DL.dCons, DL.kCons1, DL.kCons2, DL.dNil, DL.dVar, DL.dC, DL.dOp, DL.kOp1, DL.kOp2, DL.dB, DL.kB, DL.dIf, DL.kIf, DL.dRet, DL.dRetN, DL.dTup, DL.kTup, DL.dLst, DL.kLst, DL.dLstC, DL.kLstC, DL.dCall, DL.kCall, DL.dCallK, DL.kCallK1, DL.kCallK2, DL.dLenIs, DL.kLenIs, DL.dNext, DL.dDrop, DL.kDrop, DL.dPar, DL.kPar, DL.dAug, DL.kAug, DL.dAsg, DL.kAsg, DL.dSetIx, DL.kSetIx1, DL.kSetIx2, DL.kSetIx3, DL.dTru, DL.kTru, DL.dAnd, DL.kAnd, DL.dOr, DL.kOr, DL.dNot, DL.kNot, DL.dAndV, DL.kAndV, DL.dOrV, DL.kOrV, DL.dNotV, DL.kNotV, DL.dIfE, DL.kIfE, DL.dChain, DL.kChain1, DL.kChain2, DL.kChain3_true, DL.kChain3_false, DL.dNeg, DL.kNeg, DL.dFz, DL.kFz, DL.dRaise, DL.dTryAs, DL.suiteE, DL.kUnset, DL.dFor, DL.kFor, DL.dSeqI, DL.kSeqI, DL.dRange1, DL.kRange1, DL.dRange2, DL.kRange2, DL.dLc, DL.kLc, DL.dLcC, DL.kLstD, DL.kNewC, DL.dYes, DL.wipeD, DL.loopD, DL.compD, DL.kItem, DL.kTest_true, DL.kTest_false, DL.putIx_some, DL.setsK_some, DL.turnD_some, DL.turnC_some, DL.ifS_true, DL.ifS_false, DL.ifAnd_true, DL.ifAnd_false, DL.ifOr_true, DL.ifOr_false, DL.ifAndV_true, DL.ifAndV_false, DL.ifOrV_true, DL.ifOrV_false, DL.ifE_true, DL.ifE_false, DL.srcOf, DL.tgN, DL.tgT, DL.tgNil, DL.tgCons, DL.sets, List.foldl_cons, List.foldl_nil, DL.gI, DL.gI0, DL.gAdd, DL.gMul, DL.gIx, DL.gEq, DL.gNe, DL.gIs, DL.gIn, DL.gLen, DL.gAbs, DL.gMax2, DL.gMin2, DL.gAll, DL.gAny, DL.gSum, DL.gList, DL.gListC, DL.gTuple, DL.gIsiC, DL.gIsi, DL.tyN, DL.subN_NoneType_int, DL.subN_NoneType_bool, DL.subN_NoneType_str, DL.subN_NoneType_list, DL.subN_NoneType_tuple, DL.subN_bool_int, DL.subN_bool_bool, DL.subN_bool_str, DL.subN_bool_list, DL.subN_bool_tuple, DL.subN_int_int, DL.subN_int_bool, DL.subN_int_str, DL.subN_int_list, DL.subN_int_tuple, DL.subN_str_int, DL.subN_str_bool, DL.subN_str_str, DL.subN_str_list, DL.subN_str_tuple, DL.subN_list_int, DL.subN_list_bool, DL.subN_list_str, DL.subN_list_list, DL.subN_list_tuple, DL.subN_tuple_int, DL.subN_tuple_bool, DL.subN_tuple_str, DL.subN_tuple_list, DL.subN_tuple_tuple, DL.truD, DL.blsOf, DL.view_non, DL.view_bl, DL.view_int', DL.view_str', DL.view_lst', DL.view_tup', DL.view_scr', DL.ends, DL.kEnd, DL.OptP_some, DL.OptQ_some, DL.OptB_some, DL.OptS_some, List.getElem?_cons_zero, List.getElem?_cons_succ, List.set_cons_zero, List.set_cons_succ, DL.atI_zero, DL.atI_one, DL.atI_two, List.length_cons, List.length_nil, DL.pick, List.filterMap_cons, List.filterMap_nil, List.nil_append, List.cons_append, List.map_cons, List.map_nil, Option.map_some, Option.bind_some, true_and, and_true, Bool.false_eq_true, Bool.not_true, Bool.not_false, Bool.xor_false, Bool.xor_true, Bool.false_xor, Bool.true_xor, decide_true, decide_false, Nat.zero_add, Nat.reduceAdd, not_true_eq_false, not_false_eq_true, DL.eqD_int, DL.eqD_str, DL.eqD_bl, DL.eqD_tup, DL.eqD_lst, DL.eqDs_nil, DL.eqDs_cons, Bool.and_true, Bool.and_false, List.all_cons, List.all_nil, List.any_cons, List.any_nil, Bool.and_self, DL.dM, DL.kM1, DL.kM2, DL.dM0, DL.kM0, DL.gAppend, DL.gInsert, DL.gExtend, DL.gPop1, DL.gPop0, DL.gReverse, DL.gSort, DL.gRemove, DL.gCount, DL.gIndex, DL.dSlG, DL.kSl1, DL.kSl2, DL.kSl3, DL.gSl, DL.gSlC, DL.dNoPart, DL.dPart, DL.kPart, DL.dLR1, DL.kLR1, DL.dLR2, DL.kLR21, DL.kLR22, DL.nLst, DL.gRepC, DL.gCatC, DL.gInt, DL.gSorted, DL.gMaxL, DL.gMinL, DL.dEnum, DL.kEnum, DL.dZip2, DL.kZip2, DL.dZip3, DL.kZip3, DL.OptS2_some, DL.OptS3_some, DL.dRev, DL.kRev, DL.dEmp, DL.view_emp', DL.subN_dict_int, DL.subN_dict_bool, DL.subN_dict_str, DL.subN_dict_list, DL.subN_dict_tuple, DL.cellL_lst, DL.cellL_none, $xs,*])
namespace NB
open PySem PySem.Spec L2 DL Fr
abbrev Fc := Int × Int
def optF : Option Fc → D
  | none => .non
  | some f => fr f
def bndD (b : Option Fc × Option Fc) : D := .tup [optF b.1, optF b.2]
def wgtD (w : Fc × Fc) : D := .tup [fr w.1, fr w.2]
/-- a tree grown from place 0: the counts, the places seen -/
def growStep (st : List Int × List Int) (x : (Int × Int) × Nat) : List Int × List Int :=
  if (decide (x.1.1 ∈ st.2)) = decide (x.1.2 ∈ st.2) then st else (st.1.set x.2 1, st.2 ++ [x.1.1, x.1.2].filter fun p => !decide (p ∈ st.2))
def growRound (F : List (Int × Int)) (st : List Int × List Int) (_ : Nat) : List Int × List Int := F.zipIdx.foldl growStep st
def grow (F : List (Int × Int)) (n : Nat) : List Int × List Int := (List.range n).foldl (growRound F) (List.replicate n 0, [0])
/-- the wish beside the first one -/
inductive Beside : D × List Int → D × List Int → Prop
  | tree {m b e : Int} {F : List ((Int × Int) × Int)} {ns : List Int} : F.length = ns.length → Beside (.tup [.str (PySem.Str.ofString "way"), .int m, tiesD F, .int b, .int e], ns) (.tup [.str (PySem.Str.ofString "tree"), .int m, tiesD F], (grow (F.map (·.1)) ns.length).1)
  | bench {w : Str} {r : List D} {ns : List Int} {x : D × List Int} : w ≠ PySem.Str.ofString "way" → BenchOk ns.length x → Beside (.tup (.str w :: r), ns) x
def WishesOk (ws : List (D × List Int)) : Prop := ∃ w, Wish w.1 w.2 ∧ (ws = [w] ∨ ∃ w2, Beside w w2 ∧ ws.Perm [w, w2])
def wayW (w : D × List Int) : Bool := match w.1 with
  | .tup (.str x :: _) => decide (x = PySem.Str.ofString "way")
  | _ => false
structure BndOk (walked : Bool) (price : Fc) (b : Option Fc × Option Fc) : Prop where
  lo : ∀ f, b.1 = some f → Ok 20 f ∧ f.1 * price.2 ≤ price.1 * f.2
  hi : ∀ f, b.2 = some f → Ok 20 f ∧ price.1 * f.2 ≤ f.1 * price.2
  wk : walked = true → ∃ f, b.1 = some f ∧ 0 ≤ f.1
structure WgtOk (w : Fc × Fc) : Prop where
  dn : Ok 3 w.1
  up : Ok 3 w.2
  dp : 0 < w.1.1
  pp : 0 < w.2.1
structure Task where
  prices : List Fc
  wishes : List (D × List Int)
  bounds : List (Option Fc × Option Fc)
  weights : List (Fc × Fc)
  word : Str
def Task.d (t : Task) : D := .tup [.lst (t.prices.map fr), .lst (t.wishes.map WishD), .lst (t.bounds.map bndD), .lst (t.weights.map wgtD), .str t.word]
structure TaskOk (t : Task) : Prop where
  ws : WishesOk t.wishes
  pl : ∀ w ∈ t.wishes, w.2.length = t.prices.length
  n1 : 1 ≤ t.prices.length
  n2 : t.prices.length ≤ 16
  pr : ∀ f ∈ t.prices, Ok 9 f
  pw : t.wishes.any wayW = true → ∀ f ∈ t.prices, 0 ≤ f.1
  bd : All2 (BndOk (t.wishes.any wayW)) t.prices t.bounds
  wl : t.weights.length = t.prices.length
  wg : ∀ w ∈ t.weights, WgtOk w
  wd : t.word = PySem.Str.ofString "sum" ∨ t.word = PySem.Str.ofString "greatest"
def c_wishes : Ct := fun ds μ Q _ => ∃ p : Addr, ds = [.raw (.ref p)] ∧ Pool μ p ∧ Drw p μ Q WishesOk fun ws => .lst (ws.map WishD)
def c_bound : Ct := fun ds μ Q _ => ∃ (p : Addr) (f : Fc) (b : Bool), ds = [.raw (.ref p), fr f, .bl b] ∧ Ok 9 f ∧ (b = true → 0 ≤ f.1) ∧ Pool μ p ∧ Drw p μ Q (BndOk b f) bndD
def c_weight : Ct := fun ds μ Q _ => ∃ p : Addr, ds = [.raw (.ref p)] ∧ Pool μ p ∧ Drw p μ Q WgtOk wgtD
def c_task : Ct := fun ds μ Q _ => ∃ p : Addr, ds = [.raw (.ref p)] ∧ Pool μ p ∧ Drw p μ Q TaskOk Task.d
def t_law_wishes_4 : DTS :=
  (dRet (dCall c_shuffled (dCons (dVar 0) (dCons (dFz (dVar 2)) dNil))))
def t_law_wishes : DTS :=
  (dSeq (dSet 1 (dCall c_wish_of (dCons (dVar 0) dNil)))
    (dSeq (dSet 2 (dLstC (dCons (dVar 1) dNil)))
    (dSeq (dSet 3 (dCB gLen (dCons (dOp gIx (dVar 1) (dC (.int 1))) dNil)))
    (dSeq (dIf (dB (dOp gEq (dCall c_take (dCons (dVar 0) (dCons (dC (.int 3)) dNil))) (dC (.int 0)))) (dIf (dB (dOp gEq (dOp gIx (dOp gIx (dVar 1) (dC (.int 0))) (dC (.int 0))) (dC (.str (PySem.Str.ofString "way"))))) (dSeq (dSet 4 (dOp gRepC (dLst (dCons (dC (.int 0)) dNil)) (dVar 3)))
    (dSeq (dSet 5 (dLst (dCons (dC (.int 0)) dNil)))
    (dSeq (dFor (dRange1 (dCons (dVar 3) dNil)) (tgN 6) (dFor (dEnum (dCons (dOp gIx (dOp gIx (dVar 1) (dC (.int 0))) (dC (.int 2))) dNil)) (tgT (tgCons (tgN 7) (tgCons (tgN 8) tgNil))) (dIf (dB (dOp gNe (dOp (gIn false) (dOp gIx (dVar 8) (dC (.int 0))) (dVar 5)) (dOp (gIn false) (dOp gIx (dVar 8) (dC (.int 1))) (dVar 5)))) (dSeq (dSetIx (dC (.int 1)) (dVar 4) (dVar 7))
    (dSet 5 (dOp gAdd (dVar 5) (dLc (dSeqI (dVar 8)) (tgN 9) (dB (dOp (gIn true) (dVar 9) (dVar 5))) (dVar 9) [9])))) dNext)))
    (dDrop (dM gAppend (dVar 2) (dCons (dTup (dCons (dTup (dCons (dC (.str (PySem.Str.ofString "tree"))) (dCons (dOp gIx (dOp gIx (dVar 1) (dC (.int 0))) (dC (.int 1))) (dCons (dOp gIx (dOp gIx (dVar 1) (dC (.int 0))) (dC (.int 2))) dNil)))) (dCons (dFz (dVar 4)) dNil))) dNil)))))) (dIf (dB (dOp gLt (dVar 3) (dC (.int 5)))) (dDrop (dM gAppend (dVar 2) (dCons (dCall c_bench_wish (dCons (dVar 0) (dCons (dVar 3) dNil))) dNil))) dNext)) dNext)
    t_law_wishes_4))))
def t_law_bound_7 : DTS :=
  (dRet (dTup (dCons (dVar 5) (dCons (dVar 6) dNil))))
def t_law_bound_6 : DTS :=
  (dSeq (dIf (dB (dOp (gIs true) (dVar 4) (dC .non))) (dSet 6 (dCall c_plus (dCons (dVar 1) (dCons (dVar 4) dNil)))) dNext)
    t_law_bound_7)
def t_law_bound_5 : DTS :=
  (dSeq (dIf (dAnd (dTru (dVar 2)) (dOr (dB (dOp (gIs false) (dVar 5) (dC .non))) (dB (dOp gLt (dOp gIx (dVar 5) (dC (.int 0))) (dC (.int 0)))))) (dSet 5 (dTup (dCons (dC (.int 0)) (dCons (dC (.int 1)) dNil)))) dNext)
    t_law_bound_6)
def t_law_bound : DTS :=
  (dSeq (dSet 3 (dOp gIx (dLst (dCons (dC .non) (dCons (dTup (dCons (dC (.int 0)) (dCons (dC (.int 1)) dNil))) (dCons (dCall c_number (dCons (dVar 0) dNil)) (dCons (dCall c_number (dCons (dVar 0) dNil)) dNil))))) (dCall c_take (dCons (dVar 0) (dCons (dC (.int 4)) dNil)))))
    (dSeq (dSet 4 (dOp gIx (dLst (dCons (dC .non) (dCons (dC .non) (dCons (dTup (dCons (dC (.int 0)) (dCons (dC (.int 1)) dNil))) (dCons (dCall c_number (dCons (dVar 0) dNil)) dNil))))) (dCall c_take (dCons (dVar 0) (dCons (dC (.int 4)) dNil)))))
    (dSeq (dSet 5 (dC .non))
    (dSeq (dSet 6 (dC .non))
    (dSeq (dIf (dB (dOp (gIs true) (dVar 3) (dC .non))) (dSet 5 (dCall c_minus (dCons (dVar 1) (dCons (dVar 3) dNil)))) dNext)
    t_law_bound_5)))))
def t_law_weight : DTS :=
  (dSeq (dSet 1 (dLst (dCons (dTup (dCons (dC (.int 1)) (dCons (dC (.int 1)) dNil))) (dCons (dTup (dCons (dC (.int 1)) (dCons (dC (.int 1)) dNil))) (dCons (dTup (dCons (dC (.int 2)) (dCons (dC (.int 1)) dNil))) (dCons (dTup (dCons (dC (.int 1)) (dCons (dC (.int 2)) dNil))) (dCons (dTup (dCons (dC (.int 3)) (dCons (dC (.int 1)) dNil))) (dCons (dTup (dCons (dC (.int 2)) (dCons (dC (.int 3)) dNil))) dNil))))))))
    (dSeq (dSet 2 (dOp gIx (dVar 1) (dCall c_take (dCons (dVar 0) (dCons (dC (.int 6)) dNil)))))
    (dRet (dTup (dCons (dVar 2) (dCons (dOp gIx (dVar 1) (dCall c_take (dCons (dVar 0) (dCons (dC (.int 6)) dNil)))) dNil))))))
def t_law_task_8 : DTS :=
  (dSeq (dSet 7 (dLc (dSeqI (dVar 4)) (tgN 11) dYes (dCall c_weight (dCons (dVar 0) dNil)) [11]))
    (dRet (dTup (dCons (dVar 4) (dCons (dVar 1) (dCons (dVar 6) (dCons (dVar 7) (dCons (dOp gIx (dLst (dCons (dC (.str (PySem.Str.ofString "sum"))) (dCons (dC (.str (PySem.Str.ofString "greatest"))) dNil))) (dCall c_take (dCons (dVar 0) (dCons (dC (.int 2)) dNil)))) dNil))))))))
def t_law_task_5 : DTS :=
  (dSeq (dSet 5 (dCall c_take (dCons (dVar 0) (dCons (dC (.int 3)) dNil))))
    (dSeq (dSet 6 (dLc (dSeqI (dVar 4)) (tgN 11) dYes (dCall c_bound (dCons (dVar 0) (dCons (dVar 11) (dCons (dVar 3) dNil)))) [11]))
    (dSeq (dIf (dB (dOp gEq (dVar 5) (dC (.int 0)))) (dSet 6 (dLc (dSeqI (dVar 4)) (tgN 11) dYes (dTup (dCons (dOp gIx (dLst (dCons (dC .non) (dCons (dTup (dCons (dC (.int 0)) (dCons (dC (.int 1)) dNil))) dNil))) (dCB gInt (dCons (dVar 3) dNil))) (dCons (dC .non) dNil))) [11])) dNext)
    t_law_task_8)))
def t_law_task : DTS :=
  (dSeq (dSet 1 (dCall c_wishes (dCons (dVar 0) dNil)))
    (dSeq (dSet 2 (dCB gLen (dCons (dOp gIx (dOp gIx (dVar 1) (dC (.int 0))) (dC (.int 1))) dNil)))
    (dSeq (dSet 3 (dOp (gIn false) (dC (.str (PySem.Str.ofString "way"))) (dLc (dSeqI (dVar 1)) (tgT (tgCons (tgN 8) (tgCons (tgN 9) tgNil))) dYes (dOp gIx (dVar 8) (dC (.int 0))) [8, 9])))
    (dSeq (dSet 4 (dLc (dRange1 (dCons (dVar 2) dNil)) (tgN 10) dYes (dCall c_number (dCons (dVar 0) dNil)) [10]))
    (dSeq (dIf (dAnd (dNot (dTru (dVar 3))) (dB (dOp gEq (dCall c_take (dCons (dVar 0) (dCons (dC (.int 2)) dNil))) (dC (.int 0))))) (dSet 4 (dLc (dSeqI (dVar 4)) (tgN 11) dYes (dCall c_minus (dCons (dVar 11) (dCons (dTup (dCons (dC (.int 4)) (dCons (dC (.int 1)) dNil))) dNil))) [11])) dNext)
    t_law_task_5)))))

theorem hb_law_weight : HB c_weight t_law_weight 3 := by
  intro ds μ Q X h
  obtain ⟨p, rfl, hp, q⟩ := h
  show t_law_weight (ends Q XF) [some (.raw (.ref p)), none, none] μ
  have e : ∀ r : Int, 0 ≤ r → r < 6 → ∃ f : Fc, atI [D.tup [D.int 1, D.int 1], D.tup [D.int 1, D.int 1], D.tup [D.int 2, D.int 1], D.tup [D.int 1, D.int 2], D.tup [D.int 3, D.int 1], D.tup [D.int 2, D.int 3]] r = some (fr f) ∧ Ok 3 f ∧ 0 < f.1 := fun r h0 h1 => by
    obtain ⟨x, ex, hx⟩ := atI_lt (xs := [D.tup [D.int 1, D.int 1], D.tup [D.int 1, D.int 1], D.tup [D.int 2, D.int 1], D.tup [D.int 1, D.int 2], D.tup [D.int 3, D.int 1], D.tup [D.int 2, D.int 3]]) h0 (by show r < 6; exact h1)
    rw [ex]
    have hr : r.toNat = 0 ∨ r.toNat = 1 ∨ r.toNat = 2 ∨ r.toNat = 3 ∨ r.toNat = 4 ∨ r.toNat = 5 := by omega
    rcases hr with e | e | e | e | e | e <;> rw [e] at hx <;> cases hx
    · exact ⟨(1, 1), rfl, ⟨by decide, by decide, by decide, by decide⟩, by decide⟩
    · exact ⟨(1, 1), rfl, ⟨by decide, by decide, by decide, by decide⟩, by decide⟩
    · exact ⟨(2, 1), rfl, ⟨by decide, by decide, by decide, by decide⟩, by decide⟩
    · exact ⟨(1, 2), rfl, ⟨by decide, by decide, by decide, by decide⟩, by decide⟩
    · exact ⟨(3, 1), rfl, ⟨by decide, by decide, by decide, by decide⟩, by decide⟩
    · exact ⟨(2, 3), rfl, ⟨by decide, by decide, by decide, by decide⟩, by decide⟩
  simp! only [t_law_weight]
  (repeat (refine And.intro ?cjx ?_; (case cjx => first | decide | omega | assumption | (refine ⟨?_, ?_, ?_, ?_⟩ <;> first | decide | (simp; done)) | (simp; done))))
  refine ⟨p, _, rfl, hp, by decide, by decide, fun r μ1 a1 b1 h1 o1 => ?_⟩
  obtain ⟨f, ef, hf, hf0⟩ := e r a1 b1
  simp! only [ef]
  refine ⟨p, _, rfl, h1, by decide, by decide, fun r2 μ2 a2 b2 h2 o2 => ?_⟩
  obtain ⟨g, eg, hg, hg0⟩ := e r2 a2 b2
  simp! only [eg]
  exact ⟨by decide, .of (q (f, g) μ2 ⟨hf, hg, hf0, hg0⟩ h2 (o1.trans o2))⟩
theorem low_sign {t b : Int} (hb : 0 < b) : (0 ≤ (low t b).1 ↔ 0 ≤ t) := by
  have h1 := low_cross (t := t) (b := b) (by omega)
  have h2 := low_pos (t := t) (b := b) (by omega)
  constructor
  · intro h
    have : 0 ≤ t * (low t b).2 := by rw [← h1]; exact Int.mul_nonneg h (by omega)
    rcases Int.lt_or_le t 0 with h' | h'
    · have := Int.mul_neg_of_neg_of_pos h' (show 0 < (low t b).2 by omega)
      omega
    · exact h'
  · intro h
    have : 0 ≤ (low t b).1 * b := by rw [h1]; exact Int.mul_nonneg h (by omega)
    rcases Int.lt_or_le (low t b).1 0 with h' | h'
    · have := Int.mul_neg_of_neg_of_pos h' hb
      omega
    · exact h'
theorem ok_sub {n m : Nat} {f g : Fc} (h : Ok n f) (k : Ok m g) : Ok (n + m + 1) (subF f g) := by
  refine ok_low (mul_ne h.ne k.ne) ?_ (lt_mono (mul_lt h.bb k.bb) (by omega))
  exact sub_lt (mul_lt h.tb k.bb) (by have := mul_lt k.tb h.bb; rwa [Nat.add_comm] at this)
theorem pos_of {n : Nat} {f : Fc} (h : Ok n f) : 0 < f.2 := by have := h.pos; omega
theorem ring1 {a b c d x y : Int} (h : x * (b * d) = (a * d - c * b) * y) (hc : 0 ≤ c) (hb : 0 < b) (hd : 0 < d) (hy : 0 < y) : x * b ≤ a * y := by
  have h1 : x * b * d ≤ a * y * d := by
    have e1 : x * b * d = x * (b * d) := by rw [Int.mul_assoc]
    have e2 : (a * d - c * b) * y = a * y * d - c * b * y := by rw [Int.sub_mul]; congr 1; rw [Int.mul_right_comm]
    rw [e1, h, e2]
    have : 0 ≤ c * b * y := Int.mul_nonneg (Int.mul_nonneg hc (by omega)) (by omega)
    omega
  exact Int.le_of_mul_le_mul_right h1 hd
theorem ring2 {a b c d x y : Int} (h : x * (b * d) = (a * d + c * b) * y) (hc : 0 ≤ c) (hb : 0 < b) (hd : 0 < d) (hy : 0 < y) : a * y ≤ x * b := by
  have h1 : a * y * d ≤ x * b * d := by
    have e1 : x * b * d = x * (b * d) := by rw [Int.mul_assoc]
    have e2 : (a * d + c * b) * y = a * y * d + c * b * y := by rw [Int.add_mul]; congr 1; rw [Int.mul_right_comm]
    rw [e1, h, e2]
    have : 0 ≤ c * b * y := Int.mul_nonneg (Int.mul_nonneg hc (by omega)) (by omega)
    omega
  exact Int.le_of_mul_le_mul_right h1 hd
theorem sub_le {n m : Nat} {f g : Fc} (h : Ok n f) (k : Ok m g) (hg : 0 ≤ g.1) : (subF f g).1 * f.2 ≤ f.1 * (subF f g).2 :=
  ring1 (low_cross (mul_ne h.ne k.ne)) hg (pos_of h) (pos_of k) (by have := low_pos (t := f.1 * g.2 - g.1 * f.2) (mul_ne h.ne k.ne); show 0 < (low _ _).2; omega)
theorem le_add {n m : Nat} {f g : Fc} (h : Ok n f) (k : Ok m g) (hg : 0 ≤ g.1) : f.1 * (addF f g).2 ≤ (addF f g).1 * f.2 :=
  ring2 (low_cross (mul_ne h.ne k.ne)) hg (pos_of h) (pos_of k) (by have := low_pos (t := f.1 * g.2 + g.1 * f.2) (mul_ne h.ne k.ne); show 0 < (low _ _).2; omega)
theorem ok_zero : Ok 1 ((0, 1) : Fc) := ok_nought
theorem is_fr {neg : Bool} {f : Fc} {μ : M} {Q : QD} : gIs neg (fr f) .non μ Q = Q (.bl (neg ^^ false)) μ := rfl
theorem hb_law_bound : HB c_bound t_law_bound 7 := by
  intro ds μ Q X h
  obtain ⟨p, f, b, rfl, hf, hb, hp, q⟩ := h
  show t_law_bound (ends Q XF) [some (.raw (.ref p)), some (fr f), some (.bl b), none, none, none, none] μ
  have opt : ∀ (g h : Fc) (r : Int), Ok 5 g → 0 ≤ g.1 → Ok 5 h → 0 ≤ h.1 → 0 ≤ r → r < 4 → ∃ o : Option Fc, atI [D.non, D.tup [D.int 0, D.int 1], fr g, fr h] r = some (optF o) ∧ ∀ k, o = some k → Ok 5 k ∧ 0 ≤ k.1 := fun g h r hg hg0 hh hh0 r0 r4 => by
    obtain ⟨x, ex, hx⟩ := atI_lt (xs := [D.non, D.tup [D.int 0, D.int 1], fr g, fr h]) r0 (by show r < 4; exact r4)
    rw [ex]
    have hr : r.toNat = 0 ∨ r.toNat = 1 ∨ r.toNat = 2 ∨ r.toNat = 3 := by omega
    rcases hr with e | e | e | e <;> rw [e] at hx <;> cases hx
    · exact ⟨none, rfl, fun k hk => by cases hk⟩
    · exact ⟨some (0, 1), rfl, fun k hk => by cases hk; exact ⟨ok_zero.mono (by decide), by decide⟩⟩
    · exact ⟨some g, rfl, fun k hk => by cases hk; exact ⟨hg, hg0⟩⟩
    · exact ⟨some h, rfl, fun k hk => by cases hk; exact ⟨hh, hh0⟩⟩
  have opt2 : ∀ (h : Fc) (r : Int), Ok 5 h → 0 ≤ h.1 → 0 ≤ r → r < 4 → ∃ o : Option Fc, atI [D.non, D.non, D.tup [D.int 0, D.int 1], fr h] r = some (optF o) ∧ ∀ k, o = some k → Ok 5 k ∧ 0 ≤ k.1 := fun h r hh hh0 r0 r4 => by
    obtain ⟨x, ex, hx⟩ := atI_lt (xs := [D.non, D.non, D.tup [D.int 0, D.int 1], fr h]) r0 (by show r < 4; exact r4)
    rw [ex]
    have hr : r.toNat = 0 ∨ r.toNat = 1 ∨ r.toNat = 2 ∨ r.toNat = 3 := by omega
    rcases hr with e | e | e | e <;> rw [e] at hx <;> cases hx
    · exact ⟨none, rfl, fun k hk => by cases hk⟩
    · exact ⟨none, rfl, fun k hk => by cases hk⟩
    · exact ⟨some (0, 1), rfl, fun k hk => by cases hk; exact ⟨ok_zero.mono (by decide), by decide⟩⟩
    · exact ⟨some h, rfl, fun k hk => by cases hk; exact ⟨hh, hh0⟩⟩
  simp! only [t_law_bound]
  refine ⟨by decide, p, rfl, hp, fun g1 μ1 hg1 h1 o1 => ?_⟩
  walk_at "r"
  refine ⟨p, rfl, h1, fun g2 μ2 hg2 h2 o2 => ?_⟩
  walk_at "r"
  refine ⟨by decide, p, _, rfl, h2, by decide, by decide, fun r μ3 a3 b3 h3 o3 => ?_⟩
  obtain ⟨dn, edn, hdn⟩ := opt g1 g2 r hg1.1 hg1.2 hg2.1 hg2.2 a3 b3
  simp! only [edn]
  refine ⟨by decide, p, rfl, h3, fun g3 μ4 hg3 h4 o4 => ?_⟩
  walk_at "r"
  refine ⟨by decide, p, _, rfl, h4, by decide, by decide, fun r2 μ5 a5 b5 h5 o5 => ?_⟩
  obtain ⟨up, eup, hup⟩ := opt2 g3 r2 hg3.1 hg3.2 a5 b5
  have oo := (((o1.trans o2).trans o3).trans o4).trans o5
  have dnok : ∀ k, dn = some k → Ok 20 (subF f k) ∧ (subF f k).1 * f.2 ≤ f.1 * (subF f k).2 := fun k e => ⟨(ok_sub hf (hdn k e).1).mono (by decide), sub_le hf (hdn k e).1 (hdn k e).2⟩
  have upok : ∀ k, up = some k → Ok 20 (addF f k) ∧ f.1 * (addF f k).2 ≤ (addF f k).1 * f.2 := fun k e => ⟨(ok_add hf (hup k e).1).mono (by decide), le_add hf (hup k e).1 (hup k e).2⟩
  have ret : ∀ (lo hi : Option Fc), BndOk b f (lo, hi) → t_law_bound_7 (ends Q XF) [some (.raw (.ref p)), some (fr f), some (.bl b), some (optF dn), some (optF up), some (optF lo), some (optF hi)] μ5 := fun lo hi hh => by
    simp! only [t_law_bound_7]
    exact ⟨by decide, .of (q (lo, hi) μ5 hh h5 oo)⟩
  have fin : ∀ lo : Option Fc, (∀ k, lo = some k → Ok 20 k ∧ k.1 * f.2 ≤ f.1 * k.2) → (b = true → ∃ k, lo = some k ∧ 0 ≤ k.1) →
      t_law_bound_6 (ends Q XF) [some (.raw (.ref p)), some (fr f), some (.bl b), some (optF dn), some (optF up), some (optF lo), some .non] μ5 := fun lo hlo hw => by
    cases up with
    | none => exact ret lo none ⟨hlo, (fun k e => by cases e), hw⟩
    | some k =>
      have r2 := ret lo (some (addF f k)) ⟨hlo, (fun j e => by cases e; exact upok k rfl), hw⟩
      simp! only [t_law_bound_6, optF, is_fr]
      exact ⟨f, k, rfl, Ok.sz hf (by decide), Ok.sz (hup k rfl).1 (by decide), r2⟩
  have mid : ∀ lo : Option Fc, (∀ k, lo = some k → Ok 20 k ∧ k.1 * f.2 ≤ f.1 * k.2) →
      t_law_bound_5 (ends Q XF) [some (.raw (.ref p)), some (fr f), some (.bl b), some (optF dn), some (optF up), some (optF lo), some .non] μ5 := fun lo hlo => by
    cases b with
    | false => exact fin lo hlo fun z => by cases z
    | true =>
      have f0 := hb rfl
      have z1 := fin (some (0, 1)) (fun k e => by cases e; exact ⟨ok_zero.mono (by decide), by show 0 * f.2 ≤ f.1 * 1; omega⟩) (fun _ => ⟨_, rfl, by decide⟩)
      cases lo with
      | none =>
        simp! only [t_law_bound_5, optF]
        exact ⟨by decide, z1⟩
      | some k =>
        obtain ⟨k1, k2⟩ := k
        have z2 := fun h => fin (some (k1, k2)) hlo (fun _ => ⟨_, rfl, h⟩)
        simp! only [t_law_bound_5, optF, is_fr, fr]
        refine ifS_dec (fun h => ?_) (fun h => ?_)
        · walk_at "r"
          exact ⟨by decide, z1⟩
        · exact z2 (by show 0 ≤ k1; omega)
  simp! only [eup]
  cases dn with
  | none => exact mid none fun k e => by cases e
  | some k =>
    have r2 := mid (some (subF f k)) fun j e => by cases e; exact dnok k rfl
    simp! only [optF, is_fr]
    exact ⟨f, k, rfl, Ok.sz hf (by decide), Ok.sz (hdn k rfl).1 (by decide), r2⟩
theorem inD_ints {a : Int} {ns : List Int} : inD (.int a) (ns.map D.int) = decide (a ∈ ns) := by
  unfold inD
  rw [List.any_map]
  by_cases h : a ∈ ns
  · rw [decide_eq_true h]
    exact List.any_eq_true.mpr ⟨a, h, by show eqD (.int a) (.int a) = true; rw [eqD_int]; simp⟩
  · rw [decide_eq_false h, List.any_eq_false]
    intro x hx
    show ¬ eqD (.int x) (.int a) = true
    rw [eqD_int]
    simp
    intro e
    rw [e] at hx
    exact h hx
theorem flat_ints {ns : List Int} : (ns.map D.int).all flatD = true := by
  rw [List.all_map]
  exact List.all_eq_true.mpr fun x _ => rfl
theorem grow_len1 : ∀ (xs : List ((Int × Int) × Nat)) (st : List Int × List Int), (xs.foldl growStep st).1.length = st.1.length ∧ (xs.foldl growStep st).2.length ≤ st.2.length + 2 * xs.length
  | [], st => ⟨rfl, by simp⟩
  | x :: xs, st => by
    have h := grow_len1 xs (growStep st x)
    have k : (growStep st x).1.length = st.1.length ∧ (growStep st x).2.length ≤ st.2.length + 2 := by
      unfold growStep
      split
      · exact ⟨rfl, by omega⟩
      · refine ⟨by rw [List.length_set], ?_⟩
        rw [List.length_append]
        have := List.length_filter_le (fun p => !decide (p ∈ st.2)) [x.1.1, x.1.2]
        simp only [List.length_cons, List.length_nil] at this
        omega
    rw [List.foldl_cons, List.length_cons]
    omega
theorem grow_len2 {F : List (Int × Int)} : ∀ (xs : List Nat) (st : List Int × List Int), (xs.foldl (growRound F) st).1.length = st.1.length ∧ (xs.foldl (growRound F) st).2.length ≤ st.2.length + 2 * F.length * xs.length
  | [], st => ⟨rfl, by simp⟩
  | x :: xs, st => by
    have h := grow_len2 (F := F) xs (growRound F st x)
    have k := grow_len1 F.zipIdx st
    rw [List.length_zipIdx] at k
    have k' : (growRound F st x).1.length = st.1.length ∧ (growRound F st x).2.length ≤ st.2.length + 2 * F.length := k
    rw [List.foldl_cons, List.length_cons, Nat.mul_add]
    omega
theorem Wish.way_or {s : D} {ns : List Int} (h : Wish s ns) : (∃ m b e F, s = .tup [.str (PySem.Str.ofString "way"), .int m, tiesD F, .int b, .int e] ∧ F.length = ns.length ∧ F.length ≤ 7) ∨
    (∃ w r, s = .tup (.str w :: r) ∧ PyData.strOk w = true ∧ w ≠ PySem.Str.ofString "way") := by
  cases h with
  | way hm sp mo hb he ne tr =>
    rename_i m b e T F is
    have h1 := sp.1
    have h2 := mo.len
    exact .inl ⟨m, b, e, F, rfl, by rw [ind_len], by omega⟩
  | tree => exact .inr ⟨_, _, rfl, by decide +kernel, by decide +kernel⟩
  | pair => exact .inr ⟨_, _, rfl, by decide +kernel, by decide +kernel⟩
  | deal => exact .inr ⟨_, _, rfl, by decide +kernel, by decide +kernel⟩
  | stream => exact .inr ⟨_, _, rfl, by decide +kernel, by decide +kernel⟩
  | bench => exact .inr ⟨_, _, rfl, by decide +kernel, by decide +kernel⟩
theorem hb_law_wishes : HB c_wishes t_law_wishes 10 := by
  intro ds μ Q X h
  obtain ⟨p, rfl, hp, q⟩ := h
  show t_law_wishes (ends Q XF) [some (.raw (.ref p)), none, none, none, none, none, none, none, none, none] μ
  have sz : 16777216 ≤ sizeLine := by decide
  simp! only [t_law_wishes]
  refine ⟨p, rfl, hp, fun w μ1 hw h1 o1 => ?_⟩
  obtain ⟨sh, ns⟩ := w
  have hc1 : 1 ≤ ns.length := (Wish.cnts hw).ne
  have hc2 : ns.length ≤ 16 := (Wish.cnts hw).le
  have hw' : Wish sh ns := hw
  simp! only [WishD]
  refine ⟨by decide, fun c hc => ?_⟩
  have hne := pool_ne h1 hc
  walk_at "r"
  refine ⟨p, _, rfl, pool_upd hne h1, by decide, by decide, fun r μ2 a2 b2 h2 o2 => ?_⟩
  have hc2' : μ2 c = some (.lst [WishD (sh, ns)]) := oth_cell o2 hne updM_same
  have ho2 : Oth2 μ μ2 p c := (Oth2.new o1).step o2
  have hcm : μ c = none := (o1 c hne).symm.trans hc
  have fin : ∀ (ws : List (D × List Int)) (μ' : M) x4 x5 x6 x7 x8, Pool μ' p → μ' c = some (.lst (ws.map WishD)) → Oth2 μ μ' p c → ws.length ≤ 2 → (∀ vs : List (D × List Int), vs.Perm ws → WishesOk vs) →
      t_law_wishes_4 (ends Q XF) [some (.raw (.ref p)), some (WishD (sh, ns)), some (.raw (.ref c)), some (.int ns.length), x4, x5, x6, x7, x8, none] μ' := fun ws μ' x4 x5 x6 x7 x8 hp' hc' ho' hl hok => by
    simp! only [t_law_wishes_4]
    refine ⟨_, hc', p, _, rfl, pool_del hne hp', by rw [List.length_map]; omega, fun ys μ3 hys h3 o3 => ?_⟩
    obtain ⟨vs, rfl, hv⟩ := perm_map hys
    exact .of (q vs μ3 (hok vs hv) h3 ((ho'.del hcm).trans o3))
  have one : ∀ (μ' : M) x4 x5 x6 x7 x8, Pool μ' p → μ' c = some (.lst [WishD (sh, ns)]) → Oth2 μ μ' p c → t_law_wishes_4 (ends Q XF) [some (.raw (.ref p)), some (WishD (sh, ns)), some (.raw (.ref c)), some (.int ns.length), x4, x5, x6, x7, x8, none] μ' := fun μ' x4 x5 x6 x7 x8 h1 h2 h3 =>
    fin [(sh, ns)] μ' x4 x5 x6 x7 x8 h1 h2 h3 (by simp) fun vs hv => ⟨(sh, ns), hw, .inl (List.perm_singleton.mp hv)⟩
  rw [List.length_map]
  walk_at "r"
  refine ⟨rfl, rfl, ifS_dec (fun hr => ?_) (fun hr => one _ _ _ _ _ _ h2 hc2' ho2)⟩
  rcases hw'.way_or with ⟨m, b, e, F, rfl, hFl, hF7⟩ | ⟨w, rr, rfl, hwo, hww⟩
  · walk_at "r"
    refine ⟨by decide +kernel, by decide +kernel, ?_⟩
    refine ⟨by decide, ⟨by omega, by omega, by show 1 * (ns.length : Int).toNat ≤ sizeLine; omega⟩, fun c2 hc2n => ?_⟩
    have hne2 : c2 ≠ p := pool_ne h2 hc2n
    have hnec : c2 ≠ c := fun z => by rw [z, hc2'] at hc2n; cases hc2n
    have hnec' : c ≠ c2 := fun z => hnec z.symm
    have e0 : (List.replicate (ns.length : Int).toNat [D.int 0]).flatten = (List.replicate ns.length (0 : Int)).map D.int := by rw [List.flatten_replicate_singleton, List.map_replicate, Int.toNat_natCast]
    rw [e0]
    walk_at "r"
    refine ⟨by decide, ⟨by omega, by omega⟩, ?_⟩
    rw [Int.toNat_natCast, range_map0]
    have hz : ∀ q, q ≠ p → q ≠ c → q ≠ c2 → (updM μ2 c2 (.lst ((List.replicate ns.length (0 : Int)).map D.int))) q = μ q := fun q h1 h2 h3 => by rw [updM_ne h3]; exact ho2 q h1 h2
    generalize hμ3 : updM μ2 c2 (.lst ((List.replicate ns.length (0 : Int)).map D.int)) = μ3 at *
    have g3 : Pool μ3 p := by rw [← hμ3]; exact pool_upd hne2 h2
    have g3c : μ3 c = some (.lst [WishD (.tup [.str (PySem.Str.ofString "way"), .int m, tiesD F, .int b, .int e], ns)]) := by rw [← hμ3, updM_ne hnec']; exact hc2'
    have g3c2 : μ3 c2 = some (.lst ((List.replicate ns.length (0 : Int)).map D.int)) := by rw [← hμ3, updM_same]
    refine for_fold (growRound (F.map (·.1))) (List.replicate ns.length 0, [0]) (fun st δ μ' => ∃ x6 x7 x8, δ = [some (.raw (.ref p)), some (WishD (.tup [.str (PySem.Str.ofString "way"), .int m, tiesD F, .int b, .int e], ns)), some (.raw (.ref c)), some (.int ns.length), some (.raw (.ref c2)), some (.lst (st.2.map D.int)), x6, x7, x8, none] ∧
      μ' = updM μ3 c2 (.lst (st.1.map D.int))) ⟨_, _, _, rfl, by rw [← hμ3, updM_upd]⟩ (fun _ _ _ _ => trivial) ?_ ?_
    · rintro pre x post st δ μ' hpre hst ⟨x6, x7, x8, rfl, rfl⟩
      have b1 := grow_len2 (F := F.map (·.1)) pre (List.replicate ns.length 0, [0])
      rw [← hst, List.length_map, List.length_replicate] at b1
      have hpl : pre.length ≤ 16 := by
        have := congrArg List.length hpre
        rw [List.length_range, List.length_append] at this
        omega
      have b2 : st.2.length ≤ 1 + 14 * 16 := by
        have h1 : 2 * F.length * pre.length ≤ 14 * 16 := Nat.mul_le_mul (by omega) hpl
        have h2 := b1.2
        simp only [List.length_cons, List.length_nil] at h2
        omega
      simp! only [WishD, tiesD]
      have ee : enumL 0 (F.map fun x => fr x.1) = (F.map (·.1)).zipIdx.map fun p => .tup [.int ((p.2 : Nat) : Int), fr p.1] := by
        rw [show (F.map fun x => fr x.1) = (F.map (·.1)).map fr by rw [List.map_map]; rfl, enum_map]
      rw [ee]
      refine for_fold growStep st (fun st δ μ' => ∃ x7 x8, δ = [some (.raw (.ref p)), some (WishD (.tup [.str (PySem.Str.ofString "way"), .int m, tiesD F, .int b, .int e], ns)), some (.raw (.ref c)), some (.int ns.length), some (.raw (.ref c2)), some (.lst (st.2.map D.int)), some (.int (x : Int)), x7, x8, none] ∧
        μ' = updM μ3 c2 (.lst (st.1.map D.int))) ⟨_, _, rfl, rfl⟩ (fun _ _ _ _ => trivial) ?_ ?_
      · rintro pre2 ⟨⟨t1, t2⟩, i⟩ post2 st2 δ μ' hpre2 hst2 ⟨x7, x8, rfl, rfl⟩
        have k1 := grow_len1 pre2 st
        rw [← hst2] at k1
        have hi : i < ns.length ∧ pre2.length ≤ 7 := by
          have hl := congrArg List.length hpre2
          rw [List.length_zipIdx, List.length_map, List.length_append, List.length_cons] at hl
          have hm : ((t1, t2), i) ∈ (F.map (·.1)).zipIdx := by rw [hpre2]; simp
          have := List.mem_zipIdx hm
          rw [List.length_map] at this
          omega
        have hl2 : st2.2.length ≤ 1000 := by omega
        simp! only [fr, inD_ints, flatD, flat_ints]
        refine ⟨rfl, rfl, ?_⟩
        by_cases hh : decide (t1 ∈ st2.2) = decide (t2 ∈ st2.2)
        · have e1 : growStep st2 ((t1, t2), i) = st2 := by unfold growStep; exact if_pos hh
          rw [e1, hh]
          walk_at "r"
          exact ⟨_, _, rfl⟩
        · have e1 : growStep st2 ((t1, t2), i) = (st2.1.set i 1, st2.2 ++ [t1, t2].filter fun p => !decide (p ∈ st2.2)) := by unfold growStep; exact if_neg hh
          rw [e1]
          refine ifS_of (fun _ => ?_) (fun z => absurd z (by simpa using hh))
          walk_at "r"
          refine ⟨_, updM_same, ?_⟩
          have hs1 : st2.1.length = ns.length := by rw [k1.1, b1.1]
          rw [List.length_map, ixN_nat (by omega)]
          simp! only [fr]
          rw [updM_upd, ← List.map_set]
          refine comp_filter (p := fun d => match d with | .int a => !decide (a ∈ st2.2) | _ => false) trivial (by show 2 < sizeLine; omega) (fun x hx acc R ha h1 h2 => ?_) ?_
          · simp only [List.mem_cons, List.not_mem_nil, or_false] at hx
            rcases hx with rfl | rfl
            · simp! only [inD_ints, flatD, flat_ints]
              exact kTest_of (fun h => ⟨ha, h1 h⟩) (fun h => h2 h)
            · simp! only [inD_ints, flatD, flat_ints]
              exact kTest_of (fun h => ⟨ha, h1 h⟩) (fun h => h2 h)
          · have e2 : ([D.int t1, D.int t2].filter fun d => match d with | .int a => !decide (a ∈ st2.2) | _ => false) = ([t1, t2].filter fun p => !decide (p ∈ st2.2)).map D.int := by
              rw [List.filter_cons, List.filter_cons, List.filter_nil, List.filter_cons, List.filter_cons, List.filter_nil]
              dsimp only
              split <;> split <;> rfl
            rw [e2]
            have e3 := List.length_filter_le (fun p => !decide (p ∈ st2.2)) [t1, t2]
            simp only [List.length_cons, List.length_nil] at e3
            walk_at "r"
            rw [← List.map_append]
            exact ⟨by rw [List.length_map, List.length_map]; omega, _, _, rfl⟩
      · rintro δ μ' ⟨x7, x8, rfl, rfl⟩
        exact ⟨_, _, _, rfl, rfl⟩
    · rintro δ μ' ⟨x6, x7, x8, rfl, rfl⟩
      have hg : (List.range ns.length).foldl (growRound (F.map (·.1))) (List.replicate ns.length 0, [0]) = grow (F.map (·.1)) ns.length := rfl
      rw [hg]
      generalize hG : grow (F.map (·.1)) ns.length = G at *
      simp! only [WishD]
      have u1 : updM μ3 c2 (.lst (G.1.map D.int)) c = some (.lst [WishD (.tup [.str (PySem.Str.ofString "way"), .int m, tiesD F, .int b, .int e], ns)]) := by rw [updM_ne hnec']; exact g3c
      have pd : Pool (delM (updM μ3 c2 (.lst (G.1.map D.int))) c2) p := pool_del hne2 (pool_upd hne2 g3)
      have u2 : delM (updM μ3 c2 (.lst (G.1.map D.int))) c2 c = some (.lst [WishD (.tup [.str (PySem.Str.ofString "way"), .int m, tiesD F, .int b, .int e], ns)]) := by
        unfold delM
        rw [if_neg hnec']
        exact u1
      refine ⟨isL_cell u1, by decide, _, updM_same, by decide, _, u2, by show 1 < sizeLine; omega, ?_⟩
      refine fin [(.tup [.str (PySem.Str.ofString "way"), .int m, tiesD F, .int b, .int e], ns), (.tup [.str (PySem.Str.ofString "tree"), .int m, tiesD F], G.1)] _ _ _ _ _ _ (pool_upd hne pd) updM_same ?_ (by simp) fun vs hv => ⟨_, hw, .inr ⟨_, ?_, hv⟩⟩
      · intro z h1 h2
        rw [updM_ne h2]
        unfold delM
        split
        · rename_i e
          subst e
          have := ho2 z h1 h2
          rw [hc2n] at this
          exact this
        · rename_i e
          rw [updM_ne e]
          exact hz z h1 h2 e
      · exact hG ▸ .tree hFl
  · have hwq : eqD (.str w) (.str (PySem.Str.ofString "way")) = false := by rw [eqD_str]; exact decide_eq_false hww
    walk_at "r"
    refine ⟨hwo, by decide +kernel, ifS_dec (fun z => absurd z hww) (fun _ => ?_)⟩
    walk_at "r"
    refine ifS_dec (fun h5 => ?_) (fun _ => one _ _ _ _ _ _ h2 hc2' ho2)
    walk_at "r"
    refine ⟨isL_cell hc2', p, _, rfl, by omega, by omega, h2, fun x μ3 hx h3 o3 => ?_⟩
    walk_at "r"
    refine ⟨_, oth_cell o3 hne hc2', by show 1 < sizeLine; omega, ?_⟩
    exact fin [(.tup (.str w :: rr), ns), x] _ _ _ _ _ _ (pool_upd hne h3) updM_same (ho2.step o3).put (by simp) fun vs hv => ⟨_, hw, .inr ⟨_, .bench hww hx, hv⟩⟩
theorem Beside.len {w w2 : D × List Int} (h : Beside w w2) : w2.2.length = w.2.length := by
  cases h with
  | tree h =>
    rename_i m b e F ns
    show (grow (F.map (·.1)) ns.length).1.length = ns.length
    unfold grow
    rw [(grow_len2 (F := F.map (·.1)) _ _).1, List.length_replicate]
  | bench _ h =>
    have h2 := h.2.1
    dsimp only
    omega
theorem Beside.head {w w2 : D × List Int} (h : Beside w w2) : ∃ x r, w2.1 = .tup (.str x :: r) := by
  cases h with
  | tree h => exact ⟨_, _, rfl⟩
  | bench _ h =>
    obtain ⟨_, _, ls, e⟩ := h
    exact ⟨_, _, e⟩
structure WsFacts (ws : List (D × List Int)) (n : Nat) : Prop where
  n1 : 1 ≤ n
  n2 : n ≤ 16
  ne : ws ≠ []
  l2 : ws.length ≤ 2
  len : ∀ w ∈ ws, w.2.length = n
  head : ∀ w ∈ ws, ∃ x r, w.1 = .tup (.str x :: r)
theorem WishesOk.facts {ws : List (D × List Int)} (h : WishesOk ws) : ∃ n, WsFacts ws n := by
  obtain ⟨w, hw, h⟩ := h
  have hc := Wish.cnts hw
  have hh : ∃ x r, w.1 = .tup (.str x :: r) := (Wish.facts hw).tup
  refine ⟨w.2.length, hc.ne, hc.le, ?_, ?_, ?_, ?_⟩
  · rcases h with rfl | ⟨w2, _, hp⟩
    · simp
    · intro e
      rw [e] at hp
      exact absurd hp.length_eq (by simp)
  · rcases h with rfl | ⟨w2, _, hp⟩
    · simp
    · rw [hp.length_eq]; simp
  · intro v hv
    rcases h with rfl | ⟨w2, hb, hp⟩
    · rw [List.mem_singleton.mp hv]
    · have := hp.mem_iff.mp hv
      simp only [List.mem_cons, List.not_mem_nil, or_false] at this
      rcases this with rfl | rfl
      · rfl
      · exact hb.len
  · intro v hv
    rcases h with rfl | ⟨w2, hb, hp⟩
    · rw [List.mem_singleton.mp hv]; exact hh
    · have := hp.mem_iff.mp hv
      simp only [List.mem_cons, List.not_mem_nil, or_false] at this
      rcases this with rfl | rfl
      · exact hh
      · exact hb.head
def wordW (w : D × List Int) : Str := match w.1 with
  | .tup (.str x :: _) => x
  | _ => PySem.Str.ofString ""
theorem in_words : ∀ {ws : List (D × List Int)}, (∀ w ∈ ws, ∃ x r, w.1 = .tup (.str x :: r)) → inD (.str (PySem.Str.ofString "way")) (ws.map fun w => D.str (wordW w)) = ws.any wayW
  | [], _ => rfl
  | w :: ws, h => by
    have ih := in_words (ws := ws) fun v hv => h v (List.mem_cons_of_mem _ hv)
    obtain ⟨x, r, e⟩ := h w List.mem_cons_self
    unfold inD at ih ⊢
    rw [List.map_cons, List.any_cons, List.any_cons, ih, eqD_str]
    unfold wordW wayW
    rw [e]
theorem flat_words {ws : List (D × List Int)} : (ws.map fun w => D.str (wordW w)).all flatD = true := by
  rw [List.all_map]
  exact List.all_eq_true.mpr fun x _ => rfl
theorem hb_law_task : HB c_task t_law_task 12 := by
  intro ds μ Q X h
  obtain ⟨p, rfl, hp, q⟩ := h
  show t_law_task (ends Q XF) [some (.raw (.ref p)), none, none, none, none, none, none, none, none, none, none, none] μ
  have sz : 16777216 ≤ sizeLine := by decide
  simp! only [t_law_task]
  refine ⟨p, rfl, hp, fun ws μ1 hws h1 o1 => ?_⟩
  obtain ⟨n, hf⟩ := hws.facts
  have n1 := hf.n1
  have n2 := hf.n2
  obtain ⟨w0, hw0, at0⟩ : ∃ w0, w0 ∈ ws ∧ atI (ws.map WishD) 0 = some (WishD w0) := by
    cases ws with
    | nil => exact absurd rfl hf.ne
    | cons a b => exact ⟨a, List.mem_cons_self, atI_zero⟩
  have e0 : ((w0.2.length : Nat) : Int) = n := by rw [hf.len w0 hw0]
  simp! only [at0, WishD]
  rw [List.length_map, e0]
  refine comp_pure (xs := ws) (enc := WishD) (g := fun w => .str (wordW w)) trivial (by have := hf.l2; omega) (fun w hw acc R ha hR => ?_) ?_
  · obtain ⟨x, r, e⟩ := hf.head w hw
    have e2 : wordW w = x := by unfold wordW; rw [e]
    rw [e2] at hR
    simp! only [WishD, e]
    exact ⟨ha, hR⟩
  simp! only [in_words hf.head, flat_words, flatD]
  generalize hW : ws.any wayW = W at *
  refine ⟨⟨by omega, by omega⟩, ?_⟩
  rw [Int.toNat_natCast, range_map0]
  refine comp_draw (xs := List.range n) (enc := fun i : Nat => D.int (i : Int)) (p := p) (P := fun _ f => Ok 5 f ∧ 0 ≤ f.1) (g := fr) (fun _ _ => trivial) h1 (by rw [List.length_range]; omega) (fun x hx acc R μ' hp' o' ha hR => ?_) (fun fs μ2 hfs h2 o2 => ?_)
  · walk_at "r"
    exact ⟨p, rfl, hp', fun f μ3 hf h3 o3 => ⟨ha, hR f μ3 hf h3 o3⟩⟩
  have hfl : fs.length = n := by rw [hfs.1, List.length_range]
  have hfo : ∀ f ∈ fs, Ok 5 f ∧ 0 ≤ f.1 := fun f hf => (hfs.mem hf).elim fun _ z => z.2
  have o12 := o1.trans o2
  have fin8 : ∀ (fs : List Fc) (bs : List (Option Fc × Option Fc)) (x5 : Option D) (μ' : M), fs.length = n → (∀ f ∈ fs, Ok 9 f) → (W = true → ∀ f ∈ fs, 0 ≤ f.1) → All2 (BndOk W) fs bs → Pool μ' p → Oth μ μ' p →
      t_law_task_8 (ends Q XF) [some (.raw (.ref p)), some (.lst (ws.map WishD)), some (.int n), some (.bl W), some (.lst (fs.map fr)), x5, some (.lst (bs.map bndD)), none, none, none, none, none] μ' := fun fs bs x5 μ' hl hk hk2 hb hp' ho' => by
    simp! only [t_law_task_8]
    refine comp_draw (xs := fs) (enc := fr) (p := p) (P := fun _ w => WgtOk w) (g := wgtD) (fun _ _ => trivial) hp' (by omega) (fun x hx acc R μ' hp' o' ha hR => ?_) (fun gs μ4 hgs h4 o4 => ?_)
    · walk_at "r"
      exact ⟨p, rfl, hp', fun f μ3 hf h3 o3 => ⟨ha, hR f μ3 hf h3 o3⟩⟩
    walk_at "r"
    refine ⟨by decide, p, _, rfl, h4, by decide, by decide, fun r μ5 a5 b5 h5 o5 => ?_⟩
    obtain ⟨x, ex, hx⟩ := atI_lt (xs := [D.str (PySem.Str.ofString "sum"), D.str (PySem.Str.ofString "greatest")]) a5 (by show r < 2; exact b5)
    obtain ⟨wd, rfl, hwd⟩ : ∃ wd, x = .str wd ∧ (wd = PySem.Str.ofString "sum" ∨ wd = PySem.Str.ofString "greatest") := by
      have hr : r.toNat = 0 ∨ r.toNat = 1 := by omega
      rcases hr with e | e <;> rw [e] at hx <;> cases hx
      · exact ⟨_, rfl, .inl rfl⟩
      · exact ⟨_, rfl, .inr rfl⟩
    simp! only [ex]
    refine ⟨by decide, .of (q ⟨fs, ws, bs, gs, wd⟩ μ5 ⟨hws, fun w hw => by rw [hf.len w hw]; exact hl.symm, by show 1 ≤ fs.length; omega, by show fs.length ≤ 16; omega, hk, fun z => hk2 (hW ▸ z), by show All2 (BndOk (ws.any wayW)) fs bs; rw [hW]; exact hb, by show gs.length = fs.length; exact hgs.1, fun w hw => (hgs.mem hw).elim fun _ z => z.2, hwd⟩ h5 ((ho'.trans o4).trans o5))⟩
  have fin5 : ∀ (fs : List Fc) (μ' : M), fs.length = n → (∀ f ∈ fs, Ok 9 f) → (W = true → ∀ f ∈ fs, 0 ≤ f.1) → Pool μ' p → Oth μ μ' p →
      t_law_task_5 (ends Q XF) [some (.raw (.ref p)), some (.lst (ws.map WishD)), some (.int n), some (.bl W), some (.lst (fs.map fr)), none, none, none, none, none, none, none] μ' := fun fs μ' hl hk hk2 hp' ho' => by
    simp! only [t_law_task_5]
    refine ⟨p, _, rfl, hp', by decide, by decide, fun r μ3 a3 b3 h3 o3 => ?_⟩
    walk_at "r"
    refine comp_draw (xs := fs) (enc := fr) (p := p) (P := BndOk W) (g := bndD) (fun _ _ => trivial) h3 (by omega) (fun x hx acc R μ' hp' o' ha hR => ?_) (fun bs μ4 hbs h4 o4 => ?_)
    · walk_at "r"
      exact ⟨p, x, W, rfl, hk x hx, fun z => hk2 z x hx, hp', fun f μ3 hf h3 o3 => ⟨ha, hR f μ3 hf h3 o3⟩⟩
    have o34 := (ho'.trans o3).trans o4
    walk_at "r"
    refine ⟨rfl, rfl, ifS_dec (fun _ => ?_) (fun _ => fin8 fs bs _ μ4 hl hk hk2 hbs h4 o34)⟩
    walk_at "r"
    have z : ∀ f ∈ fs, BndOk W f ((if W then some (0, 1) else none : Option Fc), none) := fun f hf => by
      cases W with
      | false => exact ⟨(fun k e => by cases e), (fun k e => by cases e), (fun e => by cases e)⟩
      | true => exact ⟨(fun k e => by cases e; exact ⟨ok_zero.mono (by decide), by have := hk2 rfl f hf; show 0 * f.2 ≤ f.1 * 1; omega⟩), (fun k e => by cases e), (fun _ => ⟨_, rfl, by decide⟩)⟩
    refine comp_pure (enc := fr) (g := fun _ => bndD ((if W then some (0, 1) else none : Option Fc), none)) trivial (by omega) (fun x hx acc R ha hR => ?_) ?_
    · cases W with
      | false =>
        walk_at "r"
        exact ⟨by decide, by decide, by decide, ha, hR⟩
      | true =>
        walk_at "r"
        exact ⟨by decide, by decide, by decide, ha, hR⟩
    walk_at "r"
    have e5 : (fs.map fun _ => bndD ((if W then some (0, 1) else none : Option Fc), none)) = (fs.map fun _ => ((if W then some (0, 1) else none : Option Fc), (none : Option Fc))).map bndD := by rw [List.map_map]; rfl
    rw [e5]
    refine fin8 fs _ _ μ4 hl hk hk2 ⟨by rw [List.length_map], fun i x y h1 h2 => ?_⟩ h4 o34
    rw [List.getElem?_map] at h2
    obtain ⟨f, _, rfl⟩ := Option.map_eq_some_iff.mp h2
    exact z x (List.mem_of_getElem? h1)
  cases W with
  | true =>
    exact fin5 fs μ2 hfl (fun f hf => (hfo f hf).1.mono (by decide)) (fun _ f hf => (hfo f hf).2) h2 o12
  | false =>
    walk_at "r"
    refine ⟨p, _, rfl, h2, by decide, by decide, fun r μ3 a3 b3 h3 o3 => ?_⟩
    walk_at "r"
    refine ⟨rfl, rfl, ifS_dec (fun _ => ?_) (fun _ => fin5 fs μ3 hfl (fun f hf => (hfo f hf).1.mono (by decide)) (fun z => by cases z) h3 (o12.trans o3))⟩
    walk_at "r"
    have ok4 : Ok 3 ((4, 1) : Fc) := ⟨by decide, by decide, by decide, by decide⟩
    refine comp_pure (enc := fr) (g := fun f => fr (subF f (4, 1))) trivial (by omega) (fun f hf acc R ha hR => ?_) ?_
    · walk_at "r"
      exact ⟨by decide, f, (4, 1), rfl, Ok.sz (hfo f hf).1 (by decide), Ok.sz ok4 (by decide), ha, hR⟩
    walk_at "r"
    have e5 : (fs.map fun f => fr (subF f (4, 1))) = (fs.map fun f => subF f (4, 1)).map fr := by rw [List.map_map]; rfl
    rw [e5]
    refine fin5 _ μ3 (by rw [List.length_map]; exact hfl) (fun f hf => ?_) (fun z => by cases z) h3 (o12.trans o3)
    obtain ⟨g, hg, rfl⟩ := List.mem_map.mp hf
    exact ok_sub (hfo g hg).1 ok4
end NB
set_option Elab.async false
set_option linter.all false
set_option maxRecDepth 100000
set_option maxHeartbeats 2000000
set_option exponentiation.threshold 20000
/-! Shapes with a type of their own. -/
namespace NB
open PySem PySem.Spec L2 DL Fr
abbrev Tis := List (Int × Int)
inductive Shp where
  | way (m : Int) (ts : Tis) (b e : Int) | tree (m : Int) (ts : Tis) | pair (m : Int) (ts : Tis) | deal (rs : List Int) (w : Int) | stream (m : Int) (ts : Tis) (rs ns : List Int) | bench (ls : List Int)
def tisD (ts : Tis) : D := .tup (ts.map fr)
def intsT (ns : List Int) : D := .tup (ns.map D.int)
def Shp.word : Shp → Str
  | .way _ _ _ _ => PySem.Str.ofString "way"
  | .tree _ _ => PySem.Str.ofString "tree"
  | .pair _ _ => PySem.Str.ofString "pair"
  | .deal _ _ => PySem.Str.ofString "deal"
  | .stream _ _ _ _ => PySem.Str.ofString "stream"
  | .bench _ => PySem.Str.ofString "bench"
def Shp.rest : Shp → List D
  | .way m ts b e => [.int m, tisD ts, .int b, .int e]
  | .tree m ts => [.int m, tisD ts]
  | .pair m ts => [.int m, tisD ts]
  | .deal rs w => [intsT rs, .int w]
  | .stream m ts rs ns => [.int m, tisD ts, intsT rs, intsT ns]
  | .bench ls => [intsT ls]
def Shp.d (s : Shp) : D := .tup (.str s.word :: s.rest)
def InP (m : Int) (t : Int × Int) : Prop := 0 ≤ t.1 ∧ t.1 < m ∧ 0 ≤ t.2 ∧ t.2 < m
structure Web (m : Int) (ts : Tis) : Prop where
  m2 : 2 ≤ m
  m10 : m ≤ 10
  l1 : 1 ≤ ts.length
  l16 : ts.length ≤ 16
  tie : ∀ t ∈ ts, Tie m t
def Shp.Ok : Shp → Prop
  | .way m ts b e => Web m ts ∧ (0 ≤ b ∧ b < m) ∧ (0 ≤ e ∧ e < m) ∧ b ≠ e
  | .tree m ts => Web m ts
  | .pair m ts => (1 ≤ m ∧ m ≤ 6) ∧ (1 ≤ ts.length ∧ ts.length ≤ 16) ∧ ∀ t ∈ ts, InP m t
  | .deal rs w => (1 ≤ rs.length ∧ rs.length ≤ 4) ∧ (∀ r ∈ rs, 0 ≤ r ∧ r ≤ 6) ∧ (1 ≤ w ∧ w ≤ 6) ∧ (rs.length : Int) * w ≤ 16
  | .stream m ts rs ns => Web m ts ∧ rs.length = ts.length ∧ (∀ r ∈ rs, 1 ≤ r ∧ r ≤ 9) ∧ (ns.length : Int) = m ∧ (∀ n ∈ ns, -9 ≤ n ∧ n ≤ 9) ∧ ns.sum = 0
  | .bench ls => (1 ≤ ls.length ∧ ls.length ≤ 8) ∧ ∀ l ∈ ls, 1 ≤ l ∧ l ≤ 9
def Shp.items : Shp → Int
  | .way _ ts _ _ => ts.length
  | .tree _ ts => ts.length
  | .pair _ ts => ts.length
  | .deal rs w => rs.length * w
  | .stream _ ts _ _ => ts.length
  | .bench ls => ls.length
theorem withinB_iff {lo hi : Int} {d : D} : withinB lo hi d = true ↔ ∃ i, d = .int i ∧ lo ≤ i ∧ i ≤ hi := by
  constructor
  · intro h
    cases d with
    | int i =>
      rw [withinB, Bool.and_eq_true] at h
      exact ⟨i, rfl, of_decide_eq_true h.1, of_decide_eq_true h.2⟩
    | _ => cases h
  · rintro ⟨i, rfl, h1, h2⟩
    exact within_of h1 h2
theorem all_within : ∀ {lo hi : Int} {xs : List D}, xs.all (withinB lo hi) = true → ∃ ns : List Int, xs = ns.map D.int ∧ ∀ n ∈ ns, lo ≤ n ∧ n ≤ hi
  | _, _, [], _ => ⟨[], rfl, by simp⟩
  | lo, hi, x :: xs, h => by
    rw [List.all_cons, Bool.and_eq_true] at h
    obtain ⟨i, rfl, h1, h2⟩ := withinB_iff.mp h.1
    obtain ⟨ns, rfl, h3⟩ := all_within h.2
    exact ⟨i :: ns, rfl, fun n hn => by
      rcases List.mem_cons.mp hn with e | hn
      · rw [e]; exact ⟨h1, h2⟩
      · exact h3 n hn⟩
theorem areWithinB_iff {m lo hi : Int} {d : D} : areWithinB m lo hi d = true ↔ ∃ ns : List Int, d = intsT ns ∧ (ns.length : Int) = m ∧ ∀ n ∈ ns, lo ≤ n ∧ n ≤ hi := by
  constructor
  · intro h
    cases d with
    | tup xs =>
      rw [areWithinB, Bool.and_eq_true] at h
      obtain ⟨ns, rfl, h2⟩ := all_within h.2
      exact ⟨ns, rfl, by have := of_decide_eq_true h.1; rwa [List.length_map] at this, h2⟩
    | _ => cases h
  · rintro ⟨ns, rfl, h1, h2⟩
    exact areWithin_of h1 h2
theorem tieB_iff {m : Int} {u : Bool} {d : D} : tieB m u d = true ↔ ∃ t : Int × Int, d = fr t ∧ InP m t ∧ (u = true → t.1 ≠ t.2) := by
  constructor
  · intro h
    unfold tieB at h
    rw [Bool.and_eq_true] at h
    obtain ⟨ns, rfl, hl, hn⟩ := areWithinB_iff.mp h.1
    match ns, hl with
    | [a, b], _ =>
      have ha := hn a (by simp)
      have hb := hn b (by simp)
      refine ⟨(a, b), rfl, ⟨by show 0 ≤ a; omega, by show a < m; omega, by show 0 ≤ b; omega, by show b < m; omega⟩, fun hu e => ?_⟩
      have h2 := h.2
      have : sameB (intsT [a, b]) = true := by
        show eqD (.int a) (.int b) = true
        rw [eqD_int]
        exact decide_eq_true e
      rw [hu, this] at h2
      cases h2
    | [], hl => exact absurd hl (by decide)
    | [_], hl => simp at hl
    | _ :: _ :: _ :: _, hl => simp at hl; omega
  · rintro ⟨t, rfl, h1, h2⟩
    exact tieB_of h1 h2
theorem all_ties : ∀ {m : Int} {u : Bool} {xs : List D}, xs.all (tieB m u) = true → ∃ ts : Tis, xs = ts.map fr ∧ ∀ t ∈ ts, InP m t ∧ (u = true → t.1 ≠ t.2)
  | _, _, [], _ => ⟨[], rfl, by simp⟩
  | m, u, x :: xs, h => by
    rw [List.all_cons, Bool.and_eq_true] at h
    obtain ⟨t, rfl, h1⟩ := tieB_iff.mp h.1
    obtain ⟨ts, rfl, h3⟩ := all_ties h.2
    exact ⟨t :: ts, rfl, fun n hn => by
      rcases List.mem_cons.mp hn with e | hn
      · rw [e]; exact h1
      · exact h3 n hn⟩
theorem areTiesB_iff {m : Int} {u : Bool} {d : D} : areTiesB m u d = true ↔ ∃ ts : Tis, d = tisD ts ∧ (1 ≤ ts.length ∧ ts.length ≤ 16) ∧ ∀ t ∈ ts, InP m t ∧ (u = true → t.1 ≠ t.2) := by
  constructor
  · intro h
    cases d with
    | tup xs =>
      rw [areTiesB, Bool.and_eq_true, Bool.and_eq_true] at h
      obtain ⟨ts, rfl, h2⟩ := all_ties h.2
      have a := of_decide_eq_true h.1.1
      have b := of_decide_eq_true h.1.2
      rw [List.length_map] at a b
      exact ⟨ts, rfl, ⟨by omega, by omega⟩, h2⟩
    | _ => cases h
  · rintro ⟨ts, rfl, ⟨h1, h2⟩, h3⟩
    unfold tisD areTiesB
    dsimp only
    rw [List.length_map, decide_eq_true (show (1 : Int) ≤ ts.length by omega), decide_eq_true (show (ts.length : Int) ≤ 16 by omega), Bool.true_and, Bool.true_and]
    refine List.all_eq_true.mpr fun d hd => ?_
    obtain ⟨x, hx, rfl⟩ := List.mem_map.mp hd
    exact tieB_of (h3 x hx).1 (h3 x hx).2
theorem webB_iff {n : Int} {xs : List D} (hn : 3 ≤ n) : webB n xs = true ↔ ∃ w m ts r, xs = w :: .int m :: tisD ts :: r ∧ (r.length : Int) = n - 3 ∧ Web m ts := by
  constructor
  · intro h
    unfold webB at h
    rw [Bool.and_eq_true, Bool.and_eq_true] at h
    have hl := of_decide_eq_true h.1
    match xs, hl with
    | a :: b :: c :: r, hl =>
      obtain ⟨m, hb, h1, h2⟩ := withinB_iff.mp (show withinB 2 10 b = true from h.2.1)
      subst hb
      obtain ⟨ts, hc, h3, h4⟩ := areTiesB_iff.mp (show areTiesB m true c = true from h.2.2)
      subst hc
      simp at hl
      exact ⟨a, m, ts, r, rfl, by omega, h1, h2, h3.1, h3.2, fun t ht => ⟨(h4 t ht).1.1, (h4 t ht).1.2.1, (h4 t ht).1.2.2.1, (h4 t ht).1.2.2.2, (h4 t ht).2 rfl⟩⟩
    | [], hl => simp at hl; omega
    | [_], hl => simp at hl; omega
    | [_, _], hl => simp at hl; omega
  · rintro ⟨w, m, ts, r, rfl, hr, hw⟩
    unfold webB
    rw [show itm (w :: .int m :: tisD ts :: r) 1 = .int m from rfl, show itm (w :: .int m :: tisD ts :: r) 2 = tisD ts from rfl, within_of hw.m2 hw.m10, decide_eq_true (show ((w :: .int m :: tisD ts :: r : List D).length : Int) = n by simp; omega)]
    rw [show areTiesB (numOf (.int m)) true (tisD ts) = true from areTiesB_iff.mpr ⟨ts, rfl, ⟨hw.l1, hw.l16⟩, fun t ht => by have := hw.tie t ht; exact ⟨⟨this.1, this.2.1, this.2.2.1, this.2.2.2.1⟩, fun _ => this.2.2.2.2⟩⟩]
    rfl
theorem shp_of {d : D} (h : shapeB d = true) : ∃ s : Shp, d = s.d ∧ s.Ok := by
  cases d with
  | tup xs =>
    cases xs with
    | nil => cases h
    | cons w xs =>
      replace h : kindB w (w :: xs) = true := h
      cases w with
      | str w =>
        unfold kindB at h
        dsimp only at h
        split at h
        · rename_i e
          subst e
          unfold wayB at h
          rw [Bool.and_eq_true, Bool.and_eq_true] at h
          obtain ⟨w', m, ts, r, e, hr, hw⟩ := (webB_iff (by decide)).mp h.1
          cases e
          obtain ⟨ns, en, hl, hn⟩ := areWithinB_iff.mp h.2.1
          have en' : r = ns.map D.int := by injection en
          match ns, hl with
          | [b, e], _ =>
            subst en'
            have hb := hn b (by simp)
            have he := hn e (by simp)
            have hm : numOf (itm (D.str (PySem.Str.ofString "way") :: D.int m :: tisD ts :: [b, e].map D.int) 1) = m := rfl
            rw [hm] at hb he
            have hne := h.2.2
            refine ⟨.way m ts b e, rfl, hw, ⟨hb.1, by omega⟩, ⟨he.1, by omega⟩, fun z => ?_⟩
            subst z
            have : eqD (itm (D.str (PySem.Str.ofString "way") :: D.int m :: tisD ts :: [b, b].map D.int) 3) (itm (D.str (PySem.Str.ofString "way") :: D.int m :: tisD ts :: [b, b].map D.int) 4) = true := by
              show eqD (.int b) (.int b) = true
              rw [eqD_int]; simp
            rw [this] at hne
            cases hne
          | [], hl => exact absurd hl (by decide)
          | [_], hl => simp at hl
          | _ :: _ :: _ :: _, hl => simp at hl; omega
        · split at h
          · rename_i e
            subst e
            obtain ⟨w', m, ts, r, e, hr, hw⟩ := (webB_iff (by decide)).mp h
            cases e
            have : r = [] := by cases r with | nil => rfl | cons _ _ => simp at hr; omega
            subst this
            exact ⟨.tree m ts, rfl, hw⟩
          · split at h
            · rename_i e
              subst e
              unfold streamB at h
              split at h
              · rename_i w' m ts r n e
                cases e
                rw [Bool.and_eq_true, Bool.and_eq_true, Bool.and_eq_true] at h
                obtain ⟨w', m', ts', r', e, hr, hw⟩ := (webB_iff (by decide)).mp h.1
                cases e
                obtain ⟨rs, e1, l1, b1⟩ := areWithinB_iff.mp h.2.1
                obtain ⟨ns, e2, l2, b2⟩ := areWithinB_iff.mp h.2.2.1
                subst e1 e2
                have hs := of_decide_eq_true h.2.2.2
                refine ⟨.stream m ts' rs ns, rfl, hw, by rw [List.length_map] at l1; omega, b1, l2, b2, ?_⟩
                have : ((ns.map D.int).map numOf).sum = 0 := hs
                rwa [List.map_map, show (numOf ∘ D.int) = id from rfl, List.map_id] at this
              · cases h
            · unfold restB at h
              dsimp only at h
              split at h
              · rename_i e
                subst e
                unfold pairB at h
                split at h
                · rename_i w' m t e
                  cases e
                  rw [Bool.and_eq_true] at h
                  obtain ⟨i, ei, h1, h2⟩ := withinB_iff.mp h.1
                  cases ei
                  obtain ⟨ts, rfl, h3, h4⟩ := areTiesB_iff.mp h.2
                  exact ⟨.pair m ts, rfl, ⟨h1, h2⟩, h3, fun t ht => (h4 t ht).1⟩
                · cases h
              · split at h
                · rename_i e
                  subst e
                  unfold dealB at h
                  split at h
                  · rename_i w' rs v e
                    cases e
                    rw [Bool.and_eq_true, Bool.and_eq_true, Bool.and_eq_true, Bool.and_eq_true] at h
                    obtain ⟨ns, en, l1, b1⟩ := areWithinB_iff.mp h.2.1
                    have en' : rs = ns.map D.int := by injection en
                    subst en'
                    obtain ⟨i, ei, h1, h2⟩ := withinB_iff.mp h.2.2.1
                    cases ei
                    have a := of_decide_eq_true h.1.1
                    have b := of_decide_eq_true h.1.2
                    have c := of_decide_eq_true h.2.2.2
                    rw [List.length_map] at a b c
                    exact ⟨.deal ns v, rfl, ⟨by omega, by omega⟩, b1, ⟨h1, h2⟩, c⟩
                  · cases h
                · split at h
                  · rename_i e
                    subst e
                    unfold benchB at h
                    split at h
                    · rename_i w' ls e
                      cases e
                      rw [Bool.and_eq_true, Bool.and_eq_true] at h
                      obtain ⟨ns, en, l1, b1⟩ := areWithinB_iff.mp h.2
                      have en' : ls = ns.map D.int := by injection en
                      subst en'
                      have a := of_decide_eq_true h.1.1
                      have b := of_decide_eq_true h.1.2
                      rw [List.length_map] at a b
                      exact ⟨.bench ns, rfl, ⟨by omega, by omega⟩, b1⟩
                    · cases h
                  · cases h
      | _ => cases h
  | _ => cases h
theorem shapeI_items {s : Shp} {n : Int} (h : ShapeI s.d n) : n = s.items := by
  rcases h with ⟨w, m, ts, r, e, hw, rfl⟩ | ⟨rs, v, e, _, _, _, rfl⟩ | ⟨ls, e, rfl⟩
  · cases s with
    | way m ts b e' => cases e; show (((ts.map fr).length : Nat) : Int) = ts.length; rw [List.length_map]
    | tree m ts => cases e; show (((ts.map fr).length : Nat) : Int) = ts.length; rw [List.length_map]
    | pair m ts => cases e; show (((ts.map fr).length : Nat) : Int) = ts.length; rw [List.length_map]
    | stream m ts rs ns => cases e; show (((ts.map fr).length : Nat) : Int) = ts.length; rw [List.length_map]
    | deal rs v => cases e
    | bench ls => cases e
  · cases s with
    | deal rs v => cases e; show (((rs.map D.int).length : Nat) : Int) * v = rs.length * v; rw [List.length_map]
    | _ =>
      exfalso
      injection e with e
      injection e with e1 e2
      injection e1 with e1
      dsimp only [Shp.word] at e1
      revert e1
      decide +kernel
  · cases s with
    | bench ls => cases e; show (((ls.map D.int).length : Nat) : Int) = ls.length; rw [List.length_map]
    | _ =>
      exfalso
      injection e with e
      injection e with e1 e2
      injection e1 with e1
      dsimp only [Shp.word] at e1
      revert e1
      decide +kernel
theorem Wish.shp {d : D} {ns : List Int} (h : Wish d ns) : ∃ s : Shp, d = s.d ∧ s.Ok ∧ s.items = ns.length := by
  have f := h.facts
  obtain ⟨s, rfl, ok⟩ := shp_of f.shape
  exact ⟨s, rfl, ok, (shapeI_items f.items).symm⟩
theorem tiesD_tis {F : List ((Int × Int) × Int)} : tiesD F = tisD (F.map (·.1)) := by
  unfold tiesD tisD
  rw [List.map_map]
  rfl
theorem tisD_inj {a b : Tis} (h : tisD a = tisD b) : a = b := by
  unfold tisD at h
  injection h with h
  have : ∀ (a b : Tis), a.map fr = b.map fr → a = b := by
    intro a
    induction a with
    | nil => intro b h; cases b with | nil => rfl | cons _ _ => cases h
    | cons x a ih =>
      intro b h
      cases b with
      | nil => cases h
      | cons y b =>
        rw [List.map_cons, List.map_cons] at h
        injection h with h1 h2
        rw [ih b h2]
        obtain ⟨x1, x2⟩ := x
        obtain ⟨y1, y2⟩ := y
        unfold fr at h1
        injection h1 with h1
        injection h1 with e1 h1
        injection h1 with e2 _
        injection e1 with e1
        injection e2 with e2
        dsimp only at e1 e2
        rw [e1, e2]
  exact this a b h
theorem Beside.shp {w w2 : D × List Int} (hw : Wish w.1 w.2) (h : Beside w w2) : ∃ s : Shp, w2.1 = s.d ∧ s.Ok ∧ s.items = w2.2.length := by
  have hl := h.len
  cases h with
  | tree e =>
    rename_i m b e' F ns
    obtain ⟨s, es, ok, it⟩ := Wish.shp hw
    cases s with
    | way m2 ts b2 e2 =>
      have es' : D.tup [.str (PySem.Str.ofString "way"), .int m, tiesD F, .int b, .int e'] = D.tup [.str (PySem.Str.ofString "way"), .int m2, tisD ts, .int b2, .int e2] := es
      rw [tiesD_tis] at es'
      injection es' with es'
      injection es' with _ es'
      injection es' with e3 es'
      injection es' with e4 es'
      injection e3 with e3
      have e5 := tisD_inj e4
      refine ⟨.tree m2 ts, ?_, ok.1, ?_⟩
      · show D.tup [.str (PySem.Str.ofString "tree"), .int m, tiesD F] = D.tup [.str (PySem.Str.ofString "tree"), .int m2, tisD ts]
        rw [tiesD_tis, e3, e5]
      · rw [hl]
        exact it
    | _ =>
      exfalso
      injection es with e
      injection e with e1 e2
      injection e1 with e1
      dsimp only [Shp.word] at e1
      revert e1
      decide +kernel
  | bench hh hb => exact Wish.shp hb.1
theorem WishesOk.shp {ws : List (D × List Int)} (h : WishesOk ws) : ∀ w ∈ ws, ∃ s : Shp, w.1 = s.d ∧ s.Ok ∧ s.items = w.2.length := by
  obtain ⟨w, hw, h⟩ := h
  intro v hv
  rcases h with rfl | ⟨w2, hb, hp⟩
  · rw [List.mem_singleton.mp hv]; exact Wish.shp hw
  · have := hp.mem_iff.mp hv
    simp only [List.mem_cons, List.not_mem_nil, or_false] at this
    rcases this with rfl | rfl
    · exact Wish.shp hw
    · exact hb.shp hw
end NB
set_option Elab.async false
set_option linter.all false
set_option maxRecDepth 100000
set_option maxHeartbeats 2000000
/-! A caught error that outlives its suite. -/
namespace DL
open PySem PySem.Spec PyProof.Rows L2
def exH (cls : Value) (a : Addr) (d : Option Addr) : HO := .ext (ExP cls a d)
theorem exH_ok {P : Program} {w : World} {H : Hp} {h : Heap} {a : Addr} {cls : Value} {d : Option Addr} (x : ExP cls a d h) : ObjOk P w H h a (exH cls a d) := by
  obtain ⟨oe, vs, e, r⟩ := x
  exact ⟨⟨oe, vs, e, r⟩, ⟨oe, e⟩, fun _ _ ⟨o, v, q, z⟩ k => ⟨o, v, k o q, z⟩⟩
section
variable {X : Cx} {pins : List (Addr × Obj)} {σ : L2.St} {H : Hp} {s : Shared}
/-- an object that came behind the entry is tracked from here on -/
theorem track {a : Addr} {o : HO} (I : Inv X pins σ H s) (h0 : X.s_0.heap.get? a = none) (na : H a = none) (nL : a ≠ X.env.locals) (nC : ∀ y c, X.env.cells.lookup y = some c → c ≠ a) (nP : ∀ p ∈ X.pn ++ pins, p.1 ≠ a)
    (new : ObjOk X.prog X.w (upd H a o) s.heap a o) : Inv X pins σ (upd H a o) s := by
  have old : ∀ b u, X.s_0.heap.get? b = some u → b ≠ a := fun b u e z => by rw [z, h0] at e; cases e
  have b1 := I.base
  refine { ok := I.ok, os := I.os, bare := I.bare, loc := I.loc, cell := I.cell, len := I.len, free := ?_, freeC := ?_, pin := ?_, hok := ?_, base := ?_ }
  · exact { keep := b1.keep, slot := b1.slot, there := b1.there, free := fun b u e n x => by rw [upd_ne (old b u e)]; exact b1.free b u e n x,
            tups := fun b xs e => by rw [upd_ne (ne_of_none (b1.tups b xs e) na)]; exact b1.tups b xs e, frzs := fun b u y e => by rw [upd_ne (ne_of_none (b1.frzs b u y e) na)]; exact b1.frzs b u y e,
            tbls := fun b ps e => by
              obtain ⟨m, q⟩ := b1.tbls b ps e
              exact ⟨m, by rw [upd_ne (ne_of_none q na)]; exact q⟩ }
  · rw [upd_ne (Ne.symm nL)]
    exact I.free
  · intro y c e
    rw [upd_ne (nC y c e)]
    exact I.freeC y c e
  · intro p hp
    obtain ⟨q1, q2, q3⟩ := I.pin p hp
    exact ⟨q1, by rw [upd_ne (nP p hp)]; exact q2, q3⟩
  · exact I.hok.laidN (fun _ _ e => e) na new
end
def keepE (E : Ends) (i : Nat) (a : Addr) (cls : Value) (d : Option Addr) : Ends :=
  { nx := fun σ H => H a = none → E.nx (σ.set i none) (upd H a (exH cls a d)), rt := fun v H => H a = none → E.rt v (upd H a (exH cls a d)), bk := fun σ H => H a = none → E.bk (σ.set i none) (upd H a (exH cls a d)), ct := fun σ H => H a = none → E.ct (σ.set i none) (upd H a (exH cls a d)) }
def wKeep (K : PySem.W.Frag) (c : Value) (i : Nat) (ts : Addr → TS) (Wo : WX) (E : Ends) : WX := fun cls d σ H =>
  ∃ b, PySem.W.exmOne K cls c = some b ∧ (b = true → ∀ a, H a = none → ts a (keepE E i a cls d) (σ.set i (some (.ref a))) H) ∧ (b = false → Wo cls d σ H)
section
variable {X : Cx} {x n : Str} {c : Value} {i : Nat} {body suite : List Stmt} {b0 : Stmt} {np pos pos' : Pos} {tb : WX → TS} {ts : Addr → TS} {Wo : WX}
/-- an address that came with an error: no frame is there, and it was not there ahead -/
structure Alone (X : Cx) (pins : List (Addr × Obj)) (a : Addr) : Prop where
  frame : a ∉ frs (X.env :: X.outer)
  begin_ : X.s_0.heap.get? a = none
  pinned : ∀ p ∈ X.pn ++ pins, p.1 ≠ a
  cells : ∀ y cc, X.env.cells.lookup y = some cc → cc ≠ a
theorem Alone.locals {pins : List (Addr × Obj)} {a : Addr} (L : Alone X pins a) (own : X.env.frame = some X.env.locals) : a ≠ X.env.locals := by
  rintro rfl
  exact L.frame (List.mem_filterMap.mpr ⟨X.env, List.mem_cons_self, own⟩)
theorem Alone.outer {pins : List (Addr × Obj)} {a : Addr} (L : Alone X pins a) : a ∉ X.fs := by
  intro there
  obtain ⟨env, he, q⟩ := List.mem_filterMap.mp there
  exact L.frame (List.mem_filterMap.mpr ⟨env, List.mem_cons_of_mem _ he, q⟩)
/-- what was there ahead of the error cannot be at its address -/
theorem Alone.of {pins : List (Addr × Obj)} {a : Addr} {σ : L2.St} {H : Hp} {s : Shared} (I : Inv X pins σ H s) (hX : X.ex = []) (frame : a ∉ frs (X.env :: X.outer)) (new : s.heap.get? a = none) : Alone X pins a := by
  have absent : ∀ {o}, s.heap.get? a = some o → False := fun {o} e => by rw [new] at e; cases e
  refine ⟨frame, ?_, fun p hp e => ?_, fun y cc hy e => ?_⟩
  · cases q : X.s_0.heap.get? a with
    | none => rfl
    | some o =>
      obtain ⟨o', e⟩ := I.base.there a o q (by rw [hX]; exact List.not_mem_nil)
      exact (absent e).elim
  · exact absent (e ▸ (I.pin p hp).1)
  · obtain ⟨v, o, ho, _⟩ := I.cell y cc hy
    exact absent (e ▸ ho)
/-- behind the suite: the name is gone, the error is known from now on -/
theorem suiteClosed {pins : List (Addr × Obj)} {a : Addr} {oe : Obj} {ve : Array Value} {cls : Value} {d : Option Addr} {σ' : L2.St} {H' : Hp} {s' : Shared} {Q : Shared → Prop} (okX : X.Ok) (L : Alone X pins a) (own : X.env.frame = some X.env.locals) (hND : X.N.Nodup) (hix : X.N[i]? = some n) (hloc : X.env.kindOf n = some .local)
    (kind : oe.cls = cls ∧ oe.dict = d) (dat : oe.data = .fields ve) (S : Inv (X.suite a ((a, oe) :: (X.pn ++ pins))) [] σ' H' s') (goal : H' a = none → ∀ s7, Inv X pins (σ'.set i none) (upd H' a (exH cls a d)) s7 → Q s7) :
    wpAny (model X.prog X.w) X.A (do bindName X.env n .none; unbindBehindTheSuite X.env n pos') (fun _ s7 => Q s7) X.xe s' := by
  have pin := S.pin (a, oe) (List.mem_append_left _ List.mem_cons_self)
  exact gone_ok (track (S.unsuite okX) L.begin_ pin.2.1 (L.locals own) L.cells L.pinned (exH_ok ⟨oe, ve, pin.1, kind.1, kind.2, dat⟩)) hND hix hloc (goal pin.2.1)
theorem ps_tryKeep (hst : X.stack = X.env :: X.outer) (hfr0 : X.env.frame = some X.env.locals) (hX : X.ex = []) (hND : X.N.Nodup) (hix : X.N[i]? = some n) (hloc : X.env.kindOf n = some .local) (hnm : Names X x c) (tkO : Takes X Wo)
    (hbody : ∀ (W : WX) (pn : List (Addr × Obj)) (xe : Value → Shared → Prop), Takes (X.tr pn xe) W → PassesOwn (model X.prog X.w) X.A X.env xe → PSs (X.tr pn xe) body (tb W))
    (hsuite : ∀ (a : Addr) (oe : Obj) (pn : List (Addr × Obj)), PSs (X.suite a ((a, oe) :: pn)) (b0 :: suite) (ts a)) :
    PS X (.Try body [.ExceptHandler (some (.Name x np)) (some n) (b0 :: suite) pos'] [] [] pos) (fun E σ H => tb (wKeep X.K c i ts Wo E) E σ H) := by
  constructor
  intro pins s σ H E I h
  have okX := I.ok
  refine wpAny_Try_except (wpAny_mono ((hbody (wKeep X.K c i ts Wo E) (X.pn ++ pins) _ ?caught PassesOwn.looking).run [] s σ H E (I.toTry _) h) ?through fun _ _ he => he)
  case through =>
    intro f s1 fin
    match f, fin with
    | .next, ⟨_, _, J, q⟩ => exact wpAny_execs_nil ⟨_, _, J.ofTry okX, q⟩
    | .brk, ⟨_, _, J, q⟩ => exact ⟨_, _, J.ofTry okX, q⟩
    | .cont, ⟨_, _, J, q⟩ => exact ⟨_, _, J.ofTry okX, q⟩
    | .ret _, ⟨_, _, _, J, r, q⟩ => exact ⟨_, _, _, J.ofTry okX, r, q⟩
  case caught =>
    rintro u s' ⟨a, B, sI, _, σ1, H1, cls, d, rfl, K0, ground, ups, air, na, os, ag, b, hb, yes, no⟩
    have K1 := K0.ofTry okX
    rw [show (X.tr (X.pn ++ pins) _).stack = X.env :: X.outer from hst] at air
    show wpAny (model X.prog X.w) X.A (noteFrame (.ref a) X.env) _ _ _
    refine Sky.land Zc.steady (okX.frames.trans (by rw [hst])) hfr0 air fun h3 fl3 up3 => ?_
    have K3 : Inv X pins σ1 H1 { s' with heap := h3 } := K1.landed ground fl3.1 (ups.trans up3) os ag
    obtain ⟨o3, v3, g3, z3, d3⟩ := fl3.there
    have frame : a ∉ frs (X.env :: X.outer) := fun there => by
      obtain ⟨_, o', e', notF⟩ := fl3.2.2.1.mem there
      rw [g3] at e'
      cases e'
      exact notF _ d3
    have L : Alone X pins a := .of K1 hX frame (by
      cases q : sI.heap.get? a with
      | none => rfl
      | some o =>
        have := ground a o q (by rw [show (X.tr (X.pn ++ pins) _).stack = X.env :: X.outer from hst]; exact frame)
        rw [fl3.2.1] at this
        cases this)
    have S3 := K3.suite g3 d3 na (L.locals hfr0) L.outer
    have name : ∀ {Q : Value → Shared → Prop} {F : Value → Shared → Prop}, Q c { s' with heap := h3 } → wpAny (model X.prog X.w) (X.A.mark (some (.ref a))) (eval (.Name x np) X.env) Q F { s' with heap := h3 } := by
      intro Q F q
      rcases hnm with ⟨gl, db, m | ⟨m, v, nn⟩⟩
      · exact ld_glob (X := X.suite a _) S3 gl m q db
      · exact ld_blt (X := X.suite a _) S3 gl m v q nn db
    have kind := PySem.W.exm_one (M := model X.prog X.w) K3.kIn (fun A Q E s k q => wpAny_typeOf_ref (k _ _ g3) (z3.1.symm ▸ q)) hb
    refine wpAny_handleBy_cons (codeAny_handlers_test (name (kind.here ?_))) (fun z => by cases z)
    match b with
    | false =>
      have pass : wpAny (model X.prog X.w) X.A (setFlight (.ref a) X.env.frame) (fun _ s4 => wpAny (model X.prog X.w) X.A (throw (.ref a) : Sem Flow) (SP X pins E) X.xe s4) X.xe { s' with heap := h3 } := by
        rw [hfr0]
        exact HandSPX.setFlight_upZ fl3 fun h4 hh4 up4 => wpAny_throw (tkO _ _ ⟨a, B, sI, pins, σ1, H1, cls, d, rfl, K1, ground, (ups.trans up3).trans up4, .inr (.inr (by rw [hst]; exact hh4)), na, os, ag, no rfl⟩)
      obtain ⟨_, _, _, oe, vs, T, oT, ts', he, hz, hd, h1, hr⟩ := id fl3
      refine wpAny_handleBy_nil ?_
      unfold PySem.passOn
      refine wpAny_bind (wpAny_field he hd h1 ?_)
      rw [if_neg (show ¬ ((Value.ref T == Value.none) = true) by simp)]
      first | exact wpAny_bind (wpAny_pure (wpAny_bind pass)) | exact wpAny_bind pass
    | true =>
      refine codeAny_handlers_suite_as (HandSPX.lands_againZ fl3 fun h4 fl4 up4 => ?_)
      have K4 : Inv X pins σ1 H1 { s' with heap := h4 } := K1.landed ground fl4.1 ((ups.trans up3).trans up4) os ag
      obtain ⟨o4, v4, g4, z4, d4⟩ := fl4.there
      refine store_ok (X := X.suite a ((a, o4) :: (X.pn ++ pins))) (v := .ref a) (K4.suite g4 d4 na (L.locals hfr0) L.outer) hND hix (Or.inl hloc) rfl (fun s5 S5 => ?_) (.inr hloc)
      refine wpAny_mono ((hsuite a o4 (X.pn ++ pins)).run [] s5 _ H1 _ S5 (yes rfl a na)) (fun f s6 fin => ?_) fun _ _ z => z.elim
      match f, fin with
      | .next, ⟨_, _, S6, q⟩ => exact suiteClosed okX L hfr0 hND hix hloc z4 d4 S6 fun k s7 J => ⟨_, _, J, q k⟩
      | .brk, ⟨_, _, S6, q⟩ => exact suiteClosed okX L hfr0 hND hix hloc z4 d4 S6 fun k s7 J => ⟨_, _, J, q k⟩
      | .cont, ⟨_, _, S6, q⟩ => exact suiteClosed okX L hfr0 hND hix hloc z4 d4 S6 fun k s7 J => ⟨_, _, J, q k⟩
      | .ret _, ⟨_, _, _, S6, r, q⟩ => exact suiteClosed okX L hfr0 hND hix hloc z4 d4 S6 fun k s7 J => ⟨_, _, _, J, r, q k⟩
end
/-! ### over data -/
def kKeep (i : Nat) (a : Addr) (c : C) (R : Sl → M → Prop) (δ : Sl) (μ : M) : Prop := R (δ.set i none) (updM μ a c)
def kKeepR (a : Addr) (c : C) (R : QD) (d : D) (μ : M) : Prop := R d (updM μ a c)
def keepD (i : Nat) (a : Addr) (c : C) (E : DEnds) : DEnds := { nx := kKeep i a c E.nx, rt := kKeepR a c E.rt, bk := kKeep i a c E.bk, ct := kKeep i a c E.ct, xc := fun _ => XF }
def kTryK (K : PySem.W.Frag) (c : Value) (i : Nat) (ts : Addr → DTS) (E : DEnds) (δ : Sl) (cls : Value) (fs : Option (List (Str × D))) (μ : M) : Prop := ∃ b, PySem.W.exmOne K cls c = some b ∧
  (b = true → ∀ a, μ a = none → ts a (keepD i a (.exc cls fs) E) (δ.set i (some (.raw (.ref a)))) μ) ∧ (b = false → E.xc δ cls fs μ)
def dTryK (K : PySem.W.Frag) (c : Value) (i : Nat) (tb : DTS) (ts : Addr → DTS) (E : DEnds) (δ : Sl) (μ : M) : Prop := tb { E with xc := kTryK K c i ts E } δ μ
theorem split_exc {K : PySem.W.Frag} {H Hc : Hp} {μ : M} {a : Addr} {cls : Value} {d : Option Addr} {fs : Option (List (Str × D))} (s : Split K H Hc μ) (n : H a = none) (xo : XOk K Hc d fs) : Split K (upd H a (exH cls a d)) Hc (updM μ a (.exc cls fs)) :=
  s.new n (c := .exc cls fs) ⟨ExP cls a d, d, rfl, fun _ h => h, xo⟩
theorem ds_tryK {X : Cx} {W : WX} {x n : Str} {c : Value} {i : Nat} {body suite : List Stmt} {b0 : Stmt} {np pos pos' : Pos} {tb : DTS} {ts : Addr → DTS} (hN : X.N.Nodup) (hc : Names X x c) (tk : Takes X W)
    (hb : ∀ (W' : WX) (pn : List (Addr × Obj)) (xe : Value → Shared → Prop), Takes (X.tr pn xe) W' → PassesOwn (model X.prog X.w) X.A X.env xe → DSs (X.tr pn xe) W' body tb)
    (hsu : ∀ (a : Addr) (pn : List (Addr × Obj)), DSs (X.suite a pn) W0 (b0 :: suite) (ts a)) (hs : X.stack = X.env :: X.outer := by rfl) (hf : X.env.frame = some X.env.locals := by rfl) (hx : X.ex = [] := by rfl) (hi : X.N[i]? = some n := by rfl) (hln : X.env.kindOf n = some .local := by rfl) :
    DS X W (.Try body [.ExceptHandler (some (.Name x np)) (some n) (b0 :: suite) pos'] [] [] pos) (dTryK X.K c i tb ts) :=
  PS.imp (ps_tryKeep (i := i) (tb := fun W' => upS X.K W' tb) (ts := fun a => upS X.K W0 (ts a)) (Wo := W) hs hf hx hN hi hln hc tk (fun W' pn xe tk' po => hb W' pn xe tk' po) (fun a oe pn => hsu a ((a, oe) :: pn)))
    fun D σ H ⟨δ, μ, Hc, Dd, s, rs, h, rt⟩ => ⟨δ, μ, Hc, _, s, rs, h, ⟨rt.nx, rt.rt, rt.bk, rt.ct, fun δ1 cls fs μ1 hx σ1 d H1 Hc1 e1 s1 rs1 xo => by
      obtain ⟨b, hb, h1, h2⟩ := hx
      refine ⟨b, hb, fun hb1 a ha => ?_, fun hb0 => rt.xc _ _ _ _ (h2 hb0) _ _ _ _ e1 s1 rs1 xo⟩
      refine ⟨_, μ1, Hc1, _, s1, rs1.set i (.raw _), h1 hb1 a (s1.fresh ha).1, ?_⟩
      refine ⟨fun δ2 μ2 q2 σ2 H2 Hc2 e2 s2 rs2 n => ?_, fun d2 μ2 q2 v2 H2 Hc2 e2 s2 r2 n => ?_, fun δ2 μ2 q2 σ2 H2 Hc2 e2 s2 rs2 n => ?_, fun δ2 μ2 q2 σ2 H2 Hc2 e2 s2 rs2 n => ?_, fun _ _ _ _ z => z.elim⟩
      · exact rt.nx _ _ q2 _ _ _ (e1.trans e2) (split_exc s2 n (xo.mono e2)) (rs2.unset i none)
      · exact rt.rt _ _ q2 _ _ _ (e1.trans e2) (split_exc s2 n (xo.mono e2)) r2
      · exact rt.bk _ _ q2 _ _ _ (e1.trans e2) (split_exc s2 n (xo.mono e2)) (rs2.unset i none)
      · exact rt.ct _ _ q2 _ _ _ (e1.trans e2) (split_exc s2 n (xo.mono e2)) (rs2.unset i none)⟩⟩
end DL
set_option Elab.async false
set_option linter.all false
set_option maxRecDepth 100000
set_option maxHeartbeats 2000000
/-! isinstance of errors, and their fields. -/
namespace DL
open PySem PySem.Spec PyProof.Rows L2
structure ExcK (K : PySem.W.Frag) (C : Addr) : Prop where
  cl : (PySem.W.clsIn K C).isSome = true
  ga : PySem.W.findIn K (.ref C) "__getattribute__" = some (some (.builtin "BaseException.__getattribute__"))
  gt : PySem.W.findIn K (.ref C) "__getattr__" = some none
  sb : PySem.W.subIn K (.ref C) (.type "BaseException") = some true
  ca : PySem.W.findIn K (.ref C) "__class__" = some (some (.builtin "object.__class__"))
  sp : PySem.W.specialIn K (.builtin "object.__class__") "__get__" = some (some (.builtin "getset_descriptor.__get__"))
  tk : PySem.W.takesIn K (.builtin "object.__class__") = some true
  mo : PySem.W.mroIn K C (.type "object") = some true
  hd : PySem.W.hasDictIn K C = true
def cvOf : V → Option Value
  | .ref C => some (.ref C)
  | .ty T => some (.type T)
  | _ => none
theorem cv_rel {v : V} {cv u : Value} (h : cvOf v = some cv) (r : RelV v u) : u = cv := by
  cases v with
  | ref C => cases h; exact r
  | ty T => cases h; exact r
  | _ => cases h
def cvsOf : List V → Option (List Value)
  | [] => some []
  | v :: vs => match cvOf v, cvsOf vs with
    | some c, some cs => some (c :: cs)
    | _, _ => none
theorem cvs_rel : ∀ {vs : List V} {cs us : List Value}, cvsOf vs = some cs → Vals vs us → us = cs
  | [], _, _, h, r => by cases h; cases r; rfl
  | v :: vs, cs, _, h, .cons r rr => by
    unfold cvsOf at h
    split at h
    · rename_i c cs' e1 e2
      cases h
      rw [cv_rel e1 r, cvs_rel e2 rr]
    · cases h
/-- the error's object in the abstract heap -/
def ExT (K : PySem.W.Frag) (H : Hp) (a C : Addr) (d : Option Addr) : Prop := ∃ φ, H a = some (.ext φ) ∧ (∀ h, φ h → ExP (.ref C) a d h) ∧ (∀ dd, d = some dd → ∃ fs, H dd = some (.xd fs))
theorem exT_inst {X : Cx} {pins : List (Addr × Obj)} {σ : L2.St} {H : Hp} {s : Shared} {a C : Addr} {d : Option Addr} (I : Inv X pins σ H s) (t : ExT X.K H a C d) : ∃ oe od, PySem.W.InstAt s.heap a oe C od ∧ ∀ dd, d = some dd → ∃ o, od = some o ∧ s.heap.get? dd = some o := by
  obtain ⟨φ, ha, hφ, hd⟩ := t
  have ok : ObjOk X.prog X.w H s.heap a (.ext φ) := I.hok a _ ha
  obtain ⟨oe, vs, e1, e2, e3, e4⟩ := hφ _ ok.1
  have nc : PySem.W.notCls oe = true := by unfold PySem.W.notCls; rw [e4] <;> rfl
  cases d with
  | none => exact ⟨oe, none, ⟨e1, e2, nc, by rw [e3]; trivial⟩, fun dd z => by cases z⟩
  | some dd =>
    obtain ⟨fs, hf⟩ := hd dd rfl
    have ox : ObjOk X.prog X.w H s.heap dd (.xd fs) := I.hok dd _ hf
    obtain ⟨mA, hns, _⟩ := ox
    obtain ⟨od, ho, _⟩ := lookIn_ns hns
    exact ⟨oe, some od, ⟨e1, e2, nc, by rw [e3]; exact ho⟩, fun d' z => by cases z; exact ⟨od, rfl, ho⟩⟩
def rIsX (K : PySem.W.Frag) : List V → Hp → VK → Prop := fun xs H Q => ∃ (a C : Addr) (d : Option Addr) (b : Bool), ExT K H a C d ∧ ExcK K C ∧ Q (.bl b) H ∧
  ((∃ c cv, xs = [.ref a, c] ∧ cvOf c = some cv ∧ PySem.W.kitOne K (.ref C) cv = some b) ∨ (∃ t cs cvs, xs = [.ref a, .ref t] ∧ SqT K H t cs ∧ cvsOf cs = some cvs ∧ PySem.W.kitAny K (.ref C) cvs = some b))
theorem call_isX {X : Cx} : CallR X (.builtin "isinstance") (rIsX X.K) := by
  intro pins s σ H xs us Q I r h
  obtain ⟨a, C, d, b, hT, hC, q, h⟩ := h
  obtain ⟨oe, od, J, _⟩ := exT_inst I hT
  rcases h with ⟨c, cv, rfl, hcv, e⟩ | ⟨t, cs, cvs, rfl, ht, hcs, e⟩
  · cases r with
    | cons r1 rr =>
      cases rr with
      | cons r2 rr =>
        cases rr
        cases r1
        rw [cv_rel hcv r2]
        exact PySem.W.kia_one (PySem.W.kitx_exc hC.cl hC.ga hC.gt hC.sb hC.ca hC.sp hC.tk hC.mo) I.kIn J e (fun z => nomatch z) fun tk => ⟨.bl b, H, I.kept (t' := tk) fun _ _ z => z, rfl, q⟩
  · cases r with
    | cons r1 rr =>
      cases rr with
      | cons r2 rr =>
        cases rr
        cases r1
        cases r2
        obtain ⟨its, rv, it, _⟩ := seqK (k := .t) I ht
        have ec := cvs_rel hcs rv
        subst ec
        obtain ⟨o, e1, e2, n, e3⟩ := it
        obtain ⟨oc, od', oda, osl⟩ := o
        have e2' : oc = .type "tuple" := e2
        have e3' : oda = .seq its.toArray n := e3
        subst e2' e3'
        exact PySem.W.kia_tup (PySem.W.kitx_exc hC.cl hC.ga hC.gt hC.sb hC.ca hC.sp hC.tk hC.mo) I.kIn J e1 e (fun z => nomatch z) fun tk => ⟨.bl b, H, I.kept (t' := tk) fun _ _ z => z, rfl, q⟩
def rawsOf : List D → Option (List V)
  | [] => some []
  | .raw v :: ds => (rawsOf ds).map (v :: ·)
  | _ => none
theorem raws_rep {K : PySem.W.Frag} {H : Hp} : ∀ {vs : List V} {ds : List D} {ws : List V}, RepA K H vs ds → rawsOf ds = some ws → vs = ws
  | _, [], _, .nil, h => by cases h; rfl
  | _, d :: ds, ws, .cons r rr, h => by
    cases d with
    | raw v =>
      have ev := rep_raw r
      subst ev
      have h' : (rawsOf ds).map (_ :: ·) = some ws := h
      obtain ⟨w, e1, e2⟩ := Option.map_eq_some_iff.mp h'
      rw [raws_rep rr e1]
      exact e2
    | _ => cases h
/-- the classes that isinstance is asked for -/
inductive Asked (K : PySem.W.Frag) (cls : Value) (b : Bool) : D → Prop
  | one {v : V} {cv : Value} : cvOf v = some cv → PySem.W.kitOne K cls cv = some b → Asked K cls b (.raw v)
  | any {ds : List D} {vs : List V} {cvs : List Value} : rawsOf ds = some vs → cvsOf vs = some cvs → PySem.W.kitAny K cls cvs = some b → Asked K cls b (.tup ds)
def gIsE (K : PySem.W.Frag) : DRC := fun ds μ Q => ∃ a C fs b d, ds = [.raw (.ref a), d] ∧ μ a = some (.exc (.ref C) fs) ∧ ExcK K C ∧ Asked K (.ref C) b d ∧ Q (.bl b) μ
theorem exT_of {K : PySem.W.Frag} {H Hc : Hp} {μ : M} {a C : Addr} {fs : Option (List (Str × D))} (s : Split K H Hc μ) (h : μ a = some (.exc (.ref C) fs)) : ∃ d, ExT K H a C d ∧ XOk K Hc d fs := by
  obtain ⟨_, o, ho, φ, d, rfl, hφ, xo⟩ := s.cell a _ h
  refine ⟨d, ⟨φ, ho, hφ, fun dd z => ?_⟩, xo⟩
  subst z
  cases fs with
  | none => exact xo.elim
  | some fs =>
    obtain ⟨vs, hv, _⟩ := xo
    exact ⟨vs, s.same _ _ hv⟩
theorem l_isE {K : PySem.W.Frag} : LCall K (rIsX K) (gIsE K) := by
  intro vs ds H Hc μ Q Qd s ra h rt
  obtain ⟨a, C, fs, b, d, rfl, hm, hC, hk, hq⟩ := h
  obtain ⟨v, u, rfl, r1, r2⟩ := ra.two'
  cases rep_raw r1
  obtain ⟨dd, hT, _⟩ := exT_of s hm
  refine ⟨a, C, dd, b, hT, hC, rt.val s (.bl _) hq, ?_⟩
  cases hk with
  | one h1 h2 => exact .inl ⟨_, _, by rw [rep_raw r2], h1, h2⟩
  | any h1 h2 h3 =>
    cases r2 with
    | tup hs hr =>
      have e := raws_rep hr h1
      subst e
      exact .inr ⟨_, _, _, rfl, same_t s.same hs, h2, h3⟩
/-- e.f of an error -/
def kXf (K : PySem.W.Frag) (f : Str) (Q : QD) (d : D) (μ : M) : Prop := ∃ a C fs v, d = .raw (.ref a) ∧ μ a = some (.exc (.ref C) (some fs)) ∧ ExcK K C ∧ PySem.W.findIn K (.ref C) f = some none ∧ fs.lookup f = some v ∧ Q v μ
def dXf (K : PySem.W.Frag) (f : Str) (te : DTE) (W : XD) (δ : Sl) (μ : M) (Q : QD) : Prop := te W δ μ (kXf K f Q)
theorem RepF.look {K : PySem.W.Frag} {H : Hp} {f : Str} {d : D} : ∀ {vs : List (Str × V)} {fs : List (Str × D)}, RepF K H vs fs → fs.lookup f = some d → ∃ v, vs.lookup f = some v ∧ Rep K H v d
  | _, _, .nil, h => by cases h
  | _, _, .cons (x := x) r rr, h => by
    rw [List.lookup_cons] at h ⊢
    split at h
    · cases h
      exact ⟨_, rfl, r⟩
    · exact RepF.look rr h
def tXk (K : PySem.W.Frag) (f : Str) (te : TE) : TE := fun σ H Q => te σ H fun x H1 => ∃ a C dd fs v, x = .ref a ∧ ExT K H1 a C (some dd) ∧ ExcK K C ∧ PySem.W.findIn K (.ref C) f = some none ∧ H1 dd = some (.xd fs) ∧ fs.lookup f = some v ∧ Q v H1
theorem pe_xk {X : Cx} {e : Expr} {te : TE} {pos : Pos} {f : Str} (he : PE X e te) (hb : attributeBase e f X.env (eval e X.env) = eval e X.env := by rfl) : PE X (.Attribute e f pos) (tXk X.K f te) := by
  refine ⟨fun pins s σ H Q I h => ?_⟩
  refine attr_of hb (thn (he.run pins s σ H _ I h) fun u s1 hh => ?_)
  obtain ⟨x, H1, I1, rx, a, C, dd, fs, v, rfl, hT, hC, hn, ea, l, q⟩ := hh
  obtain rfl : u = Value.ref a := rx
  obtain ⟨oe, od, J, hod⟩ := exT_inst I1 hT
  obtain ⟨o, rfl, ho⟩ := hod dd rfl
  have hx : ObjOk X.prog X.w H1 s1.heap dd (.xd fs) := I1.hok dd _ ea
  obtain ⟨mA, hns, hr⟩ := hx
  obtain ⟨od', ho', hl⟩ := lookIn_ns hns
  have eo := ho.symm.trans ho'
  cases eo
  obtain ⟨u, hu, ru⟩ := RelO.some_of (v := v) (o := mA f) (by rw [← l]; exact hr f)
  exact HandSPX.exc_get I1.kIn J hC.ga hC.gt hC.sb (PySem.W.findObj_own hC.hd hn rfl (by rw [hl, hu])) (handed_of ru) ⟨v, H1, I1.tok _, ru, q⟩
theorem de_xf {X : Cx} {W : WX} {e : Expr} {te : DTE} {pos : Pos} {f : Str} (he : DE X W e te) (hb : attributeBase e f X.env (eval e X.env) = eval e X.env := by rfl) : DE X W (.Attribute e f pos) (dXf X.K f te) :=
  PE.imp (pe_xk he hb) fun σ H Q ⟨δ, μ, Hc, Qd, Xd, s, rs, h, rt, rx⟩ => ⟨δ, μ, Hc, _, Xd, s, rs, h, fun d μ1 h1 v H1 Hc1 e1 s1 r1 => by
    obtain ⟨a, C, fs, w, rfl, hm, hC, hn, hl, hq⟩ := h1
    cases rep_raw r1
    obtain ⟨dd, hT, xo⟩ := exT_of s1 hm
    cases dd with
    | none => exact xo.elim
    | some dd =>
      obtain ⟨vs, hv, rf⟩ := xo
      obtain ⟨u, hu, ru⟩ := rf.look hl
      exact ⟨a, C, dd, vs, u, rfl, hT, hC, hn, s1.same _ _ hv, hu, (rt.mono e1).val s1 ru hq⟩, rx⟩
theorem de_cls {X : Cx} {W : WX} {x : Str} {C : Addr} {pos : Pos} (hm : X.mg x = some (.ref C)) (hg : Gl X x := by rfl) (hd : (x == ("__debug__" : Str)) = false := by decide) : DE X W (.Name x pos) (dC (.raw (.ref C))) := de_glob (v := .ref C) hg hm rfl (fun _ => .raw _) hd
end DL
set_option Elab.async false
set_option linter.all false
set_option maxRecDepth 100000
set_option maxHeartbeats 2000000
/-! Defs that are called where no repr is under way: they may ask for the repr of data. -/
namespace DL
open PySem PySem.Spec PyProof.Rows L2
structure FnG (P : Program) (w : World) (K : PySem.W.Frag) (mg : Str → Option Value) (base : Heap) (CX : CXT) (k : Nat) (f : Addr) (fd : FuncData) (ps : List Str) (sp : Sp) : Prop where
  len : ∀ vs H Q E, sp vs H Q E → vs.length = ps.length
  run : ∀ (A : Around) (outer : List Env) (s : Shared) (H : Hp) (args : Args) (us : List Value) (vs : List V) (Q : VK) (E : XK), A.guards = some [] → Room k A → Env0 P w K mg base A outer s H → BindsTo s fd args (ps.zip us) → Vals vs us → sp vs H Q E →
    codeAny (model P w) A (.call (.ref f) args) (CR CX outer P w H s Q E) s
theorem FnG.of {P : Program} {w : World} {K : PySem.W.Frag} {mg : Str → Option Value} {base : Heap} {CX : CXT} {k : Nat} {f : Addr} {fd : FuncData} {ps : List Str} {sp : Sp} (F : FnOk P w K mg base CX k f fd ps sp) : FnG P w K mg base CX k f fd ps sp :=
  ⟨F.len, fun A outer s H args us vs Q E _ => F.run A outer s H args us vs Q E⟩
/-- a def by its body, the guards known -/
theorem fnG_of {CX : CXT} {P : Program} {w : World} {K : PySem.W.Frag} {mg : Str → Option Value} {base : Heap} {k : Nat} {f : Addr} {name qual : Str} {params : Arguments} {body : List Stmt} {scope : Scope} {dV kV doc pm cdv ct oc : Value} {an od : Option Addr}
    {osl : Array (Option Value)} {N ps : List Str} {sp : Sp} (stands : K.lookup f = some ⟨oc, od, .func (PySem.W.fnOf name qual params body scope dV kV doc pm an cdv ct), osl⟩) (code : PySem.W.codeIn K cdv qual = true) (S : FnScope N ps scope)
    (len : ∀ vs H Q E, sp vs H Q E → vs.length = ps.length)
    (walk : ∀ (A : Around) (outer : List Env) (s : Shared) (H : Hp) (vs : List V) (Q : VK) (E : XK), A.guards = some [] → Room k (A.deeper (envOfC qual scope s.heap.objs.size f cdv)) → sp vs H Q E →
      ∃ t, PSs (cxOf CX P w K mg base N qual scope f cdv A outer s H E) body t ∧ t { nx := fun _ H' => Q .non H', rt := Q } (start N vs) H) :
    FnG P w K mg base CX (k + 1) f (PySem.W.fnOf name qual params body scope dV kV doc pm an cdv ct) ps sp := by
  constructor
  · exact len
  intro A outer s H args us vs Q E hG room env0 binds rel hsp
  obtain ⟨t, der, red⟩ := walk A outer s H vs Q E hG (room.deeper _) hsp
  have inK : K.In s.heap := env0.mod.kin.keeps fun b o e => (env0.bs b o e).1
  have noL : s.heap.NoLimit := env0.mod.nolimit.keeps fun b o e => (env0.bs b o e).1
  have kinds : ∀ y ∈ ps.zip us, scope.names.lookup y.1 = some .local ∨ (scope.names.lookup y.1 = some .cell ∧ ((cellsFrom (s.heap.objs.size + 1) scope.names []).lookup y.1).isSome = true) := by
    rintro ⟨n, v⟩ hy
    cases S.par n (List.of_mem_zip hy).1 with
    | inl q => exact .inl q
    | inr q => exact .inr ⟨q, PySem.W.cellsFrom_some _ _ _ (.inl q)⟩
  refine codeAny_call_function room.depth (inK _ _ stands) rfl S.co S.gen rfl (PySem.W.codeRec_of inK code) (binds _ _ _ _ ?_)
  refine wpAny_newFunctionEnv_cells S.kind kinds ?_
  rintro env rfl s1 x
  refine ⟨noL.keeps x.toInCall.keep, codeAny_func (wpAny_mono (der.run [] s1 (start N vs) H _ (inv_start S room.hd env0 (len _ _ _ _ hsp) rel x) red) ?_ fun _ _ hs => hs)⟩
  intro fl s' hs
  cases fl with
  | next => exact let ⟨σ', H', J, q⟩ := hs; ⟨V.non, H', J.os, J.bare, J.base, J.hok, rfl, q⟩
  | ret u => exact let ⟨v, σ', H', J, rv, q⟩ := hs; ⟨v, H', J.os, J.bare, J.base, J.hok, rv, q⟩
  | brk => exact let ⟨_, _, _, q⟩ := hs; False.elim q
  | cont => exact let ⟨_, _, _, q⟩ := hs; False.elim q
/-- only the script may be tracked, and where it is, the module's own part does not hold it -/
structure Lone (K : PySem.W.Frag) (a : Addr) (vs : List Value) (h : Heap) (H : Hp) : Prop where
  list : h.get? a = some { cls := .type "list", data := .seq vs.toArray }
  lone : ∀ b u, H b = some u → b = a
  apart : ∀ u, H a = some u → K.lookup a = none
section
variable {K : PySem.W.Frag} {a : Addr} {vs : List Value} {h : Heap} {H : Hp}
theorem Lone.free (L : Lone K a vs h H) {b : Addr} (away : b = a → False) : H b = none := by
  cases e : H b with
  | none => rfl
  | some u => exact (away (L.lone b u e)).elim
/-- namespaces are seen as before: a dict is no list -/
theorem Lone.ns (L : Lone K a vs h H) {b : Addr} {m : Str → Option Value} (n : h.Ns b m) : (hidT h H).Ns b m := by
  obtain ⟨o, es, ep, here, dict, rest⟩ := n
  have away : b = a → False := by
    rintro rfl
    rw [L.list] at here
    cases here
    cases dict
  exact ⟨o, es, ep, hidT_get here (L.free away), dict, rest⟩
theorem Lone.kin (L : Lone K a vs h H) (inK : K.In h) : K.In (hidT h H) := fun b o e => hidT_get (inK b o e) (by
  cases q : H b with
  | none => rfl
  | some u =>
    have eb := L.lone b u q
    rw [eb] at e q
    rw [L.apart u q] at e
    cases e)
theorem Lone.env {P : Program} {w : World} {mg mb : Str → Option Value} {s : Shared} (L : Lone K a vs s.heap H) (inK : K.In s.heap) (glo : s.heap.Ns mainGlobals mg) (blt : s.heap.Ns builtinsNs mb) (boot : ∀ x : Str, x ≠ "__name__" → mb x = bootBuiltins x)
    (noL : s.heap.NoLimit) (nogen : s.gens = #[]) (hok : HOk P w H s.heap) : Env0 P w K mg (hidT s.heap H) callerA [] s H := by
  obtain ⟨mc, c1, c2⟩ := noL
  have m : Mod K mg (hidT s.heap H) := ⟨L.kin inK, L.ns glo, ⟨mb, L.ns blt, boot⟩, ⟨mc, L.ns c1, c2⟩⟩
  constructor
  case mod => exact m
  case hok => exact hok
  case bs => exact fun b o e => of_hidT e
  case bsz => exact Nat.le_of_eq (hidT_size _ _)
  case bare => exact .of_eq nogen
  case frf => exact fun b hb => (List.not_mem_nil hb).elim
  all_goals first | rfl | trivial
end
/-- the law's call, the guards known to be none -/
theorem lawG_call {P : Program} {w : World} {K : PySem.W.Frag} {mg mb : Str → Option Value} {CX : CXT} {k : Nat} {fa a : Addr} {fd : FuncData} {x : Str} {sp : Sp} {s1 : Shared} {vs : List Value} {ns : List Int}
    (inK : K.In s1.heap) (glo : s1.heap.Ns mainGlobals mg) (blt : s1.heap.Ns builtinsNs mb) (boot : ∀ x : Str, x ≠ "__name__" → mb x = bootBuiltins x) (noL : s1.heap.NoLimit) (nogen : s1.gens = #[])
    (ha : s1.heap.get? a = some { cls := .type "list", data := .seq vs.toArray }) (hi : IntsAre vs ns) (hl : ns.length ≤ sizeLine) (room : Room k callerA)
    (F : ∀ base : Heap, K.In base → base.Ns mainGlobals mg → FnG P w K mg base CX k fa fd [x] sp) (binds : ∀ (s : Shared) (u : Value), BindsTo s fd ⟨[u], []⟩ [(x, u)])
    (want : ∀ H : Hp, Only H → SqL K H a (ns.map V.int) → sp [.ref a] H (fun v _ => v = .bl true) fun _ _ _ => False) (noX : ∀ H e s', CX [] H s1 (fun _ _ _ => False) e s' → False) :
    codeAny (model P w) callerA (.call (.ref fa) ⟨[.ref a], []⟩) (fun r s' => r = .ok (.ret (.bool true)) ∧ OldK s1.heap s'.heap ∧ s'.os = s1.os ∧ AllBare s'.gens) s1 := by
  have script : ∃ H : Hp, Only H ∧ SqL K H a (ns.map V.int) ∧ HOk P w H s1.heap ∧ Lone K a vs s1.heap H := by
    have rv := vals_ints hi
    cases inside : K.lookup a with
    | some o =>
      have e := inK a o inside
      rw [ha] at e
      cases e
      refine ⟨fun _ => none, fun _ => .inl rfl, .inr ⟨_, vs.toArray, _, inside, rfl, rfl, rfl, ?few, by simpa using rv⟩, (fun _ _ z => by cases z), ha, (fun _ _ z => by cases z), fun _ z => by cases z⟩
      case few =>
        rw [List.size_toArray, hi.length]
        exact hl
    | none =>
      refine ⟨fun b => if b = a then some (.frz { cls := .type "list", data := .seq vs.toArray } (.lst (ns.map V.int))) else none, fun b => ?_, .inl (.inr ⟨_, if_pos rfl⟩), fun b u z => ?_, ha, fun b u z => ?_, fun _ _ => inside⟩
      · by_cases hb : b = a
        · exact .inr ⟨_, _, if_pos hb⟩
        · exact .inl (if_neg hb)
      · dsimp only at z
        have hb : b = a := Classical.byContradiction fun n => by rw [if_neg n] at z; cases z
        subst hb
        rw [if_pos rfl] at z
        cases z
        exact ⟨ha, by rw [List.length_map]; exact hl, vs, _, rv, ha⟩
      · exact Classical.byContradiction fun n => by rw [if_neg n] at z; cases z
  obtain ⟨H, only, isL, hok, L⟩ := script
  have ran := (F _ (L.kin inK) (L.ns glo)).run callerA [] s1 H ⟨[.ref a], []⟩ [.ref a] [.ref a] _ _ rfl room (L.env inK glo blt boot noL nogen hok) (binds s1 (.ref a)) (.cons rfl .nil) (want H only isL)
  refine codeAny_mono ran fun r s' got => ?_
  match r, got with
  | .error e, got => exact (noX H e s' got).elim
  | .ok (.ret u), ⟨v, H', os, bare, un, hok', rel, told⟩ =>
    subst told
    cases (show u = Value.bool true from rel)
    refine ⟨rfl, OldK.of_keep fun b o e => ?_, os, bare⟩
    cases only b with
    | inl free => exact un.keep b o e free (fun z => (List.not_mem_nil z).elim) (by simp)
    | inr frozen =>
      obtain ⟨ob, xs, z⟩ := frozen
      have was := (hok b _ z).1
      have now := (hok' b _ (un.frzs b ob _ z)).1
      rw [was] at e
      cases e
      exact now
/-- the goal that the head leaves, from the law's promise -/
theorem walkG {l : PySem.W.OpenLaw} {n k : Nat} {q : Program} {loose : List Str} {XP : (Str → Option Value) → Heap → Prop} {YP : World → Heap → Prop} {d : DefRec} {K : Params → PySem.W.Frag} {CX : World → CXT} {sp : World → Sp} {x : Str}
    (hn : l.most = some n) (hz : n ≤ sizeLine) (nodef : d.params.defaults = []) (room : Room k callerA) (hY : ∀ (w : World) (h : Heap), YP w h → (K w.params).In h)
    (F : ∀ (w : World) (mg : Str → Option Value) (fa : Addr) (h : Heap), (K w.params).In h → h.Ns mainGlobals mg → mg d.name = some (.ref fa) →
      ∃ fd : FuncData, (∀ (s : Shared) (u : Value), BindsTo s fd ⟨[u], []⟩ [(x, u)]) ∧ ∀ base : Heap, (K w.params).In base → base.Ns mainGlobals mg → FnG l.prog w (K w.params) mg base (CX w) k fa fd [x] (sp w))
    (want : ∀ (w : World) (H : Hp) (a : Addr) (ns : List Int), ns.length ≤ n → Only H → SqL (K w.params) H a (ns.map V.int) → sp w [.ref a] H (fun v _ => v = .bl true) fun _ _ _ => False)
    (noX : ∀ (w : World) (H : Hp) (s : Shared) (e : Value) (s' : Shared), CX w [] H s (fun _ _ _ => False) e s' → False) :
    PySem.W.WalkO q loose XP YP l.row.toRowW d [] (fun f vs => PySem.call f vs) := by
  refine Att.attach_call hn nodef ?_
  intro w s0 s1 mg mb fa o pm cd doc a vs ns G Y ho hd hcd hmg obj isI len gens
  obtain ⟨fd, hb, hF⟩ := F w mg fa _ (hY w _ Y) G.T.g hmg
  exact lawG_call (hY w _ Y) G.T.g G.T.b G.T.builtins G.T.nolimit gens obj isI (Nat.le_trans len hz) room hF hb (fun H hO hS => want w H a ns len hO hS) fun H e s' => noX w H s1 e s'
end DL
namespace DL
open PySem PySem.Spec PyProof.Rows L2
/-! ### repr -/
def rRepr (K : PySem.W.Frag) : List V → Hp → VK → Prop := fun xs H Q => ∃ v d, xs = [v] ∧ Dp K H v d ∧ d.showable = true ∧ d.hasDict = false ∧ d.depth ≤ 64 ∧ d.shown.length ≤ sizeLine ∧ Q (.str d.shown) H
theorem call_repr {X : Cx} {k : Nat} (hG : X.A.guards = some []) (hr : Room k X.A) : CallR X (.builtin "repr") (rRepr X.K) := by
  intro pins s σ H xs us Q I r h
  obtain ⟨v, d, rfl, dp, sh, nd, dep, len, q⟩ := h
  cases r with
  | cons r1 rr =>
    cases rr
    rename_i u
    have big := hr.un
    cases dp with
    | non => cases r1; exact PySem.P.repr_of_none ⟨.str _, H, I.tok _, ⟨_, rfl⟩, q⟩
    | bl b =>
      cases r1
      refine PySem.P.repr_of_bool ⟨.str _, H, I.tok _, ⟨_, rfl⟩, ?_⟩
      exact q
    | int i =>
      obtain ⟨t, rfl⟩ := r1
      exact PySem.P.repr_of_int (of_decide_eq_true sh) ⟨.str _, H, I.tok _, ⟨_, rfl⟩, q⟩
    | str x =>
      obtain ⟨t, rfl⟩ := r1
      exact PySem.P.repr_of_str ⟨.str _, H, I.tok _, ⟨_, rfl⟩, q⟩ len
    | lst h1 h2 =>
      obtain ⟨as, rd⟩ := Dp.reads I _ _ _ (.lst h1 h2) r1
      cases r1
      exact repr_of_reads' rd sh (fun e => by rw [nd] at e; cases e) hG (by omega) (fun _ _ e => e) (fun h' u tk hk => ⟨.str _, H, I.kept (t' := tk) hk, ⟨_, rfl⟩, q⟩) len
    | tup h1 h2 =>
      obtain ⟨as, rd⟩ := Dp.reads I _ _ _ (.tup h1 h2) r1
      cases r1
      exact repr_of_reads' rd sh (fun e => by rw [nd] at e; cases e) hG (by omega) (fun _ _ e => e) (fun h' u tk hk => ⟨.str _, H, I.kept (t' := tk) hk, ⟨_, rfl⟩, q⟩) len
def reprD (d : D) : Str := (toP d).shown
def gRepr : DRC := fun ds μ Q => match ds with
  | [d] => okN 64 (view μ d) = true ∧ (toP (view μ d)).showable = true ∧ (toP (view μ d)).shown.length ≤ sizeLine ∧ Q (.str (reprD (view μ d))) μ
  | _ => False
theorem l_repr {K : PySem.W.Frag} : LCall K (rRepr K) gRepr := by
  intro vs ds H Hc μ Q Qd s ra h rt
  unfold gRepr at h
  split at h
  · obtain ⟨v, rfl, r⟩ := ra.one'
    have z := okN_lay 64 _ h.1
    exact ⟨v, _, rfl, dp_of h.1 (view_rep s r), h.2.1, PyData.hasDict_of_canLay _ z.1, z.2, h.2.2.1, rt.val s (.str _) h.2.2.2⟩
  · exact h.elim
/-! texts are compared -/
def gEqS (neg : Bool) : DR2 := fun a b μ Q => match a, b with
  | .str x, .str y => Q (.bl (neg ^^ decide (x = y))) μ
  | _, _ => False
theorem l_eqS {K : PySem.W.Frag} : LOp K rEq (gEqS false) := by
  intro x y d e H Hc μ Q Qd s rx ry h rt
  unfold gEqS at h
  split at h
  · cases rx; cases ry
    rename_i a b
    refine ⟨rfl, rt.val s (.bl _) ?_⟩
    have e : decide (V.str a = V.str b) = decide (a = b) := by
      by_cases z : a = b
      · subst z; simp
      · rw [decide_eq_false z, decide_eq_false (fun y => z (by cases y; rfl))]
    rw [e]
    simpa using h
  · exact h.elim
theorem l_neS {K : PySem.W.Frag} : LOp K rNe (gEqS true) := by
  intro x y d e H Hc μ Q Qd s rx ry h rt
  unfold gEqS at h
  split at h
  · cases rx; cases ry
    rename_i a b
    refine ⟨rfl, rt.val s (.bl _) ?_⟩
    have e : decide (V.str a = V.str b) = decide (a = b) := by
      by_cases z : a = b
      · subst z; simp
      · rw [decide_eq_false z, decide_eq_false (fun y => z (by cases y; rfl))]
    rw [e]
    simpa using h
  · exact h.elim
section
variable {X : Cx} {W : WX} {a b : Expr} {ta tb : DTE} {pos : Pos}
theorem de_eqS (ha : DE X W a ta) (hb : DE X W b tb) : DE X W (.Compare a [.Eq] [b] pos) (dOp (gEqS false) ta tb) := de_cmp op_eq l_eqS ha hb (nomark _)
theorem de_neS (ha : DE X W a ta) (hb : DE X W b tb) : DE X W (.Compare a [.NotEq] [b] pos) (dOp (gEqS true) ta tb) := de_cmp op_ne l_neS ha hb (nomark _)
theorem dt_eqS (ha : DE X W a ta) (hb : DE X W b tb) : DT X W (.Compare a [.Eq] [b] pos) (dB (dOp (gEqS false) ta tb)) := dt_cmp op_eq l_eqS ha hb (nomark _)
theorem dt_neS (ha : DE X W a ta) (hb : DE X W b tb) : DT X W (.Compare a [.NotEq] [b] pos) (dB (dOp (gEqS true) ta tb)) := dt_cmp op_ne l_neS ha hb (nomark _)
end
/-! ### how long a repr is -/
mutual
def rsz : D → Nat
  | .int i => i.natAbs.log2 + 3
  | .str x => (reprText x).length
  | .lst xs => 2 + rszs xs
  | .tup xs => 3 + rszs xs
  | _ => 5
def rszs : List D → Nat
  | [] => 0
  | x :: xs => rsz x + 2 + rszs xs
end
def lens : List Str → Nat
  | [] => 0
  | x :: xs => x.length + 2 + lens xs
theorem textFrom_le : ∀ (ts : List Str) (k : Nat) (acc : Str), (textFrom k acc ts).length ≤ acc.length + lens ts
  | [], _, _ => Nat.le_refl _
  | t :: ts, k, acc => by
    have h := textFrom_le ts (k + 1) (acc ++ (if k > 0 then ", " else "" : String) ++ t)
    rw [strLen_append, strLen_append] at h
    have e : (((if k > 0 then ", " else "" : String) : Str)).length ≤ 2 := by split <;> decide
    show (textFrom (k + 1) (acc ++ (if k > 0 then ", " else "" : String) ++ t) ts).length ≤ acc.length + (t.length + 2 + lens ts)
    omega
theorem join_le : ∀ ts : List Str, (Str.join ", " ts).length ≤ lens ts
  | [] => Nat.le_refl _
  | [x] => by show x.length ≤ x.length + 2 + 0; omega
  | x :: y :: r => by
    have ih := join_le (y :: r)
    show (x ++ (", " : Str) ++ Str.join ", " (y :: r)).length ≤ x.length + 2 + lens (y :: r)
    rw [strLen_append, strLen_append]
    have e : ((", " : Str)).length = 2 := by decide
    omega
theorem toString_le (i : Int) : ((toString i : String) : Str).length ≤ i.natAbs.log2 + 3 := by
  have h := int_text_length_le (a := i) (k := i.natAbs.log2 + 1) (by omega) (by omega)
  rw [PySem.ofString_length]
  omega
mutual
theorem shown_le : ∀ (n : Nat) (d : D), okN n d = true → (toP d).shown.length ≤ rsz d
  | n, .non, _ => by decide
  | n, .bl b, _ => by cases b <;> decide
  | n, .int i, _ => toString_le i
  | n, .str x, _ => Nat.le_refl _
  | 0, .lst xs, h => by simp [okN] at h
  | 0, .tup xs, h => by simp [okN] at h
  | n + 1, .lst xs, h => by
    have h1 := shown_all n xs (by simpa [okN] using h)
    have h2 := textFrom_le (PyData.shownAll (toPs xs)) 0 "["
    show (textFrom 0 "[" (PyData.shownAll (toPs xs)) ++ "]").length ≤ 2 + rszs xs
    rw [strLen_append]
    have e1 : (("[" : String) : Str).length = 1 := by decide
    have e2 : (("]" : String) : Str).length = 1 := by decide
    omega
  | n + 1, .tup xs, h => by
    have h1 := shown_all n xs (by simpa [okN] using h)
    have h2 := join_le (PyData.shownAll (toPs xs))
    show (("(" : Str) ++ Str.join ", " (PyData.shownAll (toPs xs)) ++ (if (PyData.shownAll (toPs xs)).length == 1 then ",)" else ")" : String)).length ≤ 3 + rszs xs
    rw [strLen_append, strLen_append]
    have e1 : (("(" : String) : Str).length = 1 := by decide
    have e2 : (((if (PyData.shownAll (toPs xs)).length == 1 then ",)" else ")" : String)) : Str).length ≤ 2 := by split <;> decide
    omega
  | n, .scr _, h => by cases n <;> simp [okN] at h
  | n, .raw _, h => by cases n <;> simp [okN] at h
  | n, .emp, h => by cases n <;> simp [okN] at h
theorem shown_all : ∀ (n : Nat) (xs : List D), (∀ d ∈ xs, okN n d = true) → lens (PyData.shownAll (toPs xs)) ≤ rszs xs
  | _, [], _ => Nat.le_refl _
  | n, x :: xs, h => by
    have h1 := shown_le n x (h x List.mem_cons_self)
    have h2 := shown_all n xs fun d hd => h d (List.mem_cons_of_mem _ hd)
    show (toP x).shown.length + 2 + lens (PyData.shownAll (toPs xs)) ≤ rsz x + 2 + rszs xs
    omega
end
/-! ### defs whose guards are known -/
structure DfnG (P : Program) (w : World) (K : PySem.W.Frag) (mg : Str → Option Value) (base : Heap) (CX : CXT) (x qual : Str) (st : Stmt) (k : Nat) (ps : List Str) (c : Ct) : Prop where
  ex : ∃ f fd, Fun K x qual st f fd ∧ mg x = some (.ref f) ∧ FnG P w K mg base CX k f fd ps (spD K c) ∧ Binds K fd ps []
section
variable {P : Program} {w : World} {K : PySem.W.Frag} {mg : Str → Option Value} {base : Heap} {x qual : Str} {st : Stmt} {f : Addr} {fd : FuncData} {N ps : List Str} {k n m : Nat} {c : Ct} {t : DTS}
theorem dfnGA (F : Fun K x qual st f fd) (hm : mg x = some (.ref f)) (bn : Binds K fd ps []) (S : FnScope N ps (defScope st)) (len : Len c m) (hb : HB c t n)
    (hd : ∀ (cdv : Value) (A : Around) (outer : List Env) (s : Shared) (H : Hp) (E : XK), A.guards = some [] → Room k (A.deeper (PyProof.Rows.envOfC qual (defScope st) s.heap.objs.size f cdv)) → DSs (cxOf CX0 P w K mg base N qual (defScope st) f cdv A outer s H E).nox W0 (defBody st) t)
    (hn : N.length = n := by rfl) (hp : ps.length = m := by rfl) : DfnG P w K mg base CX0 x qual st (k + 1) ps c := by
  subst hn hp
  refine ⟨f, fd, F, hm, ?_, bn⟩
  obtain ⟨oc, od, kV, doc, pm, an, cdv, ct, osl, rfl, lk, hcd⟩ := F.ex
  refine fnG_of lk hcd S (fun vs H Q E ⟨ds, μ, Hc, Qd, Xd, s, ra, h, rt, rx⟩ => by rw [ra.length]; exact len _ _ _ _ h) (fun A outer s H vs Q E hG hr h => ?_)
  obtain ⟨ds, μ, Hc, Qd, Xd, sp, ra, h, rt, rx⟩ := h
  refine ⟨_, PSs.nox (hd cdv A outer s H E hG hr), _, μ, Hc, _, sp, repS_start ra, hb _ _ _ _ h, ?_⟩
  exact ⟨fun δ μ' h' σ H' Hc' e' s' rs' => ret_fin rt _ _ h' _ _ _ e' s' .non, ret_fin rt, fun _ _ z => z.elim, fun _ _ z => z.elim, fun _ _ _ _ z => z.elim⟩
end
section
variable {X : Cx} {W : WX} {e : Expr} {es : List Expr} {pos p : Pos} {tr : DTA} {CX : CXT} {x qual : Str} {st : Stmt} {k : Nat} {ps : List Str} {c : Ct}
theorem de_callG (F : DfnG X.prog X.w X.K X.mg X.base CX x qual st k ps c) (hG : X.A.guards = some []) (hr : Room k X.A) (pw : Pw CX X W) (ha : DA X W (e :: es) tr) (hg : Gl X x := by rfl) (hdb : (x == ("__debug__" : Str)) = false := by decide)
    (he : starEach (e :: es) X.env = (false, eval e X.env) :: starEach es X.env := by rfl) (hpl : (backTo pos (starEach es X.env)).any (·.1) = false := by rfl) : DE X W (.Call (.Name x p) (e :: es) [] pos) (dCall c tr) := by
  obtain ⟨f, fd, FF, hm, G, bn⟩ := F.ex
  refine ⟨fun pins s σ H Q I h => ?_⟩
  refine wpAny_Call_Name_kw (ld_glob I hg hm ?_ hdb)
  obtain ⟨δ, μ, Hc, Qd, Xd, sp, rs, h, rt, rx⟩ := h
  refine PySem.W.callWith_K (h₀ := X.base) I.ok.mod.kin FF.kp (thn (ha.run pos pins s σ H (fun vs H1 => ∃ ds μ1 Hc1, Same Hc Hc1 ∧ Split X.K H1 Hc1 μ1 ∧ RepA X.K Hc1 vs ds ∧ c ds μ1 Qd Xd) I
    ⟨δ, μ, Hc, _, Xd, sp, rs, h, fun ds μ1 h1 vs H1 Hc1 e1 s1 r1 => ⟨ds, μ1, Hc1, e1, s1, r1, h1⟩, rx⟩) fun us s1 ⟨vs, H1, I1, r, ds, μ1, Hc1, e1, s1', r1, hc⟩ => ⟨I1.kIn, ?_⟩) he hpl
  have q : spD X.K c vs H1 Q (WE W σ) := ⟨ds, μ1, Hc1, Qd, Xd, s1', r1, hc, rt.mono e1, rx.mono e1⟩
  have hl : us.length = ps.length := by rw [← r.length]; exact G.len _ _ _ _ q
  have b := bn s1 us I1.kIn (by rw [List.append_nil]; exact hl)
  rw [List.append_nil] at b
  refine wpAny_call (codeAny_mono (G.run X.A X.stack s1 H1 ⟨us, []⟩ us vs Q (WE W σ) hG hr I1.env0 b r q) fun r s' hq => ?_)
  cases r with
  | error e => exact pw σ pins H1 s1 e s' I1 hq
  | ok fl =>
    cases fl with
    | ret u => exact I1.after hq
    | next => exact False.elim hq
    | brk => exact False.elim hq
    | cont => exact False.elim hq
end
end DL
set_option Elab.async false
set_option linter.all false
set_option maxRecDepth 100000
set_option maxHeartbeats 2000000
/-! count of any data in a list. -/
namespace DL
open PySem PySem.Spec PyProof.Rows L2
def rCntD (K : PySem.W.Frag) : V → List V → Hp → VK → Prop := fun x xs H Q => ∃ (a : Addr) (vs : List V) (v : V) (ds : List PyData) (d : PyData), x = .ref a ∧ xs = [v] ∧ SqL K H a vs ∧ DpAll K H vs ds ∧ Dp K H v d ∧ PyData.plainAll ds = true ∧ d.plain = true ∧ d.depth ≤ 64 ∧ Q (.int ((ds.countP fun y => PyData.eqv y d : Nat) : Int)) H
theorem mt_cntD {X : Cx} {k : Nat} (hr : Room k X.A) : MtR X "list.count" (rCntD X.K) := by
  intro pins s σ H x xs v us Q I rx rxs h
  obtain ⟨a, vs, y, ds, d, rfl, rfl, hs, hds, hd, p1, p2, dep, q⟩ := h
  cases rx
  obtain ⟨u, rfl, ru⟩ := rxs.one
  obtain ⟨its, rv, hl, hlen⟩ := seqK (k := .l) I hs
  obtain ⟨as, rs⟩ := Dp.readsAll I _ _ _ hds rv
  obtain ⟨bs, rx⟩ := Dp.reads I _ _ _ hd ru
  have big := hr.un
  exact PySem.SeqAt.count_list_data (vs := its.toArray) hl (by simpa using rs) rx p1 p2 (by have := Nat.min_le_right (PyData.depthAll ds) d.depth; omega) ⟨.int _, H, I.tok _, ⟨_, rfl⟩, q⟩
def gCountD : DRM := fun d ds μ Q => ∃ y xs, ds = [y] ∧ view μ d = .lst xs ∧ okN 64 (.lst xs) = true ∧ okN 64 y = true ∧ Q (.int ((xs.countP fun z => eqD z y : Nat) : Int)) μ
theorem plainAll_of : ∀ {xs : List D}, (∀ d ∈ xs, (toP d).plain = true) → PyData.plainAll (toPs xs) = true
  | [], _ => rfl
  | x :: xs, h => by
    show ((toP x).plain && PyData.plainAll (toPs xs)) = true
    rw [h x List.mem_cons_self, plainAll_of fun d hd => h d (List.mem_cons_of_mem _ hd)]
    rfl
theorem l_cntD {K : PySem.W.Frag} : LMt K (rCntD K) gCountD := by
  intro v d vs ds H Hc μ Q Qd s r ra h rt
  obtain ⟨y, xs, rfl, hv, h1, h2, q⟩ := h
  obtain ⟨a, us, rfl, hu, ru⟩ := view_lst s r hv
  obtain ⟨w, rfl, rw'⟩ := ra.one'
  have hall : ∀ z ∈ xs, okN 63 z = true := List.all_eq_true.mp h1
  refine ⟨a, us, w, toPs xs, toP y, rfl, rfl, SqL.of hu, dps_of hall (ru.mono s.same), dp_of h2 (rw'.mono s.same), plainAll_of fun z hz => PyData.plain_of_canLay0 _ (okN_lay 63 z (hall z hz)).1, PyData.plain_of_canLay0 _ (okN_lay 64 y h2).1, (okN_lay 64 y h2).2, ?_⟩
  refine rt.val s (.int _) ?_
  have e : (toPs xs).countP (fun z => PyData.eqv z (toP y)) = xs.countP fun z => eqD z y := by
    rw [toPs_eq, List.countP_map]
    rfl
  rw [e]
  exact q
end DL
set_option Elab.async false
set_option linter.all false
set_option maxRecDepth 100000
set_option maxHeartbeats 2000000
set_option exponentiation.threshold 20000
/-! Tasks multiplied, ordered, placed. -/
local macro_rules | `(tactic| walk_at "r") => `(tactic| simp only [DL.dSeq, DL.dSet, DL.kSet, DL.dCB, DL.kCB, DL.dCons, DL.kCons1, DL.kCons2, DL.dNil, DL.dVar, DL.dC, DL.dOp, DL.kOp1, DL.kOp2, DL.dB, DL.kB, DL.dIf, DL.kIf, DL.dRet, DL.dRetN, DL.dTup, DL.kTup, DL.dLst, DL.kLst, DL.dLstC, DL.kLstC, DL.dCall, DL.kCall, DL.dCallK, DL.kCallK1, DL.kCallK2, DL.dLenIs, DL.kLenIs, DL.dNext, DL.dDrop, DL.kDrop, DL.dPar, DL.kPar, DL.dAug, DL.kAug, DL.dAsg, DL.kAsg, DL.dSetIx, DL.kSetIx1, DL.kSetIx2, DL.kSetIx3, DL.dTru, DL.kTru, DL.dAnd, DL.kAnd, DL.dOr, DL.kOr, DL.dNot, DL.kNot, DL.dAndV, DL.kAndV, DL.dOrV, DL.kOrV, DL.dNotV, DL.kNotV, DL.dIfE, DL.kIfE, DL.dChain, DL.kChain1, DL.kChain2, DL.kChain3_true, DL.kChain3_false, DL.dNeg, DL.kNeg, DL.dFz, DL.kFz, DL.dRaise, DL.dTryAs, DL.suiteE, DL.kUnset, DL.dFor, DL.kFor, DL.dSeqI, DL.kSeqI, DL.dRange1, DL.kRange1, DL.dRange2, DL.kRange2, DL.dLc, DL.kLc, DL.dLcC, DL.kLstD, DL.kNewC, DL.dYes, DL.wipeD, DL.loopD, DL.compD, DL.kItem, DL.kTest_true, DL.kTest_false, DL.putIx_some, DL.setsK_some, DL.turnD_some, DL.turnC_some, DL.ifS_true, DL.ifS_false, DL.ifAnd_true, DL.ifAnd_false, DL.ifOr_true, DL.ifOr_false, DL.ifAndV_true, DL.ifAndV_false, DL.ifOrV_true, DL.ifOrV_false, DL.ifE_true, DL.ifE_false, DL.srcOf, DL.tgN, DL.tgT, DL.tgNil, DL.tgCons, DL.sets, List.foldl_cons, List.foldl_nil, DL.gI, DL.gI0, DL.gAdd, DL.gMul, DL.gIx, DL.gEq, DL.gNe, DL.gIs, DL.gIn, DL.gLen, DL.gAbs, DL.gMax2, DL.gMin2, DL.gAll, DL.gAny, DL.gSum, DL.gList, DL.gListC, DL.gTuple, DL.gIsiC, DL.gIsi, DL.tyN, DL.subN_NoneType_int, DL.subN_NoneType_bool, DL.subN_NoneType_str, DL.subN_NoneType_list, DL.subN_NoneType_tuple, DL.subN_bool_int, DL.subN_bool_bool, DL.subN_bool_str, DL.subN_bool_list, DL.subN_bool_tuple, DL.subN_int_int, DL.subN_int_bool, DL.subN_int_str, DL.subN_int_list, DL.subN_int_tuple, DL.subN_str_int, DL.subN_str_bool, DL.subN_str_str, DL.subN_str_list, DL.subN_str_tuple, DL.subN_list_int, DL.subN_list_bool, DL.subN_list_str, DL.subN_list_list, DL.subN_list_tuple, DL.subN_tuple_int, DL.subN_tuple_bool, DL.subN_tuple_str, DL.subN_tuple_list, DL.subN_tuple_tuple, DL.truD, DL.blsOf, DL.view_non, DL.view_bl, DL.view_int', DL.view_str', DL.view_lst', DL.view_tup', DL.view_scr', DL.ends, DL.kEnd, DL.OptP_some, DL.OptQ_some, DL.OptB_some, DL.OptS_some, List.getElem?_cons_zero, List.getElem?_cons_succ, List.set_cons_zero, List.set_cons_succ, DL.atI_zero, DL.atI_one, DL.atI_two, List.length_cons, List.length_nil, DL.pick, List.filterMap_cons, List.filterMap_nil, List.nil_append, List.cons_append, List.map_cons, List.map_nil, Option.map_some, Option.bind_some, true_and, and_true, Bool.false_eq_true, Bool.not_true, Bool.not_false, Bool.xor_false, Bool.xor_true, Bool.false_xor, Bool.true_xor, decide_true, decide_false, Nat.zero_add, Nat.reduceAdd, not_true_eq_false, not_false_eq_true, DL.eqD_int, DL.eqD_str, DL.eqD_bl, DL.eqD_tup, DL.eqD_lst, DL.eqDs_nil, DL.eqDs_cons, Bool.and_true, Bool.and_false, List.all_cons, List.all_nil, List.any_cons, List.any_nil, Bool.and_self, DL.dM, DL.kM1, DL.kM2, DL.dM0, DL.kM0, DL.gAppend, DL.gInsert, DL.gExtend, DL.gPop1, DL.gPop0, DL.gReverse, DL.gSort, DL.gRemove, DL.gCount, DL.gIndex, DL.dSlG, DL.kSl1, DL.kSl2, DL.kSl3, DL.gSl, DL.gSlC, DL.dNoPart, DL.dPart, DL.kPart, DL.dLR1, DL.kLR1, DL.dLR2, DL.kLR21, DL.kLR22, DL.nLst, DL.gRepC, DL.gCatC, DL.gInt, DL.gSorted, DL.gMaxL, DL.gMinL, DL.dEnum, DL.kEnum, DL.dZip2, DL.kZip2, DL.dZip3, DL.kZip3, DL.OptS2_some, DL.OptS3_some, DL.dRev, DL.kRev, DL.dEmp, DL.view_emp', DL.subN_dict_int, DL.subN_dict_bool, DL.subN_dict_str, DL.subN_dict_list, DL.subN_dict_tuple, DL.cellL_lst, DL.cellL_none, DL.gCountD, DL.gRepr, DL.gEqS, DL.dTryK, DL.keepD, DL.kKeep, DL.kKeepR, DL.dXf])
local macro_rules | `(tactic| simp! only [$xs,*]) => `(tactic| simp only [DL.dSeq, DL.dSet, DL.kSet, DL.dCB, DL.kCB, DL.dCons, DL.kCons1, DL.kCons2, DL.dNil, DL.dVar, DL.dC, DL.dOp, DL.kOp1, DL.kOp2, DL.dB, DL.kB, DL.dIf, DL.kIf, DL.dRet, DL.dRetN, DL.dTup, DL.kTup, DL.dLst, DL.kLst, DL.dLstC, DL.kLstC, DL.dCall, DL.kCall, DL.dCallK, DL.kCallK1, DL.kCallK2, DL.dLenIs, DL.kLenIs, DL.dNext, DL.dDrop, DL.kDrop, DL.dPar, DL.kPar, DL.dAug, DL.kAug, DL.dAsg, DL.kAsg, DL.dSetIx, DL.kSetIx1, DL.kSetIx2, DL.kSetIx3, DL.dTru, DL.kTru, DL.dAnd, DL.kAnd, DL.dOr, DL.kOr, DL.dNot, DL.kNot, DL.dAndV, DL.kAndV, DL.dOrV, DL.kOrV, DL.dNotV, DL.kNotV, DL.dIfE, DL.kIfE, DL.dChain, DL.kChain1, DL.kChain2, DL.kChain3_true, DL.kChain3_false, DL.dNeg, DL.kNeg, DL.dFz, DL.kFz, DL.dRaise, DL.dTryAs, DL.suiteE, DL.kUnset, DL.dFor, DL.kFor, DL.dSeqI, DL.kSeqI, DL.dRange1, DL.kRange1, DL.dRange2, DL.kRange2, DL.dLc, DL.kLc, DL.dLcC, DL.kLstD, DL.kNewC, DL.dYes, DL.wipeD, DL.loopD, DL.compD, DL.kItem, DL.kTest_true, DL.kTest_false, DL.putIx_some, DL.setsK_some, DL.turnD_some, DL.turnC_some, DL.ifS_true, DL.ifS_false, DL.ifAnd_true, DL.ifAnd_false, DL.ifOr_true, DL.ifOr_false, DL.ifAndV_true, DL.ifAndV_false, DL.ifOrV_true, DL.ifOrV_false, DL.ifE_true, DL.ifE_false, DL.srcOf, DL.tgN, DL.tgT, DL.tgNil, DL.tgCons, DL.sets, List.foldl_cons, List.foldl_nil, DL.gI, DL.gI0, DL.gAdd, DL.gMul, DL.gIx, DL.gEq, DL.gNe, DL.gIs, DL.gIn, DL.gLen, DL.gAbs, DL.gMax2, DL.gMin2, DL.gAll, DL.gAny, DL.gSum, DL.gList, DL.gListC, DL.gTuple, DL.gIsiC, DL.gIsi, DL.tyN, DL.subN_NoneType_int, DL.subN_NoneType_bool, DL.subN_NoneType_str, DL.subN_NoneType_list, DL.subN_NoneType_tuple, DL.subN_bool_int, DL.subN_bool_bool, DL.subN_bool_str, DL.subN_bool_list, DL.subN_bool_tuple, DL.subN_int_int, DL.subN_int_bool, DL.subN_int_str, DL.subN_int_list, DL.subN_int_tuple, DL.subN_str_int, DL.subN_str_bool, DL.subN_str_str, DL.subN_str_list, DL.subN_str_tuple, DL.subN_list_int, DL.subN_list_bool, DL.subN_list_str, DL.subN_list_list, DL.subN_list_tuple, DL.subN_tuple_int, DL.subN_tuple_bool, DL.subN_tuple_str, DL.subN_tuple_list, DL.subN_tuple_tuple, DL.truD, DL.blsOf, DL.view_non, DL.view_bl, DL.view_int', DL.view_str', DL.view_lst', DL.view_tup', DL.view_scr', DL.ends, DL.kEnd, DL.OptP_some, DL.OptQ_some, DL.OptB_some, DL.OptS_some, List.getElem?_cons_zero, List.getElem?_cons_succ, List.set_cons_zero, List.set_cons_succ, DL.atI_zero, DL.atI_one, DL.atI_two, List.length_cons, List.length_nil, DL.pick, List.filterMap_cons, List.filterMap_nil, List.nil_append, List.cons_append, List.map_cons, List.map_nil, Option.map_some, Option.bind_some, true_and, and_true, Bool.false_eq_true, Bool.not_true, Bool.not_false, Bool.xor_false, Bool.xor_true, Bool.false_xor, Bool.true_xor, decide_true, decide_false, Nat.zero_add, Nat.reduceAdd, not_true_eq_false, not_false_eq_true, DL.eqD_int, DL.eqD_str, DL.eqD_bl, DL.eqD_tup, DL.eqD_lst, DL.eqDs_nil, DL.eqDs_cons, Bool.and_true, Bool.and_false, List.all_cons, List.all_nil, List.any_cons, List.any_nil, Bool.and_self, DL.dM, DL.kM1, DL.kM2, DL.dM0, DL.kM0, DL.gAppend, DL.gInsert, DL.gExtend, DL.gPop1, DL.gPop0, DL.gReverse, DL.gSort, DL.gRemove, DL.gCount, DL.gIndex, DL.dSlG, DL.kSl1, DL.kSl2, DL.kSl3, DL.gSl, DL.gSlC, DL.dNoPart, DL.dPart, DL.kPart, DL.dLR1, DL.kLR1, DL.dLR2, DL.kLR21, DL.kLR22, DL.nLst, DL.gRepC, DL.gCatC, DL.gInt, DL.gSorted, DL.gMaxL, DL.gMinL, DL.dEnum, DL.kEnum, DL.dZip2, DL.kZip2, DL.dZip3, DL.kZip3, DL.OptS2_some, DL.OptS3_some, DL.dRev, DL.kRev, DL.dEmp, DL.view_emp', DL.subN_dict_int, DL.subN_dict_bool, DL.subN_dict_str, DL.subN_dict_list, DL.subN_dict_tuple, DL.cellL_lst, DL.cellL_none, DL.gCountD, DL.gRepr, DL.gEqS, DL.dTryK, DL.keepD, DL.kKeep, DL.kKeepR, DL.dXf, $xs,*])
namespace NB
open PySem PySem.Spec L2 DL Fr
def fracB : D → Bool
  | .tup [.int a, .int b] => decide (1 ≤ b) && decide (gcdI a b = 1)
  | _ => false
def Row0 (d : D) : Prop := plainD d = true ∧ ∀ xs, d = .tup xs → ∀ x ∈ xs, plainD x = true
def c_is_fraction : Ct := fun ds μ Q _ => ∃ d, ds = [d] ∧ Row0 d ∧ Q (.bl (fracB d)) μ
def t_is_fraction : DTS :=
  (dSeq (dIf (dOr (dNot (dTru (dCB (gIsiC "tuple") (dCons (dVar 0) (dCons (dC (.raw (.ty "tuple"))) dNil))))) (dOr (dB (dOp gNe (dCB gLen (dCons (dVar 0) dNil)) (dC (.int 2)))) (dOr (dNot (dTru (dCall c_is_whole (dCons (dOp gIx (dVar 0) (dC (.int 0))) dNil)))) (dNot (dTru (dCall c_is_whole (dCons (dOp gIx (dVar 0) (dC (.int 1))) dNil))))))) (dRet (dC (.bl false))) dNext)
    (dRet (dAndV (dOp gGe (dOp gIx (dVar 0) (dC (.int 1))) (dC (.int 1))) (dOp gEq (dCall c_shared (dCons (dOp gIx (dVar 0) (dC (.int 0))) (dCons (dOp gIx (dVar 0) (dC (.int 1))) dNil))) (dC (.int 1))))))

theorem hb_is_fraction : HB c_is_fraction t_is_fraction 1 := by
  intro ds μ Q X h
  obtain ⟨d, rfl, ⟨hp, hx⟩, q⟩ := h
  show t_is_fraction (ends Q XF) [some d] μ
  cases d with
  | raw _ => cases hp
  | scr _ => cases hp
  | tup xs =>
    have hx := hx xs rfl
    simp! only [t_is_fraction]
    refine ⟨rfl, rfl, ifOr_of (fun h => ?_) (fun h => ?_)⟩
    · have h' : ¬ (xs.length : Int) = 2 := by simpa using h
      have e : fracB (.tup xs) = false := by
        unfold fracB
        split
        · rename_i e; cases e; exact absurd rfl h'
        · rfl
      rw [e] at q
      walk_at "r"
      exact .of q
    · have h' : (xs.length : Int) = 2 := by simpa using h
      obtain ⟨a, b, rfl⟩ := len2 h'
      walk_at "r"
      refine ⟨a, rfl, hx a (by simp), ?_⟩
      cases a with
      | int x =>
        simp! only [wholeB]
        refine ⟨b, rfl, hx b (by simp), ?_⟩
        cases b with
        | int y =>
          simp! only [wholeB]
          refine ifAndV_of (fun h1 => ?_) (fun h1 => ?_)
          · rw [fracB, h1, Bool.true_and] at q
            walk_at "r"
            refine ⟨_, _, rfl, ?_⟩
            walk_at "r"
            exact ⟨rfl, rfl, .of q⟩
          · rw [fracB, h1] at q
            exact .of q
        | _ =>
          simp! only [wholeB]
          exact .of q
      | _ =>
        simp! only [wholeB]
        exact .of q
  | _ =>
    simp! only [t_is_fraction]
    exact .of q
theorem fracB_iff {d : D} : fracB d = true ↔ ∃ f : Fc, d = fr f ∧ 1 ≤ f.2 ∧ Nat.gcd f.1.natAbs f.2.natAbs = 1 := by
  constructor
  · intro h
    unfold fracB at h
    split at h
    · rename_i a b
      rw [Bool.and_eq_true] at h
      have h2 := of_decide_eq_true h.2
      unfold gcdI at h2
      exact ⟨(a, b), rfl, of_decide_eq_true h.1, by show Nat.gcd a.natAbs b.natAbs = 1; omega⟩
    · cases h
  · rintro ⟨f, rfl, h1, h2⟩
    show (decide (1 ≤ f.2) && decide (gcdI f.1 f.2 = 1)) = true
    rw [decide_eq_true h1]
    unfold gcdI
    rw [h2]
    rfl
/-- a task as the program's defs ask for it -/
theorem comp_filterE {α : Type} {xs : List α} {keep : α → Bool} {ok : M → Prop} {enc g : α → D} {f : TGD} {tt : DTT} {te : DTE} {Q : List D → M → Prop} {δ : Sl} {μ : M} (ho : ok μ) (hl : xs.length < sizeLine)
    (st : ∀ x ∈ xs, ∀ (acc : List D) (R : List D → M → Prop), acc.length < sizeLine → (keep x = true → R (acc ++ [g x]) μ) → (keep x = false → R acc μ) → turnC (f μ (enc x)) tt te acc R δ μ) (q : Q ((xs.filter keep).map g) μ) : compJ ok f tt te Q δ (xs.map enc) μ := by
  refine ⟨fun i acc μ' => μ' = μ ∧ acc = ((xs.take i).filter keep).map g, ⟨rfl, by simp⟩, ?_⟩
  rintro i acc μ' ⟨rfl, rfl⟩
  refine ⟨ho, fun d hd => ?_, fun hi => ?_⟩
  · rw [List.getElem?_map] at hd
    obtain ⟨x, hx, rfl⟩ := Option.map_eq_some_iff.mp hd
    refine st x (List.mem_of_getElem? hx) _ _ ?_ (fun h => ⟨rfl, ?_⟩) (fun h => ⟨rfl, ?_⟩)
    · rw [List.length_map]
      refine Nat.lt_of_le_of_lt (List.length_filter_le _ _) ?_
      rw [List.length_take]
      exact Nat.lt_of_le_of_lt (Nat.min_le_right _ _) hl
    · rw [take_succ hx, List.filter_append, List.filter_cons_of_pos h, List.filter_nil, List.map_append]
      rfl
    · rw [take_succ hx, List.filter_append, List.filter_cons_of_neg (by rw [h]; decide), List.filter_nil, List.append_nil]
  · rw [List.length_map] at hi
    rw [hi, List.take_length]
    exact q
structure TaskP (t : Task) : Prop where
  n1 : 1 ≤ t.prices.length
  n2 : t.prices.length ≤ 16
  pr : ∀ f ∈ t.prices, Ok 300 f
  w1 : 1 ≤ t.wishes.length
  wl : t.wishes.length ≤ 4
  ws : ∀ w ∈ t.wishes, w.2.length = t.prices.length ∧ ∃ s : Shp, w.1 = s.d ∧ s.Ok ∧ s.items = w.2.length
  bl : t.bounds.length = t.prices.length
  bd : ∀ b ∈ t.bounds, (∀ f, b.1 = some f → Ok 300 f) ∧ (∀ f, b.2 = some f → Ok 300 f)
  gl : t.weights.length = t.prices.length
theorem TaskOk.p {t : Task} (h : TaskOk t) : TaskP t where
  n1 := h.n1
  n2 := h.n2
  pr := fun f hf => (h.pr f hf).mono (by decide)
  w1 := by obtain ⟨n, f⟩ := h.ws.facts; exact List.length_pos_iff.mpr f.ne
  wl := by obtain ⟨n, f⟩ := h.ws.facts; have := f.l2; omega
  ws := fun w hw => ⟨h.pl w hw, h.ws.shp w hw⟩
  bl := h.bd.1
  bd := fun b hb => by
    obtain ⟨f, hf, k⟩ := h.bd.mem hb
    exact ⟨fun g e => (k.lo g e).1.mono (by decide), fun g e => (k.hi g e).1.mono (by decide)⟩
  gl := h.wl
def c_copied : Ct := fun ds μ Q _ => ∃ t : Task, ds = [t.d] ∧ TaskP t ∧ ∀ c1 c2, μ c1 = none → μ c2 = none → c1 ≠ c2 →
  Q (.tup [.lst (t.prices.map fr), .raw (.ref c1), .raw (.ref c2), .lst (t.weights.map wgtD), .str t.word]) (updM (updM μ c1 (.lst (t.wishes.map WishD))) c2 (.lst (t.bounds.map bndD)))
def t_copied : DTS :=
  (dSeq (dAsg (dVar 0) (tgT (tgCons (tgN 1) (tgCons (tgN 2) (tgCons (tgN 3) (tgCons (tgN 4) (tgCons (tgN 5) tgNil)))))))
    (dRet (dTup (dCons (dCB gList (dCons (dVar 1) dNil)) (dCons (dLcC (dSeqI (dVar 2)) (tgT (tgCons (tgN 6) (tgCons (tgN 7) tgNil))) dYes (dTup (dCons (dVar 6) (dCons (dCB gList (dCons (dVar 7) dNil)) dNil))) [6, 7]) (dCons (dCB gListC (dCons (dVar 3) dNil)) (dCons (dCB gList (dCons (dVar 4) dNil)) (dCons (dVar 5) dNil))))))))

theorem hb_copied : HB c_copied t_copied 8 := by
  intro ds μ Q X h
  obtain ⟨t, rfl, ht, q⟩ := h
  show t_copied (ends Q XF) [some t.d, none, none, none, none, none, none, none] μ
  have sz : 16777216 ≤ sizeLine := by decide
  have hw := ht.wl
  simp! only [t_copied, Task.d]
  refine comp_pure (enc := WishD) (g := WishD) trivial (by omega) (fun w hw acc R ha hR => ?_) ?_
  · simp! only [WishD]
    exact ⟨by decide, ha, hR⟩
  intro c1 h1
  walk_at "r"
  intro c2 h2
  have ne : c1 ≠ c2 := fun z => by rw [z, updM_same] at h2; cases h2
  rw [updM_ne (Ne.symm ne)] at h2
  walk_at "r"
  exact ⟨by decide, .of (q c1 c2 h1 h2 ne)⟩
def mulSide (g : Fc) (o : Option Fc) : Option Fc := o.map fun f => mulF f g
def c_times_side : Ct := fun ds μ Q _ => ∃ (o : Option Fc) (g : Fc), ds = [optF o, fr g] ∧ (∀ f, o = some f → Ok 300 f) ∧ Ok 300 g ∧ Q (optF (mulSide g o)) μ
def t_times_side : DTS :=
  (dSeq (dIf (dB (dOp (gIs false) (dVar 0) (dC .non))) (dRet (dC .non)) dNext)
    (dRet (dCall c_times (dCons (dVar 0) (dCons (dVar 1) dNil)))))

theorem hb_times_side : HB c_times_side t_times_side 2 := by
  intro ds μ Q X h
  obtain ⟨o, g, rfl, ho, hg, q⟩ := h
  show t_times_side (ends Q XF) [some (optF o), some (fr g)] μ
  cases o with
  | none =>
    simp! only [t_times_side, optF]
    exact .of q
  | some f =>
    simp! only [t_times_side, optF, is_fr]
    exact ⟨f, g, rfl, Ok.sz (ho f rfl) (by decide), Ok.sz hg (by decide), .of q⟩
def Task.mul (t : Task) (g : Fc) : Task := { t with prices := t.prices.map fun f => mulF f g, bounds := t.bounds.map fun b => (mulSide g b.1, mulSide g b.2) }
def posB (d : D) : Bool := match d with
  | .tup [.int a, .int b] => fracB (.tup [.int a, .int b]) && decide (0 < a)
  | _ => false
def SmallF (d : D) : Prop := ∀ f : Fc, d = fr f → f.1.natAbs < 2 ^ 300 ∧ f.2.natAbs < 2 ^ 300
def c_multiplied (C : Addr) : Ct := fun ds μ Q X => ∃ (t : Task) (d : D), ds = [t.d, d] ∧ TaskP t ∧ Row0 d ∧ SmallF d ∧ (posB d = false → X (.ref C) none μ) ∧ (∀ g : Fc, d = fr g → Ok 300 g → posB d = true → Q (t.mul g).d μ)
theorem sub_two {μ : M} {c1 c2 : Addr} {x y : C} (h1 : μ c1 = none) (h2 : μ c2 = none) (ne : c1 ≠ c2) : Sub μ (updM (updM μ c1 x) c2 y) := (Sub.new h1).trans (Sub.new (by rw [updM_ne (Ne.symm ne)]; exact h2))
def t_multiplied (C_NoNumber : Addr) : DTS :=
  (dSeq (dIf (dOr (dNot (dTru (dCall c_is_fraction (dCons (dVar 1) dNil)))) (dNot (dTru (dCall c_under (dCons (dC k_NOUGHT) (dCons (dVar 1) dNil)))))) (dRaise C_NoNumber) dNext)
    (dSeq (dAsg (dCall c_copied (dCons (dVar 0) dNil)) (tgT (tgCons (tgN 2) (tgCons (tgN 3) (tgCons (tgN 4) (tgCons (tgN 5) (tgCons (tgN 6) tgNil)))))))
    (dSeq (dSet 2 (dLc (dSeqI (dVar 2)) (tgN 7) dYes (dCall c_times (dCons (dVar 7) (dCons (dVar 1) dNil))) [7]))
    (dSeq (dSet 4 (dLc (dSeqI (dVar 4)) (tgT (tgCons (tgN 8) (tgCons (tgN 9) tgNil))) dYes (dTup (dCons (dCall c_times_side (dCons (dVar 8) (dCons (dVar 1) dNil))) (dCons (dCall c_times_side (dCons (dVar 9) (dCons (dVar 1) dNil))) dNil))) [8, 9]))
    (dRet (dTup (dCons (dVar 2) (dCons (dFz (dVar 3)) (dCons (dVar 4) (dCons (dVar 5) (dCons (dVar 6) dNil)))))))))))

theorem hb_multiplied {C_NoNumber : Addr} : HBX (c_multiplied C_NoNumber) (t_multiplied C_NoNumber) 10 := by
  intro ds μ Q X h
  obtain ⟨t, d, rfl, ht, hd, hs, qx, q⟩ := h
  show t_multiplied C_NoNumber (ends Q (FinX X)) [some t.d, some d, none, none, none, none, none, none, none, none] μ
  have sz : 16777216 ≤ sizeLine := by decide
  have hn := ht.n2
  have hb := ht.bl
  simp! only [t_multiplied]
  refine ⟨d, rfl, hd, ?_⟩
  cases hf : fracB d with
  | false =>
    walk_at "r"
    refine ⟨μ, Sub.refl _, qx ?_⟩
    unfold posB
    split
    · rw [hf]; rfl
    · rfl
  | true =>
    obtain ⟨g, rfl, g1, g2⟩ := fracB_iff.mp hf
    obtain ⟨s1, s2⟩ := hs g rfl
    have og : Ok 300 g := ⟨g1, g2, s1, s2⟩
    have z1 : Sz ((0, 1) : Fc) := Ok.sz ok_zero (by decide)
    walk_at "r"
    refine ⟨(0, 1), g, rfl, z1, Ok.sz og (by decide), ?_⟩
    have e0 : decide (0 * g.2 < g.1 * 1) = decide (0 < g.1) := by
      congr 1
      rw [Int.zero_mul, Int.mul_one]
    rw [e0]
    have ep : posB (fr g) = decide (0 < g.1) := by
      show (fracB (fr g) && decide (0 < g.1)) = _
      rw [hf]
      rfl
    cases hp : decide (0 < g.1) with
    | false =>
      walk_at "r"
      exact ⟨μ, Sub.refl _, qx (by rw [ep, hp])⟩
    | true =>
      have q := q g rfl og (by rw [ep, hp])
      walk_at "r"
      refine ⟨t, rfl, ht, fun c1 c2 h1 h2 ne => ?_⟩
      walk_at "r"
      refine comp_pure (enc := fr) (g := fun f => fr (mulF f g)) trivial (by omega) (fun f hf acc R ha hR => ?_) ?_
      · walk_at "r"
        exact ⟨f, g, rfl, Ok.sz (ht.pr f hf) (by decide), Ok.sz og (by decide), ha, hR⟩
      simp! only [updM_same]
      refine comp_pure (enc := bndD) (g := fun b => bndD (mulSide g b.1, mulSide g b.2)) updM_same (by omega) (fun b hb acc R ha hR => ?_) ?_
      · have hbb := ht.bd b hb
        simp! only [bndD]
        refine ⟨b.1, g, rfl, hbb.1, og, ?_⟩
        walk_at "r"
        refine ⟨b.2, g, rfl, hbb.2, og, ?_⟩
        walk_at "r"
        exact ⟨by decide, ha, hR⟩
      walk_at "r"
      have u1 : (updM (updM μ c1 (.lst (t.wishes.map WishD))) c2 (.lst (t.bounds.map bndD))) c1 = some (.lst (t.wishes.map WishD)) := by rw [updM_ne ne, updM_same]
      refine ⟨_, u1, by decide, ⟨μ, ?_, ?_⟩⟩
      · exact fun a x e => by
          unfold delM
          rw [if_neg (ne_fresh e h1)]
          exact sub_two h1 h2 ne a x e
      · have e1 : (t.prices.map fun f => fr (mulF f g)) = (t.mul g).prices.map fr := by show _ = (t.prices.map fun f => mulF f g).map fr; rw [List.map_map]; rfl
        have e2 : (t.bounds.map fun b => bndD (mulSide g b.1, mulSide g b.2)) = (t.mul g).bounds.map bndD := by show _ = (t.bounds.map fun b => (mulSide g b.1, mulSide g b.2)).map bndD; rw [List.map_map]; rfl
        rw [e1, e2]
        exact q
/-! ### orders -/
def IsOrd (d : D) (m : Int) : Prop := ∃ ns : List Int, d = .lst (ns.map D.int) ∧ ns.Perm (upTo m.toNat)
def OrdT (d : D) : Prop := plainD d = true ∧ ∀ xs, d = .lst xs → xs.length ≤ 1000 ∧ ∀ x ∈ xs, plainD x = true
def c_is_order : Ct := fun ds μ Q _ => ∃ (d : D) (m : Int), ds = [d, .int m] ∧ OrdT d ∧ 0 ≤ m ∧ m ≤ 1000 ∧ ∀ b : Bool, (b = true ↔ IsOrd d m) → Q (.bl b) μ
theorem all_whole : ∀ {xs : List D}, xs.all wholeB = true → ∃ ns : List Int, xs = ns.map D.int
  | [], _ => ⟨[], rfl⟩
  | x :: xs, h => by
    rw [List.all_cons, Bool.and_eq_true] at h
    obtain ⟨ns, rfl⟩ := all_whole h.2
    cases x with
    | int i => exact ⟨i :: ns, rfl⟩
    | _ => cases h.1
theorem eqDs_ints : ∀ {a b : List Int}, eqDs (a.map D.int) (b.map D.int) = decide (a = b)
  | [], [] => rfl
  | [], y :: b => by rw [decide_eq_false (by simp)]; rfl
  | x :: a, [] => by rw [decide_eq_false (by simp)]; rfl
  | x :: a, y :: b => by
    rw [List.map_cons, List.map_cons, eqDs_cons, eqD_int, eqDs_ints]
    by_cases h1 : x = y
    · by_cases h2 : a = b
      · rw [decide_eq_true h1, decide_eq_true h2, decide_eq_true (by rw [h1, h2])]; rfl
      · rw [decide_eq_true h1, decide_eq_false h2, decide_eq_false (show ¬ (x :: a = y :: b) from fun z => h2 (by injection z))]; rfl
    · rw [decide_eq_false h1, decide_eq_false (show ¬ (x :: a = y :: b) from fun z => h1 (by injection z))]; rfl
theorem upTo_sorted (n : Nat) : (upTo n).Pairwise (· ≤ ·) := by
  unfold upTo
  rw [List.pairwise_map]
  exact List.pairwise_le_range.imp fun h => Int.ofNat_le.mpr h
theorem sorted_unique {a b : List Int} (h : a.Perm b) (ha : a.Pairwise (· ≤ ·)) (hb : b.Pairwise (· ≤ ·)) : a = b := h.eq_of_pairwise (fun _ _ _ _ h1 h2 => Int.le_antisymm h1 h2) ha hb
def t_is_order : DTS :=
  (dSeq (dIf (dOr (dNot (dTru (dCB (gIsiC "list") (dCons (dVar 0) (dCons (dC (.raw (.ty "list"))) dNil))))) (dNot (dTru (dCB gAll (dCons (dLc (dSeqI (dVar 0)) (tgN 2) dYes (dCall c_is_whole (dCons (dVar 2) dNil)) [2]) dNil))))) (dRet (dC (.bl false))) dNext)
    (dRet (dOp gEq (dCB gSorted (dCons (dVar 0) dNil)) (dLR1 nLst (dVar 1)))))

theorem hb_is_order : HB c_is_order t_is_order 3 := by
  intro ds μ Q X h
  obtain ⟨d, m, rfl, ⟨hp, hx⟩, hm0, hm, q⟩ := h
  show t_is_order (ends Q XF) [some d, some (.int m), none] μ
  have sz : 16777216 ≤ sizeLine := by decide
  cases d with
  | raw _ => cases hp
  | scr _ => cases hp
  | lst xs =>
    obtain ⟨hl, hx⟩ := hx xs rfl
    simp! only [t_is_order]
    have e0 : xs = xs.map id := (List.map_id xs).symm
    rw [e0]
    refine comp_pure (enc := id) (g := fun x => .bl (wholeB x)) trivial (by omega) (fun x hx' acc R ha hR => ?_) ?_
    · simp! only [id]
      exact ⟨x, rfl, hx x hx', ha, hR⟩
    rw [← e0]
    have e1 : (xs.map fun x => D.bl (wholeB x)) = (xs.map wholeB).map D.bl := by rw [List.map_map]; rfl
    rw [e1]
    simp! only [blsOf_map]
    have e2 : (xs.map wholeB).all (fun b => b) = xs.all wholeB := by rw [List.all_map]; rfl
    rw [e2]
    cases hw : xs.all wholeB with
    | false =>
      walk_at "r"
      refine .of (q false ⟨(fun z => by cases z), fun ⟨ns, e, _⟩ => ?_⟩)
      injection e with e
      rw [e, List.all_map] at hw
      have : ns.all (wholeB ∘ D.int) = true := List.all_eq_true.mpr fun _ _ => rfl
      rw [this] at hw
      cases hw
    | true =>
      obtain ⟨ns, rfl⟩ := all_whole hw
      walk_at "r"
      refine ⟨ns, rfl, fun ns' h1 h2 => ?_⟩
      rw [rangeD_upTo]
      refine ⟨⟨by omega, by omega⟩, okN_ints, okN_ints, ?_⟩
      rw [eqDs_ints]
      refine .of (q _ ?_)
      constructor
      · intro z
        have z := of_decide_eq_true z
        exact ⟨ns, rfl, by rw [← z]; exact h1.symm⟩
      · rintro ⟨ns2, e, h3⟩
        injection e with e
        have : ns = ns2 := by
          have h := congrArg (List.map numOf) e
          rw [List.map_map, List.map_map, show (numOf ∘ D.int) = id from rfl, List.map_id, List.map_id] at h
          exact h
        subst this
        exact decide_eq_true (sorted_unique (h1.trans h3) h2 (upTo_sorted _))
  | _ =>
    simp! only [t_is_order]
    exact .of (q false ⟨(fun z => by cases z), fun ⟨ns, e, _⟩ => by cases e⟩)
def pickD (xs : List D) (ns : List Int) : List D := ns.map fun i => xs.getD i.toNat .non
def c_picked : Ct := fun ds μ Q _ => ∃ (d : D) (xs : List D) (ns : List Int), ds = [d, .lst (ns.map D.int)] ∧ (view μ d = .lst xs ∨ view μ d = .tup xs) ∧ (∀ i ∈ ns, 0 ≤ i ∧ i < xs.length) ∧ ns.length ≤ 1000 ∧ Q (.lst (pickD xs ns)) μ
def t_picked : DTS :=
  (dRet (dLc (dSeqI (dVar 1)) (tgN 2) dYes (dOp gIx (dVar 0) (dVar 2)) [2]))

theorem at_getD {xs : List D} {i : Int} (h0 : 0 ≤ i) (h1 : i < xs.length) : atI xs i = some (xs.getD i.toNat .non) := by
  obtain ⟨x, e1, e2⟩ := atI_lt h0 h1
  rw [e1, List.getD_eq_getElem?_getD, e2]
  rfl
theorem hb_picked : HB c_picked t_picked 3 := by
  intro ds μ Q X h
  obtain ⟨d, xs, ns, rfl, hv, hi, hl, q⟩ := h
  show t_picked (ends Q XF) [some d, some (.lst (ns.map D.int)), none] μ
  have sz : 16777216 ≤ sizeLine := by decide
  simp! only [t_picked]
  refine comp_pure (enc := D.int) (g := fun i => xs.getD i.toNat .non) trivial (by omega) (fun i hi' acc R ha hR => ?_) ?_
  · obtain ⟨b1, b2⟩ := hi i hi'
    have e := at_getD (xs := xs) b1 b2
    rcases hv with hv | hv
    · simp! only [hv, e]
      exact ⟨ha, hR⟩
    · simp! only [hv, e]
      exact ⟨ha, hR⟩
  · walk_at "r"
    exact .of q
def pickA {α : Type} [Inhabited α] (xs : List α) (ns : List Int) : List α := ns.map fun i => xs.getD i.toNat default
theorem pick_map {α : Type} [Inhabited α] {f : α → D} {xs : List α} {ns : List Int} (h : ∀ i ∈ ns, 0 ≤ i ∧ i < xs.length) : pickD (xs.map f) ns = (pickA xs ns).map f := by
  unfold pickD pickA
  rw [List.map_map]
  apply List.map_congr_left
  intro i hi
  obtain ⟨h0, h1⟩ := h i hi
  show (xs.map f).getD i.toNat .non = f (xs.getD i.toNat default)
  have : i.toNat < xs.length := by omega
  rw [List.getD_eq_getElem?_getD, List.getElem?_map, List.getD_eq_getElem?_getD, List.getElem?_eq_getElem this]
  rfl
def Shp.tied : Shp → Bool
  | .deal _ _ => false
  | .bench _ => false
  | _ => true
def ordShp : Shp → List Int → Shp
  | .way m ts b e, ns => .way m (pickA ts ns) b e
  | .tree m ts, ns => .tree m (pickA ts ns)
  | .pair m ts, ns => .pair m (pickA ts ns)
  | .stream m ts rs k, ns => .stream m (pickA ts ns) (pickA rs ns) k
  | s, _ => s
def c_ordered_shape : Ct := fun ds μ Q _ => ∃ (s : Shp) (ns : List Int), ds = [s.d, .lst (ns.map D.int)] ∧ s.Ok ∧ s.tied = true ∧ (∀ i ∈ ns, 0 ≤ i ∧ i < s.items) ∧ ns.length ≤ 1000 ∧ Q (ordShp s ns).d μ
def t_ordered_shape : DTS :=
  (dSeq (dSet 2 (dCB gTuple (dCons (dCall c_picked (dCons (dOp gIx (dVar 0) (dC (.int 2))) (dCons (dVar 1) dNil))) dNil)))
    (dSeq (dIf (dB (dOp gEq (dOp gIx (dVar 0) (dC (.int 0))) (dC (.str (PySem.Str.ofString "stream"))))) (dRet (dOp gAdd (dSl (dVar 0) dNoPart (dPart (dC (.int 2)))) (dTup (dCons (dVar 2) (dCons (dCB gTuple (dCons (dCall c_picked (dCons (dOp gIx (dVar 0) (dC (.int 3))) (dCons (dVar 1) dNil))) dNil)) (dCons (dOp gIx (dVar 0) (dC (.int 4))) dNil)))))) dNext)
    (dRet (dOp gAdd (dOp gAdd (dSl (dVar 0) dNoPart (dPart (dC (.int 2)))) (dTup (dCons (dVar 2) dNil))) (dSl (dVar 0) (dPart (dC (.int 3))) dNoPart)))))

theorem cut_two {a b : D} {r : List D} : cutD (a :: b :: r) none (some 2) = [a, b] := cut_take (i := 2)
theorem cut_three {a b c : D} {r : List D} : cutD (a :: b :: c :: r) (some 3) none = r := cut_drop (i := 2)
theorem pick_tis {μ : M} {ts : Tis} {ns : List Int} {Q : QD} {X : XD} (h : ∀ i ∈ ns, 0 ≤ i ∧ i < (ts.length : Int)) (hl : ns.length ≤ 1000) (q : Q (.lst ((pickA ts ns).map fr)) μ) : c_picked [tisD ts, .lst (ns.map D.int)] μ Q X :=
  ⟨tisD ts, ts.map fr, ns, rfl, .inr rfl, fun i hi => by rw [List.length_map]; exact h i hi, hl, by rw [pick_map h]; exact q⟩
theorem pick_intsT {μ : M} {rs : List Int} {ns : List Int} {Q : QD} {X : XD} (h : ∀ i ∈ ns, 0 ≤ i ∧ i < (rs.length : Int)) (hl : ns.length ≤ 1000) (q : Q (.lst ((pickA rs ns).map D.int)) μ) : c_picked [intsT rs, .lst (ns.map D.int)] μ Q X :=
  ⟨intsT rs, rs.map D.int, ns, rfl, .inr rfl, fun i hi => by rw [List.length_map]; exact h i hi, hl, by rw [pick_map h]; exact q⟩
theorem hb_ordered_shape : HB c_ordered_shape t_ordered_shape 3 := by
  intro ds μ Q X h
  obtain ⟨s, ns, rfl, ok, tied, hi, hl, q⟩ := h
  show t_ordered_shape (ends Q XF) [some s.d, some (.lst (ns.map D.int)), none] μ
  have sz : 16777216 ≤ sizeLine := by decide
  cases s with
  | deal rs w => cases tied
  | bench ls => cases tied
  | stream m ts rs k =>
    have hrs : rs.length = ts.length := ok.2.1
    simp! only [t_ordered_shape, Shp.d, Shp.word, Shp.rest]
    refine pick_tis hi hl ?_
    walk_at "r"
    refine ⟨by decide +kernel, by decide +kernel, ?_⟩
    simp! only [cut_two, atI_three, atI_four]
    refine pick_intsT (fun i h => by rw [hrs]; exact hi i h) hl ?_
    simp! only [cut_two, atI_three, atI_four]
    exact ⟨by decide, by decide, .of q⟩
  | way m ts b e =>
    simp! only [t_ordered_shape, Shp.d, Shp.word, Shp.rest]
    refine pick_tis hi hl ?_
    walk_at "r"
    refine ⟨by decide +kernel, by decide +kernel, ifS_dec (fun z => absurd z (by decide +kernel)) (fun _ => ?_)⟩
    simp! only [cut_two, cut_three]
    exact ⟨by decide, by decide, by decide, .of q⟩
  | tree m ts =>
    simp! only [t_ordered_shape, Shp.d, Shp.word, Shp.rest]
    refine pick_tis hi hl ?_
    walk_at "r"
    refine ⟨by decide +kernel, by decide +kernel, ifS_dec (fun z => absurd z (by decide +kernel)) (fun _ => ?_)⟩
    simp! only [cut_two, cut_three]
    exact ⟨by decide, by decide, by decide, .of q⟩
  | pair m ts =>
    simp! only [t_ordered_shape, Shp.d, Shp.word, Shp.rest]
    refine pick_tis hi hl ?_
    walk_at "r"
    refine ⟨by decide +kernel, by decide +kernel, ifS_dec (fun z => absurd z (by decide +kernel)) (fun _ => ?_)⟩
    simp! only [cut_two, cut_three]
    exact ⟨by decide, by decide, by decide, .of q⟩
/-- whether no wish deals or is a row of works -/
def wordD : D → Str
  | .tup (.str w :: _) => w
  | _ => PySem.Str.ofString ""
def looseB (w : Str) : Bool := decide (w = PySem.Str.ofString "deal") || decide (w = PySem.Str.ofString "bench")
def Task.tied (t : Task) : Bool := t.wishes.all fun w => !looseB (wordD w.1)
theorem Shp.tied_word (s : Shp) : s.tied = !looseB s.word := by cases s <;> (dsimp only [Shp.tied, Shp.word]; decide +kernel)
theorem inD_loose {w : Str} : inD (.str w) [.str (PySem.Str.ofString "deal"), .str (PySem.Str.ofString "bench")] = looseB w := by
  unfold inD looseB
  rw [List.any_cons, List.any_cons, List.any_nil, eqD_str, eqD_str, Bool.or_false]
  congr 1 <;> (apply decide_eq_decide.mpr; exact ⟨Eq.symm, Eq.symm⟩)
/-- a shape's ties put in another order, over data -/
def ordD : D → List Int → D
  | .tup [.str w, m, .tup ts, .tup rs, k], ns => .tup [.str w, m, .tup (pickD ts ns), .tup (pickD rs ns), k]
  | .tup (.str w :: m :: .tup ts :: r), ns => .tup (.str w :: m :: .tup (pickD ts ns) :: r)
  | d, _ => d
theorem ordD_shp {s : Shp} {ns : List Int} (ok : s.Ok) (ht : s.tied = true) (hi : ∀ i ∈ ns, 0 ≤ i ∧ i < s.items) : ordD s.d ns = (ordShp s ns).d := by
  cases s with
  | deal rs w => cases ht
  | bench ls => cases ht
  | stream m ts rs k =>
    have hrs : rs.length = ts.length := ok.2.1
    show D.tup [.str (PySem.Str.ofString "stream"), .int m, .tup (pickD (ts.map fr) ns), .tup (pickD (rs.map D.int) ns), intsT k] = D.tup [.str (PySem.Str.ofString "stream"), .int m, .tup ((pickA ts ns).map fr), .tup ((pickA rs ns).map D.int), intsT k]
    rw [pick_map hi, pick_map (xs := rs) (fun i h => by rw [hrs]; exact hi i h)]
  | way m ts b e =>
    show D.tup [.str (PySem.Str.ofString "way"), .int m, .tup (pickD (ts.map fr) ns), .int b, .int e] = D.tup [.str (PySem.Str.ofString "way"), .int m, .tup ((pickA ts ns).map fr), .int b, .int e]
    rw [pick_map hi]
  | tree m ts =>
    show D.tup [.str (PySem.Str.ofString "tree"), .int m, .tup (pickD (ts.map fr) ns)] = D.tup [.str (PySem.Str.ofString "tree"), .int m, .tup ((pickA ts ns).map fr)]
    rw [pick_map hi]
  | pair m ts =>
    show D.tup [.str (PySem.Str.ofString "pair"), .int m, .tup (pickD (ts.map fr) ns)] = D.tup [.str (PySem.Str.ofString "pair"), .int m, .tup ((pickA ts ns).map fr)]
    rw [pick_map hi]
def Task.ord (t : Task) (ns : List Int) : Task := { t with prices := pickA t.prices ns, wishes := t.wishes.map fun w => (ordD w.1 ns, pickA w.2 ns), bounds := pickA t.bounds ns, weights := pickA t.weights ns }
def c_ordered (C : Addr) : Ct := fun ds μ Q X => ∃ (t : Task) (d : D), ds = [t.d, d] ∧ TaskP t ∧ OrdT d ∧ (¬ (IsOrd d t.prices.length ∧ t.tied = true) → X (.ref C) none μ) ∧ (∀ ns : List Int, d = .lst (ns.map D.int) → ns.Perm (upTo t.prices.length) → t.tied = true → Q (t.ord ns).d μ)
def t_ordered (C_NoOrder : Addr) : DTS :=
  (dSeq (dAsg (dCall c_copied (dCons (dVar 0) dNil)) (tgT (tgCons (tgN 2) (tgCons (tgN 3) (tgCons (tgN 4) (tgCons (tgN 5) (tgCons (tgN 6) tgNil)))))))
    (dSeq (dIf (dOr (dNot (dTru (dCall c_is_order (dCons (dVar 1) (dCons (dCB gLen (dCons (dVar 2) dNil)) dNil))))) (dB (dOp gNe (dLc (dSeqI (dVar 3)) (tgN 7) (dB (dOp (gIn false) (dOp gIx (dOp gIx (dVar 7) (dC (.int 0))) (dC (.int 0))) (dTup (dCons (dC (.str (PySem.Str.ofString "deal"))) (dCons (dC (.str (PySem.Str.ofString "bench"))) dNil))))) (dVar 7) [7]) (dLst dNil)))) (dRaise C_NoOrder) dNext)
    (dSeq (dSet 3 (dLc (dSeqI (dVar 3)) (tgT (tgCons (tgN 8) (tgCons (tgN 9) tgNil))) dYes (dTup (dCons (dCall c_ordered_shape (dCons (dVar 8) (dCons (dVar 1) dNil))) (dCons (dCall c_picked (dCons (dVar 9) (dCons (dVar 1) dNil))) dNil))) [8, 9]))
    (dRet (dTup (dCons (dCall c_picked (dCons (dVar 2) (dCons (dVar 1) dNil))) (dCons (dVar 3) (dCons (dCall c_picked (dCons (dVar 4) (dCons (dVar 1) dNil))) (dCons (dCall c_picked (dCons (dVar 5) (dCons (dVar 1) dNil))) (dCons (dVar 6) dNil))))))))))

theorem upTo_mem {n : Nat} {i : Int} : i ∈ upTo n ↔ 0 ≤ i ∧ i < n := by
  unfold upTo
  rw [List.mem_map]
  constructor
  · rintro ⟨k, hk, rfl⟩
    have := List.mem_range.mp hk
    show (0 : Int) ≤ (k : Int) ∧ (k : Int) < n
    omega
  · rintro ⟨h0, h1⟩
    exact ⟨i.toNat, List.mem_range.mpr (by omega), by show ((i.toNat : Nat) : Int) = i; omega⟩
theorem wish_word {w : D × List Int} {s : Shp} (h : w.1 = s.d) : wordD w.1 = s.word := by rw [h]; rfl
theorem okN_tis (ts : Tis) : okN 2 (tisD ts) = true := by
  show (ts.map fr).all (okN 1) = true
  rw [List.all_map]
  exact List.all_eq_true.mpr fun x _ => rfl
theorem okN_intsT (ns : List Int) : okN 2 (intsT ns) = true := by
  show (ns.map D.int).all (okN 1) = true
  rw [List.all_map]
  exact List.all_eq_true.mpr fun x _ => rfl
theorem okN_shp (s : Shp) : okN 3 s.d = true := by
  show (D.str s.word :: s.rest).all (okN 2) = true
  refine List.all_eq_true.mpr fun x hx => ?_
  cases s <;> (dsimp only [Shp.rest, Shp.word] at hx; simp only [List.mem_cons, List.not_mem_nil, or_false] at hx; rcases hx with rfl | hx) <;> first
    | (decide +kernel)
    | skip
  all_goals (repeat' first | (subst hx; first | rfl | exact okN_tis _ | exact okN_intsT _) | (rcases hx with rfl | hx; first | rfl | exact okN_tis _ | exact okN_intsT _))
theorem okN_wish {w : D × List Int} {s : Shp} (h : w.1 = s.d) : okN 63 (WishD w) = true := by
  show ([w.1, .lst (w.2.map D.int)]).all (okN 62) = true
  rw [List.all_cons, List.all_cons, List.all_nil, h, okN_mono (okN_shp s) (by decide), okN_ints (n := 60)]
  rfl
theorem filter_loose : ∀ {ws : List (D × List Int)}, ((ws.map WishD).filter fun d => match d with | .tup (x :: _) => looseB (wordD x) | _ => false).isEmpty = ws.all fun w => !looseB (wordD w.1)
  | [] => rfl
  | w :: ws => by
    rw [List.map_cons, List.filter_cons, List.all_cons]
    show List.isEmpty (if looseB (wordD w.1) = true then WishD w :: _ else _) = _
    cases h : looseB (wordD w.1) with
    | true => simp
    | false =>
      rw [if_neg (by decide), filter_loose]
      simp
theorem hb_ordered {C_NoOrder : Addr} : HBX (c_ordered C_NoOrder) (t_ordered C_NoOrder) 10 := by
  intro ds μ Q X h
  obtain ⟨t, d, rfl, ht, hd, qx, q⟩ := h
  show t_ordered C_NoOrder (ends Q (FinX X)) [some t.d, some d, none, none, none, none, none, none, none, none] μ
  have sz : 16777216 ≤ sizeLine := by decide
  have hn := ht.n2
  have hb := ht.bl
  have hg := ht.gl
  have hwl := ht.wl
  simp! only [t_ordered]
  refine ⟨t, rfl, ht, fun c1 c2 h1 h2 ne => ?_⟩
  have hsub := sub_two (x := .lst (t.wishes.map WishD)) (y := .lst (t.bounds.map bndD)) h1 h2 ne
  have u1 : (updM (updM μ c1 (.lst (t.wishes.map WishD))) c2 (.lst (t.bounds.map bndD))) c1 = some (.lst (t.wishes.map WishD)) := by rw [updM_ne ne, updM_same]
  have u2 : (updM (updM μ c1 (.lst (t.wishes.map WishD))) c2 (.lst (t.bounds.map bndD))) c2 = some (.lst (t.bounds.map bndD)) := updM_same
  generalize updM (updM μ c1 (.lst (t.wishes.map WishD))) c2 (.lst (t.bounds.map bndD)) = μ2 at *
  walk_at "r"
  refine ⟨d, _, rfl, hd, by omega, by rw [List.length_map]; omega, fun b hbd => ?_⟩
  rw [List.length_map] at hbd
  cases b with
  | false =>
    walk_at "r"
    exact ⟨μ, hsub, qx fun z => absurd (hbd.mpr z.1) (by decide)⟩
  | true =>
    obtain ⟨ns, rfl, hp⟩ := hbd.mp rfl
    rw [Int.toNat_natCast] at hp
    have hpl : ns.length = t.prices.length := by rw [hp.length_eq, upTo_len]
    have hin : ∀ i ∈ ns, 0 ≤ i ∧ i < (t.prices.length : Int) := fun i hi => upTo_mem.mp (hp.mem_iff.mp hi)
    simp! only [u1]
    refine comp_filter (p := fun d => match d with | .tup (x :: _) => looseB (wordD x) | _ => false) u1 (by rw [List.length_map]; omega) (fun x hx acc R ha h1 h2 => ?_) ?_
    · obtain ⟨w, hw, rfl⟩ := List.mem_map.mp hx
      obtain ⟨_, s, es, _, _⟩ := ht.ws w hw
      have ew := wish_word es
      have h1' : looseB s.word = true → R (acc ++ [WishD w]) μ2 := fun z => h1 (by show looseB (wordD w.1) = true; rw [ew]; exact z)
      have h2' : looseB s.word = false → R acc μ2 := fun z => h2 (by show looseB (wordD w.1) = false; rw [ew]; exact z)
      simp! only [WishD, es, Shp.d, inD_loose, flatD]
      refine ⟨by decide, kTest_of (fun h => ?_) (fun h => h2' h)⟩
      walk_at "r"
      refine ⟨ha, ?_⟩
      have := h1' h
      rw [WishD, es, Shp.d] at this
      exact this
    · walk_at "r"
      refine ⟨by decide, okN_lst (n := 63) (fun x hx => ?_), by decide, ?_⟩
      · obtain ⟨w, hw, rfl⟩ := List.mem_map.mp (List.mem_filter.mp hx).1
        obtain ⟨_, s, es, _, _⟩ := ht.ws w hw
        exact okN_wish es
      rw [eqDs_nil_r, filter_loose]
      cases htd : t.wishes.all fun w => !looseB (wordD w.1) with
      | false =>
        walk_at "r"
        exact ⟨μ, hsub, qx fun z => by rw [Task.tied, htd] at z; cases z.2⟩
      | true =>
        have q := q ns rfl hp htd
        simp! only [u1]
        refine comp_pure (enc := WishD) (g := fun w => WishD (ordD w.1 ns, pickA w.2 ns)) u1 (by omega) (fun w hw acc R ha hR => ?_) ?_
        · obtain ⟨hl, s, es, ok, it⟩ := ht.ws w hw
          have htied : s.tied = true := by
            rw [Shp.tied_word, ← wish_word es]
            exact List.all_eq_true.mp htd w hw
          have hin' : ∀ i ∈ ns, 0 ≤ i ∧ i < s.items := fun i hi => by rw [it, hl]; exact hin i hi
          have eo : ordD w.1 ns = (ordShp s ns).d := by rw [es]; exact ordD_shp ok htied hin'
          rw [WishD, eo] at hR
          simp! only [WishD]
          refine ⟨s, ns, by rw [es], ok, htied, hin', by omega, ?_⟩
          walk_at "r"
          refine ⟨_, w.2.map D.int, ns, rfl, .inl rfl, fun i hi => by rw [List.length_map, hl]; exact hin i hi, by omega, ?_⟩
          rw [pick_map (fun i hi => by rw [hl]; exact hin i hi)]
          walk_at "r"
          exact ⟨by decide, ha, hR⟩
        walk_at "r"
        refine ⟨_, t.prices.map fr, ns, rfl, .inl rfl, fun i hi => by rw [List.length_map]; exact hin i hi, by omega, ?_⟩
        walk_at "r"
        refine ⟨_, t.bounds.map bndD, ns, rfl, .inl (view_cell u2), fun i hi => by rw [List.length_map, hb]; exact hin i hi, by omega, ?_⟩
        walk_at "r"
        refine ⟨_, t.weights.map wgtD, ns, rfl, .inl rfl, fun i hi => by rw [List.length_map, hg]; exact hin i hi, by omega, ?_⟩
        walk_at "r"
        refine ⟨by decide, ⟨μ, hsub, ?_⟩⟩
        rw [pick_map hin, pick_map (xs := t.bounds) (fun i hi => by rw [hb]; exact hin i hi), pick_map (xs := t.weights) (fun i hi => by rw [hg]; exact hin i hi)]
        have e3 : (t.wishes.map fun w => WishD (ordD w.1 ns, pickA w.2 ns)) = (t.wishes.map fun w => (ordD w.1 ns, pickA w.2 ns)).map WishD := by rw [List.map_map]; rfl
        rw [e3]
        exact q
/-! ### places called otherwise -/
def nmA (ns : List Int) (i : Int) : Int := ns.getD i.toNat 0
theorem at_nm {ns : List Int} {i : Int} (h0 : 0 ≤ i) (h1 : i < ns.length) : atI (ns.map D.int) i = some (.int (nmA ns i)) := by
  rw [at_getD h0 (by rw [List.length_map]; exact h1)]
  have : i.toNat < ns.length := by omega
  unfold nmA
  rw [List.getD_eq_getElem?_getD, List.getElem?_map, List.getD_eq_getElem?_getD, List.getElem?_eq_getElem this]
  rfl
def nmT (ns : List Int) (t : Int × Int) : Int × Int := (nmA ns t.1, nmA ns t.2)
def nmNeed (ns k : List Int) : List Int := (upTo ns.length).map fun p => nmA k (ns.idxOf p : Nat)
def Shp.webbed : Shp → Bool
  | .way _ _ _ _ => true
  | .tree _ _ => true
  | .stream _ _ _ _ => true
  | _ => false
def Shp.many : Shp → Int
  | .way m _ _ _ => m
  | .tree m _ => m
  | .pair m _ => m
  | .stream m _ _ _ => m
  | _ => 0
def plcShp : Shp → List Int → Shp
  | .way m ts b e, ns => .way m (ts.map (nmT ns)) (nmA ns b) (nmA ns e)
  | .tree m ts, ns => .tree m (ts.map (nmT ns))
  | .stream m ts rs k, ns => .stream m (ts.map (nmT ns)) rs (nmNeed ns k)
  | s, _ => s
def c_placed_shape : Ct := fun ds μ Q _ => ∃ (s : Shp) (ns : List Int), ds = [s.d, .lst (ns.map D.int)] ∧ s.Ok ∧ s.webbed = true ∧ ns.Perm (upTo s.many.toNat) ∧ Q (plcShp s ns).d μ
def t_placed_shape : DTS :=
  (dSeq (dSet 2 (dCB gTuple (dCons (dLc (dSeqI (dOp gIx (dVar 0) (dC (.int 2)))) (tgT (tgCons (tgN 4) (tgCons (tgN 5) tgNil))) dYes (dTup (dCons (dOp gIx (dVar 1) (dVar 4)) (dCons (dOp gIx (dVar 1) (dVar 5)) dNil))) [4, 5]) dNil)))
    (dSeq (dSet 3 (dSl (dVar 0) (dPart (dC (.int 3))) dNoPart))
    (dSeq (dIf (dB (dOp gEq (dOp gIx (dVar 0) (dC (.int 0))) (dC (.str (PySem.Str.ofString "way"))))) (dSet 3 (dTup (dCons (dOp gIx (dVar 1) (dOp gIx (dVar 0) (dC (.int 3)))) (dCons (dOp gIx (dVar 1) (dOp gIx (dVar 0) (dC (.int 4)))) dNil)))) dNext)
    (dSeq (dIf (dB (dOp gEq (dOp gIx (dVar 0) (dC (.int 0))) (dC (.str (PySem.Str.ofString "stream"))))) (dSet 3 (dTup (dCons (dOp gIx (dVar 0) (dC (.int 3))) (dCons (dCB gTuple (dCons (dLc (dRange1 (dCons (dCB gLen (dCons (dVar 1) dNil)) dNil)) (tgN 6) dYes (dOp gIx (dOp gIx (dVar 0) (dC (.int 4))) (dM gIndex (dVar 1) (dCons (dVar 6) dNil))) [6]) dNil)) dNil)))) dNext)
    (dRet (dOp gAdd (dOp gAdd (dSl (dVar 0) dNoPart (dPart (dC (.int 2)))) (dTup (dCons (dVar 2) dNil))) (dVar 3)))))))

theorem Tie.inP {m : Int} {t : Int × Int} (h : Tie m t) : InP m t := ⟨h.1, h.2.1, h.2.2.1, h.2.2.2.1⟩
theorem plc_ties {ns : List Int} {ts : Tis} {μ : M} {δ : Sl} {Q : List D → M → Prop} {f : TGD} {tt : DTT} {te : DTE} (hi : ∀ t ∈ ts, InP ns.length t) (hl : ts.length ≤ 16)
    (st : ∀ t ∈ ts, atI (ns.map D.int) t.1 = some (.int (nmA ns t.1)) → atI (ns.map D.int) t.2 = some (.int (nmA ns t.2)) → ∀ (acc : List D) (R : List D → M → Prop), acc.length < sizeLine → R (acc ++ [fr (nmT ns t)]) μ → turnC (f μ (fr t)) tt te acc R δ μ) (q : Q ((ts.map (nmT ns)).map fr) μ) : compJ (fun _ => True) f tt te Q δ (ts.map fr) μ := by
  have sz : 16777216 ≤ sizeLine := by decide
  refine comp_pure (enc := fr) (g := fun t => fr (nmT ns t)) trivial (by omega) (fun t ht acc R ha hR => ?_) ?_
  · obtain ⟨a, b, c, d⟩ := hi t ht
    exact st t ht (at_nm a b) (at_nm c d) acc R ha hR
  · have e : (ts.map fun t => fr (nmT ns t)) = (ts.map (nmT ns)).map fr := by rw [List.map_map]; rfl
    rw [e]
    exact q
theorem idx_facts {ns : List Int} {p : Int} (h : p ∈ ns) : ns.idxOf p < ns.length ∧ ns[ns.idxOf p]? = some p ∧ ∀ m z, m < ns.idxOf p → ns[m]? = some z → z ≠ p := by
  have h1 := List.idxOf_lt_length_of_mem h
  refine ⟨h1, ?_, fun m z hm hz e => ?_⟩
  · rw [List.getElem?_eq_getElem h1, List.getElem_idxOf]
  · have := List.not_of_lt_findIdx (p := (· == p)) (xs := ns) hm
    have hlt : m < ns.length := by omega
    rw [List.getElem?_eq_getElem hlt] at hz
    injection hz with hz
    rw [hz, e] at this
    simp at this
theorem hb_placed_shape : HB c_placed_shape t_placed_shape 7 := by
  intro ds μ Q X h
  obtain ⟨s, ns, rfl, ok, hw, hp, q⟩ := h
  show t_placed_shape (ends Q XF) [some s.d, some (.lst (ns.map D.int)), none, none, none, none, none] μ
  have sz : 16777216 ≤ sizeLine := by decide
  have hlen := hp.length_eq
  rw [upTo_len] at hlen
  cases s with
  | deal rs w => cases hw
  | bench ls => cases hw
  | pair m ts => cases hw
  | way m ts b e =>
    obtain ⟨web, hb, he, _⟩ := ok
    have hm : (ns.length : Int) = m := by have := web.m2; rw [hlen]; show ((m.toNat : Nat) : Int) = m; omega
    simp! only [t_placed_shape, Shp.d, Shp.word, Shp.rest, tisD]
    refine plc_ties (ns := ns) (fun t ht => by rw [hm]; exact Tie.inP (web.tie t ht)) web.l16 (fun t ht a1 a2 acc R ha hR => ?_) ?_
    · simp! only [fr, a1, a2]
      exact ⟨by decide, ha, hR⟩
    have a1 := at_nm (ns := ns) hb.1 (by rw [hm]; exact hb.2)
    have a2 := at_nm (ns := ns) he.1 (by rw [hm]; exact he.2)
    simp! only [cut_three]
    refine ⟨by decide +kernel, by decide +kernel, ?_⟩
    simp! only [a1, a2, atI_three, atI_four]
    refine ⟨by decide, by decide +kernel, by decide +kernel, ifS_dec (fun z => absurd z (by decide +kernel)) (fun _ => ?_)⟩
    simp! only [cut_two]
    exact ⟨by decide, by decide, by decide, .of q⟩
  | tree m ts =>
    have web := ok
    have hm : (ns.length : Int) = m := by have := Web.m2 web; rw [hlen]; show ((m.toNat : Nat) : Int) = m; omega
    simp! only [t_placed_shape, Shp.d, Shp.word, Shp.rest, tisD]
    refine plc_ties (ns := ns) (fun t ht => by rw [hm]; exact Tie.inP (Web.tie web t ht)) (Web.l16 web) (fun t ht a1 a2 acc R ha hR => ?_) ?_
    · simp! only [fr, a1, a2]
      exact ⟨by decide, ha, hR⟩
    simp! only [cut_three]
    refine ⟨by decide +kernel, by decide +kernel, ifS_dec (fun z => absurd z (by decide +kernel)) (fun _ => ?_)⟩
    walk_at "r"
    refine ⟨by decide +kernel, by decide +kernel, ifS_dec (fun z => absurd z (by decide +kernel)) (fun _ => ?_)⟩
    simp! only [cut_two]
    exact ⟨by decide, by decide, by decide, .of q⟩
  | stream m ts rs k =>
    obtain ⟨web, hrs, _, hk, _⟩ := ok
    have hm : (ns.length : Int) = m := by have := web.m2; rw [hlen]; show ((m.toNat : Nat) : Int) = m; omega
    simp! only [t_placed_shape, Shp.d, Shp.word, Shp.rest, tisD]
    refine plc_ties (ns := ns) (fun t ht => by rw [hm]; exact Tie.inP (web.tie t ht)) web.l16 (fun t ht a1 a2 acc R ha hR => ?_) ?_
    · simp! only [fr, a1, a2]
      exact ⟨by decide, ha, hR⟩
    simp! only [cut_three]
    refine ⟨by decide +kernel, by decide +kernel, ifS_dec (fun z => absurd z (by decide +kernel)) (fun _ => ?_)⟩
    walk_at "r"
    refine ⟨by decide +kernel, by decide +kernel, ?_⟩
    simp! only [atI_three, atI_four, List.length_map]
    have hm10 := web.m10
    refine ⟨⟨by omega, by omega⟩, ?_⟩
    rw [Int.toNat_natCast, rangeD_upTo]
    refine comp_pure (enc := D.int) (g := fun p => .int (nmA k (ns.idxOf p : Nat))) trivial (by rw [upTo_len]; have := web.m10; omega) (fun p hp' acc R ha hR => ?_) ?_
    · have hpn : p ∈ ns := by
        refine hp.mem_iff.mpr ?_
        show p ∈ upTo m.toNat
        rw [show m.toNat = ns.length from by omega]
        exact hp'
      obtain ⟨i1, i2, i3⟩ := idx_facts hpn
      have a3 := at_nm (ns := k) (i := (ns.idxOf p : Nat)) (by omega) (by omega)
      simp! only [atI_four]
      refine ⟨⟨_, rfl⟩, ns.map D.int, ns.idxOf p, .int p, rfl, rfl, List.all_eq_true.mpr (fun x hx => by obtain ⟨n, _, rfl⟩ := List.mem_map.mp hx; rfl), by rw [List.getElem?_map, i2]; rfl, by rw [eqD_int]; exact decide_eq_true rfl, fun j z hj hz => ?_, ?_⟩
      · rw [List.getElem?_map] at hz
        cases hx : ns[j]? with
        | none => rw [hx] at hz; cases hz
        | some x =>
          rw [hx] at hz
          injection hz with hz
          rw [← hz, eqD_int]
          exact decide_eq_false (i3 j x hj hx)
      simp! only [intsT, a3]
      exact ⟨ha, hR⟩
    simp! only [cut_two]
    refine ⟨by decide, by decide, by decide, by decide, .of ?_⟩
    have e : ((upTo ns.length).map fun p => D.int (nmA k (ns.idxOf p : Nat))) = (nmNeed ns k).map D.int := by unfold nmNeed; rw [List.map_map]; rfl
    rw [e]
    exact q
def Task.plc (t : Task) (i : Nat) (s : Shp) (ns p : List Int) : Task := { t with wishes := t.wishes.set i ((plcShp s ns).d, p) }
def c_placed (C D' : Addr) : Ct := fun ds μ Q X => ∃ (t : Task) (d e : D), ds = [t.d, d, e] ∧ TaskP t ∧ plainD d = true ∧ OrdT e ∧
  ((∀ i : Nat, d = .int i → i < t.wishes.length → False) → X (.ref C) none μ) ∧
  (∀ (i : Nat) (s : Shp) (p : List Int), d = .int i → t.wishes[i]? = some (s.d, p) → ¬ (s.webbed = true ∧ IsOrd e s.many) → X (.ref D') none μ) ∧
  (∀ (i : Nat) (s : Shp) (p ns : List Int), d = .int i → t.wishes[i]? = some (s.d, p) → s.webbed = true → e = .lst (ns.map D.int) → ns.Perm (upTo s.many.toNat) → Q (t.plc i s ns p).d μ)
def t_placed (C_NoOrder C_NoWish : Addr) : DTS :=
  (dSeq (dAsg (dCall c_copied (dCons (dVar 0) dNil)) (tgT (tgCons (tgN 3) (tgCons (tgN 4) (tgCons (tgN 5) (tgCons (tgN 6) (tgCons (tgN 7) tgNil)))))))
    (dSeq (dIf (dOr (dNot (dTru (dCall c_is_whole (dCons (dVar 1) dNil)))) (dNot (dB (dChain gLe gLt (dC (.int 0)) (dVar 1) (dCB gLen (dCons (dVar 4) dNil)))))) (dRaise C_NoWish) dNext)
    (dSeq (dAsg (dOp gIx (dVar 4) (dVar 1)) (tgT (tgCons (tgN 8) (tgCons (tgN 9) tgNil))))
    (dSeq (dIf (dOr (dB (dOp (gIn true) (dOp gIx (dVar 8) (dC (.int 0))) (dTup (dCons (dC (.str (PySem.Str.ofString "way"))) (dCons (dC (.str (PySem.Str.ofString "tree"))) (dCons (dC (.str (PySem.Str.ofString "stream"))) dNil)))))) (dNot (dTru (dCall c_is_order (dCons (dVar 2) (dCons (dOp gIx (dVar 8) (dC (.int 1))) dNil)))))) (dRaise C_NoOrder) dNext)
    (dSeq (dSetIx (dTup (dCons (dCall c_placed_shape (dCons (dVar 8) (dCons (dVar 2) dNil))) (dCons (dVar 9) dNil))) (dVar 4) (dVar 1))
    (dRet (dTup (dCons (dVar 3) (dCons (dFz (dVar 4)) (dCons (dFz (dVar 5)) (dCons (dVar 6) (dCons (dVar 7) dNil))))))))))))

theorem inD_web (s : Shp) : inD (.str s.word) [.str (PySem.Str.ofString "way"), .str (PySem.Str.ofString "tree"), .str (PySem.Str.ofString "stream")] = s.webbed := by
  cases s <;> (dsimp only [Shp.word, Shp.webbed]; decide +kernel)
theorem web_rest {s : Shp} (h : s.webbed = true) : ∃ r, s.rest = .int s.many :: r := by
  cases s <;> first | exact ⟨_, rfl⟩ | cases h
theorem web_many {s : Shp} (ok : s.Ok) (h : s.webbed = true) : 2 ≤ s.many ∧ s.many ≤ 10 := by
  cases s with
  | way m ts b e => exact ⟨ok.1.m2, ok.1.m10⟩
  | tree m ts => exact ⟨Web.m2 ok, Web.m10 ok⟩
  | stream m ts rs k => exact ⟨ok.1.m2, ok.1.m10⟩
  | _ => cases h
theorem hb_placed {C_NoOrder C_NoWish : Addr} : HBX (c_placed C_NoWish C_NoOrder) (t_placed C_NoOrder C_NoWish) 10 := by
  intro ds μ Q X h
  obtain ⟨t, d, e, rfl, ht, hd, he, qw, qo, q⟩ := h
  show t_placed C_NoOrder C_NoWish (ends Q (FinX X)) [some t.d, some d, some e, none, none, none, none, none, none, none] μ
  have sz : 16777216 ≤ sizeLine := by decide
  have hwl := ht.wl
  simp! only [t_placed]
  refine ⟨t, rfl, ht, fun c1 c2 h1 h2 ne => ?_⟩
  have hsub := sub_two (x := .lst (t.wishes.map WishD)) (y := .lst (t.bounds.map bndD)) h1 h2 ne
  have u1 : (updM (updM μ c1 (.lst (t.wishes.map WishD))) c2 (.lst (t.bounds.map bndD))) c1 = some (.lst (t.wishes.map WishD)) := by rw [updM_ne ne, updM_same]
  have u2 : (updM (updM μ c1 (.lst (t.wishes.map WishD))) c2 (.lst (t.bounds.map bndD))) c2 = some (.lst (t.bounds.map bndD)) := updM_same
  walk_at "r"
  refine ⟨d, rfl, hd, ?_⟩
  cases hwh : wholeB d with
  | false =>
    walk_at "r"
    exact ⟨μ, hsub, qw fun i z _ => by rw [z] at hwh; cases hwh⟩
  | true =>
    obtain ⟨i, rfl⟩ : ∃ i, d = .int i := by cases d <;> first | exact ⟨_, rfl⟩ | cases hwh
    simp! only [view_cell u1]
    cases h0 : decide (0 ≤ i) with
    | false =>
      walk_at "r"
      exact ⟨μ, hsub, qw fun j z _ => by injection z with z; exact absurd (Int.natCast_nonneg j) (by rw [← z]; exact of_decide_eq_false h0)⟩
    | true =>
      simp! only [view_cell u1, List.length_map]
      cases h3 : decide (i < (t.wishes.length : Int)) with
      | false =>
        walk_at "r"
        exact ⟨μ, hsub, qw fun j z hj => by injection z with z; exact absurd (Int.ofNat_lt.mpr hj) (by rw [← z]; exact of_decide_eq_false h3)⟩
      | true =>
        have h0 := of_decide_eq_true h0
        have h3 := of_decide_eq_true h3
        obtain ⟨j, rfl⟩ : ∃ j : Nat, i = j := ⟨i.toNat, by omega⟩
        have hj : j < t.wishes.length := by omega
        have ew := List.getElem?_eq_getElem hj
        generalize t.wishes[j] = w at ew
        have hwm : w ∈ t.wishes := List.mem_of_getElem? ew
        obtain ⟨_, s, es, ok, _⟩ := ht.ws w hwm
        have ew' : t.wishes[j]? = some (s.d, w.2) := by rw [ew, ← es]
        have qo := fun z => qo j s w.2 rfl ew' z
        have q := fun ns a b c => q j s w.2 ns rfl ew' a b c
        have ea : atI (t.wishes.map WishD) (j : Int) = some (.tup [s.d, .lst (w.2.map D.int)]) := by
          rw [at_getD h0 (by rw [List.length_map]; exact h3), List.getD_eq_getElem?_getD, List.getElem?_map, Int.toNat_natCast, ew, ← es]
          rfl
        simp! only [view_cell u1, ea, Shp.d, inD_web, flatD]
        refine ⟨by decide, ?_⟩
        cases hwb : s.webbed with
        | false =>
          walk_at "r"
          exact ⟨μ, hsub, qo fun z => by rw [hwb] at z; cases z.1⟩
        | true =>
          obtain ⟨r, er⟩ := web_rest hwb
          obtain ⟨m2, m10⟩ := web_many ok hwb
          simp! only [er]
          refine ⟨e, _, rfl, he, by omega, by omega, fun b hbd => ?_⟩
          cases b with
          | false =>
            walk_at "r"
            exact ⟨μ, hsub, qo fun z => absurd (hbd.mpr z.2) (by decide)⟩
          | true =>
            obtain ⟨ns, rfl, hp⟩ := hbd.mp rfl
            have q := q ns hwb rfl hp
            walk_at "r"
            refine ⟨s, ns, by rw [Shp.d, er], ok, hwb, hp, ?_⟩
            walk_at "r"
            refine ⟨by decide, _, u1, ?_⟩
            rw [List.length_map, ixN_nat hj]
            simp! only [view_cell, updM_same, updM_ne, ne, u1, u2]
            refine ⟨_, rfl, t.bounds.map bndD, ?_, by decide, ⟨μ, ?_, ?_⟩⟩
            · unfold delM
              rw [if_neg (Ne.symm ne), updM_ne (Ne.symm ne), updM_same]
            · intro a x ex
              unfold delM
              rw [if_neg (ne_fresh ex h2), if_neg (ne_fresh ex h1), updM_ne (ne_fresh ex h1), updM_ne (ne_fresh ex h2), updM_ne (ne_fresh ex h1)]
              exact ex
            · have e3 : (t.wishes.map WishD).set j (.tup [(plcShp s ns).d, .lst (w.2.map D.int)]) = (t.wishes.set j ((plcShp s ns).d, w.2)).map WishD := by
                rw [List.map_set]
                rfl
              rw [e3]
              exact q
end NB
set_option Elab.async false
set_option linter.all false
set_option maxRecDepth 100000
set_option maxHeartbeats 2000000
/-! Data seen through cells: a whole expression reckoned with all cells lent out; deep freezing. -/
namespace DL
open PySem PySem.Spec L2
mutual
/-- d, seen through the cells that are in μ and not in μ2 -/
inductive DV (μ μ2 : M) : D → D → Prop
  | same (d : D) : DV μ μ2 d d
  | cel {p : Addr} {ds es : List D} : μ p = some (.lst ds) → μ2 p = none → DVA μ μ2 ds es → DV μ μ2 (.raw (.ref p)) (.lst es)
  | lst {ds es : List D} : DVA μ μ2 ds es → DV μ μ2 (.lst ds) (.lst es)
  | tup {ds es : List D} : DVA μ μ2 ds es → DV μ μ2 (.tup ds) (.tup es)
inductive DVA (μ μ2 : M) : List D → List D → Prop
  | nil : DVA μ μ2 [] []
  | cons {d e : D} {ds es : List D} : DV μ μ2 d e → DVA μ μ2 ds es → DVA μ μ2 (d :: ds) (e :: es)
end
theorem DVA.same {μ μ2 : M} : ∀ ds : List D, DVA μ μ2 ds ds
  | [] => .nil
  | d :: ds => .cons (.same d) (DVA.same ds)
section
variable {K : PySem.W.Frag} {H Hc Hc2 : Hp} {μ μ2 : M}
mutual
theorem DV.rep (s : Split K H Hc μ) (e2 : Same Hc Hc2) (hh : ∀ p, μ2 p = none → Hc2 p = H p) : ∀ {d e : D} {v : V}, DV μ μ2 d e → Rep K Hc v d → Rep K Hc2 v e
  | _, _, _, .same d, r => r.mono e2
  | _, _, v, .cel (p := p) hp hn va, r => by
    cases r with
    | raw =>
      obtain ⟨_, o, ho, vs, rfl, ra⟩ := s.cell p _ hp
      exact .lst (by rw [hh p hn]; exact ho) (DVA.rep s e2 hh va ra)
  | _, _, v, .lst va, r => by
    cases r with
    | lst h ra => exact .lst (e2 _ _ h) (DVA.rep s e2 hh va ra)
  | _, _, v, .tup va, r => by
    cases r with
    | tup h ra => exact .tup (same_t e2 h) (DVA.rep s e2 hh va ra)
theorem DVA.rep (s : Split K H Hc μ) (e2 : Same Hc Hc2) (hh : ∀ p, μ2 p = none → Hc2 p = H p) : ∀ {ds es : List D} {vs : List V}, DVA μ μ2 ds es → RepA K Hc vs ds → RepA K Hc2 vs es
  | _, _, _, .nil, r => by cases r; exact .nil
  | _, _, _, .cons a va, r => by
    cases r with
    | cons x ra => exact .cons (DV.rep s e2 hh a x) (DVA.rep s e2 hh va ra)
end
end
def noM : M := fun _ => none
theorem noM_sub {μ : M} : Sub noM μ := fun _ _ h => nomatch h
def flD : D → Bool
  | .non | .bl _ | .int _ | .str _ => true
  | _ => false
theorem fl_rep {K : PySem.W.Frag} {H H' : Hp} {v : V} {d : D} (h : flD d = true) (r : Rep K H v d) : Rep K H' v d := by
  cases r with
  | non => exact .non
  | bl b => exact .bl b
  | int i => exact .int i
  | str x => exact .str x
  | _ => cases h
def flF : Option (List (Str × D)) → Bool
  | none => true
  | some fs => fs.all fun p => flD p.2
theorem fl_repF {K : PySem.W.Frag} {H H' : Hp} : ∀ {vs : List (Str × V)} {fs : List (Str × D)}, (fs.all fun p => flD p.2) = true → RepF K H vs fs → RepF K H' vs fs
  | _, _, _, .nil => .nil
  | _, _, h, .cons a r => by
    rw [List.all_cons, Bool.and_eq_true] at h
    exact .cons (fl_rep h.1 a) (fl_repF h.2 r)
/-- what was lent comes back -/
theorem unlend {K : PySem.W.Frag} {H Hc Hc2 H3 Hc3 : Hp} {μ : M} (s : Split K H Hc μ) (hh : ∀ p, Hc2 p = H p) (e : Same Hc2 Hc3) (s3 : Split K H3 Hc3 noM) :
    ∃ Hc4, Same Hc Hc4 ∧ Split K H3 Hc4 μ ∧ ∀ p, μ p = none → Hc4 p = H3 p := by
  have key : ∀ a o, H a = some o → H3 a = some o := fun a o h => by
    rw [s3.rest a rfl]
    exact e a o (by rw [hh]; exact h)
  have sm : Same Hc (fun a => match μ a with | none => H3 a | some _ => none) := fun a o h => by
    show (match μ a with | none => H3 a | some _ => none) = some o
    cases m : μ a with
    | none => exact key a o (s.same a o h)
    | some c => rw [(s.cell a c m).1] at h; cases h
  refine ⟨_, sm, ⟨fun p c m => ?_, fun p m => ?_⟩, fun p m => ?_⟩
  · obtain ⟨_, o, ho, k⟩ := s.cell p c m
    exact ⟨by show (match μ p with | none => H3 p | some _ => none) = none; rw [m], o, key p o ho, k.mono sm⟩
  · show H3 p = (match μ p with | none => H3 p | some _ => none)
    rw [m]
  · show (match μ p with | none => H3 p | some _ => none) = H3 p
    rw [m]
/-- some slots seen through all cells -/
def seeS (μ : M) : List Nat → Sl → (Sl → Prop) → Prop
  | [], δ, P => P δ
  | i :: is, δ, P => ∃ d e, δ[i]? = some (some d) ∧ DV μ noM d e ∧ seeS μ is (δ.set i (some e)) P
def kBor (Q : QD) (μ : M) (d : D) (μ' : M) : Prop := flD d = true ∧ μ' = noM ∧ Q d μ
def xBor (W : XD) (μ : M) : XD := fun cls fs μ' => flF fs = true ∧ μ' = noM ∧ W cls fs μ
def kSee (t : DTE) (W : XD) (μ : M) (Q : QD) (δ : Sl) : Prop := t (xBor W μ) δ noM (kBor Q μ)
/-- an expression reckoned with all cells lent out as data -/
def dBor (is : List Nat) (t : DTE) (W : XD) (δ : Sl) (μ : M) (Q : QD) : Prop := seeS μ is δ (kSee t W μ Q)
theorem seeS.rep {K : PySem.W.Frag} {H Hc Hc2 : Hp} {μ : M} (s : Split K H Hc μ) (e2 : Same Hc Hc2) (hh : ∀ p, noM p = none → Hc2 p = H p) {P : Sl → Prop} : ∀ {is : List Nat} {δ δ0 : Sl} {σ : L2.St}, seeS μ is δ P → RepS K Hc σ δ0 → RepS K Hc2 σ δ → (∀ i ∈ is, δ[i]? = δ0[i]? ∨ True) → (∀ i d, δ[i]? = some (some d) → δ0[i]? = some (some d) ∨ i ∉ is) → is.Nodup → ∃ δ', P δ' ∧ RepS K Hc2 σ δ' := by
  intro is
  induction is with
  | nil => intro δ δ0 σ h r0 r _ _ _; exact ⟨δ, h, r⟩
  | cons i is ih =>
    rintro δ δ0 σ ⟨d, e, hd, v, h⟩ r0 r hx hy hnd
    have h0 : δ0[i]? = some (some d) := (hy i d hd).resolve_right fun z => z List.mem_cons_self
    obtain ⟨u, hu, ru⟩ := r0.val i d h0
    have re := v.rep s e2 hh ru
    have r2 := r.set i re
    have eσ : σ.set i (some u) = σ := by
      obtain ⟨hi, e⟩ := List.getElem?_eq_some_iff.mp hu
      rw [← e, List.set_getElem_self]
    rw [eσ] at r2
    refine ih (δ0 := δ0) h r0 r2 (fun _ _ => .inr trivial) (fun j d' hj => ?_) (List.nodup_cons.mp hnd).2
    by_cases hji : i = j
    · subst hji
      exact .inr (List.nodup_cons.mp hnd).1
    · rw [List.getElem?_set_ne hji] at hj
      rcases hy j d' hj with z | z
      · exact .inl z
      · exact .inr fun w => z (List.mem_cons_of_mem _ w)
section
variable {X : Cx} {W : WX} {e : Expr} {te : DTE}
theorem de_bor {is : List Nat} (hnd : is.Nodup) (h : DE X W e te) : DE X W e (dBor is te) := PE.imp h fun σ H Q ⟨δ, μ, Hc, Qd, Xd, s, rs, h, rt, rx⟩ => by
  obtain ⟨Hc2, e2, s2, hh⟩ := s.sub (noM_sub (μ := μ))
  obtain ⟨δ', h', rs'⟩ := seeS.rep (P := kSee te Xd μ Qd) s e2 hh h rs (rs.mono e2) (fun _ _ => .inr trivial) (fun i d hi => .inl hi) hnd
  refine ⟨δ', noM, Hc2, kBor Qd μ, xBor Xd μ, s2, rs', h', ?_, ?_⟩
  · rintro d μ' ⟨hf, rfl, q⟩ v H3 Hc3 e3 s3 r3
    obtain ⟨Hc4, e4, s4, _⟩ := unlend s (fun p => hh p rfl) e3 s3
    exact rt d μ q v H3 Hc4 e4 s4 (fl_rep hf r3)
  · rintro cls fs μ' ⟨hf, rfl, q⟩ d H3 Hc3 e3 s3 x3
    obtain ⟨Hc4, e4, s4, h4⟩ := unlend s (fun p => hh p rfl) e3 s3
    refine rx cls fs μ q d H3 Hc4 e4 s4 ?_
    cases fs with
    | none =>
      cases d with
      | none => exact True.intro
      | some a => exact x3.elim
    | some fs =>
      cases d with
      | none => exact x3.elim
      | some a =>
        obtain ⟨vs, hv, rf⟩ := x3
        refine ⟨vs, ?_, fl_repF hf rf⟩
        have h3 : H3 a = some (.xd vs) := by rw [s3.rest a rfl]; exact hv
        cases m : μ a with
        | none => rw [h4 a m]; exact h3
        | some c =>
          obtain ⟨_, o, ho, k⟩ := s.cell a c m
          have := e3 a o (by rw [hh a rfl]; exact ho)
          rw [hv] at this
          cases this
          cases c with
          | lst _ => obtain ⟨_, z, _⟩ := k; cases z
          | dk _ => obtain ⟨_, z, _⟩ := k; cases z
          | dt _ => obtain ⟨_, z, _⟩ := k; cases z
          | ins _ _ _ => obtain ⟨_, z, _⟩ := k; cases z
          | own _ => cases (show HO.xd vs = HO.own _ from k)
          | exc _ _ => obtain ⟨_, _, z, _⟩ := k; cases z
/-- cells within become data -/
def kFzD (Q : QD) (d : D) (μ : M) : Prop := ∃ μ2 e, Sub μ2 μ ∧ DV μ μ2 d e ∧ Q e μ2
def dFzD (t : DTE) (W : XD) (δ : Sl) (μ : M) (Q : QD) : Prop := t W δ μ (kFzD Q)
theorem de_fzD (h : DE X W e te) : DE X W e (dFzD te) := PE.imp h fun σ H Q ⟨δ, μ, Hc, Qd, Xd, s, rs, h, rt, rx⟩ => ⟨δ, μ, Hc, _, Xd, s, rs, h, fun d μ1 h1 v H1 Hc1 e1 s1 r1 => by
  obtain ⟨μ2, e, sb, v, q⟩ := h1
  obtain ⟨Hc2, e2, s2, hh⟩ := s1.sub sb
  exact rt _ _ q _ _ Hc2 (e1.trans e2) s2 (v.rep s1 e2 hh r1), rx⟩
end
/-! list.clear; what is never reached -/
def gClear : DRM := fun d ds μ Q => match d, ds with
  | .raw (.ref p), [] => ∃ xs, μ p = some (.lst xs) ∧ Q .non (updM μ p (.lst []))
  | _, _ => False
theorem l_clear {K : PySem.W.Frag} : LMt K rClear gClear := by
  intro v d vs ds H Hc μ Q Qd s r ra h rt
  unfold gClear at h
  split at h
  · rename_i p
    cases r
    cases ra
    obtain ⟨xs, hp, q⟩ := h
    obtain ⟨_, o, ho, ws, rfl, _⟩ := s.cell p _ hp
    exact ⟨p, ws, rfl, rfl, ho, rt.putL s hp .nil .non q⟩
  · exact h.elim
def dNo (_ : XD) (_ : Sl) (_ : M) (_ : QD) : Prop := False
theorem de_no {X : Cx} {W : WX} {e : Expr} : DE X W e dNo := ⟨fun pins s σ H Q I ⟨_, _, _, _, _, _, _, h, _⟩ => h.elim⟩
end DL
set_option Elab.async false
set_option linter.all false
set_option maxRecDepth 100000
set_option maxHeartbeats 2000000
set_option exponentiation.threshold 20000
/-! Tasks whose lists are cells of their own. -/
local macro_rules | `(tactic| walk_at "r") => `(tactic| simp only [DL.dSeq, DL.dSet, DL.kSet, DL.dCB, DL.kCB, DL.dCons, DL.kCons1, DL.kCons2, DL.dNil, DL.dVar, DL.dC, DL.dOp, DL.kOp1, DL.kOp2, DL.dB, DL.kB, DL.dIf, DL.kIf, DL.dRet, DL.dRetN, DL.dTup, DL.kTup, DL.dLst, DL.kLst, DL.dLstC, DL.kLstC, DL.dCall, DL.kCall, DL.dCallK, DL.kCallK1, DL.kCallK2, DL.dLenIs, DL.kLenIs, DL.dNext, DL.dDrop, DL.kDrop, DL.dPar, DL.kPar, DL.dAug, DL.kAug, DL.dAsg, DL.kAsg, DL.dSetIx, DL.kSetIx1, DL.kSetIx2, DL.kSetIx3, DL.dTru, DL.kTru, DL.dAnd, DL.kAnd, DL.dOr, DL.kOr, DL.dNot, DL.kNot, DL.dAndV, DL.kAndV, DL.dOrV, DL.kOrV, DL.dNotV, DL.kNotV, DL.dIfE, DL.kIfE, DL.dChain, DL.kChain1, DL.kChain2, DL.kChain3_true, DL.kChain3_false, DL.dNeg, DL.kNeg, DL.dFz, DL.kFz, DL.dRaise, DL.dTryAs, DL.suiteE, DL.kUnset, DL.dFor, DL.kFor, DL.dSeqI, DL.kSeqI, DL.dRange1, DL.kRange1, DL.dRange2, DL.kRange2, DL.dLc, DL.kLc, DL.dLcC, DL.kLstD, DL.kNewC, DL.dYes, DL.wipeD, DL.loopD, DL.compD, DL.kItem, DL.kTest_true, DL.kTest_false, DL.putIx_some, DL.setsK_some, DL.turnD_some, DL.turnC_some, DL.ifS_true, DL.ifS_false, DL.ifAnd_true, DL.ifAnd_false, DL.ifOr_true, DL.ifOr_false, DL.ifAndV_true, DL.ifAndV_false, DL.ifOrV_true, DL.ifOrV_false, DL.ifE_true, DL.ifE_false, DL.srcOf, DL.tgN, DL.tgT, DL.tgNil, DL.tgCons, DL.sets, List.foldl_cons, List.foldl_nil, DL.gI, DL.gI0, DL.gAdd, DL.gMul, DL.gIx, DL.gEq, DL.gNe, DL.gIs, DL.gIn, DL.gLen, DL.gAbs, DL.gMax2, DL.gMin2, DL.gAll, DL.gAny, DL.gSum, DL.gList, DL.gListC, DL.gTuple, DL.gIsiC, DL.gIsi, DL.tyN, DL.subN_NoneType_int, DL.subN_NoneType_bool, DL.subN_NoneType_str, DL.subN_NoneType_list, DL.subN_NoneType_tuple, DL.subN_bool_int, DL.subN_bool_bool, DL.subN_bool_str, DL.subN_bool_list, DL.subN_bool_tuple, DL.subN_int_int, DL.subN_int_bool, DL.subN_int_str, DL.subN_int_list, DL.subN_int_tuple, DL.subN_str_int, DL.subN_str_bool, DL.subN_str_str, DL.subN_str_list, DL.subN_str_tuple, DL.subN_list_int, DL.subN_list_bool, DL.subN_list_str, DL.subN_list_list, DL.subN_list_tuple, DL.subN_tuple_int, DL.subN_tuple_bool, DL.subN_tuple_str, DL.subN_tuple_list, DL.subN_tuple_tuple, DL.truD, DL.blsOf, DL.view_non, DL.view_bl, DL.view_int', DL.view_str', DL.view_lst', DL.view_tup', DL.view_scr', DL.ends, DL.kEnd, DL.OptP_some, DL.OptQ_some, DL.OptB_some, DL.OptS_some, List.getElem?_cons_zero, List.getElem?_cons_succ, List.set_cons_zero, List.set_cons_succ, DL.atI_zero, DL.atI_one, DL.atI_two, List.length_cons, List.length_nil, DL.pick, List.filterMap_cons, List.filterMap_nil, List.nil_append, List.cons_append, List.map_cons, List.map_nil, Option.map_some, Option.bind_some, true_and, and_true, Bool.false_eq_true, Bool.not_true, Bool.not_false, Bool.xor_false, Bool.xor_true, Bool.false_xor, Bool.true_xor, decide_true, decide_false, Nat.zero_add, Nat.reduceAdd, not_true_eq_false, not_false_eq_true, DL.eqD_int, DL.eqD_str, DL.eqD_bl, DL.eqD_tup, DL.eqD_lst, DL.eqDs_nil, DL.eqDs_cons, Bool.and_true, Bool.and_false, List.all_cons, List.all_nil, List.any_cons, List.any_nil, Bool.and_self, DL.dM, DL.kM1, DL.kM2, DL.dM0, DL.kM0, DL.gAppend, DL.gInsert, DL.gExtend, DL.gPop1, DL.gPop0, DL.gReverse, DL.gSort, DL.gRemove, DL.gCount, DL.gIndex, DL.dSlG, DL.kSl1, DL.kSl2, DL.kSl3, DL.gSl, DL.gSlC, DL.dNoPart, DL.dPart, DL.kPart, DL.dLR1, DL.kLR1, DL.dLR2, DL.kLR21, DL.kLR22, DL.nLst, DL.gRepC, DL.gCatC, DL.gInt, DL.gSorted, DL.gMaxL, DL.gMinL, DL.dEnum, DL.kEnum, DL.dZip2, DL.kZip2, DL.dZip3, DL.kZip3, DL.OptS2_some, DL.OptS3_some, DL.dRev, DL.kRev, DL.dEmp, DL.view_emp', DL.subN_dict_int, DL.subN_dict_bool, DL.subN_dict_str, DL.subN_dict_list, DL.subN_dict_tuple, DL.cellL_lst, DL.cellL_none, DL.gCountD, DL.gRepr, DL.gEqS, DL.dTryK, DL.keepD, DL.kKeep, DL.kKeepR, DL.dXf])
local macro_rules | `(tactic| simp! only [$xs,*]) => `(tactic| simp only [DL.dSeq, DL.dSet, DL.kSet, DL.dCB, DL.kCB, DL.dCons, DL.kCons1, DL.kCons2, DL.dNil, DL.dVar, DL.dC, DL.dOp, DL.kOp1, DL.kOp2, DL.dB, DL.kB, DL.dIf, DL.kIf, DL.dRet, DL.dRetN, DL.dTup, DL.kTup, DL.dLst, DL.kLst, DL.dLstC, DL.kLstC, DL.dCall, DL.kCall, DL.dCallK, DL.kCallK1, DL.kCallK2, DL.dLenIs, DL.kLenIs, DL.dNext, DL.dDrop, DL.kDrop, DL.dPar, DL.kPar, DL.dAug, DL.kAug, DL.dAsg, DL.kAsg, DL.dSetIx, DL.kSetIx1, DL.kSetIx2, DL.kSetIx3, DL.dTru, DL.kTru, DL.dAnd, DL.kAnd, DL.dOr, DL.kOr, DL.dNot, DL.kNot, DL.dAndV, DL.kAndV, DL.dOrV, DL.kOrV, DL.dNotV, DL.kNotV, DL.dIfE, DL.kIfE, DL.dChain, DL.kChain1, DL.kChain2, DL.kChain3_true, DL.kChain3_false, DL.dNeg, DL.kNeg, DL.dFz, DL.kFz, DL.dRaise, DL.dTryAs, DL.suiteE, DL.kUnset, DL.dFor, DL.kFor, DL.dSeqI, DL.kSeqI, DL.dRange1, DL.kRange1, DL.dRange2, DL.kRange2, DL.dLc, DL.kLc, DL.dLcC, DL.kLstD, DL.kNewC, DL.dYes, DL.wipeD, DL.loopD, DL.compD, DL.kItem, DL.kTest_true, DL.kTest_false, DL.putIx_some, DL.setsK_some, DL.turnD_some, DL.turnC_some, DL.ifS_true, DL.ifS_false, DL.ifAnd_true, DL.ifAnd_false, DL.ifOr_true, DL.ifOr_false, DL.ifAndV_true, DL.ifAndV_false, DL.ifOrV_true, DL.ifOrV_false, DL.ifE_true, DL.ifE_false, DL.srcOf, DL.tgN, DL.tgT, DL.tgNil, DL.tgCons, DL.sets, List.foldl_cons, List.foldl_nil, DL.gI, DL.gI0, DL.gAdd, DL.gMul, DL.gIx, DL.gEq, DL.gNe, DL.gIs, DL.gIn, DL.gLen, DL.gAbs, DL.gMax2, DL.gMin2, DL.gAll, DL.gAny, DL.gSum, DL.gList, DL.gListC, DL.gTuple, DL.gIsiC, DL.gIsi, DL.tyN, DL.subN_NoneType_int, DL.subN_NoneType_bool, DL.subN_NoneType_str, DL.subN_NoneType_list, DL.subN_NoneType_tuple, DL.subN_bool_int, DL.subN_bool_bool, DL.subN_bool_str, DL.subN_bool_list, DL.subN_bool_tuple, DL.subN_int_int, DL.subN_int_bool, DL.subN_int_str, DL.subN_int_list, DL.subN_int_tuple, DL.subN_str_int, DL.subN_str_bool, DL.subN_str_str, DL.subN_str_list, DL.subN_str_tuple, DL.subN_list_int, DL.subN_list_bool, DL.subN_list_str, DL.subN_list_list, DL.subN_list_tuple, DL.subN_tuple_int, DL.subN_tuple_bool, DL.subN_tuple_str, DL.subN_tuple_list, DL.subN_tuple_tuple, DL.truD, DL.blsOf, DL.view_non, DL.view_bl, DL.view_int', DL.view_str', DL.view_lst', DL.view_tup', DL.view_scr', DL.ends, DL.kEnd, DL.OptP_some, DL.OptQ_some, DL.OptB_some, DL.OptS_some, List.getElem?_cons_zero, List.getElem?_cons_succ, List.set_cons_zero, List.set_cons_succ, DL.atI_zero, DL.atI_one, DL.atI_two, List.length_cons, List.length_nil, DL.pick, List.filterMap_cons, List.filterMap_nil, List.nil_append, List.cons_append, List.map_cons, List.map_nil, Option.map_some, Option.bind_some, true_and, and_true, Bool.false_eq_true, Bool.not_true, Bool.not_false, Bool.xor_false, Bool.xor_true, Bool.false_xor, Bool.true_xor, decide_true, decide_false, Nat.zero_add, Nat.reduceAdd, not_true_eq_false, not_false_eq_true, DL.eqD_int, DL.eqD_str, DL.eqD_bl, DL.eqD_tup, DL.eqD_lst, DL.eqDs_nil, DL.eqDs_cons, Bool.and_true, Bool.and_false, List.all_cons, List.all_nil, List.any_cons, List.any_nil, Bool.and_self, DL.dM, DL.kM1, DL.kM2, DL.dM0, DL.kM0, DL.gAppend, DL.gInsert, DL.gExtend, DL.gPop1, DL.gPop0, DL.gReverse, DL.gSort, DL.gRemove, DL.gCount, DL.gIndex, DL.dSlG, DL.kSl1, DL.kSl2, DL.kSl3, DL.gSl, DL.gSlC, DL.dNoPart, DL.dPart, DL.kPart, DL.dLR1, DL.kLR1, DL.dLR2, DL.kLR21, DL.kLR22, DL.nLst, DL.gRepC, DL.gCatC, DL.gInt, DL.gSorted, DL.gMaxL, DL.gMinL, DL.dEnum, DL.kEnum, DL.dZip2, DL.kZip2, DL.dZip3, DL.kZip3, DL.OptS2_some, DL.OptS3_some, DL.dRev, DL.kRev, DL.dEmp, DL.view_emp', DL.subN_dict_int, DL.subN_dict_bool, DL.subN_dict_str, DL.subN_dict_list, DL.subN_dict_tuple, DL.cellL_lst, DL.cellL_none, DL.gCountD, DL.gRepr, DL.gEqS, DL.dTryK, DL.keepD, DL.kKeep, DL.kKeepR, DL.dXf, $xs,*])
namespace NB
open PySem PySem.Spec L2 DL Fr
abbrev Wsh := D × List Int
/-- wishes whose plans are cells -/
def wcell (w : Wsh) (q : Addr) : D := .tup [w.1, .raw (.ref q)]
structure OwnW (μ0 μ : M) (ws : List Wsh) (qs : List Addr) : Prop where
  len : qs.length = ws.length
  sub : Sub μ0 μ
  new : ∀ q ∈ qs, μ0 q = none
  nd : qs.Nodup
  at_ : ∀ (i : Nat) (q : Addr) (w : Wsh), qs[i]? = some q → ws[i]? = some w → μ q = some (.lst (w.2.map D.int))
theorem OwnW.nil {μ : M} : OwnW μ μ [] [] := ⟨rfl, Sub.refl _, (fun _ h => by cases h), List.nodup_nil, (fun i q w h => by simp at h)⟩
theorem OwnW.snoc {μ0 μ : M} {ws : List Wsh} {qs : List Addr} {w : Wsh} {q : Addr} (o : OwnW μ0 μ ws qs) (hq : μ q = none) : OwnW μ0 (updM μ q (.lst (w.2.map D.int))) (ws ++ [w]) (qs ++ [q]) := by
  have notin : q ∉ qs := fun h => by
    obtain ⟨i, hi⟩ := List.getElem?_of_mem h
    have hl := (List.getElem?_eq_some_iff.mp hi).1
    obtain ⟨w', hw'⟩ : ∃ w', ws[i]? = some w' := ⟨_, List.getElem?_eq_getElem (by rw [← o.len]; exact hl)⟩
    rw [o.at_ i q w' hi hw'] at hq
    cases hq
  refine ⟨by rw [List.length_append, List.length_append, o.len]; rfl, o.sub.trans (Sub.new hq), fun p hp => ?_, ?_, fun i p w' hp hw => ?_⟩
  · rcases List.mem_append.mp hp with h | h
    · exact o.new p h
    · rw [List.mem_singleton.mp h]
      exact o.sub.fresh hq
  · rw [List.nodup_append]
    refine ⟨o.nd, by simp, fun a ha b hb e => ?_⟩
    rw [List.mem_singleton.mp hb] at e
    exact notin (e ▸ ha)
  · by_cases hi : i < qs.length
    · rw [List.getElem?_append_left hi] at hp
      rw [List.getElem?_append_left (by rw [← o.len]; exact hi)] at hw
      have ne : p ≠ q := fun e => notin (e ▸ List.mem_of_getElem? hp)
      rw [updM_ne ne]
      exact o.at_ i p w' hp hw
    · have il : i = qs.length := by
        have := (List.getElem?_eq_some_iff.mp hp).1
        rw [List.length_append, List.length_singleton] at this
        omega
      subst il
      rw [List.getElem?_append_right (Nat.le_refl _), Nat.sub_self] at hp
      rw [o.len, List.getElem?_append_right (Nat.le_refl _), Nat.sub_self] at hw
      cases hp
      cases hw
      exact updM_same
theorem OwnW.more {μ0 μ : M} {ws : List Wsh} {qs : List Addr} {p : Addr} {c : C} (o : OwnW μ0 μ ws qs) (hp : μ p = none) : OwnW μ0 (updM μ p c) ws qs := by
  refine ⟨o.len, o.sub.trans (Sub.new hp), o.new, o.nd, fun i q w hq hw => ?_⟩
  have z := o.at_ i q w hq hw
  rw [updM_ne (fun e => by rw [e, hp] at z; cases z)]
  exact z
/-- the plans seen through their cells -/
theorem wcells_dv {μ : M} : ∀ {ws : List Wsh} {qs : List Addr}, qs.length = ws.length → (∀ (i : Nat) (q : Addr) (w : Wsh), qs[i]? = some q → ws[i]? = some w → μ q = some (.lst (w.2.map D.int))) → DVA μ noM (List.zipWith wcell ws qs) (ws.map WishD)
  | [], [], _, _ => .nil
  | w :: ws, q :: qs, hl, h => .cons (.tup (.cons (.same _) (.cons (.cel (h 0 q w rfl rfl) rfl (.same _)) .nil))) (wcells_dv (by simpa using hl) fun i p v hp hv => h (i + 1) p v hp hv)
/-- a told task whose lists are all its own -/
def ownD (p0 p1 p2 p3 : Addr) (word : Str) : D := .tup [.raw (.ref p0), .raw (.ref p1), .raw (.ref p2), .raw (.ref p3), .str word]
structure OwnT (μ0 μ : M) (t : Task) (p0 p1 p2 p3 : Addr) (qs : List Addr) : Prop where
  w : OwnW μ0 μ t.wishes qs
  c0 : μ p0 = some (.lst (t.prices.map fr))
  c1 : μ p1 = some (.lst (List.zipWith wcell t.wishes qs))
  c2 : μ p2 = some (.lst (t.bounds.map bndD))
  c3 : μ p3 = some (.lst (t.weights.map wgtD))
  n0 : μ0 p0 = none
  n1 : μ0 p1 = none
  n2 : μ0 p2 = none
  n3 : μ0 p3 = none
  ne : [p0, p1, p2, p3].Nodup
  nq : ∀ p ∈ [p0, p1, p2, p3], p ∉ qs
/-- such a task, seen through its cells, is the task -/
theorem OwnT.dv {μ0 μ : M} {t : Task} {p0 p1 p2 p3 : Addr} {qs : List Addr} (o : OwnT μ0 μ t p0 p1 p2 p3 qs) : DV μ noM (ownD p0 p1 p2 p3 t.word) t.d :=
  .tup (.cons (.cel o.c0 rfl (DVA.same _)) (.cons (.cel o.c1 rfl (wcells_dv o.w.len o.w.at_)) (.cons (.cel o.c2 rfl (DVA.same _)) (.cons (.cel o.c3 rfl (DVA.same _)) (.cons (.same _) .nil)))))
def c_copiedO : Ct := fun ds μ Q _ => ∃ t : Task, ds = [t.d] ∧ TaskP t ∧ ∀ p0 p1 p2 p3 qs μ', OwnT μ μ' t p0 p1 p2 p3 qs → Q (ownD p0 p1 p2 p3 t.word) μ'
def t_copiedO : DTS :=
  (dSeq (dAsg (dVar 0) (tgT (tgCons (tgN 1) (tgCons (tgN 2) (tgCons (tgN 3) (tgCons (tgN 4) (tgCons (tgN 5) tgNil)))))))
    (dRet (dTup (dCons (dCB gListC (dCons (dVar 1) dNil)) (dCons (dLcC (dSeqI (dVar 2)) (tgT (tgCons (tgN 6) (tgCons (tgN 7) tgNil))) dYes (dTup (dCons (dVar 6) (dCons (dCB gListC (dCons (dVar 7) dNil)) dNil))) [6, 7]) (dCons (dCB gListC (dCons (dVar 3) dNil)) (dCons (dCB gListC (dCons (dVar 4) dNil)) (dCons (dVar 5) dNil))))))))

theorem zip_snoc {ws : List Wsh} {qs : List Addr} {w : Wsh} {q : Addr} (h : qs.length = ws.length) : List.zipWith wcell (ws ++ [w]) (qs ++ [q]) = List.zipWith wcell ws qs ++ [wcell w q] := by
  rw [List.zipWith_append h.symm]
  rfl
theorem hb_copiedO : HB c_copiedO t_copiedO 8 := by
  intro ds μ Q X h
  obtain ⟨t, rfl, ht, q⟩ := h
  show t_copiedO (ends Q XF) [some t.d, none, none, none, none, none, none, none] μ
  have sz : 16777216 ≤ sizeLine := by decide
  have hw := ht.wl
  simp! only [t_copiedO, Task.d]
  intro p0 h0
  walk_at "r"
  refine ⟨fun i acc μ' => ∃ qs, OwnW (updM μ p0 (.lst (t.prices.map fr))) μ' (t.wishes.take i) qs ∧ acc = List.zipWith wcell (t.wishes.take i) qs, ⟨[], by rw [List.take_zero]; exact .nil, by simp⟩, ?_⟩
  rintro i acc μ' ⟨qs, o, rfl⟩
  refine ⟨trivial, fun d hd => ?_, fun hi => ?_⟩
  · obtain ⟨w, hx, rfl⟩ := map_at hd
    simp! only [WishD]
    intro p hp
    walk_at "r"
    have e := take_snoc hx
    refine ⟨by decide, ?_, qs ++ [p], ?_, ?_⟩
    · rw [List.length_zipWith, List.length_take]
      omega
    · rw [e]
      exact o.snoc hp
    · rw [e, zip_snoc o.len]
      rfl
  · rw [List.length_map] at hi
    subst hi
    rw [List.take_length] at o ⊢
    intro p1 h1
    walk_at "r"
    intro p2 h2
    walk_at "r"
    intro p3 h3
    walk_at "r"
    have u0 : (updM μ p0 (.lst (t.prices.map fr))) p0 = some (.lst (t.prices.map fr)) := updM_same
    have f1 : μ' p0 = some (.lst (t.prices.map fr)) := o.sub _ _ u0
    have n10 : p1 ≠ p0 := fun e => by rw [e, f1] at h1; cases h1
    have a1 : (updM μ' p1 (.lst (List.zipWith wcell t.wishes qs))) p0 = some (.lst (t.prices.map fr)) := by rw [updM_ne (Ne.symm n10)]; exact f1
    have n20 : p2 ≠ p0 := fun e => by rw [e, a1] at h2; cases h2
    have n21 : p2 ≠ p1 := fun e => by rw [e, updM_same] at h2; cases h2
    have n30 : p3 ≠ p0 := fun e => by rw [e, updM_ne (Ne.symm n20), a1] at h3; cases h3
    have n31 : p3 ≠ p1 := fun e => by rw [e, updM_ne (Ne.symm n21), updM_same] at h3; cases h3
    have n32 : p3 ≠ p2 := fun e => by rw [e, updM_same] at h3; cases h3
    have z2 : μ' p2 = none := by rw [updM_ne n21] at h2; exact h2
    have z3 : μ' p3 = none := by rw [updM_ne n32, updM_ne n31] at h3; exact h3
    have full : ∀ {p : Addr}, p ∈ qs → ∃ c, μ' p = some c := fun {p} hp => by
      obtain ⟨j, hj⟩ := List.getElem?_of_mem hp
      have hl := (List.getElem?_eq_some_iff.mp hj).1
      exact ⟨_, o.at_ j p _ hj (List.getElem?_eq_getElem (by rw [← o.len]; exact hl))⟩
    have off : ∀ {p : Addr}, μ' p = none → p ∉ qs := fun hp hm => by obtain ⟨c, e⟩ := full hm; rw [e] at hp; cases hp
    have low : ∀ {p : Addr}, μ' p = none → μ p = none := fun {p} hp => (Sub.new h0).fresh (o.sub.fresh hp)
    have base : OwnW μ μ' t.wishes qs := ⟨o.len, (Sub.new h0).trans o.sub, fun q hq => (Sub.new h0).fresh (o.new q hq), o.nd, o.at_⟩
    have p0q : p0 ∉ qs := fun hm => by rw [o.new p0 hm] at u0; cases u0
    refine ⟨by decide, .of (q p0 p1 p2 p3 qs _ ⟨((base.more h1).more h2).more h3, ?_, ?_, ?_, updM_same, h0, low h1, low z2, low z3, ?_, ?_⟩)⟩
    · rw [updM_ne (Ne.symm n30), updM_ne (Ne.symm n20)]
      exact a1
    · rw [updM_ne (Ne.symm n31), updM_ne (Ne.symm n21), updM_same]
    · rw [updM_ne (Ne.symm n32), updM_same]
    · simp [Ne.symm n10, Ne.symm n20, Ne.symm n30, Ne.symm n21, Ne.symm n31, Ne.symm n32]
    · intro p hp
      simp only [List.mem_cons, List.not_mem_nil, or_false] at hp
      rcases hp with rfl | rfl | rfl | rfl
      · exact p0q
      · exact off h1
      · exact off z2
      · exact off z3
section
variable {μ0 μ : M} {t : Task} {p0 p1 p2 p3 : Addr} {qs : List Addr}
theorem OwnT.mem (o : OwnT μ0 μ t p0 p1 p2 p3 qs) {p : Addr} (h : p ∈ [p0, p1, p2, p3]) : ∃ c, μ p = some c := by
  simp only [List.mem_cons, List.not_mem_nil, or_false] at h
  rcases h with rfl | rfl | rfl | rfl
  · exact ⟨_, o.c0⟩
  · exact ⟨_, o.c1⟩
  · exact ⟨_, o.c2⟩
  · exact ⟨_, o.c3⟩
theorem OwnT.off (o : OwnT μ0 μ t p0 p1 p2 p3 qs) {p : Addr} (h : μ p = none) : p ∉ [p0, p1, p2, p3] ∧ p ∉ qs := by
  refine ⟨fun m => ?_, fun m => ?_⟩
  · obtain ⟨c, e⟩ := o.mem m
    rw [h] at e
    cases e
  · obtain ⟨j, hj⟩ := List.getElem?_of_mem m
    have hl := (List.getElem?_eq_some_iff.mp hj).1
    have e := o.w.at_ j p _ hj (List.getElem?_eq_getElem (by rw [← o.w.len]; exact hl))
    rw [h] at e
    cases e
theorem OwnT.nums (o : OwnT μ0 μ t p0 p1 p2 p3 qs) : p0 ≠ p1 ∧ p0 ≠ p2 ∧ p0 ≠ p3 ∧ p1 ≠ p2 ∧ p1 ≠ p3 ∧ p2 ≠ p3 := by
  have h := o.ne
  simp only [List.nodup_cons, List.mem_cons, List.not_mem_nil, or_false, not_or] at h
  exact ⟨h.1.1, h.1.2.1, h.1.2.2, h.2.1.1, h.2.1.2, h.2.2.1⟩
/-- other prices, in a new list -/
theorem OwnT.prices {fs : List Fc} {p : Addr} (o : OwnT μ0 μ t p0 p1 p2 p3 qs) (hp : μ p = none) : OwnT μ0 (updM μ p (.lst (fs.map fr))) { t with prices := fs } p p1 p2 p3 qs := by
  obtain ⟨off1, off2⟩ := o.off hp
  obtain ⟨_, _, _, e12, e13, e23⟩ := o.nums
  simp only [List.mem_cons, List.not_mem_nil, or_false, not_or] at off1
  obtain ⟨_, h1, h2, h3⟩ := off1
  refine ⟨o.w.more hp, updM_same, ?_, ?_, ?_, o.w.sub.fresh hp, o.n1, o.n2, o.n3, ?_, fun x hx => ?_⟩
  · rw [updM_ne (Ne.symm h1)]; exact o.c1
  · rw [updM_ne (Ne.symm h2)]; exact o.c2
  · rw [updM_ne (Ne.symm h3)]; exact o.c3
  · simp [h1, h2, h3, e12, e13, e23]
  · rcases List.mem_cons.mp hx with rfl | hx
    · exact off2
    · exact o.nq x (List.mem_cons_of_mem _ hx)
/-- other bounds, in a new list -/
theorem OwnT.bounds {bs : List (Option Fc × Option Fc)} {p : Addr} (o : OwnT μ0 μ t p0 p1 p2 p3 qs) (hp : μ p = none) : OwnT μ0 (updM μ p (.lst (bs.map bndD))) { t with bounds := bs } p0 p1 p p3 qs := by
  obtain ⟨off1, off2⟩ := o.off hp
  obtain ⟨e01, _, e03, _, e13, _⟩ := o.nums
  simp only [List.mem_cons, List.not_mem_nil, or_false, not_or] at off1
  obtain ⟨h0, h1, _, h3⟩ := off1
  refine ⟨o.w.more hp, ?_, ?_, updM_same, ?_, o.n0, o.n1, o.w.sub.fresh hp, o.n3, ?_, fun x hx => ?_⟩
  · rw [updM_ne (Ne.symm h0)]; exact o.c0
  · rw [updM_ne (Ne.symm h1)]; exact o.c1
  · rw [updM_ne (Ne.symm h3)]; exact o.c3
  · simp [Ne.symm h0, Ne.symm h1, h3, e01, e03, e13]
  · simp only [List.mem_cons, List.not_mem_nil, or_false] at hx
    rcases hx with rfl | rfl | rfl | rfl
    · exact o.nq _ (by simp)
    · exact o.nq _ (by simp)
    · exact off2
    · exact o.nq _ (by simp)
end
def c_multipliedO (_ : Addr) : Ct := fun ds μ Q _ => ∃ (t : Task) (g : Fc), ds = [t.d, fr g] ∧ TaskP t ∧ Ok 300 g ∧ 0 < g.1 ∧ ∀ p0 p1 p2 p3 qs μ', OwnT μ μ' (t.mul g) p0 p1 p2 p3 qs → Q (ownD p0 p1 p2 p3 t.word) μ'
def t_multipliedO (C_NoNumber : Addr) : DTS :=
  (dSeq (dIf (dOr (dNot (dTru (dCall c_is_fraction (dCons (dVar 1) dNil)))) (dNot (dTru (dCall c_under (dCons (dC k_NOUGHT) (dCons (dVar 1) dNil)))))) (dRaise C_NoNumber) dNext)
    (dSeq (dAsg (dCall c_copiedO (dCons (dVar 0) dNil)) (tgT (tgCons (tgN 2) (tgCons (tgN 3) (tgCons (tgN 4) (tgCons (tgN 5) (tgCons (tgN 6) tgNil)))))))
    (dSeq (dSet 2 (dLcC (dSeqI (dVar 2)) (tgN 7) dYes (dCall c_times (dCons (dVar 7) (dCons (dVar 1) dNil))) [7]))
    (dSeq (dSet 4 (dLcC (dSeqI (dVar 4)) (tgT (tgCons (tgN 8) (tgCons (tgN 9) tgNil))) dYes (dTup (dCons (dCall c_times_side (dCons (dVar 8) (dCons (dVar 1) dNil))) (dCons (dCall c_times_side (dCons (dVar 9) (dCons (dVar 1) dNil))) dNil))) [8, 9]))
    (dRet (dTup (dCons (dVar 2) (dCons (dVar 3) (dCons (dVar 4) (dCons (dVar 5) (dCons (dVar 6) dNil)))))))))))

theorem hb_multipliedO {C_NoNumber : Addr} : HBX (c_multipliedO C_NoNumber) (t_multipliedO C_NoNumber) 10 := by
  intro ds μ Q X h
  obtain ⟨t, g, rfl, ht, og, pos, q⟩ := h
  show t_multipliedO C_NoNumber (ends Q (FinX X)) [some t.d, some (fr g), none, none, none, none, none, none, none, none] μ
  have sz : 16777216 ≤ sizeLine := by decide
  have hn := ht.n2
  have hb := ht.bl
  have hrow : Row0 (fr g) := ⟨rfl, fun xs e x hx => by injection e with e; subst e; simp only [List.mem_cons, List.not_mem_nil, or_false] at hx; rcases hx with rfl | rfl <;> rfl⟩
  have hf : fracB (fr g) = true := fracB_iff.mpr ⟨g, rfl, og.1, og.2⟩
  have z1 : Sz ((0, 1) : Fc) := Ok.sz ok_zero (by decide)
  simp! only [t_multipliedO]
  refine ⟨fr g, rfl, hrow, ?_⟩
  rw [hf]
  walk_at "r"
  refine ⟨(0, 1), g, rfl, z1, Ok.sz og (by decide), ?_⟩
  rw [show decide (0 * g.2 < g.1 * 1) = true from decide_eq_true (by rw [Int.zero_mul, Int.mul_one]; exact pos)]
  walk_at "r"
  refine ⟨t, rfl, ht, fun p0 p1 p2 p3 qs μ1 o => ?_⟩
  simp! only [ownD, o.c0]
  refine comp_pure (enc := fr) (g := fun f => fr (mulF f g)) o.c0 (by omega) (fun f hf acc R ha hR => ?_) ?_
  · walk_at "r"
    exact ⟨f, g, rfl, Ok.sz (ht.pr f hf) (by decide), Ok.sz og (by decide), ha, hR⟩
  intro pp hpp
  rw [show (t.prices.map fun f => fr (mulF f g)) = (t.prices.map fun f => mulF f g).map fr by rw [List.map_map]; rfl]
  have o2 := o.prices (fs := t.prices.map fun f => mulF f g) hpp
  simp! only [o2.c2]
  refine comp_pure (enc := bndD) (g := fun b => bndD (mulSide g b.1, mulSide g b.2)) o2.c2 (by show t.bounds.length < _; omega) (fun b hb acc R ha hR => ?_) ?_
  · have hbb := ht.bd b hb
    simp! only [bndD]
    refine ⟨b.1, g, rfl, hbb.1, og, ?_⟩
    walk_at "r"
    refine ⟨b.2, g, rfl, hbb.2, og, ?_⟩
    walk_at "r"
    exact ⟨by decide, ha, hR⟩
  intro pb hpb
  rw [show (t.bounds.map fun b => bndD (mulSide g b.1, mulSide g b.2)) = (t.bounds.map fun b => (mulSide g b.1, mulSide g b.2)).map bndD by rw [List.map_map]; rfl]
  have o3 := o2.bounds (bs := t.bounds.map fun b => (mulSide g b.1, mulSide g b.2)) hpb
  walk_at "r"
  exact ⟨by decide, .of (q pp p1 pb p3 qs _ o3)⟩
/-! ### orders -/
theorem view_new {μ : M} {p : Addr} {ds : List D} : view (updM μ p (.lst ds)) (.raw (.ref p)) = .lst ds := view_cell updM_same
def c_pickedO : Ct := fun ds μ Q _ => ∃ (d : D) (xs : List D) (ns : List Int), ds = [d, .lst (ns.map D.int)] ∧ (view μ d = .lst xs ∨ view μ d = .tup xs) ∧ (∀ i ∈ ns, 0 ≤ i ∧ i < xs.length) ∧ ns.length ≤ 1000 ∧ ∀ p, μ p = none → Q (.raw (.ref p)) (updM μ p (.lst (pickD xs ns)))
def t_pickedO : DTS :=
  (dRet (dLcC (dSeqI (dVar 1)) (tgN 2) dYes (dOp gIx (dVar 0) (dVar 2)) [2]))

theorem hb_pickedO : HB c_pickedO t_pickedO 3 := by
  intro ds μ Q X h
  obtain ⟨d, xs, ns, rfl, hv, hi, hl, q⟩ := h
  show t_pickedO (ends Q XF) [some d, some (.lst (ns.map D.int)), none] μ
  have sz : 16777216 ≤ sizeLine := by decide
  simp! only [t_pickedO]
  refine comp_pure (enc := D.int) (g := fun i => xs.getD i.toNat .non) trivial (by omega) (fun i hi' acc R ha hR => ?_) ?_
  · obtain ⟨b1, b2⟩ := hi i hi'
    have e := at_getD (xs := xs) b1 b2
    rcases hv with hv | hv
    · simp! only [hv, e]
      exact ⟨ha, hR⟩
    · simp! only [hv, e]
      exact ⟨ha, hR⟩
  · intro p hp
    exact .of (q p hp)
theorem pickO_tis {μ : M} {ts : Tis} {ns : List Int} {Q : QD} {X : XD} (h : ∀ i ∈ ns, 0 ≤ i ∧ i < (ts.length : Int)) (hl : ns.length ≤ 1000) (q : ∀ p, μ p = none → Q (.raw (.ref p)) (updM μ p (.lst ((pickA ts ns).map fr)))) : c_pickedO [tisD ts, .lst (ns.map D.int)] μ Q X :=
  ⟨tisD ts, ts.map fr, ns, rfl, .inr rfl, fun i hi => by rw [List.length_map]; exact h i hi, hl, fun p hp => by rw [pick_map h]; exact q p hp⟩
theorem pickO_intsT {μ : M} {rs : List Int} {ns : List Int} {Q : QD} {X : XD} (h : ∀ i ∈ ns, 0 ≤ i ∧ i < (rs.length : Int)) (hl : ns.length ≤ 1000) (q : ∀ p, μ p = none → Q (.raw (.ref p)) (updM μ p (.lst ((pickA rs ns).map D.int)))) : c_pickedO [intsT rs, .lst (ns.map D.int)] μ Q X :=
  ⟨intsT rs, rs.map D.int, ns, rfl, .inr rfl, fun i hi => by rw [List.length_map]; exact h i hi, hl, fun p hp => by rw [pick_map h]; exact q p hp⟩
def t_ordered_shapeO : DTS :=
  (dSeq (dSet 2 (dCB gTuple (dCons (dCall c_pickedO (dCons (dOp gIx (dVar 0) (dC (.int 2))) (dCons (dVar 1) dNil))) dNil)))
    (dSeq (dIf (dB (dOp gEq (dOp gIx (dVar 0) (dC (.int 0))) (dC (.str (PySem.Str.ofString "stream"))))) (dRet (dOp gAdd (dSl (dVar 0) dNoPart (dPart (dC (.int 2)))) (dTup (dCons (dVar 2) (dCons (dCB gTuple (dCons (dCall c_pickedO (dCons (dOp gIx (dVar 0) (dC (.int 3))) (dCons (dVar 1) dNil))) dNil)) (dCons (dOp gIx (dVar 0) (dC (.int 4))) dNil)))))) dNext)
    (dRet (dOp gAdd (dOp gAdd (dSl (dVar 0) dNoPart (dPart (dC (.int 2)))) (dTup (dCons (dVar 2) dNil))) (dSl (dVar 0) (dPart (dC (.int 3))) dNoPart)))))

theorem hb_ordered_shapeO : HB c_ordered_shape t_ordered_shapeO 3 := by
  intro ds μ Q X h
  obtain ⟨s, ns, rfl, ok, tied, hi, hl, q⟩ := h
  show t_ordered_shapeO (ends Q XF) [some s.d, some (.lst (ns.map D.int)), none] μ
  have sz : 16777216 ≤ sizeLine := by decide
  cases s with
  | deal rs w => cases tied
  | bench ls => cases tied
  | stream m ts rs k =>
    have hrs : rs.length = ts.length := ok.2.1
    simp! only [t_ordered_shapeO, Shp.d, Shp.word, Shp.rest]
    refine pickO_tis hi hl fun p hp => ?_
    simp! only [view_new]
    refine ⟨by decide +kernel, by decide +kernel, ?_⟩
    simp! only [cut_two, atI_three, atI_four]
    refine pickO_intsT (fun i h => by rw [hrs]; exact hi i h) hl fun p2 hp2 => ?_
    simp! only [cut_two, atI_three, atI_four, view_new]
    exact ⟨by decide, by decide, μ, (Sub.new hp).trans (Sub.new hp2), q⟩
  | way m ts b e =>
    simp! only [t_ordered_shapeO, Shp.d, Shp.word, Shp.rest]
    refine pickO_tis hi hl fun p hp => ?_
    simp! only [view_new]
    refine ⟨by decide +kernel, by decide +kernel, ifS_dec (fun z => absurd z (by decide +kernel)) (fun _ => ?_)⟩
    simp! only [cut_two, cut_three]
    exact ⟨by decide, by decide, by decide, μ, Sub.new hp, q⟩
  | tree m ts =>
    simp! only [t_ordered_shapeO, Shp.d, Shp.word, Shp.rest]
    refine pickO_tis hi hl fun p hp => ?_
    simp! only [view_new]
    refine ⟨by decide +kernel, by decide +kernel, ifS_dec (fun z => absurd z (by decide +kernel)) (fun _ => ?_)⟩
    simp! only [cut_two, cut_three]
    exact ⟨by decide, by decide, by decide, μ, Sub.new hp, q⟩
  | pair m ts =>
    simp! only [t_ordered_shapeO, Shp.d, Shp.word, Shp.rest]
    refine pickO_tis hi hl fun p hp => ?_
    simp! only [view_new]
    refine ⟨by decide +kernel, by decide +kernel, ifS_dec (fun z => absurd z (by decide +kernel)) (fun _ => ?_)⟩
    simp! only [cut_two, cut_three]
    exact ⟨by decide, by decide, by decide, μ, Sub.new hp, q⟩
/-- an order of a task that may be put in order -/
def c_orderedO (_ : Addr) : Ct := fun ds μ Q _ => ∃ (t : Task) (ns : List Int), ds = [t.d, .lst (ns.map D.int)] ∧ TaskP t ∧ ns.Perm (upTo t.prices.length) ∧ t.tied = true ∧ ∀ p0 p1 p2 p3 qs μ', OwnT μ μ' (t.ord ns) p0 p1 p2 p3 qs → Q (ownD p0 p1 p2 p3 t.word) μ'
def t_orderedO (C_NoOrder : Addr) : DTS :=
  (dSeq (dAsg (dCall c_copiedO (dCons (dVar 0) dNil)) (tgT (tgCons (tgN 2) (tgCons (tgN 3) (tgCons (tgN 4) (tgCons (tgN 5) (tgCons (tgN 6) tgNil)))))))
    (dSeq (dIf (dOr (dNot (dTru (dCall c_is_order (dCons (dVar 1) (dCons (dCB gLen (dCons (dVar 2) dNil)) dNil))))) (dB (dOp gNe (dLc (dSeqI (dVar 3)) (tgN 7) (dB (dOp (gIn false) (dOp gIx (dOp gIx (dVar 7) (dC (.int 0))) (dC (.int 0))) (dTup (dCons (dC (.str (PySem.Str.ofString "deal"))) (dCons (dC (.str (PySem.Str.ofString "bench"))) dNil))))) (dVar 7) [7]) (dLst dNil)))) (dRaise C_NoOrder) dNext)
    (dSeq (dSet 3 (dLcC (dSeqI (dVar 3)) (tgT (tgCons (tgN 8) (tgCons (tgN 9) tgNil))) dYes (dTup (dCons (dCall c_ordered_shape (dCons (dVar 8) (dCons (dVar 1) dNil))) (dCons (dCall c_pickedO (dCons (dVar 9) (dCons (dVar 1) dNil))) dNil))) [8, 9]))
    (dRet (dTup (dCons (dCall c_pickedO (dCons (dVar 2) (dCons (dVar 1) dNil))) (dCons (dVar 3) (dCons (dCall c_pickedO (dCons (dVar 4) (dCons (dVar 1) dNil))) (dCons (dCall c_pickedO (dCons (dVar 5) (dCons (dVar 1) dNil))) (dCons (dVar 6) dNil))))))))))

theorem wcell_at {ws : List Wsh} {qs : List Addr} {i : Nat} {d : D} (h : (List.zipWith wcell ws qs)[i]? = some d) : ∃ w q, ws[i]? = some w ∧ qs[i]? = some q ∧ d = wcell w q := by
  rw [List.getElem?_zipWith] at h
  split at h
  · rename_i w q e1 e2
    exact ⟨w, q, e1, e2, (Option.some.inj h).symm⟩
  · cases h
theorem OwnW.off {μ0 μ : M} {ws : List Wsh} {qs : List Addr} (o : OwnW μ0 μ ws qs) {p : Addr} (h : μ p = none) : p ∉ qs := fun m => by
  obtain ⟨j, hj⟩ := List.getElem?_of_mem m
  have hl := (List.getElem?_eq_some_iff.mp hj).1
  have e := o.at_ j p _ hj (List.getElem?_eq_getElem (by rw [← o.len]; exact hl))
  rw [h] at e
  cases e
/-- the wishes' list, then prices, bounds, weights, each in a new cell -/
theorem OwnT.four {μ0 μ : M} {t : Task} {qs : List Addr} {p0 p1 p2 p3 : Addr} (o : OwnW μ0 μ t.wishes qs) (h1 : μ p1 = none) (h0 : updM μ p1 (.lst (List.zipWith wcell t.wishes qs)) p0 = none)
    (h2 : updM (updM μ p1 (.lst (List.zipWith wcell t.wishes qs))) p0 (.lst (t.prices.map fr)) p2 = none) (h3 : updM (updM (updM μ p1 (.lst (List.zipWith wcell t.wishes qs))) p0 (.lst (t.prices.map fr))) p2 (.lst (t.bounds.map bndD)) p3 = none) :
    OwnT μ0 (updM (updM (updM (updM μ p1 (.lst (List.zipWith wcell t.wishes qs))) p0 (.lst (t.prices.map fr))) p2 (.lst (t.bounds.map bndD))) p3 (.lst (t.weights.map wgtD))) t p0 p1 p2 p3 qs := by
  have n01 : p0 ≠ p1 := fun e => by rw [e, updM_same] at h0; cases h0
  have n20 : p2 ≠ p0 := fun e => by rw [e, updM_same] at h2; cases h2
  have n21 : p2 ≠ p1 := fun e => by rw [e, updM_ne (Ne.symm n01), updM_same] at h2; cases h2
  have n32 : p3 ≠ p2 := fun e => by rw [e, updM_same] at h3; cases h3
  have n30 : p3 ≠ p0 := fun e => by rw [e, updM_ne (Ne.symm n20), updM_same] at h3; cases h3
  have n31 : p3 ≠ p1 := fun e => by rw [e, updM_ne (Ne.symm n21), updM_ne (Ne.symm n01), updM_same] at h3; cases h3
  have z0 : μ p0 = none := by rw [updM_ne n01] at h0; exact h0
  have z2 : μ p2 = none := by rw [updM_ne n20, updM_ne n21] at h2; exact h2
  have z3 : μ p3 = none := by rw [updM_ne n32, updM_ne n30, updM_ne n31] at h3; exact h3
  refine ⟨(((o.more h1).more h0).more h2).more h3, ?_, ?_, ?_, updM_same, o.sub.fresh z0, o.sub.fresh h1, o.sub.fresh z2, o.sub.fresh z3, ?_, fun p hp => ?_⟩
  · rw [updM_ne (Ne.symm n30), updM_ne (Ne.symm n20), updM_same]
  · rw [updM_ne (Ne.symm n31), updM_ne (Ne.symm n21), updM_ne (Ne.symm n01), updM_same]
  · rw [updM_ne (Ne.symm n32), updM_same]
  · simp [n01, Ne.symm n20, Ne.symm n30, Ne.symm n21, Ne.symm n31, Ne.symm n32]
  · simp only [List.mem_cons, List.not_mem_nil, or_false] at hp
    rcases hp with rfl | rfl | rfl | rfl
    · exact o.off z0
    · exact o.off h1
    · exact o.off z2
    · exact o.off z3
theorem view_up {μ : M} {p q : Addr} {ds : List D} {c : C} (h : μ p = some (.lst ds)) (hq : μ q = none) : view (updM μ q c) (.raw (.ref p)) = .lst ds := view_cell (by rw [updM_ne (ne_fresh h hq)]; exact h)
theorem hb_orderedO {C_NoOrder : Addr} : HBX (c_orderedO C_NoOrder) (t_orderedO C_NoOrder) 10 := by
  intro ds μ Q X h
  obtain ⟨t, ns, rfl, ht, hp, htd, q⟩ := h
  show t_orderedO C_NoOrder (ends Q (FinX X)) [some t.d, some (.lst (ns.map D.int)), none, none, none, none, none, none, none, none] μ
  have sz : 16777216 ≤ sizeLine := by decide
  have hn := ht.n2
  have hb := ht.bl
  have hg := ht.gl
  have hwl := ht.wl
  have hpl : ns.length = t.prices.length := by rw [hp.length_eq, upTo_len]
  have hin : ∀ i ∈ ns, 0 ≤ i ∧ i < (t.prices.length : Int) := fun i hi => upTo_mem.mp (hp.mem_iff.mp hi)
  have hord : OrdT (.lst (ns.map D.int)) := ⟨rfl, fun xs e => by
    injection e with e
    subst e
    exact ⟨by rw [List.length_map]; omega, fun x hx => by obtain ⟨i, _, rfl⟩ := List.mem_map.mp hx; rfl⟩⟩
  simp! only [t_orderedO]
  refine ⟨t, rfl, ht, fun p0 p1 p2 p3 qs μ1 o => ?_⟩
  have hlz : (List.zipWith wcell t.wishes qs).length = t.wishes.length := by rw [List.length_zipWith, o.w.len, Nat.min_self]
  simp! only [ownD, view_cell o.c0]
  refine ⟨_, _, rfl, hord, by omega, by rw [List.length_map]; omega, fun b hbd => ?_⟩
  rw [List.length_map] at hbd
  obtain rfl : b = true := hbd.mpr ⟨ns, rfl, by rw [Int.toNat_natCast]; exact hp⟩
  simp! only [o.c1]
  refine ⟨fun i acc μ' => μ1 = μ' ∧ acc = [], ⟨rfl, rfl⟩, ?_⟩
  rintro i acc μ' ⟨rfl, rfl⟩
  refine ⟨o.c1, fun d hd => ?_, fun _ => ?_⟩
  · obtain ⟨w, r, hw, hr, rfl⟩ := wcell_at hd
    obtain ⟨_, s, es, _, _⟩ := ht.ws w (List.mem_of_getElem? hw)
    have hl : looseB s.word = false := by
      have := List.all_eq_true.mp htd w (List.mem_of_getElem? hw)
      rw [wish_word es] at this
      simpa using this
    simp! only [wcell, es, Shp.d, inD_loose, flatD]
    refine ⟨by decide, kTest_of (fun h => by rw [hl] at h; cases h) (fun _ => ⟨rfl, rfl⟩)⟩
  walk_at "r"
  refine ⟨by decide, rfl, by decide, ?_⟩
  simp! only [o.c1]
  refine ⟨fun i acc μ' => ∃ rs, OwnW μ1 μ' ((t.ord ns).wishes.take i) rs ∧ acc = List.zipWith wcell ((t.ord ns).wishes.take i) rs, ⟨[], by rw [List.take_zero]; exact .nil, by simp⟩, ?_⟩
  rintro i acc μ2 ⟨rs, w2, rfl⟩
  have c1' : μ2 p1 = some (.lst (List.zipWith wcell t.wishes qs)) := w2.sub _ _ o.c1
  refine ⟨c1', fun d hd => ?_, fun hi => ?_⟩
  · obtain ⟨w, r, hw, hr, rfl⟩ := wcell_at hd
    obtain ⟨hl, s, es, ok, it⟩ := ht.ws w (List.mem_of_getElem? hw)
    have htied : s.tied = true := by
      rw [Shp.tied_word, ← wish_word es]
      exact List.all_eq_true.mp htd w (List.mem_of_getElem? hw)
    have hin' : ∀ i ∈ ns, 0 ≤ i ∧ i < s.items := fun i hi => by rw [it, hl]; exact hin i hi
    have eo : ordD w.1 ns = (ordShp s ns).d := by rw [es]; exact ordD_shp ok htied hin'
    have cr : μ2 r = some (.lst (w.2.map D.int)) := w2.sub _ _ (o.w.at_ i r w hr hw)
    have hx : (t.ord ns).wishes[i]? = some (ordD w.1 ns, pickA w.2 ns) := by
      show (t.wishes.map _)[i]? = _
      rw [List.getElem?_map, hw]
      rfl
    simp! only [wcell]
    refine ⟨s, ns, by rw [es], ok, htied, hin', by omega, ?_⟩
    walk_at "r"
    refine ⟨_, w.2.map D.int, ns, rfl, .inl (view_cell cr), fun i hi => by rw [List.length_map, hl]; exact hin i hi, by omega, fun p hp => ?_⟩
    rw [pick_map (fun i hi => by rw [hl]; exact hin i hi)]
    walk_at "r"
    have e := take_snoc hx
    refine ⟨by decide, ?_, rs ++ [p], ?_, ?_⟩
    · rw [List.length_zipWith, List.length_take]
      show min (min i (t.wishes.map _).length) _ < _
      rw [List.length_map]
      omega
    · rw [e]
      exact w2.snoc (w := (ordD w.1 ns, pickA w.2 ns)) hp
    · rw [e, zip_snoc w2.len, ← eo]
      rfl
  · rw [hlz] at hi
    subst hi
    have hall : (t.ord ns).wishes.take t.wishes.length = (t.ord ns).wishes := List.take_of_length_le (by show (t.wishes.map _).length ≤ _; rw [List.length_map]; exact Nat.le_refl _)
    rw [hall] at w2 ⊢
    intro q1 k1
    have y0 := w2.sub _ _ o.c0
    have y2 := w2.sub _ _ o.c2
    have y3 := w2.sub _ _ o.c3
    walk_at "r"
    refine ⟨_, t.prices.map fr, ns, rfl, .inl (view_up y0 k1), fun i hi => by rw [List.length_map]; exact hin i hi, by omega, fun q0 k0 => ?_⟩
    rw [pick_map hin]
    walk_at "r"
    have x2 : (updM (updM μ2 q1 (.lst (List.zipWith wcell (t.ord ns).wishes rs))) q0 (.lst ((pickA t.prices ns).map fr))) p2 = some (.lst (t.bounds.map bndD)) := ((Sub.new k1).trans (Sub.new k0)) _ _ y2
    have x3 : (updM (updM μ2 q1 (.lst (List.zipWith wcell (t.ord ns).wishes rs))) q0 (.lst ((pickA t.prices ns).map fr))) p3 = some (.lst (t.weights.map wgtD)) := ((Sub.new k1).trans (Sub.new k0)) _ _ y3
    refine ⟨_, t.bounds.map bndD, ns, rfl, .inl (view_cell x2), fun i hi => by rw [List.length_map, hb]; exact hin i hi, by omega, fun q2 k2 => ?_⟩
    rw [pick_map (xs := t.bounds) (fun i hi => by rw [hb]; exact hin i hi)]
    walk_at "r"
    refine ⟨_, t.weights.map wgtD, ns, rfl, .inl (view_up x3 k2), fun i hi => by rw [List.length_map, hg]; exact hin i hi, by omega, fun q3 k3 => ?_⟩
    rw [pick_map (xs := t.weights) (fun i hi => by rw [hg]; exact hin i hi)]
    walk_at "r"
    have base : OwnW μ μ2 (t.ord ns).wishes rs := ⟨w2.len, o.w.sub.trans w2.sub, fun r hr => o.w.sub.fresh (w2.new r hr), w2.nd, w2.at_⟩
    exact ⟨by decide, .of (q q0 q1 q2 q3 rs _ (OwnT.four (t := t.ord ns) base k1 k0 k2 k3))⟩
/-! ### places -/
theorem zip_set : ∀ {ws : List Wsh} {qs : List Addr} {j : Nat} {q : Addr} {w : Wsh}, qs[j]? = some q → (List.zipWith wcell ws qs).set j (wcell w q) = List.zipWith wcell (ws.set j w) qs
  | [], [], _, _, _, h => by simp at h
  | [], _ :: _, j, _, _, _ => by cases j <;> rfl
  | _ :: _, [], _, _, _, h => by simp at h
  | a :: ws, b :: qs, 0, q, w, h => by
    cases h
    rfl
  | a :: ws, b :: qs, j + 1, q, w, h => by
    show wcell a b :: (List.zipWith wcell ws qs).set j (wcell w q) = wcell a b :: List.zipWith wcell (ws.set j w) qs
    rw [zip_set (by simpa using h)]
/-- one wish's shape put otherwise, its plan the same -/
theorem OwnT.setW {μ0 μ : M} {t : Task} {p0 p1 p2 p3 : Addr} {qs : List Addr} {j : Nat} {d d' : D} {pl : List Int} (o : OwnT μ0 μ t p0 p1 p2 p3 qs) (hw : t.wishes[j]? = some (d, pl)) :
    OwnT μ0 (updM μ p1 (.lst (List.zipWith wcell (t.wishes.set j (d', pl)) qs))) { t with wishes := t.wishes.set j (d', pl) } p0 p1 p2 p3 qs := by
  obtain ⟨e01, _, _, e12, e13, _⟩ := o.nums
  have q1 : p1 ∉ qs := o.nq p1 (by simp)
  have sub : Sub μ0 (updM μ p1 (.lst (List.zipWith wcell (t.wishes.set j (d', pl)) qs))) := fun a x e => by
    rw [updM_ne (ne_fresh e o.n1)]
    exact o.w.sub a x e
  refine ⟨⟨?_, sub, o.w.new, o.w.nd, fun i q w hq hwi => ?_⟩, ?_, updM_same, ?_, ?_, o.n0, o.n1, o.n2, o.n3, o.ne, o.nq⟩
  · show qs.length = (t.wishes.set j (d', pl)).length
    rw [List.length_set]
    exact o.w.len
  · have ne : q ≠ p1 := fun e => q1 (by rw [← e]; exact List.mem_of_getElem? hq)
    rw [updM_ne ne]
    have hwi : (t.wishes.set j (d', pl))[i]? = some w := hwi
    by_cases ij : j = i
    · subst ij
      have hl := (List.getElem?_eq_some_iff.mp hw).1
      rw [List.getElem?_set_self hl] at hwi
      cases hwi
      exact o.w.at_ j q (d, pl) hq hw
    · rw [List.getElem?_set_ne ij] at hwi
      exact o.w.at_ i q w hq hwi
  · rw [updM_ne e01]; exact o.c0
  · rw [updM_ne (Ne.symm e12)]; exact o.c2
  · rw [updM_ne (Ne.symm e13)]; exact o.c3
def c_placedO (_ _ : Addr) : Ct := fun ds μ Q _ => ∃ (t : Task) (j : Nat) (s : Shp) (pl ns : List Int), ds = [t.d, .int j, .lst (ns.map D.int)] ∧ TaskP t ∧ t.wishes[j]? = some (s.d, pl) ∧ s.Ok ∧ s.webbed = true ∧ ns.Perm (upTo s.many.toNat) ∧
  ∀ p0 p1 p2 p3 qs μ', OwnT μ μ' (t.plc j s ns pl) p0 p1 p2 p3 qs → Q (ownD p0 p1 p2 p3 t.word) μ'
def t_placedO (C_NoOrder C_NoWish : Addr) : DTS :=
  (dSeq (dAsg (dCall c_copiedO (dCons (dVar 0) dNil)) (tgT (tgCons (tgN 3) (tgCons (tgN 4) (tgCons (tgN 5) (tgCons (tgN 6) (tgCons (tgN 7) tgNil)))))))
    (dSeq (dIf (dOr (dNot (dTru (dCall c_is_whole (dCons (dVar 1) dNil)))) (dNot (dB (dChain gLe gLt (dC (.int 0)) (dVar 1) (dCB gLen (dCons (dVar 4) dNil)))))) (dRaise C_NoWish) dNext)
    (dSeq (dAsg (dOp gIx (dVar 4) (dVar 1)) (tgT (tgCons (tgN 8) (tgCons (tgN 9) tgNil))))
    (dSeq (dIf (dOr (dB (dOp (gIn true) (dOp gIx (dVar 8) (dC (.int 0))) (dTup (dCons (dC (.str (PySem.Str.ofString "way"))) (dCons (dC (.str (PySem.Str.ofString "tree"))) (dCons (dC (.str (PySem.Str.ofString "stream"))) dNil)))))) (dNot (dTru (dCall c_is_order (dCons (dVar 2) (dCons (dOp gIx (dVar 8) (dC (.int 1))) dNil)))))) (dRaise C_NoOrder) dNext)
    (dSeq (dSetIx (dTup (dCons (dCall c_placed_shape (dCons (dVar 8) (dCons (dVar 2) dNil))) (dCons (dVar 9) dNil))) (dVar 4) (dVar 1))
    (dRet (dTup (dCons (dVar 3) (dCons (dVar 4) (dCons (dVar 5) (dCons (dVar 6) (dCons (dVar 7) dNil))))))))))))

theorem hb_placedO {C_NoOrder C_NoWish : Addr} : HBX (c_placedO C_NoWish C_NoOrder) (t_placedO C_NoOrder C_NoWish) 10 := by
  intro ds μ Q X h
  obtain ⟨t, j, s, pl, ns, rfl, ht, hw, ok, hwb, hp, q⟩ := h
  show t_placedO C_NoOrder C_NoWish (ends Q (FinX X)) [some t.d, some (.int j), some (.lst (ns.map D.int)), none, none, none, none, none, none, none] μ
  have sz : 16777216 ≤ sizeLine := by decide
  have hwl := ht.wl
  have hj : j < t.wishes.length := (List.getElem?_eq_some_iff.mp hw).1
  obtain ⟨r, er⟩ := web_rest hwb
  obtain ⟨m2, m10⟩ := web_many ok hwb
  simp! only [t_placedO]
  refine ⟨t, rfl, ht, fun p0 p1 p2 p3 qs μ1 o => ?_⟩
  have hlz : (List.zipWith wcell t.wishes qs).length = t.wishes.length := by rw [List.length_zipWith, o.w.len, Nat.min_self]
  obtain ⟨x, hx⟩ : ∃ x, qs[j]? = some x := ⟨_, List.getElem?_eq_getElem (by rw [o.w.len]; exact hj)⟩
  have ea : atI (List.zipWith wcell t.wishes qs) (j : Int) = some (.tup [s.d, .raw (.ref x)]) := by
    rw [NB.atI_nat, List.getElem?_zipWith, hw, hx]
    rfl
  simp! only [ownD]
  refine ⟨.int j, rfl, rfl, ?_⟩
  simp! only [wholeB, view_cell o.c1]
  rw [show decide ((0 : Int) ≤ j) = true from decide_eq_true (by omega)]
  simp! only [view_cell o.c1, hlz]
  rw [show decide ((j : Int) < (t.wishes.length : Int)) = true from decide_eq_true (by omega)]
  simp! only [view_cell o.c1, ea, Shp.d, inD_web, flatD, hwb]
  refine ⟨by decide, ?_⟩
  simp! only [er]
  have hord : OrdT (.lst (ns.map D.int)) := ⟨rfl, fun xs e => by
    injection e with e
    subst e
    have hl := hp.length_eq
    rw [upTo_len] at hl
    exact ⟨by rw [List.length_map]; omega, fun x hx => by obtain ⟨i, _, rfl⟩ := List.mem_map.mp hx; rfl⟩⟩
  refine ⟨_, _, rfl, hord, by omega, by omega, fun b hbd => ?_⟩
  obtain rfl : b = true := hbd.mpr ⟨ns, rfl, hp⟩
  walk_at "r"
  refine ⟨s, ns, by rw [Shp.d, er], ok, hwb, hp, ?_⟩
  walk_at "r"
  refine ⟨by decide, _, o.c1, ?_⟩
  rw [hlz, ixN_nat hj]
  have o2 := o.setW (d' := (plcShp s ns).d) hw
  rw [← zip_set (w := ((plcShp s ns).d, pl)) hx] at o2
  walk_at "r"
  exact ⟨by decide, .of (q p0 p1 p2 p3 qs _ o2)⟩
end NB
set_option Elab.async false
set_option linter.all false
set_option maxRecDepth 100000
set_option maxHeartbeats 2000000
set_option exponentiation.threshold 20000
/-! A drawn task can be shown. -/
namespace NB
open PySem PySem.Spec L2 DL Fr
structure Sh (n c : Nat) (d : D) : Prop where
  ok : okN n d = true
  sh : (toP d).showable = true
  sz : rsz d ≤ c
theorem Sh.mono {n c n' c' : Nat} {d : D} (h : Sh n c d) (h1 : n ≤ n') (h2 : c ≤ c') : Sh n' c' d := ⟨okN_mono h.ok h1, h.sh, Nat.le_trans h.sz h2⟩
theorem sh_int {i : Int} (h : i.natAbs < 2 ^ 300) : Sh 0 303 (.int i) := by
  have hl : i.natAbs.log2 < 301 := by
    by_cases h0 : i.natAbs = 0
    · rw [h0]; decide
    · have := (Nat.log2_lt h0 (k := 300)).mpr h
      omega
  refine ⟨rfl, ?_, ?_⟩
  · show decide (i.natAbs.log2 < 1920) = true
    exact decide_eq_true (by omega)
  · show i.natAbs.log2 + 3 ≤ 303
    omega
theorem sh_small {i : Int} (h1 : -1000 ≤ i) (h2 : i ≤ 1000) : Sh 0 303 (.int i) := sh_int (by
  have : (1001 : Nat) < 2 ^ 300 := by decide
  omega)
theorem sh_non : Sh 0 5 .non := ⟨rfl, rfl, Nat.le_refl _⟩
theorem sh_all {n c : Nat} : ∀ {xs : List D}, (∀ x ∈ xs, Sh n c x) → (PyData.showableAll (toPs xs) = true) ∧ rszs xs ≤ (c + 2) * xs.length
  | [], _ => ⟨rfl, Nat.le_refl _⟩
  | x :: xs, h => by
    obtain ⟨h1, h2⟩ := sh_all (xs := xs) fun y hy => h y (List.mem_cons_of_mem _ hy)
    have hx := h x List.mem_cons_self
    constructor
    · show ((toP x).showable && PyData.showableAll (toPs xs)) = true
      rw [hx.sh, h1]
      rfl
    · show rsz x + 2 + rszs xs ≤ (c + 2) * (xs.length + 1)
      have := hx.sz
      rw [Nat.mul_add, Nat.mul_one]
      omega
theorem sh_tup {n c k : Nat} {xs : List D} (hl : xs.length ≤ k) (h : ∀ x ∈ xs, Sh n c x) : Sh (n + 1) (3 + (c + 2) * k) (.tup xs) := by
  obtain ⟨h1, h2⟩ := sh_all h
  refine ⟨List.all_eq_true.mpr fun x hx => (h x hx).ok, h1, ?_⟩
  show 3 + rszs xs ≤ _
  have := Nat.mul_le_mul_left (c + 2) hl
  omega
theorem sh_lst {n c k : Nat} {xs : List D} (hl : xs.length ≤ k) (h : ∀ x ∈ xs, Sh n c x) : Sh (n + 1) (3 + (c + 2) * k) (.lst xs) := by
  obtain ⟨h1, h2⟩ := sh_all h
  refine ⟨List.all_eq_true.mpr fun x hx => (h x hx).ok, h1, ?_⟩
  show 2 + rszs xs ≤ _
  have := Nat.mul_le_mul_left (c + 2) hl
  omega
theorem sh_fr {f : Int × Int} (h1 : f.1.natAbs < 2 ^ 300) (h2 : f.2.natAbs < 2 ^ 300) : Sh 1 613 (fr f) := sh_tup (n := 0) (c := 303) (k := 2) (xs := [.int f.1, .int f.2]) (by simp) fun x hx => by
  simp only [List.mem_cons, List.not_mem_nil, or_false] at hx
  rcases hx with rfl | rfl
  · exact sh_int h1
  · exact sh_int h2
theorem sh_ok {n : Nat} {f : Fc} (h : Ok n f) (hn : n ≤ 300) : Sh 1 613 (fr f) := by
  have h := h.mono hn
  exact sh_fr h.tb h.bb
theorem sh_tis {m : Int} {ts : Tis} (hm : m ≤ 1000) (hl : ts.length ≤ 16) (h : ∀ t ∈ ts, InP m t) : Sh 2 9843 (tisD ts) := sh_tup (c := 613) (k := 16) (by rw [List.length_map]; exact hl) fun x hx => by
  obtain ⟨t, ht, rfl⟩ := List.mem_map.mp hx
  obtain ⟨a, b, c, d⟩ := h t ht
  have : (1000 : Nat) < 2 ^ 300 := by decide
  exact sh_fr (by omega) (by omega)
theorem sh_intsT {ns : List Int} (hl : ns.length ≤ 16) (h : ∀ n ∈ ns, -1000 ≤ n ∧ n ≤ 1000) : Sh 1 4883 (intsT ns) := sh_tup (c := 303) (k := 16) (by rw [List.length_map]; exact hl) fun x hx => by
  obtain ⟨t, ht, rfl⟩ := List.mem_map.mp hx
  exact sh_small (h t ht).1 (h t ht).2
theorem sh_ints {ns : List Int} (hl : ns.length ≤ 16) (h : ∀ n ∈ ns, -1000 ≤ n ∧ n ≤ 1000) : Sh 1 4883 (.lst (ns.map D.int)) := sh_lst (c := 303) (k := 16) (by rw [List.length_map]; exact hl) fun x hx => by
  obtain ⟨t, ht, rfl⟩ := List.mem_map.mp hx
  exact sh_small (h t ht).1 (h t ht).2
theorem sh_word (s : Shp) : Sh 2 9843 (.str s.word) := by
  cases s <;> (dsimp only [Shp.word]; exact ⟨by decide +kernel, rfl, by decide +kernel⟩)
theorem sh_two {x : D} {n c : Nat} (h : Sh n c x) (h1 : n ≤ 2) (h2 : c ≤ 9843) : Sh 2 9843 x := h.mono h1 h2
theorem sh_shp {s : Shp} (ok : s.Ok) : Sh 3 49228 s.d := by
  refine sh_tup (n := 2) (c := 9843) (k := 5) (xs := .str s.word :: s.rest) (by cases s <;> simp [Shp.rest]) fun x hx => ?_
  rcases List.mem_cons.mp hx with rfl | hx
  · exact sh_word s
  · cases s with
    | way m ts b e =>
      obtain ⟨web, hb, he, _⟩ := ok
      have := web.m10
      have := web.m2
      simp only [Shp.rest, List.mem_cons, List.not_mem_nil, or_false] at hx
      rcases hx with rfl | rfl | rfl | rfl
      · exact sh_two (sh_small (by omega) (by omega)) (by decide) (by decide)
      · exact sh_tis (by omega) web.l16 fun t ht => Tie.inP (web.tie t ht)
      · exact sh_two (sh_small (by omega) (by omega)) (by decide) (by decide)
      · exact sh_two (sh_small (by omega) (by omega)) (by decide) (by decide)
    | tree m ts =>
      have := Web.m10 ok
      have := Web.m2 ok
      simp only [Shp.rest, List.mem_cons, List.not_mem_nil, or_false] at hx
      rcases hx with rfl | rfl
      · exact sh_two (sh_small (by omega) (by omega)) (by decide) (by decide)
      · exact sh_tis (by omega) (Web.l16 ok) fun t ht => Tie.inP (Web.tie ok t ht)
    | pair m ts =>
      obtain ⟨hm, hl, ht⟩ := ok
      simp only [Shp.rest, List.mem_cons, List.not_mem_nil, or_false] at hx
      rcases hx with rfl | rfl
      · exact sh_two (sh_small (by omega) (by omega)) (by decide) (by decide)
      · exact sh_tis (by omega) hl.2 ht
    | deal rs w =>
      obtain ⟨hl, hr, hw, _⟩ := ok
      simp only [Shp.rest, List.mem_cons, List.not_mem_nil, or_false] at hx
      rcases hx with rfl | rfl
      · exact sh_two (sh_intsT (by omega) fun n hn => by have := hr n hn; omega) (by decide) (by decide)
      · exact sh_two (sh_small (by omega) (by omega)) (by decide) (by decide)
    | stream m ts rs k =>
      obtain ⟨web, hrl, hr, hk, hkb, _⟩ := ok
      have := web.m10
      have := web.m2
      have := web.l16
      simp only [Shp.rest, List.mem_cons, List.not_mem_nil, or_false] at hx
      rcases hx with rfl | rfl | rfl | rfl
      · exact sh_two (sh_small (by omega) (by omega)) (by decide) (by decide)
      · exact sh_tis (by omega) web.l16 fun t ht => Tie.inP (web.tie t ht)
      · exact sh_two (sh_intsT (by omega) fun n hn => by have := hr n hn; omega) (by decide) (by decide)
      · exact sh_two (sh_intsT (by omega) fun n hn => by have := hkb n hn; omega) (by decide) (by decide)
    | bench ls =>
      obtain ⟨hl, hr⟩ := ok
      simp only [Shp.rest, List.mem_cons, List.not_mem_nil, or_false] at hx
      subst hx
      exact sh_two (sh_intsT (by omega) fun n hn => by have := hr n hn; omega) (by decide) (by decide)
theorem sh_opt {o : Option Fc} (h : ∀ f, o = some f → Ok 300 f) : Sh 1 613 (optF o) := by
  cases o with
  | none => exact sh_non.mono (by decide) (by decide)
  | some f => exact sh_ok (h f rfl) (Nat.le_refl _)
theorem grow_bit1 : ∀ (xs : List ((Int × Int) × Nat)) (st : List Int × List Int), (∀ n ∈ st.1, n = 0 ∨ n = 1) → ∀ n ∈ (xs.foldl growStep st).1, n = 0 ∨ n = 1
  | [], _, h => h
  | x :: xs, st, h => by
    refine grow_bit1 xs (growStep st x) ?_
    unfold growStep
    split
    · exact h
    · intro n hn
      rcases List.mem_or_eq_of_mem_set hn with hn | hn
      · exact h n hn
      · exact .inr hn
theorem grow_bit2 {F : List (Int × Int)} : ∀ (xs : List Nat) (st : List Int × List Int), (∀ n ∈ st.1, n = 0 ∨ n = 1) → ∀ n ∈ (xs.foldl (growRound F) st).1, n = 0 ∨ n = 1
  | [], _, h => h
  | x :: xs, st, h => grow_bit2 xs (growRound F st x) (grow_bit1 F.zipIdx st h)
theorem grow_bits {F : List (Int × Int)} {n : Nat} : ∀ i ∈ (grow F n).1, i = 0 ∨ i = 1 := grow_bit2 _ _ fun i hi => .inl (List.eq_of_mem_replicate hi)
theorem WishesOk.cnts {ws : List (D × List Int)} (h : WishesOk ws) : ∀ w ∈ ws, ∀ n ∈ w.2, -1000 ≤ n ∧ n ≤ 1000 := by
  obtain ⟨w, hw, h⟩ := h
  have hc := Wish.cnts hw
  have h1 : ∀ n ∈ w.2, -1000 ≤ n ∧ n ≤ 1000 := fun n hn => by have := hc.bd n hn; omega
  intro v hv
  rcases h with rfl | ⟨w2, hb, hp⟩
  · rw [List.mem_singleton.mp hv]; exact h1
  · have := hp.mem_iff.mp hv
    simp only [List.mem_cons, List.not_mem_nil, or_false] at this
    rcases this with rfl | rfl
    · exact h1
    · cases hb with
      | tree e =>
        intro n hn
        rcases grow_bits n hn with e | e <;> omega
      | bench _ hb => exact fun n hn => by have := (Wish.cnts hb.1).bd n hn; omega
theorem sh_task {t : Task} (h : TaskOk t) : Sh 6 1969328 t.d := by
  have hp := h.p
  have hn := hp.n2
  refine sh_tup (n := 5) (c := 393863) (k := 5) (by simp) fun x hx => ?_
  simp only [List.mem_cons, List.not_mem_nil, or_false] at hx
  rcases hx with rfl | rfl | rfl | rfl | rfl
  · exact (sh_lst (n := 1) (c := 613) (k := 16) (by rw [List.length_map]; exact hn) fun x hx => by
      obtain ⟨f, hf, rfl⟩ := List.mem_map.mp hx
      exact sh_ok (h.pr f hf) (by decide)).mono (by decide) (by decide)
  · exact (sh_lst (n := 4) (c := 98463) (k := 4) (by rw [List.length_map]; exact hp.wl) fun x hx => by
      obtain ⟨w, hw, rfl⟩ := List.mem_map.mp hx
      obtain ⟨hl, s, es, ok, _⟩ := hp.ws w hw
      refine sh_tup (n := 3) (c := 49228) (k := 2) (xs := [w.1, .lst (w.2.map D.int)]) (by simp) fun y hy => ?_
      simp only [List.mem_cons, List.not_mem_nil, or_false] at hy
      rcases hy with rfl | rfl
      · rw [es]; exact sh_shp ok
      · exact (sh_ints (by omega) (h.ws.cnts w hw)).mono (by decide) (by decide)).mono (by decide) (by decide)
  · exact (sh_lst (n := 2) (c := 1233) (k := 16) (by rw [List.length_map, hp.bl]; exact hn) fun x hx => by
      obtain ⟨b, hb, rfl⟩ := List.mem_map.mp hx
      refine sh_tup (n := 1) (c := 613) (k := 2) (xs := [optF b.1, optF b.2]) (by simp) fun y hy => ?_
      simp only [List.mem_cons, List.not_mem_nil, or_false] at hy
      rcases hy with rfl | rfl
      · exact sh_opt (hp.bd b hb).1
      · exact sh_opt (hp.bd b hb).2).mono (by decide) (by decide)
  · exact (sh_lst (n := 2) (c := 1233) (k := 16) (by rw [List.length_map, hp.gl]; exact hn) fun x hx => by
      obtain ⟨b, hb, rfl⟩ := List.mem_map.mp hx
      refine sh_tup (n := 1) (c := 613) (k := 2) (xs := [fr b.1, fr b.2]) (by simp) fun y hy => ?_
      simp only [List.mem_cons, List.not_mem_nil, or_false] at hy
      rcases hy with rfl | rfl
      · exact sh_ok (h.wg b hb).dn (by decide)
      · exact sh_ok (h.wg b hb).up (by decide)).mono (by decide) (by decide)
  · rcases h.wd with e | e <;> rw [e] <;> exact ⟨by decide +kernel, rfl, by decide +kernel⟩
theorem Sh.shown {n c : Nat} {d : D} (h : Sh n c d) (hc : c ≤ 16777216) : (toP d).shown.length ≤ sizeLine := by
  have := shown_le n d h.ok
  have := h.sz
  have sz : 16777216 ≤ sizeLine := by decide
  omega
end NB
set_option Elab.async false
set_option linter.all false
set_option maxRecDepth 100000
set_option maxHeartbeats 3200000
/-! set(xs) of a list of whole numbers, and sorted(set(xs)); from the definitions of set.__init__ and type.__call__. -/
namespace DL
open PySem PySem.Spec PyProof.Rows L2
section
variable {P : Program} {w : World} {A : Around} {E : Value → Shared → Prop}
def bareSet (w : World) : Obj := { cls := .type "set", dict := none, data := .set #[] 0 (.fresh 0 0 (!w.params.followText "set-order")) }
/-- set.__init__ puts a list's numbers in -/
theorem setFilled {S l : Addr} {vals : Array Value} {ns : List Int} {st : Shared} {Q : PySem.Fin → Shared → Prop} (calm : A.handled = none) (bare : st.heap.get? S = some (bareSet w)) (lst : st.heap.IsList l vals) (ne : S ≠ l) (are : IntsAre vals.toList ns) (few : ns.length + 1 < scanBound)
    (goal : ∀ h' tk c, SetR w h' S (fun j => decide (j ∈ ns)) c → c ≤ ns.length → (∀ b o, b ≠ S → st.heap.get? b = some o → h'.get? b = some o) → Q (.done (.ret .none)) { st with heap := h', toks := tk }) :
    wpAny (model P w) A (Builtin.«set.__init__» ⟨[.ref S, .ref l], []⟩) Q E st := by
  obtain ⟨⟨cls, own, dat, slots⟩, hol, hcl, nl, hdl⟩ := id lst
  dsimp only at hcl hdl
  subst hcl hdl
  have noDict : (Value.type "list" == Value.type "dict") = false := by decide
  have subs := F.sub_list_set
  have subf := F.sub_list_frozenset
  unfold Builtin.«set.__init__» noKeywords
  unfold Builtin.Frozenset.updateFrom
  generalize hI : pyIter = IT
  generalize hR : @runValue = RV
  wp_walk
  subst hI
  subst hR
  refine wpAny_pyIter_list lst ?_
  refine wpAny_bind (wpAny_runValue ?_)
  have size : vals.size = ns.length := by
    have := IntsAre.length are
    rwa [Array.length_toList] at this
  have new : ∀ {c o}, st.heap.get? c = some o → c ≠ st.heap.objs.size := fun e => Nat.ne_of_lt (Heap.lt_size e)
  have at' : ∀ (i : Nat) (v : Value), vals[i]? = some v → ∃ k t, ns[i]? = some k ∧ v = .int k t := fun i v hv => by
    have lt : i < ns.length := by rw [← size]; exact (Array.getElem?_eq_some_iff.mp hv).1
    obtain ⟨t, e⟩ := IntsAre.int_at are i v (by rw [Array.getElem?_toList]; exact hv)
    refine ⟨ns[i], t, List.getElem?_eq_getElem lt, e.trans ?_⟩
    simp [List.getD, lt]
  have walk := (Walks.list (prog := P) (w := w) (A := A.in1) (by simpa using calm) st.heap.objs.size l (new hol) vals).toS
  refine set_update_ints (A := A) walk S (by simp [new bare, ne]) ns size few at' _ 0 _ rfl (Nat.zero_le _) ?start ?filled ?fin
  case start => exact ⟨⟨_, Heap.get?_push_size _ rfl, rfl, rfl⟩, lst.push _⟩
  case filled => exact ⟨0, Nat.le_refl 0, setR_new_at (Heap.get?_push_of_some _ bare)⟩
  case fin =>
    rintro ⟨h', g', d', t', o'⟩ c moved few' set
    obtain rfl : g' = st.gens := moved.gens
    obtain rfl : d' = st.drawn := moved.drawn
    obtain rfl : o' = st.os := moved.os
    refine wpAny_pure (wpAny_pure (goal h' t' c set (by omega) fun b o hb e => ?_))
    exact moved.heap b o (by simp [hb, new e]) (Heap.get?_push_of_some _ e)
theorem setOfList {l : Addr} {vals : Array Value} {ns : List Int} {st : Shared} {Q : Value → Shared → Prop} (calm : A.handled = none) (lst : st.heap.IsList l vals) (are : IntsAre vals.toList ns) (few : ns.length + 1 < scanBound)
    (goal : ∀ h' tk c, SetR w h' st.heap.objs.size (fun j => decide (j ∈ ns)) c → c ≤ ns.length → (∀ b o, st.heap.get? b = some o → h'.get? b = some o) → Q (.ref st.heap.objs.size) { st with heap := h', toks := tk }) :
    wpAny (model P w) A (call (.type "set") [.ref l]) Q E st := by
  have T := F.called_set
  obtain ⟨top, rest, mro⟩ := T.mro
  have made := T.made
  have self := T.sub
  have noType := T.notType
  have create := T.canCreate
  have check := F.typeCall_set_1 (.ref l)
  refine wpAny_call (codeAny_of_tree (wpAny_pure ⟨Code.quiet_builtin _ (by decide +kernel), codeAny_builtin F.entry_type_call ?_⟩))
  rw [Around.under_plain (weight_type_call_type _ _ _) rfl]
  wp_walk
  refine codeAny_mono (code_set_led1 (.ref l) (E := E) (Q₁ := fun obj s1 => obj = .ref st.heap.objs.size ∧ s1 = { st with heap := st.heap.push (bareSet w) }) ⟨rfl, rfl⟩) fun r s1 got => ?_
  cases r with
  | error e => exact got
  | ok fl =>
    cases fl with
    | ret v =>
      obtain ⟨rfl, rfl⟩ := got
      have bare : (st.heap.push (bareSet w)).get? st.heap.objs.size = some (bareSet w) := Heap.get?_push_size _ rfl
      have ty : Shared.TypeIs { st with heap := st.heap.push (bareSet w) } (.ref st.heap.objs.size) "set" := ⟨_, bare, rfl⟩
      have ne : st.heap.objs.size ≠ l := by
        obtain ⟨o, ho, _⟩ := lst
        exact Nat.ne_of_gt (Heap.lt_size ho)
      have find := T.init.lookup
      have bind := T.init.bind (.ref st.heap.objs.size)
      dsimp only
      wp_walk
      refine codeAny_call_builtin_code (plainId_quiet T.init.plain _) (check_set_init_1 ty (codeAny_builtin F.entry_set_init ?_))
      rw [Around.under_plainId T.init.plain _]
      refine setFilled (by simpa using calm) bare (lst.push _) ne are few fun h' tk c set less kept => ?_
      refine wpAny_pure (wpAny_pure ?_)
      exact goal h' tk c set less fun b o e => kept b o (Nat.ne_of_lt (Heap.lt_size e)) (Heap.get?_push_of_some _ e)
    | _ => exact got.elim
end
/-! sorted(set(xs)) -/
def tSortSet (K : PySem.W.Frag) (ta : TE) : TE := fun σ H Q => ta σ H fun x H1 => ∃ (l : Addr) (ns : List Int), x = V.ref l ∧ SqL K H1 l (ns.map V.int) ∧ ns.length < 64 ∧ ∀ (out : List Int) (p : Addr), out.Pairwise (· < ·) → (∀ k, k ∈ out ↔ k ∈ ns) → H1 p = none → Q (.ref p) (upd H1 p (.lst (out.map V.int)))
theorem pe_sortSet {X : Cx} {a : Expr} {ta : TE} {p p2 q pos : Pos} (hc : X.calm = true) (hg : Gl X "sorted") (hm : X.mg "sorted" = none) (hg2 : Gl X "set") (hm2 : X.mg "set" = none) (ha : PE X a ta)
    (na : starEach [a] X.env = (false, eval a X.env) :: starEach [] X.env := by rfl) : PE X (.Call (.Name "sorted" p) [.Call (.Name "set" p2) [a] [] q] [] pos) (tSortSet X.K ta) := by
  constructor
  intro pins s σ H Q I h
  have inner : ∀ {s1 : Shared} {H1 : Hp} {l : Addr} {ns : List Int}, Inv X pins σ H1 s1 → SqL X.K H1 l (ns.map V.int) → ns.length < 64 → (∀ (out : List Int) (p : Addr), out.Pairwise (· < ·) → (∀ k, k ∈ out ↔ k ∈ ns) → H1 p = none → Q (.ref p) (upd H1 p (.lst (out.map V.int)))) →
      wpAny (model X.prog X.w) X.A (call (.type "set") [.ref l]) (fun v s2 => wpAny (model X.prog X.w) X.A (call (.builtin "sorted") [v]) (EP X pins σ Q) X.xe s2) X.xe s1 := by
    intro s1 H1 l ns J isL few want
    obtain ⟨its, r, pl, _⟩ := J.list isL
    refine setOfList (J.ok.hd hc) pl.isList (ns := ns) (by simpa using r.ints) (by unfold scanBound; omega) fun h' tk c set less kept => ?_
    have J2 : Inv X pins σ H1 { s1 with heap := h', toks := tk } := J.kept kept
    refine sorted_set set (J.ok.hd hc) (by omega) fun s3 d out n ks on gens os new here are rising mem len => ?_
    have free : H1 d = none := J2.hok.fresh new
    have short : (ks.map V.int).length ≤ sizeLine := by rw [List.length_map, len, sizeLine_eq]; omega
    obtain ⟨h3, g3, d3, t3, o3⟩ := s3
    have eo : o3 = s1.os := os
    subst eo
    refine ⟨.ref d, _, J2.call' (ch := []) rfl (Un.laid on new free) (J2.hok.laid (o := .lst (ks.map V.int)) on new ⟨short, out.toList, n, vals_of_ints are, here⟩) (by have eg : g3 = s1.gens := gens; rw [eg]; exact J2.bare) (fun _ z => nomatch z), rfl, want ks d rising (fun k => by rw [mem k, decide_eq_true_eq]) free⟩
  refine Call_ (ld_blt I hg hm PyProof.Rows.boot_sorted (PyProof.Rows.callWith_builtin1 (PyProof.Rows.args_cons ?_ rfl) rfl rfl))
  refine Call_ (ld_blt I hg2 hm2 PyProof.Rows.boot_set (PyProof.Rows.callWith_type1 (PyProof.Rows.args_cons (thn (ha.run pins s σ H _ I h) fun v s1 ⟨x, H1, J, r, l, ns, ex, isL, few, want⟩ => PyProof.Rows.args_nil ?_) na) na rfl))
  subst ex
  cases r
  exact wpAny_mono (inner J isL few want) (fun v s2 q => PyProof.Rows.args_nil q) fun _ _ x => x
def OptSo (o : Option (List Int)) (Q : QD) (μ : M) : Prop := match o with
  | some ns => ns.length < 64 ∧ ∀ out : List Int, out.Pairwise (· < ·) → (∀ k, k ∈ out ↔ k ∈ ns) → Q (.lst (out.map D.int)) μ
  | none => False
def kSortSet (Q : QD) (d : D) (μ : M) : Prop := match view μ d with
  | .lst xs => OptSo (intsOf xs) Q μ
  | _ => False
def dSortSet (t : DTE) (W : XD) (δ : Sl) (μ : M) (Q : QD) : Prop := t W δ μ (kSortSet Q)
theorem de_sortSet {X : Cx} {W : WX} {a : Expr} {ta : DTE} {p p2 q pos : Pos} (hm : X.mg "sorted" = none) (hm2 : X.mg "set" = none) (ha : DE X W a ta) (hc : X.calm = true := by rfl) (hg : Gl X "sorted" := by rfl) (hg2 : Gl X "set" := by rfl)
    (na : starEach [a] X.env = (false, eval a X.env) :: starEach [] X.env := by rfl) : DE X W (.Call (.Name "sorted" p) [.Call (.Name "set" p2) [a] [] q] [] pos) (dSortSet ta) :=
  PE.imp (pe_sortSet hc hg hm hg2 hm2 ha na) fun σ H Q ⟨δ, μ, Hc, Qd, Xd, s, rs, h, rt, rx⟩ => ⟨δ, μ, Hc, _, Xd, s, rs, h, fun d μ1 h1 v H1 Hc1 e1 s1 r1 => by
    unfold kSortSet at h1
    split at h1
    · rename_i xs ex
      obtain ⟨a, vs, rfl, ha, ra⟩ := view_lst s1 r1 ex
      unfold OptSo at h1
      split at h1
      · rename_i ns en
        rw [intsOf_eq en] at ra
        rw [ra.ints] at ha
        exact ⟨a, ns, rfl, SqL.of ha, h1.1, fun out p h2 h3 hn => (rt.mono e1).new s1 (.ofInts out) (h1.2 out h2 h3) p hn⟩
      · exact h1.elim
    · exact h1.elim, rx⟩
end DL
set_option Elab.async false
set_option linter.all false
set_option maxRecDepth 100000
set_option maxHeartbeats 2000000
/-! repr, an empty dict too -/
namespace DL
open PySem PySem.Spec PyProof.Rows L2
def rReprE (K : PySem.W.Frag) : List V → Hp → VK → Prop := fun xs H Q => rRepr K xs H Q ∨ ∃ a, xs = [.ref a] ∧ H a = some (.dK []) ∧ Q (.str (PyData.dict []).shown) H
theorem call_reprE {X : Cx} {k : Nat} (hG : X.A.guards = some []) (hr : Room k X.A) : CallR X (.builtin "repr") (rReprE X.K) := by
  intro pins s σ H xs us Q I r h
  rcases h with h | ⟨a, rfl, ha, q⟩
  · exact call_repr hG hr pins s σ H xs us Q I r h
  cases r with
  | cons r1 rr =>
    cases rr
    cases r1
    obtain ⟨_, hs, vs, hv, hd⟩ := (show ObjOk X.prog X.w H s.heap a (.dK []) from I.hok a _ ha)
    cases hv
    obtain ⟨o, es, ep, ho, hx, hdat, _, hp, _⟩ := hd
    have he : es.toList = [] := by
      generalize es.toList = l at hp
      cases hp
      rfl
    have rd : Reads s.heap (.ref a) (.dict []) ([a] ++ []) := Reads.dict (as := []) (bs := []) ho hx.1 hdat (by rw [he]; exact .nil) (by rw [he]; exact .nil)
    have big := hr.un
    have dp : (PyData.dict []).depth + 1 ≤ 66 := by decide
    exact repr_of_reads' rd rfl (fun _ hm => by rw [List.append_nil, List.mem_singleton] at hm; rw [hm] at hs; simp at hs) hG (by omega) (fun _ _ e => e) (fun h' u tk hk => ⟨.str _, H, I.kept (t' := tk) hk, ⟨_, rfl⟩, q⟩) (by decide)
def reprE : D → Str
  | .emp => (PyData.dict []).shown
  | d => reprD d
def gReprE : DRC := fun ds μ Q => match ds with
  | [d] => (d = .emp ∨ (okN 64 (view μ d) = true ∧ (toP (view μ d)).showable = true ∧ (toP (view μ d)).shown.length ≤ sizeLine)) ∧ Q (.str (reprE (view μ d))) μ
  | _ => False
theorem l_reprE {K : PySem.W.Frag} : LCall K (rReprE K) gReprE := by
  intro vs ds H Hc μ Q Qd s ra h rt
  unfold gReprE at h
  split at h
  · rename_i d
    obtain ⟨h1, h2⟩ := h
    rcases h1 with rfl | h1
    · obtain ⟨v, rfl, r⟩ := ra.one'
      cases r with
      | emp hh => exact .inr ⟨_, rfl, s.same _ _ hh, rt.val s (.str _) h2⟩
    · refine .inl (l_repr vs [d] H Hc μ Q Qd s ra ⟨h1.1, h1.2.1, h1.2.2, ?_⟩ rt)
      have : reprE (view μ d) = reprD (view μ d) := by
        generalize view μ d = e at h1
        cases e with
        | emp => simp [okN] at h1
        | _ => rfl
      rw [this] at h2
      exact h2
  · exact h.elim
end DL
set_option Elab.async false
set_option linter.all false
set_option maxRecDepth 100000
set_option maxHeartbeats 2000000
set_option exponentiation.threshold 20000
local macro_rules | `(tactic| walk_at "r") => `(tactic| simp only [DL.dSeq, DL.dSet, DL.kSet, DL.dCB, DL.kCB, DL.dCons, DL.kCons1, DL.kCons2, DL.dNil, DL.dVar, DL.dC, DL.dOp, DL.kOp1, DL.kOp2, DL.dB, DL.kB, DL.dIf, DL.kIf, DL.dRet, DL.dRetN, DL.dTup, DL.kTup, DL.dLst, DL.kLst, DL.dLstC, DL.kLstC, DL.dCall, DL.kCall, DL.dCallK, DL.kCallK1, DL.kCallK2, DL.dLenIs, DL.kLenIs, DL.dNext, DL.dDrop, DL.kDrop, DL.dPar, DL.kPar, DL.dAug, DL.kAug, DL.dAsg, DL.kAsg, DL.dSetIx, DL.kSetIx1, DL.kSetIx2, DL.kSetIx3, DL.dTru, DL.kTru, DL.dAnd, DL.kAnd, DL.dOr, DL.kOr, DL.dNot, DL.kNot, DL.dAndV, DL.kAndV, DL.dOrV, DL.kOrV, DL.dNotV, DL.kNotV, DL.dIfE, DL.kIfE, DL.dChain, DL.kChain1, DL.kChain2, DL.kChain3_true, DL.kChain3_false, DL.dNeg, DL.kNeg, DL.dFz, DL.kFz, DL.dRaise, DL.dTryAs, DL.suiteE, DL.kUnset, DL.dFor, DL.kFor, DL.dSeqI, DL.kSeqI, DL.dRange1, DL.kRange1, DL.dRange2, DL.kRange2, DL.dLc, DL.kLc, DL.dLcC, DL.kLstD, DL.kNewC, DL.dYes, DL.wipeD, DL.loopD, DL.compD, DL.kItem, DL.kTest_true, DL.kTest_false, DL.putIx_some, DL.setsK_some, DL.turnD_some, DL.turnC_some, DL.ifS_true, DL.ifS_false, DL.ifAnd_true, DL.ifAnd_false, DL.ifOr_true, DL.ifOr_false, DL.ifAndV_true, DL.ifAndV_false, DL.ifOrV_true, DL.ifOrV_false, DL.ifE_true, DL.ifE_false, DL.srcOf, DL.tgN, DL.tgT, DL.tgNil, DL.tgCons, DL.sets, List.foldl_cons, List.foldl_nil, DL.gI, DL.gI0, DL.gAdd, DL.gMul, DL.gIx, DL.gEq, DL.gNe, DL.gIs, DL.gIn, DL.gLen, DL.gAbs, DL.gMax2, DL.gMin2, DL.gAll, DL.gAny, DL.gSum, DL.gList, DL.gListC, DL.gTuple, DL.gIsiC, DL.gIsi, DL.tyN, DL.subN_NoneType_int, DL.subN_NoneType_bool, DL.subN_NoneType_str, DL.subN_NoneType_list, DL.subN_NoneType_tuple, DL.subN_bool_int, DL.subN_bool_bool, DL.subN_bool_str, DL.subN_bool_list, DL.subN_bool_tuple, DL.subN_int_int, DL.subN_int_bool, DL.subN_int_str, DL.subN_int_list, DL.subN_int_tuple, DL.subN_str_int, DL.subN_str_bool, DL.subN_str_str, DL.subN_str_list, DL.subN_str_tuple, DL.subN_list_int, DL.subN_list_bool, DL.subN_list_str, DL.subN_list_list, DL.subN_list_tuple, DL.subN_tuple_int, DL.subN_tuple_bool, DL.subN_tuple_str, DL.subN_tuple_list, DL.subN_tuple_tuple, DL.truD, DL.blsOf, DL.view_non, DL.view_bl, DL.view_int', DL.view_str', DL.view_lst', DL.view_tup', DL.view_scr', DL.ends, DL.kEnd, DL.OptP_some, DL.OptQ_some, DL.OptB_some, DL.OptS_some, List.getElem?_cons_zero, List.getElem?_cons_succ, List.set_cons_zero, List.set_cons_succ, DL.atI_zero, DL.atI_one, DL.atI_two, List.length_cons, List.length_nil, DL.pick, List.filterMap_cons, List.filterMap_nil, List.nil_append, List.cons_append, List.map_cons, List.map_nil, Option.map_some, Option.bind_some, true_and, and_true, Bool.false_eq_true, Bool.not_true, Bool.not_false, Bool.xor_false, Bool.xor_true, Bool.false_xor, Bool.true_xor, decide_true, decide_false, Nat.zero_add, Nat.reduceAdd, not_true_eq_false, not_false_eq_true, DL.eqD_int, DL.eqD_str, DL.eqD_bl, DL.eqD_tup, DL.eqD_lst, DL.eqDs_nil, DL.eqDs_cons, Bool.and_true, Bool.and_false, List.all_cons, List.all_nil, List.any_cons, List.any_nil, Bool.and_self, DL.dM, DL.kM1, DL.kM2, DL.dM0, DL.kM0, DL.gAppend, DL.gInsert, DL.gExtend, DL.gPop1, DL.gPop0, DL.gReverse, DL.gSort, DL.gRemove, DL.gCount, DL.gIndex, DL.dSlG, DL.kSl1, DL.kSl2, DL.kSl3, DL.gSl, DL.gSlC, DL.dNoPart, DL.dPart, DL.kPart, DL.dLR1, DL.kLR1, DL.dLR2, DL.kLR21, DL.kLR22, DL.nLst, DL.gRepC, DL.gCatC, DL.gInt, DL.gSorted, DL.gMaxL, DL.gMinL, DL.dEnum, DL.kEnum, DL.dZip2, DL.kZip2, DL.dZip3, DL.kZip3, DL.OptS2_some, DL.OptS3_some, DL.dRev, DL.kRev, DL.dEmp, DL.view_emp', DL.subN_dict_int, DL.subN_dict_bool, DL.subN_dict_str, DL.subN_dict_list, DL.subN_dict_tuple, DL.cellL_lst, DL.cellL_none, DL.gCountD, DL.gRepr, DL.gEqS, DL.dTryK, DL.keepD, DL.kKeep, DL.kKeepR, DL.dXf, DL.gReprE])
local macro_rules | `(tactic| simp! only [$xs,*]) => `(tactic| simp only [DL.dSeq, DL.dSet, DL.kSet, DL.dCB, DL.kCB, DL.dCons, DL.kCons1, DL.kCons2, DL.dNil, DL.dVar, DL.dC, DL.dOp, DL.kOp1, DL.kOp2, DL.dB, DL.kB, DL.dIf, DL.kIf, DL.dRet, DL.dRetN, DL.dTup, DL.kTup, DL.dLst, DL.kLst, DL.dLstC, DL.kLstC, DL.dCall, DL.kCall, DL.dCallK, DL.kCallK1, DL.kCallK2, DL.dLenIs, DL.kLenIs, DL.dNext, DL.dDrop, DL.kDrop, DL.dPar, DL.kPar, DL.dAug, DL.kAug, DL.dAsg, DL.kAsg, DL.dSetIx, DL.kSetIx1, DL.kSetIx2, DL.kSetIx3, DL.dTru, DL.kTru, DL.dAnd, DL.kAnd, DL.dOr, DL.kOr, DL.dNot, DL.kNot, DL.dAndV, DL.kAndV, DL.dOrV, DL.kOrV, DL.dNotV, DL.kNotV, DL.dIfE, DL.kIfE, DL.dChain, DL.kChain1, DL.kChain2, DL.kChain3_true, DL.kChain3_false, DL.dNeg, DL.kNeg, DL.dFz, DL.kFz, DL.dRaise, DL.dTryAs, DL.suiteE, DL.kUnset, DL.dFor, DL.kFor, DL.dSeqI, DL.kSeqI, DL.dRange1, DL.kRange1, DL.dRange2, DL.kRange2, DL.dLc, DL.kLc, DL.dLcC, DL.kLstD, DL.kNewC, DL.dYes, DL.wipeD, DL.loopD, DL.compD, DL.kItem, DL.kTest_true, DL.kTest_false, DL.putIx_some, DL.setsK_some, DL.turnD_some, DL.turnC_some, DL.ifS_true, DL.ifS_false, DL.ifAnd_true, DL.ifAnd_false, DL.ifOr_true, DL.ifOr_false, DL.ifAndV_true, DL.ifAndV_false, DL.ifOrV_true, DL.ifOrV_false, DL.ifE_true, DL.ifE_false, DL.srcOf, DL.tgN, DL.tgT, DL.tgNil, DL.tgCons, DL.sets, List.foldl_cons, List.foldl_nil, DL.gI, DL.gI0, DL.gAdd, DL.gMul, DL.gIx, DL.gEq, DL.gNe, DL.gIs, DL.gIn, DL.gLen, DL.gAbs, DL.gMax2, DL.gMin2, DL.gAll, DL.gAny, DL.gSum, DL.gList, DL.gListC, DL.gTuple, DL.gIsiC, DL.gIsi, DL.tyN, DL.subN_NoneType_int, DL.subN_NoneType_bool, DL.subN_NoneType_str, DL.subN_NoneType_list, DL.subN_NoneType_tuple, DL.subN_bool_int, DL.subN_bool_bool, DL.subN_bool_str, DL.subN_bool_list, DL.subN_bool_tuple, DL.subN_int_int, DL.subN_int_bool, DL.subN_int_str, DL.subN_int_list, DL.subN_int_tuple, DL.subN_str_int, DL.subN_str_bool, DL.subN_str_str, DL.subN_str_list, DL.subN_str_tuple, DL.subN_list_int, DL.subN_list_bool, DL.subN_list_str, DL.subN_list_list, DL.subN_list_tuple, DL.subN_tuple_int, DL.subN_tuple_bool, DL.subN_tuple_str, DL.subN_tuple_list, DL.subN_tuple_tuple, DL.truD, DL.blsOf, DL.view_non, DL.view_bl, DL.view_int', DL.view_str', DL.view_lst', DL.view_tup', DL.view_scr', DL.ends, DL.kEnd, DL.OptP_some, DL.OptQ_some, DL.OptB_some, DL.OptS_some, List.getElem?_cons_zero, List.getElem?_cons_succ, List.set_cons_zero, List.set_cons_succ, DL.atI_zero, DL.atI_one, DL.atI_two, List.length_cons, List.length_nil, DL.pick, List.filterMap_cons, List.filterMap_nil, List.nil_append, List.cons_append, List.map_cons, List.map_nil, Option.map_some, Option.bind_some, true_and, and_true, Bool.false_eq_true, Bool.not_true, Bool.not_false, Bool.xor_false, Bool.xor_true, Bool.false_xor, Bool.true_xor, decide_true, decide_false, Nat.zero_add, Nat.reduceAdd, not_true_eq_false, not_false_eq_true, DL.eqD_int, DL.eqD_str, DL.eqD_bl, DL.eqD_tup, DL.eqD_lst, DL.eqDs_nil, DL.eqDs_cons, Bool.and_true, Bool.and_false, List.all_cons, List.all_nil, List.any_cons, List.any_nil, Bool.and_self, DL.dM, DL.kM1, DL.kM2, DL.dM0, DL.kM0, DL.gAppend, DL.gInsert, DL.gExtend, DL.gPop1, DL.gPop0, DL.gReverse, DL.gSort, DL.gRemove, DL.gCount, DL.gIndex, DL.dSlG, DL.kSl1, DL.kSl2, DL.kSl3, DL.gSl, DL.gSlC, DL.dNoPart, DL.dPart, DL.kPart, DL.dLR1, DL.kLR1, DL.dLR2, DL.kLR21, DL.kLR22, DL.nLst, DL.gRepC, DL.gCatC, DL.gInt, DL.gSorted, DL.gMaxL, DL.gMinL, DL.dEnum, DL.kEnum, DL.dZip2, DL.kZip2, DL.dZip3, DL.kZip3, DL.OptS2_some, DL.OptS3_some, DL.dRev, DL.kRev, DL.dEmp, DL.view_emp', DL.subN_dict_int, DL.subN_dict_bool, DL.subN_dict_str, DL.subN_dict_list, DL.subN_dict_tuple, DL.cellL_lst, DL.cellL_none, DL.gCountD, DL.gRepr, DL.gEqS, DL.dTryK, DL.keepD, DL.kKeep, DL.kKeepR, DL.dXf, DL.gReprE, $xs,*])
namespace K55
open PySem PySem.Spec L2 DL Fr NB
/-- a rising list of items: behind a, below m -/
def risingB : Int → Int → List D → Bool
  | _, _, [] => true
  | a, m, .int i :: xs => decide (a < i) && (decide (i < m) && risingB i m xs)
  | _, _, _ :: _ => false
def itemsB (d : D) (m : Int) : Bool := match d with
  | .lst xs => risingB (-1) m xs
  | _ => false
theorem rising_ints {m : Int} : ∀ {xs : List D} {a : Int}, risingB a m xs = true → ∃ ns : List Int, xs = ns.map D.int ∧ ns.Pairwise (· < ·) ∧ ∀ i ∈ ns, a < i ∧ i < m
  | [], a, _ => ⟨[], rfl, .nil, by simp⟩
  | .int i :: xs, a, h => by
    unfold risingB at h
    rw [Bool.and_eq_true, Bool.and_eq_true] at h
    obtain ⟨h1, h2, h3⟩ := h
    have h1 := of_decide_eq_true h1
    have h2 := of_decide_eq_true h2
    obtain ⟨ns, rfl, hp, hb⟩ := rising_ints h3
    refine ⟨i :: ns, rfl, .cons (fun j hj => (hb j hj).1) hp, fun j hj => ?_⟩
    rcases List.mem_cons.mp hj with rfl | hj
    · exact ⟨h1, h2⟩
    · have := hb j hj
      exact ⟨by omega, this.2⟩
  | .non :: _, _, h => by cases h
  | .bl _ :: _, _, h => by cases h
  | .str _ :: _, _, h => by cases h
  | .lst _ :: _, _, h => by cases h
  | .tup _ :: _, _, h => by cases h
  | .scr _ :: _, _, h => by cases h
  | .raw _ :: _, _, h => by cases h
  | .emp :: _, _, h => by cases h
theorem rising_of {m : Int} : ∀ {ns : List Int} {a : Int}, ns.Pairwise (· < ·) → (∀ i ∈ ns, a < i ∧ i < m) → risingB a m (ns.map D.int) = true
  | [], _, _, _ => rfl
  | i :: ns, a, hp, hb => by
    have h := hb i List.mem_cons_self
    rw [List.map_cons, risingB, decide_eq_true h.1, decide_eq_true h.2, rising_of (List.pairwise_cons.mp hp).2 fun j hj => ⟨(List.pairwise_cons.mp hp).1 j hj, (hb j (List.mem_cons_of_mem _ hj)).2⟩]
    rfl
theorem int_inj {a b : List Int} (h : a.map D.int = b.map D.int) : a = b := (List.map_inj_right fun _ _ e => by injection e).mp h
theorem upTo_mem' {n : Nat} {i : Int} : i ∈ NB.upTo n ↔ 0 ≤ i ∧ i < n := by
  unfold NB.upTo
  rw [List.mem_map]
  constructor
  · rintro ⟨k, hk, rfl⟩
    have := List.mem_range.mp hk
    exact ⟨Int.natCast_nonneg k, Int.ofNat_lt.mpr this⟩
  · rintro ⟨h1, h2⟩
    exact ⟨i.toNat, List.mem_range.mpr (by omega), by show ((i.toNat : Nat) : Int) = i; omega⟩
theorem upTo_lt (n : Nat) : (NB.upTo n).Pairwise (· < ·) := by
  unfold NB.upTo
  rw [List.pairwise_map]
  exact List.pairwise_lt_range.imp fun h => Int.ofNat_lt.mpr h
theorem nodup_lt {ns : List Int} (h : ns.Pairwise (· < ·)) : ns.Nodup := List.nodup_iff_pairwise_ne.mpr (h.imp fun h e => by omega)
theorem eq_lt {a b : List Int} (ha : a.Pairwise (· < ·)) (hb : b.Pairwise (· < ·)) (h : ∀ i, i ∈ a ↔ i ∈ b) : a = b :=
  ((List.perm_ext_iff_of_nodup (nodup_lt ha) (nodup_lt hb)).mpr h).eq_of_pairwise (fun _ _ _ _ h1 h2 => absurd h1 (by omega)) ha hb
theorem rising_eq {ns : List Int} {m : Nat} : risingB (-1) m (ns.map D.int) = decide (ns = (NB.upTo m).filter fun i => decide (i ∈ ns)) := by
  cases h : risingB (-1) m (ns.map D.int) with
  | true =>
    obtain ⟨ks, e, hp, hb⟩ := rising_ints h
    have e : ks = ns := int_inj e.symm
    subst e
    refine (decide_eq_true ?_).symm
    refine eq_lt hp ((upTo_lt m).filter _) fun i => ?_
    rw [List.mem_filter, upTo_mem', decide_eq_true_eq]
    exact ⟨fun hi => ⟨⟨by have := (hb i hi).1; omega, (hb i hi).2⟩, hi⟩, fun hi => hi.2⟩
  | false =>
    refine (decide_eq_false fun e => ?_).symm
    have hp : ns.Pairwise (· < ·) := by rw [e]; exact (upTo_lt m).filter _
    have hb : ∀ i ∈ ns, (-1 : Int) < i ∧ i < m := fun i hi => by
      rw [e, List.mem_filter, upTo_mem'] at hi
      omega
    rw [rising_of hp hb] at h
    cases h
/-- things that are looked at as items -/
def Thg (d : D) : Prop := OrdT d ∧ (∀ xs, d = .lst xs → ∀ x ∈ xs, okN 8 x = true) ∧ (d = .emp ∨ Sh 8 100000 d)
def c_are_items : Ct := fun ds μ Q _ => ∃ (d : D) (m : Int), ds = [d, .int m] ∧ OrdT d ∧ Q (.bl (itemsB d m)) μ
def stillB (ps : List Fc) (ns : List Int) (bs : List (Option Fc × Option Fc)) : List (Option Fc × Option Fc) := ns.foldl (fun b i => b.set i.toNat (some (ps.getD i.toNat (0, 1)), some (ps.getD i.toNat (0, 1)))) bs
def tstill (t : Task) (ns : List Int) : Task := { t with bounds := stillB t.prices ns t.bounds }
def InR (ns : List Int) (m : Nat) : Prop := ns.Pairwise (· < ·) ∧ ∀ i ∈ ns, 0 ≤ i ∧ i < m
def c_stilled (C : Addr) : Ct := fun ds μ Q X => ∃ (t : Task) (d : D), ds = [t.d, d] ∧ TaskP t ∧ OrdT d ∧ (itemsB d t.prices.length = false → X (.ref C) none μ) ∧
  (∀ ns, d = .lst (ns.map D.int) → InR ns t.prices.length → ∀ p0 p1 p2 p3 qs μ', OwnT μ μ' (tstill t ns) p0 p1 p2 p3 qs → Q (ownD p0 p1 p2 p3 t.word) μ')
def c_needed (C : Addr) : Ct := fun ds μ Q X => ∃ (t : Task) (d : D), ds = [t.d, d] ∧ TaskP t ∧ plainD d = true ∧ itemsB (.lst [d]) t.prices.length = false ∧ X (.ref C) none μ
def noWholesB : D → Bool
  | .lst xs => xs.any fun x => !wholeB x
  | _ => true
def c_no_wholes : Ct := fun ds μ Q _ => ∃ d : D, ds = [d] ∧ Thg d ∧ Q (.bl (noWholesB d)) μ
def c_good : Ct := fun ds μ Q _ => ∃ (d : D) (m : Nat), ds = [.int m, d] ∧ Thg d ∧ m ≤ 1000 ∧ Q (.bl (itemsB d m)) μ
def c_lstil : Ct := fun ds μ Q _ => ∃ (t : Task) (ns : List Int), ds = [t.d, .lst (ns.map D.int)] ∧ TaskP t ∧ (∀ i ∈ ns, 0 ≤ i ∧ i < t.prices.length) ∧ Q (tstill t ns).d μ
def c_items : Ct := fun ds μ Q _ => ∃ (p : Addr) (m : Nat), ds = [.raw (.ref p), .int m] ∧ Pool μ p ∧ m ≤ 1000 ∧ Drw p μ Q (fun ns => InR ns m) fun ns => .lst (ns.map D.int)
def c_odd_items : Ct := fun ds μ Q _ => ∃ (p : Addr) (m : Nat) (ns : List Int), ds = [.raw (.ref p), .int m, .lst (ns.map D.int)] ∧ Pool μ p ∧ m ≤ 100 ∧ InR ns m ∧ ns.length ≤ 16 ∧ Drw p μ Q Thg id
def c_told : Ct := fun ds μ Q _ => ∃ (t : Task) (d : D) (w : Int), ds = [t.d, d, .int w] ∧ TaskP t ∧
  ((w = 0 ∧ OrdT d ∧ (itemsB d t.prices.length = false → Q (.str (PySem.Str.ofString "item")) μ) ∧
     (∀ ns, d = .lst (ns.map D.int) → InR ns t.prices.length → ∀ p0 p1 p2 p3 qs μ', OwnT μ μ' (tstill t ns) p0 p1 p2 p3 qs → Q (ownD p0 p1 p2 p3 t.word) μ')) ∨
   (w = 1 ∧ plainD d = true ∧ itemsB (.lst [d]) t.prices.length = false ∧ Q (.str (PySem.Str.ofString "item")) μ))
def c_kind_of (K : PySem.W.Frag) : Ct := fun ds μ Q _ => ∃ (a A : Addr) (fs : Option (List (Str × D))) (bs : List Bool) (j : Nat), ds = [.raw (.ref a), .lst (bs.map D.bl)] ∧ μ a = some (.exc (.ref A) fs) ∧ ExcK K A ∧ PySem.W.kitOne K (.ref A) (.type "ValueError") = some true ∧
  (bs.map D.bl).countP (fun z => eqD z (.bl true)) = 1 ∧ bs[j]? = some true ∧ (∀ m, m < j → bs[m]? = some false) ∧ Q (.int (j : Nat)) μ
def t_are_items : DTS :=
  (dSeq (dIf (dNot (dTru (dCB (gIsiC "list") (dCons (dVar 0) (dCons (dC (.raw (.ty "list"))) dNil))))) (dRet (dC (.bl false))) dNext)
    (dSeq (dSet 2 (dNeg (dC (.int 1))))
    (dSeq (dFor (dSeqI (dVar 0)) (tgN 3) (dSeq (dIf (dOr (dNot (dTru (dCall c_is_whole (dCons (dVar 3) dNil)))) (dNot (dB (dChain gLt gLt (dVar 2) (dVar 3) (dVar 1))))) (dRet (dC (.bl false))) dNext)
    (dSet 2 (dVar 3))))
    (dRet (dC (.bl true))))))
def t_stilled (C_NoItem : Addr) : DTS :=
  (dSeq (dIf (dNot (dTru (dCall c_are_items (dCons (dVar 1) (dCons (dCB gLen (dCons (dOp gIx (dVar 0) (dC (.int 0))) dNil)) dNil))))) (dRaise C_NoItem) dNext)
    (dSeq (dAsg (dCall c_copiedO (dCons (dVar 0) dNil)) (tgT (tgCons (tgN 2) (tgCons (tgN 3) (tgCons (tgN 4) (tgCons (tgN 5) (tgCons (tgN 6) tgNil)))))))
    (dSeq (dFor (dSeqI (dVar 1)) (tgN 7) (dSetIx (dTup (dCons (dOp gIx (dVar 2) (dVar 7)) (dCons (dOp gIx (dVar 2) (dVar 7)) dNil))) (dVar 4) (dVar 7)))
    (dRet (dTup (dCons (dVar 2) (dCons (dVar 3) (dCons (dVar 4) (dCons (dVar 5) (dCons (dVar 6) dNil))))))))))
def t_needed (C_NoItem : Addr) : DTS :=
  (dSeq (dIf (dNot (dTru (dCall c_are_items (dCons (dLst (dCons (dVar 1) dNil)) (dCons (dCB gLen (dCons (dOp gIx (dVar 0) (dC (.int 0))) dNil)) dNil))))) (dRaise C_NoItem) dNext)
    (dSeq (dSet 2 dNo)
    (dSeq (dIf (dB (dOp gEq (dOp gIx (dVar 2) (dC (.int 0))) (dC (.str (PySem.Str.ofString "none"))))) (dRet (dC .non)) dNext)
    (dSeq (dSet 3 dNo)
    (dSeq (dIf (dB (dOp gEq (dOp gIx (dVar 3) (dC (.int 0))) (dC (.str (PySem.Str.ofString "none"))))) (dRet (dOp gIx (dVar 3) (dC (.int 1)))) dNext)
    (dSeq (dIf (dTru (dCall c_under (dCons (dOp gIx (dVar 2) (dC (.int 2))) (dCons (dOp gIx (dVar 3) (dC (.int 2))) dNil)))) (dRet (dOp gIx (dVar 3) (dC (.int 3)))) dNext)
    (dRet (dC .non))))))))
def t_law_no_wholes : DTS :=
  (dSeq (dIf (dNot (dTru (dCB (gIsiC "list") (dCons (dVar 0) (dCons (dC (.raw (.ty "list"))) dNil))))) (dRet (dC (.bl true))) dNext)
    (dRet (dOp gNe (dLc (dSeqI (dVar 0)) (tgN 1) (dOr (dNot (dTru (dCB (gIsiC "int") (dCons (dVar 1) (dCons (dC (.raw (.ty "int"))) dNil))))) (dTru (dCB (gIsiC "bool") (dCons (dVar 1) (dCons (dC (.raw (.ty "bool"))) dNil))))) (dVar 1) [1]) (dLst dNil))))
def t_law_good : DTS :=
  (dSeq (dIf (dOr (dNot (dTru (dCB (gIsiC "list") (dCons (dVar 1) (dCons (dC (.raw (.ty "list"))) dNil))))) (dTru (dCall c_no_wholes (dCons (dVar 1) dNil)))) (dRet (dC (.bl false))) dNext)
    (dRet (dOp gEq (dVar 1) (dLc (dRange1 (dCons (dVar 0) dNil)) (tgN 2) (dB (dOp (gIn false) (dVar 2) (dVar 1))) (dVar 2) [2]))))
def t_law_stilled : DTS :=
  (dSeq (dSet 2 (dCB gListC (dCons (dOp gIx (dVar 0) (dC (.int 2))) dNil)))
    (dSeq (dFor (dSeqI (dVar 1)) (tgN 3) (dSetIx (dTup (dCons (dOp gIx (dOp gIx (dVar 0) (dC (.int 0))) (dVar 3)) (dCons (dOp gIx (dOp gIx (dVar 0) (dC (.int 0))) (dVar 3)) dNil))) (dVar 2) (dVar 3)))
    (dRet (dTup (dCons (dCB gList (dCons (dOp gIx (dVar 0) (dC (.int 0))) dNil)) (dCons (dLc (dSeqI (dOp gIx (dVar 0) (dC (.int 1)))) (tgT (tgCons (tgN 4) (tgCons (tgN 5) tgNil))) dYes (dTup (dCons (dVar 4) (dCons (dCB gList (dCons (dVar 5) dNil)) dNil))) [4, 5]) (dCons (dFz (dVar 2)) (dCons (dCB gList (dCons (dOp gIx (dVar 0) (dC (.int 3))) dNil)) (dCons (dOp gIx (dVar 0) (dC (.int 4))) dNil)))))))))
def t_law_items_drawn : DTS :=
  (dRet (dLc (dRange1 (dCons (dVar 1) dNil)) (tgN 2) (dB (dOp gEq (dCall c_take (dCons (dVar 0) (dCons (dC (.int 3)) dNil))) (dC (.int 0)))) (dVar 2) [2]))
def t_law_odd_items : DTS :=
  (dSeq (dSet 3 (dCall c_take (dCons (dVar 0) (dCons (dOp gAdd (dCB gLen (dCons (dVar 2) dNil)) (dC (.int 1))) dNil))))
    (dSeq (dSet 4 (dLst (dCons (dC (.bl true)) (dCons (dC .non) (dCons (dC (.str (PySem.Str.ofString "0"))) (dCons (dVar 1) (dCons (dNeg (dC (.int 1))) (dCons (dLst (dCons (dC (.int 0)) dNil)) (dCons (dOp gAdd (dVar 1) (dC (.int 7))) dNil)))))))))
    (dSeq (dSet 5 (dLst (dCons (dOp gAdd (dOp gAdd (dSl (dVar 2) dNoPart (dPart (dVar 3))) (dLst (dCons (dOp gIx (dVar 4) (dCall c_take (dCons (dVar 0) (dCons (dC (.int 7)) dNil)))) dNil))) (dSl (dVar 2) (dPart (dVar 3)) dNoPart)) (dCons (dOp gAdd (dVar 2) (dLst (dCons (dC (.int 0)) dNil))) (dCons (dOp gAdd (dOp gAdd (dLst (dCons (dC (.int 0)) dNil)) (dVar 2)) (dLst (dCons (dC (.int 0)) dNil))) (dCons (dCB gTuple (dCons (dVar 2) dNil)) (dCons (dC .non) dNil)))))))
    (dRet (dOp gIx (dOp gAdd (dVar 5) (dLst (dCons dEmp (dCons (dC (.int 0)) (dCons (dOp gAdd (dLst (dCons (dOp (gI0 fun i j => .int (i - j)) (dVar 1) (dC (.int 1))) dNil)) (dLst (dCons (dOp (gI0 fun i j => .int (i - j)) (dVar 1) (dC (.int 2))) dNil))) dNil))))) (dCall c_take (dCons (dVar 0) (dCons (dC (.int 8)) dNil))))))))
def t_law_kind_of (K : PySem.W.Frag) : DTS :=
  (dSeq (dIf (dOr (dB (dOp gNe (dM gCountD (dVar 1) (dCons (dC (.bl true)) dNil)) (dC (.int 1)))) (dNot (dTru (dCB (gIsE K) (dCons (dVar 0) (dCons (dC (.raw (.ty "ValueError"))) dNil)))))) (dRet (dNeg (dC (.int 1)))) dNext)
    (dRet (dM gIndex (dVar 1) (dCons (dC (.bl true)) dNil))))
def t_law_told_3 (K : PySem.W.Frag) (C_NoItem C_NoNumber C_NoOrder C_NoTask C_NoWish C_NudgeError : Addr) : DTS :=
  (dSeq (dIf (dB (dOp (gIs false) (dVar 3) (dC .non))) (dRet (dVar 4)) dNext)
    (dSeq (dSet 6 (dLst (dCons (dCB (gIsE K) (dCons (dVar 3) (dCons (dC (.raw (.ref C_NoItem))) dNil))) (dCons (dCB (gIsE K) (dCons (dVar 3) (dCons (dC (.raw (.ref C_NoNumber))) dNil))) (dCons (dCB (gIsE K) (dCons (dVar 3) (dCons (dC (.raw (.ref C_NoOrder))) dNil))) dNil)))))
    (dSeq (dSet 6 (dOp gAdd (dVar 6) (dLst (dCons (dCB (gIsE K) (dCons (dVar 3) (dCons (dC (.raw (.ref C_NoTask))) dNil))) (dCons (dCB (gIsE K) (dCons (dVar 3) (dCons (dC (.raw (.ref C_NoWish))) dNil))) dNil)))))
    (dRet (dOp gIx (dLst (dCons (dC (.str (PySem.Str.ofString "item"))) (dCons (dC (.str (PySem.Str.ofString "odd"))) dNil))) (dCB gInt (dCons (dOp gNe (dCall (c_kind_of K) (dCons (dVar 3) (dCons (dVar 6) dNil))) (dC (.int 0))) dNil)))))))
def t_law_told (K : PySem.W.Frag) (C_NoItem C_NoNumber C_NoOrder C_NoTask C_NoWish C_NudgeError : Addr) : DTS :=
  (dSeq (dSet 3 (dC .non))
    (dSeq (dSet 4 (dC .non))
    (dSeq (dTryK K (.ref C_NudgeError) 5 (dIf (dB (dOp gEq (dVar 2) (dC (.int 0)))) (dSet 4 (dCall (c_stilled C_NoItem) (dCons (dVar 0) (dCons (dVar 1) dNil)))) (dSet 4 (dCall (c_needed C_NoItem) (dCons (dVar 0) (dCons (dVar 1) dNil))))) (fun _ => (dSet 3 (dVar 5))))
    (t_law_told_3 K C_NoItem C_NoNumber C_NoOrder C_NoTask C_NoWish C_NudgeError))))
def t_law (C_NoItem : Addr) : DTS :=
  (dSeq (dFor (dRange1 (dCons (dCB gMax2 (dCons (dC (.int 1)) (dCons (dCB gMin2 (dCons (dCB gLen (dCons (dVar 0) dNil)) (dCons (dC (.int 14)) dNil))) dNil))) dNil)) (tgN 1) (dSeq (dSet 2 (dCall c_pool (dCons (dVar 0) (dCons (dVar 1) dNil))))
    (dSeq (dSet 3 (dCall c_task (dCons (dVar 2) dNil)))
    (dSeq (dSet 4 (dCB gLen (dCons (dOp gIx (dVar 3) (dC (.int 0))) dNil)))
    (dSeq (dSet 5 (dCall c_items (dCons (dVar 2) (dCons (dVar 4) dNil))))
    (dSeq (dSet 6 (dCB gReprE (dCons (dVar 3) dNil)))
    (dSeq (dFor (dSeqI (dLst (dCons (dVar 5) (dCons (dCall c_odd_items (dCons (dVar 2) (dCons (dVar 4) (dCons (dVar 5) dNil)))) (dCons (dLst dNil) dNil))))) (tgN 7) (dSeq (dSet 8 (dC (.str (PySem.Str.ofString "item"))))
    (dSeq (dIf (dTru (dCall c_good (dCons (dVar 4) (dCons (dVar 7) dNil)))) (dSet 8 (dCall c_lstil (dCons (dVar 3) (dCons (dVar 7) dNil)))) dNext)
    (dSeq (dSet 9 (dCB gReprE (dCons (dVar 7) dNil)))
    (dSeq (dSet 10 (dCall c_told (dCons (dVar 3) (dCons (dVar 7) (dCons (dC (.int 0)) dNil)))))
    (dSeq (dIf (dOr (dB (dOp (gEqS true) (dBor [10] (dCB gReprE (dCons (dVar 10) dNil))) (dCB gReprE (dCons (dVar 8) dNil)))) (dOr (dB (dOp (gEqS true) (dCB gReprE (dCons (dVar 3) dNil)) (dVar 6))) (dB (dOp (gEqS true) (dCB gReprE (dCons (dVar 7) dNil)) (dVar 9))))) (dRet (dC (.bl false))) dNext)
    (dIf (dB (dOp gNe (dVar 8) (dC (.str (PySem.Str.ofString "item"))))) (dSeq (dDrop (dM gAppend (dOp gIx (dVar 10) (dC (.int 0))) (dCons (dC .non) dNil)))
    (dSeq (dDrop (dM gAppend (dOp gIx (dOp gIx (dOp gIx (dVar 10) (dC (.int 1))) (dC (.int 0))) (dC (.int 1))) (dCons (dC (.int 9)) dNil)))
    (dSeq (dDrop (dM0 gClear (dOp gIx (dVar 10) (dC (.int 2)))))
    (dSeq (dDrop (dM0 gPop0 (dOp gIx (dVar 10) (dC (.int 3)))))
    (dIf (dB (dOp (gEqS true) (dCB gReprE (dCons (dFzD (dCall c_told (dCons (dVar 3) (dCons (dVar 7) (dCons (dC (.int 0)) dNil))))) dNil)) (dCB gReprE (dCons (dVar 8) dNil)))) (dRet (dC (.bl false))) dNext))))) dNext)))))))
    (dSeq (dSet 11 (dCall c_items (dCons (dVar 2) (dCons (dVar 4) dNil))))
    (dSeq (dIf (dB (dOp gNe (dFzD (dCall (c_stilled C_NoItem) (dCons (dFzD (dCall (c_stilled C_NoItem) (dCons (dVar 3) (dCons (dVar 5) dNil)))) (dCons (dVar 11) dNil)))) (dCall c_lstil (dCons (dVar 3) (dCons (dSortSet (dOp gAdd (dVar 5) (dVar 11))) dNil))))) (dRet (dC (.bl false))) dNext)
    (dSeq (dSet 12 (dOp gIx (dLst (dCons (dC .non) (dCons (dC (.bl true)) (dCons (dC (.bl false)) (dCons (dC (.str (PySem.Str.ofString "0"))) (dCons (dNeg (dC (.int 1))) (dCons (dVar 4) (dCons (dLst (dCons (dC (.int 0)) dNil)) (dCons (dTup (dCons (dC (.int 0)) dNil)) (dCons (dOp (gI CPow fun i j => .int (i ^ j.toNat)) (dC (.int 10)) (dC (.int 20))) dNil)))))))))) (dCall c_take (dCons (dVar 2) (dCons (dC (.int 9)) dNil)))))
    (dIf (dOr (dB (dOp gNe (dCall c_told (dCons (dVar 3) (dCons (dVar 12) (dCons (dC (.int 1)) dNil)))) (dC (.str (PySem.Str.ofString "item"))))) (dB (dOp (gEqS true) (dCB gReprE (dCons (dVar 3) dNil)) (dVar 6)))) (dRet (dC (.bl false))) dNext)))))))))))
    (dRet (dC (.bl true))))

theorem hb_are_items : HB c_are_items t_are_items 4 := by
  intro ds μ Q X h
  obtain ⟨d, m, rfl, ⟨hp, hx⟩, q⟩ := h
  show t_are_items (ends Q XF) [some d, some (.int m), none, none] μ
  cases d with
  | raw _ => cases hp
  | scr _ => cases hp
  | lst xs =>
    obtain ⟨hl, hx⟩ := hx xs rfl
    simp! only [t_are_items]
    have e0 : xs = xs.map id := (List.map_id xs).symm
    rw [e0]
    refine for_pre (fun pre δ μ' => μ' = μ ∧ ∃ a x3, δ = [some (.lst xs), some (.int m), some (.int a), x3] ∧ ∀ post, risingB (-1) m (pre ++ post) = risingB a m post) ⟨rfl, -1, none, by rw [← e0], fun _ => rfl⟩ ?_ ?_
    · rintro pre x post δ μ' e ⟨rfl, a, x3, rfl, hr⟩
      have hxm : x ∈ xs := by rw [e]; simp
      have pl := hx x hxm
      have full : risingB (-1) m xs = risingB a m (x :: post) := by rw [e]; exact hr (x :: post)
      have q' : Q (.bl (risingB (-1) m xs)) μ' := q
      refine ⟨trivial, ?_⟩
      simp! only [id]
      refine ⟨x, rfl, pl, ?_⟩
      cases x with
      | int i =>
        simp! only [wholeB]
        cases h1 : decide (a < i) with
        | false =>
          rw [full, risingB, h1] at q'
          walk_at "r"
          exact .of q'
        | true =>
          walk_at "r"
          cases h2 : decide (i < m) with
          | false =>
            rw [full, risingB, h1, h2] at q'
            walk_at "r"
            exact .of q'
          | true =>
            walk_at "r"
            refine ⟨i, _, rfl, fun post => ?_⟩
            rw [List.append_assoc, List.singleton_append, hr, risingB, h1, h2]
            rfl
      | raw _ => cases pl
      | scr _ => cases pl
      | _ =>
        rw [show risingB (-1) m xs = false from full] at q'
        simp! only [wholeB]
        exact .of q'
    · rintro δ μ' ⟨rfl, a, x3, rfl, hr⟩
      refine ⟨trivial, ?_⟩
      have full : risingB (-1) m xs = true := by
        have := hr []
        rw [List.append_nil] at this
        rw [this]
        rfl
      have q' : Q (.bl (risingB (-1) m xs)) μ' := q
      rw [full] at q'
      walk_at "r"
      exact .of q'
  | _ =>
    simp! only [t_are_items]
    exact .of q
theorem still_len {ps : List Fc} : ∀ {ns : List Int} {bs : List (Option Fc × Option Fc)}, (stillB ps ns bs).length = bs.length
  | [], _ => rfl
  | n :: ns, bs => by
    show (stillB ps ns (bs.set _ _)).length = _
    rw [still_len, List.length_set]
theorem still_snoc {ps : List Fc} {ns : List Int} {i : Int} {bs : List (Option Fc × Option Fc)} : stillB ps (ns ++ [i]) bs = (stillB ps ns bs).set i.toNat (some (ps.getD i.toNat (0, 1)), some (ps.getD i.toNat (0, 1))) := by
  unfold stillB
  rw [List.foldl_append]
  rfl
theorem tstill_p {t : Task} {ns : List Int} (h : TaskP t) (hn : ∀ i ∈ ns, 0 ≤ i ∧ i < t.prices.length) : TaskP (tstill t ns) := by
  refine ⟨h.n1, h.n2, h.pr, h.w1, h.wl, h.ws, by show (stillB _ _ _).length = _; rw [still_len]; exact h.bl, ?_, h.gl⟩
  show ∀ b ∈ stillB t.prices ns t.bounds, _
  have : ∀ (ns : List Int) (bs : List (Option Fc × Option Fc)), (∀ i ∈ ns, 0 ≤ i ∧ i < t.prices.length) → (∀ b ∈ bs, (∀ f, b.1 = some f → Ok 300 f) ∧ (∀ f, b.2 = some f → Ok 300 f)) → ∀ b ∈ stillB t.prices ns bs, (∀ f, b.1 = some f → Ok 300 f) ∧ (∀ f, b.2 = some f → Ok 300 f) := by
    intro ns
    induction ns with
    | nil => intro bs _ hb; exact hb
    | cons i ns ih =>
      intro bs hn hb
      refine ih _ (fun j hj => hn j (List.mem_cons_of_mem _ hj)) fun b hm => ?_
      rcases List.mem_or_eq_of_mem_set hm with hm | rfl
      · exact hb b hm
      · have hi := hn i List.mem_cons_self
        have hl : i.toNat < t.prices.length := by omega
        have ok : Ok 300 (t.prices.getD i.toNat (0, 1)) := by
          rw [List.getD_eq_getElem?_getD, List.getElem?_eq_getElem hl]
          exact h.pr _ (List.getElem_mem hl)
        exact ⟨fun f e => by injection e with e; rw [← e]; exact ok, fun f e => by injection e with e; rw [← e]; exact ok⟩
  exact this ns t.bounds hn h.bd
section
variable {μ0 μ : M} {t : Task} {p0 p1 p2 p3 : Addr} {qs : List Addr}
/-- bounds changed in their own list -/
theorem putB {bs : List (Option Fc × Option Fc)} (o : OwnT μ0 μ t p0 p1 p2 p3 qs) : OwnT μ0 (updM μ p2 (.lst (bs.map bndD))) { t with bounds := bs } p0 p1 p2 p3 qs := by
  obtain ⟨e01, e02, e03, e12, e13, e23⟩ := o.nums
  have off := o.nq p2 (by simp)
  refine ⟨⟨o.w.len, o.w.sub.put o.n2, o.w.new, o.w.nd, fun i q w hq hw => ?_⟩, ?_, ?_, updM_same, ?_, o.n0, o.n1, o.n2, o.n3, o.ne, o.nq⟩
  · rw [updM_ne (fun e => off (by rw [← e]; exact List.mem_of_getElem? hq))]
    exact o.w.at_ i q w hq hw
  · rw [updM_ne e02]; exact o.c0
  · rw [updM_ne e12]; exact o.c1
  · rw [updM_ne (Ne.symm e23)]; exact o.c3
theorem wcells_dv2 {μ μ2 : M} : ∀ {ws : List Wsh} {qs : List Addr}, qs.length = ws.length → (∀ q ∈ qs, μ2 q = none) → (∀ (i : Nat) (q : Addr) (w : Wsh), qs[i]? = some q → ws[i]? = some w → μ q = some (.lst (w.2.map D.int))) → DVA μ μ2 (List.zipWith wcell ws qs) (ws.map WishD)
  | [], [], _, _, _ => .nil
  | w :: ws, q :: qs, hl, hn, h => .cons (.tup (.cons (.same _) (.cons (.cel (h 0 q w rfl rfl) (hn q List.mem_cons_self) (DVA.same _)) .nil))) (wcells_dv2 (by simpa using hl) (fun p hp => hn p (List.mem_cons_of_mem _ hp)) fun i p v hp hv => h (i + 1) p v hp hv)
theorem dv2 (o : OwnT μ0 μ t p0 p1 p2 p3 qs) : DV μ μ0 (ownD p0 p1 p2 p3 t.word) t.d :=
  .tup (.cons (.cel o.c0 o.n0 (DVA.same _)) (.cons (.cel o.c1 o.n1 (wcells_dv2 o.w.len o.w.new o.w.at_)) (.cons (.cel o.c2 o.n2 (DVA.same _)) (.cons (.cel o.c3 o.n3 (DVA.same _)) (.cons (.same _) .nil)))))
end
theorem at_fr {ps : List Fc} {i : Int} (h0 : 0 ≤ i) (h1 : i < ps.length) : atI (ps.map fr) i = some (fr (ps.getD i.toNat (0, 1))) := by
  obtain ⟨x, e1, e2⟩ := atI_lt (xs := ps.map fr) h0 (by rw [List.length_map]; exact h1)
  rw [e1, ← e2, List.getElem?_map, List.getD_eq_getElem?_getD]
  have : i.toNat < ps.length := by omega
  rw [List.getElem?_eq_getElem this]
  rfl
theorem items_in {ns : List Int} {m : Nat} (h : itemsB (.lst (ns.map D.int)) m = true) : InR ns m := by
  obtain ⟨ks, e, hp, hb⟩ := rising_ints (show risingB (-1) m (ns.map D.int) = true from h)
  have e : ns = ks := int_inj e
  subst e
  exact ⟨hp, fun i hi => ⟨by have := (hb i hi).1; omega, (hb i hi).2⟩⟩
theorem in_items {ns : List Int} {m : Nat} (h : InR ns m) : itemsB (.lst (ns.map D.int)) m = true := rising_of h.1 fun i hi => ⟨by have := (h.2 i hi).1; omega, (h.2 i hi).2⟩
theorem items_lst {d : D} {m : Nat} (h : itemsB d m = true) : ∃ ns : List Int, d = .lst (ns.map D.int) ∧ InR ns m := by
  cases d with
  | lst xs =>
    obtain ⟨ns, rfl, _⟩ := rising_ints (show risingB (-1) m xs = true from h)
    exact ⟨ns, rfl, items_in h⟩
  | _ => cases h
theorem hb_stilled {C_NoItem : Addr} : HBX (c_stilled C_NoItem) (t_stilled C_NoItem) 8 := by
  intro ds μ Q X h
  obtain ⟨t, d, rfl, ht, hd, qx, q⟩ := h
  show t_stilled C_NoItem (ends Q (FinX X)) [some t.d, some d, none, none, none, none, none, none] μ
  have sz : 16777216 ≤ sizeLine := by decide
  simp! only [t_stilled, Task.d, List.length_map]
  refine ⟨d, _, rfl, hd, ?_⟩
  cases hi : itemsB d t.prices.length with
  | false =>
    walk_at "r"
    exact ⟨μ, Sub.refl _, qx hi⟩
  | true =>
    obtain ⟨ns, rfl, hr⟩ := items_lst hi
    have q := q ns rfl hr
    walk_at "r"
    refine ⟨t, rfl, ht, fun p0 p1 p2 p3 qs μ1 o => ?_⟩
    simp! only [ownD]
    refine for_pre (fun pre δ μ' => ∃ x7, δ = [some t.d, some (.lst (ns.map D.int)), some (.raw (.ref p0)), some (.raw (.ref p1)), some (.raw (.ref p2)), some (.raw (.ref p3)), some (.str t.word), x7] ∧ OwnT μ μ' (tstill t pre) p0 p1 p2 p3 qs) ⟨none, rfl, o⟩ ?_ ?_
    · rintro pre i post δ μ' e ⟨x7, rfl, o⟩
      have hin := hr.2 i (by rw [e]; simp)
      have ea := at_fr (ps := t.prices) hin.1 hin.2
      have eb : ixN ((stillB t.prices pre t.bounds).map bndD).length i = some i.toNat := by
        rw [List.length_map, still_len, ht.bl]
        exact ixN_int hin.1 hin.2
      have v0 : view μ' (.raw (.ref p0)) = .lst (t.prices.map fr) := view_cell o.c0
      refine ⟨trivial, ?_⟩
      simp! only [v0, ea]
      refine ⟨by decide, _, o.c2, ?_⟩
      rw [show (tstill t pre).bounds = stillB t.prices pre t.bounds from rfl, eb]
      walk_at "r"
      refine ⟨_, rfl, ?_⟩
      have o2 := putB (bs := stillB t.prices (pre ++ [i]) t.bounds) o
      rw [still_snoc, List.map_set] at o2
      have e3 : tstill t (pre ++ [i]) = { tstill t pre with bounds := (stillB t.prices pre t.bounds).set i.toNat (some (t.prices.getD i.toNat (0, 1)), some (t.prices.getD i.toNat (0, 1))) } := by
        show { t with bounds := stillB t.prices (pre ++ [i]) t.bounds } = _
        rw [still_snoc]
        rfl
      rw [e3]
      exact o2
    · rintro δ μ' ⟨x7, rfl, o⟩
      refine ⟨trivial, ?_⟩
      walk_at "r"
      exact ⟨by decide, .of (q p0 p1 p2 p3 qs μ' o)⟩
theorem hb_needed {C_NoItem : Addr} : HBX (c_needed C_NoItem) (t_needed C_NoItem) 4 := by
  intro ds μ Q X h
  obtain ⟨t, d, rfl, ht, hd, hb, qx⟩ := h
  show t_needed C_NoItem (ends Q (FinX X)) [some t.d, some d, none, none] μ
  have sz : 16777216 ≤ sizeLine := by decide
  simp! only [t_needed, Task.d, List.length_map]
  refine ⟨by decide, .lst [d], _, rfl, ⟨rfl, fun xs e => ?_⟩, ?_⟩
  · injection e with e
    subst e
    exact ⟨by show 1 ≤ 1000; decide, fun x hx => by rw [List.mem_singleton.mp hx]; exact hd⟩
  rw [hb]
  walk_at "r"
  exact ⟨μ, Sub.refl _, qx⟩
theorem filter_ne {f : D → Bool} : ∀ xs : List D, (!(xs.filter f).isEmpty) = xs.any f
  | [] => rfl
  | x :: xs => by
    rw [List.filter_cons, List.any_cons]
    cases h : f x with
    | true => rfl
    | false => exact filter_ne xs
theorem hb_law_no_wholes : HB c_no_wholes t_law_no_wholes 2 := by
  intro ds μ Q X h
  obtain ⟨d, rfl, ⟨⟨hp, hx⟩, ho, _⟩, q⟩ := h
  show t_law_no_wholes (ends Q XF) [some d, none] μ
  have sz : 16777216 ≤ sizeLine := by decide
  cases d with
  | raw _ => cases hp
  | scr _ => cases hp
  | lst xs =>
    obtain ⟨hl, hx⟩ := hx xs rfl
    have ho := ho xs rfl
    simp! only [t_law_no_wholes]
    have e0 : xs = xs.map id := (List.map_id xs).symm
    rw [e0]
    refine comp_filterE (enc := id) (keep := fun x => !wholeB x) (g := id) trivial (by omega) (fun x hx' acc R ha h1 h2 => ?_) ?_
    · have pl := hx x hx'
      cases x with
      | int i =>
        simp! only [id]
        exact h2 rfl
      | raw _ => cases pl
      | scr _ => cases pl
      | bl b =>
        simp! only [id]
        exact ⟨ha, h1 rfl⟩
      | _ =>
        simp! only [id]
        exact ⟨ha, h1 rfl⟩
    · walk_at "r"
      refine ⟨by decide, okN_lst (n := 63) (fun x hx' => ?_), by decide, ?_⟩
      · obtain ⟨y, hy, rfl⟩ := List.mem_map.mp hx'
        exact okN_mono (ho y (List.mem_filter.mp hy).1) (by decide)
      rw [eqDs_nil_r]
      have e1 : (!((xs.filter fun x => !wholeB x).map id).isEmpty) = noWholesB (.lst xs) := by
        show _ = xs.any fun x => !wholeB x
        rw [List.map_id]
        exact filter_ne _
      rw [e1]
      exact .of q
  | _ =>
    simp! only [t_law_no_wholes]
    exact .of q
theorem thg_noW {ns : List Int} : noWholesB (.lst (ns.map D.int)) = false := by
  show (ns.map D.int).any (fun x => !wholeB x) = false
  rw [List.any_map]
  exact List.any_eq_false.mpr fun x _ => by intro z; cases z
theorem noW_of {xs : List D} (h : noWholesB (.lst xs) = false) : ∃ ns : List Int, xs = ns.map D.int := by
  refine all_whole (List.all_eq_true.mpr fun x hx => ?_)
  have := List.any_eq_false.mp (show xs.any (fun x => !wholeB x) = false from h) x hx
  simpa using this
theorem hb_law_good : HB c_good t_law_good 3 := by
  intro ds μ Q X h
  obtain ⟨d, m, rfl, ht, hm, q⟩ := h
  show t_law_good (ends Q XF) [some (.int m), some d, none] μ
  have sz : 16777216 ≤ sizeLine := by decide
  obtain ⟨⟨hp, hx⟩, ho, hs⟩ := id ht
  cases d with
  | raw _ => cases hp
  | scr _ => cases hp
  | lst xs =>
    simp! only [t_law_good]
    refine ⟨.lst xs, rfl, ht, ?_⟩
    cases hn : noWholesB (.lst xs) with
    | true =>
      have : itemsB (.lst xs) m = false := by
        cases e : itemsB (.lst xs) m with
        | false => rfl
        | true =>
          obtain ⟨ns, e, _⟩ := items_lst e
          rw [e, thg_noW] at hn
          cases hn
      rw [this] at q
      walk_at "r"
      exact .of q
    | false =>
      obtain ⟨ns, rfl⟩ := noW_of hn
      walk_at "r"
      refine ⟨⟨by omega, by omega⟩, ?_⟩
      rw [rangeD_map, Int.toNat_natCast]
      refine comp_filterE (enc := fun i : Nat => D.int (0 + (i : Nat))) (keep := fun i : Nat => decide ((i : Int) ∈ ns)) (g := fun i : Nat => D.int (i : Int)) trivial (by rw [List.length_range]; omega) (fun i hi acc R ha h1 h2 => ?_) ?_
      · simp! only [Int.zero_add, inD_ints]
        refine ⟨rfl, flat_ints, kTest_of (fun h => ?_) (fun h => h2 h)⟩
        walk_at "r"
        exact ⟨ha, h1 h⟩
      · have e1 : ((List.range m).filter fun i : Nat => decide ((i : Int) ∈ ns)).map (fun i : Nat => D.int (i : Int)) = ((NB.upTo m).filter fun i => decide (i ∈ ns)).map D.int := by
          unfold NB.upTo
          rw [List.filter_map, List.map_map]
          rfl
        rw [e1]
        walk_at "r"
        refine ⟨okN_ints, okN_ints, ?_⟩
        rw [eqDs_ints, ← rising_eq]
        exact .of q
  | _ =>
    simp! only [t_law_good]
    exact .of q
theorem hb_law_stilled : HB c_lstil t_law_stilled 6 := by
  intro ds μ Q X h
  obtain ⟨t, ns, rfl, ht, hn, q⟩ := h
  show t_law_stilled (ends Q XF) [some t.d, some (.lst (ns.map D.int)), none, none, none, none] μ
  have sz : 16777216 ≤ sizeLine := by decide
  have hw := ht.wl
  have tdv : ∀ μ : M, view μ t.d = .tup [.lst (t.prices.map fr), .lst (t.wishes.map WishD), .lst (t.bounds.map bndD), .lst (t.weights.map wgtD), .str t.word] := fun _ => rfl
  have at3 : ∀ {a b c d e : D}, atI [a, b, c, d, e] 3 = some d := rfl
  have at4 : ∀ {a b c d e : D}, atI [a, b, c, d, e] 4 = some e := rfl
  simp! only [t_law_stilled, tdv]
  intro c hc
  walk_at "r"
  refine for_pre (fun pre δ μ' => ∃ x3, δ = [some t.d, some (.lst (ns.map D.int)), some (.raw (.ref c)), x3, none, none] ∧ μ' = updM μ c (.lst ((stillB t.prices pre t.bounds).map bndD))) ⟨none, rfl, rfl⟩ ?_ ?_
  · rintro pre i post δ μ' e ⟨x3, rfl, rfl⟩
    have hin := hn i (by rw [e]; simp)
    have ea := at_fr (ps := t.prices) hin.1 hin.2
    have eb : ixN ((stillB t.prices pre t.bounds).map bndD).length i = some i.toNat := by
      rw [List.length_map, still_len, ht.bl]
      exact ixN_int hin.1 hin.2
    refine ⟨trivial, ?_⟩
    simp! only [tdv, ea]
    refine ⟨by decide, _, updM_same, ?_⟩
    rw [eb]
    walk_at "r"
    refine ⟨_, rfl, ?_⟩
    rw [updM_upd, still_snoc, List.map_set]
    rfl
  · rintro δ μ' ⟨x3, rfl, rfl⟩
    refine ⟨trivial, ?_⟩
    simp! only [tdv]
    refine comp_pure (enc := WishD) (g := WishD) trivial (by omega) (fun w hw acc R ha hR => ?_) ?_
    · simp! only [WishD]
      exact ⟨by decide, ha, hR⟩
    simp! only [tdv, at3, at4]
    refine ⟨_, updM_same, by decide, μ, ?_, q⟩
    rw [del_upd hc]
    exact Sub.refl _
theorem hb_law_items_drawn : HB c_items t_law_items_drawn 3 := by
  intro ds μ Q X h
  obtain ⟨p, m, rfl, hp, hm, q⟩ := h
  show t_law_items_drawn (ends Q XF) [some (.raw (.ref p)), some (.int m), none] μ
  have sz : 16777216 ≤ sizeLine := by decide
  simp! only [t_law_items_drawn]
  refine ⟨⟨by omega, by omega⟩, ?_⟩
  rw [Int.toNat_natCast]
  refine ⟨fun i acc μ' => i ≤ m ∧ ∃ ys : List Int, acc = ys.map D.int ∧ ys.length ≤ i ∧ InR ys i ∧ Pool μ' p ∧ Oth μ μ' p, ⟨Nat.zero_le _, [], rfl, Nat.le_refl _, ⟨.nil, by simp⟩, hp, Oth.refl _ _⟩, ?_⟩
  rintro i acc μ' ⟨hi, ys, rfl, hy, hr, hP, o⟩
  refine ⟨trivial, fun d hd => ?_, fun he => ?_⟩
  · obtain ⟨rfl, hlt⟩ := rangeD_some hd
    simp! only [Int.zero_add]
    refine ⟨p, _, rfl, hP, by decide, by decide, fun r μ2 a2 b2 h2 o2 => ?_⟩
    walk_at "r"
    refine ⟨okN_int, okN_int, kTest_of (fun h => ?_) (fun h => ?_)⟩
    · walk_at "r"
      refine ⟨by rw [List.length_map]; omega, by omega, ys ++ [(i : Int)], by rw [List.map_append]; rfl, by rw [List.length_append]; show _ + 1 ≤ _; omega, ⟨?_, fun j hj => ?_⟩, h2, o.trans o2⟩
      · rw [List.pairwise_append]
        refine ⟨hr.1, by simp, fun a ha b hb => ?_⟩
        rw [List.mem_singleton.mp hb]
        exact (hr.2 a ha).2
      · rcases List.mem_append.mp hj with hj | hj
        · have := hr.2 j hj
          omega
        · rw [List.mem_singleton.mp hj]
          omega
    · exact ⟨by omega, ys, rfl, by omega, ⟨hr.1, fun j hj => by have := hr.2 j hj; omega⟩, h2, o.trans o2⟩
  · rw [rangeD_len] at he
    subst he
    exact .of (q ys μ' hr hP o)
theorem thg_lst {xs : List D} (hl : xs.length ≤ 30) (h : ∀ x ∈ xs, Sh 7 1000 x) : Thg (.lst xs) :=
  ⟨⟨rfl, fun ys e => by injection e with e; subst e; exact ⟨by omega, fun x hx => okN_plain (h x hx).ok⟩⟩, (fun ys e => by injection e with e; subst e; exact fun x hx => okN_mono (h x hx).ok (by decide)), .inr ((sh_lst hl h).mono (by decide) (by decide))⟩
theorem sh_i {i : Int} (h1 : -1000 ≤ i) (h2 : i ≤ 1000) : Sh 7 1000 (.int i) := (sh_small h1 h2).mono (by decide) (by decide)
theorem thg_ints {ns : List Int} (hl : ns.length ≤ 30) (h : ∀ i ∈ ns, -1000 ≤ i ∧ i ≤ 1000) : Thg (.lst (ns.map D.int)) := thg_lst (by rw [List.length_map]; exact hl) fun x hx => by
  obtain ⟨i, hi, rfl⟩ := List.mem_map.mp hx
  exact sh_i (h i hi).1 (h i hi).2
theorem hb_law_odd_items : HB c_odd_items t_law_odd_items 6 := by
  intro ds μ Q X h
  obtain ⟨p, m, ns, rfl, hp, hm, hr, hl, q⟩ := h
  show t_law_odd_items (ends Q XF) [some (.raw (.ref p)), some (.int m), some (.lst (ns.map D.int)), none, none, none] μ
  have sz : 16777216 ≤ sizeLine := by decide
  have hb : ∀ i ∈ ns, (-1000 : Int) ≤ i ∧ i ≤ 1000 := fun i hi => by have := hr.2 i hi; omega
  simp! only [t_law_odd_items, List.length_map]
  refine ⟨p, _, rfl, hp, by omega, by omega, fun r μ1 a1 b1 h1 o1 => ?_⟩
  obtain ⟨r, rfl⟩ : ∃ k : Nat, r = k := ⟨r.toNat, by omega⟩
  walk_at "r"
  refine ⟨by decide, by decide, p, _, rfl, h1, by decide, by decide, fun k μ2 a2 b2 h2 o2 => ?_⟩
  generalize hL : [D.bl true, D.non, D.str (Str.ofString "0"), D.int m, D.int (-1), D.lst [D.int 0], D.int ((m : Int) + 7)] = L
  have hLl : L.length = 7 := by rw [← hL]; rfl
  have hLf : ∀ d ∈ L, Sh 7 1000 d := by
    rw [← hL]
    intro d hd
    simp only [List.mem_cons, List.not_mem_nil, or_false] at hd
    rcases hd with rfl | rfl | rfl | rfl | rfl | rfl | rfl
    · exact ⟨rfl, rfl, by decide +kernel⟩
    · exact ⟨rfl, rfl, by decide +kernel⟩
    · exact ⟨by decide +kernel, rfl, by decide +kernel⟩
    · exact sh_i (by omega) (by omega)
    · exact sh_i (by omega) (by omega)
    · exact ⟨rfl, rfl, by decide +kernel⟩
    · exact sh_i (by omega) (by omega)
  obtain ⟨x, e1, e2⟩ := atI_lt (xs := L) a2 (by rw [hLl]; exact b2)
  have hx := hLf x (List.mem_of_getElem? e2)
  clear hL
  have cd : cutD (ns.map D.int) (some (r : Int)) none = (ns.map D.int).drop r := by
    unfold cutD
    rw [HT.sIx_none, HT.sIx_nat]
    by_cases h : r ≤ (ns.map D.int).length
    · rw [Nat.min_eq_left h, List.take_of_length_le (by rw [List.length_drop]; omega)]
    · rw [Nat.min_eq_right (by omega), Nat.sub_self, List.take_zero, List.drop_eq_nil_of_le (by omega)]
  simp! only [e1]
  rw [cut_take, cd]
  have l0 : (ns.map D.int).length ≤ 16 := by rw [List.length_map]; exact hl
  have l1 : ((ns.map D.int).take r).length ≤ 16 := by rw [List.length_take]; omega
  have l2 : ((ns.map D.int).drop r).length ≤ 16 := by rw [List.length_drop]; omega
  (repeat (refine And.intro ?cjx ?_; (case cjx => first | decide | (show _ ≤ sizeLine; first | omega | (simp only [List.length_append, List.length_cons, List.length_nil]; omega)))))
  refine ⟨p, _, rfl, h2, by decide, by decide, fun k4 μ3 a3 b3 h3 o3 => ?_⟩
  have hz : Sh 7 1000 (.int 0) := sh_i (by decide) (by decide)
  have hin : ∀ y ∈ ns.map D.int, Sh 7 1000 y := fun y hy => by
    obtain ⟨i, hi, rfl⟩ := List.mem_map.mp hy
    exact sh_i (hb i hi).1 (hb i hi).2
  have hM : ∀ d ∈ [D.lst ((ns.map D.int).take r ++ [x] ++ (ns.map D.int).drop r), D.lst (ns.map D.int ++ [D.int 0]), D.lst (D.int 0 :: (ns.map D.int ++ [D.int 0])), D.tup (ns.map D.int), D.non, D.emp, D.int 0, D.lst [D.int ((m : Int) - 1), D.int ((m : Int) - 2)]], Thg d := by
    intro d hd
    simp only [List.mem_cons, List.not_mem_nil, or_false] at hd
    rcases hd with rfl | rfl | rfl | rfl | rfl | rfl | rfl | rfl
    · have : (ns.map D.int).take r ++ (ns.map D.int).drop r = ns.map D.int := List.take_append_drop _ _
      have hl2 := congrArg List.length this
      rw [List.length_append] at hl2
      refine thg_lst (by rw [List.length_append, List.length_append]; show _ + 1 + _ ≤ _; omega) fun y hy => ?_
      rcases List.mem_append.mp hy with hy | hy
      · rcases List.mem_append.mp hy with hy | hy
        · exact hin y (List.mem_of_mem_take hy)
        · rw [List.mem_singleton.mp hy]; exact hx
      · exact hin y (List.mem_of_mem_drop hy)
    · refine thg_lst (by rw [List.length_append]; show _ + 1 ≤ _; omega) fun y hy => ?_
      rcases List.mem_append.mp hy with hy | hy
      · exact hin y hy
      · rw [List.mem_singleton.mp hy]; exact hz
    · refine thg_lst (by rw [List.length_cons, List.length_append]; show _ + 1 + 1 ≤ _; omega) fun y hy => ?_
      rcases List.mem_cons.mp hy with rfl | hy
      · exact hz
      · rcases List.mem_append.mp hy with hy | hy
        · exact hin y hy
        · rw [List.mem_singleton.mp hy]; exact hz
    · exact ⟨⟨rfl, fun xs e => by cases e⟩, (fun xs e => by cases e), .inr ((sh_tup (k := 30) (by omega) hin).mono (by decide) (by decide))⟩
    · exact ⟨⟨rfl, fun xs e => by cases e⟩, (fun xs e => by cases e), .inr (sh_non.mono (by decide) (by decide))⟩
    · exact ⟨⟨rfl, fun xs e => by cases e⟩, (fun xs e => by cases e), .inl rfl⟩
    · exact ⟨⟨rfl, fun xs e => by cases e⟩, (fun xs e => by cases e), .inr (hz.mono (by decide) (by decide))⟩
    · refine thg_lst (by show 2 ≤ 30; decide) fun y hy => ?_
      simp only [List.mem_cons, List.not_mem_nil, or_false] at hy
      rcases hy with rfl | rfl
      · exact sh_i (by omega) (by omega)
      · exact sh_i (by omega) (by omega)
  generalize hMe : [D.lst ((ns.map D.int).take r ++ [x] ++ (ns.map D.int).drop r), D.lst (ns.map D.int ++ [D.int 0]), D.lst (D.int 0 :: (ns.map D.int ++ [D.int 0])), D.tup (ns.map D.int), D.non, D.emp, D.int 0, D.lst [D.int ((m : Int) - 1), D.int ((m : Int) - 2)]] = Ms at hM
  have hMl : Ms.length = 8 := by rw [← hMe]; rfl
  obtain ⟨y, f1, f2⟩ := atI_lt (xs := Ms) a3 (by rw [hMl]; exact b3)
  walk_at "r"
  exact OptQ.of f1 (.of (q y μ3 (hM y (List.mem_of_getElem? f2)) h3 ((o1.trans o2).trans o3)))
theorem bl_at {bs : List Bool} {m : Nat} {z : D} (h : (bs.map D.bl)[m]? = some z) : ∃ b, bs[m]? = some b ∧ z = .bl b := by
  rw [List.getElem?_map] at h
  obtain ⟨b, h1, h2⟩ := Option.map_eq_some_iff.mp h
  exact ⟨b, h1, h2.symm⟩
theorem hb_law_kind_of {K : PySem.W.Frag} : HB (c_kind_of K) (t_law_kind_of K) 2 := by
  intro ds μ Q X h
  obtain ⟨a, A, fs, bs, j, rfl, ha, ek, kv, hc, hj, hm, q⟩ := h
  show t_law_kind_of K (ends Q XF) [some (.raw (.ref a)), some (.lst (bs.map D.bl))] μ
  have ho : okN 64 (.lst (bs.map D.bl)) = true := okN_lst (n := 63) fun d hd => by obtain ⟨b, _, rfl⟩ := List.mem_map.mp hd; rfl
  simp! only [t_law_kind_of]
  refine ⟨⟨_, rfl⟩, _, _, rfl, rfl, ho, rfl, ?_⟩
  rw [hc, show ((1 : Nat) : Int) = 1 from rfl]
  refine ⟨rfl, rfl, ?_⟩
  walk_at "r"
  refine ⟨a, A, fs, true, _, rfl, ha, ek, .one rfl kv, ?_⟩
  walk_at "r"
  refine ⟨⟨_, rfl⟩, _, j, .bl true, rfl, rfl, List.all_eq_true.mpr (fun d hd => by obtain ⟨b, _, rfl⟩ := List.mem_map.mp hd; rfl), by rw [List.getElem?_map, hj]; rfl, rfl, fun m z hmj hz => ?_, .of q⟩
  obtain ⟨b, h1, rfl⟩ := bl_at hz
  rw [hm m hmj] at h1
  injection h1 with h1
  rw [← h1]
  rfl
/-- the kinds of the error -/
structure Kd (K : PySem.W.Frag) (A N C1 C2 C3 C4 C5 : Addr) : Prop where
  x : PySem.W.exmOne K (.ref A) (.ref N) = some true
  ek : ExcK K A
  k1 : PySem.W.kitOne K (.ref A) (.ref C1) = some true
  k2 : PySem.W.kitOne K (.ref A) (.ref C2) = some false
  k3 : PySem.W.kitOne K (.ref A) (.ref C3) = some false
  k4 : PySem.W.kitOne K (.ref A) (.ref C4) = some false
  k5 : PySem.W.kitOne K (.ref A) (.ref C5) = some false
  kv : PySem.W.kitOne K (.ref A) (.type "ValueError") = some true
section
variable {K : PySem.W.Frag} {C_NoItem C_NoNumber C_NoOrder C_NoTask C_NoWish C_NudgeError : Addr} {Q : QD} {μ : M}
theorem tail_told {a b c x5 x6 : Option D} {d : D} (q : Q d μ) : t_law_told_3 K C_NoItem C_NoNumber C_NoOrder C_NoTask C_NoWish C_NudgeError (ends Q XF) [a, b, c, some .non, some d, x5, x6] μ := by
  simp! only [t_law_told_3]
  exact .of q
theorem tail_err {a b c : Option D} {p : Addr} (k : Kd K C_NoItem C_NudgeError C_NoItem C_NoNumber C_NoOrder C_NoTask C_NoWish) (hp : μ p = none) (q : Q (.str (PySem.Str.ofString "item")) μ) : t_law_told_3 K C_NoItem C_NoNumber C_NoOrder C_NoTask C_NoWish C_NudgeError (ends Q XF) [a, b, c, some (.raw (.ref p)), some .non, none, none] (updM μ p (.exc (.ref C_NoItem) none)) := by
  have u := updM_same (μ := μ) (p := p) (c := .exc (.ref C_NoItem) none)
  simp! only [t_law_told_3]
  rw [decide_eq_false (show ¬ (V.ref p = V.non) from fun z => by cases z)]
  walk_at "r"
  refine ⟨p, C_NoItem, none, _, _, rfl, u, k.ek, .one rfl k.k1, ?_⟩
  walk_at "r"
  refine ⟨p, C_NoItem, none, _, _, rfl, u, k.ek, .one rfl k.k2, ?_⟩
  walk_at "r"
  refine ⟨p, C_NoItem, none, _, _, rfl, u, k.ek, .one rfl k.k3, ?_⟩
  walk_at "r"
  refine ⟨by decide, p, C_NoItem, none, _, _, rfl, u, k.ek, .one rfl k.k4, ?_⟩
  walk_at "r"
  refine ⟨p, C_NoItem, none, _, _, rfl, u, k.ek, .one rfl k.k5, ?_⟩
  walk_at "r"
  refine ⟨by decide, by decide, by decide, p, C_NoItem, none, [true, false, false, false, false], 0, rfl, u, k.ek, k.kv, by decide +kernel, rfl, (fun m h => absurd h (by omega)), ?_⟩
  walk_at "r"
  exact ⟨okN_int, okN_int, μ, Sub.new hp, q⟩
theorem try_err {a b c : Option D} (k : Kd K C_NoItem C_NudgeError C_NoItem C_NoNumber C_NoOrder C_NoTask C_NoWish) (q : Q (.str (PySem.Str.ofString "item")) μ) :
    kTryK K (Value.ref C_NudgeError) 5 (fun x => dSet 3 (dVar 5)) { nx := t_law_told_3 K C_NoItem C_NoNumber C_NoOrder C_NoTask C_NoWish C_NudgeError { nx := kEnd Q, rt := DL.Fin Q, bk := fun x x_1 => False, ct := fun x x_1 => False, xc := fun x => XF }, rt := DL.Fin Q, bk := fun x x_1 => False, ct := fun x x_1 => False, xc := fun x => XF }
      [a, b, c, some D.non, some D.non, none, none] (.ref C_NoItem) none μ := by
  refine ⟨true, k.x, fun _ p hp => ?_, (fun z => by cases z)⟩
  walk_at "r"
  exact tail_err k hp q
end
theorem hb_law_told {K : PySem.W.Frag} {C_NoItem C_NoNumber C_NoOrder C_NoTask C_NoWish C_NudgeError : Addr} (k : Kd K C_NoItem C_NudgeError C_NoItem C_NoNumber C_NoOrder C_NoTask C_NoWish) :
    HB c_told (t_law_told K C_NoItem C_NoNumber C_NoOrder C_NoTask C_NoWish C_NudgeError) 7 := by
  intro ds μ Q X h
  obtain ⟨t, d, w, rfl, ht, h⟩ := h
  show t_law_told K C_NoItem C_NoNumber C_NoOrder C_NoTask C_NoWish C_NudgeError (ends Q XF) [some t.d, some d, some (.int w), none, none, none, none] μ
  have sz : 16777216 ≤ sizeLine := by decide
  rcases h with ⟨rfl, h1, h2, h3⟩ | ⟨rfl, h1, h2, h3⟩
  · simp! only [t_law_told]
    refine ⟨okN_int, okN_int, t, d, rfl, ht, h1, fun z => try_err k (h2 z), fun ns e hr p0 p1 p2 p3 qs μ' o => ?_⟩
    walk_at "r"
    exact tail_told (h3 ns e hr p0 p1 p2 p3 qs μ' o)
  · simp! only [t_law_told]
    exact ⟨okN_int, okN_int, t, d, rfl, ht, h1, h2, try_err k h3⟩
theorem inR_len {ns : List Int} {m : Nat} (h : InR ns m) : ns.length ≤ m := by
  have e : ns = (NB.upTo m).filter fun i => decide (i ∈ ns) := eq_lt h.1 ((upTo_lt m).filter _) fun i => by
    rw [List.mem_filter, upTo_mem', decide_eq_true_eq]
    exact ⟨fun hi => ⟨h.2 i hi, hi⟩, fun hi => hi.2⟩
  have := List.length_filter_le (fun i => decide (i ∈ ns)) (NB.upTo m)
  rw [← e, upTo_len] at this
  exact this
theorem still_get {ps : List Fc} {j : Nat} : ∀ {ns : List Int} {bs : List (Option Fc × Option Fc)}, (∀ i ∈ ns, 0 ≤ i) → (stillB ps ns bs)[j]? = if (j : Int) ∈ ns then bs[j]?.map (fun _ => (some (ps.getD j (0, 1)), some (ps.getD j (0, 1)))) else bs[j]?
  | [], bs, _ => by rw [if_neg (by simp)]; rfl
  | i :: ns, bs, h => by
    show (stillB ps ns (bs.set _ _))[j]? = _
    have h0 := h i List.mem_cons_self
    rw [still_get fun k hk => h k (List.mem_cons_of_mem _ hk)]
    by_cases hj : (j : Int) = i
    · have e : i.toNat = j := by omega
      rw [if_pos (show (j : Int) ∈ i :: ns from by rw [hj]; exact List.mem_cons_self), e, List.getElem?_set_self']
      cases bs[j]? with
      | none => split <;> rfl
      | some b => split <;> rfl
    · have e : i.toNat ≠ j := by omega
      rw [List.getElem?_set_ne e]
      by_cases hm : (j : Int) ∈ ns
      · rw [if_pos hm, if_pos (List.mem_cons_of_mem _ hm)]
      · rw [if_neg hm, if_neg (fun z => by rcases List.mem_cons.mp z with z | z; exact hj z; exact hm z)]
theorem still_two {t : Task} {a b c : List Int} (ha : ∀ i ∈ a, 0 ≤ i) (hb : ∀ i ∈ b, 0 ≤ i) (hc : ∀ i ∈ c, 0 ≤ i) (h : ∀ i, i ∈ c ↔ i ∈ a ++ b) : tstill (tstill t a) b = tstill t c := by
  show { t with bounds := stillB t.prices b (stillB t.prices a t.bounds) } = { t with bounds := stillB t.prices c t.bounds }
  congr 1
  apply List.ext_getElem?
  intro j
  rw [still_get hb, still_get ha, still_get hc]
  have hj := h (j : Int)
  rw [List.mem_append] at hj
  by_cases h1 : (j : Int) ∈ a
  · rw [if_pos h1, if_pos (hj.mpr (.inl h1))]
    cases t.bounds[j]? with
    | none => split <;> rfl
    | some x => split <;> rfl
  · rw [if_neg h1]
    by_cases h2 : (j : Int) ∈ b
    · rw [if_pos h2, if_pos (hj.mpr (.inr h2))]
    · rw [if_neg h2, if_neg (fun z => by rcases hj.mp z with z | z; exact h1 z; exact h2 z)]
theorem ownW_sub {μ0 μ : M} {ws : List Wsh} {qs : List Addr} (o : OwnW μ0 μ ws qs) : Sub μ0 μ := o.sub
theorem pool_sub {μ μ' : M} {p : Addr} (h : Pool μ p) (s : Sub μ μ') : Pool μ' p := by
  obtain ⟨c, x, e, r⟩ := h
  exact ⟨c, x, s _ _ e, r⟩
theorem pool_upd {μ : M} {p a : Addr} {c : C} (h : Pool μ p) (ne : p ≠ a) : Pool (updM μ a c) p := by
  obtain ⟨x, y, e, r⟩ := h
  exact ⟨x, y, by rw [updM_ne ne]; exact e, r⟩
theorem ok_s {x : Str} (h : PyData.strOk x = true) : okN 64 (.str x) = true := h
theorem view_plain {μ : M} {d : D} (h : plainD d = true) : view μ d = d := by cases d <;> first | rfl | cases h
theorem eq_dec_self {x : Str} : decide (x = x) = true := decide_eq_true rfl
theorem bad_one {v : D} {m : Nat} (hm : m ≤ 16) (h : ∀ i : Int, v = .int i → i < 0 ∨ 16 ≤ i ∨ i = m) : itemsB (.lst [v]) m = false := by
  cases v with
  | int i =>
    show (decide ((-1 : Int) < i) && (decide (i < m) && true)) = false
    rcases h i rfl with h | h | h
    · rw [decide_eq_false (show ¬ (-1 : Int) < i by omega)]; rfl
    · rw [decide_eq_false (show ¬ i < (m : Int) by omega)]; simp
    · rw [decide_eq_false (show ¬ i < (m : Int) by omega)]; simp
  | _ => rfl
def rOk (d : D) : Prop := okN 64 d = true ∧ (toP d).showable = true ∧ (toP d).shown.length ≤ sizeLine
theorem Sh.rOk {n c : Nat} {d : D} (h : Sh n c d) (hn : n ≤ 64) (hc : c ≤ 16777216) : rOk d := ⟨okN_mono h.ok hn, h.sh, h.shown hc⟩
theorem sh_still {t : Task} {ns : List Int} (h : TaskOk t) (hn : ∀ i ∈ ns, 0 ≤ i ∧ i < t.prices.length) : Sh 6 1969328 (tstill t ns).d := by
  have hp := tstill_p h.p hn
  have hnn := hp.n2
  refine sh_tup (n := 5) (c := 393863) (k := 5) (by simp) fun x hx => ?_
  simp only [List.mem_cons, List.not_mem_nil, or_false] at hx
  rcases hx with rfl | rfl | rfl | rfl | rfl
  · exact (sh_lst (n := 1) (c := 613) (k := 16) (by rw [List.length_map]; exact hnn) fun x hx => by
      obtain ⟨f, hf, rfl⟩ := List.mem_map.mp hx
      exact sh_ok (h.pr f hf) (by decide)).mono (by decide) (by decide)
  · exact (sh_lst (n := 4) (c := 98463) (k := 4) (by rw [List.length_map]; exact hp.wl) fun x hx => by
      obtain ⟨w, hw, rfl⟩ := List.mem_map.mp hx
      obtain ⟨hl, s, es, ok, _⟩ := hp.ws w hw
      refine sh_tup (n := 3) (c := 49228) (k := 2) (xs := [w.1, .lst (w.2.map D.int)]) (by simp) fun y hy => ?_
      simp only [List.mem_cons, List.not_mem_nil, or_false] at hy
      rcases hy with rfl | rfl
      · rw [es]; exact sh_shp ok
      · exact (sh_ints (by omega) (h.ws.cnts w hw)).mono (by decide) (by decide)).mono (by decide) (by decide)
  · exact (sh_lst (n := 2) (c := 1233) (k := 16) (by rw [List.length_map, hp.bl]; exact hnn) fun x hx => by
      obtain ⟨b, hb, rfl⟩ := List.mem_map.mp hx
      refine sh_tup (n := 1) (c := 613) (k := 2) (xs := [optF b.1, optF b.2]) (by simp) fun y hy => ?_
      simp only [List.mem_cons, List.not_mem_nil, or_false] at hy
      rcases hy with rfl | rfl
      · exact sh_opt (hp.bd b hb).1
      · exact sh_opt (hp.bd b hb).2).mono (by decide) (by decide)
  · exact (sh_lst (n := 2) (c := 1233) (k := 16) (by rw [List.length_map, hp.gl]; exact hnn) fun x hx => by
      obtain ⟨b, hb, rfl⟩ := List.mem_map.mp hx
      refine sh_tup (n := 1) (c := 613) (k := 2) (xs := [fr b.1, fr b.2]) (by simp) fun y hy => ?_
      simp only [List.mem_cons, List.not_mem_nil, or_false] at hy
      rcases hy with rfl | rfl
      · exact sh_ok (h.wg b hb).dn (by decide)
      · exact sh_ok (h.wg b hb).up (by decide)).mono (by decide) (by decide)
  · show Sh 5 393863 (.str t.word)
    rcases h.wd with e | e <;> rw [e] <;> exact ⟨by decide +kernel, rfl, by decide +kernel⟩
theorem item_ok : rOk (.str (PySem.Str.ofString "item")) := ⟨by decide +kernel, rfl, by decide +kernel⟩
theorem hb_law {C_NoItem : Addr} : HB cLaw (t_law C_NoItem) 13 := by
  intro ds μ Q X h
  obtain ⟨ns, rfl, hl, q⟩ := h
  show t_law C_NoItem (ends Q XF) [some (.scr ns), none, none, none, none, none, none, none, none, none, none, none, none] μ
  have sz : 16777216 ≤ sizeLine := by decide
  have p20 : (10 : Int) ^ Int.toNat 20 = 100000000000000000000 := by decide
  simp! only [t_law]
  refine ⟨by constructor <;> (split <;> (try split) <;> omega), ?_⟩
  refine ⟨fun i δ μ' => ∃ x1 x2 x3 x4 x5 x6 x7 x8 x9 x10 x11 x12, δ = [some (.scr ns), x1, x2, x3, x4, x5, x6, x7, x8, x9, x10, x11, x12], ⟨_, _, _, _, _, _, _, _, _, _, _, _, rfl⟩, ?_⟩
  rintro i δ μ' ⟨x1, x2, x3, x4, x5, x6, x7, x8, x9, x10, x11, x12, rfl⟩
  refine ⟨trivial, fun d hd => ?_, fun hi => ?_⟩
  case refine_2 =>
    walk_at "r"
    exact .of (q _)
  have hk : ∃ k : Int, d = .int k ∧ 0 ≤ k ∧ k < 100 := by
    obtain ⟨rfl, hi⟩ := rangeD_some hd
    refine ⟨_, rfl, by omega, ?_⟩
    revert hi
    split <;> (try split) <;> omega
  obtain ⟨k, rfl, hk0, hk1⟩ := hk
  walk_at "r"
  refine ⟨ns, k, rfl, hk0, hk1, fun p μ1 hp hP ho => ?_⟩
  walk_at "r"
  refine ⟨p, rfl, hP, fun t μ2 ht h2 o2 => ?_⟩
  have htp := ht.p
  have hn2 := htp.n2
  have hsh := Sh.rOk (sh_task ht) (by decide) (by decide)
  have hv : ∀ μ : M, view μ t.d = t.d := fun _ => rfl
  have tdv : ∀ μ : M, view μ t.d = .tup [.lst (t.prices.map fr), .lst (t.wishes.map WishD), .lst (t.bounds.map bndD), .lst (t.weights.map wgtD), .str t.word] := fun _ => rfl
  have irO : ∀ {ns : List Int} {m : Nat}, InR ns m → m ≤ 16 → OrdT (.lst (ns.map D.int)) := fun {ns m} h hm => ⟨rfl, fun xs e => by
    injection e with e
    subst e
    have := inR_len h
    exact ⟨by rw [List.length_map]; omega, fun x hx => by obtain ⟨i, _, rfl⟩ := List.mem_map.mp hx; rfl⟩⟩
  simp! only [tdv, List.length_map]
  refine ⟨p, t.prices.length, rfl, h2, by omega, fun is μ3 hi h3 o3 => ?_⟩
  have hil := inR_len hi
  simp! only [hv]
  refine ⟨.inr hsh, ?_⟩
  refine ⟨p, t.prices.length, is, rfl, h3, by omega, hi, by omega, fun od μ4 hod h4 o4 => ?_⟩
  simp! only [id]
  (repeat (refine And.intro ?cjx ?_; (case cjx => first | decide | (show _ ≤ sizeLine; first | omega | (simp only [List.length_append, List.length_cons, List.length_nil]; omega)))))
  have hx0 : ∀ x ∈ [D.lst (is.map D.int), od, D.lst []], Thg x := by
    intro x hx
    simp only [List.mem_cons, List.not_mem_nil, or_false] at hx
    rcases hx with rfl | rfl | rfl
    · exact thg_ints (by omega) fun i hi' => by have := hi.2 i hi'; omega
    · exact hod
    · exact thg_lst (by decide) (by simp)
  generalize [D.lst (is.map D.int), od, D.lst []] = xs at hx0
  have e0 : xs = xs.map id := (List.map_id xs).symm
  rw [e0]
  refine for_pre (fun _ δ μ' => Pool μ' p ∧ ∃ x7 x8 x9 x10, δ = [some (.scr ns), some (.int k), some (.raw (.ref p)), some t.d, some (.int t.prices.length), some (.lst (is.map D.int)), some (.str (reprE t.d)), x7, x8, x9, x10, x11, x12]) ⟨h4, _, _, _, _, rfl⟩ ?_ ?_
  · rintro pre x post δ μ5 e ⟨h5, y7, y8, y9, y10, rfl⟩
    have hx := hx0 x (by rw [e]; simp)
    have hxp := hx.1.1
    have hvx : ∀ μ : M, view μ x = x := fun μ => view_plain hxp
    have hxr : x = .emp ∨ rOk x := hx.2.2.imp id fun h => Sh.rOk h (by decide) (by decide)
    refine ⟨trivial, ?_⟩
    simp! only [id]
    refine ⟨x, _, rfl, hx, by omega, ?_⟩
    cases hix : itemsB x t.prices.length with
    | false =>
      simp! only [hvx]
      refine ⟨hxr, t, x, 0, rfl, htp, .inl ⟨rfl, hx.1, fun _ => ?_, fun ns e hr => ?_⟩⟩
      · simp! only [dBor, seeS]
        refine ⟨_, _, rfl, .same _, ?_⟩
        simp! only [kSee, kBor, hv, hvx, eq_dec_self]
        refine ⟨.inr item_ok, rfl, .inr item_ok, .inr hsh, hxr, ?_⟩
        exact ⟨item_ok.1, item_ok.1, h5, _, _, _, _, rfl⟩
      · rw [e, in_items hr] at hix
        cases hix
    | true =>
      obtain ⟨js, rfl, hj⟩ := items_lst hix
      have hpw := tstill_p htp hj.2
      have hsw := Sh.rOk (sh_still ht hj.2) (by decide) (by decide)
      have hv2 : ∀ μ : M, view μ (tstill t js).d = (tstill t js).d := fun _ => rfl
      have hls : ∀ μ : M, view μ (.lst (js.map D.int)) = .lst (js.map D.int) := fun _ => rfl
      walk_at "r"
      refine ⟨t, js, rfl, htp, hj.2, ?_⟩
      simp! only [hls]
      refine ⟨hxr, t, _, 0, rfl, htp, .inl ⟨rfl, hx.1, (fun z => by rw [hix] at z; cases z), fun ns' e hr p0 p1 p2 p3 qs μ6 o => ?_⟩⟩
      injection e with e
      obtain rfl := int_inj e
      simp! only [dBor, seeS]
      refine ⟨_, _, rfl, o.dv, ?_⟩
      simp! only [kSee, kBor, hv, hv2, hls, eq_dec_self]
      refine ⟨.inr hsw, rfl, .inr hsw, .inr hsh, hxr, hsw.1, item_ok.1, ?_⟩
      have ne : eqD (tstill t js).d (.str (Str.ofString "item")) = false := rfl
      rw [ne]
      have h6 := pool_sub h5 o.w.sub
      have offp : ∀ {a : Addr}, μ5 a = none → p ≠ a := fun {a} ha z => by
        obtain ⟨c, s, e, _⟩ := h5
        rw [z, ha] at e
        cases e
      obtain ⟨e01, e02, e03, e12, e13, e23⟩ := o.nums
      obtain ⟨w, ws, ew⟩ := List.exists_cons_of_length_pos (show 0 < t.wishes.length from htp.w1)
      have hql : qs.length = t.wishes.length := o.w.len
      obtain ⟨q0, qs', eq⟩ := List.exists_cons_of_length_pos (show 0 < qs.length by rw [hql]; exact htp.w1)
      have c1 := o.c1
      rw [show (tstill t js).wishes = w :: ws from ew, eq, List.zipWith_cons_cons] at c1
      have cq : μ6 q0 = some (.lst (w.2.map D.int)) := o.w.at_ 0 q0 w (by rw [eq]; rfl) (by rw [show (tstill t js).wishes = w :: ws from ew]; rfl)
      have nq0 : p0 ≠ q0 := fun z => o.nq p0 (by simp) (by rw [eq, z]; exact List.mem_cons_self)
      have nq2 : p2 ≠ q0 := fun z => o.nq p2 (by simp) (by rw [eq, z]; exact List.mem_cons_self)
      have nq3 : p3 ≠ q0 := fun z => o.nq p3 (by simp) (by rw [eq, z]; exact List.mem_cons_self)
      have mq0 : μ5 q0 = none := o.w.new q0 (by rw [eq]; exact List.mem_cons_self)
      obtain ⟨g, gs, eg⟩ := List.exists_cons_of_length_pos (show 0 < t.weights.length by rw [htp.gl]; exact htp.n1)
      have c3 := o.c3
      have at3 : ∀ {a b c d e : D}, atI [a, b, c, d, e] 3 = some d := rfl
      simp! only [ownD]
      refine ⟨⟨_, view_cell o.c0⟩, _, o.c0, by rw [List.length_map]; show t.prices.length < _; omega, ?_⟩
      have v1 : view (updM μ6 p0 (.lst ((tstill t js).prices.map fr ++ [D.non]))) (.raw (.ref p1)) = .lst (wcell w q0 :: List.zipWith wcell ws qs') := view_cell (by rw [updM_ne (Ne.symm e01)]; exact c1)
      simp! only [v1, wcell]
      have cq1 : (updM μ6 p0 (.lst ((tstill t js).prices.map fr ++ [D.non]))) q0 = some (.lst (w.2.map D.int)) := by rw [updM_ne (Ne.symm nq0)]; exact cq
      refine ⟨⟨_, view_cell cq1⟩, _, cq1, by rw [List.length_map]; have := htp.ws w (by rw [ew]; exact List.mem_cons_self); omega, ?_⟩
      have c2 : (updM (updM μ6 p0 (.lst ((tstill t js).prices.map fr ++ [D.non]))) q0 (.lst (w.2.map D.int ++ [D.int 9]))) p2 = some (.lst ((tstill t js).bounds.map bndD)) := by rw [updM_ne nq2, updM_ne (Ne.symm e02)]; exact o.c2
      refine ⟨⟨_, view_cell c2⟩, _, c2, ?_⟩
      simp! only [at3]
      have c3' : (updM (updM (updM μ6 p0 (.lst ((tstill t js).prices.map fr ++ [D.non]))) q0 (.lst (w.2.map D.int ++ [D.int 9]))) p2 (.lst [])) p3 = some (.lst ((tstill t js).weights.map wgtD)) := by rw [updM_ne (Ne.symm e23), updM_ne nq3, updM_ne (Ne.symm e03)]; exact c3
      refine ⟨⟨_, view_cell c3'⟩, _, _, c3', List.getElem?_eq_getElem (by rw [List.length_map]; show t.weights.length - 1 < t.weights.length; rw [eg, List.length_cons]; omega), ?_⟩
      have h7 : ∀ a b c d, Pool (updM (updM (updM (updM μ6 p0 a) q0 b) p2 c) p3 d) p := fun a b c d => pool_upd (pool_upd (pool_upd (pool_upd h6 (offp o.n0)) (offp mq0)) (offp o.n2)) (offp o.n3)
      have h7 := h7 (.lst ((tstill t js).prices.map fr ++ [D.non])) (.lst (w.2.map D.int ++ [D.int 9])) (.lst []) (.lst ((tstill t js).weights.map wgtD).dropLast)
      generalize updM (updM (updM (updM μ6 p0 _) q0 _) p2 _) p3 _ = μ7 at h7 ⊢
      refine ⟨t, _, 0, rfl, htp, .inl ⟨rfl, hx.1, (fun z => by rw [hix] at z; cases z), fun ns' e hr p0 p1 p2 p3 qs μ8 o8 => ?_⟩⟩
      injection e with e
      obtain rfl := int_inj e
      refine ⟨μ7, (tstill t js).d, o8.w.sub, dv2 o8, ?_⟩
      simp! only [hv2, eq_dec_self]
      exact ⟨.inr hsw, .inr hsw, h7, _, _, _, _, rfl⟩
  · rintro δ μ5 ⟨h5, y7, y8, y9, y10, rfl⟩
    refine ⟨trivial, ?_⟩
    walk_at "r"
    refine ⟨p, t.prices.length, rfl, h5, by omega, fun js μ6 hj h6 o6 => ?_⟩
    have hjl := inR_len hj
    walk_at "r"
    refine ⟨t, _, rfl, htp, irO hi hn2, (fun z => by rw [in_items hi] at z; cases z), fun ns' e hr p0 p1 p2 p3 qs μ7 o7 => ?_⟩
    injection e with e
    obtain rfl := int_inj e
    refine ⟨μ6, (tstill t is).d, o7.w.sub, dv2 o7, ?_⟩
    walk_at "r"
    refine ⟨tstill t is, _, rfl, tstill_p htp hi.2, irO hj hn2, (fun z => by rw [show (tstill t is).prices = t.prices from rfl, in_items hj] at z; cases z), fun ns' e hr p0 p1 p2 p3 qs μ8 o8 => ?_⟩
    injection e with e
    obtain rfl := int_inj e
    refine ⟨μ6, (tstill (tstill t is) js).d, o8.w.sub, dv2 o8, ?_⟩
    simp! only [dSortSet]
    refine ⟨by rw [List.length_map, List.length_map]; omega, ?_⟩
    rw [← List.map_append]
    simp! only [kSortSet, intsOf_map, OptSo]
    refine ⟨by rw [List.length_append]; omega, fun out ho1 ho2 => ?_⟩
    have hin : ∀ i ∈ out, 0 ≤ i ∧ i < t.prices.length := fun i hi' => by
      rcases List.mem_append.mp ((ho2 i).mp hi') with z | z
      · exact hi.2 i z
      · exact hj.2 i z
    refine ⟨t, out, rfl, htp, hin, ?_⟩
    have same := still_two (t := t) (fun i z => (hi.2 i z).1) (fun i z => (hj.2 i z).1) (fun i z => (hin i z).1) ho2
    rw [same]
    have hv3 : ∀ μ : M, view μ (tstill t out).d = (tstill t out).d := fun _ => rfl
    have hsw := Sh.rOk (sh_still ht hin) (by decide) (by decide)
    simp! only [hv3, eqD_self]
    refine ⟨hsw.1, hsw.1, ?_⟩
    simp! only [p20]
    refine ⟨by decide, by decide, ⟨by decide, by decide, by decide⟩, by decide, p, _, rfl, h6, by decide, by decide, fun r μ9 a9 b9 h9 o9 => ?_⟩
    generalize hL : [D.non, D.bl true, D.bl false, D.str (Str.ofString "0"), D.int (-1), D.int t.prices.length, D.lst [D.int 0], D.tup [D.int 0], D.int 100000000000000000000] = L
    have hLl : L.length = 9 := by rw [← hL]; rfl
    have hLf : ∀ d ∈ L, plainD d = true ∧ itemsB (.lst [d]) t.prices.length = false := by
      rw [← hL]
      intro d hd
      simp only [List.mem_cons, List.not_mem_nil, or_false] at hd
      rcases hd with rfl | rfl | rfl | rfl | rfl | rfl | rfl | rfl | rfl <;> refine ⟨rfl, bad_one hn2 fun i z => ?_⟩ <;> first | (cases z; done) | (injection z with z; omega)
    clear hL
    obtain ⟨v, v1, v2⟩ := atI_lt (xs := L) a9 (by rw [hLl]; exact b9)
    obtain ⟨w1, w2⟩ := hLf v (List.mem_of_getElem? v2)
    simp! only [v1]
    refine ⟨t, v, 1, rfl, htp, .inr ⟨rfl, w1, w2, ?_⟩⟩
    simp! only [hv, eq_dec_self]
    exact ⟨item_ok.1, item_ok.1, .inr hsh, _, _, _, _, _, _, _, _, _, _, _, _, rfl⟩
end K55
set_option Elab.async false
set_option linter.all false
set_option maxRecDepth 100000
set_option maxHeartbeats 2000000
set_option pp.maxSteps 400
set_option pp.deepTerms false
namespace K55
open PySem PySem.Spec L2 DL Fr NB
def topS (i : Nat) : Stmt := PySem.Challenge.pw_nudgebest_k55_tasks_stilled.main.body.getD i (.Pass ⟨0, 0, 0, 0⟩)
structure Txt (K : PySem.W.Frag) (mg : Str → Option Value) (C_NoItem C_NudgeError C_NoNumber C_NoOrder C_NoTask C_NoWish : Addr) : Prop where
  b_len : mg "len" = none
  b_range : mg "range" = none
  b_tuple : mg "tuple" = none
  b_enumerate : mg "enumerate" = none
  b_list : mg "list" = none
  b_min : mg "min" = none
  b_int : mg "int" = none
  b_zip : mg "zip" = none
  b_abs : mg "abs" = none
  b_isinstance : mg "isinstance" = none
  b_bool : mg "bool" = none
  b_ValueError : mg "ValueError" = none
  b_max : mg "max" = none
  b_repr : mg "repr" = none
  b_sorted : mg "sorted" = none
  b_set : mg "set" = none
  e_NoItem : ExcT K mg "NoItem" C_NoItem
  g_NoItem : mg "NoItem" = some (.ref C_NoItem)
  g_NudgeError : mg "NudgeError" = some (.ref C_NudgeError)
  g_NoNumber : mg "NoNumber" = some (.ref C_NoNumber)
  g_NoOrder : mg "NoOrder" = some (.ref C_NoOrder)
  g_NoTask : mg "NoTask" = some (.ref C_NoTask)
  g_NoWish : mg "NoWish" = some (.ref C_NoWish)
  x_NoItem_NudgeError : PySem.W.exmOne K (.ref C_NoItem) (.ref C_NudgeError) = some true
  ek_NoItem : ExcK K C_NoItem
  ki_NoItem_NoItem : PySem.W.kitOne K (.ref C_NoItem) (.ref C_NoItem) = some true
  ki_NoItem_NoNumber : PySem.W.kitOne K (.ref C_NoItem) (.ref C_NoNumber) = some false
  ki_NoItem_NoOrder : PySem.W.kitOne K (.ref C_NoItem) (.ref C_NoOrder) = some false
  ki_NoItem_NoTask : PySem.W.kitOne K (.ref C_NoItem) (.ref C_NoTask) = some false
  ki_NoItem_NoWish : PySem.W.kitOne K (.ref C_NoItem) (.ref C_NoWish) = some false
  ki_NoItem_ValueError : PySem.W.kitOne K (.ref C_NoItem) (.type "ValueError") = some true
abbrev s_law_cell_at : Stmt := topS 69
theorem sc_law_cell_at : FnScope ["_law_script", "_law_k"] ["_law_script", "_law_k"] (defScope s_law_cell_at) := ⟨rfl, rfl, rfl, by decide +kernel, rfl, by decide +kernel, by decide +kernel⟩
theorem d_law_cell_at {P : Program} {w : World} {K : PySem.W.Frag} {mg : Str → Option Value} {base : Heap} {C_NoItem C_NudgeError C_NoNumber C_NoOrder C_NoTask C_NoWish : Addr} (T : Txt K mg C_NoItem C_NudgeError C_NoNumber C_NoOrder C_NoTask C_NoWish)  {f : Addr} (cdv : Value) (A : Around) (outer : List Env) (s : Shared) (H : Hp) (E : XK) (hr : Room 0 (A.deeper (PyProof.Rows.envOfC "_law_cell_at" (defScope s_law_cell_at) s.heap.objs.size f cdv))) :
    DSs (cxOf CX0 P w K mg base ["_law_script", "_law_k"] "_law_cell_at" (defScope s_law_cell_at) f cdv A outer s H E).nox W0 (defBody s_law_cell_at) t_law_cell_at :=
  (dss_cons (ds_if (dt_lt (de_var 1) (de_blt call_len l_len T.b_len (by decide +kernel) (da_cons (de_var 0) da_nil))) (dss_one (ds_ret (de_ix (de_var 0) (de_var 1)))) dss_nil)
    (dss_one (ds_ret de_int)))
abbrev s_law_pool : Stmt := topS 70
theorem sc_law_pool : FnScope ["_law_script", "_law_k", "_law_cell", "_law_seed"] ["_law_script", "_law_k"] (defScope s_law_pool) := ⟨rfl, rfl, rfl, by decide +kernel, rfl, by decide +kernel, by decide +kernel⟩
theorem d_law_pool {P : Program} {w : World} {K : PySem.W.Frag} {mg : Str → Option Value} {base : Heap} {C_NoItem C_NudgeError C_NoNumber C_NoOrder C_NoTask C_NoWish : Addr} (T : Txt K mg C_NoItem C_NudgeError C_NoNumber C_NoOrder C_NoTask C_NoWish) (F_law_cell_at : Dfn P w K mg base CX0 "_law_cell_at" "_law_cell_at" s_law_cell_at 1 ["_law_script", "_law_k"] c_cell_at) {f : Addr} (cdv : Value) (A : Around) (outer : List Env) (s : Shared) (H : Hp) (E : XK) (hr : Room 1 (A.deeper (PyProof.Rows.envOfC "_law_pool" (defScope s_law_pool) s.heap.objs.size f cdv))) :
    DSs (cxOf CX0 P w K mg base ["_law_script", "_law_k", "_law_cell", "_law_seed"] "_law_pool" (defScope s_law_pool) f cdv A outer s H E).nox W0 (defBody s_law_pool) t_law_pool :=
  (dss_cons (ds_set (i := 2) sc_law_pool.nd (de_call F_law_cell_at (hr.mono (by decide)) pw0 (da_cons (de_var 0) (da_cons (de_var 1) da_nil))))
    (dss_cons (ds_set (i := 3) sc_law_pool.nd (de_mod (de_mul (de_add (de_add (de_mod (de_var 2) de_int) (de_mul (de_mul de_int (de_var 1)) (de_var 1))) de_int) de_int) de_int))
    (dss_cons (ds_if (dt_lt (de_var 2) (de_pow de_int de_int)) (dss_one (ds_set (i := 2) sc_law_pool.nd de_int)) dss_nil)
    (dss_one (ds_ret (de_lstC (da_cons (de_var 2) (da_cons (de_mod (de_mul (de_var 3) (de_var 3)) de_int) da_nil))))))))
abbrev s_law_take : Stmt := topS 66
theorem sc_law_take : FnScope ["_law_pool_here", "_law_many", "_law_found"] ["_law_pool_here", "_law_many"] (defScope s_law_take) := ⟨rfl, rfl, rfl, by decide +kernel, rfl, by decide +kernel, by decide +kernel⟩
theorem d_law_take {P : Program} {w : World} {K : PySem.W.Frag} {mg : Str → Option Value} {base : Heap} {C_NoItem C_NudgeError C_NoNumber C_NoOrder C_NoTask C_NoWish : Addr} (T : Txt K mg C_NoItem C_NudgeError C_NoNumber C_NoOrder C_NoTask C_NoWish)  {f : Addr} (cdv : Value) (A : Around) (outer : List Env) (s : Shared) (H : Hp) (E : XK) (hr : Room 0 (A.deeper (PyProof.Rows.envOfC "_law_take" (defScope s_law_take) s.heap.objs.size f cdv))) :
    DSs (cxOf CX0 P w K mg base ["_law_pool_here", "_law_many", "_law_found"] "_law_take" (defScope s_law_take) f cdv A outer s H E).nox W0 (defBody s_law_take) t_law_take :=
  (dss_cons (ds_if (dt_gt (de_ix (de_var 0) de_int) de_int) (dss_cons (ds_set (i := 2) sc_law_take.nd (de_mod (de_ix (de_var 0) de_int) (de_var 1)))
    (dss_cons (ds_setix (de_fdiv (de_ix (de_var 0) de_int) (de_var 1)) (de_var 0) de_int)
    (dss_one (ds_ret (de_var 2))))) dss_nil)
    (dss_cons (ds_setix (de_mod (de_add (de_mul (de_ix (de_var 0) de_int) de_int) de_int) de_int) (de_var 0) de_int)
    (dss_one (ds_ret (de_mod (de_fdiv (de_mod (de_mul (de_ix (de_var 0) de_int) (de_ix (de_var 0) de_int)) de_int) de_int) (de_var 1))))))
abbrev s_law_shuffled : Stmt := topS 71
theorem sc_law_shuffled : FnScope ["_law_pool_here", "_law_some", "_law_found", "_law_one"] ["_law_pool_here", "_law_some"] (defScope s_law_shuffled) := ⟨rfl, rfl, rfl, by decide +kernel, rfl, by decide +kernel, by decide +kernel⟩
theorem d_law_shuffled {P : Program} {w : World} {K : PySem.W.Frag} {mg : Str → Option Value} {base : Heap} {C_NoItem C_NudgeError C_NoNumber C_NoOrder C_NoTask C_NoWish : Addr} (T : Txt K mg C_NoItem C_NudgeError C_NoNumber C_NoOrder C_NoTask C_NoWish) (F_law_take : Dfn P w K mg base CX0 "_law_take" "_law_take" s_law_take 1 ["_law_pool_here", "_law_many"] c_take) {f : Addr} (cdv : Value) (A : Around) (outer : List Env) (s : Shared) (H : Hp) (E : XK) (hr : Room 1 (A.deeper (PyProof.Rows.envOfC "_law_shuffled" (defScope s_law_shuffled) s.heap.objs.size f cdv))) :
    DSs (cxOf CX0 P w K mg base ["_law_pool_here", "_law_some", "_law_found", "_law_one"] "_law_shuffled" (defScope s_law_shuffled) f cdv A outer s H E).nox W0 (defBody s_law_shuffled) t_law_shuffled :=
  (dss_cons (ds_set (i := 2) sc_law_shuffled.nd (de_lstC da_nil))
    (dss_cons (ds_for PassesOwn.never (di_seq (de_var 1)) (pg_name (i := 3) sc_law_shuffled.nd rfl (by first | exact Or.inl rfl | exact Or.inr rfl)) lg_name (dss_one (ds_expr (de_m PySem.F.slot_list_insert PySem.F.type_list_insert mt_insert l_insert (de_var 2) (da_cons (de_call F_law_take (hr.mono (by decide)) pw0 (da_cons (de_var 0) (da_cons (de_add (de_blt call_len l_len T.b_len (by decide +kernel) (da_cons (de_var 2) da_nil)) de_int) da_nil))) (da_cons (de_var 3) da_nil))))))
    (dss_one (ds_ret (de_fz (de_var 2))))))
abbrev s_law_more_ties : Stmt := topS 72
theorem sc_law_more_ties : FnScope ["_law_pool_here", "_law_ties", "_law_many", "_law_most", "_law_found", "_law_turn", "_law_one", "_law_other", "_law_tie"] ["_law_pool_here", "_law_ties", "_law_many", "_law_most"] (defScope s_law_more_ties) := ⟨rfl, rfl, rfl, by decide +kernel, rfl, by decide +kernel, by decide +kernel⟩
theorem d_law_more_ties {P : Program} {w : World} {K : PySem.W.Frag} {mg : Str → Option Value} {base : Heap} {C_NoItem C_NudgeError C_NoNumber C_NoOrder C_NoTask C_NoWish : Addr} (T : Txt K mg C_NoItem C_NudgeError C_NoNumber C_NoOrder C_NoTask C_NoWish) (F_law_take : Dfn P w K mg base CX0 "_law_take" "_law_take" s_law_take 1 ["_law_pool_here", "_law_many"] c_take) (F_law_shuffled : Dfn P w K mg base CX0 "_law_shuffled" "_law_shuffled" s_law_shuffled 2 ["_law_pool_here", "_law_some"] c_shuffled) {f : Addr} (cdv : Value) (A : Around) (outer : List Env) (s : Shared) (H : Hp) (E : XK) (hr : Room 2 (A.deeper (PyProof.Rows.envOfC "_law_more_ties" (defScope s_law_more_ties) s.heap.objs.size f cdv))) :
    DSs (cxOf CX0 P w K mg base ["_law_pool_here", "_law_ties", "_law_many", "_law_most", "_law_found", "_law_turn", "_law_one", "_law_other", "_law_tie"] "_law_more_ties" (defScope s_law_more_ties) f cdv A outer s H E).nox W0 (defBody s_law_more_ties) t_law_more_ties :=
  (dss_cons (ds_setLcC (i := 4) (own := [("_law_tie", 8)]) sc_law_more_ties.nd (di_seq (de_var 1)) (blkOk_by (N := ["_law_pool_here", "_law_ties", "_law_many", "_law_most", "_law_found", "_law_turn", "_law_one", "_law_other", "_law_tie"]) (sc := defScope s_law_more_ties) (by decide +kernel)) lg_name (si_name (by decide)) (fun _ _ _ _ _ => (pg_name (i := 8) sc_law_more_ties.nd rfl (by first | exact Or.inl rfl | exact Or.inr rfl))) (fun _ _ _ _ _ => dts_nil) (fun _ _ _ _ _ => (de_tup (da_cons (de_var 8) (da_cons de_int da_nil)))) (sw_true rfl rfl rfl (by decide +kernel)))
    (dss_cons (ds_for PassesOwn.never (di_range1 T.b_range (da_cons (de_call F_law_take (hr.mono (by decide)) pw0 (da_cons (de_var 0) (da_cons (de_add (de_var 3) de_int) da_nil))) da_nil)) (pg_name (i := 5) sc_law_more_ties.nd rfl (by first | exact Or.inl rfl | exact Or.inr rfl)) lg_name (dss_cons (ds_set (i := 6) sc_law_more_ties.nd (de_call F_law_take (hr.mono (by decide)) pw0 (da_cons (de_var 0) (da_cons (de_var 2) da_nil))))
    (dss_cons (ds_set (i := 7) sc_law_more_ties.nd (de_mod (de_add (de_add (de_var 6) de_int) (de_call F_law_take (hr.mono (by decide)) pw0 (da_cons (de_var 0) (da_cons (de_sub (de_var 2) de_int) da_nil)))) (de_var 2)))
    (dss_one (ds_expr (de_m PySem.F.slot_list_append PySem.F.type_list_append mt_append l_append (de_var 4) (da_cons (de_tup (da_cons (de_tup (da_cons (de_var 6) (da_cons (de_var 7) da_nil))) (da_cons de_int da_nil))) da_nil)))))))
    (dss_one (ds_ret (de_call F_law_shuffled (hr.mono (by decide)) pw0 (da_cons (de_var 0) (da_cons (de_fz (de_var 4)) da_nil)))))))
abbrev s_law_spanning : Stmt := topS 73
theorem sc_law_spanning : FnScope ["_law_pool_here", "_law_many", "_law_ties", "_law_place", "_law_other"] ["_law_pool_here", "_law_many"] (defScope s_law_spanning) := ⟨rfl, rfl, rfl, by decide +kernel, rfl, by decide +kernel, by decide +kernel⟩
theorem d_law_spanning {P : Program} {w : World} {K : PySem.W.Frag} {mg : Str → Option Value} {base : Heap} {C_NoItem C_NudgeError C_NoNumber C_NoOrder C_NoTask C_NoWish : Addr} (T : Txt K mg C_NoItem C_NudgeError C_NoNumber C_NoOrder C_NoTask C_NoWish) (F_law_take : Dfn P w K mg base CX0 "_law_take" "_law_take" s_law_take 1 ["_law_pool_here", "_law_many"] c_take) {f : Addr} (cdv : Value) (A : Around) (outer : List Env) (s : Shared) (H : Hp) (E : XK) (hr : Room 1 (A.deeper (PyProof.Rows.envOfC "_law_spanning" (defScope s_law_spanning) s.heap.objs.size f cdv))) :
    DSs (cxOf CX0 P w K mg base ["_law_pool_here", "_law_many", "_law_ties", "_law_place", "_law_other"] "_law_spanning" (defScope s_law_spanning) f cdv A outer s H E).nox W0 (defBody s_law_spanning) t_law_spanning :=
  (dss_cons (ds_set (i := 2) sc_law_spanning.nd (de_lstC da_nil))
    (dss_cons (ds_for PassesOwn.never (di_range2 T.b_range (da_cons de_int (da_cons (de_var 1) da_nil))) (pg_name (i := 3) sc_law_spanning.nd rfl (by first | exact Or.inl rfl | exact Or.inr rfl)) lg_name (dss_cons (ds_set (i := 4) sc_law_spanning.nd (de_call F_law_take (hr.mono (by decide)) pw0 (da_cons (de_var 0) (da_cons (de_var 3) da_nil))))
    (dss_one (ds_expr (de_m PySem.F.slot_list_append PySem.F.type_list_append mt_append l_append (de_var 2) (da_cons (de_ix (de_lst (da_cons (de_tup (da_cons (de_var 3) (da_cons (de_var 4) da_nil))) (da_cons (de_tup (da_cons (de_var 4) (da_cons (de_var 3) da_nil))) da_nil))) (de_call F_law_take (hr.mono (by decide)) pw0 (da_cons (de_var 0) (da_cons de_int da_nil)))) da_nil))))))
    (dss_one (ds_ret (de_fz (de_var 2))))))
abbrev s_law_web_wish : Stmt := topS 74
theorem sc_law_web_wish : FnScope ["_law_pool_here", "_law_way", "_law_many", "_law_found", "_law_ties", "_law_plan", "_law_begin", "_law_end", "_law_row", "_law_here", "_law_counts", "_law_item", "_law_tie", "_law_told_here"] ["_law_pool_here", "_law_way"] (defScope s_law_web_wish) := ⟨rfl, rfl, rfl, by decide +kernel, rfl, by decide +kernel, by decide +kernel⟩
theorem d_law_web_wish {P : Program} {w : World} {K : PySem.W.Frag} {mg : Str → Option Value} {base : Heap} {C_NoItem C_NudgeError C_NoNumber C_NoOrder C_NoTask C_NoWish : Addr} (T : Txt K mg C_NoItem C_NudgeError C_NoNumber C_NoOrder C_NoTask C_NoWish) (F_law_take : Dfn P w K mg base CX0 "_law_take" "_law_take" s_law_take 1 ["_law_pool_here", "_law_many"] c_take) (F_law_more_ties : Dfn P w K mg base CX0 "_law_more_ties" "_law_more_ties" s_law_more_ties 3 ["_law_pool_here", "_law_ties", "_law_many", "_law_most"] c_more_ties) (F_law_spanning : Dfn P w K mg base CX0 "_law_spanning" "_law_spanning" s_law_spanning 2 ["_law_pool_here", "_law_many"] c_spanning) {f : Addr} (cdv : Value) (A : Around) (outer : List Env) (s : Shared) (H : Hp) (E : XK) (hr : Room 3 (A.deeper (PyProof.Rows.envOfC "_law_web_wish" (defScope s_law_web_wish) s.heap.objs.size f cdv))) :
    DSs (cxOf CX0 P w K mg base ["_law_pool_here", "_law_way", "_law_many", "_law_found", "_law_ties", "_law_plan", "_law_begin", "_law_end", "_law_row", "_law_here", "_law_counts", "_law_item", "_law_tie", "_law_told_here"] "_law_web_wish" (defScope s_law_web_wish) f cdv A outer s H E).nox W0 (defBody s_law_web_wish) t_law_web_wish :=
  (dss_cons (ds_set (i := 2) sc_law_web_wish.nd (de_add de_int (de_call F_law_take (hr.mono (by decide)) pw0 (da_cons (de_var 0) (da_cons de_int da_nil)))))
    (dss_cons (ds_set (i := 3) sc_law_web_wish.nd (de_call F_law_more_ties (hr.mono (by decide)) pw0 (da_cons (de_var 0) (da_cons (de_call F_law_spanning (hr.mono (by decide)) pw0 (da_cons (de_var 0) (da_cons (de_var 2) da_nil))) (da_cons (de_var 2) (da_cons de_int da_nil))))))
    (dss_cons (ds_set (i := 4) sc_law_web_wish.nd (de_blty call_tuple_of l_tuple T.b_tuple (by decide +kernel) (da_cons (de_lc (own := [("_law_tie", 12), ("_law_told_here", 13)]) sc_law_web_wish.nd (di_seq (de_var 3)) (blkOk_by (N := ["_law_pool_here", "_law_way", "_law_many", "_law_found", "_law_ties", "_law_plan", "_law_begin", "_law_end", "_law_row", "_law_here", "_law_counts", "_law_item", "_law_tie", "_law_told_here"]) (sc := defScope s_law_web_wish) (by decide +kernel)) (lg_tup (lg_cons lg_name (lg_cons lg_name lg_nil)) (ln_cons (ln_cons ln_nil))) (si_tup (si_cons (si_name (by decide)) (si_cons (si_name (by decide)) si_nil))) (fun _ _ _ _ _ => (pg_tup rfl (pgs_cons (pg_name (i := 12) sc_law_web_wish.nd rfl (by first | exact Or.inl rfl | exact Or.inr rfl)) (pgs_cons (pg_name (i := 13) sc_law_web_wish.nd rfl (by first | exact Or.inl rfl | exact Or.inr rfl)) pgs_nil)))) (fun _ _ _ _ _ => dts_nil) (fun _ _ _ _ _ => (de_var 12))) da_nil)))
    (dss_cons (ds_setLc (i := 5) (own := [("_law_tie", 12), ("_law_told_here", 13)]) sc_law_web_wish.nd (di_seq (de_var 3)) (blkOk_by (N := ["_law_pool_here", "_law_way", "_law_many", "_law_found", "_law_ties", "_law_plan", "_law_begin", "_law_end", "_law_row", "_law_here", "_law_counts", "_law_item", "_law_tie", "_law_told_here"]) (sc := defScope s_law_web_wish) (by decide +kernel)) (lg_tup (lg_cons lg_name (lg_cons lg_name lg_nil)) (ln_cons (ln_cons ln_nil))) (si_tup (si_cons (si_name (by decide)) (si_cons (si_name (by decide)) si_nil))) (fun _ _ _ _ _ => (pg_tup rfl (pgs_cons (pg_name (i := 12) sc_law_web_wish.nd rfl (by first | exact Or.inl rfl | exact Or.inr rfl)) (pgs_cons (pg_name (i := 13) sc_law_web_wish.nd rfl (by first | exact Or.inl rfl | exact Or.inr rfl)) pgs_nil)))) (fun _ _ _ _ _ => dts_nil) (fun _ _ _ _ _ => (de_var 13)) (sw_true rfl rfl rfl (by decide +kernel)))
    (dss_cons (ds_if (dt_eq hr (de_var 1) de_int) (dss_one (ds_ret (de_tup (da_cons (de_tup (da_cons de_str (da_cons (de_var 2) (da_cons (de_var 4) da_nil)))) (da_cons (de_var 5) da_nil))))) dss_nil)
    (dss_cons (ds_set (i := 6) sc_law_web_wish.nd (de_call F_law_take (hr.mono (by decide)) pw0 (da_cons (de_var 0) (da_cons (de_var 2) da_nil))))
    (dss_cons (ds_set (i := 7) sc_law_web_wish.nd (de_mod (de_add (de_add (de_var 6) de_int) (de_call F_law_take (hr.mono (by decide)) pw0 (da_cons (de_var 0) (da_cons (de_sub (de_var 2) de_int) da_nil)))) (de_var 2)))
    (dss_cons (ds_set (i := 8) sc_law_web_wish.nd (de_lstC (da_cons (de_tup (da_cons (de_var 6) (da_cons (de_mul (de_lst (da_cons de_int da_nil)) (de_blt call_len l_len T.b_len (by decide +kernel) (da_cons (de_var 4) da_nil))) da_nil))) da_nil)))
    (dss_cons (ds_while PassesOwn.never (dt_ne hr (de_ix (de_ix (de_var 8) de_int) de_int) (de_var 7)) (dss_cons (ds_asg (de_m PySem.F.slot_list_pop PySem.F.type_list_pop mt_popAt l_pop1 (de_var 8) (da_cons de_int da_nil)) (pg_tup rfl (pgs_cons (pg_name (i := 9) sc_law_web_wish.nd rfl (by first | exact Or.inl rfl | exact Or.inr rfl)) (pgs_cons (pg_name (i := 10) sc_law_web_wish.nd rfl (by first | exact Or.inl rfl | exact Or.inr rfl)) pgs_nil))) (lg_tup (lg_cons lg_name (lg_cons lg_name lg_nil)) (ln_cons (ln_cons ln_nil))))
    (dss_one (ds_for PassesOwn.never (di_enum T.b_enumerate (da_cons (de_var 4) da_nil)) (pg_tup rfl (pgs_cons (pg_name (i := 11) sc_law_web_wish.nd rfl (by first | exact Or.inl rfl | exact Or.inr rfl)) (pgs_cons (pg_name (i := 12) sc_law_web_wish.nd rfl (by first | exact Or.inl rfl | exact Or.inr rfl)) pgs_nil))) (lg_tup (lg_cons lg_name (lg_cons lg_name lg_nil)) (ln_cons (ln_cons ln_nil))) (dss_one (ds_if (DW.dt (dw_and (dt_eq hr (de_ix (de_var 5) (de_var 11)) de_int) (dw_and (dt_in (de_var 9) (de_var 12)) (dw_and1 (dt_eq hr (de_ix (de_var 10) (de_var 11)) de_int))))) (dss_one (ds_expr (de_m PySem.F.slot_list_append PySem.F.type_list_append mt_append l_append (de_var 8) (da_cons (de_tup (da_cons (de_sub (de_add (de_ix (de_var 12) de_int) (de_ix (de_var 12) de_int)) (de_var 9)) (da_cons (de_add (de_add (de_sl (de_var 10) do_none (do_some (de_var 11))) (de_lst (da_cons de_int da_nil))) (de_sl (de_var 10) (do_some (de_add (de_var 11) de_int)) do_none)) da_nil))) da_nil)))) dss_nil))))))
    (dss_one (ds_ret (de_tup (da_cons (de_tup (da_cons de_str (da_cons (de_var 2) (da_cons (de_var 4) (da_cons (de_var 6) (da_cons (de_var 7) da_nil)))))) (da_cons (de_ix (de_ix (de_var 8) de_int) de_int) da_nil))))))))))))))
abbrev s_law_pair_wish : Stmt := topS 75
theorem sc_law_pair_wish : FnScope ["_law_pool_here", "_law_many", "_law_rights", "_law_found", "_law_turn", "_law_left", "_law_tie", "_law_told_here"] ["_law_pool_here"] (defScope s_law_pair_wish) := ⟨rfl, rfl, rfl, by decide +kernel, rfl, by decide +kernel, by decide +kernel⟩
theorem d_law_pair_wish {P : Program} {w : World} {K : PySem.W.Frag} {mg : Str → Option Value} {base : Heap} {C_NoItem C_NudgeError C_NoNumber C_NoOrder C_NoTask C_NoWish : Addr} (T : Txt K mg C_NoItem C_NudgeError C_NoNumber C_NoOrder C_NoTask C_NoWish) (F_law_take : Dfn P w K mg base CX0 "_law_take" "_law_take" s_law_take 1 ["_law_pool_here", "_law_many"] c_take) (F_law_shuffled : Dfn P w K mg base CX0 "_law_shuffled" "_law_shuffled" s_law_shuffled 2 ["_law_pool_here", "_law_some"] c_shuffled) {f : Addr} (cdv : Value) (A : Around) (outer : List Env) (s : Shared) (H : Hp) (E : XK) (hr : Room 2 (A.deeper (PyProof.Rows.envOfC "_law_pair_wish" (defScope s_law_pair_wish) s.heap.objs.size f cdv))) :
    DSs (cxOf CX0 P w K mg base ["_law_pool_here", "_law_many", "_law_rights", "_law_found", "_law_turn", "_law_left", "_law_tie", "_law_told_here"] "_law_pair_wish" (defScope s_law_pair_wish) f cdv A outer s H E).nox W0 (defBody s_law_pair_wish) t_law_pair_wish :=
  (dss_cons (ds_set (i := 1) sc_law_pair_wish.nd (de_add de_int (de_call F_law_take (hr.mono (by decide)) pw0 (da_cons (de_var 0) (da_cons de_int da_nil)))))
    (dss_cons (ds_set (i := 2) sc_law_pair_wish.nd (de_call F_law_shuffled (hr.mono (by decide)) pw0 (da_cons (de_var 0) (da_cons (de_lr1 ln_lst T.b_list T.b_range (de_var 1)) da_nil))))
    (dss_cons (ds_setLcC (i := 3) (own := [("_law_left", 5)]) sc_law_pair_wish.nd (di_range1 T.b_range (da_cons (de_var 1) da_nil)) (blkOk_by (N := ["_law_pool_here", "_law_many", "_law_rights", "_law_found", "_law_turn", "_law_left", "_law_tie", "_law_told_here"]) (sc := defScope s_law_pair_wish) (by decide +kernel)) lg_name (si_name (by decide)) (fun _ _ _ _ _ => (pg_name (i := 5) sc_law_pair_wish.nd rfl (by first | exact Or.inl rfl | exact Or.inr rfl))) (fun _ _ _ _ _ => dts_nil) (fun _ _ _ _ _ => (de_tup (da_cons (de_tup (da_cons (de_var 5) (da_cons (de_ix (de_var 2) (de_var 5)) da_nil))) (da_cons de_int da_nil)))) (sw_true rfl rfl rfl (by decide +kernel)))
    (dss_cons (ds_for PassesOwn.never (di_range1 T.b_range (da_cons (de_call F_law_take (hr.mono (by decide)) pw0 (da_cons (de_var 0) (da_cons de_int da_nil))) da_nil)) (pg_name (i := 4) sc_law_pair_wish.nd rfl (by first | exact Or.inl rfl | exact Or.inr rfl)) lg_name (dss_one (ds_expr (de_m PySem.F.slot_list_append PySem.F.type_list_append mt_append l_append (de_var 3) (da_cons (de_tup (da_cons (de_tup (da_cons (de_call F_law_take (hr.mono (by decide)) pw0 (da_cons (de_var 0) (da_cons (de_var 1) da_nil))) (da_cons (de_call F_law_take (hr.mono (by decide)) pw0 (da_cons (de_var 0) (da_cons (de_var 1) da_nil))) da_nil))) (da_cons de_int da_nil))) da_nil)))))
    (dss_cons (ds_set (i := 3) sc_law_pair_wish.nd (de_call F_law_shuffled (hr.mono (by decide)) pw0 (da_cons (de_var 0) (da_cons (de_fz (de_var 3)) da_nil))))
    (dss_one (ds_ret (de_tup (da_cons (de_tup (da_cons de_str (da_cons (de_var 1) (da_cons (de_blty call_tuple_of l_tuple T.b_tuple (by decide +kernel) (da_cons (de_lc (own := [("_law_tie", 6), ("_law_told_here", 7)]) sc_law_pair_wish.nd (di_seq (de_var 3)) (blkOk_by (N := ["_law_pool_here", "_law_many", "_law_rights", "_law_found", "_law_turn", "_law_left", "_law_tie", "_law_told_here"]) (sc := defScope s_law_pair_wish) (by decide +kernel)) (lg_tup (lg_cons lg_name (lg_cons lg_name lg_nil)) (ln_cons (ln_cons ln_nil))) (si_tup (si_cons (si_name (by decide)) (si_cons (si_name (by decide)) si_nil))) (fun _ _ _ _ _ => (pg_tup rfl (pgs_cons (pg_name (i := 6) sc_law_pair_wish.nd rfl (by first | exact Or.inl rfl | exact Or.inr rfl)) (pgs_cons (pg_name (i := 7) sc_law_pair_wish.nd rfl (by first | exact Or.inl rfl | exact Or.inr rfl)) pgs_nil)))) (fun _ _ _ _ _ => dts_nil) (fun _ _ _ _ _ => (de_var 6))) da_nil)) da_nil)))) (da_cons (de_lc (own := [("_law_tie", 6), ("_law_told_here", 7)]) sc_law_pair_wish.nd (di_seq (de_var 3)) (blkOk_by (N := ["_law_pool_here", "_law_many", "_law_rights", "_law_found", "_law_turn", "_law_left", "_law_tie", "_law_told_here"]) (sc := defScope s_law_pair_wish) (by decide +kernel)) (lg_tup (lg_cons lg_name (lg_cons lg_name lg_nil)) (ln_cons (ln_cons ln_nil))) (si_tup (si_cons (si_name (by decide)) (si_cons (si_name (by decide)) si_nil))) (fun _ _ _ _ _ => (pg_tup rfl (pgs_cons (pg_name (i := 6) sc_law_pair_wish.nd rfl (by first | exact Or.inl rfl | exact Or.inr rfl)) (pgs_cons (pg_name (i := 7) sc_law_pair_wish.nd rfl (by first | exact Or.inl rfl | exact Or.inr rfl)) pgs_nil)))) (fun _ _ _ _ _ => dts_nil) (fun _ _ _ _ _ => (de_var 7))) da_nil))))))))))
abbrev s_law_deal_wish : Stmt := topS 76
theorem sc_law_deal_wish : FnScope ["_law_pool_here", "_law_hands", "_law_works", "_law_dealt", "_law_rooms", "_law_plan", "_law_hand", "_law_work", "_law_one"] ["_law_pool_here"] (defScope s_law_deal_wish) := ⟨rfl, rfl, rfl, by decide +kernel, rfl, by decide +kernel, by decide +kernel⟩
theorem d_law_deal_wish {P : Program} {w : World} {K : PySem.W.Frag} {mg : Str → Option Value} {base : Heap} {C_NoItem C_NudgeError C_NoNumber C_NoOrder C_NoTask C_NoWish : Addr} (T : Txt K mg C_NoItem C_NudgeError C_NoNumber C_NoOrder C_NoTask C_NoWish) (F_law_take : Dfn P w K mg base CX0 "_law_take" "_law_take" s_law_take 1 ["_law_pool_here", "_law_many"] c_take) {f : Addr} (cdv : Value) (A : Around) (outer : List Env) (s : Shared) (H : Hp) (E : XK) (hr : Room 1 (A.deeper (PyProof.Rows.envOfC "_law_deal_wish" (defScope s_law_deal_wish) s.heap.objs.size f cdv))) :
    DSs (cxOf CX0 P w K mg base ["_law_pool_here", "_law_hands", "_law_works", "_law_dealt", "_law_rooms", "_law_plan", "_law_hand", "_law_work", "_law_one"] "_law_deal_wish" (defScope s_law_deal_wish) f cdv A outer s H E).nox W0 (defBody s_law_deal_wish) t_law_deal_wish :=
  (dss_cons (ds_set (i := 1) sc_law_deal_wish.nd (de_add de_int (de_call F_law_take (hr.mono (by decide)) pw0 (da_cons (de_var 0) (da_cons de_int da_nil)))))
    (dss_cons (ds_set (i := 2) sc_law_deal_wish.nd (de_add de_int (de_call F_law_take (hr.mono (by decide)) pw0 (da_cons (de_var 0) (da_cons (de_ix (de_lst (da_cons de_int (da_cons de_int (da_cons de_int da_nil)))) (de_sub (de_var 1) de_int)) da_nil)))))
    (dss_cons (ds_set (i := 3) sc_law_deal_wish.nd (de_lc (own := [("_law_work", 7)]) sc_law_deal_wish.nd (di_range1 T.b_range (da_cons (de_var 2) da_nil)) (blkOk_by (N := ["_law_pool_here", "_law_hands", "_law_works", "_law_dealt", "_law_rooms", "_law_plan", "_law_hand", "_law_work", "_law_one"]) (sc := defScope s_law_deal_wish) (by decide +kernel)) lg_name (si_name (by decide)) (fun _ _ _ _ _ => (pg_name (i := 7) sc_law_deal_wish.nd rfl (by first | exact Or.inl rfl | exact Or.inr rfl))) (fun _ _ _ _ _ => dts_nil) (fun _ _ _ _ _ => (de_call F_law_take (hr.mono (by decide)) pw0 (da_cons (de_var 0) (da_cons (de_var 1) da_nil))))))
    (dss_cons (ds_set (i := 4) sc_law_deal_wish.nd (de_blty call_tuple_of l_tuple T.b_tuple (by decide +kernel) (da_cons (de_lc (own := [("_law_hand", 6)]) sc_law_deal_wish.nd (di_range1 T.b_range (da_cons (de_var 1) da_nil)) (blkOk_by (N := ["_law_pool_here", "_law_hands", "_law_works", "_law_dealt", "_law_rooms", "_law_plan", "_law_hand", "_law_work", "_law_one"]) (sc := defScope s_law_deal_wish) (by decide +kernel)) lg_name (si_name (by decide)) (fun _ _ _ _ _ => (pg_name (i := 6) sc_law_deal_wish.nd rfl (by first | exact Or.inl rfl | exact Or.inr rfl))) (fun _ _ _ _ _ => dts_nil) (fun _ _ _ _ _ => (de_blt (call_min2 rfl) l_min2 T.b_min (by decide +kernel) (da_cons de_int (da_cons (de_add (de_m PySem.F.slot_list_count PySem.F.type_list_count mt_lcount l_count (de_var 3) (da_cons (de_var 6) da_nil)) (de_call F_law_take (hr.mono (by decide)) pw0 (da_cons (de_var 0) (da_cons de_int da_nil)))) da_nil))))) da_nil)))
    (dss_cons (ds_set (i := 5) sc_law_deal_wish.nd (de_lst da_nil))
    (dss_cons (ds_for PassesOwn.never (di_range1 T.b_range (da_cons (de_var 1) da_nil)) (pg_name (i := 6) sc_law_deal_wish.nd rfl (by first | exact Or.inl rfl | exact Or.inr rfl)) lg_name (dss_one (ds_set (i := 5) sc_law_deal_wish.nd (de_add (de_var 5) (de_lc (own := [("_law_one", 8)]) sc_law_deal_wish.nd (di_seq (de_var 3)) (blkOk_by (N := ["_law_pool_here", "_law_hands", "_law_works", "_law_dealt", "_law_rooms", "_law_plan", "_law_hand", "_law_work", "_law_one"]) (sc := defScope s_law_deal_wish) (by decide +kernel)) lg_name (si_name (by decide)) (fun _ _ _ _ _ => (pg_name (i := 8) sc_law_deal_wish.nd rfl (by first | exact Or.inl rfl | exact Or.inr rfl))) (fun _ _ _ _ _ => dts_nil) (fun _ _ _ _ _ => (de_blty call_int1 l_int T.b_int (by decide +kernel) (da_cons (de_eq hr (de_var 8) (de_var 6)) da_nil))))))))
    (dss_one (ds_ret (de_tup (da_cons (de_tup (da_cons de_str (da_cons (de_var 4) (da_cons (de_var 2) da_nil)))) (da_cons (de_var 5) da_nil)))))))))))
abbrev s_law_stream_wish : Stmt := topS 77
theorem sc_law_stream_wish : FnScope ["_law_pool_here", "_law_many", "_law_found", "_law_ties", "_law_rooms", "_law_plan", "_law_needs", "_law_tie", "_law_count", "_law_told_here", "_law_room"] ["_law_pool_here"] (defScope s_law_stream_wish) := ⟨rfl, rfl, rfl, by decide +kernel, rfl, by decide +kernel, by decide +kernel⟩
theorem d_law_stream_wish {P : Program} {w : World} {K : PySem.W.Frag} {mg : Str → Option Value} {base : Heap} {C_NoItem C_NudgeError C_NoNumber C_NoOrder C_NoTask C_NoWish : Addr} (T : Txt K mg C_NoItem C_NudgeError C_NoNumber C_NoOrder C_NoTask C_NoWish) (F_law_take : Dfn P w K mg base CX0 "_law_take" "_law_take" s_law_take 1 ["_law_pool_here", "_law_many"] c_take) (F_law_more_ties : Dfn P w K mg base CX0 "_law_more_ties" "_law_more_ties" s_law_more_ties 3 ["_law_pool_here", "_law_ties", "_law_many", "_law_most"] c_more_ties) (F_law_spanning : Dfn P w K mg base CX0 "_law_spanning" "_law_spanning" s_law_spanning 2 ["_law_pool_here", "_law_many"] c_spanning) {f : Addr} (cdv : Value) (A : Around) (outer : List Env) (s : Shared) (H : Hp) (E : XK) (hr : Room 3 (A.deeper (PyProof.Rows.envOfC "_law_stream_wish" (defScope s_law_stream_wish) s.heap.objs.size f cdv))) :
    DSs (cxOf CX0 P w K mg base ["_law_pool_here", "_law_many", "_law_found", "_law_ties", "_law_rooms", "_law_plan", "_law_needs", "_law_tie", "_law_count", "_law_told_here", "_law_room"] "_law_stream_wish" (defScope s_law_stream_wish) f cdv A outer s H E).nox W0 (defBody s_law_stream_wish) t_law_stream_wish :=
  (dss_cons (ds_set (i := 1) sc_law_stream_wish.nd (de_add de_int (de_call F_law_take (hr.mono (by decide)) pw0 (da_cons (de_var 0) (da_cons de_int da_nil)))))
    (dss_cons (ds_set (i := 2) sc_law_stream_wish.nd (de_call F_law_more_ties (hr.mono (by decide)) pw0 (da_cons (de_var 0) (da_cons (de_sl (de_call F_law_spanning (hr.mono (by decide)) pw0 (da_cons (de_var 0) (da_cons (de_var 1) da_nil))) do_none (do_some de_int)) (da_cons (de_var 1) (da_cons de_int da_nil))))))
    (dss_cons (ds_set (i := 3) sc_law_stream_wish.nd (de_blty call_tuple_of l_tuple T.b_tuple (by decide +kernel) (da_cons (de_lc (own := [("_law_tie", 7), ("_law_told_here", 9)]) sc_law_stream_wish.nd (di_seq (de_var 2)) (blkOk_by (N := ["_law_pool_here", "_law_many", "_law_found", "_law_ties", "_law_rooms", "_law_plan", "_law_needs", "_law_tie", "_law_count", "_law_told_here", "_law_room"]) (sc := defScope s_law_stream_wish) (by decide +kernel)) (lg_tup (lg_cons lg_name (lg_cons lg_name lg_nil)) (ln_cons (ln_cons ln_nil))) (si_tup (si_cons (si_name (by decide)) (si_cons (si_name (by decide)) si_nil))) (fun _ _ _ _ _ => (pg_tup rfl (pgs_cons (pg_name (i := 7) sc_law_stream_wish.nd rfl (by first | exact Or.inl rfl | exact Or.inr rfl)) (pgs_cons (pg_name (i := 9) sc_law_stream_wish.nd rfl (by first | exact Or.inl rfl | exact Or.inr rfl)) pgs_nil)))) (fun _ _ _ _ _ => dts_nil) (fun _ _ _ _ _ => (de_var 7))) da_nil)))
    (dss_cons (ds_set (i := 4) sc_law_stream_wish.nd (de_blty call_tuple_of l_tuple T.b_tuple (by decide +kernel) (da_cons (de_lc (own := [("_law_tie", 7)]) sc_law_stream_wish.nd (di_seq (de_var 3)) (blkOk_by (N := ["_law_pool_here", "_law_many", "_law_found", "_law_ties", "_law_rooms", "_law_plan", "_law_needs", "_law_tie", "_law_count", "_law_told_here", "_law_room"]) (sc := defScope s_law_stream_wish) (by decide +kernel)) lg_name (si_name (by decide)) (fun _ _ _ _ _ => (pg_name (i := 7) sc_law_stream_wish.nd rfl (by first | exact Or.inl rfl | exact Or.inr rfl))) (fun _ _ _ _ _ => dts_nil) (fun _ _ _ _ _ => (de_add de_int (de_call F_law_take (hr.mono (by decide)) pw0 (da_cons (de_var 0) (da_cons de_int da_nil)))))) da_nil)))
    (dss_cons (ds_setLc (i := 5) (own := [("_law_room", 10)]) sc_law_stream_wish.nd (di_seq (de_var 4)) (blkOk_by (N := ["_law_pool_here", "_law_many", "_law_found", "_law_ties", "_law_rooms", "_law_plan", "_law_needs", "_law_tie", "_law_count", "_law_told_here", "_law_room"]) (sc := defScope s_law_stream_wish) (by decide +kernel)) lg_name (si_name (by decide)) (fun _ _ _ _ _ => (pg_name (i := 10) sc_law_stream_wish.nd rfl (by first | exact Or.inl rfl | exact Or.inr rfl))) (fun _ _ _ _ _ => dts_nil) (fun _ _ _ _ _ => (de_call F_law_take (hr.mono (by decide)) pw0 (da_cons (de_var 0) (da_cons (de_add (de_var 10) de_int) da_nil)))) (sw_true rfl rfl rfl (by decide +kernel)))
    (dss_cons (ds_set (i := 6) sc_law_stream_wish.nd (de_repC (de_lst (da_cons de_int da_nil)) (de_var 1)))
    (dss_cons (ds_for PassesOwn.never (di_zip2 T.b_zip (da_cons (de_var 3) (da_cons (de_var 5) da_nil))) (pg_tup rfl (pgs_cons (pg_name (i := 7) sc_law_stream_wish.nd rfl (by first | exact Or.inl rfl | exact Or.inr rfl)) (pgs_cons (pg_name (i := 8) sc_law_stream_wish.nd rfl (by first | exact Or.inl rfl | exact Or.inr rfl)) pgs_nil))) (lg_tup (lg_cons lg_name (lg_cons lg_name lg_nil)) (ln_cons (ln_cons ln_nil))) (dss_cons (ds_setix (de_add (de_ix (de_var 6) (de_ix (de_var 7) de_int)) (de_var 8)) (de_var 6) (de_ix (de_var 7) de_int))
    (dss_one (ds_setix (de_sub (de_ix (de_var 6) (de_ix (de_var 7) de_int)) (de_var 8)) (de_var 6) (de_ix (de_var 7) de_int)))))
    (dss_one (ds_ret (de_tup (da_cons (de_tup (da_cons de_str (da_cons (de_var 1) (da_cons (de_var 3) (da_cons (de_var 4) (da_cons (de_blty call_tuple_of l_tuple T.b_tuple (by decide +kernel) (da_cons (de_var 6) da_nil)) da_nil)))))) (da_cons (de_var 5) da_nil))))))))))))
abbrev s_law_bench_wish : Stmt := topS 78
theorem sc_law_bench_wish : FnScope ["_law_pool_here", "_law_works", "_law_lasts", "_law_plan", "_law_done", "_law_work"] ["_law_pool_here", "_law_works"] (defScope s_law_bench_wish) := ⟨rfl, rfl, rfl, by decide +kernel, rfl, by decide +kernel, by decide +kernel⟩
theorem d_law_bench_wish {P : Program} {w : World} {K : PySem.W.Frag} {mg : Str → Option Value} {base : Heap} {C_NoItem C_NudgeError C_NoNumber C_NoOrder C_NoTask C_NoWish : Addr} (T : Txt K mg C_NoItem C_NudgeError C_NoNumber C_NoOrder C_NoTask C_NoWish) (F_law_take : Dfn P w K mg base CX0 "_law_take" "_law_take" s_law_take 1 ["_law_pool_here", "_law_many"] c_take) (F_law_shuffled : Dfn P w K mg base CX0 "_law_shuffled" "_law_shuffled" s_law_shuffled 2 ["_law_pool_here", "_law_some"] c_shuffled) {f : Addr} (cdv : Value) (A : Around) (outer : List Env) (s : Shared) (H : Hp) (E : XK) (hr : Room 2 (A.deeper (PyProof.Rows.envOfC "_law_bench_wish" (defScope s_law_bench_wish) s.heap.objs.size f cdv))) :
    DSs (cxOf CX0 P w K mg base ["_law_pool_here", "_law_works", "_law_lasts", "_law_plan", "_law_done", "_law_work"] "_law_bench_wish" (defScope s_law_bench_wish) f cdv A outer s H E).nox W0 (defBody s_law_bench_wish) t_law_bench_wish :=
  (dss_cons (ds_set (i := 2) sc_law_bench_wish.nd (de_blty call_tuple_of l_tuple T.b_tuple (by decide +kernel) (da_cons (de_lc (own := [("_law_work", 5)]) sc_law_bench_wish.nd (di_range1 T.b_range (da_cons (de_var 1) da_nil)) (blkOk_by (N := ["_law_pool_here", "_law_works", "_law_lasts", "_law_plan", "_law_done", "_law_work"]) (sc := defScope s_law_bench_wish) (by decide +kernel)) lg_name (si_name (by decide)) (fun _ _ _ _ _ => (pg_name (i := 5) sc_law_bench_wish.nd rfl (by first | exact Or.inl rfl | exact Or.inr rfl))) (fun _ _ _ _ _ => dts_nil) (fun _ _ _ _ _ => (de_add de_int (de_call F_law_take (hr.mono (by decide)) pw0 (da_cons (de_var 0) (da_cons de_int da_nil)))))) da_nil)))
    (dss_cons (ds_set (i := 3) sc_law_bench_wish.nd (de_repC (de_lst (da_cons de_int da_nil)) (de_var 1)))
    (dss_cons (ds_set (i := 4) sc_law_bench_wish.nd de_int)
    (dss_cons (ds_for PassesOwn.never (di_seq (de_call F_law_shuffled (hr.mono (by decide)) pw0 (da_cons (de_var 0) (da_cons (de_lr1 ln_lst T.b_list T.b_range (de_var 1)) da_nil)))) (pg_name (i := 5) sc_law_bench_wish.nd rfl (by first | exact Or.inl rfl | exact Or.inr rfl)) lg_name (dss_cons (ds_set (i := 4) sc_law_bench_wish.nd (de_add (de_var 4) (de_ix (de_var 2) (de_var 5))))
    (dss_one (ds_setix (de_var 4) (de_var 3) (de_var 5)))))
    (dss_one (ds_ret (de_tup (da_cons (de_tup (da_cons de_str (da_cons (de_var 2) da_nil))) (da_cons (de_fz (de_var 3)) da_nil)))))))))
abbrev s_law_wish : Stmt := topS 79
theorem sc_law_wish : FnScope ["_law_pool_here", "_law_way"] ["_law_pool_here"] (defScope s_law_wish) := ⟨rfl, rfl, rfl, by decide +kernel, rfl, by decide +kernel, by decide +kernel⟩
theorem d_law_wish {P : Program} {w : World} {K : PySem.W.Frag} {mg : Str → Option Value} {base : Heap} {C_NoItem C_NudgeError C_NoNumber C_NoOrder C_NoTask C_NoWish : Addr} (T : Txt K mg C_NoItem C_NudgeError C_NoNumber C_NoOrder C_NoTask C_NoWish) (F_law_take : Dfn P w K mg base CX0 "_law_take" "_law_take" s_law_take 1 ["_law_pool_here", "_law_many"] c_take) (F_law_web_wish : Dfn P w K mg base CX0 "_law_web_wish" "_law_web_wish" s_law_web_wish 4 ["_law_pool_here", "_law_way"] c_web_wish) (F_law_pair_wish : Dfn P w K mg base CX0 "_law_pair_wish" "_law_pair_wish" s_law_pair_wish 3 ["_law_pool_here"] c_wish_of) (F_law_deal_wish : Dfn P w K mg base CX0 "_law_deal_wish" "_law_deal_wish" s_law_deal_wish 2 ["_law_pool_here"] c_wish_of) (F_law_stream_wish : Dfn P w K mg base CX0 "_law_stream_wish" "_law_stream_wish" s_law_stream_wish 4 ["_law_pool_here"] c_wish_of) (F_law_bench_wish : Dfn P w K mg base CX0 "_law_bench_wish" "_law_bench_wish" s_law_bench_wish 3 ["_law_pool_here", "_law_works"] c_bench_wish) {f : Addr} (cdv : Value) (A : Around) (outer : List Env) (s : Shared) (H : Hp) (E : XK) (hr : Room 4 (A.deeper (PyProof.Rows.envOfC "_law_wish" (defScope s_law_wish) s.heap.objs.size f cdv))) :
    DSs (cxOf CX0 P w K mg base ["_law_pool_here", "_law_way"] "_law_wish" (defScope s_law_wish) f cdv A outer s H E).nox W0 (defBody s_law_wish) t_law_wish :=
  (dss_cons (ds_set (i := 1) sc_law_wish.nd (de_call F_law_take (hr.mono (by decide)) pw0 (da_cons (de_var 0) (da_cons de_int da_nil))))
    (dss_cons (ds_if (DW.dt (dw_or (dt_lt (de_var 1) de_int) (dw_or1 (dt_eq hr (de_var 1) de_int)))) (dss_one (ds_ret (de_call F_law_web_wish (hr.mono (by decide)) pw0 (da_cons (de_var 0) (da_cons (de_mod (de_var 1) de_int) da_nil))))) dss_nil)
    (dss_cons (ds_if (dt_eq hr (de_var 1) de_int) (dss_one (ds_ret (de_call F_law_pair_wish (hr.mono (by decide)) pw0 (da_cons (de_var 0) da_nil)))) dss_nil)
    (dss_cons (ds_if (dt_eq hr (de_var 1) de_int) (dss_one (ds_ret (de_call F_law_deal_wish (hr.mono (by decide)) pw0 (da_cons (de_var 0) da_nil)))) dss_nil)
    (dss_cons (ds_if (dt_eq hr (de_var 1) de_int) (dss_one (ds_ret (de_call F_law_stream_wish (hr.mono (by decide)) pw0 (da_cons (de_var 0) da_nil)))) dss_nil)
    (dss_one (ds_ret (de_call F_law_bench_wish (hr.mono (by decide)) pw0 (da_cons (de_var 0) (da_cons (de_add de_int (de_call F_law_take (hr.mono (by decide)) pw0 (da_cons (de_var 0) (da_cons de_int da_nil)))) da_nil))))))))))
abbrev s_law_wishes : Stmt := topS 80
theorem sc_law_wishes : FnScope ["_law_pool_here", "_law_first", "_law_found", "_law_many", "_law_tree", "_law_seen", "_law_turn", "_law_item", "_law_tie", "_law_place"] ["_law_pool_here"] (defScope s_law_wishes) := ⟨rfl, rfl, rfl, by decide +kernel, rfl, by decide +kernel, by decide +kernel⟩
theorem d_law_wishes {P : Program} {w : World} {K : PySem.W.Frag} {mg : Str → Option Value} {base : Heap} {C_NoItem C_NudgeError C_NoNumber C_NoOrder C_NoTask C_NoWish : Addr} (T : Txt K mg C_NoItem C_NudgeError C_NoNumber C_NoOrder C_NoTask C_NoWish) (F_law_wish : Dfn P w K mg base CX0 "_law_wish" "_law_wish" s_law_wish 5 ["_law_pool_here"] c_wish_of) (F_law_take : Dfn P w K mg base CX0 "_law_take" "_law_take" s_law_take 1 ["_law_pool_here", "_law_many"] c_take) (F_law_bench_wish : Dfn P w K mg base CX0 "_law_bench_wish" "_law_bench_wish" s_law_bench_wish 3 ["_law_pool_here", "_law_works"] c_bench_wish) (F_law_shuffled : Dfn P w K mg base CX0 "_law_shuffled" "_law_shuffled" s_law_shuffled 2 ["_law_pool_here", "_law_some"] c_shuffled) {f : Addr} (cdv : Value) (A : Around) (outer : List Env) (s : Shared) (H : Hp) (E : XK) (hr : Room 5 (A.deeper (PyProof.Rows.envOfC "_law_wishes" (defScope s_law_wishes) s.heap.objs.size f cdv))) :
    DSs (cxOf CX0 P w K mg base ["_law_pool_here", "_law_first", "_law_found", "_law_many", "_law_tree", "_law_seen", "_law_turn", "_law_item", "_law_tie", "_law_place"] "_law_wishes" (defScope s_law_wishes) f cdv A outer s H E).nox W0 (defBody s_law_wishes) t_law_wishes :=
  (dss_cons (ds_set (i := 1) sc_law_wishes.nd (de_call F_law_wish (hr.mono (by decide)) pw0 (da_cons (de_var 0) da_nil)))
    (dss_cons (ds_set (i := 2) sc_law_wishes.nd (de_lstC (da_cons (de_var 1) da_nil)))
    (dss_cons (ds_set (i := 3) sc_law_wishes.nd (de_blt call_len l_len T.b_len (by decide +kernel) (da_cons (de_ix (de_var 1) de_int) da_nil)))
    (dss_cons (ds_if (dt_eq hr (de_call F_law_take (hr.mono (by decide)) pw0 (da_cons (de_var 0) (da_cons de_int da_nil))) de_int) (dss_one (ds_if (dt_eq hr (de_ix (de_ix (de_var 1) de_int) de_int) de_str) (dss_cons (ds_set (i := 4) sc_law_wishes.nd (de_repC (de_lst (da_cons de_int da_nil)) (de_var 3)))
    (dss_cons (ds_set (i := 5) sc_law_wishes.nd (de_lst (da_cons de_int da_nil)))
    (dss_cons (ds_for PassesOwn.never (di_range1 T.b_range (da_cons (de_var 3) da_nil)) (pg_name (i := 6) sc_law_wishes.nd rfl (by first | exact Or.inl rfl | exact Or.inr rfl)) lg_name (dss_one (ds_for PassesOwn.never (di_enum T.b_enumerate (da_cons (de_ix (de_ix (de_var 1) de_int) de_int) da_nil)) (pg_tup rfl (pgs_cons (pg_name (i := 7) sc_law_wishes.nd rfl (by first | exact Or.inl rfl | exact Or.inr rfl)) (pgs_cons (pg_name (i := 8) sc_law_wishes.nd rfl (by first | exact Or.inl rfl | exact Or.inr rfl)) pgs_nil))) (lg_tup (lg_cons lg_name (lg_cons lg_name lg_nil)) (ln_cons (ln_cons ln_nil))) (dss_one (ds_if (dt_ne hr (de_in (de_ix (de_var 8) de_int) (de_var 5)) (de_in (de_ix (de_var 8) de_int) (de_var 5))) (dss_cons (ds_setix de_int (de_var 4) (de_var 7))
    (dss_one (ds_set (i := 5) sc_law_wishes.nd (de_add (de_var 5) (de_lc (own := [("_law_place", 9)]) sc_law_wishes.nd (di_seq (de_var 8)) (blkOk_by (N := ["_law_pool_here", "_law_first", "_law_found", "_law_many", "_law_tree", "_law_seen", "_law_turn", "_law_item", "_law_tie", "_law_place"]) (sc := defScope s_law_wishes) (by decide +kernel)) lg_name (si_name (by decide)) (fun _ _ _ _ _ => (pg_name (i := 9) sc_law_wishes.nd rfl (by first | exact Or.inl rfl | exact Or.inr rfl))) (fun _ _ _ _ _ => (dts_one (dt_notin (de_var 9) (de_var 5)))) (fun _ _ _ _ _ => (de_var 9))))))) dss_nil)))))
    (dss_one (ds_expr (de_m PySem.F.slot_list_append PySem.F.type_list_append mt_append l_append (de_var 2) (da_cons (de_tup (da_cons (de_tup (da_cons de_str (da_cons (de_ix (de_ix (de_var 1) de_int) de_int) (da_cons (de_ix (de_ix (de_var 1) de_int) de_int) da_nil)))) (da_cons (de_fz (de_var 4)) da_nil))) da_nil))))))) (dss_one (ds_if (dt_lt (de_var 3) de_int) (dss_one (ds_expr (de_m PySem.F.slot_list_append PySem.F.type_list_append mt_append l_append (de_var 2) (da_cons (de_call F_law_bench_wish (hr.mono (by decide)) pw0 (da_cons (de_var 0) (da_cons (de_var 3) da_nil))) da_nil)))) dss_nil)))) dss_nil)
    (dss_one (ds_ret (de_call F_law_shuffled (hr.mono (by decide)) pw0 (da_cons (de_var 0) (da_cons (de_fz (de_var 2)) da_nil)))))))))
abbrev s_law_low : Stmt := topS 81
theorem sc_law_low : FnScope ["_law_top", "_law_bottom", "_law_one", "_law_other"] ["_law_top", "_law_bottom"] (defScope s_law_low) := ⟨rfl, rfl, rfl, by decide +kernel, rfl, by decide +kernel, by decide +kernel⟩
theorem d_law_low {P : Program} {w : World} {K : PySem.W.Frag} {mg : Str → Option Value} {base : Heap} {C_NoItem C_NudgeError C_NoNumber C_NoOrder C_NoTask C_NoWish : Addr} (T : Txt K mg C_NoItem C_NudgeError C_NoNumber C_NoOrder C_NoTask C_NoWish)  {f : Addr} (cdv : Value) (A : Around) (outer : List Env) (s : Shared) (H : Hp) (E : XK) (hr : Room 0 (A.deeper (PyProof.Rows.envOfC "_law_low" (defScope s_law_low) s.heap.objs.size f cdv))) :
    DSs (cxOf CX0 P w K mg base ["_law_top", "_law_bottom", "_law_one", "_law_other"] "_law_low" (defScope s_law_low) f cdv A outer s H E).nox W0 (defBody s_law_low) t_law_low :=
  (dss_cons (ds_set (i := 2) sc_law_low.nd (de_blt call_abs l_abs T.b_abs (by decide +kernel) (da_cons (de_var 0) da_nil)))
    (dss_cons (ds_set (i := 3) sc_law_low.nd (de_blt call_abs l_abs T.b_abs (by decide +kernel) (da_cons (de_var 1) da_nil)))
    (dss_cons (ds_while PassesOwn.never (dt_gt (de_var 3) de_int) (dss_one (ds_par (i := 2) (j := 3) sc_law_low.nd (da_cons (de_var 3) (da_cons (de_mod (de_var 2) (de_var 3)) da_nil)))))
    (dss_cons (ds_if (dt_lt (de_var 1) de_int) (dss_one (ds_set (i := 2) sc_law_low.nd (de_sub de_int (de_var 2)))) dss_nil)
    (dss_one (ds_ret (de_tup (da_cons (de_fdiv (de_var 0) (de_var 2)) (da_cons (de_fdiv (de_var 1) (de_var 2)) da_nil)))))))))
abbrev s_law_number : Stmt := topS 82
theorem sc_law_number : FnScope ["_law_pool_here", "_law_bottom"] ["_law_pool_here"] (defScope s_law_number) := ⟨rfl, rfl, rfl, by decide +kernel, rfl, by decide +kernel, by decide +kernel⟩
theorem d_law_number {P : Program} {w : World} {K : PySem.W.Frag} {mg : Str → Option Value} {base : Heap} {C_NoItem C_NudgeError C_NoNumber C_NoOrder C_NoTask C_NoWish : Addr} (T : Txt K mg C_NoItem C_NudgeError C_NoNumber C_NoOrder C_NoTask C_NoWish) (F_law_take : Dfn P w K mg base CX0 "_law_take" "_law_take" s_law_take 1 ["_law_pool_here", "_law_many"] c_take) (F_law_low : Dfn P w K mg base CX0 "_law_low" "_law_low" s_law_low 1 ["_law_top", "_law_bottom"] c_low) {f : Addr} (cdv : Value) (A : Around) (outer : List Env) (s : Shared) (H : Hp) (E : XK) (hr : Room 1 (A.deeper (PyProof.Rows.envOfC "_law_number" (defScope s_law_number) s.heap.objs.size f cdv))) :
    DSs (cxOf CX0 P w K mg base ["_law_pool_here", "_law_bottom"] "_law_number" (defScope s_law_number) f cdv A outer s H E).nox W0 (defBody s_law_number) t_law_number :=
  (dss_cons (ds_set (i := 1) sc_law_number.nd (de_ix (de_lst (da_cons de_int (da_cons de_int (da_cons de_int (da_cons de_int (da_cons de_int (da_cons de_int da_nil))))))) (de_call F_law_take (hr.mono (by decide)) pw0 (da_cons (de_var 0) (da_cons de_int da_nil)))))
    (dss_one (ds_ret (de_call F_law_low (hr.mono (by decide)) pw0 (da_cons (de_call F_law_take (hr.mono (by decide)) pw0 (da_cons (de_var 0) (da_cons de_int da_nil))) (da_cons (de_var 1) da_nil))))))
abbrev s_law_minus : Stmt := topS 83
theorem sc_law_minus : FnScope ["_law_one", "_law_other"] ["_law_one", "_law_other"] (defScope s_law_minus) := ⟨rfl, rfl, rfl, by decide +kernel, rfl, by decide +kernel, by decide +kernel⟩
theorem d_law_minus {P : Program} {w : World} {K : PySem.W.Frag} {mg : Str → Option Value} {base : Heap} {C_NoItem C_NudgeError C_NoNumber C_NoOrder C_NoTask C_NoWish : Addr} (T : Txt K mg C_NoItem C_NudgeError C_NoNumber C_NoOrder C_NoTask C_NoWish) (F_law_low : Dfn P w K mg base CX0 "_law_low" "_law_low" s_law_low 1 ["_law_top", "_law_bottom"] c_low) {f : Addr} (cdv : Value) (A : Around) (outer : List Env) (s : Shared) (H : Hp) (E : XK) (hr : Room 1 (A.deeper (PyProof.Rows.envOfC "_law_minus" (defScope s_law_minus) s.heap.objs.size f cdv))) :
    DSs (cxOf CX0 P w K mg base ["_law_one", "_law_other"] "_law_minus" (defScope s_law_minus) f cdv A outer s H E).nox W0 (defBody s_law_minus) t_law_minus :=
  (dss_one (ds_ret (de_call F_law_low (hr.mono (by decide)) pw0 (da_cons (de_sub (de_mul (de_ix (de_var 0) de_int) (de_ix (de_var 1) de_int)) (de_mul (de_ix (de_var 1) de_int) (de_ix (de_var 0) de_int))) (da_cons (de_mul (de_ix (de_var 0) de_int) (de_ix (de_var 1) de_int)) da_nil)))))
abbrev s_law_plus : Stmt := topS 84
theorem sc_law_plus : FnScope ["_law_one", "_law_other"] ["_law_one", "_law_other"] (defScope s_law_plus) := ⟨rfl, rfl, rfl, by decide +kernel, rfl, by decide +kernel, by decide +kernel⟩
theorem d_law_plus {P : Program} {w : World} {K : PySem.W.Frag} {mg : Str → Option Value} {base : Heap} {C_NoItem C_NudgeError C_NoNumber C_NoOrder C_NoTask C_NoWish : Addr} (T : Txt K mg C_NoItem C_NudgeError C_NoNumber C_NoOrder C_NoTask C_NoWish) (F_law_low : Dfn P w K mg base CX0 "_law_low" "_law_low" s_law_low 1 ["_law_top", "_law_bottom"] c_low) {f : Addr} (cdv : Value) (A : Around) (outer : List Env) (s : Shared) (H : Hp) (E : XK) (hr : Room 1 (A.deeper (PyProof.Rows.envOfC "_law_plus" (defScope s_law_plus) s.heap.objs.size f cdv))) :
    DSs (cxOf CX0 P w K mg base ["_law_one", "_law_other"] "_law_plus" (defScope s_law_plus) f cdv A outer s H E).nox W0 (defBody s_law_plus) t_law_plus :=
  (dss_one (ds_ret (de_call F_law_low (hr.mono (by decide)) pw0 (da_cons (de_add (de_mul (de_ix (de_var 0) de_int) (de_ix (de_var 1) de_int)) (de_mul (de_ix (de_var 1) de_int) (de_ix (de_var 0) de_int))) (da_cons (de_mul (de_ix (de_var 0) de_int) (de_ix (de_var 1) de_int)) da_nil)))))
abbrev s_law_bound : Stmt := topS 85
theorem sc_law_bound : FnScope ["_law_pool_here", "_law_price", "_law_walked", "_law_down", "_law_up", "_law_low_here", "_law_high"] ["_law_pool_here", "_law_price", "_law_walked"] (defScope s_law_bound) := ⟨rfl, rfl, rfl, by decide +kernel, rfl, by decide +kernel, by decide +kernel⟩
theorem d_law_bound {P : Program} {w : World} {K : PySem.W.Frag} {mg : Str → Option Value} {base : Heap} {C_NoItem C_NudgeError C_NoNumber C_NoOrder C_NoTask C_NoWish : Addr} (T : Txt K mg C_NoItem C_NudgeError C_NoNumber C_NoOrder C_NoTask C_NoWish) (F_law_number : Dfn P w K mg base CX0 "_law_number" "_law_number" s_law_number 2 ["_law_pool_here"] c_number) (F_law_take : Dfn P w K mg base CX0 "_law_take" "_law_take" s_law_take 1 ["_law_pool_here", "_law_many"] c_take) (F_law_minus : Dfn P w K mg base CX0 "_law_minus" "_law_minus" s_law_minus 2 ["_law_one", "_law_other"] c_minus) (F_law_plus : Dfn P w K mg base CX0 "_law_plus" "_law_plus" s_law_plus 2 ["_law_one", "_law_other"] c_plus) {f : Addr} (cdv : Value) (A : Around) (outer : List Env) (s : Shared) (H : Hp) (E : XK) (hr : Room 2 (A.deeper (PyProof.Rows.envOfC "_law_bound" (defScope s_law_bound) s.heap.objs.size f cdv))) :
    DSs (cxOf CX0 P w K mg base ["_law_pool_here", "_law_price", "_law_walked", "_law_down", "_law_up", "_law_low_here", "_law_high"] "_law_bound" (defScope s_law_bound) f cdv A outer s H E).nox W0 (defBody s_law_bound) t_law_bound :=
  (dss_cons (ds_set (i := 3) sc_law_bound.nd (de_ix (de_lst (da_cons de_non (da_cons (de_tup (da_cons de_int (da_cons de_int da_nil))) (da_cons (de_call F_law_number (hr.mono (by decide)) pw0 (da_cons (de_var 0) da_nil)) (da_cons (de_call F_law_number (hr.mono (by decide)) pw0 (da_cons (de_var 0) da_nil)) da_nil))))) (de_call F_law_take (hr.mono (by decide)) pw0 (da_cons (de_var 0) (da_cons de_int da_nil)))))
    (dss_cons (ds_set (i := 4) sc_law_bound.nd (de_ix (de_lst (da_cons de_non (da_cons de_non (da_cons (de_tup (da_cons de_int (da_cons de_int da_nil))) (da_cons (de_call F_law_number (hr.mono (by decide)) pw0 (da_cons (de_var 0) da_nil)) da_nil))))) (de_call F_law_take (hr.mono (by decide)) pw0 (da_cons (de_var 0) (da_cons de_int da_nil)))))
    (dss_cons (ds_set (i := 5) sc_law_bound.nd de_non)
    (dss_cons (ds_set (i := 6) sc_law_bound.nd de_non)
    (dss_cons (ds_if (dt_isnot (de_var 3) de_non) (dss_one (ds_set (i := 5) sc_law_bound.nd (de_call F_law_minus (hr.mono (by decide)) pw0 (da_cons (de_var 1) (da_cons (de_var 3) da_nil))))) dss_nil)
    (dss_cons (ds_if (DW.dt (dw_and (dt_tru (de_var 2)) (dw_and1 (DW.dt (dw_or (dt_is (de_var 5) de_non) (dw_or1 (dt_lt (de_ix (de_var 5) de_int) de_int))))))) (dss_one (ds_set (i := 5) sc_law_bound.nd (de_tup (da_cons de_int (da_cons de_int da_nil))))) dss_nil)
    (dss_cons (ds_if (dt_isnot (de_var 4) de_non) (dss_one (ds_set (i := 6) sc_law_bound.nd (de_call F_law_plus (hr.mono (by decide)) pw0 (da_cons (de_var 1) (da_cons (de_var 4) da_nil))))) dss_nil)
    (dss_one (ds_ret (de_tup (da_cons (de_var 5) (da_cons (de_var 6) da_nil))))))))))))
abbrev s_law_weight : Stmt := topS 86
theorem sc_law_weight : FnScope ["_law_pool_here", "_law_some", "_law_down"] ["_law_pool_here"] (defScope s_law_weight) := ⟨rfl, rfl, rfl, by decide +kernel, rfl, by decide +kernel, by decide +kernel⟩
theorem d_law_weight {P : Program} {w : World} {K : PySem.W.Frag} {mg : Str → Option Value} {base : Heap} {C_NoItem C_NudgeError C_NoNumber C_NoOrder C_NoTask C_NoWish : Addr} (T : Txt K mg C_NoItem C_NudgeError C_NoNumber C_NoOrder C_NoTask C_NoWish) (F_law_take : Dfn P w K mg base CX0 "_law_take" "_law_take" s_law_take 1 ["_law_pool_here", "_law_many"] c_take) {f : Addr} (cdv : Value) (A : Around) (outer : List Env) (s : Shared) (H : Hp) (E : XK) (hr : Room 1 (A.deeper (PyProof.Rows.envOfC "_law_weight" (defScope s_law_weight) s.heap.objs.size f cdv))) :
    DSs (cxOf CX0 P w K mg base ["_law_pool_here", "_law_some", "_law_down"] "_law_weight" (defScope s_law_weight) f cdv A outer s H E).nox W0 (defBody s_law_weight) t_law_weight :=
  (dss_cons (ds_set (i := 1) sc_law_weight.nd (de_lst (da_cons (de_tup (da_cons de_int (da_cons de_int da_nil))) (da_cons (de_tup (da_cons de_int (da_cons de_int da_nil))) (da_cons (de_tup (da_cons de_int (da_cons de_int da_nil))) (da_cons (de_tup (da_cons de_int (da_cons de_int da_nil))) (da_cons (de_tup (da_cons de_int (da_cons de_int da_nil))) (da_cons (de_tup (da_cons de_int (da_cons de_int da_nil))) da_nil))))))))
    (dss_cons (ds_set (i := 2) sc_law_weight.nd (de_ix (de_var 1) (de_call F_law_take (hr.mono (by decide)) pw0 (da_cons (de_var 0) (da_cons de_int da_nil)))))
    (dss_one (ds_ret (de_tup (da_cons (de_var 2) (da_cons (de_ix (de_var 1) (de_call F_law_take (hr.mono (by decide)) pw0 (da_cons (de_var 0) (da_cons de_int da_nil)))) da_nil)))))))
abbrev s_law_task : Stmt := topS 87
theorem sc_law_task : FnScope ["_law_pool_here", "_law_wishes_here", "_law_many", "_law_walked", "_law_prices", "_law_tight", "_law_bounds", "_law_weights", "_law_shape", "_law_plan", "_law_item", "_law_price"] ["_law_pool_here"] (defScope s_law_task) := ⟨rfl, rfl, rfl, by decide +kernel, rfl, by decide +kernel, by decide +kernel⟩
theorem d_law_task {P : Program} {w : World} {K : PySem.W.Frag} {mg : Str → Option Value} {base : Heap} {C_NoItem C_NudgeError C_NoNumber C_NoOrder C_NoTask C_NoWish : Addr} (T : Txt K mg C_NoItem C_NudgeError C_NoNumber C_NoOrder C_NoTask C_NoWish) (F_law_wishes : Dfn P w K mg base CX0 "_law_wishes" "_law_wishes" s_law_wishes 6 ["_law_pool_here"] c_wishes) (F_law_number : Dfn P w K mg base CX0 "_law_number" "_law_number" s_law_number 2 ["_law_pool_here"] c_number) (F_law_take : Dfn P w K mg base CX0 "_law_take" "_law_take" s_law_take 1 ["_law_pool_here", "_law_many"] c_take) (F_law_minus : Dfn P w K mg base CX0 "_law_minus" "_law_minus" s_law_minus 2 ["_law_one", "_law_other"] c_minus) (F_law_bound : Dfn P w K mg base CX0 "_law_bound" "_law_bound" s_law_bound 3 ["_law_pool_here", "_law_price", "_law_walked"] c_bound) (F_law_weight : Dfn P w K mg base CX0 "_law_weight" "_law_weight" s_law_weight 2 ["_law_pool_here"] c_weight) {f : Addr} (cdv : Value) (A : Around) (outer : List Env) (s : Shared) (H : Hp) (E : XK) (hr : Room 6 (A.deeper (PyProof.Rows.envOfC "_law_task" (defScope s_law_task) s.heap.objs.size f cdv))) :
    DSs (cxOf CX0 P w K mg base ["_law_pool_here", "_law_wishes_here", "_law_many", "_law_walked", "_law_prices", "_law_tight", "_law_bounds", "_law_weights", "_law_shape", "_law_plan", "_law_item", "_law_price"] "_law_task" (defScope s_law_task) f cdv A outer s H E).nox W0 (defBody s_law_task) t_law_task :=
  (dss_cons (ds_set (i := 1) sc_law_task.nd (de_call F_law_wishes (hr.mono (by decide)) pw0 (da_cons (de_var 0) da_nil)))
    (dss_cons (ds_set (i := 2) sc_law_task.nd (de_blt call_len l_len T.b_len (by decide +kernel) (da_cons (de_ix (de_ix (de_var 1) de_int) de_int) da_nil)))
    (dss_cons (ds_set (i := 3) sc_law_task.nd (de_in de_str (de_lc (own := [("_law_shape", 8), ("_law_plan", 9)]) sc_law_task.nd (di_seq (de_var 1)) (blkOk_by (N := ["_law_pool_here", "_law_wishes_here", "_law_many", "_law_walked", "_law_prices", "_law_tight", "_law_bounds", "_law_weights", "_law_shape", "_law_plan", "_law_item", "_law_price"]) (sc := defScope s_law_task) (by decide +kernel)) (lg_tup (lg_cons lg_name (lg_cons lg_name lg_nil)) (ln_cons (ln_cons ln_nil))) (si_tup (si_cons (si_name (by decide)) (si_cons (si_name (by decide)) si_nil))) (fun _ _ _ _ _ => (pg_tup rfl (pgs_cons (pg_name (i := 8) sc_law_task.nd rfl (by first | exact Or.inl rfl | exact Or.inr rfl)) (pgs_cons (pg_name (i := 9) sc_law_task.nd rfl (by first | exact Or.inl rfl | exact Or.inr rfl)) pgs_nil)))) (fun _ _ _ _ _ => dts_nil) (fun _ _ _ _ _ => (de_ix (de_var 8) de_int)))))
    (dss_cons (ds_setLc (i := 4) (own := [("_law_item", 10)]) sc_law_task.nd (di_range1 T.b_range (da_cons (de_var 2) da_nil)) (blkOk_by (N := ["_law_pool_here", "_law_wishes_here", "_law_many", "_law_walked", "_law_prices", "_law_tight", "_law_bounds", "_law_weights", "_law_shape", "_law_plan", "_law_item", "_law_price"]) (sc := defScope s_law_task) (by decide +kernel)) lg_name (si_name (by decide)) (fun _ _ _ _ _ => (pg_name (i := 10) sc_law_task.nd rfl (by first | exact Or.inl rfl | exact Or.inr rfl))) (fun _ _ _ _ _ => dts_nil) (fun _ _ _ _ _ => (de_call F_law_number (hr.mono (by decide)) pw0 (da_cons (de_var 0) da_nil))) (sw_true rfl rfl rfl (by decide +kernel)))
    (dss_cons (ds_if (DW.dt (dw_and (dt_not (dt_tru (de_var 3))) (dw_and1 (dt_eq hr (de_call F_law_take (hr.mono (by decide)) pw0 (da_cons (de_var 0) (da_cons de_int da_nil))) de_int)))) (dss_one (ds_setLc (i := 4) (own := [("_law_price", 11)]) sc_law_task.nd (di_seq (de_var 4)) (blkOk_by (N := ["_law_pool_here", "_law_wishes_here", "_law_many", "_law_walked", "_law_prices", "_law_tight", "_law_bounds", "_law_weights", "_law_shape", "_law_plan", "_law_item", "_law_price"]) (sc := defScope s_law_task) (by decide +kernel)) lg_name (si_name (by decide)) (fun _ _ _ _ _ => (pg_name (i := 11) sc_law_task.nd rfl (by first | exact Or.inl rfl | exact Or.inr rfl))) (fun _ _ _ _ _ => dts_nil) (fun _ _ _ _ _ => (de_call F_law_minus (hr.mono (by decide)) pw0 (da_cons (de_var 11) (da_cons (de_tup (da_cons de_int (da_cons de_int da_nil))) da_nil)))) (sw_true rfl rfl rfl (by decide +kernel)))) dss_nil)
    (dss_cons (ds_set (i := 5) sc_law_task.nd (de_call F_law_take (hr.mono (by decide)) pw0 (da_cons (de_var 0) (da_cons de_int da_nil))))
    (dss_cons (ds_setLc (i := 6) (own := [("_law_price", 11)]) sc_law_task.nd (di_seq (de_var 4)) (blkOk_by (N := ["_law_pool_here", "_law_wishes_here", "_law_many", "_law_walked", "_law_prices", "_law_tight", "_law_bounds", "_law_weights", "_law_shape", "_law_plan", "_law_item", "_law_price"]) (sc := defScope s_law_task) (by decide +kernel)) lg_name (si_name (by decide)) (fun _ _ _ _ _ => (pg_name (i := 11) sc_law_task.nd rfl (by first | exact Or.inl rfl | exact Or.inr rfl))) (fun _ _ _ _ _ => dts_nil) (fun _ _ _ _ _ => (de_call F_law_bound (hr.mono (by decide)) pw0 (da_cons (de_var 0) (da_cons (de_var 11) (da_cons (de_var 3) da_nil))))) (sw_true rfl rfl rfl (by decide +kernel)))
    (dss_cons (ds_if (dt_eq hr (de_var 5) de_int) (dss_one (ds_setLc (i := 6) (own := [("_law_price", 11)]) sc_law_task.nd (di_seq (de_var 4)) (blkOk_by (N := ["_law_pool_here", "_law_wishes_here", "_law_many", "_law_walked", "_law_prices", "_law_tight", "_law_bounds", "_law_weights", "_law_shape", "_law_plan", "_law_item", "_law_price"]) (sc := defScope s_law_task) (by decide +kernel)) lg_name (si_name (by decide)) (fun _ _ _ _ _ => (pg_name (i := 11) sc_law_task.nd rfl (by first | exact Or.inl rfl | exact Or.inr rfl))) (fun _ _ _ _ _ => dts_nil) (fun _ _ _ _ _ => (de_tup (da_cons (de_ix (de_lst (da_cons de_non (da_cons (de_tup (da_cons de_int (da_cons de_int da_nil))) da_nil))) (de_blty call_int1 l_int T.b_int (by decide +kernel) (da_cons (de_var 3) da_nil))) (da_cons de_non da_nil)))) (sw_true rfl rfl rfl (by decide +kernel)))) dss_nil)
    (dss_cons (ds_setLc (i := 7) (own := [("_law_price", 11)]) sc_law_task.nd (di_seq (de_var 4)) (blkOk_by (N := ["_law_pool_here", "_law_wishes_here", "_law_many", "_law_walked", "_law_prices", "_law_tight", "_law_bounds", "_law_weights", "_law_shape", "_law_plan", "_law_item", "_law_price"]) (sc := defScope s_law_task) (by decide +kernel)) lg_name (si_name (by decide)) (fun _ _ _ _ _ => (pg_name (i := 11) sc_law_task.nd rfl (by first | exact Or.inl rfl | exact Or.inr rfl))) (fun _ _ _ _ _ => dts_nil) (fun _ _ _ _ _ => (de_call F_law_weight (hr.mono (by decide)) pw0 (da_cons (de_var 0) da_nil))) (sw_true rfl rfl rfl (by decide +kernel)))
    (dss_one (ds_ret (de_tup (da_cons (de_var 4) (da_cons (de_var 1) (da_cons (de_var 6) (da_cons (de_var 7) (da_cons (de_ix (de_lst (da_cons de_str (da_cons de_str da_nil))) (de_call F_law_take (hr.mono (by decide)) pw0 (da_cons (de_var 0) (da_cons de_int da_nil)))) da_nil)))))))))))))))))
abbrev s_law_items_drawn : Stmt := topS 89
theorem sc_law_items_drawn : FnScope ["_law_pool_here", "_law_many", "_law_item"] ["_law_pool_here", "_law_many"] (defScope s_law_items_drawn) := ⟨rfl, rfl, rfl, by decide +kernel, rfl, by decide +kernel, by decide +kernel⟩
theorem d_law_items_drawn {P : Program} {w : World} {K : PySem.W.Frag} {mg : Str → Option Value} {base : Heap} {C_NoItem C_NudgeError C_NoNumber C_NoOrder C_NoTask C_NoWish : Addr} (T : Txt K mg C_NoItem C_NudgeError C_NoNumber C_NoOrder C_NoTask C_NoWish) (F_law_take : Dfn P w K mg base CX0 "_law_take" "_law_take" s_law_take 1 ["_law_pool_here", "_law_many"] c_take) {f : Addr} (cdv : Value) (A : Around) (outer : List Env) (s : Shared) (H : Hp) (E : XK) (hr : Room 1 (A.deeper (PyProof.Rows.envOfC "_law_items_drawn" (defScope s_law_items_drawn) s.heap.objs.size f cdv))) :
    DSs (cxOf CX0 P w K mg base ["_law_pool_here", "_law_many", "_law_item"] "_law_items_drawn" (defScope s_law_items_drawn) f cdv A outer s H E).nox W0 (defBody s_law_items_drawn) t_law_items_drawn :=
  (dss_one (ds_ret (de_lc (own := [("_law_item", 2)]) sc_law_items_drawn.nd (di_range1 T.b_range (da_cons (de_var 1) da_nil)) (blkOk_by (N := ["_law_pool_here", "_law_many", "_law_item"]) (sc := defScope s_law_items_drawn) (by decide +kernel)) lg_name (si_name (by decide)) (fun _ _ _ _ _ => (pg_name (i := 2) sc_law_items_drawn.nd rfl (by first | exact Or.inl rfl | exact Or.inr rfl))) (fun _ _ _ _ _ => (dts_one (dt_eq hr (de_call F_law_take (hr.mono (by decide)) pw0 (da_cons (de_var 0) (da_cons de_int da_nil))) de_int))) (fun _ _ _ _ _ => (de_var 2)))))
abbrev s_law_odd_items : Stmt := topS 90
theorem sc_law_odd_items : FnScope ["_law_pool_here", "_law_many", "_law_items", "_law_at", "_law_some", "_law_ways"] ["_law_pool_here", "_law_many", "_law_items"] (defScope s_law_odd_items) := ⟨rfl, rfl, rfl, by decide +kernel, rfl, by decide +kernel, by decide +kernel⟩
theorem d_law_odd_items {P : Program} {w : World} {K : PySem.W.Frag} {mg : Str → Option Value} {base : Heap} {C_NoItem C_NudgeError C_NoNumber C_NoOrder C_NoTask C_NoWish : Addr} (T : Txt K mg C_NoItem C_NudgeError C_NoNumber C_NoOrder C_NoTask C_NoWish) (F_law_take : Dfn P w K mg base CX0 "_law_take" "_law_take" s_law_take 1 ["_law_pool_here", "_law_many"] c_take) {f : Addr} (cdv : Value) (A : Around) (outer : List Env) (s : Shared) (H : Hp) (E : XK) (hr : Room 1 (A.deeper (PyProof.Rows.envOfC "_law_odd_items" (defScope s_law_odd_items) s.heap.objs.size f cdv))) :
    DSs (cxOf CX0 P w K mg base ["_law_pool_here", "_law_many", "_law_items", "_law_at", "_law_some", "_law_ways"] "_law_odd_items" (defScope s_law_odd_items) f cdv A outer s H E).nox W0 (defBody s_law_odd_items) t_law_odd_items :=
  (dss_cons (ds_set (i := 3) sc_law_odd_items.nd (de_call F_law_take (hr.mono (by decide)) pw0 (da_cons (de_var 0) (da_cons (de_add (de_blt call_len l_len T.b_len (by decide +kernel) (da_cons (de_var 2) da_nil)) de_int) da_nil))))
    (dss_cons (ds_set (i := 4) sc_law_odd_items.nd (de_lst (da_cons de_bl (da_cons de_non (da_cons de_str (da_cons (de_var 1) (da_cons (de_neg de_int) (da_cons (de_lst (da_cons de_int da_nil)) (da_cons (de_add (de_var 1) de_int) da_nil)))))))))
    (dss_cons (ds_set (i := 5) sc_law_odd_items.nd (de_lst (da_cons (de_add (de_add (de_sl (de_var 2) do_none (do_some (de_var 3))) (de_lst (da_cons (de_ix (de_var 4) (de_call F_law_take (hr.mono (by decide)) pw0 (da_cons (de_var 0) (da_cons de_int da_nil)))) da_nil))) (de_sl (de_var 2) (do_some (de_var 3)) do_none)) (da_cons (de_add (de_var 2) (de_lst (da_cons de_int da_nil))) (da_cons (de_add (de_add (de_lst (da_cons de_int da_nil)) (de_var 2)) (de_lst (da_cons de_int da_nil))) (da_cons (de_blty call_tuple_of l_tuple T.b_tuple (by decide +kernel) (da_cons (de_var 2) da_nil)) (da_cons de_non da_nil)))))))
    (dss_one (ds_ret (de_ix (de_add (de_var 5) (de_lst (da_cons de_emp (da_cons de_int (da_cons (de_add (de_lst (da_cons (de_sub (de_var 1) de_int) da_nil)) (de_lst (da_cons (de_sub (de_var 1) de_int) da_nil))) da_nil))))) (de_call F_law_take (hr.mono (by decide)) pw0 (da_cons (de_var 0) (da_cons de_int da_nil)))))))))
abbrev s_law_no_wholes : Stmt := topS 67
theorem sc_law_no_wholes : FnScope ["_law_thing", "_law_one"] ["_law_thing"] (defScope s_law_no_wholes) := ⟨rfl, rfl, rfl, by decide +kernel, rfl, by decide +kernel, by decide +kernel⟩
theorem d_law_no_wholes {P : Program} {w : World} {K : PySem.W.Frag} {mg : Str → Option Value} {base : Heap} {C_NoItem C_NudgeError C_NoNumber C_NoOrder C_NoTask C_NoWish : Addr} (T : Txt K mg C_NoItem C_NudgeError C_NoNumber C_NoOrder C_NoTask C_NoWish)  {f : Addr} (cdv : Value) (A : Around) (outer : List Env) (s : Shared) (H : Hp) (E : XK) (hr : Room 0 (A.deeper (PyProof.Rows.envOfC "_law_no_wholes" (defScope s_law_no_wholes) s.heap.objs.size f cdv))) :
    DSs (cxOf CX0 P w K mg base ["_law_thing", "_law_one"] "_law_no_wholes" (defScope s_law_no_wholes) f cdv A outer s H E).nox W0 (defBody s_law_no_wholes) t_law_no_wholes :=
  (dss_cons (ds_if (dt_not (dt_tru (de_blt call_isi (l_isi (by decide)) T.b_isinstance (by decide +kernel) (da_cons (de_var 0) (da_cons (de_bltn T.b_list (by decide +kernel) rfl) da_nil))))) (dss_one (ds_ret de_bl)) dss_nil)
    (dss_one (ds_ret (de_ne hr (de_lc (own := [("_law_one", 1)]) sc_law_no_wholes.nd (di_seq (de_var 0)) (blkOk_by (N := ["_law_thing", "_law_one"]) (sc := defScope s_law_no_wholes) (by decide +kernel)) lg_name (si_name (by decide)) (fun _ _ _ _ _ => (pg_name (i := 1) sc_law_no_wholes.nd rfl (by first | exact Or.inl rfl | exact Or.inr rfl))) (fun _ _ _ _ _ => (dts_one (DW.dt (dw_or (dt_not (dt_tru (de_blt call_isi (l_isi (by decide)) T.b_isinstance (by decide +kernel) (da_cons (de_var 1) (da_cons (de_bltn T.b_int (by decide +kernel) rfl) da_nil))))) (dw_or1 (dt_tru (de_blt call_isi (l_isi (by decide)) T.b_isinstance (by decide +kernel) (da_cons (de_var 1) (da_cons (de_bltn T.b_bool (by decide +kernel) rfl) da_nil))))))))) (fun _ _ _ _ _ => (de_var 1))) (de_lst da_nil)))))
abbrev s_law_good : Stmt := topS 91
theorem sc_law_good : FnScope ["_law_many", "_law_thing", "_law_item"] ["_law_many", "_law_thing"] (defScope s_law_good) := ⟨rfl, rfl, rfl, by decide +kernel, rfl, by decide +kernel, by decide +kernel⟩
theorem d_law_good {P : Program} {w : World} {K : PySem.W.Frag} {mg : Str → Option Value} {base : Heap} {C_NoItem C_NudgeError C_NoNumber C_NoOrder C_NoTask C_NoWish : Addr} (T : Txt K mg C_NoItem C_NudgeError C_NoNumber C_NoOrder C_NoTask C_NoWish) (F_law_no_wholes : Dfn P w K mg base CX0 "_law_no_wholes" "_law_no_wholes" s_law_no_wholes 1 ["_law_thing"] c_no_wholes) {f : Addr} (cdv : Value) (A : Around) (outer : List Env) (s : Shared) (H : Hp) (E : XK) (hr : Room 1 (A.deeper (PyProof.Rows.envOfC "_law_good" (defScope s_law_good) s.heap.objs.size f cdv))) :
    DSs (cxOf CX0 P w K mg base ["_law_many", "_law_thing", "_law_item"] "_law_good" (defScope s_law_good) f cdv A outer s H E).nox W0 (defBody s_law_good) t_law_good :=
  (dss_cons (ds_if (DW.dt (dw_or (dt_not (dt_tru (de_blt call_isi (l_isi (by decide)) T.b_isinstance (by decide +kernel) (da_cons (de_var 1) (da_cons (de_bltn T.b_list (by decide +kernel) rfl) da_nil))))) (dw_or1 (dt_tru (de_call F_law_no_wholes (hr.mono (by decide)) pw0 (da_cons (de_var 1) da_nil)))))) (dss_one (ds_ret de_bl)) dss_nil)
    (dss_one (ds_ret (de_eq hr (de_var 1) (de_lc (own := [("_law_item", 2)]) sc_law_good.nd (di_range1 T.b_range (da_cons (de_var 0) da_nil)) (blkOk_by (N := ["_law_many", "_law_thing", "_law_item"]) (sc := defScope s_law_good) (by decide +kernel)) lg_name (si_name (by decide)) (fun _ _ _ _ _ => (pg_name (i := 2) sc_law_good.nd rfl (by first | exact Or.inl rfl | exact Or.inr rfl))) (fun _ _ _ _ _ => (dts_one (dt_in (de_var 2) (de_var 1)))) (fun _ _ _ _ _ => (de_var 2)))))))
abbrev s_law_stilled : Stmt := topS 88
theorem sc_law_stilled : FnScope ["_law_task_here", "_law_items", "_law_bounds", "_law_item", "_law_shape", "_law_plan"] ["_law_task_here", "_law_items"] (defScope s_law_stilled) := ⟨rfl, rfl, rfl, by decide +kernel, rfl, by decide +kernel, by decide +kernel⟩
theorem d_law_stilled {P : Program} {w : World} {K : PySem.W.Frag} {mg : Str → Option Value} {base : Heap} {C_NoItem C_NudgeError C_NoNumber C_NoOrder C_NoTask C_NoWish : Addr} (T : Txt K mg C_NoItem C_NudgeError C_NoNumber C_NoOrder C_NoTask C_NoWish)  {f : Addr} (cdv : Value) (A : Around) (outer : List Env) (s : Shared) (H : Hp) (E : XK) (hr : Room 0 (A.deeper (PyProof.Rows.envOfC "_law_stilled" (defScope s_law_stilled) s.heap.objs.size f cdv))) :
    DSs (cxOf CX0 P w K mg base ["_law_task_here", "_law_items", "_law_bounds", "_law_item", "_law_shape", "_law_plan"] "_law_stilled" (defScope s_law_stilled) f cdv A outer s H E).nox W0 (defBody s_law_stilled) t_law_stilled :=
  (dss_cons (ds_set (i := 2) sc_law_stilled.nd (de_blty call_list_of l_listC T.b_list (by decide +kernel) (da_cons (de_ix (de_var 0) de_int) da_nil)))
    (dss_cons (ds_for PassesOwn.never (di_seq (de_var 1)) (pg_name (i := 3) sc_law_stilled.nd rfl (by first | exact Or.inl rfl | exact Or.inr rfl)) lg_name (dss_one (ds_setix (de_tup (da_cons (de_ix (de_ix (de_var 0) de_int) (de_var 3)) (da_cons (de_ix (de_ix (de_var 0) de_int) (de_var 3)) da_nil))) (de_var 2) (de_var 3))))
    (dss_one (ds_ret (de_tup (da_cons (de_blty call_list_of l_list T.b_list (by decide +kernel) (da_cons (de_ix (de_var 0) de_int) da_nil)) (da_cons (de_lc (own := [("_law_shape", 4), ("_law_plan", 5)]) sc_law_stilled.nd (di_seq (de_ix (de_var 0) de_int)) (blkOk_by (N := ["_law_task_here", "_law_items", "_law_bounds", "_law_item", "_law_shape", "_law_plan"]) (sc := defScope s_law_stilled) (by decide +kernel)) (lg_tup (lg_cons lg_name (lg_cons lg_name lg_nil)) (ln_cons (ln_cons ln_nil))) (si_tup (si_cons (si_name (by decide)) (si_cons (si_name (by decide)) si_nil))) (fun _ _ _ _ _ => (pg_tup rfl (pgs_cons (pg_name (i := 4) sc_law_stilled.nd rfl (by first | exact Or.inl rfl | exact Or.inr rfl)) (pgs_cons (pg_name (i := 5) sc_law_stilled.nd rfl (by first | exact Or.inl rfl | exact Or.inr rfl)) pgs_nil)))) (fun _ _ _ _ _ => dts_nil) (fun _ _ _ _ _ => (de_tup (da_cons (de_var 4) (da_cons (de_blty call_list_of l_list T.b_list (by decide +kernel) (da_cons (de_var 5) da_nil)) da_nil))))) (da_cons (de_fz (de_var 2)) (da_cons (de_blty call_list_of l_list T.b_list (by decide +kernel) (da_cons (de_ix (de_var 0) de_int) da_nil)) (da_cons (de_ix (de_var 0) de_int) da_nil))))))))))
abbrev s_is_whole : Stmt := topS 10
theorem sc_is_whole : FnScope ["thing"] ["thing"] (defScope s_is_whole) := ⟨rfl, rfl, rfl, by decide +kernel, rfl, by decide +kernel, by decide +kernel⟩
theorem d_is_whole {P : Program} {w : World} {K : PySem.W.Frag} {mg : Str → Option Value} {base : Heap} {C_NoItem C_NudgeError C_NoNumber C_NoOrder C_NoTask C_NoWish : Addr} (T : Txt K mg C_NoItem C_NudgeError C_NoNumber C_NoOrder C_NoTask C_NoWish)  {f : Addr} (cdv : Value) (A : Around) (outer : List Env) (s : Shared) (H : Hp) (E : XK) (hr : Room 0 (A.deeper (PyProof.Rows.envOfC "is_whole" (defScope s_is_whole) s.heap.objs.size f cdv))) :
    DSs (cxOf CX0 P w K mg base ["thing"] "is_whole" (defScope s_is_whole) f cdv A outer s H E).nox W0 (defBody s_is_whole) t_is_whole :=
  (dss_one (ds_ret (de_and (de_blt call_isi (l_isi (by decide)) T.b_isinstance (by decide +kernel) (da_cons (de_var 0) (da_cons (de_bltn T.b_int (by decide +kernel) rfl) da_nil))) (de_one (de_not (de_blt call_isi (l_isi (by decide)) T.b_isinstance (by decide +kernel) (da_cons (de_var 0) (da_cons (de_bltn T.b_bool (by decide +kernel) rfl) da_nil))))))))
abbrev s_are_items : Stmt := topS 62
theorem sc_are_items : FnScope ["thing", "many", "ahead", "item"] ["thing", "many"] (defScope s_are_items) := ⟨rfl, rfl, rfl, by decide +kernel, rfl, by decide +kernel, by decide +kernel⟩
theorem d_are_items {P : Program} {w : World} {K : PySem.W.Frag} {mg : Str → Option Value} {base : Heap} {C_NoItem C_NudgeError C_NoNumber C_NoOrder C_NoTask C_NoWish : Addr} (T : Txt K mg C_NoItem C_NudgeError C_NoNumber C_NoOrder C_NoTask C_NoWish) (F_is_whole : Dfn P w K mg base CX0 "is_whole" "is_whole" s_is_whole 1 ["thing"] c_is_whole) {f : Addr} (cdv : Value) (A : Around) (outer : List Env) (s : Shared) (H : Hp) (E : XK) (hr : Room 1 (A.deeper (PyProof.Rows.envOfC "are_items" (defScope s_are_items) s.heap.objs.size f cdv))) :
    DSs (cxOf CX0 P w K mg base ["thing", "many", "ahead", "item"] "are_items" (defScope s_are_items) f cdv A outer s H E).nox W0 (defBody s_are_items) t_are_items :=
  (dss_cons (ds_if (dt_not (dt_tru (de_blt call_isi (l_isi (by decide)) T.b_isinstance (by decide +kernel) (da_cons (de_var 0) (da_cons (de_bltn T.b_list (by decide +kernel) rfl) da_nil))))) (dss_one (ds_ret de_bl)) dss_nil)
    (dss_cons (ds_set (i := 2) sc_are_items.nd (de_neg de_int))
    (dss_cons (ds_for PassesOwn.never (di_seq (de_var 0)) (pg_name (i := 3) sc_are_items.nd rfl (by first | exact Or.inl rfl | exact Or.inr rfl)) lg_name (dss_cons (ds_if (DW.dt (dw_or (dt_not (dt_tru (de_call F_is_whole (hr.mono (by decide)) pw0 (da_cons (de_var 3) da_nil)))) (dw_or1 (dt_not (dt_chain op_lt (l_I0 fun _ _ _ => .bl _) op_lt (l_I0 fun _ _ _ => .bl _) (de_var 2) (de_var 3) (de_var 1)))))) (dss_one (ds_ret de_bl)) dss_nil)
    (dss_one (ds_set (i := 2) sc_are_items.nd (de_var 3)))))
    (dss_one (ds_ret de_bl)))))
abbrev s_copied : Stmt := topS 60
theorem sc_copied : FnScope ["task", "prices", "wishes", "bounds", "weights", "word", "shape", "plan"] ["task"] (defScope s_copied) := ⟨rfl, rfl, rfl, by decide +kernel, rfl, by decide +kernel, by decide +kernel⟩
theorem d_copied {P : Program} {w : World} {K : PySem.W.Frag} {mg : Str → Option Value} {base : Heap} {C_NoItem C_NudgeError C_NoNumber C_NoOrder C_NoTask C_NoWish : Addr} (T : Txt K mg C_NoItem C_NudgeError C_NoNumber C_NoOrder C_NoTask C_NoWish)  {f : Addr} (cdv : Value) (A : Around) (outer : List Env) (s : Shared) (H : Hp) (E : XK) (hr : Room 0 (A.deeper (PyProof.Rows.envOfC "copied" (defScope s_copied) s.heap.objs.size f cdv))) :
    DSs (cxOf CX0 P w K mg base ["task", "prices", "wishes", "bounds", "weights", "word", "shape", "plan"] "copied" (defScope s_copied) f cdv A outer s H E).nox W0 (defBody s_copied) t_copiedO :=
  (dss_cons (ds_asg (de_var 0) (pg_tup rfl (pgs_cons (pg_name (i := 1) sc_copied.nd rfl (by first | exact Or.inl rfl | exact Or.inr rfl)) (pgs_cons (pg_name (i := 2) sc_copied.nd rfl (by first | exact Or.inl rfl | exact Or.inr rfl)) (pgs_cons (pg_name (i := 3) sc_copied.nd rfl (by first | exact Or.inl rfl | exact Or.inr rfl)) (pgs_cons (pg_name (i := 4) sc_copied.nd rfl (by first | exact Or.inl rfl | exact Or.inr rfl)) (pgs_cons (pg_name (i := 5) sc_copied.nd rfl (by first | exact Or.inl rfl | exact Or.inr rfl)) pgs_nil)))))) (lg_tup (lg_cons lg_name (lg_cons lg_name (lg_cons lg_name (lg_cons lg_name (lg_cons lg_name lg_nil))))) (ln_cons (ln_cons (ln_cons (ln_cons (ln_cons ln_nil)))))))
    (dss_one (ds_ret (de_tup (da_cons (de_blty call_list_of l_listC T.b_list (by decide +kernel) (da_cons (de_var 1) da_nil)) (da_cons (de_lcC (own := [("shape", 6), ("plan", 7)]) sc_copied.nd (di_seq (de_var 2)) (blkOk_by (N := ["task", "prices", "wishes", "bounds", "weights", "word", "shape", "plan"]) (sc := defScope s_copied) (by decide +kernel)) (lg_tup (lg_cons lg_name (lg_cons lg_name lg_nil)) (ln_cons (ln_cons ln_nil))) (si_tup (si_cons (si_name (by decide)) (si_cons (si_name (by decide)) si_nil))) (fun _ _ _ _ _ => (pg_tup rfl (pgs_cons (pg_name (i := 6) sc_copied.nd rfl (by first | exact Or.inl rfl | exact Or.inr rfl)) (pgs_cons (pg_name (i := 7) sc_copied.nd rfl (by first | exact Or.inl rfl | exact Or.inr rfl)) pgs_nil)))) (fun _ _ _ _ _ => dts_nil) (fun _ _ _ _ _ => (de_tup (da_cons (de_var 6) (da_cons (de_blty call_list_of l_listC T.b_list (by decide +kernel) (da_cons (de_var 7) da_nil)) da_nil))))) (da_cons (de_blty call_list_of l_listC T.b_list (by decide +kernel) (da_cons (de_var 3) da_nil)) (da_cons (de_blty call_list_of l_listC T.b_list (by decide +kernel) (da_cons (de_var 4) da_nil)) (da_cons (de_var 5) da_nil)))))))))
abbrev s_stilled : Stmt := topS 63
theorem sc_stilled : FnScope ["task", "items", "prices", "wishes", "bounds", "weights", "word", "item"] ["task", "items"] (defScope s_stilled) := ⟨rfl, rfl, rfl, by decide +kernel, rfl, by decide +kernel, by decide +kernel⟩
theorem d_stilled {P : Program} {w : World} {K : PySem.W.Frag} {mg : Str → Option Value} {base : Heap} {C_NoItem C_NudgeError C_NoNumber C_NoOrder C_NoTask C_NoWish : Addr} (T : Txt K mg C_NoItem C_NudgeError C_NoNumber C_NoOrder C_NoTask C_NoWish) (F_are_items : Dfn P w K mg base CX0 "are_items" "are_items" s_are_items 2 ["thing", "many"] c_are_items) (F_copied : Dfn P w K mg base CX0 "copied" "copied" s_copied 1 ["task"] c_copiedO) {f : Addr} (cdv : Value) (A : Around) (outer : List Env) (s : Shared) (H : Hp) (E : XK) (hr : Room 2 (A.deeper (PyProof.Rows.envOfC "stilled" (defScope s_stilled) s.heap.objs.size f cdv)))
    (tk : Takes (cxOf (L2.CX P w) P w K mg base ["task", "items", "prices", "wishes", "bounds", "weights", "word", "item"] "stilled" (defScope s_stilled) f cdv A outer s H E) (fun cls d _ H' => E cls d H')) : DSs (cxOf (L2.CX P w) P w K mg base ["task", "items", "prices", "wishes", "bounds", "weights", "word", "item"] "stilled" (defScope s_stilled) f cdv A outer s H E) (fun cls d _ H' => E cls d H') (defBody s_stilled) (t_stilled C_NoItem) :=
  (dss_cons (ds_if (dt_not (dt_tru (de_call F_are_items (hr.mono (by decide)) pw0 (da_cons (de_var 1) (da_cons (de_blt call_len l_len T.b_len (by decide +kernel) (da_cons (de_ix (de_var 0) de_int) da_nil)) da_nil))))) (dss_one (ds_raise tk (pmk_own PySem.F.excBase_ValueError T.e_NoItem.x T.e_NoItem.g T.e_NoItem.k (raises_own T.e_NoItem.b T.e_NoItem.t) rfl))) dss_nil)
    (dss_cons (ds_asg (de_call F_copied (hr.mono (by decide)) pw0 (da_cons (de_var 0) da_nil)) (pg_tup rfl (pgs_cons (pg_name (i := 2) sc_stilled.nd rfl (by first | exact Or.inl rfl | exact Or.inr rfl)) (pgs_cons (pg_name (i := 3) sc_stilled.nd rfl (by first | exact Or.inl rfl | exact Or.inr rfl)) (pgs_cons (pg_name (i := 4) sc_stilled.nd rfl (by first | exact Or.inl rfl | exact Or.inr rfl)) (pgs_cons (pg_name (i := 5) sc_stilled.nd rfl (by first | exact Or.inl rfl | exact Or.inr rfl)) (pgs_cons (pg_name (i := 6) sc_stilled.nd rfl (by first | exact Or.inl rfl | exact Or.inr rfl)) pgs_nil)))))) (lg_tup (lg_cons lg_name (lg_cons lg_name (lg_cons lg_name (lg_cons lg_name (lg_cons lg_name lg_nil))))) (ln_cons (ln_cons (ln_cons (ln_cons (ln_cons ln_nil)))))))
    (dss_cons (ds_for (passes_of rfl) (di_seq (de_var 1)) (pg_name (i := 7) sc_stilled.nd rfl (by first | exact Or.inl rfl | exact Or.inr rfl)) lg_name (dss_one (ds_setix (de_tup (da_cons (de_ix (de_var 2) (de_var 7)) (da_cons (de_ix (de_var 2) (de_var 7)) da_nil))) (de_var 4) (de_var 7))))
    (dss_one (ds_ret (de_tup (da_cons (de_var 2) (da_cons (de_var 3) (da_cons (de_var 4) (da_cons (de_var 5) (da_cons (de_var 6) da_nil)))))))))))
abbrev s_under : Stmt := topS 17
theorem sc_under : FnScope ["one", "other"] ["one", "other"] (defScope s_under) := ⟨rfl, rfl, rfl, by decide +kernel, rfl, by decide +kernel, by decide +kernel⟩
theorem d_under {P : Program} {w : World} {K : PySem.W.Frag} {mg : Str → Option Value} {base : Heap} {C_NoItem C_NudgeError C_NoNumber C_NoOrder C_NoTask C_NoWish : Addr} (T : Txt K mg C_NoItem C_NudgeError C_NoNumber C_NoOrder C_NoTask C_NoWish)  {f : Addr} (cdv : Value) (A : Around) (outer : List Env) (s : Shared) (H : Hp) (E : XK) (hr : Room 0 (A.deeper (PyProof.Rows.envOfC "under" (defScope s_under) s.heap.objs.size f cdv))) :
    DSs (cxOf CX0 P w K mg base ["one", "other"] "under" (defScope s_under) f cdv A outer s H E).nox W0 (defBody s_under) t_under :=
  (dss_one (ds_ret (de_lt (de_mul (de_ix (de_var 0) de_int) (de_ix (de_var 1) de_int)) (de_mul (de_ix (de_var 1) de_int) (de_ix (de_var 0) de_int)))))
abbrev s_needed : Stmt := topS 64
theorem sc_needed : FnScope ["task", "item", "least", "found"] ["task", "item"] (defScope s_needed) := ⟨rfl, rfl, rfl, by decide +kernel, rfl, by decide +kernel, by decide +kernel⟩
theorem d_needed {P : Program} {w : World} {K : PySem.W.Frag} {mg : Str → Option Value} {base : Heap} {C_NoItem C_NudgeError C_NoNumber C_NoOrder C_NoTask C_NoWish : Addr} (T : Txt K mg C_NoItem C_NudgeError C_NoNumber C_NoOrder C_NoTask C_NoWish) (F_are_items : Dfn P w K mg base CX0 "are_items" "are_items" s_are_items 2 ["thing", "many"] c_are_items) (F_stilled : Dfn P w K mg base (L2.CX P w) "stilled" "stilled" s_stilled 3 ["task", "items"] (c_stilled C_NoItem)) (F_under : Dfn P w K mg base CX0 "under" "under" s_under 1 ["one", "other"] c_under) {f : Addr} (cdv : Value) (A : Around) (outer : List Env) (s : Shared) (H : Hp) (E : XK) (hr : Room 2 (A.deeper (PyProof.Rows.envOfC "needed" (defScope s_needed) s.heap.objs.size f cdv)))
    (tk : Takes (cxOf (L2.CX P w) P w K mg base ["task", "item", "least", "found"] "needed" (defScope s_needed) f cdv A outer s H E) (fun cls d _ H' => E cls d H')) : DSs (cxOf (L2.CX P w) P w K mg base ["task", "item", "least", "found"] "needed" (defScope s_needed) f cdv A outer s H E) (fun cls d _ H' => E cls d H') (defBody s_needed) (t_needed C_NoItem) :=
  (dss_cons (ds_if (dt_not (dt_tru (de_call F_are_items (hr.mono (by decide)) pw0 (da_cons (de_lst (da_cons (de_var 1) da_nil)) (da_cons (de_blt call_len l_len T.b_len (by decide +kernel) (da_cons (de_ix (de_var 0) de_int) da_nil)) da_nil))))) (dss_one (ds_raise tk (pmk_own PySem.F.excBase_ValueError T.e_NoItem.x T.e_NoItem.g T.e_NoItem.k (raises_own T.e_NoItem.b T.e_NoItem.t) rfl))) dss_nil)
    (dss_cons (ds_set (i := 2) sc_needed.nd de_no)
    (dss_cons (ds_if (dt_eq hr (de_ix (de_var 2) de_int) de_str) (dss_one (ds_ret de_non)) dss_nil)
    (dss_cons (ds_set (i := 3) sc_needed.nd de_no)
    (dss_cons (ds_if (dt_eq hr (de_ix (de_var 3) de_int) de_str) (dss_one (ds_ret (de_ix (de_var 3) de_int))) dss_nil)
    (dss_cons (ds_if (dt_tru (de_call F_under (hr.mono (by decide)) pw0 (da_cons (de_ix (de_var 2) de_int) (da_cons (de_ix (de_var 3) de_int) da_nil)))) (dss_one (ds_ret (de_ix (de_var 3) de_int))) dss_nil)
    (dss_one (ds_ret de_non))))))))
abbrev s_law_kind_of : Stmt := topS 68
theorem sc_law_kind_of : FnScope ["_law_e", "_law_found"] ["_law_e", "_law_found"] (defScope s_law_kind_of) := ⟨rfl, rfl, rfl, by decide +kernel, rfl, by decide +kernel, by decide +kernel⟩
theorem d_law_kind_of {P : Program} {w : World} {K : PySem.W.Frag} {mg : Str → Option Value} {base : Heap} {C_NoItem C_NudgeError C_NoNumber C_NoOrder C_NoTask C_NoWish : Addr} (T : Txt K mg C_NoItem C_NudgeError C_NoNumber C_NoOrder C_NoTask C_NoWish)  {f : Addr} (cdv : Value) (A : Around) (outer : List Env) (s : Shared) (H : Hp) (E : XK) (hr : Room 0 (A.deeper (PyProof.Rows.envOfC "_law_kind_of" (defScope s_law_kind_of) s.heap.objs.size f cdv))) :
    DSs (cxOf CX0 P w K mg base ["_law_e", "_law_found"] "_law_kind_of" (defScope s_law_kind_of) f cdv A outer s H E).nox W0 (defBody s_law_kind_of) (t_law_kind_of K) :=
  (dss_cons (ds_if (DW.dt (dw_or (dt_ne hr (de_m PySem.F.slot_list_count PySem.F.type_list_count (mt_cntD hr) l_cntD (de_var 1) (da_cons de_bl da_nil)) de_int) (dw_or1 (dt_not (dt_tru (de_blt call_isX l_isE T.b_isinstance (by decide +kernel) (da_cons (de_var 0) (da_cons (de_bltn T.b_ValueError (by decide +kernel) rfl) da_nil)))))))) (dss_one (ds_ret (de_neg de_int))) dss_nil)
    (dss_one (ds_ret (de_m PySem.F.slot_list_index PySem.F.type_list_index mt_index l_index (de_var 1) (da_cons de_bl da_nil)))))
abbrev s_law_told : Stmt := topS 92
theorem sc_law_told : FnScope ["_law_task_here", "_law_thing", "_law_way", "_law_error", "_law_found", "_law_e", "_law_kinds"] ["_law_task_here", "_law_thing", "_law_way"] (defScope s_law_told) := ⟨rfl, rfl, rfl, by decide +kernel, rfl, by decide +kernel, by decide +kernel⟩
theorem d_law_told {P : Program} {w : World} {K : PySem.W.Frag} {mg : Str → Option Value} {base : Heap} {C_NoItem C_NudgeError C_NoNumber C_NoOrder C_NoTask C_NoWish : Addr} (T : Txt K mg C_NoItem C_NudgeError C_NoNumber C_NoOrder C_NoTask C_NoWish) (F_stilled : Dfn P w K mg base (L2.CX P w) "stilled" "stilled" s_stilled 3 ["task", "items"] (c_stilled C_NoItem)) (F_needed : Dfn P w K mg base (L2.CX P w) "needed" "needed" s_needed 3 ["task", "item"] (c_needed C_NoItem)) (F_law_kind_of : Dfn P w K mg base CX0 "_law_kind_of" "_law_kind_of" s_law_kind_of 1 ["_law_e", "_law_found"] (c_kind_of K)) {f : Addr} (cdv : Value) (A : Around) (outer : List Env) (s : Shared) (H : Hp) (E : XK) (hr : Room 3 (A.deeper (PyProof.Rows.envOfC "_law_told" (defScope s_law_told) s.heap.objs.size f cdv))) :
    DSs (cxOf CX0 P w K mg base ["_law_task_here", "_law_thing", "_law_way", "_law_error", "_law_found", "_law_e", "_law_kinds"] "_law_told" (defScope s_law_told) f cdv A outer s H E).nox W0 (defBody s_law_told) (t_law_told K C_NoItem C_NoNumber C_NoOrder C_NoTask C_NoWish C_NudgeError) :=
  (dss_cons (ds_set (i := 3) sc_law_told.nd de_non)
    (dss_cons (ds_set (i := 4) sc_law_told.nd de_non)
    (dss_cons (ds_tryK (i := 5) sc_law_told.nd ⟨rfl, by decide, Or.inl T.g_NudgeError⟩ takes0 (fun W2 pn2 xe2 tk2 po2 => (dss_one (ds_if (dt_eq hr (de_var 2) de_int) (dss_one (ds_set (i := 4) sc_law_told.nd (de_call F_stilled (hr.mono (by decide)) (pw1 tk2) (da_cons (de_var 0) (da_cons (de_var 1) da_nil))))) (dss_one (ds_set (i := 4) sc_law_told.nd (de_call F_needed (hr.mono (by decide)) (pw1 tk2) (da_cons (de_var 0) (da_cons (de_var 1) da_nil)))))))) (fun a3 pn3 => (dss_one (ds_set (i := 3) sc_law_told.nd (de_var 5)))))
    (dss_cons (ds_if (dt_is (de_var 3) de_non) (dss_one (ds_ret (de_var 4))) dss_nil)
    (dss_cons (ds_set (i := 6) sc_law_told.nd (de_lst (da_cons (de_blt call_isX l_isE T.b_isinstance (by decide +kernel) (da_cons (de_var 3) (da_cons (de_cls T.g_NoItem) da_nil))) (da_cons (de_blt call_isX l_isE T.b_isinstance (by decide +kernel) (da_cons (de_var 3) (da_cons (de_cls T.g_NoNumber) da_nil))) (da_cons (de_blt call_isX l_isE T.b_isinstance (by decide +kernel) (da_cons (de_var 3) (da_cons (de_cls T.g_NoOrder) da_nil))) da_nil)))))
    (dss_cons (ds_set (i := 6) sc_law_told.nd (de_add (de_var 6) (de_lst (da_cons (de_blt call_isX l_isE T.b_isinstance (by decide +kernel) (da_cons (de_var 3) (da_cons (de_cls T.g_NoTask) da_nil))) (da_cons (de_blt call_isX l_isE T.b_isinstance (by decide +kernel) (da_cons (de_var 3) (da_cons (de_cls T.g_NoWish) da_nil))) da_nil)))))
    (dss_one (ds_ret (de_ix (de_lst (da_cons de_str (da_cons de_str da_nil))) (de_blty call_int1 l_int T.b_int (by decide +kernel) (da_cons (de_ne hr (de_call F_law_kind_of (hr.mono (by decide)) pw0 (da_cons (de_var 3) (da_cons (de_var 6) da_nil))) de_int) da_nil)))))))))))
abbrev s_law : Stmt := topS 93
theorem sc_law : FnScope ["_law_script", "_law_k", "_law_pool_here", "_law_task_here", "_law_many", "_law_items", "_law_kept", "_law_thing", "_law_due", "_law_written", "_law_found", "_law_more", "_law_odd"] ["_law_script"] (defScope s_law) := ⟨rfl, rfl, rfl, by decide +kernel, rfl, by decide +kernel, by decide +kernel⟩
theorem d_law {P : Program} {w : World} {K : PySem.W.Frag} {mg : Str → Option Value} {base : Heap} {C_NoItem C_NudgeError C_NoNumber C_NoOrder C_NoTask C_NoWish : Addr} (T : Txt K mg C_NoItem C_NudgeError C_NoNumber C_NoOrder C_NoTask C_NoWish) (F_law_pool : Dfn P w K mg base CX0 "_law_pool" "_law_pool" s_law_pool 2 ["_law_script", "_law_k"] c_pool) (F_law_task : Dfn P w K mg base CX0 "_law_task" "_law_task" s_law_task 7 ["_law_pool_here"] c_task) (F_law_items_drawn : Dfn P w K mg base CX0 "_law_items_drawn" "_law_items_drawn" s_law_items_drawn 2 ["_law_pool_here", "_law_many"] c_items) (F_law_odd_items : Dfn P w K mg base CX0 "_law_odd_items" "_law_odd_items" s_law_odd_items 2 ["_law_pool_here", "_law_many", "_law_items"] c_odd_items) (F_law_good : Dfn P w K mg base CX0 "_law_good" "_law_good" s_law_good 2 ["_law_many", "_law_thing"] c_good) (F_law_stilled : Dfn P w K mg base CX0 "_law_stilled" "_law_stilled" s_law_stilled 1 ["_law_task_here", "_law_items"] c_lstil) (F_law_told : Dfn P w K mg base CX0 "_law_told" "_law_told" s_law_told 4 ["_law_task_here", "_law_thing", "_law_way"] c_told) (F_stilled : Dfn P w K mg base (L2.CX P w) "stilled" "stilled" s_stilled 3 ["task", "items"] (c_stilled C_NoItem)) (F_law_take : Dfn P w K mg base CX0 "_law_take" "_law_take" s_law_take 1 ["_law_pool_here", "_law_many"] c_take) {f : Addr} (cdv : Value) (A : Around) (outer : List Env) (s : Shared) (H : Hp) (E : XK) (hG : A.guards = some []) (hr : Room 7 (A.deeper (PyProof.Rows.envOfC "law" (defScope s_law) s.heap.objs.size f cdv))) :
    DSs (cxOf CX0 P w K mg base ["_law_script", "_law_k", "_law_pool_here", "_law_task_here", "_law_many", "_law_items", "_law_kept", "_law_thing", "_law_due", "_law_written", "_law_found", "_law_more", "_law_odd"] "law" (defScope s_law) f cdv A outer s H E).nox W0 (defBody s_law) (t_law C_NoItem) :=
  (dss_cons (ds_for PassesOwn.never (di_range1 T.b_range (da_cons (de_blt (call_max2 rfl) l_max2 T.b_max (by decide +kernel) (da_cons de_int (da_cons (de_blt (call_min2 rfl) l_min2 T.b_min (by decide +kernel) (da_cons (de_blt call_len l_len T.b_len (by decide +kernel) (da_cons (de_var 0) da_nil)) (da_cons de_int da_nil))) da_nil))) da_nil)) (pg_name (i := 1) sc_law.nd rfl (by first | exact Or.inl rfl | exact Or.inr rfl)) lg_name (dss_cons (ds_set (i := 2) sc_law.nd (de_call F_law_pool (hr.mono (by decide)) pw0 (da_cons (de_var 0) (da_cons (de_var 1) da_nil))))
    (dss_cons (ds_set (i := 3) sc_law.nd (de_call F_law_task (hr.mono (by decide)) pw0 (da_cons (de_var 2) da_nil)))
    (dss_cons (ds_set (i := 4) sc_law.nd (de_blt call_len l_len T.b_len (by decide +kernel) (da_cons (de_ix (de_var 3) de_int) da_nil)))
    (dss_cons (ds_set (i := 5) sc_law.nd (de_call F_law_items_drawn (hr.mono (by decide)) pw0 (da_cons (de_var 2) (da_cons (de_var 4) da_nil))))
    (dss_cons (ds_set (i := 6) sc_law.nd (de_blt (call_reprE hG hr) l_reprE T.b_repr (by decide +kernel) (da_cons (de_var 3) da_nil)))
    (dss_cons (ds_for PassesOwn.never (di_seq (de_lst (da_cons (de_var 5) (da_cons (de_call F_law_odd_items (hr.mono (by decide)) pw0 (da_cons (de_var 2) (da_cons (de_var 4) (da_cons (de_var 5) da_nil)))) (da_cons (de_lst da_nil) da_nil))))) (pg_name (i := 7) sc_law.nd rfl (by first | exact Or.inl rfl | exact Or.inr rfl)) lg_name (dss_cons (ds_set (i := 8) sc_law.nd de_str)
    (dss_cons (ds_if (dt_tru (de_call F_law_good (hr.mono (by decide)) pw0 (da_cons (de_var 4) (da_cons (de_var 7) da_nil)))) (dss_one (ds_set (i := 8) sc_law.nd (de_call F_law_stilled (hr.mono (by decide)) pw0 (da_cons (de_var 3) (da_cons (de_var 7) da_nil))))) dss_nil)
    (dss_cons (ds_set (i := 9) sc_law.nd (de_blt (call_reprE hG hr) l_reprE T.b_repr (by decide +kernel) (da_cons (de_var 7) da_nil)))
    (dss_cons (ds_set (i := 10) sc_law.nd (de_call F_law_told (hr.mono (by decide)) pw0 (da_cons (de_var 3) (da_cons (de_var 7) (da_cons de_int da_nil)))))
    (dss_cons (ds_if (DW.dt (dw_or (dt_neS (de_bor (is := [10]) (by decide) (de_blt (call_reprE hG hr) l_reprE T.b_repr (by decide +kernel) (da_cons (de_var 10) da_nil))) (de_blt (call_reprE hG hr) l_reprE T.b_repr (by decide +kernel) (da_cons (de_var 8) da_nil))) (dw_or (dt_neS (de_blt (call_reprE hG hr) l_reprE T.b_repr (by decide +kernel) (da_cons (de_var 3) da_nil)) (de_var 6)) (dw_or1 (dt_neS (de_blt (call_reprE hG hr) l_reprE T.b_repr (by decide +kernel) (da_cons (de_var 7) da_nil)) (de_var 9)))))) (dss_one (ds_ret de_bl)) dss_nil)
    (dss_one (ds_if (dt_ne hr (de_var 8) de_str) (dss_cons (ds_expr (de_m PySem.F.slot_list_append PySem.F.type_list_append mt_append l_append (de_ix (de_var 10) de_int) (da_cons de_non da_nil)))
    (dss_cons (ds_expr (de_m PySem.F.slot_list_append PySem.F.type_list_append mt_append l_append (de_ix (de_ix (de_ix (de_var 10) de_int) de_int) de_int) (da_cons de_int da_nil)))
    (dss_cons (ds_expr (de_m0 PySem.F.slot_list_clear PySem.F.type_list_clear mt_clear l_clear (de_ix (de_var 10) de_int)))
    (dss_cons (ds_expr (de_m0 PySem.F.slot_list_pop PySem.F.type_list_pop mt_pop l_pop0 (de_ix (de_var 10) de_int)))
    (dss_one (ds_if (dt_neS (de_blt (call_reprE hG hr) l_reprE T.b_repr (by decide +kernel) (da_cons (de_fzD (de_call F_law_told (hr.mono (by decide)) pw0 (da_cons (de_var 3) (da_cons (de_var 7) (da_cons de_int da_nil))))) da_nil)) (de_blt (call_reprE hG hr) l_reprE T.b_repr (by decide +kernel) (da_cons (de_var 8) da_nil))) (dss_one (ds_ret de_bl)) dss_nil)))))) dss_nil))))))))
    (dss_cons (ds_set (i := 11) sc_law.nd (de_call F_law_items_drawn (hr.mono (by decide)) pw0 (da_cons (de_var 2) (da_cons (de_var 4) da_nil))))
    (dss_cons (ds_if (dt_ne hr (de_fzD (de_call F_stilled (hr.mono (by decide)) (pw1 takes0) (da_cons (de_fzD (de_call F_stilled (hr.mono (by decide)) (pw1 takes0) (da_cons (de_var 3) (da_cons (de_var 5) da_nil)))) (da_cons (de_var 11) da_nil)))) (de_call F_law_stilled (hr.mono (by decide)) pw0 (da_cons (de_var 3) (da_cons (de_sortSet T.b_sorted T.b_set (de_add (de_var 5) (de_var 11))) da_nil)))) (dss_one (ds_ret de_bl)) dss_nil)
    (dss_cons (ds_set (i := 12) sc_law.nd (de_ix (de_lst (da_cons de_non (da_cons de_bl (da_cons de_bl (da_cons de_str (da_cons (de_neg de_int) (da_cons (de_var 4) (da_cons (de_lst (da_cons de_int da_nil)) (da_cons (de_tup (da_cons de_int da_nil)) (da_cons (de_pow de_int de_int) da_nil)))))))))) (de_call F_law_take (hr.mono (by decide)) pw0 (da_cons (de_var 2) (da_cons de_int da_nil)))))
    (dss_one (ds_if (DW.dt (dw_or (dt_ne hr (de_call F_law_told (hr.mono (by decide)) pw0 (da_cons (de_var 3) (da_cons (de_var 12) (da_cons de_int da_nil)))) de_str) (dw_or1 (dt_neS (de_blt (call_reprE hG hr) l_reprE T.b_repr (by decide +kernel) (da_cons (de_var 3) da_nil)) (de_var 6))))) (dss_one (ds_ret de_bl)) dss_nil))))))))))))
    (dss_one (ds_ret de_bl)))
theorem ok_law_cell_at {P : Program} {w : World} {K : PySem.W.Frag} {mg : Str → Option Value} {base : Heap} {C_NoItem C_NudgeError C_NoNumber C_NoOrder C_NoTask C_NoWish : Addr} {f : Addr} {fd : FuncData} (F : Fun K "_law_cell_at" "_law_cell_at" s_law_cell_at f fd) (hm : mg "_law_cell_at" = some (.ref f)) (bn : Binds K fd ["_law_script", "_law_k"] []) (T : Txt K mg C_NoItem C_NudgeError C_NoNumber C_NoOrder C_NoTask C_NoWish)  :
    Dfn P w K mg base CX0 "_law_cell_at" "_law_cell_at" s_law_cell_at 1 ["_law_script", "_law_k"] c_cell_at :=
  dfnA (m := 2) F hm bn sc_law_cell_at (by intro ds μ Q X h; first | (obtain ⟨_, rfl, _⟩ := h; rfl) | (obtain ⟨_, _, rfl, _⟩ := h; rfl) | (obtain ⟨_, _, _, rfl, _⟩ := h; rfl) | (obtain ⟨_, _, _, _, rfl, _⟩ := h; rfl) | (obtain ⟨_, _, _, _, _, rfl, _⟩ := h; rfl) | (obtain ⟨_, _, _, _, _, _, rfl, _⟩ := h; rfl) | (obtain ⟨_, _, _, _, _, _, _, rfl, _⟩ := h; rfl) | (obtain ⟨_, _, _, _, _, _, _, _, rfl, _⟩ := h; rfl) | (obtain ⟨rfl, _⟩ := h; rfl)) (hb_law_cell_at) (d_law_cell_at T )
theorem ok_law_pool {P : Program} {w : World} {K : PySem.W.Frag} {mg : Str → Option Value} {base : Heap} {C_NoItem C_NudgeError C_NoNumber C_NoOrder C_NoTask C_NoWish : Addr} {f : Addr} {fd : FuncData} (F : Fun K "_law_pool" "_law_pool" s_law_pool f fd) (hm : mg "_law_pool" = some (.ref f)) (bn : Binds K fd ["_law_script", "_law_k"] []) (T : Txt K mg C_NoItem C_NudgeError C_NoNumber C_NoOrder C_NoTask C_NoWish) (F_law_cell_at : Dfn P w K mg base CX0 "_law_cell_at" "_law_cell_at" s_law_cell_at 1 ["_law_script", "_law_k"] c_cell_at) :
    Dfn P w K mg base CX0 "_law_pool" "_law_pool" s_law_pool 2 ["_law_script", "_law_k"] c_pool :=
  dfnA (m := 2) F hm bn sc_law_pool (by intro ds μ Q X h; first | (obtain ⟨_, rfl, _⟩ := h; rfl) | (obtain ⟨_, _, rfl, _⟩ := h; rfl) | (obtain ⟨_, _, _, rfl, _⟩ := h; rfl) | (obtain ⟨_, _, _, _, rfl, _⟩ := h; rfl) | (obtain ⟨_, _, _, _, _, rfl, _⟩ := h; rfl) | (obtain ⟨_, _, _, _, _, _, rfl, _⟩ := h; rfl) | (obtain ⟨_, _, _, _, _, _, _, rfl, _⟩ := h; rfl) | (obtain ⟨_, _, _, _, _, _, _, _, rfl, _⟩ := h; rfl) | (obtain ⟨rfl, _⟩ := h; rfl)) (hb_law_pool) (d_law_pool T F_law_cell_at)
theorem ok_law_take {P : Program} {w : World} {K : PySem.W.Frag} {mg : Str → Option Value} {base : Heap} {C_NoItem C_NudgeError C_NoNumber C_NoOrder C_NoTask C_NoWish : Addr} {f : Addr} {fd : FuncData} (F : Fun K "_law_take" "_law_take" s_law_take f fd) (hm : mg "_law_take" = some (.ref f)) (bn : Binds K fd ["_law_pool_here", "_law_many"] []) (T : Txt K mg C_NoItem C_NudgeError C_NoNumber C_NoOrder C_NoTask C_NoWish)  :
    Dfn P w K mg base CX0 "_law_take" "_law_take" s_law_take 1 ["_law_pool_here", "_law_many"] c_take :=
  dfnA (m := 2) F hm bn sc_law_take (by intro ds μ Q X h; first | (obtain ⟨_, rfl, _⟩ := h; rfl) | (obtain ⟨_, _, rfl, _⟩ := h; rfl) | (obtain ⟨_, _, _, rfl, _⟩ := h; rfl) | (obtain ⟨_, _, _, _, rfl, _⟩ := h; rfl) | (obtain ⟨_, _, _, _, _, rfl, _⟩ := h; rfl) | (obtain ⟨_, _, _, _, _, _, rfl, _⟩ := h; rfl) | (obtain ⟨_, _, _, _, _, _, _, rfl, _⟩ := h; rfl) | (obtain ⟨_, _, _, _, _, _, _, _, rfl, _⟩ := h; rfl) | (obtain ⟨rfl, _⟩ := h; rfl)) (hb_law_take) (d_law_take T )
theorem ok_law_shuffled {P : Program} {w : World} {K : PySem.W.Frag} {mg : Str → Option Value} {base : Heap} {C_NoItem C_NudgeError C_NoNumber C_NoOrder C_NoTask C_NoWish : Addr} {f : Addr} {fd : FuncData} (F : Fun K "_law_shuffled" "_law_shuffled" s_law_shuffled f fd) (hm : mg "_law_shuffled" = some (.ref f)) (bn : Binds K fd ["_law_pool_here", "_law_some"] []) (T : Txt K mg C_NoItem C_NudgeError C_NoNumber C_NoOrder C_NoTask C_NoWish) (F_law_take : Dfn P w K mg base CX0 "_law_take" "_law_take" s_law_take 1 ["_law_pool_here", "_law_many"] c_take) :
    Dfn P w K mg base CX0 "_law_shuffled" "_law_shuffled" s_law_shuffled 2 ["_law_pool_here", "_law_some"] c_shuffled :=
  dfnA (m := 2) F hm bn sc_law_shuffled (by intro ds μ Q X h; first | (obtain ⟨_, rfl, _⟩ := h; rfl) | (obtain ⟨_, _, rfl, _⟩ := h; rfl) | (obtain ⟨_, _, _, rfl, _⟩ := h; rfl) | (obtain ⟨_, _, _, _, rfl, _⟩ := h; rfl) | (obtain ⟨_, _, _, _, _, rfl, _⟩ := h; rfl) | (obtain ⟨_, _, _, _, _, _, rfl, _⟩ := h; rfl) | (obtain ⟨_, _, _, _, _, _, _, rfl, _⟩ := h; rfl) | (obtain ⟨_, _, _, _, _, _, _, _, rfl, _⟩ := h; rfl) | (obtain ⟨rfl, _⟩ := h; rfl)) (hb_law_shuffled) (d_law_shuffled T F_law_take)
theorem ok_law_more_ties {P : Program} {w : World} {K : PySem.W.Frag} {mg : Str → Option Value} {base : Heap} {C_NoItem C_NudgeError C_NoNumber C_NoOrder C_NoTask C_NoWish : Addr} {f : Addr} {fd : FuncData} (F : Fun K "_law_more_ties" "_law_more_ties" s_law_more_ties f fd) (hm : mg "_law_more_ties" = some (.ref f)) (bn : Binds K fd ["_law_pool_here", "_law_ties", "_law_many", "_law_most"] []) (T : Txt K mg C_NoItem C_NudgeError C_NoNumber C_NoOrder C_NoTask C_NoWish) (F_law_take : Dfn P w K mg base CX0 "_law_take" "_law_take" s_law_take 1 ["_law_pool_here", "_law_many"] c_take) (F_law_shuffled : Dfn P w K mg base CX0 "_law_shuffled" "_law_shuffled" s_law_shuffled 2 ["_law_pool_here", "_law_some"] c_shuffled) :
    Dfn P w K mg base CX0 "_law_more_ties" "_law_more_ties" s_law_more_ties 3 ["_law_pool_here", "_law_ties", "_law_many", "_law_most"] c_more_ties :=
  dfnA (m := 4) F hm bn sc_law_more_ties (by intro ds μ Q X h; first | (obtain ⟨_, rfl, _⟩ := h; rfl) | (obtain ⟨_, _, rfl, _⟩ := h; rfl) | (obtain ⟨_, _, _, rfl, _⟩ := h; rfl) | (obtain ⟨_, _, _, _, rfl, _⟩ := h; rfl) | (obtain ⟨_, _, _, _, _, rfl, _⟩ := h; rfl) | (obtain ⟨_, _, _, _, _, _, rfl, _⟩ := h; rfl) | (obtain ⟨_, _, _, _, _, _, _, rfl, _⟩ := h; rfl) | (obtain ⟨_, _, _, _, _, _, _, _, rfl, _⟩ := h; rfl) | (obtain ⟨rfl, _⟩ := h; rfl)) (hb_law_more_ties) (d_law_more_ties T F_law_take F_law_shuffled)
theorem ok_law_spanning {P : Program} {w : World} {K : PySem.W.Frag} {mg : Str → Option Value} {base : Heap} {C_NoItem C_NudgeError C_NoNumber C_NoOrder C_NoTask C_NoWish : Addr} {f : Addr} {fd : FuncData} (F : Fun K "_law_spanning" "_law_spanning" s_law_spanning f fd) (hm : mg "_law_spanning" = some (.ref f)) (bn : Binds K fd ["_law_pool_here", "_law_many"] []) (T : Txt K mg C_NoItem C_NudgeError C_NoNumber C_NoOrder C_NoTask C_NoWish) (F_law_take : Dfn P w K mg base CX0 "_law_take" "_law_take" s_law_take 1 ["_law_pool_here", "_law_many"] c_take) :
    Dfn P w K mg base CX0 "_law_spanning" "_law_spanning" s_law_spanning 2 ["_law_pool_here", "_law_many"] c_spanning :=
  dfnA (m := 2) F hm bn sc_law_spanning (by intro ds μ Q X h; first | (obtain ⟨_, rfl, _⟩ := h; rfl) | (obtain ⟨_, _, rfl, _⟩ := h; rfl) | (obtain ⟨_, _, _, rfl, _⟩ := h; rfl) | (obtain ⟨_, _, _, _, rfl, _⟩ := h; rfl) | (obtain ⟨_, _, _, _, _, rfl, _⟩ := h; rfl) | (obtain ⟨_, _, _, _, _, _, rfl, _⟩ := h; rfl) | (obtain ⟨_, _, _, _, _, _, _, rfl, _⟩ := h; rfl) | (obtain ⟨_, _, _, _, _, _, _, _, rfl, _⟩ := h; rfl) | (obtain ⟨rfl, _⟩ := h; rfl)) (hb_law_spanning) (d_law_spanning T F_law_take)
theorem ok_law_web_wish {P : Program} {w : World} {K : PySem.W.Frag} {mg : Str → Option Value} {base : Heap} {C_NoItem C_NudgeError C_NoNumber C_NoOrder C_NoTask C_NoWish : Addr} {f : Addr} {fd : FuncData} (F : Fun K "_law_web_wish" "_law_web_wish" s_law_web_wish f fd) (hm : mg "_law_web_wish" = some (.ref f)) (bn : Binds K fd ["_law_pool_here", "_law_way"] []) (T : Txt K mg C_NoItem C_NudgeError C_NoNumber C_NoOrder C_NoTask C_NoWish) (F_law_take : Dfn P w K mg base CX0 "_law_take" "_law_take" s_law_take 1 ["_law_pool_here", "_law_many"] c_take) (F_law_more_ties : Dfn P w K mg base CX0 "_law_more_ties" "_law_more_ties" s_law_more_ties 3 ["_law_pool_here", "_law_ties", "_law_many", "_law_most"] c_more_ties) (F_law_spanning : Dfn P w K mg base CX0 "_law_spanning" "_law_spanning" s_law_spanning 2 ["_law_pool_here", "_law_many"] c_spanning) :
    Dfn P w K mg base CX0 "_law_web_wish" "_law_web_wish" s_law_web_wish 4 ["_law_pool_here", "_law_way"] c_web_wish :=
  dfnA (m := 2) F hm bn sc_law_web_wish (by intro ds μ Q X h; first | (obtain ⟨_, rfl, _⟩ := h; rfl) | (obtain ⟨_, _, rfl, _⟩ := h; rfl) | (obtain ⟨_, _, _, rfl, _⟩ := h; rfl) | (obtain ⟨_, _, _, _, rfl, _⟩ := h; rfl) | (obtain ⟨_, _, _, _, _, rfl, _⟩ := h; rfl) | (obtain ⟨_, _, _, _, _, _, rfl, _⟩ := h; rfl) | (obtain ⟨_, _, _, _, _, _, _, rfl, _⟩ := h; rfl) | (obtain ⟨_, _, _, _, _, _, _, _, rfl, _⟩ := h; rfl) | (obtain ⟨rfl, _⟩ := h; rfl)) (hb_law_web_wish) (d_law_web_wish T F_law_take F_law_more_ties F_law_spanning)
theorem ok_law_pair_wish {P : Program} {w : World} {K : PySem.W.Frag} {mg : Str → Option Value} {base : Heap} {C_NoItem C_NudgeError C_NoNumber C_NoOrder C_NoTask C_NoWish : Addr} {f : Addr} {fd : FuncData} (F : Fun K "_law_pair_wish" "_law_pair_wish" s_law_pair_wish f fd) (hm : mg "_law_pair_wish" = some (.ref f)) (bn : Binds K fd ["_law_pool_here"] []) (T : Txt K mg C_NoItem C_NudgeError C_NoNumber C_NoOrder C_NoTask C_NoWish) (F_law_take : Dfn P w K mg base CX0 "_law_take" "_law_take" s_law_take 1 ["_law_pool_here", "_law_many"] c_take) (F_law_shuffled : Dfn P w K mg base CX0 "_law_shuffled" "_law_shuffled" s_law_shuffled 2 ["_law_pool_here", "_law_some"] c_shuffled) :
    Dfn P w K mg base CX0 "_law_pair_wish" "_law_pair_wish" s_law_pair_wish 3 ["_law_pool_here"] c_wish_of :=
  dfnA (m := 1) F hm bn sc_law_pair_wish (by intro ds μ Q X h; first | (obtain ⟨_, rfl, _⟩ := h; rfl) | (obtain ⟨_, _, rfl, _⟩ := h; rfl) | (obtain ⟨_, _, _, rfl, _⟩ := h; rfl) | (obtain ⟨_, _, _, _, rfl, _⟩ := h; rfl) | (obtain ⟨_, _, _, _, _, rfl, _⟩ := h; rfl) | (obtain ⟨_, _, _, _, _, _, rfl, _⟩ := h; rfl) | (obtain ⟨_, _, _, _, _, _, _, rfl, _⟩ := h; rfl) | (obtain ⟨_, _, _, _, _, _, _, _, rfl, _⟩ := h; rfl) | (obtain ⟨rfl, _⟩ := h; rfl)) (hb_law_pair_wish) (d_law_pair_wish T F_law_take F_law_shuffled)
theorem ok_law_deal_wish {P : Program} {w : World} {K : PySem.W.Frag} {mg : Str → Option Value} {base : Heap} {C_NoItem C_NudgeError C_NoNumber C_NoOrder C_NoTask C_NoWish : Addr} {f : Addr} {fd : FuncData} (F : Fun K "_law_deal_wish" "_law_deal_wish" s_law_deal_wish f fd) (hm : mg "_law_deal_wish" = some (.ref f)) (bn : Binds K fd ["_law_pool_here"] []) (T : Txt K mg C_NoItem C_NudgeError C_NoNumber C_NoOrder C_NoTask C_NoWish) (F_law_take : Dfn P w K mg base CX0 "_law_take" "_law_take" s_law_take 1 ["_law_pool_here", "_law_many"] c_take) :
    Dfn P w K mg base CX0 "_law_deal_wish" "_law_deal_wish" s_law_deal_wish 2 ["_law_pool_here"] c_wish_of :=
  dfnA (m := 1) F hm bn sc_law_deal_wish (by intro ds μ Q X h; first | (obtain ⟨_, rfl, _⟩ := h; rfl) | (obtain ⟨_, _, rfl, _⟩ := h; rfl) | (obtain ⟨_, _, _, rfl, _⟩ := h; rfl) | (obtain ⟨_, _, _, _, rfl, _⟩ := h; rfl) | (obtain ⟨_, _, _, _, _, rfl, _⟩ := h; rfl) | (obtain ⟨_, _, _, _, _, _, rfl, _⟩ := h; rfl) | (obtain ⟨_, _, _, _, _, _, _, rfl, _⟩ := h; rfl) | (obtain ⟨_, _, _, _, _, _, _, _, rfl, _⟩ := h; rfl) | (obtain ⟨rfl, _⟩ := h; rfl)) (hb_law_deal_wish) (d_law_deal_wish T F_law_take)
theorem ok_law_stream_wish {P : Program} {w : World} {K : PySem.W.Frag} {mg : Str → Option Value} {base : Heap} {C_NoItem C_NudgeError C_NoNumber C_NoOrder C_NoTask C_NoWish : Addr} {f : Addr} {fd : FuncData} (F : Fun K "_law_stream_wish" "_law_stream_wish" s_law_stream_wish f fd) (hm : mg "_law_stream_wish" = some (.ref f)) (bn : Binds K fd ["_law_pool_here"] []) (T : Txt K mg C_NoItem C_NudgeError C_NoNumber C_NoOrder C_NoTask C_NoWish) (F_law_take : Dfn P w K mg base CX0 "_law_take" "_law_take" s_law_take 1 ["_law_pool_here", "_law_many"] c_take) (F_law_more_ties : Dfn P w K mg base CX0 "_law_more_ties" "_law_more_ties" s_law_more_ties 3 ["_law_pool_here", "_law_ties", "_law_many", "_law_most"] c_more_ties) (F_law_spanning : Dfn P w K mg base CX0 "_law_spanning" "_law_spanning" s_law_spanning 2 ["_law_pool_here", "_law_many"] c_spanning) :
    Dfn P w K mg base CX0 "_law_stream_wish" "_law_stream_wish" s_law_stream_wish 4 ["_law_pool_here"] c_wish_of :=
  dfnA (m := 1) F hm bn sc_law_stream_wish (by intro ds μ Q X h; first | (obtain ⟨_, rfl, _⟩ := h; rfl) | (obtain ⟨_, _, rfl, _⟩ := h; rfl) | (obtain ⟨_, _, _, rfl, _⟩ := h; rfl) | (obtain ⟨_, _, _, _, rfl, _⟩ := h; rfl) | (obtain ⟨_, _, _, _, _, rfl, _⟩ := h; rfl) | (obtain ⟨_, _, _, _, _, _, rfl, _⟩ := h; rfl) | (obtain ⟨_, _, _, _, _, _, _, rfl, _⟩ := h; rfl) | (obtain ⟨_, _, _, _, _, _, _, _, rfl, _⟩ := h; rfl) | (obtain ⟨rfl, _⟩ := h; rfl)) (hb_law_stream_wish) (d_law_stream_wish T F_law_take F_law_more_ties F_law_spanning)
theorem ok_law_bench_wish {P : Program} {w : World} {K : PySem.W.Frag} {mg : Str → Option Value} {base : Heap} {C_NoItem C_NudgeError C_NoNumber C_NoOrder C_NoTask C_NoWish : Addr} {f : Addr} {fd : FuncData} (F : Fun K "_law_bench_wish" "_law_bench_wish" s_law_bench_wish f fd) (hm : mg "_law_bench_wish" = some (.ref f)) (bn : Binds K fd ["_law_pool_here", "_law_works"] []) (T : Txt K mg C_NoItem C_NudgeError C_NoNumber C_NoOrder C_NoTask C_NoWish) (F_law_take : Dfn P w K mg base CX0 "_law_take" "_law_take" s_law_take 1 ["_law_pool_here", "_law_many"] c_take) (F_law_shuffled : Dfn P w K mg base CX0 "_law_shuffled" "_law_shuffled" s_law_shuffled 2 ["_law_pool_here", "_law_some"] c_shuffled) :
    Dfn P w K mg base CX0 "_law_bench_wish" "_law_bench_wish" s_law_bench_wish 3 ["_law_pool_here", "_law_works"] c_bench_wish :=
  dfnA (m := 2) F hm bn sc_law_bench_wish (by intro ds μ Q X h; first | (obtain ⟨_, rfl, _⟩ := h; rfl) | (obtain ⟨_, _, rfl, _⟩ := h; rfl) | (obtain ⟨_, _, _, rfl, _⟩ := h; rfl) | (obtain ⟨_, _, _, _, rfl, _⟩ := h; rfl) | (obtain ⟨_, _, _, _, _, rfl, _⟩ := h; rfl) | (obtain ⟨_, _, _, _, _, _, rfl, _⟩ := h; rfl) | (obtain ⟨_, _, _, _, _, _, _, rfl, _⟩ := h; rfl) | (obtain ⟨_, _, _, _, _, _, _, _, rfl, _⟩ := h; rfl) | (obtain ⟨rfl, _⟩ := h; rfl)) (hb_law_bench_wish) (d_law_bench_wish T F_law_take F_law_shuffled)
theorem ok_law_wish {P : Program} {w : World} {K : PySem.W.Frag} {mg : Str → Option Value} {base : Heap} {C_NoItem C_NudgeError C_NoNumber C_NoOrder C_NoTask C_NoWish : Addr} {f : Addr} {fd : FuncData} (F : Fun K "_law_wish" "_law_wish" s_law_wish f fd) (hm : mg "_law_wish" = some (.ref f)) (bn : Binds K fd ["_law_pool_here"] []) (T : Txt K mg C_NoItem C_NudgeError C_NoNumber C_NoOrder C_NoTask C_NoWish) (F_law_take : Dfn P w K mg base CX0 "_law_take" "_law_take" s_law_take 1 ["_law_pool_here", "_law_many"] c_take) (F_law_web_wish : Dfn P w K mg base CX0 "_law_web_wish" "_law_web_wish" s_law_web_wish 4 ["_law_pool_here", "_law_way"] c_web_wish) (F_law_pair_wish : Dfn P w K mg base CX0 "_law_pair_wish" "_law_pair_wish" s_law_pair_wish 3 ["_law_pool_here"] c_wish_of) (F_law_deal_wish : Dfn P w K mg base CX0 "_law_deal_wish" "_law_deal_wish" s_law_deal_wish 2 ["_law_pool_here"] c_wish_of) (F_law_stream_wish : Dfn P w K mg base CX0 "_law_stream_wish" "_law_stream_wish" s_law_stream_wish 4 ["_law_pool_here"] c_wish_of) (F_law_bench_wish : Dfn P w K mg base CX0 "_law_bench_wish" "_law_bench_wish" s_law_bench_wish 3 ["_law_pool_here", "_law_works"] c_bench_wish) :
    Dfn P w K mg base CX0 "_law_wish" "_law_wish" s_law_wish 5 ["_law_pool_here"] c_wish_of :=
  dfnA (m := 1) F hm bn sc_law_wish (by intro ds μ Q X h; first | (obtain ⟨_, rfl, _⟩ := h; rfl) | (obtain ⟨_, _, rfl, _⟩ := h; rfl) | (obtain ⟨_, _, _, rfl, _⟩ := h; rfl) | (obtain ⟨_, _, _, _, rfl, _⟩ := h; rfl) | (obtain ⟨_, _, _, _, _, rfl, _⟩ := h; rfl) | (obtain ⟨_, _, _, _, _, _, rfl, _⟩ := h; rfl) | (obtain ⟨_, _, _, _, _, _, _, rfl, _⟩ := h; rfl) | (obtain ⟨_, _, _, _, _, _, _, _, rfl, _⟩ := h; rfl) | (obtain ⟨rfl, _⟩ := h; rfl)) (hb_law_wish) (d_law_wish T F_law_take F_law_web_wish F_law_pair_wish F_law_deal_wish F_law_stream_wish F_law_bench_wish)
theorem ok_law_wishes {P : Program} {w : World} {K : PySem.W.Frag} {mg : Str → Option Value} {base : Heap} {C_NoItem C_NudgeError C_NoNumber C_NoOrder C_NoTask C_NoWish : Addr} {f : Addr} {fd : FuncData} (F : Fun K "_law_wishes" "_law_wishes" s_law_wishes f fd) (hm : mg "_law_wishes" = some (.ref f)) (bn : Binds K fd ["_law_pool_here"] []) (T : Txt K mg C_NoItem C_NudgeError C_NoNumber C_NoOrder C_NoTask C_NoWish) (F_law_wish : Dfn P w K mg base CX0 "_law_wish" "_law_wish" s_law_wish 5 ["_law_pool_here"] c_wish_of) (F_law_take : Dfn P w K mg base CX0 "_law_take" "_law_take" s_law_take 1 ["_law_pool_here", "_law_many"] c_take) (F_law_bench_wish : Dfn P w K mg base CX0 "_law_bench_wish" "_law_bench_wish" s_law_bench_wish 3 ["_law_pool_here", "_law_works"] c_bench_wish) (F_law_shuffled : Dfn P w K mg base CX0 "_law_shuffled" "_law_shuffled" s_law_shuffled 2 ["_law_pool_here", "_law_some"] c_shuffled) :
    Dfn P w K mg base CX0 "_law_wishes" "_law_wishes" s_law_wishes 6 ["_law_pool_here"] c_wishes :=
  dfnA (m := 1) F hm bn sc_law_wishes (by intro ds μ Q X h; first | (obtain ⟨_, rfl, _⟩ := h; rfl) | (obtain ⟨_, _, rfl, _⟩ := h; rfl) | (obtain ⟨_, _, _, rfl, _⟩ := h; rfl) | (obtain ⟨_, _, _, _, rfl, _⟩ := h; rfl) | (obtain ⟨_, _, _, _, _, rfl, _⟩ := h; rfl) | (obtain ⟨_, _, _, _, _, _, rfl, _⟩ := h; rfl) | (obtain ⟨_, _, _, _, _, _, _, rfl, _⟩ := h; rfl) | (obtain ⟨_, _, _, _, _, _, _, _, rfl, _⟩ := h; rfl) | (obtain ⟨rfl, _⟩ := h; rfl)) (hb_law_wishes) (d_law_wishes T F_law_wish F_law_take F_law_bench_wish F_law_shuffled)
theorem ok_law_low {P : Program} {w : World} {K : PySem.W.Frag} {mg : Str → Option Value} {base : Heap} {C_NoItem C_NudgeError C_NoNumber C_NoOrder C_NoTask C_NoWish : Addr} {f : Addr} {fd : FuncData} (F : Fun K "_law_low" "_law_low" s_law_low f fd) (hm : mg "_law_low" = some (.ref f)) (bn : Binds K fd ["_law_top", "_law_bottom"] []) (T : Txt K mg C_NoItem C_NudgeError C_NoNumber C_NoOrder C_NoTask C_NoWish)  :
    Dfn P w K mg base CX0 "_law_low" "_law_low" s_law_low 1 ["_law_top", "_law_bottom"] c_low :=
  dfnA (m := 2) F hm bn sc_law_low (by intro ds μ Q X h; first | (obtain ⟨_, rfl, _⟩ := h; rfl) | (obtain ⟨_, _, rfl, _⟩ := h; rfl) | (obtain ⟨_, _, _, rfl, _⟩ := h; rfl) | (obtain ⟨_, _, _, _, rfl, _⟩ := h; rfl) | (obtain ⟨_, _, _, _, _, rfl, _⟩ := h; rfl) | (obtain ⟨_, _, _, _, _, _, rfl, _⟩ := h; rfl) | (obtain ⟨_, _, _, _, _, _, _, rfl, _⟩ := h; rfl) | (obtain ⟨_, _, _, _, _, _, _, _, rfl, _⟩ := h; rfl) | (obtain ⟨rfl, _⟩ := h; rfl)) (hb_law_low) (d_law_low T )
theorem ok_law_number {P : Program} {w : World} {K : PySem.W.Frag} {mg : Str → Option Value} {base : Heap} {C_NoItem C_NudgeError C_NoNumber C_NoOrder C_NoTask C_NoWish : Addr} {f : Addr} {fd : FuncData} (F : Fun K "_law_number" "_law_number" s_law_number f fd) (hm : mg "_law_number" = some (.ref f)) (bn : Binds K fd ["_law_pool_here"] []) (T : Txt K mg C_NoItem C_NudgeError C_NoNumber C_NoOrder C_NoTask C_NoWish) (F_law_take : Dfn P w K mg base CX0 "_law_take" "_law_take" s_law_take 1 ["_law_pool_here", "_law_many"] c_take) (F_law_low : Dfn P w K mg base CX0 "_law_low" "_law_low" s_law_low 1 ["_law_top", "_law_bottom"] c_low) :
    Dfn P w K mg base CX0 "_law_number" "_law_number" s_law_number 2 ["_law_pool_here"] c_number :=
  dfnA (m := 1) F hm bn sc_law_number (by intro ds μ Q X h; first | (obtain ⟨_, rfl, _⟩ := h; rfl) | (obtain ⟨_, _, rfl, _⟩ := h; rfl) | (obtain ⟨_, _, _, rfl, _⟩ := h; rfl) | (obtain ⟨_, _, _, _, rfl, _⟩ := h; rfl) | (obtain ⟨_, _, _, _, _, rfl, _⟩ := h; rfl) | (obtain ⟨_, _, _, _, _, _, rfl, _⟩ := h; rfl) | (obtain ⟨_, _, _, _, _, _, _, rfl, _⟩ := h; rfl) | (obtain ⟨_, _, _, _, _, _, _, _, rfl, _⟩ := h; rfl) | (obtain ⟨rfl, _⟩ := h; rfl)) (hb_law_number) (d_law_number T F_law_take F_law_low)
theorem ok_law_minus {P : Program} {w : World} {K : PySem.W.Frag} {mg : Str → Option Value} {base : Heap} {C_NoItem C_NudgeError C_NoNumber C_NoOrder C_NoTask C_NoWish : Addr} {f : Addr} {fd : FuncData} (F : Fun K "_law_minus" "_law_minus" s_law_minus f fd) (hm : mg "_law_minus" = some (.ref f)) (bn : Binds K fd ["_law_one", "_law_other"] []) (T : Txt K mg C_NoItem C_NudgeError C_NoNumber C_NoOrder C_NoTask C_NoWish) (F_law_low : Dfn P w K mg base CX0 "_law_low" "_law_low" s_law_low 1 ["_law_top", "_law_bottom"] c_low) :
    Dfn P w K mg base CX0 "_law_minus" "_law_minus" s_law_minus 2 ["_law_one", "_law_other"] c_minus :=
  dfnA (m := 2) F hm bn sc_law_minus (by intro ds μ Q X h; first | (obtain ⟨_, rfl, _⟩ := h; rfl) | (obtain ⟨_, _, rfl, _⟩ := h; rfl) | (obtain ⟨_, _, _, rfl, _⟩ := h; rfl) | (obtain ⟨_, _, _, _, rfl, _⟩ := h; rfl) | (obtain ⟨_, _, _, _, _, rfl, _⟩ := h; rfl) | (obtain ⟨_, _, _, _, _, _, rfl, _⟩ := h; rfl) | (obtain ⟨_, _, _, _, _, _, _, rfl, _⟩ := h; rfl) | (obtain ⟨_, _, _, _, _, _, _, _, rfl, _⟩ := h; rfl) | (obtain ⟨rfl, _⟩ := h; rfl)) (hb_law_minus) (d_law_minus T F_law_low)
theorem ok_law_plus {P : Program} {w : World} {K : PySem.W.Frag} {mg : Str → Option Value} {base : Heap} {C_NoItem C_NudgeError C_NoNumber C_NoOrder C_NoTask C_NoWish : Addr} {f : Addr} {fd : FuncData} (F : Fun K "_law_plus" "_law_plus" s_law_plus f fd) (hm : mg "_law_plus" = some (.ref f)) (bn : Binds K fd ["_law_one", "_law_other"] []) (T : Txt K mg C_NoItem C_NudgeError C_NoNumber C_NoOrder C_NoTask C_NoWish) (F_law_low : Dfn P w K mg base CX0 "_law_low" "_law_low" s_law_low 1 ["_law_top", "_law_bottom"] c_low) :
    Dfn P w K mg base CX0 "_law_plus" "_law_plus" s_law_plus 2 ["_law_one", "_law_other"] c_plus :=
  dfnA (m := 2) F hm bn sc_law_plus (by intro ds μ Q X h; first | (obtain ⟨_, rfl, _⟩ := h; rfl) | (obtain ⟨_, _, rfl, _⟩ := h; rfl) | (obtain ⟨_, _, _, rfl, _⟩ := h; rfl) | (obtain ⟨_, _, _, _, rfl, _⟩ := h; rfl) | (obtain ⟨_, _, _, _, _, rfl, _⟩ := h; rfl) | (obtain ⟨_, _, _, _, _, _, rfl, _⟩ := h; rfl) | (obtain ⟨_, _, _, _, _, _, _, rfl, _⟩ := h; rfl) | (obtain ⟨_, _, _, _, _, _, _, _, rfl, _⟩ := h; rfl) | (obtain ⟨rfl, _⟩ := h; rfl)) (hb_law_plus) (d_law_plus T F_law_low)
theorem ok_law_bound {P : Program} {w : World} {K : PySem.W.Frag} {mg : Str → Option Value} {base : Heap} {C_NoItem C_NudgeError C_NoNumber C_NoOrder C_NoTask C_NoWish : Addr} {f : Addr} {fd : FuncData} (F : Fun K "_law_bound" "_law_bound" s_law_bound f fd) (hm : mg "_law_bound" = some (.ref f)) (bn : Binds K fd ["_law_pool_here", "_law_price", "_law_walked"] []) (T : Txt K mg C_NoItem C_NudgeError C_NoNumber C_NoOrder C_NoTask C_NoWish) (F_law_number : Dfn P w K mg base CX0 "_law_number" "_law_number" s_law_number 2 ["_law_pool_here"] c_number) (F_law_take : Dfn P w K mg base CX0 "_law_take" "_law_take" s_law_take 1 ["_law_pool_here", "_law_many"] c_take) (F_law_minus : Dfn P w K mg base CX0 "_law_minus" "_law_minus" s_law_minus 2 ["_law_one", "_law_other"] c_minus) (F_law_plus : Dfn P w K mg base CX0 "_law_plus" "_law_plus" s_law_plus 2 ["_law_one", "_law_other"] c_plus) :
    Dfn P w K mg base CX0 "_law_bound" "_law_bound" s_law_bound 3 ["_law_pool_here", "_law_price", "_law_walked"] c_bound :=
  dfnA (m := 3) F hm bn sc_law_bound (by intro ds μ Q X h; first | (obtain ⟨_, rfl, _⟩ := h; rfl) | (obtain ⟨_, _, rfl, _⟩ := h; rfl) | (obtain ⟨_, _, _, rfl, _⟩ := h; rfl) | (obtain ⟨_, _, _, _, rfl, _⟩ := h; rfl) | (obtain ⟨_, _, _, _, _, rfl, _⟩ := h; rfl) | (obtain ⟨_, _, _, _, _, _, rfl, _⟩ := h; rfl) | (obtain ⟨_, _, _, _, _, _, _, rfl, _⟩ := h; rfl) | (obtain ⟨_, _, _, _, _, _, _, _, rfl, _⟩ := h; rfl) | (obtain ⟨rfl, _⟩ := h; rfl)) (hb_law_bound) (d_law_bound T F_law_number F_law_take F_law_minus F_law_plus)
theorem ok_law_weight {P : Program} {w : World} {K : PySem.W.Frag} {mg : Str → Option Value} {base : Heap} {C_NoItem C_NudgeError C_NoNumber C_NoOrder C_NoTask C_NoWish : Addr} {f : Addr} {fd : FuncData} (F : Fun K "_law_weight" "_law_weight" s_law_weight f fd) (hm : mg "_law_weight" = some (.ref f)) (bn : Binds K fd ["_law_pool_here"] []) (T : Txt K mg C_NoItem C_NudgeError C_NoNumber C_NoOrder C_NoTask C_NoWish) (F_law_take : Dfn P w K mg base CX0 "_law_take" "_law_take" s_law_take 1 ["_law_pool_here", "_law_many"] c_take) :
    Dfn P w K mg base CX0 "_law_weight" "_law_weight" s_law_weight 2 ["_law_pool_here"] c_weight :=
  dfnA (m := 1) F hm bn sc_law_weight (by intro ds μ Q X h; first | (obtain ⟨_, rfl, _⟩ := h; rfl) | (obtain ⟨_, _, rfl, _⟩ := h; rfl) | (obtain ⟨_, _, _, rfl, _⟩ := h; rfl) | (obtain ⟨_, _, _, _, rfl, _⟩ := h; rfl) | (obtain ⟨_, _, _, _, _, rfl, _⟩ := h; rfl) | (obtain ⟨_, _, _, _, _, _, rfl, _⟩ := h; rfl) | (obtain ⟨_, _, _, _, _, _, _, rfl, _⟩ := h; rfl) | (obtain ⟨_, _, _, _, _, _, _, _, rfl, _⟩ := h; rfl) | (obtain ⟨rfl, _⟩ := h; rfl)) (hb_law_weight) (d_law_weight T F_law_take)
theorem ok_law_task {P : Program} {w : World} {K : PySem.W.Frag} {mg : Str → Option Value} {base : Heap} {C_NoItem C_NudgeError C_NoNumber C_NoOrder C_NoTask C_NoWish : Addr} {f : Addr} {fd : FuncData} (F : Fun K "_law_task" "_law_task" s_law_task f fd) (hm : mg "_law_task" = some (.ref f)) (bn : Binds K fd ["_law_pool_here"] []) (T : Txt K mg C_NoItem C_NudgeError C_NoNumber C_NoOrder C_NoTask C_NoWish) (F_law_wishes : Dfn P w K mg base CX0 "_law_wishes" "_law_wishes" s_law_wishes 6 ["_law_pool_here"] c_wishes) (F_law_number : Dfn P w K mg base CX0 "_law_number" "_law_number" s_law_number 2 ["_law_pool_here"] c_number) (F_law_take : Dfn P w K mg base CX0 "_law_take" "_law_take" s_law_take 1 ["_law_pool_here", "_law_many"] c_take) (F_law_minus : Dfn P w K mg base CX0 "_law_minus" "_law_minus" s_law_minus 2 ["_law_one", "_law_other"] c_minus) (F_law_bound : Dfn P w K mg base CX0 "_law_bound" "_law_bound" s_law_bound 3 ["_law_pool_here", "_law_price", "_law_walked"] c_bound) (F_law_weight : Dfn P w K mg base CX0 "_law_weight" "_law_weight" s_law_weight 2 ["_law_pool_here"] c_weight) :
    Dfn P w K mg base CX0 "_law_task" "_law_task" s_law_task 7 ["_law_pool_here"] c_task :=
  dfnA (m := 1) F hm bn sc_law_task (by intro ds μ Q X h; first | (obtain ⟨_, rfl, _⟩ := h; rfl) | (obtain ⟨_, _, rfl, _⟩ := h; rfl) | (obtain ⟨_, _, _, rfl, _⟩ := h; rfl) | (obtain ⟨_, _, _, _, rfl, _⟩ := h; rfl) | (obtain ⟨_, _, _, _, _, rfl, _⟩ := h; rfl) | (obtain ⟨_, _, _, _, _, _, rfl, _⟩ := h; rfl) | (obtain ⟨_, _, _, _, _, _, _, rfl, _⟩ := h; rfl) | (obtain ⟨_, _, _, _, _, _, _, _, rfl, _⟩ := h; rfl) | (obtain ⟨rfl, _⟩ := h; rfl)) (hb_law_task) (d_law_task T F_law_wishes F_law_number F_law_take F_law_minus F_law_bound F_law_weight)
theorem ok_law_items_drawn {P : Program} {w : World} {K : PySem.W.Frag} {mg : Str → Option Value} {base : Heap} {C_NoItem C_NudgeError C_NoNumber C_NoOrder C_NoTask C_NoWish : Addr} {f : Addr} {fd : FuncData} (F : Fun K "_law_items_drawn" "_law_items_drawn" s_law_items_drawn f fd) (hm : mg "_law_items_drawn" = some (.ref f)) (bn : Binds K fd ["_law_pool_here", "_law_many"] []) (T : Txt K mg C_NoItem C_NudgeError C_NoNumber C_NoOrder C_NoTask C_NoWish) (F_law_take : Dfn P w K mg base CX0 "_law_take" "_law_take" s_law_take 1 ["_law_pool_here", "_law_many"] c_take) :
    Dfn P w K mg base CX0 "_law_items_drawn" "_law_items_drawn" s_law_items_drawn 2 ["_law_pool_here", "_law_many"] c_items :=
  dfnA (m := 2) F hm bn sc_law_items_drawn (by intro ds μ Q X h; first | (obtain ⟨_, rfl, _⟩ := h; rfl) | (obtain ⟨_, _, rfl, _⟩ := h; rfl) | (obtain ⟨_, _, _, rfl, _⟩ := h; rfl) | (obtain ⟨_, _, _, _, rfl, _⟩ := h; rfl) | (obtain ⟨_, _, _, _, _, rfl, _⟩ := h; rfl) | (obtain ⟨_, _, _, _, _, _, rfl, _⟩ := h; rfl) | (obtain ⟨_, _, _, _, _, _, _, rfl, _⟩ := h; rfl) | (obtain ⟨_, _, _, _, _, _, _, _, rfl, _⟩ := h; rfl) | (obtain ⟨rfl, _⟩ := h; rfl)) (hb_law_items_drawn) (d_law_items_drawn T F_law_take)
theorem ok_law_odd_items {P : Program} {w : World} {K : PySem.W.Frag} {mg : Str → Option Value} {base : Heap} {C_NoItem C_NudgeError C_NoNumber C_NoOrder C_NoTask C_NoWish : Addr} {f : Addr} {fd : FuncData} (F : Fun K "_law_odd_items" "_law_odd_items" s_law_odd_items f fd) (hm : mg "_law_odd_items" = some (.ref f)) (bn : Binds K fd ["_law_pool_here", "_law_many", "_law_items"] []) (T : Txt K mg C_NoItem C_NudgeError C_NoNumber C_NoOrder C_NoTask C_NoWish) (F_law_take : Dfn P w K mg base CX0 "_law_take" "_law_take" s_law_take 1 ["_law_pool_here", "_law_many"] c_take) :
    Dfn P w K mg base CX0 "_law_odd_items" "_law_odd_items" s_law_odd_items 2 ["_law_pool_here", "_law_many", "_law_items"] c_odd_items :=
  dfnA (m := 3) F hm bn sc_law_odd_items (by intro ds μ Q X h; first | (obtain ⟨_, rfl, _⟩ := h; rfl) | (obtain ⟨_, _, rfl, _⟩ := h; rfl) | (obtain ⟨_, _, _, rfl, _⟩ := h; rfl) | (obtain ⟨_, _, _, _, rfl, _⟩ := h; rfl) | (obtain ⟨_, _, _, _, _, rfl, _⟩ := h; rfl) | (obtain ⟨_, _, _, _, _, _, rfl, _⟩ := h; rfl) | (obtain ⟨_, _, _, _, _, _, _, rfl, _⟩ := h; rfl) | (obtain ⟨_, _, _, _, _, _, _, _, rfl, _⟩ := h; rfl) | (obtain ⟨rfl, _⟩ := h; rfl)) (hb_law_odd_items) (d_law_odd_items T F_law_take)
theorem ok_law_no_wholes {P : Program} {w : World} {K : PySem.W.Frag} {mg : Str → Option Value} {base : Heap} {C_NoItem C_NudgeError C_NoNumber C_NoOrder C_NoTask C_NoWish : Addr} {f : Addr} {fd : FuncData} (F : Fun K "_law_no_wholes" "_law_no_wholes" s_law_no_wholes f fd) (hm : mg "_law_no_wholes" = some (.ref f)) (bn : Binds K fd ["_law_thing"] []) (T : Txt K mg C_NoItem C_NudgeError C_NoNumber C_NoOrder C_NoTask C_NoWish)  :
    Dfn P w K mg base CX0 "_law_no_wholes" "_law_no_wholes" s_law_no_wholes 1 ["_law_thing"] c_no_wholes :=
  dfnA (m := 1) F hm bn sc_law_no_wholes (by intro ds μ Q X h; first | (obtain ⟨_, rfl, _⟩ := h; rfl) | (obtain ⟨_, _, rfl, _⟩ := h; rfl) | (obtain ⟨_, _, _, rfl, _⟩ := h; rfl) | (obtain ⟨_, _, _, _, rfl, _⟩ := h; rfl) | (obtain ⟨_, _, _, _, _, rfl, _⟩ := h; rfl) | (obtain ⟨_, _, _, _, _, _, rfl, _⟩ := h; rfl) | (obtain ⟨_, _, _, _, _, _, _, rfl, _⟩ := h; rfl) | (obtain ⟨_, _, _, _, _, _, _, _, rfl, _⟩ := h; rfl) | (obtain ⟨rfl, _⟩ := h; rfl)) (hb_law_no_wholes) (d_law_no_wholes T )
theorem ok_law_good {P : Program} {w : World} {K : PySem.W.Frag} {mg : Str → Option Value} {base : Heap} {C_NoItem C_NudgeError C_NoNumber C_NoOrder C_NoTask C_NoWish : Addr} {f : Addr} {fd : FuncData} (F : Fun K "_law_good" "_law_good" s_law_good f fd) (hm : mg "_law_good" = some (.ref f)) (bn : Binds K fd ["_law_many", "_law_thing"] []) (T : Txt K mg C_NoItem C_NudgeError C_NoNumber C_NoOrder C_NoTask C_NoWish) (F_law_no_wholes : Dfn P w K mg base CX0 "_law_no_wholes" "_law_no_wholes" s_law_no_wholes 1 ["_law_thing"] c_no_wholes) :
    Dfn P w K mg base CX0 "_law_good" "_law_good" s_law_good 2 ["_law_many", "_law_thing"] c_good :=
  dfnA (m := 2) F hm bn sc_law_good (by intro ds μ Q X h; first | (obtain ⟨_, rfl, _⟩ := h; rfl) | (obtain ⟨_, _, rfl, _⟩ := h; rfl) | (obtain ⟨_, _, _, rfl, _⟩ := h; rfl) | (obtain ⟨_, _, _, _, rfl, _⟩ := h; rfl) | (obtain ⟨_, _, _, _, _, rfl, _⟩ := h; rfl) | (obtain ⟨_, _, _, _, _, _, rfl, _⟩ := h; rfl) | (obtain ⟨_, _, _, _, _, _, _, rfl, _⟩ := h; rfl) | (obtain ⟨_, _, _, _, _, _, _, _, rfl, _⟩ := h; rfl) | (obtain ⟨rfl, _⟩ := h; rfl)) (hb_law_good) (d_law_good T F_law_no_wholes)
theorem ok_law_stilled {P : Program} {w : World} {K : PySem.W.Frag} {mg : Str → Option Value} {base : Heap} {C_NoItem C_NudgeError C_NoNumber C_NoOrder C_NoTask C_NoWish : Addr} {f : Addr} {fd : FuncData} (F : Fun K "_law_stilled" "_law_stilled" s_law_stilled f fd) (hm : mg "_law_stilled" = some (.ref f)) (bn : Binds K fd ["_law_task_here", "_law_items"] []) (T : Txt K mg C_NoItem C_NudgeError C_NoNumber C_NoOrder C_NoTask C_NoWish)  :
    Dfn P w K mg base CX0 "_law_stilled" "_law_stilled" s_law_stilled 1 ["_law_task_here", "_law_items"] c_lstil :=
  dfnA (m := 2) F hm bn sc_law_stilled (by intro ds μ Q X h; first | (obtain ⟨_, rfl, _⟩ := h; rfl) | (obtain ⟨_, _, rfl, _⟩ := h; rfl) | (obtain ⟨_, _, _, rfl, _⟩ := h; rfl) | (obtain ⟨_, _, _, _, rfl, _⟩ := h; rfl) | (obtain ⟨_, _, _, _, _, rfl, _⟩ := h; rfl) | (obtain ⟨_, _, _, _, _, _, rfl, _⟩ := h; rfl) | (obtain ⟨_, _, _, _, _, _, _, rfl, _⟩ := h; rfl) | (obtain ⟨_, _, _, _, _, _, _, _, rfl, _⟩ := h; rfl) | (obtain ⟨rfl, _⟩ := h; rfl)) (hb_law_stilled) (d_law_stilled T )
theorem ok_is_whole {P : Program} {w : World} {K : PySem.W.Frag} {mg : Str → Option Value} {base : Heap} {C_NoItem C_NudgeError C_NoNumber C_NoOrder C_NoTask C_NoWish : Addr} {f : Addr} {fd : FuncData} (F : Fun K "is_whole" "is_whole" s_is_whole f fd) (hm : mg "is_whole" = some (.ref f)) (bn : Binds K fd ["thing"] []) (T : Txt K mg C_NoItem C_NudgeError C_NoNumber C_NoOrder C_NoTask C_NoWish)  :
    Dfn P w K mg base CX0 "is_whole" "is_whole" s_is_whole 1 ["thing"] c_is_whole :=
  dfnA (m := 1) F hm bn sc_is_whole (by intro ds μ Q X h; first | (obtain ⟨_, rfl, _⟩ := h; rfl) | (obtain ⟨_, _, rfl, _⟩ := h; rfl) | (obtain ⟨_, _, _, rfl, _⟩ := h; rfl) | (obtain ⟨_, _, _, _, rfl, _⟩ := h; rfl) | (obtain ⟨_, _, _, _, _, rfl, _⟩ := h; rfl) | (obtain ⟨_, _, _, _, _, _, rfl, _⟩ := h; rfl) | (obtain ⟨_, _, _, _, _, _, _, rfl, _⟩ := h; rfl) | (obtain ⟨_, _, _, _, _, _, _, _, rfl, _⟩ := h; rfl) | (obtain ⟨rfl, _⟩ := h; rfl)) (hb_is_whole) (d_is_whole T )
theorem ok_are_items {P : Program} {w : World} {K : PySem.W.Frag} {mg : Str → Option Value} {base : Heap} {C_NoItem C_NudgeError C_NoNumber C_NoOrder C_NoTask C_NoWish : Addr} {f : Addr} {fd : FuncData} (F : Fun K "are_items" "are_items" s_are_items f fd) (hm : mg "are_items" = some (.ref f)) (bn : Binds K fd ["thing", "many"] []) (T : Txt K mg C_NoItem C_NudgeError C_NoNumber C_NoOrder C_NoTask C_NoWish) (F_is_whole : Dfn P w K mg base CX0 "is_whole" "is_whole" s_is_whole 1 ["thing"] c_is_whole) :
    Dfn P w K mg base CX0 "are_items" "are_items" s_are_items 2 ["thing", "many"] c_are_items :=
  dfnA (m := 2) F hm bn sc_are_items (by intro ds μ Q X h; first | (obtain ⟨_, rfl, _⟩ := h; rfl) | (obtain ⟨_, _, rfl, _⟩ := h; rfl) | (obtain ⟨_, _, _, rfl, _⟩ := h; rfl) | (obtain ⟨_, _, _, _, rfl, _⟩ := h; rfl) | (obtain ⟨_, _, _, _, _, rfl, _⟩ := h; rfl) | (obtain ⟨_, _, _, _, _, _, rfl, _⟩ := h; rfl) | (obtain ⟨_, _, _, _, _, _, _, rfl, _⟩ := h; rfl) | (obtain ⟨_, _, _, _, _, _, _, _, rfl, _⟩ := h; rfl) | (obtain ⟨rfl, _⟩ := h; rfl)) (hb_are_items) (d_are_items T F_is_whole)
theorem ok_copied {P : Program} {w : World} {K : PySem.W.Frag} {mg : Str → Option Value} {base : Heap} {C_NoItem C_NudgeError C_NoNumber C_NoOrder C_NoTask C_NoWish : Addr} {f : Addr} {fd : FuncData} (F : Fun K "copied" "copied" s_copied f fd) (hm : mg "copied" = some (.ref f)) (bn : Binds K fd ["task"] []) (T : Txt K mg C_NoItem C_NudgeError C_NoNumber C_NoOrder C_NoTask C_NoWish)  :
    Dfn P w K mg base CX0 "copied" "copied" s_copied 1 ["task"] c_copiedO :=
  dfnA (m := 1) F hm bn sc_copied (by intro ds μ Q X h; first | (obtain ⟨_, rfl, _⟩ := h; rfl) | (obtain ⟨_, _, rfl, _⟩ := h; rfl) | (obtain ⟨_, _, _, rfl, _⟩ := h; rfl) | (obtain ⟨_, _, _, _, rfl, _⟩ := h; rfl) | (obtain ⟨_, _, _, _, _, rfl, _⟩ := h; rfl) | (obtain ⟨_, _, _, _, _, _, rfl, _⟩ := h; rfl) | (obtain ⟨_, _, _, _, _, _, _, rfl, _⟩ := h; rfl) | (obtain ⟨_, _, _, _, _, _, _, _, rfl, _⟩ := h; rfl) | (obtain ⟨rfl, _⟩ := h; rfl)) (hb_copiedO) (d_copied T )
theorem ok_stilled {P : Program} {w : World} {K : PySem.W.Frag} {mg : Str → Option Value} {base : Heap} {C_NoItem C_NudgeError C_NoNumber C_NoOrder C_NoTask C_NoWish : Addr} {f : Addr} {fd : FuncData} (F : Fun K "stilled" "stilled" s_stilled f fd) (hm : mg "stilled" = some (.ref f)) (bn : Binds K fd ["task", "items"] []) (T : Txt K mg C_NoItem C_NudgeError C_NoNumber C_NoOrder C_NoTask C_NoWish) (F_are_items : Dfn P w K mg base CX0 "are_items" "are_items" s_are_items 2 ["thing", "many"] c_are_items) (F_copied : Dfn P w K mg base CX0 "copied" "copied" s_copied 1 ["task"] c_copiedO) :
    Dfn P w K mg base (L2.CX P w) "stilled" "stilled" s_stilled 3 ["task", "items"] (c_stilled C_NoItem) :=
  dfnX (m := 2) F hm bn sc_stilled (by intro ds μ Q X h; first | (obtain ⟨_, rfl, _⟩ := h; rfl) | (obtain ⟨_, _, rfl, _⟩ := h; rfl) | (obtain ⟨_, _, _, rfl, _⟩ := h; rfl) | (obtain ⟨_, _, _, _, rfl, _⟩ := h; rfl) | (obtain ⟨_, _, _, _, _, rfl, _⟩ := h; rfl) | (obtain ⟨_, _, _, _, _, _, rfl, _⟩ := h; rfl) | (obtain ⟨_, _, _, _, _, _, _, rfl, _⟩ := h; rfl) | (obtain ⟨_, _, _, _, _, _, _, _, rfl, _⟩ := h; rfl) | (obtain ⟨rfl, _⟩ := h; rfl)) (hb_stilled) (d_stilled T F_are_items F_copied)
theorem ok_under {P : Program} {w : World} {K : PySem.W.Frag} {mg : Str → Option Value} {base : Heap} {C_NoItem C_NudgeError C_NoNumber C_NoOrder C_NoTask C_NoWish : Addr} {f : Addr} {fd : FuncData} (F : Fun K "under" "under" s_under f fd) (hm : mg "under" = some (.ref f)) (bn : Binds K fd ["one", "other"] []) (T : Txt K mg C_NoItem C_NudgeError C_NoNumber C_NoOrder C_NoTask C_NoWish)  :
    Dfn P w K mg base CX0 "under" "under" s_under 1 ["one", "other"] c_under :=
  dfnA (m := 2) F hm bn sc_under (by intro ds μ Q X h; first | (obtain ⟨_, rfl, _⟩ := h; rfl) | (obtain ⟨_, _, rfl, _⟩ := h; rfl) | (obtain ⟨_, _, _, rfl, _⟩ := h; rfl) | (obtain ⟨_, _, _, _, rfl, _⟩ := h; rfl) | (obtain ⟨_, _, _, _, _, rfl, _⟩ := h; rfl) | (obtain ⟨_, _, _, _, _, _, rfl, _⟩ := h; rfl) | (obtain ⟨_, _, _, _, _, _, _, rfl, _⟩ := h; rfl) | (obtain ⟨_, _, _, _, _, _, _, _, rfl, _⟩ := h; rfl) | (obtain ⟨rfl, _⟩ := h; rfl)) (hb_under) (d_under T )
theorem ok_needed {P : Program} {w : World} {K : PySem.W.Frag} {mg : Str → Option Value} {base : Heap} {C_NoItem C_NudgeError C_NoNumber C_NoOrder C_NoTask C_NoWish : Addr} {f : Addr} {fd : FuncData} (F : Fun K "needed" "needed" s_needed f fd) (hm : mg "needed" = some (.ref f)) (bn : Binds K fd ["task", "item"] []) (T : Txt K mg C_NoItem C_NudgeError C_NoNumber C_NoOrder C_NoTask C_NoWish) (F_are_items : Dfn P w K mg base CX0 "are_items" "are_items" s_are_items 2 ["thing", "many"] c_are_items) (F_stilled : Dfn P w K mg base (L2.CX P w) "stilled" "stilled" s_stilled 3 ["task", "items"] (c_stilled C_NoItem)) (F_under : Dfn P w K mg base CX0 "under" "under" s_under 1 ["one", "other"] c_under) :
    Dfn P w K mg base (L2.CX P w) "needed" "needed" s_needed 3 ["task", "item"] (c_needed C_NoItem) :=
  dfnX (m := 2) F hm bn sc_needed (by intro ds μ Q X h; first | (obtain ⟨_, rfl, _⟩ := h; rfl) | (obtain ⟨_, _, rfl, _⟩ := h; rfl) | (obtain ⟨_, _, _, rfl, _⟩ := h; rfl) | (obtain ⟨_, _, _, _, rfl, _⟩ := h; rfl) | (obtain ⟨_, _, _, _, _, rfl, _⟩ := h; rfl) | (obtain ⟨_, _, _, _, _, _, rfl, _⟩ := h; rfl) | (obtain ⟨_, _, _, _, _, _, _, rfl, _⟩ := h; rfl) | (obtain ⟨_, _, _, _, _, _, _, _, rfl, _⟩ := h; rfl) | (obtain ⟨rfl, _⟩ := h; rfl)) (hb_needed) (d_needed T F_are_items F_stilled F_under)
theorem ok_law_kind_of {P : Program} {w : World} {K : PySem.W.Frag} {mg : Str → Option Value} {base : Heap} {C_NoItem C_NudgeError C_NoNumber C_NoOrder C_NoTask C_NoWish : Addr} {f : Addr} {fd : FuncData} (F : Fun K "_law_kind_of" "_law_kind_of" s_law_kind_of f fd) (hm : mg "_law_kind_of" = some (.ref f)) (bn : Binds K fd ["_law_e", "_law_found"] []) (T : Txt K mg C_NoItem C_NudgeError C_NoNumber C_NoOrder C_NoTask C_NoWish)  :
    Dfn P w K mg base CX0 "_law_kind_of" "_law_kind_of" s_law_kind_of 1 ["_law_e", "_law_found"] (c_kind_of K) :=
  dfnA (m := 2) F hm bn sc_law_kind_of (by intro ds μ Q X h; first | (obtain ⟨_, rfl, _⟩ := h; rfl) | (obtain ⟨_, _, rfl, _⟩ := h; rfl) | (obtain ⟨_, _, _, rfl, _⟩ := h; rfl) | (obtain ⟨_, _, _, _, rfl, _⟩ := h; rfl) | (obtain ⟨_, _, _, _, _, rfl, _⟩ := h; rfl) | (obtain ⟨_, _, _, _, _, _, rfl, _⟩ := h; rfl) | (obtain ⟨_, _, _, _, _, _, _, rfl, _⟩ := h; rfl) | (obtain ⟨_, _, _, _, _, _, _, _, rfl, _⟩ := h; rfl) | (obtain ⟨rfl, _⟩ := h; rfl)) (hb_law_kind_of) (d_law_kind_of T )
theorem ok_law_told {P : Program} {w : World} {K : PySem.W.Frag} {mg : Str → Option Value} {base : Heap} {C_NoItem C_NudgeError C_NoNumber C_NoOrder C_NoTask C_NoWish : Addr} {f : Addr} {fd : FuncData} (F : Fun K "_law_told" "_law_told" s_law_told f fd) (hm : mg "_law_told" = some (.ref f)) (bn : Binds K fd ["_law_task_here", "_law_thing", "_law_way"] []) (T : Txt K mg C_NoItem C_NudgeError C_NoNumber C_NoOrder C_NoTask C_NoWish) (F_stilled : Dfn P w K mg base (L2.CX P w) "stilled" "stilled" s_stilled 3 ["task", "items"] (c_stilled C_NoItem)) (F_needed : Dfn P w K mg base (L2.CX P w) "needed" "needed" s_needed 3 ["task", "item"] (c_needed C_NoItem)) (F_law_kind_of : Dfn P w K mg base CX0 "_law_kind_of" "_law_kind_of" s_law_kind_of 1 ["_law_e", "_law_found"] (c_kind_of K)) :
    Dfn P w K mg base CX0 "_law_told" "_law_told" s_law_told 4 ["_law_task_here", "_law_thing", "_law_way"] c_told :=
  dfnA (m := 3) F hm bn sc_law_told (by intro ds μ Q X h; first | (obtain ⟨_, rfl, _⟩ := h; rfl) | (obtain ⟨_, _, rfl, _⟩ := h; rfl) | (obtain ⟨_, _, _, rfl, _⟩ := h; rfl) | (obtain ⟨_, _, _, _, rfl, _⟩ := h; rfl) | (obtain ⟨_, _, _, _, _, rfl, _⟩ := h; rfl) | (obtain ⟨_, _, _, _, _, _, rfl, _⟩ := h; rfl) | (obtain ⟨_, _, _, _, _, _, _, rfl, _⟩ := h; rfl) | (obtain ⟨_, _, _, _, _, _, _, _, rfl, _⟩ := h; rfl) | (obtain ⟨rfl, _⟩ := h; rfl)) (hb_law_told ⟨T.x_NoItem_NudgeError, T.ek_NoItem, T.ki_NoItem_NoItem, T.ki_NoItem_NoNumber, T.ki_NoItem_NoOrder, T.ki_NoItem_NoTask, T.ki_NoItem_NoWish, T.ki_NoItem_ValueError⟩) (d_law_told T F_stilled F_needed F_law_kind_of)
theorem ok_law {P : Program} {w : World} {K : PySem.W.Frag} {mg : Str → Option Value} {base : Heap} {C_NoItem C_NudgeError C_NoNumber C_NoOrder C_NoTask C_NoWish : Addr} {f : Addr} {fd : FuncData} (F : Fun K "law" "law" s_law f fd) (hm : mg "law" = some (.ref f)) (bn : Binds K fd ["_law_script"] []) (T : Txt K mg C_NoItem C_NudgeError C_NoNumber C_NoOrder C_NoTask C_NoWish) (F_law_pool : Dfn P w K mg base CX0 "_law_pool" "_law_pool" s_law_pool 2 ["_law_script", "_law_k"] c_pool) (F_law_task : Dfn P w K mg base CX0 "_law_task" "_law_task" s_law_task 7 ["_law_pool_here"] c_task) (F_law_items_drawn : Dfn P w K mg base CX0 "_law_items_drawn" "_law_items_drawn" s_law_items_drawn 2 ["_law_pool_here", "_law_many"] c_items) (F_law_odd_items : Dfn P w K mg base CX0 "_law_odd_items" "_law_odd_items" s_law_odd_items 2 ["_law_pool_here", "_law_many", "_law_items"] c_odd_items) (F_law_good : Dfn P w K mg base CX0 "_law_good" "_law_good" s_law_good 2 ["_law_many", "_law_thing"] c_good) (F_law_stilled : Dfn P w K mg base CX0 "_law_stilled" "_law_stilled" s_law_stilled 1 ["_law_task_here", "_law_items"] c_lstil) (F_law_told : Dfn P w K mg base CX0 "_law_told" "_law_told" s_law_told 4 ["_law_task_here", "_law_thing", "_law_way"] c_told) (F_stilled : Dfn P w K mg base (L2.CX P w) "stilled" "stilled" s_stilled 3 ["task", "items"] (c_stilled C_NoItem)) (F_law_take : Dfn P w K mg base CX0 "_law_take" "_law_take" s_law_take 1 ["_law_pool_here", "_law_many"] c_take) :
    DfnG P w K mg base CX0 "law" "law" s_law 8 ["_law_script"] cLaw :=
  dfnGA (m := 1) F hm bn sc_law (by intro ds μ Q X h; first | (obtain ⟨_, rfl, _⟩ := h; rfl) | (obtain ⟨_, _, rfl, _⟩ := h; rfl) | (obtain ⟨_, _, _, rfl, _⟩ := h; rfl) | (obtain ⟨_, _, _, _, rfl, _⟩ := h; rfl) | (obtain ⟨_, _, _, _, _, rfl, _⟩ := h; rfl) | (obtain ⟨_, _, _, _, _, _, rfl, _⟩ := h; rfl) | (obtain ⟨_, _, _, _, _, _, _, rfl, _⟩ := h; rfl) | (obtain ⟨_, _, _, _, _, _, _, _, rfl, _⟩ := h; rfl) | (obtain ⟨rfl, _⟩ := h; rfl)) (hb_law) (d_law T F_law_pool F_law_task F_law_items_drawn F_law_odd_items F_law_good F_law_stilled F_law_told F_stilled F_law_take)
theorem all_mk {l : PySem.W.OpenLaw} {w : World} {K : PySem.W.Frag} {h : Heap} {mg : Str → Option Value} {fa : Addr} (X : K.In h) (G : h.Ns mainGlobals mg) (hfa : mg "law" = some (.ref fa))
    {f1 : Addr} {od1 an1 : Option Addr} {sl1 : Array (Option Value)} {oc1 kV1 dc1 pm1 cd1 ct1 : Value}
    {f2 : Addr} {od2 an2 : Option Addr} {sl2 : Array (Option Value)} {oc2 kV2 dc2 pm2 cd2 ct2 : Value}
    {f3 : Addr} {od3 an3 : Option Addr} {sl3 : Array (Option Value)} {oc3 kV3 dc3 pm3 cd3 ct3 : Value}
    {f4 : Addr} {od4 an4 : Option Addr} {sl4 : Array (Option Value)} {oc4 kV4 dc4 pm4 cd4 ct4 : Value}
    {f5 : Addr} {od5 an5 : Option Addr} {sl5 : Array (Option Value)} {oc5 kV5 dc5 pm5 cd5 ct5 : Value}
    {f6 : Addr} {od6 an6 : Option Addr} {sl6 : Array (Option Value)} {oc6 kV6 dc6 pm6 cd6 ct6 : Value}
    {f7 : Addr} {od7 an7 : Option Addr} {sl7 : Array (Option Value)} {oc7 kV7 dc7 pm7 cd7 ct7 : Value}
    {f8 : Addr} {od8 an8 : Option Addr} {sl8 : Array (Option Value)} {oc8 kV8 dc8 pm8 cd8 ct8 : Value}
    {f9 : Addr} {od9 an9 : Option Addr} {sl9 : Array (Option Value)} {oc9 kV9 dc9 pm9 cd9 ct9 : Value}
    {f10 : Addr} {od10 an10 : Option Addr} {sl10 : Array (Option Value)} {oc10 kV10 dc10 pm10 cd10 ct10 : Value}
    {f11 : Addr} {od11 an11 : Option Addr} {sl11 : Array (Option Value)} {oc11 kV11 dc11 pm11 cd11 ct11 : Value}
    {f12 : Addr} {od12 an12 : Option Addr} {sl12 : Array (Option Value)} {oc12 kV12 dc12 pm12 cd12 ct12 : Value}
    {f13 : Addr} {od13 an13 : Option Addr} {sl13 : Array (Option Value)} {oc13 kV13 dc13 pm13 cd13 ct13 : Value}
    {f14 : Addr} {od14 an14 : Option Addr} {sl14 : Array (Option Value)} {oc14 kV14 dc14 pm14 cd14 ct14 : Value}
    {f15 : Addr} {od15 an15 : Option Addr} {sl15 : Array (Option Value)} {oc15 kV15 dc15 pm15 cd15 ct15 : Value}
    {f16 : Addr} {od16 an16 : Option Addr} {sl16 : Array (Option Value)} {oc16 kV16 dc16 pm16 cd16 ct16 : Value}
    {f17 : Addr} {od17 an17 : Option Addr} {sl17 : Array (Option Value)} {oc17 kV17 dc17 pm17 cd17 ct17 : Value}
    {f18 : Addr} {od18 an18 : Option Addr} {sl18 : Array (Option Value)} {oc18 kV18 dc18 pm18 cd18 ct18 : Value}
    {f19 : Addr} {od19 an19 : Option Addr} {sl19 : Array (Option Value)} {oc19 kV19 dc19 pm19 cd19 ct19 : Value}
    {f20 : Addr} {od20 an20 : Option Addr} {sl20 : Array (Option Value)} {oc20 kV20 dc20 pm20 cd20 ct20 : Value}
    {f21 : Addr} {od21 an21 : Option Addr} {sl21 : Array (Option Value)} {oc21 kV21 dc21 pm21 cd21 ct21 : Value}
    {f22 : Addr} {od22 an22 : Option Addr} {sl22 : Array (Option Value)} {oc22 kV22 dc22 pm22 cd22 ct22 : Value}
    {f23 : Addr} {od23 an23 : Option Addr} {sl23 : Array (Option Value)} {oc23 kV23 dc23 pm23 cd23 ct23 : Value}
    {f24 : Addr} {od24 an24 : Option Addr} {sl24 : Array (Option Value)} {oc24 kV24 dc24 pm24 cd24 ct24 : Value}
    {f25 : Addr} {od25 an25 : Option Addr} {sl25 : Array (Option Value)} {oc25 kV25 dc25 pm25 cd25 ct25 : Value}
    {f26 : Addr} {od26 an26 : Option Addr} {sl26 : Array (Option Value)} {oc26 kV26 dc26 pm26 cd26 ct26 : Value}
    {f27 : Addr} {od27 an27 : Option Addr} {sl27 : Array (Option Value)} {oc27 kV27 dc27 pm27 cd27 ct27 : Value}
    {f28 : Addr} {od28 an28 : Option Addr} {sl28 : Array (Option Value)} {oc28 kV28 dc28 pm28 cd28 ct28 : Value}
    {f29 : Addr} {od29 an29 : Option Addr} {sl29 : Array (Option Value)} {oc29 kV29 dc29 pm29 cd29 ct29 : Value}
    {f30 : Addr} {od30 an30 : Option Addr} {sl30 : Array (Option Value)} {oc30 kV30 dc30 pm30 cd30 ct30 : Value}
    {f31 : Addr} {od31 an31 : Option Addr} {sl31 : Array (Option Value)} {oc31 kV31 dc31 pm31 cd31 ct31 : Value}
    {f32 : Addr} {od32 an32 : Option Addr} {sl32 : Array (Option Value)} {oc32 kV32 dc32 pm32 cd32 ct32 : Value}
    {f33 : Addr} {od33 an33 : Option Addr} {sl33 : Array (Option Value)} {oc33 kV33 dc33 pm33 cd33 ct33 : Value}
    {f34 : Addr} {od34 an34 : Option Addr} {sl34 : Array (Option Value)} {oc34 kV34 dc34 pm34 cd34 ct34 : Value}
    {C_NoItem : Addr}
    {C_NudgeError : Addr}
    {C_NoNumber : Addr}
    {C_NoOrder : Addr}
    {C_NoTask : Addr}
    {C_NoWish : Addr}
    (a1 : PySem.W.nsIn K mainGlobals "_law_cell_at" = some (some (.ref f1))) (l1 : K.lookup f1 = some ⟨oc1, od1, .func (PySem.W.fnOf "_law_cell_at" "_law_cell_at" (defArgs s_law_cell_at) (defBody s_law_cell_at) (defScope s_law_cell_at) .none kV1 dc1 pm1 an1 cd1 ct1), sl1⟩) (c1 : PySem.W.codeIn K cd1 "_law_cell_at" = true) (k1 : PySem.W.keepIn K (.ref f1) = true)
    (a2 : PySem.W.nsIn K mainGlobals "_law_pool" = some (some (.ref f2))) (l2 : K.lookup f2 = some ⟨oc2, od2, .func (PySem.W.fnOf "_law_pool" "_law_pool" (defArgs s_law_pool) (defBody s_law_pool) (defScope s_law_pool) .none kV2 dc2 pm2 an2 cd2 ct2), sl2⟩) (c2 : PySem.W.codeIn K cd2 "_law_pool" = true) (k2 : PySem.W.keepIn K (.ref f2) = true)
    (a3 : PySem.W.nsIn K mainGlobals "_law_take" = some (some (.ref f3))) (l3 : K.lookup f3 = some ⟨oc3, od3, .func (PySem.W.fnOf "_law_take" "_law_take" (defArgs s_law_take) (defBody s_law_take) (defScope s_law_take) .none kV3 dc3 pm3 an3 cd3 ct3), sl3⟩) (c3 : PySem.W.codeIn K cd3 "_law_take" = true) (k3 : PySem.W.keepIn K (.ref f3) = true)
    (a4 : PySem.W.nsIn K mainGlobals "_law_shuffled" = some (some (.ref f4))) (l4 : K.lookup f4 = some ⟨oc4, od4, .func (PySem.W.fnOf "_law_shuffled" "_law_shuffled" (defArgs s_law_shuffled) (defBody s_law_shuffled) (defScope s_law_shuffled) .none kV4 dc4 pm4 an4 cd4 ct4), sl4⟩) (c4 : PySem.W.codeIn K cd4 "_law_shuffled" = true) (k4 : PySem.W.keepIn K (.ref f4) = true)
    (a5 : PySem.W.nsIn K mainGlobals "_law_more_ties" = some (some (.ref f5))) (l5 : K.lookup f5 = some ⟨oc5, od5, .func (PySem.W.fnOf "_law_more_ties" "_law_more_ties" (defArgs s_law_more_ties) (defBody s_law_more_ties) (defScope s_law_more_ties) .none kV5 dc5 pm5 an5 cd5 ct5), sl5⟩) (c5 : PySem.W.codeIn K cd5 "_law_more_ties" = true) (k5 : PySem.W.keepIn K (.ref f5) = true)
    (a6 : PySem.W.nsIn K mainGlobals "_law_spanning" = some (some (.ref f6))) (l6 : K.lookup f6 = some ⟨oc6, od6, .func (PySem.W.fnOf "_law_spanning" "_law_spanning" (defArgs s_law_spanning) (defBody s_law_spanning) (defScope s_law_spanning) .none kV6 dc6 pm6 an6 cd6 ct6), sl6⟩) (c6 : PySem.W.codeIn K cd6 "_law_spanning" = true) (k6 : PySem.W.keepIn K (.ref f6) = true)
    (a7 : PySem.W.nsIn K mainGlobals "_law_web_wish" = some (some (.ref f7))) (l7 : K.lookup f7 = some ⟨oc7, od7, .func (PySem.W.fnOf "_law_web_wish" "_law_web_wish" (defArgs s_law_web_wish) (defBody s_law_web_wish) (defScope s_law_web_wish) .none kV7 dc7 pm7 an7 cd7 ct7), sl7⟩) (c7 : PySem.W.codeIn K cd7 "_law_web_wish" = true) (k7 : PySem.W.keepIn K (.ref f7) = true)
    (a8 : PySem.W.nsIn K mainGlobals "_law_pair_wish" = some (some (.ref f8))) (l8 : K.lookup f8 = some ⟨oc8, od8, .func (PySem.W.fnOf "_law_pair_wish" "_law_pair_wish" (defArgs s_law_pair_wish) (defBody s_law_pair_wish) (defScope s_law_pair_wish) .none kV8 dc8 pm8 an8 cd8 ct8), sl8⟩) (c8 : PySem.W.codeIn K cd8 "_law_pair_wish" = true) (k8 : PySem.W.keepIn K (.ref f8) = true)
    (a9 : PySem.W.nsIn K mainGlobals "_law_deal_wish" = some (some (.ref f9))) (l9 : K.lookup f9 = some ⟨oc9, od9, .func (PySem.W.fnOf "_law_deal_wish" "_law_deal_wish" (defArgs s_law_deal_wish) (defBody s_law_deal_wish) (defScope s_law_deal_wish) .none kV9 dc9 pm9 an9 cd9 ct9), sl9⟩) (c9 : PySem.W.codeIn K cd9 "_law_deal_wish" = true) (k9 : PySem.W.keepIn K (.ref f9) = true)
    (a10 : PySem.W.nsIn K mainGlobals "_law_stream_wish" = some (some (.ref f10))) (l10 : K.lookup f10 = some ⟨oc10, od10, .func (PySem.W.fnOf "_law_stream_wish" "_law_stream_wish" (defArgs s_law_stream_wish) (defBody s_law_stream_wish) (defScope s_law_stream_wish) .none kV10 dc10 pm10 an10 cd10 ct10), sl10⟩) (c10 : PySem.W.codeIn K cd10 "_law_stream_wish" = true) (k10 : PySem.W.keepIn K (.ref f10) = true)
    (a11 : PySem.W.nsIn K mainGlobals "_law_bench_wish" = some (some (.ref f11))) (l11 : K.lookup f11 = some ⟨oc11, od11, .func (PySem.W.fnOf "_law_bench_wish" "_law_bench_wish" (defArgs s_law_bench_wish) (defBody s_law_bench_wish) (defScope s_law_bench_wish) .none kV11 dc11 pm11 an11 cd11 ct11), sl11⟩) (c11 : PySem.W.codeIn K cd11 "_law_bench_wish" = true) (k11 : PySem.W.keepIn K (.ref f11) = true)
    (a12 : PySem.W.nsIn K mainGlobals "_law_wish" = some (some (.ref f12))) (l12 : K.lookup f12 = some ⟨oc12, od12, .func (PySem.W.fnOf "_law_wish" "_law_wish" (defArgs s_law_wish) (defBody s_law_wish) (defScope s_law_wish) .none kV12 dc12 pm12 an12 cd12 ct12), sl12⟩) (c12 : PySem.W.codeIn K cd12 "_law_wish" = true) (k12 : PySem.W.keepIn K (.ref f12) = true)
    (a13 : PySem.W.nsIn K mainGlobals "_law_wishes" = some (some (.ref f13))) (l13 : K.lookup f13 = some ⟨oc13, od13, .func (PySem.W.fnOf "_law_wishes" "_law_wishes" (defArgs s_law_wishes) (defBody s_law_wishes) (defScope s_law_wishes) .none kV13 dc13 pm13 an13 cd13 ct13), sl13⟩) (c13 : PySem.W.codeIn K cd13 "_law_wishes" = true) (k13 : PySem.W.keepIn K (.ref f13) = true)
    (a14 : PySem.W.nsIn K mainGlobals "_law_low" = some (some (.ref f14))) (l14 : K.lookup f14 = some ⟨oc14, od14, .func (PySem.W.fnOf "_law_low" "_law_low" (defArgs s_law_low) (defBody s_law_low) (defScope s_law_low) .none kV14 dc14 pm14 an14 cd14 ct14), sl14⟩) (c14 : PySem.W.codeIn K cd14 "_law_low" = true) (k14 : PySem.W.keepIn K (.ref f14) = true)
    (a15 : PySem.W.nsIn K mainGlobals "_law_number" = some (some (.ref f15))) (l15 : K.lookup f15 = some ⟨oc15, od15, .func (PySem.W.fnOf "_law_number" "_law_number" (defArgs s_law_number) (defBody s_law_number) (defScope s_law_number) .none kV15 dc15 pm15 an15 cd15 ct15), sl15⟩) (c15 : PySem.W.codeIn K cd15 "_law_number" = true) (k15 : PySem.W.keepIn K (.ref f15) = true)
    (a16 : PySem.W.nsIn K mainGlobals "_law_minus" = some (some (.ref f16))) (l16 : K.lookup f16 = some ⟨oc16, od16, .func (PySem.W.fnOf "_law_minus" "_law_minus" (defArgs s_law_minus) (defBody s_law_minus) (defScope s_law_minus) .none kV16 dc16 pm16 an16 cd16 ct16), sl16⟩) (c16 : PySem.W.codeIn K cd16 "_law_minus" = true) (k16 : PySem.W.keepIn K (.ref f16) = true)
    (a17 : PySem.W.nsIn K mainGlobals "_law_plus" = some (some (.ref f17))) (l17 : K.lookup f17 = some ⟨oc17, od17, .func (PySem.W.fnOf "_law_plus" "_law_plus" (defArgs s_law_plus) (defBody s_law_plus) (defScope s_law_plus) .none kV17 dc17 pm17 an17 cd17 ct17), sl17⟩) (c17 : PySem.W.codeIn K cd17 "_law_plus" = true) (k17 : PySem.W.keepIn K (.ref f17) = true)
    (a18 : PySem.W.nsIn K mainGlobals "_law_bound" = some (some (.ref f18))) (l18 : K.lookup f18 = some ⟨oc18, od18, .func (PySem.W.fnOf "_law_bound" "_law_bound" (defArgs s_law_bound) (defBody s_law_bound) (defScope s_law_bound) .none kV18 dc18 pm18 an18 cd18 ct18), sl18⟩) (c18 : PySem.W.codeIn K cd18 "_law_bound" = true) (k18 : PySem.W.keepIn K (.ref f18) = true)
    (a19 : PySem.W.nsIn K mainGlobals "_law_weight" = some (some (.ref f19))) (l19 : K.lookup f19 = some ⟨oc19, od19, .func (PySem.W.fnOf "_law_weight" "_law_weight" (defArgs s_law_weight) (defBody s_law_weight) (defScope s_law_weight) .none kV19 dc19 pm19 an19 cd19 ct19), sl19⟩) (c19 : PySem.W.codeIn K cd19 "_law_weight" = true) (k19 : PySem.W.keepIn K (.ref f19) = true)
    (a20 : PySem.W.nsIn K mainGlobals "_law_task" = some (some (.ref f20))) (l20 : K.lookup f20 = some ⟨oc20, od20, .func (PySem.W.fnOf "_law_task" "_law_task" (defArgs s_law_task) (defBody s_law_task) (defScope s_law_task) .none kV20 dc20 pm20 an20 cd20 ct20), sl20⟩) (c20 : PySem.W.codeIn K cd20 "_law_task" = true) (k20 : PySem.W.keepIn K (.ref f20) = true)
    (a21 : PySem.W.nsIn K mainGlobals "_law_items_drawn" = some (some (.ref f21))) (l21 : K.lookup f21 = some ⟨oc21, od21, .func (PySem.W.fnOf "_law_items_drawn" "_law_items_drawn" (defArgs s_law_items_drawn) (defBody s_law_items_drawn) (defScope s_law_items_drawn) .none kV21 dc21 pm21 an21 cd21 ct21), sl21⟩) (c21 : PySem.W.codeIn K cd21 "_law_items_drawn" = true) (k21 : PySem.W.keepIn K (.ref f21) = true)
    (a22 : PySem.W.nsIn K mainGlobals "_law_odd_items" = some (some (.ref f22))) (l22 : K.lookup f22 = some ⟨oc22, od22, .func (PySem.W.fnOf "_law_odd_items" "_law_odd_items" (defArgs s_law_odd_items) (defBody s_law_odd_items) (defScope s_law_odd_items) .none kV22 dc22 pm22 an22 cd22 ct22), sl22⟩) (c22 : PySem.W.codeIn K cd22 "_law_odd_items" = true) (k22 : PySem.W.keepIn K (.ref f22) = true)
    (a23 : PySem.W.nsIn K mainGlobals "_law_no_wholes" = some (some (.ref f23))) (l23 : K.lookup f23 = some ⟨oc23, od23, .func (PySem.W.fnOf "_law_no_wholes" "_law_no_wholes" (defArgs s_law_no_wholes) (defBody s_law_no_wholes) (defScope s_law_no_wholes) .none kV23 dc23 pm23 an23 cd23 ct23), sl23⟩) (c23 : PySem.W.codeIn K cd23 "_law_no_wholes" = true) (k23 : PySem.W.keepIn K (.ref f23) = true)
    (a24 : PySem.W.nsIn K mainGlobals "_law_good" = some (some (.ref f24))) (l24 : K.lookup f24 = some ⟨oc24, od24, .func (PySem.W.fnOf "_law_good" "_law_good" (defArgs s_law_good) (defBody s_law_good) (defScope s_law_good) .none kV24 dc24 pm24 an24 cd24 ct24), sl24⟩) (c24 : PySem.W.codeIn K cd24 "_law_good" = true) (k24 : PySem.W.keepIn K (.ref f24) = true)
    (a25 : PySem.W.nsIn K mainGlobals "_law_stilled" = some (some (.ref f25))) (l25 : K.lookup f25 = some ⟨oc25, od25, .func (PySem.W.fnOf "_law_stilled" "_law_stilled" (defArgs s_law_stilled) (defBody s_law_stilled) (defScope s_law_stilled) .none kV25 dc25 pm25 an25 cd25 ct25), sl25⟩) (c25 : PySem.W.codeIn K cd25 "_law_stilled" = true) (k25 : PySem.W.keepIn K (.ref f25) = true)
    (a26 : PySem.W.nsIn K mainGlobals "is_whole" = some (some (.ref f26))) (l26 : K.lookup f26 = some ⟨oc26, od26, .func (PySem.W.fnOf "is_whole" "is_whole" (defArgs s_is_whole) (defBody s_is_whole) (defScope s_is_whole) .none kV26 dc26 pm26 an26 cd26 ct26), sl26⟩) (c26 : PySem.W.codeIn K cd26 "is_whole" = true) (k26 : PySem.W.keepIn K (.ref f26) = true)
    (a27 : PySem.W.nsIn K mainGlobals "are_items" = some (some (.ref f27))) (l27 : K.lookup f27 = some ⟨oc27, od27, .func (PySem.W.fnOf "are_items" "are_items" (defArgs s_are_items) (defBody s_are_items) (defScope s_are_items) .none kV27 dc27 pm27 an27 cd27 ct27), sl27⟩) (c27 : PySem.W.codeIn K cd27 "are_items" = true) (k27 : PySem.W.keepIn K (.ref f27) = true)
    (a28 : PySem.W.nsIn K mainGlobals "copied" = some (some (.ref f28))) (l28 : K.lookup f28 = some ⟨oc28, od28, .func (PySem.W.fnOf "copied" "copied" (defArgs s_copied) (defBody s_copied) (defScope s_copied) .none kV28 dc28 pm28 an28 cd28 ct28), sl28⟩) (c28 : PySem.W.codeIn K cd28 "copied" = true) (k28 : PySem.W.keepIn K (.ref f28) = true)
    (a29 : PySem.W.nsIn K mainGlobals "stilled" = some (some (.ref f29))) (l29 : K.lookup f29 = some ⟨oc29, od29, .func (PySem.W.fnOf "stilled" "stilled" (defArgs s_stilled) (defBody s_stilled) (defScope s_stilled) .none kV29 dc29 pm29 an29 cd29 ct29), sl29⟩) (c29 : PySem.W.codeIn K cd29 "stilled" = true) (k29 : PySem.W.keepIn K (.ref f29) = true)
    (a30 : PySem.W.nsIn K mainGlobals "under" = some (some (.ref f30))) (l30 : K.lookup f30 = some ⟨oc30, od30, .func (PySem.W.fnOf "under" "under" (defArgs s_under) (defBody s_under) (defScope s_under) .none kV30 dc30 pm30 an30 cd30 ct30), sl30⟩) (c30 : PySem.W.codeIn K cd30 "under" = true) (k30 : PySem.W.keepIn K (.ref f30) = true)
    (a31 : PySem.W.nsIn K mainGlobals "needed" = some (some (.ref f31))) (l31 : K.lookup f31 = some ⟨oc31, od31, .func (PySem.W.fnOf "needed" "needed" (defArgs s_needed) (defBody s_needed) (defScope s_needed) .none kV31 dc31 pm31 an31 cd31 ct31), sl31⟩) (c31 : PySem.W.codeIn K cd31 "needed" = true) (k31 : PySem.W.keepIn K (.ref f31) = true)
    (a32 : PySem.W.nsIn K mainGlobals "_law_kind_of" = some (some (.ref f32))) (l32 : K.lookup f32 = some ⟨oc32, od32, .func (PySem.W.fnOf "_law_kind_of" "_law_kind_of" (defArgs s_law_kind_of) (defBody s_law_kind_of) (defScope s_law_kind_of) .none kV32 dc32 pm32 an32 cd32 ct32), sl32⟩) (c32 : PySem.W.codeIn K cd32 "_law_kind_of" = true) (k32 : PySem.W.keepIn K (.ref f32) = true)
    (a33 : PySem.W.nsIn K mainGlobals "_law_told" = some (some (.ref f33))) (l33 : K.lookup f33 = some ⟨oc33, od33, .func (PySem.W.fnOf "_law_told" "_law_told" (defArgs s_law_told) (defBody s_law_told) (defScope s_law_told) .none kV33 dc33 pm33 an33 cd33 ct33), sl33⟩) (c33 : PySem.W.codeIn K cd33 "_law_told" = true) (k33 : PySem.W.keepIn K (.ref f33) = true)
    (a34 : PySem.W.nsIn K mainGlobals "law" = some (some (.ref f34))) (l34 : K.lookup f34 = some ⟨oc34, od34, .func (PySem.W.fnOf "law" "law" (defArgs s_law) (defBody s_law) (defScope s_law) .none kV34 dc34 pm34 an34 cd34 ct34), sl34⟩) (c34 : PySem.W.codeIn K cd34 "law" = true) (k34 : PySem.W.keepIn K (.ref f34) = true)
    (z0 : PySem.W.nsIn K mainGlobals "len" = some none)
    (z1 : PySem.W.nsIn K mainGlobals "range" = some none)
    (z2 : PySem.W.nsIn K mainGlobals "tuple" = some none)
    (z3 : PySem.W.nsIn K mainGlobals "enumerate" = some none)
    (z4 : PySem.W.nsIn K mainGlobals "list" = some none)
    (z5 : PySem.W.nsIn K mainGlobals "min" = some none)
    (z6 : PySem.W.nsIn K mainGlobals "int" = some none)
    (z7 : PySem.W.nsIn K mainGlobals "zip" = some none)
    (z8 : PySem.W.nsIn K mainGlobals "abs" = some none)
    (z9 : PySem.W.nsIn K mainGlobals "isinstance" = some none)
    (z10 : PySem.W.nsIn K mainGlobals "bool" = some none)
    (z11 : PySem.W.nsIn K mainGlobals "ValueError" = some none)
    (z12 : PySem.W.nsIn K mainGlobals "max" = some none)
    (z13 : PySem.W.nsIn K mainGlobals "repr" = some none)
    (z14 : PySem.W.nsIn K mainGlobals "sorted" = some none)
    (z15 : PySem.W.nsIn K mainGlobals "set" = some none)
    (g_NoItem : PySem.W.nsIn K mainGlobals "NoItem" = some (some (.ref C_NoItem)))
    (x_NoItem : PySem.W.excIn K C_NoItem [.type "ValueError", .type "Exception", .type "BaseException", .type "object"] "ValueError.__new__" = true)
    (k_NoItem : PySem.W.keepIn K (.ref C_NoItem) = true) (b_NoItem : PySem.W.subIn K (.ref C_NoItem) (.type "BaseException") = some true) (t_NoItem : PySem.W.typeIn K (.ref C_NoItem) = some (.type "type")) (i_NoItem : PySem.W.isClsIn K C_NoItem = true)
    (g_NudgeError : PySem.W.nsIn K mainGlobals "NudgeError" = some (some (.ref C_NudgeError)))
    (k_NudgeError : PySem.W.keepIn K (.ref C_NudgeError) = true) (b_NudgeError : PySem.W.subIn K (.ref C_NudgeError) (.type "BaseException") = some true) (t_NudgeError : PySem.W.typeIn K (.ref C_NudgeError) = some (.type "type")) (i_NudgeError : PySem.W.isClsIn K C_NudgeError = true)
    (g_NoNumber : PySem.W.nsIn K mainGlobals "NoNumber" = some (some (.ref C_NoNumber)))
    (g_NoOrder : PySem.W.nsIn K mainGlobals "NoOrder" = some (some (.ref C_NoOrder)))
    (g_NoTask : PySem.W.nsIn K mainGlobals "NoTask" = some (some (.ref C_NoTask)))
    (g_NoWish : PySem.W.nsIn K mainGlobals "NoWish" = some (some (.ref C_NoWish)))
    (s_NoItem_NudgeError : PySem.W.subIn K (.ref C_NoItem) (.ref C_NudgeError) = some true)
    (ekga_NoItem : PySem.W.findIn K (.ref C_NoItem) "__getattribute__" = some (some (.builtin "BaseException.__getattribute__")))
    (ekgt_NoItem : PySem.W.findIn K (.ref C_NoItem) "__getattr__" = some none)
    (eksb_NoItem : PySem.W.subIn K (.ref C_NoItem) (.type "BaseException") = some true)
    (ekca_NoItem : PySem.W.findIn K (.ref C_NoItem) "__class__" = some (some (.builtin "object.__class__")))
    (eksp_NoItem : PySem.W.specialIn K (.builtin "object.__class__") "__get__" = some (some (.builtin "getset_descriptor.__get__")))
    (ektk_NoItem : PySem.W.takesIn K (.builtin "object.__class__") = some true)
    (ekmo_NoItem : PySem.W.mroIn K C_NoItem (.type "object") = some true)
    (ekhd_NoItem : PySem.W.hasDictIn K C_NoItem = true)
    (q_NoItem_NoItem : PySem.W.kitOne K (.ref C_NoItem) (.ref C_NoItem) = some true)
    (q_NoItem_NoNumber : PySem.W.kitOne K (.ref C_NoItem) (.ref C_NoNumber) = some false)
    (q_NoItem_NoOrder : PySem.W.kitOne K (.ref C_NoItem) (.ref C_NoOrder) = some false)
    (q_NoItem_NoTask : PySem.W.kitOne K (.ref C_NoItem) (.ref C_NoTask) = some false)
    (q_NoItem_NoWish : PySem.W.kitOne K (.ref C_NoItem) (.ref C_NoWish) = some false)
    (q_NoItem_ValueError : PySem.W.kitOne K (.ref C_NoItem) (.type "ValueError") = some true) :
    ∃ fd : FuncData, (∀ (s : Shared) (v : Value), BindsTo s fd ⟨[v], []⟩ [("_law_script", v)]) ∧ ∀ base : Heap, K.In base → base.Ns mainGlobals mg → FnG l.prog w K mg base CX0 8 fa fd ["_law_script"] (spD K cLaw) := by
  have e := hfa.symm.trans (PySem.W.mg_of X G a34)
  cases e
  have T : Txt K mg C_NoItem C_NudgeError C_NoNumber C_NoOrder C_NoTask C_NoWish := ⟨PySem.W.mg_none_of X G z0, PySem.W.mg_none_of X G z1, PySem.W.mg_none_of X G z2, PySem.W.mg_none_of X G z3, PySem.W.mg_none_of X G z4, PySem.W.mg_none_of X G z5, PySem.W.mg_none_of X G z6, PySem.W.mg_none_of X G z7, PySem.W.mg_none_of X G z8, PySem.W.mg_none_of X G z9, PySem.W.mg_none_of X G z10, PySem.W.mg_none_of X G z11, PySem.W.mg_none_of X G z12, PySem.W.mg_none_of X G z13, PySem.W.mg_none_of X G z14, PySem.W.mg_none_of X G z15, ⟨PySem.W.mg_of X G g_NoItem, x_NoItem, k_NoItem, b_NoItem, t_NoItem⟩, PySem.W.mg_of X G g_NoItem, PySem.W.mg_of X G g_NudgeError, PySem.W.mg_of X G g_NoNumber, PySem.W.mg_of X G g_NoOrder, PySem.W.mg_of X G g_NoTask, PySem.W.mg_of X G g_NoWish, exm_pair b_NudgeError i_NudgeError t_NudgeError s_NoItem_NudgeError, ⟨(by obtain ⟨_, a, _⟩ := Option.bind_eq_some_iff.mp ekmo_NoItem; rw [a]; rfl), ekga_NoItem, ekgt_NoItem, eksb_NoItem, ekca_NoItem, eksp_NoItem, ektk_NoItem, ekmo_NoItem, ekhd_NoItem⟩, q_NoItem_NoItem, q_NoItem_NoNumber, q_NoItem_NoOrder, q_NoItem_NoTask, q_NoItem_NoWish, q_NoItem_ValueError⟩
  have G1 := fun_mk (st := s_law_cell_at) l1 c1 k1
  have G2 := fun_mk (st := s_law_pool) l2 c2 k2
  have G3 := fun_mk (st := s_law_take) l3 c3 k3
  have G4 := fun_mk (st := s_law_shuffled) l4 c4 k4
  have G5 := fun_mk (st := s_law_more_ties) l5 c5 k5
  have G6 := fun_mk (st := s_law_spanning) l6 c6 k6
  have G7 := fun_mk (st := s_law_web_wish) l7 c7 k7
  have G8 := fun_mk (st := s_law_pair_wish) l8 c8 k8
  have G9 := fun_mk (st := s_law_deal_wish) l9 c9 k9
  have G10 := fun_mk (st := s_law_stream_wish) l10 c10 k10
  have G11 := fun_mk (st := s_law_bench_wish) l11 c11 k11
  have G12 := fun_mk (st := s_law_wish) l12 c12 k12
  have G13 := fun_mk (st := s_law_wishes) l13 c13 k13
  have G14 := fun_mk (st := s_law_low) l14 c14 k14
  have G15 := fun_mk (st := s_law_number) l15 c15 k15
  have G16 := fun_mk (st := s_law_minus) l16 c16 k16
  have G17 := fun_mk (st := s_law_plus) l17 c17 k17
  have G18 := fun_mk (st := s_law_bound) l18 c18 k18
  have G19 := fun_mk (st := s_law_weight) l19 c19 k19
  have G20 := fun_mk (st := s_law_task) l20 c20 k20
  have G21 := fun_mk (st := s_law_items_drawn) l21 c21 k21
  have G22 := fun_mk (st := s_law_odd_items) l22 c22 k22
  have G23 := fun_mk (st := s_law_no_wholes) l23 c23 k23
  have G24 := fun_mk (st := s_law_good) l24 c24 k24
  have G25 := fun_mk (st := s_law_stilled) l25 c25 k25
  have G26 := fun_mk (st := s_is_whole) l26 c26 k26
  have G27 := fun_mk (st := s_are_items) l27 c27 k27
  have G28 := fun_mk (st := s_copied) l28 c28 k28
  have G29 := fun_mk (st := s_stilled) l29 c29 k29
  have G30 := fun_mk (st := s_under) l30 c30 k30
  have G31 := fun_mk (st := s_needed) l31 c31 k31
  have G32 := fun_mk (st := s_law_kind_of) l32 c32 k32
  have G33 := fun_mk (st := s_law_told) l33 c33 k33
  have G34 := fun_mk (st := s_law) l34 c34 k34
  have B1 := G1.binds (ps := ["_law_script", "_law_k"]) fun _ _ _ _ _ _ us hl => match us, hl with | [_, _], _ => rfl
  have B2 := G2.binds (ps := ["_law_script", "_law_k"]) fun _ _ _ _ _ _ us hl => match us, hl with | [_, _], _ => rfl
  have B3 := G3.binds (ps := ["_law_pool_here", "_law_many"]) fun _ _ _ _ _ _ us hl => match us, hl with | [_, _], _ => rfl
  have B4 := G4.binds (ps := ["_law_pool_here", "_law_some"]) fun _ _ _ _ _ _ us hl => match us, hl with | [_, _], _ => rfl
  have B5 := G5.binds (ps := ["_law_pool_here", "_law_ties", "_law_many", "_law_most"]) fun _ _ _ _ _ _ us hl => match us, hl with | [_, _, _, _], _ => rfl
  have B6 := G6.binds (ps := ["_law_pool_here", "_law_many"]) fun _ _ _ _ _ _ us hl => match us, hl with | [_, _], _ => rfl
  have B7 := G7.binds (ps := ["_law_pool_here", "_law_way"]) fun _ _ _ _ _ _ us hl => match us, hl with | [_, _], _ => rfl
  have B8 := G8.binds (ps := ["_law_pool_here"]) fun _ _ _ _ _ _ us hl => match us, hl with | [_], _ => rfl
  have B9 := G9.binds (ps := ["_law_pool_here"]) fun _ _ _ _ _ _ us hl => match us, hl with | [_], _ => rfl
  have B10 := G10.binds (ps := ["_law_pool_here"]) fun _ _ _ _ _ _ us hl => match us, hl with | [_], _ => rfl
  have B11 := G11.binds (ps := ["_law_pool_here", "_law_works"]) fun _ _ _ _ _ _ us hl => match us, hl with | [_, _], _ => rfl
  have B12 := G12.binds (ps := ["_law_pool_here"]) fun _ _ _ _ _ _ us hl => match us, hl with | [_], _ => rfl
  have B13 := G13.binds (ps := ["_law_pool_here"]) fun _ _ _ _ _ _ us hl => match us, hl with | [_], _ => rfl
  have B14 := G14.binds (ps := ["_law_top", "_law_bottom"]) fun _ _ _ _ _ _ us hl => match us, hl with | [_, _], _ => rfl
  have B15 := G15.binds (ps := ["_law_pool_here"]) fun _ _ _ _ _ _ us hl => match us, hl with | [_], _ => rfl
  have B16 := G16.binds (ps := ["_law_one", "_law_other"]) fun _ _ _ _ _ _ us hl => match us, hl with | [_, _], _ => rfl
  have B17 := G17.binds (ps := ["_law_one", "_law_other"]) fun _ _ _ _ _ _ us hl => match us, hl with | [_, _], _ => rfl
  have B18 := G18.binds (ps := ["_law_pool_here", "_law_price", "_law_walked"]) fun _ _ _ _ _ _ us hl => match us, hl with | [_, _, _], _ => rfl
  have B19 := G19.binds (ps := ["_law_pool_here"]) fun _ _ _ _ _ _ us hl => match us, hl with | [_], _ => rfl
  have B20 := G20.binds (ps := ["_law_pool_here"]) fun _ _ _ _ _ _ us hl => match us, hl with | [_], _ => rfl
  have B21 := G21.binds (ps := ["_law_pool_here", "_law_many"]) fun _ _ _ _ _ _ us hl => match us, hl with | [_, _], _ => rfl
  have B22 := G22.binds (ps := ["_law_pool_here", "_law_many", "_law_items"]) fun _ _ _ _ _ _ us hl => match us, hl with | [_, _, _], _ => rfl
  have B23 := G23.binds (ps := ["_law_thing"]) fun _ _ _ _ _ _ us hl => match us, hl with | [_], _ => rfl
  have B24 := G24.binds (ps := ["_law_many", "_law_thing"]) fun _ _ _ _ _ _ us hl => match us, hl with | [_, _], _ => rfl
  have B25 := G25.binds (ps := ["_law_task_here", "_law_items"]) fun _ _ _ _ _ _ us hl => match us, hl with | [_, _], _ => rfl
  have B26 := G26.binds (ps := ["thing"]) fun _ _ _ _ _ _ us hl => match us, hl with | [_], _ => rfl
  have B27 := G27.binds (ps := ["thing", "many"]) fun _ _ _ _ _ _ us hl => match us, hl with | [_, _], _ => rfl
  have B28 := G28.binds (ps := ["task"]) fun _ _ _ _ _ _ us hl => match us, hl with | [_], _ => rfl
  have B29 := G29.binds (ps := ["task", "items"]) fun _ _ _ _ _ _ us hl => match us, hl with | [_, _], _ => rfl
  have B30 := G30.binds (ps := ["one", "other"]) fun _ _ _ _ _ _ us hl => match us, hl with | [_, _], _ => rfl
  have B31 := G31.binds (ps := ["task", "item"]) fun _ _ _ _ _ _ us hl => match us, hl with | [_, _], _ => rfl
  have B32 := G32.binds (ps := ["_law_e", "_law_found"]) fun _ _ _ _ _ _ us hl => match us, hl with | [_, _], _ => rfl
  have B33 := G33.binds (ps := ["_law_task_here", "_law_thing", "_law_way"]) fun _ _ _ _ _ _ us hl => match us, hl with | [_, _, _], _ => rfl
  have bl := G34.binds (ps := ["_law_script"]) fun _ _ _ _ _ _ us hl => match us, hl with | [_], _ => rfl
  refine ⟨PySem.W.fnOf "law" "law" (defArgs s_law) (defBody s_law) (defScope s_law) .none kV34 dc34 pm34 an34 cd34 ct34, fun s v => .of_eq rfl, fun base _ _ => ?_⟩
  have D1 := ok_law_cell_at (P := l.prog) (w := w) (base := base) G1 (PySem.W.mg_of X G a1) B1 T 
  have D2 := ok_law_pool (P := l.prog) (w := w) (base := base) G2 (PySem.W.mg_of X G a2) B2 T D1
  have D3 := ok_law_take (P := l.prog) (w := w) (base := base) G3 (PySem.W.mg_of X G a3) B3 T 
  have D4 := ok_law_shuffled (P := l.prog) (w := w) (base := base) G4 (PySem.W.mg_of X G a4) B4 T D3
  have D5 := ok_law_more_ties (P := l.prog) (w := w) (base := base) G5 (PySem.W.mg_of X G a5) B5 T D3 D4
  have D6 := ok_law_spanning (P := l.prog) (w := w) (base := base) G6 (PySem.W.mg_of X G a6) B6 T D3
  have D7 := ok_law_web_wish (P := l.prog) (w := w) (base := base) G7 (PySem.W.mg_of X G a7) B7 T D3 D5 D6
  have D8 := ok_law_pair_wish (P := l.prog) (w := w) (base := base) G8 (PySem.W.mg_of X G a8) B8 T D3 D4
  have D9 := ok_law_deal_wish (P := l.prog) (w := w) (base := base) G9 (PySem.W.mg_of X G a9) B9 T D3
  have D10 := ok_law_stream_wish (P := l.prog) (w := w) (base := base) G10 (PySem.W.mg_of X G a10) B10 T D3 D5 D6
  have D11 := ok_law_bench_wish (P := l.prog) (w := w) (base := base) G11 (PySem.W.mg_of X G a11) B11 T D3 D4
  have D12 := ok_law_wish (P := l.prog) (w := w) (base := base) G12 (PySem.W.mg_of X G a12) B12 T D3 D7 D8 D9 D10 D11
  have D13 := ok_law_wishes (P := l.prog) (w := w) (base := base) G13 (PySem.W.mg_of X G a13) B13 T D12 D3 D11 D4
  have D14 := ok_law_low (P := l.prog) (w := w) (base := base) G14 (PySem.W.mg_of X G a14) B14 T 
  have D15 := ok_law_number (P := l.prog) (w := w) (base := base) G15 (PySem.W.mg_of X G a15) B15 T D3 D14
  have D16 := ok_law_minus (P := l.prog) (w := w) (base := base) G16 (PySem.W.mg_of X G a16) B16 T D14
  have D17 := ok_law_plus (P := l.prog) (w := w) (base := base) G17 (PySem.W.mg_of X G a17) B17 T D14
  have D18 := ok_law_bound (P := l.prog) (w := w) (base := base) G18 (PySem.W.mg_of X G a18) B18 T D15 D3 D16 D17
  have D19 := ok_law_weight (P := l.prog) (w := w) (base := base) G19 (PySem.W.mg_of X G a19) B19 T D3
  have D20 := ok_law_task (P := l.prog) (w := w) (base := base) G20 (PySem.W.mg_of X G a20) B20 T D13 D15 D3 D16 D18 D19
  have D21 := ok_law_items_drawn (P := l.prog) (w := w) (base := base) G21 (PySem.W.mg_of X G a21) B21 T D3
  have D22 := ok_law_odd_items (P := l.prog) (w := w) (base := base) G22 (PySem.W.mg_of X G a22) B22 T D3
  have D23 := ok_law_no_wholes (P := l.prog) (w := w) (base := base) G23 (PySem.W.mg_of X G a23) B23 T 
  have D24 := ok_law_good (P := l.prog) (w := w) (base := base) G24 (PySem.W.mg_of X G a24) B24 T D23
  have D25 := ok_law_stilled (P := l.prog) (w := w) (base := base) G25 (PySem.W.mg_of X G a25) B25 T 
  have D26 := ok_is_whole (P := l.prog) (w := w) (base := base) G26 (PySem.W.mg_of X G a26) B26 T 
  have D27 := ok_are_items (P := l.prog) (w := w) (base := base) G27 (PySem.W.mg_of X G a27) B27 T D26
  have D28 := ok_copied (P := l.prog) (w := w) (base := base) G28 (PySem.W.mg_of X G a28) B28 T 
  have D29 := ok_stilled (P := l.prog) (w := w) (base := base) G29 (PySem.W.mg_of X G a29) B29 T D27 D28
  have D30 := ok_under (P := l.prog) (w := w) (base := base) G30 (PySem.W.mg_of X G a30) B30 T 
  have D31 := ok_needed (P := l.prog) (w := w) (base := base) G31 (PySem.W.mg_of X G a31) B31 T D27 D29 D30
  have D32 := ok_law_kind_of (P := l.prog) (w := w) (base := base) G32 (PySem.W.mg_of X G a32) B32 T 
  have D33 := ok_law_told (P := l.prog) (w := w) (base := base) G33 (PySem.W.mg_of X G a33) B33 T D29 D31 D32
  have D34 := ok_law (P := l.prog) (w := w) (base := base) G34 (PySem.W.mg_of X G a34) bl T D2 D20 D21 D22 D24 D25 D33 D29 D3
  obtain ⟨f', fd', FF, hm', GG, _⟩ := D34.ex
  have e1 := hm'.symm.trans (PySem.W.mg_of X G a34)
  cases e1
  have e2 := fun_uniq FF G34
  subst e2
  exact GG
end K55
open PySem PySem.W PyProof.Rows
set_option maxHeartbeats 0 in
theorem PySem.Challenge.cw_nudgebest_k55_tasks_stilled_holds : PySem.Challenge.rw_nudgebest_k55_tasks_stilled.Holds := by
  w_on; o_law; k_head; (case hw => w_witness2)
  k_fill
  refine DL.walkG (l := PySem.Challenge.rw_nudgebest_k55_tasks_stilled) (n := 63) (k := 8) (x := "_law_script") (CX := fun _ => L2.CX0) (sp := fun w => DL.spD _ DL.cLaw) rfl (by decide) rfl ⟨rfl, by decide, by decide⟩ (fun w h Y => PySem.W.kIn_of Y) ?F (fun _ _ a ns hl _ hS => DL.law_end hl hS) (fun _ _ _ _ _ h => h)
  case F =>
    intro w mg fa h KX G hmg
    refine' K55.all_mk KX G hmg ?a1 ?l1 ?c1 ?k1 ?a2 ?l2 ?c2 ?k2 ?a3 ?l3 ?c3 ?k3 ?a4 ?l4 ?c4 ?k4 ?a5 ?l5 ?c5 ?k5 ?a6 ?l6 ?c6 ?k6 ?a7 ?l7 ?c7 ?k7 ?a8 ?l8 ?c8 ?k8 ?a9 ?l9 ?c9 ?k9 ?a10 ?l10 ?c10 ?k10 ?a11 ?l11 ?c11 ?k11 ?a12 ?l12 ?c12 ?k12 ?a13 ?l13 ?c13 ?k13 ?a14 ?l14 ?c14 ?k14 ?a15 ?l15 ?c15 ?k15 ?a16 ?l16 ?c16 ?k16 ?a17 ?l17 ?c17 ?k17 ?a18 ?l18 ?c18 ?k18 ?a19 ?l19 ?c19 ?k19 ?a20 ?l20 ?c20 ?k20 ?a21 ?l21 ?c21 ?k21 ?a22 ?l22 ?c22 ?k22 ?a23 ?l23 ?c23 ?k23 ?a24 ?l24 ?c24 ?k24 ?a25 ?l25 ?c25 ?k25 ?a26 ?l26 ?c26 ?k26 ?a27 ?l27 ?c27 ?k27 ?a28 ?l28 ?c28 ?k28 ?a29 ?l29 ?c29 ?k29 ?a30 ?l30 ?c30 ?k30 ?a31 ?l31 ?c31 ?k31 ?a32 ?l32 ?c32 ?k32 ?a33 ?l33 ?c33 ?k33 ?a34 ?l34 ?c34 ?k34 ?z0 ?z1 ?z2 ?z3 ?z4 ?z5 ?z6 ?z7 ?z8 ?z9 ?z10 ?z11 ?z12 ?z13 ?z14 ?z15 ?g_NoItem ?x_NoItem ?k_NoItem ?b_NoItem ?t_NoItem ?i_NoItem ?g_NudgeError ?k_NudgeError ?b_NudgeError ?t_NudgeError ?i_NudgeError ?g_NoNumber ?g_NoOrder ?g_NoTask ?g_NoWish ?s_NoItem_NudgeError ?ekga_NoItem ?ekgt_NoItem ?eksb_NoItem ?ekca_NoItem ?eksp_NoItem ?ektk_NoItem ?ekmo_NoItem ?ekhd_NoItem ?q_NoItem_NoItem ?q_NoItem_NoNumber ?q_NoItem_NoOrder ?q_NoItem_NoTask ?q_NoItem_NoWish ?q_NoItem_ValueError
    (case a1 => k_is)
    (case l1 => k_is)
    (case c1 => k_is)
    (case k1 => k_is)
    (case a2 => k_is)
    (case l2 => k_is)
    (case c2 => k_is)
    (case k2 => k_is)
    (case a3 => k_is)
    (case l3 => k_is)
    (case c3 => k_is)
    (case k3 => k_is)
    (case a4 => k_is)
    (case l4 => k_is)
    (case c4 => k_is)
    (case k4 => k_is)
    (case a5 => k_is)
    (case l5 => k_is)
    (case c5 => k_is)
    (case k5 => k_is)
    (case a6 => k_is)
    (case l6 => k_is)
    (case c6 => k_is)
    (case k6 => k_is)
    (case a7 => k_is)
    (case l7 => k_is)
    (case c7 => k_is)
    (case k7 => k_is)
    (case a8 => k_is)
    (case l8 => k_is)
    (case c8 => k_is)
    (case k8 => k_is)
    (case a9 => k_is)
    (case l9 => k_is)
    (case c9 => k_is)
    (case k9 => k_is)
    (case a10 => k_is)
    (case l10 => k_is)
    (case c10 => k_is)
    (case k10 => k_is)
    (case a11 => k_is)
    (case l11 => k_is)
    (case c11 => k_is)
    (case k11 => k_is)
    (case a12 => k_is)
    (case l12 => k_is)
    (case c12 => k_is)
    (case k12 => k_is)
    (case a13 => k_is)
    (case l13 => k_is)
    (case c13 => k_is)
    (case k13 => k_is)
    (case a14 => k_is)
    (case l14 => k_is)
    (case c14 => k_is)
    (case k14 => k_is)
    (case a15 => k_is)
    (case l15 => k_is)
    (case c15 => k_is)
    (case k15 => k_is)
    (case a16 => k_is)
    (case l16 => k_is)
    (case c16 => k_is)
    (case k16 => k_is)
    (case a17 => k_is)
    (case l17 => k_is)
    (case c17 => k_is)
    (case k17 => k_is)
    (case a18 => k_is)
    (case l18 => k_is)
    (case c18 => k_is)
    (case k18 => k_is)
    (case a19 => k_is)
    (case l19 => k_is)
    (case c19 => k_is)
    (case k19 => k_is)
    (case a20 => k_is)
    (case l20 => k_is)
    (case c20 => k_is)
    (case k20 => k_is)
    (case a21 => k_is)
    (case l21 => k_is)
    (case c21 => k_is)
    (case k21 => k_is)
    (case a22 => k_is)
    (case l22 => k_is)
    (case c22 => k_is)
    (case k22 => k_is)
    (case a23 => k_is)
    (case l23 => k_is)
    (case c23 => k_is)
    (case k23 => k_is)
    (case a24 => k_is)
    (case l24 => k_is)
    (case c24 => k_is)
    (case k24 => k_is)
    (case a25 => k_is)
    (case l25 => k_is)
    (case c25 => k_is)
    (case k25 => k_is)
    (case a26 => k_is)
    (case l26 => k_is)
    (case c26 => k_is)
    (case k26 => k_is)
    (case a27 => k_is)
    (case l27 => k_is)
    (case c27 => k_is)
    (case k27 => k_is)
    (case a28 => k_is)
    (case l28 => k_is)
    (case c28 => k_is)
    (case k28 => k_is)
    (case a29 => k_is)
    (case l29 => k_is)
    (case c29 => k_is)
    (case k29 => k_is)
    (case a30 => k_is)
    (case l30 => k_is)
    (case c30 => k_is)
    (case k30 => k_is)
    (case a31 => k_is)
    (case l31 => k_is)
    (case c31 => k_is)
    (case k31 => k_is)
    (case a32 => k_is)
    (case l32 => k_is)
    (case c32 => k_is)
    (case k32 => k_is)
    (case a33 => k_is)
    (case l33 => k_is)
    (case c33 => k_is)
    (case k33 => k_is)
    (case a34 => k_is)
    (case l34 => k_is)
    (case c34 => k_is)
    (case k34 => k_is)
    (case z0 => k_is)
    (case z1 => k_is)
    (case z2 => k_is)
    (case z3 => k_is)
    (case z4 => k_is)
    (case z5 => k_is)
    (case z6 => k_is)
    (case z7 => k_is)
    (case z8 => k_is)
    (case z9 => k_is)
    (case z10 => k_is)
    (case z11 => k_is)
    (case z12 => k_is)
    (case z13 => k_is)
    (case z14 => k_is)
    (case z15 => k_is)
    (case g_NoItem => k_is)
    (case x_NoItem => k_exc)
    (case k_NoItem => k_is)
    (case b_NoItem => k_is)
    (case t_NoItem => k_is)
    (case i_NoItem => k_is)
    (case g_NudgeError => k_is)
    (case k_NudgeError => k_is)
    (case b_NudgeError => k_is)
    (case t_NudgeError => k_is)
    (case i_NudgeError => k_is)
    (case g_NoNumber => k_is)
    (case g_NoOrder => k_is)
    (case g_NoTask => k_is)
    (case g_NoWish => k_is)
    (case s_NoItem_NudgeError => first | k_is | rfl)
    (case ekga_NoItem => k_is)
    (case ekgt_NoItem => k_is)
    (case eksb_NoItem => k_is)
    (case ekca_NoItem => k_is)
    (case eksp_NoItem => k_is)
    (case ektk_NoItem => k_is)
    (case ekmo_NoItem => k_is)
    (case ekhd_NoItem => k_is)
    (case q_NoItem_NoItem => first | kit_is | k_is | rfl)
    (case q_NoItem_NoNumber => first | kit_is | k_is | rfl)
    (case q_NoItem_NoOrder => first | kit_is | k_is | rfl)
    (case q_NoItem_NoTask => first | kit_is | k_is | rfl)
    (case q_NoItem_NoWish => first | kit_is | k_is | rfl)
    (case q_NoItem_ValueError => first | kit_is | k_is | rfl)
