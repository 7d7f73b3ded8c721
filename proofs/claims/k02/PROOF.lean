import PyProof.Rows.All
import Wide.All
import OpenK.AllK
import Wide.FinOn
import HandS.ForMost
import HandS.ForExc
import HandS.Wide
import HandS.IsInst
import HandS.CallSlots
import HandS.Style
import HandS.TupAny
import HandS.TupMul
import HandS.SortInts
import KE.KTupSum
import KE.GoesEnum
import HandS.More
import HandS.SetFor
import HandS.Conv
import HandS.Text
import KE.KRevSl
import PySem.Challenge.RW_nudgebest_k02_fractions_reckoned
set_option Elab.async false
set_option linter.all false
set_option maxRecDepth 100000
set_option maxHeartbeats 2000000
/-! The data layer: values as plain data, lists that are changed as cells. -/
namespace DL
open PySem PySem.Spec PyProof.Rows L2

/-- data: what a value is worth, without addresses; raw: a value as it is -/
inductive D where
  | non | bl (b : Bool) | int (i : Int) | str (x : Str)
  | lst (xs : List D) | tup (xs : List D) | scr (ns : List Int) | raw (v : V) | emp

mutual
inductive Rep (K : PySem.W.Frag) (H : Hp) : V → D → Prop
  | non : Rep K H .non .non
  | bl (b : Bool) : Rep K H (.bl b) (.bl b)
  | int (i : Int) : Rep K H (.int i) (.int i)
  | str (x : Str) : Rep K H (.str x) (.str x)
  | lst {a : Addr} {xs : List V} {ds : List D} : H a = some (.lst xs) → RepA K H xs ds → Rep K H (.ref a) (.lst ds)
  | tup {a : Addr} {xs : List V} {ds : List D} : SqT K H a xs → RepA K H xs ds → Rep K H (.ref a) (.tup ds)
  | scr {a : Addr} {ns : List Int} : SqL K H a (ns.map V.int) → Rep K H (.ref a) (.scr ns)
  | raw (v : V) : Rep K H v (.raw v)
  | emp {a : Addr} : H a = some (.dK []) → Rep K H (.ref a) .emp
inductive RepA (K : PySem.W.Frag) (H : Hp) : List V → List D → Prop
  | nil : RepA K H [] []
  | cons {v : V} {vs : List V} {d : D} {ds : List D} : Rep K H v d → RepA K H vs ds → RepA K H (v :: vs) (d :: ds)
end

section
variable {K : PySem.W.Frag} {H H' : Hp}
theorem same_t {a : Addr} {xs : List V} (e : Same H H') (h : SqT K H a xs) : SqT K H' a xs := by
  rcases h with (h | ⟨o, h⟩) | h
  · exact .inl (.inl (e _ _ h))
  · exact .inl (.inr ⟨o, e _ _ h⟩)
  · exact .inr h
mutual
theorem Rep.mono (e : Same H H') : ∀ {v : V} {d : D}, Rep K H v d → Rep K H' v d
  | _, _, .non => .non
  | _, _, .bl b => .bl b
  | _, _, .int i => .int i
  | _, _, .str x => .str x
  | _, _, .lst h r => .lst (e _ _ h) (RepA.mono e r)
  | _, _, .tup h r => .tup (same_t e h) (RepA.mono e r)
  | _, _, .scr h => .scr (e.seq h)
  | _, _, .raw v => .raw v
  | _, _, .emp h => .emp (e _ _ h)
theorem RepA.mono (e : Same H H') : ∀ {vs : List V} {ds : List D}, RepA K H vs ds → RepA K H' vs ds
  | _, _, .nil => .nil
  | _, _, .cons h r => .cons (Rep.mono e h) (RepA.mono e r)
end
theorem RepA.length : ∀ {vs : List V} {ds : List D}, RepA K H vs ds → vs.length = ds.length
  | _, _, .nil => rfl
  | _, _, .cons _ r => congrArg (· + 1) r.length
theorem RepA.get : ∀ {vs : List V} {ds : List D} {i : Nat} {d : D}, RepA K H vs ds → ds[i]? = some d → ∃ v, vs[i]? = some v ∧ Rep K H v d
  | _, _, _, _, .nil, h => by simp at h
  | _, _, 0, _, .cons a _, h => by
    have e := Option.some.inj h
    subst e
    exact ⟨_, rfl, a⟩
  | _, _, i + 1, _, .cons _ r, h => RepA.get (i := i) r h
theorem RepA.getV : ∀ {vs : List V} {ds : List D} {i : Nat} {v : V}, RepA K H vs ds → vs[i]? = some v → ∃ d, ds[i]? = some d ∧ Rep K H v d
  | _, _, _, _, .nil, h => by simp at h
  | _, _, 0, _, .cons a _, h => by
    have e := Option.some.inj h
    subst e
    exact ⟨_, rfl, a⟩
  | _, _, i + 1, _, .cons _ r, h => RepA.getV (i := i) r h
theorem RepA.append : ∀ {vs ws : List V} {ds es : List D}, RepA K H vs ds → RepA K H ws es → RepA K H (vs ++ ws) (ds ++ es)
  | _, _, _, _, .nil, s => s
  | _, _, _, _, .cons a r, s => .cons a (RepA.append r s)
theorem RepA.one {v : V} {d : D} (h : Rep K H v d) : RepA K H [v] [d] := .cons h .nil
theorem RepA.take : ∀ {vs : List V} {ds : List D} (n : Nat), RepA K H vs ds → RepA K H (vs.take n) (ds.take n)
  | _, _, 0, _ => .nil
  | _, _, _ + 1, .nil => .nil
  | _, _, n + 1, .cons a r => .cons a (RepA.take n r)
theorem RepA.drop : ∀ {vs : List V} {ds : List D} (n : Nat), RepA K H vs ds → RepA K H (vs.drop n) (ds.drop n)
  | _, _, 0, r => r
  | _, _, _ + 1, .nil => .nil
  | _, _, n + 1, .cons _ r => RepA.drop n r
theorem RepA.set {v : V} {d : D} (h : Rep K H v d) : ∀ {vs : List V} {ds : List D} (n : Nat), RepA K H vs ds → RepA K H (vs.set n v) (ds.set n d)
  | _, _, _, .nil => .nil
  | _, _, 0, .cons _ r => .cons h r
  | _, _, n + 1, .cons a r => .cons a (RepA.set h n r)
theorem RepA.ints : ∀ {vs : List V} {ns : List Int}, RepA K H vs (ns.map D.int) → vs = ns.map V.int
  | _, [], r => by cases r; rfl
  | _, n :: ns, r => by
    cases r with
    | cons a r => cases a; rw [RepA.ints r]; rfl
theorem RepA.bls : ∀ {vs : List V} {bs : List Bool}, RepA K H vs (bs.map D.bl) → vs = bs.map V.bl
  | _, [], r => by cases r; rfl
  | _, n :: ns, r => by
    cases r with
    | cons a r => cases a; rw [RepA.bls r]; rfl
theorem RepA.ofInts : ∀ (ns : List Int), RepA K H (ns.map V.int) (ns.map D.int)
  | [] => .nil
  | n :: ns => .cons (.int n) (RepA.ofInts ns)
end

/-- what stands in a cell: a list, a dict (keys ints and texts; tuples of these), an instance, its own dict, a caught or made error -/
inductive C where
  | lst (ds : List D) | dk (kvs : List (Key × D)) | dt (kvs : List (List Key × D)) | ins (C dx : Addr) (fs : List (Str × D)) | own (x : Addr) | exc (cls : Value) (fs : Option (List (Str × D)))
def cellL : Option C → Option (List D)
  | some (.lst ds) => some ds
  | _ => none
@[simp] theorem cellL_lst {ds : List D} : cellL (some (.lst ds)) = some ds := rfl
@[simp] theorem cellL_none : cellL none = none := rfl
theorem cellL_some {o : Option C} {ds : List D} (h : cellL o = some ds) : o = some (.lst ds) := by
  cases o with
  | none => cases h
  | some c =>
    cases c with
    | lst es => cases h; rfl
    | _ => cases h

abbrev M := Addr → Option C
def updM (μ : M) (p : Addr) (c : C) : M := fun b => if b = p then some c else μ b
def delM (μ : M) (p : Addr) : M := fun b => if b = p then none else μ b
theorem updM_same {μ : M} {p : Addr} {c : C} : updM μ p c p = some c := by unfold updM; rw [if_pos rfl]
theorem updM_ne {μ : M} {p q : Addr} {c : C} (h : q ≠ p) : updM μ p c q = μ q := by unfold updM; rw [if_neg h]
theorem updM_upd {μ : M} {p : Addr} {c d : C} : updM (updM μ p c) p d = updM μ p d := by funext b; unfold updM; split <;> rfl
theorem del_upd {μ : M} {p : Addr} {c : C} (h : μ p = none) : delM (updM μ p c) p = μ := by
  funext b
  unfold delM updM
  by_cases e : b = p
  · rw [if_pos e, e, h]
  · rw [if_neg e, if_neg e]
theorem ne_fresh {μ : M} {p q : Addr} {c : C} (h : μ p = some c) (h' : μ q = none) : p ≠ q := by
  intro e
  rw [e, h'] at h
  cases h

inductive RepF (K : PySem.W.Frag) (H : Hp) : List (Str × V) → List (Str × D) → Prop
  | nil : RepF K H [] []
  | cons {x : Str} {v : V} {d : D} {vs : List (Str × V)} {ds : List (Str × D)} : Rep K H v d → RepF K H vs ds → RepF K H ((x, v) :: vs) ((x, d) :: ds)
theorem RepF.mono {K : PySem.W.Frag} {H H' : Hp} (e : Same H H') : ∀ {vs : List (Str × V)} {ds : List (Str × D)}, RepF K H vs ds → RepF K H' vs ds
  | _, _, .nil => .nil
  | _, _, .cons h r => .cons (h.mono e) (RepF.mono e r)
inductive RepK (K : PySem.W.Frag) (H : Hp) {κ : Type} : List (κ × V) → List (κ × D) → Prop
  | nil : RepK K H [] []
  | cons {x : κ} {v : V} {d : D} {vs : List (κ × V)} {ds : List (κ × D)} : Rep K H v d → RepK K H vs ds → RepK K H ((x, v) :: vs) ((x, d) :: ds)
theorem RepK.mono {K : PySem.W.Frag} {κ : Type} {H H' : Hp} (e : Same H H') : ∀ {vs : List (κ × V)} {ds : List (κ × D)}, RepK K H vs ds → RepK K H' vs ds
  | _, _, .nil => .nil
  | _, _, .cons h r => .cons (h.mono e) (RepK.mono e r)
/-- an error's object as far as it is known -/
def ExP (cls : Value) (a : Addr) (d : Option Addr) (h : Heap) : Prop := ∃ (oe : Obj) (vs : Array Value), h.get? a = some oe ∧ oe.cls = cls ∧ oe.dict = d ∧ oe.data = .fields vs
/-- the own dict of an exception -/
def XOk (K : PySem.W.Frag) (Hc : Hp) : Option Addr → Option (List (Str × D)) → Prop
  | none, none => True
  | some a, some fs => ∃ vs, Hc a = some (.xd vs) ∧ RepF K Hc vs fs
  | _, _ => False
theorem XOk.mono {K : PySem.W.Frag} {H H' : Hp} (e : Same H H') : ∀ {d : Option Addr} {fs : Option (List (Str × D))}, XOk K H d fs → XOk K H' d fs
  | none, none, _ => True.intro
  | some a, some fs, ⟨vs, h, r⟩ => ⟨vs, e _ _ h, r.mono e⟩
def CellOk (K : PySem.W.Frag) (Hc : Hp) (p : Addr) : C → HO → Prop
  | .lst ds, o => ∃ vs, o = .lst vs ∧ RepA K Hc vs ds
  | .dk kvs, o => ∃ vs, o = .dK vs ∧ RepK K Hc vs kvs
  | .dt kvs, o => ∃ vs, o = .dT vs ∧ RepK K Hc vs kvs
  | .ins C dx fs, o => ∃ vs, o = .ins C dx vs ∧ RepF K Hc vs fs
  | .own x, o => o = .own x
  | .exc cls fs, o => ∃ φ d, o = .ext φ ∧ (∀ h, φ h → ExP cls p d h) ∧ XOk K Hc d fs

structure Split (K : PySem.W.Frag) (H Hc : Hp) (μ : M) : Prop where
  cell : ∀ p c, μ p = some c → Hc p = none ∧ ∃ o, H p = some o ∧ CellOk K Hc p c o
  rest : ∀ p, μ p = none → H p = Hc p

theorem CellOk.mono {K : PySem.W.Frag} {Hc Hc' : Hp} {p : Addr} (e : Same Hc Hc') : ∀ {c : C} {o : HO}, CellOk K Hc p c o → CellOk K Hc' p c o
  | .lst _, _, ⟨vs, h, r⟩ => ⟨vs, h, r.mono e⟩
  | .dk _, _, ⟨vs, h, r⟩ => ⟨vs, h, r.mono e⟩
  | .dt _, _, ⟨vs, h, r⟩ => ⟨vs, h, r.mono e⟩
  | .ins _ _ _, _, ⟨vs, h, r⟩ => ⟨vs, h, r.mono e⟩
  | .own _, _, h => h
  | .exc _ _, _, ⟨φ, d, h1, h2, h3⟩ => ⟨φ, d, h1, h2, h3.mono e⟩

section
variable {K : PySem.W.Frag} {H Hc : Hp} {μ : M}
theorem Split.same (s : Split K H Hc μ) : Same Hc H := fun a o h => by
  cases e : μ a with
  | none => rw [s.rest a e]; exact h
  | some c => rw [(s.cell a c e).1] at h; cases h
theorem Split.fresh (s : Split K H Hc μ) {p : Addr} (h : H p = none) : μ p = none ∧ Hc p = none := by
  cases e : μ p with
  | none => exact ⟨rfl, by rw [← s.rest p e]; exact h⟩
  | some c =>
    obtain ⟨_, o, ho, _⟩ := s.cell p c e
    rw [h] at ho
    cases ho
theorem same_new {Hc : Hp} {p : Addr} {o : HO} (h : Hc p = none) : Same Hc (upd Hc p o) := fun b x e => by
  rw [upd_ne (ne_of_none e h)]
  exact e
/-- a new object that is data -/
theorem Split.data (s : Split K H Hc μ) {p : Addr} {o : HO} (h : H p = none) : Split K (upd H p o) (upd Hc p o) μ := by
  obtain ⟨h1, h2⟩ := s.fresh h
  refine ⟨fun q c e => ?_, fun q e => ?_⟩
  · have ne : q ≠ p := fun z => by rw [z, h1] at e; cases e
    obtain ⟨a, o', b, c'⟩ := s.cell q c e
    exact ⟨by rw [upd_ne ne]; exact a, o', by rw [upd_ne ne]; exact b, c'.mono (same_new h2)⟩
  · by_cases ne : q = p
    · rw [ne, upd_same, upd_same]
    · rw [upd_ne ne, upd_ne ne]
      exact s.rest q e
/-- a new cell -/
theorem Split.new (s : Split K H Hc μ) {p : Addr} {o : HO} {c : C} (h : H p = none) (ok : CellOk K Hc p c o) : Split K (upd H p o) Hc (updM μ p c) := by
  obtain ⟨h1, h2⟩ := s.fresh h
  refine ⟨fun q c' e => ?_, fun q e => ?_⟩
  · by_cases ne : q = p
    · subst ne
      rw [updM_same] at e
      cases e
      exact ⟨h2, o, upd_same, ok⟩
    · rw [updM_ne ne] at e
      rw [upd_ne ne]
      exact s.cell q c' e
  · by_cases ne : q = p
    · subst ne
      rw [updM_same] at e
      cases e
    · rw [updM_ne ne] at e
      rw [upd_ne ne]
      exact s.rest q e
/-- a cell is changed -/
theorem Split.put (s : Split K H Hc μ) {p : Addr} {o : HO} {c c' : C} (h : μ p = some c) (ok : CellOk K Hc p c' o) : Split K (upd H p o) Hc (updM μ p c') := by
  refine ⟨fun q c2 e => ?_, fun q e => ?_⟩
  · by_cases ne : q = p
    · subst ne
      rw [updM_same] at e
      cases e
      exact ⟨(s.cell q c h).1, o, upd_same, ok⟩
    · rw [updM_ne ne] at e
      rw [upd_ne ne]
      exact s.cell q c2 e
  · by_cases ne : q = p
    · subst ne
      rw [updM_same] at e
      cases e
    · rw [updM_ne ne] at e
      rw [upd_ne ne]
      exact s.rest q e
end

/-- fewer cells -/
def Sub (μ μ' : M) : Prop := ∀ p c, μ p = some c → μ' p = some c
theorem Sub.refl (μ : M) : Sub μ μ := fun _ _ h => h
theorem Sub.trans {a b c : M} (h : Sub a b) (k : Sub b c) : Sub a c := fun p x e => k p x (h p x e)
theorem Sub.new {μ : M} {p : Addr} {c : C} (h : μ p = none) : Sub μ (updM μ p c) := fun q x e => by
  rw [updM_ne (ne_fresh e h)]
  exact e
theorem Sub.upd {μ μ' : M} (s : Sub μ μ') {p : Addr} {c : C} : Sub (updM μ p c) (updM μ' p c) := fun q x e => by
  by_cases h : q = p
  · subst h
    rw [updM_same] at e ⊢
    exact e
  · rw [updM_ne h] at e ⊢
    exact s q x e
theorem Sub.put {μ μ' : M} (s : Sub μ μ') {p : Addr} {c : C} (h : μ p = none) : Sub μ (updM μ' p c) := fun q x e => by
  rw [updM_ne (ne_fresh e h)]
  exact s q x e
theorem Sub.del {μ : M} (p : Addr) : Sub (delM μ p) μ := fun q x e => by
  unfold delM at e
  split at e
  · cases e
  · exact e
theorem Sub.fresh {μ μ' : M} (s : Sub μ μ') {p : Addr} (h : μ' p = none) : μ p = none := by
  cases e : μ p with
  | none => rfl
  | some c => rw [s p c e] at h; cases h
/-- cells become data -/
theorem Split.sub {K : PySem.W.Frag} {H Hc : Hp} {μ μ' : M} (s : Split K H Hc μ') (h : Sub μ μ') : ∃ Hc', Same Hc Hc' ∧ Split K H Hc' μ ∧ ∀ p, μ p = none → Hc' p = H p := by
  refine ⟨fun a => match μ a with | none => H a | some _ => none, ?_, ⟨?_, ?_⟩, ?_⟩
  · intro a o e
    show (match μ a with | none => H a | some _ => none) = some o
    cases m : μ a with
    | none => exact s.same a o e
    | some c =>
      rw [(s.cell a c (h a c m)).1] at e
      cases e
  · intro p c e
    obtain ⟨a, o, b, k⟩ := s.cell p c (h p c e)
    refine ⟨by show (match μ p with | none => H p | some _ => none) = none; rw [e], o, b, k.mono ?_⟩
    intro a' o' e'
    show (match μ a' with | none => H a' | some _ => none) = some o'
    cases m : μ a' with
    | none => exact s.same a' o' e'
    | some c' =>
      rw [(s.cell a' c' (h a' c' m)).1] at e'
      cases e'
  · intro p e
    show H p = (match μ p with | none => H p | some _ => none)
    rw [e]
  · intro p e
    show (match μ p with | none => H p | some _ => none) = H p
    rw [e]

/-! ### readings over data -/
abbrev Sl := List (Option D)
abbrev QD := D → M → Prop
/-- an exception: its class, its fields (where it has any), the cells behind it -/
abbrev XD := Value → Option (List (Str × D)) → M → Prop
abbrev DTE := XD → Sl → M → QD → Prop
abbrev DTT := XD → Sl → M → (Bool → M → Prop) → Prop
abbrev DTA := XD → Sl → M → (List D → M → Prop) → Prop
structure DEnds where
  nx : Sl → M → Prop
  rt : QD
  bk : Sl → M → Prop
  ct : Sl → M → Prop
  xc : Sl → XD
abbrev DTS := DEnds → Sl → M → Prop

structure RepS (K : PySem.W.Frag) (H : Hp) (σ : L2.St) (δ : Sl) : Prop where
  len : σ.length = δ.length
  val : ∀ (i : Nat) (d : D), δ[i]? = some (some d) → ∃ v, σ[i]? = some (some v) ∧ Rep K H v d
theorem RepS.mono {K : PySem.W.Frag} {H H' : Hp} {σ : L2.St} {δ : Sl} (e : Same H H') (r : RepS K H σ δ) : RepS K H' σ δ :=
  ⟨r.len, fun i d h => let ⟨v, a, b⟩ := r.val i d h; ⟨v, a, b.mono e⟩⟩
theorem RepS.set {K : PySem.W.Frag} {H : Hp} {σ : L2.St} {δ : Sl} (r : RepS K H σ δ) (i : Nat) {v : V} {d : D} (h : Rep K H v d) : RepS K H (σ.set i (some v)) (δ.set i (some d)) := by
  refine ⟨by rw [List.length_set, List.length_set]; exact r.len, fun j e hj => ?_⟩
  by_cases ij : i = j
  · subst ij
    by_cases hl : i < δ.length
    · rw [List.getElem?_set_self hl] at hj
      cases hj
      exact ⟨v, by rw [List.getElem?_set_self (by rw [r.len]; exact hl)], h⟩
    · rw [List.getElem?_eq_none (by rw [List.length_set]; omega)] at hj
      cases hj
  · rw [List.getElem?_set_ne ij] at hj
    obtain ⟨u, a, b⟩ := r.val j e hj
    exact ⟨u, by rw [List.getElem?_set_ne ij]; exact a, b⟩
theorem RepS.unset {K : PySem.W.Frag} {H : Hp} {σ : L2.St} {δ : Sl} (r : RepS K H σ δ) (i : Nat) (x : Option V) : RepS K H (σ.set i x) (δ.set i none) := by
  refine ⟨by rw [List.length_set, List.length_set]; exact r.len, fun j e hj => ?_⟩
  by_cases ij : i = j
  · subst ij
    by_cases hl : i < δ.length
    · rw [List.getElem?_set_self hl] at hj
      cases hj
    · rw [List.getElem?_eq_none (by rw [List.length_set]; omega)] at hj
      cases hj
  · rw [List.getElem?_set_ne ij] at hj
    obtain ⟨u, a, b⟩ := r.val j e hj
    exact ⟨u, by rw [List.getElem?_set_ne ij]; exact a, b⟩

/-- what is wanted of a value, from what is wanted of its data -/
def Ret (K : PySem.W.Frag) (Hc : Hp) (Qd : QD) (Q : VK) : Prop := ∀ d μ', Qd d μ' → ∀ v H' Hc', Same Hc Hc' → Split K H' Hc' μ' → Rep K Hc' v d → Q v H'
def RetA (K : PySem.W.Frag) (Hc : Hp) (Qd : List D → M → Prop) (Q : List V → Hp → Prop) : Prop := ∀ ds μ', Qd ds μ' → ∀ vs H' Hc', Same Hc Hc' → Split K H' Hc' μ' → RepA K Hc' vs ds → Q vs H'
def RetT (K : PySem.W.Frag) (Hc : Hp) (Qd : Bool → M → Prop) (Q : Bool → Hp → Prop) : Prop := ∀ b μ', Qd b μ' → ∀ H' Hc', Same Hc Hc' → Split K H' Hc' μ' → Q b H'
def RetN (K : PySem.W.Frag) (Hc : Hp) (Qd : Sl → M → Prop) (Q : L2.St → Hp → Prop) : Prop := ∀ δ μ', Qd δ μ' → ∀ σ H' Hc', Same Hc Hc' → Split K H' Hc' μ' → RepS K Hc' σ δ → Q σ H'
def RetX (K : PySem.W.Frag) (Hc : Hp) (Xd : XD) (E : XK) : Prop := ∀ cls fs μ', Xd cls fs μ' → ∀ d H' Hc', Same Hc Hc' → Split K H' Hc' μ' → XOk K Hc' d fs → E cls d H'
def RetW (K : PySem.W.Frag) (Hc : Hp) (Wd : Sl → XD) (W : WX) : Prop := ∀ δ cls fs μ', Wd δ cls fs μ' → ∀ σ d H' Hc', Same Hc Hc' → Split K H' Hc' μ' → RepS K Hc' σ δ → XOk K Hc' d fs → W cls d σ H'
section
variable {K : PySem.W.Frag} {Hc Hc' : Hp}
theorem Ret.mono {Qd : QD} {Q : VK} (e : Same Hc Hc') (r : Ret K Hc Qd Q) : Ret K Hc' Qd Q := fun d μ h v H H2 s => r d μ h v H H2 (e.trans s)
theorem RetT.mono {Qd : Bool → M → Prop} {Q : Bool → Hp → Prop} (e : Same Hc Hc') (r : RetT K Hc Qd Q) : RetT K Hc' Qd Q := fun d μ h H H2 s => r d μ h H H2 (e.trans s)
theorem RetA.mono {Qd : List D → M → Prop} {Q : List V → Hp → Prop} (e : Same Hc Hc') (r : RetA K Hc Qd Q) : RetA K Hc' Qd Q := fun d μ h v H H2 s => r d μ h v H H2 (e.trans s)
theorem RetN.mono {Qd : Sl → M → Prop} {Q : L2.St → Hp → Prop} (e : Same Hc Hc') (r : RetN K Hc Qd Q) : RetN K Hc' Qd Q := fun d μ h v H H2 s => r d μ h v H H2 (e.trans s)
theorem RetX.mono {Xd : XD} {E : XK} (e : Same Hc Hc') (r : RetX K Hc Xd E) : RetX K Hc' Xd E := fun c f μ h d H H2 s => r c f μ h d H H2 (e.trans s)
theorem RetW.mono {Wd : Sl → XD} {W : WX} (e : Same Hc Hc') (r : RetW K Hc Wd W) : RetW K Hc' Wd W := fun δ c f μ h σ d H H2 s => r δ c f μ h σ d H H2 (e.trans s)
theorem RetW.at {Wd : Sl → XD} {W : WX} {σ : L2.St} {δ : Sl} (r : RetW K Hc Wd W) (rs : RepS K Hc σ δ) : RetX K Hc (Wd δ) (fun cls d H => W cls d σ H) :=
  fun cls fs μ' h d H' Hc' e s x => r δ cls fs μ' h σ d H' Hc' e s (rs.mono e) x
end

def upE (K : PySem.W.Frag) (W : WX) (t : DTE) : TE := fun σ H Q => ∃ δ μ Hc Qd Xd, Split K H Hc μ ∧ RepS K Hc σ δ ∧ t Xd δ μ Qd ∧ Ret K Hc Qd Q ∧ RetX K Hc Xd (fun cls d H => W cls d σ H)
def upT (K : PySem.W.Frag) (W : WX) (t : DTT) : TT := fun σ H Q => ∃ δ μ Hc Qd Xd, Split K H Hc μ ∧ RepS K Hc σ δ ∧ t Xd δ μ Qd ∧ RetT K Hc Qd Q ∧ RetX K Hc Xd (fun cls d H => W cls d σ H)
def upA (K : PySem.W.Frag) (W : WX) (t : DTA) : TA := fun σ H Q => ∃ δ μ Hc Qd Xd, Split K H Hc μ ∧ RepS K Hc σ δ ∧ t Xd δ μ Qd ∧ RetA K Hc Qd Q ∧ RetX K Hc Xd (fun cls d H => W cls d σ H)
structure RetE (K : PySem.W.Frag) (Hc : Hp) (Dd : DEnds) (W : WX) (D : Ends) : Prop where
  nx : RetN K Hc Dd.nx D.nx
  rt : Ret K Hc Dd.rt D.rt
  bk : RetN K Hc Dd.bk D.bk
  ct : RetN K Hc Dd.ct D.ct
  xc : RetW K Hc Dd.xc W
theorem RetE.mono {K : PySem.W.Frag} {Hc Hc' : Hp} {Dd : DEnds} {W : WX} {D : Ends} (e : Same Hc Hc') (r : RetE K Hc Dd W D) : RetE K Hc' Dd W D := ⟨r.nx.mono e, r.rt.mono e, r.bk.mono e, r.ct.mono e, r.xc.mono e⟩
def upS (K : PySem.W.Frag) (W : WX) (t : DTS) : TS := fun D σ H => ∃ δ μ Hc Dd, Split K H Hc μ ∧ RepS K Hc σ δ ∧ t Dd δ μ ∧ RetE K Hc Dd W D

def DE (X : Cx) (W : WX) (e : Expr) (t : DTE) : Prop := PE X e (upE X.K W t)
def DT (X : Cx) (W : WX) (e : Expr) (t : DTT) : Prop := PT X e (upT X.K W t)
def DW (X : Cx) (W : WX) (e : Expr) (t : DTT) : Prop := PW X e (upT X.K W t)
def DA (X : Cx) (W : WX) (es : List Expr) (t : DTA) : Prop := PA X es (upA X.K W t)
def DS (X : Cx) (W : WX) (s : Stmt) (t : DTS) : Prop := PS X s (upS X.K W t)
def DSs (X : Cx) (W : WX) (ss : List Stmt) (t : DTS) : Prop := PSs X ss (upS X.K W t)

section
variable {X : Cx}
theorem PE.imp {e : Expr} {t t' : TE} (h : PE X e t) (i : ∀ σ H Q, t' σ H Q → t σ H Q) : PE X e t' := ⟨fun pins s σ H Q I w => h.run pins s σ H Q I (i σ H Q w)⟩
theorem PT.imp {e : Expr} {t t' : TT} (h : PT X e t) (i : ∀ σ H Q, t' σ H Q → t σ H Q) : PT X e t' := ⟨fun pins s σ H Q I w => h.run pins s σ H Q I (i σ H Q w)⟩
theorem PW.imp {e : Expr} {t t' : TT} (h : PW X e t) (i : ∀ σ H Q, t' σ H Q → t σ H Q) : PW X e t' := ⟨fun wh pins s σ H Q I w => h.run wh pins s σ H Q I (i σ H Q w)⟩
theorem PA.imp {es : List Expr} {t t' : TA} (h : PA X es t) (i : ∀ σ H Q, t' σ H Q → t σ H Q) : PA X es t' := ⟨fun pos pins s σ H Q I w => h.run pos pins s σ H Q I (i σ H Q w)⟩
theorem PS.imp {s : Stmt} {t t' : TS} (h : PS X s t) (i : ∀ D σ H, t' D σ H → t D σ H) : PS X s t' := ⟨fun pins s σ H D I w => h.run pins s σ H D I (i D σ H w)⟩
theorem PSs.imp {s : List Stmt} {t t' : TS} (h : PSs X s t) (i : ∀ D σ H, t' D σ H → t D σ H) : PSs X s t' := ⟨fun pins s σ H D I w => h.run pins s σ H D I (i D σ H w)⟩
end

/-- one of two ways -/
def ifB (b : Bool) (A B : Prop) : Prop := match b with
  | true => A
  | false => B
@[simp] theorem ifB_true {A B : Prop} : ifB true A B = A := rfl
@[simp] theorem ifB_false {A B : Prop} : ifB false A B = B := rfl
theorem ifB_ite {b : Bool} {A B A' B' : Prop} (h : ifB b A B) (ha : A → A') (hb : B → B') : if b = true then A' else B' := by
  cases b with
  | true => rw [if_pos rfl]; exact ha h
  | false => rw [if_neg Bool.false_ne_true]; exact hb h
theorem ifB_of {b : Bool} {A B : Prop} (ha : b = true → A) (hb : b = false → B) : ifB b A B := by
  cases b with
  | true => exact ha rfl
  | false => exact hb rfl
theorem ifB_dec {p : Prop} [Decidable p] {A B : Prop} (ha : p → A) (hb : ¬ p → B) : ifB (decide p) A B := by
  by_cases h : p
  · rw [decide_eq_true h]; exact ha h
  · rw [decide_eq_false h]; exact hb h

def OptP {α : Type} (o : Option α) (P : α → Prop) : Prop := match o with
  | some x => P x
  | none => False
theorem OptP.ex {α : Type} {o : Option α} {P : α → Prop} (h : OptP o P) : ∃ x, o = some x ∧ P x := by
  cases o with
  | none => exact h.elim
  | some x => exact ⟨x, rfl, h⟩
theorem OptP.of {α : Type} {o : Option α} {P : α → Prop} {x : α} (e : o = some x) (h : P x) : OptP o P := by rw [e]; exact h
@[simp] theorem OptP_some {α : Type} {x : α} {P : α → Prop} : OptP (some x) P = P x := rfl
/-- a value that is there -/
def OptQ (o : Option D) (Q : QD) (μ : M) : Prop := match o with
  | some d => Q d μ
  | none => False
theorem OptQ.ex {o : Option D} {Q : QD} {μ : M} (h : OptQ o Q μ) : ∃ x, o = some x ∧ Q x μ := by
  cases o with
  | none => exact h.elim
  | some x => exact ⟨x, rfl, h⟩
theorem OptQ.of {o : Option D} {Q : QD} {μ : M} {x : D} (e : o = some x) (h : Q x μ) : OptQ o Q μ := by rw [e]; exact h
@[simp] theorem OptQ_some {x : D} {Q : QD} {μ : M} : OptQ (some x) Q μ = Q x μ := rfl
def OptB (o : Option Bool) (Q : Bool → M → Prop) (μ : M) : Prop := match o with
  | some d => Q d μ
  | none => False
theorem OptB.ex {o : Option Bool} {Q : Bool → M → Prop} {μ : M} (h : OptB o Q μ) : ∃ x, o = some x ∧ Q x μ := by
  cases o with
  | none => exact h.elim
  | some x => exact ⟨x, rfl, h⟩
theorem OptB.of {o : Option Bool} {Q : Bool → M → Prop} {μ : M} {x : Bool} (e : o = some x) (h : Q x μ) : OptB o Q μ := by rw [e]; exact h
@[simp] theorem OptB_some {x : Bool} {Q : Bool → M → Prop} {μ : M} : OptB (some x) Q μ = Q x μ := rfl
/-! ### the cell behind a reference, read -/
def view (μ : M) : D → D
  | .raw (.ref p) => match cellL (μ p) with
    | some ds => .lst ds
    | none => .raw (.ref p)
  | d => d
theorem view_ref {μ : M} {p : Addr} : view μ (.raw (.ref p)) = (match cellL (μ p) with | some ds => D.lst ds | none => .raw (.ref p)) := rfl
theorem view_refs {μ : M} {p : Addr} {d : D} (h : view μ (.raw (.ref p)) = d) : (∃ ds, μ p = some (.lst ds) ∧ d = .lst ds) ∨ d = .raw (.ref p) := by
  rw [view_ref] at h
  cases e : cellL (μ p) with
  | none => rw [e] at h; exact .inr h.symm
  | some ds => rw [e] at h; exact .inl ⟨ds, cellL_some e, h.symm⟩
section
variable {K : PySem.W.Frag} {H Hc : Hp} {μ : M} {v : V} {d : D}
theorem view_lst {ds : List D} (s : Split K H Hc μ) (r : Rep K Hc v d) (h : view μ d = .lst ds) : ∃ a vs, v = .ref a ∧ H a = some (.lst vs) ∧ RepA K Hc vs ds := by
  cases r with
  | lst hs ha =>
    cases (show D.lst _ = D.lst ds from h)
    exact ⟨_, _, rfl, s.same _ _ hs, ha⟩
  | raw =>
    cases v with
    | ref p =>
      rcases view_refs h with ⟨es, e, h'⟩ | h'
      · cases h'
        obtain ⟨_, o, ho, vs, rfl, ra⟩ := s.cell p _ e
        exact ⟨p, vs, rfl, ho, ra⟩
      · cases h'
    | _ => cases h
  | _ => cases h
theorem view_tup {ds : List D} (s : Split K H Hc μ) (r : Rep K Hc v d) (h : view μ d = .tup ds) : ∃ a vs, v = .ref a ∧ SqT K H a vs ∧ RepA K Hc vs ds := by
  cases r with
  | tup hs ha =>
    cases (show D.tup _ = D.tup ds from h)
    exact ⟨_, _, rfl, same_t s.same hs, ha⟩
  | raw =>
    cases v with
    | ref p =>
      rcases view_refs h with ⟨es, e, h'⟩ | h' <;> cases h'
    | _ => cases h
  | _ => cases h
theorem view_int {i : Int} (r : Rep K Hc v d) (h : view μ d = .int i) : v = .int i := by
  cases r with
  | int j => cases (show D.int _ = D.int i from h); rfl
  | raw =>
    cases v with
    | ref p =>
      rcases view_refs h with ⟨es, e, h'⟩ | h' <;> cases h'
    | _ => cases h
  | _ => cases h
theorem view_str {x : Str} (r : Rep K Hc v d) (h : view μ d = .str x) : v = .str x := by
  cases r with
  | str j => cases (show D.str _ = D.str x from h); rfl
  | raw =>
    cases v with
    | ref p =>
      rcases view_refs h with ⟨es, e, h'⟩ | h' <;> cases h'
    | _ => cases h
  | _ => cases h
theorem view_scr {ns : List Int} (s : Split K H Hc μ) (r : Rep K Hc v d) (h : view μ d = .scr ns) : ∃ a, v = .ref a ∧ SqL K H a (ns.map V.int) := by
  cases r with
  | scr hs => cases (show D.scr _ = D.scr ns from h); exact ⟨_, rfl, s.same.seq hs⟩
  | raw =>
    cases v with
    | ref p =>
      rcases view_refs h with ⟨es, e, h'⟩ | h' <;> cases h'
    | _ => cases h
  | _ => cases h
end
end DL
set_option Elab.async false
set_option linter.all false
set_option maxRecDepth 100000
set_option maxHeartbeats 2000000
/-! The data layer: expressions. -/
namespace DL
open PySem PySem.Spec L2

theorem view_rep {K : PySem.W.Frag} {H Hc : Hp} {μ : M} {v : V} {d : D} (s : Split K H Hc μ) (r : Rep K Hc v d) : Rep K H v (view μ d) := by
  cases r with
  | raw =>
    cases v with
    | ref p =>
      rcases view_refs (μ := μ) (p := p) rfl with ⟨es, e, h'⟩ | h'
      · rw [h']
        obtain ⟨_, o, ho, vs, rfl, ra⟩ := s.cell p _ e
        exact .lst ho (ra.mono s.same)
      · rw [h']
        exact .raw _
    | _ => exact .raw _
  | non => exact .non
  | bl b => exact .bl b
  | int i => exact .int i
  | str x => exact .str x
  | lst h a => exact .lst (s.same _ _ h) (a.mono s.same)
  | tup h a => exact .tup (same_t s.same h) (a.mono s.same)
  | scr h => exact .scr (s.same.seq h)
  | emp h => exact .emp (s.same _ _ h)

@[simp] theorem view_non {μ : M} : view μ .non = .non := rfl
@[simp] theorem view_bl {μ : M} {b} : view μ (.bl b) = .bl b := rfl
@[simp] theorem view_int' {μ : M} {i} : view μ (.int i) = .int i := rfl
@[simp] theorem view_str' {μ : M} {i} : view μ (.str i) = .str i := rfl
@[simp] theorem view_lst' {μ : M} {i} : view μ (.lst i) = .lst i := rfl
@[simp] theorem view_tup' {μ : M} {i} : view μ (.tup i) = .tup i := rfl
@[simp] theorem view_emp' {μ : M} : view μ .emp = .emp := rfl
@[simp] theorem view_scr' {μ : M} {i} : view μ (.scr i) = .scr i := rfl
theorem view_cell {μ : M} {p : Addr} {ds : List D} (h : μ p = some (.lst ds)) : view μ (.raw (.ref p)) = .lst ds := by
  rw [view_ref, h]
  rfl

theorem Ret.new {K : PySem.W.Frag} {H Hc : Hp} {μ : M} {Qd : QD} {Q : VK} {vs : List V} {ds : List D} (rt : Ret K Hc Qd Q) (s : Split K H Hc μ) (ra : RepA K Hc vs ds) (q : Qd (.lst ds) μ) : ∀ p, H p = none → Q (.ref p) (upd H p (.lst vs)) := fun p hp => by
  have f := (s.fresh hp).2
  exact rt _ _ q _ _ (upd Hc p (.lst vs)) (same_new f) (s.data hp) (.lst upd_same (ra.mono (same_new f)))
theorem Ret.newT {K : PySem.W.Frag} {H Hc : Hp} {μ : M} {Qd : QD} {Q : VK} {vs : List V} {ds : List D} (rt : Ret K Hc Qd Q) (s : Split K H Hc μ) (ra : RepA K Hc vs ds) (q : Qd (.tup ds) μ) : ∀ p, H p = none → Q (.ref p) (upd H p (.tup vs)) := fun p hp => by
  have f := (s.fresh hp).2
  exact rt _ _ q _ _ (upd Hc p (.tup vs)) (same_new f) (s.data hp) (.tup (.inl (.inl upd_same)) (ra.mono (same_new f)))
theorem Ret.newC {K : PySem.W.Frag} {H Hc : Hp} {μ : M} {Qd : QD} {Q : VK} {vs : List V} {ds : List D} (rt : Ret K Hc Qd Q) (s : Split K H Hc μ) (ra : RepA K Hc vs ds) (q : ∀ p, μ p = none → Qd (.raw (.ref p)) (updM μ p (.lst ds))) : ∀ p, H p = none → Q (.ref p) (upd H p (.lst vs)) := fun p hp =>
  rt _ _ (q p (s.fresh hp).1) _ _ Hc (Same.refl Hc) (s.new hp ⟨vs, rfl, ra⟩) (.raw _)
theorem Ret.val {K : PySem.W.Frag} {H Hc : Hp} {μ : M} {Qd : QD} {Q : VK} {v : V} {d : D} (rt : Ret K Hc Qd Q) (s : Split K H Hc μ) (r : Rep K Hc v d) (q : Qd d μ) : Q v H := rt _ _ q _ _ Hc (Same.refl Hc) s r

/-! ### two operands -/
abbrev DR2 := D → D → M → QD → Prop
def LOp (K : PySem.W.Frag) (r : R2) (g : DR2) : Prop := ∀ (x y : V) (d e : D) (H Hc : Hp) (μ : M) (Q : VK) (Qd : QD), Split K H Hc μ → Rep K Hc x d → Rep K Hc y e → g d e μ Qd → Ret K Hc Qd Q → r x y H Q
def kOp2 (g : DR2) (x : D) (Q : QD) (y : D) (μ : M) : Prop := g x y μ Q
def kOp1 (g : DR2) (tb : DTE) (W : XD) (δ : Sl) (Q : QD) (x : D) (μ : M) : Prop := tb W δ μ (kOp2 g x Q)
def dOp (g : DR2) (ta tb : DTE) (W : XD) (δ : Sl) (μ : M) (Q : QD) : Prop := ta W δ μ (kOp1 g tb W δ Q)
theorem lift2 {K : PySem.W.Frag} {W : WX} {r : R2} {g : DR2} {ta tb : DTE} (l : LOp K r g) : ∀ σ H Q, upE K W (dOp g ta tb) σ H Q → tOp r (upE K W ta) (upE K W tb) σ H Q :=
  fun σ H Q ⟨δ, μ, Hc, Qd, Xd, s, rs, h, rt, rx⟩ => ⟨δ, μ, Hc, _, Xd, s, rs, h, fun x μ1 h1 v H1 Hc1 e1 s1 r1 =>
    ⟨δ, μ1, Hc1, _, Xd, s1, rs.mono e1, h1, fun y μ2 h2 w H2 Hc2 e2 s2 r2 => l v w x y H2 Hc2 μ2 Q Qd s2 (r1.mono e2) r2 h2 (rt.mono (e1.trans e2)), rx.mono e1⟩, rx⟩
theorem OpR.or {X : Cx} {f : Value → Value → Sem Value} {r1 r2 : R2} (h1 : OpR X f r1) (h2 : OpR X f r2) : OpR X f (fun x y H Q => r1 x y H Q ∨ r2 x y H Q) :=
  fun pins s σ H x y v u Q I rx ry h => h.elim (h1 pins s σ H x y v u Q I rx ry) (h2 pins s σ H x y v u Q I rx ry)

def gAdd : DR2 := fun a b μ Q => match view μ a, view μ b with
  | .int i, .int j => Q (.int (i + j)) μ
  | .str x, .str y => x.length + y.length ≤ sizeLine ∧ Q (.str (x ++ y)) μ
  | .lst xs, .lst ys => xs.length + ys.length ≤ sizeLine ∧ Q (.lst (xs ++ ys)) μ
  | .tup xs, .tup ys => xs.length + ys.length ≤ sizeLine ∧ Q (.tup (xs ++ ys)) μ
  | _, _ => False
/-- ints alone -/
def gI (c : Int → Int → Prop) (f : Int → Int → D) : DR2 := fun a b μ Q => match view μ a, view μ b with
  | .int i, .int j => c i j ∧ Q (f i j) μ
  | _, _ => False
def gI0 (f : Int → Int → D) : DR2 := fun a b μ Q => match view μ a, view μ b with
  | .int i, .int j => Q (f i j) μ
  | _, _ => False
def gMul : DR2 := fun a b μ Q => match view μ a, view μ b with
  | .int i, .int j => IntMulOk i j ∧ Q (.int (i * j)) μ
  | .lst xs, .int k => (-(2 ^ 63) ≤ k ∧ k < 2 ^ 63 ∧ xs.length * k.toNat ≤ sizeLine) ∧ Q (.lst (List.replicate k.toNat xs).flatten) μ
  | .tup xs, .int k => (xs ≠ [] ∧ 2 ≤ k ∧ k ≤ 1000 ∧ xs.length ≤ 1000) ∧ Q (.tup (List.replicate k.toNat xs).flatten) μ
  | _, _ => False
section
variable {K : PySem.W.Frag}
theorem RepA.rep {H : Hp} {xs : List V} {us : List D} (h : RepA K H xs us) : ∀ k : Nat, RepA K H (List.replicate k xs).flatten (List.replicate k us).flatten
  | 0 => .nil
  | k + 1 => by
    rw [List.replicate_succ, List.replicate_succ, List.flatten_cons, List.flatten_cons]
    exact RepA.append h (RepA.rep h k)
theorem l_I {c : Int → Int → Prop} {fv : Int → Int → V} {f : Int → Int → D} (hf : ∀ H i j, Rep K H (fv i j) (f i j)) : LOp K (rI c fv) (gI c f) := by
  intro x y d e H Hc μ Q Qd s rx ry h rt
  unfold gI at h
  split at h
  · rename_i i j e1 e2
    exact ⟨i, j, view_int rx e1, view_int ry e2, h.1, rt.val s (hf _ _ _) h.2⟩
  · exact h.elim
theorem l_I0 {fv : Int → Int → V} {f : Int → Int → D} (hf : ∀ H i j, Rep K H (fv i j) (f i j)) : LOp K (rI0 fv) (gI0 f) := by
  intro x y d e H Hc μ Q Qd s rx ry h rt
  unfold gI0 at h
  split at h
  · rename_i i j e1 e2
    exact ⟨i, j, view_int rx e1, view_int ry e2, rt.val s (hf _ _ _) h⟩
  · exact h.elim
def rAddAll (K : PySem.W.Frag) : R2 := fun x y H Q => ((rI0 fun i j => .int (i + j)) x y H Q ∨ (fun x y H Q => ∃ i j, x = V.str i ∧ y = .str j ∧ i.length + j.length ≤ sizeLine ∧ Q (.str (i ++ j)) H) x y H Q) ∨ (rCat x y H Q ∨ rCatA K x y H Q)
theorem l_add : LOp K (rAddAll K) gAdd := by
  intro x y d e H Hc μ Q Qd s rx ry h rt
  unfold gAdd at h
  split at h
  · rename_i i j e1 e2
    exact .inl (.inl ⟨i, j, view_int rx e1, view_int ry e2, rt.val s (.int _) h⟩)
  · rename_i i j e1 e2
    exact .inl (.inr ⟨i, j, view_str rx e1, view_str ry e2, h.1, rt.val s (.str _) h.2⟩)
  · rename_i xs ys e1 e2
    obtain ⟨a, vs, rfl, ha, ra⟩ := view_lst s rx e1
    obtain ⟨b, ws, rfl, hb, rb⟩ := view_lst s ry e2
    exact .inr (.inl ⟨a, b, vs, ws, rfl, rfl, ha, hb, by rw [ra.length, rb.length]; exact h.1, rt.new s (ra.append rb) h.2⟩)
  · rename_i xs ys e1 e2
    have own : ∀ {v : V} {d : D} {zs : List D}, Rep K Hc v d → view μ d = .tup zs → Rep K Hc v (.tup zs) := fun {v d zs} r e => by
      cases r with
      | tup h3 h4 =>
        cases (show D.tup _ = D.tup _ from e)
        exact .tup h3 h4
      | raw =>
        exfalso
        cases v with
        | ref a =>
          rcases view_refs e with ⟨es, _, h'⟩ | h' <;> cases h'
        | _ => cases e
      | _ => cases e
    have o1 := own rx e1
    have o2 := own ry e2
    obtain ⟨a, vs, rfl, ha, ra⟩ := view_tup s rx e1
    obtain ⟨b, ws, rfl, hb, rb⟩ := view_tup s ry e2
    refine .inr (.inr ⟨a, b, vs, ws, rfl, rfl, ha, hb, by rw [ra.length, rb.length]; exact h.1, fun z => ?_, fun _ z => ?_, fun _ _ => rt.newT s (ra.append rb) h.2⟩)
    · subst z
      cases ra
      rw [List.nil_append] at h
      exact rt.val s o2 h.2
    · subst z
      cases rb
      rw [List.append_nil] at h
      exact rt.val s o1 h.2
  · exact h.elim
def rMulAll (K : PySem.W.Frag) : R2 := fun x y H Q => (rI IntMulOk fun i j => .int (i * j)) x y H Q ∨ (rRep x y H Q ∨ rRepT K x y H Q)
theorem l_mul : LOp K (rMulAll K) gMul := by
  intro x y d e H Hc μ Q Qd s rx ry h rt
  unfold gMul at h
  split at h
  · rename_i i j e1 e2
    exact .inl ⟨i, j, view_int rx e1, view_int ry e2, h.1, rt.val s (.int _) h.2⟩
  · rename_i xs k e1 e2
    obtain ⟨a, vs, rfl, ha, ra⟩ := view_lst s rx e1
    exact .inr (.inl ⟨a, k, vs, rfl, view_int ry e2, ha, h.1.1, h.1.2.1, by rw [ra.length]; exact h.1.2.2, rt.new s (ra.rep _) h.2⟩)
  · rename_i xs k e1 e2
    obtain ⟨a, vs, rfl, ha, ra⟩ := view_tup s rx e1
    refine .inr (.inr ⟨a, k, vs, rfl, view_int ry e2, ha, fun z => ?_, h.1.2.1, h.1.2.2.1, by rw [ra.length]; exact h.1.2.2.2, rt.newT s (ra.rep _) h.2⟩)
    subst z
    cases ra
    exact h.1.1 rfl
  · exact h.elim
end
theorem op_addAll {X : Cx} : OpR X (binaryOp .Add) (rAddAll X.K) := (op_add.or op_add_str).or (op_cat.or op_catA)
theorem op_mulAll {X : Cx} : OpR X (binaryOp .Mult) (rMulAll X.K) :=
  OpR.or (opI fun _ _ _ _ _ _ _ hc q => PyProof.Rows.mul_int q hc) (OpR.or op_rep op_repT)
def CDivD (i j : Int) : Prop := j ≠ 0 ∧ Builtin.divisionGoesByPylong i j = false
theorem op_fdivD {X : Cx} : OpR X (binaryOp .FloorDiv) (rI CDivD fun i j => .int (i.fdiv j)) := opI fun _ _ _ _ _ _ _ hc q => PyProof.Rows.floordiv_int hc.1 q (.inl hc.2)

/-! ### equality of data -/
mutual
def toP : D → PyData
  | .non => .none
  | .bl b => .bool b
  | .int i => .int i
  | .str x => .str x
  | .lst xs => .list (toPs xs)
  | .tup xs => .tuple (toPs xs)
  | .scr _ => .none
  | .raw _ => .none
  | .emp => .none
def toPs : List D → List PyData
  | [] => []
  | x :: xs => toP x :: toPs xs
end
def okN : Nat → D → Bool
  | _, .non => true
  | _, .bl _ => true
  | _, .int _ => true
  | _, .str x => PyData.strOk x
  | n + 1, .lst xs => xs.all (okN n)
  | n + 1, .tup xs => xs.all (okN n)
  | _, _ => false
def eqD (a b : D) : Bool := PyData.eqv (toP a) (toP b)
mutual
theorem dp_of {K : PySem.W.Frag} {H : Hp} : ∀ {n : Nat} {v : V} {d : D}, okN n d = true → Rep K H v d → Dp K H v (toP d)
  | _, _, _, _, .non => .non
  | _, _, _, _, .bl b => .bl b
  | _, _, _, _, .int i => .int i
  | _, _, _, _, .str x => .str x
  | n + 1, _, _, h, .lst a r => .lst (.inl (.inl a)) (dps_of (n := n) (by simpa [okN] using h) r)
  | n + 1, _, _, h, .tup a r => .tup a (dps_of (n := n) (by simpa [okN] using h) r)
  | 0, _, _, h, .lst a r => by simp [okN] at h
  | 0, _, _, h, .tup a r => by simp [okN] at h
  | n, _, _, h, .scr a => by cases n <;> simp [okN] at h
  | n, v, _, h, .raw _ => by cases n <;> simp [okN] at h
  | n, _, _, h, .emp _ => by cases n <;> simp [okN] at h
theorem dps_of {K : PySem.W.Frag} {H : Hp} : ∀ {n : Nat} {vs : List V} {ds : List D}, (∀ d ∈ ds, okN n d = true) → RepA K H vs ds → DpAll K H vs (toPs ds)
  | _, _, _, _, .nil => .nil
  | n, _, _, h, .cons a r => .cons (dp_of (h _ List.mem_cons_self) a) (dps_of (fun d hd => h d (List.mem_cons_of_mem _ hd)) r)
end
theorem toPs_eq : ∀ xs : List D, toPs xs = xs.map toP
  | [] => rfl
  | x :: xs => by rw [toPs, toPs_eq xs, List.map_cons]
theorem okN_lay : ∀ (n : Nat) (d : D), okN n d = true → (toP d).canLay0 = true ∧ (toP d).depth ≤ n
  | n, .non, _ => by simp [toP, PyData.canLay0, PyData.depth]
  | n, .bl _, _ => by simp [toP, PyData.canLay0, PyData.depth]
  | n, .int _, _ => by simp [toP, PyData.canLay0, PyData.depth]
  | n, .str x, h => by
    have h' : PyData.strOk x = true := by cases n <;> simpa [okN] using h
    simp [toP, PyData.canLay0, PyData.depth, h']
  | 0, .lst xs, h => by simp [okN] at h
  | 0, .tup xs, h => by simp [okN] at h
  | n, .scr _, h => by cases n <;> simp [okN] at h
  | n, .raw _, h => by cases n <;> simp [okN] at h
  | n, .emp, h => by cases n <;> simp [okN] at h
  | n + 1, .lst xs, h => by
    have h' : ∀ d ∈ xs, okN n d = true := by simpa [okN] using h
    have key : ∀ ys : List D, (∀ d ∈ ys, okN n d = true) → PyData.canLayAll0 (toPs ys) = true ∧ PyData.depthAll (toPs ys) ≤ n := by
      intro ys
      induction ys with
      | nil => intro _; simp [toPs, PyData.canLayAll0, PyData.depthAll]
      | cons y ys ih =>
        intro hy
        have a := okN_lay n y (hy y List.mem_cons_self)
        have b := ih fun d hd => hy d (List.mem_cons_of_mem _ hd)
        simp only [toPs, PyData.canLayAll0, PyData.depthAll]
        exact ⟨by rw [a.1, b.1]; rfl, by omega⟩
    have z := key xs h'
    simp only [toP, PyData.canLay0, PyData.depth]
    exact ⟨z.1, by omega⟩
  | n + 1, .tup xs, h => by
    have h' : ∀ d ∈ xs, okN n d = true := by simpa [okN] using h
    have key : ∀ ys : List D, (∀ d ∈ ys, okN n d = true) → PyData.canLayAll0 (toPs ys) = true ∧ PyData.depthAll (toPs ys) ≤ n := by
      intro ys
      induction ys with
      | nil => intro _; simp [toPs, PyData.canLayAll0, PyData.depthAll]
      | cons y ys ih =>
        intro hy
        have a := okN_lay n y (hy y List.mem_cons_self)
        have b := ih fun d hd => hy d (List.mem_cons_of_mem _ hd)
        simp only [toPs, PyData.canLayAll0, PyData.depthAll]
        exact ⟨by rw [a.1, b.1]; rfl, by omega⟩
    have z := key xs h'
    simp only [toP, PyData.canLay0, PyData.depth]
    exact ⟨z.1, by omega⟩
theorem shaped_of {d : D} (h : okN 64 d = true) : SeqAt.shaped (toP d) = true := by
  have z := okN_lay 64 d h
  unfold SeqAt.shaped
  rw [z.1, decide_eq_true z.2]
  rfl
def gEq : DR2 := fun a b μ Q => okN 64 (view μ a) = true ∧ okN 64 (view μ b) = true ∧ Q (.bl (eqD (view μ a) (view μ b))) μ
def gNe : DR2 := fun a b μ Q => okN 64 (view μ a) = true ∧ okN 64 (view μ b) = true ∧ Q (.bl (!eqD (view μ a) (view μ b))) μ
theorem l_eq {K : PySem.W.Frag} : LOp K (rEqD K) gEq := fun x y d e H Hc μ Q Qd s rx ry h rt =>
  ⟨_, _, dp_of h.1 (view_rep s rx), dp_of h.2.1 (view_rep s ry), shaped_of h.1, shaped_of h.2.1, rt.val s (.bl _) h.2.2⟩
theorem l_ne {K : PySem.W.Frag} : LOp K (rNeD K) gNe := fun x y d e H Hc μ Q Qd s rx ry h rt =>
  ⟨_, _, dp_of h.1 (view_rep s rx), dp_of h.2.1 (view_rep s ry), shaped_of h.1, shaped_of h.2.1, rt.val s (.bl _) h.2.2⟩

/-! ### is -/
def isN : D → Option Bool
  | .non => some true
  | .raw .non => some true
  | _ => some false
def gIs (neg : Bool) : DR2 := fun a b μ Q => match a, b with
  | .bl x, .bl y => Q (.bl (neg ^^ decide (x = y))) μ
  | .raw v, .non => Q (.bl (neg ^^ decide (v = .non))) μ
  | .non, .non => Q (.bl (neg ^^ true)) μ
  | _, .non => Q (.bl (neg ^^ false)) μ
  | _, _ => False
def rIsAll : R2 := fun x y H Q => (y = .non ∧ Q (.bl (decide (x = .non))) H) ∨ rIsB x y H Q
def rNotAll : R2 := fun x y H Q => (y = .non ∧ Q (.bl (!decide (x = .non))) H) ∨ rNotB x y H Q
theorem l_is {K : PySem.W.Frag} : LOp K rIsAll (gIs false) := by
  intro x y d e H Hc μ Q Qd s rx ry h rt
  unfold gIs at h
  split at h
  · cases rx; cases ry
    rename_i a b
    exact .inr ⟨a, b, rfl, rfl, rt.val s (.bl _) (by simpa using h)⟩
  · cases rx; cases ry
    exact .inl ⟨rfl, rt.val s (.bl _) (by simpa using h)⟩
  · cases rx; cases ry
    exact .inl ⟨rfl, rt.val s (.bl _) (by simpa using h)⟩
  · rename_i n1 n2
    cases ry
    refine .inl ⟨rfl, rt.val s (.bl _) ?_⟩
    have e : decide (x = V.non) = false := decide_eq_false fun z => by
      subst z
      cases rx
      · exact n2 rfl
      · exact n1 _ rfl
    rw [e]
    simpa using h
  · exact h.elim
theorem l_isnot {K : PySem.W.Frag} : LOp K rNotAll (gIs true) := by
  intro x y d e H Hc μ Q Qd s rx ry h rt
  unfold gIs at h
  split at h
  · cases rx; cases ry
    rename_i a b
    exact .inr ⟨a, b, rfl, rfl, rt.val s (.bl _) (by simpa using h)⟩
  · cases rx; cases ry
    exact .inl ⟨rfl, rt.val s (.bl _) (by simpa using h)⟩
  · cases rx; cases ry
    exact .inl ⟨rfl, rt.val s (.bl _) (by simpa using h)⟩
  · rename_i n1 n2
    cases ry
    refine .inl ⟨rfl, rt.val s (.bl _) ?_⟩
    have e : decide (x = V.non) = false := decide_eq_false fun z => by
      subst z
      cases rx
      · exact n2 rfl
      · exact n1 _ rfl
    rw [e]
    simpa using h
  · exact h.elim

/-! ### items -/
def gIx : DR2 := fun a b μ Q => match view μ a, view μ b with
  | .lst xs, .int i => OptQ (atI xs i) Q μ
  | .tup xs, .int i => OptQ (atI xs i) Q μ
  | .scr ns, .int i => OptQ ((atI ns i).map D.int) Q μ
  | .str z, .int i => z.length ≤ sizeLine ∧ OptQ ((atI z.cps.toList i).map fun c => .str ⟨#[c]⟩) Q μ
  | _, _ => False
theorem atI_rep {K : PySem.W.Frag} {H : Hp} {vs : List V} {ds : List D} {i : Int} {d : D} (r : RepA K H vs ds) (h : atI ds i = some d) : ∃ v, atI vs i = some v ∧ Rep K H v d := by
  unfold atI at h ⊢
  rw [r.length]
  cases e : ixN ds.length i with
  | none => rw [e] at h; cases h
  | some j =>
    rw [e] at h
    exact r.get h
theorem atI_map {α β : Type} {f : α → β} {xs : List α} {i : Int} {x : α} (h : atI xs i = some x) : atI (xs.map f) i = some (f x) := by
  unfold atI at h ⊢
  rw [List.length_map]
  cases e : ixN xs.length i with
  | none => rw [e] at h; cases h
  | some j =>
    rw [e] at h
    show (xs.map f)[j]? = some (f x)
    rw [List.getElem?_map, show xs[j]? = some x from h]
    rfl
theorem l_ix {K : PySem.W.Frag} : LOp K (rIx K) gIx := by
  intro x y d e H Hc μ Q Qd s rx ry h rt
  unfold gIx at h
  split at h
  · rename_i xs i e1 e2
    obtain ⟨a, vs, rfl, ha, ra⟩ := view_lst s rx e1
    obtain ⟨z, hz, hq⟩ := h.ex
    obtain ⟨v, hv, rv⟩ := atI_rep ra hz
    exact .inl ⟨a, vs, i, v, rfl, view_int ry e2, SqL.of ha, hv, rt.val s rv hq⟩
  · rename_i xs i e1 e2
    obtain ⟨a, vs, rfl, ha, ra⟩ := view_tup s rx e1
    obtain ⟨z, hz, hq⟩ := h.ex
    obtain ⟨v, hv, rv⟩ := atI_rep ra hz
    exact .inr (.inl ⟨a, vs, i, v, rfl, view_int ry e2, ha, hv, rt.val s rv hq⟩)
  · rename_i ns i e1 e2
    obtain ⟨a, rfl, ha⟩ := view_scr s rx e1
    obtain ⟨z, hz, hq⟩ := h.ex
    obtain ⟨n, hn, rfl⟩ := Option.map_eq_some_iff.mp hz
    exact .inl ⟨a, _, i, _, rfl, view_int ry e2, ha, atI_map hn, rt.val s (.int _) hq⟩
  · rename_i z i e1 e2
    obtain ⟨c', hc', hq⟩ := h.2.ex
    obtain ⟨c, hc, rfl⟩ := Option.map_eq_some_iff.mp hc'
    exact .inr (.inr ⟨z, i, c, view_str rx e1, view_int ry e2, h.1, hc, rt.val s (.str _) hq⟩)
  · exact h.elim

/-! ### x in xs, of flat things -/
def flatD : D → Bool
  | .non => true
  | .bl _ => true
  | .int _ => true
  | .str _ => true
  | _ => false
def inD (x : D) (xs : List D) : Bool := xs.any fun y => eqD y x
def gIn (neg : Bool) : DR2 := fun a b μ Q => match view μ b with
  | .lst xs => flatD a = true ∧ xs.all flatD = true ∧ Q (.bl (neg ^^ inD a xs)) μ
  | .tup xs => flatD a = true ∧ xs.all flatD = true ∧ Q (.bl (neg ^^ inD a xs)) μ
  | .str z => match a with
    | .str y => Q (.bl (neg ^^ !(Builtin.Str.occurrences z y 0 z.length 1).isEmpty)) μ
    | _ => False
  | _ => False
theorem flat_rep {K : PySem.W.Frag} {H : Hp} {v : V} {d : D} (r : Rep K H v d) (h : flatD d = true) : flatV v = true ∧ ∀ {w : V} {e : D}, Rep K H w e → flatD e = true → eqV w v = eqD e d := by
  cases r with
  | non => refine ⟨rfl, fun r' h' => ?_⟩; cases r' <;> first | rfl | cases h'
  | bl => refine ⟨rfl, fun r' h' => ?_⟩; cases r' <;> first | rfl | cases h'
  | int => refine ⟨rfl, fun r' h' => ?_⟩; cases r' <;> first | rfl | cases h'
  | str => refine ⟨rfl, fun r' h' => ?_⟩; cases r' <;> first | rfl | cases h'
  | _ => cases h
theorem flat_all {K : PySem.W.Frag} {H : Hp} {v : V} {d : D} (r : Rep K H v d) (h : flatD d = true) : ∀ {vs : List V} {ds : List D}, RepA K H vs ds → ds.all flatD = true → vs.all flatV = true ∧ inV v vs = inD d ds
  | _, _, .nil, _ => ⟨rfl, rfl⟩
  | _, _, .cons a ra, hf => by
    rw [List.all_cons, Bool.and_eq_true] at hf
    obtain ⟨h1, h2⟩ := flat_all r h ra hf.2
    obtain ⟨h3, _⟩ := flat_rep a hf.1
    refine ⟨by rw [List.all_cons, h3, h1]; rfl, ?_⟩
    unfold inV inD at h2 ⊢
    rw [List.any_cons, List.any_cons, h2, (flat_rep r h).2 a hf.1]
def rInAll (K : PySem.W.Frag) : R2 := fun x y H Q => rIn K false x y H Q ∨ (fun x y H Q => ∃ i j, x = V.str i ∧ y = .str j ∧ Q (.bl (!(Builtin.Str.occurrences j i 0 j.length 1).isEmpty)) H) x y H Q
def rNotInAll (K : PySem.W.Frag) : R2 := fun x y H Q => rIn K true x y H Q ∨ (fun x y H Q => ∃ i j, x = V.str i ∧ y = .str j ∧ Q (.bl !!(Builtin.Str.occurrences j i 0 j.length 1).isEmpty) H) x y H Q
theorem l_in {K : PySem.W.Frag} : LOp K (rInAll K) (gIn false) := by
  intro x y d e H Hc μ Q Qd s rx ry h rt
  unfold gIn at h
  split at h
  · rename_i xs e1
    obtain ⟨a, vs, rfl, ha, ra⟩ := view_lst s ry e1
    obtain ⟨z1, z2⟩ := flat_all rx h.1 ra h.2.1
    exact .inl ⟨a, vs, rfl, .inl (SqL.of ha), (flat_rep rx h.1).1, z1, rt.val s (.bl _) (by simpa [z2] using h.2.2)⟩
  · rename_i xs e1
    obtain ⟨a, vs, rfl, ha, ra⟩ := view_tup s ry e1
    obtain ⟨z1, z2⟩ := flat_all rx h.1 ra h.2.1
    exact .inl ⟨a, vs, rfl, .inr ha, (flat_rep rx h.1).1, z1, rt.val s (.bl _) (by simpa [z2] using h.2.2)⟩
  · rename_i z e1
    split at h
    · cases rx
      exact .inr ⟨_, z, rfl, view_str ry e1, rt.val s (.bl _) (by simpa using h)⟩
    · exact h.elim
  · exact h.elim
theorem l_notin {K : PySem.W.Frag} : LOp K (rNotInAll K) (gIn true) := by
  intro x y d e H Hc μ Q Qd s rx ry h rt
  unfold gIn at h
  split at h
  · rename_i xs e1
    obtain ⟨a, vs, rfl, ha, ra⟩ := view_lst s ry e1
    obtain ⟨z1, z2⟩ := flat_all rx h.1 ra h.2.1
    exact .inl ⟨a, vs, rfl, .inl (SqL.of ha), (flat_rep rx h.1).1, z1, rt.val s (.bl _) (by simpa [z2] using h.2.2)⟩
  · rename_i xs e1
    obtain ⟨a, vs, rfl, ha, ra⟩ := view_tup s ry e1
    obtain ⟨z1, z2⟩ := flat_all rx h.1 ra h.2.1
    exact .inl ⟨a, vs, rfl, .inr ha, (flat_rep rx h.1).1, z1, rt.val s (.bl _) (by simpa [z2] using h.2.2)⟩
  · rename_i z e1
    split at h
    · cases rx
      exact .inr ⟨_, z, rfl, view_str ry e1, rt.val s (.bl _) (by simpa using h)⟩
    · exact h.elim
  · exact h.elim

/-! ### the rules -/
section
variable {X : Cx} {W : WX} {a b c e : Expr} {pos : Pos} {ta tb tc te : DTE}
def dVar (i : Nat) (_ : XD) (δ : Sl) (μ : M) (Q : QD) : Prop := match δ[i]? with
  | some (some d) => Q d μ
  | _ => False
def dC (d : D) (_ : XD) (_ : Sl) (μ : M) (Q : QD) : Prop := Q d μ
theorem de_var (i : Nat) {x : Str} (hN : X.N[i]? = some x := by rfl) (hv : Vis X.env.scope x := by first | exact Or.inl rfl | exact Or.inr (Or.inl rfl) | exact Or.inr (Or.inr rfl)) (hd : (x == ("__debug__" : Str)) = false := by decide)
    (hcd : (x == ("__classdict__" : Str)) = false := by decide) : DE X W (.Name x pos) (dVar i) := PE.imp (pv i hN hv hd hcd) fun σ H Q ⟨δ, μ, Hc, Qd, Xd, s, rs, h, rt, rx⟩ => by
  unfold dVar at h
  split at h
  · rename_i d e1
    obtain ⟨v, h1, h2⟩ := rs.val i d e1
    exact ⟨v, h1, rt.val s h2 h⟩
  · exact h.elim
theorem de_c {v : V} {d : D} (h : PE X e (tC v)) (r : ∀ Hc, Rep X.K Hc v d) : DE X W e (dC d) := PE.imp h fun σ H Q ⟨δ, μ, Hc, Qd, Xd, s, rs, h, rt, rx⟩ => rt.val s (r Hc) h
theorem de_int {i : Int} {j : Nat} : DE X W (.Constant (.int i) j pos) (dC (.int i)) := de_c pe_int fun _ => .int _
theorem de_bl {i : Bool} {j : Nat} : DE X W (.Constant (.bool i) j pos) (dC (.bl i)) := de_c pe_bl fun _ => .bl _
theorem de_non {j : Nat} : DE X W (.Constant .none j pos) (dC .non) := de_c pe_non fun _ => .non
theorem de_str {i : Str} {j : Nat} : DE X W (.Constant (.str i) j pos) (dC (.str i)) := de_c pe_str fun _ => .str _
/-- a constant of the module -/
theorem de_glob {x : Str} {v : V} {u : Value} {d : D} (hg : Gl X x) (hm : X.mg x = some u) (r : RelV v u) (rp : ∀ Hc, Rep X.K Hc v d) (hd : (x == ("__debug__" : Str)) = false := by decide) : DE X W (.Name x pos) (dC d) := de_c (pe_glob hg hm r hd) rp

theorem de_op {op : Operator} {r : R2} {g : DR2} (ho : OpR X (binaryOp op) r) (l : LOp X.K r g) (ha : DE X W a ta) (hb : DE X W b tb) : DE X W (.BinOp a op b pos) (dOp g ta tb) := PE.imp (pe_op ho ha hb) (lift2 l)
theorem de_add (ha : DE X W a ta) (hb : DE X W b tb) : DE X W (.BinOp a .Add b pos) (dOp gAdd ta tb) := de_op op_addAll l_add ha hb
theorem de_sub (ha : DE X W a ta) (hb : DE X W b tb) : DE X W (.BinOp a .Sub b pos) (dOp (gI0 fun i j => .int (i - j)) ta tb) := de_op op_sub (l_I0 fun _ _ _ => .int _) ha hb
theorem de_mul (ha : DE X W a ta) (hb : DE X W b tb) : DE X W (.BinOp a .Mult b pos) (dOp gMul ta tb) := de_op op_mulAll l_mul ha hb
theorem de_fdiv (ha : DE X W a ta) (hb : DE X W b tb) : DE X W (.BinOp a .FloorDiv b pos) (dOp (gI CDivD fun i j => .int (i.fdiv j)) ta tb) := de_op op_fdivD (l_I fun _ _ _ => .int _) ha hb
theorem de_mod (ha : DE X W a ta) (hb : DE X W b tb) : DE X W (.BinOp a .Mod b pos) (dOp (gI (fun _ j => j ≠ 0) fun i j => .int (i.fmod j)) ta tb) := de_op op_modN (l_I fun _ _ _ => .int _) ha hb
theorem de_pow (ha : DE X W a ta) (hb : DE X W b tb) : DE X W (.BinOp a .Pow b pos) (dOp (gI CPow fun i j => .int (i ^ j.toNat)) ta tb) := de_op op_pow (l_I fun _ _ _ => .int _) ha hb
theorem de_ix (ha : DE X W a ta) (hb : DE X W b tb) (hs : PlainIx b := by exact fun _ _ => rfl) : DE X W (.Subscript a b pos) (dOp gIx ta tb) := PE.imp (pe_ix ix_seq ha hb hs) (lift2 l_ix)

/-! ### comparisons -/
theorem de_cmp {op : CmpOp} {r : R2} {g : DR2} (ho : OpR X (compareOp op) r) (l : LOp X.K r g) (ha : DE X W a ta) (hb : DE X W b tb) (hm : behindInMarks op b = false) : DE X W (.Compare a [op] [b] pos) (dOp g ta tb) := PE.imp (pe_cmpR ho ha hb hm) (lift2 l)
/-- a value as a test: a truth -/
def kB (Q : Bool → M → Prop) (d : D) (μ : M) : Prop := match d with
  | .bl b => Q b μ
  | _ => False
def dB (t : DTE) (W : XD) (δ : Sl) (μ : M) (Q : Bool → M → Prop) : Prop := t W δ μ (kB Q)
theorem dt_cmp {op : CmpOp} {r : R2} {g : DR2} (ho : OpR X (compareOp op) r) (l : LOp X.K r g) (ha : DE X W a ta) (hb : DE X W b tb) (hm : behindInMarks op b = false) : DT X W (.Compare a [op] [b] pos) (dB (dOp g ta tb)) :=
  PT.imp (pt_cmpR ho ha hb hm) fun σ H Q ⟨δ, μ, Hc, Qd, Xd, s, rs, h, rt, rx⟩ => lift2 l σ H _ ⟨δ, μ, Hc, _, Xd, s, rs, h, fun d μ' hd v H' Hc' e1 s1 r1 => by
    cases r1 with
    | bl b => exact ⟨b, rfl, rt b μ' hd H' Hc' e1 s1⟩
    | _ => exact hd.elim, rx⟩
abbrev gLt : DR2 := gI0 fun i j => .bl (decide (i < j))
abbrev gLe : DR2 := gI0 fun i j => .bl (decide (i ≤ j))
abbrev gGt : DR2 := gI0 fun i j => .bl (decide (j < i))
abbrev gGe : DR2 := gI0 fun i j => .bl (decide (j ≤ i))
theorem de_lt (ha : DE X W a ta) (hb : DE X W b tb) : DE X W (.Compare a [.Lt] [b] pos) (dOp gLt ta tb) := de_cmp op_lt (l_I0 fun _ _ _ => .bl _) ha hb (nomark _)
theorem de_le (ha : DE X W a ta) (hb : DE X W b tb) : DE X W (.Compare a [.LtE] [b] pos) (dOp gLe ta tb) := de_cmp op_le (l_I0 fun _ _ _ => .bl _) ha hb (nomark _)
theorem de_gt (ha : DE X W a ta) (hb : DE X W b tb) : DE X W (.Compare a [.Gt] [b] pos) (dOp gGt ta tb) := de_cmp op_gt (l_I0 fun _ _ _ => .bl _) ha hb (nomark _)
theorem de_ge (ha : DE X W a ta) (hb : DE X W b tb) : DE X W (.Compare a [.GtE] [b] pos) (dOp gGe ta tb) := de_cmp op_ge (l_I0 fun _ _ _ => .bl _) ha hb (nomark _)
theorem de_eq {k : Nat} (hr : Room k X.A) (ha : DE X W a ta) (hb : DE X W b tb) : DE X W (.Compare a [.Eq] [b] pos) (dOp gEq ta tb) := de_cmp (op_eqD hr.units) l_eq ha hb (nomark _)
theorem de_ne {k : Nat} (hr : Room k X.A) (ha : DE X W a ta) (hb : DE X W b tb) : DE X W (.Compare a [.NotEq] [b] pos) (dOp gNe ta tb) := de_cmp (op_neD hr.units) l_ne ha hb (nomark _)
theorem de_is (ha : DE X W a ta) (hb : DE X W b tb) : DE X W (.Compare a [.Is] [b] pos) (dOp (gIs false) ta tb) := de_cmp (OpR.or op_isN op_isBl) l_is ha hb (nomark _)
theorem de_isnot (ha : DE X W a ta) (hb : DE X W b tb) : DE X W (.Compare a [.IsNot] [b] pos) (dOp (gIs true) ta tb) := de_cmp (OpR.or op_notN op_notBl) l_isnot ha hb (nomark _)
theorem de_in (ha : DE X W a ta) (hb : DE X W b tb) (hm : behindInMarks .In b = false := by rfl) : DE X W (.Compare a [.In] [b] pos) (dOp (gIn false) ta tb) := de_cmp (OpR.or op_in_seq op_in_str) l_in ha hb hm
theorem de_notin (ha : DE X W a ta) (hb : DE X W b tb) (hm : behindInMarks .NotIn b = false := by rfl) : DE X W (.Compare a [.NotIn] [b] pos) (dOp (gIn true) ta tb) := de_cmp (OpR.or op_notIn_seq op_notIn_str) l_notin ha hb hm
theorem dt_lt (ha : DE X W a ta) (hb : DE X W b tb) : DT X W (.Compare a [.Lt] [b] pos) (dB (dOp gLt ta tb)) := dt_cmp op_lt (l_I0 fun _ _ _ => .bl _) ha hb (nomark _)
theorem dt_le (ha : DE X W a ta) (hb : DE X W b tb) : DT X W (.Compare a [.LtE] [b] pos) (dB (dOp gLe ta tb)) := dt_cmp op_le (l_I0 fun _ _ _ => .bl _) ha hb (nomark _)
theorem dt_gt (ha : DE X W a ta) (hb : DE X W b tb) : DT X W (.Compare a [.Gt] [b] pos) (dB (dOp gGt ta tb)) := dt_cmp op_gt (l_I0 fun _ _ _ => .bl _) ha hb (nomark _)
theorem dt_ge (ha : DE X W a ta) (hb : DE X W b tb) : DT X W (.Compare a [.GtE] [b] pos) (dB (dOp gGe ta tb)) := dt_cmp op_ge (l_I0 fun _ _ _ => .bl _) ha hb (nomark _)
theorem dt_eq {k : Nat} (hr : Room k X.A) (ha : DE X W a ta) (hb : DE X W b tb) : DT X W (.Compare a [.Eq] [b] pos) (dB (dOp gEq ta tb)) := dt_cmp (op_eqD hr.units) l_eq ha hb (nomark _)
theorem dt_ne {k : Nat} (hr : Room k X.A) (ha : DE X W a ta) (hb : DE X W b tb) : DT X W (.Compare a [.NotEq] [b] pos) (dB (dOp gNe ta tb)) := dt_cmp (op_neD hr.units) l_ne ha hb (nomark _)
theorem dt_is (ha : DE X W a ta) (hb : DE X W b tb) : DT X W (.Compare a [.Is] [b] pos) (dB (dOp (gIs false) ta tb)) := dt_cmp (OpR.or op_isN op_isBl) l_is ha hb (nomark _)
theorem dt_isnot (ha : DE X W a ta) (hb : DE X W b tb) : DT X W (.Compare a [.IsNot] [b] pos) (dB (dOp (gIs true) ta tb)) := dt_cmp (OpR.or op_notN op_notBl) l_isnot ha hb (nomark _)
theorem dt_in (ha : DE X W a ta) (hb : DE X W b tb) (hm : behindInMarks .In b = false := by rfl) : DT X W (.Compare a [.In] [b] pos) (dB (dOp (gIn false) ta tb)) := dt_cmp (OpR.or op_in_seq op_in_str) l_in ha hb hm
theorem dt_notin (ha : DE X W a ta) (hb : DE X W b tb) (hm : behindInMarks .NotIn b = false := by rfl) : DT X W (.Compare a [.NotIn] [b] pos) (dB (dOp (gIn true) ta tb)) := dt_cmp (OpR.or op_notIn_seq op_notIn_str) l_notin ha hb hm

/-! ### chains of two -/
def kChain3 (g' : DR2) (tc : DTE) (W : XD) (δ : Sl) (Q : QD) (y : D) (z : D) (μ : M) : Prop := match z with
  | .bl true => tc W δ μ (kOp2 g' y Q)
  | .bl false => Q (.bl false) μ
  | _ => False
def kChain2 (g g' : DR2) (tc : DTE) (W : XD) (δ : Sl) (Q : QD) (x : D) (y : D) (μ : M) : Prop := g x y μ (kChain3 g' tc W δ Q y)
def kChain1 (g g' : DR2) (tb tc : DTE) (W : XD) (δ : Sl) (Q : QD) (x : D) (μ : M) : Prop := tb W δ μ (kChain2 g g' tc W δ Q x)
def dChain (g g' : DR2) (ta tb tc : DTE) (W : XD) (δ : Sl) (μ : M) (Q : QD) : Prop := ta W δ μ (kChain1 g g' tb tc W δ Q)
theorem lift3 {K : PySem.W.Frag} {r r' : R2} {g g' : DR2} (l : LOp K r g) (l' : LOp K r' g') : ∀ σ H Q, upE K W (dChain g g' ta tb tc) σ H Q → tChain r r' (upE K W ta) (upE K W tb) (upE K W tc) σ H Q :=
  fun σ H Q ⟨δ, μ, Hc, Qd, Xd, s, rs, h, rt, rx⟩ => ⟨δ, μ, Hc, _, Xd, s, rs, h, fun x μ1 h1 v H1 Hc1 e1 s1 r1 =>
    ⟨δ, μ1, Hc1, _, Xd, s1, rs.mono e1, h1, fun y μ2 h2 w H2 Hc2 e2 s2 r2 => l v w x y H2 Hc2 μ2 _ _ s2 (r1.mono e2) r2 h2 fun z μ3 h3 u H3 Hc3 e3 s3 r3 => by
      cases r3 with
      | bl k =>
        refine ⟨k, rfl, ?_⟩
        cases k with
        | true =>
          rw [if_pos rfl]
          exact ⟨δ, μ3, Hc3, _, Xd, s3, rs.mono ((e1.trans e2).trans e3), h3, fun q μ4 h4 u4 H4 Hc4 e4 s4 r4 => l' w u4 y q H4 Hc4 μ4 Q Qd s4 (r2.mono (e3.trans e4)) r4 h4 (rt.mono (((e1.trans e2).trans e3).trans e4)), rx.mono ((e1.trans e2).trans e3)⟩
        | false =>
          rw [if_neg Bool.false_ne_true]
          exact (rt.mono ((e1.trans e2).trans e3)).val s3 (.bl _) h3
      | _ => exact h3.elim, rx.mono e1⟩, rx⟩
theorem de_chain {op op' : CmpOp} {r r' : R2} {g g' : DR2} (ho : OpR X (compareOp op) r) (l : LOp X.K r g) (ho' : OpR X (compareOp op') r') (l' : LOp X.K r' g') (ha : DE X W a ta) (hb : DE X W b tb) (hc : DE X W c tc)
    (hm : lastMarks [op, op'] [b, c] = false := by with_unfolding_all rfl) : DE X W (.Compare a [op, op'] [b, c] pos) (dChain g g' ta tb tc) := PE.imp (pe_chain ho ho' ha hb hc hm) (lift3 l l')
theorem dt_chain {op op' : CmpOp} {r r' : R2} {g g' : DR2} (ho : OpR X (compareOp op) r) (l : LOp X.K r g) (ho' : OpR X (compareOp op') r') (l' : LOp X.K r' g') (ha : DE X W a ta) (hb : DE X W b tb) (hc : DE X W c tc)
    (hm : lastMarks [op, op'] [b, c] = false := by with_unfolding_all rfl) : DT X W (.Compare a [op, op'] [b, c] pos) (dB (dChain g g' ta tb tc)) :=
  PT.imp (pt_chain ho ho' ha hb hc hm) fun σ H Q ⟨δ, μ, Hc, Qd, Xd, s, rs, h, rt, rx⟩ => lift3 l l' σ H _ ⟨δ, μ, Hc, _, Xd, s, rs, h, fun d μ' hd v H' Hc' e1 s1 r1 => by
    cases r1 with
    | bl b => exact ⟨b, rfl, rt b μ' hd H' Hc' e1 s1⟩
    | _ => exact hd.elim, rx⟩

/-! ### truth, and, or, not -/
def truD (μ : M) (d : D) : Option Bool := match view μ d with
  | .non => some false
  | .bl b => some b
  | .int i => some (i != 0)
  | .lst xs => some (!xs.isEmpty)
  | .tup xs => some (!xs.isEmpty)
  | _ => none
def kTru (Q : Bool → M → Prop) (d : D) (μ : M) : Prop := OptB (truD μ d) Q μ
def dTru (t : DTE) (W : XD) (δ : Sl) (μ : M) (Q : Bool → M → Prop) : Prop := t W δ μ (kTru Q)
theorem dt_tru (ha : DE X W a ta) (he : ∀ whole, isTrue a X.env whole = (do let v ← whole; standAt a.pos; holding [v] (truthy v)) := by intro _; rfl) : DT X W a (dTru ta) :=
  PT.imp (pt_truth ha he) fun σ H Q ⟨δ, μ, Hc, Qd, Xd, s, rs, h, rt, rx⟩ => by
    refine (show upE X.K W ta σ H _ from ⟨δ, μ, Hc, _, Xd, s, rs, h, ?_, rx⟩)
    intro d μ' hd v H' Hc' e1 s1 r1
    obtain ⟨k, hk, hq⟩ := OptB.ex hd
    refine ⟨k, ?_, rt k μ' hq H' Hc' e1 s1⟩
    have z := view_rep s1 r1
    unfold truD at hk
    split at hk
    · rename_i ev; rw [ev] at z; cases z; exact (Option.some.inj hk).symm
    · rename_i ev; rw [ev] at z; cases z; exact (Option.some.inj hk).symm
    · rename_i ev; rw [ev] at z; cases z; exact (Option.some.inj hk).symm
    · rename_i ev
      rw [ev] at z
      cases z with
      | lst h1 h2 =>
        refine .inl ⟨_, SqL.of h1, ?_⟩
        rw [← Option.some.inj hk]
        cases h2 <;> rfl
    · rename_i ev
      rw [ev] at z
      cases z with
      | tup h1 h2 =>
        refine .inr (.inl ⟨_, h1, ?_⟩)
        rw [← Option.some.inj hk]
        cases h2 <;> rfl
    · cases hk
def ifAnd (c : Bool) (u : DTT) (W : XD) (δ : Sl) (μ : M) (Q : Bool → M → Prop) : Prop := match c with
  | true => u W δ μ Q
  | false => Q false μ
def ifOr (c : Bool) (u : DTT) (W : XD) (δ : Sl) (μ : M) (Q : Bool → M → Prop) : Prop := match c with
  | true => Q true μ
  | false => u W δ μ Q
def kAnd (u : DTT) (W : XD) (δ : Sl) (Q : Bool → M → Prop) (c : Bool) (μ : M) : Prop := ifAnd c u W δ μ Q
def kOr (u : DTT) (W : XD) (δ : Sl) (Q : Bool → M → Prop) (c : Bool) (μ : M) : Prop := ifOr c u W δ μ Q
def kNot (Q : Bool → M → Prop) (c : Bool) (μ : M) : Prop := Q (!c) μ
def dAnd (t u : DTT) (W : XD) (δ : Sl) (μ : M) (Q : Bool → M → Prop) : Prop := t W δ μ (kAnd u W δ Q)
def dOr (t u : DTT) (W : XD) (δ : Sl) (μ : M) (Q : Bool → M → Prop) : Prop := t W δ μ (kOr u W δ Q)
def dNot (t : DTT) (W : XD) (δ : Sl) (μ : M) (Q : Bool → M → Prop) : Prop := t W δ μ (kNot Q)
theorem ifAnd_of {c : Bool} {u : DTT} {W : XD} {δ : Sl} {μ : M} {Q : Bool → M → Prop} (h1 : c = true → u W δ μ Q) (h2 : c = false → Q false μ) : ifAnd c u W δ μ Q := by
  cases c with
  | true => exact h1 rfl
  | false => exact h2 rfl
theorem ifOr_of {c : Bool} {u : DTT} {W : XD} {δ : Sl} {μ : M} {Q : Bool → M → Prop} (h1 : c = true → Q true μ) (h2 : c = false → u W δ μ Q) : ifOr c u W δ μ Q := by
  cases c with
  | true => exact h1 rfl
  | false => exact h2 rfl
theorem ifAnd_dec {p : Prop} [Decidable p] {u : DTT} {W : XD} {δ : Sl} {μ : M} {Q : Bool → M → Prop} (h1 : p → u W δ μ Q) (h2 : ¬ p → Q false μ) : ifAnd (decide p) u W δ μ Q := ifAnd_of (fun h => h1 (of_decide_eq_true h)) (fun h => h2 (of_decide_eq_false h))
theorem ifOr_dec {p : Prop} [Decidable p] {u : DTT} {W : XD} {δ : Sl} {μ : M} {Q : Bool → M → Prop} (h1 : p → Q true μ) (h2 : ¬ p → u W δ μ Q) : ifOr (decide p) u W δ μ Q := ifOr_of (fun h => h1 (of_decide_eq_true h)) (fun h => h2 (of_decide_eq_false h))
variable {tA tB' : DTT} {rest : List Expr}
theorem dw_and1 (ha : DT X W a tA) : DW X W (.BoolOp .And [a] pos) tA := pw_and1 ha
theorem dw_or1 (ha : DT X W a tA) : DW X W (.BoolOp .Or [a] pos) tA := pw_or1 ha
theorem dw_and (ha : DT X W a tA) (hb : DW X W (.BoolOp .And (b :: rest) pos) tB') : DW X W (.BoolOp .And (a :: b :: rest) pos) (dAnd tA tB') :=
  PW.imp (pw_and ha hb) fun σ H Q ⟨δ, μ, Hc, Qd, Xd, s, rs, h, rt, rx⟩ => ⟨δ, μ, Hc, _, Xd, s, rs, h, fun c μ1 h1 H1 Hc1 e1 s1 => by
    cases c with
    | true => exact ⟨δ, μ1, Hc1, Qd, Xd, s1, rs.mono e1, h1, rt.mono e1, rx.mono e1⟩
    | false => exact rt false μ1 h1 _ _ e1 s1, rx⟩
theorem dw_or (ha : DT X W a tA) (hb : DW X W (.BoolOp .Or (b :: rest) pos) tB') : DW X W (.BoolOp .Or (a :: b :: rest) pos) (dOr tA tB') :=
  PW.imp (pw_or ha hb) fun σ H Q ⟨δ, μ, Hc, Qd, Xd, s, rs, h, rt, rx⟩ => ⟨δ, μ, Hc, _, Xd, s, rs, h, fun c μ1 h1 H1 Hc1 e1 s1 => by
    cases c with
    | true => exact rt true μ1 h1 _ _ e1 s1
    | false => exact ⟨δ, μ1, Hc1, Qd, Xd, s1, rs.mono e1, h1, rt.mono e1, rx.mono e1⟩, rx⟩
theorem DW.dt (h : DW X W a tA) : DT X W a tA := PW.pt h
theorem dt_not (ha : DT X W a tA) : DT X W (.UnaryOp .Not a pos) (dNot tA) :=
  PT.imp (pt_not ha) fun σ H Q ⟨δ, μ, Hc, Qd, Xd, s, rs, h, rt, rx⟩ => ⟨δ, μ, Hc, _, Xd, s, rs, h, fun c μ1 h1 H1 Hc1 e1 s1 => rt _ _ h1 _ _ e1 s1, rx⟩
/-! .. as values: truths -/
def ifAndV (c : Bool) (u : DTE) (W : XD) (δ : Sl) (μ : M) (Q : QD) : Prop := match c with
  | true => u W δ μ Q
  | false => Q (.bl false) μ
def ifOrV (c : Bool) (u : DTE) (W : XD) (δ : Sl) (μ : M) (Q : QD) : Prop := match c with
  | true => Q (.bl true) μ
  | false => u W δ μ Q
def kAndV (u : DTE) (W : XD) (δ : Sl) (Q : QD) (d : D) (μ : M) : Prop := match d with
  | .bl c => ifAndV c u W δ μ Q
  | _ => False
def kOrV (u : DTE) (W : XD) (δ : Sl) (Q : QD) (d : D) (μ : M) : Prop := match d with
  | .bl c => ifOrV c u W δ μ Q
  | _ => False
def kNotV (Q : QD) (d : D) (μ : M) : Prop := match d with
  | .bl c => Q (.bl !c) μ
  | _ => False
def dAndV (t u : DTE) (W : XD) (δ : Sl) (μ : M) (Q : QD) : Prop := t W δ μ (kAndV u W δ Q)
def dOrV (t u : DTE) (W : XD) (δ : Sl) (μ : M) (Q : QD) : Prop := t W δ μ (kOrV u W δ Q)
def dNotV (t : DTE) (W : XD) (δ : Sl) (μ : M) (Q : QD) : Prop := t W δ μ (kNotV Q)
theorem ifAndV_of {c : Bool} {u : DTE} {W : XD} {δ : Sl} {μ : M} {Q : QD} (h1 : c = true → u W δ μ Q) (h2 : c = false → Q (.bl false) μ) : ifAndV c u W δ μ Q := by
  cases c with
  | true => exact h1 rfl
  | false => exact h2 rfl
theorem ifOrV_of {c : Bool} {u : DTE} {W : XD} {δ : Sl} {μ : M} {Q : QD} (h1 : c = true → Q (.bl true) μ) (h2 : c = false → u W δ μ Q) : ifOrV c u W δ μ Q := by
  cases c with
  | true => exact h1 rfl
  | false => exact h2 rfl
theorem de_one {op} {t : DTE} (h : DE X W a t) : DE X W (.BoolOp op [a] pos) t := pe_one h
theorem de_and (ha : DE X W a ta) (hb : DE X W (.BoolOp .And (b :: rest) pos) tb) : DE X W (.BoolOp .And (a :: b :: rest) pos) (dAndV ta tb) :=
  PE.imp (pe_and ha hb) fun σ H Q ⟨δ, μ, Hc, Qd, Xd, s, rs, h, rt, rx⟩ => ⟨δ, μ, Hc, _, Xd, s, rs, h, fun d μ1 h1 v H1 Hc1 e1 s1 r1 => by
    cases r1 with
    | bl c =>
      refine ⟨c, rfl, ?_⟩
      cases c with
      | true => exact ⟨δ, μ1, Hc1, Qd, Xd, s1, rs.mono e1, h1, rt.mono e1, rx.mono e1⟩
      | false => exact rt _ _ h1 _ _ _ e1 s1 (.bl _)
    | _ => exact h1.elim, rx⟩
theorem de_or (ha : DE X W a ta) (hb : DE X W (.BoolOp .Or (b :: rest) pos) tb) : DE X W (.BoolOp .Or (a :: b :: rest) pos) (dOrV ta tb) :=
  PE.imp (pe_or ha hb) fun σ H Q ⟨δ, μ, Hc, Qd, Xd, s, rs, h, rt, rx⟩ => ⟨δ, μ, Hc, _, Xd, s, rs, h, fun d μ1 h1 v H1 Hc1 e1 s1 r1 => by
    cases r1 with
    | bl c =>
      refine ⟨c, rfl, ?_⟩
      cases c with
      | true => exact rt _ _ h1 _ _ _ e1 s1 (.bl _)
      | false => exact ⟨δ, μ1, Hc1, Qd, Xd, s1, rs.mono e1, h1, rt.mono e1, rx.mono e1⟩
    | _ => exact h1.elim, rx⟩
/-- not x, as a value: x by its truth -/
theorem de_not (ha : DE X W a ta) : DE X W (.UnaryOp .Not a pos) (dNotV ta) :=
  PE.imp (pe_not ha) fun σ H Q ⟨δ, μ, Hc, Qd, Xd, s, rs, h, rt, rx⟩ => ⟨δ, μ, Hc, _, Xd, s, rs, h, fun d μ1 h1 v H1 Hc1 e1 s1 r1 => by
    cases r1 with
    | bl c => exact ⟨c, rfl, rt _ _ h1 _ _ _ e1 s1 (.bl _)⟩
    | _ => exact h1.elim, rx⟩
def ifE (c : Bool) (ta tb : DTE) (W : XD) (δ : Sl) (μ : M) (Q : QD) : Prop := match c with
  | true => ta W δ μ Q
  | false => tb W δ μ Q
theorem ifE_of {c : Bool} {ta tb : DTE} {W : XD} {δ : Sl} {μ : M} {Q : QD} (h1 : c = true → ta W δ μ Q) (h2 : c = false → tb W δ μ Q) : ifE c ta tb W δ μ Q := by
  cases c with
  | true => exact h1 rfl
  | false => exact h2 rfl
def kIfE (ta tb : DTE) (W : XD) (δ : Sl) (Q : QD) (c : Bool) (μ : M) : Prop := ifE c ta tb W δ μ Q
def dIfE (t : DTT) (ta tb : DTE) (W : XD) (δ : Sl) (μ : M) (Q : QD) : Prop := t W δ μ (kIfE ta tb W δ Q)
theorem de_if (hc : DT X W c tA) (ha : DE X W a ta) (hb : DE X W b tb) : DE X W (.IfExp c a b pos) (dIfE tA ta tb) :=
  PE.imp (pe_ifExp hc ha hb) fun σ H Q ⟨δ, μ, Hc, Qd, Xd, s, rs, h, rt, rx⟩ => ⟨δ, μ, Hc, _, Xd, s, rs, h, fun c μ1 h1 H1 Hc1 e1 s1 => by
    cases c with
    | true => exact ⟨δ, μ1, Hc1, Qd, Xd, s1, rs.mono e1, h1, rt.mono e1, rx.mono e1⟩
    | false => exact ⟨δ, μ1, Hc1, Qd, Xd, s1, rs.mono e1, h1, rt.mono e1, rx.mono e1⟩, rx⟩

/-! ### arguments, displays -/
def dNil (_ : XD) (_ : Sl) (μ : M) (Q : List D → M → Prop) : Prop := Q [] μ
def kCons2 (d : D) (Q : List D → M → Prop) (ds : List D) (μ : M) : Prop := Q (d :: ds) μ
def kCons1 (r : DTA) (W : XD) (δ : Sl) (Q : List D → M → Prop) (d : D) (μ : M) : Prop := r W δ μ (kCons2 d Q)
def dCons (t : DTE) (r : DTA) (W : XD) (δ : Sl) (μ : M) (Q : List D → M → Prop) : Prop := t W δ μ (kCons1 r W δ Q)
variable {es : List Expr} {tr : DTA}
theorem da_nil : DA X W [] dNil := PA.imp pa_nil fun σ H Q ⟨δ, μ, Hc, Qd, Xd, s, rs, h, rt, rx⟩ => rt _ _ h _ _ Hc (Same.refl _) s .nil
theorem da_cons (ha : DE X W e te) (hr : DA X W es tr) (hs : starEach (e :: es) X.env = (false, eval e X.env) :: starEach es X.env := by rfl) : DA X W (e :: es) (dCons te tr) :=
  PA.imp (pa_cons ha hr hs) fun σ H Q ⟨δ, μ, Hc, Qd, Xd, s, rs, h, rt, rx⟩ => ⟨δ, μ, Hc, _, Xd, s, rs, h, fun d μ1 h1 v H1 Hc1 e1 s1 r1 =>
    ⟨δ, μ1, Hc1, _, Xd, s1, rs.mono e1, h1, fun ds μ2 h2 vs H2 Hc2 e2 s2 r2 => rt _ _ h2 _ _ _ (e1.trans e2) s2 (.cons (r1.mono e2) r2), rx.mono e1⟩, rx⟩
def kTup (Q : QD) (ds : List D) (μ : M) : Prop := ds.length ≤ sizeLine ∧ Q (.tup ds) μ
def kLst (Q : QD) (ds : List D) (μ : M) : Prop := ds.length ≤ sizeLine ∧ Q (.lst ds) μ
/-- a new cell -/
def NewC (ds : List D) (μ : M) (Q : QD) : Prop := ∀ p, μ p = none → Q (.raw (.ref p)) (updM μ p (.lst ds))
def kLstC (Q : QD) (ds : List D) (μ : M) : Prop := ds.length ≤ sizeLine ∧ NewC ds μ Q
def dTup (t : DTA) (W : XD) (δ : Sl) (μ : M) (Q : QD) : Prop := t W δ μ (kTup Q)
def dLst (t : DTA) (W : XD) (δ : Sl) (μ : M) (Q : QD) : Prop := t W δ μ (kLst Q)
/-- a list that will be changed -/
def dLstC (t : DTA) (W : XD) (δ : Sl) (μ : M) (Q : QD) : Prop := t W δ μ (kLstC Q)
theorem de_tup {x1} (h : DA X W es tr) : DE X W (.Tuple es x1 pos) (dTup tr) := PE.imp (pe_tup h) fun σ H Q ⟨δ, μ, Hc, Qd, Xd, s, rs, h, rt, rx⟩ => ⟨δ, μ, Hc, _, Xd, s, rs, h, fun ds μ1 h1 vs H1 Hc1 e1 s1 r1 =>
    ⟨by rw [r1.length]; exact h1.1, (rt.mono e1).newT s1 r1 h1.2⟩, rx⟩
theorem de_lst (h : DA X W es tr) : DE X W (.List es pos) (dLst tr) := PE.imp (pe_lst h) fun σ H Q ⟨δ, μ, Hc, Qd, Xd, s, rs, h, rt, rx⟩ => ⟨δ, μ, Hc, _, Xd, s, rs, h, fun ds μ1 h1 vs H1 Hc1 e1 s1 r1 =>
    ⟨by rw [r1.length]; exact h1.1, (rt.mono e1).new s1 r1 h1.2⟩, rx⟩
theorem de_lstC (h : DA X W es tr) : DE X W (.List es pos) (dLstC tr) := PE.imp (pe_lst h) fun σ H Q ⟨δ, μ, Hc, Qd, Xd, s, rs, h, rt, rx⟩ => ⟨δ, μ, Hc, _, Xd, s, rs, h, fun ds μ1 h1 vs H1 Hc1 e1 s1 r1 =>
    ⟨by rw [r1.length]; exact h1.1, (rt.mono e1).newC s1 r1 h1.2⟩, rx⟩
/-- a cell becomes data -/
def kFz (Q : QD) (d : D) (μ : M) : Prop := match d with
  | .raw (.ref p) => ∃ ds, μ p = some (.lst ds) ∧ Q (.lst ds) (delM μ p)
  | _ => False
def dFz (t : DTE) (W : XD) (δ : Sl) (μ : M) (Q : QD) : Prop := t W δ μ (kFz Q)
theorem de_fz (h : DE X W e te) : DE X W e (dFz te) := PE.imp h fun σ H Q ⟨δ, μ, Hc, Qd, Xd, s, rs, h, rt, rx⟩ => ⟨δ, μ, Hc, _, Xd, s, rs, h, fun d μ1 h1 v H1 Hc1 e1 s1 r1 => by
    cases r1 with
    | raw =>
      cases v with
      | ref p =>
        obtain ⟨ds, hp, hq⟩ := (show ∃ ds, μ1 p = some (.lst ds) ∧ Qd (.lst ds) (delM μ1 p) from h1)
        obtain ⟨_, o, ho, vs, rfl, ra⟩ := s1.cell p _ hp
        obtain ⟨Hc2, e2, s2, hh⟩ := s1.sub (Sub.del p)
        refine rt _ _ hq _ _ Hc2 (e1.trans e2) s2 (.lst ?_ (ra.mono e2))
        rw [hh p (by unfold delM; rw [if_pos rfl])]
        exact ho
      | _ => exact h1.elim
    | _ => exact h1.elim, rx⟩
end
end DL
set_option Elab.async false
set_option linter.all false
set_option maxRecDepth 100000
set_option maxHeartbeats 2000000
/-! The data layer: calls, statements, loops, comprehensions, errors. -/
namespace DL
open PySem PySem.Spec L2

/-! ### calls of defs -/
abbrev Ct := List D → M → QD → XD → Prop
def spD (K : PySem.W.Frag) (c : Ct) : Sp := fun vs H Q E => ∃ ds μ Hc Qd Xd, Split K H Hc μ ∧ RepA K Hc vs ds ∧ c ds μ Qd Xd ∧ Ret K Hc Qd Q ∧ RetX K Hc Xd E
/-- a def of the text keeps its contract -/
structure Dfn (P : Program) (w : World) (K : PySem.W.Frag) (mg : Str → Option Value) (base : Heap) (CX : CXT) (x qual : Str) (st : Stmt) (k : Nat) (ps : List Str) (c : Ct) : Prop where
  ex : ∃ f fd, Fun K x qual st f fd ∧ mg x = some (.ref f) ∧ FnOk P w K mg base CX k f fd ps (spD K c) ∧ Binds K fd ps []
/-- what a callee lets out is taken -/
def Pw (CX : CXT) (X : Cx) (W : WX) : Prop := ∀ σ, PassesAt CX X σ (WE W σ)
theorem pw0 {X : Cx} {W : WX} : Pw CX0 X W := fun _ _ _ _ _ _ _ h => h.elim
theorem pw1 {X : Cx} {W : WX} (tk : Takes X W) : Pw (L2.CX X.prog X.w) X W := fun σ => passAt tk σ
def kCall (c : Ct) (W : XD) (Q : QD) (ds : List D) (μ : M) : Prop := c ds μ Q W
def dCall (c : Ct) (t : DTA) (W : XD) (δ : Sl) (μ : M) (Q : QD) : Prop := t W δ μ (kCall c W Q)
abbrev W0 : WX := fun _ _ _ _ => False

def pick {α : Type} (pm : List Nat) (xs : List α) : List α := pm.filterMap (xs[·]?)
section
variable {X : Cx} {W : WX} {a b e : Expr} {es : List Expr} {pos p : Pos} {ta tb te : DTE} {tr tk : DTA} {CX : CXT} {x qual : Str} {st : Stmt} {k : Nat} {ps : List Str} {c : Ct}
theorem de_call (F : Dfn X.prog X.w X.K X.mg X.base CX x qual st k ps c) (hr : Room k X.A) (pw : Pw CX X W) (ha : DA X W (e :: es) tr) (hg : Gl X x := by rfl) (hdb : (x == ("__debug__" : Str)) = false := by decide)
    (he : starEach (e :: es) X.env = (false, eval e X.env) :: starEach es X.env := by rfl) (hpl : (backTo pos (starEach es X.env)).any (·.1) = false := by rfl) : DE X W (.Call (.Name x p) (e :: es) [] pos) (dCall c tr) := by
  obtain ⟨f, fd, FF, hm, G, bn⟩ := F.ex
  exact PE.imp (pe_callS G hr hg hm FF.kp bn pw ha hdb he hpl) fun σ H Q ⟨δ, μ, Hc, Qd, Xd, s, rs, h, rt, rx⟩ => ⟨δ, μ, Hc, _, Xd, s, rs, h, fun ds μ1 h1 vs H1 Hc1 e1 s1 r1 =>
    ⟨ds, μ1, Hc1, Qd, Xd, s1, r1, h1, rt.mono e1, rx.mono e1⟩, rx⟩
theorem de_call0 (F : Dfn X.prog X.w X.K X.mg X.base CX x qual st k ps c) (hr : Room k X.A) (pw : Pw CX X W) (hg : Gl X x := by rfl) (hdb : (x == ("__debug__" : Str)) = false := by decide) : DE X W (.Call (.Name x p) [] [] pos) (dCall c dNil) := by
  obtain ⟨f, fd, FF, hm, G, bn⟩ := F.ex
  refine ⟨fun pins s σ H Q I h => ?_⟩
  refine wpAny_Call_Name_kw (ld_glob I hg hm ?_ hdb)
  obtain ⟨δ, μ, Hc, Qd, Xd, sp, rs, h, rt, rx⟩ := h
  exact PySem.W.callWith_K0 I.kIn FF.kp (run_fnS (us := []) (E := WE W) G hr bn (pw σ) I .nil ⟨[], μ, Hc, Qd, Xd, sp, .nil, h, rt, rx⟩)
/-! keywords: the evaluated values, picked into the parameters' order -/
theorem RepA.pick {K : PySem.W.Frag} {H : Hp} {vs : List V} {ds : List D} (r : RepA K H vs ds) : ∀ pm : List Nat, RepA K H (pick pm vs) (pick pm ds)
  | [] => .nil
  | i :: pm => by
    have ih := RepA.pick r pm
    unfold DL.pick at ih ⊢
    rw [List.filterMap_cons, List.filterMap_cons]
    cases e : ds[i]? with
    | none =>
      have z : vs[i]? = none := by
        rw [List.getElem?_eq_none_iff] at e ⊢
        rw [r.length]
        exact e
      rw [z]
      exact ih
    | some d =>
      obtain ⟨v, hv, rv⟩ := r.get e
      rw [hv]
      exact .cons rv ih
theorem vals_pick {vs : List V} {us : List Value} (r : Vals vs us) : ∀ pm : List Nat, Vals (pick pm vs) (pick pm us)
  | [] => .nil
  | i :: pm => by
    have ih := vals_pick r pm
    unfold DL.pick at ih ⊢
    rw [List.filterMap_cons, List.filterMap_cons]
    cases e : vs[i]? with
    | none =>
      rw [r.none_of e]
      exact ih
    | some d =>
      obtain ⟨v, hv, rv⟩ := r.get e
      rw [hv]
      exact .cons rv ih
/-- how a call with m positional arguments and the keywords ks binds -/
def KBn (K : PySem.W.Frag) (x qual : Str) (st : Stmt) (ps ks : List Str) (m n : Nat) (pm : List Nat) : Prop := ∀ (f : Addr) (fd : FuncData), Fun K x qual st f fd → ∀ (s : Shared) (us : List Value), us.length = n → BindsTo s fd ⟨us.take m, ks.zip (us.drop m)⟩ (ps.zip (pick pm us))
theorem kbn_of {K : PySem.W.Frag} {ks : List Str} {m n : Nat} {pm : List Nat} (h : ∀ (kV doc pmv : Value) (an : Option Addr) (cdv ct : Value) (us : List Value), us.length = n → bindArgs (PySem.W.fnOf x qual (defArgs st) (defBody st) (defScope st) .none kV doc pmv an cdv ct) ⟨us.take m, ks.zip (us.drop m)⟩ = pure (ps.zip (pick pm us))) :
    KBn K x qual st ps ks m n pm := fun f fd F s us hl => by
  obtain ⟨oc, od, kV, doc, pmv, an, cdv, ct, osl, rfl, lk, hcd⟩ := F.ex
  exact .of_eq (h kV doc pmv an cdv ct us hl)
def DK (X : Cx) (W : WX) (kws : List Keyword) (t : DTA) : Prop := PK X kws (upA X.K W t)
theorem dk_nil : DK X W [] dNil := ⟨fun pos pins s σ H Q I h => pk_nil.run pos pins s σ H Q I (let ⟨δ, μ, Hc, Qd, Xd, s, rs, h, rt, rx⟩ := h; rt _ _ h _ _ Hc (Same.refl _) s .nil)⟩
theorem dk_cons {nm : Option Str} {kws : List Keyword} {kpos : Pos} (ha : DE X W e te) (hr : DK X W kws tr) : DK X W (⟨nm, e, kpos⟩ :: kws) (dCons te tr) := ⟨fun pos pins s σ H Q I h => (pk_cons (nm := nm) (kpos := kpos) ha hr).run pos pins s σ H Q I (let ⟨δ, μ, Hc, Qd, Xd, s, rs, h, rt, rx⟩ := h
  ⟨δ, μ, Hc, _, Xd, s, rs, h, fun d μ1 h1 v H1 Hc1 e1 s1 r1 =>
    ⟨δ, μ1, Hc1, _, Xd, s1, rs.mono e1, h1, fun ds μ2 h2 vs H2 Hc2 e2 s2 r2 => rt _ _ h2 _ _ _ (e1.trans e2) s2 (.cons (r1.mono e2) r2), rx.mono e1⟩, rx⟩)⟩
def kCallK2 (c : Ct) (n : Nat) (pm : List Nat) (W : XD) (Q : QD) (ds es : List D) (μ : M) : Prop := (ds ++ es).length = n ∧ c (pick pm (ds ++ es)) μ Q W
def kCallK1 (c : Ct) (n : Nat) (pm : List Nat) (tk : DTA) (W : XD) (δ : Sl) (Q : QD) (ds : List D) (μ : M) : Prop := tk W δ μ (kCallK2 c n pm W Q ds)
def dCallK (c : Ct) (n : Nat) (pm : List Nat) (t tk : DTA) (W : XD) (δ : Sl) (μ : M) (Q : QD) : Prop := t W δ μ (kCallK1 c n pm tk W δ Q)
def kLenIs (m : Nat) (Q : List D → M → Prop) (ds : List D) (μ : M) : Prop := ds.length = m ∧ Q ds μ
def dLenIs (m : Nat) (t : DTA) (W : XD) (δ : Sl) (μ : M) (Q : List D → M → Prop) : Prop := t W δ μ (kLenIs m Q)
theorem run_kw {ks : List Str} {m n : Nat} {pm : List Nat} {f : Addr} {fd : FuncData} (FF : Fun X.K x qual st f fd) (G : FnOk X.prog X.w X.K X.mg X.base CX k f fd ps (spD X.K c)) (hr : Room k X.A) (pw : Pw CX X W) (kb : KBn X.K x qual st ps ks m n pm)
    {pins : List (Addr × Obj)} {σ : L2.St} {H Hc : Hp} {s : Shared} {Q : VK} {us ws : List Value} {vs zs : List V} {ds es : List D} {μ : M} {Qd : QD} {Xd : XD} (I : Inv X pins σ H s) (r : Vals vs us) (rz : Vals zs ws) (hm : us.length = m)
    (sp : Split X.K H Hc μ) (rd : RepA X.K Hc (vs ++ zs) (ds ++ es)) (hn : (ds ++ es).length = n) (h : c (pick pm (ds ++ es)) μ Qd Xd) (rt : Ret X.K Hc Qd Q) (rx : RetX X.K Hc Xd (WE W σ)) :
    wpAny (model X.prog X.w) X.A (call (.ref f) us (ks.zip ws)) (EP X pins σ Q) X.xe s := by
  have rr : Vals (vs ++ zs) (us ++ ws) := r.append rz
  have hl : (us ++ ws).length = n := by rw [← rr.length, rd.length]; exact hn
  have b := kb f fd FF s (us ++ ws) hl
  rw [List.take_left' hm, List.drop_left' hm] at b
  have q : spD X.K c (pick pm (vs ++ zs)) H Q (WE W σ) := ⟨_, μ, Hc, Qd, Xd, sp, rd.pick pm, h, rt, rx⟩
  refine wpAny_call (codeAny_mono (G.run X.A X.stack s H ⟨us, ks.zip ws⟩ (pick pm (us ++ ws)) (pick pm (vs ++ zs)) Q (WE W σ) hr I.env0 b (vals_pick rr pm) q) fun r s' hq => ?_)
  cases r with
  | error e => exact pw σ pins H s e s' I hq
  | ok fl =>
    cases fl with
    | ret u => exact I.after hq
    | next => exact False.elim hq
    | brk => exact False.elim hq
    | cont => exact False.elim hq
theorem de_callK0 {ks : List Str} {n : Nat} {pm : List Nat} {kws : List Keyword} (F : Dfn X.prog X.w X.K X.mg X.base CX x qual st k ps c) (hr : Room k X.A) (pw : Pw CX X W) (kb : KBn X.K x qual st ps ks 0 n pm) (hkw : DK X W kws tk) (hg : Gl X x := by rfl)
    (hall : (backToKw pos (keywordEach kws X.env)).all (·.1.isSome) = true := by rfl) (hks : (backToKw pos (keywordEach kws X.env)).filterMap (·.1) = ks := by rfl) (hdb : (x == ("__debug__" : Str)) = false := by decide)
    (hpl : ((backTo pos (starEach [] X.env)).any (·.1) || (backToKw pos (keywordEach kws X.env)).any (·.1.isNone)) = false := by rfl) : DE X W (.Call (.Name x p) [] kws pos) (dCallK c n pm dNil tk) := by
  obtain ⟨f, fd, FF, hm, G, bn⟩ := F.ex
  refine ⟨fun pins s σ H Q I ⟨δ, μ, Hc, Qd, Xd, sp, rs, h, rt, rx⟩ => ?_⟩
  refine wpAny_Call_Name_kw (ld_glob I hg hm ?_ hdb)
  refine PySem.W.callWith_KW0 (h₀ := X.base) I.ok.mod.kin FF.kp hall (thn (hkw.run pos pins s σ H (fun zs H2 => ∃ es μ2 Hc2, Same Hc Hc2 ∧ Split X.K H2 Hc2 μ2 ∧ RepA X.K Hc2 zs es ∧ ([] ++ es).length = n ∧ c (pick pm ([] ++ es)) μ2 Qd Xd) I ⟨δ, μ, Hc, _, Xd, sp, rs, h, fun es μ2 h2 zs H2 Hc2 e2 s2 r2 => ⟨es, μ2, Hc2, e2, s2, r2, h2.1, h2.2⟩, rx⟩) fun ws s2 hh => ?_) hpl
  obtain ⟨zs, H2, I2, rz, es, μ2, Hc2, e2, s2', r2, hn, hc⟩ := hh
  refine ⟨I2.kIn, ?_⟩
  rw [hks, List.append_nil]
  exact run_kw (us := []) (vs := []) (ds := []) FF G hr pw kb I2 .nil rz rfl s2' r2 hn hc (rt.mono e2) (rx.mono e2)
theorem de_callK {ks : List Str} {m n : Nat} {pm : List Nat} {kws : List Keyword} (F : Dfn X.prog X.w X.K X.mg X.base CX x qual st k ps c) (hr : Room k X.A) (pw : Pw CX X W) (kb : KBn X.K x qual st ps ks m n pm) (ha : DA X W (e :: es) tr) (hkw : DK X W kws tk)
    (hlen : (e :: es).length = m := by rfl) (hg : Gl X x := by rfl)
    (hall : (backToKw pos (keywordEach kws X.env)).all (·.1.isSome) = true := by rfl) (hks : (backToKw pos (keywordEach kws X.env)).filterMap (·.1) = ks := by rfl) (hdb : (x == ("__debug__" : Str)) = false := by decide)
    (he : starEach (e :: es) X.env = (false, eval e X.env) :: starEach es X.env := by rfl)
    (hpl : ((backTo pos (starEach (e :: es) X.env)).any (·.1) || (backToKw pos (keywordEach kws X.env)).any (·.1.isNone)) = false := by rfl) : DE X W (.Call (.Name x p) (e :: es) kws pos) (dCallK c n pm (dLenIs m tr) tk) := by
  obtain ⟨f, fd, FF, hm, G, bn⟩ := F.ex
  refine ⟨fun pins s σ H Q I ⟨δ, μ, Hc, Qd, Xd, sp, rs, h, rt, rx⟩ => ?_⟩
  refine wpAny_Call_Name_kw (ld_glob I hg hm ?_ hdb)
  refine PySem.W.callWith_KW (h₀ := X.base) I.ok.mod.kin FF.kp hall (thn (ha.run pos pins s σ H (fun vs H1 => ∃ ds μ1 Hc1, Same Hc Hc1 ∧ Split X.K H1 Hc1 μ1 ∧ RepA X.K Hc1 vs ds ∧ ds.length = m ∧ tk Xd δ μ1 (kCallK2 c n pm Xd Qd ds)) I
    ⟨δ, μ, Hc, _, Xd, sp, rs, h, fun ds μ1 h1 vs H1 Hc1 e1 s1 r1 => ⟨ds, μ1, Hc1, e1, s1, r1, h1.1, h1.2⟩, rx⟩) fun us s1 hh => ?_) hpl he
  obtain ⟨vs, H1, I1, rv, ds, μ1, Hc1, e1, s1', r1, hd, h1⟩ := hh
  refine thn (hkw.run pos pins s1 σ H1 (fun zs H2 => ∃ es μ2 Hc2, Same Hc1 Hc2 ∧ Split X.K H2 Hc2 μ2 ∧ RepA X.K Hc2 zs es ∧ (ds ++ es).length = n ∧ c (pick pm (ds ++ es)) μ2 Qd Xd) I1 ⟨δ, μ1, Hc1, _, Xd, s1', rs.mono e1, h1, fun es μ2 h2 zs H2 Hc2 e2 s2 r2 => ⟨es, μ2, Hc2, e2, s2, r2, h2.1, h2.2⟩, rx.mono e1⟩) fun ws s2 hh => ?_
  obtain ⟨zs, H2, I2, rz, es', μ2, Hc2, e2, s2', r2, hn, hc⟩ := hh
  refine ⟨I2.kIn, ?_⟩
  rw [hks, List.nil_append]
  exact run_kw FF G hr pw kb I2 rv rz (by rw [← rv.length, r1.length]; exact hd) s2' ((r1.mono e2).append r2) hn hc (rt.mono (e1.trans e2)) (rx.mono (e1.trans e2))

/-! ### calls of built-ins -/
abbrev DRC := List D → M → QD → Prop
def LCall (K : PySem.W.Frag) (r : List V → Hp → VK → Prop) (g : DRC) : Prop := ∀ (vs : List V) (ds : List D) (H Hc : Hp) (μ : M) (Q : VK) (Qd : QD), Split K H Hc μ → RepA K Hc vs ds → g ds μ Qd → Ret K Hc Qd Q → r vs H Q
def kCB (g : DRC) (Q : QD) (ds : List D) (μ : M) : Prop := g ds μ Q
def dCB (g : DRC) (t : DTA) (W : XD) (δ : Sl) (μ : M) (Q : QD) : Prop := t W δ μ (kCB g Q)
theorem liftCB {K : PySem.W.Frag} {r : List V → Hp → VK → Prop} {g : DRC} (l : LCall K r g) : ∀ σ H Q, upE K W (dCB g tr) σ H Q → tCB r (upA K W tr) σ H Q :=
  fun σ H Q ⟨δ, μ, Hc, Qd, Xd, s, rs, h, rt, rx⟩ => ⟨δ, μ, Hc, _, Xd, s, rs, h, fun ds μ1 h1 vs H1 Hc1 e1 s1 r1 => l vs ds H1 Hc1 μ1 Q Qd s1 r1 h1 (rt.mono e1), rx⟩
variable {id T : String} {r : List V → Hp → VK → Prop} {g : DRC}
theorem de_blt (hc : CallR X (.builtin id) r) (l : LCall X.K r g) (hm : X.mg x = none) (hv : bootBuiltins x = some (.builtin id)) (ha : DA X W (e :: es) tr) (hg : Gl X x := by rfl) (hn : x ≠ "__name__" := by decide) (hdb : (x == ("__debug__" : Str)) = false := by decide)
    (he : starEach (e :: es) X.env = (false, eval e X.env) :: starEach es X.env := by rfl) (hpl : (backTo pos (starEach es X.env)).any (·.1) = false := by rfl) : DE X W (.Call (.Name x p) (e :: es) [] pos) (dCB g tr) := PE.imp (pe_callB hc hg hm hv ha hn hdb he hpl) (liftCB l)
theorem de_blty (hc : CallR X (.type T) r) (l : LCall X.K r g) (hm : X.mg x = none) (hv : bootBuiltins x = some (.type T)) (ha : DA X W (e :: es) tr) (hg : Gl X x := by rfl) (hn : x ≠ "__name__" := by decide) (hdb : (x == ("__debug__" : Str)) = false := by decide)
    (he : starEach (e :: es) X.env = (false, eval e X.env) :: starEach es X.env := by rfl) (hpl : (backTo pos (starEach es X.env)).any (·.1) = false := by rfl) : DE X W (.Call (.Name x p) (e :: es) [] pos) (dCB g tr) := PE.imp (pe_callTy hc hg hm hv ha hn hdb he hpl) (liftCB l)
/-- a built-in's name as a value -/
theorem de_bltn {v : V} {u : Value} (hm : X.mg x = none) (hv : bootBuiltins x = some u) (r : RelV v u) (hg : Gl X x := by rfl) (hn : x ≠ "__name__" := by decide) (hd : (x == ("__debug__" : Str)) = false := by decide) : DE X W (.Name x p) (dC (.raw v)) := de_c (pe_bltn hg hm hv r hn hd) fun _ => .raw v
end

def gLen : DRC := fun ds μ Q => match ds with
  | [d] => match view μ d with
    | .lst xs => Q (.int xs.length) μ
    | .tup xs => Q (.int xs.length) μ
    | .scr ns => Q (.int ns.length) μ
    | .str z => z.length ≤ sizeLine ∧ Q (.int z.length) μ
    | _ => False
  | _ => False
theorem RepA.one' {K : PySem.W.Frag} {H : Hp} {vs : List V} {d : D} (r : RepA K H vs [d]) : ∃ v, vs = [v] ∧ Rep K H v d := by
  cases r with
  | cons a r => cases r; exact ⟨_, rfl, a⟩
theorem RepA.two' {K : PySem.W.Frag} {H : Hp} {vs : List V} {d e : D} (r : RepA K H vs [d, e]) : ∃ v u, vs = [v, u] ∧ Rep K H v d ∧ Rep K H u e := by
  cases r with
  | cons a r =>
    obtain ⟨u, rfl, b⟩ := r.one'
    exact ⟨_, u, rfl, a, b⟩
theorem l_len {K : PySem.W.Frag} : LCall K (fun xs H Q => ∃ x n, xs = [x] ∧ LenV K x H n ∧ Q (.int n) H) gLen := by
  intro vs ds H Hc μ Q Qd s ra h rt
  unfold gLen at h
  split at h
  · obtain ⟨v, rfl, r⟩ := ra.one'
    split at h
    · rename_i xs e1
      obtain ⟨a, ws, rfl, ha, rb⟩ := view_lst s r e1
      exact ⟨_, _, rfl, .inl ⟨ws, SqL.of ha, rfl⟩, rt.val s (.int _) (by rw [rb.length]; exact h)⟩
    · rename_i xs e1
      obtain ⟨a, ws, rfl, ha, rb⟩ := view_tup s r e1
      exact ⟨_, _, rfl, .inr ⟨ws, ha, rfl⟩, rt.val s (.int _) (by rw [rb.length]; exact h)⟩
    · rename_i ns e1
      obtain ⟨a, rfl, ha⟩ := view_scr s r e1
      exact ⟨_, _, rfl, .inl ⟨_, ha, rfl⟩, rt.val s (.int _) (by rw [List.length_map]; exact h)⟩
    · rename_i z e1
      cases view_str r e1
      exact ⟨_, _, rfl, ⟨h.1, rfl⟩, rt.val s (.int _) h.2⟩
    · exact h.elim
  · exact h.elim
def gAbs : DRC := fun ds μ Q => match ds with
  | [.int i] => Q (.int (if i < 0 then -i else i)) μ
  | _ => False
theorem l_abs {K : PySem.W.Frag} : LCall K (fun xs H Q => ∃ i, xs = [V.int i] ∧ Q (.int (if i < 0 then -i else i)) H) gAbs := by
  intro vs ds H Hc μ Q Qd s ra h rt
  unfold gAbs at h
  split at h
  · obtain ⟨v, rfl, r⟩ := ra.one'
    cases r
    exact ⟨_, rfl, rt.val s (.int _) h⟩
  · exact h.elim
def gMax2 : DRC := fun ds μ Q => match ds with
  | [.int i, .int j] => Q (.int (if j > i then j else i)) μ
  | _ => False
def gMin2 : DRC := fun ds μ Q => match ds with
  | [.int i, .int j] => Q (.int (if j < i then j else i)) μ
  | _ => False
theorem l_max2 {K : PySem.W.Frag} : LCall K (fun xs H Q => ∃ i j, xs = [V.int i, V.int j] ∧ Q (.int (if j > i then j else i)) H) gMax2 := by
  intro vs ds H Hc μ Q Qd s ra h rt
  unfold gMax2 at h
  split at h
  · obtain ⟨v, u, rfl, r1, r2⟩ := ra.two'
    cases r1; cases r2
    exact ⟨_, _, rfl, rt.val s (.int _) h⟩
  · exact h.elim
theorem l_min2 {K : PySem.W.Frag} : LCall K (fun xs H Q => ∃ i j, xs = [V.int i, V.int j] ∧ Q (.int (if j < i then j else i)) H) gMin2 := by
  intro vs ds H Hc μ Q Qd s ra h rt
  unfold gMin2 at h
  split at h
  · obtain ⟨v, u, rfl, r1, r2⟩ := ra.two'
    cases r1; cases r2
    exact ⟨_, _, rfl, rt.val s (.int _) h⟩
  · exact h.elim
/-- lists of truths -/
def blsOf : List D → Option (List Bool)
  | [] => some []
  | .bl b :: ds => (blsOf ds).map (b :: ·)
  | _ => none
def intsOf : List D → Option (List Int)
  | [] => some []
  | .int b :: ds => (intsOf ds).map (b :: ·)
  | _ => none
theorem blsOf_eq : ∀ {ds : List D} {bs : List Bool}, blsOf ds = some bs → ds = bs.map D.bl
  | [], bs, h => by cases h; rfl
  | .bl b :: ds, bs, h => by
    unfold blsOf at h
    cases e : blsOf ds with
    | none => rw [e] at h; cases h
    | some cs =>
      rw [e] at h
      cases h
      rw [blsOf_eq e]
      rfl
  | .non :: _, _, h => by cases h
  | .int _ :: _, _, h => by cases h
  | .str _ :: _, _, h => by cases h
  | .lst _ :: _, _, h => by cases h
  | .tup _ :: _, _, h => by cases h
  | .scr _ :: _, _, h => by cases h
  | .raw _ :: _, _, h => by cases h
  | .emp :: _, _, h => by cases h
theorem intsOf_eq : ∀ {ds : List D} {bs : List Int}, intsOf ds = some bs → ds = bs.map D.int
  | [], bs, h => by cases h; rfl
  | .int b :: ds, bs, h => by
    unfold intsOf at h
    cases e : intsOf ds with
    | none => rw [e] at h; cases h
    | some cs =>
      rw [e] at h
      cases h
      rw [intsOf_eq e]
      rfl
  | .non :: _, _, h => by cases h
  | .bl _ :: _, _, h => by cases h
  | .str _ :: _, _, h => by cases h
  | .lst _ :: _, _, h => by cases h
  | .tup _ :: _, _, h => by cases h
  | .scr _ :: _, _, h => by cases h
  | .raw _ :: _, _, h => by cases h
  | .emp :: _, _, h => by cases h
theorem blsOf_map : ∀ bs : List Bool, blsOf (bs.map D.bl) = some bs
  | [] => rfl
  | b :: bs => by rw [List.map_cons, blsOf, blsOf_map bs]; rfl
theorem intsOf_map : ∀ bs : List Int, intsOf (bs.map D.int) = some bs
  | [] => rfl
  | b :: bs => by rw [List.map_cons, intsOf, intsOf_map bs]; rfl
def gAll : DRC := fun ds μ Q => match ds with
  | [d] => match view μ d with
    | .lst xs => OptQ ((blsOf xs).map fun bs => .bl (bs.all fun b => b)) Q μ
    | _ => False
  | _ => False
def gAny : DRC := fun ds μ Q => match ds with
  | [d] => match view μ d with
    | .lst xs => OptQ ((blsOf xs).map fun bs => .bl (bs.any fun b => b)) Q μ
    | _ => False
  | _ => False
def gSum : DRC := fun ds μ Q => match ds with
  | [d] => match view μ d with
    | .lst xs => OptQ ((intsOf xs).map fun bs => .int bs.sum) Q μ
    | .tup xs => OptQ ((intsOf xs).map fun bs => .int bs.sum) Q μ
    | _ => False
  | _ => False
theorem l_all {K : PySem.W.Frag} : LCall K (rAll K) gAll := by
  intro vs ds H Hc μ Q Qd s ra h rt
  unfold gAll at h
  split at h
  · obtain ⟨v, rfl, r⟩ := ra.one'
    split at h
    · rename_i xs e1
      obtain ⟨a, ws, rfl, ha, rb⟩ := view_lst s r e1
      obtain ⟨bs', hb', hq⟩ := h.ex
      obtain ⟨bs, hb, rfl⟩ := Option.map_eq_some_iff.mp hb'
      rw [blsOf_eq hb] at rb
      rw [rb.bls] at ha
      exact ⟨a, bs, rfl, SqL.of ha, rt.val s (.bl _) hq⟩
    · exact h.elim
  · exact h.elim
theorem l_any {K : PySem.W.Frag} : LCall K (rAny K) gAny := by
  intro vs ds H Hc μ Q Qd s ra h rt
  unfold gAny at h
  split at h
  · obtain ⟨v, rfl, r⟩ := ra.one'
    split at h
    · rename_i xs e1
      obtain ⟨a, ws, rfl, ha, rb⟩ := view_lst s r e1
      obtain ⟨bs', hb', hq⟩ := h.ex
      obtain ⟨bs, hb, rfl⟩ := Option.map_eq_some_iff.mp hb'
      rw [blsOf_eq hb] at rb
      rw [rb.bls] at ha
      exact ⟨a, bs, rfl, SqL.of ha, rt.val s (.bl _) hq⟩
    · exact h.elim
  · exact h.elim
open PyProof.Rows in
theorem sum_rawT {prog : Program} {w : World} {A : Around} {E : Value → Shared → Prop} {s : Shared} {l : Addr} {its : List Value} {ns : List Int} {Q : Value → Shared → Prop} (hh : A.handled = none) (hl : s.heap.IsTuple l its.toArray) (hi : IntsAre its ns)
    (h : ∀ h' tk t', (∀ b o, s.heap.get? b = some o → h'.get? b = some o) → Q (.int ns.sum t') { s with heap := h', toks := tk }) : wpAny (model prog w) A (call (.builtin "sum") [.ref l]) Q E s := by
  obtain ⟨xs, e⟩ := hi.allInts.items
  have hn : numsOf (intItems xs).toList = ns := by rw [← e]; exact hi.numsOf
  rw [nums_intItems] at hn
  rw [e] at hl
  refine PySem.W.ktm_sumG hh hl fun h' tk t' hk => ?_
  have := h h' tk t' hk
  rw [preSum_eq, List.take_of_length_le (by simp), hn]; exact this
def rSumA (K : PySem.W.Frag) : List V → Hp → VK → Prop := fun vs H Q => ∃ (a : Addr) (ns : List Int), vs = [V.ref a] ∧ (SqL K H a (ns.map V.int) ∨ SqT K H a (ns.map V.int)) ∧ Q (.int ns.sum) H
theorem cr_sumA {X : Cx} (hc : X.calm = true) : CallR X (.builtin "sum") (rSumA X.K) := by
  intro pins s σ H vs us Q I r h
  obtain ⟨a, ns, rfl, hs | hs, q⟩ := h
  · exact cr_sum hc pins s σ H _ us Q I r ⟨a, ns, rfl, hs, q⟩
  · obtain ⟨its, rv, hl, _⟩ := I.tuple hs
    rw [Vals.ref1 r]
    exact sum_rawT (I.ok.hd hc) hl rv.ints fun h' tk t' hk => ⟨.int _, H, I.kept hk, ⟨_, rfl⟩, q⟩
theorem l_sum {K : PySem.W.Frag} : LCall K (rSumA K) gSum := by
  intro vs ds H Hc μ Q Qd s ra h rt
  unfold gSum at h
  split at h
  · obtain ⟨v, rfl, r⟩ := ra.one'
    split at h
    · rename_i xs e1
      obtain ⟨a, ws, rfl, ha, rb⟩ := view_lst s r e1
      obtain ⟨bs', hb', hq⟩ := h.ex
      obtain ⟨bs, hb, rfl⟩ := Option.map_eq_some_iff.mp hb'
      rw [intsOf_eq hb] at rb
      rw [rb.ints] at ha
      exact ⟨a, bs, rfl, .inl (SqL.of ha), rt.val s (.int _) hq⟩
    · rename_i xs e1
      obtain ⟨a, ws, rfl, ha, rb⟩ := view_tup s r e1
      obtain ⟨bs', hb', hq⟩ := h.ex
      obtain ⟨bs, hb, rfl⟩ := Option.map_eq_some_iff.mp hb'
      rw [intsOf_eq hb] at rb
      rw [rb.ints] at ha
      exact ⟨a, bs, rfl, .inr ha, rt.val s (.int _) hq⟩
    · exact h.elim
  · exact h.elim
/-- list(xs): data, or a cell -/
def gList : DRC := fun ds μ Q => match ds with
  | [d] => match view μ d with
    | .lst xs => Q (.lst xs) μ
    | .tup xs => Q (.lst xs) μ
    | _ => False
  | _ => False
def gListC : DRC := fun ds μ Q => match ds with
  | [d] => match view μ d with
    | .lst xs => NewC xs μ Q
    | .tup xs => NewC xs μ Q
    | _ => False
  | _ => False
abbrev rListOf (K : PySem.W.Frag) : List V → Hp → VK → Prop := fun xs H Q => ∃ p ys, xs = [.ref p] ∧ (SqL K H p ys ∨ SqT K H p ys) ∧ ∀ l, H l = none → Q (.ref l) (upd H l (.lst ys))
theorem l_list {K : PySem.W.Frag} : LCall K (rListOf K) gList := by
  intro vs ds H Hc μ Q Qd s ra h rt
  unfold gList at h
  split at h
  · obtain ⟨v, rfl, r⟩ := ra.one'
    split at h
    · rename_i xs e1
      obtain ⟨a, ws, rfl, ha, rb⟩ := view_lst s r e1
      exact ⟨a, ws, rfl, .inl (SqL.of ha), rt.new s rb h⟩
    · rename_i xs e1
      obtain ⟨a, ws, rfl, ha, rb⟩ := view_tup s r e1
      exact ⟨a, ws, rfl, .inr ha, rt.new s rb h⟩
    · exact h.elim
  · exact h.elim
theorem l_listC {K : PySem.W.Frag} : LCall K (rListOf K) gListC := by
  intro vs ds H Hc μ Q Qd s ra h rt
  unfold gListC at h
  split at h
  · obtain ⟨v, rfl, r⟩ := ra.one'
    split at h
    · rename_i xs e1
      obtain ⟨a, ws, rfl, ha, rb⟩ := view_lst s r e1
      exact ⟨a, ws, rfl, .inl (SqL.of ha), rt.newC s rb h⟩
    · rename_i xs e1
      obtain ⟨a, ws, rfl, ha, rb⟩ := view_tup s r e1
      exact ⟨a, ws, rfl, .inr ha, rt.newC s rb h⟩
    · exact h.elim
  · exact h.elim
def gTuple : DRC := fun ds μ Q => match ds with
  | [d] => match view μ d with
    | .lst xs => Q (.tup xs) μ
    | _ => False
  | _ => False
theorem l_tuple {K : PySem.W.Frag} : LCall K (fun xs H Q => ∃ p ys, xs = [.ref p] ∧ ((SqL K H p ys ∧ ∀ l, H l = none → Q (.ref l) (upd H l (.tup ys))) ∨ (SqT K H p ys ∧ Q (.ref p) H))) gTuple := by
  intro vs ds H Hc μ Q Qd s ra h rt
  unfold gTuple at h
  split at h
  · obtain ⟨v, rfl, r⟩ := ra.one'
    split at h
    · rename_i xs e1
      obtain ⟨a, ws, rfl, ha, rb⟩ := view_lst s r e1
      exact ⟨a, ws, rfl, .inl ⟨SqL.of ha, rt.newT s rb h⟩⟩
    · exact h.elim
  · exact h.elim
/-! isinstance of data against a built-in class -/
def tyN : D → Option String
  | .non => some "NoneType"
  | .bl _ => some "bool"
  | .int _ => some "int"
  | .str _ => some "str"
  | .lst _ => some "list"
  | .tup _ => some "tuple"
  | .emp => some "dict"
  | _ => none
theorem tyX_of {K : PySem.W.Frag} {H : Hp} {v : V} {d : D} {n : String} (r : Rep K H v d) (h : tyN d = some n) : TyX K H v (.type n) := by
  cases r with
  | non => cases h; exact .base .non
  | bl b => cases h; exact .base (.bl b)
  | int b => cases h; exact .base (.int b)
  | str b => cases h; exact .base (.str b)
  | lst a _ => cases h; exact .base (.lst a)
  | tup a _ =>
    cases h
    rcases a with (a | ⟨o, a⟩) | ⟨o, its, n, a, b, _⟩
    · exact .base (.tup a)
    · exact .fTuple a
    · exact .kTuple a b
  | emp a => cases h; exact .base (.dK a)
  | _ => cases h
def subN : String → String → Bool
  | "bool", "int" => true
  | a, b => a == b
def knownTy (a : String) : Bool := a == "NoneType" || a == "bool" || a == "int" || a == "str" || a == "list" || a == "tuple"
def gIsi (T : String) : DR2 := fun a b μ Q => match b with
  | .raw (.ty T') => T' = T ∧ OptQ ((tyN (view μ a)).map fun n => .bl (subN n T)) Q μ
  | _ => False
theorem kitB_all {d : D} {n T : String} (h : tyN d = some n) (hT : T = "int" ∨ T = "bool" ∨ T = "str" ∨ T = "list" ∨ T = "tuple") : kitB n T = some (subN n T) := by
  have hn : n = "NoneType" ∨ n = "bool" ∨ n = "int" ∨ n = "str" ∨ n = "list" ∨ n = "tuple" ∨ n = "dict" := by
    cases d <;> first | (cases h; simp) | cases h
  rcases hn with rfl | rfl | rfl | rfl | rfl | rfl | rfl <;> rcases hT with rfl | rfl | rfl | rfl | rfl <;> decide +kernel
def gIsiC (T : String) : DRC := fun ds μ Q => match ds with
  | [a, b] => gIsi T a b μ Q
  | _ => False
theorem l_isi {K : PySem.W.Frag} {T : String} (hT : T = "int" ∨ T = "bool" ∨ T = "str" ∨ T = "list" ∨ T = "tuple") : LCall K (rIsi K) (gIsiC T) := by
  intro vs ds H Hc μ Q Qd s ra h rt
  unfold gIsiC at h
  split at h
  · obtain ⟨v, u, rfl, r1, r2⟩ := ra.two'
    unfold gIsi at h
    split at h
    · rename_i T'
      obtain ⟨e1, h2⟩ := h
      subst e1
      obtain ⟨n', hn', hq⟩ := h2.ex
      obtain ⟨n, hn, rfl⟩ := Option.map_eq_some_iff.mp hn'
      cases r2
      exact ⟨v, _, .type n, .type T', _, rfl, .ty _, tyX_of (view_rep s r1) hn, kit_ty (kitB_all hn hT), rt.val s (.bl _) hq⟩
    · exact h.elim
  · exact h.elim
end DL
set_option Elab.async false
set_option linter.all false
set_option maxRecDepth 100000
set_option maxHeartbeats 2000000
/-! The data layer: statements, loops, comprehensions, errors. -/
namespace DL
open PySem PySem.Spec L2

section
variable {X : Cx} {W : WX} {a b c e : Expr} {es : List Expr} {pos p : Pos} {ta tb te : DTE} {tr : DTA} {st : Stmt} {rest body : List Stmt} {t u : DTS}
def dNext (E : DEnds) (δ : Sl) (μ : M) : Prop := E.nx δ μ
def dSeq (t u : DTS) (E : DEnds) (δ : Sl) (μ : M) : Prop := t { E with nx := u E } δ μ
theorem dss_nil : DSs X W [] dNext := PSs.imp pss_nil fun D σ H ⟨δ, μ, Hc, Dd, s, rs, h, rt⟩ => rt.nx _ _ h _ _ Hc (Same.refl _) s rs
theorem dss_cons (h1 : DS X W st t) (h2 : DSs X W rest u) : DSs X W (st :: rest) (dSeq t u) := PSs.imp (pss_cons h1 h2) fun D σ H ⟨δ, μ, Hc, Dd, s, rs, h, rt⟩ =>
  ⟨δ, μ, Hc, { Dd with nx := u Dd }, s, rs, h, ⟨fun δ' μ' h' σ' H' Hc' e' s' rs' => ⟨δ', μ', Hc', Dd, s', rs', h', rt.mono e'⟩, rt.rt, rt.bk, rt.ct, rt.xc⟩⟩
theorem dss_one (h1 : DS X W st t) : DSs X W [st] t := pss_one h1
def kDrop (E : DEnds) (δ : Sl) (_ : D) (μ : M) : Prop := E.nx δ μ
def dDrop (te : DTE) (E : DEnds) (δ : Sl) (μ : M) : Prop := te (E.xc δ) δ μ (kDrop E δ)
theorem ds_expr (he : DE X W e te) (hs : swapsWith e none pos.line X.env = pure false := by rfl) : DS X W (.Expr e pos) (dDrop te) := PS.imp (ps_expr he hs) fun D σ H ⟨δ, μ, Hc, Dd, s, rs, h, rt⟩ =>
  ⟨δ, μ, Hc, _, _, s, rs, h, fun d μ1 h1 v H1 Hc1 e1 s1 r1 => rt.nx _ _ h1 _ _ _ e1 s1 (rs.mono e1), rt.xc.at rs⟩
def dRet (te : DTE) (E : DEnds) (δ : Sl) (μ : M) : Prop := te (E.xc δ) δ μ E.rt
theorem ds_ret (he : DE X W e te) : DS X W (.Return (some e) pos) (dRet te) := PS.imp (ps_ret he) fun D σ H ⟨δ, μ, Hc, Dd, s, rs, h, rt⟩ => ⟨δ, μ, Hc, _, _, s, rs, h, rt.rt, rt.xc.at rs⟩
def dRetN (E : DEnds) (_ : Sl) (μ : M) : Prop := E.rt .non μ
theorem ds_retN : DS X W (.Return none pos) dRetN := PS.imp ps_retN fun D σ H ⟨δ, μ, Hc, Dd, s, rs, h, rt⟩ => rt.rt.val s .non h
theorem ds_pass : DS X W (.Pass pos) dNext := PS.imp ps_pass fun D σ H ⟨δ, μ, Hc, Dd, s, rs, h, rt⟩ => rt.nx _ _ h _ _ Hc (Same.refl _) s rs
def dBreak (E : DEnds) (δ : Sl) (μ : M) : Prop := E.bk δ μ
def dCont (E : DEnds) (δ : Sl) (μ : M) : Prop := E.ct δ μ
theorem ds_break : DS X W (.Break pos) dBreak := PS.imp ps_break fun D σ H ⟨δ, μ, Hc, Dd, s, rs, h, rt⟩ => rt.bk _ _ h _ _ Hc (Same.refl _) s rs
theorem ds_cont : DS X W (.Continue pos) dCont := PS.imp ps_continue fun D σ H ⟨δ, μ, Hc, Dd, s, rs, h, rt⟩ => rt.ct _ _ h _ _ Hc (Same.refl _) s rs
def ifS (b : Bool) (t u : DTS) (E : DEnds) (δ : Sl) (μ : M) : Prop := match b with
  | true => t E δ μ
  | false => u E δ μ
theorem ifS_of {b : Bool} {t u : DTS} {E : DEnds} {δ : Sl} {μ : M} (h1 : b = true → t E δ μ) (h2 : b = false → u E δ μ) : ifS b t u E δ μ := by
  cases b with
  | true => exact h1 rfl
  | false => exact h2 rfl
theorem ifS_dec {p : Prop} [Decidable p] {t u : DTS} {E : DEnds} {δ : Sl} {μ : M} (h1 : p → t E δ μ) (h2 : ¬ p → u E δ μ) : ifS (decide p) t u E δ μ := ifS_of (fun h => h1 (of_decide_eq_true h)) (fun h => h2 (of_decide_eq_false h))
theorem ifS_ndec {p : Prop} [Decidable p] {t u : DTS} {E : DEnds} {δ : Sl} {μ : M} (h1 : ¬ p → t E δ μ) (h2 : p → u E δ μ) : ifS (!decide p) t u E δ μ := ifS_of (fun h => h1 (by simpa using h)) (fun h => h2 (by simpa using h))
def kIf (t u : DTS) (E : DEnds) (δ : Sl) (b : Bool) (μ : M) : Prop := ifS b t u E δ μ
def dIf (c : DTT) (t u : DTS) (E : DEnds) (δ : Sl) (μ : M) : Prop := c (E.xc δ) δ μ (kIf t u E δ)
theorem ds_if {tc : DTT} {sa sb : List Stmt} (hc : DT X W c tc) (ha : DSs X W sa t) (hb : DSs X W sb u) : DS X W (.If c sa sb pos) (dIf tc t u) := PS.imp (ps_if hc ha hb) fun D σ H ⟨δ, μ, Hc, Dd, s, rs, h, rt⟩ =>
  ⟨δ, μ, Hc, _, _, s, rs, h, fun b μ1 h1 H1 Hc1 e1 s1 => by
    cases b with
    | true => exact ⟨δ, μ1, Hc1, Dd, s1, rs.mono e1, h1, rt.mono e1⟩
    | false => exact ⟨δ, μ1, Hc1, Dd, s1, rs.mono e1, h1, rt.mono e1⟩, rt.xc.at rs⟩
/-- name = e -/
def kSet (i : Nat) (E : DEnds) (δ : Sl) (d : D) (μ : M) : Prop := E.nx (δ.set i (some d)) μ
def dSet (i : Nat) (te : DTE) (E : DEnds) (δ : Sl) (μ : M) : Prop := te (E.xc δ) δ μ (kSet i E δ)
theorem ds_set {i : Nat} {x : Str} {pos' : Pos} (hN : X.N.Nodup) (he : DE X W e te) (hi : X.N[i]? = some x := by rfl) (hx : Loc X.env.scope x := by first | exact .inl rfl | exact .inr rfl)
    (hs : swapsWith e (some (.Name x pos')) pos.line X.env = pure false := by rfl) (hf : X.fn x = true ∨ X.env.scope.names.lookup x = some .local := by first | exact .inl rfl | exact .inr rfl | assumption) :
    DS X W (.Assign [.Name x pos'] e pos) (dSet i te) := PS.imp (ps_set hN hi hx he hs hf) fun D σ H ⟨δ, μ, Hc, Dd, s, rs, h, rt⟩ =>
  ⟨δ, μ, Hc, _, _, s, rs, h, fun d μ1 h1 v H1 Hc1 e1 s1 r1 => rt.nx _ _ h1 _ _ _ e1 s1 ((rs.mono e1).set i r1), rt.xc.at rs⟩
/-- a, b = x, y -/
def kPar (i j : Nat) (E : DEnds) (δ : Sl) (ds : List D) (μ : M) : Prop := match ds with
  | [d, e] => E.nx ((δ.set i (some d)).set j (some e)) μ
  | _ => False
def dPar (i j : Nat) (tr : DTA) (E : DEnds) (δ : Sl) (μ : M) : Prop := tr (E.xc δ) δ μ (kPar i j E δ)
theorem ds_par {i j : Nat} {x y : Str} {px py pt : Pos} {kt k2 pt2} (hN : X.N.Nodup) (ha : DA X W [a, b] tr) (hij : i ≠ j := by decide) (hi : X.N[i]? = some x := by rfl) (hj : X.N[j]? = some y := by rfl) (hc : X.calm = true := by rfl)
    (hx : X.env.scope.names.lookup x = some .local := by rfl) (hy : X.env.scope.names.lookup y = some .local := by rfl)
    (hw : swappedStores [.Tuple [.Name x px, .Name y py] kt pt] (.Tuple [a, b] k2 pt2) X.env = pure (some [x, y]) := by rfl)
    (hs : swapsWithSole [.Tuple [.Name x px, .Name y py] kt pt] (.Tuple [a, b] k2 pt2) pos.line X.env = pure false := by rfl) :
    DS X W (.Assign [.Tuple [.Name x px, .Name y py] kt pt] (.Tuple [a, b] k2 pt2) pos) (dPar i j tr) := PS.imp (ps_par hc hN hi hj hij hx hy ha hw hs) fun D σ H ⟨δ, μ, Hc, Dd, s, rs, h, rt⟩ =>
  ⟨δ, μ, Hc, _, _, s, rs, h, fun ds μ1 h1 vs H1 Hc1 e1 s1 r1 => by
    unfold kPar at h1
    split at h1
    · obtain ⟨v, w, rfl, ra, rb⟩ := r1.two'
      exact ⟨v, w, rfl, rt.nx _ _ h1 _ _ _ e1 s1 (((rs.mono e1).set i ra).set j rb)⟩
    · exact h1.elim, rt.xc.at rs⟩
/-- name op= e -/
def kAug (i : Nat) (g : DR2) (E : DEnds) (δ : Sl) (x : D) (y : D) (μ : M) : Prop := g x y μ (kSet i E δ)
def dAug (i : Nat) (g : DR2) (te : DTE) (E : DEnds) (δ : Sl) (μ : M) : Prop := match δ[i]? with
  | some (some x) => te (E.xc δ) δ μ (kAug i g E δ x)
  | _ => False
theorem ds_aug {i : Nat} {x : Str} {op : Operator} {g : DR2} {ti : TIp} {pos' : Pos} (hN : X.N.Nodup) (ho : PIp X op ti) (l : LOp X.K ti g) (he : DE X W e te) (hi : X.N[i]? = some x := by rfl) (hx : Loc X.env.scope x := by first | exact .inl rfl | exact .inr rfl)
    (hf : X.fn x = true ∨ X.env.scope.names.lookup x = some .local := by first | exact .inl rfl | exact .inr rfl | assumption) : DS X W (.AugAssign (.Name x pos') op e pos) (dAug i g te) :=
  PS.imp (ps_aug hN hi hx he ho hf) fun D σ H ⟨δ, μ, Hc, Dd, s, rs, h, rt⟩ => by
    unfold dAug at h
    split at h
    · rename_i d ed
      obtain ⟨v, hv, rv⟩ := rs.val i d ed
      exact ⟨v, hv, δ, μ, Hc, _, _, s, rs, h, fun d' μ1 h1 v' H1 Hc1 e1 s1 r1 => l v v' d d' H1 Hc1 μ1 _ _ s1 (rv.mono e1) r1 h1 fun z μ2 h2 w H2 Hc2 e2 s2 r2 => rt.nx _ _ h2 _ _ _ (e1.trans e2) s2 ((rs.mono (e1.trans e2)).set i r2), rt.xc.at rs⟩
    · exact h.elim
theorem l_ipI {K : PySem.W.Frag} {f : Int → Int → Int} : LOp K (ipI f) (gI0 fun i j => .int (f i j)) := fun x y d e H Hc μ Q Qd s rx ry h rt => l_I0 (K := K) (fv := fun i j => .int (f i j)) (fun _ _ _ => .int _) x y d e H Hc μ Q Qd s rx ry h rt

/-! ### targets that are names -/
abbrev TGD := M → D → Option (List (Nat × D))
abbrev TGDs := M → List D → Option (List (Nat × D))
def tgN (i : Nat) : TGD := fun _ d => some [(i, d)]
def tgT (fs : TGDs) : TGD := fun μ d => match view μ d with
  | .tup ds => fs μ ds
  | _ => none
def tgNil : TGDs := fun _ ds => match ds with
  | [] => some []
  | _ => none
def tgCons (f : TGD) (fs : TGDs) : TGDs := fun μ ds => match ds with
  | d :: ds => (f μ d).bind fun b => (fs μ ds).map (b ++ ·)
  | _ => none
def sets {α : Type} (bs : List (Nat × α)) (σ : List (Option α)) : List (Option α) := bs.foldl (fun σ b => σ.set b.1 (some b.2)) σ
theorem sets_append {α : Type} (as bs : List (Nat × α)) (σ : List (Option α)) : sets (as ++ bs) σ = sets bs (sets as σ) := List.foldl_append ..
def RepB (K : PySem.W.Frag) (H : Hp) : List (Nat × V) → List (Nat × D) → Prop := Paired fun x y => x.1 = y.1 ∧ Rep K H x.2 y.2
theorem RepS.sets {K : PySem.W.Frag} {H : Hp} : ∀ {bs : List (Nat × V)} {cs : List (Nat × D)} {σ : L2.St} {δ : Sl}, RepB K H bs cs → RepS K H σ δ → RepS K H (sets bs σ) (sets cs δ)
  | _, _, _, _, .nil, r => r
  | (i, v) :: bs, (j, d) :: cs, σ, δ, .cons h t, r => by
    obtain ⟨h1, h2⟩ := h
    cases (show i = j from h1)
    exact RepS.sets (bs := bs) (cs := cs) t (r.set i h2)
theorem RepB.append {K : PySem.W.Frag} {H : Hp} : ∀ {bs bs' : List (Nat × V)} {cs cs' : List (Nat × D)}, RepB K H bs cs → RepB K H bs' cs' → RepB K H (bs ++ bs') (cs ++ cs')
  | _, _, _, _, .nil, s => s
  | _, _, _, _, .cons h t, s => .cons h (RepB.append t s)
theorem RepB.mono {K : PySem.W.Frag} {H H' : Hp} (e : Same H H') : ∀ {bs : List (Nat × V)} {cs : List (Nat × D)}, RepB K H bs cs → RepB K H' bs cs
  | _, _, .nil => .nil
  | _, _, .cons h t => .cons ⟨h.1, h.2.mono e⟩ (RepB.mono e t)
theorem RepB.fst {K : PySem.W.Frag} {H : Hp} : ∀ {bs : List (Nat × V)} {cs : List (Nat × D)}, RepB K H bs cs → bs.map (·.1) = cs.map (·.1)
  | _, _, .nil => rfl
  | _, _, .cons h t => by rw [List.map_cons, List.map_cons, h.1, RepB.fst t]
def LG (K : PySem.W.Frag) (g : TG) (f : TGD) : Prop := ∀ (v : V) (d : D) (H Hc : Hp) (μ : M) (σ : L2.St) (Q : L2.St → Hp → Prop) (cs : List (Nat × D)), Split K H Hc μ → Rep K Hc v d → f μ d = some cs → (∀ bs, RepB K Hc bs cs → Q (sets bs σ) H) → g v σ H Q
def LGs (K : PySem.W.Frag) (g : TGs) (f : TGDs) : Prop := ∀ (vs : List V) (ds : List D) (H Hc : Hp) (μ : M) (σ : L2.St) (Q : L2.St → Hp → Prop) (cs : List (Nat × D)), Split K H Hc μ → RepA K Hc vs ds → f μ ds = some cs → (∀ bs, RepB K Hc bs cs → Q (sets bs σ) H) → g vs σ H Q
theorem lg_name {K : PySem.W.Frag} {i : Nat} : LG K (gName i) (tgN i) := fun v d H Hc μ σ Q cs s r h q => by
  cases h
  exact q [(i, v)] (.cons ⟨rfl, r⟩ .nil)
theorem lg_nil {K : PySem.W.Frag} : LGs K gNil tgNil := fun vs ds H Hc μ σ Q cs s r h q => by
  cases r with
  | nil => cases h; exact ⟨rfl, q [] .nil⟩
  | cons _ _ => cases h
theorem lg_cons {K : PySem.W.Frag} {g : TG} {gs : TGs} {f : TGD} {fs : TGDs} (h1 : LG K g f) (h2 : LGs K gs fs) : LGs K (gCons g gs) (tgCons f fs) := fun vs ds H Hc μ σ Q cs s r h q => by
  cases r with
  | nil => cases h
  | @cons v vs d ds a ra =>
    have h' : ((f μ d).bind fun b => (fs μ ds).map (b ++ ·)) = some cs := h
    cases e1 : f μ d with
    | none => rw [e1] at h'; cases h'
    | some b1 =>
      rw [e1] at h'
      cases e2 : fs μ ds with
      | none => rw [Option.bind_some, e2] at h'; cases h'
      | some b2 =>
        rw [Option.bind_some, e2] at h'
        cases h'
        refine ⟨v, vs, rfl, h1 v d H Hc μ σ _ b1 s a e1 fun bs rb => h2 vs ds H Hc μ _ _ b2 s ra e2 fun bs2 rb2 => ?_⟩
        rw [← sets_append]
        exact q _ (rb.append rb2)
theorem lg_tup {K : PySem.W.Frag} {n : Nat} {gs : TGs} {fs : TGDs} (h : LGs K gs fs) (hn : ∀ μ ds cs, fs μ ds = some cs → ds.length = n) : LG K (gTup K n gs) (tgT fs) := fun v d H Hc μ σ Q cs s r hf q => by
  unfold tgT at hf
  split at hf
  · rename_i ds e1
    obtain ⟨a, vs, rfl, ha, ra⟩ := view_tup s r e1
    exact ⟨a, vs, rfl, ha, by rw [ra.length]; exact hn _ _ _ hf, h vs ds H Hc μ σ Q cs s ra hf q⟩
  · cases hf
theorem ln_nil : ∀ (μ : M) ds cs, tgNil μ ds = some cs → ds.length = 0 := fun μ ds cs h => by
  cases ds with
  | nil => rfl
  | cons _ _ => cases h
theorem ln_cons {f : TGD} {fs : TGDs} {n : Nat} (h : ∀ (μ : M) ds cs, fs μ ds = some cs → ds.length = n) : ∀ (μ : M) ds cs, tgCons f fs μ ds = some cs → ds.length = n + 1 := fun μ ds cs hh => by
  cases ds with
  | nil => cases hh
  | cons d ds =>
    have h' : ((f μ d).bind fun b => (fs μ ds).map (b ++ ·)) = some cs := hh
    cases e1 : f μ d with
    | none => rw [e1] at h'; cases h'
    | some b1 =>
      rw [e1] at h'
      cases e2 : fs μ ds with
      | none => rw [Option.bind_some, e2] at h'; cases h'
      | some b2 => rw [List.length_cons, h μ ds b2 e2]
/-- target = e -/
def setsK (o : Option (List (Nat × D))) (E : DEnds) (δ : Sl) (μ : M) : Prop := match o with
  | some cs => E.nx (sets cs δ) μ
  | none => False
theorem setsK.ex {o : Option (List (Nat × D))} {E : DEnds} {δ : Sl} {μ : M} (h : setsK o E δ μ) : ∃ cs, o = some cs ∧ E.nx (sets cs δ) μ := by
  cases o with
  | none => exact h.elim
  | some x => exact ⟨x, rfl, h⟩
def kAsg (f : TGD) (E : DEnds) (δ : Sl) (d : D) (μ : M) : Prop := setsK (f μ d) E δ μ
def dAsg (te : DTE) (f : TGD) (E : DEnds) (δ : Sl) (μ : M) : Prop := te (E.xc δ) δ μ (kAsg f E δ)
theorem ds_asg {tg : Expr} {g : TG} {f : TGD} (he : DE X W e te) (hg : PG X tg g) (lg : LG X.K g f) (hs : swapsWithSole [tg] e pos.line X.env = pure false := by rfl) (hw : swappedStores [tg] e X.env = pure none := by rfl)
    (h1 : (assignEach [tg] X.env).map (·.2) = [assign tg X.env] := by rfl) : DS X W (.Assign [tg] e pos) (dAsg te f) := PS.imp (ps_asg he hg hs hw h1) fun D σ H ⟨δ, μ, Hc, Dd, s, rs, h, rt⟩ =>
  ⟨δ, μ, Hc, _, _, s, rs, h, fun d μ1 h1 v H1 Hc1 e1 s1 r1 => by
    obtain ⟨cs, hc, hq⟩ := setsK.ex h1
    exact lg v d H1 Hc1 μ1 σ _ cs s1 r1 hc fun bs rb => rt.nx _ _ hq _ _ _ e1 s1 (RepS.sets rb (rs.mono e1)), rt.xc.at rs⟩

/-! ### o[i] = e, o a cell -/
def putIx (o : Option Nat) (p : Addr) (ds : List D) (d : D) (E : DEnds) (δ : Sl) (μ : M) : Prop := match o with
  | some j => E.nx δ (updM μ p (.lst (ds.set j d)))
  | none => False
theorem putIx.ex {o : Option Nat} {p : Addr} {ds : List D} {d : D} {E : DEnds} {δ : Sl} {μ : M} (h : putIx o p ds d E δ μ) : ∃ j, o = some j ∧ E.nx δ (updM μ p (.lst (ds.set j d))) := by
  cases o with
  | none => exact h.elim
  | some x => exact ⟨x, rfl, h⟩
def kSetIx3 (E : DEnds) (δ : Sl) (d o i : D) (μ : M) : Prop := match o, i with
  | .raw (.ref p), .int k => ∃ ds, μ p = some (.lst ds) ∧ putIx (ixN ds.length k) p ds d E δ μ
  | _, _ => False
def kSetIx2 (ti : DTE) (E : DEnds) (δ : Sl) (d o : D) (μ : M) : Prop := ti (E.xc δ) δ μ (kSetIx3 E δ d o)
def kSetIx1 (to ti : DTE) (E : DEnds) (δ : Sl) (d : D) (μ : M) : Prop := to (E.xc δ) δ μ (kSetIx2 ti E δ d)
def dSetIx (te to ti : DTE) (E : DEnds) (δ : Sl) (μ : M) : Prop := te (E.xc δ) δ μ (kSetIx1 to ti E δ)
theorem ds_setix {o i : Expr} {to ti : DTE} {pos' : Pos} (he : DE X W e te) (ho : DE X W o to) (hi : DE X W i ti)
    (ha : ∀ v, assign (.Subscript o i pos') X.env v = (do
      let ov ← holding [v] (eval o X.env)
      let iv ← holding [v, ov] (eval i X.env)
      standAt pos'
      holding [v, ov, iv] (setItem ov iv v)
      release [v, ov, iv] []) := by intro _; rfl) (hs : swapsWithSole [.Subscript o i pos'] e pos.line X.env = pure false := by rfl) (hw : swappedStores [.Subscript o i pos'] e X.env = pure none := by rfl)
    (h1 : (assignEach [.Subscript o i pos'] X.env).map (·.2) = [assign (.Subscript o i pos') X.env] := by rfl) : DS X W (.Assign [.Subscript o i pos'] e pos) (dSetIx te to ti) :=
  PS.imp (ps_asg he (pg_sub ho hi set_list ha) hs hw h1) fun D σ H ⟨δ, μ, Hc, Dd, s, rs, h, rt⟩ =>
  ⟨δ, μ, Hc, _, _, s, rs, h, fun d μ1 h1 v H1 Hc1 e1 s1 r1 => ⟨δ, μ1, Hc1, _, _, s1, rs.mono e1, h1, fun o' μ2 h2 w H2 Hc2 e2 s2 r2 => ⟨δ, μ2, Hc2, _, _, s2, rs.mono (e1.trans e2), h2, fun i' μ3 h3 z H3 Hc3 e3 s3 r3 => by
    unfold kSetIx3 at h3
    split at h3
    · rename_i p k
      obtain ⟨ds, hp, h4⟩ := h3
      obtain ⟨j, hj, hq⟩ := h4.ex
      cases r2
      cases r3
      obtain ⟨_, ob, ho', vs, rfl, ra⟩ := s3.cell p _ hp
      refine ⟨p, vs, k, j, rfl, rfl, ho', by rw [ra.length]; exact hj, ?_⟩
      exact rt.nx _ _ hq _ _ Hc3 ((e1.trans e2).trans e3) (s3.put hp ⟨_, rfl, ra.set (r1.mono (e2.trans e3)) j⟩) (rs.mono ((e1.trans e2).trans e3))
    · exact h3.elim, (rt.xc.at rs).mono (e1.trans e2)⟩, (rt.xc.at rs).mono e1⟩, rt.xc.at rs⟩

/-! ### while -/
/-- a smaller turn -/
def Less (I : Nat → Sl → M → Prop) (m : Nat) (δ : Sl) (μ : M) : Prop := ∃ m', m' < m ∧ I m' δ μ
def dWhile (c : DTT) (tb : DTS) (E : DEnds) (δ : Sl) (μ : M) : Prop := ∃ I : Nat → Sl → M → Prop, (∃ m, I m δ μ) ∧ ∀ m δ μ, I m δ μ →
  c (E.xc δ) δ μ (kIf (fun _ => tb { E with nx := Less I m, ct := Less I m, bk := E.nx }) dNext E δ)
theorem while_by {c : DTT} {tb : DTS} {E : DEnds} {δ : Sl} {μ : M} (I : Nat → Sl → M → Prop) {m : Nat} (h0 : I m δ μ) (hs : ∀ m δ μ, I m δ μ → c (E.xc δ) δ μ (kIf (fun _ => tb { E with nx := Less I m, ct := Less I m, bk := E.nx }) dNext E δ)) : dWhile c tb E δ μ := ⟨I, ⟨m, h0⟩, hs⟩
theorem ds_while {tc : DTT} {tb : DTS} (hp : PassesOwn (model X.prog X.w) X.A X.env X.xe) (hc : DT X W c tc) (hb : DSs X W body tb) : DS X W (.While c body [] pos) (dWhile tc tb) :=
  PS.imp (ps_while hp hc hb) fun D σ H ⟨δ, μ, Hc, Dd, s, rs, h, rt⟩ => by
    obtain ⟨I, ⟨m0, w0⟩, turn⟩ := h
    refine ⟨fun m σ' H' => ∃ δ' μ' Hc', Same Hc Hc' ∧ Split X.K H' Hc' μ' ∧ RepS X.K Hc' σ' δ' ∧ I m δ' μ', ⟨m0, δ, μ, Hc, Same.refl _, s, rs, w0⟩, ?_⟩
    rintro m σ1 H1 ⟨δ1, μ1, Hc1, e1, s1, rs1, i1⟩
    refine ⟨δ1, μ1, Hc1, _, _, s1, rs1, turn m δ1 μ1 i1, fun b μ2 h2 H2 Hc2 e2 s2 => ?_, (rt.xc.mono e1).at rs1⟩
    cases b with
    | true =>
      rw [if_pos rfl]
      refine ⟨fun σ' H' => ∃ m', m' < m ∧ ∃ δ' μ' Hc', Same Hc Hc' ∧ Split X.K H' Hc' μ' ∧ RepS X.K Hc' σ' δ' ∧ I m' δ' μ', fun σ' H' ⟨m', hm, q⟩ => ⟨m', hm, q⟩, δ1, μ2, Hc2, _, s2, rs1.mono e2, h2, ?_⟩
      refine ⟨?_, rt.rt.mono (e1.trans e2), rt.nx.mono (e1.trans e2), ?_, rt.xc.mono (e1.trans e2)⟩
      · rintro δ3 μ3 ⟨m', hm, i3⟩ σ3 H3 Hc3 e3 s3 rs3
        exact ⟨m', hm, δ3, μ3, Hc3, (e1.trans e2).trans e3, s3, rs3, i3⟩
      · rintro δ3 μ3 ⟨m', hm, i3⟩ σ3 H3 Hc3 e3 s3 rs3
        exact ⟨m', hm, δ3, μ3, Hc3, (e1.trans e2).trans e3, s3, rs3, i3⟩
    | false =>
      rw [if_neg Bool.false_ne_true]
      exact rt.nx _ _ h2 _ _ _ (e1.trans e2) s2 (rs1.mono e2)
end
end DL
set_option Elab.async false
set_option linter.all false
set_option maxRecDepth 100000
set_option maxHeartbeats 2000000
/-! The data layer: for, comprehensions, errors, defs. -/
namespace DL
open PySem PySem.Spec L2

/-- what is walked: the items, and what must stay true of the cells -/
structure Src where
  ds : List D
  ok : M → Prop
  mono : ∀ μ p c, μ p = none → ok μ → ok (updM μ p c)
abbrev Src.dat (ds : List D) : Src := ⟨ds, fun _ => True, fun _ _ _ _ _ => True.intro⟩
abbrev Src.cel (p : Addr) (ds : List D) : Src := ⟨ds, fun μ => μ p = some (.lst ds), fun μ q c h e => by rw [updM_ne (ne_fresh e h)]; exact e⟩
def Wlk (K : PySem.W.Frag) (J : It) (S : Src) (Hc0 : Hp) : Prop := ∀ (i : Nat) (H Hc : Hp) (μ : M), Same Hc0 Hc → Split K H Hc μ → S.ok μ →
  (∀ d, S.ds[i]? = some d → J.go i H ∧ ∀ x H', J.yld i H x H' → ∃ Hc', Same Hc Hc' ∧ Split K H' Hc' μ ∧ Rep K Hc' x d) ∧ (i = S.ds.length → J.stop i H)
abbrev DTI := XD → Sl → M → (Src → M → Prop) → Prop
def RetI (K : PySem.W.Frag) (Hc : Hp) (Rd : Src → M → Prop) (R : It → Hp → Prop) : Prop := ∀ S μ', Rd S μ' → ∀ J H' Hc', Same Hc Hc' → Split K H' Hc' μ' → Wlk K J S Hc' → R J H'
def upI (K : PySem.W.Frag) (W : WX) (t : DTI) : TI := fun σ H R => ∃ δ μ Hc Rd Xd, Split K H Hc μ ∧ RepS K Hc σ δ ∧ t Xd δ μ Rd ∧ RetI K Hc Rd R ∧ RetX K Hc Xd (fun cls d H => W cls d σ H)
def DI (X : Cx) (W : WX) (tg iter : Expr) (t : DTI) : Prop := PI X tg iter (upI X.K W t)
theorem PI.imp {X : Cx} {tg e : Expr} {t t' : TI} (h : PI X tg e t) (i : ∀ σ H Q, t' σ H Q → t σ H Q) : PI X tg e t' := ⟨fun pins s σ H Q I w => h.run pins s σ H Q I (i σ H Q w)⟩

section
variable {X : Cx} {W : WX} {a b c e tg iter : Expr} {es : List Expr} {pos p : Pos} {ta tb te : DTE} {tr : DTA} {st : Stmt} {rest body : List Stmt} {t u : DTS} {ti : DTI}
/-! ### a list or a tuple -/
def iSeq (K : PySem.W.Frag) (tl : TE) : TI := fun σ H R => tl σ H fun x H1 => ∃ a, x = .ref a ∧ (((∃ xs, SqL K H1 a xs) ∧ R (Itl K a) H1) ∨ ((∃ xs, SqT K H1 a xs) ∧ R (Itt K a) H1))
theorem pi_seq {l : Expr} {tl : TE} (hl : PE X l tl) : PI X tg l (iSeq X.K tl) := by
  refine ⟨fun pins s σ H R I h => ?_⟩
  refine thn (hl.run pins s σ H _ I h) fun v s1 ⟨x, H1, I1, r1, q1⟩ => ?_
  obtain ⟨a, e, h | h⟩ := q1
  · obtain ⟨⟨xs, hq⟩, q⟩ := h
    subst e
    cases r1
    obtain ⟨its, rv, p, hz⟩ := I1.list hq
    refine wpAny_pyIter_list p.isList ?_
    refine ⟨s1.heap.objs.size, [s1.heap.objs.size], _, _, H1, rfl, I1.kept (t' := s1.toks) fun b o e => Heap.get?_push_of_some _ e, turn_list a _, ⟨_, Heap.get?_push_size _ rfl, rfl, rfl⟩, fun b hb => ?_, q⟩
    have e : b = s1.heap.objs.size := by simpa using hb
    subst e
    exact I1.fpOk (Nat.le_refl _) (I1.hok.fresh (Nat.le_refl _))
  · obtain ⟨⟨xs, hq⟩, q⟩ := h
    subst e
    cases r1
    obtain ⟨its, rv, p, hz⟩ := I1.tuple hq
    refine wpAny_pyIter_tuple (show s1.heap.IsTuple a its.toArray from p) ?_
    refine ⟨s1.heap.objs.size, [s1.heap.objs.size], _, _, H1, rfl, I1.kept (t' := s1.toks) fun b o e => Heap.get?_push_of_some _ e, turn_tuple a _, ⟨_, Heap.get?_push_size _ rfl, rfl, rfl⟩, fun b hb => ?_, q⟩
    have e : b = s1.heap.objs.size := by simpa using hb
    subst e
    exact I1.fpOk (Nat.le_refl _) (I1.hok.fresh (Nat.le_refl _))
/-- a list that is read: the address stays a list of these items -/
theorem wlk_list {K : PySem.W.Frag} {ad : Addr} {S : Src} {Hc0 : Hp} (h : ∀ H Hc μ, Same Hc0 Hc → Split K H Hc μ → S.ok μ → ∃ vs, H ad = some (.lst vs) ∧ RepA K Hc vs S.ds) : Wlk K (Itl K ad) S Hc0 := fun i H Hc μ e0 s ok => by
  obtain ⟨vs, hv, ra⟩ := h H Hc μ e0 s ok
  refine ⟨fun d hd => ?_, fun hi => ⟨vs, SqL.of hv, by rw [ra.length]; omega⟩⟩
  obtain ⟨v, h1, h2⟩ := ra.get hd
  refine ⟨⟨vs, v, SqL.of hv, h1⟩, fun x H' hy => ?_⟩
  obtain ⟨rfl, hx⟩ := hy
  have e := hx vs (SqL.of hv)
  rw [h1] at e
  cases e
  exact ⟨Hc, Same.refl _, s, h2⟩
theorem wlk_tup {K : PySem.W.Frag} {ad : Addr} {S : Src} {Hc0 : Hp} {vs : List V} (h : SqT K Hc0 ad vs) (ra : RepA K Hc0 vs S.ds) : Wlk K (Itt K ad) S Hc0 := fun i H Hc μ e0 s ok => by
  have hv : SqT K H ad vs := same_t s.same (same_t e0 h)
  refine ⟨fun d hd => ?_, fun hi => ⟨vs, hv, by rw [ra.length]; omega⟩⟩
  obtain ⟨v, h1, h2⟩ := ra.get hd
  refine ⟨⟨vs, v, hv, h1⟩, fun x H' hy => ?_⟩
  obtain ⟨rfl, hx⟩ := hy
  have e := hx vs hv
  rw [h1] at e
  cases e
  exact ⟨Hc, Same.refl _, s, h2.mono e0⟩
/-- the items of data, of a cell -/
def srcOf (μ : M) : D → Option Src
  | .lst xs => some (.dat xs)
  | .tup xs => some (.dat xs)
  | .raw (.ref p) => match cellL (μ p) with
    | some xs => some (.cel p xs)
    | none => none
  | _ => none
theorem src_refs {μ : M} {p : Addr} {S : Src} (h : srcOf μ (.raw (.ref p)) = some S) : ∃ xs, μ p = some (.lst xs) ∧ S = .cel p xs := by
  have h' : (match cellL (μ p) with | some xs => some (Src.cel p xs) | none => none) = some S := h
  cases e : cellL (μ p) with
  | none => rw [e] at h'; cases h'
  | some xs => rw [e] at h'; exact ⟨xs, cellL_some e, (Option.some.inj h').symm⟩
def OptS (o : Option Src) (R : Src → M → Prop) (μ : M) : Prop := match o with
  | some S => R S μ
  | none => False
theorem OptS.ex {o : Option Src} {R : Src → M → Prop} {μ : M} (h : OptS o R μ) : ∃ S, o = some S ∧ R S μ := by
  cases o with
  | none => exact h.elim
  | some x => exact ⟨x, rfl, h⟩
@[simp] theorem OptS_some {S : Src} {R : Src → M → Prop} {μ : M} : OptS (some S) R μ = R S μ := rfl
def kSeqI (R : Src → M → Prop) (d : D) (μ : M) : Prop := OptS (srcOf μ d) R μ
def dSeqI (te : DTE) (W : XD) (δ : Sl) (μ : M) (R : Src → M → Prop) : Prop := te W δ μ (kSeqI R)
theorem di_seq (he : DE X W e te) : DI X W tg e (dSeqI te) := PI.imp (pi_seq he) fun σ H R ⟨δ, μ, Hc, Rd, Xd, s, rs, h, ri, rx⟩ => by
    refine (show upE X.K W te σ H _ from ⟨δ, μ, Hc, _, Xd, s, rs, h, ?_, rx⟩)
    intro d μ1 h1 v H1 Hc1 e1 s1 r1
    obtain ⟨S, hS, hR⟩ := OptS.ex h1
    cases r1 with
    | @lst ad vs ds ha ra =>
      cases (show some (Src.dat ds) = some S from hS)
      refine ⟨ad, rfl, .inl ⟨⟨vs, SqL.of (s1.same _ _ ha)⟩, ri _ _ hR _ _ _ e1 s1 (wlk_list fun H' Hc' μ' e' s' _ => ⟨vs, s'.same _ _ (e' _ _ ha), ra.mono e'⟩)⟩⟩
    | @tup ad vs ds ha ra =>
      cases (show some (Src.dat ds) = some S from hS)
      refine ⟨ad, rfl, .inr ⟨⟨vs, same_t s1.same ha⟩, ri _ _ hR _ _ _ e1 s1 (wlk_tup ha ra)⟩⟩
    | raw =>
      cases v with
      | ref p =>
        obtain ⟨xs, hp, rfl⟩ := src_refs hS
        obtain ⟨_, o, ho, vs, rfl, ra⟩ := s1.cell p _ hp
        refine ⟨p, rfl, .inl ⟨⟨vs, SqL.of ho⟩, ri _ _ hR _ _ _ e1 s1 (wlk_list fun H' Hc' μ' e' s' hok => ?_)⟩⟩
        obtain ⟨_, o', ho', vs', rfl, ra'⟩ := s'.cell p _ (show μ' p = some (.lst xs) from hok)
        exact ⟨vs', ho', ra'⟩
      | _ => cases hS
    | _ => cases hS
/-! ### range -/
def rangeD (lo : Int) (n : Nat) : List D := (List.range n).map fun i => .int (lo + (i : Nat))
theorem rangeD_get {lo : Int} {n i : Nat} : (rangeD lo n)[i]? = if i < n then some (.int (lo + (i : Nat))) else none := by
  unfold rangeD
  rw [List.getElem?_map]
  by_cases h : i < n
  · rw [List.getElem?_range h, if_pos h]; rfl
  · rw [List.getElem?_eq_none (by rw [List.length_range]; omega), if_neg h]; rfl
theorem rangeD_some {lo : Int} {n i : Nat} {d : D} (h : (rangeD lo n)[i]? = some d) : d = .int (lo + (i : Nat)) ∧ i < n := by
  rw [rangeD_get] at h
  by_cases hi : i < n
  · rw [if_pos hi] at h
    exact ⟨(Option.some.inj h).symm, hi⟩
  · rw [if_neg hi] at h
    cases h
theorem rangeD_len {lo : Int} {n : Nat} : (rangeD lo n).length = n := by unfold rangeD; rw [List.length_map, List.length_range]
theorem wlk_range {K : PySem.W.Frag} {lo : Int} {n : Nat} {Hc0 : Hp} : Wlk K (Itr lo n) (.dat (rangeD lo n)) Hc0 := fun i H Hc μ e0 s ok => by
  refine ⟨fun d hd => ?_, fun hi => by rw [rangeD_len] at hi; exact Nat.le_of_eq hi.symm⟩
  rw [rangeD_get] at hd
  split at hd
  · rename_i hi
    cases hd
    refine ⟨hi, fun x H' hy => ?_⟩
    obtain ⟨rfl, rfl⟩ := hy
    exact ⟨Hc, Same.refl _, s, .int _⟩
  · cases hd
def kRange1 (R : Src → M → Prop) (ds : List D) (μ : M) : Prop := match ds with
  | [.int j] => (-(2 ^ 62) ≤ j ∧ j < 2 ^ 62) ∧ R (.dat (rangeD 0 j.toNat)) μ
  | _ => False
def kRange2 (R : Src → M → Prop) (ds : List D) (μ : M) : Prop := match ds with
  | [.int i, .int j] => (-(2 ^ 62) ≤ i ∧ i < 2 ^ 62 ∧ -(2 ^ 62) ≤ j ∧ j < 2 ^ 62) ∧ R (.dat (rangeD i (j - i).toNat)) μ
  | _ => False
def dRange1 (tr : DTA) (W : XD) (δ : Sl) (μ : M) (R : Src → M → Prop) : Prop := tr W δ μ (kRange1 R)
def dRange2 (tr : DTA) (W : XD) (δ : Sl) (μ : M) (R : Src → M → Prop) : Prop := tr W δ μ (kRange2 R)
theorem di_range1 {p pos : Pos} (hm : X.mg "range" = none) (ha : DA X W [a] tr) (hg : Gl X "range" := by rfl) (hs : starEach [a] X.env = [(false, eval a X.env)] := by rfl) : DI X W tg (.Call (.Name "range" p) [a] [] pos) (dRange1 tr) :=
  PI.imp (pi_range1 hg hm ha hs) fun σ H R ⟨δ, μ, Hc, Rd, Xd, s, rs, h, ri, rx⟩ => ⟨δ, μ, Hc, _, Xd, s, rs, h, fun ds μ1 h1 vs H1 Hc1 e1 s1 r1 => by
    unfold kRange1 at h1
    split at h1
    · obtain ⟨v, rfl, r⟩ := r1.one'
      cases r
      exact ⟨_, rfl, h1.1.1, h1.1.2, ri _ _ h1.2 _ _ _ e1 s1 wlk_range⟩
    · exact h1.elim, rx⟩
theorem di_range2 {p pos : Pos} (hm : X.mg "range" = none) (ha : DA X W [a, b] tr) (hg : Gl X "range" := by rfl) (hs : starEach [a, b] X.env = [(false, eval a X.env), (false, eval b X.env)] := by rfl) (hs2 : starEach [b] X.env = [(false, eval b X.env)] := by rfl) :
    DI X W tg (.Call (.Name "range" p) [a, b] [] pos) (dRange2 tr) :=
  PI.imp (pi_range2 hg hm ha hs hs2) fun σ H R ⟨δ, μ, Hc, Rd, Xd, s, rs, h, ri, rx⟩ => ⟨δ, μ, Hc, _, Xd, s, rs, h, fun ds μ1 h1 vs H1 Hc1 e1 s1 r1 => by
    unfold kRange2 at h1
    split at h1
    · obtain ⟨v, w, rfl, r, r'⟩ := r1.two'
      cases r; cases r'
      exact ⟨_, _, rfl, h1.1, ri _ _ h1.2 _ _ _ e1 s1 wlk_range⟩
    · exact h1.elim, rx⟩
/-! ### for -/
/-- one turn: the target is set, the body runs -/
def turnD (o : Option (List (Nat × D))) (tb : DTS) (E : DEnds) (δ : Sl) (μ : M) : Prop := match o with
  | some cs => tb E (sets cs δ) μ
  | none => False
theorem turnD.ex {o : Option (List (Nat × D))} {tb : DTS} {E : DEnds} {δ : Sl} {μ : M} (h : turnD o tb E δ μ) : ∃ cs, o = some cs ∧ tb E (sets cs δ) μ := by
  cases o with
  | none => exact h.elim
  | some x => exact ⟨x, rfl, h⟩
def loopD (ok : M → Prop) (f : TGD) (tb : DTS) (E : DEnds) : List D → Sl → M → Prop
  | [], δ, μ => ok μ ∧ E.nx δ μ
  | d :: ds, δ, μ => ok μ ∧ turnD (f μ d) tb { E with nx := loopD ok f tb E ds, ct := loopD ok f tb E ds, bk := E.nx } δ μ
/-- by an invariant over the turn's number -/
def loopJ (ok : M → Prop) (f : TGD) (tb : DTS) (E : DEnds) (ds : List D) (δ : Sl) (μ : M) : Prop := ∃ J : Nat → Sl → M → Prop, J 0 δ μ ∧ ∀ i δ μ, J i δ μ → ok μ ∧
  (∀ d, ds[i]? = some d → turnD (f μ d) tb { E with nx := J (i + 1), ct := J (i + 1), bk := E.nx } δ μ) ∧ (i = ds.length → E.nx δ μ)
def kFor (f : TGD) (tb : DTS) (E : DEnds) (δ : Sl) (S : Src) (μ : M) : Prop := loopJ S.ok f tb E S.ds δ μ
def dFor (ti : DTI) (f : TGD) (tb : DTS) (E : DEnds) (δ : Sl) (μ : M) : Prop := ti (E.xc δ) δ μ (kFor f tb E δ)
theorem drop_get {α : Type} {l r : List α} {x : α} {i : Nat} (h : l.drop i = x :: r) : l[i]? = some x ∧ l.drop (i + 1) = r := by
  have hi : i < l.length := by
    rcases Nat.lt_or_ge i l.length with h' | h'
    · exact h'
    · rw [List.drop_eq_nil_of_le h'] at h; cases h
  rw [List.drop_eq_getElem_cons hi] at h
  cases h
  exact ⟨List.getElem?_eq_getElem hi, rfl⟩
theorem drop_of {α : Type} {l : List α} {x : α} {i : Nat} (h : l[i]? = some x) : l.drop i = x :: l.drop (i + 1) := by
  obtain ⟨hi, e⟩ := List.getElem?_eq_some_iff.mp h
  rw [List.drop_eq_getElem_cons hi, e]
/-- turn by turn -/
theorem loop_unroll {ok : M → Prop} {f : TGD} {tb : DTS} {E : DEnds} {ds : List D} {δ : Sl} {μ : M} (h : loopD ok f tb E ds δ μ) : loopJ ok f tb E ds δ μ := by
  refine ⟨fun i δ μ => loopD ok f tb E (ds.drop i) δ μ, by dsimp only; rw [List.drop_zero]; exact h, fun i δ μ hh => ?_⟩
  dsimp only at hh ⊢
  refine ⟨?_, fun d hd => ?_, fun hi => ?_⟩
  · cases e : ds.drop i with
    | nil => rw [e] at hh; exact hh.1
    | cons _ _ => rw [e] at hh; exact hh.1
  · rw [drop_of hd] at hh
    exact hh.2
  · rw [hi, List.drop_length] at hh
    exact hh.2
theorem ds_for {g : TG} {f : TGD} {tb : DTS} (hp : PassesOwn (model X.prog X.w) X.A X.env X.xe) (hi : DI X W tg iter ti) (hg : PG X tg g) (lg : LG X.K g f) (hb : DSs X W body tb) (hc : X.calm = true := by rfl)
    (hs : ∀ x, foldedSetIterable iter X.env x = pure x := by intro _; rfl) : DS X W (.For tg iter body [] pos) (dFor ti f tb) :=
  PS.imp (ps_for hp hc hi hg hb hs) fun D σ H ⟨δ, μ, Hc, Dd, s, rs, h, rt⟩ => ⟨δ, μ, Hc, _, _, s, rs, h, fun S μ1 h1 J H1 Hc1 e1 s1 wk => by
    obtain ⟨N, n0, ns⟩ := h1
    refine ⟨fun i m σ' H' => i + m = S.ds.length ∧ ∃ δ' μ' Hc', Same Hc1 Hc' ∧ Split X.K H' Hc' μ' ∧ RepS X.K Hc' σ' δ' ∧ N i δ' μ', ⟨S.ds.length, by omega, δ, μ1, Hc1, Same.refl _, s1, rs.mono e1, n0⟩, ?_⟩
    rintro i m σ2 H2 ⟨hm, δ2, μ2, Hc2, e2, s2, rs2, l2⟩
    obtain ⟨ok2, l3, l4⟩ := ns i δ2 μ2 l2
    cases hd : S.ds[i]? with
    | none =>
      have hi : i = S.ds.length := by
        have := List.getElem?_eq_none_iff.mp hd
        omega
      refine .inl ⟨(wk i H2 Hc2 μ2 e2 s2 ok2).2 (by omega), ?_⟩
      exact rt.nx _ _ (l4 hi) _ _ _ (e1.trans e2) s2 rs2
    | some d =>
      obtain ⟨go, yl⟩ := (wk i H2 Hc2 μ2 e2 s2 ok2).1 d hd
      refine .inr ⟨go, fun σ' H' => ∃ δ' μ' Hc', Same Hc1 Hc' ∧ Split X.K H' Hc' μ' ∧ RepS X.K Hc' σ' δ' ∧ N (i + 1) δ' μ', fun σ' H' q => ?_, fun x H' hy => ?_⟩
      · have hlt : i < S.ds.length := (List.getElem?_eq_some_iff.mp hd).1
        exact ⟨m - 1, by omega, by omega, q⟩
      · obtain ⟨Hc3, e3, s3, r3⟩ := yl x H' hy
        obtain ⟨cs, hcs, hq⟩ := turnD.ex (l3 d hd)
        refine lg x d H' Hc3 μ2 σ2 _ cs s3 r3 hcs fun bs rb => ?_
        refine ⟨sets cs δ2, μ2, Hc3, _, s3, RepS.sets rb (rs2.mono e3), hq, ?_⟩
        have e13 := (e1.trans e2).trans e3
        refine ⟨?_, rt.rt.mono e13, rt.nx.mono e13, ?_, rt.xc.mono e13⟩
        · intro δ4 μ4 h4 σ4 H4 Hc4 e4 s4 rs4
          exact ⟨δ4, μ4, Hc4, (e2.trans e3).trans e4, s4, rs4, h4⟩
        · intro δ4 μ4 h4 σ4 H4 Hc4 e4 s4 rs4
          exact ⟨δ4, μ4, Hc4, (e2.trans e3).trans e4, s4, rs4, h4⟩, rt.xc.at rs⟩
/-! ### comprehensions -/
abbrev XF : XD := fun _ _ _ => False
def dYes (_ : XD) (_ : Sl) (μ : M) (Q : Bool → M → Prop) : Prop := Q true μ
def kItem (acc : List D) (R : List D → M → Prop) (y : D) (μ : M) : Prop := acc.length < sizeLine ∧ R (acc ++ [y]) μ
def kTest (te : DTE) (δ : Sl) (acc : List D) (R : List D → M → Prop) (b : Bool) (μ : M) : Prop := match b with
  | true => te XF δ μ (kItem acc R)
  | false => R acc μ
theorem kTest_of {te : DTE} {δ : Sl} {acc : List D} {R : List D → M → Prop} {b : Bool} {μ : M} (h1 : b = true → te XF δ μ (kItem acc R)) (h2 : b = false → R acc μ) : kTest te δ acc R b μ := by
  cases b with
  | true => exact h1 rfl
  | false => exact h2 rfl
/-- one turn of a comprehension -/
def turnC (o : Option (List (Nat × D))) (tt : DTT) (te : DTE) (acc : List D) (R : List D → M → Prop) (δ : Sl) (μ : M) : Prop := match o with
  | some cs => tt XF (sets cs δ) μ (kTest te (sets cs δ) acc R)
  | none => False
theorem turnC.ex {o : Option (List (Nat × D))} {tt : DTT} {te : DTE} {acc : List D} {R : List D → M → Prop} {δ : Sl} {μ : M} (h : turnC o tt te acc R δ μ) : ∃ cs, o = some cs ∧ tt XF (sets cs δ) μ (kTest te (sets cs δ) acc R) := by
  cases o with
  | none => exact h.elim
  | some x => exact ⟨x, rfl, h⟩
def compD (ok : M → Prop) (f : TGD) (tt : DTT) (te : DTE) (Q : List D → M → Prop) (δ : Sl) : List D → List D → M → Prop
  | [], acc, μ => ok μ ∧ Q acc μ
  | d :: ds, acc, μ => ok μ ∧ turnC (f μ d) tt te acc (compD ok f tt te Q δ ds) δ μ
def compJ (ok : M → Prop) (f : TGD) (tt : DTT) (te : DTE) (Q : List D → M → Prop) (δ : Sl) (ds : List D) (μ : M) : Prop := ∃ J : Nat → List D → M → Prop, J 0 [] μ ∧ ∀ i acc μ, J i acc μ → ok μ ∧
  (∀ d, ds[i]? = some d → turnC (f μ d) tt te acc (J (i + 1)) δ μ) ∧ (i = ds.length → Q acc μ)
theorem comp_unroll {ok : M → Prop} {f : TGD} {tt : DTT} {te : DTE} {Q : List D → M → Prop} {δ : Sl} {ds : List D} {μ : M} (h : compD ok f tt te Q δ ds [] μ) : compJ ok f tt te Q δ ds μ := by
  refine ⟨fun i acc μ => compD ok f tt te Q δ (ds.drop i) acc μ, by dsimp only; rw [List.drop_zero]; exact h, fun i acc μ hh => ?_⟩
  dsimp only at hh ⊢
  refine ⟨?_, fun d hd => ?_, fun hi => ?_⟩
  · cases e : ds.drop i with
    | nil => rw [e] at hh; exact hh.1
    | cons _ _ => rw [e] at hh; exact hh.1
  · rw [drop_of hd] at hh
    exact hh.2
  · rw [hi, List.drop_length] at hh
    exact hh.2
end

theorem wipe_set {σ : L2.St} {vs : List Nat} {i : Nat} {x : Option V} (h : i ∈ vs) : wipe (σ.set i x) vs = wipe σ vs := by
  apply List.ext_getElem?
  intro j
  have key : ∀ (τ : L2.St) (ws : List Nat) (j : Nat), (wipe τ ws)[j]? = if j ∈ ws then (if j < τ.length then some none else none) else τ[j]? := by
    intro τ ws
    induction ws with
    | nil => intro j; simp [wipe]
    | cons w ws ih =>
      intro j
      unfold wipe
      by_cases e : w = j
      · subst e
        by_cases hl : w < τ.length
        · rw [List.getElem?_set_self (by rw [wipe_length]; exact hl), if_pos List.mem_cons_self, if_pos hl]
        · rw [List.getElem?_eq_none (by rw [List.length_set, wipe_length]; omega), if_pos List.mem_cons_self, if_neg hl]
      · rw [List.getElem?_set_ne e, ih j]
        by_cases hm : j ∈ ws
        · rw [if_pos hm, if_pos (List.mem_cons_of_mem _ hm)]
        · rw [if_neg hm, if_neg (by
            intro z
            rcases List.mem_cons.mp z with z | z
            · exact e z.symm
            · exact hm z)]
  rw [key, key]
  by_cases hm : j ∈ vs
  · rw [if_pos hm, if_pos hm, List.length_set]
  · rw [if_neg hm, if_neg hm, List.getElem?_set_ne]
    intro z
    subst z
    exact hm h
theorem wipe_sets {vs : List Nat} : ∀ {bs : List (Nat × V)} {σ : L2.St}, (∀ b ∈ bs, b.1 ∈ vs) → wipe (sets bs σ) vs = wipe σ vs
  | [], _, _ => rfl
  | b :: bs, σ, h => by
    show wipe (sets bs (σ.set b.1 (some b.2))) vs = wipe σ vs
    rw [wipe_sets fun c hc => h c (List.mem_cons_of_mem _ hc), wipe_set (h b List.mem_cons_self)]
/-- slots forgotten -/
def wipeD (δ : Sl) : List Nat → Sl
  | [] => δ
  | v :: vs => (wipeD δ vs).set v none
theorem RepS.wipe {K : PySem.W.Frag} {H : Hp} {σ : L2.St} {δ : Sl} (r : RepS K H σ δ) : ∀ vs : List Nat, RepS K H (L2.wipe σ vs) (wipeD δ vs)
  | [] => r
  | v :: vs => (RepS.wipe r vs).unset v none
/-- [e for x in xs if t]: data; vs the slots of the block's own names -/
def kLstD (Q : QD) (acc : List D) (μ : M) : Prop := Q (.lst acc) μ
def kNewC (Q : QD) (acc : List D) (μ : M) : Prop := NewC acc μ Q
def kLc (f : TGD) (tt : DTT) (te : DTE) (vs : List Nat) (Q : List D → M → Prop) (δ : Sl) (S : Src) (μ : M) : Prop := compJ S.ok f tt te Q (wipeD δ vs) S.ds μ
def dLc (ti : DTI) (f : TGD) (tt : DTT) (te : DTE) (vs : List Nat) (W : XD) (δ : Sl) (μ : M) (Q : QD) : Prop := ti W δ μ (kLc f tt te vs (kLstD Q) δ)
/-- .. a cell -/
def dLcC (ti : DTI) (f : TGD) (tt : DTT) (te : DTE) (vs : List Nat) (W : XD) (δ : Sl) (μ : M) (Q : QD) : Prop := ti W δ μ (kLc f tt te vs (kNewC Q) δ)
def SlotsIn (f : TGD) (vs : List Nat) : Prop := ∀ μ d cs, f μ d = some cs → ∀ c ∈ cs, c.1 ∈ vs
def SlotsIns (f : TGDs) (vs : List Nat) : Prop := ∀ μ d cs, f μ d = some cs → ∀ c ∈ cs, c.1 ∈ vs
theorem si_name {i : Nat} {vs : List Nat} (h : i ∈ vs) : SlotsIn (tgN i) vs := fun μ d cs e c hc => by
  cases e
  rcases List.mem_cons.mp hc with rfl | z
  · exact h
  · cases z
theorem si_nil {vs : List Nat} : SlotsIns tgNil vs := fun μ ds cs e c hc => by
  cases ds with
  | nil => cases e; cases hc
  | cons _ _ => cases e
theorem si_cons {f : TGD} {fs : TGDs} {vs : List Nat} (h1 : SlotsIn f vs) (h2 : SlotsIns fs vs) : SlotsIns (tgCons f fs) vs := fun μ ds cs e c hc => by
  cases ds with
  | nil => cases e
  | cons d ds =>
    have h' : ((f μ d).bind fun b => (fs μ ds).map (b ++ ·)) = some cs := e
    cases e1 : f μ d with
    | none => rw [e1] at h'; cases h'
    | some b1 =>
      rw [e1] at h'
      cases e2 : fs μ ds with
      | none => rw [Option.bind_some, e2] at h'; cases h'
      | some b2 =>
        rw [Option.bind_some, e2] at h'
        cases h'
        rcases List.mem_append.mp hc with z | z
        · exact h1 μ d b1 e1 c z
        · exact h2 μ ds b2 e2 c z
theorem si_tup {fs : TGDs} {vs : List Nat} (h : SlotsIns fs vs) : SlotsIn (tgT fs) vs := fun μ d cs e c hc => by
  unfold tgT at e
  split at e
  · exact h _ _ _ e c hc
  · cases e
end DL
set_option Elab.async false
set_option linter.all false
set_option maxRecDepth 100000
set_option maxHeartbeats 2000000
/-! The data layer: zip and enumerate over lists and tuples. -/
namespace DL
open PySem PySem.Spec PyProof.Rows L2

/-- a list or a tuple -/
inductive Kd where
  | l | t
def SqK (K : PySem.W.Frag) (k : Kd) (H : Hp) (a : Addr) (xs : List V) : Prop := match k with
  | .l => SqL K H a xs
  | .t => SqT K H a xs
def IterK (k : Kd) (h : Heap) (it a : Addr) (i : Nat) : Prop := match k with
  | .l => h.IsListIter it a i
  | .t => h.IsTupleIter it a i
def SeqK (k : Kd) (h : Heap) (a : Addr) (items : Array Value) : Prop := match k with
  | .l => h.IsList a items
  | .t => h.IsTuple a items
def objK (k : Kd) (a : Addr) : Obj := match k with
  | .l => { cls := .type "list_iterator", data := .fields #[.ref a, .int 0 0] }
  | .t => { cls := .type "tuple_iterator", data := .fields #[.ref a, .int 0 0] }
theorem begK (k : Kd) (a : Addr) (items : Array Value) : Begins (.ref a) (objK k a) fun h => SeqK k h a items := by
  cases k
  · exact begins_list a items
  · exact begins_tuple a items
theorem drawK {prog : Program} {w : World} {A : Around} (hh : A.handled = none) (k : Kd) (it a : Addr) (hne : a ≠ it) (items : Array Value) :
    Draws prog w A it [it, a] items.size (fun i v => items[i]? = some v) (fun i h => IterK k h it a i ∧ SeqK k h a items) := by
  cases k
  · exact Draws.list hh it a hne items
  · exact Draws.tuple hh it a hne items
theorem IterK.at {k : Kd} {h h' : Heap} {it a : Addr} {i : Nat} (x : IterK k h it a i) (e : ∀ o, h.get? it = some o → h'.get? it = some o) : IterK k h' it a i := by
  cases k
  · exact (show h.IsListIter it a i from x).at e
  · exact (show h.IsTupleIter it a i from x).at e
theorem IterK.obj {k : Kd} {h : Heap} {it a : Addr} {i : Nat} (x : IterK k h it a i) : ∃ o, h.get? it = some o ∧ ∀ v, o.data ≠ .cell v := by
  cases k
  · obtain ⟨o, e, _, d⟩ := (show h.IsListIter it a i from x)
    exact ⟨o, e, fun v q => by rw [d] at q; cases q⟩
  · obtain ⟨o, e, _, d⟩ := (show h.IsTupleIter it a i from x)
    exact ⟨o, e, fun v q => by rw [d] at q; cases q⟩
theorem IterK.first {k : Kd} {h : Heap} {it a : Addr} (e : h.get? it = some (objK k a)) : IterK k h it a 0 := by
  cases k
  · exact ⟨_, e, rfl, rfl⟩
  · exact ⟨_, e, rfl, rfl⟩
theorem SeqK.lt {k : Kd} {h : Heap} {a : Addr} {items : Array Value} (x : SeqK k h a items) : a < h.objs.size := by
  cases k
  · obtain ⟨o, e, _⟩ := (show h.IsList a items from x)
    exact Heap.lt_size e
  · obtain ⟨o, e, _⟩ := (show h.IsTuple a items from x)
    exact Heap.lt_size e
section
variable {X : Cx} {pins : List (Addr × Obj)} {σ : L2.St} {H : Hp} {s : Shared} {a b : Addr} {xs ys : List V} {k : Kd}
theorem seqK (I : Inv X pins σ H s) (h : SqK X.K k H a xs) : ∃ its : List Value, Vals xs its ∧ SeqK k s.heap a its.toArray ∧ xs.length ≤ sizeLine := by
  cases k
  · obtain ⟨its, r, p, z⟩ := I.list h
    exact ⟨its, r, p.isList, z⟩
  · obtain ⟨its, r, p, z⟩ := I.tuple h
    exact ⟨its, r, p, z⟩
theorem seqK_inj (I : Inv X pins σ H s) (h : SqK X.K k H a xs) (h' : SqK X.K k H a ys) : xs = ys := by
  cases k
  · exact I.list_inj h h'
  · exact I.tuple_inj h h'
end

/-- a turning iterator that lays tuples, from what the library says of it at each turn -/
theorem turn_of {P : Program} {w : World} {K : PySem.W.Frag} {elts : List Expr} {kk : Nat} {tpos : Pos} {J : It} {fp : List Addr} {z : Addr} {tn : Nat → Heap → Prop} (mem : z ∈ fp)
    (obj : ∀ i h, tn i h → ∀ b ∈ fp, ∃ o, h.get? b = some o ∧ ∀ v, o.data ≠ .cell v)
    (keep : ∀ i h h', tn i h → (∀ b ∈ fp, ∀ o, h.get? b = some o → h'.get? b = some o) → tn i h')
    (step : ∀ (X : Cx), X.prog = P → X.w = w → X.K = K → X.calm = true → ∀ (i : Nat) (pins : List (Addr × Obj)) (s : Shared) (σ : L2.St) (H : Hp), Inv X pins σ H s → tn i s.heap → J.go i H →
      ∃ fp' wr n Pt St Mid, WalksT P w X.A z fp' wr n Pt St Mid ∧ i < n ∧ St i s.heap ∧ (∀ b ∈ wr, b ∈ fp) ∧ (∀ h', St (i + 1) h' → tn (i + 1) h') ∧
        ∀ vals, Pt i vals → ∃ xs : List V, Vals xs vals.toList ∧ xs.length ≤ sizeLine ∧ ∀ T, H T = none → J.yld i H (.ref T) (upd H T (.tup xs)))
    (stop : ∀ (X : Cx), X.prog = P → X.w = w → X.K = K → X.calm = true → ∀ (i : Nat) (pins : List (Addr × Obj)) (s : Shared) (σ : L2.St) (H : Hp), Inv X pins σ H s → tn i s.heap → J.stop i H →
      ∃ fp' wr n Pt St Mid, WalksT P w X.A z fp' wr n Pt St Mid ∧ i = n ∧ St i s.heap ∧ (∀ b ∈ wr, b ∈ fp))
    (self : ∀ (A : Around) (i : Nat) (s : Shared) (Q : Value → Shared → Prop) (E : Value → Shared → Prop), tn i s.heap → Q (.ref z) s → wpAny (model P w) A (pyIter (.ref z)) Q E s) :
    Turn P w K (.Tuple elts kk tpos) J fp z tn where
  mem := mem
  obj := obj
  keep := keep
  item := by
    intro X hP hw hK hc i pins s σ H E I hf st hg
    obtain ⟨fp', wr, n, Pt, St, Mid, W, hi, hst, hsub, hnx, hy⟩ := step X hP hw hK hc i pins s σ H I st hg
    refine W.item i s _ E hi hst fun T vals h' tk hP' hT hIs hM hk => ?_
    refine ⟨_, rfl, W.go elts kk tpos i T { s with heap := h', toks := tk } _ E hM fun h'' hst' hk' => ?_⟩
    obtain ⟨xs, rv, hl, hyl⟩ := hy vals hP'
    have hap := W.apart i T h' hM
    have hT2 : h''.IsTuple T vals := hIs.at fun o e => hk' T o hap e
    have new : ObjOk X.prog X.w (upd H T (.tup xs)) h'' T (.tup xs) := ⟨hl, vals.toList, rv, hT2⟩
    have I1 : Inv X pins σ (upd H T (.tup xs)) { s with heap := h'', toks := tk } :=
      I.turnedNew (t' := tk) (ch := fp) (fun b o hb e => hk' b o (fun q => hb (hsub b q)) (hk b o (fun q => hb (hsub b q)) e)) hf hT new
    refine ⟨.ref T, _, I1, rfl, hyl T (I.hok.fresh hT), hnx h'' hst', fun b hb => ?_⟩
    obtain ⟨o, e, _⟩ := obj i s.heap st b hb
    rw [upd_ne (Nat.ne_of_lt (Nat.lt_of_lt_of_le (Heap.lt_size e) hT))]
    exact (hf b hb).1
  done := by
    intro X hP hw hK hc i pins s σ H E I hf st hg
    obtain ⟨fp', wr, n, Pt, St, Mid, W, hi, hst, hsub⟩ := stop X hP hw hK hc i pins s σ H I st hg
    subst hi
    exact W.done s _ E hst fun h' tk hk => ⟨rfl, I.turnedL (t' := tk) (ch := fp) (fun b o hb e => hk b o (fun q => hb (hsub b q)) e) hf⟩
  self := self

/-! ### enumerate -/
def ItE (K : PySem.W.Frag) (k : Kd) (a : Addr) (k₀ : Int) : It :=
  ⟨fun i H => ∃ (xs : List V) (x : V), SqK K k H a xs ∧ xs[i]? = some x,
    fun i H v H' => ∃ T x, v = .ref T ∧ H T = none ∧ H' = upd H T (.tup [.int (k₀ + (i : Nat)), x]) ∧ ∀ xs, SqK K k H a xs → xs[i]? = some x,
    fun i H => ∃ xs : List V, SqK K k H a xs ∧ i = xs.length⟩
theorem turn_enumK {P : Program} {w : World} {K : PySem.W.Frag} {elts : List Expr} {kk : Nat} {tpos : Pos} {k : Kd} {a e it : Addr} {k₀ : Int} (hei : e ≠ it) (hea : e ≠ a) (hai : a ≠ it) :
    Turn P w K (.Tuple elts kk tpos) (ItE K k a k₀) [e, it] e (fun i h => (∃ old, IsEnum h e it (k₀ + (i : Int)) old) ∧ IterK k h it a i) := by
  refine turn_of (by simp) ?_ ?_ ?_ ?_ ?_
  · intro i h st b hb
    obtain ⟨⟨old, he⟩, hi⟩ := st
    have e' : b = e ∨ b = it := by simpa using hb
    rcases e' with z | z
    · rw [z]; exact ⟨_, he, fun v q => nomatch q⟩
    · rw [z]; exact hi.obj
  · intro i h h' st kp
    obtain ⟨⟨old, he⟩, hi⟩ := st
    exact ⟨⟨old, kp e (by simp) _ he⟩, hi.at fun o q => kp it (by simp) o q⟩
  · intro X hP hw hK hc i pins s σ H I st hg
    subst hP hw hK
    obtain ⟨he, hi⟩ := st
    obtain ⟨xs, x, hq, hx⟩ := hg
    obtain ⟨its, rv, p, hz⟩ := seqK I hq
    have hl := rv.length
    have hlt : i < xs.length := (List.getElem?_eq_some_iff.mp hx).1
    refine ⟨_, _, _, _, _, _, WalksT.enumFrom k₀ (drawK (show X.A.in1.handled = none from I.ok.hd hc) k it a hai its.toArray) e hei (by simp [hei, hea]) (by simp), by rw [List.size_toArray]; omega, ⟨he, hi, p⟩, fun b hb => hb, fun h' st' => ⟨st'.1, st'.2.1⟩, ?_⟩
    rintro vals ⟨t, u, hu, rfl⟩
    obtain ⟨u', hu', ru⟩ := rv.get hx
    have eu : its[i]? = some u := by simpa using hu
    rw [eu] at hu'
    cases hu'
    exact ⟨[.int (k₀ + (i : Nat)), x], .cons ⟨_, rfl⟩ (.cons ru .nil), by show 2 ≤ sizeLine; decide, fun T hT => ⟨T, x, rfl, hT, rfl, fun ys hy => by rw [seqK_inj I hy hq]; exact hx⟩⟩
  · intro X hP hw hK hc i pins s σ H I st hg
    subst hP hw hK
    obtain ⟨he, hi⟩ := st
    obtain ⟨xs, hq, hx⟩ := hg
    obtain ⟨its, rv, p, hz⟩ := seqK I hq
    have hl := rv.length
    exact ⟨_, _, _, _, _, _, WalksT.enumFrom k₀ (drawK (show X.A.in1.handled = none from I.ok.hd hc) k it a hai its.toArray) e hei (by simp [hei, hea]) (by simp), by rw [List.size_toArray]; omega, ⟨he, hi, p⟩, fun b hb => hb⟩
  · intro A i s Q E st h
    obtain ⟨⟨_, he⟩, _⟩ := st
    exact wpAny_pyIter_enum he h
/-- the object of enumerate(..) at its begin -/
def enumAt (it : Addr) : Obj := { cls := .type "enumerate", data := .fields #[.none, .bool false, .ref it, rawInt 0, .none, .none] }
/-- enumerate of one thing lays the thing's iterator and, behind it, its own object -/
theorem enumNew {v : Value} {o : Obj} {H : Heap → Prop} (B : Begins v o H) :
    Meets (Builtin.«enumerate.__new__» ⟨[.type "enumerate", v], []⟩) (fun _ R s => H s.heap ∧ R (.ok (.ret (.ref (s.heap.push o).objs.size))) { s with heap := (s.heap.push o).push (enumAt s.heap.objs.size) }) := by
  refine .of_wp fun prog w A R st given => ?_
  have exact' := sub_enumerate
  have begun : ∀ {A' : Around} {X : Value → Shared → Prop} {Q : Value → Shared → Prop}, Q (.ref st.heap.objs.size) { st with heap := st.heap.push o } → wpAny (model prog w) A' (pyIter v) Q X st := fun q => B.iter prog w _ _ st _ given.1 q
  have fin := given.2
  wp_walk using begun
  refine wpAny_stack_any fun frames => wpAny_pure ?_
  split
  · rename_i cl _ _ _ _ _
    cases (cl == Value.type "enumerate") <;> (wp_walk using begun; exact ⟨_, rfl, fin⟩)
  · wp_walk using begun
    exact ⟨_, rfl, fin⟩
theorem enum_begins1 {prog : Program} {w : World} {A : Around} {E : Value → Shared → Prop} {s : Shared} {v : Value} {o : Obj} {H : Heap → Prop} {Q : Value → Shared → Prop} (B : Begins v o H) (given : H s.heap)
    (goal : ∀ h', IsEnum h' (s.heap.objs.size + 1) s.heap.objs.size 0 .none → h'.get? s.heap.objs.size = some o → h'.objs.size = s.heap.objs.size + 2 → (∀ c u, s.heap.get? c = some u → h'.get? c = some u) → Q (.ref (s.heap.objs.size + 1)) { s with heap := h' }) :
    wpAny (model prog w) A (call (.type "enumerate") [v]) Q E s := by
  have one : (s.heap.push o).objs.size = s.heap.objs.size + 1 := Heap.size_push ..
  have made : ((s.heap.push o).push (enumAt s.heap.objs.size)).get? (s.heap.objs.size + 1) = some (enumAt s.heap.objs.size) := by
    rw [← one]
    exact Heap.get?_push_size _ rfl
  have told : Q (.ref (s.heap.objs.size + 1)) { s with heap := (s.heap.push o).push (enumAt s.heap.objs.size) } :=
    goal _ made (Heap.get?_push_of_some _ (Heap.get?_push_size _ B.free)) (by rw [Heap.size_push, one]) fun c u e => Heap.get?_push_of_some _ (Heap.get?_push_of_some _ e)
  rw [← one] at made told
  exact callType_new F.called_enumerate (by decide) (F.typeCall_enumerate_1 _) (F.newCall_enumerate_1 _) (fun obj => F.args_object_init_2 obj _) F.entry_enumerate_new (enumNew B) ⟨given, ⟨_, made, rfl⟩, told⟩
/-- addresses that are all new may be a walk's own -/
abbrev ownNew {X : Cx} {pins : List (Addr × Obj)} {σ : L2.St} {H : Hp} {s : Shared} {fp : List Addr} (I : Inv X pins σ H s) (new : ∀ c ∈ fp, s.heap.objs.size ≤ c) {c : Addr} (hc : c ∈ fp) := I.fpOk (new c hc) (I.hok.fresh (new c hc))
theorem newAll {n : Nat} {l : List Nat} : ∀ c ∈ l.map (n + ·), n ≤ c := fun c h => by obtain ⟨k, _, rfl⟩ := List.mem_map.mp h; exact Nat.le_add_right n k
def iEnumK (K : PySem.W.Frag) (ta : TA) : TI := fun σ H R => ta σ H fun vs H1 => ∃ k a xs, vs = [.ref a] ∧ SqK K k H1 a xs ∧ R (ItE K k a 0) H1
theorem pi_enumK {X : Cx} {e : Expr} {ta : TA} {p pos tpos : Pos} {elts : List Expr} {kk : Nat} (hg : Gl X "enumerate") (hm : X.mg "enumerate" = none) (ha : PA X [e] ta) (hs : starEach [e] X.env = [(false, eval e X.env)] := by rfl) :
    PI X (.Tuple elts kk tpos) (.Call (.Name "enumerate" p) [e] [] pos) (iEnumK X.K ta) := by
  refine ⟨fun pins s σ H R I h => ?_⟩
  refine Call_ (ld_blt I hg hm boot_enumerate (PyProof.Rows.callWith_type1 (thn (ha.run pos pins s σ H _ I h) fun us s1 ⟨vs, H1, I1, r1, q1⟩ => ?_) hs rfl))
  obtain ⟨k, a, xs, ex, hq, q⟩ := q1
  subst ex
  cases r1 with
  | cons r rr =>
    cases rr
    cases r
    obtain ⟨its, rv, p', hz⟩ := seqK I1 hq
    have la := p'.lt
    refine enum_begins1 (begK k a its.toArray) p' fun h' he hit hsz hk => wpAny_pyIter_enum he ?_
    refine ⟨s1.heap.objs.size + 1, [s1.heap.objs.size + 1, s1.heap.objs.size], _, _, H1, rfl, I1.kept (t' := s1.toks) hk, turn_enumK (k := k) (a := a) (k₀ := 0) (Nat.succ_ne_self _) (Nat.ne_of_gt (Nat.lt_succ_of_lt la)) (Nat.ne_of_lt la), ⟨⟨.none, by simpa using he⟩, .first hit⟩, fun b hb => ownNew I1 (newAll (l := [1, 0])) hb, q⟩

/-! ### zip of two -/
def ItZ2 (K : PySem.W.Frag) (k1 k2 : Kd) (a b : Addr) : It :=
  ⟨fun i H => ∃ (xs ys : List V) (x y : V), SqK K k1 H a xs ∧ SqK K k2 H b ys ∧ xs[i]? = some x ∧ ys[i]? = some y,
    fun i H v H' => ∃ T x y, v = .ref T ∧ H T = none ∧ H' = upd H T (.tup [x, y]) ∧ (∀ xs, SqK K k1 H a xs → xs[i]? = some x) ∧ ∀ ys, SqK K k2 H b ys → ys[i]? = some y,
    fun i H => ∃ xs ys : List V, SqK K k1 H a xs ∧ SqK K k2 H b ys ∧ i = min xs.length ys.length⟩
theorem turn_zipK2 {P : Program} {w : World} {K : PySem.W.Frag} {elts : List Expr} {kk : Nat} {tpos : Pos} {k1 k2 : Kd} {a b z TI TO i1 i2 : Addr} (D : ZipSep2 z TI TO i1 i2 [i1, a] [i2, b]) (h1 : a ≠ i1) (h2 : b ≠ i2) :
    Turn P w K (.Tuple elts kk tpos) (ItZ2 K k1 k2 a b) [z, TI, TO, i1, i2] z (fun i h => IsZip h z TI TO .none ∧ IsTupOf2 h TI (.ref i1) (.ref i2) ∧ (∃ x y, IsTupOf2 h TO x y) ∧ IterK k1 h i1 a i ∧ IterK k2 h i2 b i) := by
  refine turn_of (by simp) ?_ ?_ ?_ ?_ ?_
  · intro i h st c hc
    obtain ⟨hz, hTI, ⟨x, y, hTO⟩, e1, e2⟩ := st
    have e' : c = z ∨ c = TI ∨ c = TO ∨ c = i1 ∨ c = i2 := by simpa using hc
    rcases e' with q | q | q | q | q
    · rw [q]; exact ⟨_, hz, fun v q => nomatch q⟩
    · rw [q]; exact ⟨_, hTI, fun v q => nomatch q⟩
    · rw [q]; exact ⟨_, hTO, fun v q => nomatch q⟩
    · rw [q]; exact e1.obj
    · rw [q]; exact e2.obj
  · intro i h h' st kp
    obtain ⟨hz, hTI, ⟨x, y, hTO⟩, e1, e2⟩ := st
    exact ⟨kp z (by simp) _ hz, kp TI (by simp) _ hTI, ⟨x, y, kp TO (by simp) _ hTO⟩, e1.at fun o q => kp i1 (by simp) o q, e2.at fun o q => kp i2 (by simp) o q⟩
  · intro X hP hw hK hc i pins s σ H I st hg
    subst hP hw hK
    obtain ⟨hz, hTI, hTO, e1, e2⟩ := st
    obtain ⟨xs, ys, x, y, hqx, hqy, hx, hy⟩ := hg
    obtain ⟨its1, rv1, p1, hz1⟩ := seqK I hqx
    obtain ⟨its2, rv2, p2, hz2⟩ := seqK I hqy
    have l1 := rv1.length
    have l2 := rv2.length
    have lt1 : i < xs.length := (List.getElem?_eq_some_iff.mp hx).1
    have lt2 : i < ys.length := (List.getElem?_eq_some_iff.mp hy).1
    have hh : X.A.in1.handled = none := I.ok.hd hc
    refine ⟨_, _, _, _, _, _, WalksT.zipD2 D (drawK hh k1 i1 a h1 its1.toArray) (drawK hh k2 i2 b h2 its2.toArray), by rw [List.size_toArray, List.size_toArray]; omega, ⟨hz, hTI, hTO, ⟨e1, p1⟩, ⟨e2, p2⟩⟩,
      fun c hc' => ?_, fun h' st' => ⟨st'.1, st'.2.1, st'.2.2.1, st'.2.2.2.1.1, st'.2.2.2.2.1⟩, ?_⟩
    · have e' : c = z ∨ c = TO ∨ c = i1 ∨ c = i2 := by simpa using hc'
      rcases e' with q | q | q | q <;> simp [q]
    · rintro vals ⟨u1, u2, hu1, hu2, rfl⟩
      obtain ⟨v1, hv1, rv1'⟩ := rv1.get hx
      obtain ⟨v2, hv2, rv2'⟩ := rv2.get hy
      have f1 : its1[i]? = some u1 := by simpa using hu1
      have f2 : its2[i]? = some u2 := by simpa using hu2
      rw [f1] at hv1
      rw [f2] at hv2
      cases hv1
      cases hv2
      exact ⟨[x, y], .cons rv1' (.cons rv2' .nil), by show 2 ≤ sizeLine; decide, fun T hT => ⟨T, x, y, rfl, hT, rfl, fun l hl => by rw [seqK_inj I hl hqx]; exact hx, fun l hl => by rw [seqK_inj I hl hqy]; exact hy⟩⟩
  · intro X hP hw hK hc i pins s σ H I st hg
    subst hP hw hK
    obtain ⟨hz, hTI, hTO, e1, e2⟩ := st
    obtain ⟨xs, ys, hqx, hqy, hi⟩ := hg
    obtain ⟨its1, rv1, p1, hz1⟩ := seqK I hqx
    obtain ⟨its2, rv2, p2, hz2⟩ := seqK I hqy
    have l1 := rv1.length
    have l2 := rv2.length
    have hh : X.A.in1.handled = none := I.ok.hd hc
    refine ⟨_, _, _, _, _, _, WalksT.zipD2 D (drawK hh k1 i1 a h1 its1.toArray) (drawK hh k2 i2 b h2 its2.toArray), by rw [List.size_toArray, List.size_toArray, ← l1, ← l2]; exact hi, ⟨hz, hTI, hTO, ⟨e1, p1⟩, ⟨e2, p2⟩⟩, fun c hc' => ?_⟩
    have e' : c = z ∨ c = TO ∨ c = i1 ∨ c = i2 := by simpa using hc'
    rcases e' with q | q | q | q <;> simp [q]
  · intro A i s Q E st h
    exact wpAny_pyIter_zip st.1 h
def iZip2 (K : PySem.W.Frag) (ta : TA) : TI := fun σ H R => ta σ H fun vs H1 => ∃ k1 k2 a b xs ys, vs = [.ref a, .ref b] ∧ SqK K k1 H1 a xs ∧ SqK K k2 H1 b ys ∧ R (ItZ2 K k1 k2 a b) H1
theorem pi_zip2 {X : Cx} {e e2 : Expr} {ta : TA} {p pos tpos : Pos} {elts : List Expr} {kk : Nat} (hg : Gl X "zip") (hm : X.mg "zip" = none) (ha : PA X [e, e2] ta)
    (hs : starEach [e, e2] X.env = (false, eval e X.env) :: starEach [e2] X.env := by rfl) (hpl : (backTo pos (starEach [e2] X.env)).any (·.1) = false := by rfl) :
    PI X (.Tuple elts kk tpos) (.Call (.Name "zip" p) [e, e2] [] pos) (iZip2 X.K ta) := by
  refine ⟨fun pins s σ H R I h => ?_⟩
  refine Call_ (ld_blt I hg hm PyProof.Rows.boot_zip (PyProof.Rows.callWith_type1 (thn (ha.run pos pins s σ H _ I h) fun us s1 ⟨vs, H1, I1, r1, q1⟩ => ?_) hs hpl))
  obtain ⟨k1, k2, a, b, xs, ys, ex, hqx, hqy, q⟩ := q1
  subst ex
  cases r1 with
  | cons r rr =>
    cases rr with
    | cons r' rr =>
      cases rr
      cases r
      cases r'
      obtain ⟨its1, rv1, p1, _⟩ := seqK I1 hqx
      obtain ⟨its2, rv2, p2, _⟩ := seqK I1 hqy
      have la := p1.lt
      have lb := p2.lt
      refine zip_begins2 (begK k1 a its1.toArray) (begK k2 b its2.toArray) p1 p2 fun h' hz hTI hTO h1 h2 hsz hk => wpAny_pyIter_zip hz ?_
      refine ⟨s1.heap.objs.size + 4, [s1.heap.objs.size + 4, s1.heap.objs.size + 2, s1.heap.objs.size + 3, s1.heap.objs.size, s1.heap.objs.size + 1], _, _, H1, rfl, I1.kept (t' := s1.toks) hk,
        turn_zipK2 (k1 := k1) (k2 := k2) (zip_sep2 (fp1 := [a]) (fp2 := [b]) (fun c hc => by rw [List.mem_singleton.mp hc]; exact la) (fun c hc => by rw [List.mem_singleton.mp hc]; exact lb)) (Nat.ne_of_lt la) (Nat.ne_of_lt (Nat.lt_succ_of_lt lb)), ⟨hz, hTI, ⟨_, _, hTO⟩, .first h1, .first h2⟩, fun c hcm => ownNew I1 (newAll (l := [4, 2, 3, 0, 1])) hcm, q⟩

/-! ### zip of three -/
def ItZ3 (K : PySem.W.Frag) (k1 k2 k3 : Kd) (a b c : Addr) : It :=
  ⟨fun i H => ∃ (xs ys zs : List V) (x y z : V), SqK K k1 H a xs ∧ SqK K k2 H b ys ∧ SqK K k3 H c zs ∧ xs[i]? = some x ∧ ys[i]? = some y ∧ zs[i]? = some z,
    fun i H v H' => ∃ T x y z, v = .ref T ∧ H T = none ∧ H' = upd H T (.tup [x, y, z]) ∧ (∀ xs, SqK K k1 H a xs → xs[i]? = some x) ∧ (∀ ys, SqK K k2 H b ys → ys[i]? = some y) ∧ ∀ zs, SqK K k3 H c zs → zs[i]? = some z,
    fun i H => ∃ xs ys zs : List V, SqK K k1 H a xs ∧ SqK K k2 H b ys ∧ SqK K k3 H c zs ∧ i = min (min xs.length ys.length) zs.length⟩
theorem turn_zipK3 {P : Program} {w : World} {K : PySem.W.Frag} {elts : List Expr} {kk : Nat} {tpos : Pos} {k1 k2 k3 : Kd} {a b c z TI TO i1 i2 i3 : Addr} (D : ZipSep3 z TI TO i1 i2 i3 [i1, a] [i2, b] [i3, c]) (h1 : a ≠ i1) (h2 : b ≠ i2) (h3 : c ≠ i3) :
    Turn P w K (.Tuple elts kk tpos) (ItZ3 K k1 k2 k3 a b c) [z, TI, TO, i1, i2, i3] z (fun i h => IsZip h z TI TO .none ∧ IsTupOf3 h TI (.ref i1) (.ref i2) (.ref i3) ∧ (∃ x y u, IsTupOf3 h TO x y u) ∧ IterK k1 h i1 a i ∧ IterK k2 h i2 b i ∧ IterK k3 h i3 c i) := by
  refine turn_of (by simp) ?_ ?_ ?_ ?_ ?_
  · intro i h st c hc
    obtain ⟨hz, hTI, ⟨x, y, u, hTO⟩, e1, e2, e3⟩ := st
    have e' : c = z ∨ c = TI ∨ c = TO ∨ c = i1 ∨ c = i2 ∨ c = i3 := by simpa using hc
    rcases e' with q | q | q | q | q | q
    · rw [q]; exact ⟨_, hz, fun v q => nomatch q⟩
    · rw [q]; exact ⟨_, hTI, fun v q => nomatch q⟩
    · rw [q]; exact ⟨_, hTO, fun v q => nomatch q⟩
    · rw [q]; exact e1.obj
    · rw [q]; exact e2.obj
    · rw [q]; exact e3.obj
  · intro i h h' st kp
    obtain ⟨hz, hTI, ⟨x, y, u, hTO⟩, e1, e2, e3⟩ := st
    exact ⟨kp z (by simp) _ hz, kp TI (by simp) _ hTI, ⟨x, y, u, kp TO (by simp) _ hTO⟩, e1.at fun o q => kp i1 (by simp) o q, e2.at fun o q => kp i2 (by simp) o q, e3.at fun o q => kp i3 (by simp) o q⟩
  · intro X hP hw hK hc i pins s σ H I st hg
    subst hP hw hK
    obtain ⟨hz, hTI, hTO, e1, e2, e3⟩ := st
    obtain ⟨xs, ys, zs, x, y, u, hqx, hqy, hqz, hx, hy, hu⟩ := hg
    obtain ⟨its1, rv1, p1, hz1⟩ := seqK I hqx
    obtain ⟨its2, rv2, p2, hz2⟩ := seqK I hqy
    obtain ⟨its3, rv3, p3, hz3⟩ := seqK I hqz
    have l1 := rv1.length
    have l2 := rv2.length
    have l3 := rv3.length
    have lt1 : i < xs.length := (List.getElem?_eq_some_iff.mp hx).1
    have lt2 : i < ys.length := (List.getElem?_eq_some_iff.mp hy).1
    have lt3 : i < zs.length := (List.getElem?_eq_some_iff.mp hu).1
    have hh : X.A.in1.handled = none := I.ok.hd hc
    refine ⟨_, _, _, _, _, _, WalksT.zipD3 D (drawK hh k1 i1 a h1 its1.toArray) (drawK hh k2 i2 b h2 its2.toArray) (drawK hh k3 i3 c h3 its3.toArray), by rw [List.size_toArray, List.size_toArray, List.size_toArray]; omega, ⟨hz, hTI, hTO, ⟨e1, p1⟩, ⟨e2, p2⟩, ⟨e3, p3⟩⟩,
      fun c hc' => ?_, fun h' st' => ⟨st'.1, st'.2.1, st'.2.2.1, st'.2.2.2.1.1, st'.2.2.2.2.1.1, st'.2.2.2.2.2.1⟩, ?_⟩
    · have e' : c = z ∨ c = TO ∨ c = i1 ∨ c = i2 ∨ c = i3 := by simpa using hc'
      rcases e' with q | q | q | q | q <;> simp [q]
    · rintro vals ⟨u1, u2, u3, hu1, hu2, hu3, rfl⟩
      obtain ⟨v1, hv1, rv1'⟩ := rv1.get hx
      obtain ⟨v2, hv2, rv2'⟩ := rv2.get hy
      obtain ⟨v3, hv3, rv3'⟩ := rv3.get hu
      have f1 : its1[i]? = some u1 := by simpa using hu1
      have f2 : its2[i]? = some u2 := by simpa using hu2
      have f3 : its3[i]? = some u3 := by simpa using hu3
      rw [f1] at hv1
      rw [f2] at hv2
      rw [f3] at hv3
      cases hv1
      cases hv2
      cases hv3
      exact ⟨[x, y, u], .cons rv1' (.cons rv2' (.cons rv3' .nil)), by show 3 ≤ sizeLine; decide, fun T hT => ⟨T, x, y, u, rfl, hT, rfl, fun l hl => by rw [seqK_inj I hl hqx]; exact hx, fun l hl => by rw [seqK_inj I hl hqy]; exact hy, fun l hl => by rw [seqK_inj I hl hqz]; exact hu⟩⟩
  · intro X hP hw hK hc i pins s σ H I st hg
    subst hP hw hK
    obtain ⟨hz, hTI, hTO, e1, e2, e3⟩ := st
    obtain ⟨xs, ys, zs, hqx, hqy, hqz, hi⟩ := hg
    obtain ⟨its1, rv1, p1, hz1⟩ := seqK I hqx
    obtain ⟨its2, rv2, p2, hz2⟩ := seqK I hqy
    obtain ⟨its3, rv3, p3, hz3⟩ := seqK I hqz
    have l1 := rv1.length
    have l2 := rv2.length
    have l3 := rv3.length
    have hh : X.A.in1.handled = none := I.ok.hd hc
    refine ⟨_, _, _, _, _, _, WalksT.zipD3 D (drawK hh k1 i1 a h1 its1.toArray) (drawK hh k2 i2 b h2 its2.toArray) (drawK hh k3 i3 c h3 its3.toArray), by rw [List.size_toArray, List.size_toArray, List.size_toArray, ← l1, ← l2, ← l3]; exact hi, ⟨hz, hTI, hTO, ⟨e1, p1⟩, ⟨e2, p2⟩, ⟨e3, p3⟩⟩, fun c hc' => ?_⟩
    have e' : c = z ∨ c = TO ∨ c = i1 ∨ c = i2 ∨ c = i3 := by simpa using hc'
    rcases e' with q | q | q | q | q <;> simp [q]
  · intro A i s Q E st h
    exact wpAny_pyIter_zip st.1 h
def iZip3 (K : PySem.W.Frag) (ta : TA) : TI := fun σ H R => ta σ H fun vs H1 => ∃ k1 k2 k3 a b c xs ys zs, vs = [.ref a, .ref b, .ref c] ∧ SqK K k1 H1 a xs ∧ SqK K k2 H1 b ys ∧ SqK K k3 H1 c zs ∧ R (ItZ3 K k1 k2 k3 a b c) H1
theorem pi_zip3 {X : Cx} {e e2 e3 : Expr} {ta : TA} {p pos tpos : Pos} {elts : List Expr} {kk : Nat} (hg : Gl X "zip") (hm : X.mg "zip" = none) (ha : PA X [e, e2, e3] ta)
    (hs : starEach [e, e2, e3] X.env = (false, eval e X.env) :: starEach [e2, e3] X.env := by rfl) (hpl : (backTo pos (starEach [e2, e3] X.env)).any (·.1) = false := by rfl) :
    PI X (.Tuple elts kk tpos) (.Call (.Name "zip" p) [e, e2, e3] [] pos) (iZip3 X.K ta) := by
  refine ⟨fun pins s σ H R I h => ?_⟩
  refine Call_ (ld_blt I hg hm PyProof.Rows.boot_zip (PyProof.Rows.callWith_type1 (thn (ha.run pos pins s σ H _ I h) fun us s1 ⟨vs, H1, I1, r1, q1⟩ => ?_) hs hpl))
  obtain ⟨k1, k2, k3, a, b, c, xs, ys, zs, ex, hqx, hqy, hqz, q⟩ := q1
  subst ex
  cases r1 with
  | cons r rr =>
    cases rr with
    | cons r' rr =>
      cases rr with
      | cons r'' rr =>
      cases rr
      cases r
      cases r'
      cases r''
      obtain ⟨its1, rv1, p1, _⟩ := seqK I1 hqx
      obtain ⟨its2, rv2, p2, _⟩ := seqK I1 hqy
      obtain ⟨its3, rv3, p3, _⟩ := seqK I1 hqz
      have la := p1.lt
      have lb := p2.lt
      have lc := p3.lt
      refine zip_begins3 (begK k1 a its1.toArray) (begK k2 b its2.toArray) (begK k3 c its3.toArray) p1 p2 p3 fun h' hz hTI hTO h1 h2 h3 hsz hk => wpAny_pyIter_zip hz ?_
      refine ⟨s1.heap.objs.size + 5, [s1.heap.objs.size + 5, s1.heap.objs.size + 3, s1.heap.objs.size + 4, s1.heap.objs.size, s1.heap.objs.size + 1, s1.heap.objs.size + 2], _, _, H1, rfl, I1.kept (t' := s1.toks) hk,
        turn_zipK3 (k1 := k1) (k2 := k2) (k3 := k3) (zip_sep3 (fp1 := [a]) (fp2 := [b]) (fp3 := [c]) (fun d hc => by rw [List.mem_singleton.mp hc]; exact la) (fun d hc => by rw [List.mem_singleton.mp hc]; exact lb) (fun d hc => by rw [List.mem_singleton.mp hc]; exact lc)) (Nat.ne_of_lt la) (Nat.ne_of_lt (Nat.lt_succ_of_lt lb)) (Nat.ne_of_lt (Nat.lt_succ_of_lt (Nat.lt_succ_of_lt lc))), ⟨hz, hTI, ⟨_, _, _, hTO⟩, .first h1, .first h2, .first h3⟩, fun d hcm => ownNew I1 (newAll (l := [5, 3, 4, 0, 1, 2])) hcm, q⟩

/-! ### over data -/
/-- what stands at an address through the walk -/
def WSrc (K : PySem.W.Frag) (k : Kd) (a : Addr) (S : Src) (Hc0 : Hp) : Prop := ∀ H Hc μ, Same Hc0 Hc → Split K H Hc μ → S.ok μ → ∃ vs, SqK K k H a vs ∧ RepA K Hc vs S.ds
theorem src_of {K : PySem.W.Frag} {H Hc : Hp} {μ : M} {v : V} {d : D} {S : Src} (s : Split K H Hc μ) (r : Rep K Hc v d) (h : srcOf μ d = some S) : ∃ k a, v = .ref a ∧ S.ok μ ∧ WSrc K k a S Hc := by
  cases r with
  | @lst ad vs ds ha ra =>
    cases (show some (Src.dat ds) = some S from h)
    exact ⟨.l, ad, rfl, True.intro, fun H' Hc' μ' e' s' _ => ⟨vs, SqL.of (s'.same _ _ (e' _ _ ha)), ra.mono e'⟩⟩
  | @tup ad vs ds ha ra =>
    cases (show some (Src.dat ds) = some S from h)
    exact ⟨.t, ad, rfl, True.intro, fun H' Hc' μ' e' s' _ => ⟨vs, same_t s'.same (same_t e' ha), ra.mono e'⟩⟩
  | raw =>
    cases v with
    | ref p =>
      obtain ⟨xs, hp, rfl⟩ := src_refs h
      refine ⟨.l, p, rfl, hp, fun H' Hc' μ' e' s' hok => ?_⟩
      obtain ⟨_, o', ho', vs', rfl, ra'⟩ := s'.cell p _ (show μ' p = some (.lst xs) from hok)
      exact ⟨vs', SqL.of ho', ra'⟩
    | _ => cases h
  | _ => cases h
theorem WSrc.mono {K : PySem.W.Frag} {k : Kd} {a : Addr} {S : Src} {Hc Hc' : Hp} (e : Same Hc Hc') (w : WSrc K k a S Hc) : WSrc K k a S Hc' := fun H2 Hc2 μ2 e2 s2 ok => w H2 Hc2 μ2 (e.trans e2) s2 ok
/-- a tuple laid at the turn -/
theorem new_tup {K : PySem.W.Frag} {H Hc : Hp} {μ : M} {T : Addr} {vs : List V} {ds : List D} (s : Split K H Hc μ) (hT : H T = none) (ra : RepA K Hc vs ds) : ∃ Hc', Same Hc Hc' ∧ Split K (upd H T (.tup vs)) Hc' μ ∧ Rep K Hc' (.ref T) (.tup ds) :=
  ⟨upd Hc T (.tup vs), same_new (s.fresh hT).2, s.data hT, .tup (.inl (.inl upd_same)) (ra.mono (same_new (s.fresh hT).2))⟩
def enumL (n : Int) (ds : List D) : List D := ds.mapIdx fun i d => .tup [.int (n + (i : Nat)), d]
theorem enumL_get {n : Int} {ds : List D} {i : Nat} : (enumL n ds)[i]? = ds[i]?.map fun d => .tup [.int (n + (i : Nat)), d] := by unfold enumL; rw [List.getElem?_mapIdx]
theorem enumL_len {n : Int} {ds : List D} : (enumL n ds).length = ds.length := by unfold enumL; rw [List.length_mapIdx]
abbrev Src.enum (n : Int) (S : Src) : Src := ⟨enumL n S.ds, S.ok, S.mono⟩
theorem wlk_enum {K : PySem.W.Frag} {k : Kd} {a : Addr} {S : Src} {Hc0 : Hp} {n : Int} (w : WSrc K k a S Hc0) : Wlk K (ItE K k a n) (S.enum n) Hc0 := fun i H Hc μ e0 s ok => by
  obtain ⟨vs, hv, ra⟩ := w H Hc μ e0 s ok
  refine ⟨fun d hd => ?_, fun hi => ⟨vs, hv, by rw [ra.length]; rw [enumL_len] at hi; exact hi⟩⟩
  rw [enumL_get] at hd
  obtain ⟨d0, hd0, rfl⟩ := Option.map_eq_some_iff.mp hd
  obtain ⟨v, h1, h2⟩ := ra.get hd0
  refine ⟨⟨vs, v, hv, h1⟩, fun x H' hy => ?_⟩
  obtain ⟨T, x0, rfl, hT, rfl, hx⟩ := hy
  have e := hx vs hv
  rw [h1] at e
  cases e
  exact new_tup s hT (.cons (.int _) (.cons h2 .nil))
def zipL (xs ys : List D) : List D := List.zipWith (fun x y => .tup [x, y]) xs ys
theorem zipL_get {xs ys : List D} {i : Nat} {d : D} (h : (zipL xs ys)[i]? = some d) : ∃ x y, xs[i]? = some x ∧ ys[i]? = some y ∧ d = .tup [x, y] := by
  unfold zipL at h
  rw [List.getElem?_zipWith] at h
  split at h
  · rename_i x y hx hy
    exact ⟨x, y, hx, hy, (Option.some.inj h).symm⟩
  · cases h
theorem zipL_len {xs ys : List D} : (zipL xs ys).length = min xs.length ys.length := by unfold zipL; rw [List.length_zipWith]
abbrev Src.zip (S T : Src) : Src := ⟨zipL S.ds T.ds, fun μ => S.ok μ ∧ T.ok μ, fun μ p c h k => ⟨S.mono μ p c h k.1, T.mono μ p c h k.2⟩⟩
theorem wlk_zip2 {K : PySem.W.Frag} {k1 k2 : Kd} {a b : Addr} {S T : Src} {Hc0 : Hp} (w1 : WSrc K k1 a S Hc0) (w2 : WSrc K k2 b T Hc0) : Wlk K (ItZ2 K k1 k2 a b) (S.zip T) Hc0 := fun i H Hc μ e0 s ok => by
  obtain ⟨vs, hv, ra⟩ := w1 H Hc μ e0 s ok.1
  obtain ⟨ws, hw, rb⟩ := w2 H Hc μ e0 s ok.2
  refine ⟨fun d hd => ?_, fun hi => ⟨vs, ws, hv, hw, by rw [ra.length, rb.length]; rw [zipL_len] at hi; exact hi⟩⟩
  obtain ⟨d1, d2, hd1, hd2, rfl⟩ := zipL_get hd
  obtain ⟨v, h1, h2⟩ := ra.get hd1
  obtain ⟨u, h3, h4⟩ := rb.get hd2
  refine ⟨⟨vs, ws, v, u, hv, hw, h1, h3⟩, fun x H' hy => ?_⟩
  obtain ⟨T, x0, y0, rfl, hT, rfl, hx, hy⟩ := hy
  have e := hx vs hv
  rw [h1] at e
  cases e
  have e := hy ws hw
  rw [h3] at e
  cases e
  exact new_tup s hT (.cons h2 (.cons h4 .nil))
def zipL3 (xs ys zs : List D) : List D := List.zipWith (fun x yz => .tup [x, yz.1, yz.2]) xs (List.zip ys zs)
theorem zipL3_get {xs ys zs : List D} {i : Nat} {d : D} (h : (zipL3 xs ys zs)[i]? = some d) : ∃ x y z, xs[i]? = some x ∧ ys[i]? = some y ∧ zs[i]? = some z ∧ d = .tup [x, y, z] := by
  unfold zipL3 at h
  rw [List.getElem?_zipWith] at h
  split at h
  · rename_i x yz hx hy
    obtain ⟨y, z⟩ := yz
    obtain ⟨h1, h2⟩ := List.getElem?_zip_eq_some.mp hy
    exact ⟨x, y, z, hx, h1, h2, (Option.some.inj h).symm⟩
  · cases h
theorem zipL3_len {xs ys zs : List D} : (zipL3 xs ys zs).length = min (min xs.length ys.length) zs.length := by unfold zipL3; rw [List.length_zipWith, List.length_zip]; omega
abbrev Src.zip3 (S T U : Src) : Src := ⟨zipL3 S.ds T.ds U.ds, fun μ => S.ok μ ∧ T.ok μ ∧ U.ok μ, fun μ p c h k => ⟨S.mono μ p c h k.1, T.mono μ p c h k.2.1, U.mono μ p c h k.2.2⟩⟩
theorem wlk_zip3 {K : PySem.W.Frag} {k1 k2 k3 : Kd} {a b c : Addr} {S T U : Src} {Hc0 : Hp} (w1 : WSrc K k1 a S Hc0) (w2 : WSrc K k2 b T Hc0) (w3 : WSrc K k3 c U Hc0) : Wlk K (ItZ3 K k1 k2 k3 a b c) (S.zip3 T U) Hc0 := fun i H Hc μ e0 s ok => by
  obtain ⟨vs, hv, ra⟩ := w1 H Hc μ e0 s ok.1
  obtain ⟨ws, hw, rb⟩ := w2 H Hc μ e0 s ok.2.1
  obtain ⟨zs, hz, rc⟩ := w3 H Hc μ e0 s ok.2.2
  refine ⟨fun d hd => ?_, fun hi => ⟨vs, ws, zs, hv, hw, hz, by rw [ra.length, rb.length, rc.length]; rw [zipL3_len] at hi; exact hi⟩⟩
  obtain ⟨d1, d2, d3, hd1, hd2, hd3, rfl⟩ := zipL3_get hd
  obtain ⟨v, h1, h2⟩ := ra.get hd1
  obtain ⟨u, h3, h4⟩ := rb.get hd2
  obtain ⟨q, h5, h6⟩ := rc.get hd3
  refine ⟨⟨vs, ws, zs, v, u, q, hv, hw, hz, h1, h3, h5⟩, fun x H' hy => ?_⟩
  obtain ⟨T, x0, y0, z0, rfl, hT, rfl, hx, hy, hz'⟩ := hy
  have e := hx vs hv
  rw [h1] at e
  cases e
  have e := hy ws hw
  rw [h3] at e
  cases e
  have e := hz' zs hz
  rw [h5] at e
  cases e
  exact new_tup s hT (.cons h2 (.cons h4 (.cons h6 .nil)))
def kS2 (F : Src → Src → Src) (R : Src → M → Prop) (S T : Src) (μ : M) : Prop := R (F S T) μ
def OptS2 (o p : Option Src) (F : Src → Src → Src) (R : Src → M → Prop) (μ : M) : Prop := match o, p with
  | some S, some T => R (F S T) μ
  | _, _ => False
def OptS3 (o p q : Option Src) (F : Src → Src → Src → Src) (R : Src → M → Prop) (μ : M) : Prop := match o, p, q with
  | some S, some T, some U => R (F S T U) μ
  | _, _, _ => False
@[simp] theorem OptS2_some {S T : Src} {F : Src → Src → Src} {R : Src → M → Prop} {μ : M} : OptS2 (some S) (some T) F R μ = R (F S T) μ := rfl
@[simp] theorem OptS3_some {S T U : Src} {F : Src → Src → Src → Src} {R : Src → M → Prop} {μ : M} : OptS3 (some S) (some T) (some U) F R μ = R (F S T U) μ := rfl
theorem OptS2.ex {o p : Option Src} {F : Src → Src → Src} {R : Src → M → Prop} {μ : M} (h : OptS2 o p F R μ) : ∃ S T, o = some S ∧ p = some T ∧ R (F S T) μ := by
  unfold OptS2 at h
  split at h
  · exact ⟨_, _, rfl, rfl, h⟩
  · exact h.elim
theorem OptS3.ex {o p q : Option Src} {F : Src → Src → Src → Src} {R : Src → M → Prop} {μ : M} (h : OptS3 o p q F R μ) : ∃ S T U, o = some S ∧ p = some T ∧ q = some U ∧ R (F S T U) μ := by
  unfold OptS3 at h
  split at h
  · exact ⟨_, _, _, rfl, rfl, rfl, h⟩
  · exact h.elim
def kEnum (R : Src → M → Prop) (ds : List D) (μ : M) : Prop := match ds with
  | [d] => OptS ((srcOf μ d).map (Src.enum 0)) R μ
  | _ => False
def kZip2 (R : Src → M → Prop) (ds : List D) (μ : M) : Prop := match ds with
  | [d, e] => OptS2 (srcOf μ d) (srcOf μ e) Src.zip R μ
  | _ => False
def kZip3 (R : Src → M → Prop) (ds : List D) (μ : M) : Prop := match ds with
  | [d, e, f] => OptS3 (srcOf μ d) (srcOf μ e) (srcOf μ f) Src.zip3 R μ
  | _ => False
def dEnum (tr : DTA) (W : XD) (δ : Sl) (μ : M) (R : Src → M → Prop) : Prop := tr W δ μ (kEnum R)
def dZip2 (tr : DTA) (W : XD) (δ : Sl) (μ : M) (R : Src → M → Prop) : Prop := tr W δ μ (kZip2 R)
def dZip3 (tr : DTA) (W : XD) (δ : Sl) (μ : M) (R : Src → M → Prop) : Prop := tr W δ μ (kZip3 R)
section
variable {X : Cx} {W : WX} {a b c : Expr} {tr : DTA} {elts : List Expr} {kk : Nat} {tpos : Pos}
theorem RepA.three' {K : PySem.W.Frag} {H : Hp} {vs : List V} {d e f : D} (r : RepA K H vs [d, e, f]) : ∃ v u w, vs = [v, u, w] ∧ Rep K H v d ∧ Rep K H u e ∧ Rep K H w f := by
  cases r with
  | cons a r =>
    obtain ⟨u, w, rfl, b, c⟩ := r.two'
    exact ⟨_, u, w, rfl, a, b, c⟩
theorem di_enum {p pos : Pos} (hm : X.mg "enumerate" = none) (ha : DA X W [a] tr) (hg : Gl X "enumerate" := by rfl) (hs : starEach [a] X.env = [(false, eval a X.env)] := by rfl) : DI X W (.Tuple elts kk tpos) (.Call (.Name "enumerate" p) [a] [] pos) (dEnum tr) :=
  PI.imp (pi_enumK hg hm ha hs) fun σ H R ⟨δ, μ, Hc, Rd, Xd, s, rs, h, ri, rx⟩ => ⟨δ, μ, Hc, _, Xd, s, rs, h, fun ds μ1 h1 vs H1 Hc1 e1 s1 r1 => by
    unfold kEnum at h1
    split at h1
    · obtain ⟨v, rfl, r⟩ := r1.one'
      obtain ⟨S', hS', hR⟩ := OptS.ex h1
      obtain ⟨S, hS, rfl⟩ := Option.map_eq_some_iff.mp hS'
      obtain ⟨k, ad, rfl, ok, ws⟩ := src_of s1 r hS
      obtain ⟨xs, hx, _⟩ := ws _ _ _ (Same.refl _) s1 ok
      exact ⟨k, ad, xs, rfl, hx, ri _ _ hR _ _ _ e1 s1 (wlk_enum ws)⟩
    · exact h1.elim, rx⟩
theorem di_zip2 {p pos : Pos} (hm : X.mg "zip" = none) (ha : DA X W [a, b] tr) (hg : Gl X "zip" := by rfl) (hs : starEach [a, b] X.env = (false, eval a X.env) :: starEach [b] X.env := by rfl) (hpl : (backTo pos (starEach [b] X.env)).any (·.1) = false := by rfl) :
    DI X W (.Tuple elts kk tpos) (.Call (.Name "zip" p) [a, b] [] pos) (dZip2 tr) :=
  PI.imp (pi_zip2 hg hm ha hs hpl) fun σ H R ⟨δ, μ, Hc, Rd, Xd, s, rs, h, ri, rx⟩ => ⟨δ, μ, Hc, _, Xd, s, rs, h, fun ds μ1 h1 vs H1 Hc1 e1 s1 r1 => by
    unfold kZip2 at h1
    split at h1
    · obtain ⟨v, u, rfl, r, r'⟩ := r1.two'
      obtain ⟨S, T, hS, hT, hR⟩ := OptS2.ex h1
      obtain ⟨k1, a1, rfl, ok1, ws1⟩ := src_of s1 r hS
      obtain ⟨k2, a2, rfl, ok2, ws2⟩ := src_of s1 r' hT
      obtain ⟨xs, hx, _⟩ := ws1 _ _ _ (Same.refl _) s1 ok1
      obtain ⟨ys, hy, _⟩ := ws2 _ _ _ (Same.refl _) s1 ok2
      exact ⟨k1, k2, a1, a2, xs, ys, rfl, hx, hy, ri _ _ hR _ _ _ e1 s1 (wlk_zip2 ws1 ws2)⟩
    · exact h1.elim, rx⟩
theorem di_zip3 {p pos : Pos} (hm : X.mg "zip" = none) (ha : DA X W [a, b, c] tr) (hg : Gl X "zip" := by rfl) (hs : starEach [a, b, c] X.env = (false, eval a X.env) :: starEach [b, c] X.env := by rfl) (hpl : (backTo pos (starEach [b, c] X.env)).any (·.1) = false := by rfl) :
    DI X W (.Tuple elts kk tpos) (.Call (.Name "zip" p) [a, b, c] [] pos) (dZip3 tr) :=
  PI.imp (pi_zip3 hg hm ha hs hpl) fun σ H R ⟨δ, μ, Hc, Rd, Xd, s, rs, h, ri, rx⟩ => ⟨δ, μ, Hc, _, Xd, s, rs, h, fun ds μ1 h1 vs H1 Hc1 e1 s1 r1 => by
    unfold kZip3 at h1
    split at h1
    · obtain ⟨v, u, q, rfl, r, r', r''⟩ := r1.three'
      obtain ⟨S, T, U, hS, hT, hU, hR⟩ := OptS3.ex h1
      obtain ⟨k1, a1, rfl, ok1, ws1⟩ := src_of s1 r hS
      obtain ⟨k2, a2, rfl, ok2, ws2⟩ := src_of s1 r' hT
      obtain ⟨k3, a3, rfl, ok3, ws3⟩ := src_of s1 r'' hU
      obtain ⟨xs, hx, _⟩ := ws1 _ _ _ (Same.refl _) s1 ok1
      obtain ⟨ys, hy, _⟩ := ws2 _ _ _ (Same.refl _) s1 ok2
      obtain ⟨zs, hz, _⟩ := ws3 _ _ _ (Same.refl _) s1 ok3
      exact ⟨k1, k2, k3, a1, a2, a3, xs, ys, zs, rfl, hx, hy, hz, ri _ _ hR _ _ _ e1 s1 (wlk_zip3 ws1 ws2 ws3)⟩
    · exact h1.elim, rx⟩
end
end DL
set_option Elab.async false
set_option linter.all false
set_option maxRecDepth 100000
set_option maxHeartbeats 2000000
/-! The data layer: methods of lists, slices, list(range), and more built-ins. -/
namespace DL
open PySem PySem.Spec PyProof.Rows L2

theorem Ret.put {K : PySem.W.Frag} {H Hc : Hp} {μ : M} {Qd : QD} {Q : VK} {v : V} {d : D} {p : Addr} {c c' : C} {o : HO} (rt : Ret K Hc Qd Q) (s : Split K H Hc μ) (hp : μ p = some c) (ok : CellOk K Hc p c' o) (r : Rep K Hc v d) (q : Qd d (updM μ p c')) : Q v (upd H p o) :=
  rt _ _ q _ _ Hc (Same.refl _) (s.put hp ok) r
theorem Ret.putL {K : PySem.W.Frag} {H Hc : Hp} {μ : M} {Qd : QD} {Q : VK} {v : V} {d : D} {p : Addr} {c : C} {vs : List V} {ds : List D} (rt : Ret K Hc Qd Q) (s : Split K H Hc μ) (hp : μ p = some c) (ra : RepA K Hc vs ds) (r : Rep K Hc v d) (q : Qd d (updM μ p (.lst ds))) : Q v (upd H p (.lst vs)) :=
  rt.put s hp (c' := .lst ds) ⟨vs, rfl, ra⟩ r q
abbrev DRM := D → List D → M → QD → Prop
def LMt (K : PySem.W.Frag) (r : V → List V → Hp → VK → Prop) (g : DRM) : Prop := ∀ (v : V) (d : D) (vs : List V) (ds : List D) (H Hc : Hp) (μ : M) (Q : VK) (Qd : QD), Split K H Hc μ → Rep K Hc v d → RepA K Hc vs ds → g d ds μ Qd → Ret K Hc Qd Q → r v vs H Q
/-- a list stands there -/
def isL (μ : M) (d : D) : Prop := ∃ ds, view μ d = .lst ds
theorem isL_cell {μ : M} {p : Addr} {ds : List D} (h : μ p = some (.lst ds)) : isL μ (.raw (.ref p)) := ⟨ds, view_cell h⟩
theorem isL_lst {μ : M} {ds : List D} : isL μ (.lst ds) := ⟨ds, rfl⟩
def kM2 (g : DRM) (d : D) (Q : QD) (ds : List D) (μ : M) : Prop := g d ds μ Q
def kM1 (g : DRM) (tr : DTA) (W : XD) (δ : Sl) (Q : QD) (d : D) (μ : M) : Prop := isL μ d ∧ tr W δ μ (kM2 g d Q)
def dM (g : DRM) (to : DTE) (tr : DTA) (W : XD) (δ : Sl) (μ : M) (Q : QD) : Prop := to W δ μ (kM1 g tr W δ Q)
def kM0 (g : DRM) (Q : QD) (d : D) (μ : M) : Prop := isL μ d ∧ g d [] μ Q
def dM0 (g : DRM) (to : DTE) (W : XD) (δ : Sl) (μ : M) (Q : QD) : Prop := to W δ μ (kM0 g Q)
section
variable {X : Cx} {W : WX} {o e : Expr} {es : List Expr} {to : DTE} {tr : DTA} {name : Str} {apos cpos : Pos} {id : String} {r : V → List V → Hp → VK → Prop} {g : DRM}
theorem de_m (slot : Slot "list" name id) (hty : typeOf (.builtin id) = pure (.type "method_descriptor")) (hm : MtR X id r) (l : LMt X.K r g) (ho : DE X W o to) (ha : DA X W (e :: es) tr)
    (hbase : attributeBase o name X.env (eval o X.env) = eval o X.env := by rfl)
    (hfew : ((backTo cpos (starEach (e :: es) X.env)).all (fun x => !x.1) && (backToKw cpos (keywordEach [] X.env)).all (fun x => x.1.isSome)
      && decide ((e :: es).length + ([] : List Keyword).length + (if ([] : List Keyword).isEmpty then 0 else 1) < 30)) = true := by rfl)
    (hline : (apos.endLine == cpos.line) = true := by rfl) (hs : starEach (e :: es) X.env = (false, eval e X.env) :: starEach es X.env := by rfl) (hplain : (backTo cpos (starEach es X.env)).any (·.1) = false := by rfl) :
    DE X W (.Call (.Attribute o name apos) (e :: es) [] cpos) (dM g to tr) :=
  PE.imp (pe_bm F.plainAttrs_list slot hty hm ho ha hbase hfew hline hs hplain) fun σ H Q ⟨δ, μ, Hc, Qd, Xd, s, rs, h, rt, rx⟩ => ⟨δ, μ, Hc, _, Xd, s, rs, h, fun d μ1 h1 v H1 Hc1 e1 s1 r1 => by
    obtain ⟨⟨ds0, hv⟩, h2⟩ := h1
    obtain ⟨a, vs0, rfl, ha0, _⟩ := view_lst s1 r1 hv
    exact ⟨.inl ⟨rfl, vs0, SqL.of ha0⟩, δ, μ1, Hc1, _, Xd, s1, rs.mono e1, h2, fun ds μ2 h3 vs H2 Hc2 e2 s2 r2 => l _ d vs ds H2 Hc2 μ2 Q Qd s2 (r1.mono e2) r2 h3 (rt.mono (e1.trans e2)), rx.mono e1⟩, rx⟩
theorem de_m0 (slot : Slot "list" name id) (hty : typeOf (.builtin id) = pure (.type "method_descriptor")) (hm : MtR X id r) (l : LMt X.K r g) (ho : DE X W o to)
    (hbase : attributeBase o name X.env (eval o X.env) = eval o X.env := by rfl) (hline : (apos.endLine == cpos.line) = true := by rfl) :
    DE X W (.Call (.Attribute o name apos) [] [] cpos) (dM0 g to) :=
  PE.imp (pe_bm0 F.plainAttrs_list slot hty hm ho hbase hline) fun σ H Q ⟨δ, μ, Hc, Qd, Xd, s, rs, h, rt, rx⟩ => ⟨δ, μ, Hc, _, Xd, s, rs, h, fun d μ1 h1 v H1 Hc1 e1 s1 r1 => by
    obtain ⟨⟨ds0, hv⟩, h2⟩ := h1
    obtain ⟨a, vs0, rfl, ha0, _⟩ := view_lst s1 r1 hv
    exact ⟨.inl ⟨rfl, vs0, SqL.of ha0⟩, l _ d [] [] H1 Hc1 μ1 Q Qd s1 r1 .nil h2 (rt.mono e1)⟩, rx⟩
end
/-- a cell as a tracked list -/
theorem cell_lst {K : PySem.W.Frag} {H Hc : Hp} {μ : M} {p : Addr} {ds : List D} (s : Split K H Hc μ) (h : μ p = some (.lst ds)) : ∃ vs, H p = some (.lst vs) ∧ RepA K Hc vs ds := by
  obtain ⟨_, o, ho, vs, rfl, ra⟩ := s.cell p _ h
  exact ⟨vs, ho, ra⟩
theorem rep_raw {K : PySem.W.Frag} {H : Hp} {v u : V} (r : Rep K H v (.raw u)) : v = u := by cases r; rfl
def gAppend : DRM := fun d ds μ Q => match d, ds with
  | .raw (.ref p), [y] => ∃ xs, μ p = some (.lst xs) ∧ xs.length < sizeLine ∧ Q .non (updM μ p (.lst (xs ++ [y])))
  | _, _ => False
def gInsert : DRM := fun d ds μ Q => match d, ds with
  | .raw (.ref p), [.int i, y] => ∃ xs, μ p = some (.lst xs) ∧ xs.length < sizeLine ∧ 0 ≤ i ∧ i < 2 ^ 63 ∧ Q .non (updM μ p (.lst (xs.take i.toNat ++ [y] ++ xs.drop i.toNat)))
  | _, _ => False
def gExtend : DRM := fun d ds μ Q => match d, ds with
  | .raw (.ref p), [e] => ∃ xs zs, μ p = some (.lst xs) ∧ view μ e = .lst zs ∧ xs.length + zs.length ≤ sizeLine ∧ Q .non (updM μ p (.lst (xs ++ zs)))
  | _, _ => False
def gPop1 : DRM := fun d ds μ Q => match d, ds with
  | .raw (.ref p), [.int i] => ∃ xs k y, μ p = some (.lst xs) ∧ -(2 ^ 63) ≤ i ∧ i < 2 ^ 63 ∧ seqIndex? i xs.length = some k ∧ xs[k]? = some y ∧ Q y (updM μ p (.lst (xs.eraseIdx k)))
  | _, _ => False
def gPop0 : DRM := fun d ds μ Q => match d, ds with
  | .raw (.ref p), [] => ∃ xs y, μ p = some (.lst xs) ∧ xs[xs.length - 1]? = some y ∧ Q y (updM μ p (.lst xs.dropLast))
  | _, _ => False
def gReverse : DRM := fun d ds μ Q => match d, ds with
  | .raw (.ref p), [] => ∃ xs, μ p = some (.lst xs) ∧ Q .non (updM μ p (.lst xs.reverse))
  | _, _ => False
def gSort : DRM := fun d ds μ Q => match d, ds with
  | .raw (.ref p), [] => ∃ ns : List Int, μ p = some (.lst (ns.map D.int)) ∧ ∀ ns' : List Int, ns'.Perm ns → ns'.Pairwise (· ≤ ·) → Q .non (updM μ p (.lst (ns'.map D.int)))
  | _, _ => False
def gRemove : DRM := fun d ds μ Q => match d, ds with
  | .raw (.ref p), [.int k] => ∃ (ns : List Int) (j : Nat), μ p = some (.lst (ns.map D.int)) ∧ ns[j]? = some k ∧ (∀ m : Nat, m < j → ns[m]? ≠ some k) ∧ Q .non (updM μ p (.lst ((ns.eraseIdx j).map D.int)))
  | _, _ => False
def gCount : DRM := fun d ds μ Q => match ds with
  | [.int k] => ∃ ns : List Int, view μ d = .lst (ns.map D.int) ∧ Q (.int (ns.count k : Nat)) μ
  | _ => False
def gIndex : DRM := fun d ds μ Q => match ds with
  | [y] => ∃ xs j z, view μ d = .lst xs ∧ flatD y = true ∧ xs.all flatD = true ∧ xs[j]? = some z ∧ eqD z y = true ∧ (∀ (m : Nat) (z' : D), m < j → xs[m]? = some z' → eqD z' y = false) ∧ Q (.int (j : Nat)) μ
  | _ => False
theorem RepA.reverse {K : PySem.W.Frag} {H : Hp} : ∀ {vs : List V} {ds : List D}, RepA K H vs ds → RepA K H vs.reverse ds.reverse
  | _, _, .nil => .nil
  | _, _, .cons a r => by rw [List.reverse_cons, List.reverse_cons]; exact (RepA.reverse r).append (.cons a .nil)
theorem RepA.eraseIdx {K : PySem.W.Frag} {H : Hp} : ∀ {vs : List V} {ds : List D} (n : Nat), RepA K H vs ds → RepA K H (vs.eraseIdx n) (ds.eraseIdx n)
  | _, _, _, .nil => .nil
  | _, _, 0, .cons _ r => r
  | _, _, n + 1, .cons a r => .cons a (RepA.eraseIdx n r)
theorem RepA.dropLast {K : PySem.W.Frag} {H : Hp} {vs : List V} {ds : List D} (r : RepA K H vs ds) : RepA K H vs.dropLast ds.dropLast := by
  rw [List.dropLast_eq_take, List.dropLast_eq_take, r.length]
  exact r.take _
section
variable {K : PySem.W.Frag}
theorem l_append : LMt K rAppend gAppend := by
  intro v d vs ds H Hc μ Q Qd s r ra h rt
  unfold gAppend at h
  split at h
  · obtain ⟨xs, hp, hl, q⟩ := h
    obtain ⟨us, hu, ru⟩ := cell_lst s hp
    obtain ⟨y, rfl, ry⟩ := ra.one'
    cases rep_raw r
    exact ⟨_, us, y, rfl, rfl, hu, by rw [ru.length]; exact hl, rt.putL s hp (ru.append (.cons ry .nil)) .non q⟩
  · exact h.elim
theorem l_insert : LMt K (fun x vs H Q => ∃ (l : Addr) (xs : List V) (i : Int) (y : V), x = .ref l ∧ vs = [.int i, y] ∧ H l = some (.lst xs) ∧ xs.length < sizeLine ∧ 0 ≤ i ∧ i < 2 ^ 63 ∧
    Q .non (upd H l (.lst (xs.take i.toNat ++ [y] ++ xs.drop i.toNat)))) gInsert := by
  intro v d vs ds H Hc μ Q Qd s r ra h rt
  unfold gInsert at h
  split at h
  · obtain ⟨xs, hp, hl, h0, h1, q⟩ := h
    obtain ⟨us, hu, ru⟩ := cell_lst s hp
    obtain ⟨i', y, rfl, ri, ry⟩ := ra.two'
    cases rep_raw r
    cases ri
    exact ⟨_, us, _, y, rfl, rfl, hu, by rw [ru.length]; exact hl, h0, h1, rt.putL s hp (((ru.take _).append (.cons ry .nil)).append (ru.drop _)) .non q⟩
  · exact h.elim
theorem l_extend : LMt K rExtend gExtend := by
  intro v d vs ds H Hc μ Q Qd s r ra h rt
  unfold gExtend at h
  split at h
  · obtain ⟨xs, zs, hp, hz, hl, q⟩ := h
    obtain ⟨us, hu, ru⟩ := cell_lst s hp
    obtain ⟨y, rfl, ry⟩ := ra.one'
    cases rep_raw r
    obtain ⟨b, ws, rfl, hb, rb⟩ := view_lst s ry hz
    exact ⟨_, b, us, ws, rfl, rfl, hu, hb, by rw [ru.length, rb.length]; exact hl, rt.putL s hp (ru.append rb) .non q⟩
  · exact h.elim
theorem l_pop1 : LMt K rPopAt gPop1 := by
  intro v d vs ds H Hc μ Q Qd s r ra h rt
  unfold gPop1 at h
  split at h
  · obtain ⟨xs, k, y, hp, h1, h2, hk, hy, q⟩ := h
    obtain ⟨us, hu, ru⟩ := cell_lst s hp
    obtain ⟨i', rfl, ri⟩ := ra.one'
    cases rep_raw r
    cases ri
    obtain ⟨u, hu', ru'⟩ := ru.get hy
    exact ⟨_, us, _, k, u, rfl, rfl, hu, h1, h2, by rw [ru.length]; exact hk, hu', rt.putL s hp (ru.eraseIdx k) ru' q⟩
  · exact h.elim
theorem l_pop0 : LMt K rPop gPop0 := by
  intro v d vs ds H Hc μ Q Qd s r ra h rt
  unfold gPop0 at h
  split at h
  · obtain ⟨xs, y, hp, hy, q⟩ := h
    obtain ⟨us, hu, ru⟩ := cell_lst s hp
    cases rep_raw r
    cases ra
    rw [← ru.length] at hy
    obtain ⟨u, hu', ru'⟩ := ru.get hy
    exact ⟨_, us, u, rfl, rfl, hu, hu', rt.putL s hp (ru.dropLast) ru' q⟩
  · exact h.elim
theorem l_reverse : LMt K rReverse gReverse := by
  intro v d vs ds H Hc μ Q Qd s r ra h rt
  unfold gReverse at h
  split at h
  · obtain ⟨xs, hp, q⟩ := h
    obtain ⟨us, hu, ru⟩ := cell_lst s hp
    cases rep_raw r
    cases ra
    exact ⟨_, us, rfl, rfl, hu, rt.putL s hp (ru.reverse) .non q⟩
  · exact h.elim
theorem l_sort : LMt K rSortI gSort := by
  intro v d vs ds H Hc μ Q Qd s r ra h rt
  unfold gSort at h
  split at h
  · obtain ⟨ns, hp, q⟩ := h
    obtain ⟨us, hu, ru⟩ := cell_lst s hp
    cases rep_raw r
    cases ra
    rw [ru.ints] at hu
    exact ⟨_, ns, rfl, rfl, hu, fun ns' h1 h2 => rt.putL s hp (.ofInts ns') .non (q ns' h1 h2)⟩
  · exact h.elim
theorem l_remove : LMt K rRemI gRemove := by
  intro v d vs ds H Hc μ Q Qd s r ra h rt
  unfold gRemove at h
  split at h
  · obtain ⟨ns, j, hp, hj, hno, q⟩ := h
    obtain ⟨us, hu, ru⟩ := cell_lst s hp
    obtain ⟨i', rfl, ri⟩ := ra.one'
    cases rep_raw r
    cases ri
    rw [ru.ints] at hu
    exact ⟨_, ns, _, j, rfl, rfl, hu, hj, hno, rt.putL s hp (.ofInts _) .non q⟩
  · exact h.elim
theorem l_count : LMt K (rCntI K) gCount := by
  intro v d vs ds H Hc μ Q Qd s r ra h rt
  unfold gCount at h
  split at h
  · obtain ⟨ns, hv, q⟩ := h
    obtain ⟨a, us, rfl, hu, ru⟩ := view_lst s r hv
    obtain ⟨i', rfl, ri⟩ := ra.one'
    cases ri
    rw [ru.ints] at hu
    exact ⟨a, ns, _, rfl, rfl, SqL.of hu, rt.val s (.int _) q⟩
  · exact h.elim
theorem l_index : LMt K (rIndex K) gIndex := by
  intro v d vs ds H Hc μ Q Qd s r ra h rt
  unfold gIndex at h
  split at h
  · obtain ⟨xs, j, z, hv, h1, h2, hj, hz, hno, q⟩ := h
    obtain ⟨a, us, rfl, hu, ru⟩ := view_lst s r hv
    obtain ⟨y, rfl, ry⟩ := ra.one'
    obtain ⟨z1, z2⟩ := flat_all ry h1 ru h2
    obtain ⟨w, hw, rw'⟩ := ru.get hj
    have fl : ∀ {i : Nat} {x : D}, xs[i]? = some x → flatD x = true := fun e => List.all_eq_true.mp h2 _ (List.mem_of_getElem? e)
    refine ⟨a, us, y, j, w, rfl, rfl, SqL.of hu, (flat_rep ry h1).1, z1, hw, by rw [(flat_rep ry h1).2 rw' (fl hj)]; exact hz, fun m z' hm hz' => ?_, rt.val s (.int _) q⟩
    obtain ⟨d', hd', rd'⟩ := ru.getV hz'
    rw [(flat_rep ry h1).2 rd' (fl hd')]
    exact hno m d' hm hd'
  · exact h.elim
end
section
variable {X : Cx} {W : WX} {o e : Expr} {es : List Expr} {to : DTE} {tr : DTA} {apos cpos : Pos}
end

/-! ### slices -/
def cutD (xs : List D) (lo hi : Option Int) : List D := (xs.drop (HT.sIx xs.length 0 lo)).take (HT.sIx xs.length xs.length hi - HT.sIx xs.length 0 lo)
theorem cut_rep {K : PySem.W.Frag} {H : Hp} {vs : List V} {ds : List D} {lo hi : Option Int} (r : RepA K H vs ds) : RepA K H (cutV vs lo hi) (cutD ds lo hi) := by
  unfold cutV cutD
  rw [r.length]
  exact (r.drop _).take _
theorem cutD_all {xs : List D} {lo hi : Option Int} (h : HT.sIx xs.length 0 lo = 0 ∧ HT.sIx xs.length xs.length hi = xs.length) : cutD xs lo hi = xs := by
  unfold cutD
  rw [h.1, h.2, List.drop_zero, Nat.sub_zero, List.take_length]
abbrev DTO := XD → Sl → M → (Option Int → M → Prop) → Prop
def RetO (K : PySem.W.Frag) (Hc : Hp) (Qd : Option Int → M → Prop) (Q : Option Int → Hp → Prop) : Prop := ∀ b μ', Qd b μ' → ∀ H' Hc', Same Hc Hc' → Split K H' Hc' μ' → Q b H'
def upO (K : PySem.W.Frag) (W : WX) (t : DTO) : TO := fun σ H Q => ∃ δ μ Hc Qd Xd, Split K H Hc μ ∧ RepS K Hc σ δ ∧ t Xd δ μ Qd ∧ RetO K Hc Qd Q ∧ RetX K Hc Xd (fun cls d H => W cls d σ H)
def DO' (X : Cx) (W : WX) (e : Option Expr) (t : DTO) : Prop := PO X e (upO X.K W t)
def dNoPart (_ : XD) (_ : Sl) (μ : M) (Q : Option Int → M → Prop) : Prop := Q none μ
def kPart (Q : Option Int → M → Prop) (d : D) (μ : M) : Prop := match d with
  | .int i => Q (some i) μ
  | _ => False
def dPart (t : DTE) (W : XD) (δ : Sl) (μ : M) (Q : Option Int → M → Prop) : Prop := t W δ μ (kPart Q)
theorem PO.imp {X : Cx} {e : Option Expr} {t t' : TO} (h : PO X e t) (i : ∀ σ H Q, t' σ H Q → t σ H Q) : PO X e t' := ⟨fun pins s σ H Q I w => h.run pins s σ H Q I (i σ H Q w)⟩
abbrev DRS := D → Option Int → Option Int → M → QD → Prop
def kSl3 (g : DRS) (d : D) (lo : Option Int) (Q : QD) (hi : Option Int) (μ : M) : Prop := g d lo hi μ Q
def kSl2 (g : DRS) (d : D) (th : DTO) (W : XD) (δ : Sl) (Q : QD) (lo : Option Int) (μ : M) : Prop := th W δ μ (kSl3 g d lo Q)
def kSl1 (g : DRS) (tl th : DTO) (W : XD) (δ : Sl) (Q : QD) (d : D) (μ : M) : Prop := tl W δ μ (kSl2 g d th W δ Q)
def dSlG (g : DRS) (te : DTE) (tl th : DTO) (W : XD) (δ : Sl) (μ : M) (Q : QD) : Prop := te W δ μ (kSl1 g tl th W δ Q)
def gSl : DRS := fun d lo hi μ Q => match view μ d with
  | .lst xs => Q (.lst (cutD xs lo hi)) μ
  | .tup xs => Q (.tup (cutD xs lo hi)) μ
  | .str z => z.length ≤ sizeLine ∧ Q (.str (cutS z lo hi)) μ
  | _ => False
/-- .. of a list, a cell -/
def gSlC : DRS := fun d lo hi μ Q => match view μ d with
  | .lst xs => NewC (cutD xs lo hi) μ Q
  | _ => False
abbrev dSl := dSlG gSl
abbrev dSlC := dSlG gSlC
def rSlAll (K : PySem.W.Frag) : V → Option Int → Option Int → Hp → VK → Prop := fun x lo hi H Q => rSlL K x lo hi H Q ∨ (rSlA K x lo hi H Q ∨ rSlS x lo hi H Q)
def LSl (K : PySem.W.Frag) (r : V → Option Int → Option Int → Hp → VK → Prop) (g : DRS) : Prop := ∀ (v : V) (d : D) (lo hi : Option Int) (H Hc : Hp) (μ : M) (Q : VK) (Qd : QD), Split K H Hc μ → Rep K Hc v d → g d lo hi μ Qd → Ret K Hc Qd Q → r v lo hi H Q
theorem l_sl {K : PySem.W.Frag} : LSl K (rSlAll K) gSl := by
  intro v d lo hi H Hc μ Q Qd s r h rt
  unfold gSl at h
  split at h
  · rename_i xs e1
    obtain ⟨a, vs, rfl, ha, ra⟩ := view_lst s r e1
    exact .inl ⟨a, vs, rfl, SqL.of ha, rt.new s (cut_rep ra) h⟩
  · rename_i xs e1
    obtain ⟨a, vs, rfl, ha, ra⟩ := view_tup s r e1
    refine .inr (.inl ⟨a, vs, rfl, ha, fun hw => ?_, fun _ => rt.newT s (cut_rep ra) h⟩)
    rw [ra.length] at hw
    rw [cutD_all hw] at h
    cases r with
    | tup h3 h4 =>
      cases (show D.tup _ = D.tup _ from e1)
      exact rt.val s (.tup h3 h4) h
    | raw =>
      exfalso
      rcases view_refs e1 with ⟨es, _, h'⟩ | h' <;> cases h'
    | lst h3 h4 => cases e1
    | scr h3 => cases e1
    | emp h3 => cases e1
  · rename_i z e1
    exact .inr (.inr ⟨z, view_str r e1, h.1, rt.val s (.str _) h.2⟩)
  · exact h.elim
theorem l_slC {K : PySem.W.Frag} : LSl K (rSlAll K) gSlC := by
  intro v d lo hi H Hc μ Q Qd s r h rt
  unfold gSlC at h
  split at h
  · rename_i xs e1
    obtain ⟨a, vs, rfl, ha, ra⟩ := view_lst s r e1
    exact .inl ⟨a, vs, rfl, SqL.of ha, rt.newC s (cut_rep ra) h⟩
  · exact h.elim
section
variable {X : Cx} {W : WX} {a e : Expr} {lo hi : Option Expr} {te : DTE} {tl th : DTO} {g : DRS} {p2 pos : Pos}
theorem do_none : DO' X W none dNoPart := PO.imp po_none fun σ H Q ⟨δ, μ, Hc, Qd, Xd, s, rs, h, rt, rx⟩ => rt _ _ h _ _ (Same.refl _) s
theorem do_some (h : DE X W e te) : DO' X W (some e) (dPart te) := PO.imp (po_some h) fun σ H Q ⟨δ, μ, Hc, Qd, Xd, s, rs, h, rt, rx⟩ => ⟨δ, μ, Hc, _, Xd, s, rs, h, fun d μ1 h1 v H1 Hc1 e1 s1 r1 => by
    unfold kPart at h1
    split at h1
    · cases r1
      exact ⟨_, rfl, rt _ _ h1 _ _ e1 s1⟩
    · exact h1.elim, rx⟩
theorem de_slG (l : LSl X.K (rSlAll X.K) g) (he : DE X W e te) (hl : DO' X W lo tl) (hu : DO' X W hi th) : DE X W (.Subscript e (.Slice lo hi none p2) pos) (dSlG g te tl th) :=
  PE.imp (pe_slice (SlR.or sl_list (SlR.or sl_tupA sl_str)) he hl hu) fun σ H Q ⟨δ, μ, Hc, Qd, Xd, s, rs, h, rt, rx⟩ => ⟨δ, μ, Hc, _, Xd, s, rs, h, fun d μ1 h1 v H1 Hc1 e1 s1 r1 =>
    ⟨δ, μ1, Hc1, _, Xd, s1, rs.mono e1, h1, fun o1 μ2 h2 H2 Hc2 e2 s2 => ⟨δ, μ2, Hc2, _, Xd, s2, rs.mono (e1.trans e2), h2, fun o2 μ3 h3 H3 Hc3 e3 s3 =>
      l v d o1 o2 H3 Hc3 μ3 Q Qd s3 (r1.mono (e2.trans e3)) h3 (rt.mono ((e1.trans e2).trans e3)), rx.mono (e1.trans e2)⟩, rx.mono e1⟩, rx⟩
theorem de_sl (he : DE X W e te) (hl : DO' X W lo tl) (hu : DO' X W hi th) : DE X W (.Subscript e (.Slice lo hi none p2) pos) (dSl te tl th) := de_slG l_sl he hl hu
theorem de_slC (he : DE X W e te) (hl : DO' X W lo tl) (hu : DO' X W hi th) : DE X W (.Subscript e (.Slice lo hi none p2) pos) (dSlC te tl th) := de_slG l_slC he hl hu
end

/-! ### list(range(..)) -/
def kLR1 (g : List D → M → QD → Prop) (Q : QD) (d : D) (μ : M) : Prop := match d with
  | .int j => (-(2 ^ 62) ≤ j ∧ j ≤ 16777216) ∧ g (rangeD 0 j.toNat) μ Q
  | _ => False
def dLR1 (g : List D → M → QD → Prop) (t : DTE) (W : XD) (δ : Sl) (μ : M) (Q : QD) : Prop := t W δ μ (kLR1 g Q)
def kLR22 (g : List D → M → QD → Prop) (Q : QD) (d e : D) (μ : M) : Prop := match d, e with
  | .int i, .int j => (-(2 ^ 62) ≤ i ∧ i < 2 ^ 62 ∧ -(2 ^ 62) ≤ j ∧ j < 2 ^ 62 ∧ (j - i).toNat ≤ 16777216) ∧ g (rangeD i (j - i).toNat) μ Q
  | _, _ => False
def kLR21 (g : List D → M → QD → Prop) (tb : DTE) (W : XD) (δ : Sl) (Q : QD) (d : D) (μ : M) : Prop := tb W δ μ (kLR22 g Q d)
def dLR2 (g : List D → M → QD → Prop) (ta tb : DTE) (W : XD) (δ : Sl) (μ : M) (Q : QD) : Prop := ta W δ μ (kLR21 g tb W δ Q)
/-- what becomes of the new list: data, or a cell -/
def nLst (ds : List D) (μ : M) (Q : QD) : Prop := Q (.lst ds) μ
def LNew (K : PySem.W.Frag) (g : List D → M → QD → Prop) : Prop := ∀ {H Hc : Hp} {μ : M} {Qd : QD} {Q : VK} {vs : List V} {ds : List D}, Ret K Hc Qd Q → Split K H Hc μ → RepA K Hc vs ds → g ds μ Qd → ∀ p, H p = none → Q (.ref p) (upd H p (.lst vs))
theorem ln_lst {K : PySem.W.Frag} : LNew K nLst := fun rt s ra q => rt.new s ra q
theorem ln_cel {K : PySem.W.Frag} : LNew K NewC := fun rt s ra q => rt.newC s ra q
theorem rg_rep {K : PySem.W.Frag} {H : Hp} {a : Int} : ∀ n : Nat, RepA K H ((List.range n).map fun i => V.int (a + (i : Nat))) (rangeD a n)
  | 0 => .nil
  | n + 1 => by
    unfold rangeD
    rw [List.range_succ, List.map_append, List.map_append]
    exact (rg_rep n).append (.cons (.int _) .nil)
section
variable {X : Cx} {W : WX} {a b : Expr} {ta tb : DTE} {g : List D → M → QD → Prop} {p pos p' pos' : Pos}
theorem de_lr1 (ln : LNew X.K g) (hm : X.mg "list" = none) (hmr : X.mg "range" = none) (ha : DE X W a ta) (hc : X.calm = true := by rfl) (hg : Gl X "list" := by rfl) (hgr : Gl X "range" := by rfl)
    (na : starEach [a] X.env = (false, eval a X.env) :: starEach [] X.env := by rfl) (na' : starEach [.Call (.Name "range" p) [a] [] pos] X.env = (false, eval (.Call (.Name "range" p) [a] [] pos) X.env) :: starEach [] X.env := by rfl) :
    DE X W (.Call (.Name "list" p') [.Call (.Name "range" p) [a] [] pos] [] pos') (dLR1 g ta) :=
  PE.imp (pe_listRg hc hg hm (prg_1 hgr hmr ha na) na') fun σ H Q ⟨δ, μ, Hc, Qd, Xd, s, rs, h, rt, rx⟩ => ⟨δ, μ, Hc, _, Xd, s, rs, h, fun d μ1 h1 v H1 Hc1 e1 s1 r1 => by
    unfold kLR1 at h1
    split at h1
    · rename_i j
      cases r1
      refine ⟨j, rfl, ⟨by decide, by decide, h1.1.1, by omega, by rw [Int.sub_zero]; omega⟩, ?_⟩
      have := rg_rep (K := X.K) (H := Hc1) (a := 0) j.toNat
      unfold rgV
      rw [Int.sub_zero]
      exact ln (rt.mono e1) s1 this h1.2
    · exact h1.elim, rx⟩
theorem de_lr2 (ln : LNew X.K g) (hm : X.mg "list" = none) (hmr : X.mg "range" = none) (ha : DE X W a ta) (hb : DE X W b tb) (hc : X.calm = true := by rfl) (hg : Gl X "list" := by rfl) (hgr : Gl X "range" := by rfl)
    (na : starEach [a, b] X.env = (false, eval a X.env) :: starEach [b] X.env := by rfl) (nb : starEach [b] X.env = (false, eval b X.env) :: starEach [] X.env := by rfl) (hp : (backTo pos (starEach [b] X.env)).any (·.1) = false := by rfl)
    (na' : starEach [.Call (.Name "range" p) [a, b] [] pos] X.env = (false, eval (.Call (.Name "range" p) [a, b] [] pos) X.env) :: starEach [] X.env := by rfl) :
    DE X W (.Call (.Name "list" p') [.Call (.Name "range" p) [a, b] [] pos] [] pos') (dLR2 g ta tb) :=
  PE.imp (pe_listRg hc hg hm (prg_2 hgr hmr ha hb na nb hp) na') fun σ H Q ⟨δ, μ, Hc, Qd, Xd, s, rs, h, rt, rx⟩ => ⟨δ, μ, Hc, _, Xd, s, rs, h, fun d μ1 h1 v H1 Hc1 e1 s1 r1 =>
    ⟨δ, μ1, Hc1, _, Xd, s1, rs.mono e1, h1, fun d' μ2 h2 v' H2 Hc2 e2 s2 r2 => by
    unfold kLR22 at h2
    split at h2
    · rename_i i j
      cases r1
      cases r2
      refine ⟨i, j, rfl, rfl, ⟨h2.1.1, h2.1.2.1, h2.1.2.2.1, h2.1.2.2.2.1, h2.1.2.2.2.2⟩, ?_⟩
      exact ln (rt.mono (e1.trans e2)) s2 (rg_rep (K := X.K) (H := Hc2) (a := i) (j - i).toNat) h2.2
    · exact h2.elim, rx.mono e1⟩, rx⟩
end

/-! ### new lists as cells -/
def gRepC : DR2 := fun a b μ Q => match view μ a, view μ b with
  | .lst xs, .int k => (-(2 ^ 63) ≤ k ∧ k < 2 ^ 63 ∧ xs.length * k.toNat ≤ sizeLine) ∧ NewC (List.replicate k.toNat xs).flatten μ Q
  | _, _ => False
def gCatC : DR2 := fun a b μ Q => match view μ a, view μ b with
  | .lst xs, .lst ys => xs.length + ys.length ≤ sizeLine ∧ NewC (xs ++ ys) μ Q
  | _, _ => False
theorem l_repC {K : PySem.W.Frag} : LOp K (rMulAll K) gRepC := by
  intro x y d e H Hc μ Q Qd s rx ry h rt
  unfold gRepC at h
  split at h
  · rename_i xs k e1 e2
    obtain ⟨a, vs, rfl, ha, ra⟩ := view_lst s rx e1
    exact .inr (.inl ⟨a, k, vs, rfl, view_int ry e2, ha, h.1.1, h.1.2.1, by rw [ra.length]; exact h.1.2.2, rt.newC s (ra.rep _) h.2⟩)
  · exact h.elim
theorem l_catC {K : PySem.W.Frag} : LOp K (rAddAll K) gCatC := by
  intro x y d e H Hc μ Q Qd s rx ry h rt
  unfold gCatC at h
  split at h
  · rename_i xs ys e1 e2
    obtain ⟨a, vs, rfl, ha, ra⟩ := view_lst s rx e1
    obtain ⟨b, ws, rfl, hb, rb⟩ := view_lst s ry e2
    exact .inr (.inl ⟨a, b, vs, ws, rfl, rfl, ha, hb, by rw [ra.length, rb.length]; exact h.1, rt.newC s (ra.append rb) h.2⟩)
  · exact h.elim
section
variable {X : Cx} {W : WX} {a b : Expr} {ta tb : DTE} {pos : Pos}
theorem de_repC (ha : DE X W a ta) (hb : DE X W b tb) : DE X W (.BinOp a .Mult b pos) (dOp gRepC ta tb) := de_op op_mulAll l_repC ha hb
theorem de_catC (ha : DE X W a ta) (hb : DE X W b tb) : DE X W (.BinOp a .Add b pos) (dOp gCatC ta tb) := de_op op_addAll l_catC ha hb
end

/-! ### more built-ins -/
def gInt : DRC := fun ds μ Q => match ds with
  | [.int i] => Q (.int i) μ
  | [.bl b] => Q (.int (if b then 1 else 0)) μ
  | _ => False
theorem l_int {K : PySem.W.Frag} : LCall K (fun xs H Q => (∃ i, xs = [.int i] ∧ Q (.int i) H) ∨ ∃ k, xs = [.bl k] ∧ Q (.int (if k then 1 else 0)) H) gInt := by
  intro vs ds H Hc μ Q Qd s ra h rt
  unfold gInt at h
  split at h
  · obtain ⟨v, rfl, r⟩ := ra.one'
    cases r
    exact .inl ⟨_, rfl, rt.val s (.int _) h⟩
  · obtain ⟨v, rfl, r⟩ := ra.one'
    cases r
    exact .inr ⟨_, rfl, rt.val s (.int _) h⟩
  · exact h.elim
def gSorted : DRC := fun ds μ Q => match ds with
  | [d] => ∃ ns : List Int, view μ d = .lst (ns.map D.int) ∧ ∀ ns' : List Int, ns'.Perm ns → ns'.Pairwise (· ≤ ·) → Q (.lst (ns'.map D.int)) μ
  | _ => False
theorem l_sorted {K : PySem.W.Frag} : LCall K (rSortedI K) gSorted := by
  intro vs ds H Hc μ Q Qd s ra h rt
  unfold gSorted at h
  split at h
  · obtain ⟨v, rfl, r⟩ := ra.one'
    obtain ⟨ns, hv, q⟩ := h
    obtain ⟨a, ws, rfl, ha, rb⟩ := view_lst s r hv
    rw [rb.ints] at ha
    exact ⟨a, ns, rfl, SqL.of ha, fun ns' p h1 h2 hp => rt.new s (.ofInts ns') (q ns' h1 h2) p hp⟩
  · exact h.elim
def gMaxL : DRC := fun ds μ Q => match ds with
  | [d] => ∃ ns : List Int, view μ d = .lst (ns.map D.int) ∧ 0 < ns.length ∧ ∀ m, m ∈ ns → (∀ y, y ∈ ns → y ≤ m) → Q (.int m) μ
  | _ => False
def gMinL : DRC := fun ds μ Q => match ds with
  | [d] => ∃ ns : List Int, view μ d = .lst (ns.map D.int) ∧ 0 < ns.length ∧ ∀ m, m ∈ ns → (∀ y, y ∈ ns → m ≤ y) → Q (.int m) μ
  | _ => False
theorem l_maxL {K : PySem.W.Frag} : LCall K (rMax K) gMaxL := by
  intro vs ds H Hc μ Q Qd s ra h rt
  unfold gMaxL at h
  split at h
  · obtain ⟨v, rfl, r⟩ := ra.one'
    obtain ⟨ns, hv, h0, q⟩ := h
    obtain ⟨a, ws, rfl, ha, rb⟩ := view_lst s r hv
    rw [rb.ints] at ha
    exact ⟨a, ns, rfl, SqL.of ha, h0, fun m h1 h2 => rt.val s (.int _) (q m h1 h2)⟩
  · exact h.elim
theorem l_minL {K : PySem.W.Frag} : LCall K (rMin K) gMinL := by
  intro vs ds H Hc μ Q Qd s ra h rt
  unfold gMinL at h
  split at h
  · obtain ⟨v, rfl, r⟩ := ra.one'
    obtain ⟨ns, hv, h0, q⟩ := h
    obtain ⟨a, ws, rfl, ha, rb⟩ := view_lst s r hv
    rw [rb.ints] at ha
    exact ⟨a, ns, rfl, SqL.of ha, h0, fun m h1 h2 => rt.val s (.int _) (q m h1 h2)⟩
  · exact h.elim
/-! ### {} -/
def dEmp (_ : XD) (_ : Sl) (μ : M) (Q : QD) : Prop := Q .emp μ
theorem de_emp {X : Cx} {W : WX} {pos : Pos} : DE X W (.Dict [] [] pos) dEmp := PE.imp pe_dnewK fun σ H Q ⟨δ, μ, Hc, Qd, Xd, s, rs, h, rt, rx⟩ p hp =>
  rt _ _ h _ _ (upd Hc p (.dK [])) (same_new (s.fresh hp).2) (s.data hp) (.emp upd_same)
end DL
set_option Elab.async false
set_option linter.all false
set_option maxRecDepth 100000
set_option maxHeartbeats 2000000
/-! The data layer: slices with a step. -/
namespace DL
open PySem PySem.Spec PyProof.Rows L2

/-! ### t[::-1] of a tuple -/
theorem pick_rev (xs : Array Value) : ((List.range xs.size).filterMap fun (m : Nat) => xs[(((xs.size : Int) - 1) + (m : Int) * (-1)).toNat]?).toArray = xs.toList.reverse.toArray := by
  congr 1
  apply List.ext_getElem?
  intro i
  have e : ((List.range xs.size).filterMap fun (m : Nat) => xs[(((xs.size : Int) - 1) + (m : Int) * (-1)).toNat]?) = (List.range xs.size).pmap (fun m (h : m < xs.size) => xs[xs.size - 1 - m]) (fun m hm => List.mem_range.mp hm) := by
    have key : ∀ (l : List Nat) (hl : ∀ m ∈ l, m < xs.size), (l.filterMap fun (m : Nat) => xs[(((xs.size : Int) - 1) + (m : Int) * (-1)).toNat]?) = l.pmap (fun m (h : m < xs.size) => xs[xs.size - 1 - m]) hl := by
      intro l
      induction l with
      | nil => intro _; rfl
      | cons m l ih =>
        intro hl
        have hm := hl m List.mem_cons_self
        have e1 : (((xs.size : Int) - 1) + (m : Int) * (-1)).toNat = xs.size - 1 - m := by omega
        rw [List.filterMap_cons, e1, Array.getElem?_eq_getElem (by omega), List.pmap_cons]
        simp only
        rw [ih fun k hk => hl k (List.mem_cons_of_mem _ hk)]
    exact key _ _
  rw [e]
  by_cases hi : i < xs.size
  · rw [List.getElem?_eq_getElem (by simpa using hi), List.getElem?_eq_getElem (by simpa using hi)]
    simp
  · rw [List.getElem?_eq_none (by simpa using hi), List.getElem?_eq_none (by simpa using hi)]
section
variable {prog : Program} {w : World} {A : Around} {E : Value → Shared → Prop} {s : Shared}
theorem sliceApplied_rev {sl : Addr} {t : Tok} {n : Nat} {Q : Int × Int × Nat → Shared → Prop} (hs : s.heap.IsSliceOf sl .none .none (.int (-1) t))
    (h : Q ((n : Int) - 1, -1, n) s) : wpAny (model prog w) A (Builtin.Slice.sliceApplied (.ref sl) (pure (n : Int))) Q E s := by
  obtain ⟨os, hos, hcs, hds⟩ := id hs
  unfold Builtin.Slice.sliceApplied Builtin.Slice.sliceFields
  refine wpAny_bind (wpAny_bind (wpAny_field hos hds (x := .none) rfl (wpAny_bind (wpAny_field hos hds (x := .none) rfl (wpAny_bind (wpAny_field hos hds (x := .int (-1) t) rfl (wpAny_pure ?_)))))))
  refine wpAny_bind (slicePart_int ?_)
  show wpAny _ _ (if ((-1 : Int) == 0) = true then _ else _) _ _ s
  rw [if_neg (by decide)]
  refine wpAny_bind (slicePart_none (wpAny_bind (slicePart_none (wpAny_bind (wpAny_pure ?_)))))
  have e1 : Builtin.Slice.sliceAdjust none none (-1) (n : Int) = ((n : Int) - 1, -1) := by
    unfold Builtin.Slice.sliceAdjust
    simp
  have e2 : Builtin.Slice.slicePlaces ((n : Int) - 1) (-1) (-1) = n := by
    unfold Builtin.Slice.slicePlaces
    simp
    split <;> omega
  show wpAny _ _ (match Builtin.Slice.sliceAdjust none none (-1) (n : Int) with | (lo, hi) => pure (lo, (-1 : Int), Builtin.Slice.slicePlaces lo hi (-1))) _ _ s
  rw [e1]
  show wpAny _ _ (pure ((n : Int) - 1, (-1 : Int), Builtin.Slice.slicePlaces ((n : Int) - 1) (-1) (-1))) _ _ s
  rw [e2]
  exact wpAny_pure h
/-- t[::-1] of a tuple: __getitem__ of tuples, walked from its definition -/
theorem getItem_tuple_rev {t sl : Addr} {u : Tok} {items : Array Value} {Q : Value → Shared → Prop} (tup : IsTup s.heap t items) (cut : s.heap.IsSliceOf sl .none .none (.int (-1) u))
    (goal : Q (.ref s.heap.objs.size) { s with heap := s.heap.push { cls := .type "tuple", data := .seq items.toList.reverse.toArray } }) (few : items.size ≤ sizeLine) :
    wpAny (model prog w) A (getItem (.ref t) (.ref sl)) Q E s := by
  have tyT := tup.typeIs
  have tyS : s.TypeIs (.ref sl) "slice" := by obtain ⟨o, ho, hc, _⟩ := cut; exact ⟨o, ho, hc⟩
  have fits : sizeOk (.seq items.toList.reverse.toArray) := by
    show items.toList.reverse.toArray.size ≤ sizeLine
    simpa using few
  have body : ∀ {P : Value → Shared → Prop} {X : Value → Shared → Prop}, P (.ref s.heap.objs.size) { s with heap := s.heap.push { cls := .type "tuple", data := .seq items.toList.reverse.toArray } } → wpAny (model prog w) A (call (.builtin "tuple.__getitem__") [.ref t, .ref sl]) P X s := by
    intro P X done
    refine wpAny_call_entry PyProof.Rows.slot_tuple_getitem tyT PyProof.Rows.entry_tuple_getitem ?_ (PyProof.Rows.args_tuple_getitem _ _)
    unfold Builtin.«tuple.__getitem__»
    obtain ⟨ot, hot, hct, nt, hdt⟩ := id tup
    generalize hA : Builtin.Slice.sliceApplied = SA
    wp_walk
    subst hA
    rw [hdt]
    refine wpAny_pure (wpAny_pure (wpAny_bind (wpAny_typeOf tyS ?_)))
    rw [if_pos (by decide)]
    refine wpAny_bind (sliceApplied_rev cut ?_)
    have other : ((((items.size : Nat) : Int) - 1) == 0 && (-1 : Int) == 1 && items.size == items.size) = false := by simp
    dsimp only
    rw [other, if_neg Bool.false_ne_true, pick_rev]
    unfold Builtin.Tuple.tupleExact
    refine wpAny_bind (wpAny_newObj_type ?_ fits)
    exact wpAny_pure ⟨_, rfl, done⟩
  unfold getItem
  generalize hS : @callSpecial? = CS
  wp_walk
  subst hS
  exact wpAny_callSpecial?_slot tyT PyProof.Rows.slot_tuple_getitem (body (wpAny_pure goal))
end
/-- a[::-1]: a new list, a new tuple -/
def rRev (K : PySem.W.Frag) : V → Hp → VK → Prop := fun x H Q => ∃ a xs, x = .ref a ∧ ((SqL K H a xs ∧ ∀ p, H p = none → Q (.ref p) (upd H p (.lst xs.reverse))) ∨ (SqT K H a xs ∧ ∀ p, H p = none → Q (.ref p) (upd H p (.tup xs.reverse))))
section
variable {X : Cx} {e : Expr} {te : TE} {pos p1 p2 p3 : Pos} {j : Nat}
theorem sizeV {xs : List V} {its : List Value} (r : Vals xs its) : its.toArray.size = xs.length := by
  have := r.length
  simp [this]
/-- a new object at the top of the heap, told as the value -/
theorem layTop {pins : List (Addr × Obj)} {σ : L2.St} {H : Hp} {s : Shared} {Q : VK} {o : HO} {ob : Obj} (I : Inv X pins σ H s) (ok : ∀ H', ObjOk X.prog X.w H' (s.heap.push ob) s.heap.objs.size o) (goal : ∀ p, H p = none → Q (.ref p) (upd H p o)) :
    EP X pins σ Q (.ref s.heap.objs.size) { s with heap := s.heap.push ob } :=
  ⟨.ref _, _, I.laid (t' := s.toks) (o := o) (fun _ _ e => Heap.get?_push_of_some _ e) (Nat.le_refl _) (ok _), rfl, goal _ (I.hok.fresh (Nat.le_refl _))⟩
theorem pe_rev (he : PE X e te) : PE X (.Subscript e (.Slice none none (some (.UnaryOp .USub (.Constant (.int 1) j p1) p3)) p2) pos) (fun σ H Q => te σ H fun x H1 => rRev X.K x H1 Q) := by
  refine ⟨fun pins s σ H Q I h => ?_⟩
  refine Subscript_ (thn (he.run pins s σ H _ I h) fun v s1 ⟨x, H1, I1, r1, q1⟩ => ?_)
  have hm : PE X (.UnaryOp .USub (.Constant (.int 1) j p1) p3) _ := pe_un un_neg pe_int
  refine wpAny_Slice ?_
  rw [evalPart_none]
  refine wpAny_pure ?_
  refine wpAny_pure ?_
  rw [evalPart_some]
  refine thn (hm.run pins s1 σ H1 (fun y H2 => y = .int (-1) ∧ H2 = H1) I1 ⟨1, rfl, rfl, rfl⟩) fun vk s3 ⟨y, H3, I3, ry, ey, eH⟩ => ?_
  subst ey eH
  obtain ⟨tk, rfl⟩ := ry
  have I4 : Inv X pins σ H3 { s3 with heap := s3.heap.push { cls := .type "slice", data := .fields #[.none, .none, .int (-1) tk] } } := I3.kept (t' := s3.toks) fun b ob q => Heap.get?_push_of_some _ q
  show wpAny (model X.prog X.w) X.A (subscriptTail e (.Slice none none (some (.UnaryOp .USub (.Constant (.int 1) j p1) p3)) p2) v (.ref s3.heap.objs.size)) (EP X pins σ Q) X.xe { s3 with heap := s3.heap.push { cls := .type "slice", data := .fields #[.none, .none, .int (-1) tk] } }
  obtain ⟨a, xs, rfl, ⟨hq, q⟩ | ⟨hq, q⟩⟩ := q1
  · cases r1
    obtain ⟨its, r, p, hz⟩ := I4.list hq
    refine tail_any (ops := [.ref a, _]) p.isList.typeIs PySem.slot_list_getitem.lookup (wpAny_getItem_list_slice p.isList (Heap.IsSliceOf.new ..) .none .none (.int (-1) tk) (by decide) ?_ (by rw [sizeV r]; exact hz)) (by with_unfolding_all rfl)
    rw [PySem.W.krv_pick]
    exact layTop (o := .lst xs.reverse) I4 (fun _ => ⟨by rw [List.length_reverse]; exact hz, its.reverse, 0, r.reverse, Heap.get?_push_size _ rfl⟩) q
  · cases r1
    obtain ⟨its, r, p, hz⟩ := I4.tuple hq
    exact tail_any (ops := [.ref a, _]) p.typeIs PyProof.Rows.slot_tuple_getitem.lookup (getItem_tuple_rev p (Heap.IsSliceOf.new ..) (layTop (o := .tup xs.reverse) I4 (fun _ => ⟨by rw [List.length_reverse]; exact hz, its.reverse, r.reverse, IsTup.new _ _⟩) q) (by rw [sizeV r]; exact hz)) (by with_unfolding_all rfl)
end
/-! over data -/
def kRev (Q : QD) (d : D) (μ : M) : Prop := match view μ d with
  | .lst xs => Q (.lst xs.reverse) μ
  | .tup xs => Q (.tup xs.reverse) μ
  | _ => False
def dRev (t : DTE) (W : XD) (δ : Sl) (μ : M) (Q : QD) : Prop := t W δ μ (kRev Q)
section
variable {X : Cx} {W : WX} {e : Expr} {te : DTE} {pos p1 p2 p3 : Pos} {j : Nat}
theorem de_rev (he : DE X W e te) : DE X W (.Subscript e (.Slice none none (some (.UnaryOp .USub (.Constant (.int 1) j p1) p3)) p2) pos) (dRev te) :=
  PE.imp (pe_rev he) fun σ H Q ⟨δ, μ, Hc, Qd, Xd, s, rs, h, rt, rx⟩ => (show upE X.K W te σ H _ from ⟨δ, μ, Hc, _, Xd, s, rs, h, fun d μ1 h1 v H1 Hc1 e1 s1 r1 => by
    unfold kRev at h1
    split at h1
    · rename_i xs ev
      obtain ⟨a, vs, rfl, ha, ra⟩ := view_lst s1 r1 ev
      exact ⟨a, vs, rfl, .inl ⟨SqL.of ha, (rt.mono e1).new s1 ra.reverse h1⟩⟩
    · rename_i xs ev
      obtain ⟨a, vs, rfl, ha, ra⟩ := view_tup s1 r1 ev
      exact ⟨a, vs, rfl, .inr ⟨ha, (rt.mono e1).newT s1 ra.reverse h1⟩⟩
    · exact h1.elim, rx⟩)
end
end DL
set_option Elab.async false
set_option linter.all false
set_option maxRecDepth 100000
set_option maxHeartbeats 2000000
/-! The data layer: comprehensions (a list that is being made is hidden while its items are reckoned). -/
namespace DL
open PySem PySem.Spec L2

def hide (H : Hp) (p : Addr) : Hp := fun b => if b = p then none else H b
theorem hide_same {H : Hp} {p : Addr} : hide H p p = none := by unfold hide; rw [if_pos rfl]
theorem hide_ne {H : Hp} {p b : Addr} (h : b ≠ p) : hide H p b = H b := by unfold hide; rw [if_neg h]
theorem hide_some {H : Hp} {p b : Addr} {o : HO} (h : hide H p b = some o) : b ≠ p ∧ H b = some o := by
  unfold hide at h
  split at h
  · cases h
  · rename_i n; exact ⟨n, h⟩
section
variable {X : Cx} {pins : List (Addr × Obj)} {σ : L2.St} {H : Hp} {s : Shared} {p : Addr} {xs : List V}
theorem inv_hide (I : L2.Inv X pins σ H s) (hp : H p = some (.lst xs)) : ∃ its n, Vals xs its ∧ xs.length ≤ sizeLine ∧ s.heap.get? p = some { cls := .type "list", data := .seq its.toArray n } ∧ L2.Inv X ((p, { cls := .type "list", data := .seq its.toArray n }) :: pins) σ (hide H p) s := by
  obtain ⟨z, its, n, r, e⟩ := I.hok p _ hp
  refine ⟨its, n, r, z, e, ?_⟩
  have neO : ∀ b u, H b = some u → (∀ ys, u ≠ .lst ys) → hide H p b = some u := fun b u hb hu => by
    rw [hide_ne]
    · exact hb
    · intro z
      rw [z, hp] at hb
      exact hu xs (Option.some.inj hb).symm
  have hf : ∀ b ∈ X.fs, H b = none := fun b hb => by
    obtain ⟨_, o, ho, _⟩ := I.ok.funs.mem hb
    exact I.base.free b o ho (I.ok.frf b hb) fun z => I.ok.exfs b z hb
  have hn : ∀ b, H b = none → hide H p b = none := fun b hb => by
    by_cases e : b = p
    · rw [e]; exact hide_same
    · rw [hide_ne e]; exact hb
  refine ⟨I.ok, I.os, I.bare, ⟨I.base.keep, I.base.slot, fun b o e n hx => hn b (I.base.free b o e n hx), I.base.there, fun b ys e => neO _ _ (I.base.tups b ys e) (fun _ z => nomatch z), fun b o u e => neO _ _ (I.base.frzs b o u e) (fun _ z => nomatch z), fun b ps e => ?_⟩, I.loc, I.cell, hn _ I.free, fun x c e => hn _ (I.freeC x c e), fun q hq => ?_, fun b u e => ?_, I.len⟩
  · obtain ⟨more, q⟩ := I.base.tbls b ps e
    exact ⟨more, neO _ _ q (fun _ z => nomatch z)⟩
  · rcases List.mem_append.mp hq with hq | hq
    · obtain ⟨h1, h2, h3⟩ := I.pin q (List.mem_append_left _ hq)
      exact ⟨h1, hn _ h2, h3⟩
    · rcases List.mem_cons.mp hq with rfl | hq
      · refine ⟨e, hide_same, fun z => ?_, fun z => ?_, fun v z => nomatch z⟩
        · have := I.free
          rw [← z, hp] at this
          cases this
        · have := hf _ z
          rw [hp] at this
          cases this
      · obtain ⟨h1, h2, h3⟩ := I.pin q (List.mem_append_right _ hq)
        exact ⟨h1, hn _ h2, h3⟩
  · obtain ⟨_, e'⟩ := hide_some e
    exact (I.hok b u e').stay (fun _ _ _ q => q) (fun c q => neO _ _ q (fun _ z => nomatch z)) fun c ys q => neO _ _ q (fun _ z => nomatch z)
theorem inv_back {its : List Value} {n : Nat} {H' : Hp} {s' : Shared} {σ' : L2.St} (I : L2.Inv X pins σ H s) (hp : H p = some (.lst xs)) (r : Vals xs its) (z : xs.length ≤ sizeLine) (J : L2.Inv X ((p, { cls := .type "list", data := .seq its.toArray n }) :: pins) σ' H' s') :
    H' p = none ∧ L2.Inv X pins σ' (upd H' p (.lst xs)) s' := by
  obtain ⟨e, hn, _⟩ := J.pin (p, _) (List.mem_append_right _ List.mem_cons_self)
  refine ⟨hn, ?_⟩
  have neN : ∀ b, H b = none → b ≠ p := fun b hb z => by rw [z, hp] at hb; cases hb
  have neS : ∀ b u, H' b = some u → upd H' p (.lst xs) b = some u := fun b u hb => by
    rw [upd_ne]
    · exact hb
    · intro z
      have hn' : H' p = none := hn
      rw [z, hn'] at hb
      cases hb
  have up : ∀ b, b ≠ p → H' b = none → upd H' p (.lst xs) b = none := fun b hb h => by rw [upd_ne hb]; exact h
  refine ⟨J.ok, J.os, J.bare, ⟨J.base.keep, J.base.slot, fun b o e n hx => up b (neN b (I.base.free b o e n hx)) (J.base.free b o e n hx), J.base.there, fun b ys e => neS _ _ (J.base.tups b ys e), fun b o u e => neS _ _ (J.base.frzs b o u e), fun b ps e => ?_⟩, J.loc, J.cell, up _ (neN _ I.free) J.free, fun x c e => up _ (neN _ (I.freeC x c e)) (J.freeC x c e), fun q hq => ?_, fun b u e' => ?_, J.len⟩
  · obtain ⟨more, q⟩ := J.base.tbls b ps e
    exact ⟨more, neS _ _ q⟩
  · have hq' : q ∈ X.pn ++ ((p, { cls := .type "list", data := .seq its.toArray n }) :: pins) := by
      rcases List.mem_append.mp hq with h | h
      · exact List.mem_append_left _ h
      · exact List.mem_append_right _ (List.mem_cons_of_mem _ h)
    obtain ⟨h1, h2, h3⟩ := J.pin q hq'
    exact ⟨h1, up _ (neN _ (I.pin q hq).2.1) h2, h3⟩
  · by_cases hb : b = p
    · subst hb
      rw [upd_same] at e'
      cases e'
      exact ⟨z, its, n, r, e⟩
    · rw [upd_ne hb] at e'
      exact (J.hok b u e').stay (fun _ _ _ q => q) (fun c q => neS _ _ q) fun c ys q => neS _ _ q
/-- the list at p is set aside while an expression is reckoned -/
theorem pe_hide {e : Expr} {t : TE} (h : PE X e t) : PE X e (fun σ H Q => ∃ p xs, H p = some (.lst xs) ∧ t σ (hide H p) fun v H' => H' p = none → Q v (upd H' p (.lst xs))) := by
  refine ⟨fun pins s σ H Q I ⟨p, xs, hp, hw⟩ => ?_⟩
  obtain ⟨its, n, r, z, e, J⟩ := inv_hide I hp
  refine thn (h.run _ s σ _ _ J hw) fun v s1 ⟨x, H1, J1, r1, q1⟩ => ?_
  exact ⟨x, _, (inv_back I hp r z J1).2, r1, q1 (inv_back I hp r z J1).1⟩
theorem pts_hide {es : List Expr} {t : TT} (h : PTs X es t) : PTs X es (fun σ H Q => ∃ p xs, H p = some (.lst xs) ∧ t σ (hide H p) fun v H' => H' p = none → Q v (upd H' p (.lst xs))) := by
  refine ⟨fun pins s σ H Q I ⟨p, xs, hp, hw⟩ => ?_⟩
  obtain ⟨its, n, r, z, e, J⟩ := inv_hide I hp
  refine thn (h.run _ s σ _ _ J hw) fun v s1 ⟨H1, J1, q1⟩ => ?_
  exact ⟨_, (inv_back I hp r z J1).2, q1 (inv_back I hp r z J1).1⟩
theorem pg_hide {tg : Expr} {g : TG} (h : PG X tg g) : PG X tg (fun v σ H Q => ∃ p xs, H p = some (.lst xs) ∧ g v σ (hide H p) fun σ' H' => H' p = none → Q σ' (upd H' p (.lst xs))) := by
  refine ⟨fun pins s σ H v u Q I rv ⟨p, xs, hp, hw⟩ => ?_⟩
  obtain ⟨its, n, r, z, e, J⟩ := inv_hide I hp
  refine thn (h.run _ s σ _ v u _ J rv hw) fun _ s1 ⟨σ1, H1, J1, q1⟩ => ?_
  exact ⟨σ1, _, (inv_back I hp r z J1).2, q1 (inv_back I hp r z J1).1⟩
end
theorem split_hide {K : PySem.W.Frag} {H Hc : Hp} {μ : M} {p : Addr} {ds : List D} (s : Split K H Hc (updM μ p (.lst ds))) (hn : μ p = none) : Split K (hide H p) Hc μ ∧ ∃ xs, H p = some (.lst xs) ∧ RepA K Hc xs ds := by
  obtain ⟨h1, o, h2, xs, rfl, ra⟩ := s.cell p _ updM_same
  refine ⟨⟨fun q c e => ?_, fun q e => ?_⟩, xs, h2, ra⟩
  · have ne : q ≠ p := fun z => by rw [z, hn] at e; cases e
    rw [hide_ne ne]
    exact s.cell q c (by rw [updM_ne ne]; exact e)
  · by_cases ne : q = p
    · rw [ne, hide_same, h1]
    · rw [hide_ne ne]
      exact s.rest q (by rw [updM_ne ne]; exact e)
theorem split_back {K : PySem.W.Frag} {H Hc : Hp} {μ : M} {p : Addr} {ds : List D} {xs : List V} (s : Split K H Hc μ) (hp : H p = none) (ra : RepA K Hc xs ds) : μ p = none ∧ Split K (upd H p (.lst xs)) Hc (updM μ p (.lst ds)) := ⟨(s.fresh hp).1, s.new hp ⟨xs, rfl, ra⟩⟩
def hidE (t : TE) : TE := fun σ H Q => ∃ p xs, H p = some (.lst xs) ∧ t σ (hide H p) fun v H' => H' p = none → Q v (upd H' p (.lst xs))
def hidT' (t : TT) : TT := fun σ H Q => ∃ p xs, H p = some (.lst xs) ∧ t σ (hide H p) fun v H' => H' p = none → Q v (upd H' p (.lst xs))
def hidG (g : TG) : TG := fun v σ H Q => ∃ p xs, H p = some (.lst xs) ∧ g v σ (hide H p) fun σ' H' => H' p = none → Q σ' (upd H' p (.lst xs))
/-- one comprehension: what stands at its end is wanted by Qe -/
theorem lc_lift {K : PySem.W.Frag} {W : WX} {ti : DTI} {g : TG} {f : TGD} {tt : DTT} {te : DTE} {vs : List Nat} (lg : LG K g f) (sl : SlotsIn f vs) {σ : L2.St} {H Hc : Hp} {μ : M} {δ : Sl} {Xd : XD} {Q : VK} {Qe : List D → M → Prop}
    (s : Split K H Hc μ) (rs : RepS K Hc σ δ) (h : ti Xd δ μ (kLc f tt te vs Qe δ)) (rx : RetX K Hc Xd (fun cls d H => W cls d σ H))
    (fin : ∀ p acc μ' H' Hc', Same Hc Hc' → Split K H' Hc' (updM μ' p (.lst acc)) → μ' p = none → Qe acc μ' → Q (.ref p) H') : tLc (upI K W ti) (hidG g) (hidT' (upT K W0 tt)) (hidE (upE K W0 te)) vs σ H Q := by
  refine ⟨δ, μ, Hc, _, Xd, s, rs, h, fun S μ1 h1 J H1 Hc1 e1 s1 wk => ?_, rx⟩
  intro p hp
  obtain ⟨N, n0, ns⟩ := h1
  refine ⟨fun i m H' => i + m = S.ds.length ∧ ∃ μ' Hc' acc, Same Hc1 Hc' ∧ Split K H' Hc' (updM μ' p (.lst acc)) ∧ μ' p = none ∧ N i acc μ', ⟨S.ds.length, by omega, μ1, Hc1, [], Same.refl _, (split_back s1 hp .nil).2, (split_back s1 hp (.nil : RepA K Hc1 [] [])).1, n0⟩, ?_⟩
  rintro i m H2 ⟨hm, μ2, Hc2, acc, e2, s2, n2, l2⟩
  obtain ⟨ok2, l3, l4⟩ := ns i acc μ2 l2
  cases hd : S.ds[i]? with
  | none =>
    have hi : i = S.ds.length := by
      have := List.getElem?_eq_none_iff.mp hd
      omega
    exact .inl ⟨(wk i H2 Hc2 _ e2 s2 (S.mono _ _ _ n2 ok2)).2 (by omega), fin p acc μ2 H2 Hc2 (e1.trans e2) s2 n2 (l4 hi)⟩
  | some d =>
    obtain ⟨go, yl⟩ := (wk i H2 Hc2 _ e2 s2 (S.mono _ _ _ n2 ok2)).1 d hd
    refine .inr ⟨go, fun H' => ∃ μ' Hc' acc, Same Hc1 Hc' ∧ Split K H' Hc' (updM μ' p (.lst acc)) ∧ μ' p = none ∧ N (i + 1) acc μ', fun H' q => ?_, fun x H' hy => ?_⟩
    · have hlt : i < S.ds.length := (List.getElem?_eq_some_iff.mp hd).1
      exact ⟨m - 1, by omega, by omega, q⟩
    · obtain ⟨Hc3, e3, s3, r3⟩ := yl x H' hy
      obtain ⟨cs, hcs, hq⟩ := turnC.ex (l3 d hd)
      obtain ⟨s3h, xs, hx, ra⟩ := split_hide s3 n2
      have e03 := (e1.trans e2).trans e3
      have rs3 : RepS K Hc3 (wipe σ vs) (wipeD δ vs) := (rs.mono e03).wipe vs
      refine ⟨p, xs, hx, lg x d _ Hc3 μ2 _ _ cs s3h r3 hcs fun bs rb => ?_⟩
      intro hn4
      refine ⟨by
        rw [wipe_sets fun b hb => ?_]
        · have key : ∀ (τ : L2.St) (ws : List Nat), wipe (wipe τ ws) ws = wipe τ ws := fun τ ws => by
            have k2 : ∀ (us : List Nat), (∀ u ∈ us, u ∈ ws) → wipe (wipe τ us) ws = wipe τ ws := by
              intro us
              induction us with
              | nil => intro _; rfl
              | cons u us ih =>
                intro hu
                show wipe ((wipe τ us).set u none) ws = wipe τ ws
                rw [wipe_set (hu u List.mem_cons_self), ih fun z hz => hu z (List.mem_cons_of_mem _ hz)]
            exact k2 ws fun _ h => h
          exact key σ vs
        · have z := rb.fst
          have m1 : b.1 ∈ bs.map (·.1) := List.mem_map.mpr ⟨b, hb, rfl⟩
          rw [z] at m1
          obtain ⟨c, hc, ec⟩ := List.mem_map.mp m1
          rw [← ec]
          exact sl μ2 d cs hcs c hc, ?_⟩
      -- the tests
      refine ⟨p, xs, upd_same, sets cs (wipeD δ vs), μ2, Hc3, _, XF, ?_, RepS.sets rb rs3, hq, ?_, fun _ _ _ z => z.elim⟩
      · have e : hide (upd (hide H' p) p (.lst xs)) p = hide H' p := by
          funext b
          by_cases hb : b = p
          · rw [hb, hide_same, hide_same]
          · rw [hide_ne hb, upd_ne hb]
        rw [e]
        exact s3h
      · intro b μ4 h4 H4 Hc4 e4 s4 hn5
        cases b with
        | true =>
          rw [if_pos rfl]
          refine ⟨p, xs, upd_same, sets cs (wipeD δ vs), μ4, Hc4, _, XF, ?_, (RepS.sets rb rs3).mono e4, h4, ?_, fun _ _ _ z => z.elim⟩
          · have e : hide (upd H4 p (.lst xs)) p = H4 := by
              funext b
              by_cases hb : b = p
              · rw [hb, hide_same, hn5]
              · rw [hide_ne hb, upd_ne hb]
            rw [e]
            exact s4
          · intro y μ5 h5 v H5 Hc5 e5 s5 r5 hn6
            refine ⟨xs, upd_same, by rw [ra.length]; exact h5.1, μ5, Hc5, acc ++ [y], ((e2.trans e3).trans e4).trans e5, ?_, (s5.fresh hn6).1, h5.2⟩
            have e : upd (upd H5 p (.lst xs)) p (.lst (xs ++ [v])) = upd H5 p (.lst (xs ++ [v])) := upd_upd
            rw [e]
            exact (split_back s5 hn6 ((ra.mono (e4.trans e5)).append (RepA.one r5))).2
        | false =>
          rw [if_neg Bool.false_ne_true]
          exact ⟨μ4, Hc4, acc, (e2.trans e3).trans e4, (split_back s4 hn5 (ra.mono e4)).2, (s4.fresh hn5).1, h4⟩
def DTs (X : Cx) (W : WX) (es : List Expr) (t : DTT) : Prop := PTs X es (upT X.K W t)
section
variable {X : Cx} {W : WX} {elt tg iter c : Expr} {ifs : List Expr} {scope : Scope} {own : List (Str × Nat)} {pos : Pos} {ti : DTI} {g : TG} {f : TGD} {tt : DTT} {te : DTE}
theorem dts_nil : DTs X W [] dYes := ⟨fun pins s σ H Q I h => pts_nil.run pins s σ H Q I (let ⟨δ, μ, Hc, Qd, Xd, s, rs, h, rt, rx⟩ := h; rt _ _ h _ Hc (Same.refl _) s)⟩
theorem dts_one (h : DT X W c tt) : DTs X W [c] tt := pts_one h
theorem fin_data {K : PySem.W.Frag} {Hc : Hp} {Qd : QD} {Q : VK} (rt : Ret K Hc Qd Q) : ∀ p acc μ' H' Hc', Same Hc Hc' → Split K H' Hc' (updM μ' p (.lst acc)) → μ' p = none → Qd (.lst acc) μ' → Q (.ref p) H' := fun p acc μ' H' Hc' e s n q => by
  obtain ⟨h1, o, h2, xs, rfl, ra⟩ := s.cell p _ updM_same
  obtain ⟨Hc2, e2, s2, hh⟩ := s.sub (Sub.new n)
  exact rt _ _ q _ _ Hc2 (e.trans e2) s2 (.lst (by rw [hh p n]; exact h2) (ra.mono e2))
theorem fin_cell {K : PySem.W.Frag} {Hc : Hp} {Qd : QD} {Q : VK} (rt : Ret K Hc Qd Q) : ∀ p acc μ' H' Hc', Same Hc Hc' → Split K H' Hc' (updM μ' p (.lst acc)) → μ' p = none → (∀ p, μ' p = none → Qd (.raw (.ref p)) (updM μ' p (.lst acc))) → Q (.ref p) H' := fun p acc μ' H' Hc' e s n q => rt _ _ (q p n) _ _ _ e s (.raw _)
theorem de_lc (hN : X.N.Nodup) (hi : DI X W tg iter ti) (ok : BlkOk X.N X.env.scope scope own) (lg : LG X.K g f) (sl : SlotsIn f (own.map (·.2)))
    (hg : ∀ (s : Shared) (H : Hp) (C : Addr) (cl : List (Str × Addr)) (fp : List Addr), PG (X.blk s H scope (compEnvC scope cl C X.env) fp) tg g) (ht : ∀ (s : Shared) (H : Hp) (C : Addr) (cl : List (Str × Addr)) (fp : List Addr), DTs (X.blk s H scope (compEnvC scope cl C X.env) fp) W0 ifs tt)
    (he : ∀ (s : Shared) (H : Hp) (C : Addr) (cl : List (Str × Addr)) (fp : List Addr), DE (X.blk s H scope (compEnvC scope cl C X.env) fp) W0 elt te) (hc : X.calm = true := by rfl) (hs : ∀ x, foldedSetIterable iter X.env x = pure x := by intro _; rfl) :
    DE X W (.ListComp elt [⟨tg, iter, ifs, 0⟩] scope pos) (dLc ti f tt te (own.map (·.2))) :=
  PE.imp (pe_lc (g := hidG g) (tt := hidT' (upT X.K W0 tt)) (te := hidE (upE X.K W0 te)) hc hN hi ok (fun s H C cl fp => pg_hide (hg s H C cl fp)) (fun s H C cl fp => pts_hide (t := upT X.K W0 tt) (ht s H C cl fp)) (fun s H C cl fp => pe_hide (t := upE X.K W0 te) (he s H C cl fp)) hs) fun σ H Q ⟨δ, μ, Hc, Qd, Xd, s, rs, h, rt, rx⟩ => lc_lift lg sl s rs h rx (fin_data rt)
theorem de_lcC (hN : X.N.Nodup) (hi : DI X W tg iter ti) (ok : BlkOk X.N X.env.scope scope own) (lg : LG X.K g f) (sl : SlotsIn f (own.map (·.2)))
    (hg : ∀ (s : Shared) (H : Hp) (C : Addr) (cl : List (Str × Addr)) (fp : List Addr), PG (X.blk s H scope (compEnvC scope cl C X.env) fp) tg g) (ht : ∀ (s : Shared) (H : Hp) (C : Addr) (cl : List (Str × Addr)) (fp : List Addr), DTs (X.blk s H scope (compEnvC scope cl C X.env) fp) W0 ifs tt)
    (he : ∀ (s : Shared) (H : Hp) (C : Addr) (cl : List (Str × Addr)) (fp : List Addr), DE (X.blk s H scope (compEnvC scope cl C X.env) fp) W0 elt te) (hc : X.calm = true := by rfl) (hs : ∀ x, foldedSetIterable iter X.env x = pure x := by intro _; rfl) :
    DE X W (.ListComp elt [⟨tg, iter, ifs, 0⟩] scope pos) (dLcC ti f tt te (own.map (·.2))) :=
  PE.imp (pe_lc (g := hidG g) (tt := hidT' (upT X.K W0 tt)) (te := hidE (upE X.K W0 te)) hc hN hi ok (fun s H C cl fp => pg_hide (hg s H C cl fp)) (fun s H C cl fp => pts_hide (t := upT X.K W0 tt) (ht s H C cl fp)) (fun s H C cl fp => pe_hide (t := upE X.K W0 te) (he s H C cl fp)) hs) fun σ H Q ⟨δ, μ, Hc, Qd, Xd, s, rs, h, rt, rx⟩ => lc_lift lg sl s rs h rx (fin_cell rt)
/-- y = [..] -/
theorem ds_setLc {i : Nat} {y : Str} {py spos : Pos} (hN : X.N.Nodup) (hi : DI X W tg iter ti) (ok : BlkOk X.N X.env.scope scope own) (lg : LG X.K g f) (sl : SlotsIn f (own.map (·.2)))
    (hg : ∀ (s : Shared) (H : Hp) (C : Addr) (cl : List (Str × Addr)) (fp : List Addr), PG (X.blk s H scope (compEnvC scope cl C X.env) fp) tg g) (ht : ∀ (s : Shared) (H : Hp) (C : Addr) (cl : List (Str × Addr)) (fp : List Addr), DTs (X.blk s H scope (compEnvC scope cl C X.env) fp) W0 ifs tt)
    (he : ∀ (s : Shared) (H : Hp) (C : Addr) (cl : List (Str × Addr)) (fp : List Addr), DE (X.blk s H scope (compEnvC scope cl C X.env) fp) W0 elt te) (hsw : swapsWith (.ListComp elt [⟨tg, iter, ifs, 0⟩] scope pos) (some (.Name y py)) spos.line X.env = pure true)
    (hy : X.N[i]? = some y := by rfl) (hyl : X.env.scope.names.lookup y = some .local := by rfl) (hc : X.calm = true := by rfl) (hs : ∀ x, foldedSetIterable iter X.env x = pure x := by intro _; rfl) :
    DS X W (.Assign [.Name y py] (.ListComp elt [⟨tg, iter, ifs, 0⟩] scope pos) spos) (dSet i (dLc ti f tt te (own.map (·.2)))) :=
  PS.imp (ps_setLc (g := hidG g) (tt := hidT' (upT X.K W0 tt)) (te := hidE (upE X.K W0 te)) hc hN hy hyl hsw hi ok (fun s H C cl fp => pg_hide (hg s H C cl fp)) (fun s H C cl fp => pts_hide (t := upT X.K W0 tt) (ht s H C cl fp)) (fun s H C cl fp => pe_hide (t := upE X.K W0 te) (he s H C cl fp)) hs) fun D σ H ⟨δ, μ, Hc, Dd, s, rs, h, rt⟩ =>
    lc_lift (Q := fun x H1 => gName i x σ H1 D.nx) lg sl s rs h (rt.xc.at rs) (fin_data (Qd := fun d μ1 => Dd.nx (δ.set i (some d)) μ1) fun d μ1 h1 v H1 Hc1 e1 s1 r1 => rt.nx _ _ h1 _ _ _ e1 s1 ((rs.mono e1).set i r1))
theorem ds_setLcC {i : Nat} {y : Str} {py spos : Pos} (hN : X.N.Nodup) (hi : DI X W tg iter ti) (ok : BlkOk X.N X.env.scope scope own) (lg : LG X.K g f) (sl : SlotsIn f (own.map (·.2)))
    (hg : ∀ (s : Shared) (H : Hp) (C : Addr) (cl : List (Str × Addr)) (fp : List Addr), PG (X.blk s H scope (compEnvC scope cl C X.env) fp) tg g) (ht : ∀ (s : Shared) (H : Hp) (C : Addr) (cl : List (Str × Addr)) (fp : List Addr), DTs (X.blk s H scope (compEnvC scope cl C X.env) fp) W0 ifs tt)
    (he : ∀ (s : Shared) (H : Hp) (C : Addr) (cl : List (Str × Addr)) (fp : List Addr), DE (X.blk s H scope (compEnvC scope cl C X.env) fp) W0 elt te) (hsw : swapsWith (.ListComp elt [⟨tg, iter, ifs, 0⟩] scope pos) (some (.Name y py)) spos.line X.env = pure true)
    (hy : X.N[i]? = some y := by rfl) (hyl : X.env.scope.names.lookup y = some .local := by rfl) (hc : X.calm = true := by rfl) (hs : ∀ x, foldedSetIterable iter X.env x = pure x := by intro _; rfl) :
    DS X W (.Assign [.Name y py] (.ListComp elt [⟨tg, iter, ifs, 0⟩] scope pos) spos) (dSet i (dLcC ti f tt te (own.map (·.2)))) :=
  PS.imp (ps_setLc (g := hidG g) (tt := hidT' (upT X.K W0 tt)) (te := hidE (upE X.K W0 te)) hc hN hy hyl hsw hi ok (fun s H C cl fp => pg_hide (hg s H C cl fp)) (fun s H C cl fp => pts_hide (t := upT X.K W0 tt) (ht s H C cl fp)) (fun s H C cl fp => pe_hide (t := upE X.K W0 te) (he s H C cl fp)) hs) fun D σ H ⟨δ, μ, Hc, Dd, s, rs, h, rt⟩ =>
    lc_lift (Q := fun x H1 => gName i x σ H1 D.nx) lg sl s rs h (rt.xc.at rs) (fin_cell (Qd := fun d μ1 => Dd.nx (δ.set i (some d)) μ1) fun d μ1 h1 v H1 Hc1 e1 s1 r1 => rt.nx _ _ h1 _ _ _ e1 s1 ((rs.mono e1).set i r1))
end
end DL
set_option Elab.async false
set_option linter.all false
set_option maxRecDepth 100000
set_option maxHeartbeats 2000000
/-! The data layer: errors, defs. -/
namespace DL
open PySem PySem.Spec L2
section
variable {X : Cx} {W : WX} {e : Expr} {pos p : Pos}
/-- raise C('..') -/
def dRaise (C : Addr) (E : DEnds) (δ : Sl) (μ : M) : Prop := E.xc δ (.ref C) none μ
theorem ds_raise {C : Addr} (tk : Takes X W) (he : PMk X e (fun _ H Q => Q (.ref C) none H)) (hc : X.calm = true := by rfl) : DS X W (.Raise (some e) none pos) (dRaise C) :=
  PS.imp (ps_raise hc tk he) fun D σ H ⟨δ, μ, Hc, Dd, s, rs, h, rt⟩ => rt.xc δ _ none μ h σ none H Hc (Same.refl _) s rs True.intro
/-- try: body except x as n: suite -/
def kUnset (i : Nat) (R : Sl → M → Prop) (δ : Sl) (μ : M) : Prop := R (δ.set i none) μ
def suiteE (i : Nat) (E : DEnds) : DEnds := { nx := kUnset i E.nx, rt := E.rt, bk := kUnset i E.bk, ct := kUnset i E.ct, xc := fun _ => XF }
def kTry (K : PySem.W.Frag) (c : Value) (i : Nat) (ts : Addr → DTS) (E : DEnds) (δ : Sl) (cls : Value) (fs : Option (List (Str × D))) (μ : M) : Prop := ∃ b, PySem.W.exmOne K cls c = some b ∧
  (b = true → ∀ a, μ a = none → ts a (suiteE i E) (δ.set i (some (.raw (.ref a)))) μ) ∧ (b = false → E.xc δ cls fs μ)
def dTryAs (K : PySem.W.Frag) (c : Value) (i : Nat) (tb : DTS) (ts : Addr → DTS) (E : DEnds) (δ : Sl) (μ : M) : Prop := tb { E with xc := kTry K c i ts E } δ μ
theorem ds_tryAs {x n : Str} {c : Value} {i : Nat} {body suite : List Stmt} {b0 : Stmt} {np pos' : Pos} {tb : DTS} {ts : Addr → DTS} (hN : X.N.Nodup) (hc : Names X x c) (tk : Takes X W)
    (hb : ∀ (W' : WX) (pn : List (Addr × Obj)) (xe : Value → Shared → Prop), Takes (X.tr pn xe) W' → PassesOwn (model X.prog X.w) X.A X.env xe → DSs (X.tr pn xe) W' body tb)
    (hsu : ∀ (a : Addr) (pn : List (Addr × Obj)), DSs (X.suite a pn) W0 (b0 :: suite) (ts a)) (hs : X.stack = X.env :: X.outer := by rfl) (hf : X.env.frame = some X.env.locals := by rfl) (hi : X.N[i]? = some n := by rfl) (hln : X.env.kindOf n = some .local := by rfl) :
    DS X W (.Try body [.ExceptHandler (some (.Name x np)) (some n) (b0 :: suite) pos'] [] [] pos) (dTryAs X.K c i tb ts) :=
  PS.imp (ps_try_as (i := i) (tb := fun W' => upS X.K W' tb) (ts := fun a _ _ => upS X.K W0 (ts a)) (Wout := W) hs hf hN hi hln hc tk (fun W' pn xe tk' po => hb W' pn xe tk' po) (fun a oe cls d pn hz hf => hsu a ((a, oe) :: pn)))
    fun D σ H ⟨δ, μ, Hc, Dd, s, rs, h, rt⟩ => ⟨δ, μ, Hc, _, s, rs, h, ⟨rt.nx, rt.rt, rt.bk, rt.ct, fun δ1 cls fs μ1 hx σ1 d H1 Hc1 e1 s1 rs1 xo => by
      obtain ⟨b, hb, h1, h2⟩ := hx
      refine ⟨b, hb, fun hb1 a ha => ?_, fun hb0 => rt.xc _ _ _ _ (h2 hb0) _ _ _ _ e1 s1 rs1 xo⟩
      refine ⟨_, μ1, Hc1, _, s1, rs1.set i (.raw _), h1 hb1 a (s1.fresh ha).1, ?_⟩
      refine ⟨fun δ2 μ2 q2 σ2 H2 Hc2 e2 s2 rs2 => ?_, rt.rt.mono e1, fun δ2 μ2 q2 σ2 H2 Hc2 e2 s2 rs2 => ?_, fun δ2 μ2 q2 σ2 H2 Hc2 e2 s2 rs2 => ?_, fun _ _ _ _ z => z.elim⟩
      · exact rt.nx _ _ q2 _ _ _ (e1.trans e2) s2 (rs2.unset i none)
      · exact rt.bk _ _ q2 _ _ _ (e1.trans e2) s2 (rs2.unset i none)
      · exact rt.ct _ _ q2 _ _ _ (e1.trans e2) s2 (rs2.unset i none)⟩⟩
end

/-! ### defs -/
def Fin (Q : QD) : QD := fun d μ => ∃ μ', Sub μ' μ ∧ Q d μ'
theorem Fin.of {Q : QD} {d : D} {μ : M} (h : Q d μ) : Fin Q d μ := ⟨μ, Sub.refl _, h⟩
def FinX (Xd : XD) : XD := fun c f μ => ∃ μ', Sub μ' μ ∧ Xd c f μ'
def kEnd (Q : QD) (_ : Sl) (μ : M) : Prop := Fin Q .non μ
def ends (Q : QD) (Xd : XD) : DEnds := { nx := kEnd Q, rt := Fin Q, bk := fun _ _ => False, ct := fun _ _ => False, xc := fun _ => Xd }
def startD (N : List Str) (ds : List D) : Sl := ds.map some ++ List.replicate (N.length - ds.length) none
theorem ret_fin {K : PySem.W.Frag} {Hc : Hp} {Qd : QD} {Q : VK} (rt : Ret K Hc Qd Q) : Ret K Hc (Fin Qd) Q := fun d μ ⟨μ', sb, h⟩ v H' Hc' e s r => by
  obtain ⟨Hc2, e2, s2, _⟩ := s.sub sb
  exact rt d μ' h v H' Hc2 (e.trans e2) s2 (r.mono e2)
theorem retX_fin {K : PySem.W.Frag} {Hc : Hp} {Xd : XD} {E : XK} (rt : RetX K Hc Xd E) : RetX K Hc (FinX Xd) E := fun c f μ ⟨μ', sb, h⟩ d H' Hc' e s x => by
  obtain ⟨Hc2, e2, s2, _⟩ := s.sub sb
  exact rt c f μ' h d H' Hc2 (e.trans e2) s2 (x.mono e2)
theorem repS_start {K : PySem.W.Frag} {Hc : Hp} {N : List Str} {vs : List V} {ds : List D} (r : RepA K Hc vs ds) : RepS K Hc (L2.start N vs) (startD N ds) := by
  unfold L2.start startD
  refine ⟨by simp [r.length], fun i d h => ?_⟩
  by_cases hi : i < ds.length
  · rw [List.getElem?_append_left (by rw [List.length_map]; exact hi), List.getElem?_map] at h
    cases e : ds[i]? with
    | none => rw [e] at h; cases h
    | some d' =>
      rw [e] at h
      cases h
      obtain ⟨v, h1, h2⟩ := r.get e
      exact ⟨v, by rw [List.getElem?_append_left (by rw [List.length_map, r.length]; exact hi), List.getElem?_map, h1]; rfl, h2⟩
  · rw [List.getElem?_append_right (by rw [List.length_map]; omega)] at h
    rw [List.getElem?_replicate] at h
    split at h
    · cases h
    · cases h
section
variable {P : Program} {w : World} {K : PySem.W.Frag} {mg : Str → Option Value} {base : Heap}
/-- a def from which no error comes -/
theorem dfn0 {x qual : Str} {st : Stmt} {f : Addr} {fd : FuncData} {N ps : List Str} {k : Nat} {c : Ct} {t : DTS} (F : Fun K x qual st f fd) (hm : mg x = some (.ref f)) (bn : Binds K fd ps []) (S : FnScope N ps (defScope st)) (len : ∀ ds μ Q Xd, c ds μ Q Xd → ds.length = ps.length)
    (hd : ∀ (cdv : Value) (A : Around) (outer : List Env) (s : Shared) (H : Hp) (E : XK), Room k (A.deeper (PyProof.Rows.envOfC qual (defScope st) s.heap.objs.size f cdv)) → DSs (cxOf CX0 P w K mg base N qual (defScope st) f cdv A outer s H E).nox W0 (defBody st) t)
    (hb : ∀ ds μ Q Xd, c ds μ Q Xd → t (ends Q XF) (startD N ds) μ) : Dfn P w K mg base CX0 x qual st (k + 1) ps c := by
  refine ⟨f, fd, F, hm, ?_, bn⟩
  refine F.ok S (fun vs H Q E ⟨ds, μ, Hc, Qd, Xd, s, ra, h, rt, rx⟩ => by rw [ra.length]; exact len _ _ _ _ h) (fun cdv A outer s H vs Q E hr h => ?_)
  obtain ⟨ds, μ, Hc, Qd, Xd, sp, ra, h, rt, rx⟩ := h
  refine ⟨_, hd cdv A outer s H E hr, _, μ, Hc, _, sp, repS_start ra, hb _ _ _ _ h, ?_⟩
  exact ⟨fun δ μ' h' σ H' Hc' e' s' rs' => ret_fin rt _ _ h' _ _ _ e' s' .non, ret_fin rt, fun _ _ z => z.elim, fun _ _ z => z.elim, fun _ _ _ _ z => z.elim⟩
/-- a def that may raise -/
theorem dfn1 {x qual : Str} {st : Stmt} {f : Addr} {fd : FuncData} {N ps : List Str} {k : Nat} {c : Ct} {t : DTS} (F : Fun K x qual st f fd) (hm : mg x = some (.ref f)) (bn : Binds K fd ps []) (S : FnScope N ps (defScope st)) (len : ∀ ds μ Q Xd, c ds μ Q Xd → ds.length = ps.length)
    (hd : ∀ (cdv : Value) (A : Around) (outer : List Env) (s : Shared) (H : Hp) (E : XK), Room k (A.deeper (PyProof.Rows.envOfC qual (defScope st) s.heap.objs.size f cdv)) →
      Takes (cxOf (L2.CX P w) P w K mg base N qual (defScope st) f cdv A outer s H E) (fun cls d _ H' => E cls d H') → DSs (cxOf (L2.CX P w) P w K mg base N qual (defScope st) f cdv A outer s H E) (fun cls d _ H' => E cls d H') (defBody st) t)
    (hb : ∀ ds μ Q Xd, c ds μ Q Xd → t (ends Q (FinX Xd)) (startD N ds) μ) : Dfn P w K mg base (L2.CX P w) x qual st (k + 1) ps c := by
  refine ⟨f, fd, F, hm, ?_, bn⟩
  refine F.okX S (fun vs H Q E ⟨ds, μ, Hc, Qd, Xd, s, ra, h, rt, rx⟩ => by rw [ra.length]; exact len _ _ _ _ h) (fun cdv A outer s H vs Q E hr h => ?_)
  obtain ⟨ds, μ, Hc, Qd, Xd, sp, ra, h, rt, rx⟩ := h
  refine ⟨_, hd cdv A outer s H E hr (takes_of rfl rfl rfl rfl), _, μ, Hc, _, sp, repS_start ra, hb _ _ _ _ h, ?_⟩
  exact ⟨fun δ μ' h' σ H' Hc' e' s' rs' => ret_fin rt _ _ h' _ _ _ e' s' .non, ret_fin rt, fun _ _ z => z.elim, fun _ _ z => z.elim, fun δ cls fs μ' h' σ d H' Hc' e' s' rs' xo => retX_fin rx cls fs μ' h' d H' Hc' e' s' xo⟩
end
/-- the module's tuple of ints -/
theorem rep_ktup {K : PySem.W.Frag} {a : Addr} {o : Obj} {its : Array Value} {n : Nat} {vs : List V} {ds : List D} (h : K.lookup a = some o) (hc : o.cls = .type "tuple") (hd : o.data = .seq its n) (hz : its.size ≤ sizeLine) (hv : Vals vs its.toList) (r : ∀ H, RepA K H vs ds) : ∀ H, Rep K H (.ref a) (.tup ds) :=
  fun H => .tup (.inr ⟨o, its, n, h, hc, hd, hz, hv⟩) (r H)
/-- the slots at a def's start -/
def begin' (n : Nat) (ds : List D) : Sl := ds.map some ++ List.replicate (n - ds.length) none
/-- a reading keeps a contract -/
def HB (c : Ct) (t : DTS) (n : Nat) : Prop := ∀ ds μ Q Xd, c ds μ Q Xd → t (ends Q XF) (begin' n ds) μ
def HBX (c : Ct) (t : DTS) (n : Nat) : Prop := ∀ ds μ Q Xd, c ds μ Q Xd → t (ends Q (FinX Xd)) (begin' n ds) μ
def Len (c : Ct) (n : Nat) : Prop := ∀ ds μ Q Xd, c ds μ Q Xd → ds.length = n
section
variable {P : Program} {w : World} {K : PySem.W.Frag} {mg : Str → Option Value} {base : Heap} {x qual : Str} {st : Stmt} {f : Addr} {fd : FuncData} {N ps : List Str} {k n m : Nat} {c : Ct} {t : DTS}
theorem dfnA (F : Fun K x qual st f fd) (hm : mg x = some (.ref f)) (bn : Binds K fd ps []) (S : FnScope N ps (defScope st)) (len : Len c m) (hb : HB c t n)
    (hd : ∀ (cdv : Value) (A : Around) (outer : List Env) (s : Shared) (H : Hp) (E : XK), Room k (A.deeper (PyProof.Rows.envOfC qual (defScope st) s.heap.objs.size f cdv)) → DSs (cxOf CX0 P w K mg base N qual (defScope st) f cdv A outer s H E).nox W0 (defBody st) t)
    (hn : N.length = n := by rfl) (hp : ps.length = m := by rfl) : Dfn P w K mg base CX0 x qual st (k + 1) ps c := by
  subst hn hp
  exact dfn0 F hm bn S len hd hb
theorem dfnX (F : Fun K x qual st f fd) (hm : mg x = some (.ref f)) (bn : Binds K fd ps []) (S : FnScope N ps (defScope st)) (len : Len c m) (hb : HBX c t n)
    (hd : ∀ (cdv : Value) (A : Around) (outer : List Env) (s : Shared) (H : Hp) (E : XK), Room k (A.deeper (PyProof.Rows.envOfC qual (defScope st) s.heap.objs.size f cdv)) →
      Takes (cxOf (L2.CX P w) P w K mg base N qual (defScope st) f cdv A outer s H E) (fun cls d _ H' => E cls d H') → DSs (cxOf (L2.CX P w) P w K mg base N qual (defScope st) f cdv A outer s H E) (fun cls d _ H' => E cls d H') (defBody st) t)
    (hn : N.length = n := by rfl) (hp : ps.length = m := by rfl) : Dfn P w K mg base (L2.CX P w) x qual st (k + 1) ps c := by
  subst hn hp
  exact dfn1 F hm bn S len hd hb
end
end DL
set_option Elab.async false
set_option linter.all false
set_option maxRecDepth 100000
set_option maxHeartbeats 2000000
/-! The data layer: constants, classes of errors, the end of a law, words for proofs. -/
namespace DL
open PySem PySem.Spec L2
/-- a constant of the module is this data -/
def KC (K : PySem.W.Frag) (mg : Str → Option Value) (x : Str) (d : D) : Prop := ∃ v u, mg x = some u ∧ RelV v u ∧ ∀ H, Rep K H v d
section
variable {X : Cx} {W : WX} {a : Expr} {pos : Pos} {ta : DTE}
theorem de_kc {x : Str} {d : D} (h : KC X.K X.mg x d) (hg : Gl X x := by rfl) (hd : (x == ("__debug__" : Str)) = false := by decide) : DE X W (.Name x pos) (dC d) := by
  obtain ⟨v, u, h1, h2, h3⟩ := h
  exact de_glob hg h1 h2 h3 hd
/-- -a -/
def kNeg (Q : QD) (d : D) (μ : M) : Prop := match d with
  | .int i => Q (.int (-i)) μ
  | _ => False
def dNeg (t : DTE) (W : XD) (δ : Sl) (μ : M) (Q : QD) : Prop := t W δ μ (kNeg Q)
theorem de_neg (ha : DE X W a ta) : DE X W (.UnaryOp .USub a pos) (dNeg ta) := PE.imp (pe_un un_neg ha) fun σ H Q ⟨δ, μ, Hc, Qd, Xd, s, rs, h, rt, rx⟩ => ⟨δ, μ, Hc, _, Xd, s, rs, h, fun d μ1 h1 v H1 Hc1 e1 s1 r1 => by
    unfold kNeg at h1
    split at h1
    · cases r1
      exact ⟨_, rfl, (rt.mono e1).val s1 (.int _) h1⟩
    · exact h1.elim, rx⟩
end
/-- an own class of errors over ValueError -/
structure ExcT (K : PySem.W.Frag) (mg : Str → Option Value) (x : Str) (C : Addr) : Prop where
  g : mg x = some (.ref C)
  x : PySem.W.excIn K C [.type "ValueError", .type "Exception", .type "BaseException", .type "object"] "ValueError.__new__" = true
  k : PySem.W.keepIn K (.ref C) = true
  b : PySem.W.subIn K (.ref C) (.type "BaseException") = some true
  t : PySem.W.typeIn K (.ref C) = some (.type "type")
/-- the law's own contract -/
def cLaw : Ct := fun ds μ Q _ => ∃ ns : List Int, ds = [.scr ns] ∧ ns.length ≤ 63 ∧ ∀ μ', Q (.bl true) μ'
theorem law_end {K : PySem.W.Frag} {H : Hp} {a : Addr} {ns : List Int} (hl : ns.length ≤ 63) (h : SqL K H a (ns.map V.int)) : spD K cLaw [.ref a] H (fun v _ => v = .bl true) fun _ _ _ => False :=
  ⟨[.scr ns], fun _ => none, H, fun d _ => d = .bl true, XF, ⟨fun _ _ z => (nomatch z), fun _ _ => rfl⟩, .cons (.scr h) .nil, ⟨ns, rfl, hl, fun _ => rfl⟩, fun d μ' e v H' Hc' _ _ r => by subst e; cases r; rfl, fun _ _ _ z => z.elim⟩

theorem exm_pair {K : PySem.W.Frag} {S R : Addr} {b : Bool} (h1 : PySem.W.subIn K (.ref S) (.type "BaseException") = some true) (h2 : PySem.W.isClsIn K S = true) (h3 : PySem.W.typeIn K (.ref S) = some (.type "type")) (h4 : PySem.W.subIn K (.ref R) (.ref S) = some b) :
    PySem.W.exmOne K (.ref R) (.ref S) = some b := by
  have e1 : (PySem.W.subIn K (.ref S) (.type "BaseException") == some true) = true := by rw [h1] <;> rfl
  have e2 : ((PySem.W.clsIn K S).isSome && PySem.W.typeIn K (.ref S) == some (.type "type")) = true := by
    have h2' : (PySem.W.clsIn K S).isSome = true := h2
    rw [h2', h3] <;> rfl
  show (if (PySem.W.subIn K (.ref S) (.type "BaseException") == some true) = true then (if ((PySem.W.clsIn K S).isSome && PySem.W.typeIn K (.ref S) == some (.type "type")) = true then PySem.W.subIn K (.ref R) (.ref S) else none) else none) = some b
  rw [if_pos e1, if_pos e2]
  exact h4
theorem fun_uniq {K : PySem.W.Frag} {x qual : Str} {st : Stmt} {f : Addr} {fd fd' : FuncData} (F : Fun K x qual st f fd) (G : Fun K x qual st f fd') : fd = fd' := by
  obtain ⟨_, _, _, _, _, _, _, _, _, _, l, _⟩ := F.ex
  obtain ⟨_, _, _, _, _, _, _, _, _, _, l', _⟩ := G.ex
  rw [l] at l'
  injection l' with l'
  injection l' with _ _ l' _
  injection l'
/-! ### words for proofs -/
theorem ifS_true {t u : DTS} {E : DEnds} {δ : Sl} {μ : M} : ifS true t u E δ μ = t E δ μ := rfl
theorem ifS_false {t u : DTS} {E : DEnds} {δ : Sl} {μ : M} : ifS false t u E δ μ = u E δ μ := rfl
theorem ifAnd_true {u : DTT} {W : XD} {δ : Sl} {μ : M} {Q : Bool → M → Prop} : ifAnd true u W δ μ Q = u W δ μ Q := rfl
theorem ifAnd_false {u : DTT} {W : XD} {δ : Sl} {μ : M} {Q : Bool → M → Prop} : ifAnd false u W δ μ Q = Q false μ := rfl
theorem ifOr_true {u : DTT} {W : XD} {δ : Sl} {μ : M} {Q : Bool → M → Prop} : ifOr true u W δ μ Q = Q true μ := rfl
theorem ifOr_false {u : DTT} {W : XD} {δ : Sl} {μ : M} {Q : Bool → M → Prop} : ifOr false u W δ μ Q = u W δ μ Q := rfl
theorem ifAndV_true {u : DTE} {W : XD} {δ : Sl} {μ : M} {Q : QD} : ifAndV true u W δ μ Q = u W δ μ Q := rfl
theorem ifAndV_false {u : DTE} {W : XD} {δ : Sl} {μ : M} {Q : QD} : ifAndV false u W δ μ Q = Q (.bl false) μ := rfl
theorem ifOrV_true {u : DTE} {W : XD} {δ : Sl} {μ : M} {Q : QD} : ifOrV true u W δ μ Q = Q (.bl true) μ := rfl
theorem ifOrV_false {u : DTE} {W : XD} {δ : Sl} {μ : M} {Q : QD} : ifOrV false u W δ μ Q = u W δ μ Q := rfl
theorem ifE_true {t u : DTE} {W : XD} {δ : Sl} {μ : M} {Q : QD} : ifE true t u W δ μ Q = t W δ μ Q := rfl
theorem ifE_false {t u : DTE} {W : XD} {δ : Sl} {μ : M} {Q : QD} : ifE false t u W δ μ Q = u W δ μ Q := rfl
theorem kChain3_true {g' : DR2} {tc : DTE} {W : XD} {δ : Sl} {Q : QD} {y : D} {μ : M} : kChain3 g' tc W δ Q y (.bl true) μ = tc W δ μ (kOp2 g' y Q) := rfl
theorem kChain3_false {g' : DR2} {tc : DTE} {W : XD} {δ : Sl} {Q : QD} {y : D} {μ : M} : kChain3 g' tc W δ Q y (.bl false) μ = Q (.bl false) μ := rfl
theorem kChain3_of {g' : DR2} {tc : DTE} {W : XD} {δ : Sl} {Q : QD} {y : D} {μ : M} {b : Bool} (h1 : b = true → tc W δ μ (kOp2 g' y Q)) (h2 : b = false → Q (.bl false) μ) : kChain3 g' tc W δ Q y (.bl b) μ := by
  cases b with
  | true => exact h1 rfl
  | false => exact h2 rfl
theorem kTest_true {te : DTE} {δ : Sl} {acc : List D} {R : List D → M → Prop} {μ : M} : kTest te δ acc R true μ = te XF δ μ (kItem acc R) := rfl
theorem kTest_false {te : DTE} {δ : Sl} {acc : List D} {R : List D → M → Prop} {μ : M} : kTest te δ acc R false μ = R acc μ := rfl
theorem putIx_some {j : Nat} {p : Addr} {ds : List D} {d : D} {E : DEnds} {δ : Sl} {μ : M} : putIx (some j) p ds d E δ μ = E.nx δ (updM μ p (.lst (ds.set j d))) := rfl
theorem setsK_some {cs : List (Nat × D)} {E : DEnds} {δ : Sl} {μ : M} : setsK (some cs) E δ μ = E.nx (sets cs δ) μ := rfl
theorem turnD_some {cs : List (Nat × D)} {tb : DTS} {E : DEnds} {δ : Sl} {μ : M} : turnD (some cs) tb E δ μ = tb E (sets cs δ) μ := rfl
theorem turnC_some {cs : List (Nat × D)} {tt : DTT} {te : DTE} {acc : List D} {R : List D → M → Prop} {δ : Sl} {μ : M} : turnC (some cs) tt te acc R δ μ = tt XF (sets cs δ) μ (kTest te (sets cs δ) acc R) := rfl
theorem subN_dict_int : subN "dict" "int" = false := by decide
theorem subN_dict_bool : subN "dict" "bool" = false := by decide
theorem subN_dict_str : subN "dict" "str" = false := by decide
theorem subN_dict_list : subN "dict" "list" = false := by decide
theorem subN_dict_tuple : subN "dict" "tuple" = false := by decide
theorem subN_NoneType_int : subN "NoneType" "int" = false := by decide
theorem subN_NoneType_bool : subN "NoneType" "bool" = false := by decide
theorem subN_NoneType_str : subN "NoneType" "str" = false := by decide
theorem subN_NoneType_list : subN "NoneType" "list" = false := by decide
theorem subN_NoneType_tuple : subN "NoneType" "tuple" = false := by decide
theorem subN_bool_int : subN "bool" "int" = true := by decide
theorem subN_bool_bool : subN "bool" "bool" = true := by decide
theorem subN_bool_str : subN "bool" "str" = false := by decide
theorem subN_bool_list : subN "bool" "list" = false := by decide
theorem subN_bool_tuple : subN "bool" "tuple" = false := by decide
theorem subN_int_int : subN "int" "int" = true := by decide
theorem subN_int_bool : subN "int" "bool" = false := by decide
theorem subN_int_str : subN "int" "str" = false := by decide
theorem subN_int_list : subN "int" "list" = false := by decide
theorem subN_int_tuple : subN "int" "tuple" = false := by decide
theorem subN_str_int : subN "str" "int" = false := by decide
theorem subN_str_bool : subN "str" "bool" = false := by decide
theorem subN_str_str : subN "str" "str" = true := by decide
theorem subN_str_list : subN "str" "list" = false := by decide
theorem subN_str_tuple : subN "str" "tuple" = false := by decide
theorem subN_list_int : subN "list" "int" = false := by decide
theorem subN_list_bool : subN "list" "bool" = false := by decide
theorem subN_list_str : subN "list" "str" = false := by decide
theorem subN_list_list : subN "list" "list" = true := by decide
theorem subN_list_tuple : subN "list" "tuple" = false := by decide
theorem subN_tuple_int : subN "tuple" "int" = false := by decide
theorem subN_tuple_bool : subN "tuple" "bool" = false := by decide
theorem subN_tuple_str : subN "tuple" "str" = false := by decide
theorem subN_tuple_list : subN "tuple" "list" = false := by decide
theorem subN_tuple_tuple : subN "tuple" "tuple" = true := by decide
theorem eqD_int {a b : Int} : eqD (.int a) (.int b) = decide (a = b) := by
  show (a == b) = _
  by_cases h : a = b
  · subst h; simp
  · rw [decide_eq_false h]; simpa using h
theorem eqD_str {a b : Str} : eqD (.str a) (.str b) = decide (a = b) := by
  show (a == b) = _
  by_cases h : a = b
  · subst h; simp
  · rw [decide_eq_false h]; simpa using h
theorem eqD_bl {a b : Bool} : eqD (.bl a) (.bl b) = decide (a = b) := by
  cases a <;> cases b <;> rfl
def eqDs (xs ys : List D) : Bool := PyData.eqvAll (toPs xs) (toPs ys)
theorem eqD_tup {a b : List D} : eqD (.tup a) (.tup b) = eqDs a b := rfl
theorem eqD_lst {a b : List D} : eqD (.lst a) (.lst b) = eqDs a b := rfl
theorem eqDs_nil : eqDs [] [] = true := rfl
theorem eqDs_cons {x y : D} {xs ys : List D} : eqDs (x :: xs) (y :: ys) = (eqD x y && eqDs xs ys) := rfl
/-- all other cells are as they were -/
def Oth (μ μ' : M) (p : Addr) : Prop := ∀ q, q ≠ p → μ' q = μ q
theorem Oth.refl (μ : M) (p : Addr) : Oth μ μ p := fun _ _ => rfl
theorem Oth.trans {a b c : M} {p : Addr} (h : Oth a b p) (k : Oth b c p) : Oth a c p := fun q n => (k q n).trans (h q n)
theorem Oth.upd {μ : M} {p : Addr} {c : C} : Oth μ (updM μ p c) p := fun _ n => updM_ne n
theorem atI_zero {α : Type} {x : α} {xs : List α} : atI (x :: xs) 0 = some x := by
  unfold atI ixN
  rw [if_pos (Int.le_refl 0), if_pos (by rw [List.length_cons]; omega)]
  rfl
theorem atI_one {α : Type} {x y : α} {xs : List α} : atI (x :: y :: xs) 1 = some y := by
  unfold atI ixN
  rw [if_pos (by omega), if_pos (by rw [List.length_cons, List.length_cons]; omega)]
  rfl
theorem atI_two {α : Type} {x y z : α} {xs : List α} : atI (x :: y :: z :: xs) 2 = some z := by
  unfold atI ixN
  rw [if_pos (by omega), if_pos (by rw [List.length_cons, List.length_cons, List.length_cons]; omega)]
  rfl
theorem ixN_zero {n : Nat} : ixN (n + 1) 0 = some 0 := by
  unfold ixN
  rw [if_pos (Int.le_refl 0), if_pos (by omega)]
  rfl
theorem ixN_one {n : Nat} : ixN (n + 2) 1 = some 1 := by
  unfold ixN
  rw [if_pos (by omega), if_pos (by omega)]
  rfl
/-- an item of a short list at a place that is not written -/
theorem atI_lt {α : Type} {xs : List α} {i : Int} (h0 : 0 ≤ i) (h1 : i < xs.length) : ∃ x, atI xs i = some x ∧ xs[i.toNat]? = some x := by
  unfold atI ixN
  rw [if_pos h0, if_pos h1]
  have : i.toNat < xs.length := by omega
  exact ⟨xs[i.toNat], by show xs[i.toNat]? = _; rw [List.getElem?_eq_getElem this], by rw [List.getElem?_eq_getElem this]⟩
theorem mulOk_pow {i j : Int} {a b : Nat} (ha : i.natAbs < 2 ^ a) (hb : j.natAbs < 2 ^ b) (h : a + b ≤ 900000) : IntMulOk i j :=
  (wide_mul (a := a + 1) (b := b + 1) (Nat.lt_of_lt_of_le ha (Nat.pow_le_pow_right (by decide) (by omega))) (Nat.lt_of_lt_of_le hb (Nat.pow_le_pow_right (by decide) (by omega))) (by omega) (by omega) (by omega)).ok
theorem mulOk_64 {x y : Int} (h1 : -9000000000000000000 < x) (h2 : x < 9000000000000000000) (h3 : -9000000000000000000 < y) (h4 : y < 9000000000000000000) : IntMulOk x y := by
  have e : (2 : Nat) ^ 63 = 9223372036854775808 := by decide
  exact mulOk_pow (a := 63) (b := 63) (by omega) (by omega) (by decide)
theorem divOk_pow {i j : Int} {b : Nat} (h : j ≠ 0) (hb : j.natAbs < 2 ^ b) (h9 : b ≤ 8999) : CDivD i j :=
  ⟨h, PyProof.noPylong_of_log2 (Nat.lt_of_lt_of_le (PySem.Flt.log2_lt_of (by omega) (Nat.lt_of_lt_of_le hb (Nat.pow_le_pow_right (by decide) (Nat.le_succ b)))) (by omega))⟩
theorem divOk_small {i j : Int} (h : j ≠ 0) (hb : j.natAbs < 1073741824) : CDivD i j := ⟨h, PyProof.noPylong_small hb⟩
end DL
set_option linter.all false
set_option maxRecDepth 100000
/-! Fractions: lowest terms. -/
namespace Fr
def gcdI (a b : Int) : Int := (Nat.gcd a.natAbs b.natAbs : Nat)
/-- the divisor by which lowest terms are made -/
def by_ (t b : Int) : Int := if b < 0 then 0 - gcdI t b else gcdI t b
def low (t b : Int) : Int × Int := (t.fdiv (by_ t b), b.fdiv (by_ t b))
theorem gcdI_pos {t b : Int} (h : b ≠ 0) : 0 < gcdI t b := by
  unfold gcdI
  have : 0 < Nat.gcd t.natAbs b.natAbs := Nat.gcd_pos_of_pos_right _ (Int.natAbs_pos.mpr h)
  omega
theorem by_ne {t b : Int} (h : b ≠ 0) : by_ t b ≠ 0 := by
  have := gcdI_pos (t := t) h
  unfold by_
  split <;> omega
theorem by_natAbs {t b : Int} : (by_ t b).natAbs = Nat.gcd t.natAbs b.natAbs := by
  unfold by_ gcdI
  split <;> omega
theorem by_le {t b : Int} (h : b ≠ 0) : (by_ t b).natAbs ≤ b.natAbs := by
  rw [by_natAbs]
  exact Nat.gcd_le_right _ (Int.natAbs_pos.mpr h)
theorem by_dvd_t {t b : Int} : by_ t b ∣ t := by
  rw [← Int.natAbs_dvd_natAbs, by_natAbs]
  exact Nat.gcd_dvd_left _ _
theorem by_dvd_b {t b : Int} : by_ t b ∣ b := by
  rw [← Int.natAbs_dvd_natAbs, by_natAbs]
  exact Nat.gcd_dvd_right _ _
theorem fdiv_of {x g : Int} (hg : g ≠ 0) (h : g ∣ x) : x.fdiv g * g = x := by
  rw [Int.fdiv_eq_ediv_of_dvd h]
  exact Int.ediv_mul_cancel h
theorem low_t {t b : Int} (h : b ≠ 0) : (low t b).1 * by_ t b = t := fdiv_of (by_ne h) by_dvd_t
theorem low_b {t b : Int} (h : b ≠ 0) : (low t b).2 * by_ t b = b := fdiv_of (by_ne h) by_dvd_b
theorem low_pos {t b : Int} (h : b ≠ 0) : 1 ≤ (low t b).2 := by
  have e := low_b (t := t) h
  have hg := gcdI_pos (t := t) h
  by_cases hb : b < 0
  · have eb : by_ t b = - gcdI t b := by unfold by_; rw [if_pos hb]; omega
    rw [eb] at e
    rcases Int.lt_or_le (low t b).2 1 with hl | hl
    · exfalso
      have : 0 ≤ (low t b).2 * -gcdI t b := by
        have h1 : (low t b).2 ≤ 0 := by omega
        have := Int.mul_nonneg_of_nonpos_of_nonpos h1 (show -gcdI t b ≤ 0 by omega)
        exact this
      omega
    · exact hl
  · have eb : by_ t b = gcdI t b := by unfold by_; rw [if_neg hb]
    rw [eb] at e
    rcases Int.lt_or_le (low t b).2 1 with hl | hl
    · exfalso
      have : (low t b).2 * gcdI t b ≤ 0 := Int.mul_nonpos_of_nonpos_of_nonneg (by omega) (by omega)
      omega
    · exact hl
theorem low_cop {t b : Int} (h : b ≠ 0) : Nat.gcd (low t b).1.natAbs (low t b).2.natAbs = 1 := by
  have e1 : (low t b).1.natAbs * Nat.gcd t.natAbs b.natAbs = t.natAbs := by rw [← by_natAbs (t := t) (b := b), ← Int.natAbs_mul, low_t h]
  have e2 : (low t b).2.natAbs * Nat.gcd t.natAbs b.natAbs = b.natAbs := by rw [← by_natAbs (t := t) (b := b), ← Int.natAbs_mul, low_b h]
  have hp : 0 < Nat.gcd t.natAbs b.natAbs := Nat.gcd_pos_of_pos_right _ (Int.natAbs_pos.mpr h)
  have e3 := Nat.gcd_mul_right (low t b).1.natAbs (Nat.gcd t.natAbs b.natAbs) (low t b).2.natAbs
  rw [e1, e2] at e3
  have : Nat.gcd (low t b).1.natAbs (low t b).2.natAbs * Nat.gcd t.natAbs b.natAbs = 1 * Nat.gcd t.natAbs b.natAbs := by rw [← e3, Nat.one_mul]
  exact Nat.eq_of_mul_eq_mul_right hp this
theorem low_cross {t b : Int} (h : b ≠ 0) : (low t b).1 * b = t * (low t b).2 := by
  have e1 := low_t (t := t) h
  have e2 := low_b (t := t) h
  calc (low t b).1 * b = (low t b).1 * ((low t b).2 * by_ t b) := by rw [e2]
    _ = ((low t b).1 * by_ t b) * (low t b).2 := by rw [Int.mul_comm (low t b).2, Int.mul_assoc]
    _ = t * (low t b).2 := by rw [e1]
theorem low_le1 {t b : Int} (h : b ≠ 0) : (low t b).1.natAbs ≤ t.natAbs := by
  have e1 : (low t b).1.natAbs * (by_ t b).natAbs = t.natAbs := by rw [← Int.natAbs_mul, low_t h]
  have hp : 1 ≤ (by_ t b).natAbs := Int.natAbs_pos.mpr (by_ne h)
  calc (low t b).1.natAbs = (low t b).1.natAbs * 1 := (Nat.mul_one _).symm
    _ ≤ (low t b).1.natAbs * (by_ t b).natAbs := Nat.mul_le_mul_left _ hp
    _ = t.natAbs := e1
theorem low_le2 {t b : Int} (h : b ≠ 0) : (low t b).2.natAbs ≤ b.natAbs := by
  have e1 : (low t b).2.natAbs * (by_ t b).natAbs = b.natAbs := by rw [← Int.natAbs_mul, low_b h]
  have hp : 1 ≤ (by_ t b).natAbs := Int.natAbs_pos.mpr (by_ne h)
  calc (low t b).2.natAbs = (low t b).2.natAbs * 1 := (Nat.mul_one _).symm
    _ ≤ (low t b).2.natAbs * (by_ t b).natAbs := Nat.mul_le_mul_left _ hp
    _ = b.natAbs := e1
/-- two fractions in lowest terms that are worth the same are the same -/
theorem cop_unique {x y u v : Int} (hy : 1 ≤ y) (hv : 1 ≤ v) (h1 : Nat.gcd x.natAbs y.natAbs = 1) (h2 : Nat.gcd u.natAbs v.natAbs = 1) (e : x * v = u * y) : x = u ∧ y = v := by
  have en : x.natAbs * v.natAbs = u.natAbs * y.natAbs := by rw [← Int.natAbs_mul, ← Int.natAbs_mul, e]
  have d1 : y.natAbs ∣ v.natAbs := by
    have : y.natAbs ∣ x.natAbs * v.natAbs := ⟨u.natAbs, by rw [en, Nat.mul_comm]⟩
    exact Nat.Coprime.dvd_of_dvd_mul_left (by rw [Nat.coprime_comm]; exact h1) this
  have d2 : v.natAbs ∣ y.natAbs := by
    have : v.natAbs ∣ u.natAbs * y.natAbs := ⟨x.natAbs, by rw [← en, Nat.mul_comm]⟩
    exact Nat.Coprime.dvd_of_dvd_mul_left (by rw [Nat.coprime_comm]; exact h2) this
  have ev : y.natAbs = v.natAbs := Nat.dvd_antisymm d1 d2
  have eyv : y = v := by omega
  subst eyv
  exact ⟨Int.eq_of_mul_eq_mul_right (by omega) e, rfl⟩
theorem low_unique {t b x y : Int} (h : b ≠ 0) (hy : 1 ≤ y) (hc : Nat.gcd x.natAbs y.natAbs = 1) (e : x * b = t * y) : low t b = (x, y) := by
  have e1 := low_cross (t := t) h
  have e2 : (low t b).1 * y = x * (low t b).2 := by
    have : (low t b).1 * y * b = x * (low t b).2 * b := by
      calc (low t b).1 * y * b = ((low t b).1 * b) * y := by rw [Int.mul_assoc, Int.mul_comm y, ← Int.mul_assoc]
        _ = t * (low t b).2 * y := by rw [e1]
        _ = (t * y) * (low t b).2 := by rw [Int.mul_assoc, Int.mul_comm (low t b).2, ← Int.mul_assoc]
        _ = (x * b) * (low t b).2 := by rw [e]
        _ = x * (low t b).2 * b := by rw [Int.mul_assoc, Int.mul_comm b, ← Int.mul_assoc]
    exact Int.eq_of_mul_eq_mul_right h this
  obtain ⟨a, c⟩ := cop_unique (low_pos h) hy (low_cop h) hc e2
  exact Prod.ext a c
theorem low_one {t : Int} : low t 1 = (t, 1) := low_unique (by decide) (by decide) (by simp) (by simp)
/-- a fraction in lowest terms, of at most n bits -/
structure Ok (n : Nat) (f : Int × Int) : Prop where
  pos : 1 ≤ f.2
  cop : Nat.gcd f.1.natAbs f.2.natAbs = 1
  tb : f.1.natAbs < 2 ^ n
  bb : f.2.natAbs < 2 ^ n
theorem Ok.ne {n : Nat} {f : Int × Int} (h : Ok n f) : f.2 ≠ 0 := by have := h.pos; omega
theorem Ok.mono {n m : Nat} {f : Int × Int} (h : Ok n f) (l : n ≤ m) : Ok m f := ⟨h.pos, h.cop, Nat.lt_of_lt_of_le h.tb (Nat.pow_le_pow_right (by decide) l), Nat.lt_of_lt_of_le h.bb (Nat.pow_le_pow_right (by decide) l)⟩
theorem Ok.self {n : Nat} {f : Int × Int} (h : Ok n f) : low f.1 f.2 = f := low_unique h.ne h.pos h.cop rfl
theorem ok_low {n : Nat} {t b : Int} (h : b ≠ 0) (ht : t.natAbs < 2 ^ n) (hb : b.natAbs < 2 ^ n) : Ok n (low t b) := ⟨low_pos h, low_cop h, Nat.lt_of_le_of_lt (low_le1 h) ht, Nat.lt_of_le_of_lt (low_le2 h) hb⟩
theorem mul_lt {x y : Int} {a b : Nat} (ha : x.natAbs < 2 ^ a) (hb : y.natAbs < 2 ^ b) : (x * y).natAbs < 2 ^ (a + b) := L2.wide_lt ha hb
theorem add_lt {x y : Int} {a : Nat} (ha : x.natAbs < 2 ^ a) (hb : y.natAbs < 2 ^ a) : (x + y).natAbs < 2 ^ (a + 1) := by
  rw [Nat.pow_succ]
  omega
theorem sub_lt {x y : Int} {a : Nat} (ha : x.natAbs < 2 ^ a) (hb : y.natAbs < 2 ^ a) : (x - y).natAbs < 2 ^ (a + 1) := by
  rw [Nat.pow_succ]
  omega
theorem lt_mono {x : Int} {a b : Nat} (h : x.natAbs < 2 ^ a) (l : a ≤ b) : x.natAbs < 2 ^ b := Nat.lt_of_lt_of_le h (Nat.pow_le_pow_right (by decide) l)
theorem mul_ne {x y : Int} (h : x ≠ 0) (k : y ≠ 0) : x * y ≠ 0 := Int.mul_ne_zero h k
def addF (f g : Int × Int) : Int × Int := low (f.1 * g.2 + g.1 * f.2) (f.2 * g.2)
def subF (f g : Int × Int) : Int × Int := low (f.1 * g.2 - g.1 * f.2) (f.2 * g.2)
def mulF (f g : Int × Int) : Int × Int := low (f.1 * g.1) (f.2 * g.2)
def divF (f g : Int × Int) : Int × Int := low (f.1 * g.2) (f.2 * g.1)
theorem ok_add {n m : Nat} {f g : Int × Int} (h : Ok n f) (k : Ok m g) : Ok (n + m + 1) (addF f g) := by
  refine ok_low (mul_ne h.ne k.ne) (add_lt (mul_lt h.tb k.bb) ?_) (lt_mono (mul_lt h.bb k.bb) (by omega))
  rw [Nat.add_comm n m]
  exact mul_lt k.tb h.bb
theorem sub_add {n m : Nat} {f g : Int × Int} (h : Ok n f) (k : Ok m g) : subF (addF f g) g = f := by
  have hne : f.2 * g.2 ≠ 0 := mul_ne h.ne k.ne
  have hc := low_cross (t := f.1 * g.2 + g.1 * f.2) hne
  have hp := low_pos (t := f.1 * g.2 + g.1 * f.2) hne
  unfold subF
  show low ((addF f g).1 * g.2 - g.1 * (addF f g).2) ((addF f g).2 * g.2) = f
  have hc' : (addF f g).1 * (f.2 * g.2) = (f.1 * g.2 + g.1 * f.2) * (addF f g).2 := hc
  have hp' : 1 ≤ (addF f g).2 := hp
  refine low_unique (mul_ne (by omega) k.ne) h.pos h.cop ?_
  -- f1 * (s2 * g2) = (s1 * g2 - g1 * s2) * f2
  generalize addF f g = s at *
  have e : s.1 * g.2 * f.2 = f.1 * g.2 * s.2 + g.1 * f.2 * s.2 := by
    have : s.1 * g.2 * f.2 = s.1 * (f.2 * g.2) := by rw [Int.mul_assoc, Int.mul_comm g.2]
    rw [this, hc', Int.add_mul]
  have e2 : (s.1 * g.2 - g.1 * s.2) * f.2 = s.1 * g.2 * f.2 - g.1 * f.2 * s.2 := by
    rw [Int.sub_mul, Int.mul_assoc g.1, Int.mul_comm s.2, ← Int.mul_assoc]
  rw [e2, e]
  have e3 : f.1 * (s.2 * g.2) = f.1 * g.2 * s.2 := by rw [Int.mul_comm s.2, Int.mul_assoc]
  omega
end Fr
set_option Elab.async false
set_option linter.all false
set_option maxRecDepth 100000
set_option maxHeartbeats 2000000
set_option exponentiation.threshold 20000
/-! Fractions of the program, and the law's pool: contracts, readings, and that the readings keep them. -/
local macro_rules | `(tactic| walk_at "r") => `(tactic| simp only [DL.dSeq, DL.dSet, DL.kSet, DL.dCB, DL.kCB, DL.dCons, DL.kCons1, DL.kCons2, DL.dNil, DL.dVar, DL.dC, DL.dOp, DL.kOp1, DL.kOp2, DL.dB, DL.kB, DL.dIf, DL.kIf, DL.dRet, DL.dRetN, DL.dTup, DL.kTup, DL.dLst, DL.kLst, DL.dLstC, DL.kLstC, DL.dCall, DL.kCall, DL.dCallK, DL.kCallK1, DL.kCallK2, DL.dLenIs, DL.kLenIs, DL.dNext, DL.dDrop, DL.kDrop, DL.dPar, DL.kPar, DL.dAug, DL.kAug, DL.dAsg, DL.kAsg, DL.dSetIx, DL.kSetIx1, DL.kSetIx2, DL.kSetIx3, DL.dTru, DL.kTru, DL.dAnd, DL.kAnd, DL.dOr, DL.kOr, DL.dNot, DL.kNot, DL.dAndV, DL.kAndV, DL.dOrV, DL.kOrV, DL.dNotV, DL.kNotV, DL.dIfE, DL.kIfE, DL.dChain, DL.kChain1, DL.kChain2, DL.kChain3_true, DL.kChain3_false, DL.dNeg, DL.kNeg, DL.dFz, DL.kFz, DL.dRaise, DL.dTryAs, DL.suiteE, DL.kUnset, DL.dFor, DL.kFor, DL.dSeqI, DL.kSeqI, DL.dRange1, DL.kRange1, DL.dRange2, DL.kRange2, DL.dLc, DL.kLc, DL.dLcC, DL.kLstD, DL.kNewC, DL.dYes, DL.wipeD, DL.loopD, DL.compD, DL.kItem, DL.kTest_true, DL.kTest_false, DL.putIx_some, DL.setsK_some, DL.turnD_some, DL.turnC_some, DL.ifS_true, DL.ifS_false, DL.ifAnd_true, DL.ifAnd_false, DL.ifOr_true, DL.ifOr_false, DL.ifAndV_true, DL.ifAndV_false, DL.ifOrV_true, DL.ifOrV_false, DL.ifE_true, DL.ifE_false, DL.srcOf, DL.tgN, DL.tgT, DL.tgNil, DL.tgCons, DL.sets, List.foldl_cons, List.foldl_nil, DL.gI, DL.gI0, DL.gAdd, DL.gMul, DL.gIx, DL.gEq, DL.gNe, DL.gIs, DL.gIn, DL.gLen, DL.gAbs, DL.gMax2, DL.gMin2, DL.gAll, DL.gAny, DL.gSum, DL.gList, DL.gListC, DL.gTuple, DL.gIsiC, DL.gIsi, DL.tyN, DL.subN_NoneType_int, DL.subN_NoneType_bool, DL.subN_NoneType_str, DL.subN_NoneType_list, DL.subN_NoneType_tuple, DL.subN_bool_int, DL.subN_bool_bool, DL.subN_bool_str, DL.subN_bool_list, DL.subN_bool_tuple, DL.subN_int_int, DL.subN_int_bool, DL.subN_int_str, DL.subN_int_list, DL.subN_int_tuple, DL.subN_str_int, DL.subN_str_bool, DL.subN_str_str, DL.subN_str_list, DL.subN_str_tuple, DL.subN_list_int, DL.subN_list_bool, DL.subN_list_str, DL.subN_list_list, DL.subN_list_tuple, DL.subN_tuple_int, DL.subN_tuple_bool, DL.subN_tuple_str, DL.subN_tuple_list, DL.subN_tuple_tuple, DL.truD, DL.blsOf, DL.view_non, DL.view_bl, DL.view_int', DL.view_str', DL.view_lst', DL.view_tup', DL.view_scr', DL.ends, DL.kEnd, DL.OptP_some, DL.OptQ_some, DL.OptB_some, DL.OptS_some, List.getElem?_cons_zero, List.getElem?_cons_succ, List.set_cons_zero, List.set_cons_succ, DL.atI_zero, DL.atI_one, DL.atI_two, List.length_cons, List.length_nil, DL.pick, List.filterMap_cons, List.filterMap_nil, List.nil_append, List.cons_append, List.map_cons, List.map_nil, Option.map_some, Option.bind_some, true_and, and_true, Bool.false_eq_true, Bool.not_true, Bool.not_false, Bool.xor_false, Bool.xor_true, Bool.false_xor, Bool.true_xor, decide_true, decide_false, Nat.zero_add, Nat.reduceAdd, not_true_eq_false, not_false_eq_true, DL.eqD_int, DL.eqD_str, DL.eqD_bl, DL.eqD_tup, DL.eqD_lst, DL.eqDs_nil, DL.eqDs_cons, Bool.and_true, Bool.and_false, List.all_cons, List.all_nil, List.any_cons, List.any_nil, Bool.and_self, DL.dM, DL.kM1, DL.kM2, DL.dM0, DL.kM0, DL.gAppend, DL.gInsert, DL.gExtend, DL.gPop1, DL.gPop0, DL.gReverse, DL.gSort, DL.gRemove, DL.gCount, DL.gIndex, DL.dSlG, DL.kSl1, DL.kSl2, DL.kSl3, DL.gSl, DL.gSlC, DL.dNoPart, DL.dPart, DL.kPart, DL.dLR1, DL.kLR1, DL.dLR2, DL.kLR21, DL.kLR22, DL.nLst, DL.gRepC, DL.gCatC, DL.gInt, DL.gSorted, DL.gMaxL, DL.gMinL, DL.dEnum, DL.kEnum, DL.dZip2, DL.kZip2, DL.dZip3, DL.kZip3, DL.OptS2_some, DL.OptS3_some, DL.dRev, DL.kRev, DL.dEmp, DL.view_emp', DL.subN_dict_int, DL.subN_dict_bool, DL.subN_dict_str, DL.subN_dict_list, DL.subN_dict_tuple, DL.cellL_lst, DL.cellL_none])
local macro_rules | `(tactic| simp! only [$xs,*]) => `(tactic| simp only [DL.dSeq, DL.dSet, DL.kSet, DL.dCB, DL.kCB, DL.dCons, DL.kCons1, DL.kCons2, DL.dNil, DL.dVar, DL.dC, DL.dOp, DL.kOp1, DL.kOp2, DL.dB, DL.kB, DL.dIf, DL.kIf, DL.dRet, DL.dRetN, DL.dTup, DL.kTup, DL.dLst, DL.kLst, DL.dLstC, DL.kLstC, DL.dCall, DL.kCall, DL.dCallK, DL.kCallK1, DL.kCallK2, DL.dLenIs, DL.kLenIs, DL.dNext, DL.dDrop, DL.kDrop, DL.dPar, DL.kPar, DL.dAug, DL.kAug, DL.dAsg, DL.kAsg, DL.dSetIx, DL.kSetIx1, DL.kSetIx2, DL.kSetIx3, DL.dTru, DL.kTru, DL.dAnd, DL.kAnd, DL.dOr, DL.kOr, DL.dNot, DL.kNot, DL.dAndV, DL.kAndV, DL.dOrV, DL.kOrV, DL.dNotV, DL.kNotV, DL.dIfE, DL.kIfE, DL.dChain, DL.kChain1, DL.kChain2, DL.kChain3_true, DL.kChain3_false, DL.dNeg, DL.kNeg, DL.dFz, DL.kFz, DL.dRaise, DL.dTryAs, DL.suiteE, DL.kUnset, DL.dFor, DL.kFor, DL.dSeqI, DL.kSeqI, DL.dRange1, DL.kRange1, DL.dRange2, DL.kRange2, DL.dLc, DL.kLc, DL.dLcC, DL.kLstD, DL.kNewC, DL.dYes, DL.wipeD, DL.loopD, DL.compD, DL.kItem, DL.kTest_true, DL.kTest_false, DL.putIx_some, DL.setsK_some, DL.turnD_some, DL.turnC_some, DL.ifS_true, DL.ifS_false, DL.ifAnd_true, DL.ifAnd_false, DL.ifOr_true, DL.ifOr_false, DL.ifAndV_true, DL.ifAndV_false, DL.ifOrV_true, DL.ifOrV_false, DL.ifE_true, DL.ifE_false, DL.srcOf, DL.tgN, DL.tgT, DL.tgNil, DL.tgCons, DL.sets, List.foldl_cons, List.foldl_nil, DL.gI, DL.gI0, DL.gAdd, DL.gMul, DL.gIx, DL.gEq, DL.gNe, DL.gIs, DL.gIn, DL.gLen, DL.gAbs, DL.gMax2, DL.gMin2, DL.gAll, DL.gAny, DL.gSum, DL.gList, DL.gListC, DL.gTuple, DL.gIsiC, DL.gIsi, DL.tyN, DL.subN_NoneType_int, DL.subN_NoneType_bool, DL.subN_NoneType_str, DL.subN_NoneType_list, DL.subN_NoneType_tuple, DL.subN_bool_int, DL.subN_bool_bool, DL.subN_bool_str, DL.subN_bool_list, DL.subN_bool_tuple, DL.subN_int_int, DL.subN_int_bool, DL.subN_int_str, DL.subN_int_list, DL.subN_int_tuple, DL.subN_str_int, DL.subN_str_bool, DL.subN_str_str, DL.subN_str_list, DL.subN_str_tuple, DL.subN_list_int, DL.subN_list_bool, DL.subN_list_str, DL.subN_list_list, DL.subN_list_tuple, DL.subN_tuple_int, DL.subN_tuple_bool, DL.subN_tuple_str, DL.subN_tuple_list, DL.subN_tuple_tuple, DL.truD, DL.blsOf, DL.view_non, DL.view_bl, DL.view_int', DL.view_str', DL.view_lst', DL.view_tup', DL.view_scr', DL.ends, DL.kEnd, DL.OptP_some, DL.OptQ_some, DL.OptB_some, DL.OptS_some, List.getElem?_cons_zero, List.getElem?_cons_succ, List.set_cons_zero, List.set_cons_succ, DL.atI_zero, DL.atI_one, DL.atI_two, List.length_cons, List.length_nil, DL.pick, List.filterMap_cons, List.filterMap_nil, List.nil_append, List.cons_append, List.map_cons, List.map_nil, Option.map_some, Option.bind_some, true_and, and_true, Bool.false_eq_true, Bool.not_true, Bool.not_false, Bool.xor_false, Bool.xor_true, Bool.false_xor, Bool.true_xor, decide_true, decide_false, Nat.zero_add, Nat.reduceAdd, not_true_eq_false, not_false_eq_true, DL.eqD_int, DL.eqD_str, DL.eqD_bl, DL.eqD_tup, DL.eqD_lst, DL.eqDs_nil, DL.eqDs_cons, Bool.and_true, Bool.and_false, List.all_cons, List.all_nil, List.any_cons, List.any_nil, Bool.and_self, DL.dM, DL.kM1, DL.kM2, DL.dM0, DL.kM0, DL.gAppend, DL.gInsert, DL.gExtend, DL.gPop1, DL.gPop0, DL.gReverse, DL.gSort, DL.gRemove, DL.gCount, DL.gIndex, DL.dSlG, DL.kSl1, DL.kSl2, DL.kSl3, DL.gSl, DL.gSlC, DL.dNoPart, DL.dPart, DL.kPart, DL.dLR1, DL.kLR1, DL.dLR2, DL.kLR21, DL.kLR22, DL.nLst, DL.gRepC, DL.gCatC, DL.gInt, DL.gSorted, DL.gMaxL, DL.gMinL, DL.dEnum, DL.kEnum, DL.dZip2, DL.kZip2, DL.dZip3, DL.kZip3, DL.OptS2_some, DL.OptS3_some, DL.dRev, DL.kRev, DL.dEmp, DL.view_emp', DL.subN_dict_int, DL.subN_dict_bool, DL.subN_dict_str, DL.subN_dict_list, DL.subN_dict_tuple, DL.cellL_lst, DL.cellL_none, $xs,*])
namespace NB
open PySem PySem.Spec L2 DL Fr
def fr (f : Int × Int) : D := .tup [.int f.1, .int f.2]
abbrev k_NOUGHT : D := .tup [.int 0, .int 1]
structure Sz (f : Int × Int) : Prop where
  ne : f.2 ≠ 0
  tb : f.1.natAbs < 2 ^ 4000
  bb : f.2.natAbs < 2 ^ 4000
def c_shared : Ct := fun ds μ Q _ => ∃ a b : Int, ds = [.int a, .int b] ∧ Q (.int (gcdI a b)) μ
def c_lowest : Ct := fun ds μ Q _ => ∃ t b : Int, ds = [.int t, .int b] ∧ b ≠ 0 ∧ b.natAbs < 2 ^ 8100 ∧ Q (fr (low t b)) μ
def c_plus : Ct := fun ds μ Q _ => ∃ f g, ds = [fr f, fr g] ∧ Sz f ∧ Sz g ∧ Q (fr (addF f g)) μ
def c_minus : Ct := fun ds μ Q _ => ∃ f g, ds = [fr f, fr g] ∧ Sz f ∧ Sz g ∧ Q (fr (subF f g)) μ
def c_times : Ct := fun ds μ Q _ => ∃ f g, ds = [fr f, fr g] ∧ Sz f ∧ Sz g ∧ Q (fr (mulF f g)) μ
def c_over (C : Addr) : Ct := fun ds μ Q X => ∃ f g, ds = [fr f, fr g] ∧ Sz f ∧ Sz g ∧ (g.1 = 0 → X (.ref C) none μ) ∧ (g.1 ≠ 0 → Q (fr (divF f g)) μ)
def c_under : Ct := fun ds μ Q _ => ∃ f g, ds = [fr f, fr g] ∧ Sz f ∧ Sz g ∧ Q (.bl (decide (f.1 * g.2 < g.1 * f.2))) μ
def c_total : Ct := fun ds μ Q _ => ∃ fs : List (Int × Int), ds = [.lst (fs.map fr)] ∧ fs.length ≤ 10 ∧ (∀ f ∈ fs, Ok 110 f) ∧ Q (fr (fs.foldl addF (0, 1))) μ
/-- the pool: two numbers from nought on -/
def Pool (μ : M) (p : Addr) : Prop := ∃ c s : Int, μ p = some (.lst [.int c, .int s]) ∧ 0 ≤ c ∧ 0 ≤ s ∧ s < 2147483647
def c_cell_at : Ct := fun ds μ Q _ => ∃ (ns : List Int) (k : Int), ds = [.scr ns, .int k] ∧ 0 ≤ k ∧ ∀ c : Int, Q (.int c) μ
def c_pool : Ct := fun ds μ Q _ => ∃ (ns : List Int) (k : Int), ds = [.scr ns, .int k] ∧ 0 ≤ k ∧ k < 100 ∧ ∀ p μ', μ p = none → Pool μ' p → Oth μ μ' p → Q (.raw (.ref p)) μ'
def c_take : Ct := fun ds μ Q _ => ∃ (p : Addr) (m : Int), ds = [.raw (.ref p), .int m] ∧ Pool μ p ∧ 0 < m ∧ m < 2 ^ 100 ∧ ∀ r μ', 0 ≤ r → r < m → Pool μ' p → Oth μ μ' p → Q (.int r) μ'
def c_low : Ct := c_lowest

def t_shared : DTS :=
  (dSeq (dSet 0 (dCB gAbs (dCons (dVar 0) dNil)))
    (dSeq (dSet 1 (dCB gAbs (dCons (dVar 1) dNil)))
    (dSeq (dWhile (dB (dOp gGt (dVar 1) (dC (.int 0)))) (dPar 0 1 (dCons (dVar 1) (dCons (dOp (gI (fun _ j => j ≠ 0) fun i j => .int (i.fmod j)) (dVar 0) (dVar 1)) dNil))))
    (dRet (dVar 0)))))
def t_lowest : DTS :=
  (dSeq (dIf (dB (dOp gEq (dVar 1) (dC (.int 1)))) (dRet (dTup (dCons (dVar 0) (dCons (dC (.int 1)) dNil)))) dNext)
    (dSeq (dSet 2 (dCall c_shared (dCons (dVar 0) (dCons (dVar 1) dNil))))
    (dSeq (dIf (dB (dOp gLt (dVar 1) (dC (.int 0)))) (dSet 2 (dOp (gI0 fun i j => .int (i - j)) (dC (.int 0)) (dVar 2))) dNext)
    (dRet (dTup (dCons (dOp (gI CDivD fun i j => .int (i.fdiv j)) (dVar 0) (dVar 2)) (dCons (dOp (gI CDivD fun i j => .int (i.fdiv j)) (dVar 1) (dVar 2)) dNil)))))))
def t_plus : DTS :=
  (dRet (dCall c_lowest (dCons (dOp gAdd (dOp gMul (dOp gIx (dVar 0) (dC (.int 0))) (dOp gIx (dVar 1) (dC (.int 1)))) (dOp gMul (dOp gIx (dVar 1) (dC (.int 0))) (dOp gIx (dVar 0) (dC (.int 1))))) (dCons (dOp gMul (dOp gIx (dVar 0) (dC (.int 1))) (dOp gIx (dVar 1) (dC (.int 1)))) dNil))))
def t_minus : DTS :=
  (dRet (dCall c_lowest (dCons (dOp (gI0 fun i j => .int (i - j)) (dOp gMul (dOp gIx (dVar 0) (dC (.int 0))) (dOp gIx (dVar 1) (dC (.int 1)))) (dOp gMul (dOp gIx (dVar 1) (dC (.int 0))) (dOp gIx (dVar 0) (dC (.int 1))))) (dCons (dOp gMul (dOp gIx (dVar 0) (dC (.int 1))) (dOp gIx (dVar 1) (dC (.int 1)))) dNil))))
def t_times : DTS :=
  (dRet (dCall c_lowest (dCons (dOp gMul (dOp gIx (dVar 0) (dC (.int 0))) (dOp gIx (dVar 1) (dC (.int 0)))) (dCons (dOp gMul (dOp gIx (dVar 0) (dC (.int 1))) (dOp gIx (dVar 1) (dC (.int 1)))) dNil))))
def t_over (C_NoNumber : Addr) : DTS :=
  (dSeq (dIf (dB (dOp gEq (dOp gIx (dVar 1) (dC (.int 0))) (dC (.int 0)))) (dRaise C_NoNumber) dNext)
    (dRet (dCall c_lowest (dCons (dOp gMul (dOp gIx (dVar 0) (dC (.int 0))) (dOp gIx (dVar 1) (dC (.int 1)))) (dCons (dOp gMul (dOp gIx (dVar 0) (dC (.int 1))) (dOp gIx (dVar 1) (dC (.int 0)))) dNil)))))
def t_under : DTS :=
  (dRet (dOp gLt (dOp gMul (dOp gIx (dVar 0) (dC (.int 0))) (dOp gIx (dVar 1) (dC (.int 1)))) (dOp gMul (dOp gIx (dVar 1) (dC (.int 0))) (dOp gIx (dVar 0) (dC (.int 1))))))
def t_total : DTS :=
  (dSeq (dSet 1 (dC k_NOUGHT))
    (dSeq (dFor (dSeqI (dVar 0)) (tgN 2) (dSet 1 (dCall c_plus (dCons (dVar 1) (dCons (dVar 2) dNil)))))
    (dRet (dVar 1))))
def t_law_cell_at : DTS :=
  (dSeq (dIf (dB (dOp gLt (dVar 1) (dCB gLen (dCons (dVar 0) dNil)))) (dRet (dOp gIx (dVar 0) (dVar 1))) dNext)
    (dRet (dC (.int 0))))
def t_law_pool : DTS :=
  (dSeq (dSet 2 (dCall c_cell_at (dCons (dVar 0) (dCons (dVar 1) dNil))))
    (dSeq (dSet 3 (dOp (gI (fun _ j => j ≠ 0) fun i j => .int (i.fmod j)) (dOp gMul (dOp gAdd (dOp gAdd (dOp (gI (fun _ j => j ≠ 0) fun i j => .int (i.fmod j)) (dVar 2) (dC (.int 2147483629))) (dOp gMul (dOp gMul (dC (.int 7919)) (dVar 1)) (dVar 1))) (dC (.int 1))) (dC (.int 48271))) (dC (.int 2147483647))))
    (dSeq (dIf (dB (dOp gLt (dVar 2) (dOp (gI CPow fun i j => .int (i ^ j.toNat)) (dC (.int 10)) (dC (.int 18))))) (dSet 2 (dC (.int 0))) dNext)
    (dRet (dLstC (dCons (dVar 2) (dCons (dOp (gI (fun _ j => j ≠ 0) fun i j => .int (i.fmod j)) (dOp gMul (dVar 3) (dVar 3)) (dC (.int 2147483629))) dNil)))))))
def t_law_take : DTS :=
  (dSeq (dIf (dB (dOp gGt (dOp gIx (dVar 0) (dC (.int 0))) (dC (.int 0)))) (dSeq (dSet 2 (dOp (gI (fun _ j => j ≠ 0) fun i j => .int (i.fmod j)) (dOp gIx (dVar 0) (dC (.int 0))) (dVar 1)))
    (dSeq (dSetIx (dOp (gI CDivD fun i j => .int (i.fdiv j)) (dOp gIx (dVar 0) (dC (.int 0))) (dVar 1)) (dVar 0) (dC (.int 0)))
    (dRet (dVar 2)))) dNext)
    (dSeq (dSetIx (dOp (gI (fun _ j => j ≠ 0) fun i j => .int (i.fmod j)) (dOp gAdd (dOp gMul (dOp gIx (dVar 0) (dC (.int 1))) (dC (.int 48271))) (dC (.int 11))) (dC (.int 2147483647))) (dVar 0) (dC (.int 1)))
    (dRet (dOp (gI (fun _ j => j ≠ 0) fun i j => .int (i.fmod j)) (dOp (gI CDivD fun i j => .int (i.fdiv j)) (dOp (gI (fun _ j => j ≠ 0) fun i j => .int (i.fmod j)) (dOp gMul (dOp gIx (dVar 0) (dC (.int 1))) (dOp gIx (dVar 0) (dC (.int 1)))) (dC (.int 2147483629))) (dC (.int 64))) (dVar 1)))))
def t_law_low : DTS :=
  (dSeq (dSet 2 (dCB gAbs (dCons (dVar 0) dNil)))
    (dSeq (dSet 3 (dCB gAbs (dCons (dVar 1) dNil)))
    (dSeq (dWhile (dB (dOp gGt (dVar 3) (dC (.int 0)))) (dPar 2 3 (dCons (dVar 3) (dCons (dOp (gI (fun _ j => j ≠ 0) fun i j => .int (i.fmod j)) (dVar 2) (dVar 3)) dNil))))
    (dSeq (dIf (dB (dOp gLt (dVar 1) (dC (.int 0)))) (dSet 2 (dOp (gI0 fun i j => .int (i - j)) (dC (.int 0)) (dVar 2))) dNext)
    (dRet (dTup (dCons (dOp (gI CDivD fun i j => .int (i.fdiv j)) (dVar 0) (dVar 2)) (dCons (dOp (gI CDivD fun i j => .int (i.fdiv j)) (dVar 1) (dVar 2)) dNil))))))))

theorem gcdI_abs {a b : Int} : gcdI (if a < 0 then -a else a) (if b < 0 then -b else b) = gcdI a b := by
  unfold gcdI
  have h1 : (if a < 0 then -a else a).natAbs = a.natAbs := by split <;> omega
  have h2 : (if b < 0 then -b else b).natAbs = b.natAbs := by split <;> omega
  rw [h1, h2]
theorem gcdI_step {x y : Int} (hx : 0 ≤ x) (hy : 0 < y) : gcdI y (x.fmod y) = gcdI x y := by
  unfold gcdI
  have e : (x.fmod y).natAbs = x.natAbs % y.natAbs := by
    rw [Int.fmod_eq_emod_of_nonneg x (by omega)]
    obtain ⟨n, rfl⟩ := Int.eq_ofNat_of_zero_le hx
    obtain ⟨m, rfl⟩ := Int.eq_ofNat_of_zero_le (Int.le_of_lt hy)
    rfl
  rw [e, Nat.gcd_comm, ← Nat.gcd_rec, Nat.gcd_comm]
theorem gcdI_zero {x : Int} (hx : 0 ≤ x) : gcdI x 0 = x := by
  unfold gcdI
  simp
  omega

theorem hb_shared : HB c_shared t_shared 2 := by
  intro ds μ Q X h
  obtain ⟨a, b, rfl, q⟩ := h
  show t_shared (ends Q XF) [some (.int a), some (.int b)] μ
  simp! only [t_shared]
  refine while_by (fun m δ μ' => ∃ x y : Int, δ = [some (.int x), some (.int y)] ∧ 0 ≤ x ∧ 0 ≤ y ∧ gcdI x y = gcdI a b ∧ m = y.toNat ∧ μ' = μ) ⟨_, _, rfl, by split <;> omega, by split <;> omega, gcdI_abs, rfl, rfl⟩ ?_
  rintro m δ μ' ⟨x, y, rfl, hx, hy, hg, rfl, rfl⟩
  walk_at "r"
  refine ifS_dec (fun h0 => ?_) (fun h => ?_)
  · have e1 := Int.fmod_nonneg_of_pos x h0
    have e2 := Int.fmod_lt_of_pos x h0
    walk_at "r"
    refine ⟨by omega, (x.fmod y).toNat, by omega, y, x.fmod y, rfl, by omega, by omega, ?_, rfl, rfl⟩
    rw [gcdI_step hx h0, hg]
  · have h0 : y = 0 := by omega
    subst h0
    rw [gcdI_zero hx] at hg
    walk_at "r"
    exact .of (by rw [hg]; exact q)
theorem hb_lowest : HB c_lowest t_lowest 3 := by
  intro ds μ Q X h
  obtain ⟨t, b, rfl, hb, hz, q⟩ := h
  show t_lowest (ends Q XF) [some (.int t), some (.int b), none] μ
  simp! only [t_lowest]
  refine ⟨rfl, rfl, ifS_dec (fun h1 => ?_) (fun _ => ?_)⟩
  · subst h1
    rw [low_one] at q
    walk_at "r"
    exact ⟨by decide, .of q⟩
  · walk_at "r"
    refine ⟨t, b, rfl, ?_⟩
    walk_at "r"
    have e : by_ t b = if b < 0 then 0 - gcdI t b else gcdI t b := rfl
    have hd : ∀ x, CDivD x (by_ t b) := fun x => divOk_pow (by_ne hb) (Nat.lt_of_le_of_lt (by_le hb) hz) (by decide)
    refine ifS_dec (fun h => ?_) (fun h => ?_)
    · rw [if_pos h] at e
      walk_at "r"
      rw [← e]
      exact ⟨hd _, hd _, by decide, .of q⟩
    · rw [if_neg h] at e
      walk_at "r"
      rw [← e]
      exact ⟨hd _, hd _, by decide, .of q⟩
theorem mok {x y : Int} (hx : x.natAbs < 2 ^ 4000) (hy : y.natAbs < 2 ^ 4000) : IntMulOk x y := mulOk_pow hx hy (by decide)
theorem hb_plus : HB c_plus t_plus 2 := by
  intro ds μ Q X h
  obtain ⟨⟨a, b⟩, ⟨c, d⟩, rfl, hf, hg, q⟩ := h
  show t_plus (ends Q XF) [some (fr (a, b)), some (fr (c, d))] μ
  simp! only [t_plus, fr]
  exact ⟨mok hf.tb hg.bb, mok hg.tb hf.bb, mok hf.bb hg.bb, _, _, rfl, mul_ne hf.ne hg.ne, lt_mono (mul_lt hf.bb hg.bb) (by omega), .of q⟩
theorem hb_minus : HB c_minus t_minus 2 := by
  intro ds μ Q X h
  obtain ⟨⟨a, b⟩, ⟨c, d⟩, rfl, hf, hg, q⟩ := h
  show t_minus (ends Q XF) [some (fr (a, b)), some (fr (c, d))] μ
  simp! only [t_minus, fr]
  exact ⟨mok hf.tb hg.bb, mok hg.tb hf.bb, mok hf.bb hg.bb, _, _, rfl, mul_ne hf.ne hg.ne, lt_mono (mul_lt hf.bb hg.bb) (by omega), .of q⟩
theorem hb_times : HB c_times t_times 2 := by
  intro ds μ Q X h
  obtain ⟨⟨a, b⟩, ⟨c, d⟩, rfl, hf, hg, q⟩ := h
  show t_times (ends Q XF) [some (fr (a, b)), some (fr (c, d))] μ
  simp! only [t_times, fr]
  exact ⟨mok hf.tb hg.tb, mok hf.bb hg.bb, _, _, rfl, mul_ne hf.ne hg.ne, lt_mono (mul_lt hf.bb hg.bb) (by omega), .of q⟩
theorem hb_over {C_NoNumber : Addr} : HBX (c_over C_NoNumber) (t_over C_NoNumber) 2 := by
  intro ds μ Q X h
  obtain ⟨⟨a, b⟩, ⟨c, d⟩, rfl, hf, hg, q0, q1⟩ := h
  show t_over C_NoNumber (ends Q (FinX X)) [some (fr (a, b)), some (fr (c, d))] μ
  simp! only [t_over, fr]
  refine ⟨rfl, rfl, ifS_dec (fun h => ?_) (fun h => ?_)⟩
  · walk_at "r"
    exact ⟨μ, Sub.refl _, q0 h⟩
  · walk_at "r"
    exact ⟨mok hf.tb hg.bb, mok hf.bb hg.tb, _, _, rfl, mul_ne hf.ne h, lt_mono (mul_lt hf.bb hg.tb) (by omega), .of (q1 h)⟩
theorem hb_under : HB c_under t_under 2 := by
  intro ds μ Q X h
  obtain ⟨⟨a, b⟩, ⟨c, d⟩, rfl, hf, hg, q⟩ := h
  show t_under (ends Q XF) [some (fr (a, b)), some (fr (c, d))] μ
  simp! only [t_under, fr]
  exact ⟨mok hf.tb hg.bb, mok hg.tb hf.bb, .of q⟩
theorem Ok.sz {n : Nat} {f : Int × Int} (h : Ok n f) (l : n ≤ 4000) : Sz f := ⟨h.ne, lt_mono h.tb l, lt_mono h.bb l⟩
theorem ok_fold : ∀ (fs : List (Int × Int)) (n : Nat) (s : Int × Int), Ok n s → (∀ f ∈ fs, Ok 110 f) → Ok (n + 111 * fs.length) (fs.foldl addF s)
  | [], n, s, h, _ => h
  | f :: fs, n, s, h, k => by
    have := ok_fold fs (n + 110 + 1) (addF s f) (ok_add h (k f List.mem_cons_self)) fun g hg => k g (List.mem_cons_of_mem _ hg)
    rw [List.foldl_cons, List.length_cons]
    have e : n + 110 + 1 + 111 * fs.length = n + 111 * (fs.length + 1) := by omega
    rw [e] at this
    exact this
theorem ok_nought : Ok 1 ((0, 1) : Int × Int) := ⟨by decide, by decide, by decide, by decide⟩
theorem take_succ {α : Type} {l : List α} {i : Nat} {x : α} (h : l[i]? = some x) : l.take (i + 1) = l.take i ++ [x] := by
  rw [List.take_add_one, h]
  rfl
theorem fold_take {fs : List (Int × Int)} {i : Nat} {x : Int × Int} {s : Int × Int} (h : fs[i]? = some x) : (fs.take (i + 1)).foldl addF s = addF ((fs.take i).foldl addF s) x := by
  rw [take_succ h, List.foldl_append]
  rfl

theorem hb_total : HB c_total t_total 3 := by
  intro ds μ Q X h
  obtain ⟨fs, rfl, hl, hk, q⟩ := h
  show t_total (ends Q XF) [some (.lst (fs.map fr)), none, none] μ
  simp! only [t_total]
  refine ⟨fun i δ μ' => μ' = μ ∧ ∃ x, δ = [some (.lst (fs.map fr)), some (fr ((fs.take i).foldl addF (0, 1))), x], ⟨rfl, none, rfl⟩, ?_⟩
  rintro i δ μ' ⟨rfl, x, rfl⟩
  refine ⟨trivial, fun d hd => ?_, fun hi => ?_⟩
  · rw [List.getElem?_map] at hd
    cases e : fs[i]? with
    | none => rw [e] at hd; cases hd
    | some g =>
      rw [e] at hd
      cases hd
      walk_at "r"
      have hm : ∀ f ∈ fs.take i, Ok 110 f := fun f hf => hk f (List.mem_of_mem_take hf)
      have h1 := ok_fold (fs.take i) 1 (0, 1) ok_nought hm
      have hlen : (fs.take i).length ≤ 10 := by rw [List.length_take]; omega
      refine ⟨_, g, rfl, Ok.sz h1 (by omega), Ok.sz (hk g (List.mem_of_getElem? e)) (by decide), ?_⟩
      walk_at "r"
      refine ⟨some (fr g), ?_⟩
      rw [fold_take e]
  · walk_at "r"
    rw [List.length_map] at hi
    subst hi
    rw [List.take_length]
    exact .of q
theorem hb_law_cell_at : HB c_cell_at t_law_cell_at 2 := by
  intro ds μ Q X h
  obtain ⟨ns, k, rfl, hk, q⟩ := h
  show t_law_cell_at (ends Q XF) [some (.scr ns), some (.int k)] μ
  simp! only [t_law_cell_at]
  refine ifS_dec (fun h => ?_) (fun h => ?_)
  · obtain ⟨x, e, _⟩ := atI_lt hk h
    simp! only [e]
    exact .of (q _)
  · walk_at "r"
    exact .of (q _)
theorem hb_law_pool : HB c_pool t_law_pool 4 := by
  intro ds μ Q X h
  obtain ⟨ns, k, rfl, hk, hk2, q⟩ := h
  show t_law_pool (ends Q XF) [some (.scr ns), some (.int k), none, none] μ
  simp! only [t_law_pool]
  refine ⟨ns, k, rfl, hk, fun c => ?_⟩
  walk_at "r"
  have e0 : ∀ x : Int, 0 ≤ x.fmod 2147483629 ∧ x.fmod 2147483629 < 2147483629 := fun x => ⟨Int.fmod_nonneg_of_pos x (by decide), Int.fmod_lt_of_pos x (by decide)⟩
  have e1 : ∀ x : Int, 0 ≤ x.fmod 2147483647 ∧ x.fmod 2147483647 < 2147483647 := fun x => ⟨Int.fmod_nonneg_of_pos x (by decide), Int.fmod_lt_of_pos x (by decide)⟩
  have kk : 0 ≤ 7919 * k * k ∧ 7919 * k * k < 2 ^ 40 := by
    have h1 : 0 ≤ k * k := Int.mul_nonneg hk hk
    have h2 : k * k ≤ 100 * 100 := Int.mul_le_mul (by omega) (by omega) hk (by decide)
    have h3 : 7919 * k * k = 7919 * (k * k) := Int.mul_assoc ..
    omega
  have a1 := e0 c
  have m1 : IntMulOk 7919 k := mulOk_64 (by omega) (by omega) (by omega) (by omega)
  have m2 : IntMulOk (7919 * k) k := mulOk_64 (by omega) (by omega) (by omega) (by omega)
  have m3 : IntMulOk (c.fmod 2147483629 + 7919 * k * k + 1) 48271 := mulOk_64 (by omega) (by omega) (by omega) (by omega)
  refine ⟨by decide, m1, m2, m3, by decide, ⟨by decide, by decide, by decide⟩, ?_⟩
  generalize (c.fmod 2147483629 + 7919 * k * k + 1) * 48271 = y
  have b1 := e1 y
  have m4 : IntMulOk (y.fmod 2147483647) (y.fmod 2147483647) := mulOk_64 (by omega) (by omega) (by omega) (by omega)
  have b2 := e0 (y.fmod 2147483647 * y.fmod 2147483647)
  refine ifS_dec (fun h => ?_) (fun h => ?_)
  · walk_at "r"
    refine ⟨m4, by decide, by decide, fun p hp => .of (q p _ hp ⟨0, _, updM_same, by decide, b2.1, by omega⟩ Oth.upd)⟩
  · walk_at "r"
    refine ⟨m4, by decide, by decide, fun p hp => .of (q p _ hp ⟨c, _, updM_same, ?_, b2.1, by omega⟩ Oth.upd)⟩
    have z : ¬ c < 10 ^ Int.toNat 18 := h
    have : (10 : Int) ^ Int.toNat 18 = 1000000000000000000 := by decide
    omega
theorem hb_law_take : HB c_take t_law_take 3 := by
  intro ds μ Q X h
  obtain ⟨p, m, rfl, ⟨c, s, hp, hc, hs, hs2⟩, h0, h1, q⟩ := h
  show t_law_take (ends Q XF) [some (.raw (.ref p)), some (.int m), none] μ
  have e0 := Int.fmod_nonneg_of_pos c h0
  have e1 := Int.fmod_lt_of_pos c h0
  have z100 : (2 : Nat) ^ 100 = 1267650600228229401496703205376 := by decide
  have hd : ∀ x, CDivD x m := fun x => divOk_pow (b := 100) (by omega) (by omega) (by decide)
  simp! only [t_law_take, view_cell hp]
  refine ifS_dec (fun h => ?_) (fun h => ?_)
  · simp! only [view_cell hp]
    refine ⟨by omega, hd _, _, hp, ?_⟩
    simp! only [ixN_zero]
    have ef : 0 ≤ c.fdiv m := by rw [Int.fdiv_eq_ediv_of_nonneg c (by omega)]; exact Int.ediv_nonneg hc (by omega)
    exact .of (q _ _ e0 e1 ⟨_, s, updM_same, ef, hs, hs2⟩ Oth.upd)
  · have m1 : IntMulOk s 48271 := mulOk_64 (by omega) (by omega) (by omega) (by omega)
    simp! only [view_cell hp]
    refine ⟨m1, by decide, _, hp, ?_⟩
    simp! only [ixN_one]
    have hv : (updM μ p (C.lst [D.int c, D.int ((s * 48271 + 11).fmod 2147483647)])) p = some (C.lst [D.int c, D.int ((s * 48271 + 11).fmod 2147483647)]) := updM_same
    simp! only [view_cell hv]
    generalize s * 48271 + 11 = y
    have b1 : 0 ≤ y.fmod 2147483647 ∧ y.fmod 2147483647 < 2147483647 := ⟨Int.fmod_nonneg_of_pos _ (by decide), Int.fmod_lt_of_pos _ (by decide)⟩
    have m4 : IntMulOk (y.fmod 2147483647) (y.fmod 2147483647) := mulOk_64 (by omega) (by omega) (by omega) (by omega)
    refine ⟨m4, by decide, divOk_small (by decide) (by decide), by omega, .of (q _ _ (Int.fmod_nonneg_of_pos _ h0) (Int.fmod_lt_of_pos _ h0) ⟨_, _, updM_same, hc, b1.1, b1.2⟩ Oth.upd)⟩
theorem hb_law_low : HB c_low t_law_low 4 := by
  intro ds μ Q X h
  obtain ⟨t, b, rfl, hb, hz, q⟩ := h
  show t_law_low (ends Q XF) [some (.int t), some (.int b), none, none] μ
  simp! only [t_law_low]
  refine while_by (fun m δ μ' => ∃ x y : Int, δ = [some (.int t), some (.int b), some (.int x), some (.int y)] ∧ 0 ≤ x ∧ 0 ≤ y ∧ gcdI x y = gcdI t b ∧ m = y.toNat ∧ μ' = μ) ⟨_, _, rfl, by split <;> omega, by split <;> omega, gcdI_abs, rfl, rfl⟩ ?_
  rintro m δ μ' ⟨x, y, rfl, hx, hy, hg, rfl, rfl⟩
  walk_at "r"
  refine ifS_dec (fun h0 => ?_) (fun h => ?_)
  · have e1 := Int.fmod_nonneg_of_pos x h0
    have e2 := Int.fmod_lt_of_pos x h0
    walk_at "r"
    refine ⟨by omega, (x.fmod y).toNat, by omega, y, x.fmod y, rfl, by omega, by omega, ?_, rfl, rfl⟩
    rw [gcdI_step hx h0, hg]
  · have h0 : y = 0 := by omega
    subst h0
    rw [gcdI_zero hx] at hg
    have e : by_ t b = if b < 0 then 0 - x else x := by rw [hg]; rfl
    have hd : ∀ x, CDivD x (by_ t b) := fun x => divOk_pow (by_ne hb) (Nat.lt_of_le_of_lt (by_le hb) hz) (by decide)
    walk_at "r"
    refine ifS_dec (fun h => ?_) (fun h => ?_)
    · rw [if_pos h] at e
      walk_at "r"
      rw [← e]
      exact ⟨hd _, hd _, by decide, .of q⟩
    · rw [if_neg h] at e
      walk_at "r"
      rw [← e]
      exact ⟨hd _, hd _, by decide, .of q⟩
end NB
set_option Elab.async false
set_option linter.all false
set_option maxRecDepth 100000
set_option maxHeartbeats 2000000
set_option exponentiation.threshold 20000
local macro_rules | `(tactic| walk_at "r") => `(tactic| simp only [DL.dSeq, DL.dSet, DL.kSet, DL.dCB, DL.kCB, DL.dCons, DL.kCons1, DL.kCons2, DL.dNil, DL.dVar, DL.dC, DL.dOp, DL.kOp1, DL.kOp2, DL.dB, DL.kB, DL.dIf, DL.kIf, DL.dRet, DL.dRetN, DL.dTup, DL.kTup, DL.dLst, DL.kLst, DL.dLstC, DL.kLstC, DL.dCall, DL.kCall, DL.dCallK, DL.kCallK1, DL.kCallK2, DL.dLenIs, DL.kLenIs, DL.dNext, DL.dDrop, DL.kDrop, DL.dPar, DL.kPar, DL.dAug, DL.kAug, DL.dAsg, DL.kAsg, DL.dSetIx, DL.kSetIx1, DL.kSetIx2, DL.kSetIx3, DL.dTru, DL.kTru, DL.dAnd, DL.kAnd, DL.dOr, DL.kOr, DL.dNot, DL.kNot, DL.dAndV, DL.kAndV, DL.dOrV, DL.kOrV, DL.dNotV, DL.kNotV, DL.dIfE, DL.kIfE, DL.dChain, DL.kChain1, DL.kChain2, DL.kChain3_true, DL.kChain3_false, DL.dNeg, DL.kNeg, DL.dFz, DL.kFz, DL.dRaise, DL.dTryAs, DL.suiteE, DL.kUnset, DL.dFor, DL.kFor, DL.dSeqI, DL.kSeqI, DL.dRange1, DL.kRange1, DL.dRange2, DL.kRange2, DL.dLc, DL.kLc, DL.dLcC, DL.kLstD, DL.kNewC, DL.dYes, DL.wipeD, DL.loopD, DL.compD, DL.kItem, DL.kTest_true, DL.kTest_false, DL.putIx_some, DL.setsK_some, DL.turnD_some, DL.turnC_some, DL.ifS_true, DL.ifS_false, DL.ifAnd_true, DL.ifAnd_false, DL.ifOr_true, DL.ifOr_false, DL.ifAndV_true, DL.ifAndV_false, DL.ifOrV_true, DL.ifOrV_false, DL.ifE_true, DL.ifE_false, DL.srcOf, DL.tgN, DL.tgT, DL.tgNil, DL.tgCons, DL.sets, List.foldl_cons, List.foldl_nil, DL.gI, DL.gI0, DL.gAdd, DL.gMul, DL.gIx, DL.gEq, DL.gNe, DL.gIs, DL.gIn, DL.gLen, DL.gAbs, DL.gMax2, DL.gMin2, DL.gAll, DL.gAny, DL.gSum, DL.gList, DL.gListC, DL.gTuple, DL.gIsiC, DL.gIsi, DL.tyN, DL.subN_NoneType_int, DL.subN_NoneType_bool, DL.subN_NoneType_str, DL.subN_NoneType_list, DL.subN_NoneType_tuple, DL.subN_bool_int, DL.subN_bool_bool, DL.subN_bool_str, DL.subN_bool_list, DL.subN_bool_tuple, DL.subN_int_int, DL.subN_int_bool, DL.subN_int_str, DL.subN_int_list, DL.subN_int_tuple, DL.subN_str_int, DL.subN_str_bool, DL.subN_str_str, DL.subN_str_list, DL.subN_str_tuple, DL.subN_list_int, DL.subN_list_bool, DL.subN_list_str, DL.subN_list_list, DL.subN_list_tuple, DL.subN_tuple_int, DL.subN_tuple_bool, DL.subN_tuple_str, DL.subN_tuple_list, DL.subN_tuple_tuple, DL.truD, DL.blsOf, DL.view_non, DL.view_bl, DL.view_int', DL.view_str', DL.view_lst', DL.view_tup', DL.view_scr', DL.ends, DL.kEnd, DL.OptP_some, DL.OptQ_some, DL.OptB_some, DL.OptS_some, List.getElem?_cons_zero, List.getElem?_cons_succ, List.set_cons_zero, List.set_cons_succ, DL.atI_zero, DL.atI_one, DL.atI_two, List.length_cons, List.length_nil, DL.pick, List.filterMap_cons, List.filterMap_nil, List.nil_append, List.cons_append, List.map_cons, List.map_nil, Option.map_some, Option.bind_some, true_and, and_true, Bool.false_eq_true, Bool.not_true, Bool.not_false, Bool.xor_false, Bool.xor_true, Bool.false_xor, Bool.true_xor, decide_true, decide_false, Nat.zero_add, Nat.reduceAdd, not_true_eq_false, not_false_eq_true, DL.eqD_int, DL.eqD_str, DL.eqD_bl, DL.eqD_tup, DL.eqD_lst, DL.eqDs_nil, DL.eqDs_cons, Bool.and_true, Bool.and_false, List.all_cons, List.all_nil, List.any_cons, List.any_nil, Bool.and_self, DL.dM, DL.kM1, DL.kM2, DL.dM0, DL.kM0, DL.gAppend, DL.gInsert, DL.gExtend, DL.gPop1, DL.gPop0, DL.gReverse, DL.gSort, DL.gRemove, DL.gCount, DL.gIndex, DL.dSlG, DL.kSl1, DL.kSl2, DL.kSl3, DL.gSl, DL.gSlC, DL.dNoPart, DL.dPart, DL.kPart, DL.dLR1, DL.kLR1, DL.dLR2, DL.kLR21, DL.kLR22, DL.nLst, DL.gRepC, DL.gCatC, DL.gInt, DL.gSorted, DL.gMaxL, DL.gMinL, DL.dEnum, DL.kEnum, DL.dZip2, DL.kZip2, DL.dZip3, DL.kZip3, DL.OptS2_some, DL.OptS3_some, DL.dRev, DL.kRev, DL.dEmp, DL.view_emp', DL.subN_dict_int, DL.subN_dict_bool, DL.subN_dict_str, DL.subN_dict_list, DL.subN_dict_tuple, DL.cellL_lst, DL.cellL_none])
local macro_rules | `(tactic| simp! only [$xs,*]) => `(tactic| simp only [DL.dSeq, DL.dSet, DL.kSet, DL.dCB, DL.kCB, DL.dCons, DL.kCons1, DL.kCons2, DL.dNil, DL.dVar, DL.dC, DL.dOp, DL.kOp1, DL.kOp2, DL.dB, DL.kB, DL.dIf, DL.kIf, DL.dRet, DL.dRetN, DL.dTup, DL.kTup, DL.dLst, DL.kLst, DL.dLstC, DL.kLstC, DL.dCall, DL.kCall, DL.dCallK, DL.kCallK1, DL.kCallK2, DL.dLenIs, DL.kLenIs, DL.dNext, DL.dDrop, DL.kDrop, DL.dPar, DL.kPar, DL.dAug, DL.kAug, DL.dAsg, DL.kAsg, DL.dSetIx, DL.kSetIx1, DL.kSetIx2, DL.kSetIx3, DL.dTru, DL.kTru, DL.dAnd, DL.kAnd, DL.dOr, DL.kOr, DL.dNot, DL.kNot, DL.dAndV, DL.kAndV, DL.dOrV, DL.kOrV, DL.dNotV, DL.kNotV, DL.dIfE, DL.kIfE, DL.dChain, DL.kChain1, DL.kChain2, DL.kChain3_true, DL.kChain3_false, DL.dNeg, DL.kNeg, DL.dFz, DL.kFz, DL.dRaise, DL.dTryAs, DL.suiteE, DL.kUnset, DL.dFor, DL.kFor, DL.dSeqI, DL.kSeqI, DL.dRange1, DL.kRange1, DL.dRange2, DL.kRange2, DL.dLc, DL.kLc, DL.dLcC, DL.kLstD, DL.kNewC, DL.dYes, DL.wipeD, DL.loopD, DL.compD, DL.kItem, DL.kTest_true, DL.kTest_false, DL.putIx_some, DL.setsK_some, DL.turnD_some, DL.turnC_some, DL.ifS_true, DL.ifS_false, DL.ifAnd_true, DL.ifAnd_false, DL.ifOr_true, DL.ifOr_false, DL.ifAndV_true, DL.ifAndV_false, DL.ifOrV_true, DL.ifOrV_false, DL.ifE_true, DL.ifE_false, DL.srcOf, DL.tgN, DL.tgT, DL.tgNil, DL.tgCons, DL.sets, List.foldl_cons, List.foldl_nil, DL.gI, DL.gI0, DL.gAdd, DL.gMul, DL.gIx, DL.gEq, DL.gNe, DL.gIs, DL.gIn, DL.gLen, DL.gAbs, DL.gMax2, DL.gMin2, DL.gAll, DL.gAny, DL.gSum, DL.gList, DL.gListC, DL.gTuple, DL.gIsiC, DL.gIsi, DL.tyN, DL.subN_NoneType_int, DL.subN_NoneType_bool, DL.subN_NoneType_str, DL.subN_NoneType_list, DL.subN_NoneType_tuple, DL.subN_bool_int, DL.subN_bool_bool, DL.subN_bool_str, DL.subN_bool_list, DL.subN_bool_tuple, DL.subN_int_int, DL.subN_int_bool, DL.subN_int_str, DL.subN_int_list, DL.subN_int_tuple, DL.subN_str_int, DL.subN_str_bool, DL.subN_str_str, DL.subN_str_list, DL.subN_str_tuple, DL.subN_list_int, DL.subN_list_bool, DL.subN_list_str, DL.subN_list_list, DL.subN_list_tuple, DL.subN_tuple_int, DL.subN_tuple_bool, DL.subN_tuple_str, DL.subN_tuple_list, DL.subN_tuple_tuple, DL.truD, DL.blsOf, DL.view_non, DL.view_bl, DL.view_int', DL.view_str', DL.view_lst', DL.view_tup', DL.view_scr', DL.ends, DL.kEnd, DL.OptP_some, DL.OptQ_some, DL.OptB_some, DL.OptS_some, List.getElem?_cons_zero, List.getElem?_cons_succ, List.set_cons_zero, List.set_cons_succ, DL.atI_zero, DL.atI_one, DL.atI_two, List.length_cons, List.length_nil, DL.pick, List.filterMap_cons, List.filterMap_nil, List.nil_append, List.cons_append, List.map_cons, List.map_nil, Option.map_some, Option.bind_some, true_and, and_true, Bool.false_eq_true, Bool.not_true, Bool.not_false, Bool.xor_false, Bool.xor_true, Bool.false_xor, Bool.true_xor, decide_true, decide_false, Nat.zero_add, Nat.reduceAdd, not_true_eq_false, not_false_eq_true, DL.eqD_int, DL.eqD_str, DL.eqD_bl, DL.eqD_tup, DL.eqD_lst, DL.eqDs_nil, DL.eqDs_cons, Bool.and_true, Bool.and_false, List.all_cons, List.all_nil, List.any_cons, List.any_nil, Bool.and_self, DL.dM, DL.kM1, DL.kM2, DL.dM0, DL.kM0, DL.gAppend, DL.gInsert, DL.gExtend, DL.gPop1, DL.gPop0, DL.gReverse, DL.gSort, DL.gRemove, DL.gCount, DL.gIndex, DL.dSlG, DL.kSl1, DL.kSl2, DL.kSl3, DL.gSl, DL.gSlC, DL.dNoPart, DL.dPart, DL.kPart, DL.dLR1, DL.kLR1, DL.dLR2, DL.kLR21, DL.kLR22, DL.nLst, DL.gRepC, DL.gCatC, DL.gInt, DL.gSorted, DL.gMaxL, DL.gMinL, DL.dEnum, DL.kEnum, DL.dZip2, DL.kZip2, DL.dZip3, DL.kZip3, DL.OptS2_some, DL.OptS3_some, DL.dRev, DL.kRev, DL.dEmp, DL.view_emp', DL.subN_dict_int, DL.subN_dict_bool, DL.subN_dict_str, DL.subN_dict_list, DL.subN_dict_tuple, DL.cellL_lst, DL.cellL_none, $xs,*])
namespace K02
open PySem PySem.Spec L2 DL Fr NB
def c_drawn : Ct := fun ds μ Q _ => ∃ p : Addr, ds = [.raw (.ref p)] ∧ Pool μ p ∧ ∀ f μ', Ok 110 f → Pool μ' p → Oth μ μ' p → Q (fr f) μ'
def c_same : Ct := fun ds μ Q _ => ∃ f g, ds = [fr f, fr g] ∧ Q (.bl (decide (f = g))) μ
def c_refused : Ct := fun ds μ Q _ => ∃ f, ds = [fr f] ∧ Sz f ∧ Q (.bl true) μ
def c_right : Ct := fun ds μ Q _ => ∃ f g, ds = [fr f, fr g] ∧ Ok 110 f ∧ Ok 110 g ∧ Q (.bl true) μ
def t_law_drawn : DTS :=
  (dSeq (dSet 1 (dOp gAdd (dOp gMul (dCall c_take (dCons (dVar 0) (dCons (dOp (gI CPow fun i j => .int (i ^ j.toNat)) (dC (.int 10)) (dC (.int 9))) dNil))) (dOp (gI CPow fun i j => .int (i ^ j.toNat)) (dC (.int 10)) (dC (.int 21)))) (dCall c_take (dCons (dVar 0) (dCons (dOp (gI CPow fun i j => .int (i ^ j.toNat)) (dC (.int 10)) (dC (.int 9))) dNil)))))
    (dSeq (dSet 2 (dOp gIx (dLst (dCons (dCall c_take (dCons (dVar 0) (dCons (dC (.int 31)) dNil))) (dCons (dVar 1) dNil))) (dOp (gI CDivD fun i j => .int (i.fdiv j)) (dCall c_take (dCons (dVar 0) (dCons (dC (.int 4)) dNil))) (dC (.int 3)))))
    (dSeq (dSet 3 (dLst (dCons (dCall c_take (dCons (dVar 0) (dCons (dC (.int 30)) dNil))) (dCons (dC (.int 0)) (dCons (dOp gMul (dCall c_take (dCons (dVar 0) (dCons (dOp (gI CPow fun i j => .int (i ^ j.toNat)) (dC (.int 10)) (dC (.int 9))) dNil))) (dOp (gI CPow fun i j => .int (i ^ j.toNat)) (dC (.int 10)) (dC (.int 11)))) dNil)))))
    (dSeq (dSet 4 (dOp gAdd (dC (.int 1)) (dOp gIx (dVar 3) (dCall c_take (dCons (dVar 0) (dCons (dC (.int 3)) dNil))))))
    (dRet (dCall c_low (dCons (dOp gIx (dLst (dCons (dVar 2) (dCons (dOp (gI0 fun i j => .int (i - j)) (dC (.int 0)) (dVar 2)) dNil))) (dCall c_take (dCons (dVar 0) (dCons (dC (.int 2)) dNil)))) (dCons (dVar 4) dNil))))))))
def t_law_same : DTS :=
  (dSeq (dIf (dOr (dNot (dTru (dCB (gIsiC "tuple") (dCons (dVar 0) (dCons (dC (.raw (.ty "tuple"))) dNil))))) (dB (dOp gNe (dVar 0) (dVar 1)))) (dRet (dC (.bl false))) dNext)
    (dRet (dCB gAll (dCons (dLc (dSeqI (dVar 0)) (tgN 2) dYes (dAndV (dCB (gIsiC "int") (dCons (dVar 2) (dCons (dC (.raw (.ty "int"))) dNil))) (dNotV (dCB (gIsiC "bool") (dCons (dVar 2) (dCons (dC (.raw (.ty "bool"))) dNil))))) [2]) dNil))))
def t_law_refused (K : PySem.W.Frag) (C_NoNumber : Addr) : DTS :=
  (dSeq (dSet 1 (dC .non))
    (dSeq (dTryAs K (.ref C_NoNumber) 2 (dDrop (dCall (c_over C_NoNumber) (dCons (dVar 0) (dCons (dTup (dCons (dC (.int 0)) (dCons (dC (.int 1)) dNil))) dNil)))) (fun _ => (dSet 1 (dVar 2))))
    (dRet (dOp (gIs true) (dVar 1) (dC .non)))))
def t_law_right (C_NoNumber : Addr) : DTS :=
  (dSeq (dSet 2 (dCall c_low (dCons (dOp gAdd (dOp gMul (dOp gIx (dVar 0) (dC (.int 0))) (dOp gIx (dVar 1) (dC (.int 1)))) (dOp gMul (dOp gIx (dVar 1) (dC (.int 0))) (dOp gIx (dVar 0) (dC (.int 1))))) (dCons (dOp gMul (dOp gIx (dVar 0) (dC (.int 1))) (dOp gIx (dVar 1) (dC (.int 1)))) dNil))))
    (dSeq (dIf (dOr (dNot (dTru (dCall c_same (dCons (dCallK c_plus 2 [1, 0] dNil (dCons (dVar 1) (dCons (dVar 0) dNil))) (dCons (dVar 2) dNil))))) (dNot (dTru (dCall c_same (dCons (dCallK c_minus 2 [0, 1] (dLenIs 1 (dCons (dVar 2) dNil)) (dCons (dVar 1) dNil)) (dCons (dVar 0) dNil)))))) (dRet (dC (.bl false))) dNext)
    (dSeq (dSet 2 (dCall c_low (dCons (dOp gMul (dOp gIx (dVar 0) (dC (.int 0))) (dOp gIx (dVar 1) (dC (.int 0)))) (dCons (dOp gMul (dOp gIx (dVar 0) (dC (.int 1))) (dOp gIx (dVar 1) (dC (.int 1)))) dNil))))
    (dSeq (dIf (dOr (dNot (dTru (dCall c_same (dCons (dCallK c_times 2 [1, 0] dNil (dCons (dVar 1) (dCons (dVar 0) dNil))) (dCons (dVar 2) dNil))))) (dNot (dTru (dCall c_refused (dCons (dVar 0) dNil))))) (dRet (dC (.bl false))) dNext)
    (dSeq (dIf (dB (dOp gNe (dOp gIx (dVar 1) (dC (.int 0))) (dC (.int 0)))) (dSeq (dSet 2 (dCall c_low (dCons (dOp gMul (dOp gIx (dVar 0) (dC (.int 0))) (dOp gIx (dVar 1) (dC (.int 1)))) (dCons (dOp gMul (dOp gIx (dVar 0) (dC (.int 1))) (dOp gIx (dVar 1) (dC (.int 0)))) dNil))))
    (dIf (dNot (dTru (dCall c_same (dCons (dCallK (c_over C_NoNumber) 2 [1, 0] dNil (dCons (dVar 1) (dCons (dVar 0) dNil))) (dCons (dVar 2) dNil))))) (dRet (dC (.bl false))) dNext)) dNext)
    (dSeq (dSet 3 (dCallK c_under 2 [1, 0] dNil (dCons (dVar 1) (dCons (dVar 0) dNil))))
    (dRet (dAndV (dCB (gIsiC "bool") (dCons (dVar 3) (dCons (dC (.raw (.ty "bool"))) dNil))) (dOp gEq (dVar 3) (dOp gLt (dOp gMul (dOp gIx (dVar 0) (dC (.int 0))) (dOp gIx (dVar 1) (dC (.int 1)))) (dOp gMul (dOp gIx (dVar 1) (dC (.int 0))) (dOp gIx (dVar 0) (dC (.int 1))))))))))))))
def t_law : DTS :=
  (dSeq (dFor (dRange1 (dCons (dCB gMax2 (dCons (dC (.int 1)) (dCons (dCB gMin2 (dCons (dCB gLen (dCons (dVar 0) dNil)) (dCons (dC (.int 20)) dNil))) dNil))) dNil)) (tgN 1) (dSeq (dSet 2 (dCall c_pool (dCons (dVar 0) (dCons (dVar 1) dNil))))
    (dSeq (dSet 3 (dLc (dRange1 (dCons (dC (.int 3)) dNil)) (tgN 9) dYes (dCall c_drawn (dCons (dVar 2) dNil)) [9]))
    (dSeq (dFor (dSeqI (dVar 3)) (tgN 4) (dFor (dSeqI (dOp gAdd (dVar 3) (dLst (dCons (dTup (dCons (dC (.int 0)) (dCons (dC (.int 1)) dNil))) dNil)))) (tgN 5) (dIf (dNot (dTru (dCall c_right (dCons (dVar 4) (dCons (dVar 5) dNil))))) (dRet (dC (.bl false))) dNext)))
    (dSeq (dSet 6 (dLc (dRange1 (dCons (dCall c_take (dCons (dVar 2) (dCons (dC (.int 9)) dNil))) dNil)) (tgN 9) dYes (dCall c_drawn (dCons (dVar 2) dNil)) [9]))
    (dSeq (dSet 7 (dTup (dCons (dC (.int 0)) (dCons (dC (.int 1)) dNil))))
    (dSeq (dFor (dSeqI (dVar 6)) (tgN 4) (dSet 7 (dCall c_low (dCons (dOp gAdd (dOp gMul (dOp gIx (dVar 7) (dC (.int 0))) (dOp gIx (dVar 4) (dC (.int 1)))) (dOp gMul (dOp gIx (dVar 4) (dC (.int 0))) (dOp gIx (dVar 7) (dC (.int 1))))) (dCons (dOp gMul (dOp gIx (dVar 7) (dC (.int 1))) (dOp gIx (dVar 4) (dC (.int 1)))) dNil)))))
    (dSeq (dSet 8 (dCB gList (dCons (dVar 6) dNil)))
    (dIf (dOr (dNot (dTru (dCall c_same (dCons (dCall c_total (dCons (dVar 8) dNil)) (dCons (dVar 7) dNil))))) (dOr (dB (dOp gNe (dVar 8) (dVar 6))) (dNot (dTru (dCall c_same (dCons (dCallK c_total 1 [0] dNil (dCons (dLst dNil) dNil)) (dCons (dTup (dCons (dC (.int 0)) (dCons (dC (.int 1)) dNil))) dNil))))))) (dRet (dC (.bl false))) dNext)))))))))
    (dRet (dC (.bl true))))

theorem hb_law_drawn : HB c_drawn t_law_drawn 5 := by
  intro ds μ Q X h
  obtain ⟨p, rfl, hp, q⟩ := h
  show t_law_drawn (ends Q XF) [some (.raw (.ref p)), none, none, none, none] μ
  have p9 : (10 : Int) ^ Int.toNat 9 = 1000000000 := by decide
  have p21 : (10 : Int) ^ Int.toNat 21 = 1000000000000000000000 := by decide
  have p11 : (10 : Int) ^ Int.toNat 11 = 100000000000 := by decide
  have z100 : (2 : Int) ^ 100 = 1267650600228229401496703205376 := by decide
  have z110 : (2 : Nat) ^ 110 = 1298074214633706907132624082305024 := by decide
  have c9 : CPow 10 9 := ⟨by decide, by decide, by decide⟩
  simp! only [t_law_drawn, p9]
  refine ⟨c9, p, _, rfl, hp, by omega, by omega, fun r1 μ1 a1 b1 h1 o1 => ?_⟩
  simp! only [p9, p21, p11]
  refine ⟨⟨by decide, by decide, by decide⟩, mulOk_pow (a := 40) (b := 80) (by have : (2 : Nat) ^ 40 = 1099511627776 := by decide
                                                                               omega) (by decide) (by decide), c9, p, _, rfl, h1, by omega, by omega, fun r2 μ2 a2 b2 h2 o2 => ?_⟩
  simp! only [p9, p21, p11]
  refine ⟨p, _, rfl, h2, by omega, by omega, fun r3 μ3 a3 b3 h3 o3 => ?_⟩
  simp! only [p9, p21, p11]
  refine ⟨by decide, p, _, rfl, h3, by omega, by omega, fun r4 μ4 a4 b4 h4 o4 => ?_⟩
  simp! only [p9, p21, p11]
  have d4 : r4.fdiv 3 = r4 / 3 := Int.fdiv_eq_ediv_of_nonneg r4 (by decide)
  refine ⟨divOk_small (by decide) (by decide), ?_⟩
  rw [d4]
  obtain ⟨x, ex, hx⟩ := atI_lt (xs := [D.int r3, D.int (r1 * 1000000000000000000000 + r2)]) (i := r4 / 3) (by omega) (by show r4 / 3 < 2; omega)
  rw [ex]
  obtain ⟨top, rfl, ht⟩ : ∃ t : Int, x = .int t ∧ t.natAbs < 2 ^ 105 := by
    have z105 : (2 : Nat) ^ 105 = 40564819207303340847894502572032 := by decide
    have hx2 : (r4 / 3).toNat = 0 ∨ (r4 / 3).toNat = 1 := by omega
    rcases hx2 with e | e
    · rw [e] at hx
      cases hx
      exact ⟨_, rfl, by omega⟩
    · rw [e] at hx
      cases hx
      exact ⟨_, rfl, by omega⟩
  refine ⟨p, _, rfl, h4, by omega, by omega, fun r5 μ5 a5 b5 h5 o5 => ?_⟩
  simp! only [p9, p21, p11]
  refine ⟨c9, p, _, rfl, h5, by omega, by omega, fun r6 μ6 a6 b6 h6 o6 => ?_⟩
  simp! only [p9, p21, p11]
  refine ⟨⟨by decide, by decide, by decide⟩, mulOk_64 (by omega) (by omega) (by omega) (by omega), by decide, p, _, rfl, h6, by omega, by omega, fun r7 μ7 a7 b7 h7 o7 => ?_⟩
  simp! only [p9, p21, p11]
  obtain ⟨y, ey, hy⟩ := atI_lt (xs := [D.int r5, D.int 0, D.int (r6 * 100000000000)]) (i := r7) (by omega) (by show r7 < 3; omega)
  rw [ey]
  obtain ⟨bot, rfl, hb0, hb⟩ : ∃ t : Int, y = .int t ∧ 0 ≤ t ∧ t < 10 ^ 21 := by
    have z21 : (10 : Int) ^ 21 = 1000000000000000000000 := by decide
    have hx2 : r7.toNat = 0 ∨ r7.toNat = 1 ∨ r7.toNat = 2 := by omega
    rcases hx2 with e | e | e <;> rw [e] at hy <;> cases hy <;> exact ⟨_, rfl, by omega, by omega⟩
  simp! only [p9, p21, p11]
  refine ⟨by decide, p, _, rfl, h7, by omega, by omega, fun r8 μ8 a8 b8 h8 o8 => ?_⟩
  simp! only [p9, p21, p11]
  obtain ⟨u, eu, hu⟩ := atI_lt (xs := [D.int top, D.int (0 - top)]) (i := r8) (by omega) (by show r8 < 2; omega)
  rw [eu]
  obtain ⟨tp, rfl, ht2⟩ : ∃ t : Int, u = .int t ∧ t.natAbs < 2 ^ 105 := by
    have hx2 : r8.toNat = 0 ∨ r8.toNat = 1 := by omega
    rcases hx2 with e | e <;> rw [e] at hu <;> cases hu
    · exact ⟨_, rfl, ht⟩
    · exact ⟨_, rfl, by omega⟩
  have z21 : (10 : Int) ^ 21 = 1000000000000000000000 := by decide
  have hbb : (1 + bot).natAbs < 2 ^ 105 := by
    have z105 : (2 : Nat) ^ 105 = 40564819207303340847894502572032 := by decide
    omega
  refine ⟨tp, 1 + bot, rfl, by omega, lt_mono hbb (by omega), .of (q _ _ ?_ h8 ((((((((o1.trans o2).trans o3).trans o4).trans o5).trans o6).trans o7).trans o8)))⟩
  exact ok_low (by omega) (lt_mono ht2 (by decide)) (lt_mono hbb (by decide))
theorem hb_law_same : HB c_same t_law_same 3 := by
  intro ds μ Q X h
  obtain ⟨⟨a, b⟩, ⟨c, d⟩, rfl, q⟩ := h
  show t_law_same (ends Q XF) [some (fr (a, b)), some (fr (c, d)), none] μ
  simp! only [t_law_same, fr]
  refine ⟨rfl, rfl, ifS_of (fun h => ?_) (fun h => ?_)⟩
  · have e : (a, b) ≠ (c, d) := fun z => by
      cases z
      simp at h
    rw [decide_eq_false e] at q
    walk_at "r"
    exact .of q
  · have e : (a, b) = (c, d) := by
      simp at h
      rw [h.1, h.2]
    rw [decide_eq_true e] at q
    walk_at "r"
    refine comp_unroll ?_
    walk_at "r"
    exact ⟨by decide, by decide, .of q⟩
theorem hb_law_refused {K : PySem.W.Frag} {C : Addr} (hx : PySem.W.exmOne K (.ref C) (.ref C) = some true) : HB c_refused (t_law_refused K C) 3 := by
  intro ds μ Q X h
  obtain ⟨⟨a, b⟩, rfl, hf, q⟩ := h
  show t_law_refused K C (ends Q XF) [some (fr (a, b)), none, none] μ
  simp! only [t_law_refused, fr]
  refine ⟨by decide, (a, b), (0, 1), rfl, hf, ⟨by decide, by decide, by decide⟩, fun _ => ⟨true, hx, fun _ x hx => ?_, fun z => by cases z⟩, fun z => absurd rfl z⟩
  walk_at "r"
  exact .of q
theorem Ok.sz1 {f : Int × Int} (h : Ok 110 f) : Sz f := Ok.sz h (by decide)
theorem hb_law_right {C : Addr} : HB c_right (t_law_right C) 4 := by
  intro ds μ Q X h
  obtain ⟨f, g, rfl, hf, hg, q⟩ := h
  show t_law_right C (ends Q XF) [some (fr f), some (fr g), none, none] μ
  have sf := Ok.sz1 hf
  have sg := Ok.sz1 hg
  have ne : f.2 * g.2 ≠ 0 := mul_ne hf.ne hg.ne
  have b1 : (f.2 * g.2).natAbs < 2 ^ 8100 := lt_mono (mul_lt sf.bb sg.bb) (by omega)
  have oa := ok_add hf hg
  simp! only [t_law_right, fr]
  refine ⟨mok sf.tb sg.bb, mok sg.tb sf.bb, mok sf.bb sg.bb, _, _, rfl, ne, b1, ?_⟩
  walk_at "r"
  refine ⟨f, g, rfl, sf, sg, ?_⟩
  walk_at "r"
  refine ⟨_, _, rfl, ?_⟩
  rw [decide_eq_true (show addF f g = low (f.1 * g.2 + g.1 * f.2) (f.2 * g.2) from rfl)]
  walk_at "r"
  refine ⟨addF f g, g, rfl, Ok.sz oa (by decide), sg, ?_⟩
  walk_at "r"
  refine ⟨_, f, rfl, ?_⟩
  rw [decide_eq_true (sub_add hf hg)]
  walk_at "r"
  refine ⟨mok sf.tb sg.tb, mok sf.bb sg.bb, _, _, rfl, ne, b1, ?_⟩
  walk_at "r"
  refine ⟨f, g, rfl, sf, sg, ?_⟩
  walk_at "r"
  refine ⟨_, _, rfl, ?_⟩
  rw [decide_eq_true (show mulF f g = low (f.1 * g.1) (f.2 * g.2) from rfl)]
  walk_at "r"
  refine ⟨f, rfl, sf, ?_⟩
  walk_at "r"
  refine ⟨rfl, rfl, ifS_ndec (fun h => ?_) (fun h => ?_)⟩
  · walk_at "r"
    refine ⟨mok sf.tb sg.bb, mok sf.bb sg.tb, _, _, rfl, mul_ne hf.ne h, lt_mono (mul_lt sf.bb sg.tb) (by omega), ?_⟩
    walk_at "r"
    refine ⟨f, g, rfl, sf, sg, fun z => absurd z h, fun _ => ?_⟩
    walk_at "r"
    refine ⟨_, _, rfl, ?_⟩
    rw [decide_eq_true (show divF f g = low (f.1 * g.2) (f.2 * g.1) from rfl)]
    walk_at "r"
    refine ⟨f, g, rfl, sf, sg, ?_⟩
    walk_at "r"
    exact ⟨mok sf.tb sg.bb, mok sg.tb sf.bb, rfl, rfl, .of q⟩
  · walk_at "r"
    refine ⟨f, g, rfl, sf, sg, ?_⟩
    walk_at "r"
    exact ⟨mok sf.tb sg.bb, mok sg.tb sf.bb, rfl, rfl, .of q⟩
theorem okN_fr {f : Int × Int} (n : Nat) : okN (n + 1) (fr f) = true := by simp [fr, okN]
theorem okN_frs {fs : List (Int × Int)} : okN 64 (.lst (fs.map fr)) = true := by
  simp [okN, okN_fr]
theorem eqD_self {d : D} {n : Nat} (h : okN n d = true) : eqD d d = true := SeqAt.eqv_refl _ (okN_lay n d h).1
theorem hb_law : HB cLaw t_law 10 := by
  intro ds μ Q X h
  obtain ⟨ns, rfl, hl, q⟩ := h
  show t_law (ends Q XF) [some (.scr ns), none, none, none, none, none, none, none, none, none] μ
  simp! only [t_law]
  refine ⟨by constructor <;> (split <;> (try split) <;> omega), ?_⟩
  refine ⟨fun i δ μ' => ∃ x1 x2 x3 x4 x5 x6 x7 x8 x9, δ = [some (.scr ns), x1, x2, x3, x4, x5, x6, x7, x8, x9], ⟨_, _, _, _, _, _, _, _, _, rfl⟩, ?_⟩
  rintro i δ μ' ⟨x1, x2, x3, x4, x5, x6, x7, x8, x9, rfl⟩
  refine ⟨trivial, fun d hd => ?_, fun hi => ?_⟩
  case refine_2 =>
    walk_at "r"
    exact .of (q _)
  have hk : ∃ k : Int, d = .int k ∧ 0 ≤ k ∧ k < 100 := by
    obtain ⟨rfl, hi⟩ := rangeD_some hd
    refine ⟨_, rfl, by omega, ?_⟩
    revert hi
    split <;> (try split) <;> omega
  obtain ⟨k, rfl, hk0, hk1⟩ := hk
  walk_at "r"
  refine ⟨ns, k, rfl, hk0, hk1, fun p μ1 hp hP ho => ?_⟩
  walk_at "r"
  refine ⟨by decide, ?_⟩
  rw [show rangeD 0 (Int.toNat 3) = [.int 0, .int 1, .int 2] from rfl]
  refine comp_unroll ?_
  walk_at "r"
  refine ⟨p, rfl, hP, fun f1 μ2 k1 hP2 _ => ?_⟩
  walk_at "r"
  refine ⟨by decide, p, rfl, hP2, fun f2 μ3 k2 hP3 _ => ?_⟩
  walk_at "r"
  refine ⟨by decide, p, rfl, hP3, fun f3 μ4 k3 hP4 _ => ?_⟩
  walk_at "r"
  refine ⟨by decide, ?_⟩
  have all3 : ∀ d ∈ [fr f1, fr f2, fr f3], ∃ f, d = fr f ∧ Ok 110 f := by
    intro d hd
    simp only [List.mem_cons, List.not_mem_nil, or_false] at hd
    rcases hd with rfl | rfl | rfl
    · exact ⟨_, rfl, k1⟩
    · exact ⟨_, rfl, k2⟩
    · exact ⟨_, rfl, k3⟩
  refine ⟨fun i δ μ' => μ' = μ4 ∧ ∃ y4 y5, δ = [some (.scr ns), some (.int k), some (.raw (.ref p)), some (.lst [fr f1, fr f2, fr f3]), y4, y5, x6, x7, x8, x9], ⟨rfl, _, _, rfl⟩, ?_⟩
  rintro i1 δ1 μ' ⟨rfl, y4, y5, rfl⟩
  refine ⟨trivial, fun d hd => ?_, fun hi => ?_⟩
  · obtain ⟨f, rfl, kf⟩ := all3 d (List.mem_of_getElem? hd)
    walk_at "r"
    refine ⟨by decide, by decide, by decide, ?_⟩
    refine ⟨fun i δ μ'' => μ'' = μ' ∧ ∃ y5, δ = [some (.scr ns), some (.int k), some (.raw (.ref p)), some (.lst [fr f1, fr f2, fr f3]), some (fr f), y5, x6, x7, x8, x9], ⟨rfl, _, rfl⟩, ?_⟩
    rintro i2 δ2 μ'' ⟨rfl, z5, rfl⟩
    refine ⟨trivial, fun d hd => ?_, fun hi => ?_⟩
    · have hg : ∃ g, d = fr g ∧ Ok 110 g := by
        have hm := List.mem_of_getElem? hd
        simp only [List.mem_cons, List.not_mem_nil, or_false] at hm
        rcases hm with rfl | rfl | rfl | rfl
        · exact ⟨_, rfl, k1⟩
        · exact ⟨_, rfl, k2⟩
        · exact ⟨_, rfl, k3⟩
        · exact ⟨(0, 1), rfl, ok_nought.mono (by decide)⟩
      obtain ⟨g, rfl, kg⟩ := hg
      walk_at "r"
      refine ⟨f, g, rfl, kf, kg, ?_⟩
      walk_at "r"
      exact ⟨_, rfl⟩
    · exact ⟨rfl, _, _, rfl⟩
  · walk_at "r"
    refine ⟨p, 9, rfl, hP4, by decide, by decide, fun r μ5 r0 r9 hP5 _ => ?_⟩
    walk_at "r"
    refine ⟨⟨by omega, by omega⟩, ?_⟩
    refine ⟨fun i acc μ' => i ≤ 10 ∧ ∃ fs : List (Int × Int), acc = fs.map fr ∧ fs.length = i ∧ (∀ f ∈ fs, Ok 110 f) ∧ Pool μ' p, ⟨by omega, [], rfl, rfl, (by intro f hf; cases hf), hP5⟩, ?_⟩
    rintro i3 acc μ6 ⟨hi3, fs, rfl, hfs, hk, hP6⟩
    refine ⟨trivial, fun d hd => ?_, fun hi => ?_⟩
    · have hlt : i3 < r.toNat := by
        have := (List.getElem?_eq_some_iff.mp hd).1
        rw [rangeD_len] at this
        exact this
      walk_at "r"
      refine ⟨p, rfl, hP6, fun f μ7 kf hP7 _ => ?_⟩
      walk_at "r"
      refine ⟨by rw [List.length_map]; exact Nat.lt_of_le_of_lt (show fs.length ≤ 10 by omega) (by decide), by omega, fs ++ [f], by rw [List.map_append]; rfl, by rw [List.length_append, hfs]; rfl, ?_, hP7⟩
      intro g hg
      rcases List.mem_append.mp hg with z | z
      · exact hk g z
      · rcases List.mem_cons.mp z with rfl | z
        · exact kf
        · cases z
    · walk_at "r"
      refine ⟨by decide, ?_⟩
      -- the law's own sum
      refine ⟨fun i δ μ' => μ' = μ6 ∧ ∃ y4, δ = [some (.scr ns), some (.int k), some (.raw (.ref p)), some (.lst [fr f1, fr f2, fr f3]), y4, y5, some (.lst (fs.map fr)), some (fr ((fs.take i).foldl addF (0, 1))), x8, x9], ⟨rfl, _, rfl⟩, ?_⟩
      rintro i4 δ4 μ' ⟨rfl, z4, rfl⟩
      refine ⟨trivial, fun d hd => ?_, fun hi => ?_⟩
      · rw [List.getElem?_map] at hd
        cases e : fs[i4]? with
        | none => rw [e] at hd; cases hd
        | some g =>
          rw [e] at hd
          cases hd
          have hm : ∀ f ∈ fs.take i4, Ok 110 f := fun f hf => hk f (List.mem_of_mem_take hf)
          have h1 := ok_fold (fs.take i4) 1 (0, 1) ok_nought hm
          have hlen : (fs.take i4).length ≤ 10 := by rw [List.length_take]; omega
          have sg := Ok.sz1 (hk g (List.mem_of_getElem? e))
          have sf := Ok.sz h1 (by omega)
          simp! only [fr]
          refine ⟨mok sf.tb sg.bb, mok sg.tb sf.bb, mok sf.bb sg.bb, _, _, rfl, mul_ne sf.ne sg.ne, lt_mono (mul_lt sf.bb sg.bb) (by omega), ?_⟩
          walk_at "r"
          refine ⟨some (fr g), ?_⟩
          rw [fold_take e]
          rfl
      · rw [List.length_map] at hi
        subst hi
        rw [List.take_length]
        walk_at "r"
        refine ⟨fs, rfl, by omega, hk, ?_⟩
        walk_at "r"
        refine ⟨_, _, rfl, ?_⟩
        rw [decide_eq_true rfl]
        walk_at "r"
        refine ⟨okN_frs, okN_frs, ?_⟩
        rw [show eqDs (fs.map fr) (fs.map fr) = true from eqD_self (d := .lst (fs.map fr)) okN_frs]
        walk_at "r"
        refine ⟨by decide, [], rfl, by decide, (by intro f hf; cases hf), ?_⟩
        walk_at "r"
        refine ⟨by decide, _, (0, 1), rfl, ?_⟩
        rw [decide_eq_true rfl]
        walk_at "r"
        exact ⟨_, _, _, _, _, _, _, _, _, rfl⟩
end K02
set_option Elab.async false
set_option linter.all false
set_option maxRecDepth 100000
set_option maxHeartbeats 2000000
set_option pp.maxSteps 400
set_option pp.deepTerms false
namespace K02
open PySem PySem.Spec L2 DL Fr NB
def topS (i : Nat) : Stmt := PySem.Challenge.pw_nudgebest_k02_fractions_reckoned.main.body.getD i (.Pass ⟨0, 0, 0, 0⟩)
structure Txt (K : PySem.W.Frag) (mg : Str → Option Value) (C_NoNumber : Addr) : Prop where
  b_len : mg "len" = none
  b_abs : mg "abs" = none
  b_all : mg "all" = none
  b_isinstance : mg "isinstance" = none
  b_tuple : mg "tuple" = none
  b_int : mg "int" = none
  b_bool : mg "bool" = none
  b_range : mg "range" = none
  b_max : mg "max" = none
  b_list : mg "list" = none
  b_min : mg "min" = none
  k_NOUGHT : KC K mg "NOUGHT" k_NOUGHT
  e_NoNumber : ExcT K mg "NoNumber" C_NoNumber
  g_NoNumber : mg "NoNumber" = some (.ref C_NoNumber)
  x_NoNumber_NoNumber : PySem.W.exmOne K (.ref C_NoNumber) (.ref C_NoNumber) = some true
abbrev s_law_cell_at : Stmt := topS 14
theorem sc_law_cell_at : FnScope ["_law_script", "_law_k"] ["_law_script", "_law_k"] (defScope s_law_cell_at) := ⟨rfl, rfl, rfl, by decide +kernel, rfl, by decide +kernel, by decide +kernel⟩
theorem d_law_cell_at {P : Program} {w : World} {K : PySem.W.Frag} {mg : Str → Option Value} {base : Heap} {C_NoNumber : Addr} (T : Txt K mg C_NoNumber)  {f : Addr} (cdv : Value) (A : Around) (outer : List Env) (s : Shared) (H : Hp) (E : XK) (hr : Room 0 (A.deeper (PyProof.Rows.envOfC "_law_cell_at" (defScope s_law_cell_at) s.heap.objs.size f cdv))) :
    DSs (cxOf CX0 P w K mg base ["_law_script", "_law_k"] "_law_cell_at" (defScope s_law_cell_at) f cdv A outer s H E).nox W0 (defBody s_law_cell_at) t_law_cell_at :=
  (dss_cons (ds_if (dt_lt (de_var 1) (de_blt call_len l_len T.b_len (by decide +kernel) (da_cons (de_var 0) da_nil))) (dss_one (ds_ret (de_ix (de_var 0) (de_var 1)))) dss_nil)
    (dss_one (ds_ret de_int)))
abbrev s_law_pool : Stmt := topS 15
theorem sc_law_pool : FnScope ["_law_script", "_law_k", "_law_cell", "_law_seed"] ["_law_script", "_law_k"] (defScope s_law_pool) := ⟨rfl, rfl, rfl, by decide +kernel, rfl, by decide +kernel, by decide +kernel⟩
theorem d_law_pool {P : Program} {w : World} {K : PySem.W.Frag} {mg : Str → Option Value} {base : Heap} {C_NoNumber : Addr} (T : Txt K mg C_NoNumber) (F_law_cell_at : Dfn P w K mg base CX0 "_law_cell_at" "_law_cell_at" s_law_cell_at 1 ["_law_script", "_law_k"] c_cell_at) {f : Addr} (cdv : Value) (A : Around) (outer : List Env) (s : Shared) (H : Hp) (E : XK) (hr : Room 1 (A.deeper (PyProof.Rows.envOfC "_law_pool" (defScope s_law_pool) s.heap.objs.size f cdv))) :
    DSs (cxOf CX0 P w K mg base ["_law_script", "_law_k", "_law_cell", "_law_seed"] "_law_pool" (defScope s_law_pool) f cdv A outer s H E).nox W0 (defBody s_law_pool) t_law_pool :=
  (dss_cons (ds_set (i := 2) sc_law_pool.nd (de_call F_law_cell_at (hr.mono (by decide)) pw0 (da_cons (de_var 0) (da_cons (de_var 1) da_nil))))
    (dss_cons (ds_set (i := 3) sc_law_pool.nd (de_mod (de_mul (de_add (de_add (de_mod (de_var 2) de_int) (de_mul (de_mul de_int (de_var 1)) (de_var 1))) de_int) de_int) de_int))
    (dss_cons (ds_if (dt_lt (de_var 2) (de_pow de_int de_int)) (dss_one (ds_set (i := 2) sc_law_pool.nd de_int)) dss_nil)
    (dss_one (ds_ret (de_lstC (da_cons (de_var 2) (da_cons (de_mod (de_mul (de_var 3) (de_var 3)) de_int) da_nil))))))))
abbrev s_law_take : Stmt := topS 16
theorem sc_law_take : FnScope ["_law_pool_here", "_law_many", "_law_found"] ["_law_pool_here", "_law_many"] (defScope s_law_take) := ⟨rfl, rfl, rfl, by decide +kernel, rfl, by decide +kernel, by decide +kernel⟩
theorem d_law_take {P : Program} {w : World} {K : PySem.W.Frag} {mg : Str → Option Value} {base : Heap} {C_NoNumber : Addr} (T : Txt K mg C_NoNumber)  {f : Addr} (cdv : Value) (A : Around) (outer : List Env) (s : Shared) (H : Hp) (E : XK) (hr : Room 0 (A.deeper (PyProof.Rows.envOfC "_law_take" (defScope s_law_take) s.heap.objs.size f cdv))) :
    DSs (cxOf CX0 P w K mg base ["_law_pool_here", "_law_many", "_law_found"] "_law_take" (defScope s_law_take) f cdv A outer s H E).nox W0 (defBody s_law_take) t_law_take :=
  (dss_cons (ds_if (dt_gt (de_ix (de_var 0) de_int) de_int) (dss_cons (ds_set (i := 2) sc_law_take.nd (de_mod (de_ix (de_var 0) de_int) (de_var 1)))
    (dss_cons (ds_setix (de_fdiv (de_ix (de_var 0) de_int) (de_var 1)) (de_var 0) de_int)
    (dss_one (ds_ret (de_var 2))))) dss_nil)
    (dss_cons (ds_setix (de_mod (de_add (de_mul (de_ix (de_var 0) de_int) de_int) de_int) de_int) (de_var 0) de_int)
    (dss_one (ds_ret (de_mod (de_fdiv (de_mod (de_mul (de_ix (de_var 0) de_int) (de_ix (de_var 0) de_int)) de_int) de_int) (de_var 1))))))
abbrev s_law_low : Stmt := topS 17
theorem sc_law_low : FnScope ["_law_top", "_law_bottom", "_law_here", "_law_there"] ["_law_top", "_law_bottom"] (defScope s_law_low) := ⟨rfl, rfl, rfl, by decide +kernel, rfl, by decide +kernel, by decide +kernel⟩
theorem d_law_low {P : Program} {w : World} {K : PySem.W.Frag} {mg : Str → Option Value} {base : Heap} {C_NoNumber : Addr} (T : Txt K mg C_NoNumber)  {f : Addr} (cdv : Value) (A : Around) (outer : List Env) (s : Shared) (H : Hp) (E : XK) (hr : Room 0 (A.deeper (PyProof.Rows.envOfC "_law_low" (defScope s_law_low) s.heap.objs.size f cdv))) :
    DSs (cxOf CX0 P w K mg base ["_law_top", "_law_bottom", "_law_here", "_law_there"] "_law_low" (defScope s_law_low) f cdv A outer s H E).nox W0 (defBody s_law_low) t_law_low :=
  (dss_cons (ds_set (i := 2) sc_law_low.nd (de_blt call_abs l_abs T.b_abs (by decide +kernel) (da_cons (de_var 0) da_nil)))
    (dss_cons (ds_set (i := 3) sc_law_low.nd (de_blt call_abs l_abs T.b_abs (by decide +kernel) (da_cons (de_var 1) da_nil)))
    (dss_cons (ds_while PassesOwn.never (dt_gt (de_var 3) de_int) (dss_one (ds_par (i := 2) (j := 3) sc_law_low.nd (da_cons (de_var 3) (da_cons (de_mod (de_var 2) (de_var 3)) da_nil)))))
    (dss_cons (ds_if (dt_lt (de_var 1) de_int) (dss_one (ds_set (i := 2) sc_law_low.nd (de_sub de_int (de_var 2)))) dss_nil)
    (dss_one (ds_ret (de_tup (da_cons (de_fdiv (de_var 0) (de_var 2)) (da_cons (de_fdiv (de_var 1) (de_var 2)) da_nil)))))))))
abbrev s_law_drawn : Stmt := topS 18
theorem sc_law_drawn : FnScope ["_law_pool_here", "_law_great", "_law_top", "_law_row_of", "_law_bottom"] ["_law_pool_here"] (defScope s_law_drawn) := ⟨rfl, rfl, rfl, by decide +kernel, rfl, by decide +kernel, by decide +kernel⟩
theorem d_law_drawn {P : Program} {w : World} {K : PySem.W.Frag} {mg : Str → Option Value} {base : Heap} {C_NoNumber : Addr} (T : Txt K mg C_NoNumber) (F_law_take : Dfn P w K mg base CX0 "_law_take" "_law_take" s_law_take 1 ["_law_pool_here", "_law_many"] c_take) (F_law_low : Dfn P w K mg base CX0 "_law_low" "_law_low" s_law_low 1 ["_law_top", "_law_bottom"] c_low) {f : Addr} (cdv : Value) (A : Around) (outer : List Env) (s : Shared) (H : Hp) (E : XK) (hr : Room 1 (A.deeper (PyProof.Rows.envOfC "_law_drawn" (defScope s_law_drawn) s.heap.objs.size f cdv))) :
    DSs (cxOf CX0 P w K mg base ["_law_pool_here", "_law_great", "_law_top", "_law_row_of", "_law_bottom"] "_law_drawn" (defScope s_law_drawn) f cdv A outer s H E).nox W0 (defBody s_law_drawn) t_law_drawn :=
  (dss_cons (ds_set (i := 1) sc_law_drawn.nd (de_add (de_mul (de_call F_law_take (hr.mono (by decide)) pw0 (da_cons (de_var 0) (da_cons (de_pow de_int de_int) da_nil))) (de_pow de_int de_int)) (de_call F_law_take (hr.mono (by decide)) pw0 (da_cons (de_var 0) (da_cons (de_pow de_int de_int) da_nil)))))
    (dss_cons (ds_set (i := 2) sc_law_drawn.nd (de_ix (de_lst (da_cons (de_call F_law_take (hr.mono (by decide)) pw0 (da_cons (de_var 0) (da_cons de_int da_nil))) (da_cons (de_var 1) da_nil))) (de_fdiv (de_call F_law_take (hr.mono (by decide)) pw0 (da_cons (de_var 0) (da_cons de_int da_nil))) de_int)))
    (dss_cons (ds_set (i := 3) sc_law_drawn.nd (de_lst (da_cons (de_call F_law_take (hr.mono (by decide)) pw0 (da_cons (de_var 0) (da_cons de_int da_nil))) (da_cons de_int (da_cons (de_mul (de_call F_law_take (hr.mono (by decide)) pw0 (da_cons (de_var 0) (da_cons (de_pow de_int de_int) da_nil))) (de_pow de_int de_int)) da_nil)))))
    (dss_cons (ds_set (i := 4) sc_law_drawn.nd (de_add de_int (de_ix (de_var 3) (de_call F_law_take (hr.mono (by decide)) pw0 (da_cons (de_var 0) (da_cons de_int da_nil))))))
    (dss_one (ds_ret (de_call F_law_low (hr.mono (by decide)) pw0 (da_cons (de_ix (de_lst (da_cons (de_var 2) (da_cons (de_sub de_int (de_var 2)) da_nil))) (de_call F_law_take (hr.mono (by decide)) pw0 (da_cons (de_var 0) (da_cons de_int da_nil)))) (da_cons (de_var 4) da_nil)))))))))
abbrev s_law_same : Stmt := topS 19
theorem sc_law_same : FnScope ["_law_found", "_law_due", "_law_here"] ["_law_found", "_law_due"] (defScope s_law_same) := ⟨rfl, rfl, rfl, by decide +kernel, rfl, by decide +kernel, by decide +kernel⟩
theorem d_law_same {P : Program} {w : World} {K : PySem.W.Frag} {mg : Str → Option Value} {base : Heap} {C_NoNumber : Addr} (T : Txt K mg C_NoNumber)  {f : Addr} (cdv : Value) (A : Around) (outer : List Env) (s : Shared) (H : Hp) (E : XK) (hr : Room 0 (A.deeper (PyProof.Rows.envOfC "_law_same" (defScope s_law_same) s.heap.objs.size f cdv))) :
    DSs (cxOf CX0 P w K mg base ["_law_found", "_law_due", "_law_here"] "_law_same" (defScope s_law_same) f cdv A outer s H E).nox W0 (defBody s_law_same) t_law_same :=
  (dss_cons (ds_if (DW.dt (dw_or (dt_not (dt_tru (de_blt call_isi (l_isi (by decide)) T.b_isinstance (by decide +kernel) (da_cons (de_var 0) (da_cons (de_bltn T.b_tuple (by decide +kernel) rfl) da_nil))))) (dw_or1 (dt_ne hr (de_var 0) (de_var 1))))) (dss_one (ds_ret de_bl)) dss_nil)
    (dss_one (ds_ret (de_blt (cr_all rfl) l_all T.b_all (by decide +kernel) (da_cons (de_lc (own := [("_law_here", 2)]) sc_law_same.nd (di_seq (de_var 0)) (blkOk_by (N := ["_law_found", "_law_due", "_law_here"]) (sc := defScope s_law_same) (by decide +kernel)) lg_name (si_name (by decide)) (fun _ _ _ _ _ => (pg_name (i := 2) sc_law_same.nd rfl (by first | exact Or.inl rfl | exact Or.inr rfl))) (fun _ _ _ _ _ => dts_nil) (fun _ _ _ _ _ => (de_and (de_blt call_isi (l_isi (by decide)) T.b_isinstance (by decide +kernel) (da_cons (de_var 2) (da_cons (de_bltn T.b_int (by decide +kernel) rfl) da_nil))) (de_one (de_not (de_blt call_isi (l_isi (by decide)) T.b_isinstance (by decide +kernel) (da_cons (de_var 2) (da_cons (de_bltn T.b_bool (by decide +kernel) rfl) da_nil)))))))) da_nil)))))
abbrev s_shared : Stmt := topS 5
theorem sc_shared : FnScope ["one", "other"] ["one", "other"] (defScope s_shared) := ⟨rfl, rfl, rfl, by decide +kernel, rfl, by decide +kernel, by decide +kernel⟩
theorem d_shared {P : Program} {w : World} {K : PySem.W.Frag} {mg : Str → Option Value} {base : Heap} {C_NoNumber : Addr} (T : Txt K mg C_NoNumber)  {f : Addr} (cdv : Value) (A : Around) (outer : List Env) (s : Shared) (H : Hp) (E : XK) (hr : Room 0 (A.deeper (PyProof.Rows.envOfC "shared" (defScope s_shared) s.heap.objs.size f cdv))) :
    DSs (cxOf CX0 P w K mg base ["one", "other"] "shared" (defScope s_shared) f cdv A outer s H E).nox W0 (defBody s_shared) t_shared :=
  (dss_cons (ds_set (i := 0) sc_shared.nd (de_blt call_abs l_abs T.b_abs (by decide +kernel) (da_cons (de_var 0) da_nil)))
    (dss_cons (ds_set (i := 1) sc_shared.nd (de_blt call_abs l_abs T.b_abs (by decide +kernel) (da_cons (de_var 1) da_nil)))
    (dss_cons (ds_while PassesOwn.never (dt_gt (de_var 1) de_int) (dss_one (ds_par (i := 0) (j := 1) sc_shared.nd (da_cons (de_var 1) (da_cons (de_mod (de_var 0) (de_var 1)) da_nil)))))
    (dss_one (ds_ret (de_var 0))))))
abbrev s_lowest : Stmt := topS 6
theorem sc_lowest : FnScope ["top", "bottom", "by"] ["top", "bottom"] (defScope s_lowest) := ⟨rfl, rfl, rfl, by decide +kernel, rfl, by decide +kernel, by decide +kernel⟩
theorem d_lowest {P : Program} {w : World} {K : PySem.W.Frag} {mg : Str → Option Value} {base : Heap} {C_NoNumber : Addr} (T : Txt K mg C_NoNumber) (F_shared : Dfn P w K mg base CX0 "shared" "shared" s_shared 1 ["one", "other"] c_shared) {f : Addr} (cdv : Value) (A : Around) (outer : List Env) (s : Shared) (H : Hp) (E : XK) (hr : Room 1 (A.deeper (PyProof.Rows.envOfC "lowest" (defScope s_lowest) s.heap.objs.size f cdv))) :
    DSs (cxOf CX0 P w K mg base ["top", "bottom", "by"] "lowest" (defScope s_lowest) f cdv A outer s H E).nox W0 (defBody s_lowest) t_lowest :=
  (dss_cons (ds_if (dt_eq hr (de_var 1) de_int) (dss_one (ds_ret (de_tup (da_cons (de_var 0) (da_cons de_int da_nil))))) dss_nil)
    (dss_cons (ds_set (i := 2) sc_lowest.nd (de_call F_shared (hr.mono (by decide)) pw0 (da_cons (de_var 0) (da_cons (de_var 1) da_nil))))
    (dss_cons (ds_if (dt_lt (de_var 1) de_int) (dss_one (ds_set (i := 2) sc_lowest.nd (de_sub de_int (de_var 2)))) dss_nil)
    (dss_one (ds_ret (de_tup (da_cons (de_fdiv (de_var 0) (de_var 2)) (da_cons (de_fdiv (de_var 1) (de_var 2)) da_nil))))))))
abbrev s_plus : Stmt := topS 7
theorem sc_plus : FnScope ["one", "other"] ["one", "other"] (defScope s_plus) := ⟨rfl, rfl, rfl, by decide +kernel, rfl, by decide +kernel, by decide +kernel⟩
theorem d_plus {P : Program} {w : World} {K : PySem.W.Frag} {mg : Str → Option Value} {base : Heap} {C_NoNumber : Addr} (T : Txt K mg C_NoNumber) (F_lowest : Dfn P w K mg base CX0 "lowest" "lowest" s_lowest 2 ["top", "bottom"] c_lowest) {f : Addr} (cdv : Value) (A : Around) (outer : List Env) (s : Shared) (H : Hp) (E : XK) (hr : Room 2 (A.deeper (PyProof.Rows.envOfC "plus" (defScope s_plus) s.heap.objs.size f cdv))) :
    DSs (cxOf CX0 P w K mg base ["one", "other"] "plus" (defScope s_plus) f cdv A outer s H E).nox W0 (defBody s_plus) t_plus :=
  (dss_one (ds_ret (de_call F_lowest (hr.mono (by decide)) pw0 (da_cons (de_add (de_mul (de_ix (de_var 0) de_int) (de_ix (de_var 1) de_int)) (de_mul (de_ix (de_var 1) de_int) (de_ix (de_var 0) de_int))) (da_cons (de_mul (de_ix (de_var 0) de_int) (de_ix (de_var 1) de_int)) da_nil)))))
abbrev s_minus : Stmt := topS 8
theorem sc_minus : FnScope ["one", "other"] ["one", "other"] (defScope s_minus) := ⟨rfl, rfl, rfl, by decide +kernel, rfl, by decide +kernel, by decide +kernel⟩
theorem d_minus {P : Program} {w : World} {K : PySem.W.Frag} {mg : Str → Option Value} {base : Heap} {C_NoNumber : Addr} (T : Txt K mg C_NoNumber) (F_lowest : Dfn P w K mg base CX0 "lowest" "lowest" s_lowest 2 ["top", "bottom"] c_lowest) {f : Addr} (cdv : Value) (A : Around) (outer : List Env) (s : Shared) (H : Hp) (E : XK) (hr : Room 2 (A.deeper (PyProof.Rows.envOfC "minus" (defScope s_minus) s.heap.objs.size f cdv))) :
    DSs (cxOf CX0 P w K mg base ["one", "other"] "minus" (defScope s_minus) f cdv A outer s H E).nox W0 (defBody s_minus) t_minus :=
  (dss_one (ds_ret (de_call F_lowest (hr.mono (by decide)) pw0 (da_cons (de_sub (de_mul (de_ix (de_var 0) de_int) (de_ix (de_var 1) de_int)) (de_mul (de_ix (de_var 1) de_int) (de_ix (de_var 0) de_int))) (da_cons (de_mul (de_ix (de_var 0) de_int) (de_ix (de_var 1) de_int)) da_nil)))))
abbrev s_times : Stmt := topS 9
theorem sc_times : FnScope ["one", "other"] ["one", "other"] (defScope s_times) := ⟨rfl, rfl, rfl, by decide +kernel, rfl, by decide +kernel, by decide +kernel⟩
theorem d_times {P : Program} {w : World} {K : PySem.W.Frag} {mg : Str → Option Value} {base : Heap} {C_NoNumber : Addr} (T : Txt K mg C_NoNumber) (F_lowest : Dfn P w K mg base CX0 "lowest" "lowest" s_lowest 2 ["top", "bottom"] c_lowest) {f : Addr} (cdv : Value) (A : Around) (outer : List Env) (s : Shared) (H : Hp) (E : XK) (hr : Room 2 (A.deeper (PyProof.Rows.envOfC "times" (defScope s_times) s.heap.objs.size f cdv))) :
    DSs (cxOf CX0 P w K mg base ["one", "other"] "times" (defScope s_times) f cdv A outer s H E).nox W0 (defBody s_times) t_times :=
  (dss_one (ds_ret (de_call F_lowest (hr.mono (by decide)) pw0 (da_cons (de_mul (de_ix (de_var 0) de_int) (de_ix (de_var 1) de_int)) (da_cons (de_mul (de_ix (de_var 0) de_int) (de_ix (de_var 1) de_int)) da_nil)))))
abbrev s_over : Stmt := topS 10
theorem sc_over : FnScope ["one", "other"] ["one", "other"] (defScope s_over) := ⟨rfl, rfl, rfl, by decide +kernel, rfl, by decide +kernel, by decide +kernel⟩
theorem d_over {P : Program} {w : World} {K : PySem.W.Frag} {mg : Str → Option Value} {base : Heap} {C_NoNumber : Addr} (T : Txt K mg C_NoNumber) (F_lowest : Dfn P w K mg base CX0 "lowest" "lowest" s_lowest 2 ["top", "bottom"] c_lowest) {f : Addr} (cdv : Value) (A : Around) (outer : List Env) (s : Shared) (H : Hp) (E : XK) (hr : Room 2 (A.deeper (PyProof.Rows.envOfC "over" (defScope s_over) s.heap.objs.size f cdv)))
    (tk : Takes (cxOf (L2.CX P w) P w K mg base ["one", "other"] "over" (defScope s_over) f cdv A outer s H E) (fun cls d _ H' => E cls d H')) : DSs (cxOf (L2.CX P w) P w K mg base ["one", "other"] "over" (defScope s_over) f cdv A outer s H E) (fun cls d _ H' => E cls d H') (defBody s_over) (t_over C_NoNumber) :=
  (dss_cons (ds_if (dt_eq hr (de_ix (de_var 1) de_int) de_int) (dss_one (ds_raise tk (pmk_own PySem.F.excBase_ValueError T.e_NoNumber.x T.e_NoNumber.g T.e_NoNumber.k (raises_own T.e_NoNumber.b T.e_NoNumber.t) rfl))) dss_nil)
    (dss_one (ds_ret (de_call F_lowest (hr.mono (by decide)) pw0 (da_cons (de_mul (de_ix (de_var 0) de_int) (de_ix (de_var 1) de_int)) (da_cons (de_mul (de_ix (de_var 0) de_int) (de_ix (de_var 1) de_int)) da_nil))))))
abbrev s_law_refused : Stmt := topS 20
theorem sc_law_refused : FnScope ["_law_here", "_law_kept", "e"] ["_law_here"] (defScope s_law_refused) := ⟨rfl, rfl, rfl, by decide +kernel, rfl, by decide +kernel, by decide +kernel⟩
theorem d_law_refused {P : Program} {w : World} {K : PySem.W.Frag} {mg : Str → Option Value} {base : Heap} {C_NoNumber : Addr} (T : Txt K mg C_NoNumber) (F_over : Dfn P w K mg base (L2.CX P w) "over" "over" s_over 3 ["one", "other"] (c_over C_NoNumber)) {f : Addr} (cdv : Value) (A : Around) (outer : List Env) (s : Shared) (H : Hp) (E : XK) (hr : Room 3 (A.deeper (PyProof.Rows.envOfC "_law_refused" (defScope s_law_refused) s.heap.objs.size f cdv))) :
    DSs (cxOf CX0 P w K mg base ["_law_here", "_law_kept", "e"] "_law_refused" (defScope s_law_refused) f cdv A outer s H E).nox W0 (defBody s_law_refused) (t_law_refused K C_NoNumber) :=
  (dss_cons (ds_set (i := 1) sc_law_refused.nd de_non)
    (dss_cons (ds_tryAs (i := 2) sc_law_refused.nd ⟨rfl, by decide, Or.inl T.g_NoNumber⟩ takes0 (fun W2 pn2 xe2 tk2 po2 => (dss_one (ds_expr (de_call F_over (hr.mono (by decide)) (pw1 tk2) (da_cons (de_var 0) (da_cons (de_tup (da_cons de_int (da_cons de_int da_nil))) da_nil)))))) (fun a3 pn3 => (dss_one (ds_set (i := 1) sc_law_refused.nd (de_var 2)))))
    (dss_one (ds_ret (de_isnot (de_var 1) de_non)))))
abbrev s_under : Stmt := topS 11
theorem sc_under : FnScope ["one", "other"] ["one", "other"] (defScope s_under) := ⟨rfl, rfl, rfl, by decide +kernel, rfl, by decide +kernel, by decide +kernel⟩
theorem d_under {P : Program} {w : World} {K : PySem.W.Frag} {mg : Str → Option Value} {base : Heap} {C_NoNumber : Addr} (T : Txt K mg C_NoNumber)  {f : Addr} (cdv : Value) (A : Around) (outer : List Env) (s : Shared) (H : Hp) (E : XK) (hr : Room 0 (A.deeper (PyProof.Rows.envOfC "under" (defScope s_under) s.heap.objs.size f cdv))) :
    DSs (cxOf CX0 P w K mg base ["one", "other"] "under" (defScope s_under) f cdv A outer s H E).nox W0 (defBody s_under) t_under :=
  (dss_one (ds_ret (de_lt (de_mul (de_ix (de_var 0) de_int) (de_ix (de_var 1) de_int)) (de_mul (de_ix (de_var 1) de_int) (de_ix (de_var 0) de_int)))))
abbrev s_law_right : Stmt := topS 21
theorem sc_law_right : FnScope ["_law_here", "_law_there", "_law_due", "_law_told"] ["_law_here", "_law_there"] (defScope s_law_right) := ⟨rfl, rfl, rfl, by decide +kernel, rfl, by decide +kernel, by decide +kernel⟩
theorem d_law_right {P : Program} {w : World} {K : PySem.W.Frag} {mg : Str → Option Value} {base : Heap} {C_NoNumber : Addr} (T : Txt K mg C_NoNumber) (F_law_low : Dfn P w K mg base CX0 "_law_low" "_law_low" s_law_low 1 ["_law_top", "_law_bottom"] c_low) (F_law_same : Dfn P w K mg base CX0 "_law_same" "_law_same" s_law_same 1 ["_law_found", "_law_due"] c_same) (F_plus : Dfn P w K mg base CX0 "plus" "plus" s_plus 3 ["one", "other"] c_plus) (F_minus : Dfn P w K mg base CX0 "minus" "minus" s_minus 3 ["one", "other"] c_minus) (F_times : Dfn P w K mg base CX0 "times" "times" s_times 3 ["one", "other"] c_times) (F_law_refused : Dfn P w K mg base CX0 "_law_refused" "_law_refused" s_law_refused 4 ["_law_here"] c_refused) (F_over : Dfn P w K mg base (L2.CX P w) "over" "over" s_over 3 ["one", "other"] (c_over C_NoNumber)) (F_under : Dfn P w K mg base CX0 "under" "under" s_under 1 ["one", "other"] c_under) {f : Addr} (cdv : Value) (A : Around) (outer : List Env) (s : Shared) (H : Hp) (E : XK) (hr : Room 4 (A.deeper (PyProof.Rows.envOfC "_law_right" (defScope s_law_right) s.heap.objs.size f cdv))) :
    DSs (cxOf CX0 P w K mg base ["_law_here", "_law_there", "_law_due", "_law_told"] "_law_right" (defScope s_law_right) f cdv A outer s H E).nox W0 (defBody s_law_right) (t_law_right C_NoNumber) :=
  (dss_cons (ds_set (i := 2) sc_law_right.nd (de_call F_law_low (hr.mono (by decide)) pw0 (da_cons (de_add (de_mul (de_ix (de_var 0) de_int) (de_ix (de_var 1) de_int)) (de_mul (de_ix (de_var 1) de_int) (de_ix (de_var 0) de_int))) (da_cons (de_mul (de_ix (de_var 0) de_int) (de_ix (de_var 1) de_int)) da_nil))))
    (dss_cons (ds_if (DW.dt (dw_or (dt_not (dt_tru (de_call F_law_same (hr.mono (by decide)) pw0 (da_cons (de_callK0 F_plus (hr.mono (by decide)) pw0 (kbn_of (ks := ["other", "one"]) (m := 0) (n := 2) (pm := [1, 0]) fun _ _ _ _ _ _ us hl => match us, hl with | [_, _], _ => rfl) (dk_cons (de_var 1) (dk_cons (de_var 0) dk_nil))) (da_cons (de_var 2) da_nil))))) (dw_or1 (dt_not (dt_tru (de_call F_law_same (hr.mono (by decide)) pw0 (da_cons (de_callK F_minus (hr.mono (by decide)) pw0 (kbn_of (ks := ["other"]) (m := 1) (n := 2) (pm := [0, 1]) fun _ _ _ _ _ _ us hl => match us, hl with | [_, _], _ => rfl) (da_cons (de_var 2) da_nil) (dk_cons (de_var 1) dk_nil)) (da_cons (de_var 0) da_nil)))))))) (dss_one (ds_ret de_bl)) dss_nil)
    (dss_cons (ds_set (i := 2) sc_law_right.nd (de_call F_law_low (hr.mono (by decide)) pw0 (da_cons (de_mul (de_ix (de_var 0) de_int) (de_ix (de_var 1) de_int)) (da_cons (de_mul (de_ix (de_var 0) de_int) (de_ix (de_var 1) de_int)) da_nil))))
    (dss_cons (ds_if (DW.dt (dw_or (dt_not (dt_tru (de_call F_law_same (hr.mono (by decide)) pw0 (da_cons (de_callK0 F_times (hr.mono (by decide)) pw0 (kbn_of (ks := ["other", "one"]) (m := 0) (n := 2) (pm := [1, 0]) fun _ _ _ _ _ _ us hl => match us, hl with | [_, _], _ => rfl) (dk_cons (de_var 1) (dk_cons (de_var 0) dk_nil))) (da_cons (de_var 2) da_nil))))) (dw_or1 (dt_not (dt_tru (de_call F_law_refused (hr.mono (by decide)) pw0 (da_cons (de_var 0) da_nil))))))) (dss_one (ds_ret de_bl)) dss_nil)
    (dss_cons (ds_if (dt_ne hr (de_ix (de_var 1) de_int) de_int) (dss_cons (ds_set (i := 2) sc_law_right.nd (de_call F_law_low (hr.mono (by decide)) pw0 (da_cons (de_mul (de_ix (de_var 0) de_int) (de_ix (de_var 1) de_int)) (da_cons (de_mul (de_ix (de_var 0) de_int) (de_ix (de_var 1) de_int)) da_nil))))
    (dss_one (ds_if (dt_not (dt_tru (de_call F_law_same (hr.mono (by decide)) pw0 (da_cons (de_callK0 F_over (hr.mono (by decide)) (pw1 takes0) (kbn_of (ks := ["other", "one"]) (m := 0) (n := 2) (pm := [1, 0]) fun _ _ _ _ _ _ us hl => match us, hl with | [_, _], _ => rfl) (dk_cons (de_var 1) (dk_cons (de_var 0) dk_nil))) (da_cons (de_var 2) da_nil))))) (dss_one (ds_ret de_bl)) dss_nil))) dss_nil)
    (dss_cons (ds_set (i := 3) sc_law_right.nd (de_callK0 F_under (hr.mono (by decide)) pw0 (kbn_of (ks := ["other", "one"]) (m := 0) (n := 2) (pm := [1, 0]) fun _ _ _ _ _ _ us hl => match us, hl with | [_, _], _ => rfl) (dk_cons (de_var 1) (dk_cons (de_var 0) dk_nil))))
    (dss_one (ds_ret (de_and (de_blt call_isi (l_isi (by decide)) T.b_isinstance (by decide +kernel) (da_cons (de_var 3) (da_cons (de_bltn T.b_bool (by decide +kernel) rfl) da_nil))) (de_one (de_eq hr (de_var 3) (de_lt (de_mul (de_ix (de_var 0) de_int) (de_ix (de_var 1) de_int)) (de_mul (de_ix (de_var 1) de_int) (de_ix (de_var 0) de_int))))))))))))))
abbrev s_total : Stmt := topS 12
theorem sc_total : FnScope ["some", "found", "one"] ["some"] (defScope s_total) := ⟨rfl, rfl, rfl, by decide +kernel, rfl, by decide +kernel, by decide +kernel⟩
theorem d_total {P : Program} {w : World} {K : PySem.W.Frag} {mg : Str → Option Value} {base : Heap} {C_NoNumber : Addr} (T : Txt K mg C_NoNumber) (F_plus : Dfn P w K mg base CX0 "plus" "plus" s_plus 3 ["one", "other"] c_plus) {f : Addr} (cdv : Value) (A : Around) (outer : List Env) (s : Shared) (H : Hp) (E : XK) (hr : Room 3 (A.deeper (PyProof.Rows.envOfC "total" (defScope s_total) s.heap.objs.size f cdv))) :
    DSs (cxOf CX0 P w K mg base ["some", "found", "one"] "total" (defScope s_total) f cdv A outer s H E).nox W0 (defBody s_total) t_total :=
  (dss_cons (ds_set (i := 1) sc_total.nd (de_kc T.k_NOUGHT))
    (dss_cons (ds_for PassesOwn.never (di_seq (de_var 0)) (pg_name (i := 2) sc_total.nd rfl (by first | exact Or.inl rfl | exact Or.inr rfl)) lg_name (dss_one (ds_set (i := 1) sc_total.nd (de_call F_plus (hr.mono (by decide)) pw0 (da_cons (de_var 1) (da_cons (de_var 2) da_nil))))))
    (dss_one (ds_ret (de_var 1)))))
abbrev s_law : Stmt := topS 22
theorem sc_law : FnScope ["_law_script", "_law_k", "_law_pool_here", "_law_row_of", "_law_here", "_law_there", "_law_row", "_law_due", "_law_handed", "_law_turn"] ["_law_script"] (defScope s_law) := ⟨rfl, rfl, rfl, by decide +kernel, rfl, by decide +kernel, by decide +kernel⟩
theorem d_law {P : Program} {w : World} {K : PySem.W.Frag} {mg : Str → Option Value} {base : Heap} {C_NoNumber : Addr} (T : Txt K mg C_NoNumber) (F_law_pool : Dfn P w K mg base CX0 "_law_pool" "_law_pool" s_law_pool 2 ["_law_script", "_law_k"] c_pool) (F_law_drawn : Dfn P w K mg base CX0 "_law_drawn" "_law_drawn" s_law_drawn 2 ["_law_pool_here"] c_drawn) (F_law_right : Dfn P w K mg base CX0 "_law_right" "_law_right" s_law_right 5 ["_law_here", "_law_there"] c_right) (F_law_take : Dfn P w K mg base CX0 "_law_take" "_law_take" s_law_take 1 ["_law_pool_here", "_law_many"] c_take) (F_law_low : Dfn P w K mg base CX0 "_law_low" "_law_low" s_law_low 1 ["_law_top", "_law_bottom"] c_low) (F_law_same : Dfn P w K mg base CX0 "_law_same" "_law_same" s_law_same 1 ["_law_found", "_law_due"] c_same) (F_total : Dfn P w K mg base CX0 "total" "total" s_total 4 ["some"] c_total) {f : Addr} (cdv : Value) (A : Around) (outer : List Env) (s : Shared) (H : Hp) (E : XK) (hr : Room 5 (A.deeper (PyProof.Rows.envOfC "law" (defScope s_law) s.heap.objs.size f cdv))) :
    DSs (cxOf CX0 P w K mg base ["_law_script", "_law_k", "_law_pool_here", "_law_row_of", "_law_here", "_law_there", "_law_row", "_law_due", "_law_handed", "_law_turn"] "law" (defScope s_law) f cdv A outer s H E).nox W0 (defBody s_law) t_law :=
  (dss_cons (ds_for PassesOwn.never (di_range1 T.b_range (da_cons (de_blt (call_max2 rfl) l_max2 T.b_max (by decide +kernel) (da_cons de_int (da_cons (de_blt (call_min2 rfl) l_min2 T.b_min (by decide +kernel) (da_cons (de_blt call_len l_len T.b_len (by decide +kernel) (da_cons (de_var 0) da_nil)) (da_cons de_int da_nil))) da_nil))) da_nil)) (pg_name (i := 1) sc_law.nd rfl (by first | exact Or.inl rfl | exact Or.inr rfl)) lg_name (dss_cons (ds_set (i := 2) sc_law.nd (de_call F_law_pool (hr.mono (by decide)) pw0 (da_cons (de_var 0) (da_cons (de_var 1) da_nil))))
    (dss_cons (ds_setLc (i := 3) (own := [("_law_turn", 9)]) sc_law.nd (di_range1 T.b_range (da_cons de_int da_nil)) (blkOk_by (N := ["_law_script", "_law_k", "_law_pool_here", "_law_row_of", "_law_here", "_law_there", "_law_row", "_law_due", "_law_handed", "_law_turn"]) (sc := defScope s_law) (by decide +kernel)) lg_name (si_name (by decide)) (fun _ _ _ _ _ => (pg_name (i := 9) sc_law.nd rfl (by first | exact Or.inl rfl | exact Or.inr rfl))) (fun _ _ _ _ _ => dts_nil) (fun _ _ _ _ _ => (de_call F_law_drawn (hr.mono (by decide)) pw0 (da_cons (de_var 2) da_nil))) (sw_true rfl rfl rfl (by decide +kernel)))
    (dss_cons (ds_for PassesOwn.never (di_seq (de_var 3)) (pg_name (i := 4) sc_law.nd rfl (by first | exact Or.inl rfl | exact Or.inr rfl)) lg_name (dss_one (ds_for PassesOwn.never (di_seq (de_add (de_var 3) (de_lst (da_cons (de_tup (da_cons de_int (da_cons de_int da_nil))) da_nil)))) (pg_name (i := 5) sc_law.nd rfl (by first | exact Or.inl rfl | exact Or.inr rfl)) lg_name (dss_one (ds_if (dt_not (dt_tru (de_call F_law_right (hr.mono (by decide)) pw0 (da_cons (de_var 4) (da_cons (de_var 5) da_nil))))) (dss_one (ds_ret de_bl)) dss_nil)))))
    (dss_cons (ds_setLc (i := 6) (own := [("_law_turn", 9)]) sc_law.nd (di_range1 T.b_range (da_cons (de_call F_law_take (hr.mono (by decide)) pw0 (da_cons (de_var 2) (da_cons de_int da_nil))) da_nil)) (blkOk_by (N := ["_law_script", "_law_k", "_law_pool_here", "_law_row_of", "_law_here", "_law_there", "_law_row", "_law_due", "_law_handed", "_law_turn"]) (sc := defScope s_law) (by decide +kernel)) lg_name (si_name (by decide)) (fun _ _ _ _ _ => (pg_name (i := 9) sc_law.nd rfl (by first | exact Or.inl rfl | exact Or.inr rfl))) (fun _ _ _ _ _ => dts_nil) (fun _ _ _ _ _ => (de_call F_law_drawn (hr.mono (by decide)) pw0 (da_cons (de_var 2) da_nil))) (sw_true rfl rfl rfl (by decide +kernel)))
    (dss_cons (ds_set (i := 7) sc_law.nd (de_tup (da_cons de_int (da_cons de_int da_nil))))
    (dss_cons (ds_for PassesOwn.never (di_seq (de_var 6)) (pg_name (i := 4) sc_law.nd rfl (by first | exact Or.inl rfl | exact Or.inr rfl)) lg_name (dss_one (ds_set (i := 7) sc_law.nd (de_call F_law_low (hr.mono (by decide)) pw0 (da_cons (de_add (de_mul (de_ix (de_var 7) de_int) (de_ix (de_var 4) de_int)) (de_mul (de_ix (de_var 4) de_int) (de_ix (de_var 7) de_int))) (da_cons (de_mul (de_ix (de_var 7) de_int) (de_ix (de_var 4) de_int)) da_nil))))))
    (dss_cons (ds_set (i := 8) sc_law.nd (de_blty call_list_of l_list T.b_list (by decide +kernel) (da_cons (de_var 6) da_nil)))
    (dss_one (ds_if (DW.dt (dw_or (dt_not (dt_tru (de_call F_law_same (hr.mono (by decide)) pw0 (da_cons (de_call F_total (hr.mono (by decide)) pw0 (da_cons (de_var 8) da_nil)) (da_cons (de_var 7) da_nil))))) (dw_or (dt_ne hr (de_var 8) (de_var 6)) (dw_or1 (dt_not (dt_tru (de_call F_law_same (hr.mono (by decide)) pw0 (da_cons (de_callK0 F_total (hr.mono (by decide)) pw0 (kbn_of (ks := ["some"]) (m := 0) (n := 1) (pm := [0]) fun _ _ _ _ _ _ us hl => match us, hl with | [_], _ => rfl) (dk_cons (de_lst da_nil) dk_nil)) (da_cons (de_tup (da_cons de_int (da_cons de_int da_nil))) da_nil))))))))) (dss_one (ds_ret de_bl)) dss_nil))))))))))
    (dss_one (ds_ret de_bl)))
theorem ok_law_cell_at {P : Program} {w : World} {K : PySem.W.Frag} {mg : Str → Option Value} {base : Heap} {C_NoNumber : Addr} {f : Addr} {fd : FuncData} (F : Fun K "_law_cell_at" "_law_cell_at" s_law_cell_at f fd) (hm : mg "_law_cell_at" = some (.ref f)) (bn : Binds K fd ["_law_script", "_law_k"] []) (T : Txt K mg C_NoNumber)  :
    Dfn P w K mg base CX0 "_law_cell_at" "_law_cell_at" s_law_cell_at 1 ["_law_script", "_law_k"] c_cell_at :=
  dfnA (m := 2) F hm bn sc_law_cell_at (by intro ds μ Q X h; first | (obtain ⟨_, rfl, _⟩ := h; rfl) | (obtain ⟨_, _, rfl, _⟩ := h; rfl) | (obtain ⟨_, _, _, rfl, _⟩ := h; rfl) | (obtain ⟨_, _, _, _, rfl, _⟩ := h; rfl) | (obtain ⟨_, _, _, _, _, rfl, _⟩ := h; rfl) | (obtain ⟨_, _, _, _, _, _, rfl, _⟩ := h; rfl) | (obtain ⟨_, _, _, _, _, _, _, rfl, _⟩ := h; rfl) | (obtain ⟨_, _, _, _, _, _, _, _, rfl, _⟩ := h; rfl) | (obtain ⟨rfl, _⟩ := h; rfl)) (hb_law_cell_at) (d_law_cell_at T )
theorem ok_law_pool {P : Program} {w : World} {K : PySem.W.Frag} {mg : Str → Option Value} {base : Heap} {C_NoNumber : Addr} {f : Addr} {fd : FuncData} (F : Fun K "_law_pool" "_law_pool" s_law_pool f fd) (hm : mg "_law_pool" = some (.ref f)) (bn : Binds K fd ["_law_script", "_law_k"] []) (T : Txt K mg C_NoNumber) (F_law_cell_at : Dfn P w K mg base CX0 "_law_cell_at" "_law_cell_at" s_law_cell_at 1 ["_law_script", "_law_k"] c_cell_at) :
    Dfn P w K mg base CX0 "_law_pool" "_law_pool" s_law_pool 2 ["_law_script", "_law_k"] c_pool :=
  dfnA (m := 2) F hm bn sc_law_pool (by intro ds μ Q X h; first | (obtain ⟨_, rfl, _⟩ := h; rfl) | (obtain ⟨_, _, rfl, _⟩ := h; rfl) | (obtain ⟨_, _, _, rfl, _⟩ := h; rfl) | (obtain ⟨_, _, _, _, rfl, _⟩ := h; rfl) | (obtain ⟨_, _, _, _, _, rfl, _⟩ := h; rfl) | (obtain ⟨_, _, _, _, _, _, rfl, _⟩ := h; rfl) | (obtain ⟨_, _, _, _, _, _, _, rfl, _⟩ := h; rfl) | (obtain ⟨_, _, _, _, _, _, _, _, rfl, _⟩ := h; rfl) | (obtain ⟨rfl, _⟩ := h; rfl)) (hb_law_pool) (d_law_pool T F_law_cell_at)
theorem ok_law_take {P : Program} {w : World} {K : PySem.W.Frag} {mg : Str → Option Value} {base : Heap} {C_NoNumber : Addr} {f : Addr} {fd : FuncData} (F : Fun K "_law_take" "_law_take" s_law_take f fd) (hm : mg "_law_take" = some (.ref f)) (bn : Binds K fd ["_law_pool_here", "_law_many"] []) (T : Txt K mg C_NoNumber)  :
    Dfn P w K mg base CX0 "_law_take" "_law_take" s_law_take 1 ["_law_pool_here", "_law_many"] c_take :=
  dfnA (m := 2) F hm bn sc_law_take (by intro ds μ Q X h; first | (obtain ⟨_, rfl, _⟩ := h; rfl) | (obtain ⟨_, _, rfl, _⟩ := h; rfl) | (obtain ⟨_, _, _, rfl, _⟩ := h; rfl) | (obtain ⟨_, _, _, _, rfl, _⟩ := h; rfl) | (obtain ⟨_, _, _, _, _, rfl, _⟩ := h; rfl) | (obtain ⟨_, _, _, _, _, _, rfl, _⟩ := h; rfl) | (obtain ⟨_, _, _, _, _, _, _, rfl, _⟩ := h; rfl) | (obtain ⟨_, _, _, _, _, _, _, _, rfl, _⟩ := h; rfl) | (obtain ⟨rfl, _⟩ := h; rfl)) (hb_law_take) (d_law_take T )
theorem ok_law_low {P : Program} {w : World} {K : PySem.W.Frag} {mg : Str → Option Value} {base : Heap} {C_NoNumber : Addr} {f : Addr} {fd : FuncData} (F : Fun K "_law_low" "_law_low" s_law_low f fd) (hm : mg "_law_low" = some (.ref f)) (bn : Binds K fd ["_law_top", "_law_bottom"] []) (T : Txt K mg C_NoNumber)  :
    Dfn P w K mg base CX0 "_law_low" "_law_low" s_law_low 1 ["_law_top", "_law_bottom"] c_low :=
  dfnA (m := 2) F hm bn sc_law_low (by intro ds μ Q X h; first | (obtain ⟨_, rfl, _⟩ := h; rfl) | (obtain ⟨_, _, rfl, _⟩ := h; rfl) | (obtain ⟨_, _, _, rfl, _⟩ := h; rfl) | (obtain ⟨_, _, _, _, rfl, _⟩ := h; rfl) | (obtain ⟨_, _, _, _, _, rfl, _⟩ := h; rfl) | (obtain ⟨_, _, _, _, _, _, rfl, _⟩ := h; rfl) | (obtain ⟨_, _, _, _, _, _, _, rfl, _⟩ := h; rfl) | (obtain ⟨_, _, _, _, _, _, _, _, rfl, _⟩ := h; rfl) | (obtain ⟨rfl, _⟩ := h; rfl)) (hb_law_low) (d_law_low T )
theorem ok_law_drawn {P : Program} {w : World} {K : PySem.W.Frag} {mg : Str → Option Value} {base : Heap} {C_NoNumber : Addr} {f : Addr} {fd : FuncData} (F : Fun K "_law_drawn" "_law_drawn" s_law_drawn f fd) (hm : mg "_law_drawn" = some (.ref f)) (bn : Binds K fd ["_law_pool_here"] []) (T : Txt K mg C_NoNumber) (F_law_take : Dfn P w K mg base CX0 "_law_take" "_law_take" s_law_take 1 ["_law_pool_here", "_law_many"] c_take) (F_law_low : Dfn P w K mg base CX0 "_law_low" "_law_low" s_law_low 1 ["_law_top", "_law_bottom"] c_low) :
    Dfn P w K mg base CX0 "_law_drawn" "_law_drawn" s_law_drawn 2 ["_law_pool_here"] c_drawn :=
  dfnA (m := 1) F hm bn sc_law_drawn (by intro ds μ Q X h; first | (obtain ⟨_, rfl, _⟩ := h; rfl) | (obtain ⟨_, _, rfl, _⟩ := h; rfl) | (obtain ⟨_, _, _, rfl, _⟩ := h; rfl) | (obtain ⟨_, _, _, _, rfl, _⟩ := h; rfl) | (obtain ⟨_, _, _, _, _, rfl, _⟩ := h; rfl) | (obtain ⟨_, _, _, _, _, _, rfl, _⟩ := h; rfl) | (obtain ⟨_, _, _, _, _, _, _, rfl, _⟩ := h; rfl) | (obtain ⟨_, _, _, _, _, _, _, _, rfl, _⟩ := h; rfl) | (obtain ⟨rfl, _⟩ := h; rfl)) (hb_law_drawn) (d_law_drawn T F_law_take F_law_low)
theorem ok_law_same {P : Program} {w : World} {K : PySem.W.Frag} {mg : Str → Option Value} {base : Heap} {C_NoNumber : Addr} {f : Addr} {fd : FuncData} (F : Fun K "_law_same" "_law_same" s_law_same f fd) (hm : mg "_law_same" = some (.ref f)) (bn : Binds K fd ["_law_found", "_law_due"] []) (T : Txt K mg C_NoNumber)  :
    Dfn P w K mg base CX0 "_law_same" "_law_same" s_law_same 1 ["_law_found", "_law_due"] c_same :=
  dfnA (m := 2) F hm bn sc_law_same (by intro ds μ Q X h; first | (obtain ⟨_, rfl, _⟩ := h; rfl) | (obtain ⟨_, _, rfl, _⟩ := h; rfl) | (obtain ⟨_, _, _, rfl, _⟩ := h; rfl) | (obtain ⟨_, _, _, _, rfl, _⟩ := h; rfl) | (obtain ⟨_, _, _, _, _, rfl, _⟩ := h; rfl) | (obtain ⟨_, _, _, _, _, _, rfl, _⟩ := h; rfl) | (obtain ⟨_, _, _, _, _, _, _, rfl, _⟩ := h; rfl) | (obtain ⟨_, _, _, _, _, _, _, _, rfl, _⟩ := h; rfl) | (obtain ⟨rfl, _⟩ := h; rfl)) (hb_law_same) (d_law_same T )
theorem ok_shared {P : Program} {w : World} {K : PySem.W.Frag} {mg : Str → Option Value} {base : Heap} {C_NoNumber : Addr} {f : Addr} {fd : FuncData} (F : Fun K "shared" "shared" s_shared f fd) (hm : mg "shared" = some (.ref f)) (bn : Binds K fd ["one", "other"] []) (T : Txt K mg C_NoNumber)  :
    Dfn P w K mg base CX0 "shared" "shared" s_shared 1 ["one", "other"] c_shared :=
  dfnA (m := 2) F hm bn sc_shared (by intro ds μ Q X h; first | (obtain ⟨_, rfl, _⟩ := h; rfl) | (obtain ⟨_, _, rfl, _⟩ := h; rfl) | (obtain ⟨_, _, _, rfl, _⟩ := h; rfl) | (obtain ⟨_, _, _, _, rfl, _⟩ := h; rfl) | (obtain ⟨_, _, _, _, _, rfl, _⟩ := h; rfl) | (obtain ⟨_, _, _, _, _, _, rfl, _⟩ := h; rfl) | (obtain ⟨_, _, _, _, _, _, _, rfl, _⟩ := h; rfl) | (obtain ⟨_, _, _, _, _, _, _, _, rfl, _⟩ := h; rfl) | (obtain ⟨rfl, _⟩ := h; rfl)) (hb_shared) (d_shared T )
theorem ok_lowest {P : Program} {w : World} {K : PySem.W.Frag} {mg : Str → Option Value} {base : Heap} {C_NoNumber : Addr} {f : Addr} {fd : FuncData} (F : Fun K "lowest" "lowest" s_lowest f fd) (hm : mg "lowest" = some (.ref f)) (bn : Binds K fd ["top", "bottom"] []) (T : Txt K mg C_NoNumber) (F_shared : Dfn P w K mg base CX0 "shared" "shared" s_shared 1 ["one", "other"] c_shared) :
    Dfn P w K mg base CX0 "lowest" "lowest" s_lowest 2 ["top", "bottom"] c_lowest :=
  dfnA (m := 2) F hm bn sc_lowest (by intro ds μ Q X h; first | (obtain ⟨_, rfl, _⟩ := h; rfl) | (obtain ⟨_, _, rfl, _⟩ := h; rfl) | (obtain ⟨_, _, _, rfl, _⟩ := h; rfl) | (obtain ⟨_, _, _, _, rfl, _⟩ := h; rfl) | (obtain ⟨_, _, _, _, _, rfl, _⟩ := h; rfl) | (obtain ⟨_, _, _, _, _, _, rfl, _⟩ := h; rfl) | (obtain ⟨_, _, _, _, _, _, _, rfl, _⟩ := h; rfl) | (obtain ⟨_, _, _, _, _, _, _, _, rfl, _⟩ := h; rfl) | (obtain ⟨rfl, _⟩ := h; rfl)) (hb_lowest) (d_lowest T F_shared)
theorem ok_plus {P : Program} {w : World} {K : PySem.W.Frag} {mg : Str → Option Value} {base : Heap} {C_NoNumber : Addr} {f : Addr} {fd : FuncData} (F : Fun K "plus" "plus" s_plus f fd) (hm : mg "plus" = some (.ref f)) (bn : Binds K fd ["one", "other"] []) (T : Txt K mg C_NoNumber) (F_lowest : Dfn P w K mg base CX0 "lowest" "lowest" s_lowest 2 ["top", "bottom"] c_lowest) :
    Dfn P w K mg base CX0 "plus" "plus" s_plus 3 ["one", "other"] c_plus :=
  dfnA (m := 2) F hm bn sc_plus (by intro ds μ Q X h; first | (obtain ⟨_, rfl, _⟩ := h; rfl) | (obtain ⟨_, _, rfl, _⟩ := h; rfl) | (obtain ⟨_, _, _, rfl, _⟩ := h; rfl) | (obtain ⟨_, _, _, _, rfl, _⟩ := h; rfl) | (obtain ⟨_, _, _, _, _, rfl, _⟩ := h; rfl) | (obtain ⟨_, _, _, _, _, _, rfl, _⟩ := h; rfl) | (obtain ⟨_, _, _, _, _, _, _, rfl, _⟩ := h; rfl) | (obtain ⟨_, _, _, _, _, _, _, _, rfl, _⟩ := h; rfl) | (obtain ⟨rfl, _⟩ := h; rfl)) (hb_plus) (d_plus T F_lowest)
theorem ok_minus {P : Program} {w : World} {K : PySem.W.Frag} {mg : Str → Option Value} {base : Heap} {C_NoNumber : Addr} {f : Addr} {fd : FuncData} (F : Fun K "minus" "minus" s_minus f fd) (hm : mg "minus" = some (.ref f)) (bn : Binds K fd ["one", "other"] []) (T : Txt K mg C_NoNumber) (F_lowest : Dfn P w K mg base CX0 "lowest" "lowest" s_lowest 2 ["top", "bottom"] c_lowest) :
    Dfn P w K mg base CX0 "minus" "minus" s_minus 3 ["one", "other"] c_minus :=
  dfnA (m := 2) F hm bn sc_minus (by intro ds μ Q X h; first | (obtain ⟨_, rfl, _⟩ := h; rfl) | (obtain ⟨_, _, rfl, _⟩ := h; rfl) | (obtain ⟨_, _, _, rfl, _⟩ := h; rfl) | (obtain ⟨_, _, _, _, rfl, _⟩ := h; rfl) | (obtain ⟨_, _, _, _, _, rfl, _⟩ := h; rfl) | (obtain ⟨_, _, _, _, _, _, rfl, _⟩ := h; rfl) | (obtain ⟨_, _, _, _, _, _, _, rfl, _⟩ := h; rfl) | (obtain ⟨_, _, _, _, _, _, _, _, rfl, _⟩ := h; rfl) | (obtain ⟨rfl, _⟩ := h; rfl)) (hb_minus) (d_minus T F_lowest)
theorem ok_times {P : Program} {w : World} {K : PySem.W.Frag} {mg : Str → Option Value} {base : Heap} {C_NoNumber : Addr} {f : Addr} {fd : FuncData} (F : Fun K "times" "times" s_times f fd) (hm : mg "times" = some (.ref f)) (bn : Binds K fd ["one", "other"] []) (T : Txt K mg C_NoNumber) (F_lowest : Dfn P w K mg base CX0 "lowest" "lowest" s_lowest 2 ["top", "bottom"] c_lowest) :
    Dfn P w K mg base CX0 "times" "times" s_times 3 ["one", "other"] c_times :=
  dfnA (m := 2) F hm bn sc_times (by intro ds μ Q X h; first | (obtain ⟨_, rfl, _⟩ := h; rfl) | (obtain ⟨_, _, rfl, _⟩ := h; rfl) | (obtain ⟨_, _, _, rfl, _⟩ := h; rfl) | (obtain ⟨_, _, _, _, rfl, _⟩ := h; rfl) | (obtain ⟨_, _, _, _, _, rfl, _⟩ := h; rfl) | (obtain ⟨_, _, _, _, _, _, rfl, _⟩ := h; rfl) | (obtain ⟨_, _, _, _, _, _, _, rfl, _⟩ := h; rfl) | (obtain ⟨_, _, _, _, _, _, _, _, rfl, _⟩ := h; rfl) | (obtain ⟨rfl, _⟩ := h; rfl)) (hb_times) (d_times T F_lowest)
theorem ok_over {P : Program} {w : World} {K : PySem.W.Frag} {mg : Str → Option Value} {base : Heap} {C_NoNumber : Addr} {f : Addr} {fd : FuncData} (F : Fun K "over" "over" s_over f fd) (hm : mg "over" = some (.ref f)) (bn : Binds K fd ["one", "other"] []) (T : Txt K mg C_NoNumber) (F_lowest : Dfn P w K mg base CX0 "lowest" "lowest" s_lowest 2 ["top", "bottom"] c_lowest) :
    Dfn P w K mg base (L2.CX P w) "over" "over" s_over 3 ["one", "other"] (c_over C_NoNumber) :=
  dfnX (m := 2) F hm bn sc_over (by intro ds μ Q X h; first | (obtain ⟨_, rfl, _⟩ := h; rfl) | (obtain ⟨_, _, rfl, _⟩ := h; rfl) | (obtain ⟨_, _, _, rfl, _⟩ := h; rfl) | (obtain ⟨_, _, _, _, rfl, _⟩ := h; rfl) | (obtain ⟨_, _, _, _, _, rfl, _⟩ := h; rfl) | (obtain ⟨_, _, _, _, _, _, rfl, _⟩ := h; rfl) | (obtain ⟨_, _, _, _, _, _, _, rfl, _⟩ := h; rfl) | (obtain ⟨_, _, _, _, _, _, _, _, rfl, _⟩ := h; rfl) | (obtain ⟨rfl, _⟩ := h; rfl)) (hb_over) (d_over T F_lowest)
theorem ok_law_refused {P : Program} {w : World} {K : PySem.W.Frag} {mg : Str → Option Value} {base : Heap} {C_NoNumber : Addr} {f : Addr} {fd : FuncData} (F : Fun K "_law_refused" "_law_refused" s_law_refused f fd) (hm : mg "_law_refused" = some (.ref f)) (bn : Binds K fd ["_law_here"] []) (T : Txt K mg C_NoNumber) (F_over : Dfn P w K mg base (L2.CX P w) "over" "over" s_over 3 ["one", "other"] (c_over C_NoNumber)) :
    Dfn P w K mg base CX0 "_law_refused" "_law_refused" s_law_refused 4 ["_law_here"] c_refused :=
  dfnA (m := 1) F hm bn sc_law_refused (by intro ds μ Q X h; first | (obtain ⟨_, rfl, _⟩ := h; rfl) | (obtain ⟨_, _, rfl, _⟩ := h; rfl) | (obtain ⟨_, _, _, rfl, _⟩ := h; rfl) | (obtain ⟨_, _, _, _, rfl, _⟩ := h; rfl) | (obtain ⟨_, _, _, _, _, rfl, _⟩ := h; rfl) | (obtain ⟨_, _, _, _, _, _, rfl, _⟩ := h; rfl) | (obtain ⟨_, _, _, _, _, _, _, rfl, _⟩ := h; rfl) | (obtain ⟨_, _, _, _, _, _, _, _, rfl, _⟩ := h; rfl) | (obtain ⟨rfl, _⟩ := h; rfl)) (hb_law_refused T.x_NoNumber_NoNumber) (d_law_refused T F_over)
theorem ok_under {P : Program} {w : World} {K : PySem.W.Frag} {mg : Str → Option Value} {base : Heap} {C_NoNumber : Addr} {f : Addr} {fd : FuncData} (F : Fun K "under" "under" s_under f fd) (hm : mg "under" = some (.ref f)) (bn : Binds K fd ["one", "other"] []) (T : Txt K mg C_NoNumber)  :
    Dfn P w K mg base CX0 "under" "under" s_under 1 ["one", "other"] c_under :=
  dfnA (m := 2) F hm bn sc_under (by intro ds μ Q X h; first | (obtain ⟨_, rfl, _⟩ := h; rfl) | (obtain ⟨_, _, rfl, _⟩ := h; rfl) | (obtain ⟨_, _, _, rfl, _⟩ := h; rfl) | (obtain ⟨_, _, _, _, rfl, _⟩ := h; rfl) | (obtain ⟨_, _, _, _, _, rfl, _⟩ := h; rfl) | (obtain ⟨_, _, _, _, _, _, rfl, _⟩ := h; rfl) | (obtain ⟨_, _, _, _, _, _, _, rfl, _⟩ := h; rfl) | (obtain ⟨_, _, _, _, _, _, _, _, rfl, _⟩ := h; rfl) | (obtain ⟨rfl, _⟩ := h; rfl)) (hb_under) (d_under T )
theorem ok_law_right {P : Program} {w : World} {K : PySem.W.Frag} {mg : Str → Option Value} {base : Heap} {C_NoNumber : Addr} {f : Addr} {fd : FuncData} (F : Fun K "_law_right" "_law_right" s_law_right f fd) (hm : mg "_law_right" = some (.ref f)) (bn : Binds K fd ["_law_here", "_law_there"] []) (T : Txt K mg C_NoNumber) (F_law_low : Dfn P w K mg base CX0 "_law_low" "_law_low" s_law_low 1 ["_law_top", "_law_bottom"] c_low) (F_law_same : Dfn P w K mg base CX0 "_law_same" "_law_same" s_law_same 1 ["_law_found", "_law_due"] c_same) (F_plus : Dfn P w K mg base CX0 "plus" "plus" s_plus 3 ["one", "other"] c_plus) (F_minus : Dfn P w K mg base CX0 "minus" "minus" s_minus 3 ["one", "other"] c_minus) (F_times : Dfn P w K mg base CX0 "times" "times" s_times 3 ["one", "other"] c_times) (F_law_refused : Dfn P w K mg base CX0 "_law_refused" "_law_refused" s_law_refused 4 ["_law_here"] c_refused) (F_over : Dfn P w K mg base (L2.CX P w) "over" "over" s_over 3 ["one", "other"] (c_over C_NoNumber)) (F_under : Dfn P w K mg base CX0 "under" "under" s_under 1 ["one", "other"] c_under) :
    Dfn P w K mg base CX0 "_law_right" "_law_right" s_law_right 5 ["_law_here", "_law_there"] c_right :=
  dfnA (m := 2) F hm bn sc_law_right (by intro ds μ Q X h; first | (obtain ⟨_, rfl, _⟩ := h; rfl) | (obtain ⟨_, _, rfl, _⟩ := h; rfl) | (obtain ⟨_, _, _, rfl, _⟩ := h; rfl) | (obtain ⟨_, _, _, _, rfl, _⟩ := h; rfl) | (obtain ⟨_, _, _, _, _, rfl, _⟩ := h; rfl) | (obtain ⟨_, _, _, _, _, _, rfl, _⟩ := h; rfl) | (obtain ⟨_, _, _, _, _, _, _, rfl, _⟩ := h; rfl) | (obtain ⟨_, _, _, _, _, _, _, _, rfl, _⟩ := h; rfl) | (obtain ⟨rfl, _⟩ := h; rfl)) (hb_law_right) (d_law_right T F_law_low F_law_same F_plus F_minus F_times F_law_refused F_over F_under)
theorem ok_total {P : Program} {w : World} {K : PySem.W.Frag} {mg : Str → Option Value} {base : Heap} {C_NoNumber : Addr} {f : Addr} {fd : FuncData} (F : Fun K "total" "total" s_total f fd) (hm : mg "total" = some (.ref f)) (bn : Binds K fd ["some"] []) (T : Txt K mg C_NoNumber) (F_plus : Dfn P w K mg base CX0 "plus" "plus" s_plus 3 ["one", "other"] c_plus) :
    Dfn P w K mg base CX0 "total" "total" s_total 4 ["some"] c_total :=
  dfnA (m := 1) F hm bn sc_total (by intro ds μ Q X h; first | (obtain ⟨_, rfl, _⟩ := h; rfl) | (obtain ⟨_, _, rfl, _⟩ := h; rfl) | (obtain ⟨_, _, _, rfl, _⟩ := h; rfl) | (obtain ⟨_, _, _, _, rfl, _⟩ := h; rfl) | (obtain ⟨_, _, _, _, _, rfl, _⟩ := h; rfl) | (obtain ⟨_, _, _, _, _, _, rfl, _⟩ := h; rfl) | (obtain ⟨_, _, _, _, _, _, _, rfl, _⟩ := h; rfl) | (obtain ⟨_, _, _, _, _, _, _, _, rfl, _⟩ := h; rfl) | (obtain ⟨rfl, _⟩ := h; rfl)) (hb_total) (d_total T F_plus)
theorem ok_law {P : Program} {w : World} {K : PySem.W.Frag} {mg : Str → Option Value} {base : Heap} {C_NoNumber : Addr} {f : Addr} {fd : FuncData} (F : Fun K "law" "law" s_law f fd) (hm : mg "law" = some (.ref f)) (bn : Binds K fd ["_law_script"] []) (T : Txt K mg C_NoNumber) (F_law_pool : Dfn P w K mg base CX0 "_law_pool" "_law_pool" s_law_pool 2 ["_law_script", "_law_k"] c_pool) (F_law_drawn : Dfn P w K mg base CX0 "_law_drawn" "_law_drawn" s_law_drawn 2 ["_law_pool_here"] c_drawn) (F_law_right : Dfn P w K mg base CX0 "_law_right" "_law_right" s_law_right 5 ["_law_here", "_law_there"] c_right) (F_law_take : Dfn P w K mg base CX0 "_law_take" "_law_take" s_law_take 1 ["_law_pool_here", "_law_many"] c_take) (F_law_low : Dfn P w K mg base CX0 "_law_low" "_law_low" s_law_low 1 ["_law_top", "_law_bottom"] c_low) (F_law_same : Dfn P w K mg base CX0 "_law_same" "_law_same" s_law_same 1 ["_law_found", "_law_due"] c_same) (F_total : Dfn P w K mg base CX0 "total" "total" s_total 4 ["some"] c_total) :
    Dfn P w K mg base CX0 "law" "law" s_law 6 ["_law_script"] cLaw :=
  dfnA (m := 1) F hm bn sc_law (by intro ds μ Q X h; first | (obtain ⟨_, rfl, _⟩ := h; rfl) | (obtain ⟨_, _, rfl, _⟩ := h; rfl) | (obtain ⟨_, _, _, rfl, _⟩ := h; rfl) | (obtain ⟨_, _, _, _, rfl, _⟩ := h; rfl) | (obtain ⟨_, _, _, _, _, rfl, _⟩ := h; rfl) | (obtain ⟨_, _, _, _, _, _, rfl, _⟩ := h; rfl) | (obtain ⟨_, _, _, _, _, _, _, rfl, _⟩ := h; rfl) | (obtain ⟨_, _, _, _, _, _, _, _, rfl, _⟩ := h; rfl) | (obtain ⟨rfl, _⟩ := h; rfl)) (hb_law) (d_law T F_law_pool F_law_drawn F_law_right F_law_take F_law_low F_law_same F_total)
theorem all_mk {l : PySem.W.OpenLaw} {w : World} {K : PySem.W.Frag} {h : Heap} {mg : Str → Option Value} {fa : Addr} (X : K.In h) (G : h.Ns mainGlobals mg) (hfa : mg "law" = some (.ref fa))
    {f1 : Addr} {od1 an1 : Option Addr} {sl1 : Array (Option Value)} {oc1 kV1 dc1 pm1 cd1 ct1 : Value}
    {f2 : Addr} {od2 an2 : Option Addr} {sl2 : Array (Option Value)} {oc2 kV2 dc2 pm2 cd2 ct2 : Value}
    {f3 : Addr} {od3 an3 : Option Addr} {sl3 : Array (Option Value)} {oc3 kV3 dc3 pm3 cd3 ct3 : Value}
    {f4 : Addr} {od4 an4 : Option Addr} {sl4 : Array (Option Value)} {oc4 kV4 dc4 pm4 cd4 ct4 : Value}
    {f5 : Addr} {od5 an5 : Option Addr} {sl5 : Array (Option Value)} {oc5 kV5 dc5 pm5 cd5 ct5 : Value}
    {f6 : Addr} {od6 an6 : Option Addr} {sl6 : Array (Option Value)} {oc6 kV6 dc6 pm6 cd6 ct6 : Value}
    {f7 : Addr} {od7 an7 : Option Addr} {sl7 : Array (Option Value)} {oc7 kV7 dc7 pm7 cd7 ct7 : Value}
    {f8 : Addr} {od8 an8 : Option Addr} {sl8 : Array (Option Value)} {oc8 kV8 dc8 pm8 cd8 ct8 : Value}
    {f9 : Addr} {od9 an9 : Option Addr} {sl9 : Array (Option Value)} {oc9 kV9 dc9 pm9 cd9 ct9 : Value}
    {f10 : Addr} {od10 an10 : Option Addr} {sl10 : Array (Option Value)} {oc10 kV10 dc10 pm10 cd10 ct10 : Value}
    {f11 : Addr} {od11 an11 : Option Addr} {sl11 : Array (Option Value)} {oc11 kV11 dc11 pm11 cd11 ct11 : Value}
    {f12 : Addr} {od12 an12 : Option Addr} {sl12 : Array (Option Value)} {oc12 kV12 dc12 pm12 cd12 ct12 : Value}
    {f13 : Addr} {od13 an13 : Option Addr} {sl13 : Array (Option Value)} {oc13 kV13 dc13 pm13 cd13 ct13 : Value}
    {f14 : Addr} {od14 an14 : Option Addr} {sl14 : Array (Option Value)} {oc14 kV14 dc14 pm14 cd14 ct14 : Value}
    {f15 : Addr} {od15 an15 : Option Addr} {sl15 : Array (Option Value)} {oc15 kV15 dc15 pm15 cd15 ct15 : Value}
    {f16 : Addr} {od16 an16 : Option Addr} {sl16 : Array (Option Value)} {oc16 kV16 dc16 pm16 cd16 ct16 : Value}
    {f17 : Addr} {od17 an17 : Option Addr} {sl17 : Array (Option Value)} {oc17 kV17 dc17 pm17 cd17 ct17 : Value}
    {n_NOUGHT : Addr} {dd_NOUGHT : Option Addr} {m_NOUGHT : Nat} {sl_NOUGHT : Array (Option Value)} {tk_NOUGHT_0 tk_NOUGHT_1 : Tok}
    {C_NoNumber : Addr}
    (a1 : PySem.W.nsIn K mainGlobals "_law_cell_at" = some (some (.ref f1))) (l1 : K.lookup f1 = some ⟨oc1, od1, .func (PySem.W.fnOf "_law_cell_at" "_law_cell_at" (defArgs s_law_cell_at) (defBody s_law_cell_at) (defScope s_law_cell_at) .none kV1 dc1 pm1 an1 cd1 ct1), sl1⟩) (c1 : PySem.W.codeIn K cd1 "_law_cell_at" = true) (k1 : PySem.W.keepIn K (.ref f1) = true)
    (a2 : PySem.W.nsIn K mainGlobals "_law_pool" = some (some (.ref f2))) (l2 : K.lookup f2 = some ⟨oc2, od2, .func (PySem.W.fnOf "_law_pool" "_law_pool" (defArgs s_law_pool) (defBody s_law_pool) (defScope s_law_pool) .none kV2 dc2 pm2 an2 cd2 ct2), sl2⟩) (c2 : PySem.W.codeIn K cd2 "_law_pool" = true) (k2 : PySem.W.keepIn K (.ref f2) = true)
    (a3 : PySem.W.nsIn K mainGlobals "_law_take" = some (some (.ref f3))) (l3 : K.lookup f3 = some ⟨oc3, od3, .func (PySem.W.fnOf "_law_take" "_law_take" (defArgs s_law_take) (defBody s_law_take) (defScope s_law_take) .none kV3 dc3 pm3 an3 cd3 ct3), sl3⟩) (c3 : PySem.W.codeIn K cd3 "_law_take" = true) (k3 : PySem.W.keepIn K (.ref f3) = true)
    (a4 : PySem.W.nsIn K mainGlobals "_law_low" = some (some (.ref f4))) (l4 : K.lookup f4 = some ⟨oc4, od4, .func (PySem.W.fnOf "_law_low" "_law_low" (defArgs s_law_low) (defBody s_law_low) (defScope s_law_low) .none kV4 dc4 pm4 an4 cd4 ct4), sl4⟩) (c4 : PySem.W.codeIn K cd4 "_law_low" = true) (k4 : PySem.W.keepIn K (.ref f4) = true)
    (a5 : PySem.W.nsIn K mainGlobals "_law_drawn" = some (some (.ref f5))) (l5 : K.lookup f5 = some ⟨oc5, od5, .func (PySem.W.fnOf "_law_drawn" "_law_drawn" (defArgs s_law_drawn) (defBody s_law_drawn) (defScope s_law_drawn) .none kV5 dc5 pm5 an5 cd5 ct5), sl5⟩) (c5 : PySem.W.codeIn K cd5 "_law_drawn" = true) (k5 : PySem.W.keepIn K (.ref f5) = true)
    (a6 : PySem.W.nsIn K mainGlobals "_law_same" = some (some (.ref f6))) (l6 : K.lookup f6 = some ⟨oc6, od6, .func (PySem.W.fnOf "_law_same" "_law_same" (defArgs s_law_same) (defBody s_law_same) (defScope s_law_same) .none kV6 dc6 pm6 an6 cd6 ct6), sl6⟩) (c6 : PySem.W.codeIn K cd6 "_law_same" = true) (k6 : PySem.W.keepIn K (.ref f6) = true)
    (a7 : PySem.W.nsIn K mainGlobals "shared" = some (some (.ref f7))) (l7 : K.lookup f7 = some ⟨oc7, od7, .func (PySem.W.fnOf "shared" "shared" (defArgs s_shared) (defBody s_shared) (defScope s_shared) .none kV7 dc7 pm7 an7 cd7 ct7), sl7⟩) (c7 : PySem.W.codeIn K cd7 "shared" = true) (k7 : PySem.W.keepIn K (.ref f7) = true)
    (a8 : PySem.W.nsIn K mainGlobals "lowest" = some (some (.ref f8))) (l8 : K.lookup f8 = some ⟨oc8, od8, .func (PySem.W.fnOf "lowest" "lowest" (defArgs s_lowest) (defBody s_lowest) (defScope s_lowest) .none kV8 dc8 pm8 an8 cd8 ct8), sl8⟩) (c8 : PySem.W.codeIn K cd8 "lowest" = true) (k8 : PySem.W.keepIn K (.ref f8) = true)
    (a9 : PySem.W.nsIn K mainGlobals "plus" = some (some (.ref f9))) (l9 : K.lookup f9 = some ⟨oc9, od9, .func (PySem.W.fnOf "plus" "plus" (defArgs s_plus) (defBody s_plus) (defScope s_plus) .none kV9 dc9 pm9 an9 cd9 ct9), sl9⟩) (c9 : PySem.W.codeIn K cd9 "plus" = true) (k9 : PySem.W.keepIn K (.ref f9) = true)
    (a10 : PySem.W.nsIn K mainGlobals "minus" = some (some (.ref f10))) (l10 : K.lookup f10 = some ⟨oc10, od10, .func (PySem.W.fnOf "minus" "minus" (defArgs s_minus) (defBody s_minus) (defScope s_minus) .none kV10 dc10 pm10 an10 cd10 ct10), sl10⟩) (c10 : PySem.W.codeIn K cd10 "minus" = true) (k10 : PySem.W.keepIn K (.ref f10) = true)
    (a11 : PySem.W.nsIn K mainGlobals "times" = some (some (.ref f11))) (l11 : K.lookup f11 = some ⟨oc11, od11, .func (PySem.W.fnOf "times" "times" (defArgs s_times) (defBody s_times) (defScope s_times) .none kV11 dc11 pm11 an11 cd11 ct11), sl11⟩) (c11 : PySem.W.codeIn K cd11 "times" = true) (k11 : PySem.W.keepIn K (.ref f11) = true)
    (a12 : PySem.W.nsIn K mainGlobals "over" = some (some (.ref f12))) (l12 : K.lookup f12 = some ⟨oc12, od12, .func (PySem.W.fnOf "over" "over" (defArgs s_over) (defBody s_over) (defScope s_over) .none kV12 dc12 pm12 an12 cd12 ct12), sl12⟩) (c12 : PySem.W.codeIn K cd12 "over" = true) (k12 : PySem.W.keepIn K (.ref f12) = true)
    (a13 : PySem.W.nsIn K mainGlobals "_law_refused" = some (some (.ref f13))) (l13 : K.lookup f13 = some ⟨oc13, od13, .func (PySem.W.fnOf "_law_refused" "_law_refused" (defArgs s_law_refused) (defBody s_law_refused) (defScope s_law_refused) .none kV13 dc13 pm13 an13 cd13 ct13), sl13⟩) (c13 : PySem.W.codeIn K cd13 "_law_refused" = true) (k13 : PySem.W.keepIn K (.ref f13) = true)
    (a14 : PySem.W.nsIn K mainGlobals "under" = some (some (.ref f14))) (l14 : K.lookup f14 = some ⟨oc14, od14, .func (PySem.W.fnOf "under" "under" (defArgs s_under) (defBody s_under) (defScope s_under) .none kV14 dc14 pm14 an14 cd14 ct14), sl14⟩) (c14 : PySem.W.codeIn K cd14 "under" = true) (k14 : PySem.W.keepIn K (.ref f14) = true)
    (a15 : PySem.W.nsIn K mainGlobals "_law_right" = some (some (.ref f15))) (l15 : K.lookup f15 = some ⟨oc15, od15, .func (PySem.W.fnOf "_law_right" "_law_right" (defArgs s_law_right) (defBody s_law_right) (defScope s_law_right) .none kV15 dc15 pm15 an15 cd15 ct15), sl15⟩) (c15 : PySem.W.codeIn K cd15 "_law_right" = true) (k15 : PySem.W.keepIn K (.ref f15) = true)
    (a16 : PySem.W.nsIn K mainGlobals "total" = some (some (.ref f16))) (l16 : K.lookup f16 = some ⟨oc16, od16, .func (PySem.W.fnOf "total" "total" (defArgs s_total) (defBody s_total) (defScope s_total) .none kV16 dc16 pm16 an16 cd16 ct16), sl16⟩) (c16 : PySem.W.codeIn K cd16 "total" = true) (k16 : PySem.W.keepIn K (.ref f16) = true)
    (a17 : PySem.W.nsIn K mainGlobals "law" = some (some (.ref f17))) (l17 : K.lookup f17 = some ⟨oc17, od17, .func (PySem.W.fnOf "law" "law" (defArgs s_law) (defBody s_law) (defScope s_law) .none kV17 dc17 pm17 an17 cd17 ct17), sl17⟩) (c17 : PySem.W.codeIn K cd17 "law" = true) (k17 : PySem.W.keepIn K (.ref f17) = true)
    (z0 : PySem.W.nsIn K mainGlobals "len" = some none)
    (z1 : PySem.W.nsIn K mainGlobals "abs" = some none)
    (z2 : PySem.W.nsIn K mainGlobals "all" = some none)
    (z3 : PySem.W.nsIn K mainGlobals "isinstance" = some none)
    (z4 : PySem.W.nsIn K mainGlobals "tuple" = some none)
    (z5 : PySem.W.nsIn K mainGlobals "int" = some none)
    (z6 : PySem.W.nsIn K mainGlobals "bool" = some none)
    (z7 : PySem.W.nsIn K mainGlobals "range" = some none)
    (z8 : PySem.W.nsIn K mainGlobals "max" = some none)
    (z9 : PySem.W.nsIn K mainGlobals "list" = some none)
    (z10 : PySem.W.nsIn K mainGlobals "min" = some none)
    (a_NOUGHT : PySem.W.nsIn K mainGlobals "NOUGHT" = some (some (.ref n_NOUGHT))) (l_NOUGHT : K.lookup n_NOUGHT = some ⟨.type "tuple", dd_NOUGHT, .seq #[.int 0 tk_NOUGHT_0, .int 1 tk_NOUGHT_1] m_NOUGHT, sl_NOUGHT⟩)
    (g_NoNumber : PySem.W.nsIn K mainGlobals "NoNumber" = some (some (.ref C_NoNumber)))
    (x_NoNumber : PySem.W.excIn K C_NoNumber [.type "ValueError", .type "Exception", .type "BaseException", .type "object"] "ValueError.__new__" = true)
    (k_NoNumber : PySem.W.keepIn K (.ref C_NoNumber) = true) (b_NoNumber : PySem.W.subIn K (.ref C_NoNumber) (.type "BaseException") = some true) (t_NoNumber : PySem.W.typeIn K (.ref C_NoNumber) = some (.type "type")) (i_NoNumber : PySem.W.isClsIn K C_NoNumber = true)
    (s_NoNumber_NoNumber : PySem.W.subIn K (.ref C_NoNumber) (.ref C_NoNumber) = some true) :
    ∃ fd : FuncData, (∀ (s : Shared) (v : Value), BindsTo s fd ⟨[v], []⟩ [("_law_script", v)]) ∧ ∀ base : Heap, K.In base → base.Ns mainGlobals mg → FnOk l.prog w K mg base CX0 6 fa fd ["_law_script"] (spD K cLaw) := by
  have e := hfa.symm.trans (PySem.W.mg_of X G a17)
  cases e
  have T : Txt K mg C_NoNumber := ⟨PySem.W.mg_none_of X G z0, PySem.W.mg_none_of X G z1, PySem.W.mg_none_of X G z2, PySem.W.mg_none_of X G z3, PySem.W.mg_none_of X G z4, PySem.W.mg_none_of X G z5, PySem.W.mg_none_of X G z6, PySem.W.mg_none_of X G z7, PySem.W.mg_none_of X G z8, PySem.W.mg_none_of X G z9, PySem.W.mg_none_of X G z10, ⟨.ref n_NOUGHT, _, PySem.W.mg_of X G a_NOUGHT, rfl, rep_ktup (vs := [V.int 0, V.int 1]) l_NOUGHT rfl rfl (by show 2 ≤ sizeLine; decide) (.cons ⟨_, rfl⟩ (.cons ⟨_, rfl⟩ .nil)) (fun _ => (.cons (.int 0) (.cons (.int 1) .nil)))⟩, ⟨PySem.W.mg_of X G g_NoNumber, x_NoNumber, k_NoNumber, b_NoNumber, t_NoNumber⟩, PySem.W.mg_of X G g_NoNumber, exm_pair b_NoNumber i_NoNumber t_NoNumber s_NoNumber_NoNumber⟩
  have G1 := fun_mk (st := s_law_cell_at) l1 c1 k1
  have G2 := fun_mk (st := s_law_pool) l2 c2 k2
  have G3 := fun_mk (st := s_law_take) l3 c3 k3
  have G4 := fun_mk (st := s_law_low) l4 c4 k4
  have G5 := fun_mk (st := s_law_drawn) l5 c5 k5
  have G6 := fun_mk (st := s_law_same) l6 c6 k6
  have G7 := fun_mk (st := s_shared) l7 c7 k7
  have G8 := fun_mk (st := s_lowest) l8 c8 k8
  have G9 := fun_mk (st := s_plus) l9 c9 k9
  have G10 := fun_mk (st := s_minus) l10 c10 k10
  have G11 := fun_mk (st := s_times) l11 c11 k11
  have G12 := fun_mk (st := s_over) l12 c12 k12
  have G13 := fun_mk (st := s_law_refused) l13 c13 k13
  have G14 := fun_mk (st := s_under) l14 c14 k14
  have G15 := fun_mk (st := s_law_right) l15 c15 k15
  have G16 := fun_mk (st := s_total) l16 c16 k16
  have G17 := fun_mk (st := s_law) l17 c17 k17
  have B1 := G1.binds (ps := ["_law_script", "_law_k"]) fun _ _ _ _ _ _ us hl => match us, hl with | [_, _], _ => rfl
  have B2 := G2.binds (ps := ["_law_script", "_law_k"]) fun _ _ _ _ _ _ us hl => match us, hl with | [_, _], _ => rfl
  have B3 := G3.binds (ps := ["_law_pool_here", "_law_many"]) fun _ _ _ _ _ _ us hl => match us, hl with | [_, _], _ => rfl
  have B4 := G4.binds (ps := ["_law_top", "_law_bottom"]) fun _ _ _ _ _ _ us hl => match us, hl with | [_, _], _ => rfl
  have B5 := G5.binds (ps := ["_law_pool_here"]) fun _ _ _ _ _ _ us hl => match us, hl with | [_], _ => rfl
  have B6 := G6.binds (ps := ["_law_found", "_law_due"]) fun _ _ _ _ _ _ us hl => match us, hl with | [_, _], _ => rfl
  have B7 := G7.binds (ps := ["one", "other"]) fun _ _ _ _ _ _ us hl => match us, hl with | [_, _], _ => rfl
  have B8 := G8.binds (ps := ["top", "bottom"]) fun _ _ _ _ _ _ us hl => match us, hl with | [_, _], _ => rfl
  have B9 := G9.binds (ps := ["one", "other"]) fun _ _ _ _ _ _ us hl => match us, hl with | [_, _], _ => rfl
  have B10 := G10.binds (ps := ["one", "other"]) fun _ _ _ _ _ _ us hl => match us, hl with | [_, _], _ => rfl
  have B11 := G11.binds (ps := ["one", "other"]) fun _ _ _ _ _ _ us hl => match us, hl with | [_, _], _ => rfl
  have B12 := G12.binds (ps := ["one", "other"]) fun _ _ _ _ _ _ us hl => match us, hl with | [_, _], _ => rfl
  have B13 := G13.binds (ps := ["_law_here"]) fun _ _ _ _ _ _ us hl => match us, hl with | [_], _ => rfl
  have B14 := G14.binds (ps := ["one", "other"]) fun _ _ _ _ _ _ us hl => match us, hl with | [_, _], _ => rfl
  have B15 := G15.binds (ps := ["_law_here", "_law_there"]) fun _ _ _ _ _ _ us hl => match us, hl with | [_, _], _ => rfl
  have B16 := G16.binds (ps := ["some"]) fun _ _ _ _ _ _ us hl => match us, hl with | [_], _ => rfl
  have bl := G17.binds (ps := ["_law_script"]) fun _ _ _ _ _ _ us hl => match us, hl with | [_], _ => rfl
  refine ⟨PySem.W.fnOf "law" "law" (defArgs s_law) (defBody s_law) (defScope s_law) .none kV17 dc17 pm17 an17 cd17 ct17, fun s v => .of_eq rfl, fun base _ _ => ?_⟩
  have D1 := ok_law_cell_at (P := l.prog) (w := w) (base := base) G1 (PySem.W.mg_of X G a1) B1 T 
  have D2 := ok_law_pool (P := l.prog) (w := w) (base := base) G2 (PySem.W.mg_of X G a2) B2 T D1
  have D3 := ok_law_take (P := l.prog) (w := w) (base := base) G3 (PySem.W.mg_of X G a3) B3 T 
  have D4 := ok_law_low (P := l.prog) (w := w) (base := base) G4 (PySem.W.mg_of X G a4) B4 T 
  have D5 := ok_law_drawn (P := l.prog) (w := w) (base := base) G5 (PySem.W.mg_of X G a5) B5 T D3 D4
  have D6 := ok_law_same (P := l.prog) (w := w) (base := base) G6 (PySem.W.mg_of X G a6) B6 T 
  have D7 := ok_shared (P := l.prog) (w := w) (base := base) G7 (PySem.W.mg_of X G a7) B7 T 
  have D8 := ok_lowest (P := l.prog) (w := w) (base := base) G8 (PySem.W.mg_of X G a8) B8 T D7
  have D9 := ok_plus (P := l.prog) (w := w) (base := base) G9 (PySem.W.mg_of X G a9) B9 T D8
  have D10 := ok_minus (P := l.prog) (w := w) (base := base) G10 (PySem.W.mg_of X G a10) B10 T D8
  have D11 := ok_times (P := l.prog) (w := w) (base := base) G11 (PySem.W.mg_of X G a11) B11 T D8
  have D12 := ok_over (P := l.prog) (w := w) (base := base) G12 (PySem.W.mg_of X G a12) B12 T D8
  have D13 := ok_law_refused (P := l.prog) (w := w) (base := base) G13 (PySem.W.mg_of X G a13) B13 T D12
  have D14 := ok_under (P := l.prog) (w := w) (base := base) G14 (PySem.W.mg_of X G a14) B14 T 
  have D15 := ok_law_right (P := l.prog) (w := w) (base := base) G15 (PySem.W.mg_of X G a15) B15 T D4 D6 D9 D10 D11 D13 D12 D14
  have D16 := ok_total (P := l.prog) (w := w) (base := base) G16 (PySem.W.mg_of X G a16) B16 T D9
  have D17 := ok_law (P := l.prog) (w := w) (base := base) G17 (PySem.W.mg_of X G a17) bl T D2 D5 D15 D3 D4 D6 D16
  obtain ⟨f', fd', FF, hm', GG, _⟩ := D17.ex
  have e1 := hm'.symm.trans (PySem.W.mg_of X G a17)
  cases e1
  have e2 := fun_uniq FF G17
  subst e2
  exact GG
end K02
open PySem PySem.W PyProof.Rows
set_option maxHeartbeats 0 in
theorem PySem.Challenge.cw_nudgebest_k02_fractions_reckoned_holds : PySem.Challenge.rw_nudgebest_k02_fractions_reckoned.Holds := by
  w_on; o_law; k_head; (case hw => w_witness2)
  k_fill
  refine L2.walk_of (l := PySem.Challenge.rw_nudgebest_k02_fractions_reckoned) (n := 63) (k := 6) (x := "_law_script") (CX := fun _ => L2.CX0) (sp := fun w => DL.spD _ DL.cLaw) rfl (by decide) rfl ⟨rfl, by decide, by decide⟩ (fun w h Y => PySem.W.kIn_of Y) ?F (fun _ _ a ns hl _ hS => DL.law_end hl hS) (fun _ _ _ _ _ h => h)
  case F =>
    intro w mg fa h KX G hmg
    refine' K02.all_mk KX G hmg ?a1 ?l1 ?c1 ?k1 ?a2 ?l2 ?c2 ?k2 ?a3 ?l3 ?c3 ?k3 ?a4 ?l4 ?c4 ?k4 ?a5 ?l5 ?c5 ?k5 ?a6 ?l6 ?c6 ?k6 ?a7 ?l7 ?c7 ?k7 ?a8 ?l8 ?c8 ?k8 ?a9 ?l9 ?c9 ?k9 ?a10 ?l10 ?c10 ?k10 ?a11 ?l11 ?c11 ?k11 ?a12 ?l12 ?c12 ?k12 ?a13 ?l13 ?c13 ?k13 ?a14 ?l14 ?c14 ?k14 ?a15 ?l15 ?c15 ?k15 ?a16 ?l16 ?c16 ?k16 ?a17 ?l17 ?c17 ?k17 ?z0 ?z1 ?z2 ?z3 ?z4 ?z5 ?z6 ?z7 ?z8 ?z9 ?z10 ?a_NOUGHT ?l_NOUGHT ?g_NoNumber ?x_NoNumber ?k_NoNumber ?b_NoNumber ?t_NoNumber ?i_NoNumber ?s_NoNumber_NoNumber
    (case a1 => k_is)
    (case l1 => k_is)
    (case c1 => k_is)
    (case k1 => k_is)
    (case a2 => k_is)
    (case l2 => k_is)
    (case c2 => k_is)
    (case k2 => k_is)
    (case a3 => k_is)
    (case l3 => k_is)
    (case c3 => k_is)
    (case k3 => k_is)
    (case a4 => k_is)
    (case l4 => k_is)
    (case c4 => k_is)
    (case k4 => k_is)
    (case a5 => k_is)
    (case l5 => k_is)
    (case c5 => k_is)
    (case k5 => k_is)
    (case a6 => k_is)
    (case l6 => k_is)
    (case c6 => k_is)
    (case k6 => k_is)
    (case a7 => k_is)
    (case l7 => k_is)
    (case c7 => k_is)
    (case k7 => k_is)
    (case a8 => k_is)
    (case l8 => k_is)
    (case c8 => k_is)
    (case k8 => k_is)
    (case a9 => k_is)
    (case l9 => k_is)
    (case c9 => k_is)
    (case k9 => k_is)
    (case a10 => k_is)
    (case l10 => k_is)
    (case c10 => k_is)
    (case k10 => k_is)
    (case a11 => k_is)
    (case l11 => k_is)
    (case c11 => k_is)
    (case k11 => k_is)
    (case a12 => k_is)
    (case l12 => k_is)
    (case c12 => k_is)
    (case k12 => k_is)
    (case a13 => k_is)
    (case l13 => k_is)
    (case c13 => k_is)
    (case k13 => k_is)
    (case a14 => k_is)
    (case l14 => k_is)
    (case c14 => k_is)
    (case k14 => k_is)
    (case a15 => k_is)
    (case l15 => k_is)
    (case c15 => k_is)
    (case k15 => k_is)
    (case a16 => k_is)
    (case l16 => k_is)
    (case c16 => k_is)
    (case k16 => k_is)
    (case a17 => k_is)
    (case l17 => k_is)
    (case c17 => k_is)
    (case k17 => k_is)
    (case z0 => k_is)
    (case z1 => k_is)
    (case z2 => k_is)
    (case z3 => k_is)
    (case z4 => k_is)
    (case z5 => k_is)
    (case z6 => k_is)
    (case z7 => k_is)
    (case z8 => k_is)
    (case z9 => k_is)
    (case z10 => k_is)
    (case a_NOUGHT => k_is)
    (case l_NOUGHT => k_is)
    (case g_NoNumber => k_is)
    (case x_NoNumber => k_exc)
    (case k_NoNumber => k_is)
    (case b_NoNumber => k_is)
    (case t_NoNumber => k_is)
    (case i_NoNumber => k_is)
    (case s_NoNumber_NoNumber => first | k_is | rfl)
