import PyProof.Rows.All
import Wide.All
import OpenK.AllK
import Wide.FinOn
import HandS.ForMost
import HandS.ForExc
import HandS.Wide
import HandS.IsInst
import HandS.CallSlots
import HandS.Style
import HandS.TupAny
import HandS.TupMul
import HandS.SortInts
import KE.KTupSum
import KE.GoesEnum
import HandS.More
import HandS.SetFor
import HandS.Conv
import HandS.Text
import KE.KRevSl
import HandS.ExcIs
import HandS.ExcField
import HandS.ExcValue
import KE.KExcIs
import PyProof.ReprRoads
import KE.DataFind
import PyProof.Rows.TupIter
import HandS.Defaults
import HandS.ExcInit
import PySem.Challenge.RW_nudgebest_k34_what_is_told_of_sheets
set_option Elab.async false
set_option linter.all false
set_option maxRecDepth 100000
set_option maxHeartbeats 2000000
/-! The data layer: values as plain data, lists that are changed as cells. -/
namespace DL
open PySem PySem.Spec PyProof.Rows L2
/-- data: what a value is worth, without addresses; raw: a value as it is; key: a tuple of ints and texts, a dict's key -/
inductive D where
  | non | bl (b : Bool) | int (i : Int) | str (x : Str)
  | lst (xs : List D) | tup (xs : List D) | scr (ns : List Int) | raw (v : V) | emp | key (ks : List Key)
mutual
inductive Rep (K : PySem.W.Frag) (H : Hp) : V → D → Prop
  | non : Rep K H .non .non
  | bl (b : Bool) : Rep K H (.bl b) (.bl b)
  | int (i : Int) : Rep K H (.int i) (.int i)
  | str (x : Str) : Rep K H (.str x) (.str x)
  | lst {a : Addr} {xs : List V} {ds : List D} : H a = some (.lst xs) → RepA K H xs ds → Rep K H (.ref a) (.lst ds)
  | tup {a : Addr} {xs : List V} {ds : List D} : SqT K H a xs → RepA K H xs ds → Rep K H (.ref a) (.tup ds)
  | scr {a : Addr} {ns : List Int} : SqL K H a (ns.map V.int) → Rep K H (.ref a) (.scr ns)
  | raw (v : V) : Rep K H v (.raw v)
  | emp {a : Addr} : H a = some (.dK []) → Rep K H (.ref a) .emp
  | key {a : Addr} {ks : List Key} : H a = some (.tup (ks.map kV)) → Rep K H (.ref a) (.key ks)
inductive RepA (K : PySem.W.Frag) (H : Hp) : List V → List D → Prop
  | nil : RepA K H [] []
  | cons {v : V} {vs : List V} {d : D} {ds : List D} : Rep K H v d → RepA K H vs ds → RepA K H (v :: vs) (d :: ds)
end
section
variable {K : PySem.W.Frag} {H H' : Hp}
theorem same_t {a : Addr} {xs : List V} (e : Same H H') (h : SqT K H a xs) : SqT K H' a xs := by
  rcases h with (h | ⟨o, h⟩) | h
  · exact .inl (.inl (e _ _ h))
  · exact .inl (.inr ⟨o, e _ _ h⟩)
  · exact .inr h
mutual
theorem Rep.mono (e : Same H H') : ∀ {v : V} {d : D}, Rep K H v d → Rep K H' v d
  | _, _, .non => .non
  | _, _, .bl b => .bl b
  | _, _, .int i => .int i
  | _, _, .str x => .str x
  | _, _, .lst h r => .lst (e _ _ h) (RepA.mono e r)
  | _, _, .tup h r => .tup (same_t e h) (RepA.mono e r)
  | _, _, .scr h => .scr (e.seq h)
  | _, _, .raw v => .raw v
  | _, _, .emp h => .emp (e _ _ h)
  | _, _, .key h => .key (e _ _ h)
theorem RepA.mono (e : Same H H') : ∀ {vs : List V} {ds : List D}, RepA K H vs ds → RepA K H' vs ds
  | _, _, .nil => .nil
  | _, _, .cons h r => .cons (Rep.mono e h) (RepA.mono e r)
end
theorem RepA.length : ∀ {vs : List V} {ds : List D}, RepA K H vs ds → vs.length = ds.length
  | _, _, .nil => rfl
  | _, _, .cons _ r => congrArg (· + 1) r.length
theorem RepA.get : ∀ {vs : List V} {ds : List D} {i : Nat} {d : D}, RepA K H vs ds → ds[i]? = some d → ∃ v, vs[i]? = some v ∧ Rep K H v d
  | _, _, _, _, .nil, h => by simp at h
  | _, _, 0, _, .cons a _, h => by
    have e := Option.some.inj h
    subst e
    exact ⟨_, rfl, a⟩
  | _, _, i + 1, _, .cons _ r, h => RepA.get (i := i) r h
theorem RepA.append : ∀ {vs ws : List V} {ds es : List D}, RepA K H vs ds → RepA K H ws es → RepA K H (vs ++ ws) (ds ++ es)
  | _, _, _, _, .nil, s => s
  | _, _, _, _, .cons a r, s => .cons a (RepA.append r s)
theorem RepA.one {v : V} {d : D} (h : Rep K H v d) : RepA K H [v] [d] := .cons h .nil
theorem RepA.take : ∀ {vs : List V} {ds : List D} (n : Nat), RepA K H vs ds → RepA K H (vs.take n) (ds.take n)
  | _, _, 0, _ => .nil
  | _, _, _ + 1, .nil => .nil
  | _, _, n + 1, .cons a r => .cons a (RepA.take n r)
theorem RepA.drop : ∀ {vs : List V} {ds : List D} (n : Nat), RepA K H vs ds → RepA K H (vs.drop n) (ds.drop n)
  | _, _, 0, r => r
  | _, _, _ + 1, .nil => .nil
  | _, _, n + 1, .cons _ r => RepA.drop n r
theorem RepA.set {v : V} {d : D} (h : Rep K H v d) : ∀ {vs : List V} {ds : List D} (n : Nat), RepA K H vs ds → RepA K H (vs.set n v) (ds.set n d)
  | _, _, _, .nil => .nil
  | _, _, 0, .cons _ r => .cons h r
  | _, _, n + 1, .cons a r => .cons a (RepA.set h n r)
theorem RepA.ints : ∀ {vs : List V} {ns : List Int}, RepA K H vs (ns.map D.int) → vs = ns.map V.int
  | _, [], r => by cases r; rfl
  | _, n :: ns, r => by
    cases r with
    | cons a r => cases a; rw [RepA.ints r]; rfl
theorem RepA.bls : ∀ {vs : List V} {bs : List Bool}, RepA K H vs (bs.map D.bl) → vs = bs.map V.bl
  | _, [], r => by cases r; rfl
  | _, n :: ns, r => by
    cases r with
    | cons a r => cases a; rw [RepA.bls r]; rfl
end
/-- what stands in a cell: a list, a dict (keys ints and texts; tuples of these), an instance, its own dict, a caught or made error; a dict while it is walked -/
inductive C where
  | lst (ds : List D) | dk (kvs : List (Key × D)) | dt (kvs : List (List Key × D)) | ins (C dx : Addr) (fs : List (Str × D)) | own (x : Addr) | exc (cls : Value) (fs : Option (List (Str × D)))
  | zk (od : Obj) (vs : List (Key × V)) (kvs : List (Key × D)) | zt (od : Obj) (vs : List (List Key × V)) (kvs : List (List Key × D))
def cellL : Option C → Option (List D)
  | some (.lst ds) => some ds
  | _ => none
@[simp] theorem cellL_lst {ds : List D} : cellL (some (.lst ds)) = some ds := rfl
@[simp] theorem cellL_none : cellL none = none := rfl
theorem cellL_some {o : Option C} {ds : List D} (h : cellL o = some ds) : o = some (.lst ds) := by
  cases o with
  | none => cases h
  | some c =>
    cases c with
    | lst es => cases h; rfl
    | _ => cases h
abbrev M := Addr → Option C
def updM (μ : M) (p : Addr) (c : C) : M := fun b => if b = p then some c else μ b
def delM (μ : M) (p : Addr) : M := fun b => if b = p then none else μ b
theorem updM_same {μ : M} {p : Addr} {c : C} : updM μ p c p = some c := by unfold updM; rw [if_pos rfl]
theorem updM_ne {μ : M} {p q : Addr} {c : C} (h : q ≠ p) : updM μ p c q = μ q := by unfold updM; rw [if_neg h]
theorem updM_upd {μ : M} {p : Addr} {c d : C} : updM (updM μ p c) p d = updM μ p d := by funext b; unfold updM; split <;> rfl
theorem ne_fresh {μ : M} {p q : Addr} {c : C} (h : μ p = some c) (h' : μ q = none) : p ≠ q := by
  intro e
  rw [e, h'] at h
  cases h
inductive RepF (K : PySem.W.Frag) (H : Hp) : List (Str × V) → List (Str × D) → Prop
  | nil : RepF K H [] []
  | cons {x : Str} {v : V} {d : D} {vs : List (Str × V)} {ds : List (Str × D)} : Rep K H v d → RepF K H vs ds → RepF K H ((x, v) :: vs) ((x, d) :: ds)
theorem RepF.mono {K : PySem.W.Frag} {H H' : Hp} (e : Same H H') : ∀ {vs : List (Str × V)} {ds : List (Str × D)}, RepF K H vs ds → RepF K H' vs ds
  | _, _, .nil => .nil
  | _, _, .cons h r => .cons (h.mono e) (RepF.mono e r)
inductive RepK (K : PySem.W.Frag) (H : Hp) {κ : Type} : List (κ × V) → List (κ × D) → Prop
  | nil : RepK K H [] []
  | cons {x : κ} {v : V} {d : D} {vs : List (κ × V)} {ds : List (κ × D)} : Rep K H v d → RepK K H vs ds → RepK K H ((x, v) :: vs) ((x, d) :: ds)
theorem RepK.mono {K : PySem.W.Frag} {κ : Type} {H H' : Hp} (e : Same H H') : ∀ {vs : List (κ × V)} {ds : List (κ × D)}, RepK K H vs ds → RepK K H' vs ds
  | _, _, .nil => .nil
  | _, _, .cons h r => .cons (h.mono e) (RepK.mono e r)
/-- an error's object as far as it is known -/
def ExP (cls : Value) (a : Addr) (d : Option Addr) (h : Heap) : Prop := ∃ (oe : Obj) (vs : Array Value), h.get? a = some oe ∧ oe.cls = cls ∧ oe.dict = d ∧ oe.data = .fields vs
/-- the own dict of an exception -/
def XOk (K : PySem.W.Frag) (Hc : Hp) : Option Addr → Option (List (Str × D)) → Prop
  | none, none => True
  | some a, some fs => ∃ vs, Hc a = some (.xd vs) ∧ RepF K Hc vs fs
  | _, _ => False
theorem XOk.mono {K : PySem.W.Frag} {H H' : Hp} (e : Same H H') : ∀ {d : Option Addr} {fs : Option (List (Str × D))}, XOk K H d fs → XOk K H' d fs
  | none, none, _ => True.intro
  | some a, some fs, ⟨vs, h, r⟩ => ⟨vs, e _ _ h, r.mono e⟩
def CellOk (K : PySem.W.Frag) (Hc : Hp) (p : Addr) : C → HO → Prop
  | .lst ds, o => ∃ vs, o = .lst vs ∧ RepA K Hc vs ds
  | .dk kvs, o => ∃ vs, o = .dK vs ∧ RepK K Hc vs kvs
  | .dt kvs, o => ∃ vs, o = .dT vs ∧ RepK K Hc vs kvs
  | .zk od vs kvs, o => o = .frz od (.dK vs) ∧ RepK K Hc vs kvs
  | .zt od vs kvs, o => o = .frz od (.dT vs) ∧ RepK K Hc vs kvs
  | .ins C dx fs, o => ∃ vs, o = .ins C dx vs ∧ RepF K Hc vs fs
  | .own x, o => o = .own x
  | .exc cls fs, o => ∃ φ d, o = .ext φ ∧ (∀ h, φ h → ExP cls p d h) ∧ XOk K Hc d fs
structure Split (K : PySem.W.Frag) (H Hc : Hp) (μ : M) : Prop where
  cell : ∀ p c, μ p = some c → Hc p = none ∧ ∃ o, H p = some o ∧ CellOk K Hc p c o
  rest : ∀ p, μ p = none → H p = Hc p
theorem CellOk.mono {K : PySem.W.Frag} {Hc Hc' : Hp} {p : Addr} (e : Same Hc Hc') : ∀ {c : C} {o : HO}, CellOk K Hc p c o → CellOk K Hc' p c o
  | .lst _, _, ⟨vs, h, r⟩ => ⟨vs, h, r.mono e⟩
  | .dk _, _, ⟨vs, h, r⟩ => ⟨vs, h, r.mono e⟩
  | .dt _, _, ⟨vs, h, r⟩ => ⟨vs, h, r.mono e⟩
  | .zk _ _ _, _, ⟨h, r⟩ => ⟨h, r.mono e⟩
  | .zt _ _ _, _, ⟨h, r⟩ => ⟨h, r.mono e⟩
  | .ins _ _ _, _, ⟨vs, h, r⟩ => ⟨vs, h, r.mono e⟩
  | .own _, _, h => h
  | .exc _ _, _, ⟨φ, d, h1, h2, h3⟩ => ⟨φ, d, h1, h2, h3.mono e⟩
section
variable {K : PySem.W.Frag} {H Hc : Hp} {μ : M}
theorem Split.same (s : Split K H Hc μ) : Same Hc H := fun a o h => by
  cases e : μ a with
  | none => rw [s.rest a e]; exact h
  | some c => rw [(s.cell a c e).1] at h; cases h
theorem Split.fresh (s : Split K H Hc μ) {p : Addr} (h : H p = none) : μ p = none ∧ Hc p = none := by
  cases e : μ p with
  | none => exact ⟨rfl, by rw [← s.rest p e]; exact h⟩
  | some c =>
    obtain ⟨_, o, ho, _⟩ := s.cell p c e
    rw [h] at ho
    cases ho
theorem same_new {Hc : Hp} {p : Addr} {o : HO} (h : Hc p = none) : Same Hc (upd Hc p o) := fun b x e => by
  rw [upd_ne (ne_of_none e h)]
  exact e
/-- a new object that is data -/
theorem Split.data (s : Split K H Hc μ) {p : Addr} {o : HO} (h : H p = none) : Split K (upd H p o) (upd Hc p o) μ := by
  obtain ⟨h1, h2⟩ := s.fresh h
  refine ⟨fun q c e => ?_, fun q e => ?_⟩
  · have ne : q ≠ p := fun z => by rw [z, h1] at e; cases e
    obtain ⟨a, o', b, c'⟩ := s.cell q c e
    exact ⟨by rw [upd_ne ne]; exact a, o', by rw [upd_ne ne]; exact b, c'.mono (same_new h2)⟩
  · by_cases ne : q = p
    · rw [ne, upd_same, upd_same]
    · rw [upd_ne ne, upd_ne ne]
      exact s.rest q e
/-- a new cell -/
theorem Split.new (s : Split K H Hc μ) {p : Addr} {o : HO} {c : C} (h : H p = none) (ok : CellOk K Hc p c o) : Split K (upd H p o) Hc (updM μ p c) := by
  obtain ⟨h1, h2⟩ := s.fresh h
  refine ⟨fun q c' e => ?_, fun q e => ?_⟩
  · by_cases ne : q = p
    · subst ne
      rw [updM_same] at e
      cases e
      exact ⟨h2, o, upd_same, ok⟩
    · rw [updM_ne ne] at e
      rw [upd_ne ne]
      exact s.cell q c' e
  · by_cases ne : q = p
    · subst ne
      rw [updM_same] at e
      cases e
    · rw [updM_ne ne] at e
      rw [upd_ne ne]
      exact s.rest q e
/-- a cell is changed -/
theorem Split.put (s : Split K H Hc μ) {p : Addr} {o : HO} {c c' : C} (h : μ p = some c) (ok : CellOk K Hc p c' o) : Split K (upd H p o) Hc (updM μ p c') := by
  refine ⟨fun q c2 e => ?_, fun q e => ?_⟩
  · by_cases ne : q = p
    · subst ne
      rw [updM_same] at e
      cases e
      exact ⟨(s.cell q c h).1, o, upd_same, ok⟩
    · rw [updM_ne ne] at e
      rw [upd_ne ne]
      exact s.cell q c2 e
  · by_cases ne : q = p
    · subst ne
      rw [updM_same] at e
      cases e
    · rw [updM_ne ne] at e
      rw [upd_ne ne]
      exact s.rest q e
end
/-- fewer cells -/
def Sub (μ μ' : M) : Prop := ∀ p c, μ p = some c → μ' p = some c
theorem Sub.refl (μ : M) : Sub μ μ := fun _ _ h => h
theorem Sub.trans {a b c : M} (h : Sub a b) (k : Sub b c) : Sub a c := fun p x e => k p x (h p x e)
theorem Sub.new {μ : M} {p : Addr} {c : C} (h : μ p = none) : Sub μ (updM μ p c) := fun q x e => by
  rw [updM_ne (ne_fresh e h)]
  exact e
theorem Sub.upd {μ μ' : M} (s : Sub μ μ') {p : Addr} {c : C} : Sub (updM μ p c) (updM μ' p c) := fun q x e => by
  by_cases h : q = p
  · subst h
    rw [updM_same] at e ⊢
    exact e
  · rw [updM_ne h] at e ⊢
    exact s q x e
theorem Sub.put {μ μ' : M} (s : Sub μ μ') {p : Addr} {c : C} (h : μ p = none) : Sub μ (updM μ' p c) := fun q x e => by
  rw [updM_ne (ne_fresh e h)]
  exact s q x e
theorem Sub.del {μ : M} (p : Addr) : Sub (delM μ p) μ := fun q x e => by
  unfold delM at e
  split at e
  · cases e
  · exact e
theorem Sub.fresh {μ μ' : M} (s : Sub μ μ') {p : Addr} (h : μ' p = none) : μ p = none := by
  cases e : μ p with
  | none => rfl
  | some c => rw [s p c e] at h; cases h
/-- cells become data -/
theorem Split.sub {K : PySem.W.Frag} {H Hc : Hp} {μ μ' : M} (s : Split K H Hc μ') (h : Sub μ μ') : ∃ Hc', Same Hc Hc' ∧ Split K H Hc' μ ∧ ∀ p, μ p = none → Hc' p = H p := by
  refine ⟨fun a => match μ a with | none => H a | some _ => none, ?_, ⟨?_, ?_⟩, ?_⟩
  · intro a o e
    show (match μ a with | none => H a | some _ => none) = some o
    cases m : μ a with
    | none => exact s.same a o e
    | some c =>
      rw [(s.cell a c (h a c m)).1] at e
      cases e
  · intro p c e
    obtain ⟨a, o, b, k⟩ := s.cell p c (h p c e)
    refine ⟨by show (match μ p with | none => H p | some _ => none) = none; rw [e], o, b, k.mono ?_⟩
    intro a' o' e'
    show (match μ a' with | none => H a' | some _ => none) = some o'
    cases m : μ a' with
    | none => exact s.same a' o' e'
    | some c' =>
      rw [(s.cell a' c' (h a' c' m)).1] at e'
      cases e'
  · intro p e
    show H p = (match μ p with | none => H p | some _ => none)
    rw [e]
  · intro p e
    show (match μ p with | none => H p | some _ => none) = H p
    rw [e]
/-! ### readings over data -/
abbrev Sl := List (Option D)
abbrev QD := D → M → Prop
/-- an exception: its class, its fields (where it has any), the cells behind it -/
abbrev XD := Value → Option (List (Str × D)) → M → Prop
abbrev DTE := XD → Sl → M → QD → Prop
abbrev DTT := XD → Sl → M → (Bool → M → Prop) → Prop
abbrev DTA := XD → Sl → M → (List D → M → Prop) → Prop
structure DEnds where
  nx : Sl → M → Prop
  rt : QD
  bk : Sl → M → Prop
  ct : Sl → M → Prop
  xc : Sl → XD
abbrev DTS := DEnds → Sl → M → Prop
structure RepS (K : PySem.W.Frag) (H : Hp) (σ : L2.St) (δ : Sl) : Prop where
  len : σ.length = δ.length
  val : ∀ (i : Nat) (d : D), δ[i]? = some (some d) → ∃ v, σ[i]? = some (some v) ∧ Rep K H v d
theorem RepS.mono {K : PySem.W.Frag} {H H' : Hp} {σ : L2.St} {δ : Sl} (e : Same H H') (r : RepS K H σ δ) : RepS K H' σ δ :=
  ⟨r.len, fun i d h => let ⟨v, a, b⟩ := r.val i d h; ⟨v, a, b.mono e⟩⟩
theorem RepS.set {K : PySem.W.Frag} {H : Hp} {σ : L2.St} {δ : Sl} (r : RepS K H σ δ) (i : Nat) {v : V} {d : D} (h : Rep K H v d) : RepS K H (σ.set i (some v)) (δ.set i (some d)) := by
  refine ⟨by rw [List.length_set, List.length_set]; exact r.len, fun j e hj => ?_⟩
  by_cases ij : i = j
  · subst ij
    by_cases hl : i < δ.length
    · rw [List.getElem?_set_self hl] at hj
      cases hj
      exact ⟨v, by rw [List.getElem?_set_self (by rw [r.len]; exact hl)], h⟩
    · rw [List.getElem?_eq_none (by rw [List.length_set]; omega)] at hj
      cases hj
  · rw [List.getElem?_set_ne ij] at hj
    obtain ⟨u, a, b⟩ := r.val j e hj
    exact ⟨u, by rw [List.getElem?_set_ne ij]; exact a, b⟩
theorem RepS.unset {K : PySem.W.Frag} {H : Hp} {σ : L2.St} {δ : Sl} (r : RepS K H σ δ) (i : Nat) (x : Option V) : RepS K H (σ.set i x) (δ.set i none) := by
  refine ⟨by rw [List.length_set, List.length_set]; exact r.len, fun j e hj => ?_⟩
  by_cases ij : i = j
  · subst ij
    by_cases hl : i < δ.length
    · rw [List.getElem?_set_self hl] at hj
      cases hj
    · rw [List.getElem?_eq_none (by rw [List.length_set]; omega)] at hj
      cases hj
  · rw [List.getElem?_set_ne ij] at hj
    obtain ⟨u, a, b⟩ := r.val j e hj
    exact ⟨u, by rw [List.getElem?_set_ne ij]; exact a, b⟩
/-- what is wanted of a value, from what is wanted of its data -/
def Ret (K : PySem.W.Frag) (Hc : Hp) (Qd : QD) (Q : VK) : Prop := ∀ d μ', Qd d μ' → ∀ v H' Hc', Same Hc Hc' → Split K H' Hc' μ' → Rep K Hc' v d → Q v H'
def RetA (K : PySem.W.Frag) (Hc : Hp) (Qd : List D → M → Prop) (Q : List V → Hp → Prop) : Prop := ∀ ds μ', Qd ds μ' → ∀ vs H' Hc', Same Hc Hc' → Split K H' Hc' μ' → RepA K Hc' vs ds → Q vs H'
def RetT (K : PySem.W.Frag) (Hc : Hp) (Qd : Bool → M → Prop) (Q : Bool → Hp → Prop) : Prop := ∀ b μ', Qd b μ' → ∀ H' Hc', Same Hc Hc' → Split K H' Hc' μ' → Q b H'
def RetN (K : PySem.W.Frag) (Hc : Hp) (Qd : Sl → M → Prop) (Q : L2.St → Hp → Prop) : Prop := ∀ δ μ', Qd δ μ' → ∀ σ H' Hc', Same Hc Hc' → Split K H' Hc' μ' → RepS K Hc' σ δ → Q σ H'
def RetX (K : PySem.W.Frag) (Hc : Hp) (Xd : XD) (E : XK) : Prop := ∀ cls fs μ', Xd cls fs μ' → ∀ d H' Hc', Same Hc Hc' → Split K H' Hc' μ' → XOk K Hc' d fs → E cls d H'
def RetW (K : PySem.W.Frag) (Hc : Hp) (Wd : Sl → XD) (W : WX) : Prop := ∀ δ cls fs μ', Wd δ cls fs μ' → ∀ σ d H' Hc', Same Hc Hc' → Split K H' Hc' μ' → RepS K Hc' σ δ → XOk K Hc' d fs → W cls d σ H'
section
variable {K : PySem.W.Frag} {Hc Hc' : Hp}
theorem Ret.mono {Qd : QD} {Q : VK} (e : Same Hc Hc') (r : Ret K Hc Qd Q) : Ret K Hc' Qd Q := fun d μ h v H H2 s => r d μ h v H H2 (e.trans s)
theorem RetT.mono {Qd : Bool → M → Prop} {Q : Bool → Hp → Prop} (e : Same Hc Hc') (r : RetT K Hc Qd Q) : RetT K Hc' Qd Q := fun d μ h H H2 s => r d μ h H H2 (e.trans s)
theorem RetA.mono {Qd : List D → M → Prop} {Q : List V → Hp → Prop} (e : Same Hc Hc') (r : RetA K Hc Qd Q) : RetA K Hc' Qd Q := fun d μ h v H H2 s => r d μ h v H H2 (e.trans s)
theorem RetN.mono {Qd : Sl → M → Prop} {Q : L2.St → Hp → Prop} (e : Same Hc Hc') (r : RetN K Hc Qd Q) : RetN K Hc' Qd Q := fun d μ h v H H2 s => r d μ h v H H2 (e.trans s)
theorem RetX.mono {Xd : XD} {E : XK} (e : Same Hc Hc') (r : RetX K Hc Xd E) : RetX K Hc' Xd E := fun c f μ h d H H2 s => r c f μ h d H H2 (e.trans s)
theorem RetW.mono {Wd : Sl → XD} {W : WX} (e : Same Hc Hc') (r : RetW K Hc Wd W) : RetW K Hc' Wd W := fun δ c f μ h σ d H H2 s => r δ c f μ h σ d H H2 (e.trans s)
theorem RetW.at {Wd : Sl → XD} {W : WX} {σ : L2.St} {δ : Sl} (r : RetW K Hc Wd W) (rs : RepS K Hc σ δ) : RetX K Hc (Wd δ) (fun cls d H => W cls d σ H) :=
  fun cls fs μ' h d H' Hc' e s x => r δ cls fs μ' h σ d H' Hc' e s (rs.mono e) x
end
def upE (K : PySem.W.Frag) (W : WX) (t : DTE) : TE := fun σ H Q => ∃ δ μ Hc Qd Xd, Split K H Hc μ ∧ RepS K Hc σ δ ∧ t Xd δ μ Qd ∧ Ret K Hc Qd Q ∧ RetX K Hc Xd (fun cls d H => W cls d σ H)
def upT (K : PySem.W.Frag) (W : WX) (t : DTT) : TT := fun σ H Q => ∃ δ μ Hc Qd Xd, Split K H Hc μ ∧ RepS K Hc σ δ ∧ t Xd δ μ Qd ∧ RetT K Hc Qd Q ∧ RetX K Hc Xd (fun cls d H => W cls d σ H)
def upA (K : PySem.W.Frag) (W : WX) (t : DTA) : TA := fun σ H Q => ∃ δ μ Hc Qd Xd, Split K H Hc μ ∧ RepS K Hc σ δ ∧ t Xd δ μ Qd ∧ RetA K Hc Qd Q ∧ RetX K Hc Xd (fun cls d H => W cls d σ H)
structure RetE (K : PySem.W.Frag) (Hc : Hp) (Dd : DEnds) (W : WX) (D : Ends) : Prop where
  nx : RetN K Hc Dd.nx D.nx
  rt : Ret K Hc Dd.rt D.rt
  bk : RetN K Hc Dd.bk D.bk
  ct : RetN K Hc Dd.ct D.ct
  xc : RetW K Hc Dd.xc W
theorem RetE.mono {K : PySem.W.Frag} {Hc Hc' : Hp} {Dd : DEnds} {W : WX} {D : Ends} (e : Same Hc Hc') (r : RetE K Hc Dd W D) : RetE K Hc' Dd W D := ⟨r.nx.mono e, r.rt.mono e, r.bk.mono e, r.ct.mono e, r.xc.mono e⟩
def upS (K : PySem.W.Frag) (W : WX) (t : DTS) : TS := fun D σ H => ∃ δ μ Hc Dd, Split K H Hc μ ∧ RepS K Hc σ δ ∧ t Dd δ μ ∧ RetE K Hc Dd W D
def DE (X : Cx) (W : WX) (e : Expr) (t : DTE) : Prop := PE X e (upE X.K W t)
def DT (X : Cx) (W : WX) (e : Expr) (t : DTT) : Prop := PT X e (upT X.K W t)
def DW (X : Cx) (W : WX) (e : Expr) (t : DTT) : Prop := PW X e (upT X.K W t)
def DA (X : Cx) (W : WX) (es : List Expr) (t : DTA) : Prop := PA X es (upA X.K W t)
def DS (X : Cx) (W : WX) (s : Stmt) (t : DTS) : Prop := PS X s (upS X.K W t)
def DSs (X : Cx) (W : WX) (ss : List Stmt) (t : DTS) : Prop := PSs X ss (upS X.K W t)
section
variable {X : Cx}
theorem PE.imp {e : Expr} {t t' : TE} (h : PE X e t) (i : ∀ σ H Q, t' σ H Q → t σ H Q) : PE X e t' := ⟨fun pins s σ H Q I w => h.run pins s σ H Q I (i σ H Q w)⟩
theorem PT.imp {e : Expr} {t t' : TT} (h : PT X e t) (i : ∀ σ H Q, t' σ H Q → t σ H Q) : PT X e t' := ⟨fun pins s σ H Q I w => h.run pins s σ H Q I (i σ H Q w)⟩
theorem PW.imp {e : Expr} {t t' : TT} (h : PW X e t) (i : ∀ σ H Q, t' σ H Q → t σ H Q) : PW X e t' := ⟨fun wh pins s σ H Q I w => h.run wh pins s σ H Q I (i σ H Q w)⟩
theorem PA.imp {es : List Expr} {t t' : TA} (h : PA X es t) (i : ∀ σ H Q, t' σ H Q → t σ H Q) : PA X es t' := ⟨fun pos pins s σ H Q I w => h.run pos pins s σ H Q I (i σ H Q w)⟩
theorem PS.imp {s : Stmt} {t t' : TS} (h : PS X s t) (i : ∀ D σ H, t' D σ H → t D σ H) : PS X s t' := ⟨fun pins s σ H D I w => h.run pins s σ H D I (i D σ H w)⟩
theorem PSs.imp {s : List Stmt} {t t' : TS} (h : PSs X s t) (i : ∀ D σ H, t' D σ H → t D σ H) : PSs X s t' := ⟨fun pins s σ H D I w => h.run pins s σ H D I (i D σ H w)⟩
end
/-- one of two ways -/
def ifB (b : Bool) (A B : Prop) : Prop := match b with
  | true => A
  | false => B
@[simp] theorem ifB_true {A B : Prop} : ifB true A B = A := rfl
@[simp] theorem ifB_false {A B : Prop} : ifB false A B = B := rfl
def OptP {α : Type} (o : Option α) (P : α → Prop) : Prop := match o with
  | some x => P x
  | none => False
theorem OptP.ex {α : Type} {o : Option α} {P : α → Prop} (h : OptP o P) : ∃ x, o = some x ∧ P x := by
  cases o with
  | none => exact h.elim
  | some x => exact ⟨x, rfl, h⟩
theorem OptP.of {α : Type} {o : Option α} {P : α → Prop} {x : α} (e : o = some x) (h : P x) : OptP o P := by rw [e]; exact h
@[simp] theorem OptP_some {α : Type} {x : α} {P : α → Prop} : OptP (some x) P = P x := rfl
/-- a value that is there -/
def OptQ (o : Option D) (Q : QD) (μ : M) : Prop := match o with
  | some d => Q d μ
  | none => False
theorem OptQ.ex {o : Option D} {Q : QD} {μ : M} (h : OptQ o Q μ) : ∃ x, o = some x ∧ Q x μ := by
  cases o with
  | none => exact h.elim
  | some x => exact ⟨x, rfl, h⟩
theorem OptQ.of {o : Option D} {Q : QD} {μ : M} {x : D} (e : o = some x) (h : Q x μ) : OptQ o Q μ := by rw [e]; exact h
@[simp] theorem OptQ_some {x : D} {Q : QD} {μ : M} : OptQ (some x) Q μ = Q x μ := rfl
def OptB (o : Option Bool) (Q : Bool → M → Prop) (μ : M) : Prop := match o with
  | some d => Q d μ
  | none => False
theorem OptB.ex {o : Option Bool} {Q : Bool → M → Prop} {μ : M} (h : OptB o Q μ) : ∃ x, o = some x ∧ Q x μ := by
  cases o with
  | none => exact h.elim
  | some x => exact ⟨x, rfl, h⟩
theorem OptB.of {o : Option Bool} {Q : Bool → M → Prop} {μ : M} {x : Bool} (e : o = some x) (h : Q x μ) : OptB o Q μ := by rw [e]; exact h
@[simp] theorem OptB_some {x : Bool} {Q : Bool → M → Prop} {μ : M} : OptB (some x) Q μ = Q x μ := rfl
/-! ### the cell behind a reference, read -/
def dK : Key → D
  | .inl i => .int i
  | .inr x => .str x
theorem rep_keys {K : PySem.W.Frag} {H : Hp} : ∀ ks : List Key, RepA K H (ks.map kV) (ks.map dK)
  | [] => .nil
  | .inl i :: ks => .cons (.int i) (rep_keys ks)
  | .inr x :: ks => .cons (.str x) (rep_keys ks)
def view (μ : M) : D → D
  | .key ks => .tup (ks.map dK)
  | .raw (.ref p) => match cellL (μ p) with
    | some ds => .lst ds
    | none => .raw (.ref p)
  | d => d
theorem view_ref {μ : M} {p : Addr} : view μ (.raw (.ref p)) = (match cellL (μ p) with | some ds => D.lst ds | none => .raw (.ref p)) := rfl
theorem view_refs {μ : M} {p : Addr} {d : D} (h : view μ (.raw (.ref p)) = d) : (∃ ds, μ p = some (.lst ds) ∧ d = .lst ds) ∨ d = .raw (.ref p) := by
  rw [view_ref] at h
  cases e : cellL (μ p) with
  | none => rw [e] at h; exact .inr h.symm
  | some ds => rw [e] at h; exact .inl ⟨ds, cellL_some e, h.symm⟩
section
variable {K : PySem.W.Frag} {H Hc : Hp} {μ : M} {v : V} {d : D}
theorem view_lst {ds : List D} (s : Split K H Hc μ) (r : Rep K Hc v d) (h : view μ d = .lst ds) : ∃ a vs, v = .ref a ∧ H a = some (.lst vs) ∧ RepA K Hc vs ds := by
  cases r with
  | lst hs ha =>
    cases (show D.lst _ = D.lst ds from h)
    exact ⟨_, _, rfl, s.same _ _ hs, ha⟩
  | raw =>
    cases v with
    | ref p =>
      rcases view_refs h with ⟨es, e, h'⟩ | h'
      · cases h'
        obtain ⟨_, o, ho, vs, rfl, ra⟩ := s.cell p _ e
        exact ⟨p, vs, rfl, ho, ra⟩
      · cases h'
    | _ => cases h
  | _ => cases h
theorem view_tup {ds : List D} (s : Split K H Hc μ) (r : Rep K Hc v d) (h : view μ d = .tup ds) : ∃ a vs, v = .ref a ∧ SqT K H a vs ∧ RepA K Hc vs ds := by
  cases r with
  | tup hs ha =>
    cases (show D.tup _ = D.tup ds from h)
    exact ⟨_, _, rfl, same_t s.same hs, ha⟩
  | key hs =>
    cases (show D.tup _ = D.tup ds from h)
    exact ⟨_, _, rfl, SqT.of (s.same _ _ hs), rep_keys _⟩
  | raw =>
    cases v with
    | ref p =>
      rcases view_refs h with ⟨es, e, h'⟩ | h' <;> cases h'
    | _ => cases h
  | _ => cases h
theorem view_int {i : Int} (r : Rep K Hc v d) (h : view μ d = .int i) : v = .int i := by
  cases r with
  | int j => cases (show D.int _ = D.int i from h); rfl
  | raw =>
    cases v with
    | ref p =>
      rcases view_refs h with ⟨es, e, h'⟩ | h' <;> cases h'
    | _ => cases h
  | _ => cases h
theorem view_str {x : Str} (r : Rep K Hc v d) (h : view μ d = .str x) : v = .str x := by
  cases r with
  | str j => cases (show D.str _ = D.str x from h); rfl
  | raw =>
    cases v with
    | ref p =>
      rcases view_refs h with ⟨es, e, h'⟩ | h' <;> cases h'
    | _ => cases h
  | _ => cases h
theorem view_scr {ns : List Int} (s : Split K H Hc μ) (r : Rep K Hc v d) (h : view μ d = .scr ns) : ∃ a, v = .ref a ∧ SqL K H a (ns.map V.int) := by
  cases r with
  | scr hs => cases (show D.scr _ = D.scr ns from h); exact ⟨_, rfl, s.same.seq hs⟩
  | raw =>
    cases v with
    | ref p =>
      rcases view_refs h with ⟨es, e, h'⟩ | h' <;> cases h'
    | _ => cases h
  | _ => cases h
end
end DL
set_option Elab.async false
set_option linter.all false
set_option maxRecDepth 100000
set_option maxHeartbeats 2000000
/-! The data layer: expressions. -/
namespace DL
open PySem PySem.Spec L2
theorem view_rep {K : PySem.W.Frag} {H Hc : Hp} {μ : M} {v : V} {d : D} (s : Split K H Hc μ) (r : Rep K Hc v d) : Rep K H v (view μ d) := by
  cases r with
  | raw =>
    cases v with
    | ref p =>
      rcases view_refs (μ := μ) (p := p) rfl with ⟨es, e, h'⟩ | h'
      · rw [h']
        obtain ⟨_, o, ho, vs, rfl, ra⟩ := s.cell p _ e
        exact .lst ho (ra.mono s.same)
      · rw [h']
        exact .raw _
    | _ => exact .raw _
  | non => exact .non
  | bl b => exact .bl b
  | int i => exact .int i
  | str x => exact .str x
  | lst h a => exact .lst (s.same _ _ h) (a.mono s.same)
  | tup h a => exact .tup (same_t s.same h) (a.mono s.same)
  | scr h => exact .scr (s.same.seq h)
  | emp h => exact .emp (s.same _ _ h)
  | key h => exact .tup (SqT.of (s.same _ _ h)) (rep_keys _)
@[simp] theorem view_non {μ : M} : view μ .non = .non := rfl
@[simp] theorem view_bl {μ : M} {b} : view μ (.bl b) = .bl b := rfl
@[simp] theorem view_int' {μ : M} {i} : view μ (.int i) = .int i := rfl
@[simp] theorem view_str' {μ : M} {i} : view μ (.str i) = .str i := rfl
@[simp] theorem view_lst' {μ : M} {i} : view μ (.lst i) = .lst i := rfl
@[simp] theorem view_tup' {μ : M} {i} : view μ (.tup i) = .tup i := rfl
@[simp] theorem view_emp' {μ : M} : view μ .emp = .emp := rfl
@[simp] theorem view_key' {μ : M} {ks : List Key} : view μ (.key ks) = .tup (ks.map dK) := rfl
@[simp] theorem view_scr' {μ : M} {i} : view μ (.scr i) = .scr i := rfl
theorem view_cell {μ : M} {p : Addr} {ds : List D} (h : μ p = some (.lst ds)) : view μ (.raw (.ref p)) = .lst ds := by
  rw [view_ref, h]
  rfl
theorem Ret.new {K : PySem.W.Frag} {H Hc : Hp} {μ : M} {Qd : QD} {Q : VK} {vs : List V} {ds : List D} (rt : Ret K Hc Qd Q) (s : Split K H Hc μ) (ra : RepA K Hc vs ds) (q : Qd (.lst ds) μ) : ∀ p, H p = none → Q (.ref p) (upd H p (.lst vs)) := fun p hp => by
  have f := (s.fresh hp).2
  exact rt _ _ q _ _ (upd Hc p (.lst vs)) (same_new f) (s.data hp) (.lst upd_same (ra.mono (same_new f)))
theorem Ret.newT {K : PySem.W.Frag} {H Hc : Hp} {μ : M} {Qd : QD} {Q : VK} {vs : List V} {ds : List D} (rt : Ret K Hc Qd Q) (s : Split K H Hc μ) (ra : RepA K Hc vs ds) (q : Qd (.tup ds) μ) : ∀ p, H p = none → Q (.ref p) (upd H p (.tup vs)) := fun p hp => by
  have f := (s.fresh hp).2
  exact rt _ _ q _ _ (upd Hc p (.tup vs)) (same_new f) (s.data hp) (.tup (.inl (.inl upd_same)) (ra.mono (same_new f)))
theorem Ret.newC {K : PySem.W.Frag} {H Hc : Hp} {μ : M} {Qd : QD} {Q : VK} {vs : List V} {ds : List D} (rt : Ret K Hc Qd Q) (s : Split K H Hc μ) (ra : RepA K Hc vs ds) (q : ∀ p, μ p = none → Qd (.raw (.ref p)) (updM μ p (.lst ds))) : ∀ p, H p = none → Q (.ref p) (upd H p (.lst vs)) := fun p hp =>
  rt _ _ (q p (s.fresh hp).1) _ _ Hc (Same.refl Hc) (s.new hp ⟨vs, rfl, ra⟩) (.raw _)
theorem Ret.val {K : PySem.W.Frag} {H Hc : Hp} {μ : M} {Qd : QD} {Q : VK} {v : V} {d : D} (rt : Ret K Hc Qd Q) (s : Split K H Hc μ) (r : Rep K Hc v d) (q : Qd d μ) : Q v H := rt _ _ q _ _ Hc (Same.refl Hc) s r
/-! ### two operands -/
abbrev DR2 := D → D → M → QD → Prop
def LOp (K : PySem.W.Frag) (r : R2) (g : DR2) : Prop := ∀ (x y : V) (d e : D) (H Hc : Hp) (μ : M) (Q : VK) (Qd : QD), Split K H Hc μ → Rep K Hc x d → Rep K Hc y e → g d e μ Qd → Ret K Hc Qd Q → r x y H Q
def kOp2 (g : DR2) (x : D) (Q : QD) (y : D) (μ : M) : Prop := g x y μ Q
def kOp1 (g : DR2) (tb : DTE) (W : XD) (δ : Sl) (Q : QD) (x : D) (μ : M) : Prop := tb W δ μ (kOp2 g x Q)
def dOp (g : DR2) (ta tb : DTE) (W : XD) (δ : Sl) (μ : M) (Q : QD) : Prop := ta W δ μ (kOp1 g tb W δ Q)
theorem lift2 {K : PySem.W.Frag} {W : WX} {r : R2} {g : DR2} {ta tb : DTE} (l : LOp K r g) : ∀ σ H Q, upE K W (dOp g ta tb) σ H Q → tOp r (upE K W ta) (upE K W tb) σ H Q :=
  fun σ H Q ⟨δ, μ, Hc, Qd, Xd, s, rs, h, rt, rx⟩ => ⟨δ, μ, Hc, _, Xd, s, rs, h, fun x μ1 h1 v H1 Hc1 e1 s1 r1 =>
    ⟨δ, μ1, Hc1, _, Xd, s1, rs.mono e1, h1, fun y μ2 h2 w H2 Hc2 e2 s2 r2 => l v w x y H2 Hc2 μ2 Q Qd s2 (r1.mono e2) r2 h2 (rt.mono (e1.trans e2)), rx.mono e1⟩, rx⟩
theorem OpR.or {X : Cx} {f : Value → Value → Sem Value} {r1 r2 : R2} (h1 : OpR X f r1) (h2 : OpR X f r2) : OpR X f (fun x y H Q => r1 x y H Q ∨ r2 x y H Q) :=
  fun pins s σ H x y v u Q I rx ry h => h.elim (h1 pins s σ H x y v u Q I rx ry) (h2 pins s σ H x y v u Q I rx ry)
def gAdd : DR2 := fun a b μ Q => match view μ a, view μ b with
  | .int i, .int j => Q (.int (i + j)) μ
  | .str x, .str y => x.length + y.length ≤ sizeLine ∧ Q (.str (x ++ y)) μ
  | .lst xs, .lst ys => xs.length + ys.length ≤ sizeLine ∧ Q (.lst (xs ++ ys)) μ
  | .tup xs, .tup ys => xs.length + ys.length ≤ sizeLine ∧ Q (.tup (xs ++ ys)) μ
  | _, _ => False
/-- ints alone -/
def gI (c : Int → Int → Prop) (f : Int → Int → D) : DR2 := fun a b μ Q => match view μ a, view μ b with
  | .int i, .int j => c i j ∧ Q (f i j) μ
  | _, _ => False
def gI0 (f : Int → Int → D) : DR2 := fun a b μ Q => match view μ a, view μ b with
  | .int i, .int j => Q (f i j) μ
  | _, _ => False
def gMul : DR2 := fun a b μ Q => match view μ a, view μ b with
  | .int i, .int j => IntMulOk i j ∧ Q (.int (i * j)) μ
  | .lst xs, .int k => (-(2 ^ 63) ≤ k ∧ k < 2 ^ 63 ∧ xs.length * k.toNat ≤ sizeLine) ∧ Q (.lst (List.replicate k.toNat xs).flatten) μ
  | .tup xs, .int k => (xs ≠ [] ∧ 2 ≤ k ∧ k ≤ 1000 ∧ xs.length ≤ 1000) ∧ Q (.tup (List.replicate k.toNat xs).flatten) μ
  | _, _ => False
section
variable {K : PySem.W.Frag}
theorem RepA.rep {H : Hp} {xs : List V} {us : List D} (h : RepA K H xs us) : ∀ k : Nat, RepA K H (List.replicate k xs).flatten (List.replicate k us).flatten
  | 0 => .nil
  | k + 1 => by
    rw [List.replicate_succ, List.replicate_succ, List.flatten_cons, List.flatten_cons]
    exact RepA.append h (RepA.rep h k)
theorem l_I {c : Int → Int → Prop} {fv : Int → Int → V} {f : Int → Int → D} (hf : ∀ H i j, Rep K H (fv i j) (f i j)) : LOp K (rI c fv) (gI c f) := by
  intro x y d e H Hc μ Q Qd s rx ry h rt
  unfold gI at h
  split at h
  · rename_i i j e1 e2
    exact ⟨i, j, view_int rx e1, view_int ry e2, h.1, rt.val s (hf _ _ _) h.2⟩
  · exact h.elim
theorem l_I0 {fv : Int → Int → V} {f : Int → Int → D} (hf : ∀ H i j, Rep K H (fv i j) (f i j)) : LOp K (rI0 fv) (gI0 f) := by
  intro x y d e H Hc μ Q Qd s rx ry h rt
  unfold gI0 at h
  split at h
  · rename_i i j e1 e2
    exact ⟨i, j, view_int rx e1, view_int ry e2, rt.val s (hf _ _ _) h⟩
  · exact h.elim
def rAddAll (K : PySem.W.Frag) : R2 := fun x y H Q => ((rI0 fun i j => .int (i + j)) x y H Q ∨ (fun x y H Q => ∃ i j, x = V.str i ∧ y = .str j ∧ i.length + j.length ≤ sizeLine ∧ Q (.str (i ++ j)) H) x y H Q) ∨ (rCat x y H Q ∨ rCatA K x y H Q)
theorem l_add : LOp K (rAddAll K) gAdd := by
  intro x y d e H Hc μ Q Qd s rx ry h rt
  unfold gAdd at h
  split at h
  · rename_i i j e1 e2
    exact .inl (.inl ⟨i, j, view_int rx e1, view_int ry e2, rt.val s (.int _) h⟩)
  · rename_i i j e1 e2
    exact .inl (.inr ⟨i, j, view_str rx e1, view_str ry e2, h.1, rt.val s (.str _) h.2⟩)
  · rename_i xs ys e1 e2
    obtain ⟨a, vs, rfl, ha, ra⟩ := view_lst s rx e1
    obtain ⟨b, ws, rfl, hb, rb⟩ := view_lst s ry e2
    exact .inr (.inl ⟨a, b, vs, ws, rfl, rfl, ha, hb, by rw [ra.length, rb.length]; exact h.1, rt.new s (ra.append rb) h.2⟩)
  · rename_i xs ys e1 e2
    have own : ∀ {v : V} {d : D} {zs : List D}, Rep K Hc v d → view μ d = .tup zs → Rep K Hc v (.tup zs) := fun {v d zs} r e => by
      cases r with
      | tup h3 h4 =>
        cases (show D.tup _ = D.tup _ from e)
        exact .tup h3 h4
      | key h3 =>
        cases (show D.tup _ = D.tup _ from e)
        exact .tup (SqT.of h3) (rep_keys _)
      | raw =>
        exfalso
        cases v with
        | ref a =>
          rcases view_refs e with ⟨es, _, h'⟩ | h' <;> cases h'
        | _ => cases e
      | _ => cases e
    have o1 := own rx e1
    have o2 := own ry e2
    obtain ⟨a, vs, rfl, ha, ra⟩ := view_tup s rx e1
    obtain ⟨b, ws, rfl, hb, rb⟩ := view_tup s ry e2
    refine .inr (.inr ⟨a, b, vs, ws, rfl, rfl, ha, hb, by rw [ra.length, rb.length]; exact h.1, fun z => ?_, fun _ z => ?_, fun _ _ => rt.newT s (ra.append rb) h.2⟩)
    · subst z
      cases ra
      rw [List.nil_append] at h
      exact rt.val s o2 h.2
    · subst z
      cases rb
      rw [List.append_nil] at h
      exact rt.val s o1 h.2
  · exact h.elim
def rMulAll (K : PySem.W.Frag) : R2 := fun x y H Q => (rI IntMulOk fun i j => .int (i * j)) x y H Q ∨ (rRep x y H Q ∨ rRepT K x y H Q)
theorem l_mul : LOp K (rMulAll K) gMul := by
  intro x y d e H Hc μ Q Qd s rx ry h rt
  unfold gMul at h
  split at h
  · rename_i i j e1 e2
    exact .inl ⟨i, j, view_int rx e1, view_int ry e2, h.1, rt.val s (.int _) h.2⟩
  · rename_i xs k e1 e2
    obtain ⟨a, vs, rfl, ha, ra⟩ := view_lst s rx e1
    exact .inr (.inl ⟨a, k, vs, rfl, view_int ry e2, ha, h.1.1, h.1.2.1, by rw [ra.length]; exact h.1.2.2, rt.new s (ra.rep _) h.2⟩)
  · rename_i xs k e1 e2
    obtain ⟨a, vs, rfl, ha, ra⟩ := view_tup s rx e1
    refine .inr (.inr ⟨a, k, vs, rfl, view_int ry e2, ha, fun z => ?_, h.1.2.1, h.1.2.2.1, by rw [ra.length]; exact h.1.2.2.2, rt.newT s (ra.rep _) h.2⟩)
    subst z
    cases ra
    exact h.1.1 rfl
  · exact h.elim
end
theorem op_addAll {X : Cx} : OpR X (binaryOp .Add) (rAddAll X.K) := (op_add.or op_add_str).or (op_cat.or op_catA)
theorem op_mulAll {X : Cx} : OpR X (binaryOp .Mult) (rMulAll X.K) :=
  OpR.or (opI fun _ _ _ _ _ _ _ hc q => PyProof.Rows.mul_int q hc) (OpR.or op_rep op_repT)
def CDivD (i j : Int) : Prop := j ≠ 0 ∧ Builtin.divisionGoesByPylong i j = false
theorem op_fdivD {X : Cx} : OpR X (binaryOp .FloorDiv) (rI CDivD fun i j => .int (i.fdiv j)) := opI fun _ _ _ _ _ _ _ hc q => PyProof.Rows.floordiv_int hc.1 q (.inl hc.2)
/-! ### equality of data -/
mutual
def toP : D → PyData
  | .non => .none
  | .bl b => .bool b
  | .int i => .int i
  | .str x => .str x
  | .lst xs => .list (toPs xs)
  | .tup xs => .tuple (toPs xs)
  | .scr _ => .none
  | .raw _ => .none
  | .emp => .none
  | .key _ => .none
def toPs : List D → List PyData
  | [] => []
  | x :: xs => toP x :: toPs xs
end
def okN : Nat → D → Bool
  | _, .non => true
  | _, .bl _ => true
  | _, .int _ => true
  | _, .str x => PyData.strOk x
  | n + 1, .lst xs => xs.all (okN n)
  | n + 1, .tup xs => xs.all (okN n)
  | _, _ => false
def eqD (a b : D) : Bool := PyData.eqv (toP a) (toP b)
mutual
theorem dp_of {K : PySem.W.Frag} {H : Hp} : ∀ {n : Nat} {v : V} {d : D}, okN n d = true → Rep K H v d → Dp K H v (toP d)
  | _, _, _, _, .non => .non
  | _, _, _, _, .bl b => .bl b
  | _, _, _, _, .int i => .int i
  | _, _, _, _, .str x => .str x
  | n + 1, _, _, h, .lst a r => .lst (.inl (.inl a)) (dps_of (n := n) (by simpa [okN] using h) r)
  | n + 1, _, _, h, .tup a r => .tup a (dps_of (n := n) (by simpa [okN] using h) r)
  | 0, _, _, h, .lst a r => by simp [okN] at h
  | 0, _, _, h, .tup a r => by simp [okN] at h
  | n, _, _, h, .scr a => by cases n <;> simp [okN] at h
  | n, v, _, h, .raw _ => by cases n <;> simp [okN] at h
  | n, _, _, h, .emp _ => by cases n <;> simp [okN] at h
  | n, _, _, h, .key _ => by cases n <;> simp [okN] at h
theorem dps_of {K : PySem.W.Frag} {H : Hp} : ∀ {n : Nat} {vs : List V} {ds : List D}, (∀ d ∈ ds, okN n d = true) → RepA K H vs ds → DpAll K H vs (toPs ds)
  | _, _, _, _, .nil => .nil
  | n, _, _, h, .cons a r => .cons (dp_of (h _ List.mem_cons_self) a) (dps_of (fun d hd => h d (List.mem_cons_of_mem _ hd)) r)
end
theorem okN_lay : ∀ (n : Nat) (d : D), okN n d = true → (toP d).canLay0 = true ∧ (toP d).depth ≤ n
  | n, .non, _ => by simp [toP, PyData.canLay0, PyData.depth]
  | n, .bl _, _ => by simp [toP, PyData.canLay0, PyData.depth]
  | n, .int _, _ => by simp [toP, PyData.canLay0, PyData.depth]
  | n, .str x, h => by
    have h' : PyData.strOk x = true := by cases n <;> simpa [okN] using h
    simp [toP, PyData.canLay0, PyData.depth, h']
  | 0, .lst xs, h => by simp [okN] at h
  | 0, .tup xs, h => by simp [okN] at h
  | n, .scr _, h => by cases n <;> simp [okN] at h
  | n, .raw _, h => by cases n <;> simp [okN] at h
  | n, .emp, h => by cases n <;> simp [okN] at h
  | n, .key _, h => by cases n <;> simp [okN] at h
  | n + 1, .lst xs, h => by
    have h' : ∀ d ∈ xs, okN n d = true := by simpa [okN] using h
    have key : ∀ ys : List D, (∀ d ∈ ys, okN n d = true) → PyData.canLayAll0 (toPs ys) = true ∧ PyData.depthAll (toPs ys) ≤ n := by
      intro ys
      induction ys with
      | nil => intro _; simp [toPs, PyData.canLayAll0, PyData.depthAll]
      | cons y ys ih =>
        intro hy
        have a := okN_lay n y (hy y List.mem_cons_self)
        have b := ih fun d hd => hy d (List.mem_cons_of_mem _ hd)
        simp only [toPs, PyData.canLayAll0, PyData.depthAll]
        exact ⟨by rw [a.1, b.1]; rfl, by omega⟩
    have z := key xs h'
    simp only [toP, PyData.canLay0, PyData.depth]
    exact ⟨z.1, by omega⟩
  | n + 1, .tup xs, h => by
    have h' : ∀ d ∈ xs, okN n d = true := by simpa [okN] using h
    have key : ∀ ys : List D, (∀ d ∈ ys, okN n d = true) → PyData.canLayAll0 (toPs ys) = true ∧ PyData.depthAll (toPs ys) ≤ n := by
      intro ys
      induction ys with
      | nil => intro _; simp [toPs, PyData.canLayAll0, PyData.depthAll]
      | cons y ys ih =>
        intro hy
        have a := okN_lay n y (hy y List.mem_cons_self)
        have b := ih fun d hd => hy d (List.mem_cons_of_mem _ hd)
        simp only [toPs, PyData.canLayAll0, PyData.depthAll]
        exact ⟨by rw [a.1, b.1]; rfl, by omega⟩
    have z := key xs h'
    simp only [toP, PyData.canLay0, PyData.depth]
    exact ⟨z.1, by omega⟩
theorem shaped_of {d : D} (h : okN 64 d = true) : SeqAt.shaped (toP d) = true := by
  have z := okN_lay 64 d h
  unfold SeqAt.shaped
  rw [z.1, decide_eq_true z.2]
  rfl
def gEq : DR2 := fun a b μ Q => okN 64 (view μ a) = true ∧ okN 64 (view μ b) = true ∧ Q (.bl (eqD (view μ a) (view μ b))) μ
def gNe : DR2 := fun a b μ Q => okN 64 (view μ a) = true ∧ okN 64 (view μ b) = true ∧ Q (.bl (!eqD (view μ a) (view μ b))) μ
theorem l_eq {K : PySem.W.Frag} : LOp K (rEqD K) gEq := fun x y d e H Hc μ Q Qd s rx ry h rt =>
  ⟨_, _, dp_of h.1 (view_rep s rx), dp_of h.2.1 (view_rep s ry), shaped_of h.1, shaped_of h.2.1, rt.val s (.bl _) h.2.2⟩
theorem l_ne {K : PySem.W.Frag} : LOp K (rNeD K) gNe := fun x y d e H Hc μ Q Qd s rx ry h rt =>
  ⟨_, _, dp_of h.1 (view_rep s rx), dp_of h.2.1 (view_rep s ry), shaped_of h.1, shaped_of h.2.1, rt.val s (.bl _) h.2.2⟩
/-! ### is -/
def gIs (neg : Bool) : DR2 := fun a b μ Q => match a, b with
  | .bl x, .bl y => Q (.bl (neg ^^ decide (x = y))) μ
  | .raw v, .non => Q (.bl (neg ^^ decide (v = .non))) μ
  | .non, .non => Q (.bl (neg ^^ true)) μ
  | _, .non => Q (.bl (neg ^^ false)) μ
  | _, _ => False
def rIsAll : R2 := fun x y H Q => (y = .non ∧ Q (.bl (decide (x = .non))) H) ∨ rIsB x y H Q
def rNotAll : R2 := fun x y H Q => (y = .non ∧ Q (.bl (!decide (x = .non))) H) ∨ rNotB x y H Q
theorem l_is {K : PySem.W.Frag} : LOp K rIsAll (gIs false) := by
  intro x y d e H Hc μ Q Qd s rx ry h rt
  unfold gIs at h
  split at h
  · cases rx; cases ry
    rename_i a b
    exact .inr ⟨a, b, rfl, rfl, rt.val s (.bl _) (by simpa using h)⟩
  · cases rx; cases ry
    exact .inl ⟨rfl, rt.val s (.bl _) (by simpa using h)⟩
  · cases rx; cases ry
    exact .inl ⟨rfl, rt.val s (.bl _) (by simpa using h)⟩
  · rename_i n1 n2
    cases ry
    refine .inl ⟨rfl, rt.val s (.bl _) ?_⟩
    have e : decide (x = V.non) = false := decide_eq_false fun z => by
      subst z
      cases rx
      · exact n2 rfl
      · exact n1 _ rfl
    rw [e]
    simpa using h
  · exact h.elim
theorem l_isnot {K : PySem.W.Frag} : LOp K rNotAll (gIs true) := by
  intro x y d e H Hc μ Q Qd s rx ry h rt
  unfold gIs at h
  split at h
  · cases rx; cases ry
    rename_i a b
    exact .inr ⟨a, b, rfl, rfl, rt.val s (.bl _) (by simpa using h)⟩
  · cases rx; cases ry
    exact .inl ⟨rfl, rt.val s (.bl _) (by simpa using h)⟩
  · cases rx; cases ry
    exact .inl ⟨rfl, rt.val s (.bl _) (by simpa using h)⟩
  · rename_i n1 n2
    cases ry
    refine .inl ⟨rfl, rt.val s (.bl _) ?_⟩
    have e : decide (x = V.non) = false := decide_eq_false fun z => by
      subst z
      cases rx
      · exact n2 rfl
      · exact n1 _ rfl
    rw [e]
    simpa using h
  · exact h.elim
/-! ### items -/
def gIx : DR2 := fun a b μ Q => match view μ a, view μ b with
  | .lst xs, .int i => OptQ (atI xs i) Q μ
  | .tup xs, .int i => OptQ (atI xs i) Q μ
  | .scr ns, .int i => OptQ ((atI ns i).map D.int) Q μ
  | .str z, .int i => z.length ≤ sizeLine ∧ OptQ ((atI z.cps.toList i).map fun c => .str ⟨#[c]⟩) Q μ
  | _, _ => False
theorem atI_rep {K : PySem.W.Frag} {H : Hp} {vs : List V} {ds : List D} {i : Int} {d : D} (r : RepA K H vs ds) (h : atI ds i = some d) : ∃ v, atI vs i = some v ∧ Rep K H v d := by
  unfold atI at h ⊢
  rw [r.length]
  cases e : ixN ds.length i with
  | none => rw [e] at h; cases h
  | some j =>
    rw [e] at h
    exact r.get h
theorem atI_map {α β : Type} {f : α → β} {xs : List α} {i : Int} {x : α} (h : atI xs i = some x) : atI (xs.map f) i = some (f x) := by
  unfold atI at h ⊢
  rw [List.length_map]
  cases e : ixN xs.length i with
  | none => rw [e] at h; cases h
  | some j =>
    rw [e] at h
    show (xs.map f)[j]? = some (f x)
    rw [List.getElem?_map, show xs[j]? = some x from h]
    rfl
theorem l_ix {K : PySem.W.Frag} : LOp K (rIx K) gIx := by
  intro x y d e H Hc μ Q Qd s rx ry h rt
  unfold gIx at h
  split at h
  · rename_i xs i e1 e2
    obtain ⟨a, vs, rfl, ha, ra⟩ := view_lst s rx e1
    obtain ⟨z, hz, hq⟩ := h.ex
    obtain ⟨v, hv, rv⟩ := atI_rep ra hz
    exact .inl ⟨a, vs, i, v, rfl, view_int ry e2, SqL.of ha, hv, rt.val s rv hq⟩
  · rename_i xs i e1 e2
    obtain ⟨a, vs, rfl, ha, ra⟩ := view_tup s rx e1
    obtain ⟨z, hz, hq⟩ := h.ex
    obtain ⟨v, hv, rv⟩ := atI_rep ra hz
    exact .inr (.inl ⟨a, vs, i, v, rfl, view_int ry e2, ha, hv, rt.val s rv hq⟩)
  · rename_i ns i e1 e2
    obtain ⟨a, rfl, ha⟩ := view_scr s rx e1
    obtain ⟨z, hz, hq⟩ := h.ex
    obtain ⟨n, hn, rfl⟩ := Option.map_eq_some_iff.mp hz
    exact .inl ⟨a, _, i, _, rfl, view_int ry e2, ha, atI_map hn, rt.val s (.int _) hq⟩
  · rename_i z i e1 e2
    obtain ⟨c', hc', hq⟩ := h.2.ex
    obtain ⟨c, hc, rfl⟩ := Option.map_eq_some_iff.mp hc'
    exact .inr (.inr ⟨z, i, c, view_str rx e1, view_int ry e2, h.1, hc, rt.val s (.str _) hq⟩)
  · exact h.elim
/-! ### x in xs, of flat things -/
def flatD : D → Bool
  | .non => true
  | .bl _ => true
  | .int _ => true
  | .str _ => true
  | _ => false
def inD (x : D) (xs : List D) : Bool := xs.any fun y => eqD y x
def gIn (neg : Bool) : DR2 := fun a b μ Q => match view μ b with
  | .lst xs => flatD a = true ∧ xs.all flatD = true ∧ Q (.bl (neg ^^ inD a xs)) μ
  | .tup xs => flatD a = true ∧ xs.all flatD = true ∧ Q (.bl (neg ^^ inD a xs)) μ
  | .str z => match a with
    | .str y => Q (.bl (neg ^^ !(Builtin.Str.occurrences z y 0 z.length 1).isEmpty)) μ
    | _ => False
  | _ => False
/-! ### the rules -/
section
variable {X : Cx} {W : WX} {a b c e : Expr} {pos : Pos} {ta tb tc te : DTE}
def dVar (i : Nat) (_ : XD) (δ : Sl) (μ : M) (Q : QD) : Prop := match δ[i]? with
  | some (some d) => Q d μ
  | _ => False
def dC (d : D) (_ : XD) (_ : Sl) (μ : M) (Q : QD) : Prop := Q d μ
theorem de_var (i : Nat) {x : Str} (hN : X.N[i]? = some x := by rfl) (hv : Vis X.env.scope x := by first | exact Or.inl rfl | exact Or.inr (Or.inl rfl) | exact Or.inr (Or.inr rfl)) (hd : (x == ("__debug__" : Str)) = false := by decide)
    (hcd : (x == ("__classdict__" : Str)) = false := by decide) : DE X W (.Name x pos) (dVar i) := PE.imp (pv i hN hv hd hcd) fun σ H Q ⟨δ, μ, Hc, Qd, Xd, s, rs, h, rt, rx⟩ => by
  unfold dVar at h
  split at h
  · rename_i d e1
    obtain ⟨v, h1, h2⟩ := rs.val i d e1
    exact ⟨v, h1, rt.val s h2 h⟩
  · exact h.elim
theorem de_c {v : V} {d : D} (h : PE X e (tC v)) (r : ∀ Hc, Rep X.K Hc v d) : DE X W e (dC d) := PE.imp h fun σ H Q ⟨δ, μ, Hc, Qd, Xd, s, rs, h, rt, rx⟩ => rt.val s (r Hc) h
theorem de_int {i : Int} {j : Nat} : DE X W (.Constant (.int i) j pos) (dC (.int i)) := de_c pe_int fun _ => .int _
theorem de_bl {i : Bool} {j : Nat} : DE X W (.Constant (.bool i) j pos) (dC (.bl i)) := de_c pe_bl fun _ => .bl _
theorem de_non {j : Nat} : DE X W (.Constant .none j pos) (dC .non) := de_c pe_non fun _ => .non
theorem de_str {i : Str} {j : Nat} : DE X W (.Constant (.str i) j pos) (dC (.str i)) := de_c pe_str fun _ => .str _
/-- a constant of the module -/
theorem de_glob {x : Str} {v : V} {u : Value} {d : D} (hg : Gl X x) (hm : X.mg x = some u) (r : RelV v u) (rp : ∀ Hc, Rep X.K Hc v d) (hd : (x == ("__debug__" : Str)) = false := by decide) : DE X W (.Name x pos) (dC d) := de_c (pe_glob hg hm r hd) rp
theorem de_op {op : Operator} {r : R2} {g : DR2} (ho : OpR X (binaryOp op) r) (l : LOp X.K r g) (ha : DE X W a ta) (hb : DE X W b tb) : DE X W (.BinOp a op b pos) (dOp g ta tb) := PE.imp (pe_op ho ha hb) (lift2 l)
theorem de_add (ha : DE X W a ta) (hb : DE X W b tb) : DE X W (.BinOp a .Add b pos) (dOp gAdd ta tb) := de_op op_addAll l_add ha hb
theorem de_sub (ha : DE X W a ta) (hb : DE X W b tb) : DE X W (.BinOp a .Sub b pos) (dOp (gI0 fun i j => .int (i - j)) ta tb) := de_op op_sub (l_I0 fun _ _ _ => .int _) ha hb
theorem de_mul (ha : DE X W a ta) (hb : DE X W b tb) : DE X W (.BinOp a .Mult b pos) (dOp gMul ta tb) := de_op op_mulAll l_mul ha hb
theorem de_fdiv (ha : DE X W a ta) (hb : DE X W b tb) : DE X W (.BinOp a .FloorDiv b pos) (dOp (gI CDivD fun i j => .int (i.fdiv j)) ta tb) := de_op op_fdivD (l_I fun _ _ _ => .int _) ha hb
theorem de_mod (ha : DE X W a ta) (hb : DE X W b tb) : DE X W (.BinOp a .Mod b pos) (dOp (gI (fun _ j => j ≠ 0) fun i j => .int (i.fmod j)) ta tb) := de_op op_modN (l_I fun _ _ _ => .int _) ha hb
theorem de_pow (ha : DE X W a ta) (hb : DE X W b tb) : DE X W (.BinOp a .Pow b pos) (dOp (gI CPow fun i j => .int (i ^ j.toNat)) ta tb) := de_op op_pow (l_I fun _ _ _ => .int _) ha hb
theorem de_ix (ha : DE X W a ta) (hb : DE X W b tb) (hs : PlainIx b := by exact fun _ _ => rfl) : DE X W (.Subscript a b pos) (dOp gIx ta tb) := PE.imp (pe_ix ix_seq ha hb hs) (lift2 l_ix)
/-! ### comparisons -/
theorem de_cmp {op : CmpOp} {r : R2} {g : DR2} (ho : OpR X (compareOp op) r) (l : LOp X.K r g) (ha : DE X W a ta) (hb : DE X W b tb) (hm : behindInMarks op b = false) : DE X W (.Compare a [op] [b] pos) (dOp g ta tb) := PE.imp (pe_cmpR ho ha hb hm) (lift2 l)
/-- a value as a test: a truth -/
def kB (Q : Bool → M → Prop) (d : D) (μ : M) : Prop := match d with
  | .bl b => Q b μ
  | _ => False
def dB (t : DTE) (W : XD) (δ : Sl) (μ : M) (Q : Bool → M → Prop) : Prop := t W δ μ (kB Q)
theorem dt_cmp {op : CmpOp} {r : R2} {g : DR2} (ho : OpR X (compareOp op) r) (l : LOp X.K r g) (ha : DE X W a ta) (hb : DE X W b tb) (hm : behindInMarks op b = false) : DT X W (.Compare a [op] [b] pos) (dB (dOp g ta tb)) :=
  PT.imp (pt_cmpR ho ha hb hm) fun σ H Q ⟨δ, μ, Hc, Qd, Xd, s, rs, h, rt, rx⟩ => lift2 l σ H _ ⟨δ, μ, Hc, _, Xd, s, rs, h, fun d μ' hd v H' Hc' e1 s1 r1 => by
    cases r1 with
    | bl b => exact ⟨b, rfl, rt b μ' hd H' Hc' e1 s1⟩
    | _ => exact hd.elim, rx⟩
abbrev gLt : DR2 := gI0 fun i j => .bl (decide (i < j))
abbrev gLe : DR2 := gI0 fun i j => .bl (decide (i ≤ j))
abbrev gGt : DR2 := gI0 fun i j => .bl (decide (j < i))
abbrev gGe : DR2 := gI0 fun i j => .bl (decide (j ≤ i))
theorem de_lt (ha : DE X W a ta) (hb : DE X W b tb) : DE X W (.Compare a [.Lt] [b] pos) (dOp gLt ta tb) := de_cmp op_lt (l_I0 fun _ _ _ => .bl _) ha hb (nomark _)
theorem de_gt (ha : DE X W a ta) (hb : DE X W b tb) : DE X W (.Compare a [.Gt] [b] pos) (dOp gGt ta tb) := de_cmp op_gt (l_I0 fun _ _ _ => .bl _) ha hb (nomark _)
theorem de_ge (ha : DE X W a ta) (hb : DE X W b tb) : DE X W (.Compare a [.GtE] [b] pos) (dOp gGe ta tb) := de_cmp op_ge (l_I0 fun _ _ _ => .bl _) ha hb (nomark _)
theorem de_eq {k : Nat} (hr : Room k X.A) (ha : DE X W a ta) (hb : DE X W b tb) : DE X W (.Compare a [.Eq] [b] pos) (dOp gEq ta tb) := de_cmp (op_eqD hr.units) l_eq ha hb (nomark _)
theorem dt_lt (ha : DE X W a ta) (hb : DE X W b tb) : DT X W (.Compare a [.Lt] [b] pos) (dB (dOp gLt ta tb)) := dt_cmp op_lt (l_I0 fun _ _ _ => .bl _) ha hb (nomark _)
theorem dt_gt (ha : DE X W a ta) (hb : DE X W b tb) : DT X W (.Compare a [.Gt] [b] pos) (dB (dOp gGt ta tb)) := dt_cmp op_gt (l_I0 fun _ _ _ => .bl _) ha hb (nomark _)
theorem dt_ge (ha : DE X W a ta) (hb : DE X W b tb) : DT X W (.Compare a [.GtE] [b] pos) (dB (dOp gGe ta tb)) := dt_cmp op_ge (l_I0 fun _ _ _ => .bl _) ha hb (nomark _)
theorem dt_eq {k : Nat} (hr : Room k X.A) (ha : DE X W a ta) (hb : DE X W b tb) : DT X W (.Compare a [.Eq] [b] pos) (dB (dOp gEq ta tb)) := dt_cmp (op_eqD hr.units) l_eq ha hb (nomark _)
theorem dt_ne {k : Nat} (hr : Room k X.A) (ha : DE X W a ta) (hb : DE X W b tb) : DT X W (.Compare a [.NotEq] [b] pos) (dB (dOp gNe ta tb)) := dt_cmp (op_neD hr.units) l_ne ha hb (nomark _)
theorem dt_is (ha : DE X W a ta) (hb : DE X W b tb) : DT X W (.Compare a [.Is] [b] pos) (dB (dOp (gIs false) ta tb)) := dt_cmp (OpR.or op_isN op_isBl) l_is ha hb (nomark _)
theorem dt_isnot (ha : DE X W a ta) (hb : DE X W b tb) : DT X W (.Compare a [.IsNot] [b] pos) (dB (dOp (gIs true) ta tb)) := dt_cmp (OpR.or op_notN op_notBl) l_isnot ha hb (nomark _)
/-! ### chains of two -/
def kChain3 (g' : DR2) (tc : DTE) (W : XD) (δ : Sl) (Q : QD) (y : D) (z : D) (μ : M) : Prop := match z with
  | .bl true => tc W δ μ (kOp2 g' y Q)
  | .bl false => Q (.bl false) μ
  | _ => False
def kChain2 (g g' : DR2) (tc : DTE) (W : XD) (δ : Sl) (Q : QD) (x : D) (y : D) (μ : M) : Prop := g x y μ (kChain3 g' tc W δ Q y)
def kChain1 (g g' : DR2) (tb tc : DTE) (W : XD) (δ : Sl) (Q : QD) (x : D) (μ : M) : Prop := tb W δ μ (kChain2 g g' tc W δ Q x)
def dChain (g g' : DR2) (ta tb tc : DTE) (W : XD) (δ : Sl) (μ : M) (Q : QD) : Prop := ta W δ μ (kChain1 g g' tb tc W δ Q)
theorem lift3 {K : PySem.W.Frag} {r r' : R2} {g g' : DR2} (l : LOp K r g) (l' : LOp K r' g') : ∀ σ H Q, upE K W (dChain g g' ta tb tc) σ H Q → tChain r r' (upE K W ta) (upE K W tb) (upE K W tc) σ H Q :=
  fun σ H Q ⟨δ, μ, Hc, Qd, Xd, s, rs, h, rt, rx⟩ => ⟨δ, μ, Hc, _, Xd, s, rs, h, fun x μ1 h1 v H1 Hc1 e1 s1 r1 =>
    ⟨δ, μ1, Hc1, _, Xd, s1, rs.mono e1, h1, fun y μ2 h2 w H2 Hc2 e2 s2 r2 => l v w x y H2 Hc2 μ2 _ _ s2 (r1.mono e2) r2 h2 fun z μ3 h3 u H3 Hc3 e3 s3 r3 => by
      cases r3 with
      | bl k =>
        refine ⟨k, rfl, ?_⟩
        cases k with
        | true =>
          rw [if_pos rfl]
          exact ⟨δ, μ3, Hc3, _, Xd, s3, rs.mono ((e1.trans e2).trans e3), h3, fun q μ4 h4 u4 H4 Hc4 e4 s4 r4 => l' w u4 y q H4 Hc4 μ4 Q Qd s4 (r2.mono (e3.trans e4)) r4 h4 (rt.mono (((e1.trans e2).trans e3).trans e4)), rx.mono ((e1.trans e2).trans e3)⟩
        | false =>
          rw [if_neg Bool.false_ne_true]
          exact (rt.mono ((e1.trans e2).trans e3)).val s3 (.bl _) h3
      | _ => exact h3.elim, rx.mono e1⟩, rx⟩
theorem dt_chain {op op' : CmpOp} {r r' : R2} {g g' : DR2} (ho : OpR X (compareOp op) r) (l : LOp X.K r g) (ho' : OpR X (compareOp op') r') (l' : LOp X.K r' g') (ha : DE X W a ta) (hb : DE X W b tb) (hc : DE X W c tc)
    (hm : lastMarks [op, op'] [b, c] = false := by with_unfolding_all rfl) : DT X W (.Compare a [op, op'] [b, c] pos) (dB (dChain g g' ta tb tc)) :=
  PT.imp (pt_chain ho ho' ha hb hc hm) fun σ H Q ⟨δ, μ, Hc, Qd, Xd, s, rs, h, rt, rx⟩ => lift3 l l' σ H _ ⟨δ, μ, Hc, _, Xd, s, rs, h, fun d μ' hd v H' Hc' e1 s1 r1 => by
    cases r1 with
    | bl b => exact ⟨b, rfl, rt b μ' hd H' Hc' e1 s1⟩
    | _ => exact hd.elim, rx⟩
/-! ### truth, and, or, not -/
def truD (μ : M) (d : D) : Option Bool := match view μ d with
  | .non => some false
  | .bl b => some b
  | .int i => some (i != 0)
  | .lst xs => some (!xs.isEmpty)
  | .tup xs => some (!xs.isEmpty)
  | _ => none
def kTru (Q : Bool → M → Prop) (d : D) (μ : M) : Prop := OptB (truD μ d) Q μ
def dTru (t : DTE) (W : XD) (δ : Sl) (μ : M) (Q : Bool → M → Prop) : Prop := t W δ μ (kTru Q)
theorem dt_tru (ha : DE X W a ta) (he : ∀ whole, isTrue a X.env whole = (do let v ← whole; standAt a.pos; holding [v] (truthy v)) := by intro _; rfl) : DT X W a (dTru ta) :=
  PT.imp (pt_truth ha he) fun σ H Q ⟨δ, μ, Hc, Qd, Xd, s, rs, h, rt, rx⟩ => by
    refine (show upE X.K W ta σ H _ from ⟨δ, μ, Hc, _, Xd, s, rs, h, ?_, rx⟩)
    intro d μ' hd v H' Hc' e1 s1 r1
    obtain ⟨k, hk, hq⟩ := OptB.ex hd
    refine ⟨k, ?_, rt k μ' hq H' Hc' e1 s1⟩
    have z := view_rep s1 r1
    unfold truD at hk
    split at hk
    · rename_i ev; rw [ev] at z; cases z; exact (Option.some.inj hk).symm
    · rename_i ev; rw [ev] at z; cases z; exact (Option.some.inj hk).symm
    · rename_i ev; rw [ev] at z; cases z; exact (Option.some.inj hk).symm
    · rename_i ev
      rw [ev] at z
      cases z with
      | lst h1 h2 =>
        refine .inl ⟨_, SqL.of h1, ?_⟩
        rw [← Option.some.inj hk]
        cases h2 <;> rfl
    · rename_i ev
      rw [ev] at z
      cases z with
      | tup h1 h2 =>
        refine .inr (.inl ⟨_, h1, ?_⟩)
        rw [← Option.some.inj hk]
        cases h2 <;> rfl
    · cases hk
def ifAnd (c : Bool) (u : DTT) (W : XD) (δ : Sl) (μ : M) (Q : Bool → M → Prop) : Prop := match c with
  | true => u W δ μ Q
  | false => Q false μ
def ifOr (c : Bool) (u : DTT) (W : XD) (δ : Sl) (μ : M) (Q : Bool → M → Prop) : Prop := match c with
  | true => Q true μ
  | false => u W δ μ Q
def kAnd (u : DTT) (W : XD) (δ : Sl) (Q : Bool → M → Prop) (c : Bool) (μ : M) : Prop := ifAnd c u W δ μ Q
def kOr (u : DTT) (W : XD) (δ : Sl) (Q : Bool → M → Prop) (c : Bool) (μ : M) : Prop := ifOr c u W δ μ Q
def kNot (Q : Bool → M → Prop) (c : Bool) (μ : M) : Prop := Q (!c) μ
def dAnd (t u : DTT) (W : XD) (δ : Sl) (μ : M) (Q : Bool → M → Prop) : Prop := t W δ μ (kAnd u W δ Q)
def dOr (t u : DTT) (W : XD) (δ : Sl) (μ : M) (Q : Bool → M → Prop) : Prop := t W δ μ (kOr u W δ Q)
def dNot (t : DTT) (W : XD) (δ : Sl) (μ : M) (Q : Bool → M → Prop) : Prop := t W δ μ (kNot Q)
theorem ifAnd_of {c : Bool} {u : DTT} {W : XD} {δ : Sl} {μ : M} {Q : Bool → M → Prop} (h1 : c = true → u W δ μ Q) (h2 : c = false → Q false μ) : ifAnd c u W δ μ Q := by
  cases c with
  | true => exact h1 rfl
  | false => exact h2 rfl
theorem ifOr_of {c : Bool} {u : DTT} {W : XD} {δ : Sl} {μ : M} {Q : Bool → M → Prop} (h1 : c = true → Q true μ) (h2 : c = false → u W δ μ Q) : ifOr c u W δ μ Q := by
  cases c with
  | true => exact h1 rfl
  | false => exact h2 rfl
theorem ifAnd_dec {p : Prop} [Decidable p] {u : DTT} {W : XD} {δ : Sl} {μ : M} {Q : Bool → M → Prop} (h1 : p → u W δ μ Q) (h2 : ¬ p → Q false μ) : ifAnd (decide p) u W δ μ Q := ifAnd_of (fun h => h1 (of_decide_eq_true h)) (fun h => h2 (of_decide_eq_false h))
theorem ifOr_dec {p : Prop} [Decidable p] {u : DTT} {W : XD} {δ : Sl} {μ : M} {Q : Bool → M → Prop} (h1 : p → Q true μ) (h2 : ¬ p → u W δ μ Q) : ifOr (decide p) u W δ μ Q := ifOr_of (fun h => h1 (of_decide_eq_true h)) (fun h => h2 (of_decide_eq_false h))
variable {tA tB' : DTT} {rest : List Expr}
theorem dw_and1 (ha : DT X W a tA) : DW X W (.BoolOp .And [a] pos) tA := pw_and1 ha
theorem dw_or1 (ha : DT X W a tA) : DW X W (.BoolOp .Or [a] pos) tA := pw_or1 ha
theorem dw_and (ha : DT X W a tA) (hb : DW X W (.BoolOp .And (b :: rest) pos) tB') : DW X W (.BoolOp .And (a :: b :: rest) pos) (dAnd tA tB') :=
  PW.imp (pw_and ha hb) fun σ H Q ⟨δ, μ, Hc, Qd, Xd, s, rs, h, rt, rx⟩ => ⟨δ, μ, Hc, _, Xd, s, rs, h, fun c μ1 h1 H1 Hc1 e1 s1 => by
    cases c with
    | true => exact ⟨δ, μ1, Hc1, Qd, Xd, s1, rs.mono e1, h1, rt.mono e1, rx.mono e1⟩
    | false => exact rt false μ1 h1 _ _ e1 s1, rx⟩
theorem dw_or (ha : DT X W a tA) (hb : DW X W (.BoolOp .Or (b :: rest) pos) tB') : DW X W (.BoolOp .Or (a :: b :: rest) pos) (dOr tA tB') :=
  PW.imp (pw_or ha hb) fun σ H Q ⟨δ, μ, Hc, Qd, Xd, s, rs, h, rt, rx⟩ => ⟨δ, μ, Hc, _, Xd, s, rs, h, fun c μ1 h1 H1 Hc1 e1 s1 => by
    cases c with
    | true => exact rt true μ1 h1 _ _ e1 s1
    | false => exact ⟨δ, μ1, Hc1, Qd, Xd, s1, rs.mono e1, h1, rt.mono e1, rx.mono e1⟩, rx⟩
theorem DW.dt (h : DW X W a tA) : DT X W a tA := PW.pt h
theorem dt_not (ha : DT X W a tA) : DT X W (.UnaryOp .Not a pos) (dNot tA) :=
  PT.imp (pt_not ha) fun σ H Q ⟨δ, μ, Hc, Qd, Xd, s, rs, h, rt, rx⟩ => ⟨δ, μ, Hc, _, Xd, s, rs, h, fun c μ1 h1 H1 Hc1 e1 s1 => rt _ _ h1 _ _ e1 s1, rx⟩
/-! .. as values: truths -/
def ifAndV (c : Bool) (u : DTE) (W : XD) (δ : Sl) (μ : M) (Q : QD) : Prop := match c with
  | true => u W δ μ Q
  | false => Q (.bl false) μ
def ifOrV (c : Bool) (u : DTE) (W : XD) (δ : Sl) (μ : M) (Q : QD) : Prop := match c with
  | true => Q (.bl true) μ
  | false => u W δ μ Q
def kAndV (u : DTE) (W : XD) (δ : Sl) (Q : QD) (d : D) (μ : M) : Prop := match d with
  | .bl c => ifAndV c u W δ μ Q
  | _ => False
def kOrV (u : DTE) (W : XD) (δ : Sl) (Q : QD) (d : D) (μ : M) : Prop := match d with
  | .bl c => ifOrV c u W δ μ Q
  | _ => False
def kNotV (Q : QD) (d : D) (μ : M) : Prop := match d with
  | .bl c => Q (.bl !c) μ
  | _ => False
def dAndV (t u : DTE) (W : XD) (δ : Sl) (μ : M) (Q : QD) : Prop := t W δ μ (kAndV u W δ Q)
def dOrV (t u : DTE) (W : XD) (δ : Sl) (μ : M) (Q : QD) : Prop := t W δ μ (kOrV u W δ Q)
def dNotV (t : DTE) (W : XD) (δ : Sl) (μ : M) (Q : QD) : Prop := t W δ μ (kNotV Q)
theorem ifAndV_of {c : Bool} {u : DTE} {W : XD} {δ : Sl} {μ : M} {Q : QD} (h1 : c = true → u W δ μ Q) (h2 : c = false → Q (.bl false) μ) : ifAndV c u W δ μ Q := by
  cases c with
  | true => exact h1 rfl
  | false => exact h2 rfl
theorem de_one {op} {t : DTE} (h : DE X W a t) : DE X W (.BoolOp op [a] pos) t := pe_one h
theorem de_and (ha : DE X W a ta) (hb : DE X W (.BoolOp .And (b :: rest) pos) tb) : DE X W (.BoolOp .And (a :: b :: rest) pos) (dAndV ta tb) :=
  PE.imp (pe_and ha hb) fun σ H Q ⟨δ, μ, Hc, Qd, Xd, s, rs, h, rt, rx⟩ => ⟨δ, μ, Hc, _, Xd, s, rs, h, fun d μ1 h1 v H1 Hc1 e1 s1 r1 => by
    cases r1 with
    | bl c =>
      refine ⟨c, rfl, ?_⟩
      cases c with
      | true => exact ⟨δ, μ1, Hc1, Qd, Xd, s1, rs.mono e1, h1, rt.mono e1, rx.mono e1⟩
      | false => exact rt _ _ h1 _ _ _ e1 s1 (.bl _)
    | _ => exact h1.elim, rx⟩
/-- not x, as a value: x by its truth -/
theorem de_not (ha : DE X W a ta) : DE X W (.UnaryOp .Not a pos) (dNotV ta) :=
  PE.imp (pe_not ha) fun σ H Q ⟨δ, μ, Hc, Qd, Xd, s, rs, h, rt, rx⟩ => ⟨δ, μ, Hc, _, Xd, s, rs, h, fun d μ1 h1 v H1 Hc1 e1 s1 r1 => by
    cases r1 with
    | bl c => exact ⟨c, rfl, rt _ _ h1 _ _ _ e1 s1 (.bl _)⟩
    | _ => exact h1.elim, rx⟩
def ifE (c : Bool) (ta tb : DTE) (W : XD) (δ : Sl) (μ : M) (Q : QD) : Prop := match c with
  | true => ta W δ μ Q
  | false => tb W δ μ Q
def kIfE (ta tb : DTE) (W : XD) (δ : Sl) (Q : QD) (c : Bool) (μ : M) : Prop := ifE c ta tb W δ μ Q
def dIfE (t : DTT) (ta tb : DTE) (W : XD) (δ : Sl) (μ : M) (Q : QD) : Prop := t W δ μ (kIfE ta tb W δ Q)
/-! ### arguments, displays -/
def dNil (_ : XD) (_ : Sl) (μ : M) (Q : List D → M → Prop) : Prop := Q [] μ
def kCons2 (d : D) (Q : List D → M → Prop) (ds : List D) (μ : M) : Prop := Q (d :: ds) μ
def kCons1 (r : DTA) (W : XD) (δ : Sl) (Q : List D → M → Prop) (d : D) (μ : M) : Prop := r W δ μ (kCons2 d Q)
def dCons (t : DTE) (r : DTA) (W : XD) (δ : Sl) (μ : M) (Q : List D → M → Prop) : Prop := t W δ μ (kCons1 r W δ Q)
variable {es : List Expr} {tr : DTA}
theorem da_nil : DA X W [] dNil := PA.imp pa_nil fun σ H Q ⟨δ, μ, Hc, Qd, Xd, s, rs, h, rt, rx⟩ => rt _ _ h _ _ Hc (Same.refl _) s .nil
theorem da_cons (ha : DE X W e te) (hr : DA X W es tr) (hs : starEach (e :: es) X.env = (false, eval e X.env) :: starEach es X.env := by rfl) : DA X W (e :: es) (dCons te tr) :=
  PA.imp (pa_cons ha hr hs) fun σ H Q ⟨δ, μ, Hc, Qd, Xd, s, rs, h, rt, rx⟩ => ⟨δ, μ, Hc, _, Xd, s, rs, h, fun d μ1 h1 v H1 Hc1 e1 s1 r1 =>
    ⟨δ, μ1, Hc1, _, Xd, s1, rs.mono e1, h1, fun ds μ2 h2 vs H2 Hc2 e2 s2 r2 => rt _ _ h2 _ _ _ (e1.trans e2) s2 (.cons (r1.mono e2) r2), rx.mono e1⟩, rx⟩
def kTup (Q : QD) (ds : List D) (μ : M) : Prop := ds.length ≤ sizeLine ∧ Q (.tup ds) μ
def kLst (Q : QD) (ds : List D) (μ : M) : Prop := ds.length ≤ sizeLine ∧ Q (.lst ds) μ
/-- a new cell -/
def NewC (ds : List D) (μ : M) (Q : QD) : Prop := ∀ p, μ p = none → Q (.raw (.ref p)) (updM μ p (.lst ds))
def kLstC (Q : QD) (ds : List D) (μ : M) : Prop := ds.length ≤ sizeLine ∧ NewC ds μ Q
def dTup (t : DTA) (W : XD) (δ : Sl) (μ : M) (Q : QD) : Prop := t W δ μ (kTup Q)
def dLst (t : DTA) (W : XD) (δ : Sl) (μ : M) (Q : QD) : Prop := t W δ μ (kLst Q)
/-- a list that will be changed -/
def dLstC (t : DTA) (W : XD) (δ : Sl) (μ : M) (Q : QD) : Prop := t W δ μ (kLstC Q)
theorem de_tup {x1} (h : DA X W es tr) : DE X W (.Tuple es x1 pos) (dTup tr) := PE.imp (pe_tup h) fun σ H Q ⟨δ, μ, Hc, Qd, Xd, s, rs, h, rt, rx⟩ => ⟨δ, μ, Hc, _, Xd, s, rs, h, fun ds μ1 h1 vs H1 Hc1 e1 s1 r1 =>
    ⟨by rw [r1.length]; exact h1.1, (rt.mono e1).newT s1 r1 h1.2⟩, rx⟩
theorem de_lst (h : DA X W es tr) : DE X W (.List es pos) (dLst tr) := PE.imp (pe_lst h) fun σ H Q ⟨δ, μ, Hc, Qd, Xd, s, rs, h, rt, rx⟩ => ⟨δ, μ, Hc, _, Xd, s, rs, h, fun ds μ1 h1 vs H1 Hc1 e1 s1 r1 =>
    ⟨by rw [r1.length]; exact h1.1, (rt.mono e1).new s1 r1 h1.2⟩, rx⟩
theorem de_lstC (h : DA X W es tr) : DE X W (.List es pos) (dLstC tr) := PE.imp (pe_lst h) fun σ H Q ⟨δ, μ, Hc, Qd, Xd, s, rs, h, rt, rx⟩ => ⟨δ, μ, Hc, _, Xd, s, rs, h, fun ds μ1 h1 vs H1 Hc1 e1 s1 r1 =>
    ⟨by rw [r1.length]; exact h1.1, (rt.mono e1).newC s1 r1 h1.2⟩, rx⟩
/-- a cell becomes data -/
def kFz (Q : QD) (d : D) (μ : M) : Prop := match d with
  | .raw (.ref p) => ∃ ds, μ p = some (.lst ds) ∧ Q (.lst ds) (delM μ p)
  | _ => False
def dFz (t : DTE) (W : XD) (δ : Sl) (μ : M) (Q : QD) : Prop := t W δ μ (kFz Q)
theorem de_fz (h : DE X W e te) : DE X W e (dFz te) := PE.imp h fun σ H Q ⟨δ, μ, Hc, Qd, Xd, s, rs, h, rt, rx⟩ => ⟨δ, μ, Hc, _, Xd, s, rs, h, fun d μ1 h1 v H1 Hc1 e1 s1 r1 => by
    cases r1 with
    | raw =>
      cases v with
      | ref p =>
        obtain ⟨ds, hp, hq⟩ := (show ∃ ds, μ1 p = some (.lst ds) ∧ Qd (.lst ds) (delM μ1 p) from h1)
        obtain ⟨_, o, ho, vs, rfl, ra⟩ := s1.cell p _ hp
        obtain ⟨Hc2, e2, s2, hh⟩ := s1.sub (Sub.del p)
        refine rt _ _ hq _ _ Hc2 (e1.trans e2) s2 (.lst ?_ (ra.mono e2))
        rw [hh p (by unfold delM; rw [if_pos rfl])]
        exact ho
      | _ => exact h1.elim
    | _ => exact h1.elim, rx⟩
end
end DL
set_option Elab.async false
set_option linter.all false
set_option maxRecDepth 100000
set_option maxHeartbeats 2000000
/-! The data layer: calls, statements, loops, comprehensions, errors. -/
namespace DL
open PySem PySem.Spec L2
/-! ### calls of defs -/
abbrev Ct := List D → M → QD → XD → Prop
def spD (K : PySem.W.Frag) (c : Ct) : Sp := fun vs H Q E => ∃ ds μ Hc Qd Xd, Split K H Hc μ ∧ RepA K Hc vs ds ∧ c ds μ Qd Xd ∧ Ret K Hc Qd Q ∧ RetX K Hc Xd E
/-- a def of the text keeps its contract -/
structure Dfn (P : Program) (w : World) (K : PySem.W.Frag) (mg : Str → Option Value) (base : Heap) (CX : CXT) (x qual : Str) (st : Stmt) (k : Nat) (ps : List Str) (c : Ct) : Prop where
  ex : ∃ f fd, Fun K x qual st f fd ∧ mg x = some (.ref f) ∧ FnOk P w K mg base CX k f fd ps (spD K c) ∧ Binds K fd ps []
/-- what a callee lets out is taken -/
def Pw (CX : CXT) (X : Cx) (W : WX) : Prop := ∀ σ, PassesAt CX X σ (WE W σ)
theorem pw0 {X : Cx} {W : WX} : Pw CX0 X W := fun _ _ _ _ _ _ _ h => h.elim
def kCall (c : Ct) (W : XD) (Q : QD) (ds : List D) (μ : M) : Prop := c ds μ Q W
def dCall (c : Ct) (t : DTA) (W : XD) (δ : Sl) (μ : M) (Q : QD) : Prop := t W δ μ (kCall c W Q)
abbrev W0 : WX := fun _ _ _ _ => False
def pick {α : Type} (pm : List Nat) (xs : List α) : List α := pm.filterMap (xs[·]?)
section
variable {X : Cx} {W : WX} {a b e : Expr} {es : List Expr} {pos p : Pos} {ta tb te : DTE} {tr tk : DTA} {CX : CXT} {x qual : Str} {st : Stmt} {k : Nat} {ps : List Str} {c : Ct}
theorem de_call (F : Dfn X.prog X.w X.K X.mg X.base CX x qual st k ps c) (hr : Room k X.A) (pw : Pw CX X W) (ha : DA X W (e :: es) tr) (hg : Gl X x := by rfl) (hdb : (x == ("__debug__" : Str)) = false := by decide)
    (he : starEach (e :: es) X.env = (false, eval e X.env) :: starEach es X.env := by rfl) (hpl : (backTo pos (starEach es X.env)).any (·.1) = false := by rfl) : DE X W (.Call (.Name x p) (e :: es) [] pos) (dCall c tr) := by
  obtain ⟨f, fd, FF, hm, G, bn⟩ := F.ex
  exact PE.imp (pe_callS G hr hg hm FF.kp bn pw ha hdb he hpl) fun σ H Q ⟨δ, μ, Hc, Qd, Xd, s, rs, h, rt, rx⟩ => ⟨δ, μ, Hc, _, Xd, s, rs, h, fun ds μ1 h1 vs H1 Hc1 e1 s1 r1 =>
    ⟨ds, μ1, Hc1, Qd, Xd, s1, r1, h1, rt.mono e1, rx.mono e1⟩, rx⟩
/-! keywords: the evaluated values, picked into the parameters' order -/
theorem RepA.pick {K : PySem.W.Frag} {H : Hp} {vs : List V} {ds : List D} (r : RepA K H vs ds) : ∀ pm : List Nat, RepA K H (pick pm vs) (pick pm ds)
  | [] => .nil
  | i :: pm => by
    have ih := RepA.pick r pm
    unfold DL.pick at ih ⊢
    rw [List.filterMap_cons, List.filterMap_cons]
    cases e : ds[i]? with
    | none =>
      have z : vs[i]? = none := by
        rw [List.getElem?_eq_none_iff] at e ⊢
        rw [r.length]
        exact e
      rw [z]
      exact ih
    | some d =>
      obtain ⟨v, hv, rv⟩ := r.get e
      rw [hv]
      exact .cons rv ih
def kCallK2 (c : Ct) (n : Nat) (pm : List Nat) (W : XD) (Q : QD) (ds es : List D) (μ : M) : Prop := (ds ++ es).length = n ∧ c (pick pm (ds ++ es)) μ Q W
def kCallK1 (c : Ct) (n : Nat) (pm : List Nat) (tk : DTA) (W : XD) (δ : Sl) (Q : QD) (ds : List D) (μ : M) : Prop := tk W δ μ (kCallK2 c n pm W Q ds)
def dCallK (c : Ct) (n : Nat) (pm : List Nat) (t tk : DTA) (W : XD) (δ : Sl) (μ : M) (Q : QD) : Prop := t W δ μ (kCallK1 c n pm tk W δ Q)
def kLenIs (m : Nat) (Q : List D → M → Prop) (ds : List D) (μ : M) : Prop := ds.length = m ∧ Q ds μ
def dLenIs (m : Nat) (t : DTA) (W : XD) (δ : Sl) (μ : M) (Q : List D → M → Prop) : Prop := t W δ μ (kLenIs m Q)
/-! ### calls of built-ins -/
abbrev DRC := List D → M → QD → Prop
def LCall (K : PySem.W.Frag) (r : List V → Hp → VK → Prop) (g : DRC) : Prop := ∀ (vs : List V) (ds : List D) (H Hc : Hp) (μ : M) (Q : VK) (Qd : QD), Split K H Hc μ → RepA K Hc vs ds → g ds μ Qd → Ret K Hc Qd Q → r vs H Q
def kCB (g : DRC) (Q : QD) (ds : List D) (μ : M) : Prop := g ds μ Q
def dCB (g : DRC) (t : DTA) (W : XD) (δ : Sl) (μ : M) (Q : QD) : Prop := t W δ μ (kCB g Q)
theorem liftCB {K : PySem.W.Frag} {r : List V → Hp → VK → Prop} {g : DRC} (l : LCall K r g) : ∀ σ H Q, upE K W (dCB g tr) σ H Q → tCB r (upA K W tr) σ H Q :=
  fun σ H Q ⟨δ, μ, Hc, Qd, Xd, s, rs, h, rt, rx⟩ => ⟨δ, μ, Hc, _, Xd, s, rs, h, fun ds μ1 h1 vs H1 Hc1 e1 s1 r1 => l vs ds H1 Hc1 μ1 Q Qd s1 r1 h1 (rt.mono e1), rx⟩
variable {id T : String} {r : List V → Hp → VK → Prop} {g : DRC}
theorem de_blt (hc : CallR X (.builtin id) r) (l : LCall X.K r g) (hm : X.mg x = none) (hv : bootBuiltins x = some (.builtin id)) (ha : DA X W (e :: es) tr) (hg : Gl X x := by rfl) (hn : x ≠ "__name__" := by decide) (hdb : (x == ("__debug__" : Str)) = false := by decide)
    (he : starEach (e :: es) X.env = (false, eval e X.env) :: starEach es X.env := by rfl) (hpl : (backTo pos (starEach es X.env)).any (·.1) = false := by rfl) : DE X W (.Call (.Name x p) (e :: es) [] pos) (dCB g tr) := PE.imp (pe_callB hc hg hm hv ha hn hdb he hpl) (liftCB l)
theorem de_blty (hc : CallR X (.type T) r) (l : LCall X.K r g) (hm : X.mg x = none) (hv : bootBuiltins x = some (.type T)) (ha : DA X W (e :: es) tr) (hg : Gl X x := by rfl) (hn : x ≠ "__name__" := by decide) (hdb : (x == ("__debug__" : Str)) = false := by decide)
    (he : starEach (e :: es) X.env = (false, eval e X.env) :: starEach es X.env := by rfl) (hpl : (backTo pos (starEach es X.env)).any (·.1) = false := by rfl) : DE X W (.Call (.Name x p) (e :: es) [] pos) (dCB g tr) := PE.imp (pe_callTy hc hg hm hv ha hn hdb he hpl) (liftCB l)
/-- a built-in's name as a value -/
theorem de_bltn {v : V} {u : Value} (hm : X.mg x = none) (hv : bootBuiltins x = some u) (r : RelV v u) (hg : Gl X x := by rfl) (hn : x ≠ "__name__" := by decide) (hd : (x == ("__debug__" : Str)) = false := by decide) : DE X W (.Name x p) (dC (.raw v)) := de_c (pe_bltn hg hm hv r hn hd) fun _ => .raw v
end
def gLen : DRC := fun ds μ Q => match ds with
  | [d] => match view μ d with
    | .lst xs => Q (.int xs.length) μ
    | .tup xs => Q (.int xs.length) μ
    | .scr ns => Q (.int ns.length) μ
    | .str z => z.length ≤ sizeLine ∧ Q (.int z.length) μ
    | _ => False
  | _ => False
theorem RepA.one' {K : PySem.W.Frag} {H : Hp} {vs : List V} {d : D} (r : RepA K H vs [d]) : ∃ v, vs = [v] ∧ Rep K H v d := by
  cases r with
  | cons a r => cases r; exact ⟨_, rfl, a⟩
theorem RepA.two' {K : PySem.W.Frag} {H : Hp} {vs : List V} {d e : D} (r : RepA K H vs [d, e]) : ∃ v u, vs = [v, u] ∧ Rep K H v d ∧ Rep K H u e := by
  cases r with
  | cons a r =>
    obtain ⟨u, rfl, b⟩ := r.one'
    exact ⟨_, u, rfl, a, b⟩
theorem l_len {K : PySem.W.Frag} : LCall K (fun xs H Q => ∃ x n, xs = [x] ∧ LenV K x H n ∧ Q (.int n) H) gLen := by
  intro vs ds H Hc μ Q Qd s ra h rt
  unfold gLen at h
  split at h
  · obtain ⟨v, rfl, r⟩ := ra.one'
    split at h
    · rename_i xs e1
      obtain ⟨a, ws, rfl, ha, rb⟩ := view_lst s r e1
      exact ⟨_, _, rfl, .inl ⟨ws, SqL.of ha, rfl⟩, rt.val s (.int _) (by rw [rb.length]; exact h)⟩
    · rename_i xs e1
      obtain ⟨a, ws, rfl, ha, rb⟩ := view_tup s r e1
      exact ⟨_, _, rfl, .inr ⟨ws, ha, rfl⟩, rt.val s (.int _) (by rw [rb.length]; exact h)⟩
    · rename_i ns e1
      obtain ⟨a, rfl, ha⟩ := view_scr s r e1
      exact ⟨_, _, rfl, .inl ⟨_, ha, rfl⟩, rt.val s (.int _) (by rw [List.length_map]; exact h)⟩
    · rename_i z e1
      cases view_str r e1
      exact ⟨_, _, rfl, ⟨h.1, rfl⟩, rt.val s (.int _) h.2⟩
    · exact h.elim
  · exact h.elim
def gAbs : DRC := fun ds μ Q => match ds with
  | [.int i] => Q (.int (if i < 0 then -i else i)) μ
  | _ => False
theorem l_abs {K : PySem.W.Frag} : LCall K (fun xs H Q => ∃ i, xs = [V.int i] ∧ Q (.int (if i < 0 then -i else i)) H) gAbs := by
  intro vs ds H Hc μ Q Qd s ra h rt
  unfold gAbs at h
  split at h
  · obtain ⟨v, rfl, r⟩ := ra.one'
    cases r
    exact ⟨_, rfl, rt.val s (.int _) h⟩
  · exact h.elim
def gMax2 : DRC := fun ds μ Q => match ds with
  | [.int i, .int j] => Q (.int (if j > i then j else i)) μ
  | _ => False
def gMin2 : DRC := fun ds μ Q => match ds with
  | [.int i, .int j] => Q (.int (if j < i then j else i)) μ
  | _ => False
theorem l_max2 {K : PySem.W.Frag} : LCall K (fun xs H Q => ∃ i j, xs = [V.int i, V.int j] ∧ Q (.int (if j > i then j else i)) H) gMax2 := by
  intro vs ds H Hc μ Q Qd s ra h rt
  unfold gMax2 at h
  split at h
  · obtain ⟨v, u, rfl, r1, r2⟩ := ra.two'
    cases r1; cases r2
    exact ⟨_, _, rfl, rt.val s (.int _) h⟩
  · exact h.elim
theorem l_min2 {K : PySem.W.Frag} : LCall K (fun xs H Q => ∃ i j, xs = [V.int i, V.int j] ∧ Q (.int (if j < i then j else i)) H) gMin2 := by
  intro vs ds H Hc μ Q Qd s ra h rt
  unfold gMin2 at h
  split at h
  · obtain ⟨v, u, rfl, r1, r2⟩ := ra.two'
    cases r1; cases r2
    exact ⟨_, _, rfl, rt.val s (.int _) h⟩
  · exact h.elim
/-- lists of truths -/
def blsOf : List D → Option (List Bool)
  | [] => some []
  | .bl b :: ds => (blsOf ds).map (b :: ·)
  | _ => none
def intsOf : List D → Option (List Int)
  | [] => some []
  | .int b :: ds => (intsOf ds).map (b :: ·)
  | _ => none
theorem blsOf_eq : ∀ {ds : List D} {bs : List Bool}, blsOf ds = some bs → ds = bs.map D.bl
  | [], bs, h => by cases h; rfl
  | .bl b :: ds, bs, h => by
    unfold blsOf at h
    cases e : blsOf ds with
    | none => rw [e] at h; cases h
    | some cs =>
      rw [e] at h
      cases h
      rw [blsOf_eq e]
      rfl
  | .non :: _, _, h => by cases h
  | .int _ :: _, _, h => by cases h
  | .str _ :: _, _, h => by cases h
  | .lst _ :: _, _, h => by cases h
  | .tup _ :: _, _, h => by cases h
  | .scr _ :: _, _, h => by cases h
  | .raw _ :: _, _, h => by cases h
  | .emp :: _, _, h => by cases h
theorem intsOf_eq : ∀ {ds : List D} {bs : List Int}, intsOf ds = some bs → ds = bs.map D.int
  | [], bs, h => by cases h; rfl
  | .int b :: ds, bs, h => by
    unfold intsOf at h
    cases e : intsOf ds with
    | none => rw [e] at h; cases h
    | some cs =>
      rw [e] at h
      cases h
      rw [intsOf_eq e]
      rfl
  | .non :: _, _, h => by cases h
  | .bl _ :: _, _, h => by cases h
  | .str _ :: _, _, h => by cases h
  | .lst _ :: _, _, h => by cases h
  | .tup _ :: _, _, h => by cases h
  | .scr _ :: _, _, h => by cases h
  | .raw _ :: _, _, h => by cases h
  | .emp :: _, _, h => by cases h
theorem blsOf_map : ∀ bs : List Bool, blsOf (bs.map D.bl) = some bs
  | [] => rfl
  | b :: bs => by rw [List.map_cons, blsOf, blsOf_map bs]; rfl
theorem intsOf_map : ∀ bs : List Int, intsOf (bs.map D.int) = some bs
  | [] => rfl
  | b :: bs => by rw [List.map_cons, intsOf, intsOf_map bs]; rfl
def gAll : DRC := fun ds μ Q => match ds with
  | [d] => match view μ d with
    | .lst xs => OptQ ((blsOf xs).map fun bs => .bl (bs.all fun b => b)) Q μ
    | _ => False
  | _ => False
def gAny : DRC := fun ds μ Q => match ds with
  | [d] => match view μ d with
    | .lst xs => OptQ ((blsOf xs).map fun bs => .bl (bs.any fun b => b)) Q μ
    | _ => False
  | _ => False
def gSum : DRC := fun ds μ Q => match ds with
  | [d] => match view μ d with
    | .lst xs => OptQ ((intsOf xs).map fun bs => .int bs.sum) Q μ
    | .tup xs => OptQ ((intsOf xs).map fun bs => .int bs.sum) Q μ
    | _ => False
  | _ => False
theorem l_all {K : PySem.W.Frag} : LCall K (rAll K) gAll := by
  intro vs ds H Hc μ Q Qd s ra h rt
  unfold gAll at h
  split at h
  · obtain ⟨v, rfl, r⟩ := ra.one'
    split at h
    · rename_i xs e1
      obtain ⟨a, ws, rfl, ha, rb⟩ := view_lst s r e1
      obtain ⟨bs', hb', hq⟩ := h.ex
      obtain ⟨bs, hb, rfl⟩ := Option.map_eq_some_iff.mp hb'
      rw [blsOf_eq hb] at rb
      rw [rb.bls] at ha
      exact ⟨a, bs, rfl, SqL.of ha, rt.val s (.bl _) hq⟩
    · exact h.elim
  · exact h.elim
open PyProof.Rows in
theorem sum_rawT {prog : Program} {w : World} {A : Around} {E : Value → Shared → Prop} {s : Shared} {l : Addr} {its : List Value} {ns : List Int} {Q : Value → Shared → Prop} (hh : A.handled = none) (hl : s.heap.IsTuple l its.toArray) (hi : IntsAre its ns)
    (h : ∀ h' tk t', (∀ b o, s.heap.get? b = some o → h'.get? b = some o) → Q (.int ns.sum t') { s with heap := h', toks := tk }) : wpAny (model prog w) A (call (.builtin "sum") [.ref l]) Q E s := by
  obtain ⟨xs, e⟩ := hi.allInts.items
  have hn : numsOf (intItems xs).toList = ns := by rw [← e]; exact hi.numsOf
  rw [nums_intItems] at hn
  rw [e] at hl
  refine PySem.W.ktm_sumG hh hl fun h' tk t' hk => ?_
  have := h h' tk t' hk
  rw [preSum_eq, List.take_of_length_le (by simp), hn]; exact this
def rSumA (K : PySem.W.Frag) : List V → Hp → VK → Prop := fun vs H Q => ∃ (a : Addr) (ns : List Int), vs = [V.ref a] ∧ (SqL K H a (ns.map V.int) ∨ SqT K H a (ns.map V.int)) ∧ Q (.int ns.sum) H
theorem cr_sumA {X : Cx} (hc : X.calm = true) : CallR X (.builtin "sum") (rSumA X.K) := by
  intro pins s σ H vs us Q I r h
  obtain ⟨a, ns, rfl, hs | hs, q⟩ := h
  · exact cr_sum hc pins s σ H _ us Q I r ⟨a, ns, rfl, hs, q⟩
  · obtain ⟨its, rv, hl, _⟩ := I.tuple hs
    rw [Vals.ref1 r]
    exact sum_rawT (I.ok.hd hc) hl rv.ints fun h' tk t' hk => ⟨.int _, H, I.kept hk, ⟨_, rfl⟩, q⟩
theorem l_sum {K : PySem.W.Frag} : LCall K (rSumA K) gSum := by
  intro vs ds H Hc μ Q Qd s ra h rt
  unfold gSum at h
  split at h
  · obtain ⟨v, rfl, r⟩ := ra.one'
    split at h
    · rename_i xs e1
      obtain ⟨a, ws, rfl, ha, rb⟩ := view_lst s r e1
      obtain ⟨bs', hb', hq⟩ := h.ex
      obtain ⟨bs, hb, rfl⟩ := Option.map_eq_some_iff.mp hb'
      rw [intsOf_eq hb] at rb
      rw [rb.ints] at ha
      exact ⟨a, bs, rfl, .inl (SqL.of ha), rt.val s (.int _) hq⟩
    · rename_i xs e1
      obtain ⟨a, ws, rfl, ha, rb⟩ := view_tup s r e1
      obtain ⟨bs', hb', hq⟩ := h.ex
      obtain ⟨bs, hb, rfl⟩ := Option.map_eq_some_iff.mp hb'
      rw [intsOf_eq hb] at rb
      rw [rb.ints] at ha
      exact ⟨a, bs, rfl, .inr ha, rt.val s (.int _) hq⟩
    · exact h.elim
  · exact h.elim
/-- list(xs): data, or a cell -/
def gList : DRC := fun ds μ Q => match ds with
  | [d] => match view μ d with
    | .lst xs => Q (.lst xs) μ
    | .tup xs => Q (.lst xs) μ
    | _ => False
  | _ => False
def gListC : DRC := fun ds μ Q => match ds with
  | [d] => match view μ d with
    | .lst xs => NewC xs μ Q
    | .tup xs => NewC xs μ Q
    | _ => False
  | _ => False
abbrev rListOf (K : PySem.W.Frag) : List V → Hp → VK → Prop := fun xs H Q => ∃ p ys, xs = [.ref p] ∧ (SqL K H p ys ∨ SqT K H p ys) ∧ ∀ l, H l = none → Q (.ref l) (upd H l (.lst ys))
theorem l_list {K : PySem.W.Frag} : LCall K (rListOf K) gList := by
  intro vs ds H Hc μ Q Qd s ra h rt
  unfold gList at h
  split at h
  · obtain ⟨v, rfl, r⟩ := ra.one'
    split at h
    · rename_i xs e1
      obtain ⟨a, ws, rfl, ha, rb⟩ := view_lst s r e1
      exact ⟨a, ws, rfl, .inl (SqL.of ha), rt.new s rb h⟩
    · rename_i xs e1
      obtain ⟨a, ws, rfl, ha, rb⟩ := view_tup s r e1
      exact ⟨a, ws, rfl, .inr ha, rt.new s rb h⟩
    · exact h.elim
  · exact h.elim
theorem l_listC {K : PySem.W.Frag} : LCall K (rListOf K) gListC := by
  intro vs ds H Hc μ Q Qd s ra h rt
  unfold gListC at h
  split at h
  · obtain ⟨v, rfl, r⟩ := ra.one'
    split at h
    · rename_i xs e1
      obtain ⟨a, ws, rfl, ha, rb⟩ := view_lst s r e1
      exact ⟨a, ws, rfl, .inl (SqL.of ha), rt.newC s rb h⟩
    · rename_i xs e1
      obtain ⟨a, ws, rfl, ha, rb⟩ := view_tup s r e1
      exact ⟨a, ws, rfl, .inr ha, rt.newC s rb h⟩
    · exact h.elim
  · exact h.elim
def gTuple : DRC := fun ds μ Q => match ds with
  | [d] => match view μ d with
    | .lst xs => Q (.tup xs) μ
    | _ => False
  | _ => False
theorem l_tuple {K : PySem.W.Frag} : LCall K (fun xs H Q => ∃ p ys, xs = [.ref p] ∧ ((SqL K H p ys ∧ ∀ l, H l = none → Q (.ref l) (upd H l (.tup ys))) ∨ (SqT K H p ys ∧ Q (.ref p) H))) gTuple := by
  intro vs ds H Hc μ Q Qd s ra h rt
  unfold gTuple at h
  split at h
  · obtain ⟨v, rfl, r⟩ := ra.one'
    split at h
    · rename_i xs e1
      obtain ⟨a, ws, rfl, ha, rb⟩ := view_lst s r e1
      exact ⟨a, ws, rfl, .inl ⟨SqL.of ha, rt.newT s rb h⟩⟩
    · exact h.elim
  · exact h.elim
/-! isinstance of data against a built-in class -/
def tyN : D → Option String
  | .non => some "NoneType"
  | .bl _ => some "bool"
  | .int _ => some "int"
  | .str _ => some "str"
  | .lst _ => some "list"
  | .tup _ => some "tuple"
  | .emp => some "dict"
  | _ => none
theorem tyX_of {K : PySem.W.Frag} {H : Hp} {v : V} {d : D} {n : String} (r : Rep K H v d) (h : tyN d = some n) : TyX K H v (.type n) := by
  cases r with
  | non => cases h; exact .base .non
  | bl b => cases h; exact .base (.bl b)
  | int b => cases h; exact .base (.int b)
  | str b => cases h; exact .base (.str b)
  | lst a _ => cases h; exact .base (.lst a)
  | tup a _ =>
    cases h
    rcases a with (a | ⟨o, a⟩) | ⟨o, its, n, a, b, _⟩
    · exact .base (.tup a)
    · exact .fTuple a
    · exact .kTuple a b
  | emp a => cases h; exact .base (.dK a)
  | _ => cases h
def subN : String → String → Bool
  | "bool", "int" => true
  | a, b => a == b
def gIsi (T : String) : DR2 := fun a b μ Q => match b with
  | .raw (.ty T') => T' = T ∧ OptQ ((tyN (view μ a)).map fun n => .bl (subN n T)) Q μ
  | _ => False
theorem kitB_all {d : D} {n T : String} (h : tyN d = some n) (hT : T = "int" ∨ T = "bool" ∨ T = "str" ∨ T = "list" ∨ T = "tuple") : kitB n T = some (subN n T) := by
  have hn : n = "NoneType" ∨ n = "bool" ∨ n = "int" ∨ n = "str" ∨ n = "list" ∨ n = "tuple" ∨ n = "dict" := by
    cases d <;> first | (cases h; simp) | cases h
  rcases hn with rfl | rfl | rfl | rfl | rfl | rfl | rfl <;> rcases hT with rfl | rfl | rfl | rfl | rfl <;> decide +kernel
def gIsiC (T : String) : DRC := fun ds μ Q => match ds with
  | [a, b] => gIsi T a b μ Q
  | _ => False
theorem l_isi {K : PySem.W.Frag} {T : String} (hT : T = "int" ∨ T = "bool" ∨ T = "str" ∨ T = "list" ∨ T = "tuple") : LCall K (rIsi K) (gIsiC T) := by
  intro vs ds H Hc μ Q Qd s ra h rt
  unfold gIsiC at h
  split at h
  · obtain ⟨v, u, rfl, r1, r2⟩ := ra.two'
    unfold gIsi at h
    split at h
    · rename_i T'
      obtain ⟨e1, h2⟩ := h
      subst e1
      obtain ⟨n', hn', hq⟩ := h2.ex
      obtain ⟨n, hn, rfl⟩ := Option.map_eq_some_iff.mp hn'
      cases r2
      exact ⟨v, _, .type n, .type T', _, rfl, .ty _, tyX_of (view_rep s r1) hn, kit_ty (kitB_all hn hT), rt.val s (.bl _) hq⟩
    · exact h.elim
  · exact h.elim
end DL
set_option Elab.async false
set_option linter.all false
set_option maxRecDepth 100000
set_option maxHeartbeats 2000000
/-! The data layer: statements, loops, comprehensions, errors. -/
namespace DL
open PySem PySem.Spec L2
section
variable {X : Cx} {W : WX} {a b c e : Expr} {es : List Expr} {pos p : Pos} {ta tb te : DTE} {tr : DTA} {st : Stmt} {rest body : List Stmt} {t u : DTS}
def dNext (E : DEnds) (δ : Sl) (μ : M) : Prop := E.nx δ μ
def dSeq (t u : DTS) (E : DEnds) (δ : Sl) (μ : M) : Prop := t { E with nx := u E } δ μ
theorem dss_nil : DSs X W [] dNext := PSs.imp pss_nil fun D σ H ⟨δ, μ, Hc, Dd, s, rs, h, rt⟩ => rt.nx _ _ h _ _ Hc (Same.refl _) s rs
theorem dss_cons (h1 : DS X W st t) (h2 : DSs X W rest u) : DSs X W (st :: rest) (dSeq t u) := PSs.imp (pss_cons h1 h2) fun D σ H ⟨δ, μ, Hc, Dd, s, rs, h, rt⟩ =>
  ⟨δ, μ, Hc, { Dd with nx := u Dd }, s, rs, h, ⟨fun δ' μ' h' σ' H' Hc' e' s' rs' => ⟨δ', μ', Hc', Dd, s', rs', h', rt.mono e'⟩, rt.rt, rt.bk, rt.ct, rt.xc⟩⟩
theorem dss_one (h1 : DS X W st t) : DSs X W [st] t := pss_one h1
def kDrop (E : DEnds) (δ : Sl) (_ : D) (μ : M) : Prop := E.nx δ μ
def dDrop (te : DTE) (E : DEnds) (δ : Sl) (μ : M) : Prop := te (E.xc δ) δ μ (kDrop E δ)
theorem ds_expr (he : DE X W e te) (hs : swapsWith e none pos.line X.env = pure false := by rfl) : DS X W (.Expr e pos) (dDrop te) := PS.imp (ps_expr he hs) fun D σ H ⟨δ, μ, Hc, Dd, s, rs, h, rt⟩ =>
  ⟨δ, μ, Hc, _, _, s, rs, h, fun d μ1 h1 v H1 Hc1 e1 s1 r1 => rt.nx _ _ h1 _ _ _ e1 s1 (rs.mono e1), rt.xc.at rs⟩
def dRet (te : DTE) (E : DEnds) (δ : Sl) (μ : M) : Prop := te (E.xc δ) δ μ E.rt
theorem ds_ret (he : DE X W e te) : DS X W (.Return (some e) pos) (dRet te) := PS.imp (ps_ret he) fun D σ H ⟨δ, μ, Hc, Dd, s, rs, h, rt⟩ => ⟨δ, μ, Hc, _, _, s, rs, h, rt.rt, rt.xc.at rs⟩
def dRetN (E : DEnds) (_ : Sl) (μ : M) : Prop := E.rt .non μ
def ifS (b : Bool) (t u : DTS) (E : DEnds) (δ : Sl) (μ : M) : Prop := match b with
  | true => t E δ μ
  | false => u E δ μ
theorem ifS_of {b : Bool} {t u : DTS} {E : DEnds} {δ : Sl} {μ : M} (h1 : b = true → t E δ μ) (h2 : b = false → u E δ μ) : ifS b t u E δ μ := by
  cases b with
  | true => exact h1 rfl
  | false => exact h2 rfl
theorem ifS_dec {p : Prop} [Decidable p] {t u : DTS} {E : DEnds} {δ : Sl} {μ : M} (h1 : p → t E δ μ) (h2 : ¬ p → u E δ μ) : ifS (decide p) t u E δ μ := ifS_of (fun h => h1 (of_decide_eq_true h)) (fun h => h2 (of_decide_eq_false h))
theorem ifS_ndec {p : Prop} [Decidable p] {t u : DTS} {E : DEnds} {δ : Sl} {μ : M} (h1 : ¬ p → t E δ μ) (h2 : p → u E δ μ) : ifS (!decide p) t u E δ μ := ifS_of (fun h => h1 (by simpa using h)) (fun h => h2 (by simpa using h))
def kIf (t u : DTS) (E : DEnds) (δ : Sl) (b : Bool) (μ : M) : Prop := ifS b t u E δ μ
def dIf (c : DTT) (t u : DTS) (E : DEnds) (δ : Sl) (μ : M) : Prop := c (E.xc δ) δ μ (kIf t u E δ)
theorem ds_if {tc : DTT} {sa sb : List Stmt} (hc : DT X W c tc) (ha : DSs X W sa t) (hb : DSs X W sb u) : DS X W (.If c sa sb pos) (dIf tc t u) := PS.imp (ps_if hc ha hb) fun D σ H ⟨δ, μ, Hc, Dd, s, rs, h, rt⟩ =>
  ⟨δ, μ, Hc, _, _, s, rs, h, fun b μ1 h1 H1 Hc1 e1 s1 => by
    cases b with
    | true => exact ⟨δ, μ1, Hc1, Dd, s1, rs.mono e1, h1, rt.mono e1⟩
    | false => exact ⟨δ, μ1, Hc1, Dd, s1, rs.mono e1, h1, rt.mono e1⟩, rt.xc.at rs⟩
/-- name = e -/
def kSet (i : Nat) (E : DEnds) (δ : Sl) (d : D) (μ : M) : Prop := E.nx (δ.set i (some d)) μ
def dSet (i : Nat) (te : DTE) (E : DEnds) (δ : Sl) (μ : M) : Prop := te (E.xc δ) δ μ (kSet i E δ)
theorem ds_set {i : Nat} {x : Str} {pos' : Pos} (hN : X.N.Nodup) (he : DE X W e te) (hi : X.N[i]? = some x := by rfl) (hx : Loc X.env.scope x := by first | exact .inl rfl | exact .inr rfl)
    (hs : swapsWith e (some (.Name x pos')) pos.line X.env = pure false := by rfl) (hf : X.fn x = true ∨ X.env.scope.names.lookup x = some .local := by first | exact .inl rfl | exact .inr rfl | assumption) :
    DS X W (.Assign [.Name x pos'] e pos) (dSet i te) := PS.imp (ps_set hN hi hx he hs hf) fun D σ H ⟨δ, μ, Hc, Dd, s, rs, h, rt⟩ =>
  ⟨δ, μ, Hc, _, _, s, rs, h, fun d μ1 h1 v H1 Hc1 e1 s1 r1 => rt.nx _ _ h1 _ _ _ e1 s1 ((rs.mono e1).set i r1), rt.xc.at rs⟩
/-- a, b = x, y -/
def kPar (i j : Nat) (E : DEnds) (δ : Sl) (ds : List D) (μ : M) : Prop := match ds with
  | [d, e] => E.nx ((δ.set i (some d)).set j (some e)) μ
  | _ => False
def dPar (i j : Nat) (tr : DTA) (E : DEnds) (δ : Sl) (μ : M) : Prop := tr (E.xc δ) δ μ (kPar i j E δ)
theorem ds_par {i j : Nat} {x y : Str} {px py pt : Pos} {kt k2 pt2} (hN : X.N.Nodup) (ha : DA X W [a, b] tr) (hij : i ≠ j := by decide) (hi : X.N[i]? = some x := by rfl) (hj : X.N[j]? = some y := by rfl) (hc : X.calm = true := by rfl)
    (hx : X.env.scope.names.lookup x = some .local := by rfl) (hy : X.env.scope.names.lookup y = some .local := by rfl)
    (hw : swappedStores [.Tuple [.Name x px, .Name y py] kt pt] (.Tuple [a, b] k2 pt2) X.env = pure (some [x, y]) := by rfl)
    (hs : swapsWithSole [.Tuple [.Name x px, .Name y py] kt pt] (.Tuple [a, b] k2 pt2) pos.line X.env = pure false := by rfl) :
    DS X W (.Assign [.Tuple [.Name x px, .Name y py] kt pt] (.Tuple [a, b] k2 pt2) pos) (dPar i j tr) := PS.imp (ps_par hc hN hi hj hij hx hy ha hw hs) fun D σ H ⟨δ, μ, Hc, Dd, s, rs, h, rt⟩ =>
  ⟨δ, μ, Hc, _, _, s, rs, h, fun ds μ1 h1 vs H1 Hc1 e1 s1 r1 => by
    unfold kPar at h1
    split at h1
    · obtain ⟨v, w, rfl, ra, rb⟩ := r1.two'
      exact ⟨v, w, rfl, rt.nx _ _ h1 _ _ _ e1 s1 (((rs.mono e1).set i ra).set j rb)⟩
    · exact h1.elim, rt.xc.at rs⟩
/-- name op= e -/
def kAug (i : Nat) (g : DR2) (E : DEnds) (δ : Sl) (x : D) (y : D) (μ : M) : Prop := g x y μ (kSet i E δ)
def dAug (i : Nat) (g : DR2) (te : DTE) (E : DEnds) (δ : Sl) (μ : M) : Prop := match δ[i]? with
  | some (some x) => te (E.xc δ) δ μ (kAug i g E δ x)
  | _ => False
/-! ### targets that are names -/
abbrev TGD := M → D → Option (List (Nat × D))
abbrev TGDs := M → List D → Option (List (Nat × D))
def tgN (i : Nat) : TGD := fun _ d => some [(i, d)]
def tgT (fs : TGDs) : TGD := fun μ d => match view μ d with
  | .tup ds => fs μ ds
  | _ => none
def tgNil : TGDs := fun _ ds => match ds with
  | [] => some []
  | _ => none
def tgCons (f : TGD) (fs : TGDs) : TGDs := fun μ ds => match ds with
  | d :: ds => (f μ d).bind fun b => (fs μ ds).map (b ++ ·)
  | _ => none
def sets {α : Type} (bs : List (Nat × α)) (σ : List (Option α)) : List (Option α) := bs.foldl (fun σ b => σ.set b.1 (some b.2)) σ
theorem sets_append {α : Type} (as bs : List (Nat × α)) (σ : List (Option α)) : sets (as ++ bs) σ = sets bs (sets as σ) := List.foldl_append ..
def RepB (K : PySem.W.Frag) (H : Hp) : List (Nat × V) → List (Nat × D) → Prop := Paired fun x y => x.1 = y.1 ∧ Rep K H x.2 y.2
theorem RepS.sets {K : PySem.W.Frag} {H : Hp} : ∀ {bs : List (Nat × V)} {cs : List (Nat × D)} {σ : L2.St} {δ : Sl}, RepB K H bs cs → RepS K H σ δ → RepS K H (sets bs σ) (sets cs δ)
  | _, _, _, _, .nil, r => r
  | (i, v) :: bs, (j, d) :: cs, σ, δ, .cons h t, r => by
    obtain ⟨h1, h2⟩ := h
    cases (show i = j from h1)
    exact RepS.sets (bs := bs) (cs := cs) t (r.set i h2)
theorem RepB.append {K : PySem.W.Frag} {H : Hp} : ∀ {bs bs' : List (Nat × V)} {cs cs' : List (Nat × D)}, RepB K H bs cs → RepB K H bs' cs' → RepB K H (bs ++ bs') (cs ++ cs')
  | _, _, _, _, .nil, s => s
  | _, _, _, _, .cons h t, s => .cons h (RepB.append t s)
theorem RepB.mono {K : PySem.W.Frag} {H H' : Hp} (e : Same H H') : ∀ {bs : List (Nat × V)} {cs : List (Nat × D)}, RepB K H bs cs → RepB K H' bs cs
  | _, _, .nil => .nil
  | _, _, .cons h t => .cons ⟨h.1, h.2.mono e⟩ (RepB.mono e t)
theorem RepB.fst {K : PySem.W.Frag} {H : Hp} : ∀ {bs : List (Nat × V)} {cs : List (Nat × D)}, RepB K H bs cs → bs.map (·.1) = cs.map (·.1)
  | _, _, .nil => rfl
  | _, _, .cons h t => by rw [List.map_cons, List.map_cons, h.1, RepB.fst t]
def LG (K : PySem.W.Frag) (g : TG) (f : TGD) : Prop := ∀ (v : V) (d : D) (H Hc : Hp) (μ : M) (σ : L2.St) (Q : L2.St → Hp → Prop) (cs : List (Nat × D)), Split K H Hc μ → Rep K Hc v d → f μ d = some cs → (∀ bs, RepB K Hc bs cs → Q (sets bs σ) H) → g v σ H Q
def LGs (K : PySem.W.Frag) (g : TGs) (f : TGDs) : Prop := ∀ (vs : List V) (ds : List D) (H Hc : Hp) (μ : M) (σ : L2.St) (Q : L2.St → Hp → Prop) (cs : List (Nat × D)), Split K H Hc μ → RepA K Hc vs ds → f μ ds = some cs → (∀ bs, RepB K Hc bs cs → Q (sets bs σ) H) → g vs σ H Q
theorem lg_name {K : PySem.W.Frag} {i : Nat} : LG K (gName i) (tgN i) := fun v d H Hc μ σ Q cs s r h q => by
  cases h
  exact q [(i, v)] (.cons ⟨rfl, r⟩ .nil)
theorem lg_nil {K : PySem.W.Frag} : LGs K gNil tgNil := fun vs ds H Hc μ σ Q cs s r h q => by
  cases r with
  | nil => cases h; exact ⟨rfl, q [] .nil⟩
  | cons _ _ => cases h
theorem lg_cons {K : PySem.W.Frag} {g : TG} {gs : TGs} {f : TGD} {fs : TGDs} (h1 : LG K g f) (h2 : LGs K gs fs) : LGs K (gCons g gs) (tgCons f fs) := fun vs ds H Hc μ σ Q cs s r h q => by
  cases r with
  | nil => cases h
  | @cons v vs d ds a ra =>
    have h' : ((f μ d).bind fun b => (fs μ ds).map (b ++ ·)) = some cs := h
    cases e1 : f μ d with
    | none => rw [e1] at h'; cases h'
    | some b1 =>
      rw [e1] at h'
      cases e2 : fs μ ds with
      | none => rw [Option.bind_some, e2] at h'; cases h'
      | some b2 =>
        rw [Option.bind_some, e2] at h'
        cases h'
        refine ⟨v, vs, rfl, h1 v d H Hc μ σ _ b1 s a e1 fun bs rb => h2 vs ds H Hc μ _ _ b2 s ra e2 fun bs2 rb2 => ?_⟩
        rw [← sets_append]
        exact q _ (rb.append rb2)
theorem lg_tup {K : PySem.W.Frag} {n : Nat} {gs : TGs} {fs : TGDs} (h : LGs K gs fs) (hn : ∀ μ ds cs, fs μ ds = some cs → ds.length = n) : LG K (gTup K n gs) (tgT fs) := fun v d H Hc μ σ Q cs s r hf q => by
  unfold tgT at hf
  split at hf
  · rename_i ds e1
    obtain ⟨a, vs, rfl, ha, ra⟩ := view_tup s r e1
    exact ⟨a, vs, rfl, ha, by rw [ra.length]; exact hn _ _ _ hf, h vs ds H Hc μ σ Q cs s ra hf q⟩
  · cases hf
theorem ln_nil : ∀ (μ : M) ds cs, tgNil μ ds = some cs → ds.length = 0 := fun μ ds cs h => by
  cases ds with
  | nil => rfl
  | cons _ _ => cases h
theorem ln_cons {f : TGD} {fs : TGDs} {n : Nat} (h : ∀ (μ : M) ds cs, fs μ ds = some cs → ds.length = n) : ∀ (μ : M) ds cs, tgCons f fs μ ds = some cs → ds.length = n + 1 := fun μ ds cs hh => by
  cases ds with
  | nil => cases hh
  | cons d ds =>
    have h' : ((f μ d).bind fun b => (fs μ ds).map (b ++ ·)) = some cs := hh
    cases e1 : f μ d with
    | none => rw [e1] at h'; cases h'
    | some b1 =>
      rw [e1] at h'
      cases e2 : fs μ ds with
      | none => rw [Option.bind_some, e2] at h'; cases h'
      | some b2 => rw [List.length_cons, h μ ds b2 e2]
/-- target = e -/
def setsK (o : Option (List (Nat × D))) (E : DEnds) (δ : Sl) (μ : M) : Prop := match o with
  | some cs => E.nx (sets cs δ) μ
  | none => False
theorem setsK.ex {o : Option (List (Nat × D))} {E : DEnds} {δ : Sl} {μ : M} (h : setsK o E δ μ) : ∃ cs, o = some cs ∧ E.nx (sets cs δ) μ := by
  cases o with
  | none => exact h.elim
  | some x => exact ⟨x, rfl, h⟩
def kAsg (f : TGD) (E : DEnds) (δ : Sl) (d : D) (μ : M) : Prop := setsK (f μ d) E δ μ
def dAsg (te : DTE) (f : TGD) (E : DEnds) (δ : Sl) (μ : M) : Prop := te (E.xc δ) δ μ (kAsg f E δ)
theorem ds_asg {tg : Expr} {g : TG} {f : TGD} (he : DE X W e te) (hg : PG X tg g) (lg : LG X.K g f) (hs : swapsWithSole [tg] e pos.line X.env = pure false := by rfl) (hw : swappedStores [tg] e X.env = pure none := by rfl)
    (h1 : (assignEach [tg] X.env).map (·.2) = [assign tg X.env] := by rfl) : DS X W (.Assign [tg] e pos) (dAsg te f) := PS.imp (ps_asg he hg hs hw h1) fun D σ H ⟨δ, μ, Hc, Dd, s, rs, h, rt⟩ =>
  ⟨δ, μ, Hc, _, _, s, rs, h, fun d μ1 h1 v H1 Hc1 e1 s1 r1 => by
    obtain ⟨cs, hc, hq⟩ := setsK.ex h1
    exact lg v d H1 Hc1 μ1 σ _ cs s1 r1 hc fun bs rb => rt.nx _ _ hq _ _ _ e1 s1 (RepS.sets rb (rs.mono e1)), rt.xc.at rs⟩
/-! ### o[i] = e, o a cell -/
def putIx (o : Option Nat) (p : Addr) (ds : List D) (d : D) (E : DEnds) (δ : Sl) (μ : M) : Prop := match o with
  | some j => E.nx δ (updM μ p (.lst (ds.set j d)))
  | none => False
theorem putIx.ex {o : Option Nat} {p : Addr} {ds : List D} {d : D} {E : DEnds} {δ : Sl} {μ : M} (h : putIx o p ds d E δ μ) : ∃ j, o = some j ∧ E.nx δ (updM μ p (.lst (ds.set j d))) := by
  cases o with
  | none => exact h.elim
  | some x => exact ⟨x, rfl, h⟩
def kSetIx3 (E : DEnds) (δ : Sl) (d o i : D) (μ : M) : Prop := match o, i with
  | .raw (.ref p), .int k => ∃ ds, μ p = some (.lst ds) ∧ putIx (ixN ds.length k) p ds d E δ μ
  | _, _ => False
def kSetIx2 (ti : DTE) (E : DEnds) (δ : Sl) (d o : D) (μ : M) : Prop := ti (E.xc δ) δ μ (kSetIx3 E δ d o)
def kSetIx1 (to ti : DTE) (E : DEnds) (δ : Sl) (d : D) (μ : M) : Prop := to (E.xc δ) δ μ (kSetIx2 ti E δ d)
def dSetIx (te to ti : DTE) (E : DEnds) (δ : Sl) (μ : M) : Prop := te (E.xc δ) δ μ (kSetIx1 to ti E δ)
theorem ds_setix {o i : Expr} {to ti : DTE} {pos' : Pos} (he : DE X W e te) (ho : DE X W o to) (hi : DE X W i ti)
    (ha : ∀ v, assign (.Subscript o i pos') X.env v = (do
      let ov ← holding [v] (eval o X.env)
      let iv ← holding [v, ov] (eval i X.env)
      standAt pos'
      holding [v, ov, iv] (setItem ov iv v)
      release [v, ov, iv] []) := by intro _; rfl) (hs : swapsWithSole [.Subscript o i pos'] e pos.line X.env = pure false := by rfl) (hw : swappedStores [.Subscript o i pos'] e X.env = pure none := by rfl)
    (h1 : (assignEach [.Subscript o i pos'] X.env).map (·.2) = [assign (.Subscript o i pos') X.env] := by rfl) : DS X W (.Assign [.Subscript o i pos'] e pos) (dSetIx te to ti) :=
  PS.imp (ps_asg he (pg_sub ho hi set_list ha) hs hw h1) fun D σ H ⟨δ, μ, Hc, Dd, s, rs, h, rt⟩ =>
  ⟨δ, μ, Hc, _, _, s, rs, h, fun d μ1 h1 v H1 Hc1 e1 s1 r1 => ⟨δ, μ1, Hc1, _, _, s1, rs.mono e1, h1, fun o' μ2 h2 w H2 Hc2 e2 s2 r2 => ⟨δ, μ2, Hc2, _, _, s2, rs.mono (e1.trans e2), h2, fun i' μ3 h3 z H3 Hc3 e3 s3 r3 => by
    unfold kSetIx3 at h3
    split at h3
    · rename_i p k
      obtain ⟨ds, hp, h4⟩ := h3
      obtain ⟨j, hj, hq⟩ := h4.ex
      cases r2
      cases r3
      obtain ⟨_, ob, ho', vs, rfl, ra⟩ := s3.cell p _ hp
      refine ⟨p, vs, k, j, rfl, rfl, ho', by rw [ra.length]; exact hj, ?_⟩
      exact rt.nx _ _ hq _ _ Hc3 ((e1.trans e2).trans e3) (s3.put hp ⟨_, rfl, ra.set (r1.mono (e2.trans e3)) j⟩) (rs.mono ((e1.trans e2).trans e3))
    · exact h3.elim, (rt.xc.at rs).mono (e1.trans e2)⟩, (rt.xc.at rs).mono e1⟩, rt.xc.at rs⟩
/-! ### while -/
/-- a smaller turn -/
def Less (I : Nat → Sl → M → Prop) (m : Nat) (δ : Sl) (μ : M) : Prop := ∃ m', m' < m ∧ I m' δ μ
def dWhile (c : DTT) (tb : DTS) (E : DEnds) (δ : Sl) (μ : M) : Prop := ∃ I : Nat → Sl → M → Prop, (∃ m, I m δ μ) ∧ ∀ m δ μ, I m δ μ →
  c (E.xc δ) δ μ (kIf (fun _ => tb { E with nx := Less I m, ct := Less I m, bk := E.nx }) dNext E δ)
theorem while_by {c : DTT} {tb : DTS} {E : DEnds} {δ : Sl} {μ : M} (I : Nat → Sl → M → Prop) {m : Nat} (h0 : I m δ μ) (hs : ∀ m δ μ, I m δ μ → c (E.xc δ) δ μ (kIf (fun _ => tb { E with nx := Less I m, ct := Less I m, bk := E.nx }) dNext E δ)) : dWhile c tb E δ μ := ⟨I, ⟨m, h0⟩, hs⟩
theorem ds_while {tc : DTT} {tb : DTS} (hp : PassesOwn (model X.prog X.w) X.A X.env X.xe) (hc : DT X W c tc) (hb : DSs X W body tb) : DS X W (.While c body [] pos) (dWhile tc tb) :=
  PS.imp (ps_while hp hc hb) fun D σ H ⟨δ, μ, Hc, Dd, s, rs, h, rt⟩ => by
    obtain ⟨I, ⟨m0, w0⟩, turn⟩ := h
    refine ⟨fun m σ' H' => ∃ δ' μ' Hc', Same Hc Hc' ∧ Split X.K H' Hc' μ' ∧ RepS X.K Hc' σ' δ' ∧ I m δ' μ', ⟨m0, δ, μ, Hc, Same.refl _, s, rs, w0⟩, ?_⟩
    rintro m σ1 H1 ⟨δ1, μ1, Hc1, e1, s1, rs1, i1⟩
    refine ⟨δ1, μ1, Hc1, _, _, s1, rs1, turn m δ1 μ1 i1, fun b μ2 h2 H2 Hc2 e2 s2 => ?_, (rt.xc.mono e1).at rs1⟩
    cases b with
    | true =>
      rw [if_pos rfl]
      refine ⟨fun σ' H' => ∃ m', m' < m ∧ ∃ δ' μ' Hc', Same Hc Hc' ∧ Split X.K H' Hc' μ' ∧ RepS X.K Hc' σ' δ' ∧ I m' δ' μ', fun σ' H' ⟨m', hm, q⟩ => ⟨m', hm, q⟩, δ1, μ2, Hc2, _, s2, rs1.mono e2, h2, ?_⟩
      refine ⟨?_, rt.rt.mono (e1.trans e2), rt.nx.mono (e1.trans e2), ?_, rt.xc.mono (e1.trans e2)⟩
      · rintro δ3 μ3 ⟨m', hm, i3⟩ σ3 H3 Hc3 e3 s3 rs3
        exact ⟨m', hm, δ3, μ3, Hc3, (e1.trans e2).trans e3, s3, rs3, i3⟩
      · rintro δ3 μ3 ⟨m', hm, i3⟩ σ3 H3 Hc3 e3 s3 rs3
        exact ⟨m', hm, δ3, μ3, Hc3, (e1.trans e2).trans e3, s3, rs3, i3⟩
    | false =>
      rw [if_neg Bool.false_ne_true]
      exact rt.nx _ _ h2 _ _ _ (e1.trans e2) s2 (rs1.mono e2)
end
end DL
set_option Elab.async false
set_option linter.all false
set_option maxRecDepth 100000
set_option maxHeartbeats 2000000
/-! The data layer: for, comprehensions, errors, defs. -/
namespace DL
open PySem PySem.Spec L2
/-- what is walked: the items, and what must stay true of the cells -/
structure Src where
  ds : List D
  ok : M → Prop
  mono : ∀ μ p c, μ p = none → ok μ → ok (updM μ p c)
abbrev Src.dat (ds : List D) : Src := ⟨ds, fun _ => True, fun _ _ _ _ _ => True.intro⟩
abbrev Src.cel (p : Addr) (ds : List D) : Src := ⟨ds, fun μ => μ p = some (.lst ds), fun μ q c h e => by rw [updM_ne (ne_fresh e h)]; exact e⟩
def Wlk (K : PySem.W.Frag) (J : It) (S : Src) (Hc0 : Hp) : Prop := ∀ (i : Nat) (H Hc : Hp) (μ : M), Same Hc0 Hc → Split K H Hc μ → S.ok μ →
  (∀ d, S.ds[i]? = some d → J.go i H ∧ ∀ x H', J.yld i H x H' → ∃ Hc', Same Hc Hc' ∧ Split K H' Hc' μ ∧ Rep K Hc' x d) ∧ (i = S.ds.length → J.stop i H)
abbrev DTI := XD → Sl → M → (Src → M → Prop) → Prop
def RetI (K : PySem.W.Frag) (Hc : Hp) (Rd : Src → M → Prop) (R : It → Hp → Prop) : Prop := ∀ S μ', Rd S μ' → ∀ J H' Hc', Same Hc Hc' → Split K H' Hc' μ' → Wlk K J S Hc' → R J H'
def upI (K : PySem.W.Frag) (W : WX) (t : DTI) : TI := fun σ H R => ∃ δ μ Hc Rd Xd, Split K H Hc μ ∧ RepS K Hc σ δ ∧ t Xd δ μ Rd ∧ RetI K Hc Rd R ∧ RetX K Hc Xd (fun cls d H => W cls d σ H)
def DI (X : Cx) (W : WX) (tg iter : Expr) (t : DTI) : Prop := PI X tg iter (upI X.K W t)
theorem PI.imp {X : Cx} {tg e : Expr} {t t' : TI} (h : PI X tg e t) (i : ∀ σ H Q, t' σ H Q → t σ H Q) : PI X tg e t' := ⟨fun pins s σ H Q I w => h.run pins s σ H Q I (i σ H Q w)⟩
section
variable {X : Cx} {W : WX} {a b c e tg iter : Expr} {es : List Expr} {pos p : Pos} {ta tb te : DTE} {tr : DTA} {st : Stmt} {rest body : List Stmt} {t u : DTS} {ti : DTI}
/-! ### a list or a tuple -/
def iSeq (K : PySem.W.Frag) (tl : TE) : TI := fun σ H R => tl σ H fun x H1 => ∃ a, x = .ref a ∧ (((∃ xs, SqL K H1 a xs) ∧ R (Itl K a) H1) ∨ ((∃ xs, SqT K H1 a xs) ∧ R (Itt K a) H1))
theorem pi_seq {l : Expr} {tl : TE} (hl : PE X l tl) : PI X tg l (iSeq X.K tl) := by
  refine ⟨fun pins s σ H R I h => ?_⟩
  refine thn (hl.run pins s σ H _ I h) fun v s1 ⟨x, H1, I1, r1, q1⟩ => ?_
  obtain ⟨a, e, h | h⟩ := q1
  · obtain ⟨⟨xs, hq⟩, q⟩ := h
    subst e
    cases r1
    obtain ⟨its, rv, p, hz⟩ := I1.list hq
    refine wpAny_pyIter_list p.isList ?_
    refine ⟨s1.heap.objs.size, [s1.heap.objs.size], _, _, H1, rfl, I1.kept (t' := s1.toks) fun b o e => Heap.get?_push_of_some _ e, turn_list a _, ⟨_, Heap.get?_push_size _ rfl, rfl, rfl⟩, fun b hb => ?_, q⟩
    have e : b = s1.heap.objs.size := by simpa using hb
    subst e
    exact I1.fpOk (Nat.le_refl _) (I1.hok.fresh (Nat.le_refl _))
  · obtain ⟨⟨xs, hq⟩, q⟩ := h
    subst e
    cases r1
    obtain ⟨its, rv, p, hz⟩ := I1.tuple hq
    refine wpAny_pyIter_tuple (show s1.heap.IsTuple a its.toArray from p) ?_
    refine ⟨s1.heap.objs.size, [s1.heap.objs.size], _, _, H1, rfl, I1.kept (t' := s1.toks) fun b o e => Heap.get?_push_of_some _ e, turn_tuple a _, ⟨_, Heap.get?_push_size _ rfl, rfl, rfl⟩, fun b hb => ?_, q⟩
    have e : b = s1.heap.objs.size := by simpa using hb
    subst e
    exact I1.fpOk (Nat.le_refl _) (I1.hok.fresh (Nat.le_refl _))
/-- a list that is read: the address stays a list of these items -/
theorem wlk_list {K : PySem.W.Frag} {ad : Addr} {S : Src} {Hc0 : Hp} (h : ∀ H Hc μ, Same Hc0 Hc → Split K H Hc μ → S.ok μ → ∃ vs, H ad = some (.lst vs) ∧ RepA K Hc vs S.ds) : Wlk K (Itl K ad) S Hc0 := fun i H Hc μ e0 s ok => by
  obtain ⟨vs, hv, ra⟩ := h H Hc μ e0 s ok
  refine ⟨fun d hd => ?_, fun hi => ⟨vs, SqL.of hv, by rw [ra.length]; omega⟩⟩
  obtain ⟨v, h1, h2⟩ := ra.get hd
  refine ⟨⟨vs, v, SqL.of hv, h1⟩, fun x H' hy => ?_⟩
  obtain ⟨rfl, hx⟩ := hy
  have e := hx vs (SqL.of hv)
  rw [h1] at e
  cases e
  exact ⟨Hc, Same.refl _, s, h2⟩
theorem wlk_tup {K : PySem.W.Frag} {ad : Addr} {S : Src} {Hc0 : Hp} {vs : List V} (h : SqT K Hc0 ad vs) (ra : RepA K Hc0 vs S.ds) : Wlk K (Itt K ad) S Hc0 := fun i H Hc μ e0 s ok => by
  have hv : SqT K H ad vs := same_t s.same (same_t e0 h)
  refine ⟨fun d hd => ?_, fun hi => ⟨vs, hv, by rw [ra.length]; omega⟩⟩
  obtain ⟨v, h1, h2⟩ := ra.get hd
  refine ⟨⟨vs, v, hv, h1⟩, fun x H' hy => ?_⟩
  obtain ⟨rfl, hx⟩ := hy
  have e := hx vs hv
  rw [h1] at e
  cases e
  exact ⟨Hc, Same.refl _, s, h2.mono e0⟩
/-- the items of data, of a cell -/
def srcOf (μ : M) : D → Option Src
  | .lst xs => some (.dat xs)
  | .tup xs => some (.dat xs)
  | .raw (.ref p) => match cellL (μ p) with
    | some xs => some (.cel p xs)
    | none => none
  | _ => none
theorem src_refs {μ : M} {p : Addr} {S : Src} (h : srcOf μ (.raw (.ref p)) = some S) : ∃ xs, μ p = some (.lst xs) ∧ S = .cel p xs := by
  have h' : (match cellL (μ p) with | some xs => some (Src.cel p xs) | none => none) = some S := h
  cases e : cellL (μ p) with
  | none => rw [e] at h'; cases h'
  | some xs => rw [e] at h'; exact ⟨xs, cellL_some e, (Option.some.inj h').symm⟩
def OptS (o : Option Src) (R : Src → M → Prop) (μ : M) : Prop := match o with
  | some S => R S μ
  | none => False
theorem OptS.ex {o : Option Src} {R : Src → M → Prop} {μ : M} (h : OptS o R μ) : ∃ S, o = some S ∧ R S μ := by
  cases o with
  | none => exact h.elim
  | some x => exact ⟨x, rfl, h⟩
@[simp] theorem OptS_some {S : Src} {R : Src → M → Prop} {μ : M} : OptS (some S) R μ = R S μ := rfl
def kSeqI (R : Src → M → Prop) (d : D) (μ : M) : Prop := OptS (srcOf μ d) R μ
def dSeqI (te : DTE) (W : XD) (δ : Sl) (μ : M) (R : Src → M → Prop) : Prop := te W δ μ (kSeqI R)
theorem di_seq (he : DE X W e te) : DI X W tg e (dSeqI te) := PI.imp (pi_seq he) fun σ H R ⟨δ, μ, Hc, Rd, Xd, s, rs, h, ri, rx⟩ => by
    refine (show upE X.K W te σ H _ from ⟨δ, μ, Hc, _, Xd, s, rs, h, ?_, rx⟩)
    intro d μ1 h1 v H1 Hc1 e1 s1 r1
    obtain ⟨S, hS, hR⟩ := OptS.ex h1
    cases r1 with
    | @lst ad vs ds ha ra =>
      cases (show some (Src.dat ds) = some S from hS)
      refine ⟨ad, rfl, .inl ⟨⟨vs, SqL.of (s1.same _ _ ha)⟩, ri _ _ hR _ _ _ e1 s1 (wlk_list fun H' Hc' μ' e' s' _ => ⟨vs, s'.same _ _ (e' _ _ ha), ra.mono e'⟩)⟩⟩
    | @tup ad vs ds ha ra =>
      cases (show some (Src.dat ds) = some S from hS)
      refine ⟨ad, rfl, .inr ⟨⟨vs, same_t s1.same ha⟩, ri _ _ hR _ _ _ e1 s1 (wlk_tup ha ra)⟩⟩
    | raw =>
      cases v with
      | ref p =>
        obtain ⟨xs, hp, rfl⟩ := src_refs hS
        obtain ⟨_, o, ho, vs, rfl, ra⟩ := s1.cell p _ hp
        refine ⟨p, rfl, .inl ⟨⟨vs, SqL.of ho⟩, ri _ _ hR _ _ _ e1 s1 (wlk_list fun H' Hc' μ' e' s' hok => ?_)⟩⟩
        obtain ⟨_, o', ho', vs', rfl, ra'⟩ := s'.cell p _ (show μ' p = some (.lst xs) from hok)
        exact ⟨vs', ho', ra'⟩
      | _ => cases hS
    | _ => cases hS
/-! ### range -/
def rangeD (lo : Int) (n : Nat) : List D := (List.range n).map fun i => .int (lo + (i : Nat))
theorem rangeD_get {lo : Int} {n i : Nat} : (rangeD lo n)[i]? = if i < n then some (.int (lo + (i : Nat))) else none := by
  unfold rangeD
  rw [List.getElem?_map]
  by_cases h : i < n
  · rw [List.getElem?_range h, if_pos h]; rfl
  · rw [List.getElem?_eq_none (by rw [List.length_range]; omega), if_neg h]; rfl
theorem rangeD_some {lo : Int} {n i : Nat} {d : D} (h : (rangeD lo n)[i]? = some d) : d = .int (lo + (i : Nat)) ∧ i < n := by
  rw [rangeD_get] at h
  by_cases hi : i < n
  · rw [if_pos hi] at h
    exact ⟨(Option.some.inj h).symm, hi⟩
  · rw [if_neg hi] at h
    cases h
theorem rangeD_len {lo : Int} {n : Nat} : (rangeD lo n).length = n := by unfold rangeD; rw [List.length_map, List.length_range]
theorem wlk_range {K : PySem.W.Frag} {lo : Int} {n : Nat} {Hc0 : Hp} : Wlk K (Itr lo n) (.dat (rangeD lo n)) Hc0 := fun i H Hc μ e0 s ok => by
  refine ⟨fun d hd => ?_, fun hi => by rw [rangeD_len] at hi; exact Nat.le_of_eq hi.symm⟩
  rw [rangeD_get] at hd
  split at hd
  · rename_i hi
    cases hd
    refine ⟨hi, fun x H' hy => ?_⟩
    obtain ⟨rfl, rfl⟩ := hy
    exact ⟨Hc, Same.refl _, s, .int _⟩
  · cases hd
def kRange1 (R : Src → M → Prop) (ds : List D) (μ : M) : Prop := match ds with
  | [.int j] => (-(2 ^ 62) ≤ j ∧ j < 2 ^ 62) ∧ R (.dat (rangeD 0 j.toNat)) μ
  | _ => False
def kRange2 (R : Src → M → Prop) (ds : List D) (μ : M) : Prop := match ds with
  | [.int i, .int j] => (-(2 ^ 62) ≤ i ∧ i < 2 ^ 62 ∧ -(2 ^ 62) ≤ j ∧ j < 2 ^ 62) ∧ R (.dat (rangeD i (j - i).toNat)) μ
  | _ => False
def dRange1 (tr : DTA) (W : XD) (δ : Sl) (μ : M) (R : Src → M → Prop) : Prop := tr W δ μ (kRange1 R)
def dRange2 (tr : DTA) (W : XD) (δ : Sl) (μ : M) (R : Src → M → Prop) : Prop := tr W δ μ (kRange2 R)
theorem di_range1 {p pos : Pos} (hm : X.mg "range" = none) (ha : DA X W [a] tr) (hg : Gl X "range" := by rfl) (hs : starEach [a] X.env = [(false, eval a X.env)] := by rfl) : DI X W tg (.Call (.Name "range" p) [a] [] pos) (dRange1 tr) :=
  PI.imp (pi_range1 hg hm ha hs) fun σ H R ⟨δ, μ, Hc, Rd, Xd, s, rs, h, ri, rx⟩ => ⟨δ, μ, Hc, _, Xd, s, rs, h, fun ds μ1 h1 vs H1 Hc1 e1 s1 r1 => by
    unfold kRange1 at h1
    split at h1
    · obtain ⟨v, rfl, r⟩ := r1.one'
      cases r
      exact ⟨_, rfl, h1.1.1, h1.1.2, ri _ _ h1.2 _ _ _ e1 s1 wlk_range⟩
    · exact h1.elim, rx⟩
/-! ### for -/
/-- one turn: the target is set, the body runs -/
def turnD (o : Option (List (Nat × D))) (tb : DTS) (E : DEnds) (δ : Sl) (μ : M) : Prop := match o with
  | some cs => tb E (sets cs δ) μ
  | none => False
theorem turnD.ex {o : Option (List (Nat × D))} {tb : DTS} {E : DEnds} {δ : Sl} {μ : M} (h : turnD o tb E δ μ) : ∃ cs, o = some cs ∧ tb E (sets cs δ) μ := by
  cases o with
  | none => exact h.elim
  | some x => exact ⟨x, rfl, h⟩
def loopD (ok : M → Prop) (f : TGD) (tb : DTS) (E : DEnds) : List D → Sl → M → Prop
  | [], δ, μ => ok μ ∧ E.nx δ μ
  | d :: ds, δ, μ => ok μ ∧ turnD (f μ d) tb { E with nx := loopD ok f tb E ds, ct := loopD ok f tb E ds, bk := E.nx } δ μ
/-- by an invariant over the turn's number -/
def loopJ (ok : M → Prop) (f : TGD) (tb : DTS) (E : DEnds) (ds : List D) (δ : Sl) (μ : M) : Prop := ∃ J : Nat → Sl → M → Prop, J 0 δ μ ∧ ∀ i δ μ, J i δ μ → ok μ ∧
  (∀ d, ds[i]? = some d → turnD (f μ d) tb { E with nx := J (i + 1), ct := J (i + 1), bk := E.nx } δ μ) ∧ (i = ds.length → E.nx δ μ)
def kFor (f : TGD) (tb : DTS) (E : DEnds) (δ : Sl) (S : Src) (μ : M) : Prop := loopJ S.ok f tb E S.ds δ μ
def dFor (ti : DTI) (f : TGD) (tb : DTS) (E : DEnds) (δ : Sl) (μ : M) : Prop := ti (E.xc δ) δ μ (kFor f tb E δ)
theorem drop_of {α : Type} {l : List α} {x : α} {i : Nat} (h : l[i]? = some x) : l.drop i = x :: l.drop (i + 1) := by
  obtain ⟨hi, e⟩ := List.getElem?_eq_some_iff.mp h
  rw [List.drop_eq_getElem_cons hi, e]
theorem ds_for {g : TG} {f : TGD} {tb : DTS} (hp : PassesOwn (model X.prog X.w) X.A X.env X.xe) (hi : DI X W tg iter ti) (hg : PG X tg g) (lg : LG X.K g f) (hb : DSs X W body tb) (hc : X.calm = true := by rfl)
    (hs : ∀ x, foldedSetIterable iter X.env x = pure x := by intro _; rfl) : DS X W (.For tg iter body [] pos) (dFor ti f tb) :=
  PS.imp (ps_for hp hc hi hg hb hs) fun D σ H ⟨δ, μ, Hc, Dd, s, rs, h, rt⟩ => ⟨δ, μ, Hc, _, _, s, rs, h, fun S μ1 h1 J H1 Hc1 e1 s1 wk => by
    obtain ⟨N, n0, ns⟩ := h1
    refine ⟨fun i m σ' H' => i + m = S.ds.length ∧ ∃ δ' μ' Hc', Same Hc1 Hc' ∧ Split X.K H' Hc' μ' ∧ RepS X.K Hc' σ' δ' ∧ N i δ' μ', ⟨S.ds.length, by omega, δ, μ1, Hc1, Same.refl _, s1, rs.mono e1, n0⟩, ?_⟩
    rintro i m σ2 H2 ⟨hm, δ2, μ2, Hc2, e2, s2, rs2, l2⟩
    obtain ⟨ok2, l3, l4⟩ := ns i δ2 μ2 l2
    cases hd : S.ds[i]? with
    | none =>
      have hi : i = S.ds.length := by
        have := List.getElem?_eq_none_iff.mp hd
        omega
      refine .inl ⟨(wk i H2 Hc2 μ2 e2 s2 ok2).2 (by omega), ?_⟩
      exact rt.nx _ _ (l4 hi) _ _ _ (e1.trans e2) s2 rs2
    | some d =>
      obtain ⟨go, yl⟩ := (wk i H2 Hc2 μ2 e2 s2 ok2).1 d hd
      refine .inr ⟨go, fun σ' H' => ∃ δ' μ' Hc', Same Hc1 Hc' ∧ Split X.K H' Hc' μ' ∧ RepS X.K Hc' σ' δ' ∧ N (i + 1) δ' μ', fun σ' H' q => ?_, fun x H' hy => ?_⟩
      · have hlt : i < S.ds.length := (List.getElem?_eq_some_iff.mp hd).1
        exact ⟨m - 1, by omega, by omega, q⟩
      · obtain ⟨Hc3, e3, s3, r3⟩ := yl x H' hy
        obtain ⟨cs, hcs, hq⟩ := turnD.ex (l3 d hd)
        refine lg x d H' Hc3 μ2 σ2 _ cs s3 r3 hcs fun bs rb => ?_
        refine ⟨sets cs δ2, μ2, Hc3, _, s3, RepS.sets rb (rs2.mono e3), hq, ?_⟩
        have e13 := (e1.trans e2).trans e3
        refine ⟨?_, rt.rt.mono e13, rt.nx.mono e13, ?_, rt.xc.mono e13⟩
        · intro δ4 μ4 h4 σ4 H4 Hc4 e4 s4 rs4
          exact ⟨δ4, μ4, Hc4, (e2.trans e3).trans e4, s4, rs4, h4⟩
        · intro δ4 μ4 h4 σ4 H4 Hc4 e4 s4 rs4
          exact ⟨δ4, μ4, Hc4, (e2.trans e3).trans e4, s4, rs4, h4⟩, rt.xc.at rs⟩
/-! ### comprehensions -/
abbrev XF : XD := fun _ _ _ => False
def dYes (_ : XD) (_ : Sl) (μ : M) (Q : Bool → M → Prop) : Prop := Q true μ
def kItem (acc : List D) (R : List D → M → Prop) (y : D) (μ : M) : Prop := acc.length < sizeLine ∧ R (acc ++ [y]) μ
def kTest (te : DTE) (δ : Sl) (acc : List D) (R : List D → M → Prop) (b : Bool) (μ : M) : Prop := match b with
  | true => te XF δ μ (kItem acc R)
  | false => R acc μ
/-- one turn of a comprehension -/
def turnC (o : Option (List (Nat × D))) (tt : DTT) (te : DTE) (acc : List D) (R : List D → M → Prop) (δ : Sl) (μ : M) : Prop := match o with
  | some cs => tt XF (sets cs δ) μ (kTest te (sets cs δ) acc R)
  | none => False
theorem turnC.ex {o : Option (List (Nat × D))} {tt : DTT} {te : DTE} {acc : List D} {R : List D → M → Prop} {δ : Sl} {μ : M} (h : turnC o tt te acc R δ μ) : ∃ cs, o = some cs ∧ tt XF (sets cs δ) μ (kTest te (sets cs δ) acc R) := by
  cases o with
  | none => exact h.elim
  | some x => exact ⟨x, rfl, h⟩
def compD (ok : M → Prop) (f : TGD) (tt : DTT) (te : DTE) (Q : List D → M → Prop) (δ : Sl) : List D → List D → M → Prop
  | [], acc, μ => ok μ ∧ Q acc μ
  | d :: ds, acc, μ => ok μ ∧ turnC (f μ d) tt te acc (compD ok f tt te Q δ ds) δ μ
def compJ (ok : M → Prop) (f : TGD) (tt : DTT) (te : DTE) (Q : List D → M → Prop) (δ : Sl) (ds : List D) (μ : M) : Prop := ∃ J : Nat → List D → M → Prop, J 0 [] μ ∧ ∀ i acc μ, J i acc μ → ok μ ∧
  (∀ d, ds[i]? = some d → turnC (f μ d) tt te acc (J (i + 1)) δ μ) ∧ (i = ds.length → Q acc μ)
end
theorem wipe_set {σ : L2.St} {vs : List Nat} {i : Nat} {x : Option V} (h : i ∈ vs) : wipe (σ.set i x) vs = wipe σ vs := by
  apply List.ext_getElem?
  intro j
  have key : ∀ (τ : L2.St) (ws : List Nat) (j : Nat), (wipe τ ws)[j]? = if j ∈ ws then (if j < τ.length then some none else none) else τ[j]? := by
    intro τ ws
    induction ws with
    | nil => intro j; simp [wipe]
    | cons w ws ih =>
      intro j
      unfold wipe
      by_cases e : w = j
      · subst e
        by_cases hl : w < τ.length
        · rw [List.getElem?_set_self (by rw [wipe_length]; exact hl), if_pos List.mem_cons_self, if_pos hl]
        · rw [List.getElem?_eq_none (by rw [List.length_set, wipe_length]; omega), if_pos List.mem_cons_self, if_neg hl]
      · rw [List.getElem?_set_ne e, ih j]
        by_cases hm : j ∈ ws
        · rw [if_pos hm, if_pos (List.mem_cons_of_mem _ hm)]
        · rw [if_neg hm, if_neg (by
            intro z
            rcases List.mem_cons.mp z with z | z
            · exact e z.symm
            · exact hm z)]
  rw [key, key]
  by_cases hm : j ∈ vs
  · rw [if_pos hm, if_pos hm, List.length_set]
  · rw [if_neg hm, if_neg hm, List.getElem?_set_ne]
    intro z
    subst z
    exact hm h
theorem wipe_sets {vs : List Nat} : ∀ {bs : List (Nat × V)} {σ : L2.St}, (∀ b ∈ bs, b.1 ∈ vs) → wipe (sets bs σ) vs = wipe σ vs
  | [], _, _ => rfl
  | b :: bs, σ, h => by
    show wipe (sets bs (σ.set b.1 (some b.2))) vs = wipe σ vs
    rw [wipe_sets fun c hc => h c (List.mem_cons_of_mem _ hc), wipe_set (h b List.mem_cons_self)]
/-- slots forgotten -/
def wipeD (δ : Sl) : List Nat → Sl
  | [] => δ
  | v :: vs => (wipeD δ vs).set v none
theorem RepS.wipe {K : PySem.W.Frag} {H : Hp} {σ : L2.St} {δ : Sl} (r : RepS K H σ δ) : ∀ vs : List Nat, RepS K H (L2.wipe σ vs) (wipeD δ vs)
  | [] => r
  | v :: vs => (RepS.wipe r vs).unset v none
/-- [e for x in xs if t]: data; vs the slots of the block's own names -/
def kLstD (Q : QD) (acc : List D) (μ : M) : Prop := Q (.lst acc) μ
def kNewC (Q : QD) (acc : List D) (μ : M) : Prop := NewC acc μ Q
def kLc (f : TGD) (tt : DTT) (te : DTE) (vs : List Nat) (Q : List D → M → Prop) (δ : Sl) (S : Src) (μ : M) : Prop := compJ S.ok f tt te Q (wipeD δ vs) S.ds μ
def dLc (ti : DTI) (f : TGD) (tt : DTT) (te : DTE) (vs : List Nat) (W : XD) (δ : Sl) (μ : M) (Q : QD) : Prop := ti W δ μ (kLc f tt te vs (kLstD Q) δ)
/-- .. a cell -/
def dLcC (ti : DTI) (f : TGD) (tt : DTT) (te : DTE) (vs : List Nat) (W : XD) (δ : Sl) (μ : M) (Q : QD) : Prop := ti W δ μ (kLc f tt te vs (kNewC Q) δ)
def SlotsIn (f : TGD) (vs : List Nat) : Prop := ∀ μ d cs, f μ d = some cs → ∀ c ∈ cs, c.1 ∈ vs
def SlotsIns (f : TGDs) (vs : List Nat) : Prop := ∀ μ d cs, f μ d = some cs → ∀ c ∈ cs, c.1 ∈ vs
theorem si_name {i : Nat} {vs : List Nat} (h : i ∈ vs) : SlotsIn (tgN i) vs := fun μ d cs e c hc => by
  cases e
  rcases List.mem_cons.mp hc with rfl | z
  · exact h
  · cases z
theorem si_nil {vs : List Nat} : SlotsIns tgNil vs := fun μ ds cs e c hc => by
  cases ds with
  | nil => cases e; cases hc
  | cons _ _ => cases e
theorem si_cons {f : TGD} {fs : TGDs} {vs : List Nat} (h1 : SlotsIn f vs) (h2 : SlotsIns fs vs) : SlotsIns (tgCons f fs) vs := fun μ ds cs e c hc => by
  cases ds with
  | nil => cases e
  | cons d ds =>
    have h' : ((f μ d).bind fun b => (fs μ ds).map (b ++ ·)) = some cs := e
    cases e1 : f μ d with
    | none => rw [e1] at h'; cases h'
    | some b1 =>
      rw [e1] at h'
      cases e2 : fs μ ds with
      | none => rw [Option.bind_some, e2] at h'; cases h'
      | some b2 =>
        rw [Option.bind_some, e2] at h'
        cases h'
        rcases List.mem_append.mp hc with z | z
        · exact h1 μ d b1 e1 c z
        · exact h2 μ ds b2 e2 c z
theorem si_tup {fs : TGDs} {vs : List Nat} (h : SlotsIns fs vs) : SlotsIn (tgT fs) vs := fun μ d cs e c hc => by
  unfold tgT at e
  split at e
  · exact h _ _ _ e c hc
  · cases e
end DL
set_option Elab.async false
set_option linter.all false
set_option maxRecDepth 100000
set_option maxHeartbeats 2000000
/-! The data layer: zip and enumerate over lists and tuples. -/
namespace DL
open PySem PySem.Spec PyProof.Rows L2
/-- a list or a tuple -/
inductive Kd where
  | l | t
def SqK (K : PySem.W.Frag) (k : Kd) (H : Hp) (a : Addr) (xs : List V) : Prop := match k with
  | .l => SqL K H a xs
  | .t => SqT K H a xs
def IterK (k : Kd) (h : Heap) (it a : Addr) (i : Nat) : Prop := match k with
  | .l => h.IsListIter it a i
  | .t => h.IsTupleIter it a i
def SeqK (k : Kd) (h : Heap) (a : Addr) (items : Array Value) : Prop := match k with
  | .l => h.IsList a items
  | .t => h.IsTuple a items
def objK (k : Kd) (a : Addr) : Obj := match k with
  | .l => { cls := .type "list_iterator", data := .fields #[.ref a, .int 0 0] }
  | .t => { cls := .type "tuple_iterator", data := .fields #[.ref a, .int 0 0] }
theorem begK (k : Kd) (a : Addr) (items : Array Value) : Begins (.ref a) (objK k a) fun h => SeqK k h a items := by
  cases k
  · exact begins_list a items
  · exact begins_tuple a items
theorem drawK {prog : Program} {w : World} {A : Around} (hh : A.handled = none) (k : Kd) (it a : Addr) (hne : a ≠ it) (items : Array Value) :
    Draws prog w A it [it, a] items.size (fun i v => items[i]? = some v) (fun i h => IterK k h it a i ∧ SeqK k h a items) := by
  cases k
  · exact Draws.list hh it a hne items
  · exact Draws.tuple hh it a hne items
theorem IterK.at {k : Kd} {h h' : Heap} {it a : Addr} {i : Nat} (x : IterK k h it a i) (e : ∀ o, h.get? it = some o → h'.get? it = some o) : IterK k h' it a i := by
  cases k
  · exact (show h.IsListIter it a i from x).at e
  · exact (show h.IsTupleIter it a i from x).at e
theorem IterK.obj {k : Kd} {h : Heap} {it a : Addr} {i : Nat} (x : IterK k h it a i) : ∃ o, h.get? it = some o ∧ ∀ v, o.data ≠ .cell v := by
  cases k
  · obtain ⟨o, e, _, d⟩ := (show h.IsListIter it a i from x)
    exact ⟨o, e, fun v q => by rw [d] at q; cases q⟩
  · obtain ⟨o, e, _, d⟩ := (show h.IsTupleIter it a i from x)
    exact ⟨o, e, fun v q => by rw [d] at q; cases q⟩
theorem IterK.first {k : Kd} {h : Heap} {it a : Addr} (e : h.get? it = some (objK k a)) : IterK k h it a 0 := by
  cases k
  · exact ⟨_, e, rfl, rfl⟩
  · exact ⟨_, e, rfl, rfl⟩
theorem SeqK.lt {k : Kd} {h : Heap} {a : Addr} {items : Array Value} (x : SeqK k h a items) : a < h.objs.size := by
  cases k
  · obtain ⟨o, e, _⟩ := (show h.IsList a items from x)
    exact Heap.lt_size e
  · obtain ⟨o, e, _⟩ := (show h.IsTuple a items from x)
    exact Heap.lt_size e
section
variable {X : Cx} {pins : List (Addr × Obj)} {σ : L2.St} {H : Hp} {s : Shared} {a b : Addr} {xs ys : List V} {k : Kd}
theorem seqK (I : Inv X pins σ H s) (h : SqK X.K k H a xs) : ∃ its : List Value, Vals xs its ∧ SeqK k s.heap a its.toArray ∧ xs.length ≤ sizeLine := by
  cases k
  · obtain ⟨its, r, p, z⟩ := I.list h
    exact ⟨its, r, p.isList, z⟩
  · obtain ⟨its, r, p, z⟩ := I.tuple h
    exact ⟨its, r, p, z⟩
theorem seqK_inj (I : Inv X pins σ H s) (h : SqK X.K k H a xs) (h' : SqK X.K k H a ys) : xs = ys := by
  cases k
  · exact I.list_inj h h'
  · exact I.tuple_inj h h'
end
/-- a turning iterator that lays tuples, from what the library says of it at each turn -/
theorem turn_of {P : Program} {w : World} {K : PySem.W.Frag} {elts : List Expr} {kk : Nat} {tpos : Pos} {J : It} {fp : List Addr} {z : Addr} {tn : Nat → Heap → Prop} (mem : z ∈ fp)
    (obj : ∀ i h, tn i h → ∀ b ∈ fp, ∃ o, h.get? b = some o ∧ ∀ v, o.data ≠ .cell v)
    (keep : ∀ i h h', tn i h → (∀ b ∈ fp, ∀ o, h.get? b = some o → h'.get? b = some o) → tn i h')
    (step : ∀ (X : Cx), X.prog = P → X.w = w → X.K = K → X.calm = true → ∀ (i : Nat) (pins : List (Addr × Obj)) (s : Shared) (σ : L2.St) (H : Hp), Inv X pins σ H s → tn i s.heap → J.go i H →
      ∃ fp' wr n Pt St Mid, WalksT P w X.A z fp' wr n Pt St Mid ∧ i < n ∧ St i s.heap ∧ (∀ b ∈ wr, b ∈ fp) ∧ (∀ h', St (i + 1) h' → tn (i + 1) h') ∧
        ∀ vals, Pt i vals → ∃ xs : List V, Vals xs vals.toList ∧ xs.length ≤ sizeLine ∧ ∀ T, H T = none → J.yld i H (.ref T) (upd H T (.tup xs)))
    (stop : ∀ (X : Cx), X.prog = P → X.w = w → X.K = K → X.calm = true → ∀ (i : Nat) (pins : List (Addr × Obj)) (s : Shared) (σ : L2.St) (H : Hp), Inv X pins σ H s → tn i s.heap → J.stop i H →
      ∃ fp' wr n Pt St Mid, WalksT P w X.A z fp' wr n Pt St Mid ∧ i = n ∧ St i s.heap ∧ (∀ b ∈ wr, b ∈ fp))
    (self : ∀ (A : Around) (i : Nat) (s : Shared) (Q : Value → Shared → Prop) (E : Value → Shared → Prop), tn i s.heap → Q (.ref z) s → wpAny (model P w) A (pyIter (.ref z)) Q E s) :
    Turn P w K (.Tuple elts kk tpos) J fp z tn where
  mem := mem
  obj := obj
  keep := keep
  item := by
    intro X hP hw hK hc i pins s σ H E I hf st hg
    obtain ⟨fp', wr, n, Pt, St, Mid, W, hi, hst, hsub, hnx, hy⟩ := step X hP hw hK hc i pins s σ H I st hg
    refine W.item i s _ E hi hst fun T vals h' tk hP' hT hIs hM hk => ?_
    refine ⟨_, rfl, W.go elts kk tpos i T { s with heap := h', toks := tk } _ E hM fun h'' hst' hk' => ?_⟩
    obtain ⟨xs, rv, hl, hyl⟩ := hy vals hP'
    have hap := W.apart i T h' hM
    have hT2 : h''.IsTuple T vals := hIs.at fun o e => hk' T o hap e
    have new : ObjOk X.prog X.w (upd H T (.tup xs)) h'' T (.tup xs) := ⟨hl, vals.toList, rv, hT2⟩
    have I1 : Inv X pins σ (upd H T (.tup xs)) { s with heap := h'', toks := tk } :=
      I.turnedNew (t' := tk) (ch := fp) (fun b o hb e => hk' b o (fun q => hb (hsub b q)) (hk b o (fun q => hb (hsub b q)) e)) hf hT new
    refine ⟨.ref T, _, I1, rfl, hyl T (I.hok.fresh hT), hnx h'' hst', fun b hb => ?_⟩
    obtain ⟨o, e, _⟩ := obj i s.heap st b hb
    rw [upd_ne (Nat.ne_of_lt (Nat.lt_of_lt_of_le (Heap.lt_size e) hT))]
    exact (hf b hb).1
  done := by
    intro X hP hw hK hc i pins s σ H E I hf st hg
    obtain ⟨fp', wr, n, Pt, St, Mid, W, hi, hst, hsub⟩ := stop X hP hw hK hc i pins s σ H I st hg
    subst hi
    exact W.done s _ E hst fun h' tk hk => ⟨rfl, I.turnedL (t' := tk) (ch := fp) (fun b o hb e => hk b o (fun q => hb (hsub b q)) e) hf⟩
  self := self
/-! ### enumerate -/
def ItE (K : PySem.W.Frag) (k : Kd) (a : Addr) (k₀ : Int) : It :=
  ⟨fun i H => ∃ (xs : List V) (x : V), SqK K k H a xs ∧ xs[i]? = some x,
    fun i H v H' => ∃ T x, v = .ref T ∧ H T = none ∧ H' = upd H T (.tup [.int (k₀ + (i : Nat)), x]) ∧ ∀ xs, SqK K k H a xs → xs[i]? = some x,
    fun i H => ∃ xs : List V, SqK K k H a xs ∧ i = xs.length⟩
theorem turn_enumK {P : Program} {w : World} {K : PySem.W.Frag} {elts : List Expr} {kk : Nat} {tpos : Pos} {k : Kd} {a e it : Addr} {k₀ : Int} (hei : e ≠ it) (hea : e ≠ a) (hai : a ≠ it) :
    Turn P w K (.Tuple elts kk tpos) (ItE K k a k₀) [e, it] e (fun i h => (∃ old, IsEnum h e it (k₀ + (i : Int)) old) ∧ IterK k h it a i) := by
  refine turn_of (by simp) ?_ ?_ ?_ ?_ ?_
  · intro i h st b hb
    obtain ⟨⟨old, he⟩, hi⟩ := st
    have e' : b = e ∨ b = it := by simpa using hb
    rcases e' with z | z
    · rw [z]; exact ⟨_, he, fun v q => nomatch q⟩
    · rw [z]; exact hi.obj
  · intro i h h' st kp
    obtain ⟨⟨old, he⟩, hi⟩ := st
    exact ⟨⟨old, kp e (by simp) _ he⟩, hi.at fun o q => kp it (by simp) o q⟩
  · intro X hP hw hK hc i pins s σ H I st hg
    subst hP hw hK
    obtain ⟨he, hi⟩ := st
    obtain ⟨xs, x, hq, hx⟩ := hg
    obtain ⟨its, rv, p, hz⟩ := seqK I hq
    have hl := rv.length
    have hlt : i < xs.length := (List.getElem?_eq_some_iff.mp hx).1
    refine ⟨_, _, _, _, _, _, WalksT.enumFrom k₀ (drawK (show X.A.in1.handled = none from I.ok.hd hc) k it a hai its.toArray) e hei (by simp [hei, hea]) (by simp), by rw [List.size_toArray]; omega, ⟨he, hi, p⟩, fun b hb => hb, fun h' st' => ⟨st'.1, st'.2.1⟩, ?_⟩
    rintro vals ⟨t, u, hu, rfl⟩
    obtain ⟨u', hu', ru⟩ := rv.get hx
    have eu : its[i]? = some u := by simpa using hu
    rw [eu] at hu'
    cases hu'
    exact ⟨[.int (k₀ + (i : Nat)), x], .cons ⟨_, rfl⟩ (.cons ru .nil), by show 2 ≤ sizeLine; decide, fun T hT => ⟨T, x, rfl, hT, rfl, fun ys hy => by rw [seqK_inj I hy hq]; exact hx⟩⟩
  · intro X hP hw hK hc i pins s σ H I st hg
    subst hP hw hK
    obtain ⟨he, hi⟩ := st
    obtain ⟨xs, hq, hx⟩ := hg
    obtain ⟨its, rv, p, hz⟩ := seqK I hq
    have hl := rv.length
    exact ⟨_, _, _, _, _, _, WalksT.enumFrom k₀ (drawK (show X.A.in1.handled = none from I.ok.hd hc) k it a hai its.toArray) e hei (by simp [hei, hea]) (by simp), by rw [List.size_toArray]; omega, ⟨he, hi, p⟩, fun b hb => hb⟩
  · intro A i s Q E st h
    obtain ⟨⟨_, he⟩, _⟩ := st
    exact wpAny_pyIter_enum he h
/-- the object of enumerate(..) at its begin -/
def enumAt (it : Addr) : Obj := { cls := .type "enumerate", data := .fields #[.none, .bool false, .ref it, rawInt 0, .none, .none] }
/-- enumerate of one thing lays the thing's iterator and, behind it, its own object -/
theorem enumNew {v : Value} {o : Obj} {H : Heap → Prop} (B : Begins v o H) :
    Meets (Builtin.«enumerate.__new__» ⟨[.type "enumerate", v], []⟩) (fun _ R s => H s.heap ∧ R (.ok (.ret (.ref (s.heap.push o).objs.size))) { s with heap := (s.heap.push o).push (enumAt s.heap.objs.size) }) := by
  refine .of_wp fun prog w A R st given => ?_
  have exact' := sub_enumerate
  have begun : ∀ {A' : Around} {X : Value → Shared → Prop} {Q : Value → Shared → Prop}, Q (.ref st.heap.objs.size) { st with heap := st.heap.push o } → wpAny (model prog w) A' (pyIter v) Q X st := fun q => B.iter prog w _ _ st _ given.1 q
  have fin := given.2
  wp_walk using begun
  refine wpAny_stack_any fun frames => wpAny_pure ?_
  split
  · rename_i cl _ _ _ _ _
    cases (cl == Value.type "enumerate") <;> (wp_walk using begun; exact ⟨_, rfl, fin⟩)
  · wp_walk using begun
    exact ⟨_, rfl, fin⟩
theorem enum_begins1 {prog : Program} {w : World} {A : Around} {E : Value → Shared → Prop} {s : Shared} {v : Value} {o : Obj} {H : Heap → Prop} {Q : Value → Shared → Prop} (B : Begins v o H) (given : H s.heap)
    (goal : ∀ h', IsEnum h' (s.heap.objs.size + 1) s.heap.objs.size 0 .none → h'.get? s.heap.objs.size = some o → h'.objs.size = s.heap.objs.size + 2 → (∀ c u, s.heap.get? c = some u → h'.get? c = some u) → Q (.ref (s.heap.objs.size + 1)) { s with heap := h' }) :
    wpAny (model prog w) A (call (.type "enumerate") [v]) Q E s := by
  have one : (s.heap.push o).objs.size = s.heap.objs.size + 1 := Heap.size_push ..
  have made : ((s.heap.push o).push (enumAt s.heap.objs.size)).get? (s.heap.objs.size + 1) = some (enumAt s.heap.objs.size) := by
    rw [← one]
    exact Heap.get?_push_size _ rfl
  have told : Q (.ref (s.heap.objs.size + 1)) { s with heap := (s.heap.push o).push (enumAt s.heap.objs.size) } :=
    goal _ made (Heap.get?_push_of_some _ (Heap.get?_push_size _ B.free)) (by rw [Heap.size_push, one]) fun c u e => Heap.get?_push_of_some _ (Heap.get?_push_of_some _ e)
  rw [← one] at made told
  exact callType_new F.called_enumerate (by decide) (F.typeCall_enumerate_1 _) (F.newCall_enumerate_1 _) (fun obj => F.args_object_init_2 obj _) F.entry_enumerate_new (enumNew B) ⟨given, ⟨_, made, rfl⟩, told⟩
/-- addresses that are all new may be a walk's own -/
abbrev ownNew {X : Cx} {pins : List (Addr × Obj)} {σ : L2.St} {H : Hp} {s : Shared} {fp : List Addr} (I : Inv X pins σ H s) (new : ∀ c ∈ fp, s.heap.objs.size ≤ c) {c : Addr} (hc : c ∈ fp) := I.fpOk (new c hc) (I.hok.fresh (new c hc))
theorem newAll {n : Nat} {l : List Nat} : ∀ c ∈ l.map (n + ·), n ≤ c := fun c h => by obtain ⟨k, _, rfl⟩ := List.mem_map.mp h; exact Nat.le_add_right n k
def iEnumK (K : PySem.W.Frag) (ta : TA) : TI := fun σ H R => ta σ H fun vs H1 => ∃ k a xs, vs = [.ref a] ∧ SqK K k H1 a xs ∧ R (ItE K k a 0) H1
theorem pi_enumK {X : Cx} {e : Expr} {ta : TA} {p pos tpos : Pos} {elts : List Expr} {kk : Nat} (hg : Gl X "enumerate") (hm : X.mg "enumerate" = none) (ha : PA X [e] ta) (hs : starEach [e] X.env = [(false, eval e X.env)] := by rfl) :
    PI X (.Tuple elts kk tpos) (.Call (.Name "enumerate" p) [e] [] pos) (iEnumK X.K ta) := by
  refine ⟨fun pins s σ H R I h => ?_⟩
  refine Call_ (ld_blt I hg hm boot_enumerate (PyProof.Rows.callWith_type1 (thn (ha.run pos pins s σ H _ I h) fun us s1 ⟨vs, H1, I1, r1, q1⟩ => ?_) hs rfl))
  obtain ⟨k, a, xs, ex, hq, q⟩ := q1
  subst ex
  cases r1 with
  | cons r rr =>
    cases rr
    cases r
    obtain ⟨its, rv, p', hz⟩ := seqK I1 hq
    have la := p'.lt
    refine enum_begins1 (begK k a its.toArray) p' fun h' he hit hsz hk => wpAny_pyIter_enum he ?_
    refine ⟨s1.heap.objs.size + 1, [s1.heap.objs.size + 1, s1.heap.objs.size], _, _, H1, rfl, I1.kept (t' := s1.toks) hk, turn_enumK (k := k) (a := a) (k₀ := 0) (Nat.succ_ne_self _) (Nat.ne_of_gt (Nat.lt_succ_of_lt la)) (Nat.ne_of_lt la), ⟨⟨.none, by simpa using he⟩, .first hit⟩, fun b hb => ownNew I1 (newAll (l := [1, 0])) hb, q⟩
/-! ### zip of two -/
def ItZ2 (K : PySem.W.Frag) (k1 k2 : Kd) (a b : Addr) : It :=
  ⟨fun i H => ∃ (xs ys : List V) (x y : V), SqK K k1 H a xs ∧ SqK K k2 H b ys ∧ xs[i]? = some x ∧ ys[i]? = some y,
    fun i H v H' => ∃ T x y, v = .ref T ∧ H T = none ∧ H' = upd H T (.tup [x, y]) ∧ (∀ xs, SqK K k1 H a xs → xs[i]? = some x) ∧ ∀ ys, SqK K k2 H b ys → ys[i]? = some y,
    fun i H => ∃ xs ys : List V, SqK K k1 H a xs ∧ SqK K k2 H b ys ∧ i = min xs.length ys.length⟩
theorem turn_zipK2 {P : Program} {w : World} {K : PySem.W.Frag} {elts : List Expr} {kk : Nat} {tpos : Pos} {k1 k2 : Kd} {a b z TI TO i1 i2 : Addr} (D : ZipSep2 z TI TO i1 i2 [i1, a] [i2, b]) (h1 : a ≠ i1) (h2 : b ≠ i2) :
    Turn P w K (.Tuple elts kk tpos) (ItZ2 K k1 k2 a b) [z, TI, TO, i1, i2] z (fun i h => IsZip h z TI TO .none ∧ IsTupOf2 h TI (.ref i1) (.ref i2) ∧ (∃ x y, IsTupOf2 h TO x y) ∧ IterK k1 h i1 a i ∧ IterK k2 h i2 b i) := by
  refine turn_of (by simp) ?_ ?_ ?_ ?_ ?_
  · intro i h st c hc
    obtain ⟨hz, hTI, ⟨x, y, hTO⟩, e1, e2⟩ := st
    have e' : c = z ∨ c = TI ∨ c = TO ∨ c = i1 ∨ c = i2 := by simpa using hc
    rcases e' with q | q | q | q | q
    · rw [q]; exact ⟨_, hz, fun v q => nomatch q⟩
    · rw [q]; exact ⟨_, hTI, fun v q => nomatch q⟩
    · rw [q]; exact ⟨_, hTO, fun v q => nomatch q⟩
    · rw [q]; exact e1.obj
    · rw [q]; exact e2.obj
  · intro i h h' st kp
    obtain ⟨hz, hTI, ⟨x, y, hTO⟩, e1, e2⟩ := st
    exact ⟨kp z (by simp) _ hz, kp TI (by simp) _ hTI, ⟨x, y, kp TO (by simp) _ hTO⟩, e1.at fun o q => kp i1 (by simp) o q, e2.at fun o q => kp i2 (by simp) o q⟩
  · intro X hP hw hK hc i pins s σ H I st hg
    subst hP hw hK
    obtain ⟨hz, hTI, hTO, e1, e2⟩ := st
    obtain ⟨xs, ys, x, y, hqx, hqy, hx, hy⟩ := hg
    obtain ⟨its1, rv1, p1, hz1⟩ := seqK I hqx
    obtain ⟨its2, rv2, p2, hz2⟩ := seqK I hqy
    have l1 := rv1.length
    have l2 := rv2.length
    have lt1 : i < xs.length := (List.getElem?_eq_some_iff.mp hx).1
    have lt2 : i < ys.length := (List.getElem?_eq_some_iff.mp hy).1
    have hh : X.A.in1.handled = none := I.ok.hd hc
    refine ⟨_, _, _, _, _, _, WalksT.zipD2 D (drawK hh k1 i1 a h1 its1.toArray) (drawK hh k2 i2 b h2 its2.toArray), by rw [List.size_toArray, List.size_toArray]; omega, ⟨hz, hTI, hTO, ⟨e1, p1⟩, ⟨e2, p2⟩⟩,
      fun c hc' => ?_, fun h' st' => ⟨st'.1, st'.2.1, st'.2.2.1, st'.2.2.2.1.1, st'.2.2.2.2.1⟩, ?_⟩
    · have e' : c = z ∨ c = TO ∨ c = i1 ∨ c = i2 := by simpa using hc'
      rcases e' with q | q | q | q <;> simp [q]
    · rintro vals ⟨u1, u2, hu1, hu2, rfl⟩
      obtain ⟨v1, hv1, rv1'⟩ := rv1.get hx
      obtain ⟨v2, hv2, rv2'⟩ := rv2.get hy
      have f1 : its1[i]? = some u1 := by simpa using hu1
      have f2 : its2[i]? = some u2 := by simpa using hu2
      rw [f1] at hv1
      rw [f2] at hv2
      cases hv1
      cases hv2
      exact ⟨[x, y], .cons rv1' (.cons rv2' .nil), by show 2 ≤ sizeLine; decide, fun T hT => ⟨T, x, y, rfl, hT, rfl, fun l hl => by rw [seqK_inj I hl hqx]; exact hx, fun l hl => by rw [seqK_inj I hl hqy]; exact hy⟩⟩
  · intro X hP hw hK hc i pins s σ H I st hg
    subst hP hw hK
    obtain ⟨hz, hTI, hTO, e1, e2⟩ := st
    obtain ⟨xs, ys, hqx, hqy, hi⟩ := hg
    obtain ⟨its1, rv1, p1, hz1⟩ := seqK I hqx
    obtain ⟨its2, rv2, p2, hz2⟩ := seqK I hqy
    have l1 := rv1.length
    have l2 := rv2.length
    have hh : X.A.in1.handled = none := I.ok.hd hc
    refine ⟨_, _, _, _, _, _, WalksT.zipD2 D (drawK hh k1 i1 a h1 its1.toArray) (drawK hh k2 i2 b h2 its2.toArray), by rw [List.size_toArray, List.size_toArray, ← l1, ← l2]; exact hi, ⟨hz, hTI, hTO, ⟨e1, p1⟩, ⟨e2, p2⟩⟩, fun c hc' => ?_⟩
    have e' : c = z ∨ c = TO ∨ c = i1 ∨ c = i2 := by simpa using hc'
    rcases e' with q | q | q | q <;> simp [q]
  · intro A i s Q E st h
    exact wpAny_pyIter_zip st.1 h
def iZip2 (K : PySem.W.Frag) (ta : TA) : TI := fun σ H R => ta σ H fun vs H1 => ∃ k1 k2 a b xs ys, vs = [.ref a, .ref b] ∧ SqK K k1 H1 a xs ∧ SqK K k2 H1 b ys ∧ R (ItZ2 K k1 k2 a b) H1
theorem pi_zip2 {X : Cx} {e e2 : Expr} {ta : TA} {p pos tpos : Pos} {elts : List Expr} {kk : Nat} (hg : Gl X "zip") (hm : X.mg "zip" = none) (ha : PA X [e, e2] ta)
    (hs : starEach [e, e2] X.env = (false, eval e X.env) :: starEach [e2] X.env := by rfl) (hpl : (backTo pos (starEach [e2] X.env)).any (·.1) = false := by rfl) :
    PI X (.Tuple elts kk tpos) (.Call (.Name "zip" p) [e, e2] [] pos) (iZip2 X.K ta) := by
  refine ⟨fun pins s σ H R I h => ?_⟩
  refine Call_ (ld_blt I hg hm PyProof.Rows.boot_zip (PyProof.Rows.callWith_type1 (thn (ha.run pos pins s σ H _ I h) fun us s1 ⟨vs, H1, I1, r1, q1⟩ => ?_) hs hpl))
  obtain ⟨k1, k2, a, b, xs, ys, ex, hqx, hqy, q⟩ := q1
  subst ex
  cases r1 with
  | cons r rr =>
    cases rr with
    | cons r' rr =>
      cases rr
      cases r
      cases r'
      obtain ⟨its1, rv1, p1, _⟩ := seqK I1 hqx
      obtain ⟨its2, rv2, p2, _⟩ := seqK I1 hqy
      have la := p1.lt
      have lb := p2.lt
      refine zip_begins2 (begK k1 a its1.toArray) (begK k2 b its2.toArray) p1 p2 fun h' hz hTI hTO h1 h2 hsz hk => wpAny_pyIter_zip hz ?_
      refine ⟨s1.heap.objs.size + 4, [s1.heap.objs.size + 4, s1.heap.objs.size + 2, s1.heap.objs.size + 3, s1.heap.objs.size, s1.heap.objs.size + 1], _, _, H1, rfl, I1.kept (t' := s1.toks) hk,
        turn_zipK2 (k1 := k1) (k2 := k2) (zip_sep2 (fp1 := [a]) (fp2 := [b]) (fun c hc => by rw [List.mem_singleton.mp hc]; exact la) (fun c hc => by rw [List.mem_singleton.mp hc]; exact lb)) (Nat.ne_of_lt la) (Nat.ne_of_lt (Nat.lt_succ_of_lt lb)), ⟨hz, hTI, ⟨_, _, hTO⟩, .first h1, .first h2⟩, fun c hcm => ownNew I1 (newAll (l := [4, 2, 3, 0, 1])) hcm, q⟩
/-! ### zip of three -/
/-! ### over data -/
/-- what stands at an address through the walk -/
def WSrc (K : PySem.W.Frag) (k : Kd) (a : Addr) (S : Src) (Hc0 : Hp) : Prop := ∀ H Hc μ, Same Hc0 Hc → Split K H Hc μ → S.ok μ → ∃ vs, SqK K k H a vs ∧ RepA K Hc vs S.ds
theorem src_of {K : PySem.W.Frag} {H Hc : Hp} {μ : M} {v : V} {d : D} {S : Src} (s : Split K H Hc μ) (r : Rep K Hc v d) (h : srcOf μ d = some S) : ∃ k a, v = .ref a ∧ S.ok μ ∧ WSrc K k a S Hc := by
  cases r with
  | @lst ad vs ds ha ra =>
    cases (show some (Src.dat ds) = some S from h)
    exact ⟨.l, ad, rfl, True.intro, fun H' Hc' μ' e' s' _ => ⟨vs, SqL.of (s'.same _ _ (e' _ _ ha)), ra.mono e'⟩⟩
  | @tup ad vs ds ha ra =>
    cases (show some (Src.dat ds) = some S from h)
    exact ⟨.t, ad, rfl, True.intro, fun H' Hc' μ' e' s' _ => ⟨vs, same_t s'.same (same_t e' ha), ra.mono e'⟩⟩
  | raw =>
    cases v with
    | ref p =>
      obtain ⟨xs, hp, rfl⟩ := src_refs h
      refine ⟨.l, p, rfl, hp, fun H' Hc' μ' e' s' hok => ?_⟩
      obtain ⟨_, o', ho', vs', rfl, ra'⟩ := s'.cell p _ (show μ' p = some (.lst xs) from hok)
      exact ⟨vs', SqL.of ho', ra'⟩
    | _ => cases h
  | _ => cases h
theorem WSrc.mono {K : PySem.W.Frag} {k : Kd} {a : Addr} {S : Src} {Hc Hc' : Hp} (e : Same Hc Hc') (w : WSrc K k a S Hc) : WSrc K k a S Hc' := fun H2 Hc2 μ2 e2 s2 ok => w H2 Hc2 μ2 (e.trans e2) s2 ok
/-- a tuple laid at the turn -/
theorem new_tup {K : PySem.W.Frag} {H Hc : Hp} {μ : M} {T : Addr} {vs : List V} {ds : List D} (s : Split K H Hc μ) (hT : H T = none) (ra : RepA K Hc vs ds) : ∃ Hc', Same Hc Hc' ∧ Split K (upd H T (.tup vs)) Hc' μ ∧ Rep K Hc' (.ref T) (.tup ds) :=
  ⟨upd Hc T (.tup vs), same_new (s.fresh hT).2, s.data hT, .tup (.inl (.inl upd_same)) (ra.mono (same_new (s.fresh hT).2))⟩
def enumL (n : Int) (ds : List D) : List D := ds.mapIdx fun i d => .tup [.int (n + (i : Nat)), d]
theorem enumL_get {n : Int} {ds : List D} {i : Nat} : (enumL n ds)[i]? = ds[i]?.map fun d => .tup [.int (n + (i : Nat)), d] := by unfold enumL; rw [List.getElem?_mapIdx]
theorem enumL_len {n : Int} {ds : List D} : (enumL n ds).length = ds.length := by unfold enumL; rw [List.length_mapIdx]
abbrev Src.enum (n : Int) (S : Src) : Src := ⟨enumL n S.ds, S.ok, S.mono⟩
theorem wlk_enum {K : PySem.W.Frag} {k : Kd} {a : Addr} {S : Src} {Hc0 : Hp} {n : Int} (w : WSrc K k a S Hc0) : Wlk K (ItE K k a n) (S.enum n) Hc0 := fun i H Hc μ e0 s ok => by
  obtain ⟨vs, hv, ra⟩ := w H Hc μ e0 s ok
  refine ⟨fun d hd => ?_, fun hi => ⟨vs, hv, by rw [ra.length]; rw [enumL_len] at hi; exact hi⟩⟩
  rw [enumL_get] at hd
  obtain ⟨d0, hd0, rfl⟩ := Option.map_eq_some_iff.mp hd
  obtain ⟨v, h1, h2⟩ := ra.get hd0
  refine ⟨⟨vs, v, hv, h1⟩, fun x H' hy => ?_⟩
  obtain ⟨T, x0, rfl, hT, rfl, hx⟩ := hy
  have e := hx vs hv
  rw [h1] at e
  cases e
  exact new_tup s hT (.cons (.int _) (.cons h2 .nil))
def zipL (xs ys : List D) : List D := List.zipWith (fun x y => .tup [x, y]) xs ys
theorem zipL_get {xs ys : List D} {i : Nat} {d : D} (h : (zipL xs ys)[i]? = some d) : ∃ x y, xs[i]? = some x ∧ ys[i]? = some y ∧ d = .tup [x, y] := by
  unfold zipL at h
  rw [List.getElem?_zipWith] at h
  split at h
  · rename_i x y hx hy
    exact ⟨x, y, hx, hy, (Option.some.inj h).symm⟩
  · cases h
theorem zipL_len {xs ys : List D} : (zipL xs ys).length = min xs.length ys.length := by unfold zipL; rw [List.length_zipWith]
abbrev Src.zip (S T : Src) : Src := ⟨zipL S.ds T.ds, fun μ => S.ok μ ∧ T.ok μ, fun μ p c h k => ⟨S.mono μ p c h k.1, T.mono μ p c h k.2⟩⟩
theorem wlk_zip2 {K : PySem.W.Frag} {k1 k2 : Kd} {a b : Addr} {S T : Src} {Hc0 : Hp} (w1 : WSrc K k1 a S Hc0) (w2 : WSrc K k2 b T Hc0) : Wlk K (ItZ2 K k1 k2 a b) (S.zip T) Hc0 := fun i H Hc μ e0 s ok => by
  obtain ⟨vs, hv, ra⟩ := w1 H Hc μ e0 s ok.1
  obtain ⟨ws, hw, rb⟩ := w2 H Hc μ e0 s ok.2
  refine ⟨fun d hd => ?_, fun hi => ⟨vs, ws, hv, hw, by rw [ra.length, rb.length]; rw [zipL_len] at hi; exact hi⟩⟩
  obtain ⟨d1, d2, hd1, hd2, rfl⟩ := zipL_get hd
  obtain ⟨v, h1, h2⟩ := ra.get hd1
  obtain ⟨u, h3, h4⟩ := rb.get hd2
  refine ⟨⟨vs, ws, v, u, hv, hw, h1, h3⟩, fun x H' hy => ?_⟩
  obtain ⟨T, x0, y0, rfl, hT, rfl, hx, hy⟩ := hy
  have e := hx vs hv
  rw [h1] at e
  cases e
  have e := hy ws hw
  rw [h3] at e
  cases e
  exact new_tup s hT (.cons h2 (.cons h4 .nil))
def zipL3 (xs ys zs : List D) : List D := List.zipWith (fun x yz => .tup [x, yz.1, yz.2]) xs (List.zip ys zs)
abbrev Src.zip3 (S T U : Src) : Src := ⟨zipL3 S.ds T.ds U.ds, fun μ => S.ok μ ∧ T.ok μ ∧ U.ok μ, fun μ p c h k => ⟨S.mono μ p c h k.1, T.mono μ p c h k.2.1, U.mono μ p c h k.2.2⟩⟩
def OptS2 (o p : Option Src) (F : Src → Src → Src) (R : Src → M → Prop) (μ : M) : Prop := match o, p with
  | some S, some T => R (F S T) μ
  | _, _ => False
def OptS3 (o p q : Option Src) (F : Src → Src → Src → Src) (R : Src → M → Prop) (μ : M) : Prop := match o, p, q with
  | some S, some T, some U => R (F S T U) μ
  | _, _, _ => False
@[simp] theorem OptS2_some {S T : Src} {F : Src → Src → Src} {R : Src → M → Prop} {μ : M} : OptS2 (some S) (some T) F R μ = R (F S T) μ := rfl
@[simp] theorem OptS3_some {S T U : Src} {F : Src → Src → Src → Src} {R : Src → M → Prop} {μ : M} : OptS3 (some S) (some T) (some U) F R μ = R (F S T U) μ := rfl
theorem OptS2.ex {o p : Option Src} {F : Src → Src → Src} {R : Src → M → Prop} {μ : M} (h : OptS2 o p F R μ) : ∃ S T, o = some S ∧ p = some T ∧ R (F S T) μ := by
  unfold OptS2 at h
  split at h
  · exact ⟨_, _, rfl, rfl, h⟩
  · exact h.elim
theorem OptS3.ex {o p q : Option Src} {F : Src → Src → Src → Src} {R : Src → M → Prop} {μ : M} (h : OptS3 o p q F R μ) : ∃ S T U, o = some S ∧ p = some T ∧ q = some U ∧ R (F S T U) μ := by
  unfold OptS3 at h
  split at h
  · exact ⟨_, _, _, rfl, rfl, rfl, h⟩
  · exact h.elim
def kEnum (R : Src → M → Prop) (ds : List D) (μ : M) : Prop := match ds with
  | [d] => OptS ((srcOf μ d).map (Src.enum 0)) R μ
  | _ => False
def kZip2 (R : Src → M → Prop) (ds : List D) (μ : M) : Prop := match ds with
  | [d, e] => OptS2 (srcOf μ d) (srcOf μ e) Src.zip R μ
  | _ => False
def kZip3 (R : Src → M → Prop) (ds : List D) (μ : M) : Prop := match ds with
  | [d, e, f] => OptS3 (srcOf μ d) (srcOf μ e) (srcOf μ f) Src.zip3 R μ
  | _ => False
def dEnum (tr : DTA) (W : XD) (δ : Sl) (μ : M) (R : Src → M → Prop) : Prop := tr W δ μ (kEnum R)
def dZip2 (tr : DTA) (W : XD) (δ : Sl) (μ : M) (R : Src → M → Prop) : Prop := tr W δ μ (kZip2 R)
def dZip3 (tr : DTA) (W : XD) (δ : Sl) (μ : M) (R : Src → M → Prop) : Prop := tr W δ μ (kZip3 R)
section
variable {X : Cx} {W : WX} {a b c : Expr} {tr : DTA} {elts : List Expr} {kk : Nat} {tpos : Pos}
theorem di_enum {p pos : Pos} (hm : X.mg "enumerate" = none) (ha : DA X W [a] tr) (hg : Gl X "enumerate" := by rfl) (hs : starEach [a] X.env = [(false, eval a X.env)] := by rfl) : DI X W (.Tuple elts kk tpos) (.Call (.Name "enumerate" p) [a] [] pos) (dEnum tr) :=
  PI.imp (pi_enumK hg hm ha hs) fun σ H R ⟨δ, μ, Hc, Rd, Xd, s, rs, h, ri, rx⟩ => ⟨δ, μ, Hc, _, Xd, s, rs, h, fun ds μ1 h1 vs H1 Hc1 e1 s1 r1 => by
    unfold kEnum at h1
    split at h1
    · obtain ⟨v, rfl, r⟩ := r1.one'
      obtain ⟨S', hS', hR⟩ := OptS.ex h1
      obtain ⟨S, hS, rfl⟩ := Option.map_eq_some_iff.mp hS'
      obtain ⟨k, ad, rfl, ok, ws⟩ := src_of s1 r hS
      obtain ⟨xs, hx, _⟩ := ws _ _ _ (Same.refl _) s1 ok
      exact ⟨k, ad, xs, rfl, hx, ri _ _ hR _ _ _ e1 s1 (wlk_enum ws)⟩
    · exact h1.elim, rx⟩
theorem di_zip2 {p pos : Pos} (hm : X.mg "zip" = none) (ha : DA X W [a, b] tr) (hg : Gl X "zip" := by rfl) (hs : starEach [a, b] X.env = (false, eval a X.env) :: starEach [b] X.env := by rfl) (hpl : (backTo pos (starEach [b] X.env)).any (·.1) = false := by rfl) :
    DI X W (.Tuple elts kk tpos) (.Call (.Name "zip" p) [a, b] [] pos) (dZip2 tr) :=
  PI.imp (pi_zip2 hg hm ha hs hpl) fun σ H R ⟨δ, μ, Hc, Rd, Xd, s, rs, h, ri, rx⟩ => ⟨δ, μ, Hc, _, Xd, s, rs, h, fun ds μ1 h1 vs H1 Hc1 e1 s1 r1 => by
    unfold kZip2 at h1
    split at h1
    · obtain ⟨v, u, rfl, r, r'⟩ := r1.two'
      obtain ⟨S, T, hS, hT, hR⟩ := OptS2.ex h1
      obtain ⟨k1, a1, rfl, ok1, ws1⟩ := src_of s1 r hS
      obtain ⟨k2, a2, rfl, ok2, ws2⟩ := src_of s1 r' hT
      obtain ⟨xs, hx, _⟩ := ws1 _ _ _ (Same.refl _) s1 ok1
      obtain ⟨ys, hy, _⟩ := ws2 _ _ _ (Same.refl _) s1 ok2
      exact ⟨k1, k2, a1, a2, xs, ys, rfl, hx, hy, ri _ _ hR _ _ _ e1 s1 (wlk_zip2 ws1 ws2)⟩
    · exact h1.elim, rx⟩
end
end DL
set_option Elab.async false
set_option linter.all false
set_option maxRecDepth 100000
set_option maxHeartbeats 2000000
/-! The data layer: methods of lists, slices, list(range), and more built-ins. -/
namespace DL
open PySem PySem.Spec PyProof.Rows L2
theorem Ret.put {K : PySem.W.Frag} {H Hc : Hp} {μ : M} {Qd : QD} {Q : VK} {v : V} {d : D} {p : Addr} {c c' : C} {o : HO} (rt : Ret K Hc Qd Q) (s : Split K H Hc μ) (hp : μ p = some c) (ok : CellOk K Hc p c' o) (r : Rep K Hc v d) (q : Qd d (updM μ p c')) : Q v (upd H p o) :=
  rt _ _ q _ _ Hc (Same.refl _) (s.put hp ok) r
theorem Ret.putL {K : PySem.W.Frag} {H Hc : Hp} {μ : M} {Qd : QD} {Q : VK} {v : V} {d : D} {p : Addr} {c : C} {vs : List V} {ds : List D} (rt : Ret K Hc Qd Q) (s : Split K H Hc μ) (hp : μ p = some c) (ra : RepA K Hc vs ds) (r : Rep K Hc v d) (q : Qd d (updM μ p (.lst ds))) : Q v (upd H p (.lst vs)) :=
  rt.put s hp (c' := .lst ds) ⟨vs, rfl, ra⟩ r q
abbrev DRM := D → List D → M → QD → Prop
def LMt (K : PySem.W.Frag) (r : V → List V → Hp → VK → Prop) (g : DRM) : Prop := ∀ (v : V) (d : D) (vs : List V) (ds : List D) (H Hc : Hp) (μ : M) (Q : VK) (Qd : QD), Split K H Hc μ → Rep K Hc v d → RepA K Hc vs ds → g d ds μ Qd → Ret K Hc Qd Q → r v vs H Q
/-- a list stands there -/
def isL (μ : M) (d : D) : Prop := ∃ ds, view μ d = .lst ds
theorem isL_cell {μ : M} {p : Addr} {ds : List D} (h : μ p = some (.lst ds)) : isL μ (.raw (.ref p)) := ⟨ds, view_cell h⟩
def kM2 (g : DRM) (d : D) (Q : QD) (ds : List D) (μ : M) : Prop := g d ds μ Q
def kM1 (g : DRM) (tr : DTA) (W : XD) (δ : Sl) (Q : QD) (d : D) (μ : M) : Prop := isL μ d ∧ tr W δ μ (kM2 g d Q)
def dM (g : DRM) (to : DTE) (tr : DTA) (W : XD) (δ : Sl) (μ : M) (Q : QD) : Prop := to W δ μ (kM1 g tr W δ Q)
def kM0 (g : DRM) (Q : QD) (d : D) (μ : M) : Prop := isL μ d ∧ g d [] μ Q
def dM0 (g : DRM) (to : DTE) (W : XD) (δ : Sl) (μ : M) (Q : QD) : Prop := to W δ μ (kM0 g Q)
section
variable {X : Cx} {W : WX} {o e : Expr} {es : List Expr} {to : DTE} {tr : DTA} {name : Str} {apos cpos : Pos} {id : String} {r : V → List V → Hp → VK → Prop} {g : DRM}
theorem de_m (slot : Slot "list" name id) (hty : typeOf (.builtin id) = pure (.type "method_descriptor")) (hm : MtR X id r) (l : LMt X.K r g) (ho : DE X W o to) (ha : DA X W (e :: es) tr)
    (hbase : attributeBase o name X.env (eval o X.env) = eval o X.env := by rfl)
    (hfew : ((backTo cpos (starEach (e :: es) X.env)).all (fun x => !x.1) && (backToKw cpos (keywordEach [] X.env)).all (fun x => x.1.isSome)
      && decide ((e :: es).length + ([] : List Keyword).length + (if ([] : List Keyword).isEmpty then 0 else 1) < 30)) = true := by rfl)
    (hline : (apos.endLine == cpos.line) = true := by rfl) (hs : starEach (e :: es) X.env = (false, eval e X.env) :: starEach es X.env := by rfl) (hplain : (backTo cpos (starEach es X.env)).any (·.1) = false := by rfl) :
    DE X W (.Call (.Attribute o name apos) (e :: es) [] cpos) (dM g to tr) :=
  PE.imp (pe_bm F.plainAttrs_list slot hty hm ho ha hbase hfew hline hs hplain) fun σ H Q ⟨δ, μ, Hc, Qd, Xd, s, rs, h, rt, rx⟩ => ⟨δ, μ, Hc, _, Xd, s, rs, h, fun d μ1 h1 v H1 Hc1 e1 s1 r1 => by
    obtain ⟨⟨ds0, hv⟩, h2⟩ := h1
    obtain ⟨a, vs0, rfl, ha0, _⟩ := view_lst s1 r1 hv
    exact ⟨.inl ⟨rfl, vs0, SqL.of ha0⟩, δ, μ1, Hc1, _, Xd, s1, rs.mono e1, h2, fun ds μ2 h3 vs H2 Hc2 e2 s2 r2 => l _ d vs ds H2 Hc2 μ2 Q Qd s2 (r1.mono e2) r2 h3 (rt.mono (e1.trans e2)), rx.mono e1⟩, rx⟩
end
/-- a cell as a tracked list -/
theorem cell_lst {K : PySem.W.Frag} {H Hc : Hp} {μ : M} {p : Addr} {ds : List D} (s : Split K H Hc μ) (h : μ p = some (.lst ds)) : ∃ vs, H p = some (.lst vs) ∧ RepA K Hc vs ds := by
  obtain ⟨_, o, ho, vs, rfl, ra⟩ := s.cell p _ h
  exact ⟨vs, ho, ra⟩
theorem rep_raw {K : PySem.W.Frag} {H : Hp} {v u : V} (r : Rep K H v (.raw u)) : v = u := by cases r; rfl
def gAppend : DRM := fun d ds μ Q => match d, ds with
  | .raw (.ref p), [y] => ∃ xs, μ p = some (.lst xs) ∧ xs.length < sizeLine ∧ Q .non (updM μ p (.lst (xs ++ [y])))
  | _, _ => False
def gInsert : DRM := fun d ds μ Q => match d, ds with
  | .raw (.ref p), [.int i, y] => ∃ xs, μ p = some (.lst xs) ∧ xs.length < sizeLine ∧ 0 ≤ i ∧ i < 2 ^ 63 ∧ Q .non (updM μ p (.lst (xs.take i.toNat ++ [y] ++ xs.drop i.toNat)))
  | _, _ => False
def gExtend : DRM := fun d ds μ Q => match d, ds with
  | .raw (.ref p), [e] => ∃ xs zs, μ p = some (.lst xs) ∧ view μ e = .lst zs ∧ xs.length + zs.length ≤ sizeLine ∧ Q .non (updM μ p (.lst (xs ++ zs)))
  | _, _ => False
def gPop1 : DRM := fun d ds μ Q => match d, ds with
  | .raw (.ref p), [.int i] => ∃ xs k y, μ p = some (.lst xs) ∧ -(2 ^ 63) ≤ i ∧ i < 2 ^ 63 ∧ seqIndex? i xs.length = some k ∧ xs[k]? = some y ∧ Q y (updM μ p (.lst (xs.eraseIdx k)))
  | _, _ => False
def gPop0 : DRM := fun d ds μ Q => match d, ds with
  | .raw (.ref p), [] => ∃ xs y, μ p = some (.lst xs) ∧ xs[xs.length - 1]? = some y ∧ Q y (updM μ p (.lst xs.dropLast))
  | _, _ => False
def gReverse : DRM := fun d ds μ Q => match d, ds with
  | .raw (.ref p), [] => ∃ xs, μ p = some (.lst xs) ∧ Q .non (updM μ p (.lst xs.reverse))
  | _, _ => False
def gSort : DRM := fun d ds μ Q => match d, ds with
  | .raw (.ref p), [] => ∃ ns : List Int, μ p = some (.lst (ns.map D.int)) ∧ ∀ ns' : List Int, ns'.Perm ns → ns'.Pairwise (· ≤ ·) → Q .non (updM μ p (.lst (ns'.map D.int)))
  | _, _ => False
def gRemove : DRM := fun d ds μ Q => match d, ds with
  | .raw (.ref p), [.int k] => ∃ (ns : List Int) (j : Nat), μ p = some (.lst (ns.map D.int)) ∧ ns[j]? = some k ∧ (∀ m : Nat, m < j → ns[m]? ≠ some k) ∧ Q .non (updM μ p (.lst ((ns.eraseIdx j).map D.int)))
  | _, _ => False
def gCount : DRM := fun d ds μ Q => match ds with
  | [.int k] => ∃ ns : List Int, view μ d = .lst (ns.map D.int) ∧ Q (.int (ns.count k : Nat)) μ
  | _ => False
def gIndex : DRM := fun d ds μ Q => match ds with
  | [y] => ∃ xs j z, view μ d = .lst xs ∧ flatD y = true ∧ xs.all flatD = true ∧ xs[j]? = some z ∧ eqD z y = true ∧ (∀ (m : Nat) (z' : D), m < j → xs[m]? = some z' → eqD z' y = false) ∧ Q (.int (j : Nat)) μ
  | _ => False
theorem RepA.reverse {K : PySem.W.Frag} {H : Hp} : ∀ {vs : List V} {ds : List D}, RepA K H vs ds → RepA K H vs.reverse ds.reverse
  | _, _, .nil => .nil
  | _, _, .cons a r => by rw [List.reverse_cons, List.reverse_cons]; exact (RepA.reverse r).append (.cons a .nil)
theorem RepA.eraseIdx {K : PySem.W.Frag} {H : Hp} : ∀ {vs : List V} {ds : List D} (n : Nat), RepA K H vs ds → RepA K H (vs.eraseIdx n) (ds.eraseIdx n)
  | _, _, _, .nil => .nil
  | _, _, 0, .cons _ r => r
  | _, _, n + 1, .cons a r => .cons a (RepA.eraseIdx n r)
theorem RepA.dropLast {K : PySem.W.Frag} {H : Hp} {vs : List V} {ds : List D} (r : RepA K H vs ds) : RepA K H vs.dropLast ds.dropLast := by
  rw [List.dropLast_eq_take, List.dropLast_eq_take, r.length]
  exact r.take _
section
variable {K : PySem.W.Frag}
theorem l_append : LMt K rAppend gAppend := by
  intro v d vs ds H Hc μ Q Qd s r ra h rt
  unfold gAppend at h
  split at h
  · obtain ⟨xs, hp, hl, q⟩ := h
    obtain ⟨us, hu, ru⟩ := cell_lst s hp
    obtain ⟨y, rfl, ry⟩ := ra.one'
    cases rep_raw r
    exact ⟨_, us, y, rfl, rfl, hu, by rw [ru.length]; exact hl, rt.putL s hp (ru.append (.cons ry .nil)) .non q⟩
  · exact h.elim
theorem l_insert : LMt K (fun x vs H Q => ∃ (l : Addr) (xs : List V) (i : Int) (y : V), x = .ref l ∧ vs = [.int i, y] ∧ H l = some (.lst xs) ∧ xs.length < sizeLine ∧ 0 ≤ i ∧ i < 2 ^ 63 ∧
    Q .non (upd H l (.lst (xs.take i.toNat ++ [y] ++ xs.drop i.toNat)))) gInsert := by
  intro v d vs ds H Hc μ Q Qd s r ra h rt
  unfold gInsert at h
  split at h
  · obtain ⟨xs, hp, hl, h0, h1, q⟩ := h
    obtain ⟨us, hu, ru⟩ := cell_lst s hp
    obtain ⟨i', y, rfl, ri, ry⟩ := ra.two'
    cases rep_raw r
    cases ri
    exact ⟨_, us, _, y, rfl, rfl, hu, by rw [ru.length]; exact hl, h0, h1, rt.putL s hp (((ru.take _).append (.cons ry .nil)).append (ru.drop _)) .non q⟩
  · exact h.elim
end
section
variable {X : Cx} {W : WX} {o e : Expr} {es : List Expr} {to : DTE} {tr : DTA} {apos cpos : Pos}
end
/-! ### slices -/
def cutD (xs : List D) (lo hi : Option Int) : List D := (xs.drop (HT.sIx xs.length 0 lo)).take (HT.sIx xs.length xs.length hi - HT.sIx xs.length 0 lo)
theorem cut_rep {K : PySem.W.Frag} {H : Hp} {vs : List V} {ds : List D} {lo hi : Option Int} (r : RepA K H vs ds) : RepA K H (cutV vs lo hi) (cutD ds lo hi) := by
  unfold cutV cutD
  rw [r.length]
  exact (r.drop _).take _
theorem cutD_all {xs : List D} {lo hi : Option Int} (h : HT.sIx xs.length 0 lo = 0 ∧ HT.sIx xs.length xs.length hi = xs.length) : cutD xs lo hi = xs := by
  unfold cutD
  rw [h.1, h.2, List.drop_zero, Nat.sub_zero, List.take_length]
abbrev DTO := XD → Sl → M → (Option Int → M → Prop) → Prop
def RetO (K : PySem.W.Frag) (Hc : Hp) (Qd : Option Int → M → Prop) (Q : Option Int → Hp → Prop) : Prop := ∀ b μ', Qd b μ' → ∀ H' Hc', Same Hc Hc' → Split K H' Hc' μ' → Q b H'
def upO (K : PySem.W.Frag) (W : WX) (t : DTO) : TO := fun σ H Q => ∃ δ μ Hc Qd Xd, Split K H Hc μ ∧ RepS K Hc σ δ ∧ t Xd δ μ Qd ∧ RetO K Hc Qd Q ∧ RetX K Hc Xd (fun cls d H => W cls d σ H)
def DO' (X : Cx) (W : WX) (e : Option Expr) (t : DTO) : Prop := PO X e (upO X.K W t)
def dNoPart (_ : XD) (_ : Sl) (μ : M) (Q : Option Int → M → Prop) : Prop := Q none μ
def kPart (Q : Option Int → M → Prop) (d : D) (μ : M) : Prop := match d with
  | .int i => Q (some i) μ
  | _ => False
def dPart (t : DTE) (W : XD) (δ : Sl) (μ : M) (Q : Option Int → M → Prop) : Prop := t W δ μ (kPart Q)
theorem PO.imp {X : Cx} {e : Option Expr} {t t' : TO} (h : PO X e t) (i : ∀ σ H Q, t' σ H Q → t σ H Q) : PO X e t' := ⟨fun pins s σ H Q I w => h.run pins s σ H Q I (i σ H Q w)⟩
abbrev DRS := D → Option Int → Option Int → M → QD → Prop
def kSl3 (g : DRS) (d : D) (lo : Option Int) (Q : QD) (hi : Option Int) (μ : M) : Prop := g d lo hi μ Q
def kSl2 (g : DRS) (d : D) (th : DTO) (W : XD) (δ : Sl) (Q : QD) (lo : Option Int) (μ : M) : Prop := th W δ μ (kSl3 g d lo Q)
def kSl1 (g : DRS) (tl th : DTO) (W : XD) (δ : Sl) (Q : QD) (d : D) (μ : M) : Prop := tl W δ μ (kSl2 g d th W δ Q)
def dSlG (g : DRS) (te : DTE) (tl th : DTO) (W : XD) (δ : Sl) (μ : M) (Q : QD) : Prop := te W δ μ (kSl1 g tl th W δ Q)
def gSl : DRS := fun d lo hi μ Q => match view μ d with
  | .lst xs => Q (.lst (cutD xs lo hi)) μ
  | .tup xs => Q (.tup (cutD xs lo hi)) μ
  | .str z => z.length ≤ sizeLine ∧ Q (.str (cutS z lo hi)) μ
  | _ => False
/-- .. of a list, a cell -/
def gSlC : DRS := fun d lo hi μ Q => match view μ d with
  | .lst xs => NewC (cutD xs lo hi) μ Q
  | _ => False
abbrev dSl := dSlG gSl
def rSlAll (K : PySem.W.Frag) : V → Option Int → Option Int → Hp → VK → Prop := fun x lo hi H Q => rSlL K x lo hi H Q ∨ (rSlA K x lo hi H Q ∨ rSlS x lo hi H Q)
def LSl (K : PySem.W.Frag) (r : V → Option Int → Option Int → Hp → VK → Prop) (g : DRS) : Prop := ∀ (v : V) (d : D) (lo hi : Option Int) (H Hc : Hp) (μ : M) (Q : VK) (Qd : QD), Split K H Hc μ → Rep K Hc v d → g d lo hi μ Qd → Ret K Hc Qd Q → r v lo hi H Q
theorem l_sl {K : PySem.W.Frag} : LSl K (rSlAll K) gSl := by
  intro v d lo hi H Hc μ Q Qd s r h rt
  unfold gSl at h
  split at h
  · rename_i xs e1
    obtain ⟨a, vs, rfl, ha, ra⟩ := view_lst s r e1
    exact .inl ⟨a, vs, rfl, SqL.of ha, rt.new s (cut_rep ra) h⟩
  · rename_i xs e1
    obtain ⟨a, vs, rfl, ha, ra⟩ := view_tup s r e1
    refine .inr (.inl ⟨a, vs, rfl, ha, fun hw => ?_, fun _ => rt.newT s (cut_rep ra) h⟩)
    rw [ra.length] at hw
    rw [cutD_all hw] at h
    cases r with
    | tup h3 h4 =>
      cases (show D.tup _ = D.tup _ from e1)
      exact rt.val s (.tup h3 h4) h
    | key h3 =>
      cases (show D.tup _ = D.tup _ from e1)
      exact rt.val s (.tup (SqT.of h3) (rep_keys _)) h
    | raw =>
      exfalso
      rcases view_refs e1 with ⟨es, _, h'⟩ | h' <;> cases h'
    | lst h3 h4 => cases e1
    | scr h3 => cases e1
    | emp h3 => cases e1
  · rename_i z e1
    exact .inr (.inr ⟨z, view_str r e1, h.1, rt.val s (.str _) h.2⟩)
  · exact h.elim
section
variable {X : Cx} {W : WX} {a e : Expr} {lo hi : Option Expr} {te : DTE} {tl th : DTO} {g : DRS} {p2 pos : Pos}
theorem do_none : DO' X W none dNoPart := PO.imp po_none fun σ H Q ⟨δ, μ, Hc, Qd, Xd, s, rs, h, rt, rx⟩ => rt _ _ h _ _ (Same.refl _) s
theorem do_some (h : DE X W e te) : DO' X W (some e) (dPart te) := PO.imp (po_some h) fun σ H Q ⟨δ, μ, Hc, Qd, Xd, s, rs, h, rt, rx⟩ => ⟨δ, μ, Hc, _, Xd, s, rs, h, fun d μ1 h1 v H1 Hc1 e1 s1 r1 => by
    unfold kPart at h1
    split at h1
    · cases r1
      exact ⟨_, rfl, rt _ _ h1 _ _ e1 s1⟩
    · exact h1.elim, rx⟩
theorem de_slG (l : LSl X.K (rSlAll X.K) g) (he : DE X W e te) (hl : DO' X W lo tl) (hu : DO' X W hi th) : DE X W (.Subscript e (.Slice lo hi none p2) pos) (dSlG g te tl th) :=
  PE.imp (pe_slice (SlR.or sl_list (SlR.or sl_tupA sl_str)) he hl hu) fun σ H Q ⟨δ, μ, Hc, Qd, Xd, s, rs, h, rt, rx⟩ => ⟨δ, μ, Hc, _, Xd, s, rs, h, fun d μ1 h1 v H1 Hc1 e1 s1 r1 =>
    ⟨δ, μ1, Hc1, _, Xd, s1, rs.mono e1, h1, fun o1 μ2 h2 H2 Hc2 e2 s2 => ⟨δ, μ2, Hc2, _, Xd, s2, rs.mono (e1.trans e2), h2, fun o2 μ3 h3 H3 Hc3 e3 s3 =>
      l v d o1 o2 H3 Hc3 μ3 Q Qd s3 (r1.mono (e2.trans e3)) h3 (rt.mono ((e1.trans e2).trans e3)), rx.mono (e1.trans e2)⟩, rx.mono e1⟩, rx⟩
theorem de_sl (he : DE X W e te) (hl : DO' X W lo tl) (hu : DO' X W hi th) : DE X W (.Subscript e (.Slice lo hi none p2) pos) (dSl te tl th) := de_slG l_sl he hl hu
end
/-! ### list(range(..)) -/
def kLR1 (g : List D → M → QD → Prop) (Q : QD) (d : D) (μ : M) : Prop := match d with
  | .int j => (-(2 ^ 62) ≤ j ∧ j ≤ 16777216) ∧ g (rangeD 0 j.toNat) μ Q
  | _ => False
def dLR1 (g : List D → M → QD → Prop) (t : DTE) (W : XD) (δ : Sl) (μ : M) (Q : QD) : Prop := t W δ μ (kLR1 g Q)
def kLR22 (g : List D → M → QD → Prop) (Q : QD) (d e : D) (μ : M) : Prop := match d, e with
  | .int i, .int j => (-(2 ^ 62) ≤ i ∧ i < 2 ^ 62 ∧ -(2 ^ 62) ≤ j ∧ j < 2 ^ 62 ∧ (j - i).toNat ≤ 16777216) ∧ g (rangeD i (j - i).toNat) μ Q
  | _, _ => False
def kLR21 (g : List D → M → QD → Prop) (tb : DTE) (W : XD) (δ : Sl) (Q : QD) (d : D) (μ : M) : Prop := tb W δ μ (kLR22 g Q d)
def dLR2 (g : List D → M → QD → Prop) (ta tb : DTE) (W : XD) (δ : Sl) (μ : M) (Q : QD) : Prop := ta W δ μ (kLR21 g tb W δ Q)
/-- what becomes of the new list: data, or a cell -/
def nLst (ds : List D) (μ : M) (Q : QD) : Prop := Q (.lst ds) μ
def LNew (K : PySem.W.Frag) (g : List D → M → QD → Prop) : Prop := ∀ {H Hc : Hp} {μ : M} {Qd : QD} {Q : VK} {vs : List V} {ds : List D}, Ret K Hc Qd Q → Split K H Hc μ → RepA K Hc vs ds → g ds μ Qd → ∀ p, H p = none → Q (.ref p) (upd H p (.lst vs))
theorem ln_cel {K : PySem.W.Frag} : LNew K NewC := fun rt s ra q => rt.newC s ra q
theorem rg_rep {K : PySem.W.Frag} {H : Hp} {a : Int} : ∀ n : Nat, RepA K H ((List.range n).map fun i => V.int (a + (i : Nat))) (rangeD a n)
  | 0 => .nil
  | n + 1 => by
    unfold rangeD
    rw [List.range_succ, List.map_append, List.map_append]
    exact (rg_rep n).append (.cons (.int _) .nil)
section
variable {X : Cx} {W : WX} {a b : Expr} {ta tb : DTE} {g : List D → M → QD → Prop} {p pos p' pos' : Pos}
theorem de_lr1 (ln : LNew X.K g) (hm : X.mg "list" = none) (hmr : X.mg "range" = none) (ha : DE X W a ta) (hc : X.calm = true := by rfl) (hg : Gl X "list" := by rfl) (hgr : Gl X "range" := by rfl)
    (na : starEach [a] X.env = (false, eval a X.env) :: starEach [] X.env := by rfl) (na' : starEach [.Call (.Name "range" p) [a] [] pos] X.env = (false, eval (.Call (.Name "range" p) [a] [] pos) X.env) :: starEach [] X.env := by rfl) :
    DE X W (.Call (.Name "list" p') [.Call (.Name "range" p) [a] [] pos] [] pos') (dLR1 g ta) :=
  PE.imp (pe_listRg hc hg hm (prg_1 hgr hmr ha na) na') fun σ H Q ⟨δ, μ, Hc, Qd, Xd, s, rs, h, rt, rx⟩ => ⟨δ, μ, Hc, _, Xd, s, rs, h, fun d μ1 h1 v H1 Hc1 e1 s1 r1 => by
    unfold kLR1 at h1
    split at h1
    · rename_i j
      cases r1
      refine ⟨j, rfl, ⟨by decide, by decide, h1.1.1, by omega, by rw [Int.sub_zero]; omega⟩, ?_⟩
      have := rg_rep (K := X.K) (H := Hc1) (a := 0) j.toNat
      unfold rgV
      rw [Int.sub_zero]
      exact ln (rt.mono e1) s1 this h1.2
    · exact h1.elim, rx⟩
end
/-! ### new lists as cells -/
def gRepC : DR2 := fun a b μ Q => match view μ a, view μ b with
  | .lst xs, .int k => (-(2 ^ 63) ≤ k ∧ k < 2 ^ 63 ∧ xs.length * k.toNat ≤ sizeLine) ∧ NewC (List.replicate k.toNat xs).flatten μ Q
  | _, _ => False
def gCatC : DR2 := fun a b μ Q => match view μ a, view μ b with
  | .lst xs, .lst ys => xs.length + ys.length ≤ sizeLine ∧ NewC (xs ++ ys) μ Q
  | _, _ => False
theorem l_repC {K : PySem.W.Frag} : LOp K (rMulAll K) gRepC := by
  intro x y d e H Hc μ Q Qd s rx ry h rt
  unfold gRepC at h
  split at h
  · rename_i xs k e1 e2
    obtain ⟨a, vs, rfl, ha, ra⟩ := view_lst s rx e1
    exact .inr (.inl ⟨a, k, vs, rfl, view_int ry e2, ha, h.1.1, h.1.2.1, by rw [ra.length]; exact h.1.2.2, rt.newC s (ra.rep _) h.2⟩)
  · exact h.elim
theorem l_catC {K : PySem.W.Frag} : LOp K (rAddAll K) gCatC := by
  intro x y d e H Hc μ Q Qd s rx ry h rt
  unfold gCatC at h
  split at h
  · rename_i xs ys e1 e2
    obtain ⟨a, vs, rfl, ha, ra⟩ := view_lst s rx e1
    obtain ⟨b, ws, rfl, hb, rb⟩ := view_lst s ry e2
    exact .inr (.inl ⟨a, b, vs, ws, rfl, rfl, ha, hb, by rw [ra.length, rb.length]; exact h.1, rt.newC s (ra.append rb) h.2⟩)
  · exact h.elim
section
variable {X : Cx} {W : WX} {a b : Expr} {ta tb : DTE} {pos : Pos}
theorem de_repC (ha : DE X W a ta) (hb : DE X W b tb) : DE X W (.BinOp a .Mult b pos) (dOp gRepC ta tb) := de_op op_mulAll l_repC ha hb
theorem de_catC (ha : DE X W a ta) (hb : DE X W b tb) : DE X W (.BinOp a .Add b pos) (dOp gCatC ta tb) := de_op op_addAll l_catC ha hb
end
/-! ### more built-ins -/
def gInt : DRC := fun ds μ Q => match ds with
  | [.int i] => Q (.int i) μ
  | [.bl b] => Q (.int (if b then 1 else 0)) μ
  | _ => False
theorem l_int {K : PySem.W.Frag} : LCall K (fun xs H Q => (∃ i, xs = [.int i] ∧ Q (.int i) H) ∨ ∃ k, xs = [.bl k] ∧ Q (.int (if k then 1 else 0)) H) gInt := by
  intro vs ds H Hc μ Q Qd s ra h rt
  unfold gInt at h
  split at h
  · obtain ⟨v, rfl, r⟩ := ra.one'
    cases r
    exact .inl ⟨_, rfl, rt.val s (.int _) h⟩
  · obtain ⟨v, rfl, r⟩ := ra.one'
    cases r
    exact .inr ⟨_, rfl, rt.val s (.int _) h⟩
  · exact h.elim
def gSorted : DRC := fun ds μ Q => match ds with
  | [d] => ∃ ns : List Int, view μ d = .lst (ns.map D.int) ∧ ∀ ns' : List Int, ns'.Perm ns → ns'.Pairwise (· ≤ ·) → Q (.lst (ns'.map D.int)) μ
  | _ => False
def gMaxL : DRC := fun ds μ Q => match ds with
  | [d] => ∃ ns : List Int, view μ d = .lst (ns.map D.int) ∧ 0 < ns.length ∧ ∀ m, m ∈ ns → (∀ y, y ∈ ns → y ≤ m) → Q (.int m) μ
  | _ => False
def gMinL : DRC := fun ds μ Q => match ds with
  | [d] => ∃ ns : List Int, view μ d = .lst (ns.map D.int) ∧ 0 < ns.length ∧ ∀ m, m ∈ ns → (∀ y, y ∈ ns → m ≤ y) → Q (.int m) μ
  | _ => False
/-! ### {} -/
def dEmp (_ : XD) (_ : Sl) (μ : M) (Q : QD) : Prop := Q .emp μ
theorem de_emp {X : Cx} {W : WX} {pos : Pos} : DE X W (.Dict [] [] pos) dEmp := PE.imp pe_dnewK fun σ H Q ⟨δ, μ, Hc, Qd, Xd, s, rs, h, rt, rx⟩ p hp =>
  rt _ _ h _ _ (upd Hc p (.dK [])) (same_new (s.fresh hp).2) (s.data hp) (.emp upd_same)
end DL
set_option Elab.async false
set_option linter.all false
set_option maxRecDepth 100000
set_option maxHeartbeats 2000000
/-! The data layer: slices with a step. -/
namespace DL
open PySem PySem.Spec PyProof.Rows L2
/-! ### t[::-1] of a tuple -/
theorem pick_rev (xs : Array Value) : ((List.range xs.size).filterMap fun (m : Nat) => xs[(((xs.size : Int) - 1) + (m : Int) * (-1)).toNat]?).toArray = xs.toList.reverse.toArray := by
  congr 1
  apply List.ext_getElem?
  intro i
  have e : ((List.range xs.size).filterMap fun (m : Nat) => xs[(((xs.size : Int) - 1) + (m : Int) * (-1)).toNat]?) = (List.range xs.size).pmap (fun m (h : m < xs.size) => xs[xs.size - 1 - m]) (fun m hm => List.mem_range.mp hm) := by
    have key : ∀ (l : List Nat) (hl : ∀ m ∈ l, m < xs.size), (l.filterMap fun (m : Nat) => xs[(((xs.size : Int) - 1) + (m : Int) * (-1)).toNat]?) = l.pmap (fun m (h : m < xs.size) => xs[xs.size - 1 - m]) hl := by
      intro l
      induction l with
      | nil => intro _; rfl
      | cons m l ih =>
        intro hl
        have hm := hl m List.mem_cons_self
        have e1 : (((xs.size : Int) - 1) + (m : Int) * (-1)).toNat = xs.size - 1 - m := by omega
        rw [List.filterMap_cons, e1, Array.getElem?_eq_getElem (by omega), List.pmap_cons]
        simp only
        rw [ih fun k hk => hl k (List.mem_cons_of_mem _ hk)]
    exact key _ _
  rw [e]
  by_cases hi : i < xs.size
  · rw [List.getElem?_eq_getElem (by simpa using hi), List.getElem?_eq_getElem (by simpa using hi)]
    simp
  · rw [List.getElem?_eq_none (by simpa using hi), List.getElem?_eq_none (by simpa using hi)]
section
variable {prog : Program} {w : World} {A : Around} {E : Value → Shared → Prop} {s : Shared}
theorem sliceApplied_rev {sl : Addr} {t : Tok} {n : Nat} {Q : Int × Int × Nat → Shared → Prop} (hs : s.heap.IsSliceOf sl .none .none (.int (-1) t))
    (h : Q ((n : Int) - 1, -1, n) s) : wpAny (model prog w) A (Builtin.Slice.sliceApplied (.ref sl) (pure (n : Int))) Q E s := by
  obtain ⟨os, hos, hcs, hds⟩ := id hs
  unfold Builtin.Slice.sliceApplied Builtin.Slice.sliceFields
  refine wpAny_bind (wpAny_bind (wpAny_field hos hds (x := .none) rfl (wpAny_bind (wpAny_field hos hds (x := .none) rfl (wpAny_bind (wpAny_field hos hds (x := .int (-1) t) rfl (wpAny_pure ?_)))))))
  refine wpAny_bind (slicePart_int ?_)
  show wpAny _ _ (if ((-1 : Int) == 0) = true then _ else _) _ _ s
  rw [if_neg (by decide)]
  refine wpAny_bind (slicePart_none (wpAny_bind (slicePart_none (wpAny_bind (wpAny_pure ?_)))))
  have e1 : Builtin.Slice.sliceAdjust none none (-1) (n : Int) = ((n : Int) - 1, -1) := by
    unfold Builtin.Slice.sliceAdjust
    simp
  have e2 : Builtin.Slice.slicePlaces ((n : Int) - 1) (-1) (-1) = n := by
    unfold Builtin.Slice.slicePlaces
    simp
    split <;> omega
  show wpAny _ _ (match Builtin.Slice.sliceAdjust none none (-1) (n : Int) with | (lo, hi) => pure (lo, (-1 : Int), Builtin.Slice.slicePlaces lo hi (-1))) _ _ s
  rw [e1]
  show wpAny _ _ (pure ((n : Int) - 1, (-1 : Int), Builtin.Slice.slicePlaces ((n : Int) - 1) (-1) (-1))) _ _ s
  rw [e2]
  exact wpAny_pure h
/-- t[::-1] of a tuple: __getitem__ of tuples, walked from its definition -/
theorem getItem_tuple_rev {t sl : Addr} {u : Tok} {items : Array Value} {Q : Value → Shared → Prop} (tup : IsTup s.heap t items) (cut : s.heap.IsSliceOf sl .none .none (.int (-1) u))
    (goal : Q (.ref s.heap.objs.size) { s with heap := s.heap.push { cls := .type "tuple", data := .seq items.toList.reverse.toArray } }) (few : items.size ≤ sizeLine) :
    wpAny (model prog w) A (getItem (.ref t) (.ref sl)) Q E s := by
  have tyT := tup.typeIs
  have tyS : s.TypeIs (.ref sl) "slice" := by obtain ⟨o, ho, hc, _⟩ := cut; exact ⟨o, ho, hc⟩
  have fits : sizeOk (.seq items.toList.reverse.toArray) := by
    show items.toList.reverse.toArray.size ≤ sizeLine
    simpa using few
  have body : ∀ {P : Value → Shared → Prop} {X : Value → Shared → Prop}, P (.ref s.heap.objs.size) { s with heap := s.heap.push { cls := .type "tuple", data := .seq items.toList.reverse.toArray } } → wpAny (model prog w) A (call (.builtin "tuple.__getitem__") [.ref t, .ref sl]) P X s := by
    intro P X done
    refine wpAny_call_entry PyProof.Rows.slot_tuple_getitem tyT PyProof.Rows.entry_tuple_getitem ?_ (PyProof.Rows.args_tuple_getitem _ _)
    unfold Builtin.«tuple.__getitem__»
    obtain ⟨ot, hot, hct, nt, hdt⟩ := id tup
    generalize hA : Builtin.Slice.sliceApplied = SA
    wp_walk
    subst hA
    rw [hdt]
    refine wpAny_pure (wpAny_pure (wpAny_bind (wpAny_typeOf tyS ?_)))
    rw [if_pos (by decide)]
    refine wpAny_bind (sliceApplied_rev cut ?_)
    have other : ((((items.size : Nat) : Int) - 1) == 0 && (-1 : Int) == 1 && items.size == items.size) = false := by simp
    dsimp only
    rw [other, if_neg Bool.false_ne_true, pick_rev]
    unfold Builtin.Tuple.tupleExact
    refine wpAny_bind (wpAny_newObj_type ?_ fits)
    exact wpAny_pure ⟨_, rfl, done⟩
  unfold getItem
  generalize hS : @callSpecial? = CS
  wp_walk
  subst hS
  exact wpAny_callSpecial?_slot tyT PyProof.Rows.slot_tuple_getitem (body (wpAny_pure goal))
end
/-- a[::-1]: a new list, a new tuple -/
def rRev (K : PySem.W.Frag) : V → Hp → VK → Prop := fun x H Q => ∃ a xs, x = .ref a ∧ ((SqL K H a xs ∧ ∀ p, H p = none → Q (.ref p) (upd H p (.lst xs.reverse))) ∨ (SqT K H a xs ∧ ∀ p, H p = none → Q (.ref p) (upd H p (.tup xs.reverse))))
section
variable {X : Cx} {e : Expr} {te : TE} {pos p1 p2 p3 : Pos} {j : Nat}
theorem sizeV {xs : List V} {its : List Value} (r : Vals xs its) : its.toArray.size = xs.length := by
  have := r.length
  simp [this]
/-- a new object at the top of the heap, told as the value -/
theorem layTop {pins : List (Addr × Obj)} {σ : L2.St} {H : Hp} {s : Shared} {Q : VK} {o : HO} {ob : Obj} (I : Inv X pins σ H s) (ok : ∀ H', ObjOk X.prog X.w H' (s.heap.push ob) s.heap.objs.size o) (goal : ∀ p, H p = none → Q (.ref p) (upd H p o)) :
    EP X pins σ Q (.ref s.heap.objs.size) { s with heap := s.heap.push ob } :=
  ⟨.ref _, _, I.laid (t' := s.toks) (o := o) (fun _ _ e => Heap.get?_push_of_some _ e) (Nat.le_refl _) (ok _), rfl, goal _ (I.hok.fresh (Nat.le_refl _))⟩
theorem pe_rev (he : PE X e te) : PE X (.Subscript e (.Slice none none (some (.UnaryOp .USub (.Constant (.int 1) j p1) p3)) p2) pos) (fun σ H Q => te σ H fun x H1 => rRev X.K x H1 Q) := by
  refine ⟨fun pins s σ H Q I h => ?_⟩
  refine Subscript_ (thn (he.run pins s σ H _ I h) fun v s1 ⟨x, H1, I1, r1, q1⟩ => ?_)
  have hm : PE X (.UnaryOp .USub (.Constant (.int 1) j p1) p3) _ := pe_un un_neg pe_int
  refine wpAny_Slice ?_
  rw [evalPart_none]
  refine wpAny_pure ?_
  refine wpAny_pure ?_
  rw [evalPart_some]
  refine thn (hm.run pins s1 σ H1 (fun y H2 => y = .int (-1) ∧ H2 = H1) I1 ⟨1, rfl, rfl, rfl⟩) fun vk s3 ⟨y, H3, I3, ry, ey, eH⟩ => ?_
  subst ey eH
  obtain ⟨tk, rfl⟩ := ry
  have I4 : Inv X pins σ H3 { s3 with heap := s3.heap.push { cls := .type "slice", data := .fields #[.none, .none, .int (-1) tk] } } := I3.kept (t' := s3.toks) fun b ob q => Heap.get?_push_of_some _ q
  show wpAny (model X.prog X.w) X.A (subscriptTail e (.Slice none none (some (.UnaryOp .USub (.Constant (.int 1) j p1) p3)) p2) v (.ref s3.heap.objs.size)) (EP X pins σ Q) X.xe { s3 with heap := s3.heap.push { cls := .type "slice", data := .fields #[.none, .none, .int (-1) tk] } }
  obtain ⟨a, xs, rfl, ⟨hq, q⟩ | ⟨hq, q⟩⟩ := q1
  · cases r1
    obtain ⟨its, r, p, hz⟩ := I4.list hq
    refine tail_any (ops := [.ref a, _]) p.isList.typeIs PySem.slot_list_getitem.lookup (wpAny_getItem_list_slice p.isList (Heap.IsSliceOf.new ..) .none .none (.int (-1) tk) (by decide) ?_ (by rw [sizeV r]; exact hz)) (by with_unfolding_all rfl)
    rw [PySem.W.krv_pick]
    exact layTop (o := .lst xs.reverse) I4 (fun _ => ⟨by rw [List.length_reverse]; exact hz, its.reverse, 0, r.reverse, Heap.get?_push_size _ rfl⟩) q
  · cases r1
    obtain ⟨its, r, p, hz⟩ := I4.tuple hq
    exact tail_any (ops := [.ref a, _]) p.typeIs PyProof.Rows.slot_tuple_getitem.lookup (getItem_tuple_rev p (Heap.IsSliceOf.new ..) (layTop (o := .tup xs.reverse) I4 (fun _ => ⟨by rw [List.length_reverse]; exact hz, its.reverse, r.reverse, IsTup.new _ _⟩) q) (by rw [sizeV r]; exact hz)) (by with_unfolding_all rfl)
end
/-! over data -/
def kRev (Q : QD) (d : D) (μ : M) : Prop := match view μ d with
  | .lst xs => Q (.lst xs.reverse) μ
  | .tup xs => Q (.tup xs.reverse) μ
  | _ => False
def dRev (t : DTE) (W : XD) (δ : Sl) (μ : M) (Q : QD) : Prop := t W δ μ (kRev Q)
section
variable {X : Cx} {W : WX} {e : Expr} {te : DTE} {pos p1 p2 p3 : Pos} {j : Nat}
theorem de_rev (he : DE X W e te) : DE X W (.Subscript e (.Slice none none (some (.UnaryOp .USub (.Constant (.int 1) j p1) p3)) p2) pos) (dRev te) :=
  PE.imp (pe_rev he) fun σ H Q ⟨δ, μ, Hc, Qd, Xd, s, rs, h, rt, rx⟩ => (show upE X.K W te σ H _ from ⟨δ, μ, Hc, _, Xd, s, rs, h, fun d μ1 h1 v H1 Hc1 e1 s1 r1 => by
    unfold kRev at h1
    split at h1
    · rename_i xs ev
      obtain ⟨a, vs, rfl, ha, ra⟩ := view_lst s1 r1 ev
      exact ⟨a, vs, rfl, .inl ⟨SqL.of ha, (rt.mono e1).new s1 ra.reverse h1⟩⟩
    · rename_i xs ev
      obtain ⟨a, vs, rfl, ha, ra⟩ := view_tup s1 r1 ev
      exact ⟨a, vs, rfl, .inr ⟨ha, (rt.mono e1).newT s1 ra.reverse h1⟩⟩
    · exact h1.elim, rx⟩)
end
end DL
set_option Elab.async false
set_option linter.all false
set_option maxRecDepth 100000
set_option maxHeartbeats 2000000
/-! The data layer: comprehensions (a list that is being made is hidden while its items are reckoned). -/
namespace DL
open PySem PySem.Spec L2
def hide (H : Hp) (p : Addr) : Hp := fun b => if b = p then none else H b
theorem hide_same {H : Hp} {p : Addr} : hide H p p = none := by unfold hide; rw [if_pos rfl]
theorem hide_ne {H : Hp} {p b : Addr} (h : b ≠ p) : hide H p b = H b := by unfold hide; rw [if_neg h]
theorem hide_some {H : Hp} {p b : Addr} {o : HO} (h : hide H p b = some o) : b ≠ p ∧ H b = some o := by
  unfold hide at h
  split at h
  · cases h
  · rename_i n; exact ⟨n, h⟩
section
variable {X : Cx} {pins : List (Addr × Obj)} {σ : L2.St} {H : Hp} {s : Shared} {p : Addr} {xs : List V}
theorem inv_hide (I : L2.Inv X pins σ H s) (hp : H p = some (.lst xs)) : ∃ its n, Vals xs its ∧ xs.length ≤ sizeLine ∧ s.heap.get? p = some { cls := .type "list", data := .seq its.toArray n } ∧ L2.Inv X ((p, { cls := .type "list", data := .seq its.toArray n }) :: pins) σ (hide H p) s := by
  obtain ⟨z, its, n, r, e⟩ := I.hok p _ hp
  refine ⟨its, n, r, z, e, ?_⟩
  have neO : ∀ b u, H b = some u → (∀ ys, u ≠ .lst ys) → hide H p b = some u := fun b u hb hu => by
    rw [hide_ne]
    · exact hb
    · intro z
      rw [z, hp] at hb
      exact hu xs (Option.some.inj hb).symm
  have hf : ∀ b ∈ X.fs, H b = none := fun b hb => by
    obtain ⟨_, o, ho, _⟩ := I.ok.funs.mem hb
    exact I.base.free b o ho (I.ok.frf b hb) fun z => I.ok.exfs b z hb
  have hn : ∀ b, H b = none → hide H p b = none := fun b hb => by
    by_cases e : b = p
    · rw [e]; exact hide_same
    · rw [hide_ne e]; exact hb
  refine ⟨I.ok, I.os, I.bare, ⟨I.base.keep, I.base.slot, fun b o e n hx => hn b (I.base.free b o e n hx), I.base.there, fun b ys e => neO _ _ (I.base.tups b ys e) (fun _ z => nomatch z), fun b o u e => neO _ _ (I.base.frzs b o u e) (fun _ z => nomatch z), fun b ps e => ?_⟩, I.loc, I.cell, hn _ I.free, fun x c e => hn _ (I.freeC x c e), fun q hq => ?_, fun b u e => ?_, I.len⟩
  · obtain ⟨more, q⟩ := I.base.tbls b ps e
    exact ⟨more, neO _ _ q (fun _ z => nomatch z)⟩
  · rcases List.mem_append.mp hq with hq | hq
    · obtain ⟨h1, h2, h3⟩ := I.pin q (List.mem_append_left _ hq)
      exact ⟨h1, hn _ h2, h3⟩
    · rcases List.mem_cons.mp hq with rfl | hq
      · refine ⟨e, hide_same, fun z => ?_, fun z => ?_, fun v z => nomatch z⟩
        · have := I.free
          rw [← z, hp] at this
          cases this
        · have := hf _ z
          rw [hp] at this
          cases this
      · obtain ⟨h1, h2, h3⟩ := I.pin q (List.mem_append_right _ hq)
        exact ⟨h1, hn _ h2, h3⟩
  · obtain ⟨_, e'⟩ := hide_some e
    exact (I.hok b u e').stay (fun _ _ _ q => q) (fun c q => neO _ _ q (fun _ z => nomatch z)) fun c ys q => neO _ _ q (fun _ z => nomatch z)
theorem inv_back {its : List Value} {n : Nat} {H' : Hp} {s' : Shared} {σ' : L2.St} (I : L2.Inv X pins σ H s) (hp : H p = some (.lst xs)) (r : Vals xs its) (z : xs.length ≤ sizeLine) (J : L2.Inv X ((p, { cls := .type "list", data := .seq its.toArray n }) :: pins) σ' H' s') :
    H' p = none ∧ L2.Inv X pins σ' (upd H' p (.lst xs)) s' := by
  obtain ⟨e, hn, _⟩ := J.pin (p, _) (List.mem_append_right _ List.mem_cons_self)
  refine ⟨hn, ?_⟩
  have neN : ∀ b, H b = none → b ≠ p := fun b hb z => by rw [z, hp] at hb; cases hb
  have neS : ∀ b u, H' b = some u → upd H' p (.lst xs) b = some u := fun b u hb => by
    rw [upd_ne]
    · exact hb
    · intro z
      have hn' : H' p = none := hn
      rw [z, hn'] at hb
      cases hb
  have up : ∀ b, b ≠ p → H' b = none → upd H' p (.lst xs) b = none := fun b hb h => by rw [upd_ne hb]; exact h
  refine ⟨J.ok, J.os, J.bare, ⟨J.base.keep, J.base.slot, fun b o e n hx => up b (neN b (I.base.free b o e n hx)) (J.base.free b o e n hx), J.base.there, fun b ys e => neS _ _ (J.base.tups b ys e), fun b o u e => neS _ _ (J.base.frzs b o u e), fun b ps e => ?_⟩, J.loc, J.cell, up _ (neN _ I.free) J.free, fun x c e => up _ (neN _ (I.freeC x c e)) (J.freeC x c e), fun q hq => ?_, fun b u e' => ?_, J.len⟩
  · obtain ⟨more, q⟩ := J.base.tbls b ps e
    exact ⟨more, neS _ _ q⟩
  · have hq' : q ∈ X.pn ++ ((p, { cls := .type "list", data := .seq its.toArray n }) :: pins) := by
      rcases List.mem_append.mp hq with h | h
      · exact List.mem_append_left _ h
      · exact List.mem_append_right _ (List.mem_cons_of_mem _ h)
    obtain ⟨h1, h2, h3⟩ := J.pin q hq'
    exact ⟨h1, up _ (neN _ (I.pin q hq).2.1) h2, h3⟩
  · by_cases hb : b = p
    · subst hb
      rw [upd_same] at e'
      cases e'
      exact ⟨z, its, n, r, e⟩
    · rw [upd_ne hb] at e'
      exact (J.hok b u e').stay (fun _ _ _ q => q) (fun c q => neS _ _ q) fun c ys q => neS _ _ q
/-- the list at p is set aside while an expression is reckoned -/
theorem pe_hide {e : Expr} {t : TE} (h : PE X e t) : PE X e (fun σ H Q => ∃ p xs, H p = some (.lst xs) ∧ t σ (hide H p) fun v H' => H' p = none → Q v (upd H' p (.lst xs))) := by
  refine ⟨fun pins s σ H Q I ⟨p, xs, hp, hw⟩ => ?_⟩
  obtain ⟨its, n, r, z, e, J⟩ := inv_hide I hp
  refine thn (h.run _ s σ _ _ J hw) fun v s1 ⟨x, H1, J1, r1, q1⟩ => ?_
  exact ⟨x, _, (inv_back I hp r z J1).2, r1, q1 (inv_back I hp r z J1).1⟩
theorem pts_hide {es : List Expr} {t : TT} (h : PTs X es t) : PTs X es (fun σ H Q => ∃ p xs, H p = some (.lst xs) ∧ t σ (hide H p) fun v H' => H' p = none → Q v (upd H' p (.lst xs))) := by
  refine ⟨fun pins s σ H Q I ⟨p, xs, hp, hw⟩ => ?_⟩
  obtain ⟨its, n, r, z, e, J⟩ := inv_hide I hp
  refine thn (h.run _ s σ _ _ J hw) fun v s1 ⟨H1, J1, q1⟩ => ?_
  exact ⟨_, (inv_back I hp r z J1).2, q1 (inv_back I hp r z J1).1⟩
theorem pg_hide {tg : Expr} {g : TG} (h : PG X tg g) : PG X tg (fun v σ H Q => ∃ p xs, H p = some (.lst xs) ∧ g v σ (hide H p) fun σ' H' => H' p = none → Q σ' (upd H' p (.lst xs))) := by
  refine ⟨fun pins s σ H v u Q I rv ⟨p, xs, hp, hw⟩ => ?_⟩
  obtain ⟨its, n, r, z, e, J⟩ := inv_hide I hp
  refine thn (h.run _ s σ _ v u _ J rv hw) fun _ s1 ⟨σ1, H1, J1, q1⟩ => ?_
  exact ⟨σ1, _, (inv_back I hp r z J1).2, q1 (inv_back I hp r z J1).1⟩
end
theorem split_hide {K : PySem.W.Frag} {H Hc : Hp} {μ : M} {p : Addr} {ds : List D} (s : Split K H Hc (updM μ p (.lst ds))) (hn : μ p = none) : Split K (hide H p) Hc μ ∧ ∃ xs, H p = some (.lst xs) ∧ RepA K Hc xs ds := by
  obtain ⟨h1, o, h2, xs, rfl, ra⟩ := s.cell p _ updM_same
  refine ⟨⟨fun q c e => ?_, fun q e => ?_⟩, xs, h2, ra⟩
  · have ne : q ≠ p := fun z => by rw [z, hn] at e; cases e
    rw [hide_ne ne]
    exact s.cell q c (by rw [updM_ne ne]; exact e)
  · by_cases ne : q = p
    · rw [ne, hide_same, h1]
    · rw [hide_ne ne]
      exact s.rest q (by rw [updM_ne ne]; exact e)
theorem split_back {K : PySem.W.Frag} {H Hc : Hp} {μ : M} {p : Addr} {ds : List D} {xs : List V} (s : Split K H Hc μ) (hp : H p = none) (ra : RepA K Hc xs ds) : μ p = none ∧ Split K (upd H p (.lst xs)) Hc (updM μ p (.lst ds)) := ⟨(s.fresh hp).1, s.new hp ⟨xs, rfl, ra⟩⟩
def hidE (t : TE) : TE := fun σ H Q => ∃ p xs, H p = some (.lst xs) ∧ t σ (hide H p) fun v H' => H' p = none → Q v (upd H' p (.lst xs))
def hidT' (t : TT) : TT := fun σ H Q => ∃ p xs, H p = some (.lst xs) ∧ t σ (hide H p) fun v H' => H' p = none → Q v (upd H' p (.lst xs))
def hidG (g : TG) : TG := fun v σ H Q => ∃ p xs, H p = some (.lst xs) ∧ g v σ (hide H p) fun σ' H' => H' p = none → Q σ' (upd H' p (.lst xs))
/-- one comprehension: what stands at its end is wanted by Qe -/
theorem lc_lift {K : PySem.W.Frag} {W : WX} {ti : DTI} {g : TG} {f : TGD} {tt : DTT} {te : DTE} {vs : List Nat} (lg : LG K g f) (sl : SlotsIn f vs) {σ : L2.St} {H Hc : Hp} {μ : M} {δ : Sl} {Xd : XD} {Q : VK} {Qe : List D → M → Prop}
    (s : Split K H Hc μ) (rs : RepS K Hc σ δ) (h : ti Xd δ μ (kLc f tt te vs Qe δ)) (rx : RetX K Hc Xd (fun cls d H => W cls d σ H))
    (fin : ∀ p acc μ' H' Hc', Same Hc Hc' → Split K H' Hc' (updM μ' p (.lst acc)) → μ' p = none → Qe acc μ' → Q (.ref p) H') : tLc (upI K W ti) (hidG g) (hidT' (upT K W0 tt)) (hidE (upE K W0 te)) vs σ H Q := by
  refine ⟨δ, μ, Hc, _, Xd, s, rs, h, fun S μ1 h1 J H1 Hc1 e1 s1 wk => ?_, rx⟩
  intro p hp
  obtain ⟨N, n0, ns⟩ := h1
  refine ⟨fun i m H' => i + m = S.ds.length ∧ ∃ μ' Hc' acc, Same Hc1 Hc' ∧ Split K H' Hc' (updM μ' p (.lst acc)) ∧ μ' p = none ∧ N i acc μ', ⟨S.ds.length, by omega, μ1, Hc1, [], Same.refl _, (split_back s1 hp .nil).2, (split_back s1 hp (.nil : RepA K Hc1 [] [])).1, n0⟩, ?_⟩
  rintro i m H2 ⟨hm, μ2, Hc2, acc, e2, s2, n2, l2⟩
  obtain ⟨ok2, l3, l4⟩ := ns i acc μ2 l2
  cases hd : S.ds[i]? with
  | none =>
    have hi : i = S.ds.length := by
      have := List.getElem?_eq_none_iff.mp hd
      omega
    exact .inl ⟨(wk i H2 Hc2 _ e2 s2 (S.mono _ _ _ n2 ok2)).2 (by omega), fin p acc μ2 H2 Hc2 (e1.trans e2) s2 n2 (l4 hi)⟩
  | some d =>
    obtain ⟨go, yl⟩ := (wk i H2 Hc2 _ e2 s2 (S.mono _ _ _ n2 ok2)).1 d hd
    refine .inr ⟨go, fun H' => ∃ μ' Hc' acc, Same Hc1 Hc' ∧ Split K H' Hc' (updM μ' p (.lst acc)) ∧ μ' p = none ∧ N (i + 1) acc μ', fun H' q => ?_, fun x H' hy => ?_⟩
    · have hlt : i < S.ds.length := (List.getElem?_eq_some_iff.mp hd).1
      exact ⟨m - 1, by omega, by omega, q⟩
    · obtain ⟨Hc3, e3, s3, r3⟩ := yl x H' hy
      obtain ⟨cs, hcs, hq⟩ := turnC.ex (l3 d hd)
      obtain ⟨s3h, xs, hx, ra⟩ := split_hide s3 n2
      have e03 := (e1.trans e2).trans e3
      have rs3 : RepS K Hc3 (wipe σ vs) (wipeD δ vs) := (rs.mono e03).wipe vs
      refine ⟨p, xs, hx, lg x d _ Hc3 μ2 _ _ cs s3h r3 hcs fun bs rb => ?_⟩
      intro hn4
      refine ⟨by
        rw [wipe_sets fun b hb => ?_]
        · have key : ∀ (τ : L2.St) (ws : List Nat), wipe (wipe τ ws) ws = wipe τ ws := fun τ ws => by
            have k2 : ∀ (us : List Nat), (∀ u ∈ us, u ∈ ws) → wipe (wipe τ us) ws = wipe τ ws := by
              intro us
              induction us with
              | nil => intro _; rfl
              | cons u us ih =>
                intro hu
                show wipe ((wipe τ us).set u none) ws = wipe τ ws
                rw [wipe_set (hu u List.mem_cons_self), ih fun z hz => hu z (List.mem_cons_of_mem _ hz)]
            exact k2 ws fun _ h => h
          exact key σ vs
        · have z := rb.fst
          have m1 : b.1 ∈ bs.map (·.1) := List.mem_map.mpr ⟨b, hb, rfl⟩
          rw [z] at m1
          obtain ⟨c, hc, ec⟩ := List.mem_map.mp m1
          rw [← ec]
          exact sl μ2 d cs hcs c hc, ?_⟩
      -- the tests
      refine ⟨p, xs, upd_same, sets cs (wipeD δ vs), μ2, Hc3, _, XF, ?_, RepS.sets rb rs3, hq, ?_, fun _ _ _ z => z.elim⟩
      · have e : hide (upd (hide H' p) p (.lst xs)) p = hide H' p := by
          funext b
          by_cases hb : b = p
          · rw [hb, hide_same, hide_same]
          · rw [hide_ne hb, upd_ne hb]
        rw [e]
        exact s3h
      · intro b μ4 h4 H4 Hc4 e4 s4 hn5
        cases b with
        | true =>
          rw [if_pos rfl]
          refine ⟨p, xs, upd_same, sets cs (wipeD δ vs), μ4, Hc4, _, XF, ?_, (RepS.sets rb rs3).mono e4, h4, ?_, fun _ _ _ z => z.elim⟩
          · have e : hide (upd H4 p (.lst xs)) p = H4 := by
              funext b
              by_cases hb : b = p
              · rw [hb, hide_same, hn5]
              · rw [hide_ne hb, upd_ne hb]
            rw [e]
            exact s4
          · intro y μ5 h5 v H5 Hc5 e5 s5 r5 hn6
            refine ⟨xs, upd_same, by rw [ra.length]; exact h5.1, μ5, Hc5, acc ++ [y], ((e2.trans e3).trans e4).trans e5, ?_, (s5.fresh hn6).1, h5.2⟩
            have e : upd (upd H5 p (.lst xs)) p (.lst (xs ++ [v])) = upd H5 p (.lst (xs ++ [v])) := upd_upd
            rw [e]
            exact (split_back s5 hn6 ((ra.mono (e4.trans e5)).append (RepA.one r5))).2
        | false =>
          rw [if_neg Bool.false_ne_true]
          exact ⟨μ4, Hc4, acc, (e2.trans e3).trans e4, (split_back s4 hn5 (ra.mono e4)).2, (s4.fresh hn5).1, h4⟩
def DTs (X : Cx) (W : WX) (es : List Expr) (t : DTT) : Prop := PTs X es (upT X.K W t)
section
variable {X : Cx} {W : WX} {elt tg iter c : Expr} {ifs : List Expr} {scope : Scope} {own : List (Str × Nat)} {pos : Pos} {ti : DTI} {g : TG} {f : TGD} {tt : DTT} {te : DTE}
theorem dts_nil : DTs X W [] dYes := ⟨fun pins s σ H Q I h => pts_nil.run pins s σ H Q I (let ⟨δ, μ, Hc, Qd, Xd, s, rs, h, rt, rx⟩ := h; rt _ _ h _ Hc (Same.refl _) s)⟩
theorem dts_one (h : DT X W c tt) : DTs X W [c] tt := pts_one h
theorem fin_data {K : PySem.W.Frag} {Hc : Hp} {Qd : QD} {Q : VK} (rt : Ret K Hc Qd Q) : ∀ p acc μ' H' Hc', Same Hc Hc' → Split K H' Hc' (updM μ' p (.lst acc)) → μ' p = none → Qd (.lst acc) μ' → Q (.ref p) H' := fun p acc μ' H' Hc' e s n q => by
  obtain ⟨h1, o, h2, xs, rfl, ra⟩ := s.cell p _ updM_same
  obtain ⟨Hc2, e2, s2, hh⟩ := s.sub (Sub.new n)
  exact rt _ _ q _ _ Hc2 (e.trans e2) s2 (.lst (by rw [hh p n]; exact h2) (ra.mono e2))
theorem fin_cell {K : PySem.W.Frag} {Hc : Hp} {Qd : QD} {Q : VK} (rt : Ret K Hc Qd Q) : ∀ p acc μ' H' Hc', Same Hc Hc' → Split K H' Hc' (updM μ' p (.lst acc)) → μ' p = none → (∀ p, μ' p = none → Qd (.raw (.ref p)) (updM μ' p (.lst acc))) → Q (.ref p) H' := fun p acc μ' H' Hc' e s n q => rt _ _ (q p n) _ _ _ e s (.raw _)
theorem de_lc (hN : X.N.Nodup) (hi : DI X W tg iter ti) (ok : BlkOk X.N X.env.scope scope own) (lg : LG X.K g f) (sl : SlotsIn f (own.map (·.2)))
    (hg : ∀ (s : Shared) (H : Hp) (C : Addr) (cl : List (Str × Addr)) (fp : List Addr), PG (X.blk s H scope (compEnvC scope cl C X.env) fp) tg g) (ht : ∀ (s : Shared) (H : Hp) (C : Addr) (cl : List (Str × Addr)) (fp : List Addr), DTs (X.blk s H scope (compEnvC scope cl C X.env) fp) W0 ifs tt)
    (he : ∀ (s : Shared) (H : Hp) (C : Addr) (cl : List (Str × Addr)) (fp : List Addr), DE (X.blk s H scope (compEnvC scope cl C X.env) fp) W0 elt te) (hc : X.calm = true := by rfl) (hs : ∀ x, foldedSetIterable iter X.env x = pure x := by intro _; rfl) :
    DE X W (.ListComp elt [⟨tg, iter, ifs, 0⟩] scope pos) (dLc ti f tt te (own.map (·.2))) :=
  PE.imp (pe_lc (g := hidG g) (tt := hidT' (upT X.K W0 tt)) (te := hidE (upE X.K W0 te)) hc hN hi ok (fun s H C cl fp => pg_hide (hg s H C cl fp)) (fun s H C cl fp => pts_hide (t := upT X.K W0 tt) (ht s H C cl fp)) (fun s H C cl fp => pe_hide (t := upE X.K W0 te) (he s H C cl fp)) hs) fun σ H Q ⟨δ, μ, Hc, Qd, Xd, s, rs, h, rt, rx⟩ => lc_lift lg sl s rs h rx (fin_data rt)
theorem de_lcC (hN : X.N.Nodup) (hi : DI X W tg iter ti) (ok : BlkOk X.N X.env.scope scope own) (lg : LG X.K g f) (sl : SlotsIn f (own.map (·.2)))
    (hg : ∀ (s : Shared) (H : Hp) (C : Addr) (cl : List (Str × Addr)) (fp : List Addr), PG (X.blk s H scope (compEnvC scope cl C X.env) fp) tg g) (ht : ∀ (s : Shared) (H : Hp) (C : Addr) (cl : List (Str × Addr)) (fp : List Addr), DTs (X.blk s H scope (compEnvC scope cl C X.env) fp) W0 ifs tt)
    (he : ∀ (s : Shared) (H : Hp) (C : Addr) (cl : List (Str × Addr)) (fp : List Addr), DE (X.blk s H scope (compEnvC scope cl C X.env) fp) W0 elt te) (hc : X.calm = true := by rfl) (hs : ∀ x, foldedSetIterable iter X.env x = pure x := by intro _; rfl) :
    DE X W (.ListComp elt [⟨tg, iter, ifs, 0⟩] scope pos) (dLcC ti f tt te (own.map (·.2))) :=
  PE.imp (pe_lc (g := hidG g) (tt := hidT' (upT X.K W0 tt)) (te := hidE (upE X.K W0 te)) hc hN hi ok (fun s H C cl fp => pg_hide (hg s H C cl fp)) (fun s H C cl fp => pts_hide (t := upT X.K W0 tt) (ht s H C cl fp)) (fun s H C cl fp => pe_hide (t := upE X.K W0 te) (he s H C cl fp)) hs) fun σ H Q ⟨δ, μ, Hc, Qd, Xd, s, rs, h, rt, rx⟩ => lc_lift lg sl s rs h rx (fin_cell rt)
/-- y = [..] -/
theorem ds_setLc {i : Nat} {y : Str} {py spos : Pos} (hN : X.N.Nodup) (hi : DI X W tg iter ti) (ok : BlkOk X.N X.env.scope scope own) (lg : LG X.K g f) (sl : SlotsIn f (own.map (·.2)))
    (hg : ∀ (s : Shared) (H : Hp) (C : Addr) (cl : List (Str × Addr)) (fp : List Addr), PG (X.blk s H scope (compEnvC scope cl C X.env) fp) tg g) (ht : ∀ (s : Shared) (H : Hp) (C : Addr) (cl : List (Str × Addr)) (fp : List Addr), DTs (X.blk s H scope (compEnvC scope cl C X.env) fp) W0 ifs tt)
    (he : ∀ (s : Shared) (H : Hp) (C : Addr) (cl : List (Str × Addr)) (fp : List Addr), DE (X.blk s H scope (compEnvC scope cl C X.env) fp) W0 elt te) (hsw : swapsWith (.ListComp elt [⟨tg, iter, ifs, 0⟩] scope pos) (some (.Name y py)) spos.line X.env = pure true)
    (hy : X.N[i]? = some y := by rfl) (hyl : X.env.scope.names.lookup y = some .local := by rfl) (hc : X.calm = true := by rfl) (hs : ∀ x, foldedSetIterable iter X.env x = pure x := by intro _; rfl) :
    DS X W (.Assign [.Name y py] (.ListComp elt [⟨tg, iter, ifs, 0⟩] scope pos) spos) (dSet i (dLc ti f tt te (own.map (·.2)))) :=
  PS.imp (ps_setLc (g := hidG g) (tt := hidT' (upT X.K W0 tt)) (te := hidE (upE X.K W0 te)) hc hN hy hyl hsw hi ok (fun s H C cl fp => pg_hide (hg s H C cl fp)) (fun s H C cl fp => pts_hide (t := upT X.K W0 tt) (ht s H C cl fp)) (fun s H C cl fp => pe_hide (t := upE X.K W0 te) (he s H C cl fp)) hs) fun D σ H ⟨δ, μ, Hc, Dd, s, rs, h, rt⟩ =>
    lc_lift (Q := fun x H1 => gName i x σ H1 D.nx) lg sl s rs h (rt.xc.at rs) (fin_data (Qd := fun d μ1 => Dd.nx (δ.set i (some d)) μ1) fun d μ1 h1 v H1 Hc1 e1 s1 r1 => rt.nx _ _ h1 _ _ _ e1 s1 ((rs.mono e1).set i r1))
theorem ds_setLcC {i : Nat} {y : Str} {py spos : Pos} (hN : X.N.Nodup) (hi : DI X W tg iter ti) (ok : BlkOk X.N X.env.scope scope own) (lg : LG X.K g f) (sl : SlotsIn f (own.map (·.2)))
    (hg : ∀ (s : Shared) (H : Hp) (C : Addr) (cl : List (Str × Addr)) (fp : List Addr), PG (X.blk s H scope (compEnvC scope cl C X.env) fp) tg g) (ht : ∀ (s : Shared) (H : Hp) (C : Addr) (cl : List (Str × Addr)) (fp : List Addr), DTs (X.blk s H scope (compEnvC scope cl C X.env) fp) W0 ifs tt)
    (he : ∀ (s : Shared) (H : Hp) (C : Addr) (cl : List (Str × Addr)) (fp : List Addr), DE (X.blk s H scope (compEnvC scope cl C X.env) fp) W0 elt te) (hsw : swapsWith (.ListComp elt [⟨tg, iter, ifs, 0⟩] scope pos) (some (.Name y py)) spos.line X.env = pure true)
    (hy : X.N[i]? = some y := by rfl) (hyl : X.env.scope.names.lookup y = some .local := by rfl) (hc : X.calm = true := by rfl) (hs : ∀ x, foldedSetIterable iter X.env x = pure x := by intro _; rfl) :
    DS X W (.Assign [.Name y py] (.ListComp elt [⟨tg, iter, ifs, 0⟩] scope pos) spos) (dSet i (dLcC ti f tt te (own.map (·.2)))) :=
  PS.imp (ps_setLc (g := hidG g) (tt := hidT' (upT X.K W0 tt)) (te := hidE (upE X.K W0 te)) hc hN hy hyl hsw hi ok (fun s H C cl fp => pg_hide (hg s H C cl fp)) (fun s H C cl fp => pts_hide (t := upT X.K W0 tt) (ht s H C cl fp)) (fun s H C cl fp => pe_hide (t := upE X.K W0 te) (he s H C cl fp)) hs) fun D σ H ⟨δ, μ, Hc, Dd, s, rs, h, rt⟩ =>
    lc_lift (Q := fun x H1 => gName i x σ H1 D.nx) lg sl s rs h (rt.xc.at rs) (fin_cell (Qd := fun d μ1 => Dd.nx (δ.set i (some d)) μ1) fun d μ1 h1 v H1 Hc1 e1 s1 r1 => rt.nx _ _ h1 _ _ _ e1 s1 ((rs.mono e1).set i r1))
end
end DL
set_option Elab.async false
set_option linter.all false
set_option maxRecDepth 100000
set_option maxHeartbeats 2000000
/-! The data layer: errors, defs. -/
namespace DL
open PySem PySem.Spec L2
section
variable {X : Cx} {W : WX} {e : Expr} {pos p : Pos}
/-- raise C('..') -/
def dRaise (C : Addr) (E : DEnds) (δ : Sl) (μ : M) : Prop := E.xc δ (.ref C) none μ
/-- try: body except x as n: suite -/
def kUnset (i : Nat) (R : Sl → M → Prop) (δ : Sl) (μ : M) : Prop := R (δ.set i none) μ
def suiteE (i : Nat) (E : DEnds) : DEnds := { nx := kUnset i E.nx, rt := E.rt, bk := kUnset i E.bk, ct := kUnset i E.ct, xc := fun _ => XF }
def kTry (K : PySem.W.Frag) (c : Value) (i : Nat) (ts : Addr → DTS) (E : DEnds) (δ : Sl) (cls : Value) (fs : Option (List (Str × D))) (μ : M) : Prop := ∃ b, PySem.W.exmOne K cls c = some b ∧
  (b = true → ∀ a, μ a = none → ts a (suiteE i E) (δ.set i (some (.raw (.ref a)))) μ) ∧ (b = false → E.xc δ cls fs μ)
def dTryAs (K : PySem.W.Frag) (c : Value) (i : Nat) (tb : DTS) (ts : Addr → DTS) (E : DEnds) (δ : Sl) (μ : M) : Prop := tb { E with xc := kTry K c i ts E } δ μ
end
/-! ### defs -/
def Fin (Q : QD) : QD := fun d μ => ∃ μ', Sub μ' μ ∧ Q d μ'
theorem Fin.of {Q : QD} {d : D} {μ : M} (h : Q d μ) : Fin Q d μ := ⟨μ, Sub.refl _, h⟩
def kEnd (Q : QD) (_ : Sl) (μ : M) : Prop := Fin Q .non μ
def ends (Q : QD) (Xd : XD) : DEnds := { nx := kEnd Q, rt := Fin Q, bk := fun _ _ => False, ct := fun _ _ => False, xc := fun _ => Xd }
def startD (N : List Str) (ds : List D) : Sl := ds.map some ++ List.replicate (N.length - ds.length) none
theorem ret_fin {K : PySem.W.Frag} {Hc : Hp} {Qd : QD} {Q : VK} (rt : Ret K Hc Qd Q) : Ret K Hc (Fin Qd) Q := fun d μ ⟨μ', sb, h⟩ v H' Hc' e s r => by
  obtain ⟨Hc2, e2, s2, _⟩ := s.sub sb
  exact rt d μ' h v H' Hc2 (e.trans e2) s2 (r.mono e2)
theorem repS_start {K : PySem.W.Frag} {Hc : Hp} {N : List Str} {vs : List V} {ds : List D} (r : RepA K Hc vs ds) : RepS K Hc (L2.start N vs) (startD N ds) := by
  unfold L2.start startD
  refine ⟨by simp [r.length], fun i d h => ?_⟩
  by_cases hi : i < ds.length
  · rw [List.getElem?_append_left (by rw [List.length_map]; exact hi), List.getElem?_map] at h
    cases e : ds[i]? with
    | none => rw [e] at h; cases h
    | some d' =>
      rw [e] at h
      cases h
      obtain ⟨v, h1, h2⟩ := r.get e
      exact ⟨v, by rw [List.getElem?_append_left (by rw [List.length_map, r.length]; exact hi), List.getElem?_map, h1]; rfl, h2⟩
  · rw [List.getElem?_append_right (by rw [List.length_map]; omega)] at h
    rw [List.getElem?_replicate] at h
    split at h
    · cases h
    · cases h
section
variable {P : Program} {w : World} {K : PySem.W.Frag} {mg : Str → Option Value} {base : Heap}
/-- a def from which no error comes -/
theorem dfn0 {x qual : Str} {st : Stmt} {f : Addr} {fd : FuncData} {N ps : List Str} {k : Nat} {c : Ct} {t : DTS} (F : Fun K x qual st f fd) (hm : mg x = some (.ref f)) (bn : Binds K fd ps []) (S : FnScope N ps (defScope st)) (len : ∀ ds μ Q Xd, c ds μ Q Xd → ds.length = ps.length)
    (hd : ∀ (cdv : Value) (A : Around) (outer : List Env) (s : Shared) (H : Hp) (E : XK), Room k (A.deeper (PyProof.Rows.envOfC qual (defScope st) s.heap.objs.size f cdv)) → DSs (cxOf CX0 P w K mg base N qual (defScope st) f cdv A outer s H E).nox W0 (defBody st) t)
    (hb : ∀ ds μ Q Xd, c ds μ Q Xd → t (ends Q XF) (startD N ds) μ) : Dfn P w K mg base CX0 x qual st (k + 1) ps c := by
  refine ⟨f, fd, F, hm, ?_, bn⟩
  refine F.ok S (fun vs H Q E ⟨ds, μ, Hc, Qd, Xd, s, ra, h, rt, rx⟩ => by rw [ra.length]; exact len _ _ _ _ h) (fun cdv A outer s H vs Q E hr h => ?_)
  obtain ⟨ds, μ, Hc, Qd, Xd, sp, ra, h, rt, rx⟩ := h
  refine ⟨_, hd cdv A outer s H E hr, _, μ, Hc, _, sp, repS_start ra, hb _ _ _ _ h, ?_⟩
  exact ⟨fun δ μ' h' σ H' Hc' e' s' rs' => ret_fin rt _ _ h' _ _ _ e' s' .non, ret_fin rt, fun _ _ z => z.elim, fun _ _ z => z.elim, fun _ _ _ _ z => z.elim⟩
end
/-- the module's tuple of ints -/
theorem rep_ktup {K : PySem.W.Frag} {a : Addr} {o : Obj} {its : Array Value} {n : Nat} {vs : List V} {ds : List D} (h : K.lookup a = some o) (hc : o.cls = .type "tuple") (hd : o.data = .seq its n) (hz : its.size ≤ sizeLine) (hv : Vals vs its.toList) (r : ∀ H, RepA K H vs ds) : ∀ H, Rep K H (.ref a) (.tup ds) :=
  fun H => .tup (.inr ⟨o, its, n, h, hc, hd, hz, hv⟩) (r H)
/-- the slots at a def's start -/
def begin' (n : Nat) (ds : List D) : Sl := ds.map some ++ List.replicate (n - ds.length) none
/-- a reading keeps a contract -/
def HB (c : Ct) (t : DTS) (n : Nat) : Prop := ∀ ds μ Q Xd, c ds μ Q Xd → t (ends Q XF) (begin' n ds) μ
def Len (c : Ct) (n : Nat) : Prop := ∀ ds μ Q Xd, c ds μ Q Xd → ds.length = n
section
variable {P : Program} {w : World} {K : PySem.W.Frag} {mg : Str → Option Value} {base : Heap} {x qual : Str} {st : Stmt} {f : Addr} {fd : FuncData} {N ps : List Str} {k n m : Nat} {c : Ct} {t : DTS}
theorem dfnA (F : Fun K x qual st f fd) (hm : mg x = some (.ref f)) (bn : Binds K fd ps []) (S : FnScope N ps (defScope st)) (len : Len c m) (hb : HB c t n)
    (hd : ∀ (cdv : Value) (A : Around) (outer : List Env) (s : Shared) (H : Hp) (E : XK), Room k (A.deeper (PyProof.Rows.envOfC qual (defScope st) s.heap.objs.size f cdv)) → DSs (cxOf CX0 P w K mg base N qual (defScope st) f cdv A outer s H E).nox W0 (defBody st) t)
    (hn : N.length = n := by rfl) (hp : ps.length = m := by rfl) : Dfn P w K mg base CX0 x qual st (k + 1) ps c := by
  subst hn hp
  exact dfn0 F hm bn S len hd hb
end
end DL
set_option Elab.async false
set_option linter.all false
set_option maxRecDepth 100000
set_option maxHeartbeats 2000000
/-! The data layer: constants, classes of errors, the end of a law, words for proofs. -/
namespace DL
open PySem PySem.Spec L2
/-- a constant of the module is this data -/
def KC (K : PySem.W.Frag) (mg : Str → Option Value) (x : Str) (d : D) : Prop := ∃ v u, mg x = some u ∧ RelV v u ∧ ∀ H, Rep K H v d
section
variable {X : Cx} {W : WX} {a : Expr} {pos : Pos} {ta : DTE}
theorem de_kc {x : Str} {d : D} (h : KC X.K X.mg x d) (hg : Gl X x := by rfl) (hd : (x == ("__debug__" : Str)) = false := by decide) : DE X W (.Name x pos) (dC d) := by
  obtain ⟨v, u, h1, h2, h3⟩ := h
  exact de_glob hg h1 h2 h3 hd
/-- -a -/
def kNeg (Q : QD) (d : D) (μ : M) : Prop := match d with
  | .int i => Q (.int (-i)) μ
  | _ => False
def dNeg (t : DTE) (W : XD) (δ : Sl) (μ : M) (Q : QD) : Prop := t W δ μ (kNeg Q)
theorem de_neg (ha : DE X W a ta) : DE X W (.UnaryOp .USub a pos) (dNeg ta) := PE.imp (pe_un un_neg ha) fun σ H Q ⟨δ, μ, Hc, Qd, Xd, s, rs, h, rt, rx⟩ => ⟨δ, μ, Hc, _, Xd, s, rs, h, fun d μ1 h1 v H1 Hc1 e1 s1 r1 => by
    unfold kNeg at h1
    split at h1
    · cases r1
      exact ⟨_, rfl, (rt.mono e1).val s1 (.int _) h1⟩
    · exact h1.elim, rx⟩
end
/-- the law's own contract -/
def cLaw : Ct := fun ds μ Q _ => ∃ ns : List Int, ds = [.scr ns] ∧ ns.length ≤ 63 ∧ ∀ μ', Q (.bl true) μ'
theorem law_end {K : PySem.W.Frag} {H : Hp} {a : Addr} {ns : List Int} (hl : ns.length ≤ 63) (h : SqL K H a (ns.map V.int)) : spD K cLaw [.ref a] H (fun v _ => v = .bl true) fun _ _ _ => False :=
  ⟨[.scr ns], fun _ => none, H, fun d _ => d = .bl true, XF, ⟨fun _ _ z => (nomatch z), fun _ _ => rfl⟩, .cons (.scr h) .nil, ⟨ns, rfl, hl, fun _ => rfl⟩, fun d μ' e v H' Hc' _ _ r => by subst e; cases r; rfl, fun _ _ _ z => z.elim⟩
theorem fun_uniq {K : PySem.W.Frag} {x qual : Str} {st : Stmt} {f : Addr} {fd fd' : FuncData} (F : Fun K x qual st f fd) (G : Fun K x qual st f fd') : fd = fd' := by
  obtain ⟨_, _, _, _, _, _, _, _, _, _, l, _⟩ := F.ex
  obtain ⟨_, _, _, _, _, _, _, _, _, _, l', _⟩ := G.ex
  rw [l] at l'
  injection l' with l'
  injection l' with _ _ l' _
  injection l'
/-! ### words for proofs -/
theorem ifS_true {t u : DTS} {E : DEnds} {δ : Sl} {μ : M} : ifS true t u E δ μ = t E δ μ := rfl
theorem ifS_false {t u : DTS} {E : DEnds} {δ : Sl} {μ : M} : ifS false t u E δ μ = u E δ μ := rfl
theorem ifAnd_true {u : DTT} {W : XD} {δ : Sl} {μ : M} {Q : Bool → M → Prop} : ifAnd true u W δ μ Q = u W δ μ Q := rfl
theorem ifAnd_false {u : DTT} {W : XD} {δ : Sl} {μ : M} {Q : Bool → M → Prop} : ifAnd false u W δ μ Q = Q false μ := rfl
theorem ifOr_true {u : DTT} {W : XD} {δ : Sl} {μ : M} {Q : Bool → M → Prop} : ifOr true u W δ μ Q = Q true μ := rfl
theorem ifOr_false {u : DTT} {W : XD} {δ : Sl} {μ : M} {Q : Bool → M → Prop} : ifOr false u W δ μ Q = u W δ μ Q := rfl
theorem ifAndV_true {u : DTE} {W : XD} {δ : Sl} {μ : M} {Q : QD} : ifAndV true u W δ μ Q = u W δ μ Q := rfl
theorem ifAndV_false {u : DTE} {W : XD} {δ : Sl} {μ : M} {Q : QD} : ifAndV false u W δ μ Q = Q (.bl false) μ := rfl
theorem ifOrV_true {u : DTE} {W : XD} {δ : Sl} {μ : M} {Q : QD} : ifOrV true u W δ μ Q = Q (.bl true) μ := rfl
theorem ifOrV_false {u : DTE} {W : XD} {δ : Sl} {μ : M} {Q : QD} : ifOrV false u W δ μ Q = u W δ μ Q := rfl
theorem ifE_true {t u : DTE} {W : XD} {δ : Sl} {μ : M} {Q : QD} : ifE true t u W δ μ Q = t W δ μ Q := rfl
theorem ifE_false {t u : DTE} {W : XD} {δ : Sl} {μ : M} {Q : QD} : ifE false t u W δ μ Q = u W δ μ Q := rfl
theorem kChain3_true {g' : DR2} {tc : DTE} {W : XD} {δ : Sl} {Q : QD} {y : D} {μ : M} : kChain3 g' tc W δ Q y (.bl true) μ = tc W δ μ (kOp2 g' y Q) := rfl
theorem kChain3_false {g' : DR2} {tc : DTE} {W : XD} {δ : Sl} {Q : QD} {y : D} {μ : M} : kChain3 g' tc W δ Q y (.bl false) μ = Q (.bl false) μ := rfl
theorem kTest_true {te : DTE} {δ : Sl} {acc : List D} {R : List D → M → Prop} {μ : M} : kTest te δ acc R true μ = te XF δ μ (kItem acc R) := rfl
theorem kTest_false {te : DTE} {δ : Sl} {acc : List D} {R : List D → M → Prop} {μ : M} : kTest te δ acc R false μ = R acc μ := rfl
theorem putIx_some {j : Nat} {p : Addr} {ds : List D} {d : D} {E : DEnds} {δ : Sl} {μ : M} : putIx (some j) p ds d E δ μ = E.nx δ (updM μ p (.lst (ds.set j d))) := rfl
theorem setsK_some {cs : List (Nat × D)} {E : DEnds} {δ : Sl} {μ : M} : setsK (some cs) E δ μ = E.nx (sets cs δ) μ := rfl
theorem turnD_some {cs : List (Nat × D)} {tb : DTS} {E : DEnds} {δ : Sl} {μ : M} : turnD (some cs) tb E δ μ = tb E (sets cs δ) μ := rfl
theorem turnC_some {cs : List (Nat × D)} {tt : DTT} {te : DTE} {acc : List D} {R : List D → M → Prop} {δ : Sl} {μ : M} : turnC (some cs) tt te acc R δ μ = tt XF (sets cs δ) μ (kTest te (sets cs δ) acc R) := rfl
theorem subN_dict_int : subN "dict" "int" = false := by decide
theorem subN_dict_bool : subN "dict" "bool" = false := by decide
theorem subN_dict_str : subN "dict" "str" = false := by decide
theorem subN_dict_list : subN "dict" "list" = false := by decide
theorem subN_dict_tuple : subN "dict" "tuple" = false := by decide
theorem subN_NoneType_int : subN "NoneType" "int" = false := by decide
theorem subN_NoneType_bool : subN "NoneType" "bool" = false := by decide
theorem subN_NoneType_str : subN "NoneType" "str" = false := by decide
theorem subN_NoneType_list : subN "NoneType" "list" = false := by decide
theorem subN_NoneType_tuple : subN "NoneType" "tuple" = false := by decide
theorem subN_bool_int : subN "bool" "int" = true := by decide
theorem subN_bool_bool : subN "bool" "bool" = true := by decide
theorem subN_bool_str : subN "bool" "str" = false := by decide
theorem subN_bool_list : subN "bool" "list" = false := by decide
theorem subN_bool_tuple : subN "bool" "tuple" = false := by decide
theorem subN_int_int : subN "int" "int" = true := by decide
theorem subN_int_bool : subN "int" "bool" = false := by decide
theorem subN_int_str : subN "int" "str" = false := by decide
theorem subN_int_list : subN "int" "list" = false := by decide
theorem subN_int_tuple : subN "int" "tuple" = false := by decide
theorem subN_str_int : subN "str" "int" = false := by decide
theorem subN_str_bool : subN "str" "bool" = false := by decide
theorem subN_str_str : subN "str" "str" = true := by decide
theorem subN_str_list : subN "str" "list" = false := by decide
theorem subN_str_tuple : subN "str" "tuple" = false := by decide
theorem subN_list_int : subN "list" "int" = false := by decide
theorem subN_list_bool : subN "list" "bool" = false := by decide
theorem subN_list_str : subN "list" "str" = false := by decide
theorem subN_list_list : subN "list" "list" = true := by decide
theorem subN_list_tuple : subN "list" "tuple" = false := by decide
theorem subN_tuple_int : subN "tuple" "int" = false := by decide
theorem subN_tuple_bool : subN "tuple" "bool" = false := by decide
theorem subN_tuple_str : subN "tuple" "str" = false := by decide
theorem subN_tuple_list : subN "tuple" "list" = false := by decide
theorem subN_tuple_tuple : subN "tuple" "tuple" = true := by decide
theorem eqD_int {a b : Int} : eqD (.int a) (.int b) = decide (a = b) := by
  show (a == b) = _
  by_cases h : a = b
  · subst h; simp
  · rw [decide_eq_false h]; simpa using h
theorem eqD_str {a b : Str} : eqD (.str a) (.str b) = decide (a = b) := by
  show (a == b) = _
  by_cases h : a = b
  · subst h; simp
  · rw [decide_eq_false h]; simpa using h
theorem eqD_bl {a b : Bool} : eqD (.bl a) (.bl b) = decide (a = b) := by
  cases a <;> cases b <;> rfl
def eqDs (xs ys : List D) : Bool := PyData.eqvAll (toPs xs) (toPs ys)
theorem eqD_tup {a b : List D} : eqD (.tup a) (.tup b) = eqDs a b := rfl
theorem eqD_lst {a b : List D} : eqD (.lst a) (.lst b) = eqDs a b := rfl
theorem eqDs_nil : eqDs [] [] = true := rfl
theorem eqDs_cons {x y : D} {xs ys : List D} : eqDs (x :: xs) (y :: ys) = (eqD x y && eqDs xs ys) := rfl
/-- all other cells are as they were -/
def Oth (μ μ' : M) (p : Addr) : Prop := ∀ q, q ≠ p → μ' q = μ q
theorem Oth.refl (μ : M) (p : Addr) : Oth μ μ p := fun _ _ => rfl
theorem Oth.trans {a b c : M} {p : Addr} (h : Oth a b p) (k : Oth b c p) : Oth a c p := fun q n => (k q n).trans (h q n)
theorem Oth.upd {μ : M} {p : Addr} {c : C} : Oth μ (updM μ p c) p := fun _ n => updM_ne n
theorem atI_zero {α : Type} {x : α} {xs : List α} : atI (x :: xs) 0 = some x := by
  unfold atI ixN
  rw [if_pos (Int.le_refl 0), if_pos (by rw [List.length_cons]; omega)]
  rfl
theorem atI_one {α : Type} {x y : α} {xs : List α} : atI (x :: y :: xs) 1 = some y := by
  unfold atI ixN
  rw [if_pos (by omega), if_pos (by rw [List.length_cons, List.length_cons]; omega)]
  rfl
theorem atI_two {α : Type} {x y z : α} {xs : List α} : atI (x :: y :: z :: xs) 2 = some z := by
  unfold atI ixN
  rw [if_pos (by omega), if_pos (by rw [List.length_cons, List.length_cons, List.length_cons]; omega)]
  rfl
theorem ixN_zero {n : Nat} : ixN (n + 1) 0 = some 0 := by
  unfold ixN
  rw [if_pos (Int.le_refl 0), if_pos (by omega)]
  rfl
theorem ixN_one {n : Nat} : ixN (n + 2) 1 = some 1 := by
  unfold ixN
  rw [if_pos (by omega), if_pos (by omega)]
  rfl
/-- an item of a short list at a place that is not written -/
theorem atI_lt {α : Type} {xs : List α} {i : Int} (h0 : 0 ≤ i) (h1 : i < xs.length) : ∃ x, atI xs i = some x ∧ xs[i.toNat]? = some x := by
  unfold atI ixN
  rw [if_pos h0, if_pos h1]
  have : i.toNat < xs.length := by omega
  exact ⟨xs[i.toNat], by show xs[i.toNat]? = _; rw [List.getElem?_eq_getElem this], by rw [List.getElem?_eq_getElem this]⟩
theorem mulOk_pow {i j : Int} {a b : Nat} (ha : i.natAbs < 2 ^ a) (hb : j.natAbs < 2 ^ b) (h : a + b ≤ 900000) : IntMulOk i j :=
  (wide_mul (a := a + 1) (b := b + 1) (Nat.lt_of_lt_of_le ha (Nat.pow_le_pow_right (by decide) (by omega))) (Nat.lt_of_lt_of_le hb (Nat.pow_le_pow_right (by decide) (by omega))) (by omega) (by omega) (by omega)).ok
theorem mulOk_64 {x y : Int} (h1 : -9000000000000000000 < x) (h2 : x < 9000000000000000000) (h3 : -9000000000000000000 < y) (h4 : y < 9000000000000000000) : IntMulOk x y := by
  have e : (2 : Nat) ^ 63 = 9223372036854775808 := by decide
  exact mulOk_pow (a := 63) (b := 63) (by omega) (by omega) (by decide)
theorem divOk_pow {i j : Int} {b : Nat} (h : j ≠ 0) (hb : j.natAbs < 2 ^ b) (h9 : b ≤ 8999) : CDivD i j :=
  ⟨h, PyProof.noPylong_of_log2 (Nat.lt_of_lt_of_le (PySem.Flt.log2_lt_of (by omega) (Nat.lt_of_lt_of_le hb (Nat.pow_le_pow_right (by decide) (Nat.le_succ b)))) (by omega))⟩
theorem divOk_small {i j : Int} (h : j ≠ 0) (hb : j.natAbs < 1073741824) : CDivD i j := ⟨h, PyProof.noPylong_small hb⟩
end DL
set_option linter.all false
set_option maxRecDepth 100000
/-! Fractions: lowest terms. -/
namespace Fr
def gcdI (a b : Int) : Int := (Nat.gcd a.natAbs b.natAbs : Nat)
/-- the divisor by which lowest terms are made -/
def by_ (t b : Int) : Int := if b < 0 then 0 - gcdI t b else gcdI t b
def low (t b : Int) : Int × Int := (t.fdiv (by_ t b), b.fdiv (by_ t b))
theorem gcdI_pos {t b : Int} (h : b ≠ 0) : 0 < gcdI t b := by
  unfold gcdI
  have : 0 < Nat.gcd t.natAbs b.natAbs := Nat.gcd_pos_of_pos_right _ (Int.natAbs_pos.mpr h)
  omega
theorem by_ne {t b : Int} (h : b ≠ 0) : by_ t b ≠ 0 := by
  have := gcdI_pos (t := t) h
  unfold by_
  split <;> omega
theorem by_natAbs {t b : Int} : (by_ t b).natAbs = Nat.gcd t.natAbs b.natAbs := by
  unfold by_ gcdI
  split <;> omega
theorem by_le {t b : Int} (h : b ≠ 0) : (by_ t b).natAbs ≤ b.natAbs := by
  rw [by_natAbs]
  exact Nat.gcd_le_right _ (Int.natAbs_pos.mpr h)
theorem by_dvd_t {t b : Int} : by_ t b ∣ t := by
  rw [← Int.natAbs_dvd_natAbs, by_natAbs]
  exact Nat.gcd_dvd_left _ _
theorem by_dvd_b {t b : Int} : by_ t b ∣ b := by
  rw [← Int.natAbs_dvd_natAbs, by_natAbs]
  exact Nat.gcd_dvd_right _ _
theorem fdiv_of {x g : Int} (hg : g ≠ 0) (h : g ∣ x) : x.fdiv g * g = x := by
  rw [Int.fdiv_eq_ediv_of_dvd h]
  exact Int.ediv_mul_cancel h
theorem low_t {t b : Int} (h : b ≠ 0) : (low t b).1 * by_ t b = t := fdiv_of (by_ne h) by_dvd_t
theorem low_b {t b : Int} (h : b ≠ 0) : (low t b).2 * by_ t b = b := fdiv_of (by_ne h) by_dvd_b
theorem low_pos {t b : Int} (h : b ≠ 0) : 1 ≤ (low t b).2 := by
  have e := low_b (t := t) h
  have hg := gcdI_pos (t := t) h
  by_cases hb : b < 0
  · have eb : by_ t b = - gcdI t b := by unfold by_; rw [if_pos hb]; omega
    rw [eb] at e
    rcases Int.lt_or_le (low t b).2 1 with hl | hl
    · exfalso
      have : 0 ≤ (low t b).2 * -gcdI t b := by
        have h1 : (low t b).2 ≤ 0 := by omega
        have := Int.mul_nonneg_of_nonpos_of_nonpos h1 (show -gcdI t b ≤ 0 by omega)
        exact this
      omega
    · exact hl
  · have eb : by_ t b = gcdI t b := by unfold by_; rw [if_neg hb]
    rw [eb] at e
    rcases Int.lt_or_le (low t b).2 1 with hl | hl
    · exfalso
      have : (low t b).2 * gcdI t b ≤ 0 := Int.mul_nonpos_of_nonpos_of_nonneg (by omega) (by omega)
      omega
    · exact hl
theorem low_cop {t b : Int} (h : b ≠ 0) : Nat.gcd (low t b).1.natAbs (low t b).2.natAbs = 1 := by
  have e1 : (low t b).1.natAbs * Nat.gcd t.natAbs b.natAbs = t.natAbs := by rw [← by_natAbs (t := t) (b := b), ← Int.natAbs_mul, low_t h]
  have e2 : (low t b).2.natAbs * Nat.gcd t.natAbs b.natAbs = b.natAbs := by rw [← by_natAbs (t := t) (b := b), ← Int.natAbs_mul, low_b h]
  have hp : 0 < Nat.gcd t.natAbs b.natAbs := Nat.gcd_pos_of_pos_right _ (Int.natAbs_pos.mpr h)
  have e3 := Nat.gcd_mul_right (low t b).1.natAbs (Nat.gcd t.natAbs b.natAbs) (low t b).2.natAbs
  rw [e1, e2] at e3
  have : Nat.gcd (low t b).1.natAbs (low t b).2.natAbs * Nat.gcd t.natAbs b.natAbs = 1 * Nat.gcd t.natAbs b.natAbs := by rw [← e3, Nat.one_mul]
  exact Nat.eq_of_mul_eq_mul_right hp this
theorem low_cross {t b : Int} (h : b ≠ 0) : (low t b).1 * b = t * (low t b).2 := by
  have e1 := low_t (t := t) h
  have e2 := low_b (t := t) h
  calc (low t b).1 * b = (low t b).1 * ((low t b).2 * by_ t b) := by rw [e2]
    _ = ((low t b).1 * by_ t b) * (low t b).2 := by rw [Int.mul_comm (low t b).2, Int.mul_assoc]
    _ = t * (low t b).2 := by rw [e1]
theorem low_le1 {t b : Int} (h : b ≠ 0) : (low t b).1.natAbs ≤ t.natAbs := by
  have e1 : (low t b).1.natAbs * (by_ t b).natAbs = t.natAbs := by rw [← Int.natAbs_mul, low_t h]
  have hp : 1 ≤ (by_ t b).natAbs := Int.natAbs_pos.mpr (by_ne h)
  calc (low t b).1.natAbs = (low t b).1.natAbs * 1 := (Nat.mul_one _).symm
    _ ≤ (low t b).1.natAbs * (by_ t b).natAbs := Nat.mul_le_mul_left _ hp
    _ = t.natAbs := e1
theorem low_le2 {t b : Int} (h : b ≠ 0) : (low t b).2.natAbs ≤ b.natAbs := by
  have e1 : (low t b).2.natAbs * (by_ t b).natAbs = b.natAbs := by rw [← Int.natAbs_mul, low_b h]
  have hp : 1 ≤ (by_ t b).natAbs := Int.natAbs_pos.mpr (by_ne h)
  calc (low t b).2.natAbs = (low t b).2.natAbs * 1 := (Nat.mul_one _).symm
    _ ≤ (low t b).2.natAbs * (by_ t b).natAbs := Nat.mul_le_mul_left _ hp
    _ = b.natAbs := e1
/-- two fractions in lowest terms that are worth the same are the same -/
theorem cop_unique {x y u v : Int} (hy : 1 ≤ y) (hv : 1 ≤ v) (h1 : Nat.gcd x.natAbs y.natAbs = 1) (h2 : Nat.gcd u.natAbs v.natAbs = 1) (e : x * v = u * y) : x = u ∧ y = v := by
  have en : x.natAbs * v.natAbs = u.natAbs * y.natAbs := by rw [← Int.natAbs_mul, ← Int.natAbs_mul, e]
  have d1 : y.natAbs ∣ v.natAbs := by
    have : y.natAbs ∣ x.natAbs * v.natAbs := ⟨u.natAbs, by rw [en, Nat.mul_comm]⟩
    exact Nat.Coprime.dvd_of_dvd_mul_left (by rw [Nat.coprime_comm]; exact h1) this
  have d2 : v.natAbs ∣ y.natAbs := by
    have : v.natAbs ∣ u.natAbs * y.natAbs := ⟨x.natAbs, by rw [← en, Nat.mul_comm]⟩
    exact Nat.Coprime.dvd_of_dvd_mul_left (by rw [Nat.coprime_comm]; exact h2) this
  have ev : y.natAbs = v.natAbs := Nat.dvd_antisymm d1 d2
  have eyv : y = v := by omega
  subst eyv
  exact ⟨Int.eq_of_mul_eq_mul_right (by omega) e, rfl⟩
theorem low_unique {t b x y : Int} (h : b ≠ 0) (hy : 1 ≤ y) (hc : Nat.gcd x.natAbs y.natAbs = 1) (e : x * b = t * y) : low t b = (x, y) := by
  have e1 := low_cross (t := t) h
  have e2 : (low t b).1 * y = x * (low t b).2 := by
    have : (low t b).1 * y * b = x * (low t b).2 * b := by
      calc (low t b).1 * y * b = ((low t b).1 * b) * y := by rw [Int.mul_assoc, Int.mul_comm y, ← Int.mul_assoc]
        _ = t * (low t b).2 * y := by rw [e1]
        _ = (t * y) * (low t b).2 := by rw [Int.mul_assoc, Int.mul_comm (low t b).2, ← Int.mul_assoc]
        _ = (x * b) * (low t b).2 := by rw [e]
        _ = x * (low t b).2 * b := by rw [Int.mul_assoc, Int.mul_comm b, ← Int.mul_assoc]
    exact Int.eq_of_mul_eq_mul_right h this
  obtain ⟨a, c⟩ := cop_unique (low_pos h) hy (low_cop h) hc e2
  exact Prod.ext a c
theorem low_one {t : Int} : low t 1 = (t, 1) := low_unique (by decide) (by decide) (by simp) (by simp)
/-- a fraction in lowest terms, of at most n bits -/
structure Ok (n : Nat) (f : Int × Int) : Prop where
  pos : 1 ≤ f.2
  cop : Nat.gcd f.1.natAbs f.2.natAbs = 1
  tb : f.1.natAbs < 2 ^ n
  bb : f.2.natAbs < 2 ^ n
theorem Ok.ne {n : Nat} {f : Int × Int} (h : Ok n f) : f.2 ≠ 0 := by have := h.pos; omega
theorem Ok.mono {n m : Nat} {f : Int × Int} (h : Ok n f) (l : n ≤ m) : Ok m f := ⟨h.pos, h.cop, Nat.lt_of_lt_of_le h.tb (Nat.pow_le_pow_right (by decide) l), Nat.lt_of_lt_of_le h.bb (Nat.pow_le_pow_right (by decide) l)⟩
theorem Ok.self {n : Nat} {f : Int × Int} (h : Ok n f) : low f.1 f.2 = f := low_unique h.ne h.pos h.cop rfl
theorem ok_low {n : Nat} {t b : Int} (h : b ≠ 0) (ht : t.natAbs < 2 ^ n) (hb : b.natAbs < 2 ^ n) : Ok n (low t b) := ⟨low_pos h, low_cop h, Nat.lt_of_le_of_lt (low_le1 h) ht, Nat.lt_of_le_of_lt (low_le2 h) hb⟩
theorem mul_lt {x y : Int} {a b : Nat} (ha : x.natAbs < 2 ^ a) (hb : y.natAbs < 2 ^ b) : (x * y).natAbs < 2 ^ (a + b) := L2.wide_lt ha hb
theorem add_lt {x y : Int} {a : Nat} (ha : x.natAbs < 2 ^ a) (hb : y.natAbs < 2 ^ a) : (x + y).natAbs < 2 ^ (a + 1) := by
  rw [Nat.pow_succ]
  omega
theorem sub_lt {x y : Int} {a : Nat} (ha : x.natAbs < 2 ^ a) (hb : y.natAbs < 2 ^ a) : (x - y).natAbs < 2 ^ (a + 1) := by
  rw [Nat.pow_succ]
  omega
theorem lt_mono {x : Int} {a b : Nat} (h : x.natAbs < 2 ^ a) (l : a ≤ b) : x.natAbs < 2 ^ b := Nat.lt_of_lt_of_le h (Nat.pow_le_pow_right (by decide) l)
theorem mul_ne {x y : Int} (h : x ≠ 0) (k : y ≠ 0) : x * y ≠ 0 := Int.mul_ne_zero h k
def addF (f g : Int × Int) : Int × Int := low (f.1 * g.2 + g.1 * f.2) (f.2 * g.2)
def subF (f g : Int × Int) : Int × Int := low (f.1 * g.2 - g.1 * f.2) (f.2 * g.2)
def mulF (f g : Int × Int) : Int × Int := low (f.1 * g.1) (f.2 * g.2)
theorem ok_add {n m : Nat} {f g : Int × Int} (h : Ok n f) (k : Ok m g) : Ok (n + m + 1) (addF f g) := by
  refine ok_low (mul_ne h.ne k.ne) (add_lt (mul_lt h.tb k.bb) ?_) (lt_mono (mul_lt h.bb k.bb) (by omega))
  rw [Nat.add_comm n m]
  exact mul_lt k.tb h.bb
end Fr
set_option Elab.async false
set_option linter.all false
set_option maxRecDepth 100000
set_option maxHeartbeats 2000000
set_option exponentiation.threshold 20000
/-! Fractions of the program, and the law's pool: contracts, readings, and that the readings keep them. -/
local macro_rules | `(tactic| walk_at "r") => `(tactic| simp only [DL.dSeq, DL.dSet, DL.kSet, DL.dCB, DL.kCB, DL.dCons, DL.kCons1, DL.kCons2, DL.dNil, DL.dVar, DL.dC, DL.dOp, DL.kOp1, DL.kOp2, DL.dB, DL.kB, DL.dIf, DL.kIf, DL.dRet, DL.dRetN, DL.dTup, DL.kTup, DL.dLst, DL.kLst, DL.dLstC, DL.kLstC, DL.dCall, DL.kCall, DL.dCallK, DL.kCallK1, DL.kCallK2, DL.dLenIs, DL.kLenIs, DL.dNext, DL.dDrop, DL.kDrop, DL.dPar, DL.kPar, DL.dAug, DL.kAug, DL.dAsg, DL.kAsg, DL.dSetIx, DL.kSetIx1, DL.kSetIx2, DL.kSetIx3, DL.dTru, DL.kTru, DL.dAnd, DL.kAnd, DL.dOr, DL.kOr, DL.dNot, DL.kNot, DL.dAndV, DL.kAndV, DL.dOrV, DL.kOrV, DL.dNotV, DL.kNotV, DL.dIfE, DL.kIfE, DL.dChain, DL.kChain1, DL.kChain2, DL.kChain3_true, DL.kChain3_false, DL.dNeg, DL.kNeg, DL.dFz, DL.kFz, DL.dRaise, DL.dTryAs, DL.suiteE, DL.kUnset, DL.dFor, DL.kFor, DL.dSeqI, DL.kSeqI, DL.dRange1, DL.kRange1, DL.dRange2, DL.kRange2, DL.dLc, DL.kLc, DL.dLcC, DL.kLstD, DL.kNewC, DL.dYes, DL.wipeD, DL.loopD, DL.compD, DL.kItem, DL.kTest_true, DL.kTest_false, DL.putIx_some, DL.setsK_some, DL.turnD_some, DL.turnC_some, DL.ifS_true, DL.ifS_false, DL.ifAnd_true, DL.ifAnd_false, DL.ifOr_true, DL.ifOr_false, DL.ifAndV_true, DL.ifAndV_false, DL.ifOrV_true, DL.ifOrV_false, DL.ifE_true, DL.ifE_false, DL.srcOf, DL.tgN, DL.tgT, DL.tgNil, DL.tgCons, DL.sets, List.foldl_cons, List.foldl_nil, DL.gI, DL.gI0, DL.gAdd, DL.gMul, DL.gIx, DL.gEq, DL.gNe, DL.gIs, DL.gIn, DL.gLen, DL.gAbs, DL.gMax2, DL.gMin2, DL.gAll, DL.gAny, DL.gSum, DL.gList, DL.gListC, DL.gTuple, DL.gIsiC, DL.gIsi, DL.tyN, DL.subN_NoneType_int, DL.subN_NoneType_bool, DL.subN_NoneType_str, DL.subN_NoneType_list, DL.subN_NoneType_tuple, DL.subN_bool_int, DL.subN_bool_bool, DL.subN_bool_str, DL.subN_bool_list, DL.subN_bool_tuple, DL.subN_int_int, DL.subN_int_bool, DL.subN_int_str, DL.subN_int_list, DL.subN_int_tuple, DL.subN_str_int, DL.subN_str_bool, DL.subN_str_str, DL.subN_str_list, DL.subN_str_tuple, DL.subN_list_int, DL.subN_list_bool, DL.subN_list_str, DL.subN_list_list, DL.subN_list_tuple, DL.subN_tuple_int, DL.subN_tuple_bool, DL.subN_tuple_str, DL.subN_tuple_list, DL.subN_tuple_tuple, DL.truD, DL.blsOf, DL.view_non, DL.view_bl, DL.view_int', DL.view_str', DL.view_lst', DL.view_tup', DL.view_scr', DL.ends, DL.kEnd, DL.OptP_some, DL.OptQ_some, DL.OptB_some, DL.OptS_some, List.getElem?_cons_zero, List.getElem?_cons_succ, List.set_cons_zero, List.set_cons_succ, DL.atI_zero, DL.atI_one, DL.atI_two, List.length_cons, List.length_nil, DL.pick, List.filterMap_cons, List.filterMap_nil, List.nil_append, List.cons_append, List.map_cons, List.map_nil, Option.map_some, Option.bind_some, true_and, and_true, Bool.false_eq_true, Bool.not_true, Bool.not_false, Bool.xor_false, Bool.xor_true, Bool.false_xor, Bool.true_xor, decide_true, decide_false, Nat.zero_add, Nat.reduceAdd, not_true_eq_false, not_false_eq_true, DL.eqD_int, DL.eqD_str, DL.eqD_bl, DL.eqD_tup, DL.eqD_lst, DL.eqDs_nil, DL.eqDs_cons, Bool.and_true, Bool.and_false, List.all_cons, List.all_nil, List.any_cons, List.any_nil, Bool.and_self, DL.dM, DL.kM1, DL.kM2, DL.dM0, DL.kM0, DL.gAppend, DL.gInsert, DL.gExtend, DL.gPop1, DL.gPop0, DL.gReverse, DL.gSort, DL.gRemove, DL.gCount, DL.gIndex, DL.dSlG, DL.kSl1, DL.kSl2, DL.kSl3, DL.gSl, DL.gSlC, DL.dNoPart, DL.dPart, DL.kPart, DL.dLR1, DL.kLR1, DL.dLR2, DL.kLR21, DL.kLR22, DL.nLst, DL.gRepC, DL.gCatC, DL.gInt, DL.gSorted, DL.gMaxL, DL.gMinL, DL.dEnum, DL.kEnum, DL.dZip2, DL.kZip2, DL.dZip3, DL.kZip3, DL.OptS2_some, DL.OptS3_some, DL.dRev, DL.kRev, DL.dEmp, DL.view_emp', DL.subN_dict_int, DL.subN_dict_bool, DL.subN_dict_str, DL.subN_dict_list, DL.subN_dict_tuple, DL.cellL_lst, DL.cellL_none])
local macro_rules | `(tactic| simp! only [$xs,*]) => `(tactic| simp only [DL.dSeq, DL.dSet, DL.kSet, DL.dCB, DL.kCB, DL.dCons, DL.kCons1, DL.kCons2, DL.dNil, DL.dVar, DL.dC, DL.dOp, DL.kOp1, DL.kOp2, DL.dB, DL.kB, DL.dIf, DL.kIf, DL.dRet, DL.dRetN, DL.dTup, DL.kTup, DL.dLst, DL.kLst, DL.dLstC, DL.kLstC, DL.dCall, DL.kCall, DL.dCallK, DL.kCallK1, DL.kCallK2, DL.dLenIs, DL.kLenIs, DL.dNext, DL.dDrop, DL.kDrop, DL.dPar, DL.kPar, DL.dAug, DL.kAug, DL.dAsg, DL.kAsg, DL.dSetIx, DL.kSetIx1, DL.kSetIx2, DL.kSetIx3, DL.dTru, DL.kTru, DL.dAnd, DL.kAnd, DL.dOr, DL.kOr, DL.dNot, DL.kNot, DL.dAndV, DL.kAndV, DL.dOrV, DL.kOrV, DL.dNotV, DL.kNotV, DL.dIfE, DL.kIfE, DL.dChain, DL.kChain1, DL.kChain2, DL.kChain3_true, DL.kChain3_false, DL.dNeg, DL.kNeg, DL.dFz, DL.kFz, DL.dRaise, DL.dTryAs, DL.suiteE, DL.kUnset, DL.dFor, DL.kFor, DL.dSeqI, DL.kSeqI, DL.dRange1, DL.kRange1, DL.dRange2, DL.kRange2, DL.dLc, DL.kLc, DL.dLcC, DL.kLstD, DL.kNewC, DL.dYes, DL.wipeD, DL.loopD, DL.compD, DL.kItem, DL.kTest_true, DL.kTest_false, DL.putIx_some, DL.setsK_some, DL.turnD_some, DL.turnC_some, DL.ifS_true, DL.ifS_false, DL.ifAnd_true, DL.ifAnd_false, DL.ifOr_true, DL.ifOr_false, DL.ifAndV_true, DL.ifAndV_false, DL.ifOrV_true, DL.ifOrV_false, DL.ifE_true, DL.ifE_false, DL.srcOf, DL.tgN, DL.tgT, DL.tgNil, DL.tgCons, DL.sets, List.foldl_cons, List.foldl_nil, DL.gI, DL.gI0, DL.gAdd, DL.gMul, DL.gIx, DL.gEq, DL.gNe, DL.gIs, DL.gIn, DL.gLen, DL.gAbs, DL.gMax2, DL.gMin2, DL.gAll, DL.gAny, DL.gSum, DL.gList, DL.gListC, DL.gTuple, DL.gIsiC, DL.gIsi, DL.tyN, DL.subN_NoneType_int, DL.subN_NoneType_bool, DL.subN_NoneType_str, DL.subN_NoneType_list, DL.subN_NoneType_tuple, DL.subN_bool_int, DL.subN_bool_bool, DL.subN_bool_str, DL.subN_bool_list, DL.subN_bool_tuple, DL.subN_int_int, DL.subN_int_bool, DL.subN_int_str, DL.subN_int_list, DL.subN_int_tuple, DL.subN_str_int, DL.subN_str_bool, DL.subN_str_str, DL.subN_str_list, DL.subN_str_tuple, DL.subN_list_int, DL.subN_list_bool, DL.subN_list_str, DL.subN_list_list, DL.subN_list_tuple, DL.subN_tuple_int, DL.subN_tuple_bool, DL.subN_tuple_str, DL.subN_tuple_list, DL.subN_tuple_tuple, DL.truD, DL.blsOf, DL.view_non, DL.view_bl, DL.view_int', DL.view_str', DL.view_lst', DL.view_tup', DL.view_scr', DL.ends, DL.kEnd, DL.OptP_some, DL.OptQ_some, DL.OptB_some, DL.OptS_some, List.getElem?_cons_zero, List.getElem?_cons_succ, List.set_cons_zero, List.set_cons_succ, DL.atI_zero, DL.atI_one, DL.atI_two, List.length_cons, List.length_nil, DL.pick, List.filterMap_cons, List.filterMap_nil, List.nil_append, List.cons_append, List.map_cons, List.map_nil, Option.map_some, Option.bind_some, true_and, and_true, Bool.false_eq_true, Bool.not_true, Bool.not_false, Bool.xor_false, Bool.xor_true, Bool.false_xor, Bool.true_xor, decide_true, decide_false, Nat.zero_add, Nat.reduceAdd, not_true_eq_false, not_false_eq_true, DL.eqD_int, DL.eqD_str, DL.eqD_bl, DL.eqD_tup, DL.eqD_lst, DL.eqDs_nil, DL.eqDs_cons, Bool.and_true, Bool.and_false, List.all_cons, List.all_nil, List.any_cons, List.any_nil, Bool.and_self, DL.dM, DL.kM1, DL.kM2, DL.dM0, DL.kM0, DL.gAppend, DL.gInsert, DL.gExtend, DL.gPop1, DL.gPop0, DL.gReverse, DL.gSort, DL.gRemove, DL.gCount, DL.gIndex, DL.dSlG, DL.kSl1, DL.kSl2, DL.kSl3, DL.gSl, DL.gSlC, DL.dNoPart, DL.dPart, DL.kPart, DL.dLR1, DL.kLR1, DL.dLR2, DL.kLR21, DL.kLR22, DL.nLst, DL.gRepC, DL.gCatC, DL.gInt, DL.gSorted, DL.gMaxL, DL.gMinL, DL.dEnum, DL.kEnum, DL.dZip2, DL.kZip2, DL.dZip3, DL.kZip3, DL.OptS2_some, DL.OptS3_some, DL.dRev, DL.kRev, DL.dEmp, DL.view_emp', DL.subN_dict_int, DL.subN_dict_bool, DL.subN_dict_str, DL.subN_dict_list, DL.subN_dict_tuple, DL.cellL_lst, DL.cellL_none, $xs,*])
namespace NB
open PySem PySem.Spec L2 DL Fr
def fr (f : Int × Int) : D := .tup [.int f.1, .int f.2]
abbrev k_NOUGHT : D := .tup [.int 0, .int 1]
structure Sz (f : Int × Int) : Prop where
  ne : f.2 ≠ 0
  tb : f.1.natAbs < 2 ^ 4000
  bb : f.2.natAbs < 2 ^ 4000
def c_shared : Ct := fun ds μ Q _ => ∃ a b : Int, ds = [.int a, .int b] ∧ Q (.int (gcdI a b)) μ
def c_lowest : Ct := fun ds μ Q _ => ∃ t b : Int, ds = [.int t, .int b] ∧ b ≠ 0 ∧ b.natAbs < 2 ^ 8100 ∧ Q (fr (low t b)) μ
def c_plus : Ct := fun ds μ Q _ => ∃ f g, ds = [fr f, fr g] ∧ Sz f ∧ Sz g ∧ Q (fr (addF f g)) μ
def c_minus : Ct := fun ds μ Q _ => ∃ f g, ds = [fr f, fr g] ∧ Sz f ∧ Sz g ∧ Q (fr (subF f g)) μ
def c_times : Ct := fun ds μ Q _ => ∃ f g, ds = [fr f, fr g] ∧ Sz f ∧ Sz g ∧ Q (fr (mulF f g)) μ
def c_under : Ct := fun ds μ Q _ => ∃ f g, ds = [fr f, fr g] ∧ Sz f ∧ Sz g ∧ Q (.bl (decide (f.1 * g.2 < g.1 * f.2))) μ
/-- the pool: two numbers from nought on -/
def Pool (μ : M) (p : Addr) : Prop := ∃ c s : Int, μ p = some (.lst [.int c, .int s]) ∧ 0 ≤ c ∧ 0 ≤ s ∧ s < 2147483647
def c_cell_at : Ct := fun ds μ Q _ => ∃ (ns : List Int) (k : Int), ds = [.scr ns, .int k] ∧ 0 ≤ k ∧ ∀ c : Int, Q (.int c) μ
def c_pool : Ct := fun ds μ Q _ => ∃ (ns : List Int) (k : Int), ds = [.scr ns, .int k] ∧ 0 ≤ k ∧ k < 100 ∧ ∀ p μ', μ p = none → Pool μ' p → Oth μ μ' p → Q (.raw (.ref p)) μ'
def c_take : Ct := fun ds μ Q _ => ∃ (p : Addr) (m : Int), ds = [.raw (.ref p), .int m] ∧ Pool μ p ∧ 0 < m ∧ m < 2 ^ 100 ∧ ∀ r μ', 0 ≤ r → r < m → Pool μ' p → Oth μ μ' p → Q (.int r) μ'
def c_low : Ct := c_lowest
def t_shared : DTS :=
  (dSeq (dSet 0 (dCB gAbs (dCons (dVar 0) dNil)))
    (dSeq (dSet 1 (dCB gAbs (dCons (dVar 1) dNil)))
    (dSeq (dWhile (dB (dOp gGt (dVar 1) (dC (.int 0)))) (dPar 0 1 (dCons (dVar 1) (dCons (dOp (gI (fun _ j => j ≠ 0) fun i j => .int (i.fmod j)) (dVar 0) (dVar 1)) dNil))))
    (dRet (dVar 0)))))
def t_lowest : DTS :=
  (dSeq (dIf (dB (dOp gEq (dVar 1) (dC (.int 1)))) (dRet (dTup (dCons (dVar 0) (dCons (dC (.int 1)) dNil)))) dNext)
    (dSeq (dSet 2 (dCall c_shared (dCons (dVar 0) (dCons (dVar 1) dNil))))
    (dSeq (dIf (dB (dOp gLt (dVar 1) (dC (.int 0)))) (dSet 2 (dOp (gI0 fun i j => .int (i - j)) (dC (.int 0)) (dVar 2))) dNext)
    (dRet (dTup (dCons (dOp (gI CDivD fun i j => .int (i.fdiv j)) (dVar 0) (dVar 2)) (dCons (dOp (gI CDivD fun i j => .int (i.fdiv j)) (dVar 1) (dVar 2)) dNil)))))))
def t_plus : DTS :=
  (dRet (dCall c_lowest (dCons (dOp gAdd (dOp gMul (dOp gIx (dVar 0) (dC (.int 0))) (dOp gIx (dVar 1) (dC (.int 1)))) (dOp gMul (dOp gIx (dVar 1) (dC (.int 0))) (dOp gIx (dVar 0) (dC (.int 1))))) (dCons (dOp gMul (dOp gIx (dVar 0) (dC (.int 1))) (dOp gIx (dVar 1) (dC (.int 1)))) dNil))))
def t_times : DTS :=
  (dRet (dCall c_lowest (dCons (dOp gMul (dOp gIx (dVar 0) (dC (.int 0))) (dOp gIx (dVar 1) (dC (.int 0)))) (dCons (dOp gMul (dOp gIx (dVar 0) (dC (.int 1))) (dOp gIx (dVar 1) (dC (.int 1)))) dNil))))
def t_under : DTS :=
  (dRet (dOp gLt (dOp gMul (dOp gIx (dVar 0) (dC (.int 0))) (dOp gIx (dVar 1) (dC (.int 1)))) (dOp gMul (dOp gIx (dVar 1) (dC (.int 0))) (dOp gIx (dVar 0) (dC (.int 1))))))
def t_law_cell_at : DTS :=
  (dSeq (dIf (dB (dOp gLt (dVar 1) (dCB gLen (dCons (dVar 0) dNil)))) (dRet (dOp gIx (dVar 0) (dVar 1))) dNext)
    (dRet (dC (.int 0))))
def t_law_pool : DTS :=
  (dSeq (dSet 2 (dCall c_cell_at (dCons (dVar 0) (dCons (dVar 1) dNil))))
    (dSeq (dSet 3 (dOp (gI (fun _ j => j ≠ 0) fun i j => .int (i.fmod j)) (dOp gMul (dOp gAdd (dOp gAdd (dOp (gI (fun _ j => j ≠ 0) fun i j => .int (i.fmod j)) (dVar 2) (dC (.int 2147483629))) (dOp gMul (dOp gMul (dC (.int 7919)) (dVar 1)) (dVar 1))) (dC (.int 1))) (dC (.int 48271))) (dC (.int 2147483647))))
    (dSeq (dIf (dB (dOp gLt (dVar 2) (dOp (gI CPow fun i j => .int (i ^ j.toNat)) (dC (.int 10)) (dC (.int 18))))) (dSet 2 (dC (.int 0))) dNext)
    (dRet (dLstC (dCons (dVar 2) (dCons (dOp (gI (fun _ j => j ≠ 0) fun i j => .int (i.fmod j)) (dOp gMul (dVar 3) (dVar 3)) (dC (.int 2147483629))) dNil)))))))
def t_law_take : DTS :=
  (dSeq (dIf (dB (dOp gGt (dOp gIx (dVar 0) (dC (.int 0))) (dC (.int 0)))) (dSeq (dSet 2 (dOp (gI (fun _ j => j ≠ 0) fun i j => .int (i.fmod j)) (dOp gIx (dVar 0) (dC (.int 0))) (dVar 1)))
    (dSeq (dSetIx (dOp (gI CDivD fun i j => .int (i.fdiv j)) (dOp gIx (dVar 0) (dC (.int 0))) (dVar 1)) (dVar 0) (dC (.int 0)))
    (dRet (dVar 2)))) dNext)
    (dSeq (dSetIx (dOp (gI (fun _ j => j ≠ 0) fun i j => .int (i.fmod j)) (dOp gAdd (dOp gMul (dOp gIx (dVar 0) (dC (.int 1))) (dC (.int 48271))) (dC (.int 11))) (dC (.int 2147483647))) (dVar 0) (dC (.int 1)))
    (dRet (dOp (gI (fun _ j => j ≠ 0) fun i j => .int (i.fmod j)) (dOp (gI CDivD fun i j => .int (i.fdiv j)) (dOp (gI (fun _ j => j ≠ 0) fun i j => .int (i.fmod j)) (dOp gMul (dOp gIx (dVar 0) (dC (.int 1))) (dOp gIx (dVar 0) (dC (.int 1)))) (dC (.int 2147483629))) (dC (.int 64))) (dVar 1)))))
def t_law_low : DTS :=
  (dSeq (dSet 2 (dCB gAbs (dCons (dVar 0) dNil)))
    (dSeq (dSet 3 (dCB gAbs (dCons (dVar 1) dNil)))
    (dSeq (dWhile (dB (dOp gGt (dVar 3) (dC (.int 0)))) (dPar 2 3 (dCons (dVar 3) (dCons (dOp (gI (fun _ j => j ≠ 0) fun i j => .int (i.fmod j)) (dVar 2) (dVar 3)) dNil))))
    (dSeq (dIf (dB (dOp gLt (dVar 1) (dC (.int 0)))) (dSet 2 (dOp (gI0 fun i j => .int (i - j)) (dC (.int 0)) (dVar 2))) dNext)
    (dRet (dTup (dCons (dOp (gI CDivD fun i j => .int (i.fdiv j)) (dVar 0) (dVar 2)) (dCons (dOp (gI CDivD fun i j => .int (i.fdiv j)) (dVar 1) (dVar 2)) dNil))))))))
theorem gcdI_abs {a b : Int} : gcdI (if a < 0 then -a else a) (if b < 0 then -b else b) = gcdI a b := by
  unfold gcdI
  have h1 : (if a < 0 then -a else a).natAbs = a.natAbs := by split <;> omega
  have h2 : (if b < 0 then -b else b).natAbs = b.natAbs := by split <;> omega
  rw [h1, h2]
theorem gcdI_step {x y : Int} (hx : 0 ≤ x) (hy : 0 < y) : gcdI y (x.fmod y) = gcdI x y := by
  unfold gcdI
  have e : (x.fmod y).natAbs = x.natAbs % y.natAbs := by
    rw [Int.fmod_eq_emod_of_nonneg x (by omega)]
    obtain ⟨n, rfl⟩ := Int.eq_ofNat_of_zero_le hx
    obtain ⟨m, rfl⟩ := Int.eq_ofNat_of_zero_le (Int.le_of_lt hy)
    rfl
  rw [e, Nat.gcd_comm, ← Nat.gcd_rec, Nat.gcd_comm]
theorem gcdI_zero {x : Int} (hx : 0 ≤ x) : gcdI x 0 = x := by
  unfold gcdI
  simp
  omega
theorem hb_shared : HB c_shared t_shared 2 := by
  intro ds μ Q X h
  obtain ⟨a, b, rfl, q⟩ := h
  show t_shared (ends Q XF) [some (.int a), some (.int b)] μ
  simp! only [t_shared]
  refine while_by (fun m δ μ' => ∃ x y : Int, δ = [some (.int x), some (.int y)] ∧ 0 ≤ x ∧ 0 ≤ y ∧ gcdI x y = gcdI a b ∧ m = y.toNat ∧ μ' = μ) ⟨_, _, rfl, by split <;> omega, by split <;> omega, gcdI_abs, rfl, rfl⟩ ?_
  rintro m δ μ' ⟨x, y, rfl, hx, hy, hg, rfl, rfl⟩
  walk_at "r"
  refine ifS_dec (fun h0 => ?_) (fun h => ?_)
  · have e1 := Int.fmod_nonneg_of_pos x h0
    have e2 := Int.fmod_lt_of_pos x h0
    walk_at "r"
    refine ⟨by omega, (x.fmod y).toNat, by omega, y, x.fmod y, rfl, by omega, by omega, ?_, rfl, rfl⟩
    rw [gcdI_step hx h0, hg]
  · have h0 : y = 0 := by omega
    subst h0
    rw [gcdI_zero hx] at hg
    walk_at "r"
    exact .of (by rw [hg]; exact q)
theorem hb_lowest : HB c_lowest t_lowest 3 := by
  intro ds μ Q X h
  obtain ⟨t, b, rfl, hb, hz, q⟩ := h
  show t_lowest (ends Q XF) [some (.int t), some (.int b), none] μ
  simp! only [t_lowest]
  refine ⟨rfl, rfl, ifS_dec (fun h1 => ?_) (fun _ => ?_)⟩
  · subst h1
    rw [low_one] at q
    walk_at "r"
    exact ⟨by decide, .of q⟩
  · walk_at "r"
    refine ⟨t, b, rfl, ?_⟩
    walk_at "r"
    have e : by_ t b = if b < 0 then 0 - gcdI t b else gcdI t b := rfl
    have hd : ∀ x, CDivD x (by_ t b) := fun x => divOk_pow (by_ne hb) (Nat.lt_of_le_of_lt (by_le hb) hz) (by decide)
    refine ifS_dec (fun h => ?_) (fun h => ?_)
    · rw [if_pos h] at e
      walk_at "r"
      rw [← e]
      exact ⟨hd _, hd _, by decide, .of q⟩
    · rw [if_neg h] at e
      walk_at "r"
      rw [← e]
      exact ⟨hd _, hd _, by decide, .of q⟩
theorem mok {x y : Int} (hx : x.natAbs < 2 ^ 4000) (hy : y.natAbs < 2 ^ 4000) : IntMulOk x y := mulOk_pow hx hy (by decide)
theorem hb_plus : HB c_plus t_plus 2 := by
  intro ds μ Q X h
  obtain ⟨⟨a, b⟩, ⟨c, d⟩, rfl, hf, hg, q⟩ := h
  show t_plus (ends Q XF) [some (fr (a, b)), some (fr (c, d))] μ
  simp! only [t_plus, fr]
  exact ⟨mok hf.tb hg.bb, mok hg.tb hf.bb, mok hf.bb hg.bb, _, _, rfl, mul_ne hf.ne hg.ne, lt_mono (mul_lt hf.bb hg.bb) (by omega), .of q⟩
theorem hb_times : HB c_times t_times 2 := by
  intro ds μ Q X h
  obtain ⟨⟨a, b⟩, ⟨c, d⟩, rfl, hf, hg, q⟩ := h
  show t_times (ends Q XF) [some (fr (a, b)), some (fr (c, d))] μ
  simp! only [t_times, fr]
  exact ⟨mok hf.tb hg.tb, mok hf.bb hg.bb, _, _, rfl, mul_ne hf.ne hg.ne, lt_mono (mul_lt hf.bb hg.bb) (by omega), .of q⟩
theorem hb_under : HB c_under t_under 2 := by
  intro ds μ Q X h
  obtain ⟨⟨a, b⟩, ⟨c, d⟩, rfl, hf, hg, q⟩ := h
  show t_under (ends Q XF) [some (fr (a, b)), some (fr (c, d))] μ
  simp! only [t_under, fr]
  exact ⟨mok hf.tb hg.bb, mok hg.tb hf.bb, .of q⟩
theorem Ok.sz {n : Nat} {f : Int × Int} (h : Ok n f) (l : n ≤ 4000) : Sz f := ⟨h.ne, lt_mono h.tb l, lt_mono h.bb l⟩
theorem ok_nought : Ok 1 ((0, 1) : Int × Int) := ⟨by decide, by decide, by decide, by decide⟩
theorem take_succ {α : Type} {l : List α} {i : Nat} {x : α} (h : l[i]? = some x) : l.take (i + 1) = l.take i ++ [x] := by
  rw [List.take_add_one, h]
  rfl
theorem hb_law_cell_at : HB c_cell_at t_law_cell_at 2 := by
  intro ds μ Q X h
  obtain ⟨ns, k, rfl, hk, q⟩ := h
  show t_law_cell_at (ends Q XF) [some (.scr ns), some (.int k)] μ
  simp! only [t_law_cell_at]
  refine ifS_dec (fun h => ?_) (fun h => ?_)
  · obtain ⟨x, e, _⟩ := atI_lt hk h
    simp! only [e]
    exact .of (q _)
  · walk_at "r"
    exact .of (q _)
theorem hb_law_pool : HB c_pool t_law_pool 4 := by
  intro ds μ Q X h
  obtain ⟨ns, k, rfl, hk, hk2, q⟩ := h
  show t_law_pool (ends Q XF) [some (.scr ns), some (.int k), none, none] μ
  simp! only [t_law_pool]
  refine ⟨ns, k, rfl, hk, fun c => ?_⟩
  walk_at "r"
  have e0 : ∀ x : Int, 0 ≤ x.fmod 2147483629 ∧ x.fmod 2147483629 < 2147483629 := fun x => ⟨Int.fmod_nonneg_of_pos x (by decide), Int.fmod_lt_of_pos x (by decide)⟩
  have e1 : ∀ x : Int, 0 ≤ x.fmod 2147483647 ∧ x.fmod 2147483647 < 2147483647 := fun x => ⟨Int.fmod_nonneg_of_pos x (by decide), Int.fmod_lt_of_pos x (by decide)⟩
  have kk : 0 ≤ 7919 * k * k ∧ 7919 * k * k < 2 ^ 40 := by
    have h1 : 0 ≤ k * k := Int.mul_nonneg hk hk
    have h2 : k * k ≤ 100 * 100 := Int.mul_le_mul (by omega) (by omega) hk (by decide)
    have h3 : 7919 * k * k = 7919 * (k * k) := Int.mul_assoc ..
    omega
  have a1 := e0 c
  have m1 : IntMulOk 7919 k := mulOk_64 (by omega) (by omega) (by omega) (by omega)
  have m2 : IntMulOk (7919 * k) k := mulOk_64 (by omega) (by omega) (by omega) (by omega)
  have m3 : IntMulOk (c.fmod 2147483629 + 7919 * k * k + 1) 48271 := mulOk_64 (by omega) (by omega) (by omega) (by omega)
  refine ⟨by decide, m1, m2, m3, by decide, ⟨by decide, by decide, by decide⟩, ?_⟩
  generalize (c.fmod 2147483629 + 7919 * k * k + 1) * 48271 = y
  have b1 := e1 y
  have m4 : IntMulOk (y.fmod 2147483647) (y.fmod 2147483647) := mulOk_64 (by omega) (by omega) (by omega) (by omega)
  have b2 := e0 (y.fmod 2147483647 * y.fmod 2147483647)
  refine ifS_dec (fun h => ?_) (fun h => ?_)
  · walk_at "r"
    refine ⟨m4, by decide, by decide, fun p hp => .of (q p _ hp ⟨0, _, updM_same, by decide, b2.1, by omega⟩ Oth.upd)⟩
  · walk_at "r"
    refine ⟨m4, by decide, by decide, fun p hp => .of (q p _ hp ⟨c, _, updM_same, ?_, b2.1, by omega⟩ Oth.upd)⟩
    have z : ¬ c < 10 ^ Int.toNat 18 := h
    have : (10 : Int) ^ Int.toNat 18 = 1000000000000000000 := by decide
    omega
theorem hb_law_take : HB c_take t_law_take 3 := by
  intro ds μ Q X h
  obtain ⟨p, m, rfl, ⟨c, s, hp, hc, hs, hs2⟩, h0, h1, q⟩ := h
  show t_law_take (ends Q XF) [some (.raw (.ref p)), some (.int m), none] μ
  have e0 := Int.fmod_nonneg_of_pos c h0
  have e1 := Int.fmod_lt_of_pos c h0
  have z100 : (2 : Nat) ^ 100 = 1267650600228229401496703205376 := by decide
  have hd : ∀ x, CDivD x m := fun x => divOk_pow (b := 100) (by omega) (by omega) (by decide)
  simp! only [t_law_take, view_cell hp]
  refine ifS_dec (fun h => ?_) (fun h => ?_)
  · simp! only [view_cell hp]
    refine ⟨by omega, hd _, _, hp, ?_⟩
    simp! only [ixN_zero]
    have ef : 0 ≤ c.fdiv m := by rw [Int.fdiv_eq_ediv_of_nonneg c (by omega)]; exact Int.ediv_nonneg hc (by omega)
    exact .of (q _ _ e0 e1 ⟨_, s, updM_same, ef, hs, hs2⟩ Oth.upd)
  · have m1 : IntMulOk s 48271 := mulOk_64 (by omega) (by omega) (by omega) (by omega)
    simp! only [view_cell hp]
    refine ⟨m1, by decide, _, hp, ?_⟩
    simp! only [ixN_one]
    have hv : (updM μ p (C.lst [D.int c, D.int ((s * 48271 + 11).fmod 2147483647)])) p = some (C.lst [D.int c, D.int ((s * 48271 + 11).fmod 2147483647)]) := updM_same
    simp! only [view_cell hv]
    generalize s * 48271 + 11 = y
    have b1 : 0 ≤ y.fmod 2147483647 ∧ y.fmod 2147483647 < 2147483647 := ⟨Int.fmod_nonneg_of_pos _ (by decide), Int.fmod_lt_of_pos _ (by decide)⟩
    have m4 : IntMulOk (y.fmod 2147483647) (y.fmod 2147483647) := mulOk_64 (by omega) (by omega) (by omega) (by omega)
    refine ⟨m4, by decide, divOk_small (by decide) (by decide), by omega, .of (q _ _ (Int.fmod_nonneg_of_pos _ h0) (Int.fmod_lt_of_pos _ h0) ⟨_, _, updM_same, hc, b1.1, b1.2⟩ Oth.upd)⟩
theorem hb_law_low : HB c_low t_law_low 4 := by
  intro ds μ Q X h
  obtain ⟨t, b, rfl, hb, hz, q⟩ := h
  show t_law_low (ends Q XF) [some (.int t), some (.int b), none, none] μ
  simp! only [t_law_low]
  refine while_by (fun m δ μ' => ∃ x y : Int, δ = [some (.int t), some (.int b), some (.int x), some (.int y)] ∧ 0 ≤ x ∧ 0 ≤ y ∧ gcdI x y = gcdI t b ∧ m = y.toNat ∧ μ' = μ) ⟨_, _, rfl, by split <;> omega, by split <;> omega, gcdI_abs, rfl, rfl⟩ ?_
  rintro m δ μ' ⟨x, y, rfl, hx, hy, hg, rfl, rfl⟩
  walk_at "r"
  refine ifS_dec (fun h0 => ?_) (fun h => ?_)
  · have e1 := Int.fmod_nonneg_of_pos x h0
    have e2 := Int.fmod_lt_of_pos x h0
    walk_at "r"
    refine ⟨by omega, (x.fmod y).toNat, by omega, y, x.fmod y, rfl, by omega, by omega, ?_, rfl, rfl⟩
    rw [gcdI_step hx h0, hg]
  · have h0 : y = 0 := by omega
    subst h0
    rw [gcdI_zero hx] at hg
    have e : by_ t b = if b < 0 then 0 - x else x := by rw [hg]; rfl
    have hd : ∀ x, CDivD x (by_ t b) := fun x => divOk_pow (by_ne hb) (Nat.lt_of_le_of_lt (by_le hb) hz) (by decide)
    walk_at "r"
    refine ifS_dec (fun h => ?_) (fun h => ?_)
    · rw [if_pos h] at e
      walk_at "r"
      rw [← e]
      exact ⟨hd _, hd _, by decide, .of q⟩
    · rw [if_neg h] at e
      walk_at "r"
      rw [← e]
      exact ⟨hd _, hd _, by decide, .of q⟩
end NB
set_option Elab.async false
set_option linter.all false
/-! Trails over ties: plain lists. -/
namespace NB
/-- items gone one behind the other from a place to a place -/
def Trl (F : List ((Int × Int) × Int)) : Int → List Nat → Int → Prop
  | h, [], e => h = e
  | h, i :: is, e => ∃ t, F[i]? = some (t, 1) ∧ (t.1 = h ∨ t.2 = h) ∧ Trl F (t.1 + t.2 - h) is e
theorem Trl.snoc {F : List ((Int × Int) × Int)} {j : Nat} {t : Int × Int} (hj : F[j]? = some (t, 1)) : ∀ {a : Int} {is : List Nat} {c : Int}, Trl F a is c → (t.1 = c ∨ t.2 = c) → Trl F a (is ++ [j]) (t.1 + t.2 - c)
  | a, [], c, h, ht => by
    cases (show a = c from h)
    exact ⟨t, hj, ht, rfl⟩
  | a, i :: is, c, h, ht => by
    obtain ⟨u, h1, h2, h3⟩ := h
    exact ⟨u, h1, h2, Trl.snoc hj h3 ht⟩
/-- 1 at the items, else 0 -/
def ind (n : Nat) (is : List Nat) : List Int := (List.range n).map fun i => if i ∈ is then 1 else 0
theorem ind_len {n : Nat} {is : List Nat} : (ind n is).length = n := by unfold ind; rw [List.length_map, List.length_range]
/-- a row of trails: (place, items) -/
abbrev Row := List (Int × List Nat)
def RowOk (F : List ((Int × Int) × Int)) (b : Int) (x : Int × List Nat) : Prop := Trl F b x.2 x.1 ∧ x.2.Nodup ∧ ∀ i ∈ x.2, i < F.length
/-- onward by one item -/
def step1 (F : List ((Int × Int) × Int)) (x : Int × List Nat) (i : Nat) : Row := match F[i]? with
  | some (t, c) => if c = 1 ∧ (t.1 = x.1 ∨ t.2 = x.1) ∧ i ∉ x.2 then [(t.1 + t.2 - x.1, x.2 ++ [i])] else []
  | none => []
def ext (F : List ((Int × Int) × Int)) (x : Int × List Nat) (n : Nat) : Row := (List.range n).flatMap (step1 F x)
end NB
namespace NB
end NB
set_option Elab.async false
set_option linter.all false
set_option maxRecDepth 100000
set_option maxHeartbeats 2000000
set_option exponentiation.threshold 20000
/-! What the laws draw: fractions, ties, wishes. -/
namespace NB
open PySem PySem.Spec L2 DL Fr
/-- what comes of a drawing -/
def Drw {α : Type} (p : Addr) (μ : M) (Q : QD) (ok : α → Prop) (d : α → D) : Prop := ∀ x μ', ok x → Pool μ' p → Oth μ μ' p → Q (d x) μ'
/-- the tie that comes i-th: to place i + 1 from one ahead of it -/
def Par (i : Nat) (t : Int × Int) : Prop := (t.1 = (i : Int) + 1 ∧ 0 ≤ t.2 ∧ t.2 ≤ i) ∨ (t.2 = (i : Int) + 1 ∧ 0 ≤ t.1 ∧ t.1 ≤ i)
def Span (many : Int) (T : List (Int × Int)) : Prop := (T.length : Int) = many - 1 ∧ ∀ i t, T[i]? = some t → Par i t
def Tie (many : Int) (t : Int × Int) : Prop := 0 ≤ t.1 ∧ t.1 < many ∧ 0 ≤ t.2 ∧ t.2 < many ∧ t.1 ≠ t.2
/-- a tie and whether it is taken -/
def tk (x : (Int × Int) × Int) : D := .tup [fr x.1, .int x.2]
def More (many limit : Int) (T : List (Int × Int)) (F : List ((Int × Int) × Int)) : Prop := ∃ E : List (Int × Int), (E.length : Int) ≤ limit ∧ (∀ t ∈ E, Tie many t) ∧ F.Perm (T.map (·, 1) ++ E.map (·, 0))
structure Cnts (ns : List Int) : Prop where
  ne : 1 ≤ ns.length
  le : ns.length ≤ 16
  bd : ∀ n ∈ ns, 0 ≤ n ∧ n ≤ 100
def tiesD (F : List ((Int × Int) × Int)) : D := .tup (F.map fun x => fr x.1)
/-- a count moved along a tie -/
def fl (ns : List Int) (x : (Int × Int) × Int) : List Int :=
  (ns.set x.1.1.toNat (ns.getD x.1.1.toNat 0 + x.2)).set x.1.2.toNat ((ns.set x.1.1.toNat (ns.getD x.1.1.toNat 0 + x.2)).getD x.1.2.toNat 0 - x.2)
def flow (m : Nat) (F : List (Int × Int)) (cs : List Int) : List Int := (F.zip cs).foldl fl (List.replicate m 0)
/-- works done in an order: when each is done -/
def dones (lasts : List Int) : List Int → Int → List Int → List Int
  | [], _, acc => acc
  | o :: os, t, acc => dones lasts os (t + lasts.getD o.toNat 0) (acc.set o.toNat (t + lasts.getD o.toNat 0))
def upTo (n : Nat) : List Int := (List.range n).map Int.ofNat
/-- a drawn shape and its plan -/
inductive Wish : D → List Int → Prop
  | tree {m : Int} {T : List (Int × Int)} {F : List ((Int × Int) × Int)} (hm : 2 ≤ m ∧ m ≤ 5) (sp : Span m T) (mo : More m 3 T F) : Wish (.tup [.str (PySem.Str.ofString "tree"), .int m, tiesD F]) (F.map (·.2))
  | way {m b e : Int} {T : List (Int × Int)} {F : List ((Int × Int) × Int)} {is : List Nat} (hm : 2 ≤ m ∧ m ≤ 5) (sp : Span m T) (mo : More m 3 T F) (hb : 0 ≤ b ∧ b < m) (he : 0 ≤ e ∧ e < m) (ne : b ≠ e) (tr : RowOk F b (e, is)) :
      Wish (.tup [.str (PySem.Str.ofString "way"), .int m, tiesD F, .int b, .int e]) (ind F.length is)
  | pair {m : Int} {R : List Int} {E : List (Int × Int)} {F : List ((Int × Int) × Int)} (hm : 1 ≤ m ∧ m ≤ 4) (hR : R.Perm (upTo m.toNat)) (hE : E.length ≤ 3) (ok : ∀ t ∈ E, 0 ≤ t.1 ∧ t.1 < m ∧ 0 ≤ t.2 ∧ t.2 < m) (pf : F.Perm ((R.mapIdx fun i r => (((i : Int), r), (1 : Int))) ++ E.map (·, 0))) :
      Wish (.tup [.str (PySem.Str.ofString "pair"), .int m, tiesD F]) (F.map (·.2))
  | deal {h w : Nat} {dealt rooms : List Int} (hh : 1 ≤ h ∧ h ≤ 3) (hw : 1 ≤ w) (hwl : h * w ≤ 6) (dl : dealt.length = w) (db : ∀ d ∈ dealt, 0 ≤ d ∧ d < h) (rl : rooms.length = h) (rb : ∀ (i : Nat) (r : Int), rooms[i]? = some r → (dealt.count (i : Int) : Int) ≤ r ∧ r ≤ 6) :
      Wish (.tup [.str (PySem.Str.ofString "deal"), .tup (rooms.map D.int), .int (w : Int)]) ((List.range h).flatMap fun (i : Nat) => dealt.map fun d => if d = (i : Int) then 1 else 0)
  | stream {m : Int} {T : List (Int × Int)} {F : List ((Int × Int) × Int)} {rooms cs : List Int} (hm : 2 ≤ m ∧ m ≤ 4) (sp : Span m T) (mo : More m 1 (T.take 3) F) (rl : rooms.length = F.length) (rb : ∀ r ∈ rooms, 1 ≤ r ∧ r ≤ 2) (cl : cs.length = F.length)
      (cb : ∀ (i : Nat) (c r : Int), cs[i]? = some c → rooms[i]? = some r → 0 ≤ c ∧ c ≤ r) :
      Wish (.tup [.str (PySem.Str.ofString "stream"), .int m, tiesD F, .tup (rooms.map D.int), .tup ((flow m.toNat (F.map (·.1)) cs).map D.int)]) cs
  | bench {lasts order : List Int} (h1 : 1 ≤ lasts.length ∧ lasts.length ≤ 4) (lb : ∀ l ∈ lasts, 1 ≤ l ∧ l ≤ 4) (ho : order.Perm (upTo lasts.length)) :
      Wish (.tup [.str (PySem.Str.ofString "bench"), .tup (lasts.map D.int)]) (dones lasts order 0 (List.replicate lasts.length 0))
def WishD (x : D × List Int) : D := .tup [x.1, .lst (x.2.map D.int)]
/-- a drawn row of so many works -/
def BenchOk (w : Int) (x : D × List Int) : Prop := ∃ lasts order : List Int, x = (.tup [.str (PySem.Str.ofString "bench"), .tup (lasts.map D.int)], dones lasts order 0 (List.replicate lasts.length 0)) ∧ (1 ≤ lasts.length ∧ lasts.length ≤ 8) ∧ (∀ l ∈ lasts, 1 ≤ l ∧ l ≤ 4) ∧ order.Perm (upTo lasts.length) ∧ (lasts.length : Int) = w
theorem BenchOk.wish {w : Int} {x : D × List Int} (h : BenchOk w x) (hw : w ≤ 4) : Wish x.1 x.2 := by
  obtain ⟨lasts, order, rfl, h1, lb, ho, e⟩ := h
  exact Wish.bench ⟨h1.1, by omega⟩ lb ho
theorem BenchOk.hd {w : Int} {x : D × List Int} (h : BenchOk w x) : ∃ ls, x.1 = .tup [.str (PySem.Str.ofString "bench"), .tup ls] := by
  obtain ⟨lasts, order, rfl, _⟩ := h
  exact ⟨_, rfl⟩
def t_law_plus : DTS :=
  (dRet (dCall c_low (dCons (dOp gAdd (dOp gMul (dOp gIx (dVar 0) (dC (.int 0))) (dOp gIx (dVar 1) (dC (.int 1)))) (dOp gMul (dOp gIx (dVar 1) (dC (.int 0))) (dOp gIx (dVar 0) (dC (.int 1))))) (dCons (dOp gMul (dOp gIx (dVar 0) (dC (.int 1))) (dOp gIx (dVar 1) (dC (.int 1)))) dNil))))
def t_law_minus : DTS :=
  (dRet (dCall c_low (dCons (dOp (gI0 fun i j => .int (i - j)) (dOp gMul (dOp gIx (dVar 0) (dC (.int 0))) (dOp gIx (dVar 1) (dC (.int 1)))) (dOp gMul (dOp gIx (dVar 1) (dC (.int 0))) (dOp gIx (dVar 0) (dC (.int 1))))) (dCons (dOp gMul (dOp gIx (dVar 0) (dC (.int 1))) (dOp gIx (dVar 1) (dC (.int 1)))) dNil))))
def t_law_times : DTS :=
  (dRet (dCall c_low (dCons (dOp gMul (dOp gIx (dVar 0) (dC (.int 0))) (dOp gIx (dVar 1) (dC (.int 0)))) (dCons (dOp gMul (dOp gIx (dVar 0) (dC (.int 1))) (dOp gIx (dVar 1) (dC (.int 1)))) dNil))))
def t_law_less : DTS :=
  (dRet (dOp gLt (dOp gMul (dOp gIx (dVar 0) (dC (.int 0))) (dOp gIx (dVar 1) (dC (.int 1)))) (dOp gMul (dOp gIx (dVar 1) (dC (.int 0))) (dOp gIx (dVar 0) (dC (.int 1))))))
theorem hb_law_plus : HB c_plus t_law_plus 2 := by
  intro ds μ Q X h
  obtain ⟨⟨a, b⟩, ⟨c, d⟩, rfl, hf, hg, q⟩ := h
  show t_law_plus (ends Q XF) [some (fr (a, b)), some (fr (c, d))] μ
  simp! only [t_law_plus, fr]
  exact ⟨mok hf.tb hg.bb, mok hg.tb hf.bb, mok hf.bb hg.bb, _, _, rfl, mul_ne hf.ne hg.ne, lt_mono (mul_lt hf.bb hg.bb) (by omega), .of q⟩
theorem hb_law_minus : HB c_minus t_law_minus 2 := by
  intro ds μ Q X h
  obtain ⟨⟨a, b⟩, ⟨c, d⟩, rfl, hf, hg, q⟩ := h
  show t_law_minus (ends Q XF) [some (fr (a, b)), some (fr (c, d))] μ
  simp! only [t_law_minus, fr]
  exact ⟨mok hf.tb hg.bb, mok hg.tb hf.bb, mok hf.bb hg.bb, _, _, rfl, mul_ne hf.ne hg.ne, lt_mono (mul_lt hf.bb hg.bb) (by omega), .of q⟩
theorem hb_law_times : HB c_times t_law_times 2 := by
  intro ds μ Q X h
  obtain ⟨⟨a, b⟩, ⟨c, d⟩, rfl, hf, hg, q⟩ := h
  show t_law_times (ends Q XF) [some (fr (a, b)), some (fr (c, d))] μ
  simp! only [t_law_times, fr]
  exact ⟨mok hf.tb hg.tb, mok hf.bb hg.bb, _, _, rfl, mul_ne hf.ne hg.ne, lt_mono (mul_lt hf.bb hg.bb) (by omega), .of q⟩
theorem hb_law_less : HB c_under t_law_less 2 := by
  intro ds μ Q X h
  obtain ⟨⟨a, b⟩, ⟨c, d⟩, rfl, hf, hg, q⟩ := h
  show t_law_less (ends Q XF) [some (fr (a, b)), some (fr (c, d))] μ
  simp! only [t_law_less, fr]
  exact ⟨mok hf.tb hg.bb, mok hg.tb hf.bb, .of q⟩
/-- all other cells but two -/
def Oth2 (μ μ' : M) (p c : Addr) : Prop := ∀ q, q ≠ p → q ≠ c → μ' q = μ q
theorem Oth2.del {μ μ' : M} {p c : Addr} (h0 : μ c = none) (h : Oth2 μ μ' p c) : Oth μ (delM μ' c) p := fun q hq => by
  unfold delM
  by_cases e : q = c
  · rw [if_pos e, e, h0]
  · rw [if_neg e]
    exact h q hq e
theorem Oth2.step {μ μ' μ2 : M} {p c : Addr} (h : Oth2 μ μ' p c) (o : Oth μ' μ2 p) : Oth2 μ μ2 p c := fun q h1 h2 => (o q h1).trans (h q h1 h2)
theorem Oth2.put {μ μ' : M} {p c : Addr} {x : C} (h : Oth2 μ μ' p c) : Oth2 μ (updM μ' c x) p c := fun q h1 h2 => by rw [updM_ne h2]; exact h q h1 h2
theorem Oth2.new {μ μ' : M} {p c : Addr} {x : C} (o : Oth μ μ' p) : Oth2 μ (updM μ' c x) p c := fun q h1 h2 => by rw [updM_ne h2]; exact o q h1
theorem pool_ne {μ : M} {p c : Addr} (h : Pool μ p) (h0 : μ c = none) : c ≠ p := fun e => by
  obtain ⟨_, _, h, _⟩ := h
  rw [← e, h0] at h
  cases h
theorem pool_del {μ : M} {p c : Addr} (hne : c ≠ p) (h : Pool μ p) : Pool (delM μ c) p := by
  obtain ⟨a, b, h, r⟩ := h
  exact ⟨a, b, by unfold delM; rw [if_neg (Ne.symm hne)]; exact h, r⟩
theorem pool_upd {μ : M} {p c : Addr} {x : C} (hne : c ≠ p) (h : Pool μ p) : Pool (updM μ c x) p := by
  obtain ⟨a, b, h, r⟩ := h
  exact ⟨a, b, by rw [updM_ne (Ne.symm hne)]; exact h, r⟩
theorem oth_cell {μ μ' : M} {p c : Addr} {x : Option C} (o : Oth μ μ' p) (hne : c ≠ p) (h : μ c = x) : μ' c = x := (o c hne).trans h
theorem map_some {α : Type} {f : α → D} {T : List α} {i : Nat} {d : D} (h : (T.map f)[i]? = some d) : ∃ t, T[i]? = some t ∧ d = f t := by
  rw [List.getElem?_map] at h
  obtain ⟨t, h1, h2⟩ := Option.map_eq_some_iff.mp h
  exact ⟨t, h1, h2.symm⟩
/-- a comprehension that draws nothing -/
theorem comp_pure {α : Type} {xs : List α} {ok : M → Prop} {enc g : α → D} {f : TGD} {tt : DTT} {te : DTE} {Q : List D → M → Prop} {δ : Sl} {μ : M} (ho : ok μ) (hl : xs.length < sizeLine)
    (st : ∀ x ∈ xs, ∀ (acc : List D) (R : List D → M → Prop), acc.length < sizeLine → R (acc ++ [g x]) μ → turnC (f μ (enc x)) tt te acc R δ μ) (q : Q (xs.map g) μ) : compJ ok f tt te Q δ (xs.map enc) μ := by
  refine ⟨fun i acc μ' => μ' = μ ∧ acc = (xs.take i).map g, ⟨rfl, by simp⟩, ?_⟩
  rintro i acc μ' ⟨rfl, rfl⟩
  refine ⟨ho, fun d hd => ?_, fun hi => ?_⟩
  · obtain ⟨x, hx, rfl⟩ := map_some hd
    refine st x (List.mem_of_getElem? hx) _ _ ?_ ⟨rfl, ?_⟩
    · rw [List.length_map, List.length_take]
      exact Nat.lt_of_le_of_lt (Nat.min_le_right _ _) hl
    · rw [take_succ hx, List.map_append]
      rfl
  · rw [List.length_map] at hi
    rw [hi, List.take_length]
    exact q
theorem atI_nat {α : Type} {xs : List α} {i : Nat} : atI xs (i : Int) = xs[i]? := by
  unfold atI ixN
  rw [if_pos (by omega)]
  by_cases h : i < xs.length
  · rw [if_pos (by omega)]
    rfl
  · rw [if_neg (by omega), List.getElem?_eq_none (by omega)]
    rfl
theorem ixN_nat {n i : Nat} (h : i < n) : ixN n (i : Int) = some i := by
  unfold ixN
  rw [if_pos (by omega), if_pos (by omega)]
  rfl
theorem cut_take {xs : List D} {i : Nat} : cutD xs none (some (i : Int)) = xs.take i := by
  unfold cutD
  rw [HT.sIx_none, HT.sIx_nat, Nat.sub_zero, List.drop_zero]
  by_cases h : i ≤ xs.length
  · rw [Nat.min_eq_left h]
  · rw [Nat.min_eq_right (by omega), List.take_length, List.take_of_length_le (by omega)]
theorem cut_drop {xs : List D} {i : Nat} : cutD xs (some ((i : Int) + 1)) none = xs.drop (i + 1) := by
  unfold cutD
  rw [HT.sIx_none, show ((i : Int) + 1) = ((i + 1 : Nat) : Int) by omega, HT.sIx_nat]
  by_cases h : i + 1 ≤ xs.length
  · rw [Nat.min_eq_left h, List.take_of_length_le (by rw [List.length_drop]; omega)]
  · rw [Nat.min_eq_right (by omega), Nat.sub_self, List.take_zero, List.drop_eq_nil_of_le (by omega)]
theorem More.len {m l : Int} {T : List (Int × Int)} {F : List ((Int × Int) × Int)} (h : More m l T F) : T.length ≤ F.length ∧ (F.length : Int) ≤ T.length + l := by
  obtain ⟨E, h1, _, h3⟩ := h
  have := h3.length_eq
  rw [List.length_append, List.length_map, List.length_map] at this
  omega
theorem More.bit {m l : Int} {T : List (Int × Int)} {F : List ((Int × Int) × Int)} (h : More m l T F) : ∀ x ∈ F, x.2 = 0 ∨ x.2 = 1 := fun x hx => by
  obtain ⟨E, h1, _, h3⟩ := h
  rcases List.mem_append.mp (h3.mem_iff.mp hx) with h | h
  · obtain ⟨t, _, rfl⟩ := List.mem_map.mp h
    exact .inr rfl
  · obtain ⟨t, _, rfl⟩ := List.mem_map.mp h
    exact .inl rfl
/-- two lists, item by item -/
def All2 {α β : Type} (P : α → β → Prop) (xs : List α) (ys : List β) : Prop := ys.length = xs.length ∧ ∀ (i : Nat) x y, xs[i]? = some x → ys[i]? = some y → P x y
theorem All2.nil {α β : Type} {P : α → β → Prop} : All2 P [] [] := ⟨rfl, fun i x y h => by simp at h⟩
theorem All2.snoc {α β : Type} {P : α → β → Prop} {xs : List α} {ys : List β} {x : α} {y : β} (h : All2 P xs ys) (hp : P x y) : All2 P (xs ++ [x]) (ys ++ [y]) := by
  refine ⟨by rw [List.length_append, List.length_append, h.1]; rfl, fun i u v h1 h2 => ?_⟩
  by_cases hi : i < xs.length
  · rw [List.getElem?_append_left hi] at h1
    rw [List.getElem?_append_left (by rw [h.1]; exact hi)] at h2
    exact h.2 i u v h1 h2
  · rw [List.getElem?_append_right (by omega)] at h1
    rw [List.getElem?_append_right (by rw [h.1]; omega), h.1] at h2
    cases e : i - xs.length with
    | zero =>
      rw [e] at h1 h2
      cases h1
      cases h2
      exact hp
    | succ n =>
      rw [e] at h1
      simp at h1
theorem All2.mem {α β : Type} {P : α → β → Prop} {xs : List α} {ys : List β} (h : All2 P xs ys) {y : β} (hy : y ∈ ys) : ∃ x ∈ xs, P x y := by
  obtain ⟨i, hi⟩ := List.getElem?_of_mem hy
  have hl : i < xs.length := by rw [← h.1]; exact (List.getElem?_eq_some_iff.mp hi).1
  exact ⟨xs[i], List.getElem_mem hl, h.2 i _ y (List.getElem?_eq_getElem hl) hi⟩
/-- a comprehension that draws -/
theorem comp_draw {α β : Type} {xs : List α} {ok : M → Prop} {enc : α → D} {g : β → D} {P : α → β → Prop} {p : Addr} {f : TGD} {tt : DTT} {te : DTE} {Q : List D → M → Prop} {δ : Sl} {μ : M} (ho : ∀ μ', Oth μ μ' p → ok μ') (hp : Pool μ p) (hl : xs.length < sizeLine)
    (st : ∀ x ∈ xs, ∀ (acc : List D) (R : List D → M → Prop) (μ' : M), Pool μ' p → Oth μ μ' p → acc.length < sizeLine → (∀ y μ2, P x y → Pool μ2 p → Oth μ' μ2 p → R (acc ++ [g y]) μ2) → turnC (f μ' (enc x)) tt te acc R δ μ')
    (q : ∀ (ys : List β) μ', All2 P xs ys → Pool μ' p → Oth μ μ' p → Q (ys.map g) μ') : compJ ok f tt te Q δ (xs.map enc) μ := by
  refine ⟨fun i acc μ' => ∃ ys : List β, acc = ys.map g ∧ All2 P (xs.take i) ys ∧ Pool μ' p ∧ Oth μ μ' p, ⟨[], rfl, .nil, hp, Oth.refl _ _⟩, ?_⟩
  rintro i acc μ' ⟨ys, rfl, h2, hp', o⟩
  refine ⟨ho μ' o, fun d hd => ?_, fun hi => ?_⟩
  · obtain ⟨x, hx, rfl⟩ := map_some hd
    refine st x (List.mem_of_getElem? hx) _ _ _ hp' o ?_ fun y μ2 hy h3 o3 => ⟨ys ++ [y], by rw [List.map_append]; rfl, by rw [take_succ hx]; exact h2.snoc hy, h3, o.trans o3⟩
    rw [List.length_map, h2.1, List.length_take]
    exact Nat.lt_of_le_of_lt (Nat.min_le_right _ _) hl
  · rw [List.length_map] at hi
    subst hi
    rw [List.take_length] at h2
    exact q ys μ' h2 hp' o
theorem upTo_len {n : Nat} : (upTo n).length = n := by unfold upTo; rw [List.length_map, List.length_range]
theorem fl_len {ns : List Int} {x : (Int × Int) × Int} : (fl ns x).length = ns.length := by unfold fl; rw [List.length_set, List.length_set]
theorem dones_len {lasts : List Int} : ∀ (os : List Int) (t : Int) (acc : List Int), (dones lasts os t acc).length = acc.length
  | [], _, _ => rfl
  | o :: os, t, acc => by rw [dones, dones_len os, List.length_set]
theorem dones_bd {lasts : List Int} (hl : ∀ l ∈ lasts, 1 ≤ l ∧ l ≤ 4) : ∀ (os : List Int) (t : Int) (acc : List Int) (B : Int), 0 ≤ t → t + 4 * os.length ≤ B → (∀ n ∈ acc, 0 ≤ n ∧ n ≤ B) → ∀ n ∈ dones lasts os t acc, 0 ≤ n ∧ n ≤ B
  | [], _, _, _, _, _, h => h
  | o :: os, t, acc, B, ht, hB, h => by
    have hx : 0 ≤ lasts.getD o.toNat 0 ∧ lasts.getD o.toNat 0 ≤ 4 := by
      rw [List.getD_eq_getElem?_getD]
      cases e : lasts[o.toNat]? with
      | none => simp
      | some l => have := hl l (List.mem_of_getElem? e); simp; omega
    rw [dones]
    rw [List.length_cons] at hB
    refine dones_bd hl os _ _ B (by omega) (by omega) fun n hn => ?_
    rcases List.mem_or_eq_of_mem_set hn with h1 | h1
    · exact h n h1
    · rw [h1]
      omega
theorem Wish.cnts {s : D} {ns : List Int} (h : Wish s ns) : Cnts ns := by
  cases h with
  | tree hm sp mo =>
    have h1 := sp.1
    have h2 := mo.len
    refine ⟨by rw [List.length_map]; omega, by rw [List.length_map]; omega, fun n hn => ?_⟩
    obtain ⟨x, hx, rfl⟩ := List.mem_map.mp hn
    rcases mo.bit x hx with e | e <;> rw [e] <;> decide
  | way hm sp mo hb he ne tr =>
    have h1 := sp.1
    have h2 := mo.len
    refine ⟨by rw [ind_len]; omega, by rw [ind_len]; omega, fun n hn => ?_⟩
    unfold ind at hn
    obtain ⟨i, _, rfl⟩ := List.mem_map.mp hn
    split <;> decide
  | @pair m R E F hm hR hE ok pf =>
    have hl := pf.length_eq
    have hRl := hR.length_eq
    rw [upTo_len] at hRl
    rw [List.length_append, List.length_mapIdx, List.length_map] at hl
    refine ⟨by rw [List.length_map]; omega, by rw [List.length_map]; omega, fun n hn => ?_⟩
    obtain ⟨x, hx, rfl⟩ := List.mem_map.mp hn
    rcases List.mem_append.mp (pf.mem_iff.mp hx) with h | h
    · obtain ⟨i, hi⟩ := List.getElem?_of_mem h
      rw [List.getElem?_mapIdx] at hi
      obtain ⟨r, _, rfl⟩ := Option.map_eq_some_iff.mp hi
      exact ⟨by show (0 : Int) ≤ 1; decide, by show (1 : Int) ≤ 100; decide⟩
    · obtain ⟨t, _, rfl⟩ := List.mem_map.mp h
      exact ⟨by show (0 : Int) ≤ 0; decide, by show (0 : Int) ≤ 100; decide⟩
  | @deal h w dealt rooms hh hw hwl dl db rl rb =>
    have hfl : ∀ i : Nat, ((List.range i).flatMap fun (i : Nat) => dealt.map fun d => if d = (i : Int) then (1 : Int) else 0).length = i * w := by
      intro i
      induction i with
      | zero => simp
      | succ i ih => rw [List.range_succ, List.flatMap_append, List.length_append, ih, List.flatMap_singleton, List.length_map, dl, Nat.succ_mul]
    refine ⟨by rw [hfl]; exact Nat.mul_pos hh.1 hw, by rw [hfl]; omega, fun n hn => ?_⟩
    obtain ⟨i, _, hi⟩ := List.mem_flatMap.mp hn
    obtain ⟨d, _, rfl⟩ := List.mem_map.mp hi
    split <;> decide
  | @stream m T F rooms cs hm sp mo rl rb cl cb =>
    have h1 := sp.1
    have h2 := mo.len
    rw [List.length_take] at h2
    refine ⟨by omega, by omega, fun n hn => ?_⟩
    obtain ⟨i, hi⟩ := List.getElem?_of_mem hn
    have hl : i < rooms.length := by have := (List.getElem?_eq_some_iff.mp hi).1; omega
    have h3 := cb i n _ hi (List.getElem?_eq_getElem hl)
    have h4 := rb _ (List.getElem_mem hl)
    omega
  | @bench lasts order h1 lb ho =>
    refine ⟨by rw [dones_len, List.length_replicate]; omega, by rw [dones_len, List.length_replicate]; omega, ?_⟩
    have hol := ho.length_eq
    rw [upTo_len] at hol
    exact dones_bd lb order 0 _ 100 (by decide) (by omega) fun n hn => by
      rw [List.eq_of_mem_replicate hn]
      decide
end NB
set_option Elab.async false
set_option linter.all false
/-! Fractions, more: sums in lowest terms by cross products. -/
namespace Fr
theorem mul_cancel {a b c : Int} (h : c ≠ 0) (e : a * c = b * c) : a = b := Int.eq_of_mul_eq_mul_right h e
end Fr
set_option Elab.async false
set_option linter.all false
set_option maxRecDepth 100000
set_option maxHeartbeats 2000000
set_option exponentiation.threshold 20000
/-! What plans cost. -/
namespace NB
open PySem PySem.Spec L2 DL Fr
mutual
theorem eqD_self : ∀ d : D, eqD d d = true
  | .non => rfl
  | .bl b => by cases b <;> rfl
  | .int i => by rw [eqD_int]; simp
  | .str x => by rw [eqD_str]; simp
  | .lst xs => by rw [eqD_lst]; exact eqDs_self xs
  | .tup xs => by rw [eqD_tup]; exact eqDs_self xs
  | .scr _ => rfl
  | .raw _ => rfl
  | .emp => rfl
  | .key _ => rfl
theorem eqDs_self : ∀ xs : List D, eqDs xs xs = true
  | [] => rfl
  | x :: xs => by rw [eqDs_cons, eqD_self x, eqDs_self xs]; rfl
end
theorem okN_lst {n : Nat} {xs : List D} (h : ∀ d ∈ xs, okN n d = true) : okN (n + 1) (.lst xs) = true := by
  unfold okN
  exact List.all_eq_true.mpr h
theorem okN_int {n : Nat} {i : Int} : okN n (.int i) = true := by cases n <;> rfl
theorem okN_fr {f : Int × Int} {n : Nat} : okN (n + 1) (fr f) = true := by
  show (List.all [D.int f.1, D.int f.2] (okN n)) = true
  rw [List.all_cons, List.all_cons, okN_int, okN_int]
  rfl
theorem okN_frs {fs : List (Int × Int)} {n : Nat} : okN (n + 2) (.lst (fs.map fr)) = true := okN_lst fun d hd => by
  obtain ⟨f, _, rfl⟩ := List.mem_map.mp hd
  exact okN_fr
theorem eqD_fr {f g : Int × Int} : eqD (fr f) (fr g) = decide (f = g) := by
  unfold fr
  rw [eqD_tup, eqDs_cons, eqDs_cons, eqDs_nil, eqD_int, eqD_int, Bool.and_true]
  by_cases h : f = g
  · subst h; simp
  · rw [decide_eq_false h]
    cases f; cases g
    simp at h ⊢
    exact h
end NB
set_option Elab.async false
set_option linter.all false
set_option maxRecDepth 100000
set_option maxHeartbeats 2000000
set_option exponentiation.threshold 20000
/-! Shapes: what is one, by plain functions over data. -/
namespace NB
open PySem PySem.Spec L2 DL Fr
def plainD : D → Bool
  | .raw _ => false
  | .scr _ => false
  | .key _ => false
  | _ => true
theorem okN_items {n : Nat} {xs : List D} (h : okN (n + 1) (.tup xs) = true) : ∀ x ∈ xs, okN n x = true := List.all_eq_true.mp h
theorem okN_mono : ∀ {n m : Nat} {d : D}, okN n d = true → n ≤ m → okN m d = true
  | n, m, .non, _, _ => by cases m <;> rfl
  | n, m, .bl _, _, _ => by cases m <;> rfl
  | n, m, .int _, _, _ => by cases m <;> rfl
  | n, m, .str x, h, _ => by cases n <;> cases m <;> exact h
  | 0, m, .lst xs, h, _ => by simp [okN] at h
  | 0, m, .tup xs, h, _ => by simp [okN] at h
  | n + 1, 0, .lst xs, h, l => absurd l (by omega)
  | n + 1, 0, .tup xs, h, l => absurd l (by omega)
  | n + 1, m + 1, .lst xs, h, l => by
    unfold okN at h ⊢
    exact List.all_eq_true.mpr fun x hx => okN_mono (List.all_eq_true.mp h x hx) (by omega)
  | n + 1, m + 1, .tup xs, h, l => by
    unfold okN at h ⊢
    exact List.all_eq_true.mpr fun x hx => okN_mono (List.all_eq_true.mp h x hx) (by omega)
  | n, m, .scr _, h, _ => by cases n <;> simp [okN] at h
  | n, m, .key _, h, _ => by cases n <;> simp [okN] at h
  | n, m, .raw _, h, _ => by cases n <;> simp [okN] at h
  | n, m, .emp, h, _ => by cases n <;> simp [okN] at h
def wholeB : D → Bool
  | .int _ => true
  | _ => false
def withinB (lo hi : Int) : D → Bool
  | .int i => decide (lo ≤ i) && decide (i ≤ hi)
  | _ => false
def areWithinB (m lo hi : Int) : D → Bool
  | .tup xs => decide ((xs.length : Int) = m) && xs.all (withinB lo hi)
  | _ => false
def c_is_whole : Ct := fun ds μ Q _ => ∃ d, ds = [d] ∧ plainD d = true ∧ Q (.bl (wholeB d)) μ
def sameB : D → Bool
  | .tup [a, b] => eqD a b
  | _ => false
def tieB (many : Int) (unlike : Bool) (t : D) : Bool := areWithinB 2 0 (many - 1) t && !(unlike && sameB t)
def areTiesB (many : Int) (unlike : Bool) : D → Bool
  | .tup xs => (decide ((1 : Int) ≤ xs.length) && decide ((xs.length : Int) ≤ 16)) && xs.all (tieB many unlike)
  | _ => false
def t_is_whole : DTS :=
  (dRet (dAndV (dCB (gIsiC "int") (dCons (dVar 0) (dCons (dC (.raw (.ty "int"))) dNil))) (dNotV (dCB (gIsiC "bool") (dCons (dVar 0) (dCons (dC (.raw (.ty "bool"))) dNil))))))
theorem hb_is_whole : HB c_is_whole t_is_whole 1 := by
  intro ds μ Q X h
  obtain ⟨d, rfl, hp, q⟩ := h
  show t_is_whole (ends Q XF) [some d] μ
  cases d with
  | raw _ => cases hp
  | scr _ => cases hp
  | key _ => cases hp
  | _ =>
    simp! only [t_is_whole]
    exact .of q
/-- a comprehension that picks -/
theorem comp_filter {xs : List D} {p : D → Bool} {ok : M → Prop} {f : TGD} {tt : DTT} {te : DTE} {Q : List D → M → Prop} {δ : Sl} {μ : M} (ho : ok μ) (hl : xs.length < sizeLine)
    (st : ∀ x ∈ xs, ∀ (acc : List D) (R : List D → M → Prop), acc.length < sizeLine → (p x = true → R (acc ++ [x]) μ) → (p x = false → R acc μ) → turnC (f μ x) tt te acc R δ μ) (q : Q (xs.filter p) μ) : compJ ok f tt te Q δ xs μ := by
  refine ⟨fun i acc μ' => μ' = μ ∧ acc = (xs.take i).filter p, ⟨rfl, by simp⟩, ?_⟩
  rintro i acc μ' ⟨rfl, rfl⟩
  refine ⟨ho, fun d hd => ?_, fun hi => ?_⟩
  · refine st d (List.mem_of_getElem? hd) _ _ ?_ (fun h => ⟨rfl, ?_⟩) (fun h => ⟨rfl, ?_⟩)
    · refine Nat.lt_of_le_of_lt (List.length_filter_le _ _) ?_
      rw [List.length_take]
      exact Nat.lt_of_le_of_lt (Nat.min_le_right _ _) hl
    · rw [take_succ hd, List.filter_append, List.filter_cons_of_pos h, List.filter_nil]
    · rw [take_succ hd, List.filter_append, List.filter_cons_of_neg (by rw [h]; decide), List.filter_nil, List.append_nil]
  · rw [hi, List.take_length]
    exact q
def itm (xs : List D) (i : Nat) : D := xs.getD i .non
def numOf : D → Int
  | .int i => i
  | _ => 0
def webB (n : Int) (xs : List D) : Bool := decide ((xs.length : Int) = n) && (withinB 2 10 (itm xs 1) && areTiesB (numOf (itm xs 1)) true (itm xs 2))
def wayB (xs : List D) : Bool := webB 5 xs && (areWithinB 2 0 (numOf (itm xs 1) - 1) (.tup (xs.drop 3)) && !eqD (itm xs 3) (itm xs 4))
end NB
set_option Elab.async false
set_option linter.all false
set_option maxRecDepth 100000
set_option maxHeartbeats 2000000
set_option exponentiation.threshold 20000
/-! Shapes: the whole test. -/
namespace NB
open PySem PySem.Spec L2 DL Fr
theorem len2 {xs : List D} (h : (xs.length : Int) = 2) : ∃ a b, xs = [a, b] := by
  match xs, h with
  | [a, b], _ => exact ⟨a, b, rfl⟩
  | [], h => exact absurd h (by decide)
  | [_], h => simp at h
  | _ :: _ :: _ :: _, h => simp at h; omega
def pairB : List D → Bool
  | [_, .int m, t] => withinB 1 6 (.int m) && areTiesB m false t
  | _ => false
def dealB : List D → Bool
  | [_, .tup rs, .int w] => (decide ((1 : Int) ≤ rs.length) && decide ((rs.length : Int) ≤ 4)) && (areWithinB rs.length 0 6 (.tup rs) && (withinB 1 6 (.int w) && decide ((rs.length : Int) * w ≤ 16)))
  | _ => false
def sumOf : D → Int
  | .tup xs => (xs.map numOf).sum
  | _ => 0
def streamB : List D → Bool
  | [w, .int m, .tup ts, r, n] => webB 5 [w, .int m, .tup ts, r, n] && (areWithinB ts.length 1 9 r && (areWithinB m (-9) 9 n && decide (sumOf n = 0)))
  | _ => false
def benchB : List D → Bool
  | [_, .tup ls] => (decide ((1 : Int) ≤ ls.length) && decide ((ls.length : Int) ≤ 8)) && areWithinB ls.length 1 9 (.tup ls)
  | _ => false
def restB : D → List D → Bool
  | .str w, xs => if w = PySem.Str.ofString "pair" then pairB xs else if w = PySem.Str.ofString "deal" then dealB xs else if w = PySem.Str.ofString "bench" then benchB xs else false
  | _, _ => false
def kindB : D → List D → Bool
  | .str w, xs => if w = PySem.Str.ofString "way" then wayB xs else if w = PySem.Str.ofString "tree" then webB 3 xs else if w = PySem.Str.ofString "stream" then streamB xs else restB (.str w) xs
  | _, _ => false
/-- what is a shape -/
def shapeB : D → Bool
  | .tup (w :: xs) => kindB w (w :: xs)
  | _ => false
/-- a shape's parts as far as items_of reads them -/
def ShapeI (d : D) (n : Int) : Prop :=
  (∃ w m ts r, d = .tup (.str w :: m :: .tup ts :: r) ∧ (w = PySem.Str.ofString "way" ∨ w = PySem.Str.ofString "tree" ∨ w = PySem.Str.ofString "pair" ∨ w = PySem.Str.ofString "stream") ∧ n = ts.length) ∨
  (∃ rs v, d = .tup [.str (PySem.Str.ofString "deal"), .tup rs, .int v] ∧ 0 ≤ v ∧ v ≤ 1000 ∧ rs.length ≤ 1000 ∧ n = rs.length * v) ∨
  (∃ ls, d = .tup [.str (PySem.Str.ofString "bench"), .tup ls] ∧ n = ls.length)
end NB
set_option Elab.async false
set_option linter.all false
set_option maxRecDepth 100000
set_option maxHeartbeats 2000000
set_option exponentiation.threshold 20000
/-! Drawn wishes are shapes. -/
namespace NB
open PySem PySem.Spec L2 DL Fr
/-- things whose tuples and lists are of at most L items -/
def smL (L : Nat) : Nat → D → Bool
  | _, .non => true
  | _, .bl _ => true
  | _, .int _ => true
  | _, .str x => PyData.strOk x
  | n + 1, .lst xs => decide (xs.length ≤ L) && xs.all (smL L n)
  | n + 1, .tup xs => decide (xs.length ≤ L) && xs.all (smL L n)
  | _, _ => false
theorem smL_tup {L n : Nat} {xs : List D} (h1 : xs.length ≤ L) (h2 : ∀ x ∈ xs, smL L n x = true) : smL L (n + 1) (.tup xs) = true := by
  unfold smL
  rw [Bool.and_eq_true]
  exact ⟨decide_eq_true h1, List.all_eq_true.mpr h2⟩
theorem smL_int {L n : Nat} {i : Int} : smL L n (.int i) = true := by cases n <;> rfl
theorem smL_fr {L n : Nat} {f : Int × Int} (h : 2 ≤ L) : smL L (n + 1) (fr f) = true := smL_tup h fun x hx => by
  simp only [List.mem_cons, List.not_mem_nil, or_false] at hx
  rcases hx with rfl | rfl <;> exact smL_int
theorem smL_ints {L n : Nat} {ns : List Int} (h : ns.length ≤ L) : smL L (n + 1) (.tup (ns.map D.int)) = true := smL_tup (by rw [List.length_map]; exact h) fun x hx => by
  obtain ⟨i, _, rfl⟩ := List.mem_map.mp hx
  exact smL_int
theorem smL_ties {L n : Nat} {F : List ((Int × Int) × Int)} (h : F.length ≤ L) (h2 : 2 ≤ L) : smL L (n + 2) (tiesD F) = true := smL_tup (by rw [List.length_map]; exact h) fun x hx => by
  obtain ⟨i, _, rfl⟩ := List.mem_map.mp hx
  exact smL_fr h2
/-- no truths in it -/
def noB : Nat → D → Bool
  | _, .bl _ => false
  | n + 1, .tup xs => xs.all (noB n)
  | _, .int _ => true
  | _, .str _ => true
  | _, _ => false
theorem noB_int {n : Nat} {i : Int} : noB n (.int i) = true := by cases n <;> rfl
theorem noB_str {n : Nat} {i : Str} : noB n (.str i) = true := by cases n <;> rfl
theorem noB_ints {n : Nat} {ns : List Int} : noB (n + 1) (.tup (ns.map D.int)) = true := by
  unfold noB
  refine List.all_eq_true.mpr fun x hx => ?_
  obtain ⟨i, _, rfl⟩ := List.mem_map.mp hx
  exact noB_int
theorem noB_ties {n : Nat} {F : List ((Int × Int) × Int)} : noB (n + 2) (tiesD F) = true := by
  unfold tiesD noB
  refine List.all_eq_true.mpr fun x hx => ?_
  obtain ⟨i, _, rfl⟩ := List.mem_map.mp hx
  show noB (n + 1) (.tup [.int i.1.1, .int i.1.2]) = true
  unfold noB
  rw [List.all_cons, List.all_cons, noB_int, noB_int]
  rfl
/-! ### ties -/
theorem par_tie {m : Int} {T : List (Int × Int)} (h : Span m T) : ∀ t ∈ T, Tie m t := fun t ht => by
  obtain ⟨i, hi⟩ := List.getElem?_of_mem ht
  have hp := h.2 i t hi
  have hl := (List.getElem?_eq_some_iff.mp hi).1
  have := h.1
  unfold Par at hp
  unfold Tie
  omega
theorem more_ties {m l : Int} {T : List (Int × Int)} {F : List ((Int × Int) × Int)} (ht : ∀ t ∈ T, Tie m t) (h : More m l T F) : ∀ x ∈ F, Tie m x.1 := fun x hx => by
  obtain ⟨E, _, h2, h3⟩ := h
  rcases List.mem_append.mp (h3.mem_iff.mp hx) with h | h
  · obtain ⟨t, k, rfl⟩ := List.mem_map.mp h
    exact ht t k
  · obtain ⟨t, k, rfl⟩ := List.mem_map.mp h
    exact h2 t k
theorem tieB_of {m : Int} {u : Bool} {t : Int × Int} (h0 : 0 ≤ t.1 ∧ t.1 < m ∧ 0 ≤ t.2 ∧ t.2 < m) (h1 : u = true → t.1 ≠ t.2) : tieB m u (fr t) = true := by
  have e1 : areWithinB 2 0 (m - 1) (fr t) = true := by
    show (decide ((([D.int t.1, D.int t.2] : List D).length : Int) = 2) && ([D.int t.1, D.int t.2] : List D).all (withinB 0 (m - 1))) = true
    rw [List.all_cons, List.all_cons, List.all_nil, withinB, withinB, decide_eq_true h0.1, decide_eq_true (show t.1 ≤ m - 1 by omega), decide_eq_true h0.2.2.1, decide_eq_true (show t.2 ≤ m - 1 by omega)]
    rfl
  unfold tieB
  rw [e1, Bool.true_and]
  cases u with
  | false => rfl
  | true =>
    have : sameB (fr t) = false := by
      show eqD (.int t.1) (.int t.2) = false
      rw [eqD_int]
      exact decide_eq_false (h1 rfl)
    rw [this]
    rfl
theorem areTiesB_of {m : Int} {u : Bool} {F : List ((Int × Int) × Int)} (h1 : 1 ≤ F.length) (h2 : F.length ≤ 16) (h : ∀ x ∈ F, (0 ≤ x.1.1 ∧ x.1.1 < m ∧ 0 ≤ x.1.2 ∧ x.1.2 < m) ∧ (u = true → x.1.1 ≠ x.1.2)) : areTiesB m u (tiesD F) = true := by
  unfold tiesD areTiesB
  dsimp only
  rw [List.length_map, decide_eq_true (show (1 : Int) ≤ F.length by omega), decide_eq_true (show (F.length : Int) ≤ 16 by omega), Bool.true_and, Bool.true_and]
  refine List.all_eq_true.mpr fun d hd => ?_
  obtain ⟨x, hx, rfl⟩ := List.mem_map.mp hd
  exact tieB_of (h x hx).1 (h x hx).2
theorem within_of {lo hi i : Int} (h1 : lo ≤ i) (h2 : i ≤ hi) : withinB lo hi (.int i) = true := by
  rw [withinB, decide_eq_true h1, decide_eq_true h2]
  rfl
theorem areWithin_of {m lo hi : Int} {ns : List Int} (h : (ns.length : Int) = m) (h2 : ∀ n ∈ ns, lo ≤ n ∧ n ≤ hi) : areWithinB m lo hi (.tup (ns.map D.int)) = true := by
  rw [areWithinB, List.length_map, decide_eq_true h, Bool.true_and]
  refine List.all_eq_true.mpr fun d hd => ?_
  obtain ⟨x, hx, rfl⟩ := List.mem_map.mp hd
  exact within_of (h2 x hx).1 (h2 x hx).2
/-! ### flows -/
theorem sum_set : ∀ {ns : List Int} {i : Nat} {v : Int}, i < ns.length → (ns.set i v).sum = ns.sum - ns.getD i 0 + v
  | [], i, v, h => by simp at h
  | n :: ns, 0, v, _ => by simp; omega
  | n :: ns, i + 1, v, h => by
    rw [List.set_cons_succ, List.sum_cons, List.sum_cons, sum_set (by simpa using h)]
    simp only [List.getD_cons_succ]
    omega
theorem fl_sum {ns : List Int} {x : (Int × Int) × Int} (h1 : 0 ≤ x.1.1 ∧ x.1.1 < ns.length) (h2 : 0 ≤ x.1.2 ∧ x.1.2 < ns.length) : (fl ns x).sum = ns.sum := by
  unfold fl
  have k1 : x.1.1.toNat < ns.length := by omega
  have k2 : x.1.2.toNat < ns.length := by omega
  rw [sum_set (by rw [List.length_set]; exact k2), sum_set k1]
  omega
theorem getD_mem {ns : List Int} {i : Nat} (h : i < ns.length) : ns.getD i 0 ∈ ns := by
  rw [List.getD_eq_getElem?_getD, List.getElem?_eq_getElem h]
  exact List.getElem_mem h
theorem fl_bd {ns : List Int} {x : (Int × Int) × Int} {b : Int} (h1 : 0 ≤ x.1.1 ∧ x.1.1 < ns.length) (h2 : 0 ≤ x.1.2 ∧ x.1.2 < ns.length) (hne : x.1.1 ≠ x.1.2) (hc : 0 ≤ x.2 ∧ x.2 ≤ 2) (hb : ∀ n ∈ ns, -b ≤ n ∧ n ≤ b) : ∀ n ∈ fl ns x, -(b + 2) ≤ n ∧ n ≤ b + 2 := fun n hn => by
  have k1 : x.1.1.toNat < ns.length := by omega
  have k2 : x.1.2.toNat < ns.length := by omega
  have b1 := hb _ (getD_mem k1)
  have b2 := hb _ (getD_mem k2)
  unfold fl at hn
  have e : (ns.set x.1.1.toNat (ns.getD x.1.1.toNat 0 + x.2)).getD x.1.2.toNat 0 = ns.getD x.1.2.toNat 0 := by
    rw [List.getD_eq_getElem?_getD, List.getElem?_set_ne (by omega), ← List.getD_eq_getElem?_getD]
  rw [e] at hn
  rcases List.mem_or_eq_of_mem_set hn with h | h
  · rcases List.mem_or_eq_of_mem_set h with h | h
    · have := hb n h
      omega
    · omega
  · omega
theorem flow_facts : ∀ (zs : List ((Int × Int) × Int)) (ns : List Int) (b : Int), (∀ x ∈ zs, Tie ns.length x.1 ∧ 0 ≤ x.2 ∧ x.2 ≤ 2) → (∀ n ∈ ns, -b ≤ n ∧ n ≤ b) →
    (zs.foldl fl ns).length = ns.length ∧ (zs.foldl fl ns).sum = ns.sum ∧ ∀ n ∈ zs.foldl fl ns, -(b + 2 * zs.length) ≤ n ∧ n ≤ b + 2 * zs.length
  | [], ns, b, _, hb => ⟨rfl, rfl, fun n hn => by have := hb n hn; simp; omega⟩
  | x :: zs, ns, b, h, hb => by
    have hx := h x List.mem_cons_self
    unfold Tie at hx
    have i1 := fl_bd (b := b) ⟨hx.1.1, hx.1.2.1⟩ ⟨hx.1.2.2.1, hx.1.2.2.2.1⟩ hx.1.2.2.2.2 hx.2 hb
    have i2 := flow_facts zs (fl ns x) (b + 2) (fun y hy => by rw [fl_len]; exact h y (List.mem_cons_of_mem _ hy)) i1
    refine ⟨by rw [List.foldl_cons, i2.1, fl_len], by rw [List.foldl_cons, i2.2.1, fl_sum ⟨hx.1.1, hx.1.2.1⟩ ⟨hx.1.2.2.1, hx.1.2.2.2.1⟩], fun n hn => ?_⟩
    have := i2.2.2 n hn
    rw [List.length_cons]
    omega
theorem flow_ok {m : Int} {F : List ((Int × Int) × Int)} {rooms cs : List Int} (hm : 2 ≤ m) (ht : ∀ x ∈ F, Tie m x.1) (hl : F.length ≤ 4) (rl : rooms.length = F.length) (rb : ∀ r ∈ rooms, 1 ≤ r ∧ r ≤ 2) (cl : cs.length = F.length)
    (cb : ∀ (i : Nat) (c r : Int), cs[i]? = some c → rooms[i]? = some r → 0 ≤ c ∧ c ≤ r) :
    ((flow m.toNat (F.map (·.1)) cs).length : Int) = m ∧ (flow m.toNat (F.map (·.1)) cs).sum = 0 ∧ ∀ n ∈ flow m.toNat (F.map (·.1)) cs, -9 ≤ n ∧ n ≤ 9 := by
  unfold flow
  have hz : ∀ x ∈ (F.map (·.1)).zip cs, Tie (List.replicate m.toNat (0 : Int)).length x.1 ∧ 0 ≤ x.2 ∧ x.2 ≤ 2 := fun x hx => by
    rw [List.length_replicate]
    obtain ⟨i, hi⟩ := List.getElem?_of_mem hx
    obtain ⟨t, c⟩ := x
    rw [List.getElem?_zip_eq_some, List.getElem?_map] at hi
    obtain ⟨h1, h2⟩ := hi
    dsimp only at h1 h2
    obtain ⟨y, hy, rfl⟩ := Option.map_eq_some_iff.mp h1
    have a := ht y (List.mem_of_getElem? hy)
    have hlt : i < rooms.length := by rw [rl]; exact (List.getElem?_eq_some_iff.mp hy).1
    have b := cb i c _ h2 (List.getElem?_eq_getElem hlt)
    have d := rb _ (List.getElem_mem hlt)
    have e : ((m.toNat : Nat) : Int) = m := by omega
    rw [e]
    exact ⟨a, b.1, Int.le_trans b.2 d.2⟩
  obtain ⟨a, b, c⟩ := flow_facts ((F.map (·.1)).zip cs) (List.replicate m.toNat 0) 0 hz (fun n hn => by rw [List.eq_of_mem_replicate hn]; decide)
  refine ⟨by rw [a, List.length_replicate]; omega, by rw [b]; simp, fun n hn => ?_⟩
  have := c n hn
  have l : ((F.map (·.1)).zip cs).length ≤ 4 := by rw [List.length_zip, List.length_map]; omega
  omega
/-! ### a drawn wish -/
structure WishFacts (s : D) (n : Nat) : Prop where
  shape : shapeB s = true
  items : ShapeI s n
  small : smL 16 3 s = true
  nob : noB 3 s = true
  tup : ∃ w xs, s = .tup (.str w :: xs)
theorem smL_five {a b c d e : D} (h1 : smL 16 2 a = true) (h2 : smL 16 2 b = true) (h3 : smL 16 2 c = true) (h4 : smL 16 2 d = true) (h5 : smL 16 2 e = true) : smL 16 3 (.tup [a, b, c, d, e]) = true := smL_tup (by simp) fun x hx => by
  simp only [List.mem_cons, List.not_mem_nil, or_false] at hx
  rcases hx with rfl | rfl | rfl | rfl | rfl <;> assumption
theorem smL_three {a b c : D} (h1 : smL 16 2 a = true) (h2 : smL 16 2 b = true) (h3 : smL 16 2 c = true) : smL 16 3 (.tup [a, b, c]) = true := smL_tup (by simp) fun x hx => by
  simp only [List.mem_cons, List.not_mem_nil, or_false] at hx
  rcases hx with rfl | rfl | rfl <;> assumption
theorem smL_two {a b : D} (h1 : smL 16 2 a = true) (h2 : smL 16 2 b = true) : smL 16 3 (.tup [a, b]) = true := smL_tup (by simp) fun x hx => by
  simp only [List.mem_cons, List.not_mem_nil, or_false] at hx
  rcases hx with rfl | rfl <;> assumption
theorem noB_five {a b c d e : D} (h1 : noB 2 a = true) (h2 : noB 2 b = true) (h3 : noB 2 c = true) (h4 : noB 2 d = true) (h5 : noB 2 e = true) : noB 3 (.tup [a, b, c, d, e]) = true := by
  show ([a, b, c, d, e] : List D).all (noB 2) = true
  rw [List.all_cons, List.all_cons, List.all_cons, List.all_cons, List.all_cons, h1, h2, h3, h4, h5]
  rfl
theorem noB_three {a b c : D} (h1 : noB 2 a = true) (h2 : noB 2 b = true) (h3 : noB 2 c = true) : noB 3 (.tup [a, b, c]) = true := by
  show ([a, b, c] : List D).all (noB 2) = true
  rw [List.all_cons, List.all_cons, List.all_cons, h1, h2, h3]
  rfl
theorem noB_two {a b : D} (h1 : noB 2 a = true) (h2 : noB 2 b = true) : noB 3 (.tup [a, b]) = true := by
  show ([a, b] : List D).all (noB 2) = true
  rw [List.all_cons, List.all_cons, h1, h2]
  rfl
theorem Wish.facts {s : D} {ns : List Int} (h : Wish s ns) : WishFacts s ns.length := by
  cases h with
  | tree hm sp mo =>
    rename_i m T F
    have h1 := sp.1
    have h2 := mo.len
    have ht := more_ties (par_tie sp) mo
    refine ⟨?_, .inl ⟨_, _, F.map (fun x => fr x.1), [], rfl, .inr (.inl rfl), by rw [List.length_map, List.length_map]⟩, smL_three (by decide +kernel) smL_int (smL_ties (by omega) (by decide)), noB_three noB_str noB_int noB_ties, _, _, rfl⟩
    show webB 3 [.str (PySem.Str.ofString "tree"), .int m, tiesD F] = true
    unfold webB
    rw [show itm [.str (PySem.Str.ofString "tree"), .int m, tiesD F] 1 = .int m from rfl, show itm [.str (PySem.Str.ofString "tree"), .int m, tiesD F] 2 = tiesD F from rfl, within_of (by omega) (by omega),
      areTiesB_of (by omega) (by omega) fun x hx => by have := ht x hx; unfold Tie at this; exact ⟨⟨this.1, this.2.1, this.2.2.1, this.2.2.2.1⟩, fun _ => this.2.2.2.2⟩]
    rfl
  | way hm sp mo hb he ne tr =>
    rename_i m b e T F is
    have h1 := sp.1
    have h2 := mo.len
    have ht := more_ties (par_tie sp) mo
    refine ⟨?_, .inl ⟨_, _, F.map (fun x => fr x.1), _, rfl, .inl rfl, by rw [ind_len, List.length_map]⟩, smL_five (by decide +kernel) smL_int (smL_ties (by omega) (by decide)) smL_int smL_int, noB_five noB_str noB_int noB_ties noB_int noB_int, _, _, rfl⟩
    show wayB [.str (PySem.Str.ofString "way"), .int m, tiesD F, .int b, .int e] = true
    have hw : webB 5 [.str (PySem.Str.ofString "way"), .int m, tiesD F, .int b, .int e] = true := by
      unfold webB
      rw [show itm [.str (PySem.Str.ofString "way"), .int m, tiesD F, .int b, .int e] 1 = .int m from rfl, show itm [.str (PySem.Str.ofString "way"), .int m, tiesD F, .int b, .int e] 2 = tiesD F from rfl, within_of (by omega) (by omega),
        areTiesB_of (by omega) (by omega) fun x hx => by have := ht x hx; unfold Tie at this; exact ⟨⟨this.1, this.2.1, this.2.2.1, this.2.2.2.1⟩, fun _ => this.2.2.2.2⟩]
      rfl
    unfold wayB
    rw [hw, Bool.true_and]
    have e1 : areWithinB 2 0 (m - 1) (.tup ([b, e].map D.int)) = true := areWithin_of rfl fun n hn => by
      simp only [List.mem_cons, List.not_mem_nil, or_false] at hn
      rcases hn with rfl | rfl <;> omega
    have e2 : areWithinB 2 0 (numOf (itm [.str (PySem.Str.ofString "way"), .int m, tiesD F, .int b, .int e] 1) - 1) (.tup (List.drop 3 [.str (PySem.Str.ofString "way"), .int m, tiesD F, .int b, .int e])) = true := e1
    rw [e2, Bool.true_and]
    show (!eqD (.int b) (.int e)) = true
    rw [eqD_int, decide_eq_false ne]
    rfl
  | pair hm hR hE ok pf =>
    rename_i m R E F
    have hl : F.length = m.toNat + E.length := by
      rw [pf.length_eq, List.length_append, List.length_mapIdx, List.length_map, hR.length_eq, upTo_len]
    have hRm : ∀ r ∈ R, 0 ≤ r ∧ r < m := fun r hr => by
      have := hR.mem_iff.mp hr
      unfold upTo at this
      obtain ⟨i, hi, rfl⟩ := List.mem_map.mp this
      have := List.mem_range.mp hi
      show (0 : Int) ≤ (i : Int) ∧ (i : Int) < m
      omega
    have hRl : R.length = m.toNat := by rw [hR.length_eq, upTo_len]
    refine ⟨?_, .inl ⟨_, _, F.map (fun x => fr x.1), [], rfl, .inr (.inr (.inl rfl)), by rw [List.length_map, List.length_map]⟩, smL_three (by decide +kernel) smL_int (smL_ties (by omega) (by decide)), noB_three noB_str noB_int noB_ties, _, _, rfl⟩
    show pairB [.str (PySem.Str.ofString "pair"), .int m, tiesD F] = true
    unfold pairB
    dsimp only
    rw [within_of (by omega) (by omega), areTiesB_of (by omega) (by omega) fun x hx => ?_]
    · rfl
    · refine ⟨?_, fun z => by cases z⟩
      rcases List.mem_append.mp (pf.mem_iff.mp hx) with h | h
      · obtain ⟨i, hi⟩ := List.getElem?_of_mem h
        rw [List.getElem?_mapIdx] at hi
        obtain ⟨r, hr, rfl⟩ := Option.map_eq_some_iff.mp hi
        have a := hRm r (List.mem_of_getElem? hr)
        have b := (List.getElem?_eq_some_iff.mp hr).1
        show 0 ≤ (i : Int) ∧ (i : Int) < m ∧ 0 ≤ r ∧ r < m
        omega
      · obtain ⟨t, k, rfl⟩ := List.mem_map.mp h
        exact ok t k
  | deal hh hw hwl dl db rl rb =>
    rename_i h w dealt rooms
    have hw6 : w ≤ 6 := Nat.le_trans (Nat.le_mul_of_pos_left w (by omega)) hwl
    have hrb : ∀ r ∈ rooms, 0 ≤ r ∧ r ≤ 6 := fun r hr => by
      obtain ⟨i, hi⟩ := List.getElem?_of_mem hr
      have := rb i r hi
      omega
    have hlen : ((List.range h).flatMap fun (i : Nat) => dealt.map fun d => if d = (i : Int) then (1 : Int) else 0).length = h * w := by
      have : ∀ k : Nat, ((List.range k).flatMap fun (i : Nat) => dealt.map fun d => if d = (i : Int) then (1 : Int) else 0).length = k * w := by
        intro k
        induction k with
        | zero => simp
        | succ k ih => rw [List.range_succ, List.flatMap_append, List.length_append, ih, List.flatMap_singleton, List.length_map, dl, Nat.succ_mul]
      exact this h
    refine ⟨?_, .inr (.inl ⟨rooms.map D.int, w, rfl, by omega, by omega, by rw [List.length_map]; omega, by rw [hlen, List.length_map, rl]; exact Int.natCast_mul h w⟩), smL_three (by decide +kernel) (smL_ints (by omega)) smL_int, noB_three noB_str noB_ints noB_int, _, _, rfl⟩
    show dealB [.str (PySem.Str.ofString "deal"), .tup (rooms.map D.int), .int w] = true
    unfold dealB
    dsimp only
    have e : ((h * w : Nat) : Int) = (h : Int) * w := Int.natCast_mul h w
    rw [areWithin_of (by rw [List.length_map]) hrb, within_of (by omega) (by omega), List.length_map, rl, decide_eq_true (show (1 : Int) ≤ h by omega), decide_eq_true (show (h : Int) ≤ 4 by omega), decide_eq_true (show (h : Int) * w ≤ 16 by omega)]
    rfl
  | stream hm sp mo rl rb cl cb =>
    rename_i m T F rooms
    have h1 := sp.1
    have h2 := mo.len
    rw [List.length_take] at h2
    have ht := more_ties (fun t ht => par_tie sp t (List.mem_of_mem_take ht)) mo
    obtain ⟨f1, f2, f3⟩ := flow_ok (by omega) ht (by omega) rl rb cl cb
    refine ⟨?_, .inl ⟨_, _, F.map (fun x => fr x.1), _, rfl, .inr (.inr (.inr rfl)), by rw [cl, List.length_map]⟩, smL_five (by decide +kernel) smL_int (smL_ties (by omega) (by decide)) (smL_ints (by omega)) (smL_ints (by omega)), noB_five noB_str noB_int noB_ties noB_ints noB_ints, _, _, rfl⟩
    generalize flow m.toNat (F.map (·.1)) ns = needs at *
    show streamB [.str (PySem.Str.ofString "stream"), .int m, .tup (F.map fun x => fr x.1), .tup (rooms.map D.int), .tup (needs.map D.int)] = true
    have hw : webB 5 [.str (PySem.Str.ofString "stream"), .int m, .tup (F.map fun x => fr x.1), .tup (rooms.map D.int), .tup (needs.map D.int)] = true := by
      unfold webB
      rw [show itm [.str (PySem.Str.ofString "stream"), .int m, .tup (F.map fun x => fr x.1), .tup (rooms.map D.int), .tup (needs.map D.int)] 1 = .int m from rfl, show itm [.str (PySem.Str.ofString "stream"), .int m, .tup (F.map fun x => fr x.1), .tup (rooms.map D.int), .tup (needs.map D.int)] 2 = tiesD F from rfl, within_of (by omega) (by omega),
        areTiesB_of (by omega) (by omega) fun x hx => by have := ht x hx; unfold Tie at this; exact ⟨⟨this.1, this.2.1, this.2.2.1, this.2.2.2.1⟩, fun _ => this.2.2.2.2⟩]
      rfl
    unfold streamB
    dsimp only
    have e3 : sumOf (.tup (needs.map D.int)) = 0 := by
      show ((needs.map D.int).map numOf).sum = 0
      rw [List.map_map, show (numOf ∘ D.int) = id from rfl, List.map_id]
      exact f2
    rw [hw, areWithin_of (by rw [List.length_map, rl]) (fun r hr => ⟨(rb r hr).1, by have := (rb r hr).2; omega⟩), areWithin_of f1 f3, decide_eq_true e3]
    rfl
  | bench h1 lb ho =>
    rename_i lasts order
    refine ⟨?_, .inr (.inr ⟨_, rfl, by rw [dones_len, List.length_replicate, List.length_map]⟩), smL_two (by decide +kernel) (smL_ints (by omega)), noB_two noB_str noB_ints, _, _, rfl⟩
    show benchB [.str (PySem.Str.ofString "bench"), .tup (lasts.map D.int)] = true
    unfold benchB
    dsimp only
    rw [areWithin_of (by rw [List.length_map]) (fun r hr => ⟨(lb r hr).1, by have := (lb r hr).2; omega⟩), List.length_map, decide_eq_true (show (1 : Int) ≤ lasts.length by omega), decide_eq_true (show (lasts.length : Int) ≤ 8 by omega)]
    rfl
end NB
set_option Elab.async false
set_option linter.all false
set_option maxRecDepth 100000
set_option maxHeartbeats 2000000
/-! Loops over lists that are encoded item by item. -/
namespace DL
open PySem PySem.Spec L2
theorem split_at {α : Type} {xs : List α} {i : Nat} {x : α} (h : xs[i]? = some x) : xs = xs.take i ++ x :: xs.drop (i + 1) := by
  rw [← drop_of h, List.take_append_drop]
theorem map_at {α : Type} {enc : α → D} {xs : List α} {i : Nat} {d : D} (h : (xs.map enc)[i]? = some d) : ∃ x, xs[i]? = some x ∧ d = enc x := by
  rw [List.getElem?_map] at h
  obtain ⟨t, h1, h2⟩ := Option.map_eq_some_iff.mp h
  exact ⟨t, h1, h2.symm⟩
theorem take_snoc {α : Type} {l : List α} {i : Nat} {x : α} (h : l[i]? = some x) : l.take (i + 1) = l.take i ++ [x] := by
  rw [List.take_add_one, h]
  rfl
/-- a loop by what holds behind a part of the list -/
theorem for_pre {α : Type} {ok : M → Prop} {f : TGD} {tb : DTS} {E : DEnds} {enc : α → D} {xs : List α} {δ : Sl} {μ : M} (J : List α → Sl → M → Prop) (h0 : J [] δ μ)
    (ht : ∀ (pre : List α) (x : α) (post : List α) (δ : Sl) (μ : M), xs = pre ++ x :: post → J pre δ μ → ok μ ∧ turnD (f μ (enc x)) tb { E with nx := J (pre ++ [x]), ct := J (pre ++ [x]), bk := E.nx } δ μ)
    (he : ∀ δ μ, J xs δ μ → ok μ ∧ E.nx δ μ) : loopJ ok f tb E (xs.map enc) δ μ := by
  refine ⟨fun i δ μ => i ≤ xs.length ∧ J (xs.take i) δ μ, ⟨Nat.zero_le _, by rw [List.take_zero]; exact h0⟩, ?_⟩
  rintro i δ μ ⟨hi, hJ⟩
  have key : ∀ d, (xs.map enc)[i]? = some d → ok μ ∧ turnD (f μ d) tb { E with nx := fun δ μ => i + 1 ≤ xs.length ∧ J (xs.take (i + 1)) δ μ, ct := fun δ μ => i + 1 ≤ xs.length ∧ J (xs.take (i + 1)) δ μ, bk := E.nx } δ μ := by
    intro d hd
    obtain ⟨x, hx, rfl⟩ := map_at hd
    have z := ht (xs.take i) x (xs.drop (i + 1)) δ μ (split_at hx) hJ
    have hl : i + 1 ≤ xs.length := (List.getElem?_eq_some_iff.mp hx).1
    rw [take_snoc hx]
    have e : J (xs.take i ++ [x]) = fun δ μ => i + 1 ≤ xs.length ∧ J (xs.take i ++ [x]) δ μ := by
      funext δ μ
      exact propext ⟨fun h => ⟨hl, h⟩, fun h => h.2⟩
    rw [e] at z
    exact z
  refine ⟨?_, fun d hd => (key d hd).2, fun he' => ?_⟩
  · cases hd : (xs.map enc)[i]? with
    | some d => exact (key d hd).1
    | none =>
      have := List.getElem?_eq_none_iff.mp hd
      rw [List.length_map] at this
      rw [List.take_of_length_le this] at hJ
      exact (he δ μ hJ).1
  · rw [List.length_map] at he'
    rw [he', List.take_length] at hJ
    exact (he δ μ hJ).2
theorem zip_map {α β : Type} {e1 : α → D} {e2 : β → D} {xs : List α} {ys : List β} : zipL (xs.map e1) (ys.map e2) = (xs.zip ys).map fun p => .tup [e1 p.1, e2 p.2] := by
  unfold zipL
  rw [List.zipWith_map, List.zip, List.map_zipWith]
theorem enum_map {α : Type} {e1 : α → D} {xs : List α} : enumL 0 (xs.map e1) = xs.zipIdx.map fun p => .tup [.int ((p.2 : Nat) : Int), e1 p.1] := by
  apply List.ext_getElem?
  intro i
  rw [enumL_get, List.getElem?_map, List.getElem?_map, List.getElem?_zipIdx]
  cases xs[i]? with
  | none => rfl
  | some x => simp
theorem range_map0 {n : Nat} : rangeD 0 n = (List.range n).map fun i : Nat => D.int (i : Int) := by
  unfold rangeD
  apply List.map_congr_left
  intro i _
  rw [Int.zero_add]
theorem src_cell {μ : M} {p : Addr} {ds : List D} (h : μ p = some (.lst ds)) : srcOf μ (.raw (.ref p)) = some (.cel p ds) := by
  show (match cellL (μ p) with | some xs => some (Src.cel p xs) | none => none) = _
  rw [h]
  rfl
end DL
set_option Elab.async false
set_option linter.all false
set_option maxRecDepth 100000
set_option maxHeartbeats 2000000
set_option exponentiation.threshold 20000
/-! Drawn tasks. -/
namespace NB
open PySem PySem.Spec L2 DL Fr
abbrev Fc := Int × Int
def optF : Option Fc → D
  | none => .non
  | some f => fr f
def bndD (b : Option Fc × Option Fc) : D := .tup [optF b.1, optF b.2]
def wgtD (w : Fc × Fc) : D := .tup [fr w.1, fr w.2]
/-- a tree grown from place 0: the counts, the places seen -/
def growStep (st : List Int × List Int) (x : (Int × Int) × Nat) : List Int × List Int :=
  if (decide (x.1.1 ∈ st.2)) = decide (x.1.2 ∈ st.2) then st else (st.1.set x.2 1, st.2 ++ [x.1.1, x.1.2].filter fun p => !decide (p ∈ st.2))
def growRound (F : List (Int × Int)) (st : List Int × List Int) (_ : Nat) : List Int × List Int := F.zipIdx.foldl growStep st
def grow (F : List (Int × Int)) (n : Nat) : List Int × List Int := (List.range n).foldl (growRound F) (List.replicate n 0, [0])
/-- the wish beside the first one -/
inductive Beside : D × List Int → D × List Int → Prop
  | tree {m b e : Int} {F : List ((Int × Int) × Int)} {ns : List Int} : F.length = ns.length → Beside (.tup [.str (PySem.Str.ofString "way"), .int m, tiesD F, .int b, .int e], ns) (.tup [.str (PySem.Str.ofString "tree"), .int m, tiesD F], (grow (F.map (·.1)) ns.length).1)
  | bench {w : Str} {r : List D} {ns : List Int} {x : D × List Int} : w ≠ PySem.Str.ofString "way" → ns.length ≤ 4 → BenchOk ns.length x → Beside (.tup (.str w :: r), ns) x
def WishesOk (ws : List (D × List Int)) : Prop := ∃ w, Wish w.1 w.2 ∧ (ws = [w] ∨ ∃ w2, Beside w w2 ∧ ws.Perm [w, w2])
def wayW (w : D × List Int) : Bool := match w.1 with
  | .tup (.str x :: _) => decide (x = PySem.Str.ofString "way")
  | _ => false
structure BndOk (walked : Bool) (price : Fc) (b : Option Fc × Option Fc) : Prop where
  lo : ∀ f, b.1 = some f → Ok 20 f ∧ f.1 * price.2 ≤ price.1 * f.2
  hi : ∀ f, b.2 = some f → Ok 20 f ∧ price.1 * f.2 ≤ f.1 * price.2
  wk : walked = true → ∃ f, b.1 = some f ∧ 0 ≤ f.1
structure WgtOk (w : Fc × Fc) : Prop where
  dn : Ok 3 w.1
  up : Ok 3 w.2
  dp : 0 < w.1.1
  pp : 0 < w.2.1
structure Task where
  prices : List Fc
  wishes : List (D × List Int)
  bounds : List (Option Fc × Option Fc)
  weights : List (Fc × Fc)
  word : Str
def Task.d (t : Task) : D := .tup [.lst (t.prices.map fr), .lst (t.wishes.map WishD), .lst (t.bounds.map bndD), .lst (t.weights.map wgtD), .str t.word]
structure TaskOk (t : Task) : Prop where
  ws : WishesOk t.wishes
  pl : ∀ w ∈ t.wishes, w.2.length = t.prices.length
  n1 : 1 ≤ t.prices.length
  n2 : t.prices.length ≤ 16
  pr : ∀ f ∈ t.prices, Ok 9 f
  pw : t.wishes.any wayW = true → ∀ f ∈ t.prices, 0 ≤ f.1
  bd : All2 (BndOk (t.wishes.any wayW)) t.prices t.bounds
  wl : t.weights.length = t.prices.length
  wg : ∀ w ∈ t.weights, WgtOk w
  wd : t.word = PySem.Str.ofString "sum" ∨ t.word = PySem.Str.ofString "greatest"
theorem grow_len1 : ∀ (xs : List ((Int × Int) × Nat)) (st : List Int × List Int), (xs.foldl growStep st).1.length = st.1.length ∧ (xs.foldl growStep st).2.length ≤ st.2.length + 2 * xs.length
  | [], st => ⟨rfl, by simp⟩
  | x :: xs, st => by
    have h := grow_len1 xs (growStep st x)
    have k : (growStep st x).1.length = st.1.length ∧ (growStep st x).2.length ≤ st.2.length + 2 := by
      unfold growStep
      split
      · exact ⟨rfl, by omega⟩
      · refine ⟨by rw [List.length_set], ?_⟩
        rw [List.length_append]
        have := List.length_filter_le (fun p => !decide (p ∈ st.2)) [x.1.1, x.1.2]
        simp only [List.length_cons, List.length_nil] at this
        omega
    rw [List.foldl_cons, List.length_cons]
    omega
theorem grow_len2 {F : List (Int × Int)} : ∀ (xs : List Nat) (st : List Int × List Int), (xs.foldl (growRound F) st).1.length = st.1.length ∧ (xs.foldl (growRound F) st).2.length ≤ st.2.length + 2 * F.length * xs.length
  | [], st => ⟨rfl, by simp⟩
  | x :: xs, st => by
    have h := grow_len2 (F := F) xs (growRound F st x)
    have k := grow_len1 F.zipIdx st
    rw [List.length_zipIdx] at k
    have k' : (growRound F st x).1.length = st.1.length ∧ (growRound F st x).2.length ≤ st.2.length + 2 * F.length := k
    rw [List.foldl_cons, List.length_cons, Nat.mul_add]
    omega
theorem Beside.len {w w2 : D × List Int} (h : Beside w w2) : w2.2.length = w.2.length := by
  cases h with
  | tree h =>
    rename_i m b e F ns
    show (grow (F.map (·.1)) ns.length).1.length = ns.length
    unfold grow
    rw [(grow_len2 (F := F.map (·.1)) _ _).1, List.length_replicate]
  | bench _ _ h =>
    obtain ⟨lasts, order, rfl, _, _, _, e⟩ := h
    dsimp only
    rw [dones_len, List.length_replicate]
    omega
theorem Beside.head {w w2 : D × List Int} (h : Beside w w2) : ∃ x r, w2.1 = .tup (.str x :: r) := by
  cases h with
  | tree h => exact ⟨_, _, rfl⟩
  | bench _ _ h =>
    obtain ⟨ls, e⟩ := h.hd
    exact ⟨_, _, e⟩
structure WsFacts (ws : List (D × List Int)) (n : Nat) : Prop where
  n1 : 1 ≤ n
  n2 : n ≤ 16
  ne : ws ≠ []
  l2 : ws.length ≤ 2
  len : ∀ w ∈ ws, w.2.length = n
  head : ∀ w ∈ ws, ∃ x r, w.1 = .tup (.str x :: r)
theorem WishesOk.facts {ws : List (D × List Int)} (h : WishesOk ws) : ∃ n, WsFacts ws n := by
  obtain ⟨w, hw, h⟩ := h
  have hc := Wish.cnts hw
  have hh : ∃ x r, w.1 = .tup (.str x :: r) := (Wish.facts hw).tup
  refine ⟨w.2.length, hc.ne, hc.le, ?_, ?_, ?_, ?_⟩
  · rcases h with rfl | ⟨w2, _, hp⟩
    · simp
    · intro e
      rw [e] at hp
      exact absurd hp.length_eq (by simp)
  · rcases h with rfl | ⟨w2, _, hp⟩
    · simp
    · rw [hp.length_eq]; simp
  · intro v hv
    rcases h with rfl | ⟨w2, hb, hp⟩
    · rw [List.mem_singleton.mp hv]
    · have := hp.mem_iff.mp hv
      simp only [List.mem_cons, List.not_mem_nil, or_false] at this
      rcases this with rfl | rfl
      · rfl
      · exact hb.len
  · intro v hv
    rcases h with rfl | ⟨w2, hb, hp⟩
    · rw [List.mem_singleton.mp hv]; exact hh
    · have := hp.mem_iff.mp hv
      simp only [List.mem_cons, List.not_mem_nil, or_false] at this
      rcases this with rfl | rfl
      · exact hh
      · exact hb.head
end NB
set_option Elab.async false
set_option linter.all false
set_option maxRecDepth 100000
set_option maxHeartbeats 2000000
/-! A caught error that outlives its suite. -/
namespace DL
open PySem PySem.Spec PyProof.Rows L2
section
variable {X : Cx} {pins : List (Addr × Obj)} {σ : L2.St} {H : Hp} {s : Shared}
end
section
variable {X : Cx} {x n : Str} {c : Value} {i : Nat} {body suite : List Stmt} {b0 : Stmt} {np pos pos' : Pos} {tb : WX → TS} {ts : Addr → TS} {Wo : WX}
/-- an address that came with an error: no frame is there, and it was not there ahead -/
structure Alone (X : Cx) (pins : List (Addr × Obj)) (a : Addr) : Prop where
  frame : a ∉ frs (X.env :: X.outer)
  begin_ : X.s_0.heap.get? a = none
  pinned : ∀ p ∈ X.pn ++ pins, p.1 ≠ a
  cells : ∀ y cc, X.env.cells.lookup y = some cc → cc ≠ a
theorem Alone.outer {pins : List (Addr × Obj)} {a : Addr} (L : Alone X pins a) : a ∉ X.fs := by
  intro there
  obtain ⟨env, he, q⟩ := List.mem_filterMap.mp there
  exact L.frame (List.mem_filterMap.mpr ⟨env, List.mem_cons_of_mem _ he, q⟩)
/-- what was there ahead of the error cannot be at its address -/
theorem Alone.of {pins : List (Addr × Obj)} {a : Addr} {σ : L2.St} {H : Hp} {s : Shared} (I : Inv X pins σ H s) (hX : X.ex = []) (frame : a ∉ frs (X.env :: X.outer)) (new : s.heap.get? a = none) : Alone X pins a := by
  have absent : ∀ {o}, s.heap.get? a = some o → False := fun {o} e => by rw [new] at e; cases e
  refine ⟨frame, ?_, fun p hp e => ?_, fun y cc hy e => ?_⟩
  · cases q : X.s_0.heap.get? a with
    | none => rfl
    | some o =>
      obtain ⟨o', e⟩ := I.base.there a o q (by rw [hX]; exact List.not_mem_nil)
      exact (absent e).elim
  · exact absent (e ▸ (I.pin p hp).1)
  · obtain ⟨v, o, ho, _⟩ := I.cell y cc hy
    exact absent (e ▸ ho)
end
/-! ### over data -/
def kKeep (i : Nat) (a : Addr) (c : C) (R : Sl → M → Prop) (δ : Sl) (μ : M) : Prop := R (δ.set i none) (updM μ a c)
def kKeepR (a : Addr) (c : C) (R : QD) (d : D) (μ : M) : Prop := R d (updM μ a c)
def keepD (i : Nat) (a : Addr) (c : C) (E : DEnds) : DEnds := { nx := kKeep i a c E.nx, rt := kKeepR a c E.rt, bk := kKeep i a c E.bk, ct := kKeep i a c E.ct, xc := fun _ => XF }
def kTryK (K : PySem.W.Frag) (c : Value) (i : Nat) (ts : Addr → DTS) (E : DEnds) (δ : Sl) (cls : Value) (fs : Option (List (Str × D))) (μ : M) : Prop := ∃ b, PySem.W.exmOne K cls c = some b ∧
  (b = true → ∀ a, μ a = none → ts a (keepD i a (.exc cls fs) E) (δ.set i (some (.raw (.ref a)))) μ) ∧ (b = false → E.xc δ cls fs μ)
def dTryK (K : PySem.W.Frag) (c : Value) (i : Nat) (tb : DTS) (ts : Addr → DTS) (E : DEnds) (δ : Sl) (μ : M) : Prop := tb { E with xc := kTryK K c i ts E } δ μ
end DL
set_option Elab.async false
set_option linter.all false
set_option maxRecDepth 100000
set_option maxHeartbeats 2000000
/-! isinstance of errors, and their fields. -/
namespace DL
open PySem PySem.Spec PyProof.Rows L2
structure ExcK (K : PySem.W.Frag) (C : Addr) : Prop where
  cl : (PySem.W.clsIn K C).isSome = true
  ga : PySem.W.findIn K (.ref C) "__getattribute__" = some (some (.builtin "BaseException.__getattribute__"))
  gt : PySem.W.findIn K (.ref C) "__getattr__" = some none
  sb : PySem.W.subIn K (.ref C) (.type "BaseException") = some true
  ca : PySem.W.findIn K (.ref C) "__class__" = some (some (.builtin "object.__class__"))
  sp : PySem.W.specialIn K (.builtin "object.__class__") "__get__" = some (some (.builtin "getset_descriptor.__get__"))
  tk : PySem.W.takesIn K (.builtin "object.__class__") = some true
  mo : PySem.W.mroIn K C (.type "object") = some true
  hd : PySem.W.hasDictIn K C = true
/-- e.f of an error -/
def kXf (K : PySem.W.Frag) (f : Str) (Q : QD) (d : D) (μ : M) : Prop := ∃ a C fs v, d = .raw (.ref a) ∧ μ a = some (.exc (.ref C) (some fs)) ∧ ExcK K C ∧ PySem.W.findIn K (.ref C) f = some none ∧ fs.lookup f = some v ∧ Q v μ
def dXf (K : PySem.W.Frag) (f : Str) (te : DTE) (W : XD) (δ : Sl) (μ : M) (Q : QD) : Prop := te W δ μ (kXf K f Q)
end DL
set_option Elab.async false
set_option linter.all false
set_option maxRecDepth 100000
set_option maxHeartbeats 2000000
/-! Defs that are called where no repr is under way: they may ask for the repr of data. -/
namespace DL
open PySem PySem.Spec PyProof.Rows L2
structure FnG (P : Program) (w : World) (K : PySem.W.Frag) (mg : Str → Option Value) (base : Heap) (CX : CXT) (k : Nat) (f : Addr) (fd : FuncData) (ps : List Str) (sp : Sp) : Prop where
  len : ∀ vs H Q E, sp vs H Q E → vs.length = ps.length
  run : ∀ (A : Around) (outer : List Env) (s : Shared) (H : Hp) (args : Args) (us : List Value) (vs : List V) (Q : VK) (E : XK), A.guards = some [] → Room k A → Env0 P w K mg base A outer s H → BindsTo s fd args (ps.zip us) → Vals vs us → sp vs H Q E →
    codeAny (model P w) A (.call (.ref f) args) (CR CX outer P w H s Q E) s
theorem FnG.of {P : Program} {w : World} {K : PySem.W.Frag} {mg : Str → Option Value} {base : Heap} {CX : CXT} {k : Nat} {f : Addr} {fd : FuncData} {ps : List Str} {sp : Sp} (F : FnOk P w K mg base CX k f fd ps sp) : FnG P w K mg base CX k f fd ps sp :=
  ⟨F.len, fun A outer s H args us vs Q E _ => F.run A outer s H args us vs Q E⟩
/-- a def by its body, the guards known -/
theorem fnG_of {CX : CXT} {P : Program} {w : World} {K : PySem.W.Frag} {mg : Str → Option Value} {base : Heap} {k : Nat} {f : Addr} {name qual : Str} {params : Arguments} {body : List Stmt} {scope : Scope} {dV kV doc pm cdv ct oc : Value} {an od : Option Addr}
    {osl : Array (Option Value)} {N ps : List Str} {sp : Sp} (stands : K.lookup f = some ⟨oc, od, .func (PySem.W.fnOf name qual params body scope dV kV doc pm an cdv ct), osl⟩) (code : PySem.W.codeIn K cdv qual = true) (S : FnScope N ps scope)
    (len : ∀ vs H Q E, sp vs H Q E → vs.length = ps.length)
    (walk : ∀ (A : Around) (outer : List Env) (s : Shared) (H : Hp) (vs : List V) (Q : VK) (E : XK), A.guards = some [] → Room k (A.deeper (envOfC qual scope s.heap.objs.size f cdv)) → sp vs H Q E →
      ∃ t, PSs (cxOf CX P w K mg base N qual scope f cdv A outer s H E) body t ∧ t { nx := fun _ H' => Q .non H', rt := Q } (start N vs) H) :
    FnG P w K mg base CX (k + 1) f (PySem.W.fnOf name qual params body scope dV kV doc pm an cdv ct) ps sp := by
  constructor
  · exact len
  intro A outer s H args us vs Q E hG room env0 binds rel hsp
  obtain ⟨t, der, red⟩ := walk A outer s H vs Q E hG (room.deeper _) hsp
  have inK : K.In s.heap := env0.mod.kin.keeps fun b o e => (env0.bs b o e).1
  have noL : s.heap.NoLimit := env0.mod.nolimit.keeps fun b o e => (env0.bs b o e).1
  have kinds : ∀ y ∈ ps.zip us, scope.names.lookup y.1 = some .local ∨ (scope.names.lookup y.1 = some .cell ∧ ((cellsFrom (s.heap.objs.size + 1) scope.names []).lookup y.1).isSome = true) := by
    rintro ⟨n, v⟩ hy
    cases S.par n (List.of_mem_zip hy).1 with
    | inl q => exact .inl q
    | inr q => exact .inr ⟨q, PySem.W.cellsFrom_some _ _ _ (.inl q)⟩
  refine codeAny_call_function room.depth (inK _ _ stands) rfl S.co S.gen rfl (PySem.W.codeRec_of inK code) (binds _ _ _ _ ?_)
  refine wpAny_newFunctionEnv_cells S.kind kinds ?_
  rintro env rfl s1 x
  refine ⟨noL.keeps x.toInCall.keep, codeAny_func (wpAny_mono (der.run [] s1 (start N vs) H _ (inv_start S room.hd env0 (len _ _ _ _ hsp) rel x) red) ?_ fun _ _ hs => hs)⟩
  intro fl s' hs
  cases fl with
  | next => exact let ⟨σ', H', J, q⟩ := hs; ⟨V.non, H', J.os, J.bare, J.base, J.hok, rfl, q⟩
  | ret u => exact let ⟨v, σ', H', J, rv, q⟩ := hs; ⟨v, H', J.os, J.bare, J.base, J.hok, rv, q⟩
  | brk => exact let ⟨_, _, _, q⟩ := hs; False.elim q
  | cont => exact let ⟨_, _, _, q⟩ := hs; False.elim q
/-- only the script may be tracked, and where it is, the module's own part does not hold it -/
structure Lone (K : PySem.W.Frag) (a : Addr) (vs : List Value) (h : Heap) (H : Hp) : Prop where
  list : h.get? a = some { cls := .type "list", data := .seq vs.toArray }
  lone : ∀ b u, H b = some u → b = a
  apart : ∀ u, H a = some u → K.lookup a = none
section
variable {K : PySem.W.Frag} {a : Addr} {vs : List Value} {h : Heap} {H : Hp}
theorem Lone.free (L : Lone K a vs h H) {b : Addr} (away : b = a → False) : H b = none := by
  cases e : H b with
  | none => rfl
  | some u => exact (away (L.lone b u e)).elim
/-- namespaces are seen as before: a dict is no list -/
theorem Lone.ns (L : Lone K a vs h H) {b : Addr} {m : Str → Option Value} (n : h.Ns b m) : (hidT h H).Ns b m := by
  obtain ⟨o, es, ep, here, dict, rest⟩ := n
  have away : b = a → False := by
    rintro rfl
    rw [L.list] at here
    cases here
    cases dict
  exact ⟨o, es, ep, hidT_get here (L.free away), dict, rest⟩
theorem Lone.kin (L : Lone K a vs h H) (inK : K.In h) : K.In (hidT h H) := fun b o e => hidT_get (inK b o e) (by
  cases q : H b with
  | none => rfl
  | some u =>
    have eb := L.lone b u q
    rw [eb] at e q
    rw [L.apart u q] at e
    cases e)
theorem Lone.env {P : Program} {w : World} {mg mb : Str → Option Value} {s : Shared} (L : Lone K a vs s.heap H) (inK : K.In s.heap) (glo : s.heap.Ns mainGlobals mg) (blt : s.heap.Ns builtinsNs mb) (boot : ∀ x : Str, x ≠ "__name__" → mb x = bootBuiltins x)
    (noL : s.heap.NoLimit) (nogen : s.gens = #[]) (hok : HOk P w H s.heap) : Env0 P w K mg (hidT s.heap H) callerA [] s H := by
  obtain ⟨mc, c1, c2⟩ := noL
  have m : Mod K mg (hidT s.heap H) := ⟨L.kin inK, L.ns glo, ⟨mb, L.ns blt, boot⟩, ⟨mc, L.ns c1, c2⟩⟩
  constructor
  case mod => exact m
  case hok => exact hok
  case bs => exact fun b o e => of_hidT e
  case bsz => exact Nat.le_of_eq (hidT_size _ _)
  case bare => exact .of_eq nogen
  case frf => exact fun b hb => (List.not_mem_nil hb).elim
  all_goals first | rfl | trivial
end
/-- the law's call, the guards known to be none -/
theorem lawG_call {P : Program} {w : World} {K : PySem.W.Frag} {mg mb : Str → Option Value} {CX : CXT} {k : Nat} {fa a : Addr} {fd : FuncData} {x : Str} {sp : Sp} {s1 : Shared} {vs : List Value} {ns : List Int}
    (inK : K.In s1.heap) (glo : s1.heap.Ns mainGlobals mg) (blt : s1.heap.Ns builtinsNs mb) (boot : ∀ x : Str, x ≠ "__name__" → mb x = bootBuiltins x) (noL : s1.heap.NoLimit) (nogen : s1.gens = #[])
    (ha : s1.heap.get? a = some { cls := .type "list", data := .seq vs.toArray }) (hi : IntsAre vs ns) (hl : ns.length ≤ sizeLine) (room : Room k callerA)
    (F : ∀ base : Heap, K.In base → base.Ns mainGlobals mg → FnG P w K mg base CX k fa fd [x] sp) (binds : ∀ (s : Shared) (u : Value), BindsTo s fd ⟨[u], []⟩ [(x, u)])
    (want : ∀ H : Hp, Only H → SqL K H a (ns.map V.int) → sp [.ref a] H (fun v _ => v = .bl true) fun _ _ _ => False) (noX : ∀ H e s', CX [] H s1 (fun _ _ _ => False) e s' → False) :
    codeAny (model P w) callerA (.call (.ref fa) ⟨[.ref a], []⟩) (fun r s' => r = .ok (.ret (.bool true)) ∧ OldK s1.heap s'.heap ∧ s'.os = s1.os ∧ AllBare s'.gens) s1 := by
  have script : ∃ H : Hp, Only H ∧ SqL K H a (ns.map V.int) ∧ HOk P w H s1.heap ∧ Lone K a vs s1.heap H := by
    have rv := vals_ints hi
    cases inside : K.lookup a with
    | some o =>
      have e := inK a o inside
      rw [ha] at e
      cases e
      refine ⟨fun _ => none, fun _ => .inl rfl, .inr ⟨_, vs.toArray, _, inside, rfl, rfl, rfl, ?few, by simpa using rv⟩, (fun _ _ z => by cases z), ha, (fun _ _ z => by cases z), fun _ z => by cases z⟩
      case few =>
        rw [List.size_toArray, hi.length]
        exact hl
    | none =>
      refine ⟨fun b => if b = a then some (.frz { cls := .type "list", data := .seq vs.toArray } (.lst (ns.map V.int))) else none, fun b => ?_, .inl (.inr ⟨_, if_pos rfl⟩), fun b u z => ?_, ha, fun b u z => ?_, fun _ _ => inside⟩
      · by_cases hb : b = a
        · exact .inr ⟨_, _, if_pos hb⟩
        · exact .inl (if_neg hb)
      · dsimp only at z
        have hb : b = a := Classical.byContradiction fun n => by rw [if_neg n] at z; cases z
        subst hb
        rw [if_pos rfl] at z
        cases z
        exact ⟨ha, by rw [List.length_map]; exact hl, vs, _, rv, ha⟩
      · exact Classical.byContradiction fun n => by rw [if_neg n] at z; cases z
  obtain ⟨H, only, isL, hok, L⟩ := script
  have ran := (F _ (L.kin inK) (L.ns glo)).run callerA [] s1 H ⟨[.ref a], []⟩ [.ref a] [.ref a] _ _ rfl room (L.env inK glo blt boot noL nogen hok) (binds s1 (.ref a)) (.cons rfl .nil) (want H only isL)
  refine codeAny_mono ran fun r s' got => ?_
  match r, got with
  | .error e, got => exact (noX H e s' got).elim
  | .ok (.ret u), ⟨v, H', os, bare, un, hok', rel, told⟩ =>
    subst told
    cases (show u = Value.bool true from rel)
    refine ⟨rfl, OldK.of_keep fun b o e => ?_, os, bare⟩
    cases only b with
    | inl free => exact un.keep b o e free (fun z => (List.not_mem_nil z).elim) (by simp)
    | inr frozen =>
      obtain ⟨ob, xs, z⟩ := frozen
      have was := (hok b _ z).1
      have now := (hok' b _ (un.frzs b ob _ z)).1
      rw [was] at e
      cases e
      exact now
/-- the goal that the head leaves, from the law's promise -/
theorem walkG {l : PySem.W.OpenLaw} {n k : Nat} {q : Program} {loose : List Str} {XP : (Str → Option Value) → Heap → Prop} {YP : World → Heap → Prop} {d : DefRec} {K : Params → PySem.W.Frag} {CX : World → CXT} {sp : World → Sp} {x : Str}
    (hn : l.most = some n) (hz : n ≤ sizeLine) (nodef : d.params.defaults = []) (room : Room k callerA) (hY : ∀ (w : World) (h : Heap), YP w h → (K w.params).In h)
    (F : ∀ (w : World) (mg : Str → Option Value) (fa : Addr) (h : Heap), (K w.params).In h → h.Ns mainGlobals mg → mg d.name = some (.ref fa) →
      ∃ fd : FuncData, (∀ (s : Shared) (u : Value), BindsTo s fd ⟨[u], []⟩ [(x, u)]) ∧ ∀ base : Heap, (K w.params).In base → base.Ns mainGlobals mg → FnG l.prog w (K w.params) mg base (CX w) k fa fd [x] (sp w))
    (want : ∀ (w : World) (H : Hp) (a : Addr) (ns : List Int), ns.length ≤ n → Only H → SqL (K w.params) H a (ns.map V.int) → sp w [.ref a] H (fun v _ => v = .bl true) fun _ _ _ => False)
    (noX : ∀ (w : World) (H : Hp) (s : Shared) (e : Value) (s' : Shared), CX w [] H s (fun _ _ _ => False) e s' → False) :
    PySem.W.WalkO q loose XP YP l.row.toRowW d [] (fun f vs => PySem.call f vs) := by
  refine Att.attach_call hn nodef ?_
  intro w s0 s1 mg mb fa o pm cd doc a vs ns G Y ho hd hcd hmg obj isI len gens
  obtain ⟨fd, hb, hF⟩ := F w mg fa _ (hY w _ Y) G.T.g hmg
  exact lawG_call (hY w _ Y) G.T.g G.T.b G.T.builtins G.T.nolimit gens obj isI (Nat.le_trans len hz) room hF hb (fun H hO hS => want w H a ns len hO hS) fun H e s' => noX w H s1 e s'
end DL
namespace DL
open PySem PySem.Spec PyProof.Rows L2
/-! ### repr -/
def rRepr (K : PySem.W.Frag) : List V → Hp → VK → Prop := fun xs H Q => ∃ v d, xs = [v] ∧ Dp K H v d ∧ d.showable = true ∧ d.hasDict = false ∧ d.depth ≤ 64 ∧ d.shown.length ≤ sizeLine ∧ Q (.str d.shown) H
theorem call_repr {X : Cx} {k : Nat} (hG : X.A.guards = some []) (hr : Room k X.A) : CallR X (.builtin "repr") (rRepr X.K) := by
  intro pins s σ H xs us Q I r h
  obtain ⟨v, d, rfl, dp, sh, nd, dep, len, q⟩ := h
  cases r with
  | cons r1 rr =>
    cases rr
    rename_i u
    have big := hr.un
    cases dp with
    | non => cases r1; exact PySem.P.repr_of_none ⟨.str _, H, I.tok _, ⟨_, rfl⟩, q⟩
    | bl b =>
      cases r1
      refine PySem.P.repr_of_bool ⟨.str _, H, I.tok _, ⟨_, rfl⟩, ?_⟩
      exact q
    | int i =>
      obtain ⟨t, rfl⟩ := r1
      exact PySem.P.repr_of_int (of_decide_eq_true sh) ⟨.str _, H, I.tok _, ⟨_, rfl⟩, q⟩
    | str x =>
      obtain ⟨t, rfl⟩ := r1
      exact PySem.P.repr_of_str ⟨.str _, H, I.tok _, ⟨_, rfl⟩, q⟩ len
    | lst h1 h2 =>
      obtain ⟨as, rd⟩ := Dp.reads I _ _ _ (.lst h1 h2) r1
      cases r1
      exact repr_of_reads' rd sh (fun e => by rw [nd] at e; cases e) hG (by omega) (fun _ _ e => e) (fun h' u tk hk => ⟨.str _, H, I.kept (t' := tk) hk, ⟨_, rfl⟩, q⟩) len
    | tup h1 h2 =>
      obtain ⟨as, rd⟩ := Dp.reads I _ _ _ (.tup h1 h2) r1
      cases r1
      exact repr_of_reads' rd sh (fun e => by rw [nd] at e; cases e) hG (by omega) (fun _ _ e => e) (fun h' u tk hk => ⟨.str _, H, I.kept (t' := tk) hk, ⟨_, rfl⟩, q⟩) len
def reprD (d : D) : Str := (toP d).shown
def gRepr : DRC := fun ds μ Q => match ds with
  | [d] => okN 64 (view μ d) = true ∧ (toP (view μ d)).showable = true ∧ (toP (view μ d)).shown.length ≤ sizeLine ∧ Q (.str (reprD (view μ d))) μ
  | _ => False
theorem l_repr {K : PySem.W.Frag} : LCall K (rRepr K) gRepr := by
  intro vs ds H Hc μ Q Qd s ra h rt
  unfold gRepr at h
  split at h
  · obtain ⟨v, rfl, r⟩ := ra.one'
    have z := okN_lay 64 _ h.1
    exact ⟨v, _, rfl, dp_of h.1 (view_rep s r), h.2.1, PyData.hasDict_of_canLay _ z.1, z.2, h.2.2.1, rt.val s (.str _) h.2.2.2⟩
  · exact h.elim
/-! texts are compared -/
def gEqS (neg : Bool) : DR2 := fun a b μ Q => match a, b with
  | .str x, .str y => Q (.bl (neg ^^ decide (x = y))) μ
  | _, _ => False
theorem l_neS {K : PySem.W.Frag} : LOp K rNe (gEqS true) := by
  intro x y d e H Hc μ Q Qd s rx ry h rt
  unfold gEqS at h
  split at h
  · cases rx; cases ry
    rename_i a b
    refine ⟨rfl, rt.val s (.bl _) ?_⟩
    have e : decide (V.str a = V.str b) = decide (a = b) := by
      by_cases z : a = b
      · subst z; simp
      · rw [decide_eq_false z, decide_eq_false (fun y => z (by cases y; rfl))]
    rw [e]
    simpa using h
  · exact h.elim
section
variable {X : Cx} {W : WX} {a b : Expr} {ta tb : DTE} {pos : Pos}
theorem dt_neS (ha : DE X W a ta) (hb : DE X W b tb) : DT X W (.Compare a [.NotEq] [b] pos) (dB (dOp (gEqS true) ta tb)) := dt_cmp op_ne l_neS ha hb (nomark _)
end
/-! ### how long a repr is -/
mutual
def rsz : D → Nat
  | .int i => i.natAbs.log2 + 3
  | .str x => (reprText x).length
  | .lst xs => 2 + rszs xs
  | .tup xs => 3 + rszs xs
  | _ => 5
def rszs : List D → Nat
  | [] => 0
  | x :: xs => rsz x + 2 + rszs xs
end
def lens : List Str → Nat
  | [] => 0
  | x :: xs => x.length + 2 + lens xs
theorem textFrom_le : ∀ (ts : List Str) (k : Nat) (acc : Str), (textFrom k acc ts).length ≤ acc.length + lens ts
  | [], _, _ => Nat.le_refl _
  | t :: ts, k, acc => by
    have h := textFrom_le ts (k + 1) (acc ++ (if k > 0 then ", " else "" : String) ++ t)
    rw [strLen_append, strLen_append] at h
    have e : (((if k > 0 then ", " else "" : String) : Str)).length ≤ 2 := by split <;> decide
    show (textFrom (k + 1) (acc ++ (if k > 0 then ", " else "" : String) ++ t) ts).length ≤ acc.length + (t.length + 2 + lens ts)
    omega
theorem join_le : ∀ ts : List Str, (Str.join ", " ts).length ≤ lens ts
  | [] => Nat.le_refl _
  | [x] => by show x.length ≤ x.length + 2 + 0; omega
  | x :: y :: r => by
    have ih := join_le (y :: r)
    show (x ++ (", " : Str) ++ Str.join ", " (y :: r)).length ≤ x.length + 2 + lens (y :: r)
    rw [strLen_append, strLen_append]
    have e : ((", " : Str)).length = 2 := by decide
    omega
theorem toString_le (i : Int) : ((toString i : String) : Str).length ≤ i.natAbs.log2 + 3 := by
  have h := int_text_length_le (a := i) (k := i.natAbs.log2 + 1) (by omega) (by omega)
  rw [PySem.ofString_length]
  omega
mutual
theorem shown_le : ∀ (n : Nat) (d : D), okN n d = true → (toP d).shown.length ≤ rsz d
  | n, .non, _ => by decide
  | n, .bl b, _ => by cases b <;> decide
  | n, .int i, _ => toString_le i
  | n, .str x, _ => Nat.le_refl _
  | 0, .lst xs, h => by simp [okN] at h
  | 0, .tup xs, h => by simp [okN] at h
  | n + 1, .lst xs, h => by
    have h1 := shown_all n xs (by simpa [okN] using h)
    have h2 := textFrom_le (PyData.shownAll (toPs xs)) 0 "["
    show (textFrom 0 "[" (PyData.shownAll (toPs xs)) ++ "]").length ≤ 2 + rszs xs
    rw [strLen_append]
    have e1 : (("[" : String) : Str).length = 1 := by decide
    have e2 : (("]" : String) : Str).length = 1 := by decide
    omega
  | n + 1, .tup xs, h => by
    have h1 := shown_all n xs (by simpa [okN] using h)
    have h2 := join_le (PyData.shownAll (toPs xs))
    show (("(" : Str) ++ Str.join ", " (PyData.shownAll (toPs xs)) ++ (if (PyData.shownAll (toPs xs)).length == 1 then ",)" else ")" : String)).length ≤ 3 + rszs xs
    rw [strLen_append, strLen_append]
    have e1 : (("(" : String) : Str).length = 1 := by decide
    have e2 : (((if (PyData.shownAll (toPs xs)).length == 1 then ",)" else ")" : String)) : Str).length ≤ 2 := by split <;> decide
    omega
  | n, .scr _, h => by cases n <;> simp [okN] at h
  | n, .raw _, h => by cases n <;> simp [okN] at h
  | n, .emp, h => by cases n <;> simp [okN] at h
  | n, .key _, h => by cases n <;> simp [okN] at h
theorem shown_all : ∀ (n : Nat) (xs : List D), (∀ d ∈ xs, okN n d = true) → lens (PyData.shownAll (toPs xs)) ≤ rszs xs
  | _, [], _ => Nat.le_refl _
  | n, x :: xs, h => by
    have h1 := shown_le n x (h x List.mem_cons_self)
    have h2 := shown_all n xs fun d hd => h d (List.mem_cons_of_mem _ hd)
    show (toP x).shown.length + 2 + lens (PyData.shownAll (toPs xs)) ≤ rsz x + 2 + rszs xs
    omega
end
/-! ### defs whose guards are known -/
structure DfnG (P : Program) (w : World) (K : PySem.W.Frag) (mg : Str → Option Value) (base : Heap) (CX : CXT) (x qual : Str) (st : Stmt) (k : Nat) (ps : List Str) (c : Ct) : Prop where
  ex : ∃ f fd, Fun K x qual st f fd ∧ mg x = some (.ref f) ∧ FnG P w K mg base CX k f fd ps (spD K c) ∧ Binds K fd ps []
section
variable {P : Program} {w : World} {K : PySem.W.Frag} {mg : Str → Option Value} {base : Heap} {x qual : Str} {st : Stmt} {f : Addr} {fd : FuncData} {N ps : List Str} {k n m : Nat} {c : Ct} {t : DTS}
theorem dfnGA (F : Fun K x qual st f fd) (hm : mg x = some (.ref f)) (bn : Binds K fd ps []) (S : FnScope N ps (defScope st)) (len : Len c m) (hb : HB c t n)
    (hd : ∀ (cdv : Value) (A : Around) (outer : List Env) (s : Shared) (H : Hp) (E : XK), A.guards = some [] → Room k (A.deeper (PyProof.Rows.envOfC qual (defScope st) s.heap.objs.size f cdv)) → DSs (cxOf CX0 P w K mg base N qual (defScope st) f cdv A outer s H E).nox W0 (defBody st) t)
    (hn : N.length = n := by rfl) (hp : ps.length = m := by rfl) : DfnG P w K mg base CX0 x qual st (k + 1) ps c := by
  subst hn hp
  refine ⟨f, fd, F, hm, ?_, bn⟩
  obtain ⟨oc, od, kV, doc, pm, an, cdv, ct, osl, rfl, lk, hcd⟩ := F.ex
  refine fnG_of lk hcd S (fun vs H Q E ⟨ds, μ, Hc, Qd, Xd, s, ra, h, rt, rx⟩ => by rw [ra.length]; exact len _ _ _ _ h) (fun A outer s H vs Q E hG hr h => ?_)
  obtain ⟨ds, μ, Hc, Qd, Xd, sp, ra, h, rt, rx⟩ := h
  refine ⟨_, PSs.nox (hd cdv A outer s H E hG hr), _, μ, Hc, _, sp, repS_start ra, hb _ _ _ _ h, ?_⟩
  exact ⟨fun δ μ' h' σ H' Hc' e' s' rs' => ret_fin rt _ _ h' _ _ _ e' s' .non, ret_fin rt, fun _ _ z => z.elim, fun _ _ z => z.elim, fun _ _ _ _ z => z.elim⟩
end
section
variable {X : Cx} {W : WX} {e : Expr} {es : List Expr} {pos p : Pos} {tr : DTA} {CX : CXT} {x qual : Str} {st : Stmt} {k : Nat} {ps : List Str} {c : Ct}
end
end DL
set_option Elab.async false
set_option linter.all false
set_option maxRecDepth 100000
set_option maxHeartbeats 2000000
/-! count of any data in a list. -/
namespace DL
open PySem PySem.Spec PyProof.Rows L2
def gCountD : DRM := fun d ds μ Q => ∃ y xs, ds = [y] ∧ view μ d = .lst xs ∧ okN 64 (.lst xs) = true ∧ okN 64 y = true ∧ Q (.int ((xs.countP fun z => eqD z y : Nat) : Int)) μ
end DL
set_option Elab.async false
set_option linter.all false
set_option maxRecDepth 100000
set_option maxHeartbeats 2000000
/-! Two names out of a list of two. -/
namespace DL
open PySem PySem.Spec PyProof.Rows L2
section
variable {prog : Program} {w : World} {A : Around} {E : Value → Shared → Prop} {s : Shared}
end
def tgL (fs : TGDs) : TGD := fun μ d => match view μ d with
  | .lst ds => fs μ ds
  | _ => none
end DL
set_option linter.all false
set_option maxRecDepth 100000
set_option maxHeartbeats 2000000
/-! Determinants of whole numbers, by the last coordinate: linear in each column, nought where two columns are alike, bounded. -/
namespace Det
def sm : Nat → (Nat → Int) → Int
  | 0, _ => 0
  | n + 1, f => sm n f + f n
theorem sm_congr {f g : Nat → Int} : ∀ {n : Nat}, (∀ j, j < n → f j = g j) → sm n f = sm n g
  | 0, _ => rfl
  | n + 1, h => by
    show sm n f + f n = sm n g + g n
    rw [sm_congr fun j hj => h j (by omega), h n (by omega)]
theorem sm_lin {f g : Nat → Int} {a b : Int} : ∀ {n : Nat}, sm n (fun j => a * f j + b * g j) = a * sm n f + b * sm n g
  | 0 => by show (0 : Int) = a * 0 + b * 0; omega
  | n + 1 => by
    show sm n _ + (a * f n + b * g n) = a * (sm n f + f n) + b * (sm n g + g n)
    rw [sm_lin]
    grind
theorem sm_zero {f : Nat → Int} : ∀ {n : Nat}, (∀ j, j < n → f j = 0) → sm n f = 0
  | 0, _ => rfl
  | n + 1, h => by
    show sm n f + f n = 0
    rw [sm_zero fun j hj => h j (by omega), h n (by omega)]
    rfl
theorem sm_one {f : Nat → Int} {a : Nat} : ∀ {n : Nat}, a < n → (∀ j, j < n → j ≠ a → f j = 0) → sm n f = f a
  | n + 1, ha, h => by
    show sm n f + f n = f a
    by_cases e : a = n
    · subst e
      rw [sm_zero fun j hj => h j (by omega) (by omega)]
      omega
    · rw [sm_one (by omega) fun j hj hn => h j (by omega) hn, h n (by omega) (by omega)]
      omega
theorem sm_two {f : Nat → Int} {a b : Nat} : ∀ {n : Nat}, a < b → b < n → (∀ j, j < n → j ≠ a → j ≠ b → f j = 0) → sm n f = f a + f b
  | n + 1, hab, hb, h => by
    show sm n f + f n = f a + f b
    by_cases e : b = n
    · subst e
      rw [sm_one hab fun j hj hn => h j (by omega) hn (by omega)]
    · rw [sm_two hab (by omega) fun j hj h1 h2 => h j (by omega) h1 h2, h n (by omega) (by omega) (by omega)]
      omega
theorem sm_mul {f : Nat → Int} {a : Int} {n : Nat} : sm n (fun j => a * f j) = a * sm n f := by
  have := @sm_lin f f a 0 n
  simpa using this
theorem sm_add {f g : Nat → Int} {n : Nat} : sm n (fun j => f j + g j) = sm n f + sm n g := by
  have := @sm_lin f g 1 1 n
  simpa using this
theorem sm_sub {f g : Nat → Int} {n : Nat} : sm n (fun j => f j - g j) = sm n f - sm n g := by
  have h := @sm_lin f g 1 (-1) n
  rw [show (fun j => f j - g j) = fun j => 1 * f j + -1 * g j by funext j; omega, h]
  omega
theorem sm_swap {f : Nat → Nat → Int} : ∀ {n m : Nat}, sm n (fun i => sm m (f i)) = sm m fun j => sm n fun i => f i j
  | 0, m => by
    show (0 : Int) = _
    rw [sm_zero]
    intro j _
    rfl
  | n + 1, m => by
    show sm n _ + sm m (f n) = sm m fun j => sm n (fun i => f i j) + f n j
    rw [sm_add, sm_swap]
theorem sm_le {f g : Nat → Int} : ∀ {n : Nat}, (∀ j, j < n → f j ≤ g j) → sm n f ≤ sm n g
  | 0, _ => Int.le_refl _
  | n + 1, h => by
    show sm n f + f n ≤ sm n g + g n
    have := sm_le (n := n) fun j hj => h j (by omega)
    have := h n (by omega)
    omega
theorem sm_nn {f : Nat → Int} {n : Nat} (h : ∀ j, j < n → 0 ≤ f j) : 0 ≤ sm n f := by
  have := sm_le (f := fun _ => 0) (g := f) (n := n) h
  rwa [sm_zero fun _ _ => rfl] at this
theorem sm_pos {f : Nat → Int} {n : Nat} (h : 0 < sm n f) : ∃ j, j < n ∧ 0 < f j := by
  apply Classical.byContradiction
  intro hn
  have := sm_le (f := f) (g := fun _ => 0) (n := n) fun j hj => by
    apply Classical.byContradiction
    intro hc
    exact hn ⟨j, hj, by omega⟩
  rw [sm_zero (f := fun _ => 0) fun _ _ => rfl] at this
  omega
theorem sm_abs {f : Nat → Int} {b : Nat} : ∀ {n : Nat}, (∀ j, j < n → (f j).natAbs ≤ b) → (sm n f).natAbs ≤ n * b
  | 0, _ => by show (0 : Int).natAbs ≤ _; omega
  | n + 1, h => by
    show (sm n f + f n).natAbs ≤ (n + 1) * b
    have h1 := sm_abs (n := n) fun j hj => h j (by omega)
    have h2 := h n (by omega)
    have h3 := Int.natAbs_add_le (sm n f) (f n)
    rw [Nat.succ_mul]
    omega
abbrev Vec := Nat → Int
def skip (j : Nat) (B : Nat → Vec) : Nat → Vec := fun i => if i < j then B i else B (i + 1)
def put (B : Nat → Vec) (c : Nat) (x : Vec) : Nat → Vec := fun i => if i = c then x else B i
def sgn (j : Nat) : Int := if j % 2 = 0 then 1 else -1
def det : Nat → (Nat → Vec) → Int
  | 0, _ => 1
  | m + 1, B => sm (m + 1) fun j => sgn (m + j) * (B j m * det m (skip j B))
theorem put_same {B : Nat → Vec} {c : Nat} {x : Vec} : put B c x c = x := by unfold put; rw [if_pos rfl]
theorem put_ne {B : Nat → Vec} {c i : Nat} {x : Vec} (h : i ≠ c) : put B c x i = B i := by unfold put; rw [if_neg h]
theorem put_put {B : Nat → Vec} {c : Nat} {x y : Vec} : put (put B c x) c y = put B c y := by
  funext i
  unfold put
  split <;> rfl
theorem put_comm {B : Nat → Vec} {c d : Nat} {x y : Vec} (h : c ≠ d) : put (put B c x) d y = put (put B d y) c x := by
  funext i
  simp only [put]
  grind
theorem put_self {B : Nat → Vec} {c : Nat} : put B c (B c) = B := by
  funext i
  unfold put
  split
  · next h => rw [h]
  · rfl
theorem det_congr : ∀ {m : Nat} {B C : Nat → Vec}, (∀ i k, i < m → k < m → B i k = C i k) → det m B = det m C
  | 0, _, _, _ => rfl
  | m + 1, B, C, h => by
    refine sm_congr fun j hj => ?_
    rw [h j m hj (by omega), det_congr (m := m) (B := skip j B) (C := skip j C) fun i k hi hk => ?_]
    unfold skip
    split
    · exact h i k (by omega) (by omega)
    · exact h (i + 1) k (by omega) (by omega)
theorem skip_put_same {j : Nat} {B : Nat → Vec} {z : Vec} : skip j (put B j z) = skip j B := by
  funext i
  unfold skip
  split
  · exact put_ne (by omega)
  · exact put_ne (by omega)
theorem skip_put {j c : Nat} {B : Nat → Vec} {z : Vec} (h : c ≠ j) : skip j (put B c z) = put (skip j B) (if c < j then c else c - 1) z := by
  funext i
  simp only [skip, put]
  grind
theorem det_lin : ∀ {m : Nat} {B : Nat → Vec} {c : Nat} {x y : Vec} {a b : Int}, c < m → det m (put B c fun k => a * x k + b * y k) = a * det m (put B c x) + b * det m (put B c y)
  | m + 1, B, c, x, y, a, b, hc => by
    show sm (m + 1) _ = a * sm (m + 1) _ + b * sm (m + 1) _
    rw [← sm_lin]
    refine sm_congr fun j hj => ?_
    by_cases e : c = j
    · subst e
      rw [skip_put_same, skip_put_same, skip_put_same, put_same, put_same, put_same]
      generalize det m (skip c B) = d
      generalize sgn (m + c) = s
      grind
    · rw [skip_put e, skip_put e, skip_put e, put_ne (Ne.symm e), put_ne (Ne.symm e), put_ne (Ne.symm e), det_lin (m := m) (by split <;> omega)]
      generalize det m (put (skip j B) (if c < j then c else c - 1) x) = d1
      generalize det m (put (skip j B) (if c < j then c else c - 1) y) = d2
      generalize sgn (m + j) = s
      generalize B j m = z
      grind
theorem det_adj : ∀ {m : Nat} {B : Nat → Vec} {a : Nat}, a + 1 < m → B a = B (a + 1) → det m B = 0
  | m + 1, B, a, ha, e => by
    show sm (m + 1) _ = 0
    rw [sm_two (a := a) (b := a + 1) (by omega) ha fun j hj h1 h2 => ?_]
    · have es : skip a B = skip (a + 1) B := by
        funext i
        unfold skip
        by_cases h1 : i < a
        · rw [if_pos h1, if_pos (by omega)]
        · rw [if_neg h1]
          by_cases h2 : i = a
          · subst h2
            rw [if_pos (by omega), e]
          · rw [if_neg (by omega)]
      have sg : sgn (m + (a + 1)) = - sgn (m + a) := by
        unfold sgn
        by_cases h : (m + a) % 2 = 0
        · rw [if_pos h, if_neg (by omega)]
        · rw [if_neg h, if_pos (by omega)]
          rfl
      rw [es, sg, e]
      generalize sgn (m + a) = s
      generalize B (a + 1) m * det m (skip (a + 1) B) = d
      grind
    · have : det m (skip j B) = 0 := by
        by_cases hlt : j < a
        · refine det_adj (a := a - 1) (by omega) ?_
          unfold skip
          rw [if_neg (by omega), if_neg (by omega), show a - 1 + 1 = a by omega]
          exact e
        · refine det_adj (a := a) (by omega) ?_
          unfold skip
          rw [if_pos (by omega), if_pos (by omega)]
          exact e
      rw [this]
      grind
theorem det_add {m : Nat} {B : Nat → Vec} {c : Nat} {x y : Vec} (hc : c < m) : det m (put B c fun k => x k + y k) = det m (put B c x) + det m (put B c y) := by
  have := @det_lin m B c x y 1 1 hc
  rw [show (fun k => x k + y k) = fun k => 1 * x k + 1 * y k by funext k; omega, this]
  omega
/-- two columns change places: the sign does -/
theorem swap_of {m : Nat} {B : Nat → Vec} {a b : Nat} (hab : a ≠ b) (ha : a < m) (hb : b < m) (alt : ∀ x : Vec, det m (put (put B a x) b x) = 0) (x y : Vec) :
    det m (put (put B a x) b y) = - det m (put (put B a y) b x) := by
  have h := alt fun k => x k + y k
  rw [det_add hb, put_comm hab, det_add ha, put_comm (c := a) (d := b) (x := fun k => x k + y k) (y := y) hab, det_add ha] at h
  rw [← put_comm (x := x) (y := x) hab, ← put_comm (x := y) (y := x) hab, ← put_comm (x := x) (y := y) hab, ← put_comm (x := y) (y := y) hab, alt x, alt y] at h
  omega
theorem det_eq_lt : ∀ {b m : Nat} {B : Nat → Vec} {a : Nat}, a < b → b < m → B a = B b → det m B = 0
  | b + 1, m, B, a, hab, hb, e => by
    by_cases h : a = b
    · subst h
      exact det_adj hb e
    · have adj : ∀ x : Vec, det m (put (put B b x) (b + 1) x) = 0 := fun x => det_adj (a := b) hb (by rw [put_same, put_ne (by omega), put_same])
      have sw := swap_of (B := B) (a := b) (b := b + 1) (by omega) (by omega) hb adj (B b) (B (b + 1))
      rw [put_self, put_self] at sw
      rw [sw, det_eq_lt (b := b) (a := a) (by omega) (by omega) ?_]
      · rfl
      · rw [put_ne (by omega), put_ne (by omega), put_ne (by omega), put_same]
        exact e
theorem det_eq {m : Nat} {B : Nat → Vec} {a b : Nat} (hab : a ≠ b) (ha : a < m) (hb : b < m) (e : B a = B b) : det m B = 0 := by
  rcases Nat.lt_or_gt_of_ne hab with h | h
  · exact det_eq_lt h hb e
  · exact det_eq_lt h ha e.symm
theorem det_swap {m : Nat} {B : Nat → Vec} {a b : Nat} (hab : a ≠ b) (ha : a < m) (hb : b < m) (x y : Vec) : det m (put (put B a x) b y) = - det m (put (put B a y) b x) :=
  swap_of hab ha hb (fun z => det_eq hab ha hb (by rw [put_same, put_ne hab, put_same])) x y
theorem det_zero {m : Nat} {B : Nat → Vec} {c : Nat} (hc : c < m) : det m (put B c fun _ => 0) = 0 := by
  have := @det_lin m B c (fun _ => 0) (fun _ => 0) 0 0 hc
  rw [show (fun k : Nat => (0 : Int) * (fun _ => 0 : Vec) k + 0 * (fun _ => 0 : Vec) k) = fun _ => 0 by funext k; rfl] at this
  rw [this]
  omega
theorem det_sm {m : Nat} {B : Nat → Vec} {c : Nat} (hc : c < m) {a : Nat → Int} {X : Nat → Vec} : ∀ {n : Nat}, det m (put B c fun k => sm n fun j => a j * X j k) = sm n fun j => a j * det m (put B c (X j))
  | 0 => det_zero hc
  | n + 1 => by
    show _ = sm n (fun j => a j * det m (put B c (X j))) + a n * det m (put B c (X n))
    rw [← det_sm hc (n := n)]
    have := @det_lin m B c (fun k => sm n fun j => a j * X j k) (X n) 1 (a n) hc
    rw [Int.one_mul] at this
    rw [← this]
    congr 1
    funext i
    congr 1
    funext k
    show sm n _ + _ = 1 * sm n _ + a n * X n k
    rw [Int.one_mul]
def unit (i : Nat) : Vec := fun k => if i = k then 1 else 0
theorem unit_same {i : Nat} : unit i i = 1 := if_pos rfl
theorem unit_ne {i k : Nat} (h : i ≠ k) : unit i k = 0 := if_neg h
theorem det_unit : ∀ {m : Nat}, det m unit = 1
  | 0 => rfl
  | m + 1 => by
    show sm (m + 1) _ = 1
    rw [sm_one (a := m) (by omega) fun j hj hn => ?_]
    · have : det m (skip m unit) = det m unit := det_congr fun i k hi hk => by unfold skip; rw [if_pos hi]
      rw [this, det_unit, unit_same]
      unfold sgn
      rw [if_pos (by omega)]
      rfl
    · rw [unit_ne hn]
      grind
theorem det_bound {M : Nat} : ∀ {m : Nat} {B : Nat → Vec}, (∀ i k, i < m → k < m → (B i k).natAbs ≤ M) → (det m B).natAbs ≤ (m * M) ^ m
  | 0, _, _ => by show (1 : Int).natAbs ≤ _; rw [Nat.pow_zero]; exact Nat.le_refl _
  | m + 1, B, h => by
    show (sm (m + 1) _).natAbs ≤ _
    have := sm_abs (n := m + 1) (f := fun j => sgn (m + j) * (B j m * det m (skip j B))) (b := M * ((m + 1) * M) ^ m) fun j hj => by
      have h1 := h j m hj (by omega)
      have h2 := det_bound (m := m) (B := skip j B) fun i k hi hk => by
        unfold skip
        split
        · exact h i k (by omega) (by omega)
        · exact h (i + 1) k (by omega) (by omega)
      have h3 : (m * M) ^ m ≤ ((m + 1) * M) ^ m := Nat.pow_le_pow_left (Nat.mul_le_mul_right _ (by omega)) _
      have h4 : (sgn (m + j) * (B j m * det m (skip j B))).natAbs = (B j m).natAbs * (det m (skip j B)).natAbs := by
        rw [Int.natAbs_mul, Int.natAbs_mul]
        unfold sgn
        split
        · exact Nat.one_mul _
        · exact Nat.one_mul _
      rw [h4]
      exact Nat.mul_le_mul h1 (Nat.le_trans h2 h3)
    refine Nat.le_trans this (Nat.le_of_eq ?_)
    rw [← Nat.mul_assoc, Nat.pow_succ, Nat.mul_comm]
/-- Cramer's rule for a column that is a sum of the others, D times -/
theorem det_two {m : Nat} {B : Nat → Vec} {r i : Nat} {x y : Vec} {D : Int} {t : Nat → Int} (hri : i ≠ r) (hr : r < m) (hi : i < m)
    (hy : ∀ k, k < m → D * y k = sm m fun j => t j * B j k) :
    D * det m (put (put B r x) i y) = t i * det m (put B r x) - t r * det m (put B i x) := by
  have h1 : D * det m (put (put B r x) i y) = det m (put (put B r x) i fun k => sm m fun j => t j * B j k) := by
    have e : det m (put (put B r x) i fun k => sm m fun j => t j * B j k) = det m (put (put B r x) i fun k => D * y k + 0 * y k) := det_congr fun a k _ hk => by
      by_cases e : a = i
      · rw [e, put_same, put_same]
        show sm m _ = D * y k + 0 * y k
        rw [← hy k hk]
        omega
      · rw [put_ne e, put_ne e]
    rw [e, det_lin hi]
    omega
  rw [h1, det_sm hi]
  have h2 : ∀ j, j < m → j ≠ i → j ≠ r → t j * det m (put (put B r x) i (B j)) = 0 := fun j hj e1 e2 => by
    rw [det_eq (a := j) (b := i) e1 hj hi (by rw [put_ne e1, put_ne e2, put_same])]
    omega
  have h3 : det m (put (put B r x) i (B i)) = det m (put B r x) := by
    rw [put_comm (Ne.symm hri), put_self]
  have h4 : det m (put (put B r x) i (B r)) = - det m (put B i x) := by
    rw [det_swap (Ne.symm hri) hr hi, put_self]
  rcases Nat.lt_or_gt_of_ne hri with h | h
  · rw [sm_two h hr fun j hj e1 e2 => h2 j hj e1 e2, h3, h4]
    grind
  · rw [sm_two h hi fun j hj e1 e2 => h2 j hj e2 e1, h3, h4]
    grind
end Det
set_option linter.all false
set_option maxRecDepth 100000
set_option maxHeartbeats 2000000
/-! Tables of columns by a basis: whole numbers over one bottom; a column comes for another; the rule of the least column never comes round. -/
namespace Simp
open Det
/-- columns, of which the first are the units; what each gains; the right side -/
structure Prob where
  m : Nat
  n : Nat
  A : Nat → Vec
  c : Nat → Int
  b : Vec
abbrev Bas := Nat → Nat
section
variable (P : Prob) (β : Bas)
def cols : Nat → Vec := fun i => P.A (β i)
def Dt : Int := det P.m (cols P β)
def T (i : Nat) (x : Vec) : Int := det P.m (put (cols P β) i x)
def gn (x : Vec) (κ : Int) : Int := sm P.m (fun i => P.c (β i) * T P β i x) - Dt P β * κ
def gk (k : Nat) : Int := gn P β (P.A k) (P.c k)
def zb : Int := gn P β P.b 0
end
def upd (β : Bas) (r e : Nat) : Bas := fun i => if i = r then e else β i
theorem upd_same {β : Bas} {r e : Nat} : upd β r e r = e := if_pos rfl
theorem upd_ne {β : Bas} {r e i : Nat} (h : i ≠ r) : upd β r e i = β i := if_neg h
structure Ok (P : Prob) (β : Bas) : Prop where
  pos : 0 < Dt P β
  cr : ∀ x k, k < P.m → Dt P β * x k = sm P.m fun j => T P β j x * P.A (β j) k
section
variable {P : Prob} {β : Bas}
theorem cols_upd {r e : Nat} : cols P (upd β r e) = put (cols P β) r (P.A e) := by
  funext i
  unfold cols upd put
  split <;> rfl
theorem T_basic {i j : Nat} (hi : i < P.m) (hj : j < P.m) : T P β i (P.A (β j)) = if i = j then Dt P β else 0 := by
  unfold T
  by_cases h : i = j
  · subst h
    rw [if_pos rfl, show P.A (β i) = cols P β i from rfl, put_self]
    rfl
  · rw [if_neg h]
    exact det_eq h hi hj (by rw [put_same, put_ne (Ne.symm h)]; rfl)
theorem Ok.inj (h : Ok P β) {i j : Nat} (hi : i < P.m) (hj : j < P.m) (e : β i = β j) : i = j := by
  apply Classical.byContradiction
  intro hn
  have : Dt P β = 0 := det_eq hn hi hj (by unfold cols; rw [e])
  have := h.pos
  omega
theorem Dt_upd {r e : Nat} : Dt P (upd β r e) = T P β r (P.A e) := by
  unfold Dt T
  rw [cols_upd]
theorem T_upd_r {r e : Nat} {x : Vec} : T P (upd β r e) r x = T P β r x := by
  unfold T
  rw [cols_upd, put_put]
theorem T_upd (h : Ok P β) {r e i : Nat} {x : Vec} (hr : r < P.m) (hi : i < P.m) (hn : i ≠ r) :
    Dt P β * T P (upd β r e) i x = T P β i x * T P β r (P.A e) - T P β r x * T P β i (P.A e) := by
  have := det_two (m := P.m) (B := cols P β) (r := r) (i := i) (x := P.A e) (y := x) (D := Dt P β) (t := fun j => T P β j x) hn hr hi (fun k hk => h.cr x k hk)
  unfold T
  rw [cols_upd, this]
  rfl
theorem sm_delta {n r : Nat} {z : Int} (hr : r < n) : sm n (fun j => if j = r then z else 0) = z := by
  rw [sm_one hr fun j _ hn => if_neg hn, if_pos rfl]
theorem mul_cancel {a x y : Int} (h : 0 < a) (e : a * x = a * y) : x = y := Int.eq_of_mul_eq_mul_left (by omega) e
theorem Ok.upd (h : Ok P β) {r e : Nat} (hr : r < P.m) (hp : 0 < T P β r (P.A e)) : Ok P (upd β r e) := by
  refine ⟨by rw [Dt_upd]; exact hp, fun x k hk => mul_cancel h.pos ?_⟩
  rw [Dt_upd, ← sm_mul]
  have e1 := h.cr x k hk
  have e2 := h.cr (P.A e) k hk
  have : sm P.m (fun j => Dt P β * (T P (Simp.upd β r e) j x * P.A (Simp.upd β r e j) k)) =
      sm P.m fun j => (T P β r (P.A e) * (T P β j x * P.A (β j) k) - T P β r x * (T P β j (P.A e) * P.A (β j) k)) + if j = r then T P β r x * (Dt P β * P.A e k) else 0 := by
    refine sm_congr fun j hj => ?_
    by_cases hn : j = r
    · subst hn
      rw [T_upd_r, upd_same, if_pos rfl]
      grind
    · rw [upd_ne hn, if_neg hn, ← Int.mul_assoc, T_upd h hr hj hn]
      grind
  rw [this, sm_add, sm_sub, sm_mul, sm_mul, sm_delta hr, ← e1, ← e2]
  grind
theorem gn_upd (h : Ok P β) {r e : Nat} {x : Vec} {κ : Int} (hr : r < P.m) : Dt P β * gn P (upd β r e) x κ = gn P β x κ * T P β r (P.A e) - gk P β e * T P β r x := by
  unfold gk gn
  rw [Dt_upd, Int.mul_sub, ← sm_mul]
  have : sm P.m (fun i => Dt P β * (P.c (upd β r e i) * T P (upd β r e) i x)) =
      sm P.m fun i => (T P β r (P.A e) * (P.c (β i) * T P β i x) - T P β r x * (P.c (β i) * T P β i (P.A e))) + if i = r then P.c e * Dt P β * T P β r x else 0 := by
    refine sm_congr fun i hi => ?_
    by_cases hn : i = r
    · subst hn
      rw [T_upd_r, upd_same, if_pos rfl]
      grind
    · rw [upd_ne hn, if_neg hn, show Dt P β * (P.c (β i) * T P (upd β r e) i x) = P.c (β i) * (Dt P β * T P (upd β r e) i x) by grind, T_upd h hr hi hn]
      grind
  rw [this, sm_add, sm_sub, sm_mul, sm_mul, sm_delta hr]
  generalize sm P.m (fun i => P.c (β i) * T P β i x) = s1
  generalize sm P.m (fun i => P.c (β i) * T P β i (P.A e)) = s2
  grind
theorem T_lin {i : Nat} (hi : i < P.m) {x y : Vec} {a c : Int} : T P β i (fun k => a * x k + c * y k) = a * T P β i x + c * T P β i y := det_lin hi
theorem T_sm {i n : Nat} (hi : i < P.m) {a : Nat → Int} {X : Nat → Vec} : T P β i (fun k => sm n fun j => a j * X j k) = sm n fun j => a j * T P β i (X j) := det_sm hi
theorem T_congr {i : Nat} {x y : Vec} (h : ∀ k, k < P.m → x k = y k) : T P β i x = T P β i y := det_congr fun a k _ hk => by
  by_cases e : a = i
  · rw [e, put_same, put_same, h k hk]
  · rw [put_ne e, put_ne e]
/-- a vector is the sum of its numbers times the units -/
theorem vec_units {x : Vec} {m k : Nat} (hk : k < m) : x k = sm m fun j => x j * unit j k := by
  rw [sm_one hk fun j _ hn => by rw [unit_ne hn]; omega, unit_same]
  omega
theorem T_units {i : Nat} (hi : i < P.m) {x : Vec} : T P β i x = sm P.m fun j => x j * T P β i (unit j) := by
  rw [← T_sm hi]
  exact T_congr fun k hk => vec_units hk
theorem gk_basic (h : Ok P β) {j : Nat} (hj : j < P.m) : gk P β (β j) = 0 := by
  unfold gk gn
  rw [sm_one hj fun i hi hn => by rw [T_basic hi hj, if_neg hn]; omega, T_basic hj hj, if_pos rfl]
  grind
/-- one table seen from another -/
theorem gk_of (h : Ok P β) {γ : Bas} {s : Nat} : Dt P β * gk P γ s = sm P.m (fun i => T P β i (P.A s) * gk P γ (β i)) + Dt P γ * gk P β s := by
  have e1 : ∀ j, j < P.m → Dt P β * T P γ j (P.A s) = sm P.m fun i => T P β i (P.A s) * T P γ j (P.A (β i)) := fun j hj => by
    rw [← T_sm hj]
    have : T P γ j (fun k => sm P.m fun j => T P β j (P.A s) * P.A (β j) k) = T P γ j fun k => Dt P β * P.A s k + 0 * P.A s k := T_congr fun k hk => by
      rw [← h.cr (P.A s) k hk]
      omega
    rw [this, T_lin hj]
    omega
  unfold gk gn
  rw [Int.mul_sub, ← sm_mul, sm_congr (g := fun j => sm P.m fun i => T P β i (P.A s) * (P.c (γ j) * T P γ j (P.A (β i)))) fun j hj => ?_, sm_swap]
  · rw [sm_congr (f := fun i => T P β i (P.A s) * (sm P.m (fun j => P.c (γ j) * T P γ j (P.A (β i))) - Dt P γ * P.c (β i))) (g := fun i => sm P.m (fun j => T P β i (P.A s) * (P.c (γ j) * T P γ j (P.A (β i)))) - Dt P γ * (P.c (β i) * T P β i (P.A s))) fun i hi => ?_, sm_sub, sm_mul]
    · grind
    · rw [sm_mul]
      grind
  · rw [show Dt P β * (P.c (γ j) * T P γ j (P.A s)) = P.c (γ j) * (Dt P β * T P γ j (P.A s)) by grind, e1 j hj, ← sm_mul]
    exact sm_congr fun i _ => by grind
end
/-- a turn by the rule of the least column -/
structure Turn (P : Prob) (β : Bas) (r e : Nat) : Prop where
  hr : r < P.m
  he : e < P.n
  neg : gk P β e < 0
  least : ∀ k, k < e → 0 ≤ gk P β k
  pos : 0 < T P β r (P.A e)
  ratio : ∀ i, i < P.m → 0 < T P β i (P.A e) → T P β r P.b * T P β i (P.A e) ≤ T P β i P.b * T P β r (P.A e) ∧ (T P β r P.b * T P β i (P.A e) = T P β i P.b * T P β r (P.A e) → β r ≤ β i)
structure Good (P : Prob) (β : Bas) : Prop where
  ok : Ok P β
  fe : ∀ i, i < P.m → 0 ≤ T P β i P.b
  rg : ∀ i, i < P.m → β i < P.n
section
variable {P : Prob} {β : Bas} {r e : Nat}
theorem Good.turn (h : Good P β) (t : Turn P β r e) : Good P (upd β r e) := by
  refine ⟨h.ok.upd t.hr t.pos, fun i hi => ?_, fun i hi => ?_⟩
  · by_cases hn : i = r
    · subst hn
      rw [T_upd_r]
      exact h.fe i hi
    · have e1 := T_upd h.ok (e := e) (x := P.b) t.hr hi hn
      have p := h.ok.pos
      have h1 := h.fe i hi
      have h2 := h.fe r t.hr
      have : 0 ≤ Dt P β * T P (upd β r e) i P.b := by
        rw [e1]
        rcases Int.lt_or_le 0 (T P β i (P.A e)) with hp | hp
        · have := (t.ratio i hi hp).1
          omega
        · have a1 := Int.mul_nonneg h1 (Int.le_of_lt t.pos)
          have a2 := Int.mul_nonneg h2 (show 0 ≤ - T P β i (P.A e) by omega)
          rw [Int.mul_neg] at a2
          omega
      rcases Int.lt_or_le (T P (upd β r e) i P.b) 0 with hl | hl
      · have := Int.mul_neg_of_pos_of_neg p hl
        omega
      · exact hl
  · by_cases hn : i = r
    · subst hn
      rw [upd_same]
      exact t.he
    · rw [upd_ne hn]
      exact h.rg i hi
/-- what a column takes a share of: nought where it stands in no row -/
def val (P : Prob) (β : Bas) (k : Nat) : Int := sm P.m fun i => if β i = k then T P β i P.b else 0
theorem val_basic (h : Ok P β) {i : Nat} (hi : i < P.m) : val P β (β i) = T P β i P.b := by
  unfold val
  rw [sm_one hi fun j hj hn => if_neg fun e => hn (h.inj hj hi e), if_pos rfl]
theorem val_out {k : Nat} (h : ∀ i, i < P.m → β i ≠ k) : val P β k = 0 := sm_zero fun i hi => if_neg (h i hi)
theorem val_turn (h : Good P β) (t : Turn P β r e) (dg : T P β r P.b = 0) (k : Nat) : Dt P β * val P (upd β r e) k = T P β r (P.A e) * val P β k := by
  unfold val
  rw [← sm_mul, ← sm_mul]
  refine sm_congr fun i hi => ?_
  by_cases hn : i = r
  · subst hn
    rw [T_upd_r, dg]
    grind
  · rw [upd_ne hn]
    split
    · rw [T_upd h.ok t.hr hi hn, dg]
      grind
    · grind
theorem val_iff (h : Good P β) (t : Turn P β r e) (dg : T P β r P.b = 0) (k : Nat) : val P (upd β r e) k = 0 ↔ val P β k = 0 := by
  have e1 := val_turn h t dg k
  have p1 := h.ok.pos
  have p2 := t.pos
  constructor
  · intro z
    rw [z, Int.mul_zero] at e1
    rcases Int.mul_eq_zero.mp e1.symm with h | h
    · omega
    · exact h
  · intro z
    rw [z, Int.mul_zero] at e1
    rcases Int.mul_eq_zero.mp e1 with h | h
    · omega
    · exact h
theorem zb_turn (h : Good P β) (t : Turn P β r e) : zb P β * Dt P (upd β r e) ≤ zb P (upd β r e) * Dt P β ∧ (T P β r P.b ≠ 0 → zb P β * Dt P (upd β r e) < zb P (upd β r e) * Dt P β) := by
  have e1 := gn_upd h.ok (e := e) (x := P.b) (κ := 0) t.hr
  have h2 := h.fe r t.hr
  have h3 := t.neg
  unfold zb
  rw [Dt_upd, Int.mul_comm (gn P (upd β r e) P.b 0), e1]
  have a1 := Int.mul_nonneg (show 0 ≤ - gk P β e by omega) h2
  rw [Int.neg_mul] at a1
  refine ⟨by omega, fun hn => ?_⟩
  have a2 := Int.mul_pos (show 0 < - gk P β e by omega) (show 0 < T P β r P.b by omega)
  rw [Int.neg_mul] at a2
  omega
end
/-- a row of turns -/
structure Run (P : Prob) (s : Nat → Bas) (r e : Nat → Nat) (N : Nat) : Prop where
  good : Good P (s 0)
  turn : ∀ i, i < N → Turn P (s i) (r i) (e i)
  step : ∀ i, i < N → s (i + 1) = upd (s i) (r i) (e i)
section
variable {P : Prob} {s : Nat → Bas} {r e : Nat → Nat} {N : Nat}
theorem Run.goods (h : Run P s r e N) : ∀ {i}, i ≤ N → Good P (s i)
  | 0, _ => h.good
  | i + 1, hi => by
    rw [h.step i (by omega)]
    exact (h.goods (by omega)).turn (h.turn i (by omega))
theorem le_tr {a b c x y z : Int} (hb : 0 < y) (ha : 0 < x) (hc : 0 < z) (h1 : a * y ≤ b * x) (h2 : b * z ≤ c * y) : a * z ≤ c * x := by
  have e1 := Int.mul_le_mul_of_nonneg_right h1 (Int.le_of_lt hc)
  have e2 := Int.mul_le_mul_of_nonneg_right h2 (Int.le_of_lt ha)
  have : a * z * y ≤ c * x * y := by
    have a1 : a * y * z = a * z * y := by grind
    have a2 : b * x * z = b * z * x := by grind
    have a3 : c * y * x = c * x * y := by grind
    omega
  exact Int.le_of_mul_le_mul_right this hb
theorem Run.mono (h : Run P s r e N) : ∀ {j i}, i ≤ j → j ≤ N → zb P (s i) * Dt P (s j) ≤ zb P (s j) * Dt P (s i)
  | 0, i, hi, _ => by
    have : i = 0 := by omega
    subst this
    exact Int.le_refl _
  | j + 1, i, hi, hj => by
    by_cases e1 : i = j + 1
    · subst e1
      exact Int.le_refl _
    · have g := h.goods (i := j) (by omega)
      have t := h.turn j (by omega)
      have z := (zb_turn g t).1
      have g2 := h.goods (i := j + 1) hj
      rw [← h.step j (by omega)] at z
      exact le_tr g.ok.pos (h.goods (i := i) (by omega)).ok.pos g2.ok.pos (h.mono (by omega) (by omega)) z
theorem Run.flat (h : Run P s r e N) (hc : s N = s 0) : ∀ i, i < N → T P (s i) (r i) P.b = 0 := fun i hi => by
  apply Classical.byContradiction
  intro hn
  have g := h.goods (i := i) (by omega)
  have g2 := h.goods (i := i + 1) (by omega)
  have z := (zb_turn g (h.turn i hi)).2 hn
  rw [← h.step i hi] at z
  have a1 := h.mono (i := i + 1) (j := N) (by omega) (by omega)
  have a2 := h.mono (i := 0) (j := i) (by omega) (by omega)
  rw [hc] at a1
  have := le_tr (h.goods (i := 0) (by omega)).ok.pos g2.ok.pos g.ok.pos a1 a2
  omega
theorem Run.vals (h : Run P s r e N) (hc : s N = s 0) (k : Nat) : ∀ {i}, i ≤ N → (val P (s i) k = 0 ↔ val P (s 0) k = 0)
  | 0, _ => Iff.rfl
  | i + 1, hi => by
    rw [h.step i (by omega), val_iff (h.goods (by omega)) (h.turn i (by omega)) (h.flat hc i (by omega))]
    exact h.vals hc k (by omega)
def In (P : Prob) (β : Bas) (k : Nat) : Prop := ∃ i, i < P.m ∧ β i = k
/-- who is out at one time and in at another comes in -/
theorem Run.comes (h : Run P s r e N) (hc : s N = s 0) {k i j : Nat} (hi : i ≤ N) (hj : j ≤ N) (ho : ¬ In P (s i) k) (hin : In P (s j) k) : ∃ l, l < N ∧ e l = k := by
  apply Classical.byContradiction
  intro hn
  have stay : ∀ d a, a + d ≤ N → ¬ In P (s a) k → ¬ In P (s (a + d)) k := by
    intro d
    induction d with
    | zero => intro a _ h; exact h
    | succ d ih =>
      intro a ha hno
      have := ih a (by omega) hno
      rintro ⟨x, hx, ex⟩
      rw [show a + (d + 1) = a + d + 1 by omega, h.step (a + d) (by omega)] at ex
      by_cases hr : x = r (a + d)
      · subst hr
        rw [upd_same] at ex
        exact hn ⟨a + d, by omega, ex⟩
      · rw [upd_ne hr] at ex
        exact this ⟨x, hx, ex⟩
  have h1 := stay (N - i) i (by omega) ho
  rw [show i + (N - i) = N by omega, hc] at h1
  have h2 := stay j 0 (by omega) h1
  rw [Nat.zero_add] at h2
  exact h2 hin
/-- and who comes in goes out -/
theorem Run.goes (h : Run P s r e N) (hc : s N = s 0) {k i j : Nat} (hi : i ≤ N) (hj : j ≤ N) (ho : ¬ In P (s i) k) (hin : In P (s j) k) : ∃ l, l < N ∧ s l (r l) = k := by
  apply Classical.byContradiction
  intro hn
  have stay : ∀ d a, a + d ≤ N → In P (s a) k → In P (s (a + d)) k := by
    intro d
    induction d with
    | zero => intro a _ h; exact h
    | succ d ih =>
      intro a ha hin
      obtain ⟨x, hx, ex⟩ := ih a (by omega) hin
      refine ⟨x, hx, ?_⟩
      rw [show a + (d + 1) = a + d + 1 by omega, h.step (a + d) (by omega)]
      rw [upd_ne fun hr => hn ⟨a + d, by omega, by rw [← hr]; exact ex⟩]
      exact ex
  have h1 := stay (N - j) j (by omega) hin
  rw [show j + (N - j) = N by omega, hc] at h1
  have h2 := stay i 0 (by omega) h1
  rw [Nat.zero_add] at h2
  exact ho h2
theorem exists_max {p : Nat → Prop} {f : Nat → Nat} {N : Nat} (hN : 0 < N) : ∃ i, i < N ∧ ∀ j, j < N → f j ≤ f i := by
  induction N with
  | zero => omega
  | succ N ih =>
    by_cases h0 : N = 0
    · subst h0
      exact ⟨0, by omega, fun j hj => by rw [show j = 0 by omega]; exact Nat.le_refl _⟩
    · obtain ⟨i, hi, h⟩ := ih (by omega)
      by_cases hf : f N ≤ f i
      · exact ⟨i, by omega, fun j hj => by
          by_cases e : j = N
          · rw [e]; exact hf
          · exact h j (by omega)⟩
      · exact ⟨N, by omega, fun j hj => by
          by_cases e : j = N
          · rw [e]; exact Nat.le_refl _
          · have := h j (by omega); omega⟩
/-- by the rule of the least column no basis comes twice -/
theorem Run.no_ring (h : Run P s r e N) (hN : 0 < N) (hc : s N = s 0) : False := by
  obtain ⟨t1, ht1, hmax⟩ := exists_max (p := fun _ => True) (f := e) hN
  generalize ht : e t1 = t at hmax
  have tn1 := h.turn t1 ht1
  rw [ht] at tn1
  have g1 := h.goods (i := t1) (by omega)
  have out : ¬ In P (s t1) t := fun ⟨x, hx, ex⟩ => by
    have := gk_basic g1.ok hx
    rw [ex] at this
    have := tn1.neg
    omega
  have inn : In P (s (t1 + 1)) t := ⟨r t1, tn1.hr, by rw [h.step t1 ht1, upd_same, ht]⟩
  obtain ⟨t2, ht2, hl⟩ := h.goes hc (by omega) (by omega) out inn
  have tn2 := h.turn t2 ht2
  have g2 := h.goods (i := t2) (by omega)
  have dg := h.flat hc t2 ht2
  have hs : e t2 ≠ t := fun e1 => by
    have := gk_basic g2.ok tn2.hr
    rw [hl, ← e1] at this
    have := tn2.neg
    omega
  have hst : e t2 < t := by have := hmax t2 ht2; omega
  have idt := gk_of g2.ok (γ := s t1) (s := e t2)
  have gs := tn1.least _ hst
  have p1 := g1.ok.pos
  have p2 := g2.ok.pos
  have ng := tn2.neg
  have a1 := Int.mul_nonneg (Int.le_of_lt p2) gs
  have a2 := Int.mul_neg_of_pos_of_neg p1 ng
  obtain ⟨i, hi, hpos⟩ := sm_pos (n := P.m) (f := fun i => T P (s t2) i (P.A (e t2)) * gk P (s t1) (s t2 i)) (by omega)
  have hg : gk P (s t1) (s t2 i) ≠ 0 := fun e0 => by rw [e0, Int.mul_zero] at hpos; omega
  have o2 : ¬ In P (s t1) (s t2 i) := fun ⟨x, hx, ex⟩ => hg (by rw [← ex]; exact gk_basic g1.ok hx)
  obtain ⟨t3, ht3, e3⟩ := h.comes hc (i := t1) (j := t2) (by omega) (by omega) o2 ⟨i, hi, rfl⟩
  have hle : s t2 i ≤ t := by have := hmax t3 ht3; omega
  have hne : s t2 i ≠ t := fun e0 => by
    have : i = r t2 := g2.ok.inj hi tn2.hr (by rw [e0, hl])
    subst this
    rw [e0] at hpos
    have b1 := tn2.pos
    have b2 := tn1.neg
    have := Int.mul_neg_of_pos_of_neg b1 b2
    omega
  have hlt : s t2 i < t := by omega
  have gp := tn1.least _ hlt
  have Tp : 0 < T P (s t2) i (P.A (e t2)) := by
    rcases Int.lt_or_le 0 (T P (s t2) i (P.A (e t2))) with h | h
    · exact h
    · have := Int.mul_nonneg (show 0 ≤ - T P (s t2) i (P.A (e t2)) by omega) gp
      rw [Int.neg_mul] at this
      omega
  have z : T P (s t2) i P.b = 0 := by
    rw [← val_basic g2.ok hi]
    refine (h.vals hc _ (by omega)).mpr ((h.vals hc _ (i := t1) (by omega)).mp (val_out fun x hx ex => o2 ⟨x, hx, ex⟩))
  have := (tn2.ratio i hi Tp).2 (by rw [dg, z]; omega)
  rw [hl] at this
  omega
end
end Simp
set_option linter.all false
set_option maxRecDepth 100000
set_option maxHeartbeats 2000000
/-! Tables of columns: how many turns there are; what stands at the end. -/
namespace Simp
open Det
/-! ### rows of turns are short -/
def enc (n : Nat) (β : Bas) : Nat → Nat
  | 0 => 0
  | m + 1 => β m + enc n β m * n
theorem enc_lt {n : Nat} {β : Bas} : ∀ {m : Nat}, (∀ i, i < m → β i < n) → enc n β m < n ^ m
  | 0, _ => by rw [Nat.pow_zero]; exact Nat.one_pos
  | m + 1, h => by
    have h1 := enc_lt (m := m) fun i hi => h i (by omega)
    have h2 := h m (by omega)
    have h3 : (enc n β m + 1) * n ≤ n ^ m * n := Nat.mul_le_mul_right _ h1
    rw [Nat.succ_mul] at h3
    show β m + enc n β m * n < n ^ (m + 1)
    rw [Nat.pow_succ]
    omega
theorem enc_inj {n : Nat} {β γ : Bas} : ∀ {m : Nat}, (∀ i, i < m → β i < n) → (∀ i, i < m → γ i < n) → enc n β m = enc n γ m → ∀ i, i < m → β i = γ i
  | m + 1, h1, h2, e, i, hi => by
    have b := h1 m (by omega)
    have c := h2 m (by omega)
    have e : β m + enc n β m * n = γ m + enc n γ m * n := e
    have e1 : β m = γ m := by
      have := congrArg (· % n) e
      simp only [Nat.add_mul_mod_self_right, Nat.mod_eq_of_lt b, Nat.mod_eq_of_lt c] at this
      exact this
    have e2 : enc n β m = enc n γ m := Nat.eq_of_mul_eq_mul_right (show 0 < n by omega) (by omega)
    by_cases hm : i = m
    · rw [hm, e1]
    · exact enc_inj (fun i hi => h1 i (by omega)) (fun i hi => h2 i (by omega)) e2 i (by omega)
section
variable {P : Prob} {s : Nat → Bas} {r e : Nat → Nat} {N : Nat}
theorem Run.out (h : Run P s r e N) : ∀ {i}, i ≤ N → ∀ x, P.m ≤ x → s i x = s 0 x
  | 0, _, _, _ => rfl
  | i + 1, hi, x, hx => by
    rw [h.step i (by omega), upd_ne (by have := (h.turn i (by omega)).hr; omega)]
    exact h.out (by omega) x hx
theorem Run.sub (h : Run P s r e N) {a d : Nat} (hd : a + d ≤ N) : Run P (fun i => s (a + i)) (fun i => r (a + i)) (fun i => e (a + i)) d :=
  ⟨h.goods (by omega), fun i hi => h.turn (a + i) (by omega), fun i hi => h.step (a + i) (by omega)⟩
theorem Run.short (h : Run P s r e N) : N + 1 ≤ P.n ^ P.m := by
  have nd : ((List.range (N + 1)).map fun i => enc P.n (s i) P.m).Nodup := by
    rw [List.Nodup, List.pairwise_map]
    refine List.Pairwise.imp_of_mem ?_ List.pairwise_lt_range
    intro i j hi hj hij he
    have hi := List.mem_range.mp hi
    have hj := List.mem_range.mp hj
    have same := enc_inj (fun x hx => (h.goods (i := i) (by omega)).rg x hx) (fun x hx => (h.goods (i := j) (by omega)).rg x hx) he
    have : s i = s j := by
      funext x
      by_cases hx : x < P.m
      · exact same x hx
      · rw [h.out (i := i) (by omega) x (by omega), h.out (i := j) (by omega) x (by omega)]
    exact (h.sub (a := i) (d := j - i) (by omega)).no_ring (by omega) (by show s (i + (j - i)) = s (i + 0); rw [show i + (j - i) = j by omega, Nat.add_zero, this])
  have := nd.length_le_of_subset (l₂ := List.range (P.n ^ P.m)) fun x hx => by
    obtain ⟨i, hi, rfl⟩ := List.mem_map.mp hx
    exact List.mem_range.mpr (enc_lt fun x hx => (h.goods (i := i) (by have := List.mem_range.mp hi; omega)).rg x hx)
  rw [List.length_map, List.length_range, List.length_range] at this
  exact this
theorem Run.more (h : Run P s r e N) {r' e' : Nat} (t : Turn P (s N) r' e') : Run P (fun i => if i ≤ N then s i else upd (s N) r' e') (fun i => if i < N then r i else r') (fun i => if i < N then e i else e') (N + 1) := by
  refine ⟨by rw [if_pos (by omega)]; exact h.good, fun i hi => ?_, fun i hi => ?_⟩
  · rw [if_pos (by omega)]
    by_cases hn : i < N
    · rw [if_pos hn, if_pos hn]
      exact h.turn i hn
    · have : i = N := by omega
      subst this
      rw [if_neg hn, if_neg hn]
      exact t
  · by_cases hn : i < N
    · rw [if_pos (by omega), if_pos (by omega), if_pos hn, if_pos hn]
      exact h.step i hn
    · have : i = N := by omega
      subst this
      rw [if_neg (by omega), if_pos (by omega), if_neg hn, if_neg hn]
theorem Run.none (h : Good P s0) : Run P (fun _ => s0) (fun _ => 0) (fun _ => 0) 0 := ⟨h, fun i hi => absurd hi (by omega), fun i hi => absurd hi (by omega)⟩
end
/-! ### what stands at the end -/
structure Std (P : Prob) : Prop where
  u : ∀ k, k < P.m → P.A k = unit k
  z : ∀ k, k < P.m → P.c k = 0
  mn : P.m ≤ P.n
  bn : ∀ k, k < P.m → 0 ≤ P.b k
theorem sm_split {f : Nat → Int} {m : Nat} : ∀ {d : Nat}, sm (m + d) f = sm m f + sm d fun k => f (m + k)
  | 0 => by show sm m f = sm m f + 0; omega
  | d + 1 => by
    show sm (m + d) f + f (m + d) = sm m f + (sm d (fun k => f (m + k)) + f (m + d))
    rw [sm_split]
    omega
section
variable {P : Prob} {β : Bas}
theorem Std.dt0 (h : Std P) : Dt P id = 1 := by
  unfold Dt
  rw [← det_unit (m := P.m)]
  refine det_congr fun i k hi hk => ?_
  show P.A i k = _
  rw [h.u i hi]
theorem Std.t0 (h : Std P) {i : Nat} (hi : i < P.m) {x : Vec} : T P id i x = x i := by
  rw [T_units hi, sm_one hi fun j hj hn => ?_]
  · have := T_basic (P := P) (β := id) hi hi
    rw [if_pos rfl, h.dt0, show P.A (id i) = unit i from h.u i hi] at this
    rw [this]
    omega
  · have := T_basic (P := P) (β := id) hi hj
    rw [if_neg (Ne.symm hn), show P.A (id j) = unit j from h.u j hj] at this
    rw [this]
    omega
theorem Std.good0 (h : Std P) : Good P id := by
  refine ⟨⟨by rw [h.dt0]; decide, fun x k hk => ?_⟩, fun i hi => by rw [h.t0 hi]; exact h.bn i hi, fun i hi => by have := h.mn; show i < P.n; omega⟩
  rw [h.dt0, Int.one_mul]
  conv => lhs; rw [vec_units (x := x) hk]
  refine sm_congr fun j hj => ?_
  rw [h.t0 hj, show P.A (id j) = unit j from h.u j hj]
theorem Std.yk (h : Std P) {j : Nat} (hj : j < P.m) : gk P β j = sm P.m fun i => P.c (β i) * T P β i (unit j) := by
  unfold gk gn
  rw [h.z j hj, h.u j hj]
  omega
theorem Std.sum_y (h : Std P) {x : Vec} : sm P.m (fun i => P.c (β i) * T P β i x) = sm P.m fun j => x j * gk P β j := by
  rw [sm_congr (g := fun i => sm P.m fun j => x j * (P.c (β i) * T P β i (unit j))) fun i hi => ?_, sm_swap]
  · refine sm_congr fun j hj => ?_
    rw [h.yk hj, sm_mul]
  · rw [T_units hi, ← sm_mul]
    exact sm_congr fun j _ => by grind
/-- a column is worth by the rows' prices what it gains, and so much more -/
theorem Std.gk_y (h : Std P) (k : Nat) : sm P.m (fun j => P.A k j * gk P β j) = Dt P β * P.c k + gk P β k := by
  rw [← h.sum_y]
  unfold gk gn
  omega
theorem Std.zb_y (h : Std P) : sm P.m (fun j => P.b j * gk P β j) = zb P β := by
  rw [← h.sum_y]
  unfold zb gn
  omega
theorem val_nn (h : Good P β) (k : Nat) : 0 ≤ val P β k := sm_nn fun i hi => by
  split
  · exact h.fe i hi
  · omega
theorem val_sum (h : Good P β) {f : Nat → Int} : sm P.n (fun k => val P β k * f k) = sm P.m fun i => T P β i P.b * f (β i) := by
  rw [sm_congr (g := fun k => sm P.m fun i => (if β i = k then T P β i P.b else 0) * f k) fun k _ => ?_, sm_swap]
  · refine sm_congr fun i hi => ?_
    rw [sm_one (h.rg i hi) fun k _ hn => by rw [if_neg (Ne.symm hn)]; omega, if_pos rfl]
  · unfold val
    rw [Int.mul_comm, ← sm_mul]
    exact sm_congr fun i _ => Int.mul_comm _ _
theorem val_A (h : Good P β) {j : Nat} (hj : j < P.m) : sm P.n (fun k => val P β k * P.A k j) = Dt P β * P.b j := by
  rw [val_sum h (f := fun k => P.A k j), ← h.ok.cr P.b j hj]
theorem val_c (h : Good P β) : sm P.n (fun k => val P β k * P.c k) = zb P β := by
  rw [val_sum h (f := fun k => P.c k)]
  unfold zb gn
  rw [Int.mul_zero, Int.sub_zero]
  exact sm_congr fun i _ => Int.mul_comm _ _
/-- the added columns' shares come to no more than the right side -/
theorem Std.fits (s : Std P) {f : Nat → Int} {z : Int} {j : Nat} (hj : j < P.m) (nn : ∀ k, k < P.m → 0 ≤ f k) (e : sm P.n (fun k => f k * P.A k j) = z) : sm (P.n - P.m) (fun k => f (P.m + k) * P.A (P.m + k) j) ≤ z := by
  have h1 : sm P.n (fun k => f k * P.A k j) = sm P.m (fun k => f k * P.A k j) + sm (P.n - P.m) fun k => f (P.m + k) * P.A (P.m + k) j := by
    rw [← sm_split, show P.m + (P.n - P.m) = P.n by have := s.mn; omega]
  have h2 : sm P.m (fun k => f k * P.A k j) = f j := by
    rw [sm_one hj fun k hk hn => by rw [s.u k hk, unit_ne hn]; omega, s.u j hj, unit_same]
    omega
  have := nn j hj
  omega
theorem Std.gains (s : Std P) {f : Nat → Int} {z : Int} (e : sm P.n (fun k => f k * P.c k) = z) : sm (P.n - P.m) (fun k => f (P.m + k) * P.c (P.m + k)) = z := by
  have h1 : sm P.n (fun k => f k * P.c k) = sm P.m (fun k => f k * P.c k) + sm (P.n - P.m) fun k => f (P.m + k) * P.c (P.m + k) := by
    rw [← sm_split, show P.m + (P.n - P.m) = P.n by have := s.mn; omega]
  have h2 : sm P.m (fun k => f k * P.c k) = 0 := sm_zero fun k hk => by rw [s.z k hk]; omega
  omega
/-- shares that gain without end -/
def ray (P : Prob) (β : Bas) (e k : Nat) : Int := (if k = e then Dt P β else 0) + sm P.m fun i => if β i = k then - T P β i (P.A e) else 0
theorem ray_sum (h : Good P β) {e : Nat} (he : e < P.n) {f : Nat → Int} : sm P.n (fun k => ray P β e k * f k) = Dt P β * f e - sm P.m fun i => T P β i (P.A e) * f (β i) := by
  have h1 : sm P.n (fun k => ray P β e k * f k) = sm P.n (fun k => (if k = e then Dt P β * f e else 0) + sm P.m fun i => (if β i = k then - T P β i (P.A e) else 0) * f k) := sm_congr fun k _ => by
    unfold ray
    rw [Int.add_mul]
    congr 1
    · split
      · next h => rw [h]
      · omega
    · rw [Int.mul_comm, ← sm_mul]
      exact sm_congr fun i _ => Int.mul_comm _ _
  rw [h1, sm_add, sm_delta he, sm_swap, Int.sub_eq_add_neg]
  congr 1
  have h2 : - sm P.m (fun i => T P β i (P.A e) * f (β i)) = sm P.m fun i => -1 * (T P β i (P.A e) * f (β i)) := by rw [sm_mul]; omega
  rw [h2]
  refine sm_congr fun i hi => ?_
  rw [sm_one (h.rg i hi) fun k _ hn => by rw [if_neg (Ne.symm hn)]; omega, if_pos rfl]
  grind
theorem ray_A (h : Good P β) {e j : Nat} (he : e < P.n) (hj : j < P.m) : sm P.n (fun k => ray P β e k * P.A k j) = 0 := by
  rw [ray_sum h he (f := fun k => P.A k j), h.ok.cr (P.A e) j hj]
  omega
theorem ray_c (h : Good P β) {e : Nat} (he : e < P.n) : sm P.n (fun k => ray P β e k * P.c k) = - gk P β e := by
  rw [ray_sum h he (f := fun k => P.c k)]
  unfold gk gn
  rw [sm_congr (f := fun i => T P β i (P.A e) * P.c (β i)) (g := fun i => P.c (β i) * T P β i (P.A e)) fun i _ => Int.mul_comm _ _]
  omega
theorem ray_nn (h : Good P β) {e : Nat} (hn : ∀ i, i < P.m → T P β i (P.A e) ≤ 0) (k : Nat) : 0 ≤ ray P β e k := by
  unfold ray
  have h1 : 0 ≤ sm P.m fun i => if β i = k then - T P β i (P.A e) else 0 := sm_nn fun i hi => by
    have := hn i hi
    split <;> omega
  have := h.ok.pos
  split <;> omega
end
/-! ### sizes -/
structure Small (P : Prob) (M : Nat) : Prop where
  A : ∀ k j, k < P.n → j < P.m → (P.A k j).natAbs ≤ M
  b : ∀ j, j < P.m → (P.b j).natAbs ≤ M
  c : ∀ k, k < P.n → (P.c k).natAbs ≤ M
section
variable {P : Prob} {β : Bas} {M : Nat}
theorem Small.dt (h : Small P M) (hb : ∀ i, i < P.m → β i < P.n) : (Dt P β).natAbs ≤ (P.m * M) ^ P.m := det_bound fun i k hi hk => h.A _ k (hb i hi) hk
theorem Small.t (h : Small P M) (hb : ∀ i, i < P.m → β i < P.n) {x : Vec} (hx : ∀ j, j < P.m → (x j).natAbs ≤ M) (i : Nat) : (T P β i x).natAbs ≤ (P.m * M) ^ P.m := det_bound fun a k ha hk => by
  by_cases e : a = i
  · rw [e, put_same]
    exact hx k hk
  · rw [put_ne e]
    exact h.A _ k (hb a ha) hk
theorem Small.gn (h : Small P M) (hb : ∀ i, i < P.m → β i < P.n) {x : Vec} (hx : ∀ j, j < P.m → (x j).natAbs ≤ M) {κ : Int} (hκ : κ.natAbs ≤ M) : (gn P β x κ).natAbs ≤ (P.m + 1) * M * (P.m * M) ^ P.m := by
  unfold Simp.gn
  have h1 := sm_abs (n := P.m) (f := fun i => P.c (β i) * T P β i x) (b := M * (P.m * M) ^ P.m) fun i hi => by
    rw [Int.natAbs_mul]
    exact Nat.mul_le_mul (h.c _ (hb i hi)) (h.t hb hx i)
  have h2 : (Dt P β * κ).natAbs ≤ M * (P.m * M) ^ P.m := by
    rw [Int.natAbs_mul, Nat.mul_comm]
    exact Nat.mul_le_mul hκ (h.dt hb)
  have h3 := Int.natAbs_sub_le (sm P.m fun i => P.c (β i) * T P β i x) (Dt P β * κ)
  have e : (P.m + 1) * M * (P.m * M) ^ P.m = P.m * (M * (P.m * M) ^ P.m) + M * (P.m * M) ^ P.m := by
    rw [Nat.mul_assoc, Nat.succ_mul]
  omega
end
end Simp
set_option Elab.async false
set_option linter.all false
set_option maxRecDepth 100000
set_option maxHeartbeats 2000000
/-! Defs with defaults. -/
namespace DL
open PySem PySem.Spec L2
section
variable {x qual : Str} {st : Stmt} {ps : List Str}
end
section
variable {X : Cx} {W : WX} {a b e : Expr} {es : List Expr} {pos p : Pos} {ta tb te : DTE} {tr tk : DTA} {CX : CXT} {x qual : Str} {st : Stmt} {k : Nat} {ps : List Str} {c : Ct} {dvs : List V} {dfs : List D}
end
section
variable {P : Program} {w : World} {K : PySem.W.Frag} {mg : Str → Option Value} {base : Heap} {x qual : Str} {st : Stmt} {f : Addr} {fd : FuncData} {N ps : List Str} {k n m : Nat} {c : Ct} {t : DTS} {dvs : List V}
end
end DL
set_option Elab.async false
set_option linter.all false
set_option maxRecDepth 100000
set_option maxHeartbeats 2000000
/-! Instances over data: attributes, methods, classes called. -/
namespace DL
open PySem PySem.Spec PyProof.Rows L2
/-! ### attributes -/
def putFD (f : Str) (d : D) : List (Str × D) → List (Str × D)
  | [] => [(f, d)]
  | (g, x) :: r => if g = f then (g, d) :: r else (g, x) :: putFD f d r
section
variable {K : PySem.W.Frag} {H : Hp}
theorem RepF.put {f : Str} {v : V} {d : D} (h : Rep K H v d) : ∀ {vs : List (Str × V)} {ds : List (Str × D)}, RepF K H vs ds → RepF K H (putF f v vs) (putFD f d ds)
  | _, _, .nil => .cons h .nil
  | _, _, .cons (x := g) a r => by
    unfold putF putFD
    by_cases e : g = f
    · rw [if_pos e, if_pos e]
      exact .cons h r
    · rw [if_neg e, if_neg e]
      exact .cons a (RepF.put h r)
theorem RepF.get {f : Str} {d : D} : ∀ {vs : List (Str × V)} {ds : List (Str × D)}, RepF K H vs ds → ds.lookup f = some d → ∃ v, vs.lookup f = some v ∧ Rep K H v d
  | _, _, .nil, h => by cases h
  | _, _, .cons (x := g) a r, h => by
    rw [List.lookup_cons] at h ⊢
    cases e : f == g with
    | true =>
      rw [e] at h
      cases h
      exact ⟨_, rfl, a⟩
    | false =>
      rw [e] at h
      exact RepF.get r h
theorem RepF.no {f : Str} : ∀ {vs : List (Str × V)} {ds : List (Str × D)}, RepF K H vs ds → ds.lookup f = none → vs.lookup f = none
  | _, _, .nil, _ => rfl
  | _, _, .cons (x := g) a r, h => by
    rw [List.lookup_cons] at h ⊢
    cases e : f == g with
    | true =>
      rw [e] at h
      cases h
    | false =>
      rw [e] at h
      exact RepF.no r h
theorem RepF.len : ∀ {vs : List (Str × V)} {ds : List (Str × D)}, RepF K H vs ds → vs.length = ds.length
  | _, _, .nil => rfl
  | _, _, .cons _ r => congrArg (· + 1) (RepF.len r)
/-- an instance's cell -/
theorem cell_ins {Hc : Hp} {μ : M} {a C dx : Addr} {fs : List (Str × D)} (s : Split K H Hc μ) (h : μ a = some (.ins C dx fs)) : ∃ vs, H a = some (.ins C dx vs) ∧ RepF K Hc vs fs := by
  obtain ⟨_, o, ho, vs, rfl, r⟩ := s.cell a _ h
  exact ⟨vs, ho, r⟩
end
def kFld (C : Addr) (f : Str) (Q : QD) (d : D) (μ : M) : Prop := match d with
  | .raw (.ref a) => ∃ dx fs e, μ a = some (.ins C dx fs) ∧ fs.lookup f = some e ∧ Q e μ
  | _ => False
/-- e.f, e an instance of the class at C -/
def dFld (C : Addr) (f : Str) (te : DTE) (W : XD) (δ : Sl) (μ : M) (Q : QD) : Prop := te W δ μ (kFld C f Q)
def kSetFld2 (C : Addr) (f : Str) (E : DEnds) (δ : Sl) (d o : D) (μ : M) : Prop := match o with
  | .raw (.ref a) => ∃ dx fs, μ a = some (.ins C dx fs) ∧ fs.length < 1000 ∧ E.nx δ (updM μ a (.ins C dx (putFD f d fs)))
  | _ => False
def kSetFld1 (C : Addr) (f : Str) (to : DTE) (E : DEnds) (δ : Sl) (d : D) (μ : M) : Prop := to (E.xc δ) δ μ (kSetFld2 C f E δ d)
/-- o.f = e -/
def dSetFld (C : Addr) (f : Str) (te to : DTE) (E : DEnds) (δ : Sl) (μ : M) : Prop := te (E.xc δ) δ μ (kSetFld1 C f to E δ)
section
variable {X : Cx} {W : WX} {e o : Expr} {te to : DTE} {f : Str} {C : Addr} {pos pos' : Pos}
theorem de_fld (c : Cls X.K C) (n : NoAttr X.K C f) (he : DE X W e te) (hb : attributeBase e f X.env (eval e X.env) = eval e X.env := by rfl) : DE X W (.Attribute e f pos) (dFld C f te) :=
  PE.imp (pe_fld he hb) fun σ H Q ⟨δ, μ, Hc, Qd, Xd, s, rs, h, rt, rx⟩ => ⟨δ, μ, Hc, _, Xd, s, rs, h, fun d μ1 h1 v H1 Hc1 e1 s1 r1 => by
    unfold kFld at h1
    split at h1
    · rename_i a
      obtain ⟨dx, fs, e2, hμ, hl, q⟩ := h1
      cases r1
      obtain ⟨vs, hH, rf⟩ := cell_ins s1 hμ
      obtain ⟨v, hv, rv⟩ := rf.get hl
      exact ⟨a, C, dx, vs, v, rfl, hH, c, n, hv, rt _ _ q _ _ Hc1 e1 s1 rv⟩
    · exact h1.elim, rx⟩
theorem ds_fld (c : Cls X.K C) (n : NoAttr X.K C f) (he : DE X W e te) (ho : DE X W o to) (hs : swapsWith e (some (.Attribute o f pos')) pos.line X.env = pure false := by rfl) : DS X W (.Assign [.Attribute o f pos'] e pos) (dSetFld C f te to) :=
  PS.imp (ps_fld ho he hs) fun D σ H ⟨δ, μ, Hc, Dd, s, rs, h, rt⟩ => ⟨δ, μ, Hc, _, _, s, rs, h, fun d μ1 h1 v H1 Hc1 e1 s1 r1 =>
    ⟨δ, μ1, Hc1, _, _, s1, rs.mono e1, h1, fun d2 μ2 h2 v2 H2 Hc2 e2 s2 r2 => by
      unfold kSetFld2 at h2
      split at h2
      · rename_i a
        obtain ⟨dx, fs, hμ, hl, q⟩ := h2
        cases r2
        obtain ⟨vs, hH, rf⟩ := cell_ins s2 hμ
        refine ⟨a, C, dx, vs, rfl, hH, c, n, by rw [rf.len]; exact hl, ?_⟩
        exact rt.nx _ _ q _ _ Hc2 (e1.trans e2) (s2.put hμ ⟨_, rfl, rf.put (r1.mono e2)⟩) (rs.mono (e1.trans e2))
      · exact h2.elim, (rt.xc.at rs).mono e1⟩, rt.xc.at rs⟩
end
/-! ### methods -/
section
variable {X : Cx} {W : WX} {CX : CXT} {f : Addr} {fd : FuncData} {k n m : Nat} {pm : List Nat} {ps ks : List Str} {c : Ct} {dvs : List V} {dfs : List D}
end
section
variable {X : Cx} {W : WX} {o e : Expr} {es : List Expr} {pos apos : Pos} {to : DTE} {tr tk : DTA} {CX : CXT} {C : Addr} {nm qual : Str} {st : Stmt} {k n m : Nat} {pm : List Nat} {ps ks : List Str} {c : Ct} {dvs : List V} {dfs : List D} {kws : List Keyword} {pl : Sem Bool}
end
/-! ### classes called -/
def kMade (Q : QD) (x : Addr) (d : D) (μ : M) : Prop := d = .non ∧ Q (.raw (.ref x)) μ
def newM (C x dx : Addr) (μ : M) : M := updM (updM μ dx (.own x)) x (.ins C dx [])
section
variable {X : Cx} {W : WX} {CX : CXT} {f C : Addr} {fd : FuncData} {k n m : Nat} {pm : List Nat} {ps ks : List Str} {c : Ct} {dvs : List V} {dfs : List D}
theorem split_made {K : PySem.W.Frag} {H Hc : Hp} {μ : M} {x dx : Addr} (s : Split K H Hc μ) (hx : H x = none) (hd : H dx = none) (ne : dx ≠ x) : Split K (upd (upd H dx (.own x)) x (.ins C dx [])) Hc (newM C x dx μ) := by
  have s1 := s.new (c := .own x) hd rfl
  exact s1.new (c := .ins C dx []) (by rw [upd_ne (Ne.symm ne)]; exact hx) ⟨[], rfl, .nil⟩
end
section
variable {X : Cx} {W : WX} {e : Expr} {es : List Expr} {pos p : Pos} {tr tk : DTA} {CX : CXT} {C : Addr} {x qual : Str} {st : Stmt} {k n m : Nat} {pm : List Nat} {ps ks : List Str} {c : Ct} {dvs : List V} {dfs : List D} {kws : List Keyword}
end
end DL
set_option Elab.async false
set_option linter.all false
set_option maxRecDepth 100000
set_option maxHeartbeats 2000000
/-! Methods called by places, classes called by places; how a method's contract is shown. -/
namespace DL
open PySem PySem.Spec PyProof.Rows L2
/-- a method of the class at C keeps its contract; no defaults -/
structure DfnMe (P : Program) (w : World) (K : PySem.W.Frag) (mg : Str → Option Value) (base : Heap) (CX : CXT) (C : Addr) (m qual : Str) (st : Stmt) (k : Nat) (ps : List Str) (c : Ct) : Prop where
  ex : ∃ f fd, Fun K m qual st f fd ∧ Meth K C m f ∧ FnOk P w K mg base CX k f fd ps (spD K c) ∧ Binds K fd ps []
/-- the __init__ of the class at C keeps its contract -/
structure DfnIe (P : Program) (w : World) (K : PySem.W.Frag) (mg : Str → Option Value) (base : Heap) (CX : CXT) (x : Str) (C : Addr) (qual : Str) (st : Stmt) (k : Nat) (ps : List Str) (c : Ct) : Prop where
  g : mg x = some (.ref C)
  ex : ∃ f fd, Fun K "__init__" qual st f fd ∧ Mk K C f ∧ FnOk P w K mg base CX k f fd ps (spD K c) ∧ Binds K fd ps []
def kMe2 (c : Ct) (W : XD) (Q : QD) (o : D) (ds : List D) (μ : M) : Prop := c (o :: ds) μ Q W
def kMe1 (C : Addr) (nm : Str) (c : Ct) (tr : DTA) (W : XD) (δ : Sl) (Q : QD) (o : D) (μ : M) : Prop := match o with
  | .raw (.ref a) => ∃ dx fs, μ a = some (.ins C dx fs) ∧ fs.lookup nm = none ∧ tr W δ μ (kMe2 c W Q (.raw (.ref a)))
  | _ => False
/-- o.m(..) -/
def dMeth (C : Addr) (nm : Str) (c : Ct) (to : DTE) (tr : DTA) (W : XD) (δ : Sl) (μ : M) (Q : QD) : Prop := to W δ μ (kMe1 C nm c tr W δ Q)
section
variable {X : Cx} {W : WX} {o e : Expr} {es : List Expr} {pos apos : Pos} {to : DTE} {tr : DTA} {CX : CXT} {C : Addr} {nm qual : Str} {st : Stmt} {k : Nat} {ps : List Str} {c : Ct} {pl : Sem Bool}
theorem de_meth (F : DfnMe X.prog X.w X.K X.mg X.base CX C nm qual st k ps c) (cl : Cls X.K C) (hr : Room k X.A) (pw : Pw CX X W) (ho : DE X W o to) (ha : DA X W (e :: es) tr)
    (hst : starEach (e :: es) X.env = (false, eval e X.env) :: starEach es X.env := by rfl) (hpl : (backTo pos (starEach es X.env)).any (·.1) = false := by rfl)
    (ht : eval (.Call (.Attribute o nm apos) (e :: es) [] pos) X.env = (do
      let ov ← eval o X.env
      standAt apos.atName
      let (f, first) ← holding [ov] (getMethod ov nm pl)
      callWith pos f first (backTo pos (starEach (e :: es) X.env)) (backToKw pos (keywordEach [] X.env))) := by rfl) :
    DE X W (.Call (.Attribute o nm apos) (e :: es) [] pos) (dMeth C nm c to tr) := by
  obtain ⟨f, fd, FF, hm, G, bn⟩ := F.ex
  refine ⟨fun pins s σ H Q I ⟨δ, μ, Hc, Qd, Xd, sp, rs, h, rt, rx⟩ => ?_⟩
  have at_ := ho.run pins s σ H (fun v H1 => ∃ a dx fs μ1 Hc1, v = .ref a ∧ Same Hc Hc1 ∧ Split X.K H1 Hc1 μ1 ∧ μ1 a = some (.ins C dx fs) ∧ fs.lookup nm = none ∧ tr Xd δ μ1 (kMe2 c Xd Qd (.raw (.ref a)))) I
    ⟨δ, μ, Hc, _, Xd, sp, rs, h, fun d μ1 h1 v H1 Hc1 e1 s1 r1 => by
      unfold kMe1 at h1
      split at h1
      · rename_i a
        obtain ⟨dx, fs, hμ, hl, h2⟩ := h1
        cases r1
        exact ⟨a, dx, fs, μ1, Hc1, rfl, e1, s1, hμ, hl, h2⟩
      · exact h1.elim, rx⟩
  refine PySem.W.methodCall_KW (pl := pl) (thn at_ ?_) ht
  rintro u s1 ⟨_, H1, I1, ru, a, dx, fs, μ1, Hc1, rfl, e1, sp1, hμ, hl, h1⟩
  obtain rfl : u = Value.ref a := ru
  obtain ⟨vs0, hH, rf0⟩ := cell_ins sp1 hμ
  refine getmeth_ok I1 hH cl hm (rf0.no hl) ?_
  refine PySem.W.callWith_K (first := [.ref a]) (h₀ := X.base) I.ok.mod.kin hm.kp (thn (ha.run pos pins s1 σ H1 (fun vs H2 => ∃ ds μ2 Hc2, Same Hc1 Hc2 ∧ Split X.K H2 Hc2 μ2 ∧ RepA X.K Hc2 vs ds ∧ c (.raw (.ref a) :: ds) μ2 Qd Xd) I1
    ⟨δ, μ1, Hc1, _, Xd, sp1, rs.mono e1, h1, fun ds μ2 h2 vs H2 Hc2 e2 s2 r2 => ⟨ds, μ2, Hc2, e2, s2, r2, h2⟩, rx.mono e1⟩) fun us s2 ⟨vs, H2, I2, r, ds, μ2, Hc2, e2, sp2, rd, h2⟩ => ⟨I2.kIn, ?_⟩) hst hpl
  exact run_fnS (us := .ref a :: us) (vs := .ref a :: vs) (E := WE W) G hr bn (pw σ) I2 (.cons rfl r) ⟨.raw (.ref a) :: ds, μ2, Hc2, Qd, Xd, sp2, .cons (.raw _) rd, h2, rt.mono (e1.trans e2), rx.mono (e1.trans e2)⟩
theorem de_meth0 (F : DfnMe X.prog X.w X.K X.mg X.base CX C nm qual st k ps c) (cl : Cls X.K C) (hr : Room k X.A) (pw : Pw CX X W) (ho : DE X W o to)
    (ht : eval (.Call (.Attribute o nm apos) [] [] pos) X.env = (do
      let ov ← eval o X.env
      standAt apos.atName
      let (f, first) ← holding [ov] (getMethod ov nm pl)
      callWith pos f first (backTo pos (starEach [] X.env)) (backToKw pos (keywordEach [] X.env))) := by rfl) :
    DE X W (.Call (.Attribute o nm apos) [] [] pos) (dMeth C nm c to dNil) := by
  obtain ⟨f, fd, FF, hm, G, bn⟩ := F.ex
  refine ⟨fun pins s σ H Q I ⟨δ, μ, Hc, Qd, Xd, sp, rs, h, rt, rx⟩ => ?_⟩
  have at_ := ho.run pins s σ H (fun v H1 => ∃ a dx fs μ1 Hc1, v = .ref a ∧ Same Hc Hc1 ∧ Split X.K H1 Hc1 μ1 ∧ μ1 a = some (.ins C dx fs) ∧ fs.lookup nm = none ∧ c [.raw (.ref a)] μ1 Qd Xd) I
    ⟨δ, μ, Hc, _, Xd, sp, rs, h, fun d μ1 h1 v H1 Hc1 e1 s1 r1 => by
      unfold kMe1 at h1
      split at h1
      · rename_i a
        obtain ⟨dx, fs, hμ, hl, h2⟩ := h1
        cases r1
        exact ⟨a, dx, fs, μ1, Hc1, rfl, e1, s1, hμ, hl, h2⟩
      · exact h1.elim, rx⟩
  refine PySem.W.methodCall_KW (pl := pl) (thn at_ ?_) ht
  rintro u s1 ⟨_, H1, I1, ru, a, dx, fs, μ1, Hc1, rfl, e1, sp1, hμ, hl, h1⟩
  obtain rfl : u = Value.ref a := ru
  obtain ⟨vs0, hH, rf0⟩ := cell_ins sp1 hμ
  refine getmeth_ok I1 hH cl hm (rf0.no hl) ?_
  exact PySem.W.callWith_K0 (first := [.ref a]) I1.kIn hm.kp (run_fnS (us := [.ref a]) (vs := [.ref a]) (E := WE W) G hr bn (pw σ) I1 (.cons rfl .nil) ⟨[.raw (.ref a)], μ1, Hc1, Qd, Xd, sp1, .cons (.raw _) .nil, h1, rt.mono e1, rx.mono e1⟩)
end
/-! ### classes called -/
def kMk (c : Ct) (C : Addr) (W : XD) (Q : QD) (ds : List D) (μ : M) : Prop := ∀ x dx, μ x = none → μ dx = none → dx ≠ x → c (.raw (.ref x) :: ds) (newM C x dx μ) (kMade Q x) W
/-- C(..) -/
def dMk (C : Addr) (c : Ct) (tr : DTA) (W : XD) (δ : Sl) (μ : M) (Q : QD) : Prop := tr W δ μ (kMk c C W Q)
section
variable {X : Cx} {W : WX} {e : Expr} {es : List Expr} {pos p : Pos} {tr : DTA} {CX : CXT} {C : Addr} {x qual : Str} {st : Stmt} {k : Nat} {ps : List Str} {c : Ct}
theorem de_mk (F : DfnIe X.prog X.w X.K X.mg X.base CX x C qual st k ps c) (hr : Room (k + 1) X.A) (pw : Pw CX X W) (ha : DA X W (e :: es) tr) (hg : Gl X x := by rfl) (hdb : (x == ("__debug__" : Str)) = false := by decide)
    (he : starEach (e :: es) X.env = (false, eval e X.env) :: starEach es X.env := by rfl) (hpl : (backTo pos (starEach es X.env)).any (·.1) = false := by rfl) :
    DE X W (.Call (.Name x p) (e :: es) [] pos) (dMk C c tr) := by
  obtain ⟨g, f, fd, FF, hM, G, bn⟩ := F
  refine ⟨fun pins s σ H Q I ⟨δ, μ, Hc, Qd, Xd, sp, rs, h, rt, rx⟩ => ?_⟩
  refine wpAny_Call_Name_kw (ld_glob I hg g ?_ hdb)
  refine PySem.W.callWith_K (h₀ := X.base) I.ok.mod.kin hM.kp (thn (ha.run pos pins s σ H (fun vs H2 => ∃ ds μ2 Hc2, Same Hc Hc2 ∧ Split X.K H2 Hc2 μ2 ∧ RepA X.K Hc2 vs ds ∧ kMk c C Xd Qd ds μ2) I
    ⟨δ, μ, Hc, _, Xd, sp, rs, h, fun ds μ2 h2 vs H2 Hc2 e2 s2 r2 => ⟨ds, μ2, Hc2, e2, s2, r2, h2⟩, rx⟩) fun us s2 ⟨vs, H2, I2, rv, ds, μ2, Hc2, e2, sp2, rd, h2⟩ => ⟨I2.kIn, ?_⟩) he hpl
  have f1 : H2 (s2.heap.objs.size + 1) = none := I2.hok.fresh (Nat.le_succ _)
  have f2 : H2 s2.heap.objs.size = none := I2.hok.fresh (Nat.le_refl _)
  have ne : s2.heap.objs.size ≠ s2.heap.objs.size + 1 := Nat.ne_of_lt (Nat.lt_succ_self _)
  have want := h2 _ _ (sp2.fresh f1).1 (sp2.fresh f2).1 ne
  have I3 := Inv.made (C := C) I2
  have sp3 := split_made (C := C) sp2 f1 f2 ne
  have all : RepA X.K Hc2 (V.ref (s2.heap.objs.size + 1) :: vs) (.raw (.ref (s2.heap.objs.size + 1)) :: ds) := .cons (.raw _) rd
  have self : Vals (V.ref (s2.heap.objs.size + 1) :: vs) (Value.ref (s2.heap.objs.size + 1) :: us) := .cons rfl rv
  have rt2 : Ret X.K Hc2 (kMade Qd (s2.heap.objs.size + 1)) (fun v H4 => v = .non ∧ Q (.ref (s2.heap.objs.size + 1)) H4) := fun d μ' ⟨e, q⟩ v H' Hc' e' s' r => by
    subst e
    cases r
    exact ⟨rfl, rt _ _ q _ _ _ (e2.trans e') s' (.raw _)⟩
  have goal : spD X.K c (V.ref (s2.heap.objs.size + 1) :: vs) _ (fun v H4 => v = .non ∧ Q (.ref (s2.heap.objs.size + 1)) H4) (WE W σ) := ⟨_, _, Hc2, kMade Qd (s2.heap.objs.size + 1), Xd, sp3, all, want, rt2, rx.mono e2⟩
  have hl : (Value.ref (s2.heap.objs.size + 1) :: us).length = ps.length := by rw [← self.length]; exact G.len _ _ _ _ goal
  have b := bn _ (Value.ref (s2.heap.objs.size + 1) :: us) I3.kIn (by rw [List.append_nil]; exact hl)
  rw [List.append_nil] at b
  have ran := G.run _ X.stack _ _ ⟨Value.ref (s2.heap.objs.size + 1) :: us, []⟩ _ _ _ (WE W σ) (hr.make C us []) (I3.env0.make C us []) b self goal
  refine wpAny_call (make_map (f := f) I2.kIn hM.makes hM.init (beq_iff_eq.mp hM.fn) (codeAny_mono ran fun r s' got => ?_))
  match r, got with
  | .error e, got => exact pw σ pins _ _ e s' I3 got
  | .ok (.ret u), got =>
    obtain ⟨v, H', I4, rv3, ev, q3⟩ := I3.after got
    subst ev
    exact ⟨rv3, V.ref (s2.heap.objs.size + 1), H', I4, rfl, q3⟩
end
/-! ### how a method's contract is shown -/
section
variable {P : Program} {w : World} {K : PySem.W.Frag} {mg : Str → Option Value} {base : Heap} {x nm qual : Str} {st : Stmt} {f C : Addr} {fd : FuncData} {N ps : List Str} {k n m : Nat} {c : Ct} {t : DTS}
theorem fnok_A (F : Fun K nm qual st f fd) (S : FnScope N ps (defScope st)) (len : Len c m) (hb : HB c t n)
    (hd : ∀ (cdv : Value) (A : Around) (outer : List Env) (s : Shared) (H : Hp) (E : XK), Room k (A.deeper (PyProof.Rows.envOfC qual (defScope st) s.heap.objs.size f cdv)) → DSs (cxOf CX0 P w K mg base N qual (defScope st) f cdv A outer s H E).nox W0 (defBody st) t)
    (hn : N.length = n := by rfl) (hp : ps.length = m := by rfl) : FnOk P w K mg base CX0 (k + 1) f fd ps (spD K c) := by
  subst hn hp
  refine F.ok S (fun vs H Q E ⟨ds, μ, Hc, Qd, Xd, s, ra, h, rt, rx⟩ => by rw [ra.length]; exact len _ _ _ _ h) (fun cdv A outer s H vs Q E hr h => ?_)
  obtain ⟨ds, μ, Hc, Qd, Xd, sp, ra, h, rt, rx⟩ := h
  refine ⟨_, hd cdv A outer s H E hr, _, μ, Hc, _, sp, repS_start ra, hb _ _ _ _ h, ?_⟩
  exact ⟨fun δ μ' h' σ H' Hc' e' s' rs' => ret_fin rt _ _ h' _ _ _ e' s' .non, ret_fin rt, fun _ _ z => z.elim, fun _ _ z => z.elim, fun _ _ _ _ z => z.elim⟩
end
end DL
set_option Elab.async false
set_option linter.all false
set_option maxRecDepth 100000
set_option maxHeartbeats 2000000
set_option exponentiation.threshold 20000
/-! The program's Board: tables of whole numbers by one bottom. -/
local macro_rules | `(tactic| walk_at "s") => `(tactic| simp only [DL.dSet, DL.kSet, DL.dCB, DL.kCB, DL.dCons, DL.kCons1, DL.kCons2, DL.dNil, DL.dVar, DL.dC, DL.dOp, DL.kOp1, DL.kOp2, DL.dB, DL.kB, DL.dIf, DL.kIf, DL.dRet, DL.dRetN, DL.dTup, DL.kTup, DL.dLst, DL.kLst, DL.dLstC, DL.kLstC, DL.dCall, DL.kCall, DL.dCallK, DL.kCallK1, DL.kCallK2, DL.dLenIs, DL.kLenIs, DL.dNext, DL.dDrop, DL.kDrop, DL.dPar, DL.kPar, DL.dAug, DL.kAug, DL.dAsg, DL.kAsg, DL.dSetIx, DL.kSetIx1, DL.kSetIx2, DL.kSetIx3, DL.dTru, DL.kTru, DL.dAnd, DL.kAnd, DL.dOr, DL.kOr, DL.dNot, DL.kNot, DL.dAndV, DL.kAndV, DL.dOrV, DL.kOrV, DL.dNotV, DL.kNotV, DL.dIfE, DL.kIfE, DL.dChain, DL.kChain1, DL.kChain2, DL.kChain3_true, DL.kChain3_false, DL.dNeg, DL.kNeg, DL.dFz, DL.kFz, DL.dRaise, DL.dTryAs, DL.suiteE, DL.kUnset, DL.dFor, DL.kFor, DL.dSeqI, DL.kSeqI, DL.dRange1, DL.kRange1, DL.dRange2, DL.kRange2, DL.dLc, DL.kLc, DL.dLcC, DL.kLstD, DL.kNewC, DL.dYes, DL.wipeD, DL.loopD, DL.compD, DL.kItem, DL.kTest_true, DL.kTest_false, DL.putIx_some, DL.setsK_some, DL.turnD_some, DL.turnC_some, DL.ifS_true, DL.ifS_false, DL.ifAnd_true, DL.ifAnd_false, DL.ifOr_true, DL.ifOr_false, DL.ifAndV_true, DL.ifAndV_false, DL.ifOrV_true, DL.ifOrV_false, DL.ifE_true, DL.ifE_false, DL.srcOf, DL.tgN, DL.tgT, DL.tgNil, DL.tgCons, DL.sets, List.foldl_cons, List.foldl_nil, DL.gI, DL.gI0, DL.gAdd, DL.gMul, DL.gIx, DL.gEq, DL.gNe, DL.gIs, DL.gIn, DL.gLen, DL.gAbs, DL.gMax2, DL.gMin2, DL.gAll, DL.gAny, DL.gSum, DL.gList, DL.gListC, DL.gTuple, DL.gIsiC, DL.gIsi, DL.tyN, DL.subN_NoneType_int, DL.subN_NoneType_bool, DL.subN_NoneType_str, DL.subN_NoneType_list, DL.subN_NoneType_tuple, DL.subN_bool_int, DL.subN_bool_bool, DL.subN_bool_str, DL.subN_bool_list, DL.subN_bool_tuple, DL.subN_int_int, DL.subN_int_bool, DL.subN_int_str, DL.subN_int_list, DL.subN_int_tuple, DL.subN_str_int, DL.subN_str_bool, DL.subN_str_str, DL.subN_str_list, DL.subN_str_tuple, DL.subN_list_int, DL.subN_list_bool, DL.subN_list_str, DL.subN_list_list, DL.subN_list_tuple, DL.subN_tuple_int, DL.subN_tuple_bool, DL.subN_tuple_str, DL.subN_tuple_list, DL.subN_tuple_tuple, DL.truD, DL.blsOf, DL.view_non, DL.view_bl, DL.view_int', DL.view_str', DL.view_lst', DL.view_tup', DL.view_scr', DL.ends, DL.kEnd, DL.OptP_some, DL.OptQ_some, DL.OptB_some, DL.OptS_some, List.getElem?_cons_zero, List.getElem?_cons_succ, List.set_cons_zero, List.set_cons_succ, DL.atI_zero, DL.atI_one, DL.atI_two, List.length_cons, List.length_nil, DL.pick, List.filterMap_cons, List.filterMap_nil, List.nil_append, List.cons_append, List.map_cons, List.map_nil, Option.map_some, Option.bind_some, true_and, and_true, Bool.false_eq_true, Bool.not_true, Bool.not_false, Bool.xor_false, Bool.xor_true, Bool.false_xor, Bool.true_xor, decide_true, decide_false, Nat.zero_add, Nat.reduceAdd, not_true_eq_false, not_false_eq_true, DL.eqD_int, DL.eqD_str, DL.eqD_bl, DL.eqD_tup, DL.eqD_lst, DL.eqDs_nil, DL.eqDs_cons, Bool.and_true, Bool.and_false, List.all_cons, List.all_nil, List.any_cons, List.any_nil, Bool.and_self, DL.dM, DL.kM1, DL.kM2, DL.dM0, DL.kM0, DL.gAppend, DL.gInsert, DL.gExtend, DL.gPop1, DL.gPop0, DL.gReverse, DL.gSort, DL.gRemove, DL.gCount, DL.gIndex, DL.dSlG, DL.kSl1, DL.kSl2, DL.kSl3, DL.gSl, DL.gSlC, DL.dNoPart, DL.dPart, DL.kPart, DL.dLR1, DL.kLR1, DL.dLR2, DL.kLR21, DL.kLR22, DL.nLst, DL.gRepC, DL.gCatC, DL.gInt, DL.gSorted, DL.gMaxL, DL.gMinL, DL.dEnum, DL.kEnum, DL.dZip2, DL.kZip2, DL.dZip3, DL.kZip3, DL.OptS2_some, DL.OptS3_some, DL.dRev, DL.kRev, DL.dEmp, DL.view_emp', DL.subN_dict_int, DL.subN_dict_bool, DL.subN_dict_str, DL.subN_dict_list, DL.subN_dict_tuple, DL.cellL_lst, DL.cellL_none, DL.gCountD, DL.gRepr, DL.gEqS, DL.dTryK, DL.keepD, DL.kKeep, DL.kKeepR, DL.dXf, DL.dMeth, DL.kMe1, DL.kMe2, DL.dFld, DL.kFld, DL.dSetFld, DL.kSetFld1, DL.kSetFld2, DL.dMk, DL.kMk, DL.putFD, DL.dRetN, DL.dRaise, DL.tgL])
local macro_rules | `(tactic| walk_at "r") => `(tactic| simp only [DL.dSeq, DL.dSet, DL.kSet, DL.dCB, DL.kCB, DL.dCons, DL.kCons1, DL.kCons2, DL.dNil, DL.dVar, DL.dC, DL.dOp, DL.kOp1, DL.kOp2, DL.dB, DL.kB, DL.dIf, DL.kIf, DL.dRet, DL.dRetN, DL.dTup, DL.kTup, DL.dLst, DL.kLst, DL.dLstC, DL.kLstC, DL.dCall, DL.kCall, DL.dCallK, DL.kCallK1, DL.kCallK2, DL.dLenIs, DL.kLenIs, DL.dNext, DL.dDrop, DL.kDrop, DL.dPar, DL.kPar, DL.dAug, DL.kAug, DL.dAsg, DL.kAsg, DL.dSetIx, DL.kSetIx1, DL.kSetIx2, DL.kSetIx3, DL.dTru, DL.kTru, DL.dAnd, DL.kAnd, DL.dOr, DL.kOr, DL.dNot, DL.kNot, DL.dAndV, DL.kAndV, DL.dOrV, DL.kOrV, DL.dNotV, DL.kNotV, DL.dIfE, DL.kIfE, DL.dChain, DL.kChain1, DL.kChain2, DL.kChain3_true, DL.kChain3_false, DL.dNeg, DL.kNeg, DL.dFz, DL.kFz, DL.dRaise, DL.dTryAs, DL.suiteE, DL.kUnset, DL.dFor, DL.kFor, DL.dSeqI, DL.kSeqI, DL.dRange1, DL.kRange1, DL.dRange2, DL.kRange2, DL.dLc, DL.kLc, DL.dLcC, DL.kLstD, DL.kNewC, DL.dYes, DL.wipeD, DL.loopD, DL.compD, DL.kItem, DL.kTest_true, DL.kTest_false, DL.putIx_some, DL.setsK_some, DL.turnD_some, DL.turnC_some, DL.ifS_true, DL.ifS_false, DL.ifAnd_true, DL.ifAnd_false, DL.ifOr_true, DL.ifOr_false, DL.ifAndV_true, DL.ifAndV_false, DL.ifOrV_true, DL.ifOrV_false, DL.ifE_true, DL.ifE_false, DL.srcOf, DL.tgN, DL.tgT, DL.tgNil, DL.tgCons, DL.sets, List.foldl_cons, List.foldl_nil, DL.gI, DL.gI0, DL.gAdd, DL.gMul, DL.gIx, DL.gEq, DL.gNe, DL.gIs, DL.gIn, DL.gLen, DL.gAbs, DL.gMax2, DL.gMin2, DL.gAll, DL.gAny, DL.gSum, DL.gList, DL.gListC, DL.gTuple, DL.gIsiC, DL.gIsi, DL.tyN, DL.subN_NoneType_int, DL.subN_NoneType_bool, DL.subN_NoneType_str, DL.subN_NoneType_list, DL.subN_NoneType_tuple, DL.subN_bool_int, DL.subN_bool_bool, DL.subN_bool_str, DL.subN_bool_list, DL.subN_bool_tuple, DL.subN_int_int, DL.subN_int_bool, DL.subN_int_str, DL.subN_int_list, DL.subN_int_tuple, DL.subN_str_int, DL.subN_str_bool, DL.subN_str_str, DL.subN_str_list, DL.subN_str_tuple, DL.subN_list_int, DL.subN_list_bool, DL.subN_list_str, DL.subN_list_list, DL.subN_list_tuple, DL.subN_tuple_int, DL.subN_tuple_bool, DL.subN_tuple_str, DL.subN_tuple_list, DL.subN_tuple_tuple, DL.truD, DL.blsOf, DL.view_non, DL.view_bl, DL.view_int', DL.view_str', DL.view_lst', DL.view_tup', DL.view_scr', DL.ends, DL.kEnd, DL.OptP_some, DL.OptQ_some, DL.OptB_some, DL.OptS_some, List.getElem?_cons_zero, List.getElem?_cons_succ, List.set_cons_zero, List.set_cons_succ, DL.atI_zero, DL.atI_one, DL.atI_two, List.length_cons, List.length_nil, DL.pick, List.filterMap_cons, List.filterMap_nil, List.nil_append, List.cons_append, List.map_cons, List.map_nil, Option.map_some, Option.bind_some, true_and, and_true, Bool.false_eq_true, Bool.not_true, Bool.not_false, Bool.xor_false, Bool.xor_true, Bool.false_xor, Bool.true_xor, decide_true, decide_false, Nat.zero_add, Nat.reduceAdd, not_true_eq_false, not_false_eq_true, DL.eqD_int, DL.eqD_str, DL.eqD_bl, DL.eqD_tup, DL.eqD_lst, DL.eqDs_nil, DL.eqDs_cons, Bool.and_true, Bool.and_false, List.all_cons, List.all_nil, List.any_cons, List.any_nil, Bool.and_self, DL.dM, DL.kM1, DL.kM2, DL.dM0, DL.kM0, DL.gAppend, DL.gInsert, DL.gExtend, DL.gPop1, DL.gPop0, DL.gReverse, DL.gSort, DL.gRemove, DL.gCount, DL.gIndex, DL.dSlG, DL.kSl1, DL.kSl2, DL.kSl3, DL.gSl, DL.gSlC, DL.dNoPart, DL.dPart, DL.kPart, DL.dLR1, DL.kLR1, DL.dLR2, DL.kLR21, DL.kLR22, DL.nLst, DL.gRepC, DL.gCatC, DL.gInt, DL.gSorted, DL.gMaxL, DL.gMinL, DL.dEnum, DL.kEnum, DL.dZip2, DL.kZip2, DL.dZip3, DL.kZip3, DL.OptS2_some, DL.OptS3_some, DL.dRev, DL.kRev, DL.dEmp, DL.view_emp', DL.subN_dict_int, DL.subN_dict_bool, DL.subN_dict_str, DL.subN_dict_list, DL.subN_dict_tuple, DL.cellL_lst, DL.cellL_none, DL.gCountD, DL.gRepr, DL.gEqS, DL.dTryK, DL.keepD, DL.kKeep, DL.kKeepR, DL.dXf, DL.dMeth, DL.kMe1, DL.kMe2, DL.dFld, DL.kFld, DL.dSetFld, DL.kSetFld1, DL.kSetFld2, DL.dMk, DL.kMk, DL.putFD, DL.dRetN, DL.dRaise, DL.tgL])
local macro_rules | `(tactic| simp! only [$xs,*]) => `(tactic| simp only [DL.dSeq, DL.dSet, DL.kSet, DL.dCB, DL.kCB, DL.dCons, DL.kCons1, DL.kCons2, DL.dNil, DL.dVar, DL.dC, DL.dOp, DL.kOp1, DL.kOp2, DL.dB, DL.kB, DL.dIf, DL.kIf, DL.dRet, DL.dRetN, DL.dTup, DL.kTup, DL.dLst, DL.kLst, DL.dLstC, DL.kLstC, DL.dCall, DL.kCall, DL.dCallK, DL.kCallK1, DL.kCallK2, DL.dLenIs, DL.kLenIs, DL.dNext, DL.dDrop, DL.kDrop, DL.dPar, DL.kPar, DL.dAug, DL.kAug, DL.dAsg, DL.kAsg, DL.dSetIx, DL.kSetIx1, DL.kSetIx2, DL.kSetIx3, DL.dTru, DL.kTru, DL.dAnd, DL.kAnd, DL.dOr, DL.kOr, DL.dNot, DL.kNot, DL.dAndV, DL.kAndV, DL.dOrV, DL.kOrV, DL.dNotV, DL.kNotV, DL.dIfE, DL.kIfE, DL.dChain, DL.kChain1, DL.kChain2, DL.kChain3_true, DL.kChain3_false, DL.dNeg, DL.kNeg, DL.dFz, DL.kFz, DL.dRaise, DL.dTryAs, DL.suiteE, DL.kUnset, DL.dFor, DL.kFor, DL.dSeqI, DL.kSeqI, DL.dRange1, DL.kRange1, DL.dRange2, DL.kRange2, DL.dLc, DL.kLc, DL.dLcC, DL.kLstD, DL.kNewC, DL.dYes, DL.wipeD, DL.loopD, DL.compD, DL.kItem, DL.kTest_true, DL.kTest_false, DL.putIx_some, DL.setsK_some, DL.turnD_some, DL.turnC_some, DL.ifS_true, DL.ifS_false, DL.ifAnd_true, DL.ifAnd_false, DL.ifOr_true, DL.ifOr_false, DL.ifAndV_true, DL.ifAndV_false, DL.ifOrV_true, DL.ifOrV_false, DL.ifE_true, DL.ifE_false, DL.srcOf, DL.tgN, DL.tgT, DL.tgNil, DL.tgCons, DL.sets, List.foldl_cons, List.foldl_nil, DL.gI, DL.gI0, DL.gAdd, DL.gMul, DL.gIx, DL.gEq, DL.gNe, DL.gIs, DL.gIn, DL.gLen, DL.gAbs, DL.gMax2, DL.gMin2, DL.gAll, DL.gAny, DL.gSum, DL.gList, DL.gListC, DL.gTuple, DL.gIsiC, DL.gIsi, DL.tyN, DL.subN_NoneType_int, DL.subN_NoneType_bool, DL.subN_NoneType_str, DL.subN_NoneType_list, DL.subN_NoneType_tuple, DL.subN_bool_int, DL.subN_bool_bool, DL.subN_bool_str, DL.subN_bool_list, DL.subN_bool_tuple, DL.subN_int_int, DL.subN_int_bool, DL.subN_int_str, DL.subN_int_list, DL.subN_int_tuple, DL.subN_str_int, DL.subN_str_bool, DL.subN_str_str, DL.subN_str_list, DL.subN_str_tuple, DL.subN_list_int, DL.subN_list_bool, DL.subN_list_str, DL.subN_list_list, DL.subN_list_tuple, DL.subN_tuple_int, DL.subN_tuple_bool, DL.subN_tuple_str, DL.subN_tuple_list, DL.subN_tuple_tuple, DL.truD, DL.blsOf, DL.view_non, DL.view_bl, DL.view_int', DL.view_str', DL.view_lst', DL.view_tup', DL.view_scr', DL.ends, DL.kEnd, DL.OptP_some, DL.OptQ_some, DL.OptB_some, DL.OptS_some, List.getElem?_cons_zero, List.getElem?_cons_succ, List.set_cons_zero, List.set_cons_succ, DL.atI_zero, DL.atI_one, DL.atI_two, List.length_cons, List.length_nil, DL.pick, List.filterMap_cons, List.filterMap_nil, List.nil_append, List.cons_append, List.map_cons, List.map_nil, Option.map_some, Option.bind_some, true_and, and_true, Bool.false_eq_true, Bool.not_true, Bool.not_false, Bool.xor_false, Bool.xor_true, Bool.false_xor, Bool.true_xor, decide_true, decide_false, Nat.zero_add, Nat.reduceAdd, not_true_eq_false, not_false_eq_true, DL.eqD_int, DL.eqD_str, DL.eqD_bl, DL.eqD_tup, DL.eqD_lst, DL.eqDs_nil, DL.eqDs_cons, Bool.and_true, Bool.and_false, List.all_cons, List.all_nil, List.any_cons, List.any_nil, Bool.and_self, DL.dM, DL.kM1, DL.kM2, DL.dM0, DL.kM0, DL.gAppend, DL.gInsert, DL.gExtend, DL.gPop1, DL.gPop0, DL.gReverse, DL.gSort, DL.gRemove, DL.gCount, DL.gIndex, DL.dSlG, DL.kSl1, DL.kSl2, DL.kSl3, DL.gSl, DL.gSlC, DL.dNoPart, DL.dPart, DL.kPart, DL.dLR1, DL.kLR1, DL.dLR2, DL.kLR21, DL.kLR22, DL.nLst, DL.gRepC, DL.gCatC, DL.gInt, DL.gSorted, DL.gMaxL, DL.gMinL, DL.dEnum, DL.kEnum, DL.dZip2, DL.kZip2, DL.dZip3, DL.kZip3, DL.OptS2_some, DL.OptS3_some, DL.dRev, DL.kRev, DL.dEmp, DL.view_emp', DL.subN_dict_int, DL.subN_dict_bool, DL.subN_dict_str, DL.subN_dict_list, DL.subN_dict_tuple, DL.cellL_lst, DL.cellL_none, DL.gCountD, DL.gRepr, DL.gEqS, DL.dTryK, DL.keepD, DL.kKeep, DL.kKeepR, DL.dXf, DL.dMeth, DL.kMe1, DL.kMe2, DL.dFld, DL.kFld, DL.dSetFld, DL.kSetFld1, DL.kSetFld2, DL.dMk, DL.kMk, DL.putFD, DL.dRetN, DL.dRaise, DL.tgL, $xs,*])
namespace NBD
open PySem PySem.Spec L2 DL Fr NB
open Simp (Prob Bas Dt T gn gk zb upd Good Std Turn Ok)
/-! ### the least number that all bottoms divide -/
def cmN (fs : List Fc) : Nat := fs.foldl (fun n g => Nat.lcm n g.2.natAbs) 1
theorem lcm_fold {fs : List Fc} : ∀ {n : Nat}, n ∣ fs.foldl (fun n g => Nat.lcm n g.2.natAbs) n ∧ ∀ g ∈ fs, g.2.natAbs ∣ fs.foldl (fun n g => Nat.lcm n g.2.natAbs) n := by
  induction fs with
  | nil => exact fun {n} => ⟨Nat.dvd_refl _, fun g h => (by cases h)⟩
  | cons f fs ih =>
    intro n
    obtain ⟨h1, h2⟩ := ih (n := Nat.lcm n f.2.natAbs)
    refine ⟨Nat.dvd_trans (Nat.dvd_lcm_left _ _) h1, fun g hg => ?_⟩
    rcases List.mem_cons.mp hg with rfl | hg
    · exact Nat.dvd_trans (Nat.dvd_lcm_right _ _) h1
    · exact h2 g hg
theorem lcm_fold_of {K : Nat} {fs : List Fc} : ∀ {n : Nat}, n ∣ K → (∀ g ∈ fs, g.2.natAbs ∣ K) → fs.foldl (fun n g => Nat.lcm n g.2.natAbs) n ∣ K := by
  induction fs with
  | nil => exact fun {n} h _ => h
  | cons f fs ih => exact fun {n} h hg => ih (Nat.lcm_dvd h (hg f List.mem_cons_self)) fun g hm => hg g (List.mem_cons_of_mem _ hm)
theorem lcm_fold_pos {fs : List Fc} : ∀ {n : Nat}, 0 < n → (∀ g ∈ fs, 1 ≤ g.2) → 0 < fs.foldl (fun n g => Nat.lcm n g.2.natAbs) n := by
  induction fs with
  | nil => exact fun {n} h _ => h
  | cons f fs ih => exact fun {n} h hg => ih (Nat.lcm_pos h (by have := hg f List.mem_cons_self; omega)) fun g hm => hg g (List.mem_cons_of_mem _ hm)
theorem cm_dvd {fs : List Fc} {g : Fc} (h : g ∈ fs) : g.2 ∣ (cmN fs : Int) := Int.natAbs_dvd_natAbs.mp (lcm_fold.2 g h)
theorem cm_of {fs : List Fc} {K : Nat} (h : ∀ g ∈ fs, g.2.natAbs ∣ K) : cmN fs ∣ K := lcm_fold_of (Nat.one_dvd _) h
theorem cm_pos {fs : List Fc} (h : ∀ g ∈ fs, 1 ≤ g.2) : 0 < cmN fs := lcm_fold_pos (by decide) h
theorem lcm_step {n : Nat} {b : Int} (hb : 1 ≤ b) : ((n : Int).fdiv (gcdI n b)) * b = ((Nat.lcm n b.natAbs : Nat) : Int) := by
  obtain ⟨k, rfl⟩ := Int.eq_ofNat_of_zero_le (show 0 ≤ b by omega)
  unfold gcdI
  rw [Int.natAbs_natCast, Int.natAbs_natCast, Int.fdiv_eq_ediv_of_dvd (Int.natCast_dvd_natCast.mpr (Nat.gcd_dvd_left n k)), ← Int.natCast_ediv, ← Int.natCast_mul]
  congr 1
  rw [Nat.lcm, Nat.mul_comm n k, Nat.mul_div_assoc k (Nat.gcd_dvd_left n k), Nat.mul_comm]
/-- a fraction, so many times: a whole number -/
def wh (S : Int) (f : Fc) : Int := (f.1 * S).fdiv f.2
theorem wh_mul {S : Int} {f : Fc} (hf : 1 ≤ f.2) (h : f.2 ∣ S) : wh S f * f.2 = f.1 * S := fdiv_of (by omega) (Int.dvd_mul_of_dvd_right h)
def c_common : Ct := fun ds μ Q _ => ∃ fs : List Fc, ds = [.lst (fs.map fr)] ∧ (∀ f ∈ fs, 1 ≤ f.2) ∧ cmN fs < 2 ^ 4000 ∧ Q (.int (cmN fs)) μ
/-! ### a column more -/
abbrev vecL (xs : List Int) : Det.Vec := fun j => xs.getD j 0
def P0 (b : List Int) : Prob := ⟨b.length, b.length, Det.unit, fun _ => 0, vecL b⟩
def addP (P : Prob) (v : Det.Vec) (g : Int) : Prob := { P with n := P.n + 1, A := fun k => if k = P.n then v else P.A k, c := fun k => if k = P.n then g else P.c k }
section
variable {P : Prob} {β : Bas} {v : Det.Vec} {g : Int}
theorem addP_n : (addP P v g).n = P.n + 1 := rfl
theorem addP_b : (addP P v g).b = P.b := rfl
theorem addP_A {k : Nat} (h : k < P.n) : (addP P v g).A k = P.A k := if_neg (by omega)
theorem addP_c {k : Nat} (h : k < P.n) : (addP P v g).c k = P.c k := if_neg (by omega)
theorem addP_An : (addP P v g).A P.n = v := if_pos rfl
theorem addP_cn : (addP P v g).c P.n = g := if_pos rfl
theorem dt_add (h : ∀ i, i < P.m → β i < P.n) : Dt (addP P v g) β = Dt P β := Det.det_congr fun i k hi hk => by
  show (addP P v g).A (β i) k = P.A (β i) k
  rw [addP_A (h i hi)]
theorem t_add (h : ∀ i, i < P.m → β i < P.n) {i : Nat} {x : Det.Vec} : T (addP P v g) β i x = T P β i x := Det.det_congr fun a k ha hk => by
  unfold Det.put
  split
  · rfl
  · show (addP P v g).A (β a) k = P.A (β a) k
    rw [addP_A (h a ha)]
theorem gn_add (h : ∀ i, i < P.m → β i < P.n) {x : Det.Vec} {κ : Int} : gn (addP P v g) β x κ = gn P β x κ := by
  unfold gn
  rw [dt_add h]
  congr 1
  refine Det.sm_congr fun i hi => ?_
  rw [t_add h, addP_c (h i hi)]
theorem gk_add (h : ∀ i, i < P.m → β i < P.n) {k : Nat} (hk : k < P.n) : gk (addP P v g) β k = gk P β k := by
  unfold gk
  rw [addP_A hk, addP_c hk, gn_add h]
theorem gk_new (h : ∀ i, i < P.m → β i < P.n) : gk (addP P v g) β P.n = gn P β v g := by
  unfold gk
  rw [addP_An, addP_cn, gn_add h]
theorem zb_add (h : ∀ i, i < P.m → β i < P.n) : zb (addP P v g) β = zb P β := gn_add h
theorem good_add (h : Good P β) : Good (addP P v g) β := by
  refine ⟨⟨by rw [dt_add h.rg]; exact h.ok.pos, fun x k hk => ?_⟩, fun i hi => by rw [t_add h.rg]; exact h.fe i hi, fun i hi => by have := h.rg i hi; show β i < P.n + 1; omega⟩
  rw [dt_add h.rg, h.ok.cr x k hk]
  refine Det.sm_congr fun j hj => ?_
  rw [t_add h.rg, addP_A (h.rg j hj)]
theorem std_add (h : Std P) : Std (addP P v g) := by
  have := h.mn
  refine ⟨fun k hk => ?_, fun k hk => ?_, by show P.m ≤ P.n + 1; omega, h.bn⟩
  · have hk : k < P.m := hk
    rw [addP_A (by omega)]
    exact h.u k hk
  · have hk : k < P.m := hk
    rw [addP_c (by omega)]
    exact h.z k hk
theorem std_0 {b : List Int} (h : ∀ x ∈ b, 0 ≤ x) : Std (P0 b) := ⟨fun _ _ => rfl, fun _ _ => rfl, Nat.le_refl _, fun k hk => by
  show 0 ≤ b.getD k 0
  rw [List.getD_eq_getElem?_getD, List.getElem?_eq_getElem hk]
  exact h _ (List.getElem_mem hk)⟩
end
/-! ### the board -/
structure Brd where
  a : Addr
  dx : Addr
  rw_ : Addr
  ga : Addr
  ba : Addr
  sc : Addr
  ro : List Addr
def Brd.all (B : Brd) : List Addr := B.ro ++ [B.a, B.rw_, B.ga, B.ba, B.sc]
def rowL (P : Prob) (β : Bas) (i : Nat) : List Int := (List.range P.n).map (fun k => T P β i (P.A k)) ++ [T P β i P.b]
def gainL (P : Prob) (β : Bas) : List Int := (List.range P.n).map (gk P β) ++ [zb P β]
def basL (P : Prob) (β : Bas) : List Int := (List.range P.m).map fun i => (β i : Int)
def bfs (B : Brd) (S : Int) (P : Prob) (β : Bas) : List (Str × D) := [("scale", .int S), ("rests", .int P.m), ("bottom", .int (Dt P β)), ("rows", .raw (.ref B.rw_)), ("gains", .raw (.ref B.ga)), ("basis", .raw (.ref B.ba)), ("scales", .raw (.ref B.sc))]
structure BrdAt (C : Addr) (μ : M) (B : Brd) (S : Int) (σ : List Int) (P : Prob) (β : Bas) : Prop where
  ins : μ B.a = some (.ins C B.dx (bfs B S P β))
  rows : μ B.rw_ = some (.lst (B.ro.map fun r => .raw (.ref r)))
  rl : B.ro.length = P.m
  row : ∀ (i : Nat) (r : Addr), B.ro[i]? = some r → μ r = some (.lst ((rowL P β i).map D.int))
  gains : μ B.ga = some (.lst ((gainL P β).map D.int))
  bas : μ B.ba = some (.lst ((basL P β).map D.int))
  sc : μ B.sc = some (.lst (σ.map D.int))
  sl : σ.length = P.n
  nd : B.all.Nodup
/-- the cells of the board apart, all stays -/
def OthB (μ μ' : M) (B : Brd) : Prop := ∀ q, q ∉ B.all → μ' q = μ q
theorem OthB.refl {μ : M} {B : Brd} : OthB μ μ B := fun _ _ => rfl
theorem OthB.trans {μ μ2 μ3 : M} {B : Brd} (h : OthB μ μ2 B) (k : OthB μ2 μ3 B) : OthB μ μ3 B := fun q hq => (k q hq).trans (h q hq)
/-- sizes -/
structure SzB (P : Prob) (S : Int) (σ : List Int) : Prop where
  sm : ∃ M : Nat, Simp.Small P M ∧ (P.m + 1) * M * (P.m * M) ^ P.m < 2 ^ 3000 ∧ (P.m * M) ^ P.m < 2 ^ 3000 ∧ M < 2 ^ 3000
  S : 1 ≤ S ∧ S.natAbs < 2 ^ 500
  σ : ∀ s ∈ σ, 1 ≤ s ∧ s.natAbs < 2 ^ 500
  nn : P.n < 1000000
  mm : P.m < 1000000
theorem lk_hit {k : Str} {d : D} {l : List (Str × D)} : ((k, d) :: l).lookup k = some d := by rw [List.lookup_cons, beq_self_eq_true]
theorem lk_skip {k k' : Str} {d : D} {l : List (Str × D)} (h : (k == k') = false) : ((k', d) :: l).lookup k = l.lookup k := by rw [List.lookup_cons, h]
section
variable {B : Brd} {S : Int} {P : Prob} {β : Bas}
theorem lk_scale : (bfs B S P β).lookup (PySem.Str.ofString "scale") = some (.int S) := lk_hit
theorem lk_rests : (bfs B S P β).lookup (PySem.Str.ofString "rests") = some (.int P.m) := ((lk_skip (by decide +kernel)).trans lk_hit)
theorem lk_bottom : (bfs B S P β).lookup (PySem.Str.ofString "bottom") = some (.int (Dt P β)) := ((lk_skip (by decide +kernel)).trans ((lk_skip (by decide +kernel)).trans lk_hit))
theorem lk_rows : (bfs B S P β).lookup (PySem.Str.ofString "rows") = some (.raw (.ref B.rw_)) := ((lk_skip (by decide +kernel)).trans ((lk_skip (by decide +kernel)).trans ((lk_skip (by decide +kernel)).trans lk_hit)))
theorem lk_gains : (bfs B S P β).lookup (PySem.Str.ofString "gains") = some (.raw (.ref B.ga)) := ((lk_skip (by decide +kernel)).trans ((lk_skip (by decide +kernel)).trans ((lk_skip (by decide +kernel)).trans ((lk_skip (by decide +kernel)).trans lk_hit))))
theorem lk_basis : (bfs B S P β).lookup (PySem.Str.ofString "basis") = some (.raw (.ref B.ba)) := ((lk_skip (by decide +kernel)).trans ((lk_skip (by decide +kernel)).trans ((lk_skip (by decide +kernel)).trans ((lk_skip (by decide +kernel)).trans ((lk_skip (by decide +kernel)).trans lk_hit)))))
theorem lk_scales : (bfs B S P β).lookup (PySem.Str.ofString "scales") = some (.raw (.ref B.sc)) := ((lk_skip (by decide +kernel)).trans ((lk_skip (by decide +kernel)).trans ((lk_skip (by decide +kernel)).trans ((lk_skip (by decide +kernel)).trans ((lk_skip (by decide +kernel)).trans ((lk_skip (by decide +kernel)).trans lk_hit))))))
theorem lk_add : (bfs B S P β).lookup (PySem.Str.ofString "add") = none := ((lk_skip (by decide +kernel)).trans ((lk_skip (by decide +kernel)).trans ((lk_skip (by decide +kernel)).trans ((lk_skip (by decide +kernel)).trans ((lk_skip (by decide +kernel)).trans ((lk_skip (by decide +kernel)).trans ((lk_skip (by decide +kernel)).trans rfl)))))))
theorem lk_leaving : (bfs B S P β).lookup (PySem.Str.ofString "leaving") = none := ((lk_skip (by decide +kernel)).trans ((lk_skip (by decide +kernel)).trans ((lk_skip (by decide +kernel)).trans ((lk_skip (by decide +kernel)).trans ((lk_skip (by decide +kernel)).trans ((lk_skip (by decide +kernel)).trans ((lk_skip (by decide +kernel)).trans rfl)))))))
theorem lk_turn : (bfs B S P β).lookup (PySem.Str.ofString "turn") = none := ((lk_skip (by decide +kernel)).trans ((lk_skip (by decide +kernel)).trans ((lk_skip (by decide +kernel)).trans ((lk_skip (by decide +kernel)).trans ((lk_skip (by decide +kernel)).trans ((lk_skip (by decide +kernel)).trans ((lk_skip (by decide +kernel)).trans rfl)))))))
theorem lk_settle : (bfs B S P β).lookup (PySem.Str.ofString "settle") = none := ((lk_skip (by decide +kernel)).trans ((lk_skip (by decide +kernel)).trans ((lk_skip (by decide +kernel)).trans ((lk_skip (by decide +kernel)).trans ((lk_skip (by decide +kernel)).trans ((lk_skip (by decide +kernel)).trans ((lk_skip (by decide +kernel)).trans rfl)))))))
theorem lk_wanted : (bfs B S P β).lookup (PySem.Str.ofString "wanted") = none := ((lk_skip (by decide +kernel)).trans ((lk_skip (by decide +kernel)).trans ((lk_skip (by decide +kernel)).trans ((lk_skip (by decide +kernel)).trans ((lk_skip (by decide +kernel)).trans ((lk_skip (by decide +kernel)).trans ((lk_skip (by decide +kernel)).trans rfl)))))))
theorem lk_shares : (bfs B S P β).lookup (PySem.Str.ofString "shares") = none := ((lk_skip (by decide +kernel)).trans ((lk_skip (by decide +kernel)).trans ((lk_skip (by decide +kernel)).trans ((lk_skip (by decide +kernel)).trans ((lk_skip (by decide +kernel)).trans ((lk_skip (by decide +kernel)).trans ((lk_skip (by decide +kernel)).trans rfl)))))))
theorem lk_prices : (bfs B S P β).lookup (PySem.Str.ofString "prices") = none := ((lk_skip (by decide +kernel)).trans ((lk_skip (by decide +kernel)).trans ((lk_skip (by decide +kernel)).trans ((lk_skip (by decide +kernel)).trans ((lk_skip (by decide +kernel)).trans ((lk_skip (by decide +kernel)).trans ((lk_skip (by decide +kernel)).trans rfl)))))))
theorem lk_endless : (bfs B S P β).lookup (PySem.Str.ofString "endless") = none := ((lk_skip (by decide +kernel)).trans ((lk_skip (by decide +kernel)).trans ((lk_skip (by decide +kernel)).trans ((lk_skip (by decide +kernel)).trans ((lk_skip (by decide +kernel)).trans ((lk_skip (by decide +kernel)).trans ((lk_skip (by decide +kernel)).trans rfl)))))))
end
def t_common : DTS :=
  (dSeq (dSet 1 (dC (.int 1)))
    (dSeq (dFor (dSeqI (dVar 0)) (tgN 2) (dSet 1 (dOp gMul (dOp (gI CDivD fun i j => .int (i.fdiv j)) (dVar 1) (dCall c_shared (dCons (dVar 1) (dCons (dOp gIx (dVar 2) (dC (.int 1))) dNil)))) (dOp gIx (dVar 2) (dC (.int 1))))))
    (dRet (dVar 1))))
theorem hb_common : HB c_common t_common 3 := by
  intro ds μ Q X h
  obtain ⟨fs, rfl, hp, hs, q⟩ := h
  show t_common (ends Q XF) [some (.lst (fs.map fr)), none, none] μ
  simp! only [t_common]
  refine for_pre (fun pre δ μ' => μ' = μ ∧ ∃ x2, δ = [some (.lst (fs.map fr)), some (.int (cmN pre)), x2]) ⟨rfl, _, rfl⟩ ?_ ?_
  · rintro pre f post δ μ' hz ⟨rfl, x2, rfl⟩
    refine ⟨trivial, ?_⟩
    have hm : f ∈ fs := by rw [hz]; simp
    have f1 := hp f hm
    have step : cmN (pre ++ [f]) = Nat.lcm (cmN pre) f.2.natAbs := by unfold cmN; rw [List.foldl_append]; rfl
    have le1 : cmN (pre ++ [f]) ≤ cmN fs := Nat.le_of_dvd (cm_pos hp) (cm_of fun g hg => Int.natAbs_dvd_natAbs.mpr (cm_dvd (by rw [hz]; rcases List.mem_append.mp hg with h | h <;> simp_all)))
    have pp : 0 < cmN pre := cm_pos fun g hg => hp g (by rw [hz]; exact List.mem_append_left _ hg)
    have le2 : cmN pre ≤ cmN (pre ++ [f]) := by rw [step]; exact Nat.le_of_dvd (Nat.lcm_pos pp (by omega)) (Nat.dvd_lcm_left _ _)
    have le3 : f.2.natAbs ≤ cmN (pre ++ [f]) := by rw [step]; exact Nat.le_of_dvd (Nat.lcm_pos pp (by omega)) (Nat.dvd_lcm_right _ _)
    have g0 := gcdI_pos (t := (cmN pre : Int)) (b := f.2) (by omega)
    have g1 : (gcdI (cmN pre) f.2).natAbs ≤ cmN pre := by
      unfold gcdI
      rw [Int.natAbs_natCast, Int.natAbs_natCast]
      exact Nat.gcd_le_left _ pp
    have d1 : (((cmN pre : Nat) : Int).fdiv (gcdI (cmN pre) f.2)).natAbs ≤ cmN pre := by
      rw [Int.fdiv_eq_ediv_of_dvd (by unfold gcdI; rw [Int.natAbs_natCast]; exact Int.natCast_dvd_natCast.mpr (Nat.gcd_dvd_left _ _))]
      exact Int.natAbs_ediv_le_natAbs _ _
    simp! only [fr]
    refine ⟨_, _, rfl, ?_⟩
    walk_at "r"
    refine ⟨divOk_pow (b := 4000) (by omega) (by omega) (by decide), mulOk_pow (a := 4000) (b := 4000) (by omega) (by omega) (by decide), ?_⟩
    rw [lcm_step f1, ← step]
    exact ⟨_, rfl⟩
  · rintro δ μ' ⟨rfl, x2, rfl⟩
    refine ⟨trivial, ?_⟩
    walk_at "r"
    exact .of q
--PART2
section
variable {C : Addr} {μ : M} {B : Brd} {S : Int} {σ : List Int} {P : Prob} {β : Bas}
theorem rowL_len {i : Nat} : (rowL P β i).length = P.n + 1 := by unfold rowL; simp
theorem gainL_len : (gainL P β).length = P.n + 1 := by unfold gainL; simp
theorem basL_len : (basL P β).length = P.m := by unfold basL; simp
theorem at_map {α : Type} {f : α → D} {xs : List α} {i : Nat} (h : i < xs.length) : atI (xs.map f) (i : Int) = some (f xs[i]) := by
  rw [NB.atI_nat, List.getElem?_map, List.getElem?_eq_getElem h]
  rfl
theorem at_row {i k : Nat} (h : k < P.n) : atI ((rowL P β i).map D.int) (k : Int) = some (.int (T P β i (P.A k))) := by
  rw [NB.atI_nat, List.getElem?_map]
  unfold rowL
  rw [List.getElem?_append_left (by simpa using h), List.getElem?_map, List.getElem?_range h]
  rfl
theorem at_gain {k : Nat} (h : k < P.n) : atI ((gainL P β).map D.int) (k : Int) = some (.int (gk P β k)) := by
  rw [NB.atI_nat, List.getElem?_map]
  unfold gainL
  rw [List.getElem?_append_left (by simpa using h), List.getElem?_map, List.getElem?_range h]
  rfl
theorem at_bas {i : Nat} (h : i < P.m) : atI ((basL P β).map D.int) (i : Int) = some (.int (β i)) := by
  rw [NB.atI_nat, List.getElem?_map]
  unfold basL
  rw [List.getElem?_map, List.getElem?_range h]
  rfl
theorem at_last {xs : List D} {x : D} : atI (xs ++ [x]) (-1) = some x := by
  unfold atI ixN
  rw [List.length_append, List.length_singleton, if_neg (by decide), if_pos (by omega), show (-1 + ((xs.length + 1 : Nat) : Int)).toNat = xs.length by omega]
  show (xs ++ [x])[xs.length]? = some x
  rw [List.getElem?_append_right (Nat.le_refl _), Nat.sub_self]
  rfl
theorem at_rowb {i : Nat} : atI ((rowL P β i).map D.int) (-1) = some (.int (T P β i P.b)) := by
  unfold rowL
  rw [List.map_append]
  exact at_last
end
def c_bwanted (C : Addr) : Ct := fun ds μ Q _ => ∃ (B : Brd) (S : Int) (σ : List Int) (P : Prob) (β : Bas), ds = [.raw (.ref B.a)] ∧ BrdAt C μ B S σ P β ∧ P.n < 1000000 ∧ ((∀ k, k < P.n → 0 ≤ gk P β k) → Q .non μ) ∧
  ∀ e : Nat, e < P.n → gk P β e < 0 → (∀ k, k < e → 0 ≤ gk P β k) → Q (.int e) μ
/-- the row whose column goes -/
structure Leaves (P : Prob) (β : Bas) (r e : Nat) : Prop where
  hr : r < P.m
  pos : 0 < T P β r (P.A e)
  ratio : ∀ i, i < P.m → 0 < T P β i (P.A e) → T P β r P.b * T P β i (P.A e) ≤ T P β i P.b * T P β r (P.A e) ∧ (T P β r P.b * T P β i (P.A e) = T P β i P.b * T P β r (P.A e) → β r ≤ β i)
def c_bleaving (C : Addr) : Ct := fun ds μ Q _ => ∃ (B : Brd) (S : Int) (σ : List Int) (P : Prob) (β : Bas) (e : Nat), ds = [.raw (.ref B.a), .int e] ∧ BrdAt C μ B S σ P β ∧ e < P.n ∧ Good P β ∧ SzB P S σ ∧
  ((∀ i, i < P.m → T P β i (P.A e) ≤ 0) → Q .non μ) ∧ ∀ r : Nat, Leaves P β r e → Q (.int r) μ
def t_Board_wanted (C_Board : Addr) : DTS :=
  (dSeq (dFor (dRange1 (dCons (dOp (gI0 fun i j => .int (i - j)) (dCB gLen (dCons (dFld C_Board "gains" (dVar 0)) dNil)) (dC (.int 1))) dNil)) (tgN 1) (dIf (dB (dOp gLt (dOp gIx (dFld C_Board "gains" (dVar 0)) (dVar 1)) (dC (.int 0)))) (dRet (dVar 1)) dNext))
    (dRet (dC .non)))
def t_Board_leaving (C_Board : Addr) : DTS :=
  (dSeq (dSet 2 (dC .non))
    (dSeq (dFor (dEnum (dCons (dFld C_Board "rows" (dVar 0)) dNil)) (tgT (tgCons (tgN 3) (tgCons (tgN 4) tgNil))) (dIf (dB (dOp gGt (dOp gIx (dVar 4) (dVar 1)) (dC (.int 0)))) (dIf (dB (dOp (gIs false) (dVar 2) (dC .non))) (dSet 2 (dVar 3)) (dSeq (dSet 5 (dOp gMul (dOp gIx (dVar 4) (dNeg (dC (.int 1)))) (dOp gIx (dOp gIx (dFld C_Board "rows" (dVar 0)) (dVar 2)) (dVar 1))))
    (dSeq (dSet 6 (dOp gMul (dOp gIx (dOp gIx (dFld C_Board "rows" (dVar 0)) (dVar 2)) (dNeg (dC (.int 1)))) (dOp gIx (dVar 4) (dVar 1))))
    (dIf (dOr (dB (dOp gLt (dVar 5) (dVar 6))) (dAnd (dB (dOp gEq (dVar 5) (dVar 6))) (dB (dOp gLt (dOp gIx (dFld C_Board "basis" (dVar 0)) (dVar 3)) (dOp gIx (dFld C_Board "basis" (dVar 0)) (dVar 2)))))) (dSet 2 (dVar 3)) dNext)))) dNext))
    (dRet (dVar 2))))
theorem hb_Board_wanted {C : Addr} : HB (c_bwanted C) (t_Board_wanted C) 2 := by
  intro ds μ Q X h
  obtain ⟨B, S, σ, P, β, rfl, hB, hn, q1, q2⟩ := h
  show t_Board_wanted C (ends Q XF) [some (.raw (.ref B.a)), none] μ
  have sz : 16777216 ≤ sizeLine := by decide
  simp! only [t_Board_wanted]
  refine ⟨B.dx, _, _, hB.ins, lk_gains, ?_⟩
  rw [view_cell hB.gains]
  simp! only [List.length_map, gainL_len]
  refine ⟨by omega, ?_⟩
  rw [show ((P.n + 1 : Nat) - 1 : Int).toNat = P.n by omega, range_map0]
  refine for_pre (enc := fun i : Nat => D.int (i : Int)) (fun pre δ μ' => μ' = μ ∧ ∃ x1, δ = [some (.raw (.ref B.a)), x1] ∧ ∀ k, k < pre.length → 0 ≤ gk P β k) ⟨rfl, _, rfl, fun k hk => by cases hk⟩ ?_ ?_
  · rintro pre i post δ μ' hz ⟨rfl, x1, rfl, hp⟩
    have hi : i = pre.length := by
      have h1 : (List.range P.n)[pre.length]? = some i := by rw [hz]; simp
      obtain ⟨h2, h3⟩ := List.getElem?_eq_some_iff.mp h1
      rw [List.getElem_range] at h3
      exact h3.symm
    have hin : i < P.n := by
      have : i ∈ List.range P.n := by rw [hz]; simp
      exact List.mem_range.mp this
    refine ⟨trivial, ?_⟩
    walk_at "r"
    refine ⟨B.dx, _, _, hB.ins, lk_gains, ?_⟩
    rw [view_cell hB.gains]
    simp! only [at_gain hin]
    refine ifS_dec (fun hl => ?_) fun hl => ?_
    · exact .of (q2 i hin hl fun k hk => hp k (by omega))
    · refine ⟨rfl, _, rfl, fun k hk => ?_⟩
      rw [List.length_append] at hk
      by_cases e : k < pre.length
      · exact hp k e
      · have : k = i := by simp only [List.length_cons, List.length_nil] at hk; omega
        subst this
        omega
  · rintro δ μ' ⟨rfl, x1, rfl, hp⟩
    refine ⟨trivial, ?_⟩
    walk_at "r"
    exact .of (q1 fun k hk => hp k (by rw [List.length_range]; exact hk))
theorem sz_t {P : Prob} {β : Bas} {S : Int} {σ : List Int} (h : SzB P S σ) (hb : ∀ i, i < P.m → β i < P.n) (i : Nat) {k : Nat} (hk : k < P.n) : (T P β i (P.A k)).natAbs < 2 ^ 3000 := by
  obtain ⟨M, hM, _, h2, _⟩ := h.sm
  exact Nat.lt_of_le_of_lt (hM.t hb (fun j hj => hM.A k j hk hj) i) h2
theorem sz_b {P : Prob} {β : Bas} {S : Int} {σ : List Int} (h : SzB P S σ) (hb : ∀ i, i < P.m → β i < P.n) (i : Nat) : (T P β i P.b).natAbs < 2 ^ 3000 := by
  obtain ⟨M, hM, _, h2, _⟩ := h.sm
  exact Nat.lt_of_le_of_lt (hM.t hb hM.b i) h2
theorem sz_dt {P : Prob} {β : Bas} {S : Int} {σ : List Int} (h : SzB P S σ) (hb : ∀ i, i < P.m → β i < P.n) : (Dt P β).natAbs < 2 ^ 3000 := by
  obtain ⟨M, hM, _, h2, _⟩ := h.sm
  exact Nat.lt_of_le_of_lt (hM.dt hb) h2
theorem sz_gk {P : Prob} {β : Bas} {S : Int} {σ : List Int} (h : SzB P S σ) (hb : ∀ i, i < P.m → β i < P.n) {k : Nat} (hk : k < P.n) : (gk P β k).natAbs < 2 ^ 3000 := by
  obtain ⟨M, hM, h1, _⟩ := h.sm
  exact Nat.lt_of_le_of_lt (hM.gn hb (fun j hj => hM.A k j hk hj) (hM.c k hk)) h1
theorem sz_zb {P : Prob} {β : Bas} {S : Int} {σ : List Int} (h : SzB P S σ) (hb : ∀ i, i < P.m → β i < P.n) : (zb P β).natAbs < 2 ^ 3000 := by
  obtain ⟨M, hM, h1, _⟩ := h.sm
  exact Nat.lt_of_le_of_lt (hM.gn hb hM.b (κ := 0) (by omega)) h1
theorem mok3 {x y : Int} (hx : x.natAbs < 2 ^ 3000) (hy : y.natAbs < 2 ^ 3000) : IntMulOk x y := mulOk_pow hx hy (by decide)
theorem nth_of {α : Type} {xs pre post : List α} {x : α} (hz : xs = pre ++ x :: post) : xs[pre.length]? = some x := by rw [hz]; simp
/-- the best row of those seen -/
def Best (P : Prob) (β : Bas) (e n : Nat) (o : Option Nat) : Prop := match o with
  | none => ∀ i, i < n → T P β i (P.A e) ≤ 0
  | some r => r < n ∧ 0 < T P β r (P.A e) ∧ ∀ i, i < n → 0 < T P β i (P.A e) → T P β r P.b * T P β i (P.A e) ≤ T P β i P.b * T P β r (P.A e) ∧ (T P β r P.b * T P β i (P.A e) = T P β i P.b * T P β r (P.A e) → β r ≤ β i)
def optN (o : Option Nat) : D := match o with
  | none => .non
  | some n => .int n
theorem best_tr {en eb ei bn bb bi : Int} {jn jb ji : Nat} (pb : 0 < eb) (pn : 0 < en) (pi : 0 < ei) (h : bn * eb < bb * en ∨ (bn * eb = bb * en ∧ jn < jb)) (z : bb * ei ≤ bi * eb ∧ (bb * ei = bi * eb → jb ≤ ji)) :
    bn * ei ≤ bi * en ∧ (bn * ei = bi * en → jn ≤ ji) := by
  obtain ⟨z1, z2⟩ := z
  have m1 : bb * ei * en ≤ bi * eb * en := Int.mul_le_mul_of_nonneg_right z1 (Int.le_of_lt pn)
  have c1 : bb * ei * en = bb * en * ei := by grind
  have c2 : bi * eb * en = bi * en * eb := by grind
  have c3 : bn * eb * ei = bn * ei * eb := by grind
  rcases h with h | ⟨h, hj⟩
  · have m2 : bn * eb * ei < bb * en * ei := Int.mul_lt_mul_of_pos_right h pi
    have : bn * ei < bi * en := Int.lt_of_mul_lt_mul_right (a := eb) (by omega) (Int.le_of_lt pb)
    exact ⟨by omega, fun e => by omega⟩
  · have m2 : bn * eb * ei = bb * en * ei := by rw [h]
    have le : bn * ei ≤ bi * en := Int.le_of_mul_le_mul_right (a := eb) (by omega) pb
    refine ⟨le, fun e => ?_⟩
    have : bb * ei = bi * eb := by
      have : bb * ei * en = bi * eb * en := by rw [c1, ← m2, c3, e, c2]
      exact Int.eq_of_mul_eq_mul_right (by omega) this
    have := z2 this
    omega
theorem hb_Board_leaving {C : Addr} : HB (c_bleaving C) (t_Board_leaving C) 7 := by
  intro ds μ Q X h
  obtain ⟨B, S, σ, P, β, e, rfl, hB, he, hg, hs, q1, q2⟩ := h
  show t_Board_leaving C (ends Q XF) [some (.raw (.ref B.a)), some (.int e), none, none, none, none, none] μ
  have sz : 16777216 ≤ sizeLine := by decide
  have rg := hg.rg
  simp! only [t_Board_leaving]
  refine ⟨B.dx, _, _, hB.ins, lk_rows, ?_⟩
  show OptS ((srcOf μ (.raw (.ref B.rw_))).map (Src.enum 0)) _ _
  rw [src_cell hB.rows]
  simp! only [Src.enum]
  rw [enum_map]
  refine for_pre (fun pre δ μ' => μ' = μ ∧ ∃ (o : Option Nat) (x3 x4 x5 x6 : Option D), δ = [some (.raw (.ref B.a)), some (.int e), some (optN o), x3, x4, x5, x6] ∧ Best P β e pre.length o)
    ⟨rfl, none, _, _, _, _, rfl, fun i hi => by cases hi⟩ ?_ ?_
  · rintro pre ⟨r, k⟩ post δ μ' hz ⟨rfl, o, x3, x4, x5, x6, rfl, hb⟩
    refine ⟨hB.rows, ?_⟩
    have hk := nth_of hz
    rw [List.getElem?_zipIdx] at hk
    obtain ⟨r', e1, e2⟩ := Option.map_eq_some_iff.mp hk
    injection e2 with e2 e3
    subst e2
    have e3 : k = pre.length := by omega
    subst e3
    have hkm : pre.length < P.m := by rw [← hB.rl]; exact (List.getElem?_eq_some_iff.mp e1).1
    have vr : view μ' (.raw (.ref r')) = .lst ((rowL P β pre.length).map D.int) := view_cell (hB.row _ _ e1)
    have vw : view μ' (.raw (.ref B.rw_)) = .lst (B.ro.map fun r => .raw (.ref r)) := view_cell hB.rows
    have vb : view μ' (.raw (.ref B.ba)) = .lst ((basL P β).map D.int) := view_cell hB.bas
    have hlen : (pre ++ [(r', pre.length)]).length = pre.length + 1 := by rw [List.length_append]; rfl
    generalize hn : pre.length = n at *
    walk_at "r"
    rw [vr]
    simp! only [at_row he]
    refine ifS_dec (fun hp => ?_) fun hp => ?_
    · cases o with
      | none =>
        simp! only [optN]
        refine ⟨some n, _, _, _, _, rfl, ?_⟩
        rw [hlen]
        refine ⟨by omega, by omega, fun i hi hp2 => ?_⟩
        by_cases ei : i = n
        · subst ei
          exact ⟨Int.le_refl _, fun _ => Nat.le_refl _⟩
        · have := hb i (by omega)
          omega
      | some b =>
        obtain ⟨hb1, hb2, hb3⟩ := hb
        have hbm : b < P.m := by omega
        have hbl : b < B.ro.length := by rw [hB.rl]; exact hbm
        have vr2 : view μ' (.raw (.ref (B.ro[b]'hbl))) = .lst ((rowL P β b).map D.int) := view_cell (hB.row b _ (List.getElem?_eq_getElem hbl))
        have ar : atI (B.ro.map fun r => D.raw (.ref r)) (b : Int) = some (.raw (.ref (B.ro[b]'hbl))) := at_map hbl
        have st := sz_t hs rg
        have sb := sz_b hs rg
        simp! only [optN]
        rw [vr]
        simp! only [at_rowb]
        refine ⟨B.dx, _, _, hB.ins, lk_rows, ?_⟩
        rw [vw]
        simp! only [ar]
        rw [vr2]
        simp! only [at_row he]
        refine ⟨mok3 (sb _) (st _ he), B.dx, _, _, hB.ins, lk_rows, ?_⟩
        rw [vw]
        simp! only [ar]
        rw [vr2]
        simp! only [at_rowb]
        rw [vr]
        simp! only [at_row he]
        refine ⟨mok3 (sb _) (st _ he), ?_⟩
        have keep : T P β b P.b * T P β n (P.A e) ≤ T P β n P.b * T P β b (P.A e) → (T P β b P.b * T P β n (P.A e) = T P β n P.b * T P β b (P.A e) → β b ≤ β n) → Best P β e (n + 1) (some b) := fun h1 h2 =>
          ⟨by omega, hb2, fun i hi hp2 => by
            by_cases ei : i = n
            · subst ei
              exact ⟨h1, h2⟩
            · exact hb3 i (by omega) hp2⟩
        have take : T P β n P.b * T P β b (P.A e) < T P β b P.b * T P β n (P.A e) ∨ (T P β n P.b * T P β b (P.A e) = T P β b P.b * T P β n (P.A e) ∧ β n < β b) → Best P β e (n + 1) (some n) := fun h =>
          ⟨by omega, hp, fun i hi hp2 => by
            by_cases ei : i = n
            · subst ei
              exact ⟨Int.le_refl _, fun _ => Nat.le_refl _⟩
            · have z := hb3 i (by omega) hp2
              exact best_tr hb2 hp hp2 h z⟩
        refine ifOr_dec (fun h1 => ?_) fun h1 => ?_
        · walk_at "r"
          exact ⟨some n, _, _, _, _, rfl, by rw [hlen]; exact take (.inl h1)⟩
        · walk_at "r"
          refine ⟨okN_int, okN_int, ifAnd_dec (fun h2 => ?_) fun h2 => ?_⟩
          · walk_at "r"
            refine ⟨B.dx, _, _, hB.ins, lk_basis, ?_⟩
            rw [vb]
            simp! only [at_bas hkm]
            refine ⟨B.dx, _, _, hB.ins, lk_basis, ?_⟩
            rw [vb]
            simp! only [at_bas hbm]
            refine ifS_dec (fun h3 => ?_) fun h3 => ?_
            · walk_at "r"
              exact ⟨some n, _, _, _, _, rfl, by rw [hlen]; exact take (.inr ⟨h2, by omega⟩)⟩
            · walk_at "r"
              exact ⟨some b, _, _, _, _, rfl, by rw [hlen]; exact keep (by omega) fun _ => by omega⟩
          · walk_at "r"
            exact ⟨some b, _, _, _, _, rfl, by rw [hlen]; exact keep (by omega) fun h => by omega⟩
    · walk_at "r"
      refine ⟨o, _, _, _, _, rfl, ?_⟩
      rw [hlen]
      cases o with
      | none =>
        intro i hi
        by_cases ei : i = n
        · subst ei
          omega
        · exact hb i (by omega)
      | some b =>
        obtain ⟨hb1, hb2, hb3⟩ := hb
        refine ⟨by omega, hb2, fun i hi hp2 => ?_⟩
        by_cases ei : i = n
        · subst ei
          omega
        · exact hb3 i (by omega) hp2
  · rintro δ μ' ⟨rfl, o, x3, x4, x5, x6, rfl, hb⟩
    refine ⟨hB.rows, ?_⟩
    rw [List.length_zipIdx, hB.rl] at hb
    walk_at "r"
    cases o with
    | none => exact .of (q1 hb)
    | some r => exact .of (q2 r ⟨hb.1, hb.2.1, hb.2.2⟩)
--PART3
/-- the columns, and behind them the right side -/
def colk (P : Prob) (k : Nat) : Det.Vec := if k < P.n then P.A k else P.b
def costk (P : Prob) (k : Nat) : Int := if k < P.n then P.c k else 0
section
variable {P : Prob} {β : Bas}
theorem row_at {i k : Nat} (h : k ≤ P.n) : (rowL P β i)[k]? = some (T P β i (colk P k)) := by
  unfold rowL colk
  by_cases e : k < P.n
  · rw [List.getElem?_append_left (by simpa using e), List.getElem?_map, List.getElem?_range e, if_pos e]
    rfl
  · have : k = P.n := by omega
    subst this
    rw [List.getElem?_append_right (by simp), if_neg e]
    simp
theorem gain_at {k : Nat} (h : k ≤ P.n) : (gainL P β)[k]? = some (gn P β (colk P k) (costk P k)) := by
  unfold gainL colk costk
  by_cases e : k < P.n
  · rw [List.getElem?_append_left (by simpa using e), List.getElem?_map, List.getElem?_range e, if_pos e, if_pos e]
    rfl
  · have : k = P.n := by omega
    subst this
    rw [List.getElem?_append_right (by simp), if_neg e, if_neg e]
    simp [zb]
theorem sz_col {S : Int} {σ : List Int} (h : SzB P S σ) (hb : ∀ i, i < P.m → β i < P.n) (i : Nat) {k : Nat} (hk : k ≤ P.n) : (T P β i (colk P k)).natAbs < 2 ^ 3000 := by
  unfold colk
  split
  · exact sz_t h hb i (by assumption)
  · exact sz_b h hb i
theorem sz_gcol {S : Int} {σ : List Int} (h : SzB P S σ) (hb : ∀ i, i < P.m → β i < P.n) {k : Nat} (hk : k ≤ P.n) : (gn P β (colk P k) (costk P k)).natAbs < 2 ^ 3000 := by
  unfold colk costk
  by_cases e : k < P.n
  · rw [if_pos e, if_pos e]
    exact sz_gk h hb e
  · rw [if_neg e, if_neg e]
    exact sz_zb h hb
end
/-- a list turned: what stands there, and what is to stand there -/
structure Tri (D0 by_ part : Int) (ps old new : List Int) : Prop where
  l1 : old.length = ps.length
  l2 : new.length = ps.length
  ex : ∀ (k : Nat) (x p y : Int), old[k]? = some x → ps[k]? = some p → new[k]? = some y → D0 * y = x * by_ - part * p
  s1 : ∀ x ∈ old, x.natAbs < 2 ^ 3000
  s2 : ∀ x ∈ ps, x.natAbs < 2 ^ 3000
  s3 : part.natAbs < 2 ^ 3000 ∧ by_.natAbs < 2 ^ 3000 ∧ 0 < D0 ∧ D0.natAbs < 2 ^ 3000
abbrev tInner (C : Addr) : DTS := (dFor (dRange1 (dCons (dCB gLen (dCons (dVar 5) dNil)) dNil)) (tgN 7) (dSetIx (dOp (gI CDivD fun i j => .int (i.fdiv j)) (dOp (gI0 fun i j => .int (i - j)) (dOp gMul (dOp gIx (dVar 5) (dVar 7)) (dVar 4)) (dOp gMul (dVar 6) (dOp gIx (dVar 3) (dVar 7)))) (dFld C "bottom" (dVar 0))) (dVar 5) (dVar 7)))
theorem inner {C a q pr : Addr} {dx : Addr} {fs : List (Str × D)} {D0 by_ part : Int} {ps old new : List Int} {E : DEnds} {μ : M} {x1 x2 x7 : Option D} (h : Tri D0 by_ part ps old new) (hn : ps.length < 1000001) (hq : μ q = some (.lst (old.map D.int))) (hp : μ pr = some (.lst (ps.map D.int))) (hne : q ≠ pr)
    (ha : μ a = some (.ins C dx fs)) (hb : fs.lookup (PySem.Str.ofString "bottom") = some (.int D0))
    (hE : ∀ x7, E.nx [some (.raw (.ref a)), x1, x2, some (.raw (.ref pr)), some (.int by_), some (.raw (.ref q)), some (.int part), x7] (updM μ q (.lst (new.map D.int)))) :
    tInner C E [some (.raw (.ref a)), x1, x2, some (.raw (.ref pr)), some (.int by_), some (.raw (.ref q)), some (.int part), x7] μ := by
  have sz : 16777216 ≤ sizeLine := by decide
  have qa : a ≠ q := fun e => by rw [e, hq] at ha; cases ha
  obtain ⟨l1, l2, ex, s1, s2, s3, s4, s5, s6⟩ := h
  simp! only [tInner]
  rw [view_cell hq]
  simp! only [List.length_map]
  refine ⟨by omega, ?_⟩
  rw [show ((old.length : Nat) : Int).toNat = old.length by omega, range_map0]
  refine for_pre (enc := fun i : Nat => D.int (i : Int)) (fun pre δ μ' => μ' = updM μ q (.lst ((new.take pre.length ++ old.drop pre.length).map D.int)) ∧ ∃ x7, δ = [some (.raw (.ref a)), x1, x2, some (.raw (.ref pr)), some (.int by_), some (.raw (.ref q)), some (.int part), x7])
    ⟨?_, _, rfl⟩ ?_ ?_
  · funext b
    unfold updM
    split
    · next e => rw [e, hq]; simp
    · rfl
  · rintro pre i post δ μ' hz ⟨rfl, x7, rfl⟩
    have hi : pre.length = i := by
      have h1 := nth_of hz
      obtain ⟨h2, h3⟩ := List.getElem?_eq_some_iff.mp h1
      rw [List.getElem_range] at h3
      exact h3
    have hio : i < old.length := by
      have : i ∈ List.range old.length := by rw [hz]; simp
      exact List.mem_range.mp this
    have hlen : (pre ++ [i]).length = i + 1 := by rw [List.length_append, hi]; rfl
    rw [hi] at *
    refine ⟨trivial, ?_⟩
    have v1 : view (updM μ q (.lst ((new.take i ++ old.drop i).map D.int))) (.raw (.ref q)) = .lst ((new.take i ++ old.drop i).map D.int) := view_cell updM_same
    have v2 : view (updM μ q (.lst ((new.take i ++ old.drop i).map D.int))) (.raw (.ref pr)) = .lst (ps.map D.int) := view_cell (by rw [updM_ne (Ne.symm hne)]; exact hp)
    have tl : (new.take i).length = i := by rw [List.length_take]; omega
    have a1 : atI ((new.take i ++ old.drop i).map D.int) (i : Int) = some (.int old[i]) := by
      rw [NB.atI_nat, List.getElem?_map, List.getElem?_append_right (by omega), tl, Nat.sub_self, List.getElem?_drop, Nat.add_zero, List.getElem?_eq_getElem hio]
      rfl
    have hip : i < ps.length := by omega
    have hin : i < new.length := by omega
    have a2 : atI (ps.map D.int) (i : Int) = some (.int ps[i]) := at_map (f := D.int) hip
    have so := s1 _ (List.getElem_mem hio)
    have sp := s2 _ (List.getElem_mem hip)
    have e1 := ex i _ _ _ (List.getElem?_eq_getElem hio) (List.getElem?_eq_getElem hip) (List.getElem?_eq_getElem hin)
    walk_at "r"
    rw [v1]
    simp! only [a1]
    refine ⟨mok3 so s4, ?_⟩
    rw [v2]
    simp! only [a2]
    refine ⟨mok3 s3 sp, dx, _, _, by rw [updM_ne qa]; exact ha, hb, ?_⟩
    walk_at "r"
    refine ⟨divOk_pow (b := 3000) (by omega) s6 (by decide), _, updM_same, ?_⟩
    have ey : (old[i] * by_ - part * ps[i]).fdiv D0 = new[i] := by
      rw [← e1, Int.mul_comm, Int.mul_fdiv_cancel _ (by omega)]
    have ll : ((new.take i ++ old.drop i).map D.int).length = old.length := by rw [List.length_map, List.length_append, tl, List.length_drop]; omega
    rw [ey, show ixN ((new.take i ++ old.drop i).map D.int).length (i : Int) = some i by rw [ll]; exact ixN_nat hio]
    have el0 : (new.take i ++ old.drop i).set i new[i] = new.take (i + 1) ++ old.drop (i + 1) := by
      rw [show old.drop i = old[i] :: old.drop (i + 1) from List.drop_eq_getElem_cons hio, List.set_append_right _ _ (by omega), tl, Nat.sub_self, List.set_cons_zero, List.take_add_one, List.getElem?_eq_getElem hin, List.append_assoc]
      rfl
    have el : ((new.take i ++ old.drop i).map D.int).set i (.int new[i]) = (new.take (i + 1) ++ old.drop (i + 1)).map D.int := by
      rw [← List.map_set, el0]
    simp! only [el]
    exact ⟨by rw [updM_upd, hlen], _, rfl⟩
  · rintro δ μ' ⟨rfl, x7, rfl⟩
    refine ⟨trivial, ?_⟩
    rw [List.length_range, l1, ← l2, List.take_length, l2, ← l1, List.drop_length, List.append_nil]
    exact hE _
--PART4
def c_bturn (C : Addr) : Ct := fun ds μ Q _ => ∃ (B : Brd) (S : Int) (σ : List Int) (P : Prob) (β : Bas) (r e : Nat), ds = [.raw (.ref B.a), .int r, .int e] ∧ BrdAt C μ B S σ P β ∧ e < P.n ∧ Good P β ∧ SzB P S σ ∧ r < P.m ∧ 0 < T P β r (P.A e) ∧
  ∀ μ', BrdAt C μ' B S σ P (upd β r e) → OthB μ μ' B → Q .non μ'
def t_Board_turn (C_Board : Addr) : DTS :=
  (dSeq (dSet 3 (dOp gIx (dFld C_Board "rows" (dVar 0)) (dVar 1)))
    (dSeq (dSet 4 (dOp gIx (dVar 3) (dVar 2)))
    (dSeq (dFor (dSeqI (dOp gAdd (dOp gAdd (dSl (dFld C_Board "rows" (dVar 0)) dNoPart (dPart (dVar 1))) (dSl (dFld C_Board "rows" (dVar 0)) (dPart (dOp gAdd (dVar 1) (dC (.int 1)))) dNoPart)) (dLst (dCons (dFld C_Board "gains" (dVar 0)) dNil)))) (tgN 5) (dSeq (dSet 6 (dOp gIx (dVar 5) (dVar 2)))
    (dFor (dRange1 (dCons (dCB gLen (dCons (dVar 5) dNil)) dNil)) (tgN 7) (dSetIx (dOp (gI CDivD fun i j => .int (i.fdiv j)) (dOp (gI0 fun i j => .int (i - j)) (dOp gMul (dOp gIx (dVar 5) (dVar 7)) (dVar 4)) (dOp gMul (dVar 6) (dOp gIx (dVar 3) (dVar 7)))) (dFld C_Board "bottom" (dVar 0))) (dVar 5) (dVar 7)))))
    (dSeq (dSetFld C_Board "bottom" (dVar 4) (dVar 0))
    (dSetIx (dVar 2) (dFld C_Board "basis" (dVar 0)) (dVar 1))))))
structure Lst3 where
  q : Addr
  old : List Int
  new : List Int
theorem put_bottom {B : Brd} {S : Int} {P : Prob} {β : Bas} {r e : Nat} : putFD (PySem.Str.ofString "bottom") (.int (T P β r (P.A e))) (bfs B S P β) = bfs B S P (upd β r e) := by
  unfold bfs
  rw [Simp.Dt_upd]
  unfold putFD
  rw [if_neg (by decide +kernel)]
  unfold putFD
  rw [if_neg (by decide +kernel)]
  unfold putFD
  rw [if_pos rfl]
theorem bas_upd {P : Prob} {β : Bas} {r e : Nat} (hr : r < P.m) : (basL P β).set r (e : Int) = basL P (upd β r e) := by
  apply List.ext_getElem?
  intro i
  rw [List.getElem?_set]
  unfold basL
  rw [List.length_map, List.length_range]
  by_cases h : r = i
  · subst h
    rw [if_pos rfl, if_pos hr, List.getElem?_map, List.getElem?_range hr]
    show some (e : Int) = some ((upd β r e r : Nat) : Int)
    rw [Simp.upd_same]
  · rw [if_neg h]
    rcases Nat.lt_or_ge i P.m with hi | hi
    · rw [List.getElem?_map, List.getElem?_map, List.getElem?_range hi]
      show some ((β i : Nat) : Int) = some ((upd β r e i : Nat) : Int)
      rw [Simp.upd_ne (Ne.symm h)]
    · rw [List.getElem?_eq_none (by simpa using hi), List.getElem?_eq_none (by simpa using hi)]
section
variable {P : Prob} {β : Bas} {S : Int} {σ : List Int} {r e : Nat}
theorem rowL_mem {i : Nat} {x : Int} (h : x ∈ rowL P β i) : ∃ k, k ≤ P.n ∧ x = T P β i (colk P k) := by
  obtain ⟨k, hk, e⟩ := List.mem_iff_getElem.mp h
  rw [rowL_len] at hk
  have := row_at (P := P) (β := β) (i := i) (k := k) (by omega)
  rw [List.getElem?_eq_getElem (by rw [rowL_len]; exact hk), e] at this
  exact ⟨k, by omega, Option.some.inj this⟩
theorem gainL_mem {x : Int} (h : x ∈ gainL P β) : ∃ k, k ≤ P.n ∧ x = gn P β (colk P k) (costk P k) := by
  obtain ⟨k, hk, e⟩ := List.mem_iff_getElem.mp h
  rw [gainL_len] at hk
  have := gain_at (P := P) (β := β) (k := k) (by omega)
  rw [List.getElem?_eq_getElem (by rw [gainL_len]; exact hk), e] at this
  exact ⟨k, by omega, Option.some.inj this⟩
theorem tri_row (hg : Good P β) (hs : SzB P S σ) (hr : r < P.m) (he : e < P.n) {i : Nat} (hi : i < P.m) (hn : i ≠ r) :
    Tri (Dt P β) (T P β r (P.A e)) (T P β i (P.A e)) (rowL P β r) (rowL P β i) (rowL P (upd β r e) i) := by
  refine ⟨by rw [rowL_len, rowL_len], by rw [rowL_len, rowL_len], fun k x p y h1 h2 h3 => ?_, fun x hx => ?_, fun x hx => ?_, sz_t hs hg.rg _ he, sz_t hs hg.rg _ he, hg.ok.pos, sz_dt hs hg.rg⟩
  · have hk : k ≤ P.n := by
      have := (List.getElem?_eq_some_iff.mp h1).1
      rw [rowL_len] at this
      omega
    rw [row_at hk] at h1 h2 h3
    cases h1
    cases h2
    cases h3
    rw [Simp.T_upd hg.ok hr hi hn]
    rw [Int.mul_comm (T P β r (colk P k))]
  · obtain ⟨k, hk, rfl⟩ := rowL_mem hx
    exact sz_col hs hg.rg _ hk
  · obtain ⟨k, hk, rfl⟩ := rowL_mem hx
    exact sz_col hs hg.rg _ hk
theorem tri_gain (hg : Good P β) (hs : SzB P S σ) (hr : r < P.m) (he : e < P.n) :
    Tri (Dt P β) (T P β r (P.A e)) (gk P β e) (rowL P β r) (gainL P β) (gainL P (upd β r e)) := by
  refine ⟨by rw [rowL_len, gainL_len], by rw [rowL_len, gainL_len], fun k x p y h1 h2 h3 => ?_, fun x hx => ?_, fun x hx => ?_, sz_gk hs hg.rg he, sz_t hs hg.rg _ he, hg.ok.pos, sz_dt hs hg.rg⟩
  · have hk : k ≤ P.n := by
      have := (List.getElem?_eq_some_iff.mp h1).1
      rw [gainL_len] at this
      omega
    rw [gain_at hk] at h1 h3
    rw [row_at hk] at h2
    cases h1
    cases h2
    cases h3
    rw [Simp.gn_upd hg.ok hr]
  · obtain ⟨k, hk, rfl⟩ := gainL_mem hx
    exact sz_gcol hs hg.rg hk
  · obtain ⟨k, hk, rfl⟩ := rowL_mem hx
    exact sz_col hs hg.rg _ hk
end
def tris (B : Brd) (P : Prob) (β : Bas) (r e : Nat) : List Lst3 := ((B.ro.zipIdx.take r ++ B.ro.zipIdx.drop (r + 1)).map fun z => ⟨z.1, rowL P β z.2, rowL P (upd β r e) z.2⟩) ++ [⟨B.ga, gainL P β, gainL P (upd β r e)⟩]
theorem tri_mem {B : Brd} {P : Prob} {β : Bas} {r e i : Nat} {q : Addr} (h : B.ro[i]? = some q) (hn : i ≠ r) : ⟨q, rowL P β i, rowL P (upd β r e) i⟩ ∈ tris B P β r e := by
  refine List.mem_append_left _ (List.mem_map.mpr ⟨(q, i), ?_, rfl⟩)
  have hz : B.ro.zipIdx[i]? = some (q, i) := by rw [List.getElem?_zipIdx, h]; simp
  rw [List.mem_append]
  rcases Nat.lt_or_gt_of_ne hn with h1 | h1
  · refine .inl (List.mem_of_getElem? (i := i) ?_)
    rw [List.getElem?_take_of_lt h1, hz]
  · refine .inr (List.mem_of_getElem? (i := i - (r + 1)) ?_)
    rw [List.getElem?_drop, show r + 1 + (i - (r + 1)) = i by omega, hz]
theorem tri_of {B : Brd} {P : Prob} {β : Bas} {r e : Nat} {z : Lst3} (h : z ∈ tris B P β r e) : (∃ i, i ≠ r ∧ B.ro[i]? = some z.q ∧ z.old = rowL P β i ∧ z.new = rowL P (upd β r e) i) ∨ z = ⟨B.ga, gainL P β, gainL P (upd β r e)⟩ := by
  rcases List.mem_append.mp h with h | h
  · obtain ⟨⟨q, i⟩, hm, rfl⟩ := List.mem_map.mp h
    refine .inl ⟨i, ?_, ?_, rfl, rfl⟩
    · rintro rfl
      rcases List.mem_append.mp hm with h | h
      · obtain ⟨j, hj⟩ := List.mem_iff_getElem?.mp h
        have hlt : j < i := by
          have := (List.getElem?_eq_some_iff.mp hj).1
          rw [List.length_take] at this
          omega
        rw [List.getElem?_take_of_lt hlt, List.getElem?_zipIdx] at hj
        obtain ⟨_, _, e⟩ := Option.map_eq_some_iff.mp hj
        injection e with _ e
        omega
      · obtain ⟨j, hj⟩ := List.mem_iff_getElem?.mp h
        rw [List.getElem?_drop, List.getElem?_zipIdx] at hj
        obtain ⟨_, _, e⟩ := Option.map_eq_some_iff.mp hj
        injection e with _ e
        omega
    · have hz : (q, i) ∈ B.ro.zipIdx := by
        rcases List.mem_append.mp hm with h | h
        · exact List.mem_of_mem_take h
        · exact List.mem_of_mem_drop h
      have := List.mem_zipIdx_iff_getElem?.mp hz
      exact this
  · exact .inr (List.mem_singleton.mp h)
theorem tri_q {B : Brd} {P : Prob} {β : Bas} {r e : Nat} : (tris B P β r e).map (·.q) = B.ro.take r ++ B.ro.drop (r + 1) ++ [B.ga] := by
  unfold tris
  rw [List.map_append, List.map_map, List.map_append]
  have : ∀ l : List (Addr × Nat), l.map ((fun x : Lst3 => x.q) ∘ fun z : Addr × Nat => (⟨z.1, rowL P β z.2, rowL P (upd β r e) z.2⟩ : Lst3)) = l.map Prod.fst := fun l => rfl
  rw [this, this, List.map_take, List.map_drop, List.zipIdx_map_fst]
  rfl
theorem all_nd {B : Brd} (h : B.all.Nodup) : B.ro.Nodup ∧ (∀ q ∈ B.ro, q ≠ B.a ∧ q ≠ B.rw_ ∧ q ≠ B.ga ∧ q ≠ B.ba ∧ q ≠ B.sc) ∧ B.a ≠ B.rw_ ∧ B.a ≠ B.ga ∧ B.a ≠ B.ba ∧ B.a ≠ B.sc ∧ B.rw_ ≠ B.ga ∧ B.rw_ ≠ B.ba ∧ B.rw_ ≠ B.sc ∧ B.ga ≠ B.ba ∧ B.ga ≠ B.sc ∧ B.ba ≠ B.sc := by
  unfold Brd.all at h
  rw [List.nodup_append] at h
  obtain ⟨h1, h2, h3⟩ := h
  refine ⟨h1, fun q hq => ⟨h3 q hq _ (by simp), h3 q hq _ (by simp), h3 q hq _ (by simp), h3 q hq _ (by simp), h3 q hq _ (by simp)⟩, ?_⟩
  simp only [List.nodup_cons, List.mem_cons, List.not_mem_nil, or_false, not_or, List.nodup_nil, not_false_eq_true, and_true] at h2
  obtain ⟨⟨a1, a2, a3, a4⟩, ⟨a5, a6, a7⟩, ⟨a8, a9⟩, a10⟩ := h2
  exact ⟨a1, a2, a3, a4, a5, a6, a7, a8, a9, a10⟩
theorem nd_at {α : Type} {xs : List α} (h : xs.Nodup) {i j : Nat} {q : α} (hi : xs[i]? = some q) (hj : xs[j]? = some q) : i = j := by
  obtain ⟨h1, h2⟩ := List.getElem?_eq_some_iff.mp hi
  obtain ⟨h3, h4⟩ := List.getElem?_eq_some_iff.mp hj
  have z := List.pairwise_iff_getElem.mp h
  rcases Nat.lt_trichotomy i j with h | h | h
  · exact (z i j h1 h3 h (h2.trans h4.symm)).elim
  · exact h
  · exact (z j i h3 h1 h (h4.trans h2.symm)).elim
theorem tri_nd {B : Brd} {P : Prob} {β : Bas} {r e : Nat} (h : B.all.Nodup) : ((tris B P β r e).map (·.q)).Nodup := by
  rw [tri_q]
  obtain ⟨h1, h2, _⟩ := all_nd h
  rw [List.nodup_append]
  have s : (B.ro.take r ++ B.ro.drop (r + 1)).Sublist B.ro := by
    conv => rhs; rw [← List.take_append_drop r B.ro]
    refine List.Sublist.append (List.Sublist.refl _) ?_
    rw [← List.drop_drop]
    exact List.drop_sublist _ _
  refine ⟨s.nodup h1, by simp, fun x hx y hy => ?_⟩
  rw [List.mem_singleton.mp hy]
  exact (h2 x (s.subset hx)).2.2.1
theorem not_tri {B : Brd} {P : Prob} {β : Bas} {r e : Nat} {q : Addr} (hg : q ≠ B.ga) (h : ∀ i, B.ro[i]? = some q → i = r) : ∀ z ∈ tris B P β r e, z.q ≠ q := fun z hz e => by
  rcases tri_of hz with ⟨i, hi, h1, _, _⟩ | rfl
  · exact hi (h i (by rw [h1, e]))
  · exact hg e.symm
theorem hb_Board_turn {C : Addr} : HB (c_bturn C) (t_Board_turn C) 8 := by
  intro ds μ Q X h
  obtain ⟨B, S, σ, P, β, r, e, rfl, hB, he, hg, hs, hr, hp, q⟩ := h
  show t_Board_turn C (ends Q XF) [some (.raw (.ref B.a)), some (.int r), some (.int e), none, none, none, none, none] μ
  have sz : 16777216 ≤ sizeLine := by decide
  have hrl : r < B.ro.length := by rw [hB.rl]; exact hr
  have ar : atI (B.ro.map fun r => D.raw (.ref r)) (r : Int) = some (.raw (.ref (B.ro[r]'hrl))) := at_map hrl
  have vr : view μ (.raw (.ref (B.ro[r]'hrl))) = .lst ((rowL P β r).map D.int) := view_cell (hB.row r _ (List.getElem?_eq_getElem hrl))
  have vw : view μ (.raw (.ref B.rw_)) = .lst (B.ro.map fun r => .raw (.ref r)) := view_cell hB.rows
  simp! only [t_Board_turn]
  refine ⟨B.dx, _, _, hB.ins, lk_rows, ?_⟩
  rw [vw]
  simp! only [ar]
  rw [vr]
  simp! only [at_row he]
  refine ⟨B.dx, _, _, hB.ins, lk_rows, ?_⟩
  rw [vw]
  walk_at "r"
  refine ⟨B.dx, _, _, hB.ins, lk_rows, ?_⟩
  rw [vw]
  walk_at "r"
  obtain ⟨nd1, nd2, n1, n2, n3, n4, n5, n6, n7, n8, n9, n10⟩ := all_nd hB.nd
  have hrm : B.ro[r] ∈ B.ro := List.getElem_mem hrl
  obtain ⟨p1, p2, p3, p4, p5⟩ := nd2 _ hrm
  have mm := hs.mm
  have rl := hB.rl
  have c1 : cutD (B.ro.map fun r => D.raw (.ref r)) none (some (r : Int)) = (B.ro.take r).map fun r => D.raw (.ref r) := by rw [cut_take, List.map_take]
  have c2 : cutD (B.ro.map fun r => D.raw (.ref r)) (some ((r : Int) + 1)) none = (B.ro.drop (r + 1)).map fun r => D.raw (.ref r) := by rw [cut_drop, List.map_drop]
  rw [c1, c2]
  refine ⟨by rw [List.length_map, List.length_map, List.length_take, List.length_drop]; omega, B.dx, _, _, hB.ins, lk_gains, by decide, by rw [List.length_append, List.length_map, List.length_map, List.length_take, List.length_drop]; omega, ?_⟩
  have el : (B.ro.take r).map (fun r => D.raw (.ref r)) ++ (B.ro.drop (r + 1)).map (fun r => D.raw (.ref r)) ++ [D.raw (.ref B.ga)] = (tris B P β r e).map fun z => D.raw (.ref z.q) := by
    have := congrArg (List.map fun q : Addr => D.raw (.ref q)) (tri_q (B := B) (P := P) (β := β) (r := r) (e := e))
    rw [List.map_map] at this
    rw [show (tris B P β r e).map (fun z => D.raw (.ref z.q)) = (tris B P β r e).map ((fun q : Addr => D.raw (.ref q)) ∘ fun x : Lst3 => x.q) from rfl, this]
    simp
  rw [el]
  have nt : ∀ q, q ≠ B.ga → (∀ i, B.ro[i]? = some q → i = r) → ∀ z ∈ tris B P β r e, z.q ≠ q := fun q h1 h2 => not_tri h1 h2
  have npr := nt B.ro[r] p3 fun i hi => by
    exact nd_at nd1 hi (List.getElem?_eq_getElem hrl)
  have out : ∀ q, (∀ x ∈ B.ro, x ≠ q) → ∀ i, B.ro[i]? = some q → i = r := fun q h i hi => (h q (List.mem_of_getElem? hi) rfl).elim
  have na := nt B.a n2 (out _ fun x hx => (nd2 x hx).1)
  have nrw := nt B.rw_ n5 (out _ fun x hx => (nd2 x hx).2.1)
  have nba := nt B.ba (Ne.symm n8) (out _ fun x hx => (nd2 x hx).2.2.2.1)
  have nsc := nt B.sc (Ne.symm n9) (out _ fun x hx => (nd2 x hx).2.2.2.2)
  have ndt := tri_nd (P := P) (β := β) (r := r) (e := e) hB.nd
  have old : ∀ z ∈ tris B P β r e, μ z.q = some (.lst (z.old.map D.int)) := fun z hz => by
    rcases tri_of hz with ⟨i, hi, h1, h2, h3⟩ | rfl
    · rw [h2]
      exact hB.row i _ h1
    · exact hB.gains
  have part : ∀ z ∈ tris B P β r e, ∃ pt, Tri (Dt P β) (T P β r (P.A e)) pt (rowL P β r) z.old z.new ∧ atI (z.old.map D.int) (e : Int) = some (.int pt) := fun z hz => by
    rcases tri_of hz with ⟨i, hi, h1, h2, h3⟩ | rfl
    · have him : i < P.m := by rw [← rl]; exact (List.getElem?_eq_some_iff.mp h1).1
      refine ⟨_, h2 ▸ h3 ▸ tri_row hg hs hr he him hi, by rw [h2]; exact at_row he⟩
    · exact ⟨_, tri_gain hg hs hr he, at_gain he⟩
  generalize hT : tris B P β r e = L at *
  refine for_pre (fun pre δ μ' => (∃ x5 x6 x7, δ = [some (.raw (.ref B.a)), some (.int r), some (.int e), some (.raw (.ref B.ro[r])), some (.int (T P β r (P.A e))), x5, x6, x7]) ∧
    (∀ post, L = pre ++ post → (∀ z ∈ pre, μ' z.q = some (.lst (z.new.map D.int))) ∧ ∀ z ∈ post, μ' z.q = some (.lst (z.old.map D.int))) ∧ ∀ q, (∀ z ∈ L, z.q ≠ q) → μ' q = μ q)
    ⟨⟨_, _, _, rfl⟩, fun post h => ⟨fun z hz => (by cases hz), fun z hz => old z (by rw [h]; exact hz)⟩, fun q _ => rfl⟩ ?_ ?_
  · rintro pre z post δ μ' hz ⟨⟨x5, x6, x7, rfl⟩, hv, ho⟩
    refine ⟨trivial, ?_⟩
    obtain ⟨hv1, hv2⟩ := hv _ hz
    have hzL : z ∈ L := by rw [hz]; simp
    have hzo := hv2 z List.mem_cons_self
    obtain ⟨pt, tri, ae⟩ := part z hzL
    walk_at "s"
    rw [dSeq]
    walk_at "s"
    rw [view_cell hzo]
    simp only [DL.dSet, DL.kSet, DL.dCB, DL.kCB, DL.dCons, DL.kCons1, DL.kCons2, DL.dNil, DL.dVar, DL.dC, DL.dOp, DL.kOp1, DL.kOp2, DL.dB, DL.kB, DL.dIf, DL.kIf, DL.dRet, DL.dRetN, DL.dTup, DL.kTup, DL.dLst, DL.kLst, DL.dLstC, DL.kLstC, DL.dCall, DL.kCall, DL.dCallK, DL.kCallK1, DL.kCallK2, DL.dLenIs, DL.kLenIs, DL.dNext, DL.dDrop, DL.kDrop, DL.dPar, DL.kPar, DL.dAug, DL.kAug, DL.dAsg, DL.kAsg, DL.dSetIx, DL.kSetIx1, DL.kSetIx2, DL.kSetIx3, DL.dTru, DL.kTru, DL.dAnd, DL.kAnd, DL.dOr, DL.kOr, DL.dNot, DL.kNot, DL.dAndV, DL.kAndV, DL.dOrV, DL.kOrV, DL.dNotV, DL.kNotV, DL.dIfE, DL.kIfE, DL.dChain, DL.kChain1, DL.kChain2, DL.kChain3_true, DL.kChain3_false, DL.dNeg, DL.kNeg, DL.dFz, DL.kFz, DL.dRaise, DL.dTryAs, DL.suiteE, DL.kUnset, DL.dFor, DL.kFor, DL.dSeqI, DL.kSeqI, DL.dRange1, DL.kRange1, DL.dRange2, DL.kRange2, DL.dLc, DL.kLc, DL.dLcC, DL.kLstD, DL.kNewC, DL.dYes, DL.wipeD, DL.loopD, DL.compD, DL.kItem, DL.kTest_true, DL.kTest_false, DL.putIx_some, DL.setsK_some, DL.turnD_some, DL.turnC_some, DL.ifS_true, DL.ifS_false, DL.ifAnd_true, DL.ifAnd_false, DL.ifOr_true, DL.ifOr_false, DL.ifAndV_true, DL.ifAndV_false, DL.ifOrV_true, DL.ifOrV_false, DL.ifE_true, DL.ifE_false, DL.srcOf, DL.tgN, DL.tgT, DL.tgNil, DL.tgCons, DL.sets, List.foldl_cons, List.foldl_nil, DL.gI, DL.gI0, DL.gAdd, DL.gMul, DL.gIx, DL.gEq, DL.gNe, DL.gIs, DL.gIn, DL.gLen, DL.gAbs, DL.gMax2, DL.gMin2, DL.gAll, DL.gAny, DL.gSum, DL.gList, DL.gListC, DL.gTuple, DL.gIsiC, DL.gIsi, DL.tyN, DL.subN_NoneType_int, DL.subN_NoneType_bool, DL.subN_NoneType_str, DL.subN_NoneType_list, DL.subN_NoneType_tuple, DL.subN_bool_int, DL.subN_bool_bool, DL.subN_bool_str, DL.subN_bool_list, DL.subN_bool_tuple, DL.subN_int_int, DL.subN_int_bool, DL.subN_int_str, DL.subN_int_list, DL.subN_int_tuple, DL.subN_str_int, DL.subN_str_bool, DL.subN_str_str, DL.subN_str_list, DL.subN_str_tuple, DL.subN_list_int, DL.subN_list_bool, DL.subN_list_str, DL.subN_list_list, DL.subN_list_tuple, DL.subN_tuple_int, DL.subN_tuple_bool, DL.subN_tuple_str, DL.subN_tuple_list, DL.subN_tuple_tuple, DL.truD, DL.blsOf, DL.view_non, DL.view_bl, DL.view_int', DL.view_str', DL.view_lst', DL.view_tup', DL.view_scr', DL.ends, DL.kEnd, DL.OptP_some, DL.OptQ_some, DL.OptB_some, DL.OptS_some, List.getElem?_cons_zero, List.getElem?_cons_succ, List.set_cons_zero, List.set_cons_succ, DL.atI_zero, DL.atI_one, DL.atI_two, List.length_cons, List.length_nil, DL.pick, List.filterMap_cons, List.filterMap_nil, List.nil_append, List.cons_append, List.map_cons, List.map_nil, Option.map_some, Option.bind_some, true_and, and_true, Bool.false_eq_true, Bool.not_true, Bool.not_false, Bool.xor_false, Bool.xor_true, Bool.false_xor, Bool.true_xor, decide_true, decide_false, Nat.zero_add, Nat.reduceAdd, not_true_eq_false, not_false_eq_true, DL.eqD_int, DL.eqD_str, DL.eqD_bl, DL.eqD_tup, DL.eqD_lst, DL.eqDs_nil, DL.eqDs_cons, Bool.and_true, Bool.and_false, List.all_cons, List.all_nil, List.any_cons, List.any_nil, Bool.and_self, DL.dM, DL.kM1, DL.kM2, DL.dM0, DL.kM0, DL.gAppend, DL.gInsert, DL.gExtend, DL.gPop1, DL.gPop0, DL.gReverse, DL.gSort, DL.gRemove, DL.gCount, DL.gIndex, DL.dSlG, DL.kSl1, DL.kSl2, DL.kSl3, DL.gSl, DL.gSlC, DL.dNoPart, DL.dPart, DL.kPart, DL.dLR1, DL.kLR1, DL.dLR2, DL.kLR21, DL.kLR22, DL.nLst, DL.gRepC, DL.gCatC, DL.gInt, DL.gSorted, DL.gMaxL, DL.gMinL, DL.dEnum, DL.kEnum, DL.dZip2, DL.kZip2, DL.dZip3, DL.kZip3, DL.OptS2_some, DL.OptS3_some, DL.dRev, DL.kRev, DL.dEmp, DL.view_emp', DL.subN_dict_int, DL.subN_dict_bool, DL.subN_dict_str, DL.subN_dict_list, DL.subN_dict_tuple, DL.cellL_lst, DL.cellL_none, DL.gCountD, DL.gRepr, DL.gEqS, DL.dTryK, DL.keepD, DL.kKeep, DL.kKeepR, DL.dXf, DL.dMeth, DL.kMe1, DL.kMe2, DL.dFld, DL.kFld, DL.dSetFld, DL.kSetFld1, DL.kSetFld2, DL.dMk, DL.kMk, DL.putFD, DL.dRetN, DL.dRaise, DL.tgL, ae]
    refine inner tri (by rw [rowL_len]; have := hs.nn; omega) hzo (by rw [ho _ npr]; exact hB.row r _ (List.getElem?_eq_getElem hrl)) (npr z hzL) (by rw [ho _ na]; exact hB.ins) lk_bottom fun x7 => ?_
    have ndz : ∀ y, y ∈ pre ∨ y ∈ post → y.q ≠ z.q := fun y hy => by
      rw [hz, List.map_append, List.map_cons, List.nodup_append] at ndt
      obtain ⟨_, k2, k3⟩ := ndt
      rcases hy with h | h
      · exact k3 _ (List.mem_map_of_mem h) _ List.mem_cons_self
      · exact fun e => (List.nodup_cons.mp k2).1 (e ▸ List.mem_map_of_mem h)
    refine ⟨⟨_, _, _, rfl⟩, fun post' h => ?_, fun q hq => ?_⟩
    · have ep : post' = post := by
        rw [hz, List.append_assoc] at h
        have := List.append_cancel_left h
        exact (List.cons_inj_right z).mp this.symm
      subst ep
      refine ⟨fun y hy => ?_, fun y hy => ?_⟩
      · rcases List.mem_append.mp hy with h | h
        · rw [updM_ne (ndz y (.inl h))]
          exact hv1 y h
        · rw [List.mem_singleton.mp h, updM_same]
      · rw [updM_ne (ndz y (.inr hy))]
        exact hv2 y (List.mem_cons_of_mem _ hy)
    · rw [updM_ne (Ne.symm (hq z hzL))]
      exact ho q hq
  · rintro δ μ' ⟨⟨x5, x6, x7, rfl⟩, hv, ho⟩
    refine ⟨trivial, ?_⟩
    obtain ⟨hv1, _⟩ := hv [] (List.append_nil _).symm
    walk_at "r"
    refine ⟨B.dx, bfs B S P β, by rw [ho _ na]; exact hB.ins, show 7 < 1000 by decide, B.dx, _, _, updM_same, by rw [put_bottom]; exact lk_basis, ?_⟩
    rw [put_bottom]
    have nab : B.ba ≠ B.a := Ne.symm n3
    walk_at "r"
    refine ⟨_, by rw [updM_ne nab, ho _ nba]; exact hB.bas, ?_⟩
    rw [show ixN ((basL P β).map D.int).length (r : Int) = some r by rw [List.length_map, basL_len]; exact ixN_nat hr]
    walk_at "r"
    rw [← List.map_set, bas_upd hr]
    have oth : ∀ q, q ≠ B.a → q ≠ B.ba → (∀ z ∈ L, z.q ≠ q) → updM (updM μ' B.a (.ins C B.dx (bfs B S P (upd β r e)))) B.ba (.lst ((basL P (upd β r e)).map D.int)) q = μ q := fun q h1 h2 h3 => by
      rw [updM_ne h2, updM_ne h1]
      exact ho q h3
    have ins : ∀ z ∈ L, z.q ≠ B.a ∧ z.q ≠ B.ba := fun z hz => ⟨na z hz, nba z hz⟩
    refine .of (q _ ⟨?_, ?_, rl, ?_, ?_, updM_same, ?_, hB.sl, hB.nd⟩ fun q hq => ?_)
    · rw [updM_ne (Ne.symm nab), updM_same]
    · rw [oth _ (Ne.symm n1) n6 nrw]
      exact hB.rows
    · intro i w hi
      by_cases er : i = r
      · subst er
        have eq : w = B.ro[i] := by
          rw [List.getElem?_eq_getElem hrl] at hi
          exact (Option.some.inj hi).symm
        subst eq
        rw [oth _ p1 p4 npr, hB.row i _ hi]
        have : rowL P (upd β i e) i = rowL P β i := by
          unfold rowL
          rw [Simp.T_upd_r]
          congr 1
          exact List.map_congr_left fun k _ => Simp.T_upd_r
        rw [this]
      · have hm : (⟨w, rowL P β i, rowL P (upd β r e) i⟩ : Lst3) ∈ L := by rw [← hT]; exact tri_mem hi er
        obtain ⟨i1, i2⟩ := ins _ hm
        rw [updM_ne i2, updM_ne i1]
        exact hv1 _ hm
    · have hm : (⟨B.ga, gainL P β, gainL P (upd β r e)⟩ : Lst3) ∈ L := by rw [← hT]; exact List.mem_append_right _ (List.mem_singleton.mpr rfl)
      rw [updM_ne n8, updM_ne (Ne.symm n2)]
      exact hv1 _ hm
    · rw [oth _ (Ne.symm n4) (Ne.symm n10) nsc]
      exact hB.sc
    · have h1 : q ≠ B.a := fun e => hq (e ▸ by unfold Brd.all; simp)
      have h2 : q ≠ B.ba := fun e => hq (e ▸ by unfold Brd.all; simp)
      refine oth q h1 h2 fun z hz e => ?_
      rw [← hT] at hz
      rcases tri_of hz with ⟨i, hi, k1, _, _⟩ | rfl
      · exact hq (by unfold Brd.all; rw [← e]; exact List.mem_append_left _ (List.mem_of_getElem? k1))
      · exact hq (by unfold Brd.all; rw [← e]; simp)
end NBD
set_option Elab.async false
set_option linter.all false
set_option maxRecDepth 100000
set_option maxHeartbeats 2000000
set_option exponentiation.threshold 20000
/-! The program's Board: settled, read, made, a column more. -/
namespace NBD
open PySem PySem.Spec L2 DL Fr NB
open Simp (Prob Bas Dt T gn gk zb upd Good Std Turn Ok Run val ray)
def c_bsettle (C : Addr) : Ct := fun ds μ Q _ => ∃ (B : Brd) (S : Int) (σ : List Int) (P : Prob) (β : Bas), ds = [.raw (.ref B.a)] ∧ BrdAt C μ B S σ P β ∧ Good P β ∧ SzB P S σ ∧
  ∀ β' μ', BrdAt C μ' B S σ P β' → Good P β' → OthB μ μ' B → ((∀ k, k < P.n → 0 ≤ gk P β' k) → Q .non μ') ∧ ∀ e : Nat, e < P.n → gk P β' e < 0 → (∀ i, i < P.m → T P β' i (P.A e) ≤ 0) → Q (.int e) μ'
def shL (P : Prob) (β : Bas) (S : Int) (σ : List Int) : List Fc := (List.range (P.n - P.m)).map fun k => low (val P β (P.m + k) * σ.getD (P.m + k) 0) (Dt P β * S)
def prL (P : Prob) (β : Bas) : List Fc := (List.range P.m).map fun j => low (gk P β j) (Dt P β)
def ryL (P : Prob) (β : Bas) (σ : List Int) (e : Nat) : List Fc := (List.range (P.n - P.m)).map fun k => low (ray P β e (P.m + k) * σ.getD (P.m + k) 0) (Dt P β)
def c_bshares (C : Addr) : Ct := fun ds μ Q _ => ∃ (B : Brd) (S : Int) (σ : List Int) (P : Prob) (β : Bas), ds = [.raw (.ref B.a)] ∧ BrdAt C μ B S σ P β ∧ Good P β ∧ SzB P S σ ∧ P.m ≤ P.n ∧
  ∀ c, μ c = none → Q (.raw (.ref c)) (updM μ c (.lst ((shL P β S σ).map fr)))
def c_bprices (C : Addr) : Ct := fun ds μ Q _ => ∃ (B : Brd) (S : Int) (σ : List Int) (P : Prob) (β : Bas), ds = [.raw (.ref B.a)] ∧ BrdAt C μ B S σ P β ∧ Good P β ∧ SzB P S σ ∧ P.m ≤ P.n ∧
  ∀ c, μ c = none → Q (.raw (.ref c)) (updM μ c (.lst ((prL P β).map fr)))
def c_bendless (C : Addr) : Ct := fun ds μ Q _ => ∃ (B : Brd) (S : Int) (σ : List Int) (P : Prob) (β : Bas) (e : Nat), ds = [.raw (.ref B.a), .int e] ∧ BrdAt C μ B S σ P β ∧ Good P β ∧ SzB P S σ ∧ P.m ≤ P.n ∧ e < P.n ∧ gk P β e < 0 ∧
  ∀ c, μ c = none → Q (.raw (.ref c)) (updM μ c (.lst ((ryL P β σ e).map fr)))
def t_Board_settle (C_Board : Addr) : DTS :=
  (dSeq (dSet 1 (dMeth C_Board "wanted" (c_bwanted C_Board) (dVar 0) dNil))
    (dSeq (dWhile (dB (dOp (gIs true) (dVar 1) (dC .non))) (dSeq (dSet 2 (dMeth C_Board "leaving" (c_bleaving C_Board) (dVar 0) (dCons (dVar 1) dNil)))
    (dSeq (dIf (dB (dOp (gIs false) (dVar 2) (dC .non))) (dRet (dVar 1)) dNext)
    (dSeq (dDrop (dMeth C_Board "turn" (c_bturn C_Board) (dVar 0) (dCons (dVar 2) (dCons (dVar 1) dNil))))
    (dSet 1 (dMeth C_Board "wanted" (c_bwanted C_Board) (dVar 0) dNil))))))
    (dRet (dC .non))))
def t_Board_shares (C_Board : Addr) : DTS :=
  (dSeq (dSet 1 (dOp gRepC (dLst (dCons (dTup (dCons (dC (.int 0)) (dCons (dC (.int 1)) dNil))) dNil)) (dOp (gI0 fun i j => .int (i - j)) (dCB gLen (dCons (dFld C_Board "scales" (dVar 0)) dNil)) (dFld C_Board "rests" (dVar 0)))))
    (dSeq (dFor (dZip2 (dCons (dFld C_Board "basis" (dVar 0)) (dCons (dFld C_Board "rows" (dVar 0)) dNil))) (tgT (tgCons (tgN 2) (tgCons (tgN 3) tgNil))) (dIf (dB (dOp gGe (dVar 2) (dFld C_Board "rests" (dVar 0)))) (dSetIx (dCall c_lowest (dCons (dOp gMul (dOp gIx (dVar 3) (dNeg (dC (.int 1)))) (dOp gIx (dFld C_Board "scales" (dVar 0)) (dVar 2))) (dCons (dOp gMul (dFld C_Board "bottom" (dVar 0)) (dFld C_Board "scale" (dVar 0))) dNil))) (dVar 1) (dOp (gI0 fun i j => .int (i - j)) (dVar 2) (dFld C_Board "rests" (dVar 0)))) dNext))
    (dRet (dVar 1))))
def t_Board_prices (C_Board : Addr) : DTS :=
  (dRet (dLcC (dRange1 (dCons (dFld C_Board "rests" (dVar 0)) dNil)) (tgN 1) dYes (dCall c_lowest (dCons (dOp gIx (dFld C_Board "gains" (dVar 0)) (dVar 1)) (dCons (dFld C_Board "bottom" (dVar 0)) dNil))) [1]))
def t_Board_endless (C_Board : Addr) : DTS :=
  (dSeq (dSet 2 (dOp gRepC (dLst (dCons (dTup (dCons (dC (.int 0)) (dCons (dC (.int 1)) dNil))) dNil)) (dOp (gI0 fun i j => .int (i - j)) (dCB gLen (dCons (dFld C_Board "scales" (dVar 0)) dNil)) (dFld C_Board "rests" (dVar 0)))))
    (dSeq (dIf (dB (dOp gGe (dVar 1) (dFld C_Board "rests" (dVar 0)))) (dSetIx (dTup (dCons (dOp gIx (dFld C_Board "scales" (dVar 0)) (dVar 1)) (dCons (dC (.int 1)) dNil))) (dVar 2) (dOp (gI0 fun i j => .int (i - j)) (dVar 1) (dFld C_Board "rests" (dVar 0)))) dNext)
    (dSeq (dFor (dZip2 (dCons (dFld C_Board "basis" (dVar 0)) (dCons (dFld C_Board "rows" (dVar 0)) dNil))) (tgT (tgCons (tgN 3) (tgCons (tgN 4) tgNil))) (dIf (dB (dOp gGe (dVar 3) (dFld C_Board "rests" (dVar 0)))) (dSetIx (dCall c_lowest (dCons (dOp (gI0 fun i j => .int (i - j)) (dC (.int 0)) (dOp gMul (dOp gIx (dVar 4) (dVar 1)) (dOp gIx (dFld C_Board "scales" (dVar 0)) (dVar 3)))) (dCons (dFld C_Board "bottom" (dVar 0)) dNil))) (dVar 2) (dOp (gI0 fun i j => .int (i - j)) (dVar 3) (dFld C_Board "rests" (dVar 0)))) dNext))
    (dRet (dVar 2)))))
/-- what is wanted: the least column that gains -/
def Want (P : Prob) (β : Bas) (o : Option Nat) : Prop := match o with
  | none => ∀ k, k < P.n → 0 ≤ gk P β k
  | some e => e < P.n ∧ gk P β e < 0 ∧ ∀ k, k < e → 0 ≤ gk P β k
theorem hb_Board_settle {C : Addr} : HB (c_bsettle C) (t_Board_settle C) 3 := by
  intro ds μ Q X h
  obtain ⟨B, S, σ, P, β, rfl, hB, hg, hs, q⟩ := h
  show t_Board_settle C (ends Q XF) [some (.raw (.ref B.a)), none, none] μ
  have go : ∀ (β' : Bas) (μ' : M) (o : Option Nat) (x2 : Option D) (s : Nat → Bas) (r e : Nat → Nat) (N : Nat), Run P s r e N → s N = β' → BrdAt C μ' B S σ P β' → OthB μ μ' B → Want P β' o →
      dSeq (dWhile (dB (dOp (gIs true) (dVar 1) (dC .non))) (dSeq (dSet 2 (dMeth C "leaving" (c_bleaving C) (dVar 0) (dCons (dVar 1) dNil))) (dSeq (dIf (dB (dOp (gIs false) (dVar 2) (dC .non))) (dRet (dVar 1)) dNext)
        (dSeq (dDrop (dMeth C "turn" (c_bturn C) (dVar 0) (dCons (dVar 2) (dCons (dVar 1) dNil)))) (dSet 1 (dMeth C "wanted" (c_bwanted C) (dVar 0) dNil)))))) (dRet (dC .non)) (ends Q XF) [some (.raw (.ref B.a)), some (optN o), x2] μ' := by
    intro β0 μ0 o0 x20 s0 r0 e0 N0 run0 es0 hB0 ho0 hw0
    rw [dSeq]
    refine while_by (fun m δ μ' => ∃ (β' : Bas) (o : Option Nat) (x2 : Option D) (s : Nat → Bas) (r e : Nat → Nat) (N : Nat), Run P s r e N ∧ s N = β' ∧ m + N = P.n ^ P.m ∧ BrdAt C μ' B S σ P β' ∧ OthB μ μ' B ∧ Want P β' o ∧ δ = [some (.raw (.ref B.a)), some (optN o), x2])
      (m := P.n ^ P.m - N0) ⟨β0, o0, x20, s0, r0, e0, N0, run0, es0, by have := run0.short; omega, hB0, ho0, hw0, rfl⟩ ?_
    rintro m δ μ' ⟨β', o, x2, s, r, e, N, run, es, hm, hB', ho, hw, rfl⟩
    have hg' : Good P β' := by rw [← es]; exact run.goods (Nat.le_refl _)
    cases o with
    | none =>
      simp! only [optN]
      exact .of ((q β' μ' hB' hg' ho).1 hw)
    | some en =>
      obtain ⟨w1, w2, w3⟩ := hw
      simp! only [optN]
      refine ⟨B.dx, _, hB'.ins, lk_leaving, B, S, σ, P, β', en, rfl, hB', w1, hg', hs, fun hno => ?_, fun rn hl => ?_⟩
      · walk_at "r"
        exact .of ((q β' μ' hB' hg' ho).2 en w1 w2 hno)
      · have tn : Turn P (s N) rn en := by rw [es]; exact ⟨hl.hr, w1, w2, w3, hl.pos, hl.ratio⟩
        have run2 := run.more tn
        walk_at "r"
        refine ⟨B.dx, _, hB'.ins, lk_turn, B, S, σ, P, β', rn, en, rfl, hB', w1, hg', hs, hl.hr, hl.pos, fun μ2 hB2 ho2 => ?_⟩
        walk_at "r"
        have less : ∀ o2, Want P (upd β' rn en) o2 → Less (fun m δ μ' => ∃ (β' : Bas) (o : Option Nat) (x2 : Option D) (s : Nat → Bas) (r e : Nat → Nat) (N : Nat), Run P s r e N ∧ s N = β' ∧ m + N = P.n ^ P.m ∧ BrdAt C μ' B S σ P β' ∧ OthB μ μ' B ∧ Want P β' o ∧ δ = [some (.raw (.ref B.a)), some (optN o), x2]) m
            [some (.raw (.ref B.a)), some (optN o2), some (.int rn)] μ2 := fun o2 hw2 => by
          have sh := run2.short
          refine ⟨m - 1, by omega, upd β' rn en, o2, _, _, _, _, N + 1, run2, ?_, by omega, hB2, ho.trans ho2, hw2, rfl⟩
          show (if N + 1 ≤ N then _ else _) = _
          rw [if_neg (by omega), es]
        refine ⟨B.dx, _, hB2.ins, lk_wanted, B, S, σ, P, upd β' rn en, rfl, hB2, hs.nn, fun hall => ?_, fun e2 h1 h2 h3 => ?_⟩
        · walk_at "r"
          exact less none hall
        · walk_at "r"
          exact less (some e2) ⟨h1, h2, h3⟩
  simp! only [t_Board_settle]
  refine ⟨B.dx, _, hB.ins, lk_wanted, B, S, σ, P, β, rfl, hB, hs.nn, fun hall => ?_, fun e h1 h2 h3 => ?_⟩
  · have := go β μ none none _ _ _ _ (Run.none hg) rfl hB .refl hall
    revert this
    simp! only [optN]
    exact id
  · have := go β μ (some e) none _ _ _ _ (Run.none hg) rfl hB .refl ⟨h1, h2, h3⟩
    revert this
    simp! only [optN]
    exact id
theorem set_range {α : Type} {f g : Nat → α} {d j : Nat} {y : α} (hy : j < d → g j = y) (h : ∀ k, k < d → k ≠ j → f k = g k) : ((List.range d).map f).set j y = (List.range d).map g := by
  apply List.ext_getElem?
  intro k
  rw [List.getElem?_set, List.length_map, List.length_range]
  by_cases e : j = k
  · subst e
    rw [if_pos rfl]
    by_cases hd : j < d
    · rw [if_pos hd, List.getElem?_map, List.getElem?_range hd, Option.map_some, hy hd]
    · rw [if_neg hd, List.getElem?_eq_none (by simp; omega)]
  · rw [if_neg e]
    by_cases hd : k < d
    · rw [List.getElem?_map, List.getElem?_map, List.getElem?_range hd, Option.map_some, Option.map_some, h k hd (Ne.symm e)]
    · rw [List.getElem?_eq_none (by simp; omega), List.getElem?_eq_none (by simp; omega)]
theorem low_nought {x : Int} (h : 0 < x) : low 0 x = (0, 1) := by
  have : by_ 0 x = x := by
    unfold by_ gcdI
    rw [if_neg (by omega), Int.natAbs_zero, Nat.gcd_zero_left]
    omega
  unfold low
  rw [this, Int.zero_fdiv, Int.fdiv_self (by omega)]
theorem low_whole {x s : Int} (h : 0 < x) : low (x * s) x = (s, 1) := by
  have : by_ (x * s) x = x := by
    unfold by_ gcdI
    rw [if_neg (by omega), Int.natAbs_mul, Nat.gcd_comm, Nat.gcd_mul_right_right]
    omega
  unfold low
  rw [this, Int.mul_comm, Int.mul_fdiv_cancel _ (by omega), Int.fdiv_self (by omega)]
def valN (P : Prob) (β : Bas) (n k : Nat) : Int := Det.sm n fun i => if β i = k then T P β i P.b else 0
theorem valN_succ {P : Prob} {β : Bas} {n k : Nat} : valN P β (n + 1) k = valN P β n k + if β n = k then T P β n P.b else 0 := rfl
theorem valN_new {P : Prob} {β : Bas} {n : Nat} (h : Good P β) (hn : n < P.m) : valN P β n (β n) = 0 := Det.sm_zero fun j hj => by rw [if_neg fun e => by have := h.ok.inj (by omega) hn e; omega]
theorem zip_bas {P : Prob} {β : Bas} {ro : List Addr} {x : Int} {q : Addr} {pre post : List (Int × Addr)} (h : (basL P β).zip ro = pre ++ (x, q) :: post) (hl : ro.length = P.m) : pre.length < P.m ∧ x = β pre.length ∧ ro[pre.length]? = some q := by
  have h1 := nth_of h
  rw [List.getElem?_zip_eq_some] at h1
  obtain ⟨h2, h3⟩ := h1
  have hm : pre.length < P.m := by rw [← hl]; exact (List.getElem?_eq_some_iff.mp h3).1
  refine ⟨hm, ?_, h3⟩
  unfold basL at h2
  rw [List.getElem?_map, List.getElem?_range hm] at h2
  exact (Option.some.inj h2).symm
theorem rep_nought {d : Nat} {f : Nat → D} (h : ∀ k, k < d → f k = .tup [.int 0, .int 1]) : (List.replicate d [D.tup [.int 0, .int 1]]).flatten = (List.range d).map f := by
  have : (List.replicate d [D.tup [.int 0, .int 1]]).flatten = List.replicate d (D.tup [.int 0, .int 1]) := by simp
  rw [this]
  apply List.ext_getElem?
  intro k
  by_cases hk : k < d
  · rw [List.getElem?_replicate, if_pos hk, List.getElem?_map, List.getElem?_range hk, Option.map_some, h k hk]
  · rw [List.getElem?_eq_none (by simp; omega), List.getElem?_eq_none (by simp; omega)]
theorem hb_Board_shares {C : Addr} : HB (c_bshares C) (t_Board_shares C) 4 := by
  intro ds μ Q X h
  obtain ⟨B, S, σ, P, β, rfl, hB, hg, hs, mn, q⟩ := h
  show t_Board_shares C (ends Q XF) [some (.raw (.ref B.a)), none, none, none] μ
  have sz : 16777216 ≤ sizeLine := by decide
  have nn := hs.nn
  have sl := hB.sl
  have D0 := hg.ok.pos
  have S0 := hs.S
  have DS : 0 < Dt P β * S := Int.mul_pos D0 (by omega)
  have vs : ∀ {μ' : M}, μ' B.sc = μ B.sc → view μ' (.raw (.ref B.sc)) = .lst (σ.map D.int) := fun h => view_cell (h.trans hB.sc)
  simp! only [t_Board_shares]
  refine ⟨by decide, by decide, B.dx, _, _, hB.ins, lk_scales, ?_⟩
  rw [vs rfl]
  simp! only [List.length_map]
  refine ⟨B.dx, _, _, hB.ins, lk_rests, ?_⟩
  walk_at "r"
  have ed : ((σ.length : Int) - (P.m : Int)).toNat = P.n - P.m := by omega
  rw [ed]
  have low0 : ∀ x : Int, fr (low (0 * x) (Dt P β * S)) = .tup [.int 0, .int 1] := fun x => by rw [Int.zero_mul, low_nought DS]; rfl
  rw [rep_nought (f := fun k => fr (low (valN P β 0 (P.m + k) * σ.getD (P.m + k) 0) (Dt P β * S))) fun k _ => low0 _]
  refine ⟨by omega, fun c hc => ?_⟩
  have keep : ∀ {μ' : M} {q : Addr} {x : DL.C}, (∀ p, p ≠ c → μ' p = μ p) → μ q = some x → μ' q = some x := fun h e => by rw [h _ (ne_fresh e hc)]; exact e
  walk_at "r"
  refine ⟨B.dx, _, _, keep (fun p hp => updM_ne hp) hB.ins, lk_basis, B.dx, _, _, keep (fun p hp => updM_ne hp) hB.ins, lk_rows, ?_⟩
  show OptS2 (srcOf _ (.raw (.ref B.ba))) (srcOf _ (.raw (.ref B.rw_))) Src.zip _ _
  rw [src_cell (keep (fun p hp => updM_ne hp) hB.bas), src_cell (keep (fun p hp => updM_ne hp) hB.rows)]
  simp! only [Src.zip]
  rw [zip_map]
  refine for_pre (fun pre δ μ' => (∀ p, p ≠ c → μ' p = μ p) ∧ (∃ x2 x3, δ = [some (.raw (.ref B.a)), some (.raw (.ref c)), x2, x3]) ∧ μ' c = some (.lst ((List.range (P.n - P.m)).map fun k => fr (low (valN P β pre.length (P.m + k) * σ.getD (P.m + k) 0) (Dt P β * S)))))
    ⟨fun p hp => updM_ne hp, ⟨_, _, rfl⟩, updM_same⟩ ?_ ?_
  · rintro pre ⟨x, qr⟩ post δ μ' hz ⟨ho, ⟨x2, x3, rfl⟩, hcell⟩
    refine ⟨⟨keep ho hB.bas, keep ho hB.rows⟩, ?_⟩
    obtain ⟨hnm, rfl, hqr⟩ := zip_bas hz hB.rl
    have hlen : (pre ++ [((β pre.length : Int), qr)]).length = pre.length + 1 := by rw [List.length_append]; rfl
    generalize hn : pre.length = n at *
    have bn := hg.rg n hnm
    walk_at "r"
    refine ⟨B.dx, _, _, keep ho hB.ins, lk_rests, ?_⟩
    walk_at "r"
    refine ifS_dec (fun h => ?_) fun h => ?_
    · have sσ : β n < σ.length := by omega
      have aσ : atI (σ.map D.int) ((β n : Nat) : Int) = some (.int σ[β n]) := at_map (f := D.int) sσ
      have hσ := hs.σ _ (List.getElem_mem sσ)
      walk_at "r"
      rw [view_cell (keep ho (hB.row n _ hqr))]
      simp! only [at_rowb]
      refine ⟨B.dx, _, _, keep ho hB.ins, lk_scales, ?_⟩
      rw [view_cell (keep ho hB.sc)]
      simp! only [aσ]
      refine ⟨mulOk_pow (sz_b hs hg.rg n) hσ.2 (by decide), B.dx, _, _, keep ho hB.ins, lk_bottom, B.dx, _, _, keep ho hB.ins, lk_scale, ?_⟩
      walk_at "r"
      refine ⟨mulOk_pow (sz_dt hs hg.rg) S0.2 (by decide), _, _, rfl, by omega, ?_, ?_⟩
      · rw [Int.natAbs_mul]
        exact Nat.lt_of_lt_of_le (Nat.mul_lt_mul'' (sz_dt hs hg.rg) S0.2) (by rw [← Nat.pow_add]; exact Nat.pow_le_pow_right (by decide) (by decide))
      walk_at "r"
      refine ⟨B.dx, _, _, keep ho hB.ins, lk_rests, ?_⟩
      walk_at "r"
      refine ⟨_, hcell, ?_⟩
      rw [List.length_map, List.length_range, show ((β n : Int) - (P.m : Int)) = ((β n - P.m : Nat) : Int) by omega, ixN_nat (by omega)]
      walk_at "r"
      refine ⟨fun p hp => by rw [updM_ne hp]; exact ho p hp, ⟨_, _, rfl⟩, ?_⟩
      rw [updM_same, hlen, set_range (g := fun k => fr (low (valN P β (n + 1) (P.m + k) * σ.getD (P.m + k) 0) (Dt P β * S))) (fun hj => ?_) fun k hk hne => ?_]
      · rw [show P.m + (β n - P.m) = β n by omega, valN_succ, if_pos rfl, valN_new hg hnm, Int.zero_add, List.getD_eq_getElem?_getD, List.getElem?_eq_getElem sσ]
        rfl
      · rw [valN_succ, if_neg (by omega), Int.add_zero]
    · walk_at "r"
      refine ⟨ho, ⟨_, _, rfl⟩, ?_⟩
      rw [hcell, hlen]
      congr 2
      refine List.map_congr_left fun k _ => ?_
      rw [valN_succ, if_neg (by omega), Int.add_zero]
  · rintro δ μ' ⟨ho, ⟨x2, x3, rfl⟩, hcell⟩
    refine ⟨⟨keep ho hB.bas, keep ho hB.rows⟩, ?_⟩
    walk_at "r"
    have em : μ' = updM μ c (.lst ((shL P β S σ).map fr)) := by
      funext p
      by_cases hp : p = c
      · subst hp
        rw [updM_same, hcell]
        unfold shL
        rw [List.map_map, List.length_zip, basL_len, hB.rl, Nat.min_self]
        rfl
      · rw [updM_ne hp, ho p hp]
    rw [em]
    exact .of (q c hc)
theorem hb_Board_prices {C : Addr} : HB (c_bprices C) (t_Board_prices C) 2 := by
  intro ds μ Q X h
  obtain ⟨B, S, σ, P, β, rfl, hB, hg, hs, mn, q⟩ := h
  show t_Board_prices C (ends Q XF) [some (.raw (.ref B.a)), none] μ
  have sz : 16777216 ≤ sizeLine := by decide
  have nn := hs.nn
  have D0 := hg.ok.pos
  simp! only [t_Board_prices]
  refine ⟨B.dx, _, _, hB.ins, lk_rests, ?_⟩
  walk_at "r"
  refine ⟨by omega, ?_⟩
  rw [show ((P.m : Nat) : Int).toNat = P.m by omega, range_map0]
  refine comp_pure (enc := fun i : Nat => D.int (i : Int)) (g := fun j => fr (low (gk P β j) (Dt P β))) trivial (by rw [List.length_range]; omega) (fun j hj acc R ha hR => ?_) fun c hc => ?_
  · have hj := List.mem_range.mp hj
    walk_at "r"
    refine ⟨B.dx, _, _, hB.ins, lk_gains, ?_⟩
    rw [view_cell hB.gains]
    simp! only [at_gain (show j < P.n by omega)]
    refine ⟨B.dx, _, _, hB.ins, lk_bottom, _, _, rfl, by omega, Nat.lt_of_lt_of_le (sz_dt hs hg.rg) (Nat.pow_le_pow_right (by decide) (by decide)), ?_⟩
    walk_at "r"
    exact ⟨ha, hR⟩
  · have : (List.range P.m).map (fun j => fr (low (gk P β j) (Dt P β))) = (prL P β).map fr := by unfold prL; rw [List.map_map]; rfl
    rw [this]
    exact .of (q c hc)
def rayN (P : Prob) (β : Bas) (e n k : Nat) : Int := (if k = e then Dt P β else 0) + Det.sm n fun i => if β i = k then - T P β i (P.A e) else 0
theorem rayN_succ {P : Prob} {β : Bas} {e n k : Nat} : rayN P β e (n + 1) k = rayN P β e n k + if β n = k then - T P β n (P.A e) else 0 := by
  unfold rayN
  show _ + (_ + _) = _
  rw [Int.add_assoc]
theorem rayN_new {P : Prob} {β : Bas} {e n : Nat} (h : Good P β) (hn : n < P.m) (he : β n ≠ e) : rayN P β e n (β n) = 0 := by
  unfold rayN
  rw [if_neg he, Det.sm_zero fun j hj => by rw [if_neg fun e => by have := h.ok.inj (by omega) hn e; omega]]
  rfl
theorem hb_Board_endless {C : Addr} : HB (c_bendless C) (t_Board_endless C) 5 := by
  intro ds μ Q X h
  obtain ⟨B, S, σ, P, β, e, rfl, hB, hg, hs, mn, he, neg, q⟩ := h
  show t_Board_endless C (ends Q XF) [some (.raw (.ref B.a)), some (.int e), none, none, none] μ
  have sz : 16777216 ≤ sizeLine := by decide
  have nn := hs.nn
  have sl := hB.sl
  have D0 := hg.ok.pos
  have nb : ∀ n, n < P.m → β n ≠ e := fun n hn h => by
    have := Simp.gk_basic hg.ok hn
    rw [h] at this
    omega
  have vs : ∀ {μ' : M}, μ' B.sc = μ B.sc → view μ' (.raw (.ref B.sc)) = .lst (σ.map D.int) := fun h => view_cell (h.trans hB.sc)
  have body : ∀ c, μ c = none → dSeq (dFor (dZip2 (dCons (dFld C "basis" (dVar 0)) (dCons (dFld C "rows" (dVar 0)) dNil))) (tgT (tgCons (tgN 3) (tgCons (tgN 4) tgNil))) (dIf (dB (dOp gGe (dVar 3) (dFld C "rests" (dVar 0)))) (dSetIx (dCall c_lowest (dCons (dOp (gI0 fun i j => .int (i - j)) (dC (.int 0)) (dOp gMul (dOp gIx (dVar 4) (dVar 1)) (dOp gIx (dFld C "scales" (dVar 0)) (dVar 3)))) (dCons (dFld C "bottom" (dVar 0)) dNil))) (dVar 2) (dOp (gI0 fun i j => .int (i - j)) (dVar 3) (dFld C "rests" (dVar 0)))) dNext))
      (dRet (dVar 2)) (ends Q XF) [some (.raw (.ref B.a)), some (.int e), some (.raw (.ref c)), none, none] (updM μ c (.lst ((List.range (P.n - P.m)).map fun k => fr (low (rayN P β e 0 (P.m + k) * σ.getD (P.m + k) 0) (Dt P β))))) := by
    intro c hc
    have keep : ∀ {μ' : M} {q : Addr} {x : DL.C}, (∀ p, p ≠ c → μ' p = μ p) → μ q = some x → μ' q = some x := fun h e => by rw [h _ (ne_fresh e hc)]; exact e
    walk_at "r"
    refine ⟨B.dx, _, _, keep (fun p hp => updM_ne hp) hB.ins, lk_basis, B.dx, _, _, keep (fun p hp => updM_ne hp) hB.ins, lk_rows, ?_⟩
    show OptS2 (srcOf _ (.raw (.ref B.ba))) (srcOf _ (.raw (.ref B.rw_))) Src.zip _ _
    rw [src_cell (keep (fun p hp => updM_ne hp) hB.bas), src_cell (keep (fun p hp => updM_ne hp) hB.rows)]
    simp! only [Src.zip]
    rw [zip_map]
    refine for_pre (fun pre δ μ' => (∀ p, p ≠ c → μ' p = μ p) ∧ (∃ x2 x3, δ = [some (.raw (.ref B.a)), some (.int e), some (.raw (.ref c)), x2, x3]) ∧ μ' c = some (.lst ((List.range (P.n - P.m)).map fun k => fr (low (rayN P β e pre.length (P.m + k) * σ.getD (P.m + k) 0) (Dt P β)))))
      ⟨fun p hp => updM_ne hp, ⟨_, _, rfl⟩, updM_same⟩ ?_ ?_
    · rintro pre ⟨x, qr⟩ post δ μ' hz ⟨ho, ⟨x2, x3, rfl⟩, hcell⟩
      refine ⟨⟨keep ho hB.bas, keep ho hB.rows⟩, ?_⟩
      obtain ⟨hnm, rfl, hqr⟩ := zip_bas hz hB.rl
      have hlen : (pre ++ [((β pre.length : Int), qr)]).length = pre.length + 1 := by rw [List.length_append]; rfl
      generalize hn : pre.length = n at *
      have bn := hg.rg n hnm
      walk_at "r"
      refine ⟨B.dx, _, _, keep ho hB.ins, lk_rests, ?_⟩
      walk_at "r"
      refine ifS_dec (fun h => ?_) fun h => ?_
      · have sσ : β n < σ.length := by omega
        have aσ : atI (σ.map D.int) ((β n : Nat) : Int) = some (.int σ[β n]) := at_map (f := D.int) sσ
        have hσ := hs.σ _ (List.getElem_mem sσ)
        walk_at "r"
        rw [view_cell (keep ho (hB.row n _ hqr))]
        simp! only [at_row he]
        refine ⟨B.dx, _, _, keep ho hB.ins, lk_scales, ?_⟩
        rw [view_cell (keep ho hB.sc)]
        simp! only [aσ]
        refine ⟨mulOk_pow (sz_t hs hg.rg n he) hσ.2 (by decide), B.dx, _, _, keep ho hB.ins, lk_bottom, _, _, rfl, by omega, Nat.lt_of_lt_of_le (sz_dt hs hg.rg) (Nat.pow_le_pow_right (by decide) (by decide)), ?_⟩
        walk_at "r"
        refine ⟨B.dx, _, _, keep ho hB.ins, lk_rests, ?_⟩
        walk_at "r"
        refine ⟨_, hcell, ?_⟩
        rw [List.length_map, List.length_range, show ((β n : Int) - (P.m : Int)) = ((β n - P.m : Nat) : Int) by omega, ixN_nat (by omega)]
        walk_at "r"
        refine ⟨fun p hp => by rw [updM_ne hp]; exact ho p hp, ⟨_, _, rfl⟩, ?_⟩
        rw [updM_same, hlen, set_range (g := fun k => fr (low (rayN P β e (n + 1) (P.m + k) * σ.getD (P.m + k) 0) (Dt P β))) (fun hj => ?_) fun k hk hne => ?_]
        · rw [show P.m + (β n - P.m) = β n by omega, rayN_succ, if_pos rfl, rayN_new hg hnm (nb n hnm), Int.zero_add, List.getD_eq_getElem?_getD, List.getElem?_eq_getElem sσ, Int.neg_mul, ← Int.zero_sub]
          rfl
        · rw [rayN_succ, if_neg (by omega), Int.add_zero]
      · walk_at "r"
        refine ⟨ho, ⟨_, _, rfl⟩, ?_⟩
        rw [hcell, hlen]
        congr 2
        refine List.map_congr_left fun k _ => ?_
        rw [rayN_succ, if_neg (by omega), Int.add_zero]
    · rintro δ μ' ⟨ho, ⟨x2, x3, rfl⟩, hcell⟩
      refine ⟨⟨keep ho hB.bas, keep ho hB.rows⟩, ?_⟩
      walk_at "r"
      have em : μ' = updM μ c (.lst ((ryL P β σ e).map fr)) := by
        funext p
        by_cases hp : p = c
        · subst hp
          rw [updM_same, hcell]
          unfold ryL
          rw [List.map_map, List.length_zip, basL_len, hB.rl, Nat.min_self]
          rfl
        · rw [updM_ne hp, ho p hp]
      rw [em]
      exact .of (q c hc)
  simp! only [t_Board_endless]
  refine ⟨by decide, by decide, B.dx, _, _, hB.ins, lk_scales, ?_⟩
  rw [vs rfl]
  simp! only [List.length_map]
  refine ⟨B.dx, _, _, hB.ins, lk_rests, ?_⟩
  walk_at "r"
  have ed : ((σ.length : Int) - (P.m : Int)).toNat = P.n - P.m := by omega
  rw [ed]
  refine ⟨by omega, fun c hc => ?_⟩
  have keep : ∀ {μ' : M} {q : Addr} {x : DL.C}, (∀ p, p ≠ c → μ' p = μ p) → μ q = some x → μ' q = some x := fun h e => by rw [h _ (ne_fresh e hc)]; exact e
  walk_at "s"
  refine ⟨B.dx, _, _, keep (fun p hp => updM_ne hp) hB.ins, lk_rests, ?_⟩
  walk_at "s"
  have bd := body c hc
  have r0 : ∀ k, P.m + k ≠ e → fr (low (rayN P β e 0 (P.m + k) * σ.getD (P.m + k) 0) (Dt P β)) = .tup [.int 0, .int 1] := fun k hk => by
    have : rayN P β e 0 (P.m + k) = 0 := by unfold rayN; rw [if_neg hk]; rfl
    rw [this, Int.zero_mul, low_nought D0]
    rfl
  refine ifS_dec (fun h => ?_) fun h => ?_
  · have se : e < σ.length := by omega
    have ae : atI (σ.map D.int) (e : Int) = some (.int σ[e]) := at_map (f := D.int) se
    walk_at "s"
    refine ⟨B.dx, _, _, keep (fun p hp => updM_ne hp) hB.ins, lk_scales, ?_⟩
    rw [view_cell (keep (fun p hp => updM_ne hp) hB.sc)]
    simp only [DL.dSet, DL.kSet, DL.dCB, DL.kCB, DL.dCons, DL.kCons1, DL.kCons2, DL.dNil, DL.dVar, DL.dC, DL.dOp, DL.kOp1, DL.kOp2, DL.dB, DL.kB, DL.dIf, DL.kIf, DL.dRet, DL.dRetN, DL.dTup, DL.kTup, DL.dLst, DL.kLst, DL.dLstC, DL.kLstC, DL.dCall, DL.kCall, DL.dCallK, DL.kCallK1, DL.kCallK2, DL.dLenIs, DL.kLenIs, DL.dNext, DL.dDrop, DL.kDrop, DL.dPar, DL.kPar, DL.dAug, DL.kAug, DL.dAsg, DL.kAsg, DL.dSetIx, DL.kSetIx1, DL.kSetIx2, DL.kSetIx3, DL.dTru, DL.kTru, DL.dAnd, DL.kAnd, DL.dOr, DL.kOr, DL.dNot, DL.kNot, DL.dAndV, DL.kAndV, DL.dOrV, DL.kOrV, DL.dNotV, DL.kNotV, DL.dIfE, DL.kIfE, DL.dChain, DL.kChain1, DL.kChain2, DL.kChain3_true, DL.kChain3_false, DL.dNeg, DL.kNeg, DL.dFz, DL.kFz, DL.dRaise, DL.dTryAs, DL.suiteE, DL.kUnset, DL.dFor, DL.kFor, DL.dSeqI, DL.kSeqI, DL.dRange1, DL.kRange1, DL.dRange2, DL.kRange2, DL.dLc, DL.kLc, DL.dLcC, DL.kLstD, DL.kNewC, DL.dYes, DL.wipeD, DL.loopD, DL.compD, DL.kItem, DL.kTest_true, DL.kTest_false, DL.putIx_some, DL.setsK_some, DL.turnD_some, DL.turnC_some, DL.ifS_true, DL.ifS_false, DL.ifAnd_true, DL.ifAnd_false, DL.ifOr_true, DL.ifOr_false, DL.ifAndV_true, DL.ifAndV_false, DL.ifOrV_true, DL.ifOrV_false, DL.ifE_true, DL.ifE_false, DL.srcOf, DL.tgN, DL.tgT, DL.tgNil, DL.tgCons, DL.sets, List.foldl_cons, List.foldl_nil, DL.gI, DL.gI0, DL.gAdd, DL.gMul, DL.gIx, DL.gEq, DL.gNe, DL.gIs, DL.gIn, DL.gLen, DL.gAbs, DL.gMax2, DL.gMin2, DL.gAll, DL.gAny, DL.gSum, DL.gList, DL.gListC, DL.gTuple, DL.gIsiC, DL.gIsi, DL.tyN, DL.subN_NoneType_int, DL.subN_NoneType_bool, DL.subN_NoneType_str, DL.subN_NoneType_list, DL.subN_NoneType_tuple, DL.subN_bool_int, DL.subN_bool_bool, DL.subN_bool_str, DL.subN_bool_list, DL.subN_bool_tuple, DL.subN_int_int, DL.subN_int_bool, DL.subN_int_str, DL.subN_int_list, DL.subN_int_tuple, DL.subN_str_int, DL.subN_str_bool, DL.subN_str_str, DL.subN_str_list, DL.subN_str_tuple, DL.subN_list_int, DL.subN_list_bool, DL.subN_list_str, DL.subN_list_list, DL.subN_list_tuple, DL.subN_tuple_int, DL.subN_tuple_bool, DL.subN_tuple_str, DL.subN_tuple_list, DL.subN_tuple_tuple, DL.truD, DL.blsOf, DL.view_non, DL.view_bl, DL.view_int', DL.view_str', DL.view_lst', DL.view_tup', DL.view_scr', DL.ends, DL.kEnd, DL.OptP_some, DL.OptQ_some, DL.OptB_some, DL.OptS_some, List.getElem?_cons_zero, List.getElem?_cons_succ, List.set_cons_zero, List.set_cons_succ, DL.atI_zero, DL.atI_one, DL.atI_two, List.length_cons, List.length_nil, DL.pick, List.filterMap_cons, List.filterMap_nil, List.nil_append, List.cons_append, List.map_cons, List.map_nil, Option.map_some, Option.bind_some, true_and, and_true, Bool.false_eq_true, Bool.not_true, Bool.not_false, Bool.xor_false, Bool.xor_true, Bool.false_xor, Bool.true_xor, decide_true, decide_false, Nat.zero_add, Nat.reduceAdd, not_true_eq_false, not_false_eq_true, DL.eqD_int, DL.eqD_str, DL.eqD_bl, DL.eqD_tup, DL.eqD_lst, DL.eqDs_nil, DL.eqDs_cons, Bool.and_true, Bool.and_false, List.all_cons, List.all_nil, List.any_cons, List.any_nil, Bool.and_self, DL.dM, DL.kM1, DL.kM2, DL.dM0, DL.kM0, DL.gAppend, DL.gInsert, DL.gExtend, DL.gPop1, DL.gPop0, DL.gReverse, DL.gSort, DL.gRemove, DL.gCount, DL.gIndex, DL.dSlG, DL.kSl1, DL.kSl2, DL.kSl3, DL.gSl, DL.gSlC, DL.dNoPart, DL.dPart, DL.kPart, DL.dLR1, DL.kLR1, DL.dLR2, DL.kLR21, DL.kLR22, DL.nLst, DL.gRepC, DL.gCatC, DL.gInt, DL.gSorted, DL.gMaxL, DL.gMinL, DL.dEnum, DL.kEnum, DL.dZip2, DL.kZip2, DL.dZip3, DL.kZip3, DL.OptS2_some, DL.OptS3_some, DL.dRev, DL.kRev, DL.dEmp, DL.view_emp', DL.subN_dict_int, DL.subN_dict_bool, DL.subN_dict_str, DL.subN_dict_list, DL.subN_dict_tuple, DL.cellL_lst, DL.cellL_none, DL.gCountD, DL.gRepr, DL.gEqS, DL.dTryK, DL.keepD, DL.kKeep, DL.kKeepR, DL.dXf, DL.dMeth, DL.kMe1, DL.kMe2, DL.dFld, DL.kFld, DL.dSetFld, DL.kSetFld1, DL.kSetFld2, DL.dMk, DL.kMk, DL.putFD, DL.dRetN, DL.dRaise, DL.tgL, ae]
    refine ⟨by decide, B.dx, _, _, keep (fun p hp => updM_ne hp) hB.ins, lk_rests, ?_⟩
    walk_at "s"
    refine ⟨_, updM_same, ?_⟩
    rw [rep_nought (f := fun _ => .tup [.int 0, .int 1]) fun k _ => rfl]
    rw [List.length_map, List.length_range, show ((e : Int) - (P.m : Int)) = ((e - P.m : Nat) : Int) by omega, ixN_nat (by omega)]
    walk_at "s"
    rw [updM_upd, set_range (g := fun k => fr (low (rayN P β e 0 (P.m + k) * σ.getD (P.m + k) 0) (Dt P β))) (fun hj => ?_) fun k hk hne => (r0 k (by omega)).symm]
    · exact bd
    · have : rayN P β e 0 e = Dt P β := by unfold rayN; rw [if_pos rfl]; exact Int.add_zero _
      rw [show P.m + (e - P.m) = e by omega, this, List.getD_eq_getElem?_getD, List.getElem?_eq_getElem se, Option.getD_some, low_whole D0]
      rfl
  · walk_at "s"
    rw [rep_nought (f := fun k => fr (low (rayN P β e 0 (P.m + k) * σ.getD (P.m + k) 0) (Dt P β))) fun k hk => r0 k (by omega)]
    exact bd
end NBD
set_option Elab.async false
set_option linter.all false
set_option maxRecDepth 100000
set_option maxHeartbeats 2000000
set_option exponentiation.threshold 20000
/-! The program's Board: made, a column more; the most of a sheet. -/
namespace NBD
open PySem PySem.Spec L2 DL Fr NB
open Simp (Prob Bas Dt T gn gk zb upd Good Std Turn Ok Run val ray)
def newP (P : Prob) (g : Fc) (col : List Fc) : Prob := addP P (vecL (col.map (wh (cmN (col ++ [g]))))) (wh (cmN (col ++ [g])) g)
def newS (σ : List Int) (g : Fc) (col : List Fc) : List Int := σ ++ [(cmN (col ++ [g]) : Int)]
structure ColOk (P : Prob) (g : Fc) (col : List Fc) : Prop where
  l : col.length = P.m
  p : ∀ f ∈ col ++ [g], 1 ≤ f.2
  s : ∀ f ∈ col ++ [g], f.1.natAbs < 2 ^ 3000
def c_badd (C : Addr) : Ct := fun ds μ Q _ => ∃ (B : Brd) (S : Int) (σ : List Int) (P : Prob) (β : Bas) (g : Fc) (col : List Fc), ds = [.raw (.ref B.a), fr g, .lst (col.map fr)] ∧ BrdAt C μ B S σ P β ∧ Good P β ∧ Std P ∧ ColOk P g col ∧ SzB (newP P g col) S (newS σ g col) ∧
  ∀ μ', BrdAt C μ' B S (newS σ g col) (newP P g col) β → OthB μ μ' B → Q (.int P.n) μ'
def t_Board_add (C_Board : Addr) : DTS :=
  (dSeq (dSet 3 (dCall c_common (dCons (dOp gAdd (dVar 2) (dLst (dCons (dVar 1) dNil))) dNil)))
    (dSeq (dSet 4 (dLc (dSeqI (dVar 2)) (tgN 8) dYes (dOp (gI CDivD fun i j => .int (i.fdiv j)) (dOp gMul (dOp gIx (dVar 8) (dC (.int 0))) (dVar 3)) (dOp gIx (dVar 8) (dC (.int 1)))) [8]))
    (dSeq (dFor (dSeqI (dFld C_Board "rows" (dVar 0))) (tgN 5) (dDrop (dM gInsert (dVar 5) (dCons (dOp (gI0 fun i j => .int (i - j)) (dCB gLen (dCons (dVar 5) dNil)) (dC (.int 1))) (dCons (dCB gSum (dCons (dLc (dEnum (dCons (dVar 4) dNil)) (tgT (tgCons (tgN 9) (tgCons (tgN 10) tgNil))) (dB (dOp gNe (dVar 10) (dC (.int 0)))) (dOp gMul (dOp gIx (dVar 5) (dVar 9)) (dVar 10)) [9, 10]) dNil)) dNil)))))
    (dSeq (dSet 6 (dOp (gI CDivD fun i j => .int (i.fdiv j)) (dOp gMul (dOp gIx (dVar 1) (dC (.int 0))) (dVar 3)) (dOp gIx (dVar 1) (dC (.int 1)))))
    (dSeq (dSet 7 (dCB gSum (dCons (dLc (dEnum (dCons (dVar 4) dNil)) (tgT (tgCons (tgN 9) (tgCons (tgN 10) tgNil))) (dB (dOp gNe (dVar 10) (dC (.int 0)))) (dOp gMul (dOp gIx (dFld C_Board "gains" (dVar 0)) (dVar 9)) (dVar 10)) [9, 10]) dNil)))
    (dSeq (dDrop (dM gInsert (dFld C_Board "gains" (dVar 0)) (dCons (dOp (gI0 fun i j => .int (i - j)) (dCB gLen (dCons (dFld C_Board "gains" (dVar 0)) dNil)) (dC (.int 1))) (dCons (dOp (gI0 fun i j => .int (i - j)) (dVar 7) (dOp gMul (dVar 6) (dFld C_Board "bottom" (dVar 0)))) dNil))))
    (dSeq (dDrop (dM gAppend (dFld C_Board "scales" (dVar 0)) (dCons (dVar 3) dNil)))
    (dRet (dOp (gI0 fun i j => .int (i - j)) (dCB gLen (dCons (dFld C_Board "scales" (dVar 0)) dNil)) (dC (.int 1)))))))))))
theorem cm_lt {P : Prob} {S : Int} {σ : List Int} {g : Fc} {col : List Fc} (h : SzB P S (newS σ g col)) : cmN (col ++ [g]) < 2 ^ 500 := by
  have := (h.σ (cmN (col ++ [g])) (List.mem_append_right _ (List.mem_singleton.mpr rfl))).2
  rwa [Int.natAbs_natCast] at this
theorem sm_head {f : Nat → Int} : ∀ {n : Nat}, Det.sm (n + 1) f = f 0 + Det.sm n fun j => f (j + 1)
  | 0 => by show 0 + f 0 = f 0 + 0; omega
  | n + 1 => by
    show Det.sm (n + 1) f + f (n + 1) = f 0 + (Det.sm n (fun j => f (j + 1)) + f (n + 1))
    rw [sm_head]
    omega
theorem sum_sm {f : Nat → Int} : ∀ {ws : List Int} {s : Nat}, (((ws.zipIdx s).filter fun z => decide (z.1 ≠ 0)).map fun z => f z.2 * z.1).sum = Det.sm ws.length fun j => ws.getD j 0 * f (s + j)
  | [], _ => rfl
  | w :: ws, s => by
    rw [List.length_cons, sm_head, List.zipIdx_cons, List.filter_cons]
    have ih := sum_sm (f := f) (ws := ws) (s := s + 1)
    have e : (fun j => (w :: ws).getD (j + 1) 0 * f (s + (j + 1))) = fun j => ws.getD j 0 * f (s + 1 + j) := by
      funext j
      rw [List.getD_cons_succ, show s + (j + 1) = s + 1 + j by omega]
    rw [e, ← ih]
    split
    · next h =>
      rw [List.map_cons, List.sum_cons]
      show f s * w + _ = w * f s + _
      rw [Int.mul_comm]
    · next h =>
      have hw : w = 0 := by simpa using h
      subst hw
      show _ = (0 : Int) * _ + _
      rw [Int.zero_mul, Int.zero_add]
theorem comp_filtB {α : Type} {xs : List α} {p : α → Bool} {ok : M → Prop} {enc g : α → D} {f : TGD} {tt : DTT} {te : DTE} {Q : List D → M → Prop} {δ : Sl} {μ : M} (ho : ok μ) (hl : xs.length < sizeLine)
    (st : ∀ x ∈ xs, ∀ (acc : List D) (R : List D → M → Prop), acc.length < sizeLine → (p x = true → R (acc ++ [g x]) μ) → (p x = false → R acc μ) → turnC (f μ (enc x)) tt te acc R δ μ) (q : Q ((xs.filter p).map g) μ) : compJ ok f tt te Q δ (xs.map enc) μ := by
  refine ⟨fun i acc μ' => μ' = μ ∧ acc = ((xs.take i).filter p).map g, ⟨rfl, by simp⟩, ?_⟩
  rintro i acc μ' ⟨rfl, rfl⟩
  refine ⟨ho, fun d hd => ?_, fun hi => ?_⟩
  · rw [List.getElem?_map] at hd
    obtain ⟨x, hx, rfl⟩ := Option.map_eq_some_iff.mp hd
    have ht : xs.take (i + 1) = xs.take i ++ [x] := by rw [List.take_add_one, hx]; rfl
    refine st x (List.mem_of_getElem? hx) _ _ ?_ (fun h => ⟨rfl, ?_⟩) (fun h => ⟨rfl, ?_⟩)
    · have h1 := List.length_filter_le p (xs.take i)
      have h2 := List.length_take_le i xs
      rw [List.length_map]
      have := (List.getElem?_eq_some_iff.mp hx).1
      rw [List.length_take] at *
      omega
    · rw [ht, List.filter_append, List.map_append, List.filter_cons, if_pos h]
      rfl
    · rw [ht, List.filter_append, List.map_append, List.filter_cons, if_neg (by rw [h]; decide)]
      simp
  · rw [List.length_map] at hi
    rw [hi, List.take_length]
    exact q
section
variable {P : Prob} {β : Bas} {v : Det.Vec} {g : Int}
theorem ins_mid {α : Type} {xs : List α} {n : Nat} {v b : α} (h : xs.length = n) : (xs ++ [b]).take n ++ [v] ++ (xs ++ [b]).drop n = xs ++ [v] ++ [b] := by
  subst h
  simp
theorem rowL_add (h : ∀ i, i < P.m → β i < P.n) {i : Nat} : rowL (addP P v g) β i = (rowL P β i).take P.n ++ [T P β i v] ++ (rowL P β i).drop P.n := by
  unfold rowL
  rw [ins_mid (by simp), addP_n, List.range_succ, List.map_append, addP_b, t_add h]
  have e : (List.range P.n).map (fun k => T (addP P v g) β i ((addP P v g).A k)) = (List.range P.n).map fun k => T P β i (P.A k) := List.map_congr_left fun k hk => by
    rw [t_add h, addP_A (List.mem_range.mp hk)]
  rw [e, List.map_cons, List.map_nil, t_add h, addP_An]
theorem gainL_add (h : ∀ i, i < P.m → β i < P.n) : gainL (addP P v g) β = (gainL P β).take P.n ++ [gn P β v g] ++ (gainL P β).drop P.n := by
  unfold gainL
  rw [ins_mid (by simp), addP_n, List.range_succ, List.map_append, zb_add h]
  have e : (List.range P.n).map (gk (addP P v g) β) = (List.range P.n).map (gk P β) := List.map_congr_left fun k hk => gk_add h (List.mem_range.mp hk)
  rw [e, List.map_cons, List.map_nil, gk_new h]
end
theorem hb_Board_add {C : Addr} : HB (c_badd C) (t_Board_add C) 11 := by
  intro ds μ Q X h
  obtain ⟨B, S, σ, P, β, g, col, rfl, hB, hg, hstd, hc, hs, q⟩ := h
  show t_Board_add C (ends Q XF) [some (.raw (.ref B.a)), some (fr g), some (.lst (col.map fr)), none, none, none, none, none, none, none, none] μ
  have sz : 16777216 ≤ sizeLine := by decide
  have cl := cm_lt hs
  have nn : P.n + 1 < 1000000 := hs.nn
  have mm : P.m < 1000000 := hs.mm
  have e1 : col.map fr ++ [fr g] = (col ++ [g]).map fr := by rw [List.map_append]; rfl
  have hcm : (∀ f ∈ col ++ [g], f.2 ∣ (cmN (col ++ [g]) : Int)) := fun f hf => cm_dvd hf
  have hle : cmN (col ++ [g]) < 2 ^ 4000 := Nat.lt_of_lt_of_le cl (Nat.pow_le_pow_right (by decide) (by decide))
  have cp : 0 < cmN (col ++ [g]) := cm_pos hc.p
  have f2 : ∀ f ∈ col ++ [g], f.2.natAbs < 2 ^ 500 := fun f hf => Nat.lt_of_le_of_lt (Nat.le_of_dvd cp (Int.natAbs_dvd_natAbs.mpr (hcm f hf))) cl
  have gm : g ∈ col ++ [g] := List.mem_append_right _ (List.mem_singleton.mpr rfl)
  have len := hc.l
  have sM : ∃ M : Nat, Simp.Small (newP P g col) M ∧ M < 2 ^ 3000 := by
    obtain ⟨M, hM, _, _, h⟩ := hs.sm
    exact ⟨M, hM, h⟩
  have szw : ∀ x ∈ col.map (wh (cmN (col ++ [g]))), x.natAbs < 2 ^ 3000 := fun x hx => by
    obtain ⟨M, hM, h⟩ := sM
    obtain ⟨j, hj, rfl⟩ := List.mem_iff_getElem.mp hx
    have := hM.A P.n j (show P.n < P.n + 1 by omega) (show j < P.m by rw [List.length_map] at hj; omega)
    rw [show (newP P g col).A P.n = vecL (col.map (wh (cmN (col ++ [g])))) from addP_An] at this
    unfold vecL at this
    rw [List.getD_eq_getElem?_getD, List.getElem?_eq_getElem hj, Option.getD_some] at this
    omega
  have szo : (wh (cmN (col ++ [g])) g).natAbs < 2 ^ 3000 := by
    obtain ⟨M, hM, h⟩ := sM
    have := hM.c P.n (show P.n < P.n + 1 by omega)
    rw [show (newP P g col).c P.n = wh (cmN (col ++ [g])) g from addP_cn] at this
    omega
  have rg := hg.rg
  have mn := hstd.mn
  have t_eq : ∀ {i : Nat} {x : Det.Vec}, T (newP P g col) β i x = T P β i x := t_add rg
  have szt : ∀ i k, k < P.n → (T P β i (P.A k)).natAbs < 2 ^ 3000 := fun i k hk => by
    have := sz_t hs (good_add hg).rg i (show k < (newP P g col).n from show k < P.n + 1 by omega)
    rwa [t_eq, show (newP P g col).A k = P.A k from addP_A hk] at this
  have szd : (Dt P β).natAbs < 2 ^ 3000 := by
    have := sz_dt hs (good_add hg).rg
    rwa [show Dt (newP P g col) β = Dt P β from dt_add rg] at this
  have szg : ∀ k, k < P.n → (gk P β k).natAbs < 2 ^ 3000 := fun k hk => by
    have := sz_gk hs (good_add hg).rg (show k < (newP P g col).n from show k < P.n + 1 by omega)
    rwa [show gk (newP P g col) β k = gk P β k from gk_add rg hk] at this
  simp! only [t_Board_add, fr, List.length_map]
  refine ⟨by decide, by omega, col ++ [g], by rw [List.map_append]; rfl, hc.p, hle, ?_⟩
  walk_at "r"
  generalize hSd : cmN (col ++ [g]) = Sd at *
  refine comp_pure (enc := fr) (g := fun f => .int (wh Sd f)) trivial (by omega) (fun f hf acc R ha hR => ?_) ?_
  · have hm : f ∈ col ++ [g] := List.mem_append_left _ hf
    simp! only [fr]
    refine ⟨mulOk_pow (hc.s f hm) (show (Sd : Int).natAbs < 2 ^ 4000 by rw [Int.natAbs_natCast]; exact hle) (by decide), divOk_pow (b := 500) (by have := hc.p f hm; omega) (f2 f hm) (by decide), ha, ?_⟩
    exact hR
  rw [show col.map (fun f => D.int (wh Sd f)) = (col.map (wh Sd)).map D.int by rw [List.map_map]; rfl]
  generalize hws : col.map (wh Sd) = ws at *
  have wl : ws.length = P.m := by rw [← hws, List.length_map, len]
  walk_at "r"
  refine ⟨B.dx, _, _, hB.ins, lk_rows, ?_⟩
  show OptS (srcOf μ (.raw (.ref B.rw_))) _ _
  rw [src_cell hB.rows]
  obtain ⟨nd1, nd2, n1, n2, n3, n4, n5, n6, n7, n8, n9, n10⟩ := all_nd hB.nd
  have sumT : ∀ i, i < P.m → (((ws.zipIdx).filter fun z => decide (z.1 ≠ 0)).map fun z => T P β i (P.A z.2) * z.1).sum = T P β i (vecL ws) := fun i hi => by
    rw [sum_sm (f := fun k => T P β i (P.A k)), Simp.T_units hi, wl]
    refine Det.sm_congr fun j hj => ?_
    rw [Nat.zero_add, hstd.u j hj]
  have sumG : (((ws.zipIdx).filter fun z => decide (z.1 ≠ 0)).map fun z => gk P β z.2 * z.1).sum = Det.sm P.m fun j => ws.getD j 0 * gk P β j := by
    rw [sum_sm (f := fun k => gk P β k), wl]
    refine Det.sm_congr fun j hj => ?_
    rw [Nat.zero_add]
  have zl : ws.zipIdx.length < sizeLine := by rw [List.length_zipIdx, wl]; exact Nat.lt_of_lt_of_le mm (by decide)
  have zmem : ∀ z ∈ ws.zipIdx, z.1.natAbs < 2 ^ 3000 ∧ z.2 < P.n := fun z hz => by
    have h1 := List.mem_zipIdx_iff_getElem?.mp hz
    obtain ⟨h2, h3⟩ := List.getElem?_eq_some_iff.mp h1
    exact ⟨szw _ (List.mem_of_getElem? h1), by omega⟩
  walk_at "r"
  refine for_pre (enc := fun r : Addr => D.raw (.ref r)) (fun pre δ μ' => (∃ x5, δ = [some (.raw (.ref B.a)), some (.tup [.int g.1, .int g.2]), some (.lst (col.map fr)), some (.int Sd), some (.lst (ws.map D.int)), x5, none, none, none, none, none]) ∧
      (∀ (i : Nat) (r : Addr), B.ro[i]? = some r → μ' r = some (.lst ((if i < pre.length then rowL (newP P g col) β i else rowL P β i).map D.int))) ∧ ∀ q, q ∉ B.ro → μ' q = μ q)
    ⟨⟨_, rfl⟩, fun i r hi => by rw [if_neg (by simp)]; exact hB.row i r hi, fun q _ => rfl⟩ ?_ ?_
  · rintro pre r post δ μ' hz ⟨⟨x5, rfl⟩, hr, ho⟩
    have hnr := nth_of hz
    have hnm : pre.length < P.m := by rw [← hB.rl]; exact (List.getElem?_eq_some_iff.mp hnr).1
    have hcell := hr _ _ hnr
    rw [if_neg (Nat.lt_irrefl _)] at hcell
    have hlen : (pre ++ [r]).length = pre.length + 1 := by rw [List.length_append]; rfl
    refine ⟨by rw [ho _ fun h => (nd2 _ h).2.1 rfl]; exact hB.rows, ?_⟩
    generalize hn : pre.length = n at *
    have vr : view μ' (.raw (.ref r)) = .lst ((rowL P β n).map D.int) := view_cell hcell
    walk_at "r"
    rw [vr]
    walk_at "r"
    rw [enum_map]
    refine ⟨isL_cell hcell, ?_⟩
    refine comp_filtB (p := fun z : Int × Nat => decide (z.1 ≠ 0)) (g := fun z : Int × Nat => .int (T P β n (P.A z.2) * z.1)) trivial zl (fun z hz acc R ha h1 h2 => ?_) ?_
    · obtain ⟨z1, z2⟩ := zmem z hz
      by_cases h : z.1 = 0
      · simp! only [show decide (z.1 = 0) = true from decide_eq_true h]
        exact ⟨okN_int, okN_int, h2 (by rw [h]; rfl)⟩
      · simp! only [show decide (z.1 = 0) = false from decide_eq_false h]
        refine ⟨okN_int, okN_int, ?_⟩
        rw [vr]
        simp! only [at_row z2]
        exact ⟨mok3 (szt n _ z2) z1, ha, h1 (decide_eq_true h)⟩
    · rw [show ((ws.zipIdx).filter fun z => decide (z.1 ≠ 0)).map (fun z => D.int (T P β n (P.A z.2) * z.1)) = (((ws.zipIdx).filter fun z => decide (z.1 ≠ 0)).map fun z => T P β n (P.A z.2) * z.1).map D.int by rw [List.map_map]; rfl]
      simp! only [intsOf_map, sumT n hnm, List.length_map, rowL_len]
      refine ⟨_, hcell, by rw [List.length_map, rowL_len]; omega, by omega, by omega, ⟨_, rfl⟩, fun i w hi => ?_, fun w hw => ?_⟩
      · rw [show ((P.n + 1 : Nat) - 1 : Int).toNat = P.n by omega, hlen]
        by_cases ei : i = n
        · subst ei
          have : w = r := by rw [hnr] at hi; exact (Option.some.inj hi).symm
          subst this
          rw [updM_same, if_pos (by omega), newP, hSd, hws, rowL_add rg, List.map_append, List.map_append, List.map_take, List.map_drop]
          rfl
        · rw [updM_ne (fun e : w = r => ei (nd_at nd1 hi (by rw [e]; exact hnr))), hr i w hi]
          by_cases h : i < n
          · rw [if_pos h, if_pos (by omega)]
          · rw [if_neg h, if_neg (by omega)]
      · rw [updM_ne (fun e : w = r => hw (by rw [e]; exact List.mem_of_getElem? hnr))]
        exact ho w hw
  · rintro δ μ' ⟨⟨x5, rfl⟩, hr, ho⟩
    refine ⟨by rw [ho _ fun h => (nd2 _ h).2.1 rfl]; exact hB.rows, ?_⟩
    have keep : ∀ {q : Addr} {x : DL.C}, q ∉ B.ro → μ q = some x → μ' q = some x := fun h e => by rw [ho _ h]; exact e
    have oa : B.a ∉ B.ro := fun h => (nd2 _ h).1 rfl
    have orw : B.rw_ ∉ B.ro := fun h => (nd2 _ h).2.1 rfl
    have oga : B.ga ∉ B.ro := fun h => (nd2 _ h).2.2.1 rfl
    have oba : B.ba ∉ B.ro := fun h => (nd2 _ h).2.2.2.1 rfl
    have osc : B.sc ∉ B.ro := fun h => (nd2 _ h).2.2.2.2 rfl
    have hins := keep oa hB.ins
    have hga := keep oga hB.gains
    simp! only [fr]
    refine ⟨mulOk_pow (hc.s g gm) (show (Sd : Int).natAbs < 2 ^ 4000 by rw [Int.natAbs_natCast]; exact hle) (by decide), divOk_pow (b := 500) (by have := hc.p g gm; omega) (f2 g gm) (by decide), ?_⟩
    rw [enum_map]
    refine comp_filtB (p := fun z : Int × Nat => decide (z.1 ≠ 0)) (g := fun z : Int × Nat => .int (gk P β z.2 * z.1)) trivial zl (fun z hz acc R ha h1 h2 => ?_) ?_
    · obtain ⟨z1, z2⟩ := zmem z hz
      by_cases h : z.1 = 0
      · simp! only [show decide (z.1 = 0) = true from decide_eq_true h]
        exact ⟨okN_int, okN_int, h2 (by rw [h]; rfl)⟩
      · simp! only [show decide (z.1 = 0) = false from decide_eq_false h]
        refine ⟨okN_int, okN_int, B.dx, _, _, hins, lk_gains, ?_⟩
        rw [view_cell hga]
        simp! only [at_gain z2]
        exact ⟨mok3 (szg _ z2) z1, ha, h1 (decide_eq_true h)⟩
    · rw [show ((ws.zipIdx).filter fun z => decide (z.1 ≠ 0)).map (fun z => D.int (gk P β z.2 * z.1)) = (((ws.zipIdx).filter fun z => decide (z.1 ≠ 0)).map fun z => gk P β z.2 * z.1).map D.int by rw [List.map_map]; rfl]
      simp! only [intsOf_map, sumG]
      refine ⟨B.dx, _, _, hins, lk_gains, isL_cell hga, B.dx, _, _, hins, lk_gains, ?_⟩
      rw [view_cell hga]
      simp! only [List.length_map, gainL_len]
      refine ⟨B.dx, _, _, hins, lk_bottom, mok3 szo szd, _, hga, by rw [List.length_map, gainL_len]; omega, by omega, by omega, ?_⟩
      have hgn : gn P β (vecL ws) (wh Sd g) = (Det.sm P.m fun j => ws.getD j 0 * gk P β j) - (g.1 * Sd).fdiv g.2 * Dt P β := by
        unfold gn
        rw [hstd.sum_y (x := vecL ws), Int.mul_comm (Dt P β)]
        rfl
      have eg : (((gainL P β).map D.int).take ((P.n + 1 : Nat) - 1 : Int).toNat ++ [D.int ((Det.sm P.m fun j => ws.getD j 0 * gk P β j) - (g.1 * Sd).fdiv g.2 * Dt P β)] ++ ((gainL P β).map D.int).drop ((P.n + 1 : Nat) - 1 : Int).toNat) = (gainL (newP P g col) β).map D.int := by
        rw [show ((P.n + 1 : Nat) - 1 : Int).toNat = P.n by omega, newP, hSd, hws, gainL_add rg, List.map_append, List.map_append, List.map_take, List.map_drop, hgn]
        rfl
      rw [eg]
      have sl := hB.sl
      have msc : updM μ' B.ga (.lst ((gainL (newP P g col) β).map D.int)) B.sc = some (.lst (σ.map D.int)) := by rw [updM_ne (Ne.symm n9)]; exact keep osc hB.sc
      refine ⟨B.dx, _, _, by rw [updM_ne n2]; exact hins, lk_scales, isL_cell msc, _, msc, by rw [List.length_map]; omega, ?_⟩
      have mns : σ.map D.int ++ [D.int Sd] = (newS σ g col).map D.int := by rw [newS, List.map_append, hSd]; rfl
      rw [mns]
      have ms2 : view (updM (updM μ' B.ga (.lst ((gainL (newP P g col) β).map D.int))) B.sc (.lst ((newS σ g col).map D.int))) (.raw (.ref B.sc)) = .lst ((newS σ g col).map D.int) := view_cell updM_same
      have nl : (newS σ g col).length = P.n + 1 := by rw [newS, List.length_append, sl]; rfl
      refine ⟨B.dx, _, _, by rw [updM_ne n4, updM_ne n2]; exact hins, lk_scales, ?_⟩
      rw [ms2]
      simp! only [List.length_map, nl]
      have other : ∀ w, w ≠ B.ga → w ≠ B.sc → updM (updM μ' B.ga (.lst ((gainL (newP P g col) β).map D.int))) B.sc (.lst ((newS σ g col).map D.int)) w = μ' w := fun w h1 h2 => by rw [updM_ne h2, updM_ne h1]
      rw [show ((P.n + 1 : Nat) : Int) - 1 = (P.n : Int) by omega]
      refine .of (q _ ⟨?_, ?_, hB.rl, fun i w hi => ?_, ?_, ?_, updM_same, nl, hB.nd⟩ fun w hw => ?_)
      · rw [other _ n2 n4, hins, bfs, bfs, show Dt (newP P g col) β = Dt P β from dt_add rg]
        rfl
      · rw [other _ n5 n7]
        exact keep orw hB.rows
      · obtain ⟨k1, k2, k3, k4, k5⟩ := nd2 w (List.mem_of_getElem? hi)
        rw [other _ k3 k5, hr i w hi, if_pos]
        exact (List.getElem?_eq_some_iff.mp hi).1
      · rw [updM_ne n9, updM_same]
      · rw [other _ (Ne.symm n8) n10]
        exact keep oba hB.bas
      · have h1 : w ≠ B.ga := fun e => hw (e ▸ by unfold Brd.all; simp)
        have h2 : w ≠ B.sc := fun e => hw (e ▸ by unfold Brd.all; simp)
        have h3 : w ∉ B.ro := fun h => hw (by unfold Brd.all; exact List.mem_append_left _ h)
        rw [other _ h1 h2]
        exact ho w h3
--PART2
def rgtL (rs : List Fc) : List Int := rs.map (wh (cmN rs))
structure RgtOk (rs : List Fc) : Prop where
  l : rs.length < 1000
  p : ∀ f ∈ rs, 1 ≤ f.2
  s : ∀ f ∈ rs, f.1.natAbs < 2 ^ 3000
  c : cmN rs < 2 ^ 500
  n : ∀ f ∈ rs, 0 ≤ f.1
def c_binit (C : Addr) : Ct := fun ds μ Q _ => ∃ (a : Addr) (rs : List Fc), ds = [.raw (.ref a), .lst (rs.map fr)] ∧ RgtOk rs ∧ ∃ dx, μ a = some (.ins C dx []) ∧
  ∀ B μ', B.a = a → B.dx = dx → BrdAt C μ' B (cmN rs) (List.replicate rs.length 1) (P0 (rgtL rs)) id → (∀ q ∈ B.all, q ≠ a → μ q = none) → OthB μ μ' B → Q .non μ'
theorem wh_nn {S : Int} {f : Fc} (hS : 0 ≤ S) (h1 : 0 ≤ f.1) (h2 : 1 ≤ f.2) : 0 ≤ wh S f := Int.fdiv_nonneg (Int.mul_nonneg h1 hS) (by omega)
theorem rgt_std {rs : List Fc} (h : RgtOk rs) : Std (P0 (rgtL rs)) := std_0 fun x hx => by
  obtain ⟨f, hf, rfl⟩ := List.mem_map.mp hx
  exact wh_nn (by omega) (h.n f hf) (h.p f hf)
theorem row_0 {rs : List Fc} (h : RgtOk rs) {i : Nat} {f : Fc} (hf : rs[i]? = some f) : rowL (P0 (rgtL rs)) id i = (List.range rs.length).map (fun k => if i = k then 1 else 0) ++ [wh (cmN rs) f] := by
  have st := rgt_std h
  have hi : i < rs.length := (List.getElem?_eq_some_iff.mp hf).1
  have hi2 : i < (P0 (rgtL rs)).m := by show i < (rgtL rs).length; unfold rgtL; rw [List.length_map]; exact hi
  unfold rowL
  rw [st.t0 hi2]
  congr 1
  · show (List.range (rgtL rs).length).map _ = _
    unfold rgtL
    rw [List.length_map]
    refine List.map_congr_left fun k hk => ?_
    show T (P0 (rgtL rs)) id i _ = _
    rw [st.t0 hi2]
    show Det.unit k i = _
    unfold Det.unit
    by_cases e : k = i
    · rw [if_pos e, if_pos e.symm]
    · rw [if_neg e, if_neg (Ne.symm e)]
  · show [(rgtL rs).getD i 0] = _
    unfold rgtL
    rw [List.getD_eq_getElem?_getD, List.getElem?_map, hf]
    rfl
theorem put_skip {k k' : Str} {d x : D} {l : List (Str × D)} (h : ¬ k' = k) : putFD k d ((k', x) :: l) = (k', x) :: putFD k d l := if_neg h
section
variable {x1 x2 x3 x4 x5 x6 x7 : D}
theorem pf_scale : putFD (PySem.Str.ofString "scale") x1 ([] : List (Str × D)) = [(PySem.Str.ofString "scale", x1)] := rfl
theorem pf_rests : putFD (PySem.Str.ofString "rests") x2 ([(PySem.Str.ofString "scale", x1)] : List (Str × D)) = [(PySem.Str.ofString "scale", x1), (PySem.Str.ofString "rests", x2)] := ((put_skip (by decide +kernel)).trans (congrArg (List.cons _) rfl))
theorem pf_bottom : putFD (PySem.Str.ofString "bottom") x3 ([(PySem.Str.ofString "scale", x1), (PySem.Str.ofString "rests", x2)] : List (Str × D)) = [(PySem.Str.ofString "scale", x1), (PySem.Str.ofString "rests", x2), (PySem.Str.ofString "bottom", x3)] := ((put_skip (by decide +kernel)).trans (congrArg (List.cons _) ((put_skip (by decide +kernel)).trans (congrArg (List.cons _) rfl))))
theorem pf_rows : putFD (PySem.Str.ofString "rows") x4 ([(PySem.Str.ofString "scale", x1), (PySem.Str.ofString "rests", x2), (PySem.Str.ofString "bottom", x3)] : List (Str × D)) = [(PySem.Str.ofString "scale", x1), (PySem.Str.ofString "rests", x2), (PySem.Str.ofString "bottom", x3), (PySem.Str.ofString "rows", x4)] := ((put_skip (by decide +kernel)).trans (congrArg (List.cons _) ((put_skip (by decide +kernel)).trans (congrArg (List.cons _) ((put_skip (by decide +kernel)).trans (congrArg (List.cons _) rfl))))))
theorem pf_gains : putFD (PySem.Str.ofString "gains") x5 ([(PySem.Str.ofString "scale", x1), (PySem.Str.ofString "rests", x2), (PySem.Str.ofString "bottom", x3), (PySem.Str.ofString "rows", x4)] : List (Str × D)) = [(PySem.Str.ofString "scale", x1), (PySem.Str.ofString "rests", x2), (PySem.Str.ofString "bottom", x3), (PySem.Str.ofString "rows", x4), (PySem.Str.ofString "gains", x5)] := ((put_skip (by decide +kernel)).trans (congrArg (List.cons _) ((put_skip (by decide +kernel)).trans (congrArg (List.cons _) ((put_skip (by decide +kernel)).trans (congrArg (List.cons _) ((put_skip (by decide +kernel)).trans (congrArg (List.cons _) rfl))))))))
theorem pf_basis : putFD (PySem.Str.ofString "basis") x6 ([(PySem.Str.ofString "scale", x1), (PySem.Str.ofString "rests", x2), (PySem.Str.ofString "bottom", x3), (PySem.Str.ofString "rows", x4), (PySem.Str.ofString "gains", x5)] : List (Str × D)) = [(PySem.Str.ofString "scale", x1), (PySem.Str.ofString "rests", x2), (PySem.Str.ofString "bottom", x3), (PySem.Str.ofString "rows", x4), (PySem.Str.ofString "gains", x5), (PySem.Str.ofString "basis", x6)] := ((put_skip (by decide +kernel)).trans (congrArg (List.cons _) ((put_skip (by decide +kernel)).trans (congrArg (List.cons _) ((put_skip (by decide +kernel)).trans (congrArg (List.cons _) ((put_skip (by decide +kernel)).trans (congrArg (List.cons _) ((put_skip (by decide +kernel)).trans (congrArg (List.cons _) rfl))))))))))
theorem pf_scales : putFD (PySem.Str.ofString "scales") x7 ([(PySem.Str.ofString "scale", x1), (PySem.Str.ofString "rests", x2), (PySem.Str.ofString "bottom", x3), (PySem.Str.ofString "rows", x4), (PySem.Str.ofString "gains", x5), (PySem.Str.ofString "basis", x6)] : List (Str × D)) = [(PySem.Str.ofString "scale", x1), (PySem.Str.ofString "rests", x2), (PySem.Str.ofString "bottom", x3), (PySem.Str.ofString "rows", x4), (PySem.Str.ofString "gains", x5), (PySem.Str.ofString "basis", x6), (PySem.Str.ofString "scales", x7)] := ((put_skip (by decide +kernel)).trans (congrArg (List.cons _) ((put_skip (by decide +kernel)).trans (congrArg (List.cons _) ((put_skip (by decide +kernel)).trans (congrArg (List.cons _) ((put_skip (by decide +kernel)).trans (congrArg (List.cons _) ((put_skip (by decide +kernel)).trans (congrArg (List.cons _) ((put_skip (by decide +kernel)).trans (congrArg (List.cons _) rfl))))))))))))
end
def t_Board___init__ (C_Board : Addr) : DTS :=
  (dSeq (dSetFld C_Board "scale" (dCall c_common (dCons (dVar 1) dNil)) (dVar 0))
    (dSeq (dSetFld C_Board "rests" (dCB gLen (dCons (dVar 1) dNil)) (dVar 0))
    (dSeq (dSetFld C_Board "bottom" (dC (.int 1)) (dVar 0))
    (dSeq (dSetFld C_Board "rows" (dLstC dNil) (dVar 0))
    (dSeq (dFor (dEnum (dCons (dVar 1) dNil)) (tgT (tgCons (tgN 2) (tgCons (tgN 3) tgNil))) (dDrop (dM gAppend (dFld C_Board "rows" (dVar 0)) (dCons (dOp gCatC (dLc (dRange1 (dCons (dFld C_Board "rests" (dVar 0)) dNil)) (tgN 4) dYes (dCB gInt (dCons (dOp gEq (dVar 2) (dVar 4)) dNil)) [4]) (dLst (dCons (dOp (gI CDivD fun i j => .int (i.fdiv j)) (dOp gMul (dOp gIx (dVar 3) (dC (.int 0))) (dFld C_Board "scale" (dVar 0))) (dOp gIx (dVar 3) (dC (.int 1)))) dNil))) dNil))))
    (dSeq (dSetFld C_Board "gains" (dOp gRepC (dLst (dCons (dC (.int 0)) dNil)) (dOp gAdd (dFld C_Board "rests" (dVar 0)) (dC (.int 1)))) (dVar 0))
    (dSeq (dSetFld C_Board "basis" (dLR1 NewC (dFld C_Board "rests" (dVar 0))) (dVar 0))
    (dSetFld C_Board "scales" (dOp gRepC (dLst (dCons (dC (.int 1)) dNil)) (dFld C_Board "rests" (dVar 0))) (dVar 0)))))))))
theorem hb_Board___init__ {C : Addr} : HB (c_binit C) (t_Board___init__ C) 5 := by
  intro ds μ Q X h
  obtain ⟨a, rs, rfl, hr, dx, ha, q⟩ := h
  show t_Board___init__ C (ends Q XF) [some (.raw (.ref a)), some (.lst (rs.map fr)), none, none, none] μ
  have sz : 16777216 ≤ sizeLine := by decide
  have hl := hr.l
  have cl : cmN rs < 2 ^ 4000 := Nat.lt_of_lt_of_le hr.c (Nat.pow_le_pow_right (by decide) (by decide))
  simp! only [t_Board___init__]
  refine ⟨rs, rfl, hr.p, cl, ?_⟩
  generalize hS : (cmN rs : Int) = S at *
  walk_at "r"
  refine ⟨dx, [], ha, (by decide), dx, _, updM_same, ?_⟩
  rw [pf_scale]
  refine ⟨show 1 < 1000 by decide, dx, _, updM_same, ?_⟩
  rw [pf_rests, List.length_map]
  refine ⟨show 2 < 1000 by decide, Nat.zero_le _, fun rw_ hrw => ?_⟩
  rw [pf_bottom, updM_upd, updM_upd] at hrw ⊢
  generalize hf3 : [(PySem.Str.ofString "scale", D.int S), (PySem.Str.ofString "rests", D.int (rs.length : Int)), (PySem.Str.ofString "bottom", D.int 1)] = f3 at hrw ⊢
  have ra : rw_ ≠ a := fun e => by rw [e, updM_same] at hrw; cases hrw
  have hr0 : μ rw_ = none := by rw [updM_ne ra] at hrw; exact hrw
  walk_at "r"
  refine ⟨dx, f3, by rw [updM_ne (Ne.symm ra), updM_same], by rw [← hf3]; exact show 3 < 1000 by decide, ?_⟩
  subst hf3
  rw [pf_rows, enum_map]
  generalize hf4 : [(PySem.Str.ofString "scale", D.int S), (PySem.Str.ofString "rests", D.int (rs.length : Int)), (PySem.Str.ofString "bottom", D.int 1), (PySem.Str.ofString "rows", D.raw (.ref rw_))] = f4
  have l1 : f4.lookup (PySem.Str.ofString "scale") = some (.int S) := by rw [← hf4]; exact lk_hit
  have l2 : f4.lookup (PySem.Str.ofString "rests") = some (.int rs.length) := by rw [← hf4]; exact ((lk_skip (by decide +kernel)).trans lk_hit)
  have l4 : f4.lookup (PySem.Str.ofString "rows") = some (.raw (.ref rw_)) := by rw [← hf4]; exact ((lk_skip (by decide +kernel)).trans ((lk_skip (by decide +kernel)).trans ((lk_skip (by decide +kernel)).trans lk_hit)))
  refine for_pre (fun pre δ μ' => ∃ (ro : List Addr) (x2 x3 : Option D), δ = [some (.raw (.ref a)), some (.lst (rs.map fr)), x2, x3, none] ∧ ro.length = pre.length ∧ ro.Nodup ∧ (∀ q ∈ ro, q ≠ a ∧ q ≠ rw_ ∧ μ q = none) ∧
      (∀ (i : Nat) (r : Addr), ro[i]? = some r → μ' r = some (.lst ((rowL (P0 (rgtL rs)) id i).map D.int))) ∧ μ' a = some (.ins C dx f4) ∧ μ' rw_ = some (.lst (ro.map fun r => .raw (.ref r))) ∧ ∀ q, q ∉ ro → q ≠ a → q ≠ rw_ → μ' q = μ q)
    ⟨[], _, _, rfl, rfl, List.nodup_nil, fun q h => (by cases h), fun i r h => (by cases h), updM_same, by rw [updM_ne ra, updM_same]; rfl, fun q _ h1 h2 => by rw [updM_ne h1, updM_ne h2, updM_ne h1]⟩ ?_ ?_
  · rintro pre ⟨f, k⟩ post δ μ' hz ⟨ro, x2, x3, rfl, hrl, hnd, hro, hrow, hin, hrw', ho⟩
    refine ⟨trivial, ?_⟩
    have hk := nth_of hz
    rw [List.getElem?_zipIdx] at hk
    obtain ⟨f', e1, e2⟩ := Option.map_eq_some_iff.mp hk
    injection e2 with e2 e3
    subst e2
    have e3 : k = pre.length := by omega
    subst e3
    have hlen : (pre ++ [(f', pre.length)]).length = pre.length + 1 := by rw [List.length_append]; rfl
    generalize hn : pre.length = n at *
    have hnl : n < rs.length := (List.getElem?_eq_some_iff.mp e1).1
    have hm : f' ∈ rs := List.mem_of_getElem? e1
    walk_at "r"
    refine ⟨dx, _, _, hin, l4, isL_cell hrw', dx, _, _, hin, l2, ?_⟩
    walk_at "r"
    refine ⟨by omega, ?_⟩
    rw [show ((rs.length : Nat) : Int).toNat = rs.length by omega, range_map0]
    refine comp_pure (enc := fun i : Nat => D.int (i : Int)) (g := fun k : Nat => .int (if n = k then 1 else 0)) trivial (by rw [List.length_range]; omega) (fun k hk acc R ha hR => ?_) ?_
    · walk_at "r"
      refine ⟨okN_int, okN_int, ?_⟩
      have e : (if decide ((n : Int) = (k : Int)) = true then (1 : Int) else 0) = if n = k then 1 else 0 := by
        by_cases h : n = k
        · rw [if_pos h, decide_eq_true (by omega), if_pos rfl]
        · rw [if_neg h, decide_eq_false (by omega), if_neg (by decide)]
      rw [e]
      exact ⟨ha, hR⟩
    have er : (List.range rs.length).map (fun k : Nat => D.int (if n = k then 1 else 0)) ++ [D.int ((f'.1 * S).fdiv f'.2)] = (rowL (P0 (rgtL rs)) id n).map D.int := by
      rw [row_0 hr e1, List.map_append, List.map_map, hS]
      rfl
    simp! only [fr]
    refine ⟨dx, _, _, hin, l1, mulOk_pow (hr.s f' hm) (show S.natAbs < 2 ^ 4000 by rw [← hS, Int.natAbs_natCast]; exact cl) (by decide), divOk_pow (b := 500) (by have := hr.p f' hm; omega) ?_ (by decide), by decide, by rw [List.length_map, List.length_range]; omega, fun r hr0' => ?_⟩
    · exact Nat.lt_of_le_of_lt (Nat.le_of_dvd (cm_pos hr.p) (Int.natAbs_dvd_natAbs.mpr (cm_dvd hm))) hr.c
    rw [er]
    have hra : r ≠ a := fun e => by rw [e, hin] at hr0'; cases hr0'
    have hrr : r ≠ rw_ := fun e => by rw [e, hrw'] at hr0'; cases hr0'
    have hrn : r ∉ ro := fun h => by
      obtain ⟨i, hi⟩ := List.mem_iff_getElem?.mp h
      have := hrow i r hi
      rw [this] at hr0'
      cases hr0'
    walk_at "r"
    refine ⟨_, by rw [updM_ne (Ne.symm hrr)]; exact hrw', by rw [List.length_map]; omega, ro ++ [r], _, _, rfl, by rw [List.length_append, hrl, hlen]; rfl, ?_, ?_, ?_, ?_, ?_, ?_⟩
    · rw [List.nodup_append]
      exact ⟨hnd, by simp, fun x hx y hy e => hrn (by rw [List.mem_singleton.mp hy] at e; exact e ▸ hx)⟩
    · intro q hq
      rcases List.mem_append.mp hq with h | h
      · exact hro q h
      · rw [List.mem_singleton.mp h]
        exact ⟨hra, hrr, by rw [← ho r hrn hra hrr]; exact hr0'⟩
    · intro i w hi
      by_cases ei : i < ro.length
      · rw [List.getElem?_append_left ei] at hi
        have hw : w ∈ ro := List.mem_of_getElem? hi
        rw [updM_ne (hro w hw).2.1, updM_ne (fun e : w = r => hrn (by rw [← e]; exact hw))]
        exact hrow i w hi
      · have : i = ro.length := by
          have := (List.getElem?_eq_some_iff.mp hi).1
          rw [List.length_append] at this
          simp only [List.length_cons, List.length_nil] at this
          omega
        subst this
        rw [List.getElem?_append_right (Nat.le_refl _), Nat.sub_self] at hi
        cases hi
        rw [updM_ne hrr, updM_same, hrl]
    · rw [updM_ne (Ne.symm ra), updM_ne (Ne.symm hra)]
      exact hin
    · rw [updM_same, List.map_append]
      rfl
    · intro q hq h1 h2
      rw [List.mem_append, not_or] at hq
      rw [updM_ne h2, updM_ne (fun e : q = r => hq.2 (List.mem_singleton.mpr e))]
      exact ho q hq.1 h1 h2
  · rintro δ μ' ⟨ro, x2, x3, rfl, hrl, hnd, hro, hrow, hin, hrw', ho⟩
    refine ⟨trivial, ?_⟩
    rw [List.length_zipIdx] at hrl
    walk_at "r"
    refine ⟨by decide, dx, _, _, hin, l2, ?_⟩
    walk_at "r"
    refine ⟨by omega, fun ga hga => ?_⟩
    have gaa : ga ≠ a := fun e => by rw [e, hin] at hga; cases hga
    have gar : ga ≠ rw_ := fun e => by rw [e, hrw'] at hga; cases hga
    have gan : ga ∉ ro := fun h => by
      obtain ⟨i, hi⟩ := List.mem_iff_getElem?.mp h
      rw [hrow i ga hi] at hga
      cases hga
    walk_at "r"
    refine ⟨dx, f4, by rw [updM_ne (Ne.symm gaa)]; exact hin, by rw [← hf4]; exact show 4 < 1000 by decide, ?_⟩
    subst hf4
    rw [pf_gains]
    refine ⟨dx, _, _, updM_same, ((lk_skip (by decide +kernel)).trans lk_hit), ?_⟩
    walk_at "r"
    refine ⟨by omega, fun ba hba => ?_⟩
    have baa : ba ≠ a := fun e => by rw [e, updM_same] at hba; cases hba
    rw [updM_ne baa] at hba
    have bag : ba ≠ ga := fun e => by rw [e, updM_same] at hba; cases hba
    rw [updM_ne bag] at hba
    have bar : ba ≠ rw_ := fun e => by rw [e, hrw'] at hba; cases hba
    have ban : ba ∉ ro := fun h => by
      obtain ⟨i, hi⟩ := List.mem_iff_getElem?.mp h
      rw [hrow i ba hi] at hba
      cases hba
    walk_at "r"
    refine ⟨dx, [(PySem.Str.ofString "scale", D.int S), (PySem.Str.ofString "rests", D.int (rs.length : Int)), (PySem.Str.ofString "bottom", D.int 1), (PySem.Str.ofString "rows", D.raw (.ref rw_)), (PySem.Str.ofString "gains", D.raw (.ref ga))], by rw [updM_ne (Ne.symm baa)]; exact updM_same, show 5 < 1000 by decide, ?_⟩
    rw [pf_basis]
    refine ⟨by decide, dx, _, _, updM_same, ((lk_skip (by decide +kernel)).trans lk_hit), ?_⟩
    walk_at "r"
    refine ⟨by omega, fun sc hsc => ?_⟩
    have sca : sc ≠ a := fun e => by rw [e, updM_same] at hsc; cases hsc
    rw [updM_ne sca] at hsc
    have scb : sc ≠ ba := fun e => by rw [e, updM_same] at hsc; cases hsc
    rw [updM_ne scb, updM_ne sca] at hsc
    have scg : sc ≠ ga := fun e => by rw [e, updM_same] at hsc; cases hsc
    rw [updM_ne scg] at hsc
    have scr : sc ≠ rw_ := fun e => by rw [e, hrw'] at hsc; cases hsc
    have scn : sc ∉ ro := fun h => by
      obtain ⟨i, hi⟩ := List.mem_iff_getElem?.mp h
      rw [hrow i sc hi] at hsc
      cases hsc
    walk_at "r"
    refine ⟨dx, [(PySem.Str.ofString "scale", D.int S), (PySem.Str.ofString "rests", D.int (rs.length : Int)), (PySem.Str.ofString "bottom", D.int 1), (PySem.Str.ofString "rows", D.raw (.ref rw_)), (PySem.Str.ofString "gains", D.raw (.ref ga)), (PySem.Str.ofString "basis", D.raw (.ref ba))], by rw [updM_ne (Ne.symm sca)]; exact updM_same, show 6 < 1000 by decide, ?_⟩
    rw [pf_scales]
    have st := rgt_std hr
    have rl : (rgtL rs).length = rs.length := by unfold rgtL; rw [List.length_map]
    have Pm : (P0 (rgtL rs)).m = rs.length := rl
    have Pn : (P0 (rgtL rs)).n = rs.length := rl
    have eg : (List.replicate ((rs.length : Int) + 1).toNat [D.int 0]).flatten = (gainL (P0 (rgtL rs)) id).map D.int := by
      have gz : ∀ k, k < rs.length → gk (P0 (rgtL rs)) id k = 0 := fun k hk => by
        show Det.sm _ (fun i => (0 : Int) * _) - _ * (0 : Int) = 0
        rw [Det.sm_zero fun i _ => Int.zero_mul _]
        omega
      have zz : zb (P0 (rgtL rs)) id = 0 := by
        show Det.sm _ (fun i => (0 : Int) * _) - _ * (0 : Int) = 0
        rw [Det.sm_zero fun i _ => Int.zero_mul _]
        omega
      unfold gainL
      rw [zz, Pn, show ((rs.length : Int) + 1).toNat = rs.length + 1 by omega]
      have : (List.range rs.length).map (gk (P0 (rgtL rs)) id) = List.replicate rs.length 0 := by
        rw [List.eq_replicate_iff]
        exact ⟨by simp, fun b hb => by obtain ⟨k, hk, rfl⟩ := List.mem_map.mp hb; exact gz k (List.mem_range.mp hk)⟩
      rw [this, List.replicate_succ']
      simp
    have eb : rangeD 0 (rs.length : Int).toNat = (basL (P0 (rgtL rs)) id).map D.int := by
      rw [show ((rs.length : Nat) : Int).toNat = rs.length by omega, range_map0]
      unfold basL
      rw [Pm, List.map_map]
      rfl
    have es : (List.replicate (rs.length : Int).toNat [D.int 1]).flatten = (List.replicate rs.length (1 : Int)).map D.int := by
      rw [show ((rs.length : Nat) : Int).toNat = rs.length by omega]
      simp
    rw [eg, eb, es]
    refine .of (q ⟨a, dx, rw_, ga, ba, sc, ro⟩ _ rfl rfl ⟨?_, ?_, by rw [hrl, Pm], fun i w hi => ?_, ?_, ?_, ?_, by rw [List.length_replicate, Pn], ?_⟩ (fun w hw hwa => ?_) fun w hw => ?_)
    · rw [updM_same]
      unfold bfs
      rw [st.dt0, Pm]
    · rw [updM_ne ra, updM_ne (Ne.symm scr), updM_ne ra, updM_ne (Ne.symm bar), updM_ne ra, updM_ne (Ne.symm gar)]
      exact hrw'
    · have hw : w ∈ ro := List.mem_of_getElem? hi
      have h1 := (hro w hw).1
      rw [updM_ne h1, updM_ne (fun e : w = sc => scn (by rw [← e]; exact hw)), updM_ne h1, updM_ne (fun e : w = ba => ban (by rw [← e]; exact hw)), updM_ne h1, updM_ne (fun e : w = ga => gan (by rw [← e]; exact hw))]
      exact hrow i w hi
    · show updM _ _ _ ga = _
      rw [updM_ne gaa, updM_ne (Ne.symm scg), updM_ne gaa, updM_ne (Ne.symm bag), updM_ne gaa, updM_same]
    · show updM _ _ _ ba = _
      rw [updM_ne baa, updM_ne (Ne.symm scb), updM_ne baa, updM_same]
    · show updM _ _ _ sc = _
      rw [updM_ne sca, updM_same]
    · show (ro ++ [a, rw_, ga, ba, sc]).Nodup
      rw [List.nodup_append]
      refine ⟨hnd, ?_, fun x hx y hy e => ?_⟩
      · simp only [List.nodup_cons, List.mem_cons, List.not_mem_nil, or_false, not_or, List.nodup_nil, not_false_eq_true, and_true]
        exact ⟨⟨Ne.symm ra, Ne.symm gaa, Ne.symm baa, Ne.symm sca⟩, ⟨Ne.symm gar, Ne.symm bar, Ne.symm scr⟩, ⟨Ne.symm bag, Ne.symm scg⟩, Ne.symm scb⟩
      · subst e
        simp only [List.mem_cons, List.not_mem_nil, or_false] at hy
        rcases hy with rfl | rfl | rfl | rfl | rfl
        · exact (hro _ hx).1 rfl
        · exact (hro _ hx).2.1 rfl
        · exact gan hx
        · exact ban hx
        · exact scn hx
    · rcases List.mem_append.mp hw with h | h
      · exact (hro w h).2.2
      · simp only [List.mem_cons, List.not_mem_nil, or_false] at h
        rcases h with rfl | rfl | rfl | rfl | rfl
        · exact (hwa rfl).elim
        · exact hr0
        · rw [← ho _ gan gaa gar]
          exact hga
        · rw [← ho _ ban baa bar]
          exact hba
        · rw [← ho _ scn sca scr]
          exact hsc
    · have hw2 : w ∉ ro ++ [a, rw_, ga, ba, sc] := hw
      simp only [List.mem_append, List.mem_cons, List.not_mem_nil, or_false, not_or] at hw2
      obtain ⟨w1, w2, w3, w4, w5, w6⟩ := hw2
      rw [updM_ne w2, updM_ne w6, updM_ne w2, updM_ne w5, updM_ne w2, updM_ne w4]
      exact ho w w1 w2 w3
end NBD
set_option Elab.async false
set_option linter.all false
set_option maxRecDepth 100000
set_option maxHeartbeats 2000000
set_option exponentiation.threshold 20000
/-! The most of a sheet: the program's most_of. -/
namespace NBD
open PySem PySem.Spec L2 DL Fr NB
open Simp (Prob Bas Dt T gn gk zb upd Good Std Turn Ok Run val ray)
abbrev Col := Fc × List Fc
def shP (rs : List Fc) (zs : List Col) : Prob := zs.foldl (fun P z => newP P z.1 z.2) (P0 (rgtL rs))
def shS (rs : List Fc) (zs : List Col) : List Int := zs.foldl (fun σ z => newS σ z.1 z.2) (List.replicate rs.length 1)
def colD (c : List Fc) : D := .lst (c.map fr)
def sheetD (gs : List Fc) (cols : List (List Fc)) (rs : List Fc) : D := .tup [.lst (gs.map fr), .lst (cols.map colD), .lst (rs.map fr)]
structure ShOk (gs : List Fc) (cols : List (List Fc)) (rs : List Fc) : Prop where
  r : RgtOk rs
  l : gs.length = cols.length
  c : ∀ z ∈ gs.zip cols, z.2.length = rs.length ∧ (∀ f ∈ z.2 ++ [z.1], 1 ≤ f.2) ∧ ∀ f ∈ z.2 ++ [z.1], f.1.natAbs < 2 ^ 3000
  s : SzB (shP rs (gs.zip cols)) (cmN rs) (shS rs (gs.zip cols))
/-- the end: no column gains -/
def AtEnd (P : Prob) (β : Bas) : Prop := Good P β ∧ ∀ k, k < P.n → 0 ≤ gk P β k
/-- one gains without end -/
def AtRay (P : Prob) (β : Bas) (e : Nat) : Prop := Good P β ∧ e < P.n ∧ gk P β e < 0 ∧ ∀ i, i < P.m → T P β i (P.A e) ≤ 0
def c_mostof (C : Addr) : Ct := fun ds μ Q _ => ∃ (gs : List Fc) (cols : List (List Fc)) (rs : List Fc), ds = [sheetD gs cols rs] ∧ ShOk gs cols rs ∧
  (∀ β, AtEnd (shP rs (gs.zip cols)) β → ∀ c d, μ c = none → μ d = none → c ≠ d → Q (.tup [.str (PySem.Str.ofString "most"), .raw (.ref c), .raw (.ref d)]) (updM (updM μ c (.lst ((shL (shP rs (gs.zip cols)) β (cmN rs) (shS rs (gs.zip cols))).map fr))) d (.lst ((prL (shP rs (gs.zip cols)) β).map fr)))) ∧
  (∀ β e, AtRay (shP rs (gs.zip cols)) β e → ∀ c, μ c = none → Q (.tup [.str (PySem.Str.ofString "endless"), .raw (.ref c)]) (updM μ c (.lst ((ryL (shP rs (gs.zip cols)) β (shS rs (gs.zip cols)) e).map fr))))
def t_most_of (C_Board : Addr) : DTS :=
  (dSeq (dAsg (dVar 0) (tgT (tgCons (tgN 1) (tgCons (tgN 2) (tgCons (tgN 3) tgNil)))))
    (dSeq (dSet 4 (dMk C_Board (c_binit C_Board) (dCons (dVar 3) dNil)))
    (dSeq (dFor (dZip2 (dCons (dVar 1) (dCons (dVar 2) dNil))) (tgT (tgCons (tgN 5) (tgCons (tgN 6) tgNil))) (dDrop (dMeth C_Board "add" (c_badd C_Board) (dVar 4) (dCons (dVar 5) (dCons (dVar 6) dNil)))))
    (dSeq (dSet 7 (dMeth C_Board "settle" (c_bsettle C_Board) (dVar 4) dNil))
    (dSeq (dIf (dB (dOp (gIs true) (dVar 7) (dC .non))) (dRet (dTup (dCons (dC (.str (PySem.Str.ofString "endless"))) (dCons (dMeth C_Board "endless" (c_bendless C_Board) (dVar 4) (dCons (dVar 7) dNil)) dNil)))) dNext)
    (dRet (dTup (dCons (dC (.str (PySem.Str.ofString "most"))) (dCons (dMeth C_Board "shares" (c_bshares C_Board) (dVar 4) dNil) (dCons (dMeth C_Board "prices" (c_bprices C_Board) (dVar 4) dNil) dNil))))))))))
theorem newP_n {P : Prob} {g : Fc} {c : List Fc} : (newP P g c).n = P.n + 1 := rfl
theorem szB_pre {P : Prob} {S : Int} {σ : List Int} {g : Fc} {c : List Fc} (h : SzB (newP P g c) S (newS σ g c)) : SzB P S σ := by
  obtain ⟨⟨M, hM, h1, h2, h3⟩, h4, h5, h6, h7⟩ := h
  refine ⟨⟨M, ⟨fun k j hk hj => ?_, hM.b, fun k hk => ?_⟩, h1, h2, h3⟩, h4, fun s hs => h5 s (List.mem_append_left _ hs), ?_, h7⟩
  · have := hM.A k j (show k < P.n + 1 by omega) hj
    rwa [show (newP P g c).A k = P.A k from addP_A hk] at this
  · have := hM.c k (show k < P.n + 1 by omega)
    rwa [show (newP P g c).c k = P.c k from addP_c hk] at this
  · have : P.n + 1 < 1000000 := h6
    omega
theorem shP_append {rs : List Fc} {zs : List Col} {z : Col} : shP rs (zs ++ [z]) = newP (shP rs zs) z.1 z.2 := by unfold shP; rw [List.foldl_append]; rfl
theorem shS_append {rs : List Fc} {zs : List Col} {z : Col} : shS rs (zs ++ [z]) = newS (shS rs zs) z.1 z.2 := by unfold shS; rw [List.foldl_append]; rfl
theorem szB_take {rs : List Fc} : ∀ {ys zs : List Col}, SzB (shP rs (zs ++ ys)) (cmN rs) (shS rs (zs ++ ys)) → SzB (shP rs zs) (cmN rs) (shS rs zs)
  | [], zs, h => by rw [List.append_nil] at h; exact h
  | y :: ys, zs, h => by
    have : zs ++ y :: ys = (zs ++ [y]) ++ ys := by simp
    rw [this] at h
    have := szB_take (ys := ys) h
    rw [shP_append, shS_append] at this
    exact szB_pre this
theorem shP_m {rs : List Fc} : ∀ {zs : List Col}, (shP rs zs).m = rs.length := by
  intro zs
  suffices h : ∀ (zs : List Col) (P : Prob), (zs.foldl (fun P z => newP P z.1 z.2) P).m = P.m by
    unfold shP
    rw [h]
    show (rgtL rs).length = _
    unfold rgtL
    rw [List.length_map]
  intro zs
  induction zs with
  | nil => intro P; rfl
  | cons z zs ih => intro P; rw [List.foldl_cons, ih]; rfl
theorem shP_n {rs : List Fc} : ∀ {zs : List Col}, (shP rs zs).n = rs.length + zs.length := by
  intro zs
  suffices h : ∀ (zs : List Col) (P : Prob), (zs.foldl (fun P z => newP P z.1 z.2) P).n = P.n + zs.length by
    unfold shP
    rw [h]
    show (rgtL rs).length + _ = _
    unfold rgtL
    rw [List.length_map]
  intro zs
  induction zs with
  | nil => intro P; rfl
  | cons z zs ih => intro P; rw [List.foldl_cons, ih, newP_n, List.length_cons]; omega
theorem shP_std {rs : List Fc} (h : RgtOk rs) : ∀ zs : List Col, Std (shP rs zs) := by
  suffices h : ∀ (zs : List Col) (P : Prob), Std P → Std (zs.foldl (fun P z => newP P z.1 z.2) P) from fun zs => h zs _ (rgt_std ‹_›)
  intro zs
  induction zs with
  | nil => intro P h; exact h
  | cons z zs ih => intro P h; exact ih _ (std_add h)
theorem shS_len {rs : List Fc} : ∀ {zs : List Col}, (shS rs zs).length = rs.length + zs.length := by
  intro zs
  suffices h : ∀ (zs : List Col) (σ : List Int), (zs.foldl (fun σ z => newS σ z.1 z.2) σ).length = σ.length + zs.length by
    unfold shS
    rw [h, List.length_replicate]
  intro zs
  induction zs with
  | nil => intro P; rfl
  | cons z zs ih => intro P; rw [List.foldl_cons, ih, newS, List.length_append, List.length_cons]; simp; omega
theorem brd_new {C : Addr} {μ : M} {B : Brd} {S : Int} {σ : List Int} {P : Prob} {β : Bas} {c : Addr} {x : DL.C} (h : BrdAt C μ B S σ P β) (hc : μ c = none) : BrdAt C (updM μ c x) B S σ P β := by
  have ne : ∀ {q : Addr} {y : DL.C}, μ q = some y → updM μ c x q = some y := fun e => by rw [updM_ne (ne_fresh e hc)]; exact e
  exact ⟨ne h.ins, ne h.rows, h.rl, fun i r hi => ne (h.row i r hi), ne h.gains, ne h.bas, ne h.sc, h.sl, h.nd⟩
theorem hb_most_of {C : Addr} : HB (c_mostof C) (t_most_of C) 8 := by
  intro ds μ Q X h
  obtain ⟨gs, cols, rs, rfl, ok, qm, qe⟩ := h
  show t_most_of C (ends Q XF) [some (sheetD gs cols rs), none, none, none, none, none, none, none] μ
  have sz : 16777216 ≤ sizeLine := by decide
  simp! only [t_most_of, sheetD]
  intro x dx hx hdx hne
  have e1 : newM C x dx μ x = some (.ins C dx []) := updM_same
  refine ⟨x, rs, rfl, ok.r, dx, e1, fun B μ1 hBa hBd hB0 hfr hoth => ?_⟩
  subst hBa
  have fresh : ∀ q ∈ B.all, μ q = none := fun q hq => by
    by_cases e : q = B.a
    · rw [e]; exact hx
    · have := hfr q hq e
      unfold newM at this
      rw [updM_ne e] at this
      by_cases e2 : q = dx
      · rw [e2]; exact hdx
      · rwa [updM_ne e2] at this
  have keep : ∀ {μ1 μ2 : M}, Sub μ μ1 → OthB μ1 μ2 B → Sub μ μ2 := fun s o q c h => by
    rw [o q fun hq => by rw [fresh q hq] at h; cases h]
    exact s q c h
  have s0 : Sub μ (newM C B.a dx μ) := (Sub.new hdx).trans (Sub.new (by rw [updM_ne (Ne.symm hne)]; exact hx))
  have s1 := keep s0 hoth
  have rl := ok.r.l
  generalize hz : gs.zip cols = zs at *
  have ck := ok.c
  have hs := ok.s
  have std := shP_std ok.r
  rw [hz] at ck hs
  simp! only [kMade]
  rw [zip_map, hz]
  refine for_pre (fun pre δ μ' => ∃ x5 x6, δ = [some (.tup [.lst (gs.map fr), .lst (cols.map colD), .lst (rs.map fr)]), some (.lst (gs.map fr)), some (.lst (cols.map colD)), some (.lst (rs.map fr)), some (.raw (.ref B.a)), x5, x6, none] ∧ BrdAt C μ' B (cmN rs) (shS rs pre) (shP rs pre) id ∧ Good (shP rs pre) id ∧ Sub μ μ')
    ⟨_, _, rfl, hB0, (std []).good0, s1⟩ ?_ ?_
  · rintro pre ⟨g, c⟩ post δ μ' hzz ⟨x5, x6, rfl, hB, hg, hsub⟩
    refine ⟨trivial, ?_⟩
    have hm : (g, c) ∈ zs := by rw [hzz]; simp
    obtain ⟨k1, k2, k3⟩ := ck _ hm
    simp! only [colD]
    refine ⟨B.dx, _, hB.ins, lk_add, B, _, _, _, id, g, c, rfl, hB, hg, std pre, ⟨by rw [shP_m]; exact k1, k2, k3⟩, ?_, fun μ2 hB2 ho2 => ?_⟩
    · have := szB_take (ys := post) (zs := pre ++ [(g, c)]) (rs := rs) (by rw [List.append_assoc]; show SzB (shP rs (pre ++ (g, c) :: post)) _ (shS rs (pre ++ (g, c) :: post)); rw [← hzz]; exact hs)
      rwa [shP_append, shS_append] at this
    · walk_at "r"
      refine ⟨_, _, rfl, ?_, ?_, keep hsub ho2⟩
      · rw [shP_append, shS_append]; exact hB2
      · rw [shP_append]; exact good_add hg
  · rintro δ μ' ⟨x5, x6, rfl, hB, hg, hsub⟩
    refine ⟨trivial, ?_⟩
    have mn := (std zs).mn
    walk_at "r"
    refine ⟨B.dx, _, hB.ins, lk_settle, B, _, _, _, id, rfl, hB, hg, hs, fun β μ2 hB2 hg2 ho2 => ⟨fun hall => ?_, fun e he hneg hno => ?_⟩⟩
    · have hsub2 := keep hsub ho2
      walk_at "r"
      refine ⟨B.dx, _, hB2.ins, lk_shares, B, _, _, _, β, rfl, hB2, hg2, hs, mn, fun c hc => ?_⟩
      have bc : ∀ {q : Addr} {x : DL.C}, μ2 q = some x → q ≠ c := fun h e => by rw [e, hc] at h; cases h
      have hB3 : BrdAt C (updM μ2 c (.lst ((shL (shP rs zs) β (cmN rs) (shS rs zs)).map fr))) B (cmN rs) (shS rs zs) (shP rs zs) β := brd_new hB2 hc
      walk_at "r"
      refine ⟨B.dx, _, hB3.ins, lk_prices, B, _, _, _, β, rfl, hB3, hg2, hs, mn, fun d hd => ?_⟩
      have hdc : d ≠ c := fun e => by rw [e, updM_same] at hd; cases hd
      rw [updM_ne hdc] at hd
      walk_at "r"
      exact ⟨by decide, _, (hsub2.upd).upd, qm β ⟨hg2, hall⟩ c d (hsub2.fresh hc) (hsub2.fresh hd) (Ne.symm hdc)⟩
    · have hsub2 := keep hsub ho2
      walk_at "r"
      refine ⟨B.dx, _, hB2.ins, lk_endless, B, _, _, _, β, e, rfl, hB2, hg2, hs, mn, he, hneg, fun c hc => ?_⟩
      walk_at "r"
      exact ⟨by decide, _, hsub2.upd, qe β e ⟨hg2, he, hneg, hno⟩ c (hsub2.fresh hc)⟩
end NBD
set_option linter.all false
/-! Fractions as numbers: Rat. -/
namespace Fr
def q (f : Int × Int) : Rat := (f.1 : Rat) / (f.2 : Rat)
theorem cast_ne {b : Int} (h : b ≠ 0) : (b : Rat) ≠ 0 := by
  intro e
  exact h (by exact_mod_cast e)
theorem cross_q {a b c d : Rat} (hb : b ≠ 0) (hd : d ≠ 0) : a / b = c / d ↔ a * d = c * b := by
  constructor
  · intro h; grind
  · intro h; grind
theorem q_low {t b : Int} (h : b ≠ 0) : q (low t b) = (t : Rat) / (b : Rat) := by
  have h1 : (low t b).2 ≠ 0 := by have := low_pos (t := t) h; omega
  have h2 := low_cross (t := t) h
  unfold q
  rw [cross_q (cast_ne h1) (cast_ne h)]
  exact_mod_cast h2
theorem q_add {f g : Int × Int} (hf : f.2 ≠ 0) (hg : g.2 ≠ 0) : q (addF f g) = q f + q g := by
  unfold addF
  rw [q_low (Int.mul_ne_zero hf hg)]
  have a := cast_ne hf
  have b := cast_ne hg
  unfold q
  push_cast
  grind
theorem q_mul {f g : Int × Int} (hf : f.2 ≠ 0) (hg : g.2 ≠ 0) : q (mulF f g) = q f * q g := by
  unfold mulF
  rw [q_low (Int.mul_ne_zero hf hg)]
  have a := cast_ne hf
  have b := cast_ne hg
  unfold q
  push_cast
  grind
theorem q_inj {n m : Nat} {f g : Int × Int} (hf : Ok n f) (hg : Ok m g) (h : q f = q g) : f = g := by
  unfold q at h
  rw [cross_q (cast_ne hf.ne) (cast_ne hg.ne)] at h
  have h' : f.1 * g.2 = g.1 * f.2 := by exact_mod_cast h
  have := cop_unique hf.pos hg.pos hf.cop hg.cop h'
  exact Prod.ext this.1 this.2
theorem q_lt {f g : Int × Int} (hf : 1 ≤ f.2) (hg : 1 ≤ g.2) : f.1 * g.2 < g.1 * f.2 ↔ q f < q g := by
  have a : (0 : Rat) < (f.2 : Rat) := by exact_mod_cast (show (0 : Int) < f.2 by omega)
  have b : (0 : Rat) < (g.2 : Rat) := by exact_mod_cast (show (0 : Int) < g.2 by omega)
  have e : (f.1 * g.2 < g.1 * f.2) ↔ ((f.1 : Rat) * (g.2 : Rat) < (g.1 : Rat) * (f.2 : Rat)) := by
    constructor
    · intro h; exact_mod_cast h
    · intro h; exact_mod_cast h
  rw [e]
  unfold q
  rw [Rat.div_lt_iff a, show (g.1 : Rat) / (g.2 : Rat) * (f.2 : Rat) = ((g.1 : Rat) * (f.2 : Rat)) / (g.2 : Rat) by grind, Rat.lt_div_iff b]
theorem q_int {n : Int} : q (n, 1) = (n : Rat) := by
  unfold q
  have : ((1 : Int) : Rat) = 1 := rfl
  show (n : Rat) / ((1 : Int) : Rat) = n
  rw [this]
  grind
theorem ok_mul {n m : Nat} {f g : Int × Int} (h : Ok n f) (k : Ok m g) : Ok (n + m) (mulF f g) := ok_low (mul_ne h.ne k.ne) (mul_lt h.tb k.tb) (mul_lt h.bb k.bb)
theorem ok_subQ {n m : Nat} {f g : Int × Int} (h : Ok n f) (k : Ok m g) : Ok (n + m + 1) (subF f g) := by
  refine ok_low (mul_ne h.ne k.ne) ?_ (lt_mono (mul_lt h.bb k.bb) (by omega))
  have a := mul_lt h.tb k.bb
  have b := mul_lt k.tb h.bb
  rw [show m + n = n + m by omega] at b
  exact sub_lt a b
theorem q_pos_iff {f : Int × Int} (h : 1 ≤ f.2) : 0 < f.1 ↔ 0 < q f := by
  have := q_lt (f := (0, 1)) (g := f) (by decide) h
  rw [q_int] at this
  have e : (0 * f.2 < f.1 * 1) ↔ 0 < f.1 := by omega
  rw [← e]
  exact this
end Fr
set_option Elab.async false
set_option linter.all false
set_option maxRecDepth 100000
set_option maxHeartbeats 2000000
set_option exponentiation.threshold 20000
/-! Sheets in fractions: what is told at the end is the most, or without end. -/
namespace NBD
open PySem PySem.Spec L2 DL Fr NB
open Simp (Prob Bas Dt T gn gk zb upd Good Std Turn Run val ray)
theorem getD_at {α : Type} {xs : List α} {k : Nat} {d : α} (h : k < xs.length) : xs.getD k d = xs[k] := by
  rw [List.getD_eq_getElem?_getD, List.getElem?_eq_getElem h]
  rfl
theorem getD_mem {α : Type} {xs : List α} {k : Nat} {d : α} (h : k < xs.length) : xs.getD k d ∈ xs := by
  rw [getD_at h]
  exact List.getElem_mem h
theorem getD_map {α β : Type} {f : α → β} {xs : List α} {k : Nat} {d : α} {e : β} (h : k < xs.length) : (xs.map f).getD k e = f (xs.getD k d) := by
  rw [getD_at h, getD_at (by rw [List.length_map]; exact h), List.getElem_map]
/-! ### sums of fractions -/
def smQ : Nat → (Nat → Rat) → Rat
  | 0, _ => 0
  | n + 1, f => smQ n f + f n
theorem smQ_congr {f g : Nat → Rat} : ∀ {n : Nat}, (∀ j, j < n → f j = g j) → smQ n f = smQ n g
  | 0, _ => rfl
  | n + 1, h => by
    show smQ n f + f n = smQ n g + g n
    rw [smQ_congr fun j hj => h j (by omega), h n (by omega)]
theorem smQ_cast {f : Nat → Int} : ∀ {n : Nat}, ((Det.sm n f : Int) : Rat) = smQ n fun j => (f j : Rat)
  | 0 => rfl
  | n + 1 => by
    show ((Det.sm n f + f n : Int) : Rat) = smQ n _ + _
    rw [Rat.intCast_add, smQ_cast]
theorem smQ_mul {f : Nat → Rat} {a : Rat} : ∀ {n : Nat}, smQ n (fun j => f j * a) = smQ n f * a
  | 0 => by show (0 : Rat) = 0 * a; rw [Rat.zero_mul]
  | n + 1 => by
    show smQ n (fun j => f j * a) + f n * a = (smQ n f + f n) * a
    rw [smQ_mul, Rat.add_mul]
theorem smQ_head {f : Nat → Rat} : ∀ {n : Nat}, smQ (n + 1) f = f 0 + smQ n fun j => f (j + 1)
  | 0 => by show 0 + f 0 = f 0 + 0; rw [Rat.zero_add, Rat.add_zero]
  | n + 1 => by
    show smQ (n + 1) f + f (n + 1) = f 0 + (smQ n (fun j => f (j + 1)) + f (n + 1))
    rw [smQ_head, Rat.add_assoc]
abbrev Z : Fc := (0, 1)
/-- what two lists of fractions are worth together -/
def wQ : List Fc → List Fc → Rat
  | x :: xs, y :: ys => q x * q y + wQ xs ys
  | _, _ => 0
theorem wQ_sm : ∀ {xs ys : List Fc}, xs.length = ys.length → wQ xs ys = smQ xs.length fun j => q (xs.getD j Z) * q (ys.getD j Z)
  | [], [], _ => rfl
  | x :: xs, y :: ys, h => by
    rw [wQ, wQ_sm (by simpa using h), List.length_cons, smQ_head]
    rfl
theorem q_Z : q Z = 0 := (q_int (n := 0)).trans rfl
/-! ### columns of the sheet -/
def colOf (zs : List Col) (k : Nat) : Col := zs.getD k (Z, [])
def scOf (zs : List Col) (k : Nat) : Nat := cmN ((colOf zs k).2 ++ [(colOf zs k).1])
theorem shP_cols {rs : List Fc} : ∀ (zs : List Col) (k : Nat), k < zs.length → (shP rs zs).A (rs.length + k) = vecL ((colOf zs k).2.map (wh (scOf zs k))) ∧ (shP rs zs).c (rs.length + k) = wh (scOf zs k) (colOf zs k).1 ∧ (shS rs zs)[rs.length + k]? = some ((scOf zs k : Nat) : Int) := by
  intro zs
  have key : ∀ n, ∀ zs : List Col, zs.length = n → ∀ k, k < zs.length → (shP rs zs).A (rs.length + k) = vecL ((colOf zs k).2.map (wh (scOf zs k))) ∧ (shP rs zs).c (rs.length + k) = wh (scOf zs k) (colOf zs k).1 ∧ (shS rs zs)[rs.length + k]? = some ((scOf zs k : Nat) : Int) := by
    intro n
    induction n with
    | zero => intro zs h k hk; omega
    | succ n ih =>
      intro zs h k hk
      obtain ⟨ys, y, rfl⟩ : ∃ ys y, zs = ys ++ [y] := ⟨zs.dropLast, zs.getLast (by intro e; rw [e] at h; cases h), (List.dropLast_concat_getLast _).symm⟩
      rw [List.length_append, List.length_singleton] at h hk
      rw [shP_append, shS_append]
      by_cases e : k < ys.length
      · obtain ⟨h1, h2, h3⟩ := ih ys (by omega) k e
        have ec : colOf (ys ++ [y]) k = colOf ys k := by
          unfold colOf
          rw [List.getD_eq_getElem?_getD, List.getD_eq_getElem?_getD, List.getElem?_append_left e]
        have lt : rs.length + k < (shP rs ys).n := by rw [shP_n]; omega
        have es : scOf (ys ++ [y]) k = scOf ys k := by unfold scOf; rw [ec]
        rw [ec, es]
        exact ⟨(addP_A lt).trans h1, (addP_c lt).trans h2, by unfold newS; rw [List.getElem?_append_left (by rw [shS_len]; omega)]; exact h3⟩
      · have : k = ys.length := by omega
        subst this
        have ec : colOf (ys ++ [y]) ys.length = y := by
          unfold colOf
          rw [List.getD_eq_getElem?_getD, List.getElem?_append_right (Nat.le_refl _), Nat.sub_self]
          rfl
        have en : rs.length + ys.length = (shP rs ys).n := shP_n.symm
        unfold scOf
        rw [ec, en]
        refine ⟨addP_An, addP_cn, ?_⟩
        unfold newS
        rw [← en, List.getElem?_append_right (by rw [shS_len]; omega), shS_len, Nat.sub_self]
        rfl
  exact key _ zs rfl
/-- what a whole number stands for -/
theorem q_wh {S : Nat} {f : Fc} (hS : 0 < S) (h1 : 1 ≤ f.2) (h : f.2 ∣ (S : Int)) : q f * (S : Rat) = ((wh S f : Int) : Rat) := by
  have e := wh_mul h1 h
  have e2 : ((wh S f * f.2 : Int) : Rat) = ((f.1 * S : Int) : Rat) := by rw [e]
  rw [Rat.intCast_mul, Rat.intCast_mul, Rat.intCast_natCast] at e2
  have hf : (f.2 : Rat) ≠ 0 := cast_ne (by omega)
  unfold q
  grind
/-- shares fit -/
def FitQ (cols : List (List Fc)) (xs rs : List Fc) : Prop := ∀ j, j < rs.length → wQ (cols.map fun c => c.getD j Z) xs ≤ q (rs.getD j Z)
structure MostQ (gs : List Fc) (cols : List (List Fc)) (rs xs ys : List Fc) : Prop where
  lx : xs.length = cols.length
  ly : ys.length = rs.length
  px : ∀ f ∈ xs, 0 ≤ f.1
  py : ∀ f ∈ ys, 0 ≤ f.1
  ft : FitQ cols xs rs
  wo : ∀ z ∈ cols.zip gs, q z.2 ≤ wQ z.1 ys
  eq : wQ rs ys = wQ gs xs
structure EndQ (gs : List Fc) (cols : List (List Fc)) (n : Nat) (xs : List Fc) : Prop where
  lx : xs.length = cols.length
  px : ∀ f ∈ xs, 0 ≤ f.1
  ft : FitQ cols xs (List.replicate n Z)
  up : 0 < wQ gs xs
section
variable {gs : List Fc} {cols : List (List Fc)} {rs : List Fc} {β : Bas}
theorem low_top {t b : Int} (h : 0 ≤ t) (hb : 0 < b) : 0 ≤ (low t b).1 := by
  have g := gcdI_pos (t := t) (show b ≠ 0 by omega)
  unfold low by_
  rw [if_neg (by omega)]
  exact Int.fdiv_nonneg h (by omega)
theorem col_facts (h : ShOk gs cols rs) {k : Nat} (hk : k < cols.length) : colOf (gs.zip cols) k = (gs.getD k Z, cols.getD k []) ∧ (cols.getD k []).length = rs.length ∧ (∀ f ∈ cols.getD k [] ++ [gs.getD k Z], 1 ≤ f.2) ∧ 0 < scOf (gs.zip cols) k ∧ (∀ f ∈ cols.getD k [] ++ [gs.getD k Z], f.2 ∣ (scOf (gs.zip cols) k : Int)) := by
  have l := h.l
  have e : colOf (gs.zip cols) k = (gs.getD k Z, cols.getD k []) := by
    unfold colOf
    rw [getD_at (show k < (gs.zip cols).length by rw [List.length_zip]; omega), List.getElem_zip, getD_at hk, getD_at (show k < gs.length by omega)]
  have hm : (gs.getD k Z, cols.getD k []) ∈ gs.zip cols := by
    rw [← e]
    exact getD_mem (by rw [List.length_zip]; omega)
  obtain ⟨c1, c2, c3⟩ := h.c _ hm
  refine ⟨e, c1, c2, ?_, fun f hf => ?_⟩
  · unfold scOf
    rw [e]
    exact cm_pos c2
  · unfold scOf
    rw [e]
    exact cm_dvd hf
/-- the table's column, in fractions -/
theorem q_col (h : ShOk gs cols rs) {k j : Nat} (hk : k < cols.length) (hj : j < rs.length) : q ((cols.getD k []).getD j Z) * (scOf (gs.zip cols) k : Rat) = (((shP rs (gs.zip cols)).A (rs.length + k) j : Int) : Rat) := by
  obtain ⟨e, c1, c2, c3, c4⟩ := col_facts h hk
  have hz : k < (gs.zip cols).length := by rw [List.length_zip, h.l]; omega
  have hm : (cols.getD k []).getD j Z ∈ cols.getD k [] ++ [gs.getD k Z] := by
    exact List.mem_append_left _ (getD_mem (by omega))
  rw [(shP_cols _ k hz).1, e, q_wh c3 (c2 _ hm) (c4 _ hm)]
  unfold vecL
  rw [getD_map (d := Z) (show j < (cols.getD k []).length by omega)]
theorem q_gain (h : ShOk gs cols rs) {k : Nat} (hk : k < cols.length) : q (gs.getD k Z) * (scOf (gs.zip cols) k : Rat) = (((shP rs (gs.zip cols)).c (rs.length + k) : Int) : Rat) := by
  obtain ⟨e, c1, c2, c3, c4⟩ := col_facts h hk
  have hz : k < (gs.zip cols).length := by rw [List.length_zip, h.l]; omega
  have hm : gs.getD k Z ∈ cols.getD k [] ++ [gs.getD k Z] := List.mem_append_right _ (List.mem_singleton.mpr rfl)
  rw [(shP_cols _ k hz).2.1, e, q_wh c3 (c2 _ hm) (c4 _ hm)]
theorem q_right (h : ShOk gs cols rs) {j : Nat} (hj : j < rs.length) : q (rs.getD j Z) * (cmN rs : Rat) = (((shP rs (gs.zip cols)).b j : Int) : Rat) := by
  have hb : ∀ (zs : List Col) (P : Prob), (zs.foldl (fun P z => newP P z.1 z.2) P).b = P.b := by
    intro zs
    induction zs with
    | nil => intro P; rfl
    | cons z zs ih => intro P; rw [List.foldl_cons, ih]; rfl
  have hm : rs.getD j Z ∈ rs := getD_mem hj
  rw [q_wh (cm_pos h.r.p) (h.r.p _ hm) (cm_dvd hm)]
  unfold shP
  rw [hb]
  show _ = (((rgtL rs).getD j 0 : Int) : Rat)
  unfold rgtL
  rw [getD_map (d := Z) hj]
theorem sig_at (h : ShOk gs cols rs) {k : Nat} (hk : k < cols.length) : (shS rs (gs.zip cols)).getD (rs.length + k) 0 = ((scOf (gs.zip cols) k : Nat) : Int) := by
  have hz : k < (gs.zip cols).length := by rw [List.length_zip, h.l]; omega
  rw [List.getD_eq_getElem?_getD, (shP_cols _ k hz).2.2]
  rfl
theorem shL_at {P : Prob} {S : Int} {σ : List Int} {k : Nat} (h : k < P.n - P.m) : (shL P β S σ).getD k Z = low (val P β (P.m + k) * σ.getD (P.m + k) 0) (Dt P β * S) := by
  unfold shL
  rw [getD_map (d := 0) (by rw [List.length_range]; exact h), getD_at (by rw [List.length_range]; exact h), List.getElem_range]
theorem ryL_at {P : Prob} {σ : List Int} {e k : Nat} (h : k < P.n - P.m) : (ryL P β σ e).getD k Z = low (ray P β e (P.m + k) * σ.getD (P.m + k) 0) (Dt P β) := by
  unfold ryL
  rw [getD_map (d := 0) (by rw [List.length_range]; exact h), getD_at (by rw [List.length_range]; exact h), List.getElem_range]
theorem prL_at {P : Prob} {j : Nat} (h : j < P.m) : (prL P β).getD j Z = low (gk P β j) (Dt P β) := by
  unfold prL
  rw [getD_map (d := 0) (by rw [List.length_range]; exact h), getD_at (by rw [List.length_range]; exact h), List.getElem_range]
theorem cast_pos {z : Int} (h : 0 < z) : (0 : Rat) < (z : Rat) := Rat.intCast_pos.mpr h
theorem le_mul {x y c : Rat} (h : 0 < c) (e : x * c ≤ y * c) : x ≤ y := Rat.le_of_mul_le_mul_right e h
theorem eq_mul {x y c : Rat} (h : 0 < c) (e : x * c = y * c) : x = y := Rat.le_antisymm (le_mul h (by rw [e]; exact Rat.le_refl)) (le_mul h (by rw [e]; exact Rat.le_refl))
/-- the column sums of shares that stand as f k * σ k over D * S -/
theorem col_sum (h : ShOk gs cols rs) {xs : List Fc} {f : Nat → Int} {W : Int} (lx : xs.length = cols.length) (hW : 0 < W)
    (hx : ∀ k, k < cols.length → xs.getD k Z = low (f k * ((scOf (gs.zip cols) k : Nat) : Int)) W) {j : Nat} (hj : j < rs.length) :
    wQ (cols.map fun c => c.getD j Z) xs * (W : Rat) = ((Det.sm cols.length fun k => f k * (shP rs (gs.zip cols)).A (rs.length + k) j : Int) : Rat) := by
  rw [wQ_sm (by rw [List.length_map, lx]), List.length_map, ← smQ_mul, smQ_cast]
  refine smQ_congr fun k hk => ?_
  have e1 := q_col h hk hj
  rw [getD_map (d := []) hk, hx k hk, q_low (by omega), Rat.intCast_mul, Rat.intCast_mul, Rat.intCast_natCast, ← e1]
  have := cast_ne (show W ≠ 0 by omega)
  grind
theorem gain_sum (h : ShOk gs cols rs) {xs : List Fc} {f : Nat → Int} {W : Int} (lx : xs.length = cols.length) (hW : 0 < W)
    (hx : ∀ k, k < cols.length → xs.getD k Z = low (f k * ((scOf (gs.zip cols) k : Nat) : Int)) W) :
    wQ gs xs * (W : Rat) = ((Det.sm cols.length fun k => f k * (shP rs (gs.zip cols)).c (rs.length + k) : Int) : Rat) := by
  rw [wQ_sm (by rw [h.l, lx]), h.l, ← smQ_mul, smQ_cast]
  refine smQ_congr fun k hk => ?_
  have e1 := q_gain h hk
  rw [hx k hk, q_low (by omega), Rat.intCast_mul, Rat.intCast_mul, Rat.intCast_natCast, ← e1]
  have := cast_ne (show W ≠ 0 by omega)
  grind
theorem most_told (h : ShOk gs cols rs) (ae : AtEnd (shP rs (gs.zip cols)) β) : MostQ gs cols rs (shL (shP rs (gs.zip cols)) β (cmN rs) (shS rs (gs.zip cols))) (prL (shP rs (gs.zip cols)) β) := by
  obtain ⟨hg, hall⟩ := ae
  have std := shP_std h.r (gs.zip cols)
  have pm : (shP rs (gs.zip cols)).m = rs.length := shP_m
  have pn : (shP rs (gs.zip cols)).n = rs.length + cols.length := by rw [shP_n, List.length_zip, h.l, Nat.min_self]
  have pd : (shP rs (gs.zip cols)).n - (shP rs (gs.zip cols)).m = cols.length := by omega
  have sA : ∀ {k}, k < cols.length → (shS rs (gs.zip cols)).getD (rs.length + k) 0 = ((scOf (gs.zip cols) k : Nat) : Int) := sig_at h
  have qA := fun {k j} (hk : k < cols.length) (hj : j < rs.length) => q_col h hk hj
  have qG := fun {k} (hk : k < cols.length) => q_gain h hk
  have qR := fun {j} (hj : j < rs.length) => q_right h hj
  have cs := fun {xs f W} lx hW hx {j} (hj : j < rs.length) => col_sum (xs := xs) (f := f) (W := W) h lx hW hx hj
  have gsum := fun {xs f W} lx hW hx => gain_sum (xs := xs) (f := f) (W := W) h lx hW hx
  have S0 : 0 < (cmN rs : Int) := by have := cm_pos h.r.p; omega
  have D0 := hg.ok.pos
  have DS : 0 < Dt (shP rs (gs.zip cols)) β * (cmN rs : Int) := Int.mul_pos D0 S0
  have scp : ∀ {k}, k < cols.length → 0 < scOf (gs.zip cols) k := fun hk => (col_facts h hk).2.2.2.1
  generalize shP rs (gs.zip cols) = P at *
  generalize shS rs (gs.zip cols) = σ at *
  have lx : (shL P β (cmN rs) σ).length = cols.length := by unfold shL; simp [pd]
  have ly : (prL P β).length = rs.length := by unfold prL; simp [pm]
  have hx : ∀ k, k < cols.length → (shL P β (cmN rs) σ).getD k Z = low (val P β (rs.length + k) * ((scOf (gs.zip cols) k : Nat) : Int)) (Dt P β * (cmN rs : Int)) := fun k hk => by
    rw [shL_at (by omega), pm, sA hk]
  have hy : ∀ j, j < rs.length → (prL P β).getD j Z = low (gk P β j) (Dt P β) := fun j hj => prL_at (by omega)
  have cost : ∀ j, j < rs.length → ((Dt P β * P.b j : Int) : Rat) = q (rs.getD j Z) * ((Dt P β * (cmN rs : Int) : Int) : Rat) := fun j hj => by
    have e := qR hj
    rw [Rat.intCast_mul, Rat.intCast_mul, Rat.intCast_natCast, ← e]
    grind
  have price : ∀ j, j < rs.length → q ((prL P β).getD j Z) * (Dt P β : Rat) = (gk P β j : Rat) := fun j hj => by
    have := cast_ne (show Dt P β ≠ 0 by omega)
    rw [hy j hj, q_low (by omega)]
    grind
  refine ⟨lx, ly, fun f hf => ?_, fun f hf => ?_, fun j hj => le_mul (cast_pos DS) ?_, fun z hz => ?_, ?_⟩
  · obtain ⟨k, hk, rfl⟩ := List.mem_iff_getElem.mp hf
    rw [lx] at hk
    rw [← getD_at (d := Z), hx k hk]
    exact low_top (Int.mul_nonneg (Simp.val_nn hg _) (by omega)) DS
  · obtain ⟨k, hk, rfl⟩ := List.mem_iff_getElem.mp hf
    rw [ly] at hk
    rw [← getD_at (d := Z), hy k hk]
    exact low_top (hall k (by omega)) D0
  · rw [cs lx DS hx hj, ← cost j hj, Rat.intCast_le_intCast]
    have := std.fits (f := fun k => val P β k) (j := j) (by omega) (fun k _ => Simp.val_nn hg k) (Simp.val_A hg (by omega))
    rw [pd, pm] at this
    exact this
  · obtain ⟨k, hk, rfl⟩ := List.mem_iff_getElem.mp hz
    rw [List.length_zip, h.l, Nat.min_self] at hk
    rw [List.getElem_zip]
    dsimp only
    have e1 : cols[k] = cols.getD k [] := (getD_at hk).symm
    have e2 : gs[k]'(by rw [h.l]; exact hk) = gs.getD k Z := (getD_at _).symm
    rw [e1, e2]
    have lc := (col_facts h hk).2.1
    have sp := scp hk
    have W0 : 0 < Dt P β * (scOf (gs.zip cols) k : Int) := Int.mul_pos D0 (by omega)
    refine le_mul (cast_pos W0) ?_
    have l1 : q (gs.getD k Z) * ((Dt P β * (scOf (gs.zip cols) k : Int) : Int) : Rat) = ((Dt P β * P.c (rs.length + k) : Int) : Rat) := by
      rw [Rat.intCast_mul, Rat.intCast_mul, Rat.intCast_natCast, ← qG hk]
      grind
    have l2 : wQ (cols.getD k []) (prL P β) * ((Dt P β * (scOf (gs.zip cols) k : Int) : Int) : Rat) = ((Det.sm rs.length fun j => P.A (rs.length + k) j * gk P β j : Int) : Rat) := by
      rw [wQ_sm (by rw [lc, ly]), lc, ← smQ_mul, smQ_cast]
      refine smQ_congr fun j hj => ?_
      rw [Rat.intCast_mul, Rat.intCast_mul, Rat.intCast_natCast, ← qA hk hj, ← price j hj]
      grind
    rw [l1, l2, Rat.intCast_le_intCast]
    have := std.gk_y (β := β) (rs.length + k)
    rw [pm] at this
    have := hall (rs.length + k) (by omega)
    omega
  · refine eq_mul (cast_pos DS) ?_
    rw [gsum lx DS hx]
    have l3 : wQ rs (prL P β) * ((Dt P β * (cmN rs : Int) : Int) : Rat) = ((Det.sm rs.length fun j => P.b j * gk P β j : Int) : Rat) := by
      rw [wQ_sm ly.symm, ← smQ_mul, smQ_cast]
      refine smQ_congr fun j hj => ?_
      rw [Rat.intCast_mul, Rat.intCast_mul, Rat.intCast_natCast, ← qR hj, ← price j hj]
      grind
    rw [l3]
    congr 1
    have e1 := std.zb_y (β := β)
    have e2 := std.gains (f := fun k => val P β k) (Simp.val_c hg)
    rw [pm] at e1
    rw [pd, pm] at e2
    exact e1.trans e2.symm
theorem end_told (h : ShOk gs cols rs) {e : Nat} (ar : AtRay (shP rs (gs.zip cols)) β e) : EndQ gs cols rs.length (ryL (shP rs (gs.zip cols)) β (shS rs (gs.zip cols)) e) := by
  obtain ⟨hg, he, neg, hno⟩ := ar
  have std := shP_std h.r (gs.zip cols)
  have pm : (shP rs (gs.zip cols)).m = rs.length := shP_m
  have pn : (shP rs (gs.zip cols)).n = rs.length + cols.length := by rw [shP_n, List.length_zip, h.l, Nat.min_self]
  have pd : (shP rs (gs.zip cols)).n - (shP rs (gs.zip cols)).m = cols.length := by omega
  have sA : ∀ {k}, k < cols.length → (shS rs (gs.zip cols)).getD (rs.length + k) 0 = ((scOf (gs.zip cols) k : Nat) : Int) := sig_at h
  have cs := fun {xs f W} lx hW hx {j} (hj : j < rs.length) => col_sum (xs := xs) (f := f) (W := W) h lx hW hx hj
  have gsum := fun {xs f W} lx hW hx => gain_sum (xs := xs) (f := f) (W := W) h lx hW hx
  have D0 := hg.ok.pos
  generalize shP rs (gs.zip cols) = P at *
  generalize shS rs (gs.zip cols) = σ at *
  have lx : (ryL P β σ e).length = cols.length := by unfold ryL; simp [pd]
  have hx : ∀ k, k < cols.length → (ryL P β σ e).getD k Z = low (ray P β e (rs.length + k) * ((scOf (gs.zip cols) k : Nat) : Int)) (Dt P β) := fun k hk => by
    rw [ryL_at (by omega), pm, sA hk]
  have rn : ∀ k, 0 ≤ ray P β e k := Simp.ray_nn hg hno
  refine ⟨lx, fun f hf => ?_, fun j hj => le_mul (cast_pos D0) ?_, ?_⟩
  · obtain ⟨k, hk, rfl⟩ := List.mem_iff_getElem.mp hf
    rw [lx] at hk
    rw [← getD_at (d := Z), hx k hk]
    exact low_top (Int.mul_nonneg (rn _) (by omega)) D0
  · rw [List.length_replicate] at hj
    rw [cs lx D0 hx hj, getD_at (by rw [List.length_replicate]; exact hj), List.getElem_replicate, q_Z, Rat.zero_mul]
    have := std.fits (f := fun k => ray P β e k) (j := j) (by omega) (fun k _ => rn k) (Simp.ray_A hg he (by omega))
    rw [pd, pm] at this
    exact Rat.intCast_nonpos.mpr this
  · have e1 := gsum lx D0 hx
    have e2 := std.gains (f := fun k => ray P β e k) (Simp.ray_c hg he)
    rw [pd, pm] at e2
    rw [e2] at e1
    have : (0 : Rat) < wQ gs (ryL P β σ e) * (Dt P β : Rat) := by
      rw [e1]
      exact cast_pos (by omega)
    exact (Rat.mul_pos_iff_of_pos_right (cast_pos D0)).mp this
end
end NBD
set_option Elab.async false
set_option linter.all false
set_option maxRecDepth 100000
set_option maxHeartbeats 2000000
set_option exponentiation.threshold 20000
/-! Shapes with a type of their own. -/
namespace NB
open PySem PySem.Spec L2 DL Fr
abbrev Tis := List (Int × Int)
inductive Shp where
  | way (m : Int) (ts : Tis) (b e : Int) | tree (m : Int) (ts : Tis) | pair (m : Int) (ts : Tis) | deal (rs : List Int) (w : Int) | stream (m : Int) (ts : Tis) (rs ns : List Int) | bench (ls : List Int)
def tisD (ts : Tis) : D := .tup (ts.map fr)
def intsT (ns : List Int) : D := .tup (ns.map D.int)
def Shp.word : Shp → Str
  | .way _ _ _ _ => PySem.Str.ofString "way"
  | .tree _ _ => PySem.Str.ofString "tree"
  | .pair _ _ => PySem.Str.ofString "pair"
  | .deal _ _ => PySem.Str.ofString "deal"
  | .stream _ _ _ _ => PySem.Str.ofString "stream"
  | .bench _ => PySem.Str.ofString "bench"
def Shp.rest : Shp → List D
  | .way m ts b e => [.int m, tisD ts, .int b, .int e]
  | .tree m ts => [.int m, tisD ts]
  | .pair m ts => [.int m, tisD ts]
  | .deal rs w => [intsT rs, .int w]
  | .stream m ts rs ns => [.int m, tisD ts, intsT rs, intsT ns]
  | .bench ls => [intsT ls]
def Shp.d (s : Shp) : D := .tup (.str s.word :: s.rest)
def InP (m : Int) (t : Int × Int) : Prop := 0 ≤ t.1 ∧ t.1 < m ∧ 0 ≤ t.2 ∧ t.2 < m
structure Web (m : Int) (ts : Tis) : Prop where
  m2 : 2 ≤ m
  m10 : m ≤ 10
  l1 : 1 ≤ ts.length
  l16 : ts.length ≤ 16
  tie : ∀ t ∈ ts, Tie m t
def Shp.Ok : Shp → Prop
  | .way m ts b e => Web m ts ∧ (0 ≤ b ∧ b < m) ∧ (0 ≤ e ∧ e < m) ∧ b ≠ e
  | .tree m ts => Web m ts
  | .pair m ts => (1 ≤ m ∧ m ≤ 6) ∧ (1 ≤ ts.length ∧ ts.length ≤ 16) ∧ ∀ t ∈ ts, InP m t
  | .deal rs w => (1 ≤ rs.length ∧ rs.length ≤ 4) ∧ (∀ r ∈ rs, 0 ≤ r ∧ r ≤ 6) ∧ (1 ≤ w ∧ w ≤ 6) ∧ (rs.length : Int) * w ≤ 16
  | .stream m ts rs ns => Web m ts ∧ rs.length = ts.length ∧ (∀ r ∈ rs, 1 ≤ r ∧ r ≤ 9) ∧ (ns.length : Int) = m ∧ (∀ n ∈ ns, -9 ≤ n ∧ n ≤ 9) ∧ ns.sum = 0
  | .bench ls => (1 ≤ ls.length ∧ ls.length ≤ 8) ∧ ∀ l ∈ ls, 1 ≤ l ∧ l ≤ 9
def Shp.items : Shp → Int
  | .way _ ts _ _ => ts.length
  | .tree _ ts => ts.length
  | .pair _ ts => ts.length
  | .deal rs w => rs.length * w
  | .stream _ ts _ _ => ts.length
  | .bench ls => ls.length
theorem withinB_iff {lo hi : Int} {d : D} : withinB lo hi d = true ↔ ∃ i, d = .int i ∧ lo ≤ i ∧ i ≤ hi := by
  constructor
  · intro h
    cases d with
    | int i =>
      rw [withinB, Bool.and_eq_true] at h
      exact ⟨i, rfl, of_decide_eq_true h.1, of_decide_eq_true h.2⟩
    | _ => cases h
  · rintro ⟨i, rfl, h1, h2⟩
    exact within_of h1 h2
theorem all_within : ∀ {lo hi : Int} {xs : List D}, xs.all (withinB lo hi) = true → ∃ ns : List Int, xs = ns.map D.int ∧ ∀ n ∈ ns, lo ≤ n ∧ n ≤ hi
  | _, _, [], _ => ⟨[], rfl, by simp⟩
  | lo, hi, x :: xs, h => by
    rw [List.all_cons, Bool.and_eq_true] at h
    obtain ⟨i, rfl, h1, h2⟩ := withinB_iff.mp h.1
    obtain ⟨ns, rfl, h3⟩ := all_within h.2
    exact ⟨i :: ns, rfl, fun n hn => by
      rcases List.mem_cons.mp hn with e | hn
      · rw [e]; exact ⟨h1, h2⟩
      · exact h3 n hn⟩
theorem areWithinB_iff {m lo hi : Int} {d : D} : areWithinB m lo hi d = true ↔ ∃ ns : List Int, d = intsT ns ∧ (ns.length : Int) = m ∧ ∀ n ∈ ns, lo ≤ n ∧ n ≤ hi := by
  constructor
  · intro h
    cases d with
    | tup xs =>
      rw [areWithinB, Bool.and_eq_true] at h
      obtain ⟨ns, rfl, h2⟩ := all_within h.2
      exact ⟨ns, rfl, by have := of_decide_eq_true h.1; rwa [List.length_map] at this, h2⟩
    | _ => cases h
  · rintro ⟨ns, rfl, h1, h2⟩
    exact areWithin_of h1 h2
theorem tieB_iff {m : Int} {u : Bool} {d : D} : tieB m u d = true ↔ ∃ t : Int × Int, d = fr t ∧ InP m t ∧ (u = true → t.1 ≠ t.2) := by
  constructor
  · intro h
    unfold tieB at h
    rw [Bool.and_eq_true] at h
    obtain ⟨ns, rfl, hl, hn⟩ := areWithinB_iff.mp h.1
    match ns, hl with
    | [a, b], _ =>
      have ha := hn a (by simp)
      have hb := hn b (by simp)
      refine ⟨(a, b), rfl, ⟨by show 0 ≤ a; omega, by show a < m; omega, by show 0 ≤ b; omega, by show b < m; omega⟩, fun hu e => ?_⟩
      have h2 := h.2
      have : sameB (intsT [a, b]) = true := by
        show eqD (.int a) (.int b) = true
        rw [eqD_int]
        exact decide_eq_true e
      rw [hu, this] at h2
      cases h2
    | [], hl => exact absurd hl (by decide)
    | [_], hl => simp at hl
    | _ :: _ :: _ :: _, hl => simp at hl; omega
  · rintro ⟨t, rfl, h1, h2⟩
    exact tieB_of h1 h2
theorem all_ties : ∀ {m : Int} {u : Bool} {xs : List D}, xs.all (tieB m u) = true → ∃ ts : Tis, xs = ts.map fr ∧ ∀ t ∈ ts, InP m t ∧ (u = true → t.1 ≠ t.2)
  | _, _, [], _ => ⟨[], rfl, by simp⟩
  | m, u, x :: xs, h => by
    rw [List.all_cons, Bool.and_eq_true] at h
    obtain ⟨t, rfl, h1⟩ := tieB_iff.mp h.1
    obtain ⟨ts, rfl, h3⟩ := all_ties h.2
    exact ⟨t :: ts, rfl, fun n hn => by
      rcases List.mem_cons.mp hn with e | hn
      · rw [e]; exact h1
      · exact h3 n hn⟩
theorem areTiesB_iff {m : Int} {u : Bool} {d : D} : areTiesB m u d = true ↔ ∃ ts : Tis, d = tisD ts ∧ (1 ≤ ts.length ∧ ts.length ≤ 16) ∧ ∀ t ∈ ts, InP m t ∧ (u = true → t.1 ≠ t.2) := by
  constructor
  · intro h
    cases d with
    | tup xs =>
      rw [areTiesB, Bool.and_eq_true, Bool.and_eq_true] at h
      obtain ⟨ts, rfl, h2⟩ := all_ties h.2
      have a := of_decide_eq_true h.1.1
      have b := of_decide_eq_true h.1.2
      rw [List.length_map] at a b
      exact ⟨ts, rfl, ⟨by omega, by omega⟩, h2⟩
    | _ => cases h
  · rintro ⟨ts, rfl, ⟨h1, h2⟩, h3⟩
    unfold tisD areTiesB
    dsimp only
    rw [List.length_map, decide_eq_true (show (1 : Int) ≤ ts.length by omega), decide_eq_true (show (ts.length : Int) ≤ 16 by omega), Bool.true_and, Bool.true_and]
    refine List.all_eq_true.mpr fun d hd => ?_
    obtain ⟨x, hx, rfl⟩ := List.mem_map.mp hd
    exact tieB_of (h3 x hx).1 (h3 x hx).2
theorem webB_iff {n : Int} {xs : List D} (hn : 3 ≤ n) : webB n xs = true ↔ ∃ w m ts r, xs = w :: .int m :: tisD ts :: r ∧ (r.length : Int) = n - 3 ∧ Web m ts := by
  constructor
  · intro h
    unfold webB at h
    rw [Bool.and_eq_true, Bool.and_eq_true] at h
    have hl := of_decide_eq_true h.1
    match xs, hl with
    | a :: b :: c :: r, hl =>
      obtain ⟨m, hb, h1, h2⟩ := withinB_iff.mp (show withinB 2 10 b = true from h.2.1)
      subst hb
      obtain ⟨ts, hc, h3, h4⟩ := areTiesB_iff.mp (show areTiesB m true c = true from h.2.2)
      subst hc
      simp at hl
      exact ⟨a, m, ts, r, rfl, by omega, h1, h2, h3.1, h3.2, fun t ht => ⟨(h4 t ht).1.1, (h4 t ht).1.2.1, (h4 t ht).1.2.2.1, (h4 t ht).1.2.2.2, (h4 t ht).2 rfl⟩⟩
    | [], hl => simp at hl; omega
    | [_], hl => simp at hl; omega
    | [_, _], hl => simp at hl; omega
  · rintro ⟨w, m, ts, r, rfl, hr, hw⟩
    unfold webB
    rw [show itm (w :: .int m :: tisD ts :: r) 1 = .int m from rfl, show itm (w :: .int m :: tisD ts :: r) 2 = tisD ts from rfl, within_of hw.m2 hw.m10, decide_eq_true (show ((w :: .int m :: tisD ts :: r : List D).length : Int) = n by simp; omega)]
    rw [show areTiesB (numOf (.int m)) true (tisD ts) = true from areTiesB_iff.mpr ⟨ts, rfl, ⟨hw.l1, hw.l16⟩, fun t ht => by have := hw.tie t ht; exact ⟨⟨this.1, this.2.1, this.2.2.1, this.2.2.2.1⟩, fun _ => this.2.2.2.2⟩⟩]
    rfl
theorem shp_of {d : D} (h : shapeB d = true) : ∃ s : Shp, d = s.d ∧ s.Ok := by
  cases d with
  | tup xs =>
    cases xs with
    | nil => cases h
    | cons w xs =>
      replace h : kindB w (w :: xs) = true := h
      cases w with
      | str w =>
        unfold kindB at h
        dsimp only at h
        split at h
        · rename_i e
          subst e
          unfold wayB at h
          rw [Bool.and_eq_true, Bool.and_eq_true] at h
          obtain ⟨w', m, ts, r, e, hr, hw⟩ := (webB_iff (by decide)).mp h.1
          cases e
          obtain ⟨ns, en, hl, hn⟩ := areWithinB_iff.mp h.2.1
          have en' : r = ns.map D.int := by injection en
          match ns, hl with
          | [b, e], _ =>
            subst en'
            have hb := hn b (by simp)
            have he := hn e (by simp)
            have hm : numOf (itm (D.str (PySem.Str.ofString "way") :: D.int m :: tisD ts :: [b, e].map D.int) 1) = m := rfl
            rw [hm] at hb he
            have hne := h.2.2
            refine ⟨.way m ts b e, rfl, hw, ⟨hb.1, by omega⟩, ⟨he.1, by omega⟩, fun z => ?_⟩
            subst z
            have : eqD (itm (D.str (PySem.Str.ofString "way") :: D.int m :: tisD ts :: [b, b].map D.int) 3) (itm (D.str (PySem.Str.ofString "way") :: D.int m :: tisD ts :: [b, b].map D.int) 4) = true := by
              show eqD (.int b) (.int b) = true
              rw [eqD_int]; simp
            rw [this] at hne
            cases hne
          | [], hl => exact absurd hl (by decide)
          | [_], hl => simp at hl
          | _ :: _ :: _ :: _, hl => simp at hl; omega
        · split at h
          · rename_i e
            subst e
            obtain ⟨w', m, ts, r, e, hr, hw⟩ := (webB_iff (by decide)).mp h
            cases e
            have : r = [] := by cases r with | nil => rfl | cons _ _ => simp at hr; omega
            subst this
            exact ⟨.tree m ts, rfl, hw⟩
          · split at h
            · rename_i e
              subst e
              unfold streamB at h
              split at h
              · rename_i w' m ts r n e
                cases e
                rw [Bool.and_eq_true, Bool.and_eq_true, Bool.and_eq_true] at h
                obtain ⟨w', m', ts', r', e, hr, hw⟩ := (webB_iff (by decide)).mp h.1
                cases e
                obtain ⟨rs, e1, l1, b1⟩ := areWithinB_iff.mp h.2.1
                obtain ⟨ns, e2, l2, b2⟩ := areWithinB_iff.mp h.2.2.1
                subst e1 e2
                have hs := of_decide_eq_true h.2.2.2
                refine ⟨.stream m ts' rs ns, rfl, hw, by rw [List.length_map] at l1; omega, b1, l2, b2, ?_⟩
                have : ((ns.map D.int).map numOf).sum = 0 := hs
                rwa [List.map_map, show (numOf ∘ D.int) = id from rfl, List.map_id] at this
              · cases h
            · unfold restB at h
              dsimp only at h
              split at h
              · rename_i e
                subst e
                unfold pairB at h
                split at h
                · rename_i w' m t e
                  cases e
                  rw [Bool.and_eq_true] at h
                  obtain ⟨i, ei, h1, h2⟩ := withinB_iff.mp h.1
                  cases ei
                  obtain ⟨ts, rfl, h3, h4⟩ := areTiesB_iff.mp h.2
                  exact ⟨.pair m ts, rfl, ⟨h1, h2⟩, h3, fun t ht => (h4 t ht).1⟩
                · cases h
              · split at h
                · rename_i e
                  subst e
                  unfold dealB at h
                  split at h
                  · rename_i w' rs v e
                    cases e
                    rw [Bool.and_eq_true, Bool.and_eq_true, Bool.and_eq_true, Bool.and_eq_true] at h
                    obtain ⟨ns, en, l1, b1⟩ := areWithinB_iff.mp h.2.1
                    have en' : rs = ns.map D.int := by injection en
                    subst en'
                    obtain ⟨i, ei, h1, h2⟩ := withinB_iff.mp h.2.2.1
                    cases ei
                    have a := of_decide_eq_true h.1.1
                    have b := of_decide_eq_true h.1.2
                    have c := of_decide_eq_true h.2.2.2
                    rw [List.length_map] at a b c
                    exact ⟨.deal ns v, rfl, ⟨by omega, by omega⟩, b1, ⟨h1, h2⟩, c⟩
                  · cases h
                · split at h
                  · rename_i e
                    subst e
                    unfold benchB at h
                    split at h
                    · rename_i w' ls e
                      cases e
                      rw [Bool.and_eq_true, Bool.and_eq_true] at h
                      obtain ⟨ns, en, l1, b1⟩ := areWithinB_iff.mp h.2
                      have en' : ls = ns.map D.int := by injection en
                      subst en'
                      have a := of_decide_eq_true h.1.1
                      have b := of_decide_eq_true h.1.2
                      rw [List.length_map] at a b
                      exact ⟨.bench ns, rfl, ⟨by omega, by omega⟩, b1⟩
                    · cases h
                  · cases h
      | _ => cases h
  | _ => cases h
theorem shapeI_items {s : Shp} {n : Int} (h : ShapeI s.d n) : n = s.items := by
  rcases h with ⟨w, m, ts, r, e, hw, rfl⟩ | ⟨rs, v, e, _, _, _, rfl⟩ | ⟨ls, e, rfl⟩
  · cases s with
    | way m ts b e' => cases e; show (((ts.map fr).length : Nat) : Int) = ts.length; rw [List.length_map]
    | tree m ts => cases e; show (((ts.map fr).length : Nat) : Int) = ts.length; rw [List.length_map]
    | pair m ts => cases e; show (((ts.map fr).length : Nat) : Int) = ts.length; rw [List.length_map]
    | stream m ts rs ns => cases e; show (((ts.map fr).length : Nat) : Int) = ts.length; rw [List.length_map]
    | deal rs v => cases e
    | bench ls => cases e
  · cases s with
    | deal rs v => cases e; show (((rs.map D.int).length : Nat) : Int) * v = rs.length * v; rw [List.length_map]
    | _ =>
      exfalso
      injection e with e
      injection e with e1 e2
      injection e1 with e1
      dsimp only [Shp.word] at e1
      revert e1
      decide +kernel
  · cases s with
    | bench ls => cases e; show (((ls.map D.int).length : Nat) : Int) = ls.length; rw [List.length_map]
    | _ =>
      exfalso
      injection e with e
      injection e with e1 e2
      injection e1 with e1
      dsimp only [Shp.word] at e1
      revert e1
      decide +kernel
theorem Wish.shp {d : D} {ns : List Int} (h : Wish d ns) : ∃ s : Shp, d = s.d ∧ s.Ok ∧ s.items = ns.length := by
  have f := h.facts
  obtain ⟨s, rfl, ok⟩ := shp_of f.shape
  exact ⟨s, rfl, ok, (shapeI_items f.items).symm⟩
theorem tiesD_tis {F : List ((Int × Int) × Int)} : tiesD F = tisD (F.map (·.1)) := by
  unfold tiesD tisD
  rw [List.map_map]
  rfl
theorem tisD_inj {a b : Tis} (h : tisD a = tisD b) : a = b := by
  unfold tisD at h
  injection h with h
  have : ∀ (a b : Tis), a.map fr = b.map fr → a = b := by
    intro a
    induction a with
    | nil => intro b h; cases b with | nil => rfl | cons _ _ => cases h
    | cons x a ih =>
      intro b h
      cases b with
      | nil => cases h
      | cons y b =>
        rw [List.map_cons, List.map_cons] at h
        injection h with h1 h2
        rw [ih b h2]
        obtain ⟨x1, x2⟩ := x
        obtain ⟨y1, y2⟩ := y
        unfold fr at h1
        injection h1 with h1
        injection h1 with e1 h1
        injection h1 with e2 _
        injection e1 with e1
        injection e2 with e2
        dsimp only at e1 e2
        rw [e1, e2]
  exact this a b h
theorem Beside.shp {w w2 : D × List Int} (hw : Wish w.1 w.2) (h : Beside w w2) : ∃ s : Shp, w2.1 = s.d ∧ s.Ok ∧ s.items = w2.2.length := by
  have hl := h.len
  cases h with
  | tree e =>
    rename_i m b e' F ns
    obtain ⟨s, es, ok, it⟩ := Wish.shp hw
    cases s with
    | way m2 ts b2 e2 =>
      have es' : D.tup [.str (PySem.Str.ofString "way"), .int m, tiesD F, .int b, .int e'] = D.tup [.str (PySem.Str.ofString "way"), .int m2, tisD ts, .int b2, .int e2] := es
      rw [tiesD_tis] at es'
      injection es' with es'
      injection es' with _ es'
      injection es' with e3 es'
      injection es' with e4 es'
      injection e3 with e3
      have e5 := tisD_inj e4
      refine ⟨.tree m2 ts, ?_, ok.1, ?_⟩
      · show D.tup [.str (PySem.Str.ofString "tree"), .int m, tiesD F] = D.tup [.str (PySem.Str.ofString "tree"), .int m2, tisD ts]
        rw [tiesD_tis, e3, e5]
      · rw [hl]
        exact it
    | _ =>
      exfalso
      injection es with e
      injection e with e1 e2
      injection e1 with e1
      dsimp only [Shp.word] at e1
      revert e1
      decide +kernel
  | bench hh hl hb => exact Wish.shp (hb.wish (by omega))
theorem WishesOk.shp {ws : List (D × List Int)} (h : WishesOk ws) : ∀ w ∈ ws, ∃ s : Shp, w.1 = s.d ∧ s.Ok ∧ s.items = w.2.length := by
  obtain ⟨w, hw, h⟩ := h
  intro v hv
  rcases h with rfl | ⟨w2, hb, hp⟩
  · rw [List.mem_singleton.mp hv]; exact Wish.shp hw
  · have := hp.mem_iff.mp hv
    simp only [List.mem_cons, List.not_mem_nil, or_false] at this
    rcases this with rfl | rfl
    · exact Wish.shp hw
    · exact hb.shp hw
end NB
set_option Elab.async false
set_option linter.all false
set_option maxRecDepth 100000
set_option maxHeartbeats 2000000
set_option exponentiation.threshold 20000
/-! Tasks multiplied, ordered, placed. -/
local macro_rules | `(tactic| walk_at "r") => `(tactic| simp only [DL.dSeq, DL.dSet, DL.kSet, DL.dCB, DL.kCB, DL.dCons, DL.kCons1, DL.kCons2, DL.dNil, DL.dVar, DL.dC, DL.dOp, DL.kOp1, DL.kOp2, DL.dB, DL.kB, DL.dIf, DL.kIf, DL.dRet, DL.dRetN, DL.dTup, DL.kTup, DL.dLst, DL.kLst, DL.dLstC, DL.kLstC, DL.dCall, DL.kCall, DL.dCallK, DL.kCallK1, DL.kCallK2, DL.dLenIs, DL.kLenIs, DL.dNext, DL.dDrop, DL.kDrop, DL.dPar, DL.kPar, DL.dAug, DL.kAug, DL.dAsg, DL.kAsg, DL.dSetIx, DL.kSetIx1, DL.kSetIx2, DL.kSetIx3, DL.dTru, DL.kTru, DL.dAnd, DL.kAnd, DL.dOr, DL.kOr, DL.dNot, DL.kNot, DL.dAndV, DL.kAndV, DL.dOrV, DL.kOrV, DL.dNotV, DL.kNotV, DL.dIfE, DL.kIfE, DL.dChain, DL.kChain1, DL.kChain2, DL.kChain3_true, DL.kChain3_false, DL.dNeg, DL.kNeg, DL.dFz, DL.kFz, DL.dRaise, DL.dTryAs, DL.suiteE, DL.kUnset, DL.dFor, DL.kFor, DL.dSeqI, DL.kSeqI, DL.dRange1, DL.kRange1, DL.dRange2, DL.kRange2, DL.dLc, DL.kLc, DL.dLcC, DL.kLstD, DL.kNewC, DL.dYes, DL.wipeD, DL.loopD, DL.compD, DL.kItem, DL.kTest_true, DL.kTest_false, DL.putIx_some, DL.setsK_some, DL.turnD_some, DL.turnC_some, DL.ifS_true, DL.ifS_false, DL.ifAnd_true, DL.ifAnd_false, DL.ifOr_true, DL.ifOr_false, DL.ifAndV_true, DL.ifAndV_false, DL.ifOrV_true, DL.ifOrV_false, DL.ifE_true, DL.ifE_false, DL.srcOf, DL.tgN, DL.tgT, DL.tgNil, DL.tgCons, DL.sets, List.foldl_cons, List.foldl_nil, DL.gI, DL.gI0, DL.gAdd, DL.gMul, DL.gIx, DL.gEq, DL.gNe, DL.gIs, DL.gIn, DL.gLen, DL.gAbs, DL.gMax2, DL.gMin2, DL.gAll, DL.gAny, DL.gSum, DL.gList, DL.gListC, DL.gTuple, DL.gIsiC, DL.gIsi, DL.tyN, DL.subN_NoneType_int, DL.subN_NoneType_bool, DL.subN_NoneType_str, DL.subN_NoneType_list, DL.subN_NoneType_tuple, DL.subN_bool_int, DL.subN_bool_bool, DL.subN_bool_str, DL.subN_bool_list, DL.subN_bool_tuple, DL.subN_int_int, DL.subN_int_bool, DL.subN_int_str, DL.subN_int_list, DL.subN_int_tuple, DL.subN_str_int, DL.subN_str_bool, DL.subN_str_str, DL.subN_str_list, DL.subN_str_tuple, DL.subN_list_int, DL.subN_list_bool, DL.subN_list_str, DL.subN_list_list, DL.subN_list_tuple, DL.subN_tuple_int, DL.subN_tuple_bool, DL.subN_tuple_str, DL.subN_tuple_list, DL.subN_tuple_tuple, DL.truD, DL.blsOf, DL.view_non, DL.view_bl, DL.view_int', DL.view_str', DL.view_lst', DL.view_tup', DL.view_scr', DL.ends, DL.kEnd, DL.OptP_some, DL.OptQ_some, DL.OptB_some, DL.OptS_some, List.getElem?_cons_zero, List.getElem?_cons_succ, List.set_cons_zero, List.set_cons_succ, DL.atI_zero, DL.atI_one, DL.atI_two, List.length_cons, List.length_nil, DL.pick, List.filterMap_cons, List.filterMap_nil, List.nil_append, List.cons_append, List.map_cons, List.map_nil, Option.map_some, Option.bind_some, true_and, and_true, Bool.false_eq_true, Bool.not_true, Bool.not_false, Bool.xor_false, Bool.xor_true, Bool.false_xor, Bool.true_xor, decide_true, decide_false, Nat.zero_add, Nat.reduceAdd, not_true_eq_false, not_false_eq_true, DL.eqD_int, DL.eqD_str, DL.eqD_bl, DL.eqD_tup, DL.eqD_lst, DL.eqDs_nil, DL.eqDs_cons, Bool.and_true, Bool.and_false, List.all_cons, List.all_nil, List.any_cons, List.any_nil, Bool.and_self, DL.dM, DL.kM1, DL.kM2, DL.dM0, DL.kM0, DL.gAppend, DL.gInsert, DL.gExtend, DL.gPop1, DL.gPop0, DL.gReverse, DL.gSort, DL.gRemove, DL.gCount, DL.gIndex, DL.dSlG, DL.kSl1, DL.kSl2, DL.kSl3, DL.gSl, DL.gSlC, DL.dNoPart, DL.dPart, DL.kPart, DL.dLR1, DL.kLR1, DL.dLR2, DL.kLR21, DL.kLR22, DL.nLst, DL.gRepC, DL.gCatC, DL.gInt, DL.gSorted, DL.gMaxL, DL.gMinL, DL.dEnum, DL.kEnum, DL.dZip2, DL.kZip2, DL.dZip3, DL.kZip3, DL.OptS2_some, DL.OptS3_some, DL.dRev, DL.kRev, DL.dEmp, DL.view_emp', DL.subN_dict_int, DL.subN_dict_bool, DL.subN_dict_str, DL.subN_dict_list, DL.subN_dict_tuple, DL.cellL_lst, DL.cellL_none, DL.gCountD, DL.gRepr, DL.gEqS, DL.dTryK, DL.keepD, DL.kKeep, DL.kKeepR, DL.dXf])
local macro_rules | `(tactic| simp! only [$xs,*]) => `(tactic| simp only [DL.dSeq, DL.dSet, DL.kSet, DL.dCB, DL.kCB, DL.dCons, DL.kCons1, DL.kCons2, DL.dNil, DL.dVar, DL.dC, DL.dOp, DL.kOp1, DL.kOp2, DL.dB, DL.kB, DL.dIf, DL.kIf, DL.dRet, DL.dRetN, DL.dTup, DL.kTup, DL.dLst, DL.kLst, DL.dLstC, DL.kLstC, DL.dCall, DL.kCall, DL.dCallK, DL.kCallK1, DL.kCallK2, DL.dLenIs, DL.kLenIs, DL.dNext, DL.dDrop, DL.kDrop, DL.dPar, DL.kPar, DL.dAug, DL.kAug, DL.dAsg, DL.kAsg, DL.dSetIx, DL.kSetIx1, DL.kSetIx2, DL.kSetIx3, DL.dTru, DL.kTru, DL.dAnd, DL.kAnd, DL.dOr, DL.kOr, DL.dNot, DL.kNot, DL.dAndV, DL.kAndV, DL.dOrV, DL.kOrV, DL.dNotV, DL.kNotV, DL.dIfE, DL.kIfE, DL.dChain, DL.kChain1, DL.kChain2, DL.kChain3_true, DL.kChain3_false, DL.dNeg, DL.kNeg, DL.dFz, DL.kFz, DL.dRaise, DL.dTryAs, DL.suiteE, DL.kUnset, DL.dFor, DL.kFor, DL.dSeqI, DL.kSeqI, DL.dRange1, DL.kRange1, DL.dRange2, DL.kRange2, DL.dLc, DL.kLc, DL.dLcC, DL.kLstD, DL.kNewC, DL.dYes, DL.wipeD, DL.loopD, DL.compD, DL.kItem, DL.kTest_true, DL.kTest_false, DL.putIx_some, DL.setsK_some, DL.turnD_some, DL.turnC_some, DL.ifS_true, DL.ifS_false, DL.ifAnd_true, DL.ifAnd_false, DL.ifOr_true, DL.ifOr_false, DL.ifAndV_true, DL.ifAndV_false, DL.ifOrV_true, DL.ifOrV_false, DL.ifE_true, DL.ifE_false, DL.srcOf, DL.tgN, DL.tgT, DL.tgNil, DL.tgCons, DL.sets, List.foldl_cons, List.foldl_nil, DL.gI, DL.gI0, DL.gAdd, DL.gMul, DL.gIx, DL.gEq, DL.gNe, DL.gIs, DL.gIn, DL.gLen, DL.gAbs, DL.gMax2, DL.gMin2, DL.gAll, DL.gAny, DL.gSum, DL.gList, DL.gListC, DL.gTuple, DL.gIsiC, DL.gIsi, DL.tyN, DL.subN_NoneType_int, DL.subN_NoneType_bool, DL.subN_NoneType_str, DL.subN_NoneType_list, DL.subN_NoneType_tuple, DL.subN_bool_int, DL.subN_bool_bool, DL.subN_bool_str, DL.subN_bool_list, DL.subN_bool_tuple, DL.subN_int_int, DL.subN_int_bool, DL.subN_int_str, DL.subN_int_list, DL.subN_int_tuple, DL.subN_str_int, DL.subN_str_bool, DL.subN_str_str, DL.subN_str_list, DL.subN_str_tuple, DL.subN_list_int, DL.subN_list_bool, DL.subN_list_str, DL.subN_list_list, DL.subN_list_tuple, DL.subN_tuple_int, DL.subN_tuple_bool, DL.subN_tuple_str, DL.subN_tuple_list, DL.subN_tuple_tuple, DL.truD, DL.blsOf, DL.view_non, DL.view_bl, DL.view_int', DL.view_str', DL.view_lst', DL.view_tup', DL.view_scr', DL.ends, DL.kEnd, DL.OptP_some, DL.OptQ_some, DL.OptB_some, DL.OptS_some, List.getElem?_cons_zero, List.getElem?_cons_succ, List.set_cons_zero, List.set_cons_succ, DL.atI_zero, DL.atI_one, DL.atI_two, List.length_cons, List.length_nil, DL.pick, List.filterMap_cons, List.filterMap_nil, List.nil_append, List.cons_append, List.map_cons, List.map_nil, Option.map_some, Option.bind_some, true_and, and_true, Bool.false_eq_true, Bool.not_true, Bool.not_false, Bool.xor_false, Bool.xor_true, Bool.false_xor, Bool.true_xor, decide_true, decide_false, Nat.zero_add, Nat.reduceAdd, not_true_eq_false, not_false_eq_true, DL.eqD_int, DL.eqD_str, DL.eqD_bl, DL.eqD_tup, DL.eqD_lst, DL.eqDs_nil, DL.eqDs_cons, Bool.and_true, Bool.and_false, List.all_cons, List.all_nil, List.any_cons, List.any_nil, Bool.and_self, DL.dM, DL.kM1, DL.kM2, DL.dM0, DL.kM0, DL.gAppend, DL.gInsert, DL.gExtend, DL.gPop1, DL.gPop0, DL.gReverse, DL.gSort, DL.gRemove, DL.gCount, DL.gIndex, DL.dSlG, DL.kSl1, DL.kSl2, DL.kSl3, DL.gSl, DL.gSlC, DL.dNoPart, DL.dPart, DL.kPart, DL.dLR1, DL.kLR1, DL.dLR2, DL.kLR21, DL.kLR22, DL.nLst, DL.gRepC, DL.gCatC, DL.gInt, DL.gSorted, DL.gMaxL, DL.gMinL, DL.dEnum, DL.kEnum, DL.dZip2, DL.kZip2, DL.dZip3, DL.kZip3, DL.OptS2_some, DL.OptS3_some, DL.dRev, DL.kRev, DL.dEmp, DL.view_emp', DL.subN_dict_int, DL.subN_dict_bool, DL.subN_dict_str, DL.subN_dict_list, DL.subN_dict_tuple, DL.cellL_lst, DL.cellL_none, DL.gCountD, DL.gRepr, DL.gEqS, DL.dTryK, DL.keepD, DL.kKeep, DL.kKeepR, DL.dXf, $xs,*])
namespace NB
open PySem PySem.Spec L2 DL Fr
def fracB : D → Bool
  | .tup [.int a, .int b] => decide (1 ≤ b) && decide (gcdI a b = 1)
  | _ => false
def Row0 (d : D) : Prop := plainD d = true ∧ ∀ xs, d = .tup xs → ∀ x ∈ xs, plainD x = true
def c_is_fraction : Ct := fun ds μ Q _ => ∃ d, ds = [d] ∧ Row0 d ∧ Q (.bl (fracB d)) μ
def t_is_fraction : DTS :=
  (dSeq (dIf (dOr (dNot (dTru (dCB (gIsiC "tuple") (dCons (dVar 0) (dCons (dC (.raw (.ty "tuple"))) dNil))))) (dOr (dB (dOp gNe (dCB gLen (dCons (dVar 0) dNil)) (dC (.int 2)))) (dOr (dNot (dTru (dCall c_is_whole (dCons (dOp gIx (dVar 0) (dC (.int 0))) dNil)))) (dNot (dTru (dCall c_is_whole (dCons (dOp gIx (dVar 0) (dC (.int 1))) dNil))))))) (dRet (dC (.bl false))) dNext)
    (dRet (dAndV (dOp gGe (dOp gIx (dVar 0) (dC (.int 1))) (dC (.int 1))) (dOp gEq (dCall c_shared (dCons (dOp gIx (dVar 0) (dC (.int 0))) (dCons (dOp gIx (dVar 0) (dC (.int 1))) dNil))) (dC (.int 1))))))
theorem hb_is_fraction : HB c_is_fraction t_is_fraction 1 := by
  intro ds μ Q X h
  obtain ⟨d, rfl, ⟨hp, hx⟩, q⟩ := h
  show t_is_fraction (ends Q XF) [some d] μ
  cases d with
  | raw _ => cases hp
  | scr _ => cases hp
  | key _ => cases hp
  | tup xs =>
    have hx := hx xs rfl
    simp! only [t_is_fraction]
    refine ⟨rfl, rfl, ifOr_of (fun h => ?_) (fun h => ?_)⟩
    · have h' : ¬ (xs.length : Int) = 2 := by simpa using h
      have e : fracB (.tup xs) = false := by
        unfold fracB
        split
        · rename_i e; cases e; exact absurd rfl h'
        · rfl
      rw [e] at q
      walk_at "r"
      exact .of q
    · have h' : (xs.length : Int) = 2 := by simpa using h
      obtain ⟨a, b, rfl⟩ := len2 h'
      walk_at "r"
      refine ⟨a, rfl, hx a (by simp), ?_⟩
      cases a with
      | int x =>
        simp! only [wholeB]
        refine ⟨b, rfl, hx b (by simp), ?_⟩
        cases b with
        | int y =>
          simp! only [wholeB]
          refine ifAndV_of (fun h1 => ?_) (fun h1 => ?_)
          · rw [fracB, h1, Bool.true_and] at q
            walk_at "r"
            refine ⟨_, _, rfl, ?_⟩
            walk_at "r"
            exact ⟨rfl, rfl, .of q⟩
          · rw [fracB, h1] at q
            exact .of q
        | _ =>
          simp! only [wholeB]
          exact .of q
      | _ =>
        simp! only [wholeB]
        exact .of q
  | _ =>
    simp! only [t_is_fraction]
    exact .of q
theorem fracB_iff {d : D} : fracB d = true ↔ ∃ f : Fc, d = fr f ∧ 1 ≤ f.2 ∧ Nat.gcd f.1.natAbs f.2.natAbs = 1 := by
  constructor
  · intro h
    unfold fracB at h
    split at h
    · rename_i a b
      rw [Bool.and_eq_true] at h
      have h2 := of_decide_eq_true h.2
      unfold gcdI at h2
      exact ⟨(a, b), rfl, of_decide_eq_true h.1, by show Nat.gcd a.natAbs b.natAbs = 1; omega⟩
    · cases h
  · rintro ⟨f, rfl, h1, h2⟩
    show (decide (1 ≤ f.2) && decide (gcdI f.1 f.2 = 1)) = true
    rw [decide_eq_true h1]
    unfold gcdI
    rw [h2]
    rfl
structure TaskP (t : Task) : Prop where
  n1 : 1 ≤ t.prices.length
  n2 : t.prices.length ≤ 16
  pr : ∀ f ∈ t.prices, Ok 300 f
  w1 : 1 ≤ t.wishes.length
  wl : t.wishes.length ≤ 4
  ws : ∀ w ∈ t.wishes, w.2.length = t.prices.length ∧ ∃ s : Shp, w.1 = s.d ∧ s.Ok ∧ s.items = w.2.length
  bl : t.bounds.length = t.prices.length
  bd : ∀ b ∈ t.bounds, (∀ f, b.1 = some f → Ok 300 f) ∧ (∀ f, b.2 = some f → Ok 300 f)
  gl : t.weights.length = t.prices.length
theorem TaskOk.p {t : Task} (h : TaskOk t) : TaskP t where
  n1 := h.n1
  n2 := h.n2
  pr := fun f hf => (h.pr f hf).mono (by decide)
  w1 := by obtain ⟨n, f⟩ := h.ws.facts; exact List.length_pos_iff.mpr f.ne
  wl := by obtain ⟨n, f⟩ := h.ws.facts; have := f.l2; omega
  ws := fun w hw => ⟨h.pl w hw, h.ws.shp w hw⟩
  bl := h.bd.1
  bd := fun b hb => by
    obtain ⟨f, hf, k⟩ := h.bd.mem hb
    exact ⟨fun g e => (k.lo g e).1.mono (by decide), fun g e => (k.hi g e).1.mono (by decide)⟩
  gl := h.wl
/-! ### orders -/
/-! ### places called otherwise -/
def Shp.many : Shp → Int
  | .way m _ _ _ => m
  | .tree m _ => m
  | .pair m _ => m
  | .stream m _ _ _ => m
  | _ => 0
end NB
set_option Elab.async false
set_option linter.all false
set_option maxRecDepth 100000
set_option maxHeartbeats 2000000
/-! Data seen through cells: a whole expression reckoned with all cells lent out; deep freezing. -/
namespace DL
open PySem PySem.Spec L2
mutual
/-- d, seen through the cells that are in μ and not in μ2 -/
inductive DV (μ μ2 : M) : D → D → Prop
  | same (d : D) : DV μ μ2 d d
  | cel {p : Addr} {ds es : List D} : μ p = some (.lst ds) → μ2 p = none → DVA μ μ2 ds es → DV μ μ2 (.raw (.ref p)) (.lst es)
  | lst {ds es : List D} : DVA μ μ2 ds es → DV μ μ2 (.lst ds) (.lst es)
  | tup {ds es : List D} : DVA μ μ2 ds es → DV μ μ2 (.tup ds) (.tup es)
inductive DVA (μ μ2 : M) : List D → List D → Prop
  | nil : DVA μ μ2 [] []
  | cons {d e : D} {ds es : List D} : DV μ μ2 d e → DVA μ μ2 ds es → DVA μ μ2 (d :: ds) (e :: es)
end
theorem DVA.same {μ μ2 : M} : ∀ ds : List D, DVA μ μ2 ds ds
  | [] => .nil
  | d :: ds => .cons (.same d) (DVA.same ds)
section
variable {K : PySem.W.Frag} {H Hc Hc2 : Hp} {μ μ2 : M}
mutual
theorem DV.rep (s : Split K H Hc μ) (e2 : Same Hc Hc2) (hh : ∀ p, μ2 p = none → Hc2 p = H p) : ∀ {d e : D} {v : V}, DV μ μ2 d e → Rep K Hc v d → Rep K Hc2 v e
  | _, _, _, .same d, r => r.mono e2
  | _, _, v, .cel (p := p) hp hn va, r => by
    cases r with
    | raw =>
      obtain ⟨_, o, ho, vs, rfl, ra⟩ := s.cell p _ hp
      exact .lst (by rw [hh p hn]; exact ho) (DVA.rep s e2 hh va ra)
  | _, _, v, .lst va, r => by
    cases r with
    | lst h ra => exact .lst (e2 _ _ h) (DVA.rep s e2 hh va ra)
  | _, _, v, .tup va, r => by
    cases r with
    | tup h ra => exact .tup (same_t e2 h) (DVA.rep s e2 hh va ra)
theorem DVA.rep (s : Split K H Hc μ) (e2 : Same Hc Hc2) (hh : ∀ p, μ2 p = none → Hc2 p = H p) : ∀ {ds es : List D} {vs : List V}, DVA μ μ2 ds es → RepA K Hc vs ds → RepA K Hc2 vs es
  | _, _, _, .nil, r => by cases r; exact .nil
  | _, _, _, .cons a va, r => by
    cases r with
    | cons x ra => exact .cons (DV.rep s e2 hh a x) (DVA.rep s e2 hh va ra)
end
end
def noM : M := fun _ => none
def flD : D → Bool
  | .non | .bl _ | .int _ | .str _ => true
  | _ => false
def flF : Option (List (Str × D)) → Bool
  | none => true
  | some fs => fs.all fun p => flD p.2
/-- some slots seen through all cells -/
def seeS (μ : M) : List Nat → Sl → (Sl → Prop) → Prop
  | [], δ, P => P δ
  | i :: is, δ, P => ∃ d e, δ[i]? = some (some d) ∧ DV μ noM d e ∧ seeS μ is (δ.set i (some e)) P
def kBor (Q : QD) (μ : M) (d : D) (μ' : M) : Prop := flD d = true ∧ μ' = noM ∧ Q d μ
def xBor (W : XD) (μ : M) : XD := fun cls fs μ' => flF fs = true ∧ μ' = noM ∧ W cls fs μ
def kSee (t : DTE) (W : XD) (μ : M) (Q : QD) (δ : Sl) : Prop := t (xBor W μ) δ noM (kBor Q μ)
/-- an expression reckoned with all cells lent out as data -/
def dBor (is : List Nat) (t : DTE) (W : XD) (δ : Sl) (μ : M) (Q : QD) : Prop := seeS μ is δ (kSee t W μ Q)
theorem seeS.rep {K : PySem.W.Frag} {H Hc Hc2 : Hp} {μ : M} (s : Split K H Hc μ) (e2 : Same Hc Hc2) (hh : ∀ p, noM p = none → Hc2 p = H p) {P : Sl → Prop} : ∀ {is : List Nat} {δ δ0 : Sl} {σ : L2.St}, seeS μ is δ P → RepS K Hc σ δ0 → RepS K Hc2 σ δ → (∀ i ∈ is, δ[i]? = δ0[i]? ∨ True) → (∀ i d, δ[i]? = some (some d) → δ0[i]? = some (some d) ∨ i ∉ is) → is.Nodup → ∃ δ', P δ' ∧ RepS K Hc2 σ δ' := by
  intro is
  induction is with
  | nil => intro δ δ0 σ h r0 r _ _ _; exact ⟨δ, h, r⟩
  | cons i is ih =>
    rintro δ δ0 σ ⟨d, e, hd, v, h⟩ r0 r hx hy hnd
    have h0 : δ0[i]? = some (some d) := (hy i d hd).resolve_right fun z => z List.mem_cons_self
    obtain ⟨u, hu, ru⟩ := r0.val i d h0
    have re := v.rep s e2 hh ru
    have r2 := r.set i re
    have eσ : σ.set i (some u) = σ := by
      obtain ⟨hi, e⟩ := List.getElem?_eq_some_iff.mp hu
      rw [← e, List.set_getElem_self]
    rw [eσ] at r2
    refine ih (δ0 := δ0) h r0 r2 (fun _ _ => .inr trivial) (fun j d' hj => ?_) (List.nodup_cons.mp hnd).2
    by_cases hji : i = j
    · subst hji
      exact .inr (List.nodup_cons.mp hnd).1
    · rw [List.getElem?_set_ne hji] at hj
      rcases hy j d' hj with z | z
      · exact .inl z
      · exact .inr fun w => z (List.mem_cons_of_mem _ w)
section
variable {X : Cx} {W : WX} {e : Expr} {te : DTE}
/-- cells within become data -/
def kFzD (Q : QD) (d : D) (μ : M) : Prop := ∃ μ2 e, Sub μ2 μ ∧ DV μ μ2 d e ∧ Q e μ2
def dFzD (t : DTE) (W : XD) (δ : Sl) (μ : M) (Q : QD) : Prop := t W δ μ (kFzD Q)
theorem de_fzD (h : DE X W e te) : DE X W e (dFzD te) := PE.imp h fun σ H Q ⟨δ, μ, Hc, Qd, Xd, s, rs, h, rt, rx⟩ => ⟨δ, μ, Hc, _, Xd, s, rs, h, fun d μ1 h1 v H1 Hc1 e1 s1 r1 => by
  obtain ⟨μ2, e, sb, v, q⟩ := h1
  obtain ⟨Hc2, e2, s2, hh⟩ := s1.sub sb
  exact rt _ _ q _ _ Hc2 (e1.trans e2) s2 (v.rep s1 e2 hh r1), rx⟩
end
/-! list.clear; what is never reached -/
end DL
set_option Elab.async false
set_option linter.all false
set_option maxRecDepth 100000
set_option maxHeartbeats 2000000
set_option exponentiation.threshold 20000
/-! What is told of sheets is looked at: the program's lets_most. -/
namespace NBD
open PySem PySem.Spec L2 DL Fr NB
def TellsB (P : Prop) (Q : QD) (μ : M) : Prop := ∀ b : Bool, (b = true ↔ P) → Q (.bl b) μ
/-- sheets that are small -/
structure ShS (gs : List Fc) (cols : List (List Fc)) (rs : List Fc) : Prop where
  l : gs.length = cols.length
  l1 : cols.length ≤ 14
  l2 : rs.length ≤ 14
  c : ∀ c ∈ cols, c.length = rs.length
  og : ∀ f ∈ gs, Ok 10 f
  oc : ∀ c ∈ cols, ∀ f ∈ c, Ok 10 f
  or : ∀ f ∈ rs, Ok 10 f
def c_worth : Ct := fun ds μ Q _ => ∃ (xs ys : List Fc), ds = [.lst (xs.map fr), .lst (ys.map fr)] ∧ xs.length ≤ 14 ∧ (∀ f ∈ xs, Ok 10 f) ∧ (∀ f ∈ ys, Ok 150 f) ∧ ∀ f, Ok 2300 f → Fr.q f = wQ xs ys → Q (fr f) μ
/-- a list of so many fractions from nought on -/
structure ShD (n : Nat) (d : D) (xs : List Fc) : Prop where
  e : d = .lst (xs.map fr)
  l : xs.length = n
  p : ∀ f ∈ xs, 1 ≤ f.2 ∧ gcdI f.1 f.2 = 1 ∧ 0 ≤ f.1
/-- a part of a thing: its fractions are small -/
structure PtOk (d : D) : Prop where
  p : plainD d = true
  s : ∀ w, d = .str w → PyData.strOk w = true
  r : ∀ xs, d = .lst xs → xs.length ≤ 100 ∧ ∀ x ∈ xs, Row0 x ∧ ∀ f, x = fr f → 1 ≤ f.2 → gcdI f.1 f.2 = 1 → Ok 150 f
def c_areshares : Ct := fun ds μ Q _ => ∃ (d : D) (n : Nat), ds = [d, .int n] ∧ PtOk d ∧ TellsB (∃ xs, ShD n d xs) Q μ
def c_cometo : Ct := fun ds μ Q _ => ∃ (cols : List (List Fc)) (xs : List Fc) (j : Nat), ds = [.lst (cols.map colD), .lst (xs.map fr), .int j] ∧ cols.length ≤ 14 ∧ (∀ c ∈ cols, j < c.length ∧ ∀ f ∈ c, Ok 10 f) ∧ (∀ f ∈ xs, Ok 150 f) ∧ ∀ f, Ok 2300 f → Fr.q f = wQ (cols.map fun c => c.getD j Z) xs → Q (fr f) μ
def c_fit : Ct := fun ds μ Q _ => ∃ (cols : List (List Fc)) (xs rs : List Fc), ds = [.lst (cols.map colD), .lst (xs.map fr), .lst (rs.map fr)] ∧ cols.length ≤ 14 ∧ rs.length ≤ 14 ∧ (∀ c ∈ cols, c.length = rs.length ∧ ∀ f ∈ c, Ok 10 f) ∧ (∀ f ∈ xs, Ok 150 f) ∧ (∀ f ∈ rs, Ok 10 f) ∧ TellsB (FitQ cols xs rs) Q μ
def c_ismost : Ct := fun ds μ Q _ => ∃ (gs : List Fc) (cols : List (List Fc)) (rs : List Fc) (d1 d2 : D), ds = [sheetD gs cols rs, d1, d2] ∧ ShS gs cols rs ∧ PtOk d1 ∧ PtOk d2 ∧ TellsB (∃ xs ys, ShD cols.length d1 xs ∧ ShD rs.length d2 ys ∧ MostQ gs cols rs xs ys) Q μ
def c_isendless : Ct := fun ds μ Q _ => ∃ (gs : List Fc) (cols : List (List Fc)) (rs : List Fc) (d : D), ds = [sheetD gs cols rs, d] ∧ ShS gs cols rs ∧ PtOk d ∧ TellsB (∃ xs, ShD cols.length d xs ∧ EndQ gs cols rs.length xs) Q μ
/-- a thing that may be told of a sheet -/
structure ThOk (d : D) : Prop where
  p : plainD d = true
  r : ∀ xs, d = .tup xs → xs.length ≤ 10 ∧ ∀ x ∈ xs, PtOk x
def Lets (gs : List Fc) (cols : List (List Fc)) (rs : List Fc) (d : D) : Prop :=
  (∃ d1 d2 xs ys, d = .tup [.str (PySem.Str.ofString "most"), d1, d2] ∧ ShD cols.length d1 xs ∧ ShD rs.length d2 ys ∧ MostQ gs cols rs xs ys) ∨ ∃ d1 xs, d = .tup [.str (PySem.Str.ofString "endless"), d1] ∧ ShD cols.length d1 xs ∧ EndQ gs cols rs.length xs
def c_letsmost : Ct := fun ds μ Q _ => ∃ (gs : List Fc) (cols : List (List Fc)) (rs : List Fc) (d : D), ds = [sheetD gs cols rs, d] ∧ ShS gs cols rs ∧ ThOk d ∧ TellsB (Lets gs cols rs d) Q μ
def t_worth : DTS :=
  (dSeq (dSet 2 (dC k_NOUGHT))
    (dSeq (dFor (dZip2 (dCons (dVar 0) (dCons (dVar 1) dNil))) (tgT (tgCons (tgN 3) (tgCons (tgN 4) tgNil))) (dIf (dAnd (dB (dOp gNe (dOp gIx (dVar 3) (dC (.int 0))) (dC (.int 0)))) (dB (dOp gNe (dOp gIx (dVar 4) (dC (.int 0))) (dC (.int 0))))) (dSet 2 (dCall c_plus (dCons (dVar 2) (dCons (dCall c_times (dCons (dVar 3) (dCons (dVar 4) dNil))) dNil)))) dNext))
    (dRet (dVar 2))))
def t_are_shares : DTS :=
  (dSeq (dIf (dOr (dNot (dTru (dCB (gIsiC "list") (dCons (dVar 0) (dCons (dC (.raw (.ty "list"))) dNil))))) (dB (dOp gNe (dCB gLen (dCons (dVar 0) dNil)) (dVar 1)))) (dRet (dC (.bl false))) dNext)
    (dRet (dCB gAll (dCons (dLc (dSeqI (dVar 0)) (tgN 2) dYes (dAndV (dCall c_is_fraction (dCons (dVar 2) dNil)) (dOp gGe (dOp gIx (dVar 2) (dC (.int 0))) (dC (.int 0)))) [2]) dNil))))
def t_come_to_at : DTS :=
  (dRet (dCall c_worth (dCons (dLc (dSeqI (dVar 0)) (tgN 3) dYes (dOp gIx (dVar 3) (dVar 2)) [3]) (dCons (dVar 1) dNil))))
def t_fit : DTS :=
  (dRet (dCB gAll (dCons (dLc (dEnum (dCons (dVar 2) dNil)) (tgT (tgCons (tgN 3) (tgCons (tgN 4) tgNil))) dYes (dNotV (dCall c_under (dCons (dVar 4) (dCons (dCall c_cometo (dCons (dVar 0) (dCons (dVar 1) (dCons (dVar 3) dNil)))) dNil)))) [3, 4]) dNil)))
def t_is_most : DTS :=
  (dSeq (dAsg (dVar 0) (tgT (tgCons (tgN 3) (tgCons (tgN 4) (tgCons (tgN 5) tgNil)))))
    (dSeq (dIf (dOr (dNot (dTru (dCall c_areshares (dCons (dVar 1) (dCons (dCB gLen (dCons (dVar 4) dNil)) dNil))))) (dOr (dNot (dTru (dCall c_areshares (dCons (dVar 2) (dCons (dCB gLen (dCons (dVar 5) dNil)) dNil))))) (dNot (dTru (dCall c_fit (dCons (dVar 4) (dCons (dVar 1) (dCons (dVar 5) dNil)))))))) (dRet (dC (.bl false))) dNext)
    (dSeq (dIf (dNot (dTru (dCB gAll (dCons (dLc (dZip2 (dCons (dVar 4) (dCons (dVar 3) dNil))) (tgT (tgCons (tgN 6) (tgCons (tgN 7) tgNil))) dYes (dNotV (dCall c_under (dCons (dCall c_worth (dCons (dVar 6) (dCons (dVar 2) dNil))) (dCons (dVar 7) dNil)))) [6, 7]) dNil)))) (dRet (dC (.bl false))) dNext)
    (dRet (dOp gEq (dCall c_worth (dCons (dVar 5) (dCons (dVar 2) dNil))) (dCall c_worth (dCons (dVar 3) (dCons (dVar 1) dNil))))))))
def t_is_endless : DTS :=
  (dSeq (dAsg (dVar 0) (tgT (tgCons (tgN 2) (tgCons (tgN 3) (tgCons (tgN 4) tgNil)))))
    (dSeq (dIf (dOr (dNot (dTru (dCall c_areshares (dCons (dVar 1) (dCons (dCB gLen (dCons (dVar 3) dNil)) dNil))))) (dNot (dTru (dCall c_fit (dCons (dVar 3) (dCons (dVar 1) (dCons (dOp gMul (dLst (dCons (dC k_NOUGHT) dNil)) (dCB gLen (dCons (dVar 4) dNil))) dNil))))))) (dRet (dC (.bl false))) dNext)
    (dRet (dCall c_under (dCons (dC k_NOUGHT) (dCons (dCall c_worth (dCons (dVar 2) (dCons (dVar 1) dNil))) dNil))))))
def t_lets_most : DTS :=
  (dSeq (dIf (dOr (dNot (dTru (dCB (gIsiC "tuple") (dCons (dVar 1) (dCons (dC (.raw (.ty "tuple"))) dNil))))) (dOr (dNot (dB (dChain gLe gLe (dC (.int 2)) (dCB gLen (dCons (dVar 1) dNil)) (dC (.int 3))))) (dNot (dTru (dCB (gIsiC "str") (dCons (dOp gIx (dVar 1) (dC (.int 0))) (dCons (dC (.raw (.ty "str"))) dNil))))))) (dRet (dC (.bl false))) dNext)
    (dSeq (dIf (dB (dOp gEq (dOp gIx (dVar 1) (dC (.int 0))) (dC (.str (PySem.Str.ofString "most"))))) (dRet (dAndV (dOp gEq (dCB gLen (dCons (dVar 1) dNil)) (dC (.int 3))) (dCall c_ismost (dCons (dVar 0) (dCons (dOp gIx (dVar 1) (dC (.int 1))) (dCons (dOp gIx (dVar 1) (dC (.int 2))) dNil)))))) dNext)
    (dRet (dAndV (dOp gEq (dOp gIx (dVar 1) (dC (.int 0))) (dC (.str (PySem.Str.ofString "endless")))) (dAndV (dOp gEq (dCB gLen (dCons (dVar 1) dNil)) (dC (.int 2))) (dCall c_isendless (dCons (dVar 0) (dCons (dOp gIx (dVar 1) (dC (.int 1))) dNil))))))))
theorem wQ_zip : ∀ {xs ys : List Fc}, wQ xs ys = ((xs.zip ys).map fun z => Fr.q z.1 * Fr.q z.2).sum
  | [], _ => by simp [wQ]
  | _ :: _, [] => by simp [wQ]
  | x :: xs, y :: ys => by
    rw [wQ, wQ_zip, List.zip_cons_cons, List.map_cons, List.sum_cons]
theorem q_top0 {f : Fc} (h : f.1 = 0) : Fr.q f = 0 := by
  unfold Fr.q
  rw [h, Rat.intCast_zero, Rat.div_def, Rat.zero_mul]
theorem rsum_append {a : List Rat} {x : Rat} : (a ++ [x]).sum = a.sum + x := by
  rw [List.sum_append, List.sum_cons, List.sum_nil, Rat.add_zero]
theorem hb_worth : HB c_worth t_worth 5 := by
  intro ds μ Q X h
  obtain ⟨xs, ys, rfl, hl, hx, hy, q⟩ := h
  show t_worth (ends Q XF) [some (.lst (xs.map fr)), some (.lst (ys.map fr)), none, none, none] μ
  simp! only [t_worth]
  rw [zip_map]
  refine for_pre (fun pre δ μ' => μ' = μ ∧ ∃ (f : Fc) (x3 x4 : Option D), δ = [some (.lst (xs.map fr)), some (.lst (ys.map fr)), some (fr f), x3, x4] ∧ Ok (1 + 161 * pre.length) f ∧ Fr.q f = (pre.map fun z => Fr.q z.1 * Fr.q z.2).sum)
    ⟨rfl, (0, 1), _, _, rfl, ok_nought, q_Z⟩ ?_ ?_
  · rintro pre ⟨a, b⟩ post δ μ' hz ⟨rfl, f, x3, x4, rfl, hf, hq⟩
    have hm : (a, b) ∈ xs.zip ys := by rw [hz]; simp
    have oa := hx a (List.of_mem_zip hm).1
    have ob := hy b (List.of_mem_zip hm).2
    have pl : pre.length ≤ 14 := by
      have := congrArg List.length hz
      rw [List.length_zip, List.length_append] at this
      omega
    have len : (pre ++ [(a, b)]).length = pre.length + 1 := by rw [List.length_append]; rfl
    have om := ok_mul oa ob
    have z0 : a.1 = 0 ∨ b.1 = 0 → Fr.q f = ((pre ++ [(a, b)]).map fun z => Fr.q z.1 * Fr.q z.2).sum := fun h => by
      rw [List.map_append, List.map_cons, List.map_nil, rsum_append, ← hq]
      rcases h with h | h <;> rw [q_top0 h]
      · rw [Rat.zero_mul, Rat.add_zero]
      · rw [Rat.mul_zero, Rat.add_zero]
    refine ⟨trivial, ?_⟩
    by_cases ha : a.1 = 0
    · simp! only [fr, show decide (a.1 = 0) = true from decide_eq_true ha]
      exact ⟨okN_int, okN_int, f, _, _, rfl, hf.mono (by omega), z0 (.inl ha)⟩
    by_cases hb : b.1 = 0
    · simp! only [fr, show decide (a.1 = 0) = false from decide_eq_false ha, show decide (b.1 = 0) = true from decide_eq_true hb]
      exact ⟨okN_int, okN_int, okN_int, okN_int, f, _, _, rfl, hf.mono (by omega), z0 (.inr hb)⟩
    · simp! only [fr, show decide (a.1 = 0) = false from decide_eq_false ha, show decide (b.1 = 0) = false from decide_eq_false hb]
      refine ⟨okN_int, okN_int, okN_int, okN_int, a, b, rfl, NB.Ok.sz oa (by decide), NB.Ok.sz ob (by decide), ?_⟩
      walk_at "r"
      refine ⟨f, mulF a b, rfl, NB.Ok.sz hf (by omega), NB.Ok.sz om (by decide), ?_⟩
      walk_at "r"
      refine ⟨_, _, _, rfl, (ok_add hf om).mono (by omega), ?_⟩
      rw [q_add hf.ne om.ne, q_mul oa.ne ob.ne, List.map_append, List.map_cons, List.map_nil, rsum_append, ← hq]
  · rintro δ μ' ⟨rfl, f, x3, x4, rfl, hf, hq⟩
    refine ⟨trivial, ?_⟩
    walk_at "r"
    refine .of (q f (hf.mono ?_) (by rw [hq, wQ_zip]))
    rw [List.length_zip]
    omega
theorem frac_of {d : D} : fracB d = true ↔ ∃ f : Fc, d = fr f ∧ 1 ≤ f.2 ∧ gcdI f.1 f.2 = 1 := by
  rw [fracB_iff]
  constructor
  · rintro ⟨f, h1, h2, h3⟩
    exact ⟨f, h1, h2, by unfold gcdI; omega⟩
  · rintro ⟨f, h1, h2, h3⟩
    exact ⟨f, h1, h2, by unfold gcdI at h3; omega⟩
def Share (d : D) : Prop := ∃ f : Fc, d = fr f ∧ 1 ≤ f.2 ∧ gcdI f.1 f.2 = 1 ∧ 0 ≤ f.1
theorem fr_inj' {f g : Fc} (h : fr f = fr g) : f = g := by
  unfold fr at h
  injection h with h
  injection h with h1 h2
  injection h2 with h2 _
  injection h1 with h1
  injection h2 with h2
  exact Prod.ext h1 h2
theorem shares_of {n : Nat} {xs : List D} (hl : xs.length = n) : (∃ fs, ShD n (.lst xs) fs) ↔ ∀ x ∈ xs, Share x := by
  constructor
  · rintro ⟨fs, e, l, p⟩ x hx
    injection e with e
    subst e
    obtain ⟨f, hf, rfl⟩ := List.mem_map.mp hx
    obtain ⟨p1, p2, p3⟩ := p f hf
    exact ⟨f, rfl, p1, p2, p3⟩
  · intro h
    have : ∃ fs : List Fc, xs = fs.map fr ∧ ∀ f ∈ fs, 1 ≤ f.2 ∧ gcdI f.1 f.2 = 1 ∧ 0 ≤ f.1 := by
      clear hl
      induction xs with
      | nil => exact ⟨[], rfl, fun f h => by cases h⟩
      | cons x xs ih =>
        obtain ⟨f, rfl, p⟩ := h x List.mem_cons_self
        obtain ⟨fs, rfl, pf⟩ := ih fun y hy => h y (List.mem_cons_of_mem _ hy)
        exact ⟨f :: fs, rfl, fun g hg => by
          rcases List.mem_cons.mp hg with rfl | hg
          · exact p
          · exact pf g hg⟩
    obtain ⟨fs, rfl, p⟩ := this
    exact ⟨fs, rfl, by rw [← hl, List.length_map], p⟩
theorem all_iffB {α : Type} {ws : List α} {p : α → Prop} {_ : DecidablePred p} : ((ws.map fun w => decide (p w)).all fun b => b) = true ↔ ∀ w ∈ ws, p w := by
  rw [List.all_map, List.all_eq_true]
  exact ⟨fun h w hw => of_decide_eq_true (h w hw), fun h w hw => decide_eq_true (h w hw)⟩
theorem hb_are_shares : HB c_areshares t_are_shares 3 := by
  intro ds μ Q X h
  obtain ⟨d, n, rfl, pt, q⟩ := h
  show t_are_shares (ends Q XF) [some d, some (.int n), none] μ
  have sz : 16777216 ≤ sizeLine := by decide
  have pl := pt.p
  have no : (∀ xs, d ≠ .lst xs) → Q (.bl false) μ := fun h => q false ⟨fun e => (by cases e), fun ⟨xs, hx⟩ => (h _ hx.e).elim⟩
  cases d with
  | raw _ => cases pl
  | scr _ => cases pl
  | key _ => cases pl
  | non => simp! only [t_are_shares]; exact .of (no fun xs e => by cases e)
  | bl _ => simp! only [t_are_shares]; exact .of (no fun xs e => by cases e)
  | int _ => simp! only [t_are_shares]; exact .of (no fun xs e => by cases e)
  | str _ => simp! only [t_are_shares]; exact .of (no fun xs e => by cases e)
  | tup _ => simp! only [t_are_shares]; exact .of (no fun xs e => by cases e)
  | emp => simp! only [t_are_shares]; exact .of (no fun xs e => by cases e)
  | lst xs =>
    obtain ⟨hl, hx⟩ := pt.r xs rfl
    classical
    simp! only [t_are_shares]
    refine ⟨okN_int, okN_int, ifS_ndec (fun e => ?_) fun e => ?_⟩
    · walk_at "r"
      refine .of (q false ⟨fun e => (by cases e), fun ⟨fs, h1, h2, _⟩ => ?_⟩)
      injection h1 with h1
      rw [h1, List.length_map] at e
      omega
    · have e : xs.length = n := by omega
      walk_at "r"
      rw [show compJ = compJ from rfl, ← List.map_id xs]
      refine comp_pure (enc := id) (g := fun x => .bl (decide (Share x))) trivial (by omega) (fun x hm acc R ha hR => ?_) ?_
      · obtain ⟨r0, hf⟩ := hx x hm
        simp! only [id]
        refine ⟨x, rfl, r0, ?_⟩
        by_cases fb : fracB x = true
        · obtain ⟨f, rfl, h1, h2⟩ := frac_of.mp fb
          rw [fb]
          simp! only [fr]
          refine ⟨ha, ?_⟩
          have es : decide (f.1 ≥ 0) = decide (Share (fr f)) := decide_eq_decide.mpr ⟨fun h => ⟨f, rfl, h1, h2, h⟩, fun ⟨g, hg, _, _, h⟩ => by rw [fr_inj' hg]; exact h⟩
          rw [es]
          exact hR
        · rw [show fracB x = false by simpa using fb]
          walk_at "r"
          refine ⟨ha, ?_⟩
          have es : decide (Share x) = false := decide_eq_false fun ⟨f, h1, h2, h3, _⟩ => fb (frac_of.mpr ⟨f, h1, h2, h3⟩)
          rw [es] at hR
          exact hR
      · rw [show xs.map (fun x => D.bl (decide (Share x))) = (xs.map fun x => decide (Share x)).map D.bl by rw [List.map_map]; rfl]
        simp! only [blsOf_map]
        exact .of (q _ (all_iffB.trans (shares_of e).symm))
theorem hb_come_to_at : HB c_cometo t_come_to_at 4 := by
  intro ds μ Q X h
  obtain ⟨cols, xs, j, rfl, hl, hc, hx, q⟩ := h
  show t_come_to_at (ends Q XF) [some (.lst (cols.map colD)), some (.lst (xs.map fr)), some (.int j), none] μ
  have sz : 16777216 ≤ sizeLine := by decide
  simp! only [t_come_to_at]
  refine comp_pure (enc := colD) (g := fun c => fr (c.getD j Z)) trivial (by omega) (fun c hm acc R ha hR => ?_) ?_
  · obtain ⟨h1, _⟩ := hc c hm
    have a1 : atI (c.map fr) (j : Int) = some (fr (c.getD j Z)) := by rw [at_map h1, getD_at h1]
    simp! only [colD, a1]
    exact ⟨ha, hR⟩
  · rw [show cols.map (fun c => fr (c.getD j Z)) = (cols.map fun c => c.getD j Z).map fr by rw [List.map_map]; rfl]
    walk_at "r"
    refine ⟨_, xs, rfl, by rw [List.length_map]; exact hl, fun f hf => ?_, hx, fun f h1 h2 => .of (q f h1 h2)⟩
    obtain ⟨c, hm, rfl⟩ := List.mem_map.mp hf
    obtain ⟨h1, h2⟩ := hc c hm
    exact h2 _ (getD_mem h1)
theorem hb_fit : HB c_fit t_fit 5 := by
  intro ds μ Q X h
  obtain ⟨cols, xs, rs, rfl, h1, h2, hc, hx, hr, q⟩ := h
  show t_fit (ends Q XF) [some (.lst (cols.map colD)), some (.lst (xs.map fr)), some (.lst (rs.map fr)), none, none] μ
  have sz : 16777216 ≤ sizeLine := by decide
  classical
  simp! only [t_fit]
  rw [enum_map]
  refine comp_pure (enc := fun p : Fc × Nat => D.tup [.int ((p.2 : Nat) : Int), fr p.1]) (g := fun p => .bl (decide (wQ (cols.map fun c => c.getD p.2 Z) xs ≤ Fr.q p.1))) trivial (by rw [List.length_zipIdx]; omega) (fun p hp acc R ha hR => ?_) ?_
  · obtain ⟨r, i⟩ := p
    have hi := List.mem_zipIdx_iff_getElem?.mp hp
    obtain ⟨h3, h4⟩ := List.getElem?_eq_some_iff.mp hi
    have orr := hr r (List.mem_of_getElem? hi)
    walk_at "r"
    refine ⟨cols, xs, i, rfl, h1, fun c hm => ⟨by rw [(hc c hm).1]; exact h3, (hc c hm).2⟩, hx, fun f of qf => ?_⟩
    walk_at "r"
    refine ⟨r, f, rfl, NB.Ok.sz orr (by decide), NB.Ok.sz of (by decide), ?_⟩
    walk_at "r"
    refine ⟨ha, ?_⟩
    have e : (!decide (r.1 * f.2 < f.1 * r.2)) = decide (wQ (cols.map fun c => c.getD i Z) xs ≤ Fr.q r) := by
      rw [← qf, ← decide_not]
      refine decide_eq_decide.mpr ?_
      rw [q_lt orr.pos of.pos]
      exact Rat.not_lt
    rw [e]
    exact hR
  · rw [show rs.zipIdx.map (fun p : Fc × Nat => D.bl (decide (wQ (cols.map fun c => c.getD p.2 Z) xs ≤ Fr.q p.1))) = (rs.zipIdx.map fun p : Fc × Nat => decide (wQ (cols.map fun c => c.getD p.2 Z) xs ≤ Fr.q p.1)).map D.bl by rw [List.map_map]; rfl]
    simp! only [blsOf_map]
    refine .of (q _ (all_iffB.trans ⟨fun h j hj => ?_, fun h p hp => ?_⟩))
    · have := h (rs[j], j) (List.mem_zipIdx_iff_getElem?.mpr (List.getElem?_eq_getElem hj))
      rw [getD_at hj]
      exact this
    · obtain ⟨r, i⟩ := p
      have hi := List.mem_zipIdx_iff_getElem?.mp hp
      obtain ⟨h3, h4⟩ := List.getElem?_eq_some_iff.mp hi
      have := h i h3
      rw [getD_at h3, h4] at this
      exact this
theorem ShD.ok {n : Nat} {d : D} {xs : List Fc} (h : ShD n d xs) (p : PtOk d) : ∀ f ∈ xs, Ok 150 f := fun f hf => by
  obtain ⟨e, l, k⟩ := h
  obtain ⟨k1, k2, k3⟩ := k f hf
  exact ((p.r _ e).2 (fr f) (List.mem_map_of_mem hf)).2 f rfl k1 k2
theorem ShD.uniq {n m : Nat} {d : D} {xs ys : List Fc} (h : ShD n d xs) (k : ShD m d ys) : xs = ys := by
  have e := h.e.symm.trans k.e
  injection e with e
  clear h k
  induction xs generalizing ys with
  | nil =>
    cases ys with
    | nil => rfl
    | cons y ys => cases e
  | cons x xs ih =>
    cases ys with
    | nil => cases e
    | cons y ys =>
      rw [List.map_cons, List.map_cons] at e
      injection e with e1 e2
      rw [fr_inj' e1, ih e2]
theorem rep_Z {n : Nat} : (List.replicate n [D.tup [.int 0, .int 1]]).flatten = (List.replicate n Z).map fr := by
  rw [List.map_replicate]
  simp [fr]
theorem hb_is_endless : HB c_isendless t_is_endless 5 := by
  intro ds μ Q X h
  obtain ⟨gs, cols, rs, d, rfl, sh, pt, q⟩ := h
  show t_is_endless (ends Q XF) [some (sheetD gs cols rs), some d, none, none, none] μ
  have sz : 16777216 ≤ sizeLine := by decide
  have l2 := sh.l2
  simp! only [t_is_endless, sheetD, List.length_map]
  refine ⟨d, cols.length, rfl, pt, fun b hb => ?_⟩
  cases b with
  | false =>
    walk_at "r"
    exact .of (q false ⟨fun e => (by cases e), fun ⟨xs, h, _⟩ => (by have := hb.mpr ⟨xs, h⟩; cases this)⟩)
  | true =>
    obtain ⟨xs, hx⟩ := hb.mp rfl
    have ox := hx.ok pt
    have e := hx.e
    simp! only [List.length_map]
    refine ⟨by decide, ⟨by omega, by omega, by omega⟩, cols, xs, List.replicate rs.length Z, by rw [e, show ((rs.length : Nat) : Int).toNat = rs.length by omega, rep_Z], sh.l1, by rw [List.length_replicate]; exact l2, fun c hc => ⟨by rw [List.length_replicate]; exact sh.c c hc, sh.oc c hc⟩, ox, fun f hf => by rw [List.eq_of_mem_replicate hf]; exact ok_nought.mono (by decide), fun b hb2 => ?_⟩
    cases b with
    | false =>
      walk_at "r"
      exact .of (q false ⟨fun e => (by cases e), fun ⟨ys, h, k⟩ => (by have := h.uniq hx; subst this; have := hb2.mpr k.ft; cases this)⟩)
    | true =>
      have ft := hb2.mp rfl
      walk_at "r"
      refine ⟨gs, xs, by rw [e], by rw [sh.l]; exact sh.l1, sh.og, ox, fun f of qf => ?_⟩
      walk_at "r"
      refine ⟨(0, 1), f, rfl, NB.Ok.sz ok_nought (by decide), NB.Ok.sz of (by decide), ?_⟩
      refine .of (q _ ?_)
      rw [decide_eq_true_iff, q_lt (by decide) of.pos, qf, show Fr.q (0, 1) = 0 from q_Z]
      exact ⟨fun h => ⟨xs, hx, ⟨hx.l, fun f hf => (hx.p f hf).2.2, ft, h⟩⟩, fun ⟨ys, h, k⟩ => (by have := h.uniq hx; subst this; exact k.up)⟩
theorem hb_is_most : HB c_ismost t_is_most 8 := by
  intro ds μ Q X h
  obtain ⟨gs, cols, rs, d1, d2, rfl, sh, p1, p2, q⟩ := h
  show t_is_most (ends Q XF) [some (sheetD gs cols rs), some d1, some d2, none, none, none, none, none] μ
  have sz : 16777216 ≤ sizeLine := by decide
  have l1 := sh.l1
  have l2 := sh.l2
  classical
  simp! only [t_is_most, sheetD, List.length_map]
  refine ⟨d1, cols.length, rfl, p1, fun b hb => ?_⟩
  cases b with
  | false =>
    walk_at "r"
    exact .of (q false ⟨fun e => (by cases e), fun ⟨xs, ys, h, _⟩ => (by have := hb.mpr ⟨xs, h⟩; cases this)⟩)
  | true =>
  obtain ⟨xs, hx⟩ := hb.mp rfl
  have ox := hx.ok p1
  simp! only [List.length_map]
  refine ⟨d2, rs.length, rfl, p2, fun b hb => ?_⟩
  cases b with
  | false =>
    walk_at "r"
    exact .of (q false ⟨fun e => (by cases e), fun ⟨xs, ys, _, h, _⟩ => (by have := hb.mpr ⟨ys, h⟩; cases this)⟩)
  | true =>
  obtain ⟨ys, hy⟩ := hb.mp rfl
  have oy := hy.ok p2
  have e1 := hx.e
  have e2 := hy.e
  have uq : ∀ {P : Prop}, (MostQ gs cols rs xs ys → P) → (∃ xs ys, ShD cols.length d1 xs ∧ ShD rs.length d2 ys ∧ MostQ gs cols rs xs ys) → P := fun h ⟨xs', ys', h1, h2, k⟩ => by
    have := h1.uniq hx
    subst this
    have := h2.uniq hy
    subst this
    exact h k
  walk_at "r"
  refine ⟨cols, xs, rs, by rw [e1], l1, l2, fun c hc => ⟨sh.c c hc, sh.oc c hc⟩, ox, sh.or, fun b hb2 => ?_⟩
  cases b with
  | false =>
    walk_at "r"
    exact .of (q false ⟨fun e => (by cases e), uq fun k => (by have := hb2.mpr k.ft; cases this)⟩)
  | true =>
  have ft := hb2.mp rfl
  walk_at "r"
  rw [zip_map]
  refine comp_pure (enc := fun p : List Fc × Fc => D.tup [colD p.1, fr p.2]) (g := fun p => .bl (decide (Fr.q p.2 ≤ wQ p.1 ys))) trivial (by rw [List.length_zip]; omega) (fun p hp acc R ha hR => ?_) ?_
  · obtain ⟨c, g⟩ := p
    have hc := (List.of_mem_zip hp).1
    have og := sh.og g (List.of_mem_zip hp).2
    simp! only [colD]
    refine ⟨c, ys, by rw [e2], by rw [sh.c c hc]; exact l2, sh.oc c hc, oy, fun f of qf => ?_⟩
    walk_at "r"
    refine ⟨f, g, rfl, NB.Ok.sz of (by decide), NB.Ok.sz og (by decide), ?_⟩
    walk_at "r"
    refine ⟨ha, ?_⟩
    have e : (!decide (f.1 * g.2 < g.1 * f.2)) = decide (Fr.q g ≤ wQ c ys) := by
      rw [← qf, ← decide_not]
      refine decide_eq_decide.mpr ?_
      rw [q_lt of.pos og.pos]
      exact Rat.not_lt
    rw [e]
    exact hR
  rw [show (cols.zip gs).map (fun p : List Fc × Fc => D.bl (decide (Fr.q p.2 ≤ wQ p.1 ys))) = ((cols.zip gs).map fun p : List Fc × Fc => decide (Fr.q p.2 ≤ wQ p.1 ys)).map D.bl by rw [List.map_map]; rfl]
  simp! only [blsOf_map]
  have hk : (((cols.zip gs).map fun p : List Fc × Fc => decide (Fr.q p.2 ≤ wQ p.1 ys)).all fun b => b) = true ↔ ∀ p ∈ cols.zip gs, Fr.q p.2 ≤ wQ p.1 ys := all_iffB
  generalize (((cols.zip gs).map fun p : List Fc × Fc => decide (Fr.q p.2 ≤ wQ p.1 ys)).all fun b => b) = kb at *
  cases kb with
  | false =>
    walk_at "r"
    exact .of (q false ⟨fun e => (by cases e), uq fun k => (by have := hk.mpr k.wo; cases this)⟩)
  | true =>
  have wo := hk.mp rfl
  walk_at "r"
  refine ⟨rs, ys, by rw [e2], l2, sh.or, oy, fun f of qf => ?_⟩
  walk_at "r"
  refine ⟨gs, xs, by rw [e1], by rw [sh.l]; exact l1, sh.og, ox, fun g og qg => ?_⟩
  walk_at "r"
  refine ⟨okN_fr (n := 63), okN_fr (n := 63), .of (q _ ?_)⟩
  rw [show ∀ f : Fc, view μ (fr f) = fr f from fun _ => rfl, show ∀ f : Fc, view μ (fr f) = fr f from fun _ => rfl, eqD_fr, decide_eq_true_iff]
  exact ⟨fun h => ⟨xs, ys, hx, hy, ⟨hx.l, hy.l, fun f hf => (hx.p f hf).2.2, fun f hf => (hy.p f hf).2.2, ft, wo, by rw [← qf, ← qg, h]⟩⟩, uq fun k => q_inj of og (by rw [qf, qg, k.eq])⟩
theorem most_ne : (PySem.Str.ofString "most" : Str) ≠ PySem.Str.ofString "endless" := by decide +kernel
theorem hb_lets_most : HB c_letsmost t_lets_most 2 := by
  intro ds μ Q X h
  obtain ⟨gs, cols, rs, d, rfl, sh, th, q⟩ := h
  show t_lets_most (ends Q XF) [some (sheetD gs cols rs), some d] μ
  have sz : 16777216 ≤ sizeLine := by decide
  have pl := th.p
  have no : (∀ a b, d ≠ .tup [a, b]) → (∀ a b c, d ≠ .tup [a, b, c]) → Q (.bl false) μ := fun h1 h2 => q false ⟨fun e => (by cases e), fun h => by
    rcases h with ⟨d1, d2, _, _, e, _⟩ | ⟨d1, _, e, _⟩
    · exact (h2 _ _ _ e).elim
    · exact (h1 _ _ e).elim⟩
  cases d with
  | raw _ => cases pl
  | scr _ => cases pl
  | key _ => cases pl
  | non => simp! only [t_lets_most]; exact .of (no (fun _ _ e => by cases e) fun _ _ _ e => by cases e)
  | bl _ => simp! only [t_lets_most]; exact .of (no (fun _ _ e => by cases e) fun _ _ _ e => by cases e)
  | int _ => simp! only [t_lets_most]; exact .of (no (fun _ _ e => by cases e) fun _ _ _ e => by cases e)
  | str _ => simp! only [t_lets_most]; exact .of (no (fun _ _ e => by cases e) fun _ _ _ e => by cases e)
  | lst _ => simp! only [t_lets_most]; exact .of (no (fun _ _ e => by cases e) fun _ _ _ e => by cases e)
  | emp => simp! only [t_lets_most]; exact .of (no (fun _ _ e => by cases e) fun _ _ _ e => by cases e)
  | tup xs =>
    obtain ⟨hl, hx⟩ := th.r xs rfl
    have c0 : decide ((2 : Int) ≤ ((0 : Nat) : Int)) = false := rfl
    have c1 : decide ((2 : Int) ≤ ((1 : Nat) : Int)) = false := rfl
    have c2 : decide ((2 : Int) ≤ ((2 : Nat) : Int)) = true := rfl
    have c3 : decide ((2 : Int) ≤ ((3 : Nat) : Int)) = true := rfl
    have k2 : decide (((2 : Nat) : Int) ≤ (3 : Int)) = true := rfl
    have k3 : decide (((3 : Nat) : Int) ≤ (3 : Int)) = true := rfl
    match xs, hl, hx, no, q with
    | [], _, _, no, q =>
      simp! only [t_lets_most, c0]
      exact .of (no (fun _ _ e => by cases e) fun _ _ _ e => by cases e)
    | [a], _, _, no, q =>
      simp! only [t_lets_most, c1]
      exact .of (no (fun _ _ e => by cases e) fun _ _ _ e => by cases e)
    | [a, b], _, hx, no, q =>
      have pa := (hx a List.mem_cons_self).p
      have pb := hx b (by simp)
      have nstr : (∀ w, a ≠ .str w) → Q (.bl false) μ := fun h => q false ⟨fun e => (by cases e), fun h2 => by
        rcases h2 with ⟨_, _, _, _, e, _⟩ | ⟨_, _, e, _⟩ <;> cases e
        exact (h _ rfl).elim⟩
      cases a with
      | str w =>
        have nw : w ≠ PySem.Str.ofString "endless" → Q (.bl false) μ := fun h => q false ⟨fun e => (by cases e), fun h2 => by
          rcases h2 with ⟨_, _, _, _, e, _⟩ | ⟨_, _, e, _⟩ <;> cases e
          exact (h rfl).elim⟩
        simp! only [t_lets_most, c2, k2]
        have sw : okN 64 (.str w) = true := (hx _ List.mem_cons_self).s w rfl
        have sm : okN 64 (.str (PySem.Str.ofString "most")) = true := by decide +kernel
        have se : okN 64 (.str (PySem.Str.ofString "endless")) = true := by decide +kernel
        refine ⟨sw, sm, ifS_dec (fun e => ?_) fun e => ?_⟩
        · walk_at "r"
          refine ⟨rfl, rfl, ?_⟩
          exact .of (nw fun h => most_ne (e.symm.trans h))
        · walk_at "r"
          refine ⟨sw, se, ?_⟩
          by_cases e2 : w = PySem.Str.ofString "endless"
          · subst e2
            walk_at "r"
            refine ⟨rfl, rfl, gs, cols, rs, b, rfl, sh, pb, fun bb hb => .of (q bb (hb.trans ⟨fun ⟨xs, h, k⟩ => .inr ⟨b, xs, rfl, h, k⟩, fun h => ?_⟩))⟩
            rcases h with ⟨_, _, _, _, e, _⟩ | ⟨d1, xs, e, h, k⟩
            · cases e
            · cases e
              exact ⟨xs, h, k⟩
          · simp! only [decide_eq_false e2]
            exact .of (nw e2)
      | non => simp! only [t_lets_most, c2, k2]; exact .of (nstr fun _ e => by cases e)
      | bl _ => simp! only [t_lets_most, c2, k2]; exact .of (nstr fun _ e => by cases e)
      | int _ => simp! only [t_lets_most, c2, k2]; exact .of (nstr fun _ e => by cases e)
      | lst _ => simp! only [t_lets_most, c2, k2]; exact .of (nstr fun _ e => by cases e)
      | tup _ => simp! only [t_lets_most, c2, k2]; exact .of (nstr fun _ e => by cases e)
      | emp => simp! only [t_lets_most, c2, k2]; exact .of (nstr fun _ e => by cases e)
      | raw _ => cases pa
      | scr _ => cases pa
      | key _ => cases pa
    | [a, b, c], _, hx, no, q =>
      have pa := (hx a List.mem_cons_self).p
      have pb := hx b (by simp)
      have pc := hx c (by simp)
      have nstr : (∀ w, a ≠ .str w) → Q (.bl false) μ := fun h => q false ⟨fun e => (by cases e), fun h2 => by
        rcases h2 with ⟨_, _, _, _, e, _⟩ | ⟨_, _, e, _⟩ <;> cases e
        exact (h _ rfl).elim⟩
      cases a with
      | str w =>
        have nw : w ≠ PySem.Str.ofString "most" → Q (.bl false) μ := fun h => q false ⟨fun e => (by cases e), fun h2 => by
          rcases h2 with ⟨_, _, _, _, e, _⟩ | ⟨_, _, e, _⟩ <;> cases e
          exact (h rfl).elim⟩
        simp! only [t_lets_most, c3, k3]
        have sw : okN 64 (.str w) = true := (hx _ List.mem_cons_self).s w rfl
        have sm : okN 64 (.str (PySem.Str.ofString "most")) = true := by decide +kernel
        have se : okN 64 (.str (PySem.Str.ofString "endless")) = true := by decide +kernel
        refine ⟨sw, sm, ifS_dec (fun e => ?_) fun e => ?_⟩
        · subst e
          walk_at "r"
          refine ⟨rfl, rfl, gs, cols, rs, b, c, rfl, sh, pb, pc, fun bb hb => .of (q bb (hb.trans ⟨fun ⟨xs, ys, h, h', k⟩ => .inl ⟨b, c, xs, ys, rfl, h, h', k⟩, fun h => ?_⟩))⟩
          rcases h with ⟨d1, d2, xs, ys, e, h, h', k⟩ | ⟨_, _, e, _⟩
          · cases e
            exact ⟨xs, ys, h, h', k⟩
          · cases e
        · walk_at "r"
          refine ⟨sw, se, ?_⟩
          by_cases e2 : w = PySem.Str.ofString "endless"
          · subst e2
            walk_at "r"
            exact ⟨rfl, rfl, .of (nw e)⟩
          · simp! only [decide_eq_false e2]
            exact .of (nw e)
      | non => simp! only [t_lets_most, c3, k3]; exact .of (nstr fun _ e => by cases e)
      | bl _ => simp! only [t_lets_most, c3, k3]; exact .of (nstr fun _ e => by cases e)
      | int _ => simp! only [t_lets_most, c3, k3]; exact .of (nstr fun _ e => by cases e)
      | lst _ => simp! only [t_lets_most, c3, k3]; exact .of (nstr fun _ e => by cases e)
      | tup _ => simp! only [t_lets_most, c3, k3]; exact .of (nstr fun _ e => by cases e)
      | emp => simp! only [t_lets_most, c3, k3]; exact .of (nstr fun _ e => by cases e)
      | raw _ => cases pa
      | scr _ => cases pa
      | key _ => cases pa
    | a :: b :: c :: e :: r, _, _, no, q =>
      have c4 : decide ((2 : Int) ≤ ((r.length + 1 + 1 + 1 + 1 : Nat) : Int)) = true := decide_eq_true (by omega)
      have k4 : decide (((r.length + 1 + 1 + 1 + 1 : Nat) : Int) ≤ (3 : Int)) = false := decide_eq_false (by omega)
      simp! only [t_lets_most, c4, k4]
      exact .of (no (fun _ _ e => by cases e) fun _ _ _ e => by cases e)
end NBD
set_option Elab.async false
set_option linter.all false
set_option maxRecDepth 100000
set_option maxHeartbeats 2000000
set_option exponentiation.threshold 20000
/-! A drawn task can be shown. -/
namespace NB
open PySem PySem.Spec L2 DL Fr
structure Sh (n c : Nat) (d : D) : Prop where
  ok : okN n d = true
  sh : (toP d).showable = true
  sz : rsz d ≤ c
theorem Sh.mono {n c n' c' : Nat} {d : D} (h : Sh n c d) (h1 : n ≤ n') (h2 : c ≤ c') : Sh n' c' d := ⟨okN_mono h.ok h1, h.sh, Nat.le_trans h.sz h2⟩
theorem sh_int {i : Int} (h : i.natAbs < 2 ^ 300) : Sh 0 303 (.int i) := by
  have hl : i.natAbs.log2 < 301 := by
    by_cases h0 : i.natAbs = 0
    · rw [h0]; decide
    · have := (Nat.log2_lt h0 (k := 300)).mpr h
      omega
  refine ⟨rfl, ?_, ?_⟩
  · show decide (i.natAbs.log2 < 1920) = true
    exact decide_eq_true (by omega)
  · show i.natAbs.log2 + 3 ≤ 303
    omega
theorem sh_small {i : Int} (h1 : -1000 ≤ i) (h2 : i ≤ 1000) : Sh 0 303 (.int i) := sh_int (by
  have : (1001 : Nat) < 2 ^ 300 := by decide
  omega)
theorem sh_non : Sh 0 5 .non := ⟨rfl, rfl, Nat.le_refl _⟩
theorem sh_all {n c : Nat} : ∀ {xs : List D}, (∀ x ∈ xs, Sh n c x) → (PyData.showableAll (toPs xs) = true) ∧ rszs xs ≤ (c + 2) * xs.length
  | [], _ => ⟨rfl, Nat.le_refl _⟩
  | x :: xs, h => by
    obtain ⟨h1, h2⟩ := sh_all (xs := xs) fun y hy => h y (List.mem_cons_of_mem _ hy)
    have hx := h x List.mem_cons_self
    constructor
    · show ((toP x).showable && PyData.showableAll (toPs xs)) = true
      rw [hx.sh, h1]
      rfl
    · show rsz x + 2 + rszs xs ≤ (c + 2) * (xs.length + 1)
      have := hx.sz
      rw [Nat.mul_add, Nat.mul_one]
      omega
theorem sh_tup {n c k : Nat} {xs : List D} (hl : xs.length ≤ k) (h : ∀ x ∈ xs, Sh n c x) : Sh (n + 1) (3 + (c + 2) * k) (.tup xs) := by
  obtain ⟨h1, h2⟩ := sh_all h
  refine ⟨List.all_eq_true.mpr fun x hx => (h x hx).ok, h1, ?_⟩
  show 3 + rszs xs ≤ _
  have := Nat.mul_le_mul_left (c + 2) hl
  omega
theorem sh_lst {n c k : Nat} {xs : List D} (hl : xs.length ≤ k) (h : ∀ x ∈ xs, Sh n c x) : Sh (n + 1) (3 + (c + 2) * k) (.lst xs) := by
  obtain ⟨h1, h2⟩ := sh_all h
  refine ⟨List.all_eq_true.mpr fun x hx => (h x hx).ok, h1, ?_⟩
  show 2 + rszs xs ≤ _
  have := Nat.mul_le_mul_left (c + 2) hl
  omega
theorem sh_fr {f : Int × Int} (h1 : f.1.natAbs < 2 ^ 300) (h2 : f.2.natAbs < 2 ^ 300) : Sh 1 613 (fr f) := sh_tup (n := 0) (c := 303) (k := 2) (xs := [.int f.1, .int f.2]) (by simp) fun x hx => by
  simp only [List.mem_cons, List.not_mem_nil, or_false] at hx
  rcases hx with rfl | rfl
  · exact sh_int h1
  · exact sh_int h2
theorem sh_ok {n : Nat} {f : Fc} (h : Ok n f) (hn : n ≤ 300) : Sh 1 613 (fr f) := by
  have h := h.mono hn
  exact sh_fr h.tb h.bb
theorem grow_bit1 : ∀ (xs : List ((Int × Int) × Nat)) (st : List Int × List Int), (∀ n ∈ st.1, n = 0 ∨ n = 1) → ∀ n ∈ (xs.foldl growStep st).1, n = 0 ∨ n = 1
  | [], _, h => h
  | x :: xs, st, h => by
    refine grow_bit1 xs (growStep st x) ?_
    unfold growStep
    split
    · exact h
    · intro n hn
      rcases List.mem_or_eq_of_mem_set hn with hn | hn
      · exact h n hn
      · exact .inr hn
theorem grow_bit2 {F : List (Int × Int)} : ∀ (xs : List Nat) (st : List Int × List Int), (∀ n ∈ st.1, n = 0 ∨ n = 1) → ∀ n ∈ (xs.foldl (growRound F) st).1, n = 0 ∨ n = 1
  | [], _, h => h
  | x :: xs, st, h => grow_bit2 xs (growRound F st x) (grow_bit1 F.zipIdx st h)
theorem grow_bits {F : List (Int × Int)} {n : Nat} : ∀ i ∈ (grow F n).1, i = 0 ∨ i = 1 := grow_bit2 _ _ fun i hi => .inl (List.eq_of_mem_replicate hi)
theorem WishesOk.cnts {ws : List (D × List Int)} (h : WishesOk ws) : ∀ w ∈ ws, ∀ n ∈ w.2, -1000 ≤ n ∧ n ≤ 1000 := by
  obtain ⟨w, hw, h⟩ := h
  have hc := Wish.cnts hw
  have h1 : ∀ n ∈ w.2, -1000 ≤ n ∧ n ≤ 1000 := fun n hn => by have := hc.bd n hn; omega
  intro v hv
  rcases h with rfl | ⟨w2, hb, hp⟩
  · rw [List.mem_singleton.mp hv]; exact h1
  · have := hp.mem_iff.mp hv
    simp only [List.mem_cons, List.not_mem_nil, or_false] at this
    rcases this with rfl | rfl
    · exact h1
    · cases hb with
      | tree e =>
        intro n hn
        rcases grow_bits n hn with e | e <;> omega
      | bench _ hl hb => exact fun n hn => by have := (Wish.cnts (hb.wish (by omega))).bd n hn; omega
theorem Sh.shown {n c : Nat} {d : D} (h : Sh n c d) (hc : c ≤ 16777216) : (toP d).shown.length ≤ sizeLine := by
  have := shown_le n d h.ok
  have := h.sz
  have sz : 16777216 ≤ sizeLine := by decide
  omega
end NB
set_option Elab.async false
set_option linter.all false
set_option maxRecDepth 100000
set_option maxHeartbeats 2000000
/-! A test reckoned with all cells lent out as data. -/
namespace DL
open PySem PySem.Spec L2
section
variable {X : Cx} {W : WX} {e : Expr} {te : DTT}
end
end DL
set_option Elab.async false
set_option linter.all false
set_option maxRecDepth 100000
set_option maxHeartbeats 4000000
/-! Own error classes whose __init__ keeps fields: raised, or made as values. -/
namespace DL
open PySem PySem.Spec PyProof.Rows L2
section
variable {X : Cx} {e : Expr} {es : List Expr} {ta : TA} {p p1 p2 pos : Pos}
end
section
variable {P : Program} {w : World} {K : PySem.W.Frag} {mg : Str → Option Value} {base : Heap} {x qual : Str} {st : Stmt} {C f : Addr} {fd : FuncData} {N ps : List Str} {m f1 f2 : Str}
end
/-! ### raised -/
theorem RepF.append {K : PySem.W.Frag} {H : Hp} : ∀ {vs us : List (Str × V)} {ds es : List (Str × D)}, RepF K H vs ds → RepF K H us es → RepF K H (vs ++ us) (ds ++ es)
  | _, _, _, _, .nil, r => r
  | _, _, _, _, .cons h r, r2 => .cons h (RepF.append r r2)
section
variable {X : Cx} {W : WX} {e : Expr} {es : List Expr} {tr : DTA} {p pos pos' : Pos} {x : Str} {C : Addr} {fs : List Str}
end
/-! ### made as values -/
section
variable {X : Cx} {W : WX} {e : Expr} {es : List Expr} {ta : TA} {tr : DTA} {te : DTE} {p pos : Pos} {x : Str} {C : Addr} {fs : List Str}
end
end DL
namespace DL
open PySem
/-- a statement in a class's body -/
def clsSt : Stmt → Nat → Stmt
  | .ClassDef _ _ _ body .., j => body.getD j (.Pass ⟨0, 0, 0, 0⟩)
  | s, _ => s
end DL
set_option Elab.async false
set_option linter.all false
set_option maxRecDepth 100000
set_option maxHeartbeats 2000000
set_option exponentiation.threshold 20000
local macro_rules | `(tactic| walk_at "s") => `(tactic| simp only [DL.dSet, DL.kSet, DL.dCB, DL.kCB, DL.dCons, DL.kCons1, DL.kCons2, DL.dNil, DL.dVar, DL.dC, DL.dOp, DL.kOp1, DL.kOp2, DL.dB, DL.kB, DL.dIf, DL.kIf, DL.dRet, DL.dRetN, DL.dTup, DL.kTup, DL.dLst, DL.kLst, DL.dLstC, DL.kLstC, DL.dCall, DL.kCall, DL.dCallK, DL.kCallK1, DL.kCallK2, DL.dLenIs, DL.kLenIs, DL.dNext, DL.dDrop, DL.kDrop, DL.dPar, DL.kPar, DL.dAug, DL.kAug, DL.dAsg, DL.kAsg, DL.dSetIx, DL.kSetIx1, DL.kSetIx2, DL.kSetIx3, DL.dTru, DL.kTru, DL.dAnd, DL.kAnd, DL.dOr, DL.kOr, DL.dNot, DL.kNot, DL.dAndV, DL.kAndV, DL.dOrV, DL.kOrV, DL.dNotV, DL.kNotV, DL.dIfE, DL.kIfE, DL.dChain, DL.kChain1, DL.kChain2, DL.kChain3_true, DL.kChain3_false, DL.dNeg, DL.kNeg, DL.dFz, DL.kFz, DL.dRaise, DL.dTryAs, DL.suiteE, DL.kUnset, DL.dFor, DL.kFor, DL.dSeqI, DL.kSeqI, DL.dRange1, DL.kRange1, DL.dRange2, DL.kRange2, DL.dLc, DL.kLc, DL.dLcC, DL.kLstD, DL.kNewC, DL.dYes, DL.wipeD, DL.loopD, DL.compD, DL.kItem, DL.kTest_true, DL.kTest_false, DL.putIx_some, DL.setsK_some, DL.turnD_some, DL.turnC_some, DL.ifS_true, DL.ifS_false, DL.ifAnd_true, DL.ifAnd_false, DL.ifOr_true, DL.ifOr_false, DL.ifAndV_true, DL.ifAndV_false, DL.ifOrV_true, DL.ifOrV_false, DL.ifE_true, DL.ifE_false, DL.srcOf, DL.tgN, DL.tgT, DL.tgNil, DL.tgCons, DL.sets, List.foldl_cons, List.foldl_nil, DL.gI, DL.gI0, DL.gAdd, DL.gMul, DL.gIx, DL.gEq, DL.gNe, DL.gIs, DL.gIn, DL.gLen, DL.gAbs, DL.gMax2, DL.gMin2, DL.gAll, DL.gAny, DL.gSum, DL.gList, DL.gListC, DL.gTuple, DL.gIsiC, DL.gIsi, DL.tyN, DL.subN_NoneType_int, DL.subN_NoneType_bool, DL.subN_NoneType_str, DL.subN_NoneType_list, DL.subN_NoneType_tuple, DL.subN_bool_int, DL.subN_bool_bool, DL.subN_bool_str, DL.subN_bool_list, DL.subN_bool_tuple, DL.subN_int_int, DL.subN_int_bool, DL.subN_int_str, DL.subN_int_list, DL.subN_int_tuple, DL.subN_str_int, DL.subN_str_bool, DL.subN_str_str, DL.subN_str_list, DL.subN_str_tuple, DL.subN_list_int, DL.subN_list_bool, DL.subN_list_str, DL.subN_list_list, DL.subN_list_tuple, DL.subN_tuple_int, DL.subN_tuple_bool, DL.subN_tuple_str, DL.subN_tuple_list, DL.subN_tuple_tuple, DL.truD, DL.blsOf, DL.view_non, DL.view_bl, DL.view_int', DL.view_str', DL.view_lst', DL.view_tup', DL.view_scr', DL.ends, DL.kEnd, DL.OptP_some, DL.OptQ_some, DL.OptB_some, DL.OptS_some, List.getElem?_cons_zero, List.getElem?_cons_succ, List.set_cons_zero, List.set_cons_succ, DL.atI_zero, DL.atI_one, DL.atI_two, List.length_cons, List.length_nil, DL.pick, List.filterMap_cons, List.filterMap_nil, List.nil_append, List.cons_append, List.map_cons, List.map_nil, Option.map_some, Option.bind_some, true_and, and_true, Bool.false_eq_true, Bool.not_true, Bool.not_false, Bool.xor_false, Bool.xor_true, Bool.false_xor, Bool.true_xor, decide_true, decide_false, Nat.zero_add, Nat.reduceAdd, not_true_eq_false, not_false_eq_true, DL.eqD_int, DL.eqD_str, DL.eqD_bl, DL.eqD_tup, DL.eqD_lst, DL.eqDs_nil, DL.eqDs_cons, Bool.and_true, Bool.and_false, List.all_cons, List.all_nil, List.any_cons, List.any_nil, Bool.and_self, DL.dM, DL.kM1, DL.kM2, DL.dM0, DL.kM0, DL.gAppend, DL.gInsert, DL.gExtend, DL.gPop1, DL.gPop0, DL.gReverse, DL.gSort, DL.gRemove, DL.gCount, DL.gIndex, DL.dSlG, DL.kSl1, DL.kSl2, DL.kSl3, DL.gSl, DL.gSlC, DL.dNoPart, DL.dPart, DL.kPart, DL.dLR1, DL.kLR1, DL.dLR2, DL.kLR21, DL.kLR22, DL.nLst, DL.gRepC, DL.gCatC, DL.gInt, DL.gSorted, DL.gMaxL, DL.gMinL, DL.dEnum, DL.kEnum, DL.dZip2, DL.kZip2, DL.dZip3, DL.kZip3, DL.OptS2_some, DL.OptS3_some, DL.dRev, DL.kRev, DL.dEmp, DL.view_emp', DL.subN_dict_int, DL.subN_dict_bool, DL.subN_dict_str, DL.subN_dict_list, DL.subN_dict_tuple, DL.cellL_lst, DL.cellL_none, DL.gCountD, DL.gRepr, DL.gEqS, DL.dTryK, DL.keepD, DL.kKeep, DL.kKeepR, DL.dXf])
namespace K33
open PySem PySem.Spec L2 DL Fr NB NBD
open Simp (Prob Bas Dt T gn gk zb upd Good Std)
/-! ### sheets that are drawn -/
structure PartK (t K : Nat) (f : Fc) : Prop where
  p : 1 ≤ f.2
  c : gcdI f.1 f.2 = 1
  d : f.2.natAbs ∣ K
  t : f.1.natAbs ≤ t
structure ShK (t K : Nat) (gs : List Fc) (cols : List (List Fc)) (rs : List Fc) : Prop where
  l : gs.length = cols.length
  l1 : cols.length ≤ 14
  l2 : rs.length ≤ 10
  c : ∀ c ∈ cols, c.length = rs.length
  og : ∀ f ∈ gs, PartK t K f
  oc : ∀ c ∈ cols, ∀ f ∈ c, PartK t K f
  or : ∀ f ∈ rs, PartK t K f
  n : ∀ f ∈ rs, 0 ≤ f.1
theorem PartK.ok {t K : Nat} {f : Fc} (h : PartK t K f) (hK : 0 < K) (hk : K < 2 ^ 10) (ht : t < 2 ^ 10) : Ok 10 f :=
  ⟨h.p, by have := h.c; unfold gcdI at this; omega, by have := h.t; omega, by have := Nat.le_of_dvd hK h.d; omega⟩
theorem wh_le {t K S : Nat} {f : Fc} (h : PartK t K f) (hS : S ∣ K) (hK : 0 < K) (hf : f.2 ∣ (S : Int)) : (wh S f).natAbs ≤ t * K := by
  have e := congrArg Int.natAbs (wh_mul h.p hf)
  rw [Int.natAbs_mul, Int.natAbs_mul, Int.natAbs_natCast] at e
  have h1 : 1 ≤ f.2.natAbs := by have := h.p; omega
  have h2 : f.1.natAbs * S ≤ t * K := Nat.mul_le_mul h.t (Nat.le_of_dvd hK hS)
  have h3 : (wh S f).natAbs * 1 ≤ (wh S f).natAbs * f.2.natAbs := Nat.mul_le_mul_left _ h1
  omega
theorem small_P {t K : Nat} {rs : List Fc} (hK : 0 < K) (hr : ∀ f ∈ rs, PartK t K f) : ∀ {zs : List Col}, (∀ z ∈ zs, z.2.length = rs.length ∧ ∀ f ∈ z.2 ++ [z.1], PartK t K f) → Simp.Small (shP rs zs) (t * K + 1) := by
  intro zs hz
  have pm : (shP rs zs).m = rs.length := shP_m
  have pn : (shP rs zs).n = rs.length + zs.length := shP_n
  have cd : ∀ {fs : List Fc}, (∀ f ∈ fs, PartK t K f) → cmN fs ∣ K := fun h => cm_of fun g hg => (h g hg).d
  have hb : ∀ (zs : List Col) (P : Prob), (zs.foldl (fun P z => newP P z.1 z.2) P).b = P.b := by
    intro zs
    induction zs with
    | nil => intro P; rfl
    | cons z zs ih => intro P; rw [List.foldl_cons, ih]; rfl
  have low : ∀ k, k < rs.length → (shP rs zs).A k = Det.unit k ∧ (shP rs zs).c k = 0 := by
    intro k hk
    clear hz pm pn
    suffices h : ∀ (zs : List Col) (P : Prob), k < P.n → (zs.foldl (fun P z => newP P z.1 z.2) P).A k = P.A k ∧ (zs.foldl (fun P z => newP P z.1 z.2) P).c k = P.c k by
      have := h zs (P0 (rgtL rs)) (by show k < (rgtL rs).length; unfold rgtL; rw [List.length_map]; exact hk)
      exact this
    intro zs
    induction zs with
    | nil => intro P _; exact ⟨rfl, rfl⟩
    | cons z zs ih =>
      intro P hP
      rw [List.foldl_cons]
      obtain ⟨h1, h2⟩ := ih (newP P z.1 z.2) (show k < P.n + 1 by omega)
      exact ⟨h1.trans (addP_A hP), h2.trans (addP_c hP)⟩
  refine ⟨fun k j hk hj => ?_, fun j hj => ?_, fun k hk => ?_⟩
  · by_cases h : k < rs.length
    · rw [(low k h).1]
      unfold Det.unit
      split
      · show (1 : Int).natAbs ≤ _; omega
      · show (0 : Int).natAbs ≤ _; omega
    · obtain ⟨i, rfl⟩ : ∃ i, k = rs.length + i := ⟨k - rs.length, by omega⟩
      have hi : i < zs.length := by omega
      have hm : colOf zs i ∈ zs := getD_mem hi
      obtain ⟨z1, z2⟩ := hz _ hm
      rw [(shP_cols zs i hi).1]
      unfold vecL
      have hj2 : j < (colOf zs i).2.length := by omega
      rw [getD_map (d := Z) hj2]
      have hf : (colOf zs i).2.getD j Z ∈ (colOf zs i).2 ++ [(colOf zs i).1] := List.mem_append_left _ (getD_mem hj2)
      have := wh_le (z2 _ hf) (cd z2) hK (cm_dvd hf)
      unfold scOf
      omega
  · unfold shP
    rw [hb]
    show ((rgtL rs).getD j 0).natAbs ≤ _
    unfold rgtL
    have hj2 : j < rs.length := by omega
    rw [getD_map (d := Z) hj2]
    have hm : rs.getD j Z ∈ rs := getD_mem hj2
    have := wh_le (hr _ hm) (cd hr) hK (cm_dvd hm)
    omega
  · by_cases h : k < rs.length
    · rw [(low k h).2]
      omega
    · obtain ⟨i, rfl⟩ : ∃ i, k = rs.length + i := ⟨k - rs.length, by omega⟩
      have hi : i < zs.length := by omega
      have hm : colOf zs i ∈ zs := getD_mem hi
      obtain ⟨z1, z2⟩ := hz _ hm
      rw [(shP_cols zs i hi).2.1]
      have hf : (colOf zs i).1 ∈ (colOf zs i).2 ++ [(colOf zs i).1] := List.mem_append_right _ (List.mem_singleton.mpr rfl)
      have := wh_le (z2 _ hf) (cd z2) hK (cm_dvd hf)
      unfold scOf
      omega
theorem ShK.zs {t K : Nat} {gs : List Fc} {cols : List (List Fc)} {rs : List Fc} (h : ShK t K gs cols rs) : ∀ z ∈ gs.zip cols, z.2.length = rs.length ∧ ∀ f ∈ z.2 ++ [z.1], PartK t K f := fun z hz => by
  have h1 := (List.of_mem_zip (show (z.1, z.2) ∈ gs.zip cols from hz)).1
  have h2 := (List.of_mem_zip (show (z.1, z.2) ∈ gs.zip cols from hz)).2
  refine ⟨h.c _ h2, fun f hf => ?_⟩
  rcases List.mem_append.mp hf with hf | hf
  · exact h.oc _ h2 f hf
  · rw [List.mem_singleton.mp hf]
    exact h.og _ h1
theorem ShK.sh {t K : Nat} {gs : List Fc} {cols : List (List Fc)} {rs : List Fc} (h : ShK t K gs cols rs) (hK : 0 < K) (hk : K < 2 ^ 10) (ht : t < 2 ^ 10) : ShOk gs cols rs := by
  have l1 := h.l1
  have l2 := h.l2
  have cd : ∀ {fs : List Fc}, (∀ f ∈ fs, PartK t K f) → cmN fs ≤ K := fun h => Nat.le_of_dvd hK (cm_of fun g hg => (h g hg).d)
  have k500 : ∀ {n : Nat}, n ≤ K → n < 2 ^ 500 := fun h => Nat.lt_of_le_of_lt h (Nat.lt_trans hk (by decide))
  have t3000 : ∀ {f : Fc}, PartK t K f → f.1.natAbs < 2 ^ 3000 := fun h => Nat.lt_of_le_of_lt h.t (Nat.lt_trans ht (by decide))
  have hz := h.zs
  have pm : (shP rs (gs.zip cols)).m = rs.length := shP_m
  have pn : (shP rs (gs.zip cols)).n = rs.length + cols.length := by rw [shP_n, List.length_zip, h.l, Nat.min_self]
  have M1 : t * K + 1 ≤ 2 ^ 20 := by
    have : t * K ≤ (2 ^ 10 - 1) * (2 ^ 10 - 1) := Nat.mul_le_mul (by omega) (by omega)
    omega
  have MM : (shP rs (gs.zip cols)).m * (t * K + 1) ≤ 10 * 2 ^ 20 := by rw [pm]; exact Nat.mul_le_mul l2 M1
  have pw : ((shP rs (gs.zip cols)).m * (t * K + 1)) ^ (shP rs (gs.zip cols)).m ≤ (10 * 2 ^ 20) ^ 10 :=
    Nat.le_trans (Nat.pow_le_pow_left MM _) (Nat.pow_le_pow_right (by decide) (by rw [pm]; exact l2))
  refine ⟨⟨by omega, fun f hf => (h.or f hf).p, fun f hf => t3000 (h.or f hf), k500 (cd h.or), h.n⟩, h.l, fun z hz' => ⟨(hz z hz').1, fun f hf => ((hz z hz').2 f hf).p, fun f hf => t3000 ((hz z hz').2 f hf)⟩, ⟨t * K + 1, small_P hK h.or hz, ?_, ?_, ?_⟩, ?_, fun s hs => ?_, by omega, by omega⟩
  · refine Nat.lt_of_le_of_lt (Nat.mul_le_mul (Nat.mul_le_mul (show _ ≤ 11 by omega) M1) pw) (by decide)
  · exact Nat.lt_of_le_of_lt pw (by decide)
  · exact Nat.lt_of_le_of_lt M1 (by decide)
  · have := cm_pos fun f hf => (h.or f hf).p
    exact ⟨by omega, by rw [Int.natAbs_natCast]; exact k500 (cd h.or)⟩
  · have key : ∀ (zs : List Col), (∀ z ∈ zs, ∀ f ∈ z.2 ++ [z.1], PartK t K f) → ∀ s ∈ shS rs zs, 1 ≤ s ∧ s.natAbs ≤ K := by
      intro zs
      suffices h : ∀ (zs : List Col) (σ : List Int), (∀ z ∈ zs, ∀ f ∈ z.2 ++ [z.1], PartK t K f) → (∀ s ∈ σ, 1 ≤ s ∧ s.natAbs ≤ K) → ∀ s ∈ zs.foldl (fun σ z => newS σ z.1 z.2) σ, 1 ≤ s ∧ s.natAbs ≤ K from
        fun hz => h zs _ hz fun s hs => by rw [List.eq_of_mem_replicate hs]; exact ⟨Int.le_refl _, hK⟩
      intro zs
      induction zs with
      | nil => intro σ _ h; exact h
      | cons z zs ih =>
        intro σ hz hσ
        refine ih _ (fun y hy => hz y (List.mem_cons_of_mem _ hy)) fun s hs => ?_
        rcases List.mem_append.mp hs with hs | hs
        · exact hσ s hs
        · rw [List.mem_singleton.mp hs]
          have hp := hz z List.mem_cons_self
          have := cm_pos fun f hf => (hp f hf).p
          exact ⟨by omega, by rw [Int.natAbs_natCast]; exact cd hp⟩
    obtain ⟨a, b⟩ := key _ (fun z hz' => (hz z hz').2) s hs
    exact ⟨a, k500 b⟩
theorem ShK.ss {t K : Nat} {gs : List Fc} {cols : List (List Fc)} {rs : List Fc} (h : ShK t K gs cols rs) (hK : 0 < K) (hk : K < 2 ^ 10) (ht : t < 2 ^ 10) : ShS gs cols rs :=
  ⟨h.l, h.l1, by have := h.l2; omega, h.c, fun f hf => (h.og f hf).ok hK hk ht, fun c hc f hf => (h.oc c hc f hf).ok hK hk ht, fun f hf => (h.or f hf).ok hK hk ht⟩
section
variable {t K : Nat} {gs : List Fc} {cols : List (List Fc)} {rs : List Fc} {β : Bas}
theorem told_okN {n : Nat} (h : ShK t K gs cols rs) (hK : 0 < K) (hB : (rs.length + 1) * (t * K + 1) * (rs.length * (t * K + 1)) ^ rs.length * (2 * K) < 2 ^ n) (hg : Good (shP rs (gs.zip cols)) β) (h1 : 1 ≤ rs.length) :
    (∀ f ∈ shL (shP rs (gs.zip cols)) β (cmN rs) (shS rs (gs.zip cols)), Ok n f) ∧ (∀ f ∈ prL (shP rs (gs.zip cols)) β, Ok n f) ∧ ∀ e, e < (shP rs (gs.zip cols)).n → gk (shP rs (gs.zip cols)) β e < 0 → ∀ f ∈ ryL (shP rs (gs.zip cols)) β (shS rs (gs.zip cols)) e, Ok n f := by
  have sm := small_P hK h.or h.zs
  have pm : (shP rs (gs.zip cols)).m = rs.length := shP_m
  have pn : (shP rs (gs.zip cols)).n = rs.length + cols.length := by rw [shP_n, List.length_zip, h.l, Nat.min_self]
  have cd : ∀ {fs : List Fc}, (∀ f ∈ fs, PartK t K f) → cmN fs ≤ K := fun h => Nat.le_of_dvd hK (cm_of fun g hg => (h g hg).d)
  have D0 := hg.ok.pos
  have S0 : 0 < (cmN rs : Int) := by have := cm_pos fun f hf => (h.or f hf).p; omega
  have SK : (cmN rs : Int).natAbs ≤ K := by rw [Int.natAbs_natCast]; exact cd h.or
  have σK : ∀ k, ((shS rs (gs.zip cols)).getD (rs.length + k) 0).natAbs ≤ K := fun k => by
    by_cases hk : k < (gs.zip cols).length
    · obtain ⟨_, _, e⟩ := shP_cols (rs := rs) (gs.zip cols) k hk
      rw [List.getD_eq_getElem?_getD, e]
      show ((scOf (gs.zip cols) k : Nat) : Int).natAbs ≤ K
      rw [Int.natAbs_natCast]
      unfold scOf
      exact cd (h.zs _ (getD_mem hk)).2
    · rw [List.getD_eq_getElem?_getD, List.getElem?_eq_none (by rw [shS_len]; omega)]
      exact Nat.zero_le _
  have bT : ∀ i k, k < (shP rs (gs.zip cols)).n → (T (shP rs (gs.zip cols)) β i ((shP rs (gs.zip cols)).A k)).natAbs ≤ (rs.length * (t * K + 1)) ^ rs.length := fun i k hk => by
    have := sm.t hg.rg (fun j hj => sm.A k j hk hj) i
    rwa [pm] at this
  have bb : ∀ i, (T (shP rs (gs.zip cols)) β i (shP rs (gs.zip cols)).b).natAbs ≤ (rs.length * (t * K + 1)) ^ rs.length := fun i => by
    have := sm.t hg.rg sm.b i
    rwa [pm] at this
  have bd : (Dt (shP rs (gs.zip cols)) β).natAbs ≤ (rs.length * (t * K + 1)) ^ rs.length := by
    have := sm.dt hg.rg
    rwa [pm] at this
  have bg : ∀ k, k < (shP rs (gs.zip cols)).n → (gk (shP rs (gs.zip cols)) β k).natAbs ≤ (rs.length + 1) * (t * K + 1) * (rs.length * (t * K + 1)) ^ rs.length := fun k hk => by
    have := sm.gn hg.rg (fun j hj => sm.A k j hk hj) (sm.c k hk)
    rwa [pm] at this
  generalize shP rs (gs.zip cols) = P at *
  generalize shS rs (gs.zip cols) = σ at *
  generalize (rs.length * (t * K + 1)) ^ rs.length = W at *
  have c2 : (rs.length + 1) * (t * K + 1) * W ≤ (rs.length + 1) * (t * K + 1) * W * (2 * K) := Nat.le_mul_of_pos_right _ (by omega)
  have c1 : W * (2 * K) ≤ (rs.length + 1) * (t * K + 1) * W * (2 * K) := Nat.mul_le_mul_right _ (Nat.le_mul_of_pos_left _ (Nat.mul_pos (by omega) (by omega)))
  have c3 : W * K ≤ W * (2 * K) := Nat.mul_le_mul_left _ (by omega)
  have c4 : W ≤ W * (2 * K) := Nat.le_mul_of_pos_right _ (by omega)
  have DS : (Dt P β * (cmN rs : Int)).natAbs < 2 ^ n := by
    rw [Int.natAbs_mul]
    have := Nat.mul_le_mul bd SK
    omega
  have bv : ∀ k, (Simp.val P β k).natAbs ≤ W := fun k => by
    by_cases hk : ∃ i, i < P.m ∧ β i = k
    · obtain ⟨i, hi, rfl⟩ := hk
      rw [Simp.val_basic hg.ok hi]
      exact bb i
    · rw [Simp.val_out fun i hi e => hk ⟨i, hi, e⟩]
      exact Nat.zero_le _
  refine ⟨fun f hf => ?_, fun f hf => ?_, fun e he neg f hf => ?_⟩
  · obtain ⟨k, hk, rfl⟩ := List.mem_map.mp hf
    refine ok_low (by have := Int.mul_pos D0 S0; omega) ?_ DS
    rw [Int.natAbs_mul, pm]
    have := Nat.mul_le_mul (bv (rs.length + k)) (σK k)
    omega
  · obtain ⟨k, hk, rfl⟩ := List.mem_map.mp hf
    have hk := List.mem_range.mp hk
    have := bg k (by omega)
    exact ok_low (by omega) (by omega) (by omega)
  · obtain ⟨k, hk, rfl⟩ := List.mem_map.mp hf
    refine ok_low (by omega) ?_ (by omega)
    rw [Int.natAbs_mul, pm]
    have br : (Simp.ray P β e (rs.length + k)).natAbs ≤ 2 * W := by
      unfold Simp.ray
      have h1 : (Det.sm P.m fun i => if β i = rs.length + k then - T P β i (P.A e) else 0).natAbs ≤ W := by
        by_cases hk : ∃ i, i < P.m ∧ β i = rs.length + k
        · obtain ⟨i, hi, e1⟩ := hk
          rw [Det.sm_one hi fun j hj hn => if_neg fun e2 => hn (hg.ok.inj hj hi (e2.trans e1.symm)), if_pos e1, Int.natAbs_neg]
          exact bT i e he
        · rw [Det.sm_zero fun i hi => if_neg fun e => hk ⟨i, hi, e⟩]
          exact Nat.zero_le _
      split <;> omega
    have := Nat.mul_le_mul br (σK k)
    have e1 : 2 * W * K = W * (2 * K) := by rw [Nat.mul_comm 2 W, Nat.mul_assoc]
    omega
theorem told_ok (h : ShK t K gs cols rs) (hK : 0 < K) (hB : (rs.length + 1) * (t * K + 1) * (rs.length * (t * K + 1)) ^ rs.length * (2 * K) < 2 ^ 150) (hg : Good (shP rs (gs.zip cols)) β) (h1 : 1 ≤ rs.length) :
    (∀ f ∈ shL (shP rs (gs.zip cols)) β (cmN rs) (shS rs (gs.zip cols)), Ok 150 f) ∧ (∀ f ∈ prL (shP rs (gs.zip cols)) β, Ok 150 f) ∧ ∀ e, e < (shP rs (gs.zip cols)).n → gk (shP rs (gs.zip cols)) β e < 0 → ∀ f ∈ ryL (shP rs (gs.zip cols)) β (shS rs (gs.zip cols)) e, Ok 150 f := told_okN h hK hB hg h1
end
abbrev PartL := PartK 4 6
def c_lpart : Ct := fun ds μ Q _ => ∃ p : Addr, ds = [.raw (.ref p)] ∧ Pool μ p ∧ Drw p μ Q PartL fr
def ShL (x : List Fc × List (List Fc) × List Fc) : Prop := ShK 4 6 x.1 x.2.1 x.2.2 ∧ 1 ≤ x.2.2.length
def c_lsheet : Ct := fun ds μ Q _ => ∃ p : Addr, ds = [.raw (.ref p)] ∧ Pool μ p ∧ Drw p μ Q ShL fun x => sheetD x.1 x.2.1 x.2.2
/-- fractions from nought on, as told -/
structure Told (fs : List Fc) : Prop where
  o : ∀ f ∈ fs, Ok 150 f
  n : ∀ f ∈ fs, 0 ≤ f.1
def c_lareshares : Ct := fun ds μ Q _ => ∃ fs : List Fc, ds = [.lst (fs.map fr), .int fs.length] ∧ Told fs ∧ fs.length ≤ 100 ∧ Q (.bl true) μ
def c_lfits : Ct := fun ds μ Q _ => ∃ (cols : List (List Fc)) (xs rs : List Fc), ds = [.lst (cols.map colD), .lst (xs.map fr), .lst (rs.map fr)] ∧ cols.length ≤ 14 ∧ rs.length ≤ 14 ∧ (∀ c ∈ cols, c.length = rs.length ∧ ∀ f ∈ c, Ok 10 f) ∧ (∀ f ∈ xs, Ok 150 f) ∧ (∀ f ∈ rs, Ok 10 f) ∧ FitQ cols xs rs ∧ Q (.bl true) μ
def toldM (xs ys : List Fc) : D := .tup [.str (PySem.Str.ofString "most"), .lst (xs.map fr), .lst (ys.map fr)]
def toldE (xs : List Fc) : D := .tup [.str (PySem.Str.ofString "endless"), .lst (xs.map fr)]
def c_listold : Ct := fun ds μ Q _ => ∃ (gs : List Fc) (cols : List (List Fc)) (rs : List Fc) (d : D), ds = [sheetD gs cols rs, d] ∧ ShS gs cols rs ∧ ((∃ xs ys, d = toldM xs ys ∧ Told xs ∧ Told ys ∧ MostQ gs cols rs xs ys) ∨ ∃ xs, d = toldE xs ∧ Told xs ∧ EndQ gs cols rs.length xs) ∧ Q (.bl true) μ
def t_law_part : DTS :=
  (dSeq (dSet 1 (dOp (gI0 fun i j => .int (i - j)) (dCall c_take (dCons (dVar 0) (dCons (dC (.int 9)) dNil))) (dC (.int 4))))
    (dRet (dCall c_low (dCons (dVar 1) (dCons (dOp gIx (dLst (dCons (dC (.int 1)) (dCons (dC (.int 1)) (dCons (dC (.int 1)) (dCons (dC (.int 2)) (dCons (dC (.int 3)) dNil)))))) (dCall c_take (dCons (dVar 0) (dCons (dC (.int 5)) dNil)))) dNil)))))
def t_law_worth : DTS :=
  (dSeq (dSet 2 (dTup (dCons (dC (.int 0)) (dCons (dC (.int 1)) dNil))))
    (dSeq (dFor (dZip2 (dCons (dVar 0) (dCons (dVar 1) dNil))) (tgT (tgCons (tgN 3) (tgCons (tgN 4) tgNil))) (dSet 2 (dCall c_plus (dCons (dVar 2) (dCons (dCall c_times (dCons (dVar 3) (dCons (dVar 4) dNil))) dNil)))))
    (dRet (dVar 2))))
def t_law_are_shares : DTS :=
  (dSeq (dIf (dOr (dNot (dTru (dCB (gIsiC "list") (dCons (dVar 0) (dCons (dC (.raw (.ty "list"))) dNil))))) (dB (dOp gNe (dCB gLen (dCons (dVar 0) dNil)) (dVar 1)))) (dRet (dC (.bl false))) dNext)
    (dSeq (dFor (dSeqI (dVar 0)) (tgN 2) (dSeq (dIf (dOr (dNot (dTru (dCB (gIsiC "tuple") (dCons (dVar 2) (dCons (dC (.raw (.ty "tuple"))) dNil))))) (dOr (dB (dOp gNe (dCB gLen (dCons (dVar 2) dNil)) (dC (.int 2)))) (dOr (dB (dOp gNe (dCall c_low (dCons (dOp gIx (dVar 2) (dC (.int 0))) (dCons (dOp gIx (dVar 2) (dC (.int 1))) dNil))) (dVar 2))) (dB (dOp gLt (dOp gIx (dVar 2) (dC (.int 0))) (dC (.int 0))))))) (dRet (dC (.bl false))) dNext)
    (dIf (dB (dOp gNe (dLc (dSeqI (dVar 2)) (tgN 3) (dOr (dNot (dTru (dCB (gIsiC "int") (dCons (dVar 3) (dCons (dC (.raw (.ty "int"))) dNil))))) (dTru (dCB (gIsiC "bool") (dCons (dVar 3) (dCons (dC (.raw (.ty "bool"))) dNil))))) (dVar 3) [3]) (dLst dNil))) (dRet (dC (.bl false))) dNext)))
    (dRet (dC (.bl true)))))
def t_law_fits : DTS :=
  (dSeq (dFor (dRange1 (dCons (dCB gLen (dCons (dVar 2) dNil)) dNil)) (tgN 3) (dIf (dTru (dCall c_under (dCons (dOp gIx (dVar 2) (dVar 3)) (dCons (dCall c_worth (dCons (dLc (dSeqI (dVar 0)) (tgN 4) dYes (dOp gIx (dVar 4) (dVar 3)) [4]) (dCons (dVar 1) dNil))) dNil)))) (dRet (dC (.bl false))) dNext))
    (dRet (dC (.bl true))))
def t_law_is_told : DTS :=
  (dSeq (dAsg (dVar 0) (tgT (tgCons (tgN 2) (tgCons (tgN 3) (tgCons (tgN 4) tgNil)))))
    (dSeq (dIf (dOr (dNot (dTru (dCB (gIsiC "tuple") (dCons (dVar 1) (dCons (dC (.raw (.ty "tuple"))) dNil))))) (dOr (dB (dOp gEq (dVar 1) (dTup dNil))) (dNot (dTru (dCall c_lareshares (dCons (dOp gIx (dVar 1) (dC (.int 1))) (dCons (dCB gLen (dCons (dVar 3) dNil)) dNil))))))) (dRet (dC (.bl false))) dNext)
    (dSeq (dIf (dB (dOp gEq (dOp gIx (dVar 1) (dC (.int 0))) (dC (.str (PySem.Str.ofString "endless"))))) (dSeq (dSet 5 (dCall c_lfits (dCons (dVar 3) (dCons (dOp gIx (dVar 1) (dC (.int 1))) (dCons (dOp gMul (dLst (dCons (dTup (dCons (dC (.int 0)) (dCons (dC (.int 1)) dNil))) dNil)) (dCB gLen (dCons (dVar 4) dNil))) dNil)))))
    (dRet (dAndV (dOp gEq (dCB gLen (dCons (dVar 1) dNil)) (dC (.int 2))) (dAndV (dVar 5) (dOp gGt (dOp gIx (dCall c_worth (dCons (dVar 2) (dCons (dOp gIx (dVar 1) (dC (.int 1))) dNil))) (dC (.int 0))) (dC (.int 0))))))) dNext)
    (dSeq (dIf (dOr (dB (dOp gNe (dOp gIx (dVar 1) (dC (.int 0))) (dC (.str (PySem.Str.ofString "most"))))) (dOr (dB (dOp gNe (dCB gLen (dCons (dVar 1) dNil)) (dC (.int 3)))) (dNot (dTru (dCall c_lareshares (dCons (dOp gIx (dVar 1) (dC (.int 2))) (dCons (dCB gLen (dCons (dVar 4) dNil)) dNil))))))) (dRet (dC (.bl false))) dNext)
    (dSeq (dFor (dZip2 (dCons (dVar 3) (dCons (dVar 2) dNil))) (tgT (tgCons (tgN 6) (tgCons (tgN 7) tgNil))) (dIf (dTru (dCall c_under (dCons (dCall c_worth (dCons (dVar 6) (dCons (dOp gIx (dVar 1) (dC (.int 2))) dNil))) (dCons (dVar 7) dNil)))) (dRet (dC (.bl false))) dNext))
    (dRet (dAndV (dCall c_lfits (dCons (dVar 3) (dCons (dOp gIx (dVar 1) (dC (.int 1))) (dCons (dVar 4) dNil)))) (dOp gEq (dCall c_worth (dCons (dVar 2) (dCons (dOp gIx (dVar 1) (dC (.int 1))) dNil))) (dCall c_worth (dCons (dVar 4) (dCons (dOp gIx (dVar 1) (dC (.int 2))) dNil)))))))))))
def t_law_sheet_7 : DTS :=
  (dSeq (dSet 5 (dLstC dNil))
    (dSeq (dFor (dRange1 (dCons (dVar 1) dNil)) (tgN 6) (dSeq (dSet 7 (dCall c_lpart (dCons (dVar 0) dNil)))
    (dDrop (dM gAppend (dVar 5) (dCons (dOp gIx (dLst (dCons (dTup (dCons (dCB gAbs (dCons (dOp gIx (dVar 7) (dC (.int 0))) dNil)) (dCons (dOp gIx (dVar 7) (dC (.int 1))) dNil))) (dCons (dTup (dCons (dC (.int 0)) (dCons (dC (.int 1)) dNil))) dNil))) (dOp (gI CDivD fun i j => .int (i.fdiv j)) (dCall c_take (dCons (dVar 0) (dCons (dC (.int 3)) dNil))) (dC (.int 2)))) dNil)))))
    (dRet (dTup (dCons (dVar 4) (dCons (dFz (dVar 3)) (dCons (dFz (dVar 5)) dNil)))))))
def t_law_sheet_3 : DTS :=
  (dSeq (dSet 3 (dLcC (dRange1 (dCons (dVar 2) dNil)) (tgN 8) dYes (dLc (dRange1 (dCons (dVar 1) dNil)) (tgN 6) dYes (dCall c_lpart (dCons (dVar 0) dNil)) [6]) [8]))
    (dSeq (dSet 4 (dLc (dRange1 (dCons (dVar 2) dNil)) (tgN 8) dYes (dCall c_lpart (dCons (dVar 0) dNil)) [8]))
    (dSeq (dIf (dAnd (dB (dOp gGt (dVar 2) (dC (.int 1)))) (dB (dOp gEq (dCall c_take (dCons (dVar 0) (dCons (dC (.int 4)) dNil))) (dC (.int 0))))) (dSetIx (dCB gList (dCons (dOp gIx (dVar 3) (dNeg (dC (.int 1)))) dNil)) (dVar 3) (dC (.int 0))) dNext)
    (dSeq (dIf (dAnd (dB (dOp gGt (dVar 2) (dC (.int 0)))) (dB (dOp gEq (dCall c_take (dCons (dVar 0) (dCons (dC (.int 6)) dNil))) (dC (.int 0))))) (dSetIx (dOp gMul (dLst (dCons (dTup (dCons (dC (.int 0)) (dCons (dC (.int 1)) dNil))) dNil)) (dVar 1)) (dVar 3) (dNeg (dC (.int 1)))) dNext)
    t_law_sheet_7))))
def t_law_sheet : DTS :=
  (dSeq (dSet 1 (dOp gAdd (dC (.int 1)) (dCall c_take (dCons (dVar 0) (dCons (dC (.int 6)) dNil)))))
    (dSeq (dSet 2 (dCall c_take (dCons (dVar 0) (dCons (dC (.int 8)) dNil))))
    (dSeq (dIf (dB (dOp gEq (dCall c_take (dCons (dVar 0) (dCons (dC (.int 12)) dNil))) (dC (.int 0)))) (dSeq (dSet 1 (dC (.int 10)))
    (dSet 2 (dC (.int 14)))) dNext)
    t_law_sheet_3)))
theorem view_frK {μ : M} {f : Fc} : view μ (fr f) = fr f := rfl
theorem okN_tupK {n : Nat} {xs : List D} (h : ∀ d ∈ xs, okN n d = true) : okN (n + 1) (.tup xs) = true := List.all_eq_true.mpr h
theorem low_le_b {t b : Int} (h : 1 ≤ b) : (low t b).2 ∣ b ∧ (low t b).1.natAbs ≤ t.natAbs := by
  refine ⟨⟨by_ t b, (low_b (by omega)).symm⟩, low_le1 (by omega)⟩
theorem hb_law_part : HB c_lpart t_law_part 2 := by
  intro ds μ Q X h
  obtain ⟨p, rfl, hp, q⟩ := h
  show t_law_part (ends Q XF) [some (.raw (.ref p)), none] μ
  simp! only [t_law_part]
  refine ⟨p, _, rfl, hp, by decide, by decide, fun r μ1 r0 r1 h1 o1 => ?_⟩
  walk_at "r"
  refine ⟨by decide, p, _, rfl, h1, by decide, by decide, fun s μ2 s0 s1 h2 o2 => ?_⟩
  have hs : s = 0 ∨ s = 1 ∨ s = 2 ∨ s = 3 ∨ s = 4 := by omega
  have fin : ∀ b : Int, 1 ≤ b → b ∣ 6 → Q (fr (low (r - 4) b)) μ2 := fun b hb hd => by
    obtain ⟨k1, k2⟩ := low_le_b (t := r - 4) hb
    refine q _ _ ⟨low_pos (by omega), ?_, ?_, by omega⟩ h2 (o1.trans o2)
    · have := low_cop (t := r - 4) (b := b) (by omega)
      unfold gcdI
      omega
    · exact Int.natAbs_dvd_natAbs.mpr (Int.dvd_trans k1 hd)
  rcases hs with rfl | rfl | rfl | rfl | rfl
  all_goals
    simp! only [show ∀ a b c d e : D, atI [a, b, c, d, e] 3 = some d from fun _ _ _ _ _ => rfl, show ∀ a b c d e : D, atI [a, b, c, d, e] 4 = some e from fun _ _ _ _ _ => rfl]
    refine ⟨_, _, rfl, by decide, by decide, .of (fin _ (by decide) (by decide))⟩
theorem hb_law_worth : HB c_worth t_law_worth 5 := by
  intro ds μ Q X h
  obtain ⟨xs, ys, rfl, hl, hx, hy, q⟩ := h
  show t_law_worth (ends Q XF) [some (.lst (xs.map fr)), some (.lst (ys.map fr)), none, none, none] μ
  simp! only [t_law_worth]
  rw [zip_map]
  refine ⟨by decide, for_pre (fun pre δ μ' => μ' = μ ∧ ∃ (f : Fc) (x3 x4 : Option D), δ = [some (.lst (xs.map fr)), some (.lst (ys.map fr)), some (fr f), x3, x4] ∧ Ok (1 + 161 * pre.length) f ∧ Fr.q f = (pre.map fun z => Fr.q z.1 * Fr.q z.2).sum)
    ⟨rfl, (0, 1), _, _, rfl, ok_nought, q_Z⟩ ?_ ?_⟩
  · rintro pre ⟨a, b⟩ post δ μ' hz ⟨rfl, f, x3, x4, rfl, hf, hq⟩
    have hm : (a, b) ∈ xs.zip ys := by rw [hz]; simp
    have oa := hx a (List.of_mem_zip hm).1
    have ob := hy b (List.of_mem_zip hm).2
    have pl : pre.length ≤ 14 := by
      have := congrArg List.length hz
      rw [List.length_zip, List.length_append] at this
      omega
    have len : (pre ++ [(a, b)]).length = pre.length + 1 := by rw [List.length_append]; rfl
    have om := ok_mul oa ob
    refine ⟨trivial, ?_⟩
    walk_at "r"
    refine ⟨a, b, rfl, NB.Ok.sz oa (by decide), NB.Ok.sz ob (by decide), ?_⟩
    walk_at "r"
    refine ⟨f, mulF a b, rfl, NB.Ok.sz hf (by omega), NB.Ok.sz om (by decide), ?_⟩
    walk_at "r"
    refine ⟨_, _, _, rfl, (ok_add hf om).mono (by omega), ?_⟩
    rw [q_add hf.ne om.ne, q_mul oa.ne ob.ne, List.map_append, List.map_cons, List.map_nil, rsum_append, ← hq]
  · rintro δ μ' ⟨rfl, f, x3, x4, rfl, hf, hq⟩
    refine ⟨trivial, ?_⟩
    walk_at "r"
    refine .of (q f (hf.mono ?_) (by rw [hq, wQ_zip]))
    rw [List.length_zip]
    omega
theorem hb_law_are_shares : HB c_lareshares t_law_are_shares 4 := by
  intro ds μ Q X h
  obtain ⟨fs, rfl, ht, hl, q⟩ := h
  show t_law_are_shares (ends Q XF) [some (.lst (fs.map fr)), some (.int fs.length), none, none] μ
  have sz : 16777216 ≤ sizeLine := by decide
  simp! only [t_law_are_shares, List.length_map]
  refine ⟨okN_int, okN_int, ?_⟩
  refine for_pre (fun pre δ μ' => μ' = μ ∧ ∃ x2, δ = [some (.lst (fs.map fr)), some (.int fs.length), x2, none]) ⟨rfl, _, rfl⟩ ?_ ?_
  · rintro pre f post δ μ' hz ⟨rfl, x2, rfl⟩
    have hm : f ∈ fs := by rw [hz]; simp
    have of := ht.o f hm
    have nf := ht.n f hm
    refine ⟨trivial, ?_⟩
    have bb : f.2.natAbs < 2 ^ 8100 := Nat.lt_of_lt_of_le of.bb (Nat.pow_le_pow_right (by decide) (by decide))
    simp! only [fr, show decide (((2 : Nat) : Int) = 2) = true from rfl]
    refine ⟨rfl, rfl, f.1, f.2, rfl, of.ne, bb, ?_⟩
    rw [of.self]
    walk_at "r"
    refine ⟨okN_fr (n := 63), okN_fr (n := 63), ?_⟩
    rw [view_frK, show eqD (fr f) (.tup [.int f.1, .int f.2]) = true from eqD_self (fr f)]
    simp! only [decide_eq_false (show ¬ f.1 < 0 by omega)]
    refine comp_filtB (xs := [f.1, f.2]) (p := fun _ => false) (enc := D.int) (g := D.int) trivial (by show 2 < sizeLine; decide) (fun x hx acc R ha h1 h2 => ?_) ?_
    · walk_at "r"
      exact h2 rfl
    · rw [show ([f.1, f.2].filter fun _ => false) = [] from rfl]
      walk_at "r"
      refine ⟨by decide, rfl, rfl, ?_⟩
      exact ⟨_, rfl⟩
  · rintro δ μ' ⟨rfl, x2, rfl⟩
    refine ⟨trivial, ?_⟩
    walk_at "r"
    exact .of q
theorem hb_law_fits : HB c_lfits t_law_fits 5 := by
  intro ds μ Q X h
  obtain ⟨cols, xs, rs, rfl, h1, h2, hc, hx, hr, ft, q⟩ := h
  show t_law_fits (ends Q XF) [some (.lst (cols.map colD)), some (.lst (xs.map fr)), some (.lst (rs.map fr)), none, none] μ
  have sz : 16777216 ≤ sizeLine := by decide
  simp! only [t_law_fits, List.length_map]
  refine ⟨by omega, ?_⟩
  rw [show ((rs.length : Nat) : Int).toNat = rs.length by omega, range_map0]
  refine for_pre (enc := fun i : Nat => D.int (i : Int)) (fun pre δ μ' => μ' = μ ∧ ∃ x3, δ = [some (.lst (cols.map colD)), some (.lst (xs.map fr)), some (.lst (rs.map fr)), x3, none]) ⟨rfl, _, rfl⟩ ?_ ?_
  · rintro pre i post δ μ' hz ⟨rfl, x3, rfl⟩
    refine ⟨trivial, ?_⟩
    have hi : i < rs.length := by
      have : i ∈ List.range rs.length := by rw [hz]; simp
      exact List.mem_range.mp this
    have ar : atI (rs.map fr) (i : Int) = some (fr rs[i]) := at_map hi
    have orr := hr _ (List.getElem_mem hi)
    simp! only [ar]
    refine comp_pure (enc := colD) (g := fun c => fr (c.getD i Z)) trivial (by omega) (fun c hm acc R ha hR => ?_) ?_
    · have hl := (hc c hm).1
      have a1 : atI (c.map fr) (i : Int) = some (fr (c.getD i Z)) := by rw [at_map (show i < c.length by omega), NBD.getD_at]
      simp! only [colD, a1]
      exact ⟨ha, hR⟩
    rw [show cols.map (fun c => fr (c.getD i Z)) = (cols.map fun c => c.getD i Z).map fr by rw [List.map_map]; rfl]
    walk_at "r"
    refine ⟨_, xs, rfl, by rw [List.length_map]; exact h1, fun f hf => ?_, hx, fun f of qf => ?_⟩
    · obtain ⟨c, hm, rfl⟩ := List.mem_map.mp hf
      obtain ⟨k1, k2⟩ := hc c hm
      exact k2 _ (getD_mem (by omega))
    walk_at "r"
    refine ⟨rs[i], f, rfl, NB.Ok.sz orr (by decide), NB.Ok.sz of (by decide), ?_⟩
    have no : ¬ rs[i].1 * f.2 < f.1 * rs[i].2 := by
      rw [q_lt orr.pos of.pos, qf]
      have := ft i hi
      rw [NBD.getD_at hi] at this
      exact Rat.not_lt.mpr this
    simp! only [decide_eq_false no]
    exact ⟨_, rfl⟩
  · rintro δ μ' ⟨rfl, x3, rfl⟩
    refine ⟨trivial, ?_⟩
    walk_at "r"
    exact .of q
theorem most_ok : okN 64 (.str (PySem.Str.ofString "most")) = true := by decide +kernel
theorem end_ok : okN 64 (.str (PySem.Str.ofString "endless")) = true := by decide +kernel
theorem hb_law_is_told : HB c_listold t_law_is_told 8 := by
  intro ds μ Q X h
  obtain ⟨gs, cols, rs, d, rfl, sh, cs, q⟩ := h
  show t_law_is_told (ends Q XF) [some (sheetD gs cols rs), some d, none, none, none, none, none, none] μ
  have sz : 16777216 ≤ sizeLine := by decide
  have l1 := sh.l1
  have l2 := sh.l2
  have ccs : ∀ c ∈ cols, c.length = rs.length ∧ ∀ f ∈ c, Ok 10 f := fun c hc => ⟨sh.c c hc, sh.oc c hc⟩
  have zl : ∀ n : Nat, n ≤ 14 → (-2 ^ 63 ≤ (n : Int) ∧ (n : Int) < 2 ^ 63 ∧ 1 * (n : Int).toNat ≤ sizeLine) := fun n hn => ⟨by omega, by omega, by omega⟩
  rcases cs with ⟨xs, ys, rfl, tx, ty, mq⟩ | ⟨xs, rfl, tx, eq⟩
  · have e0 : eqDs [D.str (PySem.Str.ofString "most"), .lst (xs.map fr), .lst (ys.map fr)] [] = false := rfl
    have lx := mq.lx
    have ly := mq.ly
    have okd : okN 64 (toldM xs ys) = true := okN_tupK (n := 63) fun d hd => by
      simp only [List.mem_cons, List.not_mem_nil, or_false] at hd
      rcases hd with rfl | rfl | rfl
      · exact most_ok
      · exact okN_frs (n := 61)
      · exact okN_frs (n := 61)
    simp! only [t_law_is_told, sheetD, toldM, e0]
    refine ⟨by decide, okd, rfl, xs, by rw [List.length_map, lx], tx, by omega, ?_⟩
    walk_at "r"
    refine ⟨most_ok, end_ok, ?_⟩
    rw [decide_eq_false most_ne]
    walk_at "r"
    refine ⟨most_ok, most_ok, rfl, rfl, ys, by rw [List.length_map, ly], ty, by omega, ?_⟩
    walk_at "r"
    rw [zip_map]
    refine for_pre (enc := fun p : List Fc × Fc => D.tup [colD p.1, fr p.2]) (fun pre δ μ' => μ' = μ ∧ ∃ x6 x7, δ = [some (.tup [.lst (gs.map fr), .lst (cols.map colD), .lst (rs.map fr)]), some (.tup [.str (PySem.Str.ofString "most"), .lst (xs.map fr), .lst (ys.map fr)]), some (.lst (gs.map fr)), some (.lst (cols.map colD)), some (.lst (rs.map fr)), none, x6, x7]) ⟨rfl, _, _, rfl⟩ ?_ ?_
    · rintro pre ⟨c, g⟩ post δ μ' hz ⟨rfl, x6, x7, rfl⟩
      refine ⟨trivial, ?_⟩
      have hm : (c, g) ∈ cols.zip gs := by rw [hz]; simp
      have hc := (List.of_mem_zip hm).1
      have og := sh.og g (List.of_mem_zip hm).2
      simp! only [colD]
      refine ⟨c, ys, rfl, by rw [sh.c c hc]; exact l2, sh.oc c hc, ty.o, fun f of qf => ?_⟩
      walk_at "r"
      refine ⟨f, g, rfl, NB.Ok.sz of (by decide), NB.Ok.sz og (by decide), ?_⟩
      have no : ¬ f.1 * g.2 < g.1 * f.2 := by
        rw [q_lt of.pos og.pos, qf]
        exact Rat.not_lt.mpr (mq.wo _ hm)
      simp! only [decide_eq_false no]
      exact ⟨_, _, rfl⟩
    · rintro δ μ' ⟨rfl, x6, x7, rfl⟩
      refine ⟨trivial, ?_⟩
      walk_at "r"
      refine ⟨cols, xs, rs, rfl, l1, l2, ccs, tx.o, sh.or, mq.ft, ?_⟩
      walk_at "r"
      refine ⟨gs, xs, rfl, by rw [sh.l]; exact l1, sh.og, tx.o, fun f of qf => ?_⟩
      walk_at "r"
      refine ⟨rs, ys, rfl, l2, sh.or, ty.o, fun g og qg => ?_⟩
      walk_at "r"
      refine ⟨okN_fr (n := 63), okN_fr (n := 63), .of ?_⟩
      have : f = g := q_inj of og (by rw [qf, qg, mq.eq])
      rw [view_frK, view_frK, this, eqD_self]
      exact q
  · have e0 : eqDs [D.str (PySem.Str.ofString "endless"), .lst (xs.map fr)] [] = false := rfl
    have lx := eq.lx
    have okd : okN 64 (toldE xs) = true := okN_tupK (n := 63) fun d hd => by
      simp only [List.mem_cons, List.not_mem_nil, or_false] at hd
      rcases hd with rfl | rfl
      · exact end_ok
      · exact okN_frs (n := 61)
    simp! only [t_law_is_told, sheetD, toldE, e0]
    refine ⟨by decide, okd, rfl, xs, by rw [List.length_map, lx], tx, by omega, ?_⟩
    walk_at "r"
    refine ⟨end_ok, end_ok, ?_⟩
    simp! only [List.length_map]
    refine ⟨by decide, by decide, zl _ l2, cols, xs, List.replicate rs.length Z, by rw [show ((rs.length : Nat) : Int).toNat = rs.length by omega, rep_Z], l1, by rw [List.length_replicate]; exact l2, fun c hc => ⟨by rw [List.length_replicate]; exact sh.c c hc, sh.oc c hc⟩, tx.o, fun f hf => by rw [List.eq_of_mem_replicate hf]; exact ok_nought.mono (by decide), eq.ft, ?_⟩
    walk_at "r"
    refine ⟨rfl, rfl, gs, xs, rfl, by rw [sh.l]; exact l1, sh.og, tx.o, fun f of qf => ?_⟩
    simp! only [fr]
    have up : f.1 > 0 := (q_pos_iff of.pos).mpr (by rw [qf]; exact eq.up)
    rw [decide_eq_true up]
    exact .of q
theorem part_Z : PartL Z := ⟨by decide, by decide, by decide, by decide⟩
def RgtL (f : Fc) : Prop := PartL f ∧ 0 ≤ f.1
theorem rights {p : Addr} {μ : M} {Q : QD} (q : Drw p μ Q ShL fun x => sheetD x.1 x.2.1 x.2.2) {m n : Nat} {gs : List Fc} {cols : List (List Fc)} {c : Addr} {μ1 : M} (m1 : 1 ≤ m) (m10 : m ≤ 10) (hg : ∀ f ∈ gs, PartL f) (lg : gs.length = n) (lc : cols.length = n) (n14 : n ≤ 14)
    (hc : ∀ c ∈ cols, c.length = m ∧ ∀ f ∈ c, PartL f) (hp : Pool μ1 p) (hcell : μ1 c = some (.lst (cols.map colD))) (hcp : c ≠ p) (h0 : μ c = none) (ho : Oth2 μ μ1 p c) :
    t_law_sheet_7 (ends Q XF) [some (.raw (.ref p)), some (.int m), some (.int n), some (.raw (.ref c)), some (.lst (gs.map fr)), none, none, none, none] μ1 := by
  have sz : 16777216 ≤ sizeLine := by decide
  simp! only [t_law_sheet_7]
  refine ⟨by decide, fun d hd => ?_⟩
  have hdp := pool_ne hp hd
  have hdc : d ≠ c := fun e => by rw [e, hcell] at hd; cases hd
  have hd0 : μ d = none := by rw [← ho d hdp hdc]; exact hd
  walk_at "r"
  refine ⟨by omega, ?_⟩
  rw [show ((m : Nat) : Int).toNat = m by omega, range_map0]
  refine for_pre (enc := fun i : Nat => D.int (i : Int)) (fun pre δ μ' => ∃ (rs : List Fc) (x6 x7 : Option D), δ = [some (.raw (.ref p)), some (.int m), some (.int n), some (.raw (.ref c)), some (.lst (gs.map fr)), some (.raw (.ref d)), x6, x7, none] ∧ rs.length = pre.length ∧ (∀ f ∈ rs, RgtL f) ∧ Pool μ' p ∧ μ' c = some (.lst (cols.map colD)) ∧ μ' d = some (.lst (rs.map fr)) ∧ ∀ w, w ≠ p → w ≠ c → w ≠ d → μ' w = μ w)
    ⟨[], _, _, rfl, rfl, fun f h => (by cases h), pool_upd hdp hp, by rw [updM_ne (Ne.symm hdc)]; exact hcell, updM_same, fun w h1 h2 h3 => by rw [updM_ne h3]; exact ho w h1 h2⟩ ?_ ?_
  · rintro pre i post δ μ' hz ⟨rs, x6, x7, rfl, lr, hr, hp', hc', hd', ho'⟩
    refine ⟨trivial, ?_⟩
    have hl : pre.length < m := by
      have := congrArg List.length hz
      rw [List.length_range, List.length_append, List.length_cons] at this
      omega
    have len : (pre ++ [i]).length = pre.length + 1 := by rw [List.length_append]; rfl
    walk_at "r"
    refine ⟨p, rfl, hp', fun f μ2 hf h2 o2 => ?_⟩
    simp! only [fr]
    have c2 := oth_cell o2 hcp hc'
    have d2 := oth_cell o2 hdp hd'
    refine ⟨isL_cell d2, by decide, by decide, by decide, p, _, rfl, h2, by decide, by decide, fun r μ3 r0 r1 h3 o3 => ?_⟩
    have c3 := oth_cell o3 hcp c2
    have d3 := oth_cell o3 hdp d2
    have put : ∀ g : Fc, RgtL g → ∃ (rs' : List Fc) (x6 x7 : Option D), [some (D.raw (.ref p)), some (.int m), some (.int n), some (.raw (.ref c)), some (.lst (gs.map fr)), some (.raw (.ref d)), some (.int i), some (.tup [.int f.1, .int f.2]), none] = [some (.raw (.ref p)), some (.int m), some (.int n), some (.raw (.ref c)), some (.lst (gs.map fr)), some (.raw (.ref d)), x6, x7, none] ∧ rs'.length = (pre ++ [i]).length ∧ (∀ f ∈ rs', RgtL f) ∧ Pool (updM μ3 d (.lst (rs.map fr ++ [fr g]))) p ∧ (updM μ3 d (.lst (rs.map fr ++ [fr g]))) c = some (.lst (cols.map colD)) ∧ (updM μ3 d (.lst (rs.map fr ++ [fr g]))) d = some (.lst (rs'.map fr)) ∧ ∀ w, w ≠ p → w ≠ c → w ≠ d → (updM μ3 d (.lst (rs.map fr ++ [fr g]))) w = μ w := fun g hg =>
      ⟨rs ++ [g], _, _, rfl, by rw [List.length_append, lr, len]; rfl, fun x hx => by
        rcases List.mem_append.mp hx with h | h
        · exact hr x h
        · rw [List.mem_singleton.mp h]; exact hg, pool_upd hdp h3, by rw [updM_ne (Ne.symm hdc)]; exact c3, by rw [updM_same, List.map_append]; rfl, fun w k1 k2 k3 => by rw [updM_ne k3]; exact ((o2.trans o3) w k1).trans (ho' w k1 k2 k3)⟩
    have habs : (if f.1 < 0 then -f.1 else f.1) = (f.1.natAbs : Int) := by split <;> omega
    have hab : RgtL ((f.1.natAbs : Int), f.2) := ⟨⟨hf.p, by have := hf.c; unfold gcdI at this ⊢; rw [Int.natAbs_natCast]; exact this, hf.d, by have := hf.t; show (f.1.natAbs : Int).natAbs ≤ 4; omega⟩, by show (0 : Int) ≤ (f.1.natAbs : Int); omega⟩
    have zro : RgtL Z := ⟨part_Z, by decide⟩
    have rl : rs.length < sizeLine := by omega
    have hrr : r = 0 ∨ r = 1 ∨ r = 2 := by omega
    rcases hrr with rfl | rfl | rfl
    · simp! only [habs, show (0 : Int).fdiv 2 = 0 from rfl]
      exact ⟨divOk_small (by decide) (by decide), _, d3, by rw [List.length_map]; exact rl, put _ hab⟩
    · simp! only [habs, show (1 : Int).fdiv 2 = 0 from rfl]
      exact ⟨divOk_small (by decide) (by decide), _, d3, by rw [List.length_map]; exact rl, put _ hab⟩
    · simp! only [habs, show (2 : Int).fdiv 2 = 1 from rfl]
      exact ⟨divOk_small (by decide) (by decide), _, d3, by rw [List.length_map]; exact rl, put _ zro⟩
  · rintro δ μ' ⟨rs, x6, x7, rfl, lr, hr, hp', hc', hd', ho'⟩
    refine ⟨trivial, ?_⟩
    rw [List.length_range] at lr
    walk_at "r"
    have hsh : ShK 4 6 gs cols rs := ⟨lg.trans lc.symm, by omega, by omega, fun c hc' => by rw [(hc c hc').1, lr], hg, fun c hc' => (hc c hc').2, fun f hf => (hr f hf).1, fun f hf => (hr f hf).2⟩
    have dne : delM μ' c d = some (.lst (rs.map fr)) := by unfold delM; rw [if_neg hdc]; exact hd'
    refine ⟨_, hc', _, dne, by decide, .of (q (gs, cols, rs) _ ⟨hsh, by show 1 ≤ rs.length; omega⟩ ?_ fun w hw => ?_)⟩
    · exact pool_del hdp (pool_del hcp hp')
    · unfold delM
      by_cases e1 : w = d
      · rw [if_pos e1, e1]; exact hd0.symm
      · rw [if_neg e1]
        by_cases e2 : w = c
        · rw [if_pos e2, e2]; exact h0.symm
        · rw [if_neg e2]; exact ho' w hw e2 e1
theorem hb_law_sheet : HB c_lsheet t_law_sheet 9 := by
  intro ds μ Q X h
  obtain ⟨p, rfl, hp, q⟩ := h
  show t_law_sheet (ends Q XF) [some (.raw (.ref p)), none, none, none, none, none, none, none, none] μ
  have sz : 16777216 ≤ sizeLine := by decide
  have main : ∀ (m n : Nat) (μ1 : M), 1 ≤ m → m ≤ 10 → n ≤ 14 → Pool μ1 p → Oth μ μ1 p → t_law_sheet_3 (ends Q XF) [some (.raw (.ref p)), some (.int m), some (.int n), none, none, none, none, none, none] μ1 := by
    intro m n μ1 m1 m10 n14 h1 o1
    simp! only [t_law_sheet_3]
    refine ⟨by omega, ?_⟩
    rw [show ((n : Nat) : Int).toNat = n by omega, range_map0]
    refine comp_draw (enc := fun i : Nat => D.int (i : Int)) (g := colD) (P := fun _ c => c.length = m ∧ ∀ f ∈ c, PartL f) (fun _ _ => trivial) h1 (by rw [List.length_range]; omega) (fun i _ acc R μ2 h2 o2 ha hR => ?_) fun cols μ2 hcs h2 o2 => ?_
    · walk_at "r"
      refine ⟨by omega, ?_⟩
      rw [show ((m : Nat) : Int).toNat = m by omega, range_map0]
      refine comp_draw (enc := fun i : Nat => D.int (i : Int)) (g := fr) (P := fun _ f => PartL f) (fun _ _ => trivial) h2 (by rw [List.length_range]; omega) (fun j _ acc R μ3 h3 o3 ha3 hR3 => ?_) fun fs μ3 hfs h3 o3 => ?_
      · walk_at "r"
        refine ⟨p, rfl, h3, fun f μ4 hf h4 o4 => ?_⟩
        walk_at "r"
        exact ⟨ha3, hR3 f μ4 hf h4 o4⟩
      · walk_at "r"
        refine ⟨ha, hR fs μ3 ⟨by rw [hfs.1, List.length_range], fun f hf => (by obtain ⟨_, _, z⟩ := hfs.mem hf; exact z)⟩ h3 o3⟩
    · intro c hc
      have hcp := pool_ne h2 hc
      have h0 : μ c = none := by rw [← (o1.trans o2) c hcp]; exact hc
      have lc : cols.length = n := by rw [hcs.1, List.length_range]
      have pc : ∀ c ∈ cols, c.length = m ∧ ∀ f ∈ c, PartL f := fun c hc => by obtain ⟨_, _, z⟩ := hcs.mem hc; exact z
      walk_at "r"
      refine ⟨by omega, ?_⟩
      rw [show ((n : Nat) : Int).toNat = n by omega, range_map0]
      refine comp_draw (p := p) (enc := fun i : Nat => D.int (i : Int)) (g := fr) (P := fun _ f => PartL f) (fun _ _ => trivial) (pool_upd hcp h2) (by rw [List.length_range]; omega) (fun j _ acc R μ3 h3 o3 ha3 hR3 => ?_) fun gs μ3 hfs h3 o3 => ?_
      · walk_at "r"
        refine ⟨p, rfl, h3, fun f μ4 hf h4 o4 => ?_⟩
        walk_at "r"
        exact ⟨ha3, hR3 f μ4 hf h4 o4⟩
      have lg : gs.length = n := by rw [hfs.1, List.length_range]
      have pg : ∀ f ∈ gs, PartL f := fun f hf => by obtain ⟨_, _, z⟩ := hfs.mem hf; exact z
      have c3 : μ3 c = some (.lst (cols.map colD)) := oth_cell o3 hcp updM_same
      have ho3 : Oth2 μ μ3 p c := (Oth2.new (o1.trans o2)).step o3
      have last : ∀ (cols : List (List Fc)) (μ4 : M), cols.length = n → (∀ c ∈ cols, c.length = m ∧ ∀ f ∈ c, PartL f) → μ4 c = some (.lst (cols.map colD)) → Pool μ4 p → Oth2 μ μ4 p c →
          dSeq (dIf (dAnd (dB (dOp gGt (dVar 2) (dC (.int 0)))) (dB (dOp gEq (dCall c_take (dCons (dVar 0) (dCons (dC (.int 6)) dNil))) (dC (.int 0))))) (dSetIx (dOp gMul (dLst (dCons (dTup (dCons (dC (.int 0)) (dCons (dC (.int 1)) dNil))) dNil)) (dVar 1)) (dVar 3) (dNeg (dC (.int 1)))) dNext) t_law_sheet_7 (ends Q XF) [some (.raw (.ref p)), some (.int m), some (.int n), some (.raw (.ref c)), some (.lst (gs.map fr)), none, none, none, none] μ4 := by
        intro cols μ4 lc pc hcell h4 ho4
        have rg := fun {cols : List (List Fc)} {μ5 : M} lc pc hp hcell ho => rights (cols := cols) (μ1 := μ5) q m1 m10 pg lg lc n14 pc hp hcell hcp h0 ho
        walk_at "r"
        refine ifAnd_dec (fun hn => ?_) fun hn => ?_
        · walk_at "r"
          refine ⟨p, _, rfl, h4, by decide, by decide, fun r μ5 r0 r1 h5 o5 => ?_⟩
          have c5 := oth_cell o5 hcp hcell
          walk_at "r"
          refine ⟨okN_int, okN_int, ifS_dec (fun e => ?_) fun e => ?_⟩
          · walk_at "r"
            refine ⟨by decide, by decide, ⟨by omega, by omega, by omega⟩, _, c5, ?_⟩
            have il : ixN (cols.map colD).length (-1) = some (n - 1) := by
              unfold ixN
              rw [List.length_map, lc, if_neg (by decide), if_pos (by omega)]
              congr 1
              omega
            rw [il]
            walk_at "r"
            have ez : D.lst (List.replicate (m : Int).toNat [D.tup [.int 0, .int 1]]).flatten = colD (List.replicate m Z) := by
              rw [show ((m : Nat) : Int).toNat = m by omega, rep_Z]
              rfl
            rw [ez, ← List.map_set]
            refine rg (by rw [List.length_set]; exact lc) (fun c hc => ?_) (pool_upd hcp h5) updM_same (fun w k1 k2 => by rw [updM_ne k2]; exact (o5 w k1).trans (ho4 w k1 k2))
            rcases List.mem_or_eq_of_mem_set hc with h | h
            · exact pc c h
            · rw [h]
              exact ⟨List.length_replicate, fun f hf => by rw [List.eq_of_mem_replicate hf]; exact part_Z⟩
          · walk_at "r"
            exact rg lc pc h5 c5 (ho4.step o5)
        · walk_at "r"
          exact rg lc pc h4 hcell ho4
      walk_at "s"
      rw [dSeq]
      walk_at "s"
      refine ifAnd_dec (fun hn => ?_) fun hn => ?_
      · walk_at "s"
        refine ⟨p, _, rfl, h3, by decide, by decide, fun r μ4 r0 r1 h4 o4 => ?_⟩
        have c4 := oth_cell o4 hcp c3
        walk_at "s"
        refine ⟨okN_int, okN_int, ifS_dec (fun e => ?_) fun e => ?_⟩
        · obtain ⟨ys, y, rfl⟩ : ∃ ys y, cols = ys ++ [y] := ⟨cols.dropLast, cols.getLast (by intro e; rw [e] at lc; simp only [List.length_nil] at lc; omega), (List.dropLast_concat_getLast _).symm⟩
          have al : atI ((ys ++ [y]).map colD) (-1) = some (colD y) := by
            rw [List.map_append]
            exact NBD.at_last
          walk_at "s"
          rw [view_cell c4]
          simp only [DL.dSet, DL.kSet, DL.dCB, DL.kCB, DL.dCons, DL.kCons1, DL.kCons2, DL.dNil, DL.dVar, DL.dC, DL.dOp, DL.kOp1, DL.kOp2, DL.dB, DL.kB, DL.dIf, DL.kIf, DL.dRet, DL.dRetN, DL.dTup, DL.kTup, DL.dLst, DL.kLst, DL.dLstC, DL.kLstC, DL.dCall, DL.kCall, DL.dCallK, DL.kCallK1, DL.kCallK2, DL.dLenIs, DL.kLenIs, DL.dNext, DL.dDrop, DL.kDrop, DL.dPar, DL.kPar, DL.dAug, DL.kAug, DL.dAsg, DL.kAsg, DL.dSetIx, DL.kSetIx1, DL.kSetIx2, DL.kSetIx3, DL.dTru, DL.kTru, DL.dAnd, DL.kAnd, DL.dOr, DL.kOr, DL.dNot, DL.kNot, DL.dAndV, DL.kAndV, DL.dOrV, DL.kOrV, DL.dNotV, DL.kNotV, DL.dIfE, DL.kIfE, DL.dChain, DL.kChain1, DL.kChain2, DL.kChain3_true, DL.kChain3_false, DL.dNeg, DL.kNeg, DL.dFz, DL.kFz, DL.dRaise, DL.dTryAs, DL.suiteE, DL.kUnset, DL.dFor, DL.kFor, DL.dSeqI, DL.kSeqI, DL.dRange1, DL.kRange1, DL.dRange2, DL.kRange2, DL.dLc, DL.kLc, DL.dLcC, DL.kLstD, DL.kNewC, DL.dYes, DL.wipeD, DL.loopD, DL.compD, DL.kItem, DL.kTest_true, DL.kTest_false, DL.putIx_some, DL.setsK_some, DL.turnD_some, DL.turnC_some, DL.ifS_true, DL.ifS_false, DL.ifAnd_true, DL.ifAnd_false, DL.ifOr_true, DL.ifOr_false, DL.ifAndV_true, DL.ifAndV_false, DL.ifOrV_true, DL.ifOrV_false, DL.ifE_true, DL.ifE_false, DL.srcOf, DL.tgN, DL.tgT, DL.tgNil, DL.tgCons, DL.sets, List.foldl_cons, List.foldl_nil, DL.gI, DL.gI0, DL.gAdd, DL.gMul, DL.gIx, DL.gEq, DL.gNe, DL.gIs, DL.gIn, DL.gLen, DL.gAbs, DL.gMax2, DL.gMin2, DL.gAll, DL.gAny, DL.gSum, DL.gList, DL.gListC, DL.gTuple, DL.gIsiC, DL.gIsi, DL.tyN, DL.subN_NoneType_int, DL.subN_NoneType_bool, DL.subN_NoneType_str, DL.subN_NoneType_list, DL.subN_NoneType_tuple, DL.subN_bool_int, DL.subN_bool_bool, DL.subN_bool_str, DL.subN_bool_list, DL.subN_bool_tuple, DL.subN_int_int, DL.subN_int_bool, DL.subN_int_str, DL.subN_int_list, DL.subN_int_tuple, DL.subN_str_int, DL.subN_str_bool, DL.subN_str_str, DL.subN_str_list, DL.subN_str_tuple, DL.subN_list_int, DL.subN_list_bool, DL.subN_list_str, DL.subN_list_list, DL.subN_list_tuple, DL.subN_tuple_int, DL.subN_tuple_bool, DL.subN_tuple_str, DL.subN_tuple_list, DL.subN_tuple_tuple, DL.truD, DL.blsOf, DL.view_non, DL.view_bl, DL.view_int', DL.view_str', DL.view_lst', DL.view_tup', DL.view_scr', DL.ends, DL.kEnd, DL.OptP_some, DL.OptQ_some, DL.OptB_some, DL.OptS_some, List.getElem?_cons_zero, List.getElem?_cons_succ, List.set_cons_zero, List.set_cons_succ, DL.atI_zero, DL.atI_one, DL.atI_two, List.length_cons, List.length_nil, DL.pick, List.filterMap_cons, List.filterMap_nil, List.nil_append, List.cons_append, List.map_cons, List.map_nil, Option.map_some, Option.bind_some, true_and, and_true, Bool.false_eq_true, Bool.not_true, Bool.not_false, Bool.xor_false, Bool.xor_true, Bool.false_xor, Bool.true_xor, decide_true, decide_false, Nat.zero_add, Nat.reduceAdd, not_true_eq_false, not_false_eq_true, DL.eqD_int, DL.eqD_str, DL.eqD_bl, DL.eqD_tup, DL.eqD_lst, DL.eqDs_nil, DL.eqDs_cons, Bool.and_true, Bool.and_false, List.all_cons, List.all_nil, List.any_cons, List.any_nil, Bool.and_self, DL.dM, DL.kM1, DL.kM2, DL.dM0, DL.kM0, DL.gAppend, DL.gInsert, DL.gExtend, DL.gPop1, DL.gPop0, DL.gReverse, DL.gSort, DL.gRemove, DL.gCount, DL.gIndex, DL.dSlG, DL.kSl1, DL.kSl2, DL.kSl3, DL.gSl, DL.gSlC, DL.dNoPart, DL.dPart, DL.kPart, DL.dLR1, DL.kLR1, DL.dLR2, DL.kLR21, DL.kLR22, DL.nLst, DL.gRepC, DL.gCatC, DL.gInt, DL.gSorted, DL.gMaxL, DL.gMinL, DL.dEnum, DL.kEnum, DL.dZip2, DL.kZip2, DL.dZip3, DL.kZip3, DL.OptS2_some, DL.OptS3_some, DL.dRev, DL.kRev, DL.dEmp, DL.view_emp', DL.subN_dict_int, DL.subN_dict_bool, DL.subN_dict_str, DL.subN_dict_list, DL.subN_dict_tuple, DL.cellL_lst, DL.cellL_none, DL.gCountD, DL.gRepr, DL.gEqS, DL.dTryK, DL.keepD, DL.kKeep, DL.kKeepR, DL.dXf, al, colD]
          refine ⟨_, c4, ?_⟩
          rw [show ixN ((ys ++ [y]).map colD).length 0 = some 0 from by rw [List.length_map, lc]; exact ixN_nat (i := 0) (by omega)]
          walk_at "s"
          rw [show D.lst (y.map fr) = colD y from rfl, ← List.map_set]
          refine last _ _ (by rw [List.length_set]; exact lc) (fun c hc => ?_) updM_same (pool_upd hcp h4) (fun w k1 k2 => by rw [updM_ne k2]; exact (o4 w k1).trans (ho3 w k1 k2))
          rcases List.mem_or_eq_of_mem_set hc with h | h
          · exact pc c h
          · rw [h]
            exact pc y (by simp)
        · walk_at "s"
          exact last cols _ lc pc c4 h4 (ho3.step o4)
      · walk_at "s"
        exact last cols _ lc pc c3 h3 ho3
  simp! only [t_law_sheet]
  refine ⟨p, _, rfl, hp, by decide, by decide, fun a μ1 a0 a1 h1 o1 => ?_⟩
  walk_at "r"
  refine ⟨p, _, rfl, h1, by decide, by decide, fun b μ2 b0 b1 h2 o2 => ?_⟩
  walk_at "r"
  refine ⟨p, _, rfl, h2, by decide, by decide, fun e μ3 e0 e1 h3 o3 => ?_⟩
  obtain ⟨a, rfl⟩ := Int.eq_ofNat_of_zero_le a0
  obtain ⟨b, rfl⟩ := Int.eq_ofNat_of_zero_le b0
  walk_at "r"
  refine ⟨okN_int, okN_int, ifS_dec (fun h => ?_) fun h => ?_⟩
  · walk_at "r"
    exact main 10 14 μ3 (by decide) (by decide) (by decide) h3 ((o1.trans o2).trans o3)
  · have := main (1 + a) b μ3 (by omega) (by omega) (by omega) h3 ((o1.trans o2).trans o3)
    rw [show ((1 + a : Nat) : Int) = 1 + (a : Int) by omega] at this
    walk_at "r"
    exact this
def c_lround : Ct := fun ds μ Q _ => ds = [] ∧ Q (.bl true) μ
def t_law (C_Board : Addr) : DTS :=
  (dSeq (dIf (dNot (dTru (dCall c_lround dNil))) (dRet (dC (.bl false))) dNext)
    (dSeq (dFor (dRange1 (dCons (dCB gMax2 (dCons (dC (.int 1)) (dCons (dCB gMin2 (dCons (dCB gLen (dCons (dVar 0) dNil)) (dCons (dC (.int 8)) dNil))) dNil))) dNil)) (tgN 1) (dSeq (dSet 2 (dCall c_pool (dCons (dVar 0) (dCons (dVar 1) dNil))))
    (dSeq (dSet 3 (dCall c_lsheet (dCons (dVar 2) dNil)))
    (dSeq (dSet 4 (dCB gRepr (dCons (dVar 3) dNil)))
    (dSeq (dSet 5 (dCall (c_mostof C_Board) (dCons (dVar 3) dNil)))
    (dSeq (dIf (dOr (dNot (dTru (dBor [5] (dCall c_listold (dCons (dVar 3) (dCons (dVar 5) dNil)))))) (dOr (dB (dOp (gIs true) (dBor [5] (dCall c_letsmost (dCons (dVar 3) (dCons (dVar 5) dNil)))) (dC (.bl true)))) (dB (dOp (gEqS true) (dCB gRepr (dCons (dVar 3) dNil)) (dVar 4))))) (dRet (dC (.bl false))) dNext)
    (dSeq (dSet 6 (dCB gRepr (dCons (dOp gIx (dVar 5) (dNeg (dC (.int 1)))) dNil)))
    (dSeq (dIf (dB (dOp gEq (dCB gLen (dCons (dVar 5) dNil)) (dC (.int 3)))) (dSeq (dDrop (dM gAppend (dOp gIx (dVar 5) (dC (.int 1))) (dCons (dC .non) dNil)))
    (dIf (dB (dOp (gEqS true) (dCB gRepr (dCons (dOp gIx (dVar 5) (dC (.int 2))) dNil)) (dVar 6))) (dRet (dC (.bl false))) dNext)) dNext)
    (dSeq (dDrop (dM gAppend (dOp gIx (dVar 5) (dNeg (dC (.int 1)))) (dCons (dC .non) dNil)))
    (dSeq (dSet 7 (dCall (c_mostof C_Board) (dCons (dVar 3) dNil)))
    (dIf (dOr (dNot (dTru (dBor [7] (dCall c_listold (dCons (dVar 3) (dCons (dVar 7) dNil)))))) (dOr (dB (dOp gNe (dOp gIx (dVar 7) (dC (.int 0))) (dOp gIx (dVar 5) (dC (.int 0))))) (dB (dOp (gEqS true) (dCB gRepr (dCons (dVar 3) dNil)) (dVar 4))))) (dRet (dC (.bl false))) dNext)))))))))))
    (dRet (dC (.bl true)))))
theorem not_both {P : Prob} {β γ : Bas} {e : Nat} (h : AtEnd P β) (k : AtRay P γ e) : False := by
  obtain ⟨hg, hall⟩ := h
  obtain ⟨kg, he, neg, no⟩ := k
  have id1 := Simp.gk_of kg.ok (γ := β) (s := e)
  have p1 := kg.ok.pos
  have p2 := hg.ok.pos
  have a1 := Int.mul_nonneg (Int.le_of_lt p1) (hall e he)
  have a2 := Int.mul_neg_of_pos_of_neg p2 neg
  have a3 : Det.sm P.m (fun i => T P γ i (P.A e) * gk P β (γ i)) ≤ 0 := by
    have := Det.sm_le (n := P.m) (f := fun i => T P γ i (P.A e) * gk P β (γ i)) (g := fun _ => 0) fun i hi => Int.mul_nonpos_of_nonpos_of_nonneg (no i hi) (hall _ (kg.rg i hi))
    rwa [Det.sm_zero fun _ _ => rfl] at this
  omega
theorem sh_told {fs : List Fc} (h : ∀ f ∈ fs, Ok 150 f) (l : fs.length ≤ 14) : Sh 2 8613 (.lst (fs.map fr)) := (sh_lst (n := 1) (c := 613) (k := 14) (by rw [List.length_map]; exact l) fun x hx => by
  obtain ⟨f, hf, rfl⟩ := List.mem_map.mp hx
  exact sh_ok (h f hf) (by decide))
theorem sh_sheet {gs : List Fc} {cols : List (List Fc)} {rs : List Fc} (h : ShS gs cols rs) : Sh 4 361850 (sheetD gs cols rs) := by
  refine (sh_tup (n := 3) (c := 120613) (k := 3) (xs := [.lst (gs.map fr), .lst (cols.map colD), .lst (rs.map fr)]) (by simp) fun x hx => ?_).mono (by decide) (by decide)
  simp only [List.mem_cons, List.not_mem_nil, or_false] at hx
  have l1 := h.l1
  have l2 := h.l2
  rcases hx with rfl | rfl | rfl
  · exact (sh_told (fun f hf => (h.og f hf).mono (by decide)) (by rw [h.l]; exact l1)).mono (by decide) (by decide)
  · refine (sh_lst (n := 2) (c := 8613) (k := 14) (by rw [List.length_map]; exact l1) fun x hx => ?_).mono (by decide) (by decide)
    obtain ⟨c, hc, rfl⟩ := List.mem_map.mp hx
    exact sh_told (fun f hf => (h.oc c hc f hf).mono (by decide)) (by rw [h.c c hc]; exact l2)
  · exact (sh_told (fun f hf => (h.or f hf).mono (by decide)) l2).mono (by decide) (by decide)
theorem pt_told {fs : List Fc} (h : ∀ f ∈ fs, Ok 150 f) (l : fs.length ≤ 100) : PtOk (.lst (fs.map fr)) := ⟨rfl, fun w e => (by cases e), fun xs e => by
  injection e with e
  subst e
  refine ⟨by rw [List.length_map]; exact l, fun x hx => ?_⟩
  obtain ⟨f, hf, rfl⟩ := List.mem_map.mp hx
  refine ⟨⟨rfl, fun xs e x hx => by
    injection e with e
    subst e
    simp only [List.mem_cons, List.not_mem_nil, or_false] at hx
    rcases hx with rfl | rfl <;> rfl⟩, fun g e _ _ => by rw [← fr_inj' e]; exact h f hf⟩⟩
theorem pt_str {w : Str} (h : PyData.strOk w = true) : PtOk (.str w) := ⟨rfl, fun v e => (by cases e; exact h), fun xs e => (by cases e)⟩
theorem th_most {xs ys : List Fc} (h1 : ∀ f ∈ xs, Ok 150 f) (h2 : ∀ f ∈ ys, Ok 150 f) (l1 : xs.length ≤ 14) (l2 : ys.length ≤ 14) : ThOk (toldM xs ys) := ⟨rfl, fun zs e => by
  injection e with e
  subst e
  refine ⟨by show 3 ≤ 10; decide, fun x hx => ?_⟩
  simp only [List.mem_cons, List.not_mem_nil, or_false] at hx
  rcases hx with rfl | rfl | rfl
  · exact pt_str (by decide +kernel)
  · exact pt_told h1 (by omega)
  · exact pt_told h2 (by omega)⟩
theorem th_end {xs : List Fc} (h1 : ∀ f ∈ xs, Ok 150 f) (l1 : xs.length ≤ 14) : ThOk (toldE xs) := ⟨rfl, fun zs e => by
  injection e with e
  subst e
  refine ⟨by show 2 ≤ 10; decide, fun x hx => ?_⟩
  simp only [List.mem_cons, List.not_mem_nil, or_false] at hx
  rcases hx with rfl | rfl
  · exact pt_str (by decide +kernel)
  · exact pt_told h1 (by omega)⟩
theorem gcd_ok {n : Nat} {f : Fc} (h : Ok n f) : gcdI f.1 f.2 = 1 := by
  have := h.cop
  unfold gcdI
  omega
theorem lets_most_of {gs : List Fc} {cols : List (List Fc)} {rs xs ys : List Fc} (h : MostQ gs cols rs xs ys) (o1 : ∀ f ∈ xs, Ok 150 f) (o2 : ∀ f ∈ ys, Ok 150 f) : Lets gs cols rs (toldM xs ys) :=
  .inl ⟨_, _, xs, ys, rfl, ⟨rfl, h.lx, fun f hf => ⟨(o1 f hf).pos, gcd_ok (o1 f hf), h.px f hf⟩⟩, ⟨rfl, h.ly, fun f hf => ⟨(o2 f hf).pos, gcd_ok (o2 f hf), h.py f hf⟩⟩, h⟩
theorem lets_end_of {gs : List Fc} {cols : List (List Fc)} {rs xs : List Fc} (h : EndQ gs cols rs.length xs) (o1 : ∀ f ∈ xs, Ok 150 f) : Lets gs cols rs (toldE xs) :=
  .inr ⟨_, xs, rfl, ⟨rfl, h.lx, fun f hf => ⟨(o1 f hf).pos, gcd_ok (o1 f hf), h.px f hf⟩⟩, h⟩
theorem hb_law {C : Addr} : HB cLaw (t_law C) 8 := by
  intro ds μ Q X h
  obtain ⟨ns, rfl, hl, q⟩ := h
  show t_law C (ends Q XF) [some (.scr ns), none, none, none, none, none, none, none] μ
  have sz : 16777216 ≤ sizeLine := by decide
  simp! only [t_law]
  refine ⟨rfl, ?_⟩
  walk_at "r"
  refine ⟨by constructor <;> (split <;> (try split) <;> omega), ?_⟩
  refine ⟨fun i δ μ' => ∃ x1 x2 x3 x4 x5 x6 x7, δ = [some (.scr ns), x1, x2, x3, x4, x5, x6, x7], ⟨_, _, _, _, _, _, _, rfl⟩, ?_⟩
  rintro i δ μ' ⟨x1, x2, x3, x4, x5, x6, x7, rfl⟩
  refine ⟨trivial, fun d hd => ?_, fun hi => ?_⟩
  case refine_2 =>
    walk_at "r"
    exact .of (q _)
  have hk : ∃ k : Int, d = .int k ∧ 0 ≤ k ∧ k < 100 := by
    obtain ⟨rfl, hi⟩ := rangeD_some hd
    refine ⟨_, rfl, by omega, ?_⟩
    revert hi
    split <;> (try split) <;> omega
  obtain ⟨k, rfl, hk0, hk1⟩ := hk
  walk_at "r"
  refine ⟨ns, k, rfl, hk0, hk1, fun p μ1 hp hP ho => ?_⟩
  walk_at "r"
  refine ⟨p, rfl, hP, fun x μ2 hx h2 o2 => ?_⟩
  obtain ⟨gs, cols, rs⟩ := x
  obtain ⟨sk, r1⟩ := hx
  dsimp only at sk r1 ⊢
  have ok : ShOk gs cols rs := sk.sh (by decide) (by decide) (by decide)
  have ss : ShS gs cols rs := sk.ss (by decide) (by decide) (by decide)
  have hsh := sh_sheet ss
  have hok : okN 64 (sheetD gs cols rs) = true := okN_mono hsh.ok (by decide)
  have hlen := hsh.shown (by decide)
  have hv : ∀ μ : M, view μ (sheetD gs cols rs) = sheetD gs cols rs := fun _ => rfl
  have l1 := ss.l1
  have l2 := ss.l2
  have hB : (rs.length + 1) * (4 * 6 + 1) * (rs.length * (4 * 6 + 1)) ^ rs.length * (2 * 6) < 2 ^ 150 := by
    have h10 := sk.l2
    have p1 : (rs.length * (4 * 6 + 1)) ^ rs.length ≤ (10 * 25) ^ 10 := Nat.le_trans (Nat.pow_le_pow_left (Nat.mul_le_mul_right _ h10) _) (Nat.pow_le_pow_right (by decide) h10)
    exact Nat.lt_of_le_of_lt (Nat.mul_le_mul_right _ (Nat.mul_le_mul (Nat.mul_le_mul_right _ (show rs.length + 1 ≤ 11 by omega)) p1)) (by decide)
  simp! only [hv]
  have again : ∀ (w : Str) (us : List D) (x6 : D) (x7 : Option D) (μ4 : M), okN 64 (.str w) = true → (∀ β, AtEnd (shP rs (gs.zip cols)) β → w = PySem.Str.ofString "most") → (∀ β e, AtRay (shP rs (gs.zip cols)) β e → w = PySem.Str.ofString "endless") →
      dSeq (dSet 7 (dCall (c_mostof C) (dCons (dVar 3) dNil))) (dIf (dOr (dNot (dTru (dBor [7] (dCall c_listold (dCons (dVar 3) (dCons (dVar 7) dNil)))))) (dOr (dB (dOp gNe (dOp gIx (dVar 7) (dC (.int 0))) (dOp gIx (dVar 5) (dC (.int 0))))) (dB (dOp (gEqS true) (dCB gRepr (dCons (dVar 3) dNil)) (dVar 4))))) (dRet (dC (.bl false))) dNext)
        { nx := fun δ μ' => ∃ x1 x2 x3 x4 x5 x6 x7, δ = [some (.scr ns), x1, x2, x3, x4, x5, x6, x7], rt := DL.Fin Q, bk := dRet (dC (.bl true)) { nx := kEnd Q, rt := DL.Fin Q, bk := fun _ _ => False, ct := fun _ _ => False, xc := fun _ => XF }, ct := fun δ μ' => ∃ x1 x2 x3 x4 x5 x6 x7, δ = [some (.scr ns), x1, x2, x3, x4, x5, x6, x7], xc := fun _ => XF }
        [some (.scr ns), some (.int k), some (.raw (.ref p)), some (sheetD gs cols rs), some (.str (reprD (sheetD gs cols rs))), some (.tup (.str w :: us)), some x6, x7] μ4 := by
    intro w us x6 x7 μ4 hw h1 h2
    walk_at "r"
    refine ⟨gs, cols, rs, rfl, ok, fun β ae c d hc hd hcd => ?_, fun β e ar c hc => ?_⟩
    · obtain ⟨o1, o2, _⟩ := told_ok sk (by decide) hB ae.1 r1
      have mq := most_told ok ae
      have ew := h1 β ae
      subst ew
      generalize shL (shP rs (gs.zip cols)) β (cmN rs) (shS rs (gs.zip cols)) = xs at mq o1 ⊢
      generalize prL (shP rs (gs.zip cols)) β = ys at mq o2 ⊢
      have mc : updM (updM μ4 c (.lst (xs.map fr))) d (.lst (ys.map fr)) c = some (.lst (xs.map fr)) := by rw [updM_ne hcd, updM_same]
      have dv : DV (updM (updM μ4 c (.lst (xs.map fr))) d (.lst (ys.map fr))) noM (.tup [.str (PySem.Str.ofString "most"), .raw (.ref c), .raw (.ref d)]) (toldM xs ys) := .tup (.cons (.same _) (.cons (.cel mc rfl (DVA.same _)) (.cons (.cel updM_same rfl (DVA.same _)) .nil)))
      generalize updM (updM μ4 c (.lst (xs.map fr))) d (.lst (ys.map fr)) = μ5 at *
      simp! only [dBor, seeS]
      refine ⟨_, _, rfl, dv, ?_⟩
      simp! only [kSee, kBor]
      refine ⟨gs, cols, rs, _, rfl, ss, .inl ⟨xs, ys, rfl, ⟨o1, mq.px⟩, ⟨o2, mq.py⟩, mq⟩, ?_⟩
      simp! only [kBor, hv]
      exact ⟨rfl, hw, hw, hok, hsh.sh, hlen, _, _, _, _, _, _, _, rfl⟩
    · obtain ⟨_, _, o3⟩ := told_ok sk (by decide) hB ar.1 r1
      have eq := end_told ok ar
      have o3 := o3 e ar.2.1 ar.2.2.1
      have ew := h2 β e ar
      subst ew
      generalize ryL (shP rs (gs.zip cols)) β (shS rs (gs.zip cols)) e = xs at eq o3 ⊢
      have mc : updM μ4 c (.lst (xs.map fr)) c = some (.lst (xs.map fr)) := updM_same
      have dv : DV (updM μ4 c (.lst (xs.map fr))) noM (.tup [.str (PySem.Str.ofString "endless"), .raw (.ref c)]) (toldE xs) := .tup (.cons (.same _) (.cons (.cel mc rfl (DVA.same _)) .nil))
      generalize updM μ4 c (.lst (xs.map fr)) = μ5 at *
      simp! only [dBor, seeS]
      refine ⟨_, _, rfl, dv, ?_⟩
      simp! only [kSee, kBor]
      refine ⟨gs, cols, rs, _, rfl, ss, .inr ⟨xs, rfl, ⟨o3, eq.px⟩, eq⟩, ?_⟩
      simp! only [kBor, hv]
      exact ⟨rfl, hw, hw, hok, hsh.sh, hlen, _, _, _, _, _, _, _, rfl⟩
  refine ⟨hok, hsh.sh, hlen, gs, cols, rs, rfl, ok, fun β ae c d hc hd hcd => ?_, fun β e ar c hc => ?_⟩
  · obtain ⟨o1, o2, _⟩ := told_ok sk (by decide) hB ae.1 r1
    have mq := most_told ok ae
    generalize shL (shP rs (gs.zip cols)) β (cmN rs) (shS rs (gs.zip cols)) = xs at mq o1 ⊢
    generalize prL (shP rs (gs.zip cols)) β = ys at mq o2 ⊢
    have mc : updM (updM μ2 c (.lst (xs.map fr))) d (.lst (ys.map fr)) c = some (.lst (xs.map fr)) := by rw [updM_ne hcd, updM_same]
    have md : updM (updM μ2 c (.lst (xs.map fr))) d (.lst (ys.map fr)) d = some (.lst (ys.map fr)) := updM_same
    have dv : DV (updM (updM μ2 c (.lst (xs.map fr))) d (.lst (ys.map fr))) noM (.tup [.str (PySem.Str.ofString "most"), .raw (.ref c), .raw (.ref d)]) (toldM xs ys) := .tup (.cons (.same _) (.cons (.cel mc rfl (DVA.same _)) (.cons (.cel md rfl (DVA.same _)) .nil)))
    have lx : xs.length ≤ 14 := by rw [mq.lx]; exact l1
    have ly : ys.length ≤ 14 := by rw [mq.ly]; exact l2
    generalize updM (updM μ2 c (.lst (xs.map fr))) d (.lst (ys.map fr)) = μ3 at *
    simp! only [dBor, seeS]
    refine ⟨_, _, rfl, dv, ?_⟩
    simp! only [kSee, kBor]
    refine ⟨gs, cols, rs, _, rfl, ss, .inl ⟨xs, ys, rfl, ⟨o1, mq.px⟩, ⟨o2, mq.py⟩, mq⟩, ?_⟩
    simp! only [kBor]
    refine ⟨rfl, ?_⟩
    simp! only [dBor, seeS]
    refine ⟨_, _, rfl, dv, ?_⟩
    simp! only [kSee, kBor]
    refine ⟨gs, cols, rs, _, rfl, ss, th_most o1 o2 lx ly, fun b hb => ?_⟩
    have hb := hb.mpr (lets_most_of mq o1 o2)
    subst hb
    simp! only [kBor, hv]
    refine ⟨rfl, ?_⟩
    have am : atI [D.str (PySem.Str.ofString "most"), D.raw (.ref c), D.raw (.ref d)] (-1) = some (.raw (.ref d)) := rfl
    have sd := sh_told o2 ly
    have okd : okN 64 (.lst (ys.map fr)) = true := okN_frs (n := 62)
    have lend := sd.shown (by decide)
    rw [am]
    refine ⟨hok, hsh.sh, hlen, ?_⟩
    walk_at "r"
    rw [view_cell md]
    refine ⟨okd, sd.sh, lend, rfl, rfl, ?_⟩
    refine ⟨isL_cell mc, _, mc, by rw [List.length_map]; omega, ?_⟩
    walk_at "r"
    rw [show view (updM μ3 c (.lst (xs.map fr ++ [.non]))) (.raw (.ref d)) = .lst (ys.map fr) from view_cell (by rw [updM_ne (Ne.symm hcd)]; exact md)]
    refine ⟨okd, sd.sh, lend, ?_⟩
    rw [decide_eq_true rfl]
    walk_at "r"
    rw [am]
    walk_at "r"
    refine ⟨isL_cell (by rw [updM_ne (Ne.symm hcd)]; exact md), _, by rw [updM_ne (Ne.symm hcd)]; exact md, by rw [List.length_map]; omega, ?_⟩
    have z := again (PySem.Str.ofString "most") [.raw (.ref c), .raw (.ref d)] (.str (reprD (.lst (ys.map fr)))) x7 (updM (updM μ3 c (.lst (xs.map fr ++ [.non]))) d (.lst (ys.map fr ++ [.non]))) most_ok (fun _ _ => rfl) fun γ e ar => (not_both ae ar).elim
    revert z
    walk_at "r"
    exact id
  · obtain ⟨_, _, o3⟩ := told_ok sk (by decide) hB ar.1 r1
    have eq := end_told ok ar
    have o3 := o3 e ar.2.1 ar.2.2.1
    generalize ryL (shP rs (gs.zip cols)) β (shS rs (gs.zip cols)) e = xs at eq o3 ⊢
    have mc : updM μ2 c (.lst (xs.map fr)) c = some (.lst (xs.map fr)) := updM_same
    have dv : DV (updM μ2 c (.lst (xs.map fr))) noM (.tup [.str (PySem.Str.ofString "endless"), .raw (.ref c)]) (toldE xs) := .tup (.cons (.same _) (.cons (.cel mc rfl (DVA.same _)) .nil))
    have lx : xs.length ≤ 14 := by rw [eq.lx]; exact l1
    generalize updM μ2 c (.lst (xs.map fr)) = μ3 at *
    simp! only [dBor, seeS]
    refine ⟨_, _, rfl, dv, ?_⟩
    simp! only [kSee, kBor]
    refine ⟨gs, cols, rs, _, rfl, ss, .inr ⟨xs, rfl, ⟨o3, eq.px⟩, eq⟩, ?_⟩
    simp! only [kBor]
    refine ⟨rfl, ?_⟩
    simp! only [dBor, seeS]
    refine ⟨_, _, rfl, dv, ?_⟩
    simp! only [kSee, kBor]
    refine ⟨gs, cols, rs, _, rfl, ss, th_end o3 lx, fun b hb => ?_⟩
    have hb := hb.mpr (lets_end_of eq o3)
    subst hb
    simp! only [kBor, hv]
    refine ⟨rfl, ?_⟩
    have am : atI [D.str (PySem.Str.ofString "endless"), D.raw (.ref c)] (-1) = some (.raw (.ref c)) := rfl
    have sd := sh_told o3 lx
    have okd : okN 64 (.lst (xs.map fr)) = true := okN_frs (n := 62)
    have lend := sd.shown (by decide)
    rw [am]
    refine ⟨hok, hsh.sh, hlen, ?_⟩
    walk_at "r"
    rw [view_cell mc]
    refine ⟨okd, sd.sh, lend, rfl, rfl, ?_⟩
    rw [show decide (((2 : Nat) : Int) = 3) = false from rfl]
    walk_at "r"
    rw [am]
    walk_at "r"
    refine ⟨isL_cell mc, _, mc, by rw [List.length_map]; omega, ?_⟩
    have z := again (PySem.Str.ofString "endless") [.raw (.ref c)] (.str (reprD (.lst (xs.map fr)))) x7 (updM μ3 c (.lst (xs.map fr ++ [.non]))) end_ok (fun γ ae => (not_both ae ar).elim) fun _ _ _ => rfl
    revert z
    walk_at "r"
    exact id
end K33
set_option Elab.async false
set_option linter.all false
set_option maxRecDepth 100000
set_option maxHeartbeats 2000000
/-! repr, an empty dict too -/
namespace DL
open PySem PySem.Spec PyProof.Rows L2
def rReprE (K : PySem.W.Frag) : List V → Hp → VK → Prop := fun xs H Q => rRepr K xs H Q ∨ ∃ a, xs = [.ref a] ∧ H a = some (.dK []) ∧ Q (.str (PyData.dict []).shown) H
theorem call_reprE {X : Cx} {k : Nat} (hG : X.A.guards = some []) (hr : Room k X.A) : CallR X (.builtin "repr") (rReprE X.K) := by
  intro pins s σ H xs us Q I r h
  rcases h with h | ⟨a, rfl, ha, q⟩
  · exact call_repr hG hr pins s σ H xs us Q I r h
  cases r with
  | cons r1 rr =>
    cases rr
    cases r1
    obtain ⟨_, hs, vs, hv, hd⟩ := (show ObjOk X.prog X.w H s.heap a (.dK []) from I.hok a _ ha)
    cases hv
    obtain ⟨o, es, ep, ho, hx, hdat, _, hp, _⟩ := hd
    have he : es.toList = [] := by
      generalize es.toList = l at hp
      cases hp
      rfl
    have rd : Reads s.heap (.ref a) (.dict []) ([a] ++ []) := Reads.dict (as := []) (bs := []) ho hx.1 hdat (by rw [he]; exact .nil) (by rw [he]; exact .nil)
    have big := hr.un
    have dp : (PyData.dict []).depth + 1 ≤ 66 := by decide
    exact repr_of_reads' rd rfl (fun _ hm => by rw [List.append_nil, List.mem_singleton] at hm; rw [hm] at hs; simp at hs) hG (by omega) (fun _ _ e => e) (fun h' u tk hk => ⟨.str _, H, I.kept (t' := tk) hk, ⟨_, rfl⟩, q⟩) (by decide)
def reprE : D → Str
  | .emp => (PyData.dict []).shown
  | d => reprD d
def gReprE : DRC := fun ds μ Q => match ds with
  | [d] => (d = .emp ∨ (okN 64 (view μ d) = true ∧ (toP (view μ d)).showable = true ∧ (toP (view μ d)).shown.length ≤ sizeLine)) ∧ Q (.str (reprE (view μ d))) μ
  | _ => False
theorem l_reprE {K : PySem.W.Frag} : LCall K (rReprE K) gReprE := by
  intro vs ds H Hc μ Q Qd s ra h rt
  unfold gReprE at h
  split at h
  · rename_i d
    obtain ⟨h1, h2⟩ := h
    rcases h1 with rfl | h1
    · obtain ⟨v, rfl, r⟩ := ra.one'
      cases r with
      | emp hh => exact .inr ⟨_, rfl, s.same _ _ hh, rt.val s (.str _) h2⟩
    · refine .inl (l_repr vs [d] H Hc μ Q Qd s ra ⟨h1.1, h1.2.1, h1.2.2, ?_⟩ rt)
      have : reprE (view μ d) = reprD (view μ d) := by
        generalize view μ d = e at h1
        cases e with
        | emp => simp [okN] at h1
        | _ => rfl
      rw [this] at h2
      exact h2
  · exact h.elim
end DL
set_option Elab.async false
set_option linter.all false
set_option maxRecDepth 100000
/-! What an expression gives, where it changes nothing: long displays are read piece by piece (one long simp makes the kernel slow). -/
namespace DL
open PySem PySem.Spec L2
section
variable {W : XD} {δ : Sl} {μ : M} {te tb : DTE} {tr : DTA} {d x y : D} {ds : List D}
def GivD (te : DTE) (W : XD) (δ : Sl) (μ : M) (d : D) : Prop := ∀ Q : QD, Q d μ → te W δ μ Q
def GivA (tr : DTA) (W : XD) (δ : Sl) (μ : M) (ds : List D) : Prop := ∀ Q : List D → M → Prop, Q ds μ → tr W δ μ Q
theorem giv_nil : GivA dNil W δ μ [] := fun Q q => q
theorem giv_cons (h1 : GivD te W δ μ d) (h2 : GivA tr W δ μ ds) : GivA (dCons te tr) W δ μ (d :: ds) := fun Q q => h1 _ (h2 _ q)
theorem giv_tup (h : GivA tr W δ μ ds) (hl : ds.length ≤ sizeLine) : GivD (dTup tr) W δ μ (.tup ds) := fun Q q => h _ ⟨hl, q⟩
theorem giv_lst (h : GivA tr W δ μ ds) (hl : ds.length ≤ sizeLine) : GivD (dLst tr) W δ μ (.lst ds) := fun Q q => h _ ⟨hl, q⟩
theorem giv_op {g : DR2} (h1 : GivD te W δ μ x) (h2 : GivD tb W δ μ y) (h : ∀ Q : QD, Q d μ → g x y μ Q) : GivD (dOp g te tb) W δ μ d := fun Q q => h1 _ (h2 _ (h Q q))
theorem giv_set {i : Nat} {E : DEnds} {rest : DTS} (h : GivD te (E.xc δ) δ μ d) (q : rest E (δ.set i (some d)) μ) : dSeq (dSet i te) rest E δ μ := h _ q
theorem ix_pass {xs : List D} {i : Int} {Q : QD} (h : atI xs i = some d) (q : Q d μ) : kOp2 gIx (.lst xs) Q (.int i) μ := by
  show OptQ (atI xs i) Q μ
  rw [h]
  exact q
end
end DL
set_option Elab.async false
set_option linter.all false
set_option maxRecDepth 100000
set_option maxHeartbeats 2000000
set_option exponentiation.threshold 20000
local macro_rules | `(tactic| walk_at "s") => `(tactic| simp only [DL.dSet, DL.kSet, DL.dCB, DL.kCB, DL.dCons, DL.kCons1, DL.kCons2, DL.dNil, DL.dVar, DL.dC, DL.dOp, DL.kOp1, DL.kOp2, DL.dB, DL.kB, DL.dIf, DL.kIf, DL.dRet, DL.dRetN, DL.dTup, DL.kTup, DL.dLst, DL.kLst, DL.dLstC, DL.kLstC, DL.dCall, DL.kCall, DL.dCallK, DL.kCallK1, DL.kCallK2, DL.dLenIs, DL.kLenIs, DL.dNext, DL.dDrop, DL.kDrop, DL.dPar, DL.kPar, DL.dAug, DL.kAug, DL.dAsg, DL.kAsg, DL.dSetIx, DL.kSetIx1, DL.kSetIx2, DL.kSetIx3, DL.dTru, DL.kTru, DL.dAnd, DL.kAnd, DL.dOr, DL.kOr, DL.dNot, DL.kNot, DL.dAndV, DL.kAndV, DL.dOrV, DL.kOrV, DL.dNotV, DL.kNotV, DL.dIfE, DL.kIfE, DL.dChain, DL.kChain1, DL.kChain2, DL.kChain3_true, DL.kChain3_false, DL.dNeg, DL.kNeg, DL.dFz, DL.kFz, DL.dRaise, DL.dTryAs, DL.suiteE, DL.kUnset, DL.dFor, DL.kFor, DL.dSeqI, DL.kSeqI, DL.dRange1, DL.kRange1, DL.dRange2, DL.kRange2, DL.dLc, DL.kLc, DL.dLcC, DL.kLstD, DL.kNewC, DL.dYes, DL.wipeD, DL.loopD, DL.compD, DL.kItem, DL.kTest_true, DL.kTest_false, DL.putIx_some, DL.setsK_some, DL.turnD_some, DL.turnC_some, DL.ifS_true, DL.ifS_false, DL.ifAnd_true, DL.ifAnd_false, DL.ifOr_true, DL.ifOr_false, DL.ifAndV_true, DL.ifAndV_false, DL.ifOrV_true, DL.ifOrV_false, DL.ifE_true, DL.ifE_false, DL.srcOf, DL.tgN, DL.tgT, DL.tgNil, DL.tgCons, DL.sets, List.foldl_cons, List.foldl_nil, DL.gI, DL.gI0, DL.gAdd, DL.gMul, DL.gIx, DL.gEq, DL.gNe, DL.gIs, DL.gIn, DL.gLen, DL.gAbs, DL.gMax2, DL.gMin2, DL.gAll, DL.gAny, DL.gSum, DL.gList, DL.gListC, DL.gTuple, DL.gIsiC, DL.gIsi, DL.tyN, DL.subN_NoneType_int, DL.subN_NoneType_bool, DL.subN_NoneType_str, DL.subN_NoneType_list, DL.subN_NoneType_tuple, DL.subN_bool_int, DL.subN_bool_bool, DL.subN_bool_str, DL.subN_bool_list, DL.subN_bool_tuple, DL.subN_int_int, DL.subN_int_bool, DL.subN_int_str, DL.subN_int_list, DL.subN_int_tuple, DL.subN_str_int, DL.subN_str_bool, DL.subN_str_str, DL.subN_str_list, DL.subN_str_tuple, DL.subN_list_int, DL.subN_list_bool, DL.subN_list_str, DL.subN_list_list, DL.subN_list_tuple, DL.subN_tuple_int, DL.subN_tuple_bool, DL.subN_tuple_str, DL.subN_tuple_list, DL.subN_tuple_tuple, DL.truD, DL.blsOf, DL.view_non, DL.view_bl, DL.view_int', DL.view_str', DL.view_lst', DL.view_tup', DL.view_scr', DL.ends, DL.kEnd, DL.OptP_some, DL.OptQ_some, DL.OptB_some, DL.OptS_some, List.getElem?_cons_zero, List.getElem?_cons_succ, List.set_cons_zero, List.set_cons_succ, DL.atI_zero, DL.atI_one, DL.atI_two, List.length_cons, List.length_nil, DL.pick, List.filterMap_cons, List.filterMap_nil, List.nil_append, List.cons_append, List.map_cons, List.map_nil, Option.map_some, Option.bind_some, true_and, and_true, Bool.false_eq_true, Bool.not_true, Bool.not_false, Bool.xor_false, Bool.xor_true, Bool.false_xor, Bool.true_xor, decide_true, decide_false, Nat.zero_add, Nat.reduceAdd, not_true_eq_false, not_false_eq_true, DL.eqD_int, DL.eqD_str, DL.eqD_bl, DL.eqD_tup, DL.eqD_lst, DL.eqDs_nil, DL.eqDs_cons, Bool.and_true, Bool.and_false, List.all_cons, List.all_nil, List.any_cons, List.any_nil, Bool.and_self, DL.dM, DL.kM1, DL.kM2, DL.dM0, DL.kM0, DL.gAppend, DL.gInsert, DL.gExtend, DL.gPop1, DL.gPop0, DL.gReverse, DL.gSort, DL.gRemove, DL.gCount, DL.gIndex, DL.dSlG, DL.kSl1, DL.kSl2, DL.kSl3, DL.gSl, DL.gSlC, DL.dNoPart, DL.dPart, DL.kPart, DL.dLR1, DL.kLR1, DL.dLR2, DL.kLR21, DL.kLR22, DL.nLst, DL.gRepC, DL.gCatC, DL.gInt, DL.gSorted, DL.gMaxL, DL.gMinL, DL.dEnum, DL.kEnum, DL.dZip2, DL.kZip2, DL.dZip3, DL.kZip3, DL.OptS2_some, DL.OptS3_some, DL.dRev, DL.kRev, DL.dEmp, DL.view_emp', DL.subN_dict_int, DL.subN_dict_bool, DL.subN_dict_str, DL.subN_dict_list, DL.subN_dict_tuple, DL.cellL_lst, DL.cellL_none, DL.gCountD, DL.gRepr, DL.gEqS, DL.dTryK, DL.keepD, DL.kKeep, DL.kKeepR, DL.dXf, DL.gReprE])
local macro_rules | `(tactic| walk_at "r") => `(tactic| simp only [DL.dSeq, DL.dSet, DL.kSet, DL.dCB, DL.kCB, DL.dCons, DL.kCons1, DL.kCons2, DL.dNil, DL.dVar, DL.dC, DL.dOp, DL.kOp1, DL.kOp2, DL.dB, DL.kB, DL.dIf, DL.kIf, DL.dRet, DL.dRetN, DL.dTup, DL.kTup, DL.dLst, DL.kLst, DL.dLstC, DL.kLstC, DL.dCall, DL.kCall, DL.dCallK, DL.kCallK1, DL.kCallK2, DL.dLenIs, DL.kLenIs, DL.dNext, DL.dDrop, DL.kDrop, DL.dPar, DL.kPar, DL.dAug, DL.kAug, DL.dAsg, DL.kAsg, DL.dSetIx, DL.kSetIx1, DL.kSetIx2, DL.kSetIx3, DL.dTru, DL.kTru, DL.dAnd, DL.kAnd, DL.dOr, DL.kOr, DL.dNot, DL.kNot, DL.dAndV, DL.kAndV, DL.dOrV, DL.kOrV, DL.dNotV, DL.kNotV, DL.dIfE, DL.kIfE, DL.dChain, DL.kChain1, DL.kChain2, DL.kChain3_true, DL.kChain3_false, DL.dNeg, DL.kNeg, DL.dFz, DL.kFz, DL.dRaise, DL.dTryAs, DL.suiteE, DL.kUnset, DL.dFor, DL.kFor, DL.dSeqI, DL.kSeqI, DL.dRange1, DL.kRange1, DL.dRange2, DL.kRange2, DL.dLc, DL.kLc, DL.dLcC, DL.kLstD, DL.kNewC, DL.dYes, DL.wipeD, DL.loopD, DL.compD, DL.kItem, DL.kTest_true, DL.kTest_false, DL.putIx_some, DL.setsK_some, DL.turnD_some, DL.turnC_some, DL.ifS_true, DL.ifS_false, DL.ifAnd_true, DL.ifAnd_false, DL.ifOr_true, DL.ifOr_false, DL.ifAndV_true, DL.ifAndV_false, DL.ifOrV_true, DL.ifOrV_false, DL.ifE_true, DL.ifE_false, DL.srcOf, DL.tgN, DL.tgT, DL.tgNil, DL.tgCons, DL.sets, List.foldl_cons, List.foldl_nil, DL.gI, DL.gI0, DL.gAdd, DL.gMul, DL.gIx, DL.gEq, DL.gNe, DL.gIs, DL.gIn, DL.gLen, DL.gAbs, DL.gMax2, DL.gMin2, DL.gAll, DL.gAny, DL.gSum, DL.gList, DL.gListC, DL.gTuple, DL.gIsiC, DL.gIsi, DL.tyN, DL.subN_NoneType_int, DL.subN_NoneType_bool, DL.subN_NoneType_str, DL.subN_NoneType_list, DL.subN_NoneType_tuple, DL.subN_bool_int, DL.subN_bool_bool, DL.subN_bool_str, DL.subN_bool_list, DL.subN_bool_tuple, DL.subN_int_int, DL.subN_int_bool, DL.subN_int_str, DL.subN_int_list, DL.subN_int_tuple, DL.subN_str_int, DL.subN_str_bool, DL.subN_str_str, DL.subN_str_list, DL.subN_str_tuple, DL.subN_list_int, DL.subN_list_bool, DL.subN_list_str, DL.subN_list_list, DL.subN_list_tuple, DL.subN_tuple_int, DL.subN_tuple_bool, DL.subN_tuple_str, DL.subN_tuple_list, DL.subN_tuple_tuple, DL.truD, DL.blsOf, DL.view_non, DL.view_bl, DL.view_int', DL.view_str', DL.view_lst', DL.view_tup', DL.view_scr', DL.ends, DL.kEnd, DL.OptP_some, DL.OptQ_some, DL.OptB_some, DL.OptS_some, List.getElem?_cons_zero, List.getElem?_cons_succ, List.set_cons_zero, List.set_cons_succ, DL.atI_zero, DL.atI_one, DL.atI_two, List.length_cons, List.length_nil, DL.pick, List.filterMap_cons, List.filterMap_nil, List.nil_append, List.cons_append, List.map_cons, List.map_nil, Option.map_some, Option.bind_some, true_and, and_true, Bool.false_eq_true, Bool.not_true, Bool.not_false, Bool.xor_false, Bool.xor_true, Bool.false_xor, Bool.true_xor, decide_true, decide_false, Nat.zero_add, Nat.reduceAdd, not_true_eq_false, not_false_eq_true, DL.eqD_int, DL.eqD_str, DL.eqD_bl, DL.eqD_tup, DL.eqD_lst, DL.eqDs_nil, DL.eqDs_cons, Bool.and_true, Bool.and_false, List.all_cons, List.all_nil, List.any_cons, List.any_nil, Bool.and_self, DL.dM, DL.kM1, DL.kM2, DL.dM0, DL.kM0, DL.gAppend, DL.gInsert, DL.gExtend, DL.gPop1, DL.gPop0, DL.gReverse, DL.gSort, DL.gRemove, DL.gCount, DL.gIndex, DL.dSlG, DL.kSl1, DL.kSl2, DL.kSl3, DL.gSl, DL.gSlC, DL.dNoPart, DL.dPart, DL.kPart, DL.dLR1, DL.kLR1, DL.dLR2, DL.kLR21, DL.kLR22, DL.nLst, DL.gRepC, DL.gCatC, DL.gInt, DL.gSorted, DL.gMaxL, DL.gMinL, DL.dEnum, DL.kEnum, DL.dZip2, DL.kZip2, DL.dZip3, DL.kZip3, DL.OptS2_some, DL.OptS3_some, DL.dRev, DL.kRev, DL.dEmp, DL.view_emp', DL.subN_dict_int, DL.subN_dict_bool, DL.subN_dict_str, DL.subN_dict_list, DL.subN_dict_tuple, DL.cellL_lst, DL.cellL_none, DL.gCountD, DL.gRepr, DL.gEqS, DL.dTryK, DL.keepD, DL.kKeep, DL.kKeepR, DL.dXf, DL.gReprE])
local macro_rules | `(tactic| simp! only [$xs,*]) => `(tactic| simp only [DL.dSeq, DL.dSet, DL.kSet, DL.dCB, DL.kCB, DL.dCons, DL.kCons1, DL.kCons2, DL.dNil, DL.dVar, DL.dC, DL.dOp, DL.kOp1, DL.kOp2, DL.dB, DL.kB, DL.dIf, DL.kIf, DL.dRet, DL.dRetN, DL.dTup, DL.kTup, DL.dLst, DL.kLst, DL.dLstC, DL.kLstC, DL.dCall, DL.kCall, DL.dCallK, DL.kCallK1, DL.kCallK2, DL.dLenIs, DL.kLenIs, DL.dNext, DL.dDrop, DL.kDrop, DL.dPar, DL.kPar, DL.dAug, DL.kAug, DL.dAsg, DL.kAsg, DL.dSetIx, DL.kSetIx1, DL.kSetIx2, DL.kSetIx3, DL.dTru, DL.kTru, DL.dAnd, DL.kAnd, DL.dOr, DL.kOr, DL.dNot, DL.kNot, DL.dAndV, DL.kAndV, DL.dOrV, DL.kOrV, DL.dNotV, DL.kNotV, DL.dIfE, DL.kIfE, DL.dChain, DL.kChain1, DL.kChain2, DL.kChain3_true, DL.kChain3_false, DL.dNeg, DL.kNeg, DL.dFz, DL.kFz, DL.dRaise, DL.dTryAs, DL.suiteE, DL.kUnset, DL.dFor, DL.kFor, DL.dSeqI, DL.kSeqI, DL.dRange1, DL.kRange1, DL.dRange2, DL.kRange2, DL.dLc, DL.kLc, DL.dLcC, DL.kLstD, DL.kNewC, DL.dYes, DL.wipeD, DL.loopD, DL.compD, DL.kItem, DL.kTest_true, DL.kTest_false, DL.putIx_some, DL.setsK_some, DL.turnD_some, DL.turnC_some, DL.ifS_true, DL.ifS_false, DL.ifAnd_true, DL.ifAnd_false, DL.ifOr_true, DL.ifOr_false, DL.ifAndV_true, DL.ifAndV_false, DL.ifOrV_true, DL.ifOrV_false, DL.ifE_true, DL.ifE_false, DL.srcOf, DL.tgN, DL.tgT, DL.tgNil, DL.tgCons, DL.sets, List.foldl_cons, List.foldl_nil, DL.gI, DL.gI0, DL.gAdd, DL.gMul, DL.gIx, DL.gEq, DL.gNe, DL.gIs, DL.gIn, DL.gLen, DL.gAbs, DL.gMax2, DL.gMin2, DL.gAll, DL.gAny, DL.gSum, DL.gList, DL.gListC, DL.gTuple, DL.gIsiC, DL.gIsi, DL.tyN, DL.subN_NoneType_int, DL.subN_NoneType_bool, DL.subN_NoneType_str, DL.subN_NoneType_list, DL.subN_NoneType_tuple, DL.subN_bool_int, DL.subN_bool_bool, DL.subN_bool_str, DL.subN_bool_list, DL.subN_bool_tuple, DL.subN_int_int, DL.subN_int_bool, DL.subN_int_str, DL.subN_int_list, DL.subN_int_tuple, DL.subN_str_int, DL.subN_str_bool, DL.subN_str_str, DL.subN_str_list, DL.subN_str_tuple, DL.subN_list_int, DL.subN_list_bool, DL.subN_list_str, DL.subN_list_list, DL.subN_list_tuple, DL.subN_tuple_int, DL.subN_tuple_bool, DL.subN_tuple_str, DL.subN_tuple_list, DL.subN_tuple_tuple, DL.truD, DL.blsOf, DL.view_non, DL.view_bl, DL.view_int', DL.view_str', DL.view_lst', DL.view_tup', DL.view_scr', DL.ends, DL.kEnd, DL.OptP_some, DL.OptQ_some, DL.OptB_some, DL.OptS_some, List.getElem?_cons_zero, List.getElem?_cons_succ, List.set_cons_zero, List.set_cons_succ, DL.atI_zero, DL.atI_one, DL.atI_two, List.length_cons, List.length_nil, DL.pick, List.filterMap_cons, List.filterMap_nil, List.nil_append, List.cons_append, List.map_cons, List.map_nil, Option.map_some, Option.bind_some, true_and, and_true, Bool.false_eq_true, Bool.not_true, Bool.not_false, Bool.xor_false, Bool.xor_true, Bool.false_xor, Bool.true_xor, decide_true, decide_false, Nat.zero_add, Nat.reduceAdd, not_true_eq_false, not_false_eq_true, DL.eqD_int, DL.eqD_str, DL.eqD_bl, DL.eqD_tup, DL.eqD_lst, DL.eqDs_nil, DL.eqDs_cons, Bool.and_true, Bool.and_false, List.all_cons, List.all_nil, List.any_cons, List.any_nil, Bool.and_self, DL.dM, DL.kM1, DL.kM2, DL.dM0, DL.kM0, DL.gAppend, DL.gInsert, DL.gExtend, DL.gPop1, DL.gPop0, DL.gReverse, DL.gSort, DL.gRemove, DL.gCount, DL.gIndex, DL.dSlG, DL.kSl1, DL.kSl2, DL.kSl3, DL.gSl, DL.gSlC, DL.dNoPart, DL.dPart, DL.kPart, DL.dLR1, DL.kLR1, DL.dLR2, DL.kLR21, DL.kLR22, DL.nLst, DL.gRepC, DL.gCatC, DL.gInt, DL.gSorted, DL.gMaxL, DL.gMinL, DL.dEnum, DL.kEnum, DL.dZip2, DL.kZip2, DL.dZip3, DL.kZip3, DL.OptS2_some, DL.OptS3_some, DL.dRev, DL.kRev, DL.dEmp, DL.view_emp', DL.subN_dict_int, DL.subN_dict_bool, DL.subN_dict_str, DL.subN_dict_list, DL.subN_dict_tuple, DL.cellL_lst, DL.cellL_none, DL.gCountD, DL.gRepr, DL.gEqS, DL.dTryK, DL.keepD, DL.kKeep, DL.kKeepR, DL.dXf, DL.gReprE, $xs,*])
namespace K34
open PySem PySem.Spec L2 DL Fr NB NBD K33
/-- an element of a list that may be told -/
structure ElOk (x : D) : Prop where
  r : Row0 x
  z : ∀ a b : Int, x = .tup [.int a, .int b] → a.natAbs < 2 ^ 140 ∧ b.natAbs < 2 ^ 140
  s : Sh 2 2000 x
structure PtL (d : D) : Prop where
  p : plainD d = true
  w : ∀ w, d = .str w → PyData.strOk w = true
  l : ∀ xs, d = .lst xs → xs.length ≤ 20 ∧ ∀ x ∈ xs, ElOk x
  s : Sh 3 50000 d
structure ThL (d : D) : Prop where
  p : plainD d = true
  t : ∀ xs, d = .tup xs → xs.length ≤ 5 ∧ ∀ x ∈ xs, PtL x
  s : d = .emp ∨ Sh 4 300000 d
theorem PtL.pt {d : D} (h : PtL d) : PtOk d := ⟨h.p, h.w, fun xs e => by
  obtain ⟨h1, h2⟩ := h.l xs e
  refine ⟨by omega, fun x hx => ⟨(h2 x hx).r, fun f ef h3 h4 => ?_⟩⟩
  obtain ⟨z1, z2⟩ := (h2 x hx).z f.1 f.2 ef
  exact ⟨h3, by unfold gcdI at h4; omega, Nat.lt_of_lt_of_le z1 (Nat.pow_le_pow_right (by decide) (by decide)), Nat.lt_of_lt_of_le z2 (Nat.pow_le_pow_right (by decide) (by decide))⟩⟩
theorem ThL.th {d : D} (h : ThL d) : ThOk d := ⟨h.p, fun xs e => ⟨by have := (h.t xs e).1; omega, fun x hx => ((h.t xs e).2 x hx).pt⟩⟩
def isI : D → Bool
  | .int _ => true
  | _ => false
def c_lisshare : Ct := fun ds μ Q _ => ∃ x : D, ds = [x] ∧ ElOk x ∧ TellsB (Share x) Q μ
def c_lareshares34 : Ct := fun ds μ Q _ => ∃ (d : D) (n : Nat), ds = [d, .int n] ∧ PtL d ∧ TellsB (∃ xs, ShD n d xs) Q μ
def c_lfits34 : Ct := fun ds μ Q _ => ∃ (cols : List (List Fc)) (xs rs : List Fc), ds = [.lst (cols.map colD), .lst (xs.map fr), .lst (rs.map fr)] ∧ cols.length ≤ 14 ∧ rs.length ≤ 14 ∧ (∀ c ∈ cols, c.length = rs.length ∧ ∀ f ∈ c, Ok 10 f) ∧ (∀ f ∈ xs, Ok 150 f) ∧ (∀ f ∈ rs, Ok 10 f) ∧ TellsB (FitQ cols xs rs) Q μ
def c_listold34 : Ct := fun ds μ Q _ => ∃ (gs : List Fc) (cols : List (List Fc)) (rs : List Fc) (xs : List D), ds = [sheetD gs cols rs, .tup xs] ∧ ShS gs cols rs ∧ ThL (.tup xs) ∧ TellsB (Lets gs cols rs (.tup xs)) Q μ
def t_law_is_share : DTS :=
  (dSeq (dIf (dOr (dNot (dTru (dCB (gIsiC "tuple") (dCons (dVar 0) (dCons (dC (.raw (.ty "tuple"))) dNil))))) (dB (dOp gNe (dCB gLen (dCons (dVar 0) dNil)) (dC (.int 2))))) (dRet (dC (.bl false))) dNext)
    (dSeq (dIf (dB (dOp gNe (dLc (dSeqI (dVar 0)) (tgN 1) (dOr (dNot (dTru (dCB (gIsiC "int") (dCons (dVar 1) (dCons (dC (.raw (.ty "int"))) dNil))))) (dTru (dCB (gIsiC "bool") (dCons (dVar 1) (dCons (dC (.raw (.ty "bool"))) dNil))))) (dVar 1) [1]) (dLst dNil))) (dRet (dC (.bl false))) dNext)
    (dRet (dAndV (dOp gGe (dOp gIx (dVar 0) (dC (.int 0))) (dC (.int 0))) (dAndV (dOp gGt (dOp gIx (dVar 0) (dC (.int 1))) (dC (.int 0))) (dOp gEq (dCall c_low (dCons (dOp gIx (dVar 0) (dC (.int 0))) (dCons (dOp gIx (dVar 0) (dC (.int 1))) dNil))) (dVar 0)))))))
def t_law_are_shares : DTS :=
  (dSeq (dIf (dOr (dNot (dTru (dCB (gIsiC "list") (dCons (dVar 0) (dCons (dC (.raw (.ty "list"))) dNil))))) (dB (dOp gNe (dCB gLen (dCons (dVar 0) dNil)) (dVar 1)))) (dRet (dC (.bl false))) dNext)
    (dRet (dOp gEq (dLc (dSeqI (dVar 0)) (tgN 2) (dNot (dTru (dCall c_lisshare (dCons (dVar 2) dNil)))) (dVar 2) [2]) (dLst dNil))))
def t_law_fits : DTS :=
  (dSeq (dFor (dRange1 (dCons (dCB gLen (dCons (dVar 2) dNil)) dNil)) (tgN 3) (dIf (dTru (dCall c_under (dCons (dOp gIx (dVar 2) (dVar 3)) (dCons (dCall c_worth (dCons (dLc (dSeqI (dVar 0)) (tgN 4) dYes (dOp gIx (dVar 4) (dVar 3)) [4]) (dCons (dVar 1) dNil))) dNil)))) (dRet (dC (.bl false))) dNext))
    (dRet (dC (.bl true))))
def t_law_is_told : DTS :=
  (dSeq (dAsg (dVar 0) (tgT (tgCons (tgN 2) (tgCons (tgN 3) (tgCons (tgN 4) tgNil)))))
    (dSeq (dIf (dOr (dNot (dTru (dCB (gIsiC "tuple") (dCons (dVar 1) (dCons (dC (.raw (.ty "tuple"))) dNil))))) (dOr (dB (dOp gLt (dCB gLen (dCons (dVar 1) dNil)) (dC (.int 2)))) (dNot (dTru (dCall c_lareshares34 (dCons (dOp gIx (dVar 1) (dC (.int 1))) (dCons (dCB gLen (dCons (dVar 3) dNil)) dNil))))))) (dRet (dC (.bl false))) dNext)
    (dSeq (dIf (dB (dOp gEq (dOp gIx (dVar 1) (dC (.int 0))) (dC (.str (PySem.Str.ofString "endless"))))) (dSeq (dSet 5 (dCall c_lfits34 (dCons (dVar 3) (dCons (dOp gIx (dVar 1) (dC (.int 1))) (dCons (dOp gMul (dLst (dCons (dTup (dCons (dC (.int 0)) (dCons (dC (.int 1)) dNil))) dNil)) (dCB gLen (dCons (dVar 4) dNil))) dNil)))))
    (dRet (dAndV (dOp gEq (dCB gLen (dCons (dVar 1) dNil)) (dC (.int 2))) (dAndV (dVar 5) (dOp gGt (dOp gIx (dCall c_worth (dCons (dVar 2) (dCons (dOp gIx (dVar 1) (dC (.int 1))) dNil))) (dC (.int 0))) (dC (.int 0))))))) dNext)
    (dSeq (dIf (dOr (dB (dOp gNe (dOp gIx (dVar 1) (dC (.int 0))) (dC (.str (PySem.Str.ofString "most"))))) (dOr (dB (dOp gNe (dCB gLen (dCons (dVar 1) dNil)) (dC (.int 3)))) (dNot (dTru (dCall c_lareshares34 (dCons (dOp gIx (dVar 1) (dC (.int 2))) (dCons (dCB gLen (dCons (dVar 4) dNil)) dNil))))))) (dRet (dC (.bl false))) dNext)
    (dSeq (dFor (dZip2 (dCons (dVar 3) (dCons (dVar 2) dNil))) (tgT (tgCons (tgN 6) (tgCons (tgN 7) tgNil))) (dIf (dTru (dCall c_under (dCons (dCall c_worth (dCons (dVar 6) (dCons (dOp gIx (dVar 1) (dC (.int 2))) dNil))) (dCons (dVar 7) dNil)))) (dRet (dC (.bl false))) dNext))
    (dRet (dAndV (dCall c_lfits34 (dCons (dVar 3) (dCons (dOp gIx (dVar 1) (dC (.int 1))) (dCons (dVar 4) dNil)))) (dOp gEq (dCall c_worth (dCons (dVar 2) (dCons (dOp gIx (dVar 1) (dC (.int 1))) dNil))) (dCall c_worth (dCons (dVar 4) (dCons (dOp gIx (dVar 1) (dC (.int 2))) dNil)))))))))))
theorem hb_law_is_share : HB c_lisshare t_law_is_share 2 := by
  intro ds μ Q X h
  obtain ⟨x, rfl, ex, q⟩ := h
  show t_law_is_share (ends Q XF) [some x, none] μ
  have sz : 16777216 ≤ sizeLine := by decide
  have no : (∀ a b : Int, x ≠ .tup [.int a, .int b]) → Q (.bl false) μ := fun h => q false ⟨fun e => (by cases e), fun ⟨f, e, _⟩ => (h _ _ e).elim⟩
  have pl := ex.r.1
  cases x with
  | raw _ => cases pl
  | scr _ => cases pl
  | key _ => cases pl
  | non => simp! only [t_law_is_share]; exact .of (no fun a b e => by cases e)
  | bl _ => simp! only [t_law_is_share]; exact .of (no fun a b e => by cases e)
  | int _ => simp! only [t_law_is_share]; exact .of (no fun a b e => by cases e)
  | str _ => simp! only [t_law_is_share]; exact .of (no fun a b e => by cases e)
  | lst _ => simp! only [t_law_is_share]; exact .of (no fun a b e => by cases e)
  | emp => simp! only [t_law_is_share]; exact .of (no fun a b e => by cases e)
  | tup xs =>
    by_cases hl : xs.length = 2
    · obtain ⟨a, b, rfl⟩ : ∃ a b, xs = [a, b] := by
        match xs, hl with
        | [a, b], _ => exact ⟨a, b, rfl⟩
      have pa := ex.r.2 _ rfl a (by simp)
      have pb := ex.r.2 _ rfl b (by simp)
      simp! only [t_law_is_share, show decide (((2 : Nat) : Int) = 2) = true from rfl]
      refine ⟨rfl, rfl, ?_⟩
      refine comp_filter (p := fun d => !isI d) trivial (by show 2 < sizeLine; decide) (fun d hd acc R ha h1 h2 => ?_) ?_
      · have pd : plainD d = true := by
          simp only [List.mem_cons, List.not_mem_nil, or_false] at hd
          rcases hd with rfl | rfl
          · exact pa
          · exact pb
        cases d with
        | raw _ => cases pd
        | scr _ => cases pd
        | key _ => cases pd
        | non => walk_at "r"; exact ⟨ha, h1 rfl⟩
        | bl _ => walk_at "r"; exact ⟨ha, h1 rfl⟩
        | int _ => walk_at "r"; exact h2 rfl
        | str _ => walk_at "r"; exact ⟨ha, h1 rfl⟩
        | lst _ => walk_at "r"; exact ⟨ha, h1 rfl⟩
        | tup _ => walk_at "r"; exact ⟨ha, h1 rfl⟩
        | emp => walk_at "r"; exact ⟨ha, h1 rfl⟩
      · by_cases hi : isI a = true ∧ isI b = true
        · obtain ⟨i, rfl⟩ : ∃ i, a = .int i := by cases a <;> first | exact ⟨_, rfl⟩ | cases hi.1
          obtain ⟨j, rfl⟩ : ∃ j, b = .int j := by cases b <;> first | exact ⟨_, rfl⟩ | cases hi.2
          rw [show ([D.int i, D.int j].filter fun d => !isI d) = [] from rfl]
          obtain ⟨z1, z2⟩ := ex.z i j rfl
          walk_at "r"
          refine ⟨by decide, rfl, rfl, ?_⟩
          have sh : Share (.tup [.int i, .int j]) ↔ 0 ≤ i ∧ 0 < j ∧ low i j = (i, j) := by
            constructor
            · rintro ⟨f, e, h1, h2, h3⟩
              have : f = (i, j) := fr_inj' e.symm
              subst this
              refine ⟨h3, h1, ?_⟩
              exact low_unique (show j ≠ 0 by have : (1 : Int) ≤ j := h1; omega) h1 (by have h2b : gcdI i j = 1 := h2; unfold gcdI at h2b; omega) rfl
            · rintro ⟨h1, h2, h3⟩
              have := low_cop (t := i) (b := j) (by omega)
              rw [h3] at this
              exact ⟨(i, j), rfl, h2, by unfold gcdI; omega, h1⟩
          by_cases hi0 : 0 ≤ i
          · by_cases hj0 : 0 < j
            · simp! only [decide_eq_true hi0, decide_eq_true hj0]
              refine ⟨i, j, rfl, by omega, Nat.lt_of_lt_of_le z2 (Nat.pow_le_pow_right (by decide) (by decide)), ?_⟩
              walk_at "r"
              refine ⟨okN_fr (n := 63), okN_fr (n := 63) (f := (i, j)), .of (q _ ?_)⟩
              rw [view_frK, show D.tup [D.int i, D.int j] = fr (i, j) from rfl, eqD_fr, decide_eq_true_iff, show fr (i, j) = D.tup [.int i, .int j] from rfl, sh]
              exact ⟨fun h => ⟨hi0, hj0, h⟩, fun h => h.2.2⟩
            · simp! only [decide_eq_true hi0, decide_eq_false hj0]
              exact .of (q false ⟨fun e => (by cases e), fun h => absurd (sh.mp h).2.1 hj0⟩)
          · simp! only [decide_eq_false hi0]
            exact .of (q false ⟨fun e => (by cases e), fun h => absurd (sh.mp h).1 hi0⟩)
        · have okx := ex.s.ok
          have okF : ∀ d ∈ [a, b].filter fun d => !isI d, okN 63 d = true := fun d hd => by
            have := (List.mem_filter.mp hd).1
            exact okN_mono (okN_items (n := 1) okx d this) (by decide)
          have neF : ([a, b].filter fun d => !isI d) ≠ [] := fun e => by
            refine hi ⟨?_, ?_⟩
            · have := List.filter_eq_nil_iff.mp e a (by simp)
              simpa using this
            · have := List.filter_eq_nil_iff.mp e b (by simp)
              simpa using this
          generalize ([a, b].filter fun d => !isI d) = F at *
          cases F with
          | nil => exact absurd rfl neF
          | cons y ys =>
            walk_at "r"
            refine ⟨by decide, okN_lst (n := 63) okF, rfl, ?_⟩
            rw [show eqDs (y :: ys) [] = false from rfl]
            walk_at "r"
            exact .of (no fun i j e => by cases e; exact hi ⟨rfl, rfl⟩)
    · simp! only [t_law_is_share]
      refine ⟨okN_int, okN_int, ifS_ndec (fun e => ?_) fun e => absurd (by omega) hl⟩
      walk_at "r"
      exact .of (no fun a b e => by cases e; exact hl rfl)
theorem hb_law_are_shares : HB c_lareshares34 t_law_are_shares 3 := by
  intro ds μ Q X h
  obtain ⟨d, n, rfl, pt, q⟩ := h
  show t_law_are_shares (ends Q XF) [some d, some (.int n), none] μ
  have sz : 16777216 ≤ sizeLine := by decide
  have pl := pt.p
  have no : (∀ xs, d ≠ .lst xs) → Q (.bl false) μ := fun h => q false ⟨fun e => (by cases e), fun ⟨xs, hx⟩ => (h _ hx.e).elim⟩
  cases d with
  | raw _ => cases pl
  | scr _ => cases pl
  | key _ => cases pl
  | non => simp! only [t_law_are_shares]; exact .of (no fun xs e => by cases e)
  | bl _ => simp! only [t_law_are_shares]; exact .of (no fun xs e => by cases e)
  | int _ => simp! only [t_law_are_shares]; exact .of (no fun xs e => by cases e)
  | str _ => simp! only [t_law_are_shares]; exact .of (no fun xs e => by cases e)
  | tup _ => simp! only [t_law_are_shares]; exact .of (no fun xs e => by cases e)
  | emp => simp! only [t_law_are_shares]; exact .of (no fun xs e => by cases e)
  | lst xs =>
    obtain ⟨hl, hx⟩ := pt.l xs rfl
    classical
    simp! only [t_law_are_shares]
    refine ⟨okN_int, okN_int, ifS_ndec (fun e => ?_) fun e => ?_⟩
    · walk_at "r"
      refine .of (q false ⟨fun e => (by cases e), fun ⟨fs, h1, h2, _⟩ => ?_⟩)
      injection h1 with h1
      rw [h1, List.length_map] at e
      omega
    · have e : xs.length = n := by omega
      walk_at "r"
      refine comp_filter (p := fun x => !decide (Share x)) trivial (by omega) (fun x hm acc R ha h1 h2 => ?_) ?_
      · walk_at "r"
        refine ⟨x, rfl, hx x hm, fun b hb => ?_⟩
        cases b with
        | true =>
          walk_at "r"
          exact h2 (by rw [decide_eq_true (hb.mp rfl)]; rfl)
        | false =>
          walk_at "r"
          exact ⟨ha, h1 (by rw [decide_eq_false fun h => by have := hb.mpr h; cases this]; rfl)⟩
      · have okF : ∀ d ∈ xs.filter fun x => !decide (Share x), okN 63 d = true := fun d hd => okN_mono (hx d (List.mem_filter.mp hd).1).s.ok (by decide)
        have key : (xs.filter fun x => !decide (Share x)) = [] ↔ ∃ fs, ShD n (.lst xs) fs := by
          rw [shares_of e, List.filter_eq_nil_iff]
          exact ⟨fun h x hx => by have := h x hx; simpa using this, fun h x hx => by rw [decide_eq_true (h x hx)]; decide⟩
        generalize (xs.filter fun x => !decide (Share x)) = F at *
        cases F with
        | nil =>
          walk_at "r"
          refine ⟨by decide, rfl, rfl, .of (q _ ⟨fun _ => key.mp rfl, fun _ => rfl⟩)⟩
        | cons y ys =>
          walk_at "r"
          refine ⟨by decide, okN_lst (n := 63) okF, rfl, .of ?_⟩
          rw [show eqDs (y :: ys) [] = false from rfl]
          exact q false ⟨fun e => (by cases e), fun h => by have := key.mpr h; cases this⟩
theorem hb_law_fits : HB c_lfits34 t_law_fits 5 := by
  intro ds μ Q X h
  obtain ⟨cols, xs, rs, rfl, h1, h2, hc, hx, hr, q⟩ := h
  show t_law_fits (ends Q XF) [some (.lst (cols.map colD)), some (.lst (xs.map fr)), some (.lst (rs.map fr)), none, none] μ
  have sz : 16777216 ≤ sizeLine := by decide
  simp! only [t_law_fits, List.length_map]
  refine ⟨by omega, ?_⟩
  rw [show ((rs.length : Nat) : Int).toNat = rs.length by omega, range_map0]
  refine for_pre (enc := fun i : Nat => D.int (i : Int)) (fun pre δ μ' => μ' = μ ∧ (∃ x3, δ = [some (.lst (cols.map colD)), some (.lst (xs.map fr)), some (.lst (rs.map fr)), x3, none]) ∧ ∀ j, j < pre.length → wQ (cols.map fun c => c.getD j Z) xs ≤ Fr.q (rs.getD j Z)) ⟨rfl, ⟨_, rfl⟩, fun j hj => by cases hj⟩ ?_ ?_
  · rintro pre i post δ μ' hz ⟨rfl, ⟨x3, rfl⟩, hp⟩
    refine ⟨trivial, ?_⟩
    have hi : i < rs.length := by
      have : i ∈ List.range rs.length := by rw [hz]; simp
      exact List.mem_range.mp this
    have hip : pre.length = i := by
      obtain ⟨k2, k3⟩ := List.getElem?_eq_some_iff.mp (nth_of hz)
      rw [List.getElem_range] at k3
      exact k3
    have len : (pre ++ [i]).length = pre.length + 1 := by rw [List.length_append]; rfl
    have ar : atI (rs.map fr) (i : Int) = some (fr rs[i]) := at_map hi
    have orr := hr _ (List.getElem_mem hi)
    simp! only [ar]
    refine comp_pure (enc := colD) (g := fun c => fr (c.getD i Z)) trivial (by omega) (fun c hm acc R ha hR => ?_) ?_
    · have hl := (hc c hm).1
      have a1 : atI (c.map fr) (i : Int) = some (fr (c.getD i Z)) := by rw [at_map (show i < c.length by omega), NBD.getD_at]
      simp! only [colD, a1]
      exact ⟨ha, hR⟩
    rw [show cols.map (fun c => fr (c.getD i Z)) = (cols.map fun c => c.getD i Z).map fr by rw [List.map_map]; rfl]
    walk_at "r"
    refine ⟨_, xs, rfl, by rw [List.length_map]; exact h1, fun f hf => ?_, hx, fun f of qf => ?_⟩
    · obtain ⟨c, hm, rfl⟩ := List.mem_map.mp hf
      obtain ⟨k1, k2⟩ := hc c hm
      exact k2 _ (getD_mem (by omega))
    walk_at "r"
    refine ⟨rs[i], f, rfl, NB.Ok.sz orr (by decide), NB.Ok.sz of (by decide), ifS_dec (fun e => ?_) fun e => ?_⟩
    · walk_at "r"
      refine .of (q false ⟨fun e => (by cases e), fun h => ?_⟩)
      have := h i hi
      rw [NBD.getD_at hi, ← qf] at this
      exact absurd ((q_lt orr.pos of.pos).mp e) (Rat.not_lt.mpr this)
    · walk_at "r"
      refine ⟨⟨_, rfl⟩, fun j hj => ?_⟩
      rw [len] at hj
      by_cases ej : j = i
      · subst ej
        rw [NBD.getD_at hi, ← qf]
        exact Rat.not_lt.mp fun h => e ((q_lt orr.pos of.pos).mpr h)
      · exact hp j (by omega)
  · rintro δ μ' ⟨rfl, ⟨x3, rfl⟩, hp⟩
    refine ⟨trivial, ?_⟩
    rw [List.length_range] at hp
    walk_at "r"
    exact .of (q true ⟨fun _ => hp, fun _ => rfl⟩)
theorem hb_law_is_told : HB c_listold34 t_law_is_told 8 := by
  intro ds μ Q X h
  obtain ⟨gs, cols, rs, xs, rfl, sh, th, q⟩ := h
  show t_law_is_told (ends Q XF) [some (sheetD gs cols rs), some (.tup xs), none, none, none, none, none, none] μ
  have sz : 16777216 ≤ sizeLine := by decide
  have l1 := sh.l1
  have l2 := sh.l2
  have ccs : ∀ c ∈ cols, c.length = rs.length ∧ ∀ f ∈ c, Ok 10 f := fun c hc => ⟨sh.c c hc, sh.oc c hc⟩
  have zl : ∀ n : Nat, n ≤ 14 → (-2 ^ 63 ≤ (n : Int) ∧ (n : Int) < 2 ^ 63 ∧ 1 * (n : Int).toNat ≤ sizeLine) := fun n hn => ⟨by omega, by omega, by omega⟩
  obtain ⟨hl, hx⟩ := th.t xs rfl
  have no : (∀ a b r, xs ≠ a :: b :: r) → Q (.bl false) μ := fun h => q false ⟨fun e => (by cases e), fun h2 => by
    rcases h2 with ⟨d1, d2, _, _, e, _⟩ | ⟨d1, _, e, _⟩ <;> (injection e with e; exact (h _ _ _ e).elim)⟩
  match xs, hl, hx, no, q with
  | [], _, _, no, q =>
    simp! only [t_law_is_told, sheetD, show decide (((0 : Nat) : Int) < 2) = true from rfl]
    exact .of (no fun a b r e => by cases e)
  | [a], _, _, no, q =>
    simp! only [t_law_is_told, sheetD, show decide (((1 : Nat) : Int) < 2) = true from rfl]
    exact .of (no fun a b r e => by cases e)
  | a :: b :: r, hl, hx, no, q =>
    have pa := (hx a List.mem_cons_self).p
    have oka : okN 64 a = true := okN_mono (hx a List.mem_cons_self).s.ok (by decide)
    have pb := hx b (by simp)
    have lr : decide (((r.length + 1 + 1 : Nat) : Int) < 2) = false := decide_eq_false (by omega)
    simp! only [t_law_is_told, sheetD, lr]
    refine ⟨b, cols.length, by rw [List.length_map], pb, fun bb hb => ?_⟩
    cases bb with
    | false =>
      walk_at "r"
      refine .of (q false ⟨fun e => (by cases e), fun h2 => ?_⟩)
      rcases h2 with ⟨d1, d2, x1, _, e, k, _⟩ | ⟨d1, x1, e, k, _⟩
      · injection e with e
        injection e with _ e
        injection e with e _
        subst e
        have := hb.mpr ⟨x1, k⟩
        cases this
      · injection e with e
        injection e with _ e
        injection e with e _
        subst e
        have := hb.mpr ⟨x1, k⟩
        cases this
    | true =>
    obtain ⟨ss, hs⟩ := hb.mp rfl
    have os := hs.ok pb.pt
    have eb := hs.e
    have nstr : (∀ w, a ≠ .str w) → Q (.bl false) μ := fun h => q false ⟨fun e => (by cases e), fun h2 => by
      rcases h2 with ⟨_, _, _, _, e, _⟩ | ⟨_, _, e, _⟩ <;> (injection e with e; injection e with e _; exact (h _ e).elim)⟩
    by_cases isS : ∃ w, a = .str w
    · obtain ⟨w, rfl⟩ := isS
      walk_at "r"
      refine ⟨oka, end_ok, ifS_dec (fun ew => ?_) fun ew => ?_⟩
      · subst ew
        simp! only [List.length_map]
        refine ⟨by decide, by decide, zl _ l2, cols, ss, List.replicate rs.length Z, by rw [eb, show ((rs.length : Nat) : Int).toNat = rs.length by omega, rep_Z], l1, by rw [List.length_replicate]; exact l2, fun c hc => ⟨by rw [List.length_replicate]; exact sh.c c hc, sh.oc c hc⟩, os, fun f hf => by rw [List.eq_of_mem_replicate hf]; exact ok_nought.mono (by decide), fun ft hft => ?_⟩
        have notM : ∀ {P : Prop}, (∃ d1 d2 xs ys, D.tup (D.str (PySem.Str.ofString "endless") :: b :: r) = .tup [.str (PySem.Str.ofString "most"), d1, d2] ∧ ShD cols.length d1 xs ∧ ShD rs.length d2 ys ∧ MostQ gs cols rs xs ys) → P := fun ⟨_, _, _, _, e, _⟩ => by
          injection e with e
          injection e with e _
          injection e with e
          exact (most_ne e.symm).elim
        walk_at "r"
        refine ⟨okN_int, rfl, ?_⟩
        cases r with
        | cons c r =>
          simp! only [show decide ((((c :: r).length + 1 + 1 : Nat) : Int) = 2) = false from decide_eq_false (by rw [List.length_cons]; omega), show decide (((r.length + 1 + 1 + 1 : Nat) : Int) = 2) = false from decide_eq_false (by omega)]
          refine .of (q false ⟨fun e => (by cases e), fun h2 => ?_⟩)
          rcases h2 with h | ⟨_, _, e, _⟩
          · exact notM h
          · injection e with e; injection e with _ e; injection e with _ e; cases e
        | nil =>
          simp! only [show decide ((([] : List D).length + 1 + 1 : Nat) = (2 : Int)) = true from rfl, show decide (((0 + 1 + 1 : Nat) : Int) = 2) = true from rfl, show decide (((2 : Nat) : Int) = 2) = true from rfl]
          have fin : ∀ xs, ShD cols.length b xs → xs = ss := fun xs h => h.uniq hs
          cases ft with
          | false =>
            walk_at "r"
            refine .of (q false ⟨fun e => (by cases e), fun h2 => ?_⟩)
            rcases h2 with h | ⟨d1, x1, e, k, k2⟩
            · exact notM h
            · injection e with e; injection e with _ e; injection e with e _
              subst e
              have := fin _ k
              subst this
              have := hft.mpr k2.ft
              cases this
          | true =>
            have ftq := hft.mp rfl
            walk_at "r"
            refine ⟨gs, ss, by rw [eb], by rw [sh.l]; exact l1, sh.og, os, fun f of qf => ?_⟩
            simp! only [fr]
            refine .of (q _ ?_)
            rw [decide_eq_true_iff]
            constructor
            · intro h
              refine .inr ⟨b, ss, rfl, hs, ⟨hs.l, fun f hf => (hs.p f hf).2.2, ftq, ?_⟩⟩
              rw [← qf]
              exact (q_pos_iff of.pos).mp h
            · intro h
              rcases h with h | ⟨d1, x1, e, k, k2⟩
              · exact notM h
              · injection e with e; injection e with _ e; injection e with e _
                subst e
                have := fin _ k
                subst this
                exact (q_pos_iff of.pos).mpr (by rw [qf]; exact k2.up)
      · walk_at "r"
        refine ⟨oka, most_ok, ?_⟩
        by_cases ew2 : w = PySem.Str.ofString "most"
        · subst ew2
          have notE : ¬ ∃ d1 xs, D.tup (D.str (PySem.Str.ofString "most") :: b :: r) = .tup [.str (PySem.Str.ofString "endless"), d1] ∧ ShD cols.length d1 xs ∧ EndQ gs cols rs.length xs := fun ⟨_, _, e, _⟩ => by
            injection e with e
            injection e with e _
            injection e with e
            exact (most_ne e).elim
          clear no nstr lr
          match r, hl, hx, q, notE with
          | [], _, _, q, notE =>
            simp! only [show decide (((([] : List D).length + 1 + 1 : Nat) : Int) = 3) = false from rfl, show decide (((0 + 1 + 1 : Nat) : Int) = 3) = false from rfl, show decide (((2 : Nat) : Int) = 3) = false from rfl]
            refine ⟨rfl, rfl, .of (q false ⟨fun e => (by cases e), fun h2 => ?_⟩)⟩
            rcases h2 with ⟨_, _, _, _, e, _⟩ | h
            · injection e with e; injection e with _ e; injection e with _ e; cases e
            · exact (notE h).elim
          | c :: d :: r, _, _, q, notE =>
            have e3 : decide (((r.length + 1 + 1 + 1 + 1 : Nat) : Int) = 3) = false := decide_eq_false (by omega)
            simp! only [e3]
            refine ⟨rfl, rfl, .of (q false ⟨fun e => (by cases e), fun h2 => ?_⟩)⟩
            rcases h2 with ⟨_, _, _, _, e, _⟩ | h
            · injection e with e; injection e with _ e; injection e with _ e; injection e with _ e; cases e
            · exact (notE h).elim
          | [c], _, hx, q, notE =>
            have pc := hx c (by simp)
            simp! only [show decide (((([c] : List D).length + 1 + 1 : Nat) : Int) = 3) = true from rfl, show decide (((0 + 1 + 1 + 1 : Nat) : Int) = 3) = true from rfl, show decide (((1 + 1 + 1 : Nat) : Int) = 3) = true from rfl, show decide (((3 : Nat) : Int) = 3) = true from rfl, List.length_map]
            refine ⟨rfl, rfl, c, rs.length, rfl, pc, fun bb hb2 => ?_⟩
            cases bb with
            | false =>
              walk_at "r"
              refine .of (q false ⟨fun e => (by cases e), fun h2 => ?_⟩)
              rcases h2 with ⟨d1, d2, x1, y1, e, _, k, _⟩ | h
              · injection e with e; injection e with _ e; injection e with _ e; injection e with e _
                subst e
                have := hb2.mpr ⟨y1, k⟩
                cases this
              · exact (notE h).elim
            | true =>
            obtain ⟨ys, hy⟩ := hb2.mp rfl
            have oy := hy.ok pc.pt
            have ec := hy.e
            have uq : ∀ {P : Prop}, (MostQ gs cols rs ss ys → P) → Lets gs cols rs (.tup [.str (PySem.Str.ofString "most"), b, c]) → P := fun hP h2 => by
              rcases h2 with ⟨d1, d2, x1, y1, e, k1, k2, k⟩ | h
              · injection e with e; injection e with _ e; injection e with e1 e; injection e with e2 _
                subst e1
                subst e2
                have := k1.uniq hs
                subst this
                have := k2.uniq hy
                subst this
                exact hP k
              · exact (notE h).elim
            walk_at "r"
            rw [zip_map]
            generalize hS : D.tup [.lst (gs.map fr), .lst (cols.map colD), .lst (rs.map fr)] = S0
            generalize hT : D.tup [.str (PySem.Str.ofString "most"), b, c] = T0
            refine for_pre (enc := fun p : List Fc × Fc => D.tup [colD p.1, fr p.2]) (fun pre δ μ' => μ' = μ ∧ (∃ x6 x7, δ = [some S0, some T0, some (.lst (gs.map fr)), some (.lst (cols.map colD)), some (.lst (rs.map fr)), none, x6, x7]) ∧ ∀ z ∈ pre, Fr.q z.2 ≤ wQ z.1 ys) ⟨rfl, ⟨_, _, rfl⟩, fun z hz => by cases hz⟩ ?_ ?_
            · rintro pre ⟨cc, g⟩ post δ μ' hz ⟨rfl, ⟨x6, x7, rfl⟩, hp⟩
              refine ⟨trivial, ?_⟩
              have hm : (cc, g) ∈ cols.zip gs := by rw [hz]; simp
              have hc := (List.of_mem_zip hm).1
              have og := sh.og g (List.of_mem_zip hm).2
              have at2 : view μ' T0 = .tup [.str (PySem.Str.ofString "most"), b, c] := by rw [← hT]; rfl
              subst hT
              simp! only [colD]
              refine ⟨cc, ys, by rw [ec], by rw [sh.c cc hc]; exact l2, sh.oc cc hc, oy, fun f of qf => ?_⟩
              walk_at "r"
              refine ⟨f, g, rfl, NB.Ok.sz of (by decide), NB.Ok.sz og (by decide), ifS_dec (fun e => ?_) fun e => ?_⟩
              · walk_at "r"
                refine .of (q false ⟨fun e => (by cases e), uq fun k => ?_⟩)
                have := k.wo _ hm
                exact absurd ((q_lt of.pos og.pos).mp e) (Rat.not_lt.mpr (by rw [qf]; exact this))
              · walk_at "r"
                refine ⟨⟨_, _, rfl⟩, fun z hz' => ?_⟩
                rcases List.mem_append.mp hz' with h | h
                · exact hp z h
                · rw [List.mem_singleton.mp h]
                  show Fr.q g ≤ wQ cc ys
                  rw [← qf]
                  exact Rat.not_lt.mp fun h => e ((q_lt of.pos og.pos).mpr h)
            · rintro δ μ' ⟨rfl, ⟨x6, x7, rfl⟩, wo⟩
              refine ⟨trivial, ?_⟩
              subst hT
              walk_at "r"
              refine ⟨cols, ss, rs, by rw [eb], l1, l2, ccs, os, sh.or, fun ft hft => ?_⟩
              cases ft with
              | false =>
                walk_at "r"
                exact .of (q false ⟨fun e => (by cases e), uq fun k => by have := hft.mpr k.ft; cases this⟩)
              | true =>
              have ftq := hft.mp rfl
              walk_at "r"
              refine ⟨gs, ss, by rw [eb], by rw [sh.l]; exact l1, sh.og, os, fun f of qf => ?_⟩
              walk_at "r"
              refine ⟨rs, ys, by rw [ec], l2, sh.or, oy, fun g og qg => ?_⟩
              walk_at "r"
              refine ⟨okN_fr (n := 63), okN_fr (n := 63), .of (q _ ?_)⟩
              rw [view_frK, view_frK, eqD_fr, decide_eq_true_iff]
              exact ⟨fun h => .inl ⟨b, c, ss, ys, rfl, hs, hy, ⟨hs.l, hy.l, fun f hf => (hs.p f hf).2.2, fun f hf => (hy.p f hf).2.2, ftq, wo, by rw [← qf, ← qg, h]⟩⟩, uq fun k => q_inj of og (by rw [qf, qg, k.eq])⟩
        · simp! only [decide_eq_false ew2]
          refine .of (q false ⟨fun e => (by cases e), fun h2 => ?_⟩)
          rcases h2 with ⟨_, _, _, _, e, _⟩ | ⟨_, _, e, _⟩ <;> (injection e with e; injection e with e _; injection e with e)
          · exact (ew2 e).elim
          · exact (ew e).elim
    · have ne : ∀ w, eqD a (.str w) = false := fun w => by cases a <;> first | rfl | exact (isS ⟨_, rfl⟩).elim
      have vp : view μ a = a := by cases a <;> first | rfl | cases pa
      walk_at "r"
      rw [vp]
      refine ⟨oka, end_ok, ?_⟩
      rw [ne]
      walk_at "r"
      rw [vp]
      refine ⟨oka, most_ok, ?_⟩
      rw [ne]
      walk_at "r"
      exact .of (nstr fun w e => isS ⟨w, e⟩)
/-! ### things bent -/
def lsD (fs : List Fc) : D := .lst (fs.map fr)
structure TolL (w : Str) (fss : List (List Fc)) : Prop where
  w : w = PySem.Str.ofString "most" ∨ w = PySem.Str.ofString "endless"
  l1 : 1 ≤ fss.length
  l2 : fss.length ≤ 2
  f : ∀ fs ∈ fss, fs.length ≤ 14 ∧ ∀ f ∈ fs, Ok 100 f
def tolD (w : Str) (fss : List (List Fc)) : D := .tup (.str w :: fss.map lsD)
def c_lbent : Ct := fun ds μ Q _ => ∃ (p : Addr) (w : Str) (fss : List (List Fc)), ds = [tolD w fss, .raw (.ref p)] ∧ TolL w fss ∧ Pool μ p ∧ Drw p μ Q ThL id
def t_law_bent_12 : DTS :=
  (dSeq (dSet 4 (dOp gAdd (dVar 4) (dLst (dCons (dOp gIx (dVar 11) (dCall c_take (dCons (dVar 1) (dCons (dC (.int 8)) dNil)))) (dCons (dTup (dCons (dC (.bl true)) (dCons (dC (.int 1)) dNil))) dNil)))))
    (dSeq (dSetIx (dOp gIx (dVar 4) (dOp (gI0 fun i j => .int (i - j)) (dVar 3) (dC (.int 2)))) (dVar 5) (dVar 6))
    (dRet (dOp gAdd (dOp gAdd (dSl (dVar 0) dNoPart (dPart (dVar 2))) (dTup (dCons (dFz (dVar 5)) dNil))) (dSl (dVar 0) (dPart (dOp gAdd (dVar 2) (dC (.int 1)))) dNoPart)))))
def t_law_bent_11 : DTS :=
  (dSeq (dSet 4 (dLst (dCons (dVar 8) (dCons (dVar 8) (dCons (dCall c_minus (dCons (dVar 7) (dCons (dTup (dCons (dC (.int 1)) (dCons (dC (.int 7)) dNil))) dNil))) (dCons (dTup (dCons (dC (.int 0)) (dCons (dC (.int 1)) dNil))) (dCons (dTup (dCons (dC (.int 1)) (dCons (dC (.int 1)) dNil))) dNil)))))))
    t_law_bent_12)
def t_law_bent_10 : DTS :=
  (dSeq (dSet 11 (dOp gAdd (dVar 11) (dLst (dCons (dTup (dCons (dVar 9) (dCons (dOp (gI0 fun i j => .int (i - j)) (dC (.int 0)) (dVar 10)) dNil))) (dCons (dOp gAdd (dVar 7) (dTup (dCons (dC (.int 1)) dNil))) (dCons (dC (.str (PySem.Str.ofString "1"))) dNil))))))
    t_law_bent_11)
def t_law_bent_9 : DTS :=
  (dSeq (dSet 11 (dLst (dCons (dC .non) (dCons (dC (.bl true)) (dCons (dC (.int 1)) (dCons (dCB gList (dCons (dVar 7) dNil)) (dCons (dTup (dCons (dOp gMul (dVar 9) (dC (.int 2))) (dCons (dOp gMul (dVar 10) (dC (.int 2))) dNil))) dNil)))))))
    t_law_bent_10)
def t_law_bent_5 : DTS :=
  (dSeq (dSet 6 (dCall c_take (dCons (dVar 1) (dCons (dCB gLen (dCons (dVar 5) dNil)) dNil))))
    (dSeq (dSet 7 (dOp gIx (dVar 5) (dVar 6)))
    (dSeq (dSet 8 (dCall c_plus (dCons (dVar 7) (dCons (dTup (dCons (dC (.int 1)) (dCons (dC (.int 7)) dNil))) dNil))))
    (dSeq (dAsg (dVar 7) (tgT (tgCons (tgN 9) (tgCons (tgN 10) tgNil))))
    t_law_bent_9))))
def t_law_bent_3 : DTS :=
  (dSeq (dSet 5 (dCB gListC (dCons (dOp gIx (dVar 0) (dVar 2)) dNil)))
    (dSeq (dIf (dOr (dB (dOp gEq (dVar 5) (dLst dNil))) (dB (dOp gEq (dVar 3) (dC (.int 1))))) (dSeq (dSet 4 (dLst (dCons (dOp gAdd (dVar 5) (dLst (dCons (dTup (dCons (dC (.int 0)) (dCons (dC (.int 1)) dNil))) dNil))) (dCons (dCB gTuple (dCons (dVar 5) dNil)) (dCons (dC .non) (dCons (dSl (dVar 5) (dPart (dC (.int 1))) dNoPart) dNil))))))
    (dRet (dOp gAdd (dOp gAdd (dSl (dVar 0) dNoPart (dPart (dVar 2))) (dTup (dCons (dOp gIx (dVar 4) (dCall c_take (dCons (dVar 1) (dCons (dC (.int 4)) dNil)))) dNil))) (dSl (dVar 0) (dPart (dOp gAdd (dVar 2) (dC (.int 1)))) dNoPart)))) dNext)
    t_law_bent_5))
def t_law_bent : DTS :=
  (dSeq (dSet 2 (dCall c_take (dCons (dVar 1) (dCons (dCB gLen (dCons (dVar 0) dNil)) dNil))))
    (dSeq (dSet 3 (dCall c_take (dCons (dVar 1) (dCons (dC (.int 9)) dNil))))
    (dSeq (dIf (dOr (dB (dOp gEq (dVar 2) (dC (.int 0)))) (dB (dOp gEq (dVar 3) (dC (.int 0))))) (dSeq (dSet 4 (dLst (dCons (dOp gAdd (dTup (dCons (dC (.str (PySem.Str.ofString "most"))) dNil)) (dSl (dVar 0) (dPart (dC (.int 1))) dNoPart)) (dCons (dOp gAdd (dTup (dCons (dC (.str (PySem.Str.ofString "endless"))) dNil)) (dSl (dVar 0) (dPart (dC (.int 1))) dNoPart)) (dCons (dOp gAdd (dVar 0) (dTup (dCons (dLst dNil) dNil))) (dCons (dSl (dVar 0) dNoPart (dPart (dNeg (dC (.int 1))))) (dCons (dCB gList (dCons (dVar 0) dNil)) (dCons (dC .non) dNil))))))))
    (dSeq (dSet 4 (dOp gAdd (dVar 4) (dLst (dCons (dTup dNil) (dCons (dRev (dVar 0)) (dCons (dOp gAdd (dTup (dCons (dC (.str (PySem.Str.ofString "Most"))) dNil)) (dSl (dVar 0) (dPart (dC (.int 1))) dNoPart)) (dCons (dOp gAdd (dTup (dCons (dC .non) dNil)) (dSl (dVar 0) (dPart (dC (.int 1))) dNoPart)) (dCons (dC (.str (PySem.Str.ofString "most"))) (dCons (dTup (dCons (dOp gIx (dVar 0) (dC (.int 0))) dNil)) dNil)))))))))
    (dRet (dOp gIx (dOp gAdd (dVar 4) (dLst (dCons dEmp (dCons (dTup (dCons (dC (.int 5)) (dCons (dLst dNil) dNil))) (dCons (dTup (dCons (dLst dNil) (dCons (dOp gIx (dVar 0) (dC (.int 1))) dNil))) dNil))))) (dCall c_take (dCons (dVar 1) (dCons (dC (.int 15)) dNil))))))) dNext)
    t_law_bent_3)))
theorem two_row {a b : Int} : Row0 (.tup [.int a, .int b]) := ⟨rfl, fun xs e x hx => by
  injection e with e
  subst e
  simp only [List.mem_cons, List.not_mem_nil, or_false] at hx
  rcases hx with rfl | rfl <;> rfl⟩
theorem el_int {a b : Int} (h1 : a.natAbs < 2 ^ 140) (h2 : b.natAbs < 2 ^ 140) : ElOk (.tup [.int a, .int b]) :=
  ⟨two_row, fun x y e => by cases e; exact ⟨h1, h2⟩, (sh_fr (f := (a, b)) (Nat.lt_of_lt_of_le h1 (Nat.pow_le_pow_right (by decide) (by decide))) (Nat.lt_of_lt_of_le h2 (Nat.pow_le_pow_right (by decide) (by decide)))).mono (by decide) (by decide)⟩
theorem el_fr {n : Nat} {f : Fc} (h : Ok n f) (hn : n ≤ 140) : ElOk (fr f) := el_int (Nat.lt_of_lt_of_le h.tb (Nat.pow_le_pow_right (by decide) hn)) (Nat.lt_of_lt_of_le h.bb (Nat.pow_le_pow_right (by decide) hn))
theorem el_flat {d : D} (hp : plainD d = true) (ht : ∀ xs, d ≠ .tup xs) (hs : Sh 2 2000 d) : ElOk d := ⟨⟨hp, fun xs e => (ht xs e).elim⟩, fun a b e => (ht _ e).elim, hs⟩
theorem pt_lst {xs : List D} (hl : xs.length ≤ 20) (h : ∀ x ∈ xs, ElOk x) : PtL (.lst xs) :=
  ⟨rfl, fun w e => (by cases e), fun ys e => by injection e with e; subst e; exact ⟨hl, h⟩, (sh_lst (n := 2) (c := 2000) (k := 20) hl fun x hx => (h x hx).s).mono (by decide) (by decide)⟩
theorem pt_tup {xs : List D} (hl : xs.length ≤ 20) (h : ∀ x ∈ xs, ElOk x) : PtL (.tup xs) :=
  ⟨rfl, fun w e => (by cases e), fun ys e => (by cases e), (sh_tup (n := 2) (c := 2000) (k := 20) hl fun x hx => (h x hx).s).mono (by decide) (by decide)⟩
theorem pt_non : PtL .non := ⟨rfl, fun w e => (by cases e), fun ys e => (by cases e), sh_non.mono (by decide) (by decide)⟩
theorem pt_word {w : Str} (h : Sh 2 2000 (.str w)) (h1 : PyData.strOk w = true) : PtL (.str w) := ⟨rfl, fun v e => (by cases e; exact h1), fun ys e => (by cases e), h.mono (by decide) (by decide)⟩
theorem th_tup {xs : List D} (hl : xs.length ≤ 5) (h : ∀ x ∈ xs, PtL x) : ThL (.tup xs) :=
  ⟨rfl, fun ys e => by injection e with e; subst e; exact ⟨hl, h⟩, .inr ((sh_tup (n := 3) (c := 50000) (k := 5) hl fun x hx => (h x hx).s).mono (by decide) (by decide))⟩
theorem th_lst {xs : List D} (hl : xs.length ≤ 5) (h : ∀ x ∈ xs, PtL x) : ThL (.lst xs) :=
  ⟨rfl, fun ys e => (by cases e), .inr ((sh_lst (n := 3) (c := 50000) (k := 5) hl fun x hx => (h x hx).s).mono (by decide) (by decide))⟩
theorem pt_most : PtL (.str (PySem.Str.ofString "most")) := pt_word ⟨by decide +kernel, rfl, by decide +kernel⟩ (by decide +kernel)
theorem pt_end : PtL (.str (PySem.Str.ofString "endless")) := pt_word ⟨by decide +kernel, rfl, by decide +kernel⟩ (by decide +kernel)
theorem pt_Most : PtL (.str (PySem.Str.ofString "Most")) := pt_word ⟨by decide +kernel, rfl, by decide +kernel⟩ (by decide +kernel)
theorem pt_five : PtL (.int 5) := ⟨rfl, fun w e => (by cases e), fun ys e => (by cases e), (sh_small (by decide) (by decide)).mono (by decide) (by decide)⟩
theorem pt_ls {fs : List Fc} (h : fs.length ≤ 14 ∧ ∀ f ∈ fs, Ok 100 f) : PtL (lsD fs) := pt_lst (by rw [List.length_map]; omega) fun x hx => by
  obtain ⟨f, hf, rfl⟩ := List.mem_map.mp hx
  exact el_fr (h.2 f hf) (by decide)
theorem cut_mem {xs : List D} {lo hi : Option Int} : (∀ x ∈ cutD xs lo hi, x ∈ xs) ∧ (cutD xs lo hi).length ≤ xs.length := by
  unfold cutD
  refine ⟨fun x hx => List.mem_of_mem_drop (List.mem_of_mem_take hx), ?_⟩
  rw [List.length_take, List.length_drop]
  omega
theorem bent_A {p : Addr} {μ : M} {Q : QD} {x y : D} {ls : List D} {w0 : Str} {δ' : Sl} (q : ∀ d, ThL d → ∀ μ', Pool μ' p → Oth μ μ' p → Q d μ') (hx : PtL x) (hls : ∀ z ∈ ls, PtL z) (hy : ls[0]? = some y) (h2 : ls.length ≤ 2) (hp : Pool μ p) {part way : D} {E : DEnds} (hE : E.rt = DL.Fin Q) (hxc : E.xc = fun _ => XF) :
    (dSeq (dSet 4 (dLst (dCons (dOp gAdd (dTup (dCons (dC (.str (PySem.Str.ofString "most"))) dNil)) (dSl (dVar 0) (dPart (dC (.int 1))) dNoPart)) (dCons (dOp gAdd (dTup (dCons (dC (.str (PySem.Str.ofString "endless"))) dNil)) (dSl (dVar 0) (dPart (dC (.int 1))) dNoPart)) (dCons (dOp gAdd (dVar 0) (dTup (dCons (dLst dNil) dNil))) (dCons (dSl (dVar 0) dNoPart (dPart (dNeg (dC (.int 1))))) (dCons (dCB gList (dCons (dVar 0) dNil)) (dCons (dC .non) dNil))))))))
    (dSeq (dSet 4 (dOp gAdd (dVar 4) (dLst (dCons (dTup dNil) (dCons (dRev (dVar 0)) (dCons (dOp gAdd (dTup (dCons (dC (.str (PySem.Str.ofString "Most"))) dNil)) (dSl (dVar 0) (dPart (dC (.int 1))) dNoPart)) (dCons (dOp gAdd (dTup (dCons (dC .non) dNil)) (dSl (dVar 0) (dPart (dC (.int 1))) dNoPart)) (dCons (dC (.str (PySem.Str.ofString "most"))) (dCons (dTup (dCons (dOp gIx (dVar 0) (dC (.int 0))) dNil)) dNil)))))))))
    (dRet (dOp gIx (dOp gAdd (dVar 4) (dLst (dCons dEmp (dCons (dTup (dCons (dC (.int 5)) (dCons (dLst dNil) dNil))) (dCons (dTup (dCons (dLst dNil) (dCons (dOp gIx (dVar 0) (dC (.int 1))) dNil))) dNil))))) (dCall c_take (dCons (dVar 1) (dCons (dC (.int 15)) dNil))))))) E [some (.tup (x :: ls)), some (.raw (.ref p)), some part, some way, none, none, none, none, none, none, none, none] μ := by
  have sz : 16777216 ≤ sizeLine := by decide
  have c1 : cutD (x :: ls) (some 1) none = ls := cut_drop (i := 0)
  have cb := @cut_mem (x :: ls) none (some (-1))
  have one : ∀ z : D, PtL z → ThL (.tup ([z] ++ ls)) := fun z hz => th_tup (by rw [List.length_append, List.length_singleton]; omega) fun u hu => by
    rcases List.mem_append.mp hu with h | h
    · rw [List.mem_singleton.mp h]; exact hz
    · exact hls u h
  have all : ∀ z ∈ x :: ls, PtL z := fun z hz => by
    rcases List.mem_cons.mp hz with rfl | h
    · exact hx
    · exact hls z h
  refine giv_set (d := .lst [.tup ([.str (PySem.Str.ofString "most")] ++ ls), .tup ([.str (PySem.Str.ofString "endless")] ++ ls), .tup ((x :: ls) ++ [.lst []]), .tup (cutD (x :: ls) none (some (-1))), .lst (x :: ls), .non])
    (giv_lst (giv_cons (fun Q q => ?_) (giv_cons (fun Q q => ?_) (giv_cons (fun Q q => ?_) (giv_cons (fun Q q => ?_) (giv_cons (fun Q q => ?_) (giv_cons (fun Q q => q) giv_nil)))))) (show 6 ≤ sizeLine by decide)) ?_
  · walk_at "r"
    rw [c1]
    exact ⟨by decide, by omega, q⟩
  · walk_at "r"
    rw [c1]
    exact ⟨by decide, by omega, q⟩
  · walk_at "r"
    exact ⟨by decide, by decide, by omega, q⟩
  · walk_at "r"
    exact q
  · walk_at "r"
    exact q
  have k1 : ∀ d ∈ [D.tup ([.str (PySem.Str.ofString "most")] ++ ls), .tup ([.str (PySem.Str.ofString "endless")] ++ ls), .tup ((x :: ls) ++ [.lst []]), .tup (cutD (x :: ls) none (some (-1))), .lst (x :: ls), .non], ThL d := fun d hd => by
    simp only [List.mem_cons, List.not_mem_nil, or_false] at hd
    have pe : PtL (.lst []) := pt_lst (by decide) fun x hx => by cases hx
    rcases hd with rfl | rfl | rfl | rfl | rfl | rfl
    · exact one _ pt_most
    · exact one _ pt_end
    · refine th_tup (by rw [List.length_append, List.length_cons, List.length_singleton]; omega) fun u hu => ?_
      rcases List.mem_append.mp hu with h | h
      · exact all u h
      · rw [List.mem_singleton.mp h]; exact pe
    · exact th_tup (by have := cb.2; rw [List.length_cons] at this; omega) fun u hu => all u (cb.1 u hu)
    · exact th_lst (by rw [List.length_cons]; omega) all
    · exact ⟨rfl, fun ys e => (by cases e), .inr (sh_non.mono (by decide) (by decide))⟩
  have n1 : [D.tup ([.str (PySem.Str.ofString "most")] ++ ls), .tup ([.str (PySem.Str.ofString "endless")] ++ ls), .tup ((x :: ls) ++ [.lst []]), .tup (cutD (x :: ls) none (some (-1))), .lst (x :: ls), .non].length = 6 := rfl
  generalize [D.tup ([.str (PySem.Str.ofString "most")] ++ ls), .tup ([.str (PySem.Str.ofString "endless")] ++ ls), .tup ((x :: ls) ++ [.lst []]), .tup (cutD (x :: ls) none (some (-1))), .lst (x :: ls), .non] = L1 at *
  simp only [List.set_cons_succ, List.set_cons_zero]
  refine giv_set (d := .lst (L1 ++ [.tup [], .tup (x :: ls).reverse, .tup ([.str (PySem.Str.ofString "Most")] ++ ls), .tup ([.non] ++ ls), .str (PySem.Str.ofString "most"), .tup [x]]))
    (giv_op (x := .lst L1) (y := .lst [.tup [], .tup (x :: ls).reverse, .tup ([.str (PySem.Str.ofString "Most")] ++ ls), .tup ([.non] ++ ls), .str (PySem.Str.ofString "most"), .tup [x]]) (fun Q q => q)
      (giv_lst (giv_cons (giv_tup giv_nil (by decide)) (giv_cons (fun Q q => ?_) (giv_cons (fun Q q => ?_) (giv_cons (fun Q q => ?_) (giv_cons (fun Q q => q) (giv_cons (fun Q q => ?_) giv_nil)))))) (show 6 ≤ sizeLine by decide)) fun Q q => ?_) ?_
  · walk_at "r"
    exact q
  · walk_at "r"
    rw [c1]
    exact ⟨by decide, by omega, q⟩
  · walk_at "r"
    rw [c1]
    exact ⟨by decide, by omega, q⟩
  · walk_at "r"
    exact ⟨by decide, q⟩
  · walk_at "r"
    exact ⟨by rw [n1]; decide, q⟩
  have k2 : ∀ d ∈ L1 ++ [D.tup [], .tup (x :: ls).reverse, .tup ([.str (PySem.Str.ofString "Most")] ++ ls), .tup ([.non] ++ ls), .str (PySem.Str.ofString "most"), .tup [x]], ThL d := fun d hd => by
    rcases List.mem_append.mp hd with h | hd
    · exact k1 d h
    simp only [List.mem_cons, List.not_mem_nil, or_false] at hd
    rcases hd with rfl | rfl | rfl | rfl | rfl | rfl
    · exact th_tup (by decide) fun u hu => by cases hu
    · exact th_tup (by rw [List.length_reverse, List.length_cons]; omega) fun u hu => all u (List.mem_reverse.mp hu)
    · exact one _ pt_Most
    · exact one _ pt_non
    · exact ⟨rfl, fun ys e => (by cases e), .inr (pt_most.s.mono (by decide) (by decide))⟩
    · exact th_tup (show 1 ≤ 5 by decide) fun u hu => by rw [List.mem_singleton.mp hu]; exact hx
  have n2 : (L1 ++ [D.tup [], .tup (x :: ls).reverse, .tup ([.str (PySem.Str.ofString "Most")] ++ ls), .tup ([.non] ++ ls), .str (PySem.Str.ofString "most"), .tup [x]]).length = 12 := by rw [List.length_append, n1]; rfl
  generalize L1 ++ [D.tup [], .tup (x :: ls).reverse, .tup ([.str (PySem.Str.ofString "Most")] ++ ls), .tup ([.non] ++ ls), .str (PySem.Str.ofString "most"), .tup [x]] = L2 at *
  simp only [List.set_cons_succ, List.set_cons_zero]
  have ay : atI (x :: ls) 1 = some y := by
    show atI (x :: ls) ((1 : Nat) : Int) = _
    rw [NB.atI_nat]
    exact hy
  have py : PtL y := hls y (List.mem_of_getElem? hy)
  simp! only [ay]
  rw [hE]
  refine ⟨by decide, by decide, by decide, by decide, by decide, by rw [n2]; decide, p, _, rfl, hp, by decide, by decide, fun r μ' r0 r1 h' o' => ?_⟩
  have k3 : ∀ d ∈ L2 ++ [D.emp, .tup [.int 5, .lst []], .tup [.lst [], y]], ThL d := fun d hd => by
    have pe : PtL (.lst []) := pt_lst (by decide) fun x hx => by cases hx
    rcases List.mem_append.mp hd with h | hd
    · exact k2 d h
    simp only [List.mem_cons, List.not_mem_nil, or_false] at hd
    rcases hd with rfl | rfl | rfl
    · exact ⟨rfl, fun ys e => (by cases e), .inl rfl⟩
    · refine th_tup (show 2 ≤ 5 by decide) fun u hu => ?_
      simp only [List.mem_cons, List.not_mem_nil, or_false] at hu
      rcases hu with rfl | rfl
      · exact pt_five
      · exact pe
    · refine th_tup (show 2 ≤ 5 by decide) fun u hu => ?_
      simp only [List.mem_cons, List.not_mem_nil, or_false] at hu
      rcases hu with rfl | rfl
      · exact pe
      · exact py
  have n3 : (L2 ++ [D.emp, .tup [.int 5, .lst []], .tup [.lst [], y]]).length = 15 := by rw [List.length_append, n2]; rfl
  generalize L2 ++ [D.emp, .tup [.int 5, .lst []], .tup [.lst [], y]] = L3 at *
  obtain ⟨r, rfl⟩ := Int.eq_ofNat_of_zero_le r0
  have hr : r < L3.length := by omega
  refine ix_pass (d := L3[r]) ?_ (.of (q _ (k3 _ (List.getElem_mem hr)) μ' h' o'))
  rw [NB.atI_nat]
  exact List.getElem?_eq_getElem hr
/-- a part put otherwise: the thing told -/
theorem th_part {pre post : List D} {z : D} (hl : pre.length + post.length ≤ 4) (h1 : ∀ u ∈ pre, PtL u) (h2 : ∀ u ∈ post, PtL u) (hz : PtL z) : ThL (.tup (pre ++ [z] ++ post)) := th_tup (by rw [List.length_append, List.length_append, List.length_singleton]; omega) fun u hu => by
  rcases List.mem_append.mp hu with h | h
  · rcases List.mem_append.mp h with h | h
    · exact h1 u h
    · rw [List.mem_singleton.mp h]; exact hz
  · exact h2 u h
theorem bent_B {p c : Addr} {μ μ0 : M} {Q : QD} {pre post : List D} {fs : List Fc} {way : D} (q : ∀ d, ThL d → ∀ μ', Pool μ' p → Oth μ0 μ' p → Q d μ') (hl : pre.length + post.length ≤ 2) (h1 : ∀ u ∈ pre, PtL u) (h2 : ∀ u ∈ post, PtL u) (hf : fs.length ≤ 14 ∧ ∀ f ∈ fs, Ok 100 f) (h0 : μ0 c = none)
    (hp : Pool μ p) (hc : μ c = some (.lst (fs.map fr))) (hcp : c ≠ p) (ho : Oth2 μ0 μ p c) {E : DEnds} (hE : E.rt = DL.Fin Q) (hxc : E.xc = fun _ => XF) :
    (dSeq (dSet 4 (dLst (dCons (dOp gAdd (dVar 5) (dLst (dCons (dTup (dCons (dC (.int 0)) (dCons (dC (.int 1)) dNil))) dNil))) (dCons (dCB gTuple (dCons (dVar 5) dNil)) (dCons (dC .non) (dCons (dSl (dVar 5) (dPart (dC (.int 1))) dNoPart) dNil))))))
    (dRet (dOp gAdd (dOp gAdd (dSl (dVar 0) dNoPart (dPart (dVar 2))) (dTup (dCons (dOp gIx (dVar 4) (dCall c_take (dCons (dVar 1) (dCons (dC (.int 4)) dNil)))) dNil))) (dSl (dVar 0) (dPart (dOp gAdd (dVar 2) (dC (.int 1)))) dNoPart)))) E [some (.tup (pre ++ lsD fs :: post)), some (.raw (.ref p)), some (.int (pre.length : Int)), some way, none, some (.raw (.ref c)), none, none, none, none, none, none] μ := by
  have sz : 16777216 ≤ sizeLine := by decide
  have vc : view μ (.raw (.ref c)) = .lst (fs.map fr) := view_cell hc
  have hf1 := hf.1
  have cd := @cut_mem (fs.map fr) (some 1) none
  refine giv_set (d := .lst [.lst (fs.map fr ++ [.tup [.int 0, .int 1]]), .tup (fs.map fr), .non, .lst (cutD (fs.map fr) (some 1) none)])
    (giv_lst (giv_cons (fun Q q => ?_) (giv_cons (fun Q q => ?_) (giv_cons (fun Q q => q) (giv_cons (fun Q q => ?_) giv_nil)))) (show 4 ≤ sizeLine by decide)) ?_
  · walk_at "r"
    rw [vc]
    exact ⟨by decide, by decide, show (fs.map fr).length + 1 ≤ sizeLine by rw [List.length_map]; omega, q⟩
  · walk_at "r"
    rw [vc]
    exact q
  · walk_at "r"
    rw [vc]
    exact q
  have ef : ∀ x ∈ fs.map fr, ElOk x := fun x hx => by
    obtain ⟨f, hf', rfl⟩ := List.mem_map.mp hx
    exact el_fr (hf.2 f hf') (by decide)
  have k1 : ∀ d ∈ [D.lst (fs.map fr ++ [.tup [.int 0, .int 1]]), .tup (fs.map fr), .non, .lst (cutD (fs.map fr) (some 1) none)], PtL d := fun d hd => by
    simp only [List.mem_cons, List.not_mem_nil, or_false] at hd
    rcases hd with rfl | rfl | rfl | rfl
    · refine pt_lst (by rw [List.length_append, List.length_map, List.length_singleton]; omega) fun x hx => ?_
      rcases List.mem_append.mp hx with h | h
      · exact ef x h
      · rw [List.mem_singleton.mp h]
        exact el_int (by decide) (by decide)
    · exact pt_tup (by rw [List.length_map]; omega) ef
    · exact pt_non
    · exact pt_lst (by have := cd.2; rw [List.length_map] at this; omega) fun x hx => ef x (cd.1 x hx)
  have n1 : [D.lst (fs.map fr ++ [.tup [.int 0, .int 1]]), .tup (fs.map fr), .non, .lst (cutD (fs.map fr) (some 1) none)].length = 4 := rfl
  generalize [D.lst (fs.map fr ++ [.tup [.int 0, .int 1]]), .tup (fs.map fr), .non, .lst (cutD (fs.map fr) (some 1) none)] = L1 at *
  simp only [List.set_cons_succ, List.set_cons_zero]
  have e1 : cutD (pre ++ lsD fs :: post) none (some (pre.length : Int)) = pre := by rw [cut_take, List.take_left]
  have e2 : cutD (pre ++ lsD fs :: post) (some ((pre.length : Int) + 1)) none = post := by
    rw [cut_drop, List.drop_append, List.drop_of_length_le (by omega), show pre.length + 1 - pre.length = 1 by omega]
    rfl
  walk_at "r"
  rw [hE]
  refine ⟨p, _, rfl, hp, by decide, by decide, fun r μ' r0 r1 h' o' => ?_⟩
  obtain ⟨r, rfl⟩ := Int.eq_ofNat_of_zero_le r0
  have hr : r < L1.length := by omega
  have ar : atI L1 (r : Int) = some L1[r] := by
    rw [NB.atI_nat]
    exact List.getElem?_eq_getElem hr
  simp! only [ar, e1, e2]
  refine ⟨by decide, by omega, by rw [List.length_append, List.length_singleton]; omega, delM μ' c, Sub.del c, q _ (th_part (by omega) h1 h2 (k1 _ (List.getElem_mem hr))) _ (pool_del hcp h') ((ho.step o').del h0)⟩
theorem el_true : ElOk (.bl true) := el_flat rfl (fun xs e => by cases e) ⟨rfl, rfl, by decide +kernel⟩
theorem el_non : ElOk .non := el_flat rfl (fun xs e => by cases e) (sh_non.mono (by decide) (by decide))
theorem el_one : ElOk (.int 1) := el_flat rfl (fun xs e => by cases e) ((sh_small (by decide) (by decide)).mono (by decide) (by decide))
theorem el_txt : ElOk (.str (PySem.Str.ofString "1")) := el_flat rfl (fun xs e => by cases e) ⟨by decide +kernel, rfl, by decide +kernel⟩
theorem el_tr1 : ElOk (.tup [.bl true, .int 1]) := ⟨⟨rfl, fun xs e x hx => by injection e with e; subst e; simp only [List.mem_cons, List.not_mem_nil, or_false] at hx; rcases hx with rfl | rfl <;> rfl⟩, fun a b e => (by cases e), ⟨rfl, rfl, by decide +kernel⟩⟩
theorem sh_i {i : Int} (h : i.natAbs < 2 ^ 140) : Sh 0 303 (.int i) := sh_int (Nat.lt_of_lt_of_le h (Nat.pow_le_pow_right (by decide) (by decide)))
theorem el_lst2 {a b : Int} (h1 : a.natAbs < 2 ^ 140) (h2 : b.natAbs < 2 ^ 140) : ElOk (.lst [.int a, .int b]) := el_flat rfl (fun xs e => by cases e) ((sh_lst (n := 0) (c := 303) (k := 2) (xs := [.int a, .int b]) (by simp) fun x hx => by
  simp only [List.mem_cons, List.not_mem_nil, or_false] at hx
  rcases hx with rfl | rfl
  · exact sh_i h1
  · exact sh_i h2).mono (by decide) (by decide))
theorem el_tup3 {a b : Int} (h1 : a.natAbs < 2 ^ 140) (h2 : b.natAbs < 2 ^ 140) : ElOk (.tup [.int a, .int b, .int 1]) := ⟨⟨rfl, fun xs e x hx => by injection e with e; subst e; simp only [List.mem_cons, List.not_mem_nil, or_false] at hx; rcases hx with rfl | rfl | rfl <;> rfl⟩, fun a b e => (by cases e), (sh_tup (n := 0) (c := 303) (k := 3) (xs := [.int a, .int b, .int 1]) (by simp) fun x hx => by
  simp only [List.mem_cons, List.not_mem_nil, or_false] at hx
  rcases hx with rfl | rfl | rfl
  · exact sh_i h1
  · exact sh_i h2
  · exact sh_i (by decide)).mono (by decide) (by decide)⟩
/-- the slots of the bending, its list of odd things and its list of things -/
abbrev slC (pre post : List D) (fs : List Fc) (p c : Addr) (way at_ : Nat) (f g : Fc) (x4 x11 : Option D) : Sl := [some (.tup (pre ++ lsD fs :: post)), some (.raw (.ref p)), some (.int (pre.length : Int)), some (.int (way : Int)), x4, some (.raw (.ref c)), some (.int (at_ : Int)), some (fr f), some (fr g), some (.int f.1), some (.int f.2), x11]
structure CIn (Q : QD) (p c : Addr) (μ μ0 : M) (pre post : List D) (fs : List Fc) (way at_ : Nat) (f g : Fc) : Prop where
  q : ∀ d, ThL d → ∀ μ', Pool μ' p → Oth μ0 μ' p → Q d μ'
  hl : pre.length + post.length ≤ 2
  h1 : ∀ u ∈ pre, PtL u
  h2 : ∀ u ∈ post, PtL u
  hf : fs.length ≤ 14 ∧ ∀ f ∈ fs, Ok 100 f
  w1 : 2 ≤ way
  w2 : way ≤ 8
  ha : at_ < fs.length
  h0 : μ0 c = none
  hp : Pool μ p
  hc : μ c = some (.lst (fs.map fr))
  hcp : c ≠ p
  ho : Oth2 μ0 μ p c
  of : Ok 100 f
  og : Ok 104 g
section
variable {Q : QD} {p c : Addr} {μ μ0 : M} {pre post : List D} {fs : List Fc} {way at_ : Nat} {f g : Fc} {x4 x11 : Option D}
theorem bent_12 (h : CIn Q p c μ μ0 pre post fs way at_ f g) {L3 L2 : List D} (k3 : ∀ d ∈ L3, ElOk d) (n3 : L3.length = 5) (k2 : ∀ d ∈ L2, ElOk d) (n2 : L2.length = 8) :
    t_law_bent_12 (ends Q XF) (slC pre post fs p c way at_ f g (some (.lst L3)) (some (.lst L2))) μ := by
  have sz : 16777216 ≤ sizeLine := by decide
  obtain ⟨q, hl, h1, h2, hf, w1, w2, ha, h0, hp, hc, hcp, ho, of, og⟩ := h
  have hf1 := hf.1
  unfold t_law_bent_12
  rw [dSeq]
  walk_at "s"
  refine ⟨p, _, rfl, hp, by decide, by decide, fun r μ1 r0 r1 h1' o1 => ?_⟩
  obtain ⟨r, rfl⟩ := Int.eq_ofNat_of_zero_le r0
  have hr : r < L2.length := by omega
  have ar : atI L2 (r : Int) = some L2[r] := by
    rw [NB.atI_nat]
    exact List.getElem?_eq_getElem hr
  have er := k2 _ (List.getElem_mem hr)
  generalize L2[r] = od at *
  have c1 := oth_cell o1 hcp hc
  simp only [DL.dSet, DL.kSet, DL.dCB, DL.kCB, DL.dCons, DL.kCons1, DL.kCons2, DL.dNil, DL.dVar, DL.dC, DL.dOp, DL.kOp1, DL.kOp2, DL.dB, DL.kB, DL.dIf, DL.kIf, DL.dRet, DL.dRetN, DL.dTup, DL.kTup, DL.dLst, DL.kLst, DL.dLstC, DL.kLstC, DL.dCall, DL.kCall, DL.dCallK, DL.kCallK1, DL.kCallK2, DL.dLenIs, DL.kLenIs, DL.dNext, DL.dDrop, DL.kDrop, DL.dPar, DL.kPar, DL.dAug, DL.kAug, DL.dAsg, DL.kAsg, DL.dSetIx, DL.kSetIx1, DL.kSetIx2, DL.kSetIx3, DL.dTru, DL.kTru, DL.dAnd, DL.kAnd, DL.dOr, DL.kOr, DL.dNot, DL.kNot, DL.dAndV, DL.kAndV, DL.dOrV, DL.kOrV, DL.dNotV, DL.kNotV, DL.dIfE, DL.kIfE, DL.dChain, DL.kChain1, DL.kChain2, DL.kChain3_true, DL.kChain3_false, DL.dNeg, DL.kNeg, DL.dFz, DL.kFz, DL.dRaise, DL.dTryAs, DL.suiteE, DL.kUnset, DL.dFor, DL.kFor, DL.dSeqI, DL.kSeqI, DL.dRange1, DL.kRange1, DL.dRange2, DL.kRange2, DL.dLc, DL.kLc, DL.dLcC, DL.kLstD, DL.kNewC, DL.dYes, DL.wipeD, DL.loopD, DL.compD, DL.kItem, DL.kTest_true, DL.kTest_false, DL.putIx_some, DL.setsK_some, DL.turnD_some, DL.turnC_some, DL.ifS_true, DL.ifS_false, DL.ifAnd_true, DL.ifAnd_false, DL.ifOr_true, DL.ifOr_false, DL.ifAndV_true, DL.ifAndV_false, DL.ifOrV_true, DL.ifOrV_false, DL.ifE_true, DL.ifE_false, DL.srcOf, DL.tgN, DL.tgT, DL.tgNil, DL.tgCons, DL.sets, List.foldl_cons, List.foldl_nil, DL.gI, DL.gI0, DL.gAdd, DL.gMul, DL.gIx, DL.gEq, DL.gNe, DL.gIs, DL.gIn, DL.gLen, DL.gAbs, DL.gMax2, DL.gMin2, DL.gAll, DL.gAny, DL.gSum, DL.gList, DL.gListC, DL.gTuple, DL.gIsiC, DL.gIsi, DL.tyN, DL.subN_NoneType_int, DL.subN_NoneType_bool, DL.subN_NoneType_str, DL.subN_NoneType_list, DL.subN_NoneType_tuple, DL.subN_bool_int, DL.subN_bool_bool, DL.subN_bool_str, DL.subN_bool_list, DL.subN_bool_tuple, DL.subN_int_int, DL.subN_int_bool, DL.subN_int_str, DL.subN_int_list, DL.subN_int_tuple, DL.subN_str_int, DL.subN_str_bool, DL.subN_str_str, DL.subN_str_list, DL.subN_str_tuple, DL.subN_list_int, DL.subN_list_bool, DL.subN_list_str, DL.subN_list_list, DL.subN_list_tuple, DL.subN_tuple_int, DL.subN_tuple_bool, DL.subN_tuple_str, DL.subN_tuple_list, DL.subN_tuple_tuple, DL.truD, DL.blsOf, DL.view_non, DL.view_bl, DL.view_int', DL.view_str', DL.view_lst', DL.view_tup', DL.view_scr', DL.ends, DL.kEnd, DL.OptP_some, DL.OptQ_some, DL.OptB_some, DL.OptS_some, List.getElem?_cons_zero, List.getElem?_cons_succ, List.set_cons_zero, List.set_cons_succ, DL.atI_zero, DL.atI_one, DL.atI_two, List.length_cons, List.length_nil, DL.pick, List.filterMap_cons, List.filterMap_nil, List.nil_append, List.cons_append, List.map_cons, List.map_nil, Option.map_some, Option.bind_some, true_and, and_true, Bool.false_eq_true, Bool.not_true, Bool.not_false, Bool.xor_false, Bool.xor_true, Bool.false_xor, Bool.true_xor, decide_true, decide_false, Nat.zero_add, Nat.reduceAdd, not_true_eq_false, not_false_eq_true, DL.eqD_int, DL.eqD_str, DL.eqD_bl, DL.eqD_tup, DL.eqD_lst, DL.eqDs_nil, DL.eqDs_cons, Bool.and_true, Bool.and_false, List.all_cons, List.all_nil, List.any_cons, List.any_nil, Bool.and_self, DL.dM, DL.kM1, DL.kM2, DL.dM0, DL.kM0, DL.gAppend, DL.gInsert, DL.gExtend, DL.gPop1, DL.gPop0, DL.gReverse, DL.gSort, DL.gRemove, DL.gCount, DL.gIndex, DL.dSlG, DL.kSl1, DL.kSl2, DL.kSl3, DL.gSl, DL.gSlC, DL.dNoPart, DL.dPart, DL.kPart, DL.dLR1, DL.kLR1, DL.dLR2, DL.kLR21, DL.kLR22, DL.nLst, DL.gRepC, DL.gCatC, DL.gInt, DL.gSorted, DL.gMaxL, DL.gMinL, DL.dEnum, DL.kEnum, DL.dZip2, DL.kZip2, DL.dZip3, DL.kZip3, DL.OptS2_some, DL.OptS3_some, DL.dRev, DL.kRev, DL.dEmp, DL.view_emp', DL.subN_dict_int, DL.subN_dict_bool, DL.subN_dict_str, DL.subN_dict_list, DL.subN_dict_tuple, DL.cellL_lst, DL.cellL_none, DL.gCountD, DL.gRepr, DL.gEqS, DL.dTryK, DL.keepD, DL.kKeep, DL.kKeepR, DL.dXf, DL.gReprE, ar]
  refine ⟨by decide, by decide, by rw [n3]; decide, ?_⟩
  have k4 : ∀ d ∈ L3 ++ [od, .tup [.bl true, .int 1]], ElOk d := fun d hd => by
    rcases List.mem_append.mp hd with h | hd
    · exact k3 d h
    simp only [List.mem_cons, List.not_mem_nil, or_false] at hd
    rcases hd with rfl | rfl
    · exact er
    · exact el_tr1
  have n4 : (L3 ++ [od, .tup [.bl true, .int 1]]).length = 7 := by rw [List.length_append, n3]; rfl
  generalize L3 ++ [od, D.tup [.bl true, .int 1]] = L4 at *
  rw [dSeq]
  have aw : atI L4 ((way : Int) - 2) = some (L4[way - 2]'(by omega)) := by
    rw [show ((way : Int) - 2) = ((way - 2 : Nat) : Int) by omega, NB.atI_nat]
    exact List.getElem?_eq_getElem _
  have ew := k4 _ (List.getElem_mem (show way - 2 < L4.length by omega))
  generalize L4[way - 2]'(by omega) = nw at *
  simp only [DL.dSet, DL.kSet, DL.dCB, DL.kCB, DL.dCons, DL.kCons1, DL.kCons2, DL.dNil, DL.dVar, DL.dC, DL.dOp, DL.kOp1, DL.kOp2, DL.dB, DL.kB, DL.dIf, DL.kIf, DL.dRet, DL.dRetN, DL.dTup, DL.kTup, DL.dLst, DL.kLst, DL.dLstC, DL.kLstC, DL.dCall, DL.kCall, DL.dCallK, DL.kCallK1, DL.kCallK2, DL.dLenIs, DL.kLenIs, DL.dNext, DL.dDrop, DL.kDrop, DL.dPar, DL.kPar, DL.dAug, DL.kAug, DL.dAsg, DL.kAsg, DL.dSetIx, DL.kSetIx1, DL.kSetIx2, DL.kSetIx3, DL.dTru, DL.kTru, DL.dAnd, DL.kAnd, DL.dOr, DL.kOr, DL.dNot, DL.kNot, DL.dAndV, DL.kAndV, DL.dOrV, DL.kOrV, DL.dNotV, DL.kNotV, DL.dIfE, DL.kIfE, DL.dChain, DL.kChain1, DL.kChain2, DL.kChain3_true, DL.kChain3_false, DL.dNeg, DL.kNeg, DL.dFz, DL.kFz, DL.dRaise, DL.dTryAs, DL.suiteE, DL.kUnset, DL.dFor, DL.kFor, DL.dSeqI, DL.kSeqI, DL.dRange1, DL.kRange1, DL.dRange2, DL.kRange2, DL.dLc, DL.kLc, DL.dLcC, DL.kLstD, DL.kNewC, DL.dYes, DL.wipeD, DL.loopD, DL.compD, DL.kItem, DL.kTest_true, DL.kTest_false, DL.putIx_some, DL.setsK_some, DL.turnD_some, DL.turnC_some, DL.ifS_true, DL.ifS_false, DL.ifAnd_true, DL.ifAnd_false, DL.ifOr_true, DL.ifOr_false, DL.ifAndV_true, DL.ifAndV_false, DL.ifOrV_true, DL.ifOrV_false, DL.ifE_true, DL.ifE_false, DL.srcOf, DL.tgN, DL.tgT, DL.tgNil, DL.tgCons, DL.sets, List.foldl_cons, List.foldl_nil, DL.gI, DL.gI0, DL.gAdd, DL.gMul, DL.gIx, DL.gEq, DL.gNe, DL.gIs, DL.gIn, DL.gLen, DL.gAbs, DL.gMax2, DL.gMin2, DL.gAll, DL.gAny, DL.gSum, DL.gList, DL.gListC, DL.gTuple, DL.gIsiC, DL.gIsi, DL.tyN, DL.subN_NoneType_int, DL.subN_NoneType_bool, DL.subN_NoneType_str, DL.subN_NoneType_list, DL.subN_NoneType_tuple, DL.subN_bool_int, DL.subN_bool_bool, DL.subN_bool_str, DL.subN_bool_list, DL.subN_bool_tuple, DL.subN_int_int, DL.subN_int_bool, DL.subN_int_str, DL.subN_int_list, DL.subN_int_tuple, DL.subN_str_int, DL.subN_str_bool, DL.subN_str_str, DL.subN_str_list, DL.subN_str_tuple, DL.subN_list_int, DL.subN_list_bool, DL.subN_list_str, DL.subN_list_list, DL.subN_list_tuple, DL.subN_tuple_int, DL.subN_tuple_bool, DL.subN_tuple_str, DL.subN_tuple_list, DL.subN_tuple_tuple, DL.truD, DL.blsOf, DL.view_non, DL.view_bl, DL.view_int', DL.view_str', DL.view_lst', DL.view_tup', DL.view_scr', DL.ends, DL.kEnd, DL.OptP_some, DL.OptQ_some, DL.OptB_some, DL.OptS_some, List.getElem?_cons_zero, List.getElem?_cons_succ, List.set_cons_zero, List.set_cons_succ, DL.atI_zero, DL.atI_one, DL.atI_two, List.length_cons, List.length_nil, DL.pick, List.filterMap_cons, List.filterMap_nil, List.nil_append, List.cons_append, List.map_cons, List.map_nil, Option.map_some, Option.bind_some, true_and, and_true, Bool.false_eq_true, Bool.not_true, Bool.not_false, Bool.xor_false, Bool.xor_true, Bool.false_xor, Bool.true_xor, decide_true, decide_false, Nat.zero_add, Nat.reduceAdd, not_true_eq_false, not_false_eq_true, DL.eqD_int, DL.eqD_str, DL.eqD_bl, DL.eqD_tup, DL.eqD_lst, DL.eqDs_nil, DL.eqDs_cons, Bool.and_true, Bool.and_false, List.all_cons, List.all_nil, List.any_cons, List.any_nil, Bool.and_self, DL.dM, DL.kM1, DL.kM2, DL.dM0, DL.kM0, DL.gAppend, DL.gInsert, DL.gExtend, DL.gPop1, DL.gPop0, DL.gReverse, DL.gSort, DL.gRemove, DL.gCount, DL.gIndex, DL.dSlG, DL.kSl1, DL.kSl2, DL.kSl3, DL.gSl, DL.gSlC, DL.dNoPart, DL.dPart, DL.kPart, DL.dLR1, DL.kLR1, DL.dLR2, DL.kLR21, DL.kLR22, DL.nLst, DL.gRepC, DL.gCatC, DL.gInt, DL.gSorted, DL.gMaxL, DL.gMinL, DL.dEnum, DL.kEnum, DL.dZip2, DL.kZip2, DL.dZip3, DL.kZip3, DL.OptS2_some, DL.OptS3_some, DL.dRev, DL.kRev, DL.dEmp, DL.view_emp', DL.subN_dict_int, DL.subN_dict_bool, DL.subN_dict_str, DL.subN_dict_list, DL.subN_dict_tuple, DL.cellL_lst, DL.cellL_none, DL.gCountD, DL.gRepr, DL.gEqS, DL.dTryK, DL.keepD, DL.kKeep, DL.kKeepR, DL.dXf, DL.gReprE, aw]
  refine ⟨_, c1, ?_⟩
  rw [show ixN (fs.map fr).length (at_ : Int) = some at_ by rw [List.length_map]; exact ixN_nat ha]
  have ef : ∀ x ∈ (fs.map fr).set at_ nw, ElOk x := fun x hx => by
    rcases List.mem_or_eq_of_mem_set hx with h | h
    · obtain ⟨f, hf', rfl⟩ := List.mem_map.mp h
      exact el_fr (hf.2 f hf') (by decide)
    · rw [h]
      exact ew
  have lf : ((fs.map fr).set at_ nw).length ≤ 20 := by rw [List.length_set, List.length_map]; omega
  have e1 : cutD (pre ++ lsD fs :: post) none (some (pre.length : Int)) = pre := by rw [cut_take, List.take_left]
  have e2 : cutD (pre ++ lsD fs :: post) (some ((pre.length : Int) + 1)) none = post := by
    rw [cut_drop, List.drop_append, List.drop_of_length_le (by omega), show pre.length + 1 - pre.length = 1 by omega]
    rfl
  simp! only [e1, e2]
  refine ⟨_, updM_same, by decide, by omega, by rw [List.length_append, List.length_singleton]; omega, .of (q _ (th_part (by omega) h1 h2 (pt_lst lf ef)) _ (pool_del hcp (pool_upd hcp h1')) ?_)⟩
  exact Oth2.del h0 ((ho.step o1).put)
theorem o17 : Ok 3 ((1, 7) : Fc) := ⟨by decide, by decide, by decide, by decide⟩
theorem bent_11 (h : CIn Q p c μ μ0 pre post fs way at_ f g) {L2 : List D} (k2 : ∀ d ∈ L2, ElOk d) (n2 : L2.length = 8) :
    t_law_bent_11 (ends Q XF) (slC pre post fs p c way at_ f g x4 (some (.lst L2))) μ := by
  unfold t_law_bent_11
  have os : Ok 104 (subF f (1, 7)) := ok_subQ h.of o17
  refine giv_set (d := .lst [fr g, fr g, fr (subF f (1, 7)), .tup [.int 0, .int 1], .tup [.int 1, .int 1]])
    (giv_lst (giv_cons (fun Q q => q) (giv_cons (fun Q q => q) (giv_cons (fun Q q => ?_) (giv_cons (giv_tup (giv_cons (fun Q q => q) (giv_cons (fun Q q => q) giv_nil)) (by decide)) (giv_cons (giv_tup (giv_cons (fun Q q => q) (giv_cons (fun Q q => q) giv_nil)) (by decide)) giv_nil))))) (show 5 ≤ sizeLine by decide)) ?_
  · exact ⟨by decide, f, (1, 7), rfl, NB.Ok.sz h.of (by decide), NB.Ok.sz o17 (by decide), q⟩
  simp only [List.set_cons_succ, List.set_cons_zero]
  refine bent_12 h (fun d hd => ?_) rfl k2 n2
  simp only [List.mem_cons, List.not_mem_nil, or_false] at hd
  rcases hd with rfl | rfl | rfl | rfl | rfl
  · exact el_fr h.og (by decide)
  · exact el_fr h.og (by decide)
  · exact el_fr os (by decide)
  · exact el_int (by decide) (by decide)
  · exact el_int (by decide) (by decide)
theorem bent_10 (h : CIn Q p c μ μ0 pre post fs way at_ f g) {L1 : List D} (k1 : ∀ d ∈ L1, ElOk d) (n1 : L1.length = 5) :
    t_law_bent_10 (ends Q XF) (slC pre post fs p c way at_ f g x4 (some (.lst L1))) μ := by
  unfold t_law_bent_10
  have b1 : f.1.natAbs < 2 ^ 140 := Nat.lt_of_lt_of_le h.of.tb (Nat.pow_le_pow_right (by decide) (by decide))
  have b2 : f.2.natAbs < 2 ^ 140 := Nat.lt_of_lt_of_le h.of.bb (Nat.pow_le_pow_right (by decide) (by decide))
  refine giv_set (d := .lst (L1 ++ [.tup [.int f.1, .int (0 - f.2)], .tup ([.int f.1, .int f.2] ++ [.int 1]), .str (PySem.Str.ofString "1")]))
    (giv_op (x := .lst L1) (y := .lst [.tup [.int f.1, .int (0 - f.2)], .tup ([.int f.1, .int f.2] ++ [.int 1]), .str (PySem.Str.ofString "1")]) (fun Q q => q)
      (giv_lst (giv_cons (giv_tup (giv_cons (fun Q q => q) (giv_cons (fun Q q => q) giv_nil)) (show 2 ≤ sizeLine by decide)) (giv_cons (fun Q q => ?_) (giv_cons (fun Q q => q) giv_nil))) (show 3 ≤ sizeLine by decide)) fun Q q => ?_) ?_
  · exact ⟨by decide, show 2 + 1 ≤ sizeLine by decide, q⟩
  · exact ⟨show L1.length + 3 ≤ sizeLine by rw [n1]; decide, q⟩
  simp only [List.set_cons_succ, List.set_cons_zero]
  refine bent_11 h (fun d hd => ?_) (by rw [List.length_append, n1]; rfl)
  rcases List.mem_append.mp hd with h | hd
  · exact k1 d h
  simp only [List.mem_cons, List.not_mem_nil, or_false] at hd
  rcases hd with rfl | rfl | rfl
  · exact el_int b1 (by rw [show (0 - f.2).natAbs = f.2.natAbs by omega]; exact b2)
  · exact el_tup3 b1 b2
  · exact el_txt
theorem dbl {n : Int} (h : n.natAbs < 2 ^ 100) : (n * 2).natAbs < 2 ^ 140 := by
  rw [Int.natAbs_mul]
  exact Nat.lt_of_lt_of_le (Nat.mul_lt_mul_of_pos_right h (show 0 < (2 : Int).natAbs by decide)) (show 2 ^ 100 * 2 ≤ 2 ^ 140 by decide)
theorem bent_9 (h : CIn Q p c μ μ0 pre post fs way at_ f g) : t_law_bent_9 (ends Q XF) (slC pre post fs p c way at_ f g x4 x11) μ := by
  unfold t_law_bent_9
  have b1 : f.1.natAbs < 2 ^ 140 := Nat.lt_of_lt_of_le h.of.tb (Nat.pow_le_pow_right (by decide) (by decide))
  have b2 : f.2.natAbs < 2 ^ 140 := Nat.lt_of_lt_of_le h.of.bb (Nat.pow_le_pow_right (by decide) (by decide))
  refine giv_set (d := .lst [.non, .bl true, .int 1, .lst [.int f.1, .int f.2], .tup [.int (f.1 * 2), .int (f.2 * 2)]])
    (giv_lst (giv_cons (fun Q q => q) (giv_cons (fun Q q => q) (giv_cons (fun Q q => q) (giv_cons (fun Q q => ?_) (giv_cons (giv_tup (giv_cons (fun Q q => ?_) (giv_cons (fun Q q => ?_) giv_nil)) (show 2 ≤ sizeLine by decide)) giv_nil))))) (show 5 ≤ sizeLine by decide)) ?_
  · walk_at "r"
    exact q
  · walk_at "r"
    exact ⟨mulOk_pow b1 (show (2 : Int).natAbs < 2 ^ 140 by decide) (by decide), q⟩
  · walk_at "r"
    exact ⟨mulOk_pow b2 (show (2 : Int).natAbs < 2 ^ 140 by decide) (by decide), q⟩
  simp only [List.set_cons_succ, List.set_cons_zero]
  refine bent_10 h (fun d hd => ?_) rfl
  simp only [List.mem_cons, List.not_mem_nil, or_false] at hd
  rcases hd with rfl | rfl | rfl | rfl | rfl
  · exact el_non
  · exact el_true
  · exact el_one
  · exact el_lst2 b1 b2
  · exact el_int (dbl h.of.tb) (dbl h.of.bb)
end
end K34
set_option Elab.async false
set_option linter.all false
set_option maxRecDepth 100000
set_option maxHeartbeats 2000000
set_option exponentiation.threshold 20000
namespace K34
open PySem PySem.Spec L2 DL Fr NB NBD K33
section
variable {Q : QD} {p c : Addr} {μ μ0 : M}
theorem bent_5r {rest : DTS} (hR : ∀ {at_ : Nat} {f g : Fc} {μ : M} {pre post : List D} {fs : List Fc} {way : Nat}, CIn Q p c μ μ0 pre post fs way at_ f g → rest (ends Q XF) (slC pre post fs p c way at_ f g none none) μ) {pre post : List D} {fs : List Fc} {way : Nat} (q : ∀ d, ThL d → ∀ μ', Pool μ' p → Oth μ0 μ' p → Q d μ') (hl : pre.length + post.length ≤ 2) (h1 : ∀ u ∈ pre, PtL u) (h2 : ∀ u ∈ post, PtL u) (hf : fs.length ≤ 14 ∧ ∀ f ∈ fs, Ok 100 f) (w1 : 2 ≤ way) (w2 : way ≤ 8) (hne : fs ≠ []) (h0 : μ0 c = none)
    (hp : Pool μ p) (hc : μ c = some (.lst (fs.map fr))) (hcp : c ≠ p) (ho : Oth2 μ0 μ p c) :
    (dSeq (dSet 6 (dCall c_take (dCons (dVar 1) (dCons (dCB gLen (dCons (dVar 5) dNil)) dNil))))
    (dSeq (dSet 7 (dOp gIx (dVar 5) (dVar 6)))
    (dSeq (dSet 8 (dCall c_plus (dCons (dVar 7) (dCons (dTup (dCons (dC (.int 1)) (dCons (dC (.int 7)) dNil))) dNil))))
    (dSeq (dAsg (dVar 7) (tgT (tgCons (tgN 9) (tgCons (tgN 10) tgNil))))
    rest)))) (ends Q XF) [some (.tup (pre ++ lsD fs :: post)), some (.raw (.ref p)), some (.int (pre.length : Int)), some (.int (way : Int)), none, some (.raw (.ref c)), none, none, none, none, none, none] μ := by
  have sz : 16777216 ≤ sizeLine := by decide
  have vc : view μ (.raw (.ref c)) = .lst (fs.map fr) := view_cell hc
  have hf1 := hf.1
  have hpos : 0 < fs.length := List.length_pos_iff.mpr hne
  rw [dSeq]
  simp! only [vc, List.length_map]
  refine ⟨p, _, rfl, hp, Int.natCast_pos.mpr hpos, Int.lt_of_le_of_lt (Int.ofNat_le.mpr hf1) (by decide), fun r μ' r0 r1 h' o' => ?_⟩
  obtain ⟨r, rfl⟩ := Int.eq_ofNat_of_zero_le r0
  have hr : r < fs.length := by omega
  have c1 := oth_cell o' hcp hc
  have vc : view μ' (.raw (.ref c)) = .lst (fs.map fr) := view_cell c1
  have ar : atI (fs.map fr) (r : Int) = some (fr fs[r]) := at_map hr
  have og := hf.2 _ (List.getElem_mem hr)
  generalize ef : fs[r] = f at *
  simp! only [vc, ar]
  refine ⟨by decide, f, (1, 7), rfl, NB.Ok.sz og (by decide), NB.Ok.sz o17 (by decide), ?_⟩
  have og2 : Ok 104 (addF f (1, 7)) := ok_add og o17
  generalize addF f (1, 7) = g at og2 ⊢
  simp! only [show fr f = D.tup [.int f.1, .int f.2] from rfl]
  exact hR ⟨q, hl, h1, h2, hf, w1, w2, hr, h0, h', c1, hcp, ho.step o', og, og2⟩
theorem bent_5 {pre post : List D} {fs : List Fc} {way : Nat} (q : ∀ d, ThL d → ∀ μ', Pool μ' p → Oth μ0 μ' p → Q d μ') (hl : pre.length + post.length ≤ 2) (h1 : ∀ u ∈ pre, PtL u) (h2 : ∀ u ∈ post, PtL u) (hf : fs.length ≤ 14 ∧ ∀ f ∈ fs, Ok 100 f) (w1 : 2 ≤ way) (w2 : way ≤ 8) (hne : fs ≠ []) (h0 : μ0 c = none)
    (hp : Pool μ p) (hc : μ c = some (.lst (fs.map fr))) (hcp : c ≠ p) (ho : Oth2 μ0 μ p c) :
    t_law_bent_5 (ends Q XF) [some (.tup (pre ++ lsD fs :: post)), some (.raw (.ref p)), some (.int (pre.length : Int)), some (.int (way : Int)), none, some (.raw (.ref c)), none, none, none, none, none, none] μ := by
  unfold t_law_bent_5
  exact bent_5r (fun h => bent_9 h) q hl h1 h2 hf w1 w2 hne h0 hp hc hcp ho
theorem bent_3r {rest B : DTS} (hB : ∀ {E : DEnds} {c : Addr} {μ : M} {pre post : List D} {fs : List Fc} {way : D}, pre.length + post.length ≤ 2 → (∀ u ∈ pre, PtL u) → (∀ u ∈ post, PtL u) → (fs.length ≤ 14 ∧ ∀ f ∈ fs, Ok 100 f) → μ0 c = none → Pool μ p → μ c = some (.lst (fs.map fr)) → c ≠ p → Oth2 μ0 μ p c → E.rt = DL.Fin Q → E.xc = (fun _ => XF) → B E [some (.tup (pre ++ lsD fs :: post)), some (.raw (.ref p)), some (.int (pre.length : Int)), some way, none, some (.raw (.ref c)), none, none, none, none, none, none] μ) (hR : ∀ {c : Addr} {μ : M} {pre post : List D} {fs : List Fc} {way : Nat}, pre.length + post.length ≤ 2 → (∀ u ∈ pre, PtL u) → (∀ u ∈ post, PtL u) → (fs.length ≤ 14 ∧ ∀ f ∈ fs, Ok 100 f) → 2 ≤ way → way ≤ 8 → fs ≠ [] → μ0 c = none → Pool μ p → μ c = some (.lst (fs.map fr)) → c ≠ p → Oth2 μ0 μ p c → rest (ends Q XF) [some (.tup (pre ++ lsD fs :: post)), some (.raw (.ref p)), some (.int (pre.length : Int)), some (.int (way : Int)), none, some (.raw (.ref c)), none, none, none, none, none, none] μ) {pre post : List D} {fs : List Fc} {way : Nat} (q : ∀ d, ThL d → ∀ μ', Pool μ' p → Oth μ0 μ' p → Q d μ') (hl : pre.length + post.length ≤ 2) (h1 : ∀ u ∈ pre, PtL u) (h2 : ∀ u ∈ post, PtL u) (hf : fs.length ≤ 14 ∧ ∀ f ∈ fs, Ok 100 f) (w1 : 1 ≤ way) (w2 : way ≤ 8)
    (hp : Pool μ p) (ho : Oth μ0 μ p) :
    (dSeq (dSet 5 (dCB gListC (dCons (dOp gIx (dVar 0) (dVar 2)) dNil)))
    (dSeq (dIf (dOr (dB (dOp gEq (dVar 5) (dLst dNil))) (dB (dOp gEq (dVar 3) (dC (.int 1))))) B dNext)
    rest)) (ends Q XF) [some (.tup (pre ++ lsD fs :: post)), some (.raw (.ref p)), some (.int (pre.length : Int)), some (.int (way : Int)), none, none, none, none, none, none, none, none] μ := by
  have sz : 16777216 ≤ sizeLine := by decide
  have hf1 := hf.1
  have ar : atI (pre ++ lsD fs :: post) (pre.length : Int) = some (.lst (fs.map fr)) := by
    rw [NB.atI_nat, List.getElem?_append_right (Nat.le_refl _), Nat.sub_self]
    rfl
  rw [dSeq]
  simp! only [ar]
  intro c hc0
  have hcp : c ≠ p := fun e => by
    obtain ⟨_, _, e2, _⟩ := hp
    rw [← e, hc0] at e2
    cases e2
  have h0 : μ0 c = none := (ho c hcp).symm.trans hc0
  have hc : updM μ c (.lst (fs.map fr)) c = some (.lst (fs.map fr)) := updM_same
  have hp2 := pool_upd (x := .lst (fs.map fr)) hcp hp
  have ho2 : Oth2 μ0 (updM μ c (.lst (fs.map fr))) p c := Oth2.new ho
  generalize updM μ c (.lst (fs.map fr)) = μ2 at hc hp2 ho2 ⊢
  have vc : view μ2 (.raw (.ref c)) = .lst (fs.map fr) := view_cell hc
  walk_at "s"
  rw [dSeq]
  simp only [DL.dSet, DL.kSet, DL.dCB, DL.kCB, DL.dCons, DL.kCons1, DL.kCons2, DL.dNil, DL.dVar, DL.dC, DL.dOp, DL.kOp1, DL.kOp2, DL.dB, DL.kB, DL.dIf, DL.kIf, DL.dRet, DL.dRetN, DL.dTup, DL.kTup, DL.dLst, DL.kLst, DL.dLstC, DL.kLstC, DL.dCall, DL.kCall, DL.dCallK, DL.kCallK1, DL.kCallK2, DL.dLenIs, DL.kLenIs, DL.dNext, DL.dDrop, DL.kDrop, DL.dPar, DL.kPar, DL.dAug, DL.kAug, DL.dAsg, DL.kAsg, DL.dSetIx, DL.kSetIx1, DL.kSetIx2, DL.kSetIx3, DL.dTru, DL.kTru, DL.dAnd, DL.kAnd, DL.dOr, DL.kOr, DL.dNot, DL.kNot, DL.dAndV, DL.kAndV, DL.dOrV, DL.kOrV, DL.dNotV, DL.kNotV, DL.dIfE, DL.kIfE, DL.dChain, DL.kChain1, DL.kChain2, DL.kChain3_true, DL.kChain3_false, DL.dNeg, DL.kNeg, DL.dFz, DL.kFz, DL.dRaise, DL.dTryAs, DL.suiteE, DL.kUnset, DL.dFor, DL.kFor, DL.dSeqI, DL.kSeqI, DL.dRange1, DL.kRange1, DL.dRange2, DL.kRange2, DL.dLc, DL.kLc, DL.dLcC, DL.kLstD, DL.kNewC, DL.dYes, DL.wipeD, DL.loopD, DL.compD, DL.kItem, DL.kTest_true, DL.kTest_false, DL.putIx_some, DL.setsK_some, DL.turnD_some, DL.turnC_some, DL.ifS_true, DL.ifS_false, DL.ifAnd_true, DL.ifAnd_false, DL.ifOr_true, DL.ifOr_false, DL.ifAndV_true, DL.ifAndV_false, DL.ifOrV_true, DL.ifOrV_false, DL.ifE_true, DL.ifE_false, DL.srcOf, DL.tgN, DL.tgT, DL.tgNil, DL.tgCons, DL.sets, List.foldl_cons, List.foldl_nil, DL.gI, DL.gI0, DL.gAdd, DL.gMul, DL.gIx, DL.gEq, DL.gNe, DL.gIs, DL.gIn, DL.gLen, DL.gAbs, DL.gMax2, DL.gMin2, DL.gAll, DL.gAny, DL.gSum, DL.gList, DL.gListC, DL.gTuple, DL.gIsiC, DL.gIsi, DL.tyN, DL.subN_NoneType_int, DL.subN_NoneType_bool, DL.subN_NoneType_str, DL.subN_NoneType_list, DL.subN_NoneType_tuple, DL.subN_bool_int, DL.subN_bool_bool, DL.subN_bool_str, DL.subN_bool_list, DL.subN_bool_tuple, DL.subN_int_int, DL.subN_int_bool, DL.subN_int_str, DL.subN_int_list, DL.subN_int_tuple, DL.subN_str_int, DL.subN_str_bool, DL.subN_str_str, DL.subN_str_list, DL.subN_str_tuple, DL.subN_list_int, DL.subN_list_bool, DL.subN_list_str, DL.subN_list_list, DL.subN_list_tuple, DL.subN_tuple_int, DL.subN_tuple_bool, DL.subN_tuple_str, DL.subN_tuple_list, DL.subN_tuple_tuple, DL.truD, DL.blsOf, DL.view_non, DL.view_bl, DL.view_int', DL.view_str', DL.view_lst', DL.view_tup', DL.view_scr', DL.ends, DL.kEnd, DL.OptP_some, DL.OptQ_some, DL.OptB_some, DL.OptS_some, List.getElem?_cons_zero, List.getElem?_cons_succ, List.set_cons_zero, List.set_cons_succ, DL.atI_zero, DL.atI_one, DL.atI_two, List.length_cons, List.length_nil, DL.pick, List.filterMap_cons, List.filterMap_nil, List.nil_append, List.cons_append, List.map_cons, List.map_nil, Option.map_some, Option.bind_some, true_and, and_true, Bool.false_eq_true, Bool.not_true, Bool.not_false, Bool.xor_false, Bool.xor_true, Bool.false_xor, Bool.true_xor, decide_true, decide_false, Nat.zero_add, Nat.reduceAdd, not_true_eq_false, not_false_eq_true, DL.eqD_int, DL.eqD_str, DL.eqD_bl, DL.eqD_tup, DL.eqD_lst, DL.eqDs_nil, DL.eqDs_cons, Bool.and_true, Bool.and_false, List.all_cons, List.all_nil, List.any_cons, List.any_nil, Bool.and_self, DL.dM, DL.kM1, DL.kM2, DL.dM0, DL.kM0, DL.gAppend, DL.gInsert, DL.gExtend, DL.gPop1, DL.gPop0, DL.gReverse, DL.gSort, DL.gRemove, DL.gCount, DL.gIndex, DL.dSlG, DL.kSl1, DL.kSl2, DL.kSl3, DL.gSl, DL.gSlC, DL.dNoPart, DL.dPart, DL.kPart, DL.dLR1, DL.kLR1, DL.dLR2, DL.kLR21, DL.kLR22, DL.nLst, DL.gRepC, DL.gCatC, DL.gInt, DL.gSorted, DL.gMaxL, DL.gMinL, DL.dEnum, DL.kEnum, DL.dZip2, DL.kZip2, DL.dZip3, DL.kZip3, DL.OptS2_some, DL.OptS3_some, DL.dRev, DL.kRev, DL.dEmp, DL.view_emp', DL.subN_dict_int, DL.subN_dict_bool, DL.subN_dict_str, DL.subN_dict_list, DL.subN_dict_tuple, DL.cellL_lst, DL.cellL_none, DL.gCountD, DL.gRepr, DL.gEqS, DL.dTryK, DL.keepD, DL.kKeep, DL.kKeepR, DL.dXf, DL.gReprE, vc]
  refine ⟨by decide, okN_lst (n := 63) fun d hd => ?_, rfl, ?_⟩
  · obtain ⟨f, hf', rfl⟩ := List.mem_map.mp hd
    exact okN_mono (el_fr (hf.2 f hf') (by decide)).s.ok (by decide)
  by_cases hne : fs = []
  · rw [show eqDs (fs.map fr) [] = true by rw [hne]; rfl]
    walk_at "s"
    exact hB hl h1 h2 hf h0 hp2 hc hcp ho2 rfl rfl
  · rw [show eqDs (fs.map fr) [] = false by cases fs with | nil => exact (hne rfl).elim | cons _ _ => rfl]
    walk_at "s"
    refine ⟨okN_int, rfl, ifS_dec (fun e => ?_) fun e => ?_⟩
    · exact hB hl h1 h2 hf h0 hp2 hc hcp ho2 rfl rfl
    · exact hR hl h1 h2 hf (by omega) w2 hne h0 hp2 hc hcp ho2
theorem bent_3 {pre post : List D} {fs : List Fc} {way : Nat} (q : ∀ d, ThL d → ∀ μ', Pool μ' p → Oth μ0 μ' p → Q d μ') (hl : pre.length + post.length ≤ 2) (h1 : ∀ u ∈ pre, PtL u) (h2 : ∀ u ∈ post, PtL u) (hf : fs.length ≤ 14 ∧ ∀ f ∈ fs, Ok 100 f) (w1 : 1 ≤ way) (w2 : way ≤ 8)
    (hp : Pool μ p) (ho : Oth μ0 μ p) :
    t_law_bent_3 (ends Q XF) [some (.tup (pre ++ lsD fs :: post)), some (.raw (.ref p)), some (.int (pre.length : Int)), some (.int (way : Int)), none, none, none, none, none, none, none, none] μ := by
  unfold t_law_bent_3
  exact bent_3r (fun hl h1 h2 hf h0 hp hc hcp ho hE hxc => bent_B q hl h1 h2 hf h0 hp hc hcp ho hE hxc) (fun hl h1 h2 hf w1 w2 hne h0 hp hc hcp ho => bent_5 q hl h1 h2 hf w1 w2 hne h0 hp hc hcp ho) q hl h1 h2 hf w1 w2 hp ho
theorem bent_0r {rest B : DTS} {w : Str} {fss : List (List Fc)} (tl : TolL w fss) (hp : Pool μ p)
    (hB : ∀ {E : DEnds} {part way : D} {μ' : M}, Pool μ' p → Oth μ μ' p → E.rt = DL.Fin Q → E.xc = (fun _ => XF) → B E [some (tolD w fss), some (.raw (.ref p)), some part, some way, none, none, none, none, none, none, none, none] μ')
    (hR : ∀ {k way : Nat} {μ' : M}, k < fss.length → 1 ≤ way → way ≤ 8 → Pool μ' p → Oth μ μ' p → rest (ends Q XF) [some (tolD w fss), some (.raw (.ref p)), some (.int ((k + 1 : Nat) : Int)), some (.int (way : Int)), none, none, none, none, none, none, none, none] μ') :
    (dSeq (dSet 2 (dCall c_take (dCons (dVar 1) (dCons (dCB gLen (dCons (dVar 0) dNil)) dNil))))
    (dSeq (dSet 3 (dCall c_take (dCons (dVar 1) (dCons (dC (.int 9)) dNil))))
    (dSeq (dIf (dOr (dB (dOp gEq (dVar 2) (dC (.int 0)))) (dB (dOp gEq (dVar 3) (dC (.int 0))))) B dNext)
    rest))) (ends Q XF) [some (tolD w fss), some (.raw (.ref p)), none, none, none, none, none, none, none, none, none, none] μ := by
  have sz : 16777216 ≤ sizeLine := by decide
  have l1 := tl.l1
  have l2 := tl.l2
  have lt : (D.str w :: fss.map lsD).length = fss.length + 1 := by rw [List.length_cons, List.length_map]
  unfold tolD at *
  generalize D.str w :: fss.map lsD = T at *
  simp! only [lt]
  refine ⟨p, _, rfl, hp, by omega, Int.lt_of_le_of_lt (show ((fss.length + 1 : Nat) : Int) ≤ 3 by omega) (by decide), fun k μ1 k0 k1 h1 o1 => ?_⟩
  obtain ⟨k, rfl⟩ := Int.eq_ofNat_of_zero_le k0
  walk_at "r"
  refine ⟨p, _, rfl, h1, by decide, by decide, fun y μ2 y0 y1 h2 o2 => ?_⟩
  obtain ⟨y, rfl⟩ := Int.eq_ofNat_of_zero_le y0
  have o := o1.trans o2
  walk_at "s"
  rw [dSeq]
  walk_at "s"
  refine ⟨okN_int, rfl, ?_⟩
  by_cases ek : (k : Int) = 0
  · rw [decide_eq_true ek]
    walk_at "s"
    exact hB h2 o rfl rfl
  · rw [decide_eq_false ek]
    walk_at "s"
    refine ⟨okN_int, rfl, ifS_dec (fun e => ?_) fun e => ?_⟩
    · exact hB h2 o rfl rfl
    · obtain ⟨k, rfl⟩ : ∃ j, k = j + 1 := ⟨k - 1, by omega⟩
      exact hR (by omega) (by omega) (by omega) h2 o
theorem hb_law_bent : HB c_lbent t_law_bent 12 := by
  intro ds μ Q X h
  obtain ⟨p, w, fss, rfl, tl, hp, q⟩ := h
  show t_law_bent (ends Q XF) [some (tolD w fss), some (.raw (.ref p)), none, none, none, none, none, none, none, none, none, none] μ
  have l1 := tl.l1
  have l2 := tl.l2
  have pw : PtL (.str w) := by
    rcases tl.w with rfl | rfl
    · exact pt_most
    · exact pt_end
  have pls : ∀ z ∈ fss.map lsD, PtL z := fun z hz => by
    obtain ⟨fs, hf, rfl⟩ := List.mem_map.mp hz
    exact pt_ls (tl.f fs hf)
  unfold t_law_bent
  refine bent_0r tl hp (fun h o hE hxc => ?_) fun {k way μ'} hk w1 w2 h o => ?_
  · have y0 : (fss.map lsD)[0]? = some (lsD fss[0]) := by rw [List.getElem?_map, List.getElem?_eq_getElem (by omega)]; rfl
    exact bent_A (w0 := w) (δ' := []) (fun d hd μ2 h2 o2 => q d μ2 hd h2 (o.trans o2)) pw pls y0 (by rw [List.length_map]; exact l2) h hE hxc
  · have e1 : fss.map lsD = (fss.take k).map lsD ++ lsD fss[k] :: (fss.drop (k + 1)).map lsD := by
      rw [← List.map_cons, ← List.map_append, List.getElem_cons_drop, List.take_append_drop]
    have lp : (D.str w :: (fss.take k).map lsD).length = k + 1 := by rw [List.length_cons, List.length_map, List.length_take]; omega
    rw [show tolD w fss = .tup ((D.str w :: (fss.take k).map lsD) ++ lsD fss[k] :: (fss.drop (k + 1)).map lsD) by unfold tolD; rw [e1]; rfl, ← lp]
    refine bent_3 (μ0 := μ) (fun d hd μ2 h2 o2 => q d μ2 hd h2 o2) (by rw [lp, List.length_map, List.length_drop]; omega) (fun u hu => ?_) (fun u hu => ?_) (tl.f _ (List.getElem_mem hk)) w1 w2 h o
    · rcases List.mem_cons.mp hu with rfl | hu
      · exact pw
      · obtain ⟨fs, hf, rfl⟩ := List.mem_map.mp hu
        exact pt_ls (tl.f fs (List.mem_of_mem_take hf))
    · obtain ⟨fs, hf, rfl⟩ := List.mem_map.mp hu
      exact pt_ls (tl.f fs (List.mem_of_mem_drop hf))
end
theorem vp_plain {d : D} (h : plainD d = true) {μ : M} : view μ d = d := by cases d <;> first | rfl | cases h
def shown34 (d : D) : Prop := d = .emp ∨ (okN 64 d = true ∧ (toP d).showable = true ∧ (toP d).shown.length ≤ sizeLine)
theorem ThL.sho {d : D} (h : ThL d) : shown34 d := by
  rcases h.s with h | h
  · exact .inl h
  · exact .inr ⟨okN_mono h.ok (by decide), h.sh, h.shown (by decide)⟩
theorem turn_a {rest : DTS} {E : DEnds} {w1 w2 : Str} {fss1 fss2 : List (List Fc)} {p : Addr} {μ : M} {x0 x1 x3 x6 : D} {i : Int} {x8 x9 x10 x11 x12 : Option D}
    (t1 : TolL w1 fss1) (t2 : TolL w2 fss2) (hth : ThL (tolD w2 fss2)) (hp : Pool μ p) (i0 : 0 ≤ i) (i1 : i < 6)
    (hR : ∀ (d : D) (y8 : Option D) (μ' : M), ThL d → Pool μ' p → rest E [some x0, some x1, some (.raw (.ref p)), some x3, some (tolD w1 fss1), some (tolD w2 fss2), some x6, some (.int i), y8, some d, x10, x11, x12] μ') :
    (dSeq (dSet 8 (dOp gAdd (dOp (gI CDivD fun i j => .int (i.fdiv j)) (dCall c_take (dCons (dVar 2) (dCons (dC (.int 4)) dNil))) (dC (.int 2))) (dOp (gI CDivD fun i j => .int (i.fdiv j)) (dVar 7) (dC (.int 5)))))
    (dSeq (dSet 9 (dOp gIx (dLst (dCons (dCall c_lbent (dCons (dVar 4) (dCons (dVar 2) dNil))) (dCons (dCall c_lbent (dCons (dVar 5) (dCons (dVar 2) dNil))) (dCons (dVar 5) dNil)))) (dVar 8)))
    rest)) E [some x0, some x1, some (.raw (.ref p)), some x3, some (tolD w1 fss1), some (tolD w2 fss2), some x6, some (.int i), x8, x9, x10, x11, x12] μ := by
  have sz : 16777216 ≤ sizeLine := by decide
  rw [dSeq]
  walk_at "r"
  refine ⟨p, _, rfl, hp, by decide, by decide, fun r μ1 r0 r1 h1 o1 => ?_⟩
  walk_at "r"
  refine ⟨divOk_small (by decide) (by decide), divOk_small (by decide) (by decide), ?_⟩
  have at0 : 0 ≤ r.fdiv 2 + i.fdiv 5 := by rw [Int.fdiv_eq_ediv_of_nonneg _ (by decide), Int.fdiv_eq_ediv_of_nonneg _ (by decide)]; omega
  have at2 : r.fdiv 2 + i.fdiv 5 < 3 := by rw [Int.fdiv_eq_ediv_of_nonneg _ (by decide), Int.fdiv_eq_ediv_of_nonneg _ (by decide)]; omega
  generalize r.fdiv 2 + i.fdiv 5 = a at *
  obtain ⟨a, rfl⟩ := Int.eq_ofNat_of_zero_le at0
  refine ⟨p, w1, fss1, rfl, t1, h1, fun d1 μ2 hd1 h2 o2 => ?_⟩
  walk_at "r"
  refine ⟨p, w2, fss2, rfl, t2, h2, fun d2 μ3 hd2 h3 o3 => ?_⟩
  walk_at "r"
  refine ⟨by decide, ?_⟩
  have ha : a < [d1, d2, tolD w2 fss2].length := by show a < 3; omega
  refine ix_pass (d := [d1, d2, tolD w2 fss2][a]) ?_ ?_
  · rw [NB.atI_nat]
    exact List.getElem?_eq_getElem ha
  have hm : [d1, d2, tolD w2 fss2][a] ∈ [d1, d2, tolD w2 fss2] := List.getElem_mem ha
  generalize [d1, d2, tolD w2 fss2][a] = d at *
  walk_at "r"
  refine hR d _ μ3 ?_ h3
  simp only [List.mem_cons, List.not_mem_nil, or_false] at hm
  rcases hm with rfl | rfl | rfl
  · exact hd1
  · exact hd2
  · exact hth
theorem turn_b {E : DEnds} {gs : List Fc} {cols : List (List Fc)} {rs : List Fc} (ss : ShS gs cols rs) (hsh : shown34 (sheetD gs cols rs)) {d : D} (hd : ThL d) {μ : M} {x0 x1 x2 x4 x5 x7 x8 : Option D} {x10 x11 x12 : Option D}
    (hN : ∀ y10 y11 y12, E.nx [x0, x1, x2, some (sheetD gs cols rs), x4, x5, some (.str (reprE (sheetD gs cols rs))), x7, x8, some d, y10, y11, y12] μ) :
    (dSeq (dSet 10 (dCB gReprE (dCons (dVar 9) dNil)))
    (dSeq (dSet 11 (dAndV (dCB (gIsiC "tuple") (dCons (dVar 9) (dCons (dC (.raw (.ty "tuple"))) dNil))) (dCall c_listold34 (dCons (dVar 3) (dCons (dVar 9) dNil)))))
    (dSeq (dSet 12 (dCall c_letsmost (dCons (dVar 3) (dCons (dVar 9) dNil))))
    (dIf (dOr (dNot (dTru (dCB (gIsiC "bool") (dCons (dVar 12) (dCons (dC (.raw (.ty "bool"))) dNil))))) (dOr (dB (dOp gNe (dVar 12) (dVar 11))) (dOr (dB (dOp (gEqS true) (dCB gReprE (dCons (dVar 9) dNil)) (dVar 10))) (dB (dOp (gEqS true) (dCB gReprE (dCons (dVar 3) dNil)) (dVar 6)))))) (dRet (dC (.bl false))) dNext)))) E [x0, x1, x2, some (sheetD gs cols rs), x4, x5, some (.str (reprE (sheetD gs cols rs))), x7, x8, some d, x10, x11, x12] μ := by
  have sz : 16777216 ≤ sizeLine := by decide
  have pl := hd.p
  have sd := hd.sho
  have vp : view μ d = d := vp_plain pl
  have vs : view μ (sheetD gs cols rs) = sheetD gs cols rs := rfl
  rw [dSeq]
  simp only [DL.dSet, DL.kSet, DL.dCB, DL.kCB, DL.dCons, DL.kCons1, DL.kCons2, DL.dNil, DL.dVar, DL.dC, DL.dOp, DL.kOp1, DL.kOp2, DL.dB, DL.kB, DL.dIf, DL.kIf, DL.dRet, DL.dRetN, DL.dTup, DL.kTup, DL.dLst, DL.kLst, DL.dLstC, DL.kLstC, DL.dCall, DL.kCall, DL.dCallK, DL.kCallK1, DL.kCallK2, DL.dLenIs, DL.kLenIs, DL.dNext, DL.dDrop, DL.kDrop, DL.dPar, DL.kPar, DL.dAug, DL.kAug, DL.dAsg, DL.kAsg, DL.dSetIx, DL.kSetIx1, DL.kSetIx2, DL.kSetIx3, DL.dTru, DL.kTru, DL.dAnd, DL.kAnd, DL.dOr, DL.kOr, DL.dNot, DL.kNot, DL.dAndV, DL.kAndV, DL.dOrV, DL.kOrV, DL.dNotV, DL.kNotV, DL.dIfE, DL.kIfE, DL.dChain, DL.kChain1, DL.kChain2, DL.kChain3_true, DL.kChain3_false, DL.dNeg, DL.kNeg, DL.dFz, DL.kFz, DL.dRaise, DL.dTryAs, DL.suiteE, DL.kUnset, DL.dFor, DL.kFor, DL.dSeqI, DL.kSeqI, DL.dRange1, DL.kRange1, DL.dRange2, DL.kRange2, DL.dLc, DL.kLc, DL.dLcC, DL.kLstD, DL.kNewC, DL.dYes, DL.wipeD, DL.loopD, DL.compD, DL.kItem, DL.kTest_true, DL.kTest_false, DL.putIx_some, DL.setsK_some, DL.turnD_some, DL.turnC_some, DL.ifS_true, DL.ifS_false, DL.ifAnd_true, DL.ifAnd_false, DL.ifOr_true, DL.ifOr_false, DL.ifAndV_true, DL.ifAndV_false, DL.ifOrV_true, DL.ifOrV_false, DL.ifE_true, DL.ifE_false, DL.srcOf, DL.tgN, DL.tgT, DL.tgNil, DL.tgCons, DL.sets, List.foldl_cons, List.foldl_nil, DL.gI, DL.gI0, DL.gAdd, DL.gMul, DL.gIx, DL.gEq, DL.gNe, DL.gIs, DL.gIn, DL.gLen, DL.gAbs, DL.gMax2, DL.gMin2, DL.gAll, DL.gAny, DL.gSum, DL.gList, DL.gListC, DL.gTuple, DL.gIsiC, DL.gIsi, DL.tyN, DL.subN_NoneType_int, DL.subN_NoneType_bool, DL.subN_NoneType_str, DL.subN_NoneType_list, DL.subN_NoneType_tuple, DL.subN_bool_int, DL.subN_bool_bool, DL.subN_bool_str, DL.subN_bool_list, DL.subN_bool_tuple, DL.subN_int_int, DL.subN_int_bool, DL.subN_int_str, DL.subN_int_list, DL.subN_int_tuple, DL.subN_str_int, DL.subN_str_bool, DL.subN_str_str, DL.subN_str_list, DL.subN_str_tuple, DL.subN_list_int, DL.subN_list_bool, DL.subN_list_str, DL.subN_list_list, DL.subN_list_tuple, DL.subN_tuple_int, DL.subN_tuple_bool, DL.subN_tuple_str, DL.subN_tuple_list, DL.subN_tuple_tuple, DL.truD, DL.blsOf, DL.view_non, DL.view_bl, DL.view_int', DL.view_str', DL.view_lst', DL.view_tup', DL.view_scr', DL.ends, DL.kEnd, DL.OptP_some, DL.OptQ_some, DL.OptB_some, DL.OptS_some, List.getElem?_cons_zero, List.getElem?_cons_succ, List.set_cons_zero, List.set_cons_succ, DL.atI_zero, DL.atI_one, DL.atI_two, List.length_cons, List.length_nil, DL.pick, List.filterMap_cons, List.filterMap_nil, List.nil_append, List.cons_append, List.map_cons, List.map_nil, Option.map_some, Option.bind_some, true_and, and_true, Bool.false_eq_true, Bool.not_true, Bool.not_false, Bool.xor_false, Bool.xor_true, Bool.false_xor, Bool.true_xor, decide_true, decide_false, Nat.zero_add, Nat.reduceAdd, not_true_eq_false, not_false_eq_true, DL.eqD_int, DL.eqD_str, DL.eqD_bl, DL.eqD_tup, DL.eqD_lst, DL.eqDs_nil, DL.eqDs_cons, Bool.and_true, Bool.and_false, List.all_cons, List.all_nil, List.any_cons, List.any_nil, Bool.and_self, DL.dM, DL.kM1, DL.kM2, DL.dM0, DL.kM0, DL.gAppend, DL.gInsert, DL.gExtend, DL.gPop1, DL.gPop0, DL.gReverse, DL.gSort, DL.gRemove, DL.gCount, DL.gIndex, DL.dSlG, DL.kSl1, DL.kSl2, DL.kSl3, DL.gSl, DL.gSlC, DL.dNoPart, DL.dPart, DL.kPart, DL.dLR1, DL.kLR1, DL.dLR2, DL.kLR21, DL.kLR22, DL.nLst, DL.gRepC, DL.gCatC, DL.gInt, DL.gSorted, DL.gMaxL, DL.gMinL, DL.dEnum, DL.kEnum, DL.dZip2, DL.kZip2, DL.dZip3, DL.kZip3, DL.OptS2_some, DL.OptS3_some, DL.dRev, DL.kRev, DL.dEmp, DL.view_emp', DL.subN_dict_int, DL.subN_dict_bool, DL.subN_dict_str, DL.subN_dict_list, DL.subN_dict_tuple, DL.cellL_lst, DL.cellL_none, DL.gCountD, DL.gRepr, DL.gEqS, DL.dTryK, DL.keepD, DL.kKeep, DL.kKeepR, DL.dXf, DL.gReprE, vp]
  refine ⟨sd, ?_⟩
  rw [dSeq]
  suffices h : ∀ b : Bool, (b = true ↔ Lets gs cols rs d) → (dSeq (dSet 12 (dCall c_letsmost (dCons (dVar 3) (dCons (dVar 9) dNil))))
    (dIf (dOr (dNot (dTru (dCB (gIsiC "bool") (dCons (dVar 12) (dCons (dC (.raw (.ty "bool"))) dNil))))) (dOr (dB (dOp gNe (dVar 12) (dVar 11))) (dOr (dB (dOp (gEqS true) (dCB gReprE (dCons (dVar 9) dNil)) (dVar 10))) (dB (dOp (gEqS true) (dCB gReprE (dCons (dVar 3) dNil)) (dVar 6)))))) (dRet (dC (.bl false))) dNext)) E [x0, x1, x2, some (sheetD gs cols rs), x4, x5, some (.str (reprE (sheetD gs cols rs))), x7, x8, some d, some (.str (reprE d)), some (.bl b), x12] μ by
    by_cases ht : ∃ xs, d = .tup xs
    · obtain ⟨xs, rfl⟩ := ht
      walk_at "s"
      refine ⟨gs, cols, rs, xs, rfl, ss, hd, fun b hb => ?_⟩
      walk_at "s"
      exact h b hb
    · have nl : ¬ Lets gs cols rs d := by
        rintro (⟨_, _, _, _, e, _⟩ | ⟨_, _, e, _⟩) <;> exact ht ⟨_, e⟩
      have := h false ⟨fun e => (by cases e), fun e => (nl e).elim⟩
      cases d with
      | raw _ => cases pl
      | scr _ => cases pl
      | key _ => cases pl
      | tup xs => exact (ht ⟨_, rfl⟩).elim
      | non => walk_at "s"; exact this
      | bl _ => walk_at "s"; exact this
      | int _ => walk_at "s"; exact this
      | str _ => walk_at "s"; exact this
      | lst _ => walk_at "s"; exact this
      | emp => walk_at "s"; exact this
  intro b hb
  rw [dSeq]
  walk_at "s"
  refine ⟨gs, cols, rs, d, rfl, ss, hd.th, fun b2 hb2 => ?_⟩
  have : b2 = b := by
    rw [Bool.eq_iff_iff, hb, hb2]
  subst this
  simp only [DL.dSet, DL.kSet, DL.dCB, DL.kCB, DL.dCons, DL.kCons1, DL.kCons2, DL.dNil, DL.dVar, DL.dC, DL.dOp, DL.kOp1, DL.kOp2, DL.dB, DL.kB, DL.dIf, DL.kIf, DL.dRet, DL.dRetN, DL.dTup, DL.kTup, DL.dLst, DL.kLst, DL.dLstC, DL.kLstC, DL.dCall, DL.kCall, DL.dCallK, DL.kCallK1, DL.kCallK2, DL.dLenIs, DL.kLenIs, DL.dNext, DL.dDrop, DL.kDrop, DL.dPar, DL.kPar, DL.dAug, DL.kAug, DL.dAsg, DL.kAsg, DL.dSetIx, DL.kSetIx1, DL.kSetIx2, DL.kSetIx3, DL.dTru, DL.kTru, DL.dAnd, DL.kAnd, DL.dOr, DL.kOr, DL.dNot, DL.kNot, DL.dAndV, DL.kAndV, DL.dOrV, DL.kOrV, DL.dNotV, DL.kNotV, DL.dIfE, DL.kIfE, DL.dChain, DL.kChain1, DL.kChain2, DL.kChain3_true, DL.kChain3_false, DL.dNeg, DL.kNeg, DL.dFz, DL.kFz, DL.dRaise, DL.dTryAs, DL.suiteE, DL.kUnset, DL.dFor, DL.kFor, DL.dSeqI, DL.kSeqI, DL.dRange1, DL.kRange1, DL.dRange2, DL.kRange2, DL.dLc, DL.kLc, DL.dLcC, DL.kLstD, DL.kNewC, DL.dYes, DL.wipeD, DL.loopD, DL.compD, DL.kItem, DL.kTest_true, DL.kTest_false, DL.putIx_some, DL.setsK_some, DL.turnD_some, DL.turnC_some, DL.ifS_true, DL.ifS_false, DL.ifAnd_true, DL.ifAnd_false, DL.ifOr_true, DL.ifOr_false, DL.ifAndV_true, DL.ifAndV_false, DL.ifOrV_true, DL.ifOrV_false, DL.ifE_true, DL.ifE_false, DL.srcOf, DL.tgN, DL.tgT, DL.tgNil, DL.tgCons, DL.sets, List.foldl_cons, List.foldl_nil, DL.gI, DL.gI0, DL.gAdd, DL.gMul, DL.gIx, DL.gEq, DL.gNe, DL.gIs, DL.gIn, DL.gLen, DL.gAbs, DL.gMax2, DL.gMin2, DL.gAll, DL.gAny, DL.gSum, DL.gList, DL.gListC, DL.gTuple, DL.gIsiC, DL.gIsi, DL.tyN, DL.subN_NoneType_int, DL.subN_NoneType_bool, DL.subN_NoneType_str, DL.subN_NoneType_list, DL.subN_NoneType_tuple, DL.subN_bool_int, DL.subN_bool_bool, DL.subN_bool_str, DL.subN_bool_list, DL.subN_bool_tuple, DL.subN_int_int, DL.subN_int_bool, DL.subN_int_str, DL.subN_int_list, DL.subN_int_tuple, DL.subN_str_int, DL.subN_str_bool, DL.subN_str_str, DL.subN_str_list, DL.subN_str_tuple, DL.subN_list_int, DL.subN_list_bool, DL.subN_list_str, DL.subN_list_list, DL.subN_list_tuple, DL.subN_tuple_int, DL.subN_tuple_bool, DL.subN_tuple_str, DL.subN_tuple_list, DL.subN_tuple_tuple, DL.truD, DL.blsOf, DL.view_non, DL.view_bl, DL.view_int', DL.view_str', DL.view_lst', DL.view_tup', DL.view_scr', DL.ends, DL.kEnd, DL.OptP_some, DL.OptQ_some, DL.OptB_some, DL.OptS_some, List.getElem?_cons_zero, List.getElem?_cons_succ, List.set_cons_zero, List.set_cons_succ, DL.atI_zero, DL.atI_one, DL.atI_two, List.length_cons, List.length_nil, DL.pick, List.filterMap_cons, List.filterMap_nil, List.nil_append, List.cons_append, List.map_cons, List.map_nil, Option.map_some, Option.bind_some, true_and, and_true, Bool.false_eq_true, Bool.not_true, Bool.not_false, Bool.xor_false, Bool.xor_true, Bool.false_xor, Bool.true_xor, decide_true, decide_false, Nat.zero_add, Nat.reduceAdd, not_true_eq_false, not_false_eq_true, DL.eqD_int, DL.eqD_str, DL.eqD_bl, DL.eqD_tup, DL.eqD_lst, DL.eqDs_nil, DL.eqDs_cons, Bool.and_true, Bool.and_false, List.all_cons, List.all_nil, List.any_cons, List.any_nil, Bool.and_self, DL.dM, DL.kM1, DL.kM2, DL.dM0, DL.kM0, DL.gAppend, DL.gInsert, DL.gExtend, DL.gPop1, DL.gPop0, DL.gReverse, DL.gSort, DL.gRemove, DL.gCount, DL.gIndex, DL.dSlG, DL.kSl1, DL.kSl2, DL.kSl3, DL.gSl, DL.gSlC, DL.dNoPart, DL.dPart, DL.kPart, DL.dLR1, DL.kLR1, DL.dLR2, DL.kLR21, DL.kLR22, DL.nLst, DL.gRepC, DL.gCatC, DL.gInt, DL.gSorted, DL.gMaxL, DL.gMinL, DL.dEnum, DL.kEnum, DL.dZip2, DL.kZip2, DL.dZip3, DL.kZip3, DL.OptS2_some, DL.OptS3_some, DL.dRev, DL.kRev, DL.dEmp, DL.view_emp', DL.subN_dict_int, DL.subN_dict_bool, DL.subN_dict_str, DL.subN_dict_list, DL.subN_dict_tuple, DL.cellL_lst, DL.cellL_none, DL.gCountD, DL.gRepr, DL.gEqS, DL.dTryK, DL.keepD, DL.kKeep, DL.kKeepR, DL.dXf, DL.gReprE, vp, vs]
  first
  | exact ⟨sd, hsh, hN _ _ _⟩
  | exact ⟨rfl, rfl, sd, hsh, hN _ _ _⟩
def t_law (C_Board : Addr) : DTS :=
  (dSeq (dFor (dRange1 (dCons (dCB gMax2 (dCons (dC (.int 1)) (dCons (dCB gMin2 (dCons (dCB gLen (dCons (dVar 0) dNil)) (dCons (dC (.int 8)) dNil))) dNil))) dNil)) (tgN 1) (dSeq (dSet 2 (dCall c_pool (dCons (dVar 0) (dCons (dVar 1) dNil))))
    (dSeq (dSet 3 (dCall K33.c_lsheet (dCons (dVar 2) dNil)))
    (dSeq (dSet 4 (dFzD (dCall (c_mostof C_Board) (dCons (dVar 3) dNil))))
    (dSeq (dSet 5 (dTup (dCons (dC (.str (PySem.Str.ofString "most"))) (dCons (dOp gMul (dLst (dCons (dTup (dCons (dC (.int 0)) (dCons (dC (.int 1)) dNil))) dNil)) (dCB gLen (dCons (dOp gIx (dVar 3) (dC (.int 0))) dNil))) (dCons (dOp gMul (dLst (dCons (dTup (dCons (dC (.int 0)) (dCons (dC (.int 1)) dNil))) dNil)) (dCB gLen (dCons (dOp gIx (dVar 3) (dC (.int 2))) dNil))) dNil)))))
    (dSeq (dSet 6 (dCB gReprE (dCons (dVar 3) dNil)))
    (dSeq (dFor (dRange1 (dCons (dC (.int 6)) dNil)) (tgN 7) (dSeq (dSet 8 (dOp gAdd (dOp (gI CDivD fun i j => .int (i.fdiv j)) (dCall c_take (dCons (dVar 2) (dCons (dC (.int 4)) dNil))) (dC (.int 2))) (dOp (gI CDivD fun i j => .int (i.fdiv j)) (dVar 7) (dC (.int 5)))))
    (dSeq (dSet 9 (dOp gIx (dLst (dCons (dCall c_lbent (dCons (dVar 4) (dCons (dVar 2) dNil))) (dCons (dCall c_lbent (dCons (dVar 5) (dCons (dVar 2) dNil))) (dCons (dVar 5) dNil)))) (dVar 8)))
    (dSeq (dSet 10 (dCB gReprE (dCons (dVar 9) dNil)))
    (dSeq (dSet 11 (dAndV (dCB (gIsiC "tuple") (dCons (dVar 9) (dCons (dC (.raw (.ty "tuple"))) dNil))) (dCall c_listold34 (dCons (dVar 3) (dCons (dVar 9) dNil)))))
    (dSeq (dSet 12 (dCall c_letsmost (dCons (dVar 3) (dCons (dVar 9) dNil))))
    (dIf (dOr (dNot (dTru (dCB (gIsiC "bool") (dCons (dVar 12) (dCons (dC (.raw (.ty "bool"))) dNil))))) (dOr (dB (dOp gNe (dVar 12) (dVar 11))) (dOr (dB (dOp (gEqS true) (dCB gReprE (dCons (dVar 9) dNil)) (dVar 10))) (dB (dOp (gEqS true) (dCB gReprE (dCons (dVar 3) dNil)) (dVar 6)))))) (dRet (dC (.bl false))) dNext)))))))
    (dIf (dB (dOp (gIs true) (dCall c_letsmost (dCons (dVar 3) (dCons (dVar 4) dNil))) (dC (.bl true)))) (dRet (dC (.bl false))) dNext))))))))
    (dRet (dC (.bl true))))
theorem tol_most {xs ys : List Fc} (h1 : xs.length ≤ 14 ∧ ∀ f ∈ xs, Ok 100 f) (h2 : ys.length ≤ 14 ∧ ∀ f ∈ ys, Ok 100 f) : TolL (PySem.Str.ofString "most") [xs, ys] := ⟨.inl rfl, show 1 ≤ 2 by decide, show 2 ≤ 2 by decide, fun fs hf => by
  simp only [List.mem_cons, List.not_mem_nil, or_false] at hf
  rcases hf with rfl | rfl
  · exact h1
  · exact h2⟩
theorem tol_end {xs : List Fc} (h1 : xs.length ≤ 14 ∧ ∀ f ∈ xs, Ok 100 f) : TolL (PySem.Str.ofString "endless") [xs] := ⟨.inr rfl, show 1 ≤ 1 by decide, show 1 ≤ 2 by decide, fun fs hf => by
  rw [List.mem_singleton.mp hf]
  exact h1⟩
/-- behind what is told: the six turns, lets_most of what was told -/
theorem law_rest {turns : DTS} {E : DEnds} {gs : List Fc} {cols : List (List Fc)} {rs : List Fc} (ss : ShS gs cols rs) (hsh : shown34 (sheetD gs cols rs)) {w : Str} {fss : List (List Fc)} (t : TolL w fss) (ho : ThOk (tolD w fss)) (hl : Lets gs cols rs (tolD w fss)) {p : Addr} {μ : M} {x0 x1 : D} {x5 x6 x7 x8 x9 x10 x11 x12 : Option D} (hp : Pool μ p)
    (hT : ∀ {E2 : DEnds} {i : Int} {μ' : M} {y8 y9 y10 y11 y12 : Option D}, 0 ≤ i → i < 6 → Pool μ' p → (∀ {μ' : M} {y8 y9 y10 y11 y12 : Option D}, Pool μ' p → E2.nx [some x0, some x1, some (.raw (.ref p)), some (sheetD gs cols rs), some (tolD w fss), some (tolD (PySem.Str.ofString "most") [List.replicate gs.length Z, List.replicate rs.length Z]), some (.str (reprE (sheetD gs cols rs))), some (.int i), y8, y9, y10, y11, y12] μ') → turns E2 [some x0, some x1, some (.raw (.ref p)), some (sheetD gs cols rs), some (tolD w fss), some (tolD (PySem.Str.ofString "most") [List.replicate gs.length Z, List.replicate rs.length Z]), some (.str (reprE (sheetD gs cols rs))), some (.int i), y8, y9, y10, y11, y12] μ')
    (hN : ∀ {μ' : M} {y5 y6 y7 y8 y9 y10 y11 y12 : Option D}, Pool μ' p → E.nx [some x0, some x1, some (.raw (.ref p)), some (sheetD gs cols rs), some (tolD w fss), y5, y6, y7, y8, y9, y10, y11, y12] μ') :
    (dSeq (dSet 5 (dTup (dCons (dC (.str (PySem.Str.ofString "most"))) (dCons (dOp gMul (dLst (dCons (dTup (dCons (dC (.int 0)) (dCons (dC (.int 1)) dNil))) dNil)) (dCB gLen (dCons (dOp gIx (dVar 3) (dC (.int 0))) dNil))) (dCons (dOp gMul (dLst (dCons (dTup (dCons (dC (.int 0)) (dCons (dC (.int 1)) dNil))) dNil)) (dCB gLen (dCons (dOp gIx (dVar 3) (dC (.int 2))) dNil))) dNil)))))
    (dSeq (dSet 6 (dCB gReprE (dCons (dVar 3) dNil)))
    (dSeq (dFor (dRange1 (dCons (dC (.int 6)) dNil)) (tgN 7) turns)
    (dIf (dB (dOp (gIs true) (dCall c_letsmost (dCons (dVar 3) (dCons (dVar 4) dNil))) (dC (.bl true)))) (dRet (dC (.bl false))) dNext)))) E [some x0, some x1, some (.raw (.ref p)), some (sheetD gs cols rs), some (tolD w fss), x5, x6, x7, x8, x9, x10, x11, x12] μ := by
  have sz : 16777216 ≤ sizeLine := by decide
  have l1 := ss.l1
  have l2 := ss.l2
  have lg := ss.l
  have zl : ∀ n : Nat, n ≤ 14 → (-2 ^ 63 ≤ (n : Int) ∧ (n : Int) < 2 ^ 63 ∧ 1 * (n : Int).toNat ≤ sizeLine) := fun n hn => ⟨by omega, by omega, by omega⟩
  have vs : ∀ μ, view μ (sheetD gs cols rs) = sheetD gs cols rs := fun _ => rfl
  have e5 : D.tup [.str (PySem.Str.ofString "most"), .lst (List.replicate ((gs.length : Nat) : Int).toNat [D.tup [.int 0, .int 1]]).flatten, .lst (List.replicate ((rs.length : Nat) : Int).toNat [D.tup [.int 0, .int 1]]).flatten] = tolD (PySem.Str.ofString "most") [List.replicate gs.length Z, List.replicate rs.length Z] := by
    rw [show ((gs.length : Nat) : Int).toNat = gs.length by omega, show ((rs.length : Nat) : Int).toNat = rs.length by omega, rep_Z, rep_Z]
    rfl
  refine giv_set (d := tolD (PySem.Str.ofString "most") [List.replicate gs.length Z, List.replicate rs.length Z]) ?_ ?_
  · intro Q q
    simp! only [sheetD, List.length_map]
    refine ⟨by decide, by decide, zl _ (by omega), by decide, by decide, zl _ l2, by decide, ?_⟩
    rw [e5]
    exact q
  simp only [List.set_cons_succ, List.set_cons_zero]
  rw [dSeq]
  simp only [DL.dSet, DL.kSet, DL.dCB, DL.kCB, DL.dCons, DL.kCons1, DL.kCons2, DL.dNil, DL.dVar, DL.dC, DL.dOp, DL.kOp1, DL.kOp2, DL.dB, DL.kB, DL.dIf, DL.kIf, DL.dRet, DL.dRetN, DL.dTup, DL.kTup, DL.dLst, DL.kLst, DL.dLstC, DL.kLstC, DL.dCall, DL.kCall, DL.dCallK, DL.kCallK1, DL.kCallK2, DL.dLenIs, DL.kLenIs, DL.dNext, DL.dDrop, DL.kDrop, DL.dPar, DL.kPar, DL.dAug, DL.kAug, DL.dAsg, DL.kAsg, DL.dSetIx, DL.kSetIx1, DL.kSetIx2, DL.kSetIx3, DL.dTru, DL.kTru, DL.dAnd, DL.kAnd, DL.dOr, DL.kOr, DL.dNot, DL.kNot, DL.dAndV, DL.kAndV, DL.dOrV, DL.kOrV, DL.dNotV, DL.kNotV, DL.dIfE, DL.kIfE, DL.dChain, DL.kChain1, DL.kChain2, DL.kChain3_true, DL.kChain3_false, DL.dNeg, DL.kNeg, DL.dFz, DL.kFz, DL.dRaise, DL.dTryAs, DL.suiteE, DL.kUnset, DL.dFor, DL.kFor, DL.dSeqI, DL.kSeqI, DL.dRange1, DL.kRange1, DL.dRange2, DL.kRange2, DL.dLc, DL.kLc, DL.dLcC, DL.kLstD, DL.kNewC, DL.dYes, DL.wipeD, DL.loopD, DL.compD, DL.kItem, DL.kTest_true, DL.kTest_false, DL.putIx_some, DL.setsK_some, DL.turnD_some, DL.turnC_some, DL.ifS_true, DL.ifS_false, DL.ifAnd_true, DL.ifAnd_false, DL.ifOr_true, DL.ifOr_false, DL.ifAndV_true, DL.ifAndV_false, DL.ifOrV_true, DL.ifOrV_false, DL.ifE_true, DL.ifE_false, DL.srcOf, DL.tgN, DL.tgT, DL.tgNil, DL.tgCons, DL.sets, List.foldl_cons, List.foldl_nil, DL.gI, DL.gI0, DL.gAdd, DL.gMul, DL.gIx, DL.gEq, DL.gNe, DL.gIs, DL.gIn, DL.gLen, DL.gAbs, DL.gMax2, DL.gMin2, DL.gAll, DL.gAny, DL.gSum, DL.gList, DL.gListC, DL.gTuple, DL.gIsiC, DL.gIsi, DL.tyN, DL.subN_NoneType_int, DL.subN_NoneType_bool, DL.subN_NoneType_str, DL.subN_NoneType_list, DL.subN_NoneType_tuple, DL.subN_bool_int, DL.subN_bool_bool, DL.subN_bool_str, DL.subN_bool_list, DL.subN_bool_tuple, DL.subN_int_int, DL.subN_int_bool, DL.subN_int_str, DL.subN_int_list, DL.subN_int_tuple, DL.subN_str_int, DL.subN_str_bool, DL.subN_str_str, DL.subN_str_list, DL.subN_str_tuple, DL.subN_list_int, DL.subN_list_bool, DL.subN_list_str, DL.subN_list_list, DL.subN_list_tuple, DL.subN_tuple_int, DL.subN_tuple_bool, DL.subN_tuple_str, DL.subN_tuple_list, DL.subN_tuple_tuple, DL.truD, DL.blsOf, DL.view_non, DL.view_bl, DL.view_int', DL.view_str', DL.view_lst', DL.view_tup', DL.view_scr', DL.ends, DL.kEnd, DL.OptP_some, DL.OptQ_some, DL.OptB_some, DL.OptS_some, List.getElem?_cons_zero, List.getElem?_cons_succ, List.set_cons_zero, List.set_cons_succ, DL.atI_zero, DL.atI_one, DL.atI_two, List.length_cons, List.length_nil, DL.pick, List.filterMap_cons, List.filterMap_nil, List.nil_append, List.cons_append, List.map_cons, List.map_nil, Option.map_some, Option.bind_some, true_and, and_true, Bool.false_eq_true, Bool.not_true, Bool.not_false, Bool.xor_false, Bool.xor_true, Bool.false_xor, Bool.true_xor, decide_true, decide_false, Nat.zero_add, Nat.reduceAdd, not_true_eq_false, not_false_eq_true, DL.eqD_int, DL.eqD_str, DL.eqD_bl, DL.eqD_tup, DL.eqD_lst, DL.eqDs_nil, DL.eqDs_cons, Bool.and_true, Bool.and_false, List.all_cons, List.all_nil, List.any_cons, List.any_nil, Bool.and_self, DL.dM, DL.kM1, DL.kM2, DL.dM0, DL.kM0, DL.gAppend, DL.gInsert, DL.gExtend, DL.gPop1, DL.gPop0, DL.gReverse, DL.gSort, DL.gRemove, DL.gCount, DL.gIndex, DL.dSlG, DL.kSl1, DL.kSl2, DL.kSl3, DL.gSl, DL.gSlC, DL.dNoPart, DL.dPart, DL.kPart, DL.dLR1, DL.kLR1, DL.dLR2, DL.kLR21, DL.kLR22, DL.nLst, DL.gRepC, DL.gCatC, DL.gInt, DL.gSorted, DL.gMaxL, DL.gMinL, DL.dEnum, DL.kEnum, DL.dZip2, DL.kZip2, DL.dZip3, DL.kZip3, DL.OptS2_some, DL.OptS3_some, DL.dRev, DL.kRev, DL.dEmp, DL.view_emp', DL.subN_dict_int, DL.subN_dict_bool, DL.subN_dict_str, DL.subN_dict_list, DL.subN_dict_tuple, DL.cellL_lst, DL.cellL_none, DL.gCountD, DL.gRepr, DL.gEqS, DL.dTryK, DL.keepD, DL.kKeep, DL.kKeepR, DL.dXf, DL.gReprE, vs]
  refine ⟨hsh, ?_⟩
  rw [dSeq]
  generalize tolD (PySem.Str.ofString "most") [List.replicate gs.length Z, List.replicate rs.length Z] = N at *
  walk_at "s"
  refine ⟨by decide, ?_⟩
  refine ⟨fun i δ μ' => ∃ x7 x8 x9 x10 x11 x12, δ = [some x0, some x1, some (.raw (.ref p)), some (sheetD gs cols rs), some (tolD w fss), some N, some (.str (reprE (sheetD gs cols rs))), x7, x8, x9, x10, x11, x12] ∧ Pool μ' p, ⟨_, _, _, _, _, _, rfl, hp⟩, ?_⟩
  rintro i δ μ' ⟨x7, x8, x9, x10, x11, x12, rfl, hp⟩
  refine ⟨trivial, fun d hd => ?_, fun hi => ?_⟩
  case refine_2 =>
    walk_at "s"
    refine ⟨gs, cols, rs, _, rfl, ss, ho, fun b hb => ?_⟩
    have hb := hb.mpr hl
    subst hb
    walk_at "s"
    exact hN hp
  obtain ⟨rfl, hi⟩ := rangeD_some hd
  walk_at "s"
  refine hT (by omega) (by omega) hp fun h => ?_
  exact ⟨_, _, _, _, _, _, rfl, h⟩
theorem law_0 {C : Addr} {rest : DTS} {Q : QD} {ns : List Int} {μ : M} (q : ∀ μ', Q (.bl true) μ')
    (hR : ∀ {E : DEnds} {gs : List Fc} {cols : List (List Fc)} {rs : List Fc} {w : Str} {fss : List (List Fc)} {p : Addr} {μ' : M} {k : D} {x5 x6 x7 x8 x9 x10 x11 x12 : Option D}, ShS gs cols rs → TolL w fss → ThOk (tolD w fss) → Lets gs cols rs (tolD w fss) → Pool μ' p →
      (∀ {μ' : M} {y5 y6 y7 y8 y9 y10 y11 y12 : Option D}, Pool μ' p → E.nx [some (.scr ns), some k, some (.raw (.ref p)), some (sheetD gs cols rs), some (tolD w fss), y5, y6, y7, y8, y9, y10, y11, y12] μ') →
      rest E [some (.scr ns), some k, some (.raw (.ref p)), some (sheetD gs cols rs), some (tolD w fss), x5, x6, x7, x8, x9, x10, x11, x12] μ') :
    (dSeq (dFor (dRange1 (dCons (dCB gMax2 (dCons (dC (.int 1)) (dCons (dCB gMin2 (dCons (dCB gLen (dCons (dVar 0) dNil)) (dCons (dC (.int 8)) dNil))) dNil))) dNil)) (tgN 1) (dSeq (dSet 2 (dCall c_pool (dCons (dVar 0) (dCons (dVar 1) dNil))))
    (dSeq (dSet 3 (dCall K33.c_lsheet (dCons (dVar 2) dNil)))
    (dSeq (dSet 4 (dFzD (dCall (c_mostof C) (dCons (dVar 3) dNil))))
    rest))))
    (dRet (dC (.bl true)))) (ends Q XF) [some (.scr ns), none, none, none, none, none, none, none, none, none, none, none, none] μ := by
  have sz : 16777216 ≤ sizeLine := by decide
  walk_at "r"
  refine ⟨by constructor <;> (split <;> (try split) <;> omega), ?_⟩
  refine ⟨fun i δ μ' => ∃ x1 x2 x3 x4 x5 x6 x7 x8 x9 x10 x11 x12, δ = [some (.scr ns), x1, x2, x3, x4, x5, x6, x7, x8, x9, x10, x11, x12], ⟨_, _, _, _, _, _, _, _, _, _, _, _, rfl⟩, ?_⟩
  rintro i δ μ' ⟨x1, x2, x3, x4, x5, x6, x7, x8, x9, x10, x11, x12, rfl⟩
  refine ⟨trivial, fun d hd => ?_, fun hi => ?_⟩
  case refine_2 =>
    walk_at "r"
    exact .of (q _)
  have hk : ∃ k : Int, d = .int k ∧ 0 ≤ k ∧ k < 100 := by
    obtain ⟨rfl, hi⟩ := rangeD_some hd
    refine ⟨_, rfl, by omega, ?_⟩
    revert hi
    split <;> (try split) <;> omega
  obtain ⟨k, rfl, hk0, hk1⟩ := hk
  walk_at "r"
  refine ⟨ns, k, rfl, hk0, hk1, fun p μ1 hp hP ho => ?_⟩
  walk_at "r"
  refine ⟨p, rfl, hP, fun x μ2 hx h2 o2 => ?_⟩
  obtain ⟨gs, cols, rs⟩ := x
  obtain ⟨sk, r1⟩ := hx
  dsimp only at sk r1 ⊢
  have ok : ShOk gs cols rs := sk.sh (by decide) (by decide) (by decide)
  have ss : ShS gs cols rs := sk.ss (by decide) (by decide) (by decide)
  have l1 := ss.l1
  have l2 := ss.l2
  have hB : (rs.length + 1) * (4 * 6 + 1) * (rs.length * (4 * 6 + 1)) ^ rs.length * (2 * 6) < 2 ^ 100 := by
    have h10 := sk.l2
    have p1 : (rs.length * (4 * 6 + 1)) ^ rs.length ≤ (10 * 25) ^ 10 := Nat.le_trans (Nat.pow_le_pow_left (Nat.mul_le_mul_right _ h10) _) (Nat.pow_le_pow_right (by decide) h10)
    exact Nat.lt_of_le_of_lt (Nat.mul_le_mul_right _ (Nat.mul_le_mul (Nat.mul_le_mul_right _ (show rs.length + 1 ≤ 11 by omega)) p1)) (by decide)
  walk_at "r"
  refine ⟨gs, cols, rs, rfl, ok, fun β ae c d hc hd hcd => ?_, fun β e ar c hc => ?_⟩
  · obtain ⟨o1, o2, _⟩ := told_okN sk (by decide) hB ae.1 r1
    have mq := most_told ok ae
    generalize shL (shP rs (gs.zip cols)) β (cmN rs) (shS rs (gs.zip cols)) = xs at mq o1 ⊢
    generalize prL (shP rs (gs.zip cols)) β = ys at mq o2 ⊢
    have mc : updM (updM μ2 c (.lst (xs.map fr))) d (.lst (ys.map fr)) c = some (.lst (xs.map fr)) := by rw [updM_ne hcd, updM_same]
    have dv : DV (updM (updM μ2 c (.lst (xs.map fr))) d (.lst (ys.map fr))) μ2 (.tup [.str (PySem.Str.ofString "most"), .raw (.ref c), .raw (.ref d)]) (tolD (PySem.Str.ofString "most") [xs, ys]) := .tup (.cons (.same _) (.cons (.cel mc hc (DVA.same _)) (.cons (.cel updM_same hd (DVA.same _)) .nil)))
    have lx : xs.length ≤ 14 := by rw [mq.lx]; exact l1
    have ly : ys.length ≤ 14 := by rw [mq.ly]; exact l2
    have o1' : ∀ f ∈ xs, Ok 150 f := fun f hf => (o1 f hf).mono (by decide)
    have o2' : ∀ f ∈ ys, Ok 150 f := fun f hf => (o2 f hf).mono (by decide)
    refine ⟨μ2, _, (Sub.new hc).trans (Sub.new (by rw [updM_ne (Ne.symm hcd)]; exact hd)), dv, ?_⟩
    walk_at "r"
    exact hR ss (tol_most ⟨lx, o1⟩ ⟨ly, o2⟩) (th_most o1' o2' lx ly) (lets_most_of mq o1' o2') h2 fun h => ⟨_, _, _, _, _, _, _, _, _, _, _, _, rfl⟩
  · obtain ⟨_, _, o3⟩ := told_okN sk (by decide) hB ar.1 r1
    have eq := end_told ok ar
    have o3 := o3 e ar.2.1 ar.2.2.1
    generalize ryL (shP rs (gs.zip cols)) β (shS rs (gs.zip cols)) e = xs at eq o3 ⊢
    have lx : xs.length ≤ 14 := by rw [eq.lx]; exact l1
    have o3' : ∀ f ∈ xs, Ok 150 f := fun f hf => (o3 f hf).mono (by decide)
    have dv : DV (updM μ2 c (.lst (xs.map fr))) μ2 (.tup [.str (PySem.Str.ofString "endless"), .raw (.ref c)]) (tolD (PySem.Str.ofString "endless") [xs]) := .tup (.cons (.same _) (.cons (.cel updM_same hc (DVA.same _)) .nil))
    refine ⟨μ2, _, Sub.new hc, dv, ?_⟩
    walk_at "r"
    exact hR ss (tol_end ⟨lx, o3⟩) (th_end o3' lx) (lets_end_of eq o3') h2 fun h => ⟨_, _, _, _, _, _, _, _, _, _, _, _, rfl⟩
theorem hb_law {C : Addr} : HB cLaw (t_law C) 13 := by
  intro ds μ Q X h
  obtain ⟨ns, rfl, hl, q⟩ := h
  show t_law C (ends Q XF) [some (.scr ns), none, none, none, none, none, none, none, none, none, none, none, none] μ
  unfold t_law
  refine law_0 q fun ss t ho hl hp hN => law_rest ss ?_ t ho hl hp (fun i0 i1 hp hN2 => ?_) hN
  · have hsh := sh_sheet ss
    exact .inr ⟨okN_mono hsh.ok (by decide), hsh.sh, hsh.shown (by decide)⟩
  · have hsh := sh_sheet ss
    have l1 := ss.l1
    have l2 := ss.l2
    have lg := ss.l
    have rp : ∀ n : Nat, n ≤ 14 → (List.replicate n Z).length ≤ 14 ∧ ∀ f ∈ List.replicate n Z, Ok 100 f := fun n hn => ⟨by rw [List.length_replicate]; exact hn, fun f hf => by rw [List.eq_of_mem_replicate hf]; exact ok_nought.mono (by decide)⟩
    have t2 := tol_most (rp _ (Nat.le_trans (Nat.le_of_eq lg) l1)) (rp _ l2)
    refine turn_a t t2 ?_ hp i0 i1 fun d y8 μ' hd hp' => turn_b ss (.inr ⟨okN_mono hsh.ok (by decide), hsh.sh, hsh.shown (by decide)⟩) hd fun y10 y11 y12 => hN2 hp'
    refine th_tup (show 3 ≤ 5 by decide) fun u hu => ?_
    rcases List.mem_cons.mp hu with rfl | hu
    · exact pt_most
    · obtain ⟨fs, hf, rfl⟩ := List.mem_map.mp hu
      exact pt_ls (t2.f fs hf)
end K34
set_option Elab.async false
set_option linter.all false
set_option maxRecDepth 100000
set_option maxHeartbeats 2000000
set_option pp.maxSteps 400
set_option pp.deepTerms false
namespace K34
open PySem PySem.Spec L2 DL Fr NB NBD K33 K34
def topS (i : Nat) : Stmt := PySem.Challenge.pw_nudgebest_k34_what_is_told_of_sheets.main.body.getD i (.Pass ⟨0, 0, 0, 0⟩)
structure Txt (K : PySem.W.Frag) (mg : Str → Option Value) (C_Board : Addr) : Prop where
  b_len : mg "len" = none
  b_abs : mg "abs" = none
  b_range : mg "range" = none
  b_list : mg "list" = none
  b_enumerate : mg "enumerate" = none
  b_int : mg "int" = none
  b_sum : mg "sum" = none
  b_zip : mg "zip" = none
  b_tuple : mg "tuple" = none
  b_isinstance : mg "isinstance" = none
  b_bool : mg "bool" = none
  b_all : mg "all" = none
  b_str : mg "str" = none
  b_max : mg "max" = none
  b_repr : mg "repr" = none
  b_min : mg "min" = none
  k_NOUGHT : KC K mg "NOUGHT" k_NOUGHT
  g_Board : mg "Board" = some (.ref C_Board)
  cl_Board : Cls K C_Board
  na_Board_scale : NoAttr K C_Board "scale"
  na_Board_rests : NoAttr K C_Board "rests"
  na_Board_bottom : NoAttr K C_Board "bottom"
  na_Board_rows : NoAttr K C_Board "rows"
  na_Board_gains : NoAttr K C_Board "gains"
  na_Board_basis : NoAttr K C_Board "basis"
  na_Board_scales : NoAttr K C_Board "scales"
abbrev s_law_cell_at : Stmt := topS 22
theorem sc_law_cell_at : FnScope ["_law_script", "_law_k"] ["_law_script", "_law_k"] (defScope s_law_cell_at) := ⟨rfl, rfl, rfl, by decide +kernel, rfl, by decide +kernel, by decide +kernel⟩
theorem d_law_cell_at {P : Program} {w : World} {K : PySem.W.Frag} {mg : Str → Option Value} {base : Heap} {C_Board : Addr} (T : Txt K mg C_Board)  {f : Addr} (cdv : Value) (A : Around) (outer : List Env) (s : Shared) (H : Hp) (E : XK) (hr : Room 0 (A.deeper (PyProof.Rows.envOfC "_law_cell_at" (defScope s_law_cell_at) s.heap.objs.size f cdv))) :
    DSs (cxOf CX0 P w K mg base ["_law_script", "_law_k"] "_law_cell_at" (defScope s_law_cell_at) f cdv A outer s H E).nox W0 (defBody s_law_cell_at) t_law_cell_at :=
  (dss_cons (ds_if (dt_lt (de_var 1) (de_blt call_len l_len T.b_len (by decide +kernel) (da_cons (de_var 0) da_nil))) (dss_one (ds_ret (de_ix (de_var 0) (de_var 1)))) dss_nil)
    (dss_one (ds_ret de_int)))
abbrev s_law_pool : Stmt := topS 23
theorem sc_law_pool : FnScope ["_law_script", "_law_k", "_law_cell", "_law_seed"] ["_law_script", "_law_k"] (defScope s_law_pool) := ⟨rfl, rfl, rfl, by decide +kernel, rfl, by decide +kernel, by decide +kernel⟩
theorem d_law_pool {P : Program} {w : World} {K : PySem.W.Frag} {mg : Str → Option Value} {base : Heap} {C_Board : Addr} (T : Txt K mg C_Board) (F_law_cell_at : Dfn P w K mg base CX0 "_law_cell_at" "_law_cell_at" s_law_cell_at 1 ["_law_script", "_law_k"] c_cell_at) {f : Addr} (cdv : Value) (A : Around) (outer : List Env) (s : Shared) (H : Hp) (E : XK) (hr : Room 1 (A.deeper (PyProof.Rows.envOfC "_law_pool" (defScope s_law_pool) s.heap.objs.size f cdv))) :
    DSs (cxOf CX0 P w K mg base ["_law_script", "_law_k", "_law_cell", "_law_seed"] "_law_pool" (defScope s_law_pool) f cdv A outer s H E).nox W0 (defBody s_law_pool) t_law_pool :=
  (dss_cons (ds_set (i := 2) sc_law_pool.nd (de_call F_law_cell_at (hr.mono (by decide)) pw0 (da_cons (de_var 0) (da_cons (de_var 1) da_nil))))
    (dss_cons (ds_set (i := 3) sc_law_pool.nd (de_mod (de_mul (de_add (de_add (de_mod (de_var 2) de_int) (de_mul (de_mul de_int (de_var 1)) (de_var 1))) de_int) de_int) de_int))
    (dss_cons (ds_if (dt_lt (de_var 2) (de_pow de_int de_int)) (dss_one (ds_set (i := 2) sc_law_pool.nd de_int)) dss_nil)
    (dss_one (ds_ret (de_lstC (da_cons (de_var 2) (da_cons (de_mod (de_mul (de_var 3) (de_var 3)) de_int) da_nil))))))))
abbrev s_law_take : Stmt := topS 24
theorem sc_law_take : FnScope ["_law_pool_here", "_law_many", "_law_found"] ["_law_pool_here", "_law_many"] (defScope s_law_take) := ⟨rfl, rfl, rfl, by decide +kernel, rfl, by decide +kernel, by decide +kernel⟩
theorem d_law_take {P : Program} {w : World} {K : PySem.W.Frag} {mg : Str → Option Value} {base : Heap} {C_Board : Addr} (T : Txt K mg C_Board)  {f : Addr} (cdv : Value) (A : Around) (outer : List Env) (s : Shared) (H : Hp) (E : XK) (hr : Room 0 (A.deeper (PyProof.Rows.envOfC "_law_take" (defScope s_law_take) s.heap.objs.size f cdv))) :
    DSs (cxOf CX0 P w K mg base ["_law_pool_here", "_law_many", "_law_found"] "_law_take" (defScope s_law_take) f cdv A outer s H E).nox W0 (defBody s_law_take) t_law_take :=
  (dss_cons (ds_if (dt_gt (de_ix (de_var 0) de_int) de_int) (dss_cons (ds_set (i := 2) sc_law_take.nd (de_mod (de_ix (de_var 0) de_int) (de_var 1)))
    (dss_cons (ds_setix (de_fdiv (de_ix (de_var 0) de_int) (de_var 1)) (de_var 0) de_int)
    (dss_one (ds_ret (de_var 2))))) dss_nil)
    (dss_cons (ds_setix (de_mod (de_add (de_mul (de_ix (de_var 0) de_int) de_int) de_int) de_int) (de_var 0) de_int)
    (dss_one (ds_ret (de_mod (de_fdiv (de_mod (de_mul (de_ix (de_var 0) de_int) (de_ix (de_var 0) de_int)) de_int) de_int) (de_var 1))))))
abbrev s_law_low : Stmt := topS 25
theorem sc_law_low : FnScope ["_law_top", "_law_bottom", "_law_one", "_law_other"] ["_law_top", "_law_bottom"] (defScope s_law_low) := ⟨rfl, rfl, rfl, by decide +kernel, rfl, by decide +kernel, by decide +kernel⟩
theorem d_law_low {P : Program} {w : World} {K : PySem.W.Frag} {mg : Str → Option Value} {base : Heap} {C_Board : Addr} (T : Txt K mg C_Board)  {f : Addr} (cdv : Value) (A : Around) (outer : List Env) (s : Shared) (H : Hp) (E : XK) (hr : Room 0 (A.deeper (PyProof.Rows.envOfC "_law_low" (defScope s_law_low) s.heap.objs.size f cdv))) :
    DSs (cxOf CX0 P w K mg base ["_law_top", "_law_bottom", "_law_one", "_law_other"] "_law_low" (defScope s_law_low) f cdv A outer s H E).nox W0 (defBody s_law_low) t_law_low :=
  (dss_cons (ds_set (i := 2) sc_law_low.nd (de_blt call_abs l_abs T.b_abs (by decide +kernel) (da_cons (de_var 0) da_nil)))
    (dss_cons (ds_set (i := 3) sc_law_low.nd (de_blt call_abs l_abs T.b_abs (by decide +kernel) (da_cons (de_var 1) da_nil)))
    (dss_cons (ds_while PassesOwn.never (dt_gt (de_var 3) de_int) (dss_one (ds_par (i := 2) (j := 3) sc_law_low.nd (da_cons (de_var 3) (da_cons (de_mod (de_var 2) (de_var 3)) da_nil)))))
    (dss_cons (ds_if (dt_lt (de_var 1) de_int) (dss_one (ds_set (i := 2) sc_law_low.nd (de_sub de_int (de_var 2)))) dss_nil)
    (dss_one (ds_ret (de_tup (da_cons (de_fdiv (de_var 0) (de_var 2)) (da_cons (de_fdiv (de_var 1) (de_var 2)) da_nil)))))))))
abbrev s_law_part : Stmt := topS 30
theorem sc_law_part : FnScope ["_law_pool_here", "_law_top"] ["_law_pool_here"] (defScope s_law_part) := ⟨rfl, rfl, rfl, by decide +kernel, rfl, by decide +kernel, by decide +kernel⟩
theorem d_law_part {P : Program} {w : World} {K : PySem.W.Frag} {mg : Str → Option Value} {base : Heap} {C_Board : Addr} (T : Txt K mg C_Board) (F_law_take : Dfn P w K mg base CX0 "_law_take" "_law_take" s_law_take 1 ["_law_pool_here", "_law_many"] c_take) (F_law_low : Dfn P w K mg base CX0 "_law_low" "_law_low" s_law_low 1 ["_law_top", "_law_bottom"] c_low) {f : Addr} (cdv : Value) (A : Around) (outer : List Env) (s : Shared) (H : Hp) (E : XK) (hr : Room 1 (A.deeper (PyProof.Rows.envOfC "_law_part" (defScope s_law_part) s.heap.objs.size f cdv))) :
    DSs (cxOf CX0 P w K mg base ["_law_pool_here", "_law_top"] "_law_part" (defScope s_law_part) f cdv A outer s H E).nox W0 (defBody s_law_part) t_law_part :=
  (dss_cons (ds_set (i := 1) sc_law_part.nd (de_sub (de_call F_law_take (hr.mono (by decide)) pw0 (da_cons (de_var 0) (da_cons de_int da_nil))) de_int))
    (dss_one (ds_ret (de_call F_law_low (hr.mono (by decide)) pw0 (da_cons (de_var 1) (da_cons (de_ix (de_lst (da_cons de_int (da_cons de_int (da_cons de_int (da_cons de_int (da_cons de_int da_nil)))))) (de_call F_law_take (hr.mono (by decide)) pw0 (da_cons (de_var 0) (da_cons de_int da_nil)))) da_nil))))))
abbrev s_law_sheet : Stmt := topS 31
theorem sc_law_sheet : FnScope ["_law_pool_here", "_law_rows", "_law_many", "_law_columns", "_law_gains", "_law_rights", "_law_row", "_law_right", "_law_turn"] ["_law_pool_here"] (defScope s_law_sheet) := ⟨rfl, rfl, rfl, by decide +kernel, rfl, by decide +kernel, by decide +kernel⟩
theorem d_law_sheet {P : Program} {w : World} {K : PySem.W.Frag} {mg : Str → Option Value} {base : Heap} {C_Board : Addr} (T : Txt K mg C_Board) (F_law_take : Dfn P w K mg base CX0 "_law_take" "_law_take" s_law_take 1 ["_law_pool_here", "_law_many"] c_take) (F_law_part : Dfn P w K mg base CX0 "_law_part" "_law_part" s_law_part 2 ["_law_pool_here"] K33.c_lpart) {f : Addr} (cdv : Value) (A : Around) (outer : List Env) (s : Shared) (H : Hp) (E : XK) (hr : Room 2 (A.deeper (PyProof.Rows.envOfC "_law_sheet" (defScope s_law_sheet) s.heap.objs.size f cdv))) :
    DSs (cxOf CX0 P w K mg base ["_law_pool_here", "_law_rows", "_law_many", "_law_columns", "_law_gains", "_law_rights", "_law_row", "_law_right", "_law_turn"] "_law_sheet" (defScope s_law_sheet) f cdv A outer s H E).nox W0 (defBody s_law_sheet) t_law_sheet :=
  (dss_cons (ds_set (i := 1) sc_law_sheet.nd (de_add de_int (de_call F_law_take (hr.mono (by decide)) pw0 (da_cons (de_var 0) (da_cons de_int da_nil)))))
    (dss_cons (ds_set (i := 2) sc_law_sheet.nd (de_call F_law_take (hr.mono (by decide)) pw0 (da_cons (de_var 0) (da_cons de_int da_nil))))
    (dss_cons (ds_if (dt_eq hr (de_call F_law_take (hr.mono (by decide)) pw0 (da_cons (de_var 0) (da_cons de_int da_nil))) de_int) (dss_cons (ds_set (i := 1) sc_law_sheet.nd de_int)
    (dss_one (ds_set (i := 2) sc_law_sheet.nd de_int))) dss_nil)
    (dss_cons (ds_setLcC (i := 3) (own := [("_law_turn", 8)]) sc_law_sheet.nd (di_range1 T.b_range (da_cons (de_var 2) da_nil)) (blkOk_by (N := ["_law_pool_here", "_law_rows", "_law_many", "_law_columns", "_law_gains", "_law_rights", "_law_row", "_law_right", "_law_turn"]) (sc := defScope s_law_sheet) (by decide +kernel)) lg_name (si_name (by decide)) (fun _ _ _ _ _ => (pg_name (i := 8) sc_law_sheet.nd rfl (by first | exact Or.inl rfl | exact Or.inr rfl))) (fun _ _ _ _ _ => dts_nil) (fun _ _ _ _ _ => (de_lc (own := [("_law_row", 6)]) sc_law_sheet.nd (di_range1 T.b_range (da_cons (de_var 1) da_nil)) (blkOk_by (by rfl)) lg_name (si_name (by decide)) (fun _ _ _ _ _ => (pg_name (i := 6) sc_law_sheet.nd rfl (by first | exact Or.inl rfl | exact Or.inr rfl))) (fun _ _ _ _ _ => dts_nil) (fun _ _ _ _ _ => (de_call F_law_part (hr.mono (by decide)) pw0 (da_cons (de_var 0) da_nil))))) (sw_true rfl rfl rfl (by decide +kernel)))
    (dss_cons (ds_setLc (i := 4) (own := [("_law_turn", 8)]) sc_law_sheet.nd (di_range1 T.b_range (da_cons (de_var 2) da_nil)) (blkOk_by (N := ["_law_pool_here", "_law_rows", "_law_many", "_law_columns", "_law_gains", "_law_rights", "_law_row", "_law_right", "_law_turn"]) (sc := defScope s_law_sheet) (by decide +kernel)) lg_name (si_name (by decide)) (fun _ _ _ _ _ => (pg_name (i := 8) sc_law_sheet.nd rfl (by first | exact Or.inl rfl | exact Or.inr rfl))) (fun _ _ _ _ _ => dts_nil) (fun _ _ _ _ _ => (de_call F_law_part (hr.mono (by decide)) pw0 (da_cons (de_var 0) da_nil))) (sw_true rfl rfl rfl (by decide +kernel)))
    (dss_cons (ds_if (DW.dt (dw_and (dt_gt (de_var 2) de_int) (dw_and1 (dt_eq hr (de_call F_law_take (hr.mono (by decide)) pw0 (da_cons (de_var 0) (da_cons de_int da_nil))) de_int)))) (dss_one (ds_setix (de_blty call_list_of l_list T.b_list (by decide +kernel) (da_cons (de_ix (de_var 3) (de_neg de_int)) da_nil)) (de_var 3) de_int)) dss_nil)
    (dss_cons (ds_if (DW.dt (dw_and (dt_gt (de_var 2) de_int) (dw_and1 (dt_eq hr (de_call F_law_take (hr.mono (by decide)) pw0 (da_cons (de_var 0) (da_cons de_int da_nil))) de_int)))) (dss_one (ds_setix (de_mul (de_lst (da_cons (de_tup (da_cons de_int (da_cons de_int da_nil))) da_nil)) (de_var 1)) (de_var 3) (de_neg de_int))) dss_nil)
    (dss_cons (ds_set (i := 5) sc_law_sheet.nd (de_lstC da_nil))
    (dss_cons (ds_for PassesOwn.never (di_range1 T.b_range (da_cons (de_var 1) da_nil)) (pg_name (i := 6) sc_law_sheet.nd rfl (by first | exact Or.inl rfl | exact Or.inr rfl)) lg_name (dss_cons (ds_set (i := 7) sc_law_sheet.nd (de_call F_law_part (hr.mono (by decide)) pw0 (da_cons (de_var 0) da_nil)))
    (dss_one (ds_expr (de_m PySem.F.slot_list_append PySem.F.type_list_append mt_append l_append (de_var 5) (da_cons (de_ix (de_lst (da_cons (de_tup (da_cons (de_blt call_abs l_abs T.b_abs (by decide +kernel) (da_cons (de_ix (de_var 7) de_int) da_nil)) (da_cons (de_ix (de_var 7) de_int) da_nil))) (da_cons (de_tup (da_cons de_int (da_cons de_int da_nil))) da_nil))) (de_fdiv (de_call F_law_take (hr.mono (by decide)) pw0 (da_cons (de_var 0) (da_cons de_int da_nil))) de_int)) da_nil))))))
    (dss_one (ds_ret (de_tup (da_cons (de_var 4) (da_cons (de_fz (de_var 3)) (da_cons (de_fz (de_var 5)) da_nil)))))))))))))))
abbrev s_shared : Stmt := topS 3
theorem sc_shared : FnScope ["one", "other"] ["one", "other"] (defScope s_shared) := ⟨rfl, rfl, rfl, by decide +kernel, rfl, by decide +kernel, by decide +kernel⟩
theorem d_shared {P : Program} {w : World} {K : PySem.W.Frag} {mg : Str → Option Value} {base : Heap} {C_Board : Addr} (T : Txt K mg C_Board)  {f : Addr} (cdv : Value) (A : Around) (outer : List Env) (s : Shared) (H : Hp) (E : XK) (hr : Room 0 (A.deeper (PyProof.Rows.envOfC "shared" (defScope s_shared) s.heap.objs.size f cdv))) :
    DSs (cxOf CX0 P w K mg base ["one", "other"] "shared" (defScope s_shared) f cdv A outer s H E).nox W0 (defBody s_shared) t_shared :=
  (dss_cons (ds_set (i := 0) sc_shared.nd (de_blt call_abs l_abs T.b_abs (by decide +kernel) (da_cons (de_var 0) da_nil)))
    (dss_cons (ds_set (i := 1) sc_shared.nd (de_blt call_abs l_abs T.b_abs (by decide +kernel) (da_cons (de_var 1) da_nil)))
    (dss_cons (ds_while PassesOwn.never (dt_gt (de_var 1) de_int) (dss_one (ds_par (i := 0) (j := 1) sc_shared.nd (da_cons (de_var 1) (da_cons (de_mod (de_var 0) (de_var 1)) da_nil)))))
    (dss_one (ds_ret (de_var 0))))))
abbrev s_common : Stmt := topS 18
theorem sc_common : FnScope ["some", "found", "one"] ["some"] (defScope s_common) := ⟨rfl, rfl, rfl, by decide +kernel, rfl, by decide +kernel, by decide +kernel⟩
theorem d_common {P : Program} {w : World} {K : PySem.W.Frag} {mg : Str → Option Value} {base : Heap} {C_Board : Addr} (T : Txt K mg C_Board) (F_shared : Dfn P w K mg base CX0 "shared" "shared" s_shared 1 ["one", "other"] c_shared) {f : Addr} (cdv : Value) (A : Around) (outer : List Env) (s : Shared) (H : Hp) (E : XK) (hr : Room 1 (A.deeper (PyProof.Rows.envOfC "common" (defScope s_common) s.heap.objs.size f cdv))) :
    DSs (cxOf CX0 P w K mg base ["some", "found", "one"] "common" (defScope s_common) f cdv A outer s H E).nox W0 (defBody s_common) t_common :=
  (dss_cons (ds_set (i := 1) sc_common.nd de_int)
    (dss_cons (ds_for PassesOwn.never (di_seq (de_var 0)) (pg_name (i := 2) sc_common.nd rfl (by first | exact Or.inl rfl | exact Or.inr rfl)) lg_name (dss_one (ds_set (i := 1) sc_common.nd (de_mul (de_fdiv (de_var 1) (de_call F_shared (hr.mono (by decide)) pw0 (da_cons (de_var 1) (da_cons (de_ix (de_var 2) de_int) da_nil)))) (de_ix (de_var 2) de_int)))))
    (dss_one (ds_ret (de_var 1)))))
abbrev s_Board___init__ : Stmt := clsSt (topS 19) 0
theorem sc_Board___init__ : FnScope ["self", "rights", "number", "right", "k"] ["self", "rights"] (defScope s_Board___init__) := ⟨rfl, rfl, rfl, by decide +kernel, rfl, by decide +kernel, by decide +kernel⟩
theorem d_Board___init__ {P : Program} {w : World} {K : PySem.W.Frag} {mg : Str → Option Value} {base : Heap} {C_Board : Addr} (T : Txt K mg C_Board) (F_common : Dfn P w K mg base CX0 "common" "common" s_common 2 ["some"] c_common) {f : Addr} (cdv : Value) (A : Around) (outer : List Env) (s : Shared) (H : Hp) (E : XK) (hr : Room 2 (A.deeper (PyProof.Rows.envOfC "Board.__init__" (defScope s_Board___init__) s.heap.objs.size f cdv))) :
    DSs (cxOf CX0 P w K mg base ["self", "rights", "number", "right", "k"] "Board.__init__" (defScope s_Board___init__) f cdv A outer s H E).nox W0 (defBody s_Board___init__) (t_Board___init__ C_Board) :=
  (dss_cons (ds_fld T.cl_Board T.na_Board_scale (de_call F_common (hr.mono (by decide)) pw0 (da_cons (de_var 1) da_nil)) (de_var 0))
    (dss_cons (ds_fld T.cl_Board T.na_Board_rests (de_blt call_len l_len T.b_len (by decide +kernel) (da_cons (de_var 1) da_nil)) (de_var 0))
    (dss_cons (ds_fld T.cl_Board T.na_Board_bottom de_int (de_var 0))
    (dss_cons (ds_fld T.cl_Board T.na_Board_rows (de_lstC da_nil) (de_var 0))
    (dss_cons (ds_for PassesOwn.never (di_enum T.b_enumerate (da_cons (de_var 1) da_nil)) (pg_tup rfl (pgs_cons (pg_name (i := 2) sc_Board___init__.nd rfl (by first | exact Or.inl rfl | exact Or.inr rfl)) (pgs_cons (pg_name (i := 3) sc_Board___init__.nd rfl (by first | exact Or.inl rfl | exact Or.inr rfl)) pgs_nil))) (lg_tup (lg_cons lg_name (lg_cons lg_name lg_nil)) (ln_cons (ln_cons ln_nil))) (dss_one (ds_expr (de_m PySem.F.slot_list_append PySem.F.type_list_append mt_append l_append (de_fld T.cl_Board T.na_Board_rows (de_var 0)) (da_cons (de_catC (de_lc (own := [("k", 4)]) sc_Board___init__.nd (di_range1 T.b_range (da_cons (de_fld T.cl_Board T.na_Board_rests (de_var 0)) da_nil)) (blkOk_by (N := ["self", "rights", "number", "right", "k"]) (sc := defScope s_Board___init__) (by decide +kernel)) lg_name (si_name (by decide)) (fun _ _ _ _ _ => (pg_name (i := 4) sc_Board___init__.nd rfl (by first | exact Or.inl rfl | exact Or.inr rfl))) (fun _ _ _ _ _ => dts_nil) (fun _ _ _ _ _ => (de_blty call_int1 l_int T.b_int (by decide +kernel) (da_cons (de_eq hr (de_var 2) (de_var 4)) da_nil)))) (de_lst (da_cons (de_fdiv (de_mul (de_ix (de_var 3) de_int) (de_fld T.cl_Board T.na_Board_scale (de_var 0))) (de_ix (de_var 3) de_int)) da_nil))) da_nil)))))
    (dss_cons (ds_fld T.cl_Board T.na_Board_gains (de_repC (de_lst (da_cons de_int da_nil)) (de_add (de_fld T.cl_Board T.na_Board_rests (de_var 0)) de_int)) (de_var 0))
    (dss_cons (ds_fld T.cl_Board T.na_Board_basis (de_lr1 ln_cel T.b_list T.b_range (de_fld T.cl_Board T.na_Board_rests (de_var 0))) (de_var 0))
    (dss_one (ds_fld T.cl_Board T.na_Board_scales (de_repC (de_lst (da_cons de_int da_nil)) (de_fld T.cl_Board T.na_Board_rests (de_var 0))) (de_var 0))))))))))
abbrev s_Board_add : Stmt := clsSt (topS 19) 1
theorem sc_Board_add : FnScope ["self", "gain", "column", "scale", "whole", "row", "own", "worth", "one", "k", "part"] ["self", "gain", "column"] (defScope s_Board_add) := ⟨rfl, rfl, rfl, by decide +kernel, rfl, by decide +kernel, by decide +kernel⟩
theorem d_Board_add {P : Program} {w : World} {K : PySem.W.Frag} {mg : Str → Option Value} {base : Heap} {C_Board : Addr} (T : Txt K mg C_Board) (F_common : Dfn P w K mg base CX0 "common" "common" s_common 2 ["some"] c_common) {f : Addr} (cdv : Value) (A : Around) (outer : List Env) (s : Shared) (H : Hp) (E : XK) (hr : Room 2 (A.deeper (PyProof.Rows.envOfC "Board.add" (defScope s_Board_add) s.heap.objs.size f cdv))) :
    DSs (cxOf CX0 P w K mg base ["self", "gain", "column", "scale", "whole", "row", "own", "worth", "one", "k", "part"] "Board.add" (defScope s_Board_add) f cdv A outer s H E).nox W0 (defBody s_Board_add) (t_Board_add C_Board) :=
  (dss_cons (ds_set (i := 3) sc_Board_add.nd (de_call F_common (hr.mono (by decide)) pw0 (da_cons (de_add (de_var 2) (de_lst (da_cons (de_var 1) da_nil))) da_nil)))
    (dss_cons (ds_setLc (i := 4) (own := [("one", 8)]) sc_Board_add.nd (di_seq (de_var 2)) (blkOk_by (N := ["self", "gain", "column", "scale", "whole", "row", "own", "worth", "one", "k", "part"]) (sc := defScope s_Board_add) (by decide +kernel)) lg_name (si_name (by decide)) (fun _ _ _ _ _ => (pg_name (i := 8) sc_Board_add.nd rfl (by first | exact Or.inl rfl | exact Or.inr rfl))) (fun _ _ _ _ _ => dts_nil) (fun _ _ _ _ _ => (de_fdiv (de_mul (de_ix (de_var 8) de_int) (de_var 3)) (de_ix (de_var 8) de_int))) (sw_true rfl rfl rfl (by decide +kernel)))
    (dss_cons (ds_for PassesOwn.never (di_seq (de_fld T.cl_Board T.na_Board_rows (de_var 0))) (pg_name (i := 5) sc_Board_add.nd rfl (by first | exact Or.inl rfl | exact Or.inr rfl)) lg_name (dss_one (ds_expr (de_m PySem.F.slot_list_insert PySem.F.type_list_insert mt_insert l_insert (de_var 5) (da_cons (de_sub (de_blt call_len l_len T.b_len (by decide +kernel) (da_cons (de_var 5) da_nil)) de_int) (da_cons (de_blt (cr_sumA rfl) l_sum T.b_sum (by decide +kernel) (da_cons (de_lc (own := [("k", 9), ("part", 10)]) sc_Board_add.nd (di_enum T.b_enumerate (da_cons (de_var 4) da_nil)) (blkOk_by (N := ["self", "gain", "column", "scale", "whole", "row", "own", "worth", "one", "k", "part"]) (sc := defScope s_Board_add) (by decide +kernel)) (lg_tup (lg_cons lg_name (lg_cons lg_name lg_nil)) (ln_cons (ln_cons ln_nil))) (si_tup (si_cons (si_name (by decide)) (si_cons (si_name (by decide)) si_nil))) (fun _ _ _ _ _ => (pg_tup rfl (pgs_cons (pg_name (i := 9) sc_Board_add.nd rfl (by first | exact Or.inl rfl | exact Or.inr rfl)) (pgs_cons (pg_name (i := 10) sc_Board_add.nd rfl (by first | exact Or.inl rfl | exact Or.inr rfl)) pgs_nil)))) (fun _ _ _ _ _ => (dts_one (dt_ne hr (de_var 10) de_int))) (fun _ _ _ _ _ => (de_mul (de_ix (de_var 5) (de_var 9)) (de_var 10)))) da_nil)) da_nil))))))
    (dss_cons (ds_set (i := 6) sc_Board_add.nd (de_fdiv (de_mul (de_ix (de_var 1) de_int) (de_var 3)) (de_ix (de_var 1) de_int)))
    (dss_cons (ds_set (i := 7) sc_Board_add.nd (de_blt (cr_sumA rfl) l_sum T.b_sum (by decide +kernel) (da_cons (de_lc (own := [("k", 9), ("part", 10)]) sc_Board_add.nd (di_enum T.b_enumerate (da_cons (de_var 4) da_nil)) (blkOk_by (N := ["self", "gain", "column", "scale", "whole", "row", "own", "worth", "one", "k", "part"]) (sc := defScope s_Board_add) (by decide +kernel)) (lg_tup (lg_cons lg_name (lg_cons lg_name lg_nil)) (ln_cons (ln_cons ln_nil))) (si_tup (si_cons (si_name (by decide)) (si_cons (si_name (by decide)) si_nil))) (fun _ _ _ _ _ => (pg_tup rfl (pgs_cons (pg_name (i := 9) sc_Board_add.nd rfl (by first | exact Or.inl rfl | exact Or.inr rfl)) (pgs_cons (pg_name (i := 10) sc_Board_add.nd rfl (by first | exact Or.inl rfl | exact Or.inr rfl)) pgs_nil)))) (fun _ _ _ _ _ => (dts_one (dt_ne hr (de_var 10) de_int))) (fun _ _ _ _ _ => (de_mul (de_ix (de_fld T.cl_Board T.na_Board_gains (de_var 0)) (de_var 9)) (de_var 10)))) da_nil)))
    (dss_cons (ds_expr (de_m PySem.F.slot_list_insert PySem.F.type_list_insert mt_insert l_insert (de_fld T.cl_Board T.na_Board_gains (de_var 0)) (da_cons (de_sub (de_blt call_len l_len T.b_len (by decide +kernel) (da_cons (de_fld T.cl_Board T.na_Board_gains (de_var 0)) da_nil)) de_int) (da_cons (de_sub (de_var 7) (de_mul (de_var 6) (de_fld T.cl_Board T.na_Board_bottom (de_var 0)))) da_nil))))
    (dss_cons (ds_expr (de_m PySem.F.slot_list_append PySem.F.type_list_append mt_append l_append (de_fld T.cl_Board T.na_Board_scales (de_var 0)) (da_cons (de_var 3) da_nil)))
    (dss_one (ds_ret (de_sub (de_blt call_len l_len T.b_len (by decide +kernel) (da_cons (de_fld T.cl_Board T.na_Board_scales (de_var 0)) da_nil)) de_int))))))))))
abbrev s_Board_wanted : Stmt := clsSt (topS 19) 5
theorem sc_Board_wanted : FnScope ["self", "k"] ["self"] (defScope s_Board_wanted) := ⟨rfl, rfl, rfl, by decide +kernel, rfl, by decide +kernel, by decide +kernel⟩
theorem d_Board_wanted {P : Program} {w : World} {K : PySem.W.Frag} {mg : Str → Option Value} {base : Heap} {C_Board : Addr} (T : Txt K mg C_Board)  {f : Addr} (cdv : Value) (A : Around) (outer : List Env) (s : Shared) (H : Hp) (E : XK) (hr : Room 0 (A.deeper (PyProof.Rows.envOfC "Board.wanted" (defScope s_Board_wanted) s.heap.objs.size f cdv))) :
    DSs (cxOf CX0 P w K mg base ["self", "k"] "Board.wanted" (defScope s_Board_wanted) f cdv A outer s H E).nox W0 (defBody s_Board_wanted) (t_Board_wanted C_Board) :=
  (dss_cons (ds_for PassesOwn.never (di_range1 T.b_range (da_cons (de_sub (de_blt call_len l_len T.b_len (by decide +kernel) (da_cons (de_fld T.cl_Board T.na_Board_gains (de_var 0)) da_nil)) de_int) da_nil)) (pg_name (i := 1) sc_Board_wanted.nd rfl (by first | exact Or.inl rfl | exact Or.inr rfl)) lg_name (dss_one (ds_if (dt_lt (de_ix (de_fld T.cl_Board T.na_Board_gains (de_var 0)) (de_var 1)) de_int) (dss_one (ds_ret (de_var 1))) dss_nil)))
    (dss_one (ds_ret de_non)))
abbrev s_Board_leaving : Stmt := clsSt (topS 19) 2
theorem sc_Board_leaving : FnScope ["self", "entering", "found", "number", "row", "here", "there"] ["self", "entering"] (defScope s_Board_leaving) := ⟨rfl, rfl, rfl, by decide +kernel, rfl, by decide +kernel, by decide +kernel⟩
theorem d_Board_leaving {P : Program} {w : World} {K : PySem.W.Frag} {mg : Str → Option Value} {base : Heap} {C_Board : Addr} (T : Txt K mg C_Board)  {f : Addr} (cdv : Value) (A : Around) (outer : List Env) (s : Shared) (H : Hp) (E : XK) (hr : Room 0 (A.deeper (PyProof.Rows.envOfC "Board.leaving" (defScope s_Board_leaving) s.heap.objs.size f cdv))) :
    DSs (cxOf CX0 P w K mg base ["self", "entering", "found", "number", "row", "here", "there"] "Board.leaving" (defScope s_Board_leaving) f cdv A outer s H E).nox W0 (defBody s_Board_leaving) (t_Board_leaving C_Board) :=
  (dss_cons (ds_set (i := 2) sc_Board_leaving.nd de_non)
    (dss_cons (ds_for PassesOwn.never (di_enum T.b_enumerate (da_cons (de_fld T.cl_Board T.na_Board_rows (de_var 0)) da_nil)) (pg_tup rfl (pgs_cons (pg_name (i := 3) sc_Board_leaving.nd rfl (by first | exact Or.inl rfl | exact Or.inr rfl)) (pgs_cons (pg_name (i := 4) sc_Board_leaving.nd rfl (by first | exact Or.inl rfl | exact Or.inr rfl)) pgs_nil))) (lg_tup (lg_cons lg_name (lg_cons lg_name lg_nil)) (ln_cons (ln_cons ln_nil))) (dss_one (ds_if (dt_gt (de_ix (de_var 4) (de_var 1)) de_int) (dss_one (ds_if (dt_is (de_var 2) de_non) (dss_one (ds_set (i := 2) sc_Board_leaving.nd (de_var 3))) (dss_cons (ds_set (i := 5) sc_Board_leaving.nd (de_mul (de_ix (de_var 4) (de_neg de_int)) (de_ix (de_ix (de_fld T.cl_Board T.na_Board_rows (de_var 0)) (de_var 2)) (de_var 1))))
    (dss_cons (ds_set (i := 6) sc_Board_leaving.nd (de_mul (de_ix (de_ix (de_fld T.cl_Board T.na_Board_rows (de_var 0)) (de_var 2)) (de_neg de_int)) (de_ix (de_var 4) (de_var 1))))
    (dss_one (ds_if (DW.dt (dw_or (dt_lt (de_var 5) (de_var 6)) (dw_or1 (DW.dt (dw_and (dt_eq hr (de_var 5) (de_var 6)) (dw_and1 (dt_lt (de_ix (de_fld T.cl_Board T.na_Board_basis (de_var 0)) (de_var 3)) (de_ix (de_fld T.cl_Board T.na_Board_basis (de_var 0)) (de_var 2))))))))) (dss_one (ds_set (i := 2) sc_Board_leaving.nd (de_var 3))) dss_nil)))))) dss_nil)))
    (dss_one (ds_ret (de_var 2)))))
abbrev s_Board_turn : Stmt := clsSt (topS 19) 3
theorem sc_Board_turn : FnScope ["self", "number", "entering", "pivot", "by", "row", "part", "k"] ["self", "number", "entering"] (defScope s_Board_turn) := ⟨rfl, rfl, rfl, by decide +kernel, rfl, by decide +kernel, by decide +kernel⟩
theorem d_Board_turn {P : Program} {w : World} {K : PySem.W.Frag} {mg : Str → Option Value} {base : Heap} {C_Board : Addr} (T : Txt K mg C_Board)  {f : Addr} (cdv : Value) (A : Around) (outer : List Env) (s : Shared) (H : Hp) (E : XK) (hr : Room 0 (A.deeper (PyProof.Rows.envOfC "Board.turn" (defScope s_Board_turn) s.heap.objs.size f cdv))) :
    DSs (cxOf CX0 P w K mg base ["self", "number", "entering", "pivot", "by", "row", "part", "k"] "Board.turn" (defScope s_Board_turn) f cdv A outer s H E).nox W0 (defBody s_Board_turn) (t_Board_turn C_Board) :=
  (dss_cons (ds_set (i := 3) sc_Board_turn.nd (de_ix (de_fld T.cl_Board T.na_Board_rows (de_var 0)) (de_var 1)))
    (dss_cons (ds_set (i := 4) sc_Board_turn.nd (de_ix (de_var 3) (de_var 2)))
    (dss_cons (ds_for PassesOwn.never (di_seq (de_add (de_add (de_sl (de_fld T.cl_Board T.na_Board_rows (de_var 0)) do_none (do_some (de_var 1))) (de_sl (de_fld T.cl_Board T.na_Board_rows (de_var 0)) (do_some (de_add (de_var 1) de_int)) do_none)) (de_lst (da_cons (de_fld T.cl_Board T.na_Board_gains (de_var 0)) da_nil)))) (pg_name (i := 5) sc_Board_turn.nd rfl (by first | exact Or.inl rfl | exact Or.inr rfl)) lg_name (dss_cons (ds_set (i := 6) sc_Board_turn.nd (de_ix (de_var 5) (de_var 2)))
    (dss_one (ds_for PassesOwn.never (di_range1 T.b_range (da_cons (de_blt call_len l_len T.b_len (by decide +kernel) (da_cons (de_var 5) da_nil)) da_nil)) (pg_name (i := 7) sc_Board_turn.nd rfl (by first | exact Or.inl rfl | exact Or.inr rfl)) lg_name (dss_one (ds_setix (de_fdiv (de_sub (de_mul (de_ix (de_var 5) (de_var 7)) (de_var 4)) (de_mul (de_var 6) (de_ix (de_var 3) (de_var 7)))) (de_fld T.cl_Board T.na_Board_bottom (de_var 0))) (de_var 5) (de_var 7)))))))
    (dss_cons (ds_fld T.cl_Board T.na_Board_bottom (de_var 4) (de_var 0))
    (dss_one (ds_setix (de_var 2) (de_fld T.cl_Board T.na_Board_basis (de_var 0)) (de_var 1)))))))
abbrev s_Board_settle : Stmt := clsSt (topS 19) 4
theorem sc_Board_settle : FnScope ["self", "entering", "number"] ["self"] (defScope s_Board_settle) := ⟨rfl, rfl, rfl, by decide +kernel, rfl, by decide +kernel, by decide +kernel⟩
theorem d_Board_settle {P : Program} {w : World} {K : PySem.W.Frag} {mg : Str → Option Value} {base : Heap} {C_Board : Addr} (T : Txt K mg C_Board) (F_Board_wanted : DfnMe P w K mg base CX0 C_Board "wanted" "Board.wanted" s_Board_wanted 1 ["self"] (c_bwanted C_Board)) (F_Board_leaving : DfnMe P w K mg base CX0 C_Board "leaving" "Board.leaving" s_Board_leaving 1 ["self", "entering"] (c_bleaving C_Board)) (F_Board_turn : DfnMe P w K mg base CX0 C_Board "turn" "Board.turn" s_Board_turn 1 ["self", "number", "entering"] (c_bturn C_Board)) {f : Addr} (cdv : Value) (A : Around) (outer : List Env) (s : Shared) (H : Hp) (E : XK) (hr : Room 1 (A.deeper (PyProof.Rows.envOfC "Board.settle" (defScope s_Board_settle) s.heap.objs.size f cdv))) :
    DSs (cxOf CX0 P w K mg base ["self", "entering", "number"] "Board.settle" (defScope s_Board_settle) f cdv A outer s H E).nox W0 (defBody s_Board_settle) (t_Board_settle C_Board) :=
  (dss_cons (ds_set (i := 1) sc_Board_settle.nd (de_meth0 F_Board_wanted T.cl_Board (hr.mono (by decide)) pw0 (de_var 0)))
    (dss_cons (ds_while PassesOwn.never (dt_isnot (de_var 1) de_non) (dss_cons (ds_set (i := 2) sc_Board_settle.nd (de_meth F_Board_leaving T.cl_Board (hr.mono (by decide)) pw0 (de_var 0) (da_cons (de_var 1) da_nil)))
    (dss_cons (ds_if (dt_is (de_var 2) de_non) (dss_one (ds_ret (de_var 1))) dss_nil)
    (dss_cons (ds_expr (de_meth F_Board_turn T.cl_Board (hr.mono (by decide)) pw0 (de_var 0) (da_cons (de_var 2) (da_cons (de_var 1) da_nil))))
    (dss_one (ds_set (i := 1) sc_Board_settle.nd (de_meth0 F_Board_wanted T.cl_Board (hr.mono (by decide)) pw0 (de_var 0))))))))
    (dss_one (ds_ret de_non))))
abbrev s_lowest : Stmt := topS 5
theorem sc_lowest : FnScope ["top", "bottom", "by"] ["top", "bottom"] (defScope s_lowest) := ⟨rfl, rfl, rfl, by decide +kernel, rfl, by decide +kernel, by decide +kernel⟩
theorem d_lowest {P : Program} {w : World} {K : PySem.W.Frag} {mg : Str → Option Value} {base : Heap} {C_Board : Addr} (T : Txt K mg C_Board) (F_shared : Dfn P w K mg base CX0 "shared" "shared" s_shared 1 ["one", "other"] c_shared) {f : Addr} (cdv : Value) (A : Around) (outer : List Env) (s : Shared) (H : Hp) (E : XK) (hr : Room 1 (A.deeper (PyProof.Rows.envOfC "lowest" (defScope s_lowest) s.heap.objs.size f cdv))) :
    DSs (cxOf CX0 P w K mg base ["top", "bottom", "by"] "lowest" (defScope s_lowest) f cdv A outer s H E).nox W0 (defBody s_lowest) t_lowest :=
  (dss_cons (ds_if (dt_eq hr (de_var 1) de_int) (dss_one (ds_ret (de_tup (da_cons (de_var 0) (da_cons de_int da_nil))))) dss_nil)
    (dss_cons (ds_set (i := 2) sc_lowest.nd (de_call F_shared (hr.mono (by decide)) pw0 (da_cons (de_var 0) (da_cons (de_var 1) da_nil))))
    (dss_cons (ds_if (dt_lt (de_var 1) de_int) (dss_one (ds_set (i := 2) sc_lowest.nd (de_sub de_int (de_var 2)))) dss_nil)
    (dss_one (ds_ret (de_tup (da_cons (de_fdiv (de_var 0) (de_var 2)) (da_cons (de_fdiv (de_var 1) (de_var 2)) da_nil))))))))
abbrev s_Board_endless : Stmt := clsSt (topS 19) 8
theorem sc_Board_endless : FnScope ["self", "entering", "found", "number", "row"] ["self", "entering"] (defScope s_Board_endless) := ⟨rfl, rfl, rfl, by decide +kernel, rfl, by decide +kernel, by decide +kernel⟩
theorem d_Board_endless {P : Program} {w : World} {K : PySem.W.Frag} {mg : Str → Option Value} {base : Heap} {C_Board : Addr} (T : Txt K mg C_Board) (F_lowest : Dfn P w K mg base CX0 "lowest" "lowest" s_lowest 2 ["top", "bottom"] c_lowest) {f : Addr} (cdv : Value) (A : Around) (outer : List Env) (s : Shared) (H : Hp) (E : XK) (hr : Room 2 (A.deeper (PyProof.Rows.envOfC "Board.endless" (defScope s_Board_endless) s.heap.objs.size f cdv))) :
    DSs (cxOf CX0 P w K mg base ["self", "entering", "found", "number", "row"] "Board.endless" (defScope s_Board_endless) f cdv A outer s H E).nox W0 (defBody s_Board_endless) (t_Board_endless C_Board) :=
  (dss_cons (ds_set (i := 2) sc_Board_endless.nd (de_repC (de_lst (da_cons (de_tup (da_cons de_int (da_cons de_int da_nil))) da_nil)) (de_sub (de_blt call_len l_len T.b_len (by decide +kernel) (da_cons (de_fld T.cl_Board T.na_Board_scales (de_var 0)) da_nil)) (de_fld T.cl_Board T.na_Board_rests (de_var 0)))))
    (dss_cons (ds_if (dt_ge (de_var 1) (de_fld T.cl_Board T.na_Board_rests (de_var 0))) (dss_one (ds_setix (de_tup (da_cons (de_ix (de_fld T.cl_Board T.na_Board_scales (de_var 0)) (de_var 1)) (da_cons de_int da_nil))) (de_var 2) (de_sub (de_var 1) (de_fld T.cl_Board T.na_Board_rests (de_var 0))))) dss_nil)
    (dss_cons (ds_for PassesOwn.never (di_zip2 T.b_zip (da_cons (de_fld T.cl_Board T.na_Board_basis (de_var 0)) (da_cons (de_fld T.cl_Board T.na_Board_rows (de_var 0)) da_nil))) (pg_tup rfl (pgs_cons (pg_name (i := 3) sc_Board_endless.nd rfl (by first | exact Or.inl rfl | exact Or.inr rfl)) (pgs_cons (pg_name (i := 4) sc_Board_endless.nd rfl (by first | exact Or.inl rfl | exact Or.inr rfl)) pgs_nil))) (lg_tup (lg_cons lg_name (lg_cons lg_name lg_nil)) (ln_cons (ln_cons ln_nil))) (dss_one (ds_if (dt_ge (de_var 3) (de_fld T.cl_Board T.na_Board_rests (de_var 0))) (dss_one (ds_setix (de_call F_lowest (hr.mono (by decide)) pw0 (da_cons (de_sub de_int (de_mul (de_ix (de_var 4) (de_var 1)) (de_ix (de_fld T.cl_Board T.na_Board_scales (de_var 0)) (de_var 3)))) (da_cons (de_fld T.cl_Board T.na_Board_bottom (de_var 0)) da_nil))) (de_var 2) (de_sub (de_var 3) (de_fld T.cl_Board T.na_Board_rests (de_var 0))))) dss_nil)))
    (dss_one (ds_ret (de_var 2))))))
abbrev s_Board_shares : Stmt := clsSt (topS 19) 6
theorem sc_Board_shares : FnScope ["self", "found", "number", "row"] ["self"] (defScope s_Board_shares) := ⟨rfl, rfl, rfl, by decide +kernel, rfl, by decide +kernel, by decide +kernel⟩
theorem d_Board_shares {P : Program} {w : World} {K : PySem.W.Frag} {mg : Str → Option Value} {base : Heap} {C_Board : Addr} (T : Txt K mg C_Board) (F_lowest : Dfn P w K mg base CX0 "lowest" "lowest" s_lowest 2 ["top", "bottom"] c_lowest) {f : Addr} (cdv : Value) (A : Around) (outer : List Env) (s : Shared) (H : Hp) (E : XK) (hr : Room 2 (A.deeper (PyProof.Rows.envOfC "Board.shares" (defScope s_Board_shares) s.heap.objs.size f cdv))) :
    DSs (cxOf CX0 P w K mg base ["self", "found", "number", "row"] "Board.shares" (defScope s_Board_shares) f cdv A outer s H E).nox W0 (defBody s_Board_shares) (t_Board_shares C_Board) :=
  (dss_cons (ds_set (i := 1) sc_Board_shares.nd (de_repC (de_lst (da_cons (de_tup (da_cons de_int (da_cons de_int da_nil))) da_nil)) (de_sub (de_blt call_len l_len T.b_len (by decide +kernel) (da_cons (de_fld T.cl_Board T.na_Board_scales (de_var 0)) da_nil)) (de_fld T.cl_Board T.na_Board_rests (de_var 0)))))
    (dss_cons (ds_for PassesOwn.never (di_zip2 T.b_zip (da_cons (de_fld T.cl_Board T.na_Board_basis (de_var 0)) (da_cons (de_fld T.cl_Board T.na_Board_rows (de_var 0)) da_nil))) (pg_tup rfl (pgs_cons (pg_name (i := 2) sc_Board_shares.nd rfl (by first | exact Or.inl rfl | exact Or.inr rfl)) (pgs_cons (pg_name (i := 3) sc_Board_shares.nd rfl (by first | exact Or.inl rfl | exact Or.inr rfl)) pgs_nil))) (lg_tup (lg_cons lg_name (lg_cons lg_name lg_nil)) (ln_cons (ln_cons ln_nil))) (dss_one (ds_if (dt_ge (de_var 2) (de_fld T.cl_Board T.na_Board_rests (de_var 0))) (dss_one (ds_setix (de_call F_lowest (hr.mono (by decide)) pw0 (da_cons (de_mul (de_ix (de_var 3) (de_neg de_int)) (de_ix (de_fld T.cl_Board T.na_Board_scales (de_var 0)) (de_var 2))) (da_cons (de_mul (de_fld T.cl_Board T.na_Board_bottom (de_var 0)) (de_fld T.cl_Board T.na_Board_scale (de_var 0))) da_nil))) (de_var 1) (de_sub (de_var 2) (de_fld T.cl_Board T.na_Board_rests (de_var 0))))) dss_nil)))
    (dss_one (ds_ret (de_var 1)))))
abbrev s_Board_prices : Stmt := clsSt (topS 19) 7
theorem sc_Board_prices : FnScope ["self", "k"] ["self"] (defScope s_Board_prices) := ⟨rfl, rfl, rfl, by decide +kernel, rfl, by decide +kernel, by decide +kernel⟩
theorem d_Board_prices {P : Program} {w : World} {K : PySem.W.Frag} {mg : Str → Option Value} {base : Heap} {C_Board : Addr} (T : Txt K mg C_Board) (F_lowest : Dfn P w K mg base CX0 "lowest" "lowest" s_lowest 2 ["top", "bottom"] c_lowest) {f : Addr} (cdv : Value) (A : Around) (outer : List Env) (s : Shared) (H : Hp) (E : XK) (hr : Room 2 (A.deeper (PyProof.Rows.envOfC "Board.prices" (defScope s_Board_prices) s.heap.objs.size f cdv))) :
    DSs (cxOf CX0 P w K mg base ["self", "k"] "Board.prices" (defScope s_Board_prices) f cdv A outer s H E).nox W0 (defBody s_Board_prices) (t_Board_prices C_Board) :=
  (dss_one (ds_ret (de_lcC (own := [("k", 1)]) sc_Board_prices.nd (di_range1 T.b_range (da_cons (de_fld T.cl_Board T.na_Board_rests (de_var 0)) da_nil)) (blkOk_by (N := ["self", "k"]) (sc := defScope s_Board_prices) (by decide +kernel)) lg_name (si_name (by decide)) (fun _ _ _ _ _ => (pg_name (i := 1) sc_Board_prices.nd rfl (by first | exact Or.inl rfl | exact Or.inr rfl))) (fun _ _ _ _ _ => dts_nil) (fun _ _ _ _ _ => (de_call F_lowest (hr.mono (by decide)) pw0 (da_cons (de_ix (de_fld T.cl_Board T.na_Board_gains (de_var 0)) (de_var 1)) (da_cons (de_fld T.cl_Board T.na_Board_bottom (de_var 0)) da_nil)))))))
abbrev s_most_of : Stmt := topS 20
theorem sc_most_of : FnScope ["sheet", "gains", "columns", "rights", "board", "gain", "column", "entering"] ["sheet"] (defScope s_most_of) := ⟨rfl, rfl, rfl, by decide +kernel, rfl, by decide +kernel, by decide +kernel⟩
theorem d_most_of {P : Program} {w : World} {K : PySem.W.Frag} {mg : Str → Option Value} {base : Heap} {C_Board : Addr} (T : Txt K mg C_Board) (F_Board___init__ : DfnIe P w K mg base CX0 "Board" C_Board "Board.__init__" s_Board___init__ 3 ["self", "rights"] (c_binit C_Board)) (F_Board_add : DfnMe P w K mg base CX0 C_Board "add" "Board.add" s_Board_add 3 ["self", "gain", "column"] (c_badd C_Board)) (F_Board_settle : DfnMe P w K mg base CX0 C_Board "settle" "Board.settle" s_Board_settle 2 ["self"] (c_bsettle C_Board)) (F_Board_endless : DfnMe P w K mg base CX0 C_Board "endless" "Board.endless" s_Board_endless 3 ["self", "entering"] (c_bendless C_Board)) (F_Board_shares : DfnMe P w K mg base CX0 C_Board "shares" "Board.shares" s_Board_shares 3 ["self"] (c_bshares C_Board)) (F_Board_prices : DfnMe P w K mg base CX0 C_Board "prices" "Board.prices" s_Board_prices 3 ["self"] (c_bprices C_Board)) {f : Addr} (cdv : Value) (A : Around) (outer : List Env) (s : Shared) (H : Hp) (E : XK) (hr : Room 4 (A.deeper (PyProof.Rows.envOfC "most_of" (defScope s_most_of) s.heap.objs.size f cdv))) :
    DSs (cxOf CX0 P w K mg base ["sheet", "gains", "columns", "rights", "board", "gain", "column", "entering"] "most_of" (defScope s_most_of) f cdv A outer s H E).nox W0 (defBody s_most_of) (t_most_of C_Board) :=
  (dss_cons (ds_asg (de_var 0) (pg_tup rfl (pgs_cons (pg_name (i := 1) sc_most_of.nd rfl (by first | exact Or.inl rfl | exact Or.inr rfl)) (pgs_cons (pg_name (i := 2) sc_most_of.nd rfl (by first | exact Or.inl rfl | exact Or.inr rfl)) (pgs_cons (pg_name (i := 3) sc_most_of.nd rfl (by first | exact Or.inl rfl | exact Or.inr rfl)) pgs_nil)))) (lg_tup (lg_cons lg_name (lg_cons lg_name (lg_cons lg_name lg_nil))) (ln_cons (ln_cons (ln_cons ln_nil)))))
    (dss_cons (ds_set (i := 4) sc_most_of.nd (de_mk F_Board___init__ (hr.mono (by decide)) pw0 (da_cons (de_var 3) da_nil)))
    (dss_cons (ds_for PassesOwn.never (di_zip2 T.b_zip (da_cons (de_var 1) (da_cons (de_var 2) da_nil))) (pg_tup rfl (pgs_cons (pg_name (i := 5) sc_most_of.nd rfl (by first | exact Or.inl rfl | exact Or.inr rfl)) (pgs_cons (pg_name (i := 6) sc_most_of.nd rfl (by first | exact Or.inl rfl | exact Or.inr rfl)) pgs_nil))) (lg_tup (lg_cons lg_name (lg_cons lg_name lg_nil)) (ln_cons (ln_cons ln_nil))) (dss_one (ds_expr (de_meth F_Board_add T.cl_Board (hr.mono (by decide)) pw0 (de_var 4) (da_cons (de_var 5) (da_cons (de_var 6) da_nil))))))
    (dss_cons (ds_set (i := 7) sc_most_of.nd (de_meth0 F_Board_settle T.cl_Board (hr.mono (by decide)) pw0 (de_var 4)))
    (dss_cons (ds_if (dt_isnot (de_var 7) de_non) (dss_one (ds_ret (de_tup (da_cons de_str (da_cons (de_meth F_Board_endless T.cl_Board (hr.mono (by decide)) pw0 (de_var 4) (da_cons (de_var 7) da_nil)) da_nil))))) dss_nil)
    (dss_one (ds_ret (de_tup (da_cons de_str (da_cons (de_meth0 F_Board_shares T.cl_Board (hr.mono (by decide)) pw0 (de_var 4)) (da_cons (de_meth0 F_Board_prices T.cl_Board (hr.mono (by decide)) pw0 (de_var 4)) da_nil)))))))))))
abbrev s_law_plus : Stmt := topS 26
theorem sc_law_plus : FnScope ["_law_one", "_law_other"] ["_law_one", "_law_other"] (defScope s_law_plus) := ⟨rfl, rfl, rfl, by decide +kernel, rfl, by decide +kernel, by decide +kernel⟩
theorem d_law_plus {P : Program} {w : World} {K : PySem.W.Frag} {mg : Str → Option Value} {base : Heap} {C_Board : Addr} (T : Txt K mg C_Board) (F_law_low : Dfn P w K mg base CX0 "_law_low" "_law_low" s_law_low 1 ["_law_top", "_law_bottom"] c_low) {f : Addr} (cdv : Value) (A : Around) (outer : List Env) (s : Shared) (H : Hp) (E : XK) (hr : Room 1 (A.deeper (PyProof.Rows.envOfC "_law_plus" (defScope s_law_plus) s.heap.objs.size f cdv))) :
    DSs (cxOf CX0 P w K mg base ["_law_one", "_law_other"] "_law_plus" (defScope s_law_plus) f cdv A outer s H E).nox W0 (defBody s_law_plus) t_law_plus :=
  (dss_one (ds_ret (de_call F_law_low (hr.mono (by decide)) pw0 (da_cons (de_add (de_mul (de_ix (de_var 0) de_int) (de_ix (de_var 1) de_int)) (de_mul (de_ix (de_var 1) de_int) (de_ix (de_var 0) de_int))) (da_cons (de_mul (de_ix (de_var 0) de_int) (de_ix (de_var 1) de_int)) da_nil)))))
abbrev s_law_minus : Stmt := topS 27
theorem sc_law_minus : FnScope ["_law_one", "_law_other"] ["_law_one", "_law_other"] (defScope s_law_minus) := ⟨rfl, rfl, rfl, by decide +kernel, rfl, by decide +kernel, by decide +kernel⟩
theorem d_law_minus {P : Program} {w : World} {K : PySem.W.Frag} {mg : Str → Option Value} {base : Heap} {C_Board : Addr} (T : Txt K mg C_Board) (F_law_low : Dfn P w K mg base CX0 "_law_low" "_law_low" s_law_low 1 ["_law_top", "_law_bottom"] c_low) {f : Addr} (cdv : Value) (A : Around) (outer : List Env) (s : Shared) (H : Hp) (E : XK) (hr : Room 1 (A.deeper (PyProof.Rows.envOfC "_law_minus" (defScope s_law_minus) s.heap.objs.size f cdv))) :
    DSs (cxOf CX0 P w K mg base ["_law_one", "_law_other"] "_law_minus" (defScope s_law_minus) f cdv A outer s H E).nox W0 (defBody s_law_minus) t_law_minus :=
  (dss_one (ds_ret (de_call F_law_low (hr.mono (by decide)) pw0 (da_cons (de_sub (de_mul (de_ix (de_var 0) de_int) (de_ix (de_var 1) de_int)) (de_mul (de_ix (de_var 1) de_int) (de_ix (de_var 0) de_int))) (da_cons (de_mul (de_ix (de_var 0) de_int) (de_ix (de_var 1) de_int)) da_nil)))))
abbrev s_law_bent : Stmt := topS 37
theorem sc_law_bent : FnScope ["_law_told", "_law_pool_here", "_law_part_here", "_law_way", "_law_some", "_law_rows", "_law_at", "_law_one", "_law_more", "_law_top", "_law_bottom", "_law_odd"] ["_law_told", "_law_pool_here"] (defScope s_law_bent) := ⟨rfl, rfl, rfl, by decide +kernel, rfl, by decide +kernel, by decide +kernel⟩
theorem d_law_bent {P : Program} {w : World} {K : PySem.W.Frag} {mg : Str → Option Value} {base : Heap} {C_Board : Addr} (T : Txt K mg C_Board) (F_law_take : Dfn P w K mg base CX0 "_law_take" "_law_take" s_law_take 1 ["_law_pool_here", "_law_many"] c_take) (F_law_plus : Dfn P w K mg base CX0 "_law_plus" "_law_plus" s_law_plus 2 ["_law_one", "_law_other"] c_plus) (F_law_minus : Dfn P w K mg base CX0 "_law_minus" "_law_minus" s_law_minus 2 ["_law_one", "_law_other"] c_minus) {f : Addr} (cdv : Value) (A : Around) (outer : List Env) (s : Shared) (H : Hp) (E : XK) (hr : Room 3 (A.deeper (PyProof.Rows.envOfC "_law_bent" (defScope s_law_bent) s.heap.objs.size f cdv))) :
    DSs (cxOf CX0 P w K mg base ["_law_told", "_law_pool_here", "_law_part_here", "_law_way", "_law_some", "_law_rows", "_law_at", "_law_one", "_law_more", "_law_top", "_law_bottom", "_law_odd"] "_law_bent" (defScope s_law_bent) f cdv A outer s H E).nox W0 (defBody s_law_bent) t_law_bent :=
  (dss_cons (ds_set (i := 2) sc_law_bent.nd (de_call F_law_take (hr.mono (by decide)) pw0 (da_cons (de_var 1) (da_cons (de_blt call_len l_len T.b_len (by decide +kernel) (da_cons (de_var 0) da_nil)) da_nil))))
    (dss_cons (ds_set (i := 3) sc_law_bent.nd (de_call F_law_take (hr.mono (by decide)) pw0 (da_cons (de_var 1) (da_cons de_int da_nil))))
    (dss_cons (ds_if (DW.dt (dw_or (dt_eq hr (de_var 2) de_int) (dw_or1 (dt_eq hr (de_var 3) de_int)))) (dss_cons (ds_set (i := 4) sc_law_bent.nd (de_lst (da_cons (de_add (de_tup (da_cons de_str da_nil)) (de_sl (de_var 0) (do_some de_int) do_none)) (da_cons (de_add (de_tup (da_cons de_str da_nil)) (de_sl (de_var 0) (do_some de_int) do_none)) (da_cons (de_add (de_var 0) (de_tup (da_cons (de_lst da_nil) da_nil))) (da_cons (de_sl (de_var 0) do_none (do_some (de_neg de_int))) (da_cons (de_blty call_list_of l_list T.b_list (by decide +kernel) (da_cons (de_var 0) da_nil)) (da_cons de_non da_nil))))))))
    (dss_cons (ds_set (i := 4) sc_law_bent.nd (de_add (de_var 4) (de_lst (da_cons (de_tup da_nil) (da_cons (de_rev (de_var 0)) (da_cons (de_add (de_tup (da_cons de_str da_nil)) (de_sl (de_var 0) (do_some de_int) do_none)) (da_cons (de_add (de_tup (da_cons de_non da_nil)) (de_sl (de_var 0) (do_some de_int) do_none)) (da_cons de_str (da_cons (de_tup (da_cons (de_ix (de_var 0) de_int) da_nil)) da_nil)))))))))
    (dss_one (ds_ret (de_ix (de_add (de_var 4) (de_lst (da_cons de_emp (da_cons (de_tup (da_cons de_int (da_cons (de_lst da_nil) da_nil))) (da_cons (de_tup (da_cons (de_lst da_nil) (da_cons (de_ix (de_var 0) de_int) da_nil))) da_nil))))) (de_call F_law_take (hr.mono (by decide)) pw0 (da_cons (de_var 1) (da_cons de_int da_nil)))))))) dss_nil)
    (dss_cons (ds_set (i := 5) sc_law_bent.nd (de_blty call_list_of l_listC T.b_list (by decide +kernel) (da_cons (de_ix (de_var 0) (de_var 2)) da_nil)))
    (dss_cons (ds_if (DW.dt (dw_or (dt_eq hr (de_var 5) (de_lst da_nil)) (dw_or1 (dt_eq hr (de_var 3) de_int)))) (dss_cons (ds_set (i := 4) sc_law_bent.nd (de_lst (da_cons (de_add (de_var 5) (de_lst (da_cons (de_tup (da_cons de_int (da_cons de_int da_nil))) da_nil))) (da_cons (de_blty call_tuple_of l_tuple T.b_tuple (by decide +kernel) (da_cons (de_var 5) da_nil)) (da_cons de_non (da_cons (de_sl (de_var 5) (do_some de_int) do_none) da_nil))))))
    (dss_one (ds_ret (de_add (de_add (de_sl (de_var 0) do_none (do_some (de_var 2))) (de_tup (da_cons (de_ix (de_var 4) (de_call F_law_take (hr.mono (by decide)) pw0 (da_cons (de_var 1) (da_cons de_int da_nil)))) da_nil))) (de_sl (de_var 0) (do_some (de_add (de_var 2) de_int)) do_none))))) dss_nil)
    (dss_cons (ds_set (i := 6) sc_law_bent.nd (de_call F_law_take (hr.mono (by decide)) pw0 (da_cons (de_var 1) (da_cons (de_blt call_len l_len T.b_len (by decide +kernel) (da_cons (de_var 5) da_nil)) da_nil))))
    (dss_cons (ds_set (i := 7) sc_law_bent.nd (de_ix (de_var 5) (de_var 6)))
    (dss_cons (ds_set (i := 8) sc_law_bent.nd (de_call F_law_plus (hr.mono (by decide)) pw0 (da_cons (de_var 7) (da_cons (de_tup (da_cons de_int (da_cons de_int da_nil))) da_nil))))
    (dss_cons (ds_asg (de_var 7) (pg_tup rfl (pgs_cons (pg_name (i := 9) sc_law_bent.nd rfl (by first | exact Or.inl rfl | exact Or.inr rfl)) (pgs_cons (pg_name (i := 10) sc_law_bent.nd rfl (by first | exact Or.inl rfl | exact Or.inr rfl)) pgs_nil))) (lg_tup (lg_cons lg_name (lg_cons lg_name lg_nil)) (ln_cons (ln_cons ln_nil))))
    (dss_cons (ds_set (i := 11) sc_law_bent.nd (de_lst (da_cons de_non (da_cons de_bl (da_cons de_int (da_cons (de_blty call_list_of l_list T.b_list (by decide +kernel) (da_cons (de_var 7) da_nil)) (da_cons (de_tup (da_cons (de_mul (de_var 9) de_int) (da_cons (de_mul (de_var 10) de_int) da_nil))) da_nil)))))))
    (dss_cons (ds_set (i := 11) sc_law_bent.nd (de_add (de_var 11) (de_lst (da_cons (de_tup (da_cons (de_var 9) (da_cons (de_sub de_int (de_var 10)) da_nil))) (da_cons (de_add (de_var 7) (de_tup (da_cons de_int da_nil))) (da_cons de_str da_nil))))))
    (dss_cons (ds_set (i := 4) sc_law_bent.nd (de_lst (da_cons (de_var 8) (da_cons (de_var 8) (da_cons (de_call F_law_minus (hr.mono (by decide)) pw0 (da_cons (de_var 7) (da_cons (de_tup (da_cons de_int (da_cons de_int da_nil))) da_nil))) (da_cons (de_tup (da_cons de_int (da_cons de_int da_nil))) (da_cons (de_tup (da_cons de_int (da_cons de_int da_nil))) da_nil)))))))
    (dss_cons (ds_set (i := 4) sc_law_bent.nd (de_add (de_var 4) (de_lst (da_cons (de_ix (de_var 11) (de_call F_law_take (hr.mono (by decide)) pw0 (da_cons (de_var 1) (da_cons de_int da_nil)))) (da_cons (de_tup (da_cons de_bl (da_cons de_int da_nil))) da_nil)))))
    (dss_cons (ds_setix (de_ix (de_var 4) (de_sub (de_var 3) de_int)) (de_var 5) (de_var 6))
    (dss_one (ds_ret (de_add (de_add (de_sl (de_var 0) do_none (do_some (de_var 2))) (de_tup (da_cons (de_fz (de_var 5)) da_nil))) (de_sl (de_var 0) (do_some (de_add (de_var 2) de_int)) do_none))))))))))))))))))
abbrev s_law_is_share : Stmt := topS 33
theorem sc_law_is_share : FnScope ["_law_thing", "_law_part_here"] ["_law_thing"] (defScope s_law_is_share) := ⟨rfl, rfl, rfl, by decide +kernel, rfl, by decide +kernel, by decide +kernel⟩
theorem d_law_is_share {P : Program} {w : World} {K : PySem.W.Frag} {mg : Str → Option Value} {base : Heap} {C_Board : Addr} (T : Txt K mg C_Board) (F_law_low : Dfn P w K mg base CX0 "_law_low" "_law_low" s_law_low 1 ["_law_top", "_law_bottom"] c_low) {f : Addr} (cdv : Value) (A : Around) (outer : List Env) (s : Shared) (H : Hp) (E : XK) (hr : Room 1 (A.deeper (PyProof.Rows.envOfC "_law_is_share" (defScope s_law_is_share) s.heap.objs.size f cdv))) :
    DSs (cxOf CX0 P w K mg base ["_law_thing", "_law_part_here"] "_law_is_share" (defScope s_law_is_share) f cdv A outer s H E).nox W0 (defBody s_law_is_share) t_law_is_share :=
  (dss_cons (ds_if (DW.dt (dw_or (dt_not (dt_tru (de_blt call_isi (l_isi (by decide)) T.b_isinstance (by decide +kernel) (da_cons (de_var 0) (da_cons (de_bltn T.b_tuple (by decide +kernel) rfl) da_nil))))) (dw_or1 (dt_ne hr (de_blt call_len l_len T.b_len (by decide +kernel) (da_cons (de_var 0) da_nil)) de_int)))) (dss_one (ds_ret de_bl)) dss_nil)
    (dss_cons (ds_if (dt_ne hr (de_lc (own := [("_law_part_here", 1)]) sc_law_is_share.nd (di_seq (de_var 0)) (blkOk_by (N := ["_law_thing", "_law_part_here"]) (sc := defScope s_law_is_share) (by decide +kernel)) lg_name (si_name (by decide)) (fun _ _ _ _ _ => (pg_name (i := 1) sc_law_is_share.nd rfl (by first | exact Or.inl rfl | exact Or.inr rfl))) (fun _ _ _ _ _ => (dts_one (DW.dt (dw_or (dt_not (dt_tru (de_blt call_isi (l_isi (by decide)) T.b_isinstance (by decide +kernel) (da_cons (de_var 1) (da_cons (de_bltn T.b_int (by decide +kernel) rfl) da_nil))))) (dw_or1 (dt_tru (de_blt call_isi (l_isi (by decide)) T.b_isinstance (by decide +kernel) (da_cons (de_var 1) (da_cons (de_bltn T.b_bool (by decide +kernel) rfl) da_nil))))))))) (fun _ _ _ _ _ => (de_var 1))) (de_lst da_nil)) (dss_one (ds_ret de_bl)) dss_nil)
    (dss_one (ds_ret (de_and (de_ge (de_ix (de_var 0) de_int) de_int) (de_and (de_gt (de_ix (de_var 0) de_int) de_int) (de_one (de_eq hr (de_call F_law_low (hr.mono (by decide)) pw0 (da_cons (de_ix (de_var 0) de_int) (da_cons (de_ix (de_var 0) de_int) da_nil))) (de_var 0)))))))))
abbrev s_law_are_shares : Stmt := topS 34
theorem sc_law_are_shares : FnScope ["_law_thing", "_law_many", "_law_one"] ["_law_thing", "_law_many"] (defScope s_law_are_shares) := ⟨rfl, rfl, rfl, by decide +kernel, rfl, by decide +kernel, by decide +kernel⟩
theorem d_law_are_shares {P : Program} {w : World} {K : PySem.W.Frag} {mg : Str → Option Value} {base : Heap} {C_Board : Addr} (T : Txt K mg C_Board) (F_law_is_share : Dfn P w K mg base CX0 "_law_is_share" "_law_is_share" s_law_is_share 2 ["_law_thing"] c_lisshare) {f : Addr} (cdv : Value) (A : Around) (outer : List Env) (s : Shared) (H : Hp) (E : XK) (hr : Room 2 (A.deeper (PyProof.Rows.envOfC "_law_are_shares" (defScope s_law_are_shares) s.heap.objs.size f cdv))) :
    DSs (cxOf CX0 P w K mg base ["_law_thing", "_law_many", "_law_one"] "_law_are_shares" (defScope s_law_are_shares) f cdv A outer s H E).nox W0 (defBody s_law_are_shares) t_law_are_shares :=
  (dss_cons (ds_if (DW.dt (dw_or (dt_not (dt_tru (de_blt call_isi (l_isi (by decide)) T.b_isinstance (by decide +kernel) (da_cons (de_var 0) (da_cons (de_bltn T.b_list (by decide +kernel) rfl) da_nil))))) (dw_or1 (dt_ne hr (de_blt call_len l_len T.b_len (by decide +kernel) (da_cons (de_var 0) da_nil)) (de_var 1))))) (dss_one (ds_ret de_bl)) dss_nil)
    (dss_one (ds_ret (de_eq hr (de_lc (own := [("_law_one", 2)]) sc_law_are_shares.nd (di_seq (de_var 0)) (blkOk_by (N := ["_law_thing", "_law_many", "_law_one"]) (sc := defScope s_law_are_shares) (by decide +kernel)) lg_name (si_name (by decide)) (fun _ _ _ _ _ => (pg_name (i := 2) sc_law_are_shares.nd rfl (by first | exact Or.inl rfl | exact Or.inr rfl))) (fun _ _ _ _ _ => (dts_one (dt_not (dt_tru (de_call F_law_is_share (hr.mono (by decide)) pw0 (da_cons (de_var 2) da_nil)))))) (fun _ _ _ _ _ => (de_var 2))) (de_lst da_nil)))))
abbrev s_law_less : Stmt := topS 29
theorem sc_law_less : FnScope ["_law_one", "_law_other"] ["_law_one", "_law_other"] (defScope s_law_less) := ⟨rfl, rfl, rfl, by decide +kernel, rfl, by decide +kernel, by decide +kernel⟩
theorem d_law_less {P : Program} {w : World} {K : PySem.W.Frag} {mg : Str → Option Value} {base : Heap} {C_Board : Addr} (T : Txt K mg C_Board)  {f : Addr} (cdv : Value) (A : Around) (outer : List Env) (s : Shared) (H : Hp) (E : XK) (hr : Room 0 (A.deeper (PyProof.Rows.envOfC "_law_less" (defScope s_law_less) s.heap.objs.size f cdv))) :
    DSs (cxOf CX0 P w K mg base ["_law_one", "_law_other"] "_law_less" (defScope s_law_less) f cdv A outer s H E).nox W0 (defBody s_law_less) t_law_less :=
  (dss_one (ds_ret (de_lt (de_mul (de_ix (de_var 0) de_int) (de_ix (de_var 1) de_int)) (de_mul (de_ix (de_var 1) de_int) (de_ix (de_var 0) de_int)))))
abbrev s_law_times : Stmt := topS 28
theorem sc_law_times : FnScope ["_law_one", "_law_other"] ["_law_one", "_law_other"] (defScope s_law_times) := ⟨rfl, rfl, rfl, by decide +kernel, rfl, by decide +kernel, by decide +kernel⟩
theorem d_law_times {P : Program} {w : World} {K : PySem.W.Frag} {mg : Str → Option Value} {base : Heap} {C_Board : Addr} (T : Txt K mg C_Board) (F_law_low : Dfn P w K mg base CX0 "_law_low" "_law_low" s_law_low 1 ["_law_top", "_law_bottom"] c_low) {f : Addr} (cdv : Value) (A : Around) (outer : List Env) (s : Shared) (H : Hp) (E : XK) (hr : Room 1 (A.deeper (PyProof.Rows.envOfC "_law_times" (defScope s_law_times) s.heap.objs.size f cdv))) :
    DSs (cxOf CX0 P w K mg base ["_law_one", "_law_other"] "_law_times" (defScope s_law_times) f cdv A outer s H E).nox W0 (defBody s_law_times) t_law_times :=
  (dss_one (ds_ret (de_call F_law_low (hr.mono (by decide)) pw0 (da_cons (de_mul (de_ix (de_var 0) de_int) (de_ix (de_var 1) de_int)) (da_cons (de_mul (de_ix (de_var 0) de_int) (de_ix (de_var 1) de_int)) da_nil)))))
abbrev s_law_worth : Stmt := topS 32
theorem sc_law_worth : FnScope ["_law_one", "_law_other", "_law_found", "_law_here", "_law_there"] ["_law_one", "_law_other"] (defScope s_law_worth) := ⟨rfl, rfl, rfl, by decide +kernel, rfl, by decide +kernel, by decide +kernel⟩
theorem d_law_worth {P : Program} {w : World} {K : PySem.W.Frag} {mg : Str → Option Value} {base : Heap} {C_Board : Addr} (T : Txt K mg C_Board) (F_law_plus : Dfn P w K mg base CX0 "_law_plus" "_law_plus" s_law_plus 2 ["_law_one", "_law_other"] c_plus) (F_law_times : Dfn P w K mg base CX0 "_law_times" "_law_times" s_law_times 2 ["_law_one", "_law_other"] c_times) {f : Addr} (cdv : Value) (A : Around) (outer : List Env) (s : Shared) (H : Hp) (E : XK) (hr : Room 2 (A.deeper (PyProof.Rows.envOfC "_law_worth" (defScope s_law_worth) s.heap.objs.size f cdv))) :
    DSs (cxOf CX0 P w K mg base ["_law_one", "_law_other", "_law_found", "_law_here", "_law_there"] "_law_worth" (defScope s_law_worth) f cdv A outer s H E).nox W0 (defBody s_law_worth) t_law_worth :=
  (dss_cons (ds_set (i := 2) sc_law_worth.nd (de_tup (da_cons de_int (da_cons de_int da_nil))))
    (dss_cons (ds_for PassesOwn.never (di_zip2 T.b_zip (da_cons (de_var 0) (da_cons (de_var 1) da_nil))) (pg_tup rfl (pgs_cons (pg_name (i := 3) sc_law_worth.nd rfl (by first | exact Or.inl rfl | exact Or.inr rfl)) (pgs_cons (pg_name (i := 4) sc_law_worth.nd rfl (by first | exact Or.inl rfl | exact Or.inr rfl)) pgs_nil))) (lg_tup (lg_cons lg_name (lg_cons lg_name lg_nil)) (ln_cons (ln_cons ln_nil))) (dss_one (ds_set (i := 2) sc_law_worth.nd (de_call F_law_plus (hr.mono (by decide)) pw0 (da_cons (de_var 2) (da_cons (de_call F_law_times (hr.mono (by decide)) pw0 (da_cons (de_var 3) (da_cons (de_var 4) da_nil))) da_nil))))))
    (dss_one (ds_ret (de_var 2)))))
abbrev s_law_fits : Stmt := topS 35
theorem sc_law_fits : FnScope ["_law_columns", "_law_shares", "_law_rights", "_law_row", "_law_column"] ["_law_columns", "_law_shares", "_law_rights"] (defScope s_law_fits) := ⟨rfl, rfl, rfl, by decide +kernel, rfl, by decide +kernel, by decide +kernel⟩
theorem d_law_fits {P : Program} {w : World} {K : PySem.W.Frag} {mg : Str → Option Value} {base : Heap} {C_Board : Addr} (T : Txt K mg C_Board) (F_law_less : Dfn P w K mg base CX0 "_law_less" "_law_less" s_law_less 1 ["_law_one", "_law_other"] c_under) (F_law_worth : Dfn P w K mg base CX0 "_law_worth" "_law_worth" s_law_worth 3 ["_law_one", "_law_other"] c_worth) {f : Addr} (cdv : Value) (A : Around) (outer : List Env) (s : Shared) (H : Hp) (E : XK) (hr : Room 3 (A.deeper (PyProof.Rows.envOfC "_law_fits" (defScope s_law_fits) s.heap.objs.size f cdv))) :
    DSs (cxOf CX0 P w K mg base ["_law_columns", "_law_shares", "_law_rights", "_law_row", "_law_column"] "_law_fits" (defScope s_law_fits) f cdv A outer s H E).nox W0 (defBody s_law_fits) t_law_fits :=
  (dss_cons (ds_for PassesOwn.never (di_range1 T.b_range (da_cons (de_blt call_len l_len T.b_len (by decide +kernel) (da_cons (de_var 2) da_nil)) da_nil)) (pg_name (i := 3) sc_law_fits.nd rfl (by first | exact Or.inl rfl | exact Or.inr rfl)) lg_name (dss_one (ds_if (dt_tru (de_call F_law_less (hr.mono (by decide)) pw0 (da_cons (de_ix (de_var 2) (de_var 3)) (da_cons (de_call F_law_worth (hr.mono (by decide)) pw0 (da_cons (de_lc (own := [("_law_column", 4)]) sc_law_fits.nd (di_seq (de_var 0)) (blkOk_by (N := ["_law_columns", "_law_shares", "_law_rights", "_law_row", "_law_column"]) (sc := defScope s_law_fits) (by decide +kernel)) lg_name (si_name (by decide)) (fun _ _ _ _ _ => (pg_name (i := 4) sc_law_fits.nd rfl (by first | exact Or.inl rfl | exact Or.inr rfl))) (fun _ _ _ _ _ => dts_nil) (fun _ _ _ _ _ => (de_ix (de_var 4) (de_var 3)))) (da_cons (de_var 1) da_nil))) da_nil)))) (dss_one (ds_ret de_bl)) dss_nil)))
    (dss_one (ds_ret de_bl)))
abbrev s_law_is_told : Stmt := topS 36
theorem sc_law_is_told : FnScope ["_law_sheet_here", "_law_told", "_law_gains", "_law_columns", "_law_rights", "_law_fits_here", "_law_column", "_law_gained"] ["_law_sheet_here", "_law_told"] (defScope s_law_is_told) := ⟨rfl, rfl, rfl, by decide +kernel, rfl, by decide +kernel, by decide +kernel⟩
theorem d_law_is_told {P : Program} {w : World} {K : PySem.W.Frag} {mg : Str → Option Value} {base : Heap} {C_Board : Addr} (T : Txt K mg C_Board) (F_law_are_shares : Dfn P w K mg base CX0 "_law_are_shares" "_law_are_shares" s_law_are_shares 3 ["_law_thing", "_law_many"] c_lareshares34) (F_law_fits : Dfn P w K mg base CX0 "_law_fits" "_law_fits" s_law_fits 4 ["_law_columns", "_law_shares", "_law_rights"] c_lfits34) (F_law_worth : Dfn P w K mg base CX0 "_law_worth" "_law_worth" s_law_worth 3 ["_law_one", "_law_other"] c_worth) (F_law_less : Dfn P w K mg base CX0 "_law_less" "_law_less" s_law_less 1 ["_law_one", "_law_other"] c_under) {f : Addr} (cdv : Value) (A : Around) (outer : List Env) (s : Shared) (H : Hp) (E : XK) (hr : Room 4 (A.deeper (PyProof.Rows.envOfC "_law_is_told" (defScope s_law_is_told) s.heap.objs.size f cdv))) :
    DSs (cxOf CX0 P w K mg base ["_law_sheet_here", "_law_told", "_law_gains", "_law_columns", "_law_rights", "_law_fits_here", "_law_column", "_law_gained"] "_law_is_told" (defScope s_law_is_told) f cdv A outer s H E).nox W0 (defBody s_law_is_told) t_law_is_told :=
  (dss_cons (ds_asg (de_var 0) (pg_tup rfl (pgs_cons (pg_name (i := 2) sc_law_is_told.nd rfl (by first | exact Or.inl rfl | exact Or.inr rfl)) (pgs_cons (pg_name (i := 3) sc_law_is_told.nd rfl (by first | exact Or.inl rfl | exact Or.inr rfl)) (pgs_cons (pg_name (i := 4) sc_law_is_told.nd rfl (by first | exact Or.inl rfl | exact Or.inr rfl)) pgs_nil)))) (lg_tup (lg_cons lg_name (lg_cons lg_name (lg_cons lg_name lg_nil))) (ln_cons (ln_cons (ln_cons ln_nil)))))
    (dss_cons (ds_if (DW.dt (dw_or (dt_not (dt_tru (de_blt call_isi (l_isi (by decide)) T.b_isinstance (by decide +kernel) (da_cons (de_var 1) (da_cons (de_bltn T.b_tuple (by decide +kernel) rfl) da_nil))))) (dw_or (dt_lt (de_blt call_len l_len T.b_len (by decide +kernel) (da_cons (de_var 1) da_nil)) de_int) (dw_or1 (dt_not (dt_tru (de_call F_law_are_shares (hr.mono (by decide)) pw0 (da_cons (de_ix (de_var 1) de_int) (da_cons (de_blt call_len l_len T.b_len (by decide +kernel) (da_cons (de_var 3) da_nil)) da_nil))))))))) (dss_one (ds_ret de_bl)) dss_nil)
    (dss_cons (ds_if (dt_eq hr (de_ix (de_var 1) de_int) de_str) (dss_cons (ds_set (i := 5) sc_law_is_told.nd (de_call F_law_fits (hr.mono (by decide)) pw0 (da_cons (de_var 3) (da_cons (de_ix (de_var 1) de_int) (da_cons (de_mul (de_lst (da_cons (de_tup (da_cons de_int (da_cons de_int da_nil))) da_nil)) (de_blt call_len l_len T.b_len (by decide +kernel) (da_cons (de_var 4) da_nil))) da_nil)))))
    (dss_one (ds_ret (de_and (de_eq hr (de_blt call_len l_len T.b_len (by decide +kernel) (da_cons (de_var 1) da_nil)) de_int) (de_and (de_var 5) (de_one (de_gt (de_ix (de_call F_law_worth (hr.mono (by decide)) pw0 (da_cons (de_var 2) (da_cons (de_ix (de_var 1) de_int) da_nil))) de_int) de_int))))))) dss_nil)
    (dss_cons (ds_if (DW.dt (dw_or (dt_ne hr (de_ix (de_var 1) de_int) de_str) (dw_or (dt_ne hr (de_blt call_len l_len T.b_len (by decide +kernel) (da_cons (de_var 1) da_nil)) de_int) (dw_or1 (dt_not (dt_tru (de_call F_law_are_shares (hr.mono (by decide)) pw0 (da_cons (de_ix (de_var 1) de_int) (da_cons (de_blt call_len l_len T.b_len (by decide +kernel) (da_cons (de_var 4) da_nil)) da_nil))))))))) (dss_one (ds_ret de_bl)) dss_nil)
    (dss_cons (ds_for PassesOwn.never (di_zip2 T.b_zip (da_cons (de_var 3) (da_cons (de_var 2) da_nil))) (pg_tup rfl (pgs_cons (pg_name (i := 6) sc_law_is_told.nd rfl (by first | exact Or.inl rfl | exact Or.inr rfl)) (pgs_cons (pg_name (i := 7) sc_law_is_told.nd rfl (by first | exact Or.inl rfl | exact Or.inr rfl)) pgs_nil))) (lg_tup (lg_cons lg_name (lg_cons lg_name lg_nil)) (ln_cons (ln_cons ln_nil))) (dss_one (ds_if (dt_tru (de_call F_law_less (hr.mono (by decide)) pw0 (da_cons (de_call F_law_worth (hr.mono (by decide)) pw0 (da_cons (de_var 6) (da_cons (de_ix (de_var 1) de_int) da_nil))) (da_cons (de_var 7) da_nil)))) (dss_one (ds_ret de_bl)) dss_nil)))
    (dss_one (ds_ret (de_and (de_call F_law_fits (hr.mono (by decide)) pw0 (da_cons (de_var 3) (da_cons (de_ix (de_var 1) de_int) (da_cons (de_var 4) da_nil)))) (de_one (de_eq hr (de_call F_law_worth (hr.mono (by decide)) pw0 (da_cons (de_var 2) (da_cons (de_ix (de_var 1) de_int) da_nil))) (de_call F_law_worth (hr.mono (by decide)) pw0 (da_cons (de_var 4) (da_cons (de_ix (de_var 1) de_int) da_nil)))))))))))))
abbrev s_is_whole : Stmt := topS 2
theorem sc_is_whole : FnScope ["thing"] ["thing"] (defScope s_is_whole) := ⟨rfl, rfl, rfl, by decide +kernel, rfl, by decide +kernel, by decide +kernel⟩
theorem d_is_whole {P : Program} {w : World} {K : PySem.W.Frag} {mg : Str → Option Value} {base : Heap} {C_Board : Addr} (T : Txt K mg C_Board)  {f : Addr} (cdv : Value) (A : Around) (outer : List Env) (s : Shared) (H : Hp) (E : XK) (hr : Room 0 (A.deeper (PyProof.Rows.envOfC "is_whole" (defScope s_is_whole) s.heap.objs.size f cdv))) :
    DSs (cxOf CX0 P w K mg base ["thing"] "is_whole" (defScope s_is_whole) f cdv A outer s H E).nox W0 (defBody s_is_whole) t_is_whole :=
  (dss_one (ds_ret (de_and (de_blt call_isi (l_isi (by decide)) T.b_isinstance (by decide +kernel) (da_cons (de_var 0) (da_cons (de_bltn T.b_int (by decide +kernel) rfl) da_nil))) (de_one (de_not (de_blt call_isi (l_isi (by decide)) T.b_isinstance (by decide +kernel) (da_cons (de_var 0) (da_cons (de_bltn T.b_bool (by decide +kernel) rfl) da_nil))))))))
abbrev s_is_fraction : Stmt := topS 4
theorem sc_is_fraction : FnScope ["thing"] ["thing"] (defScope s_is_fraction) := ⟨rfl, rfl, rfl, by decide +kernel, rfl, by decide +kernel, by decide +kernel⟩
theorem d_is_fraction {P : Program} {w : World} {K : PySem.W.Frag} {mg : Str → Option Value} {base : Heap} {C_Board : Addr} (T : Txt K mg C_Board) (F_is_whole : Dfn P w K mg base CX0 "is_whole" "is_whole" s_is_whole 1 ["thing"] c_is_whole) (F_shared : Dfn P w K mg base CX0 "shared" "shared" s_shared 1 ["one", "other"] c_shared) {f : Addr} (cdv : Value) (A : Around) (outer : List Env) (s : Shared) (H : Hp) (E : XK) (hr : Room 1 (A.deeper (PyProof.Rows.envOfC "is_fraction" (defScope s_is_fraction) s.heap.objs.size f cdv))) :
    DSs (cxOf CX0 P w K mg base ["thing"] "is_fraction" (defScope s_is_fraction) f cdv A outer s H E).nox W0 (defBody s_is_fraction) t_is_fraction :=
  (dss_cons (ds_if (DW.dt (dw_or (dt_not (dt_tru (de_blt call_isi (l_isi (by decide)) T.b_isinstance (by decide +kernel) (da_cons (de_var 0) (da_cons (de_bltn T.b_tuple (by decide +kernel) rfl) da_nil))))) (dw_or (dt_ne hr (de_blt call_len l_len T.b_len (by decide +kernel) (da_cons (de_var 0) da_nil)) de_int) (dw_or (dt_not (dt_tru (de_call F_is_whole (hr.mono (by decide)) pw0 (da_cons (de_ix (de_var 0) de_int) da_nil)))) (dw_or1 (dt_not (dt_tru (de_call F_is_whole (hr.mono (by decide)) pw0 (da_cons (de_ix (de_var 0) de_int) da_nil))))))))) (dss_one (ds_ret de_bl)) dss_nil)
    (dss_one (ds_ret (de_and (de_ge (de_ix (de_var 0) de_int) de_int) (de_one (de_eq hr (de_call F_shared (hr.mono (by decide)) pw0 (da_cons (de_ix (de_var 0) de_int) (da_cons (de_ix (de_var 0) de_int) da_nil))) de_int))))))
abbrev s_are_shares : Stmt := topS 11
theorem sc_are_shares : FnScope ["thing", "many", "one"] ["thing", "many"] (defScope s_are_shares) := ⟨rfl, rfl, rfl, by decide +kernel, rfl, by decide +kernel, by decide +kernel⟩
theorem d_are_shares {P : Program} {w : World} {K : PySem.W.Frag} {mg : Str → Option Value} {base : Heap} {C_Board : Addr} (T : Txt K mg C_Board) (F_is_fraction : Dfn P w K mg base CX0 "is_fraction" "is_fraction" s_is_fraction 2 ["thing"] c_is_fraction) {f : Addr} (cdv : Value) (A : Around) (outer : List Env) (s : Shared) (H : Hp) (E : XK) (hr : Room 2 (A.deeper (PyProof.Rows.envOfC "are_shares" (defScope s_are_shares) s.heap.objs.size f cdv))) :
    DSs (cxOf CX0 P w K mg base ["thing", "many", "one"] "are_shares" (defScope s_are_shares) f cdv A outer s H E).nox W0 (defBody s_are_shares) t_are_shares :=
  (dss_cons (ds_if (DW.dt (dw_or (dt_not (dt_tru (de_blt call_isi (l_isi (by decide)) T.b_isinstance (by decide +kernel) (da_cons (de_var 0) (da_cons (de_bltn T.b_list (by decide +kernel) rfl) da_nil))))) (dw_or1 (dt_ne hr (de_blt call_len l_len T.b_len (by decide +kernel) (da_cons (de_var 0) da_nil)) (de_var 1))))) (dss_one (ds_ret de_bl)) dss_nil)
    (dss_one (ds_ret (de_blt (cr_all rfl) l_all T.b_all (by decide +kernel) (da_cons (de_lc (own := [("one", 2)]) sc_are_shares.nd (di_seq (de_var 0)) (blkOk_by (N := ["thing", "many", "one"]) (sc := defScope s_are_shares) (by decide +kernel)) lg_name (si_name (by decide)) (fun _ _ _ _ _ => (pg_name (i := 2) sc_are_shares.nd rfl (by first | exact Or.inl rfl | exact Or.inr rfl))) (fun _ _ _ _ _ => dts_nil) (fun _ _ _ _ _ => (de_and (de_call F_is_fraction (hr.mono (by decide)) pw0 (da_cons (de_var 2) da_nil)) (de_one (de_ge (de_ix (de_var 2) de_int) de_int))))) da_nil)))))
abbrev s_under : Stmt := topS 8
theorem sc_under : FnScope ["one", "other"] ["one", "other"] (defScope s_under) := ⟨rfl, rfl, rfl, by decide +kernel, rfl, by decide +kernel, by decide +kernel⟩
theorem d_under {P : Program} {w : World} {K : PySem.W.Frag} {mg : Str → Option Value} {base : Heap} {C_Board : Addr} (T : Txt K mg C_Board)  {f : Addr} (cdv : Value) (A : Around) (outer : List Env) (s : Shared) (H : Hp) (E : XK) (hr : Room 0 (A.deeper (PyProof.Rows.envOfC "under" (defScope s_under) s.heap.objs.size f cdv))) :
    DSs (cxOf CX0 P w K mg base ["one", "other"] "under" (defScope s_under) f cdv A outer s H E).nox W0 (defBody s_under) t_under :=
  (dss_one (ds_ret (de_lt (de_mul (de_ix (de_var 0) de_int) (de_ix (de_var 1) de_int)) (de_mul (de_ix (de_var 1) de_int) (de_ix (de_var 0) de_int)))))
abbrev s_plus : Stmt := topS 6
theorem sc_plus : FnScope ["one", "other"] ["one", "other"] (defScope s_plus) := ⟨rfl, rfl, rfl, by decide +kernel, rfl, by decide +kernel, by decide +kernel⟩
theorem d_plus {P : Program} {w : World} {K : PySem.W.Frag} {mg : Str → Option Value} {base : Heap} {C_Board : Addr} (T : Txt K mg C_Board) (F_lowest : Dfn P w K mg base CX0 "lowest" "lowest" s_lowest 2 ["top", "bottom"] c_lowest) {f : Addr} (cdv : Value) (A : Around) (outer : List Env) (s : Shared) (H : Hp) (E : XK) (hr : Room 2 (A.deeper (PyProof.Rows.envOfC "plus" (defScope s_plus) s.heap.objs.size f cdv))) :
    DSs (cxOf CX0 P w K mg base ["one", "other"] "plus" (defScope s_plus) f cdv A outer s H E).nox W0 (defBody s_plus) t_plus :=
  (dss_one (ds_ret (de_call F_lowest (hr.mono (by decide)) pw0 (da_cons (de_add (de_mul (de_ix (de_var 0) de_int) (de_ix (de_var 1) de_int)) (de_mul (de_ix (de_var 1) de_int) (de_ix (de_var 0) de_int))) (da_cons (de_mul (de_ix (de_var 0) de_int) (de_ix (de_var 1) de_int)) da_nil)))))
abbrev s_times : Stmt := topS 7
theorem sc_times : FnScope ["one", "other"] ["one", "other"] (defScope s_times) := ⟨rfl, rfl, rfl, by decide +kernel, rfl, by decide +kernel, by decide +kernel⟩
theorem d_times {P : Program} {w : World} {K : PySem.W.Frag} {mg : Str → Option Value} {base : Heap} {C_Board : Addr} (T : Txt K mg C_Board) (F_lowest : Dfn P w K mg base CX0 "lowest" "lowest" s_lowest 2 ["top", "bottom"] c_lowest) {f : Addr} (cdv : Value) (A : Around) (outer : List Env) (s : Shared) (H : Hp) (E : XK) (hr : Room 2 (A.deeper (PyProof.Rows.envOfC "times" (defScope s_times) s.heap.objs.size f cdv))) :
    DSs (cxOf CX0 P w K mg base ["one", "other"] "times" (defScope s_times) f cdv A outer s H E).nox W0 (defBody s_times) t_times :=
  (dss_one (ds_ret (de_call F_lowest (hr.mono (by decide)) pw0 (da_cons (de_mul (de_ix (de_var 0) de_int) (de_ix (de_var 1) de_int)) (da_cons (de_mul (de_ix (de_var 0) de_int) (de_ix (de_var 1) de_int)) da_nil)))))
abbrev s_worth : Stmt := topS 10
theorem sc_worth : FnScope ["one", "other", "found", "here", "there"] ["one", "other"] (defScope s_worth) := ⟨rfl, rfl, rfl, by decide +kernel, rfl, by decide +kernel, by decide +kernel⟩
theorem d_worth {P : Program} {w : World} {K : PySem.W.Frag} {mg : Str → Option Value} {base : Heap} {C_Board : Addr} (T : Txt K mg C_Board) (F_plus : Dfn P w K mg base CX0 "plus" "plus" s_plus 3 ["one", "other"] c_plus) (F_times : Dfn P w K mg base CX0 "times" "times" s_times 3 ["one", "other"] c_times) {f : Addr} (cdv : Value) (A : Around) (outer : List Env) (s : Shared) (H : Hp) (E : XK) (hr : Room 3 (A.deeper (PyProof.Rows.envOfC "worth" (defScope s_worth) s.heap.objs.size f cdv))) :
    DSs (cxOf CX0 P w K mg base ["one", "other", "found", "here", "there"] "worth" (defScope s_worth) f cdv A outer s H E).nox W0 (defBody s_worth) t_worth :=
  (dss_cons (ds_set (i := 2) sc_worth.nd (de_kc T.k_NOUGHT))
    (dss_cons (ds_for PassesOwn.never (di_zip2 T.b_zip (da_cons (de_var 0) (da_cons (de_var 1) da_nil))) (pg_tup rfl (pgs_cons (pg_name (i := 3) sc_worth.nd rfl (by first | exact Or.inl rfl | exact Or.inr rfl)) (pgs_cons (pg_name (i := 4) sc_worth.nd rfl (by first | exact Or.inl rfl | exact Or.inr rfl)) pgs_nil))) (lg_tup (lg_cons lg_name (lg_cons lg_name lg_nil)) (ln_cons (ln_cons ln_nil))) (dss_one (ds_if (DW.dt (dw_and (dt_ne hr (de_ix (de_var 3) de_int) de_int) (dw_and1 (dt_ne hr (de_ix (de_var 4) de_int) de_int)))) (dss_one (ds_set (i := 2) sc_worth.nd (de_call F_plus (hr.mono (by decide)) pw0 (da_cons (de_var 2) (da_cons (de_call F_times (hr.mono (by decide)) pw0 (da_cons (de_var 3) (da_cons (de_var 4) da_nil))) da_nil))))) dss_nil)))
    (dss_one (ds_ret (de_var 2)))))
abbrev s_come_to_at : Stmt := topS 12
theorem sc_come_to_at : FnScope ["columns", "shares", "place", "column"] ["columns", "shares", "place"] (defScope s_come_to_at) := ⟨rfl, rfl, rfl, by decide +kernel, rfl, by decide +kernel, by decide +kernel⟩
theorem d_come_to_at {P : Program} {w : World} {K : PySem.W.Frag} {mg : Str → Option Value} {base : Heap} {C_Board : Addr} (T : Txt K mg C_Board) (F_worth : Dfn P w K mg base CX0 "worth" "worth" s_worth 4 ["one", "other"] c_worth) {f : Addr} (cdv : Value) (A : Around) (outer : List Env) (s : Shared) (H : Hp) (E : XK) (hr : Room 4 (A.deeper (PyProof.Rows.envOfC "come_to_at" (defScope s_come_to_at) s.heap.objs.size f cdv))) :
    DSs (cxOf CX0 P w K mg base ["columns", "shares", "place", "column"] "come_to_at" (defScope s_come_to_at) f cdv A outer s H E).nox W0 (defBody s_come_to_at) t_come_to_at :=
  (dss_one (ds_ret (de_call F_worth (hr.mono (by decide)) pw0 (da_cons (de_lc (own := [("column", 3)]) sc_come_to_at.nd (di_seq (de_var 0)) (blkOk_by (N := ["columns", "shares", "place", "column"]) (sc := defScope s_come_to_at) (by decide +kernel)) lg_name (si_name (by decide)) (fun _ _ _ _ _ => (pg_name (i := 3) sc_come_to_at.nd rfl (by first | exact Or.inl rfl | exact Or.inr rfl))) (fun _ _ _ _ _ => dts_nil) (fun _ _ _ _ _ => (de_ix (de_var 3) (de_var 2)))) (da_cons (de_var 1) da_nil)))))
abbrev s_fit : Stmt := topS 13
theorem sc_fit : FnScope ["columns", "shares", "rights", "place", "right"] ["columns", "shares", "rights"] (defScope s_fit) := ⟨rfl, rfl, rfl, by decide +kernel, rfl, by decide +kernel, by decide +kernel⟩
theorem d_fit {P : Program} {w : World} {K : PySem.W.Frag} {mg : Str → Option Value} {base : Heap} {C_Board : Addr} (T : Txt K mg C_Board) (F_under : Dfn P w K mg base CX0 "under" "under" s_under 1 ["one", "other"] c_under) (F_come_to_at : Dfn P w K mg base CX0 "come_to_at" "come_to_at" s_come_to_at 5 ["columns", "shares", "place"] c_cometo) {f : Addr} (cdv : Value) (A : Around) (outer : List Env) (s : Shared) (H : Hp) (E : XK) (hr : Room 5 (A.deeper (PyProof.Rows.envOfC "fit" (defScope s_fit) s.heap.objs.size f cdv))) :
    DSs (cxOf CX0 P w K mg base ["columns", "shares", "rights", "place", "right"] "fit" (defScope s_fit) f cdv A outer s H E).nox W0 (defBody s_fit) t_fit :=
  (dss_one (ds_ret (de_blt (cr_all rfl) l_all T.b_all (by decide +kernel) (da_cons (de_lc (own := [("place", 3), ("right", 4)]) sc_fit.nd (di_enum T.b_enumerate (da_cons (de_var 2) da_nil)) (blkOk_by (N := ["columns", "shares", "rights", "place", "right"]) (sc := defScope s_fit) (by decide +kernel)) (lg_tup (lg_cons lg_name (lg_cons lg_name lg_nil)) (ln_cons (ln_cons ln_nil))) (si_tup (si_cons (si_name (by decide)) (si_cons (si_name (by decide)) si_nil))) (fun _ _ _ _ _ => (pg_tup rfl (pgs_cons (pg_name (i := 3) sc_fit.nd rfl (by first | exact Or.inl rfl | exact Or.inr rfl)) (pgs_cons (pg_name (i := 4) sc_fit.nd rfl (by first | exact Or.inl rfl | exact Or.inr rfl)) pgs_nil)))) (fun _ _ _ _ _ => dts_nil) (fun _ _ _ _ _ => (de_not (de_call F_under (hr.mono (by decide)) pw0 (da_cons (de_var 4) (da_cons (de_call F_come_to_at (hr.mono (by decide)) pw0 (da_cons (de_var 0) (da_cons (de_var 1) (da_cons (de_var 3) da_nil)))) da_nil)))))) da_nil))))
abbrev s_is_most : Stmt := topS 14
theorem sc_is_most : FnScope ["sheet", "shares", "prices", "gains", "columns", "rights", "column", "gain"] ["sheet", "shares", "prices"] (defScope s_is_most) := ⟨rfl, rfl, rfl, by decide +kernel, rfl, by decide +kernel, by decide +kernel⟩
theorem d_is_most {P : Program} {w : World} {K : PySem.W.Frag} {mg : Str → Option Value} {base : Heap} {C_Board : Addr} (T : Txt K mg C_Board) (F_are_shares : Dfn P w K mg base CX0 "are_shares" "are_shares" s_are_shares 3 ["thing", "many"] c_areshares) (F_fit : Dfn P w K mg base CX0 "fit" "fit" s_fit 6 ["columns", "shares", "rights"] c_fit) (F_under : Dfn P w K mg base CX0 "under" "under" s_under 1 ["one", "other"] c_under) (F_worth : Dfn P w K mg base CX0 "worth" "worth" s_worth 4 ["one", "other"] c_worth) {f : Addr} (cdv : Value) (A : Around) (outer : List Env) (s : Shared) (H : Hp) (E : XK) (hr : Room 6 (A.deeper (PyProof.Rows.envOfC "is_most" (defScope s_is_most) s.heap.objs.size f cdv))) :
    DSs (cxOf CX0 P w K mg base ["sheet", "shares", "prices", "gains", "columns", "rights", "column", "gain"] "is_most" (defScope s_is_most) f cdv A outer s H E).nox W0 (defBody s_is_most) t_is_most :=
  (dss_cons (ds_asg (de_var 0) (pg_tup rfl (pgs_cons (pg_name (i := 3) sc_is_most.nd rfl (by first | exact Or.inl rfl | exact Or.inr rfl)) (pgs_cons (pg_name (i := 4) sc_is_most.nd rfl (by first | exact Or.inl rfl | exact Or.inr rfl)) (pgs_cons (pg_name (i := 5) sc_is_most.nd rfl (by first | exact Or.inl rfl | exact Or.inr rfl)) pgs_nil)))) (lg_tup (lg_cons lg_name (lg_cons lg_name (lg_cons lg_name lg_nil))) (ln_cons (ln_cons (ln_cons ln_nil)))))
    (dss_cons (ds_if (DW.dt (dw_or (dt_not (dt_tru (de_call F_are_shares (hr.mono (by decide)) pw0 (da_cons (de_var 1) (da_cons (de_blt call_len l_len T.b_len (by decide +kernel) (da_cons (de_var 4) da_nil)) da_nil))))) (dw_or (dt_not (dt_tru (de_call F_are_shares (hr.mono (by decide)) pw0 (da_cons (de_var 2) (da_cons (de_blt call_len l_len T.b_len (by decide +kernel) (da_cons (de_var 5) da_nil)) da_nil))))) (dw_or1 (dt_not (dt_tru (de_call F_fit (hr.mono (by decide)) pw0 (da_cons (de_var 4) (da_cons (de_var 1) (da_cons (de_var 5) da_nil)))))))))) (dss_one (ds_ret de_bl)) dss_nil)
    (dss_cons (ds_if (dt_not (dt_tru (de_blt (cr_all rfl) l_all T.b_all (by decide +kernel) (da_cons (de_lc (own := [("column", 6), ("gain", 7)]) sc_is_most.nd (di_zip2 T.b_zip (da_cons (de_var 4) (da_cons (de_var 3) da_nil))) (blkOk_by (N := ["sheet", "shares", "prices", "gains", "columns", "rights", "column", "gain"]) (sc := defScope s_is_most) (by decide +kernel)) (lg_tup (lg_cons lg_name (lg_cons lg_name lg_nil)) (ln_cons (ln_cons ln_nil))) (si_tup (si_cons (si_name (by decide)) (si_cons (si_name (by decide)) si_nil))) (fun _ _ _ _ _ => (pg_tup rfl (pgs_cons (pg_name (i := 6) sc_is_most.nd rfl (by first | exact Or.inl rfl | exact Or.inr rfl)) (pgs_cons (pg_name (i := 7) sc_is_most.nd rfl (by first | exact Or.inl rfl | exact Or.inr rfl)) pgs_nil)))) (fun _ _ _ _ _ => dts_nil) (fun _ _ _ _ _ => (de_not (de_call F_under (hr.mono (by decide)) pw0 (da_cons (de_call F_worth (hr.mono (by decide)) pw0 (da_cons (de_var 6) (da_cons (de_var 2) da_nil))) (da_cons (de_var 7) da_nil)))))) da_nil)))) (dss_one (ds_ret de_bl)) dss_nil)
    (dss_one (ds_ret (de_eq hr (de_call F_worth (hr.mono (by decide)) pw0 (da_cons (de_var 5) (da_cons (de_var 2) da_nil))) (de_call F_worth (hr.mono (by decide)) pw0 (da_cons (de_var 3) (da_cons (de_var 1) da_nil)))))))))
abbrev s_is_endless : Stmt := topS 15
theorem sc_is_endless : FnScope ["sheet", "shares", "gains", "columns", "rights"] ["sheet", "shares"] (defScope s_is_endless) := ⟨rfl, rfl, rfl, by decide +kernel, rfl, by decide +kernel, by decide +kernel⟩
theorem d_is_endless {P : Program} {w : World} {K : PySem.W.Frag} {mg : Str → Option Value} {base : Heap} {C_Board : Addr} (T : Txt K mg C_Board) (F_are_shares : Dfn P w K mg base CX0 "are_shares" "are_shares" s_are_shares 3 ["thing", "many"] c_areshares) (F_fit : Dfn P w K mg base CX0 "fit" "fit" s_fit 6 ["columns", "shares", "rights"] c_fit) (F_under : Dfn P w K mg base CX0 "under" "under" s_under 1 ["one", "other"] c_under) (F_worth : Dfn P w K mg base CX0 "worth" "worth" s_worth 4 ["one", "other"] c_worth) {f : Addr} (cdv : Value) (A : Around) (outer : List Env) (s : Shared) (H : Hp) (E : XK) (hr : Room 6 (A.deeper (PyProof.Rows.envOfC "is_endless" (defScope s_is_endless) s.heap.objs.size f cdv))) :
    DSs (cxOf CX0 P w K mg base ["sheet", "shares", "gains", "columns", "rights"] "is_endless" (defScope s_is_endless) f cdv A outer s H E).nox W0 (defBody s_is_endless) t_is_endless :=
  (dss_cons (ds_asg (de_var 0) (pg_tup rfl (pgs_cons (pg_name (i := 2) sc_is_endless.nd rfl (by first | exact Or.inl rfl | exact Or.inr rfl)) (pgs_cons (pg_name (i := 3) sc_is_endless.nd rfl (by first | exact Or.inl rfl | exact Or.inr rfl)) (pgs_cons (pg_name (i := 4) sc_is_endless.nd rfl (by first | exact Or.inl rfl | exact Or.inr rfl)) pgs_nil)))) (lg_tup (lg_cons lg_name (lg_cons lg_name (lg_cons lg_name lg_nil))) (ln_cons (ln_cons (ln_cons ln_nil)))))
    (dss_cons (ds_if (DW.dt (dw_or (dt_not (dt_tru (de_call F_are_shares (hr.mono (by decide)) pw0 (da_cons (de_var 1) (da_cons (de_blt call_len l_len T.b_len (by decide +kernel) (da_cons (de_var 3) da_nil)) da_nil))))) (dw_or1 (dt_not (dt_tru (de_call F_fit (hr.mono (by decide)) pw0 (da_cons (de_var 3) (da_cons (de_var 1) (da_cons (de_mul (de_lst (da_cons (de_kc T.k_NOUGHT) da_nil)) (de_blt call_len l_len T.b_len (by decide +kernel) (da_cons (de_var 4) da_nil))) da_nil))))))))) (dss_one (ds_ret de_bl)) dss_nil)
    (dss_one (ds_ret (de_call F_under (hr.mono (by decide)) pw0 (da_cons (de_kc T.k_NOUGHT) (da_cons (de_call F_worth (hr.mono (by decide)) pw0 (da_cons (de_var 2) (da_cons (de_var 1) da_nil))) da_nil)))))))
abbrev s_lets_most : Stmt := topS 16
theorem sc_lets_most : FnScope ["sheet", "thing"] ["sheet", "thing"] (defScope s_lets_most) := ⟨rfl, rfl, rfl, by decide +kernel, rfl, by decide +kernel, by decide +kernel⟩
theorem d_lets_most {P : Program} {w : World} {K : PySem.W.Frag} {mg : Str → Option Value} {base : Heap} {C_Board : Addr} (T : Txt K mg C_Board) (F_is_most : Dfn P w K mg base CX0 "is_most" "is_most" s_is_most 7 ["sheet", "shares", "prices"] c_ismost) (F_is_endless : Dfn P w K mg base CX0 "is_endless" "is_endless" s_is_endless 7 ["sheet", "shares"] c_isendless) {f : Addr} (cdv : Value) (A : Around) (outer : List Env) (s : Shared) (H : Hp) (E : XK) (hr : Room 7 (A.deeper (PyProof.Rows.envOfC "lets_most" (defScope s_lets_most) s.heap.objs.size f cdv))) :
    DSs (cxOf CX0 P w K mg base ["sheet", "thing"] "lets_most" (defScope s_lets_most) f cdv A outer s H E).nox W0 (defBody s_lets_most) t_lets_most :=
  (dss_cons (ds_if (DW.dt (dw_or (dt_not (dt_tru (de_blt call_isi (l_isi (by decide)) T.b_isinstance (by decide +kernel) (da_cons (de_var 1) (da_cons (de_bltn T.b_tuple (by decide +kernel) rfl) da_nil))))) (dw_or (dt_not (dt_chain op_le (l_I0 fun _ _ _ => .bl _) op_le (l_I0 fun _ _ _ => .bl _) de_int (de_blt call_len l_len T.b_len (by decide +kernel) (da_cons (de_var 1) da_nil)) de_int)) (dw_or1 (dt_not (dt_tru (de_blt call_isi (l_isi (by decide)) T.b_isinstance (by decide +kernel) (da_cons (de_ix (de_var 1) de_int) (da_cons (de_bltn T.b_str (by decide +kernel) rfl) da_nil))))))))) (dss_one (ds_ret de_bl)) dss_nil)
    (dss_cons (ds_if (dt_eq hr (de_ix (de_var 1) de_int) de_str) (dss_one (ds_ret (de_and (de_eq hr (de_blt call_len l_len T.b_len (by decide +kernel) (da_cons (de_var 1) da_nil)) de_int) (de_one (de_call F_is_most (hr.mono (by decide)) pw0 (da_cons (de_var 0) (da_cons (de_ix (de_var 1) de_int) (da_cons (de_ix (de_var 1) de_int) da_nil)))))))) dss_nil)
    (dss_one (ds_ret (de_and (de_eq hr (de_ix (de_var 1) de_int) de_str) (de_and (de_eq hr (de_blt call_len l_len T.b_len (by decide +kernel) (da_cons (de_var 1) da_nil)) de_int) (de_one (de_call F_is_endless (hr.mono (by decide)) pw0 (da_cons (de_var 0) (da_cons (de_ix (de_var 1) de_int) da_nil))))))))))
abbrev s_law : Stmt := topS 38
theorem sc_law : FnScope ["_law_script", "_law_k", "_law_pool_here", "_law_sheet_here", "_law_told", "_law_noughts", "_law_kept", "_law_turn", "_law_at", "_law_thing", "_law_was", "_law_due", "_law_found"] ["_law_script"] (defScope s_law) := ⟨rfl, rfl, rfl, by decide +kernel, rfl, by decide +kernel, by decide +kernel⟩
theorem d_law {P : Program} {w : World} {K : PySem.W.Frag} {mg : Str → Option Value} {base : Heap} {C_Board : Addr} (T : Txt K mg C_Board) (F_law_pool : Dfn P w K mg base CX0 "_law_pool" "_law_pool" s_law_pool 2 ["_law_script", "_law_k"] c_pool) (F_law_sheet : Dfn P w K mg base CX0 "_law_sheet" "_law_sheet" s_law_sheet 3 ["_law_pool_here"] K33.c_lsheet) (F_most_of : Dfn P w K mg base CX0 "most_of" "most_of" s_most_of 5 ["sheet"] (c_mostof C_Board)) (F_law_take : Dfn P w K mg base CX0 "_law_take" "_law_take" s_law_take 1 ["_law_pool_here", "_law_many"] c_take) (F_law_bent : Dfn P w K mg base CX0 "_law_bent" "_law_bent" s_law_bent 4 ["_law_told", "_law_pool_here"] c_lbent) (F_law_is_told : Dfn P w K mg base CX0 "_law_is_told" "_law_is_told" s_law_is_told 5 ["_law_sheet_here", "_law_told"] c_listold34) (F_lets_most : Dfn P w K mg base CX0 "lets_most" "lets_most" s_lets_most 8 ["sheet", "thing"] c_letsmost) {f : Addr} (cdv : Value) (A : Around) (outer : List Env) (s : Shared) (H : Hp) (E : XK) (hG : A.guards = some []) (hr : Room 8 (A.deeper (PyProof.Rows.envOfC "law" (defScope s_law) s.heap.objs.size f cdv))) :
    DSs (cxOf CX0 P w K mg base ["_law_script", "_law_k", "_law_pool_here", "_law_sheet_here", "_law_told", "_law_noughts", "_law_kept", "_law_turn", "_law_at", "_law_thing", "_law_was", "_law_due", "_law_found"] "law" (defScope s_law) f cdv A outer s H E).nox W0 (defBody s_law) (t_law C_Board) :=
  (dss_cons (ds_for PassesOwn.never (di_range1 T.b_range (da_cons (de_blt (call_max2 rfl) l_max2 T.b_max (by decide +kernel) (da_cons de_int (da_cons (de_blt (call_min2 rfl) l_min2 T.b_min (by decide +kernel) (da_cons (de_blt call_len l_len T.b_len (by decide +kernel) (da_cons (de_var 0) da_nil)) (da_cons de_int da_nil))) da_nil))) da_nil)) (pg_name (i := 1) sc_law.nd rfl (by first | exact Or.inl rfl | exact Or.inr rfl)) lg_name (dss_cons (ds_set (i := 2) sc_law.nd (de_call F_law_pool (hr.mono (by decide)) pw0 (da_cons (de_var 0) (da_cons (de_var 1) da_nil))))
    (dss_cons (ds_set (i := 3) sc_law.nd (de_call F_law_sheet (hr.mono (by decide)) pw0 (da_cons (de_var 2) da_nil)))
    (dss_cons (ds_set (i := 4) sc_law.nd (de_fzD (de_call F_most_of (hr.mono (by decide)) pw0 (da_cons (de_var 3) da_nil))))
    (dss_cons (ds_set (i := 5) sc_law.nd (de_tup (da_cons de_str (da_cons (de_mul (de_lst (da_cons (de_tup (da_cons de_int (da_cons de_int da_nil))) da_nil)) (de_blt call_len l_len T.b_len (by decide +kernel) (da_cons (de_ix (de_var 3) de_int) da_nil))) (da_cons (de_mul (de_lst (da_cons (de_tup (da_cons de_int (da_cons de_int da_nil))) da_nil)) (de_blt call_len l_len T.b_len (by decide +kernel) (da_cons (de_ix (de_var 3) de_int) da_nil))) da_nil)))))
    (dss_cons (ds_set (i := 6) sc_law.nd (de_blt (call_reprE hG hr) l_reprE T.b_repr (by decide +kernel) (da_cons (de_var 3) da_nil)))
    (dss_cons (ds_for PassesOwn.never (di_range1 T.b_range (da_cons de_int da_nil)) (pg_name (i := 7) sc_law.nd rfl (by first | exact Or.inl rfl | exact Or.inr rfl)) lg_name (dss_cons (ds_set (i := 8) sc_law.nd (de_add (de_fdiv (de_call F_law_take (hr.mono (by decide)) pw0 (da_cons (de_var 2) (da_cons de_int da_nil))) de_int) (de_fdiv (de_var 7) de_int)))
    (dss_cons (ds_set (i := 9) sc_law.nd (de_ix (de_lst (da_cons (de_call F_law_bent (hr.mono (by decide)) pw0 (da_cons (de_var 4) (da_cons (de_var 2) da_nil))) (da_cons (de_call F_law_bent (hr.mono (by decide)) pw0 (da_cons (de_var 5) (da_cons (de_var 2) da_nil))) (da_cons (de_var 5) da_nil)))) (de_var 8)))
    (dss_cons (ds_set (i := 10) sc_law.nd (de_blt (call_reprE hG hr) l_reprE T.b_repr (by decide +kernel) (da_cons (de_var 9) da_nil)))
    (dss_cons (ds_set (i := 11) sc_law.nd (de_and (de_blt call_isi (l_isi (by decide)) T.b_isinstance (by decide +kernel) (da_cons (de_var 9) (da_cons (de_bltn T.b_tuple (by decide +kernel) rfl) da_nil))) (de_one (de_call F_law_is_told (hr.mono (by decide)) pw0 (da_cons (de_var 3) (da_cons (de_var 9) da_nil))))))
    (dss_cons (ds_set (i := 12) sc_law.nd (de_call F_lets_most (hr.mono (by decide)) pw0 (da_cons (de_var 3) (da_cons (de_var 9) da_nil))))
    (dss_one (ds_if (DW.dt (dw_or (dt_not (dt_tru (de_blt call_isi (l_isi (by decide)) T.b_isinstance (by decide +kernel) (da_cons (de_var 12) (da_cons (de_bltn T.b_bool (by decide +kernel) rfl) da_nil))))) (dw_or (dt_ne hr (de_var 12) (de_var 11)) (dw_or (dt_neS (de_blt (call_reprE hG hr) l_reprE T.b_repr (by decide +kernel) (da_cons (de_var 9) da_nil)) (de_var 10)) (dw_or1 (dt_neS (de_blt (call_reprE hG hr) l_reprE T.b_repr (by decide +kernel) (da_cons (de_var 3) da_nil)) (de_var 6))))))) (dss_one (ds_ret de_bl)) dss_nil))))))))
    (dss_one (ds_if (dt_isnot (de_call F_lets_most (hr.mono (by decide)) pw0 (da_cons (de_var 3) (da_cons (de_var 4) da_nil))) de_bl) (dss_one (ds_ret de_bl)) dss_nil)))))))))
    (dss_one (ds_ret de_bl)))
theorem ok_law_cell_at {P : Program} {w : World} {K : PySem.W.Frag} {mg : Str → Option Value} {base : Heap} {C_Board : Addr} {f : Addr} {fd : FuncData} (F : Fun K "_law_cell_at" "_law_cell_at" s_law_cell_at f fd) (hm : mg "_law_cell_at" = some (.ref f)) (bn : Binds K fd ["_law_script", "_law_k"] []) (T : Txt K mg C_Board)  :
    Dfn P w K mg base CX0 "_law_cell_at" "_law_cell_at" s_law_cell_at 1 ["_law_script", "_law_k"] c_cell_at :=
  dfnA (m := 2) F hm bn sc_law_cell_at (by intro ds μ Q X h; first | (obtain ⟨_, _, _, _, ⟨_, _, rfl, _⟩ | ⟨_, _, rfl, _⟩⟩ := h <;> rfl) | (obtain ⟨_, rfl, _⟩ := h; rfl) | (obtain ⟨_, _, rfl, _⟩ := h; rfl) | (obtain ⟨_, _, _, rfl, _⟩ := h; rfl) | (obtain ⟨_, _, _, _, rfl, _⟩ := h; rfl) | (obtain ⟨_, _, _, _, _, rfl, _⟩ := h; rfl) | (obtain ⟨_, _, _, _, _, _, rfl, _⟩ := h; rfl) | (obtain ⟨_, _, _, _, _, _, _, rfl, _⟩ := h; rfl) | (obtain ⟨_, _, _, _, _, _, _, _, rfl, _⟩ := h; rfl) | (obtain ⟨rfl, _⟩ := h; rfl)) (hb_law_cell_at) (d_law_cell_at T )
theorem ok_law_pool {P : Program} {w : World} {K : PySem.W.Frag} {mg : Str → Option Value} {base : Heap} {C_Board : Addr} {f : Addr} {fd : FuncData} (F : Fun K "_law_pool" "_law_pool" s_law_pool f fd) (hm : mg "_law_pool" = some (.ref f)) (bn : Binds K fd ["_law_script", "_law_k"] []) (T : Txt K mg C_Board) (F_law_cell_at : Dfn P w K mg base CX0 "_law_cell_at" "_law_cell_at" s_law_cell_at 1 ["_law_script", "_law_k"] c_cell_at) :
    Dfn P w K mg base CX0 "_law_pool" "_law_pool" s_law_pool 2 ["_law_script", "_law_k"] c_pool :=
  dfnA (m := 2) F hm bn sc_law_pool (by intro ds μ Q X h; first | (obtain ⟨_, _, _, _, ⟨_, _, rfl, _⟩ | ⟨_, _, rfl, _⟩⟩ := h <;> rfl) | (obtain ⟨_, rfl, _⟩ := h; rfl) | (obtain ⟨_, _, rfl, _⟩ := h; rfl) | (obtain ⟨_, _, _, rfl, _⟩ := h; rfl) | (obtain ⟨_, _, _, _, rfl, _⟩ := h; rfl) | (obtain ⟨_, _, _, _, _, rfl, _⟩ := h; rfl) | (obtain ⟨_, _, _, _, _, _, rfl, _⟩ := h; rfl) | (obtain ⟨_, _, _, _, _, _, _, rfl, _⟩ := h; rfl) | (obtain ⟨_, _, _, _, _, _, _, _, rfl, _⟩ := h; rfl) | (obtain ⟨rfl, _⟩ := h; rfl)) (hb_law_pool) (d_law_pool T F_law_cell_at)
theorem ok_law_take {P : Program} {w : World} {K : PySem.W.Frag} {mg : Str → Option Value} {base : Heap} {C_Board : Addr} {f : Addr} {fd : FuncData} (F : Fun K "_law_take" "_law_take" s_law_take f fd) (hm : mg "_law_take" = some (.ref f)) (bn : Binds K fd ["_law_pool_here", "_law_many"] []) (T : Txt K mg C_Board)  :
    Dfn P w K mg base CX0 "_law_take" "_law_take" s_law_take 1 ["_law_pool_here", "_law_many"] c_take :=
  dfnA (m := 2) F hm bn sc_law_take (by intro ds μ Q X h; first | (obtain ⟨_, _, _, _, ⟨_, _, rfl, _⟩ | ⟨_, _, rfl, _⟩⟩ := h <;> rfl) | (obtain ⟨_, rfl, _⟩ := h; rfl) | (obtain ⟨_, _, rfl, _⟩ := h; rfl) | (obtain ⟨_, _, _, rfl, _⟩ := h; rfl) | (obtain ⟨_, _, _, _, rfl, _⟩ := h; rfl) | (obtain ⟨_, _, _, _, _, rfl, _⟩ := h; rfl) | (obtain ⟨_, _, _, _, _, _, rfl, _⟩ := h; rfl) | (obtain ⟨_, _, _, _, _, _, _, rfl, _⟩ := h; rfl) | (obtain ⟨_, _, _, _, _, _, _, _, rfl, _⟩ := h; rfl) | (obtain ⟨rfl, _⟩ := h; rfl)) (hb_law_take) (d_law_take T )
theorem ok_law_low {P : Program} {w : World} {K : PySem.W.Frag} {mg : Str → Option Value} {base : Heap} {C_Board : Addr} {f : Addr} {fd : FuncData} (F : Fun K "_law_low" "_law_low" s_law_low f fd) (hm : mg "_law_low" = some (.ref f)) (bn : Binds K fd ["_law_top", "_law_bottom"] []) (T : Txt K mg C_Board)  :
    Dfn P w K mg base CX0 "_law_low" "_law_low" s_law_low 1 ["_law_top", "_law_bottom"] c_low :=
  dfnA (m := 2) F hm bn sc_law_low (by intro ds μ Q X h; first | (obtain ⟨_, _, _, _, ⟨_, _, rfl, _⟩ | ⟨_, _, rfl, _⟩⟩ := h <;> rfl) | (obtain ⟨_, rfl, _⟩ := h; rfl) | (obtain ⟨_, _, rfl, _⟩ := h; rfl) | (obtain ⟨_, _, _, rfl, _⟩ := h; rfl) | (obtain ⟨_, _, _, _, rfl, _⟩ := h; rfl) | (obtain ⟨_, _, _, _, _, rfl, _⟩ := h; rfl) | (obtain ⟨_, _, _, _, _, _, rfl, _⟩ := h; rfl) | (obtain ⟨_, _, _, _, _, _, _, rfl, _⟩ := h; rfl) | (obtain ⟨_, _, _, _, _, _, _, _, rfl, _⟩ := h; rfl) | (obtain ⟨rfl, _⟩ := h; rfl)) (hb_law_low) (d_law_low T )
theorem ok_law_part {P : Program} {w : World} {K : PySem.W.Frag} {mg : Str → Option Value} {base : Heap} {C_Board : Addr} {f : Addr} {fd : FuncData} (F : Fun K "_law_part" "_law_part" s_law_part f fd) (hm : mg "_law_part" = some (.ref f)) (bn : Binds K fd ["_law_pool_here"] []) (T : Txt K mg C_Board) (F_law_take : Dfn P w K mg base CX0 "_law_take" "_law_take" s_law_take 1 ["_law_pool_here", "_law_many"] c_take) (F_law_low : Dfn P w K mg base CX0 "_law_low" "_law_low" s_law_low 1 ["_law_top", "_law_bottom"] c_low) :
    Dfn P w K mg base CX0 "_law_part" "_law_part" s_law_part 2 ["_law_pool_here"] K33.c_lpart :=
  dfnA (m := 1) F hm bn sc_law_part (by intro ds μ Q X h; first | (obtain ⟨_, _, _, _, ⟨_, _, rfl, _⟩ | ⟨_, _, rfl, _⟩⟩ := h <;> rfl) | (obtain ⟨_, rfl, _⟩ := h; rfl) | (obtain ⟨_, _, rfl, _⟩ := h; rfl) | (obtain ⟨_, _, _, rfl, _⟩ := h; rfl) | (obtain ⟨_, _, _, _, rfl, _⟩ := h; rfl) | (obtain ⟨_, _, _, _, _, rfl, _⟩ := h; rfl) | (obtain ⟨_, _, _, _, _, _, rfl, _⟩ := h; rfl) | (obtain ⟨_, _, _, _, _, _, _, rfl, _⟩ := h; rfl) | (obtain ⟨_, _, _, _, _, _, _, _, rfl, _⟩ := h; rfl) | (obtain ⟨rfl, _⟩ := h; rfl)) (hb_law_part) (d_law_part T F_law_take F_law_low)
theorem ok_law_sheet {P : Program} {w : World} {K : PySem.W.Frag} {mg : Str → Option Value} {base : Heap} {C_Board : Addr} {f : Addr} {fd : FuncData} (F : Fun K "_law_sheet" "_law_sheet" s_law_sheet f fd) (hm : mg "_law_sheet" = some (.ref f)) (bn : Binds K fd ["_law_pool_here"] []) (T : Txt K mg C_Board) (F_law_take : Dfn P w K mg base CX0 "_law_take" "_law_take" s_law_take 1 ["_law_pool_here", "_law_many"] c_take) (F_law_part : Dfn P w K mg base CX0 "_law_part" "_law_part" s_law_part 2 ["_law_pool_here"] K33.c_lpart) :
    Dfn P w K mg base CX0 "_law_sheet" "_law_sheet" s_law_sheet 3 ["_law_pool_here"] K33.c_lsheet :=
  dfnA (m := 1) F hm bn sc_law_sheet (by intro ds μ Q X h; first | (obtain ⟨_, _, _, _, ⟨_, _, rfl, _⟩ | ⟨_, _, rfl, _⟩⟩ := h <;> rfl) | (obtain ⟨_, rfl, _⟩ := h; rfl) | (obtain ⟨_, _, rfl, _⟩ := h; rfl) | (obtain ⟨_, _, _, rfl, _⟩ := h; rfl) | (obtain ⟨_, _, _, _, rfl, _⟩ := h; rfl) | (obtain ⟨_, _, _, _, _, rfl, _⟩ := h; rfl) | (obtain ⟨_, _, _, _, _, _, rfl, _⟩ := h; rfl) | (obtain ⟨_, _, _, _, _, _, _, rfl, _⟩ := h; rfl) | (obtain ⟨_, _, _, _, _, _, _, _, rfl, _⟩ := h; rfl) | (obtain ⟨rfl, _⟩ := h; rfl)) (hb_law_sheet) (d_law_sheet T F_law_take F_law_part)
theorem ok_shared {P : Program} {w : World} {K : PySem.W.Frag} {mg : Str → Option Value} {base : Heap} {C_Board : Addr} {f : Addr} {fd : FuncData} (F : Fun K "shared" "shared" s_shared f fd) (hm : mg "shared" = some (.ref f)) (bn : Binds K fd ["one", "other"] []) (T : Txt K mg C_Board)  :
    Dfn P w K mg base CX0 "shared" "shared" s_shared 1 ["one", "other"] c_shared :=
  dfnA (m := 2) F hm bn sc_shared (by intro ds μ Q X h; first | (obtain ⟨_, _, _, _, ⟨_, _, rfl, _⟩ | ⟨_, _, rfl, _⟩⟩ := h <;> rfl) | (obtain ⟨_, rfl, _⟩ := h; rfl) | (obtain ⟨_, _, rfl, _⟩ := h; rfl) | (obtain ⟨_, _, _, rfl, _⟩ := h; rfl) | (obtain ⟨_, _, _, _, rfl, _⟩ := h; rfl) | (obtain ⟨_, _, _, _, _, rfl, _⟩ := h; rfl) | (obtain ⟨_, _, _, _, _, _, rfl, _⟩ := h; rfl) | (obtain ⟨_, _, _, _, _, _, _, rfl, _⟩ := h; rfl) | (obtain ⟨_, _, _, _, _, _, _, _, rfl, _⟩ := h; rfl) | (obtain ⟨rfl, _⟩ := h; rfl)) (hb_shared) (d_shared T )
theorem ok_common {P : Program} {w : World} {K : PySem.W.Frag} {mg : Str → Option Value} {base : Heap} {C_Board : Addr} {f : Addr} {fd : FuncData} (F : Fun K "common" "common" s_common f fd) (hm : mg "common" = some (.ref f)) (bn : Binds K fd ["some"] []) (T : Txt K mg C_Board) (F_shared : Dfn P w K mg base CX0 "shared" "shared" s_shared 1 ["one", "other"] c_shared) :
    Dfn P w K mg base CX0 "common" "common" s_common 2 ["some"] c_common :=
  dfnA (m := 1) F hm bn sc_common (by intro ds μ Q X h; first | (obtain ⟨_, _, _, _, ⟨_, _, rfl, _⟩ | ⟨_, _, rfl, _⟩⟩ := h <;> rfl) | (obtain ⟨_, rfl, _⟩ := h; rfl) | (obtain ⟨_, _, rfl, _⟩ := h; rfl) | (obtain ⟨_, _, _, rfl, _⟩ := h; rfl) | (obtain ⟨_, _, _, _, rfl, _⟩ := h; rfl) | (obtain ⟨_, _, _, _, _, rfl, _⟩ := h; rfl) | (obtain ⟨_, _, _, _, _, _, rfl, _⟩ := h; rfl) | (obtain ⟨_, _, _, _, _, _, _, rfl, _⟩ := h; rfl) | (obtain ⟨_, _, _, _, _, _, _, _, rfl, _⟩ := h; rfl) | (obtain ⟨rfl, _⟩ := h; rfl)) (hb_common) (d_common T F_shared)
theorem ok_Board___init__ {P : Program} {w : World} {K : PySem.W.Frag} {mg : Str → Option Value} {base : Heap} {C_Board : Addr} {f : Addr} {fd : FuncData} (F : Fun K "__init__" "Board.__init__" s_Board___init__ f fd) (gC : mg "Board" = some (.ref C_Board)) (mt : Mk K C_Board f) (bn : Binds K fd ["self", "rights"] []) (T : Txt K mg C_Board) (F_common : Dfn P w K mg base CX0 "common" "common" s_common 2 ["some"] c_common) :
    DfnIe P w K mg base CX0 "Board" C_Board "Board.__init__" s_Board___init__ 3 ["self", "rights"] (c_binit C_Board) :=
  ⟨gC, f, fd, F, mt, fnok_A (m := 2) F sc_Board___init__ (by intro ds μ Q X h; first | (obtain ⟨_, _, _, _, ⟨_, _, rfl, _⟩ | ⟨_, _, rfl, _⟩⟩ := h <;> rfl) | (obtain ⟨_, rfl, _⟩ := h; rfl) | (obtain ⟨_, _, rfl, _⟩ := h; rfl) | (obtain ⟨_, _, _, rfl, _⟩ := h; rfl) | (obtain ⟨_, _, _, _, rfl, _⟩ := h; rfl) | (obtain ⟨_, _, _, _, _, rfl, _⟩ := h; rfl) | (obtain ⟨_, _, _, _, _, _, rfl, _⟩ := h; rfl) | (obtain ⟨_, _, _, _, _, _, _, rfl, _⟩ := h; rfl) | (obtain ⟨_, _, _, _, _, _, _, _, rfl, _⟩ := h; rfl) | (obtain ⟨rfl, _⟩ := h; rfl)) (hb_Board___init__) (d_Board___init__ T F_common), bn⟩
theorem ok_Board_add {P : Program} {w : World} {K : PySem.W.Frag} {mg : Str → Option Value} {base : Heap} {C_Board : Addr} {f : Addr} {fd : FuncData} (F : Fun K "add" "Board.add" s_Board_add f fd) (mt : Meth K C_Board "add" f) (bn : Binds K fd ["self", "gain", "column"] []) (T : Txt K mg C_Board) (F_common : Dfn P w K mg base CX0 "common" "common" s_common 2 ["some"] c_common) :
    DfnMe P w K mg base CX0 C_Board "add" "Board.add" s_Board_add 3 ["self", "gain", "column"] (c_badd C_Board) :=
  ⟨f, fd, F, mt, fnok_A (m := 3) F sc_Board_add (by intro ds μ Q X h; first | (obtain ⟨_, _, _, _, ⟨_, _, rfl, _⟩ | ⟨_, _, rfl, _⟩⟩ := h <;> rfl) | (obtain ⟨_, rfl, _⟩ := h; rfl) | (obtain ⟨_, _, rfl, _⟩ := h; rfl) | (obtain ⟨_, _, _, rfl, _⟩ := h; rfl) | (obtain ⟨_, _, _, _, rfl, _⟩ := h; rfl) | (obtain ⟨_, _, _, _, _, rfl, _⟩ := h; rfl) | (obtain ⟨_, _, _, _, _, _, rfl, _⟩ := h; rfl) | (obtain ⟨_, _, _, _, _, _, _, rfl, _⟩ := h; rfl) | (obtain ⟨_, _, _, _, _, _, _, _, rfl, _⟩ := h; rfl) | (obtain ⟨rfl, _⟩ := h; rfl)) (hb_Board_add) (d_Board_add T F_common), bn⟩
theorem ok_Board_wanted {P : Program} {w : World} {K : PySem.W.Frag} {mg : Str → Option Value} {base : Heap} {C_Board : Addr} {f : Addr} {fd : FuncData} (F : Fun K "wanted" "Board.wanted" s_Board_wanted f fd) (mt : Meth K C_Board "wanted" f) (bn : Binds K fd ["self"] []) (T : Txt K mg C_Board)  :
    DfnMe P w K mg base CX0 C_Board "wanted" "Board.wanted" s_Board_wanted 1 ["self"] (c_bwanted C_Board) :=
  ⟨f, fd, F, mt, fnok_A (m := 1) F sc_Board_wanted (by intro ds μ Q X h; first | (obtain ⟨_, _, _, _, ⟨_, _, rfl, _⟩ | ⟨_, _, rfl, _⟩⟩ := h <;> rfl) | (obtain ⟨_, rfl, _⟩ := h; rfl) | (obtain ⟨_, _, rfl, _⟩ := h; rfl) | (obtain ⟨_, _, _, rfl, _⟩ := h; rfl) | (obtain ⟨_, _, _, _, rfl, _⟩ := h; rfl) | (obtain ⟨_, _, _, _, _, rfl, _⟩ := h; rfl) | (obtain ⟨_, _, _, _, _, _, rfl, _⟩ := h; rfl) | (obtain ⟨_, _, _, _, _, _, _, rfl, _⟩ := h; rfl) | (obtain ⟨_, _, _, _, _, _, _, _, rfl, _⟩ := h; rfl) | (obtain ⟨rfl, _⟩ := h; rfl)) (hb_Board_wanted) (d_Board_wanted T ), bn⟩
theorem ok_Board_leaving {P : Program} {w : World} {K : PySem.W.Frag} {mg : Str → Option Value} {base : Heap} {C_Board : Addr} {f : Addr} {fd : FuncData} (F : Fun K "leaving" "Board.leaving" s_Board_leaving f fd) (mt : Meth K C_Board "leaving" f) (bn : Binds K fd ["self", "entering"] []) (T : Txt K mg C_Board)  :
    DfnMe P w K mg base CX0 C_Board "leaving" "Board.leaving" s_Board_leaving 1 ["self", "entering"] (c_bleaving C_Board) :=
  ⟨f, fd, F, mt, fnok_A (m := 2) F sc_Board_leaving (by intro ds μ Q X h; first | (obtain ⟨_, _, _, _, ⟨_, _, rfl, _⟩ | ⟨_, _, rfl, _⟩⟩ := h <;> rfl) | (obtain ⟨_, rfl, _⟩ := h; rfl) | (obtain ⟨_, _, rfl, _⟩ := h; rfl) | (obtain ⟨_, _, _, rfl, _⟩ := h; rfl) | (obtain ⟨_, _, _, _, rfl, _⟩ := h; rfl) | (obtain ⟨_, _, _, _, _, rfl, _⟩ := h; rfl) | (obtain ⟨_, _, _, _, _, _, rfl, _⟩ := h; rfl) | (obtain ⟨_, _, _, _, _, _, _, rfl, _⟩ := h; rfl) | (obtain ⟨_, _, _, _, _, _, _, _, rfl, _⟩ := h; rfl) | (obtain ⟨rfl, _⟩ := h; rfl)) (hb_Board_leaving) (d_Board_leaving T ), bn⟩
theorem ok_Board_turn {P : Program} {w : World} {K : PySem.W.Frag} {mg : Str → Option Value} {base : Heap} {C_Board : Addr} {f : Addr} {fd : FuncData} (F : Fun K "turn" "Board.turn" s_Board_turn f fd) (mt : Meth K C_Board "turn" f) (bn : Binds K fd ["self", "number", "entering"] []) (T : Txt K mg C_Board)  :
    DfnMe P w K mg base CX0 C_Board "turn" "Board.turn" s_Board_turn 1 ["self", "number", "entering"] (c_bturn C_Board) :=
  ⟨f, fd, F, mt, fnok_A (m := 3) F sc_Board_turn (by intro ds μ Q X h; first | (obtain ⟨_, _, _, _, ⟨_, _, rfl, _⟩ | ⟨_, _, rfl, _⟩⟩ := h <;> rfl) | (obtain ⟨_, rfl, _⟩ := h; rfl) | (obtain ⟨_, _, rfl, _⟩ := h; rfl) | (obtain ⟨_, _, _, rfl, _⟩ := h; rfl) | (obtain ⟨_, _, _, _, rfl, _⟩ := h; rfl) | (obtain ⟨_, _, _, _, _, rfl, _⟩ := h; rfl) | (obtain ⟨_, _, _, _, _, _, rfl, _⟩ := h; rfl) | (obtain ⟨_, _, _, _, _, _, _, rfl, _⟩ := h; rfl) | (obtain ⟨_, _, _, _, _, _, _, _, rfl, _⟩ := h; rfl) | (obtain ⟨rfl, _⟩ := h; rfl)) (hb_Board_turn) (d_Board_turn T ), bn⟩
theorem ok_Board_settle {P : Program} {w : World} {K : PySem.W.Frag} {mg : Str → Option Value} {base : Heap} {C_Board : Addr} {f : Addr} {fd : FuncData} (F : Fun K "settle" "Board.settle" s_Board_settle f fd) (mt : Meth K C_Board "settle" f) (bn : Binds K fd ["self"] []) (T : Txt K mg C_Board) (F_Board_wanted : DfnMe P w K mg base CX0 C_Board "wanted" "Board.wanted" s_Board_wanted 1 ["self"] (c_bwanted C_Board)) (F_Board_leaving : DfnMe P w K mg base CX0 C_Board "leaving" "Board.leaving" s_Board_leaving 1 ["self", "entering"] (c_bleaving C_Board)) (F_Board_turn : DfnMe P w K mg base CX0 C_Board "turn" "Board.turn" s_Board_turn 1 ["self", "number", "entering"] (c_bturn C_Board)) :
    DfnMe P w K mg base CX0 C_Board "settle" "Board.settle" s_Board_settle 2 ["self"] (c_bsettle C_Board) :=
  ⟨f, fd, F, mt, fnok_A (m := 1) F sc_Board_settle (by intro ds μ Q X h; first | (obtain ⟨_, _, _, _, ⟨_, _, rfl, _⟩ | ⟨_, _, rfl, _⟩⟩ := h <;> rfl) | (obtain ⟨_, rfl, _⟩ := h; rfl) | (obtain ⟨_, _, rfl, _⟩ := h; rfl) | (obtain ⟨_, _, _, rfl, _⟩ := h; rfl) | (obtain ⟨_, _, _, _, rfl, _⟩ := h; rfl) | (obtain ⟨_, _, _, _, _, rfl, _⟩ := h; rfl) | (obtain ⟨_, _, _, _, _, _, rfl, _⟩ := h; rfl) | (obtain ⟨_, _, _, _, _, _, _, rfl, _⟩ := h; rfl) | (obtain ⟨_, _, _, _, _, _, _, _, rfl, _⟩ := h; rfl) | (obtain ⟨rfl, _⟩ := h; rfl)) (hb_Board_settle) (d_Board_settle T F_Board_wanted F_Board_leaving F_Board_turn), bn⟩
theorem ok_lowest {P : Program} {w : World} {K : PySem.W.Frag} {mg : Str → Option Value} {base : Heap} {C_Board : Addr} {f : Addr} {fd : FuncData} (F : Fun K "lowest" "lowest" s_lowest f fd) (hm : mg "lowest" = some (.ref f)) (bn : Binds K fd ["top", "bottom"] []) (T : Txt K mg C_Board) (F_shared : Dfn P w K mg base CX0 "shared" "shared" s_shared 1 ["one", "other"] c_shared) :
    Dfn P w K mg base CX0 "lowest" "lowest" s_lowest 2 ["top", "bottom"] c_lowest :=
  dfnA (m := 2) F hm bn sc_lowest (by intro ds μ Q X h; first | (obtain ⟨_, _, _, _, ⟨_, _, rfl, _⟩ | ⟨_, _, rfl, _⟩⟩ := h <;> rfl) | (obtain ⟨_, rfl, _⟩ := h; rfl) | (obtain ⟨_, _, rfl, _⟩ := h; rfl) | (obtain ⟨_, _, _, rfl, _⟩ := h; rfl) | (obtain ⟨_, _, _, _, rfl, _⟩ := h; rfl) | (obtain ⟨_, _, _, _, _, rfl, _⟩ := h; rfl) | (obtain ⟨_, _, _, _, _, _, rfl, _⟩ := h; rfl) | (obtain ⟨_, _, _, _, _, _, _, rfl, _⟩ := h; rfl) | (obtain ⟨_, _, _, _, _, _, _, _, rfl, _⟩ := h; rfl) | (obtain ⟨rfl, _⟩ := h; rfl)) (hb_lowest) (d_lowest T F_shared)
theorem ok_Board_endless {P : Program} {w : World} {K : PySem.W.Frag} {mg : Str → Option Value} {base : Heap} {C_Board : Addr} {f : Addr} {fd : FuncData} (F : Fun K "endless" "Board.endless" s_Board_endless f fd) (mt : Meth K C_Board "endless" f) (bn : Binds K fd ["self", "entering"] []) (T : Txt K mg C_Board) (F_lowest : Dfn P w K mg base CX0 "lowest" "lowest" s_lowest 2 ["top", "bottom"] c_lowest) :
    DfnMe P w K mg base CX0 C_Board "endless" "Board.endless" s_Board_endless 3 ["self", "entering"] (c_bendless C_Board) :=
  ⟨f, fd, F, mt, fnok_A (m := 2) F sc_Board_endless (by intro ds μ Q X h; first | (obtain ⟨_, _, _, _, ⟨_, _, rfl, _⟩ | ⟨_, _, rfl, _⟩⟩ := h <;> rfl) | (obtain ⟨_, rfl, _⟩ := h; rfl) | (obtain ⟨_, _, rfl, _⟩ := h; rfl) | (obtain ⟨_, _, _, rfl, _⟩ := h; rfl) | (obtain ⟨_, _, _, _, rfl, _⟩ := h; rfl) | (obtain ⟨_, _, _, _, _, rfl, _⟩ := h; rfl) | (obtain ⟨_, _, _, _, _, _, rfl, _⟩ := h; rfl) | (obtain ⟨_, _, _, _, _, _, _, rfl, _⟩ := h; rfl) | (obtain ⟨_, _, _, _, _, _, _, _, rfl, _⟩ := h; rfl) | (obtain ⟨rfl, _⟩ := h; rfl)) (hb_Board_endless) (d_Board_endless T F_lowest), bn⟩
theorem ok_Board_shares {P : Program} {w : World} {K : PySem.W.Frag} {mg : Str → Option Value} {base : Heap} {C_Board : Addr} {f : Addr} {fd : FuncData} (F : Fun K "shares" "Board.shares" s_Board_shares f fd) (mt : Meth K C_Board "shares" f) (bn : Binds K fd ["self"] []) (T : Txt K mg C_Board) (F_lowest : Dfn P w K mg base CX0 "lowest" "lowest" s_lowest 2 ["top", "bottom"] c_lowest) :
    DfnMe P w K mg base CX0 C_Board "shares" "Board.shares" s_Board_shares 3 ["self"] (c_bshares C_Board) :=
  ⟨f, fd, F, mt, fnok_A (m := 1) F sc_Board_shares (by intro ds μ Q X h; first | (obtain ⟨_, _, _, _, ⟨_, _, rfl, _⟩ | ⟨_, _, rfl, _⟩⟩ := h <;> rfl) | (obtain ⟨_, rfl, _⟩ := h; rfl) | (obtain ⟨_, _, rfl, _⟩ := h; rfl) | (obtain ⟨_, _, _, rfl, _⟩ := h; rfl) | (obtain ⟨_, _, _, _, rfl, _⟩ := h; rfl) | (obtain ⟨_, _, _, _, _, rfl, _⟩ := h; rfl) | (obtain ⟨_, _, _, _, _, _, rfl, _⟩ := h; rfl) | (obtain ⟨_, _, _, _, _, _, _, rfl, _⟩ := h; rfl) | (obtain ⟨_, _, _, _, _, _, _, _, rfl, _⟩ := h; rfl) | (obtain ⟨rfl, _⟩ := h; rfl)) (hb_Board_shares) (d_Board_shares T F_lowest), bn⟩
theorem ok_Board_prices {P : Program} {w : World} {K : PySem.W.Frag} {mg : Str → Option Value} {base : Heap} {C_Board : Addr} {f : Addr} {fd : FuncData} (F : Fun K "prices" "Board.prices" s_Board_prices f fd) (mt : Meth K C_Board "prices" f) (bn : Binds K fd ["self"] []) (T : Txt K mg C_Board) (F_lowest : Dfn P w K mg base CX0 "lowest" "lowest" s_lowest 2 ["top", "bottom"] c_lowest) :
    DfnMe P w K mg base CX0 C_Board "prices" "Board.prices" s_Board_prices 3 ["self"] (c_bprices C_Board) :=
  ⟨f, fd, F, mt, fnok_A (m := 1) F sc_Board_prices (by intro ds μ Q X h; first | (obtain ⟨_, _, _, _, ⟨_, _, rfl, _⟩ | ⟨_, _, rfl, _⟩⟩ := h <;> rfl) | (obtain ⟨_, rfl, _⟩ := h; rfl) | (obtain ⟨_, _, rfl, _⟩ := h; rfl) | (obtain ⟨_, _, _, rfl, _⟩ := h; rfl) | (obtain ⟨_, _, _, _, rfl, _⟩ := h; rfl) | (obtain ⟨_, _, _, _, _, rfl, _⟩ := h; rfl) | (obtain ⟨_, _, _, _, _, _, rfl, _⟩ := h; rfl) | (obtain ⟨_, _, _, _, _, _, _, rfl, _⟩ := h; rfl) | (obtain ⟨_, _, _, _, _, _, _, _, rfl, _⟩ := h; rfl) | (obtain ⟨rfl, _⟩ := h; rfl)) (hb_Board_prices) (d_Board_prices T F_lowest), bn⟩
theorem ok_most_of {P : Program} {w : World} {K : PySem.W.Frag} {mg : Str → Option Value} {base : Heap} {C_Board : Addr} {f : Addr} {fd : FuncData} (F : Fun K "most_of" "most_of" s_most_of f fd) (hm : mg "most_of" = some (.ref f)) (bn : Binds K fd ["sheet"] []) (T : Txt K mg C_Board) (F_Board___init__ : DfnIe P w K mg base CX0 "Board" C_Board "Board.__init__" s_Board___init__ 3 ["self", "rights"] (c_binit C_Board)) (F_Board_add : DfnMe P w K mg base CX0 C_Board "add" "Board.add" s_Board_add 3 ["self", "gain", "column"] (c_badd C_Board)) (F_Board_settle : DfnMe P w K mg base CX0 C_Board "settle" "Board.settle" s_Board_settle 2 ["self"] (c_bsettle C_Board)) (F_Board_endless : DfnMe P w K mg base CX0 C_Board "endless" "Board.endless" s_Board_endless 3 ["self", "entering"] (c_bendless C_Board)) (F_Board_shares : DfnMe P w K mg base CX0 C_Board "shares" "Board.shares" s_Board_shares 3 ["self"] (c_bshares C_Board)) (F_Board_prices : DfnMe P w K mg base CX0 C_Board "prices" "Board.prices" s_Board_prices 3 ["self"] (c_bprices C_Board)) :
    Dfn P w K mg base CX0 "most_of" "most_of" s_most_of 5 ["sheet"] (c_mostof C_Board) :=
  dfnA (m := 1) F hm bn sc_most_of (by intro ds μ Q X h; first | (obtain ⟨_, _, _, _, ⟨_, _, rfl, _⟩ | ⟨_, _, rfl, _⟩⟩ := h <;> rfl) | (obtain ⟨_, rfl, _⟩ := h; rfl) | (obtain ⟨_, _, rfl, _⟩ := h; rfl) | (obtain ⟨_, _, _, rfl, _⟩ := h; rfl) | (obtain ⟨_, _, _, _, rfl, _⟩ := h; rfl) | (obtain ⟨_, _, _, _, _, rfl, _⟩ := h; rfl) | (obtain ⟨_, _, _, _, _, _, rfl, _⟩ := h; rfl) | (obtain ⟨_, _, _, _, _, _, _, rfl, _⟩ := h; rfl) | (obtain ⟨_, _, _, _, _, _, _, _, rfl, _⟩ := h; rfl) | (obtain ⟨rfl, _⟩ := h; rfl)) (hb_most_of) (d_most_of T F_Board___init__ F_Board_add F_Board_settle F_Board_endless F_Board_shares F_Board_prices)
theorem ok_law_plus {P : Program} {w : World} {K : PySem.W.Frag} {mg : Str → Option Value} {base : Heap} {C_Board : Addr} {f : Addr} {fd : FuncData} (F : Fun K "_law_plus" "_law_plus" s_law_plus f fd) (hm : mg "_law_plus" = some (.ref f)) (bn : Binds K fd ["_law_one", "_law_other"] []) (T : Txt K mg C_Board) (F_law_low : Dfn P w K mg base CX0 "_law_low" "_law_low" s_law_low 1 ["_law_top", "_law_bottom"] c_low) :
    Dfn P w K mg base CX0 "_law_plus" "_law_plus" s_law_plus 2 ["_law_one", "_law_other"] c_plus :=
  dfnA (m := 2) F hm bn sc_law_plus (by intro ds μ Q X h; first | (obtain ⟨_, _, _, _, ⟨_, _, rfl, _⟩ | ⟨_, _, rfl, _⟩⟩ := h <;> rfl) | (obtain ⟨_, rfl, _⟩ := h; rfl) | (obtain ⟨_, _, rfl, _⟩ := h; rfl) | (obtain ⟨_, _, _, rfl, _⟩ := h; rfl) | (obtain ⟨_, _, _, _, rfl, _⟩ := h; rfl) | (obtain ⟨_, _, _, _, _, rfl, _⟩ := h; rfl) | (obtain ⟨_, _, _, _, _, _, rfl, _⟩ := h; rfl) | (obtain ⟨_, _, _, _, _, _, _, rfl, _⟩ := h; rfl) | (obtain ⟨_, _, _, _, _, _, _, _, rfl, _⟩ := h; rfl) | (obtain ⟨rfl, _⟩ := h; rfl)) (hb_law_plus) (d_law_plus T F_law_low)
theorem ok_law_minus {P : Program} {w : World} {K : PySem.W.Frag} {mg : Str → Option Value} {base : Heap} {C_Board : Addr} {f : Addr} {fd : FuncData} (F : Fun K "_law_minus" "_law_minus" s_law_minus f fd) (hm : mg "_law_minus" = some (.ref f)) (bn : Binds K fd ["_law_one", "_law_other"] []) (T : Txt K mg C_Board) (F_law_low : Dfn P w K mg base CX0 "_law_low" "_law_low" s_law_low 1 ["_law_top", "_law_bottom"] c_low) :
    Dfn P w K mg base CX0 "_law_minus" "_law_minus" s_law_minus 2 ["_law_one", "_law_other"] c_minus :=
  dfnA (m := 2) F hm bn sc_law_minus (by intro ds μ Q X h; first | (obtain ⟨_, _, _, _, ⟨_, _, rfl, _⟩ | ⟨_, _, rfl, _⟩⟩ := h <;> rfl) | (obtain ⟨_, rfl, _⟩ := h; rfl) | (obtain ⟨_, _, rfl, _⟩ := h; rfl) | (obtain ⟨_, _, _, rfl, _⟩ := h; rfl) | (obtain ⟨_, _, _, _, rfl, _⟩ := h; rfl) | (obtain ⟨_, _, _, _, _, rfl, _⟩ := h; rfl) | (obtain ⟨_, _, _, _, _, _, rfl, _⟩ := h; rfl) | (obtain ⟨_, _, _, _, _, _, _, rfl, _⟩ := h; rfl) | (obtain ⟨_, _, _, _, _, _, _, _, rfl, _⟩ := h; rfl) | (obtain ⟨rfl, _⟩ := h; rfl)) (hb_law_minus) (d_law_minus T F_law_low)
theorem ok_law_bent {P : Program} {w : World} {K : PySem.W.Frag} {mg : Str → Option Value} {base : Heap} {C_Board : Addr} {f : Addr} {fd : FuncData} (F : Fun K "_law_bent" "_law_bent" s_law_bent f fd) (hm : mg "_law_bent" = some (.ref f)) (bn : Binds K fd ["_law_told", "_law_pool_here"] []) (T : Txt K mg C_Board) (F_law_take : Dfn P w K mg base CX0 "_law_take" "_law_take" s_law_take 1 ["_law_pool_here", "_law_many"] c_take) (F_law_plus : Dfn P w K mg base CX0 "_law_plus" "_law_plus" s_law_plus 2 ["_law_one", "_law_other"] c_plus) (F_law_minus : Dfn P w K mg base CX0 "_law_minus" "_law_minus" s_law_minus 2 ["_law_one", "_law_other"] c_minus) :
    Dfn P w K mg base CX0 "_law_bent" "_law_bent" s_law_bent 4 ["_law_told", "_law_pool_here"] c_lbent :=
  dfnA (m := 2) F hm bn sc_law_bent (by intro ds μ Q X h; first | (obtain ⟨_, _, _, _, ⟨_, _, rfl, _⟩ | ⟨_, _, rfl, _⟩⟩ := h <;> rfl) | (obtain ⟨_, rfl, _⟩ := h; rfl) | (obtain ⟨_, _, rfl, _⟩ := h; rfl) | (obtain ⟨_, _, _, rfl, _⟩ := h; rfl) | (obtain ⟨_, _, _, _, rfl, _⟩ := h; rfl) | (obtain ⟨_, _, _, _, _, rfl, _⟩ := h; rfl) | (obtain ⟨_, _, _, _, _, _, rfl, _⟩ := h; rfl) | (obtain ⟨_, _, _, _, _, _, _, rfl, _⟩ := h; rfl) | (obtain ⟨_, _, _, _, _, _, _, _, rfl, _⟩ := h; rfl) | (obtain ⟨rfl, _⟩ := h; rfl)) (hb_law_bent) (d_law_bent T F_law_take F_law_plus F_law_minus)
theorem ok_law_is_share {P : Program} {w : World} {K : PySem.W.Frag} {mg : Str → Option Value} {base : Heap} {C_Board : Addr} {f : Addr} {fd : FuncData} (F : Fun K "_law_is_share" "_law_is_share" s_law_is_share f fd) (hm : mg "_law_is_share" = some (.ref f)) (bn : Binds K fd ["_law_thing"] []) (T : Txt K mg C_Board) (F_law_low : Dfn P w K mg base CX0 "_law_low" "_law_low" s_law_low 1 ["_law_top", "_law_bottom"] c_low) :
    Dfn P w K mg base CX0 "_law_is_share" "_law_is_share" s_law_is_share 2 ["_law_thing"] c_lisshare :=
  dfnA (m := 1) F hm bn sc_law_is_share (by intro ds μ Q X h; first | (obtain ⟨_, _, _, _, ⟨_, _, rfl, _⟩ | ⟨_, _, rfl, _⟩⟩ := h <;> rfl) | (obtain ⟨_, rfl, _⟩ := h; rfl) | (obtain ⟨_, _, rfl, _⟩ := h; rfl) | (obtain ⟨_, _, _, rfl, _⟩ := h; rfl) | (obtain ⟨_, _, _, _, rfl, _⟩ := h; rfl) | (obtain ⟨_, _, _, _, _, rfl, _⟩ := h; rfl) | (obtain ⟨_, _, _, _, _, _, rfl, _⟩ := h; rfl) | (obtain ⟨_, _, _, _, _, _, _, rfl, _⟩ := h; rfl) | (obtain ⟨_, _, _, _, _, _, _, _, rfl, _⟩ := h; rfl) | (obtain ⟨rfl, _⟩ := h; rfl)) (hb_law_is_share) (d_law_is_share T F_law_low)
theorem ok_law_are_shares {P : Program} {w : World} {K : PySem.W.Frag} {mg : Str → Option Value} {base : Heap} {C_Board : Addr} {f : Addr} {fd : FuncData} (F : Fun K "_law_are_shares" "_law_are_shares" s_law_are_shares f fd) (hm : mg "_law_are_shares" = some (.ref f)) (bn : Binds K fd ["_law_thing", "_law_many"] []) (T : Txt K mg C_Board) (F_law_is_share : Dfn P w K mg base CX0 "_law_is_share" "_law_is_share" s_law_is_share 2 ["_law_thing"] c_lisshare) :
    Dfn P w K mg base CX0 "_law_are_shares" "_law_are_shares" s_law_are_shares 3 ["_law_thing", "_law_many"] c_lareshares34 :=
  dfnA (m := 2) F hm bn sc_law_are_shares (by intro ds μ Q X h; first | (obtain ⟨_, _, _, _, ⟨_, _, rfl, _⟩ | ⟨_, _, rfl, _⟩⟩ := h <;> rfl) | (obtain ⟨_, rfl, _⟩ := h; rfl) | (obtain ⟨_, _, rfl, _⟩ := h; rfl) | (obtain ⟨_, _, _, rfl, _⟩ := h; rfl) | (obtain ⟨_, _, _, _, rfl, _⟩ := h; rfl) | (obtain ⟨_, _, _, _, _, rfl, _⟩ := h; rfl) | (obtain ⟨_, _, _, _, _, _, rfl, _⟩ := h; rfl) | (obtain ⟨_, _, _, _, _, _, _, rfl, _⟩ := h; rfl) | (obtain ⟨_, _, _, _, _, _, _, _, rfl, _⟩ := h; rfl) | (obtain ⟨rfl, _⟩ := h; rfl)) (hb_law_are_shares) (d_law_are_shares T F_law_is_share)
theorem ok_law_less {P : Program} {w : World} {K : PySem.W.Frag} {mg : Str → Option Value} {base : Heap} {C_Board : Addr} {f : Addr} {fd : FuncData} (F : Fun K "_law_less" "_law_less" s_law_less f fd) (hm : mg "_law_less" = some (.ref f)) (bn : Binds K fd ["_law_one", "_law_other"] []) (T : Txt K mg C_Board)  :
    Dfn P w K mg base CX0 "_law_less" "_law_less" s_law_less 1 ["_law_one", "_law_other"] c_under :=
  dfnA (m := 2) F hm bn sc_law_less (by intro ds μ Q X h; first | (obtain ⟨_, _, _, _, ⟨_, _, rfl, _⟩ | ⟨_, _, rfl, _⟩⟩ := h <;> rfl) | (obtain ⟨_, rfl, _⟩ := h; rfl) | (obtain ⟨_, _, rfl, _⟩ := h; rfl) | (obtain ⟨_, _, _, rfl, _⟩ := h; rfl) | (obtain ⟨_, _, _, _, rfl, _⟩ := h; rfl) | (obtain ⟨_, _, _, _, _, rfl, _⟩ := h; rfl) | (obtain ⟨_, _, _, _, _, _, rfl, _⟩ := h; rfl) | (obtain ⟨_, _, _, _, _, _, _, rfl, _⟩ := h; rfl) | (obtain ⟨_, _, _, _, _, _, _, _, rfl, _⟩ := h; rfl) | (obtain ⟨rfl, _⟩ := h; rfl)) (hb_law_less) (d_law_less T )
theorem ok_law_times {P : Program} {w : World} {K : PySem.W.Frag} {mg : Str → Option Value} {base : Heap} {C_Board : Addr} {f : Addr} {fd : FuncData} (F : Fun K "_law_times" "_law_times" s_law_times f fd) (hm : mg "_law_times" = some (.ref f)) (bn : Binds K fd ["_law_one", "_law_other"] []) (T : Txt K mg C_Board) (F_law_low : Dfn P w K mg base CX0 "_law_low" "_law_low" s_law_low 1 ["_law_top", "_law_bottom"] c_low) :
    Dfn P w K mg base CX0 "_law_times" "_law_times" s_law_times 2 ["_law_one", "_law_other"] c_times :=
  dfnA (m := 2) F hm bn sc_law_times (by intro ds μ Q X h; first | (obtain ⟨_, _, _, _, ⟨_, _, rfl, _⟩ | ⟨_, _, rfl, _⟩⟩ := h <;> rfl) | (obtain ⟨_, rfl, _⟩ := h; rfl) | (obtain ⟨_, _, rfl, _⟩ := h; rfl) | (obtain ⟨_, _, _, rfl, _⟩ := h; rfl) | (obtain ⟨_, _, _, _, rfl, _⟩ := h; rfl) | (obtain ⟨_, _, _, _, _, rfl, _⟩ := h; rfl) | (obtain ⟨_, _, _, _, _, _, rfl, _⟩ := h; rfl) | (obtain ⟨_, _, _, _, _, _, _, rfl, _⟩ := h; rfl) | (obtain ⟨_, _, _, _, _, _, _, _, rfl, _⟩ := h; rfl) | (obtain ⟨rfl, _⟩ := h; rfl)) (hb_law_times) (d_law_times T F_law_low)
theorem ok_law_worth {P : Program} {w : World} {K : PySem.W.Frag} {mg : Str → Option Value} {base : Heap} {C_Board : Addr} {f : Addr} {fd : FuncData} (F : Fun K "_law_worth" "_law_worth" s_law_worth f fd) (hm : mg "_law_worth" = some (.ref f)) (bn : Binds K fd ["_law_one", "_law_other"] []) (T : Txt K mg C_Board) (F_law_plus : Dfn P w K mg base CX0 "_law_plus" "_law_plus" s_law_plus 2 ["_law_one", "_law_other"] c_plus) (F_law_times : Dfn P w K mg base CX0 "_law_times" "_law_times" s_law_times 2 ["_law_one", "_law_other"] c_times) :
    Dfn P w K mg base CX0 "_law_worth" "_law_worth" s_law_worth 3 ["_law_one", "_law_other"] c_worth :=
  dfnA (m := 2) F hm bn sc_law_worth (by intro ds μ Q X h; first | (obtain ⟨_, _, _, _, ⟨_, _, rfl, _⟩ | ⟨_, _, rfl, _⟩⟩ := h <;> rfl) | (obtain ⟨_, rfl, _⟩ := h; rfl) | (obtain ⟨_, _, rfl, _⟩ := h; rfl) | (obtain ⟨_, _, _, rfl, _⟩ := h; rfl) | (obtain ⟨_, _, _, _, rfl, _⟩ := h; rfl) | (obtain ⟨_, _, _, _, _, rfl, _⟩ := h; rfl) | (obtain ⟨_, _, _, _, _, _, rfl, _⟩ := h; rfl) | (obtain ⟨_, _, _, _, _, _, _, rfl, _⟩ := h; rfl) | (obtain ⟨_, _, _, _, _, _, _, _, rfl, _⟩ := h; rfl) | (obtain ⟨rfl, _⟩ := h; rfl)) (hb_law_worth) (d_law_worth T F_law_plus F_law_times)
theorem ok_law_fits {P : Program} {w : World} {K : PySem.W.Frag} {mg : Str → Option Value} {base : Heap} {C_Board : Addr} {f : Addr} {fd : FuncData} (F : Fun K "_law_fits" "_law_fits" s_law_fits f fd) (hm : mg "_law_fits" = some (.ref f)) (bn : Binds K fd ["_law_columns", "_law_shares", "_law_rights"] []) (T : Txt K mg C_Board) (F_law_less : Dfn P w K mg base CX0 "_law_less" "_law_less" s_law_less 1 ["_law_one", "_law_other"] c_under) (F_law_worth : Dfn P w K mg base CX0 "_law_worth" "_law_worth" s_law_worth 3 ["_law_one", "_law_other"] c_worth) :
    Dfn P w K mg base CX0 "_law_fits" "_law_fits" s_law_fits 4 ["_law_columns", "_law_shares", "_law_rights"] c_lfits34 :=
  dfnA (m := 3) F hm bn sc_law_fits (by intro ds μ Q X h; first | (obtain ⟨_, _, _, _, ⟨_, _, rfl, _⟩ | ⟨_, _, rfl, _⟩⟩ := h <;> rfl) | (obtain ⟨_, rfl, _⟩ := h; rfl) | (obtain ⟨_, _, rfl, _⟩ := h; rfl) | (obtain ⟨_, _, _, rfl, _⟩ := h; rfl) | (obtain ⟨_, _, _, _, rfl, _⟩ := h; rfl) | (obtain ⟨_, _, _, _, _, rfl, _⟩ := h; rfl) | (obtain ⟨_, _, _, _, _, _, rfl, _⟩ := h; rfl) | (obtain ⟨_, _, _, _, _, _, _, rfl, _⟩ := h; rfl) | (obtain ⟨_, _, _, _, _, _, _, _, rfl, _⟩ := h; rfl) | (obtain ⟨rfl, _⟩ := h; rfl)) (hb_law_fits) (d_law_fits T F_law_less F_law_worth)
theorem ok_law_is_told {P : Program} {w : World} {K : PySem.W.Frag} {mg : Str → Option Value} {base : Heap} {C_Board : Addr} {f : Addr} {fd : FuncData} (F : Fun K "_law_is_told" "_law_is_told" s_law_is_told f fd) (hm : mg "_law_is_told" = some (.ref f)) (bn : Binds K fd ["_law_sheet_here", "_law_told"] []) (T : Txt K mg C_Board) (F_law_are_shares : Dfn P w K mg base CX0 "_law_are_shares" "_law_are_shares" s_law_are_shares 3 ["_law_thing", "_law_many"] c_lareshares34) (F_law_fits : Dfn P w K mg base CX0 "_law_fits" "_law_fits" s_law_fits 4 ["_law_columns", "_law_shares", "_law_rights"] c_lfits34) (F_law_worth : Dfn P w K mg base CX0 "_law_worth" "_law_worth" s_law_worth 3 ["_law_one", "_law_other"] c_worth) (F_law_less : Dfn P w K mg base CX0 "_law_less" "_law_less" s_law_less 1 ["_law_one", "_law_other"] c_under) :
    Dfn P w K mg base CX0 "_law_is_told" "_law_is_told" s_law_is_told 5 ["_law_sheet_here", "_law_told"] c_listold34 :=
  dfnA (m := 2) F hm bn sc_law_is_told (by intro ds μ Q X h; first | (obtain ⟨_, _, _, _, ⟨_, _, rfl, _⟩ | ⟨_, _, rfl, _⟩⟩ := h <;> rfl) | (obtain ⟨_, rfl, _⟩ := h; rfl) | (obtain ⟨_, _, rfl, _⟩ := h; rfl) | (obtain ⟨_, _, _, rfl, _⟩ := h; rfl) | (obtain ⟨_, _, _, _, rfl, _⟩ := h; rfl) | (obtain ⟨_, _, _, _, _, rfl, _⟩ := h; rfl) | (obtain ⟨_, _, _, _, _, _, rfl, _⟩ := h; rfl) | (obtain ⟨_, _, _, _, _, _, _, rfl, _⟩ := h; rfl) | (obtain ⟨_, _, _, _, _, _, _, _, rfl, _⟩ := h; rfl) | (obtain ⟨rfl, _⟩ := h; rfl)) (hb_law_is_told) (d_law_is_told T F_law_are_shares F_law_fits F_law_worth F_law_less)
theorem ok_is_whole {P : Program} {w : World} {K : PySem.W.Frag} {mg : Str → Option Value} {base : Heap} {C_Board : Addr} {f : Addr} {fd : FuncData} (F : Fun K "is_whole" "is_whole" s_is_whole f fd) (hm : mg "is_whole" = some (.ref f)) (bn : Binds K fd ["thing"] []) (T : Txt K mg C_Board)  :
    Dfn P w K mg base CX0 "is_whole" "is_whole" s_is_whole 1 ["thing"] c_is_whole :=
  dfnA (m := 1) F hm bn sc_is_whole (by intro ds μ Q X h; first | (obtain ⟨_, _, _, _, ⟨_, _, rfl, _⟩ | ⟨_, _, rfl, _⟩⟩ := h <;> rfl) | (obtain ⟨_, rfl, _⟩ := h; rfl) | (obtain ⟨_, _, rfl, _⟩ := h; rfl) | (obtain ⟨_, _, _, rfl, _⟩ := h; rfl) | (obtain ⟨_, _, _, _, rfl, _⟩ := h; rfl) | (obtain ⟨_, _, _, _, _, rfl, _⟩ := h; rfl) | (obtain ⟨_, _, _, _, _, _, rfl, _⟩ := h; rfl) | (obtain ⟨_, _, _, _, _, _, _, rfl, _⟩ := h; rfl) | (obtain ⟨_, _, _, _, _, _, _, _, rfl, _⟩ := h; rfl) | (obtain ⟨rfl, _⟩ := h; rfl)) (hb_is_whole) (d_is_whole T )
theorem ok_is_fraction {P : Program} {w : World} {K : PySem.W.Frag} {mg : Str → Option Value} {base : Heap} {C_Board : Addr} {f : Addr} {fd : FuncData} (F : Fun K "is_fraction" "is_fraction" s_is_fraction f fd) (hm : mg "is_fraction" = some (.ref f)) (bn : Binds K fd ["thing"] []) (T : Txt K mg C_Board) (F_is_whole : Dfn P w K mg base CX0 "is_whole" "is_whole" s_is_whole 1 ["thing"] c_is_whole) (F_shared : Dfn P w K mg base CX0 "shared" "shared" s_shared 1 ["one", "other"] c_shared) :
    Dfn P w K mg base CX0 "is_fraction" "is_fraction" s_is_fraction 2 ["thing"] c_is_fraction :=
  dfnA (m := 1) F hm bn sc_is_fraction (by intro ds μ Q X h; first | (obtain ⟨_, _, _, _, ⟨_, _, rfl, _⟩ | ⟨_, _, rfl, _⟩⟩ := h <;> rfl) | (obtain ⟨_, rfl, _⟩ := h; rfl) | (obtain ⟨_, _, rfl, _⟩ := h; rfl) | (obtain ⟨_, _, _, rfl, _⟩ := h; rfl) | (obtain ⟨_, _, _, _, rfl, _⟩ := h; rfl) | (obtain ⟨_, _, _, _, _, rfl, _⟩ := h; rfl) | (obtain ⟨_, _, _, _, _, _, rfl, _⟩ := h; rfl) | (obtain ⟨_, _, _, _, _, _, _, rfl, _⟩ := h; rfl) | (obtain ⟨_, _, _, _, _, _, _, _, rfl, _⟩ := h; rfl) | (obtain ⟨rfl, _⟩ := h; rfl)) (hb_is_fraction) (d_is_fraction T F_is_whole F_shared)
theorem ok_are_shares {P : Program} {w : World} {K : PySem.W.Frag} {mg : Str → Option Value} {base : Heap} {C_Board : Addr} {f : Addr} {fd : FuncData} (F : Fun K "are_shares" "are_shares" s_are_shares f fd) (hm : mg "are_shares" = some (.ref f)) (bn : Binds K fd ["thing", "many"] []) (T : Txt K mg C_Board) (F_is_fraction : Dfn P w K mg base CX0 "is_fraction" "is_fraction" s_is_fraction 2 ["thing"] c_is_fraction) :
    Dfn P w K mg base CX0 "are_shares" "are_shares" s_are_shares 3 ["thing", "many"] c_areshares :=
  dfnA (m := 2) F hm bn sc_are_shares (by intro ds μ Q X h; first | (obtain ⟨_, _, _, _, ⟨_, _, rfl, _⟩ | ⟨_, _, rfl, _⟩⟩ := h <;> rfl) | (obtain ⟨_, rfl, _⟩ := h; rfl) | (obtain ⟨_, _, rfl, _⟩ := h; rfl) | (obtain ⟨_, _, _, rfl, _⟩ := h; rfl) | (obtain ⟨_, _, _, _, rfl, _⟩ := h; rfl) | (obtain ⟨_, _, _, _, _, rfl, _⟩ := h; rfl) | (obtain ⟨_, _, _, _, _, _, rfl, _⟩ := h; rfl) | (obtain ⟨_, _, _, _, _, _, _, rfl, _⟩ := h; rfl) | (obtain ⟨_, _, _, _, _, _, _, _, rfl, _⟩ := h; rfl) | (obtain ⟨rfl, _⟩ := h; rfl)) (hb_are_shares) (d_are_shares T F_is_fraction)
theorem ok_under {P : Program} {w : World} {K : PySem.W.Frag} {mg : Str → Option Value} {base : Heap} {C_Board : Addr} {f : Addr} {fd : FuncData} (F : Fun K "under" "under" s_under f fd) (hm : mg "under" = some (.ref f)) (bn : Binds K fd ["one", "other"] []) (T : Txt K mg C_Board)  :
    Dfn P w K mg base CX0 "under" "under" s_under 1 ["one", "other"] c_under :=
  dfnA (m := 2) F hm bn sc_under (by intro ds μ Q X h; first | (obtain ⟨_, _, _, _, ⟨_, _, rfl, _⟩ | ⟨_, _, rfl, _⟩⟩ := h <;> rfl) | (obtain ⟨_, rfl, _⟩ := h; rfl) | (obtain ⟨_, _, rfl, _⟩ := h; rfl) | (obtain ⟨_, _, _, rfl, _⟩ := h; rfl) | (obtain ⟨_, _, _, _, rfl, _⟩ := h; rfl) | (obtain ⟨_, _, _, _, _, rfl, _⟩ := h; rfl) | (obtain ⟨_, _, _, _, _, _, rfl, _⟩ := h; rfl) | (obtain ⟨_, _, _, _, _, _, _, rfl, _⟩ := h; rfl) | (obtain ⟨_, _, _, _, _, _, _, _, rfl, _⟩ := h; rfl) | (obtain ⟨rfl, _⟩ := h; rfl)) (hb_under) (d_under T )
theorem ok_plus {P : Program} {w : World} {K : PySem.W.Frag} {mg : Str → Option Value} {base : Heap} {C_Board : Addr} {f : Addr} {fd : FuncData} (F : Fun K "plus" "plus" s_plus f fd) (hm : mg "plus" = some (.ref f)) (bn : Binds K fd ["one", "other"] []) (T : Txt K mg C_Board) (F_lowest : Dfn P w K mg base CX0 "lowest" "lowest" s_lowest 2 ["top", "bottom"] c_lowest) :
    Dfn P w K mg base CX0 "plus" "plus" s_plus 3 ["one", "other"] c_plus :=
  dfnA (m := 2) F hm bn sc_plus (by intro ds μ Q X h; first | (obtain ⟨_, _, _, _, ⟨_, _, rfl, _⟩ | ⟨_, _, rfl, _⟩⟩ := h <;> rfl) | (obtain ⟨_, rfl, _⟩ := h; rfl) | (obtain ⟨_, _, rfl, _⟩ := h; rfl) | (obtain ⟨_, _, _, rfl, _⟩ := h; rfl) | (obtain ⟨_, _, _, _, rfl, _⟩ := h; rfl) | (obtain ⟨_, _, _, _, _, rfl, _⟩ := h; rfl) | (obtain ⟨_, _, _, _, _, _, rfl, _⟩ := h; rfl) | (obtain ⟨_, _, _, _, _, _, _, rfl, _⟩ := h; rfl) | (obtain ⟨_, _, _, _, _, _, _, _, rfl, _⟩ := h; rfl) | (obtain ⟨rfl, _⟩ := h; rfl)) (hb_plus) (d_plus T F_lowest)
theorem ok_times {P : Program} {w : World} {K : PySem.W.Frag} {mg : Str → Option Value} {base : Heap} {C_Board : Addr} {f : Addr} {fd : FuncData} (F : Fun K "times" "times" s_times f fd) (hm : mg "times" = some (.ref f)) (bn : Binds K fd ["one", "other"] []) (T : Txt K mg C_Board) (F_lowest : Dfn P w K mg base CX0 "lowest" "lowest" s_lowest 2 ["top", "bottom"] c_lowest) :
    Dfn P w K mg base CX0 "times" "times" s_times 3 ["one", "other"] c_times :=
  dfnA (m := 2) F hm bn sc_times (by intro ds μ Q X h; first | (obtain ⟨_, _, _, _, ⟨_, _, rfl, _⟩ | ⟨_, _, rfl, _⟩⟩ := h <;> rfl) | (obtain ⟨_, rfl, _⟩ := h; rfl) | (obtain ⟨_, _, rfl, _⟩ := h; rfl) | (obtain ⟨_, _, _, rfl, _⟩ := h; rfl) | (obtain ⟨_, _, _, _, rfl, _⟩ := h; rfl) | (obtain ⟨_, _, _, _, _, rfl, _⟩ := h; rfl) | (obtain ⟨_, _, _, _, _, _, rfl, _⟩ := h; rfl) | (obtain ⟨_, _, _, _, _, _, _, rfl, _⟩ := h; rfl) | (obtain ⟨_, _, _, _, _, _, _, _, rfl, _⟩ := h; rfl) | (obtain ⟨rfl, _⟩ := h; rfl)) (hb_times) (d_times T F_lowest)
theorem ok_worth {P : Program} {w : World} {K : PySem.W.Frag} {mg : Str → Option Value} {base : Heap} {C_Board : Addr} {f : Addr} {fd : FuncData} (F : Fun K "worth" "worth" s_worth f fd) (hm : mg "worth" = some (.ref f)) (bn : Binds K fd ["one", "other"] []) (T : Txt K mg C_Board) (F_plus : Dfn P w K mg base CX0 "plus" "plus" s_plus 3 ["one", "other"] c_plus) (F_times : Dfn P w K mg base CX0 "times" "times" s_times 3 ["one", "other"] c_times) :
    Dfn P w K mg base CX0 "worth" "worth" s_worth 4 ["one", "other"] c_worth :=
  dfnA (m := 2) F hm bn sc_worth (by intro ds μ Q X h; first | (obtain ⟨_, _, _, _, ⟨_, _, rfl, _⟩ | ⟨_, _, rfl, _⟩⟩ := h <;> rfl) | (obtain ⟨_, rfl, _⟩ := h; rfl) | (obtain ⟨_, _, rfl, _⟩ := h; rfl) | (obtain ⟨_, _, _, rfl, _⟩ := h; rfl) | (obtain ⟨_, _, _, _, rfl, _⟩ := h; rfl) | (obtain ⟨_, _, _, _, _, rfl, _⟩ := h; rfl) | (obtain ⟨_, _, _, _, _, _, rfl, _⟩ := h; rfl) | (obtain ⟨_, _, _, _, _, _, _, rfl, _⟩ := h; rfl) | (obtain ⟨_, _, _, _, _, _, _, _, rfl, _⟩ := h; rfl) | (obtain ⟨rfl, _⟩ := h; rfl)) (hb_worth) (d_worth T F_plus F_times)
theorem ok_come_to_at {P : Program} {w : World} {K : PySem.W.Frag} {mg : Str → Option Value} {base : Heap} {C_Board : Addr} {f : Addr} {fd : FuncData} (F : Fun K "come_to_at" "come_to_at" s_come_to_at f fd) (hm : mg "come_to_at" = some (.ref f)) (bn : Binds K fd ["columns", "shares", "place"] []) (T : Txt K mg C_Board) (F_worth : Dfn P w K mg base CX0 "worth" "worth" s_worth 4 ["one", "other"] c_worth) :
    Dfn P w K mg base CX0 "come_to_at" "come_to_at" s_come_to_at 5 ["columns", "shares", "place"] c_cometo :=
  dfnA (m := 3) F hm bn sc_come_to_at (by intro ds μ Q X h; first | (obtain ⟨_, _, _, _, ⟨_, _, rfl, _⟩ | ⟨_, _, rfl, _⟩⟩ := h <;> rfl) | (obtain ⟨_, rfl, _⟩ := h; rfl) | (obtain ⟨_, _, rfl, _⟩ := h; rfl) | (obtain ⟨_, _, _, rfl, _⟩ := h; rfl) | (obtain ⟨_, _, _, _, rfl, _⟩ := h; rfl) | (obtain ⟨_, _, _, _, _, rfl, _⟩ := h; rfl) | (obtain ⟨_, _, _, _, _, _, rfl, _⟩ := h; rfl) | (obtain ⟨_, _, _, _, _, _, _, rfl, _⟩ := h; rfl) | (obtain ⟨_, _, _, _, _, _, _, _, rfl, _⟩ := h; rfl) | (obtain ⟨rfl, _⟩ := h; rfl)) (hb_come_to_at) (d_come_to_at T F_worth)
theorem ok_fit {P : Program} {w : World} {K : PySem.W.Frag} {mg : Str → Option Value} {base : Heap} {C_Board : Addr} {f : Addr} {fd : FuncData} (F : Fun K "fit" "fit" s_fit f fd) (hm : mg "fit" = some (.ref f)) (bn : Binds K fd ["columns", "shares", "rights"] []) (T : Txt K mg C_Board) (F_under : Dfn P w K mg base CX0 "under" "under" s_under 1 ["one", "other"] c_under) (F_come_to_at : Dfn P w K mg base CX0 "come_to_at" "come_to_at" s_come_to_at 5 ["columns", "shares", "place"] c_cometo) :
    Dfn P w K mg base CX0 "fit" "fit" s_fit 6 ["columns", "shares", "rights"] c_fit :=
  dfnA (m := 3) F hm bn sc_fit (by intro ds μ Q X h; first | (obtain ⟨_, _, _, _, ⟨_, _, rfl, _⟩ | ⟨_, _, rfl, _⟩⟩ := h <;> rfl) | (obtain ⟨_, rfl, _⟩ := h; rfl) | (obtain ⟨_, _, rfl, _⟩ := h; rfl) | (obtain ⟨_, _, _, rfl, _⟩ := h; rfl) | (obtain ⟨_, _, _, _, rfl, _⟩ := h; rfl) | (obtain ⟨_, _, _, _, _, rfl, _⟩ := h; rfl) | (obtain ⟨_, _, _, _, _, _, rfl, _⟩ := h; rfl) | (obtain ⟨_, _, _, _, _, _, _, rfl, _⟩ := h; rfl) | (obtain ⟨_, _, _, _, _, _, _, _, rfl, _⟩ := h; rfl) | (obtain ⟨rfl, _⟩ := h; rfl)) (hb_fit) (d_fit T F_under F_come_to_at)
theorem ok_is_most {P : Program} {w : World} {K : PySem.W.Frag} {mg : Str → Option Value} {base : Heap} {C_Board : Addr} {f : Addr} {fd : FuncData} (F : Fun K "is_most" "is_most" s_is_most f fd) (hm : mg "is_most" = some (.ref f)) (bn : Binds K fd ["sheet", "shares", "prices"] []) (T : Txt K mg C_Board) (F_are_shares : Dfn P w K mg base CX0 "are_shares" "are_shares" s_are_shares 3 ["thing", "many"] c_areshares) (F_fit : Dfn P w K mg base CX0 "fit" "fit" s_fit 6 ["columns", "shares", "rights"] c_fit) (F_under : Dfn P w K mg base CX0 "under" "under" s_under 1 ["one", "other"] c_under) (F_worth : Dfn P w K mg base CX0 "worth" "worth" s_worth 4 ["one", "other"] c_worth) :
    Dfn P w K mg base CX0 "is_most" "is_most" s_is_most 7 ["sheet", "shares", "prices"] c_ismost :=
  dfnA (m := 3) F hm bn sc_is_most (by intro ds μ Q X h; first | (obtain ⟨_, _, _, _, ⟨_, _, rfl, _⟩ | ⟨_, _, rfl, _⟩⟩ := h <;> rfl) | (obtain ⟨_, rfl, _⟩ := h; rfl) | (obtain ⟨_, _, rfl, _⟩ := h; rfl) | (obtain ⟨_, _, _, rfl, _⟩ := h; rfl) | (obtain ⟨_, _, _, _, rfl, _⟩ := h; rfl) | (obtain ⟨_, _, _, _, _, rfl, _⟩ := h; rfl) | (obtain ⟨_, _, _, _, _, _, rfl, _⟩ := h; rfl) | (obtain ⟨_, _, _, _, _, _, _, rfl, _⟩ := h; rfl) | (obtain ⟨_, _, _, _, _, _, _, _, rfl, _⟩ := h; rfl) | (obtain ⟨rfl, _⟩ := h; rfl)) (hb_is_most) (d_is_most T F_are_shares F_fit F_under F_worth)
theorem ok_is_endless {P : Program} {w : World} {K : PySem.W.Frag} {mg : Str → Option Value} {base : Heap} {C_Board : Addr} {f : Addr} {fd : FuncData} (F : Fun K "is_endless" "is_endless" s_is_endless f fd) (hm : mg "is_endless" = some (.ref f)) (bn : Binds K fd ["sheet", "shares"] []) (T : Txt K mg C_Board) (F_are_shares : Dfn P w K mg base CX0 "are_shares" "are_shares" s_are_shares 3 ["thing", "many"] c_areshares) (F_fit : Dfn P w K mg base CX0 "fit" "fit" s_fit 6 ["columns", "shares", "rights"] c_fit) (F_under : Dfn P w K mg base CX0 "under" "under" s_under 1 ["one", "other"] c_under) (F_worth : Dfn P w K mg base CX0 "worth" "worth" s_worth 4 ["one", "other"] c_worth) :
    Dfn P w K mg base CX0 "is_endless" "is_endless" s_is_endless 7 ["sheet", "shares"] c_isendless :=
  dfnA (m := 2) F hm bn sc_is_endless (by intro ds μ Q X h; first | (obtain ⟨_, _, _, _, ⟨_, _, rfl, _⟩ | ⟨_, _, rfl, _⟩⟩ := h <;> rfl) | (obtain ⟨_, rfl, _⟩ := h; rfl) | (obtain ⟨_, _, rfl, _⟩ := h; rfl) | (obtain ⟨_, _, _, rfl, _⟩ := h; rfl) | (obtain ⟨_, _, _, _, rfl, _⟩ := h; rfl) | (obtain ⟨_, _, _, _, _, rfl, _⟩ := h; rfl) | (obtain ⟨_, _, _, _, _, _, rfl, _⟩ := h; rfl) | (obtain ⟨_, _, _, _, _, _, _, rfl, _⟩ := h; rfl) | (obtain ⟨_, _, _, _, _, _, _, _, rfl, _⟩ := h; rfl) | (obtain ⟨rfl, _⟩ := h; rfl)) (hb_is_endless) (d_is_endless T F_are_shares F_fit F_under F_worth)
theorem ok_lets_most {P : Program} {w : World} {K : PySem.W.Frag} {mg : Str → Option Value} {base : Heap} {C_Board : Addr} {f : Addr} {fd : FuncData} (F : Fun K "lets_most" "lets_most" s_lets_most f fd) (hm : mg "lets_most" = some (.ref f)) (bn : Binds K fd ["sheet", "thing"] []) (T : Txt K mg C_Board) (F_is_most : Dfn P w K mg base CX0 "is_most" "is_most" s_is_most 7 ["sheet", "shares", "prices"] c_ismost) (F_is_endless : Dfn P w K mg base CX0 "is_endless" "is_endless" s_is_endless 7 ["sheet", "shares"] c_isendless) :
    Dfn P w K mg base CX0 "lets_most" "lets_most" s_lets_most 8 ["sheet", "thing"] c_letsmost :=
  dfnA (m := 2) F hm bn sc_lets_most (by intro ds μ Q X h; first | (obtain ⟨_, _, _, _, ⟨_, _, rfl, _⟩ | ⟨_, _, rfl, _⟩⟩ := h <;> rfl) | (obtain ⟨_, rfl, _⟩ := h; rfl) | (obtain ⟨_, _, rfl, _⟩ := h; rfl) | (obtain ⟨_, _, _, rfl, _⟩ := h; rfl) | (obtain ⟨_, _, _, _, rfl, _⟩ := h; rfl) | (obtain ⟨_, _, _, _, _, rfl, _⟩ := h; rfl) | (obtain ⟨_, _, _, _, _, _, rfl, _⟩ := h; rfl) | (obtain ⟨_, _, _, _, _, _, _, rfl, _⟩ := h; rfl) | (obtain ⟨_, _, _, _, _, _, _, _, rfl, _⟩ := h; rfl) | (obtain ⟨rfl, _⟩ := h; rfl)) (hb_lets_most) (d_lets_most T F_is_most F_is_endless)
theorem ok_law {P : Program} {w : World} {K : PySem.W.Frag} {mg : Str → Option Value} {base : Heap} {C_Board : Addr} {f : Addr} {fd : FuncData} (F : Fun K "law" "law" s_law f fd) (hm : mg "law" = some (.ref f)) (bn : Binds K fd ["_law_script"] []) (T : Txt K mg C_Board) (F_law_pool : Dfn P w K mg base CX0 "_law_pool" "_law_pool" s_law_pool 2 ["_law_script", "_law_k"] c_pool) (F_law_sheet : Dfn P w K mg base CX0 "_law_sheet" "_law_sheet" s_law_sheet 3 ["_law_pool_here"] K33.c_lsheet) (F_most_of : Dfn P w K mg base CX0 "most_of" "most_of" s_most_of 5 ["sheet"] (c_mostof C_Board)) (F_law_take : Dfn P w K mg base CX0 "_law_take" "_law_take" s_law_take 1 ["_law_pool_here", "_law_many"] c_take) (F_law_bent : Dfn P w K mg base CX0 "_law_bent" "_law_bent" s_law_bent 4 ["_law_told", "_law_pool_here"] c_lbent) (F_law_is_told : Dfn P w K mg base CX0 "_law_is_told" "_law_is_told" s_law_is_told 5 ["_law_sheet_here", "_law_told"] c_listold34) (F_lets_most : Dfn P w K mg base CX0 "lets_most" "lets_most" s_lets_most 8 ["sheet", "thing"] c_letsmost) :
    DfnG P w K mg base CX0 "law" "law" s_law 9 ["_law_script"] cLaw :=
  dfnGA (m := 1) F hm bn sc_law (by intro ds μ Q X h; first | (obtain ⟨_, _, _, _, ⟨_, _, rfl, _⟩ | ⟨_, _, rfl, _⟩⟩ := h <;> rfl) | (obtain ⟨_, rfl, _⟩ := h; rfl) | (obtain ⟨_, _, rfl, _⟩ := h; rfl) | (obtain ⟨_, _, _, rfl, _⟩ := h; rfl) | (obtain ⟨_, _, _, _, rfl, _⟩ := h; rfl) | (obtain ⟨_, _, _, _, _, rfl, _⟩ := h; rfl) | (obtain ⟨_, _, _, _, _, _, rfl, _⟩ := h; rfl) | (obtain ⟨_, _, _, _, _, _, _, rfl, _⟩ := h; rfl) | (obtain ⟨_, _, _, _, _, _, _, _, rfl, _⟩ := h; rfl) | (obtain ⟨rfl, _⟩ := h; rfl)) (hb_law) (d_law T F_law_pool F_law_sheet F_most_of F_law_take F_law_bent F_law_is_told F_lets_most)
theorem all_mk {l : PySem.W.OpenLaw} {w : World} {K : PySem.W.Frag} {h : Heap} {mg : Str → Option Value} {fa : Addr} (X : K.In h) (G : h.Ns mainGlobals mg) (hfa : mg "law" = some (.ref fa))
    {f1 : Addr} {od1 an1 : Option Addr} {sl1 : Array (Option Value)} {oc1 kV1 dc1 pm1 cd1 ct1 : Value}
    {f2 : Addr} {od2 an2 : Option Addr} {sl2 : Array (Option Value)} {oc2 kV2 dc2 pm2 cd2 ct2 : Value}
    {f3 : Addr} {od3 an3 : Option Addr} {sl3 : Array (Option Value)} {oc3 kV3 dc3 pm3 cd3 ct3 : Value}
    {f4 : Addr} {od4 an4 : Option Addr} {sl4 : Array (Option Value)} {oc4 kV4 dc4 pm4 cd4 ct4 : Value}
    {f5 : Addr} {od5 an5 : Option Addr} {sl5 : Array (Option Value)} {oc5 kV5 dc5 pm5 cd5 ct5 : Value}
    {f6 : Addr} {od6 an6 : Option Addr} {sl6 : Array (Option Value)} {oc6 kV6 dc6 pm6 cd6 ct6 : Value}
    {f7 : Addr} {od7 an7 : Option Addr} {sl7 : Array (Option Value)} {oc7 kV7 dc7 pm7 cd7 ct7 : Value}
    {f8 : Addr} {od8 an8 : Option Addr} {sl8 : Array (Option Value)} {oc8 kV8 dc8 pm8 cd8 ct8 : Value}
    {f9 : Addr} {od9 an9 : Option Addr} {sl9 : Array (Option Value)} {oc9 kV9 dc9 pm9 cd9 ct9 : Value}
    {f10 : Addr} {od10 an10 : Option Addr} {sl10 : Array (Option Value)} {oc10 kV10 dc10 pm10 cd10 ct10 : Value}
    {f11 : Addr} {od11 an11 : Option Addr} {sl11 : Array (Option Value)} {oc11 kV11 dc11 pm11 cd11 ct11 : Value}
    {f12 : Addr} {od12 an12 : Option Addr} {sl12 : Array (Option Value)} {oc12 kV12 dc12 pm12 cd12 ct12 : Value}
    {f13 : Addr} {od13 an13 : Option Addr} {sl13 : Array (Option Value)} {oc13 kV13 dc13 pm13 cd13 ct13 : Value}
    {f14 : Addr} {od14 an14 : Option Addr} {sl14 : Array (Option Value)} {oc14 kV14 dc14 pm14 cd14 ct14 : Value}
    {f15 : Addr} {od15 an15 : Option Addr} {sl15 : Array (Option Value)} {oc15 kV15 dc15 pm15 cd15 ct15 : Value}
    {f16 : Addr} {od16 an16 : Option Addr} {sl16 : Array (Option Value)} {oc16 kV16 dc16 pm16 cd16 ct16 : Value}
    {f17 : Addr} {od17 an17 : Option Addr} {sl17 : Array (Option Value)} {oc17 kV17 dc17 pm17 cd17 ct17 : Value}
    {f18 : Addr} {od18 an18 : Option Addr} {sl18 : Array (Option Value)} {oc18 kV18 dc18 pm18 cd18 ct18 : Value}
    {f19 : Addr} {od19 an19 : Option Addr} {sl19 : Array (Option Value)} {oc19 kV19 dc19 pm19 cd19 ct19 : Value}
    {f20 : Addr} {od20 an20 : Option Addr} {sl20 : Array (Option Value)} {oc20 kV20 dc20 pm20 cd20 ct20 : Value}
    {f21 : Addr} {od21 an21 : Option Addr} {sl21 : Array (Option Value)} {oc21 kV21 dc21 pm21 cd21 ct21 : Value}
    {f22 : Addr} {od22 an22 : Option Addr} {sl22 : Array (Option Value)} {oc22 kV22 dc22 pm22 cd22 ct22 : Value}
    {f23 : Addr} {od23 an23 : Option Addr} {sl23 : Array (Option Value)} {oc23 kV23 dc23 pm23 cd23 ct23 : Value}
    {f24 : Addr} {od24 an24 : Option Addr} {sl24 : Array (Option Value)} {oc24 kV24 dc24 pm24 cd24 ct24 : Value}
    {f25 : Addr} {od25 an25 : Option Addr} {sl25 : Array (Option Value)} {oc25 kV25 dc25 pm25 cd25 ct25 : Value}
    {f26 : Addr} {od26 an26 : Option Addr} {sl26 : Array (Option Value)} {oc26 kV26 dc26 pm26 cd26 ct26 : Value}
    {f27 : Addr} {od27 an27 : Option Addr} {sl27 : Array (Option Value)} {oc27 kV27 dc27 pm27 cd27 ct27 : Value}
    {f28 : Addr} {od28 an28 : Option Addr} {sl28 : Array (Option Value)} {oc28 kV28 dc28 pm28 cd28 ct28 : Value}
    {f29 : Addr} {od29 an29 : Option Addr} {sl29 : Array (Option Value)} {oc29 kV29 dc29 pm29 cd29 ct29 : Value}
    {f30 : Addr} {od30 an30 : Option Addr} {sl30 : Array (Option Value)} {oc30 kV30 dc30 pm30 cd30 ct30 : Value}
    {f31 : Addr} {od31 an31 : Option Addr} {sl31 : Array (Option Value)} {oc31 kV31 dc31 pm31 cd31 ct31 : Value}
    {f32 : Addr} {od32 an32 : Option Addr} {sl32 : Array (Option Value)} {oc32 kV32 dc32 pm32 cd32 ct32 : Value}
    {f33 : Addr} {od33 an33 : Option Addr} {sl33 : Array (Option Value)} {oc33 kV33 dc33 pm33 cd33 ct33 : Value}
    {f34 : Addr} {od34 an34 : Option Addr} {sl34 : Array (Option Value)} {oc34 kV34 dc34 pm34 cd34 ct34 : Value}
    {f35 : Addr} {od35 an35 : Option Addr} {sl35 : Array (Option Value)} {oc35 kV35 dc35 pm35 cd35 ct35 : Value}
    {f36 : Addr} {od36 an36 : Option Addr} {sl36 : Array (Option Value)} {oc36 kV36 dc36 pm36 cd36 ct36 : Value}
    {f37 : Addr} {od37 an37 : Option Addr} {sl37 : Array (Option Value)} {oc37 kV37 dc37 pm37 cd37 ct37 : Value}
    {f38 : Addr} {od38 an38 : Option Addr} {sl38 : Array (Option Value)} {oc38 kV38 dc38 pm38 cd38 ct38 : Value}
    {f39 : Addr} {od39 an39 : Option Addr} {sl39 : Array (Option Value)} {oc39 kV39 dc39 pm39 cd39 ct39 : Value}
    {f40 : Addr} {od40 an40 : Option Addr} {sl40 : Array (Option Value)} {oc40 kV40 dc40 pm40 cd40 ct40 : Value}
    {f41 : Addr} {od41 an41 : Option Addr} {sl41 : Array (Option Value)} {oc41 kV41 dc41 pm41 cd41 ct41 : Value}
    {f42 : Addr} {od42 an42 : Option Addr} {sl42 : Array (Option Value)} {oc42 kV42 dc42 pm42 cd42 ct42 : Value}
    {n_NOUGHT : Addr} {dd_NOUGHT : Option Addr} {m_NOUGHT : Nat} {sl_NOUGHT : Array (Option Value)} {tk_NOUGHT_0 tk_NOUGHT_1 : Tok}
    {C_Board : Addr}
    (a1 : PySem.W.nsIn K mainGlobals "_law_cell_at" = some (some (.ref f1))) (l1 : K.lookup f1 = some ⟨oc1, od1, .func (PySem.W.fnOf "_law_cell_at" "_law_cell_at" (defArgs s_law_cell_at) (defBody s_law_cell_at) (defScope s_law_cell_at) .none kV1 dc1 pm1 an1 cd1 ct1), sl1⟩) (c1 : PySem.W.codeIn K cd1 "_law_cell_at" = true) (k1 : PySem.W.keepIn K (.ref f1) = true)
    (a2 : PySem.W.nsIn K mainGlobals "_law_pool" = some (some (.ref f2))) (l2 : K.lookup f2 = some ⟨oc2, od2, .func (PySem.W.fnOf "_law_pool" "_law_pool" (defArgs s_law_pool) (defBody s_law_pool) (defScope s_law_pool) .none kV2 dc2 pm2 an2 cd2 ct2), sl2⟩) (c2 : PySem.W.codeIn K cd2 "_law_pool" = true) (k2 : PySem.W.keepIn K (.ref f2) = true)
    (a3 : PySem.W.nsIn K mainGlobals "_law_take" = some (some (.ref f3))) (l3 : K.lookup f3 = some ⟨oc3, od3, .func (PySem.W.fnOf "_law_take" "_law_take" (defArgs s_law_take) (defBody s_law_take) (defScope s_law_take) .none kV3 dc3 pm3 an3 cd3 ct3), sl3⟩) (c3 : PySem.W.codeIn K cd3 "_law_take" = true) (k3 : PySem.W.keepIn K (.ref f3) = true)
    (a4 : PySem.W.nsIn K mainGlobals "_law_low" = some (some (.ref f4))) (l4 : K.lookup f4 = some ⟨oc4, od4, .func (PySem.W.fnOf "_law_low" "_law_low" (defArgs s_law_low) (defBody s_law_low) (defScope s_law_low) .none kV4 dc4 pm4 an4 cd4 ct4), sl4⟩) (c4 : PySem.W.codeIn K cd4 "_law_low" = true) (k4 : PySem.W.keepIn K (.ref f4) = true)
    (a5 : PySem.W.nsIn K mainGlobals "_law_part" = some (some (.ref f5))) (l5 : K.lookup f5 = some ⟨oc5, od5, .func (PySem.W.fnOf "_law_part" "_law_part" (defArgs s_law_part) (defBody s_law_part) (defScope s_law_part) .none kV5 dc5 pm5 an5 cd5 ct5), sl5⟩) (c5 : PySem.W.codeIn K cd5 "_law_part" = true) (k5 : PySem.W.keepIn K (.ref f5) = true)
    (a6 : PySem.W.nsIn K mainGlobals "_law_sheet" = some (some (.ref f6))) (l6 : K.lookup f6 = some ⟨oc6, od6, .func (PySem.W.fnOf "_law_sheet" "_law_sheet" (defArgs s_law_sheet) (defBody s_law_sheet) (defScope s_law_sheet) .none kV6 dc6 pm6 an6 cd6 ct6), sl6⟩) (c6 : PySem.W.codeIn K cd6 "_law_sheet" = true) (k6 : PySem.W.keepIn K (.ref f6) = true)
    (a7 : PySem.W.nsIn K mainGlobals "shared" = some (some (.ref f7))) (l7 : K.lookup f7 = some ⟨oc7, od7, .func (PySem.W.fnOf "shared" "shared" (defArgs s_shared) (defBody s_shared) (defScope s_shared) .none kV7 dc7 pm7 an7 cd7 ct7), sl7⟩) (c7 : PySem.W.codeIn K cd7 "shared" = true) (k7 : PySem.W.keepIn K (.ref f7) = true)
    (a8 : PySem.W.nsIn K mainGlobals "common" = some (some (.ref f8))) (l8 : K.lookup f8 = some ⟨oc8, od8, .func (PySem.W.fnOf "common" "common" (defArgs s_common) (defBody s_common) (defScope s_common) .none kV8 dc8 pm8 an8 cd8 ct8), sl8⟩) (c8 : PySem.W.codeIn K cd8 "common" = true) (k8 : PySem.W.keepIn K (.ref f8) = true)
    (mt9 : PySem.W.findIn K (.ref C_Board) "__init__" = some (some (.ref f9))) (l9 : K.lookup f9 = some ⟨oc9, od9, .func (PySem.W.fnOf "__init__" "Board.__init__" (defArgs s_Board___init__) (defBody s_Board___init__) (defScope s_Board___init__) .none kV9 dc9 pm9 an9 cd9 ct9), sl9⟩) (c9 : PySem.W.codeIn K cd9 "Board.__init__" = true) (k9 : PySem.W.keepIn K (.ref f9) = true) (fn9 : PySem.W.isFn K (.ref f9) = true)
    (mt10 : PySem.W.findIn K (.ref C_Board) "add" = some (some (.ref f10))) (l10 : K.lookup f10 = some ⟨oc10, od10, .func (PySem.W.fnOf "add" "Board.add" (defArgs s_Board_add) (defBody s_Board_add) (defScope s_Board_add) .none kV10 dc10 pm10 an10 cd10 ct10), sl10⟩) (c10 : PySem.W.codeIn K cd10 "Board.add" = true) (k10 : PySem.W.keepIn K (.ref f10) = true) (fn10 : PySem.W.isFn K (.ref f10) = true)
    (mt11 : PySem.W.findIn K (.ref C_Board) "wanted" = some (some (.ref f11))) (l11 : K.lookup f11 = some ⟨oc11, od11, .func (PySem.W.fnOf "wanted" "Board.wanted" (defArgs s_Board_wanted) (defBody s_Board_wanted) (defScope s_Board_wanted) .none kV11 dc11 pm11 an11 cd11 ct11), sl11⟩) (c11 : PySem.W.codeIn K cd11 "Board.wanted" = true) (k11 : PySem.W.keepIn K (.ref f11) = true) (fn11 : PySem.W.isFn K (.ref f11) = true)
    (mt12 : PySem.W.findIn K (.ref C_Board) "leaving" = some (some (.ref f12))) (l12 : K.lookup f12 = some ⟨oc12, od12, .func (PySem.W.fnOf "leaving" "Board.leaving" (defArgs s_Board_leaving) (defBody s_Board_leaving) (defScope s_Board_leaving) .none kV12 dc12 pm12 an12 cd12 ct12), sl12⟩) (c12 : PySem.W.codeIn K cd12 "Board.leaving" = true) (k12 : PySem.W.keepIn K (.ref f12) = true) (fn12 : PySem.W.isFn K (.ref f12) = true)
    (mt13 : PySem.W.findIn K (.ref C_Board) "turn" = some (some (.ref f13))) (l13 : K.lookup f13 = some ⟨oc13, od13, .func (PySem.W.fnOf "turn" "Board.turn" (defArgs s_Board_turn) (defBody s_Board_turn) (defScope s_Board_turn) .none kV13 dc13 pm13 an13 cd13 ct13), sl13⟩) (c13 : PySem.W.codeIn K cd13 "Board.turn" = true) (k13 : PySem.W.keepIn K (.ref f13) = true) (fn13 : PySem.W.isFn K (.ref f13) = true)
    (mt14 : PySem.W.findIn K (.ref C_Board) "settle" = some (some (.ref f14))) (l14 : K.lookup f14 = some ⟨oc14, od14, .func (PySem.W.fnOf "settle" "Board.settle" (defArgs s_Board_settle) (defBody s_Board_settle) (defScope s_Board_settle) .none kV14 dc14 pm14 an14 cd14 ct14), sl14⟩) (c14 : PySem.W.codeIn K cd14 "Board.settle" = true) (k14 : PySem.W.keepIn K (.ref f14) = true) (fn14 : PySem.W.isFn K (.ref f14) = true)
    (a15 : PySem.W.nsIn K mainGlobals "lowest" = some (some (.ref f15))) (l15 : K.lookup f15 = some ⟨oc15, od15, .func (PySem.W.fnOf "lowest" "lowest" (defArgs s_lowest) (defBody s_lowest) (defScope s_lowest) .none kV15 dc15 pm15 an15 cd15 ct15), sl15⟩) (c15 : PySem.W.codeIn K cd15 "lowest" = true) (k15 : PySem.W.keepIn K (.ref f15) = true)
    (mt16 : PySem.W.findIn K (.ref C_Board) "endless" = some (some (.ref f16))) (l16 : K.lookup f16 = some ⟨oc16, od16, .func (PySem.W.fnOf "endless" "Board.endless" (defArgs s_Board_endless) (defBody s_Board_endless) (defScope s_Board_endless) .none kV16 dc16 pm16 an16 cd16 ct16), sl16⟩) (c16 : PySem.W.codeIn K cd16 "Board.endless" = true) (k16 : PySem.W.keepIn K (.ref f16) = true) (fn16 : PySem.W.isFn K (.ref f16) = true)
    (mt17 : PySem.W.findIn K (.ref C_Board) "shares" = some (some (.ref f17))) (l17 : K.lookup f17 = some ⟨oc17, od17, .func (PySem.W.fnOf "shares" "Board.shares" (defArgs s_Board_shares) (defBody s_Board_shares) (defScope s_Board_shares) .none kV17 dc17 pm17 an17 cd17 ct17), sl17⟩) (c17 : PySem.W.codeIn K cd17 "Board.shares" = true) (k17 : PySem.W.keepIn K (.ref f17) = true) (fn17 : PySem.W.isFn K (.ref f17) = true)
    (mt18 : PySem.W.findIn K (.ref C_Board) "prices" = some (some (.ref f18))) (l18 : K.lookup f18 = some ⟨oc18, od18, .func (PySem.W.fnOf "prices" "Board.prices" (defArgs s_Board_prices) (defBody s_Board_prices) (defScope s_Board_prices) .none kV18 dc18 pm18 an18 cd18 ct18), sl18⟩) (c18 : PySem.W.codeIn K cd18 "Board.prices" = true) (k18 : PySem.W.keepIn K (.ref f18) = true) (fn18 : PySem.W.isFn K (.ref f18) = true)
    (a19 : PySem.W.nsIn K mainGlobals "most_of" = some (some (.ref f19))) (l19 : K.lookup f19 = some ⟨oc19, od19, .func (PySem.W.fnOf "most_of" "most_of" (defArgs s_most_of) (defBody s_most_of) (defScope s_most_of) .none kV19 dc19 pm19 an19 cd19 ct19), sl19⟩) (c19 : PySem.W.codeIn K cd19 "most_of" = true) (k19 : PySem.W.keepIn K (.ref f19) = true)
    (a20 : PySem.W.nsIn K mainGlobals "_law_plus" = some (some (.ref f20))) (l20 : K.lookup f20 = some ⟨oc20, od20, .func (PySem.W.fnOf "_law_plus" "_law_plus" (defArgs s_law_plus) (defBody s_law_plus) (defScope s_law_plus) .none kV20 dc20 pm20 an20 cd20 ct20), sl20⟩) (c20 : PySem.W.codeIn K cd20 "_law_plus" = true) (k20 : PySem.W.keepIn K (.ref f20) = true)
    (a21 : PySem.W.nsIn K mainGlobals "_law_minus" = some (some (.ref f21))) (l21 : K.lookup f21 = some ⟨oc21, od21, .func (PySem.W.fnOf "_law_minus" "_law_minus" (defArgs s_law_minus) (defBody s_law_minus) (defScope s_law_minus) .none kV21 dc21 pm21 an21 cd21 ct21), sl21⟩) (c21 : PySem.W.codeIn K cd21 "_law_minus" = true) (k21 : PySem.W.keepIn K (.ref f21) = true)
    (a22 : PySem.W.nsIn K mainGlobals "_law_bent" = some (some (.ref f22))) (l22 : K.lookup f22 = some ⟨oc22, od22, .func (PySem.W.fnOf "_law_bent" "_law_bent" (defArgs s_law_bent) (defBody s_law_bent) (defScope s_law_bent) .none kV22 dc22 pm22 an22 cd22 ct22), sl22⟩) (c22 : PySem.W.codeIn K cd22 "_law_bent" = true) (k22 : PySem.W.keepIn K (.ref f22) = true)
    (a23 : PySem.W.nsIn K mainGlobals "_law_is_share" = some (some (.ref f23))) (l23 : K.lookup f23 = some ⟨oc23, od23, .func (PySem.W.fnOf "_law_is_share" "_law_is_share" (defArgs s_law_is_share) (defBody s_law_is_share) (defScope s_law_is_share) .none kV23 dc23 pm23 an23 cd23 ct23), sl23⟩) (c23 : PySem.W.codeIn K cd23 "_law_is_share" = true) (k23 : PySem.W.keepIn K (.ref f23) = true)
    (a24 : PySem.W.nsIn K mainGlobals "_law_are_shares" = some (some (.ref f24))) (l24 : K.lookup f24 = some ⟨oc24, od24, .func (PySem.W.fnOf "_law_are_shares" "_law_are_shares" (defArgs s_law_are_shares) (defBody s_law_are_shares) (defScope s_law_are_shares) .none kV24 dc24 pm24 an24 cd24 ct24), sl24⟩) (c24 : PySem.W.codeIn K cd24 "_law_are_shares" = true) (k24 : PySem.W.keepIn K (.ref f24) = true)
    (a25 : PySem.W.nsIn K mainGlobals "_law_less" = some (some (.ref f25))) (l25 : K.lookup f25 = some ⟨oc25, od25, .func (PySem.W.fnOf "_law_less" "_law_less" (defArgs s_law_less) (defBody s_law_less) (defScope s_law_less) .none kV25 dc25 pm25 an25 cd25 ct25), sl25⟩) (c25 : PySem.W.codeIn K cd25 "_law_less" = true) (k25 : PySem.W.keepIn K (.ref f25) = true)
    (a26 : PySem.W.nsIn K mainGlobals "_law_times" = some (some (.ref f26))) (l26 : K.lookup f26 = some ⟨oc26, od26, .func (PySem.W.fnOf "_law_times" "_law_times" (defArgs s_law_times) (defBody s_law_times) (defScope s_law_times) .none kV26 dc26 pm26 an26 cd26 ct26), sl26⟩) (c26 : PySem.W.codeIn K cd26 "_law_times" = true) (k26 : PySem.W.keepIn K (.ref f26) = true)
    (a27 : PySem.W.nsIn K mainGlobals "_law_worth" = some (some (.ref f27))) (l27 : K.lookup f27 = some ⟨oc27, od27, .func (PySem.W.fnOf "_law_worth" "_law_worth" (defArgs s_law_worth) (defBody s_law_worth) (defScope s_law_worth) .none kV27 dc27 pm27 an27 cd27 ct27), sl27⟩) (c27 : PySem.W.codeIn K cd27 "_law_worth" = true) (k27 : PySem.W.keepIn K (.ref f27) = true)
    (a28 : PySem.W.nsIn K mainGlobals "_law_fits" = some (some (.ref f28))) (l28 : K.lookup f28 = some ⟨oc28, od28, .func (PySem.W.fnOf "_law_fits" "_law_fits" (defArgs s_law_fits) (defBody s_law_fits) (defScope s_law_fits) .none kV28 dc28 pm28 an28 cd28 ct28), sl28⟩) (c28 : PySem.W.codeIn K cd28 "_law_fits" = true) (k28 : PySem.W.keepIn K (.ref f28) = true)
    (a29 : PySem.W.nsIn K mainGlobals "_law_is_told" = some (some (.ref f29))) (l29 : K.lookup f29 = some ⟨oc29, od29, .func (PySem.W.fnOf "_law_is_told" "_law_is_told" (defArgs s_law_is_told) (defBody s_law_is_told) (defScope s_law_is_told) .none kV29 dc29 pm29 an29 cd29 ct29), sl29⟩) (c29 : PySem.W.codeIn K cd29 "_law_is_told" = true) (k29 : PySem.W.keepIn K (.ref f29) = true)
    (a30 : PySem.W.nsIn K mainGlobals "is_whole" = some (some (.ref f30))) (l30 : K.lookup f30 = some ⟨oc30, od30, .func (PySem.W.fnOf "is_whole" "is_whole" (defArgs s_is_whole) (defBody s_is_whole) (defScope s_is_whole) .none kV30 dc30 pm30 an30 cd30 ct30), sl30⟩) (c30 : PySem.W.codeIn K cd30 "is_whole" = true) (k30 : PySem.W.keepIn K (.ref f30) = true)
    (a31 : PySem.W.nsIn K mainGlobals "is_fraction" = some (some (.ref f31))) (l31 : K.lookup f31 = some ⟨oc31, od31, .func (PySem.W.fnOf "is_fraction" "is_fraction" (defArgs s_is_fraction) (defBody s_is_fraction) (defScope s_is_fraction) .none kV31 dc31 pm31 an31 cd31 ct31), sl31⟩) (c31 : PySem.W.codeIn K cd31 "is_fraction" = true) (k31 : PySem.W.keepIn K (.ref f31) = true)
    (a32 : PySem.W.nsIn K mainGlobals "are_shares" = some (some (.ref f32))) (l32 : K.lookup f32 = some ⟨oc32, od32, .func (PySem.W.fnOf "are_shares" "are_shares" (defArgs s_are_shares) (defBody s_are_shares) (defScope s_are_shares) .none kV32 dc32 pm32 an32 cd32 ct32), sl32⟩) (c32 : PySem.W.codeIn K cd32 "are_shares" = true) (k32 : PySem.W.keepIn K (.ref f32) = true)
    (a33 : PySem.W.nsIn K mainGlobals "under" = some (some (.ref f33))) (l33 : K.lookup f33 = some ⟨oc33, od33, .func (PySem.W.fnOf "under" "under" (defArgs s_under) (defBody s_under) (defScope s_under) .none kV33 dc33 pm33 an33 cd33 ct33), sl33⟩) (c33 : PySem.W.codeIn K cd33 "under" = true) (k33 : PySem.W.keepIn K (.ref f33) = true)
    (a34 : PySem.W.nsIn K mainGlobals "plus" = some (some (.ref f34))) (l34 : K.lookup f34 = some ⟨oc34, od34, .func (PySem.W.fnOf "plus" "plus" (defArgs s_plus) (defBody s_plus) (defScope s_plus) .none kV34 dc34 pm34 an34 cd34 ct34), sl34⟩) (c34 : PySem.W.codeIn K cd34 "plus" = true) (k34 : PySem.W.keepIn K (.ref f34) = true)
    (a35 : PySem.W.nsIn K mainGlobals "times" = some (some (.ref f35))) (l35 : K.lookup f35 = some ⟨oc35, od35, .func (PySem.W.fnOf "times" "times" (defArgs s_times) (defBody s_times) (defScope s_times) .none kV35 dc35 pm35 an35 cd35 ct35), sl35⟩) (c35 : PySem.W.codeIn K cd35 "times" = true) (k35 : PySem.W.keepIn K (.ref f35) = true)
    (a36 : PySem.W.nsIn K mainGlobals "worth" = some (some (.ref f36))) (l36 : K.lookup f36 = some ⟨oc36, od36, .func (PySem.W.fnOf "worth" "worth" (defArgs s_worth) (defBody s_worth) (defScope s_worth) .none kV36 dc36 pm36 an36 cd36 ct36), sl36⟩) (c36 : PySem.W.codeIn K cd36 "worth" = true) (k36 : PySem.W.keepIn K (.ref f36) = true)
    (a37 : PySem.W.nsIn K mainGlobals "come_to_at" = some (some (.ref f37))) (l37 : K.lookup f37 = some ⟨oc37, od37, .func (PySem.W.fnOf "come_to_at" "come_to_at" (defArgs s_come_to_at) (defBody s_come_to_at) (defScope s_come_to_at) .none kV37 dc37 pm37 an37 cd37 ct37), sl37⟩) (c37 : PySem.W.codeIn K cd37 "come_to_at" = true) (k37 : PySem.W.keepIn K (.ref f37) = true)
    (a38 : PySem.W.nsIn K mainGlobals "fit" = some (some (.ref f38))) (l38 : K.lookup f38 = some ⟨oc38, od38, .func (PySem.W.fnOf "fit" "fit" (defArgs s_fit) (defBody s_fit) (defScope s_fit) .none kV38 dc38 pm38 an38 cd38 ct38), sl38⟩) (c38 : PySem.W.codeIn K cd38 "fit" = true) (k38 : PySem.W.keepIn K (.ref f38) = true)
    (a39 : PySem.W.nsIn K mainGlobals "is_most" = some (some (.ref f39))) (l39 : K.lookup f39 = some ⟨oc39, od39, .func (PySem.W.fnOf "is_most" "is_most" (defArgs s_is_most) (defBody s_is_most) (defScope s_is_most) .none kV39 dc39 pm39 an39 cd39 ct39), sl39⟩) (c39 : PySem.W.codeIn K cd39 "is_most" = true) (k39 : PySem.W.keepIn K (.ref f39) = true)
    (a40 : PySem.W.nsIn K mainGlobals "is_endless" = some (some (.ref f40))) (l40 : K.lookup f40 = some ⟨oc40, od40, .func (PySem.W.fnOf "is_endless" "is_endless" (defArgs s_is_endless) (defBody s_is_endless) (defScope s_is_endless) .none kV40 dc40 pm40 an40 cd40 ct40), sl40⟩) (c40 : PySem.W.codeIn K cd40 "is_endless" = true) (k40 : PySem.W.keepIn K (.ref f40) = true)
    (a41 : PySem.W.nsIn K mainGlobals "lets_most" = some (some (.ref f41))) (l41 : K.lookup f41 = some ⟨oc41, od41, .func (PySem.W.fnOf "lets_most" "lets_most" (defArgs s_lets_most) (defBody s_lets_most) (defScope s_lets_most) .none kV41 dc41 pm41 an41 cd41 ct41), sl41⟩) (c41 : PySem.W.codeIn K cd41 "lets_most" = true) (k41 : PySem.W.keepIn K (.ref f41) = true)
    (a42 : PySem.W.nsIn K mainGlobals "law" = some (some (.ref f42))) (l42 : K.lookup f42 = some ⟨oc42, od42, .func (PySem.W.fnOf "law" "law" (defArgs s_law) (defBody s_law) (defScope s_law) .none kV42 dc42 pm42 an42 cd42 ct42), sl42⟩) (c42 : PySem.W.codeIn K cd42 "law" = true) (k42 : PySem.W.keepIn K (.ref f42) = true)
    (z0 : PySem.W.nsIn K mainGlobals "len" = some none)
    (z1 : PySem.W.nsIn K mainGlobals "abs" = some none)
    (z2 : PySem.W.nsIn K mainGlobals "range" = some none)
    (z3 : PySem.W.nsIn K mainGlobals "list" = some none)
    (z4 : PySem.W.nsIn K mainGlobals "enumerate" = some none)
    (z5 : PySem.W.nsIn K mainGlobals "int" = some none)
    (z6 : PySem.W.nsIn K mainGlobals "sum" = some none)
    (z7 : PySem.W.nsIn K mainGlobals "zip" = some none)
    (z8 : PySem.W.nsIn K mainGlobals "tuple" = some none)
    (z9 : PySem.W.nsIn K mainGlobals "isinstance" = some none)
    (z10 : PySem.W.nsIn K mainGlobals "bool" = some none)
    (z11 : PySem.W.nsIn K mainGlobals "all" = some none)
    (z12 : PySem.W.nsIn K mainGlobals "str" = some none)
    (z13 : PySem.W.nsIn K mainGlobals "max" = some none)
    (z14 : PySem.W.nsIn K mainGlobals "repr" = some none)
    (z15 : PySem.W.nsIn K mainGlobals "min" = some none)
    (a_NOUGHT : PySem.W.nsIn K mainGlobals "NOUGHT" = some (some (.ref n_NOUGHT))) (l_NOUGHT : K.lookup n_NOUGHT = some ⟨.type "tuple", dd_NOUGHT, .seq #[.int 0 tk_NOUGHT_0, .int 1 tk_NOUGHT_1] m_NOUGHT, sl_NOUGHT⟩)
    (g_Board : PySem.W.nsIn K mainGlobals "Board" = some (some (.ref C_Board)))
    (pg_Board : PySem.W.plainGet K C_Board Str.empty = true) (hd_Board : PySem.W.hasDictIn K C_Board = true) (po_Board : PySem.W.plainOver K C_Board = true) (sa_Board : PySem.W.findIn K (.ref C_Board) "__setattr__" = some (some (.builtin "object.__setattr__")))
    (mk_Board : PySem.W.makesIn K C_Board = true) (kC_Board : PySem.W.keepIn K (.ref C_Board) = true)
    (na_Board_scale : PySem.W.findIn K (.ref C_Board) "scale" = some none)
    (na_Board_rests : PySem.W.findIn K (.ref C_Board) "rests" = some none)
    (na_Board_bottom : PySem.W.findIn K (.ref C_Board) "bottom" = some none)
    (na_Board_rows : PySem.W.findIn K (.ref C_Board) "rows" = some none)
    (na_Board_gains : PySem.W.findIn K (.ref C_Board) "gains" = some none)
    (na_Board_basis : PySem.W.findIn K (.ref C_Board) "basis" = some none)
    (na_Board_scales : PySem.W.findIn K (.ref C_Board) "scales" = some none) :
    ∃ fd : FuncData, (∀ (s : Shared) (v : Value), BindsTo s fd ⟨[v], []⟩ [("_law_script", v)]) ∧ ∀ base : Heap, K.In base → base.Ns mainGlobals mg → FnG l.prog w K mg base CX0 9 fa fd ["_law_script"] (spD K cLaw) := by
  have e := hfa.symm.trans (PySem.W.mg_of X G a42)
  cases e
  have T : Txt K mg C_Board := ⟨PySem.W.mg_none_of X G z0, PySem.W.mg_none_of X G z1, PySem.W.mg_none_of X G z2, PySem.W.mg_none_of X G z3, PySem.W.mg_none_of X G z4, PySem.W.mg_none_of X G z5, PySem.W.mg_none_of X G z6, PySem.W.mg_none_of X G z7, PySem.W.mg_none_of X G z8, PySem.W.mg_none_of X G z9, PySem.W.mg_none_of X G z10, PySem.W.mg_none_of X G z11, PySem.W.mg_none_of X G z12, PySem.W.mg_none_of X G z13, PySem.W.mg_none_of X G z14, PySem.W.mg_none_of X G z15, ⟨.ref n_NOUGHT, _, PySem.W.mg_of X G a_NOUGHT, rfl, rep_ktup (vs := [V.int 0, V.int 1]) l_NOUGHT rfl rfl (by show 2 ≤ sizeLine; decide) (.cons ⟨_, rfl⟩ (.cons ⟨_, rfl⟩ .nil)) (fun _ => (.cons (.int 0) (.cons (.int 1) .nil)))⟩, PySem.W.mg_of X G g_Board, ⟨pg_Board, hd_Board, po_Board, sa_Board⟩, na_Board_scale, na_Board_rests, na_Board_bottom, na_Board_rows, na_Board_gains, na_Board_basis, na_Board_scales⟩
  have G1 := fun_mk (st := s_law_cell_at) l1 c1 k1
  have G2 := fun_mk (st := s_law_pool) l2 c2 k2
  have G3 := fun_mk (st := s_law_take) l3 c3 k3
  have G4 := fun_mk (st := s_law_low) l4 c4 k4
  have G5 := fun_mk (st := s_law_part) l5 c5 k5
  have G6 := fun_mk (st := s_law_sheet) l6 c6 k6
  have G7 := fun_mk (st := s_shared) l7 c7 k7
  have G8 := fun_mk (st := s_common) l8 c8 k8
  have G9 := fun_mk (st := s_Board___init__) l9 c9 k9
  have G10 := fun_mk (st := s_Board_add) l10 c10 k10
  have G11 := fun_mk (st := s_Board_wanted) l11 c11 k11
  have G12 := fun_mk (st := s_Board_leaving) l12 c12 k12
  have G13 := fun_mk (st := s_Board_turn) l13 c13 k13
  have G14 := fun_mk (st := s_Board_settle) l14 c14 k14
  have G15 := fun_mk (st := s_lowest) l15 c15 k15
  have G16 := fun_mk (st := s_Board_endless) l16 c16 k16
  have G17 := fun_mk (st := s_Board_shares) l17 c17 k17
  have G18 := fun_mk (st := s_Board_prices) l18 c18 k18
  have G19 := fun_mk (st := s_most_of) l19 c19 k19
  have G20 := fun_mk (st := s_law_plus) l20 c20 k20
  have G21 := fun_mk (st := s_law_minus) l21 c21 k21
  have G22 := fun_mk (st := s_law_bent) l22 c22 k22
  have G23 := fun_mk (st := s_law_is_share) l23 c23 k23
  have G24 := fun_mk (st := s_law_are_shares) l24 c24 k24
  have G25 := fun_mk (st := s_law_less) l25 c25 k25
  have G26 := fun_mk (st := s_law_times) l26 c26 k26
  have G27 := fun_mk (st := s_law_worth) l27 c27 k27
  have G28 := fun_mk (st := s_law_fits) l28 c28 k28
  have G29 := fun_mk (st := s_law_is_told) l29 c29 k29
  have G30 := fun_mk (st := s_is_whole) l30 c30 k30
  have G31 := fun_mk (st := s_is_fraction) l31 c31 k31
  have G32 := fun_mk (st := s_are_shares) l32 c32 k32
  have G33 := fun_mk (st := s_under) l33 c33 k33
  have G34 := fun_mk (st := s_plus) l34 c34 k34
  have G35 := fun_mk (st := s_times) l35 c35 k35
  have G36 := fun_mk (st := s_worth) l36 c36 k36
  have G37 := fun_mk (st := s_come_to_at) l37 c37 k37
  have G38 := fun_mk (st := s_fit) l38 c38 k38
  have G39 := fun_mk (st := s_is_most) l39 c39 k39
  have G40 := fun_mk (st := s_is_endless) l40 c40 k40
  have G41 := fun_mk (st := s_lets_most) l41 c41 k41
  have G42 := fun_mk (st := s_law) l42 c42 k42
  have B1 := G1.binds (ps := ["_law_script", "_law_k"]) fun _ _ _ _ _ _ us hl => match us, hl with | [_, _], _ => rfl
  have B2 := G2.binds (ps := ["_law_script", "_law_k"]) fun _ _ _ _ _ _ us hl => match us, hl with | [_, _], _ => rfl
  have B3 := G3.binds (ps := ["_law_pool_here", "_law_many"]) fun _ _ _ _ _ _ us hl => match us, hl with | [_, _], _ => rfl
  have B4 := G4.binds (ps := ["_law_top", "_law_bottom"]) fun _ _ _ _ _ _ us hl => match us, hl with | [_, _], _ => rfl
  have B5 := G5.binds (ps := ["_law_pool_here"]) fun _ _ _ _ _ _ us hl => match us, hl with | [_], _ => rfl
  have B6 := G6.binds (ps := ["_law_pool_here"]) fun _ _ _ _ _ _ us hl => match us, hl with | [_], _ => rfl
  have B7 := G7.binds (ps := ["one", "other"]) fun _ _ _ _ _ _ us hl => match us, hl with | [_, _], _ => rfl
  have B8 := G8.binds (ps := ["some"]) fun _ _ _ _ _ _ us hl => match us, hl with | [_], _ => rfl
  have B9 := G9.binds (ps := ["self", "rights"]) fun _ _ _ _ _ _ us hl => match us, hl with | [_, _], _ => rfl
  have B10 := G10.binds (ps := ["self", "gain", "column"]) fun _ _ _ _ _ _ us hl => match us, hl with | [_, _, _], _ => rfl
  have B11 := G11.binds (ps := ["self"]) fun _ _ _ _ _ _ us hl => match us, hl with | [_], _ => rfl
  have B12 := G12.binds (ps := ["self", "entering"]) fun _ _ _ _ _ _ us hl => match us, hl with | [_, _], _ => rfl
  have B13 := G13.binds (ps := ["self", "number", "entering"]) fun _ _ _ _ _ _ us hl => match us, hl with | [_, _, _], _ => rfl
  have B14 := G14.binds (ps := ["self"]) fun _ _ _ _ _ _ us hl => match us, hl with | [_], _ => rfl
  have B15 := G15.binds (ps := ["top", "bottom"]) fun _ _ _ _ _ _ us hl => match us, hl with | [_, _], _ => rfl
  have B16 := G16.binds (ps := ["self", "entering"]) fun _ _ _ _ _ _ us hl => match us, hl with | [_, _], _ => rfl
  have B17 := G17.binds (ps := ["self"]) fun _ _ _ _ _ _ us hl => match us, hl with | [_], _ => rfl
  have B18 := G18.binds (ps := ["self"]) fun _ _ _ _ _ _ us hl => match us, hl with | [_], _ => rfl
  have B19 := G19.binds (ps := ["sheet"]) fun _ _ _ _ _ _ us hl => match us, hl with | [_], _ => rfl
  have B20 := G20.binds (ps := ["_law_one", "_law_other"]) fun _ _ _ _ _ _ us hl => match us, hl with | [_, _], _ => rfl
  have B21 := G21.binds (ps := ["_law_one", "_law_other"]) fun _ _ _ _ _ _ us hl => match us, hl with | [_, _], _ => rfl
  have B22 := G22.binds (ps := ["_law_told", "_law_pool_here"]) fun _ _ _ _ _ _ us hl => match us, hl with | [_, _], _ => rfl
  have B23 := G23.binds (ps := ["_law_thing"]) fun _ _ _ _ _ _ us hl => match us, hl with | [_], _ => rfl
  have B24 := G24.binds (ps := ["_law_thing", "_law_many"]) fun _ _ _ _ _ _ us hl => match us, hl with | [_, _], _ => rfl
  have B25 := G25.binds (ps := ["_law_one", "_law_other"]) fun _ _ _ _ _ _ us hl => match us, hl with | [_, _], _ => rfl
  have B26 := G26.binds (ps := ["_law_one", "_law_other"]) fun _ _ _ _ _ _ us hl => match us, hl with | [_, _], _ => rfl
  have B27 := G27.binds (ps := ["_law_one", "_law_other"]) fun _ _ _ _ _ _ us hl => match us, hl with | [_, _], _ => rfl
  have B28 := G28.binds (ps := ["_law_columns", "_law_shares", "_law_rights"]) fun _ _ _ _ _ _ us hl => match us, hl with | [_, _, _], _ => rfl
  have B29 := G29.binds (ps := ["_law_sheet_here", "_law_told"]) fun _ _ _ _ _ _ us hl => match us, hl with | [_, _], _ => rfl
  have B30 := G30.binds (ps := ["thing"]) fun _ _ _ _ _ _ us hl => match us, hl with | [_], _ => rfl
  have B31 := G31.binds (ps := ["thing"]) fun _ _ _ _ _ _ us hl => match us, hl with | [_], _ => rfl
  have B32 := G32.binds (ps := ["thing", "many"]) fun _ _ _ _ _ _ us hl => match us, hl with | [_, _], _ => rfl
  have B33 := G33.binds (ps := ["one", "other"]) fun _ _ _ _ _ _ us hl => match us, hl with | [_, _], _ => rfl
  have B34 := G34.binds (ps := ["one", "other"]) fun _ _ _ _ _ _ us hl => match us, hl with | [_, _], _ => rfl
  have B35 := G35.binds (ps := ["one", "other"]) fun _ _ _ _ _ _ us hl => match us, hl with | [_, _], _ => rfl
  have B36 := G36.binds (ps := ["one", "other"]) fun _ _ _ _ _ _ us hl => match us, hl with | [_, _], _ => rfl
  have B37 := G37.binds (ps := ["columns", "shares", "place"]) fun _ _ _ _ _ _ us hl => match us, hl with | [_, _, _], _ => rfl
  have B38 := G38.binds (ps := ["columns", "shares", "rights"]) fun _ _ _ _ _ _ us hl => match us, hl with | [_, _, _], _ => rfl
  have B39 := G39.binds (ps := ["sheet", "shares", "prices"]) fun _ _ _ _ _ _ us hl => match us, hl with | [_, _, _], _ => rfl
  have B40 := G40.binds (ps := ["sheet", "shares"]) fun _ _ _ _ _ _ us hl => match us, hl with | [_, _], _ => rfl
  have B41 := G41.binds (ps := ["sheet", "thing"]) fun _ _ _ _ _ _ us hl => match us, hl with | [_, _], _ => rfl
  have bl := G42.binds (ps := ["_law_script"]) fun _ _ _ _ _ _ us hl => match us, hl with | [_], _ => rfl
  refine ⟨PySem.W.fnOf "law" "law" (defArgs s_law) (defBody s_law) (defScope s_law) .none kV42 dc42 pm42 an42 cd42 ct42, fun s v => .of_eq rfl, fun base _ _ => ?_⟩
  have D1 := ok_law_cell_at (P := l.prog) (w := w) (base := base) G1 (PySem.W.mg_of X G a1) B1 T 
  have D2 := ok_law_pool (P := l.prog) (w := w) (base := base) G2 (PySem.W.mg_of X G a2) B2 T D1
  have D3 := ok_law_take (P := l.prog) (w := w) (base := base) G3 (PySem.W.mg_of X G a3) B3 T 
  have D4 := ok_law_low (P := l.prog) (w := w) (base := base) G4 (PySem.W.mg_of X G a4) B4 T 
  have D5 := ok_law_part (P := l.prog) (w := w) (base := base) G5 (PySem.W.mg_of X G a5) B5 T D3 D4
  have D6 := ok_law_sheet (P := l.prog) (w := w) (base := base) G6 (PySem.W.mg_of X G a6) B6 T D3 D5
  have D7 := ok_shared (P := l.prog) (w := w) (base := base) G7 (PySem.W.mg_of X G a7) B7 T 
  have D8 := ok_common (P := l.prog) (w := w) (base := base) G8 (PySem.W.mg_of X G a8) B8 T D7
  have D9 := ok_Board___init__ (P := l.prog) (w := w) (base := base) G9 (PySem.W.mg_of X G g_Board) ⟨mk_Board, mt9, fn9, kC_Board⟩ B9 T D8
  have D10 := ok_Board_add (P := l.prog) (w := w) (base := base) G10 ⟨mt10, fn10, k10⟩ B10 T D8
  have D11 := ok_Board_wanted (P := l.prog) (w := w) (base := base) G11 ⟨mt11, fn11, k11⟩ B11 T 
  have D12 := ok_Board_leaving (P := l.prog) (w := w) (base := base) G12 ⟨mt12, fn12, k12⟩ B12 T 
  have D13 := ok_Board_turn (P := l.prog) (w := w) (base := base) G13 ⟨mt13, fn13, k13⟩ B13 T 
  have D14 := ok_Board_settle (P := l.prog) (w := w) (base := base) G14 ⟨mt14, fn14, k14⟩ B14 T D11 D12 D13
  have D15 := ok_lowest (P := l.prog) (w := w) (base := base) G15 (PySem.W.mg_of X G a15) B15 T D7
  have D16 := ok_Board_endless (P := l.prog) (w := w) (base := base) G16 ⟨mt16, fn16, k16⟩ B16 T D15
  have D17 := ok_Board_shares (P := l.prog) (w := w) (base := base) G17 ⟨mt17, fn17, k17⟩ B17 T D15
  have D18 := ok_Board_prices (P := l.prog) (w := w) (base := base) G18 ⟨mt18, fn18, k18⟩ B18 T D15
  have D19 := ok_most_of (P := l.prog) (w := w) (base := base) G19 (PySem.W.mg_of X G a19) B19 T D9 D10 D14 D16 D17 D18
  have D20 := ok_law_plus (P := l.prog) (w := w) (base := base) G20 (PySem.W.mg_of X G a20) B20 T D4
  have D21 := ok_law_minus (P := l.prog) (w := w) (base := base) G21 (PySem.W.mg_of X G a21) B21 T D4
  have D22 := ok_law_bent (P := l.prog) (w := w) (base := base) G22 (PySem.W.mg_of X G a22) B22 T D3 D20 D21
  have D23 := ok_law_is_share (P := l.prog) (w := w) (base := base) G23 (PySem.W.mg_of X G a23) B23 T D4
  have D24 := ok_law_are_shares (P := l.prog) (w := w) (base := base) G24 (PySem.W.mg_of X G a24) B24 T D23
  have D25 := ok_law_less (P := l.prog) (w := w) (base := base) G25 (PySem.W.mg_of X G a25) B25 T 
  have D26 := ok_law_times (P := l.prog) (w := w) (base := base) G26 (PySem.W.mg_of X G a26) B26 T D4
  have D27 := ok_law_worth (P := l.prog) (w := w) (base := base) G27 (PySem.W.mg_of X G a27) B27 T D20 D26
  have D28 := ok_law_fits (P := l.prog) (w := w) (base := base) G28 (PySem.W.mg_of X G a28) B28 T D25 D27
  have D29 := ok_law_is_told (P := l.prog) (w := w) (base := base) G29 (PySem.W.mg_of X G a29) B29 T D24 D28 D27 D25
  have D30 := ok_is_whole (P := l.prog) (w := w) (base := base) G30 (PySem.W.mg_of X G a30) B30 T 
  have D31 := ok_is_fraction (P := l.prog) (w := w) (base := base) G31 (PySem.W.mg_of X G a31) B31 T D30 D7
  have D32 := ok_are_shares (P := l.prog) (w := w) (base := base) G32 (PySem.W.mg_of X G a32) B32 T D31
  have D33 := ok_under (P := l.prog) (w := w) (base := base) G33 (PySem.W.mg_of X G a33) B33 T 
  have D34 := ok_plus (P := l.prog) (w := w) (base := base) G34 (PySem.W.mg_of X G a34) B34 T D15
  have D35 := ok_times (P := l.prog) (w := w) (base := base) G35 (PySem.W.mg_of X G a35) B35 T D15
  have D36 := ok_worth (P := l.prog) (w := w) (base := base) G36 (PySem.W.mg_of X G a36) B36 T D34 D35
  have D37 := ok_come_to_at (P := l.prog) (w := w) (base := base) G37 (PySem.W.mg_of X G a37) B37 T D36
  have D38 := ok_fit (P := l.prog) (w := w) (base := base) G38 (PySem.W.mg_of X G a38) B38 T D33 D37
  have D39 := ok_is_most (P := l.prog) (w := w) (base := base) G39 (PySem.W.mg_of X G a39) B39 T D32 D38 D33 D36
  have D40 := ok_is_endless (P := l.prog) (w := w) (base := base) G40 (PySem.W.mg_of X G a40) B40 T D32 D38 D33 D36
  have D41 := ok_lets_most (P := l.prog) (w := w) (base := base) G41 (PySem.W.mg_of X G a41) B41 T D39 D40
  have D42 := ok_law (P := l.prog) (w := w) (base := base) G42 (PySem.W.mg_of X G a42) bl T D2 D6 D19 D3 D22 D29 D41
  obtain ⟨f', fd', FF, hm', GG, _⟩ := D42.ex
  have e1 := hm'.symm.trans (PySem.W.mg_of X G a42)
  cases e1
  have e2 := fun_uniq FF G42
  subst e2
  exact GG
end K34
open PySem PySem.W PyProof.Rows
set_option maxHeartbeats 0 in
theorem PySem.Challenge.cw_nudgebest_k34_what_is_told_of_sheets_holds : PySem.Challenge.rw_nudgebest_k34_what_is_told_of_sheets.Holds := by
  w_on; o_law; k_head; (case hw => w_witness2)
  k_fill
  refine DL.walkG (l := PySem.Challenge.rw_nudgebest_k34_what_is_told_of_sheets) (n := 63) (k := 9) (x := "_law_script") (CX := fun _ => L2.CX0) (sp := fun w => DL.spD _ DL.cLaw) rfl (by decide) rfl ⟨rfl, by decide, by decide⟩ (fun w h Y => PySem.W.kIn_of Y) ?F (fun _ _ a ns hl _ hS => DL.law_end hl hS) (fun _ _ _ _ _ h => h)
  case F =>
    intro w mg fa h KX G hmg
    refine' K34.all_mk KX G hmg ?a1 ?l1 ?c1 ?k1 ?a2 ?l2 ?c2 ?k2 ?a3 ?l3 ?c3 ?k3 ?a4 ?l4 ?c4 ?k4 ?a5 ?l5 ?c5 ?k5 ?a6 ?l6 ?c6 ?k6 ?a7 ?l7 ?c7 ?k7 ?a8 ?l8 ?c8 ?k8 ?mt9 ?l9 ?c9 ?k9 ?fn9 ?mt10 ?l10 ?c10 ?k10 ?fn10 ?mt11 ?l11 ?c11 ?k11 ?fn11 ?mt12 ?l12 ?c12 ?k12 ?fn12 ?mt13 ?l13 ?c13 ?k13 ?fn13 ?mt14 ?l14 ?c14 ?k14 ?fn14 ?a15 ?l15 ?c15 ?k15 ?mt16 ?l16 ?c16 ?k16 ?fn16 ?mt17 ?l17 ?c17 ?k17 ?fn17 ?mt18 ?l18 ?c18 ?k18 ?fn18 ?a19 ?l19 ?c19 ?k19 ?a20 ?l20 ?c20 ?k20 ?a21 ?l21 ?c21 ?k21 ?a22 ?l22 ?c22 ?k22 ?a23 ?l23 ?c23 ?k23 ?a24 ?l24 ?c24 ?k24 ?a25 ?l25 ?c25 ?k25 ?a26 ?l26 ?c26 ?k26 ?a27 ?l27 ?c27 ?k27 ?a28 ?l28 ?c28 ?k28 ?a29 ?l29 ?c29 ?k29 ?a30 ?l30 ?c30 ?k30 ?a31 ?l31 ?c31 ?k31 ?a32 ?l32 ?c32 ?k32 ?a33 ?l33 ?c33 ?k33 ?a34 ?l34 ?c34 ?k34 ?a35 ?l35 ?c35 ?k35 ?a36 ?l36 ?c36 ?k36 ?a37 ?l37 ?c37 ?k37 ?a38 ?l38 ?c38 ?k38 ?a39 ?l39 ?c39 ?k39 ?a40 ?l40 ?c40 ?k40 ?a41 ?l41 ?c41 ?k41 ?a42 ?l42 ?c42 ?k42 ?z0 ?z1 ?z2 ?z3 ?z4 ?z5 ?z6 ?z7 ?z8 ?z9 ?z10 ?z11 ?z12 ?z13 ?z14 ?z15 ?a_NOUGHT ?l_NOUGHT ?g_Board ?pg_Board ?hd_Board ?po_Board ?sa_Board ?mk_Board ?kC_Board ?na_Board_scale ?na_Board_rests ?na_Board_bottom ?na_Board_rows ?na_Board_gains ?na_Board_basis ?na_Board_scales
    (case g_Board => k_is)
    (case a1 => k_is)
    (case l1 => k_is)
    (case c1 => k_is)
    (case k1 => k_is)
    (case a2 => k_is)
    (case l2 => k_is)
    (case c2 => k_is)
    (case k2 => k_is)
    (case a3 => k_is)
    (case l3 => k_is)
    (case c3 => k_is)
    (case k3 => k_is)
    (case a4 => k_is)
    (case l4 => k_is)
    (case c4 => k_is)
    (case k4 => k_is)
    (case a5 => k_is)
    (case l5 => k_is)
    (case c5 => k_is)
    (case k5 => k_is)
    (case a6 => k_is)
    (case l6 => k_is)
    (case c6 => k_is)
    (case k6 => k_is)
    (case a7 => k_is)
    (case l7 => k_is)
    (case c7 => k_is)
    (case k7 => k_is)
    (case a8 => k_is)
    (case l8 => k_is)
    (case c8 => k_is)
    (case k8 => k_is)
    (case mt9 => k_is)
    (case l9 => k_is)
    (case c9 => k_is)
    (case k9 => k_is)
    (case fn9 => k_is)
    (case mt10 => k_is)
    (case l10 => k_is)
    (case c10 => k_is)
    (case k10 => k_is)
    (case fn10 => k_is)
    (case mt11 => k_is)
    (case l11 => k_is)
    (case c11 => k_is)
    (case k11 => k_is)
    (case fn11 => k_is)
    (case mt12 => k_is)
    (case l12 => k_is)
    (case c12 => k_is)
    (case k12 => k_is)
    (case fn12 => k_is)
    (case mt13 => k_is)
    (case l13 => k_is)
    (case c13 => k_is)
    (case k13 => k_is)
    (case fn13 => k_is)
    (case mt14 => k_is)
    (case l14 => k_is)
    (case c14 => k_is)
    (case k14 => k_is)
    (case fn14 => k_is)
    (case a15 => k_is)
    (case l15 => k_is)
    (case c15 => k_is)
    (case k15 => k_is)
    (case mt16 => k_is)
    (case l16 => k_is)
    (case c16 => k_is)
    (case k16 => k_is)
    (case fn16 => k_is)
    (case mt17 => k_is)
    (case l17 => k_is)
    (case c17 => k_is)
    (case k17 => k_is)
    (case fn17 => k_is)
    (case mt18 => k_is)
    (case l18 => k_is)
    (case c18 => k_is)
    (case k18 => k_is)
    (case fn18 => k_is)
    (case a19 => k_is)
    (case l19 => k_is)
    (case c19 => k_is)
    (case k19 => k_is)
    (case a20 => k_is)
    (case l20 => k_is)
    (case c20 => k_is)
    (case k20 => k_is)
    (case a21 => k_is)
    (case l21 => k_is)
    (case c21 => k_is)
    (case k21 => k_is)
    (case a22 => k_is)
    (case l22 => k_is)
    (case c22 => k_is)
    (case k22 => k_is)
    (case a23 => k_is)
    (case l23 => k_is)
    (case c23 => k_is)
    (case k23 => k_is)
    (case a24 => k_is)
    (case l24 => k_is)
    (case c24 => k_is)
    (case k24 => k_is)
    (case a25 => k_is)
    (case l25 => k_is)
    (case c25 => k_is)
    (case k25 => k_is)
    (case a26 => k_is)
    (case l26 => k_is)
    (case c26 => k_is)
    (case k26 => k_is)
    (case a27 => k_is)
    (case l27 => k_is)
    (case c27 => k_is)
    (case k27 => k_is)
    (case a28 => k_is)
    (case l28 => k_is)
    (case c28 => k_is)
    (case k28 => k_is)
    (case a29 => k_is)
    (case l29 => k_is)
    (case c29 => k_is)
    (case k29 => k_is)
    (case a30 => k_is)
    (case l30 => k_is)
    (case c30 => k_is)
    (case k30 => k_is)
    (case a31 => k_is)
    (case l31 => k_is)
    (case c31 => k_is)
    (case k31 => k_is)
    (case a32 => k_is)
    (case l32 => k_is)
    (case c32 => k_is)
    (case k32 => k_is)
    (case a33 => k_is)
    (case l33 => k_is)
    (case c33 => k_is)
    (case k33 => k_is)
    (case a34 => k_is)
    (case l34 => k_is)
    (case c34 => k_is)
    (case k34 => k_is)
    (case a35 => k_is)
    (case l35 => k_is)
    (case c35 => k_is)
    (case k35 => k_is)
    (case a36 => k_is)
    (case l36 => k_is)
    (case c36 => k_is)
    (case k36 => k_is)
    (case a37 => k_is)
    (case l37 => k_is)
    (case c37 => k_is)
    (case k37 => k_is)
    (case a38 => k_is)
    (case l38 => k_is)
    (case c38 => k_is)
    (case k38 => k_is)
    (case a39 => k_is)
    (case l39 => k_is)
    (case c39 => k_is)
    (case k39 => k_is)
    (case a40 => k_is)
    (case l40 => k_is)
    (case c40 => k_is)
    (case k40 => k_is)
    (case a41 => k_is)
    (case l41 => k_is)
    (case c41 => k_is)
    (case k41 => k_is)
    (case a42 => k_is)
    (case l42 => k_is)
    (case c42 => k_is)
    (case k42 => k_is)
    (case z0 => k_is)
    (case z1 => k_is)
    (case z2 => k_is)
    (case z3 => k_is)
    (case z4 => k_is)
    (case z5 => k_is)
    (case z6 => k_is)
    (case z7 => k_is)
    (case z8 => k_is)
    (case z9 => k_is)
    (case z10 => k_is)
    (case z11 => k_is)
    (case z12 => k_is)
    (case z13 => k_is)
    (case z14 => k_is)
    (case z15 => k_is)
    (case a_NOUGHT => k_is)
    (case l_NOUGHT => k_is)
    (case pg_Board => k_is)
    (case hd_Board => k_is)
    (case po_Board => k_is)
    (case sa_Board => k_is)
    (case mk_Board => k_is)
    (case kC_Board => k_is)
    (case na_Board_scale => k_is)
    (case na_Board_rests => k_is)
    (case na_Board_bottom => k_is)
    (case na_Board_rows => k_is)
    (case na_Board_gains => k_is)
    (case na_Board_basis => k_is)
    (case na_Board_scales => k_is)

