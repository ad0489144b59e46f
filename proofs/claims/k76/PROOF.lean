import PyProof.Rows.All
import Wide.All
import OpenK.AllK
import Wide.FinOn
import PySem.Challenge.RW_wholepaid_k76_months_and_extras
import HandS.ForMost
import HandS.Exc
import HandS.ExcOwn
import HandS.WordsExc
import HandS.CallSlots
import HandS.Defaults
import HandS.HeadHook1
import HandS.HeadHook2
import HandS.HeadHook3
import HandS.IsInst
import HandS.Wide
import HandS.Property
import HandS.MakeKw
import HandS.Style
import HandS.HeadEnd
import HandS.Head0
import HandS.Head1
import HandS.Head2
set_option Elab.async false
set_option linter.all false
set_option maxRecDepth 100000
set_option maxHeartbeats 0
/-! VI0: deep data over the hand layer: values, stores, the relation to a heap, the judgements. -/
namespace L2.VI
open PySem PySem.Spec PyProof.Rows He

/-- a value: frozen data, a name of the module, a pointer to the store, the script -/
inductive D where
  | non | bl (b : Bool) | int (i : Int) | str (x : Str) | ty (n : String) | glo (x : Str)
  | tup (xs : List D) | lst (xs : List D) | dic (kvs : List (Key × D)) | ptr (k : Nat) | scr (ns : List Int)
/-- what may change: lists, dicts, instances -/
inductive SO where
  | lst (xs : List D) | dic (kvs : List (Key × D)) | dct (kvs : List (List Key × D)) | ins (c : Str) (fs : List (Str × D))
structure GSt where
  S : Nat → Option SO
  nx : Nat
/-- a slot: a value, or an object that the slot alone owns -/
inductive Slot where
  | val (d : D) | own (o : SO)
structure BSt where
  g : GSt
  t : List (Option Slot)
/-- an exception: its class, its attributes -/
structure EX where
  c : Str
  fs : List (Str × D)
inductive R (α : Type) where
  | ok (a : α) (b : BSt) | exc (x : EX) (b : BSt) | fail
abbrev M (α : Type) := BSt → R α
def M.ret {α : Type} (a : α) : M α := fun b => .ok a b
def M.bind {α β : Type} (m : M α) (k : α → M β) : M β := fun b => match m b with
  | .ok a b' => k a b'
  | .exc x b' => .exc x b'
  | .fail => .fail
def M.fail {α : Type} : M α := fun _ => .fail

/-! ### the relation -/
abbrev Rho := Nat → Option Addr
mutual
inductive Rep (K : PySem.W.Frag) (F : Hp) (ρ : Rho) : V → D → Prop
  | non : Rep K F ρ .non .non
  | bl (b : Bool) : Rep K F ρ (.bl b) (.bl b)
  | int (i : Int) : Rep K F ρ (.int i) (.int i)
  | str (x : Str) : Rep K F ρ (.str x) (.str x)
  | ty (n : String) : Rep K F ρ (.ty n) (.ty n)
  | glo (x : Str) : Rep K F ρ (.ref (ga K x)) (.glo x)
  | tup {a : Addr} {vs : List V} {ds : List D} : F a = some (.tup vs) ∨ SqT K (fun _ => none) a vs → RepAll K F ρ vs ds → Rep K F ρ (.ref a) (.tup ds)
  | lst {a : Addr} {vs : List V} {ds : List D} : F a = some (.lst vs) → RepAll K F ρ vs ds → Rep K F ρ (.ref a) (.lst ds)
  | dic {a : Addr} {vs : List (Key × V)} {ds : List (Key × D)} : F a = some (.dK vs) → vs.map (·.1) = ds.map (·.1) → RepAll K F ρ (vs.map (·.2)) (ds.map (·.2)) → Rep K F ρ (.ref a) (.dic ds)
  | ptr {a : Addr} {k : Nat} : ρ k = some a → Rep K F ρ (.ref a) (.ptr k)
  | scr {a : Addr} {ns : List Int} : SqL K F a (ns.map V.int) → Rep K F ρ (.ref a) (.scr ns)
inductive RepAll (K : PySem.W.Frag) (F : Hp) (ρ : Rho) : List V → List D → Prop
  | nil : RepAll K F ρ [] []
  | cons {v : V} {vs : List V} {d : D} {ds : List D} : Rep K F ρ v d → RepAll K F ρ vs ds → RepAll K F ρ (v :: vs) (d :: ds)
end
/-- an object at a, in the part Mm of the heap -/
def RepO (K : PySem.W.Frag) (F : Hp) (ρ : Rho) (Mm : Hp) (a : Addr) : SO → Prop
  | .lst ds => ∃ vs, Mm a = some (.lst vs) ∧ RepAll K F ρ vs ds
  | .dic ds => ∃ vs : List (Key × V), Mm a = some (.dK vs) ∧ vs.map (·.1) = ds.map (·.1) ∧ RepAll K F ρ (vs.map (·.2)) (ds.map (·.2))
  | .dct ds => ∃ vs : List (List Key × V), Mm a = some (.dT vs) ∧ vs.map (·.1) = ds.map (·.1) ∧ RepAll K F ρ (vs.map (·.2)) (ds.map (·.2))
  | .ins c ds => ∃ (dx : Addr) (vs : List (Str × V)), Mm a = some (.ins (ga K c) dx vs) ∧ Mm dx = some (.own a) ∧ vs.map (·.1) = ds.map (·.1) ∧ RepAll K F ρ (vs.map (·.2)) (ds.map (·.2))
def SO.plain : SO → Bool
  | .ins _ _ => false
  | _ => true
def isDict : HO → Bool
  | .dK _ => true
  | .dT _ => true
  | _ => false
/-- F: frozen, P: what is another's, Mm: the store -/
structure HRel (K : PySem.W.Frag) (F P Mm : Hp) (ρ : Rho) (g : GSt) (H : Hp) : Prop where
  fh : ∀ a u, F a = some u → if isDict u = true then Rd H a u else H a = some u
  ph : ∀ a u, P a = some u → H a = some u
  mh : ∀ a u, Mm a = some u → H a = some u
  fp : ∀ a u, F a = some u → P a = none ∧ Mm a = none
  pm : ∀ a u, P a = some u → Mm a = none
  st : ∀ k so, g.S k = some so → ∃ a, ρ k = some a ∧ RepO K F ρ Mm a so
  inj : ∀ k j a, ρ k = some a → ρ j = some a → k = j
  nx : ∀ k, g.nx ≤ k → ρ k = none
  rh : ∀ k a, ρ k = some a → ∃ u, Mm a = some u ∧ ∀ x, u ≠ .own x
def SlotRel (K : PySem.W.Frag) (F P0 P : Hp) (ρ : Rho) (q : Nat → Option Addr) (σ : St) (i : Nat) : Slot → Prop
  | .val d => ∃ v, σ[i]? = some (some v) ∧ Rep K F ρ v d
  | .own so => ∃ p, σ[i]? = some (some (.ref p)) ∧ q i = some p ∧ P0 p = none ∧ RepO K F ρ P p so ∧ so.plain = true
structure BR (K : PySem.W.Frag) (F P0 P Mm : Hp) (ρ : Rho) (q : Nat → Option Addr) (b : BSt) (σ : St) (H : Hp) : Prop where
  h : HRel K F P Mm ρ b.g H
  pp : ∀ a u, P0 a = some u → P a = some u
  len : σ.length = b.t.length
  qi : ∀ i j p, q i = some p → q j = some p → i = j
  sl : ∀ i s, b.t[i]? = some (some s) → SlotRel K F P0 P ρ q σ i s
def BRel (K : PySem.W.Frag) (F P0 Mm : Hp) (ρ : Rho) (b : BSt) (σ : St) (H : Hp) : Prop := ∃ P q, BR K F P0 P Mm ρ q b σ H
def Leq (F F' : Hp) : Prop := ∀ a u, F a = some u → F' a = some u
def Rle (ρ ρ' : Rho) : Prop := ∀ k a, ρ k = some a → ρ' k = some a
theorem Leq.refl (F : Hp) : Leq F F := fun _ _ h => h
theorem Leq.trans {F G H : Hp} (a : Leq F G) (b : Leq G H) : Leq F H := fun x u h => b x u (a x u h)
theorem Rle.refl (r : Rho) : Rle r r := fun _ _ h => h
theorem Rle.trans {F G H : Rho} (a : Rle F G) (b : Rle G H) : Rle F H := fun x u h => b x u (a x u h)
theorem SqL.leq {K : PySem.W.Frag} {F F' : Hp} {a : Addr} {xs : List V} (e : Leq F F') (h : SqL K F a xs) : SqL K F' a xs := by
  rcases h with (h | ⟨o, h⟩) | h
  · exact .inl (.inl (e _ _ h))
  · exact .inl (.inr ⟨o, e _ _ h⟩)
  · exact .inr h
mutual
theorem Rep.mono {K : PySem.W.Frag} {F F' : Hp} {ρ ρ' : Rho} (e : Leq F F') (r : Rle ρ ρ') : ∀ {v : V} {d : D}, Rep K F ρ v d → Rep K F' ρ' v d
  | _, _, .non => .non
  | _, _, .bl b => .bl b
  | _, _, .int i => .int i
  | _, _, .str x => .str x
  | _, _, .ty n => .ty n
  | _, _, .glo x => .glo x
  | _, _, .tup h a => .tup (h.imp (e _ _) id) (RepAll.mono e r a)
  | _, _, .lst h a => .lst (e _ _ h) (RepAll.mono e r a)
  | _, _, .dic h k a => .dic (e _ _ h) k (RepAll.mono e r a)
  | _, _, .ptr h => .ptr (r _ _ h)
  | _, _, .scr h => .scr (SqL.leq e h)
theorem RepAll.mono {K : PySem.W.Frag} {F F' : Hp} {ρ ρ' : Rho} (e : Leq F F') (r : Rle ρ ρ') : ∀ {v : List V} {d : List D}, RepAll K F ρ v d → RepAll K F' ρ' v d
  | _, _, .nil => .nil
  | _, _, .cons h t => .cons (Rep.mono e r h) (RepAll.mono e r t)
end
theorem RepO.mono {K : PySem.W.Frag} {F F' : Hp} {ρ ρ' : Rho} {Mm Mm' : Hp} {a : Addr} {so : SO} (e : Leq F F') (r : Rle ρ ρ') (h : RepO K F ρ Mm a so) (m : ∀ b u, (b = a ∨ u = .own a) → Mm b = some u → Mm' b = some u) : RepO K F' ρ' Mm' a so := by
  cases so with
  | lst ds => obtain ⟨vs, h1, h2⟩ := h; exact ⟨vs, m _ _ (.inl rfl) h1, h2.mono e r⟩
  | dic ds => obtain ⟨vs, h1, h2, h3⟩ := h; exact ⟨vs, m _ _ (.inl rfl) h1, h2, h3.mono e r⟩
  | dct ds => obtain ⟨vs, h1, h2, h3⟩ := h; exact ⟨vs, m _ _ (.inl rfl) h1, h2, h3.mono e r⟩
  | ins c ds => obtain ⟨dx, vs, h1, h2, h3, h4⟩ := h; exact ⟨dx, vs, m _ _ (.inl rfl) h1, m _ _ (.inr rfl) h2, h3, h4.mono e r⟩
theorem RepAll.length {K : PySem.W.Frag} {F : Hp} {ρ : Rho} : ∀ {vs : List V} {ds : List D}, RepAll K F ρ vs ds → vs.length = ds.length
  | _, _, .nil => rfl
  | _, _, .cons _ t => by simp [RepAll.length t]
theorem RepAll.get {K : PySem.W.Frag} {F : Hp} {ρ : Rho} : ∀ {vs : List V} {ds : List D} {i : Nat} {d : D}, RepAll K F ρ vs ds → ds[i]? = some d → ∃ v, vs[i]? = some v ∧ Rep K F ρ v d
  | _, _, _, _, .nil, e => by simp at e
  | _, _, 0, _, .cons r _, e => by simp at e; subst e; exact ⟨_, rfl, r⟩
  | _, _, i + 1, _, .cons _ t, e => by
    obtain ⟨u, h1, h2⟩ := RepAll.get (i := i) t (by simpa using e)
    exact ⟨u, by simpa using h1, h2⟩
theorem RepAll.getV {K : PySem.W.Frag} {F : Hp} {ρ : Rho} : ∀ {vs : List V} {ds : List D} {i : Nat} {v : V}, RepAll K F ρ vs ds → vs[i]? = some v → ∃ d, ds[i]? = some d ∧ Rep K F ρ v d
  | _, _, _, _, .nil, e => by simp at e
  | _, _, 0, _, .cons r _, e => by simp at e; subst e; exact ⟨_, rfl, r⟩
  | _, _, i + 1, _, .cons _ t, e => by
    obtain ⟨u, h1, h2⟩ := RepAll.getV (i := i) t (by simpa using e)
    exact ⟨u, by simpa using h1, h2⟩
theorem RepAll.append {K : PySem.W.Frag} {F : Hp} {ρ : Rho} : ∀ {vs us : List V} {ds es : List D}, RepAll K F ρ vs ds → RepAll K F ρ us es → RepAll K F ρ (vs ++ us) (ds ++ es)
  | _, _, _, _, .nil, s => s
  | _, _, _, _, .cons r t, s => .cons r (RepAll.append t s)
theorem RepAll.take {K : PySem.W.Frag} {F : Hp} {ρ : Rho} : ∀ {vs : List V} {ds : List D} (n : Nat), RepAll K F ρ vs ds → RepAll K F ρ (vs.take n) (ds.take n)
  | _, _, 0, _ => .nil
  | _, _, _ + 1, .nil => .nil
  | _, _, n + 1, .cons r t => .cons r (RepAll.take n t)
theorem RepAll.drop {K : PySem.W.Frag} {F : Hp} {ρ : Rho} : ∀ {vs : List V} {ds : List D} (n : Nat), RepAll K F ρ vs ds → RepAll K F ρ (vs.drop n) (ds.drop n)
  | _, _, 0, r => r
  | _, _, _ + 1, .nil => .nil
  | _, _, n + 1, .cons r t => RepAll.drop n t
theorem RepAll.set {K : PySem.W.Frag} {F : Hp} {ρ : Rho} {v : V} {d : D} (r : Rep K F ρ v d) : ∀ {vs : List V} {ds : List D} (i : Nat), RepAll K F ρ vs ds → RepAll K F ρ (vs.set i v) (ds.set i d)
  | _, _, _, .nil => .nil
  | _, _, 0, .cons _ t => .cons r t
  | _, _, i + 1, .cons q t => .cons q (RepAll.set r i t)
theorem RepAll.eraseIdx {K : PySem.W.Frag} {F : Hp} {ρ : Rho} : ∀ {vs : List V} {ds : List D} (i : Nat), RepAll K F ρ vs ds → RepAll K F ρ (vs.eraseIdx i) (ds.eraseIdx i)
  | _, _, _, .nil => .nil
  | _, _, 0, .cons _ t => t
  | _, _, i + 1, .cons q t => .cons q (RepAll.eraseIdx i t)
theorem RepAll.dropLast {K : PySem.W.Frag} {F : Hp} {ρ : Rho} {vs : List V} {ds : List D} (h : RepAll K F ρ vs ds) : RepAll K F ρ vs.dropLast ds.dropLast := by
  rw [List.dropLast_eq_take, List.dropLast_eq_take, h.length]; exact h.take _
theorem RepAll.ints {K : PySem.W.Frag} {F : Hp} {ρ : Rho} : ∀ {vs : List V} {ns : List Int}, RepAll K F ρ vs (ns.map D.int) → vs = ns.map V.int
  | _, [], h => by cases h; rfl
  | _, n :: ns, h => by
    cases h with
    | cons r t => cases r; rw [RepAll.ints t]; rfl
theorem RepAll.bls {K : PySem.W.Frag} {F : Hp} {ρ : Rho} : ∀ {vs : List V} {ns : List Bool}, RepAll K F ρ vs (ns.map D.bl) → vs = ns.map V.bl
  | _, [], h => by cases h; rfl
  | _, n :: ns, h => by
    cases h with
    | cons r t => cases r; rw [RepAll.bls t]; rfl
theorem RepAll.strs {K : PySem.W.Frag} {F : Hp} {ρ : Rho} : ∀ {vs : List V} {ns : List Str}, RepAll K F ρ vs (ns.map D.str) → vs = ns.map V.str
  | _, [], h => by cases h; rfl
  | _, n :: ns, h => by
    cases h with
    | cons r t => cases r; rw [RepAll.strs t]; rfl
theorem RepAll.of_ints {K : PySem.W.Frag} {F : Hp} {ρ : Rho} : ∀ ns : List Int, RepAll K F ρ (ns.map V.int) (ns.map D.int)
  | [] => .nil
  | n :: ns => .cons (.int n) (RepAll.of_ints ns)
theorem RepAll.of_strs {K : PySem.W.Frag} {F : Hp} {ρ : Rho} : ∀ ns : List Str, RepAll K F ρ (ns.map V.str) (ns.map D.str)
  | [] => .nil
  | n :: ns => .cons (.str n) (RepAll.of_strs ns)

/-! ### heaps -/
section
variable {K : PySem.W.Frag} {F P P0 Mm H : Hp} {ρ : Rho} {g : GSt} {p a : Addr} {u : HO}
theorem HRel.fnone (h : HRel K F P Mm ρ g H) (n : H p = none) : F p = none := by
  cases e : F p with
  | none => rfl
  | some u =>
    have q := h.fh p u e
    split at q
    · rcases q with q | ⟨o, q⟩ <;> (rw [n] at q; cases q)
    · rw [n] at q; cases q
theorem HRel.pnone (h : HRel K F P Mm ρ g H) (n : H p = none) : P p = none := by
  cases e : P p with
  | none => rfl
  | some u => have q := h.ph p u e; rw [n] at q; cases q
theorem HRel.mnone (h : HRel K F P Mm ρ g H) (n : H p = none) : Mm p = none := by
  cases e : Mm p with
  | none => rfl
  | some u => have q := h.mh p u e; rw [n] at q; cases q
theorem leq_upd (n : F p = none) : Leq F (upd F p u) := fun b v e => by
  by_cases hb : b = p
  · subst hb; rw [n] at e; cases e
  · rw [upd_ne hb]; exact e
/-- a new frozen object -/
theorem HRel.frozen (h : HRel K F P Mm ρ g H) (n : H p = none) : HRel K (upd F p u) P Mm ρ g (upd H p u) := by
  have nF := h.fnone n
  have nP := h.pnone n
  have nM := h.mnone n
  have ne : ∀ {G : Hp} {b : Addr} {v : HO}, G p = none → G b = some v → b ≠ p := fun {G b v} gn e z => by subst z; rw [gn] at e; cases e
  refine ⟨fun b v e => ?_, fun b v e => ?_, fun b v e => ?_, fun b v e => ?_, h.pm, fun k so e => ?_, h.inj, h.nx, h.rh⟩
  · by_cases hb : b = p
    · subst hb; rw [upd_same] at e; cases e
      split
      · exact .inl upd_same
      · exact upd_same
    · rw [upd_ne hb] at e
      have q := h.fh b v e
      split
      · rename_i hd
        rw [if_pos hd] at q
        rcases q with q | ⟨o, q⟩
        · exact .inl (by rw [upd_ne hb]; exact q)
        · exact .inr ⟨o, by rw [upd_ne hb]; exact q⟩
      · rename_i hd
        rw [if_neg hd] at q
        rw [upd_ne hb]; exact q
  · rw [upd_ne (ne nP e)]; exact h.ph b v e
  · rw [upd_ne (ne nM e)]; exact h.mh b v e
  · by_cases hb : b = p
    · subst hb; exact ⟨nP, nM⟩
    · rw [upd_ne hb] at e; exact h.fp b v e
  · obtain ⟨a, e1, e2⟩ := h.st k so e
    exact ⟨a, e1, e2.mono (leq_upd nF) (Rle.refl _) fun _ _ _ z => z⟩
/-- a new object of another's (a slot's) -/
theorem HRel.owned (h : HRel K F P Mm ρ g H) (n : H p = none) : HRel K F (upd P p u) Mm ρ g (upd H p u) := by
  have nF := h.fnone n
  have nP := h.pnone n
  have nM := h.mnone n
  have ne : ∀ {G : Hp} {b : Addr} {v : HO}, G p = none → G b = some v → b ≠ p := fun {G b v} gn e z => by subst z; rw [gn] at e; cases e
  refine ⟨fun b v e => ?_, fun b v e => ?_, fun b v e => ?_, fun b v e => ?_, fun b v e => ?_, h.st, h.inj, h.nx, h.rh⟩
  · have hb := ne nF e
    have q := h.fh b v e
    split
    · rename_i hd
      rw [if_pos hd] at q
      rcases q with q | ⟨o, q⟩
      · exact .inl (by rw [upd_ne hb]; exact q)
      · exact .inr ⟨o, by rw [upd_ne hb]; exact q⟩
    · rename_i hd
      rw [if_neg hd] at q
      rw [upd_ne hb]; exact q
  · by_cases hb : b = p
    · subst hb; rw [upd_same] at e ⊢; exact e
    · rw [upd_ne hb] at e ⊢; exact h.ph b v e
  · rw [upd_ne (ne nM e)]; exact h.mh b v e
  · have hb := ne nF e
    rw [upd_ne hb]; exact h.fp b v e
  · by_cases hb : b = p
    · subst hb; exact nM
    · rw [upd_ne hb] at e; exact h.pm b v e
/-- an owned object is changed -/
theorem HRel.setP (h : HRel K F P Mm ρ g H) {w : HO} (e0 : P p = some w) : HRel K F (upd P p u) Mm ρ g (upd H p u) := by
  have nF : F p = none := by
    cases e : F p with
    | none => rfl
    | some v => rw [(h.fp p v e).1] at e0; cases e0
  have nM := h.pm p w e0
  have ne : ∀ {G : Hp} {b : Addr} {v : HO}, G p = none → G b = some v → b ≠ p := fun {G b v} gn e z => by subst z; rw [gn] at e; cases e
  refine ⟨fun b v e => ?_, fun b v e => ?_, fun b v e => ?_, fun b v e => ?_, fun b v e => ?_, h.st, h.inj, h.nx, h.rh⟩
  · have hb := ne nF e
    have q := h.fh b v e
    split
    · rename_i hd
      rw [if_pos hd] at q
      rcases q with q | ⟨o, q⟩
      · exact .inl (by rw [upd_ne hb]; exact q)
      · exact .inr ⟨o, by rw [upd_ne hb]; exact q⟩
    · rename_i hd
      rw [if_neg hd] at q
      rw [upd_ne hb]; exact q
  · by_cases hb : b = p
    · subst hb; rw [upd_same] at e ⊢; exact e
    · rw [upd_ne hb] at e ⊢; exact h.ph b v e
  · rw [upd_ne (ne nM e)]; exact h.mh b v e
  · have hb := ne nF e
    rw [upd_ne hb]; exact h.fp b v e
  · by_cases hb : b = p
    · subst hb; exact nM
    · rw [upd_ne hb] at e; exact h.pm b v e
def rmv (G : Hp) (p : Addr) : Hp := fun b => if b = p then none else G b
theorem rmv_ne {G : Hp} {b : Addr} (h : b ≠ p) : rmv G p b = G b := if_neg h
theorem rmv_same {G : Hp} : rmv G p p = none := if_pos rfl
theorem rmv_some {G : Hp} {b : Addr} {v : HO} (e : rmv G p b = some v) : b ≠ p ∧ G b = some v := by
  by_cases hb : b = p
  · subst hb; rw [rmv_same] at e; cases e
  · exact ⟨hb, by rw [rmv_ne hb] at e; exact e⟩
/-- an owned object is frozen -/
theorem HRel.freeze (h : HRel K F P Mm ρ g H) (e0 : P p = some u) : HRel K (upd F p u) (rmv P p) Mm ρ g H := by
  have nF : F p = none := by
    cases e : F p with
    | none => rfl
    | some v => rw [(h.fp p v e).1] at e0; cases e0
  refine ⟨fun b v e => ?_, fun b v e => ?_, h.mh, fun b v e => ?_, fun b v e => ?_, fun k so e => ?_, h.inj, h.nx, h.rh⟩
  · by_cases hb : b = p
    · subst hb; rw [upd_same] at e; cases e
      split
      · exact .inl (h.ph _ _ e0)
      · exact h.ph _ _ e0
    · rw [upd_ne hb] at e; exact h.fh b v e
  · obtain ⟨hb, e⟩ := rmv_some e; exact h.ph b v e
  · by_cases hb : b = p
    · subst hb; exact ⟨rmv_same, h.pm _ _ e0⟩
    · rw [upd_ne hb] at e
      obtain ⟨q1, q2⟩ := h.fp b v e
      exact ⟨by rw [rmv_ne hb]; exact q1, q2⟩
  · obtain ⟨hb, e⟩ := rmv_some e; exact h.pm b v e
  · obtain ⟨a, e1, e2⟩ := h.st k so e
    exact ⟨a, e1, e2.mono (leq_upd nF) (Rle.refl _) fun _ _ _ z => z⟩
end

/-! ### the store -/
def GSt.put (g : GSt) (k : Nat) (so : SO) : GSt := { g with S := fun j => if j = k then some so else g.S j }
def GSt.new (g : GSt) (so : SO) : GSt := ⟨fun j => if j = g.nx then some so else g.S j, g.nx + 1⟩
def rput (ρ : Rho) (k : Nat) (a : Addr) : Rho := fun j => if j = k then some a else ρ j
theorem rput_same {ρ : Rho} {k : Nat} {a : Addr} : rput ρ k a k = some a := if_pos rfl
theorem rput_ne {ρ : Rho} {k j : Nat} {a : Addr} (h : j ≠ k) : rput ρ k a j = ρ j := if_neg h
theorem rle_put {ρ : Rho} {k : Nat} {a : Addr} (n : ρ k = none) : Rle ρ (rput ρ k a) := fun j b e => by
  by_cases hj : j = k
  · subst hj; rw [n] at e; cases e
  · rw [rput_ne hj]; exact e
end L2.VI
/-! VI1: judgements over deep data, their glue. -/
namespace L2.VI
open PySem PySem.Spec PyProof.Rows He

/-- an exception's class and own dict stand for x -/
def RepX (K : PySem.W.Frag) (F : Hp) (ρ : Rho) (x : EX) (cls : Value) (d : Option Addr) : Prop :=
  cls = .ref (ga K x.c) ∧ ((x.fs = [] ∧ d = none) ∨ ∃ (dx : Addr) (vs : List (Str × V)), d = some dx ∧ F dx = some (.xd vs) ∧ vs.map (·.1) = x.fs.map (·.1) ∧ RepAll K F ρ (vs.map (·.2)) (x.fs.map (·.2)))
def Post {α β : Type} (rel : Hp → Rho → β → α → Prop) (K : PySem.W.Frag) (W : WX) (P0 F : Hp) (ρ : Rho) (σ : St) (Q : β → Hp → Prop) : R α → Prop
  | .ok a b' => ∀ (x : β) (F' M' : Hp) (ρ' : Rho) (H' : Hp), Leq F F' → Rle ρ ρ' → BRel K F' P0 M' ρ' b' σ H' → rel F' ρ' x a → Q x H'
  | .exc x b' => ∀ (cls : Value) (d : Option Addr) (F' M' : Hp) (ρ' : Rho) (H' : Hp), Leq F F' → Rle ρ ρ' → BRel K F' P0 M' ρ' b' σ H' → RepX K F' ρ' x cls d → W cls d σ H'
  | .fail => False
def tM {α β : Type} (rel : Hp → Rho → β → α → Prop) (K : PySem.W.Frag) (W : WX) (m : M α) : St → Hp → (β → Hp → Prop) → Prop :=
  fun σ H Q => ∃ F P0 Mm ρ b, BRel K F P0 Mm ρ b σ H ∧ Post rel K W P0 F ρ σ Q (m b)
abbrev tE (K : PySem.W.Frag) (W : WX) (m : M D) : TE := tM (Rep K) K W m
abbrev tT (K : PySem.W.Frag) (W : WX) (m : M Bool) : TT := tM (fun _ _ x a => x = a) K W m
abbrev tA (K : PySem.W.Frag) (W : WX) (m : M (List D)) : TA := tM (RepAll K) K W m
def SE (X : Cx) (W : WX) (e : Expr) (m : M D) : Prop := PE X e (tE X.K W m)
def SB (X : Cx) (W : WX) (e : Expr) (m : M Bool) : Prop := PT X e (tT X.K W m)
def SA (X : Cx) (W : WX) (es : List Expr) (m : M (List D)) : Prop := PA X es (tA X.K W m)
section
variable {α β γ δ : Type} {rel : Hp → Rho → β → α → Prop} {rel' : Hp → Rho → δ → γ → Prop} {K : PySem.W.Frag} {W : WX} {P0 F F1 Mm H : Hp} {ρ r1 : Rho} {σ : St} {b : BSt} {Q : β → Hp → Prop} {Q' : δ → Hp → Prop}
theorem Post.mono {r : R α} (h : Post rel K W P0 F ρ σ Q r) (l : Leq F F1) (e : Rle ρ r1) : Post rel K W P0 F1 r1 σ Q r := by
  cases r with
  | ok a b' => exact fun x F' M' ρ' H' l' e' B r => h x F' M' ρ' H' (l.trans l') (e.trans e') B r
  | exc x b' => exact fun c d F' M' ρ' H' l' e' B r => h c d F' M' ρ' H' (l.trans l') (e.trans e') B r
  | fail => exact h
theorem tM_of {m : M α} (B : BRel K F P0 Mm ρ b σ H) (h : Post rel K W P0 F ρ σ Q (m b)) : tM rel K W m σ H Q := ⟨F, P0, Mm, ρ, b, B, h⟩
theorem tM_then {m : M α} {k : α → M γ} (B : BRel K F P0 Mm ρ b σ H) (h : Post rel' K W P0 F ρ σ Q' (M.bind m k b))
    (hk : ∀ x a F1 M1 r1 b1 H1, Leq F F1 → Rle ρ r1 → BRel K F1 P0 M1 r1 b1 σ H1 → rel F1 r1 x a → Post rel' K W P0 F1 r1 σ Q' (k a b1) → Q x H1) : tM rel K W m σ H Q := by
  refine ⟨F, P0, Mm, ρ, b, B, ?_⟩
  unfold M.bind at h
  cases e : m b with
  | ok a b' =>
    rw [e] at h
    exact fun x F' M' ρ' H' l r B' q => hk x a F' M' ρ' b' H' l r B' q (Post.mono h l r)
  | exc x b' => rw [e] at h; exact h
  | fail => rw [e] at h; exact h.elim
/-- the end of a rule: the value is handed on -/
theorem Post.now {a : α} {x : β} (h : Post rel K W P0 F ρ σ Q (.ok a b)) (B : BRel K F P0 Mm ρ b σ H) (q : rel F ρ x a) : Q x H := h x F Mm ρ H (Leq.refl _) (Rle.refl _) B q
end
/-- m, if c holds -/
def guardM {α : Type} (c : Prop) [Decidable c] (m : M α) : M α := fun b => if c then m b else .fail
theorem Post.guard {α β : Type} {rel : Hp → Rho → β → α → Prop} {K : PySem.W.Frag} {W : WX} {P0 F : Hp} {ρ : Rho} {σ : St} {b : BSt} {Q : β → Hp → Prop} {c : Prop} [Decidable c] {m : M α} (h : Post rel K W P0 F ρ σ Q (guardM c m b)) : c ∧ Post rel K W P0 F ρ σ Q (m b) := by
  unfold guardM at h
  split at h
  · rename_i hc; exact ⟨hc, h⟩
  · exact h.elim
/-- a rule from one of the hand layer -/
theorem SE.of {X : Cx} {W : WX} {e : Expr} {m : M D} {t : TE} (h : PE X e t)
    (ht : ∀ σ H F P0 Mm ρ b Q, BRel X.K F P0 Mm ρ b σ H → Post (Rep X.K) X.K W P0 F ρ σ Q (m b) → t σ H Q) : SE X W e m := ⟨fun pins s σ H Q I ⟨F, P0, Mm, ρ, b, B, q⟩ => h.run pins s σ H Q I (ht σ H F P0 Mm ρ b Q B q)⟩
theorem SB.of {X : Cx} {W : WX} {e : Expr} {m : M Bool} {t : TT} (h : PT X e t)
    (ht : ∀ σ H F P0 Mm ρ b Q, BRel X.K F P0 Mm ρ b σ H → Post (fun _ _ x a => x = a) X.K W P0 F ρ σ Q (m b) → t σ H Q) : SB X W e m := ⟨fun pins s σ H Q I ⟨F, P0, Mm, ρ, b, B, q⟩ => h.run pins s σ H Q I (ht σ H F P0 Mm ρ b Q B q)⟩
theorem SA.of {X : Cx} {W : WX} {e : List Expr} {m : M (List D)} {t : TA} (h : PA X e t)
    (ht : ∀ σ H F P0 Mm ρ b Q, BRel X.K F P0 Mm ρ b σ H → Post (RepAll X.K) X.K W P0 F ρ σ Q (m b) → t σ H Q) : SA X W e m := ⟨fun pos pins s σ H Q I ⟨F, P0, Mm, ρ, b, B, q⟩ => h.run pos pins s σ H Q I (ht σ H F P0 Mm ρ b Q B q)⟩

/-! ### fresh objects -/
/-- at p: a fresh object, nobody's -/
def Frs (K : PySem.W.Frag) (F P0 Mm : Hp) (ρ : Rho) (b : BSt) (σ : St) (H : Hp) (p : Addr) (so : SO) : Prop :=
  ∃ P q, BR K F P0 P Mm ρ q b σ H ∧ RepO K F ρ P p so ∧ so.plain = true ∧ P0 p = none ∧ ∀ i, q i ≠ some p
def PostF (K : PySem.W.Frag) (W : WX) (P0 F : Hp) (ρ : Rho) (σ : St) (Q : VK) : R SO → Prop
  | .ok so b' => ∀ (p : Addr) (F' M' : Hp) (ρ' : Rho) (H' : Hp), Leq F F' → Rle ρ ρ' → Frs K F' P0 M' ρ' b' σ H' p so → Q (.ref p) H'
  | .exc x b' => ∀ (cls : Value) (d : Option Addr) (F' M' : Hp) (ρ' : Rho) (H' : Hp), Leq F F' → Rle ρ ρ' → BRel K F' P0 M' ρ' b' σ H' → RepX K F' ρ' x cls d → W cls d σ H'
  | .fail => False
def tF (K : PySem.W.Frag) (W : WX) (m : M SO) : TE := fun σ H Q => ∃ F P0 Mm ρ b, BRel K F P0 Mm ρ b σ H ∧ PostF K W P0 F ρ σ Q (m b)
/-- an expression that makes a new object -/
def SN (X : Cx) (W : WX) (e : Expr) (m : M SO) : Prop := PE X e (tF X.K W m)
theorem SN.of {X : Cx} {W : WX} {e : Expr} {m : M SO} {t : TE} (h : PE X e t)
    (ht : ∀ σ H F P0 Mm ρ b Q, BRel X.K F P0 Mm ρ b σ H → PostF X.K W P0 F ρ σ Q (m b) → t σ H Q) : SN X W e m := ⟨fun pins s σ H Q I ⟨F, P0, Mm, ρ, b, B, q⟩ => h.run pins s σ H Q I (ht σ H F P0 Mm ρ b Q B q)⟩
theorem PostF.mono {K : PySem.W.Frag} {W : WX} {P0 F F1 : Hp} {ρ r1 : Rho} {σ : St} {Q : VK} {r : R SO} (h : PostF K W P0 F ρ σ Q r) (l : Leq F F1) (e : Rle ρ r1) : PostF K W P0 F1 r1 σ Q r := by
  cases r with
  | ok a b' => exact fun x F' M' ρ' H' l' e' B => h x F' M' ρ' H' (l.trans l') (e.trans e') B
  | exc x b' => exact fun c d F' M' ρ' H' l' e' B r => h c d F' M' ρ' H' (l.trans l') (e.trans e') B r
  | fail => exact h
/-- a step ahead of a fresh object -/
theorem tM_thenF {α β : Type} {rel : Hp → Rho → β → α → Prop} {K : PySem.W.Frag} {W : WX} {P0 F Mm H : Hp} {ρ : Rho} {σ : St} {b : BSt} {Q : β → Hp → Prop} {Q' : VK} {m : M α} {k : α → M SO} (B : BRel K F P0 Mm ρ b σ H) (h : PostF K W P0 F ρ σ Q' (M.bind m k b))
    (hk : ∀ x a F1 M1 r1 b1 H1, Leq F F1 → Rle ρ r1 → BRel K F1 P0 M1 r1 b1 σ H1 → rel F1 r1 x a → PostF K W P0 F1 r1 σ Q' (k a b1) → Q x H1) : tM rel K W m σ H Q := by
  refine ⟨F, P0, Mm, ρ, b, B, ?_⟩
  unfold M.bind at h
  cases e : m b with
  | ok a b' =>
    rw [e] at h
    exact fun x F' M' ρ' H' l r B' q => hk x a F' M' ρ' b' H' l r B' q (PostF.mono h l r)
  | exc x b' => rw [e] at h; exact h
  | fail => rw [e] at h; exact h.elim
section
variable {K : PySem.W.Frag} {F P P0 Mm H : Hp} {ρ : Rho} {q : Nat → Option Addr} {b : BSt} {σ : St} {p : Addr} {u : HO} {so : SO}
theorem RepO.monoP {F' : Hp} {ρ' : Rho} {Mm' : Hp} {a : Addr} (e : Leq F F') (r : Rle ρ ρ') (h : RepO K F ρ Mm a so) (pl : so.plain = true) (m : ∀ u, Mm a = some u → Mm' a = some u) : RepO K F' ρ' Mm' a so := by
  cases so with
  | lst ds => obtain ⟨vs, h1, h2⟩ := h; exact ⟨vs, m _ h1, h2.mono e r⟩
  | dic ds => obtain ⟨vs, h1, h2, h3⟩ := h; exact ⟨vs, m _ h1, h2, h3.mono e r⟩
  | dct ds => obtain ⟨vs, h1, h2, h3⟩ := h; exact ⟨vs, m _ h1, h2, h3.mono e r⟩
  | ins c ds => cases pl
theorem RepO.there {a : Addr} (h : RepO K F ρ Mm a so) : ∃ u, Mm a = some u ∧ ∀ x, u ≠ .own x := by
  cases so with
  | lst ds => obtain ⟨vs, h1, h2⟩ := h; exact ⟨_, h1, fun _ z => nomatch z⟩
  | dic ds => obtain ⟨vs, h1, h2, h3⟩ := h; exact ⟨_, h1, fun _ z => nomatch z⟩
  | dct ds => obtain ⟨vs, h1, h2, h3⟩ := h; exact ⟨_, h1, fun _ z => nomatch z⟩
  | ins c ds => obtain ⟨dx, vs, h1, h2⟩ := h; exact ⟨_, h1, fun _ z => nomatch z⟩
theorem SlotRel.mono {F' P' : Hp} {ρ' : Rho} {q' : Nat → Option Addr} {i : Nat} {s : Slot} (h : SlotRel K F P0 P ρ q σ i s) (l : Leq F F') (r : Rle ρ ρ')
    (hq : ∀ p, q i = some p → q' i = some p ∧ ∀ u, P p = some u → P' p = some u) : SlotRel K F' P0 P' ρ' q' σ i s := by
  cases s with
  | val d => obtain ⟨v, e, rr⟩ := h; exact ⟨v, e, rr.mono l r⟩
  | own o =>
    obtain ⟨p, e, e2, n, rr, pl⟩ := h
    obtain ⟨q1, q2⟩ := hq p e2
    exact ⟨p, e, q1, n, rr.monoP l r pl q2, pl⟩
theorem HRel.pset (h : HRel K F P Mm ρ b.g H) (n : H p = none) : P p = none := h.pnone n
/-- a new object at p, nobody's -/
theorem BRel.fresh (B : BRel K F P0 Mm ρ b σ H) (n : H p = none) (hso : ∀ P', P' p = some u → RepO K F ρ P' p so) (pl : so.plain = true) : Frs K F P0 Mm ρ b σ (upd H p u) p so := by
  obtain ⟨P, q, B⟩ := B
  have nP := B.h.pnone n
  refine ⟨upd P p u, fun i => if q i = some p then none else q i, ⟨B.h.owned n, fun a w e => ?_, B.len, fun i j a e1 e2 => ?_, fun i s e => ?_⟩, hso _ upd_same, pl, ?_, fun i z => ?_⟩
  · have q1 := B.pp a w e
    have : a ≠ p := fun z => by subst z; rw [nP] at q1; cases q1
    rw [upd_ne this]; exact q1
  · try dsimp only at e1 e2
    split at e1
    · cases e1
    · split at e2
      · cases e2
      · exact B.qi i j a e1 e2
  · have q1 := B.sl i s e
    cases s with
    | val d => exact q1
    | own o =>
      obtain ⟨a, e1, e2, e3, e4, e5⟩ := q1
      have na : a ≠ p := fun z => by
        subst z
        obtain ⟨w, hw, _⟩ := e4.there
        rw [nP] at hw; cases hw
      refine ⟨a, e1, ?_, e3, e4.monoP (Leq.refl _) (Rle.refl _) e5 fun w z => by rw [upd_ne na]; exact z, e5⟩
      exact (if_neg (fun z => na (Option.some.inj (e2.symm.trans z)))).trans e2
  · cases e : P0 p with
    | none => rfl
    | some w => have := B.pp p w e; rw [nP] at this; cases this
  · try dsimp only at z
    split at z
    · cases z
    · exact absurd z (by assumption)
/-- a fresh object is frozen -/
theorem Frs.freeze (h : Frs K F P0 Mm ρ b σ H p so) : ∃ F' u, Leq F F' ∧ F' p = some u ∧ BRel K F' P0 Mm ρ b σ H ∧ RepO K F' ρ F' p so := by
  obtain ⟨P, q, B, r, pl, n0, nq⟩ := h
  obtain ⟨u, hu, _⟩ := id r.there
  have nF : F p = none := by
    cases e : F p with
    | none => rfl
    | some v => rw [(B.h.fp p v e).1] at hu; cases hu
  have l : Leq F (upd F p u) := leq_upd nF
  refine ⟨upd F p u, u, l, upd_same, ⟨rmv P p, q, B.h.freeze hu, fun a w e => ?_, B.len, B.qi, fun i s e => ?_⟩, r.monoP l (Rle.refl _) pl fun w z => ?_⟩
  · have : a ≠ p := fun z => by subst z; rw [n0] at e; cases e
    rw [rmv_ne this]; exact B.pp a w e
  · refine (B.sl i s e).mono l (Rle.refl _) fun a ea => ⟨ea, fun w z => ?_⟩
    have : a ≠ p := fun z => nq i (by rw [← z]; exact ea)
    rw [rmv_ne this]; exact z
  · rw [hu] at z; rw [upd_same]; exact z
def SO.frozen : SO → Option D
  | .lst xs => some (.lst xs)
  | .dic kvs => some (.dic kvs)
  | _ => none
theorem RepO.rep {d : D} (r : RepO K F ρ F p so) (e : so.frozen = some d) : Rep K F ρ (.ref p) d := by
  cases so with
  | lst ds => cases e; obtain ⟨vs, h1, h2⟩ := r; exact .lst h1 h2
  | dic ds => cases e; obtain ⟨vs, h1, h2, h3⟩ := r; exact .dic h1 h2 h3
  | dct ds => cases e
  | ins c f => cases e
/-- .. goes into the store -/
theorem HRel.toStore {g : GSt} (h : HRel K F P Mm ρ g H) (e0 : P p = some u) (nu : ∀ x, u ≠ .own x) (hso : RepO K F ρ P p so) (pl : so.plain = true) :
    HRel K F (rmv P p) (upd Mm p u) (rput ρ g.nx p) (g.new so) H ∧ Rle ρ (rput ρ g.nx p) := by
  have nM := h.pm p u e0
  have nx : ρ g.nx = none := h.nx _ (Nat.le_refl _)
  have rl : Rle ρ (rput ρ g.nx p) := rle_put nx
  have lm : Leq Mm (upd Mm p u) := leq_upd nM
  have np : ∀ k, ρ k ≠ some p := fun k z => by
    obtain ⟨w, hw, _⟩ := h.rh k p z
    rw [nM] at hw; cases hw
  refine ⟨⟨h.fh, fun b v e => ?_, fun b v e => ?_, fun b v e => ?_, fun b v e => ?_, fun k o e => ?_, fun k j a e1 e2 => ?_, fun k hk => ?_, fun k a e => ?_⟩, rl⟩
  · obtain ⟨hb, e⟩ := rmv_some e; exact h.ph b v e
  · by_cases hb : b = p
    · subst hb; rw [upd_same] at e; cases e; exact h.ph _ _ e0
    · rw [upd_ne hb] at e; exact h.mh b v e
  · obtain ⟨q1, q2⟩ := h.fp b v e
    have hb : b ≠ p := fun z => by subst z; rw [e0] at q1; cases q1
    exact ⟨by rw [rmv_ne hb]; exact q1, by rw [upd_ne hb]; exact q2⟩
  · obtain ⟨hb, e⟩ := rmv_some e
    rw [upd_ne hb]; exact h.pm b v e
  · by_cases hk : k = g.nx
    · subst hk
      have e' : so = o := Option.some.inj (show some so = some o by rw [← e]; exact (if_pos rfl).symm)
      subst e'
      exact ⟨p, rput_same, hso.monoP (Leq.refl _) rl pl fun w z => by rw [e0] at z; rw [upd_same]; exact z⟩
    · have e' : g.S k = some o := by rw [← e]; exact (if_neg hk).symm
      obtain ⟨a, e1, e2⟩ := h.st k o e'
      exact ⟨a, rl _ _ e1, e2.mono (Leq.refl _) rl fun c w _ z => lm c w z⟩
  · by_cases hk : k = g.nx
    · by_cases hj : j = g.nx
      · rw [hk, hj]
      · subst hk
        rw [rput_same] at e1; cases e1
        rw [rput_ne hj] at e2
        exact absurd e2 (np j)
    · rw [rput_ne hk] at e1
      by_cases hj : j = g.nx
      · subst hj
        rw [rput_same] at e2; cases e2
        exact absurd e1 (np k)
      · rw [rput_ne hj] at e2; exact h.inj k j a e1 e2
  · have h1 : g.nx + 1 ≤ k := hk
    rw [rput_ne (by omega)]; exact h.nx k (by omega)
  · by_cases hk : k = g.nx
    · subst hk; rw [rput_same] at e; cases e; exact ⟨u, upd_same, nu⟩
    · rw [rput_ne hk] at e
      obtain ⟨w, hw, hn⟩ := h.rh k a e
      exact ⟨w, lm a w hw, hn⟩
theorem Frs.store (h : Frs K F P0 Mm ρ b σ H p so) : ∃ M' ρ', Rle ρ ρ' ∧ BRel K F P0 M' ρ' { b with g := b.g.new so } σ H ∧ Rep K F ρ' (.ref p) (.ptr b.g.nx) := by
  obtain ⟨P, q, B, r, pl, n0, nq⟩ := h
  obtain ⟨u, hu, nu⟩ := id r.there
  obtain ⟨h1, rl⟩ := B.h.toStore hu nu r pl
  refine ⟨_, _, rl, ⟨rmv P p, q, h1, fun a w e => ?_, B.len, B.qi, fun i s e => ?_⟩, .ptr rput_same⟩
  · have : a ≠ p := fun z => by subst z; rw [n0] at e; cases e
    rw [rmv_ne this]; exact B.pp a w e
  · refine (B.sl i s e).mono (Leq.refl _) rl fun a ea => ⟨ea, fun w z => ?_⟩
    have : a ≠ p := fun z => nq i (by rw [← z]; exact ea)
    rw [rmv_ne this]; exact z
/-- a slot takes a value -/
theorem BRel.setV {v : V} {d : D} (B : BRel K F P0 Mm ρ b σ H) (i : Nat) (r : Rep K F ρ v d) : BRel K F P0 Mm ρ { b with t := b.t.set i (some (.val d)) } (σ.set i (some v)) H := by
  obtain ⟨P, q, B⟩ := B
  refine ⟨P, q, B.h, B.pp, by simpa using B.len, B.qi, fun j s e => ?_⟩
  by_cases hj : j = i
  · subst hj
    have hl : j < b.t.length := by
      by_cases h : j < b.t.length
      · exact h
      · have e' : (b.t.set j (some (Slot.val d)))[j]? = some (some s) := e
        rw [List.getElem?_eq_none (by simpa using h)] at e'; cases e'
    have e' : (b.t.set j (some (Slot.val d)))[j]? = some (some s) := e
    rw [List.getElem?_set_self hl] at e'
    cases e'
    exact ⟨v, List.getElem?_set_self (by rw [B.len]; exact hl), r⟩
  · have e' : (b.t.set i (some (Slot.val d)))[j]? = some (some s) := e
    rw [List.getElem?_set_ne (Ne.symm hj)] at e'
    have q1 := B.sl j s e'
    cases s with
    | val d' => obtain ⟨v', h1, h2⟩ := q1; exact ⟨v', by rw [List.getElem?_set_ne (Ne.symm hj)]; exact h1, h2⟩
    | own o => obtain ⟨p, h1, h2⟩ := q1; exact ⟨p, by rw [List.getElem?_set_ne (Ne.symm hj)]; exact h1, h2⟩
/-- a slot is forgotten -/
theorem BRel.drop (B : BRel K F P0 Mm ρ b σ H) (i : Nat) (v : Option V) : BRel K F P0 Mm ρ { b with t := b.t.set i none } (σ.set i v) H := by
  obtain ⟨P, q, B⟩ := B
  refine ⟨P, q, B.h, B.pp, by simpa using B.len, B.qi, fun j s e => ?_⟩
  have e' : (b.t.set i none)[j]? = some (some s) := e
  by_cases hj : j = i
  · subst hj
    by_cases hl : j < b.t.length
    · rw [List.getElem?_set_self hl] at e'; cases e'
    · rw [List.getElem?_eq_none (by simpa using hl)] at e'; cases e'
  · rw [List.getElem?_set_ne (Ne.symm hj)] at e'
    have q1 := B.sl j s e'
    cases s with
    | val d' => obtain ⟨v', h1, h2⟩ := q1; exact ⟨v', by rw [List.getElem?_set_ne (Ne.symm hj)]; exact h1, h2⟩
    | own o => obtain ⟨p, h1, h2⟩ := q1; exact ⟨p, by rw [List.getElem?_set_ne (Ne.symm hj)]; exact h1, h2⟩
/-- a slot takes a fresh object for its own -/
theorem Frs.setO (h : Frs K F P0 Mm ρ b σ H p so) (i : Nat) : BRel K F P0 Mm ρ { b with t := b.t.set i (some (.own so)) } (σ.set i (some (.ref p))) H := by
  obtain ⟨P, q, B, r, pl, n0, nq⟩ := h
  refine ⟨P, fun j => if j = i then some p else q j, B.h, B.pp, by simpa using B.len, fun j k a e1 e2 => ?_, fun j s e => ?_⟩
  · try dsimp only at e1 e2
    split at e1
    · split at e2
      · rename_i h1 h2; rw [h1, h2]
      · cases e1; exact absurd e2 (nq k)
    · split at e2
      · cases e2; exact absurd e1 (nq j)
      · exact B.qi j k a e1 e2
  · by_cases hj : j = i
    · subst hj
      have hl : j < b.t.length := by
        by_cases h : j < b.t.length
        · exact h
        · have e' : (b.t.set j (some (Slot.own so)))[j]? = some (some s) := e
          rw [List.getElem?_eq_none (by simpa using h)] at e'; cases e'
      have e' : (b.t.set j (some (Slot.own so)))[j]? = some (some s) := e
      rw [List.getElem?_set_self hl] at e'
      cases e'
      exact ⟨p, List.getElem?_set_self (by rw [B.len]; exact hl), if_pos rfl, n0, r, pl⟩
    · have e' : (b.t.set i (some (Slot.own so)))[j]? = some (some s) := e
      rw [List.getElem?_set_ne (Ne.symm hj)] at e'
      have q1 := B.sl j s e'
      cases s with
      | val d' => obtain ⟨v', h1, h2⟩ := q1; exact ⟨v', by rw [List.getElem?_set_ne (Ne.symm hj)]; exact h1, h2⟩
      | own o => obtain ⟨p, h1, h2, h3⟩ := q1; exact ⟨p, by rw [List.getElem?_set_ne (Ne.symm hj)]; exact h1, (if_neg hj).trans h2, h3⟩
/-- a slot's own object is frozen: it is read as a value -/
theorem BRel.thaw {d : D} (B : BRel K F P0 Mm ρ b σ H) {i : Nat} (e : b.t[i]? = some (some (.own so))) (hd : so.frozen = some d) :
    ∃ v F', Leq F F' ∧ σ[i]? = some (some v) ∧ BRel K F' P0 Mm ρ { b with t := b.t.set i (some (.val d)) } σ H ∧ Rep K F' ρ v d := by
  obtain ⟨P, q, B⟩ := B
  obtain ⟨p, e1, e2, n0, r, pl⟩ := B.sl i _ e
  obtain ⟨u, hu, _⟩ := id r.there
  have nF : F p = none := by
    cases e : F p with
    | none => rfl
    | some v => rw [(B.h.fp p v e).1] at hu; cases hu
  have l : Leq F (upd F p u) := leq_upd nF
  have rr : Rep K (upd F p u) ρ (.ref p) d := (r.monoP l (Rle.refl _) pl fun w z => by rw [hu] at z; rw [upd_same]; exact z).rep hd
  refine ⟨.ref p, upd F p u, l, e1, ⟨rmv P p, fun j => if j = i then none else q j, B.h.freeze hu, fun a w e => ?_, by simpa using B.len, fun j k a x1 x2 => ?_, fun j s x => ?_⟩, rr⟩
  · have : a ≠ p := fun z => by subst z; rw [n0] at e; cases e
    rw [rmv_ne this]; exact B.pp a w e
  · try dsimp only at x1 x2
    split at x1
    · cases x1
    · split at x2
      · cases x2
      · exact B.qi j k a x1 x2
  · have hl : i < b.t.length := (List.getElem?_eq_some_iff.mp e).1
    have x' : (b.t.set i (some (Slot.val d)))[j]? = some (some s) := x
    by_cases hj : j = i
    · subst hj
      rw [List.getElem?_set_self hl] at x'
      cases x'
      exact ⟨_, e1, rr⟩
    · rw [List.getElem?_set_ne (Ne.symm hj)] at x'
      refine (B.sl j s x').mono l (Rle.refl _) fun a ea => ⟨(if_neg hj).trans ea, fun w z => ?_⟩
      have : a ≠ p := fun z => hj (B.qi j i a ea (by rw [z]; exact e2))
      rw [rmv_ne this]; exact z
/-- a slot's own object is changed -/
theorem BRel.chg {so' : SO} {u' : HO} (B : BRel K F P0 Mm ρ b σ H) {i : Nat} (e : b.t[i]? = some (some (.own so))) (pl' : so'.plain = true) :
    ∃ p u, σ[i]? = some (some (.ref p)) ∧ H p = some u ∧ RepO K F ρ (fun _ => some u) p so ∧ F p = none ∧ Mm p = none ∧ ((∀ P', P' p = some u' → RepO K F ρ P' p so') → BRel K F P0 Mm ρ { b with t := b.t.set i (some (.own so')) } σ (upd H p u')) := by
  obtain ⟨P, q, B⟩ := B
  obtain ⟨p, e1, e2, n0, r, pl⟩ := B.sl i _ e
  obtain ⟨u, hu, _⟩ := id r.there
  have nF : F p = none := by
    cases e : F p with
    | none => rfl
    | some v => rw [(B.h.fp p v e).1] at hu; cases hu
  refine ⟨p, u, e1, B.h.ph _ _ hu, r.monoP (Leq.refl _) (Rle.refl _) pl fun w z => by rw [hu] at z; exact z, nF, B.h.pm _ _ hu, fun hn => ⟨upd P p u', q, B.h.setP hu, fun a w e => ?_, by simpa using B.len, B.qi, fun j s x => ?_⟩⟩
  · have : a ≠ p := fun z => by subst z; rw [n0] at e; cases e
    rw [upd_ne this]; exact B.pp a w e
  · have hl : i < b.t.length := (List.getElem?_eq_some_iff.mp e).1
    have x' : (b.t.set i (some (Slot.own so')))[j]? = some (some s) := x
    by_cases hj : j = i
    · subst hj
      rw [List.getElem?_set_self hl] at x'
      cases x'
      exact ⟨p, e1, e2, n0, hn _ upd_same, pl'⟩
    · rw [List.getElem?_set_ne (Ne.symm hj)] at x'
      refine (B.sl j s x').mono (Leq.refl _) (Rle.refl _) fun a ea => ⟨ea, fun w z => ?_⟩
      have : a ≠ p := fun z => hj (B.qi j i a ea (by rw [z]; exact e2))
      rw [upd_ne this]; exact z
/-- an object of the store is changed -/
theorem HRel.put {g : GSt} {k : Nat} {so' : SO} {u' : HO} (h : HRel K F P Mm ρ g H) (e : g.S k = some so) (pl : so.plain = true) (pl' : so'.plain = true) :
    ∃ a u, ρ k = some a ∧ Mm a = some u ∧ H a = some u ∧ RepO K F ρ (fun _ => some u) a so ∧ F a = none ∧ P a = none ∧
      ((∀ x, u' ≠ .own x) → (∀ M', M' a = some u' → RepO K F ρ M' a so') → HRel K F P (upd Mm a u') ρ (g.put k so') (upd H a u')) := by
  obtain ⟨a, e1, r⟩ := h.st k so e
  obtain ⟨u, hu, nu⟩ := id r.there
  have nF : F a = none := by
    cases e : F a with
    | none => rfl
    | some v => rw [(h.fp a v e).2] at hu; cases hu
  have nP : P a = none := by
    cases e : P a with
    | none => rfl
    | some v => rw [h.pm a v e] at hu; cases hu
  have ne : ∀ {G : Hp} {b : Addr} {v : HO}, G a = none → G b = some v → b ≠ a := fun {G b v} gn e z => by subst z; rw [gn] at e; cases e
  refine ⟨a, u, e1, hu, h.mh _ _ hu, r.monoP (Leq.refl _) (Rle.refl _) pl fun w z => by rw [hu] at z; exact z, nF, nP, fun nu' hn => ⟨fun b v e => ?_, fun b v e => ?_, fun b v e => ?_, fun b v e => ?_, fun b v e => ?_, fun j o x => ?_, h.inj, h.nx, fun j c x => ?_⟩⟩
  · have hb := ne nF e
    have q := h.fh b v e
    split
    · rename_i hd
      rw [if_pos hd] at q
      rcases q with q | ⟨o, q⟩
      · exact .inl (by rw [upd_ne hb]; exact q)
      · exact .inr ⟨o, by rw [upd_ne hb]; exact q⟩
    · rename_i hd
      rw [if_neg hd] at q
      rw [upd_ne hb]; exact q
  · rw [upd_ne (ne nP e)]; exact h.ph b v e
  · by_cases hb : b = a
    · subst hb; rw [upd_same] at e ⊢; exact e
    · rw [upd_ne hb] at e ⊢; exact h.mh b v e
  · have hb := ne nF e
    obtain ⟨q1, q2⟩ := h.fp b v e
    exact ⟨q1, by rw [upd_ne hb]; exact q2⟩
  · rw [upd_ne (ne nP e)]; exact h.pm b v e
  · by_cases hj : j = k
    · subst hj
      have x' : so' = o := Option.some.inj (show some so' = some o by rw [← x]; exact (if_pos rfl).symm)
      subst x'
      exact ⟨a, e1, hn _ upd_same⟩
    · have x' : g.S j = some o := by rw [← x]; exact (if_neg hj).symm
      obtain ⟨c, y1, y2⟩ := h.st j o x'
      have hc : c ≠ a := fun z => hj (h.inj j k a (by rw [← z]; exact y1) e1)
      refine ⟨c, y1, y2.mono (Leq.refl _) (Rle.refl _) fun d w hd z => ?_⟩
      have : d ≠ a := by
        rcases hd with rfl | rfl
        · exact hc
        · intro y; subst y; rw [hu] at z; cases z; exact nu _ rfl
      rw [upd_ne this]; exact z
  · obtain ⟨w, y1, y2⟩ := h.rh j c x
    by_cases hc : c = a
    · subst hc; exact ⟨u', upd_same, nu'⟩
    · exact ⟨w, by rw [upd_ne hc]; exact y1, y2⟩
theorem BRel.put {k : Nat} {so' : SO} {u' : HO} (B : BRel K F P0 Mm ρ b σ H) (e : b.g.S k = some so) (pl : so.plain = true) (pl' : so'.plain = true) :
    ∃ a u, ρ k = some a ∧ Mm a = some u ∧ H a = some u ∧ RepO K F ρ (fun _ => some u) a so ∧ F a = none ∧
      ((∀ x, u' ≠ .own x) → (∀ M', M' a = some u' → RepO K F ρ M' a so') → BRel K F P0 (upd Mm a u') ρ { b with g := b.g.put k so' } σ (upd H a u')) := by
  obtain ⟨P, q, B⟩ := B
  obtain ⟨a, u, e1, e2, e3, e4, e5, e6, h⟩ := B.h.put (so' := so') (u' := u') e pl pl'
  exact ⟨a, u, e1, e2, e3, e4, e5, fun n1 n2 => ⟨P, q, h n1 n2, B.pp, B.len, B.qi, B.sl⟩⟩
theorem BRel.frozen (B : BRel K F P0 Mm ρ b σ H) (n : H p = none) (u : HO) : BRel K (upd F p u) P0 Mm ρ b σ (upd H p u) ∧ Leq F (upd F p u) := by
  obtain ⟨P, q, B⟩ := B
  have l := leq_upd (u := u) (B.h.fnone n)
  exact ⟨⟨P, q, B.h.frozen n, B.pp, B.len, B.qi, fun i s e => (B.sl i s e).mono l (Rle.refl _) fun a ea => ⟨ea, fun _ z => z⟩⟩, l⟩
end
end L2.VI
/-! VI2: expressions. -/
namespace L2.VI
open PySem PySem.Spec PyProof.Rows He

/-! ### names, constants -/
def getV (i : Nat) : M D := fun b => match b.t[i]? with
  | some (some (.val d)) => .ok d b
  | some (some (.own so)) => match so.frozen with
    | some d => .ok d { b with t := b.t.set i (some (.val d)) }
    | none => .fail
  | _ => .fail
section
variable {X : Cx} {W : WX} {pos : Pos}
theorem se_var {i : Nat} {x : Str} (h : PE X (.Name x pos) (tVar i)) : SE X W (.Name x pos) (getV i) := by
  refine SE.of h fun σ H F P0 Mm ρ b Q B q => ?_
  unfold getV at q
  split at q
  · rename_i d e
    obtain ⟨P, qq, BB⟩ := id B
    obtain ⟨v, e1, r⟩ := BB.sl i _ e
    exact ⟨v, e1, q.now B r⟩
  · rename_i so e
    split at q
    · rename_i d hd
      obtain ⟨v, F', l, e1, B', r⟩ := B.thaw e hd
      exact ⟨v, e1, q v F' Mm ρ H l (Rle.refl _) B' r⟩
    · exact q.elim
  · exact q.elim
theorem sv (i : Nat) {x : Str} (hN : X.N[i]? = some x := by rfl) (hv : Vis X.env.scope x := by first | exact Or.inl rfl | exact Or.inr (Or.inl rfl) | exact Or.inr (Or.inr rfl)) (hd : (x == ("__debug__" : Str)) = false := by decide)
    (hcd : (x == ("__classdict__" : Str)) = false := by decide) : SE X W (.Name x pos) (getV i) := se_var (pe_var hN hv hd hcd)
theorem se_int {i j} : SE X W (.Constant (.int i) j pos) (M.ret (.int i)) := SE.of pe_int fun σ H F P0 Mm ρ b Q B q => q.now B (.int i)
theorem se_bl {i j} : SE X W (.Constant (.bool i) j pos) (M.ret (.bl i)) := SE.of pe_bl fun σ H F P0 Mm ρ b Q B q => q.now B (.bl i)
theorem se_non {j} : SE X W (.Constant .none j pos) (M.ret .non) := SE.of pe_non fun σ H F P0 Mm ρ b Q B q => q.now B .non
theorem se_str {i j} : SE X W (.Constant (.str i) j pos) (M.ret (.str i)) := SE.of pe_str fun σ H F P0 Mm ρ b Q B q => q.now B (.str i)
/-- a module's number or text -/
theorem se_gint {x : Str} {i : Int} (hm : ∃ t, X.mg x = some (.int i t)) (hg : Gl X x := by rfl) (hd : (x == ("__debug__" : Str)) = false := by decide) : SE X W (.Name x pos) (M.ret (.int i)) := by
  obtain ⟨t, hm⟩ := hm
  exact SE.of (pe_glob (v := .int i) hg hm ⟨t, rfl⟩ hd) fun σ H F P0 Mm ρ b Q B q => q.now B (.int i)
theorem se_gstr {x z : Str} (hm : ∃ t, X.mg x = some (.str z t)) (hg : Gl X x := by rfl) (hd : (x == ("__debug__" : Str)) = false := by decide) : SE X W (.Name x pos) (M.ret (.str z)) := by
  obtain ⟨t, hm⟩ := hm
  exact SE.of (pe_glob (v := .str z) hg hm ⟨t, rfl⟩ hd) fun σ H F P0 Mm ρ b Q B q => q.now B (.str z)
/-- a function or class of the module, as a value -/
theorem se_glo {x : Str} (hm : X.mg x = some (.ref (ga X.K x))) (hg : Gl X x := by rfl) (hd : (x == ("__debug__" : Str)) = false := by decide) : SE X W (.Name x pos) (M.ret (.glo x)) :=
  SE.of (pe_glob (v := .ref (ga X.K x)) hg hm rfl hd) fun σ H F P0 Mm ρ b Q B q => q.now B (.glo x)
/-- a built-in type, as a value -/
theorem se_bty {x : Str} {n : String} (hm : X.mg x = none) (hv : bootBuiltins x = some (.type n)) (hg : Gl X x := by rfl) (hn : x ≠ "__name__" := by decide) (hd : (x == ("__debug__" : Str)) = false := by decide) : SE X W (.Name x pos) (M.ret (.ty n)) :=
  SE.of (pe_bltn (v := .ty n) hg hm hv rfl hn hd) fun σ H F P0 Mm ρ b Q B q => q.now B (.ty n)
end

/-! ### operators -/
def bin2 (f : D → D → M D) (a b : M D) : M D := M.bind a fun x => M.bind b fun y => f x y
/-- g on values is f on data -/
def OpV (X : Cx) (W : WX) (g : Value → Value → Sem Value) (f : D → D → M D) : Prop := ∀ (x y : V) (a c : D) (σ : St) (H F P0 Mm : Hp) (ρ : Rho) (b : BSt) (Q : VK), BRel X.K F P0 Mm ρ b σ H → Rep X.K F ρ x a → Rep X.K F ρ y c →
  Post (Rep X.K) X.K W P0 F ρ σ Q (f a c b) → ∃ r : R2, OpR X g r ∧ r x y H Q
theorem OpR.any {X : Cx} {g : Value → Value → Sem Value} : OpR X g (fun x y H Q => ∃ r, OpR X g r ∧ r x y H Q) := fun pins s σ H x y v u Q I rx ry ⟨r, hr, q⟩ => hr pins s σ H x y v u Q I rx ry q
section
variable {X : Cx} {W : WX} {pos : Pos} {a b : Expr} {ma mb : M D}
theorem tE_2 {K : PySem.W.Frag} {f : D → D → M D} {σ : St} {H F P0 Mm : Hp} {ρ : Rho} {bs : BSt} {Q : VK} {R : V → V → Hp → Prop} (B : BRel K F P0 Mm ρ bs σ H) (h : Post (Rep K) K W P0 F ρ σ Q (bin2 f ma mb bs))
    (hk : ∀ x y d e F1 M1 r1 b1 H1, BRel K F1 P0 M1 r1 b1 σ H1 → Rep K F1 r1 x d → Rep K F1 r1 y e → Post (Rep K) K W P0 F1 r1 σ Q (f d e b1) → R x y H1) : tE K W ma σ H fun x H1 => tE K W mb σ H1 fun y H2 => R x y H2 :=
  tM_then B h fun x d F1 M1 r1 b1 H1 l1 e1 B1 q1 h1 => tM_then B1 h1 fun y e F2 M2 r2 b2 H2 l2 e2 B2 q2 h2 => hk x y d e F2 M2 r2 b2 H2 B2 (q1.mono l2 e2) q2 h2
theorem se_bin {op : Operator} {f : D → D → M D} (hf : OpV X W (binaryOp op) f) (ha : SE X W a ma) (hb : SE X W b mb) : SE X W (.BinOp a op b pos) (bin2 f ma mb) :=
  SE.of (pe_op OpR.any ha hb) fun σ H F P0 Mm ρ bs Q B q => tE_2 B q fun x y d e F1 M1 r1 b1 H1 B1 qx qy h1 => hf x y d e σ H1 F1 P0 M1 r1 b1 Q B1 qx qy h1
theorem se_cmp {op : CmpOp} {f : D → D → M D} (hf : OpV X W (compareOp op) f) (ha : SE X W a ma) (hb : SE X W b mb) (hm : behindInMarks op b = false) : SE X W (.Compare a [op] [b] pos) (bin2 f ma mb) :=
  SE.of (pe_cmpR OpR.any ha hb hm) fun σ H F P0 Mm ρ bs Q B q => tE_2 B q fun x y d e F1 M1 r1 b1 H1 B1 qx qy h1 => hf x y d e σ H1 F1 P0 M1 r1 b1 Q B1 qx qy h1
/-- a value that is True or False, as a test -/
def isB (m : M D) : M Bool := M.bind m fun d => match d with
  | .bl c => M.ret c
  | _ => M.fail
theorem tB_of {K : PySem.W.Frag} {t : TE} {m : M D} {σ : St} {H F P0 Mm : Hp} {ρ : Rho} {bs : BSt} {Q : Bool → Hp → Prop} (B : BRel K F P0 Mm ρ bs σ H) (h : Post (fun _ _ x a => x = a) K W P0 F ρ σ Q (isB m bs))
    (ht : ∀ Q, Post (Rep K) K W P0 F ρ σ Q (m bs) → t σ H Q) : t σ H fun x H1 => ∃ c, x = .bl c ∧ Q c H1 := by
  refine ht _ ?_
  unfold isB M.bind at h
  cases e : m bs with
  | ok d b' =>
    rw [e] at h
    intro x F' M' ρ' H' l r B' q
    cases q with
    | bl c => exact ⟨c, rfl, h c F' M' ρ' H' l r B' rfl⟩
    | _ => exact h.elim
  | exc x b' => rw [e] at h; exact h
  | fail => rw [e] at h; exact h.elim
theorem sb_cmp {op : CmpOp} {f : D → D → M D} (hf : OpV X W (compareOp op) f) (ha : SE X W a ma) (hb : SE X W b mb) (hm : behindInMarks op b = false) : SB X W (.Compare a [op] [b] pos) (isB (bin2 f ma mb)) :=
  SB.of (pt_cmpR OpR.any ha hb hm) fun σ H F P0 Mm ρ bs Q B q => tB_of (t := tOp _ _ _) B q fun Q' h => tE_2 B h fun x y d e F1 M1 r1 b1 H1 B1 qx qy h1 => hf x y d e σ H1 F1 P0 M1 r1 b1 Q' B1 qx qy h1
theorem sb_val {e : Expr} {m : M D} (h : SE X W e m) (he : ∀ whole, isTrue e X.env whole = (do let v ← whole; standAt e.pos; holding [v] (truthy v)) := by intro _; rfl) : SB X W e (isB m) :=
  SB.of (pt_val h he) fun σ H F P0 Mm ρ bs Q B q => tB_of (t := tE X.K W m) B q fun Q' h => tM_of B h
/-! ints, texts, lists, tuples -/
def addD : D → D → M D
  | .int i, .int j => M.ret (.int (i + j))
  | .str x, .str y => guardM (x.length + y.length ≤ sizeLine) (M.ret (.str (x ++ y)))
  | .lst xs, .lst ys => guardM (xs.length + ys.length ≤ sizeLine) (M.ret (.lst (xs ++ ys)))
  | .tup xs, .tup ys => guardM (xs.length + ys.length ≤ sizeLine ∧ xs ≠ []) (M.ret (.tup (xs ++ ys)))
  | _, _ => M.fail
theorem Rep.sqT {K : PySem.W.Frag} {F P P0 Mm H : Hp} {ρ : Rho} {b : BSt} {σ : St} {a : Addr} {vs : List V} (B : BRel K F P0 Mm ρ b σ H) (h : F a = some (.tup vs) ∨ SqT K (fun _ => none) a vs) : SqT K H a vs := by
  rcases h with h | h
  · obtain ⟨P, q, B⟩ := B
    have q := B.h.fh a _ h
    rw [if_neg (show ¬ (isDict (.tup vs) = true) from Bool.false_ne_true)] at q
    exact .inl (.inl q)
  · rcases h with (h | ⟨o, h⟩) | h
    · cases h
    · cases h
    · exact .inr h
theorem BRel.lstAt {K : PySem.W.Frag} {F P0 Mm H : Hp} {ρ : Rho} {b : BSt} {σ : St} {a : Addr} {vs : List V} (B : BRel K F P0 Mm ρ b σ H) (h : F a = some (.lst vs)) : H a = some (.lst vs) := by
  obtain ⟨P, q, B⟩ := B
  have q := B.h.fh a _ h
  rwa [if_neg (show ¬ (isDict (.lst vs) = true) from Bool.false_ne_true)] at q
theorem BRel.dicAt {K : PySem.W.Frag} {F P0 Mm H : Hp} {ρ : Rho} {b : BSt} {σ : St} {a : Addr} {vs : List (Key × V)} (B : BRel K F P0 Mm ρ b σ H) (h : F a = some (.dK vs)) : Rd H a (.dK vs) := by
  obtain ⟨P, q, B⟩ := B
  have q := B.h.fh a _ h
  rwa [if_pos (by rfl)] at q
/-- a new frozen value ends a rule -/
theorem Post.new {K : PySem.W.Frag} {F P0 Mm H : Hp} {ρ : Rho} {b : BSt} {σ : St} {Q : VK} {d : D} {p : Addr} {u : HO} (h : Post (Rep K) K W P0 F ρ σ Q (.ok d b)) (B : BRel K F P0 Mm ρ b σ H) (n : H p = none)
    (r : ∀ F', Leq F F' → F' p = some u → Rep K F' ρ (.ref p) d) : Q (.ref p) (upd H p u) := by
  obtain ⟨B', l⟩ := B.frozen n u
  exact h (.ref p) _ Mm ρ _ l (Rle.refl _) B' (r _ l upd_same)
theorem ov_add : OpV X W (binaryOp .Add) addD := by
  intro x y a c σ H F P0 Mm ρ b Q B rx ry h
  cases rx with
  | int i => cases ry with
    | int j => exact ⟨_, op_add, i, j, rfl, rfl, h.now B (.int _)⟩
    | _ => exact h.elim
  | str i => cases ry with
    | str j =>
      obtain ⟨hl, h⟩ := Post.guard h
      exact ⟨_, op_add_str, i, j, rfl, rfl, hl, h.now B (.str _)⟩
    | _ => exact h.elim
  | lst h1 r1 => cases ry with
    | lst h2 r2 =>
      obtain ⟨hl, h⟩ := Post.guard h
      · refine ⟨_, op_cat, _, _, _, _, rfl, rfl, B.lstAt h1, B.lstAt h2, by rw [r1.length, r2.length]; exact hl, fun p hp => h.new B hp fun F' l e => .lst e ((r1.mono l (Rle.refl _)).append (r2.mono l (Rle.refl _)))⟩
    | _ => exact h.elim
  | tup h1 r1 => cases ry with
    | tup h2 r2 =>
      obtain ⟨hl, h⟩ := Post.guard h
      · obtain ⟨hl, hne⟩ := hl
        refine ⟨_, op_catT, _, _, _, _, rfl, rfl, Rep.sqT (P := fun _ => none) B h1, Rep.sqT (P := fun _ => none) B h2, fun z => hne ?_, by rw [r1.length, r2.length]; exact hl, fun e => ?_, fun _ p hp => h.new B hp fun F' l e => .tup (.inl e) ((r1.mono l (Rle.refl _)).append (r2.mono l (Rle.refl _)))⟩
        · subst z; cases r1; rfl
        · subst e
          cases r2
          exact h.now B (by rw [List.append_nil]; exact .tup h1 r1)
    | _ => exact h.elim
  | _ => exact h.elim
def subD : D → D → M D
  | .int i, .int j => M.ret (.int (i - j))
  | _, _ => M.fail
theorem ov_sub : OpV X W (binaryOp .Sub) subD := by
  intro x y a c σ H F P0 Mm ρ b Q B rx ry h
  cases rx with
  | int i => cases ry with
    | int j => exact ⟨_, op_sub, i, j, rfl, rfl, h.now B (.int _)⟩
    | _ => exact h.elim
  | _ => exact h.elim
def small64 (i : Int) : Prop := -(2 ^ 64) < i ∧ i < 2 ^ 64
instance (i : Int) : Decidable (small64 i) := by unfold small64; infer_instance
def mulD : D → D → M D
  | .int i, .int j => guardM (small64 i ∨ small64 j) (M.ret (.int (i * j)))
  | .lst xs, .int k => guardM (small64 k ∧ -(2 ^ 63) ≤ k ∧ k < 2 ^ 63 ∧ xs.length * k.toNat ≤ sizeLine) (M.ret (.lst (List.replicate k.toNat xs).flatten))
  | _, _ => M.fail
theorem RepAll.rep {K : PySem.W.Frag} {F : Hp} {ρ : Rho} {vs : List V} {ds : List D} (h : RepAll K F ρ vs ds) : ∀ k : Nat, RepAll K F ρ (List.replicate k vs).flatten (List.replicate k ds).flatten
  | 0 => .nil
  | k + 1 => by
    rw [List.replicate_succ, List.replicate_succ, List.flatten_cons, List.flatten_cons]
    exact h.append (RepAll.rep h k)
theorem ov_mul : OpV X W (binaryOp .Mult) mulD := by
  intro x y a c σ H F P0 Mm ρ b Q B rx ry h
  cases rx with
  | int i => cases ry with
    | int j =>
      obtain ⟨hl, h⟩ := Post.guard h
      exact ⟨_, op_mul, i, j, rfl, rfl, hl, h.now B (.int _)⟩
    | _ => exact h.elim
  | lst h1 r1 => cases ry with
    | int k =>
      obtain ⟨hl, h⟩ := Post.guard h
      · obtain ⟨_, l1, l2, l3⟩ := hl
        refine ⟨_, op_rep, _, k, _, rfl, rfl, B.lstAt h1, l1, l2, by rw [r1.length]; exact l3, fun p hp => h.new B hp fun F' l e => .lst e ((r1.mono l (Rle.refl _)).rep _)⟩
    | _ => exact h.elim
  | _ => exact h.elim
def fdivD : D → D → M D
  | .int i, .int j => guardM (0 < j ∧ j < 1073741824) (M.ret (.int (i / j)))
  | _, _ => M.fail
theorem ov_fdiv : OpV X W (binaryOp .FloorDiv) fdivD := by
  intro x y a c σ H F P0 Mm ρ b Q B rx ry h
  cases rx with
  | int i => cases ry with
    | int j =>
      obtain ⟨hl, h⟩ := Post.guard h
      exact ⟨_, op_fdiv, i, j, rfl, rfl, hl, h.now B (.int _)⟩
    | _ => exact h.elim
  | _ => exact h.elim
def modD : D → D → M D
  | .int i, .int j => guardM (0 < j) (M.ret (.int (i % j)))
  | _, _ => M.fail
theorem ov_mod : OpV X W (binaryOp .Mod) modD := by
  intro x y a c σ H F P0 Mm ρ b Q B rx ry h
  cases rx with
  | int i => cases ry with
    | int j =>
      obtain ⟨hl, h⟩ := Post.guard h
      exact ⟨_, op_mod, i, j, rfl, rfl, hl, h.now B (.int _)⟩
    | _ => exact h.elim
  | _ => exact h.elim
def powD : D → D → M D
  | .int i, .int j => guardM (0 ≤ j ∧ j ≤ 1000000 ∧ i.natAbs < 2 ^ 64) (M.ret (.int (i ^ j.toNat)))
  | _, _ => M.fail
theorem ov_pow : OpV X W (binaryOp .Pow) powD := by
  intro x y a c σ H F P0 Mm ρ b Q B rx ry h
  cases rx with
  | int i => cases ry with
    | int j =>
      obtain ⟨hl, h⟩ := Post.guard h
      exact ⟨_, op_pow, i, j, rfl, rfl, hl, h.now B (.int _)⟩
    | _ => exact h.elim
  | _ => exact h.elim
/-! comparisons -/
def ltD : D → D → M D
  | .int i, .int j => M.ret (.bl (decide (i < j)))
  | .str x, .str y => M.ret (.bl (decide (x.cps.toList < y.cps.toList)))
  | _, _ => M.fail
theorem ov_lt : OpV X W (compareOp .Lt) ltD := by
  intro x y a c σ H F P0 Mm ρ b Q B rx ry h
  cases rx with
  | int i => cases ry with
    | int j => exact ⟨_, op_lt, i, j, rfl, rfl, h.now B (.bl _)⟩
    | _ => exact h.elim
  | str i => cases ry with
    | str j => exact ⟨_, op_lt_str, i, j, rfl, rfl, h.now B (.bl _)⟩
    | _ => exact h.elim
  | _ => exact h.elim
def leD : D → D → M D
  | .int i, .int j => M.ret (.bl (decide (i ≤ j)))
  | _, _ => M.fail
theorem ov_le : OpV X W (compareOp .LtE) leD := by
  intro x y a c σ H F P0 Mm ρ b Q B rx ry h
  cases rx with
  | int i => cases ry with
    | int j => exact ⟨_, op_le, i, j, rfl, rfl, h.now B (.bl _)⟩
    | _ => exact h.elim
  | _ => exact h.elim
def gtD : D → D → M D
  | .int i, .int j => M.ret (.bl (decide (j < i)))
  | _, _ => M.fail
theorem ov_gt : OpV X W (compareOp .Gt) gtD := by
  intro x y a c σ H F P0 Mm ρ b Q B rx ry h
  cases rx with
  | int i => cases ry with
    | int j => exact ⟨_, op_gt, i, j, rfl, rfl, h.now B (.bl _)⟩
    | _ => exact h.elim
  | _ => exact h.elim
def geD : D → D → M D
  | .int i, .int j => M.ret (.bl (decide (j ≤ i)))
  | _, _ => M.fail
theorem ov_ge : OpV X W (compareOp .GtE) geD := by
  intro x y a c σ H F P0 Mm ρ b Q B rx ry h
  cases rx with
  | int i => cases ry with
    | int j => exact ⟨_, op_ge, i, j, rfl, rfl, h.now B (.bl _)⟩
    | _ => exact h.elim
  | _ => exact h.elim
def D.isNon : D → Bool
  | .non => true
  | _ => false
def isND (a : D) (c : D) : M D := match c with
  | .non => M.ret (.bl a.isNon)
  | _ => M.fail
def notND (a : D) (c : D) : M D := match c with
  | .non => M.ret (.bl (!a.isNon))
  | _ => M.fail
theorem Rep.isNon {K : PySem.W.Frag} {F : Hp} {ρ : Rho} {x : V} {a : D} (r : Rep K F ρ x a) : decide (x = .non) = a.isNon := by
  cases r <;> first | rfl | exact decide_eq_false fun z => nomatch z
theorem ov_isN : OpV X W (compareOp .Is) isND := by
  intro x y a c σ H F P0 Mm ρ b Q B rx ry h
  cases ry with
  | non => exact ⟨_, op_isN, rfl, by rw [rx.isNon]; exact h.now B (.bl _)⟩
  | _ => exact h.elim
theorem ov_notN : OpV X W (compareOp .IsNot) notND := by
  intro x y a c σ H F P0 Mm ρ b Q B rx ry h
  cases ry with
  | non => exact ⟨_, op_notN, rfl, by rw [rx.isNon]; exact h.now B (.bl _)⟩
  | _ => exact h.elim
/-! equality of data -/
mutual
def toPy : D → Option PyData
  | .non => some .none
  | .bl b => some (.bool b)
  | .int i => some (.int i)
  | .str x => some (.str x)
  | .tup xs => (toPyAll xs).map .tuple
  | .lst xs => (toPyAll xs).map .list
  | _ => none
def toPyAll : List D → Option (List PyData)
  | [] => some []
  | x :: xs => match toPy x, toPyAll xs with
    | some a, some as => some (a :: as)
    | _, _ => none
end
mutual
theorem Rep.dp {K : PySem.W.Frag} {F P0 Mm H : Hp} {ρ : Rho} {b : BSt} {σ : St} (B : BRel K F P0 Mm ρ b σ H) : ∀ {x : V} {a : D} {e : PyData}, Rep K F ρ x a → toPy a = some e → Dp K H x e
  | _, _, _, .non, h => by unfold toPy at h; cases h; exact .non
  | _, _, _, .bl b, h => by unfold toPy at h; cases h; exact .bl b
  | _, _, _, .int i, h => by unfold toPy at h; cases h; exact .int i
  | _, _, _, .str i, h => by unfold toPy at h; cases h; exact .str i
  | _, _, _, .ty _, h => by simp [toPy] at h
  | _, _, _, .glo _, h => by simp [toPy] at h
  | _, _, _, .tup (ds := ds) h1 r, h => by
    unfold toPy at h
    cases e : toPyAll ds with
    | none => rw [e] at h; cases h
    | some es => rw [e] at h; cases h; exact .tup (Rep.sqT (P := fun _ => none) B h1) (RepAll.dp B r e)
  | _, _, _, .lst (ds := ds) h1 r, h => by
    unfold toPy at h
    cases e : toPyAll ds with
    | none => rw [e] at h; cases h
    | some es => rw [e] at h; cases h; exact .lst (SqL.of (B.lstAt h1)) (RepAll.dp B r e)
  | _, _, _, .dic _ _ _, h => by simp [toPy] at h
  | _, _, _, .ptr _, h => by simp [toPy] at h
  | _, _, _, .scr _, h => by simp [toPy] at h
theorem RepAll.dp {K : PySem.W.Frag} {F P0 Mm H : Hp} {ρ : Rho} {b : BSt} {σ : St} (B : BRel K F P0 Mm ρ b σ H) : ∀ {x : List V} {a : List D} {e : List PyData}, RepAll K F ρ x a → toPyAll a = some e → DpAll K H x e
  | _, _, _, .nil, h => by unfold toPyAll at h; cases h; exact .nil
  | _, _, _, .cons (d := d) (ds := ds) r t, h => by
    unfold toPyAll at h
    cases e1 : toPy d with
    | none => rw [e1] at h; cases h
    | some a =>
      cases e2 : toPyAll ds with
      | none => rw [e1, e2] at h; cases h
      | some as => rw [e1, e2] at h; cases h; exact .cons (Rep.dp B r e1) (RepAll.dp B t e2)
end
def eqB (a c : D) : Option Bool := match a, c with
  | .int i, .int j => some (decide (i = j))
  | .str i, .str j => some (decide (i = j))
  | a, c => match toPy a, toPy c with
    | some d, some e => if SeqAt.shaped d = true ∧ SeqAt.shaped e = true then some (PyData.eqv d e) else none
    | _, _ => none
def optM {α : Type} : Option α → M α
  | some a => M.ret a
  | none => M.fail
def eqD (a c : D) : M D := M.bind (optM (eqB a c)) fun k => M.ret (.bl k)
def neD (a c : D) : M D := M.bind (optM (eqB a c)) fun k => M.ret (.bl (!k))
theorem eqB_dp {K : PySem.W.Frag} {F P0 Mm H : Hp} {ρ : Rho} {b : BSt} {σ : St} {x y : V} {a c : D} {k : Bool} (B : BRel K F P0 Mm ρ b σ H) (rx : Rep K F ρ x a) (ry : Rep K F ρ y c) (h : eqB a c = some k) :
    (scal x y = true ∧ decide (x = y) = k) ∨ ∃ d e, Dp K H x d ∧ Dp K H y e ∧ SeqAt.shaped d = true ∧ SeqAt.shaped e = true ∧ PyData.eqv d e = k := by
  unfold eqB at h
  split at h
  · cases rx; cases ry; cases h; exact .inl ⟨rfl, decide_eq_decide.mpr ⟨fun z => V.int.inj z, fun z => by rw [z]⟩⟩
  · cases rx; cases ry; cases h; exact .inl ⟨rfl, decide_eq_decide.mpr ⟨fun z => V.str.inj z, fun z => by rw [z]⟩⟩
  · split at h
    · rename_i d e h1 h2
      split at h
      · rename_i hs
        cases h
        exact .inr ⟨d, e, rx.dp B h1, ry.dp B h2, hs.1, hs.2, rfl⟩
      · cases h
    · cases h
theorem ov_eq {k : Nat} (hr : Room k X.A) : OpV X W (compareOp .Eq) eqD := by
  intro x y a c σ H F P0 Mm ρ b Q B rx ry h
  unfold eqD optM M.bind at h
  cases e : eqB a c with
  | none => rw [e] at h; exact h.elim
  | some v =>
    rw [e] at h
    rcases eqB_dp B rx ry e with ⟨e1, e2⟩ | ⟨d, f, d1, d2, s1, s2, e2⟩
    · exact ⟨_, op_eq, e1, by rw [e2]; exact Post.now h B (.bl _)⟩
    · exact ⟨_, op_eqD hr.units, d, f, d1, d2, s1, s2, by rw [e2]; exact Post.now h B (.bl _)⟩
theorem ov_ne {k : Nat} (hr : Room k X.A) : OpV X W (compareOp .NotEq) neD := by
  intro x y a c σ H F P0 Mm ρ b Q B rx ry h
  unfold neD optM M.bind at h
  cases e : eqB a c with
  | none => rw [e] at h; exact h.elim
  | some v =>
    rw [e] at h
    rcases eqB_dp B rx ry e with ⟨e1, e2⟩ | ⟨d, f, d1, d2, s1, s2, e2⟩
    · exact ⟨_, op_ne, e1, by rw [e2]; exact Post.now h B (.bl _)⟩
    · exact ⟨_, op_neD hr.units, d, f, d1, d2, s1, s2, by rw [e2]; exact Post.now h B (.bl _)⟩
end
end L2.VI
/-! VI3: displays, tests, subscripts, attributes, calls. -/
namespace L2.VI
open PySem PySem.Spec PyProof.Rows He

/-! ### argument lists, displays -/
def consM (a : M D) (r : M (List D)) : M (List D) := M.bind a fun x => M.bind r fun xs => M.ret (x :: xs)
section
variable {X : Cx} {W : WX} {pos : Pos} {a b e : Expr} {es : List Expr} {ma mb : M D} {mas : M (List D)}
theorem sa_nil : SA X W [] (M.ret []) := SA.of pa_nil fun σ H F P0 Mm ρ bs Q B q => q.now B .nil
theorem sa_cons (ha : SE X W e ma) (hr : SA X W es mas) (hs : starEach (e :: es) X.env = (false, eval e X.env) :: starEach es X.env := by rfl) : SA X W (e :: es) (consM ma mas) :=
  SA.of (pa_cons ha hr hs) fun σ H F P0 Mm ρ bs Q B q => tM_then B q fun x d F1 M1 r1 b1 H1 l1 e1 B1 q1 h1 => tM_then B1 h1 fun xs ds F2 M2 r2 b2 H2 l2 e2 B2 q2 h2 => h2.now B2 (.cons (q1.mono l2 e2) q2)
def tupM (ms : M (List D)) : M D := M.bind ms fun ds => guardM (ds.length ≤ sizeLine) (M.ret (.tup ds))
def lstM (ms : M (List D)) : M D := M.bind ms fun ds => guardM (ds.length ≤ sizeLine) (M.ret (.lst ds))
def lstN (ms : M (List D)) : M SO := M.bind ms fun ds => guardM (ds.length ≤ sizeLine) (M.ret (.lst ds))
theorem se_tup {x1} (h : SA X W es mas) : SE X W (.Tuple es x1 pos) (tupM mas) :=
  SE.of (pe_tup h) fun σ H F P0 Mm ρ bs Q B q => tM_then B q fun xs ds F1 M1 r1 b1 H1 l1 e1 B1 q1 h1 => by
    obtain ⟨hl, h1⟩ := Post.guard h1
    exact ⟨by rw [q1.length]; exact hl, fun p hp => h1.new B1 hp fun F' l e => .tup (.inl e) (q1.mono l (Rle.refl _))⟩
theorem se_lst (h : SA X W es mas) : SE X W (.List es pos) (lstM mas) :=
  SE.of (pe_lst h) fun σ H F P0 Mm ρ bs Q B q => tM_then B q fun xs ds F1 M1 r1 b1 H1 l1 e1 B1 q1 h1 => by
    obtain ⟨hl, h1⟩ := Post.guard h1
    exact ⟨by rw [q1.length]; exact hl, fun p hp => h1.new B1 hp fun F' l e => .lst e (q1.mono l (Rle.refl _))⟩
theorem PostF.guard {K : PySem.W.Frag} {P0 F : Hp} {ρ : Rho} {σ : St} {bs : BSt} {Q : VK} {c : Prop} [Decidable c] {m : M SO} (h : PostF K W P0 F ρ σ Q (guardM c m bs)) : c ∧ PostF K W P0 F ρ σ Q (m bs) := by
  unfold guardM at h
  split at h
  · rename_i hc; exact ⟨hc, h⟩
  · exact h.elim
/-- a fresh object ends a rule -/
theorem PostF.now {K : PySem.W.Frag} {F P0 Mm H : Hp} {ρ : Rho} {bs : BSt} {σ : St} {Q : VK} {p : Addr} {u : HO} {so : SO} (h : PostF K W P0 F ρ σ Q (.ok so bs)) (B : BRel K F P0 Mm ρ bs σ H) (n : H p = none)
    (hso : ∀ P', P' p = some u → RepO K F ρ P' p so) (pl : so.plain = true) : Q (.ref p) (upd H p u) :=
  h p F Mm ρ _ (Leq.refl _) (Rle.refl _) (B.fresh n hso pl)
theorem sn_lst (h : SA X W es mas) : SN X W (.List es pos) (lstN mas) :=
  SN.of (pe_lst h) fun σ H F P0 Mm ρ bs Q B q => tM_thenF B q fun xs ds F1 M1 r1 b1 H1 l1 e1 B1 q1 h1 => by
    obtain ⟨hl, h1⟩ := PostF.guard h1
    exact ⟨by rw [q1.length]; exact hl, fun p hp => h1.now B1 hp (fun P' e => ⟨_, e, q1⟩) rfl⟩
/-- a new object, frozen at once -/
def frzM (m : M SO) : M D := M.bind m fun so => optM so.frozen
theorem se_frz (h : SN X W e m) : SE X W e (frzM m) := ⟨fun pins s σ H Q I ⟨F, P0, Mm, ρ, bs, B, q⟩ => h.run pins s σ H Q I ⟨F, P0, Mm, ρ, bs, B, by
  unfold frzM M.bind at q
  cases z : m bs with
  | ok so b' =>
    rw [z] at q
    intro p F' M' ρ' H' l r fr
    obtain ⟨F2, u, l2, e2, B2, rr⟩ := fr.freeze
    have q2 : Post (Rep X.K) X.K W P0 F ρ σ Q (optM so.frozen b') := q
    cases zz : so.frozen with
    | none => rw [zz] at q2; exact q2.elim
    | some d => rw [zz] at q2; exact q2 _ _ _ _ _ (l.trans l2) r B2 (rr.rep zz)
  | exc x b' => rw [z] at q; exact q
  | fail => rw [z] at q; exact q.elim⟩⟩
/-- .. put into the store -/
def newM (m : M SO) : M D := M.bind m fun so => fun b => .ok (.ptr b.g.nx) { b with g := b.g.new so }
theorem se_new (h : SN X W e m) : SE X W e (newM m) := ⟨fun pins s σ H Q I ⟨F, P0, Mm, ρ, bs, B, q⟩ => h.run pins s σ H Q I ⟨F, P0, Mm, ρ, bs, B, by
  unfold newM M.bind at q
  cases z : m bs with
  | ok so b' =>
    rw [z] at q
    intro p F' M' ρ' H' l r fr
    obtain ⟨M2, r2, rl, B2, rr⟩ := fr.store
    exact q _ _ _ _ _ l (r.trans rl) B2 rr
  | exc x b' => rw [z] at q; exact q
  | fail => rw [z] at q; exact q.elim⟩⟩

/-! ### tests -/
def andB (a b : M Bool) : M Bool := M.bind a fun c => if c = true then b else M.ret false
def orB (a b : M Bool) : M Bool := M.bind a fun c => if c = true then M.ret true else b
def notB (a : M Bool) : M Bool := M.bind a fun c => M.ret (!c)
def SW (X : Cx) (W : WX) (e : Expr) (m : M Bool) : Prop := PW X e (tT X.K W m)
theorem SW.of {X : Cx} {W : WX} {e : Expr} {m : M Bool} {t : TT} (h : PW X e t)
    (ht : ∀ σ H F P0 Mm ρ b Q, BRel X.K F P0 Mm ρ b σ H → Post (fun _ _ x a => x = a) X.K W P0 F ρ σ Q (m b) → t σ H Q) : SW X W e m := ⟨fun wh pins s σ H Q I ⟨F, P0, Mm, ρ, b, B, q⟩ => h.run wh pins s σ H Q I (ht σ H F P0 Mm ρ b Q B q)⟩
theorem sb_w {e : Expr} {m : M Bool} (h : SW X W e m) : SB X W e m := PW.pt h
variable {ta tb : M Bool} {rest : List Expr} {c : Expr}
theorem sw_and1 (ha : SB X W a ta) : SW X W (.BoolOp .And [a] pos) ta := pw_and1 ha
theorem sw_or1 (ha : SB X W a ta) : SW X W (.BoolOp .Or [a] pos) ta := pw_or1 ha
theorem tT_if {γ δ : Type} {rel' : Hp → Rho → δ → γ → Prop} {K : PySem.W.Frag} {σ : St} {H F P0 Mm : Hp} {ρ : Rho} {bs : BSt} {Q' : δ → Hp → Prop} {m : M Bool} {k1 k2 : M γ} {R1 R2 : Hp → Prop} (B : BRel K F P0 Mm ρ bs σ H)
    (h : Post rel' K W P0 F ρ σ Q' (M.bind m (fun c => if c = true then k1 else k2) bs))
    (h1 : ∀ F1 M1 r1 b1 H1, Leq F F1 → Rle ρ r1 → BRel K F1 P0 M1 r1 b1 σ H1 → Post rel' K W P0 F1 r1 σ Q' (k1 b1) → R1 H1)
    (h2 : ∀ F1 M1 r1 b1 H1, Leq F F1 → Rle ρ r1 → BRel K F1 P0 M1 r1 b1 σ H1 → Post rel' K W P0 F1 r1 σ Q' (k2 b1) → R2 H1) : tT K W m σ H fun c H1 => if c = true then R1 H1 else R2 H1 :=
  tM_then B h fun x c F1 M1 r1 b1 H1 l1 e1 B1 q1 hh => by
    subst q1
    cases x with
    | true => exact (if_pos rfl).mpr (h1 F1 M1 r1 b1 H1 l1 e1 B1 hh)
    | false => exact (if_neg Bool.false_ne_true).mpr (h2 F1 M1 r1 b1 H1 l1 e1 B1 hh)
theorem sw_and (ha : SB X W a ta) (hb : SW X W (.BoolOp .And (b :: rest) pos) tb) : SW X W (.BoolOp .And (a :: b :: rest) pos) (andB ta tb) :=
  SW.of (pw_and ha hb) fun σ H F P0 Mm ρ bs Q B q => tT_if B q (fun F1 M1 r1 b1 H1 l e B1 h => tM_of B1 h) fun F1 M1 r1 b1 H1 l e B1 h => Post.now h B1 rfl
theorem sw_or (ha : SB X W a ta) (hb : SW X W (.BoolOp .Or (b :: rest) pos) tb) : SW X W (.BoolOp .Or (a :: b :: rest) pos) (orB ta tb) :=
  SW.of (pw_or ha hb) fun σ H F P0 Mm ρ bs Q B q => tT_if B q (fun F1 M1 r1 b1 H1 l e B1 h => Post.now h B1 rfl) fun F1 M1 r1 b1 H1 l e B1 h => tM_of B1 h
theorem sb_not (ha : SB X W a ta) : SB X W (.UnaryOp .Not a pos) (notB ta) :=
  SB.of (pt_not ha) fun σ H F P0 Mm ρ bs Q B q => tM_then B q fun x c F1 M1 r1 b1 H1 l1 e1 B1 q1 hh => by subst q1; exact Post.now hh B1 rfl
def ifM {α : Type} (t : M Bool) (a b : M α) : M α := M.bind t fun c => if c = true then a else b
theorem se_if (hc : SB X W c ta) (ha : SE X W a ma) (hb : SE X W b mb) : SE X W (.IfExp c a b pos) (ifM ta ma mb) :=
  SE.of (pe_ifExp hc ha hb) fun σ H F P0 Mm ρ bs Q B q => tT_if B q (fun F1 M1 r1 b1 H1 l e B1 h => tM_of B1 h) fun F1 M1 r1 b1 H1 l e B1 h => tM_of B1 h
/-! as values -/
def andD (a b : M D) : M D := M.bind a fun x => match x with
  | .bl true => b
  | .bl false => M.ret (.bl false)
  | _ => M.fail
def orD (a b : M D) : M D := M.bind a fun x => match x with
  | .bl true => M.ret (.bl true)
  | .bl false => b
  | _ => M.fail
def notD (a : M D) : M D := M.bind a fun x => match x with
  | .bl c => M.ret (.bl (!c))
  | _ => M.fail
theorem se_one {op} (h : SE X W a ma) : SE X W (.BoolOp op [a] pos) ma := pe_one h
theorem se_and (ha : SE X W a ma) (hb : SE X W (.BoolOp .And (b :: rest) pos) mb) : SE X W (.BoolOp .And (a :: b :: rest) pos) (andD ma mb) :=
  SE.of (pe_and ha hb) fun σ H F P0 Mm ρ bs Q B q => tM_then B q fun x d F1 M1 r1 b1 H1 l1 e1 B1 q1 hh => by
    cases q1 with
    | bl c => cases c with
      | true => exact ⟨true, rfl, (if_pos rfl).mpr (tM_of B1 hh)⟩
      | false => exact ⟨false, rfl, (if_neg Bool.false_ne_true).mpr (Post.now hh B1 (.bl false))⟩
    | _ => exact hh.elim
theorem se_or (ha : SE X W a ma) (hb : SE X W (.BoolOp .Or (b :: rest) pos) mb) : SE X W (.BoolOp .Or (a :: b :: rest) pos) (orD ma mb) :=
  SE.of (pe_or ha hb) fun σ H F P0 Mm ρ bs Q B q => tM_then B q fun x d F1 M1 r1 b1 H1 l1 e1 B1 q1 hh => by
    cases q1 with
    | bl c => cases c with
      | true => exact ⟨true, rfl, (if_pos rfl).mpr (Post.now hh B1 (.bl true))⟩
      | false => exact ⟨false, rfl, (if_neg Bool.false_ne_true).mpr (tM_of B1 hh)⟩
    | _ => exact hh.elim
theorem se_not (ha : SE X W a ma) : SE X W (.UnaryOp .Not a pos) (notD ma) :=
  SE.of (pe_not ha) fun σ H F P0 Mm ρ bs Q B q => tM_then B q fun x d F1 M1 r1 b1 H1 l1 e1 B1 q1 hh => by
    cases q1 with
    | bl c => exact ⟨c, rfl, Post.now hh B1 (.bl _)⟩
    | _ => exact hh.elim
/-! a < b < c -/
def chainD (f g : D → D → M D) (a b c : M D) : M D := M.bind a fun x => M.bind b fun y => M.bind (f x y) fun k => match k with
  | .bl true => M.bind c fun z => g y z
  | .bl false => M.ret (.bl false)
  | _ => M.fail
/-- what an operator's rule gives is a bool, at the heap as it was -/
def OpB (X : Cx) (W : WX) (g : Value → Value → Sem Value) (f : D → D → M D) : Prop := ∀ (x y : V) (a c : D) (σ : St) (H F P0 Mm : Hp) (ρ : Rho) (b : BSt) (Q : VK), BRel X.K F P0 Mm ρ b σ H → Rep X.K F ρ x a → Rep X.K F ρ y c →
  ∀ k : D → M D, Post (Rep X.K) X.K W P0 F ρ σ Q (M.bind (f a c) k b) → ∃ (r : R2) (v : Bool), OpR X g r ∧ f a c b = .ok (.bl v) b ∧ (∀ Q' : VK, Q' (.bl v) H → r x y H Q')
theorem ob_lt : OpB X W (compareOp .Lt) ltD := by
  intro x y a c σ H F P0 Mm ρ b Q B rx ry k h
  cases rx with
  | int i => cases ry with
    | int j => exact ⟨_, _, op_lt, rfl, fun Q' q => ⟨i, j, rfl, rfl, q⟩⟩
    | _ => exact h.elim
  | str i => cases ry with
    | str j => exact ⟨_, _, op_lt_str, rfl, fun Q' q => ⟨i, j, rfl, rfl, q⟩⟩
    | _ => exact h.elim
  | _ => exact h.elim
theorem ob_le : OpB X W (compareOp .LtE) leD := by
  intro x y a c σ H F P0 Mm ρ b Q B rx ry k h
  cases rx with
  | int i => cases ry with
    | int j => exact ⟨_, _, op_le, rfl, fun Q' q => ⟨i, j, rfl, rfl, q⟩⟩
    | _ => exact h.elim
  | _ => exact h.elim
theorem chain_post {op op' : CmpOp} {f g : D → D → M D} {mc : M D} {σ : St} {H F P0 Mm : Hp} {ρ : Rho} {bs : BSt} {Q : VK} {ma mb : M D} (hf : OpB X W (compareOp op) f) (hg : OpV X W (compareOp op') g) (B : BRel X.K F P0 Mm ρ bs σ H)
    (q : Post (Rep X.K) X.K W P0 F ρ σ Q (chainD f g ma mb mc bs)) : tChain (fun x y H Q => ∃ r, OpR X (compareOp op) r ∧ r x y H Q) (fun x y H Q => ∃ r, OpR X (compareOp op') r ∧ r x y H Q) (tE X.K W ma) (tE X.K W mb) (tE X.K W mc) σ H Q := by
  refine tM_then B q fun x d F1 M1 r1 b1 H1 l1 e1 B1 q1 h1 => tM_then B1 h1 fun y e F2 M2 r2 b2 H2 l2 e2 B2 q2 h2 => ?_
  obtain ⟨r, v, hr, ev, hk⟩ := hf x y d e σ H2 F2 P0 M2 r2 b2 Q B2 (q1.mono l2 e2) q2 _ h2
  refine ⟨r, hr, hk _ ⟨v, rfl, ?_⟩⟩
  unfold M.bind at h2
  rw [ev] at h2
  cases v with
  | true => exact (if_pos rfl).mpr (tM_then B2 h2 fun z d3 F3 M3 r3 b3 H3 l3 e3 B3 q3 h3 => hg y z e d3 σ H3 F3 P0 M3 r3 b3 Q B3 (q2.mono l3 e3) q3 h3)
  | false => exact (if_neg Bool.false_ne_true).mpr (Post.now h2 B2 (.bl false))
theorem se_chain {op op' : CmpOp} {f g : D → D → M D} {mc : M D} (hf : OpB X W (compareOp op) f) (hg : OpV X W (compareOp op') g) (ha : SE X W a ma) (hb : SE X W b mb) (hc : SE X W c mc)
    (hm : lastMarks [op, op'] [b, c] = false := by with_unfolding_all rfl) : SE X W (.Compare a [op, op'] [b, c] pos) (chainD f g ma mb mc) :=
  SE.of (pe_chain OpR.any OpR.any ha hb hc hm) fun σ H F P0 Mm ρ bs Q B q => chain_post hf hg B q
theorem sb_chain {op op' : CmpOp} {f g : D → D → M D} {mc : M D} (hf : OpB X W (compareOp op) f) (hg : OpV X W (compareOp op') g) (ha : SE X W a ma) (hb : SE X W b mb) (hc : SE X W c mc)
    (hm : lastMarks [op, op'] [b, c] = false := by with_unfolding_all rfl) : SB X W (.Compare a [op, op'] [b, c] pos) (isB (chainD f g ma mb mc)) :=
  SB.of (pt_chain OpR.any OpR.any ha hb hc hm) fun σ H F P0 Mm ρ bs Q B q => tB_of (t := tChain _ _ _ _ _) B q fun Q' h => chain_post hf hg B h
end
end L2.VI
/-! VI4: subscripts, attributes, calls. -/
namespace L2.VI
open PySem PySem.Spec PyProof.Rows He

/-! ### subscripts -/
def dlook {κ : Type} [DecidableEq κ] (kvs : List (κ × D)) (k : κ) : Option D := (kvs.find? fun kv => decide (kv.1 = k)).map (·.2)
/-- the item of a sequence or dict -/
def ixO (so : SO) (i : D) : Option D := match so, i with
  | .lst xs, .int i => atI xs i
  | .dic kvs, .str x => dlook kvs (.inr x)
  | .dic kvs, .int j => dlook kvs (.inl j)
  | _, _ => none
def ixD (a i : D) : M D := fun b => match a with
  | .lst xs => optM (ixO (.lst xs) i) b
  | .tup xs => optM (ixO (.lst xs) i) b
  | .dic kvs => optM (ixO (.dic kvs) i) b
  | .str z => (match i with
    | .int i => if z.length ≤ sizeLine then optM ((atI z.cps.toList i).map fun c => D.str ⟨#[c]⟩) b else .fail
    | _ => .fail)
  | .ptr k => (match b.g.S k with
    | some so => optM (ixO so i) b
    | none => .fail)
  | _ => .fail
section
variable {X : Cx} {W : WX} {pos : Pos} {a b e : Expr} {es : List Expr} {ma mb : M D} {mas : M (List D)}
variable {K : PySem.W.Frag} {F P0 Mm H : Hp} {ρ : Rho} {bs : BSt} {σ : St}
theorem RepAll.at {vs : List V} {ds : List D} {i : Int} {d : D} (r : RepAll K F ρ vs ds) (h : atI ds i = some d) : ∃ v, atI vs i = some v ∧ Rep K F ρ v d := by
  unfold atI at h ⊢
  rw [r.length]
  cases e : ixN ds.length i with
  | none => rw [e] at h; cases h
  | some j => rw [e] at h; exact r.get h
theorem kv_find {κ : Type} [DecidableEq κ] {k : κ} : ∀ {vs : List (κ × V)} {ds : List (κ × D)}, vs.map (·.1) = ds.map (·.1) → RepAll K F ρ (vs.map (·.2)) (ds.map (·.2)) →
    (∀ d, dlook ds k = some d → ∃ v, valV vs k = some v ∧ Rep K F ρ v d) ∧ (dlook ds k = none → valV vs k = none)
  | [], [], _, _ => ⟨fun d e => (by cases e), fun _ => rfl⟩
  | [], _ :: _, h, _ => by simp at h
  | _ :: _, [], h, _ => by simp at h
  | (k1, v) :: vs, (k2, d) :: ds, h, r => by
    simp only [List.map_cons, List.cons.injEq] at h
    obtain ⟨h1, h2⟩ := h
    subst h1
    cases r with
    | cons r rr =>
      obtain ⟨i1, i2⟩ := kv_find (k := k) h2 rr
      unfold dlook valV at *
      by_cases e : k1 = k
      · simp only [List.find?_cons, e, decide_true, Option.map_some]
        exact ⟨fun d' e' => ⟨v, rfl, by cases e'; exact r⟩, fun z => by cases z⟩
      · simp only [List.find?_cons, e, decide_false]
        exact ⟨i1, i2⟩
/-- o[i] as a rule by values -/
theorem ix_dict (hu : X.A.units + 1 < cLine) : IxR X (fun x y H Q => ∃ a v, x = .ref a ∧ DGet H a y (some v) ∧ Q v H) := by
  intro value slice pins s σ H x y v u Q I rx ry h hs
  obtain ⟨a, z, rfl, g, q⟩ := h
  obtain rfl : v = Value.ref a := rx
  have hT := dict_typeIs I g
  unfold subscriptTail
  refine wpAny_bind ?_
  rw [getitemInPython_of_ne hT.not_modules]
  refine wpAny_bind (wpAny_specialOf hT PySem.F.slot_dict_getitem.lookup ?_)
  have fin : wpAny (model X.prog X.w) X.A (subscripted slice false (.ref a) u) (fun r s₃ => wpAny (model X.prog X.w) X.A (letTemporaryGo value (.ref a) r >>= fun _ => pure r) (EP X pins σ Q) X.xe s₃) X.xe s := by
    rw [hs]
    exact wpAny_operating (wpAny_mono (d_getItem hu I g ry fun w' s' I' r' => (⟨z, H, I', r', q⟩ : EP X pins σ Q w' s')) (fun r s₃ h₃ => wpAny_bind (wpAny_letTemporaryGo (wpAny_pure h₃))) fun _ _ x => x)
  first
    | exact wpAny_pure (wpAny_bind fin)
    | exact wpAny_bind (wpAny_pure (wpAny_bind fin))
    | exact wpAny_bind fin
theorem IxR.any : IxR X (fun x y H Q => ∃ r, IxR X r ∧ r x y H Q) := fun value slice pins s σ H x y v u Q I rx ry ⟨r, hr, q⟩ hs => hr value slice pins s σ H x y v u Q I rx ry q hs
theorem DGet.kr {a : Addr} {kvs : List (Key × V)} {k : Key} (e : Rd H a (.dK kvs)) : DGet H a (kV k) (valV kvs k) := .inl ⟨kvs, k, e, rfl, rfl⟩
/-- the item, where the object's content is known at the heap -/
theorem ixO_ok (hu : X.A.units + 1 < cLine) {so : SO} {p : Addr} {i d : D} {y : V} {u : HO} {Q : VK} (r : RepO X.K F ρ (fun _ => some u) p so) (hp : Rd H p u) (ry : Rep X.K F ρ y i) (h : ixO so i = some d) (hq : ∀ v, Rep X.K F ρ v d → Q v H) :
    ∃ r, IxR X r ∧ r (.ref p) y H Q := by
  cases so with
  | lst xs =>
    obtain ⟨vs, e, r⟩ := r
    cases e
    cases ry with
    | int j =>
      obtain ⟨v, h1, h2⟩ := r.at (show atI xs j = some d from h)
      exact ⟨_, ix_list, p, vs, j, v, rfl, rfl, .inl hp, h1, hq v h2⟩
    | _ => cases h
  | dic kvs =>
    obtain ⟨vs, e, r1, r2⟩ := r
    cases e
    cases ry with
    | int j =>
      obtain ⟨v, h1, h2⟩ := (kv_find (k := Sum.inl j) r1 r2).1 d h
      exact ⟨_, ix_dict hu, p, v, rfl, by rw [← h1]; exact DGet.kr (k := Sum.inl j) hp, hq v h2⟩
    | str j =>
      obtain ⟨v, h1, h2⟩ := (kv_find (k := Sum.inr j) r1 r2).1 d h
      exact ⟨_, ix_dict hu, p, v, rfl, by rw [← h1]; exact DGet.kr (k := Sum.inr j) hp, hq v h2⟩
    | _ => cases h
  | dct kvs => cases ry <;> cases h
  | ins c fs => cases ry <;> cases h
theorem Post.opt {α β γ : Type} {rel : Hp → Rho → β → α → Prop} {Q : β → Hp → Prop} {o : Option α} (h : Post rel K W P0 F ρ σ Q (optM o bs)) : ∃ a, o = some a ∧ Post rel K W P0 F ρ σ Q (.ok a bs) := by
  cases o with
  | none => exact h.elim
  | some a => exact ⟨a, rfl, h⟩
theorem ixD_ok (hu : X.A.units + 1 < cLine) {x y : V} {d i : D} {Q : VK} (B : BRel X.K F P0 Mm ρ bs σ H) (rx : Rep X.K F ρ x d) (ry : Rep X.K F ρ y i) (h : Post (Rep X.K) X.K W P0 F ρ σ Q (ixD d i bs)) : ∃ r, IxR X r ∧ r x y H Q := by
  cases rx with
  | lst h1 r1 =>
    obtain ⟨d, e, h⟩ := Post.opt (γ := Unit) h
    exact ixO_ok hu (so := .lst _) ⟨_, rfl, r1⟩ (.inl (B.lstAt h1)) ry e fun v q => h.now B q
  | tup h1 r1 =>
    rename_i p vs ds
    obtain ⟨d, e, h2⟩ := Post.opt (γ := Unit) h
    cases ry with
    | int j =>
      obtain ⟨v, e1, e2⟩ := r1.at (show atI ds j = some d from e)
      exact ⟨_, ix_tup, _, vs, j, v, rfl, rfl, Rep.sqT (P := fun _ => none) B h1, e1, h2.now B e2⟩
    | _ => cases e
  | dic h1 k1 r1 =>
    obtain ⟨d, e, h⟩ := Post.opt (γ := Unit) h
    exact ixO_ok hu (so := .dic _) ⟨_, rfl, k1, r1⟩ (B.dicAt h1) ry e fun v q => h.now B q
  | str z =>
    cases ry with
    | int j =>
      unfold ixD at h
      dsimp only at h
      split at h
      · rename_i hl
        obtain ⟨d, e, h⟩ := Post.opt (γ := Unit) h
        cases e2 : atI z.cps.toList j with
        | none => rw [e2] at e; cases e
        | some c => rw [e2] at e; cases e; exact ⟨_, ix_str, z, j, c, rfl, rfl, hl, e2, h.now B (.str _)⟩
      · exact h.elim
    | _ => exact h.elim
  | ptr hr =>
    rename_i p k
    unfold ixD at h
    dsimp only at h
    cases e : bs.g.S k with
    | none => rw [e] at h; exact h.elim
    | some so =>
      rw [e] at h
      obtain ⟨d, e2, h⟩ := Post.opt (γ := Unit) h
      cases pl : so.plain with
      | true =>
        obtain ⟨a', u, h1, h2, h3, h4, _⟩ := B.put (so' := so) (u' := .lst []) e pl pl
        rw [hr] at h1; cases h1
        exact ixO_ok hu h4 (.inl h3) ry e2 fun v q => h.now B q
      | false => cases so <;> first | (cases pl; done) | (unfold ixO at e2; cases ry <;> cases e2)
  | _ => exact h.elim
theorem se_ix (hu : X.A.units + 1 < cLine) (ha : SE X W a ma) (hb : SE X W b mb) (hs : PlainIx b := by exact fun _ _ => rfl) : SE X W (.Subscript a b pos) (bin2 ixD ma mb) :=
  SE.of (pe_ix IxR.any ha hb hs) fun σ H F P0 Mm ρ bs Q B q => tE_2 B q fun x y d e F1 M1 r1 b1 H1 B1 qx qy h1 => ixD_ok hu B1 qx qy h1
/-- x[..] of a name: its own object stays its own -/
def hasS (b : BSt) (i : Nat) : Prop := ∃ s, b.t[i]? = some (some s)
def ixV (i : Nat) (mb : M D) : M D := fun b => match b.t[i]? with
  | some (some _) => M.bind mb (fun y => fun b => match b.t[i]? with
    | some (some (.val d)) => ixD d y b
    | some (some (.own so)) => optM (ixO so y) b
    | _ => .fail) b
  | _ => .fail
theorem BRel.slotV {i : Nat} {sl : Slot} (B : BRel K F P0 Mm ρ bs σ H) (e : bs.t[i]? = some (some sl)) : ∃ v, σ[i]? = some (some v) := by
  obtain ⟨P, qq, BB⟩ := B
  have z := BB.sl i _ e
  cases sl with
  | val d => obtain ⟨v, e, _⟩ := z; exact ⟨v, e⟩
  | own o => obtain ⟨v, e, _⟩ := z; exact ⟨_, e⟩
theorem BRel.valV {i : Nat} {d : D} {v : V} (B : BRel K F P0 Mm ρ bs σ H) (e : bs.t[i]? = some (some (.val d))) (hv : σ[i]? = some (some v)) : Rep K F ρ v d := by
  obtain ⟨P, qq, BB⟩ := B
  obtain ⟨v', e2, r⟩ := BB.sl i _ e
  rw [hv] at e2; cases e2
  exact r
theorem BRel.ownV {i : Nat} {so : SO} {v : V} (B : BRel K F P0 Mm ρ bs σ H) (e : bs.t[i]? = some (some (.own so))) (hv : σ[i]? = some (some v)) : ∃ p u, v = .ref p ∧ H p = some u ∧ RepO K F ρ (fun _ => some u) p so ∧ so.plain = true := by
  obtain ⟨P, qq, BB⟩ := id B
  obtain ⟨p, e2, _, _, _, pl⟩ := BB.sl i _ e
  obtain ⟨p', u, e4, e5, e6, _⟩ := B.chg (so' := so) (u' := .lst []) e pl
  rw [hv] at e2 e4; cases e2; cases e4
  exact ⟨p, u, rfl, e5, e6, pl⟩
theorem se_ixV {i : Nat} {x : Str} {p : Pos} (hu : X.A.units + 1 < cLine) (h : PE X (.Name x p) (tVar i)) (hb : SE X W b mb) (hs : PlainIx b := by exact fun _ _ => rfl) :
    SE X W (.Subscript (.Name x p) b pos) (ixV i mb) := by
  refine SE.of (pe_ix IxR.any h hb hs) fun σ H F P0 Mm ρ bs Q B q => ?_
  unfold ixV at q
  split at q
  · rename_i sl e0
    obtain ⟨v, hv⟩ := B.slotV e0
    refine ⟨v, hv, tM_then B q fun y d F1 M1 r1 b1 H1 l1 e1 B1 q1 h1 => ?_⟩
    split at h1
    · rename_i d0 e2
      exact ixD_ok hu B1 (B1.valV e2 hv) q1 h1
    · rename_i so e2
      obtain ⟨d2, e3, h1⟩ := Post.opt (γ := Unit) h1
      obtain ⟨p, u, rfl, e5, e6, _⟩ := B1.ownV e2 hv
      exact ixO_ok hu e6 (.inl e5) q1 e3 fun v q => h1.now B1 q
    · exact h1.elim
  · exact q.elim
end
end L2.VI
/-! VI5: attributes, calls of the text's own defs, classes, built-ins. -/
namespace L2.VI
open PySem PySem.Spec PyProof.Rows He

section
variable {K : PySem.W.Frag} {F P P0 Mm H : Hp} {ρ : Rho} {bs : BSt} {σ : St} {g : GSt}
theorem fs_find {f : Str} : ∀ {vs : List (Str × V)} {ds : List (Str × D)}, vs.map (·.1) = ds.map (·.1) → RepAll K F ρ (vs.map (·.2)) (ds.map (·.2)) →
    (∀ d, ds.lookup f = some d → ∃ v, vs.lookup f = some v ∧ Rep K F ρ v d) ∧ (ds.lookup f = none → vs.lookup f = none)
  | [], [], _, _ => ⟨fun d e => (by cases e), fun _ => rfl⟩
  | [], _ :: _, h, _ => by simp at h
  | _ :: _, [], h, _ => by simp at h
  | (k1, v) :: vs, (k2, d) :: ds, h, r => by
    simp only [List.map_cons, List.cons.injEq] at h
    obtain ⟨h1, h2⟩ := h
    subst h1
    cases r with
    | cons r rr =>
      obtain ⟨i1, i2⟩ := fs_find (f := f) h2 rr
      cases e : (f == k1) with
      | true =>
        simp only [List.lookup_cons, e]
        exact ⟨fun d' e' => ⟨v, rfl, by cases e'; exact r⟩, fun z => by cases z⟩
      | false =>
        simp only [List.lookup_cons, e]
        exact ⟨i1, i2⟩
theorem HRel.insAt {k : Nat} {c : Str} {fs : List (Str × D)} (h : HRel K F P Mm ρ g H) (e : g.S k = some (.ins c fs)) :
    ∃ a dx vs, ρ k = some a ∧ Mm a = some (.ins (ga K c) dx vs) ∧ Mm dx = some (.own a) ∧ H a = some (.ins (ga K c) dx vs) ∧ vs.map (·.1) = fs.map (·.1) ∧ RepAll K F ρ (vs.map (·.2)) (fs.map (·.2)) := by
  obtain ⟨a, e1, dx, vs, h1, h2, h3, h4⟩ := h.st k _ e
  exact ⟨a, dx, vs, e1, h1, h2, h.mh _ _ h1, h3, h4⟩
/-- an instance of the store is changed -/
theorem HRel.putI {k : Nat} {c : Str} {fs fs' : List (Str × D)} {a dx : Addr} {vs vs' : List (Str × V)} (h : HRel K F P Mm ρ g H) (e : g.S k = some (.ins c fs)) (e1 : ρ k = some a) (e2 : Mm a = some (.ins (ga K c) dx vs)) (e3 : Mm dx = some (.own a))
    (hk : vs'.map (·.1) = fs'.map (·.1)) (hr : RepAll K F ρ (vs'.map (·.2)) (fs'.map (·.2))) : HRel K F P (upd Mm a (.ins (ga K c) dx vs')) ρ (g.put k (.ins c fs')) (upd H a (.ins (ga K c) dx vs')) := by
  have nF : F a = none := by
    cases e : F a with
    | none => rfl
    | some v => rw [(h.fp a v e).2] at e2; cases e2
  have nP : P a = none := by
    cases e : P a with
    | none => rfl
    | some v => rw [h.pm a v e] at e2; cases e2
  have ndx : dx ≠ a := fun z => by rw [z, e2] at e3; cases e3
  have ne : ∀ {G : Hp} {b : Addr} {v : HO}, G a = none → G b = some v → b ≠ a := fun {G b v} gn e z => by subst z; rw [gn] at e; cases e
  refine ⟨fun b v e => ?_, fun b v e => ?_, fun b v e => ?_, fun b v e => ?_, fun b v e => ?_, fun j o x => ?_, h.inj, h.nx, fun j c' x => ?_⟩
  · have hb := ne nF e
    have q := h.fh b v e
    split
    · rename_i hd
      rw [if_pos hd] at q
      rcases q with q | ⟨o, q⟩
      · exact .inl (by rw [upd_ne hb]; exact q)
      · exact .inr ⟨o, by rw [upd_ne hb]; exact q⟩
    · rename_i hd
      rw [if_neg hd] at q
      rw [upd_ne hb]; exact q
  · rw [upd_ne (ne nP e)]; exact h.ph b v e
  · by_cases hb : b = a
    · subst hb; rw [upd_same] at e ⊢; exact e
    · rw [upd_ne hb] at e ⊢; exact h.mh b v e
  · have hb := ne nF e
    obtain ⟨q1, q2⟩ := h.fp b v e
    exact ⟨q1, by rw [upd_ne hb]; exact q2⟩
  · rw [upd_ne (ne nP e)]; exact h.pm b v e
  · by_cases hj : j = k
    · subst hj
      have x' : SO.ins c fs' = o := Option.some.inj (show some (SO.ins c fs') = some o by rw [← x]; exact (if_pos rfl).symm)
      subst x'
      exact ⟨a, e1, dx, vs', upd_same, by rw [upd_ne ndx]; exact e3, hk, hr⟩
    · have x' : g.S j = some o := by rw [← x]; exact (if_neg hj).symm
      obtain ⟨c', y1, y2⟩ := h.st j o x'
      have hc : c' ≠ a := fun z => hj (h.inj j k a (by rw [← z]; exact y1) e1)
      refine ⟨c', y1, y2.mono (Leq.refl _) (Rle.refl _) fun d w hd z => ?_⟩
      have : d ≠ a := by
        rcases hd with rfl | rfl
        · exact hc
        · intro y; subst y; rw [e2] at z; cases z
      rw [upd_ne this]; exact z
  · obtain ⟨w, y1, y2⟩ := h.rh j c' x
    by_cases hc : c' = a
    · subst hc; exact ⟨_, upd_same, fun _ z => nomatch z⟩
    · exact ⟨w, by rw [upd_ne hc]; exact y1, y2⟩
/-- a new instance in the store -/
theorem HRel.newI {c : Str} {x dx : Addr} (h : HRel K F P Mm ρ g H) (nx : H x = none) (ndx : H dx = none) (ne : dx ≠ x) :
    HRel K F P (upd (upd Mm dx (.own x)) x (.ins (ga K c) dx [])) (rput ρ g.nx x) (g.new (.ins c [])) (upd (upd H dx (.own x)) x (.ins (ga K c) dx [])) ∧ Rle ρ (rput ρ g.nx x) := by
  have n0 : ρ g.nx = none := h.nx _ (Nat.le_refl _)
  have rl : Rle ρ (rput ρ g.nx x) := rle_put n0
  have mx := h.mnone nx
  have md := h.mnone ndx
  have lm : Leq Mm (upd (upd Mm dx (.own x)) x (.ins (ga K c) dx [])) := (leq_upd md).trans (leq_upd (by rw [upd_ne (Ne.symm ne)]; exact mx))
  have lh : Leq H (upd (upd H dx (.own x)) x (.ins (ga K c) dx [])) := (leq_upd ndx).trans (leq_upd (by rw [upd_ne (Ne.symm ne)]; exact nx))
  refine ⟨⟨fun b v e => ?_, fun b v e => lh _ _ (h.ph b v e), fun b v e => ?_, fun b v e => ?_, fun b v e => ?_, fun k o e => ?_, fun k j a e1 e2 => ?_, fun k hk => ?_, fun k a e => ?_⟩, rl⟩
  · have q := h.fh b v e
    split
    · rename_i hd
      rw [if_pos hd] at q
      rcases q with q | ⟨o, q⟩
      · exact .inl (lh _ _ q)
      · exact .inr ⟨o, lh _ _ q⟩
    · rename_i hd
      rw [if_neg hd] at q
      exact lh _ _ q
  · by_cases h1 : b = x
    · subst h1; rw [upd_same] at e ⊢; exact e
    · rw [upd_ne h1] at e ⊢
      by_cases h2 : b = dx
      · subst h2; rw [upd_same] at e ⊢; exact e
      · rw [upd_ne h2] at e ⊢; exact h.mh b v e
  · obtain ⟨q1, q2⟩ := h.fp b v e
    have hb1 : b ≠ x := fun z => by subst z; rw [h.fnone nx] at e; cases e
    have hb2 : b ≠ dx := fun z => by subst z; rw [h.fnone ndx] at e; cases e
    exact ⟨q1, by rw [upd_ne hb1, upd_ne hb2]; exact q2⟩
  · have hb1 : b ≠ x := fun z => by subst z; rw [h.pnone nx] at e; cases e
    have hb2 : b ≠ dx := fun z => by subst z; rw [h.pnone ndx] at e; cases e
    rw [upd_ne hb1, upd_ne hb2]; exact h.pm b v e
  · by_cases hk : k = g.nx
    · subst hk
      have e' : SO.ins c [] = o := Option.some.inj (show some (SO.ins c []) = some o by rw [← e]; exact (if_pos rfl).symm)
      subst e'
      exact ⟨x, rput_same, dx, [], upd_same, by rw [upd_ne ne, upd_same], rfl, .nil⟩
    · have e' : g.S k = some o := by rw [← e]; exact (if_neg hk).symm
      obtain ⟨a, e1, e2⟩ := h.st k o e'
      exact ⟨a, rl _ _ e1, e2.mono (Leq.refl _) rl fun c w _ z => lm c w z⟩
  · have np : ∀ k, ρ k ≠ some x := fun k z => by
      obtain ⟨w, hw, _⟩ := h.rh k x z
      rw [mx] at hw; cases hw
    by_cases hk : k = g.nx
    · by_cases hj : j = g.nx
      · rw [hk, hj]
      · subst hk
        rw [rput_same] at e1; cases e1
        rw [rput_ne hj] at e2
        exact absurd e2 (np j)
    · rw [rput_ne hk] at e1
      by_cases hj : j = g.nx
      · subst hj
        rw [rput_same] at e2; cases e2
        exact absurd e1 (np k)
      · rw [rput_ne hj] at e2; exact h.inj k j a e1 e2
  · have h1 : g.nx + 1 ≤ k := hk
    rw [rput_ne (by omega)]; exact h.nx k (by omega)
  · by_cases hk : k = g.nx
    · subst hk; rw [rput_same] at e; cases e; exact ⟨_, upd_same, fun _ z => nomatch z⟩
    · rw [rput_ne hk] at e
      obtain ⟨w, hw, hn⟩ := h.rh k a e
      exact ⟨w, lm a w hw, hn⟩
/-- the store and the heap behind a call -/
theorem BR.step {q : Nat → Option Addr} {F' M' H' : Hp} {ρ' : Rho} {g' : GSt} (B : BR K F P0 P Mm ρ q bs σ H) (l : Leq F F') (r : Rle ρ ρ') (h : HRel K F' P M' ρ' g' H') : BR K F' P0 P M' ρ' q { bs with g := g' } σ H' :=
  ⟨h, B.pp, B.len, B.qi, fun i s e => (B.sl i s e).mono l r fun a ea => ⟨ea, fun _ z => z⟩⟩
end

/-! ### what a def promises -/
inductive GR where
  | ok (d : D) (g : GSt) | exc (x : EX) (g : GSt) | fail
abbrev FnD := List D → GSt → GR
def PostG (K : PySem.W.Frag) (P F : Hp) (ρ : Rho) (Q : VK) (E : XK) : GR → Prop
  | .ok d g' => ∀ (v : V) (F' M' : Hp) (ρ' : Rho) (H' : Hp), Leq F F' → Rle ρ ρ' → HRel K F' P M' ρ' g' H' → Rep K F' ρ' v d → Q v H'
  | .exc x g' => ∀ (cls : Value) (d : Option Addr) (F' M' : Hp) (ρ' : Rho) (H' : Hp), Leq F F' → Rle ρ ρ' → HRel K F' P M' ρ' g' H' → RepX K F' ρ' x cls d → E cls d H'
  | .fail => False
def spV (K : PySem.W.Frag) (n : Nat) (m : FnD) : Sp := fun vs H Q E => vs.length = n ∧ ∃ F P Mm ρ g ds, HRel K F P Mm ρ g H ∧ RepAll K F ρ vs ds ∧ PostG K P F ρ Q E (m ds g)
/-- a call, in a body -/
def callF (m : FnD) (ds : List D) : M D := fun b => match m ds b.g with
  | .ok d g' => .ok d { b with g := g' }
  | .exc x g' => .exc x { b with g := g' }
  | .fail => .fail
/-- .. that raises nothing -/
def callN (m : FnD) (ds : List D) : M D := fun b => match m ds b.g with
  | .ok d g' => .ok d { b with g := g' }
  | _ => .fail
/-- a new instance -/
def makeF (c : Str) (m : FnD) (ds : List D) : M D := fun b => match m (.ptr b.g.nx :: ds) (b.g.new (.ins c [])) with
  | .ok .non g' => .ok (.ptr b.g.nx) { b with g := g' }
  | .exc x g' => .exc x { b with g := g' }
  | _ => .fail
abbrev CV (P : Program) (w : World) : CXT := L2.CX P w
section
variable {X : Cx} {W : WX} {k : Nat} {f C : Addr} {fd : FuncData} {ps : List Str} {n : Nat} {m : FnD} {dvs : List V} {dfl : List D} {ds : List Value} {x c mn : Str} {p pos apos : Pos} {e o : Expr} {es : List Expr} {ma : M D} {mas : M (List D)}
/-- a def's promise from what is wanted behind the call -/
def Ar (m : FnD) (n : Nat) : Prop := ∀ ds g, ds.length ≠ n → m ds g = .fail
theorem sp_of {F P0 Mm H : Hp} {ρ : Rho} {bs : BSt} {σ : St} {vs : List V} {zs : List D} {Q : VK} (ar : Ar m n) (B : BRel X.K F P0 Mm ρ bs σ H) (r : RepAll X.K F ρ vs zs) (h : Post (Rep X.K) X.K W P0 F ρ σ Q (callF m zs bs)) :
    spV X.K n m vs H Q (WE W σ) := by
  obtain ⟨P, q, B⟩ := B
  have hn : vs.length = n := by
    by_cases hz : zs.length = n
    · rw [r.length]; exact hz
    · unfold callF at h; rw [ar _ _ hz] at h; exact h.elim
  refine ⟨hn, F, P, Mm, ρ, bs.g, zs, B.h, r, ?_⟩
  unfold callF at h
  cases e : m zs bs.g with
  | ok d g' => rw [e] at h; exact fun v F' M' ρ' H' l rl h' rr => h v F' M' ρ' H' l rl ⟨P, q, B.step l rl h'⟩ rr
  | exc x g' => rw [e] at h; exact fun v d F' M' ρ' H' l rl h' rr => h v d F' M' ρ' H' l rl ⟨P, q, B.step l rl h'⟩ rr
  | fail => rw [e] at h; exact h
theorem sp_ofN {F P0 Mm H : Hp} {ρ : Rho} {bs : BSt} {σ : St} {vs : List V} {zs : List D} {Q : VK} (ar : Ar m n) (B : BRel X.K F P0 Mm ρ bs σ H) (r : RepAll X.K F ρ vs zs) (h : Post (Rep X.K) X.K W P0 F ρ σ Q (callN m zs bs)) :
    spV X.K n m vs H Q E0 := by
  obtain ⟨P, q, B⟩ := B
  have hn : vs.length = n := by
    by_cases hz : zs.length = n
    · rw [r.length]; exact hz
    · unfold callN at h; rw [ar _ _ hz] at h; exact h.elim
  refine ⟨hn, F, P, Mm, ρ, bs.g, zs, B.h, r, ?_⟩
  unfold callN at h
  cases e : m zs bs.g with
  | ok d g' => rw [e] at h; exact fun v F' M' ρ' H' l rl h' rr => h v F' M' ρ' H' l rl ⟨P, q, B.step l rl h'⟩ rr
  | exc x g' => rw [e] at h; exact h.elim
  | fail => rw [e] at h; exact h
/-- written defaults -/
inductive Flat : V → D → Prop where
  | non : Flat .non .non
  | bl (b : Bool) : Flat (.bl b) (.bl b)
  | int (i : Int) : Flat (.int i) (.int i)
  | str (x : Str) : Flat (.str x) (.str x)
theorem Flat.rep {K : PySem.W.Frag} {F : Hp} {ρ : Rho} {v : V} {d : D} (h : Flat v d) : Rep K F ρ v d := by
  cases h
  · exact .non
  · exact .bl _
  · exact .int _
  · exact .str _
theorem flats {K : PySem.W.Frag} {F : Hp} {ρ : Rho} : ∀ {vs : List V} {ds : List D}, Paired Flat vs ds → RepAll K F ρ vs ds
  | _, _, .nil => .nil
  | _, _, .cons r t => .cons r.rep (flats t)
/-- f(e, ..), every parameter given -/
theorem se_call (tk : Takes X W) (F : FnOk X.prog X.w X.K X.mg X.base (CV X.prog X.w) k f fd ps (spV X.K n m)) (ar : Ar m n) (hr : Room k X.A) (hm : X.mg x = some (.ref f)) (hk : PySem.W.keepIn X.K (.ref f) = true) (hb : Binds X.K fd ps [])
    (ha : SA X W (e :: es) mas) (hg : Gl X x := by rfl) (hdb : (x == ("__debug__" : Str)) = false := by decide) (he : starEach (e :: es) X.env = (false, eval e X.env) :: starEach es X.env := by rfl) (hpl : (backTo pos (starEach es X.env)).any (·.1) = false := by rfl) :
    SE X W (.Call (.Name x p) (e :: es) [] pos) (M.bind mas (callF m)) := by
  refine SE.of (pe_callSD (E := WE W) F hr hg hm hk hb .nil (fun σ => passAt tk σ) ha hdb he hpl) fun σ H Fz P0 Mm ρ bs Q B q => ?_
  refine tM_then B q fun xs zs F1 M1 r1 b1 H1 l1 e1 B1 q1 h1 => ?_
  rw [List.append_nil]
  exact sp_of ar B1 q1 h1
theorem se_call0 (tk : Takes X W) (F : FnOk X.prog X.w X.K X.mg X.base (CV X.prog X.w) k f fd ps (spV X.K n m)) (ar : Ar m n) (hr : Room k X.A) (hm : X.mg x = some (.ref f)) (hk : PySem.W.keepIn X.K (.ref f) = true) (hb : Binds X.K fd ps [])
    (hg : Gl X x := by rfl) (hdb : (x == ("__debug__" : Str)) = false := by decide) : SE X W (.Call (.Name x p) [] [] pos) (callF m []) := by
  refine ⟨fun pins s σ H Q I ⟨Fz, P0, Mm, ρ, bs, B, q⟩ => ?_⟩
  refine wpAny_Call_Name_kw (ld_glob I hg hm ?_ hdb)
  exact PySem.W.callWith_K0 I.kIn hk (run_fnSD (us := []) (vs := []) (E := WE W) F hr hb .nil (passAt tk σ) I .nil (sp_of ar B .nil q))
/-! ### keywords, defaults -/
def kperm {α : Type} (idx : List Nat) (l : List α) : List α := idx.filterMap fun i => l[i]?
theorem kperm_rep {K : PySem.W.Frag} {F : Hp} {ρ : Rho} {vs : List V} {ds : List D} (r : RepAll K F ρ vs ds) : ∀ idx : List Nat, RepAll K F ρ (kperm idx vs) (kperm idx ds)
  | [] => .nil
  | i :: idx => by
    unfold kperm
    rw [List.filterMap_cons, List.filterMap_cons]
    cases e : ds[i]? with
    | none =>
      have e2 : vs[i]? = none := List.getElem?_eq_none_iff.mpr (by rw [r.length]; exact List.getElem?_eq_none_iff.mp e)
      rw [e2]; exact kperm_rep r idx
    | some d =>
      obtain ⟨v, e2, rr⟩ := r.get e
      rw [e2]; exact .cons rr (kperm_rep r idx)
theorem kperm_vals {vs : List V} {us : List Value} (r : Vals vs us) : ∀ idx : List Nat, Vals (kperm idx vs) (kperm idx us)
  | [] => .nil
  | i :: idx => by
    unfold kperm
    rw [List.filterMap_cons, List.filterMap_cons]
    cases e : vs[i]? with
    | none => rw [r.none_of e]; exact kperm_vals r idx
    | some d =>
      obtain ⟨v, e2, rr⟩ := r.get e
      rw [e2]; exact .cons rr (kperm_vals r idx)
/-- n positional values, keywords ks, defaults dvs; idx: which of all of them goes to each parameter -/
def KB (K : PySem.W.Frag) (fd : FuncData) (ps : List Str) (n : Nat) (ks : List Str) (dvs : List V) (idx : List Nat) : Prop :=
  ∃ its : List Value, Vals dvs its ∧ ∀ (s : Shared) (us ws : List Value), K.In s.heap → us.length = n → ws.length = ks.length → BindsTo s fd ⟨us, ks.zip ws⟩ (ps.zip (kperm idx (us ++ (ws ++ its))))
theorem kb_n {K : PySem.W.Frag} {qual : Str} {params : Arguments} {body : List Stmt} {scope : Scope} {ks : List Str} {idx : List Nat} {j : Nat} (F : FunD K x qual params body scope [] [] f fd)
    (h : ∀ (kV doc pm : Value) (an : Option Addr) (cdv ct : Value) (us ws : List Value), us.length = j → ws.length = ks.length → bindArgs (PySem.W.fnOf x qual params body scope .none kV doc pm an cdv ct) ⟨us, ks.zip ws⟩ = pure (ps.zip (kperm idx (us ++ (ws ++ []))))) : KB K fd ps j ks [] idx := by
  obtain ⟨oc, od, dV, kV, doc, pm, an, cdv, ct, osl, rfl, lk, hcd, hD, hK⟩ := F.ex
  rcases hD with ⟨_, rfl⟩ | ⟨e, _⟩
  · exact ⟨[], .nil, fun s us ws _ h1 h2 => .of_eq (h kV doc pm an cdv ct us ws h1 h2)⟩
  · exact absurd rfl e
theorem kb_d {K : PySem.W.Frag} {qual : Str} {params : Arguments} {body : List Stmt} {scope : Scope} {ks : List Str} {idx : List Nat} {j : Nat} (F : FunD K x qual params body scope dvs [] f fd) (hd : dvs ≠ [])
    (h : ∀ (T : Addr) (kV doc pm : Value) (an : Option Addr) (cdv ct : Value) (us ws its : List Value), us.length = j → ws.length = ks.length → its.length = dvs.length →
      ∃ k, bindArgs (PySem.W.fnOf x qual params body scope (.ref T) kV doc pm an cdv ct) ⟨us, ks.zip ws⟩ = seqItems? (.ref T) >>= k ∧ k (some its.toArray) = pure (ps.zip (kperm idx (us ++ (ws ++ its))))) : KB K fd ps j ks dvs idx := by
  obtain ⟨oc, od, dV, kV, doc, pm, an, cdv, ct, osl, rfl, lk, hcd, hD, hK⟩ := F.ex
  rcases hD with ⟨e, _⟩ | ⟨_, T, o, its, m, rfl, lT, oT, rT⟩
  · exact absurd e hd
  · refine ⟨its, rT, fun s us ws X h1 h2 => ?_⟩
    obtain ⟨k, e1, e2⟩ := h T kV doc pm an cdv ct us ws its h1 h2 rT.length.symm
    refine BindsTo.of_looks fun M => ?_
    rw [e1]
    exact looks_items X lT oT (.of_pure e2)
/-- the callee runs, keywords and all -/
theorem run_fnK {pins : List (Addr × Obj)} {σ : St} {H : Hp} {s : Shared} {Q : VK} {E : XK} {sp : Sp} {us ws its : List Value} {vs zs : List V} {idx : List Nat} {ks : List Str} (F : FnOk X.prog X.w X.K X.mg X.base (CV X.prog X.w) k f fd ps sp) (hr : Room k X.A)
    (hb : BindsTo s fd ⟨us, ks.zip ws⟩ (ps.zip (kperm idx (us ++ (ws ++ its))))) (hx : PassesAt (CV X.prog X.w) X σ E)
    (I : Inv X pins σ H s) (r : Vals vs us) (rz : Vals zs ws) (rd : Vals dvs its) (h : sp (kperm idx (vs ++ (zs ++ dvs))) H Q E) : wpAny (model X.prog X.w) X.A (call (.ref f) us (ks.zip ws)) (EP X pins σ Q) X.xe s := by
  refine wpAny_call (codeAny_mono (F.run X.A X.stack s H ⟨us, ks.zip ws⟩ _ _ Q E hr I.env0 hb (kperm_vals (r.append (rz.append rd)) idx) h) fun r s' hq => ?_)
  cases r with
  | error e => exact hx pins H s e s' I hq
  | ok fl =>
    cases fl with
    | ret u => exact I.after hq
    | next => exact False.elim hq
    | brk => exact False.elim hq
    | cont => exact False.elim hq
def SK (X : Cx) (W : WX) (kws : List Keyword) (m : M (List D)) : Prop := PK X kws (tA X.K W m)
theorem SK.of {kws : List Keyword} {m : M (List D)} {t : TA} (h : PK X kws t)
    (ht : ∀ σ H F P0 Mm ρ b Q, BRel X.K F P0 Mm ρ b σ H → Post (RepAll X.K) X.K W P0 F ρ σ Q (m b) → t σ H Q) : SK X W kws m := ⟨fun pos pins s σ H Q I ⟨F, P0, Mm, ρ, b, B, q⟩ => h.run pos pins s σ H Q I (ht σ H F P0 Mm ρ b Q B q)⟩
theorem sk_nil : SK X W [] (M.ret []) := SK.of pk_nil fun σ H F P0 Mm ρ bs Q B q => q.now B .nil
theorem sk_cons {nm : Option Str} {kpos : Pos} {kws : List Keyword} (ha : SE X W e ma) (hr : SK X W kws mas) : SK X W (⟨nm, e, kpos⟩ :: kws) (consM ma mas) :=
  SK.of (pk_cons ha hr) fun σ H F P0 Mm ρ bs Q B q => tM_then B q fun x d F1 M1 r1 b1 H1 l1 e1 B1 q1 h1 => tM_then B1 h1 fun xs ds F2 M2 r2 b2 H2 l2 e2 B2 q2 h2 => h2.now B2 (.cons (q1.mono l2 e2) q2)
def argsK (j nk : Nat) (dfl : List D) (idx : List Nat) (mas mks : M (List D)) (k : List D → M D) : M D := M.bind mas fun zs => M.bind mks fun ws => guardM (zs.length = j ∧ ws.length = nk) (k (kperm idx (zs ++ (ws ++ dfl))))
/-- f(e, .., k = v, ..) -/
theorem se_callK {kws : List Keyword} {mks : M (List D)} {j : Nat} {ks : List Str} {idx : List Nat} (tk : Takes X W) (F : FnOk X.prog X.w X.K X.mg X.base (CV X.prog X.w) k f fd ps (spV X.K n m)) (ar : Ar m n) (hr : Room k X.A) (hm : X.mg x = some (.ref f)) (hk : PySem.W.keepIn X.K (.ref f) = true)
    (hb : KB X.K fd ps j ks dvs idx) (hf : Paired Flat dvs dfl) (ha : SA X W (e :: es) mas) (hkw : SK X W kws mks) (hg : Gl X x := by rfl) (hall : (backToKw pos (keywordEach kws X.env)).all (·.1.isSome) = true := by rfl) (hks : (backToKw pos (keywordEach kws X.env)).filterMap (·.1) = ks := by rfl)
    (hdb : (x == ("__debug__" : Str)) = false := by decide) (he : starEach (e :: es) X.env = (false, eval e X.env) :: starEach es X.env := by rfl)
    (hpl : ((backTo pos (starEach (e :: es) X.env)).any (·.1) || (backToKw pos (keywordEach kws X.env)).any (·.1.isNone)) = false := by rfl) : SE X W (.Call (.Name x p) (e :: es) kws pos) (argsK j ks.length dfl idx mas mks (callF m)) := by
  obtain ⟨its, rd, hb⟩ := hb
  refine ⟨fun pins s σ H Q I ⟨Fz, P0, Mm, ρ, bs, B, q⟩ => ?_⟩
  refine wpAny_Call_Name_kw (ld_glob I hg hm ?_ hdb)
  have h0 : tA X.K W mas σ H (fun vs H1 => tA X.K W mks σ H1 fun zv H2 => vs.length = j ∧ zv.length = ks.length ∧ spV X.K n m (kperm idx (vs ++ (zv ++ dvs))) H2 Q (WE W σ)) :=
    tM_then B q fun xs zs F1 M1 r1 b1 H1 l1 e1 B1 q1 h1 => tM_then B1 h1 fun ys ws F2 M2 r2 b2 H2 l2 e2 B2 q2 h2 => by
      obtain ⟨⟨g1, g2⟩, h2⟩ := Post.guard h2
      exact ⟨q1.length.trans g1, q2.length.trans g2, sp_of ar B2 (kperm_rep ((q1.mono l2 e2).append (q2.append (flats hf))) idx) h2⟩
  refine PySem.W.callWith_KW (h₀ := X.base) I.ok.mod.kin hk hall (thn (ha.run pos pins s σ H _ I h0) fun us s1 ⟨vs, H1, I1, r, q⟩ => thn (hkw.run pos pins s1 σ H1 _ I1 q) fun ws s2 ⟨zv, H2, I2, rz, l1, l2, q2⟩ => ⟨I2.kIn, ?_⟩) hpl he
  rw [hks]
  exact run_fnK F hr (hb s2 us ws I2.kIn (r.length.symm.trans l1) (rz.length.symm.trans l2)) (passAt tk σ) I2 r rz rd q2
theorem se_callK0 {kws : List Keyword} {mks : M (List D)} {ks : List Str} {idx : List Nat} (tk : Takes X W) (F : FnOk X.prog X.w X.K X.mg X.base (CV X.prog X.w) k f fd ps (spV X.K n m)) (ar : Ar m n) (hr : Room k X.A) (hm : X.mg x = some (.ref f)) (hk : PySem.W.keepIn X.K (.ref f) = true)
    (hb : KB X.K fd ps 0 ks dvs idx) (hf : Paired Flat dvs dfl) (hkw : SK X W kws mks) (hg : Gl X x := by rfl) (hall : (backToKw pos (keywordEach kws X.env)).all (·.1.isSome) = true := by rfl) (hks : (backToKw pos (keywordEach kws X.env)).filterMap (·.1) = ks := by rfl)
    (hdb : (x == ("__debug__" : Str)) = false := by decide)
    (hpl : ((backTo pos (starEach [] X.env)).any (·.1) || (backToKw pos (keywordEach kws X.env)).any (·.1.isNone)) = false := by rfl) : SE X W (.Call (.Name x p) [] kws pos) (argsK 0 ks.length dfl idx (M.ret []) mks (callF m)) := by
  obtain ⟨its, rd, hb⟩ := hb
  refine ⟨fun pins s σ H Q I ⟨Fz, P0, Mm, ρ, bs, B, q⟩ => ?_⟩
  refine wpAny_Call_Name_kw (ld_glob I hg hm ?_ hdb)
  refine PySem.W.callWith_KW0 (h₀ := X.base) I.ok.mod.kin hk hall (thn (hkw.run pos pins s σ H (fun zv H2 => zv.length = ks.length ∧ spV X.K n m (kperm idx ([] ++ (zv ++ dvs))) H2 Q (WE W σ)) I (tM_then (m := mks) B q fun ys ws F2 M2 r2 b2 H2 l2 e2 B2 q2 h2 => ?_)) fun ws s2 ⟨zv, H2, I2, rz, q2⟩ => ⟨I2.kIn, ?_⟩) hpl
  rotate_left
  · rw [hks]
    obtain ⟨l2, q2⟩ := q2
    exact run_fnK (us := []) (vs := []) F hr (hb s2 [] ws I2.kIn rfl (rz.length.symm.trans l2)) (passAt tk σ) I2 .nil rz rd q2
  · obtain ⟨⟨g1, g2⟩, h2⟩ := Post.guard h2
    exact ⟨q2.length.trans g2, sp_of ar B2 (kperm_rep (RepAll.nil.append (q2.append (flats hf))) idx) h2⟩
end
end L2.VI
/-! VI6: classes: making, methods, fields, properties; built-ins. -/
namespace L2.VI
open PySem PySem.Spec PyProof.Rows He

section
variable {X : Cx} {W : WX} {k : Nat} {f C : Addr} {fd : FuncData} {ps : List Str} {n : Nat} {m : FnD} {dvs : List V} {dfl : List D} {ds : List Value} {x c mn : Str} {p pos apos : Pos} {e o : Expr} {es : List Expr} {ma : M D} {mas : M (List D)}
variable {K : PySem.W.Frag} {F P0 Mm H : Hp} {ρ : Rho} {bs : BSt} {σ : St}

/-! ### a new instance -/
theorem run_makeK {pins : List (Addr × Obj)} {s : Shared} {Q : VK} {E : XK} {sp : Sp} {us ws its : List Value} {vs zs : List V} {idx : List Nat} {ks : List Str} (Mc : Mk X.K C f) (F : FnOk X.prog X.w X.K X.mg X.base (CV X.prog X.w) k f fd ps sp) (hr : Room (k + 1) X.A)
    (hb : ∀ (s : Shared) (u : Value), X.K.In s.heap → BindsTo s fd ⟨u :: us, ks.zip ws⟩ (ps.zip (kperm idx (u :: us ++ (ws ++ its))))) (hx : PassesAt (CV X.prog X.w) X σ E)
    (I : Inv X pins σ H s) (r : Vals vs us) (rz : Vals zs ws) (rd : Vals dvs its)
    (h : ∀ x dx, H x = none → H dx = none → dx ≠ x → sp (kperm idx (.ref x :: vs ++ (zs ++ dvs))) (upd (upd H dx (.own x)) x (.ins C dx [])) (fun v H2 => v = .non ∧ Q (.ref x) H2) E) :
    wpAny (model X.prog X.w) X.A (call (.ref C) us (ks.zip ws)) (EP X pins σ Q) X.xe s := by
  have hq := h (s.heap.objs.size + 1) s.heap.objs.size (I.hok.fresh (Nat.le_succ _)) (I.hok.fresh (Nat.le_refl _)) (Nat.ne_of_lt (Nat.lt_succ_self _))
  have I2 := Inv.made (C := C) I
  have r2 : Vals (V.ref (s.heap.objs.size + 1) :: vs ++ (zs ++ dvs)) (Value.ref (s.heap.objs.size + 1) :: us ++ (ws ++ its)) := (Vals.append (.cons rfl r) (rz.append rd))
  refine wpAny_call (make_map (f := f) I.kIn Mc.makes Mc.init (beq_iff_eq.mp Mc.fn) (codeAny_mono (F.run _ X.stack _ _ ⟨Value.ref (s.heap.objs.size + 1) :: us, ks.zip ws⟩ _ _ _ E (hr.make C us (ks.zip ws))
    (I2.env0.make C us (ks.zip ws)) (hb _ _ I2.kIn) (kperm_vals r2 idx) hq) fun r s' hq' => ?_))
  cases r with
  | error e => exact hx pins _ _ e s' I2 hq'
  | ok fl =>
    cases fl with
    | ret u =>
      obtain ⟨v, H', I3, rv, ev, q3⟩ := I2.after hq'
      subst ev
      exact ⟨rv, ⟨V.ref (s.heap.objs.size + 1), H', I3, rfl, q3⟩⟩
    | next => exact False.elim hq'
    | brk => exact False.elim hq'
    | cont => exact False.elim hq'
/-- j values are written, keywords ks; the instance itself goes first -/
def KBm (K : PySem.W.Frag) (fd : FuncData) (ps : List Str) (j : Nat) (ks : List Str) (dvs : List V) (idx : List Nat) : Prop := KB K fd ps (j + 1) ks dvs idx
def makeG (c : Str) (m : FnD) (idx : List Nat) (rest : List D) : M D := fun b => match m (kperm idx (.ptr b.g.nx :: rest)) (b.g.new (.ins c [])) with
  | .ok .non g' => .ok (.ptr b.g.nx) { b with g := g' }
  | .exc x g' => .exc x { b with g := g' }
  | _ => .fail
theorem sp_make {vs : List V} {zs : List D} {Q : VK} {idx : List Nat} (ar : Ar m n) (B : BRel X.K F P0 Mm ρ bs σ H) (r : RepAll X.K F ρ vs zs) (h : Post (Rep X.K) X.K W P0 F ρ σ Q (makeG c m idx zs bs)) (x dx : Addr) (nx : H x = none) (ndx : H dx = none) (ne : dx ≠ x) :
    spV X.K n m (kperm idx (.ref x :: vs)) (upd (upd H dx (.own x)) x (.ins (ga X.K c) dx [])) (fun v H2 => v = .non ∧ Q (.ref x) H2) (WE W σ) := by
  obtain ⟨P, q, B⟩ := B
  obtain ⟨h1, rl⟩ := B.h.newI (c := c) nx ndx ne
  have r1 : RepAll X.K F (rput ρ bs.g.nx x) (.ref x :: vs) (.ptr bs.g.nx :: zs) := .cons (.ptr rput_same) (r.mono (Leq.refl _) rl)
  have r2 := kperm_rep r1 idx
  have hn : (kperm idx (.ref x :: vs)).length = n := by
    by_cases hz : (kperm idx (D.ptr bs.g.nx :: zs)).length = n
    · rw [r2.length]; exact hz
    · unfold makeG at h; rw [ar _ _ hz] at h; exact h.elim
  refine ⟨hn, F, P, _, _, _, _, h1, r2, ?_⟩
  unfold makeG at h
  cases e : m (kperm idx (.ptr bs.g.nx :: zs)) (bs.g.new (.ins c [])) with
  | ok d g' =>
    rw [e] at h
    intro v F' M' ρ' H' l r3 h' rr
    cases d with
    | non =>
      cases rr
      exact ⟨rfl, h (.ref x) F' M' ρ' H' l (rl.trans r3) ⟨P, q, B.step l (rl.trans r3) h'⟩ (.ptr (r3 _ _ rput_same))⟩
    | _ => exact h.elim
  | exc y g' => rw [e] at h; exact fun v d F' M' ρ' H' l r3 h' rr => h v d F' M' ρ' H' l (rl.trans r3) ⟨P, q, B.step l (rl.trans r3) h'⟩ rr
  | fail => rw [e] at h; exact h.elim
theorem se_make {kws : List Keyword} {mks : M (List D)} {j : Nat} {ks : List Str} {idx : List Nat} (tk : Takes X W) (Mc : Mk X.K (ga X.K c) f) (F : FnOk X.prog X.w X.K X.mg X.base (CV X.prog X.w) k f fd ps (spV X.K n m)) (ar : Ar m n) (hr : Room (k + 1) X.A) (hm : X.mg c = some (.ref (ga X.K c)))
    (hb : KBm X.K fd ps j ks dvs idx) (hf : Paired Flat dvs dfl) (ha : SA X W (e :: es) mas) (hkw : SK X W kws mks) (hg : Gl X c := by rfl) (hall : (backToKw pos (keywordEach kws X.env)).all (·.1.isSome) = true := by rfl) (hks : (backToKw pos (keywordEach kws X.env)).filterMap (·.1) = ks := by rfl)
    (hdb : (c == ("__debug__" : Str)) = false := by decide) (he : starEach (e :: es) X.env = (false, eval e X.env) :: starEach es X.env := by rfl)
    (hpl : ((backTo pos (starEach (e :: es) X.env)).any (·.1) || (backToKw pos (keywordEach kws X.env)).any (·.1.isNone)) = false := by rfl) :
    SE X W (.Call (.Name c p) (e :: es) kws pos) (M.bind mas fun zs => M.bind mks fun ws => guardM (zs.length = j ∧ ws.length = ks.length) (makeG c m idx (zs ++ (ws ++ dfl)))) := by
  obtain ⟨its, rd, hb⟩ := hb
  refine ⟨fun pins s σ H Q I ⟨Fz, P0, Mm, ρ, bs, B, q⟩ => ?_⟩
  refine wpAny_Call_Name_kw (ld_glob I hg hm ?_ hdb)
  have h0 : tA X.K W mas σ H (fun vs H1 => tA X.K W mks σ H1 fun zv H2 => vs.length = j ∧ zv.length = ks.length ∧ ∀ x dx, H2 x = none → H2 dx = none → dx ≠ x →
      spV X.K n m (kperm idx (.ref x :: (vs ++ (zv ++ dvs)))) (upd (upd H2 dx (.own x)) x (.ins (ga X.K c) dx [])) (fun v H3 => v = .non ∧ Q (.ref x) H3) (WE W σ)) :=
    tM_then B q fun xs zs F1 M1 r1 b1 H1 l1 e1 B1 q1 h1 => tM_then B1 h1 fun ys ws F2 M2 r2 b2 H2 l2 e2 B2 q2 h2 => by
      obtain ⟨⟨g1, g2⟩, h2⟩ := Post.guard h2
      exact ⟨q1.length.trans g1, q2.length.trans g2, fun x dx nx ndx ne => sp_make ar B2 ((q1.mono l2 e2).append (q2.append (flats hf))) h2 x dx nx ndx ne⟩
  refine PySem.W.callWith_KW (h₀ := X.base) I.ok.mod.kin Mc.kp hall (thn (ha.run pos pins s σ H _ I h0) fun us s1 ⟨vs, H1, I1, r, q⟩ => thn (hkw.run pos pins s1 σ H1 _ I1 q) fun ws s2 ⟨zv, H2, I2, rz, l1, l2, q2⟩ => ⟨I2.kIn, ?_⟩) hpl he
  rw [hks]
  exact run_makeK Mc F hr (fun s u hs => hb s (u :: us) ws hs (congrArg Nat.succ (r.length.symm.trans l1)) (rz.length.symm.trans l2)) (passAt tk σ) I2 r rz rd q2

/-! ### methods -/
/-- d is an instance of the class -/
def isIns (c : Str) (d : D) (g : GSt) : Bool := match d with
  | .ptr k => (match g.S k with
    | some (.ins c' fs) => decide (c' = c)
    | _ => false)
  | _ => false
def noField (mn : Str) (d : D) (g : GSt) : Bool := match d with
  | .ptr k => (match g.S k with
    | some (.ins _ fs) => (fs.lookup mn).isNone
    | _ => false)
  | _ => false
theorem noField_of {k : Nat} {fs : List (Str × D)} {g : GSt} (hS : g.S k = some (.ins c fs)) (h : noField mn (.ptr k) g = true) : fs.lookup mn = none := by
  unfold noField at h
  dsimp only at h
  rw [hS] at h
  exact Option.isNone_iff_eq_none.mp h
def selfM (c mn : Str) (mo : M D) (k : D → M D) : M D := M.bind mo fun d => fun b => if isIns c d b.g = true ∧ noField mn d b.g = true then k d b else .fail
theorem isIns_at {x : V} {d : D} (B : BRel K F P0 Mm ρ bs σ H) (r : Rep K F ρ x d) (h : isIns c d bs.g = true) : ∃ k a dx vs fs, d = .ptr k ∧ x = .ref a ∧ bs.g.S k = some (.ins c fs) ∧ ρ k = some a ∧ Mm a = some (.ins (ga K c) dx vs) ∧ Mm dx = some (.own a) ∧ H a = some (.ins (ga K c) dx vs) ∧
    vs.map (·.1) = fs.map (·.1) ∧ RepAll K F ρ (vs.map (·.2)) (fs.map (·.2)) := by
  cases r with
  | ptr hk =>
    rename_i a k
    unfold isIns at h
    dsimp only at h
    split at h
    · rename_i c' fs e
      have e1 : c' = c := of_decide_eq_true h
      subst e1
      obtain ⟨P, q, BB⟩ := B
      obtain ⟨a', dx, vs, h1, h2, h3, h4, h5, h6⟩ := BB.h.insAt e
      rw [hk] at h1; cases h1
      exact ⟨k, a, dx, vs, fs, rfl, rfl, e, hk, h2, h3, h4, h5, h6⟩
    · cases h
  | _ => cases h
theorem se_meth {kws : List Keyword} {mks : M (List D)} {j : Nat} {ks : List Str} {idx : List Nat} {pl : Sem Bool} (tk : Takes X W) (ho : SE X W o ma) (cl : Cls X.K (ga X.K c)) (hm : Meth X.K (ga X.K c) mn f) (F : FnOk X.prog X.w X.K X.mg X.base (CV X.prog X.w) k f fd ps (spV X.K n m)) (ar : Ar m n) (hr : Room k X.A)
    (hb : KBm X.K fd ps j ks dvs idx) (hf : Paired Flat dvs dfl) (ha : SA X W (e :: es) mas) (hkw : SK X W kws mks) (hall : (backToKw pos (keywordEach kws X.env)).all (·.1.isSome) = true := by rfl) (hks : (backToKw pos (keywordEach kws X.env)).filterMap (·.1) = ks := by rfl)
    (he : starEach (e :: es) X.env = (false, eval e X.env) :: starEach es X.env := by rfl) (hpl : ((backTo pos (starEach (e :: es) X.env)).any (·.1) || (backToKw pos (keywordEach kws X.env)).any (·.1.isNone)) = false := by rfl)
    (ht : eval (.Call (.Attribute o mn apos) (e :: es) kws pos) X.env = (do
      let ov ← eval o X.env
      standAt apos.atName
      let (f, first) ← holding [ov] (getMethod ov mn pl)
      callWith pos f first (backTo pos (starEach (e :: es) X.env)) (backToKw pos (keywordEach kws X.env))) := by rfl) :
    SE X W (.Call (.Attribute o mn apos) (e :: es) kws pos) (selfM c mn ma fun d => M.bind mas fun zs => M.bind mks fun ws => guardM (zs.length = j ∧ ws.length = ks.length) (callF m (kperm idx (d :: zs ++ (ws ++ dfl))))) := by
  obtain ⟨its, rd, hb⟩ := hb
  refine ⟨fun pins s σ H Q I ⟨Fz, P0, Mm, ρ, bs, B, q⟩ => ?_⟩
  have h0 : tE X.K W ma σ H (fun x H0 => ∃ a dx vs0, x = .ref a ∧ H0 a = some (.ins (ga X.K c) dx vs0) ∧ vs0.lookup mn = none ∧ tA X.K W mas σ H0 fun vs H1 => tA X.K W mks σ H1 fun zv H2 => vs.length = j ∧ zv.length = ks.length ∧
      spV X.K n m (kperm idx (.ref a :: vs ++ (zv ++ dvs))) H2 Q (WE W σ)) :=
    tM_then B q fun x d F0 M0 r0 b0 H0 l0 e0 B0 q0 h0 => by
      dsimp only at h0
      split at h0
      · rename_i hc
        obtain ⟨hc, hf0⟩ := hc
        obtain ⟨kk, a, dx, vs, fs, rfl, rfl, hS, hk, _, _, hH, h5, h6⟩ := isIns_at B0 q0 hc
        have hl : fs.lookup mn = none := noField_of hS hf0
        refine ⟨a, dx, vs, rfl, hH, (fs_find h5 h6).2 hl, ?_⟩
        exact tM_then B0 h0 fun xs zs F1 M1 r1 b1 H1 l1 e1 B1 q1 h1 => tM_then B1 h1 fun ys ws F2 M2 r2 b2 H2 l2 e2 B2 q2 h2 => by
          obtain ⟨⟨g1, g2⟩, h2⟩ := Post.guard h2
          exact ⟨q1.length.trans g1, q2.length.trans g2, sp_of ar B2 (kperm_rep (RepAll.append (.cons (q0.mono (l1.trans l2) (e1.trans e2)) (q1.mono l2 e2)) (q2.append (flats hf))) idx) h2⟩
      · exact h0.elim
  refine PySem.W.methodCall_KW (pl := pl) (thn (ho.run pins s σ H _ I h0) fun u s1 ⟨x, H1, I1, rx, a, dx, fs, ex, ea, l, q⟩ => ?_) ht
  subst ex
  obtain rfl : u = Value.ref a := rx
  refine getmeth_ok I1 ea cl hm l ?_
  refine PySem.W.callWith_KW (first := [.ref a]) (h₀ := X.base) I.ok.mod.kin hm.kp hall (thn (ha.run pos pins s1 σ H1 _ I1 q) fun us s2 ⟨vs, H2, I2, r, q2⟩ => thn (hkw.run pos pins s2 σ H2 _ I2 q2) fun ws s3 ⟨zv, H3, I3, rz, l1, l2, q3⟩ => ⟨I3.kIn, ?_⟩) hpl he
  rw [hks]
  exact run_fnK (us := .ref a :: us) (vs := .ref a :: vs) F hr (hb s3 (.ref a :: us) ws I3.kIn (congrArg Nat.succ (r.length.symm.trans l1)) (rz.length.symm.trans l2)) (passAt tk σ) I3 (.cons rfl r) rz rd q3
/-- o.m() -/
theorem se_meth0 {pl : Sem Bool} {idx : List Nat} (tk : Takes X W) (ho : SE X W o ma) (cl : Cls X.K (ga X.K c)) (hm : Meth X.K (ga X.K c) mn f) (F : FnOk X.prog X.w X.K X.mg X.base (CV X.prog X.w) k f fd ps (spV X.K n m)) (ar : Ar m n) (hr : Room k X.A)
    (hb : KBm X.K fd ps 0 [] dvs idx) (hf : Paired Flat dvs dfl)
    (ht : eval (.Call (.Attribute o mn apos) [] [] pos) X.env = (do
      let ov ← eval o X.env
      standAt apos.atName
      let (f, first) ← holding [ov] (getMethod ov mn pl)
      callWith pos f first (backTo pos (starEach [] X.env)) (backToKw pos (keywordEach [] X.env))) := by rfl) :
    SE X W (.Call (.Attribute o mn apos) [] [] pos) (selfM c mn ma fun d => callF m (kperm idx (d :: dfl))) := by
  obtain ⟨its, rd, hb⟩ := hb
  refine ⟨fun pins s σ H Q I ⟨Fz, P0, Mm, ρ, bs, B, q⟩ => ?_⟩
  have h0 : tE X.K W ma σ H (fun x H0 => ∃ a dx vs0, x = .ref a ∧ H0 a = some (.ins (ga X.K c) dx vs0) ∧ vs0.lookup mn = none ∧ spV X.K n m (kperm idx (.ref a :: dvs)) H0 Q (WE W σ)) :=
    tM_then B q fun x d F0 M0 r0 b0 H0 l0 e0 B0 q0 h0 => by
      dsimp only at h0
      split at h0
      · rename_i hc
        obtain ⟨hc, hf0⟩ := hc
        obtain ⟨kk, a, dx, vs, fs, rfl, rfl, hS, hk, _, _, hH, h5, h6⟩ := isIns_at B0 q0 hc
        have hl : fs.lookup mn = none := noField_of hS hf0
        exact ⟨a, dx, vs, rfl, hH, (fs_find h5 h6).2 hl, sp_of ar B0 (kperm_rep (.cons q0 (flats hf)) idx) h0⟩
      · exact h0.elim
  refine PySem.W.methodCall_KW (pl := pl) (thn (ho.run pins s σ H _ I h0) fun u s1 ⟨x, H1, I1, rx, a, dx, fs, ex, ea, l, q⟩ => ?_) ht
  subst ex
  obtain rfl : u = Value.ref a := rx
  refine getmeth_ok I1 ea cl hm l ?_
  exact PySem.W.callWith_K0 (first := [.ref a]) I1.kIn hm.kp (run_fnK (us := [.ref a]) (vs := [.ref a]) (ws := []) (zs := []) (ks := []) F hr (hb s1 [.ref a] [] I1.kIn rfl rfl) (passAt tk σ) I1 (.cons rfl .nil) .nil rd q)

/-! ### fields, properties -/
def fldM (c fn : Str) (mo : M D) : M D := M.bind mo fun d => fun b => match d with
  | .ptr k => (match b.g.S k with
    | some (.ins c' fs) => if c' = c then optM (fs.lookup fn) b else .fail
    | _ => .fail)
  | _ => .fail
theorem se_fld {fn : Str} (ho : SE X W o ma) (cl : Cls X.K (ga X.K c)) (na : NoAttr X.K (ga X.K c) fn) (hb : attributeBase o fn X.env (eval o X.env) = eval o X.env := by rfl) : SE X W (.Attribute o fn pos) (fldM c fn ma) :=
  SE.of (pe_fld ho hb) fun σ H F P0 Mm ρ bs Q B q => tM_then B q fun x d F1 M1 r1 b1 H1 l1 e1 B1 q1 h1 => by
    cases q1 with
    | ptr hk =>
      rename_i a k
      dsimp only at h1
      split at h1
      · rename_i c' fs e
        split at h1
        · rename_i hc
          subst hc
          obtain ⟨P, q, BB⟩ := id B1
          obtain ⟨a', dx, vs, y1, y2, y3, y4, y5, y6⟩ := BB.h.insAt e
          rw [hk] at y1; cases y1
          obtain ⟨d, e2, h1⟩ := Post.opt (γ := Unit) h1
          obtain ⟨v, e3, rv⟩ := (fs_find (f := fn) y5 y6).1 d e2
          exact ⟨a, _, dx, vs, v, rfl, y4, cl, na, e3, h1.now B1 rv⟩
        · exact h1.elim
      · exact h1.elim
    | _ => exact h1.elim
def propM (c : Str) (m : FnD) (mo : M D) : M D := M.bind mo fun d => fun b => if isIns c d b.g = true then callN m [d] b else .fail
theorem se_prop {fn : Str} {pa : Addr} (ho : SE X W o ma) (cl : Cls X.K (ga X.K c)) (hp : PropOf X.K (ga X.K c) fn pa f) (F : FnOk X.prog X.w X.K X.mg X.base (CV X.prog X.w) k f fd ps (spV X.K n m)) (ar : Ar m n) (hr : Room (k + 1) X.A) (hb : Binds X.K fd ps [])
    (hab : attributeBase o fn X.env (eval o X.env) = eval o X.env := by rfl) : SE X W (.Attribute o fn pos) (propM c m ma) :=
  SE.of (pe_prop ho cl hp F hr hb .nil (passL (X := X.nox)) hab) fun σ H F P0 Mm ρ bs Q B q => tM_then B q fun x d F1 M1 r1 b1 H1 l1 e1 B1 q1 h1 => by
    try dsimp only at h1
    split at h1
    · rename_i hc
      obtain ⟨kk, a, dx, vs, fs, rfl, rfl, hS, hk, _, _, hH, h5, h6⟩ := isIns_at B1 q1 hc
      exact ⟨a, dx, vs, rfl, hH, sp_ofN ar B1 (.cons q1 .nil) h1⟩
    · exact h1.elim

/-! ### built-ins -/
def CallV (X : Cx) (W : WX) (g : Value) (fn : List D → M D) : Prop := ∀ (xs : List V) (as : List D) (σ : St) (H F P0 Mm : Hp) (ρ : Rho) (b : BSt) (Q : VK), BRel X.K F P0 Mm ρ b σ H → RepAll X.K F ρ xs as →
  Post (Rep X.K) X.K W P0 F ρ σ Q (fn as b) → ∃ r, CallR X g r ∧ r xs H Q
theorem CallR.any {g : Value} : CallR X g (fun xs H Q => ∃ r, CallR X g r ∧ r xs H Q) := fun pins s σ H xs us Q I rx ⟨r, hr, q⟩ => hr pins s σ H xs us Q I rx q
theorem se_callB {id : String} {fn : List D → M D} (hc : CallV X W (.builtin id) fn) (hm : X.mg x = none) (hv : bootBuiltins x = some (.builtin id)) (ha : SA X W (e :: es) mas) (hg : Gl X x := by rfl) (hn : x ≠ "__name__" := by decide) (hdb : (x == ("__debug__" : Str)) = false := by decide)
    (he : starEach (e :: es) X.env = (false, eval e X.env) :: starEach es X.env := by rfl) (hpl : (backTo pos (starEach es X.env)).any (·.1) = false := by rfl) : SE X W (.Call (.Name x p) (e :: es) [] pos) (M.bind mas fn) :=
  SE.of (pe_callB CallR.any hg hm hv ha hn hdb he hpl) fun σ H F P0 Mm ρ bs Q B q => tM_then B q fun xs zs F1 M1 r1 b1 H1 l1 e1 B1 q1 h1 => hc xs zs σ H1 F1 P0 M1 r1 b1 Q B1 q1 h1
theorem se_callT {T : String} {fn : List D → M D} (hc : CallV X W (.type T) fn) (hm : X.mg x = none) (hv : bootBuiltins x = some (.type T)) (ha : SA X W (e :: es) mas) (hg : Gl X x := by rfl) (hn : x ≠ "__name__" := by decide) (hdb : (x == ("__debug__" : Str)) = false := by decide)
    (he : starEach (e :: es) X.env = (false, eval e X.env) :: starEach es X.env := by rfl) (hpl : (backTo pos (starEach es X.env)).any (·.1) = false := by rfl) : SE X W (.Call (.Name x p) (e :: es) [] pos) (M.bind mas fn) :=
  SE.of (pe_callTy CallR.any hg hm hv ha hn hdb he hpl) fun σ H F P0 Mm ρ bs Q B q => tM_then B q fun xs zs F1 M1 r1 b1 H1 l1 e1 B1 q1 h1 => hc xs zs σ H1 F1 P0 M1 r1 b1 Q B1 q1 h1
end
end L2.VI
/-! VI7: statements; methods of lists and dicts. -/
namespace L2.VI
open PySem PySem.Spec PyProof.Rows He

inductive Fl where
  | nx | ret (d : D) | brk | cnt
def PostS (K : PySem.W.Frag) (W : WX) (P0 F : Hp) (ρ : Rho) (D : Ends) : R Fl → Prop
  | .ok .nx b' => ∀ (σ' : St) (F' M' : Hp) (ρ' : Rho) (H' : Hp), Leq F F' → Rle ρ ρ' → BRel K F' P0 M' ρ' b' σ' H' → D.nx σ' H'
  | .ok (.ret d) b' => ∀ (v : V) (σ' : St) (F' M' : Hp) (ρ' : Rho) (H' : Hp), Leq F F' → Rle ρ ρ' → BRel K F' P0 M' ρ' b' σ' H' → Rep K F' ρ' v d → D.rt v H'
  | .ok .brk b' => ∀ (σ' : St) (F' M' : Hp) (ρ' : Rho) (H' : Hp), Leq F F' → Rle ρ ρ' → BRel K F' P0 M' ρ' b' σ' H' → D.bk σ' H'
  | .ok .cnt b' => ∀ (σ' : St) (F' M' : Hp) (ρ' : Rho) (H' : Hp), Leq F F' → Rle ρ ρ' → BRel K F' P0 M' ρ' b' σ' H' → D.ct σ' H'
  | .exc x b' => ∀ (cls : Value) (d : Option Addr) (σ' : St) (F' M' : Hp) (ρ' : Rho) (H' : Hp), Leq F F' → Rle ρ ρ' → BRel K F' P0 M' ρ' b' σ' H' → RepX K F' ρ' x cls d → W cls d σ' H'
  | .fail => False
def sV (K : PySem.W.Frag) (W : WX) (m : M Fl) : TS := fun D σ H => ∃ F P0 Mm ρ b, BRel K F P0 Mm ρ b σ H ∧ PostS K W P0 F ρ D (m b)
def SS (X : Cx) (W : WX) (st : Stmt) (m : M Fl) : Prop := PS X st (sV X.K W m)
def SSs (X : Cx) (W : WX) (st : List Stmt) (m : M Fl) : Prop := PSs X st (sV X.K W m)
section
variable {K : PySem.W.Frag} {W : WX} {P0 F F1 Mm H : Hp} {ρ r1 : Rho} {σ : St} {bs : BSt} {D0 D1 : Ends}
theorem PostS.mono {r : R Fl} (h : PostS K W P0 F ρ D0 r) (l : Leq F F1) (e : Rle ρ r1) : PostS K W P0 F1 r1 D0 r := by
  cases r with
  | ok a b' =>
    cases a with
    | nx => exact fun σ' F' M' ρ' H' l' e' B => h σ' F' M' ρ' H' (l.trans l') (e.trans e') B
    | ret d => exact fun v σ' F' M' ρ' H' l' e' B r => h v σ' F' M' ρ' H' (l.trans l') (e.trans e') B r
    | brk => exact fun σ' F' M' ρ' H' l' e' B => h σ' F' M' ρ' H' (l.trans l') (e.trans e') B
    | cnt => exact fun σ' F' M' ρ' H' l' e' B => h σ' F' M' ρ' H' (l.trans l') (e.trans e') B
  | exc x b' => exact fun c d σ' F' M' ρ' H' l' e' B r => h c d σ' F' M' ρ' H' (l.trans l') (e.trans e') B r
  | fail => exact h
theorem PostS.nxt (h : PostS K W P0 F ρ D0 (.ok .nx bs)) (B : BRel K F P0 Mm ρ bs σ H) : D0.nx σ H := h σ F Mm ρ H (Leq.refl _) (Rle.refl _) B
theorem sV_of {m : M Fl} (B : BRel K F P0 Mm ρ bs σ H) (h : PostS K W P0 F ρ D0 (m bs)) : sV K W m D0 σ H := ⟨F, P0, Mm, ρ, bs, B, h⟩
/-- an expression ahead of the rest of a statement -/
theorem sM_then {α β : Type} {rel : Hp → Rho → β → α → Prop} {m : M α} {k : α → M Fl} {Q : β → Hp → Prop} (B : BRel K F P0 Mm ρ bs σ H) (h : PostS K W P0 F ρ D0 (M.bind m k bs))
    (hk : ∀ x a F1 M1 r1 b1 H1, Leq F F1 → Rle ρ r1 → BRel K F1 P0 M1 r1 b1 σ H1 → rel F1 r1 x a → PostS K W P0 F1 r1 D0 (k a b1) → Q x H1) : tM rel K W m σ H Q := by
  refine ⟨F, P0, Mm, ρ, bs, B, ?_⟩
  unfold M.bind at h
  cases e : m bs with
  | ok a b' =>
    rw [e] at h
    exact fun x F' M' ρ' H' l r B' q => hk x a F' M' ρ' b' H' l r B' q (PostS.mono h l r)
  | exc x b' => rw [e] at h; exact fun c d F' M' ρ' H' l r B' q => h c d σ F' M' ρ' H' l r B' q
  | fail => rw [e] at h; exact h.elim
theorem sM_thenF {m : M SO} {k : SO → M Fl} {Q : VK} (B : BRel K F P0 Mm ρ bs σ H) (h : PostS K W P0 F ρ D0 (M.bind m k bs))
    (hk : ∀ p so F1 M1 r1 b1 H1, Leq F F1 → Rle ρ r1 → Frs K F1 P0 M1 r1 b1 σ H1 p so → PostS K W P0 F1 r1 D0 (k so b1) → Q (.ref p) H1) : tF K W m σ H Q := by
  refine ⟨F, P0, Mm, ρ, bs, B, ?_⟩
  unfold M.bind at h
  cases e : m bs with
  | ok a b' =>
    rw [e] at h
    exact fun p F' M' ρ' H' l r B' => hk p a F' M' ρ' b' H' l r B' (PostS.mono h l r)
  | exc x b' => rw [e] at h; exact fun c d F' M' ρ' H' l r B' q => h c d σ F' M' ρ' H' l r B' q
  | fail => rw [e] at h; exact h.elim
theorem PostS.guard {c : Prop} [Decidable c] {m : M Fl} (h : PostS K W P0 F ρ D0 (guardM c m bs)) : c ∧ PostS K W P0 F ρ D0 (m bs) := by
  unfold guardM at h
  split at h
  · rename_i hc; exact ⟨hc, h⟩
  · exact h.elim
theorem PostS.opt {α : Type} {o : Option α} {k : α → M Fl} (h : PostS K W P0 F ρ D0 (M.bind (optM o) k bs)) : ∃ a, o = some a ∧ PostS K W P0 F ρ D0 (k a bs) := by
  cases o with
  | none => exact h.elim
  | some a => exact ⟨a, rfl, h⟩
end
def seqM (m k : M Fl) : M Fl := M.bind m fun f => match f with
  | .nx => k
  | f => M.ret f
section
variable {X : Cx} {W : WX} {pos : Pos} {st : Stmt} {rest : List Stmt} {e : Expr} {m k : M Fl} {me : M D}
theorem SS.of {t : TS} (h : PS X st t) (ht : ∀ σ H F P0 Mm ρ b D, BRel X.K F P0 Mm ρ b σ H → PostS X.K W P0 F ρ D (m b) → t D σ H) : SS X W st m := ⟨fun pins s σ H D I ⟨F, P0, Mm, ρ, b, B, q⟩ => h.run pins s σ H D I (ht σ H F P0 Mm ρ b D B q)⟩
theorem SSs.of {st : List Stmt} {t : TS} (h : PSs X st t) (ht : ∀ σ H F P0 Mm ρ b D, BRel X.K F P0 Mm ρ b σ H → PostS X.K W P0 F ρ D (m b) → t D σ H) : SSs X W st m := ⟨fun pins s σ H D I ⟨F, P0, Mm, ρ, b, B, q⟩ => h.run pins s σ H D I (ht σ H F P0 Mm ρ b D B q)⟩
theorem ss_nil : SSs X W [] (M.ret .nx) := SSs.of pss_nil fun σ H F P0 Mm ρ b D B q => q.nxt B
theorem ss_one (h : SS X W st m) : SSs X W [st] m := pss_one h
theorem ss_cons (h1 : SS X W st m) (h2 : SSs X W rest k) : SSs X W (st :: rest) (seqM m k) :=
  SSs.of (pss_cons h1 h2) fun σ H F P0 Mm ρ b D B q => by
    refine ⟨F, P0, Mm, ρ, b, B, ?_⟩
    unfold seqM M.bind at q
    cases e : m b with
    | ok a b' =>
      rw [e] at q
      cases a with
      | nx => exact fun σ' F' M' ρ' H' l r B' => sV_of B' (PostS.mono q l r)
      | ret d => exact q
      | brk => exact q
      | cnt => exact q
    | exc x b' => rw [e] at q; exact q
    | fail => rw [e] at q; exact q.elim
theorem ss_never {st : Stmt} : SS X W st M.fail := ⟨fun _ _ _ _ _ _ ⟨_, _, _, _, _, _, q⟩ => False.elim q⟩
theorem sss_never {sts : List Stmt} : SSs X W sts M.fail := ⟨fun _ _ _ _ _ _ ⟨_, _, _, _, _, _, q⟩ => False.elim q⟩
theorem ss_pass : SS X W (.Pass pos) (M.ret .nx) := SS.of ps_pass fun σ H F P0 Mm ρ b D B q => q.nxt B
theorem ss_brk : SS X W (.Break pos) (M.ret .brk) := SS.of ps_break fun σ H F P0 Mm ρ b D B q => q σ F Mm ρ H (Leq.refl _) (Rle.refl _) B
theorem ss_cont : SS X W (.Continue pos) (M.ret .cnt) := SS.of ps_continue fun σ H F P0 Mm ρ b D B q => q σ F Mm ρ H (Leq.refl _) (Rle.refl _) B
def exprM (m : M D) : M Fl := M.bind m fun _ => M.ret .nx
theorem ss_expr (h : SE X W e me) (hs : swapsWith e none pos.line X.env = pure false := by rfl) : SS X W (.Expr e pos) (exprM me) :=
  SS.of (ps_expr h hs) fun σ H F P0 Mm ρ b D B q => sM_then B q fun x d F1 M1 r1 b1 H1 l1 e1 B1 q1 h1 => h1.nxt B1
def retM (m : M D) : M Fl := M.bind m fun d => M.ret (.ret d)
theorem ss_ret (h : SE X W e me) : SS X W (.Return (some e) pos) (retM me) :=
  SS.of (ps_ret h) fun σ H F P0 Mm ρ b D B q => sM_then B q fun x d F1 M1 r1 b1 H1 l1 e1 B1 q1 h1 => h1 x σ F1 M1 r1 H1 (Leq.refl _) (Rle.refl _) B1 q1
theorem ss_retN : SS X W (.Return none pos) (M.ret (.ret .non)) := SS.of ps_retN fun σ H F P0 Mm ρ b D B q => q .non σ F Mm ρ H (Leq.refl _) (Rle.refl _) B .non
theorem ss_if {c : Expr} {a b : List Stmt} {tc : M Bool} {ma mb : M Fl} (hc : SB X W c tc) (ha : SSs X W a ma) (hb : SSs X W b mb) : SS X W (.If c a b pos) (ifM tc ma mb) :=
  SS.of (ps_if hc ha hb) fun σ H F P0 Mm ρ b D B q => sM_then B q fun x c F1 M1 r1 b1 H1 l1 e1 B1 q1 h1 => by
    subst q1
    cases x with
    | true => exact (if_pos rfl).mpr (sV_of B1 h1)
    | false => exact (if_neg Bool.false_ne_true).mpr (sV_of B1 h1)
/-! stores -/
def setV (i : Nat) (d : D) : M Fl := fun b => .ok .nx { b with t := b.t.set i (some (.val d)) }
def setO (i : Nat) (so : SO) : M Fl := fun b => .ok .nx { b with t := b.t.set i (some (.own so)) }
theorem ss_set {i : Nat} {x : Str} {pos' : Pos} (hN : X.N.Nodup) (he : SE X W e me) (hx : Loc X.env.scope x := by first | exact Or.inl rfl | exact Or.inr rfl) (hi : X.N[i]? = some x := by rfl) (hs : swapsWith e (some (.Name x pos')) pos.line X.env = pure false := by rfl)
    (hf : X.fn x = true ∨ X.env.scope.names.lookup x = some .local := by first | exact .inl rfl | exact .inr rfl | assumption) : SS X W (.Assign [.Name x pos'] e pos) (M.bind me (setV i)) :=
  SS.of (ps_set hN hi hx he hs hf) fun σ H F P0 Mm ρ b D B q => sM_then B q fun x d F1 M1 r1 b1 H1 l1 e1 B1 q1 h1 => h1.nxt (B1.setV i q1)
theorem ss_setO {i : Nat} {x : Str} {pos' : Pos} {mo : M SO} (hN : X.N.Nodup) (he : SN X W e mo) (hx : Loc X.env.scope x := by first | exact Or.inl rfl | exact Or.inr rfl) (hi : X.N[i]? = some x := by rfl) (hs : swapsWith e (some (.Name x pos')) pos.line X.env = pure false := by rfl)
    (hf : X.fn x = true ∨ X.env.scope.names.lookup x = some .local := by first | exact .inl rfl | exact .inr rfl | assumption) : SS X W (.Assign [.Name x pos'] e pos) (M.bind mo (setO i)) :=
  SS.of (ps_set hN hi hx he hs hf) fun σ H F P0 Mm ρ b D B q => sM_thenF B q fun p so F1 M1 r1 b1 H1 l1 e1 B1 h1 => h1.nxt (B1.setO i)
/-! a, b = x, y -/
def set2 (i j : Nat) (ms : M (List D)) : M Fl := M.bind ms fun ds => match ds with
  | [a, c] => seqM (setV i a) (setV j c)
  | _ => M.fail
theorem ss_par {i j : Nat} {x y : Str} {a b : Expr} {ms : M (List D)} {px py pt : Pos} {kt k2 pt2} (hN : X.N.Nodup) (hij : i ≠ j) (ha : SA X W [a, b] ms)
    (hw : swappedStores [.Tuple [.Name x px, .Name y py] kt pt] (.Tuple [a, b] k2 pt2) X.env = pure (some [x, y])) (hc : X.calm = true := by rfl) (hi : X.N[i]? = some x := by rfl) (hj : X.N[j]? = some y := by rfl) (hx : X.env.scope.names.lookup x = some .local := by rfl) (hy : X.env.scope.names.lookup y = some .local := by rfl)
    (hs : swapsWithSole [.Tuple [.Name x px, .Name y py] kt pt] (.Tuple [a, b] k2 pt2) pos.line X.env = pure false := by rfl) :
    SS X W (.Assign [.Tuple [.Name x px, .Name y py] kt pt] (.Tuple [a, b] k2 pt2) pos) (set2 i j ms) :=
  SS.of (ps_par hc hN hi hj hij hx hy ha hw hs) fun σ H F P0 Mm ρ b D B q => sM_then B q fun xs ds F1 M1 r1 b1 H1 l1 e1 B1 q1 h1 => by
    cases q1 with
    | nil => exact h1.elim
    | cons r1 q1 =>
      cases q1 with
      | nil => exact h1.elim
      | cons r2 q1 =>
        cases q1 with
        | cons r3 q1 => exact h1.elim
        | nil => exact ⟨_, _, rfl, PostS.nxt (W := W) h1 ((B1.setV i r1).setV j r2)⟩
def set3 (i j l : Nat) (ms : M (List D)) : M Fl := M.bind ms fun ds => match ds with
  | [a, c, d] => seqM (setV i a) (seqM (setV j c) (setV l d))
  | _ => M.fail
theorem ss_par3 {i j l : Nat} {x y z : Str} {a b c : Expr} {ms : M (List D)} {px py pz pt : Pos} {kt k2 pt2} (hN : X.N.Nodup) (hij : i ≠ j) (hil : i ≠ l) (hjl : j ≠ l) (ha : SA X W [a, b, c] ms)
    (hw : swappedStores [.Tuple [.Name x px, .Name y py, .Name z pz] kt pt] (.Tuple [a, b, c] k2 pt2) X.env = pure (some [x, y, z])) (hc : X.calm = true := by rfl) (hi : X.N[i]? = some x := by rfl) (hj : X.N[j]? = some y := by rfl) (hl : X.N[l]? = some z := by rfl) (hx : X.env.scope.names.lookup x = some .local := by rfl) (hy : X.env.scope.names.lookup y = some .local := by rfl) (hz : X.env.scope.names.lookup z = some .local := by rfl)
    (hs : swapsWithSole [.Tuple [.Name x px, .Name y py, .Name z pz] kt pt] (.Tuple [a, b, c] k2 pt2) pos.line X.env = pure false := by rfl) :
    SS X W (.Assign [.Tuple [.Name x px, .Name y py, .Name z pz] kt pt] (.Tuple [a, b, c] k2 pt2) pos) (set3 i j l ms) :=
  SS.of (ps_par3 hc hN hi hj hl hij hil hjl hx hy hz ha hw hs) fun σ H F P0 Mm ρ b D B q => sM_then B q fun xs ds F1 M1 r1 b1 H1 l1 e1 B1 q1 h1 => by
    cases q1 with
    | nil => exact h1.elim
    | cons r1 q1 =>
      cases q1 with
      | nil => exact h1.elim
      | cons r2 q1 =>
        cases q1 with
        | nil => exact h1.elim
        | cons r3 q1 =>
          cases q1 with
          | cons r4 q1 => exact h1.elim
          | nil => exact ⟨_, _, _, rfl, PostS.nxt (W := W) h1 (((B1.setV i r1).setV j r2).setV l r3)⟩
/-! targets -/
/-- a target takes a value; it writes the slots vs alone -/
def PostT (K : PySem.W.Frag) (P0 F : Hp) (ρ : Rho) (vs : List Nat) (σ : St) (Q : St → Hp → Prop) : Option BSt → Prop
  | some b' => ∀ (σ' : St) (F' M' : Hp) (ρ' : Rho) (H' : Hp), Leq F F' → Rle ρ ρ' → BRel K F' P0 M' ρ' b' σ' H' → wipe σ' vs = wipe σ vs → Q σ' H'
  | none => False
abbrev TgM := D → BSt → Option BSt
abbrev TgsM := List D → BSt → Option BSt
def tG (K : PySem.W.Frag) (vs : List Nat) (m : TgM) : TG := fun v σ H Q => ∃ F P0 Mm ρ b d, BRel K F P0 Mm ρ b σ H ∧ Rep K F ρ v d ∧ PostT K P0 F ρ vs σ Q (m d b)
def SG (X : Cx) (vs : List Nat) (tg : Expr) (m : TgM) : Prop := PG X tg (tG X.K vs m)
def SGs (X : Cx) (vs : List Nat) (tgs : List Expr) (m : TgsM) : Prop := PGs X tgs fun ws σ H Q => ∃ F P0 Mm ρ b ds, BRel X.K F P0 Mm ρ b σ H ∧ RepAll X.K F ρ ws ds ∧ PostT X.K P0 F ρ vs σ Q (m ds b)
theorem PostT.mono {K : PySem.W.Frag} {P0 F F1 : Hp} {ρ r1 : Rho} {vs : List Nat} {σ τ : St} {Q : St → Hp → Prop} {r : Option BSt} (h : PostT K P0 F ρ vs σ Q r) (l : Leq F F1) (e : Rle ρ r1) (hw : wipe τ vs = wipe σ vs) : PostT K P0 F1 r1 vs τ Q r := by
  cases r with
  | some b' => exact fun σ' F' M' ρ' H' l' e' B w => h σ' F' M' ρ' H' (l.trans l') (e.trans e') B (w.trans hw)
  | none => exact h
theorem SG.of {tg : Expr} {vs : List Nat} {m : TgM} {t : TG} (h : PG X tg t) (ht : ∀ v σ H F P0 Mm ρ b d Q, BRel X.K F P0 Mm ρ b σ H → Rep X.K F ρ v d → PostT X.K P0 F ρ vs σ Q (m d b) → t v σ H Q) : SG X vs tg m :=
  ⟨fun pins s σ H v u Q I r ⟨F, P0, Mm, ρ, b, d, B, rr, q⟩ => h.run pins s σ H v u Q I r (ht v σ H F P0 Mm ρ b d Q B rr q)⟩
theorem SGs.of {tg : List Expr} {vs : List Nat} {m : TgsM} {t : TGs} (h : PGs X tg t) (ht : ∀ v σ H F P0 Mm ρ b d Q, BRel X.K F P0 Mm ρ b σ H → RepAll X.K F ρ v d → PostT X.K P0 F ρ vs σ Q (m d b) → t v σ H Q) : SGs X vs tg m :=
  ⟨fun pins s σ H v u Q I r ⟨F, P0, Mm, ρ, b, d, B, rr, q⟩ => h.run pins s σ H v u Q I r (ht v σ H F P0 Mm ρ b d Q B rr q)⟩
theorem wipe_set {σ : St} {i : Nat} {v : Option V} : ∀ {vs : List Nat}, i ∈ vs → wipe (σ.set i v) vs = wipe σ vs
  | [], h => by cases h
  | w :: vs, h => by
    show (wipe (σ.set i v) vs).set w none = (wipe σ vs).set w none
    by_cases hm : i ∈ vs
    · rw [wipe_set hm]
    · rcases List.mem_cons.mp h with e | h
      · subst e
        have key : ∀ (ws : List Nat), i ∉ ws → wipe (σ.set i v) ws = (wipe σ ws).set i v := by
          intro ws
          induction ws with
          | nil => intro _; rfl
          | cons w ws ih =>
            intro h
            simp only [List.mem_cons, not_or] at h
            show (wipe (σ.set i v) ws).set w none = ((wipe σ ws).set w none).set i v
            rw [ih h.2, List.set_comm _ _ h.1]
        rw [key vs hm, List.set_set]
      · exact absurd h hm
def gSet (i : Nat) : TgM := fun d b => some { b with t := b.t.set i (some (.val d)) }
theorem sg_name {i : Nat} {vs : List Nat} {x : Str} (hN : X.N.Nodup) (hm : i ∈ vs := by decide) (hx : Loc X.env.scope x := by first | exact Or.inl rfl | exact Or.inr rfl) (hi : X.N[i]? = some x := by rfl) (hf : X.fn x = true ∨ X.env.scope.names.lookup x = some .local := by first | exact .inl rfl | exact .inr rfl | assumption) : SG X vs (.Name x pos) (gSet i) :=
  SG.of (pg_name hN hi hx hf) fun v σ H F P0 Mm ρ b d Q B r q => q _ F Mm ρ H (Leq.refl _) (Rle.refl _) (B.setV i r) (wipe_set hm)
def gsNil : TgsM := fun ds b => match ds with
  | [] => some b
  | _ => none
def gsCons (m : TgM) (k : TgsM) : TgsM := fun ds b => match ds with
  | d :: r => (m d b).bind (k r)
  | _ => none
theorem sgs_nil {vs : List Nat} : SGs X vs [] gsNil := SGs.of pgs_nil fun v σ H F P0 Mm ρ b d Q B r q => by
  cases r with
  | nil => exact ⟨rfl, q σ F Mm ρ H (Leq.refl _) (Rle.refl _) B rfl⟩
  | cons _ _ => exact q.elim
theorem sgs_cons {t : Expr} {vs : List Nat} {ts : List Expr} {m : TgM} {k : TgsM} (h1 : SG X vs t m) (h2 : SGs X vs ts k) (hs : (assignEach (t :: ts) X.env).map (·.2) = assign t X.env :: (assignEach ts X.env).map (·.2) := by rfl) : SGs X vs (t :: ts) (gsCons m k) :=
  SGs.of (pgs_cons h1 h2 hs) fun v σ H F P0 Mm ρ b d Q B r q => by
    cases r with
    | nil => exact q.elim
    | cons r rr =>
      rename_i v1 ws d1 ds
      refine ⟨_, _, rfl, F, P0, Mm, ρ, b, _, B, r, ?_⟩
      have q2 : PostT X.K P0 F ρ vs σ Q ((m d1 b).bind (k ds)) := q
      cases e : m d1 b with
      | none => rw [e] at q2; exact q2.elim
      | some b1 =>
        rw [e] at q2
        exact fun σ' F' M' ρ' H' l' e' B' w => ⟨F', P0, M', ρ', b1, _, B', rr.mono l' e', PostT.mono q2 l' e' w⟩
def gTupM (n : Nat) (m : TgsM) : TgM := fun d b => match d with
  | .tup ds => if ds.length = n then m ds b else none
  | _ => none
theorem sg_tup {ts : List Expr} {vs : List Nat} {kk n : Nat} {m : TgsM} (h : SGs X vs ts m) (hc : X.calm = true := by rfl) (hn : (assignEach ts X.env).length = n := by rfl) (hst : (assignEach ts X.env).findIdx? (·.1) = none := by rfl) : SG X vs (.Tuple ts kk pos) (gTupM n m) :=
  SG.of (pg_tup hc h hn hst) fun v σ H F P0 Mm ρ b d Q B r q => by
    cases r with
    | tup h1 r1 =>
      unfold gTupM at q
      dsimp only at q
      split at q
      · rename_i hl
        exact ⟨_, _, rfl, Rep.sqT (P := fun _ => none) B h1, by rw [r1.length]; exact hl, F, P0, Mm, ρ, b, _, B, r1, q⟩
      · exact q.elim
    | _ => exact q.elim
def tgM (g : TgM) (d : D) : M Fl := fun b => match g d b with
  | some b' => .ok .nx b'
  | none => .fail
def asgM (me : M D) (g : TgM) : M Fl := M.bind me (tgM g)
theorem ss_asg {tg e : Expr} {vs : List Nat} {g : TgM} (he : SE X W e me) (hg : SG X vs tg g) (hs : swapsWithSole [tg] e pos.line X.env = pure false := by rfl) (hw : swappedStores [tg] e X.env = pure none := by rfl)
    (h1 : (assignEach [tg] X.env).map (·.2) = [assign tg X.env] := by rfl) : SS X W (.Assign [tg] e pos) (asgM me g) :=
  SS.of (ps_asg he hg hs hw h1) fun σ H F P0 Mm ρ b D B q => sM_then B q fun x d F1 M1 r1 b1 H1 l1 e1 B1 q1 h1 => by
    refine ⟨F1, P0, M1, r1, b1, d, B1, q1, ?_⟩
    unfold tgM at h1
    split at h1
    · rename_i b2 e
      rw [e]
      exact fun σ' F' M' ρ' H' l' e' B' _ => h1 σ' F' M' ρ' H' l' e' B'
    · exact h1.elim
end
end L2.VI
/-! VI8: loops, what they walk, comprehensions. -/
namespace L2.VI
open PySem PySem.Spec PyProof.Rows He

/-! ### while -/
def turnM (body k : M Fl) : M Fl := fun b => match body b with
  | .ok .nx b' => k b'
  | .ok .cnt b' => k b'
  | .ok .brk b' => .ok .nx b'
  | r => r
def whileN (c : M Bool) (body : M Fl) : Nat → M Fl
  | 0 => M.fail
  | n + 1 => ifM c (turnM body (whileN c body n)) (M.ret .nx)
open Classical in
noncomputable def whileM (c : M Bool) (body : M Fl) : M Fl := fun b => if h : ∃ n, whileN c body n b ≠ .fail then whileN c body h.choose b else .fail
theorem whileN_succ {c : M Bool} {body : M Fl} : ∀ {n : Nat} {b : BSt}, whileN c body n b ≠ .fail → whileN c body (n + 1) b = whileN c body n b
  | 0, _, h => absurd rfl h
  | n + 1, b, h => by
    have h2 : ifM c (turnM body (whileN c body n)) (M.ret .nx) b ≠ .fail := h
    show ifM c (turnM body (whileN c body (n + 1))) (M.ret .nx) b = ifM c (turnM body (whileN c body n)) (M.ret .nx) b
    unfold ifM M.bind at h2 ⊢
    cases e : c b with
    | ok t b1 =>
      rw [e] at h2
      dsimp only at h2 ⊢
      cases t with
      | false => rfl
      | true =>
        rw [if_pos rfl] at h2 ⊢
        rw [if_pos rfl]
        unfold turnM at h2 ⊢
        cases e2 : body b1 with
        | ok f b2 =>
          rw [e2] at h2
          cases f with
          | nx => exact whileN_succ h2
          | cnt => exact whileN_succ h2
          | brk => rfl
          | ret d => rfl
        | exc x b2 => rfl
        | fail => rfl
    | exc x b1 => rfl
    | fail => rfl
theorem whileN_le {c : M Bool} {body : M Fl} {n : Nat} {b : BSt} (h : whileN c body n b ≠ .fail) : ∀ k, whileN c body (n + k) b = whileN c body n b
  | 0 => rfl
  | k + 1 => by
    have e := whileN_le h k
    have h2 : whileN c body (n + k) b ≠ .fail := by rw [e]; exact h
    rw [← e]; exact whileN_succ h2
theorem whileM_of {c : M Bool} {body : M Fl} {n : Nat} {b : BSt} (h : whileN c body n b ≠ .fail) : whileM c body b = whileN c body n b := by
  unfold whileM
  have hx : ∃ n, whileN c body n b ≠ .fail := ⟨n, h⟩
  rw [dif_pos hx]
  have h1 := hx.choose_spec
  have e1 := whileN_le h1 n
  have e2 := whileN_le h hx.choose
  rw [← e1, ← e2, Nat.add_comm]
theorem whileM_ok {c : M Bool} {body : M Fl} {b : BSt} (h : whileM c body b ≠ .fail) : ∃ n, whileM c body b = whileN c body n b ∧ whileN c body n b ≠ .fail := by
  by_cases hx : ∃ n, whileN c body n b ≠ .fail
  · obtain ⟨n, hn⟩ := hx
    exact ⟨n, whileM_of hn, hn⟩
  · unfold whileM at h
    rw [dif_neg hx] at h
    exact absurd rfl h
/-- one turn -/
theorem whileM_eq (c : M Bool) (body : M Fl) (b : BSt) : whileM c body b = ifM c (turnM body (whileM c body)) (M.ret .nx) b := by
  by_cases h : whileM c body b = .fail
  · rw [h]
    by_cases h2 : ifM c (turnM body (whileM c body)) (M.ret .nx) b = .fail
    · exact h2.symm
    · exfalso
      -- the right side has an answer: so has some whileN
      have key : ∃ n, ifM c (turnM body (whileN c body n)) (M.ret .nx) b ≠ .fail := by
        unfold ifM M.bind at h2 ⊢
        cases e : c b with
        | ok t b1 =>
          rw [e] at h2
          dsimp only at h2 ⊢
          cases t with
          | false => exact ⟨0, fun z => by cases z⟩
          | true =>
            rw [if_pos rfl] at h2
            unfold turnM at h2
            cases e2 : body b1 with
            | ok f b2 =>
              rw [e2] at h2
              cases f with
              | nx =>
                obtain ⟨n, _, hn⟩ := whileM_ok h2
                exact ⟨n, by rw [if_pos rfl]; unfold turnM; rw [e2]; exact hn⟩
              | cnt =>
                obtain ⟨n, _, hn⟩ := whileM_ok h2
                exact ⟨n, by rw [if_pos rfl]; unfold turnM; rw [e2]; exact hn⟩
              | brk => exact ⟨0, by rw [if_pos rfl]; unfold turnM; rw [e2]; exact fun z => by cases z⟩
              | ret d => exact ⟨0, by rw [if_pos rfl]; unfold turnM; rw [e2]; exact fun z => by cases z⟩
            | exc x b2 => exact ⟨0, by rw [if_pos rfl]; unfold turnM; rw [e2]; exact fun z => by cases z⟩
            | fail => rw [e2] at h2; exact absurd rfl h2
        | exc x b1 => exact ⟨0, fun z => by cases z⟩
        | fail => rw [e] at h2; exact absurd rfl h2
      obtain ⟨n, hn⟩ := key
      have hn' : whileN c body (n + 1) b ≠ .fail := hn
      rw [whileM_of hn'] at h
      exact hn' h
  · obtain ⟨n, e1, h1⟩ := whileM_ok h
    rw [e1]
    cases n with
    | zero => exact absurd rfl h1
    | succ n =>
      have h2 : ifM c (turnM body (whileN c body n)) (M.ret .nx) b ≠ .fail := h1
      show ifM c (turnM body (whileN c body n)) (M.ret .nx) b = ifM c (turnM body (whileM c body)) (M.ret .nx) b
      unfold ifM M.bind at h2 ⊢
      cases e : c b with
      | ok t b1 =>
        rw [e] at h2
        dsimp only at h2 ⊢
        cases t with
        | false => rfl
        | true =>
          rw [if_pos rfl] at h2 ⊢
          rw [if_pos rfl]
          unfold turnM at h2 ⊢
          cases e2 : body b1 with
          | ok f b2 =>
            rw [e2] at h2
            cases f with
            | nx => exact (whileM_of h2).symm
            | cnt => exact (whileM_of h2).symm
            | brk => rfl
            | ret d => rfl
          | exc x b2 => rfl
          | fail => rfl
      | exc x b1 => rfl
      | fail => rfl
section
variable {X : Cx} {W : WX} {pos : Pos}
theorem ss_while {c : Expr} {body : List Stmt} {tc : M Bool} {mb : M Fl} (hp : PassesOwn (model X.prog X.w) X.A X.env X.xe) (hc : SB X W c tc) (hb : SSs X W body mb) : SS X W (.While c body [] pos) (whileM tc mb) :=
  SS.of (ps_while hp hc hb) fun σ H F P0 Mm ρ b D B q => by
    have hq : whileM tc mb b ≠ .fail := fun z => by rw [z] at q; exact q
    obtain ⟨n, e, _⟩ := whileM_ok hq
    rw [e] at q
    refine ⟨fun n σ H => ∃ F' Mm ρ' b, Leq F F' ∧ Rle ρ ρ' ∧ BRel X.K F' P0 Mm ρ' b σ H ∧ PostS X.K W P0 F' ρ' D (whileN tc mb n b), ⟨n, F, Mm, ρ, b, Leq.refl _, Rle.refl _, B, q⟩, ?_⟩
    rintro n σ H ⟨F1, M1, r1, b1, l1, e1, B1, q1⟩
    cases n with
    | zero => exact q1.elim
    | succ n =>
      refine sM_then B1 q1 fun x t F2 M2 r2 b2 H2 l2 e2 B2 q2 h2 => ?_
      subst q2
      cases x with
      | false => exact (if_neg Bool.false_ne_true).mpr (PostS.nxt (W := W) h2 B2)
      | true =>
        refine (if_pos rfl).mpr ⟨fun σ' H' => ∃ F' Mm ρ' b, Leq F F' ∧ Rle ρ ρ' ∧ BRel X.K F' P0 Mm ρ' b σ' H' ∧ PostS X.K W P0 F' ρ' D (whileN tc mb n b), fun σ' H' h => ⟨n, Nat.lt_succ_self n, h⟩, F2, P0, M2, r2, b2, B2, ?_⟩
        have h2' : PostS X.K W P0 F2 r2 D (turnM mb (whileN tc mb n) b2) := h2
        unfold turnM at h2'
        cases e3 : mb b2 with
        | ok f b3 =>
          rw [e3] at h2'
          cases f with
          | nx => exact fun σ' F' M' ρ' H' l' e' B' => ⟨F', M', ρ', b3, (l1.trans l2).trans l', (e1.trans e2).trans e', B', PostS.mono h2' l' e'⟩
          | cnt => exact fun σ' F' M' ρ' H' l' e' B' => ⟨F', M', ρ', b3, (l1.trans l2).trans l', (e1.trans e2).trans e', B', PostS.mono h2' l' e'⟩
          | brk => exact h2'
          | ret d => exact h2'
        | exc x b3 => rw [e3] at h2'; exact h2'
        | fail => rw [e3] at h2'; exact h2'
end

/-! ### what a loop walks -/
/-- the iterator yields ds -/
def ItrOf (K : PySem.W.Frag) (P0 : Hp) (σ0 : St) (J : It) (F0 : Hp) (r0 : Rho) (ds : List D) : Prop := ∀ (i : Nat) (F Mm : Hp) (ρ : Rho) (P1 : Hp) (b : BSt) (σ : St) (H : Hp), Leq F0 F → Rle r0 ρ → BRel K F P1 Mm ρ b σ H →
  (ds.length ≤ i → J.stop i H) ∧ (i < ds.length → J.go i H ∧ ∀ x H', J.yld i H x H' → ∃ F', Leq F F' ∧ BRel K F' P1 Mm ρ b σ H' ∧ ∀ d, ds[i]? = some d → Rep K F' ρ x d)
def PostI (K : PySem.W.Frag) (W : WX) (P0 F : Hp) (ρ : Rho) (σ : St) (Q : It → Hp → Prop) : R (List D) → Prop
  | .ok ds b' => ∀ (J : It) (F' M' : Hp) (ρ' : Rho) (H' : Hp), Leq F F' → Rle ρ ρ' → BRel K F' P0 M' ρ' b' σ H' → ItrOf K P0 σ J F' ρ' ds → Q J H'
  | .exc x b' => ∀ (cls : Value) (d : Option Addr) (F' M' : Hp) (ρ' : Rho) (H' : Hp), Leq F F' → Rle ρ ρ' → BRel K F' P0 M' ρ' b' σ H' → RepX K F' ρ' x cls d → W cls d σ H'
  | .fail => False
def SI (X : Cx) (W : WX) (tg e : Expr) (m : M (List D)) : Prop := PI X tg e fun σ H R => ∃ F P0 Mm ρ b, BRel X.K F P0 Mm ρ b σ H ∧ PostI X.K W P0 F ρ σ R (m b)
/-- the items of a sequence -/
def itemsOf : D → Option (List D)
  | .lst xs => some xs
  | .tup xs => some xs
  | .scr ns => some (ns.map .int)
  | _ => none
def itemsM (m : M D) : M (List D) := M.bind m fun d => optM (itemsOf d)
section
variable {X : Cx} {W : WX} {pos : Pos} {tg e : Expr} {me : M D} {K : PySem.W.Frag} {F P0 Mm H : Hp} {ρ : Rho} {bs : BSt} {σ : St}
def iSeq (K : PySem.W.Frag) (tl : TE) : TI := fun σ H R => tl σ H fun x H1 => ∃ a, x = .ref a ∧ (((∃ xs, SqL K H1 a xs) ∧ R (Itl K a) H1) ∨ ((∃ xs, SqT K H1 a xs) ∧ R (Itt K a) H1))
theorem pi_seq {l : Expr} {tl : TE} (hl : PE X l tl) : PI X tg l (iSeq X.K tl) := by
  refine ⟨fun pins s σ H R I h => ?_⟩
  refine thn (hl.run pins s σ H _ I h) fun v s1 ⟨x, H1, I1, r1, q1⟩ => ?_
  obtain ⟨a, e, q⟩ := q1
  subst e
  rcases q with ⟨⟨xs, hq⟩, q⟩ | ⟨⟨xs, hq⟩, q⟩
  · cases r1
    obtain ⟨its, rv, p, hz⟩ := I1.list hq
    refine wpAny_pyIter_list p.isList ?_
    refine ⟨s1.heap.objs.size, [s1.heap.objs.size], _, _, H1, rfl, I1.kept (t' := s1.toks) fun b o e => Heap.get?_push_of_some _ e, turn_list a _, ⟨_, Heap.get?_push_size _ rfl, rfl, rfl⟩, fun b hb => ?_, q⟩
    have e : b = s1.heap.objs.size := by simpa using hb
    subst e
    exact I1.fpOk (Nat.le_refl _) (I1.hok.fresh (Nat.le_refl _))
  · cases r1
    obtain ⟨its, rv, p, hz⟩ := I1.tuple hq
    refine wpAny_pyIter_tuple (show s1.heap.IsTuple a its.toArray from p) ?_
    refine ⟨s1.heap.objs.size, [s1.heap.objs.size], _, _, H1, rfl, I1.kept (t' := s1.toks) fun b o e => Heap.get?_push_of_some _ e, turn_tuple a _, ⟨_, Heap.get?_push_size _ rfl, rfl, rfl⟩, fun b hb => ?_, q⟩
    have e : b = s1.heap.objs.size := by simpa using hb
    subst e
    exact I1.fpOk (Nat.le_refl _) (I1.hok.fresh (Nat.le_refl _))
theorem BRel.sqL {a : Addr} {xs : List V} (B : BRel K F P0 Mm ρ bs σ H) (h : SqL K F a xs) : SqL K H a xs := by
  obtain ⟨P, q, B⟩ := B
  rcases h with (h | ⟨o, h⟩) | h
  · have z := B.h.fh a _ h
    rw [if_neg (show ¬ (isDict (.lst xs) = true) from Bool.false_ne_true)] at z
    exact .inl (.inl z)
  · have z := B.h.fh a _ h
    rw [if_neg (show ¬ (isDict (.frz o (.lst xs)) = true) from Bool.false_ne_true)] at z
    exact .inl (.inr ⟨o, z⟩)
  · exact .inr h
theorem itl_of {a : Addr} {vs : List V} {ds : List D} (hl : ∀ F' M' ρ' P1 b σ H, Leq F F' → Rle ρ ρ' → BRel K F' P1 M' ρ' b σ H → SqL K H a vs) (r : RepAll K F ρ vs ds) : ItrOf K P0 σ (Itl K a) F ρ ds := by
  intro i F' M' ρ' P1 b σ' H' l e B
  have hq := hl F' M' ρ' P1 b σ' H' l e B
  refine ⟨fun hi => ⟨vs, hq, by rw [r.length]; exact hi⟩, fun hi => ?_⟩
  have hi' : i < vs.length := by rw [r.length]; exact hi
  refine ⟨⟨vs, vs[i], hq, by simp [hi']⟩, fun x H2 y => ?_⟩
  obtain ⟨e2, y⟩ := y
  subst e2
  refine ⟨F', Leq.refl _, B, fun d hd => ?_⟩
  obtain ⟨v, hv, rv⟩ := r.get hd
  have := y vs hq
  rw [hv] at this; cases this
  exact rv.mono l e
theorem itt_of {a : Addr} {vs : List V} {ds : List D} (hl : ∀ F' M' ρ' P1 b σ H, Leq F F' → Rle ρ ρ' → BRel K F' P1 M' ρ' b σ H → SqT K H a vs) (r : RepAll K F ρ vs ds) : ItrOf K P0 σ (Itt K a) F ρ ds := by
  intro i F' M' ρ' P1 b σ' H' l e B
  have hq := hl F' M' ρ' P1 b σ' H' l e B
  refine ⟨fun hi => ⟨vs, hq, by rw [r.length]; exact hi⟩, fun hi => ?_⟩
  have hi' : i < vs.length := by rw [r.length]; exact hi
  refine ⟨⟨vs, vs[i], hq, by simp [hi']⟩, fun x H2 y => ?_⟩
  obtain ⟨e2, y⟩ := y
  subst e2
  refine ⟨F', Leq.refl _, B, fun d hd => ?_⟩
  obtain ⟨v, hv, rv⟩ := r.get hd
  have := y vs hq
  rw [hv] at this; cases this
  exact rv.mono l e
theorem SI.of {m : M (List D)} {t : TI} (h : PI X tg e t) (ht : ∀ σ H F P0 Mm ρ b R, BRel X.K F P0 Mm ρ b σ H → PostI X.K W P0 F ρ σ R (m b) → t σ H R) : SI X W tg e m := ⟨fun pins s σ H R I ⟨F, P0, Mm, ρ, b, B, q⟩ => h.run pins s σ H R I (ht σ H F P0 Mm ρ b R B q)⟩
theorem PostI.mono {F1 : Hp} {r1 : Rho} {Q : It → Hp → Prop} {r : R (List D)} (h : PostI K W P0 F ρ σ Q r) (l : Leq F F1) (e : Rle ρ r1) : PostI K W P0 F1 r1 σ Q r := by
  cases r with
  | ok a b' => exact fun x F' M' ρ' H' l' e' B i => h x F' M' ρ' H' (l.trans l') (e.trans e') B i
  | exc x b' => exact fun c d F' M' ρ' H' l' e' B r => h c d F' M' ρ' H' (l.trans l') (e.trans e') B r
  | fail => exact h
theorem iM_then {α β : Type} {rel : Hp → Rho → β → α → Prop} {m : M α} {k : α → M (List D)} {R : It → Hp → Prop} {Q : β → Hp → Prop} (B : BRel K F P0 Mm ρ bs σ H) (h : PostI K W P0 F ρ σ R (M.bind m k bs))
    (hk : ∀ x a F1 M1 r1 b1 H1, Leq F F1 → Rle ρ r1 → BRel K F1 P0 M1 r1 b1 σ H1 → rel F1 r1 x a → PostI K W P0 F1 r1 σ R (k a b1) → Q x H1) : tM rel K W m σ H Q := by
  refine ⟨F, P0, Mm, ρ, bs, B, ?_⟩
  unfold M.bind at h
  cases e : m bs with
  | ok a b' =>
    rw [e] at h
    exact fun x F' M' ρ' H' l r B' q => hk x a F' M' ρ' b' H' l r B' q (PostI.mono h l r)
  | exc x b' => rw [e] at h; exact h
  | fail => rw [e] at h; exact h.elim
theorem si_seq (h : SE X W e me) : SI X W tg e (itemsM me) :=
  SI.of (pi_seq h) fun σ H F P0 Mm ρ b R B q => iM_then B q fun x d F1 M1 r1 b1 H1 l1 e1 B1 q1 h1 => by
    cases q1 with
    | lst h2 r2 => exact ⟨_, rfl, .inl ⟨⟨_, SqL.of (B1.lstAt h2)⟩, h1 _ F1 M1 r1 H1 (Leq.refl _) (Rle.refl _) B1 (itl_of (fun F' M' ρ' P1 b σ H l e B => SqL.of (B.lstAt (l _ _ h2))) r2)⟩⟩
    | tup h2 r2 => exact ⟨_, rfl, .inr ⟨⟨_, Rep.sqT (P := fun _ => none) B1 h2⟩, h1 _ F1 M1 r1 H1 (Leq.refl _) (Rle.refl _) B1 (itt_of (fun F' M' ρ' P1 b σ H l e B => Rep.sqT (P := fun _ => none) B (h2.imp (l _ _) id)) r2)⟩⟩
    | scr h2 => exact ⟨_, rfl, .inl ⟨⟨_, B1.sqL h2⟩, h1 _ F1 M1 r1 H1 (Leq.refl _) (Rle.refl _) B1 (itl_of (fun F' M' ρ' P1 b σ H l e B => B.sqL (SqL.leq l h2)) (RepAll.of_ints _))⟩⟩
    | _ => exact h1.elim
/-! range -/
def rngL (lo : Int) (n : Nat) : List D := (List.range n).map fun (i : Nat) => D.int (lo + (i : Int))
theorem itr_of {lo : Int} {n : Nat} : ItrOf K P0 σ (Itr lo n) F ρ (rngL lo n) := by
  intro i F' M' ρ' P1 b σ' H' l e B
  have hl : (rngL lo n).length = n := by simp [rngL]
  refine ⟨fun hi => by rw [hl] at hi; exact hi, fun hi => ?_⟩
  rw [hl] at hi
  refine ⟨hi, fun x H2 y => ?_⟩
  obtain ⟨e2, y⟩ := y
  subst e2 y
  refine ⟨F', Leq.refl _, B, fun d hd => ?_⟩
  have : d = D.int (lo + i) := by
    unfold rngL at hd
    rw [List.getElem?_map, List.getElem?_range hi] at hd
    exact (Option.some.inj hd).symm
  subst this
  exact .int _
def rng1M (ms : M (List D)) : M (List D) := M.bind ms fun ds => match ds with
  | [.int j] => guardM (-(2 ^ 62) ≤ j ∧ j < 2 ^ 62) (M.ret (rngL 0 j.toNat))
  | _ => M.fail
def rng2M (ms : M (List D)) : M (List D) := M.bind ms fun ds => match ds with
  | [.int i, .int j] => guardM (-(2 ^ 62) ≤ i ∧ i < 2 ^ 62 ∧ -(2 ^ 62) ≤ j ∧ j < 2 ^ 62) (M.ret (rngL i (j - i).toNat))
  | _ => M.fail
theorem PostI.guard {c : Prop} [Decidable c] {m : M (List D)} {Q : It → Hp → Prop} (h : PostI K W P0 F ρ σ Q (guardM c m bs)) : c ∧ PostI K W P0 F ρ σ Q (m bs) := by
  unfold guardM at h
  split at h
  · rename_i hc; exact ⟨hc, h⟩
  · exact h.elim
theorem si_range1 {a : Expr} {p : Pos} {ms : M (List D)} (hm : X.mg "range" = none) (ha : SA X W [a] ms) (hg : Gl X "range" := by rfl) (hs : starEach [a] X.env = [(false, eval a X.env)] := by rfl) : SI X W tg (.Call (.Name "range" p) [a] [] pos) (rng1M ms) :=
  SI.of (pi_range1 hg hm ha hs) fun σ H F P0 Mm ρ b R B q => iM_then B q fun xs ds F1 M1 r1 b1 H1 l1 e1 B1 q1 h1 => by
    cases q1 with
    | nil => exact h1.elim
    | cons r1 q1 =>
      cases q1 with
      | nil =>
        cases r1 with
        | int j =>
          obtain ⟨hj, h1⟩ := PostI.guard h1
          exact ⟨j, rfl, hj.1, hj.2, h1 _ _ _ _ _ (Leq.refl _) (Rle.refl _) B1 itr_of⟩
        | _ => exact h1.elim
      | cons r2 q2 => cases r1 <;> exact h1.elim
theorem si_range2 {a c : Expr} {p : Pos} {ms : M (List D)} (hm : X.mg "range" = none) (ha : SA X W [a, c] ms) (hg : Gl X "range" := by rfl) (hs : starEach [a, c] X.env = [(false, eval a X.env), (false, eval c X.env)] := by rfl) (hs2 : starEach [c] X.env = [(false, eval c X.env)] := by rfl) : SI X W tg (.Call (.Name "range" p) [a, c] [] pos) (rng2M ms) :=
  SI.of (pi_range2 hg hm ha hs hs2) fun σ H F P0 Mm ρ b R B q => iM_then B q fun xs ds F1 M1 r1 b1 H1 l1 e1 B1 q1 h1 => by
    cases q1 with
    | nil => exact h1.elim
    | cons r1 q1 =>
      cases q1 with
      | nil => cases r1 <;> exact h1.elim
      | cons r2 q2 =>
        cases q2 with
        | nil =>
          cases r1 with
          | int i =>
            cases r2 with
            | int j =>
              obtain ⟨hj, h1⟩ := PostI.guard h1
              exact ⟨i, j, rfl, hj, h1 _ _ _ _ _ (Leq.refl _) (Rle.refl _) B1 itr_of⟩
            | _ => exact h1.elim
          | _ => exact h1.elim
        | cons r3 q3 => cases r1 <;> cases r2 <;> exact h1.elim

/-! ### for -/
def forL (g : TgM) (body : M Fl) : List D → M Fl
  | [] => M.ret .nx
  | d :: ds => fun b => match g d b with
    | some b1 => turnM body (forL g body ds) b1
    | none => .fail
def forM (mi : M (List D)) (g : TgM) (body : M Fl) : M Fl := M.bind mi (forL g body)
theorem ss_for {iter : Expr} {body : List Stmt} {vs : List Nat} {mi : M (List D)} {g : TgM} {mb : M Fl} (hp : PassesOwn (model X.prog X.w) X.A X.env X.xe) (hi : SI X W tg iter mi) (hg : SG X vs tg g) (hb : SSs X W body mb) (hc : X.calm = true := by rfl)
    (hs : ∀ x, foldedSetIterable iter X.env x = pure x := by intro _; rfl) : SS X W (.For tg iter body [] pos) (forM mi g mb) :=
  SS.of (ps_for hp hc hi hg hb hs) fun σ H F P0 Mm ρ b D B q => by
    refine ⟨F, P0, Mm, ρ, b, B, ?_⟩
    unfold forM M.bind at q
    cases e : mi b with
    | ok ds b' =>
      rw [e] at q
      intro J F0 M0 r0 H0 l0 e0 B0 it
      have q0 := PostS.mono q l0 e0
      refine ⟨fun i n σ H => n = ds.length - i ∧ ∃ F' Mm ρ' b, Leq F0 F' ∧ Rle r0 ρ' ∧ BRel X.K F' P0 Mm ρ' b σ H ∧ PostS X.K W P0 F' ρ' D (forL g mb (ds.drop i) b), ⟨_, rfl, F0, M0, r0, b', Leq.refl _, Rle.refl _, B0, q0⟩, ?_⟩
      rintro i n σ H ⟨rfl, F1, M1, r1, b1, l1, e1, B1, q1⟩
      obtain ⟨i1, i2⟩ := it i F1 M1 r1 P0 b1 σ H l1 e1 B1
      by_cases hi : i < ds.length
      · obtain ⟨hgo, hy⟩ := i2 hi
        refine .inr ⟨hgo, fun σ' H' => ∃ F' Mm ρ' b, Leq F0 F' ∧ Rle r0 ρ' ∧ BRel X.K F' P0 Mm ρ' b σ' H' ∧ PostS X.K W P0 F' ρ' D (forL g mb (ds.drop (i + 1)) b), fun σ' H' h => ⟨ds.length - (i + 1), by omega, rfl, h⟩, fun x H2 y => ?_⟩
        obtain ⟨F2, l2, B2, r2⟩ := hy x H2 y
        have hd : ds.drop i = ds[i] :: ds.drop (i + 1) := List.drop_eq_getElem_cons hi
        rw [hd] at q1
        refine ⟨F2, P0, M1, r1, b1, ds[i], B2, r2 _ (List.getElem?_eq_getElem hi), ?_⟩
        unfold forL at q1
        try dsimp only at q1
        cases eg : g ds[i] b1 with
        | none => rw [eg] at q1; exact q1.elim
        | some b3 =>
          rw [eg] at q1
          intro σ3 F3 M3 r3 H3 l3 e3 B3 _
          refine ⟨F3, P0, M3, r3, b3, B3, ?_⟩
          have q3 : PostS X.K W P0 F3 r3 D (turnM mb (forL g mb (ds.drop (i + 1))) b3) := PostS.mono q1 (l2.trans l3) e3
          unfold turnM at q3
          cases eb : mb b3 with
          | ok f b4 =>
            rw [eb] at q3
            have again : PostS X.K W P0 F3 r3 D (forL g mb (ds.drop (i + 1)) b4) → ∀ (σ' : St) (F' M' : Hp) (ρ' : Rho) (H' : Hp), Leq F3 F' → Rle r3 ρ' → BRel X.K F' P0 M' ρ' b4 σ' H' →
                ∃ F' Mm ρ' b, Leq F0 F' ∧ Rle r0 ρ' ∧ BRel X.K F' P0 Mm ρ' b σ' H' ∧ PostS X.K W P0 F' ρ' D (forL g mb (ds.drop (i + 1)) b) := fun hq σ' F' M' ρ' H' l' e' B' =>
              ⟨F', M', ρ', b4, ((l1.trans l2).trans l3).trans l', (e1.trans e3).trans e', B', PostS.mono hq l' e'⟩
            cases f with
            | nx => exact again q3
            | cnt => exact again q3
            | brk => exact q3
            | ret d => exact q3
          | exc x b4 => rw [eb] at q3; exact q3
          | fail => rw [eb] at q3; exact q3
      · refine .inl ⟨i1 (by omega), ?_⟩
        rw [List.drop_eq_nil_of_le (by omega)] at q1
        exact PostS.nxt (W := W) q1 B1
    | exc x b' => rw [e] at q; exact fun c d F' M' ρ' H' l r B' z => q c d σ F' M' ρ' H' l r B' z
    | fail => rw [e] at q; exact q.elim

/-! ### comprehensions -/
def wipeT : List Nat → List (Option Slot) → List (Option Slot)
  | [], t => t
  | v :: vs, t => (wipeT vs t).set v none
abbrev BSt.wip (vs : List Nat) (b : BSt) : BSt := { b with t := wipeT vs b.t }
theorem BRel.wip (B : BRel K F P0 Mm ρ bs σ H) : ∀ vs : List Nat, BRel K F P0 Mm ρ (bs.wip vs) (wipe σ vs) H
  | [] => B
  | v :: vs => (BRel.wip B vs).drop v none
theorem wipeT_none {t : List (Option Slot)} {i : Nat} {s : Slot} : ∀ {vs : List Nat}, (wipeT vs t)[i]? = some (some s) → t[i]? = some (some s) ∧ i ∉ vs
  | [], h => ⟨h, by simp⟩
  | v :: vs, h => by
    unfold wipeT at h
    by_cases hi : v = i
    · subst hi
      by_cases hv : v < (wipeT vs t).length
      · rw [List.getElem?_set_self hv] at h; cases h
      · rw [List.getElem?_eq_none (by simpa using hv)] at h; cases h
    · rw [List.getElem?_set_ne hi] at h
      obtain ⟨h1, h2⟩ := wipeT_none h
      exact ⟨h1, by simp only [List.mem_cons, not_or]; exact ⟨fun e => hi e.symm, h2⟩⟩
theorem wipeT_length (t : List (Option Slot)) : ∀ vs : List Nat, (wipeT vs t).length = t.length
  | [] => rfl
  | v :: vs => by unfold wipeT; rw [List.length_set, wipeT_length t vs]
theorem wipe_get {σ : St} {i : Nat} : ∀ {vs : List Nat}, i ∉ vs → (wipe σ vs)[i]? = σ[i]?
  | [], _ => rfl
  | v :: vs, h => by
    simp only [List.mem_cons, not_or] at h
    show ((wipe σ vs).set v none)[i]? = _
    rw [List.getElem?_set_ne (fun e => h.1 e.symm)]
    exact wipe_get h.2
/-- from the block's slots back to the def's: any σ' that is alike behind the wiping -/
theorem BRel.back {vs : List Nat} {σ' : St} (B : BRel K F P0 Mm ρ bs σ' H) (hw : wipe σ' vs = wipe σ vs) : BRel K F P0 Mm ρ (bs.wip vs) σ H := by
  obtain ⟨P, q, B⟩ := B
  have hl : σ.length = σ'.length := by have := congrArg List.length hw; rw [wipe_length, wipe_length] at this; exact this.symm
  refine ⟨P, q, B.h, B.pp, by show σ.length = (wipeT vs bs.t).length; rw [wipeT_length, hl]; exact B.len, B.qi, fun i s e => ?_⟩
  obtain ⟨e1, ni⟩ := wipeT_none e
  have eσ : σ[i]? = σ'[i]? := by rw [← wipe_get ni, ← hw, wipe_get ni]
  have z := B.sl i s e1
  cases s with
  | val d => obtain ⟨v, h1, h2⟩ := z; exact ⟨v, by rw [eσ]; exact h1, h2⟩
  | own o => obtain ⟨p, h1, h2⟩ := z; exact ⟨p, by rw [eσ]; exact h1, h2⟩
theorem wipe_idem {σ : St} (vs : List Nat) : wipe (wipe σ vs) vs = wipe σ vs := by
  apply List.ext_getElem?
  intro i
  by_cases hi : i ∈ vs
  · have key : ∀ (τ : St) (ws : List Nat), i ∈ ws → (wipe τ ws)[i]? = if i < τ.length then some none else none := by
      intro τ ws
      induction ws with
      | nil => intro h; cases h
      | cons w ws ih =>
        intro h
        show ((wipe τ ws).set w none)[i]? = _
        by_cases hw : w = i
        · subst hw
          by_cases hl : w < τ.length
          · rw [List.getElem?_set_self (by rw [wipe_length]; exact hl), if_pos hl]
          · rw [List.getElem?_eq_none (by rw [List.length_set, wipe_length]; omega), if_neg hl]
        · rw [List.getElem?_set_ne hw]
          rcases List.mem_cons.mp h with e | h
          · exact absurd e.symm hw
          · exact ih h
    rw [key _ _ hi, key _ _ hi, wipe_length]
  · rw [wipe_get hi]
/-- while a fresh object is about: it is kept -/
theorem Frs.prot {p : Addr} {so : SO} (h : Frs K F P0 Mm ρ bs σ H p so) : ∃ u, BRel K F (upd P0 p u) Mm ρ bs σ H ∧ RepO K F ρ (fun _ => some u) p so ∧ P0 p = none ∧ so.plain = true := by
  obtain ⟨P, q, B, r, pl, n0, nq⟩ := h
  obtain ⟨u, hu, _⟩ := id r.there
  refine ⟨u, ⟨P, q, B.h, fun a w e => ?_, B.len, B.qi, fun i s e => ?_⟩, r.monoP (Leq.refl _) (Rle.refl _) pl fun w z => by rw [hu] at z; exact z, n0, pl⟩
  · by_cases ha : a = p
    · subst ha; rw [upd_same] at e; cases e; exact hu
    · rw [upd_ne ha] at e; exact B.pp a w e
  · have z := B.sl i s e
    cases s with
    | val d => exact z
    | own o =>
      obtain ⟨p', h1, h2, h3, h4⟩ := z
      exact ⟨p', h1, h2, by rw [upd_ne (fun z => nq i (by rw [← z]; exact h2))]; exact h3, h4⟩
theorem BRel.unprot {p : Addr} {u : HO} {so : SO} (B : BRel K F (upd P0 p u) Mm ρ bs σ H) (r : RepO K F ρ (fun _ => some u) p so) (n0 : P0 p = none) (pl : so.plain = true) : Frs K F P0 Mm ρ bs σ H p so := by
  obtain ⟨P, q, B⟩ := B
  have hp : P p = some u := B.pp p u upd_same
  refine ⟨P, fun i => if q i = some p then none else q i, ⟨B.h, fun a w e => ?_, B.len, fun i j a e1 e2 => ?_, fun i s e => ?_⟩, r.monoP (Leq.refl _) (Rle.refl _) pl fun w z => by cases z; exact hp, pl, n0, fun i z => ?_⟩
  · have : a ≠ p := fun z => by subst z; rw [n0] at e; cases e
    exact B.pp a w (by rw [upd_ne this]; exact e)
  · try dsimp only at e1 e2
    split at e1
    · cases e1
    · split at e2
      · cases e2
      · exact B.qi i j a e1 e2
  · have z := B.sl i s e
    cases s with
    | val d => exact z
    | own o =>
      obtain ⟨a, e1, e2, e3, e4, e5⟩ := z
      have na : a ≠ p := fun z => by subst z; rw [upd_same] at e3; cases e3
      rw [upd_ne na] at e3
      exact ⟨a, e1, (if_neg (fun z => na (Option.some.inj (e2.symm.trans z)))).trans e2, e3, e4, e5⟩
  · try dsimp only at z
    split at z
    · cases z
    · exact absurd z (by assumption)
/-- a fresh list gets one more -/
theorem Frs.app {p : Addr} {ds : List D} {v : V} {d : D} (h : Frs K F P0 Mm ρ bs σ H p (.lst ds)) (r : Rep K F ρ v d) : ∃ vs, H p = some (.lst vs) ∧ vs.length = ds.length ∧ Frs K F P0 Mm ρ bs σ (upd H p (.lst (vs ++ [v]))) p (.lst (ds ++ [d])) := by
  obtain ⟨P, q, B, ⟨vs, hv, rr⟩, pl, n0, nq⟩ := h
  refine ⟨vs, B.h.ph _ _ hv, rr.length, upd P p (.lst (vs ++ [v])), q, ⟨B.h.setP hv, fun a w e => ?_, B.len, B.qi, fun i s e => ?_⟩, ⟨_, upd_same, rr.append (.cons r .nil)⟩, rfl, n0, nq⟩
  · have : a ≠ p := fun z => by subst z; rw [n0] at e; cases e
    rw [upd_ne this]; exact B.pp a w e
  · refine (B.sl i s e).mono (Leq.refl _) (Rle.refl _) fun a ea => ⟨ea, fun w z => ?_⟩
    have : a ≠ p := fun z => nq i (by rw [← z]; exact ea)
    rw [upd_ne this]; exact z
def compL (g : TgM) (tt : M Bool) (elt : M D) (vs : List Nat) : List D → List D → M (List D)
  | acc, [] => M.ret acc
  | acc, d :: ds => fun b => match g d b with
    | some b1 => (match tt b1 with
      | .ok true b2 => (match elt b2 with
        | .ok y b3 => if acc.length < sizeLine then compL g tt elt vs (acc ++ [y]) ds (b3.wip vs) else .fail
        | _ => .fail)
      | .ok false b2 => compL g tt elt vs acc ds (b2.wip vs)
      | _ => .fail)
    | none => .fail
def lcN (mi : M (List D)) (g : TgM) (tt : M Bool) (elt : M D) (vs : List Nat) : M SO := M.bind mi fun ds => fun b => match compL g tt elt vs [] ds (b.wip vs) with
  | .ok acc b' => .ok (.lst acc) b'
  | _ => .fail
abbrev W0 : WX := fun _ _ _ _ => False
def STs (X : Cx) (W : WX) (ifs : List Expr) (m : M Bool) : Prop := PTs X ifs (tT X.K W m)
theorem sts_nil : STs X W [] (M.ret true) := ⟨fun pins s σ H Q I ⟨F, P0, Mm, ρ, b, B, q⟩ => pts_nil.run pins s σ H Q I (q true F Mm ρ H (Leq.refl _) (Rle.refl _) B rfl)⟩
theorem sts_one {c : Expr} {m : M Bool} (h : SB X W c m) : STs X W [c] m := pts_one h
theorem wipeT_get {t : List (Option Slot)} {i : Nat} : ∀ {vs : List Nat}, i ∉ vs → (wipeT vs t)[i]? = t[i]?
  | [], _ => rfl
  | v :: vs, h => by
    simp only [List.mem_cons, not_or] at h
    show ((wipeT vs t).set v none)[i]? = _
    rw [List.getElem?_set_ne (fun e => h.1 e.symm)]
    exact wipeT_get h.2
theorem wipeT_idem {t : List (Option Slot)} (vs : List Nat) : wipeT vs (wipeT vs t) = wipeT vs t := by
  apply List.ext_getElem?
  intro i
  by_cases hi : i ∈ vs
  · have key : ∀ (τ : List (Option Slot)) (ws : List Nat), i ∈ ws → (wipeT ws τ)[i]? = if i < τ.length then some none else none := by
      intro τ ws
      induction ws with
      | nil => intro h; cases h
      | cons w ws ih =>
        intro h
        show ((wipeT ws τ).set w none)[i]? = _
        by_cases hw : w = i
        · subst hw
          by_cases hl : w < τ.length
          · rw [List.getElem?_set_self (by rw [wipeT_length]; exact hl), if_pos hl]
          · rw [List.getElem?_eq_none (by rw [List.length_set, wipeT_length]; omega), if_neg hl]
        · rw [List.getElem?_set_ne hw]
          rcases List.mem_cons.mp h with e | h
          · exact absurd e.symm hw
          · exact ih h
    rw [key _ _ hi, key _ _ hi, wipeT_length]
  · rw [wipeT_get hi]
theorem Frs.back {vs : List Nat} {σ' : St} {p : Addr} {so : SO} (h : Frs K F P0 Mm ρ bs σ' H p so) (hw : wipe σ' vs = wipe σ vs) : Frs K F P0 Mm ρ (bs.wip vs) σ H p so := by
  obtain ⟨u, B, r, n0, pl⟩ := h.prot
  exact (B.back hw).unprot r n0 pl
theorem tlc_of {g : TgM} {mt : M Bool} {me : M D} {mi : M (List D)} {vs : List Nat} {Q : VK} {b : BSt} (B : BRel X.K F P0 Mm ρ b σ H) (q : PostF X.K W P0 F ρ σ Q (lcN mi g mt me vs b)) :
    tLc (fun σ H R => ∃ F P0 Mm ρ b, BRel X.K F P0 Mm ρ b σ H ∧ PostI X.K W P0 F ρ σ R (mi b)) (tG X.K vs g) (tT X.K W0 mt) (tE X.K W0 me) vs σ H Q := by
  refine ⟨F, P0, Mm, ρ, b, B, ?_⟩
  unfold lcN M.bind at q
  cases e : mi b with
  | exc x b' => rw [e] at q; exact q
  | fail => rw [e] at q; exact q.elim
  | ok ds b' =>
    rw [e] at q
    intro J F0 M0 r0 H0 l0 e0 B0 it Dn hD
    have q0 := PostF.mono q l0 e0
    dsimp only at q0
    -- the new list, nobody's
    have fr : Frs X.K F0 P0 M0 r0 (b'.wip vs) (wipe σ vs) (upd H0 Dn (.lst [])) Dn (.lst []) := (B0.wip vs).fresh (u := .lst []) hD (fun P' h => ⟨[], h, .nil⟩) rfl
    refine ⟨fun i n H => n = ds.length - i ∧ ∃ F' Mm ρ' b acc, Leq F0 F' ∧ Rle r0 ρ' ∧ Frs X.K F' P0 Mm ρ' b (wipe σ vs) H Dn (.lst acc) ∧ b = b.wip vs ∧ PostF X.K W P0 F' ρ' σ Q (match compL g mt me vs acc (ds.drop i) b with | .ok acc b' => .ok (.lst acc) b' | _ => .fail), ⟨_, rfl, F0, M0, r0, b'.wip vs, [], Leq.refl _, Rle.refl _, fr, ?_, q0⟩, ?_⟩
    · show b'.wip vs = (b'.wip vs).wip vs
      unfold BSt.wip
      rw [wipeT_idem]
    rintro i n H ⟨rfl, F1, M1, r1, b1, acc, l1, e1, fr1, bt, q1⟩
    obtain ⟨u, Bp, ru, n0, pl⟩ := fr1.prot
    obtain ⟨i1, i2⟩ := it i F1 M1 r1 _ b1 (wipe σ vs) H l1 e1 Bp
    by_cases hlt : i < ds.length
    · obtain ⟨hgo, hy⟩ := i2 hlt
      refine .inr ⟨hgo, fun H' => ∃ F' Mm ρ' b acc, Leq F0 F' ∧ Rle r0 ρ' ∧ Frs X.K F' P0 Mm ρ' b (wipe σ vs) H' Dn (.lst acc) ∧ b = b.wip vs ∧ PostF X.K W P0 F' ρ' σ Q (match compL g mt me vs acc (ds.drop (i + 1)) b with | .ok acc b' => .ok (.lst acc) b' | _ => .fail), fun H' h => ⟨ds.length - (i + 1), by omega, rfl, h⟩, fun x H2 y => ?_⟩
      obtain ⟨F2, l2, B2, r2⟩ := hy x H2 y
      have hd : ds.drop i = ds[i] :: ds.drop (i + 1) := List.drop_eq_getElem_cons hlt
      rw [hd] at q1
      refine ⟨F2, _, M1, r1, b1, ds[i], B2, r2 _ (List.getElem?_eq_getElem hlt), ?_⟩
      unfold compL at q1
      cases eg : g ds[i] b1 with
      | none => rw [eg] at q1; exact q1.elim
      | some b3 =>
        rw [eg] at q1
        intro σ3 F3 M3 r3 H3 l3 e3 B3 w3
        rw [wipe_idem] at w3
        have w3' : wipe σ3 vs = wipe (wipe σ vs) vs := by rw [wipe_idem]; exact w3
        refine ⟨w3, F3, _, M3, r3, b3, B3, ?_⟩
        dsimp only at q1
        cases et : mt b3 with
        | fail => rw [et] at q1; exact q1.elim
        | exc x b4 => rw [et] at q1; exact q1.elim
        | ok t b4 =>
          rw [et] at q1
          intro tv F4 M4 r4 H4 l4 e4 B4 ht
          subst ht
          cases tv with
          | false =>
            exact (if_neg Bool.false_ne_true).mpr ⟨F4, M4, r4, b4.wip vs, acc, ((l1.trans l2).trans l3).trans l4, (e1.trans e3).trans e4, (B4.unprot (ru.monoP ((l2.trans l3).trans l4) (e3.trans e4) pl fun w z => z) n0 pl).back w3', (by
              show b4.wip vs = (b4.wip vs).wip vs
              unfold BSt.wip
              rw [wipeT_idem]), PostF.mono q1 ((l2.trans l3).trans l4) (e3.trans e4)⟩
          | true =>
            refine (if_pos rfl).mpr ⟨F4, _, M4, r4, b4, B4, ?_⟩
            dsimp only at q1
            cases ee : me b4 with
            | fail => rw [ee] at q1; exact q1.elim
            | exc x b5 => rw [ee] at q1; exact q1.elim
            | ok y b5 =>
              rw [ee] at q1
              intro v F5 M5 r5 H5 l5 e5 B5 rv
              dsimp only at q1
              by_cases hz : acc.length < sizeLine
              · rw [if_pos hz] at q1
                have fr5 := B5.unprot (ru.monoP (((l2.trans l3).trans l4).trans l5) ((e3.trans e4).trans e5) pl fun w z => z) n0 pl
                obtain ⟨vs', hv1, hv2, fr6⟩ := fr5.app rv
                exact ⟨vs', hv1, by rw [hv2]; exact hz, F5, M5, r5, b5.wip vs, acc ++ [y], (((l1.trans l2).trans l3).trans l4).trans l5, ((e1.trans e3).trans e4).trans e5, fr6.back w3', (by
                  show b5.wip vs = (b5.wip vs).wip vs
                  unfold BSt.wip
                  rw [wipeT_idem]), PostF.mono q1 (((l2.trans l3).trans l4).trans l5) ((e3.trans e4).trans e5)⟩
              · rw [if_neg hz] at q1
                exact q1.elim
    · refine .inl ⟨i1 (by omega), ?_⟩
      rw [List.drop_eq_nil_of_le (by omega)] at q1
      have z := fr1.back (vs := vs) (σ := σ) (wipe_idem vs)
      rw [← bt] at z
      exact q1 Dn F1 M1 r1 H (Leq.refl _) (Rle.refl _) z
theorem sn_lc {elt iter : Expr} {ifs : List Expr} {scope : Scope} {own : List (Str × Nat)} {mi : M (List D)} {g : TgM} {mt : M Bool} {me : M D} (hN : X.N.Nodup) (hi : SI X W tg iter mi) (ok : BlkOk X.N X.env.scope scope own)
    (hg : ∀ (s : Shared) (H : Hp) (C : Addr) (cl : List (Str × Addr)) (fp : List Addr), SG (X.blk s H scope (compEnvC scope cl C X.env) fp) (own.map (·.2)) tg g) (ht : ∀ (s : Shared) (H : Hp) (C : Addr) (cl : List (Str × Addr)) (fp : List Addr), STs (X.blk s H scope (compEnvC scope cl C X.env) fp) W0 ifs mt)
    (he : ∀ (s : Shared) (H : Hp) (C : Addr) (cl : List (Str × Addr)) (fp : List Addr), SE (X.blk s H scope (compEnvC scope cl C X.env) fp) W0 elt me) (hc : X.calm = true := by rfl) (hs : ∀ x, foldedSetIterable iter X.env x = pure x := by intro _; rfl) :
    SN X W (.ListComp elt [⟨tg, iter, ifs, 0⟩] scope pos) (lcN mi g mt me (own.map (·.2))) := by
  exact SN.of (pe_lc (g := tG X.K (own.map fun (x : Str × Nat) => x.2) g) (tt := tT X.K W0 mt) (te := tE X.K W0 me) hc hN hi ok hg ht he hs) fun σ H F P0 Mm ρ b Q B q => tlc_of B q
end
end L2.VI
/-! VI9: methods of lists, stores to items and fields, displays of dicts, built-ins, a def. -/
namespace L2.VI
open PySem PySem.Spec PyProof.Rows He

/-! ### methods that change their receiver -/
def SO.tyn : SO → String
  | .lst _ => "list"
  | .dic _ => "dict"
  | .dct _ => "dict"
  | .ins _ _ => ""
abbrev MtF := SO → List D → Option (SO × D)
/-- the method by values does on the heap what f does on data -/
def MtO (X : Cx) (T id : String) (f : MtF) : Prop := ∀ (so so' : SO) (as : List D) (d : D), f so as = some (so', d) → so.tyn = T ∧ so'.plain = true ∧ ∀ (F : Hp) (ρ : Rho) (H : Hp) (p : Addr) (u : HO) (xs : List V), RepO X.K F ρ (fun _ => some u) p so → H p = some u → RepAll X.K F ρ xs as →
  ∃ (u' : HO) (v : V) (r : V → List V → Hp → VK → Prop), MtR X id r ∧ (∀ x, u' ≠ .own x) ∧ (∀ P', P' p = some u' → RepO X.K F ρ P' p so') ∧ Rep X.K F ρ v d ∧ ∀ Q : VK, Q v (upd H p u') → r (.ref p) xs H Q
def methO (i : Nat) (T : String) (f : MtF) (mas : M (List D)) : M D := fun b => match b.t[i]? with
  | some (some (.own so0)) => if so0.tyn = T then (M.bind mas fun as => fun b => match b.t[i]? with
    | some (some (.own so)) => (match f so as with
      | some (so', d) => .ok d { b with t := b.t.set i (some (.own so')) }
      | none => .fail)
    | _ => .fail) b else .fail
  | _ => .fail
def methP (T : String) (f : MtF) (mo : M D) (mas : M (List D)) : M D := M.bind mo fun x => fun b => match x with
  | .ptr k => (match b.g.S k with
    | some so0 => if so0.tyn = T ∧ so0.plain = true then (M.bind mas fun as => fun b => match b.g.S k with
      | some so => (match f so as with
        | some (so', d) => if so.plain = true then .ok d { b with g := b.g.put k so' } else .fail
        | none => .fail)
      | none => .fail) b else .fail
    | none => .fail)
  | _ => .fail
section
variable {X : Cx} {W : WX} {pos apos cpos : Pos} {o e : Expr} {es : List Expr} {mo : M D} {mas : M (List D)} {T id : String} {name x : Str} {f : MtF}
variable {K : PySem.W.Frag} {F P0 Mm H : Hp} {ρ : Rho} {bs : BSt} {σ : St}
theorem tyV_of {so : SO} {p : Addr} {u : HO} (r : RepO K F ρ (fun _ => some u) p so) (hp : H p = some u) (e : so.tyn = T) (pl : so.plain = true) : tyV K T (.ref p) H := by
  subst e
  cases so with
  | lst ds => obtain ⟨vs, h1, _⟩ := r; cases h1; exact .inl ⟨rfl, _, SqL.of hp⟩
  | dic ds => obtain ⟨vs, h1, _⟩ := r; cases h1; exact .inr (.inr (.inl ⟨rfl, .inl ⟨_, hp⟩⟩))
  | dct ds => obtain ⟨vs, h1, _⟩ := r; cases h1; exact .inr (.inr (.inl ⟨rfl, .inr ⟨_, hp⟩⟩))
  | ins c f => cases pl
theorem MtR.any : MtR X id (fun x xs H Q => ∃ r, MtR X id r ∧ r x xs H Q) := fun pins s σ H x xs v us Q I rx rs ⟨r, hr, q⟩ => hr pins s σ H x xs v us Q I rx rs q
theorem methO_ok {i : Nat} {Q : VK} (hf : MtO X T id f) (B : BRel X.K F P0 Mm ρ bs σ H) (q : Post (Rep X.K) X.K W P0 F ρ σ Q (methO i T f mas bs)) {t : TA} (ht : ∀ (σ H) (F P0 Mm ρ bs Q), BRel X.K F P0 Mm ρ bs σ H → Post (RepAll X.K) X.K W P0 F ρ σ Q (mas bs) → t σ H Q) :
    tBM X.K T (fun x xs H Q => ∃ r, MtR X id r ∧ r x xs H Q) (tVar i) t σ H Q := by
  unfold methO at q
  split at q
  · rename_i so0 e0
    split at q
    · rename_i hT
      obtain ⟨v, hv⟩ := B.slotV e0
      obtain ⟨p, u, rfl, hp, ru, pl⟩ := B.ownV e0 hv
      refine ⟨_, hv, tyV_of ru hp hT pl, ?_⟩
      obtain ⟨F1, P1, M1, r1, b1, B1, q1⟩ := tM_then (Q := fun xs H2 => ∃ r, MtR X id r ∧ r (.ref p) xs H2 Q) B q fun xs as F1 M1 r1 b1 H1 l1 e1 B1 q1 h1 => by
        split at h1
        · rename_i so e2
          split at h1
          · rename_i so' d ef
            obtain ⟨_, pl', hm⟩ := hf _ _ _ _ ef
            obtain ⟨p2, u2, rfl2, hp2, ru2, pl2⟩ := B1.ownV e2 hv
            cases rfl2
            obtain ⟨u', v, r, hr, nu, hn, rv, hq⟩ := hm F1 r1 H1 p u2 xs ru2 hp2 q1
            obtain ⟨p3, u3, y1, y2, y3, _, _, y4⟩ := B1.chg (u' := u') e2 pl'
            rw [hv] at y1; cases y1
            exact ⟨r, hr, hq _ (h1 v F1 M1 r1 _ (Leq.refl _) (Rle.refl _) (y4 hn) rv)⟩
          · exact h1.elim
        · exact h1.elim
      exact ht σ H F1 P1 M1 r1 b1 _ B1 q1
    · exact q.elim
  · exact q.elim
/-- x.m(e, ..), x a name whose own object it is -/
theorem se_methO {i : Nat} {p : Pos} (hf : MtO X T id f) (pa : PlainAttrs T) (slot : PySem.Slot T name id) (hty : typeOf (.builtin id) = pure (.type "method_descriptor")) (hx : PE X (.Name x p) (tVar i)) (ha : SA X W (e :: es) mas)
    (hbase : attributeBase (.Name x p) name X.env (eval (.Name x p) X.env) = eval (.Name x p) X.env := by rfl)
    (hfew : ((backTo cpos (starEach (e :: es) X.env)).all (fun x => !x.1) && (backToKw cpos (keywordEach [] X.env)).all (fun x => x.1.isSome)
      && decide ((e :: es).length + ([] : List Keyword).length + (if ([] : List Keyword).isEmpty then 0 else 1) < 30)) = true := by rfl)
    (hline : (apos.endLine == cpos.line) = true := by rfl) (hs : starEach (e :: es) X.env = (false, eval e X.env) :: starEach es X.env := by rfl) (hplain : (backTo cpos (starEach es X.env)).any (·.1) = false := by rfl) :
    SE X W (.Call (.Attribute (.Name x p) name apos) (e :: es) [] cpos) (methO i T f mas) :=
  SE.of (pe_bm pa slot hty MtR.any hx ha hbase hfew hline hs hplain) fun σ H F P0 Mm ρ bs Q B q => methO_ok hf B q fun σ H F P0 Mm ρ bs Q B q => tM_of B q
/-- o.m(e, ..), o's value in the store -/
theorem se_methP (hf : MtO X T id f) (pa : PlainAttrs T) (slot : PySem.Slot T name id) (hty : typeOf (.builtin id) = pure (.type "method_descriptor")) (ho : SE X W o mo) (ha : SA X W (e :: es) mas)
    (hbase : attributeBase o name X.env (eval o X.env) = eval o X.env := by rfl)
    (hfew : ((backTo cpos (starEach (e :: es) X.env)).all (fun x => !x.1) && (backToKw cpos (keywordEach [] X.env)).all (fun x => x.1.isSome)
      && decide ((e :: es).length + ([] : List Keyword).length + (if ([] : List Keyword).isEmpty then 0 else 1) < 30)) = true := by rfl)
    (hline : (apos.endLine == cpos.line) = true := by rfl) (hs : starEach (e :: es) X.env = (false, eval e X.env) :: starEach es X.env := by rfl) (hplain : (backTo cpos (starEach es X.env)).any (·.1) = false := by rfl) :
    SE X W (.Call (.Attribute o name apos) (e :: es) [] cpos) (methP T f mo mas) :=
  SE.of (pe_bm pa slot hty MtR.any ho ha hbase hfew hline hs hplain) fun σ H F P0 Mm ρ bs Q B q => tM_then B q fun x d F0 M0 r0 b0 H0 l0 e0 B0 q0 h0 => by
    cases q0 with
    | ptr hk =>
      rename_i p k
      dsimp only at h0
      split at h0
      · rename_i so0 es0
        split at h0
        · rename_i hT
          obtain ⟨hT, pl0⟩ := hT
          obtain ⟨a, u, y1, _, y2, y3, _⟩ := B0.put (so' := .lst []) (u' := .lst []) es0 pl0 rfl
          rw [hk] at y1; cases y1
          refine ⟨tyV_of y3 y2 hT pl0, tM_then B0 h0 fun xs as F1 M1 r1 b1 H1 l1 e1 B1 q1 h1 => ?_⟩
          try dsimp only at h1
          split at h1
          · rename_i so e2
            split at h1
            · rename_i so' d ef
              obtain ⟨_, pl', hm⟩ := hf _ _ _ _ ef
              split at h1
              · rename_i pl
                obtain ⟨a1, u1, z1, _, z2, z3, _⟩ := B1.put (so' := .lst []) (u' := .lst []) e2 pl rfl
                rw [e1 _ _ hk] at z1; cases z1
                obtain ⟨u', v, r, hr, nu, hn, rv, hq⟩ := hm F1 r1 H1 p u1 xs z3 z2 q1
                obtain ⟨a2, u2, w1, _, _, _, _, w2⟩ := B1.put (so' := so') (u' := u') e2 pl pl'
                rw [e1 _ _ hk] at w1; cases w1
                exact ⟨r, hr, hq _ (h1 v F1 _ r1 _ (Leq.refl _) (Rle.refl _) (w2 nu hn) rv)⟩
              · exact h1.elim
            · exact h1.elim
          · exact h1.elim
        · exact h0.elim
      · exact h0.elim
    | _ => exact h0.elim
end
end L2.VI
/-! VI10: methods by name, stores, displays of dicts. -/
namespace L2.VI
open PySem PySem.Spec PyProof.Rows He

section
variable {X : Cx} {W : WX} {pos apos cpos : Pos} {o i e : Expr} {es : List Expr} {mo mi me : M D} {mas : M (List D)}
variable {K : PySem.W.Frag} {F P0 Mm H : Hp} {ρ : Rho} {bs : BSt} {σ : St}
def fAppend : MtF := fun so as => match so, as with
  | .lst xs, [d] => if xs.length < sizeLine then some (.lst (xs ++ [d]), .non) else none
  | _, _ => none
theorem mo_append : MtO X "list" "list.append" fAppend := by
  intro so so' as d h
  unfold fAppend at h
  split at h
  · rename_i xs d0
    split at h
    · rename_i hl
      cases h
      refine ⟨rfl, rfl, fun F ρ H p u xs' r hp ra => ?_⟩
      obtain ⟨vs, e, rr⟩ := r
      cases e
      cases ra with
      | cons r1 ra =>
        cases ra
        exact ⟨_, .non, _, mt_append, (by intro _ z; cases z), fun P' hP => ⟨_, hP, rr.append (.cons r1 .nil)⟩, .non, fun Q q => ⟨p, vs, _, rfl, rfl, hp, by rw [rr.length]; exact hl, q⟩⟩
    · cases h
  · cases h
def fPopAt : MtF := fun so as => match so, as with
  | .lst xs, [.int i] => if -(2 ^ 63) ≤ i ∧ i < 2 ^ 63 then (match ixN xs.length i with
    | some j => (xs[j]?).map fun d => (.lst (xs.eraseIdx j), d)
    | none => none) else none
  | _, _ => none
theorem mo_popAt : MtO X "list" "list.pop" fPopAt := by
  intro so so' as d h
  unfold fPopAt at h
  split at h
  · rename_i xs i
    split at h
    · rename_i hl
      cases ej : ixN xs.length i with
      | none => rw [ej] at h; cases h
      | some j =>
        rw [ej] at h
        dsimp only at h
        cases ed : xs[j]? with
        | none => rw [ed] at h; cases h
        | some d0 =>
          rw [ed] at h
          cases h
          refine ⟨rfl, rfl, fun F ρ H p u xs' r hp ra => ?_⟩
          obtain ⟨vs, e, rr⟩ := r
          cases e
          cases ra with
          | cons r1 ra =>
            cases ra
            cases r1
            obtain ⟨v, hv, rv⟩ := rr.get ed
            obtain ⟨s1, _⟩ := ixN_seq ej
            exact ⟨_, v, _, mt_popAt, (by intro _ z; cases z), fun P' hP => ⟨_, hP, rr.eraseIdx j⟩, rv, fun Q q => ⟨p, vs, i, j, v, rfl, rfl, hp, hl.1, hl.2, by rw [rr.length]; exact s1, hv, q⟩⟩
    · cases h
  · cases h
/-! ### o[i] = v -/
def dput {κ : Type} [DecidableEq κ] (kvs : List (κ × D)) (k : κ) (v : D) : List (κ × D) :=
  if (kvs.any fun kv => decide (kv.1 = k)) = true then kvs.map (fun kv => if kv.1 = k then (kv.1, v) else kv) else kvs ++ [(k, v)]
def putO (so : SO) (i v : D) : Option SO := match so, i with
  | .lst xs, .int i => (ixN xs.length i).map fun j => .lst (xs.set j v)
  | .dic kvs, .str x => if kvs.length < sizeLine then some (.dic (dput kvs (.inr x) v)) else none
  | .dic kvs, .int j => if kvs.length < sizeLine then some (.dic (dput kvs (.inl j) v)) else none
  | _, _ => none
theorem kv_put {κ : Type} [DecidableEq κ] {k : κ} {v : V} {d : D} (r : Rep K F ρ v d) {vs : List (κ × V)} {ds : List (κ × D)} (hk : vs.map (·.1) = ds.map (·.1)) (rr : RepAll K F ρ (vs.map (·.2)) (ds.map (·.2))) :
    (putK vs k v).map (·.1) = (dput ds k d).map (·.1) ∧ RepAll K F ρ ((putK vs k v).map (·.2)) ((dput ds k d).map (·.2)) := by
  have hany : ∀ {vs : List (κ × V)} {ds : List (κ × D)}, vs.map (·.1) = ds.map (·.1) → (vs.any fun kv => decide (kv.1 = k)) = (ds.any fun kv => decide (kv.1 = k)) := by
    intro vs
    induction vs with
    | nil => intro ds h; cases ds with
      | nil => rfl
      | cons _ _ => simp at h
    | cons a vs ih =>
      intro ds h
      cases ds with
      | nil => simp at h
      | cons c ds =>
        simp only [List.map_cons, List.cons.injEq] at h
        simp only [List.any_cons, h.1, ih h.2]
  unfold putK dput
  rw [hany hk]
  split
  · clear hany
    revert hk rr
    induction vs generalizing ds with
    | nil => intro hk rr; cases ds with
      | nil => exact ⟨rfl, .nil⟩
      | cons _ _ => simp at hk
    | cons a vs ih =>
      intro hk rr
      cases ds with
      | nil => simp at hk
      | cons c ds =>
        simp only [List.map_cons, List.cons.injEq] at hk
        cases rr with
        | cons r1 rr =>
          rename_i _ha
          by_cases hx : ∃ z ∈ ds, z.1 = k
          · obtain ⟨i1, i2⟩ := ih (ds := ds) (by simpa using hx) hk.2 rr
            simp only [List.map_cons, hk.1]
            split
            · exact ⟨by simp only [List.cons.injEq, true_and]; exact i1, .cons r i2⟩
            · exact ⟨by simp only [List.cons.injEq]; exact ⟨hk.1, i1⟩, .cons r1 i2⟩
          · have nods : ∀ z ∈ ds, z.1 ≠ k := fun z hz e => hx ⟨z, hz, e⟩
            have novs : ∀ z ∈ vs, z.1 ≠ k := fun z hz e => by
              have : z.1 ∈ vs.map (·.1) := List.mem_map_of_mem hz
              rw [hk.2] at this
              obtain ⟨w, hw, ew⟩ := List.mem_map.mp this
              exact nods w hw (ew.trans e)
            have e1 : vs.map (fun kv => if kv.1 = k then (kv.1, v) else kv) = vs := by
              conv => rhs; rw [← List.map_id vs]
              exact List.map_congr_left fun z hz => if_neg (novs z hz)
            have e2 : ds.map (fun kv => if kv.1 = k then (kv.1, d) else kv) = ds := by
              conv => rhs; rw [← List.map_id ds]
              exact List.map_congr_left fun z hz => if_neg (nods z hz)
            simp only [List.map_cons, e1, e2, hk.1]
            split
            · exact ⟨by simp only [List.cons.injEq, true_and]; exact hk.2, .cons r rr⟩
            · exact ⟨by simp only [List.cons.injEq]; exact ⟨hk.1, hk.2⟩, .cons r1 rr⟩
  · rw [List.map_append, List.map_append, List.map_append, List.map_append, hk]
    exact ⟨rfl, rr.append (.cons r .nil)⟩
/-- a dict's item is stored, by values -/
theorem set_dict (hu : X.A.units + 1 < cLine) : PSet X (fun o i v H Q => ∃ a H', o = .ref a ∧ DPut H a i v H' ∧ Q H') := by
  intro pins s σ H o i v ov iv u Q I ro ri rv h
  obtain ⟨a, H', rfl, g, q⟩ := h
  obtain rfl : ov = Value.ref a := ro
  exact d_setItem hu I g ri rv fun s' I' => ⟨H', I', q⟩
theorem PSet.any : PSet X (fun o i v H Q => ∃ t, PSet X t ∧ t o i v H Q) := fun pins s σ H o i v ov iv u Q I ro ri rv ⟨t, ht, q⟩ => ht pins s σ H o i v ov iv u Q I ro ri rv q
theorem putO_ok (hu : X.A.units + 1 < cLine) {so so' : SO} {p : Addr} {k d : D} {y v : V} {u : HO} (r : RepO X.K F ρ (fun _ => some u) p so) (hp : H p = some u) (ry : Rep X.K F ρ y k) (rv : Rep X.K F ρ v d) (h : putO so k d = some so') :
    so.plain = true ∧ so'.plain = true ∧ ∃ u', (∀ x, u' ≠ .own x) ∧ (∀ P', P' p = some u' → RepO X.K F ρ P' p so') ∧ ∀ Q : Hp → Prop, Q (upd H p u') → ∃ t, PSet X t ∧ t (.ref p) y v H Q := by
  cases so with
  | lst xs =>
    obtain ⟨vs, e, r⟩ := r
    cases e
    cases ry with
    | int j =>
      have h2 : (ixN xs.length j).map (fun n => SO.lst (xs.set n d)) = some so' := h
      cases ej : ixN xs.length j with
      | none => rw [ej] at h2; cases h2
      | some n =>
        rw [ej] at h2; cases h2
        exact ⟨rfl, rfl, _, (by intro _ z; cases z), fun P' hP => ⟨_, hP, r.set rv n⟩, fun Q q => ⟨_, set_list, p, vs, j, n, rfl, rfl, hp, by rw [r.length]; exact ej, q⟩⟩
    | _ => cases h
  | dic kvs =>
    obtain ⟨vs, e, r1, r2⟩ := r
    cases e
    have hl : vs.length = kvs.length := by have := congrArg List.length r1; simpa using this
    cases ry with
    | int j =>
      unfold putO at h
      dsimp only at h
      split at h
      · rename_i hz
        cases h
        obtain ⟨z1, z2⟩ := kv_put (k := (Sum.inl j : Key)) rv r1 r2
        exact ⟨rfl, rfl, _, (by intro _ z; cases z), fun P' hP => ⟨_, hP, z1, z2⟩, fun Q q => ⟨_, set_dict hu, p, _, rfl, DPut.k (k := Sum.inl j) hp (by rw [hl]; exact hz), q⟩⟩
      · cases h
    | str j =>
      unfold putO at h
      dsimp only at h
      split at h
      · rename_i hz
        cases h
        obtain ⟨z1, z2⟩ := kv_put (k := (Sum.inr j : Key)) rv r1 r2
        exact ⟨rfl, rfl, _, (by intro _ z; cases z), fun P' hP => ⟨_, hP, z1, z2⟩, fun Q q => ⟨_, set_dict hu, p, _, rfl, DPut.k (k := Sum.inr j) hp (by rw [hl]; exact hz), q⟩⟩
      · cases h
    | _ => cases h
  | dct kvs => cases ry <;> cases h
  | ins c fs => cases ry <;> cases h
/-- x[i] = e, x's own object -/
def isetO (n : Nat) (mi me : M D) : M Fl := M.bind me fun v => fun b => match b.t[n]? with
  | some (some (.own _)) => M.bind mi (fun k => fun b => match b.t[n]? with
    | some (some (.own so)) => (match putO so k v with
      | some so' => .ok .nx { b with t := b.t.set n (some (.own so')) }
      | none => .fail)
    | _ => .fail) b
  | _ => .fail
def isetP (mo mi me : M D) : M Fl := M.bind me fun v => M.bind mo fun x => M.bind mi fun k => fun b => match x with
  | .ptr kk => (match b.g.S kk with
    | some so => (match putO so k v with
      | some so' => .ok .nx { b with g := b.g.put kk so' }
      | none => .fail)
    | none => .fail)
  | _ => .fail
theorem sg_sub' {to ti : TE} {value : Expr} {tv : TE} (hv : PE X value tv) (ho : PE X o to) (hi : PE X i ti) {pos' : Pos}
    (ha : ∀ v, assign (.Subscript o i pos') X.env v = (do
      let ov ← holding [v] (eval o X.env)
      let iv ← holding [v, ov] (eval i X.env)
      standAt pos'
      holding [v, ov, iv] (setItem ov iv v)
      release [v, ov, iv] [])) (hs : swapsWithSole [.Subscript o i pos'] value pos.line X.env = pure false) (hw : swappedStores [.Subscript o i pos'] value X.env = pure none)
    (h1 : (assignEach [.Subscript o i pos'] X.env).map (·.2) = [assign (.Subscript o i pos') X.env]) :
    PS X (.Assign [.Subscript o i pos'] value pos) (fun D σ H => tv σ H fun v H1 => to σ H1 fun x H2 => ti σ H2 fun y H3 => ∃ t, PSet X t ∧ t x y v H3 fun H4 => D.nx σ H4) :=
  ps_asg hv (pg_sub ho hi PSet.any ha) hs hw h1
theorem ss_isetO {n : Nat} {x : Str} {p pos' : Pos} {value : Expr} (hu : X.A.units + 1 < cLine) (hv : SE X W value me) (hx : PE X (.Name x p) (tVar n)) (hi : SE X W i mi)
    (ha : ∀ v, assign (.Subscript (.Name x p) i pos') X.env v = (do
      let ov ← holding [v] (eval (.Name x p) X.env)
      let iv ← holding [v, ov] (eval i X.env)
      standAt pos'
      holding [v, ov, iv] (setItem ov iv v)
      release [v, ov, iv] []) := by intro _; rfl) (hs : swapsWithSole [.Subscript (.Name x p) i pos'] value pos.line X.env = pure false := by rfl) (hw : swappedStores [.Subscript (.Name x p) i pos'] value X.env = pure none := by rfl)
    (h1 : (assignEach [.Subscript (.Name x p) i pos'] X.env).map (·.2) = [assign (.Subscript (.Name x p) i pos') X.env] := by rfl) : SS X W (.Assign [.Subscript (.Name x p) i pos'] value pos) (isetO n mi me) :=
  SS.of (sg_sub' hv hx hi ha hs hw h1) fun σ H F P0 Mm ρ b D B q => sM_then B q fun v d F1 M1 r1 b1 H1 l1 e1 B1 q1 h1 => by
    try dsimp only at h1
    split at h1
    · rename_i so0 e0
      obtain ⟨xv, hxv⟩ := B1.slotV e0
      refine ⟨xv, hxv, sM_then B1 h1 fun y k F2 M2 r2 b2 H2 l2 e2 B2 q2 h2 => ?_⟩
      split at h2
      · rename_i so e3
        split at h2
        · rename_i so' ep
          obtain ⟨p, u, rfl, hp, ru, pl⟩ := B2.ownV e3 hxv
          obtain ⟨_, pl', u', nu, hn, hq⟩ := putO_ok hu ru hp q2 (q1.mono l2 e2) ep
          obtain ⟨p3, u3, y1, y2, y3, _, _, y4⟩ := B2.chg (u' := u') e3 pl'
          rw [hxv] at y1; cases y1
          exact hq _ (PostS.nxt (W := W) h2 (y4 hn))
        · exact h2.elim
      · exact h2.elim
    · exact h1.elim
theorem ss_isetP {pos' : Pos} {value : Expr} (hu : X.A.units + 1 < cLine) (hv : SE X W value me) (ho : SE X W o mo) (hi : SE X W i mi)
    (ha : ∀ v, assign (.Subscript o i pos') X.env v = (do
      let ov ← holding [v] (eval o X.env)
      let iv ← holding [v, ov] (eval i X.env)
      standAt pos'
      holding [v, ov, iv] (setItem ov iv v)
      release [v, ov, iv] []) := by intro _; rfl) (hs : swapsWithSole [.Subscript o i pos'] value pos.line X.env = pure false := by rfl) (hw : swappedStores [.Subscript o i pos'] value X.env = pure none := by rfl)
    (h1 : (assignEach [.Subscript o i pos'] X.env).map (·.2) = [assign (.Subscript o i pos') X.env] := by rfl) : SS X W (.Assign [.Subscript o i pos'] value pos) (isetP mo mi me) :=
  SS.of (sg_sub' hv ho hi ha hs hw h1) fun σ H F P0 Mm ρ b D B q => sM_then B q fun v d F1 M1 r1 b1 H1 l1 e1 B1 q1 h1 => sM_then B1 h1 fun x a F2 M2 r2 b2 H2 l2 e2 B2 q2 h2 => sM_then B2 h2 fun y k F3 M3 r3 b3 H3 l3 e3 B3 q3 h3 => by
    cases q2 with
    | ptr hk =>
      rename_i p kk
      dsimp only at h3
      split at h3
      · rename_i so e4
        split at h3
        · rename_i so' ep
          have pl : so.plain = true := by
            cases so with
            | ins c fs => cases k <;> cases ep
            | _ => rfl
          obtain ⟨a1, u1, z1, _, z2, z3, _⟩ := B3.put (so' := .lst []) (u' := .lst []) e4 pl rfl
          rw [e3 _ _ hk] at z1; cases z1
          obtain ⟨_, pl', u', nu, hn, hq⟩ := putO_ok hu z3 z2 q3 ((q1.mono l2 e2).mono l3 e3) ep
          obtain ⟨a2, u2, w1, _, _, _, _, w2⟩ := B3.put (so' := so') (u' := u') e4 pl pl'
          rw [e3 _ _ hk] at w1; cases w1
          exact hq _ (PostS.nxt (W := W) h3 (w2 nu hn))
        · exact h3.elim
      · exact h3.elim
    | _ => exact h3.elim
/-! ### o.f = v -/
def dputF (f : Str) (v : D) : List (Str × D) → List (Str × D)
  | [] => [(f, v)]
  | (g, x) :: r => if g = f then (g, v) :: r else (g, x) :: dputF f v r
theorem fs_put {f : Str} {v : V} {d : D} (r : Rep K F ρ v d) : ∀ {vs : List (Str × V)} {ds : List (Str × D)}, vs.map (·.1) = ds.map (·.1) → RepAll K F ρ (vs.map (·.2)) (ds.map (·.2)) →
    (putF f v vs).map (·.1) = (dputF f d ds).map (·.1) ∧ RepAll K F ρ ((putF f v vs).map (·.2)) ((dputF f d ds).map (·.2))
  | [], [], _, _ => ⟨rfl, .cons r .nil⟩
  | [], _ :: _, h, _ => by simp at h
  | _ :: _, [], h, _ => by simp at h
  | (k1, v1) :: vs, (k2, d1) :: ds, h, rr => by
    simp only [List.map_cons, List.cons.injEq] at h
    obtain ⟨h1, h2⟩ := h
    subst h1
    cases rr with
    | cons r1 rr =>
      obtain ⟨i1, i2⟩ := fs_put (f := f) r h2 rr
      unfold putF dputF
      split
      · exact ⟨by simp only [List.map_cons, h2], .cons r rr⟩
      · exact ⟨by simp only [List.map_cons, i1], .cons r1 i2⟩
def fsetM (c f : Str) (mo me : M D) : M Fl := M.bind me fun v => M.bind mo fun x => fun b => match x with
  | .ptr k => (match b.g.S k with
    | some (.ins c' fs) => if c' = c ∧ fs.length < 1000 then .ok .nx { b with g := b.g.put k (.ins c (dputF f v fs)) } else .fail
    | _ => .fail)
  | _ => .fail
theorem ss_fset {c f : Str} {pos' : Pos} {value : Expr} (ho : SE X W o mo) (hv : SE X W value me) (cl : Cls X.K (ga X.K c)) (na : NoAttr X.K (ga X.K c) f) (hs : swapsWith value (some (.Attribute o f pos')) pos.line X.env = pure false := by rfl) : SS X W (.Assign [.Attribute o f pos'] value pos) (fsetM c f mo me) :=
  SS.of (ps_fld ho hv hs) fun σ H F P0 Mm ρ b D B q => sM_then B q fun v d F1 M1 r1 b1 H1 l1 e1 B1 q1 h1 => sM_then B1 h1 fun x a F2 M2 r2 b2 H2 l2 e2 B2 q2 h2 => by
    cases q2 with
    | ptr hk =>
      rename_i p k
      dsimp only at h2
      split at h2
      · rename_i c' fs e3
        split at h2
        · rename_i hc
          obtain ⟨hc, hz⟩ := hc
          subst hc
          obtain ⟨P, q, BB⟩ := B2
          obtain ⟨a', dx, vs, y1, y2, y3, y4, y5, y6⟩ := BB.h.insAt e3
          rw [hk] at y1; cases y1
          have hl : vs.length = fs.length := by have := congrArg List.length y5; simpa using this
          obtain ⟨z1, z2⟩ := fs_put (f := f) (q1.mono l2 e2) y5 y6
          refine ⟨p, _, dx, vs, rfl, y4, cl, na, by rw [hl]; exact hz, PostS.nxt (W := W) h2 ⟨P, q, BB.h.putI e3 hk y2 y3 z1 z2, BB.pp, BB.len, BB.qi, BB.sl⟩⟩
        · exact h2.elim
      · exact h2.elim
    | _ => exact h2.elim
end
end L2.VI
/-! VI11: built-in functions; displays of dicts. -/
namespace L2.VI
open PySem PySem.Spec PyProof.Rows He

section
variable {X : Cx} {W : WX} {pos apos cpos : Pos} {o i e : Expr} {es : List Expr} {mo mi me : M D} {mas : M (List D)}
variable {K : PySem.W.Frag} {F P0 Mm H : Hp} {ρ : Rho} {bs : BSt} {σ : St}
/-! ### len -/
def lenD : List D → M D
  | [.str y] => guardM (y.length ≤ sizeLine) (M.ret (.int y.length))
  | [.tup ds] => M.ret (.int ds.length)
  | [.lst ds] => M.ret (.int ds.length)
  | [.scr ns] => M.ret (.int ns.length)
  | _ => M.fail
theorem cv_len : CallV X W (.builtin "len") lenD := by
  intro xs as σ H F P0 Mm ρ b Q B r h
  refine ⟨_, call_len, ?_⟩
  unfold lenD at h
  split at h
  · obtain ⟨h1, h⟩ := h.guard
    cases r with | cons r rr => cases rr; cases r; exact ⟨_, _, rfl, ⟨h1, rfl⟩, h.now B (.int _)⟩
  · cases r with | cons r rr => cases rr; cases r with | tup h1 h2 => exact ⟨_, _, rfl, .inr ⟨_, Rep.sqT (P := fun _ => none) B h1, rfl⟩, by rw [h2.length]; exact h.now B (.int _)⟩
  · cases r with | cons r rr => cases rr; cases r with | lst h1 h2 => exact ⟨_, _, rfl, .inl ⟨_, .inl (.inl (B.lstAt h1)), rfl⟩, by rw [h2.length]; exact h.now B (.int _)⟩
  · cases r with | cons r rr => cases rr; cases r with | scr h1 => exact ⟨_, _, rfl, .inl ⟨_, B.sqL h1, rfl⟩, by rw [List.length_map]; exact h.now B (.int _)⟩
  · exact h.elim
/-- len(x), x's own list is not frozen by it -/
def lenV (n : Nat) : M D := fun b => match b.t[n]? with
  | some (some (.own (.lst xs))) => .ok (.int xs.length) b
  | some (some (.val d)) => lenD [d] b
  | _ => .fail
theorem se_lenV {n : Nat} {x : Str} {p p2 : Pos} (hx : PE X (.Name x p2) (tVar n)) (hm : X.mg "len" = none) (hg : Gl X "len" := by rfl)
    (he : starEach [.Name x p2] X.env = (false, eval (.Name x p2) X.env) :: starEach [] X.env := by rfl) : SE X W (.Call (.Name "len" p) [.Name x p2] [] pos) (lenV n) :=
  SE.of (pe_callB CallR.any hg hm boot_len (pa_cons hx pa_nil he) (by decide) (by decide) he) fun σ H F P0 Mm ρ bs Q B q => by
    unfold lenV at q
    split at q
    · rename_i xs e
      obtain ⟨v, hv⟩ := B.slotV e
      obtain ⟨p, u, rfl, hp, ru, pl⟩ := B.ownV e hv
      obtain ⟨vs, z, rr⟩ := ru
      cases z
      exact ⟨_, hv, _, call_len, _, _, rfl, .inl ⟨_, .inl (.inl hp), rfl⟩, by rw [rr.length]; exact q.now B (.int _)⟩
    · rename_i d e
      obtain ⟨v, hv⟩ := B.slotV e
      exact ⟨_, hv, cv_len (W := W) [v] [d] σ H F P0 Mm ρ bs Q B (.cons (B.valV e hv) .nil) q⟩
    · exact q.elim
/-! ### min, max of two; int; repr -/
def min2D : List D → M D
  | [.int i, .int j] => M.ret (.int (if j < i then j else i))
  | _ => M.fail
def max2D : List D → M D
  | [.int i, .int j] => M.ret (.int (if j > i then j else i))
  | _ => M.fail
theorem cv_min2 (hc : X.calm = true := by rfl) : CallV X W (.builtin "min") min2D := by
  intro xs as σ H F P0 Mm ρ b Q B r h
  refine ⟨_, call_min2 hc, ?_⟩
  unfold min2D at h
  split at h
  · cases r with | cons r rr => cases rr with | cons r2 rr => cases rr; cases r; cases r2; exact ⟨_, _, rfl, h.now B (.int _)⟩
  · exact h.elim
theorem cv_max2 (hc : X.calm = true := by rfl) : CallV X W (.builtin "max") max2D := by
  intro xs as σ H F P0 Mm ρ b Q B r h
  refine ⟨_, call_max2 hc, ?_⟩
  unfold max2D at h
  split at h
  · cases r with | cons r rr => cases rr with | cons r2 rr => cases rr; cases r; cases r2; exact ⟨_, _, rfl, h.now B (.int _)⟩
  · exact h.elim
def intD : List D → M D
  | [.int i] => M.ret (.int i)
  | [.bl k] => M.ret (.int (if k then 1 else 0))
  | _ => M.fail
theorem cv_int : CallV X W (.type "int") intD := by
  intro xs as σ H F P0 Mm ρ b Q B r h
  refine ⟨_, call_int1, ?_⟩
  unfold intD at h
  split at h
  · cases r with | cons r rr => cases rr; cases r; exact .inl ⟨_, rfl, h.now B (.int _)⟩
  · cases r with | cons r rr => cases rr; cases r; exact .inr ⟨_, rfl, h.now B (.int _)⟩
  · exact h.elim
theorem cr_repr : CallR X (.builtin "repr") (fun xs H Q => (∃ i, xs = [.int i] ∧ i.natAbs.log2 < 1920 ∧ Q (.str (toString i)) H) ∨ (∃ k : Bool, xs = [.bl k] ∧ Q (.str (if k then "True" else "False")) H) ∨ xs = [.non] ∧ Q (.str "None") H) := by
  intro pins s σ H xs us Q I r h
  rcases h with ⟨i, rfl, hz, q⟩ | ⟨k, rfl, q⟩ | ⟨rfl, q⟩
  · obtain ⟨u, rfl, t, rfl⟩ := vals1 r
    exact PySem.P.repr_of_int hz ⟨.str _, H, I.tok _, ⟨_, rfl⟩, q⟩
  · obtain ⟨u, rfl, r1⟩ := vals1 r
    cases r1
    exact PySem.P.repr_of_bool ⟨.str _, H, I.tok _, ⟨_, rfl⟩, q⟩
  · obtain ⟨u, rfl, r1⟩ := vals1 r
    cases r1
    exact PySem.P.repr_of_none ⟨.str _, H, I.tok _, ⟨_, rfl⟩, q⟩
def reprD : List D → M D
  | [.int i] => guardM (i.natAbs.log2 < 1920) (M.ret (.str (toString i)))
  | [.bl k] => M.ret (.str (if k then "True" else "False"))
  | [.non] => M.ret (.str "None")
  | _ => M.fail
theorem cv_repr : CallV X W (.builtin "repr") reprD := by
  intro xs as σ H F P0 Mm ρ b Q B r h
  refine ⟨_, cr_repr, ?_⟩
  unfold reprD at h
  split at h
  · obtain ⟨h1, h⟩ := h.guard
    cases r with | cons r rr => cases rr; cases r; exact .inl ⟨_, rfl, h1, h.now B (.str _)⟩
  · cases r with | cons r rr => cases rr; cases r; exact .inr (.inl ⟨_, rfl, h.now B (.str _)⟩)
  · cases r with | cons r rr => cases rr; cases r; exact .inr (.inr ⟨rfl, h.now B (.str _)⟩)
  · exact h.elim
/-! ### list(x): a new list -/
def toLst : List D → Option SO
  | [.lst ds] => some (.lst ds)
  | [.tup ds] => some (.lst ds)
  | [.scr ns] => some (.lst (ns.map D.int))
  | _ => none
def listN (ms : M (List D)) : M SO := M.bind ms fun ds => optM (toLst ds)
theorem PostF.opt {o : Option SO} {Q : VK} (h : PostF K W P0 F ρ σ Q (optM o bs)) : ∃ a, o = some a ∧ PostF K W P0 F ρ σ Q (.ok a bs) := by
  cases o with
  | none => exact h.elim
  | some a => exact ⟨a, rfl, h⟩
theorem sn_list {x : Str} {p : Pos} (hm : X.mg "list" = none) (ha : SA X W [e] mas) (hg : Gl X "list" := by rfl)
    (he : starEach [e] X.env = (false, eval e X.env) :: starEach [] X.env := by rfl) : SN X W (.Call (.Name "list" p) [e] [] pos) (listN mas) :=
  SN.of (pe_callTy call_list_of hg hm (by decide +kernel) ha (by decide) (by decide) he) fun σ H F P0 Mm ρ bs Q B q => tM_thenF B q fun xs ds F1 M1 r1 b1 H1 l1 e1 B1 q1 h1 => by
    obtain ⟨so, ho, h1⟩ := h1.opt
    unfold toLst at ho
    split at ho
    · cases ho
      cases q1 with | cons r rr => cases rr; cases r with | lst h2 h3 => exact ⟨_, _, rfl, .inl (.inl (.inl (B1.lstAt h2))), fun l hl => h1.now B1 hl (fun P' hp => ⟨_, hp, h3⟩) rfl⟩
    · cases ho
      cases q1 with | cons r rr => cases rr; cases r with | tup h2 h3 => exact ⟨_, _, rfl, .inr (Rep.sqT (P := fun _ => none) B1 h2), fun l hl => h1.now B1 hl (fun P' hp => ⟨_, hp, h3⟩) rfl⟩
    · cases ho
      cases q1 with | cons r rr => cases rr; cases r with | scr h2 => exact ⟨_, _, rfl, .inl (B1.sqL h2), fun l hl => h1.now B1 hl (fun P' hp => ⟨_, hp, RepAll.of_ints _⟩) rfl⟩
    · cases ho
/-! ### isinstance -/
/-- a value's type: a built-in one, or a class of the module -/
def tyD (d : D) (g : GSt) : Option (String ⊕ Str) := match d with
  | .non => some (.inl "NoneType")
  | .bl _ => some (.inl "bool")
  | .int _ => some (.inl "int")
  | .str _ => some (.inl "str")
  | .tup _ => some (.inl "tuple")
  | .lst _ => some (.inl "list")
  | .dic _ => some (.inl "dict")
  | .ptr k => (match g.S k with
    | some (.lst _) => some (.inl "list")
    | some (.dic _) => some (.inl "dict")
    | some (.dct _) => some (.inl "dict")
    | some (.ins c _) => some (.inr c)
    | none => none)
  | _ => none
def isiM (cd : D → Bool) (subs : String → Bool) (own : List (Str × Bool)) : List D → M D
  | [x, c] => fun b => if cd c = true then (match tyD x b.g with
    | some (.inl t) => .ok (.bl (subs t)) b
    | some (.inr c) => (match own.lookup c with
      | some k => .ok (.bl k) b
      | none => .fail)
    | none => .fail) else .fail
  | _ => M.fail
def tyNames : List String := ["NoneType", "bool", "int", "str", "tuple", "list", "dict"]
structure ClsI (K : PySem.W.Frag) (c : Str) : Prop where
  cl : Cls K (ga K c)
  ha : PySem.W.findIn K (.ref (ga K c)) "__class__" = some (some (.builtin "object.__class__"))
  hn : PySem.W.specialIn K (.builtin "object.__class__") "__get__" = some (some (.builtin "getset_descriptor.__get__"))
  htk : PySem.W.takesIn K (.builtin "object.__class__") = some true
  hm : PySem.W.mroIn K (ga K c) (.type "object") = some true
def tyVal (K : PySem.W.Frag) : String ⊕ Str → Value
  | .inl t => .type t
  | .inr c => .ref (ga K c)
theorem tyX_of {x : V} {d : D} {t : String ⊕ Str} (B : BRel K F P0 Mm ρ bs σ H) (r : Rep K F ρ x d) (h : tyD d bs.g = some t) (hc : ∀ c, t = .inr c → ClsI K c) : TyX K H x (tyVal K t) ∧ (∀ n, t = .inl n → n ∈ tyNames) := by
  have lk : ∀ {a : Addr} {vs : List V}, SqT K H a vs → TyX K H (.ref a) (.type "tuple") := by
    intro a vs h
    rcases h with h | ⟨o, its, n, h1, h2, h3⟩
    · rcases h with h | ⟨o, h⟩
      · exact .base (.tup h)
      · exact .fTuple h
    · exact .kTuple h1 h2
  cases r with
  | non => cases h; exact ⟨.base .non, fun n e => by cases e; decide⟩
  | bl b => cases h; exact ⟨.base (.bl b), fun n e => by cases e; decide⟩
  | int i => cases h; exact ⟨.base (.int i), fun n e => by cases e; decide⟩
  | str i => cases h; exact ⟨.base (.str i), fun n e => by cases e; decide⟩
  | ty n => cases h
  | glo x => cases h
  | tup h1 h2 => cases h; exact ⟨lk (Rep.sqT (P := fun _ => none) B h1), fun n e => by cases e; decide⟩
  | lst h1 h2 => cases h; exact ⟨.base (.lst (B.lstAt h1)), fun n e => by cases e; decide⟩
  | dic h1 h2 h3 =>
    cases h
    refine ⟨?_, fun n e => by cases e; decide⟩
    rcases B.dicAt h1 with h | ⟨o, h⟩
    · exact .base (.dK h)
    · exact .fDict h
  | scr h1 => cases h
  | ptr hk =>
    rename_i a k
    unfold tyD at h
    dsimp only at h
    obtain ⟨P, q, BB⟩ := id B
    split at h
    · rename_i xs e
      cases h
      obtain ⟨a', h1, vs, h2, h3⟩ := BB.h.st k _ e
      rw [hk] at h1; cases h1
      exact ⟨.base (.lst (BB.h.mh _ _ h2)), fun n e => by cases e; decide⟩
    · rename_i xs e
      cases h
      obtain ⟨a', h1, vs, h2, h3⟩ := BB.h.st k _ e
      rw [hk] at h1; cases h1
      exact ⟨.base (.dK (BB.h.mh _ _ h2)), fun n e => by cases e; decide⟩
    · rename_i xs e
      cases h
      obtain ⟨a', h1, vs, h2, h3⟩ := BB.h.st k _ e
      rw [hk] at h1; cases h1
      exact ⟨.base (.dT (BB.h.mh _ _ h2)), fun n e => by cases e; decide⟩
    · rename_i c fs e
      cases h
      obtain ⟨a', h1, dx, vs, h2, h3⟩ := BB.h.st k _ e
      rw [hk] at h1; cases h1
      have c0 := hc c rfl
      exact ⟨.base (.ins (BB.h.mh _ _ h2) c0.cl c0.ha c0.hn c0.htk c0.hm), fun n e => by cases e⟩
    · cases h
theorem cv_isi {cd : D → Bool} {subs : String → Bool} {own : List (Str × Bool)} {u : Value} (hcd : ∀ c, cd c = true → (∃ n, c = .ty n ∧ u = .type n) ∨ ∃ x, c = .glo x ∧ u = .ref (ga X.K x))
    (hs : ∀ n, n ∈ tyNames → PySem.W.kitOne X.K (.type n) u = some (subs n)) (ho : ∀ p ∈ own, ClsI X.K p.1 ∧ PySem.W.kitOne X.K (.ref (ga X.K p.1)) u = some p.2) : CallV X W (.builtin "isinstance") (isiM cd subs own) := by
  intro xs as σ H F P0 Mm ρ b Q B r h
  refine ⟨_, call_isi, ?_⟩
  unfold isiM at h
  split at h
  · rename_i x c
    split at h
    · rename_i hc
      cases r with
      | cons rx rr =>
        cases rr with
        | cons rc rr =>
          cases rr
          have hC : ∀ v, Rep X.K F ρ v c → ClsV v u := by
            intro v rv
            rcases hcd c hc with ⟨n, rfl, rfl⟩ | ⟨y, rfl, rfl⟩
            · cases rv; exact .ty n
            · cases rv; exact .own _
          cases ht : tyD x b.g with
          | none => rw [ht] at h; exact h.elim
          | some t =>
            rw [ht] at h
            cases t with
            | inl n =>
              obtain ⟨t1, t2⟩ := tyX_of B rx ht fun c e => nomatch e
              exact ⟨_, _, _, u, _, rfl, hC _ rc, t1, hs n (t2 n rfl), h.now B (.bl _)⟩
            | inr y =>
              dsimp only at h
              split at h
              · rename_i k ek
                have hm : (y, k) ∈ own := by
                  clear h ht ho
                  induction own with
                  | nil => cases ek
                  | cons p own ih =>
                    obtain ⟨p1, p2⟩ := p
                    rw [List.lookup_cons] at ek
                    split at ek
                    · rename_i he
                      have := eq_of_beq he
                      cases ek; subst this
                      exact List.mem_cons_self ..
                    · exact List.mem_cons_of_mem _ (ih ek)
                obtain ⟨c1, c2⟩ := ho _ hm
                obtain ⟨t1, _⟩ := tyX_of B rx ht fun c e => by cases e; exact c1
                exact ⟨_, _, _, u, _, rfl, hC _ rc, t1, c2, h.now B (.bl _)⟩
              · exact h.elim
    · exact h.elim
  · exact h.elim
/-! ### {k: v, ..} -/
def seqL : List (M D) → M (List D)
  | [] => M.ret []
  | m :: ms => consM m (seqL ms)
def pairT (K : PySem.W.Frag) (W : WX) : List Key → List (M D) → List (TE × TE)
  | k :: ks, m :: ms => (fun σ H Q => Q (kV k) H, tE K W m) :: pairT K W ks ms
  | _, _ => []
theorem pp_nil : PPs X pos [] [] (pairT X.K W [] []) := pps_nil
theorem pp_str {k : Str} {pk : Pos} {j : Nat} {v : Expr} {ks : List (Option Expr)} {vs : List Expr} {qs : List Key} {m : M D} {ms : List (M D)} (hv : SE X W v m) (hr : PPs X pos ks vs (pairT X.K W qs ms)) :
    PPs X pos (some (.Constant (.str k) j pk) :: ks) (v :: vs) (pairT X.K W (.inr k :: qs) (m :: ms)) := pps_cons pe_str hv hr
theorem pp_int {k : Int} {pk : Pos} {j : Nat} {v : Expr} {ks : List (Option Expr)} {vs : List Expr} {qs : List Key} {m : M D} {ms : List (M D)} (hv : SE X W v m) (hr : PPs X pos ks vs (pairT X.K W qs ms)) :
    PPs X pos (some (.Constant (.int k) j pk) :: ks) (v :: vs) (pairT X.K W (.inl k :: qs) (m :: ms)) := pps_cons pe_int hv hr
theorem pairs_of {ks : List Key} {ms : List (M D)} : ∀ {F Mm H : Hp} {ρ : Rho} {b : BSt} {Q : List V → Hp → Prop} {R : List (V × V) → Hp → Prop}, ks.length = ms.length → BRel K F P0 Mm ρ b σ H → Post (RepAll K) K W P0 F ρ σ Q (seqL ms b) →
    (∀ vs H2, vs.length = ks.length → Q vs H2 → R ((ks.zip vs).map fun kv => (kV kv.1, kv.2)) H2) → tPairs (pairT K W ks ms) σ H R := by
  induction ms generalizing ks with
  | nil =>
    intro F Mm H ρ b Q R hl B h hR
    cases ks with
    | nil => exact hR [] H rfl (h.now B .nil)
    | cons _ _ => cases hl
  | cons m ms ih =>
    intro F Mm H ρ b Q R hl B h hR
    cases ks with
    | nil => cases hl
    | cons k ks =>
      have hl' : ks.length = ms.length := Nat.succ.inj hl
      refine tM_then B h fun x d F1 M1 r1 b1 H1 l1 e1 B1 q1 h1 => ?_
      have h2 : Post (RepAll K) K W P0 F1 r1 σ (fun vs H2 => Q (x :: vs) H2) (seqL ms b1) := by
        unfold M.bind at h1
        cases es : seqL ms b1 with
        | ok a b' =>
          rw [es] at h1
          exact fun y F' M' ρ' H' l r B' q => h1 (x :: y) F' M' ρ' H' l r B' (.cons (q1.mono l r) q)
        | exc y b' => rw [es] at h1; exact h1
        | fail => rw [es] at h1; exact h1.elim
      exact ih (ks := ks) hl' B1 h2 fun vs H2 a1 a3 => hR (x :: vs) H2 (congrArg Nat.succ a1) a3
def mergeD (kvs : List (Key × D)) (more : List (Key × D)) : List (Key × D) := more.foldl (fun acc kv => dput acc kv.1 kv.2) kvs
theorem merge_kv : ∀ {ks : List Key} {vs : List V} {ds : List D} {kvs : List (Key × V)} {kds : List (Key × D)}, RepAll K F ρ vs ds → kvs.map (·.1) = kds.map (·.1) → RepAll K F ρ (kvs.map (·.2)) (kds.map (·.2)) →
    (mergeK kvs (ks.zip vs)).map (·.1) = (mergeD kds (ks.zip ds)).map (·.1) ∧ RepAll K F ρ ((mergeK kvs (ks.zip vs)).map (·.2)) ((mergeD kds (ks.zip ds)).map (·.2))
  | [], _, _, _, _, _, h1, h2 => ⟨by simpa [mergeK, mergeD] using h1, by simpa [mergeK, mergeD] using h2⟩
  | _ :: _, [], [], _, _, _, h1, h2 => ⟨by simpa [mergeK, mergeD] using h1, by simpa [mergeK, mergeD] using h2⟩
  | k :: ks, v :: vs, d :: ds, kvs, kds, .cons r rr, h1, h2 => by
    obtain ⟨z1, z2⟩ := kv_put (k := k) r h1 h2
    exact merge_kv (ks := ks) rr z1 z2
/-- a fresh object is changed -/
theorem Frs.chgF {p : Addr} {so so' : SO} {u u' : HO} (h : Frs K F P0 Mm ρ bs σ H p so) (hn : ∀ P', P' p = some u' → RepO K F ρ P' p so') (pl : so'.plain = true) : Frs K F P0 Mm ρ bs σ (upd H p u') p so' := by
  obtain ⟨P, q, B, r, pl0, n0, nq⟩ := h
  obtain ⟨w, hw, _⟩ := id r.there
  refine ⟨upd P p u', q, ⟨B.h.setP hw, fun a w e => ?_, B.len, B.qi, fun i s e => ?_⟩, hn _ upd_same, pl, n0, nq⟩
  · have : a ≠ p := fun z => by subst z; rw [n0] at e; cases e
    rw [upd_ne this]; exact B.pp a w e
  · refine (B.sl i s e).mono (Leq.refl _) (Rle.refl _) fun a ea => ⟨ea, fun w z => ?_⟩
    have : a ≠ p := fun z => nq i (by rw [← z]; exact ea)
    rw [upd_ne this]; exact z
def dispN (ks : List Key) (ms : List (M D)) : M SO := M.bind (seqL ms) fun ds => M.ret (.dic (mergeD [] (ks.zip ds)))
theorem sn_disp {keys : List (Option Expr)} {values : List Expr} {ks : List Key} {ms : List (M D)} (h : PPs X pos keys values (pairT X.K W ks ms)) (hk : ks.length = ms.length := by rfl) (hz : ks.length ≤ 15 := by decide)
    (hall : keys.all (·.isSome) = true := by rfl) (hl : keys.length = values.length := by rfl) (h0 : keys ≠ [] := by exact List.cons_ne_nil _ _) (h15 : keys.length ≤ 15 := by decide) : SN X W (.Dict keys values pos) (dispN ks ms) :=
  SN.of (pe_disp h hall hl h0 h15) fun σ H F P0 Mm ρ b Q B q p hp => by
    have fr : Frs X.K F P0 Mm ρ b σ (upd H p (.dK [])) p (.dic []) := B.fresh (u := .dK []) hp (fun P' h => ⟨[], h, rfl, .nil⟩) rfl
    obtain ⟨u, Bp, ru, n0, pl⟩ := fr.prot
    obtain ⟨z0, z1, z2, z3⟩ := id ru
    have eu : u = .dK [] := by
      obtain ⟨vs, e1, e2, _⟩ := id ru
      cases vs with
      | nil => exact Option.some.inj e1
      | cons _ _ => cases e2
    subst eu
    have q2 : Post (RepAll X.K) X.K W (upd P0 p (.dK [])) F ρ σ (fun vs H2 => H2 p = some (.dK []) ∧ (vs.length = ks.length → Q (.ref p) (upd H2 p (.dK (mergeK [] (ks.zip vs)))))) (seqL ms b) := by
      unfold dispN M.bind at q
      cases es : seqL ms b with
      | fail => rw [es] at q; exact q.elim
      | exc y b' =>
        rw [es] at q
        intro cls d F' M' ρ' H' l r B' rx
        obtain ⟨P, qq, BB, _, _, _, _⟩ := B'.unprot (ru.monoP l r pl fun w z => z) n0 pl
        exact q cls d F' M' ρ' H' l r ⟨P, qq, BB⟩ rx
      | ok ds b' =>
        rw [es] at q
        intro vs F' M' ρ' H' l r B' rv
        have fr' := B'.unprot (ru.monoP l r pl fun w z => z) n0 pl
        refine ⟨?_, fun _ => ?_⟩
        · obtain ⟨P, qq, BB⟩ := B'
          exact BB.h.ph _ _ (BB.pp _ _ upd_same)
        · obtain ⟨m1, m2⟩ := merge_kv (ks := ks) (kvs := []) (kds := []) rv rfl .nil
          exact q p F' M' ρ' _ l r (fr'.chgF (u := .dK []) (fun P' hP => ⟨_, hP, m1, m2⟩) rfl)
    refine pairs_of hk Bp q2 fun vs H2 hv hq => ⟨hq.1, ks.zip vs, rfl, ?_, hq.2 hv⟩
    rw [List.length_zip, hv, Nat.min_self]; exact hz
theorem sn_disp0 : SN X W (.Dict [] [] pos) (M.ret (.dic [])) :=
  SN.of pe_dnewK fun σ H F P0 Mm ρ b Q B q p hp => q.now B hp (fun P' h => ⟨[], h, rfl, .nil⟩) rfl
def isTyD (n : String) : D → Bool
  | .ty m => decide (m = n)
  | _ => false
def isGloD (x : Str) : D → Bool
  | .glo y => decide (y = x)
  | _ => false
/-- isinstance(x, T), T a built-in type -/
theorem cv_isiT {T : String} {subs : String → Bool} {own : List (Str × Bool)} (hs : ∀ n, n ∈ tyNames → kitB n T = some (subs n) := by decide +kernel) (ho : ∀ p ∈ own, ClsI X.K p.1 ∧ PySem.W.kitOne X.K (.ref (ga X.K p.1)) (.type T) = some p.2) : CallV X W (.builtin "isinstance") (isiM (isTyD T) subs own) :=
  cv_isi (u := .type T) (fun c h => .inl (by
    cases c with
    | ty m => have : m = T := of_decide_eq_true h; subst this; exact ⟨_, rfl, rfl⟩
    | _ => cases h)) (fun n hn => kit_ty (hs n hn)) ho
/-- isinstance(x, C), C a class of the module -/
theorem cv_isiC {C : Str} {own : List (Str × Bool)} (hs : ∀ n, n ∈ tyNames → PySem.W.kitOne X.K (.type n) (.ref (ga X.K C)) = some false) (ho : ∀ p ∈ own, ClsI X.K p.1 ∧ PySem.W.kitOne X.K (.ref (ga X.K p.1)) (.ref (ga X.K C)) = some p.2) : CallV X W (.builtin "isinstance") (isiM (isGloD C) (fun _ => false) own) :=
  cv_isi (u := .ref (ga X.K C)) (fun c h => .inr (by
    cases c with
    | glo m => have : m = C := of_decide_eq_true h; subst this; exact ⟨_, rfl, rfl⟩
    | _ => cases h)) hs ho
end
end L2.VI
/-! VI12: a def's promise from its body; the law's; facts by names. -/
namespace L2.VI
open PySem PySem.Spec PyProof.Rows He

/-- a def: n parameters, sl slots -/
def fnBody (n sl : Nat) (m : M Fl) : FnD := fun ds g => if ds.length = n then (match m ⟨g, ds.map (fun d => some (.val d)) ++ List.replicate (sl - n) none⟩ with
  | .ok .nx b => .ok .non b.g
  | .ok (.ret d) b => .ok d b.g
  | .exc x b => .exc x b.g
  | _ => .fail) else .fail
theorem ar_of {n sl : Nat} {m : M Fl} : Ar (fnBody n sl m) n := fun ds g h => if_neg h
theorem HRel.weak {K : PySem.W.Frag} {F P P0 Mm H : Hp} {ρ : Rho} {g : GSt} (h : HRel K F P Mm ρ g H) (pp : ∀ a u, P0 a = some u → P a = some u) : HRel K F P0 Mm ρ g H := by
  have pn : ∀ a, P a = none → P0 a = none := fun a e => by
    cases q : P0 a with
    | none => rfl
    | some u => have := pp a u q; rw [e] at this; cases this
  exact ⟨h.fh, fun a u e => h.ph a u (pp a u e), h.mh, fun a u e => ⟨pn a (h.fp a u e).1, (h.fp a u e).2⟩, fun a u e => h.pm a u (pp a u e), h.st, h.inj, h.nx, h.rh⟩
theorem BRel.weak {K : PySem.W.Frag} {F P0 Mm H : Hp} {ρ : Rho} {b : BSt} {σ : St} (B : BRel K F P0 Mm ρ b σ H) : HRel K F P0 Mm ρ b.g H := by
  obtain ⟨P, q, B⟩ := B
  exact B.h.weak B.pp
theorem BRel.start {K : PySem.W.Frag} {F P Mm H : Hp} {ρ : Rho} {g : GSt} {vs : List V} {ds : List D} {N : List Str} (h : HRel K F P Mm ρ g H) (r : RepAll K F ρ vs ds) : BRel K F P Mm ρ ⟨g, ds.map (fun d => some (.val d)) ++ List.replicate (N.length - ds.length) none⟩ (L2.start N vs) H := by
  refine ⟨P, fun _ => none, h, fun _ _ e => e, ?_, (fun _ _ _ e => nomatch e), fun i s e => ?_⟩
  · unfold L2.start
    simp [r.length]
  · have e1 : (ds.map (fun d => some (Slot.val d)) ++ List.replicate (N.length - ds.length) none)[i]? = some (some s) := e
    by_cases hi : i < ds.length
    · rw [List.getElem?_append_left (by simpa using hi), List.getElem?_map] at e1
      cases ed : ds[i]? with
      | none => rw [ed] at e1; cases e1
      | some d =>
        rw [ed] at e1
        cases e1
        obtain ⟨v, hv, rv⟩ := r.get ed
        refine ⟨v, ?_, rv⟩
        unfold L2.start
        rw [List.getElem?_append_left (by simpa [r.length] using hi), List.getElem?_map, hv]
        rfl
    · rw [List.getElem?_append_right (by simpa using hi), List.getElem?_replicate] at e1
      split at e1 <;> cases e1
/-- THE RULE of a def -/
theorem fn_okV {P : Program} {w : World} {K : PySem.W.Frag} {mg : Str → Option Value} {base : Heap} {x qual : Str} {params : Arguments} {body : List Stmt} {scope : Scope} {dvs : List V} {kws : List (Str × V)} {f : Addr} {fd : FuncData} {N ps : List Str} {k n sl : Nat} {m : M Fl}
    (F : FunD K x qual params body scope dvs kws f fd) (S : FnScope N ps scope) (hn : ps.length = n) (hs : N.length = sl)
    (hb : ∀ (cdv : Value) (A : Around) (outer : List Env) (s : Shared) (H : Hp) (E : XK), Room k (A.deeper (envOfC qual scope s.heap.objs.size f cdv)) → SSs (cxOf (CV P w) P w K mg base N qual scope f cdv A outer s H E) (fun cls d _ H => E cls d H) body m) :
    FnOk P w K mg base (CV P w) (k + 1) f fd ps (spV K n (fnBody n sl m)) := by
  subst hn hs
  refine F.ok S (fun vs H Q E h => h.1) fun cdv A outer s H vs Q E hr h => ⟨_, hb cdv A outer s H E hr, ?_⟩
  obtain ⟨hl, F0, P0, Mm, ρ, g, ds, hR, r, q⟩ := h
  have hd : ds.length = ps.length := r.length.symm.trans hl
  have B := BRel.start (N := N) hR r
  refine ⟨F0, P0, Mm, ρ, _, B, ?_⟩
  unfold fnBody at q
  rw [if_pos hd, ← hd] at q
  generalize m ⟨g, ds.map (fun d => some (Slot.val d)) ++ List.replicate (N.length - ds.length) none⟩ = z at q ⊢
  cases z with
  | fail => exact q.elim
  | exc x b => exact fun cls d σ' F' M' ρ' H' l r' B' rx => q cls d F' M' ρ' H' l r' B'.weak rx
  | ok fl b =>
    cases fl with
    | nx => exact fun σ' F' M' ρ' H' l r' B' => q .non F' M' ρ' H' l r' B'.weak .non
    | ret d => exact fun v σ' F' M' ρ' H' l r' B' rv => q v F' M' ρ' H' l r' B'.weak rv
    | brk => exact q.elim
    | cnt => exact q.elim
/-- the law's own promise at the script's list -/
theorem sp_law {K : PySem.W.Frag} {m : FnD} {H : Hp} {a : Addr} {ns : List Int} (hO : Only H) (hS : SqL K H a (ns.map V.int)) (h : ∃ g', m [.scr ns] ⟨fun _ => none, 0⟩ = .ok (.bl true) g') :
    spV K 1 m [.ref a] H (fun v _ => v = .bl true) (fun _ _ _ => False) := by
  obtain ⟨g', e⟩ := h
  refine ⟨rfl, H, fun _ => none, fun _ => none, fun _ => none, ⟨fun _ => none, 0⟩, [.scr ns], ⟨fun b u eu => ?_, fun _ _ z => (nomatch z), fun _ _ z => (nomatch z), fun _ _ _ => ⟨rfl, rfl⟩, fun _ _ z => (nomatch z), fun _ _ z => (nomatch z), fun _ _ _ z => (nomatch z), fun _ _ => rfl, fun _ _ z => (nomatch z)⟩, .cons (.scr hS) .nil, ?_⟩
  · rcases hO b with n | ⟨o, xs, n⟩
    · rw [n] at eu; cases eu
    · rw [n] at eu; cases eu; exact n
  · rw [e]
    intro v F' M' ρ' H' l r hh rv
    cases rv
    rfl
/-! ### a def's function object, by its place -/
def fdA (K : PySem.W.Frag) (a : Addr) : FuncData := match K.lookup a with
  | some ⟨_, _, .func fd, _⟩ => fd
  | _ => default
theorem fdA_of {K : PySem.W.Frag} {x qual : Str} {params : Arguments} {body : List Stmt} {scope : Scope} {dvs : List V} {kws : List (Str × V)} {f : Addr} (h : ∃ fd, FunD K x qual params body scope dvs kws f fd) : FunD K x qual params body scope dvs kws f (fdA K f) := by
  obtain ⟨fd, F⟩ := h
  have e : fdA K f = fd := by
    obtain ⟨oc, od, dV, kV, doc, pm, an, cdv, ct, osl, h1, h2, _⟩ := F.ex
    unfold fdA
    rw [h2]
  rw [e]; exact F
/-- the promise of the def at a place -/
abbrev OkV (P : Program) (w : World) (K : PySem.W.Frag) (mg : Str → Option Value) (base : Heap) (lv : Nat) (f : Addr) (ps : List Str) (m : FnD) : Prop := FnOk P w K mg base (CV P w) lv f (fdA K f) ps (spV K ps.length m)
/-! ### properties -/
/-- the object of a class's property, its getter -/
def pgA (K : PySem.W.Frag) (p : Str × Str) : Addr := match PySem.W.recIn K (ma K (ga K p.1) p.2) "property" with
  | some (.ref g :: _) => g
  | _ => 0
def propB (K : PySem.W.Frag) (p : Str × Str) : Bool := eqO (PySem.W.findIn K (.ref (ga K p.1)) p.2) (some (some (.ref (ma K (ga K p.1) p.2)))) && (eqO (PySem.W.specialIn K (.ref (ma K (ga K p.1) p.2)) "__get__") (some (some (.builtin "property.__get__"))) &&
  (decide (PySem.W.takesIn K (.ref (ma K (ga K p.1) p.2)) = some true) && (match PySem.W.recIn K (ma K (ga K p.1) p.2) "property" with
    | some (.ref _ :: _) => true
    | _ => false)))
theorem propB_ok {K : PySem.W.Frag} {p : Str × Str} (h : propB K p = true) : PropOf K (ga K p.1) p.2 (ma K (ga K p.1) p.2) (pgA K p) := by
  obtain ⟨h1, h⟩ := ba h
  obtain ⟨h2, h⟩ := ba h
  obtain ⟨h3, h4⟩ := ba h
  refine ⟨eqO_ok h1, eqO_ok h2, of_decide_eq_true h3, ?_⟩
  unfold pgA
  split at h4
  · rename_i g rest e
    rw [e]
    exact ⟨rest, rfl⟩
  · cases h4
def fnAt (K : PySem.W.Frag) (a : Addr) : FnW := match K.lookup a with
  | some ⟨_, _, .func fd, _⟩ => some (fd.name, fd.qualname, fd.params, fd.body, fd.scope, fd.globals, fd.closure, fd.builtins)
  | _ => none
/-- a getter: it has no defaults -/
def getB (K : PySem.W.Frag) (a : Addr) (q : Str) : Bool := PySem.W.keepIn K (.ref a) && (match K.lookup a with
  | some ⟨_, _, .func fd, _⟩ => PySem.W.codeIn K fd.code q && (dflB K fd.defaults [] && kwdB K fd.kwdefaults [])
  | _ => false)
theorem getB_ok {K : PySem.W.Frag} {a : Addr} {d : DefD} (e : fnAt K a = d.val) (c : getB K a d.qual = true) : ∃ fd, FunD K d.name d.qual d.params d.body d.scope [] [] a fd := by
  obtain ⟨kp, c2⟩ := ba c
  unfold fnAt at e
  cases q : K.lookup a with
  | none => rw [q] at c2; cases c2
  | some o =>
    obtain ⟨oc, od, dt, osl⟩ := o
    rw [q] at c2 e
    cases dt with
    | func fd =>
      obtain ⟨c3, c4⟩ := ba c2
      obtain ⟨c5, c6⟩ := ba c4
      obtain ⟨nm, qn, pr, bd, sc, gl, cl, dV, kV, doc, pm, an, cd, ct, bn⟩ := fd
      have e2 := Option.some.inj e
      simp only [Prod.mk.injEq] at e2
      obtain ⟨rfl, rfl, rfl, rfl, rfl, rfl, rfl, rfl⟩ := e2
      exact ⟨_, ⟨_, _, _, _, _, _, _, _, _, _, rfl, q, c3, dflB_ok c5, kwdB_ok c6⟩, kp⟩
    | _ => cases c2
end L2.VI
/-! VI13: minus, comparing a store's list, facts of the head. -/
namespace L2.VI
open PySem PySem.Spec PyProof.Rows He
section
variable {X : Cx} {W : WX} {pos : Pos} {a b : Expr} {ma mb : M D}
def negM (m : M D) : M D := M.bind m fun d => match d with
  | .int i => M.ret (.int (-i))
  | _ => M.fail
theorem se_neg (h : SE X W a ma) : SE X W (.UnaryOp .USub a pos) (negM ma) :=
  SE.of (pe_un un_neg h) fun σ H F P0 Mm ρ bs Q B q => tM_then B q fun x d F1 M1 r1 b1 H1 l1 e1 B1 q1 h1 => by
    cases q1 with
    | int i => exact ⟨i, rfl, h1.now B1 (.int _)⟩
    | _ => exact h1.elim
/-! equality: a list of the store may stand on the left -/
def seeD (g : GSt) : D → D
  | .ptr k => (match g.S k with
    | some (.lst xs) => .lst xs
    | _ => .ptr k)
  | d => d
def eqP (a c : D) : M D := fun b => eqD (seeD b.g a) c b
def neP (a c : D) : M D := fun b => neD (seeD b.g a) c b
theorem eqB_see {K : PySem.W.Frag} {F P0 Mm H : Hp} {ρ : Rho} {b : BSt} {σ : St} {x y : V} {a c : D} {k : Bool} (B : BRel K F P0 Mm ρ b σ H) (rx : Rep K F ρ x a) (ry : Rep K F ρ y c) (h : eqB (seeD b.g a) c = some k) :
    (scal x y = true ∧ decide (x = y) = k) ∨ ∃ d e, Dp K H x d ∧ Dp K H y e ∧ SeqAt.shaped d = true ∧ SeqAt.shaped e = true ∧ PyData.eqv d e = k := by
  cases rx with
  | ptr hk =>
    rename_i p j
    unfold seeD at h
    dsimp only at h
    split at h
    · rename_i xs e
      obtain ⟨P, q, BB⟩ := id B
      obtain ⟨a', h1, vs, h2, h3⟩ := BB.h.st j _ e
      rw [hk] at h1; cases h1
      unfold eqB at h
      dsimp only at h
      split at h
      · rename_i d f e1 e2
        split at h
        · rename_i hs
          cases h
          unfold toPy at e1
          cases e3 : toPyAll xs with
          | none => rw [e3] at e1; cases e1
          | some es =>
            rw [e3] at e1; cases e1
            exact .inr ⟨_, _, .lst (SqL.of (BB.h.mh _ _ h2)) (RepAll.dp B h3 e3), ry.dp B e2, hs.1, hs.2, rfl⟩
        · cases h
      · cases h
    · exact eqB_dp B (.ptr hk) ry h
  | non => exact eqB_dp B .non ry h
  | bl i => exact eqB_dp B (.bl i) ry h
  | int i => exact eqB_dp B (.int i) ry h
  | str i => exact eqB_dp B (.str i) ry h
  | ty i => exact eqB_dp B (.ty i) ry h
  | glo i => exact eqB_dp B (.glo i) ry h
  | tup h1 h2 => exact eqB_dp B (.tup h1 h2) ry h
  | lst h1 h2 => exact eqB_dp B (.lst h1 h2) ry h
  | dic h1 h2 h3 => exact eqB_dp B (.dic h1 h2 h3) ry h
  | scr h1 => exact eqB_dp B (.scr h1) ry h
theorem ov_eqP {k : Nat} (hr : Room k X.A) : OpV X W (compareOp .Eq) eqP := by
  intro x y a c σ H F P0 Mm ρ b Q B rx ry h
  unfold eqP eqD optM M.bind at h
  cases e : eqB (seeD b.g a) c with
  | none => rw [e] at h; exact h.elim
  | some v =>
    rw [e] at h
    rcases eqB_see B rx ry e with ⟨e1, e2⟩ | ⟨d, f, d1, d2, s1, s2, e2⟩
    · exact ⟨_, op_eq, e1, by rw [e2]; exact Post.now h B (.bl _)⟩
    · exact ⟨_, op_eqD hr.units, d, f, d1, d2, s1, s2, by rw [e2]; exact Post.now h B (.bl _)⟩
theorem ov_neP {k : Nat} (hr : Room k X.A) : OpV X W (compareOp .NotEq) neP := by
  intro x y a c σ H F P0 Mm ρ b Q B rx ry h
  unfold neP neD optM M.bind at h
  cases e : eqB (seeD b.g a) c with
  | none => rw [e] at h; exact h.elim
  | some v =>
    rw [e] at h
    rcases eqB_see B rx ry e with ⟨e1, e2⟩ | ⟨d, f, d1, d2, s1, s2, e2⟩
    · exact ⟨_, op_ne, e1, by rw [e2]; exact Post.now h B (.bl _)⟩
    · exact ⟨_, op_neD hr.units, d, f, d1, d2, s1, s2, by rw [e2]; exact Post.now h B (.bl _)⟩
end
/-! ### the head: defs by names, getters, own facts -/
abbrev AlV : Type := AlD × (Bool × List FnW)
abbrev Gets : Type := List ((Str × Str) × DefD)
def obsV (fa : List Fa) (fn : List DefD) (gs : Gets) (ex : PySem.W.Frag → Bool) (K : PySem.W.Frag) : AlV :=
  (obsD fa fn K, (ex K && gs.all fun q => propB K q.1 && getB K (pgA K q.1) q.2.qual, gs.map fun q => fnAt K (pgA K q.1)))
def valV' (fn : List DefD) (gs : Gets) : AlV := (valD fn, (true, gs.map fun q => q.2.val))
def SaysV (fa : List Fa) (fn : List DefD) (gs : Gets) (ex : PySem.W.Frag → Bool) (K : PySem.W.Frag) : Prop := obsV fa fn gs ex K = valV' fn gs
def obsVG (n : Nat) (fa : List Fa) (fn : List DefD) (gs : Gets) (ex : PySem.W.Frag → Bool) (g : Addr → Option Obj) : AlV := obsV fa fn gs ex (frG g (asD g n))
def hookV (n : Nat) (fa : List Fa) (fn : List DefD) (gs : Gets) (ex : PySem.W.Frag → Bool) : PySem.W.Hook where
  α := AlV
  obs := fun s => obsVG n fa fn gs ex s.heap.get?
  val := fun _ => valV' fn gs
  says := fun _ h => ∃ K : PySem.W.Frag, K.In h ∧ SaysV fa fn gs ex K
  of := fun _ _ e => ⟨_, frG_in, e⟩
  keeps := fun _ _ _ ⟨K, hK, c⟩ k => ⟨K, PySem.W.Frag.In.keeps hK k, c⟩
theorem obsVG_eq {n : Nat} {fa : List Fa} {fn : List DefD} {gs : Gets} {ex : PySem.W.Frag → Bool} {g : Addr → Option Obj} {s : Shared} (h : ∀ a, g a = s.heap.get? a) : obsVG n fa fn gs ex g = (hookV n fa fn gs ex).obs s := by
  have e : g = s.heap.get? := funext h
  rw [e] <;> rfl
section
variable {fa : List Fa} {fn : List DefD} {gs : Gets} {ex : PySem.W.Frag → Bool} {K : PySem.W.Frag}
theorem SaysV.d (c : SaysV fa fn gs ex K) : SaysD fa fn K := congrArg (fun z : AlV => z.1) c
theorem SaysV.more (c : SaysV fa fn gs ex K) : ex K = true := (ba (congrArg (fun z : AlV => z.2.1) c)).1
theorem SaysV.get (c : SaysV fa fn gs ex K) (i : Nat) {p : Str × Str} {d : DefD} (h : gs[i]? = some (p, d) := by rfl) :
    PropOf K (ga K p.1) p.2 (ma K (ga K p.1) p.2) (pgA K p) ∧ FunD K d.name d.qual d.params d.body d.scope [] [] (pgA K p) (fdA K (pgA K p)) := by
  have c2 := (ba (congrArg (fun z : AlV => z.2.1) c)).2
  have e : gs.map (fun q => fnAt K (pgA K q.1)) = gs.map fun q => q.2.val := congrArg (fun z : AlV => z.2.2) c
  have e2 : (gs.map fun q => fnAt K (pgA K q.1))[i]? = (gs.map fun q => q.2.val)[i]? := by rw [e]
  rw [List.getElem?_map, List.getElem?_map, h] at e2
  obtain ⟨c3, c4⟩ := ba (List.all_eq_true.mp c2 (p, d) (List.mem_of_getElem? h))
  exact ⟨propB_ok c3, fdA_of (getB_ok (Option.some.inj e2) c4)⟩
theorem SaysV.fn_ (c : SaysV fa fn gs ex K) (i : Nat) {d : DefD} (h : fn[i]? = some d := by rfl) : FunD K d.name d.qual d.params d.body d.scope (d.dvs K) (d.kws K) (fAd K d.at_) (fdA K (fAd K d.at_)) := fdA_of (c.d.def_ i h)
end
/-! own checks -/
def exAll (l : List (PySem.W.Frag → Bool)) (K : PySem.W.Frag) : Bool := l.all fun f => f K
theorem exAt {l : List (PySem.W.Frag → Bool)} {K : PySem.W.Frag} (h : exAll l K = true) (i : Nat) {f : PySem.W.Frag → Bool} (hi : l[i]? = some f := by rfl) : f K = true := List.all_eq_true.mp h f (List.mem_of_getElem? hi)
def clsIB (c : Str) (K : PySem.W.Frag) : Bool := eqO (PySem.W.findIn K (.ref (ga K c)) "__class__") (some (some (.builtin "object.__class__"))) && (eqO (PySem.W.specialIn K (.builtin "object.__class__") "__get__") (some (some (.builtin "getset_descriptor.__get__"))) &&
  (decide (PySem.W.takesIn K (.builtin "object.__class__") = some true) && decide (PySem.W.mroIn K (ga K c) (.type "object") = some true)))
theorem clsIB_ok {c : Str} {K : PySem.W.Frag} (cl : Cls K (ga K c)) (h : clsIB c K = true) : ClsI K c := by
  obtain ⟨h1, h⟩ := ba h
  obtain ⟨h2, h⟩ := ba h
  obtain ⟨h3, h4⟩ := ba h
  exact ⟨cl, eqO_ok h1, eqO_ok h2, of_decide_eq_true h3, of_decide_eq_true h4⟩
/-- no built-in value is an instance of the class -/
def kitsB (C : Str) (K : PySem.W.Frag) : Bool := tyNames.all fun n => decide (PySem.W.kitOne K (.type n) (.ref (ga K C)) = some false)
theorem kitsB_ok {C : Str} {K : PySem.W.Frag} (h : kitsB C K = true) : ∀ n, n ∈ tyNames → PySem.W.kitOne K (.type n) (.ref (ga K C)) = some false := fun n hn => of_decide_eq_true (List.all_eq_true.mp h n hn)
def kit1B (c : Str) (t : String ⊕ Str) (r : Bool) (K : PySem.W.Frag) : Bool := decide (PySem.W.kitOne K (.ref (ga K c)) (tyVal K t) = some r)
theorem kit1B_ok {c : Str} {t : String ⊕ Str} {r : Bool} {K : PySem.W.Frag} (h : kit1B c t r K = true) : PySem.W.kitOne K (.ref (ga K c)) (tyVal K t) = some r := of_decide_eq_true h
/-! short words of a walk -/
def mkM (c : Str) (m : FnD) (j nk : Nat) (dfl : List D) (idx : List Nat) (mas mks : M (List D)) : M D := M.bind mas fun zs => M.bind mks fun ws => guardM (zs.length = j ∧ ws.length = nk) (makeG c m idx (zs ++ (ws ++ dfl)))
def mtM (c mn : Str) (m : FnD) (j nk : Nat) (dfl : List D) (idx : List Nat) (mo : M D) (mas mks : M (List D)) : M D := selfM c mn mo fun d => M.bind mas fun zs => M.bind mks fun ws => guardM (zs.length = j ∧ ws.length = nk) (callF m (kperm idx (d :: zs ++ (ws ++ dfl))))
theorem pvv {X : Cx} (i : Nat) {x : Str} {pos : Pos} (hN : X.N[i]? = some x := by rfl) (hv : Vis X.env.scope x := by first | exact Or.inl rfl | exact Or.inr (Or.inl rfl) | exact Or.inr (Or.inr rfl)) (hd : (x == ("__debug__" : Str)) = false := by decide)
    (hcd : (x == ("__classdict__" : Str)) = false := by decide) : PE X (.Name x pos) (tVar i) := pe_var hN hv hd hcd
theorem hu_of {k : Nat} {A : Around} (r : Room k A) : A.units + 1 < cLine := by have := r.un; omega
end L2.VI
/-! VI14: a name takes a new list that a comprehension makes. -/
namespace L2.VI
open PySem PySem.Spec PyProof.Rows He
section
variable {X : Cx} {W : WX} {K : PySem.W.Frag} {F P0 Mm H : Hp} {ρ : Rho} {bs : BSt} {σ : St}
/-- a new object goes to the slot i -/
def SNs (X : Cx) (W : WX) (i : Nat) (st : Stmt) (m : M SO) : Prop := PS X st (fun D σ H => tF X.K W m σ H fun v H1 => D.nx (σ.set i (some v)) H1)
theorem SNs.own {i : Nat} {st : Stmt} {m : M SO} (h : SNs X W i st m) : SS X W st (M.bind m (setO i)) :=
  SS.of h fun σ H F P0 Mm ρ b D B q => sM_thenF B q fun p so F1 M1 r1 b1 H1 l1 e1 B1 h1 => h1.nxt (B1.setO i)
theorem bind_assoc' {α β γ : Type} (m : M α) (f : α → M β) (g : β → M γ) : M.bind (M.bind m f) g = M.bind m fun a => M.bind (f a) g := by
  funext b
  unfold M.bind
  cases m b <;> rfl
theorem SNs.frz {i : Nat} {st : Stmt} {m : M SO} (h : SNs X W i st m) : SS X W st (M.bind (frzM m) (setV i)) :=
  SS.of h fun σ H F P0 Mm ρ b D B q => by
    unfold frzM at q
    rw [bind_assoc'] at q
    refine sM_thenF B q fun p so F1 M1 r1 b1 H1 l1 e1 B1 h1 => ?_
    obtain ⟨F2, u, l2, e2, B2, rr⟩ := B1.freeze
    obtain ⟨d, ed, h2⟩ := PostS.opt h1
    exact (h2.mono l2 (Rle.refl _)).nxt (B2.setV i (rr.rep ed))
theorem SNs.new {i : Nat} {st : Stmt} {m : M SO} (h : SNs X W i st m) : SS X W st (M.bind (newM m) (setV i)) :=
  SS.of h fun σ H F P0 Mm ρ b D B q => by
    unfold newM at q
    rw [bind_assoc'] at q
    refine sM_thenF B q fun p so F1 M1 r1 b1 H1 l1 e1 B1 h1 => ?_
    obtain ⟨M2, r2, rl, B2, rr⟩ := B1.store
    exact PostS.nxt (W := W) (PostS.mono h1 (Leq.refl _) rl) (B2.setV i rr)
theorem sns_lc {i : Nat} {y : Str} {py pos spos : Pos} {tg elt iter : Expr} {ifs : List Expr} {scope : Scope} {own : List (Str × Nat)} {mi : M (List D)} {g : TgM} {mt : M Bool} {me : M D} (hN : X.N.Nodup) (hi : SI X W tg iter mi) (ok : BlkOk X.N X.env.scope scope own)
    (hg : ∀ (s : Shared) (H : Hp) (C : Addr) (cl : List (Str × Addr)) (fp : List Addr), SG (X.blk s H scope (compEnvC scope cl C X.env) fp) (own.map (·.2)) tg g) (ht : ∀ (s : Shared) (H : Hp) (C : Addr) (cl : List (Str × Addr)) (fp : List Addr), STs (X.blk s H scope (compEnvC scope cl C X.env) fp) W0 ifs mt)
    (he : ∀ (s : Shared) (H : Hp) (C : Addr) (cl : List (Str × Addr)) (fp : List Addr), SE (X.blk s H scope (compEnvC scope cl C X.env) fp) W0 elt me) (hc : X.calm = true := by rfl) (hy : X.N[i]? = some y := by rfl) (hyl : X.env.scope.names.lookup y = some .local := by rfl) (hk : X.env.scope.kind = .function := by rfl)
    (hl : (py.line == pos.line) = true := by rfl) (ha : (scope.names.any fun (n, k) => n == y && (k == .local || k == .cell)) = false := by rfl)
    (hs : ∀ x, foldedSetIterable iter X.env x = pure x := by intro _; rfl) : SNs X W i (.Assign [.Name y py] (.ListComp elt [⟨tg, iter, ifs, 0⟩] scope pos) spos) (lcN mi g mt me (own.map (·.2))) := by
  have h := ps_setLc (i := i) (y := y) (py := py) (pos := pos) (spos := spos) (g := tG X.K (own.map fun (x : Str × Nat) => x.2) g) (tt := tT X.K W0 mt) (te := tE X.K W0 me) hc hN hy hyl (sw_true hk hyl hl ha) hi ok hg ht he hs
  exact ⟨fun pins s σ H D I ⟨F, P0, Mm, ρ, b, B, q⟩ => h.run pins s σ H D I (tlc_of B q)⟩
end
end L2.VI
/-! VI15: the law's end over VI. -/
namespace L2.VI
open PySem PySem.Spec PyProof.Rows He
/-- what is wanted of the law's def at a world: its function, its arguments' binding, its answer at a script, its promise -/
def LawV (l : PySem.W.OpenLaw) (wo : World) (lv n : Nat) (x : Str) (gm : Str → Option Value) (af : Addr) (K : PySem.W.Frag) (law : FnD) : Prop :=
  ∃ fd : FuncData, (∀ (t : Shared) (u : Value), BindsTo t fd ⟨[u], []⟩ [(x, u)]) ∧ (∀ ns : List Int, ns.length ≤ n → ∃ g', law [.scr ns] ⟨fun _ => none, 0⟩ = .ok (.bl true) g') ∧
    ∀ bs : Heap, K.In bs → bs.Ns mainGlobals gm → FnOk l.prog wo K gm bs (CV l.prog wo) lv af fd [x] (spV K 1 law)
theorem walkV {l : PySem.W.OpenLaw} {n lv : Nat} {vw : Program} {ls : List Str} {XP : (Str → Option Value) → Heap → Prop} {YP : World → Heap → Prop} {d : DefRec} {x : Str} {law : FnD} (hn : l.most = some n) (hz : n ≤ sizeLine) (hd : d.params.defaults = []) (hr : Room lv callerA)
    (hF : ∀ (wo : World) (gm : Str → Option Value) (af : Addr) (hp : Heap), YP wo hp → hp.Ns mainGlobals gm → gm d.name = some (.ref af) → ∃ K : PySem.W.Frag, K.In hp ∧ LawV l wo lv n x gm af K law) :
    PySem.W.WalkO vw ls XP YP l.row.toRowW d [] (fun g us => PySem.call g us) := by
  refine Att.attach_call hn hd ?_
  intro wo t0 t1 gm bm af ob pv cv dc al us is GG YY h1 h2 h3 h4 h5 h6 h7 h8
  obtain ⟨K, hK, fd, b, e, f⟩ := hF wo gm af _ YY GG.T.g h4
  have cx : ∀ (H : Hp) (u : Value) (t : Shared), CV l.prog wo [] H t1 (fun _ _ _ => False) u t → False := fun H u t ⟨_, _, _, _, _, _, _, _, _, _, _, _, z⟩ => z
  exact law_call hK GG.T.g GG.T.b GG.T.builtins GG.T.nolimit h8 h5 h6 (Nat.le_trans h7 hz) hr f b (fun H hO hS => sp_law hO hS (e is h7)) cx
end L2.VI
/-! VIE: the shallow words at a state, for simp. -/
namespace L2.VI
open PySem PySem.Spec PyProof.Rows He
theorem ofString_inj {a c : String} : Str.ofString a = Str.ofString c ↔ a = c := by
  refine ⟨fun h => ?_, fun h => by rw [h]⟩
  rw [Str.ofString_eq_toList, Str.ofString_eq_toList] at h
  have h2 : a.toList.map Char.toNat = c.toList.map Char.toNat := by
    have := congrArg (fun s : Str => s.cps.toList) h
    simpa using this
  have inj : ∀ (l m : List Char), l.map Char.toNat = m.map Char.toNat → l = m := by
    intro l
    induction l with
    | nil => intro m e; cases m with
      | nil => rfl
      | cons _ _ => cases e
    | cons x l ih =>
      intro m e
      cases m with
      | nil => cases e
      | cons y m =>
        simp only [List.map_cons, List.cons.injEq] at e
        obtain ⟨e1, e2⟩ := e
        have hxy : x = y := by
          apply Char.ext
          apply UInt32.toNat.inj
          exact e1
        rw [hxy, ih m e2]
  have h3 := inj _ _ h2
  exact String.toList_injective h3
@[simp] theorem ofS_eq {a c : String} : (Str.ofString a = Str.ofString c) = (a = c) := propext ofString_inj
@[simp] theorem ofS_beq {a c : String} : (Str.ofString a == Str.ofString c) = decide (a = c) := by
  by_cases h : a = c
  · subst h; simp
  · have : ¬ Str.ofString a = Str.ofString c := fun e => h (ofString_inj.mp e)
    simp [h, this]
def R.thn {α β : Type} (r : R α) (k : α → M β) : R β := match r with
  | .ok a b => k a b
  | .exc x b => .exc x b
  | .fail => .fail
section
variable {α β : Type} {b : BSt} {g : GSt}
@[simp] theorem thn_ok {a : α} {k : α → M β} : (R.ok a b).thn k = k a b := rfl
@[simp] theorem thn_exc {x : EX} {k : α → M β} : (R.exc x b : R α).thn k = .exc x b := rfl
@[simp] theorem thn_fail {k : α → M β} : (R.fail : R α).thn k = .fail := rfl
@[simp] theorem bind_ap {m : M α} {k : α → M β} : M.bind m k b = (m b).thn k := rfl
@[simp] theorem ret_ap {a : α} : M.ret a b = .ok a b := rfl
@[simp] theorem fail_ap : (M.fail : M α) b = .fail := rfl
@[simp] theorem guardM_ap {c : Prop} [Decidable c] {m : M α} : guardM c m b = if c then m b else .fail := rfl
@[simp] theorem optM_some {a : α} : optM (some a) b = .ok a b := rfl
@[simp] theorem optM_none : optM (none : Option α) b = .fail := rfl
@[simp] theorem seqM_ap {m k : M Fl} : seqM m k b = (m b).thn fun f => match f with
  | .nx => k
  | f => M.ret f := rfl
@[simp] theorem exprM_ap {m : M D} : exprM m b = (m b).thn fun _ => M.ret .nx := rfl
@[simp] theorem retM_ap {m : M D} : retM m b = (m b).thn fun d => M.ret (.ret d) := rfl
@[simp] theorem setV_ap {i : Nat} {d : D} : setV i d b = .ok .nx { b with t := b.t.set i (some (.val d)) } := rfl
@[simp] theorem setO_ap {i : Nat} {so : SO} : setO i so b = .ok .nx { b with t := b.t.set i (some (.own so)) } := rfl
theorem getV_ap {i : Nat} : getV i b = (match b.t[i]? with
  | some (some (.val d)) => .ok d b
  | some (some (.own so)) => (match so.frozen with
    | some d => .ok d { b with t := b.t.set i (some (.val d)) }
    | none => .fail)
  | _ => .fail) := rfl
@[simp] theorem getV_val {i : Nat} {t : List (Option Slot)} {d : D} (h : t[i]? = some (some (.val d))) : getV i ⟨g, t⟩ = .ok d ⟨g, t⟩ := by simp [getV_ap, h]
@[simp] theorem getV_lst {i : Nat} {t : List (Option Slot)} {ds : List D} (h : t[i]? = some (some (.own (.lst ds)))) : getV i ⟨g, t⟩ = .ok (.lst ds) ⟨g, t.set i (some (.val (.lst ds)))⟩ := by simp [getV_ap, h, SO.frozen]
@[simp] theorem getV_dic {i : Nat} {t : List (Option Slot)} {ds : List (Key × D)} (h : t[i]? = some (some (.own (.dic ds)))) : getV i ⟨g, t⟩ = .ok (.dic ds) ⟨g, t.set i (some (.val (.dic ds)))⟩ := by simp [getV_ap, h, SO.frozen]
@[simp] theorem bin2_ap {f : D → D → M D} {x y : M D} : bin2 f x y b = (x b).thn fun u => M.bind y fun v => f u v := rfl
@[simp] theorem isB_ap {m : M D} : isB m b = (m b).thn fun d => match d with
  | .bl c => M.ret c
  | _ => M.fail := rfl
@[simp] theorem ifM_ap {t : M Bool} {x y : M α} : ifM t x y b = (t b).thn fun c => if c = true then x else y := rfl
@[simp] theorem andB_ap {x y : M Bool} : andB x y b = (x b).thn fun c => if c = true then y else M.ret false := rfl
@[simp] theorem orB_ap {x y : M Bool} : orB x y b = (x b).thn fun c => if c = true then M.ret true else y := rfl
@[simp] theorem notB_ap {x : M Bool} : notB x b = (x b).thn fun c => M.ret (!c) := rfl
@[simp] theorem andD_ap {x y : M D} : andD x y b = (x b).thn fun d => match d with
  | .bl true => y
  | .bl false => M.ret (.bl false)
  | _ => M.fail := by unfold andD; congr 1
@[simp] theorem orD_ap {x y : M D} : orD x y b = (x b).thn fun d => match d with
  | .bl true => M.ret (.bl true)
  | .bl false => y
  | _ => M.fail := by unfold orD; congr 1
@[simp] theorem notD_ap {x : M D} : notD x b = (x b).thn fun d => match d with
  | .bl c => M.ret (.bl !c)
  | _ => M.fail := by unfold notD; congr 1
@[simp] theorem consM_ap {a : M D} {r : M (List D)} : consM a r b = (a b).thn fun x => M.bind r fun xs => M.ret (x :: xs) := rfl
@[simp] theorem tupM_ap {ms : M (List D)} : tupM ms b = (ms b).thn fun ds => guardM (ds.length ≤ sizeLine) (M.ret (.tup ds)) := rfl
@[simp] theorem lstM_ap {ms : M (List D)} : lstM ms b = (ms b).thn fun ds => guardM (ds.length ≤ sizeLine) (M.ret (.lst ds)) := rfl
@[simp] theorem lstN_ap {ms : M (List D)} : lstN ms b = (ms b).thn fun ds => guardM (ds.length ≤ sizeLine) (M.ret (.lst ds)) := rfl
@[simp] theorem frzM_ap {m : M SO} : frzM m b = (m b).thn fun so => optM so.frozen := rfl
@[simp] theorem frozen_lst {xs : List D} : (SO.lst xs).frozen = some (.lst xs) := rfl
@[simp] theorem frozen_dic {xs : List (Key × D)} : (SO.dic xs).frozen = some (.dic xs) := rfl
@[simp] theorem newM_ap {m : M SO} : newM m b = (m b).thn fun so => fun b => .ok (.ptr b.g.nx) { b with g := b.g.new so } := rfl
@[simp] theorem asgM_ap {m : M D} {t : TgM} : asgM m t b = (m b).thn (tgM t) := rfl
@[simp] theorem tgM_ap {t : TgM} {d : D} : tgM t d b = (match t d b with
  | some b' => .ok .nx b'
  | none => .fail) := rfl
@[simp] theorem gSet_ap {i : Nat} {d : D} : gSet i d b = some { b with t := b.t.set i (some (.val d)) } := rfl
@[simp] theorem gsNil_ap : gsNil [] b = some b := rfl
@[simp] theorem gsCons_ap {m : TgM} {k : TgsM} {d : D} {ds : List D} : gsCons m k (d :: ds) b = (m d b).bind (k ds) := rfl
@[simp] theorem gTupM_ap {n : Nat} {m : TgsM} {ds : List D} : gTupM n m (.tup ds) b = if ds.length = n then m ds b else none := rfl
@[simp] theorem set2_ap {i j : Nat} {ms : M (List D)} : set2 i j ms b = (ms b).thn fun ds => match ds with
  | [a, c] => seqM (setV i a) (setV j c)
  | _ => M.fail := rfl
@[simp] theorem set3_ap {i j l : Nat} {ms : M (List D)} : set3 i j l ms b = (ms b).thn fun ds => match ds with
  | [a, c, d] => seqM (setV i a) (seqM (setV j c) (setV l d))
  | _ => M.fail := rfl
/-! operators -/
@[simp] theorem addD_ii {i j : Int} : addD (.int i) (.int j) b = .ok (.int (i + j)) b := rfl
@[simp] theorem addD_ss {i j : Str} : addD (.str i) (.str j) b = if i.length + j.length ≤ sizeLine then .ok (.str (i ++ j)) b else .fail := rfl
@[simp] theorem addD_ll {i j : List D} : addD (.lst i) (.lst j) b = if i.length + j.length ≤ sizeLine then .ok (.lst (i ++ j)) b else .fail := rfl
@[simp] theorem subD_ii {i j : Int} : subD (.int i) (.int j) b = .ok (.int (i - j)) b := rfl
@[simp] theorem mulD_ii {i j : Int} : mulD (.int i) (.int j) b = if small64 i ∨ small64 j then .ok (.int (i * j)) b else .fail := rfl
@[simp] theorem fdivD_ii {i j : Int} : fdivD (.int i) (.int j) b = if 0 < j ∧ j < 1073741824 then .ok (.int (i / j)) b else .fail := rfl
@[simp] theorem modD_ii {i j : Int} : modD (.int i) (.int j) b = if 0 < j then .ok (.int (i % j)) b else .fail := rfl
@[simp] theorem powD_ii {i j : Int} : powD (.int i) (.int j) b = if 0 ≤ j ∧ j ≤ 1000000 ∧ i.natAbs < 2 ^ 64 then .ok (.int (i ^ j.toNat)) b else .fail := rfl
@[simp] theorem ltD_ii {i j : Int} : ltD (.int i) (.int j) b = .ok (.bl (decide (i < j))) b := rfl
@[simp] theorem leD_ii {i j : Int} : leD (.int i) (.int j) b = .ok (.bl (decide (i ≤ j))) b := rfl
@[simp] theorem gtD_ii {i j : Int} : gtD (.int i) (.int j) b = .ok (.bl (decide (i > j))) b := rfl
@[simp] theorem geD_ii {i j : Int} : geD (.int i) (.int j) b = .ok (.bl (decide (i ≥ j))) b := rfl
@[simp] theorem isND_n {d : D} : isND d .non b = .ok (.bl d.isNon) b := rfl
@[simp] theorem notND_n {d : D} : notND d .non b = .ok (.bl (!d.isNon)) b := rfl
@[simp] theorem isNon_non : D.non.isNon = true := rfl
@[simp] theorem isNon_int {i : Int} : (D.int i).isNon = false := rfl
@[simp] theorem isNon_bl {i : Bool} : (D.bl i).isNon = false := rfl
@[simp] theorem isNon_str {i : Str} : (D.str i).isNon = false := rfl
@[simp] theorem isNon_lst {i : List D} : (D.lst i).isNon = false := rfl
@[simp] theorem isNon_tup {i : List D} : (D.tup i).isNon = false := rfl
@[simp] theorem isNon_ptr {i : Nat} : (D.ptr i).isNon = false := rfl
theorem eqD_ap {x y : D} : eqD x y b = (match eqB x y with
  | some k => .ok (.bl k) b
  | none => .fail) := by unfold eqD M.bind; cases eqB x y <;> rfl
theorem neD_ap {x y : D} : neD x y b = (match eqB x y with
  | some k => .ok (.bl (!k)) b
  | none => .fail) := by unfold neD M.bind; cases eqB x y <;> rfl
@[simp] theorem eqD_ii {i j : Int} : eqD (.int i) (.int j) b = .ok (.bl (decide (i = j))) b := rfl
@[simp] theorem neD_ii {i j : Int} : neD (.int i) (.int j) b = .ok (.bl (!decide (i = j))) b := rfl
@[simp] theorem eqD_ss {i j : Str} : eqD (.str i) (.str j) b = .ok (.bl (decide (i = j))) b := rfl
@[simp] theorem neD_ss {i j : Str} : neD (.str i) (.str j) b = .ok (.bl (!decide (i = j))) b := rfl
@[simp] theorem negM_ap {m : M D} : negM m b = (m b).thn fun d => match d with
  | .int i => M.ret (.int (-i))
  | _ => M.fail := rfl
theorem chainD_ap {f h : D → D → M D} {x y z : M D} : chainD f h x y z b = (x b).thn fun u => M.bind y fun v => M.bind (f u v) fun k => match k with
  | .bl true => M.bind z fun w => h v w
  | .bl false => M.ret (.bl false)
  | _ => M.fail := by unfold chainD; congr 1
/-! calls -/
@[simp] theorem callF_ap {m : FnD} {ds : List D} : callF m ds b = (match m ds b.g with
  | .ok d g' => .ok d { b with g := g' }
  | .exc x g' => .exc x { b with g := g' }
  | .fail => .fail) := rfl
@[simp] theorem callN_ap {m : FnD} {ds : List D} : callN m ds b = (match m ds b.g with
  | .ok d g' => .ok d { b with g := g' }
  | _ => .fail) := by unfold callN; cases m ds b.g <;> rfl
def R.out : R Fl → GR
  | .ok .nx b => .ok .non b.g
  | .ok (.ret d) b => .ok d b.g
  | .exc x b => .exc x b.g
  | _ => .fail
@[simp] theorem out_nx : (R.ok Fl.nx b).out = .ok .non b.g := rfl
@[simp] theorem out_ret {d : D} : (R.ok (Fl.ret d) b).out = .ok d b.g := rfl
@[simp] theorem out_exc {x : EX} : (R.exc x b : R Fl).out = .exc x b.g := rfl
@[simp] theorem out_fail : (R.fail : R Fl).out = .fail := rfl
@[simp] theorem out_brk : (R.ok Fl.brk b).out = .fail := rfl
@[simp] theorem out_cnt : (R.ok Fl.cnt b).out = .fail := rfl
@[simp] theorem fnBody_ap {n sl : Nat} {m : M Fl} {ds : List D} : fnBody n sl m ds g = if ds.length = n then (m ⟨g, ds.map (fun d => some (.val d)) ++ List.replicate (sl - n) none⟩).out else .fail := by
  unfold fnBody
  split
  · generalize m ⟨g, ds.map (fun d => some (.val d)) ++ List.replicate (sl - n) none⟩ = z
    cases z with
    | ok a b => cases a <;> rfl
    | exc x b => rfl
    | fail => rfl
  · rfl
@[simp] theorem argsK_ap {j nk : Nat} {dfl : List D} {idx : List Nat} {mas mks : M (List D)} {k : List D → M D} : argsK j nk dfl idx mas mks k b = (mas b).thn fun zs => M.bind mks fun ws => guardM (zs.length = j ∧ ws.length = nk) (k (kperm idx (zs ++ (ws ++ dfl)))) := rfl
@[simp] theorem mkM_ap {c : Str} {m : FnD} {j nk : Nat} {dfl : List D} {idx : List Nat} {mas mks : M (List D)} : mkM c m j nk dfl idx mas mks b = (mas b).thn fun zs => M.bind mks fun ws => guardM (zs.length = j ∧ ws.length = nk) (makeG c m idx (zs ++ (ws ++ dfl))) := rfl
@[simp] theorem makeG_ap {c : Str} {m : FnD} {idx : List Nat} {rest : List D} : makeG c m idx rest b = (match m (kperm idx (.ptr b.g.nx :: rest)) (b.g.new (.ins c [])) with
  | .ok .non g' => .ok (.ptr b.g.nx) { b with g := g' }
  | .exc x g' => .exc x { b with g := g' }
  | _ => .fail) := by unfold makeG; rfl
@[simp] theorem fldM_ap {c fn : Str} {mo : M D} : fldM c fn mo b = (mo b).thn fun d => fun b => match d with
  | .ptr k => (match b.g.S k with
    | some (.ins c' fs) => if c' = c then optM (fs.lookup fn) b else .fail
    | _ => .fail)
  | _ => .fail := rfl
@[simp] theorem propM_ap {c : Str} {m : FnD} {mo : M D} : propM c m mo b = (mo b).thn fun d => fun b => if isIns c d b.g = true then callN m [d] b else .fail := rfl
@[simp] theorem mtM_ap {c mn : Str} {m : FnD} {j nk : Nat} {dfl : List D} {idx : List Nat} {mo : M D} {mas mks : M (List D)} : mtM c mn m j nk dfl idx mo mas mks b = selfM c mn mo (fun d => M.bind mas fun zs => M.bind mks fun ws => guardM (zs.length = j ∧ ws.length = nk) (callF m (kperm idx (d :: zs ++ (ws ++ dfl))))) b := rfl
@[simp] theorem selfM_ap {c mn : Str} {mo : M D} {k : D → M D} : selfM c mn mo k b = (mo b).thn fun d => fun b => if isIns c d b.g = true ∧ noField mn d b.g = true then k d b else .fail := rfl
/-! items, stores -/
@[simp] theorem ixD_lst {xs : List D} {i : D} : ixD (.lst xs) i b = optM (ixO (.lst xs) i) b := rfl
@[simp] theorem ixD_tup {xs : List D} {i : D} : ixD (.tup xs) i b = optM (ixO (.lst xs) i) b := rfl
@[simp] theorem ixD_dic {xs : List (Key × D)} {i : D} : ixD (.dic xs) i b = optM (ixO (.dic xs) i) b := rfl
@[simp] theorem ixD_ptr {k : Nat} {i : D} : ixD (.ptr k) i b = (match b.g.S k with
  | some so => optM (ixO so i) b
  | none => .fail) := rfl
@[simp] theorem ixO_lst {xs : List D} {i : Int} : ixO (.lst xs) (.int i) = atI xs i := rfl
@[simp] theorem ixO_dicS {xs : List (Key × D)} {x : Str} : ixO (.dic xs) (.str x) = dlook xs (.inr x) := rfl
@[simp] theorem ixO_dicI {xs : List (Key × D)} {x : Int} : ixO (.dic xs) (.int x) = dlook xs (.inl x) := rfl
@[simp] theorem dlook_nil {κ : Type} [DecidableEq κ] {k : κ} : dlook ([] : List (κ × D)) k = none := rfl
theorem dlook_cons {κ : Type} [DecidableEq κ] {k j : κ} {d : D} {l : List (κ × D)} : dlook ((j, d) :: l) k = if j = k then some d else dlook l k := by
  unfold dlook
  by_cases h : j = k <;> simp [List.find?_cons, h]
@[simp] theorem dlook_hit {κ : Type} [DecidableEq κ] {k : κ} {d : D} {l : List (κ × D)} : dlook ((k, d) :: l) k = some d := by rw [dlook_cons, if_pos rfl]
theorem dlook_miss {κ : Type} [DecidableEq κ] {k j : κ} {d : D} {l : List (κ × D)} (h : decide (j = k) = false) : dlook ((j, d) :: l) k = dlook l k := by rw [dlook_cons, if_neg (of_decide_eq_false h)]
@[simp] theorem ixV_ap {i : Nat} {mb : M D} : ixV i mb b = (match b.t[i]? with
  | some (some _) => (mb b).thn (fun y => fun b => match b.t[i]? with
    | some (some (.val d)) => ixD d y b
    | some (some (.own so)) => optM (ixO so y) b
    | _ => .fail)
  | _ => .fail) := rfl
@[simp] theorem methO_ap {i : Nat} {T : String} {f : MtF} {mas : M (List D)} : methO i T f mas b = (match b.t[i]? with
  | some (some (.own so0)) => if so0.tyn = T then (mas b).thn (fun as => fun b => match b.t[i]? with
    | some (some (.own so)) => (match f so as with
      | some (so', d) => .ok d { b with t := b.t.set i (some (.own so')) }
      | none => .fail)
    | _ => .fail) else .fail
  | _ => .fail) := rfl
@[simp] theorem methP_ap {T : String} {f : MtF} {mo : M D} {mas : M (List D)} : methP T f mo mas b = (mo b).thn fun x => fun b => match x with
  | .ptr k => (match b.g.S k with
    | some so0 => if so0.tyn = T ∧ so0.plain = true then (M.bind mas fun as => fun b => match b.g.S k with
      | some so => (match f so as with
        | some (so', d) => if so.plain = true then .ok d { b with g := b.g.put k so' } else .fail
        | none => .fail)
      | none => .fail) b else .fail
    | none => .fail)
  | _ => .fail := rfl
@[simp] theorem tyn_lst {xs : List D} : (SO.lst xs).tyn = "list" := rfl
@[simp] theorem tyn_dic {xs : List (Key × D)} : (SO.dic xs).tyn = "dict" := rfl
@[simp] theorem plain_lst {xs : List D} : (SO.lst xs).plain = true := rfl
@[simp] theorem plain_dic {xs : List (Key × D)} : (SO.dic xs).plain = true := rfl
@[simp] theorem fAppend_l {xs : List D} {d : D} : fAppend (.lst xs) [d] = if xs.length < sizeLine then some (.lst (xs ++ [d]), .non) else none := rfl
@[simp] theorem isetO_ap {n : Nat} {mi me : M D} : isetO n mi me b = (me b).thn fun v => fun b => match b.t[n]? with
  | some (some (.own _)) => M.bind mi (fun k => fun b => match b.t[n]? with
    | some (some (.own so)) => (match putO so k v with
      | some so' => .ok .nx { b with t := b.t.set n (some (.own so')) }
      | none => .fail)
    | _ => .fail) b
  | _ => .fail := rfl
@[simp] theorem isetP_ap {mo mi me : M D} : isetP mo mi me b = (me b).thn fun v => M.bind mo fun x => M.bind mi fun k => fun b => match x with
  | .ptr kk => (match b.g.S kk with
    | some so => (match putO so k v with
      | some so' => .ok .nx { b with g := b.g.put kk so' }
      | none => .fail)
    | none => .fail)
  | _ => .fail := rfl
@[simp] theorem putO_dicS {kvs : List (Key × D)} {x : Str} {v : D} : putO (.dic kvs) (.str x) v = if kvs.length < sizeLine then some (.dic (dput kvs (.inr x) v)) else none := rfl
@[simp] theorem putO_dicI {kvs : List (Key × D)} {x : Int} {v : D} : putO (.dic kvs) (.int x) v = if kvs.length < sizeLine then some (.dic (dput kvs (.inl x) v)) else none := rfl
@[simp] theorem putO_lst {xs : List D} {i : Int} {v : D} : putO (.lst xs) (.int i) v = (ixN xs.length i).map fun j => .lst (xs.set j v) := rfl
@[simp] theorem fsetM_ap {c f : Str} {mo me : M D} : fsetM c f mo me b = (me b).thn fun v => M.bind mo fun x => fun b => match x with
  | .ptr k => (match b.g.S k with
    | some (.ins c' fs) => if c' = c ∧ fs.length < 1000 then .ok .nx { b with g := b.g.put k (.ins c (dputF f v fs)) } else .fail
    | _ => .fail)
  | _ => .fail := rfl
/-! loops -/
@[simp] theorem itemsM_ap {m : M D} : itemsM m b = (m b).thn fun d => optM (itemsOf d) := rfl
@[simp] theorem itemsOf_lst {xs : List D} : itemsOf (.lst xs) = some xs := rfl
@[simp] theorem itemsOf_tup {xs : List D} : itemsOf (.tup xs) = some xs := rfl
@[simp] theorem itemsOf_scr {xs : List Int} : itemsOf (.scr xs) = some (xs.map .int) := rfl
@[simp] theorem forM_ap {mi : M (List D)} {t : TgM} {body : M Fl} : forM mi t body b = (mi b).thn (forL t body) := rfl
@[simp] theorem rng1M_ap {ms : M (List D)} : rng1M ms b = (ms b).thn fun ds => match ds with
  | [.int j] => guardM (-(2 ^ 62) ≤ j ∧ j < 2 ^ 62) (M.ret (rngL 0 j.toNat))
  | _ => M.fail := rfl
@[simp] theorem rng2M_ap {ms : M (List D)} : rng2M ms b = (ms b).thn fun ds => match ds with
  | [.int i, .int j] => guardM (-(2 ^ 62) ≤ i ∧ i < 2 ^ 62 ∧ -(2 ^ 62) ≤ j ∧ j < 2 ^ 62) (M.ret (rngL i (j - i).toNat))
  | _ => M.fail := rfl
/-! built-ins -/
@[simp] theorem lenD_tup {ds : List D} : lenD [.tup ds] b = .ok (.int ds.length) b := rfl
@[simp] theorem lenD_lst {ds : List D} : lenD [.lst ds] b = .ok (.int ds.length) b := rfl
@[simp] theorem lenD_scr {ds : List Int} : lenD [.scr ds] b = .ok (.int ds.length) b := rfl
@[simp] theorem lenD_str {y : Str} : lenD [.str y] b = if y.length ≤ sizeLine then .ok (.int y.length) b else .fail := rfl
@[simp] theorem lenV_ap {n : Nat} : lenV n b = (match b.t[n]? with
  | some (some (.own (.lst xs))) => .ok (.int xs.length) b
  | some (some (.val d)) => lenD [d] b
  | _ => .fail) := by unfold lenV; rfl
@[simp] theorem min2D_ii {i j : Int} : min2D [.int i, .int j] b = .ok (.int (if j < i then j else i)) b := rfl
@[simp] theorem max2D_ii {i j : Int} : max2D [.int i, .int j] b = .ok (.int (if j > i then j else i)) b := rfl
@[simp] theorem intD_i {i : Int} : intD [.int i] b = .ok (.int i) b := rfl
@[simp] theorem reprD_i {i : Int} : reprD [.int i] b = if i.natAbs.log2 < 1920 then .ok (.str (toString i)) b else .fail := rfl
@[simp] theorem reprD_n : reprD [.non] b = .ok (.str "None") b := rfl
@[simp] theorem listN_ap {ms : M (List D)} : listN ms b = (ms b).thn fun ds => optM (toLst ds) := rfl
@[simp] theorem isiM_ap {cd : D → Bool} {subs : String → Bool} {own : List (Str × Bool)} {x c : D} : isiM cd subs own [x, c] b = if cd c = true then (match tyD x b.g with
    | some (.inl t) => .ok (.bl (subs t)) b
    | some (.inr c) => (match own.lookup c with
      | some k => .ok (.bl k) b
      | none => .fail)
    | none => .fail) else .fail := rfl
@[simp] theorem tyD_int {i : Int} : tyD (.int i) g = some (.inl "int") := rfl
@[simp] theorem tyD_bl {i : Bool} : tyD (.bl i) g = some (.inl "bool") := rfl
@[simp] theorem tyD_non : tyD .non g = some (.inl "NoneType") := rfl
@[simp] theorem tyD_str {i : Str} : tyD (.str i) g = some (.inl "str") := rfl
@[simp] theorem tyD_lst {i : List D} : tyD (.lst i) g = some (.inl "list") := rfl
@[simp] theorem tyD_tup {i : List D} : tyD (.tup i) g = some (.inl "tuple") := rfl
@[simp] theorem isTyD_ty {n m : String} : isTyD n (.ty m) = decide (m = n) := rfl
@[simp] theorem isGloD_glo {n m : Str} : isGloD n (.glo m) = decide (m = n) := rfl
@[simp] theorem dispN_ap {ks : List Key} {ms : List (M D)} : dispN ks ms b = (seqL ms b).thn fun ds => M.ret (.dic (mergeD [] (ks.zip ds))) := rfl
@[simp] theorem seqL_nil : seqL [] b = .ok [] b := rfl
@[simp] theorem seqL_cons {m : M D} {ms : List (M D)} : seqL (m :: ms) b = (m b).thn fun x => M.bind (seqL ms) fun xs => M.ret (x :: xs) := rfl
theorem small64_int {i : Int} : small64 i ↔ -(2 ^ 64) < i ∧ i < 2 ^ 64 := Iff.rfl
end
end L2.VI
/-! VI16: running the shallow functions; the laws' own draws. -/
namespace L2.VI
open PySem PySem.Spec PyProof.Rows He
noncomputable section
namespace H
def m__law_mixed : M Fl := seqM (isetP (getV 0) (M.ret (.str "turn")) (bin2 addD (ixV 0 (M.ret (.str "turn"))) (M.ret (.int 1)))) (seqM (M.bind (M.ret (.int 0)) (setV 1)) (seqM (forM (itemsM (frzM (lstN (consM (M.ret (.int 2147483629)) (consM (M.ret (.int 2147483587)) (consM (M.ret (.int 2147483579)) (consM (M.ret (.int 2147483563)) (consM (M.ret (.int 2147483549)) (consM (M.ret (.int 2147483543)) (M.ret [])))))))))) (gSet 2) (seqM (M.bind (bin2 addD (bin2 mulD (M.ret (.int 104729)) (ixV 0 (M.ret (.str "turn")))) (bin2 fdivD (getV 2) (M.ret (.int 7)))) (setV 3)) (seqM (forM (itemsM (ixV 0 (M.ret (.str "cells")))) (gSet 4) (M.bind (bin2 modD (M.bind (consM (bin2 addD (bin2 mulD (getV 3) (M.ret (.int 48271))) (getV 4)) (M.ret [])) intD) (getV 2)) (setV 3))) (M.bind (bin2 addD (bin2 mulD (getV 1) (M.ret (.int 2147483647))) (bin2 modD (M.bind (consM (bin2 powD (getV 3) (M.ret (.int 5))) (M.ret [])) intD) (getV 2))) (setV 1))))) (retM (getV 1))))
def f__law_mixed : FnD := fnBody 1 5 m__law_mixed
def m__law_take : M Fl := seqM (ifM (isB (bin2 eqD (ixV 0 (M.ret (.str "rest"))) (M.ret (.int 0)))) (isetP (getV 0) (M.ret (.str "rest")) (ifM (isB (bin2 neP (ixV 0 (M.ret (.str "large"))) (frzM (lstN (M.ret []))))) (methP "list" fPopAt (ixV 0 (M.ret (.str "large"))) (consM (M.ret (.int 0)) (M.ret []))) (M.bind (consM (getV 0) (M.ret [])) (callF f__law_mixed)))) (M.ret .nx)) (seqM (M.bind (bin2 modD (M.bind (consM (ixV 0 (M.ret (.str "rest"))) (M.ret [])) intD) (getV 1)) (setV 2)) (seqM (isetP (getV 0) (M.ret (.str "rest")) (bin2 fdivD (ixV 0 (M.ret (.str "rest"))) (getV 1))) (retM (getV 2))))
def f__law_take : FnD := fnBody 2 3 m__law_take
def m__law_pick : M Fl := retM (ixV 1 (M.bind (consM (getV 0) (consM (lenV 1) (M.ret []))) (callF f__law_take)))
def f__law_pick : FnD := fnBody 2 2 m__law_pick
def m__law_is_number : M Fl := retM (andD (M.bind (consM (getV 0) (consM (M.ret (.ty "int")) (M.ret []))) (isiM (isTyD "int") (fun t => t == "int" || t == "bool") [])) (notD (M.bind (consM (getV 0) (consM (M.ret (.ty "bool")) (M.ret []))) (isiM (isTyD "bool") (fun t => t == "bool") []))))
def f__law_is_number : FnD := fnBody 1 1 m__law_is_number
def m__law_begun : M Fl := seqM (M.bind (newM (lcN (itemsM (getV 0)) (gSet 2) (isB (bin2 geD (getV 2) (bin2 powD (M.ret (.int 10)) (M.ret (.int 18))))) (bin2 subD (getV 2) (bin2 powD (M.ret (.int 10)) (M.ret (.int 18)))) [2])) (setV 1)) (retM (newM (dispN [.inr "large", .inr "cells", .inr "rest", .inr "turn"] [getV 1, frzM (listN (consM (getV 0) (M.ret []))), M.ret (.int 0), M.ret (.int 0)])))
def f__law_begun : FnD := fnBody 1 3 m__law_begun
end H
/-! ### loops -/
theorem forL_nil {g : TgM} {body : M Fl} {b : BSt} : forL g body [] b = .ok .nx b := rfl
theorem forL_cons {g : TgM} {body : M Fl} {d : D} {ds : List D} {b : BSt} : forL g body (d :: ds) b = (match g d b with
    | some b1 => turnM body (forL g body ds) b1
    | none => .fail) := rfl
/-- a loop over values: I holds ahead of each turn -/
theorem forL_inv {g : TgM} {body : M Fl} (I : List D → BSt → Prop) (Q : R Fl → Prop) : ∀ {ds : List D} {b : BSt}, I ds b → (∀ b, I [] b → Q (.ok .nx b)) →
    (∀ d ds b, I (d :: ds) b → ∃ b1, g d b = some b1 ∧ ((∃ b2, (body b1 = .ok .nx b2 ∨ body b1 = .ok .cnt b2) ∧ I ds b2) ∨ (∃ v b2, body b1 = .ok (.ret v) b2 ∧ Q (.ok (.ret v) b2)) ∨ ∃ b2, body b1 = .ok .brk b2 ∧ Q (.ok .nx b2))) → Q (forL g body ds b)
  | [], b, h, h0, _ => h0 b h
  | d :: ds, b, h, h0, hs => by
    rw [forL_cons]
    obtain ⟨b1, e1, h1⟩ := hs d ds b h
    rw [e1]
    dsimp only
    unfold turnM
    rcases h1 with ⟨b2, e2 | e2, i⟩ | ⟨v, b2, e2, q⟩ | ⟨b2, e2, q⟩
    · rw [e2]; exact forL_inv I Q i h0 hs
    · rw [e2]; exact forL_inv I Q i h0 hs
    · rw [e2]; exact q
    · rw [e2]; exact q
theorem whileM_inv {c : M Bool} {body : M Fl} (I : Nat → BSt → Prop) (Q : R Fl → Prop)
    (hs : ∀ n b, I n b → (∃ b1, c b = .ok false b1 ∧ Q (.ok .nx b1)) ∨ ∃ b1, c b = .ok true b1 ∧ ((∃ b2, (body b1 = .ok .nx b2 ∨ body b1 = .ok .cnt b2) ∧ ∃ j, j < n ∧ I j b2) ∨ (∃ v b2, body b1 = .ok (.ret v) b2 ∧ Q (.ok (.ret v) b2)) ∨ ∃ b2, body b1 = .ok .brk b2 ∧ Q (.ok .nx b2))) :
    ∀ n b, I n b → Q (whileM c body b) := by
  intro n
  induction n using Nat.strongRecOn with
  | ind n ih =>
    intro b h
    rw [whileM_eq]
    unfold ifM M.bind
    rcases hs n b h with ⟨b1, e1, q⟩ | ⟨b1, e1, h1⟩
    · rw [e1]; exact q
    · rw [e1]
      dsimp only
      rw [if_pos rfl]
      unfold turnM
      rcases h1 with ⟨b2, e2 | e2, j, hj, i⟩ | ⟨v, b2, e2, q⟩ | ⟨b2, e2, q⟩
      · rw [e2]; exact ih j hj b2 i
      · rw [e2]; exact ih j hj b2 i
      · rw [e2]; exact q
      · rw [e2]; exact q
/-! ### a whole list's equality -/
theorem seeD_lst {g : GSt} {k : Nat} {xs : List D} (h : g.S k = some (.lst xs)) : seeD g (.ptr k) = .lst xs := by simp [seeD, h]
theorem toPyAll_ints : ∀ ns : List Int, toPyAll (ns.map D.int) = some (ns.map PyData.int)
  | [] => rfl
  | n :: ns => by simp [toPyAll, toPy, toPyAll_ints ns]
theorem canLay_ints : ∀ ns : List Int, PyData.canLayAll0 (ns.map PyData.int) = true
  | [] => rfl
  | n :: ns => by simp [PyData.canLayAll0, PyData.canLay0, canLay_ints ns]
theorem depth_ints : ∀ ns : List Int, PyData.depthAll (ns.map PyData.int) = 0
  | [] => rfl
  | n :: ns => by simp [PyData.depthAll, PyData.depth, depth_ints ns]
theorem shaped_ints (ns : List Int) : SeqAt.shaped (.list (ns.map PyData.int)) = true := by
  simp [SeqAt.shaped, PyData.canLay0, PyData.depth, canLay_ints, depth_ints]
theorem eqv_nil (ns : List Int) : PyData.eqv (.list (ns.map PyData.int)) (.list []) = ns.isEmpty := by
  cases ns <;> simp [PyData.eqv, PyData.eqvAll]
theorem eqB_nil (ns : List Int) : eqB (.lst (ns.map D.int)) (.lst []) = some ns.isEmpty := by
  have h1 : toPy (.lst (ns.map D.int)) = some (.list (ns.map PyData.int)) := by simp [toPy, toPyAll_ints]
  have h2 : toPy (.lst []) = some (.list []) := by simp [toPy, toPyAll]
  have h3 : SeqAt.shaped (.list []) = true := shaped_ints []
  simp [eqB, h1, h2, h3, shaped_ints, eqv_nil]
/-! ### the draws -/
/-- the draws' state: a dict at ks, the large numbers' list at kl; at most n draws so far -/
structure StOk (g : GSt) (ks kl : Nat) (n : Int) : Prop where
  ne : kl ≠ ks
  at_ : ∃ (L cells : List Int) (rest turn : Int), 0 ≤ turn ∧ turn ≤ n ∧ g.S ks = some (.dic [(.inr "large", .ptr kl), (.inr "cells", .lst (cells.map .int)), (.inr "rest", .int rest), (.inr "turn", .int turn)]) ∧ g.S kl = some (.lst (L.map .int))
/-- what a draw leaves as it was -/
structure Fr (g g' : GSt) (ks kl : Nat) : Prop where
  nx : g'.nx = g.nx
  eq : ∀ j, j ≠ ks → j ≠ kl → g'.S j = g.S j
theorem Fr.refl (g : GSt) (ks kl : Nat) : Fr g g ks kl := ⟨rfl, fun _ _ _ => rfl⟩
theorem Fr.trans {g g1 g2 : GSt} {ks kl : Nat} (a : Fr g g1 ks kl) (b : Fr g1 g2 ks kl) : Fr g g2 ks kl := ⟨b.nx.trans a.nx, fun j h1 h2 => (b.eq j h1 h2).trans (a.eq j h1 h2)⟩
theorem put_same {g : GSt} {k : Nat} {so : SO} : (g.put k so).S k = some so := if_pos rfl
theorem put_ne {g : GSt} {k j : Nat} {so : SO} (h : j ≠ k) : (g.put k so).S j = g.S j := if_neg h
theorem put_nx {g : GSt} {k : Nat} {so : SO} : (g.put k so).nx = g.nx := rfl
/-- one prime's round over the cells -/
theorem cells_ok {g : GSt} {t0 t1 : Option Slot} {p : Int} (hp : 0 < p) (hp2 : p < 2 ^ 31) : ∀ (cells : List Int) (x : Int) (t4 : Option Slot), 0 ≤ x → x < 2 ^ 63 → ∃ (y : Int) (t : Option Slot), 0 ≤ y ∧ y < 2 ^ 63 ∧
    forL (gSet 4) (M.bind (bin2 modD (M.bind (consM (bin2 addD (bin2 mulD (getV 3) (M.ret (.int 48271))) (getV 4)) (M.ret [])) intD) (getV 2)) (setV 3)) (cells.map D.int) ⟨g, [t0, t1, some (.val (.int p)), some (.val (.int x)), t4]⟩ = .ok .nx ⟨g, [t0, t1, some (.val (.int p)), some (.val (.int y)), t]⟩
  | [], x, t4, h1, h2 => ⟨x, t4, h1, h2, rfl⟩
  | c :: cells, x, t4, h1, h2 => by
    obtain ⟨y, t, h3, h4, e⟩ := cells_ok hp hp2 cells ((x * 48271 + c) % p) (some (.val (.int c))) (Int.emod_nonneg _ (by omega)) (by have := Int.emod_lt_of_pos (x * 48271 + c) hp; omega)
    refine ⟨y, t, h3, h4, ?_⟩
    rw [← e]
    have hs : small64 48271 := by decide
    simp [forL, turnM, hs, hp]
theorem primes_ok {g : GSt} {ks kl : Nat} {cells : List Int} {rest turn : Int} (h : g.S ks = some (.dic [(.inr "large", .ptr kl), (.inr "cells", .lst (cells.map .int)), (.inr "rest", .int rest), (.inr "turn", .int turn)])) (ht : 0 ≤ turn) (ht2 : turn ≤ 2 ^ 40) :
    ∀ (ps : List Int), (∀ p ∈ ps, 0 < p ∧ p < 2 ^ 31) → ∀ (f : Int) (t2 t3 t4 : Option Slot), ∃ (f' : Int) (a2 a3 a4 : Option Slot),
    forL (gSet 2) (seqM (M.bind (bin2 addD (bin2 mulD (M.ret (.int 104729)) (ixV 0 (M.ret (.str "turn")))) (bin2 fdivD (getV 2) (M.ret (.int 7)))) (setV 3)) (seqM (forM (itemsM (ixV 0 (M.ret (.str "cells")))) (gSet 4) (M.bind (bin2 modD (M.bind (consM (bin2 addD (bin2 mulD (getV 3) (M.ret (.int 48271))) (getV 4)) (M.ret [])) intD) (getV 2)) (setV 3))) (M.bind (bin2 addD (bin2 mulD (getV 1) (M.ret (.int 2147483647))) (bin2 modD (M.bind (consM (bin2 powD (getV 3) (M.ret (.int 5))) (M.ret [])) intD) (getV 2))) (setV 1))))
      (ps.map D.int) ⟨g, [some (.val (.ptr ks)), some (.val (.int f)), t2, t3, t4]⟩ = .ok .nx ⟨g, [some (.val (.ptr ks)), some (.val (.int f')), a2, a3, a4]⟩
  | [], _, f, t2, t3, t4 => ⟨f, t2, t3, t4, rfl⟩
  | p :: ps, hp, f, t2, t3, t4 => by
    obtain ⟨p0, p1⟩ := hp p (List.mem_cons_self ..)
    have p2 : 0 ≤ p / 7 := Int.ediv_nonneg (by omega) (by decide)
    have p3 : p / 7 < 2 ^ 31 := by omega
    obtain ⟨y, t, y0, y1, ey⟩ := cells_ok (g := g) (t0 := some (.val (.ptr ks))) (t1 := some (.val (.int f))) p0 p1 cells (104729 * turn + p / 7) t4 (by omega) (by omega)
    obtain ⟨f', a2, a3, a4, ef⟩ := primes_ok h ht ht2 ps (fun q hq => hp q (List.mem_cons_of_mem _ hq)) (f * 2147483647 + y ^ 5 % p) (some (.val (.int p))) (some (.val (.int y))) t
    refine ⟨f', a2, a3, a4, ?_⟩
    rw [← ef]
    have hs : small64 104729 := by decide
    have hs2 : small64 2147483647 := by decide
    have hy : y.natAbs < 18446744073709551616 := by omega
    have k1 : ((Sum.inr ("large" : Str) : Key) = Sum.inr ("turn" : Str)) = False := by decide
    have k2 : ((Sum.inr ("cells" : Str) : Key) = Sum.inr ("turn" : Str)) = False := by decide
    have k3 : ((Sum.inr ("rest" : Str) : Key) = Sum.inr ("turn" : Str)) = False := by decide
    have k4 : ((Sum.inr ("large" : Str) : Key) = Sum.inr ("cells" : Str)) = False := by decide
    simp [forL, turnM, hs, hs2, p0, h, dlook_cons, ey, hy]
theorem mixed_ok {g : GSt} {ks kl : Nat} {n : Int} (h : StOk g ks kl n) (hn : n < 2 ^ 40) : ∃ v g', H.f__law_mixed [.ptr ks] g = .ok (.int v) g' ∧ StOk g' ks kl (n + 1) ∧ Fr g g' ks kl := by
  obtain ⟨ne, L, cells, rest, turn, h0, h1, hs, hl⟩ := h
  have e1 : (g.put ks (.dic [(.inr "large", .ptr kl), (.inr "cells", .lst (cells.map .int)), (.inr "rest", .int rest), (.inr "turn", .int (turn + 1))])).S ks = some (.dic [(.inr "large", .ptr kl), (.inr "cells", .lst (cells.map .int)), (.inr "rest", .int rest), (.inr "turn", .int (turn + 1))]) := put_same
  obtain ⟨f, a2, a3, a4, ef⟩ := primes_ok e1 (by omega) (by omega) [2147483629, 2147483587, 2147483579, 2147483563, 2147483549, 2147483543] (by decide) 0 none none none
  refine ⟨f, _, ?_, ⟨ne, L, cells, rest, turn + 1, by omega, by omega, put_same, by rw [put_ne ne]; exact hl⟩, rfl, fun j j1 _ => put_ne j1⟩
  have sz : 4 < sizeLine := by rw [sizeLine_eq]; omega
  have sz6 : 6 ≤ sizeLine := by rw [sizeLine_eq]; omega
  simp at ef
  simp [H.f__law_mixed, H.m__law_mixed, hs, dlook_cons, dput, sz, sz6, ef]
abbrev stD (kl : Nat) (cells : List Int) (rest turn : Int) : SO := .dic [(.inr "large", .ptr kl), (.inr "cells", .lst (cells.map .int)), (.inr "rest", .int rest), (.inr "turn", .int turn)]
theorem take_ok {g : GSt} {ks kl : Nat} {n m : Int} (h : StOk g ks kl n) (hn : n < 2 ^ 40) (h0 : 0 < m) (h1 : m < 2 ^ 30) : ∃ v g', H.f__law_take [.ptr ks, .int m] g = .ok (.int v) g' ∧ 0 ≤ v ∧ v < m ∧ StOk g' ks kl (n + 1) ∧ Fr g g' ks kl := by
  obtain ⟨ne, L, cells, rest, turn, t0, t1, hs, hl⟩ := id h
  have sz : 4 < sizeLine := by rw [sizeLine_eq]; omega
  have h1' : m < 1073741824 := h1
  have en : ks ≠ kl := fun e => ne e.symm
  by_cases hr : rest = 0
  · subst hr
    cases L with
    | cons x L =>
      refine ⟨x % m, ((g.put kl (.lst (L.map .int))).put ks (stD kl cells x turn)).put ks (stD kl cells (x / m) turn), ?_, Int.emod_nonneg _ (by omega), Int.emod_lt_of_pos _ h0, ⟨ne, L, cells, x / m, turn, by omega, by omega, put_same, ?_⟩, ?_, ?_⟩
      rotate_left
      · rw [put_ne ne, put_ne ne, put_same]
      · rfl
      · intro j j1 j2
        rw [put_ne j1, put_ne j1, put_ne j2]
      have e2 := eqB_nil (x :: L)
      simp only [List.map_cons] at e2
      have hl' : g.S kl = some (.lst (D.int x :: L.map D.int)) := hl
      have hp : (0 : Int) < (L.length : Int) + 1 := by omega
      simp [H.f__law_take, H.m__law_take, hs, dlook_cons, dput, sz, neP, seeD, hl', neD_ap, e2, fPopAt, ixN, put_same, put_ne en, put_ne ne, h0, h1', hp]
    | nil =>
      obtain ⟨v, g', e, s', fr⟩ := mixed_ok h hn
      obtain ⟨_, L', cells', rest', turn', u0, u1, hs', hl2⟩ := id s'
      refine ⟨v % m, (g'.put ks (stD kl cells' v turn')).put ks (stD kl cells' (v / m) turn'), ?_, Int.emod_nonneg _ (by omega), Int.emod_lt_of_pos _ h0, ⟨ne, L', cells', v / m, turn', by omega, by omega, put_same, ?_⟩, ?_, ?_⟩
      rotate_left
      · rw [put_ne ne, put_ne ne]; exact hl2
      · exact fr.nx
      · intro j j1 j2
        rw [put_ne j1, put_ne j1]; exact fr.eq j j1 j2
      have e2 := eqB_nil []
      simp only [List.map_nil] at e2
      have hl' : g.S kl = some (.lst []) := hl
      simp [H.f__law_take, H.m__law_take, hs, hs', dlook_cons, dput, sz, neP, seeD, hl', neD_ap, e2, put_same, h0, h1', e]
  · refine ⟨rest % m, g.put ks (stD kl cells (rest / m) turn), ?_, Int.emod_nonneg _ (by omega), Int.emod_lt_of_pos _ h0, ⟨ne, L, cells, rest / m, turn, by omega, by omega, put_same, by rw [put_ne ne]; exact hl⟩, rfl, fun j j1 _ => put_ne j1⟩
    simp [H.f__law_take, H.m__law_take, hs, dlook_cons, dput, sz, hr, h0, h1']
theorem atI_last {α : Type} {xs : List α} {x : α} : atI (xs ++ [x]) (-1) = some x := by
  have h : (-1 : Int) + ((xs.length : Int) + 1) = xs.length := by omega
  have h2 : (1 : Int) ≤ (xs.length : Int) + 1 := by omega
  simp [atI, ixN, h, h2]
theorem atI_nat {α : Type} {xs : List α} {i : Int} {x : α} (h0 : 0 ≤ i) (h : xs[i.toNat]? = some x) : atI xs i = some x := by
  have h1 : i.toNat < xs.length := (List.getElem?_eq_some_iff.mp h).1
  have h2 : i < xs.length := by omega
  simp [atI, ixN, h0, h2, (List.getElem?_eq_some_iff.mp h).2]
theorem pick_ok {g : GSt} {ks kl : Nat} {n : Int} (h : StOk g ks kl n) (hn : n < 2 ^ 40) {ds : List D} (h0 : 0 < ds.length) (h1 : ds.length < 2 ^ 30) : ∃ d g', H.f__law_pick [.ptr ks, .lst ds] g = .ok d g' ∧ d ∈ ds ∧ StOk g' ks kl (n + 1) ∧ Fr g g' ks kl := by
  obtain ⟨v, g', e, v0, v1, s', fr⟩ := take_ok (m := (ds.length : Int)) h hn (by omega) (by omega)
  have hv : v.toNat < ds.length := by omega
  refine ⟨ds[v.toNat], g', ?_, List.getElem_mem hv, s', fr⟩
  have ha : atI ds v = some ds[v.toNat] := atI_nat v0 (List.getElem?_eq_getElem hv)
  simp [H.f__law_pick, H.m__law_pick, e, ha]
theorem large_ok {g : GSt} {s : Slot} {elt : M D} {tt : M Bool} (ht : ∀ x : Int, ∃ c : Bool, tt ⟨g, [some s, none, some (.val (.int x))]⟩ = .ok c ⟨g, [some s, none, some (.val (.int x))]⟩) (he : ∀ x : Int, elt ⟨g, [some s, none, some (.val (.int x))]⟩ = .ok (.int (x - 10 ^ 18)) ⟨g, [some s, none, some (.val (.int x))]⟩) :
    ∀ (ns : List Int) (acc : List Int), acc.length + ns.length ≤ 1000 → ∃ L : List Int, compL (gSet 2) tt elt [2] (acc.map .int) (ns.map .int) ⟨g, [some s, none, none]⟩ = .ok (L.map .int) ⟨g, [some s, none, none]⟩
  | [], acc, _ => ⟨acc, rfl⟩
  | n :: ns, acc, h => by
    simp only [List.length_cons] at h
    obtain ⟨c, hc⟩ := ht n
    cases c with
    | false =>
      obtain ⟨L, e⟩ := large_ok ht he ns acc (by omega)
      refine ⟨L, ?_⟩
      simp [compL, hc, BSt.wip, wipeT, e]
    | true =>
      obtain ⟨L, e⟩ := large_ok ht he ns (acc ++ [n - 10 ^ 18]) (by simp; omega)
      refine ⟨L, ?_⟩
      have sz : acc.length < sizeLine := by rw [sizeLine_eq]; omega
      simp at e
      have he' := he n
      simp at he'
      simp [compL, hc, he', BSt.wip, wipeT, sz, e]
theorem begun_ok (ns : List Int) (hl : ns.length ≤ 63) : ∃ g', H.f__law_begun [.scr ns] ⟨fun _ => none, 0⟩ = .ok (.ptr 1) g' ∧ StOk g' 1 0 0 ∧ g'.nx = 2 := by
  obtain ⟨L, e⟩ := large_ok (g := ⟨fun _ => none, 0⟩) (s := .val (.scr ns)) (tt := isB (bin2 geD (getV 2) (bin2 powD (M.ret (.int 10)) (M.ret (.int 18))))) (elt := bin2 subD (getV 2) (bin2 powD (M.ret (.int 10)) (M.ret (.int 18)))) (fun x => ⟨decide (x ≥ 10 ^ 18), by simp⟩) (fun x => by simp) ns [] (by simp; omega)
  refine ⟨((⟨fun _ => none, 0⟩ : GSt).new (.lst (L.map .int))).new (stD 0 ns 0 0), ?_, ⟨by decide, L, ns, 0, 0, by omega, by omega, rfl, rfl⟩, rfl⟩
  simp only [List.map_nil] at e
  simp [H.f__law_begun, H.m__law_begun, lcN, BSt.wip, wipeT, e, GSt.new, toLst, mergeD, dput]
end
end L2.VI

namespace L2.VI.K76
open PySem PySem.Spec PyProof.Rows He L2 L2.VI
noncomputable section
abbrev PW : Program := PySem.Challenge.pw_wholepaid_k76_months_and_extras
def st (i : Nat) : Stmt := PW.main.body.getD i (.Pass ⟨0, 0, 0, 0⟩)
def clsB : Stmt → List Stmt
  | .ClassDef (body := b) .. => b
  | _ => []
def stC (i j : Nat) : Stmt := (clsB (st i)).getD j (.Pass ⟨0, 0, 0, 0⟩)
abbrev s_month_with : Stmt := st 15
def d_month_with : He.DefD := ⟨("month_with", none), "month_with", "month_with", defArgs s_month_with, defBody s_month_with, defScope s_month_with, [], []⟩
abbrev s_row_with : Stmt := st 16
def d_row_with : He.DefD := ⟨("row_with", none), "row_with", "row_with", defArgs s_row_with, defBody s_row_with, defScope s_row_with, [], []⟩
abbrev s_is_enough : Stmt := st 19
def d_is_enough : He.DefD := ⟨("is_enough", none), "is_enough", "is_enough", defArgs s_is_enough, defBody s_is_enough, defScope s_is_enough, [], []⟩
abbrev s_is_number : Stmt := st 5
def d_is_number : He.DefD := ⟨("is_number", none), "is_number", "is_number", defArgs s_is_number, defBody s_is_number, defScope s_is_number, [], []⟩
abbrev s_is_number_in : Stmt := st 6
def d_is_number_in : He.DefD := ⟨("is_number_in", none), "is_number_in", "is_number_in", defArgs s_is_number_in, defBody s_is_number_in, defScope s_is_number_in, [], []⟩
abbrev s_need_plan : Stmt := st 13
def d_need_plan : He.DefD := ⟨("need_plan", none), "need_plan", "need_plan", defArgs s_need_plan, defBody s_need_plan, defScope s_need_plan, [], []⟩
abbrev s_need_balance : Stmt := st 14
def d_need_balance : He.DefD := ⟨("need_balance", none), "need_balance", "need_balance", defArgs s_need_balance, defBody s_need_balance, defScope s_need_balance, [], []⟩
abbrev s_least_extra : Stmt := st 20
def d_least_extra : He.DefD := ⟨("least_extra", none), "least_extra", "least_extra", defArgs s_least_extra, defBody s_least_extra, defScope s_least_extra, [], []⟩
abbrev s__law_step : Stmt := st 30
def d__law_step : He.DefD := ⟨("_law_step", none), "_law_step", "_law_step", defArgs s__law_step, defBody s__law_step, defScope s__law_step, [], []⟩
abbrev s__law_walk : Stmt := st 31
def d__law_walk : He.DefD := ⟨("_law_walk", none), "_law_walk", "_law_walk", defArgs s__law_walk, defBody s__law_walk, defScope s__law_walk, [], []⟩
abbrev s__law_ends : Stmt := st 32
def d__law_ends : He.DefD := ⟨("_law_ends", none), "_law_ends", "_law_ends", defArgs s__law_ends, defBody s__law_ends, defScope s__law_ends, [], []⟩
abbrev s__law_is_number : Stmt := st 29
def d__law_is_number : He.DefD := ⟨("_law_is_number", none), "_law_is_number", "_law_is_number", defArgs s__law_is_number, defBody s__law_is_number, defScope s__law_is_number, [], []⟩
abbrev s__law_mixed : Stmt := st 23
def d__law_mixed : He.DefD := ⟨("_law_mixed", none), "_law_mixed", "_law_mixed", defArgs s__law_mixed, defBody s__law_mixed, defScope s__law_mixed, [], []⟩
abbrev s__law_take : Stmt := st 24
def d__law_take : He.DefD := ⟨("_law_take", none), "_law_take", "_law_take", defArgs s__law_take, defBody s__law_take, defScope s__law_take, [], []⟩
abbrev s__law_pick : Stmt := st 26
def d__law_pick : He.DefD := ⟨("_law_pick", none), "_law_pick", "_law_pick", defArgs s__law_pick, defBody s__law_pick, defScope s__law_pick, [], []⟩
abbrev s__law_sum_drawn : Stmt := st 34
def d__law_sum_drawn : He.DefD := ⟨("_law_sum_drawn", none), "_law_sum_drawn", "_law_sum_drawn", defArgs s__law_sum_drawn, defBody s__law_sum_drawn, defScope s__law_sum_drawn, [], []⟩
abbrev s_greatest_to : Stmt := st 17
def d_greatest_to : He.DefD := ⟨("greatest_to", none), "greatest_to", "greatest_to", defArgs s_greatest_to, defBody s_greatest_to, defScope s_greatest_to, [], []⟩
abbrev s_Plan_share : Stmt := stC 12 2
def d_Plan_share : He.DefD := ⟨("Plan", some "share"), "share", "Plan.share", defArgs s_Plan_share, defBody s_Plan_share, defScope s_Plan_share, [], []⟩
abbrev s_most_within : Stmt := st 18
def d_most_within : He.DefD := ⟨("most_within", none), "most_within", "most_within", defArgs s_most_within, defBody s_most_within, defScope s_most_within, [], []⟩
abbrev s__law_most_right : Stmt := st 33
def d__law_most_right : He.DefD := ⟨("_law_most_right", none), "_law_most_right", "_law_most_right", defArgs s__law_most_right, defBody s__law_most_right, defScope s__law_most_right, [], []⟩
abbrev s_Plan_init : Stmt := stC 12 0
def d_Plan_init : He.DefD := ⟨("Plan", some "__init__"), "__init__", "Plan.__init__", defArgs s_Plan_init, defBody s_Plan_init, defScope s_Plan_init, [.bl false], []⟩
abbrev s__law_planned : Stmt := st 28
def d__law_planned : He.DefD := ⟨("_law_planned", none), "_law_planned", "_law_planned", defArgs s__law_planned, defBody s__law_planned, defScope s__law_planned, [], []⟩
abbrev s__law_parts : Stmt := st 27
def d__law_parts : He.DefD := ⟨("_law_parts", none), "_law_parts", "_law_parts", defArgs s__law_parts, defBody s__law_parts, defScope s__law_parts, [], []⟩
abbrev s__law_known_right : Stmt := st 25
def d__law_known_right : He.DefD := ⟨("_law_known_right", none), "_law_known_right", "_law_known_right", defArgs s__law_known_right, defBody s__law_known_right, defScope s__law_known_right, [], []⟩
abbrev s__law_begun : Stmt := st 22
def d__law_begun : He.DefD := ⟨("_law_begun", none), "_law_begun", "_law_begun", defArgs s__law_begun, defBody s__law_begun, defScope s__law_begun, [], []⟩
abbrev s_law : Stmt := st 35
def d_law : He.DefD := ⟨("law", none), "law", "law", defArgs s_law, defBody s_law, defScope s_law, [], []⟩
def fn : List He.DefD := [d_month_with, d_row_with, d_is_enough, d_is_number, d_is_number_in, d_need_plan, d_need_balance, d_least_extra, d__law_step, d__law_walk, d__law_ends, d__law_is_number, d__law_mixed, d__law_take, d__law_pick, d__law_sum_drawn, d_greatest_to, d_most_within, d__law_most_right, d_Plan_init, d__law_planned, d__law_parts, d__law_known_right, d__law_begun, d_law]
def gs : Gets := [(("Plan", "share"), d_Plan_share)]
def fa : List He.Fa := [.free "len", .free "min", .free "range", .free "max", .int "THOUSAND" 1000, .noat "Plan" "l_parts", .cls "Plan", .glo "month_with", .glo "row_with", .glo "is_enough", .free "int", .free "isinstance", .free "bool", .glo "is_number", .int "MOST_MONTHS" 100, .glo "is_number_in", .int "MOST_BALANCE" 100000, .glo "Plan", .glo "need_plan", .glo "need_balance", .glo "least_extra", .glo "_law_step", .glo "_law_walk", .glo "_law_ends", .glo "_law_is_number", .glo "_law_mixed", .glo "_law_take", .glo "_law_pick", .glo "_law_sum_drawn", .glo "greatest_to", .glo "most_within", .free "repr", .glo "_law_most_right", .int "MOST_LEAST" 1000000, .mkr "Plan", .glo "_law_planned", .glo "_law_parts", .glo "_law_known_right", .free "list", .glo "_law_begun", .glo "law"]
def exs : List (PySem.W.Frag → Bool) := [kitsB "Plan", clsIB "Plan", kit1B "Plan" (.inr "Plan") true]
structure Ctx (K : PySem.W.Frag) (mg : Str → Option Value) : Prop where
  says : SaysV fa fn gs (exAll exs) K
  ns : ∃ h : Heap, K.In h ∧ h.Ns mainGlobals mg
section
variable {K : PySem.W.Frag} {mg : Str → Option Value}
theorem Ctx.fact (C : Ctx K mg) (i : Nat) (f : He.Fa) (h : fa[i]? = some f := by rfl) : f.ok K = true := C.says.d.fact i h
theorem Ctx.glo (C : Ctx K mg) (i : Nat) (x : Str) (h : fa[i]? = some (.glo x) := by rfl) : mg x = some (.ref (ga K x)) := by
  obtain ⟨h0, X, G⟩ := C.ns
  exact glo_ok X G (C.fact i _ h)
theorem Ctx.free (C : Ctx K mg) (i : Nat) (x : Str) (h : fa[i]? = some (.free x) := by rfl) : mg x = none := by
  obtain ⟨h0, X, G⟩ := C.ns
  exact free_ok X G (C.fact i _ h)
theorem Ctx.int (C : Ctx K mg) (i : Nat) (x : Str) (n : Int) (h : fa[i]? = some (.int x n) := by rfl) : ∃ t, mg x = some (.int n t) := by
  obtain ⟨h0, X, G⟩ := C.ns
  exact int_ok X G (C.fact i _ h)
theorem Ctx.str (C : Ctx K mg) (i : Nat) (x z : Str) (h : fa[i]? = some (.str x z) := by rfl) : ∃ t, mg x = some (.str z t) := by
  obtain ⟨h0, X, G⟩ := C.ns
  exact str_ok X G (C.fact i _ h)
theorem Ctx.cls (C : Ctx K mg) (i : Nat) (x : Str) (h : fa[i]? = some (.cls x) := by rfl) : Cls K (ga K x) := cls_ok (C.fact i _ h)
theorem Ctx.noat (C : Ctx K mg) (i : Nat) (x f : Str) (h : fa[i]? = some (.noat x f) := by rfl) : NoAttr K (ga K x) f := noat_ok (C.fact i _ h)
theorem Ctx.meth (C : Ctx K mg) (i : Nat) (x m : Str) (h : fa[i]? = some (.meth x m) := by rfl) : Meth K (ga K x) m (ma K (ga K x) m) := meth_ok (C.fact i _ h)
theorem Ctx.mkr (C : Ctx K mg) (i : Nat) (x : Str) (h : fa[i]? = some (.mkr x) := by rfl) : Mk K (ga K x) (ma K (ga K x) "__init__") := mkr_ok (C.fact i _ h)
theorem Ctx.ex (C : Ctx K mg) (i : Nat) {f : PySem.W.Frag → Bool} (h : exs[i]? = some f := by rfl) : f K = true := exAt C.says.more i h
theorem Ctx.get (C : Ctx K mg) (i : Nat) (p : Str × Str) (d : He.DefD) (h : gs[i]? = some (p, d) := by rfl) : PropOf K (ga K p.1) p.2 (ma K (ga K p.1) p.2) (pgA K p) ∧ FunD K d.name d.qual d.params d.body d.scope [] [] (pgA K p) (fdA K (pgA K p)) := C.says.get i h
end
theorem fun_month_with {K : PySem.W.Frag} {mg : Str → Option Value} (C : Ctx K mg) : FunD K "month_with" "month_with" (defArgs s_month_with) (defBody s_month_with) (defScope s_month_with) [] [] (ga K "month_with") (fdA K (ga K "month_with")) := C.says.fn_ 0 (d := d_month_with) rfl
theorem fun_row_with {K : PySem.W.Frag} {mg : Str → Option Value} (C : Ctx K mg) : FunD K "row_with" "row_with" (defArgs s_row_with) (defBody s_row_with) (defScope s_row_with) [] [] (ga K "row_with") (fdA K (ga K "row_with")) := C.says.fn_ 1 (d := d_row_with) rfl
theorem fun_is_enough {K : PySem.W.Frag} {mg : Str → Option Value} (C : Ctx K mg) : FunD K "is_enough" "is_enough" (defArgs s_is_enough) (defBody s_is_enough) (defScope s_is_enough) [] [] (ga K "is_enough") (fdA K (ga K "is_enough")) := C.says.fn_ 2 (d := d_is_enough) rfl
theorem fun_is_number {K : PySem.W.Frag} {mg : Str → Option Value} (C : Ctx K mg) : FunD K "is_number" "is_number" (defArgs s_is_number) (defBody s_is_number) (defScope s_is_number) [] [] (ga K "is_number") (fdA K (ga K "is_number")) := C.says.fn_ 3 (d := d_is_number) rfl
theorem fun_is_number_in {K : PySem.W.Frag} {mg : Str → Option Value} (C : Ctx K mg) : FunD K "is_number_in" "is_number_in" (defArgs s_is_number_in) (defBody s_is_number_in) (defScope s_is_number_in) [] [] (ga K "is_number_in") (fdA K (ga K "is_number_in")) := C.says.fn_ 4 (d := d_is_number_in) rfl
theorem fun_need_plan {K : PySem.W.Frag} {mg : Str → Option Value} (C : Ctx K mg) : FunD K "need_plan" "need_plan" (defArgs s_need_plan) (defBody s_need_plan) (defScope s_need_plan) [] [] (ga K "need_plan") (fdA K (ga K "need_plan")) := C.says.fn_ 5 (d := d_need_plan) rfl
theorem fun_need_balance {K : PySem.W.Frag} {mg : Str → Option Value} (C : Ctx K mg) : FunD K "need_balance" "need_balance" (defArgs s_need_balance) (defBody s_need_balance) (defScope s_need_balance) [] [] (ga K "need_balance") (fdA K (ga K "need_balance")) := C.says.fn_ 6 (d := d_need_balance) rfl
theorem fun_least_extra {K : PySem.W.Frag} {mg : Str → Option Value} (C : Ctx K mg) : FunD K "least_extra" "least_extra" (defArgs s_least_extra) (defBody s_least_extra) (defScope s_least_extra) [] [] (ga K "least_extra") (fdA K (ga K "least_extra")) := C.says.fn_ 7 (d := d_least_extra) rfl
theorem fun__law_step {K : PySem.W.Frag} {mg : Str → Option Value} (C : Ctx K mg) : FunD K "_law_step" "_law_step" (defArgs s__law_step) (defBody s__law_step) (defScope s__law_step) [] [] (ga K "_law_step") (fdA K (ga K "_law_step")) := C.says.fn_ 8 (d := d__law_step) rfl
theorem fun__law_walk {K : PySem.W.Frag} {mg : Str → Option Value} (C : Ctx K mg) : FunD K "_law_walk" "_law_walk" (defArgs s__law_walk) (defBody s__law_walk) (defScope s__law_walk) [] [] (ga K "_law_walk") (fdA K (ga K "_law_walk")) := C.says.fn_ 9 (d := d__law_walk) rfl
theorem fun__law_ends {K : PySem.W.Frag} {mg : Str → Option Value} (C : Ctx K mg) : FunD K "_law_ends" "_law_ends" (defArgs s__law_ends) (defBody s__law_ends) (defScope s__law_ends) [] [] (ga K "_law_ends") (fdA K (ga K "_law_ends")) := C.says.fn_ 10 (d := d__law_ends) rfl
theorem fun__law_is_number {K : PySem.W.Frag} {mg : Str → Option Value} (C : Ctx K mg) : FunD K "_law_is_number" "_law_is_number" (defArgs s__law_is_number) (defBody s__law_is_number) (defScope s__law_is_number) [] [] (ga K "_law_is_number") (fdA K (ga K "_law_is_number")) := C.says.fn_ 11 (d := d__law_is_number) rfl
theorem fun__law_mixed {K : PySem.W.Frag} {mg : Str → Option Value} (C : Ctx K mg) : FunD K "_law_mixed" "_law_mixed" (defArgs s__law_mixed) (defBody s__law_mixed) (defScope s__law_mixed) [] [] (ga K "_law_mixed") (fdA K (ga K "_law_mixed")) := C.says.fn_ 12 (d := d__law_mixed) rfl
theorem fun__law_take {K : PySem.W.Frag} {mg : Str → Option Value} (C : Ctx K mg) : FunD K "_law_take" "_law_take" (defArgs s__law_take) (defBody s__law_take) (defScope s__law_take) [] [] (ga K "_law_take") (fdA K (ga K "_law_take")) := C.says.fn_ 13 (d := d__law_take) rfl
theorem fun__law_pick {K : PySem.W.Frag} {mg : Str → Option Value} (C : Ctx K mg) : FunD K "_law_pick" "_law_pick" (defArgs s__law_pick) (defBody s__law_pick) (defScope s__law_pick) [] [] (ga K "_law_pick") (fdA K (ga K "_law_pick")) := C.says.fn_ 14 (d := d__law_pick) rfl
theorem fun__law_sum_drawn {K : PySem.W.Frag} {mg : Str → Option Value} (C : Ctx K mg) : FunD K "_law_sum_drawn" "_law_sum_drawn" (defArgs s__law_sum_drawn) (defBody s__law_sum_drawn) (defScope s__law_sum_drawn) [] [] (ga K "_law_sum_drawn") (fdA K (ga K "_law_sum_drawn")) := C.says.fn_ 15 (d := d__law_sum_drawn) rfl
theorem fun_greatest_to {K : PySem.W.Frag} {mg : Str → Option Value} (C : Ctx K mg) : FunD K "greatest_to" "greatest_to" (defArgs s_greatest_to) (defBody s_greatest_to) (defScope s_greatest_to) [] [] (ga K "greatest_to") (fdA K (ga K "greatest_to")) := C.says.fn_ 16 (d := d_greatest_to) rfl
theorem fun_Plan_share {K : PySem.W.Frag} {mg : Str → Option Value} (C : Ctx K mg) : FunD K "share" "Plan.share" (defArgs s_Plan_share) (defBody s_Plan_share) (defScope s_Plan_share) [] [] (pgA K ("Plan", "share")) (fdA K (pgA K ("Plan", "share"))) := (C.get 0 ("Plan", "share") d_Plan_share).2
theorem fun_most_within {K : PySem.W.Frag} {mg : Str → Option Value} (C : Ctx K mg) : FunD K "most_within" "most_within" (defArgs s_most_within) (defBody s_most_within) (defScope s_most_within) [] [] (ga K "most_within") (fdA K (ga K "most_within")) := C.says.fn_ 17 (d := d_most_within) rfl
theorem fun__law_most_right {K : PySem.W.Frag} {mg : Str → Option Value} (C : Ctx K mg) : FunD K "_law_most_right" "_law_most_right" (defArgs s__law_most_right) (defBody s__law_most_right) (defScope s__law_most_right) [] [] (ga K "_law_most_right") (fdA K (ga K "_law_most_right")) := C.says.fn_ 18 (d := d__law_most_right) rfl
theorem fun_Plan_init {K : PySem.W.Frag} {mg : Str → Option Value} (C : Ctx K mg) : FunD K "__init__" "Plan.__init__" (defArgs s_Plan_init) (defBody s_Plan_init) (defScope s_Plan_init) (DefD.dvs K d_Plan_init) [] (fAd K ("Plan", some "__init__")) (fdA K (fAd K ("Plan", some "__init__"))) := C.says.fn_ 19 (d := d_Plan_init) rfl
theorem fun__law_planned {K : PySem.W.Frag} {mg : Str → Option Value} (C : Ctx K mg) : FunD K "_law_planned" "_law_planned" (defArgs s__law_planned) (defBody s__law_planned) (defScope s__law_planned) [] [] (ga K "_law_planned") (fdA K (ga K "_law_planned")) := C.says.fn_ 20 (d := d__law_planned) rfl
theorem fun__law_parts {K : PySem.W.Frag} {mg : Str → Option Value} (C : Ctx K mg) : FunD K "_law_parts" "_law_parts" (defArgs s__law_parts) (defBody s__law_parts) (defScope s__law_parts) [] [] (ga K "_law_parts") (fdA K (ga K "_law_parts")) := C.says.fn_ 21 (d := d__law_parts) rfl
theorem fun__law_known_right {K : PySem.W.Frag} {mg : Str → Option Value} (C : Ctx K mg) : FunD K "_law_known_right" "_law_known_right" (defArgs s__law_known_right) (defBody s__law_known_right) (defScope s__law_known_right) [] [] (ga K "_law_known_right") (fdA K (ga K "_law_known_right")) := C.says.fn_ 22 (d := d__law_known_right) rfl
theorem fun__law_begun {K : PySem.W.Frag} {mg : Str → Option Value} (C : Ctx K mg) : FunD K "_law_begun" "_law_begun" (defArgs s__law_begun) (defBody s__law_begun) (defScope s__law_begun) [] [] (ga K "_law_begun") (fdA K (ga K "_law_begun")) := C.says.fn_ 23 (d := d__law_begun) rfl
theorem fun_law {K : PySem.W.Frag} {mg : Str → Option Value} (C : Ctx K mg) : FunD K "law" "law" (defArgs s_law) (defBody s_law) (defScope s_law) [] [] (ga K "law") (fdA K (ga K "law")) := C.says.fn_ 24 (d := d_law) rfl
/-! month_with: slots 0 plan, 1 balance, 2 extra, 3 rate, 4 share, 5 least, 6 plus, 7 interest, 8 owed, 9 wanted, 10 payment -/
def m_month_with : M Fl := seqM (asgM (fldM "Plan" "l_parts" (getV 0)) (gTupM 4 (gsCons (gSet 3) (gsCons (gSet 4) (gsCons (gSet 5) (gsCons (gSet 6) (gsNil))))))) (seqM (M.bind (bin2 fdivD (bin2 mulD (getV 1) (getV 3)) (M.ret (.int 1000))) (setV 7)) (seqM (M.bind (bin2 addD (getV 1) (getV 7)) (setV 8)) (seqM (ifM (isB (bin2 leD (getV 8) (getV 5))) (retM (tupM (consM (getV 7) (consM (getV 8) (consM (M.ret (.int 0)) (M.ret [])))))) (M.ret .nx)) (seqM (M.bind (ifM (isB (getV 6)) (bin2 addD (getV 7) (bin2 fdivD (bin2 mulD (getV 1) (getV 4)) (M.ret (.int 1000)))) (bin2 fdivD (bin2 mulD (getV 8) (getV 4)) (M.ret (.int 1000)))) (setV 9)) (seqM (M.bind (M.bind (consM (getV 8) (consM (bin2 addD (M.bind (consM (getV 5) (consM (getV 9) (M.ret []))) max2D) (getV 2)) (M.ret []))) min2D) (setV 10)) (retM (tupM (consM (getV 7) (consM (getV 10) (consM (bin2 subD (getV 8) (getV 10)) (M.ret [])))))))))))
def f_month_with : FnD := fnBody 3 11 m_month_with
theorem sc_month_with : FnScope ["plan", "balance", "extra", "rate", "share", "least", "plus", "interest", "owed", "wanted", "payment"] ["plan", "balance", "extra"] (defScope s_month_with) := ⟨rfl, rfl, rfl, by decide +kernel, rfl, by decide +kernel, by decide +kernel⟩
theorem b_month_with {K : PySem.W.Frag} {mg : Str → Option Value} (C : Ctx K mg) : Binds K (fdA K (ga K "month_with")) ["plan", "balance", "extra"] [] := (fun_month_with C).bindsN fun _ _ _ _ _ _ us hl => match us, hl with | [_, _, _], _ => rfl
theorem ok_month_with {w : World} {K : PySem.W.Frag} {mg : Str → Option Value} {base : Heap} (C : Ctx K mg) : OkV PW w K mg base 1 (ga K "month_with") ["plan", "balance", "extra"] f_month_with :=
  fn_okV (qual := "month_with") (scope := defScope s_month_with) (body := defBody s_month_with) (m := m_month_with) (k := 0) (fun_month_with C) sc_month_with rfl rfl fun cdv A outer s H E hr => ss_cons (ss_asg (vs := [3, 4, 5, 6]) (se_fld (sv 0) (C.cls 6 "Plan") (C.noat 5 "Plan" "l_parts")) (sg_tup (sgs_cons (sg_name sc_month_with.nd) (sgs_cons (sg_name sc_month_with.nd) (sgs_cons (sg_name sc_month_with.nd) (sgs_cons (sg_name sc_month_with.nd) (sgs_nil))))))) (ss_cons (ss_set sc_month_with.nd (se_bin ov_fdiv (se_bin ov_mul (sv 1) (sv 3)) (se_gint (C.int 4 "THOUSAND" 1000)))) (ss_cons (ss_set sc_month_with.nd (se_bin ov_add (sv 1) (sv 7))) (ss_cons (ss_if (sb_cmp ov_le (sv 8) (sv 5) (nomark _)) (ss_one (ss_ret (se_tup (sa_cons (sv 7) (sa_cons (sv 8) (sa_cons (se_int) (sa_nil))))))) (ss_nil)) (ss_cons (ss_set sc_month_with.nd (se_if (sb_val (sv 6)) (se_bin ov_add (sv 7) (se_bin ov_fdiv (se_bin ov_mul (sv 1) (sv 4)) (se_gint (C.int 4 "THOUSAND" 1000)))) (se_bin ov_fdiv (se_bin ov_mul (sv 8) (sv 4)) (se_gint (C.int 4 "THOUSAND" 1000))))) (ss_cons (ss_set sc_month_with.nd (se_callB cv_min2 (C.free 1 "min") (by decide +kernel) (sa_cons (sv 8) (sa_cons (se_bin ov_add (se_callB cv_max2 (C.free 3 "max") (by decide +kernel) (sa_cons (sv 5) (sa_cons (sv 9) (sa_nil)))) (sv 2)) (sa_nil))))) (ss_one (ss_ret (se_tup (sa_cons (sv 7) (sa_cons (sv 10) (sa_cons (se_bin ov_sub (sv 8) (sv 10)) (sa_nil))))))))))))
/-! row_with: slots 0 plan, 1 balance, 2 extra, 3 found, 4 later -/
def m_row_with : M Fl := seqM (M.bind (lstN (consM (getV 1) (M.ret []))) (setO 3)) (seqM (whileM (isB (bin2 gtD (ixV 3 (negM (M.ret (.int 1)))) (M.ret (.int 0)))) (seqM (M.bind (bin2 ixD (M.bind (consM (getV 0) (consM (ixV 3 (negM (M.ret (.int 1)))) (consM (getV 2) (M.ret [])))) (callF f_month_with)) (M.ret (.int 2))) (setV 4)) (seqM (ifM (isB (bin2 geD (getV 4) (ixV 3 (negM (M.ret (.int 1)))))) (retM (getV 3)) (M.ret .nx)) (exprM (methO 3 "list" fAppend (consM (getV 4) (M.ret []))))))) (retM (getV 3)))
def f_row_with : FnD := fnBody 3 5 m_row_with
theorem sc_row_with : FnScope ["plan", "balance", "extra", "found", "later"] ["plan", "balance", "extra"] (defScope s_row_with) := ⟨rfl, rfl, rfl, by decide +kernel, rfl, by decide +kernel, by decide +kernel⟩
theorem b_row_with {K : PySem.W.Frag} {mg : Str → Option Value} (C : Ctx K mg) : Binds K (fdA K (ga K "row_with")) ["plan", "balance", "extra"] [] := (fun_row_with C).bindsN fun _ _ _ _ _ _ us hl => match us, hl with | [_, _, _], _ => rfl
theorem ok_row_with {w : World} {K : PySem.W.Frag} {mg : Str → Option Value} {base : Heap} (C : Ctx K mg) : OkV PW w K mg base 2 (ga K "row_with") ["plan", "balance", "extra"] f_row_with :=
  fn_okV (qual := "row_with") (scope := defScope s_row_with) (body := defBody s_row_with) (m := m_row_with) (k := 1) (fun_row_with C) sc_row_with rfl rfl fun cdv A outer s H E hr => ss_cons (ss_setO sc_row_with.nd (sn_lst (sa_cons (sv 1) (sa_nil)))) (ss_cons (ss_while (passes_of rfl) (sb_cmp ov_gt (se_ixV (hu_of hr) (pvv 3) (se_neg (se_int))) (se_int) (nomark _)) (ss_cons (ss_set sc_row_with.nd (se_ix (hu_of hr) (se_call (takes_of rfl rfl rfl rfl) ((ok_month_with C).mono (by decide : 1 ≤ 1)) ar_of hr (C.glo 7 "month_with") (fun_month_with C).kp (b_month_with C) (sa_cons (sv 0) (sa_cons (se_ixV (hu_of hr) (pvv 3) (se_neg (se_int))) (sa_cons (sv 2) (sa_nil))))) (se_int))) (ss_cons (ss_if (sb_cmp ov_ge (sv 4) (se_ixV (hu_of hr) (pvv 3) (se_neg (se_int))) (nomark _)) (ss_one (ss_ret (sv 3))) (ss_nil)) (ss_one (ss_expr (se_methO mo_append PySem.F.plainAttrs_list PySem.F.slot_list_append (by rfl) (pvv 3) (sa_cons (sv 4) (sa_nil)))))))) (ss_one (ss_ret (sv 3))))
/-! is_enough: slots 0 plan, 1 balance, 2 months, 3 extra, 4 row -/
def m_is_enough : M Fl := seqM (M.bind (M.bind (consM (getV 0) (consM (getV 1) (consM (getV 3) (M.ret [])))) (callF f_row_with)) (setV 4)) (retM (andD (bin2 eqD (ixV 4 (negM (M.ret (.int 1)))) (M.ret (.int 0))) (orD (bin2 isND (getV 2) (M.ret .non)) (bin2 leD (bin2 subD (lenV 4) (M.ret (.int 1))) (getV 2)))))
def f_is_enough : FnD := fnBody 4 5 m_is_enough
theorem sc_is_enough : FnScope ["plan", "balance", "months", "extra", "row"] ["plan", "balance", "months", "extra"] (defScope s_is_enough) := ⟨rfl, rfl, rfl, by decide +kernel, rfl, by decide +kernel, by decide +kernel⟩
theorem b_is_enough {K : PySem.W.Frag} {mg : Str → Option Value} (C : Ctx K mg) : Binds K (fdA K (ga K "is_enough")) ["plan", "balance", "months", "extra"] [] := (fun_is_enough C).bindsN fun _ _ _ _ _ _ us hl => match us, hl with | [_, _, _, _], _ => rfl
theorem ok_is_enough {w : World} {K : PySem.W.Frag} {mg : Str → Option Value} {base : Heap} (C : Ctx K mg) : OkV PW w K mg base 3 (ga K "is_enough") ["plan", "balance", "months", "extra"] f_is_enough :=
  fn_okV (qual := "is_enough") (scope := defScope s_is_enough) (body := defBody s_is_enough) (m := m_is_enough) (k := 2) (fun_is_enough C) sc_is_enough rfl rfl fun cdv A outer s H E hr => ss_cons (ss_set sc_is_enough.nd (se_call (takes_of rfl rfl rfl rfl) ((ok_row_with C).mono (by decide : 2 ≤ 2)) ar_of hr (C.glo 8 "row_with") (fun_row_with C).kp (b_row_with C) (sa_cons (sv 0) (sa_cons (sv 1) (sa_cons (sv 3) (sa_nil)))))) (ss_one (ss_ret (se_and (se_cmp (ov_eq hr) (se_ixV (hu_of hr) (pvv 4) (se_neg (se_int))) (se_int) (nomark _)) (se_one (se_or (se_cmp ov_isN (sv 2) (se_non) (nomark _)) (se_one (se_cmp ov_le (se_bin ov_sub (se_lenV (pvv 4) (C.free 0 "len")) (se_int)) (sv 2) (nomark _))))))))
/-! is_number: slots 0 value -/
def m_is_number : M Fl := retM (andD (M.bind (consM (getV 0) (consM (M.ret (.ty "int")) (M.ret []))) (isiM (isTyD "int") (fun t => t == "int" || t == "bool") [])) (notD (M.bind (consM (getV 0) (consM (M.ret (.ty "bool")) (M.ret []))) (isiM (isTyD "bool") (fun t => t == "bool") []))))
def f_is_number : FnD := fnBody 1 1 m_is_number
theorem sc_is_number : FnScope ["value"] ["value"] (defScope s_is_number) := ⟨rfl, rfl, rfl, by decide +kernel, rfl, by decide +kernel, by decide +kernel⟩
theorem b_is_number {K : PySem.W.Frag} {mg : Str → Option Value} (C : Ctx K mg) : Binds K (fdA K (ga K "is_number")) ["value"] [] := (fun_is_number C).bindsN fun _ _ _ _ _ _ us hl => match us, hl with | [_], _ => rfl
theorem ok_is_number {w : World} {K : PySem.W.Frag} {mg : Str → Option Value} {base : Heap} (C : Ctx K mg) : OkV PW w K mg base 1 (ga K "is_number") ["value"] f_is_number :=
  fn_okV (qual := "is_number") (scope := defScope s_is_number) (body := defBody s_is_number) (m := m_is_number) (k := 0) (fun_is_number C) sc_is_number rfl rfl fun cdv A outer s H E hr => ss_one (ss_ret (se_and (se_callB (cv_isiT (ho := (fun p hp => nomatch hp))) (C.free 11 "isinstance") (by decide +kernel) (sa_cons (sv 0) (sa_cons (se_bty (n := "int") (C.free 10 "int") (by decide +kernel)) (sa_nil)))) (se_one (se_not (se_callB (cv_isiT (ho := (fun p hp => nomatch hp))) (C.free 11 "isinstance") (by decide +kernel) (sa_cons (sv 0) (sa_cons (se_bty (n := "bool") (C.free 12 "bool") (by decide +kernel)) (sa_nil))))))))
/-! is_number_in: slots 0 value, 1 least, 2 most -/
def m_is_number_in : M Fl := retM (andD (M.bind (consM (getV 0) (M.ret [])) (callF f_is_number)) (chainD leD leD (getV 1) (getV 0) (getV 2)))
def f_is_number_in : FnD := fnBody 3 3 m_is_number_in
theorem sc_is_number_in : FnScope ["value", "least", "most"] ["value", "least", "most"] (defScope s_is_number_in) := ⟨rfl, rfl, rfl, by decide +kernel, rfl, by decide +kernel, by decide +kernel⟩
theorem b_is_number_in {K : PySem.W.Frag} {mg : Str → Option Value} (C : Ctx K mg) : Binds K (fdA K (ga K "is_number_in")) ["value", "least", "most"] [] := (fun_is_number_in C).bindsN fun _ _ _ _ _ _ us hl => match us, hl with | [_, _, _], _ => rfl
theorem ok_is_number_in {w : World} {K : PySem.W.Frag} {mg : Str → Option Value} {base : Heap} (C : Ctx K mg) : OkV PW w K mg base 2 (ga K "is_number_in") ["value", "least", "most"] f_is_number_in :=
  fn_okV (qual := "is_number_in") (scope := defScope s_is_number_in) (body := defBody s_is_number_in) (m := m_is_number_in) (k := 1) (fun_is_number_in C) sc_is_number_in rfl rfl fun cdv A outer s H E hr => ss_one (ss_ret (se_and (se_call (takes_of rfl rfl rfl rfl) ((ok_is_number C).mono (by decide : 1 ≤ 1)) ar_of hr (C.glo 13 "is_number") (fun_is_number C).kp (b_is_number C) (sa_cons (sv 0) (sa_nil))) (se_one (se_chain ob_le ov_le (sv 1) (sv 0) (sv 2)))))
/-! need_plan: slots 0 value -/
def m_need_plan : M Fl := ifM (notB (isB (M.bind (consM (getV 0) (consM (M.ret (.glo "Plan")) (M.ret []))) (isiM (isGloD "Plan") (fun _ => false) [("Plan", true)])))) (M.fail) (M.ret .nx)
def f_need_plan : FnD := fnBody 1 1 m_need_plan
theorem sc_need_plan : FnScope ["value"] ["value"] (defScope s_need_plan) := ⟨rfl, rfl, rfl, by decide +kernel, rfl, by decide +kernel, by decide +kernel⟩
theorem b_need_plan {K : PySem.W.Frag} {mg : Str → Option Value} (C : Ctx K mg) : Binds K (fdA K (ga K "need_plan")) ["value"] [] := (fun_need_plan C).bindsN fun _ _ _ _ _ _ us hl => match us, hl with | [_], _ => rfl
theorem ok_need_plan {w : World} {K : PySem.W.Frag} {mg : Str → Option Value} {base : Heap} (C : Ctx K mg) : OkV PW w K mg base 1 (ga K "need_plan") ["value"] f_need_plan :=
  fn_okV (qual := "need_plan") (scope := defScope s_need_plan) (body := defBody s_need_plan) (m := m_need_plan) (k := 0) (fun_need_plan C) sc_need_plan rfl rfl fun cdv A outer s H E hr => ss_one (ss_if (sb_not (sb_val (se_callB (cv_isiC (kitsB_ok (C := "Plan") (C.ex 0)) (List.forall_mem_cons.mpr ⟨⟨clsIB_ok (c := "Plan") (C.cls 6 "Plan") (C.ex 1), kit1B_ok (c := "Plan") (t := (.inr "Plan")) (r := true) (C.ex 2)⟩, (fun p hp => nomatch hp)⟩)) (C.free 11 "isinstance") (by decide +kernel) (sa_cons (sv 0) (sa_cons (se_glo (C.glo 17 "Plan")) (sa_nil)))))) (ss_one (ss_never)) (ss_nil))
/-! need_balance: slots 0 plan, 1 balance -/
def m_need_balance : M Fl := seqM (exprM (M.bind (consM (getV 0) (M.ret [])) (callF f_need_plan))) (ifM (notB (isB (M.bind (consM (getV 1) (consM (M.ret (.int 0)) (consM (M.ret (.int 100000)) (M.ret [])))) (callF f_is_number_in)))) (M.fail) (M.ret .nx))
def f_need_balance : FnD := fnBody 2 2 m_need_balance
theorem sc_need_balance : FnScope ["plan", "balance"] ["plan", "balance"] (defScope s_need_balance) := ⟨rfl, rfl, rfl, by decide +kernel, rfl, by decide +kernel, by decide +kernel⟩
theorem b_need_balance {K : PySem.W.Frag} {mg : Str → Option Value} (C : Ctx K mg) : Binds K (fdA K (ga K "need_balance")) ["plan", "balance"] [] := (fun_need_balance C).bindsN fun _ _ _ _ _ _ us hl => match us, hl with | [_, _], _ => rfl
theorem ok_need_balance {w : World} {K : PySem.W.Frag} {mg : Str → Option Value} {base : Heap} (C : Ctx K mg) : OkV PW w K mg base 3 (ga K "need_balance") ["plan", "balance"] f_need_balance :=
  fn_okV (qual := "need_balance") (scope := defScope s_need_balance) (body := defBody s_need_balance) (m := m_need_balance) (k := 2) (fun_need_balance C) sc_need_balance rfl rfl fun cdv A outer s H E hr => ss_cons (ss_expr (se_call (takes_of rfl rfl rfl rfl) ((ok_need_plan C).mono (by decide : 1 ≤ 2)) ar_of hr (C.glo 18 "need_plan") (fun_need_plan C).kp (b_need_plan C) (sa_cons (sv 0) (sa_nil)))) (ss_one (ss_if (sb_not (sb_val (se_call (takes_of rfl rfl rfl rfl) ((ok_is_number_in C).mono (by decide : 2 ≤ 2)) ar_of hr (C.glo 15 "is_number_in") (fun_is_number_in C).kp (b_is_number_in C) (sa_cons (sv 1) (sa_cons (se_int) (sa_cons (se_gint (C.int 16 "MOST_BALANCE" 100000)) (sa_nil))))))) (ss_one (ss_never)) (ss_nil)))
/-! least_extra: slots 0 plan, 1 balance, 2 months, 3 low, 4 high, 5 middle -/
def m_least_extra : M Fl := seqM (exprM (M.bind (consM (getV 0) (consM (getV 1) (M.ret []))) (callF f_need_balance))) (seqM (ifM (andB (isB (bin2 notND (getV 2) (M.ret .non))) (notB (isB (M.bind (consM (getV 2) (consM (M.ret (.int 1)) (consM (M.ret (.int 100)) (M.ret [])))) (callF f_is_number_in))))) (M.fail) (M.ret .nx)) (seqM (ifM (isB (M.bind (consM (getV 0) (consM (getV 1) (consM (getV 2) (consM (M.ret (.int 0)) (M.ret []))))) (callF f_is_enough))) (retM (M.ret (.int 0))) (M.ret .nx)) (seqM (set2 3 4 (consM (M.ret (.int 0)) (consM (bin2 mulD (M.ret (.int 2)) (getV 1)) (M.ret [])))) (seqM (whileM (isB (bin2 gtD (bin2 subD (getV 4) (getV 3)) (M.ret (.int 1)))) (seqM (M.bind (bin2 fdivD (bin2 addD (getV 3) (getV 4)) (M.ret (.int 2))) (setV 5)) (ifM (isB (M.bind (consM (getV 0) (consM (getV 1) (consM (getV 2) (consM (getV 5) (M.ret []))))) (callF f_is_enough))) (M.bind (getV 5) (setV 4)) (M.bind (getV 5) (setV 3))))) (retM (getV 4))))))
def f_least_extra : FnD := fnBody 3 6 m_least_extra
theorem sc_least_extra : FnScope ["plan", "balance", "months", "low", "high", "middle"] ["plan", "balance", "months"] (defScope s_least_extra) := ⟨rfl, rfl, rfl, by decide +kernel, rfl, by decide +kernel, by decide +kernel⟩
theorem b_least_extra {K : PySem.W.Frag} {mg : Str → Option Value} (C : Ctx K mg) : Binds K (fdA K (ga K "least_extra")) ["plan", "balance", "months"] [] := (fun_least_extra C).bindsN fun _ _ _ _ _ _ us hl => match us, hl with | [_, _, _], _ => rfl
theorem ok_least_extra {w : World} {K : PySem.W.Frag} {mg : Str → Option Value} {base : Heap} (C : Ctx K mg) : OkV PW w K mg base 4 (ga K "least_extra") ["plan", "balance", "months"] f_least_extra :=
  fn_okV (qual := "least_extra") (scope := defScope s_least_extra) (body := defBody s_least_extra) (m := m_least_extra) (k := 3) (fun_least_extra C) sc_least_extra rfl rfl fun cdv A outer s H E hr => ss_cons (ss_expr (se_call (takes_of rfl rfl rfl rfl) ((ok_need_balance C).mono (by decide : 3 ≤ 3)) ar_of hr (C.glo 19 "need_balance") (fun_need_balance C).kp (b_need_balance C) (sa_cons (sv 0) (sa_cons (sv 1) (sa_nil))))) (ss_cons (ss_if (sb_w (sw_and (sb_cmp ov_notN (sv 2) (se_non) (nomark _)) (sw_and1 (sb_not (sb_val (se_call (takes_of rfl rfl rfl rfl) ((ok_is_number_in C).mono (by decide : 2 ≤ 3)) ar_of hr (C.glo 15 "is_number_in") (fun_is_number_in C).kp (b_is_number_in C) (sa_cons (sv 2) (sa_cons (se_int) (sa_cons (se_gint (C.int 14 "MOST_MONTHS" 100)) (sa_nil)))))))))) (ss_one (ss_never)) (ss_nil)) (ss_cons (ss_if (sb_val (se_call (takes_of rfl rfl rfl rfl) ((ok_is_enough C).mono (by decide : 3 ≤ 3)) ar_of hr (C.glo 9 "is_enough") (fun_is_enough C).kp (b_is_enough C) (sa_cons (sv 0) (sa_cons (sv 1) (sa_cons (sv 2) (sa_cons (se_int) (sa_nil))))))) (ss_one (ss_ret (se_int))) (ss_nil)) (ss_cons (ss_par sc_least_extra.nd (by decide) (sa_cons (se_int) (sa_cons (se_bin ov_mul (se_int) (sv 1)) (sa_nil))) (by rfl)) (ss_cons (ss_while (passes_of rfl) (sb_cmp ov_gt (se_bin ov_sub (sv 4) (sv 3)) (se_int) (nomark _)) (ss_cons (ss_set sc_least_extra.nd (se_bin ov_fdiv (se_bin ov_add (sv 3) (sv 4)) (se_int))) (ss_one (ss_if (sb_val (se_call (takes_of rfl rfl rfl rfl) ((ok_is_enough C).mono (by decide : 3 ≤ 3)) ar_of hr (C.glo 9 "is_enough") (fun_is_enough C).kp (b_is_enough C) (sa_cons (sv 0) (sa_cons (sv 1) (sa_cons (sv 2) (sa_cons (sv 5) (sa_nil))))))) (ss_one (ss_set sc_least_extra.nd (sv 5))) (ss_one (ss_set sc_least_extra.nd (sv 5))))))) (ss_one (ss_ret (sv 4)))))))
/-! _law_step: slots 0 _law_parts_here, 1 _law_sum_here, 2 _law_more, 3 _law_rated, 4 _law_part, 5 _law_low, 6 _law_is_plus, 7 _law_plus_here, 8 _law_every, 9 _law_due -/
def m__law_step : M Fl := seqM (asgM (getV 0) (gTupM 4 (gsCons (gSet 3) (gsCons (gSet 4) (gsCons (gSet 5) (gsCons (gSet 6) (gsNil))))))) (seqM (M.bind (bin2 fdivD (bin2 mulD (getV 1) (getV 3)) (M.ret (.int 1000))) (setV 7)) (seqM (M.bind (bin2 addD (getV 1) (getV 7)) (setV 8)) (seqM (ifM (isB (bin2 leD (getV 8) (getV 5))) (retM (tupM (consM (getV 7) (consM (getV 8) (consM (M.ret (.int 0)) (M.ret [])))))) (M.ret .nx)) (seqM (M.bind (bin2 fdivD (bin2 mulD (getV 8) (getV 4)) (M.ret (.int 1000))) (setV 9)) (seqM (ifM (isB (getV 6)) (M.bind (bin2 addD (getV 7) (bin2 fdivD (bin2 mulD (getV 1) (getV 4)) (M.ret (.int 1000)))) (setV 9)) (M.ret .nx)) (seqM (M.bind (M.bind (consM (getV 8) (consM (bin2 addD (M.bind (consM (getV 5) (consM (getV 9) (M.ret []))) max2D) (getV 2)) (M.ret []))) min2D) (setV 9)) (retM (tupM (consM (getV 7) (consM (getV 9) (consM (bin2 subD (getV 8) (getV 9)) (M.ret []))))))))))))
def f__law_step : FnD := fnBody 3 10 m__law_step
theorem sc__law_step : FnScope ["_law_parts_here", "_law_sum_here", "_law_more", "_law_rated", "_law_part", "_law_low", "_law_is_plus", "_law_plus_here", "_law_every", "_law_due"] ["_law_parts_here", "_law_sum_here", "_law_more"] (defScope s__law_step) := ⟨rfl, rfl, rfl, by decide +kernel, rfl, by decide +kernel, by decide +kernel⟩
theorem b__law_step {K : PySem.W.Frag} {mg : Str → Option Value} (C : Ctx K mg) : Binds K (fdA K (ga K "_law_step")) ["_law_parts_here", "_law_sum_here", "_law_more"] [] := (fun__law_step C).bindsN fun _ _ _ _ _ _ us hl => match us, hl with | [_, _, _], _ => rfl
theorem ok__law_step {w : World} {K : PySem.W.Frag} {mg : Str → Option Value} {base : Heap} (C : Ctx K mg) : OkV PW w K mg base 1 (ga K "_law_step") ["_law_parts_here", "_law_sum_here", "_law_more"] f__law_step :=
  fn_okV (qual := "_law_step") (scope := defScope s__law_step) (body := defBody s__law_step) (m := m__law_step) (k := 0) (fun__law_step C) sc__law_step rfl rfl fun cdv A outer s H E hr => ss_cons (ss_asg (vs := [3, 4, 5, 6]) (sv 0) (sg_tup (sgs_cons (sg_name sc__law_step.nd) (sgs_cons (sg_name sc__law_step.nd) (sgs_cons (sg_name sc__law_step.nd) (sgs_cons (sg_name sc__law_step.nd) (sgs_nil))))))) (ss_cons (ss_set sc__law_step.nd (se_bin ov_fdiv (se_bin ov_mul (sv 1) (sv 3)) (se_int))) (ss_cons (ss_set sc__law_step.nd (se_bin ov_add (sv 1) (sv 7))) (ss_cons (ss_if (sb_cmp ov_le (sv 8) (sv 5) (nomark _)) (ss_one (ss_ret (se_tup (sa_cons (sv 7) (sa_cons (sv 8) (sa_cons (se_int) (sa_nil))))))) (ss_nil)) (ss_cons (ss_set sc__law_step.nd (se_bin ov_fdiv (se_bin ov_mul (sv 8) (sv 4)) (se_int))) (ss_cons (ss_if (sb_val (sv 6)) (ss_one (ss_set sc__law_step.nd (se_bin ov_add (sv 7) (se_bin ov_fdiv (se_bin ov_mul (sv 1) (sv 4)) (se_int))))) (ss_nil)) (ss_cons (ss_set sc__law_step.nd (se_callB cv_min2 (C.free 1 "min") (by decide +kernel) (sa_cons (sv 8) (sa_cons (se_bin ov_add (se_callB cv_max2 (C.free 3 "max") (by decide +kernel) (sa_cons (sv 5) (sa_cons (sv 9) (sa_nil)))) (sv 2)) (sa_nil))))) (ss_one (ss_ret (se_tup (sa_cons (sv 7) (sa_cons (sv 9) (sa_cons (se_bin ov_sub (sv 8) (sv 9)) (sa_nil)))))))))))))
/-! _law_walk: slots 0 _law_parts_here, 1 _law_sum_here, 2 _law_more, 3 _law_most, 4 _law_found, 5 _law_turn, 6 _law_later -/
def m__law_walk : M Fl := seqM (M.bind (lstN (consM (getV 1) (M.ret []))) (setO 4)) (seqM (forM (rng1M (consM (getV 3) (M.ret []))) (gSet 5) (seqM (M.bind (bin2 ixD (M.bind (consM (getV 0) (consM (ixV 4 (negM (M.ret (.int 1)))) (consM (getV 2) (M.ret [])))) (callF f__law_step)) (M.ret (.int 2))) (setV 6)) (seqM (ifM (orB (isB (bin2 eqD (ixV 4 (negM (M.ret (.int 1)))) (M.ret (.int 0)))) (isB (bin2 geD (getV 6) (ixV 4 (negM (M.ret (.int 1))))))) (retM (getV 4)) (M.ret .nx)) (exprM (methO 4 "list" fAppend (consM (getV 6) (M.ret []))))))) (retM (getV 4)))
def f__law_walk : FnD := fnBody 4 7 m__law_walk
theorem sc__law_walk : FnScope ["_law_parts_here", "_law_sum_here", "_law_more", "_law_most", "_law_found", "_law_turn", "_law_later"] ["_law_parts_here", "_law_sum_here", "_law_more", "_law_most"] (defScope s__law_walk) := ⟨rfl, rfl, rfl, by decide +kernel, rfl, by decide +kernel, by decide +kernel⟩
theorem b__law_walk {K : PySem.W.Frag} {mg : Str → Option Value} (C : Ctx K mg) : Binds K (fdA K (ga K "_law_walk")) ["_law_parts_here", "_law_sum_here", "_law_more", "_law_most"] [] := (fun__law_walk C).bindsN fun _ _ _ _ _ _ us hl => match us, hl with | [_, _, _, _], _ => rfl
theorem ok__law_walk {w : World} {K : PySem.W.Frag} {mg : Str → Option Value} {base : Heap} (C : Ctx K mg) : OkV PW w K mg base 2 (ga K "_law_walk") ["_law_parts_here", "_law_sum_here", "_law_more", "_law_most"] f__law_walk :=
  fn_okV (qual := "_law_walk") (scope := defScope s__law_walk) (body := defBody s__law_walk) (m := m__law_walk) (k := 1) (fun__law_walk C) sc__law_walk rfl rfl fun cdv A outer s H E hr => ss_cons (ss_setO sc__law_walk.nd (sn_lst (sa_cons (sv 1) (sa_nil)))) (ss_cons (ss_for (vs := [5]) (passes_of rfl) (si_range1 (C.free 2 "range") (sa_cons (sv 3) (sa_nil))) (sg_name sc__law_walk.nd) (ss_cons (ss_set sc__law_walk.nd (se_ix (hu_of hr) (se_call (takes_of rfl rfl rfl rfl) ((ok__law_step C).mono (by decide : 1 ≤ 1)) ar_of hr (C.glo 21 "_law_step") (fun__law_step C).kp (b__law_step C) (sa_cons (sv 0) (sa_cons (se_ixV (hu_of hr) (pvv 4) (se_neg (se_int))) (sa_cons (sv 2) (sa_nil))))) (se_int))) (ss_cons (ss_if (sb_w (sw_or (sb_cmp (ov_eq hr) (se_ixV (hu_of hr) (pvv 4) (se_neg (se_int))) (se_int) (nomark _)) (sw_or1 (sb_cmp ov_ge (sv 6) (se_ixV (hu_of hr) (pvv 4) (se_neg (se_int))) (nomark _))))) (ss_one (ss_ret (sv 4))) (ss_nil)) (ss_one (ss_expr (se_methO mo_append PySem.F.plainAttrs_list PySem.F.slot_list_append (by rfl) (pvv 4) (sa_cons (sv 6) (sa_nil)))))))) (ss_one (ss_ret (sv 4))))
/-! _law_ends: slots 0 _law_parts_here, 1 _law_sum_here, 2 _law_more, 3 _law_months_here, 4 _law_row -/
def m__law_ends : M Fl := seqM (M.bind (M.bind (consM (getV 0) (consM (getV 1) (consM (getV 2) (consM (ifM (isB (bin2 isND (getV 3) (M.ret .non))) (M.ret (.int 4000)) (getV 3)) (M.ret []))))) (callF f__law_walk)) (setV 4)) (retM (bin2 eqD (ixV 4 (negM (M.ret (.int 1)))) (M.ret (.int 0))))
def f__law_ends : FnD := fnBody 4 5 m__law_ends
theorem sc__law_ends : FnScope ["_law_parts_here", "_law_sum_here", "_law_more", "_law_months_here", "_law_row"] ["_law_parts_here", "_law_sum_here", "_law_more", "_law_months_here"] (defScope s__law_ends) := ⟨rfl, rfl, rfl, by decide +kernel, rfl, by decide +kernel, by decide +kernel⟩
theorem b__law_ends {K : PySem.W.Frag} {mg : Str → Option Value} (C : Ctx K mg) : Binds K (fdA K (ga K "_law_ends")) ["_law_parts_here", "_law_sum_here", "_law_more", "_law_months_here"] [] := (fun__law_ends C).bindsN fun _ _ _ _ _ _ us hl => match us, hl with | [_, _, _, _], _ => rfl
theorem ok__law_ends {w : World} {K : PySem.W.Frag} {mg : Str → Option Value} {base : Heap} (C : Ctx K mg) : OkV PW w K mg base 3 (ga K "_law_ends") ["_law_parts_here", "_law_sum_here", "_law_more", "_law_months_here"] f__law_ends :=
  fn_okV (qual := "_law_ends") (scope := defScope s__law_ends) (body := defBody s__law_ends) (m := m__law_ends) (k := 2) (fun__law_ends C) sc__law_ends rfl rfl fun cdv A outer s H E hr => ss_cons (ss_set sc__law_ends.nd (se_call (takes_of rfl rfl rfl rfl) ((ok__law_walk C).mono (by decide : 2 ≤ 2)) ar_of hr (C.glo 22 "_law_walk") (fun__law_walk C).kp (b__law_walk C) (sa_cons (sv 0) (sa_cons (sv 1) (sa_cons (sv 2) (sa_cons (se_if (sb_cmp ov_isN (sv 3) (se_non) (nomark _)) (se_int) (sv 3)) (sa_nil))))))) (ss_one (ss_ret (se_cmp (ov_eq hr) (se_ixV (hu_of hr) (pvv 4) (se_neg (se_int))) (se_int) (nomark _))))
/-! _law_is_number: slots 0 _law_thing -/
def m__law_is_number : M Fl := retM (andD (M.bind (consM (getV 0) (consM (M.ret (.ty "int")) (M.ret []))) (isiM (isTyD "int") (fun t => t == "int" || t == "bool") [])) (notD (M.bind (consM (getV 0) (consM (M.ret (.ty "bool")) (M.ret []))) (isiM (isTyD "bool") (fun t => t == "bool") []))))
def f__law_is_number : FnD := fnBody 1 1 m__law_is_number
theorem sc__law_is_number : FnScope ["_law_thing"] ["_law_thing"] (defScope s__law_is_number) := ⟨rfl, rfl, rfl, by decide +kernel, rfl, by decide +kernel, by decide +kernel⟩
theorem b__law_is_number {K : PySem.W.Frag} {mg : Str → Option Value} (C : Ctx K mg) : Binds K (fdA K (ga K "_law_is_number")) ["_law_thing"] [] := (fun__law_is_number C).bindsN fun _ _ _ _ _ _ us hl => match us, hl with | [_], _ => rfl
theorem ok__law_is_number {w : World} {K : PySem.W.Frag} {mg : Str → Option Value} {base : Heap} (C : Ctx K mg) : OkV PW w K mg base 1 (ga K "_law_is_number") ["_law_thing"] f__law_is_number :=
  fn_okV (qual := "_law_is_number") (scope := defScope s__law_is_number) (body := defBody s__law_is_number) (m := m__law_is_number) (k := 0) (fun__law_is_number C) sc__law_is_number rfl rfl fun cdv A outer s H E hr => ss_one (ss_ret (se_and (se_callB (cv_isiT (ho := (fun p hp => nomatch hp))) (C.free 11 "isinstance") (by decide +kernel) (sa_cons (sv 0) (sa_cons (se_bty (n := "int") (C.free 10 "int") (by decide +kernel)) (sa_nil)))) (se_one (se_not (se_callB (cv_isiT (ho := (fun p hp => nomatch hp))) (C.free 11 "isinstance") (by decide +kernel) (sa_cons (sv 0) (sa_cons (se_bty (n := "bool") (C.free 12 "bool") (by decide +kernel)) (sa_nil))))))))
/-! _law_mixed: slots 0 _law_state, 1 _law_found, 2 _law_prime, 3 _law_blend, 4 _law_cell -/
def m__law_mixed : M Fl := seqM (isetP (getV 0) (M.ret (.str "turn")) (bin2 addD (ixV 0 (M.ret (.str "turn"))) (M.ret (.int 1)))) (seqM (M.bind (M.ret (.int 0)) (setV 1)) (seqM (forM (itemsM (frzM (lstN (consM (M.ret (.int 2147483629)) (consM (M.ret (.int 2147483587)) (consM (M.ret (.int 2147483579)) (consM (M.ret (.int 2147483563)) (consM (M.ret (.int 2147483549)) (consM (M.ret (.int 2147483543)) (M.ret [])))))))))) (gSet 2) (seqM (M.bind (bin2 addD (bin2 mulD (M.ret (.int 104729)) (ixV 0 (M.ret (.str "turn")))) (bin2 fdivD (getV 2) (M.ret (.int 7)))) (setV 3)) (seqM (forM (itemsM (ixV 0 (M.ret (.str "cells")))) (gSet 4) (M.bind (bin2 modD (M.bind (consM (bin2 addD (bin2 mulD (getV 3) (M.ret (.int 48271))) (getV 4)) (M.ret [])) intD) (getV 2)) (setV 3))) (M.bind (bin2 addD (bin2 mulD (getV 1) (M.ret (.int 2147483647))) (bin2 modD (M.bind (consM (bin2 powD (getV 3) (M.ret (.int 5))) (M.ret [])) intD) (getV 2))) (setV 1))))) (retM (getV 1))))
def f__law_mixed : FnD := fnBody 1 5 m__law_mixed
theorem sc__law_mixed : FnScope ["_law_state", "_law_found", "_law_prime", "_law_blend", "_law_cell"] ["_law_state"] (defScope s__law_mixed) := ⟨rfl, rfl, rfl, by decide +kernel, rfl, by decide +kernel, by decide +kernel⟩
theorem b__law_mixed {K : PySem.W.Frag} {mg : Str → Option Value} (C : Ctx K mg) : Binds K (fdA K (ga K "_law_mixed")) ["_law_state"] [] := (fun__law_mixed C).bindsN fun _ _ _ _ _ _ us hl => match us, hl with | [_], _ => rfl
theorem ok__law_mixed {w : World} {K : PySem.W.Frag} {mg : Str → Option Value} {base : Heap} (C : Ctx K mg) : OkV PW w K mg base 1 (ga K "_law_mixed") ["_law_state"] f__law_mixed :=
  fn_okV (qual := "_law_mixed") (scope := defScope s__law_mixed) (body := defBody s__law_mixed) (m := m__law_mixed) (k := 0) (fun__law_mixed C) sc__law_mixed rfl rfl fun cdv A outer s H E hr => ss_cons (ss_isetP (hu_of hr) (se_bin ov_add (se_ixV (hu_of hr) (pvv 0) (se_str)) (se_int)) (sv 0) (se_str)) (ss_cons (ss_set sc__law_mixed.nd (se_int)) (ss_cons (ss_for (vs := [2]) (passes_of rfl) (si_seq (se_frz (sn_lst (sa_cons (se_int) (sa_cons (se_int) (sa_cons (se_int) (sa_cons (se_int) (sa_cons (se_int) (sa_cons (se_int) (sa_nil)))))))))) (sg_name sc__law_mixed.nd) (ss_cons (ss_set sc__law_mixed.nd (se_bin ov_add (se_bin ov_mul (se_int) (se_ixV (hu_of hr) (pvv 0) (se_str))) (se_bin ov_fdiv (sv 2) (se_int)))) (ss_cons (ss_for (vs := [4]) (passes_of rfl) (si_seq (se_ixV (hu_of hr) (pvv 0) (se_str))) (sg_name sc__law_mixed.nd) (ss_one (ss_set sc__law_mixed.nd (se_bin ov_mod (se_callT cv_int (C.free 10 "int") (by decide +kernel) (sa_cons (se_bin ov_add (se_bin ov_mul (sv 3) (se_int)) (sv 4)) (sa_nil))) (sv 2))))) (ss_one (ss_set sc__law_mixed.nd (se_bin ov_add (se_bin ov_mul (sv 1) (se_int)) (se_bin ov_mod (se_callT cv_int (C.free 10 "int") (by decide +kernel) (sa_cons (se_bin ov_pow (sv 3) (se_int)) (sa_nil))) (sv 2)))))))) (ss_one (ss_ret (sv 1)))))
/-! _law_take: slots 0 _law_state, 1 _law_size, 2 _law_found -/
def m__law_take : M Fl := seqM (ifM (isB (bin2 eqD (ixV 0 (M.ret (.str "rest"))) (M.ret (.int 0)))) (isetP (getV 0) (M.ret (.str "rest")) (ifM (isB (bin2 neP (ixV 0 (M.ret (.str "large"))) (frzM (lstN (M.ret []))))) (methP "list" fPopAt (ixV 0 (M.ret (.str "large"))) (consM (M.ret (.int 0)) (M.ret []))) (M.bind (consM (getV 0) (M.ret [])) (callF f__law_mixed)))) (M.ret .nx)) (seqM (M.bind (bin2 modD (M.bind (consM (ixV 0 (M.ret (.str "rest"))) (M.ret [])) intD) (getV 1)) (setV 2)) (seqM (isetP (getV 0) (M.ret (.str "rest")) (bin2 fdivD (ixV 0 (M.ret (.str "rest"))) (getV 1))) (retM (getV 2))))
def f__law_take : FnD := fnBody 2 3 m__law_take
theorem sc__law_take : FnScope ["_law_state", "_law_size", "_law_found"] ["_law_state", "_law_size"] (defScope s__law_take) := ⟨rfl, rfl, rfl, by decide +kernel, rfl, by decide +kernel, by decide +kernel⟩
theorem b__law_take {K : PySem.W.Frag} {mg : Str → Option Value} (C : Ctx K mg) : Binds K (fdA K (ga K "_law_take")) ["_law_state", "_law_size"] [] := (fun__law_take C).bindsN fun _ _ _ _ _ _ us hl => match us, hl with | [_, _], _ => rfl
theorem ok__law_take {w : World} {K : PySem.W.Frag} {mg : Str → Option Value} {base : Heap} (C : Ctx K mg) : OkV PW w K mg base 2 (ga K "_law_take") ["_law_state", "_law_size"] f__law_take :=
  fn_okV (qual := "_law_take") (scope := defScope s__law_take) (body := defBody s__law_take) (m := m__law_take) (k := 1) (fun__law_take C) sc__law_take rfl rfl fun cdv A outer s H E hr => ss_cons (ss_if (sb_cmp (ov_eq hr) (se_ixV (hu_of hr) (pvv 0) (se_str)) (se_int) (nomark _)) (ss_one (ss_isetP (hu_of hr) (se_if (sb_cmp (ov_neP hr) (se_ixV (hu_of hr) (pvv 0) (se_str)) (se_frz (sn_lst (sa_nil))) (nomark _)) (se_methP mo_popAt PySem.F.plainAttrs_list PySem.F.slot_list_pop (by rfl) (se_ixV (hu_of hr) (pvv 0) (se_str)) (sa_cons (se_int) (sa_nil))) (se_call (takes_of rfl rfl rfl rfl) ((ok__law_mixed C).mono (by decide : 1 ≤ 1)) ar_of hr (C.glo 25 "_law_mixed") (fun__law_mixed C).kp (b__law_mixed C) (sa_cons (sv 0) (sa_nil)))) (sv 0) (se_str))) (ss_nil)) (ss_cons (ss_set sc__law_take.nd (se_bin ov_mod (se_callT cv_int (C.free 10 "int") (by decide +kernel) (sa_cons (se_ixV (hu_of hr) (pvv 0) (se_str)) (sa_nil))) (sv 1))) (ss_cons (ss_isetP (hu_of hr) (se_bin ov_fdiv (se_ixV (hu_of hr) (pvv 0) (se_str)) (sv 1)) (sv 0) (se_str)) (ss_one (ss_ret (sv 2)))))
/-! _law_pick: slots 0 _law_state, 1 _law_some -/
def m__law_pick : M Fl := retM (ixV 1 (M.bind (consM (getV 0) (consM (lenV 1) (M.ret []))) (callF f__law_take)))
def f__law_pick : FnD := fnBody 2 2 m__law_pick
theorem sc__law_pick : FnScope ["_law_state", "_law_some"] ["_law_state", "_law_some"] (defScope s__law_pick) := ⟨rfl, rfl, rfl, by decide +kernel, rfl, by decide +kernel, by decide +kernel⟩
theorem b__law_pick {K : PySem.W.Frag} {mg : Str → Option Value} (C : Ctx K mg) : Binds K (fdA K (ga K "_law_pick")) ["_law_state", "_law_some"] [] := (fun__law_pick C).bindsN fun _ _ _ _ _ _ us hl => match us, hl with | [_, _], _ => rfl
theorem ok__law_pick {w : World} {K : PySem.W.Frag} {mg : Str → Option Value} {base : Heap} (C : Ctx K mg) : OkV PW w K mg base 3 (ga K "_law_pick") ["_law_state", "_law_some"] f__law_pick :=
  fn_okV (qual := "_law_pick") (scope := defScope s__law_pick) (body := defBody s__law_pick) (m := m__law_pick) (k := 2) (fun__law_pick C) sc__law_pick rfl rfl fun cdv A outer s H E hr => ss_one (ss_ret (se_ixV (hu_of hr) (pvv 1) (se_call (takes_of rfl rfl rfl rfl) ((ok__law_take C).mono (by decide : 2 ≤ 2)) ar_of hr (C.glo 26 "_law_take") (fun__law_take C).kp (b__law_take C) (sa_cons (sv 0) (sa_cons (se_lenV (pvv 1) (C.free 0 "len")) (sa_nil))))))
/-! _law_sum_drawn: slots 0 _law_state, 1 _law_parts_here, 2 _law_near, 3 _law_some -/
def m__law_sum_drawn : M Fl := seqM (M.bind (bin2 fdivD (bin2 mulD (M.ret (.int 1000)) (ixV 1 (M.ret (.int 2)))) (M.bind (consM (M.ret (.int 1)) (consM (ixV 1 (M.ret (.int 0))) (M.ret []))) max2D)) (setV 2)) (seqM (M.bind (frzM (lstN (consM (M.ret (.int 0)) (consM (M.ret (.int 1)) (consM (M.ret (.int 2)) (consM (ixV 1 (M.ret (.int 2))) (consM (bin2 addD (ixV 1 (M.ret (.int 2))) (M.ret (.int 1))) (consM (bin2 subD (getV 2) (M.ret (.int 1))) (consM (getV 2) (consM (bin2 addD (getV 2) (M.ret (.int 1))) (consM (M.bind (consM (getV 0) (consM (M.ret (.int 50)) (M.ret []))) (callF f__law_take)) (consM (M.bind (consM (getV 0) (consM (M.ret (.int 5000)) (M.ret []))) (callF f__law_take)) (M.ret []))))))))))))) (setV 3)) (retM (M.bind (consM (M.ret (.int 0)) (consM (M.bind (consM (M.ret (.int 20000)) (consM (M.bind (consM (getV 0) (consM (getV 3) (M.ret []))) (callF f__law_pick)) (M.ret []))) min2D) (M.ret []))) max2D)))
def f__law_sum_drawn : FnD := fnBody 2 4 m__law_sum_drawn
theorem sc__law_sum_drawn : FnScope ["_law_state", "_law_parts_here", "_law_near", "_law_some"] ["_law_state", "_law_parts_here"] (defScope s__law_sum_drawn) := ⟨rfl, rfl, rfl, by decide +kernel, rfl, by decide +kernel, by decide +kernel⟩
theorem b__law_sum_drawn {K : PySem.W.Frag} {mg : Str → Option Value} (C : Ctx K mg) : Binds K (fdA K (ga K "_law_sum_drawn")) ["_law_state", "_law_parts_here"] [] := (fun__law_sum_drawn C).bindsN fun _ _ _ _ _ _ us hl => match us, hl with | [_, _], _ => rfl
theorem ok__law_sum_drawn {w : World} {K : PySem.W.Frag} {mg : Str → Option Value} {base : Heap} (C : Ctx K mg) : OkV PW w K mg base 4 (ga K "_law_sum_drawn") ["_law_state", "_law_parts_here"] f__law_sum_drawn :=
  fn_okV (qual := "_law_sum_drawn") (scope := defScope s__law_sum_drawn) (body := defBody s__law_sum_drawn) (m := m__law_sum_drawn) (k := 3) (fun__law_sum_drawn C) sc__law_sum_drawn rfl rfl fun cdv A outer s H E hr => ss_cons (ss_set sc__law_sum_drawn.nd (se_bin ov_fdiv (se_bin ov_mul (se_int) (se_ixV (hu_of hr) (pvv 1) (se_int))) (se_callB cv_max2 (C.free 3 "max") (by decide +kernel) (sa_cons (se_int) (sa_cons (se_ixV (hu_of hr) (pvv 1) (se_int)) (sa_nil)))))) (ss_cons (ss_set sc__law_sum_drawn.nd (se_frz (sn_lst (sa_cons (se_int) (sa_cons (se_int) (sa_cons (se_int) (sa_cons (se_ixV (hu_of hr) (pvv 1) (se_int)) (sa_cons (se_bin ov_add (se_ixV (hu_of hr) (pvv 1) (se_int)) (se_int)) (sa_cons (se_bin ov_sub (sv 2) (se_int)) (sa_cons (sv 2) (sa_cons (se_bin ov_add (sv 2) (se_int)) (sa_cons (se_call (takes_of rfl rfl rfl rfl) ((ok__law_take C).mono (by decide : 2 ≤ 3)) ar_of hr (C.glo 26 "_law_take") (fun__law_take C).kp (b__law_take C) (sa_cons (sv 0) (sa_cons (se_int) (sa_nil)))) (sa_cons (se_call (takes_of rfl rfl rfl rfl) ((ok__law_take C).mono (by decide : 2 ≤ 3)) ar_of hr (C.glo 26 "_law_take") (fun__law_take C).kp (b__law_take C) (sa_cons (sv 0) (sa_cons (se_int) (sa_nil)))) (sa_nil)))))))))))))) (ss_one (ss_ret (se_callB cv_max2 (C.free 3 "max") (by decide +kernel) (sa_cons (se_int) (sa_cons (se_callB cv_min2 (C.free 1 "min") (by decide +kernel) (sa_cons (se_int) (sa_cons (se_call (takes_of rfl rfl rfl rfl) ((ok__law_pick C).mono (by decide : 3 ≤ 3)) ar_of hr (C.glo 27 "_law_pick") (fun__law_pick C).kp (b__law_pick C) (sa_cons (sv 0) (sa_cons (sv 3) (sa_nil)))) (sa_nil)))) (sa_nil)))))))
/-! greatest_to: slots 0 plan, 1 bound, 2 low, 3 high, 4 middle -/
def m_greatest_to : M Fl := seqM (set2 2 3 (consM (getV 1) (consM (bin2 addD (getV 1) (M.ret (.int 1))) (M.ret [])))) (seqM (whileM (isB (bin2 leD (bin2 ixD (M.bind (consM (getV 0) (consM (getV 3) (consM (M.ret (.int 0)) (M.ret [])))) (callF f_month_with)) (M.ret (.int 2))) (getV 1))) (set2 2 3 (consM (getV 3) (consM (bin2 mulD (M.ret (.int 2)) (getV 3)) (M.ret []))))) (seqM (ifM (isB (bin2 gtD (bin2 ixD (M.bind (consM (getV 0) (consM (getV 2) (consM (M.ret (.int 0)) (M.ret [])))) (callF f_month_with)) (M.ret (.int 2))) (getV 1))) (set2 2 3 (consM (M.ret (.int 0)) (consM (getV 2) (M.ret [])))) (M.ret .nx)) (seqM (whileM (isB (bin2 gtD (bin2 subD (getV 3) (getV 2)) (M.ret (.int 1)))) (seqM (M.bind (bin2 fdivD (bin2 addD (getV 2) (getV 3)) (M.ret (.int 2))) (setV 4)) (ifM (isB (bin2 leD (bin2 ixD (M.bind (consM (getV 0) (consM (getV 4) (consM (M.ret (.int 0)) (M.ret [])))) (callF f_month_with)) (M.ret (.int 2))) (getV 1))) (M.bind (getV 4) (setV 2)) (M.bind (getV 4) (setV 3))))) (retM (getV 2)))))
def f_greatest_to : FnD := fnBody 2 5 m_greatest_to
theorem sc_greatest_to : FnScope ["plan", "bound", "low", "high", "middle"] ["plan", "bound"] (defScope s_greatest_to) := ⟨rfl, rfl, rfl, by decide +kernel, rfl, by decide +kernel, by decide +kernel⟩
theorem b_greatest_to {K : PySem.W.Frag} {mg : Str → Option Value} (C : Ctx K mg) : Binds K (fdA K (ga K "greatest_to")) ["plan", "bound"] [] := (fun_greatest_to C).bindsN fun _ _ _ _ _ _ us hl => match us, hl with | [_, _], _ => rfl
theorem ok_greatest_to {w : World} {K : PySem.W.Frag} {mg : Str → Option Value} {base : Heap} (C : Ctx K mg) : OkV PW w K mg base 2 (ga K "greatest_to") ["plan", "bound"] f_greatest_to :=
  fn_okV (qual := "greatest_to") (scope := defScope s_greatest_to) (body := defBody s_greatest_to) (m := m_greatest_to) (k := 1) (fun_greatest_to C) sc_greatest_to rfl rfl fun cdv A outer s H E hr => ss_cons (ss_par sc_greatest_to.nd (by decide) (sa_cons (sv 1) (sa_cons (se_bin ov_add (sv 1) (se_int)) (sa_nil))) (by rfl)) (ss_cons (ss_while (passes_of rfl) (sb_cmp ov_le (se_ix (hu_of hr) (se_call (takes_of rfl rfl rfl rfl) ((ok_month_with C).mono (by decide : 1 ≤ 1)) ar_of hr (C.glo 7 "month_with") (fun_month_with C).kp (b_month_with C) (sa_cons (sv 0) (sa_cons (sv 3) (sa_cons (se_int) (sa_nil))))) (se_int)) (sv 1) (nomark _)) (ss_one (ss_par sc_greatest_to.nd (by decide) (sa_cons (sv 3) (sa_cons (se_bin ov_mul (se_int) (sv 3)) (sa_nil))) (by rfl)))) (ss_cons (ss_if (sb_cmp ov_gt (se_ix (hu_of hr) (se_call (takes_of rfl rfl rfl rfl) ((ok_month_with C).mono (by decide : 1 ≤ 1)) ar_of hr (C.glo 7 "month_with") (fun_month_with C).kp (b_month_with C) (sa_cons (sv 0) (sa_cons (sv 2) (sa_cons (se_int) (sa_nil))))) (se_int)) (sv 1) (nomark _)) (ss_one (ss_par sc_greatest_to.nd (by decide) (sa_cons (se_int) (sa_cons (sv 2) (sa_nil))) (by rfl))) (ss_nil)) (ss_cons (ss_while (passes_of rfl) (sb_cmp ov_gt (se_bin ov_sub (sv 3) (sv 2)) (se_int) (nomark _)) (ss_cons (ss_set sc_greatest_to.nd (se_bin ov_fdiv (se_bin ov_add (sv 2) (sv 3)) (se_int))) (ss_one (ss_if (sb_cmp ov_le (se_ix (hu_of hr) (se_call (takes_of rfl rfl rfl rfl) ((ok_month_with C).mono (by decide : 1 ≤ 1)) ar_of hr (C.glo 7 "month_with") (fun_month_with C).kp (b_month_with C) (sa_cons (sv 0) (sa_cons (sv 4) (sa_cons (se_int) (sa_nil))))) (se_int)) (sv 1) (nomark _)) (ss_one (ss_set sc_greatest_to.nd (sv 4))) (ss_one (ss_set sc_greatest_to.nd (sv 4))))))) (ss_one (ss_ret (sv 2))))))
/-! Plan.share: slots 0 self -/
def m_Plan_share : M Fl := retM (bin2 ixD (fldM "Plan" "l_parts" (getV 0)) (M.ret (.int 1)))
def f_Plan_share : FnD := fnBody 1 1 m_Plan_share
theorem sc_Plan_share : FnScope ["self"] ["self"] (defScope s_Plan_share) := ⟨rfl, rfl, rfl, by decide +kernel, rfl, by decide +kernel, by decide +kernel⟩
theorem b_Plan_share {K : PySem.W.Frag} {mg : Str → Option Value} (C : Ctx K mg) : Binds K (fdA K (pgA K ("Plan", "share"))) ["self"] [] := (fun_Plan_share C).bindsN fun _ _ _ _ _ _ us hl => match us, hl with | [_], _ => rfl
theorem ok_Plan_share {w : World} {K : PySem.W.Frag} {mg : Str → Option Value} {base : Heap} (C : Ctx K mg) : OkV PW w K mg base 1 (pgA K ("Plan", "share")) ["self"] f_Plan_share :=
  fn_okV (qual := "Plan.share") (scope := defScope s_Plan_share) (body := defBody s_Plan_share) (m := m_Plan_share) (k := 0) (fun_Plan_share C) sc_Plan_share rfl rfl fun cdv A outer s H E hr => ss_one (ss_ret (se_ix (hu_of hr) (se_fld (sv 0) (C.cls 6 "Plan") (C.noat 5 "Plan" "l_parts")) (se_int)))
/-! most_within: slots 0 plan, 1 months, 2 found, 3 turn -/
def m_most_within : M Fl := seqM (exprM (M.bind (consM (getV 0) (M.ret [])) (callF f_need_plan))) (seqM (ifM (notB (isB (M.bind (consM (getV 1) (consM (M.ret (.int 0)) (consM (M.ret (.int 100)) (M.ret [])))) (callF f_is_number_in)))) (M.fail) (M.ret .nx)) (seqM (ifM (andB (isB (bin2 gtD (getV 1) (M.ret (.int 0)))) (isB (bin2 eqD (propM "Plan" f_Plan_share (getV 0)) (M.ret (.int 1000))))) (retM (M.ret .non)) (M.ret .nx)) (seqM (M.bind (M.ret (.int 0)) (setV 2)) (seqM (forM (rng1M (consM (getV 1) (M.ret []))) (gSet 3) (M.bind (M.bind (consM (getV 0) (consM (getV 2) (M.ret []))) (callF f_greatest_to)) (setV 2))) (retM (getV 2))))))
def f_most_within : FnD := fnBody 2 4 m_most_within
theorem sc_most_within : FnScope ["plan", "months", "found", "turn"] ["plan", "months"] (defScope s_most_within) := ⟨rfl, rfl, rfl, by decide +kernel, rfl, by decide +kernel, by decide +kernel⟩
theorem b_most_within {K : PySem.W.Frag} {mg : Str → Option Value} (C : Ctx K mg) : Binds K (fdA K (ga K "most_within")) ["plan", "months"] [] := (fun_most_within C).bindsN fun _ _ _ _ _ _ us hl => match us, hl with | [_, _], _ => rfl
theorem ok_most_within {w : World} {K : PySem.W.Frag} {mg : Str → Option Value} {base : Heap} (C : Ctx K mg) : OkV PW w K mg base 3 (ga K "most_within") ["plan", "months"] f_most_within :=
  fn_okV (qual := "most_within") (scope := defScope s_most_within) (body := defBody s_most_within) (m := m_most_within) (k := 2) (fun_most_within C) sc_most_within rfl rfl fun cdv A outer s H E hr => ss_cons (ss_expr (se_call (takes_of rfl rfl rfl rfl) ((ok_need_plan C).mono (by decide : 1 ≤ 2)) ar_of hr (C.glo 18 "need_plan") (fun_need_plan C).kp (b_need_plan C) (sa_cons (sv 0) (sa_nil)))) (ss_cons (ss_if (sb_not (sb_val (se_call (takes_of rfl rfl rfl rfl) ((ok_is_number_in C).mono (by decide : 2 ≤ 2)) ar_of hr (C.glo 15 "is_number_in") (fun_is_number_in C).kp (b_is_number_in C) (sa_cons (sv 1) (sa_cons (se_int) (sa_cons (se_gint (C.int 14 "MOST_MONTHS" 100)) (sa_nil))))))) (ss_one (ss_never)) (ss_nil)) (ss_cons (ss_if (sb_w (sw_and (sb_cmp ov_gt (sv 1) (se_int) (nomark _)) (sw_and1 (sb_cmp (ov_eq hr) (se_prop (sv 0) (C.cls 6 "Plan") (C.get 0 ("Plan", "share") d_Plan_share).1 (ok_Plan_share C) ar_of (hr.mono (by decide : 1 + 1 ≤ 2)) (b_Plan_share C)) (se_gint (C.int 4 "THOUSAND" 1000)) (nomark _))))) (ss_one (ss_ret (se_non))) (ss_nil)) (ss_cons (ss_set sc_most_within.nd (se_int)) (ss_cons (ss_for (vs := [3]) (passes_of rfl) (si_range1 (C.free 2 "range") (sa_cons (sv 1) (sa_nil))) (sg_name sc_most_within.nd) (ss_one (ss_set sc_most_within.nd (se_call (takes_of rfl rfl rfl rfl) ((ok_greatest_to C).mono (by decide : 2 ≤ 2)) ar_of hr (C.glo 29 "greatest_to") (fun_greatest_to C).kp (b_greatest_to C) (sa_cons (sv 0) (sa_cons (sv 2) (sa_nil))))))) (ss_one (ss_ret (sv 2)))))))
/-! _law_most_right: slots 0 _law_parts_here, 1 _law_made, 2 _law_months_here, 3 _law_found -/
def m__law_most_right : M Fl := seqM (M.bind (M.bind (consM (getV 1) (consM (getV 2) (M.ret []))) (callF f_most_within)) (setV 3)) (seqM (ifM (isB (bin2 neD (M.bind (consM (argsK 0 2 [] [1, 0] (M.ret []) (consM (getV 2) (consM (getV 1) (M.ret []))) (callF f_most_within)) (M.ret [])) reprD) (M.bind (consM (getV 3) (M.ret [])) reprD))) (retM (M.ret (.bl false))) (M.ret .nx)) (seqM (ifM (andB (isB (bin2 eqD (ixV 0 (M.ret (.int 1))) (M.ret (.int 1000)))) (isB (bin2 gtD (getV 2) (M.ret (.int 0))))) (retM (bin2 isND (getV 3) (M.ret .non))) (M.ret .nx)) (seqM (ifM (orB (notB (isB (M.bind (consM (getV 3) (M.ret [])) (callF f__law_is_number)))) (orB (isB (bin2 ltD (getV 3) (M.ret (.int 0)))) (notB (isB (M.bind (consM (getV 0) (consM (getV 3) (consM (M.ret (.int 0)) (consM (getV 2) (M.ret []))))) (callF f__law_ends)))))) (retM (M.ret (.bl false))) (M.ret .nx)) (retM (notD (M.bind (consM (getV 0) (consM (bin2 addD (getV 3) (M.ret (.int 1))) (consM (M.ret (.int 0)) (consM (getV 2) (M.ret []))))) (callF f__law_ends)))))))
def f__law_most_right : FnD := fnBody 3 4 m__law_most_right
theorem kb_most_within_0_months_plan {K : PySem.W.Frag} {mg : Str → Option Value} (C : Ctx K mg) : KB K (fdA K (ga K "most_within")) ["plan", "months"] 0 (["months", "plan"] : List Str) [] [1, 0] := kb_n (fun_most_within C) fun _ _ _ _ _ _ us ws h1 h2 => match us, ws, h1, h2 with | [], [_, _], _, _ => rfl
theorem sc__law_most_right : FnScope ["_law_parts_here", "_law_made", "_law_months_here", "_law_found"] ["_law_parts_here", "_law_made", "_law_months_here"] (defScope s__law_most_right) := ⟨rfl, rfl, rfl, by decide +kernel, rfl, by decide +kernel, by decide +kernel⟩
theorem b__law_most_right {K : PySem.W.Frag} {mg : Str → Option Value} (C : Ctx K mg) : Binds K (fdA K (ga K "_law_most_right")) ["_law_parts_here", "_law_made", "_law_months_here"] [] := (fun__law_most_right C).bindsN fun _ _ _ _ _ _ us hl => match us, hl with | [_, _, _], _ => rfl
theorem ok__law_most_right {w : World} {K : PySem.W.Frag} {mg : Str → Option Value} {base : Heap} (C : Ctx K mg) : OkV PW w K mg base 4 (ga K "_law_most_right") ["_law_parts_here", "_law_made", "_law_months_here"] f__law_most_right :=
  fn_okV (qual := "_law_most_right") (scope := defScope s__law_most_right) (body := defBody s__law_most_right) (m := m__law_most_right) (k := 3) (fun__law_most_right C) sc__law_most_right rfl rfl fun cdv A outer s H E hr => ss_cons (ss_set sc__law_most_right.nd (se_call (takes_of rfl rfl rfl rfl) ((ok_most_within C).mono (by decide : 3 ≤ 3)) ar_of hr (C.glo 30 "most_within") (fun_most_within C).kp (b_most_within C) (sa_cons (sv 1) (sa_cons (sv 2) (sa_nil))))) (ss_cons (ss_if (sb_cmp (ov_ne hr) (se_callB cv_repr (C.free 31 "repr") (by decide +kernel) (sa_cons (se_callK0 (takes_of rfl rfl rfl rfl) ((ok_most_within C).mono (by decide : 3 ≤ 3)) ar_of hr (C.glo 30 "most_within") (fun_most_within C).kp (kb_most_within_0_months_plan C) (.nil) (sk_cons (sv 2) (sk_cons (sv 1) (sk_nil)))) (sa_nil))) (se_callB cv_repr (C.free 31 "repr") (by decide +kernel) (sa_cons (sv 3) (sa_nil))) (nomark _)) (ss_one (ss_ret (se_bl))) (ss_nil)) (ss_cons (ss_if (sb_w (sw_and (sb_cmp (ov_eq hr) (se_ixV (hu_of hr) (pvv 0) (se_int)) (se_int) (nomark _)) (sw_and1 (sb_cmp ov_gt (sv 2) (se_int) (nomark _))))) (ss_one (ss_ret (se_cmp ov_isN (sv 3) (se_non) (nomark _)))) (ss_nil)) (ss_cons (ss_if (sb_w (sw_or (sb_not (sb_val (se_call (takes_of rfl rfl rfl rfl) ((ok__law_is_number C).mono (by decide : 1 ≤ 3)) ar_of hr (C.glo 24 "_law_is_number") (fun__law_is_number C).kp (b__law_is_number C) (sa_cons (sv 3) (sa_nil))))) (sw_or (sb_cmp ov_lt (sv 3) (se_int) (nomark _)) (sw_or1 (sb_not (sb_val (se_call (takes_of rfl rfl rfl rfl) ((ok__law_ends C).mono (by decide : 3 ≤ 3)) ar_of hr (C.glo 23 "_law_ends") (fun__law_ends C).kp (b__law_ends C) (sa_cons (sv 0) (sa_cons (sv 3) (sa_cons (se_int) (sa_cons (sv 2) (sa_nil)))))))))))) (ss_one (ss_ret (se_bl))) (ss_nil)) (ss_one (ss_ret (se_not (se_call (takes_of rfl rfl rfl rfl) ((ok__law_ends C).mono (by decide : 3 ≤ 3)) ar_of hr (C.glo 23 "_law_ends") (fun__law_ends C).kp (b__law_ends C) (sa_cons (sv 0) (sa_cons (se_bin ov_add (sv 3) (se_int)) (sa_cons (se_int) (sa_cons (sv 2) (sa_nil))))))))))))
/-! Plan.__init__: slots 0 self, 1 rate, 2 share, 3 least, 4 plus -/
def m_Plan_init : M Fl := seqM (ifM (notB (isB (M.bind (consM (getV 1) (consM (M.ret (.int 0)) (consM (M.ret (.int 1000)) (M.ret [])))) (callF f_is_number_in)))) (M.fail) (M.ret .nx)) (seqM (ifM (notB (isB (M.bind (consM (getV 2) (consM (M.ret (.int 0)) (consM (M.ret (.int 1000)) (M.ret [])))) (callF f_is_number_in)))) (M.fail) (M.ret .nx)) (seqM (ifM (notB (isB (M.bind (consM (getV 3) (consM (M.ret (.int 1)) (consM (M.ret (.int 1000000)) (M.ret [])))) (callF f_is_number_in)))) (M.fail) (M.ret .nx)) (seqM (ifM (notB (isB (M.bind (consM (getV 4) (consM (M.ret (.ty "bool")) (M.ret []))) (isiM (isTyD "bool") (fun t => t == "bool") [])))) (M.fail) (M.ret .nx)) (fsetM "Plan" "l_parts" (getV 0) (tupM (consM (getV 1) (consM (getV 2) (consM (getV 3) (consM (getV 4) (M.ret []))))))))))
def f_Plan_init : FnD := fnBody 5 5 m_Plan_init
theorem sc_Plan_init : FnScope ["self", "rate", "share", "least", "plus"] ["self", "rate", "share", "least", "plus"] (defScope s_Plan_init) := ⟨rfl, rfl, rfl, by decide +kernel, rfl, by decide +kernel, by decide +kernel⟩
theorem ok_Plan_init {w : World} {K : PySem.W.Frag} {mg : Str → Option Value} {base : Heap} (C : Ctx K mg) : OkV PW w K mg base 3 (fAd K ("Plan", some "__init__")) ["self", "rate", "share", "least", "plus"] f_Plan_init :=
  fn_okV (qual := "Plan.__init__") (scope := defScope s_Plan_init) (body := defBody s_Plan_init) (m := m_Plan_init) (k := 2) (fun_Plan_init C) sc_Plan_init rfl rfl fun cdv A outer s H E hr => ss_cons (ss_if (sb_not (sb_val (se_call (takes_of rfl rfl rfl rfl) ((ok_is_number_in C).mono (by decide : 2 ≤ 2)) ar_of hr (C.glo 15 "is_number_in") (fun_is_number_in C).kp (b_is_number_in C) (sa_cons (sv 1) (sa_cons (se_int) (sa_cons (se_gint (C.int 4 "THOUSAND" 1000)) (sa_nil))))))) (ss_one (ss_never)) (ss_nil)) (ss_cons (ss_if (sb_not (sb_val (se_call (takes_of rfl rfl rfl rfl) ((ok_is_number_in C).mono (by decide : 2 ≤ 2)) ar_of hr (C.glo 15 "is_number_in") (fun_is_number_in C).kp (b_is_number_in C) (sa_cons (sv 2) (sa_cons (se_int) (sa_cons (se_gint (C.int 4 "THOUSAND" 1000)) (sa_nil))))))) (ss_one (ss_never)) (ss_nil)) (ss_cons (ss_if (sb_not (sb_val (se_call (takes_of rfl rfl rfl rfl) ((ok_is_number_in C).mono (by decide : 2 ≤ 2)) ar_of hr (C.glo 15 "is_number_in") (fun_is_number_in C).kp (b_is_number_in C) (sa_cons (sv 3) (sa_cons (se_int) (sa_cons (se_gint (C.int 33 "MOST_LEAST" 1000000)) (sa_nil))))))) (ss_one (ss_never)) (ss_nil)) (ss_cons (ss_if (sb_not (sb_val (se_callB (cv_isiT (ho := (fun p hp => nomatch hp))) (C.free 11 "isinstance") (by decide +kernel) (sa_cons (sv 4) (sa_cons (se_bty (n := "bool") (C.free 12 "bool") (by decide +kernel)) (sa_nil)))))) (ss_one (ss_never)) (ss_nil)) (ss_one (ss_fset (sv 0) (se_tup (sa_cons (sv 1) (sa_cons (sv 2) (sa_cons (sv 3) (sa_cons (sv 4) (sa_nil)))))) (C.cls 6 "Plan") (C.noat 5 "Plan" "l_parts"))))))
/-! _law_planned: slots 0 _law_parts_here -/
def m__law_planned : M Fl := retM (mkM "Plan" f_Plan_init 4 0 [.bl false] [0, 1, 2, 3, 4] (consM (ixV 0 (M.ret (.int 0))) (consM (ixV 0 (M.ret (.int 1))) (consM (ixV 0 (M.ret (.int 2))) (consM (ixV 0 (M.ret (.int 3))) (M.ret []))))) (M.ret []))
def f__law_planned : FnD := fnBody 1 1 m__law_planned
theorem kb_Plan_init_5 {K : PySem.W.Frag} {mg : Str → Option Value} (C : Ctx K mg) : KB K (fdA K (fAd K ("Plan", some "__init__"))) ["self", "rate", "share", "least", "plus"] 5 ([] : List Str) (DefD.dvs K d_Plan_init) [0, 1, 2, 3, 4] := kb_d (fun_Plan_init C) (by exact List.cons_ne_nil _ _) fun _ _ _ _ _ _ _ us ws its h1 h2 h3 => match us, ws, its, h1, h2, h3 with | [_, _, _, _, _], [], [_], _, _, _ => ⟨_, rfl, rfl⟩
theorem sc__law_planned : FnScope ["_law_parts_here"] ["_law_parts_here"] (defScope s__law_planned) := ⟨rfl, rfl, rfl, by decide +kernel, rfl, by decide +kernel, by decide +kernel⟩
theorem b__law_planned {K : PySem.W.Frag} {mg : Str → Option Value} (C : Ctx K mg) : Binds K (fdA K (ga K "_law_planned")) ["_law_parts_here"] [] := (fun__law_planned C).bindsN fun _ _ _ _ _ _ us hl => match us, hl with | [_], _ => rfl
theorem ok__law_planned {w : World} {K : PySem.W.Frag} {mg : Str → Option Value} {base : Heap} (C : Ctx K mg) : OkV PW w K mg base 5 (ga K "_law_planned") ["_law_parts_here"] f__law_planned :=
  fn_okV (qual := "_law_planned") (scope := defScope s__law_planned) (body := defBody s__law_planned) (m := m__law_planned) (k := 4) (fun__law_planned C) sc__law_planned rfl rfl fun cdv A outer s H E hr => ss_one (ss_ret (se_make (takes_of rfl rfl rfl rfl) (C.mkr 34 "Plan") (ok_Plan_init C) ar_of (hr.mono (by decide : 3 + 1 ≤ 4)) (C.glo 17 "Plan") (kb_Plan_init_5 C) (.cons (.bl _) .nil) (sa_cons (se_ixV (hu_of hr) (pvv 0) (se_int)) (sa_cons (se_ixV (hu_of hr) (pvv 0) (se_int)) (sa_cons (se_ixV (hu_of hr) (pvv 0) (se_int)) (sa_cons (se_ixV (hu_of hr) (pvv 0) (se_int)) (sa_nil))))) (sk_nil)))
/-! _law_parts: slots 0 _law_state, 1 _law_rated, 2 _law_part, 3 _law_low -/
def m__law_parts : M Fl := seqM (M.bind (M.bind (consM (getV 0) (consM (frzM (lstN (consM (M.ret (.int 0)) (consM (M.ret (.int 1)) (consM (M.ret (.int 5)) (consM (M.ret (.int 15)) (consM (M.ret (.int 20)) (consM (M.ret (.int 100)) (consM (M.ret (.int 999)) (consM (M.ret (.int 1000)) (consM (M.bind (consM (getV 0) (consM (M.ret (.int 60)) (M.ret []))) (callF f__law_take)) (consM (M.bind (consM (getV 0) (consM (M.ret (.int 1001)) (M.ret []))) (callF f__law_take)) (M.ret []))))))))))))) (M.ret []))) (callF f__law_pick)) (setV 1)) (seqM (M.bind (M.bind (consM (getV 0) (consM (frzM (lstN (consM (M.ret (.int 0)) (consM (M.ret (.int 1)) (consM (M.ret (.int 10)) (consM (M.ret (.int 20)) (consM (M.ret (.int 30)) (consM (M.ret (.int 500)) (consM (M.ret (.int 999)) (consM (M.ret (.int 1000)) (consM (M.bind (consM (getV 0) (consM (M.ret (.int 60)) (M.ret []))) (callF f__law_take)) (consM (M.bind (consM (getV 0) (consM (M.ret (.int 1001)) (M.ret []))) (callF f__law_take)) (M.ret []))))))))))))) (M.ret []))) (callF f__law_pick)) (setV 2)) (seqM (M.bind (M.bind (consM (getV 0) (consM (frzM (lstN (consM (M.ret (.int 1)) (consM (M.ret (.int 1)) (consM (M.ret (.int 2)) (consM (M.ret (.int 3)) (consM (M.ret (.int 10)) (consM (M.ret (.int 25)) (consM (bin2 addD (M.ret (.int 1)) (M.bind (consM (getV 0) (consM (M.ret (.int 100)) (M.ret []))) (callF f__law_take))) (consM (bin2 addD (M.ret (.int 1)) (M.bind (consM (getV 0) (consM (M.ret (.int 3000)) (M.ret []))) (callF f__law_take))) (M.ret []))))))))))) (M.ret []))) (callF f__law_pick)) (setV 3)) (retM (tupM (consM (getV 1) (consM (getV 2) (consM (getV 3) (consM (bin2 eqD (M.bind (consM (getV 0) (consM (M.ret (.int 3)) (M.ret []))) (callF f__law_take)) (M.ret (.int 0))) (M.ret [])))))))))
def f__law_parts : FnD := fnBody 1 4 m__law_parts
theorem sc__law_parts : FnScope ["_law_state", "_law_rated", "_law_part", "_law_low"] ["_law_state"] (defScope s__law_parts) := ⟨rfl, rfl, rfl, by decide +kernel, rfl, by decide +kernel, by decide +kernel⟩
theorem b__law_parts {K : PySem.W.Frag} {mg : Str → Option Value} (C : Ctx K mg) : Binds K (fdA K (ga K "_law_parts")) ["_law_state"] [] := (fun__law_parts C).bindsN fun _ _ _ _ _ _ us hl => match us, hl with | [_], _ => rfl
theorem ok__law_parts {w : World} {K : PySem.W.Frag} {mg : Str → Option Value} {base : Heap} (C : Ctx K mg) : OkV PW w K mg base 4 (ga K "_law_parts") ["_law_state"] f__law_parts :=
  fn_okV (qual := "_law_parts") (scope := defScope s__law_parts) (body := defBody s__law_parts) (m := m__law_parts) (k := 3) (fun__law_parts C) sc__law_parts rfl rfl fun cdv A outer s H E hr => ss_cons (ss_set sc__law_parts.nd (se_call (takes_of rfl rfl rfl rfl) ((ok__law_pick C).mono (by decide : 3 ≤ 3)) ar_of hr (C.glo 27 "_law_pick") (fun__law_pick C).kp (b__law_pick C) (sa_cons (sv 0) (sa_cons (se_frz (sn_lst (sa_cons (se_int) (sa_cons (se_int) (sa_cons (se_int) (sa_cons (se_int) (sa_cons (se_int) (sa_cons (se_int) (sa_cons (se_int) (sa_cons (se_int) (sa_cons (se_call (takes_of rfl rfl rfl rfl) ((ok__law_take C).mono (by decide : 2 ≤ 3)) ar_of hr (C.glo 26 "_law_take") (fun__law_take C).kp (b__law_take C) (sa_cons (sv 0) (sa_cons (se_int) (sa_nil)))) (sa_cons (se_call (takes_of rfl rfl rfl rfl) ((ok__law_take C).mono (by decide : 2 ≤ 3)) ar_of hr (C.glo 26 "_law_take") (fun__law_take C).kp (b__law_take C) (sa_cons (sv 0) (sa_cons (se_int) (sa_nil)))) (sa_nil))))))))))))) (sa_nil))))) (ss_cons (ss_set sc__law_parts.nd (se_call (takes_of rfl rfl rfl rfl) ((ok__law_pick C).mono (by decide : 3 ≤ 3)) ar_of hr (C.glo 27 "_law_pick") (fun__law_pick C).kp (b__law_pick C) (sa_cons (sv 0) (sa_cons (se_frz (sn_lst (sa_cons (se_int) (sa_cons (se_int) (sa_cons (se_int) (sa_cons (se_int) (sa_cons (se_int) (sa_cons (se_int) (sa_cons (se_int) (sa_cons (se_int) (sa_cons (se_call (takes_of rfl rfl rfl rfl) ((ok__law_take C).mono (by decide : 2 ≤ 3)) ar_of hr (C.glo 26 "_law_take") (fun__law_take C).kp (b__law_take C) (sa_cons (sv 0) (sa_cons (se_int) (sa_nil)))) (sa_cons (se_call (takes_of rfl rfl rfl rfl) ((ok__law_take C).mono (by decide : 2 ≤ 3)) ar_of hr (C.glo 26 "_law_take") (fun__law_take C).kp (b__law_take C) (sa_cons (sv 0) (sa_cons (se_int) (sa_nil)))) (sa_nil))))))))))))) (sa_nil))))) (ss_cons (ss_set sc__law_parts.nd (se_call (takes_of rfl rfl rfl rfl) ((ok__law_pick C).mono (by decide : 3 ≤ 3)) ar_of hr (C.glo 27 "_law_pick") (fun__law_pick C).kp (b__law_pick C) (sa_cons (sv 0) (sa_cons (se_frz (sn_lst (sa_cons (se_int) (sa_cons (se_int) (sa_cons (se_int) (sa_cons (se_int) (sa_cons (se_int) (sa_cons (se_int) (sa_cons (se_bin ov_add (se_int) (se_call (takes_of rfl rfl rfl rfl) ((ok__law_take C).mono (by decide : 2 ≤ 3)) ar_of hr (C.glo 26 "_law_take") (fun__law_take C).kp (b__law_take C) (sa_cons (sv 0) (sa_cons (se_int) (sa_nil))))) (sa_cons (se_bin ov_add (se_int) (se_call (takes_of rfl rfl rfl rfl) ((ok__law_take C).mono (by decide : 2 ≤ 3)) ar_of hr (C.glo 26 "_law_take") (fun__law_take C).kp (b__law_take C) (sa_cons (sv 0) (sa_cons (se_int) (sa_nil))))) (sa_nil))))))))))) (sa_nil))))) (ss_one (ss_ret (se_tup (sa_cons (sv 1) (sa_cons (sv 2) (sa_cons (sv 3) (sa_cons (se_cmp (ov_eq hr) (se_call (takes_of rfl rfl rfl rfl) ((ok__law_take C).mono (by decide : 2 ≤ 3)) ar_of hr (C.glo 26 "_law_take") (fun__law_take C).kp (b__law_take C) (sa_cons (sv 0) (sa_cons (se_int) (sa_nil)))) (se_int) (nomark _)) (sa_nil))))))))))
/-! _law_known_right: slots 0 _law_state, 1 _law_sum_here, 2 _law_months_here, 3 _law_made, 4 _law_due -/
def m__law_known_right : M Fl := seqM (set2 1 2 (consM (M.bind (consM (getV 0) (consM (bin2 addD (bin2 powD (M.ret (.int 10)) (M.ret (.int 5))) (M.ret (.int 1))) (M.ret []))) (callF f__law_take)) (consM (bin2 addD (M.ret (.int 1)) (M.bind (consM (getV 0) (consM (M.ret (.int 100)) (M.ret []))) (callF f__law_take))) (M.ret [])))) (seqM (M.bind (mkM "Plan" f_Plan_init 4 0 [.bl false] [0, 1, 2, 3, 4] (consM (M.ret (.int 0)) (consM (M.ret (.int 0)) (consM (M.ret (.int 1)) (consM (bin2 eqD (M.bind (consM (getV 0) (consM (M.ret (.int 2)) (M.ret []))) (callF f__law_take)) (M.ret (.int 0))) (M.ret []))))) (M.ret [])) (setV 3)) (seqM (M.bind (M.bind (consM (M.ret (.int 0)) (consM (bin2 subD (bin2 fdivD (bin2 subD (bin2 addD (getV 1) (getV 2)) (M.ret (.int 1))) (getV 2)) (M.ret (.int 1))) (M.ret []))) max2D) (setV 4)) (seqM (ifM (orB (isB (bin2 neD (M.bind (consM (getV 3) (consM (getV 1) (consM (getV 2) (M.ret [])))) (callF f_least_extra)) (getV 4))) (isB (bin2 neD (M.bind (consM (getV 3) (consM (getV 1) (consM (M.ret (.int 1)) (M.ret [])))) (callF f_least_extra)) (M.bind (consM (M.ret (.int 0)) (consM (bin2 subD (getV 1) (M.ret (.int 1))) (M.ret []))) max2D)))) (retM (M.ret (.bl false))) (M.ret .nx)) (retM (andD (bin2 eqD (M.bind (consM (getV 3) (consM (M.bind (consM (getV 1) (consM (M.ret (.int 9999)) (M.ret []))) min2D) (consM (M.ret .non) (M.ret [])))) (callF f_least_extra)) (M.ret (.int 0))) (bin2 eqD (M.bind (consM (getV 3) (consM (getV 2) (M.ret []))) (callF f_most_within)) (getV 2)))))))
def f__law_known_right : FnD := fnBody 1 5 m__law_known_right
theorem sc__law_known_right : FnScope ["_law_state", "_law_sum_here", "_law_months_here", "_law_made", "_law_due"] ["_law_state"] (defScope s__law_known_right) := ⟨rfl, rfl, rfl, by decide +kernel, rfl, by decide +kernel, by decide +kernel⟩
theorem b__law_known_right {K : PySem.W.Frag} {mg : Str → Option Value} (C : Ctx K mg) : Binds K (fdA K (ga K "_law_known_right")) ["_law_state"] [] := (fun__law_known_right C).bindsN fun _ _ _ _ _ _ us hl => match us, hl with | [_], _ => rfl
theorem ok__law_known_right {w : World} {K : PySem.W.Frag} {mg : Str → Option Value} {base : Heap} (C : Ctx K mg) : OkV PW w K mg base 5 (ga K "_law_known_right") ["_law_state"] f__law_known_right :=
  fn_okV (qual := "_law_known_right") (scope := defScope s__law_known_right) (body := defBody s__law_known_right) (m := m__law_known_right) (k := 4) (fun__law_known_right C) sc__law_known_right rfl rfl fun cdv A outer s H E hr => ss_cons (ss_par sc__law_known_right.nd (by decide) (sa_cons (se_call (takes_of rfl rfl rfl rfl) ((ok__law_take C).mono (by decide : 2 ≤ 4)) ar_of hr (C.glo 26 "_law_take") (fun__law_take C).kp (b__law_take C) (sa_cons (sv 0) (sa_cons (se_bin ov_add (se_bin ov_pow (se_int) (se_int)) (se_int)) (sa_nil)))) (sa_cons (se_bin ov_add (se_int) (se_call (takes_of rfl rfl rfl rfl) ((ok__law_take C).mono (by decide : 2 ≤ 4)) ar_of hr (C.glo 26 "_law_take") (fun__law_take C).kp (b__law_take C) (sa_cons (sv 0) (sa_cons (se_int) (sa_nil))))) (sa_nil))) (by rfl)) (ss_cons (ss_set sc__law_known_right.nd (se_make (takes_of rfl rfl rfl rfl) (C.mkr 34 "Plan") (ok_Plan_init C) ar_of (hr.mono (by decide : 3 + 1 ≤ 4)) (C.glo 17 "Plan") (kb_Plan_init_5 C) (.cons (.bl _) .nil) (sa_cons (se_int) (sa_cons (se_int) (sa_cons (se_int) (sa_cons (se_cmp (ov_eq hr) (se_call (takes_of rfl rfl rfl rfl) ((ok__law_take C).mono (by decide : 2 ≤ 4)) ar_of hr (C.glo 26 "_law_take") (fun__law_take C).kp (b__law_take C) (sa_cons (sv 0) (sa_cons (se_int) (sa_nil)))) (se_int) (nomark _)) (sa_nil))))) (sk_nil))) (ss_cons (ss_set sc__law_known_right.nd (se_callB cv_max2 (C.free 3 "max") (by decide +kernel) (sa_cons (se_int) (sa_cons (se_bin ov_sub (se_bin ov_fdiv (se_bin ov_sub (se_bin ov_add (sv 1) (sv 2)) (se_int)) (sv 2)) (se_int)) (sa_nil))))) (ss_cons (ss_if (sb_w (sw_or (sb_cmp (ov_ne hr) (se_call (takes_of rfl rfl rfl rfl) ((ok_least_extra C).mono (by decide : 4 ≤ 4)) ar_of hr (C.glo 20 "least_extra") (fun_least_extra C).kp (b_least_extra C) (sa_cons (sv 3) (sa_cons (sv 1) (sa_cons (sv 2) (sa_nil))))) (sv 4) (nomark _)) (sw_or1 (sb_cmp (ov_ne hr) (se_call (takes_of rfl rfl rfl rfl) ((ok_least_extra C).mono (by decide : 4 ≤ 4)) ar_of hr (C.glo 20 "least_extra") (fun_least_extra C).kp (b_least_extra C) (sa_cons (sv 3) (sa_cons (sv 1) (sa_cons (se_int) (sa_nil))))) (se_callB cv_max2 (C.free 3 "max") (by decide +kernel) (sa_cons (se_int) (sa_cons (se_bin ov_sub (sv 1) (se_int)) (sa_nil)))) (nomark _))))) (ss_one (ss_ret (se_bl))) (ss_nil)) (ss_one (ss_ret (se_and (se_cmp (ov_eq hr) (se_call (takes_of rfl rfl rfl rfl) ((ok_least_extra C).mono (by decide : 4 ≤ 4)) ar_of hr (C.glo 20 "least_extra") (fun_least_extra C).kp (b_least_extra C) (sa_cons (sv 3) (sa_cons (se_callB cv_min2 (C.free 1 "min") (by decide +kernel) (sa_cons (sv 1) (sa_cons (se_int) (sa_nil)))) (sa_cons (se_non) (sa_nil))))) (se_int) (nomark _)) (se_one (se_cmp (ov_eq hr) (se_call (takes_of rfl rfl rfl rfl) ((ok_most_within C).mono (by decide : 3 ≤ 4)) ar_of hr (C.glo 30 "most_within") (fun_most_within C).kp (b_most_within C) (sa_cons (sv 3) (sa_cons (sv 2) (sa_nil)))) (sv 2) (nomark _)))))))))
/-! _law_begun: slots 0 _law_script, 1 _law_large, 2 _law_cell -/
def m__law_begun : M Fl := seqM (M.bind (newM (lcN (itemsM (getV 0)) (gSet 2) (isB (bin2 geD (getV 2) (bin2 powD (M.ret (.int 10)) (M.ret (.int 18))))) (bin2 subD (getV 2) (bin2 powD (M.ret (.int 10)) (M.ret (.int 18)))) [2])) (setV 1)) (retM (newM (dispN [.inr "large", .inr "cells", .inr "rest", .inr "turn"] [getV 1, frzM (listN (consM (getV 0) (M.ret []))), M.ret (.int 0), M.ret (.int 0)])))
def f__law_begun : FnD := fnBody 1 3 m__law_begun
theorem sc__law_begun : FnScope ["_law_script", "_law_large", "_law_cell"] ["_law_script"] (defScope s__law_begun) := ⟨rfl, rfl, rfl, by decide +kernel, rfl, by decide +kernel, by decide +kernel⟩
theorem b__law_begun {K : PySem.W.Frag} {mg : Str → Option Value} (C : Ctx K mg) : Binds K (fdA K (ga K "_law_begun")) ["_law_script"] [] := (fun__law_begun C).bindsN fun _ _ _ _ _ _ us hl => match us, hl with | [_], _ => rfl
theorem ok__law_begun {w : World} {K : PySem.W.Frag} {mg : Str → Option Value} {base : Heap} (C : Ctx K mg) : OkV PW w K mg base 1 (ga K "_law_begun") ["_law_script"] f__law_begun :=
  fn_okV (qual := "_law_begun") (scope := defScope s__law_begun) (body := defBody s__law_begun) (m := m__law_begun) (k := 0) (fun__law_begun C) sc__law_begun rfl rfl fun cdv A outer s H E hr => ss_cons (SNs.new (sns_lc (i := 1) (own := [("_law_cell", 2)]) sc__law_begun.nd (si_seq (sv 0)) (blkOk_by (N := ["_law_script", "_law_large", "_law_cell"]) (sc := defScope s__law_begun) (by decide +kernel)) (fun _ _ _ _ _ => sg_name sc__law_begun.nd) (fun _ _ _ _ _ => sts_one (sb_cmp ov_ge (sv 2) (se_bin ov_pow (se_int) (se_int)) (nomark _))) (fun _ _ _ _ _ => se_bin ov_sub (sv 2) (se_bin ov_pow (se_int) (se_int))))) (ss_one (ss_ret (se_new (sn_disp (pp_str (sv 1) (pp_str (se_frz (sn_list (x := "list") (C.free 38 "list") (sa_cons (sv 0) (sa_nil)))) (pp_str (se_int) (pp_str (se_int) (pp_nil)))))))))
/-! law: slots 0 _law_script, 1 _law_state, 2 _law_turn, 3 _law_parts_here, 4 _law_made, 5 _law_months_here, 6 _law_lap, 7 _law_sum_here, 8 _law_found -/
def m_law : M Fl := seqM (M.bind (M.bind (consM (getV 0) (M.ret [])) (callF f__law_begun)) (setV 1)) (seqM (ifM (notB (isB (M.bind (consM (getV 1) (M.ret [])) (callF f__law_known_right)))) (retM (M.ret (.bl false))) (M.ret .nx)) (seqM (forM (rng1M (consM (bin2 addD (M.ret (.int 5)) (M.bind (consM (lenV 0) (consM (M.ret (.int 14)) (M.ret []))) min2D)) (M.ret []))) (gSet 2) (seqM (M.bind (M.bind (consM (getV 1) (M.ret [])) (callF f__law_parts)) (setV 3)) (seqM (M.bind (M.bind (consM (getV 3) (M.ret [])) (callF f__law_planned)) (setV 4)) (seqM (forM (itemsM (frzM (lstN (consM (M.ret (.int 0)) (consM (M.ret (.int 1)) (consM (M.ret (.int 100)) (consM (M.bind (consM (getV 1) (consM (M.ret (.int 101)) (M.ret []))) (callF f__law_take)) (consM (M.bind (consM (getV 1) (consM (M.ret (.int 13)) (M.ret []))) (callF f__law_take)) (M.ret []))))))))) (gSet 5) (ifM (notB (isB (M.bind (consM (getV 3) (consM (getV 4) (consM (getV 5) (M.ret [])))) (callF f__law_most_right)))) (retM (M.ret (.bl false))) (M.ret .nx))) (forM (rng1M (consM (M.ret (.int 4)) (M.ret []))) (gSet 6) (seqM (set2 7 5 (consM (M.bind (consM (M.ret (.int 3000)) (consM (M.bind (consM (getV 1) (consM (getV 3) (M.ret []))) (callF f__law_sum_drawn)) (M.ret []))) min2D) (consM (M.bind (consM (getV 1) (consM (frzM (lstN (consM (M.ret .non) (consM (M.ret (.int 1)) (consM (M.ret (.int 2)) (consM (M.ret (.int 12)) (consM (M.ret (.int 100)) (M.ret [])))))))) (M.ret []))) (callF f__law_pick)) (M.ret [])))) (seqM (M.bind (M.bind (consM (getV 4) (consM (getV 7) (consM (getV 5) (M.ret [])))) (callF f_least_extra)) (setV 8)) (seqM (ifM (orB (notB (isB (M.bind (consM (getV 8) (M.ret [])) (callF f__law_is_number)))) (orB (isB (bin2 ltD (getV 8) (M.ret (.int 0)))) (notB (isB (M.bind (consM (getV 3) (consM (getV 7) (consM (getV 8) (consM (getV 5) (M.ret []))))) (callF f__law_ends)))))) (retM (M.ret (.bl false))) (M.ret .nx)) (seqM (ifM (andB (isB (bin2 gtD (getV 8) (M.ret (.int 0)))) (isB (M.bind (consM (getV 3) (consM (getV 7) (consM (bin2 subD (getV 8) (M.ret (.int 1))) (consM (getV 5) (M.ret []))))) (callF f__law_ends)))) (retM (M.ret (.bl false))) (M.ret .nx)) (ifM (isB (bin2 neD (argsK 0 3 [] [2, 1, 0] (M.ret []) (consM (getV 5) (consM (getV 7) (consM (getV 4) (M.ret [])))) (callF f_least_extra)) (getV 8))) (retM (M.ret (.bl false))) (M.ret .nx))))))))))) (retM (M.ret (.bl true)))))
def f_law : FnD := fnBody 1 9 m_law
theorem kb_least_extra_0_months_balance_plan {K : PySem.W.Frag} {mg : Str → Option Value} (C : Ctx K mg) : KB K (fdA K (ga K "least_extra")) ["plan", "balance", "months"] 0 (["months", "balance", "plan"] : List Str) [] [2, 1, 0] := kb_n (fun_least_extra C) fun _ _ _ _ _ _ us ws h1 h2 => match us, ws, h1, h2 with | [], [_, _, _], _, _ => rfl
theorem sc_law : FnScope ["_law_script", "_law_state", "_law_turn", "_law_parts_here", "_law_made", "_law_months_here", "_law_lap", "_law_sum_here", "_law_found"] ["_law_script"] (defScope s_law) := ⟨rfl, rfl, rfl, by decide +kernel, rfl, by decide +kernel, by decide +kernel⟩
theorem b_law {K : PySem.W.Frag} {mg : Str → Option Value} (C : Ctx K mg) : Binds K (fdA K (ga K "law")) ["_law_script"] [] := (fun_law C).bindsN fun _ _ _ _ _ _ us hl => match us, hl with | [_], _ => rfl
theorem ok_law {w : World} {K : PySem.W.Frag} {mg : Str → Option Value} {base : Heap} (C : Ctx K mg) : OkV PW w K mg base 6 (ga K "law") ["_law_script"] f_law :=
  fn_okV (qual := "law") (scope := defScope s_law) (body := defBody s_law) (m := m_law) (k := 5) (fun_law C) sc_law rfl rfl fun cdv A outer s H E hr => ss_cons (ss_set sc_law.nd (se_call (takes_of rfl rfl rfl rfl) ((ok__law_begun C).mono (by decide : 1 ≤ 5)) ar_of hr (C.glo 39 "_law_begun") (fun__law_begun C).kp (b__law_begun C) (sa_cons (sv 0) (sa_nil)))) (ss_cons (ss_if (sb_not (sb_val (se_call (takes_of rfl rfl rfl rfl) ((ok__law_known_right C).mono (by decide : 5 ≤ 5)) ar_of hr (C.glo 37 "_law_known_right") (fun__law_known_right C).kp (b__law_known_right C) (sa_cons (sv 1) (sa_nil))))) (ss_one (ss_ret (se_bl))) (ss_nil)) (ss_cons (ss_for (vs := [2]) (passes_of rfl) (si_range1 (C.free 2 "range") (sa_cons (se_bin ov_add (se_int) (se_callB cv_min2 (C.free 1 "min") (by decide +kernel) (sa_cons (se_lenV (pvv 0) (C.free 0 "len")) (sa_cons (se_int) (sa_nil))))) (sa_nil))) (sg_name sc_law.nd) (ss_cons (ss_set sc_law.nd (se_call (takes_of rfl rfl rfl rfl) ((ok__law_parts C).mono (by decide : 4 ≤ 5)) ar_of hr (C.glo 36 "_law_parts") (fun__law_parts C).kp (b__law_parts C) (sa_cons (sv 1) (sa_nil)))) (ss_cons (ss_set sc_law.nd (se_call (takes_of rfl rfl rfl rfl) ((ok__law_planned C).mono (by decide : 5 ≤ 5)) ar_of hr (C.glo 35 "_law_planned") (fun__law_planned C).kp (b__law_planned C) (sa_cons (sv 3) (sa_nil)))) (ss_cons (ss_for (vs := [5]) (passes_of rfl) (si_seq (se_frz (sn_lst (sa_cons (se_int) (sa_cons (se_int) (sa_cons (se_int) (sa_cons (se_call (takes_of rfl rfl rfl rfl) ((ok__law_take C).mono (by decide : 2 ≤ 5)) ar_of hr (C.glo 26 "_law_take") (fun__law_take C).kp (b__law_take C) (sa_cons (sv 1) (sa_cons (se_int) (sa_nil)))) (sa_cons (se_call (takes_of rfl rfl rfl rfl) ((ok__law_take C).mono (by decide : 2 ≤ 5)) ar_of hr (C.glo 26 "_law_take") (fun__law_take C).kp (b__law_take C) (sa_cons (sv 1) (sa_cons (se_int) (sa_nil)))) (sa_nil))))))))) (sg_name sc_law.nd) (ss_one (ss_if (sb_not (sb_val (se_call (takes_of rfl rfl rfl rfl) ((ok__law_most_right C).mono (by decide : 4 ≤ 5)) ar_of hr (C.glo 32 "_law_most_right") (fun__law_most_right C).kp (b__law_most_right C) (sa_cons (sv 3) (sa_cons (sv 4) (sa_cons (sv 5) (sa_nil))))))) (ss_one (ss_ret (se_bl))) (ss_nil)))) (ss_one (ss_for (vs := [6]) (passes_of rfl) (si_range1 (C.free 2 "range") (sa_cons (se_int) (sa_nil))) (sg_name sc_law.nd) (ss_cons (ss_par sc_law.nd (by decide) (sa_cons (se_callB cv_min2 (C.free 1 "min") (by decide +kernel) (sa_cons (se_int) (sa_cons (se_call (takes_of rfl rfl rfl rfl) ((ok__law_sum_drawn C).mono (by decide : 4 ≤ 5)) ar_of hr (C.glo 28 "_law_sum_drawn") (fun__law_sum_drawn C).kp (b__law_sum_drawn C) (sa_cons (sv 1) (sa_cons (sv 3) (sa_nil)))) (sa_nil)))) (sa_cons (se_call (takes_of rfl rfl rfl rfl) ((ok__law_pick C).mono (by decide : 3 ≤ 5)) ar_of hr (C.glo 27 "_law_pick") (fun__law_pick C).kp (b__law_pick C) (sa_cons (sv 1) (sa_cons (se_frz (sn_lst (sa_cons (se_non) (sa_cons (se_int) (sa_cons (se_int) (sa_cons (se_int) (sa_cons (se_int) (sa_nil)))))))) (sa_nil)))) (sa_nil))) (by rfl)) (ss_cons (ss_set sc_law.nd (se_call (takes_of rfl rfl rfl rfl) ((ok_least_extra C).mono (by decide : 4 ≤ 5)) ar_of hr (C.glo 20 "least_extra") (fun_least_extra C).kp (b_least_extra C) (sa_cons (sv 4) (sa_cons (sv 7) (sa_cons (sv 5) (sa_nil)))))) (ss_cons (ss_if (sb_w (sw_or (sb_not (sb_val (se_call (takes_of rfl rfl rfl rfl) ((ok__law_is_number C).mono (by decide : 1 ≤ 5)) ar_of hr (C.glo 24 "_law_is_number") (fun__law_is_number C).kp (b__law_is_number C) (sa_cons (sv 8) (sa_nil))))) (sw_or (sb_cmp ov_lt (sv 8) (se_int) (nomark _)) (sw_or1 (sb_not (sb_val (se_call (takes_of rfl rfl rfl rfl) ((ok__law_ends C).mono (by decide : 3 ≤ 5)) ar_of hr (C.glo 23 "_law_ends") (fun__law_ends C).kp (b__law_ends C) (sa_cons (sv 3) (sa_cons (sv 7) (sa_cons (sv 8) (sa_cons (sv 5) (sa_nil)))))))))))) (ss_one (ss_ret (se_bl))) (ss_nil)) (ss_cons (ss_if (sb_w (sw_and (sb_cmp ov_gt (sv 8) (se_int) (nomark _)) (sw_and1 (sb_val (se_call (takes_of rfl rfl rfl rfl) ((ok__law_ends C).mono (by decide : 3 ≤ 5)) ar_of hr (C.glo 23 "_law_ends") (fun__law_ends C).kp (b__law_ends C) (sa_cons (sv 3) (sa_cons (sv 7) (sa_cons (se_bin ov_sub (sv 8) (se_int)) (sa_cons (sv 5) (sa_nil)))))))))) (ss_one (ss_ret (se_bl))) (ss_nil)) (ss_one (ss_if (sb_cmp (ov_ne hr) (se_callK0 (takes_of rfl rfl rfl rfl) ((ok_least_extra C).mono (by decide : 4 ≤ 5)) ar_of hr (C.glo 20 "least_extra") (fun_least_extra C).kp (kb_least_extra_0_months_balance_plan C) (.nil) (sk_cons (sv 5) (sk_cons (sv 7) (sk_cons (sv 4) (sk_nil))))) (sv 8) (nomark _)) (ss_one (ss_ret (se_bl))) (ss_nil))))))))))))) (ss_one (ss_ret (se_bl)))))
end
end L2.VI.K76
namespace L2.VI.K76
open PySem PySem.Spec PyProof.Rows He L2 L2.VI
/-! ### a month -/
def ow (r b : Int) : Int := b + b * r / 1000
def wan (r s : Int) (p : Bool) (b : Int) : Int := if p = true then b * r / 1000 + b * s / 1000 else ow r b * s / 1000
def mx (i j : Int) : Int := if j > i then j else i
def mn (i j : Int) : Int := if j < i then j else i
/-- what is owed behind a month -/
def nxt (r s l : Int) (p : Bool) (e b : Int) : Int := if ow r b ≤ l then 0 else ow r b - mn (ow r b) (mx l (wan r s p b) + e)
structure Pl (r s l : Int) : Prop where
  r0 : 0 ≤ r
  r1 : r ≤ 1000
  s0 : 0 ≤ s
  s1 : s ≤ 1000
  l0 : 1 ≤ l
  l1 : l ≤ 3000
section
variable {r s l : Int} {p : Bool}
theorem int_mono (h : 0 ≤ r) {b c : Int} (hb : b ≤ c) : b * r / 1000 ≤ c * r / 1000 := Int.ediv_le_ediv (by decide) (Int.mul_le_mul_of_nonneg_right hb h)
theorem int_slow (h : s ≤ 1000) {b c : Int} (hb : b ≤ c) : c * s / 1000 ≤ b * s / 1000 + (c - b) := by
  have h1 : c * s ≤ b * s + (c - b) * 1000 := by
    have : (c - b) * s ≤ (c - b) * 1000 := Int.mul_le_mul_of_nonneg_left h (by omega)
    have e : (c - b) * s = c * s - b * s := Int.sub_mul c b s
    omega
  have h2 : (b * s + (c - b) * 1000) / 1000 = b * s / 1000 + (c - b) := Int.add_mul_ediv_right _ _ (by decide)
  have := Int.ediv_le_ediv (c := 1000) (by decide) h1
  omega
theorem ow_mono (P : Pl r s l) {b c : Int} (hb : b ≤ c) : ow r b ≤ ow r c := by
  have := int_mono P.r0 hb
  unfold ow; omega
theorem ow_ge (P : Pl r s l) {b : Int} (hb : 0 ≤ b) : b ≤ ow r b := by
  have : 0 ≤ b * r / 1000 := Int.ediv_nonneg (Int.mul_nonneg hb P.r0) (by decide)
  unfold ow; omega
/-- owed less what is wanted -/
theorem less_mono (P : Pl r s l) {b c : Int} (hb : b ≤ c) : ow r b - wan r s p b ≤ ow r c - wan r s p c := by
  cases p with
  | true =>
    have := int_slow (s := s) P.s1 hb
    simp only [wan, ow, if_true]; omega
  | false =>
    have := int_slow (s := s) P.s1 (ow_mono P hb)
    simp only [wan, Bool.false_eq_true, if_false]; omega
theorem nxt_nonneg {e b : Int} : 0 ≤ nxt r s l p e b := by
  unfold nxt mn
  split
  · omega
  · split <;> omega
theorem nxt_mono (P : Pl r s l) {e b c : Int} (hb : b ≤ c) : nxt r s l p e b ≤ nxt r s l p e c := by
  have h1 := ow_mono P hb
  have h2 := less_mono (p := p) P hb
  unfold nxt mn mx
  split <;> split <;> (repeat' split) <;> omega
theorem nxt_zero (P : Pl r s l) {e : Int} : nxt r s l p e 0 = 0 := by
  have := P.l0
  have : ow r 0 = 0 := by simp [ow]
  unfold nxt
  rw [this, if_pos (by omega)]
/-- a great payment pays all -/
theorem nxt_all (P : Pl r s l) {e b : Int} (hb : 0 ≤ b) (he : 2 * b ≤ e) : nxt r s l p e b = 0 := by
  have h1 : b * r / 1000 ≤ b := by
    have : b * r ≤ b * 1000 := Int.mul_le_mul_of_nonneg_left P.r1 hb
    omega
  have h2 := P.l0
  unfold nxt mn mx
  split
  · rfl
  · have : ow r b ≤ 2 * b := by unfold ow; omega
    (repeat' split) <;> omega
/-- below the full share it grows without end -/
theorem nxt_far (P : Pl r s l) (hs : s < 1000) {c b : Int} (hc : 0 ≤ c) (hb : 1000 * (c + 1) + l < b) : c < nxt r s l p 0 b := by
  have b0 : 0 ≤ b := by have := P.l0; omega
  have h1 := ow_ge P b0
  have h2 : c + 1 ≤ ow r b - wan r s p b := by
    have key : ∀ x : Int, 0 ≤ x → 1000 * (c + 1) ≤ x → x * s / 1000 ≤ x - (c + 1) := by
      intro x x0 hx
      have h3 : x * s ≤ x * 999 := Int.mul_le_mul_of_nonneg_left (by omega) x0
      omega
    cases p with
    | true =>
      have := key b b0 (by have := P.l0; omega)
      simp only [wan, ow, if_true]; omega
    | false =>
      have := key (ow r b) (by omega) (by have := P.l0; omega)
      simp only [wan, Bool.false_eq_true, if_false]; omega
  have := P.l0
  unfold nxt mn mx
  split
  · omega
  · (repeat' split) <;> omega
end
/-! ### the walk of months -/
/-- the last sum after at most n months; the walk ends at 0 or where nothing is gained -/
def wend (f : Int → Int) : Nat → Int → Int
  | 0, x => x
  | n + 1, x => if x = 0 ∨ x ≤ f x then x else wend f n (f x)
/-- how many months -/
def wlen (f : Int → Int) : Nat → Int → Nat
  | 0, _ => 0
  | n + 1, x => if x = 0 ∨ x ≤ f x then 0 else wlen f n (f x) + 1
section
variable {f : Int → Int}
theorem wend_stop {n : Nat} {x : Int} (h : x = 0 ∨ x ≤ f x) : wend f n x = x := by
  cases n with
  | zero => rfl
  | succ n => unfold wend; rw [if_pos h]
theorem wlen_stop {n : Nat} {x : Int} (h : x = 0 ∨ x ≤ f x) : wlen f n x = 0 := by
  cases n with
  | zero => rfl
  | succ n => unfold wlen; rw [if_pos h]
theorem wend_go {n : Nat} {x : Int} (h : ¬(x = 0 ∨ x ≤ f x)) : wend f (n + 1) x = wend f n (f x) := by
  rw [wend, if_neg h]
theorem wlen_go {n : Nat} {x : Int} (h : ¬(x = 0 ∨ x ≤ f x)) : wlen f (n + 1) x = wlen f n (f x) + 1 := by
  rw [wlen, if_neg h]
/-- enough months: no more change anything -/
theorem wend_big (h0 : ∀ x, 0 ≤ f x) : ∀ (n m : Nat) (x : Int), 0 ≤ x → x.toNat ≤ n → x.toNat ≤ m → wend f n x = wend f m x ∧ wlen f n x = wlen f m x
  | 0, m, x, hx, hn, hm => by
    have : x = 0 := by omega
    rw [wend_stop (.inl this), wend_stop (.inl this), wlen_stop (.inl this), wlen_stop (.inl this)]; exact ⟨rfl, rfl⟩
  | n + 1, 0, x, hx, hn, hm => by
    have : x = 0 := by omega
    rw [wend_stop (.inl this), wend_stop (.inl this), wlen_stop (.inl this), wlen_stop (.inl this)]; exact ⟨rfl, rfl⟩
  | n + 1, m + 1, x, hx, hn, hm => by
    by_cases h : x = 0 ∨ x ≤ f x
    · rw [wend_stop h, wend_stop h, wlen_stop h, wlen_stop h]; exact ⟨rfl, rfl⟩
    · have h1 := h0 x
      have h2 : f x < x := by omega
      obtain ⟨e1, e2⟩ := wend_big h0 n m (f x) h1 (by omega) (by omega)
      rw [wend_go h, wend_go h, wlen_go h, wlen_go h, e1, e2]; exact ⟨rfl, rfl⟩
/-- at 0 after m months: the whole walk ends there, in as many -/
theorem wend_zero (h0 : ∀ x, 0 ≤ f x) : ∀ (m n : Nat) (x : Int), 0 ≤ x → x.toNat ≤ n → (wend f m x = 0 ↔ wend f n x = 0 ∧ wlen f n x ≤ m)
  | m, n, x, hx, hn => by
    by_cases h : x = 0 ∨ x ≤ f x
    · rw [wend_stop h, wend_stop h, wlen_stop h]; exact ⟨fun e => ⟨e, Nat.zero_le _⟩, fun e => e.1⟩
    · have h1 := h0 x
      cases n with
      | zero => exact absurd (Or.inl (by omega)) h
      | succ n =>
        cases m with
        | zero =>
          rw [wlen_go h]
          exact ⟨fun e => absurd (Or.inl e) h, fun e => absurd e.2 (by omega)⟩
        | succ m =>
          rw [wend_go h, wend_go h, wlen_go h, wend_zero h0 m n (f x) h1 (by omega)]
          exact ⟨fun e => ⟨e.1, by omega⟩, fun e => ⟨e.1, by omega⟩⟩
/-- n months with no end ahead of time -/
def itn (f : Int → Int) : Nat → Int → Int
  | 0, x => x
  | n + 1, x => itn f n (f x)
theorem itn_le (hm : ∀ x y, x ≤ y → f x ≤ f y) : ∀ (n : Nat) (x y : Int), x ≤ y → itn f n x ≤ itn f n y
  | 0, _, _, h => h
  | n + 1, x, y, h => itn_le hm n _ _ (hm _ _ h)
theorem itn_up (hm : ∀ x y, x ≤ y → f x ≤ f y) : ∀ (n : Nat) (x : Int), x ≤ f x → x ≤ itn f n x
  | 0, _, _ => Int.le_refl _
  | n + 1, x, h => Int.le_trans (itn_up hm n x h) (itn_le hm n _ _ h)
theorem wend_itn (hz : f 0 = 0) (h0 : ∀ x, 0 ≤ f x) (hm : ∀ x y, x ≤ y → f x ≤ f y) : ∀ (n : Nat) (x : Int), 0 ≤ x → (wend f n x = 0 ↔ itn f n x = 0)
  | 0, x, _ => Iff.rfl
  | n + 1, x, hx => by
    by_cases h : x = 0 ∨ x ≤ f x
    · rw [wend_stop h]
      rcases h with h | h
      · subst h
        have : ∀ n, itn f n 0 = 0 := fun n => by
          induction n with
          | zero => rfl
          | succ n ih => show itn f n (f 0) = 0; rw [hz]; exact ih
        exact ⟨fun _ => this _, fun _ => rfl⟩
      · have := itn_up hm (n + 1) x h
        constructor
        · intro e
          subst e
          have : ∀ n, itn f n 0 = 0 := fun n => by
            induction n with
            | zero => rfl
            | succ n ih => show itn f n (f 0) = 0; rw [hz]; exact ih
          exact this _
        · intro e; omega
    · rw [wend_go h]
      exact wend_itn hz h0 hm n (f x) (h0 x)
/-- the greatest sum that ends at most at c, taken n times -/
def gtn (G : Int → Int) : Nat → Int → Int
  | 0, c => c
  | n + 1, c => gtn G n (G c)
theorem itn_gtn {G : Int → Int} (hG : ∀ c, 0 ≤ c → 0 ≤ G c ∧ ∀ x, 0 ≤ x → (f x ≤ c ↔ x ≤ G c)) (h0 : ∀ x, 0 ≤ f x) : ∀ (n : Nat) (c x : Int), 0 ≤ c → 0 ≤ x → (itn f n x ≤ c ↔ x ≤ gtn G n c) ∧ 0 ≤ gtn G n c := by
  have comm : ∀ (n : Nat) (x : Int), itn f (n + 1) x = f (itn f n x) := by
    intro n
    induction n with
    | zero => intro x; rfl
    | succ n ih => intro x; show itn f (n + 1) (f x) = f (itn f n (f x)); exact ih (f x)
  have pos : ∀ (n : Nat) (x : Int), 0 ≤ x → 0 ≤ itn f n x := by
    intro n
    induction n with
    | zero => intro x h; exact h
    | succ n ih => intro x _; exact ih _ (h0 x)
  intro n
  induction n with
  | zero => intro c x hc hx; exact ⟨Iff.rfl, hc⟩
  | succ n ih =>
    intro c x hc hx
    obtain ⟨g0, g1⟩ := hG c hc
    obtain ⟨i1, i2⟩ := ih (G c) x g0 hx
    refine ⟨?_, i2⟩
    rw [comm, g1 _ (pos n x hx)]
    exact i1
end
/-! ### what the defs compute -/
abbrev isPlan (g : GSt) (k : Nat) (r s l : Int) (p : Bool) : Prop := g.S k = some (.ins "Plan" [("l_parts", .tup [.int r, .int s, .int l, .bl p])])
section
variable {g : GSt} {k : Nat} {r s l : Int} {p : Bool}
theorem sz_le {n : Nat} (h : n ≤ 1000) : n ≤ sizeLine := by rw [sizeLine_eq]; omega
theorem Pl.small (P : Pl r s l) : small64 r ∧ small64 s ∧ small64 l := by
  obtain ⟨h1, h2, h3, h4, h5, h6⟩ := P
  unfold small64; omega
theorem month_ok (P : Pl r s l) (h : isPlan g k r s l p) (b e : Int) : ∃ x y, f_month_with [.ptr k, .int b, .int e] g = .ok (.tup [.int x, .int y, .int (nxt r s l p e b)]) g := by
  obtain ⟨sr, ss, _⟩ := P.small
  have z3 : 3 ≤ sizeLine := sz_le (by omega)
  by_cases h1 : ow r b ≤ l
  · have h2 : b + b * r / 1000 ≤ l := h1
    refine ⟨b * r / 1000, ow r b, ?_⟩
    simp [f_month_with, m_month_with, h, List.lookup, sr, h2, nxt, h1, ow, z3]
  · have h2 : ¬ b + b * r / 1000 ≤ l := h1
    refine ⟨b * r / 1000, mn (ow r b) (mx l (wan r s p b) + e), ?_⟩
    cases p <;> simp [f_month_with, m_month_with, h, List.lookup, sr, ss, h2, nxt, ow, wan, mn, mx, z3]
theorem step_ok (P : Pl r s l) (b e : Int) : ∃ x y, f__law_step [.tup [.int r, .int s, .int l, .bl p], .int b, .int e] g = .ok (.tup [.int x, .int y, .int (nxt r s l p e b)]) g := by
  obtain ⟨sr, ss, _⟩ := P.small
  have z3 : 3 ≤ sizeLine := sz_le (by omega)
  by_cases h1 : ow r b ≤ l
  · have h2 : b + b * r / 1000 ≤ l := h1
    refine ⟨b * r / 1000, ow r b, ?_⟩
    simp [f__law_step, m__law_step, sr, h2, nxt, h1, ow, z3]
  · have h2 : ¬ b + b * r / 1000 ≤ l := h1
    refine ⟨b * r / 1000, mn (ow r b) (mx l (wan r s p b) + e), ?_⟩
    cases p <;> simp [f__law_step, m__law_step, sr, ss, h2, nxt, ow, wan, mn, mx, z3]
/-! row_with -/
def rwC : M Bool := isB (bin2 gtD (ixV 3 (negM (M.ret (.int 1)))) (M.ret (.int 0)))
def rwB : M Fl := seqM (M.bind (bin2 ixD (M.bind (consM (getV 0) (consM (ixV 3 (negM (M.ret (.int 1)))) (consM (getV 2) (M.ret [])))) (callF f_month_with)) (M.ret (.int 2))) (setV 4)) (seqM (ifM (isB (bin2 geD (getV 4) (ixV 3 (negM (M.ret (.int 1)))))) (retM (getV 3)) (M.ret .nx)) (exprM (methO 3 "list" fAppend (consM (getV 4) (M.ret [])))))
theorem atI_2 {α : Type} {a b c : α} : atI [a, b, c] 2 = some c := by simp [atI, ixN]
theorem row_loop (P : Pl r s l) (h : isPlan g k r s l p) (ba e : Int) : ∀ (n : Nat) (x : Int) (acc : List D) (lt : Option Slot), 0 ≤ x → x.toNat ≤ n → acc.length + n ≤ 200000 →
    ∃ acc', acc'.length = acc.length + wlen (nxt r s l p e) n x ∧ (seqM (whileM rwC rwB) (retM (getV 3)) ⟨g, [some (.val (.ptr k)), some (.val (.int ba)), some (.val (.int e)), some (.own (.lst (acc ++ [.int x]))), lt]⟩).out = .ok (.lst (acc' ++ [.int (wend (nxt r s l p e) n x)])) g := by
  intro n
  induction n with
  | zero =>
    intro x acc lt hx hn ha
    have x0 : x = 0 := by omega
    subst x0
    refine ⟨acc, rfl, ?_⟩
    rw [seqM_ap, whileM_eq]
    simp [rwC, atI_last, wend]
  | succ n ih =>
    intro x acc lt hx hn ha
    by_cases x0 : x = 0
    · subst x0
      refine ⟨acc, by rw [wlen_stop (.inl rfl)]; rfl, ?_⟩
      rw [seqM_ap, whileM_eq, wend_stop (.inl rfl)]
      simp [rwC, atI_last]
    · obtain ⟨m1, m2, em⟩ := month_ok P h x e
      have xp : 0 < x := by omega
      by_cases hs : x ≤ nxt r s l p e x
      · refine ⟨acc, by rw [wlen_stop (.inr hs)]; rfl, ?_⟩
        rw [seqM_ap, whileM_eq, wend_stop (.inr hs)]
        simp [rwC, rwB, atI_last, xp, turnM, em, atI_2, hs]
      · have hgo : ¬(x = 0 ∨ x ≤ nxt r s l p e x) := fun z => z.elim x0 hs
        have n0 : 0 ≤ nxt r s l p e x := nxt_nonneg
        obtain ⟨acc', e1, e3⟩ := ih (nxt r s l p e x) (acc ++ [.int x]) (some (.val (.int (nxt r s l p e x)))) n0 (by omega) (by simp; omega)
        refine ⟨acc', by rw [wlen_go hgo, e1]; simp; omega, ?_⟩
        rw [seqM_ap] at e3
        rw [seqM_ap, whileM_eq, wend_go hgo, ← e3]
        have sz : acc.length + 1 < sizeLine := by rw [sizeLine_eq]; omega
        simp [rwC, rwB, atI_last, xp, turnM, em, atI_2, hs, sz]
theorem row_ok (P : Pl r s l) (h : isPlan g k r s l p) {b e : Int} (hb : 0 ≤ b) (hb2 : b ≤ 100000) : ∃ acc : List D, acc.length = wlen (nxt r s l p e) b.toNat b ∧ f_row_with [.ptr k, .int b, .int e] g = .ok (.lst (acc ++ [.int (wend (nxt r s l p e) b.toNat b)])) g := by
  obtain ⟨acc, e1, e3⟩ := row_loop P h b e b.toNat b [] none hb (Nat.le_refl _) (by simp; omega)
  refine ⟨acc, by simpa using e1, ?_⟩
  have sz : 1 ≤ sizeLine := sz_le (by omega)
  simp only [rwC, rwB, seqM_ap, List.nil_append] at e3
  simp [f_row_with, m_row_with, sz, e3]
/-! is_enough, the law's walk -/
def moD : Option Int → D
  | none => .non
  | some m => .int m
/-- the debt is paid, within the months if told -/
def enough (f : Int → Int) (b : Int) (mo : Option Int) : Bool := decide (wend f b.toNat b = 0) && (match mo with
  | none => true
  | some m => decide ((wlen f b.toNat b : Int) ≤ m))
theorem enough_ok (P : Pl r s l) (h : isPlan g k r s l p) {b e : Int} (hb : 0 ≤ b) (hb2 : b ≤ 100000) (mo : Option Int) : f_is_enough [.ptr k, .int b, moD mo, .int e] g = .ok (.bl (enough (nxt r s l p e) b mo)) g := by
  obtain ⟨acc, e1, e2⟩ := row_ok P h (e := e) hb hb2
  by_cases hw : wend (nxt r s l p e) b.toNat b = 0
  · rw [hw] at e2
    cases mo with
    | none => simp [f_is_enough, m_is_enough, e2, atI_last, moD, enough, hw]
    | some m => simp [f_is_enough, m_is_enough, e2, atI_last, moD, enough, hw, e1]
  · simp [f_is_enough, m_is_enough, e2, atI_last, moD, enough, hw]
def lwB : M Fl := seqM (M.bind (bin2 ixD (M.bind (consM (getV 0) (consM (ixV 4 (negM (M.ret (.int 1)))) (consM (getV 2) (M.ret [])))) (callF f__law_step)) (M.ret (.int 2))) (setV 6)) (seqM (ifM (orB (isB (bin2 eqD (ixV 4 (negM (M.ret (.int 1)))) (M.ret (.int 0)))) (isB (bin2 geD (getV 6) (ixV 4 (negM (M.ret (.int 1))))))) (retM (getV 4)) (M.ret .nx)) (exprM (methO 4 "list" fAppend (consM (getV 6) (M.ret [])))))
theorem walk_loop (P : Pl r s l) (e : Int) (t1 t3 : Option Slot) : ∀ (ds : List D) (x : Int) (acc : List D) (t5 t6 : Option Slot), acc.length + ds.length ≤ 200000 →
    ∃ acc', (seqM (forL (gSet 5) lwB ds) (retM (getV 4)) ⟨g, [some (.val (.tup [.int r, .int s, .int l, .bl p])), t1, some (.val (.int e)), t3, some (.own (.lst (acc ++ [.int x]))), t5, t6]⟩).out = .ok (.lst (acc' ++ [.int (wend (nxt r s l p e) ds.length x)])) g := by
  intro ds
  induction ds with
  | nil =>
    intro x acc t5 t6 ha
    refine ⟨acc, ?_⟩
    simp [forL, wend]
  | cons d ds ih =>
    intro x acc t5 t6 ha
    simp only [List.length_cons] at ha
    obtain ⟨m1, m2, em⟩ := step_ok (g := g) (p := p) P x e
    by_cases hs : x = 0 ∨ x ≤ nxt r s l p e x
    · refine ⟨acc, ?_⟩
      rw [wend_stop hs]
      by_cases x0 : x = 0
      · subst x0
        simp [forL, lwB, atI_last, turnM, em, atI_2]
      · have hs2 := hs.resolve_left x0
        simp [forL, lwB, atI_last, turnM, em, atI_2, x0, hs2]
    · obtain ⟨acc', e3⟩ := ih (nxt r s l p e x) (acc ++ [.int x]) (some (.val d)) (some (.val (.int (nxt r s l p e x)))) (by simp; omega)
      refine ⟨acc', ?_⟩
      rw [List.length_cons, wend_go hs, ← e3]
      have sz : acc.length + 1 < sizeLine := by rw [sizeLine_eq]; omega
      have h1 : ¬ x = 0 := fun z => hs (.inl z)
      have h2 : ¬ x ≤ nxt r s l p e x := fun z => hs (.inr z)
      simp [forL, lwB, atI_last, turnM, em, atI_2, h1, h2, sz]
theorem rngL_length {lo : Int} {n : Nat} : (rngL lo n).length = n := by simp [rngL]
theorem walk_ok (P : Pl r s l) (b e : Int) {m : Int} (hm : 0 ≤ m) (hm2 : m ≤ 4000) : ∃ acc : List D, f__law_walk [.tup [.int r, .int s, .int l, .bl p], .int b, .int e, .int m] g = .ok (.lst (acc ++ [.int (wend (nxt r s l p e) m.toNat b)])) g := by
  obtain ⟨acc, e3⟩ := walk_loop (g := g) (p := p) P e (some (.val (.int b))) (some (.val (.int m))) (rngL 0 m.toNat) b [] none none (by simp [rngL_length]; omega)
  refine ⟨acc, ?_⟩
  rw [rngL_length] at e3
  have sz : 1 ≤ sizeLine := sz_le (by omega)
  have c1 : -4611686018427387904 ≤ m := by omega
  have c2 : m < 4611686018427387904 := by omega
  simp only [lwB, List.nil_append, seqM_ap] at e3
  simp [f__law_walk, m__law_walk, sz, c1, c2, e3]
theorem ends_ok (P : Pl r s l) (b e : Int) (mo : Option Int) (hm : ∀ m, mo = some m → 0 ≤ m ∧ m ≤ 4000) : f__law_ends [.tup [.int r, .int s, .int l, .bl p], .int b, .int e, moD mo] g = .ok (.bl (decide (wend (nxt r s l p e) (mo.getD 4000).toNat b = 0))) g := by
  cases mo with
  | none =>
    obtain ⟨acc, ea⟩ := walk_ok (g := g) (p := p) P b e (m := 4000) (by decide) (by decide)
    simp [f__law_ends, m__law_ends, moD, ea, atI_last]
  | some m =>
    obtain ⟨h1, h2⟩ := hm m rfl
    obtain ⟨acc, ea⟩ := walk_ok (g := g) (p := p) P b e h1 h2
    simp [f__law_ends, m__law_ends, moD, ea, atI_last]
/-- the program's word and the law's are one -/
theorem enough_ends (P : Pl r s l) {b e : Int} (hb : 0 ≤ b) (hb2 : b ≤ 4000) (mo : Option Int) (hm : ∀ m, mo = some m → 0 ≤ m ∧ m ≤ 4000) : enough (nxt r s l p e) b mo = decide (wend (nxt r s l p e) (mo.getD 4000).toNat b = 0) := by
  have h0 : ∀ x, 0 ≤ nxt r s l p e x := fun x => nxt_nonneg
  have key := wend_zero h0 (mo.getD 4000).toNat b.toNat b hb (Nat.le_refl _)
  cases mo with
  | none =>
    have := (wend_big h0 4000 b.toNat b hb (by omega) (Nat.le_refl _)).1
    simp [enough, this]
  | some m =>
    obtain ⟨h1, h2⟩ := hm m rfl
    simp only [Option.getD_some] at key
    have e1 : ((wlen (nxt r s l p e) b.toNat b : Int) ≤ m) ↔ wlen (nxt r s l p e) b.toNat b ≤ m.toNat := by omega
    simp [enough, key, e1]
/-! least_extra -/
theorem isnum_ok (v : Int) : f_is_number [.int v] g = .ok (.bl true) g := by simp [f_is_number, m_is_number]
theorem isnumL_ok (v : Int) : f__law_is_number [.int v] g = .ok (.bl true) g := by simp [f__law_is_number, m__law_is_number]
theorem isnumL_non : f__law_is_number [.non] g = .ok (.bl false) g := by simp [f__law_is_number, m__law_is_number]
theorem isnumin_ok {v lo hi : Int} (h1 : lo ≤ v) (h2 : v ≤ hi) : f_is_number_in [.int v, .int lo, .int hi] g = .ok (.bl true) g := by
  simp [f_is_number_in, m_is_number_in, isnum_ok, chainD_ap, h1, h2]
theorem needplan_ok (h : isPlan g k r s l p) : f_need_plan [.ptr k] g = .ok .non g := by
  simp [f_need_plan, m_need_plan, tyD, h, List.lookup]
theorem needbal_ok (h : isPlan g k r s l p) {b : Int} (hb : 0 ≤ b) (hb2 : b ≤ 100000) : f_need_balance [.ptr k, .int b] g = .ok .non g := by
  simp [f_need_balance, m_need_balance, needplan_ok h, isnumin_ok hb hb2]
def leC : M Bool := isB (bin2 gtD (bin2 subD (getV 4) (getV 3)) (M.ret (.int 1)))
noncomputable def leB : M Fl := seqM (M.bind (bin2 fdivD (bin2 addD (getV 3) (getV 4)) (M.ret (.int 2))) (setV 5)) (ifM (isB (M.bind (consM (getV 0) (consM (getV 1) (consM (getV 2) (consM (getV 5) (M.ret []))))) (callF f_is_enough))) (M.bind (getV 5) (setV 4)) (M.bind (getV 5) (setV 3)))
theorem least_loop (P : Pl r s l) (h : isPlan g k r s l p) {b : Int} (hb : 0 ≤ b) (hb2 : b ≤ 100000) (mo : Option Int) : ∀ (n : Nat) (lo hi : Int) (t5 : Option Slot), lo < hi → (hi - lo).toNat ≤ n → enough (nxt r s l p lo) b mo = false → enough (nxt r s l p hi) b mo = true →
    ∃ v, (seqM (whileM leC leB) (retM (getV 4)) ⟨g, [some (.val (.ptr k)), some (.val (.int b)), some (.val (moD mo)), some (.val (.int lo)), some (.val (.int hi)), t5]⟩).out = .ok (.int v) g ∧ lo < v ∧ enough (nxt r s l p v) b mo = true ∧ enough (nxt r s l p (v - 1)) b mo = false := by
  intro n
  induction n with
  | zero => intro lo hi t5 h1 h2; omega
  | succ n ih =>
    intro lo hi t5 h1 h2 h3 h4
    by_cases hd : 1 < hi - lo
    · have hm := enough_ok P h (e := (lo + hi) / 2) hb hb2 mo
      cases hc : enough (nxt r s l p ((lo + hi) / 2)) b mo with
      | true =>
        rw [hc] at hm
        obtain ⟨v, e1, e2⟩ := ih lo ((lo + hi) / 2) (some (.val (.int ((lo + hi) / 2)))) (by omega) (by omega) h3 hc
        refine ⟨v, ?_, e2⟩
        rw [seqM_ap] at e1
        rw [seqM_ap, whileM_eq, ← e1]
        simp [leC, leB, hd, turnM, hm]
      | false =>
        rw [hc] at hm
        obtain ⟨v, e1, e2, e3⟩ := ih ((lo + hi) / 2) hi (some (.val (.int ((lo + hi) / 2)))) (by omega) (by omega) hc h4
        refine ⟨v, ?_, by omega, e3⟩
        rw [seqM_ap] at e1
        rw [seqM_ap, whileM_eq, ← e1]
        simp [leC, leB, hd, turnM, hm]
    · have e : lo = hi - 1 := by omega
      refine ⟨hi, ?_, h1, h4, by rw [← e]; exact h3⟩
      rw [seqM_ap, whileM_eq]
      simp [leC, hd]
theorem least_ok (P : Pl r s l) (h : isPlan g k r s l p) {b : Int} (hb : 0 ≤ b) (hb2 : b ≤ 100000) (mo : Option Int) (hm : ∀ m, mo = some m → 1 ≤ m ∧ m ≤ 100) :
    ∃ v, f_least_extra [.ptr k, .int b, moD mo] g = .ok (.int v) g ∧ 0 ≤ v ∧ enough (nxt r s l p v) b mo = true ∧ (v = 0 ∨ enough (nxt r s l p (v - 1)) b mo = false) := by
  have e0 := enough_ok P h (e := 0) hb hb2 mo
  have hmo : ∀ k : M Fl, (seqM (ifM (andB (isB (bin2 notND (getV 2) (M.ret .non))) (notB (isB (M.bind (consM (getV 2) (consM (M.ret (.int 1)) (consM (M.ret (.int 100)) (M.ret [])))) (callF f_is_number_in))))) (M.fail) (M.ret .nx)) k ⟨g, [some (.val (.ptr ‹Nat›)), some (.val (.int b)), some (.val (moD mo)), none, none, none]⟩) = k ⟨g, [some (.val (.ptr ‹Nat›)), some (.val (.int b)), some (.val (moD mo)), none, none, none]⟩ := by
    intro kk
    cases mo with
    | none => simp [moD]
    | some m =>
      obtain ⟨h1, h2⟩ := hm m rfl
      simp [moD, isnumin_ok h1 h2]
  cases hc : enough (nxt r s l p 0) b mo with
  | true =>
    rw [hc] at e0
    refine ⟨0, ?_, Int.le_refl _, hc, .inl rfl⟩
    simp [f_least_extra, m_least_extra, needbal_ok h hb hb2]
    simp at hmo
    rw [hmo]
    simp [e0]
  | false =>
    rw [hc] at e0
    have b0 : 0 < b := by
      by_cases hz : b = 0
      · subst hz
        have : enough (nxt r s l p 0) 0 mo = true := by
          cases mo with
          | none => rfl
          | some m =>
            have := hm m rfl
            simp [enough, wend, wlen]; omega
        rw [this] at hc; cases hc
      · omega
    have hall : enough (nxt r s l p (2 * b)) b mo = true := by
      have z := nxt_all (p := p) P hb (Int.le_refl (2 * b))
      have hgo : ¬(b = 0 ∨ b ≤ nxt r s l p (2 * b) b) := by rw [z]; omega
      obtain ⟨n, hn⟩ : ∃ n, b.toNat = n + 1 := ⟨b.toNat - 1, by omega⟩
      have e1 : wend (nxt r s l p (2 * b)) b.toNat b = 0 := by rw [hn, wend_go hgo, z, wend_stop (.inl rfl)]
      have e2 : wlen (nxt r s l p (2 * b)) b.toNat b = 1 := by rw [hn, wlen_go hgo, z, wlen_stop (.inl rfl)]
      cases mo with
      | none => simp [enough, e1]
      | some m =>
        have := hm m rfl
        simp [enough, e1, e2]; omega
    obtain ⟨v, e1, e2, e3, e4⟩ := least_loop P h hb hb2 mo (2 * b).toNat 0 (2 * b) none (by omega) (by omega) hc hall
    refine ⟨v, ?_, by omega, e3, .inr e4⟩
    have s2 : small64 2 := by decide
    simp only [leC, leB, seqM_ap] at e1
    simp [f_least_extra, m_least_extra, needbal_ok h hb hb2]
    simp at hmo
    rw [hmo]
    simp [e0, s2, e1]
/-! greatest_to -/
/-- v: the greatest sum that ends at most at c -/
def Gr (f : Int → Int) (c v : Int) : Prop := 0 ≤ v ∧ ∀ x, 0 ≤ x → (f x ≤ c ↔ x ≤ v)
def gC : M Bool := isB (bin2 leD (bin2 ixD (M.bind (consM (getV 0) (consM (getV 3) (consM (M.ret (.int 0)) (M.ret [])))) (callF f_month_with)) (M.ret (.int 2))) (getV 1))
def gB : M Fl := set2 2 3 (consM (getV 3) (consM (bin2 mulD (M.ret (.int 2)) (getV 3)) (M.ret [])))
def hC : M Bool := isB (bin2 gtD (bin2 subD (getV 3) (getV 2)) (M.ret (.int 1)))
def hB : M Fl := seqM (M.bind (bin2 fdivD (bin2 addD (getV 2) (getV 3)) (M.ret (.int 2))) (setV 4)) (ifM (isB (bin2 leD (bin2 ixD (M.bind (consM (getV 0) (consM (getV 4) (consM (M.ret (.int 0)) (M.ret [])))) (callF f_month_with)) (M.ret (.int 2))) (getV 1))) (M.bind (getV 4) (setV 2)) (M.bind (getV 4) (setV 3)))
theorem half_loop (P : Pl r s l) (h : isPlan g k r s l p) (c : Int) : ∀ (n : Nat) (lo hi : Int) (t4 : Option Slot), 0 ≤ lo → lo < hi → (hi - lo).toNat ≤ n → nxt r s l p 0 lo ≤ c → c < nxt r s l p 0 hi →
    ∃ v, (seqM (whileM hC hB) (retM (getV 2)) ⟨g, [some (.val (.ptr k)), some (.val (.int c)), some (.val (.int lo)), some (.val (.int hi)), t4]⟩).out = .ok (.int v) g ∧ Gr (nxt r s l p 0) c v := by
  intro n
  induction n with
  | zero => intro lo hi t4 h0 h1 h2; omega
  | succ n ih =>
    intro lo hi t4 h0 h1 h2 h3 h4
    by_cases hd : 1 < hi - lo
    · obtain ⟨m1, m2, em⟩ := month_ok P h ((lo + hi) / 2) 0
      by_cases hc : nxt r s l p 0 ((lo + hi) / 2) ≤ c
      · obtain ⟨v, e1, e2⟩ := ih ((lo + hi) / 2) hi (some (.val (.int ((lo + hi) / 2)))) (by omega) (by omega) (by omega) hc h4
        refine ⟨v, ?_, e2⟩
        rw [seqM_ap] at e1
        rw [seqM_ap, whileM_eq, ← e1]
        simp [hC, hB, hd, turnM, em, atI_2, hc]
      · obtain ⟨v, e1, e2⟩ := ih lo ((lo + hi) / 2) (some (.val (.int ((lo + hi) / 2)))) h0 (by omega) (by omega) h3 (by omega)
        refine ⟨v, ?_, e2⟩
        rw [seqM_ap] at e1
        rw [seqM_ap, whileM_eq, ← e1]
        simp [hC, hB, hd, turnM, em, atI_2, hc]
    · have e : hi = lo + 1 := by omega
      refine ⟨lo, ?_, h0, fun x hx => ⟨fun hf => ?_, fun hf => Int.le_trans (nxt_mono P hf) h3⟩⟩
      · rw [seqM_ap, whileM_eq]
        simp [hC, hd]
      · by_cases hxl : x ≤ lo
        · exact hxl
        · have := nxt_mono (p := p) (e := 0) P (show hi ≤ x by omega)
          omega
theorem up_loop (P : Pl r s l) (hs : s < 1000) (h : isPlan g k r s l p) {c : Int} (hc : 0 ≤ c) (rest : M Fl) (Q : R Fl → Prop) (hr : ∀ lo hi t4, 0 ≤ lo → lo < hi → c < nxt r s l p 0 hi → Q (rest ⟨g, [some (.val (.ptr k)), some (.val (.int c)), some (.val (.int lo)), some (.val (.int hi)), t4]⟩)) :
    ∀ (n : Nat) (lo hi : Int) (t4 : Option Slot), 0 ≤ lo → lo < hi → (1000 * (c + 1) + l + 1 - hi).toNat ≤ n → Q (seqM (whileM gC gB) rest ⟨g, [some (.val (.ptr k)), some (.val (.int c)), some (.val (.int lo)), some (.val (.int hi)), t4]⟩) := by
  have s2 : small64 2 := by decide
  have z : ∀ hi, 1000 * (c + 1) + l < hi → ¬ nxt r s l p 0 hi ≤ c := fun hi h => by have := nxt_far (p := p) P hs hc h; omega
  have stop : ∀ (lo hi : Int) (t4 : Option Slot), 0 ≤ lo → lo < hi → ¬ nxt r s l p 0 hi ≤ c → Q (seqM (whileM gC gB) rest ⟨g, [some (.val (.ptr k)), some (.val (.int c)), some (.val (.int lo)), some (.val (.int hi)), t4]⟩) := by
    intro lo hi t4 h0 h1 h2
    obtain ⟨m1, m2, em⟩ := month_ok P h hi 0
    have := hr lo hi t4 h0 h1 (by omega)
    rw [seqM_ap, whileM_eq]
    simpa [gC, em, atI_2, h2] using this
  intro n
  induction n with
  | zero => intro lo hi t4 h0 h1 h2; exact stop lo hi t4 h0 h1 (z hi (by omega))
  | succ n ih =>
    intro lo hi t4 h0 h1 h2
    by_cases hn : nxt r s l p 0 hi ≤ c
    · obtain ⟨m1, m2, em⟩ := month_ok P h hi 0
      have hle : hi ≤ 1000 * (c + 1) + l := by
        by_cases hz : 1000 * (c + 1) + l < hi
        · exact absurd hn (z hi hz)
        · omega
      have e1 := ih hi (2 * hi) t4 (by omega) (by omega) (by omega)
      rw [seqM_ap] at e1
      rw [seqM_ap, whileM_eq]
      simpa [gC, gB, em, atI_2, hn, turnM, s2] using e1
    · exact stop lo hi t4 h0 h1 hn
theorem greatest_ok (P : Pl r s l) (hs : s < 1000) (h : isPlan g k r s l p) {c : Int} (hc : 0 ≤ c) : ∃ v, f_greatest_to [.ptr k, .int c] g = .ok (.int v) g ∧ Gr (nxt r s l p 0) c v := by
  have key := up_loop P hs h hc (seqM (ifM (isB (bin2 gtD (bin2 ixD (M.bind (consM (getV 0) (consM (getV 2) (consM (M.ret (.int 0)) (M.ret [])))) (callF f_month_with)) (M.ret (.int 2))) (getV 1))) (set2 2 3 (consM (M.ret (.int 0)) (consM (getV 2) (M.ret [])))) (M.ret .nx)) (seqM (whileM hC hB) (retM (getV 2))))
    (fun R => ∃ v, R.out = .ok (.int v) g ∧ Gr (nxt r s l p 0) c v) (fun lo hi t4 h0 h1 h2 => by
      obtain ⟨m1, m2, em⟩ := month_ok P h lo 0
      by_cases hl : c < nxt r s l p 0 lo
      · have lp : 0 < lo := by
          by_cases hz : lo = 0
          · subst hz; rw [nxt_zero P] at hl; omega
          · omega
        obtain ⟨v, e1, e2⟩ := half_loop P h c lo.toNat 0 lo t4 (Int.le_refl _) lp (by omega) (by rw [nxt_zero P]; exact hc) hl
        refine ⟨v, ?_, e2⟩
        rw [seqM_ap] at e1
        rw [← e1]
        simp [em, atI_2, hl]
      · obtain ⟨v, e1, e2⟩ := half_loop P h c (hi - lo).toNat lo hi t4 h0 h1 (Nat.le_refl _) (by omega) h2
        refine ⟨v, ?_, e2⟩
        rw [seqM_ap] at e1
        rw [← e1]
        simp [em, atI_2, hl]) _ c (c + 1) none hc (by omega) (Nat.le_refl _)
  obtain ⟨v, e1, e2⟩ := key
  refine ⟨v, ?_, e2⟩
  simp only [gC, gB, hC, hB, seqM_ap] at e1
  simp [f_greatest_to, m_greatest_to, e1]
/-! most_within -/
noncomputable def mwB : M Fl := M.bind (M.bind (consM (getV 0) (consM (getV 2) (M.ret []))) (callF f_greatest_to)) (setV 2)
theorem itn_pos {f : Int → Int} (h0 : ∀ x, 0 ≤ f x) : ∀ (n : Nat) (x : Int), 0 ≤ x → 0 ≤ itn f n x
  | 0, _, h => h
  | n + 1, x, _ => itn_pos h0 n _ (h0 x)
theorem itn_last {f : Int → Int} : ∀ (n : Nat) (x : Int), itn f (n + 1) x = f (itn f n x)
  | 0, _ => rfl
  | n + 1, x => itn_last n (f x)
theorem gr_le (P : Pl r s l) (hs : s < 1000) {c v : Int} (hc : 0 ≤ c) (h : Gr (nxt r s l p 0) c v) : v + 1 ≤ 4096 * (c + 1) := by
  have h1 := (h.2 v h.1).mpr (Int.le_refl _)
  have h2 := P.l1
  by_cases hz : 1000 * (c + 1) + l < v
  · have := nxt_far (p := p) P hs hc hz; omega
  · omega
theorem most_loop (P : Pl r s l) (hs : s < 1000) (h : isPlan g k r s l p) (t1 : Option Slot) : ∀ (ds : List D) (c : Int) (t3 : Option Slot), 0 ≤ c →
    ∃ v t3', forL (gSet 3) mwB ds ⟨g, [some (.val (.ptr k)), t1, some (.val (.int c)), t3]⟩ = .ok .nx ⟨g, [some (.val (.ptr k)), t1, some (.val (.int v)), t3']⟩ ∧ 0 ≤ v ∧ (∀ x, 0 ≤ x → (itn (nxt r s l p 0) ds.length x ≤ c ↔ x ≤ v)) ∧ v + 1 ≤ 4096 ^ ds.length * (c + 1) := by
  intro ds
  induction ds with
  | nil => intro c t3 hc; exact ⟨c, t3, rfl, hc, fun x hx => Iff.rfl, by simp⟩
  | cons d ds ih =>
    intro c t3 hc
    obtain ⟨v1, e1, g1⟩ := greatest_ok P hs h hc
    obtain ⟨v, t3', e2, v0, hv, hb⟩ := ih v1 (some (.val d)) g1.1
    refine ⟨v, t3', ?_, v0, fun x hx => ?_, ?_⟩
    · rw [← e2]
      simp [forL, mwB, turnM, e1]
    · rw [List.length_cons, itn_last, g1.2 _ (itn_pos (fun x => nxt_nonneg) _ _ hx)]
      exact hv x hx
    · have h1 := gr_le P hs hc g1
      have h2 : (4096 : Int) ^ ds.length * (v1 + 1) ≤ 4096 ^ ds.length * (4096 * (c + 1)) := Int.mul_le_mul_of_nonneg_left h1 (Int.le_of_lt (Int.pow_pos (by decide)))
      have h3 : (4096 : Int) ^ (d :: ds).length * (c + 1) = 4096 ^ ds.length * (4096 * (c + 1)) := by rw [List.length_cons, Int.pow_succ, Int.mul_assoc]
      omega
theorem share_ok (h : isPlan g k r s l p) : f_Plan_share [.ptr k] g = .ok (.int s) g := by
  simp [f_Plan_share, m_Plan_share, h, List.lookup, atI, ixN]
theorem most_ok (P : Pl r s l) (h : isPlan g k r s l p) {m : Int} (hm : 0 ≤ m) (hm2 : m ≤ 100) (hs : m = 0 ∨ s < 1000) :
    ∃ v, f_most_within [.ptr k, .int m] g = .ok (.int v) g ∧ 0 ≤ v ∧ (∀ x, 0 ≤ x → (itn (nxt r s l p 0) m.toNat x ≤ 0 ↔ x ≤ v)) ∧ v.natAbs.log2 < 1920 := by
  have c1 : -4611686018427387904 ≤ m := by omega
  have c2 : m < 4611686018427387904 := by omega
  by_cases hz : m = 0
  · subst hz
    refine ⟨0, ?_, Int.le_refl _, fun x hx => Iff.rfl, by decide⟩
    simp [f_most_within, m_most_within, needplan_ok h, isnumin_ok (g := g) (v := 0) (lo := 0) (hi := 100) (by decide) (by decide), rngL, forL]
  · have hs' := hs.resolve_left hz
    obtain ⟨v, t3, e1, v0, hv, hb⟩ := most_loop P hs' h (some (.val (.int m))) (rngL 0 m.toNat) 0 none (Int.le_refl _)
    rw [rngL_length] at hv hb
    refine ⟨v, ?_, v0, hv, ?_⟩
    · have hp : 0 < m := by omega
      have ns : ¬ s = 1000 := by omega
      simp only [mwB] at e1
      simp [f_most_within, m_most_within, needplan_ok h, isnumin_ok (g := g) hm hm2, hp, isIns, h, share_ok h, ns, c1, c2, e1]
    · have h1 : (4096 : Int) ^ m.toNat * (0 + 1) ≤ 4096 ^ 100 := by
        rw [Int.zero_add, Int.mul_one]
        have : (4096 : Nat) ^ m.toNat ≤ 4096 ^ 100 := Nat.pow_le_pow_right (by decide) (by omega)
        exact_mod_cast this
      have h2 : v.natAbs < 2 ^ 1920 := by
        have h4 : (4096 : Int) ^ 100 ≤ 2 ^ 1920 := by decide +kernel
        have h5 : v < 2 ^ 1920 := by omega
        have h6 : ((v.natAbs : Nat) : Int) < ((2 ^ 1920 : Nat) : Int) := by
          rw [Int.natAbs_of_nonneg v0]
          exact_mod_cast h5
        exact_mod_cast h6
      by_cases hv0 : v.natAbs = 0
      · rw [hv0]; decide
      · exact (Nat.log2_lt hv0).mpr h2
theorem most_none (h : isPlan g k r s l p) {m : Int} (hm : 0 < m) (hm2 : m ≤ 100) (hs : s = 1000) : f_most_within [.ptr k, .int m] g = .ok .non g := by
  simp [f_most_within, m_most_within, needplan_ok h, isnumin_ok (g := g) (show 0 ≤ m by omega) hm2, hm, isIns, h, share_ok h, hs]
theorem right_ok (P : Pl r s l) (h : isPlan g k r s l p) {m : Int} (hm : 0 ≤ m) (hm2 : m ≤ 100) : f__law_most_right [.tup [.int r, .int s, .int l, .bl p], .ptr k, .int m] g = .ok (.bl true) g := by
  have a1 : atI [D.int r, D.int s, D.int l, D.bl p] 1 = some (.int s) := by simp [atI, ixN]
  by_cases hc : m = 0 ∨ s < 1000
  · obtain ⟨v, e1, v0, hv, hl⟩ := most_ok P h hm hm2 hc
    have hz := nxt_zero (p := p) (e := 0) P
    have h0 : ∀ x, 0 ≤ nxt r s l p 0 x := fun x => nxt_nonneg
    have hmo : ∀ x y, x ≤ y → nxt r s l p 0 x ≤ nxt r s l p 0 y := fun x y => nxt_mono P
    have i1 := (hv v v0).mpr (Int.le_refl _)
    have i2 := itn_pos h0 m.toNat v v0
    have w1 : wend (nxt r s l p 0) m.toNat v = 0 := (wend_itn hz h0 hmo m.toNat v v0).mpr (by omega)
    have w2 : ¬ wend (nxt r s l p 0) m.toNat (v + 1) = 0 := fun e => by
      have i3 := (wend_itn hz h0 hmo m.toNat (v + 1) (by omega)).mp e
      have := (hv (v + 1) (by omega)).mp (by omega)
      omega
    have E1 := ends_ok (g := g) (p := p) P v 0 (some m) (fun m' e => by cases e; omega)
    have E2 := ends_ok (g := g) (p := p) P (v + 1) 0 (some m) (fun m' e => by cases e; omega)
    simp only [moD, Option.getD_some, w1, w2] at E1 E2
    have ng : ¬ v < 0 := by omega
    have cc : ¬ (s = 1000 ∧ 0 < m) := by omega
    by_cases s1 : s = 1000
    · have m0 : ¬ 0 < m := fun z => cc ⟨s1, z⟩
      subst s1
      simp [f__law_most_right, m__law_most_right, e1, kperm, hl, a1, m0, isnumL_ok, ng, E1, E2]
    · simp [f__law_most_right, m__law_most_right, e1, kperm, hl, a1, s1, isnumL_ok, ng, E1, E2]
  · have hm0 : 0 < m := by omega
    have s1 : s = 1000 := by have := P.s1; omega
    have e1 := most_none h hm0 hm2 s1
    subst s1
    simp [f__law_most_right, m__law_most_right, e1, kperm, a1, hm0]
/-! the draws are the laws' own -/
theorem e_take : f__law_take = H.f__law_take := rfl
theorem e_pick : f__law_pick = H.f__law_pick := rfl
theorem e_begun : f__law_begun = H.f__law_begun := rfl
noncomputable def monB : M Fl := ifM (notB (isB (M.bind (consM (getV 3) (consM (getV 4) (consM (getV 5) (M.ret [])))) (callF f__law_most_right)))) (retM (M.ret (.bl false))) (M.ret .nx)
noncomputable def lapB : M Fl := seqM (set2 7 5 (consM (M.bind (consM (M.ret (.int 3000)) (consM (M.bind (consM (getV 1) (consM (getV 3) (M.ret []))) (callF f__law_sum_drawn)) (M.ret []))) min2D) (consM (M.bind (consM (getV 1) (consM (frzM (lstN (consM (M.ret .non) (consM (M.ret (.int 1)) (consM (M.ret (.int 2)) (consM (M.ret (.int 12)) (consM (M.ret (.int 100)) (M.ret [])))))))) (M.ret []))) (callF f__law_pick)) (M.ret [])))) (seqM (M.bind (M.bind (consM (getV 4) (consM (getV 7) (consM (getV 5) (M.ret [])))) (callF f_least_extra)) (setV 8)) (seqM (ifM (orB (notB (isB (M.bind (consM (getV 8) (M.ret [])) (callF f__law_is_number)))) (orB (isB (bin2 ltD (getV 8) (M.ret (.int 0)))) (notB (isB (M.bind (consM (getV 3) (consM (getV 7) (consM (getV 8) (consM (getV 5) (M.ret []))))) (callF f__law_ends)))))) (retM (M.ret (.bl false))) (M.ret .nx)) (seqM (ifM (andB (isB (bin2 gtD (getV 8) (M.ret (.int 0)))) (isB (M.bind (consM (getV 3) (consM (getV 7) (consM (bin2 subD (getV 8) (M.ret (.int 1))) (consM (getV 5) (M.ret []))))) (callF f__law_ends)))) (retM (M.ret (.bl false))) (M.ret .nx)) (ifM (isB (bin2 neD (argsK 0 3 [] [2, 1, 0] (M.ret []) (consM (getV 5) (consM (getV 7) (consM (getV 4) (M.ret [])))) (callF f_least_extra)) (getV 8))) (retM (M.ret (.bl false))) (M.ret .nx)))))
noncomputable def turnB : M Fl := seqM (M.bind (M.bind (consM (getV 1) (M.ret [])) (callF f__law_parts)) (setV 3)) (seqM (M.bind (M.bind (consM (getV 3) (M.ret [])) (callF f__law_planned)) (setV 4)) (seqM (forM (itemsM (frzM (lstN (consM (M.ret (.int 0)) (consM (M.ret (.int 1)) (consM (M.ret (.int 100)) (consM (M.bind (consM (getV 1) (consM (M.ret (.int 101)) (M.ret []))) (callF f__law_take)) (consM (M.bind (consM (getV 1) (consM (M.ret (.int 13)) (M.ret []))) (callF f__law_take)) (M.ret []))))))))) (gSet 5) (ifM (notB (isB (M.bind (consM (getV 3) (consM (getV 4) (consM (getV 5) (M.ret [])))) (callF f__law_most_right)))) (retM (M.ret (.bl false))) (M.ret .nx))) (forM (rng1M (consM (M.ret (.int 4)) (M.ret []))) (gSet 6) (seqM (set2 7 5 (consM (M.bind (consM (M.ret (.int 3000)) (consM (M.bind (consM (getV 1) (consM (getV 3) (M.ret []))) (callF f__law_sum_drawn)) (M.ret []))) min2D) (consM (M.bind (consM (getV 1) (consM (frzM (lstN (consM (M.ret .non) (consM (M.ret (.int 1)) (consM (M.ret (.int 2)) (consM (M.ret (.int 12)) (consM (M.ret (.int 100)) (M.ret [])))))))) (M.ret []))) (callF f__law_pick)) (M.ret [])))) (seqM (M.bind (M.bind (consM (getV 4) (consM (getV 7) (consM (getV 5) (M.ret [])))) (callF f_least_extra)) (setV 8)) (seqM (ifM (orB (notB (isB (M.bind (consM (getV 8) (M.ret [])) (callF f__law_is_number)))) (orB (isB (bin2 ltD (getV 8) (M.ret (.int 0)))) (notB (isB (M.bind (consM (getV 3) (consM (getV 7) (consM (getV 8) (consM (getV 5) (M.ret []))))) (callF f__law_ends)))))) (retM (M.ret (.bl false))) (M.ret .nx)) (seqM (ifM (andB (isB (bin2 gtD (getV 8) (M.ret (.int 0)))) (isB (M.bind (consM (getV 3) (consM (getV 7) (consM (bin2 subD (getV 8) (M.ret (.int 1))) (consM (getV 5) (M.ret []))))) (callF f__law_ends)))) (retM (M.ret (.bl false))) (M.ret .nx)) (ifM (isB (bin2 neD (argsK 0 3 [] [2, 1, 0] (M.ret []) (consM (getV 5) (consM (getV 7) (consM (getV 4) (M.ret [])))) (callF f_least_extra)) (getV 8))) (retM (M.ret (.bl false))) (M.ret .nx)))))))))
/-! a plan is made -/
def plO (r s l : Int) (p : Bool) : SO := .ins "Plan" [("l_parts", .tup [.int r, .int s, .int l, .bl p])]
def plG (g : GSt) (r s l : Int) (p : Bool) : GSt := (g.new (.ins "Plan" [])).put g.nx (plO r s l p)
theorem plG_at : isPlan (plG g r s l p) g.nx r s l p := put_same
theorem plG_ne {j : Nat} (h : j ≠ g.nx) : (plG g r s l p).S j = g.S j := by
  unfold plG
  rw [put_ne h]
  exact if_neg h
theorem plG_nx : (plG g r s l p).nx = g.nx + 1 := rfl
theorem init_ok (P : Pl r s l) {j : Nat} (h : g.S j = some (.ins "Plan" [])) : f_Plan_init [.ptr j, .int r, .int s, .int l, .bl p] g = .ok .non (g.put j (plO r s l p)) := by
  have z4 : 4 ≤ sizeLine := sz_le (by omega)
  simp [f_Plan_init, m_Plan_init, isnumin_ok (g := g) P.r0 P.r1, isnumin_ok (g := g) P.s0 P.s1, isnumin_ok (g := g) P.l0 (show l ≤ 1000000 by have := P.l1; omega), z4, h, dputF, plO]
theorem planned_ok (P : Pl r s l) : f__law_planned [.tup [.int r, .int s, .int l, .bl p]] g = .ok (.ptr g.nx) (plG g r s l p) := by
  have a0 : atI [D.int r, D.int s, D.int l, D.bl p] 0 = some (.int r) := by simp [atI, ixN]
  have a1 : atI [D.int r, D.int s, D.int l, D.bl p] 1 = some (.int s) := by simp [atI, ixN]
  have a2 : atI [D.int r, D.int s, D.int l, D.bl p] 2 = some (.int l) := by simp [atI, ixN]
  have a3 : atI [D.int r, D.int s, D.int l, D.bl p] 3 = some (.bl p) := by simp [atI, ixN]
  have e := init_ok (g := g.new (.ins "Plan" [])) (p := p) P (j := g.nx) (if_pos rfl)
  simp [f__law_planned, m__law_planned, a0, a1, a2, a3, kperm, e, plG]
theorem stok_pl {ks kl : Nat} {n : Int} (h : StOk g ks kl n) (h1 : ks < g.nx) (h2 : kl < g.nx) : StOk (plG g r s l p) ks kl n := by
  obtain ⟨ne, L, cells, rest, turn, a, b, c, d⟩ := h
  exact ⟨ne, L, cells, rest, turn, a, b, by rw [plG_ne (by omega)]; exact c, by rw [plG_ne (by omega)]; exact d⟩
theorem isPlan_fr {g' : GSt} {ks kl : Nat} (h : isPlan g k r s l p) (f : Fr g g' ks kl) (h1 : k ≠ ks) (h2 : k ≠ kl) : isPlan g' k r s l p := (f.eq k h1 h2).trans h
/-! the plan that asks 1 a month -/
theorem nxt1 {e b : Int} (he : 0 ≤ e) (hb : 0 ≤ b) : nxt 0 0 1 p e b = if b ≤ 1 + e then 0 else b - 1 - e := by
  have h1 : ow 0 b = b := by simp [ow]
  have h2 : wan 0 0 p b = 0 := by cases p <;> simp [wan]
  unfold nxt
  rw [h1, h2]
  unfold mn mx
  (repeat' split) <;> omega
theorem w1 {e : Int} (he : 0 ≤ e) : ∀ (n : Nat) (b : Int), 0 ≤ b → b.toNat ≤ n → wend (nxt 0 0 1 p e) n b = 0 ∧ ∀ m : Nat, (wlen (nxt 0 0 1 p e) n b ≤ m ↔ b ≤ m * (1 + e)) := by
  intro n
  induction n with
  | zero =>
    intro b hb hn
    have b0 : b = 0 := by omega
    subst b0
    refine ⟨rfl, fun m => ⟨fun _ => Int.mul_nonneg (by omega) (by omega), fun _ => Nat.zero_le _⟩⟩
  | succ n ih =>
    intro b hb hn
    by_cases b0 : b = 0
    · subst b0
      rw [wend_stop (.inl rfl), wlen_stop (.inl rfl)]
      exact ⟨rfl, fun m => ⟨fun _ => Int.mul_nonneg (by omega) (by omega), fun _ => Nat.zero_le _⟩⟩
    · have hf := nxt1 (p := p) he hb
      have hgo : ¬(b = 0 ∨ b ≤ nxt 0 0 1 p e b) := by
        rw [hf]; split <;> omega
      have f0 : 0 ≤ nxt 0 0 1 p e b := nxt_nonneg
      obtain ⟨i1, i2⟩ := ih (nxt 0 0 1 p e b) f0 (by rw [hf]; split <;> omega)
      rw [wend_go hgo, wlen_go hgo]
      refine ⟨i1, fun m => ?_⟩
      cases m with
      | zero => simp; omega
      | succ m =>
        have hx : ((m + 1 : Nat) : Int) * (1 + e) = m * (1 + e) + (1 + e) := by
          rw [Int.natCast_add, Int.add_mul]; simp
        have h3 := i2 m
        have h4 : 0 ≤ (m : Int) * (1 + e) := Int.mul_nonneg (by omega) (by omega)
        rw [hx, Nat.add_le_add_iff_right, h3, hf]
        split <;> omega
theorem enough1 {e b : Int} (he : 0 ≤ e) (hb : 0 ≤ b) : enough (nxt 0 0 1 p e) b none = true ∧ ∀ m : Int, 0 ≤ m → (enough (nxt 0 0 1 p e) b (some m) = true ↔ b ≤ m * (1 + e)) := by
  obtain ⟨h1, h2⟩ := w1 (p := p) he b.toNat b hb (Nat.le_refl _)
  refine ⟨by simp [enough, h1], fun m hm => ?_⟩
  have h3 := h2 m.toNat
  rw [Int.toNat_of_nonneg hm] at h3
  have h4 : ((wlen (nxt 0 0 1 p e) b.toNat b : Int) ≤ m) ↔ wlen (nxt 0 0 1 p e) b.toNat b ≤ m.toNat := by omega
  simp [enough, h1, h4, h3]
theorem pl1 : Pl 0 0 1 := ⟨by decide, by decide, by decide, by decide, by decide, by decide⟩
theorem itn1 : ∀ (n : Nat) (x : Int), 0 ≤ x → itn (nxt 0 0 1 p 0) n x = if x ≤ n then 0 else x - n := by
  intro n
  induction n with
  | zero =>
    intro x hx
    show x = _
    split <;> omega
  | succ n ih =>
    intro x hx
    show itn (nxt 0 0 1 p 0) n (nxt 0 0 1 p 0 x) = _
    rw [ih _ nxt_nonneg, nxt1 (Int.le_refl 0) hx]
    (repeat' split) <;> omega
theorem least1 (h : isPlan g k 0 0 1 p) {b m : Int} (hb : 0 ≤ b) (hb2 : b ≤ 100000) (hm : 1 ≤ m) (hm2 : m ≤ 100) : f_least_extra [.ptr k, .int b, .int m] g = .ok (.int (mx 0 ((b + m - 1) / m - 1))) g := by
  obtain ⟨v, e1, v0, h1, h2⟩ := least_ok pl1 h hb hb2 (some m) (fun m' e => by cases e; omega)
  have h3 := ((enough1 (p := p) v0 hb).2 m (by omega)).mp h1
  have hv : v = mx 0 ((b + m - 1) / m - 1) := by
    rcases h2 with h2 | h2
    · subst h2
      have : (b + m - 1) / m < 2 := Int.ediv_lt_of_lt_mul (by omega) (by omega)
      unfold mx; split <;> omega
    · by_cases hz : v = 0
      · subst hz
        have : (b + m - 1) / m < 2 := Int.ediv_lt_of_lt_mul (by omega) (by omega)
        unfold mx; split <;> omega
      · have h4 : ¬ b ≤ m * (1 + (v - 1)) := fun hh => by
          rw [((enough1 (p := p) (show 0 ≤ v - 1 by omega) hb).2 m (by omega)).mpr hh] at h2; cases h2
        have e2 : m * (1 + v) = m + m * v := by rw [Int.mul_add, Int.mul_one]
        have e3 : m * (1 + (v - 1)) = m * v := by congr 1; omega
        have e4 : (v + 1) * m = m * v + m := by rw [Int.add_mul, Int.one_mul, Int.mul_comm]
        have e5 : (v + 2) * m = m * v + 2 * m := by rw [Int.add_mul, Int.mul_comm v]
        have q1 : v + 1 ≤ (b + m - 1) / m := (Int.le_ediv_iff_mul_le (by omega)).mpr (by omega)
        have q2 : (b + m - 1) / m < v + 2 := Int.ediv_lt_of_lt_mul (by omega) (by omega)
        unfold mx; split <;> omega
  rw [← hv]
  exact e1
theorem least1n (h : isPlan g k 0 0 1 p) {b : Int} (hb : 0 ≤ b) (hb2 : b ≤ 100000) : f_least_extra [.ptr k, .int b, .non] g = .ok (.int 0) g := by
  obtain ⟨v, e1, v0, h1, h2⟩ := least_ok pl1 h hb hb2 none (fun m' e => by cases e)
  have hv : v = 0 := by
    rcases h2 with h2 | h2
    · exact h2
    · by_cases hz : v = 0
      · exact hz
      · rw [(enough1 (p := p) (show 0 ≤ v - 1 by omega) hb).1] at h2; cases h2
  subst hv
  exact e1
theorem most1 (h : isPlan g k 0 0 1 p) {m : Int} (hm : 0 ≤ m) (hm2 : m ≤ 100) : f_most_within [.ptr k, .int m] g = .ok (.int m) g := by
  obtain ⟨v, e1, v0, h1, _⟩ := most_ok pl1 h hm hm2 (.inr (by decide))
  have h2 := h1 m hm
  have h3 := h1 v v0
  rw [itn1 _ _ hm] at h2
  rw [itn1 _ _ v0] at h3
  have : v = m := by
    split at h2 <;> split at h3 <;> omega
  rw [← this]
  rw [this] at e1 ⊢
  exact e1
theorem known_ok {ks kl : Nat} {n : Int} (h : StOk g ks kl n) (hn : n < 1000000) (h1 : ks < g.nx) (h2 : kl < g.nx) : ∃ g', f__law_known_right [.ptr ks] g = .ok (.bl true) g' ∧ StOk g' ks kl (n + 3) ∧ g.nx ≤ g'.nx := by
  obtain ⟨b, g1, e1, b0, b1, s1, f1⟩ := take_ok (m := 100001) h (by omega) (by decide) (by decide)
  obtain ⟨m, g2, e2, m0, m1, s2, f2⟩ := take_ok (m := 100) s1 (by omega) (by decide) (by decide)
  obtain ⟨q, g3, e3, q0, q1, s3, f3⟩ := take_ok (m := 2) s2 (by omega) (by decide) (by decide)
  have x3 : g3.nx = g.nx := by rw [f3.nx, f2.nx, f1.nx]
  have pl := plG_at (g := g3) (r := 0) (s := 0) (l := 1) (p := decide (q = 0))
  have s4 := stok_pl (r := 0) (s := 0) (l := 1) (p := decide (q = 0)) s3 (by omega) (by omega)
  refine ⟨plG g3 0 0 1 (decide (q = 0)), ?_, ⟨s4.ne, ?_⟩, by rw [plG_nx]; omega⟩
  · have ei := init_ok (g := g3.new (.ins "Plan" [])) (p := decide (q = 0)) pl1 (j := g3.nx) (if_pos rfl)
    have w1 := least1 pl b0 (by omega) (show 1 ≤ 1 + m by omega) (by omega)
    have w2 := least1 pl b0 (by omega) (m := 1) (by decide) (by decide)
    have e5 : mx 0 ((b + 1 - 1) / 1 - 1) = mx 0 (b - 1) := by rw [Int.ediv_one]; congr 1; omega
    rw [e5] at w2
    have w3 := least1n pl (b := mn b 9999) (by unfold mn; split <;> omega) (by unfold mn; split <;> omega)
    have w4 := most1 pl (m := 1 + m) (by omega) (by omega)
    have c1 : (0 : Int) < 1 + m := by omega
    have c2 : 1 + m < 1073741824 := by omega
    simp only [mx, mn, plG] at w1 w2 w3 w4 ⊢
    simp at w1 w2 w3 w4
    simp [f__law_known_right, m__law_known_right, e_take, e1, e2, e3, kperm, ei, c1, c2, w1, w2, w3, w4]
  · obtain ⟨L, cells, rest, turn, a, b', c, d⟩ := s4.at_
    exact ⟨L, cells, rest, turn, a, by omega, c, d⟩
theorem stok_le {ks kl : Nat} {n m : Int} (h : StOk g ks kl n) (hm : n ≤ m) : StOk g ks kl m := by
  obtain ⟨ne, L, cells, rest, turn, a, b, c, d⟩ := h
  exact ⟨ne, L, cells, rest, turn, a, by omega, c, d⟩
theorem mem_int {ds : List D} {d : D} (h : d ∈ ds) (Q : Int → Prop) (hq : ∀ d ∈ ds, ∃ i, d = .int i ∧ Q i) : ∃ i, d = .int i ∧ Q i := hq d h
theorem parts_ok {ks kl : Nat} {n : Int} (h : StOk g ks kl n) (hn : n < 1000000) : ∃ r s l p g', f__law_parts [.ptr ks] g = .ok (.tup [.int r, .int s, .int l, .bl p]) g' ∧ Pl r s l ∧ StOk g' ks kl (n + 10) ∧ Fr g g' ks kl := by
  obtain ⟨a1, g1, e1, x1, y1, s1, f1⟩ := take_ok (m := 60) h (by omega) (by decide) (by decide)
  obtain ⟨a2, g2, e2, x2, y2, s2, f2⟩ := take_ok (m := 1001) s1 (by omega) (by decide) (by decide)
  obtain ⟨d3, g3, e3, x3, s3, f3⟩ := pick_ok s2 (by omega) (ds := [.int 0, .int 1, .int 5, .int 15, .int 20, .int 100, .int 999, .int 1000, .int a1, .int a2]) (by simp) (by simp)
  obtain ⟨r, rfl, r0, r1⟩ : ∃ r, d3 = .int r ∧ 0 ≤ r ∧ r ≤ 1000 := by
    simp only [List.mem_cons, List.not_mem_nil, or_false] at x3
    rcases x3 with h | h | h | h | h | h | h | h | h | h <;> exact ⟨_, h, by omega, by omega⟩
  obtain ⟨b1, g4, e4, x4, y4, s4, f4⟩ := take_ok (m := 60) s3 (by omega) (by decide) (by decide)
  obtain ⟨b2, g5, e5, x5, y5, s5, f5⟩ := take_ok (m := 1001) s4 (by omega) (by decide) (by decide)
  obtain ⟨d6, g6, e6, x6, s6, f6⟩ := pick_ok s5 (by omega) (ds := [.int 0, .int 1, .int 10, .int 20, .int 30, .int 500, .int 999, .int 1000, .int b1, .int b2]) (by simp) (by simp)
  obtain ⟨s, rfl, s0, s1'⟩ : ∃ r, d6 = .int r ∧ 0 ≤ r ∧ r ≤ 1000 := by
    simp only [List.mem_cons, List.not_mem_nil, or_false] at x6
    rcases x6 with h | h | h | h | h | h | h | h | h | h <;> exact ⟨_, h, by omega, by omega⟩
  obtain ⟨c1, g7, e7, x7, y7, s7, f7⟩ := take_ok (m := 100) s6 (by omega) (by decide) (by decide)
  obtain ⟨c2, g8, e8, x8, y8, s8, f8⟩ := take_ok (m := 3000) s7 (by omega) (by decide) (by decide)
  obtain ⟨d9, g9, e9, x9, s9, f9⟩ := pick_ok s8 (by omega) (ds := [.int 1, .int 1, .int 2, .int 3, .int 10, .int 25, .int (1 + c1), .int (1 + c2)]) (by simp) (by simp)
  obtain ⟨l, rfl, l0, l1⟩ : ∃ r, d9 = .int r ∧ 1 ≤ r ∧ r ≤ 3000 := by
    simp only [List.mem_cons, List.not_mem_nil, or_false] at x9
    rcases x9 with h | h | h | h | h | h | h | h <;> exact ⟨_, h, by omega, by omega⟩
  obtain ⟨q, g10, e10, x10, y10, s10, f10⟩ := take_ok (m := 3) s9 (by omega) (by decide) (by decide)
  refine ⟨r, s, l, decide (q = 0), g10, ?_, ⟨r0, r1, s0, s1', l0, l1⟩, stok_le s10 (by omega), ((((((((f1.trans f2).trans f3).trans f4).trans f5).trans f6).trans f7).trans f8).trans f9).trans f10⟩
  have z10 : 10 ≤ sizeLine := sz_le (by omega)
  have z8 : 8 ≤ sizeLine := sz_le (by omega)
  have z4 : 4 ≤ sizeLine := sz_le (by omega)
  simp [f__law_parts, m__law_parts, e_take, e_pick, e1, e2, e3, e4, e5, e6, e7, e8, e9, e10, z10, z8, z4]
theorem sum_ok (P : Pl r s l) {ks kl : Nat} {n : Int} (h : StOk g ks kl n) (hn : n < 1000000) : ∃ x g', f__law_sum_drawn [.ptr ks, .tup [.int r, .int s, .int l, .bl p]] g = .ok (.int x) g' ∧ 0 ≤ x ∧ StOk g' ks kl (n + 3) ∧ Fr g g' ks kl := by
  obtain ⟨a1, g1, e1, x1, y1, s1, f1⟩ := take_ok (m := 50) h (by omega) (by decide) (by decide)
  obtain ⟨a2, g2, e2, x2, y2, s2, f2⟩ := take_ok (m := 5000) s1 (by omega) (by decide) (by decide)
  obtain ⟨d3, g3, e3, x3, s3, f3⟩ := pick_ok s2 (by omega) (ds := [.int 0, .int 1, .int 2, .int l, .int (l + 1), .int (1000 * l / mx 1 r - 1), .int (1000 * l / mx 1 r), .int (1000 * l / mx 1 r + 1), .int a1, .int a2]) (by simp) (by simp)
  obtain ⟨x, rfl, _⟩ : ∃ x, d3 = .int x ∧ True := by
    simp only [List.mem_cons, List.not_mem_nil, or_false] at x3
    rcases x3 with h | h | h | h | h | h | h | h | h | h <;> exact ⟨_, h, trivial⟩
  refine ⟨mx 0 (mn 20000 x), g3, ?_, by unfold mx; split <;> omega, stok_le s3 (by omega), (f1.trans f2).trans f3⟩
  have z10 : 10 ≤ sizeLine := sz_le (by omega)
  have a0 : atI [D.int r, D.int s, D.int l, D.bl p] 0 = some (.int r) := by simp [atI, ixN]
  have a2' : atI [D.int r, D.int s, D.int l, D.bl p] 2 = some (.int l) := by simp [atI, ixN]
  have q1 : (0 : Int) < mx 1 r := by unfold mx; split <;> omega
  have q2 : mx 1 r < 1073741824 := by have := P.r1; unfold mx; split <;> omega
  have s1000 : small64 1000 := by decide
  simp only [mx, mn] at e3 q1 q2 ⊢
  simp at e3 q1 q2
  simp [f__law_sum_drawn, m__law_sum_drawn, e_take, e_pick, e1, e2, e3, z10, a0, a2', q1, q2, s1000]
/-! the law -/
theorem mon_loop (P : Pl r s l) (h : isPlan g k r s l p) (t0 t1 t2 t6 t7 t8 : Option Slot) : ∀ (ds : List D) (t5 : Option Slot), (∀ d ∈ ds, ∃ m : Int, d = .int m ∧ 0 ≤ m ∧ m ≤ 100) →
    ∃ t5', forL (gSet 5) monB ds ⟨g, [t0, t1, t2, some (.val (.tup [.int r, .int s, .int l, .bl p])), some (.val (.ptr k)), t5, t6, t7, t8]⟩ = .ok .nx ⟨g, [t0, t1, t2, some (.val (.tup [.int r, .int s, .int l, .bl p])), some (.val (.ptr k)), t5', t6, t7, t8]⟩ := by
  intro ds
  induction ds with
  | nil => intro t5 _; exact ⟨t5, rfl⟩
  | cons d ds ih =>
    intro t5 hd
    obtain ⟨m, rfl, m0, m1⟩ := hd d (List.mem_cons_self ..)
    obtain ⟨t5', e⟩ := ih (some (.val (.int m))) (fun d hm => hd d (List.mem_cons_of_mem _ hm))
    refine ⟨t5', ?_⟩
    rw [← e]
    simp [forL, monB, turnM, right_ok P h m0 m1]
theorem lap_loop (P : Pl r s l) {ks kl : Nat} (hk1 : k ≠ ks) (hk2 : k ≠ kl) (t0 t2 : Option Slot) : ∀ (ds : List D) (g : GSt) (n : Int) (t5 t6 t7 t8 : Option Slot), isPlan g k r s l p → StOk g ks kl n → n + 4 * ds.length < 1000000 →
    ∃ g' t5' t6' t7' t8', forL (gSet 6) lapB ds ⟨g, [t0, some (.val (.ptr ks)), t2, some (.val (.tup [.int r, .int s, .int l, .bl p])), some (.val (.ptr k)), t5, t6, t7, t8]⟩ = .ok .nx ⟨g', [t0, some (.val (.ptr ks)), t2, some (.val (.tup [.int r, .int s, .int l, .bl p])), some (.val (.ptr k)), t5', t6', t7', t8']⟩ ∧
      StOk g' ks kl (n + 4 * ds.length) ∧ Fr g g' ks kl := by
  intro ds
  induction ds with
  | nil => intro g n t5 t6 t7 t8 h st hn; exact ⟨g, t5, t6, t7, t8, rfl, stok_le st (by simp), Fr.refl _ _ _⟩
  | cons d ds ih =>
    intro g n t5 t6 t7 t8 h st hn
    rw [List.length_cons] at hn ⊢
    obtain ⟨x, g1, e1, x0, s1, f1⟩ := sum_ok (p := p) P st (by omega)
    obtain ⟨d2, g2, e2, x2, s2, f2⟩ := pick_ok s1 (by omega) (ds := [.non, .int 1, .int 2, .int 12, .int 100]) (by simp) (by simp)
    obtain ⟨mo, rfl, hmo⟩ : ∃ mo, d2 = moD mo ∧ ∀ m, mo = some m → 1 ≤ m ∧ m ≤ 100 := by
      simp only [List.mem_cons, List.not_mem_nil, or_false] at x2
      rcases x2 with h | h | h | h | h
      · exact ⟨none, h, fun m e => by cases e⟩
      · exact ⟨some 1, h, fun m e => by cases e; omega⟩
      · exact ⟨some 2, h, fun m e => by cases e; omega⟩
      · exact ⟨some 12, h, fun m e => by cases e; omega⟩
      · exact ⟨some 100, h, fun m e => by cases e; omega⟩
    have h2 : isPlan g2 k r s l p := isPlan_fr h (f1.trans f2) hk1 hk2
    have b0 : 0 ≤ mn 3000 x := by unfold mn; split <;> omega
    have b1 : mn 3000 x ≤ 3000 := by unfold mn; split <;> omega
    obtain ⟨v, e3, v0, v1, v2⟩ := least_ok P h2 b0 (by omega) mo hmo
    have hmo2 : ∀ m, mo = some m → 0 ≤ m ∧ m ≤ 4000 := fun m e => by have := hmo m e; omega
    have E1 := ends_ok (g := g2) (p := p) P (mn 3000 x) v mo hmo2
    rw [← enough_ends P b0 (by omega) mo hmo2, v1] at E1
    obtain ⟨g', a5, a6, a7, a8, e9, s9, f9⟩ := ih g2 (n + 4) (some (.val (moD mo))) (some (.val d)) (some (.val (.int (mn 3000 x)))) (some (.val (.int v))) h2 (stok_le s2 (by omega)) (by omega)
    refine ⟨g', a5, a6, a7, a8, ?_, stok_le s9 (by omega), (f1.trans f2).trans f9⟩
    rw [← e9]
    have z5 : 5 ≤ sizeLine := sz_le (by omega)
    have ng : ¬ v < 0 := by omega
    simp only [mn] at e3 E1 ⊢
    try simp at e3
    try simp at E1
    rcases v2 with v2 | v2
    · subst v2
      simp [forL, lapB, turnM, e_pick, e1, e2, e3, z5, isnumL_ok, E1, kperm]
    · by_cases vz : v = 0
      · subst vz
        simp [forL, lapB, turnM, e_pick, e1, e2, e3, z5, isnumL_ok, E1, kperm]
      · have vp : 0 < v := by omega
        have E2 := ends_ok (g := g2) (p := p) P (mn 3000 x) (v - 1) mo hmo2
        rw [← enough_ends P b0 (by omega) mo hmo2, v2] at E2
        simp only [mn] at E2
        try simp at E2
        simp [forL, lapB, turnM, e_pick, e1, e2, e3, z5, isnumL_ok, E1, E2, vp, ng, kperm]
theorem turn_loop (t0 : Option Slot) {ks kl : Nat} : ∀ (ds : List D) (g : GSt) (n : Int) (t2 t3 t4 t5 t6 t7 t8 : Option Slot), StOk g ks kl n → n + 40 * ds.length < 900000 → ks < g.nx → kl < g.nx →
    ∃ g' a2 a3 a4 a5 a6 a7 a8, forL (gSet 2) turnB ds ⟨g, [t0, some (.val (.ptr ks)), t2, t3, t4, t5, t6, t7, t8]⟩ = .ok .nx ⟨g', [t0, some (.val (.ptr ks)), a2, a3, a4, a5, a6, a7, a8]⟩ := by
  intro ds
  induction ds with
  | nil => intro g n t2 t3 t4 t5 t6 t7 t8 _ _ _ _; exact ⟨g, t2, t3, t4, t5, t6, t7, t8, rfl⟩
  | cons d ds ih =>
    intro g n t2 t3 t4 t5 t6 t7 t8 st hn k1 k2
    rw [List.length_cons] at hn
    obtain ⟨r, s, l, p, g1, e1, P, s1, f1⟩ := parts_ok st (by omega)
    have k1' : ks < g1.nx := by rw [f1.nx]; exact k1
    have k2' : kl < g1.nx := by rw [f1.nx]; exact k2
    have e2 := planned_ok (g := g1) (p := p) P
    have s2 := stok_pl (r := r) (s := s) (l := l) (p := p) s1 k1' k2'
    have pl := plG_at (g := g1) (r := r) (s := s) (l := l) (p := p)
    obtain ⟨x, g3, e3, x0, x1, s3, f3⟩ := take_ok (m := 101) s2 (by omega) (by decide) (by decide)
    obtain ⟨y, g4, e4, y0, y1, s4, f4⟩ := take_ok (m := 13) s3 (by omega) (by decide) (by decide)
    have pl4 : isPlan g4 g1.nx r s l p := isPlan_fr pl (f3.trans f4) (by omega) (by omega)
    obtain ⟨b5, e5⟩ := mon_loop P pl4 t0 (some (.val (.ptr ks))) (some (.val d)) t6 t7 t8 [.int 0, .int 1, .int 100, .int x, .int y] t5 (by
      intro d hd
      simp only [List.mem_cons, List.not_mem_nil, or_false] at hd
      rcases hd with h | h | h | h | h <;> exact ⟨_, h, by omega, by omega⟩)
    obtain ⟨g6, c5, c6, c7, c8, e6, s6, f6⟩ := lap_loop P (ks := ks) (kl := kl) (by omega) (by omega) t0 (some (.val d)) (rngL 0 4) g4 _ b5 t6 t7 t8 pl4 s4 (by rw [rngL_length]; omega)
    rw [rngL_length] at s6
    have x6 : g6.nx = g1.nx + 1 := by rw [f6.nx, f4.nx, f3.nx, plG_nx]
    obtain ⟨g', a2, a3, a4, a5, a6, a7, a8, e7⟩ := ih g6 (n + 40) (some (.val d)) (some (.val (.tup [.int r, .int s, .int l, .bl p]))) (some (.val (.ptr g1.nx))) c5 c6 c7 c8 (stok_le s6 (by omega)) (by omega) (by omega) (by omega)
    refine ⟨g', a2, a3, a4, a5, a6, a7, a8, ?_⟩
    rw [← e7]
    have z5 : 5 ≤ sizeLine := sz_le (by omega)
    simp only [monB] at e5
    simp only [lapB] at e6
    have e3' : f__law_take [.ptr ks, .int 101] (plG g1 r s l p) = .ok (.int x) g3 := e3
    have e4' : f__law_take [.ptr ks, .int 13] g3 = .ok (.int y) g4 := e4
    rw [forL_cons]
    simp [turnB, turnM, e1, e2, e3', e4', z5, e5, e6]
theorem law_true (ns : List Int) (hl : ns.length ≤ 63) : ∃ g', f_law [.scr ns] ⟨fun _ => none, 0⟩ = .ok (.bl true) g' := by
  obtain ⟨g1, e1, s1, x1⟩ := begun_ok ns hl
  obtain ⟨g2, e2, s2, x2⟩ := known_ok s1 (by omega) (by omega) (by omega)
  obtain ⟨g', a2, a3, a4, a5, a6, a7, a8, e3⟩ := turn_loop (some (.val (.scr ns))) (ks := 1) (kl := 0) (rngL 0 (5 + mn ns.length 14).toNat) g2 3 none none none none none none none (stok_le s2 (by omega)) (by rw [rngL_length]; unfold mn; split <;> omega) (by omega) (by omega)
  refine ⟨g', ?_⟩
  have c1 : -4611686018427387904 ≤ 5 + mn ns.length 14 := by unfold mn; split <;> omega
  have c2 : 5 + mn ns.length 14 < 4611686018427387904 := by unfold mn; split <;> omega
  simp only [turnB, mn] at e3
  simp only [mn] at c1 c2
  simp [f_law, m_law, e_begun, e1, e2, e3, c1, c2]
end
end L2.VI.K76
namespace L2.VI.K76
open PySem PySem.Spec PyProof.Rows He L2 L2.VI
noncomputable section
abbrev RR : PySem.W.OpenRow := PySem.W.OpenLaw.row PySem.Challenge.rw_wholepaid_k76_months_and_extras
abbrev hk : PySem.W.Hook := hookV 7 fa fn gs (exAll exs)
def ob (s : PySem.W.SharedT) : AlV := obsVG 7 fa fn gs (exAll exs) (HandSHeadRun.getT s)
theorem ob_eq (s : PySem.W.SharedT) : ob s = hk.obs s.abs := obsVG_eq (HandSHeadRun.getT_eq s)
def ls0 : List Str := ["__name__", "CreditError", "BadNumber", "BadPlan", "is_number", "is_number_in", "THOUSAND", "MOST_LEAST", "MOST_BALANCE", "MOST_MONTHS", "Plan", "need_plan", "need_balance", "month_with", "row_with", "greatest_to", "most_within", "is_enough", "least_extra", "_law_begun", "_law_mixed", "_law_take", "_law_known_right", "_law_pick", "_law_parts", "_law_planned", "_law_is_number", "_law_step", "_law_walk", "_law_ends"]
def ls1 : List Str := ["_law_most_right", "_law_sum_drawn"]
def loose : List Str := ls0 ++ ls1
theorem run (w : World) : HandSHeadRun.RunEq RR (PySem.W.view RR.prog [35]) hk ob 4000 loose w := by
  intro os
  kernel_rfl
theorem facts {f0 : Addr} {w : World} {K : PySem.W.Frag} {h : Heap} {mg : Str → Option Value} (X : K.In h) (G : h.Ns mainGlobals mg) (c : SaysV fa fn gs (exAll exs) K) (hfa : mg ("law" : Str) = some (.ref f0)) :
    (∀ (s : Shared) (v : Value), BindsTo s (fdA K f0) ⟨[v], []⟩ [("_law_script", v)]) ∧ ∀ base : Heap, K.In base → base.Ns mainGlobals mg → FnOk PW w K mg base (CV PW w) 6 f0 (fdA K f0) ["_law_script"] (spV K 1 f_law) := by
  have C : Ctx K mg := ⟨c, h, X, G⟩
  have e := hfa.symm.trans (C.glo (fa.length - 1) "law" (by rfl))
  cases e
  exact ⟨fun s v => FunD.bindsA (ps := ["_law_script"]) (fun_law C) (fun _ _ _ _ _ _ us hl => match us, hl with | [_], _ => rfl) s [v] rfl, fun base _ _ => ok_law C⟩
end
end L2.VI.K76
open PySem PySem.W PySem.Calls PyProof.Rows
theorem L2.VI.K76.holds_of (pure : ∀ ns : List Int, ns.length ≤ 63 → ∃ g', L2.VI.K76.f_law [.scr ns] ⟨fun _ => none, 0⟩ = .ok (.bl true) g') : PySem.Challenge.rw_wholepaid_k76_months_and_extras.Holds := by
  w_on; o_law
  refine HandSHeadRun.head_any (r := OpenLaw.row PySem.Challenge.rw_wholepaid_k76_months_and_extras) (q := view (OpenLaw.row PySem.Challenge.rw_wholepaid_k76_months_and_extras).prog [35]) (H := L2.VI.K76.hk) (ob := L2.VI.K76.ob) (M := 4000) (loose := L2.VI.K76.loose) (d := HandSHeadRun.topDef (OpenLaw.row PySem.Challenge.rw_wholepaid_k76_months_and_extras).prog 35) (kwd := []) L2.VI.K76.ob_eq
    (by kernel_rfl) (fun s => by kernel_rfl) L2.VI.K76.run (by kernel_rfl) (by kernel_rfl) (by kernel_rfl) (by rfl) (by first | assumption | decide +kernel) (by decide +kernel) ⟨rfl, rfl, rfl, rfl, rfl, by decide +kernel⟩ ?hw ?hc
  case hw => w_witness2
  case hc =>
    refine L2.VI.walkV (l := PySem.Challenge.rw_wholepaid_k76_months_and_extras) (n := 63) (lv := 6) (x := "_law_script") (law := L2.VI.K76.f_law) rfl (by decide) (by kernel_rfl) ⟨rfl, by decide, by decide⟩ ?F
    intro w mg fa h Y G hmg0
    obtain ⟨K, KX, c⟩ := Y
    have hmg : mg ("law" : PySem.Str) = some (.ref fa) := by
      have e : (HandSHeadRun.topDef (OpenLaw.row PySem.Challenge.rw_wholepaid_k76_months_and_extras).prog 35).name = ("law" : PySem.Str) := by kernel_rfl
      rw [← e]
      exact hmg0
    obtain ⟨hb, hF⟩ := L2.VI.K76.facts (w := w) KX G c hmg
    exact ⟨K, KX, _, hb, pure, hF⟩
open PySem PySem.W PyProof.Rows
theorem PySem.Challenge.cw_wholepaid_k76_months_and_extras_holds : PySem.Challenge.rw_wholepaid_k76_months_and_extras.Holds := by
  exact L2.VI.K76.holds_of L2.VI.K76.law_true
