import PyProof.Rows.All
import Wide.All
import OpenK.AllK
import Wide.FinOn
import PySem.Challenge.RW_wholepaid_k77_questions_about_plans_refu
import HandS.ForMost
import HandS.Exc
import HandS.ExcOwn
import HandS.WordsExc
import HandS.CallSlots
import HandS.Defaults
import HandS.HeadHook1
import HandS.HeadHook2
import HandS.HeadHook3
import HandS.Lambda
import HandS.IsInst
import HandS.Wide
import HandS.Property
import HandS.MakeKw
import HandS.Style
import HandS.HeadEnd
import HandS.TupAny
import HandS.Conv
import HandS.Strs
import PyProof.ReprRoads
import HandS.ExcInit
import KE.KExcSuper
import KE.KSuper
import HandS.ExcValue
import HandS.EndTab
import KE.KNestM
import HandS.ExcIs
import HandS.ExcField
import HandS.Head0
import HandS.Head1
import HandS.Head2
set_option Elab.async false
set_option linter.all false
set_option maxRecDepth 100000
set_option maxHeartbeats 0
/-! VI0: deep data over the hand layer: values, stores, the relation to a heap, the judgements. -/
namespace L2.VI
open PySem PySem.Spec PyProof.Rows He

/-- a lambda's text; N: the names of the def that makes it -/
structure LamT where
  qual : Str
  params : Arguments
  body : Expr
  scope : Scope
  N : List Str
/-- a value: frozen data, a name of the module, a pointer to the store, the script, a lambda that the frame fr made -/
inductive D where
  | non | bl (b : Bool) | int (i : Int) | str (x : Str) | ty (n : String) | glo (x : Str)
  | tup (xs : List D) | lst (xs : List D) | dic (kvs : List (Key × D)) | ptr (k : Nat) | scr (ns : List Int) | xob (c : Str) (fs : List (Str × D)) | lam (i : Nat) (L : LamT) (fr : Nat)
/-- what may change: lists, dicts, instances -/
inductive SO where
  | lst (xs : List D) | dic (kvs : List (Key × D)) | dct (kvs : List (List Key × D)) | ins (c : Str) (fs : List (Str × D)) | tab (x q : Str)
structure GSt where
  S : Nat → Option SO
  nx : Nat
/-- frames that stand below: what their captured names hold -/
abbrev Ups := List (Nat × List Str × List (Option D))
/-- a slot: a value, or an object that the slot alone owns; frm: no slot of the text, but what the frame knows: its own number (if it makes lambdas), the frames below -/
inductive Slot where
  | val (d : D) | own (o : SO) | frm (me : Option Nat) (up : Ups)
structure BSt where
  g : GSt
  t : List (Option Slot)
/-- an exception: its class, its attributes -/
structure EX where
  c : Str
  fs : List (Str × D)
inductive R (α : Type) where
  | ok (a : α) (b : BSt) | exc (x : EX) (b : BSt) | fail
abbrev M (α : Type) := BSt → R α
def M.ret {α : Type} (a : α) : M α := fun b => .ok a b
def M.bind {α β : Type} (m : M α) (k : α → M β) : M β := fun b => match m b with
  | .ok a b' => k a b'
  | .exc x b' => .exc x b'
  | .fail => .fail
def M.fail {α : Type} : M α := fun _ => .fail

/-! ### the relation -/
abbrev Cl := List (Str × Addr)
structure Rho where
  p : Nat → Option Addr
  c : Nat → Option Cl
instance : CoeFun Rho fun _ => Nat → Option Addr := ⟨Rho.p⟩
def rho0 : Rho := ⟨fun _ => none, fun _ => none⟩
/-- what is constant in a frame: its cells, the base -/
structure FrC where
  cl : Cl
  base : Heap
abbrev PX (_ : FrC) := Hp
def clOf : List Env → Cl
  | e :: _ => e.cells
  | [] => []
abbrev fcOf (X : Cx) : FrC := ⟨clOf X.stack, X.base⟩
/-- the table of the code object of the def x -/
def tabA (K : PySem.W.Frag) (x : Str) : Addr := match K.lookup (ga K x) with
  | some ⟨_, _, .func fd, _⟩ => (match fd.code with
    | .ref c => (match K.lookup c with
      | some ⟨_, _, .fields vs, _⟩ => (match (vs[11]? : Option Value) with
        | some (.ref P) => P
        | _ => 0)
      | _ => 0)
    | _ => 0)
  | _ => 0
def codA (K : PySem.W.Frag) (x : Str) : Addr := match K.lookup (ga K x) with
  | some ⟨_, _, .func fd, _⟩ => (match fd.code with
    | .ref c => c
    | _ => 0)
  | _ => 0
def LamO (L : LamT) (cs : Cl) (pm : Value) (c' : Addr) (ctv : Value) : HO := .frz (PySem.W.kla_obj "<lambda>" L.qual L.params L.body L.scope (cloFrom cs L.scope.names []) pm c' ctv) (.own 0)
/-- an exception that was caught: of the class at C, its dict (none | at d) -/
def XV (C : Addr) (d : Option Addr) (a : Addr) : HO := .ext fun h => ∃ (oe : Obj) (vs : Array Value), h.get? a = some oe ∧ Zc (.ref C) d oe ∧ oe.data = .fields vs
mutual
inductive Rep (K : PySem.W.Frag) (F : Hp) (ρ : Rho) : V → D → Prop
  | non : Rep K F ρ .non .non
  | bl (b : Bool) : Rep K F ρ (.bl b) (.bl b)
  | int (i : Int) : Rep K F ρ (.int i) (.int i)
  | str (x : Str) : Rep K F ρ (.str x) (.str x)
  | ty (n : String) : Rep K F ρ (.ty n) (.ty n)
  | glo (x : Str) : Rep K F ρ (.ref (ga K x)) (.glo x)
  | tup {a : Addr} {vs : List V} {ds : List D} : F a = some (.tup vs) ∨ SqT K (fun _ => none) a vs → RepAll K F ρ vs ds → Rep K F ρ (.ref a) (.tup ds)
  | lst {a : Addr} {vs : List V} {ds : List D} : F a = some (.lst vs) → RepAll K F ρ vs ds → Rep K F ρ (.ref a) (.lst ds)
  | dic {a : Addr} {vs : List (Key × V)} {ds : List (Key × D)} : F a = some (.dK vs) → vs.map (·.1) = ds.map (·.1) → RepAll K F ρ (vs.map (·.2)) (ds.map (·.2)) → Rep K F ρ (.ref a) (.dic ds)
  | ptr {a : Addr} {k : Nat} : ρ k = some a → Rep K F ρ (.ref a) (.ptr k)
  | scr {a : Addr} {ns : List Int} : SqL K F a (ns.map V.int) → Rep K F ρ (.ref a) (.scr ns)
  | xob {a dx : Addr} {c : Str} {vs : List (Str × V)} {ds : List (Str × D)} : F a = some (XV (ga K c) (some dx) a) → F dx = some (.xd vs) → vs.map (·.1) = ds.map (·.1) → RepAll K F ρ (vs.map (·.2)) (ds.map (·.2)) → Rep K F ρ (.ref a) (.xob c ds)
  | xob0 {a : Addr} {c : Str} : F a = some (XV (ga K c) none a) → Rep K F ρ (.ref a) (.xob c [])
  | lam {f c' : Addr} {i fr : Nat} {L : LamT} {cs : Cl} {pm ctv : Value} : F f = some (LamO L cs pm c' ctv) → F c' = some (LamX.CodeO c' L.qual) → ρ.c fr = some cs → (∀ y ∈ L.scope.names, y.2 = .free → ∃ c, cs.lookup y.1 = some c) → Rep K F ρ (.ref f) (.lam i L fr)
inductive RepAll (K : PySem.W.Frag) (F : Hp) (ρ : Rho) : List V → List D → Prop
  | nil : RepAll K F ρ [] []
  | cons {v : V} {vs : List V} {d : D} {ds : List D} : Rep K F ρ v d → RepAll K F ρ vs ds → RepAll K F ρ (v :: vs) (d :: ds)
end
/-- an object at a, in the part Mm of the heap -/
def RepO (K : PySem.W.Frag) (F : Hp) (ρ : Rho) (Mm : Hp) (a : Addr) : SO → Prop
  | .lst ds => ∃ vs, Mm a = some (.lst vs) ∧ RepAll K F ρ vs ds
  | .dic ds => ∃ vs : List (Key × V), Mm a = some (.dK vs) ∧ vs.map (·.1) = ds.map (·.1) ∧ RepAll K F ρ (vs.map (·.2)) (ds.map (·.2))
  | .dct ds => ∃ vs : List (List Key × V), Mm a = some (.dT vs) ∧ vs.map (·.1) = ds.map (·.1) ∧ RepAll K F ρ (vs.map (·.2)) (ds.map (·.2))
  | .ins c ds => ∃ (dx : Addr) (vs : List (Str × V)), Mm a = some (.ins (ga K c) dx vs) ∧ Mm dx = some (.own a) ∧ vs.map (·.1) = ds.map (·.1) ∧ RepAll K F ρ (vs.map (·.2)) (ds.map (·.2))
  | .tab x q => ∃ ps : Array Value, Mm a = some (.tbl ps) ∧ a = tabA K x ∧ TriplesOk ps.toList ∧ ∀ (pos : Pos) (cv : Value), codeAmong pos ps.toList = some cv → ∃ c, cv = .ref c ∧ F c = some (LamX.CodeO c q)
def SO.plain : SO → Bool
  | .ins _ _ => false
  | .tab _ _ => false
  | _ => true
def isDict : HO → Bool
  | .dK _ => true
  | .dT _ => true
  | _ => false
/-- F: frozen, P: what is another's, Mm: the store -/
structure HRel (K : PySem.W.Frag) (F P Mm : Hp) (ρ : Rho) (g : GSt) (H : Hp) : Prop where
  fh : ∀ a u, F a = some u → if isDict u = true then Rd H a u else H a = some u
  ph : ∀ a u, P a = some u → H a = some u
  mh : ∀ a u, Mm a = some u → H a = some u
  fp : ∀ a u, F a = some u → P a = none ∧ Mm a = none
  pm : ∀ a u, P a = some u → Mm a = none
  st : ∀ k so, g.S k = some so → ∃ a, ρ k = some a ∧ RepO K F ρ Mm a so
  inj : ∀ k j a, ρ k = some a → ρ j = some a → k = j
  nx : ∀ k, g.nx ≤ k → ρ k = none ∧ ρ.c k = none
  rh : ∀ k a, ρ k = some a → ∃ u, Mm a = some u ∧ ∀ x, u ≠ .own x
/-- the frame fr below, its names N, what its captured names hold -/
def UpOk (K : PySem.W.Frag) (F : Hp) (ρ : Rho) (base : Heap) (u : Nat × List Str × List (Option D)) : Prop := ∃ cs : Cl, ρ.c u.1 = some cs ∧ (∀ y z c, cs.lookup y = some c → cs.lookup z = some c → y = z) ∧ u.2.2.length = u.2.1.length ∧
  (∀ y c, cs.lookup y = some c → ∃ v, base.IsCell c v) ∧ ∀ (j : Nat) (d : D), u.2.2[j]? = some (some d) → ∃ (y : Str) (c : Addr) (w : Value) (v : V), u.2.1[j]? = some y ∧ cs.lookup y = some c ∧ base.IsCell c (some w) ∧ RelV v w ∧ Rep K F ρ v d
def Lk (K : PySem.W.Frag) (F : Hp) (ρ : Rho) (fc : FrC) (me : Option Nat) (up : Ups) : Prop := (∀ fr, me = some fr → ρ.c fr = some fc.cl) ∧ ∀ u ∈ up, UpOk K F ρ fc.base u
def SlotRel (K : PySem.W.Frag) (F : Hp) {fc : FrC} (P0 : PX fc) (P : Hp) (ρ : Rho) (q : Nat → Option Addr) (σ : St) (i : Nat) : Slot → Prop
  | .val d => ∃ v, σ[i]? = some (some v) ∧ Rep K F ρ v d
  | .own so => ∃ p, σ[i]? = some (some (.ref p)) ∧ q i = some p ∧ P0 p = none ∧ RepO K F ρ P p so ∧ so.plain = true
  | .frm me up => ∃ v, σ[i]? = some (some v) ∧ Lk K F ρ fc me up
structure BR (K : PySem.W.Frag) (F : Hp) {fc : FrC} (P0 : PX fc) (P Mm : Hp) (ρ : Rho) (q : Nat → Option Addr) (b : BSt) (σ : St) (H : Hp) : Prop where
  h : HRel K F P Mm ρ b.g H
  pp : ∀ a u, P0 a = some u → P a = some u
  len : σ.length = b.t.length
  qi : ∀ i j p, q i = some p → q j = some p → i = j
  sl : ∀ i s, b.t[i]? = some (some s) → SlotRel K F P0 P ρ q σ i s
def BRel (K : PySem.W.Frag) (F : Hp) {fc : FrC} (P0 : PX fc) (Mm : Hp) (ρ : Rho) (b : BSt) (σ : St) (H : Hp) : Prop := ∃ P q, BR K F P0 P Mm ρ q b σ H
def Leq (F F' : Hp) : Prop := ∀ a u, F a = some u → F' a = some u
structure Rle (ρ ρ' : Rho) : Prop where
  p : ∀ k a, ρ k = some a → ρ' k = some a
  c : ∀ k cs, ρ.c k = some cs → ρ'.c k = some cs
theorem Leq.refl (F : Hp) : Leq F F := fun _ _ h => h
theorem Leq.trans {F G H : Hp} (a : Leq F G) (b : Leq G H) : Leq F H := fun x u h => b x u (a x u h)
theorem Rle.refl (r : Rho) : Rle r r := ⟨fun _ _ h => h, fun _ _ h => h⟩
theorem Rle.trans {F G H : Rho} (a : Rle F G) (b : Rle G H) : Rle F H := ⟨fun x u h => b.p x u (a.p x u h), fun x u h => b.c x u (a.c x u h)⟩
theorem SqL.leq {K : PySem.W.Frag} {F F' : Hp} {a : Addr} {xs : List V} (e : Leq F F') (h : SqL K F a xs) : SqL K F' a xs := by
  rcases h with (h | ⟨o, h⟩) | h
  · exact .inl (.inl (e _ _ h))
  · exact .inl (.inr ⟨o, e _ _ h⟩)
  · exact .inr h
mutual
theorem Rep.mono {K : PySem.W.Frag} {F F' : Hp} {ρ ρ' : Rho} (e : Leq F F') (r : Rle ρ ρ') : ∀ {v : V} {d : D}, Rep K F ρ v d → Rep K F' ρ' v d
  | _, _, .non => .non
  | _, _, .bl b => .bl b
  | _, _, .int i => .int i
  | _, _, .str x => .str x
  | _, _, .ty n => .ty n
  | _, _, .glo x => .glo x
  | _, _, .tup h a => .tup (h.imp (e _ _) id) (RepAll.mono e r a)
  | _, _, .lst h a => .lst (e _ _ h) (RepAll.mono e r a)
  | _, _, .dic h k a => .dic (e _ _ h) k (RepAll.mono e r a)
  | _, _, .ptr h => .ptr (r.p _ _ h)
  | _, _, .scr h => .scr (SqL.leq e h)
  | _, _, .xob h1 h2 h3 h4 => .xob (e _ _ h1) (e _ _ h2) h3 (RepAll.mono e r h4)
  | _, _, .xob0 h => .xob0 (e _ _ h)
  | _, _, .lam h1 h2 h3 h4 => .lam (e _ _ h1) (e _ _ h2) (r.c _ _ h3) h4
theorem RepAll.mono {K : PySem.W.Frag} {F F' : Hp} {ρ ρ' : Rho} (e : Leq F F') (r : Rle ρ ρ') : ∀ {v : List V} {d : List D}, RepAll K F ρ v d → RepAll K F' ρ' v d
  | _, _, .nil => .nil
  | _, _, .cons h t => .cons (Rep.mono e r h) (RepAll.mono e r t)
end
theorem RepO.mono {K : PySem.W.Frag} {F F' : Hp} {ρ ρ' : Rho} {Mm Mm' : Hp} {a : Addr} {so : SO} (e : Leq F F') (r : Rle ρ ρ') (h : RepO K F ρ Mm a so) (m : ∀ b u, (b = a ∨ u = .own a) → Mm b = some u → Mm' b = some u) : RepO K F' ρ' Mm' a so := by
  cases so with
  | lst ds => obtain ⟨vs, h1, h2⟩ := h; exact ⟨vs, m _ _ (.inl rfl) h1, h2.mono e r⟩
  | dic ds => obtain ⟨vs, h1, h2, h3⟩ := h; exact ⟨vs, m _ _ (.inl rfl) h1, h2, h3.mono e r⟩
  | dct ds => obtain ⟨vs, h1, h2, h3⟩ := h; exact ⟨vs, m _ _ (.inl rfl) h1, h2, h3.mono e r⟩
  | ins c ds => obtain ⟨dx, vs, h1, h2, h3, h4⟩ := h; exact ⟨dx, vs, m _ _ (.inl rfl) h1, m _ _ (.inr rfl) h2, h3, h4.mono e r⟩
  | tab x q => obtain ⟨ps, h1, h2, h3, h4⟩ := h; exact ⟨ps, m _ _ (.inl rfl) h1, h2, h3, fun pos cv hc => by obtain ⟨c, e1, e2⟩ := h4 pos cv hc; exact ⟨c, e1, e _ _ e2⟩⟩
theorem UpOk.mono {K : PySem.W.Frag} {F F' : Hp} {ρ ρ' : Rho} {base : Heap} {u : Nat × List Str × List (Option D)} (e : Leq F F') (r : Rle ρ ρ') (h : UpOk K F ρ base u) : UpOk K F' ρ' base u := by
  obtain ⟨cs, h1, h2, h3, h4, h5⟩ := h
  refine ⟨cs, r.c _ _ h1, h2, h3, h4, fun j d hj => ?_⟩
  obtain ⟨y, c, w, v, q1, q2, q3, q4, q5⟩ := h5 j d hj
  exact ⟨y, c, w, v, q1, q2, q3, q4, q5.mono e r⟩
theorem Lk.mono {K : PySem.W.Frag} {F F' : Hp} {ρ ρ' : Rho} {fc : FrC} {me : Option Nat} {up : Ups} (e : Leq F F') (r : Rle ρ ρ') (h : Lk K F ρ fc me up) : Lk K F' ρ' fc me up := ⟨fun fr z => r.c _ _ (h.1 fr z), fun u hu => (h.2 u hu).mono e r⟩
theorem RepAll.length {K : PySem.W.Frag} {F : Hp} {ρ : Rho} : ∀ {vs : List V} {ds : List D}, RepAll K F ρ vs ds → vs.length = ds.length
  | _, _, .nil => rfl
  | _, _, .cons _ t => by simp [RepAll.length t]
theorem RepAll.get {K : PySem.W.Frag} {F : Hp} {ρ : Rho} : ∀ {vs : List V} {ds : List D} {i : Nat} {d : D}, RepAll K F ρ vs ds → ds[i]? = some d → ∃ v, vs[i]? = some v ∧ Rep K F ρ v d
  | _, _, _, _, .nil, e => by simp at e
  | _, _, 0, _, .cons r _, e => by simp at e; subst e; exact ⟨_, rfl, r⟩
  | _, _, i + 1, _, .cons _ t, e => by
    obtain ⟨u, h1, h2⟩ := RepAll.get (i := i) t (by simpa using e)
    exact ⟨u, by simpa using h1, h2⟩
theorem RepAll.getV {K : PySem.W.Frag} {F : Hp} {ρ : Rho} : ∀ {vs : List V} {ds : List D} {i : Nat} {v : V}, RepAll K F ρ vs ds → vs[i]? = some v → ∃ d, ds[i]? = some d ∧ Rep K F ρ v d
  | _, _, _, _, .nil, e => by simp at e
  | _, _, 0, _, .cons r _, e => by simp at e; subst e; exact ⟨_, rfl, r⟩
  | _, _, i + 1, _, .cons _ t, e => by
    obtain ⟨u, h1, h2⟩ := RepAll.getV (i := i) t (by simpa using e)
    exact ⟨u, by simpa using h1, h2⟩
theorem RepAll.append {K : PySem.W.Frag} {F : Hp} {ρ : Rho} : ∀ {vs us : List V} {ds es : List D}, RepAll K F ρ vs ds → RepAll K F ρ us es → RepAll K F ρ (vs ++ us) (ds ++ es)
  | _, _, _, _, .nil, s => s
  | _, _, _, _, .cons r t, s => .cons r (RepAll.append t s)
theorem RepAll.take {K : PySem.W.Frag} {F : Hp} {ρ : Rho} : ∀ {vs : List V} {ds : List D} (n : Nat), RepAll K F ρ vs ds → RepAll K F ρ (vs.take n) (ds.take n)
  | _, _, 0, _ => .nil
  | _, _, _ + 1, .nil => .nil
  | _, _, n + 1, .cons r t => .cons r (RepAll.take n t)
theorem RepAll.drop {K : PySem.W.Frag} {F : Hp} {ρ : Rho} : ∀ {vs : List V} {ds : List D} (n : Nat), RepAll K F ρ vs ds → RepAll K F ρ (vs.drop n) (ds.drop n)
  | _, _, 0, r => r
  | _, _, _ + 1, .nil => .nil
  | _, _, n + 1, .cons r t => RepAll.drop n t
theorem RepAll.set {K : PySem.W.Frag} {F : Hp} {ρ : Rho} {v : V} {d : D} (r : Rep K F ρ v d) : ∀ {vs : List V} {ds : List D} (i : Nat), RepAll K F ρ vs ds → RepAll K F ρ (vs.set i v) (ds.set i d)
  | _, _, _, .nil => .nil
  | _, _, 0, .cons _ t => .cons r t
  | _, _, i + 1, .cons q t => .cons q (RepAll.set r i t)
theorem RepAll.eraseIdx {K : PySem.W.Frag} {F : Hp} {ρ : Rho} : ∀ {vs : List V} {ds : List D} (i : Nat), RepAll K F ρ vs ds → RepAll K F ρ (vs.eraseIdx i) (ds.eraseIdx i)
  | _, _, _, .nil => .nil
  | _, _, 0, .cons _ t => t
  | _, _, i + 1, .cons q t => .cons q (RepAll.eraseIdx i t)
theorem RepAll.dropLast {K : PySem.W.Frag} {F : Hp} {ρ : Rho} {vs : List V} {ds : List D} (h : RepAll K F ρ vs ds) : RepAll K F ρ vs.dropLast ds.dropLast := by
  rw [List.dropLast_eq_take, List.dropLast_eq_take, h.length]; exact h.take _
theorem RepAll.ints {K : PySem.W.Frag} {F : Hp} {ρ : Rho} : ∀ {vs : List V} {ns : List Int}, RepAll K F ρ vs (ns.map D.int) → vs = ns.map V.int
  | _, [], h => by cases h; rfl
  | _, n :: ns, h => by
    cases h with
    | cons r t => cases r; rw [RepAll.ints t]; rfl
theorem RepAll.bls {K : PySem.W.Frag} {F : Hp} {ρ : Rho} : ∀ {vs : List V} {ns : List Bool}, RepAll K F ρ vs (ns.map D.bl) → vs = ns.map V.bl
  | _, [], h => by cases h; rfl
  | _, n :: ns, h => by
    cases h with
    | cons r t => cases r; rw [RepAll.bls t]; rfl
theorem RepAll.strs {K : PySem.W.Frag} {F : Hp} {ρ : Rho} : ∀ {vs : List V} {ns : List Str}, RepAll K F ρ vs (ns.map D.str) → vs = ns.map V.str
  | _, [], h => by cases h; rfl
  | _, n :: ns, h => by
    cases h with
    | cons r t => cases r; rw [RepAll.strs t]; rfl
theorem RepAll.of_ints {K : PySem.W.Frag} {F : Hp} {ρ : Rho} : ∀ ns : List Int, RepAll K F ρ (ns.map V.int) (ns.map D.int)
  | [] => .nil
  | n :: ns => .cons (.int n) (RepAll.of_ints ns)
theorem RepAll.of_strs {K : PySem.W.Frag} {F : Hp} {ρ : Rho} : ∀ ns : List Str, RepAll K F ρ (ns.map V.str) (ns.map D.str)
  | [] => .nil
  | n :: ns => .cons (.str n) (RepAll.of_strs ns)

/-! ### heaps -/
section
variable {K : PySem.W.Frag} {F P : Hp} {fc : FrC} {P0 : PX fc} {Mm H : Hp} {ρ : Rho} {g : GSt} {p a : Addr} {u : HO}
theorem HRel.fnone (h : HRel K F P Mm ρ g H) (n : H p = none) : F p = none := by
  cases e : F p with
  | none => rfl
  | some u =>
    have q := h.fh p u e
    split at q
    · rcases q with q | ⟨o, q⟩ <;> (rw [n] at q; cases q)
    · rw [n] at q; cases q
theorem HRel.pnone (h : HRel K F P Mm ρ g H) (n : H p = none) : P p = none := by
  cases e : P p with
  | none => rfl
  | some u => have q := h.ph p u e; rw [n] at q; cases q
theorem HRel.mnone (h : HRel K F P Mm ρ g H) (n : H p = none) : Mm p = none := by
  cases e : Mm p with
  | none => rfl
  | some u => have q := h.mh p u e; rw [n] at q; cases q
theorem leq_upd (n : F p = none) : Leq F (upd F p u) := fun b v e => by
  by_cases hb : b = p
  · subst hb; rw [n] at e; cases e
  · rw [upd_ne hb]; exact e
/-- a new frozen object -/
theorem HRel.frozen (h : HRel K F P Mm ρ g H) (n : H p = none) : HRel K (upd F p u) P Mm ρ g (upd H p u) := by
  have nF := h.fnone n
  have nP := h.pnone n
  have nM := h.mnone n
  have ne : ∀ {G : Hp} {b : Addr} {v : HO}, G p = none → G b = some v → b ≠ p := fun {G b v} gn e z => by subst z; rw [gn] at e; cases e
  refine ⟨fun b v e => ?_, fun b v e => ?_, fun b v e => ?_, fun b v e => ?_, h.pm, fun k so e => ?_, h.inj, h.nx, h.rh⟩
  · by_cases hb : b = p
    · subst hb; rw [upd_same] at e; cases e
      split
      · exact .inl upd_same
      · exact upd_same
    · rw [upd_ne hb] at e
      have q := h.fh b v e
      split
      · rename_i hd
        rw [if_pos hd] at q
        rcases q with q | ⟨o, q⟩
        · exact .inl (by rw [upd_ne hb]; exact q)
        · exact .inr ⟨o, by rw [upd_ne hb]; exact q⟩
      · rename_i hd
        rw [if_neg hd] at q
        rw [upd_ne hb]; exact q
  · rw [upd_ne (ne nP e)]; exact h.ph b v e
  · rw [upd_ne (ne nM e)]; exact h.mh b v e
  · by_cases hb : b = p
    · subst hb; exact ⟨nP, nM⟩
    · rw [upd_ne hb] at e; exact h.fp b v e
  · obtain ⟨a, e1, e2⟩ := h.st k so e
    exact ⟨a, e1, e2.mono (leq_upd nF) (Rle.refl _) fun _ _ _ z => z⟩
/-- a new object of another's (a slot's) -/
theorem HRel.owned (h : HRel K F P Mm ρ g H) (n : H p = none) : HRel K F (upd P p u) Mm ρ g (upd H p u) := by
  have nF := h.fnone n
  have nP := h.pnone n
  have nM := h.mnone n
  have ne : ∀ {G : Hp} {b : Addr} {v : HO}, G p = none → G b = some v → b ≠ p := fun {G b v} gn e z => by subst z; rw [gn] at e; cases e
  refine ⟨fun b v e => ?_, fun b v e => ?_, fun b v e => ?_, fun b v e => ?_, fun b v e => ?_, h.st, h.inj, h.nx, h.rh⟩
  · have hb := ne nF e
    have q := h.fh b v e
    split
    · rename_i hd
      rw [if_pos hd] at q
      rcases q with q | ⟨o, q⟩
      · exact .inl (by rw [upd_ne hb]; exact q)
      · exact .inr ⟨o, by rw [upd_ne hb]; exact q⟩
    · rename_i hd
      rw [if_neg hd] at q
      rw [upd_ne hb]; exact q
  · by_cases hb : b = p
    · subst hb; rw [upd_same] at e ⊢; exact e
    · rw [upd_ne hb] at e ⊢; exact h.ph b v e
  · rw [upd_ne (ne nM e)]; exact h.mh b v e
  · have hb := ne nF e
    rw [upd_ne hb]; exact h.fp b v e
  · by_cases hb : b = p
    · subst hb; exact nM
    · rw [upd_ne hb] at e; exact h.pm b v e
/-- an owned object is changed -/
theorem HRel.setP (h : HRel K F P Mm ρ g H) {w : HO} (e0 : P p = some w) : HRel K F (upd P p u) Mm ρ g (upd H p u) := by
  have nF : F p = none := by
    cases e : F p with
    | none => rfl
    | some v => rw [(h.fp p v e).1] at e0; cases e0
  have nM := h.pm p w e0
  have ne : ∀ {G : Hp} {b : Addr} {v : HO}, G p = none → G b = some v → b ≠ p := fun {G b v} gn e z => by subst z; rw [gn] at e; cases e
  refine ⟨fun b v e => ?_, fun b v e => ?_, fun b v e => ?_, fun b v e => ?_, fun b v e => ?_, h.st, h.inj, h.nx, h.rh⟩
  · have hb := ne nF e
    have q := h.fh b v e
    split
    · rename_i hd
      rw [if_pos hd] at q
      rcases q with q | ⟨o, q⟩
      · exact .inl (by rw [upd_ne hb]; exact q)
      · exact .inr ⟨o, by rw [upd_ne hb]; exact q⟩
    · rename_i hd
      rw [if_neg hd] at q
      rw [upd_ne hb]; exact q
  · by_cases hb : b = p
    · subst hb; rw [upd_same] at e ⊢; exact e
    · rw [upd_ne hb] at e ⊢; exact h.ph b v e
  · rw [upd_ne (ne nM e)]; exact h.mh b v e
  · have hb := ne nF e
    rw [upd_ne hb]; exact h.fp b v e
  · by_cases hb : b = p
    · subst hb; exact nM
    · rw [upd_ne hb] at e; exact h.pm b v e
def rmv (G : Hp) (p : Addr) : Hp := fun b => if b = p then none else G b
theorem rmv_ne {G : Hp} {b : Addr} (h : b ≠ p) : rmv G p b = G b := if_neg h
theorem rmv_same {G : Hp} : rmv G p p = none := if_pos rfl
theorem rmv_some {G : Hp} {b : Addr} {v : HO} (e : rmv G p b = some v) : b ≠ p ∧ G b = some v := by
  by_cases hb : b = p
  · subst hb; rw [rmv_same] at e; cases e
  · exact ⟨hb, by rw [rmv_ne hb] at e; exact e⟩
/-- an owned object is frozen -/
theorem HRel.freeze (h : HRel K F P Mm ρ g H) (e0 : P p = some u) : HRel K (upd F p u) (rmv P p) Mm ρ g H := by
  have nF : F p = none := by
    cases e : F p with
    | none => rfl
    | some v => rw [(h.fp p v e).1] at e0; cases e0
  refine ⟨fun b v e => ?_, fun b v e => ?_, h.mh, fun b v e => ?_, fun b v e => ?_, fun k so e => ?_, h.inj, h.nx, h.rh⟩
  · by_cases hb : b = p
    · subst hb; rw [upd_same] at e; cases e
      split
      · exact .inl (h.ph _ _ e0)
      · exact h.ph _ _ e0
    · rw [upd_ne hb] at e; exact h.fh b v e
  · obtain ⟨hb, e⟩ := rmv_some e; exact h.ph b v e
  · by_cases hb : b = p
    · subst hb; exact ⟨rmv_same, h.pm _ _ e0⟩
    · rw [upd_ne hb] at e
      obtain ⟨q1, q2⟩ := h.fp b v e
      exact ⟨by rw [rmv_ne hb]; exact q1, q2⟩
  · obtain ⟨hb, e⟩ := rmv_some e; exact h.pm b v e
  · obtain ⟨a, e1, e2⟩ := h.st k so e
    exact ⟨a, e1, e2.mono (leq_upd nF) (Rle.refl _) fun _ _ _ z => z⟩
end

/-! ### the store -/
def GSt.put (g : GSt) (k : Nat) (so : SO) : GSt := { g with S := fun j => if j = k then some so else g.S j }
def GSt.new (g : GSt) (so : SO) : GSt := ⟨fun j => if j = g.nx then some so else g.S j, g.nx + 1⟩
def rput (ρ : Rho) (k : Nat) (a : Addr) : Rho := ⟨fun j => if j = k then some a else ρ j, ρ.c⟩
theorem rput_same {ρ : Rho} {k : Nat} {a : Addr} : rput ρ k a k = some a := if_pos rfl
theorem rput_ne {ρ : Rho} {k j : Nat} {a : Addr} (h : j ≠ k) : rput ρ k a j = ρ j := if_neg h
theorem rle_put {ρ : Rho} {k : Nat} {a : Addr} (n : ρ k = none) : Rle ρ (rput ρ k a) := ⟨fun j b e => by
  by_cases hj : j = k
  · subst hj; rw [n] at e; cases e
  · rw [rput_ne hj]; exact e, fun _ _ h => h⟩
end L2.VI
/-! VI1: judgements over deep data, their glue. -/
namespace L2.VI
open PySem PySem.Spec PyProof.Rows He

/-- an exception's class and own dict stand for x -/
def RepX (K : PySem.W.Frag) (F : Hp) (ρ : Rho) (x : EX) (cls : Value) (d : Option Addr) : Prop :=
  cls = .ref (ga K x.c) ∧ ((x.fs = [] ∧ d = none) ∨ ∃ (dx : Addr) (vs : List (Str × V)), d = some dx ∧ F dx = some (.xd vs) ∧ vs.map (·.1) = x.fs.map (·.1) ∧ RepAll K F ρ (vs.map (·.2)) (x.fs.map (·.2)))
def Post {α β : Type} (rel : Hp → Rho → β → α → Prop) (K : PySem.W.Frag) (W : WX) {fc : FrC} (P0 : PX fc) (F : Hp) (ρ : Rho) (σ : St) (Q : β → Hp → Prop) : R α → Prop
  | .ok a b' => ∀ (x : β) (F' M' : Hp) (ρ' : Rho) (H' : Hp), Leq F F' → Rle ρ ρ' → BRel K F' P0 M' ρ' b' σ H' → rel F' ρ' x a → Q x H'
  | .exc x b' => ∀ (cls : Value) (d : Option Addr) (F' M' : Hp) (ρ' : Rho) (H' : Hp), Leq F F' → Rle ρ ρ' → BRel K F' P0 M' ρ' b' σ H' → RepX K F' ρ' x cls d → W cls d σ H'
  | .fail => False
def tM {fc : FrC} {α β : Type} (rel : Hp → Rho → β → α → Prop) (K : PySem.W.Frag) (W : WX) (m : M α) : St → Hp → (β → Hp → Prop) → Prop :=
  fun σ H Q => ∃ (F : Hp) (P0 : PX fc) (Mm : Hp) (ρ : Rho) (b : BSt), BRel K F P0 Mm ρ b σ H ∧ Post rel K W P0 F ρ σ Q (m b)
abbrev tE {fc : FrC} (K : PySem.W.Frag) (W : WX) (m : M D) : TE := tM (fc := fc) (Rep K) K W m
abbrev tT {fc : FrC} (K : PySem.W.Frag) (W : WX) (m : M Bool) : TT := tM (fc := fc) (fun _ _ x a => x = a) K W m
abbrev tA {fc : FrC} (K : PySem.W.Frag) (W : WX) (m : M (List D)) : TA := tM (fc := fc) (RepAll K) K W m
def SE (X : Cx) (W : WX) (e : Expr) (m : M D) : Prop := PE X e (tE (fc := fcOf X) X.K W m)
def SB (X : Cx) (W : WX) (e : Expr) (m : M Bool) : Prop := PT X e (tT (fc := fcOf X) X.K W m)
def SA (X : Cx) (W : WX) (es : List Expr) (m : M (List D)) : Prop := PA X es (tA (fc := fcOf X) X.K W m)
section
variable {α β γ δ : Type} {rel : Hp → Rho → β → α → Prop} {rel' : Hp → Rho → δ → γ → Prop} {K : PySem.W.Frag} {W : WX} {fc : FrC} {P0 : PX fc} {F F1 Mm H : Hp} {ρ r1 : Rho} {σ : St} {b : BSt} {Q : β → Hp → Prop} {Q' : δ → Hp → Prop}
theorem Post.mono {r : R α} (h : Post rel K W P0 F ρ σ Q r) (l : Leq F F1) (e : Rle ρ r1) : Post rel K W P0 F1 r1 σ Q r := by
  cases r with
  | ok a b' => exact fun x F' M' ρ' H' l' e' B r => h x F' M' ρ' H' (l.trans l') (e.trans e') B r
  | exc x b' => exact fun c d F' M' ρ' H' l' e' B r => h c d F' M' ρ' H' (l.trans l') (e.trans e') B r
  | fail => exact h
theorem tM_of {m : M α} (B : BRel K F P0 Mm ρ b σ H) (h : Post rel K W P0 F ρ σ Q (m b)) : tM (fc := fc) rel K W m σ H Q := ⟨F, P0, Mm, ρ, b, B, h⟩
theorem tM_then {m : M α} {k : α → M γ} (B : BRel K F P0 Mm ρ b σ H) (h : Post rel' K W P0 F ρ σ Q' (M.bind m k b))
    (hk : ∀ x a F1 M1 r1 b1 H1, Leq F F1 → Rle ρ r1 → BRel K F1 P0 M1 r1 b1 σ H1 → rel F1 r1 x a → Post rel' K W P0 F1 r1 σ Q' (k a b1) → Q x H1) : tM (fc := fc) rel K W m σ H Q := by
  refine ⟨F, P0, Mm, ρ, b, B, ?_⟩
  unfold M.bind at h
  cases e : m b with
  | ok a b' =>
    rw [e] at h
    exact fun x F' M' ρ' H' l r B' q => hk x a F' M' ρ' b' H' l r B' q (Post.mono h l r)
  | exc x b' => rw [e] at h; exact h
  | fail => rw [e] at h; exact h.elim
/-- the end of a rule: the value is handed on -/
theorem Post.now {a : α} {x : β} (h : Post rel K W P0 F ρ σ Q (.ok a b)) (B : BRel K F P0 Mm ρ b σ H) (q : rel F ρ x a) : Q x H := h x F Mm ρ H (Leq.refl _) (Rle.refl _) B q
end
/-- m, if c holds -/
def guardM {α : Type} (c : Prop) [Decidable c] (m : M α) : M α := fun b => if c then m b else .fail
theorem Post.guard {α β : Type} {rel : Hp → Rho → β → α → Prop} {K : PySem.W.Frag} {W : WX} {fc : FrC} {P0 : PX fc} {F : Hp} {ρ : Rho} {σ : St} {b : BSt} {Q : β → Hp → Prop} {c : Prop} [Decidable c] {m : M α} (h : Post rel K W P0 F ρ σ Q (guardM c m b)) : c ∧ Post rel K W P0 F ρ σ Q (m b) := by
  unfold guardM at h
  split at h
  · rename_i hc; exact ⟨hc, h⟩
  · exact h.elim
/-- a rule from one of the hand layer -/
theorem SE.of {X : Cx} {W : WX} {e : Expr} {m : M D} {t : TE} (h : PE X e t)
    (ht : ∀ σ H F (P0 : PX (fcOf X)) Mm ρ b Q, BRel X.K F P0 Mm ρ b σ H → Post (Rep X.K) X.K W P0 F ρ σ Q (m b) → t σ H Q) : SE X W e m := ⟨fun pins s σ H Q I ⟨F, P0, Mm, ρ, b, B, q⟩ => h.run pins s σ H Q I (ht σ H F P0 Mm ρ b Q B q)⟩
theorem SB.of {X : Cx} {W : WX} {e : Expr} {m : M Bool} {t : TT} (h : PT X e t)
    (ht : ∀ σ H F (P0 : PX (fcOf X)) Mm ρ b Q, BRel X.K F P0 Mm ρ b σ H → Post (fun _ _ x a => x = a) X.K W P0 F ρ σ Q (m b) → t σ H Q) : SB X W e m := ⟨fun pins s σ H Q I ⟨F, P0, Mm, ρ, b, B, q⟩ => h.run pins s σ H Q I (ht σ H F P0 Mm ρ b Q B q)⟩
theorem SA.of {X : Cx} {W : WX} {e : List Expr} {m : M (List D)} {t : TA} (h : PA X e t)
    (ht : ∀ σ H F (P0 : PX (fcOf X)) Mm ρ b Q, BRel X.K F P0 Mm ρ b σ H → Post (RepAll X.K) X.K W P0 F ρ σ Q (m b) → t σ H Q) : SA X W e m := ⟨fun pos pins s σ H Q I ⟨F, P0, Mm, ρ, b, B, q⟩ => h.run pos pins s σ H Q I (ht σ H F P0 Mm ρ b Q B q)⟩

/-! ### fresh objects -/
/-- at p: a fresh object, nobody's -/
def Frs (K : PySem.W.Frag) (F : Hp) {fc : FrC} (P0 : PX fc) (Mm : Hp) (ρ : Rho) (b : BSt) (σ : St) (H : Hp) (p : Addr) (so : SO) : Prop :=
  ∃ P q, BR K F P0 P Mm ρ q b σ H ∧ RepO K F ρ P p so ∧ so.plain = true ∧ P0 p = none ∧ ∀ i, q i ≠ some p
def PostF (K : PySem.W.Frag) (W : WX) {fc : FrC} (P0 : PX fc) (F : Hp) (ρ : Rho) (σ : St) (Q : VK) : R SO → Prop
  | .ok so b' => ∀ (p : Addr) (F' M' : Hp) (ρ' : Rho) (H' : Hp), Leq F F' → Rle ρ ρ' → Frs K F' P0 M' ρ' b' σ H' p so → Q (.ref p) H'
  | .exc x b' => ∀ (cls : Value) (d : Option Addr) (F' M' : Hp) (ρ' : Rho) (H' : Hp), Leq F F' → Rle ρ ρ' → BRel K F' P0 M' ρ' b' σ H' → RepX K F' ρ' x cls d → W cls d σ H'
  | .fail => False
def tF {fc : FrC} (K : PySem.W.Frag) (W : WX) (m : M SO) : TE := fun σ H Q => ∃ (F : Hp) (P0 : PX fc) (Mm : Hp) (ρ : Rho) (b : BSt), BRel K F P0 Mm ρ b σ H ∧ PostF K W P0 F ρ σ Q (m b)
/-- an expression that makes a new object -/
def SN (X : Cx) (W : WX) (e : Expr) (m : M SO) : Prop := PE X e (tF (fc := fcOf X) X.K W m)
theorem SN.of {X : Cx} {W : WX} {e : Expr} {m : M SO} {t : TE} (h : PE X e t)
    (ht : ∀ σ H F (P0 : PX (fcOf X)) Mm ρ b Q, BRel X.K F P0 Mm ρ b σ H → PostF X.K W P0 F ρ σ Q (m b) → t σ H Q) : SN X W e m := ⟨fun pins s σ H Q I ⟨F, P0, Mm, ρ, b, B, q⟩ => h.run pins s σ H Q I (ht σ H F P0 Mm ρ b Q B q)⟩
theorem PostF.mono {K : PySem.W.Frag} {W : WX} {fc : FrC} {P0 : PX fc} {F F1 : Hp} {ρ r1 : Rho} {σ : St} {Q : VK} {r : R SO} (h : PostF K W P0 F ρ σ Q r) (l : Leq F F1) (e : Rle ρ r1) : PostF K W P0 F1 r1 σ Q r := by
  cases r with
  | ok a b' => exact fun x F' M' ρ' H' l' e' B => h x F' M' ρ' H' (l.trans l') (e.trans e') B
  | exc x b' => exact fun c d F' M' ρ' H' l' e' B r => h c d F' M' ρ' H' (l.trans l') (e.trans e') B r
  | fail => exact h
/-- a step ahead of a fresh object -/
theorem tM_thenF {α β : Type} {rel : Hp → Rho → β → α → Prop} {K : PySem.W.Frag} {W : WX} {fc : FrC} {P0 : PX fc} {F Mm H : Hp} {ρ : Rho} {σ : St} {b : BSt} {Q : β → Hp → Prop} {Q' : VK} {m : M α} {k : α → M SO} (B : BRel K F P0 Mm ρ b σ H) (h : PostF K W P0 F ρ σ Q' (M.bind m k b))
    (hk : ∀ x a F1 M1 r1 b1 H1, Leq F F1 → Rle ρ r1 → BRel K F1 P0 M1 r1 b1 σ H1 → rel F1 r1 x a → PostF K W P0 F1 r1 σ Q' (k a b1) → Q x H1) : tM (fc := fc) rel K W m σ H Q := by
  refine ⟨F, P0, Mm, ρ, b, B, ?_⟩
  unfold M.bind at h
  cases e : m b with
  | ok a b' =>
    rw [e] at h
    exact fun x F' M' ρ' H' l r B' q => hk x a F' M' ρ' b' H' l r B' q (PostF.mono h l r)
  | exc x b' => rw [e] at h; exact h
  | fail => rw [e] at h; exact h.elim
section
variable {K : PySem.W.Frag} {F P : Hp} {fc : FrC} {P0 : PX fc} {Mm H : Hp} {ρ : Rho} {q : Nat → Option Addr} {b : BSt} {σ : St} {p : Addr} {u : HO} {so : SO}
theorem RepO.monoP {F' : Hp} {ρ' : Rho} {Mm' : Hp} {a : Addr} (e : Leq F F') (r : Rle ρ ρ') (h : RepO K F ρ Mm a so) (pl : so.plain = true) (m : ∀ u, Mm a = some u → Mm' a = some u) : RepO K F' ρ' Mm' a so := by
  cases so with
  | lst ds => obtain ⟨vs, h1, h2⟩ := h; exact ⟨vs, m _ h1, h2.mono e r⟩
  | dic ds => obtain ⟨vs, h1, h2, h3⟩ := h; exact ⟨vs, m _ h1, h2, h3.mono e r⟩
  | dct ds => obtain ⟨vs, h1, h2, h3⟩ := h; exact ⟨vs, m _ h1, h2, h3.mono e r⟩
  | ins c ds => cases pl
  | tab x q => cases pl
theorem RepO.there {a : Addr} (h : RepO K F ρ Mm a so) : ∃ u, Mm a = some u ∧ ∀ x, u ≠ .own x := by
  cases so with
  | lst ds => obtain ⟨vs, h1, h2⟩ := h; exact ⟨_, h1, fun _ z => nomatch z⟩
  | dic ds => obtain ⟨vs, h1, h2, h3⟩ := h; exact ⟨_, h1, fun _ z => nomatch z⟩
  | dct ds => obtain ⟨vs, h1, h2, h3⟩ := h; exact ⟨_, h1, fun _ z => nomatch z⟩
  | ins c ds => obtain ⟨dx, vs, h1, h2⟩ := h; exact ⟨_, h1, fun _ z => nomatch z⟩
  | tab x q => obtain ⟨ps, h1, h2⟩ := h; exact ⟨_, h1, fun _ z => nomatch z⟩
theorem SlotRel.mono {F' P' : Hp} {ρ' : Rho} {q' : Nat → Option Addr} {i : Nat} {s : Slot} (h : SlotRel K F P0 P ρ q σ i s) (l : Leq F F') (r : Rle ρ ρ')
    (hq : ∀ p, q i = some p → q' i = some p ∧ ∀ u, P p = some u → P' p = some u) : SlotRel K F' P0 P' ρ' q' σ i s := by
  cases s with
  | val d => obtain ⟨v, e, rr⟩ := h; exact ⟨v, e, rr.mono l r⟩
  | own o =>
    obtain ⟨p, e, e2, n, rr, pl⟩ := h
    obtain ⟨q1, q2⟩ := hq p e2
    exact ⟨p, e, q1, n, rr.monoP l r pl q2, pl⟩
  | frm me up => obtain ⟨v, e, lk⟩ := h; exact ⟨v, e, Lk.mono l r lk⟩
theorem HRel.pset (h : HRel K F P Mm ρ b.g H) (n : H p = none) : P p = none := h.pnone n
/-- a new object at p, nobody's -/
theorem BRel.fresh (B : BRel K F P0 Mm ρ b σ H) (n : H p = none) (hso : ∀ P', P' p = some u → RepO K F ρ P' p so) (pl : so.plain = true) : Frs K F P0 Mm ρ b σ (upd H p u) p so := by
  obtain ⟨P, q, B⟩ := B
  have nP := B.h.pnone n
  refine ⟨upd P p u, fun i => if q i = some p then none else q i, ⟨B.h.owned n, fun a w e => ?_, B.len, fun i j a e1 e2 => ?_, fun i s e => ?_⟩, hso _ upd_same, pl, ?_, fun i z => ?_⟩
  · have q1 := B.pp a w e
    have : a ≠ p := fun z => by subst z; rw [nP] at q1; cases q1
    rw [upd_ne this]; exact q1
  · try dsimp only at e1 e2
    split at e1
    · cases e1
    · split at e2
      · cases e2
      · exact B.qi i j a e1 e2
  · have q1 := B.sl i s e
    cases s with
    | val d => exact q1
    | frm me up => exact q1
    | own o =>
      obtain ⟨a, e1, e2, e3, e4, e5⟩ := q1
      have na : a ≠ p := fun z => by
        subst z
        obtain ⟨w, hw, _⟩ := e4.there
        rw [nP] at hw; cases hw
      refine ⟨a, e1, ?_, e3, e4.monoP (Leq.refl _) (Rle.refl _) e5 fun w z => by rw [upd_ne na]; exact z, e5⟩
      exact (if_neg (fun z => na (Option.some.inj (e2.symm.trans z)))).trans e2
  · cases e : P0 p with
    | none => rfl
    | some w => have := B.pp p w e; rw [nP] at this; cases this
  · try dsimp only at z
    split at z
    · cases z
    · exact absurd z (by assumption)
/-- a fresh object is frozen -/
theorem Frs.freeze (h : Frs K F P0 Mm ρ b σ H p so) : ∃ F' u, Leq F F' ∧ F' p = some u ∧ BRel K F' P0 Mm ρ b σ H ∧ RepO K F' ρ F' p so := by
  obtain ⟨P, q, B, r, pl, n0, nq⟩ := h
  obtain ⟨u, hu, _⟩ := id r.there
  have nF : F p = none := by
    cases e : F p with
    | none => rfl
    | some v => rw [(B.h.fp p v e).1] at hu; cases hu
  have l : Leq F (upd F p u) := leq_upd nF
  refine ⟨upd F p u, u, l, upd_same, ⟨rmv P p, q, B.h.freeze hu, fun a w e => ?_, B.len, B.qi, fun i s e => ?_⟩, r.monoP l (Rle.refl _) pl fun w z => ?_⟩
  · have : a ≠ p := fun z => by subst z; rw [n0] at e; cases e
    rw [rmv_ne this]; exact B.pp a w e
  · refine (B.sl i s e).mono l (Rle.refl _) fun a ea => ⟨ea, fun w z => ?_⟩
    have : a ≠ p := fun z => nq i (by rw [← z]; exact ea)
    rw [rmv_ne this]; exact z
  · rw [hu] at z; rw [upd_same]; exact z
def SO.frozen : SO → Option D
  | .lst xs => some (.lst xs)
  | .dic kvs => some (.dic kvs)
  | _ => none
theorem RepO.rep {d : D} (r : RepO K F ρ F p so) (e : so.frozen = some d) : Rep K F ρ (.ref p) d := by
  cases so with
  | lst ds => cases e; obtain ⟨vs, h1, h2⟩ := r; exact .lst h1 h2
  | dic ds => cases e; obtain ⟨vs, h1, h2, h3⟩ := r; exact .dic h1 h2 h3
  | dct ds => cases e
  | ins c f => cases e
  | tab x q => cases e
/-- .. goes into the store -/
theorem HRel.toStore {g : GSt} (h : HRel K F P Mm ρ g H) (e0 : P p = some u) (nu : ∀ x, u ≠ .own x) (hso : RepO K F ρ P p so) (pl : so.plain = true) :
    HRel K F (rmv P p) (upd Mm p u) (rput ρ g.nx p) (g.new so) H ∧ Rle ρ (rput ρ g.nx p) := by
  have nM := h.pm p u e0
  have nx : ρ g.nx = none := (h.nx _ (Nat.le_refl _)).1
  have rl : Rle ρ (rput ρ g.nx p) := rle_put nx
  have lm : Leq Mm (upd Mm p u) := leq_upd nM
  have np : ∀ k, ρ k ≠ some p := fun k z => by
    obtain ⟨w, hw, _⟩ := h.rh k p z
    rw [nM] at hw; cases hw
  refine ⟨⟨h.fh, fun b v e => ?_, fun b v e => ?_, fun b v e => ?_, fun b v e => ?_, fun k o e => ?_, fun k j a e1 e2 => ?_, fun k hk => ?_, fun k a e => ?_⟩, rl⟩
  · obtain ⟨hb, e⟩ := rmv_some e; exact h.ph b v e
  · by_cases hb : b = p
    · subst hb; rw [upd_same] at e; cases e; exact h.ph _ _ e0
    · rw [upd_ne hb] at e; exact h.mh b v e
  · obtain ⟨q1, q2⟩ := h.fp b v e
    have hb : b ≠ p := fun z => by subst z; rw [e0] at q1; cases q1
    exact ⟨by rw [rmv_ne hb]; exact q1, by rw [upd_ne hb]; exact q2⟩
  · obtain ⟨hb, e⟩ := rmv_some e
    rw [upd_ne hb]; exact h.pm b v e
  · by_cases hk : k = g.nx
    · subst hk
      have e' : so = o := Option.some.inj (show some so = some o by rw [← e]; exact (if_pos rfl).symm)
      subst e'
      exact ⟨p, rput_same, hso.monoP (Leq.refl _) rl pl fun w z => by rw [e0] at z; rw [upd_same]; exact z⟩
    · have e' : g.S k = some o := by rw [← e]; exact (if_neg hk).symm
      obtain ⟨a, e1, e2⟩ := h.st k o e'
      exact ⟨a, rl.p _ _ e1, e2.mono (Leq.refl _) rl fun c w _ z => lm c w z⟩
  · by_cases hk : k = g.nx
    · by_cases hj : j = g.nx
      · rw [hk, hj]
      · subst hk
        rw [rput_same] at e1; cases e1
        rw [rput_ne hj] at e2
        exact absurd e2 (np j)
    · rw [rput_ne hk] at e1
      by_cases hj : j = g.nx
      · subst hj
        rw [rput_same] at e2; cases e2
        exact absurd e1 (np k)
      · rw [rput_ne hj] at e2; exact h.inj k j a e1 e2
  · have h1 : g.nx + 1 ≤ k := hk
    exact ⟨by rw [rput_ne (by omega)]; exact (h.nx k (by omega)).1, (h.nx k (by omega)).2⟩
  · by_cases hk : k = g.nx
    · subst hk; rw [rput_same] at e; cases e; exact ⟨u, upd_same, nu⟩
    · rw [rput_ne hk] at e
      obtain ⟨w, hw, hn⟩ := h.rh k a e
      exact ⟨w, lm a w hw, hn⟩
theorem Frs.store (h : Frs K F P0 Mm ρ b σ H p so) : ∃ M' ρ', Rle ρ ρ' ∧ BRel K F P0 M' ρ' { b with g := b.g.new so } σ H ∧ Rep K F ρ' (.ref p) (.ptr b.g.nx) := by
  obtain ⟨P, q, B, r, pl, n0, nq⟩ := h
  obtain ⟨u, hu, nu⟩ := id r.there
  obtain ⟨h1, rl⟩ := B.h.toStore hu nu r pl
  refine ⟨_, _, rl, ⟨rmv P p, q, h1, fun a w e => ?_, B.len, B.qi, fun i s e => ?_⟩, .ptr rput_same⟩
  · have : a ≠ p := fun z => by subst z; rw [n0] at e; cases e
    rw [rmv_ne this]; exact B.pp a w e
  · refine (B.sl i s e).mono (Leq.refl _) rl fun a ea => ⟨ea, fun w z => ?_⟩
    have : a ≠ p := fun z => nq i (by rw [← z]; exact ea)
    rw [rmv_ne this]; exact z
/-- a slot takes a value -/
theorem BRel.setV {v : V} {d : D} (B : BRel K F P0 Mm ρ b σ H) (i : Nat) (r : Rep K F ρ v d) : BRel K F P0 Mm ρ { b with t := b.t.set i (some (.val d)) } (σ.set i (some v)) H := by
  obtain ⟨P, q, B⟩ := B
  refine ⟨P, q, B.h, B.pp, by simpa using B.len, B.qi, fun j s e => ?_⟩
  by_cases hj : j = i
  · subst hj
    have hl : j < b.t.length := by
      by_cases h : j < b.t.length
      · exact h
      · have e' : (b.t.set j (some (Slot.val d)))[j]? = some (some s) := e
        rw [List.getElem?_eq_none (by simpa using h)] at e'; cases e'
    have e' : (b.t.set j (some (Slot.val d)))[j]? = some (some s) := e
    rw [List.getElem?_set_self hl] at e'
    cases e'
    exact ⟨v, List.getElem?_set_self (by rw [B.len]; exact hl), r⟩
  · have e' : (b.t.set i (some (Slot.val d)))[j]? = some (some s) := e
    rw [List.getElem?_set_ne (Ne.symm hj)] at e'
    have q1 := B.sl j s e'
    cases s with
    | val d' => obtain ⟨v', h1, h2⟩ := q1; exact ⟨v', by rw [List.getElem?_set_ne (Ne.symm hj)]; exact h1, h2⟩
    | own o => obtain ⟨p, h1, h2⟩ := q1; exact ⟨p, by rw [List.getElem?_set_ne (Ne.symm hj)]; exact h1, h2⟩
    | frm me up => obtain ⟨v', h1, h2⟩ := q1; exact ⟨v', by rw [List.getElem?_set_ne (Ne.symm hj)]; exact h1, h2⟩
/-- a slot is forgotten -/
theorem BRel.drop (B : BRel K F P0 Mm ρ b σ H) (i : Nat) (v : Option V) : BRel K F P0 Mm ρ { b with t := b.t.set i none } (σ.set i v) H := by
  obtain ⟨P, q, B⟩ := B
  refine ⟨P, q, B.h, B.pp, by simpa using B.len, B.qi, fun j s e => ?_⟩
  have e' : (b.t.set i none)[j]? = some (some s) := e
  by_cases hj : j = i
  · subst hj
    by_cases hl : j < b.t.length
    · rw [List.getElem?_set_self hl] at e'; cases e'
    · rw [List.getElem?_eq_none (by simpa using hl)] at e'; cases e'
  · rw [List.getElem?_set_ne (Ne.symm hj)] at e'
    have q1 := B.sl j s e'
    cases s with
    | val d' => obtain ⟨v', h1, h2⟩ := q1; exact ⟨v', by rw [List.getElem?_set_ne (Ne.symm hj)]; exact h1, h2⟩
    | own o => obtain ⟨p, h1, h2⟩ := q1; exact ⟨p, by rw [List.getElem?_set_ne (Ne.symm hj)]; exact h1, h2⟩
    | frm me up => obtain ⟨v', h1, h2⟩ := q1; exact ⟨v', by rw [List.getElem?_set_ne (Ne.symm hj)]; exact h1, h2⟩
/-- a slot takes a fresh object for its own -/
theorem Frs.setO (h : Frs K F P0 Mm ρ b σ H p so) (i : Nat) : BRel K F P0 Mm ρ { b with t := b.t.set i (some (.own so)) } (σ.set i (some (.ref p))) H := by
  obtain ⟨P, q, B, r, pl, n0, nq⟩ := h
  refine ⟨P, fun j => if j = i then some p else q j, B.h, B.pp, by simpa using B.len, fun j k a e1 e2 => ?_, fun j s e => ?_⟩
  · try dsimp only at e1 e2
    split at e1
    · split at e2
      · rename_i h1 h2; rw [h1, h2]
      · cases e1; exact absurd e2 (nq k)
    · split at e2
      · cases e2; exact absurd e1 (nq j)
      · exact B.qi j k a e1 e2
  · by_cases hj : j = i
    · subst hj
      have hl : j < b.t.length := by
        by_cases h : j < b.t.length
        · exact h
        · have e' : (b.t.set j (some (Slot.own so)))[j]? = some (some s) := e
          rw [List.getElem?_eq_none (by simpa using h)] at e'; cases e'
      have e' : (b.t.set j (some (Slot.own so)))[j]? = some (some s) := e
      rw [List.getElem?_set_self hl] at e'
      cases e'
      exact ⟨p, List.getElem?_set_self (by rw [B.len]; exact hl), if_pos rfl, n0, r, pl⟩
    · have e' : (b.t.set i (some (Slot.own so)))[j]? = some (some s) := e
      rw [List.getElem?_set_ne (Ne.symm hj)] at e'
      have q1 := B.sl j s e'
      cases s with
      | val d' => obtain ⟨v', h1, h2⟩ := q1; exact ⟨v', by rw [List.getElem?_set_ne (Ne.symm hj)]; exact h1, h2⟩
      | own o => obtain ⟨p, h1, h2, h3⟩ := q1; exact ⟨p, by rw [List.getElem?_set_ne (Ne.symm hj)]; exact h1, (if_neg hj).trans h2, h3⟩
      | frm me up => obtain ⟨v', h1, h2⟩ := q1; exact ⟨v', by rw [List.getElem?_set_ne (Ne.symm hj)]; exact h1, h2⟩
/-- a slot's own object is frozen: it is read as a value -/
theorem BRel.thaw {d : D} (B : BRel K F P0 Mm ρ b σ H) {i : Nat} (e : b.t[i]? = some (some (.own so))) (hd : so.frozen = some d) :
    ∃ v F', Leq F F' ∧ σ[i]? = some (some v) ∧ BRel K F' P0 Mm ρ { b with t := b.t.set i (some (.val d)) } σ H ∧ Rep K F' ρ v d := by
  obtain ⟨P, q, B⟩ := B
  obtain ⟨p, e1, e2, n0, r, pl⟩ := B.sl i _ e
  obtain ⟨u, hu, _⟩ := id r.there
  have nF : F p = none := by
    cases e : F p with
    | none => rfl
    | some v => rw [(B.h.fp p v e).1] at hu; cases hu
  have l : Leq F (upd F p u) := leq_upd nF
  have rr : Rep K (upd F p u) ρ (.ref p) d := (r.monoP l (Rle.refl _) pl fun w z => by rw [hu] at z; rw [upd_same]; exact z).rep hd
  refine ⟨.ref p, upd F p u, l, e1, ⟨rmv P p, fun j => if j = i then none else q j, B.h.freeze hu, fun a w e => ?_, by simpa using B.len, fun j k a x1 x2 => ?_, fun j s x => ?_⟩, rr⟩
  · have : a ≠ p := fun z => by subst z; rw [n0] at e; cases e
    rw [rmv_ne this]; exact B.pp a w e
  · try dsimp only at x1 x2
    split at x1
    · cases x1
    · split at x2
      · cases x2
      · exact B.qi j k a x1 x2
  · have hl : i < b.t.length := (List.getElem?_eq_some_iff.mp e).1
    have x' : (b.t.set i (some (Slot.val d)))[j]? = some (some s) := x
    by_cases hj : j = i
    · subst hj
      rw [List.getElem?_set_self hl] at x'
      cases x'
      exact ⟨_, e1, rr⟩
    · rw [List.getElem?_set_ne (Ne.symm hj)] at x'
      refine (B.sl j s x').mono l (Rle.refl _) fun a ea => ⟨(if_neg hj).trans ea, fun w z => ?_⟩
      have : a ≠ p := fun z => hj (B.qi j i a ea (by rw [z]; exact e2))
      rw [rmv_ne this]; exact z
/-- a slot's own object is changed -/
theorem BRel.chg {so' : SO} {u' : HO} (B : BRel K F P0 Mm ρ b σ H) {i : Nat} (e : b.t[i]? = some (some (.own so))) (pl' : so'.plain = true) :
    ∃ p u, σ[i]? = some (some (.ref p)) ∧ H p = some u ∧ RepO K F ρ (fun _ => some u) p so ∧ F p = none ∧ Mm p = none ∧ ((∀ P', P' p = some u' → RepO K F ρ P' p so') → BRel K F P0 Mm ρ { b with t := b.t.set i (some (.own so')) } σ (upd H p u')) := by
  obtain ⟨P, q, B⟩ := B
  obtain ⟨p, e1, e2, n0, r, pl⟩ := B.sl i _ e
  obtain ⟨u, hu, _⟩ := id r.there
  have nF : F p = none := by
    cases e : F p with
    | none => rfl
    | some v => rw [(B.h.fp p v e).1] at hu; cases hu
  refine ⟨p, u, e1, B.h.ph _ _ hu, r.monoP (Leq.refl _) (Rle.refl _) pl fun w z => by rw [hu] at z; exact z, nF, B.h.pm _ _ hu, fun hn => ⟨upd P p u', q, B.h.setP hu, fun a w e => ?_, by simpa using B.len, B.qi, fun j s x => ?_⟩⟩
  · have : a ≠ p := fun z => by subst z; rw [n0] at e; cases e
    rw [upd_ne this]; exact B.pp a w e
  · have hl : i < b.t.length := (List.getElem?_eq_some_iff.mp e).1
    have x' : (b.t.set i (some (Slot.own so')))[j]? = some (some s) := x
    by_cases hj : j = i
    · subst hj
      rw [List.getElem?_set_self hl] at x'
      cases x'
      exact ⟨p, e1, e2, n0, hn _ upd_same, pl'⟩
    · rw [List.getElem?_set_ne (Ne.symm hj)] at x'
      refine (B.sl j s x').mono (Leq.refl _) (Rle.refl _) fun a ea => ⟨ea, fun w z => ?_⟩
      have : a ≠ p := fun z => hj (B.qi j i a ea (by rw [z]; exact e2))
      rw [upd_ne this]; exact z
/-- an object of the store is changed -/
theorem HRel.put {g : GSt} {k : Nat} {so' : SO} {u' : HO} (h : HRel K F P Mm ρ g H) (e : g.S k = some so) (pl : so.plain = true) (pl' : so'.plain = true) :
    ∃ a u, ρ k = some a ∧ Mm a = some u ∧ H a = some u ∧ RepO K F ρ (fun _ => some u) a so ∧ F a = none ∧ P a = none ∧
      ((∀ x, u' ≠ .own x) → (∀ M', M' a = some u' → RepO K F ρ M' a so') → HRel K F P (upd Mm a u') ρ (g.put k so') (upd H a u')) := by
  obtain ⟨a, e1, r⟩ := h.st k so e
  obtain ⟨u, hu, nu⟩ := id r.there
  have nF : F a = none := by
    cases e : F a with
    | none => rfl
    | some v => rw [(h.fp a v e).2] at hu; cases hu
  have nP : P a = none := by
    cases e : P a with
    | none => rfl
    | some v => rw [h.pm a v e] at hu; cases hu
  have ne : ∀ {G : Hp} {b : Addr} {v : HO}, G a = none → G b = some v → b ≠ a := fun {G b v} gn e z => by subst z; rw [gn] at e; cases e
  refine ⟨a, u, e1, hu, h.mh _ _ hu, r.monoP (Leq.refl _) (Rle.refl _) pl fun w z => by rw [hu] at z; exact z, nF, nP, fun nu' hn => ⟨fun b v e => ?_, fun b v e => ?_, fun b v e => ?_, fun b v e => ?_, fun b v e => ?_, fun j o x => ?_, h.inj, h.nx, fun j c x => ?_⟩⟩
  · have hb := ne nF e
    have q := h.fh b v e
    split
    · rename_i hd
      rw [if_pos hd] at q
      rcases q with q | ⟨o, q⟩
      · exact .inl (by rw [upd_ne hb]; exact q)
      · exact .inr ⟨o, by rw [upd_ne hb]; exact q⟩
    · rename_i hd
      rw [if_neg hd] at q
      rw [upd_ne hb]; exact q
  · rw [upd_ne (ne nP e)]; exact h.ph b v e
  · by_cases hb : b = a
    · subst hb; rw [upd_same] at e ⊢; exact e
    · rw [upd_ne hb] at e ⊢; exact h.mh b v e
  · have hb := ne nF e
    obtain ⟨q1, q2⟩ := h.fp b v e
    exact ⟨q1, by rw [upd_ne hb]; exact q2⟩
  · rw [upd_ne (ne nP e)]; exact h.pm b v e
  · by_cases hj : j = k
    · subst hj
      have x' : so' = o := Option.some.inj (show some so' = some o by rw [← x]; exact (if_pos rfl).symm)
      subst x'
      exact ⟨a, e1, hn _ upd_same⟩
    · have x' : g.S j = some o := by rw [← x]; exact (if_neg hj).symm
      obtain ⟨c, y1, y2⟩ := h.st j o x'
      have hc : c ≠ a := fun z => hj (h.inj j k a (by rw [← z]; exact y1) e1)
      refine ⟨c, y1, y2.mono (Leq.refl _) (Rle.refl _) fun d w hd z => ?_⟩
      have : d ≠ a := by
        rcases hd with rfl | rfl
        · exact hc
        · intro y; subst y; rw [hu] at z; cases z; exact nu _ rfl
      rw [upd_ne this]; exact z
  · obtain ⟨w, y1, y2⟩ := h.rh j c x
    by_cases hc : c = a
    · subst hc; exact ⟨u', upd_same, nu'⟩
    · exact ⟨w, by rw [upd_ne hc]; exact y1, y2⟩
theorem BRel.put {k : Nat} {so' : SO} {u' : HO} (B : BRel K F P0 Mm ρ b σ H) (e : b.g.S k = some so) (pl : so.plain = true) (pl' : so'.plain = true) :
    ∃ a u, ρ k = some a ∧ Mm a = some u ∧ H a = some u ∧ RepO K F ρ (fun _ => some u) a so ∧ F a = none ∧
      ((∀ x, u' ≠ .own x) → (∀ M', M' a = some u' → RepO K F ρ M' a so') → BRel K F P0 (upd Mm a u') ρ { b with g := b.g.put k so' } σ (upd H a u')) := by
  obtain ⟨P, q, B⟩ := B
  obtain ⟨a, u, e1, e2, e3, e4, e5, e6, h⟩ := B.h.put (so' := so') (u' := u') e pl pl'
  exact ⟨a, u, e1, e2, e3, e4, e5, fun n1 n2 => ⟨P, q, h n1 n2, B.pp, B.len, B.qi, B.sl⟩⟩
theorem BRel.frozen (B : BRel K F P0 Mm ρ b σ H) (n : H p = none) (u : HO) : BRel K (upd F p u) P0 Mm ρ b σ (upd H p u) ∧ Leq F (upd F p u) := by
  obtain ⟨P, q, B⟩ := B
  have l := leq_upd (u := u) (B.h.fnone n)
  exact ⟨⟨P, q, B.h.frozen n, B.pp, B.len, B.qi, fun i s e => (B.sl i s e).mono l (Rle.refl _) fun a ea => ⟨ea, fun _ z => z⟩⟩, l⟩
end
end L2.VI
/-! VI2: expressions. -/
namespace L2.VI
open PySem PySem.Spec PyProof.Rows He

/-! ### names, constants -/
def getV (i : Nat) : M D := fun b => match b.t[i]? with
  | some (some (.val d)) => .ok d b
  | some (some (.own so)) => match so.frozen with
    | some d => .ok d { b with t := b.t.set i (some (.val d)) }
    | none => .fail
  | _ => .fail
section
variable {X : Cx} {W : WX} {pos : Pos}
theorem se_var {i : Nat} {x : Str} (h : PE X (.Name x pos) (tVar i)) : SE X W (.Name x pos) (getV i) := by
  refine SE.of h fun σ H F P0 Mm ρ b Q B q => ?_
  unfold getV at q
  split at q
  · rename_i d e
    obtain ⟨P, qq, BB⟩ := id B
    obtain ⟨v, e1, r⟩ := BB.sl i _ e
    exact ⟨v, e1, q.now B r⟩
  · rename_i so e
    split at q
    · rename_i d hd
      obtain ⟨v, F', l, e1, B', r⟩ := B.thaw e hd
      exact ⟨v, e1, q v F' Mm ρ H l (Rle.refl _) B' r⟩
    · exact q.elim
  · exact q.elim
theorem sv (i : Nat) {x : Str} (hN : X.N[i]? = some x := by rfl) (hv : Vis X.env.scope x := by first | exact Or.inl rfl | exact Or.inr (Or.inl rfl) | exact Or.inr (Or.inr rfl)) (hd : (x == ("__debug__" : Str)) = false := by decide)
    (hcd : (x == ("__classdict__" : Str)) = false := by decide) : SE X W (.Name x pos) (getV i) := se_var (pe_var hN hv hd hcd)
theorem se_int {i j} : SE X W (.Constant (.int i) j pos) (M.ret (.int i)) := SE.of pe_int fun σ H F P0 Mm ρ b Q B q => q.now B (.int i)
theorem se_bl {i j} : SE X W (.Constant (.bool i) j pos) (M.ret (.bl i)) := SE.of pe_bl fun σ H F P0 Mm ρ b Q B q => q.now B (.bl i)
theorem se_non {j} : SE X W (.Constant .none j pos) (M.ret .non) := SE.of pe_non fun σ H F P0 Mm ρ b Q B q => q.now B .non
theorem se_str {i j} : SE X W (.Constant (.str i) j pos) (M.ret (.str i)) := SE.of pe_str fun σ H F P0 Mm ρ b Q B q => q.now B (.str i)
/-- a module's number or text -/
theorem se_gint {x : Str} {i : Int} (hm : ∃ t, X.mg x = some (.int i t)) (hg : Gl X x := by rfl) (hd : (x == ("__debug__" : Str)) = false := by decide) : SE X W (.Name x pos) (M.ret (.int i)) := by
  obtain ⟨t, hm⟩ := hm
  exact SE.of (pe_glob (v := .int i) hg hm ⟨t, rfl⟩ hd) fun σ H F P0 Mm ρ b Q B q => q.now B (.int i)
theorem se_gstr {x z : Str} (hm : ∃ t, X.mg x = some (.str z t)) (hg : Gl X x := by rfl) (hd : (x == ("__debug__" : Str)) = false := by decide) : SE X W (.Name x pos) (M.ret (.str z)) := by
  obtain ⟨t, hm⟩ := hm
  exact SE.of (pe_glob (v := .str z) hg hm ⟨t, rfl⟩ hd) fun σ H F P0 Mm ρ b Q B q => q.now B (.str z)
/-- a function or class of the module, as a value -/
theorem se_glo {x : Str} (hm : X.mg x = some (.ref (ga X.K x))) (hg : Gl X x := by rfl) (hd : (x == ("__debug__" : Str)) = false := by decide) : SE X W (.Name x pos) (M.ret (.glo x)) :=
  SE.of (pe_glob (v := .ref (ga X.K x)) hg hm rfl hd) fun σ H F P0 Mm ρ b Q B q => q.now B (.glo x)
/-- a built-in type, as a value -/
theorem se_bty {x : Str} {n : String} (hm : X.mg x = none) (hv : bootBuiltins x = some (.type n)) (hg : Gl X x := by rfl) (hn : x ≠ "__name__" := by decide) (hd : (x == ("__debug__" : Str)) = false := by decide) : SE X W (.Name x pos) (M.ret (.ty n)) :=
  SE.of (pe_bltn (v := .ty n) hg hm hv rfl hn hd) fun σ H F P0 Mm ρ b Q B q => q.now B (.ty n)
end

/-! ### operators -/
def bin2 (f : D → D → M D) (a b : M D) : M D := M.bind a fun x => M.bind b fun y => f x y
/-- g on values is f on data -/
def OpV (X : Cx) (W : WX) (g : Value → Value → Sem Value) (f : D → D → M D) : Prop := ∀ (x y : V) (a c : D) (σ : St) (H F : Hp) (P0 : PX (fcOf X)) (Mm : Hp) (ρ : Rho) (b : BSt) (Q : VK), BRel X.K F P0 Mm ρ b σ H → Rep X.K F ρ x a → Rep X.K F ρ y c →
  Post (Rep X.K) X.K W P0 F ρ σ Q (f a c b) → ∃ r : R2, OpR X g r ∧ r x y H Q
theorem OpR.any {X : Cx} {g : Value → Value → Sem Value} : OpR X g (fun x y H Q => ∃ r, OpR X g r ∧ r x y H Q) := fun pins s σ H x y v u Q I rx ry ⟨r, hr, q⟩ => hr pins s σ H x y v u Q I rx ry q
section
variable {X : Cx} {W : WX} {pos : Pos} {a b : Expr} {ma mb : M D}
theorem tE_2 {K : PySem.W.Frag} {f : D → D → M D} {σ : St} {H F : Hp} {fc : FrC} {P0 : PX fc} {Mm : Hp} {ρ : Rho} {bs : BSt} {Q : VK} {R : V → V → Hp → Prop} (B : BRel K F P0 Mm ρ bs σ H) (h : Post (Rep K) K W P0 F ρ σ Q (bin2 f ma mb bs))
    (hk : ∀ x y d e F1 M1 r1 b1 H1, BRel K F1 P0 M1 r1 b1 σ H1 → Rep K F1 r1 x d → Rep K F1 r1 y e → Post (Rep K) K W P0 F1 r1 σ Q (f d e b1) → R x y H1) : tE (fc := fc) K W ma σ H fun x H1 => tE (fc := fc) K W mb σ H1 fun y H2 => R x y H2 :=
  tM_then B h fun x d F1 M1 r1 b1 H1 l1 e1 B1 q1 h1 => tM_then B1 h1 fun y e F2 M2 r2 b2 H2 l2 e2 B2 q2 h2 => hk x y d e F2 M2 r2 b2 H2 B2 (q1.mono l2 e2) q2 h2
theorem se_bin {op : Operator} {f : D → D → M D} (hf : OpV X W (binaryOp op) f) (ha : SE X W a ma) (hb : SE X W b mb) : SE X W (.BinOp a op b pos) (bin2 f ma mb) :=
  SE.of (pe_op OpR.any ha hb) fun σ H F P0 Mm ρ bs Q B q => tE_2 B q fun x y d e F1 M1 r1 b1 H1 B1 qx qy h1 => hf x y d e σ H1 F1 P0 M1 r1 b1 Q B1 qx qy h1
theorem se_cmp {op : CmpOp} {f : D → D → M D} (hf : OpV X W (compareOp op) f) (ha : SE X W a ma) (hb : SE X W b mb) (hm : behindInMarks op b = false) : SE X W (.Compare a [op] [b] pos) (bin2 f ma mb) :=
  SE.of (pe_cmpR OpR.any ha hb hm) fun σ H F P0 Mm ρ bs Q B q => tE_2 B q fun x y d e F1 M1 r1 b1 H1 B1 qx qy h1 => hf x y d e σ H1 F1 P0 M1 r1 b1 Q B1 qx qy h1
/-- a value that is True or False, as a test -/
def isB (m : M D) : M Bool := M.bind m fun d => match d with
  | .bl c => M.ret c
  | _ => M.fail
theorem tB_of {K : PySem.W.Frag} {t : TE} {m : M D} {σ : St} {H F : Hp} {fc : FrC} {P0 : PX fc} {Mm : Hp} {ρ : Rho} {bs : BSt} {Q : Bool → Hp → Prop} (B : BRel K F P0 Mm ρ bs σ H) (h : Post (fun _ _ x a => x = a) K W P0 F ρ σ Q (isB m bs))
    (ht : ∀ Q, Post (Rep K) K W P0 F ρ σ Q (m bs) → t σ H Q) : t σ H fun x H1 => ∃ c, x = .bl c ∧ Q c H1 := by
  refine ht _ ?_
  unfold isB M.bind at h
  cases e : m bs with
  | ok d b' =>
    rw [e] at h
    intro x F' M' ρ' H' l r B' q
    cases q with
    | bl c => exact ⟨c, rfl, h c F' M' ρ' H' l r B' rfl⟩
    | _ => exact h.elim
  | exc x b' => rw [e] at h; exact h
  | fail => rw [e] at h; exact h.elim
theorem sb_cmp {op : CmpOp} {f : D → D → M D} (hf : OpV X W (compareOp op) f) (ha : SE X W a ma) (hb : SE X W b mb) (hm : behindInMarks op b = false) : SB X W (.Compare a [op] [b] pos) (isB (bin2 f ma mb)) :=
  SB.of (pt_cmpR OpR.any ha hb hm) fun σ H F P0 Mm ρ bs Q B q => tB_of (t := tOp _ _ _) B q fun Q' h => tE_2 B h fun x y d e F1 M1 r1 b1 H1 B1 qx qy h1 => hf x y d e σ H1 F1 P0 M1 r1 b1 Q' B1 qx qy h1
theorem sb_val {e : Expr} {m : M D} (h : SE X W e m) (he : ∀ whole, isTrue e X.env whole = (do let v ← whole; standAt e.pos; holding [v] (truthy v)) := by intro _; rfl) : SB X W e (isB m) :=
  SB.of (pt_val h he) fun σ H F P0 Mm ρ bs Q B q => tB_of (t := tE (fc := fcOf X) X.K W m) B q fun Q' h => tM_of B h
/-! ints, texts, lists, tuples -/
def addD : D → D → M D
  | .int i, .int j => M.ret (.int (i + j))
  | .str x, .str y => guardM (x.length + y.length ≤ sizeLine) (M.ret (.str (x ++ y)))
  | .lst xs, .lst ys => guardM (xs.length + ys.length ≤ sizeLine) (M.ret (.lst (xs ++ ys)))
  | .tup xs, .tup ys => guardM (xs.length + ys.length ≤ sizeLine ∧ xs ≠ []) (M.ret (.tup (xs ++ ys)))
  | _, _ => M.fail
theorem Rep.sqT {K : PySem.W.Frag} {F P : Hp} {fc : FrC} {P0 : PX fc} {Mm H : Hp} {ρ : Rho} {b : BSt} {σ : St} {a : Addr} {vs : List V} (B : BRel K F P0 Mm ρ b σ H) (h : F a = some (.tup vs) ∨ SqT K (fun _ => none) a vs) : SqT K H a vs := by
  rcases h with h | h
  · obtain ⟨P, q, B⟩ := B
    have q := B.h.fh a _ h
    rw [if_neg (show ¬ (isDict (.tup vs) = true) from Bool.false_ne_true)] at q
    exact .inl (.inl q)
  · rcases h with (h | ⟨o, h⟩) | h
    · cases h
    · cases h
    · exact .inr h
theorem BRel.lstAt {K : PySem.W.Frag} {F : Hp} {fc : FrC} {P0 : PX fc} {Mm H : Hp} {ρ : Rho} {b : BSt} {σ : St} {a : Addr} {vs : List V} (B : BRel K F P0 Mm ρ b σ H) (h : F a = some (.lst vs)) : H a = some (.lst vs) := by
  obtain ⟨P, q, B⟩ := B
  have q := B.h.fh a _ h
  rwa [if_neg (show ¬ (isDict (.lst vs) = true) from Bool.false_ne_true)] at q
theorem BRel.dicAt {K : PySem.W.Frag} {F : Hp} {fc : FrC} {P0 : PX fc} {Mm H : Hp} {ρ : Rho} {b : BSt} {σ : St} {a : Addr} {vs : List (Key × V)} (B : BRel K F P0 Mm ρ b σ H) (h : F a = some (.dK vs)) : Rd H a (.dK vs) := by
  obtain ⟨P, q, B⟩ := B
  have q := B.h.fh a _ h
  rwa [if_pos (by rfl)] at q
/-- a new frozen value ends a rule -/
theorem Post.new {K : PySem.W.Frag} {F : Hp} {fc : FrC} {P0 : PX fc} {Mm H : Hp} {ρ : Rho} {b : BSt} {σ : St} {Q : VK} {d : D} {p : Addr} {u : HO} (h : Post (Rep K) K W P0 F ρ σ Q (.ok d b)) (B : BRel K F P0 Mm ρ b σ H) (n : H p = none)
    (r : ∀ F', Leq F F' → F' p = some u → Rep K F' ρ (.ref p) d) : Q (.ref p) (upd H p u) := by
  obtain ⟨B', l⟩ := B.frozen n u
  exact h (.ref p) _ Mm ρ _ l (Rle.refl _) B' (r _ l upd_same)
theorem ov_add : OpV X W (binaryOp .Add) addD := by
  intro x y a c σ H F P0 Mm ρ b Q B rx ry h
  cases rx with
  | int i => cases ry with
    | int j => exact ⟨_, op_add, i, j, rfl, rfl, h.now B (.int _)⟩
    | _ => exact h.elim
  | str i => cases ry with
    | str j =>
      obtain ⟨hl, h⟩ := Post.guard h
      exact ⟨_, op_add_str, i, j, rfl, rfl, hl, h.now B (.str _)⟩
    | _ => exact h.elim
  | lst h1 r1 => cases ry with
    | lst h2 r2 =>
      obtain ⟨hl, h⟩ := Post.guard h
      · refine ⟨_, op_cat, _, _, _, _, rfl, rfl, B.lstAt h1, B.lstAt h2, by rw [r1.length, r2.length]; exact hl, fun p hp => h.new B hp fun F' l e => .lst e ((r1.mono l (Rle.refl _)).append (r2.mono l (Rle.refl _)))⟩
    | _ => exact h.elim
  | tup h1 r1 => cases ry with
    | tup h2 r2 =>
      obtain ⟨hl, h⟩ := Post.guard h
      · obtain ⟨hl, hne⟩ := hl
        refine ⟨_, op_catT, _, _, _, _, rfl, rfl, Rep.sqT (P := fun _ => none) B h1, Rep.sqT (P := fun _ => none) B h2, fun z => hne ?_, by rw [r1.length, r2.length]; exact hl, fun e => ?_, fun _ p hp => h.new B hp fun F' l e => .tup (.inl e) ((r1.mono l (Rle.refl _)).append (r2.mono l (Rle.refl _)))⟩
        · subst z; cases r1; rfl
        · subst e
          cases r2
          exact h.now B (by rw [List.append_nil]; exact .tup h1 r1)
    | _ => exact h.elim
  | _ => exact h.elim
def subD : D → D → M D
  | .int i, .int j => M.ret (.int (i - j))
  | _, _ => M.fail
theorem ov_sub : OpV X W (binaryOp .Sub) subD := by
  intro x y a c σ H F P0 Mm ρ b Q B rx ry h
  cases rx with
  | int i => cases ry with
    | int j => exact ⟨_, op_sub, i, j, rfl, rfl, h.now B (.int _)⟩
    | _ => exact h.elim
  | _ => exact h.elim
def small64 (i : Int) : Prop := -(2 ^ 64) < i ∧ i < 2 ^ 64
instance (i : Int) : Decidable (small64 i) := by unfold small64; infer_instance
def mulD : D → D → M D
  | .int i, .int j => guardM (small64 i ∨ small64 j) (M.ret (.int (i * j)))
  | .lst xs, .int k => guardM (small64 k ∧ -(2 ^ 63) ≤ k ∧ k < 2 ^ 63 ∧ xs.length * k.toNat ≤ sizeLine) (M.ret (.lst (List.replicate k.toNat xs).flatten))
  | _, _ => M.fail
theorem RepAll.rep {K : PySem.W.Frag} {F : Hp} {ρ : Rho} {vs : List V} {ds : List D} (h : RepAll K F ρ vs ds) : ∀ k : Nat, RepAll K F ρ (List.replicate k vs).flatten (List.replicate k ds).flatten
  | 0 => .nil
  | k + 1 => by
    rw [List.replicate_succ, List.replicate_succ, List.flatten_cons, List.flatten_cons]
    exact h.append (RepAll.rep h k)
theorem ov_mul : OpV X W (binaryOp .Mult) mulD := by
  intro x y a c σ H F P0 Mm ρ b Q B rx ry h
  cases rx with
  | int i => cases ry with
    | int j =>
      obtain ⟨hl, h⟩ := Post.guard h
      exact ⟨_, op_mul, i, j, rfl, rfl, hl, h.now B (.int _)⟩
    | _ => exact h.elim
  | lst h1 r1 => cases ry with
    | int k =>
      obtain ⟨hl, h⟩ := Post.guard h
      · obtain ⟨_, l1, l2, l3⟩ := hl
        refine ⟨_, op_rep, _, k, _, rfl, rfl, B.lstAt h1, l1, l2, by rw [r1.length]; exact l3, fun p hp => h.new B hp fun F' l e => .lst e ((r1.mono l (Rle.refl _)).rep _)⟩
    | _ => exact h.elim
  | _ => exact h.elim
def fdivD : D → D → M D
  | .int i, .int j => guardM (0 < j ∧ j < 1073741824) (M.ret (.int (i / j)))
  | _, _ => M.fail
theorem ov_fdiv : OpV X W (binaryOp .FloorDiv) fdivD := by
  intro x y a c σ H F P0 Mm ρ b Q B rx ry h
  cases rx with
  | int i => cases ry with
    | int j =>
      obtain ⟨hl, h⟩ := Post.guard h
      exact ⟨_, op_fdiv, i, j, rfl, rfl, hl, h.now B (.int _)⟩
    | _ => exact h.elim
  | _ => exact h.elim
def modD : D → D → M D
  | .int i, .int j => guardM (0 < j) (M.ret (.int (i % j)))
  | _, _ => M.fail
theorem ov_mod : OpV X W (binaryOp .Mod) modD := by
  intro x y a c σ H F P0 Mm ρ b Q B rx ry h
  cases rx with
  | int i => cases ry with
    | int j =>
      obtain ⟨hl, h⟩ := Post.guard h
      exact ⟨_, op_mod, i, j, rfl, rfl, hl, h.now B (.int _)⟩
    | _ => exact h.elim
  | _ => exact h.elim
def powD : D → D → M D
  | .int i, .int j => guardM (0 ≤ j ∧ j ≤ 1000000 ∧ i.natAbs < 2 ^ 64) (M.ret (.int (i ^ j.toNat)))
  | _, _ => M.fail
theorem ov_pow : OpV X W (binaryOp .Pow) powD := by
  intro x y a c σ H F P0 Mm ρ b Q B rx ry h
  cases rx with
  | int i => cases ry with
    | int j =>
      obtain ⟨hl, h⟩ := Post.guard h
      exact ⟨_, op_pow, i, j, rfl, rfl, hl, h.now B (.int _)⟩
    | _ => exact h.elim
  | _ => exact h.elim
/-! comparisons -/
def ltD : D → D → M D
  | .int i, .int j => M.ret (.bl (decide (i < j)))
  | .str x, .str y => M.ret (.bl (decide (x.cps.toList < y.cps.toList)))
  | _, _ => M.fail
theorem ov_lt : OpV X W (compareOp .Lt) ltD := by
  intro x y a c σ H F P0 Mm ρ b Q B rx ry h
  cases rx with
  | int i => cases ry with
    | int j => exact ⟨_, op_lt, i, j, rfl, rfl, h.now B (.bl _)⟩
    | _ => exact h.elim
  | str i => cases ry with
    | str j => exact ⟨_, op_lt_str, i, j, rfl, rfl, h.now B (.bl _)⟩
    | _ => exact h.elim
  | _ => exact h.elim
def leD : D → D → M D
  | .int i, .int j => M.ret (.bl (decide (i ≤ j)))
  | _, _ => M.fail
theorem ov_le : OpV X W (compareOp .LtE) leD := by
  intro x y a c σ H F P0 Mm ρ b Q B rx ry h
  cases rx with
  | int i => cases ry with
    | int j => exact ⟨_, op_le, i, j, rfl, rfl, h.now B (.bl _)⟩
    | _ => exact h.elim
  | _ => exact h.elim
def gtD : D → D → M D
  | .int i, .int j => M.ret (.bl (decide (j < i)))
  | _, _ => M.fail
theorem ov_gt : OpV X W (compareOp .Gt) gtD := by
  intro x y a c σ H F P0 Mm ρ b Q B rx ry h
  cases rx with
  | int i => cases ry with
    | int j => exact ⟨_, op_gt, i, j, rfl, rfl, h.now B (.bl _)⟩
    | _ => exact h.elim
  | _ => exact h.elim
def geD : D → D → M D
  | .int i, .int j => M.ret (.bl (decide (j ≤ i)))
  | _, _ => M.fail
theorem ov_ge : OpV X W (compareOp .GtE) geD := by
  intro x y a c σ H F P0 Mm ρ b Q B rx ry h
  cases rx with
  | int i => cases ry with
    | int j => exact ⟨_, op_ge, i, j, rfl, rfl, h.now B (.bl _)⟩
    | _ => exact h.elim
  | _ => exact h.elim
def D.isNon : D → Bool
  | .non => true
  | _ => false
def isND (a : D) (c : D) : M D := match c with
  | .non => M.ret (.bl a.isNon)
  | _ => M.fail
def notND (a : D) (c : D) : M D := match c with
  | .non => M.ret (.bl (!a.isNon))
  | _ => M.fail
theorem Rep.isNon {K : PySem.W.Frag} {F : Hp} {ρ : Rho} {x : V} {a : D} (r : Rep K F ρ x a) : decide (x = .non) = a.isNon := by
  cases r <;> first | rfl | exact decide_eq_false fun z => nomatch z
theorem ov_isN : OpV X W (compareOp .Is) isND := by
  intro x y a c σ H F P0 Mm ρ b Q B rx ry h
  cases ry with
  | non => exact ⟨_, op_isN, rfl, by rw [rx.isNon]; exact h.now B (.bl _)⟩
  | _ => exact h.elim
theorem ov_notN : OpV X W (compareOp .IsNot) notND := by
  intro x y a c σ H F P0 Mm ρ b Q B rx ry h
  cases ry with
  | non => exact ⟨_, op_notN, rfl, by rw [rx.isNon]; exact h.now B (.bl _)⟩
  | _ => exact h.elim
/-! equality of data -/
mutual
def toPy : D → Option PyData
  | .non => some .none
  | .bl b => some (.bool b)
  | .int i => some (.int i)
  | .str x => some (.str x)
  | .tup xs => (toPyAll xs).map .tuple
  | .lst xs => (toPyAll xs).map .list
  | _ => none
def toPyAll : List D → Option (List PyData)
  | [] => some []
  | x :: xs => match toPy x, toPyAll xs with
    | some a, some as => some (a :: as)
    | _, _ => none
end
mutual
theorem Rep.dp {K : PySem.W.Frag} {F : Hp} {fc : FrC} {P0 : PX fc} {Mm H : Hp} {ρ : Rho} {b : BSt} {σ : St} (B : BRel K F P0 Mm ρ b σ H) : ∀ {x : V} {a : D} {e : PyData}, Rep K F ρ x a → toPy a = some e → Dp K H x e
  | _, _, _, .non, h => by unfold toPy at h; cases h; exact .non
  | _, _, _, .bl b, h => by unfold toPy at h; cases h; exact .bl b
  | _, _, _, .int i, h => by unfold toPy at h; cases h; exact .int i
  | _, _, _, .str i, h => by unfold toPy at h; cases h; exact .str i
  | _, _, _, .ty _, h => by simp [toPy] at h
  | _, _, _, .glo _, h => by simp [toPy] at h
  | _, _, _, .tup (ds := ds) h1 r, h => by
    unfold toPy at h
    cases e : toPyAll ds with
    | none => rw [e] at h; cases h
    | some es => rw [e] at h; cases h; exact .tup (Rep.sqT (P := fun _ => none) B h1) (RepAll.dp B r e)
  | _, _, _, .lst (ds := ds) h1 r, h => by
    unfold toPy at h
    cases e : toPyAll ds with
    | none => rw [e] at h; cases h
    | some es => rw [e] at h; cases h; exact .lst (SqL.of (B.lstAt h1)) (RepAll.dp B r e)
  | _, _, _, .dic _ _ _, h => by simp [toPy] at h
  | _, _, _, .ptr _, h => by simp [toPy] at h
  | _, _, _, .scr _, h => by simp [toPy] at h
  | _, _, _, .xob _ _ _ _, h => by simp [toPy] at h
  | _, _, _, .xob0 _, h => by simp [toPy] at h
  | _, _, _, .lam _ _ _ _, h => by simp [toPy] at h
theorem RepAll.dp {K : PySem.W.Frag} {F : Hp} {fc : FrC} {P0 : PX fc} {Mm H : Hp} {ρ : Rho} {b : BSt} {σ : St} (B : BRel K F P0 Mm ρ b σ H) : ∀ {x : List V} {a : List D} {e : List PyData}, RepAll K F ρ x a → toPyAll a = some e → DpAll K H x e
  | _, _, _, .nil, h => by unfold toPyAll at h; cases h; exact .nil
  | _, _, _, .cons (d := d) (ds := ds) r t, h => by
    unfold toPyAll at h
    cases e1 : toPy d with
    | none => rw [e1] at h; cases h
    | some a =>
      cases e2 : toPyAll ds with
      | none => rw [e1, e2] at h; cases h
      | some as => rw [e1, e2] at h; cases h; exact .cons (Rep.dp B r e1) (RepAll.dp B t e2)
end
def eqB (a c : D) : Option Bool := match a, c with
  | .int i, .int j => some (decide (i = j))
  | .str i, .str j => some (decide (i = j))
  | a, c => match toPy a, toPy c with
    | some d, some e => if SeqAt.shaped d = true ∧ SeqAt.shaped e = true then some (PyData.eqv d e) else none
    | _, _ => none
def optM {α : Type} : Option α → M α
  | some a => M.ret a
  | none => M.fail
def eqD (a c : D) : M D := M.bind (optM (eqB a c)) fun k => M.ret (.bl k)
def neD (a c : D) : M D := M.bind (optM (eqB a c)) fun k => M.ret (.bl (!k))
theorem eqB_dp {K : PySem.W.Frag} {F : Hp} {fc : FrC} {P0 : PX fc} {Mm H : Hp} {ρ : Rho} {b : BSt} {σ : St} {x y : V} {a c : D} {k : Bool} (B : BRel K F P0 Mm ρ b σ H) (rx : Rep K F ρ x a) (ry : Rep K F ρ y c) (h : eqB a c = some k) :
    (scal x y = true ∧ decide (x = y) = k) ∨ ∃ d e, Dp K H x d ∧ Dp K H y e ∧ SeqAt.shaped d = true ∧ SeqAt.shaped e = true ∧ PyData.eqv d e = k := by
  unfold eqB at h
  split at h
  · cases rx; cases ry; cases h; exact .inl ⟨rfl, decide_eq_decide.mpr ⟨fun z => V.int.inj z, fun z => by rw [z]⟩⟩
  · cases rx; cases ry; cases h; exact .inl ⟨rfl, decide_eq_decide.mpr ⟨fun z => V.str.inj z, fun z => by rw [z]⟩⟩
  · split at h
    · rename_i d e h1 h2
      split at h
      · rename_i hs
        cases h
        exact .inr ⟨d, e, rx.dp B h1, ry.dp B h2, hs.1, hs.2, rfl⟩
      · cases h
    · cases h
theorem ov_eq {k : Nat} (hr : Room k X.A) : OpV X W (compareOp .Eq) eqD := by
  intro x y a c σ H F P0 Mm ρ b Q B rx ry h
  unfold eqD optM M.bind at h
  cases e : eqB a c with
  | none => rw [e] at h; exact h.elim
  | some v =>
    rw [e] at h
    rcases eqB_dp B rx ry e with ⟨e1, e2⟩ | ⟨d, f, d1, d2, s1, s2, e2⟩
    · exact ⟨_, op_eq, e1, by rw [e2]; exact Post.now h B (.bl _)⟩
    · exact ⟨_, op_eqD hr.units, d, f, d1, d2, s1, s2, by rw [e2]; exact Post.now h B (.bl _)⟩
theorem ov_ne {k : Nat} (hr : Room k X.A) : OpV X W (compareOp .NotEq) neD := by
  intro x y a c σ H F P0 Mm ρ b Q B rx ry h
  unfold neD optM M.bind at h
  cases e : eqB a c with
  | none => rw [e] at h; exact h.elim
  | some v =>
    rw [e] at h
    rcases eqB_dp B rx ry e with ⟨e1, e2⟩ | ⟨d, f, d1, d2, s1, s2, e2⟩
    · exact ⟨_, op_ne, e1, by rw [e2]; exact Post.now h B (.bl _)⟩
    · exact ⟨_, op_neD hr.units, d, f, d1, d2, s1, s2, by rw [e2]; exact Post.now h B (.bl _)⟩
end
end L2.VI
/-! VI3: displays, tests, subscripts, attributes, calls. -/
namespace L2.VI
open PySem PySem.Spec PyProof.Rows He

/-! ### argument lists, displays -/
def consM (a : M D) (r : M (List D)) : M (List D) := M.bind a fun x => M.bind r fun xs => M.ret (x :: xs)
section
variable {X : Cx} {W : WX} {pos : Pos} {a b e : Expr} {es : List Expr} {ma mb : M D} {mas : M (List D)}
theorem sa_nil : SA X W [] (M.ret []) := SA.of pa_nil fun σ H F P0 Mm ρ bs Q B q => q.now B .nil
theorem sa_cons (ha : SE X W e ma) (hr : SA X W es mas) (hs : starEach (e :: es) X.env = (false, eval e X.env) :: starEach es X.env := by rfl) : SA X W (e :: es) (consM ma mas) :=
  SA.of (pa_cons ha hr hs) fun σ H F P0 Mm ρ bs Q B q => tM_then B q fun x d F1 M1 r1 b1 H1 l1 e1 B1 q1 h1 => tM_then B1 h1 fun xs ds F2 M2 r2 b2 H2 l2 e2 B2 q2 h2 => h2.now B2 (.cons (q1.mono l2 e2) q2)
def tupM (ms : M (List D)) : M D := M.bind ms fun ds => guardM (ds.length ≤ sizeLine) (M.ret (.tup ds))
def lstM (ms : M (List D)) : M D := M.bind ms fun ds => guardM (ds.length ≤ sizeLine) (M.ret (.lst ds))
def lstN (ms : M (List D)) : M SO := M.bind ms fun ds => guardM (ds.length ≤ sizeLine) (M.ret (.lst ds))
theorem se_tup {x1} (h : SA X W es mas) : SE X W (.Tuple es x1 pos) (tupM mas) :=
  SE.of (pe_tup h) fun σ H F P0 Mm ρ bs Q B q => tM_then B q fun xs ds F1 M1 r1 b1 H1 l1 e1 B1 q1 h1 => by
    obtain ⟨hl, h1⟩ := Post.guard h1
    exact ⟨by rw [q1.length]; exact hl, fun p hp => h1.new B1 hp fun F' l e => .tup (.inl e) (q1.mono l (Rle.refl _))⟩
theorem se_lst (h : SA X W es mas) : SE X W (.List es pos) (lstM mas) :=
  SE.of (pe_lst h) fun σ H F P0 Mm ρ bs Q B q => tM_then B q fun xs ds F1 M1 r1 b1 H1 l1 e1 B1 q1 h1 => by
    obtain ⟨hl, h1⟩ := Post.guard h1
    exact ⟨by rw [q1.length]; exact hl, fun p hp => h1.new B1 hp fun F' l e => .lst e (q1.mono l (Rle.refl _))⟩
theorem PostF.guard {K : PySem.W.Frag} {fc : FrC} {P0 : PX fc} {F : Hp} {ρ : Rho} {σ : St} {bs : BSt} {Q : VK} {c : Prop} [Decidable c] {m : M SO} (h : PostF K W P0 F ρ σ Q (guardM c m bs)) : c ∧ PostF K W P0 F ρ σ Q (m bs) := by
  unfold guardM at h
  split at h
  · rename_i hc; exact ⟨hc, h⟩
  · exact h.elim
/-- a fresh object ends a rule -/
theorem PostF.now {K : PySem.W.Frag} {F : Hp} {fc : FrC} {P0 : PX fc} {Mm H : Hp} {ρ : Rho} {bs : BSt} {σ : St} {Q : VK} {p : Addr} {u : HO} {so : SO} (h : PostF K W P0 F ρ σ Q (.ok so bs)) (B : BRel K F P0 Mm ρ bs σ H) (n : H p = none)
    (hso : ∀ P', P' p = some u → RepO K F ρ P' p so) (pl : so.plain = true) : Q (.ref p) (upd H p u) :=
  h p F Mm ρ _ (Leq.refl _) (Rle.refl _) (B.fresh n hso pl)
theorem sn_lst (h : SA X W es mas) : SN X W (.List es pos) (lstN mas) :=
  SN.of (pe_lst h) fun σ H F P0 Mm ρ bs Q B q => tM_thenF B q fun xs ds F1 M1 r1 b1 H1 l1 e1 B1 q1 h1 => by
    obtain ⟨hl, h1⟩ := PostF.guard h1
    exact ⟨by rw [q1.length]; exact hl, fun p hp => h1.now B1 hp (fun P' e => ⟨_, e, q1⟩) rfl⟩
/-- a new object, frozen at once -/
def frzM (m : M SO) : M D := M.bind m fun so => optM so.frozen
theorem se_frz (h : SN X W e m) : SE X W e (frzM m) := ⟨fun pins s σ H Q I ⟨F, P0, Mm, ρ, bs, B, q⟩ => h.run pins s σ H Q I ⟨F, P0, Mm, ρ, bs, B, by
  unfold frzM M.bind at q
  cases z : m bs with
  | ok so b' =>
    rw [z] at q
    intro p F' M' ρ' H' l r fr
    obtain ⟨F2, u, l2, e2, B2, rr⟩ := fr.freeze
    have q2 : Post (Rep X.K) X.K W P0 F ρ σ Q (optM so.frozen b') := q
    cases zz : so.frozen with
    | none => rw [zz] at q2; exact q2.elim
    | some d => rw [zz] at q2; exact q2 _ _ _ _ _ (l.trans l2) r B2 (rr.rep zz)
  | exc x b' => rw [z] at q; exact q
  | fail => rw [z] at q; exact q.elim⟩⟩
/-- .. put into the store -/
def newM (m : M SO) : M D := M.bind m fun so => fun b => .ok (.ptr b.g.nx) { b with g := b.g.new so }
theorem se_new (h : SN X W e m) : SE X W e (newM m) := ⟨fun pins s σ H Q I ⟨F, P0, Mm, ρ, bs, B, q⟩ => h.run pins s σ H Q I ⟨F, P0, Mm, ρ, bs, B, by
  unfold newM M.bind at q
  cases z : m bs with
  | ok so b' =>
    rw [z] at q
    intro p F' M' ρ' H' l r fr
    obtain ⟨M2, r2, rl, B2, rr⟩ := fr.store
    exact q _ _ _ _ _ l (r.trans rl) B2 rr
  | exc x b' => rw [z] at q; exact q
  | fail => rw [z] at q; exact q.elim⟩⟩

/-! ### tests -/
def andB (a b : M Bool) : M Bool := M.bind a fun c => if c = true then b else M.ret false
def orB (a b : M Bool) : M Bool := M.bind a fun c => if c = true then M.ret true else b
def notB (a : M Bool) : M Bool := M.bind a fun c => M.ret (!c)
def SW (X : Cx) (W : WX) (e : Expr) (m : M Bool) : Prop := PW X e (tT (fc := fcOf X) X.K W m)
theorem SW.of {X : Cx} {W : WX} {e : Expr} {m : M Bool} {t : TT} (h : PW X e t)
    (ht : ∀ σ H F (P0 : PX (fcOf X)) Mm ρ b Q, BRel X.K F P0 Mm ρ b σ H → Post (fun _ _ x a => x = a) X.K W P0 F ρ σ Q (m b) → t σ H Q) : SW X W e m := ⟨fun wh pins s σ H Q I ⟨F, P0, Mm, ρ, b, B, q⟩ => h.run wh pins s σ H Q I (ht σ H F P0 Mm ρ b Q B q)⟩
theorem sb_w {e : Expr} {m : M Bool} (h : SW X W e m) : SB X W e m := PW.pt h
variable {ta tb : M Bool} {rest : List Expr} {c : Expr}
theorem sw_and1 (ha : SB X W a ta) : SW X W (.BoolOp .And [a] pos) ta := pw_and1 ha
theorem sw_or1 (ha : SB X W a ta) : SW X W (.BoolOp .Or [a] pos) ta := pw_or1 ha
theorem tT_if {γ δ : Type} {rel' : Hp → Rho → δ → γ → Prop} {K : PySem.W.Frag} {σ : St} {H F : Hp} {fc : FrC} {P0 : PX fc} {Mm : Hp} {ρ : Rho} {bs : BSt} {Q' : δ → Hp → Prop} {m : M Bool} {k1 k2 : M γ} {R1 R2 : Hp → Prop} (B : BRel K F P0 Mm ρ bs σ H)
    (h : Post rel' K W P0 F ρ σ Q' (M.bind m (fun c => if c = true then k1 else k2) bs))
    (h1 : ∀ F1 M1 r1 b1 H1, Leq F F1 → Rle ρ r1 → BRel K F1 P0 M1 r1 b1 σ H1 → Post rel' K W P0 F1 r1 σ Q' (k1 b1) → R1 H1)
    (h2 : ∀ F1 M1 r1 b1 H1, Leq F F1 → Rle ρ r1 → BRel K F1 P0 M1 r1 b1 σ H1 → Post rel' K W P0 F1 r1 σ Q' (k2 b1) → R2 H1) : tT (fc := fc) K W m σ H fun c H1 => if c = true then R1 H1 else R2 H1 :=
  tM_then B h fun x c F1 M1 r1 b1 H1 l1 e1 B1 q1 hh => by
    subst q1
    cases x with
    | true => exact (if_pos rfl).mpr (h1 F1 M1 r1 b1 H1 l1 e1 B1 hh)
    | false => exact (if_neg Bool.false_ne_true).mpr (h2 F1 M1 r1 b1 H1 l1 e1 B1 hh)
theorem sw_and (ha : SB X W a ta) (hb : SW X W (.BoolOp .And (b :: rest) pos) tb) : SW X W (.BoolOp .And (a :: b :: rest) pos) (andB ta tb) :=
  SW.of (pw_and ha hb) fun σ H F P0 Mm ρ bs Q B q => tT_if B q (fun F1 M1 r1 b1 H1 l e B1 h => tM_of B1 h) fun F1 M1 r1 b1 H1 l e B1 h => Post.now h B1 rfl
theorem sw_or (ha : SB X W a ta) (hb : SW X W (.BoolOp .Or (b :: rest) pos) tb) : SW X W (.BoolOp .Or (a :: b :: rest) pos) (orB ta tb) :=
  SW.of (pw_or ha hb) fun σ H F P0 Mm ρ bs Q B q => tT_if B q (fun F1 M1 r1 b1 H1 l e B1 h => Post.now h B1 rfl) fun F1 M1 r1 b1 H1 l e B1 h => tM_of B1 h
theorem sb_not (ha : SB X W a ta) : SB X W (.UnaryOp .Not a pos) (notB ta) :=
  SB.of (pt_not ha) fun σ H F P0 Mm ρ bs Q B q => tM_then B q fun x c F1 M1 r1 b1 H1 l1 e1 B1 q1 hh => by subst q1; exact Post.now hh B1 rfl
def ifM {α : Type} (t : M Bool) (a b : M α) : M α := M.bind t fun c => if c = true then a else b
theorem se_if (hc : SB X W c ta) (ha : SE X W a ma) (hb : SE X W b mb) : SE X W (.IfExp c a b pos) (ifM ta ma mb) :=
  SE.of (pe_ifExp hc ha hb) fun σ H F P0 Mm ρ bs Q B q => tT_if B q (fun F1 M1 r1 b1 H1 l e B1 h => tM_of B1 h) fun F1 M1 r1 b1 H1 l e B1 h => tM_of B1 h
/-! as values -/
def andD (a b : M D) : M D := M.bind a fun x => match x with
  | .bl true => b
  | .bl false => M.ret (.bl false)
  | _ => M.fail
def orD (a b : M D) : M D := M.bind a fun x => match x with
  | .bl true => M.ret (.bl true)
  | .bl false => b
  | _ => M.fail
def notD (a : M D) : M D := M.bind a fun x => match x with
  | .bl c => M.ret (.bl (!c))
  | _ => M.fail
theorem se_one {op} (h : SE X W a ma) : SE X W (.BoolOp op [a] pos) ma := pe_one h
theorem se_and (ha : SE X W a ma) (hb : SE X W (.BoolOp .And (b :: rest) pos) mb) : SE X W (.BoolOp .And (a :: b :: rest) pos) (andD ma mb) :=
  SE.of (pe_and ha hb) fun σ H F P0 Mm ρ bs Q B q => tM_then B q fun x d F1 M1 r1 b1 H1 l1 e1 B1 q1 hh => by
    cases q1 with
    | bl c => cases c with
      | true => exact ⟨true, rfl, (if_pos rfl).mpr (tM_of B1 hh)⟩
      | false => exact ⟨false, rfl, (if_neg Bool.false_ne_true).mpr (Post.now hh B1 (.bl false))⟩
    | _ => exact hh.elim
theorem se_or (ha : SE X W a ma) (hb : SE X W (.BoolOp .Or (b :: rest) pos) mb) : SE X W (.BoolOp .Or (a :: b :: rest) pos) (orD ma mb) :=
  SE.of (pe_or ha hb) fun σ H F P0 Mm ρ bs Q B q => tM_then B q fun x d F1 M1 r1 b1 H1 l1 e1 B1 q1 hh => by
    cases q1 with
    | bl c => cases c with
      | true => exact ⟨true, rfl, (if_pos rfl).mpr (Post.now hh B1 (.bl true))⟩
      | false => exact ⟨false, rfl, (if_neg Bool.false_ne_true).mpr (tM_of B1 hh)⟩
    | _ => exact hh.elim
theorem se_not (ha : SE X W a ma) : SE X W (.UnaryOp .Not a pos) (notD ma) :=
  SE.of (pe_not ha) fun σ H F P0 Mm ρ bs Q B q => tM_then B q fun x d F1 M1 r1 b1 H1 l1 e1 B1 q1 hh => by
    cases q1 with
    | bl c => exact ⟨c, rfl, Post.now hh B1 (.bl _)⟩
    | _ => exact hh.elim
/-! a < b < c -/
def chainD (f g : D → D → M D) (a b c : M D) : M D := M.bind a fun x => M.bind b fun y => M.bind (f x y) fun k => match k with
  | .bl true => M.bind c fun z => g y z
  | .bl false => M.ret (.bl false)
  | _ => M.fail
/-- what an operator's rule gives is a bool, at the heap as it was -/
def OpB (X : Cx) (W : WX) (g : Value → Value → Sem Value) (f : D → D → M D) : Prop := ∀ (x y : V) (a c : D) (σ : St) (H F : Hp) (P0 : PX (fcOf X)) (Mm : Hp) (ρ : Rho) (b : BSt) (Q : VK), BRel X.K F P0 Mm ρ b σ H → Rep X.K F ρ x a → Rep X.K F ρ y c →
  ∀ k : D → M D, Post (Rep X.K) X.K W P0 F ρ σ Q (M.bind (f a c) k b) → ∃ (r : R2) (v : Bool), OpR X g r ∧ f a c b = .ok (.bl v) b ∧ (∀ Q' : VK, Q' (.bl v) H → r x y H Q')
theorem ob_lt : OpB X W (compareOp .Lt) ltD := by
  intro x y a c σ H F P0 Mm ρ b Q B rx ry k h
  cases rx with
  | int i => cases ry with
    | int j => exact ⟨_, _, op_lt, rfl, fun Q' q => ⟨i, j, rfl, rfl, q⟩⟩
    | _ => exact h.elim
  | str i => cases ry with
    | str j => exact ⟨_, _, op_lt_str, rfl, fun Q' q => ⟨i, j, rfl, rfl, q⟩⟩
    | _ => exact h.elim
  | _ => exact h.elim
theorem ob_le : OpB X W (compareOp .LtE) leD := by
  intro x y a c σ H F P0 Mm ρ b Q B rx ry k h
  cases rx with
  | int i => cases ry with
    | int j => exact ⟨_, _, op_le, rfl, fun Q' q => ⟨i, j, rfl, rfl, q⟩⟩
    | _ => exact h.elim
  | _ => exact h.elim
theorem chain_post {op op' : CmpOp} {f g : D → D → M D} {mc : M D} {σ : St} {H F : Hp} {P0 : PX (fcOf X)} {Mm : Hp} {ρ : Rho} {bs : BSt} {Q : VK} {ma mb : M D} (hf : OpB X W (compareOp op) f) (hg : OpV X W (compareOp op') g) (B : BRel X.K F P0 Mm ρ bs σ H)
    (q : Post (Rep X.K) X.K W P0 F ρ σ Q (chainD f g ma mb mc bs)) : tChain (fun x y H Q => ∃ r, OpR X (compareOp op) r ∧ r x y H Q) (fun x y H Q => ∃ r, OpR X (compareOp op') r ∧ r x y H Q) (tE (fc := fcOf X) X.K W ma) (tE (fc := fcOf X) X.K W mb) (tE (fc := fcOf X) X.K W mc) σ H Q := by
  refine tM_then B q fun x d F1 M1 r1 b1 H1 l1 e1 B1 q1 h1 => tM_then B1 h1 fun y e F2 M2 r2 b2 H2 l2 e2 B2 q2 h2 => ?_
  obtain ⟨r, v, hr, ev, hk⟩ := hf x y d e σ H2 F2 P0 M2 r2 b2 Q B2 (q1.mono l2 e2) q2 _ h2
  refine ⟨r, hr, hk _ ⟨v, rfl, ?_⟩⟩
  unfold M.bind at h2
  rw [ev] at h2
  cases v with
  | true => exact (if_pos rfl).mpr (tM_then B2 h2 fun z d3 F3 M3 r3 b3 H3 l3 e3 B3 q3 h3 => hg y z e d3 σ H3 F3 P0 M3 r3 b3 Q B3 (q2.mono l3 e3) q3 h3)
  | false => exact (if_neg Bool.false_ne_true).mpr (Post.now h2 B2 (.bl false))
theorem se_chain {op op' : CmpOp} {f g : D → D → M D} {mc : M D} (hf : OpB X W (compareOp op) f) (hg : OpV X W (compareOp op') g) (ha : SE X W a ma) (hb : SE X W b mb) (hc : SE X W c mc)
    (hm : lastMarks [op, op'] [b, c] = false := by with_unfolding_all rfl) : SE X W (.Compare a [op, op'] [b, c] pos) (chainD f g ma mb mc) :=
  SE.of (pe_chain OpR.any OpR.any ha hb hc hm) fun σ H F P0 Mm ρ bs Q B q => chain_post hf hg B q
theorem sb_chain {op op' : CmpOp} {f g : D → D → M D} {mc : M D} (hf : OpB X W (compareOp op) f) (hg : OpV X W (compareOp op') g) (ha : SE X W a ma) (hb : SE X W b mb) (hc : SE X W c mc)
    (hm : lastMarks [op, op'] [b, c] = false := by with_unfolding_all rfl) : SB X W (.Compare a [op, op'] [b, c] pos) (isB (chainD f g ma mb mc)) :=
  SB.of (pt_chain OpR.any OpR.any ha hb hc hm) fun σ H F P0 Mm ρ bs Q B q => tB_of (t := tChain _ _ _ _ _) B q fun Q' h => chain_post hf hg B h
end
end L2.VI
/-! VI4: subscripts, attributes, calls. -/
namespace L2.VI
open PySem PySem.Spec PyProof.Rows He

/-! ### subscripts -/
def dlook {κ : Type} [DecidableEq κ] (kvs : List (κ × D)) (k : κ) : Option D := (kvs.find? fun kv => decide (kv.1 = k)).map (·.2)
/-- the item of a sequence or dict -/
def ixO (so : SO) (i : D) : Option D := match so, i with
  | .lst xs, .int i => atI xs i
  | .dic kvs, .str x => dlook kvs (.inr x)
  | .dic kvs, .int j => dlook kvs (.inl j)
  | _, _ => none
def ixD (a i : D) : M D := fun b => match a with
  | .lst xs => optM (ixO (.lst xs) i) b
  | .tup xs => optM (ixO (.lst xs) i) b
  | .dic kvs => optM (ixO (.dic kvs) i) b
  | .str z => (match i with
    | .int i => if z.length ≤ sizeLine then optM ((atI z.cps.toList i).map fun c => D.str ⟨#[c]⟩) b else .fail
    | _ => .fail)
  | .ptr k => (match b.g.S k with
    | some so => optM (ixO so i) b
    | none => .fail)
  | _ => .fail
section
variable {X : Cx} {W : WX} {pos : Pos} {a b e : Expr} {es : List Expr} {ma mb : M D} {mas : M (List D)}
variable {K : PySem.W.Frag} {F : Hp} {fc : FrC} {P0 : PX fc} {Mm H : Hp} {ρ : Rho} {bs : BSt} {σ : St}
theorem RepAll.at {vs : List V} {ds : List D} {i : Int} {d : D} (r : RepAll K F ρ vs ds) (h : atI ds i = some d) : ∃ v, atI vs i = some v ∧ Rep K F ρ v d := by
  unfold atI at h ⊢
  rw [r.length]
  cases e : ixN ds.length i with
  | none => rw [e] at h; cases h
  | some j => rw [e] at h; exact r.get h
theorem kv_find {κ : Type} [DecidableEq κ] {k : κ} : ∀ {vs : List (κ × V)} {ds : List (κ × D)}, vs.map (·.1) = ds.map (·.1) → RepAll K F ρ (vs.map (·.2)) (ds.map (·.2)) →
    (∀ d, dlook ds k = some d → ∃ v, valV vs k = some v ∧ Rep K F ρ v d) ∧ (dlook ds k = none → valV vs k = none)
  | [], [], _, _ => ⟨fun d e => (by cases e), fun _ => rfl⟩
  | [], _ :: _, h, _ => by simp at h
  | _ :: _, [], h, _ => by simp at h
  | (k1, v) :: vs, (k2, d) :: ds, h, r => by
    simp only [List.map_cons, List.cons.injEq] at h
    obtain ⟨h1, h2⟩ := h
    subst h1
    cases r with
    | cons r rr =>
      obtain ⟨i1, i2⟩ := kv_find (k := k) h2 rr
      unfold dlook valV at *
      by_cases e : k1 = k
      · simp only [List.find?_cons, e, decide_true, Option.map_some]
        exact ⟨fun d' e' => ⟨v, rfl, by cases e'; exact r⟩, fun z => by cases z⟩
      · simp only [List.find?_cons, e, decide_false]
        exact ⟨i1, i2⟩
/-- o[i] as a rule by values -/
theorem ix_dict (hu : X.A.units + 1 < cLine) : IxR X (fun x y H Q => ∃ a v, x = .ref a ∧ DGet H a y (some v) ∧ Q v H) := by
  intro value slice pins s σ H x y v u Q I rx ry h hs
  obtain ⟨a, z, rfl, g, q⟩ := h
  obtain rfl : v = Value.ref a := rx
  have hT := dict_typeIs I g
  unfold subscriptTail
  refine wpAny_bind ?_
  rw [getitemInPython_of_ne hT.not_modules]
  refine wpAny_bind (wpAny_specialOf hT PySem.F.slot_dict_getitem.lookup ?_)
  have fin : wpAny (model X.prog X.w) X.A (subscripted slice false (.ref a) u) (fun r s₃ => wpAny (model X.prog X.w) X.A (letTemporaryGo value (.ref a) r >>= fun _ => pure r) (EP X pins σ Q) X.xe s₃) X.xe s := by
    rw [hs]
    exact wpAny_operating (wpAny_mono (d_getItem hu I g ry fun w' s' I' r' => (⟨z, H, I', r', q⟩ : EP X pins σ Q w' s')) (fun r s₃ h₃ => wpAny_bind (wpAny_letTemporaryGo (wpAny_pure h₃))) fun _ _ x => x)
  first
    | exact wpAny_pure (wpAny_bind fin)
    | exact wpAny_bind (wpAny_pure (wpAny_bind fin))
    | exact wpAny_bind fin
theorem IxR.any : IxR X (fun x y H Q => ∃ r, IxR X r ∧ r x y H Q) := fun value slice pins s σ H x y v u Q I rx ry ⟨r, hr, q⟩ hs => hr value slice pins s σ H x y v u Q I rx ry q hs
theorem DGet.kr {a : Addr} {kvs : List (Key × V)} {k : Key} (e : Rd H a (.dK kvs)) : DGet H a (kV k) (valV kvs k) := .inl ⟨kvs, k, e, rfl, rfl⟩
/-- the item, where the object's content is known at the heap -/
theorem ixO_ok (hu : X.A.units + 1 < cLine) {so : SO} {p : Addr} {i d : D} {y : V} {u : HO} {Q : VK} (r : RepO X.K F ρ (fun _ => some u) p so) (hp : Rd H p u) (ry : Rep X.K F ρ y i) (h : ixO so i = some d) (hq : ∀ v, Rep X.K F ρ v d → Q v H) :
    ∃ r, IxR X r ∧ r (.ref p) y H Q := by
  cases so with
  | lst xs =>
    obtain ⟨vs, e, r⟩ := r
    cases e
    cases ry with
    | int j =>
      obtain ⟨v, h1, h2⟩ := r.at (show atI xs j = some d from h)
      exact ⟨_, ix_list, p, vs, j, v, rfl, rfl, .inl hp, h1, hq v h2⟩
    | _ => cases h
  | dic kvs =>
    obtain ⟨vs, e, r1, r2⟩ := r
    cases e
    cases ry with
    | int j =>
      obtain ⟨v, h1, h2⟩ := (kv_find (k := Sum.inl j) r1 r2).1 d h
      exact ⟨_, ix_dict hu, p, v, rfl, by rw [← h1]; exact DGet.kr (k := Sum.inl j) hp, hq v h2⟩
    | str j =>
      obtain ⟨v, h1, h2⟩ := (kv_find (k := Sum.inr j) r1 r2).1 d h
      exact ⟨_, ix_dict hu, p, v, rfl, by rw [← h1]; exact DGet.kr (k := Sum.inr j) hp, hq v h2⟩
    | _ => cases h
  | dct kvs => cases ry <;> cases h
  | ins c fs => cases ry <;> cases h
  | tab x q => cases ry <;> cases h
theorem Post.opt {α β γ : Type} {rel : Hp → Rho → β → α → Prop} {Q : β → Hp → Prop} {o : Option α} (h : Post rel K W P0 F ρ σ Q (optM o bs)) : ∃ a, o = some a ∧ Post rel K W P0 F ρ σ Q (.ok a bs) := by
  cases o with
  | none => exact h.elim
  | some a => exact ⟨a, rfl, h⟩
theorem ixD_ok (hu : X.A.units + 1 < cLine) {x y : V} {d i : D} {Q : VK} (B : BRel X.K F P0 Mm ρ bs σ H) (rx : Rep X.K F ρ x d) (ry : Rep X.K F ρ y i) (h : Post (Rep X.K) X.K W P0 F ρ σ Q (ixD d i bs)) : ∃ r, IxR X r ∧ r x y H Q := by
  cases rx with
  | lst h1 r1 =>
    obtain ⟨d, e, h⟩ := Post.opt (γ := Unit) h
    exact ixO_ok hu (so := .lst _) ⟨_, rfl, r1⟩ (.inl (B.lstAt h1)) ry e fun v q => h.now B q
  | tup h1 r1 =>
    rename_i p vs ds
    obtain ⟨d, e, h2⟩ := Post.opt (γ := Unit) h
    cases ry with
    | int j =>
      obtain ⟨v, e1, e2⟩ := r1.at (show atI ds j = some d from e)
      exact ⟨_, ix_tup, _, vs, j, v, rfl, rfl, Rep.sqT (P := fun _ => none) B h1, e1, h2.now B e2⟩
    | _ => cases e
  | dic h1 k1 r1 =>
    obtain ⟨d, e, h⟩ := Post.opt (γ := Unit) h
    exact ixO_ok hu (so := .dic _) ⟨_, rfl, k1, r1⟩ (B.dicAt h1) ry e fun v q => h.now B q
  | str z =>
    cases ry with
    | int j =>
      unfold ixD at h
      dsimp only at h
      split at h
      · rename_i hl
        obtain ⟨d, e, h⟩ := Post.opt (γ := Unit) h
        cases e2 : atI z.cps.toList j with
        | none => rw [e2] at e; cases e
        | some c => rw [e2] at e; cases e; exact ⟨_, ix_str, z, j, c, rfl, rfl, hl, e2, h.now B (.str _)⟩
      · exact h.elim
    | _ => exact h.elim
  | ptr hr =>
    rename_i p k
    unfold ixD at h
    dsimp only at h
    cases e : bs.g.S k with
    | none => rw [e] at h; exact h.elim
    | some so =>
      rw [e] at h
      obtain ⟨d, e2, h⟩ := Post.opt (γ := Unit) h
      cases pl : so.plain with
      | true =>
        obtain ⟨a', u, h1, h2, h3, h4, _⟩ := B.put (so' := so) (u' := .lst []) e pl pl
        rw [hr] at h1; cases h1
        exact ixO_ok hu h4 (.inl h3) ry e2 fun v q => h.now B q
      | false => cases so <;> first | (cases pl; done) | (unfold ixO at e2; cases ry <;> cases e2)
  | _ => exact h.elim
theorem se_ix (hu : X.A.units + 1 < cLine) (ha : SE X W a ma) (hb : SE X W b mb) (hs : PlainIx b := by exact fun _ _ => rfl) : SE X W (.Subscript a b pos) (bin2 ixD ma mb) :=
  SE.of (pe_ix IxR.any ha hb hs) fun σ H F P0 Mm ρ bs Q B q => tE_2 B q fun x y d e F1 M1 r1 b1 H1 B1 qx qy h1 => ixD_ok hu B1 qx qy h1
/-- x[..] of a name: its own object stays its own -/
def hasS (b : BSt) (i : Nat) : Prop := ∃ s, b.t[i]? = some (some s)
def ixV (i : Nat) (mb : M D) : M D := fun b => match b.t[i]? with
  | some (some _) => M.bind mb (fun y => fun b => match b.t[i]? with
    | some (some (.val d)) => ixD d y b
    | some (some (.own so)) => optM (ixO so y) b
    | _ => .fail) b
  | _ => .fail
theorem BRel.slotV {i : Nat} {sl : Slot} (B : BRel K F P0 Mm ρ bs σ H) (e : bs.t[i]? = some (some sl)) : ∃ v, σ[i]? = some (some v) := by
  obtain ⟨P, qq, BB⟩ := B
  have z := BB.sl i _ e
  cases sl with
  | val d => obtain ⟨v, e, _⟩ := z; exact ⟨v, e⟩
  | own o => obtain ⟨v, e, _⟩ := z; exact ⟨_, e⟩
  | frm me up => obtain ⟨v, e, _⟩ := z; exact ⟨v, e⟩
theorem BRel.valV {i : Nat} {d : D} {v : V} (B : BRel K F P0 Mm ρ bs σ H) (e : bs.t[i]? = some (some (.val d))) (hv : σ[i]? = some (some v)) : Rep K F ρ v d := by
  obtain ⟨P, qq, BB⟩ := B
  obtain ⟨v', e2, r⟩ := BB.sl i _ e
  rw [hv] at e2; cases e2
  exact r
theorem BRel.ownV {i : Nat} {so : SO} {v : V} (B : BRel K F P0 Mm ρ bs σ H) (e : bs.t[i]? = some (some (.own so))) (hv : σ[i]? = some (some v)) : ∃ p u, v = .ref p ∧ H p = some u ∧ RepO K F ρ (fun _ => some u) p so ∧ so.plain = true := by
  obtain ⟨P, qq, BB⟩ := id B
  obtain ⟨p, e2, _, _, _, pl⟩ := BB.sl i _ e
  obtain ⟨p', u, e4, e5, e6, _⟩ := B.chg (so' := so) (u' := .lst []) e pl
  rw [hv] at e2 e4; cases e2; cases e4
  exact ⟨p, u, rfl, e5, e6, pl⟩
theorem se_ixV {i : Nat} {x : Str} {p : Pos} (hu : X.A.units + 1 < cLine) (h : PE X (.Name x p) (tVar i)) (hb : SE X W b mb) (hs : PlainIx b := by exact fun _ _ => rfl) :
    SE X W (.Subscript (.Name x p) b pos) (ixV i mb) := by
  refine SE.of (pe_ix IxR.any h hb hs) fun σ H F P0 Mm ρ bs Q B q => ?_
  unfold ixV at q
  split at q
  · rename_i sl e0
    obtain ⟨v, hv⟩ := B.slotV e0
    refine ⟨v, hv, tM_then B q fun y d F1 M1 r1 b1 H1 l1 e1 B1 q1 h1 => ?_⟩
    split at h1
    · rename_i d0 e2
      exact ixD_ok hu B1 (B1.valV e2 hv) q1 h1
    · rename_i so e2
      obtain ⟨d2, e3, h1⟩ := Post.opt (γ := Unit) h1
      obtain ⟨p, u, rfl, e5, e6, _⟩ := B1.ownV e2 hv
      exact ixO_ok hu e6 (.inl e5) q1 e3 fun v q => h1.now B1 q
    · exact h1.elim
  · exact q.elim
end
end L2.VI
/-! VI5: attributes, calls of the text's own defs, classes, built-ins. -/
namespace L2.VI
open PySem PySem.Spec PyProof.Rows He

section
variable {K : PySem.W.Frag} {F P : Hp} {fc : FrC} {P0 : PX fc} {Mm H : Hp} {ρ : Rho} {bs : BSt} {σ : St} {g : GSt}
theorem fs_find {f : Str} : ∀ {vs : List (Str × V)} {ds : List (Str × D)}, vs.map (·.1) = ds.map (·.1) → RepAll K F ρ (vs.map (·.2)) (ds.map (·.2)) →
    (∀ d, ds.lookup f = some d → ∃ v, vs.lookup f = some v ∧ Rep K F ρ v d) ∧ (ds.lookup f = none → vs.lookup f = none)
  | [], [], _, _ => ⟨fun d e => (by cases e), fun _ => rfl⟩
  | [], _ :: _, h, _ => by simp at h
  | _ :: _, [], h, _ => by simp at h
  | (k1, v) :: vs, (k2, d) :: ds, h, r => by
    simp only [List.map_cons, List.cons.injEq] at h
    obtain ⟨h1, h2⟩ := h
    subst h1
    cases r with
    | cons r rr =>
      obtain ⟨i1, i2⟩ := fs_find (f := f) h2 rr
      cases e : (f == k1) with
      | true =>
        simp only [List.lookup_cons, e]
        exact ⟨fun d' e' => ⟨v, rfl, by cases e'; exact r⟩, fun z => by cases z⟩
      | false =>
        simp only [List.lookup_cons, e]
        exact ⟨i1, i2⟩
theorem HRel.insAt {k : Nat} {c : Str} {fs : List (Str × D)} (h : HRel K F P Mm ρ g H) (e : g.S k = some (.ins c fs)) :
    ∃ a dx vs, ρ k = some a ∧ Mm a = some (.ins (ga K c) dx vs) ∧ Mm dx = some (.own a) ∧ H a = some (.ins (ga K c) dx vs) ∧ vs.map (·.1) = fs.map (·.1) ∧ RepAll K F ρ (vs.map (·.2)) (fs.map (·.2)) := by
  obtain ⟨a, e1, dx, vs, h1, h2, h3, h4⟩ := h.st k _ e
  exact ⟨a, dx, vs, e1, h1, h2, h.mh _ _ h1, h3, h4⟩
/-- an instance of the store is changed -/
theorem HRel.putI {k : Nat} {c : Str} {fs fs' : List (Str × D)} {a dx : Addr} {vs vs' : List (Str × V)} (h : HRel K F P Mm ρ g H) (e : g.S k = some (.ins c fs)) (e1 : ρ k = some a) (e2 : Mm a = some (.ins (ga K c) dx vs)) (e3 : Mm dx = some (.own a))
    (hk : vs'.map (·.1) = fs'.map (·.1)) (hr : RepAll K F ρ (vs'.map (·.2)) (fs'.map (·.2))) : HRel K F P (upd Mm a (.ins (ga K c) dx vs')) ρ (g.put k (.ins c fs')) (upd H a (.ins (ga K c) dx vs')) := by
  have nF : F a = none := by
    cases e : F a with
    | none => rfl
    | some v => rw [(h.fp a v e).2] at e2; cases e2
  have nP : P a = none := by
    cases e : P a with
    | none => rfl
    | some v => rw [h.pm a v e] at e2; cases e2
  have ndx : dx ≠ a := fun z => by rw [z, e2] at e3; cases e3
  have ne : ∀ {G : Hp} {b : Addr} {v : HO}, G a = none → G b = some v → b ≠ a := fun {G b v} gn e z => by subst z; rw [gn] at e; cases e
  refine ⟨fun b v e => ?_, fun b v e => ?_, fun b v e => ?_, fun b v e => ?_, fun b v e => ?_, fun j o x => ?_, h.inj, h.nx, fun j c' x => ?_⟩
  · have hb := ne nF e
    have q := h.fh b v e
    split
    · rename_i hd
      rw [if_pos hd] at q
      rcases q with q | ⟨o, q⟩
      · exact .inl (by rw [upd_ne hb]; exact q)
      · exact .inr ⟨o, by rw [upd_ne hb]; exact q⟩
    · rename_i hd
      rw [if_neg hd] at q
      rw [upd_ne hb]; exact q
  · rw [upd_ne (ne nP e)]; exact h.ph b v e
  · by_cases hb : b = a
    · subst hb; rw [upd_same] at e ⊢; exact e
    · rw [upd_ne hb] at e ⊢; exact h.mh b v e
  · have hb := ne nF e
    obtain ⟨q1, q2⟩ := h.fp b v e
    exact ⟨q1, by rw [upd_ne hb]; exact q2⟩
  · rw [upd_ne (ne nP e)]; exact h.pm b v e
  · by_cases hj : j = k
    · subst hj
      have x' : SO.ins c fs' = o := Option.some.inj (show some (SO.ins c fs') = some o by rw [← x]; exact (if_pos rfl).symm)
      subst x'
      exact ⟨a, e1, dx, vs', upd_same, by rw [upd_ne ndx]; exact e3, hk, hr⟩
    · have x' : g.S j = some o := by rw [← x]; exact (if_neg hj).symm
      obtain ⟨c', y1, y2⟩ := h.st j o x'
      have hc : c' ≠ a := fun z => hj (h.inj j k a (by rw [← z]; exact y1) e1)
      refine ⟨c', y1, y2.mono (Leq.refl _) (Rle.refl _) fun d w hd z => ?_⟩
      have : d ≠ a := by
        rcases hd with rfl | rfl
        · exact hc
        · intro y; subst y; rw [e2] at z; cases z
      rw [upd_ne this]; exact z
  · obtain ⟨w, y1, y2⟩ := h.rh j c' x
    by_cases hc : c' = a
    · subst hc; exact ⟨_, upd_same, fun _ z => nomatch z⟩
    · exact ⟨w, by rw [upd_ne hc]; exact y1, y2⟩
/-- a new instance in the store -/
theorem HRel.newI {c : Str} {x dx : Addr} (h : HRel K F P Mm ρ g H) (nx : H x = none) (ndx : H dx = none) (ne : dx ≠ x) :
    HRel K F P (upd (upd Mm dx (.own x)) x (.ins (ga K c) dx [])) (rput ρ g.nx x) (g.new (.ins c [])) (upd (upd H dx (.own x)) x (.ins (ga K c) dx [])) ∧ Rle ρ (rput ρ g.nx x) := by
  have n0 : ρ g.nx = none := (h.nx _ (Nat.le_refl _)).1
  have rl : Rle ρ (rput ρ g.nx x) := rle_put n0
  have mx := h.mnone nx
  have md := h.mnone ndx
  have lm : Leq Mm (upd (upd Mm dx (.own x)) x (.ins (ga K c) dx [])) := (leq_upd md).trans (leq_upd (by rw [upd_ne (Ne.symm ne)]; exact mx))
  have lh : Leq H (upd (upd H dx (.own x)) x (.ins (ga K c) dx [])) := (leq_upd ndx).trans (leq_upd (by rw [upd_ne (Ne.symm ne)]; exact nx))
  refine ⟨⟨fun b v e => ?_, fun b v e => lh _ _ (h.ph b v e), fun b v e => ?_, fun b v e => ?_, fun b v e => ?_, fun k o e => ?_, fun k j a e1 e2 => ?_, fun k hk => ?_, fun k a e => ?_⟩, rl⟩
  · have q := h.fh b v e
    split
    · rename_i hd
      rw [if_pos hd] at q
      rcases q with q | ⟨o, q⟩
      · exact .inl (lh _ _ q)
      · exact .inr ⟨o, lh _ _ q⟩
    · rename_i hd
      rw [if_neg hd] at q
      exact lh _ _ q
  · by_cases h1 : b = x
    · subst h1; rw [upd_same] at e ⊢; exact e
    · rw [upd_ne h1] at e ⊢
      by_cases h2 : b = dx
      · subst h2; rw [upd_same] at e ⊢; exact e
      · rw [upd_ne h2] at e ⊢; exact h.mh b v e
  · obtain ⟨q1, q2⟩ := h.fp b v e
    have hb1 : b ≠ x := fun z => by subst z; rw [h.fnone nx] at e; cases e
    have hb2 : b ≠ dx := fun z => by subst z; rw [h.fnone ndx] at e; cases e
    exact ⟨q1, by rw [upd_ne hb1, upd_ne hb2]; exact q2⟩
  · have hb1 : b ≠ x := fun z => by subst z; rw [h.pnone nx] at e; cases e
    have hb2 : b ≠ dx := fun z => by subst z; rw [h.pnone ndx] at e; cases e
    rw [upd_ne hb1, upd_ne hb2]; exact h.pm b v e
  · by_cases hk : k = g.nx
    · subst hk
      have e' : SO.ins c [] = o := Option.some.inj (show some (SO.ins c []) = some o by rw [← e]; exact (if_pos rfl).symm)
      subst e'
      exact ⟨x, rput_same, dx, [], upd_same, by rw [upd_ne ne, upd_same], rfl, .nil⟩
    · have e' : g.S k = some o := by rw [← e]; exact (if_neg hk).symm
      obtain ⟨a, e1, e2⟩ := h.st k o e'
      exact ⟨a, rl.p _ _ e1, e2.mono (Leq.refl _) rl fun c w _ z => lm c w z⟩
  · have np : ∀ k, ρ k ≠ some x := fun k z => by
      obtain ⟨w, hw, _⟩ := h.rh k x z
      rw [mx] at hw; cases hw
    by_cases hk : k = g.nx
    · by_cases hj : j = g.nx
      · rw [hk, hj]
      · subst hk
        rw [rput_same] at e1; cases e1
        rw [rput_ne hj] at e2
        exact absurd e2 (np j)
    · rw [rput_ne hk] at e1
      by_cases hj : j = g.nx
      · subst hj
        rw [rput_same] at e2; cases e2
        exact absurd e1 (np k)
      · rw [rput_ne hj] at e2; exact h.inj k j a e1 e2
  · have h1 : g.nx + 1 ≤ k := hk
    exact ⟨by rw [rput_ne (by omega)]; exact (h.nx k (by omega)).1, (h.nx k (by omega)).2⟩
  · by_cases hk : k = g.nx
    · subst hk; rw [rput_same] at e; cases e; exact ⟨_, upd_same, fun _ z => nomatch z⟩
    · rw [rput_ne hk] at e
      obtain ⟨w, hw, hn⟩ := h.rh k a e
      exact ⟨w, lm a w hw, hn⟩
/-- the store and the heap behind a call -/
theorem BR.step {q : Nat → Option Addr} {F' M' H' : Hp} {ρ' : Rho} {g' : GSt} (B : BR K F P0 P Mm ρ q bs σ H) (l : Leq F F') (r : Rle ρ ρ') (h : HRel K F' P M' ρ' g' H') : BR K F' P0 P M' ρ' q { bs with g := g' } σ H' :=
  ⟨h, B.pp, B.len, B.qi, fun i s e => (B.sl i s e).mono l r fun a ea => ⟨ea, fun _ z => z⟩⟩
end

/-! ### what a def promises -/
inductive GR where
  | ok (d : D) (g : GSt) | exc (x : EX) (g : GSt) | fail
abbrev FnD := List D → GSt → GR
def PostG (K : PySem.W.Frag) (P F : Hp) (ρ : Rho) (Q : VK) (E : XK) : GR → Prop
  | .ok d g' => ∀ (v : V) (F' M' : Hp) (ρ' : Rho) (H' : Hp), Leq F F' → Rle ρ ρ' → HRel K F' P M' ρ' g' H' → Rep K F' ρ' v d → Q v H'
  | .exc x g' => ∀ (cls : Value) (d : Option Addr) (F' M' : Hp) (ρ' : Rho) (H' : Hp), Leq F F' → Rle ρ ρ' → HRel K F' P M' ρ' g' H' → RepX K F' ρ' x cls d → E cls d H'
  | .fail => False
def spV (K : PySem.W.Frag) (n : Nat) (m : FnD) : Sp := fun vs H Q E => vs.length = n ∧ ∃ F P Mm ρ g ds, HRel K F P Mm ρ g H ∧ RepAll K F ρ vs ds ∧ PostG K P F ρ Q E (m ds g)
/-- a call, in a body -/
def callF (m : FnD) (ds : List D) : M D := fun b => match m ds b.g with
  | .ok d g' => .ok d { b with g := g' }
  | .exc x g' => .exc x { b with g := g' }
  | .fail => .fail
/-- .. that raises nothing -/
def callN (m : FnD) (ds : List D) : M D := fun b => match m ds b.g with
  | .ok d g' => .ok d { b with g := g' }
  | _ => .fail
/-- a new instance -/
def makeF (c : Str) (m : FnD) (ds : List D) : M D := fun b => match m (.ptr b.g.nx :: ds) (b.g.new (.ins c [])) with
  | .ok .non g' => .ok (.ptr b.g.nx) { b with g := g' }
  | .exc x g' => .exc x { b with g := g' }
  | _ => .fail
abbrev CV (P : Program) (w : World) : CXT := L2.CX P w
section
variable {X : Cx} {W : WX} {k : Nat} {f C : Addr} {fd : FuncData} {ps : List Str} {n : Nat} {m : FnD} {dvs : List V} {dfl : List D} {ds : List Value} {x c mn : Str} {p pos apos : Pos} {e o : Expr} {es : List Expr} {ma : M D} {mas : M (List D)}
/-- a def's promise from what is wanted behind the call -/
def Ar (m : FnD) (n : Nat) : Prop := ∀ ds g, ds.length ≠ n → m ds g = .fail
theorem sp_of {F : Hp} {fc : FrC} {P0 : PX fc} {Mm H : Hp} {ρ : Rho} {bs : BSt} {σ : St} {vs : List V} {zs : List D} {Q : VK} (ar : Ar m n) (B : BRel X.K F P0 Mm ρ bs σ H) (r : RepAll X.K F ρ vs zs) (h : Post (Rep X.K) X.K W P0 F ρ σ Q (callF m zs bs)) :
    spV X.K n m vs H Q (WE W σ) := by
  obtain ⟨P, q, B⟩ := B
  have hn : vs.length = n := by
    by_cases hz : zs.length = n
    · rw [r.length]; exact hz
    · unfold callF at h; rw [ar _ _ hz] at h; exact h.elim
  refine ⟨hn, F, P, Mm, ρ, bs.g, zs, B.h, r, ?_⟩
  unfold callF at h
  cases e : m zs bs.g with
  | ok d g' => rw [e] at h; exact fun v F' M' ρ' H' l rl h' rr => h v F' M' ρ' H' l rl ⟨P, q, B.step l rl h'⟩ rr
  | exc x g' => rw [e] at h; exact fun v d F' M' ρ' H' l rl h' rr => h v d F' M' ρ' H' l rl ⟨P, q, B.step l rl h'⟩ rr
  | fail => rw [e] at h; exact h
theorem sp_ofN {F : Hp} {fc : FrC} {P0 : PX fc} {Mm H : Hp} {ρ : Rho} {bs : BSt} {σ : St} {vs : List V} {zs : List D} {Q : VK} (ar : Ar m n) (B : BRel X.K F P0 Mm ρ bs σ H) (r : RepAll X.K F ρ vs zs) (h : Post (Rep X.K) X.K W P0 F ρ σ Q (callN m zs bs)) :
    spV X.K n m vs H Q E0 := by
  obtain ⟨P, q, B⟩ := B
  have hn : vs.length = n := by
    by_cases hz : zs.length = n
    · rw [r.length]; exact hz
    · unfold callN at h; rw [ar _ _ hz] at h; exact h.elim
  refine ⟨hn, F, P, Mm, ρ, bs.g, zs, B.h, r, ?_⟩
  unfold callN at h
  cases e : m zs bs.g with
  | ok d g' => rw [e] at h; exact fun v F' M' ρ' H' l rl h' rr => h v F' M' ρ' H' l rl ⟨P, q, B.step l rl h'⟩ rr
  | exc x g' => rw [e] at h; exact h.elim
  | fail => rw [e] at h; exact h
/-- written defaults -/
inductive Flat : V → D → Prop where
  | non : Flat .non .non
  | bl (b : Bool) : Flat (.bl b) (.bl b)
  | int (i : Int) : Flat (.int i) (.int i)
  | str (x : Str) : Flat (.str x) (.str x)
theorem Flat.rep {K : PySem.W.Frag} {F : Hp} {ρ : Rho} {v : V} {d : D} (h : Flat v d) : Rep K F ρ v d := by
  cases h
  · exact .non
  · exact .bl _
  · exact .int _
  · exact .str _
theorem flats {K : PySem.W.Frag} {F : Hp} {ρ : Rho} : ∀ {vs : List V} {ds : List D}, Paired Flat vs ds → RepAll K F ρ vs ds
  | _, _, .nil => .nil
  | _, _, .cons r t => .cons r.rep (flats t)
/-- f(e, ..), every parameter given -/
theorem se_call (tk : Takes X W) (F : FnOk X.prog X.w X.K X.mg X.base (CV X.prog X.w) k f fd ps (spV X.K n m)) (ar : Ar m n) (hr : Room k X.A) (hm : X.mg x = some (.ref f)) (hk : PySem.W.keepIn X.K (.ref f) = true) (hb : Binds X.K fd ps [])
    (ha : SA X W (e :: es) mas) (hg : Gl X x := by rfl) (hdb : (x == ("__debug__" : Str)) = false := by decide) (he : starEach (e :: es) X.env = (false, eval e X.env) :: starEach es X.env := by rfl) (hpl : (backTo pos (starEach es X.env)).any (·.1) = false := by rfl) :
    SE X W (.Call (.Name x p) (e :: es) [] pos) (M.bind mas (callF m)) := by
  refine SE.of (pe_callSD (E := WE W) F hr hg hm hk hb .nil (fun σ => passAt tk σ) ha hdb he hpl) fun σ H Fz P0 Mm ρ bs Q B q => ?_
  refine tM_then B q fun xs zs F1 M1 r1 b1 H1 l1 e1 B1 q1 h1 => ?_
  rw [List.append_nil]
  exact sp_of ar B1 q1 h1
theorem se_call0 (tk : Takes X W) (F : FnOk X.prog X.w X.K X.mg X.base (CV X.prog X.w) k f fd ps (spV X.K n m)) (ar : Ar m n) (hr : Room k X.A) (hm : X.mg x = some (.ref f)) (hk : PySem.W.keepIn X.K (.ref f) = true) (hb : Binds X.K fd ps [])
    (hg : Gl X x := by rfl) (hdb : (x == ("__debug__" : Str)) = false := by decide) : SE X W (.Call (.Name x p) [] [] pos) (callF m []) := by
  refine ⟨fun pins s σ H Q I ⟨Fz, P0, Mm, ρ, bs, B, q⟩ => ?_⟩
  refine wpAny_Call_Name_kw (ld_glob I hg hm ?_ hdb)
  exact PySem.W.callWith_K0 I.kIn hk (run_fnSD (us := []) (vs := []) (E := WE W) F hr hb .nil (passAt tk σ) I .nil (sp_of ar B .nil q))
/-! ### keywords, defaults -/
def kperm {α : Type} (idx : List Nat) (l : List α) : List α := idx.filterMap fun i => l[i]?
theorem kperm_rep {K : PySem.W.Frag} {F : Hp} {ρ : Rho} {vs : List V} {ds : List D} (r : RepAll K F ρ vs ds) : ∀ idx : List Nat, RepAll K F ρ (kperm idx vs) (kperm idx ds)
  | [] => .nil
  | i :: idx => by
    unfold kperm
    rw [List.filterMap_cons, List.filterMap_cons]
    cases e : ds[i]? with
    | none =>
      have e2 : vs[i]? = none := List.getElem?_eq_none_iff.mpr (by rw [r.length]; exact List.getElem?_eq_none_iff.mp e)
      rw [e2]; exact kperm_rep r idx
    | some d =>
      obtain ⟨v, e2, rr⟩ := r.get e
      rw [e2]; exact .cons rr (kperm_rep r idx)
theorem kperm_vals {vs : List V} {us : List Value} (r : Vals vs us) : ∀ idx : List Nat, Vals (kperm idx vs) (kperm idx us)
  | [] => .nil
  | i :: idx => by
    unfold kperm
    rw [List.filterMap_cons, List.filterMap_cons]
    cases e : vs[i]? with
    | none => rw [r.none_of e]; exact kperm_vals r idx
    | some d =>
      obtain ⟨v, e2, rr⟩ := r.get e
      rw [e2]; exact .cons rr (kperm_vals r idx)
/-- n positional values, keywords ks, defaults dvs; idx: which of all of them goes to each parameter -/
def KB (K : PySem.W.Frag) (fd : FuncData) (ps : List Str) (n : Nat) (ks : List Str) (dvs : List V) (idx : List Nat) : Prop :=
  ∃ its : List Value, Vals dvs its ∧ ∀ (s : Shared) (us ws : List Value), K.In s.heap → us.length = n → ws.length = ks.length → BindsTo s fd ⟨us, ks.zip ws⟩ (ps.zip (kperm idx (us ++ (ws ++ its))))
theorem kb_n {K : PySem.W.Frag} {qual : Str} {params : Arguments} {body : List Stmt} {scope : Scope} {ks : List Str} {idx : List Nat} {j : Nat} (F : FunD K x qual params body scope [] [] f fd)
    (h : ∀ (kV doc pm : Value) (an : Option Addr) (cdv ct : Value) (us ws : List Value), us.length = j → ws.length = ks.length → bindArgs (PySem.W.fnOf x qual params body scope .none kV doc pm an cdv ct) ⟨us, ks.zip ws⟩ = pure (ps.zip (kperm idx (us ++ (ws ++ []))))) : KB K fd ps j ks [] idx := by
  obtain ⟨oc, od, dV, kV, doc, pm, an, cdv, ct, osl, rfl, lk, hcd, hD, hK⟩ := F.ex
  rcases hD with ⟨_, rfl⟩ | ⟨e, _⟩
  · exact ⟨[], .nil, fun s us ws _ h1 h2 => .of_eq (h kV doc pm an cdv ct us ws h1 h2)⟩
  · exact absurd rfl e
theorem kb_d {K : PySem.W.Frag} {qual : Str} {params : Arguments} {body : List Stmt} {scope : Scope} {ks : List Str} {idx : List Nat} {j : Nat} (F : FunD K x qual params body scope dvs [] f fd) (hd : dvs ≠ [])
    (h : ∀ (T : Addr) (kV doc pm : Value) (an : Option Addr) (cdv ct : Value) (us ws its : List Value), us.length = j → ws.length = ks.length → its.length = dvs.length →
      ∃ k, bindArgs (PySem.W.fnOf x qual params body scope (.ref T) kV doc pm an cdv ct) ⟨us, ks.zip ws⟩ = seqItems? (.ref T) >>= k ∧ k (some its.toArray) = pure (ps.zip (kperm idx (us ++ (ws ++ its))))) : KB K fd ps j ks dvs idx := by
  obtain ⟨oc, od, dV, kV, doc, pm, an, cdv, ct, osl, rfl, lk, hcd, hD, hK⟩ := F.ex
  rcases hD with ⟨e, _⟩ | ⟨_, T, o, its, m, rfl, lT, oT, rT⟩
  · exact absurd e hd
  · refine ⟨its, rT, fun s us ws X h1 h2 => ?_⟩
    obtain ⟨k, e1, e2⟩ := h T kV doc pm an cdv ct us ws its h1 h2 rT.length.symm
    refine BindsTo.of_looks fun M => ?_
    rw [e1]
    exact looks_items X lT oT (.of_pure e2)
/-- the callee runs, keywords and all -/
theorem run_fnK {pins : List (Addr × Obj)} {σ : St} {H : Hp} {s : Shared} {Q : VK} {E : XK} {sp : Sp} {us ws its : List Value} {vs zs : List V} {idx : List Nat} {ks : List Str} (F : FnOk X.prog X.w X.K X.mg X.base (CV X.prog X.w) k f fd ps sp) (hr : Room k X.A)
    (hb : BindsTo s fd ⟨us, ks.zip ws⟩ (ps.zip (kperm idx (us ++ (ws ++ its))))) (hx : PassesAt (CV X.prog X.w) X σ E)
    (I : Inv X pins σ H s) (r : Vals vs us) (rz : Vals zs ws) (rd : Vals dvs its) (h : sp (kperm idx (vs ++ (zs ++ dvs))) H Q E) : wpAny (model X.prog X.w) X.A (call (.ref f) us (ks.zip ws)) (EP X pins σ Q) X.xe s := by
  refine wpAny_call (codeAny_mono (F.run X.A X.stack s H ⟨us, ks.zip ws⟩ _ _ Q E hr I.env0 hb (kperm_vals (r.append (rz.append rd)) idx) h) fun r s' hq => ?_)
  cases r with
  | error e => exact hx pins H s e s' I hq
  | ok fl =>
    cases fl with
    | ret u => exact I.after hq
    | next => exact False.elim hq
    | brk => exact False.elim hq
    | cont => exact False.elim hq
def SK (X : Cx) (W : WX) (kws : List Keyword) (m : M (List D)) : Prop := PK X kws (tA (fc := fcOf X) X.K W m)
theorem SK.of {kws : List Keyword} {m : M (List D)} {t : TA} (h : PK X kws t)
    (ht : ∀ σ H F (P0 : PX (fcOf X)) Mm ρ b Q, BRel X.K F P0 Mm ρ b σ H → Post (RepAll X.K) X.K W P0 F ρ σ Q (m b) → t σ H Q) : SK X W kws m := ⟨fun pos pins s σ H Q I ⟨F, P0, Mm, ρ, b, B, q⟩ => h.run pos pins s σ H Q I (ht σ H F P0 Mm ρ b Q B q)⟩
theorem sk_nil : SK X W [] (M.ret []) := SK.of pk_nil fun σ H F P0 Mm ρ bs Q B q => q.now B .nil
theorem sk_cons {nm : Option Str} {kpos : Pos} {kws : List Keyword} (ha : SE X W e ma) (hr : SK X W kws mas) : SK X W (⟨nm, e, kpos⟩ :: kws) (consM ma mas) :=
  SK.of (pk_cons ha hr) fun σ H F P0 Mm ρ bs Q B q => tM_then B q fun x d F1 M1 r1 b1 H1 l1 e1 B1 q1 h1 => tM_then B1 h1 fun xs ds F2 M2 r2 b2 H2 l2 e2 B2 q2 h2 => h2.now B2 (.cons (q1.mono l2 e2) q2)
def argsK (j nk : Nat) (dfl : List D) (idx : List Nat) (mas mks : M (List D)) (k : List D → M D) : M D := M.bind mas fun zs => M.bind mks fun ws => guardM (zs.length = j ∧ ws.length = nk) (k (kperm idx (zs ++ (ws ++ dfl))))
/-- f(e, .., k = v, ..) -/
theorem se_callK {kws : List Keyword} {mks : M (List D)} {j : Nat} {ks : List Str} {idx : List Nat} (tk : Takes X W) (F : FnOk X.prog X.w X.K X.mg X.base (CV X.prog X.w) k f fd ps (spV X.K n m)) (ar : Ar m n) (hr : Room k X.A) (hm : X.mg x = some (.ref f)) (hk : PySem.W.keepIn X.K (.ref f) = true)
    (hb : KB X.K fd ps j ks dvs idx) (hf : Paired Flat dvs dfl) (ha : SA X W (e :: es) mas) (hkw : SK X W kws mks) (hg : Gl X x := by rfl) (hall : (backToKw pos (keywordEach kws X.env)).all (·.1.isSome) = true := by rfl) (hks : (backToKw pos (keywordEach kws X.env)).filterMap (·.1) = ks := by rfl)
    (hdb : (x == ("__debug__" : Str)) = false := by decide) (he : starEach (e :: es) X.env = (false, eval e X.env) :: starEach es X.env := by rfl)
    (hpl : ((backTo pos (starEach (e :: es) X.env)).any (·.1) || (backToKw pos (keywordEach kws X.env)).any (·.1.isNone)) = false := by rfl) : SE X W (.Call (.Name x p) (e :: es) kws pos) (argsK j ks.length dfl idx mas mks (callF m)) := by
  obtain ⟨its, rd, hb⟩ := hb
  refine ⟨fun pins s σ H Q I ⟨Fz, P0, Mm, ρ, bs, B, q⟩ => ?_⟩
  refine wpAny_Call_Name_kw (ld_glob I hg hm ?_ hdb)
  have h0 : tA (fc := fcOf X) X.K W mas σ H (fun vs H1 => tA (fc := fcOf X) X.K W mks σ H1 fun zv H2 => vs.length = j ∧ zv.length = ks.length ∧ spV X.K n m (kperm idx (vs ++ (zv ++ dvs))) H2 Q (WE W σ)) :=
    tM_then B q fun xs zs F1 M1 r1 b1 H1 l1 e1 B1 q1 h1 => tM_then B1 h1 fun ys ws F2 M2 r2 b2 H2 l2 e2 B2 q2 h2 => by
      obtain ⟨⟨g1, g2⟩, h2⟩ := Post.guard h2
      exact ⟨q1.length.trans g1, q2.length.trans g2, sp_of ar B2 (kperm_rep ((q1.mono l2 e2).append (q2.append (flats hf))) idx) h2⟩
  refine PySem.W.callWith_KW (h₀ := X.base) I.ok.mod.kin hk hall (thn (ha.run pos pins s σ H _ I h0) fun us s1 ⟨vs, H1, I1, r, q⟩ => thn (hkw.run pos pins s1 σ H1 _ I1 q) fun ws s2 ⟨zv, H2, I2, rz, l1, l2, q2⟩ => ⟨I2.kIn, ?_⟩) hpl he
  rw [hks]
  exact run_fnK F hr (hb s2 us ws I2.kIn (r.length.symm.trans l1) (rz.length.symm.trans l2)) (passAt tk σ) I2 r rz rd q2
theorem se_callK0 {kws : List Keyword} {mks : M (List D)} {ks : List Str} {idx : List Nat} (tk : Takes X W) (F : FnOk X.prog X.w X.K X.mg X.base (CV X.prog X.w) k f fd ps (spV X.K n m)) (ar : Ar m n) (hr : Room k X.A) (hm : X.mg x = some (.ref f)) (hk : PySem.W.keepIn X.K (.ref f) = true)
    (hb : KB X.K fd ps 0 ks dvs idx) (hf : Paired Flat dvs dfl) (hkw : SK X W kws mks) (hg : Gl X x := by rfl) (hall : (backToKw pos (keywordEach kws X.env)).all (·.1.isSome) = true := by rfl) (hks : (backToKw pos (keywordEach kws X.env)).filterMap (·.1) = ks := by rfl)
    (hdb : (x == ("__debug__" : Str)) = false := by decide)
    (hpl : ((backTo pos (starEach [] X.env)).any (·.1) || (backToKw pos (keywordEach kws X.env)).any (·.1.isNone)) = false := by rfl) : SE X W (.Call (.Name x p) [] kws pos) (argsK 0 ks.length dfl idx (M.ret []) mks (callF m)) := by
  obtain ⟨its, rd, hb⟩ := hb
  refine ⟨fun pins s σ H Q I ⟨Fz, P0, Mm, ρ, bs, B, q⟩ => ?_⟩
  refine wpAny_Call_Name_kw (ld_glob I hg hm ?_ hdb)
  refine PySem.W.callWith_KW0 (h₀ := X.base) I.ok.mod.kin hk hall (thn (hkw.run pos pins s σ H (fun zv H2 => zv.length = ks.length ∧ spV X.K n m (kperm idx ([] ++ (zv ++ dvs))) H2 Q (WE W σ)) I (tM_then (m := mks) B q fun ys ws F2 M2 r2 b2 H2 l2 e2 B2 q2 h2 => ?_)) fun ws s2 ⟨zv, H2, I2, rz, q2⟩ => ⟨I2.kIn, ?_⟩) hpl
  rotate_left
  · rw [hks]
    obtain ⟨l2, q2⟩ := q2
    exact run_fnK (us := []) (vs := []) F hr (hb s2 [] ws I2.kIn rfl (rz.length.symm.trans l2)) (passAt tk σ) I2 .nil rz rd q2
  · obtain ⟨⟨g1, g2⟩, h2⟩ := Post.guard h2
    exact ⟨q2.length.trans g2, sp_of ar B2 (kperm_rep (RepAll.nil.append (q2.append (flats hf))) idx) h2⟩
end
end L2.VI
/-! VI6: classes: making, methods, fields, properties; built-ins. -/
namespace L2.VI
open PySem PySem.Spec PyProof.Rows He

section
variable {X : Cx} {W : WX} {k : Nat} {f C : Addr} {fd : FuncData} {ps : List Str} {n : Nat} {m : FnD} {dvs : List V} {dfl : List D} {ds : List Value} {x c mn : Str} {p pos apos : Pos} {e o : Expr} {es : List Expr} {ma : M D} {mas : M (List D)}
variable {K : PySem.W.Frag} {F : Hp} {fc : FrC} {P0 : PX fc} {Mm H : Hp} {ρ : Rho} {bs : BSt} {σ : St}

/-! ### a new instance -/
theorem run_makeK {pins : List (Addr × Obj)} {s : Shared} {Q : VK} {E : XK} {sp : Sp} {us ws its : List Value} {vs zs : List V} {idx : List Nat} {ks : List Str} (Mc : Mk X.K C f) (F : FnOk X.prog X.w X.K X.mg X.base (CV X.prog X.w) k f fd ps sp) (hr : Room (k + 1) X.A)
    (hb : ∀ (s : Shared) (u : Value), X.K.In s.heap → BindsTo s fd ⟨u :: us, ks.zip ws⟩ (ps.zip (kperm idx (u :: us ++ (ws ++ its))))) (hx : PassesAt (CV X.prog X.w) X σ E)
    (I : Inv X pins σ H s) (r : Vals vs us) (rz : Vals zs ws) (rd : Vals dvs its)
    (h : ∀ x dx, H x = none → H dx = none → dx ≠ x → sp (kperm idx (.ref x :: vs ++ (zs ++ dvs))) (upd (upd H dx (.own x)) x (.ins C dx [])) (fun v H2 => v = .non ∧ Q (.ref x) H2) E) :
    wpAny (model X.prog X.w) X.A (call (.ref C) us (ks.zip ws)) (EP X pins σ Q) X.xe s := by
  have hq := h (s.heap.objs.size + 1) s.heap.objs.size (I.hok.fresh (Nat.le_succ _)) (I.hok.fresh (Nat.le_refl _)) (Nat.ne_of_lt (Nat.lt_succ_self _))
  have I2 := Inv.made (C := C) I
  have r2 : Vals (V.ref (s.heap.objs.size + 1) :: vs ++ (zs ++ dvs)) (Value.ref (s.heap.objs.size + 1) :: us ++ (ws ++ its)) := (Vals.append (.cons rfl r) (rz.append rd))
  refine wpAny_call (make_map (f := f) I.kIn Mc.makes Mc.init (beq_iff_eq.mp Mc.fn) (codeAny_mono (F.run _ X.stack _ _ ⟨Value.ref (s.heap.objs.size + 1) :: us, ks.zip ws⟩ _ _ _ E (hr.make C us (ks.zip ws))
    (I2.env0.make C us (ks.zip ws)) (hb _ _ I2.kIn) (kperm_vals r2 idx) hq) fun r s' hq' => ?_))
  cases r with
  | error e => exact hx pins _ _ e s' I2 hq'
  | ok fl =>
    cases fl with
    | ret u =>
      obtain ⟨v, H', I3, rv, ev, q3⟩ := I2.after hq'
      subst ev
      exact ⟨rv, ⟨V.ref (s.heap.objs.size + 1), H', I3, rfl, q3⟩⟩
    | next => exact False.elim hq'
    | brk => exact False.elim hq'
    | cont => exact False.elim hq'
/-- j values are written, keywords ks; the instance itself goes first -/
def KBm (K : PySem.W.Frag) (fd : FuncData) (ps : List Str) (j : Nat) (ks : List Str) (dvs : List V) (idx : List Nat) : Prop := KB K fd ps (j + 1) ks dvs idx
def makeG (c : Str) (m : FnD) (idx : List Nat) (rest : List D) : M D := fun b => match m (kperm idx (.ptr b.g.nx :: rest)) (b.g.new (.ins c [])) with
  | .ok .non g' => .ok (.ptr b.g.nx) { b with g := g' }
  | .exc x g' => .exc x { b with g := g' }
  | _ => .fail
theorem sp_make {vs : List V} {zs : List D} {Q : VK} {idx : List Nat} (ar : Ar m n) (B : BRel X.K F P0 Mm ρ bs σ H) (r : RepAll X.K F ρ vs zs) (h : Post (Rep X.K) X.K W P0 F ρ σ Q (makeG c m idx zs bs)) (x dx : Addr) (nx : H x = none) (ndx : H dx = none) (ne : dx ≠ x) :
    spV X.K n m (kperm idx (.ref x :: vs)) (upd (upd H dx (.own x)) x (.ins (ga X.K c) dx [])) (fun v H2 => v = .non ∧ Q (.ref x) H2) (WE W σ) := by
  obtain ⟨P, q, B⟩ := B
  obtain ⟨h1, rl⟩ := B.h.newI (c := c) nx ndx ne
  have r1 : RepAll X.K F (rput ρ bs.g.nx x) (.ref x :: vs) (.ptr bs.g.nx :: zs) := .cons (.ptr rput_same) (r.mono (Leq.refl _) rl)
  have r2 := kperm_rep r1 idx
  have hn : (kperm idx (.ref x :: vs)).length = n := by
    by_cases hz : (kperm idx (D.ptr bs.g.nx :: zs)).length = n
    · rw [r2.length]; exact hz
    · unfold makeG at h; rw [ar _ _ hz] at h; exact h.elim
  refine ⟨hn, F, P, _, _, _, _, h1, r2, ?_⟩
  unfold makeG at h
  cases e : m (kperm idx (.ptr bs.g.nx :: zs)) (bs.g.new (.ins c [])) with
  | ok d g' =>
    rw [e] at h
    intro v F' M' ρ' H' l r3 h' rr
    cases d with
    | non =>
      cases rr
      exact ⟨rfl, h (.ref x) F' M' ρ' H' l (rl.trans r3) ⟨P, q, B.step l (rl.trans r3) h'⟩ (.ptr (r3.p _ _ rput_same))⟩
    | _ => exact h.elim
  | exc y g' => rw [e] at h; exact fun v d F' M' ρ' H' l r3 h' rr => h v d F' M' ρ' H' l (rl.trans r3) ⟨P, q, B.step l (rl.trans r3) h'⟩ rr
  | fail => rw [e] at h; exact h.elim
theorem se_make {kws : List Keyword} {mks : M (List D)} {j : Nat} {ks : List Str} {idx : List Nat} (tk : Takes X W) (Mc : Mk X.K (ga X.K c) f) (F : FnOk X.prog X.w X.K X.mg X.base (CV X.prog X.w) k f fd ps (spV X.K n m)) (ar : Ar m n) (hr : Room (k + 1) X.A) (hm : X.mg c = some (.ref (ga X.K c)))
    (hb : KBm X.K fd ps j ks dvs idx) (hf : Paired Flat dvs dfl) (ha : SA X W (e :: es) mas) (hkw : SK X W kws mks) (hg : Gl X c := by rfl) (hall : (backToKw pos (keywordEach kws X.env)).all (·.1.isSome) = true := by rfl) (hks : (backToKw pos (keywordEach kws X.env)).filterMap (·.1) = ks := by rfl)
    (hdb : (c == ("__debug__" : Str)) = false := by decide) (he : starEach (e :: es) X.env = (false, eval e X.env) :: starEach es X.env := by rfl)
    (hpl : ((backTo pos (starEach (e :: es) X.env)).any (·.1) || (backToKw pos (keywordEach kws X.env)).any (·.1.isNone)) = false := by rfl) :
    SE X W (.Call (.Name c p) (e :: es) kws pos) (M.bind mas fun zs => M.bind mks fun ws => guardM (zs.length = j ∧ ws.length = ks.length) (makeG c m idx (zs ++ (ws ++ dfl)))) := by
  obtain ⟨its, rd, hb⟩ := hb
  refine ⟨fun pins s σ H Q I ⟨Fz, P0, Mm, ρ, bs, B, q⟩ => ?_⟩
  refine wpAny_Call_Name_kw (ld_glob I hg hm ?_ hdb)
  have h0 : tA (fc := fcOf X) X.K W mas σ H (fun vs H1 => tA (fc := fcOf X) X.K W mks σ H1 fun zv H2 => vs.length = j ∧ zv.length = ks.length ∧ ∀ x dx, H2 x = none → H2 dx = none → dx ≠ x →
      spV X.K n m (kperm idx (.ref x :: (vs ++ (zv ++ dvs)))) (upd (upd H2 dx (.own x)) x (.ins (ga X.K c) dx [])) (fun v H3 => v = .non ∧ Q (.ref x) H3) (WE W σ)) :=
    tM_then B q fun xs zs F1 M1 r1 b1 H1 l1 e1 B1 q1 h1 => tM_then B1 h1 fun ys ws F2 M2 r2 b2 H2 l2 e2 B2 q2 h2 => by
      obtain ⟨⟨g1, g2⟩, h2⟩ := Post.guard h2
      exact ⟨q1.length.trans g1, q2.length.trans g2, fun x dx nx ndx ne => sp_make ar B2 ((q1.mono l2 e2).append (q2.append (flats hf))) h2 x dx nx ndx ne⟩
  refine PySem.W.callWith_KW (h₀ := X.base) I.ok.mod.kin Mc.kp hall (thn (ha.run pos pins s σ H _ I h0) fun us s1 ⟨vs, H1, I1, r, q⟩ => thn (hkw.run pos pins s1 σ H1 _ I1 q) fun ws s2 ⟨zv, H2, I2, rz, l1, l2, q2⟩ => ⟨I2.kIn, ?_⟩) hpl he
  rw [hks]
  exact run_makeK Mc F hr (fun s u hs => hb s (u :: us) ws hs (congrArg Nat.succ (r.length.symm.trans l1)) (rz.length.symm.trans l2)) (passAt tk σ) I2 r rz rd q2

/-! ### methods -/
/-- d is an instance of the class -/
def isIns (c : Str) (d : D) (g : GSt) : Bool := match d with
  | .ptr k => (match g.S k with
    | some (.ins c' fs) => decide (c' = c)
    | _ => false)
  | _ => false
def noField (mn : Str) (d : D) (g : GSt) : Bool := match d with
  | .ptr k => (match g.S k with
    | some (.ins _ fs) => (fs.lookup mn).isNone
    | _ => false)
  | _ => false
theorem noField_of {k : Nat} {fs : List (Str × D)} {g : GSt} (hS : g.S k = some (.ins c fs)) (h : noField mn (.ptr k) g = true) : fs.lookup mn = none := by
  unfold noField at h
  dsimp only at h
  rw [hS] at h
  exact Option.isNone_iff_eq_none.mp h
def selfM (c mn : Str) (mo : M D) (k : D → M D) : M D := M.bind mo fun d => fun b => if isIns c d b.g = true ∧ noField mn d b.g = true then k d b else .fail
theorem isIns_at {x : V} {d : D} (B : BRel K F P0 Mm ρ bs σ H) (r : Rep K F ρ x d) (h : isIns c d bs.g = true) : ∃ k a dx vs fs, d = .ptr k ∧ x = .ref a ∧ bs.g.S k = some (.ins c fs) ∧ ρ k = some a ∧ Mm a = some (.ins (ga K c) dx vs) ∧ Mm dx = some (.own a) ∧ H a = some (.ins (ga K c) dx vs) ∧
    vs.map (·.1) = fs.map (·.1) ∧ RepAll K F ρ (vs.map (·.2)) (fs.map (·.2)) := by
  cases r with
  | ptr hk =>
    rename_i a k
    unfold isIns at h
    dsimp only at h
    split at h
    · rename_i c' fs e
      have e1 : c' = c := of_decide_eq_true h
      subst e1
      obtain ⟨P, q, BB⟩ := B
      obtain ⟨a', dx, vs, h1, h2, h3, h4, h5, h6⟩ := BB.h.insAt e
      rw [hk] at h1; cases h1
      exact ⟨k, a, dx, vs, fs, rfl, rfl, e, hk, h2, h3, h4, h5, h6⟩
    · cases h
  | _ => cases h
theorem se_meth {kws : List Keyword} {mks : M (List D)} {j : Nat} {ks : List Str} {idx : List Nat} {pl : Sem Bool} (tk : Takes X W) (ho : SE X W o ma) (cl : Cls X.K (ga X.K c)) (hm : Meth X.K (ga X.K c) mn f) (F : FnOk X.prog X.w X.K X.mg X.base (CV X.prog X.w) k f fd ps (spV X.K n m)) (ar : Ar m n) (hr : Room k X.A)
    (hb : KBm X.K fd ps j ks dvs idx) (hf : Paired Flat dvs dfl) (ha : SA X W (e :: es) mas) (hkw : SK X W kws mks) (hall : (backToKw pos (keywordEach kws X.env)).all (·.1.isSome) = true := by rfl) (hks : (backToKw pos (keywordEach kws X.env)).filterMap (·.1) = ks := by rfl)
    (he : starEach (e :: es) X.env = (false, eval e X.env) :: starEach es X.env := by rfl) (hpl : ((backTo pos (starEach (e :: es) X.env)).any (·.1) || (backToKw pos (keywordEach kws X.env)).any (·.1.isNone)) = false := by rfl)
    (ht : eval (.Call (.Attribute o mn apos) (e :: es) kws pos) X.env = (do
      let ov ← eval o X.env
      standAt apos.atName
      let (f, first) ← holding [ov] (getMethod ov mn pl)
      callWith pos f first (backTo pos (starEach (e :: es) X.env)) (backToKw pos (keywordEach kws X.env))) := by rfl) :
    SE X W (.Call (.Attribute o mn apos) (e :: es) kws pos) (selfM c mn ma fun d => M.bind mas fun zs => M.bind mks fun ws => guardM (zs.length = j ∧ ws.length = ks.length) (callF m (kperm idx (d :: zs ++ (ws ++ dfl))))) := by
  obtain ⟨its, rd, hb⟩ := hb
  refine ⟨fun pins s σ H Q I ⟨Fz, P0, Mm, ρ, bs, B, q⟩ => ?_⟩
  have h0 : tE (fc := fcOf X) X.K W ma σ H (fun x H0 => ∃ a dx vs0, x = .ref a ∧ H0 a = some (.ins (ga X.K c) dx vs0) ∧ vs0.lookup mn = none ∧ tA (fc := fcOf X) X.K W mas σ H0 fun vs H1 => tA (fc := fcOf X) X.K W mks σ H1 fun zv H2 => vs.length = j ∧ zv.length = ks.length ∧
      spV X.K n m (kperm idx (.ref a :: vs ++ (zv ++ dvs))) H2 Q (WE W σ)) :=
    tM_then B q fun x d F0 M0 r0 b0 H0 l0 e0 B0 q0 h0 => by
      dsimp only at h0
      split at h0
      · rename_i hc
        obtain ⟨hc, hf0⟩ := hc
        obtain ⟨kk, a, dx, vs, fs, rfl, rfl, hS, hk, _, _, hH, h5, h6⟩ := isIns_at B0 q0 hc
        have hl : fs.lookup mn = none := noField_of hS hf0
        refine ⟨a, dx, vs, rfl, hH, (fs_find h5 h6).2 hl, ?_⟩
        exact tM_then B0 h0 fun xs zs F1 M1 r1 b1 H1 l1 e1 B1 q1 h1 => tM_then B1 h1 fun ys ws F2 M2 r2 b2 H2 l2 e2 B2 q2 h2 => by
          obtain ⟨⟨g1, g2⟩, h2⟩ := Post.guard h2
          exact ⟨q1.length.trans g1, q2.length.trans g2, sp_of ar B2 (kperm_rep (RepAll.append (.cons (q0.mono (l1.trans l2) (e1.trans e2)) (q1.mono l2 e2)) (q2.append (flats hf))) idx) h2⟩
      · exact h0.elim
  refine PySem.W.methodCall_KW (pl := pl) (thn (ho.run pins s σ H _ I h0) fun u s1 ⟨x, H1, I1, rx, a, dx, fs, ex, ea, l, q⟩ => ?_) ht
  subst ex
  obtain rfl : u = Value.ref a := rx
  refine getmeth_ok I1 ea cl hm l ?_
  refine PySem.W.callWith_KW (first := [.ref a]) (h₀ := X.base) I.ok.mod.kin hm.kp hall (thn (ha.run pos pins s1 σ H1 _ I1 q) fun us s2 ⟨vs, H2, I2, r, q2⟩ => thn (hkw.run pos pins s2 σ H2 _ I2 q2) fun ws s3 ⟨zv, H3, I3, rz, l1, l2, q3⟩ => ⟨I3.kIn, ?_⟩) hpl he
  rw [hks]
  exact run_fnK (us := .ref a :: us) (vs := .ref a :: vs) F hr (hb s3 (.ref a :: us) ws I3.kIn (congrArg Nat.succ (r.length.symm.trans l1)) (rz.length.symm.trans l2)) (passAt tk σ) I3 (.cons rfl r) rz rd q3
/-- o.m() -/
theorem se_meth0 {pl : Sem Bool} {idx : List Nat} (tk : Takes X W) (ho : SE X W o ma) (cl : Cls X.K (ga X.K c)) (hm : Meth X.K (ga X.K c) mn f) (F : FnOk X.prog X.w X.K X.mg X.base (CV X.prog X.w) k f fd ps (spV X.K n m)) (ar : Ar m n) (hr : Room k X.A)
    (hb : KBm X.K fd ps 0 [] dvs idx) (hf : Paired Flat dvs dfl)
    (ht : eval (.Call (.Attribute o mn apos) [] [] pos) X.env = (do
      let ov ← eval o X.env
      standAt apos.atName
      let (f, first) ← holding [ov] (getMethod ov mn pl)
      callWith pos f first (backTo pos (starEach [] X.env)) (backToKw pos (keywordEach [] X.env))) := by rfl) :
    SE X W (.Call (.Attribute o mn apos) [] [] pos) (selfM c mn ma fun d => callF m (kperm idx (d :: dfl))) := by
  obtain ⟨its, rd, hb⟩ := hb
  refine ⟨fun pins s σ H Q I ⟨Fz, P0, Mm, ρ, bs, B, q⟩ => ?_⟩
  have h0 : tE (fc := fcOf X) X.K W ma σ H (fun x H0 => ∃ a dx vs0, x = .ref a ∧ H0 a = some (.ins (ga X.K c) dx vs0) ∧ vs0.lookup mn = none ∧ spV X.K n m (kperm idx (.ref a :: dvs)) H0 Q (WE W σ)) :=
    tM_then B q fun x d F0 M0 r0 b0 H0 l0 e0 B0 q0 h0 => by
      dsimp only at h0
      split at h0
      · rename_i hc
        obtain ⟨hc, hf0⟩ := hc
        obtain ⟨kk, a, dx, vs, fs, rfl, rfl, hS, hk, _, _, hH, h5, h6⟩ := isIns_at B0 q0 hc
        have hl : fs.lookup mn = none := noField_of hS hf0
        exact ⟨a, dx, vs, rfl, hH, (fs_find h5 h6).2 hl, sp_of ar B0 (kperm_rep (.cons q0 (flats hf)) idx) h0⟩
      · exact h0.elim
  refine PySem.W.methodCall_KW (pl := pl) (thn (ho.run pins s σ H _ I h0) fun u s1 ⟨x, H1, I1, rx, a, dx, fs, ex, ea, l, q⟩ => ?_) ht
  subst ex
  obtain rfl : u = Value.ref a := rx
  refine getmeth_ok I1 ea cl hm l ?_
  exact PySem.W.callWith_K0 (first := [.ref a]) I1.kIn hm.kp (run_fnK (us := [.ref a]) (vs := [.ref a]) (ws := []) (zs := []) (ks := []) F hr (hb s1 [.ref a] [] I1.kIn rfl rfl) (passAt tk σ) I1 (.cons rfl .nil) .nil rd q)

/-! ### fields, properties -/
def fldM (c fn : Str) (mo : M D) : M D := M.bind mo fun d => fun b => match d with
  | .ptr k => (match b.g.S k with
    | some (.ins c' fs) => if c' = c then optM (fs.lookup fn) b else .fail
    | _ => .fail)
  | _ => .fail
theorem se_fld {fn : Str} (ho : SE X W o ma) (cl : Cls X.K (ga X.K c)) (na : NoAttr X.K (ga X.K c) fn) (hb : attributeBase o fn X.env (eval o X.env) = eval o X.env := by rfl) : SE X W (.Attribute o fn pos) (fldM c fn ma) :=
  SE.of (pe_fld ho hb) fun σ H F P0 Mm ρ bs Q B q => tM_then B q fun x d F1 M1 r1 b1 H1 l1 e1 B1 q1 h1 => by
    cases q1 with
    | ptr hk =>
      rename_i a k
      dsimp only at h1
      split at h1
      · rename_i c' fs e
        split at h1
        · rename_i hc
          subst hc
          obtain ⟨P, q, BB⟩ := id B1
          obtain ⟨a', dx, vs, y1, y2, y3, y4, y5, y6⟩ := BB.h.insAt e
          rw [hk] at y1; cases y1
          obtain ⟨d, e2, h1⟩ := Post.opt (γ := Unit) h1
          obtain ⟨v, e3, rv⟩ := (fs_find (f := fn) y5 y6).1 d e2
          exact ⟨a, _, dx, vs, v, rfl, y4, cl, na, e3, h1.now B1 rv⟩
        · exact h1.elim
      · exact h1.elim
    | _ => exact h1.elim
def propM (c : Str) (m : FnD) (mo : M D) : M D := M.bind mo fun d => fun b => if isIns c d b.g = true then callN m [d] b else .fail
theorem se_prop {fn : Str} {pa : Addr} (ho : SE X W o ma) (cl : Cls X.K (ga X.K c)) (hp : PropOf X.K (ga X.K c) fn pa f) (F : FnOk X.prog X.w X.K X.mg X.base (CV X.prog X.w) k f fd ps (spV X.K n m)) (ar : Ar m n) (hr : Room (k + 1) X.A) (hb : Binds X.K fd ps [])
    (hab : attributeBase o fn X.env (eval o X.env) = eval o X.env := by rfl) : SE X W (.Attribute o fn pos) (propM c m ma) :=
  SE.of (pe_prop ho cl hp F hr hb .nil (passL (X := X.nox)) hab) fun σ H F P0 Mm ρ bs Q B q => tM_then B q fun x d F1 M1 r1 b1 H1 l1 e1 B1 q1 h1 => by
    try dsimp only at h1
    split at h1
    · rename_i hc
      obtain ⟨kk, a, dx, vs, fs, rfl, rfl, hS, hk, _, _, hH, h5, h6⟩ := isIns_at B1 q1 hc
      exact ⟨a, dx, vs, rfl, hH, sp_ofN ar B1 (.cons q1 .nil) h1⟩
    · exact h1.elim

/-! ### built-ins -/
def CallV (X : Cx) (W : WX) (g : Value) (fn : List D → M D) : Prop := ∀ (xs : List V) (as : List D) (σ : St) (H F : Hp) (P0 : PX (fcOf X)) (Mm : Hp) (ρ : Rho) (b : BSt) (Q : VK), BRel X.K F P0 Mm ρ b σ H → RepAll X.K F ρ xs as →
  Post (Rep X.K) X.K W P0 F ρ σ Q (fn as b) → ∃ r, CallR X g r ∧ r xs H Q
theorem CallR.any {g : Value} : CallR X g (fun xs H Q => ∃ r, CallR X g r ∧ r xs H Q) := fun pins s σ H xs us Q I rx ⟨r, hr, q⟩ => hr pins s σ H xs us Q I rx q
theorem se_callB {id : String} {fn : List D → M D} (hc : CallV X W (.builtin id) fn) (hm : X.mg x = none) (hv : bootBuiltins x = some (.builtin id)) (ha : SA X W (e :: es) mas) (hg : Gl X x := by rfl) (hn : x ≠ "__name__" := by decide) (hdb : (x == ("__debug__" : Str)) = false := by decide)
    (he : starEach (e :: es) X.env = (false, eval e X.env) :: starEach es X.env := by rfl) (hpl : (backTo pos (starEach es X.env)).any (·.1) = false := by rfl) : SE X W (.Call (.Name x p) (e :: es) [] pos) (M.bind mas fn) :=
  SE.of (pe_callB CallR.any hg hm hv ha hn hdb he hpl) fun σ H F P0 Mm ρ bs Q B q => tM_then B q fun xs zs F1 M1 r1 b1 H1 l1 e1 B1 q1 h1 => hc xs zs σ H1 F1 P0 M1 r1 b1 Q B1 q1 h1
theorem se_callT {T : String} {fn : List D → M D} (hc : CallV X W (.type T) fn) (hm : X.mg x = none) (hv : bootBuiltins x = some (.type T)) (ha : SA X W (e :: es) mas) (hg : Gl X x := by rfl) (hn : x ≠ "__name__" := by decide) (hdb : (x == ("__debug__" : Str)) = false := by decide)
    (he : starEach (e :: es) X.env = (false, eval e X.env) :: starEach es X.env := by rfl) (hpl : (backTo pos (starEach es X.env)).any (·.1) = false := by rfl) : SE X W (.Call (.Name x p) (e :: es) [] pos) (M.bind mas fn) :=
  SE.of (pe_callTy CallR.any hg hm hv ha hn hdb he hpl) fun σ H F P0 Mm ρ bs Q B q => tM_then B q fun xs zs F1 M1 r1 b1 H1 l1 e1 B1 q1 h1 => hc xs zs σ H1 F1 P0 M1 r1 b1 Q B1 q1 h1
end
end L2.VI
/-! VI7: statements; methods of lists and dicts. -/
namespace L2.VI
open PySem PySem.Spec PyProof.Rows He

inductive Fl where
  | nx | ret (d : D) | brk | cnt
def PostS (K : PySem.W.Frag) (W : WX) {fc : FrC} (P0 : PX fc) (F : Hp) (ρ : Rho) (D : Ends) : R Fl → Prop
  | .ok .nx b' => ∀ (σ' : St) (F' M' : Hp) (ρ' : Rho) (H' : Hp), Leq F F' → Rle ρ ρ' → BRel K F' P0 M' ρ' b' σ' H' → D.nx σ' H'
  | .ok (.ret d) b' => ∀ (v : V) (σ' : St) (F' M' : Hp) (ρ' : Rho) (H' : Hp), Leq F F' → Rle ρ ρ' → BRel K F' P0 M' ρ' b' σ' H' → Rep K F' ρ' v d → D.rt v H'
  | .ok .brk b' => ∀ (σ' : St) (F' M' : Hp) (ρ' : Rho) (H' : Hp), Leq F F' → Rle ρ ρ' → BRel K F' P0 M' ρ' b' σ' H' → D.bk σ' H'
  | .ok .cnt b' => ∀ (σ' : St) (F' M' : Hp) (ρ' : Rho) (H' : Hp), Leq F F' → Rle ρ ρ' → BRel K F' P0 M' ρ' b' σ' H' → D.ct σ' H'
  | .exc x b' => ∀ (cls : Value) (d : Option Addr) (σ' : St) (F' M' : Hp) (ρ' : Rho) (H' : Hp), Leq F F' → Rle ρ ρ' → BRel K F' P0 M' ρ' b' σ' H' → RepX K F' ρ' x cls d → W cls d σ' H'
  | .fail => False
def sV {fc : FrC} (K : PySem.W.Frag) (W : WX) (m : M Fl) : TS := fun D σ H => ∃ (F : Hp) (P0 : PX fc) (Mm : Hp) (ρ : Rho) (b : BSt), BRel K F P0 Mm ρ b σ H ∧ PostS K W P0 F ρ D (m b)
def SS (X : Cx) (W : WX) (st : Stmt) (m : M Fl) : Prop := PS X st (sV (fc := fcOf X) X.K W m)
def SSs (X : Cx) (W : WX) (st : List Stmt) (m : M Fl) : Prop := PSs X st (sV (fc := fcOf X) X.K W m)
section
variable {K : PySem.W.Frag} {W : WX} {fc : FrC} {P0 : PX fc} {F F1 Mm H : Hp} {ρ r1 : Rho} {σ : St} {bs : BSt} {D0 D1 : Ends}
theorem PostS.mono {r : R Fl} (h : PostS K W P0 F ρ D0 r) (l : Leq F F1) (e : Rle ρ r1) : PostS K W P0 F1 r1 D0 r := by
  cases r with
  | ok a b' =>
    cases a with
    | nx => exact fun σ' F' M' ρ' H' l' e' B => h σ' F' M' ρ' H' (l.trans l') (e.trans e') B
    | ret d => exact fun v σ' F' M' ρ' H' l' e' B r => h v σ' F' M' ρ' H' (l.trans l') (e.trans e') B r
    | brk => exact fun σ' F' M' ρ' H' l' e' B => h σ' F' M' ρ' H' (l.trans l') (e.trans e') B
    | cnt => exact fun σ' F' M' ρ' H' l' e' B => h σ' F' M' ρ' H' (l.trans l') (e.trans e') B
  | exc x b' => exact fun c d σ' F' M' ρ' H' l' e' B r => h c d σ' F' M' ρ' H' (l.trans l') (e.trans e') B r
  | fail => exact h
theorem PostS.nxt (h : PostS K W P0 F ρ D0 (.ok .nx bs)) (B : BRel K F P0 Mm ρ bs σ H) : D0.nx σ H := h σ F Mm ρ H (Leq.refl _) (Rle.refl _) B
theorem sV_of {m : M Fl} (B : BRel K F P0 Mm ρ bs σ H) (h : PostS K W P0 F ρ D0 (m bs)) : sV (fc := fc) K W m D0 σ H := ⟨F, P0, Mm, ρ, bs, B, h⟩
/-- an expression ahead of the rest of a statement -/
theorem sM_then {α β : Type} {rel : Hp → Rho → β → α → Prop} {m : M α} {k : α → M Fl} {Q : β → Hp → Prop} (B : BRel K F P0 Mm ρ bs σ H) (h : PostS K W P0 F ρ D0 (M.bind m k bs))
    (hk : ∀ x a F1 M1 r1 b1 H1, Leq F F1 → Rle ρ r1 → BRel K F1 P0 M1 r1 b1 σ H1 → rel F1 r1 x a → PostS K W P0 F1 r1 D0 (k a b1) → Q x H1) : tM (fc := fc) rel K W m σ H Q := by
  refine ⟨F, P0, Mm, ρ, bs, B, ?_⟩
  unfold M.bind at h
  cases e : m bs with
  | ok a b' =>
    rw [e] at h
    exact fun x F' M' ρ' H' l r B' q => hk x a F' M' ρ' b' H' l r B' q (PostS.mono h l r)
  | exc x b' => rw [e] at h; exact fun c d F' M' ρ' H' l r B' q => h c d σ F' M' ρ' H' l r B' q
  | fail => rw [e] at h; exact h.elim
theorem sM_thenF {m : M SO} {k : SO → M Fl} {Q : VK} (B : BRel K F P0 Mm ρ bs σ H) (h : PostS K W P0 F ρ D0 (M.bind m k bs))
    (hk : ∀ p so F1 M1 r1 b1 H1, Leq F F1 → Rle ρ r1 → Frs K F1 P0 M1 r1 b1 σ H1 p so → PostS K W P0 F1 r1 D0 (k so b1) → Q (.ref p) H1) : tF (fc := fc) K W m σ H Q := by
  refine ⟨F, P0, Mm, ρ, bs, B, ?_⟩
  unfold M.bind at h
  cases e : m bs with
  | ok a b' =>
    rw [e] at h
    exact fun p F' M' ρ' H' l r B' => hk p a F' M' ρ' b' H' l r B' (PostS.mono h l r)
  | exc x b' => rw [e] at h; exact fun c d F' M' ρ' H' l r B' q => h c d σ F' M' ρ' H' l r B' q
  | fail => rw [e] at h; exact h.elim
theorem PostS.guard {c : Prop} [Decidable c] {m : M Fl} (h : PostS K W P0 F ρ D0 (guardM c m bs)) : c ∧ PostS K W P0 F ρ D0 (m bs) := by
  unfold guardM at h
  split at h
  · rename_i hc; exact ⟨hc, h⟩
  · exact h.elim
theorem PostS.opt {α : Type} {o : Option α} {k : α → M Fl} (h : PostS K W P0 F ρ D0 (M.bind (optM o) k bs)) : ∃ a, o = some a ∧ PostS K W P0 F ρ D0 (k a bs) := by
  cases o with
  | none => exact h.elim
  | some a => exact ⟨a, rfl, h⟩
end
def seqM (m k : M Fl) : M Fl := M.bind m fun f => match f with
  | .nx => k
  | f => M.ret f
section
variable {X : Cx} {W : WX} {pos : Pos} {st : Stmt} {rest : List Stmt} {e : Expr} {m k : M Fl} {me : M D}
theorem SS.of {t : TS} (h : PS X st t) (ht : ∀ σ H F (P0 : PX (fcOf X)) Mm ρ b D, BRel X.K F P0 Mm ρ b σ H → PostS X.K W P0 F ρ D (m b) → t D σ H) : SS X W st m := ⟨fun pins s σ H D I ⟨F, P0, Mm, ρ, b, B, q⟩ => h.run pins s σ H D I (ht σ H F P0 Mm ρ b D B q)⟩
theorem SSs.of {st : List Stmt} {t : TS} (h : PSs X st t) (ht : ∀ σ H F (P0 : PX (fcOf X)) Mm ρ b D, BRel X.K F P0 Mm ρ b σ H → PostS X.K W P0 F ρ D (m b) → t D σ H) : SSs X W st m := ⟨fun pins s σ H D I ⟨F, P0, Mm, ρ, b, B, q⟩ => h.run pins s σ H D I (ht σ H F P0 Mm ρ b D B q)⟩
theorem ss_nil : SSs X W [] (M.ret .nx) := SSs.of pss_nil fun σ H F P0 Mm ρ b D B q => q.nxt B
theorem ss_one (h : SS X W st m) : SSs X W [st] m := pss_one h
theorem ss_cons (h1 : SS X W st m) (h2 : SSs X W rest k) : SSs X W (st :: rest) (seqM m k) :=
  SSs.of (pss_cons h1 h2) fun σ H F P0 Mm ρ b D B q => by
    refine ⟨F, P0, Mm, ρ, b, B, ?_⟩
    unfold seqM M.bind at q
    cases e : m b with
    | ok a b' =>
      rw [e] at q
      cases a with
      | nx => exact fun σ' F' M' ρ' H' l r B' => sV_of B' (PostS.mono q l r)
      | ret d => exact q
      | brk => exact q
      | cnt => exact q
    | exc x b' => rw [e] at q; exact q
    | fail => rw [e] at q; exact q.elim
theorem ss_never {st : Stmt} : SS X W st M.fail := ⟨fun _ _ _ _ _ _ ⟨_, _, _, _, _, _, q⟩ => False.elim q⟩
theorem sss_never {sts : List Stmt} : SSs X W sts M.fail := ⟨fun _ _ _ _ _ _ ⟨_, _, _, _, _, _, q⟩ => False.elim q⟩
theorem ss_pass : SS X W (.Pass pos) (M.ret .nx) := SS.of ps_pass fun σ H F P0 Mm ρ b D B q => q.nxt B
theorem ss_brk : SS X W (.Break pos) (M.ret .brk) := SS.of ps_break fun σ H F P0 Mm ρ b D B q => q σ F Mm ρ H (Leq.refl _) (Rle.refl _) B
theorem ss_cont : SS X W (.Continue pos) (M.ret .cnt) := SS.of ps_continue fun σ H F P0 Mm ρ b D B q => q σ F Mm ρ H (Leq.refl _) (Rle.refl _) B
def exprM (m : M D) : M Fl := M.bind m fun _ => M.ret .nx
theorem ss_expr (h : SE X W e me) (hs : swapsWith e none pos.line X.env = pure false := by rfl) : SS X W (.Expr e pos) (exprM me) :=
  SS.of (ps_expr h hs) fun σ H F P0 Mm ρ b D B q => sM_then B q fun x d F1 M1 r1 b1 H1 l1 e1 B1 q1 h1 => h1.nxt B1
def retM (m : M D) : M Fl := M.bind m fun d => M.ret (.ret d)
theorem ss_ret (h : SE X W e me) : SS X W (.Return (some e) pos) (retM me) :=
  SS.of (ps_ret h) fun σ H F P0 Mm ρ b D B q => sM_then B q fun x d F1 M1 r1 b1 H1 l1 e1 B1 q1 h1 => h1 x σ F1 M1 r1 H1 (Leq.refl _) (Rle.refl _) B1 q1
theorem ss_retN : SS X W (.Return none pos) (M.ret (.ret .non)) := SS.of ps_retN fun σ H F P0 Mm ρ b D B q => q .non σ F Mm ρ H (Leq.refl _) (Rle.refl _) B .non
theorem ss_if {c : Expr} {a b : List Stmt} {tc : M Bool} {ma mb : M Fl} (hc : SB X W c tc) (ha : SSs X W a ma) (hb : SSs X W b mb) : SS X W (.If c a b pos) (ifM tc ma mb) :=
  SS.of (ps_if hc ha hb) fun σ H F P0 Mm ρ b D B q => sM_then B q fun x c F1 M1 r1 b1 H1 l1 e1 B1 q1 h1 => by
    subst q1
    cases x with
    | true => exact (if_pos rfl).mpr (sV_of B1 h1)
    | false => exact (if_neg Bool.false_ne_true).mpr (sV_of B1 h1)
/-! stores -/
def setV (i : Nat) (d : D) : M Fl := fun b => .ok .nx { b with t := b.t.set i (some (.val d)) }
def setO (i : Nat) (so : SO) : M Fl := fun b => .ok .nx { b with t := b.t.set i (some (.own so)) }
theorem ss_set {i : Nat} {x : Str} {pos' : Pos} (hN : X.N.Nodup) (he : SE X W e me) (hx : Loc X.env.scope x := by first | exact Or.inl rfl | exact Or.inr rfl) (hi : X.N[i]? = some x := by rfl) (hs : swapsWith e (some (.Name x pos')) pos.line X.env = pure false := by rfl)
    (hf : X.fn x = true ∨ X.env.scope.names.lookup x = some .local := by first | exact .inl rfl | exact .inr rfl | assumption) : SS X W (.Assign [.Name x pos'] e pos) (M.bind me (setV i)) :=
  SS.of (ps_set hN hi hx he hs hf) fun σ H F P0 Mm ρ b D B q => sM_then B q fun x d F1 M1 r1 b1 H1 l1 e1 B1 q1 h1 => h1.nxt (B1.setV i q1)
theorem ss_setO {i : Nat} {x : Str} {pos' : Pos} {mo : M SO} (hN : X.N.Nodup) (he : SN X W e mo) (hx : Loc X.env.scope x := by first | exact Or.inl rfl | exact Or.inr rfl) (hi : X.N[i]? = some x := by rfl) (hs : swapsWith e (some (.Name x pos')) pos.line X.env = pure false := by rfl)
    (hf : X.fn x = true ∨ X.env.scope.names.lookup x = some .local := by first | exact .inl rfl | exact .inr rfl | assumption) : SS X W (.Assign [.Name x pos'] e pos) (M.bind mo (setO i)) :=
  SS.of (ps_set hN hi hx he hs hf) fun σ H F P0 Mm ρ b D B q => sM_thenF B q fun p so F1 M1 r1 b1 H1 l1 e1 B1 h1 => h1.nxt (B1.setO i)
/-! a, b = x, y -/
def set2 (i j : Nat) (ms : M (List D)) : M Fl := M.bind ms fun ds => match ds with
  | [a, c] => seqM (setV i a) (setV j c)
  | _ => M.fail
theorem ss_par {i j : Nat} {x y : Str} {a b : Expr} {ms : M (List D)} {px py pt : Pos} {kt k2 pt2} (hN : X.N.Nodup) (hij : i ≠ j) (ha : SA X W [a, b] ms)
    (hw : swappedStores [.Tuple [.Name x px, .Name y py] kt pt] (.Tuple [a, b] k2 pt2) X.env = pure (some [x, y])) (hc : X.calm = true := by rfl) (hi : X.N[i]? = some x := by rfl) (hj : X.N[j]? = some y := by rfl) (hx : X.env.scope.names.lookup x = some .local := by rfl) (hy : X.env.scope.names.lookup y = some .local := by rfl)
    (hs : swapsWithSole [.Tuple [.Name x px, .Name y py] kt pt] (.Tuple [a, b] k2 pt2) pos.line X.env = pure false := by rfl) :
    SS X W (.Assign [.Tuple [.Name x px, .Name y py] kt pt] (.Tuple [a, b] k2 pt2) pos) (set2 i j ms) :=
  SS.of (ps_par hc hN hi hj hij hx hy ha hw hs) fun σ H F P0 Mm ρ b D B q => sM_then B q fun xs ds F1 M1 r1 b1 H1 l1 e1 B1 q1 h1 => by
    cases q1 with
    | nil => exact h1.elim
    | cons r1 q1 =>
      cases q1 with
      | nil => exact h1.elim
      | cons r2 q1 =>
        cases q1 with
        | cons r3 q1 => exact h1.elim
        | nil => exact ⟨_, _, rfl, PostS.nxt (W := W) h1 ((B1.setV i r1).setV j r2)⟩
def set3 (i j l : Nat) (ms : M (List D)) : M Fl := M.bind ms fun ds => match ds with
  | [a, c, d] => seqM (setV i a) (seqM (setV j c) (setV l d))
  | _ => M.fail
theorem ss_par3 {i j l : Nat} {x y z : Str} {a b c : Expr} {ms : M (List D)} {px py pz pt : Pos} {kt k2 pt2} (hN : X.N.Nodup) (hij : i ≠ j) (hil : i ≠ l) (hjl : j ≠ l) (ha : SA X W [a, b, c] ms)
    (hw : swappedStores [.Tuple [.Name x px, .Name y py, .Name z pz] kt pt] (.Tuple [a, b, c] k2 pt2) X.env = pure (some [x, y, z])) (hc : X.calm = true := by rfl) (hi : X.N[i]? = some x := by rfl) (hj : X.N[j]? = some y := by rfl) (hl : X.N[l]? = some z := by rfl) (hx : X.env.scope.names.lookup x = some .local := by rfl) (hy : X.env.scope.names.lookup y = some .local := by rfl) (hz : X.env.scope.names.lookup z = some .local := by rfl)
    (hs : swapsWithSole [.Tuple [.Name x px, .Name y py, .Name z pz] kt pt] (.Tuple [a, b, c] k2 pt2) pos.line X.env = pure false := by rfl) :
    SS X W (.Assign [.Tuple [.Name x px, .Name y py, .Name z pz] kt pt] (.Tuple [a, b, c] k2 pt2) pos) (set3 i j l ms) :=
  SS.of (ps_par3 hc hN hi hj hl hij hil hjl hx hy hz ha hw hs) fun σ H F P0 Mm ρ b D B q => sM_then B q fun xs ds F1 M1 r1 b1 H1 l1 e1 B1 q1 h1 => by
    cases q1 with
    | nil => exact h1.elim
    | cons r1 q1 =>
      cases q1 with
      | nil => exact h1.elim
      | cons r2 q1 =>
        cases q1 with
        | nil => exact h1.elim
        | cons r3 q1 =>
          cases q1 with
          | cons r4 q1 => exact h1.elim
          | nil => exact ⟨_, _, _, rfl, PostS.nxt (W := W) h1 (((B1.setV i r1).setV j r2).setV l r3)⟩
/-! targets -/
/-- a target takes a value; it writes the slots vs alone -/
def PostT (K : PySem.W.Frag) {fc : FrC} (P0 : PX fc) (F : Hp) (ρ : Rho) (vs : List Nat) (σ : St) (Q : St → Hp → Prop) : Option BSt → Prop
  | some b' => ∀ (σ' : St) (F' M' : Hp) (ρ' : Rho) (H' : Hp), Leq F F' → Rle ρ ρ' → BRel K F' P0 M' ρ' b' σ' H' → wipe σ' vs = wipe σ vs → Q σ' H'
  | none => False
abbrev TgM := D → BSt → Option BSt
abbrev TgsM := List D → BSt → Option BSt
def tG {fc : FrC} (K : PySem.W.Frag) (vs : List Nat) (m : TgM) : TG := fun v σ H Q => ∃ (F : Hp) (P0 : PX fc) (Mm : Hp) (ρ : Rho) (b : BSt) (d : D), BRel K F P0 Mm ρ b σ H ∧ Rep K F ρ v d ∧ PostT K P0 F ρ vs σ Q (m d b)
def SG (X : Cx) (vs : List Nat) (tg : Expr) (m : TgM) : Prop := PG X tg (tG (fc := fcOf X) X.K vs m)
def SGs (X : Cx) (vs : List Nat) (tgs : List Expr) (m : TgsM) : Prop := PGs X tgs fun ws σ H Q => ∃ (F : Hp) (P0 : PX (fcOf X)) (Mm : Hp) (ρ : Rho) (b : BSt) (ds : List D), BRel X.K F P0 Mm ρ b σ H ∧ RepAll X.K F ρ ws ds ∧ PostT X.K P0 F ρ vs σ Q (m ds b)
theorem PostT.mono {K : PySem.W.Frag} {fc : FrC} {P0 : PX fc} {F F1 : Hp} {ρ r1 : Rho} {vs : List Nat} {σ τ : St} {Q : St → Hp → Prop} {r : Option BSt} (h : PostT K P0 F ρ vs σ Q r) (l : Leq F F1) (e : Rle ρ r1) (hw : wipe τ vs = wipe σ vs) : PostT K P0 F1 r1 vs τ Q r := by
  cases r with
  | some b' => exact fun σ' F' M' ρ' H' l' e' B w => h σ' F' M' ρ' H' (l.trans l') (e.trans e') B (w.trans hw)
  | none => exact h
theorem SG.of {tg : Expr} {vs : List Nat} {m : TgM} {t : TG} (h : PG X tg t) (ht : ∀ v σ H F (P0 : PX (fcOf X)) Mm ρ b d Q, BRel X.K F P0 Mm ρ b σ H → Rep X.K F ρ v d → PostT X.K P0 F ρ vs σ Q (m d b) → t v σ H Q) : SG X vs tg m :=
  ⟨fun pins s σ H v u Q I r ⟨F, P0, Mm, ρ, b, d, B, rr, q⟩ => h.run pins s σ H v u Q I r (ht v σ H F P0 Mm ρ b d Q B rr q)⟩
theorem SGs.of {tg : List Expr} {vs : List Nat} {m : TgsM} {t : TGs} (h : PGs X tg t) (ht : ∀ v σ H F (P0 : PX (fcOf X)) Mm ρ b d Q, BRel X.K F P0 Mm ρ b σ H → RepAll X.K F ρ v d → PostT X.K P0 F ρ vs σ Q (m d b) → t v σ H Q) : SGs X vs tg m :=
  ⟨fun pins s σ H v u Q I r ⟨F, P0, Mm, ρ, b, d, B, rr, q⟩ => h.run pins s σ H v u Q I r (ht v σ H F P0 Mm ρ b d Q B rr q)⟩
theorem wipe_set {σ : St} {i : Nat} {v : Option V} : ∀ {vs : List Nat}, i ∈ vs → wipe (σ.set i v) vs = wipe σ vs
  | [], h => by cases h
  | w :: vs, h => by
    show (wipe (σ.set i v) vs).set w none = (wipe σ vs).set w none
    by_cases hm : i ∈ vs
    · rw [wipe_set hm]
    · rcases List.mem_cons.mp h with e | h
      · subst e
        have key : ∀ (ws : List Nat), i ∉ ws → wipe (σ.set i v) ws = (wipe σ ws).set i v := by
          intro ws
          induction ws with
          | nil => intro _; rfl
          | cons w ws ih =>
            intro h
            simp only [List.mem_cons, not_or] at h
            show (wipe (σ.set i v) ws).set w none = ((wipe σ ws).set w none).set i v
            rw [ih h.2, List.set_comm _ _ h.1]
        rw [key vs hm, List.set_set]
      · exact absurd h hm
def gSet (i : Nat) : TgM := fun d b => some { b with t := b.t.set i (some (.val d)) }
theorem sg_name {i : Nat} {vs : List Nat} {x : Str} (hN : X.N.Nodup) (hm : i ∈ vs := by decide) (hx : Loc X.env.scope x := by first | exact Or.inl rfl | exact Or.inr rfl) (hi : X.N[i]? = some x := by rfl) (hf : X.fn x = true ∨ X.env.scope.names.lookup x = some .local := by first | exact .inl rfl | exact .inr rfl | assumption) : SG X vs (.Name x pos) (gSet i) :=
  SG.of (pg_name hN hi hx hf) fun v σ H F P0 Mm ρ b d Q B r q => q _ F Mm ρ H (Leq.refl _) (Rle.refl _) (B.setV i r) (wipe_set hm)
def gsNil : TgsM := fun ds b => match ds with
  | [] => some b
  | _ => none
def gsCons (m : TgM) (k : TgsM) : TgsM := fun ds b => match ds with
  | d :: r => (m d b).bind (k r)
  | _ => none
theorem sgs_nil {vs : List Nat} : SGs X vs [] gsNil := SGs.of pgs_nil fun v σ H F P0 Mm ρ b d Q B r q => by
  cases r with
  | nil => exact ⟨rfl, q σ F Mm ρ H (Leq.refl _) (Rle.refl _) B rfl⟩
  | cons _ _ => exact q.elim
theorem sgs_cons {t : Expr} {vs : List Nat} {ts : List Expr} {m : TgM} {k : TgsM} (h1 : SG X vs t m) (h2 : SGs X vs ts k) (hs : (assignEach (t :: ts) X.env).map (·.2) = assign t X.env :: (assignEach ts X.env).map (·.2) := by rfl) : SGs X vs (t :: ts) (gsCons m k) :=
  SGs.of (pgs_cons h1 h2 hs) fun v σ H F P0 Mm ρ b d Q B r q => by
    cases r with
    | nil => exact q.elim
    | cons r rr =>
      rename_i v1 ws d1 ds
      refine ⟨_, _, rfl, F, P0, Mm, ρ, b, _, B, r, ?_⟩
      have q2 : PostT X.K P0 F ρ vs σ Q ((m d1 b).bind (k ds)) := q
      cases e : m d1 b with
      | none => rw [e] at q2; exact q2.elim
      | some b1 =>
        rw [e] at q2
        exact fun σ' F' M' ρ' H' l' e' B' w => ⟨F', P0, M', ρ', b1, _, B', rr.mono l' e', PostT.mono q2 l' e' w⟩
def gTupM (n : Nat) (m : TgsM) : TgM := fun d b => match d with
  | .tup ds => if ds.length = n then m ds b else none
  | _ => none
theorem sg_tup {ts : List Expr} {vs : List Nat} {kk n : Nat} {m : TgsM} (h : SGs X vs ts m) (hc : X.calm = true := by rfl) (hn : (assignEach ts X.env).length = n := by rfl) (hst : (assignEach ts X.env).findIdx? (·.1) = none := by rfl) : SG X vs (.Tuple ts kk pos) (gTupM n m) :=
  SG.of (pg_tup hc h hn hst) fun v σ H F P0 Mm ρ b d Q B r q => by
    cases r with
    | tup h1 r1 =>
      unfold gTupM at q
      dsimp only at q
      split at q
      · rename_i hl
        exact ⟨_, _, rfl, Rep.sqT (P := fun _ => none) B h1, by rw [r1.length]; exact hl, F, P0, Mm, ρ, b, _, B, r1, q⟩
      · exact q.elim
    | _ => exact q.elim
def tgM (g : TgM) (d : D) : M Fl := fun b => match g d b with
  | some b' => .ok .nx b'
  | none => .fail
def asgM (me : M D) (g : TgM) : M Fl := M.bind me (tgM g)
theorem ss_asg {tg e : Expr} {vs : List Nat} {g : TgM} (he : SE X W e me) (hg : SG X vs tg g) (hs : swapsWithSole [tg] e pos.line X.env = pure false := by rfl) (hw : swappedStores [tg] e X.env = pure none := by rfl)
    (h1 : (assignEach [tg] X.env).map (·.2) = [assign tg X.env] := by rfl) : SS X W (.Assign [tg] e pos) (asgM me g) :=
  SS.of (ps_asg he hg hs hw h1) fun σ H F P0 Mm ρ b D B q => sM_then B q fun x d F1 M1 r1 b1 H1 l1 e1 B1 q1 h1 => by
    refine ⟨F1, P0, M1, r1, b1, d, B1, q1, ?_⟩
    unfold tgM at h1
    split at h1
    · rename_i b2 e
      rw [e]
      exact fun σ' F' M' ρ' H' l' e' B' _ => h1 σ' F' M' ρ' H' l' e' B'
    · exact h1.elim
end
end L2.VI
/-! VI8: loops, what they walk, comprehensions. -/
namespace L2.VI
open PySem PySem.Spec PyProof.Rows He

/-! ### while -/
def turnM (body k : M Fl) : M Fl := fun b => match body b with
  | .ok .nx b' => k b'
  | .ok .cnt b' => k b'
  | .ok .brk b' => .ok .nx b'
  | r => r
def whileN (c : M Bool) (body : M Fl) : Nat → M Fl
  | 0 => M.fail
  | n + 1 => ifM c (turnM body (whileN c body n)) (M.ret .nx)
open Classical in
noncomputable def whileM (c : M Bool) (body : M Fl) : M Fl := fun b => if h : ∃ n, whileN c body n b ≠ .fail then whileN c body h.choose b else .fail
theorem whileN_succ {c : M Bool} {body : M Fl} : ∀ {n : Nat} {b : BSt}, whileN c body n b ≠ .fail → whileN c body (n + 1) b = whileN c body n b
  | 0, _, h => absurd rfl h
  | n + 1, b, h => by
    have h2 : ifM c (turnM body (whileN c body n)) (M.ret .nx) b ≠ .fail := h
    show ifM c (turnM body (whileN c body (n + 1))) (M.ret .nx) b = ifM c (turnM body (whileN c body n)) (M.ret .nx) b
    unfold ifM M.bind at h2 ⊢
    cases e : c b with
    | ok t b1 =>
      rw [e] at h2
      dsimp only at h2 ⊢
      cases t with
      | false => rfl
      | true =>
        rw [if_pos rfl] at h2 ⊢
        rw [if_pos rfl]
        unfold turnM at h2 ⊢
        cases e2 : body b1 with
        | ok f b2 =>
          rw [e2] at h2
          cases f with
          | nx => exact whileN_succ h2
          | cnt => exact whileN_succ h2
          | brk => rfl
          | ret d => rfl
        | exc x b2 => rfl
        | fail => rfl
    | exc x b1 => rfl
    | fail => rfl
theorem whileN_le {c : M Bool} {body : M Fl} {n : Nat} {b : BSt} (h : whileN c body n b ≠ .fail) : ∀ k, whileN c body (n + k) b = whileN c body n b
  | 0 => rfl
  | k + 1 => by
    have e := whileN_le h k
    have h2 : whileN c body (n + k) b ≠ .fail := by rw [e]; exact h
    rw [← e]; exact whileN_succ h2
theorem whileM_of {c : M Bool} {body : M Fl} {n : Nat} {b : BSt} (h : whileN c body n b ≠ .fail) : whileM c body b = whileN c body n b := by
  unfold whileM
  have hx : ∃ n, whileN c body n b ≠ .fail := ⟨n, h⟩
  rw [dif_pos hx]
  have h1 := hx.choose_spec
  have e1 := whileN_le h1 n
  have e2 := whileN_le h hx.choose
  rw [← e1, ← e2, Nat.add_comm]
theorem whileM_ok {c : M Bool} {body : M Fl} {b : BSt} (h : whileM c body b ≠ .fail) : ∃ n, whileM c body b = whileN c body n b ∧ whileN c body n b ≠ .fail := by
  by_cases hx : ∃ n, whileN c body n b ≠ .fail
  · obtain ⟨n, hn⟩ := hx
    exact ⟨n, whileM_of hn, hn⟩
  · unfold whileM at h
    rw [dif_neg hx] at h
    exact absurd rfl h
/-- one turn -/
theorem whileM_eq (c : M Bool) (body : M Fl) (b : BSt) : whileM c body b = ifM c (turnM body (whileM c body)) (M.ret .nx) b := by
  by_cases h : whileM c body b = .fail
  · rw [h]
    by_cases h2 : ifM c (turnM body (whileM c body)) (M.ret .nx) b = .fail
    · exact h2.symm
    · exfalso
      -- the right side has an answer: so has some whileN
      have key : ∃ n, ifM c (turnM body (whileN c body n)) (M.ret .nx) b ≠ .fail := by
        unfold ifM M.bind at h2 ⊢
        cases e : c b with
        | ok t b1 =>
          rw [e] at h2
          dsimp only at h2 ⊢
          cases t with
          | false => exact ⟨0, fun z => by cases z⟩
          | true =>
            rw [if_pos rfl] at h2
            unfold turnM at h2
            cases e2 : body b1 with
            | ok f b2 =>
              rw [e2] at h2
              cases f with
              | nx =>
                obtain ⟨n, _, hn⟩ := whileM_ok h2
                exact ⟨n, by rw [if_pos rfl]; unfold turnM; rw [e2]; exact hn⟩
              | cnt =>
                obtain ⟨n, _, hn⟩ := whileM_ok h2
                exact ⟨n, by rw [if_pos rfl]; unfold turnM; rw [e2]; exact hn⟩
              | brk => exact ⟨0, by rw [if_pos rfl]; unfold turnM; rw [e2]; exact fun z => by cases z⟩
              | ret d => exact ⟨0, by rw [if_pos rfl]; unfold turnM; rw [e2]; exact fun z => by cases z⟩
            | exc x b2 => exact ⟨0, by rw [if_pos rfl]; unfold turnM; rw [e2]; exact fun z => by cases z⟩
            | fail => rw [e2] at h2; exact absurd rfl h2
        | exc x b1 => exact ⟨0, fun z => by cases z⟩
        | fail => rw [e] at h2; exact absurd rfl h2
      obtain ⟨n, hn⟩ := key
      have hn' : whileN c body (n + 1) b ≠ .fail := hn
      rw [whileM_of hn'] at h
      exact hn' h
  · obtain ⟨n, e1, h1⟩ := whileM_ok h
    rw [e1]
    cases n with
    | zero => exact absurd rfl h1
    | succ n =>
      have h2 : ifM c (turnM body (whileN c body n)) (M.ret .nx) b ≠ .fail := h1
      show ifM c (turnM body (whileN c body n)) (M.ret .nx) b = ifM c (turnM body (whileM c body)) (M.ret .nx) b
      unfold ifM M.bind at h2 ⊢
      cases e : c b with
      | ok t b1 =>
        rw [e] at h2
        dsimp only at h2 ⊢
        cases t with
        | false => rfl
        | true =>
          rw [if_pos rfl] at h2 ⊢
          rw [if_pos rfl]
          unfold turnM at h2 ⊢
          cases e2 : body b1 with
          | ok f b2 =>
            rw [e2] at h2
            cases f with
            | nx => exact (whileM_of h2).symm
            | cnt => exact (whileM_of h2).symm
            | brk => rfl
            | ret d => rfl
          | exc x b2 => rfl
          | fail => rfl
      | exc x b1 => rfl
      | fail => rfl
section
variable {X : Cx} {W : WX} {pos : Pos}
theorem ss_while {c : Expr} {body : List Stmt} {tc : M Bool} {mb : M Fl} (hp : PassesOwn (model X.prog X.w) X.A X.env X.xe) (hc : SB X W c tc) (hb : SSs X W body mb) : SS X W (.While c body [] pos) (whileM tc mb) :=
  SS.of (ps_while hp hc hb) fun σ H F P0 Mm ρ b D B q => by
    have hq : whileM tc mb b ≠ .fail := fun z => by rw [z] at q; exact q
    obtain ⟨n, e, _⟩ := whileM_ok hq
    rw [e] at q
    refine ⟨fun n σ H => ∃ F' Mm ρ' b, Leq F F' ∧ Rle ρ ρ' ∧ BRel X.K F' P0 Mm ρ' b σ H ∧ PostS X.K W P0 F' ρ' D (whileN tc mb n b), ⟨n, F, Mm, ρ, b, Leq.refl _, Rle.refl _, B, q⟩, ?_⟩
    rintro n σ H ⟨F1, M1, r1, b1, l1, e1, B1, q1⟩
    cases n with
    | zero => exact q1.elim
    | succ n =>
      refine sM_then B1 q1 fun x t F2 M2 r2 b2 H2 l2 e2 B2 q2 h2 => ?_
      subst q2
      cases x with
      | false => exact (if_neg Bool.false_ne_true).mpr (PostS.nxt (W := W) h2 B2)
      | true =>
        refine (if_pos rfl).mpr ⟨fun σ' H' => ∃ F' Mm ρ' b, Leq F F' ∧ Rle ρ ρ' ∧ BRel X.K F' P0 Mm ρ' b σ' H' ∧ PostS X.K W P0 F' ρ' D (whileN tc mb n b), fun σ' H' h => ⟨n, Nat.lt_succ_self n, h⟩, F2, P0, M2, r2, b2, B2, ?_⟩
        have h2' : PostS X.K W P0 F2 r2 D (turnM mb (whileN tc mb n) b2) := h2
        unfold turnM at h2'
        cases e3 : mb b2 with
        | ok f b3 =>
          rw [e3] at h2'
          cases f with
          | nx => exact fun σ' F' M' ρ' H' l' e' B' => ⟨F', M', ρ', b3, (l1.trans l2).trans l', (e1.trans e2).trans e', B', PostS.mono h2' l' e'⟩
          | cnt => exact fun σ' F' M' ρ' H' l' e' B' => ⟨F', M', ρ', b3, (l1.trans l2).trans l', (e1.trans e2).trans e', B', PostS.mono h2' l' e'⟩
          | brk => exact h2'
          | ret d => exact h2'
        | exc x b3 => rw [e3] at h2'; exact h2'
        | fail => rw [e3] at h2'; exact h2'
end

/-! ### what a loop walks -/
/-- the iterator yields ds -/
def ItrOf (K : PySem.W.Frag) {fc : FrC} (P0 : PX fc) (σ0 : St) (J : It) (F0 : Hp) (r0 : Rho) (ds : List D) : Prop := ∀ (i : Nat) (F Mm : Hp) (ρ : Rho) (fc1 : FrC) (P1 : PX fc1) (b : BSt) (σ : St) (H : Hp), Leq F0 F → Rle r0 ρ → BRel K F P1 Mm ρ b σ H →
  (ds.length ≤ i → J.stop i H) ∧ (i < ds.length → J.go i H ∧ ∀ x H', J.yld i H x H' → ∃ F', Leq F F' ∧ BRel K F' P1 Mm ρ b σ H' ∧ ∀ d, ds[i]? = some d → Rep K F' ρ x d)
def PostI (K : PySem.W.Frag) (W : WX) {fc : FrC} (P0 : PX fc) (F : Hp) (ρ : Rho) (σ : St) (Q : It → Hp → Prop) : R (List D) → Prop
  | .ok ds b' => ∀ (J : It) (F' M' : Hp) (ρ' : Rho) (H' : Hp), Leq F F' → Rle ρ ρ' → BRel K F' P0 M' ρ' b' σ H' → ItrOf K P0 σ J F' ρ' ds → Q J H'
  | .exc x b' => ∀ (cls : Value) (d : Option Addr) (F' M' : Hp) (ρ' : Rho) (H' : Hp), Leq F F' → Rle ρ ρ' → BRel K F' P0 M' ρ' b' σ H' → RepX K F' ρ' x cls d → W cls d σ H'
  | .fail => False
def SI (X : Cx) (W : WX) (tg e : Expr) (m : M (List D)) : Prop := PI X tg e fun σ H R => ∃ (F : Hp) (P0 : PX (fcOf X)) (Mm : Hp) (ρ : Rho) (b : BSt), BRel X.K F P0 Mm ρ b σ H ∧ PostI X.K W P0 F ρ σ R (m b)
/-- the items of a sequence -/
def itemsOf : D → Option (List D)
  | .lst xs => some xs
  | .tup xs => some xs
  | .scr ns => some (ns.map .int)
  | _ => none
def itemsM (m : M D) : M (List D) := M.bind m fun d => optM (itemsOf d)
section
variable {X : Cx} {W : WX} {pos : Pos} {tg e : Expr} {me : M D} {K : PySem.W.Frag} {F : Hp} {fc : FrC} {P0 : PX fc} {Mm H : Hp} {ρ : Rho} {bs : BSt} {σ : St}
def iSeq (K : PySem.W.Frag) (tl : TE) : TI := fun σ H R => tl σ H fun x H1 => ∃ a, x = .ref a ∧ (((∃ xs, SqL K H1 a xs) ∧ R (Itl K a) H1) ∨ ((∃ xs, SqT K H1 a xs) ∧ R (Itt K a) H1))
theorem pi_seq {l : Expr} {tl : TE} (hl : PE X l tl) : PI X tg l (iSeq X.K tl) := by
  refine ⟨fun pins s σ H R I h => ?_⟩
  refine thn (hl.run pins s σ H _ I h) fun v s1 ⟨x, H1, I1, r1, q1⟩ => ?_
  obtain ⟨a, e, q⟩ := q1
  subst e
  rcases q with ⟨⟨xs, hq⟩, q⟩ | ⟨⟨xs, hq⟩, q⟩
  · cases r1
    obtain ⟨its, rv, p, hz⟩ := I1.list hq
    refine wpAny_pyIter_list p.isList ?_
    refine ⟨s1.heap.objs.size, [s1.heap.objs.size], _, _, H1, rfl, I1.kept (t' := s1.toks) fun b o e => Heap.get?_push_of_some _ e, turn_list a _, ⟨_, Heap.get?_push_size _ rfl, rfl, rfl⟩, fun b hb => ?_, q⟩
    have e : b = s1.heap.objs.size := by simpa using hb
    subst e
    exact I1.fpOk (Nat.le_refl _) (I1.hok.fresh (Nat.le_refl _))
  · cases r1
    obtain ⟨its, rv, p, hz⟩ := I1.tuple hq
    refine wpAny_pyIter_tuple (show s1.heap.IsTuple a its.toArray from p) ?_
    refine ⟨s1.heap.objs.size, [s1.heap.objs.size], _, _, H1, rfl, I1.kept (t' := s1.toks) fun b o e => Heap.get?_push_of_some _ e, turn_tuple a _, ⟨_, Heap.get?_push_size _ rfl, rfl, rfl⟩, fun b hb => ?_, q⟩
    have e : b = s1.heap.objs.size := by simpa using hb
    subst e
    exact I1.fpOk (Nat.le_refl _) (I1.hok.fresh (Nat.le_refl _))
theorem BRel.sqL {a : Addr} {xs : List V} (B : BRel K F P0 Mm ρ bs σ H) (h : SqL K F a xs) : SqL K H a xs := by
  obtain ⟨P, q, B⟩ := B
  rcases h with (h | ⟨o, h⟩) | h
  · have z := B.h.fh a _ h
    rw [if_neg (show ¬ (isDict (.lst xs) = true) from Bool.false_ne_true)] at z
    exact .inl (.inl z)
  · have z := B.h.fh a _ h
    rw [if_neg (show ¬ (isDict (.frz o (.lst xs)) = true) from Bool.false_ne_true)] at z
    exact .inl (.inr ⟨o, z⟩)
  · exact .inr h
theorem itl_of {a : Addr} {vs : List V} {ds : List D} (hl : ∀ F' M' ρ' (fc1 : FrC) (P1 : PX fc1) b σ H, Leq F F' → Rle ρ ρ' → BRel K F' P1 M' ρ' b σ H → SqL K H a vs) (r : RepAll K F ρ vs ds) : ItrOf K P0 σ (Itl K a) F ρ ds := by
  intro i F' M' ρ' fc1 P1 b σ' H' l e B
  have hq := hl F' M' ρ' fc1 P1 b σ' H' l e B
  refine ⟨fun hi => ⟨vs, hq, by rw [r.length]; exact hi⟩, fun hi => ?_⟩
  have hi' : i < vs.length := by rw [r.length]; exact hi
  refine ⟨⟨vs, vs[i], hq, by simp [hi']⟩, fun x H2 y => ?_⟩
  obtain ⟨e2, y⟩ := y
  subst e2
  refine ⟨F', Leq.refl _, B, fun d hd => ?_⟩
  obtain ⟨v, hv, rv⟩ := r.get hd
  have := y vs hq
  rw [hv] at this; cases this
  exact rv.mono l e
theorem itt_of {a : Addr} {vs : List V} {ds : List D} (hl : ∀ F' M' ρ' (fc1 : FrC) (P1 : PX fc1) b σ H, Leq F F' → Rle ρ ρ' → BRel K F' P1 M' ρ' b σ H → SqT K H a vs) (r : RepAll K F ρ vs ds) : ItrOf K P0 σ (Itt K a) F ρ ds := by
  intro i F' M' ρ' fc1 P1 b σ' H' l e B
  have hq := hl F' M' ρ' fc1 P1 b σ' H' l e B
  refine ⟨fun hi => ⟨vs, hq, by rw [r.length]; exact hi⟩, fun hi => ?_⟩
  have hi' : i < vs.length := by rw [r.length]; exact hi
  refine ⟨⟨vs, vs[i], hq, by simp [hi']⟩, fun x H2 y => ?_⟩
  obtain ⟨e2, y⟩ := y
  subst e2
  refine ⟨F', Leq.refl _, B, fun d hd => ?_⟩
  obtain ⟨v, hv, rv⟩ := r.get hd
  have := y vs hq
  rw [hv] at this; cases this
  exact rv.mono l e
theorem SI.of {m : M (List D)} {t : TI} (h : PI X tg e t) (ht : ∀ σ H F (P0 : PX (fcOf X)) Mm ρ b R, BRel X.K F P0 Mm ρ b σ H → PostI X.K W P0 F ρ σ R (m b) → t σ H R) : SI X W tg e m := ⟨fun pins s σ H R I ⟨F, P0, Mm, ρ, b, B, q⟩ => h.run pins s σ H R I (ht σ H F P0 Mm ρ b R B q)⟩
theorem PostI.mono {F1 : Hp} {r1 : Rho} {Q : It → Hp → Prop} {r : R (List D)} (h : PostI K W P0 F ρ σ Q r) (l : Leq F F1) (e : Rle ρ r1) : PostI K W P0 F1 r1 σ Q r := by
  cases r with
  | ok a b' => exact fun x F' M' ρ' H' l' e' B i => h x F' M' ρ' H' (l.trans l') (e.trans e') B i
  | exc x b' => exact fun c d F' M' ρ' H' l' e' B r => h c d F' M' ρ' H' (l.trans l') (e.trans e') B r
  | fail => exact h
theorem iM_then {α β : Type} {rel : Hp → Rho → β → α → Prop} {m : M α} {k : α → M (List D)} {R : It → Hp → Prop} {Q : β → Hp → Prop} (B : BRel K F P0 Mm ρ bs σ H) (h : PostI K W P0 F ρ σ R (M.bind m k bs))
    (hk : ∀ x a F1 M1 r1 b1 H1, Leq F F1 → Rle ρ r1 → BRel K F1 P0 M1 r1 b1 σ H1 → rel F1 r1 x a → PostI K W P0 F1 r1 σ R (k a b1) → Q x H1) : tM (fc := fc) rel K W m σ H Q := by
  refine ⟨F, P0, Mm, ρ, bs, B, ?_⟩
  unfold M.bind at h
  cases e : m bs with
  | ok a b' =>
    rw [e] at h
    exact fun x F' M' ρ' H' l r B' q => hk x a F' M' ρ' b' H' l r B' q (PostI.mono h l r)
  | exc x b' => rw [e] at h; exact h
  | fail => rw [e] at h; exact h.elim
theorem si_seq (h : SE X W e me) : SI X W tg e (itemsM me) :=
  SI.of (pi_seq h) fun σ H F P0 Mm ρ b R B q => iM_then B q fun x d F1 M1 r1 b1 H1 l1 e1 B1 q1 h1 => by
    cases q1 with
    | lst h2 r2 => exact ⟨_, rfl, .inl ⟨⟨_, SqL.of (B1.lstAt h2)⟩, h1 _ F1 M1 r1 H1 (Leq.refl _) (Rle.refl _) B1 (itl_of (fun F' M' ρ' fc1 P1 b σ H l e B => SqL.of (B.lstAt (l _ _ h2))) r2)⟩⟩
    | tup h2 r2 => exact ⟨_, rfl, .inr ⟨⟨_, Rep.sqT (P := fun _ => none) B1 h2⟩, h1 _ F1 M1 r1 H1 (Leq.refl _) (Rle.refl _) B1 (itt_of (fun F' M' ρ' fc1 P1 b σ H l e B => Rep.sqT (P := fun _ => none) B (h2.imp (l _ _) id)) r2)⟩⟩
    | scr h2 => exact ⟨_, rfl, .inl ⟨⟨_, B1.sqL h2⟩, h1 _ F1 M1 r1 H1 (Leq.refl _) (Rle.refl _) B1 (itl_of (fun F' M' ρ' fc1 P1 b σ H l e B => B.sqL (SqL.leq l h2)) (RepAll.of_ints _))⟩⟩
    | _ => exact h1.elim
/-! range -/
def rngL (lo : Int) (n : Nat) : List D := (List.range n).map fun (i : Nat) => D.int (lo + (i : Int))
theorem itr_of {lo : Int} {n : Nat} : ItrOf K P0 σ (Itr lo n) F ρ (rngL lo n) := by
  intro i F' M' ρ' fc1 P1 b σ' H' l e B
  have hl : (rngL lo n).length = n := by simp [rngL]
  refine ⟨fun hi => by rw [hl] at hi; exact hi, fun hi => ?_⟩
  rw [hl] at hi
  refine ⟨hi, fun x H2 y => ?_⟩
  obtain ⟨e2, y⟩ := y
  subst e2 y
  refine ⟨F', Leq.refl _, B, fun d hd => ?_⟩
  have : d = D.int (lo + i) := by
    unfold rngL at hd
    rw [List.getElem?_map, List.getElem?_range hi] at hd
    exact (Option.some.inj hd).symm
  subst this
  exact .int _
def rng1M (ms : M (List D)) : M (List D) := M.bind ms fun ds => match ds with
  | [.int j] => guardM (-(2 ^ 62) ≤ j ∧ j < 2 ^ 62) (M.ret (rngL 0 j.toNat))
  | _ => M.fail
def rng2M (ms : M (List D)) : M (List D) := M.bind ms fun ds => match ds with
  | [.int i, .int j] => guardM (-(2 ^ 62) ≤ i ∧ i < 2 ^ 62 ∧ -(2 ^ 62) ≤ j ∧ j < 2 ^ 62) (M.ret (rngL i (j - i).toNat))
  | _ => M.fail
theorem PostI.guard {c : Prop} [Decidable c] {m : M (List D)} {Q : It → Hp → Prop} (h : PostI K W P0 F ρ σ Q (guardM c m bs)) : c ∧ PostI K W P0 F ρ σ Q (m bs) := by
  unfold guardM at h
  split at h
  · rename_i hc; exact ⟨hc, h⟩
  · exact h.elim
theorem si_range1 {a : Expr} {p : Pos} {ms : M (List D)} (hm : X.mg "range" = none) (ha : SA X W [a] ms) (hg : Gl X "range" := by rfl) (hs : starEach [a] X.env = [(false, eval a X.env)] := by rfl) : SI X W tg (.Call (.Name "range" p) [a] [] pos) (rng1M ms) :=
  SI.of (pi_range1 hg hm ha hs) fun σ H F P0 Mm ρ b R B q => iM_then B q fun xs ds F1 M1 r1 b1 H1 l1 e1 B1 q1 h1 => by
    cases q1 with
    | nil => exact h1.elim
    | cons r1 q1 =>
      cases q1 with
      | nil =>
        cases r1 with
        | int j =>
          obtain ⟨hj, h1⟩ := PostI.guard h1
          exact ⟨j, rfl, hj.1, hj.2, h1 _ _ _ _ _ (Leq.refl _) (Rle.refl _) B1 itr_of⟩
        | _ => exact h1.elim
      | cons r2 q2 => cases r1 <;> exact h1.elim
theorem si_range2 {a c : Expr} {p : Pos} {ms : M (List D)} (hm : X.mg "range" = none) (ha : SA X W [a, c] ms) (hg : Gl X "range" := by rfl) (hs : starEach [a, c] X.env = [(false, eval a X.env), (false, eval c X.env)] := by rfl) (hs2 : starEach [c] X.env = [(false, eval c X.env)] := by rfl) : SI X W tg (.Call (.Name "range" p) [a, c] [] pos) (rng2M ms) :=
  SI.of (pi_range2 hg hm ha hs hs2) fun σ H F P0 Mm ρ b R B q => iM_then B q fun xs ds F1 M1 r1 b1 H1 l1 e1 B1 q1 h1 => by
    cases q1 with
    | nil => exact h1.elim
    | cons r1 q1 =>
      cases q1 with
      | nil => cases r1 <;> exact h1.elim
      | cons r2 q2 =>
        cases q2 with
        | nil =>
          cases r1 with
          | int i =>
            cases r2 with
            | int j =>
              obtain ⟨hj, h1⟩ := PostI.guard h1
              exact ⟨i, j, rfl, hj, h1 _ _ _ _ _ (Leq.refl _) (Rle.refl _) B1 itr_of⟩
            | _ => exact h1.elim
          | _ => exact h1.elim
        | cons r3 q3 => cases r1 <;> cases r2 <;> exact h1.elim

/-! ### for -/
def forL (g : TgM) (body : M Fl) : List D → M Fl
  | [] => M.ret .nx
  | d :: ds => fun b => match g d b with
    | some b1 => turnM body (forL g body ds) b1
    | none => .fail
def forM (mi : M (List D)) (g : TgM) (body : M Fl) : M Fl := M.bind mi (forL g body)
theorem ss_for {iter : Expr} {body : List Stmt} {vs : List Nat} {mi : M (List D)} {g : TgM} {mb : M Fl} (hp : PassesOwn (model X.prog X.w) X.A X.env X.xe) (hi : SI X W tg iter mi) (hg : SG X vs tg g) (hb : SSs X W body mb) (hc : X.calm = true := by rfl)
    (hs : ∀ x, foldedSetIterable iter X.env x = pure x := by intro _; rfl) : SS X W (.For tg iter body [] pos) (forM mi g mb) :=
  SS.of (ps_for hp hc hi hg hb hs) fun σ H F P0 Mm ρ b D B q => by
    refine ⟨F, P0, Mm, ρ, b, B, ?_⟩
    unfold forM M.bind at q
    cases e : mi b with
    | ok ds b' =>
      rw [e] at q
      intro J F0 M0 r0 H0 l0 e0 B0 it
      have q0 := PostS.mono q l0 e0
      refine ⟨fun i n σ H => n = ds.length - i ∧ ∃ F' Mm ρ' b, Leq F0 F' ∧ Rle r0 ρ' ∧ BRel X.K F' P0 Mm ρ' b σ H ∧ PostS X.K W P0 F' ρ' D (forL g mb (ds.drop i) b), ⟨_, rfl, F0, M0, r0, b', Leq.refl _, Rle.refl _, B0, q0⟩, ?_⟩
      rintro i n σ H ⟨rfl, F1, M1, r1, b1, l1, e1, B1, q1⟩
      obtain ⟨i1, i2⟩ := it i F1 M1 r1 _ P0 b1 σ H l1 e1 B1
      by_cases hi : i < ds.length
      · obtain ⟨hgo, hy⟩ := i2 hi
        refine .inr ⟨hgo, fun σ' H' => ∃ F' Mm ρ' b, Leq F0 F' ∧ Rle r0 ρ' ∧ BRel X.K F' P0 Mm ρ' b σ' H' ∧ PostS X.K W P0 F' ρ' D (forL g mb (ds.drop (i + 1)) b), fun σ' H' h => ⟨ds.length - (i + 1), by omega, rfl, h⟩, fun x H2 y => ?_⟩
        obtain ⟨F2, l2, B2, r2⟩ := hy x H2 y
        have hd : ds.drop i = ds[i] :: ds.drop (i + 1) := List.drop_eq_getElem_cons hi
        rw [hd] at q1
        refine ⟨F2, P0, M1, r1, b1, ds[i], B2, r2 _ (List.getElem?_eq_getElem hi), ?_⟩
        unfold forL at q1
        try dsimp only at q1
        cases eg : g ds[i] b1 with
        | none => rw [eg] at q1; exact q1.elim
        | some b3 =>
          rw [eg] at q1
          intro σ3 F3 M3 r3 H3 l3 e3 B3 _
          refine ⟨F3, P0, M3, r3, b3, B3, ?_⟩
          have q3 : PostS X.K W P0 F3 r3 D (turnM mb (forL g mb (ds.drop (i + 1))) b3) := PostS.mono q1 (l2.trans l3) e3
          unfold turnM at q3
          cases eb : mb b3 with
          | ok f b4 =>
            rw [eb] at q3
            have again : PostS X.K W P0 F3 r3 D (forL g mb (ds.drop (i + 1)) b4) → ∀ (σ' : St) (F' M' : Hp) (ρ' : Rho) (H' : Hp), Leq F3 F' → Rle r3 ρ' → BRel X.K F' P0 M' ρ' b4 σ' H' →
                ∃ F' Mm ρ' b, Leq F0 F' ∧ Rle r0 ρ' ∧ BRel X.K F' P0 Mm ρ' b σ' H' ∧ PostS X.K W P0 F' ρ' D (forL g mb (ds.drop (i + 1)) b) := fun hq σ' F' M' ρ' H' l' e' B' =>
              ⟨F', M', ρ', b4, ((l1.trans l2).trans l3).trans l', (e1.trans e3).trans e', B', PostS.mono hq l' e'⟩
            cases f with
            | nx => exact again q3
            | cnt => exact again q3
            | brk => exact q3
            | ret d => exact q3
          | exc x b4 => rw [eb] at q3; exact q3
          | fail => rw [eb] at q3; exact q3
      · refine .inl ⟨i1 (by omega), ?_⟩
        rw [List.drop_eq_nil_of_le (by omega)] at q1
        exact PostS.nxt (W := W) q1 B1
    | exc x b' => rw [e] at q; exact fun c d F' M' ρ' H' l r B' z => q c d σ F' M' ρ' H' l r B' z
    | fail => rw [e] at q; exact q.elim

/-! ### comprehensions -/
def wipeT : List Nat → List (Option Slot) → List (Option Slot)
  | [], t => t
  | v :: vs, t => (wipeT vs t).set v none
abbrev BSt.wip (vs : List Nat) (b : BSt) : BSt := { b with t := wipeT vs b.t }
theorem BRel.wip (B : BRel K F P0 Mm ρ bs σ H) : ∀ vs : List Nat, BRel K F P0 Mm ρ (bs.wip vs) (wipe σ vs) H
  | [] => B
  | v :: vs => (BRel.wip B vs).drop v none
theorem wipeT_none {t : List (Option Slot)} {i : Nat} {s : Slot} : ∀ {vs : List Nat}, (wipeT vs t)[i]? = some (some s) → t[i]? = some (some s) ∧ i ∉ vs
  | [], h => ⟨h, by simp⟩
  | v :: vs, h => by
    unfold wipeT at h
    by_cases hi : v = i
    · subst hi
      by_cases hv : v < (wipeT vs t).length
      · rw [List.getElem?_set_self hv] at h; cases h
      · rw [List.getElem?_eq_none (by simpa using hv)] at h; cases h
    · rw [List.getElem?_set_ne hi] at h
      obtain ⟨h1, h2⟩ := wipeT_none h
      exact ⟨h1, by simp only [List.mem_cons, not_or]; exact ⟨fun e => hi e.symm, h2⟩⟩
theorem wipeT_length (t : List (Option Slot)) : ∀ vs : List Nat, (wipeT vs t).length = t.length
  | [] => rfl
  | v :: vs => by unfold wipeT; rw [List.length_set, wipeT_length t vs]
theorem wipe_get {σ : St} {i : Nat} : ∀ {vs : List Nat}, i ∉ vs → (wipe σ vs)[i]? = σ[i]?
  | [], _ => rfl
  | v :: vs, h => by
    simp only [List.mem_cons, not_or] at h
    show ((wipe σ vs).set v none)[i]? = _
    rw [List.getElem?_set_ne (fun e => h.1 e.symm)]
    exact wipe_get h.2
/-- from the block's slots back to the def's: any σ' that is alike behind the wiping -/
theorem BRel.back {vs : List Nat} {σ' : St} (B : BRel K F P0 Mm ρ bs σ' H) (hw : wipe σ' vs = wipe σ vs) : BRel K F P0 Mm ρ (bs.wip vs) σ H := by
  obtain ⟨P, q, B⟩ := B
  have hl : σ.length = σ'.length := by have := congrArg List.length hw; rw [wipe_length, wipe_length] at this; exact this.symm
  refine ⟨P, q, B.h, B.pp, by show σ.length = (wipeT vs bs.t).length; rw [wipeT_length, hl]; exact B.len, B.qi, fun i s e => ?_⟩
  obtain ⟨e1, ni⟩ := wipeT_none e
  have eσ : σ[i]? = σ'[i]? := by rw [← wipe_get ni, ← hw, wipe_get ni]
  have z := B.sl i s e1
  cases s with
  | val d => obtain ⟨v, h1, h2⟩ := z; exact ⟨v, by rw [eσ]; exact h1, h2⟩
  | own o => obtain ⟨p, h1, h2⟩ := z; exact ⟨p, by rw [eσ]; exact h1, h2⟩
  | frm me up => obtain ⟨v, h1, h2⟩ := z; exact ⟨v, by rw [eσ]; exact h1, h2⟩
theorem wipe_idem {σ : St} (vs : List Nat) : wipe (wipe σ vs) vs = wipe σ vs := by
  apply List.ext_getElem?
  intro i
  by_cases hi : i ∈ vs
  · have key : ∀ (τ : St) (ws : List Nat), i ∈ ws → (wipe τ ws)[i]? = if i < τ.length then some none else none := by
      intro τ ws
      induction ws with
      | nil => intro h; cases h
      | cons w ws ih =>
        intro h
        show ((wipe τ ws).set w none)[i]? = _
        by_cases hw : w = i
        · subst hw
          by_cases hl : w < τ.length
          · rw [List.getElem?_set_self (by rw [wipe_length]; exact hl), if_pos hl]
          · rw [List.getElem?_eq_none (by rw [List.length_set, wipe_length]; omega), if_neg hl]
        · rw [List.getElem?_set_ne hw]
          rcases List.mem_cons.mp h with e | h
          · exact absurd e.symm hw
          · exact ih h
    rw [key _ _ hi, key _ _ hi, wipe_length]
  · rw [wipe_get hi]
/-- while a fresh object is about: it is kept -/
theorem Frs.prot {p : Addr} {so : SO} (h : Frs K F P0 Mm ρ bs σ H p so) : ∃ u, BRel (fc := fc) K F (upd P0 p u) Mm ρ bs σ H ∧ RepO K F ρ (fun _ => some u) p so ∧ P0 p = none ∧ so.plain = true := by
  obtain ⟨P, q, B, r, pl, n0, nq⟩ := h
  obtain ⟨u, hu, _⟩ := id r.there
  refine ⟨u, ⟨P, q, B.h, fun a w e => ?_, B.len, B.qi, fun i s e => ?_⟩, r.monoP (Leq.refl _) (Rle.refl _) pl fun w z => by rw [hu] at z; exact z, n0, pl⟩
  · by_cases ha : a = p
    · subst ha; rw [upd_same] at e; cases e; exact hu
    · rw [upd_ne ha] at e; exact B.pp a w e
  · have z := B.sl i s e
    cases s with
    | val d => exact z
    | frm me up => exact z
    | own o =>
      obtain ⟨p', h1, h2, h3, h4⟩ := z
      exact ⟨p', h1, h2, by rw [upd_ne (fun z => nq i (by rw [← z]; exact h2))]; exact h3, h4⟩
theorem BRel.unprot {p : Addr} {u : HO} {so : SO} (B : BRel (fc := fc) K F (upd P0 p u) Mm ρ bs σ H) (r : RepO K F ρ (fun _ => some u) p so) (n0 : P0 p = none) (pl : so.plain = true) : Frs K F P0 Mm ρ bs σ H p so := by
  obtain ⟨P, q, B⟩ := B
  have hp : P p = some u := B.pp p u upd_same
  refine ⟨P, fun i => if q i = some p then none else q i, ⟨B.h, fun a w e => ?_, B.len, fun i j a e1 e2 => ?_, fun i s e => ?_⟩, r.monoP (Leq.refl _) (Rle.refl _) pl fun w z => by cases z; exact hp, pl, n0, fun i z => ?_⟩
  · have : a ≠ p := fun z => by subst z; rw [n0] at e; cases e
    exact B.pp a w (by rw [upd_ne this]; exact e)
  · try dsimp only at e1 e2
    split at e1
    · cases e1
    · split at e2
      · cases e2
      · exact B.qi i j a e1 e2
  · have z := B.sl i s e
    cases s with
    | val d => exact z
    | frm me up => exact z
    | own o =>
      obtain ⟨a, e1, e2, e3, e4, e5⟩ := z
      have na : a ≠ p := fun z => by subst z; rw [upd_same] at e3; cases e3
      rw [upd_ne na] at e3
      exact ⟨a, e1, (if_neg (fun z => na (Option.some.inj (e2.symm.trans z)))).trans e2, e3, e4, e5⟩
  · try dsimp only at z
    split at z
    · cases z
    · exact absurd z (by assumption)
/-- a fresh list gets one more -/
theorem Frs.app {p : Addr} {ds : List D} {v : V} {d : D} (h : Frs K F P0 Mm ρ bs σ H p (.lst ds)) (r : Rep K F ρ v d) : ∃ vs, H p = some (.lst vs) ∧ vs.length = ds.length ∧ Frs K F P0 Mm ρ bs σ (upd H p (.lst (vs ++ [v]))) p (.lst (ds ++ [d])) := by
  obtain ⟨P, q, B, ⟨vs, hv, rr⟩, pl, n0, nq⟩ := h
  refine ⟨vs, B.h.ph _ _ hv, rr.length, upd P p (.lst (vs ++ [v])), q, ⟨B.h.setP hv, fun a w e => ?_, B.len, B.qi, fun i s e => ?_⟩, ⟨_, upd_same, rr.append (.cons r .nil)⟩, rfl, n0, nq⟩
  · have : a ≠ p := fun z => by subst z; rw [n0] at e; cases e
    rw [upd_ne this]; exact B.pp a w e
  · refine (B.sl i s e).mono (Leq.refl _) (Rle.refl _) fun a ea => ⟨ea, fun w z => ?_⟩
    have : a ≠ p := fun z => nq i (by rw [← z]; exact ea)
    rw [upd_ne this]; exact z
def compL (g : TgM) (tt : M Bool) (elt : M D) (vs : List Nat) : List D → List D → M (List D)
  | acc, [] => M.ret acc
  | acc, d :: ds => fun b => match g d b with
    | some b1 => (match tt b1 with
      | .ok true b2 => (match elt b2 with
        | .ok y b3 => if acc.length < sizeLine then compL g tt elt vs (acc ++ [y]) ds (b3.wip vs) else .fail
        | _ => .fail)
      | .ok false b2 => compL g tt elt vs acc ds (b2.wip vs)
      | _ => .fail)
    | none => .fail
def lcN (mi : M (List D)) (g : TgM) (tt : M Bool) (elt : M D) (vs : List Nat) : M SO := M.bind mi fun ds => fun b => match compL g tt elt vs [] ds (b.wip vs) with
  | .ok acc b' => .ok (.lst acc) b'
  | _ => .fail
abbrev W0 : WX := fun _ _ _ _ => False
def STs (X : Cx) (W : WX) (ifs : List Expr) (m : M Bool) : Prop := PTs X ifs (tT (fc := fcOf X) X.K W m)
theorem sts_nil : STs X W [] (M.ret true) := ⟨fun pins s σ H Q I ⟨F, P0, Mm, ρ, b, B, q⟩ => pts_nil.run pins s σ H Q I (q true F Mm ρ H (Leq.refl _) (Rle.refl _) B rfl)⟩
theorem sts_one {c : Expr} {m : M Bool} (h : SB X W c m) : STs X W [c] m := pts_one h
theorem wipeT_get {t : List (Option Slot)} {i : Nat} : ∀ {vs : List Nat}, i ∉ vs → (wipeT vs t)[i]? = t[i]?
  | [], _ => rfl
  | v :: vs, h => by
    simp only [List.mem_cons, not_or] at h
    show ((wipeT vs t).set v none)[i]? = _
    rw [List.getElem?_set_ne (fun e => h.1 e.symm)]
    exact wipeT_get h.2
theorem wipeT_idem {t : List (Option Slot)} (vs : List Nat) : wipeT vs (wipeT vs t) = wipeT vs t := by
  apply List.ext_getElem?
  intro i
  by_cases hi : i ∈ vs
  · have key : ∀ (τ : List (Option Slot)) (ws : List Nat), i ∈ ws → (wipeT ws τ)[i]? = if i < τ.length then some none else none := by
      intro τ ws
      induction ws with
      | nil => intro h; cases h
      | cons w ws ih =>
        intro h
        show ((wipeT ws τ).set w none)[i]? = _
        by_cases hw : w = i
        · subst hw
          by_cases hl : w < τ.length
          · rw [List.getElem?_set_self (by rw [wipeT_length]; exact hl), if_pos hl]
          · rw [List.getElem?_eq_none (by rw [List.length_set, wipeT_length]; omega), if_neg hl]
        · rw [List.getElem?_set_ne hw]
          rcases List.mem_cons.mp h with e | h
          · exact absurd e.symm hw
          · exact ih h
    rw [key _ _ hi, key _ _ hi, wipeT_length]
  · rw [wipeT_get hi]
theorem Frs.back {vs : List Nat} {σ' : St} {p : Addr} {so : SO} (h : Frs K F P0 Mm ρ bs σ' H p so) (hw : wipe σ' vs = wipe σ vs) : Frs K F P0 Mm ρ (bs.wip vs) σ H p so := by
  obtain ⟨u, B, r, n0, pl⟩ := h.prot
  exact (B.back hw).unprot r n0 pl
theorem tlc_of {P0 : PX (fcOf X)} {g : TgM} {mt : M Bool} {me : M D} {mi : M (List D)} {vs : List Nat} {Q : VK} {b : BSt} (B : BRel X.K F P0 Mm ρ b σ H) (q : PostF X.K W P0 F ρ σ Q (lcN mi g mt me vs b)) :
    tLc (fun σ H R => ∃ (F : Hp) (P0 : PX (fcOf X)) (Mm : Hp) (ρ : Rho) (b : BSt), BRel X.K F P0 Mm ρ b σ H ∧ PostI X.K W P0 F ρ σ R (mi b)) (tG (fc := fcOf X) X.K vs g) (tT (fc := fcOf X) X.K W0 mt) (tE (fc := fcOf X) X.K W0 me) vs σ H Q := by
  refine ⟨F, P0, Mm, ρ, b, B, ?_⟩
  unfold lcN M.bind at q
  cases e : mi b with
  | exc x b' => rw [e] at q; exact q
  | fail => rw [e] at q; exact q.elim
  | ok ds b' =>
    rw [e] at q
    intro J F0 M0 r0 H0 l0 e0 B0 it Dn hD
    have q0 := PostF.mono q l0 e0
    dsimp only at q0
    -- the new list, nobody's
    have fr : Frs X.K F0 P0 M0 r0 (b'.wip vs) (wipe σ vs) (upd H0 Dn (.lst [])) Dn (.lst []) := (B0.wip vs).fresh (u := .lst []) hD (fun P' h => ⟨[], h, .nil⟩) rfl
    refine ⟨fun i n H => n = ds.length - i ∧ ∃ F' Mm ρ' b acc, Leq F0 F' ∧ Rle r0 ρ' ∧ Frs X.K F' P0 Mm ρ' b (wipe σ vs) H Dn (.lst acc) ∧ b = b.wip vs ∧ PostF X.K W P0 F' ρ' σ Q (match compL g mt me vs acc (ds.drop i) b with | .ok acc b' => .ok (.lst acc) b' | _ => .fail), ⟨_, rfl, F0, M0, r0, b'.wip vs, [], Leq.refl _, Rle.refl _, fr, ?_, q0⟩, ?_⟩
    · show b'.wip vs = (b'.wip vs).wip vs
      unfold BSt.wip
      rw [wipeT_idem]
    rintro i n H ⟨rfl, F1, M1, r1, b1, acc, l1, e1, fr1, bt, q1⟩
    obtain ⟨u, Bp, ru, n0, pl⟩ := fr1.prot
    obtain ⟨i1, i2⟩ := it i F1 M1 r1 _ _ b1 (wipe σ vs) H l1 e1 Bp
    by_cases hlt : i < ds.length
    · obtain ⟨hgo, hy⟩ := i2 hlt
      refine .inr ⟨hgo, fun H' => ∃ F' Mm ρ' b acc, Leq F0 F' ∧ Rle r0 ρ' ∧ Frs X.K F' P0 Mm ρ' b (wipe σ vs) H' Dn (.lst acc) ∧ b = b.wip vs ∧ PostF X.K W P0 F' ρ' σ Q (match compL g mt me vs acc (ds.drop (i + 1)) b with | .ok acc b' => .ok (.lst acc) b' | _ => .fail), fun H' h => ⟨ds.length - (i + 1), by omega, rfl, h⟩, fun x H2 y => ?_⟩
      obtain ⟨F2, l2, B2, r2⟩ := hy x H2 y
      have hd : ds.drop i = ds[i] :: ds.drop (i + 1) := List.drop_eq_getElem_cons hlt
      rw [hd] at q1
      refine ⟨F2, _, M1, r1, b1, ds[i], B2, r2 _ (List.getElem?_eq_getElem hlt), ?_⟩
      unfold compL at q1
      cases eg : g ds[i] b1 with
      | none => rw [eg] at q1; exact q1.elim
      | some b3 =>
        rw [eg] at q1
        intro σ3 F3 M3 r3 H3 l3 e3 B3 w3
        rw [wipe_idem] at w3
        have w3' : wipe σ3 vs = wipe (wipe σ vs) vs := by rw [wipe_idem]; exact w3
        refine ⟨w3, F3, _, M3, r3, b3, B3, ?_⟩
        dsimp only at q1
        cases et : mt b3 with
        | fail => rw [et] at q1; exact q1.elim
        | exc x b4 => rw [et] at q1; exact q1.elim
        | ok t b4 =>
          rw [et] at q1
          intro tv F4 M4 r4 H4 l4 e4 B4 ht
          subst ht
          cases tv with
          | false =>
            exact (if_neg Bool.false_ne_true).mpr ⟨F4, M4, r4, b4.wip vs, acc, ((l1.trans l2).trans l3).trans l4, (e1.trans e3).trans e4, (B4.unprot (ru.monoP ((l2.trans l3).trans l4) (e3.trans e4) pl fun w z => z) n0 pl).back w3', (by
              show b4.wip vs = (b4.wip vs).wip vs
              unfold BSt.wip
              rw [wipeT_idem]), PostF.mono q1 ((l2.trans l3).trans l4) (e3.trans e4)⟩
          | true =>
            refine (if_pos rfl).mpr ⟨F4, _, M4, r4, b4, B4, ?_⟩
            dsimp only at q1
            cases ee : me b4 with
            | fail => rw [ee] at q1; exact q1.elim
            | exc x b5 => rw [ee] at q1; exact q1.elim
            | ok y b5 =>
              rw [ee] at q1
              intro v F5 M5 r5 H5 l5 e5 B5 rv
              dsimp only at q1
              by_cases hz : acc.length < sizeLine
              · rw [if_pos hz] at q1
                have fr5 := B5.unprot (ru.monoP (((l2.trans l3).trans l4).trans l5) ((e3.trans e4).trans e5) pl fun w z => z) n0 pl
                obtain ⟨vs', hv1, hv2, fr6⟩ := fr5.app rv
                exact ⟨vs', hv1, by rw [hv2]; exact hz, F5, M5, r5, b5.wip vs, acc ++ [y], (((l1.trans l2).trans l3).trans l4).trans l5, ((e1.trans e3).trans e4).trans e5, fr6.back w3', (by
                  show b5.wip vs = (b5.wip vs).wip vs
                  unfold BSt.wip
                  rw [wipeT_idem]), PostF.mono q1 (((l2.trans l3).trans l4).trans l5) ((e3.trans e4).trans e5)⟩
              · rw [if_neg hz] at q1
                exact q1.elim
    · refine .inl ⟨i1 (by omega), ?_⟩
      rw [List.drop_eq_nil_of_le (by omega)] at q1
      have z := fr1.back (vs := vs) (σ := σ) (wipe_idem vs)
      rw [← bt] at z
      exact q1 Dn F1 M1 r1 H (Leq.refl _) (Rle.refl _) z
theorem sn_lc {elt iter : Expr} {ifs : List Expr} {scope : Scope} {own : List (Str × Nat)} {mi : M (List D)} {g : TgM} {mt : M Bool} {me : M D} (hN : X.N.Nodup) (hi : SI X W tg iter mi) (ok : BlkOk X.N X.env.scope scope own)
    (hg : ∀ (s : Shared) (H : Hp) (C : Addr) (cl : List (Str × Addr)) (fp : List Addr), SG (X.blk s H scope (compEnvC scope cl C X.env) fp) (own.map (·.2)) tg g) (ht : ∀ (s : Shared) (H : Hp) (C : Addr) (cl : List (Str × Addr)) (fp : List Addr), STs (X.blk s H scope (compEnvC scope cl C X.env) fp) W0 ifs mt)
    (he : ∀ (s : Shared) (H : Hp) (C : Addr) (cl : List (Str × Addr)) (fp : List Addr), SE (X.blk s H scope (compEnvC scope cl C X.env) fp) W0 elt me) (hc : X.calm = true := by rfl) (hs : ∀ x, foldedSetIterable iter X.env x = pure x := by intro _; rfl) :
    SN X W (.ListComp elt [⟨tg, iter, ifs, 0⟩] scope pos) (lcN mi g mt me (own.map (·.2))) := by
  exact SN.of (pe_lc (g := tG (fc := fcOf X) X.K (own.map fun (x : Str × Nat) => x.2) g) (tt := tT (fc := fcOf X) X.K W0 mt) (te := tE (fc := fcOf X) X.K W0 me) hc hN hi ok hg ht he hs) fun σ H F P0 Mm ρ b Q B q => tlc_of B q
end
end L2.VI
/-! VI9: methods of lists, stores to items and fields, displays of dicts, built-ins, a def. -/
namespace L2.VI
open PySem PySem.Spec PyProof.Rows He

/-! ### methods that change their receiver -/
def SO.tyn : SO → String
  | .lst _ => "list"
  | .dic _ => "dict"
  | .dct _ => "dict"
  | .ins _ _ => ""
  | .tab _ _ => ""
abbrev MtF := SO → List D → Option (SO × D)
/-- the method by values does on the heap what f does on data -/
def MtO (X : Cx) (T id : String) (f : MtF) : Prop := ∀ (so so' : SO) (as : List D) (d : D), f so as = some (so', d) → so.tyn = T ∧ so'.plain = true ∧ ∀ (F : Hp) (ρ : Rho) (H : Hp) (p : Addr) (u : HO) (xs : List V), RepO X.K F ρ (fun _ => some u) p so → H p = some u → RepAll X.K F ρ xs as →
  ∃ (u' : HO) (v : V) (r : V → List V → Hp → VK → Prop), MtR X id r ∧ (∀ x, u' ≠ .own x) ∧ (∀ P', P' p = some u' → RepO X.K F ρ P' p so') ∧ Rep X.K F ρ v d ∧ ∀ Q : VK, Q v (upd H p u') → r (.ref p) xs H Q
def methO (i : Nat) (T : String) (f : MtF) (mas : M (List D)) : M D := fun b => match b.t[i]? with
  | some (some (.own so0)) => if so0.tyn = T then (M.bind mas fun as => fun b => match b.t[i]? with
    | some (some (.own so)) => (match f so as with
      | some (so', d) => .ok d { b with t := b.t.set i (some (.own so')) }
      | none => .fail)
    | _ => .fail) b else .fail
  | _ => .fail
def methP (T : String) (f : MtF) (mo : M D) (mas : M (List D)) : M D := M.bind mo fun x => fun b => match x with
  | .ptr k => (match b.g.S k with
    | some so0 => if so0.tyn = T ∧ so0.plain = true then (M.bind mas fun as => fun b => match b.g.S k with
      | some so => (match f so as with
        | some (so', d) => if so.plain = true then .ok d { b with g := b.g.put k so' } else .fail
        | none => .fail)
      | none => .fail) b else .fail
    | none => .fail)
  | _ => .fail
section
variable {X : Cx} {W : WX} {pos apos cpos : Pos} {o e : Expr} {es : List Expr} {mo : M D} {mas : M (List D)} {T id : String} {name x : Str} {f : MtF}
variable {K : PySem.W.Frag} {F : Hp} {fc : FrC} {P0 : PX fc} {Mm H : Hp} {ρ : Rho} {bs : BSt} {σ : St}
theorem tyV_of {so : SO} {p : Addr} {u : HO} (r : RepO K F ρ (fun _ => some u) p so) (hp : H p = some u) (e : so.tyn = T) (pl : so.plain = true) : tyV K T (.ref p) H := by
  subst e
  cases so with
  | lst ds => obtain ⟨vs, h1, _⟩ := r; cases h1; exact .inl ⟨rfl, _, SqL.of hp⟩
  | dic ds => obtain ⟨vs, h1, _⟩ := r; cases h1; exact .inr (.inr (.inl ⟨rfl, .inl ⟨_, hp⟩⟩))
  | dct ds => obtain ⟨vs, h1, _⟩ := r; cases h1; exact .inr (.inr (.inl ⟨rfl, .inr ⟨_, hp⟩⟩))
  | ins c f => cases pl
  | tab x q => cases pl
theorem MtR.any : MtR X id (fun x xs H Q => ∃ r, MtR X id r ∧ r x xs H Q) := fun pins s σ H x xs v us Q I rx rs ⟨r, hr, q⟩ => hr pins s σ H x xs v us Q I rx rs q
theorem methO_ok {P0 : PX (fcOf X)} {i : Nat} {Q : VK} (hf : MtO X T id f) (B : BRel X.K F P0 Mm ρ bs σ H) (q : Post (Rep X.K) X.K W P0 F ρ σ Q (methO i T f mas bs)) {t : TA} (ht : ∀ (σ H F) (P0 : PX (fcOf X)) (Mm ρ bs Q), BRel X.K F P0 Mm ρ bs σ H → Post (RepAll X.K) X.K W P0 F ρ σ Q (mas bs) → t σ H Q) :
    tBM X.K T (fun x xs H Q => ∃ r, MtR X id r ∧ r x xs H Q) (tVar i) t σ H Q := by
  unfold methO at q
  split at q
  · rename_i so0 e0
    split at q
    · rename_i hT
      obtain ⟨v, hv⟩ := B.slotV e0
      obtain ⟨p, u, rfl, hp, ru, pl⟩ := B.ownV e0 hv
      refine ⟨_, hv, tyV_of ru hp hT pl, ?_⟩
      obtain ⟨F1, P1, M1, r1, b1, B1, q1⟩ := tM_then (Q := fun xs H2 => ∃ r, MtR X id r ∧ r (.ref p) xs H2 Q) B q fun xs as F1 M1 r1 b1 H1 l1 e1 B1 q1 h1 => by
        split at h1
        · rename_i so e2
          split at h1
          · rename_i so' d ef
            obtain ⟨_, pl', hm⟩ := hf _ _ _ _ ef
            obtain ⟨p2, u2, rfl2, hp2, ru2, pl2⟩ := B1.ownV e2 hv
            cases rfl2
            obtain ⟨u', v, r, hr, nu, hn, rv, hq⟩ := hm F1 r1 H1 p u2 xs ru2 hp2 q1
            obtain ⟨p3, u3, y1, y2, y3, _, _, y4⟩ := B1.chg (u' := u') e2 pl'
            rw [hv] at y1; cases y1
            exact ⟨r, hr, hq _ (h1 v F1 M1 r1 _ (Leq.refl _) (Rle.refl _) (y4 hn) rv)⟩
          · exact h1.elim
        · exact h1.elim
      exact ht σ H F1 P1 M1 r1 b1 _ B1 q1
    · exact q.elim
  · exact q.elim
/-- x.m(e, ..), x a name whose own object it is -/
theorem se_methO {i : Nat} {p : Pos} (hf : MtO X T id f) (pa : PlainAttrs T) (slot : PySem.Slot T name id) (hty : typeOf (.builtin id) = pure (.type "method_descriptor")) (hx : PE X (.Name x p) (tVar i)) (ha : SA X W (e :: es) mas)
    (hbase : attributeBase (.Name x p) name X.env (eval (.Name x p) X.env) = eval (.Name x p) X.env := by rfl)
    (hfew : ((backTo cpos (starEach (e :: es) X.env)).all (fun x => !x.1) && (backToKw cpos (keywordEach [] X.env)).all (fun x => x.1.isSome)
      && decide ((e :: es).length + ([] : List Keyword).length + (if ([] : List Keyword).isEmpty then 0 else 1) < 30)) = true := by rfl)
    (hline : (apos.endLine == cpos.line) = true := by rfl) (hs : starEach (e :: es) X.env = (false, eval e X.env) :: starEach es X.env := by rfl) (hplain : (backTo cpos (starEach es X.env)).any (·.1) = false := by rfl) :
    SE X W (.Call (.Attribute (.Name x p) name apos) (e :: es) [] cpos) (methO i T f mas) :=
  SE.of (pe_bm pa slot hty MtR.any hx ha hbase hfew hline hs hplain) fun σ H F P0 Mm ρ bs Q B q => methO_ok hf B q fun σ H F P0 Mm ρ bs Q B q => tM_of B q
/-- o.m(e, ..), o's value in the store -/
theorem se_methP (hf : MtO X T id f) (pa : PlainAttrs T) (slot : PySem.Slot T name id) (hty : typeOf (.builtin id) = pure (.type "method_descriptor")) (ho : SE X W o mo) (ha : SA X W (e :: es) mas)
    (hbase : attributeBase o name X.env (eval o X.env) = eval o X.env := by rfl)
    (hfew : ((backTo cpos (starEach (e :: es) X.env)).all (fun x => !x.1) && (backToKw cpos (keywordEach [] X.env)).all (fun x => x.1.isSome)
      && decide ((e :: es).length + ([] : List Keyword).length + (if ([] : List Keyword).isEmpty then 0 else 1) < 30)) = true := by rfl)
    (hline : (apos.endLine == cpos.line) = true := by rfl) (hs : starEach (e :: es) X.env = (false, eval e X.env) :: starEach es X.env := by rfl) (hplain : (backTo cpos (starEach es X.env)).any (·.1) = false := by rfl) :
    SE X W (.Call (.Attribute o name apos) (e :: es) [] cpos) (methP T f mo mas) :=
  SE.of (pe_bm pa slot hty MtR.any ho ha hbase hfew hline hs hplain) fun σ H F P0 Mm ρ bs Q B q => tM_then B q fun x d F0 M0 r0 b0 H0 l0 e0 B0 q0 h0 => by
    cases q0 with
    | ptr hk =>
      rename_i p k
      dsimp only at h0
      split at h0
      · rename_i so0 es0
        split at h0
        · rename_i hT
          obtain ⟨hT, pl0⟩ := hT
          obtain ⟨a, u, y1, _, y2, y3, _⟩ := B0.put (so' := .lst []) (u' := .lst []) es0 pl0 rfl
          rw [hk] at y1; cases y1
          refine ⟨tyV_of y3 y2 hT pl0, tM_then B0 h0 fun xs as F1 M1 r1 b1 H1 l1 e1 B1 q1 h1 => ?_⟩
          try dsimp only at h1
          split at h1
          · rename_i so e2
            split at h1
            · rename_i so' d ef
              obtain ⟨_, pl', hm⟩ := hf _ _ _ _ ef
              split at h1
              · rename_i pl
                obtain ⟨a1, u1, z1, _, z2, z3, _⟩ := B1.put (so' := .lst []) (u' := .lst []) e2 pl rfl
                rw [e1.p _ _ hk] at z1; cases z1
                obtain ⟨u', v, r, hr, nu, hn, rv, hq⟩ := hm F1 r1 H1 p u1 xs z3 z2 q1
                obtain ⟨a2, u2, w1, _, _, _, _, w2⟩ := B1.put (so' := so') (u' := u') e2 pl pl'
                rw [e1.p _ _ hk] at w1; cases w1
                exact ⟨r, hr, hq _ (h1 v F1 _ r1 _ (Leq.refl _) (Rle.refl _) (w2 nu hn) rv)⟩
              · exact h1.elim
            · exact h1.elim
          · exact h1.elim
        · exact h0.elim
      · exact h0.elim
    | _ => exact h0.elim
end
end L2.VI
/-! VI10: methods by name, stores, displays of dicts. -/
namespace L2.VI
open PySem PySem.Spec PyProof.Rows He

section
variable {X : Cx} {W : WX} {pos apos cpos : Pos} {o i e : Expr} {es : List Expr} {mo mi me : M D} {mas : M (List D)}
variable {K : PySem.W.Frag} {F : Hp} {fc : FrC} {P0 : PX fc} {Mm H : Hp} {ρ : Rho} {bs : BSt} {σ : St}
def fAppend : MtF := fun so as => match so, as with
  | .lst xs, [d] => if xs.length < sizeLine then some (.lst (xs ++ [d]), .non) else none
  | _, _ => none
theorem mo_append : MtO X "list" "list.append" fAppend := by
  intro so so' as d h
  unfold fAppend at h
  split at h
  · rename_i xs d0
    split at h
    · rename_i hl
      cases h
      refine ⟨rfl, rfl, fun F ρ H p u xs' r hp ra => ?_⟩
      obtain ⟨vs, e, rr⟩ := r
      cases e
      cases ra with
      | cons r1 ra =>
        cases ra
        exact ⟨_, .non, _, mt_append, (by intro _ z; cases z), fun P' hP => ⟨_, hP, rr.append (.cons r1 .nil)⟩, .non, fun Q q => ⟨p, vs, _, rfl, rfl, hp, by rw [rr.length]; exact hl, q⟩⟩
    · cases h
  · cases h
def fPopAt : MtF := fun so as => match so, as with
  | .lst xs, [.int i] => if -(2 ^ 63) ≤ i ∧ i < 2 ^ 63 then (match ixN xs.length i with
    | some j => (xs[j]?).map fun d => (.lst (xs.eraseIdx j), d)
    | none => none) else none
  | _, _ => none
theorem mo_popAt : MtO X "list" "list.pop" fPopAt := by
  intro so so' as d h
  unfold fPopAt at h
  split at h
  · rename_i xs i
    split at h
    · rename_i hl
      cases ej : ixN xs.length i with
      | none => rw [ej] at h; cases h
      | some j =>
        rw [ej] at h
        dsimp only at h
        cases ed : xs[j]? with
        | none => rw [ed] at h; cases h
        | some d0 =>
          rw [ed] at h
          cases h
          refine ⟨rfl, rfl, fun F ρ H p u xs' r hp ra => ?_⟩
          obtain ⟨vs, e, rr⟩ := r
          cases e
          cases ra with
          | cons r1 ra =>
            cases ra
            cases r1
            obtain ⟨v, hv, rv⟩ := rr.get ed
            obtain ⟨s1, _⟩ := ixN_seq ej
            exact ⟨_, v, _, mt_popAt, (by intro _ z; cases z), fun P' hP => ⟨_, hP, rr.eraseIdx j⟩, rv, fun Q q => ⟨p, vs, i, j, v, rfl, rfl, hp, hl.1, hl.2, by rw [rr.length]; exact s1, hv, q⟩⟩
    · cases h
  · cases h
/-! ### o[i] = v -/
def dput {κ : Type} [DecidableEq κ] (kvs : List (κ × D)) (k : κ) (v : D) : List (κ × D) :=
  if (kvs.any fun kv => decide (kv.1 = k)) = true then kvs.map (fun kv => if kv.1 = k then (kv.1, v) else kv) else kvs ++ [(k, v)]
def putO (so : SO) (i v : D) : Option SO := match so, i with
  | .lst xs, .int i => (ixN xs.length i).map fun j => .lst (xs.set j v)
  | .dic kvs, .str x => if kvs.length < sizeLine then some (.dic (dput kvs (.inr x) v)) else none
  | .dic kvs, .int j => if kvs.length < sizeLine then some (.dic (dput kvs (.inl j) v)) else none
  | _, _ => none
theorem kv_put {κ : Type} [DecidableEq κ] {k : κ} {v : V} {d : D} (r : Rep K F ρ v d) {vs : List (κ × V)} {ds : List (κ × D)} (hk : vs.map (·.1) = ds.map (·.1)) (rr : RepAll K F ρ (vs.map (·.2)) (ds.map (·.2))) :
    (putK vs k v).map (·.1) = (dput ds k d).map (·.1) ∧ RepAll K F ρ ((putK vs k v).map (·.2)) ((dput ds k d).map (·.2)) := by
  have hany : ∀ {vs : List (κ × V)} {ds : List (κ × D)}, vs.map (·.1) = ds.map (·.1) → (vs.any fun kv => decide (kv.1 = k)) = (ds.any fun kv => decide (kv.1 = k)) := by
    intro vs
    induction vs with
    | nil => intro ds h; cases ds with
      | nil => rfl
      | cons _ _ => simp at h
    | cons a vs ih =>
      intro ds h
      cases ds with
      | nil => simp at h
      | cons c ds =>
        simp only [List.map_cons, List.cons.injEq] at h
        simp only [List.any_cons, h.1, ih h.2]
  unfold putK dput
  rw [hany hk]
  split
  · clear hany
    revert hk rr
    induction vs generalizing ds with
    | nil => intro hk rr; cases ds with
      | nil => exact ⟨rfl, .nil⟩
      | cons _ _ => simp at hk
    | cons a vs ih =>
      intro hk rr
      cases ds with
      | nil => simp at hk
      | cons c ds =>
        simp only [List.map_cons, List.cons.injEq] at hk
        cases rr with
        | cons r1 rr =>
          rename_i _ha
          by_cases hx : ∃ z ∈ ds, z.1 = k
          · obtain ⟨i1, i2⟩ := ih (ds := ds) (by simpa using hx) hk.2 rr
            simp only [List.map_cons, hk.1]
            split
            · exact ⟨by simp only [List.cons.injEq, true_and]; exact i1, .cons r i2⟩
            · exact ⟨by simp only [List.cons.injEq]; exact ⟨hk.1, i1⟩, .cons r1 i2⟩
          · have nods : ∀ z ∈ ds, z.1 ≠ k := fun z hz e => hx ⟨z, hz, e⟩
            have novs : ∀ z ∈ vs, z.1 ≠ k := fun z hz e => by
              have : z.1 ∈ vs.map (·.1) := List.mem_map_of_mem hz
              rw [hk.2] at this
              obtain ⟨w, hw, ew⟩ := List.mem_map.mp this
              exact nods w hw (ew.trans e)
            have e1 : vs.map (fun kv => if kv.1 = k then (kv.1, v) else kv) = vs := by
              conv => rhs; rw [← List.map_id vs]
              exact List.map_congr_left fun z hz => if_neg (novs z hz)
            have e2 : ds.map (fun kv => if kv.1 = k then (kv.1, d) else kv) = ds := by
              conv => rhs; rw [← List.map_id ds]
              exact List.map_congr_left fun z hz => if_neg (nods z hz)
            simp only [List.map_cons, e1, e2, hk.1]
            split
            · exact ⟨by simp only [List.cons.injEq, true_and]; exact hk.2, .cons r rr⟩
            · exact ⟨by simp only [List.cons.injEq]; exact ⟨hk.1, hk.2⟩, .cons r1 rr⟩
  · rw [List.map_append, List.map_append, List.map_append, List.map_append, hk]
    exact ⟨rfl, rr.append (.cons r .nil)⟩
/-- a dict's item is stored, by values -/
theorem set_dict (hu : X.A.units + 1 < cLine) : PSet X (fun o i v H Q => ∃ a H', o = .ref a ∧ DPut H a i v H' ∧ Q H') := by
  intro pins s σ H o i v ov iv u Q I ro ri rv h
  obtain ⟨a, H', rfl, g, q⟩ := h
  obtain rfl : ov = Value.ref a := ro
  exact d_setItem hu I g ri rv fun s' I' => ⟨H', I', q⟩
theorem PSet.any : PSet X (fun o i v H Q => ∃ t, PSet X t ∧ t o i v H Q) := fun pins s σ H o i v ov iv u Q I ro ri rv ⟨t, ht, q⟩ => ht pins s σ H o i v ov iv u Q I ro ri rv q
theorem putO_ok (hu : X.A.units + 1 < cLine) {so so' : SO} {p : Addr} {k d : D} {y v : V} {u : HO} (r : RepO X.K F ρ (fun _ => some u) p so) (hp : H p = some u) (ry : Rep X.K F ρ y k) (rv : Rep X.K F ρ v d) (h : putO so k d = some so') :
    so.plain = true ∧ so'.plain = true ∧ ∃ u', (∀ x, u' ≠ .own x) ∧ (∀ P', P' p = some u' → RepO X.K F ρ P' p so') ∧ ∀ Q : Hp → Prop, Q (upd H p u') → ∃ t, PSet X t ∧ t (.ref p) y v H Q := by
  cases so with
  | lst xs =>
    obtain ⟨vs, e, r⟩ := r
    cases e
    cases ry with
    | int j =>
      have h2 : (ixN xs.length j).map (fun n => SO.lst (xs.set n d)) = some so' := h
      cases ej : ixN xs.length j with
      | none => rw [ej] at h2; cases h2
      | some n =>
        rw [ej] at h2; cases h2
        exact ⟨rfl, rfl, _, (by intro _ z; cases z), fun P' hP => ⟨_, hP, r.set rv n⟩, fun Q q => ⟨_, set_list, p, vs, j, n, rfl, rfl, hp, by rw [r.length]; exact ej, q⟩⟩
    | _ => cases h
  | dic kvs =>
    obtain ⟨vs, e, r1, r2⟩ := r
    cases e
    have hl : vs.length = kvs.length := by have := congrArg List.length r1; simpa using this
    cases ry with
    | int j =>
      unfold putO at h
      dsimp only at h
      split at h
      · rename_i hz
        cases h
        obtain ⟨z1, z2⟩ := kv_put (k := (Sum.inl j : Key)) rv r1 r2
        exact ⟨rfl, rfl, _, (by intro _ z; cases z), fun P' hP => ⟨_, hP, z1, z2⟩, fun Q q => ⟨_, set_dict hu, p, _, rfl, DPut.k (k := Sum.inl j) hp (by rw [hl]; exact hz), q⟩⟩
      · cases h
    | str j =>
      unfold putO at h
      dsimp only at h
      split at h
      · rename_i hz
        cases h
        obtain ⟨z1, z2⟩ := kv_put (k := (Sum.inr j : Key)) rv r1 r2
        exact ⟨rfl, rfl, _, (by intro _ z; cases z), fun P' hP => ⟨_, hP, z1, z2⟩, fun Q q => ⟨_, set_dict hu, p, _, rfl, DPut.k (k := Sum.inr j) hp (by rw [hl]; exact hz), q⟩⟩
      · cases h
    | _ => cases h
  | dct kvs => cases ry <;> cases h
  | ins c fs => cases ry <;> cases h
  | tab x q => cases ry <;> cases h
/-- x[i] = e, x's own object -/
def isetO (n : Nat) (mi me : M D) : M Fl := M.bind me fun v => fun b => match b.t[n]? with
  | some (some (.own _)) => M.bind mi (fun k => fun b => match b.t[n]? with
    | some (some (.own so)) => (match putO so k v with
      | some so' => .ok .nx { b with t := b.t.set n (some (.own so')) }
      | none => .fail)
    | _ => .fail) b
  | _ => .fail
def isetP (mo mi me : M D) : M Fl := M.bind me fun v => M.bind mo fun x => M.bind mi fun k => fun b => match x with
  | .ptr kk => (match b.g.S kk with
    | some so => (match putO so k v with
      | some so' => .ok .nx { b with g := b.g.put kk so' }
      | none => .fail)
    | none => .fail)
  | _ => .fail
theorem sg_sub' {to ti : TE} {value : Expr} {tv : TE} (hv : PE X value tv) (ho : PE X o to) (hi : PE X i ti) {pos' : Pos}
    (ha : ∀ v, assign (.Subscript o i pos') X.env v = (do
      let ov ← holding [v] (eval o X.env)
      let iv ← holding [v, ov] (eval i X.env)
      standAt pos'
      holding [v, ov, iv] (setItem ov iv v)
      release [v, ov, iv] [])) (hs : swapsWithSole [.Subscript o i pos'] value pos.line X.env = pure false) (hw : swappedStores [.Subscript o i pos'] value X.env = pure none)
    (h1 : (assignEach [.Subscript o i pos'] X.env).map (·.2) = [assign (.Subscript o i pos') X.env]) :
    PS X (.Assign [.Subscript o i pos'] value pos) (fun D σ H => tv σ H fun v H1 => to σ H1 fun x H2 => ti σ H2 fun y H3 => ∃ t, PSet X t ∧ t x y v H3 fun H4 => D.nx σ H4) :=
  ps_asg hv (pg_sub ho hi PSet.any ha) hs hw h1
theorem ss_isetO {n : Nat} {x : Str} {p pos' : Pos} {value : Expr} (hu : X.A.units + 1 < cLine) (hv : SE X W value me) (hx : PE X (.Name x p) (tVar n)) (hi : SE X W i mi)
    (ha : ∀ v, assign (.Subscript (.Name x p) i pos') X.env v = (do
      let ov ← holding [v] (eval (.Name x p) X.env)
      let iv ← holding [v, ov] (eval i X.env)
      standAt pos'
      holding [v, ov, iv] (setItem ov iv v)
      release [v, ov, iv] []) := by intro _; rfl) (hs : swapsWithSole [.Subscript (.Name x p) i pos'] value pos.line X.env = pure false := by rfl) (hw : swappedStores [.Subscript (.Name x p) i pos'] value X.env = pure none := by rfl)
    (h1 : (assignEach [.Subscript (.Name x p) i pos'] X.env).map (·.2) = [assign (.Subscript (.Name x p) i pos') X.env] := by rfl) : SS X W (.Assign [.Subscript (.Name x p) i pos'] value pos) (isetO n mi me) :=
  SS.of (sg_sub' hv hx hi ha hs hw h1) fun σ H F P0 Mm ρ b D B q => sM_then B q fun v d F1 M1 r1 b1 H1 l1 e1 B1 q1 h1 => by
    try dsimp only at h1
    split at h1
    · rename_i so0 e0
      obtain ⟨xv, hxv⟩ := B1.slotV e0
      refine ⟨xv, hxv, sM_then B1 h1 fun y k F2 M2 r2 b2 H2 l2 e2 B2 q2 h2 => ?_⟩
      split at h2
      · rename_i so e3
        split at h2
        · rename_i so' ep
          obtain ⟨p, u, rfl, hp, ru, pl⟩ := B2.ownV e3 hxv
          obtain ⟨_, pl', u', nu, hn, hq⟩ := putO_ok hu ru hp q2 (q1.mono l2 e2) ep
          obtain ⟨p3, u3, y1, y2, y3, _, _, y4⟩ := B2.chg (u' := u') e3 pl'
          rw [hxv] at y1; cases y1
          exact hq _ (PostS.nxt (W := W) h2 (y4 hn))
        · exact h2.elim
      · exact h2.elim
    · exact h1.elim
theorem ss_isetP {pos' : Pos} {value : Expr} (hu : X.A.units + 1 < cLine) (hv : SE X W value me) (ho : SE X W o mo) (hi : SE X W i mi)
    (ha : ∀ v, assign (.Subscript o i pos') X.env v = (do
      let ov ← holding [v] (eval o X.env)
      let iv ← holding [v, ov] (eval i X.env)
      standAt pos'
      holding [v, ov, iv] (setItem ov iv v)
      release [v, ov, iv] []) := by intro _; rfl) (hs : swapsWithSole [.Subscript o i pos'] value pos.line X.env = pure false := by rfl) (hw : swappedStores [.Subscript o i pos'] value X.env = pure none := by rfl)
    (h1 : (assignEach [.Subscript o i pos'] X.env).map (·.2) = [assign (.Subscript o i pos') X.env] := by rfl) : SS X W (.Assign [.Subscript o i pos'] value pos) (isetP mo mi me) :=
  SS.of (sg_sub' hv ho hi ha hs hw h1) fun σ H F P0 Mm ρ b D B q => sM_then B q fun v d F1 M1 r1 b1 H1 l1 e1 B1 q1 h1 => sM_then B1 h1 fun x a F2 M2 r2 b2 H2 l2 e2 B2 q2 h2 => sM_then B2 h2 fun y k F3 M3 r3 b3 H3 l3 e3 B3 q3 h3 => by
    cases q2 with
    | ptr hk =>
      rename_i p kk
      dsimp only at h3
      split at h3
      · rename_i so e4
        split at h3
        · rename_i so' ep
          have pl : so.plain = true := by
            cases so with
            | ins c fs => cases k <;> cases ep
            | tab x q => cases k <;> cases ep
            | _ => rfl
          obtain ⟨a1, u1, z1, _, z2, z3, _⟩ := B3.put (so' := .lst []) (u' := .lst []) e4 pl rfl
          rw [e3.p _ _ hk] at z1; cases z1
          obtain ⟨_, pl', u', nu, hn, hq⟩ := putO_ok hu z3 z2 q3 ((q1.mono l2 e2).mono l3 e3) ep
          obtain ⟨a2, u2, w1, _, _, _, _, w2⟩ := B3.put (so' := so') (u' := u') e4 pl pl'
          rw [e3.p _ _ hk] at w1; cases w1
          exact hq _ (PostS.nxt (W := W) h3 (w2 nu hn))
        · exact h3.elim
      · exact h3.elim
    | _ => exact h3.elim
/-! ### o.f = v -/
def dputF (f : Str) (v : D) : List (Str × D) → List (Str × D)
  | [] => [(f, v)]
  | (g, x) :: r => if g = f then (g, v) :: r else (g, x) :: dputF f v r
theorem fs_put {f : Str} {v : V} {d : D} (r : Rep K F ρ v d) : ∀ {vs : List (Str × V)} {ds : List (Str × D)}, vs.map (·.1) = ds.map (·.1) → RepAll K F ρ (vs.map (·.2)) (ds.map (·.2)) →
    (putF f v vs).map (·.1) = (dputF f d ds).map (·.1) ∧ RepAll K F ρ ((putF f v vs).map (·.2)) ((dputF f d ds).map (·.2))
  | [], [], _, _ => ⟨rfl, .cons r .nil⟩
  | [], _ :: _, h, _ => by simp at h
  | _ :: _, [], h, _ => by simp at h
  | (k1, v1) :: vs, (k2, d1) :: ds, h, rr => by
    simp only [List.map_cons, List.cons.injEq] at h
    obtain ⟨h1, h2⟩ := h
    subst h1
    cases rr with
    | cons r1 rr =>
      obtain ⟨i1, i2⟩ := fs_put (f := f) r h2 rr
      unfold putF dputF
      split
      · exact ⟨by simp only [List.map_cons, h2], .cons r rr⟩
      · exact ⟨by simp only [List.map_cons, i1], .cons r1 i2⟩
def fsetM (c f : Str) (mo me : M D) : M Fl := M.bind me fun v => M.bind mo fun x => fun b => match x with
  | .ptr k => (match b.g.S k with
    | some (.ins c' fs) => if c' = c ∧ fs.length < 1000 then .ok .nx { b with g := b.g.put k (.ins c (dputF f v fs)) } else .fail
    | _ => .fail)
  | _ => .fail
theorem ss_fset {c f : Str} {pos' : Pos} {value : Expr} (ho : SE X W o mo) (hv : SE X W value me) (cl : Cls X.K (ga X.K c)) (na : NoAttr X.K (ga X.K c) f) (hs : swapsWith value (some (.Attribute o f pos')) pos.line X.env = pure false := by rfl) : SS X W (.Assign [.Attribute o f pos'] value pos) (fsetM c f mo me) :=
  SS.of (ps_fld ho hv hs) fun σ H F P0 Mm ρ b D B q => sM_then B q fun v d F1 M1 r1 b1 H1 l1 e1 B1 q1 h1 => sM_then B1 h1 fun x a F2 M2 r2 b2 H2 l2 e2 B2 q2 h2 => by
    cases q2 with
    | ptr hk =>
      rename_i p k
      dsimp only at h2
      split at h2
      · rename_i c' fs e3
        split at h2
        · rename_i hc
          obtain ⟨hc, hz⟩ := hc
          subst hc
          obtain ⟨P, q, BB⟩ := B2
          obtain ⟨a', dx, vs, y1, y2, y3, y4, y5, y6⟩ := BB.h.insAt e3
          rw [hk] at y1; cases y1
          have hl : vs.length = fs.length := by have := congrArg List.length y5; simpa using this
          obtain ⟨z1, z2⟩ := fs_put (f := f) (q1.mono l2 e2) y5 y6
          refine ⟨p, _, dx, vs, rfl, y4, cl, na, by rw [hl]; exact hz, PostS.nxt (W := W) h2 ⟨P, q, BB.h.putI e3 hk y2 y3 z1 z2, BB.pp, BB.len, BB.qi, BB.sl⟩⟩
        · exact h2.elim
      · exact h2.elim
    | _ => exact h2.elim
end
end L2.VI
/-! VI11: built-in functions; displays of dicts. -/
namespace L2.VI
open PySem PySem.Spec PyProof.Rows He

section
variable {X : Cx} {W : WX} {pos apos cpos : Pos} {o i e : Expr} {es : List Expr} {mo mi me : M D} {mas : M (List D)}
variable {K : PySem.W.Frag} {F : Hp} {fc : FrC} {P0 : PX fc} {Mm H : Hp} {ρ : Rho} {bs : BSt} {σ : St}
/-! ### len -/
def lenD : List D → M D
  | [.str y] => guardM (y.length ≤ sizeLine) (M.ret (.int y.length))
  | [.tup ds] => M.ret (.int ds.length)
  | [.lst ds] => M.ret (.int ds.length)
  | [.scr ns] => M.ret (.int ns.length)
  | _ => M.fail
theorem cv_len : CallV X W (.builtin "len") lenD := by
  intro xs as σ H F P0 Mm ρ b Q B r h
  refine ⟨_, call_len, ?_⟩
  unfold lenD at h
  split at h
  · obtain ⟨h1, h⟩ := h.guard
    cases r with | cons r rr => cases rr; cases r; exact ⟨_, _, rfl, ⟨h1, rfl⟩, h.now B (.int _)⟩
  · cases r with | cons r rr => cases rr; cases r with | tup h1 h2 => exact ⟨_, _, rfl, .inr ⟨_, Rep.sqT (P := fun _ => none) B h1, rfl⟩, by rw [h2.length]; exact h.now B (.int _)⟩
  · cases r with | cons r rr => cases rr; cases r with | lst h1 h2 => exact ⟨_, _, rfl, .inl ⟨_, .inl (.inl (B.lstAt h1)), rfl⟩, by rw [h2.length]; exact h.now B (.int _)⟩
  · cases r with | cons r rr => cases rr; cases r with | scr h1 => exact ⟨_, _, rfl, .inl ⟨_, B.sqL h1, rfl⟩, by rw [List.length_map]; exact h.now B (.int _)⟩
  · exact h.elim
/-- len(x), x's own list is not frozen by it -/
def lenV (n : Nat) : M D := fun b => match b.t[n]? with
  | some (some (.own (.lst xs))) => .ok (.int xs.length) b
  | some (some (.val d)) => lenD [d] b
  | _ => .fail
theorem se_lenV {n : Nat} {x : Str} {p p2 : Pos} (hx : PE X (.Name x p2) (tVar n)) (hm : X.mg "len" = none) (hg : Gl X "len" := by rfl)
    (he : starEach [.Name x p2] X.env = (false, eval (.Name x p2) X.env) :: starEach [] X.env := by rfl) : SE X W (.Call (.Name "len" p) [.Name x p2] [] pos) (lenV n) :=
  SE.of (pe_callB CallR.any hg hm boot_len (pa_cons hx pa_nil he) (by decide) (by decide) he) fun σ H F P0 Mm ρ bs Q B q => by
    unfold lenV at q
    split at q
    · rename_i xs e
      obtain ⟨v, hv⟩ := B.slotV e
      obtain ⟨p, u, rfl, hp, ru, pl⟩ := B.ownV e hv
      obtain ⟨vs, z, rr⟩ := ru
      cases z
      exact ⟨_, hv, _, call_len, _, _, rfl, .inl ⟨_, .inl (.inl hp), rfl⟩, by rw [rr.length]; exact q.now B (.int _)⟩
    · rename_i d e
      obtain ⟨v, hv⟩ := B.slotV e
      exact ⟨_, hv, cv_len (W := W) [v] [d] σ H F P0 Mm ρ bs Q B (.cons (B.valV e hv) .nil) q⟩
    · exact q.elim
/-! ### min, max of two; int; repr -/
def min2D : List D → M D
  | [.int i, .int j] => M.ret (.int (if j < i then j else i))
  | _ => M.fail
def max2D : List D → M D
  | [.int i, .int j] => M.ret (.int (if j > i then j else i))
  | _ => M.fail
theorem cv_min2 (hc : X.calm = true := by rfl) : CallV X W (.builtin "min") min2D := by
  intro xs as σ H F P0 Mm ρ b Q B r h
  refine ⟨_, call_min2 hc, ?_⟩
  unfold min2D at h
  split at h
  · cases r with | cons r rr => cases rr with | cons r2 rr => cases rr; cases r; cases r2; exact ⟨_, _, rfl, h.now B (.int _)⟩
  · exact h.elim
theorem cv_max2 (hc : X.calm = true := by rfl) : CallV X W (.builtin "max") max2D := by
  intro xs as σ H F P0 Mm ρ b Q B r h
  refine ⟨_, call_max2 hc, ?_⟩
  unfold max2D at h
  split at h
  · cases r with | cons r rr => cases rr with | cons r2 rr => cases rr; cases r; cases r2; exact ⟨_, _, rfl, h.now B (.int _)⟩
  · exact h.elim
def intD : List D → M D
  | [.int i] => M.ret (.int i)
  | [.bl k] => M.ret (.int (if k then 1 else 0))
  | _ => M.fail
theorem cv_int : CallV X W (.type "int") intD := by
  intro xs as σ H F P0 Mm ρ b Q B r h
  refine ⟨_, call_int1, ?_⟩
  unfold intD at h
  split at h
  · cases r with | cons r rr => cases rr; cases r; exact .inl ⟨_, rfl, h.now B (.int _)⟩
  · cases r with | cons r rr => cases rr; cases r; exact .inr ⟨_, rfl, h.now B (.int _)⟩
  · exact h.elim
theorem cr_repr : CallR X (.builtin "repr") (fun xs H Q => (∃ i, xs = [.int i] ∧ i.natAbs.log2 < 1920 ∧ Q (.str (toString i)) H) ∨ (∃ k : Bool, xs = [.bl k] ∧ Q (.str (if k then "True" else "False")) H) ∨ xs = [.non] ∧ Q (.str "None") H) := by
  intro pins s σ H xs us Q I r h
  rcases h with ⟨i, rfl, hz, q⟩ | ⟨k, rfl, q⟩ | ⟨rfl, q⟩
  · obtain ⟨u, rfl, t, rfl⟩ := vals1 r
    exact PySem.P.repr_of_int hz ⟨.str _, H, I.tok _, ⟨_, rfl⟩, q⟩
  · obtain ⟨u, rfl, r1⟩ := vals1 r
    cases r1
    exact PySem.P.repr_of_bool ⟨.str _, H, I.tok _, ⟨_, rfl⟩, q⟩
  · obtain ⟨u, rfl, r1⟩ := vals1 r
    cases r1
    exact PySem.P.repr_of_none ⟨.str _, H, I.tok _, ⟨_, rfl⟩, q⟩
def reprD : List D → M D
  | [.int i] => guardM (i.natAbs.log2 < 1920) (M.ret (.str (toString i)))
  | [.bl k] => M.ret (.str (if k then "True" else "False"))
  | [.non] => M.ret (.str "None")
  | _ => M.fail
theorem cv_repr : CallV X W (.builtin "repr") reprD := by
  intro xs as σ H F P0 Mm ρ b Q B r h
  refine ⟨_, cr_repr, ?_⟩
  unfold reprD at h
  split at h
  · obtain ⟨h1, h⟩ := h.guard
    cases r with | cons r rr => cases rr; cases r; exact .inl ⟨_, rfl, h1, h.now B (.str _)⟩
  · cases r with | cons r rr => cases rr; cases r; exact .inr (.inl ⟨_, rfl, h.now B (.str _)⟩)
  · cases r with | cons r rr => cases rr; cases r; exact .inr (.inr ⟨rfl, h.now B (.str _)⟩)
  · exact h.elim
/-! ### list(x): a new list -/
def toLst : List D → Option SO
  | [.lst ds] => some (.lst ds)
  | [.tup ds] => some (.lst ds)
  | [.scr ns] => some (.lst (ns.map D.int))
  | _ => none
def listN (ms : M (List D)) : M SO := M.bind ms fun ds => optM (toLst ds)
theorem PostF.opt {o : Option SO} {Q : VK} (h : PostF K W P0 F ρ σ Q (optM o bs)) : ∃ a, o = some a ∧ PostF K W P0 F ρ σ Q (.ok a bs) := by
  cases o with
  | none => exact h.elim
  | some a => exact ⟨a, rfl, h⟩
theorem sn_list {x : Str} {p : Pos} (hm : X.mg "list" = none) (ha : SA X W [e] mas) (hg : Gl X "list" := by rfl)
    (he : starEach [e] X.env = (false, eval e X.env) :: starEach [] X.env := by rfl) : SN X W (.Call (.Name "list" p) [e] [] pos) (listN mas) :=
  SN.of (pe_callTy call_list_of hg hm (by decide +kernel) ha (by decide) (by decide) he) fun σ H F P0 Mm ρ bs Q B q => tM_thenF B q fun xs ds F1 M1 r1 b1 H1 l1 e1 B1 q1 h1 => by
    obtain ⟨so, ho, h1⟩ := h1.opt
    unfold toLst at ho
    split at ho
    · cases ho
      cases q1 with | cons r rr => cases rr; cases r with | lst h2 h3 => exact ⟨_, _, rfl, .inl (.inl (.inl (B1.lstAt h2))), fun l hl => h1.now B1 hl (fun P' hp => ⟨_, hp, h3⟩) rfl⟩
    · cases ho
      cases q1 with | cons r rr => cases rr; cases r with | tup h2 h3 => exact ⟨_, _, rfl, .inr (Rep.sqT (P := fun _ => none) B1 h2), fun l hl => h1.now B1 hl (fun P' hp => ⟨_, hp, h3⟩) rfl⟩
    · cases ho
      cases q1 with | cons r rr => cases rr; cases r with | scr h2 => exact ⟨_, _, rfl, .inl (B1.sqL h2), fun l hl => h1.now B1 hl (fun P' hp => ⟨_, hp, RepAll.of_ints _⟩) rfl⟩
    · cases ho
/-! ### isinstance -/
/-- a value's type: a built-in one, or a class of the module -/
def tyD (d : D) (g : GSt) : Option (String ⊕ Str) := match d with
  | .non => some (.inl "NoneType")
  | .bl _ => some (.inl "bool")
  | .int _ => some (.inl "int")
  | .str _ => some (.inl "str")
  | .tup _ => some (.inl "tuple")
  | .lst _ => some (.inl "list")
  | .dic _ => some (.inl "dict")
  | .ptr k => (match g.S k with
    | some (.lst _) => some (.inl "list")
    | some (.dic _) => some (.inl "dict")
    | some (.dct _) => some (.inl "dict")
    | some (.ins c _) => some (.inr c)
    | _ => none)
  | _ => none
def isiM (cd : D → Bool) (subs : String → Bool) (own : List (Str × Bool)) : List D → M D
  | [x, c] => fun b => if cd c = true then (match tyD x b.g with
    | some (.inl t) => .ok (.bl (subs t)) b
    | some (.inr c) => (match own.lookup c with
      | some k => .ok (.bl k) b
      | none => .fail)
    | none => .fail) else .fail
  | _ => M.fail
def tyNames : List String := ["NoneType", "bool", "int", "str", "tuple", "list", "dict"]
structure ClsI (K : PySem.W.Frag) (c : Str) : Prop where
  cl : Cls K (ga K c)
  ha : PySem.W.findIn K (.ref (ga K c)) "__class__" = some (some (.builtin "object.__class__"))
  hn : PySem.W.specialIn K (.builtin "object.__class__") "__get__" = some (some (.builtin "getset_descriptor.__get__"))
  htk : PySem.W.takesIn K (.builtin "object.__class__") = some true
  hm : PySem.W.mroIn K (ga K c) (.type "object") = some true
def tyVal (K : PySem.W.Frag) : String ⊕ Str → Value
  | .inl t => .type t
  | .inr c => .ref (ga K c)
theorem tyX_of {x : V} {d : D} {t : String ⊕ Str} (B : BRel K F P0 Mm ρ bs σ H) (r : Rep K F ρ x d) (h : tyD d bs.g = some t) (hc : ∀ c, t = .inr c → ClsI K c) : TyX K H x (tyVal K t) ∧ (∀ n, t = .inl n → n ∈ tyNames) := by
  have lk : ∀ {a : Addr} {vs : List V}, SqT K H a vs → TyX K H (.ref a) (.type "tuple") := by
    intro a vs h
    rcases h with h | ⟨o, its, n, h1, h2, h3⟩
    · rcases h with h | ⟨o, h⟩
      · exact .base (.tup h)
      · exact .fTuple h
    · exact .kTuple h1 h2
  cases r with
  | non => cases h; exact ⟨.base .non, fun n e => by cases e; decide⟩
  | bl b => cases h; exact ⟨.base (.bl b), fun n e => by cases e; decide⟩
  | int i => cases h; exact ⟨.base (.int i), fun n e => by cases e; decide⟩
  | str i => cases h; exact ⟨.base (.str i), fun n e => by cases e; decide⟩
  | ty n => cases h
  | glo x => cases h
  | tup h1 h2 => cases h; exact ⟨lk (Rep.sqT (P := fun _ => none) B h1), fun n e => by cases e; decide⟩
  | lst h1 h2 => cases h; exact ⟨.base (.lst (B.lstAt h1)), fun n e => by cases e; decide⟩
  | dic h1 h2 h3 =>
    cases h
    refine ⟨?_, fun n e => by cases e; decide⟩
    rcases B.dicAt h1 with h | ⟨o, h⟩
    · exact .base (.dK h)
    · exact .fDict h
  | scr h1 => cases h
  | xob _ _ _ _ => cases h
  | xob0 _ => cases h
  | lam _ _ _ _ => cases h
  | ptr hk =>
    rename_i a k
    unfold tyD at h
    dsimp only at h
    obtain ⟨P, q, BB⟩ := id B
    split at h
    · rename_i xs e
      cases h
      obtain ⟨a', h1, vs, h2, h3⟩ := BB.h.st k _ e
      rw [hk] at h1; cases h1
      exact ⟨.base (.lst (BB.h.mh _ _ h2)), fun n e => by cases e; decide⟩
    · rename_i xs e
      cases h
      obtain ⟨a', h1, vs, h2, h3⟩ := BB.h.st k _ e
      rw [hk] at h1; cases h1
      exact ⟨.base (.dK (BB.h.mh _ _ h2)), fun n e => by cases e; decide⟩
    · rename_i xs e
      cases h
      obtain ⟨a', h1, vs, h2, h3⟩ := BB.h.st k _ e
      rw [hk] at h1; cases h1
      exact ⟨.base (.dT (BB.h.mh _ _ h2)), fun n e => by cases e; decide⟩
    · rename_i c fs e
      cases h
      obtain ⟨a', h1, dx, vs, h2, h3⟩ := BB.h.st k _ e
      rw [hk] at h1; cases h1
      have c0 := hc c rfl
      exact ⟨.base (.ins (BB.h.mh _ _ h2) c0.cl c0.ha c0.hn c0.htk c0.hm), fun n e => by cases e⟩
    · cases h
theorem cv_isi {cd : D → Bool} {subs : String → Bool} {own : List (Str × Bool)} {u : Value} (hcd : ∀ c, cd c = true → (∃ n, c = .ty n ∧ u = .type n) ∨ ∃ x, c = .glo x ∧ u = .ref (ga X.K x))
    (hs : ∀ n, n ∈ tyNames → PySem.W.kitOne X.K (.type n) u = some (subs n)) (ho : ∀ p ∈ own, ClsI X.K p.1 ∧ PySem.W.kitOne X.K (.ref (ga X.K p.1)) u = some p.2) : CallV X W (.builtin "isinstance") (isiM cd subs own) := by
  intro xs as σ H F P0 Mm ρ b Q B r h
  refine ⟨_, call_isi, ?_⟩
  unfold isiM at h
  split at h
  · rename_i x c
    split at h
    · rename_i hc
      cases r with
      | cons rx rr =>
        cases rr with
        | cons rc rr =>
          cases rr
          have hC : ∀ v, Rep X.K F ρ v c → ClsV v u := by
            intro v rv
            rcases hcd c hc with ⟨n, rfl, rfl⟩ | ⟨y, rfl, rfl⟩
            · cases rv; exact .ty n
            · cases rv; exact .own _
          cases ht : tyD x b.g with
          | none => rw [ht] at h; exact h.elim
          | some t =>
            rw [ht] at h
            cases t with
            | inl n =>
              obtain ⟨t1, t2⟩ := tyX_of B rx ht fun c e => nomatch e
              exact ⟨_, _, _, u, _, rfl, hC _ rc, t1, hs n (t2 n rfl), h.now B (.bl _)⟩
            | inr y =>
              dsimp only at h
              split at h
              · rename_i k ek
                have hm : (y, k) ∈ own := by
                  clear h ht ho
                  induction own with
                  | nil => cases ek
                  | cons p own ih =>
                    obtain ⟨p1, p2⟩ := p
                    rw [List.lookup_cons] at ek
                    split at ek
                    · rename_i he
                      have := eq_of_beq he
                      cases ek; subst this
                      exact List.mem_cons_self ..
                    · exact List.mem_cons_of_mem _ (ih ek)
                obtain ⟨c1, c2⟩ := ho _ hm
                obtain ⟨t1, _⟩ := tyX_of B rx ht fun c e => by cases e; exact c1
                exact ⟨_, _, _, u, _, rfl, hC _ rc, t1, c2, h.now B (.bl _)⟩
              · exact h.elim
    · exact h.elim
  · exact h.elim
/-! ### {k: v, ..} -/
def seqL : List (M D) → M (List D)
  | [] => M.ret []
  | m :: ms => consM m (seqL ms)
def pairT (fc : FrC) (K : PySem.W.Frag) (W : WX) : List Key → List (M D) → List (TE × TE)
  | k :: ks, m :: ms => (fun σ H Q => Q (kV k) H, tE (fc := fc) K W m) :: pairT fc K W ks ms
  | _, _ => []
theorem pp_nil : PPs X pos [] [] (pairT (fcOf X) X.K W [] []) := pps_nil
theorem pp_str {k : Str} {pk : Pos} {j : Nat} {v : Expr} {ks : List (Option Expr)} {vs : List Expr} {qs : List Key} {m : M D} {ms : List (M D)} (hv : SE X W v m) (hr : PPs X pos ks vs (pairT (fcOf X) X.K W qs ms)) :
    PPs X pos (some (.Constant (.str k) j pk) :: ks) (v :: vs) (pairT (fcOf X) X.K W (.inr k :: qs) (m :: ms)) := pps_cons pe_str hv hr
theorem pp_int {k : Int} {pk : Pos} {j : Nat} {v : Expr} {ks : List (Option Expr)} {vs : List Expr} {qs : List Key} {m : M D} {ms : List (M D)} (hv : SE X W v m) (hr : PPs X pos ks vs (pairT (fcOf X) X.K W qs ms)) :
    PPs X pos (some (.Constant (.int k) j pk) :: ks) (v :: vs) (pairT (fcOf X) X.K W (.inl k :: qs) (m :: ms)) := pps_cons pe_int hv hr
theorem pairs_of {ks : List Key} {ms : List (M D)} : ∀ {F Mm H : Hp} {ρ : Rho} {b : BSt} {Q : List V → Hp → Prop} {R : List (V × V) → Hp → Prop}, ks.length = ms.length → BRel K F P0 Mm ρ b σ H → Post (RepAll K) K W P0 F ρ σ Q (seqL ms b) →
    (∀ vs H2, vs.length = ks.length → Q vs H2 → R ((ks.zip vs).map fun kv => (kV kv.1, kv.2)) H2) → tPairs (pairT fc K W ks ms) σ H R := by
  induction ms generalizing ks with
  | nil =>
    intro F Mm H ρ b Q R hl B h hR
    cases ks with
    | nil => exact hR [] H rfl (h.now B .nil)
    | cons _ _ => cases hl
  | cons m ms ih =>
    intro F Mm H ρ b Q R hl B h hR
    cases ks with
    | nil => cases hl
    | cons k ks =>
      have hl' : ks.length = ms.length := Nat.succ.inj hl
      refine tM_then B h fun x d F1 M1 r1 b1 H1 l1 e1 B1 q1 h1 => ?_
      have h2 : Post (RepAll K) K W P0 F1 r1 σ (fun vs H2 => Q (x :: vs) H2) (seqL ms b1) := by
        unfold M.bind at h1
        cases es : seqL ms b1 with
        | ok a b' =>
          rw [es] at h1
          exact fun y F' M' ρ' H' l r B' q => h1 (x :: y) F' M' ρ' H' l r B' (.cons (q1.mono l r) q)
        | exc y b' => rw [es] at h1; exact h1
        | fail => rw [es] at h1; exact h1.elim
      exact ih (ks := ks) hl' B1 h2 fun vs H2 a1 a3 => hR (x :: vs) H2 (congrArg Nat.succ a1) a3
def mergeD (kvs : List (Key × D)) (more : List (Key × D)) : List (Key × D) := more.foldl (fun acc kv => dput acc kv.1 kv.2) kvs
theorem merge_kv : ∀ {ks : List Key} {vs : List V} {ds : List D} {kvs : List (Key × V)} {kds : List (Key × D)}, RepAll K F ρ vs ds → kvs.map (·.1) = kds.map (·.1) → RepAll K F ρ (kvs.map (·.2)) (kds.map (·.2)) →
    (mergeK kvs (ks.zip vs)).map (·.1) = (mergeD kds (ks.zip ds)).map (·.1) ∧ RepAll K F ρ ((mergeK kvs (ks.zip vs)).map (·.2)) ((mergeD kds (ks.zip ds)).map (·.2))
  | [], _, _, _, _, _, h1, h2 => ⟨by simpa [mergeK, mergeD] using h1, by simpa [mergeK, mergeD] using h2⟩
  | _ :: _, [], [], _, _, _, h1, h2 => ⟨by simpa [mergeK, mergeD] using h1, by simpa [mergeK, mergeD] using h2⟩
  | k :: ks, v :: vs, d :: ds, kvs, kds, .cons r rr, h1, h2 => by
    obtain ⟨z1, z2⟩ := kv_put (k := k) r h1 h2
    exact merge_kv (ks := ks) rr z1 z2
/-- a fresh object is changed -/
theorem Frs.chgF {p : Addr} {so so' : SO} {u u' : HO} (h : Frs K F P0 Mm ρ bs σ H p so) (hn : ∀ P', P' p = some u' → RepO K F ρ P' p so') (pl : so'.plain = true) : Frs K F P0 Mm ρ bs σ (upd H p u') p so' := by
  obtain ⟨P, q, B, r, pl0, n0, nq⟩ := h
  obtain ⟨w, hw, _⟩ := id r.there
  refine ⟨upd P p u', q, ⟨B.h.setP hw, fun a w e => ?_, B.len, B.qi, fun i s e => ?_⟩, hn _ upd_same, pl, n0, nq⟩
  · have : a ≠ p := fun z => by subst z; rw [n0] at e; cases e
    rw [upd_ne this]; exact B.pp a w e
  · refine (B.sl i s e).mono (Leq.refl _) (Rle.refl _) fun a ea => ⟨ea, fun w z => ?_⟩
    have : a ≠ p := fun z => nq i (by rw [← z]; exact ea)
    rw [upd_ne this]; exact z
def dispN (ks : List Key) (ms : List (M D)) : M SO := M.bind (seqL ms) fun ds => M.ret (.dic (mergeD [] (ks.zip ds)))
theorem sn_disp {keys : List (Option Expr)} {values : List Expr} {ks : List Key} {ms : List (M D)} (h : PPs X pos keys values (pairT (fcOf X) X.K W ks ms)) (hk : ks.length = ms.length := by rfl) (hz : ks.length ≤ 15 := by decide)
    (hall : keys.all (·.isSome) = true := by rfl) (hl : keys.length = values.length := by rfl) (h0 : keys ≠ [] := by exact List.cons_ne_nil _ _) (h15 : keys.length ≤ 15 := by decide) : SN X W (.Dict keys values pos) (dispN ks ms) :=
  SN.of (pe_disp h hall hl h0 h15) fun σ H F P0 Mm ρ b Q B q p hp => by
    have fr : Frs X.K F P0 Mm ρ b σ (upd H p (.dK [])) p (.dic []) := B.fresh (u := .dK []) hp (fun P' h => ⟨[], h, rfl, .nil⟩) rfl
    obtain ⟨u, Bp, ru, n0, pl⟩ := fr.prot
    obtain ⟨z0, z1, z2, z3⟩ := id ru
    have eu : u = .dK [] := by
      obtain ⟨vs, e1, e2, _⟩ := id ru
      cases vs with
      | nil => exact Option.some.inj e1
      | cons _ _ => cases e2
    subst eu
    have q2 : Post (fc := fcOf X) (RepAll X.K) X.K W (upd P0 p (.dK [])) F ρ σ (fun vs H2 => H2 p = some (.dK []) ∧ (vs.length = ks.length → Q (.ref p) (upd H2 p (.dK (mergeK [] (ks.zip vs)))))) (seqL ms b) := by
      unfold dispN M.bind at q
      cases es : seqL ms b with
      | fail => rw [es] at q; exact q.elim
      | exc y b' =>
        rw [es] at q
        intro cls d F' M' ρ' H' l r B' rx
        obtain ⟨P, qq, BB, _, _, _, _⟩ := B'.unprot (ru.monoP l r pl fun w z => z) n0 pl
        exact q cls d F' M' ρ' H' l r ⟨P, qq, BB⟩ rx
      | ok ds b' =>
        rw [es] at q
        intro vs F' M' ρ' H' l r B' rv
        have fr' := B'.unprot (ru.monoP l r pl fun w z => z) n0 pl
        refine ⟨?_, fun _ => ?_⟩
        · obtain ⟨P, qq, BB⟩ := B'
          exact BB.h.ph _ _ (BB.pp _ _ upd_same)
        · obtain ⟨m1, m2⟩ := merge_kv (ks := ks) (kvs := []) (kds := []) rv rfl .nil
          exact q p F' M' ρ' _ l r (fr'.chgF (u := .dK []) (fun P' hP => ⟨_, hP, m1, m2⟩) rfl)
    refine pairs_of hk Bp q2 fun vs H2 hv hq => ⟨hq.1, ks.zip vs, rfl, ?_, hq.2 hv⟩
    rw [List.length_zip, hv, Nat.min_self]; exact hz
theorem sn_disp0 : SN X W (.Dict [] [] pos) (M.ret (.dic [])) :=
  SN.of pe_dnewK fun σ H F P0 Mm ρ b Q B q p hp => q.now B hp (fun P' h => ⟨[], h, rfl, .nil⟩) rfl
def isTyD (n : String) : D → Bool
  | .ty m => decide (m = n)
  | _ => false
def isGloD (x : Str) : D → Bool
  | .glo y => decide (y = x)
  | _ => false
/-- isinstance(x, T), T a built-in type -/
theorem cv_isiT {T : String} {subs : String → Bool} {own : List (Str × Bool)} (hs : ∀ n, n ∈ tyNames → kitB n T = some (subs n) := by decide +kernel) (ho : ∀ p ∈ own, ClsI X.K p.1 ∧ PySem.W.kitOne X.K (.ref (ga X.K p.1)) (.type T) = some p.2) : CallV X W (.builtin "isinstance") (isiM (isTyD T) subs own) :=
  cv_isi (u := .type T) (fun c h => .inl (by
    cases c with
    | ty m => have : m = T := of_decide_eq_true h; subst this; exact ⟨_, rfl, rfl⟩
    | _ => cases h)) (fun n hn => kit_ty (hs n hn)) ho
/-- isinstance(x, C), C a class of the module -/
theorem cv_isiC {C : Str} {own : List (Str × Bool)} (hs : ∀ n, n ∈ tyNames → PySem.W.kitOne X.K (.type n) (.ref (ga X.K C)) = some false) (ho : ∀ p ∈ own, ClsI X.K p.1 ∧ PySem.W.kitOne X.K (.ref (ga X.K p.1)) (.ref (ga X.K C)) = some p.2) : CallV X W (.builtin "isinstance") (isiM (isGloD C) (fun _ => false) own) :=
  cv_isi (u := .ref (ga X.K C)) (fun c h => .inr (by
    cases c with
    | glo m => have : m = C := of_decide_eq_true h; subst this; exact ⟨_, rfl, rfl⟩
    | _ => cases h)) hs ho
end
end L2.VI
/-! VI12: a def's promise from its body; the law's; facts by names. -/
namespace L2.VI
open PySem PySem.Spec PyProof.Rows He

/-- a def: n parameters, sl slots -/
def fnBody (n sl : Nat) (m : M Fl) : FnD := fun ds g => if ds.length = n then (match m ⟨g, ds.map (fun d => some (.val d)) ++ List.replicate (sl - n) none⟩ with
  | .ok .nx b => .ok .non b.g
  | .ok (.ret d) b => .ok d b.g
  | .exc x b => .exc x b.g
  | _ => .fail) else .fail
theorem ar_of {n sl : Nat} {m : M Fl} : Ar (fnBody n sl m) n := fun ds g h => if_neg h
theorem HRel.weak {K : PySem.W.Frag} {F P : Hp} {fc : FrC} {P0 : PX fc} {Mm H : Hp} {ρ : Rho} {g : GSt} (h : HRel K F P Mm ρ g H) (pp : ∀ a u, P0 a = some u → P a = some u) : HRel K F P0 Mm ρ g H := by
  have pn : ∀ a, P a = none → P0 a = none := fun a e => by
    cases q : P0 a with
    | none => rfl
    | some u => have := pp a u q; rw [e] at this; cases this
  exact ⟨h.fh, fun a u e => h.ph a u (pp a u e), h.mh, fun a u e => ⟨pn a (h.fp a u e).1, (h.fp a u e).2⟩, fun a u e => h.pm a u (pp a u e), h.st, h.inj, h.nx, h.rh⟩
theorem BRel.weak {K : PySem.W.Frag} {F : Hp} {fc : FrC} {P0 : PX fc} {Mm H : Hp} {ρ : Rho} {b : BSt} {σ : St} (B : BRel K F P0 Mm ρ b σ H) : HRel K F P0 Mm ρ b.g H := by
  obtain ⟨P, q, B⟩ := B
  exact B.h.weak B.pp
theorem BRel.start {fc : FrC} {K : PySem.W.Frag} {F P Mm H : Hp} {ρ : Rho} {g : GSt} {vs : List V} {ds : List D} {N : List Str} (h : HRel K F P Mm ρ g H) (r : RepAll K F ρ vs ds) : BRel (fc := fc) K F P Mm ρ ⟨g, ds.map (fun d => some (.val d)) ++ List.replicate (N.length - ds.length) none⟩ (L2.start N vs) H := by
  refine ⟨P, fun _ => none, h, fun _ _ e => e, ?_, (fun _ _ _ e => nomatch e), fun i s e => ?_⟩
  · unfold L2.start
    simp [r.length]
  · have e1 : (ds.map (fun d => some (Slot.val d)) ++ List.replicate (N.length - ds.length) none)[i]? = some (some s) := e
    by_cases hi : i < ds.length
    · rw [List.getElem?_append_left (by simpa using hi), List.getElem?_map] at e1
      cases ed : ds[i]? with
      | none => rw [ed] at e1; cases e1
      | some d =>
        rw [ed] at e1
        cases e1
        obtain ⟨v, hv, rv⟩ := r.get ed
        refine ⟨v, ?_, rv⟩
        unfold L2.start
        rw [List.getElem?_append_left (by simpa [r.length] using hi), List.getElem?_map, hv]
        rfl
    · rw [List.getElem?_append_right (by simpa using hi), List.getElem?_replicate] at e1
      split at e1 <;> cases e1
/-- THE RULE of a def -/
theorem fn_okV {P : Program} {w : World} {K : PySem.W.Frag} {mg : Str → Option Value} {base : Heap} {x qual : Str} {params : Arguments} {body : List Stmt} {scope : Scope} {dvs : List V} {kws : List (Str × V)} {f : Addr} {fd : FuncData} {N ps : List Str} {k n sl : Nat} {m : M Fl}
    (F : FunD K x qual params body scope dvs kws f fd) (S : FnScope N ps scope) (hn : ps.length = n) (hs : N.length = sl)
    (hb : ∀ (cdv : Value) (A : Around) (outer : List Env) (s : Shared) (H : Hp) (E : XK), Room k (A.deeper (envOfC qual scope s.heap.objs.size f cdv)) → SSs (cxOf (CV P w) P w K mg base N qual scope f cdv A outer s H E) (fun cls d _ H => E cls d H) body m) :
    FnOk P w K mg base (CV P w) (k + 1) f fd ps (spV K n (fnBody n sl m)) := by
  subst hn hs
  refine F.ok S (fun vs H Q E h => h.1) fun cdv A outer s H vs Q E hr h => ⟨_, hb cdv A outer s H E hr, ?_⟩
  obtain ⟨hl, F0, P0, Mm, ρ, g, ds, hR, r, q⟩ := h
  have hd : ds.length = ps.length := r.length.symm.trans hl
  have B := BRel.start (fc := fcOf (cxOf (CV P w) P w K mg base N qual scope f cdv A outer s H E)) (N := N) hR r
  refine ⟨F0, P0, Mm, ρ, _, B, ?_⟩
  unfold fnBody at q
  rw [if_pos hd, ← hd] at q
  generalize m ⟨g, ds.map (fun d => some (Slot.val d)) ++ List.replicate (N.length - ds.length) none⟩ = z at q ⊢
  cases z with
  | fail => exact q.elim
  | exc x b => exact fun cls d σ' F' M' ρ' H' l r' B' rx => q cls d F' M' ρ' H' l r' B'.weak rx
  | ok fl b =>
    cases fl with
    | nx => exact fun σ' F' M' ρ' H' l r' B' => q .non F' M' ρ' H' l r' B'.weak .non
    | ret d => exact fun v σ' F' M' ρ' H' l r' B' rv => q v F' M' ρ' H' l r' B'.weak rv
    | brk => exact q.elim
    | cnt => exact q.elim
/-- the law's own promise at the script's list -/
theorem sp_law {K : PySem.W.Frag} {m : FnD} {H : Hp} {a : Addr} {ns : List Int} (hO : Only H) (hS : SqL K H a (ns.map V.int)) (h : ∃ g', m [.scr ns] ⟨fun _ => none, 0⟩ = .ok (.bl true) g') :
    spV K 1 m [.ref a] H (fun v _ => v = .bl true) (fun _ _ _ => False) := by
  obtain ⟨g', e⟩ := h
  refine ⟨rfl, H, fun _ => none, fun _ => none, rho0, ⟨fun _ => none, 0⟩, [.scr ns], ⟨fun b u eu => ?_, fun _ _ z => (nomatch z), fun _ _ z => (nomatch z), fun _ _ _ => ⟨rfl, rfl⟩, fun _ _ z => (nomatch z), fun _ _ z => (nomatch z), fun _ _ _ z => (nomatch z), fun _ _ => ⟨rfl, rfl⟩, fun _ _ z => (nomatch z)⟩, .cons (.scr hS) .nil, ?_⟩
  · rcases hO b with n | ⟨o, xs, n⟩
    · rw [n] at eu; cases eu
    · rw [n] at eu; cases eu; exact n
  · rw [e]
    intro v F' M' ρ' H' l r hh rv
    cases rv
    rfl
/-! ### a def's function object, by its place -/
def fdA (K : PySem.W.Frag) (a : Addr) : FuncData := match K.lookup a with
  | some ⟨_, _, .func fd, _⟩ => fd
  | _ => default
theorem fdA_of {K : PySem.W.Frag} {x qual : Str} {params : Arguments} {body : List Stmt} {scope : Scope} {dvs : List V} {kws : List (Str × V)} {f : Addr} (h : ∃ fd, FunD K x qual params body scope dvs kws f fd) : FunD K x qual params body scope dvs kws f (fdA K f) := by
  obtain ⟨fd, F⟩ := h
  have e : fdA K f = fd := by
    obtain ⟨oc, od, dV, kV, doc, pm, an, cdv, ct, osl, h1, h2, _⟩ := F.ex
    unfold fdA
    rw [h2]
  rw [e]; exact F
/-- the promise of the def at a place -/
abbrev OkV (P : Program) (w : World) (K : PySem.W.Frag) (mg : Str → Option Value) (base : Heap) (lv : Nat) (f : Addr) (ps : List Str) (m : FnD) : Prop := FnOk P w K mg base (CV P w) lv f (fdA K f) ps (spV K ps.length m)
/-! ### properties -/
/-- the object of a class's property, its getter -/
def pgA (K : PySem.W.Frag) (p : Str × Str) : Addr := match PySem.W.recIn K (ma K (ga K p.1) p.2) "property" with
  | some (.ref g :: _) => g
  | _ => 0
def propB (K : PySem.W.Frag) (p : Str × Str) : Bool := eqO (PySem.W.findIn K (.ref (ga K p.1)) p.2) (some (some (.ref (ma K (ga K p.1) p.2)))) && (eqO (PySem.W.specialIn K (.ref (ma K (ga K p.1) p.2)) "__get__") (some (some (.builtin "property.__get__"))) &&
  (decide (PySem.W.takesIn K (.ref (ma K (ga K p.1) p.2)) = some true) && (match PySem.W.recIn K (ma K (ga K p.1) p.2) "property" with
    | some (.ref _ :: _) => true
    | _ => false)))
theorem propB_ok {K : PySem.W.Frag} {p : Str × Str} (h : propB K p = true) : PropOf K (ga K p.1) p.2 (ma K (ga K p.1) p.2) (pgA K p) := by
  obtain ⟨h1, h⟩ := ba h
  obtain ⟨h2, h⟩ := ba h
  obtain ⟨h3, h4⟩ := ba h
  refine ⟨eqO_ok h1, eqO_ok h2, of_decide_eq_true h3, ?_⟩
  unfold pgA
  split at h4
  · rename_i g rest e
    rw [e]
    exact ⟨rest, rfl⟩
  · cases h4
def fnAt (K : PySem.W.Frag) (a : Addr) : FnW := match K.lookup a with
  | some ⟨_, _, .func fd, _⟩ => some (fd.name, fd.qualname, fd.params, fd.body, fd.scope, fd.globals, fd.closure, fd.builtins)
  | _ => none
/-- a getter: it has no defaults -/
def getB (K : PySem.W.Frag) (a : Addr) (q : Str) : Bool := PySem.W.keepIn K (.ref a) && (match K.lookup a with
  | some ⟨_, _, .func fd, _⟩ => PySem.W.codeIn K fd.code q && (dflB K fd.defaults [] && kwdB K fd.kwdefaults [])
  | _ => false)
theorem getB_ok {K : PySem.W.Frag} {a : Addr} {d : DefD} (e : fnAt K a = d.val) (c : getB K a d.qual = true) : ∃ fd, FunD K d.name d.qual d.params d.body d.scope [] [] a fd := by
  obtain ⟨kp, c2⟩ := ba c
  unfold fnAt at e
  cases q : K.lookup a with
  | none => rw [q] at c2; cases c2
  | some o =>
    obtain ⟨oc, od, dt, osl⟩ := o
    rw [q] at c2 e
    cases dt with
    | func fd =>
      obtain ⟨c3, c4⟩ := ba c2
      obtain ⟨c5, c6⟩ := ba c4
      obtain ⟨nm, qn, pr, bd, sc, gl, cl, dV, kV, doc, pm, an, cd, ct, bn⟩ := fd
      have e2 := Option.some.inj e
      simp only [Prod.mk.injEq] at e2
      obtain ⟨rfl, rfl, rfl, rfl, rfl, rfl, rfl, rfl⟩ := e2
      exact ⟨_, ⟨_, _, _, _, _, _, _, _, _, _, rfl, q, c3, dflB_ok c5, kwdB_ok c6⟩, kp⟩
    | _ => cases c2
end L2.VI
/-! VI13: minus, comparing a store's list, facts of the head. -/
namespace L2.VI
open PySem PySem.Spec PyProof.Rows He
section
variable {X : Cx} {W : WX} {pos : Pos} {a b : Expr} {ma mb : M D}
def negM (m : M D) : M D := M.bind m fun d => match d with
  | .int i => M.ret (.int (-i))
  | _ => M.fail
theorem se_neg (h : SE X W a ma) : SE X W (.UnaryOp .USub a pos) (negM ma) :=
  SE.of (pe_un un_neg h) fun σ H F P0 Mm ρ bs Q B q => tM_then B q fun x d F1 M1 r1 b1 H1 l1 e1 B1 q1 h1 => by
    cases q1 with
    | int i => exact ⟨i, rfl, h1.now B1 (.int _)⟩
    | _ => exact h1.elim
/-! equality: a list of the store may stand on the left -/
def seeD (g : GSt) : D → D
  | .ptr k => (match g.S k with
    | some (.lst xs) => .lst xs
    | _ => .ptr k)
  | d => d
def eqP (a c : D) : M D := fun b => eqD (seeD b.g a) c b
def neP (a c : D) : M D := fun b => neD (seeD b.g a) c b
theorem eqB_see {K : PySem.W.Frag} {F : Hp} {fc : FrC} {P0 : PX fc} {Mm H : Hp} {ρ : Rho} {b : BSt} {σ : St} {x y : V} {a c : D} {k : Bool} (B : BRel K F P0 Mm ρ b σ H) (rx : Rep K F ρ x a) (ry : Rep K F ρ y c) (h : eqB (seeD b.g a) c = some k) :
    (scal x y = true ∧ decide (x = y) = k) ∨ ∃ d e, Dp K H x d ∧ Dp K H y e ∧ SeqAt.shaped d = true ∧ SeqAt.shaped e = true ∧ PyData.eqv d e = k := by
  cases rx with
  | ptr hk =>
    rename_i p j
    unfold seeD at h
    dsimp only at h
    split at h
    · rename_i xs e
      obtain ⟨P, q, BB⟩ := id B
      obtain ⟨a', h1, vs, h2, h3⟩ := BB.h.st j _ e
      rw [hk] at h1; cases h1
      unfold eqB at h
      dsimp only at h
      split at h
      · rename_i d f e1 e2
        split at h
        · rename_i hs
          cases h
          unfold toPy at e1
          cases e3 : toPyAll xs with
          | none => rw [e3] at e1; cases e1
          | some es =>
            rw [e3] at e1; cases e1
            exact .inr ⟨_, _, .lst (SqL.of (BB.h.mh _ _ h2)) (RepAll.dp B h3 e3), ry.dp B e2, hs.1, hs.2, rfl⟩
        · cases h
      · cases h
    · exact eqB_dp B (.ptr hk) ry h
  | non => exact eqB_dp B .non ry h
  | bl i => exact eqB_dp B (.bl i) ry h
  | int i => exact eqB_dp B (.int i) ry h
  | str i => exact eqB_dp B (.str i) ry h
  | ty i => exact eqB_dp B (.ty i) ry h
  | glo i => exact eqB_dp B (.glo i) ry h
  | tup h1 h2 => exact eqB_dp B (.tup h1 h2) ry h
  | lst h1 h2 => exact eqB_dp B (.lst h1 h2) ry h
  | dic h1 h2 h3 => exact eqB_dp B (.dic h1 h2 h3) ry h
  | scr h1 => exact eqB_dp B (.scr h1) ry h
  | xob h1 h2 h3 h4 => exact eqB_dp B (.xob h1 h2 h3 h4) ry h
  | xob0 h1 => exact eqB_dp B (.xob0 h1) ry h
  | lam h1 h2 h3 h4 => exact eqB_dp B (.lam h1 h2 h3 h4) ry h
theorem ov_eqP {k : Nat} (hr : Room k X.A) : OpV X W (compareOp .Eq) eqP := by
  intro x y a c σ H F P0 Mm ρ b Q B rx ry h
  unfold eqP eqD optM M.bind at h
  cases e : eqB (seeD b.g a) c with
  | none => rw [e] at h; exact h.elim
  | some v =>
    rw [e] at h
    rcases eqB_see B rx ry e with ⟨e1, e2⟩ | ⟨d, f, d1, d2, s1, s2, e2⟩
    · exact ⟨_, op_eq, e1, by rw [e2]; exact Post.now h B (.bl _)⟩
    · exact ⟨_, op_eqD hr.units, d, f, d1, d2, s1, s2, by rw [e2]; exact Post.now h B (.bl _)⟩
theorem ov_neP {k : Nat} (hr : Room k X.A) : OpV X W (compareOp .NotEq) neP := by
  intro x y a c σ H F P0 Mm ρ b Q B rx ry h
  unfold neP neD optM M.bind at h
  cases e : eqB (seeD b.g a) c with
  | none => rw [e] at h; exact h.elim
  | some v =>
    rw [e] at h
    rcases eqB_see B rx ry e with ⟨e1, e2⟩ | ⟨d, f, d1, d2, s1, s2, e2⟩
    · exact ⟨_, op_ne, e1, by rw [e2]; exact Post.now h B (.bl _)⟩
    · exact ⟨_, op_neD hr.units, d, f, d1, d2, s1, s2, by rw [e2]; exact Post.now h B (.bl _)⟩
end
/-! ### the head: defs by names, getters, own facts -/
abbrev AlV : Type := AlD × (Bool × List FnW)
abbrev Gets : Type := List ((Str × Str) × DefD)
def obsV (fa : List Fa) (fn : List DefD) (gs : Gets) (ex : PySem.W.Frag → Bool) (K : PySem.W.Frag) : AlV :=
  (obsD fa fn K, (ex K && gs.all fun q => propB K q.1 && getB K (pgA K q.1) q.2.qual, gs.map fun q => fnAt K (pgA K q.1)))
def valV' (fn : List DefD) (gs : Gets) : AlV := (valD fn, (true, gs.map fun q => q.2.val))
def SaysV (fa : List Fa) (fn : List DefD) (gs : Gets) (ex : PySem.W.Frag → Bool) (K : PySem.W.Frag) : Prop := obsV fa fn gs ex K = valV' fn gs
def obsVG (n : Nat) (fa : List Fa) (fn : List DefD) (gs : Gets) (ex : PySem.W.Frag → Bool) (g : Addr → Option Obj) : AlV := obsV fa fn gs ex (frG g (asD g n))
def hookV (n : Nat) (fa : List Fa) (fn : List DefD) (gs : Gets) (ex : PySem.W.Frag → Bool) : PySem.W.Hook where
  α := AlV
  obs := fun s => obsVG n fa fn gs ex s.heap.get?
  val := fun _ => valV' fn gs
  says := fun _ h => ∃ K : PySem.W.Frag, K.In h ∧ SaysV fa fn gs ex K
  of := fun _ _ e => ⟨_, frG_in, e⟩
  keeps := fun _ _ _ ⟨K, hK, c⟩ k => ⟨K, PySem.W.Frag.In.keeps hK k, c⟩
theorem obsVG_eq {n : Nat} {fa : List Fa} {fn : List DefD} {gs : Gets} {ex : PySem.W.Frag → Bool} {g : Addr → Option Obj} {s : Shared} (h : ∀ a, g a = s.heap.get? a) : obsVG n fa fn gs ex g = (hookV n fa fn gs ex).obs s := by
  have e : g = s.heap.get? := funext h
  rw [e] <;> rfl
section
variable {fa : List Fa} {fn : List DefD} {gs : Gets} {ex : PySem.W.Frag → Bool} {K : PySem.W.Frag}
theorem SaysV.d (c : SaysV fa fn gs ex K) : SaysD fa fn K := congrArg (fun z : AlV => z.1) c
theorem SaysV.more (c : SaysV fa fn gs ex K) : ex K = true := (ba (congrArg (fun z : AlV => z.2.1) c)).1
theorem SaysV.get (c : SaysV fa fn gs ex K) (i : Nat) {p : Str × Str} {d : DefD} (h : gs[i]? = some (p, d) := by rfl) :
    PropOf K (ga K p.1) p.2 (ma K (ga K p.1) p.2) (pgA K p) ∧ FunD K d.name d.qual d.params d.body d.scope [] [] (pgA K p) (fdA K (pgA K p)) := by
  have c2 := (ba (congrArg (fun z : AlV => z.2.1) c)).2
  have e : gs.map (fun q => fnAt K (pgA K q.1)) = gs.map fun q => q.2.val := congrArg (fun z : AlV => z.2.2) c
  have e2 : (gs.map fun q => fnAt K (pgA K q.1))[i]? = (gs.map fun q => q.2.val)[i]? := by rw [e]
  rw [List.getElem?_map, List.getElem?_map, h] at e2
  obtain ⟨c3, c4⟩ := ba (List.all_eq_true.mp c2 (p, d) (List.mem_of_getElem? h))
  exact ⟨propB_ok c3, fdA_of (getB_ok (Option.some.inj e2) c4)⟩
theorem SaysV.fn_ (c : SaysV fa fn gs ex K) (i : Nat) {d : DefD} (h : fn[i]? = some d := by rfl) : FunD K d.name d.qual d.params d.body d.scope (d.dvs K) (d.kws K) (fAd K d.at_) (fdA K (fAd K d.at_)) := fdA_of (c.d.def_ i h)
end
/-! own checks -/
def exAll (l : List (PySem.W.Frag → Bool)) (K : PySem.W.Frag) : Bool := l.all fun f => f K
theorem exAt {l : List (PySem.W.Frag → Bool)} {K : PySem.W.Frag} (h : exAll l K = true) (i : Nat) {f : PySem.W.Frag → Bool} (hi : l[i]? = some f := by rfl) : f K = true := List.all_eq_true.mp h f (List.mem_of_getElem? hi)
def clsIB (c : Str) (K : PySem.W.Frag) : Bool := eqO (PySem.W.findIn K (.ref (ga K c)) "__class__") (some (some (.builtin "object.__class__"))) && (eqO (PySem.W.specialIn K (.builtin "object.__class__") "__get__") (some (some (.builtin "getset_descriptor.__get__"))) &&
  (decide (PySem.W.takesIn K (.builtin "object.__class__") = some true) && decide (PySem.W.mroIn K (ga K c) (.type "object") = some true)))
theorem clsIB_ok {c : Str} {K : PySem.W.Frag} (cl : Cls K (ga K c)) (h : clsIB c K = true) : ClsI K c := by
  obtain ⟨h1, h⟩ := ba h
  obtain ⟨h2, h⟩ := ba h
  obtain ⟨h3, h4⟩ := ba h
  exact ⟨cl, eqO_ok h1, eqO_ok h2, of_decide_eq_true h3, of_decide_eq_true h4⟩
/-- no built-in value is an instance of the class -/
def kitsB (C : Str) (K : PySem.W.Frag) : Bool := tyNames.all fun n => decide (PySem.W.kitOne K (.type n) (.ref (ga K C)) = some false)
theorem kitsB_ok {C : Str} {K : PySem.W.Frag} (h : kitsB C K = true) : ∀ n, n ∈ tyNames → PySem.W.kitOne K (.type n) (.ref (ga K C)) = some false := fun n hn => of_decide_eq_true (List.all_eq_true.mp h n hn)
def kit1B (c : Str) (t : String ⊕ Str) (r : Bool) (K : PySem.W.Frag) : Bool := decide (PySem.W.kitOne K (.ref (ga K c)) (tyVal K t) = some r)
theorem kit1B_ok {c : Str} {t : String ⊕ Str} {r : Bool} {K : PySem.W.Frag} (h : kit1B c t r K = true) : PySem.W.kitOne K (.ref (ga K c)) (tyVal K t) = some r := of_decide_eq_true h
/-! short words of a walk -/
def mkM (c : Str) (m : FnD) (j nk : Nat) (dfl : List D) (idx : List Nat) (mas mks : M (List D)) : M D := M.bind mas fun zs => M.bind mks fun ws => guardM (zs.length = j ∧ ws.length = nk) (makeG c m idx (zs ++ (ws ++ dfl)))
def mtM (c mn : Str) (m : FnD) (j nk : Nat) (dfl : List D) (idx : List Nat) (mo : M D) (mas mks : M (List D)) : M D := selfM c mn mo fun d => M.bind mas fun zs => M.bind mks fun ws => guardM (zs.length = j ∧ ws.length = nk) (callF m (kperm idx (d :: zs ++ (ws ++ dfl))))
theorem pvv {X : Cx} (i : Nat) {x : Str} {pos : Pos} (hN : X.N[i]? = some x := by rfl) (hv : Vis X.env.scope x := by first | exact Or.inl rfl | exact Or.inr (Or.inl rfl) | exact Or.inr (Or.inr rfl)) (hd : (x == ("__debug__" : Str)) = false := by decide)
    (hcd : (x == ("__classdict__" : Str)) = false := by decide) : PE X (.Name x pos) (tVar i) := pe_var hN hv hd hcd
theorem hu_of {k : Nat} {A : Around} (r : Room k A) : A.units + 1 < cLine := by have := r.un; omega
end L2.VI
/-! VI14: a name takes a new list that a comprehension makes. -/
namespace L2.VI
open PySem PySem.Spec PyProof.Rows He
section
variable {X : Cx} {W : WX} {K : PySem.W.Frag} {F : Hp} {fc : FrC} {P0 : PX fc} {Mm H : Hp} {ρ : Rho} {bs : BSt} {σ : St}
/-- a new object goes to the slot i -/
def SNs (X : Cx) (W : WX) (i : Nat) (st : Stmt) (m : M SO) : Prop := PS X st (fun D σ H => tF (fc := fcOf X) X.K W m σ H fun v H1 => D.nx (σ.set i (some v)) H1)
theorem SNs.own {i : Nat} {st : Stmt} {m : M SO} (h : SNs X W i st m) : SS X W st (M.bind m (setO i)) :=
  SS.of h fun σ H F P0 Mm ρ b D B q => sM_thenF B q fun p so F1 M1 r1 b1 H1 l1 e1 B1 h1 => h1.nxt (B1.setO i)
theorem bind_assoc' {α β γ : Type} (m : M α) (f : α → M β) (g : β → M γ) : M.bind (M.bind m f) g = M.bind m fun a => M.bind (f a) g := by
  funext b
  unfold M.bind
  cases m b <;> rfl
theorem SNs.frz {i : Nat} {st : Stmt} {m : M SO} (h : SNs X W i st m) : SS X W st (M.bind (frzM m) (setV i)) :=
  SS.of h fun σ H F P0 Mm ρ b D B q => by
    unfold frzM at q
    rw [bind_assoc'] at q
    refine sM_thenF B q fun p so F1 M1 r1 b1 H1 l1 e1 B1 h1 => ?_
    obtain ⟨F2, u, l2, e2, B2, rr⟩ := B1.freeze
    obtain ⟨d, ed, h2⟩ := PostS.opt h1
    exact (h2.mono l2 (Rle.refl _)).nxt (B2.setV i (rr.rep ed))
theorem SNs.new {i : Nat} {st : Stmt} {m : M SO} (h : SNs X W i st m) : SS X W st (M.bind (newM m) (setV i)) :=
  SS.of h fun σ H F P0 Mm ρ b D B q => by
    unfold newM at q
    rw [bind_assoc'] at q
    refine sM_thenF B q fun p so F1 M1 r1 b1 H1 l1 e1 B1 h1 => ?_
    obtain ⟨M2, r2, rl, B2, rr⟩ := B1.store
    exact PostS.nxt (W := W) (PostS.mono h1 (Leq.refl _) rl) (B2.setV i rr)
theorem sns_lc {i : Nat} {y : Str} {py pos spos : Pos} {tg elt iter : Expr} {ifs : List Expr} {scope : Scope} {own : List (Str × Nat)} {mi : M (List D)} {g : TgM} {mt : M Bool} {me : M D} (hN : X.N.Nodup) (hi : SI X W tg iter mi) (ok : BlkOk X.N X.env.scope scope own)
    (hg : ∀ (s : Shared) (H : Hp) (C : Addr) (cl : List (Str × Addr)) (fp : List Addr), SG (X.blk s H scope (compEnvC scope cl C X.env) fp) (own.map (·.2)) tg g) (ht : ∀ (s : Shared) (H : Hp) (C : Addr) (cl : List (Str × Addr)) (fp : List Addr), STs (X.blk s H scope (compEnvC scope cl C X.env) fp) W0 ifs mt)
    (he : ∀ (s : Shared) (H : Hp) (C : Addr) (cl : List (Str × Addr)) (fp : List Addr), SE (X.blk s H scope (compEnvC scope cl C X.env) fp) W0 elt me) (hc : X.calm = true := by rfl) (hy : X.N[i]? = some y := by rfl) (hyl : X.env.scope.names.lookup y = some .local := by rfl) (hk : X.env.scope.kind = .function := by rfl)
    (hl : (py.line == pos.line) = true := by rfl) (ha : (scope.names.any fun (n, k) => n == y && (k == .local || k == .cell)) = false := by rfl)
    (hs : ∀ x, foldedSetIterable iter X.env x = pure x := by intro _; rfl) : SNs X W i (.Assign [.Name y py] (.ListComp elt [⟨tg, iter, ifs, 0⟩] scope pos) spos) (lcN mi g mt me (own.map (·.2))) := by
  have h := ps_setLc (i := i) (y := y) (py := py) (pos := pos) (spos := spos) (g := tG (fc := fcOf X) X.K (own.map fun (x : Str × Nat) => x.2) g) (tt := tT (fc := fcOf X) X.K W0 mt) (te := tE (fc := fcOf X) X.K W0 me) hc hN hy hyl (sw_true hk hyl hl ha) hi ok hg ht he hs
  exact ⟨fun pins s σ H D I ⟨F, P0, Mm, ρ, b, B, q⟩ => h.run pins s σ H D I (tlc_of B q)⟩
end
end L2.VI
/-! VI15: the law's end over VI. -/
namespace L2.VI
open PySem PySem.Spec PyProof.Rows He
/-- what is wanted of the law's def at a world: its function, its arguments' binding, its answer at a script, its promise -/
def LawV (l : PySem.W.OpenLaw) (wo : World) (lv n : Nat) (x : Str) (gm : Str → Option Value) (af : Addr) (K : PySem.W.Frag) (law : FnD) : Prop :=
  ∃ fd : FuncData, (∀ (t : Shared) (u : Value), BindsTo t fd ⟨[u], []⟩ [(x, u)]) ∧ (∀ ns : List Int, ns.length ≤ n → ∃ g', law [.scr ns] ⟨fun _ => none, 0⟩ = .ok (.bl true) g') ∧
    ∀ bs : Heap, K.In bs → bs.Ns mainGlobals gm → FnOk l.prog wo K gm bs (CV l.prog wo) lv af fd [x] (spV K 1 law)
theorem walkV {l : PySem.W.OpenLaw} {n lv : Nat} {vw : Program} {ls : List Str} {XP : (Str → Option Value) → Heap → Prop} {YP : World → Heap → Prop} {d : DefRec} {x : Str} {law : FnD} (hn : l.most = some n) (hz : n ≤ sizeLine) (hd : d.params.defaults = []) (hr : Room lv callerA)
    (hF : ∀ (wo : World) (gm : Str → Option Value) (af : Addr) (hp : Heap), YP wo hp → hp.Ns mainGlobals gm → gm d.name = some (.ref af) → ∃ K : PySem.W.Frag, K.In hp ∧ LawV l wo lv n x gm af K law) :
    PySem.W.WalkO vw ls XP YP l.row.toRowW d [] (fun g us => PySem.call g us) := by
  refine Att.attach_call hn hd ?_
  intro wo t0 t1 gm bm af ob pv cv dc al us is GG YY h1 h2 h3 h4 h5 h6 h7 h8
  obtain ⟨K, hK, fd, b, e, f⟩ := hF wo gm af _ YY GG.T.g h4
  have cx : ∀ (H : Hp) (u : Value) (t : Shared), CV l.prog wo [] H t1 (fun _ _ _ => False) u t → False := fun H u t ⟨_, _, _, _, _, _, _, _, _, _, _, _, z⟩ => z
  exact law_call hK GG.T.g GG.T.b GG.T.builtins GG.T.nolimit h8 h5 h6 (Nat.le_trans h7 hz) hr f b (fun H hO hS => sp_law hO hS (e is h7)) cx
end L2.VI
/-! VIE: the shallow words at a state, for simp. -/
namespace L2.VI
open PySem PySem.Spec PyProof.Rows He
theorem ofString_inj {a c : String} : Str.ofString a = Str.ofString c ↔ a = c := by
  refine ⟨fun h => ?_, fun h => by rw [h]⟩
  rw [Str.ofString_eq_toList, Str.ofString_eq_toList] at h
  have h2 : a.toList.map Char.toNat = c.toList.map Char.toNat := by
    have := congrArg (fun s : Str => s.cps.toList) h
    simpa using this
  have inj : ∀ (l m : List Char), l.map Char.toNat = m.map Char.toNat → l = m := by
    intro l
    induction l with
    | nil => intro m e; cases m with
      | nil => rfl
      | cons _ _ => cases e
    | cons x l ih =>
      intro m e
      cases m with
      | nil => cases e
      | cons y m =>
        simp only [List.map_cons, List.cons.injEq] at e
        obtain ⟨e1, e2⟩ := e
        have hxy : x = y := by
          apply Char.ext
          apply UInt32.toNat.inj
          exact e1
        rw [hxy, ih m e2]
  have h3 := inj _ _ h2
  exact String.toList_injective h3
@[simp] theorem ofS_eq {a c : String} : (Str.ofString a = Str.ofString c) = (a = c) := propext ofString_inj
@[simp] theorem ofS_beq {a c : String} : (Str.ofString a == Str.ofString c) = decide (a = c) := by
  by_cases h : a = c
  · subst h; simp
  · have : ¬ Str.ofString a = Str.ofString c := fun e => h (ofString_inj.mp e)
    simp [h, this]
def R.thn {α β : Type} (r : R α) (k : α → M β) : R β := match r with
  | .ok a b => k a b
  | .exc x b => .exc x b
  | .fail => .fail
section
variable {α β : Type} {b : BSt} {g : GSt}
@[simp] theorem thn_ok {a : α} {k : α → M β} : (R.ok a b).thn k = k a b := rfl
@[simp] theorem thn_exc {x : EX} {k : α → M β} : (R.exc x b : R α).thn k = .exc x b := rfl
@[simp] theorem thn_fail {k : α → M β} : (R.fail : R α).thn k = .fail := rfl
@[simp] theorem bind_ap {m : M α} {k : α → M β} : M.bind m k b = (m b).thn k := rfl
@[simp] theorem ret_ap {a : α} : M.ret a b = .ok a b := rfl
@[simp] theorem fail_ap : (M.fail : M α) b = .fail := rfl
@[simp] theorem guardM_ap {c : Prop} [Decidable c] {m : M α} : guardM c m b = if c then m b else .fail := rfl
@[simp] theorem optM_some {a : α} : optM (some a) b = .ok a b := rfl
@[simp] theorem optM_none : optM (none : Option α) b = .fail := rfl
@[simp] theorem seqM_ap {m k : M Fl} : seqM m k b = (m b).thn fun f => match f with
  | .nx => k
  | f => M.ret f := rfl
@[simp] theorem exprM_ap {m : M D} : exprM m b = (m b).thn fun _ => M.ret .nx := rfl
@[simp] theorem retM_ap {m : M D} : retM m b = (m b).thn fun d => M.ret (.ret d) := rfl
@[simp] theorem setV_ap {i : Nat} {d : D} : setV i d b = .ok .nx { b with t := b.t.set i (some (.val d)) } := rfl
@[simp] theorem setO_ap {i : Nat} {so : SO} : setO i so b = .ok .nx { b with t := b.t.set i (some (.own so)) } := rfl
theorem getV_ap {i : Nat} : getV i b = (match b.t[i]? with
  | some (some (.val d)) => .ok d b
  | some (some (.own so)) => (match so.frozen with
    | some d => .ok d { b with t := b.t.set i (some (.val d)) }
    | none => .fail)
  | _ => .fail) := rfl
@[simp] theorem getV_val {i : Nat} {t : List (Option Slot)} {d : D} (h : t[i]? = some (some (.val d))) : getV i ⟨g, t⟩ = .ok d ⟨g, t⟩ := by simp [getV_ap, h]
@[simp] theorem getV_lst {i : Nat} {t : List (Option Slot)} {ds : List D} (h : t[i]? = some (some (.own (.lst ds)))) : getV i ⟨g, t⟩ = .ok (.lst ds) ⟨g, t.set i (some (.val (.lst ds)))⟩ := by simp [getV_ap, h, SO.frozen]
@[simp] theorem getV_dic {i : Nat} {t : List (Option Slot)} {ds : List (Key × D)} (h : t[i]? = some (some (.own (.dic ds)))) : getV i ⟨g, t⟩ = .ok (.dic ds) ⟨g, t.set i (some (.val (.dic ds)))⟩ := by simp [getV_ap, h, SO.frozen]
@[simp] theorem bin2_ap {f : D → D → M D} {x y : M D} : bin2 f x y b = (x b).thn fun u => M.bind y fun v => f u v := rfl
@[simp] theorem isB_ap {m : M D} : isB m b = (m b).thn fun d => match d with
  | .bl c => M.ret c
  | _ => M.fail := rfl
@[simp] theorem ifM_ap {t : M Bool} {x y : M α} : ifM t x y b = (t b).thn fun c => if c = true then x else y := rfl
@[simp] theorem andB_ap {x y : M Bool} : andB x y b = (x b).thn fun c => if c = true then y else M.ret false := rfl
@[simp] theorem orB_ap {x y : M Bool} : orB x y b = (x b).thn fun c => if c = true then M.ret true else y := rfl
@[simp] theorem notB_ap {x : M Bool} : notB x b = (x b).thn fun c => M.ret (!c) := rfl
@[simp] theorem andD_ap {x y : M D} : andD x y b = (x b).thn fun d => match d with
  | .bl true => y
  | .bl false => M.ret (.bl false)
  | _ => M.fail := by unfold andD; congr 1
@[simp] theorem orD_ap {x y : M D} : orD x y b = (x b).thn fun d => match d with
  | .bl true => M.ret (.bl true)
  | .bl false => y
  | _ => M.fail := by unfold orD; congr 1
@[simp] theorem notD_ap {x : M D} : notD x b = (x b).thn fun d => match d with
  | .bl c => M.ret (.bl !c)
  | _ => M.fail := by unfold notD; congr 1
@[simp] theorem consM_ap {a : M D} {r : M (List D)} : consM a r b = (a b).thn fun x => M.bind r fun xs => M.ret (x :: xs) := rfl
@[simp] theorem tupM_ap {ms : M (List D)} : tupM ms b = (ms b).thn fun ds => guardM (ds.length ≤ sizeLine) (M.ret (.tup ds)) := rfl
@[simp] theorem lstM_ap {ms : M (List D)} : lstM ms b = (ms b).thn fun ds => guardM (ds.length ≤ sizeLine) (M.ret (.lst ds)) := rfl
@[simp] theorem lstN_ap {ms : M (List D)} : lstN ms b = (ms b).thn fun ds => guardM (ds.length ≤ sizeLine) (M.ret (.lst ds)) := rfl
@[simp] theorem frzM_ap {m : M SO} : frzM m b = (m b).thn fun so => optM so.frozen := rfl
@[simp] theorem frozen_lst {xs : List D} : (SO.lst xs).frozen = some (.lst xs) := rfl
@[simp] theorem frozen_dic {xs : List (Key × D)} : (SO.dic xs).frozen = some (.dic xs) := rfl
@[simp] theorem newM_ap {m : M SO} : newM m b = (m b).thn fun so => fun b => .ok (.ptr b.g.nx) { b with g := b.g.new so } := rfl
@[simp] theorem asgM_ap {m : M D} {t : TgM} : asgM m t b = (m b).thn (tgM t) := rfl
@[simp] theorem tgM_ap {t : TgM} {d : D} : tgM t d b = (match t d b with
  | some b' => .ok .nx b'
  | none => .fail) := rfl
@[simp] theorem gSet_ap {i : Nat} {d : D} : gSet i d b = some { b with t := b.t.set i (some (.val d)) } := rfl
@[simp] theorem gsNil_ap : gsNil [] b = some b := rfl
@[simp] theorem gsCons_ap {m : TgM} {k : TgsM} {d : D} {ds : List D} : gsCons m k (d :: ds) b = (m d b).bind (k ds) := rfl
@[simp] theorem gTupM_ap {n : Nat} {m : TgsM} {ds : List D} : gTupM n m (.tup ds) b = if ds.length = n then m ds b else none := rfl
@[simp] theorem set2_ap {i j : Nat} {ms : M (List D)} : set2 i j ms b = (ms b).thn fun ds => match ds with
  | [a, c] => seqM (setV i a) (setV j c)
  | _ => M.fail := rfl
@[simp] theorem set3_ap {i j l : Nat} {ms : M (List D)} : set3 i j l ms b = (ms b).thn fun ds => match ds with
  | [a, c, d] => seqM (setV i a) (seqM (setV j c) (setV l d))
  | _ => M.fail := rfl
/-! operators -/
@[simp] theorem addD_ii {i j : Int} : addD (.int i) (.int j) b = .ok (.int (i + j)) b := rfl
@[simp] theorem addD_ss {i j : Str} : addD (.str i) (.str j) b = if i.length + j.length ≤ sizeLine then .ok (.str (i ++ j)) b else .fail := rfl
@[simp] theorem addD_ll {i j : List D} : addD (.lst i) (.lst j) b = if i.length + j.length ≤ sizeLine then .ok (.lst (i ++ j)) b else .fail := rfl
@[simp] theorem subD_ii {i j : Int} : subD (.int i) (.int j) b = .ok (.int (i - j)) b := rfl
@[simp] theorem mulD_ii {i j : Int} : mulD (.int i) (.int j) b = if small64 i ∨ small64 j then .ok (.int (i * j)) b else .fail := rfl
@[simp] theorem fdivD_ii {i j : Int} : fdivD (.int i) (.int j) b = if 0 < j ∧ j < 1073741824 then .ok (.int (i / j)) b else .fail := rfl
@[simp] theorem modD_ii {i j : Int} : modD (.int i) (.int j) b = if 0 < j then .ok (.int (i % j)) b else .fail := rfl
@[simp] theorem powD_ii {i j : Int} : powD (.int i) (.int j) b = if 0 ≤ j ∧ j ≤ 1000000 ∧ i.natAbs < 2 ^ 64 then .ok (.int (i ^ j.toNat)) b else .fail := rfl
@[simp] theorem ltD_ii {i j : Int} : ltD (.int i) (.int j) b = .ok (.bl (decide (i < j))) b := rfl
@[simp] theorem leD_ii {i j : Int} : leD (.int i) (.int j) b = .ok (.bl (decide (i ≤ j))) b := rfl
@[simp] theorem gtD_ii {i j : Int} : gtD (.int i) (.int j) b = .ok (.bl (decide (i > j))) b := rfl
@[simp] theorem geD_ii {i j : Int} : geD (.int i) (.int j) b = .ok (.bl (decide (i ≥ j))) b := rfl
@[simp] theorem isND_n {d : D} : isND d .non b = .ok (.bl d.isNon) b := rfl
@[simp] theorem notND_n {d : D} : notND d .non b = .ok (.bl (!d.isNon)) b := rfl
@[simp] theorem isNon_non : D.non.isNon = true := rfl
@[simp] theorem isNon_int {i : Int} : (D.int i).isNon = false := rfl
@[simp] theorem isNon_bl {i : Bool} : (D.bl i).isNon = false := rfl
@[simp] theorem isNon_str {i : Str} : (D.str i).isNon = false := rfl
@[simp] theorem isNon_lst {i : List D} : (D.lst i).isNon = false := rfl
@[simp] theorem isNon_tup {i : List D} : (D.tup i).isNon = false := rfl
@[simp] theorem isNon_ptr {i : Nat} : (D.ptr i).isNon = false := rfl
theorem eqD_ap {x y : D} : eqD x y b = (match eqB x y with
  | some k => .ok (.bl k) b
  | none => .fail) := by unfold eqD M.bind; cases eqB x y <;> rfl
theorem neD_ap {x y : D} : neD x y b = (match eqB x y with
  | some k => .ok (.bl (!k)) b
  | none => .fail) := by unfold neD M.bind; cases eqB x y <;> rfl
@[simp] theorem eqD_ii {i j : Int} : eqD (.int i) (.int j) b = .ok (.bl (decide (i = j))) b := rfl
@[simp] theorem neD_ii {i j : Int} : neD (.int i) (.int j) b = .ok (.bl (!decide (i = j))) b := rfl
@[simp] theorem eqD_ss {i j : Str} : eqD (.str i) (.str j) b = .ok (.bl (decide (i = j))) b := rfl
@[simp] theorem neD_ss {i j : Str} : neD (.str i) (.str j) b = .ok (.bl (!decide (i = j))) b := rfl
@[simp] theorem negM_ap {m : M D} : negM m b = (m b).thn fun d => match d with
  | .int i => M.ret (.int (-i))
  | _ => M.fail := rfl
theorem chainD_ap {f h : D → D → M D} {x y z : M D} : chainD f h x y z b = (x b).thn fun u => M.bind y fun v => M.bind (f u v) fun k => match k with
  | .bl true => M.bind z fun w => h v w
  | .bl false => M.ret (.bl false)
  | _ => M.fail := by unfold chainD; congr 1
/-! calls -/
@[simp] theorem callF_ap {m : FnD} {ds : List D} : callF m ds b = (match m ds b.g with
  | .ok d g' => .ok d { b with g := g' }
  | .exc x g' => .exc x { b with g := g' }
  | .fail => .fail) := rfl
@[simp] theorem callN_ap {m : FnD} {ds : List D} : callN m ds b = (match m ds b.g with
  | .ok d g' => .ok d { b with g := g' }
  | _ => .fail) := by unfold callN; cases m ds b.g <;> rfl
def R.out : R Fl → GR
  | .ok .nx b => .ok .non b.g
  | .ok (.ret d) b => .ok d b.g
  | .exc x b => .exc x b.g
  | _ => .fail
@[simp] theorem out_nx : (R.ok Fl.nx b).out = .ok .non b.g := rfl
@[simp] theorem out_ret {d : D} : (R.ok (Fl.ret d) b).out = .ok d b.g := rfl
@[simp] theorem out_exc {x : EX} : (R.exc x b : R Fl).out = .exc x b.g := rfl
@[simp] theorem out_fail : (R.fail : R Fl).out = .fail := rfl
@[simp] theorem out_brk : (R.ok Fl.brk b).out = .fail := rfl
@[simp] theorem out_cnt : (R.ok Fl.cnt b).out = .fail := rfl
@[simp] theorem fnBody_ap {n sl : Nat} {m : M Fl} {ds : List D} : fnBody n sl m ds g = if ds.length = n then (m ⟨g, ds.map (fun d => some (.val d)) ++ List.replicate (sl - n) none⟩).out else .fail := by
  unfold fnBody
  split
  · generalize m ⟨g, ds.map (fun d => some (.val d)) ++ List.replicate (sl - n) none⟩ = z
    cases z with
    | ok a b => cases a <;> rfl
    | exc x b => rfl
    | fail => rfl
  · rfl
@[simp] theorem argsK_ap {j nk : Nat} {dfl : List D} {idx : List Nat} {mas mks : M (List D)} {k : List D → M D} : argsK j nk dfl idx mas mks k b = (mas b).thn fun zs => M.bind mks fun ws => guardM (zs.length = j ∧ ws.length = nk) (k (kperm idx (zs ++ (ws ++ dfl)))) := rfl
@[simp] theorem mkM_ap {c : Str} {m : FnD} {j nk : Nat} {dfl : List D} {idx : List Nat} {mas mks : M (List D)} : mkM c m j nk dfl idx mas mks b = (mas b).thn fun zs => M.bind mks fun ws => guardM (zs.length = j ∧ ws.length = nk) (makeG c m idx (zs ++ (ws ++ dfl))) := rfl
@[simp] theorem makeG_ap {c : Str} {m : FnD} {idx : List Nat} {rest : List D} : makeG c m idx rest b = (match m (kperm idx (.ptr b.g.nx :: rest)) (b.g.new (.ins c [])) with
  | .ok .non g' => .ok (.ptr b.g.nx) { b with g := g' }
  | .exc x g' => .exc x { b with g := g' }
  | _ => .fail) := by unfold makeG; rfl
@[simp] theorem fldM_ap {c fn : Str} {mo : M D} : fldM c fn mo b = (mo b).thn fun d => fun b => match d with
  | .ptr k => (match b.g.S k with
    | some (.ins c' fs) => if c' = c then optM (fs.lookup fn) b else .fail
    | _ => .fail)
  | _ => .fail := rfl
@[simp] theorem propM_ap {c : Str} {m : FnD} {mo : M D} : propM c m mo b = (mo b).thn fun d => fun b => if isIns c d b.g = true then callN m [d] b else .fail := rfl
@[simp] theorem mtM_ap {c mn : Str} {m : FnD} {j nk : Nat} {dfl : List D} {idx : List Nat} {mo : M D} {mas mks : M (List D)} : mtM c mn m j nk dfl idx mo mas mks b = selfM c mn mo (fun d => M.bind mas fun zs => M.bind mks fun ws => guardM (zs.length = j ∧ ws.length = nk) (callF m (kperm idx (d :: zs ++ (ws ++ dfl))))) b := rfl
@[simp] theorem selfM_ap {c mn : Str} {mo : M D} {k : D → M D} : selfM c mn mo k b = (mo b).thn fun d => fun b => if isIns c d b.g = true ∧ noField mn d b.g = true then k d b else .fail := rfl
/-! items, stores -/
@[simp] theorem ixD_lst {xs : List D} {i : D} : ixD (.lst xs) i b = optM (ixO (.lst xs) i) b := rfl
@[simp] theorem ixD_tup {xs : List D} {i : D} : ixD (.tup xs) i b = optM (ixO (.lst xs) i) b := rfl
@[simp] theorem ixD_dic {xs : List (Key × D)} {i : D} : ixD (.dic xs) i b = optM (ixO (.dic xs) i) b := rfl
@[simp] theorem ixD_ptr {k : Nat} {i : D} : ixD (.ptr k) i b = (match b.g.S k with
  | some so => optM (ixO so i) b
  | none => .fail) := rfl
@[simp] theorem ixO_lst {xs : List D} {i : Int} : ixO (.lst xs) (.int i) = atI xs i := rfl
@[simp] theorem ixO_dicS {xs : List (Key × D)} {x : Str} : ixO (.dic xs) (.str x) = dlook xs (.inr x) := rfl
@[simp] theorem ixO_dicI {xs : List (Key × D)} {x : Int} : ixO (.dic xs) (.int x) = dlook xs (.inl x) := rfl
@[simp] theorem dlook_nil {κ : Type} [DecidableEq κ] {k : κ} : dlook ([] : List (κ × D)) k = none := rfl
theorem dlook_cons {κ : Type} [DecidableEq κ] {k j : κ} {d : D} {l : List (κ × D)} : dlook ((j, d) :: l) k = if j = k then some d else dlook l k := by
  unfold dlook
  by_cases h : j = k <;> simp [List.find?_cons, h]
@[simp] theorem dlook_hit {κ : Type} [DecidableEq κ] {k : κ} {d : D} {l : List (κ × D)} : dlook ((k, d) :: l) k = some d := by rw [dlook_cons, if_pos rfl]
theorem dlook_miss {κ : Type} [DecidableEq κ] {k j : κ} {d : D} {l : List (κ × D)} (h : decide (j = k) = false) : dlook ((j, d) :: l) k = dlook l k := by rw [dlook_cons, if_neg (of_decide_eq_false h)]
@[simp] theorem ixV_ap {i : Nat} {mb : M D} : ixV i mb b = (match b.t[i]? with
  | some (some _) => (mb b).thn (fun y => fun b => match b.t[i]? with
    | some (some (.val d)) => ixD d y b
    | some (some (.own so)) => optM (ixO so y) b
    | _ => .fail)
  | _ => .fail) := rfl
@[simp] theorem methO_ap {i : Nat} {T : String} {f : MtF} {mas : M (List D)} : methO i T f mas b = (match b.t[i]? with
  | some (some (.own so0)) => if so0.tyn = T then (mas b).thn (fun as => fun b => match b.t[i]? with
    | some (some (.own so)) => (match f so as with
      | some (so', d) => .ok d { b with t := b.t.set i (some (.own so')) }
      | none => .fail)
    | _ => .fail) else .fail
  | _ => .fail) := rfl
@[simp] theorem methP_ap {T : String} {f : MtF} {mo : M D} {mas : M (List D)} : methP T f mo mas b = (mo b).thn fun x => fun b => match x with
  | .ptr k => (match b.g.S k with
    | some so0 => if so0.tyn = T ∧ so0.plain = true then (M.bind mas fun as => fun b => match b.g.S k with
      | some so => (match f so as with
        | some (so', d) => if so.plain = true then .ok d { b with g := b.g.put k so' } else .fail
        | none => .fail)
      | none => .fail) b else .fail
    | none => .fail)
  | _ => .fail := rfl
@[simp] theorem tyn_lst {xs : List D} : (SO.lst xs).tyn = "list" := rfl
@[simp] theorem tyn_dic {xs : List (Key × D)} : (SO.dic xs).tyn = "dict" := rfl
@[simp] theorem plain_lst {xs : List D} : (SO.lst xs).plain = true := rfl
@[simp] theorem plain_dic {xs : List (Key × D)} : (SO.dic xs).plain = true := rfl
@[simp] theorem fAppend_l {xs : List D} {d : D} : fAppend (.lst xs) [d] = if xs.length < sizeLine then some (.lst (xs ++ [d]), .non) else none := rfl
@[simp] theorem isetO_ap {n : Nat} {mi me : M D} : isetO n mi me b = (me b).thn fun v => fun b => match b.t[n]? with
  | some (some (.own _)) => M.bind mi (fun k => fun b => match b.t[n]? with
    | some (some (.own so)) => (match putO so k v with
      | some so' => .ok .nx { b with t := b.t.set n (some (.own so')) }
      | none => .fail)
    | _ => .fail) b
  | _ => .fail := rfl
@[simp] theorem isetP_ap {mo mi me : M D} : isetP mo mi me b = (me b).thn fun v => M.bind mo fun x => M.bind mi fun k => fun b => match x with
  | .ptr kk => (match b.g.S kk with
    | some so => (match putO so k v with
      | some so' => .ok .nx { b with g := b.g.put kk so' }
      | none => .fail)
    | none => .fail)
  | _ => .fail := rfl
@[simp] theorem putO_dicS {kvs : List (Key × D)} {x : Str} {v : D} : putO (.dic kvs) (.str x) v = if kvs.length < sizeLine then some (.dic (dput kvs (.inr x) v)) else none := rfl
@[simp] theorem putO_dicI {kvs : List (Key × D)} {x : Int} {v : D} : putO (.dic kvs) (.int x) v = if kvs.length < sizeLine then some (.dic (dput kvs (.inl x) v)) else none := rfl
@[simp] theorem putO_lst {xs : List D} {i : Int} {v : D} : putO (.lst xs) (.int i) v = (ixN xs.length i).map fun j => .lst (xs.set j v) := rfl
@[simp] theorem fsetM_ap {c f : Str} {mo me : M D} : fsetM c f mo me b = (me b).thn fun v => M.bind mo fun x => fun b => match x with
  | .ptr k => (match b.g.S k with
    | some (.ins c' fs) => if c' = c ∧ fs.length < 1000 then .ok .nx { b with g := b.g.put k (.ins c (dputF f v fs)) } else .fail
    | _ => .fail)
  | _ => .fail := rfl
/-! loops -/
@[simp] theorem itemsM_ap {m : M D} : itemsM m b = (m b).thn fun d => optM (itemsOf d) := rfl
@[simp] theorem itemsOf_lst {xs : List D} : itemsOf (.lst xs) = some xs := rfl
@[simp] theorem itemsOf_tup {xs : List D} : itemsOf (.tup xs) = some xs := rfl
@[simp] theorem itemsOf_scr {xs : List Int} : itemsOf (.scr xs) = some (xs.map .int) := rfl
@[simp] theorem forM_ap {mi : M (List D)} {t : TgM} {body : M Fl} : forM mi t body b = (mi b).thn (forL t body) := rfl
@[simp] theorem rng1M_ap {ms : M (List D)} : rng1M ms b = (ms b).thn fun ds => match ds with
  | [.int j] => guardM (-(2 ^ 62) ≤ j ∧ j < 2 ^ 62) (M.ret (rngL 0 j.toNat))
  | _ => M.fail := rfl
@[simp] theorem rng2M_ap {ms : M (List D)} : rng2M ms b = (ms b).thn fun ds => match ds with
  | [.int i, .int j] => guardM (-(2 ^ 62) ≤ i ∧ i < 2 ^ 62 ∧ -(2 ^ 62) ≤ j ∧ j < 2 ^ 62) (M.ret (rngL i (j - i).toNat))
  | _ => M.fail := rfl
/-! built-ins -/
@[simp] theorem lenD_tup {ds : List D} : lenD [.tup ds] b = .ok (.int ds.length) b := rfl
@[simp] theorem lenD_lst {ds : List D} : lenD [.lst ds] b = .ok (.int ds.length) b := rfl
@[simp] theorem lenD_scr {ds : List Int} : lenD [.scr ds] b = .ok (.int ds.length) b := rfl
@[simp] theorem lenD_str {y : Str} : lenD [.str y] b = if y.length ≤ sizeLine then .ok (.int y.length) b else .fail := rfl
@[simp] theorem lenV_ap {n : Nat} : lenV n b = (match b.t[n]? with
  | some (some (.own (.lst xs))) => .ok (.int xs.length) b
  | some (some (.val d)) => lenD [d] b
  | _ => .fail) := by unfold lenV; rfl
@[simp] theorem min2D_ii {i j : Int} : min2D [.int i, .int j] b = .ok (.int (if j < i then j else i)) b := rfl
@[simp] theorem max2D_ii {i j : Int} : max2D [.int i, .int j] b = .ok (.int (if j > i then j else i)) b := rfl
@[simp] theorem intD_i {i : Int} : intD [.int i] b = .ok (.int i) b := rfl
@[simp] theorem reprD_i {i : Int} : reprD [.int i] b = if i.natAbs.log2 < 1920 then .ok (.str (toString i)) b else .fail := rfl
@[simp] theorem reprD_n : reprD [.non] b = .ok (.str "None") b := rfl
@[simp] theorem listN_ap {ms : M (List D)} : listN ms b = (ms b).thn fun ds => optM (toLst ds) := rfl
@[simp] theorem isiM_ap {cd : D → Bool} {subs : String → Bool} {own : List (Str × Bool)} {x c : D} : isiM cd subs own [x, c] b = if cd c = true then (match tyD x b.g with
    | some (.inl t) => .ok (.bl (subs t)) b
    | some (.inr c) => (match own.lookup c with
      | some k => .ok (.bl k) b
      | none => .fail)
    | none => .fail) else .fail := rfl
@[simp] theorem tyD_int {i : Int} : tyD (.int i) g = some (.inl "int") := rfl
@[simp] theorem tyD_bl {i : Bool} : tyD (.bl i) g = some (.inl "bool") := rfl
@[simp] theorem tyD_non : tyD .non g = some (.inl "NoneType") := rfl
@[simp] theorem tyD_str {i : Str} : tyD (.str i) g = some (.inl "str") := rfl
@[simp] theorem tyD_lst {i : List D} : tyD (.lst i) g = some (.inl "list") := rfl
@[simp] theorem tyD_tup {i : List D} : tyD (.tup i) g = some (.inl "tuple") := rfl
@[simp] theorem isTyD_ty {n m : String} : isTyD n (.ty m) = decide (m = n) := rfl
@[simp] theorem isGloD_glo {n m : Str} : isGloD n (.glo m) = decide (m = n) := rfl
@[simp] theorem dispN_ap {ks : List Key} {ms : List (M D)} : dispN ks ms b = (seqL ms b).thn fun ds => M.ret (.dic (mergeD [] (ks.zip ds))) := rfl
@[simp] theorem seqL_nil : seqL [] b = .ok [] b := rfl
@[simp] theorem seqL_cons {m : M D} {ms : List (M D)} : seqL (m :: ms) b = (m b).thn fun x => M.bind (seqL ms) fun xs => M.ret (x :: xs) := rfl
theorem small64_int {i : Int} : small64 i ↔ -(2 ^ 64) < i ∧ i < 2 ^ 64 := Iff.rfl
end
end L2.VI
/-! VI16: running the shallow functions; the laws' own draws. -/
namespace L2.VI
open PySem PySem.Spec PyProof.Rows He
noncomputable section
namespace H
def m__law_mixed : M Fl := seqM (isetP (getV 0) (M.ret (.str "turn")) (bin2 addD (ixV 0 (M.ret (.str "turn"))) (M.ret (.int 1)))) (seqM (M.bind (M.ret (.int 0)) (setV 1)) (seqM (forM (itemsM (frzM (lstN (consM (M.ret (.int 2147483629)) (consM (M.ret (.int 2147483587)) (consM (M.ret (.int 2147483579)) (consM (M.ret (.int 2147483563)) (consM (M.ret (.int 2147483549)) (consM (M.ret (.int 2147483543)) (M.ret [])))))))))) (gSet 2) (seqM (M.bind (bin2 addD (bin2 mulD (M.ret (.int 104729)) (ixV 0 (M.ret (.str "turn")))) (bin2 fdivD (getV 2) (M.ret (.int 7)))) (setV 3)) (seqM (forM (itemsM (ixV 0 (M.ret (.str "cells")))) (gSet 4) (M.bind (bin2 modD (M.bind (consM (bin2 addD (bin2 mulD (getV 3) (M.ret (.int 48271))) (getV 4)) (M.ret [])) intD) (getV 2)) (setV 3))) (M.bind (bin2 addD (bin2 mulD (getV 1) (M.ret (.int 2147483647))) (bin2 modD (M.bind (consM (bin2 powD (getV 3) (M.ret (.int 5))) (M.ret [])) intD) (getV 2))) (setV 1))))) (retM (getV 1))))
def f__law_mixed : FnD := fnBody 1 5 m__law_mixed
def m__law_take : M Fl := seqM (ifM (isB (bin2 eqD (ixV 0 (M.ret (.str "rest"))) (M.ret (.int 0)))) (isetP (getV 0) (M.ret (.str "rest")) (ifM (isB (bin2 neP (ixV 0 (M.ret (.str "large"))) (frzM (lstN (M.ret []))))) (methP "list" fPopAt (ixV 0 (M.ret (.str "large"))) (consM (M.ret (.int 0)) (M.ret []))) (M.bind (consM (getV 0) (M.ret [])) (callF f__law_mixed)))) (M.ret .nx)) (seqM (M.bind (bin2 modD (M.bind (consM (ixV 0 (M.ret (.str "rest"))) (M.ret [])) intD) (getV 1)) (setV 2)) (seqM (isetP (getV 0) (M.ret (.str "rest")) (bin2 fdivD (ixV 0 (M.ret (.str "rest"))) (getV 1))) (retM (getV 2))))
def f__law_take : FnD := fnBody 2 3 m__law_take
def m__law_pick : M Fl := retM (ixV 1 (M.bind (consM (getV 0) (consM (lenV 1) (M.ret []))) (callF f__law_take)))
def f__law_pick : FnD := fnBody 2 2 m__law_pick
def m__law_is_number : M Fl := retM (andD (M.bind (consM (getV 0) (consM (M.ret (.ty "int")) (M.ret []))) (isiM (isTyD "int") (fun t => t == "int" || t == "bool") [])) (notD (M.bind (consM (getV 0) (consM (M.ret (.ty "bool")) (M.ret []))) (isiM (isTyD "bool") (fun t => t == "bool") []))))
def f__law_is_number : FnD := fnBody 1 1 m__law_is_number
def m__law_begun : M Fl := seqM (M.bind (newM (lcN (itemsM (getV 0)) (gSet 2) (isB (bin2 geD (getV 2) (bin2 powD (M.ret (.int 10)) (M.ret (.int 18))))) (bin2 subD (getV 2) (bin2 powD (M.ret (.int 10)) (M.ret (.int 18)))) [2])) (setV 1)) (retM (newM (dispN [.inr "large", .inr "cells", .inr "rest", .inr "turn"] [getV 1, frzM (listN (consM (getV 0) (M.ret []))), M.ret (.int 0), M.ret (.int 0)])))
def f__law_begun : FnD := fnBody 1 3 m__law_begun
end H
/-! ### loops -/
theorem forL_nil {g : TgM} {body : M Fl} {b : BSt} : forL g body [] b = .ok .nx b := rfl
theorem forL_cons {g : TgM} {body : M Fl} {d : D} {ds : List D} {b : BSt} : forL g body (d :: ds) b = (match g d b with
    | some b1 => turnM body (forL g body ds) b1
    | none => .fail) := rfl
/-- a loop over values: I holds ahead of each turn -/
theorem forL_inv {g : TgM} {body : M Fl} (I : List D → BSt → Prop) (Q : R Fl → Prop) : ∀ {ds : List D} {b : BSt}, I ds b → (∀ b, I [] b → Q (.ok .nx b)) →
    (∀ d ds b, I (d :: ds) b → ∃ b1, g d b = some b1 ∧ ((∃ b2, (body b1 = .ok .nx b2 ∨ body b1 = .ok .cnt b2) ∧ I ds b2) ∨ (∃ v b2, body b1 = .ok (.ret v) b2 ∧ Q (.ok (.ret v) b2)) ∨ ∃ b2, body b1 = .ok .brk b2 ∧ Q (.ok .nx b2))) → Q (forL g body ds b)
  | [], b, h, h0, _ => h0 b h
  | d :: ds, b, h, h0, hs => by
    rw [forL_cons]
    obtain ⟨b1, e1, h1⟩ := hs d ds b h
    rw [e1]
    dsimp only
    unfold turnM
    rcases h1 with ⟨b2, e2 | e2, i⟩ | ⟨v, b2, e2, q⟩ | ⟨b2, e2, q⟩
    · rw [e2]; exact forL_inv I Q i h0 hs
    · rw [e2]; exact forL_inv I Q i h0 hs
    · rw [e2]; exact q
    · rw [e2]; exact q
theorem whileM_inv {c : M Bool} {body : M Fl} (I : Nat → BSt → Prop) (Q : R Fl → Prop)
    (hs : ∀ n b, I n b → (∃ b1, c b = .ok false b1 ∧ Q (.ok .nx b1)) ∨ ∃ b1, c b = .ok true b1 ∧ ((∃ b2, (body b1 = .ok .nx b2 ∨ body b1 = .ok .cnt b2) ∧ ∃ j, j < n ∧ I j b2) ∨ (∃ v b2, body b1 = .ok (.ret v) b2 ∧ Q (.ok (.ret v) b2)) ∨ ∃ b2, body b1 = .ok .brk b2 ∧ Q (.ok .nx b2))) :
    ∀ n b, I n b → Q (whileM c body b) := by
  intro n
  induction n using Nat.strongRecOn with
  | ind n ih =>
    intro b h
    rw [whileM_eq]
    unfold ifM M.bind
    rcases hs n b h with ⟨b1, e1, q⟩ | ⟨b1, e1, h1⟩
    · rw [e1]; exact q
    · rw [e1]
      dsimp only
      rw [if_pos rfl]
      unfold turnM
      rcases h1 with ⟨b2, e2 | e2, j, hj, i⟩ | ⟨v, b2, e2, q⟩ | ⟨b2, e2, q⟩
      · rw [e2]; exact ih j hj b2 i
      · rw [e2]; exact ih j hj b2 i
      · rw [e2]; exact q
      · rw [e2]; exact q
/-! ### a whole list's equality -/
theorem seeD_lst {g : GSt} {k : Nat} {xs : List D} (h : g.S k = some (.lst xs)) : seeD g (.ptr k) = .lst xs := by simp [seeD, h]
theorem toPyAll_ints : ∀ ns : List Int, toPyAll (ns.map D.int) = some (ns.map PyData.int)
  | [] => rfl
  | n :: ns => by simp [toPyAll, toPy, toPyAll_ints ns]
theorem canLay_ints : ∀ ns : List Int, PyData.canLayAll0 (ns.map PyData.int) = true
  | [] => rfl
  | n :: ns => by simp [PyData.canLayAll0, PyData.canLay0, canLay_ints ns]
theorem depth_ints : ∀ ns : List Int, PyData.depthAll (ns.map PyData.int) = 0
  | [] => rfl
  | n :: ns => by simp [PyData.depthAll, PyData.depth, depth_ints ns]
theorem shaped_ints (ns : List Int) : SeqAt.shaped (.list (ns.map PyData.int)) = true := by
  simp [SeqAt.shaped, PyData.canLay0, PyData.depth, canLay_ints, depth_ints]
theorem eqv_nil (ns : List Int) : PyData.eqv (.list (ns.map PyData.int)) (.list []) = ns.isEmpty := by
  cases ns <;> simp [PyData.eqv, PyData.eqvAll]
theorem eqB_nil (ns : List Int) : eqB (.lst (ns.map D.int)) (.lst []) = some ns.isEmpty := by
  have h1 : toPy (.lst (ns.map D.int)) = some (.list (ns.map PyData.int)) := by simp [toPy, toPyAll_ints]
  have h2 : toPy (.lst []) = some (.list []) := by simp [toPy, toPyAll]
  have h3 : SeqAt.shaped (.list []) = true := shaped_ints []
  simp [eqB, h1, h2, h3, shaped_ints, eqv_nil]
/-! ### the draws -/
/-- the draws' state: a dict at ks, the large numbers' list at kl; at most n draws so far -/
structure StOk (g : GSt) (ks kl : Nat) (n : Int) : Prop where
  ne : kl ≠ ks
  at_ : ∃ (L cells : List Int) (rest turn : Int), 0 ≤ turn ∧ turn ≤ n ∧ g.S ks = some (.dic [(.inr "large", .ptr kl), (.inr "cells", .lst (cells.map .int)), (.inr "rest", .int rest), (.inr "turn", .int turn)]) ∧ g.S kl = some (.lst (L.map .int))
/-- what a draw leaves as it was -/
structure Fr (g g' : GSt) (ks kl : Nat) : Prop where
  nx : g'.nx = g.nx
  eq : ∀ j, j ≠ ks → j ≠ kl → g'.S j = g.S j
theorem Fr.refl (g : GSt) (ks kl : Nat) : Fr g g ks kl := ⟨rfl, fun _ _ _ => rfl⟩
theorem Fr.trans {g g1 g2 : GSt} {ks kl : Nat} (a : Fr g g1 ks kl) (b : Fr g1 g2 ks kl) : Fr g g2 ks kl := ⟨b.nx.trans a.nx, fun j h1 h2 => (b.eq j h1 h2).trans (a.eq j h1 h2)⟩
theorem put_same {g : GSt} {k : Nat} {so : SO} : (g.put k so).S k = some so := if_pos rfl
theorem put_ne {g : GSt} {k j : Nat} {so : SO} (h : j ≠ k) : (g.put k so).S j = g.S j := if_neg h
theorem put_nx {g : GSt} {k : Nat} {so : SO} : (g.put k so).nx = g.nx := rfl
/-- one prime's round over the cells -/
theorem cells_ok {g : GSt} {t0 t1 : Option Slot} {p : Int} (hp : 0 < p) (hp2 : p < 2 ^ 31) : ∀ (cells : List Int) (x : Int) (t4 : Option Slot), 0 ≤ x → x < 2 ^ 63 → ∃ (y : Int) (t : Option Slot), 0 ≤ y ∧ y < 2 ^ 63 ∧
    forL (gSet 4) (M.bind (bin2 modD (M.bind (consM (bin2 addD (bin2 mulD (getV 3) (M.ret (.int 48271))) (getV 4)) (M.ret [])) intD) (getV 2)) (setV 3)) (cells.map D.int) ⟨g, [t0, t1, some (.val (.int p)), some (.val (.int x)), t4]⟩ = .ok .nx ⟨g, [t0, t1, some (.val (.int p)), some (.val (.int y)), t]⟩
  | [], x, t4, h1, h2 => ⟨x, t4, h1, h2, rfl⟩
  | c :: cells, x, t4, h1, h2 => by
    obtain ⟨y, t, h3, h4, e⟩ := cells_ok hp hp2 cells ((x * 48271 + c) % p) (some (.val (.int c))) (Int.emod_nonneg _ (by omega)) (by have := Int.emod_lt_of_pos (x * 48271 + c) hp; omega)
    refine ⟨y, t, h3, h4, ?_⟩
    rw [← e]
    have hs : small64 48271 := by decide
    simp [forL, turnM, hs, hp]
theorem primes_ok {g : GSt} {ks kl : Nat} {cells : List Int} {rest turn : Int} (h : g.S ks = some (.dic [(.inr "large", .ptr kl), (.inr "cells", .lst (cells.map .int)), (.inr "rest", .int rest), (.inr "turn", .int turn)])) (ht : 0 ≤ turn) (ht2 : turn ≤ 2 ^ 40) :
    ∀ (ps : List Int), (∀ p ∈ ps, 0 < p ∧ p < 2 ^ 31) → ∀ (f : Int) (t2 t3 t4 : Option Slot), ∃ (f' : Int) (a2 a3 a4 : Option Slot),
    forL (gSet 2) (seqM (M.bind (bin2 addD (bin2 mulD (M.ret (.int 104729)) (ixV 0 (M.ret (.str "turn")))) (bin2 fdivD (getV 2) (M.ret (.int 7)))) (setV 3)) (seqM (forM (itemsM (ixV 0 (M.ret (.str "cells")))) (gSet 4) (M.bind (bin2 modD (M.bind (consM (bin2 addD (bin2 mulD (getV 3) (M.ret (.int 48271))) (getV 4)) (M.ret [])) intD) (getV 2)) (setV 3))) (M.bind (bin2 addD (bin2 mulD (getV 1) (M.ret (.int 2147483647))) (bin2 modD (M.bind (consM (bin2 powD (getV 3) (M.ret (.int 5))) (M.ret [])) intD) (getV 2))) (setV 1))))
      (ps.map D.int) ⟨g, [some (.val (.ptr ks)), some (.val (.int f)), t2, t3, t4]⟩ = .ok .nx ⟨g, [some (.val (.ptr ks)), some (.val (.int f')), a2, a3, a4]⟩
  | [], _, f, t2, t3, t4 => ⟨f, t2, t3, t4, rfl⟩
  | p :: ps, hp, f, t2, t3, t4 => by
    obtain ⟨p0, p1⟩ := hp p (List.mem_cons_self ..)
    have p2 : 0 ≤ p / 7 := Int.ediv_nonneg (by omega) (by decide)
    have p3 : p / 7 < 2 ^ 31 := by omega
    obtain ⟨y, t, y0, y1, ey⟩ := cells_ok (g := g) (t0 := some (.val (.ptr ks))) (t1 := some (.val (.int f))) p0 p1 cells (104729 * turn + p / 7) t4 (by omega) (by omega)
    obtain ⟨f', a2, a3, a4, ef⟩ := primes_ok h ht ht2 ps (fun q hq => hp q (List.mem_cons_of_mem _ hq)) (f * 2147483647 + y ^ 5 % p) (some (.val (.int p))) (some (.val (.int y))) t
    refine ⟨f', a2, a3, a4, ?_⟩
    rw [← ef]
    have hs : small64 104729 := by decide
    have hs2 : small64 2147483647 := by decide
    have hy : y.natAbs < 18446744073709551616 := by omega
    have k1 : ((Sum.inr ("large" : Str) : Key) = Sum.inr ("turn" : Str)) = False := by decide
    have k2 : ((Sum.inr ("cells" : Str) : Key) = Sum.inr ("turn" : Str)) = False := by decide
    have k3 : ((Sum.inr ("rest" : Str) : Key) = Sum.inr ("turn" : Str)) = False := by decide
    have k4 : ((Sum.inr ("large" : Str) : Key) = Sum.inr ("cells" : Str)) = False := by decide
    simp [forL, turnM, hs, hs2, p0, h, dlook_cons, ey, hy]
theorem mixed_ok {g : GSt} {ks kl : Nat} {n : Int} (h : StOk g ks kl n) (hn : n < 2 ^ 40) : ∃ v g', H.f__law_mixed [.ptr ks] g = .ok (.int v) g' ∧ StOk g' ks kl (n + 1) ∧ Fr g g' ks kl := by
  obtain ⟨ne, L, cells, rest, turn, h0, h1, hs, hl⟩ := h
  have e1 : (g.put ks (.dic [(.inr "large", .ptr kl), (.inr "cells", .lst (cells.map .int)), (.inr "rest", .int rest), (.inr "turn", .int (turn + 1))])).S ks = some (.dic [(.inr "large", .ptr kl), (.inr "cells", .lst (cells.map .int)), (.inr "rest", .int rest), (.inr "turn", .int (turn + 1))]) := put_same
  obtain ⟨f, a2, a3, a4, ef⟩ := primes_ok e1 (by omega) (by omega) [2147483629, 2147483587, 2147483579, 2147483563, 2147483549, 2147483543] (by decide) 0 none none none
  refine ⟨f, _, ?_, ⟨ne, L, cells, rest, turn + 1, by omega, by omega, put_same, by rw [put_ne ne]; exact hl⟩, rfl, fun j j1 _ => put_ne j1⟩
  have sz : 4 < sizeLine := by rw [sizeLine_eq]; omega
  have sz6 : 6 ≤ sizeLine := by rw [sizeLine_eq]; omega
  simp at ef
  simp [H.f__law_mixed, H.m__law_mixed, hs, dlook_cons, dput, sz, sz6, ef]
abbrev stD (kl : Nat) (cells : List Int) (rest turn : Int) : SO := .dic [(.inr "large", .ptr kl), (.inr "cells", .lst (cells.map .int)), (.inr "rest", .int rest), (.inr "turn", .int turn)]
theorem take_ok {g : GSt} {ks kl : Nat} {n m : Int} (h : StOk g ks kl n) (hn : n < 2 ^ 40) (h0 : 0 < m) (h1 : m < 2 ^ 30) : ∃ v g', H.f__law_take [.ptr ks, .int m] g = .ok (.int v) g' ∧ 0 ≤ v ∧ v < m ∧ StOk g' ks kl (n + 1) ∧ Fr g g' ks kl := by
  obtain ⟨ne, L, cells, rest, turn, t0, t1, hs, hl⟩ := id h
  have sz : 4 < sizeLine := by rw [sizeLine_eq]; omega
  have h1' : m < 1073741824 := h1
  have en : ks ≠ kl := fun e => ne e.symm
  by_cases hr : rest = 0
  · subst hr
    cases L with
    | cons x L =>
      refine ⟨x % m, ((g.put kl (.lst (L.map .int))).put ks (stD kl cells x turn)).put ks (stD kl cells (x / m) turn), ?_, Int.emod_nonneg _ (by omega), Int.emod_lt_of_pos _ h0, ⟨ne, L, cells, x / m, turn, by omega, by omega, put_same, ?_⟩, ?_, ?_⟩
      rotate_left
      · rw [put_ne ne, put_ne ne, put_same]
      · rfl
      · intro j j1 j2
        rw [put_ne j1, put_ne j1, put_ne j2]
      have e2 := eqB_nil (x :: L)
      simp only [List.map_cons] at e2
      have hl' : g.S kl = some (.lst (D.int x :: L.map D.int)) := hl
      have hp : (0 : Int) < (L.length : Int) + 1 := by omega
      simp [H.f__law_take, H.m__law_take, hs, dlook_cons, dput, sz, neP, seeD, hl', neD_ap, e2, fPopAt, ixN, put_same, put_ne en, put_ne ne, h0, h1', hp]
    | nil =>
      obtain ⟨v, g', e, s', fr⟩ := mixed_ok h hn
      obtain ⟨_, L', cells', rest', turn', u0, u1, hs', hl2⟩ := id s'
      refine ⟨v % m, (g'.put ks (stD kl cells' v turn')).put ks (stD kl cells' (v / m) turn'), ?_, Int.emod_nonneg _ (by omega), Int.emod_lt_of_pos _ h0, ⟨ne, L', cells', v / m, turn', by omega, by omega, put_same, ?_⟩, ?_, ?_⟩
      rotate_left
      · rw [put_ne ne, put_ne ne]; exact hl2
      · exact fr.nx
      · intro j j1 j2
        rw [put_ne j1, put_ne j1]; exact fr.eq j j1 j2
      have e2 := eqB_nil []
      simp only [List.map_nil] at e2
      have hl' : g.S kl = some (.lst []) := hl
      simp [H.f__law_take, H.m__law_take, hs, hs', dlook_cons, dput, sz, neP, seeD, hl', neD_ap, e2, put_same, h0, h1', e]
  · refine ⟨rest % m, g.put ks (stD kl cells (rest / m) turn), ?_, Int.emod_nonneg _ (by omega), Int.emod_lt_of_pos _ h0, ⟨ne, L, cells, rest / m, turn, by omega, by omega, put_same, by rw [put_ne ne]; exact hl⟩, rfl, fun j j1 _ => put_ne j1⟩
    simp [H.f__law_take, H.m__law_take, hs, dlook_cons, dput, sz, hr, h0, h1']
theorem atI_last {α : Type} {xs : List α} {x : α} : atI (xs ++ [x]) (-1) = some x := by
  have h : (-1 : Int) + ((xs.length : Int) + 1) = xs.length := by omega
  have h2 : (1 : Int) ≤ (xs.length : Int) + 1 := by omega
  simp [atI, ixN, h, h2]
theorem atI_nat {α : Type} {xs : List α} {i : Int} {x : α} (h0 : 0 ≤ i) (h : xs[i.toNat]? = some x) : atI xs i = some x := by
  have h1 : i.toNat < xs.length := (List.getElem?_eq_some_iff.mp h).1
  have h2 : i < xs.length := by omega
  simp [atI, ixN, h0, h2, (List.getElem?_eq_some_iff.mp h).2]
theorem pick_ok {g : GSt} {ks kl : Nat} {n : Int} (h : StOk g ks kl n) (hn : n < 2 ^ 40) {ds : List D} (h0 : 0 < ds.length) (h1 : ds.length < 2 ^ 30) : ∃ d g', H.f__law_pick [.ptr ks, .lst ds] g = .ok d g' ∧ d ∈ ds ∧ StOk g' ks kl (n + 1) ∧ Fr g g' ks kl := by
  obtain ⟨v, g', e, v0, v1, s', fr⟩ := take_ok (m := (ds.length : Int)) h hn (by omega) (by omega)
  have hv : v.toNat < ds.length := by omega
  refine ⟨ds[v.toNat], g', ?_, List.getElem_mem hv, s', fr⟩
  have ha : atI ds v = some ds[v.toNat] := atI_nat v0 (List.getElem?_eq_getElem hv)
  simp [H.f__law_pick, H.m__law_pick, e, ha]
theorem large_ok {g : GSt} {s : Slot} {elt : M D} {tt : M Bool} (ht : ∀ x : Int, ∃ c : Bool, tt ⟨g, [some s, none, some (.val (.int x))]⟩ = .ok c ⟨g, [some s, none, some (.val (.int x))]⟩) (he : ∀ x : Int, elt ⟨g, [some s, none, some (.val (.int x))]⟩ = .ok (.int (x - 10 ^ 18)) ⟨g, [some s, none, some (.val (.int x))]⟩) :
    ∀ (ns : List Int) (acc : List Int), acc.length + ns.length ≤ 1000 → ∃ L : List Int, compL (gSet 2) tt elt [2] (acc.map .int) (ns.map .int) ⟨g, [some s, none, none]⟩ = .ok (L.map .int) ⟨g, [some s, none, none]⟩
  | [], acc, _ => ⟨acc, rfl⟩
  | n :: ns, acc, h => by
    simp only [List.length_cons] at h
    obtain ⟨c, hc⟩ := ht n
    cases c with
    | false =>
      obtain ⟨L, e⟩ := large_ok ht he ns acc (by omega)
      refine ⟨L, ?_⟩
      simp [compL, hc, BSt.wip, wipeT, e]
    | true =>
      obtain ⟨L, e⟩ := large_ok ht he ns (acc ++ [n - 10 ^ 18]) (by simp; omega)
      refine ⟨L, ?_⟩
      have sz : acc.length < sizeLine := by rw [sizeLine_eq]; omega
      simp at e
      have he' := he n
      simp at he'
      simp [compL, hc, he', BSt.wip, wipeT, sz, e]
theorem begun_ok (ns : List Int) (hl : ns.length ≤ 63) : ∃ g', H.f__law_begun [.scr ns] ⟨fun _ => none, 0⟩ = .ok (.ptr 1) g' ∧ StOk g' 1 0 0 ∧ g'.nx = 2 := by
  obtain ⟨L, e⟩ := large_ok (g := ⟨fun _ => none, 0⟩) (s := .val (.scr ns)) (tt := isB (bin2 geD (getV 2) (bin2 powD (M.ret (.int 10)) (M.ret (.int 18))))) (elt := bin2 subD (getV 2) (bin2 powD (M.ret (.int 10)) (M.ret (.int 18)))) (fun x => ⟨decide (x ≥ 10 ^ 18), by simp⟩) (fun x => by simp) ns [] (by simp; omega)
  refine ⟨((⟨fun _ => none, 0⟩ : GSt).new (.lst (L.map .int))).new (stD 0 ns 0 0), ?_, ⟨by decide, L, ns, 0, 0, by omega, by omega, rfl, rfl⟩, rfl⟩
  simp only [List.map_nil] at e
  simp [H.f__law_begun, H.m__law_begun, lcN, BSt.wip, wipeT, e, GSt.new, toLst, mergeD, dput]
end
end L2.VI
/-! VI17: all, sum, min and max of a list, tuple(x), slices, in, isinstance of several classes, augmented stores. -/
namespace L2.VI
open PySem PySem.Spec PyProof.Rows He
section
variable {X : Cx} {W : WX} {pos apos cpos p2 : Pos} {o i e a c : Expr} {es : List Expr} {mo mi me ma mb : M D} {mas : M (List D)}
variable {K : PySem.W.Frag} {F : Hp} {fc : FrC} {P0 : PX fc} {Mm H : Hp} {ρ : Rho} {bs : BSt} {σ : St}
/-! ### the ints, the bools of a list -/
def dInts : List D → Option (List Int)
  | [] => some []
  | .int i :: r => (dInts r).map (i :: ·)
  | _ => none
def dBls : List D → Option (List Bool)
  | [] => some []
  | .bl i :: r => (dBls r).map (i :: ·)
  | _ => none
theorem dInts_map : ∀ {ds : List D} {ns : List Int}, dInts ds = some ns → ds = ns.map D.int
  | [], ns, h => by cases h; rfl
  | .int i :: r, ns, h => by
    unfold dInts at h
    cases e : dInts r with
    | none => rw [e] at h; cases h
    | some l => rw [e] at h; cases h; rw [dInts_map e]; rfl
  | .non :: _, _, h => by cases h
  | .bl _ :: _, _, h => by cases h
  | .str _ :: _, _, h => by cases h
  | .ty _ :: _, _, h => by cases h
  | .glo _ :: _, _, h => by cases h
  | .tup _ :: _, _, h => by cases h
  | .lst _ :: _, _, h => by cases h
  | .dic _ :: _, _, h => by cases h
  | .ptr _ :: _, _, h => by cases h
  | .scr _ :: _, _, h => by cases h
  | .xob _ _ :: _, _, h => by cases h
theorem dBls_map : ∀ {ds : List D} {ns : List Bool}, dBls ds = some ns → ds = ns.map D.bl
  | [], ns, h => by cases h; rfl
  | .bl i :: r, ns, h => by
    unfold dBls at h
    cases e : dBls r with
    | none => rw [e] at h; cases h
    | some l => rw [e] at h; cases h; rw [dBls_map e]; rfl
  | .non :: _, _, h => by cases h
  | .int _ :: _, _, h => by cases h
  | .str _ :: _, _, h => by cases h
  | .ty _ :: _, _, h => by cases h
  | .glo _ :: _, _, h => by cases h
  | .tup _ :: _, _, h => by cases h
  | .lst _ :: _, _, h => by cases h
  | .dic _ :: _, _, h => by cases h
  | .ptr _ :: _, _, h => by cases h
  | .scr _ :: _, _, h => by cases h
  | .xob _ _ :: _, _, h => by cases h
theorem dInts_of : ∀ ns : List Int, dInts (ns.map D.int) = some ns
  | [] => rfl
  | n :: ns => by simp [dInts, dInts_of ns]
theorem dBls_of : ∀ ns : List Bool, dBls (ns.map D.bl) = some ns
  | [] => rfl
  | n :: ns => by simp [dBls, dBls_of ns]
/-! ### all, sum -/
def allD : List D → M D
  | [.lst ds] => (match dBls ds with
    | some l => M.ret (.bl (l.all id))
    | none => M.fail)
  | _ => M.fail
def sumD : List D → M D
  | [.lst ds] => (match dInts ds with
    | some l => M.ret (.int l.sum)
    | none => M.fail)
  | _ => M.fail
theorem cv_all (hc : X.calm = true := by rfl) : CallV X W (.builtin "all") allD := by
  intro xs as σ H F P0 Mm ρ b Q B r h
  refine ⟨_, cr_all hc, ?_⟩
  unfold allD at h
  split at h
  · rename_i ds
    cases e : dBls ds with
    | some l =>
      rw [e] at h
      cases r with | cons r rr => cases rr; cases r with | lst h1 h2 =>
        rw [dBls_map e] at h2
        exact ⟨_, l, rfl, by rw [← h2.bls]; exact .inl (.inl (B.lstAt h1)), h.now B (.bl _)⟩
    | none => rw [e] at h; exact h.elim
  · exact h.elim
theorem cv_sum (hc : X.calm = true := by rfl) : CallV X W (.builtin "sum") sumD := by
  intro xs as σ H F P0 Mm ρ b Q B r h
  refine ⟨_, cr_sum hc, ?_⟩
  unfold sumD at h
  split at h
  · rename_i ds
    cases e : dInts ds with
    | some l =>
      rw [e] at h
      cases r with | cons r rr => cases rr; cases r with | lst h1 h2 =>
        rw [dInts_map e] at h2
        exact ⟨_, l, rfl, by rw [← h2.ints]; exact .inl (.inl (B.lstAt h1)), h.now B (.int _)⟩
    | none => rw [e] at h; exact h.elim
  · exact h.elim
/-! ### min, max of a list of ints -/
def maxI : List Int → Option Int
  | [] => none
  | x :: r => some (r.foldl (fun m y => if m < y then y else m) x)
def minI : List Int → Option Int
  | [] => none
  | x :: r => some (r.foldl (fun m y => if y < m then y else m) x)
theorem maxI_spec : ∀ (r : List Int) (x : Int), (r.foldl (fun m y => if m < y then y else m) x) ∈ x :: r ∧ ∀ y ∈ x :: r, y ≤ r.foldl (fun m y => if m < y then y else m) x
  | [], x => ⟨List.mem_cons_self .., fun y h => by cases h with | head => exact Int.le_refl _ | tail _ h => cases h⟩
  | z :: r, x => by
    obtain ⟨h1, h2⟩ := maxI_spec r (if x < z then z else x)
    rw [List.foldl_cons]
    generalize hw : List.foldl (fun m y => if m < y then y else m) (if x < z then z else x) r = w at h1 h2 ⊢
    have h3 := h2 (if x < z then z else x) (List.mem_cons_self ..)
    refine ⟨?_, fun y hy => ?_⟩
    · rcases List.mem_cons.mp h1 with h | h
      · rw [h]
        split
        · exact List.mem_cons_of_mem _ (List.mem_cons_self ..)
        · exact List.mem_cons_self ..
      · exact List.mem_cons_of_mem _ (List.mem_cons_of_mem _ h)
    · rcases List.mem_cons.mp hy with h | h
      · subst h
        split at h3 <;> omega
      · rcases List.mem_cons.mp h with h | h
        · subst h
          split at h3 <;> omega
        · exact h2 y (List.mem_cons_of_mem _ h)
theorem minI_spec : ∀ (r : List Int) (x : Int), (r.foldl (fun m y => if y < m then y else m) x) ∈ x :: r ∧ ∀ y ∈ x :: r, r.foldl (fun m y => if y < m then y else m) x ≤ y
  | [], x => ⟨List.mem_cons_self .., fun y h => by cases h with | head => exact Int.le_refl _ | tail _ h => cases h⟩
  | z :: r, x => by
    obtain ⟨h1, h2⟩ := minI_spec r (if z < x then z else x)
    rw [List.foldl_cons]
    generalize hw : List.foldl (fun m y => if y < m then y else m) (if z < x then z else x) r = w at h1 h2 ⊢
    have h3 := h2 (if z < x then z else x) (List.mem_cons_self ..)
    refine ⟨?_, fun y hy => ?_⟩
    · rcases List.mem_cons.mp h1 with h | h
      · rw [h]
        split
        · exact List.mem_cons_of_mem _ (List.mem_cons_self ..)
        · exact List.mem_cons_self ..
      · exact List.mem_cons_of_mem _ (List.mem_cons_of_mem _ h)
    · rcases List.mem_cons.mp hy with h | h
      · subst h
        split at h3 <;> omega
      · rcases List.mem_cons.mp h with h | h
        · subst h
          split at h3 <;> omega
        · exact h2 y (List.mem_cons_of_mem _ h)
def maxLD : List D → M D
  | [.lst ds] => (match (dInts ds).bind maxI with
    | some m => M.ret (.int m)
    | none => M.fail)
  | _ => M.fail
def minLD : List D → M D
  | [.lst ds] => (match (dInts ds).bind minI with
    | some m => M.ret (.int m)
    | none => M.fail)
  | _ => M.fail
theorem cv_maxL (hc : X.calm = true := by rfl) : CallV X W (.builtin "max") maxLD := by
  intro xs as σ H F P0 Mm ρ b Q B r h
  refine ⟨_, cr_max hc, ?_⟩
  unfold maxLD at h
  split at h
  · rename_i ds
    cases r with | cons r rr => cases rr; cases r with | lst h1 h2 =>
        cases e1 : dInts ds with
        | none => rw [e1] at h; exact h.elim
        | some l =>
          rw [e1] at h
          rw [dInts_map e1] at h2
          cases l with
          | nil => exact h.elim
          | cons x l =>
            obtain ⟨m1, m2⟩ := maxI_spec l x
            refine ⟨_, x :: l, rfl, by rw [← h2.ints]; exact .inl (.inl (B.lstAt h1)), Nat.succ_pos _, fun m hm hle => ?_⟩
            have : m = l.foldl (fun m y => if m < y then y else m) x := Int.le_antisymm (m2 m hm) (hle _ m1)
            rw [this]
            exact h.now B (.int _)
  · exact h.elim
theorem cv_minL (hc : X.calm = true := by rfl) : CallV X W (.builtin "min") minLD := by
  intro xs as σ H F P0 Mm ρ b Q B r h
  refine ⟨_, cr_min hc, ?_⟩
  unfold minLD at h
  split at h
  · rename_i ds
    cases r with | cons r rr => cases rr; cases r with | lst h1 h2 =>
        cases e1 : dInts ds with
        | none => rw [e1] at h; exact h.elim
        | some l =>
          rw [e1] at h
          rw [dInts_map e1] at h2
          cases l with
          | nil => exact h.elim
          | cons x l =>
            obtain ⟨m1, m2⟩ := minI_spec l x
            refine ⟨_, x :: l, rfl, by rw [← h2.ints]; exact .inl (.inl (B.lstAt h1)), Nat.succ_pos _, fun m hm hle => ?_⟩
            have : m = l.foldl (fun m y => if y < m then y else m) x := Int.le_antisymm (hle _ m1) (m2 m hm)
            rw [this]
            exact h.now B (.int _)
  · exact h.elim
/-! ### tuple(x) -/
def tupD : List D → M D
  | [.lst ds] => M.ret (.tup ds)
  | [.tup ds] => M.ret (.tup ds)
  | _ => M.fail
theorem cv_tuple : CallV X W (.type "tuple") tupD := by
  intro xs as σ H F P0 Mm ρ b Q B r h
  refine ⟨_, call_tuple_of, ?_⟩
  unfold tupD at h
  split at h
  · cases r with | cons r rr => cases rr; cases r with | lst h1 h2 =>
      exact ⟨_, _, rfl, .inl ⟨.inl (.inl (B.lstAt h1)), fun p hp => h.new B hp fun F' l e => .tup (.inl e) (h2.mono l (Rle.refl _))⟩⟩
  · cases r with | cons r rr => cases rr; cases r with | tup h1 h2 =>
      exact ⟨_, _, rfl, .inr ⟨Rep.sqT (P := fun _ => none) B h1, h.now B (.tup h1 h2)⟩⟩
  · exact h.elim
/-! ### x[lo:hi] -/
def SO' (X : Cx) (W : WX) (e : Option Expr) (m : M (Option Int)) : Prop := PO X e (tM (fc := fcOf X) (fun _ _ x a => x = a) X.K W m)
theorem so_none : SO' X W none (M.ret none) := ⟨fun pins s σ H Q I ⟨F, P0, Mm, ρ, b, B, q⟩ => po_none.run pins s σ H Q I (q none F Mm ρ H (Leq.refl _) (Rle.refl _) B rfl)⟩
def partM (m : M D) : M (Option Int) := M.bind m fun d => match d with
  | .int i => M.ret (some i)
  | _ => M.fail
theorem so_some (h : SE X W e me) : SO' X W (some e) (partM me) := ⟨fun pins s σ H Q I ⟨F, P0, Mm, ρ, b, B, q⟩ => (po_some h).run pins s σ H Q I (tM_then B q fun x d F1 M1 r1 b1 H1 l1 e1 B1 q1 h1 => by
  cases q1 with
  | int i => exact ⟨i, rfl, h1.now B1 rfl⟩
  | _ => exact h1.elim)⟩
def cutD (xs : List D) (lo hi : Option Int) : List D := (xs.drop (HT.sIx xs.length 0 lo)).take (HT.sIx xs.length xs.length hi - HT.sIx xs.length 0 lo)
theorem RepAll.cut {vs : List V} {ds : List D} (r : RepAll K F ρ vs ds) (lo hi : Option Int) : RepAll K F ρ (cutV vs lo hi) (cutD ds lo hi) := by
  unfold cutV cutD
  rw [r.length]
  exact (r.drop _).take _
def slD (d : D) (lo hi : Option Int) : M D := match d with
  | .lst xs => M.ret (.lst (cutD xs lo hi))
  | .tup xs => M.ret (.tup (cutD xs lo hi))
  | .str z => guardM (z.length ≤ sizeLine) (M.ret (.str (cutS z lo hi)))
  | _ => M.fail
theorem sIx_all {n : Nat} {lo hi : Option Int} (h : HT.sIx n 0 lo = 0 ∧ HT.sIx n n hi = n) (xs : List D) (hn : xs.length = n) : cutD xs lo hi = xs := by
  unfold cutD
  rw [hn, h.1, h.2]
  simp [← hn]
theorem SlR.any : SlR X (fun x lo hi H Q => ∃ r, SlR X r ∧ r x lo hi H Q) := fun pins s σ H x v vl vu lo hi sl Q I rx hs pl pu ⟨r, hr, q⟩ => hr pins s σ H x v vl vu lo hi sl Q I rx hs pl pu q
def sliceM (me : M D) (ml mh : M (Option Int)) : M D := M.bind me fun d => M.bind ml fun l => M.bind mh fun h => slD d l h
theorem se_slice {lo hi : Option Expr} {ml mh : M (Option Int)} (he : SE X W e me) (hl : SO' X W lo ml) (hh : SO' X W hi mh) : SE X W (.Subscript e (.Slice lo hi none p2) pos) (sliceM me ml mh) :=
  SE.of (pe_slice SlR.any he hl hh) fun σ H F P0 Mm ρ bs Q B q => tM_then B q fun x d F1 M1 r1 b1 H1 l1 e1 B1 q1 h1 => tM_then B1 h1 fun l l' F2 M2 r2 b2 H2 l2 e2 B2 q2 h2 => by
    subst q2
    refine tM_then B2 h2 fun u u' F3 M3 r3 b3 H3 l3 e3 B3 q3 h3 => ?_
    subst q3
    have q1' := q1.mono (l2.trans l3) (e2.trans e3)
    cases q1' with
    | lst ha r =>
      exact ⟨_, sl_list, _, _, rfl, .inl (.inl (B3.lstAt ha)), fun p hp => h3.new B3 hp fun F' l e => .lst e ((r.mono l (Rle.refl _)).cut _ _)⟩
    | tup ha r =>
      refine ⟨_, sl_tupA, _, _, rfl, Rep.sqT (P := fun _ => none) B3 ha, fun hw => ?_, fun hw p hp => h3.new B3 hp fun F' l e => .tup (.inl e) ((r.mono l (Rle.refl _)).cut _ _)⟩
      have hw' := hw
      rw [r.length] at hw'
      have e := sIx_all hw' _ rfl
      have h4 : Post (Rep X.K) X.K W P0 F3 r3 σ Q (M.ret (.tup (cutD _ l u)) b3) := h3
      rw [e] at h4
      exact h4.now B3 (.tup ha r)
    | str z =>
      obtain ⟨hz, h3⟩ := Post.guard h3
      exact ⟨_, sl_str, z, rfl, hz, h3.now B3 (.str _)⟩
    | _ => exact h3.elim
end
end L2.VI
/-! VI18: in, isinstance of several classes, augmented stores. -/
namespace L2.VI
open PySem PySem.Spec PyProof.Rows He
section
variable {X : Cx} {W : WX} {pos apos cpos p2 : Pos} {o i e a c : Expr} {es : List Expr} {mo mi me ma mb : M D} {mas : M (List D)}
variable {K : PySem.W.Frag} {F : Hp} {fc : FrC} {P0 : PX fc} {Mm H : Hp} {ρ : Rho} {bs : BSt} {σ : St}
/-! ### in -/
def isF : D → Bool
  | .non => true
  | .bl _ => true
  | .int _ => true
  | .str _ => true
  | _ => false
def eqF : D → D → Bool
  | .non, .non => true
  | .bl a, .bl b => a == b
  | .bl a, .int b => (if a then 1 else 0) == b
  | .int a, .bl b => a == (if b then 1 else 0)
  | .int a, .int b => a == b
  | .str a, .str b => a == b
  | _, _ => false
theorem Rep.flat {x : V} {d : D} (r : Rep K F ρ x d) (h : isF d = true) : flatV x = true := by
  cases r <;> first | rfl | cases h
theorem Rep.eqF' {x y : V} {d e : D} (r : Rep K F ρ x d) (s : Rep K F ρ y e) (h : isF d = true) (h' : isF e = true) : eqV x y = eqF d e := by
  cases r <;> cases s <;> first | rfl | cases h | cases h'
theorem RepAll.flat : ∀ {xs : List V} {ds : List D}, RepAll K F ρ xs ds → ds.all isF = true → xs.all flatV = true
  | _, _, .nil, _ => rfl
  | _, _, .cons r rr, h => by
    simp only [List.all_cons, Bool.and_eq_true] at h ⊢
    exact ⟨r.flat h.1, RepAll.flat rr h.2⟩
theorem RepAll.inF {x : V} {d : D} (s : Rep K F ρ x d) (h' : isF d = true) : ∀ {xs : List V} {ds : List D}, RepAll K F ρ xs ds → ds.all isF = true → inV x xs = ds.any fun y => eqF y d
  | _, _, .nil, _ => rfl
  | _, _, .cons (v := v) (vs := vs) (d := e) (ds := ds) r rr, h => by
    simp only [List.all_cons, Bool.and_eq_true] at h
    have ih := RepAll.inF s h' rr h.2
    have e2 : inV x (v :: vs) = (eqV v x || inV x vs) := rfl
    rw [e2, ih, r.eqF' s h.1 h']
    rfl
def inD (neg : Bool) (d c : D) : M D := match c with
  | .lst ds => guardM (isF d = true ∧ ds.all isF = true) (M.ret (.bl (xor neg (ds.any fun y => eqF y d))))
  | .tup ds => guardM (isF d = true ∧ ds.all isF = true) (M.ret (.bl (xor neg (ds.any fun y => eqF y d))))
  | .str z => (match d with
    | .str x => (match x.cps.toList with
      | [k] => M.ret (.bl (xor neg (decide (k ∈ z.cps.toList))))
      | _ => M.fail)
    | _ => M.fail)
  | _ => M.fail
theorem str_of_one {x : Str} {k : Nat} (h : x.cps.toList = [k]) : x = ⟨#[k]⟩ := by
  obtain ⟨c⟩ := x
  obtain ⟨l⟩ := c
  simp at h
  subst h
  rfl
theorem ov_in : OpV X W (compareOp .In) (inD false) := by
  intro x y d c σ H F P0 Mm ρ b Q B rx ry h
  cases ry with
  | lst ha r =>
    obtain ⟨hg, h⟩ := Post.guard h
    refine ⟨_, op_in_seq, _, _, rfl, .inl (.inl (.inl (B.lstAt ha))), rx.flat hg.1, r.flat hg.2, ?_⟩
    rw [r.inF rx hg.1 hg.2]
    simpa using h.now B (.bl _)
  | tup ha r =>
    obtain ⟨hg, h⟩ := Post.guard h
    refine ⟨_, op_in_seq, _, _, rfl, .inr (Rep.sqT (P := fun _ => none) B ha), rx.flat hg.1, r.flat hg.2, ?_⟩
    rw [r.inF rx hg.1 hg.2]
    simpa using h.now B (.bl _)
  | str z =>
    cases rx with
    | str x =>
      cases e : x.cps.toList with
      | nil => unfold inD at h; dsimp only at h; rw [e] at h; exact h.elim
      | cons k l =>
        cases l with
        | nil =>
          unfold inD at h; dsimp only at h; rw [e] at h
          refine ⟨_, op_in_sign, k, z, by rw [str_of_one e], rfl, ?_⟩
          simpa using h.now B (.bl _)
        | cons _ _ => unfold inD at h; dsimp only at h; rw [e] at h; exact h.elim
    | _ => exact h.elim
  | _ => exact h.elim
theorem ov_notin : OpV X W (compareOp .NotIn) (inD true) := by
  intro x y d c σ H F P0 Mm ρ b Q B rx ry h
  cases ry with
  | lst ha r =>
    obtain ⟨hg, h⟩ := Post.guard h
    refine ⟨_, op_notIn_seq, _, _, rfl, .inl (.inl (.inl (B.lstAt ha))), rx.flat hg.1, r.flat hg.2, ?_⟩
    rw [r.inF rx hg.1 hg.2]
    simpa using h.now B (.bl _)
  | tup ha r =>
    obtain ⟨hg, h⟩ := Post.guard h
    refine ⟨_, op_notIn_seq, _, _, rfl, .inr (Rep.sqT (P := fun _ => none) B ha), rx.flat hg.1, r.flat hg.2, ?_⟩
    rw [r.inF rx hg.1 hg.2]
    simpa using h.now B (.bl _)
  | str z =>
    cases rx with
    | str x =>
      cases e : x.cps.toList with
      | nil => unfold inD at h; dsimp only at h; rw [e] at h; exact h.elim
      | cons k l =>
        cases l with
        | nil =>
          unfold inD at h; dsimp only at h; rw [e] at h
          refine ⟨_, op_notIn_sign, k, z, by rw [str_of_one e], rfl, ?_⟩
          simpa using h.now B (.bl _)
        | cons _ _ => unfold inD at h; dsimp only at h; rw [e] at h; exact h.elim
    | _ => exact h.elim
  | _ => exact h.elim
/-! ### isinstance(x, (T, ..)) -/
def tysOf : List D → Option (List String)
  | [] => some []
  | .ty n :: r => (tysOf r).map (n :: ·)
  | _ => none
theorem tysOf_map : ∀ {ds : List D} {ns : List String}, tysOf ds = some ns → ds = ns.map D.ty
  | [], ns, h => by cases h; rfl
  | .ty i :: r, ns, h => by
    unfold tysOf at h
    cases e : tysOf r with
    | none => rw [e] at h; cases h
    | some l => rw [e] at h; cases h; rw [tysOf_map e]; rfl
  | .non :: _, _, h => by cases h
  | .bl _ :: _, _, h => by cases h
  | .str _ :: _, _, h => by cases h
  | .int _ :: _, _, h => by cases h
  | .glo _ :: _, _, h => by cases h
  | .tup _ :: _, _, h => by cases h
  | .lst _ :: _, _, h => by cases h
  | .dic _ :: _, _, h => by cases h
  | .ptr _ :: _, _, h => by cases h
  | .scr _ :: _, _, h => by cases h
  | .xob _ _ :: _, _, h => by cases h
theorem RepAll.tys : ∀ {vs : List V} {ns : List String}, RepAll K F ρ vs (ns.map D.ty) → vs = ns.map V.ty
  | _, [], h => by cases h; rfl
  | _, n :: ns, h => by
    cases h with
    | cons r t => cases r; rw [RepAll.tys t]; rfl
theorem clsV_tys : ∀ ns : List String, Paired ClsV (ns.map V.ty) (ns.map Value.type)
  | [] => .nil
  | n :: ns => .cons (.ty n) (clsV_tys ns)
theorem vals_tys : ∀ {ns : List String} {us : List Value}, Vals (ns.map V.ty) us → us = ns.map Value.type
  | [], _, h => by cases h; rfl
  | n :: ns, _, h => by
    cases h with
    | cons r t => cases r; rw [vals_tys t]; rfl
def isiTM (ts : List String) (subs : String → Bool) (own : List (Str × Bool)) : List D → M D
  | [x, .tup cs] => fun b => if tysOf cs = some ts then (match tyD x b.g with
    | some (.inl t) => .ok (.bl (subs t)) b
    | some (.inr c) => (match own.lookup c with
      | some k => .ok (.bl k) b
      | none => .fail)
    | none => .fail) else .fail
  | _ => M.fail
theorem lookup_mem' {c : Str} {k : Bool} : ∀ {own : List (Str × Bool)}, own.lookup c = some k → (c, k) ∈ own
  | [], h => by cases h
  | (p1, p2) :: own, h => by
    rw [List.lookup_cons] at h
    split at h
    · rename_i he
      have := eq_of_beq he
      cases h; subst this
      exact List.mem_cons_self ..
    · exact List.mem_cons_of_mem _ (lookup_mem' h)
/-- kitAny over built-in types, computed -/
def kitsB' (a : String) : List String → Option Bool
  | [] => some false
  | t :: ts => match kitB a t with
    | some true => some true
    | some false => kitsB' a ts
    | none => none
theorem kitsB'_ok {K : PySem.W.Frag} {a : String} : ∀ {ts : List String} {r : Bool}, kitsB' a ts = some r → PySem.W.kitAny K (.type a) (ts.map Value.type) = some r
  | [], r, h => by cases h; rfl
  | t :: ts, r, h => by
    unfold kitsB' at h
    rw [List.map_cons]
    unfold PySem.W.kitAny
    cases e : kitB a t with
    | none => rw [e] at h; cases h
    | some b =>
      rw [e] at h
      rw [kit_ty (K := K) e]
      cases b with
      | true => exact h
      | false => exact kitsB'_ok h
theorem cv_isiTup {ts : List String} {subs : String → Bool} {own : List (Str × Bool)} (hs : ∀ n, n ∈ tyNames → kitsB' n ts = some (subs n) := by decide +kernel)
    (ho : ∀ p ∈ own, ClsI X.K p.1 ∧ PySem.W.kitAny X.K (.ref (ga X.K p.1)) (ts.map Value.type) = some p.2) : CallV X W (.builtin "isinstance") (isiTM ts subs own) := by
  intro xs as σ H F P0 Mm ρ b Q B r h
  unfold isiTM at h
  split at h
  · rename_i x cs
    split at h
    · rename_i hc
      cases r with
      | cons rx rr =>
        cases rr with
        | cons rc rr =>
          cases rr
          cases rc with
          | tup ha r2 =>
            rename_i tp vs2
            rw [tysOf_map hc] at r2
            have ev := r2.tys
            -- the answer, whatever the tuple's kind
            rename_i xv
            have fin : ∀ (t : Value) (k : Bool), TyX X.K H xv t → PySem.W.kitAny X.K t (ts.map Value.type) = some k → Q (.bl k) H → ∃ r, CallR X (.builtin "isinstance") r ∧ r [xv, .ref tp] H Q := by
              intro t k ty kk q
              have sq := Rep.sqT (P := fun _ => none) B ha
              rcases sq with (sq | ⟨o, sq⟩) | ⟨o, its, n, h1, h2, h3, h4, h5⟩
              · exact ⟨_, call_isiT, _, tp, _, t, _, k, rfl, sq, by rw [ev]; exact clsV_tys ts, ty, kk, q⟩
              · rcases ha with ha | ha
                · have z : H tp = some (.tup vs2) := by
                    obtain ⟨P, qq, BB⟩ := id B
                    have := BB.h.fh _ _ ha
                    rwa [if_neg (by simp [isDict])] at this
                  rw [z] at sq; cases sq
                · rcases ha with (ha | ⟨o', ha⟩) | ⟨o, its, n, h1, h2, h3, h4, h5⟩
                  · cases ha
                  · cases ha
                  · obtain ⟨oc, od, dt, sl⟩ := o
                    simp only at h2 h3
                    subst h2 h3
                    have e2 : its.toList = ts.map Value.type := vals_tys (by rw [← ev]; exact h5)
                    refine ⟨_, call_isiK, _, tp, od, ts.map Value.type, n, sl, t, k, rfl, ?_, ty, kk, q⟩
                    rw [h1, ← e2]
              · obtain ⟨oc, od, dt, sl⟩ := o
                simp only at h2 h3
                subst h2 h3
                have e2 : its.toList = ts.map Value.type := vals_tys (by rw [← ev]; exact h5)
                refine ⟨_, call_isiK, _, tp, od, ts.map Value.type, n, sl, t, k, rfl, ?_, ty, kk, q⟩
                rw [h1, ← e2]
            cases ht : tyD x b.g with
            | none => rw [ht] at h; exact h.elim
            | some t =>
              rw [ht] at h
              cases t with
              | inl n =>
                obtain ⟨t1, t2⟩ := tyX_of B rx ht fun c e => nomatch e
                exact fin _ _ t1 (kitsB'_ok (hs n (t2 n rfl))) (h.now B (.bl _))
              | inr y =>
                dsimp only at h
                cases ek : own.lookup y with
                | none => rw [ek] at h; exact h.elim
                | some k =>
                  rw [ek] at h
                  obtain ⟨c1, c2⟩ := ho _ (lookup_mem' ek)
                  obtain ⟨t1, _⟩ := tyX_of B rx ht fun c e => by cases e; exact c1
                  exact fin _ _ t1 c2 (h.now B (.bl _))
    · exact h.elim
  · exact h.elim
/-! ### x op= e, ints -/
def augV (n : Nat) (f : Int → Int → Int) (me : M D) : M Fl := fun b => match b.t[n]? with
  | some (some (.val (.int i))) => M.bind me (fun d b => match d with
    | .int j => .ok .nx { b with t := b.t.set n (some (.val (.int (f i j)))) }
    | _ => .fail) b
  | _ => .fail
theorem ss_aug {n : Nat} {x : Str} {pos' : Pos} {op : Operator} {f : Int → Int → Int} (hN : X.N.Nodup) (ho : PIp X op (ipI f)) (he : SE X W e me) (hi : X.N[n]? = some x := by rfl) (hx : Loc X.env.scope x := by first | exact Or.inl rfl | exact Or.inr rfl)
    (hf : X.fn x = true ∨ X.env.scope.names.lookup x = some .local := by first | exact .inl rfl | exact .inr rfl | assumption) : SS X W (.AugAssign (.Name x pos') op e pos) (augV n f me) :=
  SS.of (ps_aug hN hi hx he ho hf) fun σ H F P0 Mm ρ b D B q => by
    unfold augV at q
    split at q
    · rename_i i e0
      obtain ⟨v, hv⟩ := B.slotV e0
      have rv := B.valV e0 hv
      cases rv
      refine ⟨_, hv, sM_then B q fun y d F1 M1 r1 b1 H1 l1 e1 B1 q1 h1 => ?_⟩
      cases q1 with
      | int j => exact ⟨i, j, rfl, rfl, PostS.nxt (W := W) h1 (B1.setV n (.int _))⟩
      | _ => exact h1.elim
    · exact q.elim
/-! ### o.f op= e, ints -/
def faugM (c f : Str) (g : Int → Int → Int) (mo me : M D) : M Fl := M.bind mo fun x => fun b => match x with
  | .ptr k => (match b.g.S k with
    | some (.ins c' fs) => if c' = c then (match fs.lookup f with
      | some (.int i) => M.bind me (fun y b => match y, b.g.S k with
        | .int j, some (.ins c2 fs2) => if c2 = c ∧ fs2.length < 1000 then .ok .nx { b with g := b.g.put k (.ins c (dputF f (.int (g i j)) fs2)) } else .fail
        | _, _ => .fail) b
      | _ => .fail) else .fail
    | _ => .fail)
  | _ => .fail
theorem ss_faug {c f : Str} {tpos : Pos} {op : Operator} {g : Int → Int → Int} (hop : InOp X op (fun x y H Q => ∃ i j, x = .int i ∧ y = .int j ∧ Q (.int (g i j)) H)) (ho : SE X W o mo) (he : SE X W e me) (cl : Cls X.K (ga X.K c)) (na : NoAttr X.K (ga X.K c) f) :
    SS X W (.AugAssign (.Attribute o f tpos) op e pos) (faugM c f g mo me) :=
  SS.of (ps_fldaug ho he hop) fun σ H F P0 Mm ρ b D B q => sM_then B q fun x d F1 M1 r1 b1 H1 l1 e1 B1 q1 h1 => by
    cases q1 with
    | ptr hk =>
      rename_i a k
      dsimp only at h1
      cases es : b1.g.S k with
      | none => rw [es] at h1; exact h1.elim
      | some so =>
        rw [es] at h1
        cases so with
        | ins c' fs =>
          dsimp only at h1
          by_cases hc : c' = c
          · rw [if_pos hc] at h1
            subst hc
            obtain ⟨P, qq, BB⟩ := id B1
            obtain ⟨a', dx, vs, y1, y2, y3, y4, y5, y6⟩ := BB.h.insAt es
            rw [hk] at y1; cases y1
            cases el : fs.lookup f with
            | none => rw [el] at h1; exact h1.elim
            | some dv =>
              rw [el] at h1
              obtain ⟨v, lv, rv⟩ := (fs_find (f := f) y5 y6).1 _ el
              cases dv with
              | int i =>
                cases rv
                refine ⟨a, _, dx, vs, _, rfl, y4, cl, na, lv, sM_then B1 h1 fun y d2 F2 M2 r2 b2 H2 l2 e2 B2 q2 h2 => ?_⟩
                cases q2 with
                | int j =>
                  refine ⟨i, j, rfl, rfl, ?_⟩
                  cases es2 : b2.g.S k with
                  | none => rw [es2] at h2; exact h2.elim
                  | some so2 =>
                    rw [es2] at h2
                    cases so2 with
                    | ins c2 fs2 =>
                      dsimp only at h2
                      by_cases hc2 : c2 = c' ∧ fs2.length < 1000
                      · rw [if_pos hc2] at h2
                        obtain ⟨hc2, hz⟩ := hc2
                        subst hc2
                        obtain ⟨P, q, BB⟩ := B2
                        obtain ⟨a', dx2, vs2, z1, z2, z3, z4, z5, z6⟩ := BB.h.insAt es2
                        rw [e2.p _ _ hk] at z1; cases z1
                        have hl : vs2.length = fs2.length := by have := congrArg List.length z5; simpa using this
                        obtain ⟨w1, w2⟩ := fs_put (f := f) (Rep.int (K := X.K) (F := F2) (ρ := r2) (g i j)) z5 z6
                        exact ⟨dx2, vs2, z4, by rw [hl]; exact hz, PostS.nxt (W := W) h2 ⟨P, q, BB.h.putI es2 (e2.p _ _ hk) z2 z3 w1 w2, BB.pp, BB.len, BB.qi, BB.sl⟩⟩
                      · rw [if_neg hc2] at h2; exact h2.elim
                    | _ => exact h2.elim
                | _ => cases b2.g.S k <;> exact h2.elim
              | _ => exact h1.elim
          · rw [if_neg hc] at h1; exact h1.elim
        | _ => exact h1.elim
    | _ => exact h1.elim
end
end L2.VI
/-! VI19: repr of lists and tuples: it wants to know that no repr is under way, so the defs that use it promise a little less. -/
namespace L2.VI
open PySem PySem.Spec PyProof.Rows He
/-- a def's promise where no repr is under way -/
structure FnG (P : Program) (w : World) (K : PySem.W.Frag) (mg : Str → Option Value) (base : Heap) (k : Nat) (f : Addr) (fd : FuncData) (ps : List Str) (sp : Sp) : Prop where
  n : ∀ zs G R T, sp zs G R T → zs.length = ps.length
  go : ∀ {A : Around}, A.guards = some [] → ∀ (o : List Env) (s : Shared) (G : Hp) (as : Args) (ws : List Value) (zs : List V) (R : VK) (T : XK), Room k A → Env0 P w K mg base A o s G → BindsTo s fd as (ps.zip ws) → Vals zs ws → sp zs G R T →
    codeAny (model P w) A (.call (.ref f) as) (CR (CV P w) o P w G s R T) s
theorem FnG.of {P : Program} {w : World} {K : PySem.W.Frag} {mg : Str → Option Value} {base : Heap} {k : Nat} {f : Addr} {fd : FuncData} {ps : List Str} {sp : Sp} (F : FnOk P w K mg base (CV P w) k f fd ps sp) : FnG P w K mg base k f fd ps sp :=
  ⟨F.len, fun _ o s G as ws zs R T hr e b v h => F.run _ o s G as ws zs R T hr e b v h⟩
section
variable {P : Program} {w : World} {K : PySem.W.Frag} {mg : Str → Option Value} {base : Heap} {x qual : Str} {params : Arguments} {body : List Stmt} {scope : Scope} {dvs : List V} {kws : List (Str × V)} {f : Addr} {fd : FuncData}
theorem fnG_of {N ps : List Str} {k : Nat} {sp : Sp} (F : FunD K x qual params body scope dvs kws f fd) (S : FnScope N ps scope) (len : ∀ zs G R T, sp zs G R T → zs.length = ps.length)
    (hb : ∀ (cdv : Value) (A : Around) (o : List Env) (s : Shared) (G : Hp) (zs : List V) (R : VK) (T : XK), A.guards = some [] → Room k (A.deeper (envOfC qual scope s.heap.objs.size f cdv)) → sp zs G R T →
      ∃ t, PSs (cxOf (CV P w) P w K mg base N qual scope f cdv A o s G T) body t ∧ t { nx := fun _ G' => R .non G', rt := R } (L2.start N zs) G) : FnG P w K mg base (k + 1) f fd ps sp := by
  obtain ⟨oc, od, dV, kV, doc, pm, an, cdv, ct, osl, rfl, lk, hcd, _, _⟩ := F.ex
  refine ⟨len, ?_⟩
  intro A hA o s G as ws zs R T hr e0 hbind r hsp
  have keepB : ∀ b ob, base.get? b = some ob → s.heap.get? b = some ob := fun b ob e => (e0.bs b ob e).1
  have KS := e0.mod.kin.keeps keepB
  have kinds : ∀ y ∈ ps.zip ws, scope.names.lookup y.1 = some .local ∨ (scope.names.lookup y.1 = some .cell ∧ ((cellsFrom (s.heap.objs.size + 1) scope.names []).lookup y.1).isSome = true) := by
    rintro ⟨n, v⟩ hy
    exact (S.par n (List.of_mem_zip hy).1).imp id fun q => ⟨q, PySem.W.cellsFrom_some _ _ _ (.inl q)⟩
  apply codeAny_call_function hr.depth (KS _ _ lk) rfl S.co S.gen rfl (PySem.W.codeRec_of KS hcd)
  apply hbind
  apply wpAny_newFunctionEnv_cells S.kind kinds
  rintro env rfl s1 ic
  obtain ⟨t, ht, hq⟩ := hb cdv A o s G zs R T hA (hr.deeper _) hsp
  refine ⟨(e0.mod.nolimit.keeps keepB).keeps ic.toInCall.keep, codeAny_func (wpAny_mono (ht.run [] s1 (L2.start N zs) G _ (inv_start S hr.hd e0 (len _ _ _ _ hsp) r ic) hq) ?_ fun e s' z => z)⟩
  intro fl s' z
  cases fl with
  | ret u => obtain ⟨v, σ', G', J, rv, q⟩ := z; exact ⟨v, G', J.os, J.bare, J.base, J.hok, rv, q⟩
  | next => obtain ⟨σ', G', J, q⟩ := z; exact ⟨.non, G', J.os, J.bare, J.base, J.hok, rfl, q⟩
  | brk => obtain ⟨_, _, _, q⟩ := z; exact q.elim
  | cont => obtain ⟨_, _, _, q⟩ := z; exact q.elim
/-- THE RULE of such a def -/
theorem fn_okG {N ps : List Str} {k n sl : Nat} {m : M Fl} (F : FunD K x qual params body scope dvs kws f fd) (S : FnScope N ps scope) (hn : ps.length = n) (hs : N.length = sl)
    (hb : ∀ (cdv : Value) (A : Around) (o : List Env) (s : Shared) (G : Hp) (T : XK), (cxOf (CV P w) P w K mg base N qual scope f cdv A o s G T).A.guards = some [] → Room k (A.deeper (envOfC qual scope s.heap.objs.size f cdv)) → SSs (cxOf (CV P w) P w K mg base N qual scope f cdv A o s G T) (fun cls d _ G => T cls d G) body m) :
    FnG P w K mg base (k + 1) f fd ps (spV K n (fnBody n sl m)) := by
  subst hn hs
  refine fnG_of F S (fun zs G R T h => h.1) fun cdv A o s G zs R T hA hr h => ⟨_, hb cdv A o s G T hA hr, ?_⟩
  obtain ⟨hl, F0, P0, Mm, ρ, g, ds, hR, r, q⟩ := h
  have hd : ds.length = ps.length := r.length.symm.trans hl
  refine ⟨F0, P0, Mm, ρ, _, BRel.start (N := N) hR r, ?_⟩
  unfold fnBody at q
  rw [if_pos hd, ← hd] at q
  generalize m ⟨g, ds.map (fun d => some (Slot.val d)) ++ List.replicate (N.length - ds.length) none⟩ = z at q ⊢
  rcases z with ⟨fl, b⟩ | ⟨e, b⟩ | _
  · rcases fl with _ | _ | _ | d
    · exact fun σ' F' M' ρ' H' l r' B' => q .non F' M' ρ' H' l r' B'.weak .non
    all_goals first | exact q.elim | exact fun v σ' F' M' ρ' H' l r' B' rv => q v F' M' ρ' H' l r' B'.weak rv
  · exact fun cls d σ' F' M' ρ' H' l r' B' rx => q cls d F' M' ρ' H' l r' B'.weak rx
  · exact q.elim
end
/-! ### calls of such defs -/
section
variable {X : Cx} {W : WX} {k : Nat} {f : Addr} {fd : FuncData} {ps : List Str} {n : Nat} {m : FnD} {x : Str} {p pos : Pos} {e : Expr} {es : List Expr} {mas : M (List D)} {sp : Sp} {T : St → XK} {t : TA}
theorem pe_callG (F : FnG X.prog X.w X.K X.mg X.base k f fd ps sp) (hA : X.A.guards = some []) (hr : Room k X.A) (hg : Gl X x) (hm : X.mg x = some (.ref f)) (hk : PySem.W.keepIn X.K (.ref f) = true) (hb : Binds X.K fd ps []) (hx : ∀ σ, PassesAt (CV X.prog X.w) X σ (T σ))
    (ha : PA X (e :: es) t) (hdb : (x == ("__debug__" : Str)) = false) (he : starEach (e :: es) X.env = (false, eval e X.env) :: starEach es X.env) (hpl : (backTo pos (starEach es X.env)).any (·.1) = false) : PE X (.Call (.Name x p) (e :: es) [] pos) (tCallSD sp [] T t) := by
  constructor
  intro pins s σ H Q I h
  apply wpAny_Call_Name_kw
  apply ld_glob I hg hm _ hdb
  refine PySem.W.callWith_K (h₀ := X.base) I.ok.mod.kin hk (thn (ha.run pos pins s σ H _ I h) ?_) he hpl
  rintro ws s1 ⟨zs, H1, J, r, q⟩
  rw [List.append_nil] at q
  have hl : (ws ++ []).length = ps.length := by rw [List.append_nil, ← r.length]; exact F.n _ _ _ _ q
  have hbind := hb s1 ws J.kIn hl
  rw [List.append_nil] at hbind
  refine ⟨J.kIn, wpAny_call (codeAny_mono (F.go hA X.stack s1 H1 ⟨ws, []⟩ ws zs Q (T σ) hr J.env0 hbind r q) ?_)⟩
  rintro (er | fl) s' z
  · exact hx σ pins H1 s1 er s' J z
  · cases fl with
    | ret u => exact J.after z
    | _ => exact False.elim z
theorem se_callG (tk : Takes X W) (F : FnG X.prog X.w X.K X.mg X.base k f fd ps (spV X.K n m)) (hA : X.A.guards = some []) (ar : Ar m n) (hr : Room k X.A) (hm : X.mg x = some (.ref f)) (hk : PySem.W.keepIn X.K (.ref f) = true) (hb : Binds X.K fd ps [])
    (ha : SA X W (e :: es) mas) (hg : Gl X x := by rfl) (hdb : (x == ("__debug__" : Str)) = false := by decide) (he : starEach (e :: es) X.env = (false, eval e X.env) :: starEach es X.env := by rfl) (hpl : (backTo pos (starEach es X.env)).any (·.1) = false := by rfl) :
    SE X W (.Call (.Name x p) (e :: es) [] pos) (M.bind mas (callF m)) := by
  refine SE.of (pe_callG (T := WE W) F hA hr hg hm hk hb (fun σ => passAt tk σ) ha hdb he hpl) fun σ H Fz P0 Mm ρ bs Q B q => ?_
  refine tM_then B q fun xs zs F1 M1 r1 b1 H1 l1 e1 B1 q1 h1 => ?_
  rw [List.append_nil]
  exact sp_of ar B1 q1 h1
end
/-! ### repr -/
section
variable {X : Cx} {W : WX} {x y : V}
def shownD (g : GSt) (d : D) : Option Str := match toPy (seeD g d) with
  | some e => if e.showable = true ∧ e.hasDict = false ∧ e.depth ≤ 60 ∧ e.shown.length ≤ sizeLine then some e.shown else none
  | none => none
def D.isSeq : D → Bool
  | .lst _ => true
  | .tup _ => true
  | .ptr _ => true
  | _ => false
def reprG : List D → M D := fun as b => match as with
  | [d] => if d.isSeq = true then (match shownD b.g d with
    | some z => .ok (.str z) b
    | none => .fail) else reprD [d] b
  | _ => .fail
theorem cr_reprG (hA : X.A.guards = some []) (hu : X.A.units + 64 < cLine) : CallR X (.builtin "repr") fun xs H Q => ∃ (a : Addr) (e : PyData), xs = [.ref a] ∧ Dp X.K H (.ref a) e ∧ (e.showable = true ∧ e.hasDict = false ∧ e.depth ≤ 60 ∧ e.shown.length ≤ sizeLine) ∧ Q (.str e.shown) H := by
  rintro pins s σ H xs us Q I r ⟨a, e, rfl, h, ⟨h1, h2, h3, h4⟩, q⟩
  cases r with | cons r rr =>
    cases rr
    cases r
    obtain ⟨as, rd⟩ := Dp.reads I e _ (.ref a) h rfl
    exact repr_of_reads' rd h1 (PyData.noDict_hsm h2) hA (by omega) (fun b o z => z) (fun h' u tk hk => ⟨.str e.shown, H, I.kept hk, ⟨u, rfl⟩, q⟩) h4
theorem dp_see {K : PySem.W.Frag} {F : Hp} {fc : FrC} {P0 : PX fc} {Mm H : Hp} {ρ : Rho} {b : BSt} {σ : St} {v : V} {d : D} {e : PyData} (B : BRel K F P0 Mm ρ b σ H) (r : Rep K F ρ v d) (h : toPy (seeD b.g d) = some e) : Dp K H v e := by
  cases r with
  | ptr hk =>
    rename_i p j
    unfold seeD at h
    dsimp only at h
    split at h
    · rename_i ds eS
      obtain ⟨P, q, BB⟩ := id B
      obtain ⟨a', h1, vs, h2, h3⟩ := BB.h.st j _ eS
      rw [hk] at h1; cases h1
      unfold toPy at h
      cases e3 : toPyAll ds with
      | none => rw [e3] at h; cases h
      | some es =>
        rw [e3] at h; cases h
        exact .lst (SqL.of (BB.h.mh _ _ h2)) (RepAll.dp B h3 e3)
    · simp [toPy] at h
  | non => exact Rep.dp B .non h
  | bl i => exact Rep.dp B (.bl i) h
  | int i => exact Rep.dp B (.int i) h
  | str i => exact Rep.dp B (.str i) h
  | ty i => exact Rep.dp B (.ty i) h
  | glo i => exact Rep.dp B (.glo i) h
  | tup h1 h2 => exact Rep.dp B (.tup h1 h2) h
  | lst h1 h2 => exact Rep.dp B (.lst h1 h2) h
  | dic h1 h2 h3 => exact Rep.dp B (.dic h1 h2 h3) h
  | scr h1 => exact Rep.dp B (.scr h1) h
  | xob h1 h2 h3 h4 => exact Rep.dp B (.xob h1 h2 h3 h4) h
  | xob0 h1 => exact Rep.dp B (.xob0 h1) h
  | lam h1 h2 h3 h4 => exact Rep.dp B (.lam h1 h2 h3 h4) h
theorem Rep.ref_of {K : PySem.W.Frag} {F : Hp} {ρ : Rho} {v : V} {d : D} (r : Rep K F ρ v d) (h : d.isSeq = true) : ∃ a, v = .ref a := by
  cases r <;> first | exact ⟨_, rfl⟩ | exact absurd h Bool.false_ne_true
theorem cv_reprG {k : Nat} (hA : X.A.guards = some []) (hr : Room k X.A) : CallV X W (.builtin "repr") reprG := by
  intro xs as σ H F P0 Mm ρ b Q B r h
  unfold reprG at h
  split at h
  · rename_i d
    split at h
    · rename_i hd
      cases es : shownD b.g d with
      | none => rw [es] at h; exact h.elim
      | some z =>
        rw [es] at h
        unfold shownD at es
        cases ep : toPy (seeD b.g d) with
        | none => rw [ep] at es; cases es
        | some e =>
          rw [ep] at es
          dsimp only at es
          split at es
          · rename_i ok
            cases es
            cases r with | cons r rr =>
            cases rr
            obtain ⟨a, rfl⟩ := r.ref_of hd
            exact ⟨_, cr_reprG hA hr.units, a, e, rfl, dp_see B r ep, ok, h.now B (.str _)⟩
          · cases es
    · exact cv_repr _ _ _ _ _ _ _ _ _ _ B r h
  · exact h.elim
end
/-! ### the law's end -/
/-- the law's promise at its heap: only the script may be tracked -/
theorem law_callG {P : Program} {w : World} {K : PySem.W.Frag} {mg mb : Str → Option Value} {k : Nat} {af a : Addr} {fd : FuncData} {x : Str} {sp : Sp} {t : Shared} {us : List Value} {is : List Int}
    (KX : K.In t.heap) (hns : t.heap.Ns mainGlobals mg) (hb : t.heap.Ns builtinsNs mb) (hbb : ∀ x : Str, x ≠ "__name__" → mb x = bootBuiltins x) (hlim : t.heap.NoLimit) (hg : t.gens = #[]) (ha : t.heap.get? a = some { cls := .type "list", data := .seq us.toArray })
    (hi : IntsAre us is) (hl : is.length ≤ sizeLine) (hr : Room k callerA) (F : ∀ base : Heap, K.In base → base.Ns mainGlobals mg → FnG P w K mg base k af fd [x] sp) (hbind : ∀ (s : Shared) (u : Value), BindsTo s fd ⟨[u], []⟩ [(x, u)])
    (hsp : ∀ H : Hp, Only H → SqL K H a (is.map V.int) → sp [.ref a] H (fun v _ => v = .bl true) fun _ _ _ => False) (hCX : ∀ H e s', CV P w [] H t (fun _ _ _ => False) e s' → False) :
    codeAny (model P w) callerA (.call (.ref af) ⟨[.ref a], []⟩) (fun r s' => r = .ok (.ret (.bool true)) ∧ OldK t.heap s'.heap ∧ s'.os = t.os ∧ AllBare s'.gens) t := by
  have rv := vals_ints hi
  suffices core : ∃ H : Hp, Only H ∧ SqL K H a (is.map V.int) ∧ HOk P w H t.heap ∧ (∀ b, H b ≠ none → b = a ∧ K.lookup a = none) by
    obtain ⟨H, hO, hS, hok, hA⟩ := core
    have free : ∀ b, b ≠ a → H b = none := fun b hb => Classical.byContradiction fun z => hb (hA b z).1
    have hid : ∀ {b : Addr} {o : Obj}, t.heap.get? b = some o → H b = none → (hidT t.heap H).get? b = some o := fun e n => hidT_get e n
    have nsK : ∀ {b : Addr} {m : Str → Option Value}, t.heap.Ns b m → (hidT t.heap H).Ns b m := by
      rintro b m ⟨o, es, ep, e, d, r⟩
      refine ⟨o, es, ep, hid e (free b ?_), d, r⟩
      rintro rfl
      rw [ha] at e
      cases e
      cases d
    have KB : K.In (hidT t.heap H) := fun b o e => hid (KX b o e) (Classical.byContradiction fun z => by
      obtain ⟨rfl, n⟩ := hA b z
      rw [n] at e; cases e)
    obtain ⟨mc, l1, l2⟩ := hlim
    have E : Env0 P w K mg (hidT t.heap H) callerA [] t H := ⟨rfl, ⟨KB, nsK hns, ⟨mb, nsK hb, hbb⟩, ⟨mc, nsK l1, l2⟩⟩, fun b o e => of_hidT e, Nat.le_of_eq (hidT_size _ _), trivial, fun b z => (nomatch (show b ∈ ([] : List Addr) from z)), hok, .of_eq hg⟩
    refine codeAny_mono ((F _ KB (nsK hns)).go rfl [] t H ⟨[.ref a], []⟩ [.ref a] [.ref a] _ _ hr E (hbind t (.ref a)) (.cons rfl .nil) (hsp H hO hS)) ?_
    rintro (e | fl) s' z
    · exact (hCX H e s' z).elim
    · cases fl with
      | ret u =>
        obtain ⟨v, H', os, bare, un, hok', r', rfl⟩ := z
        obtain rfl : u = Value.bool true := r'
        refine ⟨rfl, OldK.of_keep fun b o e => ?_, os, bare⟩
        rcases hO b with n | ⟨ob, xs, n⟩
        · exact un.keep b o e n (fun z => by cases (show b ∈ ([] : List Addr) from z)) (by simp)
        · obtain ⟨e1, _⟩ := hok b _ n
          obtain ⟨e2, _⟩ := hok' b _ (un.frzs b ob _ n)
          rw [e] at e1
          cases e1
          exact e2
      | _ => exact False.elim z
  cases hk : K.lookup a with
  | some o =>
    have e := KX a o hk
    rw [ha] at e
    cases e
    exact ⟨fun _ => none, fun _ => .inl rfl, .inr ⟨_, us.toArray, _, hk, rfl, rfl, rfl, by rw [List.size_toArray, hi.length]; exact hl, by simpa using rv⟩, fun b u z => (by cases (show (none : Option HO) = some u from z)), fun b z => absurd rfl z⟩
  | none =>
    let o : Obj := { cls := .type "list", data := .seq us.toArray }
    have yes : ∀ b, b = a → (fun b => if b = a then some (HO.frz o (.lst (is.map V.int))) else none) b = some (HO.frz o (.lst (is.map V.int))) := fun b h => if_pos h
    have no : ∀ b, b ≠ a → (fun b => if b = a then some (HO.frz o (.lst (is.map V.int))) else none) b = none := fun b h => if_neg h
    refine ⟨fun b => if b = a then some (.frz o (.lst (is.map V.int))) else none, fun b => ?_, .inl (.inr ⟨o, yes a rfl⟩), fun b u z => ?_, fun b z => ?_⟩
    · by_cases h : b = a
      · exact .inr ⟨_, _, yes b h⟩
      · exact .inl (no b h)
    · by_cases h : b = a
      · have z2 := (yes b h).symm.trans z
        cases z2
        subst h
        exact ⟨ha, by rw [List.length_map]; exact hl, us, _, rv, ha⟩
      · have z2 := (no b h).symm.trans z
        cases z2
    · by_cases h : b = a
      · exact ⟨h, rfl⟩
      · exact (z (no b h)).elim
def LawG (l : PySem.W.OpenLaw) (wo : World) (lv n : Nat) (x : Str) (gm : Str → Option Value) (af : Addr) (K : PySem.W.Frag) (law : FnD) : Prop :=
  ∃ fd : FuncData, (∀ (t : Shared) (u : Value), BindsTo t fd ⟨[u], []⟩ [(x, u)]) ∧ (∀ ns : List Int, ns.length ≤ n → ∃ g', law [.scr ns] ⟨fun _ => none, 0⟩ = .ok (.bl true) g') ∧
    ∀ bs : Heap, K.In bs → bs.Ns mainGlobals gm → FnG l.prog wo K gm bs lv af fd [x] (spV K 1 law)
theorem walkG {l : PySem.W.OpenLaw} {n lv : Nat} {vw : Program} {ls : List Str} {XP : (Str → Option Value) → Heap → Prop} {YP : World → Heap → Prop} {d : DefRec} {x : Str} {law : FnD} (hn : l.most = some n) (hz : n ≤ sizeLine) (hd : d.params.defaults = []) (hr : Room lv callerA)
    (hF : ∀ (wo : World) (gm : Str → Option Value) (af : Addr) (hp : Heap), YP wo hp → hp.Ns mainGlobals gm → gm d.name = some (.ref af) → ∃ K : PySem.W.Frag, K.In hp ∧ LawG l wo lv n x gm af K law) :
    PySem.W.WalkO vw ls XP YP l.row.toRowW d [] (fun g us => PySem.call g us) := by
  refine Att.attach_call hn hd ?_
  intro wo t0 t1 gm bm af ob pv cv dc al us is GG YY h1 h2 h3 h4 h5 h6 h7 h8
  obtain ⟨K, hK, fd, b, e, f⟩ := hF wo gm af _ YY GG.T.g h4
  have cx : ∀ (H : Hp) (u : Value) (t : Shared), CV l.prog wo [] H t1 (fun _ _ _ => False) u t → False := fun H u t ⟨_, _, _, _, _, _, _, _, _, _, _, _, z⟩ => z
  exact law_callG hK GG.T.g GG.T.b GG.T.builtins GG.T.nolimit h8 h5 h6 (Nat.le_trans h7 hz) hr f b (fun H hO hS => sp_law hO hS (e is h7)) cx
end L2.VI
/-! VI20: an own exception class whose __init__ says super().__init__(a text) and keeps its one parameter. -/
namespace L2.VI.Sup
open PySem PySem.W PySem.Calls PySem.Spec PyProof.Rows
section
variable {P : Program} {w : World} {A : Around} {R : Result → Shared → Prop} {K : Frag}
/-- the bound ValueError.__init__, called: the args are laid anew -/
theorem bound_call {C e q t0 : Addr} {rest : List Value} {E : Value → Shared → Prop} {Q : Value → Shared → Prop} {h : Heap} {g : Array GenState} {d : Drawn} {t : Nat} {os : OsState}
    {nm qn : Str} {N : Addr} {bs bm : List Value} {hd : Bool} {sn : List Str} {sub : List Value} {ab : Bool} {col : Option Bool} {dd : Option Addr} {k0 k1 k2 k3 k5 : Option Value}
    (hC : h.get? C = some (excClassObj nm qn C N bs bm hd sn sub ab col dd k0 k1 k2 k3 k5 "ValueError.__new__")) (he : h.get? e = some (HandSPX.excO C t0)) (hq : h.get? q = some (kxs_mw "ValueError.__init__" e)) (hz : rest.length ≤ sizeLine)
    (fin : ∀ h' t1, (∀ b o, b ≠ e → h.get? b = some o → h'.get? b = some o) → h'.get? e = some (HandSPX.excO C t1) → Q .none ⟨h', g, d, t, os⟩) : wpAny (model P w) A (call (.ref q) rest) Q E ⟨h, g, d, t, os⟩ := by
  have c1 : (Value.type "method-wrapper" == Value.type "method" || Value.type "method-wrapper" == Value.type "builtin_function_or_method" || Value.type "method-wrapper" == Value.type "method-wrapper") = true := by decide
  refine wpAny_call (codeAny_of_tree (show wpAny _ A.in1 (callAny (.ref q) ⟨rest, []⟩) _ _ _ from ?_))
  simp only [callAny]
  refine wpAny_bind (wpAny_load hq ?_)
  simp only [kxs_mw, c1, if_true]
  refine KFB.if_so (by decide) (wpAny_bind (check_bound_init F.excBase_ValueError.toExcCallFacts hC he rfl (wpAny_bind (wpAny_pure (wpAny_pure ?_)))))
  refine ⟨plainId_quiet F.excBase_ValueError.init.plain _, codeAny_builtin F.excBase_ValueError.initEntry (exc_init_tree (cls := .ref C) (t0 := t0) (dv := none) (c2 := .none) (c3 := .none) (b4 := .bool false) he hz ?_)⟩
  exact fun h' k x _ => fin h' _ k x
/-- what is known of such a class C, its __init__ at fI -/
structure SupC (P : Program) (K : Frag) (C fI : Addr) (slf prm f : Str) (fd : FuncData) : Prop where
  ex : ∃ (name qual msg file : Str) (params : Arguments) (scope : Scope) (dV kV doc pm ct oc : Value) (an od : Option Addr) (osl : Array (Option Value)) (cc cda : Addr) (k : Nat) (p0 p1 p2 p3 p4 p5 p6 p7 p8 p9 : Pos) (ccl cl : Value) (cdd cld : Option Addr) (vs ccs' : Array Value) (ccs csl : Array (Option Value)) (tf : Tok) (ar : Arg),
    fd = ksFn name qual params [.Expr (.Call (.Attribute (.Call (.Name "super" p0) [] [] p1) "__init__" p2) [.Constant (.str msg) k p3] [] p4) p5, .Assign [.Attribute (.Name slf p6) f p7] (.Name prm p8) p9] scope dV kV doc pm an (.ref cda) ct cc ∧
    K.lookup fI = some ⟨oc, od, .func fd, osl⟩ ∧ codeIn K (.ref cda) qual = true ∧ K.lookup cda = some ⟨ccl, cdd, .fields vs, ccs⟩ ∧ vs[2]? = some (.str file tf) ∧ ((P.main.file : Str) == file) = true ∧ K.lookup cc = some ⟨cl, cld, .cell (some (.ref C)), csl⟩ ∧
    (params.posonlyargs ++ params.args).head? = some ar ∧ ar.arg = slf ∧ scope.names.lookup ("super" : Str) = some .globalImplicit ∧ scope.names.lookup ("__class__" : Str) = some .free ∧ scope.names.lookup slf = some .local ∧ scope.names.lookup prm = some .local ∧ scope.kind = .function ∧
    (∀ x ∈ scope.names, x.2 ≠ .cell) ∧ scope.isCoroutine = false ∧ scope.isGenerator = false ∧ (p2.endLine == p4.line) = true
  ne : (slf == prm) = false
  dslf : (slf == ("__debug__" : Str)) = false
  dprm : (prm == ("__debug__" : Str)) = false
  cls : ∃ nm q N bs bm sn sub ab col dd k0 k1 k2 k3 k5, K.lookup C = some (excClassObj nm q C N bs bm true sn sub ab col dd k0 k1 k2 k3 k5 "ValueError.__new__") ∧ HandSPX.refsVE bm = true ∧ alongIn K "__init__" bm = some (some (.builtin "ValueError.__init__"))
  sa : findIn K (.ref C) "__setattr__" = some (some (.builtin "object.__setattr__"))
  no : findIn K (.ref C) f = some none
  sub : mroIn K C (.ref C) = some true
  subVE : subIn K (.ref C) (.type "ValueError") = some true
  tp : nsIn K cStatics "thirdparty.any" = some none
  su : nsIn K mainGlobals "super" = some none
  top : (P.main.scope.names.lookup ("super" : Str)).isSome = false
theorem call_form {env : Env} {p0 p1 p2 p3 p4 : Pos} {msg : Str} {k : Nat} (hl : (p2.endLine == p4.line) = true) : eval (.Call (.Attribute (.Call (.Name "super" p0) [] [] p1) "__init__" p2) [.Constant (.str msg) k p3] [] p4) env = (do
    let ov ← attributeBase (.Call (.Name "super" p0) [] [] p1) "__init__" env (eval (.Call (.Name "super" p0) [] [] p1) env)
    standAt p2.atName
    let (f, first) ← holding [ov] (getMethod ov "__init__" (do return (← importBound (.Call (.Name "super" p0) [] [] p1) env).getD true))
    callWith p4 f first (backTo p4 (starEach [.Constant (.str msg) k p3] env)) []) := by
  have hm : ∀ ov, methodCall (.Call (.Name "super" p0) [] [] p1) "__init__" p2 p4 env ov 1 (backTo p4 (starEach [.Constant (.str msg) k p3] env)) [] = (do
      let (f, first) ← holding [ov] (getMethod ov "__init__" (do return (← importBound (.Call (.Name "super" p0) [] [] p1) env).getD true))
      callWith p4 f first (backTo p4 (starEach [.Constant (.str msg) k p3] env)) []) := fun ov => by
    unfold methodCall
    rw [show methodCallForm 1 (backTo p4 (starEach [.Constant (.str msg) k p3] env)) [] = true from rfl]
    unfold methodCallPos calleeOf
    simp only [hl, Bool.not_true, Bool.false_or, if_true, pure_bind]
  show (do
    let ov ← attributeBase (.Call (.Name "super" p0) [] [] p1) "__init__" env (eval (.Call (.Name "super" p0) [] [] p1) env)
    standAt p2.atName
    methodCall (.Call (.Name "super" p0) [] [] p1) "__init__" p2 p4 env ov 1 (backTo p4 (starEach [.Constant (.str msg) k p3] env)) []) = _
  simp only [hm]
theorem sup_run {C fI e t0 : Addr} {slf prm f : Str} {fd : FuncData} {u : Value} {mg mb : Str → Option Value} {h : Heap} {g : Array GenState} {d : Drawn} {t : Nat} {os : OsState} (S : SupC P K C fI slf prm f fd) (X : K.In h) (room : A.depth < recursionLimit) (lim : h.NoLimit)
    (hns : h.Ns mainGlobals mg) (hb : h.Ns builtinsNs mb) (hbb : ∀ x : Str, x ≠ "__name__" → mb x = bootBuiltins x) (he : h.get? e = some (HandSPX.excO C t0)) (nK : K.lookup e = none) (bind : BindsTo ⟨h, g, d, t, os⟩ fd ⟨[.ref e, u], []⟩ [(slf, .ref e), (prm, u)])
    (fin : ∀ h' t1 tk dx, (∀ b o, b ≠ e → h.get? b = some o → h'.get? b = some o) → h.objs.size ≤ dx → dx ≠ e → h'.get? e = some { cls := .ref C, dict := some dx, data := .fields #[.ref t1, .none, .none, .none, .bool false, .none] } → h'.Ns1 dx (fun y => if y = f then some u else none) → R (.ok (.ret .none)) ⟨h', g, d, tk, os⟩) :
    codeAny (model P w) A (.call (.ref fI) ⟨[.ref e, u], []⟩) R ⟨h, g, d, t, os⟩ := by
  obtain ⟨name, qual, msg, file, params, scope, dV, kV, doc, pm, ct, oc, an, od, osl, cc, cda, k, p0, p1, p2, p3, p4, p5, p6, p7, p8, p9, ccl, cl, cdd, cld, vs, _, ccs, csl, tf, ar, rfl, lk, hcd, lcd, hvs, hfile, lcc, hpar, har, kS, kC, kslf, kprm, kf, ncell, nco, ngen, hln⟩ := S.ex
  obtain ⟨nm, q, N, bs, bm, sn, sub, ab, col, dd, k0, k1, k2, k3, k5, lC, hbm, hal⟩ := S.cls
  cases scope
  dsimp only at kf kS kC kslf kprm ncell nco ngen
  subst kf
  have hcl : clsIn K C = some { name := nm, bases := bs, mro := .ref C :: bm, ns := N, qualname := q, hasDict := true, slotNames := sn, subclasses := sub, abstract := ab, collection := col, hasDel := false } := by unfold clsIn; rw [lC] <;> rfl
  have eC : e ≠ C := fun z => by
    have y := X _ _ lC
    rw [← z, he] at y
    cases y
  have lk2 : ([(slf, Value.ref e), (prm, u)].reverse.lookup slf) = some (.ref e) := by simp [List.lookup, S.ne]
  have lk3 : ([(slf, Value.ref e), (prm, u)].reverse.lookup prm) = some u := by simp [List.lookup]
  refine ks_codeAny_call_defAt (body := [.Expr (.Call (.Attribute (.Call (.Name "super" p0) [] [] p1) "__init__" p2) [.Constant (.str msg) k p3] [] p4) p5, .Assign [.Attribute (.Name slf p6) f p7] (.Name prm p8) p9]) (binds := [(slf, .ref e), (prm, u)]) room (X _ _ lk) rfl lim (codeRec_of X hcd) rfl bind ncell
    (fun y hy => by simp only [List.mem_cons, List.not_mem_nil, or_false] at hy; rcases hy with rfl | rfl <;> assumption) (fun h1 hL kk1 => ?_) nco ngen rfl
  have X1 : K.In h1 := X.keeps kk1
  refine ks_wpAt_execs_cons (ks_wpAt_Expr_any (ks_wpAt_MethodCall ?_ (call_form hln)))
  refine ks_wpAt_super_base (ar := ar) (vs := vs) (file := file) (tf := tf) kS kC rfl rfl (X1 _ _ lk) rfl hpar rfl (X1 _ _ lcd) rfl hvs hfile S.top ?_
  refine ks_loadName_global rfl kS (loadGlobal_builtin (hns.keeps kk1) (mg_none_of X hns S.su) (hb.keeps kk1) (hbb _ (by decide +kernel)) ⟨rfl, ?_⟩)
  refine wpAny_loadName_free rfl kC rfl ⟨_, X1 _ _ lcc, rfl⟩ ?_
  refine wpAny_loadName_local (v := .ref e) rfl (by rw [har]; exact kslf) hL (by rw [har]; exact lk2) ?_
  refine ks_wpAny_isType_cls (X1 _ _ lC) rfl ⟨rfl, ?_⟩
  refine ks_wpAny_call_super (X1 _ _ lC) rfl (kk1 _ _ he) rfl (fun c z => by cases z) (looks_mroIn X1 S.sub) (fun h2 e2 kk2 => ?_)
  have X2 : K.In h2 := X1.keeps kk2
  have he2 := kk2 _ _ (kk1 _ _ he)
  have hI : Looks (model P w) h2 (isInstance (.ref e) (.type "ValueError")) true := (show InstAt h2 e (HandSPX.excO C t0) C none from ⟨he2, rfl, rfl, trivial⟩).type.andThen (looks_subIn X2 S.subVE)
  have hM : Looks (model P w) h2 (mroOf (.ref C)) (.ref C :: bm) := fun A Q E s k q => wpAny_bind ((looks_clsIn X2 hcl) A _ E s k (wpAny_pure q))
  have hdr : ((Value.ref C :: bm).dropWhile (· != .ref C)).drop 1 = bm := by simp [List.dropWhile_cons]
  refine kxs_getMethod kxs_ValueError e2 (looks_opaque X2 S.tp) hM hdr X2 hal hI eC rfl ?_
  have kk3 : ∀ b o, h2.get? b = some o → (h2.push (kxs_mw "ValueError.__init__" e)).get? b = some o := fun b o z => Heap.get?_push_of_some _ z
  have hw : (h2.push (kxs_mw "ValueError.__init__" e)).get? h2.objs.size = some (kxs_mw "ValueError.__init__" e) := Heap.get?_push_at rfl rfl
  generalize h2.push (kxs_mw "ValueError.__init__" e) = h3 at kk3 hw ⊢
  have X3 : K.In h3 := X2.keeps kk3
  refine kxs_callWith (i := "ValueError.__init__") (x := e) rfl (evalArgs_plain (PyProof.Rows.spliced_more (rest := []) (wpAny_Constant_str (PyProof.Rows.spliced_none ⟨hw, ?_⟩))))
  refine bound_call (X3 _ _ lC) (kk3 _ _ he2) hw (by show 1 ≤ sizeLine; rw [sizeLine_eq]; decide) fun h4 t1 kk4 he4 => ?_
  have kk : ∀ b o, b ≠ e → h1.get? b = some o → h4.get? b = some o := fun b o z q => kk4 b o z (kk3 _ _ (kk2 _ _ q))
  have eL : h.objs.size ≠ e := Nat.ne_of_gt (Heap.lt_size he)
  obtain ⟨oL, es, ep, hoL, rL⟩ := hL
  have hoL4 := kk _ _ eL hoL
  have hL4 : h4.Ns h.objs.size (fun x => [(slf, Value.ref e), (prm, u)].reverse.lookup x) := ⟨oL, es, ep, hoL4, rL⟩
  have X4 : K.In h4 := fun b o z => kk b o (fun y => by rw [y, nK] at z; cases z) (X1 b o z)
  refine ks_wpAt_execs_cons (ks_wpAt_Assign_Attr (wpAt_of_wpAny (wpAny_Name (wpAny_loadName_local rfl kprm hL4 lk3 (wpAny_Name (wpAny_loadName_local rfl kslf hL4 lk2 ?_) S.dslf)) S.dprm)))
  refine set_plain X4 (ox := HandSPX.excO C t1) (od := none) ⟨he4, rfl, rfl, trivial⟩ S.sa (HandSPX.exc_osa X4 he4 hcl (show HandSPX.refsVE (.ref C :: bm) = true from hbm) rfl S.no fun h5 tk dx k5' dn dne hx hn => ?_)
  refine wpAt_of_wpAny (wpAny_execs_nil (fin h5 t1 tk dx (fun b o z q => k5' b o z (kk b o z (kk1 b o q))) (Nat.le_trans (Nat.le_of_lt (Heap.lt_size hoL4)) dn) dne hx hn))
end
/-! ### such a class, called -/
structure SupM (P : Program) (K : Frag) (C fI : Addr) (slf prm f : Str) (fd : FuncData) : Prop extends SupC P K C fI slf prm f fd where
  exC : subIn K (.ref C) (.type "BaseException") = some true
  tyC : typeIn K (.ref C) = some (.type "type")
  kC : keepIn K (.ref C) = true
  iC : findIn K (.ref C) "__init__" = some (some (.ref fI))
  tI : typeIn K (.ref fI) = some (.type "function")
  bind : ∀ (s : Shared) (a b : Value), BindsTo s fd ⟨[a, b], []⟩ [(slf, a), (prm, b)]
def tSup (C : Addr) (f : Str) (ta : L2.TA) : L2.St → L2.Hp → L2.XK → Prop := fun σ H Q => ta σ H fun vs H1 => ∃ v, vs = [v] ∧ ∀ d, H1 d = none → Q (.ref C) (some d) (L2.upd H1 d (.xd [(f, v)]))
open L2 in
theorem pmk_sup {X : Cx} {C fI : Addr} {slf prm f x : Str} {fd : FuncData} {e : Expr} {p pos : Pos} {ta : TA} (S : SupM X.prog X.K C fI slf prm f fd) (hr : Room (0 + 1) X.A) (hg : Gl X x) (hm : X.mg x = some (.ref C)) (ha : PA X [e] ta)
    (hdb : (x == ("__debug__" : Str)) = false := by decide) (he : starEach [e] X.env = (false, eval e X.env) :: starEach [] X.env := by rfl) (hpl : (backTo pos (starEach [] X.env)).any (·.1) = false := by rfl) : PMk X (.Call (.Name x p) [e] [] pos) (tSup C f ta) := by
  intro pins s σ H Q I h
  obtain ⟨nm, q, N, bs, bm, sn, sub, ab, col, dd, k0, k1, k2, k3, k5, lC, hbm, _⟩ := S.cls
  refine wpAny_Call_Name_kw (ld_glob I hg hm (callWith_K (h₀ := X.base) I.ok.mod.kin S.kC (thn (ha.run pos pins s σ H _ I h) ?_) he hpl) hdb)
  rintro us s1 ⟨_, H1, J1, r1, v, rfl, q1⟩
  refine ⟨J1.kIn, ?_⟩
  cases r1 with | @cons _ u _ _ rv rn =>
  cases rn
  obtain ⟨hp, g, dr, tk, os⟩ := s1
  have KI := J1.kIn
  have kk : ∀ b o, hp.get? b = some o → ((hp.push (kdv_tup [u])).push (HandSPX.excO C hp.objs.size)).get? b = some o := fun b o z => Heap.get?_push_of_some _ (Heap.get?_push_of_some _ z)
  have hget : ((hp.push (kdv_tup [u])).push (HandSPX.excO C hp.objs.size)).get? (hp.objs.size + 1) = some (HandSPX.excO C hp.objs.size) := by heap_get
  have hsz : hp.objs.size ≤ ((hp.push (kdv_tup [u])).push (HandSPX.excO C hp.objs.size)).objs.size := by simp [Heap.push]; omega
  have n1 : H1 (hp.objs.size + 1) = none := J1.hok.fresh (Nat.le_succ _)
  have nK : X.K.lookup (hp.objs.size + 1) = none := by
    cases z : X.K.lookup (hp.objs.size + 1) with
    | none => rfl
    | some o => exact absurd (Heap.lt_size (KI _ _ z)) (by show ¬ (hp.objs.size + 1 < hp.objs.size); omega)
  obtain ⟨mb, hb1, hb2⟩ := J1.ok.mod.blt
  show wpAny _ _ (call (.ref C) [u]) _ _ _
  refine wpAny_call (HandSPX.call_own F.excBase_ValueError (fun Y => HandSPX.refsVE_contains Y bm hbm) (KI _ _ lC) (looks_findIn KI S.iC) (fun self => bind_fn KI self S.tI) (by show 1 ≤ sizeLine; rw [sizeLine_eq]; decide) ?_)
  generalize (hp.push (kdv_tup [u])).push (HandSPX.excO C hp.objs.size) = h1 at kk hget hsz ⊢
  refine sup_run (t0 := hp.objs.size) S.toSupC (KI.keeps kk) (hr.make C [u] []).depth (J1.nolimit.keeps kk) ((J1.ok.mod.glob.keeps J1.bk).keeps kk) ((hb1.keeps J1.bk).keeps kk) hb2 hget nK (S.bind _ _ _) fun h' t1 tk' dx k dn dne hx hn => ⟨rfl, ?_⟩
  obtain ⟨G, g1, g2⟩ := restrict h' fun b => decide (b ≠ hp.objs.size + 1)
  have gk : ∀ b, b ≠ hp.objs.size + 1 → G.get? b = h'.get? b := fun b hb => g1 b (decide_eq_true hb)
  have ge : G.get? (hp.objs.size + 1) = none := g2 _ (by simp)
  have kG : ∀ b o, hp.get? b = some o → G.get? b = some o := fun b o z => by
    have ne : b ≠ hp.objs.size + 1 := Nat.ne_of_lt (Nat.lt_succ_of_lt (Heap.lt_size z))
    rw [gk b ne]
    exact k b o ne (kk b o z)
  have ddn : hp.objs.size ≤ dx := Nat.le_trans hsz dn
  have ok : ObjOk X.prog X.w (upd H1 dx (.xd [(f, v)])) G dx (.xd [(f, v)]) := ⟨_, hn.at fun o y => (gk dx dne).trans y, relO_put (fs := []) rv fun _ => True.intro⟩
  have J : Inv X pins σ (upd H1 dx (.xd [(f, v)])) ⟨G, g, dr, tk', os⟩ := J1.laid (t' := tk') (a := dx) (h' := G) kG ddn ok
  exact ⟨_, _, _, ⟨G, g, dr, tk', os⟩, _, .ref C, some dx, rfl, J, fun b o z => by
    by_cases hb : b = hp.objs.size + 1
    · rw [hb, ge] at z; cases z
    · exact (gk b hb).symm.trans z, ge, hx, ⟨rfl, rfl⟩, rfl, rfl, by rw [upd_ne (Ne.symm dne)]; exact n1, rfl, J1.bare, raises_own S.exC S.tyC, q1 dx (J1.hok.fresh ddn)⟩
end L2.VI.Sup
/-! VI21: raise C(e), C an own class whose __init__ keeps its one parameter. -/
namespace L2.VI
open PySem PySem.Spec PyProof.Rows He
section
variable {X : Cx} {W : WX} {pos p cpos : Pos} {e : Expr} {mas : M (List D)} {c slf prm f : Str} {fI : Addr} {fd : FuncData}
def raiseS (c f : Str) (mas : M (List D)) : M Fl := M.bind mas fun ds b => match ds with
  | [d] => .exc ⟨c, [(f, d)]⟩ b
  | _ => .fail
theorem ss_raiseS (tk : Takes X W) (S : Sup.SupM X.prog X.K (ga X.K c) fI slf prm f fd) (hr : Room (0 + 1) X.A) (hm : X.mg c = some (.ref (ga X.K c))) (ha : SA X W [e] mas) (hc : X.calm = true := by rfl) (hg : Gl X c := by rfl) (hdb : (c == ("__debug__" : Str)) = false := by decide)
    (he : starEach [e] X.env = (false, eval e X.env) :: starEach [] X.env := by rfl) (hpl : (backTo cpos (starEach [] X.env)).any (·.1) = false := by rfl) : SS X W (.Raise (some (.Call (.Name c p) [e] [] cpos)) none pos) (raiseS c f mas) :=
  SS.of (ps_raise hc tk (Sup.pmk_sup S hr hg hm ha hdb he hpl)) fun σ H F P0 Mm ρ b D B q => sM_then B q fun xs ds F1 M1 r1 b1 H1 l1 e1 B1 q1 h1 => by
    split at h1
    · cases q1 with | cons rd rn =>
        cases rn
        refine ⟨_, rfl, fun dx hn => ?_⟩
        obtain ⟨B2, l2⟩ := B1.frozen hn (.xd [(f, _)])
        exact h1 _ _ σ _ _ _ _ l2 (Rle.refl _) B2 ⟨rfl, .inr ⟨dx, _, rfl, upd_same, rfl, .cons (rd.mono l2 (Rle.refl _)) .nil⟩⟩
    · exact h1.elim
end
end L2.VI
/-! VI22: a caught exception is taken up as a value. -/
namespace L2.VI
open PySem PySem.Spec PyProof.Rows He
section
variable {X : Cx} {pins : List (Addr × Obj)} {σ : St} {H : Hp} {s : Shared} {a : Addr} {o : HO}
/-- an object that the heap has, and nobody tracks, is taken up -/
theorem inv_up (I : Inv X pins σ H s) (na : H a = none) (n0 : X.s_0.heap.get? a = none) (nL : a ≠ X.env.locals) (nC : ∀ v, ¬ s.heap.IsCell a v) (nP : ∀ p ∈ X.pn ++ pins, p.1 ≠ a) (ok : ObjOk X.prog X.w (upd H a o) s.heap a o) (no : ∀ x, o ≠ .own x) : Inv X pins σ (upd H a o) s := by
  have ne : ∀ {b : Addr} {u : HO}, H b = some u → b ≠ a := fun {b u} e z => by rw [z, na] at e; cases e
  have n1 : ∀ {b : Addr} {ob : Obj}, X.s_0.heap.get? b = some ob → b ≠ a := fun {b ob} e z => by rw [z, n0] at e; cases e
  refine ⟨I.ok, I.os, I.bare, ⟨I.base.keep, I.base.slot, fun b ob e n x => ?_, I.base.there, fun b xs e => ?_, fun b ob u e => ?_, fun b ps e => ?_⟩, I.loc, I.cell, ?_, fun x c e => ?_, fun p hp => ?_, fun b ob e => ?_, I.len⟩
  · rw [upd_ne (n1 e)]; exact I.base.free b ob e n x
  · have z := I.base.tups b xs e
    rw [upd_ne (ne z)]; exact z
  · have z := I.base.frzs b ob u e
    rw [upd_ne (ne z)]; exact z
  · obtain ⟨more, z⟩ := I.base.tbls b ps e
    exact ⟨more, by rw [upd_ne (ne z)]; exact z⟩
  · rw [upd_ne (Ne.symm nL)]; exact I.free
  · obtain ⟨v, hv⟩ := I.cell x c e
    have nc : c ≠ a := fun z => nC v (by rw [← z]; exact hv)
    rw [upd_ne nc]; exact I.freeC x c e
  · obtain ⟨h1, h2, h3⟩ := I.pin p hp
    exact ⟨h1, by rw [upd_ne (nP p hp)]; exact h2, h3⟩
  · by_cases hb : b = a
    · subst hb; rw [upd_same] at e; cases e; exact ok
    · rw [upd_ne hb] at e
      exact (I.hok b ob e).stay (fun c v _ z => z) (fun c hc => by rw [upd_ne (ne hc)]; exact hc) (fun c xs hc => by rw [upd_ne (ne hc)]; exact hc)
end
end L2.VI
/-! VI23: try: .. except C as n: y = n. -/
namespace L2.VI
open PySem PySem.Spec PyProof.Rows He
def XVv (cls : Value) (d : Option Addr) (a : Addr) : HO := .ext fun h => ∃ (oe : Obj) (vs : Array Value), h.get? a = some oe ∧ Zc cls d oe ∧ oe.data = .fields vs
theorem xvv_ok {P : Program} {w : World} {H : Hp} {h : Heap} {a : Addr} {cls : Value} {d : Option Addr} {oe : Obj} {vs : Array Value} (e : h.get? a = some oe) (z : Zc cls d oe) (hd : oe.data = .fields vs) : ObjOk P w H h a (XVv cls d a) :=
  ⟨⟨oe, vs, e, z, hd⟩, ⟨_, e⟩, fun h1 h2 ⟨oe', vs', q1, q2, q3⟩ k => ⟨oe', vs', k _ q1, q2, q3⟩⟩
/-- what the clause wishes of an exception of the body -/
def wKeep (K : PySem.W.Frag) (c : Value) (i j : Nat) (Wout : WX) (D : Ends) : WX := fun cls d σ H =>
  ∃ b, PySem.W.exmOne K cls c = some b ∧ (b = true → ∀ a, H a = none → D.nx (((σ.set i (some (.ref a))).set j (some (.ref a))).set i none) (upd H a (XVv cls d a))) ∧ (b = false → Wout cls d σ H)
section
variable {X : Cx} {x n y : Str} {c : Value} {i j : Nat} {body : List Stmt} {np yp vp sp pos pos' : Pos} {tb : WX → TS} {Wo : WX}
theorem ps_try_keep (hs : X.stack = X.env :: X.outer) (hf : X.env.frame = some X.env.locals) (hx : X.ex = []) (hN : X.N.Nodup) (hi : X.N[i]? = some n) (hj : X.N[j]? = some y) (hln : X.env.scope.names.lookup n = some .local) (hly : X.env.scope.names.lookup y = some .local) (hij : i ≠ j) (hc : Names X x c) (tk : Takes X Wo)
    (dn : (n == ("__debug__" : Str)) = false) (dc : (n == ("__classdict__" : Str)) = false)
    (hb : ∀ (W : WX) (pn : List (Addr × Obj)) (xe : Value → Shared → Prop), Takes (X.tr pn xe) W → PassesOwn (model X.prog X.w) X.A X.env xe → PSs (X.tr pn xe) body (tb W)) :
    PS X (.Try body [.ExceptHandler (some (.Name x np)) (some n) [.Assign [.Name y yp] (.Name n vp) sp] pos'] [] [] pos) (fun D σ H => tb (wKeep X.K c i j Wo D) D σ H) := by
  constructor
  intro pins s σ H D I h
  have ok := I.ok
  have fr : X.A.frames = some (X.env :: X.outer) := ok.frames.trans (congrArg some hs)
  apply wpAny_Try_except
  let cl : List ExceptHandler := [.ExceptHandler (some (.Name x np)) (some n) [.Assign [.Name y yp] (.Name n vp) sp] pos']
  let xe : Value → Shared → Prop := fun e s₁ => wpAny (model X.prog X.w) X.A (noteFrame e X.env) (fun _ s₂ => wpAny (model X.prog X.w) X.A (setFlight e none) (fun _ s₃ => wpAny (model X.prog X.w) X.A (handleBy e X.env cl) (SP X pins D) X.xe s₃) X.xe s₂) X.xe s₁
  have takes : Takes (X.tr (X.pn ++ pins) xe) (wKeep X.K c i j Wo D) := by
    rintro u s' ⟨a, B, sI, pins', σ', H', cls, d, rfl, J', nb, up, sky, na, os, ag, b, hb1, yes, noo⟩
    have J : Inv X pins σ' H' sI := J'.ofTry ok
    have sky' : Sky B (X.env :: X.outer) a (Zc cls d) X.env.locals s'.heap := hs ▸ sky
    change wpAny _ _ (noteFrame (.ref a) X.env) _ _ _
    refine Sky.land Zc.steady fr hf sky' fun h3 fl3 up3 => ?_
    have J3 : Inv X pins σ' H' { s' with heap := h3 } := J.landed nb fl3.1 (up.trans up3) os ag
    obtain ⟨oe3, vs3, he3, hz3, hd3⟩ := fl3.there
    have nfr : a ∉ frs (X.env :: X.outer) := fun hm => by
      obtain ⟨_, o', e', hnf⟩ := fl3.2.2.1.mem hm
      rw [he3] at e'; cases e'
      exact hnf _ hd3
    have nL : a ≠ X.env.locals := fun z => nfr (List.mem_filterMap.mpr ⟨X.env, List.mem_cons_self, by rw [hf, z]⟩)
    have nF : a ∉ X.fs := fun hm => by
      obtain ⟨e, he, q⟩ := List.mem_filterMap.mp hm
      exact nfr (List.mem_filterMap.mpr ⟨e, List.mem_cons_of_mem _ he, q⟩)
    have nI : sI.heap.get? a = none := by
      cases z : sI.heap.get? a with
      | none => rfl
      | some o =>
        have z2 := nb a o z (by rw [hs]; exact nfr)
        rw [fl3.2.1] at z2
        cases z2
    have S3 := J3.suite he3 hd3 na nL nF
    refine wpAny_handleBy_cons (codeAny_handlers_test ?_) (fun q => by cases q)
    have LM := PySem.W.exm_one (M := model X.prog X.w) J3.kIn (fun A Q E s k q => wpAny_typeOf_ref (k _ _ he3) (by rw [hz3.1]; exact q)) hb1
    have test : ∀ {Q : Value → Shared → Prop} {E : Value → Shared → Prop}, Q c { s' with heap := h3 } → wpAny (model X.prog X.w) (X.A.mark (some (.ref a))) (eval (.Name x np) X.env) Q E { s' with heap := h3 } := fun {Q E} q => by
      obtain ⟨k1, k2, k3 | ⟨k3, k4, k5⟩⟩ := hc
      · exact ld_glob (X := X.suite a ((a, oe3) :: (X.pn ++ pins))) S3 k1 k3 q k2
      · exact ld_blt (X := X.suite a ((a, oe3) :: (X.pn ++ pins))) S3 k1 k3 k4 q k5 k2
    refine test (LM.here ?_)
    cases b with
    | true =>
      apply codeAny_handlers_suite_as
      refine HandSPX.lands_againZ fl3 fun h4 fl4 up4 => ?_
      have J4 : Inv X pins σ' H' { s' with heap := h4 } := J.landed nb fl4.1 ((up.trans up3).trans up4) os ag
      obtain ⟨oe4, vs4, he4, hz4, hd4⟩ := fl4.there
      refine store_ok (X := X.suite a ((a, oe4) :: (X.pn ++ pins))) (v := .ref a) (J4.suite he4 hd4 na nL nF) hN hi (.inl hln) rfl (fun s5 S5 => ?_) (.inr hln)
      have st : PS (X.suite a ((a, oe4) :: (X.pn ++ pins))) (.Assign [.Name y yp] (.Name n vp) sp) (tAsg (tVar i) (gName j)) := ps_set hN hj (.inl hly) (pe_var hi (.inl hln) dn dc) rfl (.inr hly)
      have hil : i < σ'.length := by rw [J.len]; exact (List.getElem?_eq_some_iff.mp hi).1
      have e0 : (σ'.set i (some (V.ref a)))[i]? = some (some (V.ref a)) := List.getElem?_set_self hil
      refine wpAny_mono ((pss_one st).run [] s5 _ H' { nx := fun τ G => τ = (σ'.set i (some (.ref a))).set j (some (.ref a)) ∧ G = H', rt := fun _ _ => False, bk := fun _ _ => False, ct := fun _ _ => False } S5 ⟨.ref a, e0, rfl, rfl⟩) (fun fl s6 q => ?_) (fun _ _ z => False.elim z)
      cases fl with
      | next =>
        obtain ⟨τ, G, S6, rfl, rfl⟩ := q
        have J6 : Inv X pins _ G s6 := S6.unsuite ok
        obtain ⟨ha6, _⟩ := S6.pin (a, oe4) (List.mem_append_left _ List.mem_cons_self)
        have n0 : X.s_0.heap.get? a = none := by
          cases z : X.s_0.heap.get? a with
          | none => rfl
          | some o =>
            obtain ⟨o', z2⟩ := J.base.there a o z (by rw [hx]; simp)
            rw [nI] at z2; cases z2
        have J7 := inv_up (o := XVv cls d a) J6 na n0 nL (fun v ⟨o, z1, z2⟩ => by rw [ha6] at z1; cases z1; rw [hd4] at z2; cases z2) (fun p hp z => by
          obtain ⟨z1, _⟩ := J.pin p hp
          rw [z, nI] at z1; cases z1) (xvv_ok ha6 hz4 hd4) (fun x z => by cases z)
        exact gone_ok J7 hN hi hln fun s7 J8 => ⟨_, _, J8, yes rfl a na⟩
      | brk => obtain ⟨_, _, _, q⟩ := q; exact False.elim q
      | cont => obtain ⟨_, _, _, q⟩ := q; exact False.elim q
      | ret u => obtain ⟨_, _, _, _, _, q⟩ := q; exact False.elim q
    | false =>
      change wpAny _ X.A (handleBy (.ref a) X.env []) _ _ _
      apply wpAny_handleBy_nil
      obtain ⟨k1, k2, k3, oe, vs, T, oT, ts', he, hz, hd, h1, hr⟩ := id fl3
      unfold PySem.passOn
      refine wpAny_bind (wpAny_field he hd h1 ?_)
      have nn : ¬ ((Value.ref T == Value.none) = true) := by simp
      rw [if_neg nn, hf]
      have fin : wpAny (model X.prog X.w) X.A (setFlight (.ref a) (some X.env.locals)) (fun _ s4 => wpAny (model X.prog X.w) X.A (throw (.ref a) : Sem Flow) (SP X pins D) X.xe s4) X.xe { s' with heap := h3 } :=
        HandSPX.setFlight_upZ fl3 fun h4 hh4 up4 => wpAny_throw (tk _ _ ⟨a, B, sI, pins, σ', H', cls, d, rfl, J, nb, (up.trans up3).trans up4, .inr (.inr (by rw [hs]; exact hh4)), na, os, ag, noo rfl⟩)
      first
        | exact wpAny_bind (wpAny_pure (wpAny_bind fin))
        | exact wpAny_bind fin
  refine wpAny_mono ((hb (wKeep X.K c i j Wo D) (X.pn ++ pins) xe takes PassesOwn.looking).run [] s σ H D (I.toTry _) h) (fun fl s1 q => ?_) (fun e s1 q => q)
  cases fl with
  | next => obtain ⟨σ', H', J, q⟩ := q; exact wpAny_execs_nil ⟨σ', H', J.ofTry ok, q⟩
  | brk => obtain ⟨σ', H', J, q⟩ := q; exact ⟨σ', H', J.ofTry ok, q⟩
  | cont => obtain ⟨σ', H', J, q⟩ := q; exact ⟨σ', H', J.ofTry ok, q⟩
  | ret u => obtain ⟨v, σ', H', J, r, q⟩ := q; exact ⟨v, σ', H', J.ofTry ok, r, q⟩
end
end L2.VI
/-! VI24: lambdas: made, handed down, called. -/
namespace L2.VI
open PySem PySem.Spec PyProof.Rows He
section
variable {X : Cx} {W : WX} {pos : Pos} {K : PySem.W.Frag} {F P : Hp} {fc : FrC} {P0 : PX fc} {Mm H : Hp} {ρ : Rho} {bs : BSt} {σ : St} {g : GSt}
/-- a code object's table grows -/
theorem HRel.tabUp {k : Nat} {x q : Str} (h : HRel K F P Mm ρ g H) (e : g.S k = some (.tab x q)) : ∃ ps : Array Value, Mm (tabA K x) = some (.tbl ps) ∧ H (tabA K x) = some (.tbl ps) ∧ TriplesOk ps.toList ∧
    (∀ (pos : Pos) (cv : Value), codeAmong pos ps.toList = some cv → ∃ c, cv = .ref c ∧ F c = some (LamX.CodeO c q)) ∧
    ∀ ps' : Array Value, TriplesOk ps'.toList → (∀ (pos : Pos) (cv : Value), codeAmong pos ps'.toList = some cv → ∃ c, cv = .ref c ∧ F c = some (LamX.CodeO c q)) → HRel K F P (upd Mm (tabA K x) (.tbl ps')) ρ g (upd H (tabA K x) (.tbl ps')) := by
  obtain ⟨a, e1, ps, h1, ha, h2, h3⟩ := h.st k _ e
  subst ha
  generalize ht : tabA K x = a at *
  refine ⟨ps, h1, h.mh _ _ h1, h2, h3, fun ps' t' c' => ?_⟩
  have nF : F a = none := by
    cases z : F a with
    | none => rfl
    | some v => rw [(h.fp a v z).2] at h1; cases h1
  have nP : P a = none := by
    cases z : P a with
    | none => rfl
    | some v => rw [h.pm a v z] at h1; cases h1
  have ne : ∀ {G : Hp} {b : Addr} {v : HO}, G a = none → G b = some v → b ≠ a := fun {G b v} gn z y => by subst y; rw [gn] at z; cases z
  refine ⟨fun b v z => ?_, fun b v z => ?_, fun b v z => ?_, fun b v z => ?_, fun b v z => ?_, fun j o z => ?_, h.inj, h.nx, fun j c z => ?_⟩
  · have hb := ne nF z
    have y := h.fh b v z
    split
    · rename_i hd
      rw [if_pos hd] at y
      rcases y with y | ⟨o, y⟩
      · exact .inl (by rw [upd_ne hb]; exact y)
      · exact .inr ⟨o, by rw [upd_ne hb]; exact y⟩
    · rename_i hd
      rw [if_neg hd] at y
      rw [upd_ne hb]; exact y
  · rw [upd_ne (ne nP z)]; exact h.ph b v z
  · by_cases hb : b = a
    · subst hb; rw [upd_same] at z ⊢; exact z
    · rw [upd_ne hb] at z ⊢; exact h.mh b v z
  · have hb := ne nF z
    obtain ⟨q1, q2⟩ := h.fp b v z
    exact ⟨q1, by rw [upd_ne hb]; exact q2⟩
  · rw [upd_ne (ne nP z)]; exact h.pm b v z
  · by_cases hj : j = k
    · subst hj
      rw [e] at z; cases z
      exact ⟨a, e1, ps', upd_same, ht.symm, t', c'⟩
    · obtain ⟨c, y1, y2⟩ := h.st j o z
      have hc : c ≠ a := fun z => hj (h.inj j k a (by rw [← z]; exact y1) e1)
      refine ⟨c, y1, y2.mono (Leq.refl _) (Rle.refl _) fun d w hd y => ?_⟩
      have : d ≠ a := by
        rcases hd with rfl | rfl
        · exact hc
        · intro y'; subst y'; rw [h1] at y; cases y
      rw [upd_ne this]; exact y
  · obtain ⟨w, y1, y2⟩ := h.rh j c z
    by_cases hc : c = a
    · subst hc; exact ⟨_, upd_same, fun _ z => nomatch z⟩
    · exact ⟨w, by rw [upd_ne hc]; exact y1, y2⟩
theorem BRel.tabUp {k : Nat} {x q : Str} (B : BRel K F P0 Mm ρ bs σ H) (e : bs.g.S k = some (.tab x q)) : ∃ ps : Array Value, Mm (tabA K x) = some (.tbl ps) ∧ H (tabA K x) = some (.tbl ps) ∧ TriplesOk ps.toList ∧
    (∀ (pos : Pos) (cv : Value), codeAmong pos ps.toList = some cv → ∃ c, cv = .ref c ∧ F c = some (LamX.CodeO c q)) ∧
    ∀ ps' : Array Value, TriplesOk ps'.toList → (∀ (pos : Pos) (cv : Value), codeAmong pos ps'.toList = some cv → ∃ c, cv = .ref c ∧ F c = some (LamX.CodeO c q)) → BRel K F P0 (upd Mm (tabA K x) (.tbl ps')) ρ bs σ (upd H (tabA K x) (.tbl ps')) := by
  obtain ⟨P, qq, B⟩ := B
  obtain ⟨ps, h1, h2, h3, h4, h5⟩ := B.h.tabUp e
  exact ⟨ps, h1, h2, h3, h4, fun ps' t c => ⟨P, qq, h5 ps' t c, B.pp, B.len, B.qi, B.sl⟩⟩
theorem lamO_ok {P : Program} {w : World} {H' : Hp} {h : Heap} {f c' : Addr} {L : LamT} {cs : Cl} {pm ctv : Value} (e : h.get? f = some (PySem.W.kla_obj "<lambda>" L.qual L.params L.body L.scope (cloFrom cs L.scope.names []) pm c' ctv)) : ObjOk P w H' h f (LamO L cs pm c' ctv) := ⟨e, _, e⟩
theorem among_more {p p' : Pos} {c v : Value} : ∀ (l : List Value), TriplesOk l → codeAmong p' (l ++ [rawInt p.line, rawInt p.col, c]) = some v → v = c ∨ codeAmong p' l = some v := by
  intro l ok h
  rcases LamX.among_app l ok h with z | z
  · exact .inr z
  · exact .inl z
/-- the machine makes a lambda: its code object is there, or it is new -/
theorem lam_mk {pins : List (Addr × Obj)} {s : Shared} {c T : Addr} {L : LamT} {ps : Array Value} {E Q : Value → Shared → Prop} (I : Inv X pins σ H s) (tb : LamX.TabB X.base X.mg c T) (hc : X.env.code = .ref c) (hT : H T = some (.tbl ps)) (ok : TriplesOk ps.toList)
    (hr : ∀ (p : Pos) (v : Value), codeAmong p ps.toList = some v → ∃ a, v = .ref a) (hd : defaultsOf L.params X.env = ([], [])) (hf : ∀ y ∈ L.scope.names, y.2 = .free → ∃ c, X.env.cells.lookup y.1 = some c) (hq : X.env.qual ++ "<lambda>" = L.qual)
    (hit : ∀ (f c' : Addr) (pm ctv : Value) (s' : Shared), codeAmong pos ps.toList = some (.ref c') → H f = none → Inv X pins σ (upd H f (LamO L X.env.cells pm c' ctv)) s' → Q (.ref f) s')
    (new : ∀ (f c' : Addr) (pm ctv : Value) (s' : Shared), codeAmong pos ps.toList = none → H f = none → H c' = none → f ≠ c' →
      Inv X pins σ (upd (upd (upd H T (.tbl (ps ++ #[rawInt pos.line, rawInt pos.col, .ref c']))) c' (LamX.CodeO c' L.qual)) f (LamO L X.env.cells pm c' ctv)) s' → Q (.ref f) s') :
    wpAny (model X.prog X.w) X.A (eval (.Lambda L.params L.body L.scope pos) X.env) Q E s := by
  have bT : s.heap.BuiltinsAt X.mg T := tb.bm.keeps I.bk
  have oT : s.heap.get? T = some { cls := .none, data := .fields ps } := I.hok T _ hT
  have G : s.heap.Ns mainGlobals X.mg := I.mod.glob.keeps I.bk
  refine PySem.W.kla_eval hd ?_
  cases hcase : codeAmong pos ps.toList with
  | some v =>
    obtain ⟨c', rfl⟩ := hr pos v hcase
    refine PySem.W.kla_makeFunctionHit (c := c) (P := T) (ps := ps) (mg := X.mg) (closure_ok hf) I.ok.glob G hc (tb.code.keeps I.bk) oT ok hcase bT ?_
    rintro ctv h1 tk up sz
    rw [hq]
    exact hit h1.objs.size c' _ ctv _ hcase (I.hok.fresh sz) (I.laid (t' := tk) (fun b u z => Heap.get?_push_of_some _ (up b u z)) sz (lamO_ok (Heap.get?_push_size _ rfl)))
  | none =>
    refine PySem.W.kla_makeFunction (c := c) (P := T) (ps := ps) (mg := X.mg) (closure_ok hf) I.ok.glob G hc (tb.code.keeps I.bk) oT ok hcase tb.gP bT ?_
    rintro c' ctv h1 tk up ge lt ⟨c2, oc, vs, t, e2, g1, g2, g3⟩ tab
    cases e2
    have I1 := LamX.inv_table (q := X.env.qual ++ "<lambda>") (t' := tk) (more := #[rawInt pos.line, rawInt pos.col, .ref c']) (h' := h1) I hT (fun b o hb z => up b o hb z) tab ge ⟨oc, vs, t, g1, g2, g3⟩
    rw [hq] at I1 ⊢
    have sz : s.heap.objs.size ≤ h1.objs.size := Nat.le_trans ge (Nat.le_of_lt lt)
    exact new h1.objs.size c' _ ctv _ hcase (I.hok.fresh sz) (I.hok.fresh ge) (Nat.ne_of_gt lt) (I1.laid (t' := tk) (a := h1.objs.size) (fun b u z => Heap.get?_push_of_some _ z) (Nat.le_refl _) (lamO_ok (Heap.get?_push_size _ rfl)))
/-- lambda: .., the i-th of the text; kt: where the store has the table of the def x; kf: the frame's own slot -/
def lamM (i : Nat) (L : LamT) (kt kf : Nat) (x : Str) : M D := fun b => match b.g.S kt, b.t[kf]? with
  | some (.tab x' q'), some (some (.frm (some fr) _)) => if x' = x ∧ q' = L.qual then .ok (.lam i L fr) b else .fail
  | _, _ => .fail
theorem BRel.frmAt {kf : Nat} {me : Option Nat} {up : Ups} (B : BRel K F P0 Mm ρ bs σ H) (e : bs.t[kf]? = some (some (.frm me up))) : Lk K F ρ fc me up := by
  obtain ⟨P, qq, B⟩ := B
  obtain ⟨v, _, lk⟩ := B.sl kf _ e
  exact lk
theorem upd_comm {G : Hp} {a c : Addr} {u v : HO} (h : a ≠ c) : upd (upd G a u) c v = upd (upd G c v) a u := by
  funext b
  by_cases h1 : b = a
  · subst h1; rw [upd_ne h, upd_same, upd_same]
  · by_cases h2 : b = c
    · subst h2; rw [upd_same, upd_ne h1, upd_same]
    · rw [upd_ne h2, upd_ne h1, upd_ne h1, upd_ne h2]
theorem se_lam {i kt kf : Nat} {x : Str} {L : LamT} (tb : LamX.TabB X.base X.mg (codA X.K x) (tabA X.K x)) (hc : X.env.code = .ref (codA X.K x)) (hs : clOf X.stack = X.env.cells := by rfl) (hq : X.env.qual ++ "<lambda>" = L.qual := by rfl) (hd : defaultsOf L.params X.env = ([], []) := by rfl)
    (hl : LamX.lamSB X.env.scope L.scope = true := by rfl) : SE X W (.Lambda L.params L.body L.scope pos) (lamM i L kt kf x) := by
  refine ⟨fun pins s σ H Q I ⟨F, P0, Mm, ρ, b, B, q⟩ => ?_⟩
  unfold lamM at q
  split at q
  · rename_i x' q' fr up eS et
    split at q
    · rename_i hx
      obtain ⟨rfl, rfl⟩ := hx
      obtain ⟨ps, h1, h2, h3, h4, _⟩ := B.tabUp eS
      have cl := (B.frmAt et).1 fr rfl
      have cl : ρ.c fr = some X.env.cells := by rw [cl]; exact congrArg some hs
      have hf : ∀ y ∈ L.scope.names, y.2 = .free → ∃ c, X.env.cells.lookup y.1 = some c := (LamX.lamS_by hl).has I.ok
      refine lam_mk I tb hc h2 h3 (fun p v z => by obtain ⟨c, e, _⟩ := h4 p v z; exact ⟨c, e⟩) hd hf hq ?_ ?_
      · intro f c' pm ctv s' hm nf I'
        obtain ⟨c2, e2, fc'⟩ := h4 _ _ hm
        cases e2
        obtain ⟨B1, l1⟩ := B.frozen nf (LamO L X.env.cells pm c' ctv)
        exact ⟨.ref f, _, I', rfl, q (.ref f) _ Mm ρ _ l1 (Rle.refl _) B1 (.lam upd_same (l1 _ _ fc') cl hf)⟩
      · intro f c' pm ctv s' hm nf nc ne I'
        obtain ⟨B1, l1⟩ := B.frozen nc (LamX.CodeO c' L.qual)
        obtain ⟨ps', g1, g2, _, _, g5⟩ := B1.tabUp (x := x') (q := L.qual) eS
        have nt : tabA X.K x' ≠ c' := fun z => by rw [z, nc] at h2; cases h2
        rw [upd_ne nt, h2] at g2
        cases g2
        have B2 := g5 (ps ++ #[rawInt pos.line, rawInt pos.col, .ref c']) (by rw [Array.toList_append]; exact PySem.TriplesOk_snoc _ _ _ _ h3) (fun p v z => by
          rw [Array.toList_append] at z
          rcases among_more _ h3 z with rfl | z
          · exact ⟨c', rfl, upd_same⟩
          · obtain ⟨c, e, y⟩ := h4 p v z
            exact ⟨c, e, l1 _ _ y⟩)
        rw [← upd_comm nt] at B2
        have nf2 : upd (upd H (tabA X.K x') (.tbl (ps ++ #[rawInt pos.line, rawInt pos.col, .ref c']))) c' (LamX.CodeO c' L.qual) f = none := by
          rw [upd_ne ne, upd_ne (fun z => by rw [z, h2] at nf; cases nf)]; exact nf
        obtain ⟨B3, l3⟩ := B2.frozen nf2 (LamO L X.env.cells pm c' ctv)
        exact ⟨.ref f, _, I', rfl, q (.ref f) _ _ ρ _ (l1.trans l3) (Rle.refl _) B3 (.lam upd_same (l3 _ _ upd_same) cl hf)⟩
    · exact q.elim
  · exact q.elim
end
end L2.VI
/-! VI25: defs that make lambdas, defs that take them, their calls; try .. except C as n: y = n. -/
namespace L2.VI
open PySem PySem.Spec PyProof.Rows He
/-! ### the frame's own slot -/
section
variable {X : Cx} {pins : List (Addr × Obj)} {σ : St} {H : Hp} {s : Shared}
theorem inv_ghost {k : Nat} {z : Str} {v : Option V} (I : Inv X pins σ H s) (hN : X.N[k]? = some z) (nv : X.env.scope.names.lookup z = none) : Inv X pins (σ.set k v) H s := by
  refine ⟨I.ok, I.os, I.bare, I.base, ?_, I.cell, I.free, I.freeC, I.pin, I.hok, by rw [List.length_set]; exact I.len⟩
  obtain ⟨m, h1, h2⟩ := I.loc
  refine ⟨m, h1, fun i x u e1 e2 e3 => ?_⟩
  by_cases hi : i = k
  · subst hi
    rw [hN] at e1; cases e1
    unfold Vis at e3
    rw [nv] at e3
    rcases e3 with e3 | e3 | e3 <;> cases e3
  · rw [List.getElem?_set_ne (Ne.symm hi)] at e2
    exact h2 i x u e1 e2 e3
theorem pss_ghost {k : Nat} {z : Str} {v : Option V} {body : List Stmt} {t : TS} (hN : X.N[k]? = some z) (nv : X.env.scope.names.lookup z = none) (h : PSs X body t) : PSs X body (fun D σ H => t D (σ.set k v) H) :=
  ⟨fun pins s σ H D I q => by
    have I' := inv_ghost (v := v) I hN nv
    exact h.run pins s _ H D I' q⟩
end
/-- a def: n parameters, sl slots, then the frame's own -/
def fnBodyF (n sl : Nat) (me : Option Nat) (up : Ups) (m : M Fl) : FnD := fun ds g => if ds.length = n then (match m ⟨g, ds.map (fun d => some (.val d)) ++ (List.replicate (sl - n) none ++ [some (.frm me up)])⟩ with
  | .ok .nx b => .ok .non b.g
  | .ok (.ret d) b => .ok d b.g
  | .exc x b => .exc x b.g
  | _ => .fail) else .fail
/-- .. that makes lambdas -/
def fnBodyC (n sl : Nat) (m : M Fl) : FnD := fun ds g => fnBodyF n sl (some g.nx) [] m ds { g with nx := g.nx + 1 }
theorem ar_ofC {n sl : Nat} {m : M Fl} : Ar (fnBodyC n sl m) n := fun ds g h => if_neg h
section
variable {K : PySem.W.Frag} {F P Mm H : Hp} {ρ : Rho} {g : GSt}
theorem BRel.startF {fc : FrC} {vs : List V} {ds : List D} {N : List Str} {sl : Nat} {me : Option Nat} {up : Ups} (h : HRel K F P Mm ρ g H) (r : RepAll K F ρ vs ds) (hN : N.length = sl + 1) (hl : ds.length ≤ sl) (lk : Lk K F ρ fc me up) :
    BRel (fc := fc) K F P Mm ρ ⟨g, ds.map (fun d => some (.val d)) ++ (List.replicate (sl - ds.length) none ++ [some (.frm me up)])⟩ ((L2.start N vs).set sl (some .non)) H := by
  refine ⟨P, fun _ => none, h, fun _ _ e => e, ?_, (fun _ _ _ e => nomatch e), fun i s e => ?_⟩
  · unfold L2.start
    simp [r.length, hN]
    omega
  · have e1 : (ds.map (fun d => some (Slot.val d)) ++ (List.replicate (sl - ds.length) none ++ [some (Slot.frm me up)]))[i]? = some (some s) := e
    have lenS : (L2.start N vs).length = sl + 1 := by unfold L2.start; simp [r.length, hN]; omega
    by_cases hi : i < ds.length
    · rw [List.getElem?_append_left (by simpa using hi), List.getElem?_map] at e1
      cases ed : ds[i]? with
      | none => rw [ed] at e1; cases e1
      | some d =>
        rw [ed] at e1
        cases e1
        obtain ⟨v, hv, rv⟩ := r.get ed
        refine ⟨v, ?_, rv⟩
        rw [List.getElem?_set_ne (by omega)]
        unfold L2.start
        rw [List.getElem?_append_left (by simpa [r.length] using hi), List.getElem?_map, hv]
        rfl
    · rw [List.getElem?_append_right (by simpa using hi)] at e1
      simp only [List.length_map] at e1
      by_cases h2 : i - ds.length < sl - ds.length
      · rw [List.getElem?_append_left (by simpa using h2), List.getElem?_replicate, if_pos h2] at e1
        cases e1
      · rw [List.getElem?_append_right (by simpa using h2)] at e1
        simp only [List.length_replicate] at e1
        cases h3 : i - ds.length - (sl - ds.length) with
        | succ k => rw [h3] at e1; simp at e1
        | zero =>
          rw [h3] at e1
          have e1 : some (some (Slot.frm me up)) = some (some s) := e1
          cases e1
          have hsl : i = sl := by omega
          subst hsl
          exact ⟨.non, List.getElem?_set_self (by rw [lenS]; omega), lk⟩
/-- a frame gets its number -/
def rfr (ρ : Rho) (k : Nat) (cs : Cl) : Rho := ⟨ρ.p, fun j => if j = k then some cs else ρ.c j⟩
theorem HRel.frame (h : HRel K F P Mm ρ g H) (cs : Cl) : HRel K F P Mm (rfr ρ g.nx cs) { g with nx := g.nx + 1 } H ∧ Rle ρ (rfr ρ g.nx cs) ∧ (rfr ρ g.nx cs).c g.nx = some cs := by
  have rl : Rle ρ (rfr ρ g.nx cs) := ⟨fun _ _ e => e, fun j c e => by
    have : j ≠ g.nx := fun z => by rw [z, (h.nx _ (Nat.le_refl _)).2] at e; cases e
    exact (if_neg this).trans e⟩
  refine ⟨⟨h.fh, h.ph, h.mh, h.fp, h.pm, fun k so e => ?_, h.inj, fun k hk => ?_, h.rh⟩, rl, if_pos rfl⟩
  · obtain ⟨a, e1, e2⟩ := h.st k so e
    exact ⟨a, e1, e2.mono (Leq.refl _) rl fun _ _ _ z => z⟩
  · have hk : g.nx + 1 ≤ k := hk
    exact ⟨(h.nx k (by omega)).1, (if_neg (by omega)).trans (h.nx k (by omega)).2⟩
end
section
variable {P : Program} {w : World} {K : PySem.W.Frag} {mg : Str → Option Value} {base : Heap} {x qual : Str} {params : Arguments} {body : List Stmt} {scope : Scope} {dvs : List V} {kws : List (Str × V)} {f : Addr} {fd : FuncData}
/-- VI19's fnG_of, the function's code told -/
theorem fnG_of2 {N ps : List Str} {k : Nat} {sp : Sp} (F : FunD K x qual params body scope dvs kws f fd) (S : FnScope N ps scope) (len : ∀ zs G R T, sp zs G R T → zs.length = ps.length)
    (hb : ∀ (cdv : Value) (A : Around) (o : List Env) (s : Shared) (G : Hp) (zs : List V) (R : VK) (T : XK), fd.code = cdv → A.guards = some [] → Room k (A.deeper (envOfC qual scope s.heap.objs.size f cdv)) → sp zs G R T →
      ∃ t, PSs (cxOf (CV P w) P w K mg base N qual scope f cdv A o s G T) body t ∧ t { nx := fun _ G' => R .non G', rt := R } (L2.start N zs) G) : FnG P w K mg base (k + 1) f fd ps sp := by
  obtain ⟨oc, od, dV, kV, doc, pm, an, cdv, ct, osl, rfl, lk, hcd, _, _⟩ := F.ex
  refine ⟨len, fun {A} hA o s G as ws zs R T hr e0 hbind r hsp => ?_⟩
  have keepB : ∀ b ob, base.get? b = some ob → s.heap.get? b = some ob := fun b ob e => (e0.bs b ob e).1
  have KS := e0.mod.kin.keeps keepB
  have kinds : ∀ y ∈ ps.zip ws, scope.names.lookup y.1 = some .local ∨ (scope.names.lookup y.1 = some .cell ∧ ((cellsFrom (s.heap.objs.size + 1) scope.names []).lookup y.1).isSome = true) := by
    rintro ⟨n, v⟩ hy
    exact (S.par n (List.of_mem_zip hy).1).imp id fun q => ⟨q, PySem.W.cellsFrom_some _ _ _ (.inl q)⟩
  apply codeAny_call_function hr.depth (KS _ _ lk) rfl S.co S.gen rfl (PySem.W.codeRec_of KS hcd)
  apply hbind
  apply wpAny_newFunctionEnv_cells S.kind kinds
  rintro env rfl s1 ic
  obtain ⟨t, ht, hq⟩ := hb cdv A o s G zs R T rfl hA (hr.deeper _) hsp
  refine ⟨(e0.mod.nolimit.keeps keepB).keeps ic.toInCall.keep, codeAny_func (wpAny_mono (ht.run [] s1 (L2.start N zs) G _ (inv_start S hr.hd e0 (len _ _ _ _ hsp) r ic) hq) ?_ fun e s' z => z)⟩
  intro fl s' z
  cases fl with
  | ret u => obtain ⟨v, σ', G', J, rv, q⟩ := z; exact ⟨v, G', J.os, J.bare, J.base, J.hok, rv, q⟩
  | next => obtain ⟨σ', G', J, q⟩ := z; exact ⟨.non, G', J.os, J.bare, J.base, J.hok, rfl, q⟩
  | brk => obtain ⟨_, _, _, q⟩ := z; exact q.elim
  | cont => obtain ⟨_, _, _, q⟩ := z; exact q.elim
theorem PostS.ends {fc : FrC} {P0 : PX fc} {F F1 : Hp} {ρ r1 : Rho} {W : WX} {Rk : VK} {T : XK} {m : R Fl} (l : Leq F F1) (rl : Rle ρ r1) (hW : W = fun cls d _ G => T cls d G)
    (q : PostG K P0 F ρ Rk T (match m with
      | .ok .nx b => .ok .non b.g
      | .ok (.ret d) b => .ok d b.g
      | .exc x b => .exc x b.g
      | _ => .fail)) : PostS K W P0 F1 r1 { nx := fun _ G' => Rk .non G', rt := Rk } m := by
  subst hW
  rcases m with ⟨fl, b⟩ | ⟨e, b⟩ | _
  · cases fl with
    | nx => exact fun σ' F' M' ρ' H' l' r' B' => q .non F' M' ρ' H' (l.trans l') (rl.trans r') B'.weak .non
    | ret d => exact fun v σ' F' M' ρ' H' l' r' B' rv => q v F' M' ρ' H' (l.trans l') (rl.trans r') B'.weak rv
    | brk => exact q.elim
    | cnt => exact q.elim
  · exact fun cls d σ' F' M' ρ' H' l' r' B' rx => q cls d F' M' ρ' H' (l.trans l') (rl.trans r') B'.weak rx
  · exact q.elim
/-- THE RULE of a def that makes lambdas -/
theorem fn_okC {N ps : List Str} {k n sl : Nat} {z : Str} {m : M Fl} (F : FunD K x qual params body scope dvs kws f fd) (S : FnScope N ps scope) (hn : ps.length = n) (hs : N.length = sl + 1) (hz : N[sl]? = some z) (nv : scope.names.lookup z = none) (hnl : n ≤ sl)
    (hb : ∀ (cdv : Value) (A : Around) (o : List Env) (s : Shared) (G : Hp) (T : XK), fd.code = cdv → (cxOf (CV P w) P w K mg base N qual scope f cdv A o s G T).A.guards = some [] → Room k (A.deeper (envOfC qual scope s.heap.objs.size f cdv)) → SSs (cxOf (CV P w) P w K mg base N qual scope f cdv A o s G T) (fun cls d _ G => T cls d G) body m) :
    FnG P w K mg base (k + 1) f fd ps (spV K n (fnBodyC n sl m)) := by
  subst hn
  refine fnG_of2 F S (fun zs G R T h => h.1) fun cdv A o s G zs R T hcd hA hr h => ⟨_, pss_ghost (k := sl) (v := some .non) hz nv (hb cdv A o s G T hcd hA hr), ?_⟩
  obtain ⟨hl, F0, P0, Mm, ρ, g, ds, hR, r, q⟩ := h
  have hd : ds.length = ps.length := r.length.symm.trans hl
  obtain ⟨h1, rl, e1⟩ := hR.frame (clOf (cxOf (CV P w) P w K mg base N qual scope f cdv A o s G T).stack)
  have B := BRel.startF (fc := fcOf (cxOf (CV P w) P w K mg base N qual scope f cdv A o s G T)) (me := some g.nx) (up := []) h1 (r.mono (Leq.refl _) rl) hs (by rw [hd]; exact hnl) ⟨fun fr e => by cases e; exact e1, fun u hu => nomatch hu⟩
  refine ⟨F0, P0, Mm, _, _, B, ?_⟩
  unfold fnBodyC fnBodyF at q
  rw [if_pos hd, ← hd] at q
  exact PostS.ends (Leq.refl _) rl rfl q
/-! ### defs that take lambdas -/
abbrev FnU := Ups → FnD
def fnBodyU (n sl : Nat) (m : M Fl) : FnU := fun up => fnBodyF n sl none up m
def ArU (m : FnU) (n : Nat) : Prop := ∀ up, Ar (m up) n
theorem ar_ofU {n sl : Nat} {m : M Fl} : ArU (fnBodyU n sl m) n := fun up ds g h => if_neg h
def spU (K : PySem.W.Frag) (base : Heap) (n : Nat) (m : FnU) : Sp := fun vs H Q E => vs.length = n ∧ ∃ F P Mm ρ g ds up, HRel K F P Mm ρ g H ∧ (∀ u ∈ up, UpOk K F ρ base u) ∧ RepAll K F ρ vs ds ∧ PostG K P F ρ Q E (m up ds g)
abbrev OkU (P : Program) (w : World) (K : PySem.W.Frag) (mg : Str → Option Value) (lv : Nat) (f : Addr) (fd : FuncData) (ps : List Str) (m : FnU) : Prop := ∀ base : Heap, K.In base → base.Ns mainGlobals mg → FnOk P w K mg base (CV P w) lv f fd ps (spU K base ps.length m)
theorem fn_okU {N ps : List Str} {k n sl : Nat} {z : Str} {m : M Fl} (F : FunD K x qual params body scope dvs kws f fd) (S : FnScope N ps scope) (hn : ps.length = n) (hs : N.length = sl + 1) (hz : N[sl]? = some z) (nv : scope.names.lookup z = none) (hnl : n ≤ sl)
    (hb : ∀ (cdv : Value) (A : Around) (outer : List Env) (s : Shared) (H : Hp) (E : XK), Room k (A.deeper (envOfC qual scope s.heap.objs.size f cdv)) → SSs (cxOf (CV P w) P w K mg base N qual scope f cdv A outer s H E) (fun cls d _ H => E cls d H) body m) :
    FnOk P w K mg base (CV P w) (k + 1) f fd ps (spU K base n (fnBodyU n sl m)) := by
  subst hn
  refine F.ok S (fun vs H Q E h => h.1) fun cdv A outer s H vs Q E hr h => ⟨_, pss_ghost (k := sl) (v := some .non) hz nv (hb cdv A outer s H E hr), ?_⟩
  obtain ⟨hl, F0, P0, Mm, ρ, g, ds, up, hR, hu, r, q⟩ := h
  have hd : ds.length = ps.length := r.length.symm.trans hl
  have B := BRel.startF (fc := fcOf (cxOf (CV P w) P w K mg base N qual scope f cdv A outer s H E)) (me := none) (up := up) hR r hs (by rw [hd]; exact hnl) ⟨fun fr e => (nomatch e), hu⟩
  refine ⟨F0, P0, Mm, _, _, B, ?_⟩
  unfold fnBodyU fnBodyF at q
  rw [if_pos hd, ← hd] at q
  exact PostS.ends (Leq.refl _) (Rle.refl _) rfl q
end
end L2.VI
/-! VI26: defs that take lambdas are called; a lambda is called; try .. except C as n: y = n. -/
namespace L2.VI
open PySem PySem.Spec PyProof.Rows He
section
variable {X : Cx} {pins : List (Addr × Obj)} {σ : St} {H : Hp} {s : Shared}
/-- a base that has the frame's cells, as they are now -/
theorem Inv.baseUp (I : Inv X pins σ H s) (hfn : ∀ x, X.fn x = true) (hst : X.stack = X.env :: X.outer) (hfr : X.env.frame = some X.env.locals) : ∃ B : Heap, X.K.In B ∧ B.Ns mainGlobals X.mg ∧ Env0 X.prog X.w X.K X.mg B X.A X.stack s H ∧ (∀ b o, X.base.get? b = some o → B.get? b = some o) ∧ (∀ y c v, X.env.cells.lookup y = some c → s.heap.IsCell c v → B.IsCell c v) ∧ ∀ b o, B.get? b = some o → X.base.get? b = some o ∨ ∃ y, X.env.cells.lookup y = some b := by
  classical
  let p : Addr → Bool := fun b => decide ((X.base.get? b).isSome = true ∨ ∃ y, X.env.cells.lookup y = some b)
  let l : List Addr := (List.range s.heap.objs.size).filter fun b => !p b
  have hin : ∀ b o, p b = true → s.heap.get? b = some o → (PySem.W.hideAll s.heap l).get? b = some o := fun b o hb e => PySem.W.hideAll_get l e fun hm => by
    have := (List.mem_filter.mp hm).2
    rw [hb] at this
    cases this
  have hof : ∀ b o, (PySem.W.hideAll s.heap l).get? b = some o → s.heap.get? b = some o ∧ p b = true := fun b o e => by
    have e1 := PySem.W.of_hideAll l e
    refine ⟨e1, ?_⟩
    cases hb : p b with
    | true => rfl
    | false =>
      have hm : b ∈ l := List.mem_filter.mpr ⟨List.mem_range.mpr (Heap.lt_size e1), by rw [hb]; rfl⟩
      rw [PySem.W.hideAll_none l hm] at e; cases e
  have up : ∀ b o, X.base.get? b = some o → (PySem.W.hideAll s.heap l).get? b = some o := fun b o e => hin b o (decide_eq_true (.inl (by rw [e]; rfl))) (I.bk b o e)
  have hm := I.mod
  obtain ⟨mb, b1, b2⟩ := hm.blt
  have e0 := I.env0
  refine ⟨PySem.W.hideAll s.heap l, hm.kin.keeps up, hm.glob.keeps up, ⟨e0.frames, ⟨hm.kin.keeps up, hm.glob.keeps up, ⟨mb, b1.keeps up, b2⟩, hm.nolimit.keeps up⟩, fun b o e => ?_, ?_, ?_, e0.frf, e0.hok, e0.bare⟩, up, fun y c v hc ⟨o, h1, h2⟩ => ⟨o, hin c o (decide_eq_true (.inr ⟨y, hc⟩)) h1, h2⟩, fun b o e => ?_⟩
  · obtain ⟨e1, hb⟩ := hof b o e
    refine ⟨e1, ?_⟩
    rcases of_decide_eq_true hb with hb | ⟨y, hb⟩
    · cases q : X.base.get? b with
      | none => rw [q] at hb; cases hb
      | some o' => exact (I.bs b o' q).2
    · exact I.freeC y b hb
  · rw [PySem.W.hideAll_size]; exact Nat.le_refl _
  · refine funFrames_none e0.funs fun L hL => ?_
    cases q : (PySem.W.hideAll s.heap l).get? L with
    | none => rfl
    | some o =>
      obtain ⟨e1, hb⟩ := hof L o q
      have hf := e0.funs
      rcases of_decide_eq_true hb with hb | ⟨y, hb⟩
      · cases q2 : X.base.get? L with
        | none => rw [q2] at hb; cases hb
        | some o' =>
          have := (Heap.FunFrames.mem hf hL).1
          rw [q2] at this; cases this
      · exfalso
        rw [hst] at hL
        have hL' : L = X.env.locals ∨ L ∈ X.fs := by
          have : L ∈ frs (X.env :: X.outer) := hL
          unfold frs at this
          rw [List.filterMap_cons, hfr] at this
          exact List.mem_cons.mp this
        rcases hL' with rfl | hL'
        · obtain ⟨m, ⟨o1, es, ep, g1, g2, _⟩, _⟩ := I.loc
          obtain ⟨v, o2, e3, e4⟩ := I.cell y _ hb
          rw [g1] at e3; cases e3
          rw [g2] at e4; cases e4
        · obtain ⟨_, o', e2, _⟩ := I.ok.funs.mem hL'
          have h1 := Heap.lt_size e2
          exact Nat.lt_irrefl _ (Nat.lt_of_lt_of_le h1 (I.ok.cab y L (hfn y) hb))
  · obtain ⟨e1, hb⟩ := hof b o e
    rcases of_decide_eq_true hb with hb | hb
    · cases q2 : X.base.get? b with
      | none => rw [q2] at hb; cases hb
      | some o' => have := I.bk b o' q2; rw [e1] at this; cases this; exact .inl rfl
    · exact .inr hb
/-- what the captured slots hold -/
def capts (n : Nat) (capt : List Nat) (t : List (Option Slot)) : List (Option D) := (List.range n).map fun j => if j ∈ capt then (match t[j]? with
  | some (some (.val d)) => some d
  | _ => none) else none
theorem capts_get {n j : Nat} {capt : List Nat} {t : List (Option Slot)} {d : D} (h : (capts n capt t)[j]? = some (some d)) : j < n ∧ j ∈ capt ∧ t[j]? = some (some (.val d)) := by
  unfold capts at h
  rw [List.getElem?_map] at h
  by_cases hj : j < n
  · rw [List.getElem?_range hj] at h
    have h : (if j ∈ capt then (match t[j]? with
      | some (some (.val d)) => some d
      | _ => none) else none) = some d := Option.some.inj h
    split at h
    · rename_i hc
      split at h
      · rename_i d' e; cases h; exact ⟨hj, hc, e⟩
      · cases h
    · cases h
  · rw [List.getElem?_eq_none (by simpa using hj)] at h; cases h
/-- the frames below, as a callee sees them: this one too, if it makes lambdas -/
def upsOf (N : List Str) (capt : List Nat) (t : List (Option Slot)) : Option Nat → Ups → Ups
  | some fr, up => (fr, N, capts N.length capt t) :: up
  | none, up => up
def CaptOk (N : List Str) (sc : Scope) (capt : List Nat) : Prop := ∀ j ∈ capt, ∃ y, N[j]? = some y ∧ sc.names.lookup y = some .cell
def captB (N : List Str) (sc : Scope) (capt : List Nat) : Bool := capt.all fun j => match N[j]? with
  | some y => decide (sc.names.lookup y = some .cell)
  | none => false
theorem captOk_by {N : List Str} {sc : Scope} {capt : List Nat} (h : captB N sc capt = true) : CaptOk N sc capt := fun j hj => by
  have := List.all_eq_true.mp h j hj
  split at this
  · rename_i y e; exact ⟨y, e, of_decide_eq_true this⟩
  · cases this
theorem UpOk.base {K : PySem.W.Frag} {F : Hp} {ρ : Rho} {B B' : Heap} {u : Nat × List Str × List (Option D)} (h : UpOk K F ρ B u) (k : ∀ b o, B.get? b = some o → B'.get? b = some o) : UpOk K F ρ B' u := by
  obtain ⟨cs, h1, h2, h3, h4, h5⟩ := h
  have kc : ∀ c v, B.IsCell c v → B'.IsCell c v := fun c v ⟨o, e1, e2⟩ => ⟨o, k _ _ e1, e2⟩
  refine ⟨cs, h1, h2, h3, fun y c e => ?_, fun j d hj => ?_⟩
  · obtain ⟨v, z⟩ := h4 y c e; exact ⟨v, kc _ _ z⟩
  · obtain ⟨y, c, w, v, q1, q2, q3, q4, q5⟩ := h5 j d hj
    exact ⟨y, c, w, v, q1, q2, kc _ _ q3, q4, q5⟩
/-- the base for what is called here, and what it sees -/
theorem up_here {F Mm : Hp} {ρ : Rho} {b : BSt} {P0 : PX (fcOf X)} {kf : Nat} {me : Option Nat} {up : Ups} {capt : List Nat} (I : Inv X pins σ H s) (B : BRel X.K F P0 Mm ρ b σ H) (e : b.t[kf]? = some (some (.frm me up)))
    (hc : me ≠ none → (∀ x, X.fn x = true) ∧ X.stack = X.env :: X.outer ∧ X.env.frame = some X.env.locals ∧ CaptOk X.N X.env.scope capt) :
    ∃ B' : Heap, X.K.In B' ∧ B'.Ns mainGlobals X.mg ∧ Env0 X.prog X.w X.K X.mg B' X.A X.stack s H ∧ (∀ b o, X.base.get? b = some o → B'.get? b = some o) ∧ (∀ b o, B'.get? b = some o → s.heap.get? b = some o ∧ H b = none) ∧ ∀ u ∈ upsOf X.N capt b.t me up, UpOk X.K F ρ B' u := by
  have lk := B.frmAt e
  cases me with
  | none =>
    exact ⟨X.base, I.mod.kin, I.mod.glob, I.env0, fun _ _ z => z, I.bs, lk.2⟩
  | some fr =>
    obtain ⟨c1, c2, c3, c4⟩ := hc (by simp)
    obtain ⟨B', h1, h2, h3, h4, h5, _⟩ := L2.VI.Inv.baseUp I c1 c2 c3
    refine ⟨B', h1, h2, h3, h4, h3.bs, fun u hu => ?_⟩
    rcases List.mem_cons.mp hu with rfl | hu
    · have hcl : ρ.c fr = some X.env.cells := by
        rw [lk.1 fr rfl]
        show some (clOf X.stack) = _
        rw [c2]
        rfl
      refine ⟨X.env.cells, hcl, I.ok.inj, ?_, fun y c z => ?_, fun j d hj => ?_⟩
      · show (capts X.N.length capt b.t).length = X.N.length
        unfold capts
        simp
      · obtain ⟨v, z2⟩ := I.cell y c z
        exact ⟨v, h5 y c v z z2⟩
      · obtain ⟨_, j2, j3⟩ := capts_get hj
        obtain ⟨y, y1, y2⟩ := c4 j j2
        obtain ⟨P, qq, BB⟩ := B
        obtain ⟨v, v1, v2⟩ := BB.sl j _ j3
        obtain ⟨m, _, hl⟩ := I.loc
        obtain ⟨w, r, q⟩ := hl j y v y1 v1 (.inr (.inl y2))
        rcases q with ⟨z, _⟩ | ⟨_, c, z1, z2⟩
        · rw [show X.env.kindOf y = some .cell from y2] at z; cases z
        · exact ⟨y, c, w, v, y1, z1, h5 y c _ z1 z2, r, v2⟩
    · exact (lk.2 u hu).base h4
/-- a def that takes lambdas is called; kf: the frame's own slot, capt: the captured ones -/
def callU (kf : Nat) (N : List Str) (capt : List Nat) (m : FnU) (ds : List D) : M D := fun b => match b.t[kf]? with
  | some (some (.frm me up)) => callF (m (upsOf N capt b.t me up)) ds b
  | _ => .fail
theorem sp_ofU {K : PySem.W.Frag} {W : WX} {fc : FrC} {P0 : PX fc} {F Mm H : Hp} {ρ : Rho} {bs : BSt} {σ : St} {vs : List V} {zs : List D} {Q : VK} {n : Nat} {m : FnU} {ups : Ups} {B' : Heap} (ar : ArU m n) (B : BRel K F P0 Mm ρ bs σ H) (r : RepAll K F ρ vs zs) (hu : ∀ u ∈ ups, UpOk K F ρ B' u)
    (h : Post (Rep K) K W P0 F ρ σ Q (callF (m ups) zs bs)) : spU K B' n m vs H Q (WE W σ) := by
  obtain ⟨P, q, B⟩ := B
  have hn : vs.length = n := by
    by_cases hz : zs.length = n
    · rw [r.length]; exact hz
    · unfold callF at h; rw [ar _ _ _ hz] at h; exact h.elim
  refine ⟨hn, F, P, Mm, ρ, bs.g, zs, ups, B.h, hu, r, ?_⟩
  unfold callF at h
  cases e : m ups zs bs.g with
  | ok d g' => rw [e] at h; exact fun v F' M' ρ' H' l rl h' rr => h v F' M' ρ' H' l rl ⟨P, q, B.step l rl h'⟩ rr
  | exc x g' => rw [e] at h; exact fun v d F' M' ρ' H' l rl h' rr => h v d F' M' ρ' H' l rl ⟨P, q, B.step l rl h'⟩ rr
  | fail => rw [e] at h; exact h
/-- .. in a frame that makes none -/
def callT (kf : Nat) (m : FnU) (ds : List D) : M D := fun b => match b.t[kf]? with
  | some (some (.frm none up)) => callF (m up) ds b
  | _ => .fail
section
variable {W : WX} {k : Nat} {f : Addr} {fd : FuncData} {ps : List Str} {m : FnU} {x : Str} {p pos : Pos} {e : Expr} {es : List Expr} {mas : M (List D)} {kf : Nat} {capt : List Nat}
theorem se_callX {mU : List D → M D} (tk : Takes X W) (U : OkU X.prog X.w X.K X.mg k f fd ps m) (ar : ArU m ps.length) (hr : Room k X.A) (hm : X.mg x = some (.ref f)) (hk : PySem.W.keepIn X.K (.ref f) = true) (hb : Binds X.K fd ps []) (ha : SA X W (e :: es) mas)
    (hU : ∀ (F : Hp) (P0 : PX (fcOf X)) (ρ : Rho) (σ : St) (Q : VK) (zs : List D) (b1 : BSt), Post (Rep X.K) X.K W P0 F ρ σ Q (mU zs b1) → ∃ (me : Option Nat) (up : Ups), b1.t[kf]? = some (some (.frm me up)) ∧ (me ≠ none → (∀ x, X.fn x = true) ∧ X.stack = X.env :: X.outer ∧ X.env.frame = some X.env.locals ∧ CaptOk X.N X.env.scope capt) ∧
      Post (Rep X.K) X.K W P0 F ρ σ Q (callF (m (upsOf X.N capt b1.t me up)) zs b1))
    (hg : Gl X x) (hdb : (x == ("__debug__" : Str)) = false) (he : starEach (e :: es) X.env = (false, eval e X.env) :: starEach es X.env) (hpl : (backTo pos (starEach es X.env)).any (·.1) = false) :
    SE X W (.Call (.Name x p) (e :: es) [] pos) (M.bind mas mU) := by
  refine ⟨fun pins s σ H Q I ⟨F, P0, Mm, ρ, bs, B, q⟩ => ?_⟩
  apply wpAny_Call_Name_kw
  apply ld_glob I hg hm _ hdb
  have h0 : tA (fc := fcOf X) X.K W mas σ H (fun vs H1 => ∃ (F1 Mm1 : Hp) (ρ1 : Rho) (b1 : BSt) (zs : List D) (me : Option Nat) (up : Ups), BRel X.K F1 P0 Mm1 ρ1 b1 σ H1 ∧ RepAll X.K F1 ρ1 vs zs ∧ b1.t[kf]? = some (some (.frm me up)) ∧
      (me ≠ none → (∀ x, X.fn x = true) ∧ X.stack = X.env :: X.outer ∧ X.env.frame = some X.env.locals ∧ CaptOk X.N X.env.scope capt) ∧ Post (Rep X.K) X.K W P0 F1 ρ1 σ Q (callF (m (upsOf X.N capt b1.t me up)) zs b1)) :=
    tM_then B q fun xs zs F1 M1 r1 b1 H1 l1 e1 B1 q1 h1 => by
      obtain ⟨me, up, et, hc, h2⟩ := hU F1 P0 r1 σ Q zs b1 h1
      exact ⟨F1, M1, r1, b1, zs, me, up, B1, q1, et, hc, h2⟩
  refine PySem.W.callWith_K (h₀ := X.base) I.ok.mod.kin hk (thn (ha.run pos pins s σ H _ I h0) ?_) he hpl
  rintro ws s1 ⟨zs, H1, J, r, F1, M1, r1, b1, ds, me, up, B1, q1, et, hc, q2⟩
  refine ⟨J.kIn, ?_⟩
  obtain ⟨B', g1, g2, g3, _, _, g4⟩ := up_here (capt := capt) J B1 et hc
  have Fn := U B' g1 g2
  have sp := sp_ofU (W := W) ar B1 q1 g4 q2
  have hl : (ws ++ []).length = ps.length := by rw [List.append_nil, ← r.length]; exact Fn.len _ _ _ _ sp
  have hbind := hb s1 ws J.kIn hl
  rw [List.append_nil] at hbind
  refine wpAny_call (codeAny_mono (Fn.run X.A X.stack s1 H1 ⟨ws, []⟩ ws zs Q (WE W σ) hr g3 hbind r sp) ?_)
  rintro (er | fl) s' z
  · exact passAt tk σ pins H1 s1 er s' J z
  · cases fl with
    | ret u => exact J.after z
    | _ => exact False.elim z
theorem se_callU (tk : Takes X W) (U : OkU X.prog X.w X.K X.mg k f fd ps m) (ar : ArU m ps.length) (hr : Room k X.A) (hm : X.mg x = some (.ref f)) (hk : PySem.W.keepIn X.K (.ref f) = true) (hb : Binds X.K fd ps []) (ha : SA X W (e :: es) mas)
    (c1 : ∀ x, X.fn x = true := by intro _; rfl) (c2 : X.stack = X.env :: X.outer := by rfl) (c3 : X.env.frame = some X.env.locals := by rfl) (c4 : captB X.N X.env.scope capt = true := by rfl)
    (hg : Gl X x := by rfl) (hdb : (x == ("__debug__" : Str)) = false := by decide) (he : starEach (e :: es) X.env = (false, eval e X.env) :: starEach es X.env := by rfl) (hpl : (backTo pos (starEach es X.env)).any (·.1) = false := by rfl) :
    SE X W (.Call (.Name x p) (e :: es) [] pos) (M.bind mas (callU kf X.N capt m)) :=
  se_callX tk U ar hr hm hk hb ha (fun F P0 ρ σ Q zs b1 h => by
    unfold callU at h
    split at h
    · rename_i me up et
      exact ⟨me, up, et, fun _ => ⟨c1, c2, c3, captOk_by c4⟩, h⟩
    · exact h.elim) hg hdb he hpl
theorem se_callN (tk : Takes X W) (U : OkU X.prog X.w X.K X.mg k f fd ps m) (ar : ArU m ps.length) (hr : Room k X.A) (hm : X.mg x = some (.ref f)) (hk : PySem.W.keepIn X.K (.ref f) = true) (hb : Binds X.K fd ps []) (ha : SA X W (e :: es) mas)
    (hg : Gl X x := by rfl) (hdb : (x == ("__debug__" : Str)) = false := by decide) (he : starEach (e :: es) X.env = (false, eval e X.env) :: starEach es X.env := by rfl) (hpl : (backTo pos (starEach es X.env)).any (·.1) = false := by rfl) :
    SE X W (.Call (.Name x p) (e :: es) [] pos) (M.bind mas (callT kf m)) :=
  se_callX (capt := []) tk U ar hr hm hk hb ha (fun F P0 ρ σ Q zs b1 h => by
    unfold callT at h
    split at h
    · rename_i up et
      exact ⟨none, up, et, fun z => absurd rfl z, h⟩
    · exact h.elim) hg hdb he hpl
end
end
end L2.VI
/-! VI27: a lambda without parameters is called; try .. except C as n: y = n. -/
namespace L2.VI
open PySem PySem.Spec PyProof.Rows He
/-- the frame of a lambda that runs -/
def lamV (L : LamT) (cs : Cl) (s : Shared) (f c' : Addr) : Env := PySem.W.envX L.qual L.scope s.heap.objs.size f (.ref c') (cloFrom cs L.scope.names [])
def lamY (P : Program) (w : World) (K : PySem.W.Frag) (mg : Str → Option Value) (base : Heap) (L : LamT) (cs : Cl) (A : Around) (outer : List Env) (s : Shared) (H : Hp) (E : XK) (f c' : Addr) : Cx where
  prog := P
  w := w
  K := K
  mg := mg
  base := base
  A := A.deeper (lamV L cs s f c')
  N := L.N
  s_0 := s
  H_0 := H
  env := lamV L cs s f c'
  outer := outer
  stack := lamV L cs s f c' :: outer
  ex := []
  fn := fun _ => false
  calm := true
  pn := []
  xe := fun e s' => wpAny (model P w) (A.deeper (lamV L cs s f c')) (leaving (lamV L cs s f c') e) (fun _ s'' => CV P w outer H s E e s'') (fun e' s'' => CV P w outer H s E e' s'') s'
/-- what a lambda's body does, in any frame of its own -/
abbrev OkLam (P : Program) (w : World) (K : PySem.W.Frag) (mg : Str → Option Value) (base : Heap) (k : Nat) (L : LamT) (m : M D) : Prop := ∀ (cs : Cl) (A : Around) (outer : List Env) (s : Shared) (H : Hp) (E : XK) (f c' : Addr), Room k (A.deeper (lamV L cs s f c')) →
  SE (lamY P w K mg base L cs A outer s H E f c') (fun cls d _ H => E cls d H) L.body m
/-- the lambda has no parameters, no names of its own -/
structure LamB (L : LamT) : Prop where
  kind : L.scope.kind = .function
  co : L.scope.isCoroutine = false
  gen : L.scope.isGenerator = false
  own : ∀ y ∈ L.scope.names, y.2 ≠ .local ∧ y.2 ≠ .cell
  bind : ∀ (cl : List (Str × Addr)) (pm cv ctv : Value), bindArgs (PySem.W.kla_fn "<lambda>" L.qual L.params L.body L.scope cl pm cv ctv) ⟨[], []⟩ = pure []
section
variable {X : Cx} {pins : List (Addr × Obj)} {σ : St} {H : Hp} {s : Shared}
theorem clo_look {cs : Cl} {names : List (Str × NameKind)} (hf : ∀ y ∈ names, y.2 = .free → ∃ c, cs.lookup y.1 = some c) : (∀ {y c}, (cloFrom cs names []).lookup y = some c → cs.lookup y = some c) ∧ ∀ {y}, names.lookup y = some .free → ∃ c, (cloFrom cs names []).lookup y = some c := by
  refine ⟨fun {y c} e => ?_, fun {y} e => mem_lookup (cloFrom_has (cells := cs) (acc := []) (PySem.mem_of_lookup e))⟩
  rcases cloFrom_mem (PySem.mem_of_lookup e) with hm | ⟨h1, h2⟩
  · cases hm
  · obtain ⟨c1, h3⟩ := hf _ h1 rfl
    have h3 : cs.lookup y = some c1 := h3
    rw [h2, h3]
    rfl
/-- the lambda's frame begins -/
theorem lam_begin {L : LamT} {cs : Cl} {f c' : Addr} {h1 : Heap} {tk : Nat} {E : XK} {τ : St} (I : Inv X pins σ H s) (hd : X.A.handled = none) (hL : LamB L) (hf : ∀ y ∈ L.scope.names, y.2 = .free → ∃ c, cs.lookup y.1 = some c)
    (inj : ∀ y z c, cs.lookup y = some c → cs.lookup z = some c → y = z) (hc : ∀ y c, cs.lookup y = some c → ∃ v, X.base.IsCell c v) (hlen : τ.length = L.N.length)
    (hτ : ∀ (i : Nat) (y : Str) (v : V), L.N[i]? = some y → τ[i]? = some (some v) → ∃ c w, cs.lookup y = some c ∧ X.base.IsCell c (some w) ∧ RelV v w)
    (hns : h1.Ns s.heap.objs.size fun y => ([] : List (Str × Value)).reverse.lookup y) (kp : ∀ b o, s.heap.get? b = some o → h1.get? b = some o) :
    Inv (lamY X.prog X.w X.K X.mg X.base L cs X.A X.stack s H E f c') [] τ H { s with heap := h1, toks := tk } := by
  obtain ⟨cm, look⟩ := clo_look hf
  have e0 := I.env0
  have noA : ∀ b : Addr, b ∉ (lamY X.prog X.w X.K X.mg X.base L cs X.A X.stack s H E f c').ex := fun b z => absurd (show b ∈ ([] : List Addr) from z) (by simp)
  have cb : ∀ {c v}, X.base.IsCell c v → h1.IsCell c v ∧ H c = none := fun {c v} ⟨o, z1, z2⟩ => ⟨⟨o, kp _ _ (I.bs c o z1).1, z2⟩, (I.bs c o z1).2⟩
  refine ⟨⟨e0.mod, hL.kind, rfl, rfl, Nat.le_refl _, fun y z c e1 e2 => inj y z c (cm e1) (cm e2), fun y hy => ?_, fun y c z _ => (nomatch (show false = true from z)), fun _ => hd, Around.frames_deeper e0.frames, .inr ⟨rfl, rfl⟩, fun b z => absurd z (noA b), e0.bs, e0.bsz, fun b _ _ => noA b, fun b z => absurd z (noA b), e0.funs, e0.frf⟩,
    rfl, e0.bare, Un.kept kp, ⟨_, hns, fun i y v e1 e2 e3 => ?_⟩, fun y c e => ?_, e0.hok.fresh (Nat.le_refl _), fun y c e => ?_, fun q hq => absurd (show q ∈ ([] : List (Addr × Obj)) ++ [] from hq) (by simp), e0.hok.kept kp, hlen⟩
  · have hy : L.scope.names.lookup y = some .cell ∨ L.scope.names.lookup y = some .free := hy
    rcases hy with hy | hy
    · exact absurd rfl (hL.own _ (PySem.mem_of_lookup hy)).2
    · exact look hy
  · have e3 : Vis L.scope y := e3
    rcases e3 with z | z | z
    · exact absurd rfl (hL.own _ (PySem.mem_of_lookup z)).1
    · exact absurd rfl (hL.own _ (PySem.mem_of_lookup z)).2
    · obtain ⟨c, w, q1, q2, q3⟩ := hτ i y v e1 e2
      obtain ⟨c2, q4⟩ := look z
      have q5 := cm q4
      rw [q1] at q5; cases q5
      exact ⟨w, q3, .inr ⟨.inr z, c, q4, (cb q2).1⟩⟩
  · obtain ⟨v, z⟩ := hc y c (cm e)
    exact ⟨v, (cb z).1⟩
  · obtain ⟨v, z⟩ := hc y c (cm e)
    exact (cb z).2
end
/-- the frames below: the one with the number -/
def upFind (fr : Nat) (up : Ups) : Option (List Str × List (Option D)) := up.lookup fr
open Classical in
/-- x(): a lambda of the text, made by a frame below -/
noncomputable def lcallM (kf : Nat) (tbl : List (LamT × M D)) (me : M D) : M D := M.bind me fun d => fun b => match d, b.t[kf]? with
  | .lam i L fr, some (some (.frm _ up)) => (match tbl[i]?, up.lookup fr with
    | some (L', m), some (N, ts) => if L = L' ∧ N = L'.N then (match m ⟨b.g, ts.map fun o => o.map Slot.val⟩ with
      | .ok d b' => .ok d { b with g := b'.g }
      | .exc x b' => .exc x { b with g := b'.g }
      | .fail => .fail) else .fail
    | _, _ => .fail)
  | _, _ => .fail
section
variable {X : Cx} {W : WX}
theorem mem_lookupN {β : Type} {x : Nat} {d : β} : ∀ {l : List (Nat × β)}, l.lookup x = some d → (x, d) ∈ l
  | [], h => by cases h
  | (y, e) :: l, h => by
    simp only [List.lookup] at h
    split at h
    · rename_i hb
      have : x = y := by simpa using hb
      subst this
      cases h
      exact List.mem_cons_self
    · exact List.mem_cons_of_mem _ (mem_lookupN h)
open Classical in
theorem se_lcall {k kf : Nat} {tbl : List (LamT × M D)} {me : M D} {a : Str} {p1 p2 : Pos} (tk : Takes X W) (hr : Room (k + 1) X.A) (ha : SE X W (.Name a p1) me) (hB : ∀ q ∈ tbl, LamB q.1 ∧ OkLam X.prog X.w X.K X.mg X.base k q.1 q.2) :
    SE X W (.Call (.Name a p1) [] [] p2) (lcallM kf tbl me) := by
  refine ⟨fun pins s σ H Q I ⟨F, P0, Mm, ρ, bs, B, q⟩ => ?_⟩
  have h0 : tE (fc := fcOf X) X.K W me σ H (fun v H1 => ∃ (F1 Mm1 : Hp) (ρ1 : Rho) (b1 : BSt) (i fr : Nat) (L : LamT) (m : M D) (o : Option Nat) (up : Ups) (ts : List (Option D)), BRel X.K F1 P0 Mm1 ρ1 b1 σ H1 ∧ Rep X.K F1 ρ1 v (.lam i L fr) ∧ b1.t[kf]? = some (some (.frm o up)) ∧ (L, m) ∈ tbl ∧ (fr, L.N, ts) ∈ up ∧
      Post (Rep X.K) X.K W P0 F1 ρ1 σ Q (match m ⟨b1.g, ts.map fun o => o.map Slot.val⟩ with
        | .ok d b' => .ok d { b1 with g := b'.g }
        | .exc x b' => .exc x { b1 with g := b'.g }
        | .fail => .fail)) :=
    tM_then (k := fun d => fun b => match d, b.t[kf]? with
      | .lam i L fr, some (some (.frm _ up)) => (match tbl[i]?, up.lookup fr with
        | some (L', m), some (N, ts) => if L = L' ∧ N = L'.N then (match m ⟨b.g, ts.map fun o => o.map Slot.val⟩ with
          | .ok d b' => .ok d { b with g := b'.g }
          | .exc x b' => .exc x { b with g := b'.g }
          | .fail => .fail) else .fail
        | _, _ => .fail)
      | _, _ => .fail) B q fun v d F1 M1 r1 b1 H1 l1 e1 B1 q1 h1 => by
      split at h1
      · rename_i i L fr o up et
        split at h1
        · rename_i L' m N ts t1 t2
          split at h1
          · rename_i hL
            obtain ⟨rfl, rfl⟩ := hL
            exact ⟨F1, M1, r1, b1, i, fr, L, m, o, up, ts, B1, q1, et, List.mem_of_getElem? t1, mem_lookupN t2, h1⟩
          · exact h1.elim
        · exact h1.elim
      · exact h1.elim
  apply wpAny_Call_Name_kw
  refine thn (ha.run pins s σ H _ I h0) ?_
  rintro u s1 ⟨v, H1, J, rv, F1, M1, r1, b1, i, fr, L, m, o, up, ts, B1, rl, et, hm, hu, q1⟩
  obtain ⟨hB1, hB2⟩ := hB _ hm
  have lk := (B1.frmAt et).2 _ hu
  obtain ⟨cs, u1, u2, u3, u4, u5⟩ := lk
  cases rl with
  | @lam f c' _ _ _ cs2 pm ctv f1 f2 f3 f4 =>
  rw [u1] at f3
  cases f3
  obtain rfl : u = Value.ref f := rv
  have rf : H1 f = some (LamO L cs pm c' ctv) := by
    obtain ⟨P, qq, BB⟩ := id B1
    exact BB.h.fh _ _ f1
  have rc : H1 c' = some (LamX.CodeO c' L.qual) := by
    obtain ⟨P, qq, BB⟩ := id B1
    exact BB.h.fh _ _ f2
  have of1 := (J.hok f _ rf).1
  obtain ⟨⟨oc, vs, t, k1, k2, k3⟩, _, _⟩ := J.hok c' _ rc
  refine PySem.W.callWith_F0 ⟨_, _, _, _, of1⟩ ?_
  -- the slots of the lambda's frame
  have pick : ∀ j : Nat, ∃ x : Option V, (∀ d, ts[j]? = some (some d) → ∃ (y : Str) (c : Addr) (w : Value) (v : V), x = some v ∧ L.N[j]? = some y ∧ cs.lookup y = some c ∧ X.base.IsCell c (some w) ∧ RelV v w ∧ Rep X.K F1 r1 v d) ∧ ((∀ d, ts[j]? ≠ some (some d)) → x = none) := fun j => by
    by_cases hj : ∃ d, ts[j]? = some (some d)
    · obtain ⟨d, hj⟩ := hj
      obtain ⟨y, c, w, v, y1, y2, y3, y4, y5⟩ := u5 j d hj
      exact ⟨some v, fun d' h' => ⟨y, c, w, v, rfl, y1, y2, y3, y4, by rw [hj] at h'; cases h'; exact y5⟩, fun z => absurd hj (z d)⟩
    · exact ⟨none, fun d' h' => absurd ⟨d', h'⟩ hj, fun _ => rfl⟩
  obtain ⟨fn, hfn⟩ := Classical.axiomOfChoice pick
  have hτ : ∀ j x, ((List.range L.N.length).map fn)[j]? = some x → fn j = x ∧ j < L.N.length := fun j x e => by
    rw [List.getElem?_map] at e
    by_cases hj : j < L.N.length
    · rw [List.getElem?_range hj] at e
      exact ⟨Option.some.inj e, hj⟩
    · rw [List.getElem?_eq_none (by simpa using hj)] at e; cases e
  have rc2 : codeAny (model X.prog X.w) X.A (.call (.ref f) ⟨[], []⟩) (CR (CV X.prog X.w) X.stack X.prog X.w H1 s1 Q (WE W σ)) s1 := by
    refine PySem.W.kla_callFunE hr.depth of1 rfl hB1.co hB1.gen rfl ⟨c', oc, vs, t, rfl, k1, k2, k3⟩ ?_
    rw [hB1.bind]
    refine wpAny_pure (wpAny_newFunctionEnv (fun y hy => (hB1.own y hy).2) (fun y hy => absurd hy (by simp)) (fun h1 hns hsb => ⟨J.nolimit.fresh _ hsb, ?_⟩) hB1.kind)
    show codeAny _ _ (.expr L.body (lamV L cs s1 f c')) _ _
    have kp : ∀ b o, s1.heap.get? b = some o → h1.get? b = some o := fun b o e => hsb.extBut b o (Nat.ne_of_lt (Heap.lt_size e)) (Heap.get?_push_of_some _ e)
    have J2 : Inv (lamY X.prog X.w X.K X.mg X.base L cs X.A X.stack s1 H1 (WE W σ) f c') [] ((List.range L.N.length).map fn) H1 { s1 with heap := h1, toks := s1.toks + ([] : List (Str × Value)).length } :=
      lam_begin J hr.hd hB1 f4 u2 u4 (by simp) (fun j y v e1 e2 => by
        obtain ⟨z1, z2⟩ := hτ j _ e2
        by_cases hj : ∃ d, ts[j]? = some (some d)
        · obtain ⟨d, hj⟩ := hj
          obtain ⟨y', c, w, v', a1, a2, a3, a4, a5, _⟩ := (hfn j).1 d hj
          rw [z1] at a1; cases a1
          have e1 : L.N[j]? = some y := e1
          rw [e1] at a2; cases a2
          exact ⟨c, w, a3, a4, a5⟩
        · rw [(hfn j).2 (fun d z => hj ⟨d, z⟩)] at z1; cases z1) hns kp
    obtain ⟨P, qq, BB⟩ := B1
    have B2 : BRel (fc := fcOf (lamY X.prog X.w X.K X.mg X.base L cs X.A X.stack s1 H1 (WE W σ) f c')) X.K F1 P M1 r1 ⟨b1.g, ts.map fun o => o.map Slot.val⟩ ((List.range L.N.length).map fn) H1 := by
      have u3 : ts.length = L.N.length := u3
      refine ⟨P, fun _ => none, BB.h, fun _ _ z => z, by simp [u3], fun i j p e => (nomatch e), fun j sl e => ?_⟩
      have e : (ts.map fun o => o.map Slot.val)[j]? = some (some sl) := e
      rw [List.getElem?_map] at e
      cases ej : ts[j]? with
      | none => rw [ej] at e; cases e
      | some od =>
        rw [ej] at e
        cases od with
        | none => cases e
        | some d =>
          cases e
          obtain ⟨y', c, w, v', a1, a2, a3, a4, a5, a6⟩ := (hfn j).1 d ej
          refine ⟨v', ?_, a6⟩
          have hj : j < L.N.length := (List.getElem?_eq_some_iff.mp a2).1
          rw [List.getElem?_map, List.getElem?_range hj]
          exact congrArg some a1
    have post : tE (fc := fcOf (lamY X.prog X.w X.K X.mg X.base L cs X.A X.stack s1 H1 (WE W σ) f c')) X.K (fun cls d _ H => WE W σ cls d H) m ((List.range L.N.length).map fn) H1 Q := by
      refine ⟨F1, P, M1, r1, _, B2, ?_⟩
      generalize m ⟨b1.g, ts.map fun o => o.map Slot.val⟩ = z at q1 ⊢
      cases z with
      | ok d b' => exact fun v F' M' ρ' H' l r B3 rv => q1 v F' M' ρ' H' l r ⟨P, qq, BB.step l r B3.weak⟩ rv
      | exc x b' => exact fun cls d F' M' ρ' H' l r B3 rx => q1 cls d F' M' ρ' H' l r ⟨P, qq, BB.step l r B3.weak⟩ rx
      | fail => exact q1
    refine PySem.W.kla_codeExpr (wpAny_mono ((hB2 cs X.A X.stack s1 H1 (WE W σ) f c' (hr.deeper _)).run [] _ _ H1 Q J2 post) (fun v s' hq => ?_) fun e s' hq => hq)
    obtain ⟨w', H', J', rv, q⟩ := hq
    exact ⟨w', H', J'.os, J'.bare, J'.base, J'.hok, rv, q⟩
  refine wpAny_call (codeAny_mono rc2 ?_)
  rintro (er | fl) s' z
  · exact passAt tk σ pins H1 s1 er s' J z
  · cases fl with
    | ret u => exact J.after z
    | _ => exact False.elim z
end
end L2.VI
/-! VI28: try .. except C as n: y = n. -/
namespace L2.VI
open PySem PySem.Spec PyProof.Rows He
section
variable {X : Cx} {Wo : WX} {x n y : Str} {body : List Stmt} {np yp vp sp pos pos' : Pos} {mb : M Fl} {c : Str}
/-- try: .. except c as n: y = n; own: which classes of the module c takes -/
def tryKeep (i j : Nat) (own : List (Str × Bool)) (mb : M Fl) : M Fl := fun b => match mb b with
  | .exc e b' => (match own.lookup e.c with
    | some true => .ok .nx { b' with t := ((b'.t.set i (some (.val (.xob e.c e.fs)))).set j (some (.val (.xob e.c e.fs)))).set i none }
    | some false => .exc e b'
    | none => .fail)
  | r => r
theorem ss_tryKeep {i j : Nat} {own : List (Str × Bool)} (tk : Takes X Wo) (hcM : X.mg c = some (.ref (ga X.K c))) (ho : ∀ p ∈ own, PySem.W.exmOne X.K (.ref (ga X.K p.1)) (.ref (ga X.K c)) = some p.2) (hN : X.N.Nodup)
    (hb : ∀ (W : WX) (pn : List (Addr × Obj)) (xe : Value → Shared → Prop), Takes (X.tr pn xe) W → PassesOwn (model X.prog X.w) X.A X.env xe → SSs (X.tr pn xe) W body mb)
    (hi : X.N[i]? = some n := by rfl) (hj : X.N[j]? = some y := by rfl) (hln : X.env.scope.names.lookup n = some .local := by rfl) (hly : X.env.scope.names.lookup y = some .local := by rfl) (hij : i ≠ j := by decide) (hg : Gl X c := by rfl) (hdb : (c == ("__debug__" : Str)) = false := by decide)
    (dn : (n == ("__debug__" : Str)) = false := by decide) (dc : (n == ("__classdict__" : Str)) = false := by decide) (hs : X.stack = X.env :: X.outer := by rfl) (hf : X.env.frame = some X.env.locals := by rfl) (hx : X.ex = [] := by rfl) :
    SS X Wo (.Try body [.ExceptHandler (some (.Name c np)) (some n) [.Assign [.Name y yp] (.Name n vp) sp] pos'] [] [] pos) (tryKeep i j own mb) := by
  refine SS.of (ps_try_keep (c := .ref (ga X.K c)) (i := i) (j := j) (tb := fun W => sV (fc := fcOf X) X.K W mb) (Wo := Wo) hs hf hx hN hi hj hln hly hij ⟨hg, hdb, .inl hcM⟩ tk dn dc fun W pn xe t1 t2 => hb W pn xe t1 t2) fun σ H F P0 Mm ρ b D B q => ?_
  refine ⟨F, P0, Mm, ρ, b, B, ?_⟩
  unfold tryKeep at q
  cases e : mb b with
  | fail => rw [e] at q; exact q.elim
  | ok fl b' => rw [e] at q; cases fl <;> exact q
  | exc ex b' =>
    rw [e] at q
    dsimp only at q
    intro cls d σ' F' M' ρ' H' l r B' rx
    cases el : own.lookup ex.c with
    | none => rw [el] at q; exact q.elim
    | some k =>
      rw [el] at q
      have hcl := rx.1
      have hm := ho (ex.c, k) (PySem.mem_of_lookup el)
      refine ⟨k, by rw [hcl]; exact hm, fun hk a na => ?_, fun hk => ?_⟩
      · subst hk
        obtain ⟨B2, l2⟩ := B'.frozen na (XVv cls d a)
        have rep : Rep X.K (upd F' a (XVv cls d a)) ρ' (.ref a) (.xob ex.c ex.fs) := by
          obtain ⟨h1, h2⟩ := rx
          subst h1
          rcases h2 with ⟨h3, h4⟩ | ⟨dx, vs, h3, h4, h5, h6⟩
          · subst h4
            rw [h3]
            exact .xob0 upd_same
          · subst h3
            exact .xob upd_same (l2 _ _ h4) h5 (h6.mono l2 (Rle.refl _))
        exact q _ _ _ _ _ (l.trans l2) r (((B2.setV i rep).setV j rep).drop i none)
      · subst hk
        exact q cls d σ' F' M' ρ' H' l r B' rx
end
end L2.VI
/-! VI29: a list comprehension in a def that makes lambdas: in its block the def's cells are known. -/
namespace L2.VI
open PySem PySem.Spec PyProof.Rows He
abbrev reb (Y : Cx) (B : Heap) : Cx := { Y with base := B }
section
variable {Y : Cx} {X : Cx} {pins : List (Addr × Obj)} {σ : St} {H : Hp} {s : Shared}
theorem inv_reb {B : Heap} (I : Inv Y pins σ H s) (m : Mod Y.K Y.mg B) (b1 : ∀ b o, B.get? b = some o → Y.s_0.heap.get? b = some o ∧ Y.H_0 b = none) (b2 : B.objs.size ≤ Y.s_0.heap.objs.size) (b3 : ∀ b o, B.get? b = some o → b ∉ Y.ex) (b4 : Y.s_0.heap.FunFrames B Y.outer) : Inv (reb Y B) pins σ H s :=
  ⟨⟨m, I.ok.kind, I.ok.glob, I.ok.blt, I.ok.above, I.ok.inj, I.ok.has, I.ok.cab, I.ok.hd, I.ok.frames, I.ok.stk, I.ok.exf, b1, b2, b3, I.ok.exfs, b4, I.ok.frf⟩, I.os, I.bare, I.base, I.loc, I.cell, I.free, I.freeC, I.pin, I.hok, I.len⟩
/-- B: the def's base with its cells, as they are at the slots σ -/
structure BaseOf (X : Cx) (σ : St) (B : Heap) : Prop where
  up : ∀ b o, X.base.get? b = some o → B.get? b = some o
  inj : ∀ y z c, X.env.cells.lookup y = some c → X.env.cells.lookup z = some c → y = z
  cell : ∀ y c, X.env.cells.lookup y = some c → ∃ v, B.IsCell c v
  val : ∀ (i : Nat) (y : Str) (v : V), X.N[i]? = some y → σ[i]? = some (some v) → X.env.scope.names.lookup y = some .cell → ∃ c w, X.env.cells.lookup y = some c ∧ B.IsCell c (some w) ∧ RelV v w
theorem baseOf (I : Inv X pins σ H s) {B : Heap} (h1 : ∀ b o, X.base.get? b = some o → B.get? b = some o) (h2 : ∀ y c v, X.env.cells.lookup y = some c → s.heap.IsCell c v → B.IsCell c v) : BaseOf X σ B := by
  refine ⟨h1, I.ok.inj, fun y c e => ?_, fun i y v e1 e2 e3 => ?_⟩
  · obtain ⟨v, z⟩ := I.cell y c e
    exact ⟨v, h2 y c v e z⟩
  · obtain ⟨m, _, hl⟩ := I.loc
    obtain ⟨w, r, q⟩ := hl i y v e1 e2 (.inr (.inl e3))
    rcases q with ⟨z, _⟩ | ⟨_, c, z1, z2⟩
    · rw [show X.env.kindOf y = some .cell from e3] at z; cases z
    · exact ⟨c, w, z1, h2 y c _ z1 z2, r⟩
/-- what a comprehension walks, then: from whatever base with the cells -/
def tLcB (X : Cx) (wi : TI) (g : Heap → TG) (tt : Heap → TT) (te : Heap → TE) (vs : List Nat) : TE := fun σ H Q => wi σ H fun J H1 => ∀ D, H1 D = none → ∀ B, BaseOf X σ B → ∃ Wt : Nat → Nat → Hp → Prop, (∃ m, Wt 0 m (upd H1 D (.lst []))) ∧ ∀ i m G, Wt i m G →
  (J.stop i G ∧ Q (.ref D) G) ∨ (J.go i G ∧ ∃ Nx : Hp → Prop, (∀ G', Nx G' → ∃ m', m' < m ∧ Wt (i + 1) m' G') ∧ ∀ x G', J.yld i G x G' → g B x (wipe σ vs) G' fun τ G2 => wipe τ vs = wipe σ vs ∧ tt B τ G2 fun k G3 =>
    if k = true then te B τ G3 fun y G4 => ∃ acc, G4 D = some (.lst acc) ∧ acc.length < sizeLine ∧ Nx (upd G4 D (.lst (acc ++ [y]))) else Nx G3)
theorem lcB_core {Q : VK} {elt tg iter : Expr} {ifs : List Expr} {scope : Scope} {own : List (Str × Nat)} {pos pos' : Pos} {wi : TI} {g : Heap → TG} {tt : Heap → TT} {te : Heap → TE} {use : Option (Value → Sem Unit)} {Qf : Value → Shared → Prop} (hcalm : X.calm = true) (nd : X.N.Nodup)
    (hfn : ∀ x, X.fn x = true) (hst : X.stack = X.env :: X.outer) (hfr : X.env.frame = some X.env.locals) (I : Inv X pins σ H s) (hi : PI X tg iter wi) (ok : BlkOk X.N X.env.scope scope own)
    (hg : ∀ (B : Heap) (t : Shared) (G : Hp) (C : Addr) (cl : List (Str × Addr)) (fp : List Addr), X.K.In B → B.Ns mainGlobals X.mg → PG (reb (X.blk t G scope (compEnvC scope cl C X.env) fp) B) tg (g B))
    (ht : ∀ (B : Heap) (t : Shared) (G : Hp) (C : Addr) (cl : List (Str × Addr)) (fp : List Addr), X.K.In B → B.Ns mainGlobals X.mg → PTs (reb (X.blk t G scope (compEnvC scope cl C X.env) fp) B) ifs (tt B))
    (he : ∀ (B : Heap) (t : Shared) (G : Hp) (C : Addr) (cl : List (Str × Addr)) (fp : List Addr), X.K.In B → B.Ns mainGlobals X.mg → PE (reb (X.blk t G scope (compEnvC scope cl C X.env) fp) B) elt (te B)) (hs : ∀ x, foldedSetIterable iter X.env x = pure x)
    (h : tLcB X wi g tt te (own.map (·.2)) σ H Q)
    (ends : ∀ D C t m G, Inv X pins σ G t → Q (.ref D) G → t.heap.Ns C m → FpOk X pins G C → compPost (model X.prog X.w) X.A X.xe use Qf (.ref D) C (.ok .next) t) :
    wpAny (model X.prog X.w) X.A (comprehension (.ListComp elt [⟨tg, iter, ifs, 0⟩] scope pos) scope X.env pos' (newList []) false (eval iter X.env) use) Qf X.xe s := by
  have hfree : ∀ y ∈ scope.names, y.2 = .free → ∃ c, X.env.cells.lookup y.1 = some c := by
    intro y hy e
    exact (ok.free y hy e).elim (fun z => I.ok.has _ (.inl z)) (fun z => I.ok.has _ (.inr z))
  refine wpAny_comprehension_free (use := use) rfl hs (closure_ok hfree) ok.kind (fun y hy e => by rw [ok.uniq y hy, e]) ?_
  refine thn (hi.run pins s σ H _ I h) ?_
  intro xv s1 hx
  refine thn hx ?_
  rintro itv s2 ⟨it, fp, tn, J, H2, rfl, I2, T, st2, f2, q⟩
  refine wpAny_newObj_type (newEnv_comp ?_) (show 0 ≤ sizeLine by decide)
  generalize eD : s2.heap.objs.size = Dn
  have nD : H2 Dn = none := I2.hok.fresh (Nat.le_of_eq eD)
  have qD := q Dn nD
  generalize e3 : ({ s2 with heap := s2.heap.push { cls := .type "list", data := .seq ([] : List Value).toArray } } : Shared) = s3
  have h3 : s3.heap = s2.heap.push { cls := .type "list", data := .seq ([] : List Value).toArray } := by subst e3; rfl
  have I3 : Inv X pins σ (upd H2 Dn (.lst [])) s3 := by
    subst e3
    exact I2.laid (t' := s2.toks) (fun b o z => Heap.get?_push_of_some _ z) (Nat.le_of_eq eD) ⟨Nat.zero_le _, [], 0, .nil, by rw [← eD]; exact Heap.get?_push_size _ rfl⟩
  have sz : ∀ b ∈ fp, b < s2.heap.objs.size := by
    intro b hb
    obtain ⟨o, z, _⟩ := T.obj _ _ st2 b hb
    exact Heap.lt_size z
  have f3 : ∀ b ∈ fp, FpOk X pins (upd H2 Dn (.lst [])) b ∧ b < s3.heap.objs.size := by
    intro b hb
    have lt := sz b hb
    refine ⟨⟨?_, (f2 b hb).2⟩, by rw [h3, Heap.size_push]; exact Nat.lt_succ_of_lt lt⟩
    rw [upd_ne (by rw [← eD]; exact Nat.ne_of_lt lt)]
    exact (f2 b hb).1
  have st3 : tn 0 s3.heap := T.keep _ _ _ st2 (by intro b _ o z; rw [h3]; exact Heap.get?_push_of_some _ z)
  obtain ⟨B, kB, nB, eB, u1, u2, u3⟩ := L2.VI.Inv.baseUp I3 hfn hst hfr
  obtain ⟨Wt, ⟨m0, w0⟩, turn⟩ := qD B (baseOf I3 u1 u2)
  have I4' := block_start I3 ok nd f3
  have pg := hg B s3 (upd H2 Dn (.lst [])) s3.heap.objs.size (cellsFrom (s3.heap.objs.size + 1) scope.names (cloFrom X.env.cells scope.names [])) fp kB nB
  have pt := ht B s3 (upd H2 Dn (.lst [])) s3.heap.objs.size (cellsFrom (s3.heap.objs.size + 1) scope.names (cloFrom X.env.cells scope.names [])) fp kB nB
  have pe := he B s3 (upd H2 Dn (.lst [])) s3.heap.objs.size (cellsFrom (s3.heap.objs.size + 1) scope.names (cloFrom X.env.cells scope.names [])) fp kB nB
  show codeAny _ _ (.compStart (.ListComp elt [⟨tg, iter, ifs, 0⟩] scope pos) 0 (.ref it) (.ref Dn) (compEnvC scope (cellsFrom (s3.heap.objs.size + 1) scope.names (cloFrom X.env.cells scope.names [])) s3.heap.objs.size X.env)) (compPost (model X.prog X.w) X.A X.xe use Qf (.ref Dn) s3.heap.objs.size)
    { s3 with heap := pushCells (s3.heap.push { cls := .type "dict", data := .dict #[] }) scope.names }
  have nfp : ∀ b ∈ fp, (upd H2 Dn (.lst [])) b = none := by intro b hb; exact (f3 b hb).1.1
  generalize ece : compEnvC scope (cellsFrom (s3.heap.objs.size + 1) scope.names (cloFrom X.env.cells scope.names [])) s3.heap.objs.size X.env = ce at I4' pg pt pe ⊢
  have cL : ce.locals = s3.heap.objs.size := by rw [← ece]; rfl
  generalize eH : upd H2 Dn (.lst []) = H3 at I3 I4' pg pt pe w0 nfp f3 eB
  generalize e4 : ({ s3 with heap := pushCells (s3.heap.push { cls := .type "dict", data := .dict #[] }) scope.names } : Shared) = s4 at I4' ⊢
  have I4 : Inv (reb (X.blk s3 H3 scope ce fp) B) [] (wipe σ (own.map (·.2))) H3 s4 := inv_reb I4' eB.mod eB.bs eB.bsz (by
    intro b o z hb
    rcases u3 b o z with z | ⟨y, z⟩
    · exact I4'.ok.noex b o z hb
    · exact (f3 b hb).1.2.2.2.2.1 y b z rfl) eB.funs
  have st4 : tn 0 s4.heap := T.keep _ _ _ st3 (by intro b _ o z; subst e4; exact pushCells_keeps _ _ _ _ (Heap.get?_push_of_some _ z))
  have stat : ∀ {τ : St} {G : Hp} {t : Shared}, Inv (reb (X.blk s3 H3 scope ce fp) B) [] τ G t → (∀ b ∈ fp, G b = none) → ∀ b ∈ fp, FpOk (reb (X.blk s3 H3 scope ce fp) B) [] G b := by
    intro τ G t J1 hn b hb
    exact ⟨hn b hb, (J1.ok.exf b hb).1, J1.ok.exfs b hb, .inl hb, fun x c z => (J1.ok.exf b hb).2 x c z, fun p hp => by cases hp⟩
  have loop : codeAny (model X.prog X.w) X.A (.compLoop (.ListComp elt [⟨tg, iter, ifs, 0⟩] scope pos) 0 (.ref it) (.ref Dn) ce) (compPost (model X.prog X.w) X.A X.xe use Qf (.ref Dn) s3.heap.objs.size) s4 := by
    refine compLoop_any (fun n t => ∃ i G, Inv (reb (X.blk s3 H3 scope ce fp) B) [] (wipe σ (own.map (·.2))) G t ∧ tn i t.heap ∧ (∀ b ∈ fp, G b = none) ∧ Wt i n G) ?_ m0 ⟨0, H3, I4, st4, nfp, w0⟩
    rintro n s5 ⟨i, H5, I5, st5, n5, w5⟩
    rcases turn i n H5 w5 with ⟨stop, qq⟩ | ⟨go, Nx, hNx, step⟩
    · refine thnF (T.done (reb (X.blk s3 H3 scope ce fp) B) rfl rfl rfl hcalm i [] s5 _ H5 (fun _ _ => False) I5 (stat I5 n5) st5 stop) ?_
      rintro r s6 ⟨rfl, I6⟩
      have I7 : Inv X pins σ H5 s6 := I3.call' (ch := fp) I6.os I6.base I6.hok I6.bare (by intro b hb; exact ⟨(f3 b hb).1.2.2.2.1, (f3 b hb).1.2.1, (f3 b hb).1.2.2.2.2.1, (f3 b hb).1.2.2.2.2.2⟩)
      have nC : H5 s3.heap.objs.size = none := by
        have z : H5 ce.locals = none := I6.free
        rwa [cL] at z
      obtain ⟨m, hn, _⟩ := I6.loc
      have hn : s6.heap.Ns ce.locals m := hn
      rw [cL] at hn
      exact ends Dn s3.heap.objs.size s6 m H5 I7 qq hn (I3.fpOk (Nat.le_refl _) nC)
    · refine thnF (T.item (reb (X.blk s3 H3 scope ce fp) B) rfl rfl rfl hcalm i [] s5 _ H5 (fun _ _ => False) I5 (stat I5 n5) st5 go) ?_
      rintro r s6 ⟨u, rfl, h6⟩
      refine thnF h6 ?_
      rintro _ s7 ⟨x, H7, I7, r7, y7, st7, n7⟩
      have I7' := I7.pinned (stat I7 n7) (T.obj _ _ st7)
      refine thnF (pg.run _ s7 _ H7 x u _ I7' r7 (step x H7 y7)) ?_
      rintro _ s8 ⟨τ8, H8, I8, hw8, q8⟩
      refine thnF (pt.run _ s8 τ8 H8 _ I8 q8) ?_
      rintro k s9 ⟨H9, I9, q9⟩
      have fin : ∀ {t : Shared} {G : Hp}, Inv (reb (X.blk s3 H3 scope ce fp) B) ([] ++ pinsAt fp s7.heap) τ8 G t → Nx G → ∃ m, m < n ∧ ∃ i G, Inv (reb (X.blk s3 H3 scope ce fp) B) [] (wipe σ (own.map (·.2))) G t ∧ tn i t.heap ∧ (∀ b ∈ fp, G b = none) ∧ Wt i m G := by
        intro t G J1 nx
        obtain ⟨m', hm, w'⟩ := hNx G nx
        have pin' : ∀ b ∈ fp, ∀ o, s7.heap.get? b = some o → t.heap.get? b = some o ∧ G b = none := by
          intro b hb o z
          have y := J1.pin (b, o) (List.mem_append_right _ (List.mem_append_right _ (mem_pinsAt hb z)))
          exact ⟨y.1, y.2.1⟩
        have hl : (wipe σ (own.map (·.2))).length = τ8.length := by rw [← hw8, wipe_length]
        refine ⟨m', hm, i + 1, G, (J1.unpinned (pins := [])).weak hl ?_, T.keep _ _ _ st7 (by intro b hb o z; exact (pin' b hb o z).1), ?_, w'⟩
        · intro j v z
          rw [← hw8] at z
          exact (wipe_some z).1
        · intro b hb
          obtain ⟨o, z, _⟩ := T.obj _ _ st7 b hb
          exact (pin' b hb o z).2
      cases k with
      | false =>
        simp only [Bool.false_eq_true, if_false] at q9 ⊢
        exact fin I9 q9
      | true =>
        simp only [if_true] at q9 ⊢
        refine thnF (pe.run _ s9 τ8 H9 _ I9 q9) ?_
        rintro z s10 ⟨yv, H10, I10, r10, acc, hD10, hz10, nx⟩
        exact app_ok (X := reb (X.blk s3 H3 scope ce fp) B) I10 hD10 hz10 r10 (by intro s11 I11; exact fin I11 nx)
  exact codeAny_compStart_list loop (T.self X.A 0 _ _ _ st4 loop)
end
end L2.VI
/-! VI30: the shallow word of such a comprehension, its rule. -/
namespace L2.VI
open PySem PySem.Spec PyProof.Rows He
def dropFrm : Option Slot → Option Slot
  | some (.frm _ _) => none
  | o => o
/-- a comprehension in a def that makes lambdas: its block sees the captured slots as they are at its begin -/
def lcU (kf : Nat) (N : List Str) (capt : List Nat) (mi : M (List D)) (g : TgM) (tt : M Bool) (elt : M D) (vs : List Nat) : M SO := M.bind mi fun ds => fun b => match b.t[kf]? with
  | some (some (.frm o up)) => (match compL g tt elt vs [] ds (({ b with t := b.t.set kf (some (.frm none (upsOf N capt b.t o up))) } : BSt).wip vs) with
    | .ok acc b' => .ok (.lst acc) { b' with t := (b'.t.map dropFrm).set kf (some (.frm o up)) }
    | _ => .fail)
  | _ => .fail
section
variable {K : PySem.W.Frag} {F Mm H : Hp} {ρ : Rho} {b : BSt} {σ : St} {fc fc' : FrC} {kf : Nat} {o : Option Nat} {up ups : Ups}
theorem BRel.toB {P0 : PX fc} (B : BRel K F P0 Mm ρ b σ H) (e : b.t[kf]? = some (some (.frm o up))) (hcl : fc'.cl = fc.cl) (hb : ∀ a u, fc.base.get? a = some u → fc'.base.get? a = some u) (hu : ∀ u ∈ ups, UpOk K F ρ fc'.base u) :
    BRel (fc := fc') K F P0 Mm ρ { b with t := b.t.set kf (some (.frm none ups)) } σ H := by
  obtain ⟨P, q, B⟩ := B
  refine ⟨P, q, B.h, B.pp, by simpa using B.len, B.qi, fun j s x => ?_⟩
  have x' : (b.t.set kf (some (Slot.frm none ups)))[j]? = some (some s) := x
  have hl : kf < b.t.length := (List.getElem?_eq_some_iff.mp e).1
  by_cases hj : j = kf
  · subst hj
    rw [List.getElem?_set_self hl] at x'
    cases x'
    obtain ⟨v, hv, _⟩ := B.sl j _ e
    exact ⟨v, hv, fun fr z => (nomatch z), hu⟩
  · rw [List.getElem?_set_ne (Ne.symm hj)] at x'
    have z := B.sl j s x'
    cases s with
    | val d => exact z
    | own so => exact z
    | frm o' up' =>
      obtain ⟨v, hv, z1, z2⟩ := z
      exact ⟨v, hv, fun fr y => by rw [hcl]; exact z1 fr y, fun u y => (z2 u y).base hb⟩
theorem Frs.fromB {P0 : PX fc'} {p : Addr} {so : SO} (h : Frs (fc := fc') K F P0 Mm ρ b σ H p so) (hk : ∃ v, σ[kf]? = some (some v)) (lk : Lk K F ρ fc o up) : Frs (fc := fc) K F P0 Mm ρ { b with t := (b.t.map dropFrm).set kf (some (.frm o up)) } σ H p so := by
  obtain ⟨P, q, B, r, pl, n0, nq⟩ := h
  refine ⟨P, q, ⟨B.h, B.pp, by simpa using B.len, B.qi, fun j s x => ?_⟩, r, pl, n0, nq⟩
  have x' : ((b.t.map dropFrm).set kf (some (Slot.frm o up)))[j]? = some (some s) := x
  by_cases hj : j = kf
  · subst hj
    have hl : j < (b.t.map dropFrm).length := by
      by_cases h : j < (b.t.map dropFrm).length
      · exact h
      · rw [List.getElem?_eq_none (by simpa using h)] at x'; cases x'
    rw [List.getElem?_set_self hl] at x'
    cases x'
    obtain ⟨v, hv⟩ := hk
    exact ⟨v, hv, lk⟩
  · rw [List.getElem?_set_ne (Ne.symm hj), List.getElem?_map] at x'
    cases e : b.t[j]? with
    | none => rw [e] at x'; cases x'
    | some w =>
      rw [e] at x'
      have x' : dropFrm w = some s := Option.some.inj x'
      cases w with
      | none => cases x'
      | some w =>
        cases w with
        | val d => cases x'; exact B.sl j _ e
        | own so' => cases x'; exact B.sl j _ e
        | frm _ _ => cases x'
theorem tlc_in {P0 : PX fc} {fc0 : FrC} {P00 : PX fc0} {σ0 : St} {g : TgM} {mt : M Bool} {me : M D} {vs : List Nat} {ds : List D} {J : It} {F0 M0 H1 : Hp} {r0 : Rho} {b0 bF : BSt} {Dn : Addr} {accF : List D} {Qe : VK}
    (fr : Frs K F0 P0 M0 r0 b0 (wipe σ vs) H1 Dn (.lst [])) (hb0 : b0 = b0.wip vs) (it : ItrOf K P00 σ0 J F0 r0 ds) (hq : compL g mt me vs [] ds b0 = .ok accF bF)
    (hend : ∀ F' M' ρ' H', Leq F0 F' → Rle r0 ρ' → Frs K F' P0 M' ρ' bF (wipe σ vs) H' Dn (.lst accF) → bF = bF.wip vs → Qe (.ref Dn) H') :
    ∃ Wt : Nat → Nat → Hp → Prop, (∃ m, Wt 0 m H1) ∧ ∀ i m G, Wt i m G →
      (J.stop i G ∧ Qe (.ref Dn) G) ∨ (J.go i G ∧ ∃ Nx : Hp → Prop, (∀ G', Nx G' → ∃ m', m' < m ∧ Wt (i + 1) m' G') ∧ ∀ x G', J.yld i G x G' → tG (fc := fc) K vs g x (wipe σ vs) G' fun τ G2 => wipe τ vs = wipe σ vs ∧ tT (fc := fc) K W0 mt τ G2 fun k G3 =>
        if k = true then tE (fc := fc) K W0 me τ G3 fun y G4 => ∃ acc, G4 Dn = some (.lst acc) ∧ acc.length < sizeLine ∧ Nx (upd G4 Dn (.lst (acc ++ [y]))) else Nx G3) := by
  have wi : ∀ b : BSt, b.wip vs = (b.wip vs).wip vs := fun b => by
    unfold BSt.wip
    rw [wipeT_idem]
  refine ⟨fun i n G => n = ds.length - i ∧ ∃ F' Mm ρ' b acc, Leq F0 F' ∧ Rle r0 ρ' ∧ Frs K F' P0 Mm ρ' b (wipe σ vs) G Dn (.lst acc) ∧ b = b.wip vs ∧ compL g mt me vs acc (ds.drop i) b = .ok accF bF, ⟨_, rfl, F0, M0, r0, b0, [], Leq.refl _, Rle.refl _, fr, hb0, hq⟩, ?_⟩
  rintro i n G ⟨rfl, F1, M1, r1, b1, acc, l1, e1, fr1, bt, q1⟩
  obtain ⟨u, Bp, ru, n0, pl⟩ := fr1.prot
  obtain ⟨i1, i2⟩ := it i F1 M1 r1 _ _ b1 (wipe σ vs) G l1 e1 Bp
  by_cases hlt : i < ds.length
  · obtain ⟨hgo, hy⟩ := i2 hlt
    refine .inr ⟨hgo, fun G' => ∃ F' Mm ρ' b acc, Leq F0 F' ∧ Rle r0 ρ' ∧ Frs K F' P0 Mm ρ' b (wipe σ vs) G' Dn (.lst acc) ∧ b = b.wip vs ∧ compL g mt me vs acc (ds.drop (i + 1)) b = .ok accF bF, fun G' h => ⟨ds.length - (i + 1), by omega, rfl, h⟩, fun x G2 y => ?_⟩
    obtain ⟨F2, l2, B2, r2⟩ := hy x G2 y
    rw [show ds.drop i = ds[i] :: ds.drop (i + 1) from List.drop_eq_getElem_cons hlt] at q1
    refine ⟨F2, _, M1, r1, b1, ds[i], B2, r2 _ (List.getElem?_eq_getElem hlt), ?_⟩
    unfold compL at q1
    cases eg : g ds[i] b1 with
    | none => rw [eg] at q1; cases q1
    | some b3 =>
      rw [eg] at q1
      intro σ3 F3 M3 r3 G3 l3 e3 B3 w3
      rw [wipe_idem] at w3
      have w3' : wipe σ3 vs = wipe (wipe σ vs) vs := by rw [wipe_idem]; exact w3
      refine ⟨w3, F3, _, M3, r3, b3, B3, ?_⟩
      dsimp only at q1
      cases et : mt b3 with
      | fail => rw [et] at q1; cases q1
      | exc x b4 => rw [et] at q1; cases q1
      | ok t b4 =>
        rw [et] at q1
        intro tv F4 M4 r4 G4 l4 e4 B4 ht
        subst ht
        cases tv with
        | false =>
          exact (if_neg Bool.false_ne_true).mpr ⟨F4, M4, r4, b4.wip vs, acc, ((l1.trans l2).trans l3).trans l4, (e1.trans e3).trans e4, (B4.unprot (ru.monoP ((l2.trans l3).trans l4) (e3.trans e4) pl fun w z => z) n0 pl).back w3', wi b4, q1⟩
        | true =>
          refine (if_pos rfl).mpr ⟨F4, _, M4, r4, b4, B4, ?_⟩
          dsimp only at q1
          cases ee : me b4 with
          | fail => rw [ee] at q1; cases q1
          | exc x b5 => rw [ee] at q1; cases q1
          | ok y b5 =>
            rw [ee] at q1
            intro v F5 M5 r5 G5 l5 e5 B5 rv
            dsimp only at q1
            by_cases hz : acc.length < sizeLine
            · rw [if_pos hz] at q1
              have fr5 := B5.unprot (ru.monoP (((l2.trans l3).trans l4).trans l5) ((e3.trans e4).trans e5) pl fun w z => z) n0 pl
              obtain ⟨vs', hv1, hv2, fr6⟩ := fr5.app rv
              exact ⟨vs', hv1, by rw [hv2]; exact hz, F5, M5, r5, b5.wip vs, acc ++ [y], (((l1.trans l2).trans l3).trans l4).trans l5, ((e1.trans e3).trans e4).trans e5, fr6.back w3', wi b5, q1⟩
            · rw [if_neg hz] at q1
              cases q1
  · refine .inl ⟨i1 (by omega), ?_⟩
    rw [List.drop_eq_nil_of_le (by omega)] at q1
    unfold compL at q1
    cases q1
    exact hend F1 M1 r1 G l1 e1 fr1 bt
end
section
variable {X : Cx} {W : WX} {tg elt iter : Expr} {ifs : List Expr} {scope : Scope} {own : List (Str × Nat)} {pos : Pos} {mi : M (List D)} {g : TgM} {mt : M Bool} {me : M D} {kf : Nat} {capt : List Nat}
theorem ups_of {σ : St} {F Mm H : Hp} {P0 : PX (fcOf X)} {ρ : Rho} {b : BSt} {B : Heap} {o : Option Nat} {up : Ups} (Bo : BaseOf X σ B) (R : BRel X.K F P0 Mm ρ b σ H) (e : b.t[kf]? = some (some (.frm o up))) (hcl : clOf X.stack = X.env.cells) (hc : CaptOk X.N X.env.scope capt) :
    ∀ u ∈ upsOf X.N capt b.t o up, UpOk X.K F ρ B u := by
  have lk := R.frmAt e
  have old : ∀ u ∈ up, UpOk X.K F ρ B u := fun u hu => (lk.2 u hu).base Bo.up
  cases o with
  | none => exact old
  | some fr =>
    intro u hu
    rcases List.mem_cons.mp hu with rfl | hu
    · refine ⟨X.env.cells, by rw [lk.1 fr rfl]; exact congrArg some hcl, Bo.inj, ?_, Bo.cell, fun j d hj => ?_⟩
      · show (capts X.N.length capt b.t).length = X.N.length
        unfold capts
        simp
      · obtain ⟨_, j2, j3⟩ := capts_get hj
        obtain ⟨y, y1, y2⟩ := hc j j2
        obtain ⟨P, qq, BB⟩ := R
        obtain ⟨v, v1, v2⟩ := BB.sl j _ j3
        obtain ⟨c, w, z1, z2, z3⟩ := Bo.val j y v y1 v1 y2
        exact ⟨y, c, w, v, y1, z1, z2, z3, v2⟩
    · exact old u hu
theorem sn_lcU (nd : X.N.Nodup) (hi : SI X W tg iter mi) (ok : BlkOk X.N X.env.scope scope own)
    (hg : ∀ (B : Heap) (t : Shared) (G : Hp) (C : Addr) (cl : List (Str × Addr)) (fp : List Addr), X.K.In B → B.Ns mainGlobals X.mg → SG (reb (X.blk t G scope (compEnvC scope cl C X.env) fp) B) (own.map (·.2)) tg g)
    (ht : ∀ (B : Heap) (t : Shared) (G : Hp) (C : Addr) (cl : List (Str × Addr)) (fp : List Addr), X.K.In B → B.Ns mainGlobals X.mg → STs (reb (X.blk t G scope (compEnvC scope cl C X.env) fp) B) W0 ifs mt)
    (he : ∀ (B : Heap) (t : Shared) (G : Hp) (C : Addr) (cl : List (Str × Addr)) (fp : List Addr), X.K.In B → B.Ns mainGlobals X.mg → SE (reb (X.blk t G scope (compEnvC scope cl C X.env) fp) B) W0 elt me)
    (hkf : kf ∉ own.map (·.2)) (hcalm : X.calm = true := by rfl) (c1 : ∀ x, X.fn x = true := by intro _; rfl) (c2 : X.stack = X.env :: X.outer := by rfl) (c3 : X.env.frame = some X.env.locals := by rfl) (c4 : captB X.N X.env.scope capt = true := by rfl)
    (hs : ∀ x, foldedSetIterable iter X.env x = pure x := by intro _; rfl) : SN X W (.ListComp elt [⟨tg, iter, ifs, 0⟩] scope pos) (lcU kf X.N capt mi g mt me (own.map (·.2))) := by
  have hcl : clOf X.stack = X.env.cells := by rw [c2]; rfl
  refine ⟨fun pins s σ H Q I ⟨F, P0, Mm, ρ, b, B, q⟩ => ?_⟩
  rw [eval_ListComp]
  have h : tLcB X (fun σ H R => ∃ (F : Hp) (P0 : PX (fcOf X)) (Mm : Hp) (ρ : Rho) (b : BSt), BRel X.K F P0 Mm ρ b σ H ∧ PostI X.K W P0 F ρ σ R (mi b)) (fun B => tG (fc := ⟨clOf X.stack, B⟩) X.K (own.map fun (x : Str × Nat) => x.2) g) (fun B => tT (fc := ⟨clOf X.stack, B⟩) X.K W0 mt) (fun B => tE (fc := ⟨clOf X.stack, B⟩) X.K W0 me) (own.map fun (x : Str × Nat) => x.2) σ H Q := by
    refine ⟨F, P0, Mm, ρ, b, B, ?_⟩
    unfold lcU M.bind at q
    cases e : mi b with
    | exc x b' => rw [e] at q; exact q
    | fail => rw [e] at q; exact q.elim
    | ok ds b' =>
      rw [e] at q
      intro J F0 M0 r0 H0 l0 e0 B0 it Dn hD Bs Bo
      have q0 := PostF.mono q l0 e0
      dsimp only at q0
      split at q0
      · rename_i o up ek
        split at q0
        · rename_i accF bF hq
          have lk := B0.frmAt ek
          have B1 : BRel (fc := ⟨clOf X.stack, Bs⟩) X.K F0 P0 M0 r0 { b' with t := b'.t.set kf (some (.frm none (upsOf X.N capt b'.t o up))) } σ H0 := B0.toB ek rfl Bo.up (ups_of Bo B0 ek hcl (captOk_by c4))
          have fr := (B1.wip (own.map fun (x : Str × Nat) => x.2)).fresh (u := .lst []) (so := .lst []) hD (fun P' h => ⟨[], h, .nil⟩) rfl
          refine tlc_in (fc0 := fcOf X) fr (by unfold BSt.wip; rw [wipeT_idem]) it hq fun F' M' ρ' H' l r fr' bt => ?_
          have z := fr'.back (vs := own.map fun (x : Str × Nat) => x.2) (σ := σ) (wipe_idem _)
          rw [← bt] at z
          exact q0 Dn F' M' ρ' H' l r (Frs.fromB (fc := fcOf X) (fc' := ⟨clOf X.stack, Bs⟩) (kf := kf) z (B0.slotV ek) (lk.mono l r))
        · exact q0.elim
      · exact q0.elim
  refine lcB_core (use := none) (g := fun B => tG (fc := ⟨clOf X.stack, B⟩) X.K (own.map fun (x : Str × Nat) => x.2) g) (tt := fun B => tT (fc := ⟨clOf X.stack, B⟩) X.K W0 mt) (te := fun B => tE (fc := ⟨clOf X.stack, B⟩) X.K W0 me) hcalm nd c1 c2 c3 I hi ok hg ht he hs h fun D C t m G I' q' hn f => ⟨m, hn, fun h2 sb => ?_⟩
  obtain ⟨f0, f1, f2, f3, f4, f5⟩ := f
  exact ⟨.ref D, G, I'.turned (t' := t.toks) (fun b o hb e => (sb.2 b hb).trans e) f0 f1 f3 f4 f5, rfl, q'⟩
end
end L2.VI
/-! VI31: the law's end where defs make lambdas: their code objects' tables. -/
namespace L2.VI
open PySem PySem.Spec PyProof.Rows He
/-- the store at the begin: the tables -/
def tabsG (ts : List (Str × Str)) : GSt := ⟨fun k => (ts[k]?).map fun p => .tab p.1 p.2, ts.length⟩
/-- what is known of the tables -/
structure Tabs0 (ts : List (Str × Str)) (K : PySem.W.Frag) (h : Heap) : Prop where
  at_ : ∀ p ∈ ts, h.get? (tabA K p.1) = some (PySem.W.tabObj #[])
  no : ∀ p ∈ ts, K.lookup (tabA K p.1) = none
  hd : ∀ p ∈ ts, PySem.W.codeHdIn K (codA K p.1) (tabA K p.1) = true
  nd : (ts.map fun p => tabA K p.1).Nodup
theorem sp_lawT {K : PySem.W.Frag} {m : FnD} {H : Hp} {a : Addr} {ns : List Int} {ts : List (Str × Str)} (hT : ∀ p ∈ ts, H (tabA K p.1) = some (.tbl #[])) (nd : (ts.map fun p => tabA K p.1).Nodup) (hS : SqL K H a (ns.map V.int)) (h : ∃ g', m [.scr ns] (tabsG ts) = .ok (.bl true) g') :
    spV K 1 m [.ref a] H (fun v _ => v = .bl true) (fun _ _ _ => False) := by
  classical
  obtain ⟨g', e⟩ := h
  let tabs := ts.map fun p => tabA K p.1
  have hM : ∀ b, b ∈ tabs → H b = some (.tbl #[]) := fun b hb => by
    obtain ⟨p, hp, e⟩ := List.mem_map.mp hb
    rw [← e]; exact hT p hp
  let F : Hp := fun b => if b ∈ tabs then none else H b
  let Mm : Hp := fun b => if b ∈ tabs then some (.tbl #[]) else none
  have hF : ∀ b u, F b = some u → b ∉ tabs ∧ H b = some u := fun b u z => by
    by_cases hb : b ∈ tabs
    · have : F b = none := if_pos hb
      rw [this] at z; cases z
    · have : F b = H b := if_neg hb
      rw [this] at z; exact ⟨hb, z⟩
  have hMm : ∀ b u, Mm b = some u → b ∈ tabs ∧ u = .tbl #[] := fun b u z => by
    by_cases hb : b ∈ tabs
    · have : Mm b = some (.tbl #[]) := if_pos hb
      rw [this] at z; cases z; exact ⟨hb, rfl⟩
    · have : Mm b = none := if_neg hb
      rw [this] at z; cases z
  have inM : ∀ b, b ∈ tabs → Mm b = some (.tbl #[]) := fun b hb => if_pos hb
  let ρ : Rho := ⟨fun k => (ts[k]?).map fun p => tabA K p.1, fun _ => none⟩
  have hρ : ∀ k b, ρ k = some b → tabs[k]? = some b := fun k b z => by
    show (ts.map fun p => tabA K p.1)[k]? = some b
    rw [List.getElem?_map]; exact z
  have R : HRel K F (fun _ => none) Mm ρ (tabsG ts) H := by
    refine ⟨fun b u z => ?_, fun _ _ z => (nomatch z), fun b u z => ?_, fun b u z => ⟨rfl, ?_⟩, fun _ _ z => (nomatch z), fun k so z => ?_, fun k j b z1 z2 => ?_, fun k hk => ⟨?_, rfl⟩, fun k b z => ?_⟩
    · split
      · exact .inl (hF b u z).2
      · exact (hF b u z).2
    · obtain ⟨y1, y2⟩ := hMm b u z
      rw [y2]; exact hM b y1
    · cases y : Mm b with
      | none => rfl
      | some w => exact absurd (hMm b w y).1 (hF b u z).1
    · have z : (ts[k]?).map (fun p => SO.tab p.1 p.2) = some so := z
      cases y : ts[k]? with
      | none => rw [y] at z; cases z
      | some p =>
        rw [y] at z; cases z
        refine ⟨tabA K p.1, ?_, #[], inM _ (List.mem_map.mpr ⟨p, List.mem_of_getElem? y, rfl⟩), rfl, True.intro, fun pos cv hc => ?_⟩
        · show (ts[k]?).map (fun p => tabA K p.1) = _
          rw [y]; rfl
        · have hc : codeAmong pos [] = some cv := hc
          simp [codeAmong] at hc
    · exact (List.getElem?_inj (List.getElem?_eq_some_iff.mp (hρ k b z1)).1 nd).mp ((hρ k b z1).trans (hρ j b z2).symm)
    · show (ts[k]?).map (fun p => tabA K p.1) = none
      have hk : ts.length ≤ k := hk
      rw [List.getElem?_eq_none hk]; rfl
    · exact ⟨_, inM b (List.mem_of_getElem? (hρ k b z)), fun _ y => nomatch y⟩
  have hS' : SqL K F a (ns.map V.int) := by
    have nt : H a ≠ some (.tbl #[]) → a ∉ tabs := fun h z => h (hM a z)
    rcases hS with (z | ⟨o, z⟩) | z
    · exact .inl (.inl ((if_neg (nt (by rw [z]; simp))).trans z))
    · exact .inl (.inr ⟨o, (if_neg (nt (by rw [z]; simp))).trans z⟩)
    · exact .inr z
  refine ⟨rfl, F, fun _ => none, Mm, ρ, tabsG ts, [.scr ns], R, .cons (.scr hS') .nil, ?_⟩
  rw [e]
  intro v F' M' ρ' H' l r hh rv
  cases rv
  rfl
/-- the law's promise at its heap, where no repr is under way; T: its code objects' tables -/
theorem law_callGT {P : Program} {w : World} {K : PySem.W.Frag} {mg mb : Str → Option Value} {k : Nat} {af a : Addr} {fd : FuncData} {x : Str} {sp : Sp} {t : Shared} {us : List Value} {is : List Int} {ts : List (Str × Str)}
    (KX : K.In t.heap) (hns : t.heap.Ns mainGlobals mg) (hb : t.heap.Ns builtinsNs mb) (hbb : ∀ x : Str, x ≠ "__name__" → mb x = bootBuiltins x) (hlim : t.heap.NoLimit) (hg : t.gens = #[]) (T : Tabs0 ts K t.heap)
    (hbm : ∃ (bm : Addr) (ob : Obj), mg "__builtins__" = some (.ref bm) ∧ bm ≠ builtinsNs ∧ t.heap.get? bm = some ob ∧ ob.cls = .type "module" ∧ ob.dict = some builtinsNs ∧ ob.data = .plain)
    (ha : t.heap.get? a = some { cls := .type "list", data := .seq us.toArray }) (hi : IntsAre us is) (hl : is.length ≤ sizeLine) (hr : Room k callerA)
    (F : ∀ base : Heap, K.In base → base.Ns mainGlobals mg → (∀ p ∈ ts, LamX.TabB base mg (codA K p.1) (tabA K p.1)) → FnG P w K mg base k af fd [x] sp) (hbind : ∀ (s : Shared) (u : Value), BindsTo s fd ⟨[u], []⟩ [(x, u)])
    (hsp : ∀ H : Hp, (∀ p ∈ ts, H (tabA K p.1) = some (.tbl #[])) → SqL K H a (is.map V.int) → sp [.ref a] H (fun v _ => v = .bl true) fun _ _ _ => False) (hCX : ∀ H e s', CV P w [] H t (fun _ _ _ => False) e s' → False) :
    codeAny (model P w) callerA (.call (.ref af) ⟨[.ref a], []⟩) (fun r s' => r = .ok (.ret (.bool true)) ∧ OldK t.heap s'.heap ∧ s'.os = t.os ∧ AllBare s'.gens) t := by
  classical
  have rv := vals_ints hi
  let tabs := ts.map fun p => tabA K p.1
  have tabAt : ∀ b, b ∈ tabs → t.heap.get? b = some (PySem.W.tabObj #[]) := fun b hb => by
    obtain ⟨p, hp, e⟩ := List.mem_map.mp hb
    rw [← e]; exact T.at_ p hp
  have inT : ∀ p ∈ ts, tabA K p.1 ∈ tabs := fun p hp => List.mem_map.mpr ⟨p, hp, rfl⟩
  have aT : a ∉ tabs := fun hb => by
    have z := tabAt a hb
    rw [ha] at z
    have z2 : Data.seq us.toArray _ = Data.fields #[] := congrArg Obj.data (Option.some.inj z)
    cases z2
  suffices core : ∃ H : Hp, (∀ b, H b = none ∨ b ∈ tabs ∨ ∃ ob xs, H b = some (.frz ob (.lst xs))) ∧ (∀ b, b ∈ tabs → H b = some (.tbl #[])) ∧ SqL K H a (is.map V.int) ∧ HOk P w H t.heap ∧ (∀ b, H b ≠ none → b ∈ tabs ∨ (b = a ∧ K.lookup a = none)) by
    obtain ⟨H, hO, hM, hS, hok, hA⟩ := core
    have hid : ∀ {b : Addr} {ob : Obj}, t.heap.get? b = some ob → H b = none → (hidT t.heap H).get? b = some ob := fun e n => hidT_get e n
    have free : ∀ {b : Addr} {ob : Obj}, t.heap.get? b = some ob → (∀ vs n, ob.data ≠ .seq vs n) → ob.data ≠ .fields #[] → H b = none := by
      intro b ob e n1 n2
      refine Classical.byContradiction fun z => ?_
      rcases hA b z with hb | ⟨rfl, _⟩
      · rw [tabAt b hb] at e; cases e; exact n2 rfl
      · rw [ha] at e; cases e; exact n1 _ _ rfl
    have nsK : ∀ {b : Addr} {m : Str → Option Value}, t.heap.Ns b m → (hidT t.heap H).Ns b m := by
      rintro b m ⟨o, es, ep, e, d, r⟩
      exact ⟨o, es, ep, hid e (free e (by rw [d]; intro _ _ z; cases z) (by rw [d]; intro z; cases z)), d, r⟩
    have KB : K.In (hidT t.heap H) := fun b o e => hid (KX b o e) (Classical.byContradiction fun z => by
      rcases hA b z with hb | ⟨rfl, n⟩
      · obtain ⟨p, hp, ep⟩ := List.mem_map.mp hb
        rw [← ep, T.no p hp] at e; cases e
      · rw [n] at e; cases e)
    obtain ⟨mc, l1, l2⟩ := hlim
    have E : Env0 P w K mg (hidT t.heap H) callerA [] t H := ⟨rfl, ⟨KB, nsK hns, ⟨mb, nsK hb, hbb⟩, ⟨mc, nsK l1, l2⟩⟩, fun b o e => of_hidT e, Nat.le_of_eq (hidT_size _ _), trivial, fun b z => (nomatch (show b ∈ ([] : List Addr) from z)), hok, .of_eq hg⟩
    have TB : ∀ p ∈ ts, LamX.TabB (hidT t.heap H) mg (codA K p.1) (tabA K p.1) := by
      intro p hp
      refine ⟨PySem.W.codeHd_of_K KB (T.hd p hp), ?_, fun z => ?_⟩
      · obtain ⟨bm, ob, b1, b2, b3, b4, b5, b6⟩ := hbm
        refine ⟨bm, ob, b1, b2, fun z => ?_, fun z => ?_, hid b3 (free b3 (by rw [b6]; intro _ _ z; cases z) (by rw [b6]; intro z; cases z)), b4, b5, b6⟩
        · obtain ⟨o, es, ep, e, d, _⟩ := hns
          rw [z, e] at b3; cases b3
          rw [d] at b6; cases b6
        · rw [z, T.at_ p hp] at b3; cases b3
          cases b6
      · obtain ⟨o, es, ep, e, d, _⟩ := hns
        rw [z, T.at_ p hp] at e; cases e
        cases d
    refine codeAny_mono ((F _ KB (nsK hns) TB).go rfl [] t H ⟨[.ref a], []⟩ [.ref a] [.ref a] _ _ hr E (hbind t (.ref a)) (.cons rfl .nil) (hsp H (fun p hp => hM _ (inT p hp)) hS)) ?_
    rintro (e | fl) s' z
    · exact (hCX H e s' z).elim
    · cases fl with
      | ret u =>
        obtain ⟨v, H', os, bare, un, hok', r', rfl⟩ := z
        obtain rfl : u = Value.bool true := r'
        have grown : ∀ b, b ∈ tabs → ∃ more : Array Value, s'.heap.get? b = some { cls := .none, data := .fields more } := by
          intro b hb
          obtain ⟨more, z⟩ := un.tbls b #[] (hM b hb)
          exact ⟨_, hok' b _ z⟩
        have others : ∀ b o, b ∉ tabs → t.heap.get? b = some o → s'.heap.get? b = some o := by
          intro b o nb e
          rcases hO b with n | hb | ⟨ob, xs, n⟩
          · exact un.keep b o e n (fun z => by cases (show b ∈ ([] : List Addr) from z)) (by simp)
          · exact absurd hb nb
          · obtain ⟨e1, _⟩ := hok b _ n
            obtain ⟨e2, _⟩ := hok' b _ (un.frzs b ob _ n)
            rw [e] at e1
            cases e1
            exact e2
        refine ⟨rfl, ⟨fun b o e => ?_, fun b o e => ?_⟩, os, bare⟩
        · by_cases hb : b ∈ tabs
          · obtain ⟨more, hm⟩ := grown b hb
            obtain ⟨p, hp, ep⟩ := List.mem_map.mp hb
            have z := tabAt b hb
            rw [e] at z
            cases z
            refine .inr (.inl ⟨?_, rfl, #[], more, rfl, by rw [Array.empty_append]; exact hm⟩)
            rw [← ep]
            exact ((PySem.W.codeHd_of_K KX (T.hd p hp)).tab (T.at_ p hp)).isCodeTable
          · exact .inl (others b o hb e)
        · by_cases hb : b ∈ tabs
          · obtain ⟨more, hm⟩ := grown b hb
            exact ⟨_, hm⟩
          · exact ⟨o, others b o hb e⟩
      | _ => exact False.elim z
  cases hk : K.lookup a with
  | some o =>
    have e := KX a o hk
    rw [ha] at e
    cases e
    have yes : ∀ b, b ∈ tabs → (fun b => if b ∈ tabs then some (HO.tbl #[]) else none) b = some (HO.tbl #[]) := fun b h => if_pos h
    have no : ∀ b, b ∉ tabs → (fun b => if b ∈ tabs then some (HO.tbl #[]) else none) b = none := fun b h => if_neg h
    refine ⟨fun b => if b ∈ tabs then some (.tbl #[]) else none, fun b => ?_, yes, .inr ⟨_, us.toArray, _, hk, rfl, rfl, rfl, by rw [List.size_toArray, hi.length]; exact hl, by simpa using rv⟩, fun b u z => ?_, fun b z => ?_⟩
    · by_cases hb : b ∈ tabs
      · exact .inr (.inl hb)
      · exact .inl (no b hb)
    · by_cases hb : b ∈ tabs
      · have z2 := (yes b hb).symm.trans z
        cases z2
        exact tabAt b hb
      · have z2 := (no b hb).symm.trans z
        cases z2
    · by_cases hb : b ∈ tabs
      · exact .inl hb
      · exact absurd (no b hb) z
  | none =>
    let o : Obj := { cls := .type "list", data := .seq us.toArray }
    let G : Hp := fun b => if b = a then some (.frz o (.lst (is.map V.int))) else if b ∈ tabs then some (.tbl #[]) else none
    have ga : G a = some (.frz o (.lst (is.map V.int))) := if_pos rfl
    have gt : ∀ b, b ∈ tabs → G b = some (.tbl #[]) := fun b hb => (if_neg (fun z => aT (by rw [← z]; exact hb))).trans (if_pos hb)
    have gn : ∀ b, b ≠ a → b ∉ tabs → G b = none := fun b h1 h2 => (if_neg h1).trans (if_neg h2)
    refine ⟨G, fun b => ?_, gt, .inl (.inr ⟨o, ga⟩), fun b u z => ?_, fun b z => ?_⟩
    · by_cases h : b = a
      · rw [h]; exact .inr (.inr ⟨_, _, ga⟩)
      · by_cases hb : b ∈ tabs
        · exact .inr (.inl hb)
        · exact .inl (gn b h hb)
    · by_cases h : b = a
      · subst h
        rw [ga] at z; cases z
        exact ⟨ha, by rw [List.length_map]; exact hl, us, _, rv, ha⟩
      · by_cases hb : b ∈ tabs
        · rw [gt b hb] at z; cases z
          exact tabAt b hb
        · rw [gn b h hb] at z; cases z
    · by_cases h : b = a
      · exact .inr ⟨h, rfl⟩
      · by_cases hb : b ∈ tabs
        · exact .inl hb
        · exact absurd (gn b h hb) z
def LawGT (l : PySem.W.OpenLaw) (wo : World) (lv n : Nat) (x : Str) (gm : Str → Option Value) (af : Addr) (K : PySem.W.Frag) (ts : List (Str × Str)) (law : FnD) : Prop :=
  ∃ fd : FuncData, (∀ (t : Shared) (u : Value), BindsTo t fd ⟨[u], []⟩ [(x, u)]) ∧ (∀ ns : List Int, ns.length ≤ n → ∃ g', law [.scr ns] (tabsG ts) = .ok (.bl true) g') ∧
    ∀ bs : Heap, K.In bs → bs.Ns mainGlobals gm → (∀ p ∈ ts, LamX.TabB bs gm (codA K p.1) (tabA K p.1)) → FnG l.prog wo K gm bs lv af fd [x] (spV K 1 law)
theorem walkGT {l : PySem.W.OpenLaw} {n lv : Nat} {vw : Program} {ls : List Str} {XP : (Str → Option Value) → Heap → Prop} {YP : World → Heap → Prop} {d : DefRec} {x : Str} {law : FnD} {ts : List (Str × Str)} (hn : l.most = some n) (hz : n ≤ sizeLine) (hd : d.params.defaults = []) (hr : Room lv callerA)
    (hF : ∀ (wo : World) (gm : Str → Option Value) (af : Addr) (hp : Heap), YP wo hp → hp.Ns mainGlobals gm → gm d.name = some (.ref af) → ∃ K : PySem.W.Frag, K.In hp ∧ Tabs0 ts K hp ∧ LawGT l wo lv n x gm af K ts law) :
    PySem.W.WalkO vw ls XP YP l.row.toRowW d [] (fun g us => PySem.call g us) := by
  refine Att.attach_call hn hd ?_
  intro wo t0 t1 gm bm af ob pv cv dc al us is GG YY h1 h2 h3 h4 h5 h6 h7 h8
  obtain ⟨K, hK, T, fd, b, e, f⟩ := hF wo gm af _ YY GG.T.g h4
  have cx : ∀ (H : Hp) (u : Value) (t : Shared), CV l.prog wo [] H t1 (fun _ _ _ => False) u t → False := fun H u t ⟨_, _, _, _, _, _, _, _, _, _, _, _, z⟩ => z
  exact law_callGT hK GG.T.g GG.T.b GG.T.builtins GG.T.nolimit h8 T GG.T.bmain h5 h6 (Nat.le_trans h7 hz) hr f b (fun H hO hS => sp_lawT hO T.nd hS (e is h7)) cx
/-! ### the head's facts, the tables left out of the written part -/
def isTab0 : Option Obj → Bool
  | some ⟨.none, none, .fields vs, sl⟩ => vs.size == 0 && sl.size == 0
  | _ => false
theorem isTab0_ok {o : Option Obj} (h : isTab0 o = true) : o = some (PySem.W.tabObj #[]) := by
  unfold isTab0 at h
  split at h
  · rename_i vs sl
    simp only [Bool.and_eq_true, beq_iff_eq] at h
    obtain ⟨h1, h2⟩ := h
    rw [Array.eq_empty_of_size_eq_zero h1, Array.eq_empty_of_size_eq_zero h2]
  · cases h
def frT (n : Nat) (ts : List (Str × Str)) (g : Addr → Option Obj) : PySem.W.Frag :=
  let K := frG g (cStatics :: asD g n)
  let as := ts.map fun p => tabA K p.1
  K.filter fun q => !as.contains q.1
def tabsB (ts : List (Str × Str)) (K : PySem.W.Frag) (g : Addr → Option Obj) : Bool :=
  (ts.all fun p => isTab0 (g (tabA K p.1)) && ((K.lookup (tabA K p.1)).isNone && PySem.W.codeHdIn K (codA K p.1) (tabA K p.1))) && decide (ts.map fun p => tabA K p.1).Nodup
theorem tabs0_ok {ts : List (Str × Str)} {K : PySem.W.Frag} {h : Heap} (e : tabsB ts K h.get? = true) : Tabs0 ts K h := by
  obtain ⟨e1, e2⟩ := ba e
  have z := fun p hp => List.all_eq_true.mp e1 p hp
  refine ⟨fun p hp => ?_, fun p hp => ?_, fun p hp => ?_, of_decide_eq_true e2⟩
  · exact isTab0_ok (ba (z p hp)).1
  · have y := (ba (ba (z p hp)).2).1
    cases q : K.lookup (tabA K p.1) with
    | none => rfl
    | some o => rw [q] at y; cases y
  · exact (ba (ba (z p hp)).2).2
theorem lookup_filter {α : Type} {f : Addr × α → Bool} : ∀ {l : List (Addr × α)} {a : Addr} {o : α}, (l.filter f).lookup a = some o → (∀ q ∈ l, ∀ r ∈ l, q.1 = r.1 → f q = f r) → l.lookup a = some o
  | [], _, _, h, _ => by cases h
  | (b, u) :: l, a, o, h, hf => by
    rw [List.filter_cons] at h
    rw [List.lookup_cons]
    split at h
    · rename_i hb
      rw [List.lookup_cons] at h
      split
      · rename_i e; rw [e] at h; exact h
      · rename_i e; rw [e] at h; exact lookup_filter h fun q hq r hr => hf q (List.mem_cons_of_mem _ hq) r (List.mem_cons_of_mem _ hr)
    · rename_i hb
      split
      · rename_i e
        have eab : a = b := by simpa using e
        subst eab
        have hm : (a, o) ∈ l.filter f := mem_lookupN (β := α) h
        obtain ⟨h1, h2⟩ := List.mem_filter.mp hm
        have := hf (a, o) (List.mem_cons_of_mem _ h1) (a, u) List.mem_cons_self rfl
        rw [h2] at this
        exact absurd this.symm hb
      · exact lookup_filter h fun q hq r hr => hf q (List.mem_cons_of_mem _ hq) r (List.mem_cons_of_mem _ hr)
abbrev AlT : Type := AlV × Bool
def obsT (n : Nat) (ts : List (Str × Str)) (fa : List Fa) (fn : List DefD) (gs : Gets) (ex : PySem.W.Frag → Bool) (g : Addr → Option Obj) : AlT := (obsV fa fn gs ex (frT n ts g), tabsB ts (frT n ts g) g)
def hookT (n : Nat) (ts : List (Str × Str)) (fa : List Fa) (fn : List DefD) (gs : Gets) (ex : PySem.W.Frag → Bool) : PySem.W.Hook where
  α := AlT
  obs := fun s => obsT n ts fa fn gs ex s.heap.get?
  val := fun _ => (valV' fn gs, true)
  says := fun _ h => ∃ K : PySem.W.Frag, K.In h ∧ SaysV fa fn gs ex K ∧ Tabs0 ts K h
  of := fun _ s e => ⟨frT n ts s.heap.get?, fun b o z => frG_in b o (lookup_filter z fun q _ r _ e => by rw [e]), (Prod.mk.inj e).1, tabs0_ok (Prod.mk.inj e).2⟩
  keeps := fun _ h h' ⟨K, hK, c, T⟩ k => ⟨K, PySem.W.Frag.In.keeps hK k, c, ⟨fun p hp => k _ _ (T.at_ p hp), T.no, T.hd, T.nd⟩⟩
theorem obsT_eq {n : Nat} {ts : List (Str × Str)} {fa : List Fa} {fn : List DefD} {gs : Gets} {ex : PySem.W.Frag → Bool} {g : Addr → Option Obj} {s : Shared} (h : ∀ a, g a = s.heap.get? a) : obsT n ts fa fn gs ex g = (hookT n ts fa fn gs ex).obs s := by
  have e : g = s.heap.get? := funext h
  rw [e] <;> rfl
end L2.VI
/-! VI32: exceptions as values: isinstance, fields. -/
namespace L2.VI.XK
open PySem PySem.W PySem.Spec PySem.Calls PyProof.Rows
section
variable {prog : Program} {w : World} {A : Around} {E : Value → Shared → Prop} {s : Shared} {K : Frag} {x D : Addr} {ox : Obj} {od : Option Obj}
theorem find_cls {C : Addr} {name : Str} {a g : Value} (c : (clsIn K C).isSome = true) (h1 : findIn K (.ref C) name = some (some a)) (h2 : specialIn K a "__get__" = some (some g)) (h3 : takesIn K a = some true) : findObj K C od name = some (.bind g a) := by
  obtain ⟨cd, c⟩ := Option.isSome_iff_exists.mp c
  unfold findObj
  rw [c, Option.bind_some, h1, Option.bind_some]
  simp [h2, h3]
/-- e.__class__ of an exception of an own class, whether it has a dict or none -/
theorem class_of_exc {Q : Option Value → Shared → Prop} (C : L2.ExcC K D) (X : K.In s.heap) (I : InstAt s.heap x ox D od) (h : Q (some (.ref D)) { s with toks := s.toks + 1 }) : wpAny (model prog w) A (getAttr? (.ref x) "__class__") Q E s := by
  have fnd : findObj K D od "__class__" = some (.bind (.builtin "getset_descriptor.__get__") (.builtin "object.__class__")) := find_cls (by obtain ⟨cd, c, _⟩ := any_some C.hd; rw [c]; rfl) C.ha C.hn C.ht
  obtain ⟨hp, g, d, t, os⟩ := s
  have ty := I.type (M := model prog w)
  have g1 := looks_findIn (M := model prog w) X C.hg
  have g2 := looks_findIn (M := model prog w) X C.hk
  have g3 := looks_find (M := model prog w) X I fnd
  have isB : Looks (model prog w) hp (isInstance (.ref x) (.type "BaseException")) true := ty.andThen (looks_subIn X C.hs)
  have n0 : (false && onTheHeap (Value.builtin "BaseException.__getattribute__")) = false := rfl
  have n1 : (onTheHeap (Value.ref D) && Value.builtin "BaseException.__getattribute__" == Value.builtin "object.__getattribute__") = false := by
    rw [show (Value.builtin "BaseException.__getattribute__" == Value.builtin "object.__getattribute__") = false by decide +kernel]
    rfl
  unfold getAttr? getAttrBy? getAttrBy
  apply wpAny_bind
  apply wpAny_mkText
  apply wpAny_bind
  apply wpAny_attempt
  apply wpAny_holding
  apply wpAny_bind
  refine ty.at (wpAny_bind (g1.at ?_))
  show wpAny _ _ (ite ((onTheHeap (Value.ref D) && Value.builtin "BaseException.__getattribute__" == Value.builtin "object.__getattribute__") = true) _ _) _ _ _
  rw [n1, if_neg Bool.false_ne_true]
  unfold getAttrByItsOwn hookBefore
  apply wpAny_bind
  rw [if_pos (show onTheHeap (Value.ref D) = true from rfl)]
  refine g2.at ?_
  apply wpAny_bind
  apply wpAny_attempt
  apply wpAny_holding
  unfold callGetattribute
  rw [n0, if_neg Bool.false_ne_true]
  unfold boundAndCalled
  rw [PySem.F.excAttr_ValueError.ga.bind (.ref x)]
  apply wpAny_bind
  apply wpAny_pure
  show wpAny _ _ (call (.builtin "BaseException.__getattribute__") [.ref x, .str "__class__" t]) _ _ _
  apply wpAny_call
  apply codeAny_call_builtin PySem.F.excAttr_ValueError.ga.plain PySem.F.entry_bexc_ga
  refine @check_slot (model prog w) _ _ ⟨hp, g, d, t + 1, os⟩ "BaseException.__getattribute__" "BaseException" "__getattribute__" (.ref x) [.str "__class__" t] [] _ (by decide +kernel) (by decide +kernel) isB (PySem.F.args_bexc_ga (.ref x) (.str "__class__" t)) ?_
  unfold Builtin.«object.__getattribute__»
  refine wpAny_bind (wpAny_of_eq (a := ((Value.ref x : Value), [Value.str "__class__" t])) (by first | rfl | (simp only [slotArgs]; rfl)) ?_)
  apply wpAny_bind
  apply wpAny_pure
  apply wpAny_bind
  refine ty.at (wpAny_bind (g3.at ?_))
  show wpAny _ _ (holding [Value.builtin "object.__class__"] (call (.builtin "getset_descriptor.__get__") [.builtin "object.__class__", .ref x, .ref D]) >>= ret) _ _ _
  apply wpAny_bind
  apply wpAny_holding
  apply wpAny_call
  refine class_get (s := ⟨hp, g, d, t + 1, os⟩) (ox := ox) (od := od) X I C.hm ?_
  apply wpAny_pure
  show wpAny _ _ (handedOut (.ref D)) _ _ _
  rw [handedOut_of (v := .ref D) rfl]
  first
    | exact wpAny_pure (wpAny_pure h)
    | exact wpAny_pure h
    | exact wpAny_pure (wpAny_bind (wpAny_pure (wpAny_pure h)))
theorem kit_exc (C : L2.ExcC K D) : KitX K (.ref x) (.ref D) (fun h => ∃ ox od, InstAt h x ox D od) where
  ty := fun _ _ _ ⟨_, _, I⟩ => I.type
  it := fun _ _ X _ => by
    obtain ⟨cd, c, _⟩ := any_some C.hd
    unfold clsIn at c
    split at c
    · rename_i a1 a2 a3 a4 ho
      intro A' Q' E' s' k q
      unfold isType loadHead
      apply wpAny_bind
      exact wpAny_loadPart (k _ _ (X _ _ ho)) (wpAny_pure q)
    · cases c
  ne := fun h tp dd its n sl X htp => by
    obtain ⟨cd, c, _⟩ := any_some C.hd
    apply Bool.eq_false_iff.mpr
    intro q
    have e : D = tp := Value.ref.inj (beq_iff_eq.mp q)
    subst e
    unfold clsIn at c
    split at c
    · rename_i a1 a2 a3 a4 ho
      have z := (X _ _ ho).symm.trans htp
      cases z
    · cases c
  ca := fun X ⟨_, _, I⟩ k => class_of_exc C X I k
end
end L2.VI.XK
namespace L2.VI
open PySem PySem.Spec PyProof.Rows He
def excCB (c : Str) (K : PySem.W.Frag) : Bool := eqO (PySem.W.findIn K (.ref (ga K c)) "__getattribute__") (some (some (.builtin "BaseException.__getattribute__"))) && (eqO (PySem.W.findIn K (.ref (ga K c)) "__getattr__") (some none) && (decide (PySem.W.subIn K (.ref (ga K c)) (.type "BaseException") = some true) && (PySem.W.hasDictIn K (ga K c) &&
  (eqO (PySem.W.findIn K (.ref (ga K c)) "__class__") (some (some (.builtin "object.__class__"))) && (eqO (PySem.W.specialIn K (.builtin "object.__class__") "__get__") (some (some (.builtin "getset_descriptor.__get__"))) &&
  (decide (PySem.W.takesIn K (.builtin "object.__class__") = some true) && decide (PySem.W.mroIn K (ga K c) (.type "object") = some true)))))))
theorem excCB_ok {c : Str} {K : PySem.W.Frag} (h : excCB c K = true) : ExcC K (ga K c) := by
  obtain ⟨h1, h⟩ := ba h
  obtain ⟨h2, h⟩ := ba h
  obtain ⟨h3, h⟩ := ba h
  obtain ⟨h4, h⟩ := ba h
  obtain ⟨h5, h⟩ := ba h
  obtain ⟨h6, h⟩ := ba h
  obtain ⟨h7, h8⟩ := ba h
  exact ⟨eqO_ok h1, eqO_ok h2, of_decide_eq_true h3, h4, eqO_ok h5, eqO_ok h6, of_decide_eq_true h7, of_decide_eq_true h8⟩
def noAtB (c f : Str) (K : PySem.W.Frag) : Bool := eqO (PySem.W.findIn K (.ref (ga K c)) f) (some none)
theorem noAtB_ok {c f : Str} {K : PySem.W.Frag} (h : noAtB c f K = true) : PySem.W.findIn K (.ref (ga K c)) f = some none := eqO_ok h
def exmB (c h : Str) (r : Bool) (K : PySem.W.Frag) : Bool := decide (PySem.W.exmOne K (.ref (ga K c)) (.ref (ga K h)) = some r)
theorem exmB_ok {c h : Str} {r : Bool} {K : PySem.W.Frag} (e : exmB c h r K = true) : PySem.W.exmOne K (.ref (ga K c)) (.ref (ga K h)) = some r := of_decide_eq_true e
section
variable {X : Cx} {W : WX} {pos apos cpos : Pos} {o i e : Expr} {es : List Expr} {mo mi me : M D} {mas : M (List D)}
theorem BRel.xvAt {K : PySem.W.Frag} {F Mm H : Hp} {fc : FrC} {P0 : PX fc} {ρ : Rho} {bs : BSt} {σ : St} {a C : Addr} {d : Option Addr} (B : BRel K F P0 Mm ρ bs σ H) (h : F a = some (XV C d a)) : H a = some (XV C d a) := by
  obtain ⟨P, q, B⟩ := B
  exact B.h.fh a _ h
/-- an exception that is known is an instance of its class -/
theorem xv_inst {pins : List (Addr × Obj)} {σ : St} {H : Hp} {s : Shared} {a C : Addr} {d : Option Addr} (I : Inv X pins σ H s) (h : H a = some (XV C d a)) (hd : ∀ dx, d = some dx → ∃ od, s.heap.get? dx = some od) : ∃ ox od, PySem.W.InstAt s.heap a ox C od ∧ ox.dict = d ∧ (∀ dx o, d = some dx → s.heap.get? dx = some o → od = some o) := by
  obtain ⟨⟨oe, vs, h1, h2, h3⟩, _, _⟩ := I.hok a _ h
  cases d with
  | none => exact ⟨oe, none, ⟨h1, h2.1, by unfold PySem.W.notCls; rw [h3] <;> rfl, by rw [h2.2]; trivial⟩, h2.2, fun _ _ z => nomatch z⟩
  | some dx =>
    obtain ⟨od, hod⟩ := hd dx rfl
    exact ⟨oe, some od, ⟨h1, h2.1, by unfold PySem.W.notCls; rw [h3] <;> rfl, by rw [h2.2]; exact hod⟩, h2.2, fun dx' o z y => by cases z; rw [hod] at y; exact y⟩
/-- isinstance(x, c): x may be an exception, too -/
def isiE (cd : D → Bool) (subs : String → Bool) (own ownx : List (Str × Bool)) : List D → M D := fun as => match as with
  | [.xob c _, u] => fun b => if cd u = true then (match ownx.lookup c with
    | some k => .ok (.bl k) b
    | none => .fail) else .fail
  | as => isiM cd subs own as
theorem cr_isE : CallR X (.builtin "isinstance") fun xs H Q => ∃ (a D : Addr) (d : Option Addr) (c : V) (u : Value) (k : Bool), xs = [.ref a, c] ∧ H a = some (XV D d a) ∧ (∀ dx, d = some dx → ∃ vs, H dx = some (.xd vs)) ∧ ExcC X.K D ∧ ClsV c u ∧ PySem.W.kitOne X.K (.ref D) u = some k ∧ Q (.bl k) H := by
  rintro pins s σ H xs us Q I r ⟨a, D, d, c, u, k, rfl, h1, h2, h3, h4, h5, q⟩
  cases r with | cons r1 rr => cases rr with | cons r2 rr =>
  cases rr
  cases r1
  have eu := h4.eq r2
  subst eu
  obtain ⟨ox, od, J, _, _⟩ := xv_inst I h1 (fun dx e => by
    obtain ⟨vs, z⟩ := h2 dx e
    obtain ⟨mA, ⟨o, es, ep, y, _⟩, _⟩ := (I.hok dx _ z)
    exact ⟨o, y⟩)
  exact PySem.W.kia_one (XK.kit_exc h3) I.kIn ⟨ox, od, J⟩ h5 (fun z => nomatch z) fun tk => ⟨.bl k, H, I.kept (t' := tk) fun _ _ z => z, rfl, q⟩
theorem cv_isE {cd : D → Bool} {subs : String → Bool} {own ownx : List (Str × Bool)} {u : Value} (hcd : ∀ c, cd c = true → (∃ n, c = .ty n ∧ u = .type n) ∨ ∃ x, c = .glo x ∧ u = .ref (ga X.K x)) (hx : ∀ p ∈ ownx, ExcC X.K (ga X.K p.1) ∧ PySem.W.kitOne X.K (.ref (ga X.K p.1)) u = some p.2)
    (h0 : CallV X W (.builtin "isinstance") (isiM cd subs own)) : CallV X W (.builtin "isinstance") (isiE cd subs own ownx) := by
  intro xs as σ H F P0 Mm ρ b Q B r h
  unfold isiE at h
  split at h
  · rename_i c fs w
    split at h
    · rename_i hc
      split at h
      · rename_i k ek
        obtain ⟨x1, x2⟩ := hx (c, k) (PySem.mem_of_lookup ek)
        cases r with | cons r1 rr => cases rr with | cons r2 rr =>
        cases rr
        have hC : ∃ cv, ClsV cv u ∧ ∀ v, Rep X.K F ρ v w → v = cv := by
          rcases hcd w hc with ⟨n, rfl, rfl⟩ | ⟨y, rfl, rfl⟩
          · exact ⟨.ty n, .ty n, fun v z => by cases z; rfl⟩
          · exact ⟨.ref (ga X.K y), .own _, fun v z => by cases z; rfl⟩
        obtain ⟨cv, k1, k2⟩ := hC
        have e2 := k2 _ r2
        subst e2
        cases r1 with
        | @xob a dx c vs ds f1 f2 f3 f4 => exact ⟨_, cr_isE, a, _, some dx, _, u, k, rfl, B.xvAt f1, fun dx' z => by cases z; exact ⟨vs, by obtain ⟨P, q, BB⟩ := B; exact BB.h.fh _ _ f2⟩, x1, k1, x2, h.now B (.bl _)⟩
        | @xob0 a c f1 => exact ⟨_, cr_isE, a, _, none, _, u, k, rfl, B.xvAt f1, fun dx' z => (nomatch z), x1, k1, x2, h.now B (.bl _)⟩
      · exact h.elim
    · exact h.elim
  · exact h0 xs _ σ H F P0 Mm ρ b Q B r h
/-! ### e.f -/
def fldX (cs : List Str) (f : Str) (mo : M D) : M D := M.bind mo fun d => fun b => match d with
  | .xob c fs => if c ∈ cs then (match fs.lookup f with
    | some v => .ok v b
    | none => .fail) else .fail
  | _ => .fail
theorem se_fldX {cs : List Str} {f : Str} (ho : SE X W o mo) (hc : ∀ c ∈ cs, ExcC X.K (ga X.K c) ∧ PySem.W.findIn X.K (.ref (ga X.K c)) f = some none) (hb : attributeBase o f X.env (eval o X.env) = eval o X.env := by rfl) : SE X W (.Attribute o f pos) (fldX cs f mo) := by
  refine ⟨fun pins s σ H Q I ⟨F, P0, Mm, ρ, bs, B, q⟩ => ?_⟩
  have h0 : tE (fc := fcOf X) X.K W mo σ H (fun x H1 => ∃ (a dx : Addr) (c : Str) (vs : List (Str × V)) (v : V), x = .ref a ∧ H1 a = some (XV (ga X.K c) (some dx) a) ∧ H1 dx = some (.xd vs) ∧ vs.lookup f = some v ∧ c ∈ cs ∧ Q v H1) :=
    tM_then B q fun x d F1 M1 r1 b1 H1 l1 e1 B1 q1 h1 => by
      split at h1
      · rename_i c fs
        split at h1
        · rename_i hm
          split at h1
          · rename_i w ew
            cases q1 with
            | @xob a dx c vs ds f1 f2 f3 f4 =>
              obtain ⟨v, g1, g2⟩ := (fs_find (f := f) f3 f4).1 w ew
              exact ⟨a, dx, c, vs, v, rfl, B1.xvAt f1, by obtain ⟨P, qq, BB⟩ := id B1; exact BB.h.fh _ _ f2, g1, hm, h1.now B1 g2⟩
            | xob0 f1 => cases ew
          · exact h1.elim
        · exact h1.elim
      · exact h1.elim
  refine attr_of hb (thn (ho.run pins s σ H _ I h0) ?_)
  rintro u s1 ⟨x, H1, J, rx, a, dx, c, vs, v, rfl, k1, k2, k3, k4, q1⟩
  obtain rfl : u = Value.ref a := rx
  obtain ⟨C1, C2⟩ := hc c k4
  obtain ⟨mA, hns, hr⟩ := J.hok dx _ k2
  obtain ⟨od, hod, hl⟩ := lookIn_ns hns
  obtain ⟨u, hu, ru⟩ := RelO.some_of (v := v) (o := mA f) (by rw [← k3]; exact hr f)
  obtain ⟨ox, od', In, _, hod2⟩ := xv_inst J k1 (fun d e => by cases e; exact ⟨od, hod⟩)
  have e2 := hod2 dx od rfl hod
  subst e2
  exact HandSPX.exc_get J.kIn In C1.hg C1.hk C1.hs (PySem.W.findObj_own C1.hd C2 rfl (by rw [hl, hu])) (handed_of ru) ⟨v, H1, J.tok _, ru, q1⟩
end
end L2.VI
/-! VI33: the facts of own exception classes from the head; the head with tables and such classes. -/
namespace L2.VI
open PySem PySem.Spec PyProof.Rows He
/-- the function object of the class's __init__ -/
def supA (K : PySem.W.Frag) (c : Str) : Addr := ma K (ga K c) "__init__"
def fnS (K : PySem.W.Frag) (a : Addr) : FnW := match K.lookup a with
  | some ⟨_, _, .func fd, _⟩ => some (fd.name, fd.qualname, fd.params, fd.body, fd.scope, fd.globals, fd.closure.map fun q => (q.1, 0), fd.builtins)
  | _ => none
def sval (d : DefD) : FnW := some (d.name, d.qual, d.params, .stmts d.body, d.scope, mainGlobals, [("__class__", 0)], builtinsNs)
def decB (p : Prop) [Decidable p] : Bool := decide p
def cloB (K : PySem.W.Frag) (C : Addr) : List (Str × Addr) → Bool
  | [q] => (match K.lookup q.2 with
    | some ⟨_, _, .cell (some (.ref C')), _⟩ => C' == C
    | _ => false)
  | _ => false
def codB (K : PySem.W.Frag) (file qn : Str) (cd : Value) : Bool := PySem.W.codeIn K cd qn && (match cd with
  | .ref c => (match K.lookup c with
    | some ⟨_, _, .fields vs, _⟩ => (match (vs[2]? : Option Value) with
      | some (.str fl _) => fl == file
      | _ => false)
    | _ => false)
  | _ => false)
def supFB (K : PySem.W.Frag) (file : Str) (C a : Addr) : Bool := match K.lookup a with
  | some ⟨_, _, .func fd, _⟩ => (match fd.defaults with
    | .none => true
    | _ => false) && (cloB K C fd.closure && codB K file fd.qualname fd.code)
  | _ => false
def supCB (K : PySem.W.Frag) (C : Addr) : Bool := match K.lookup C with
  | some ⟨.type t, _, .cls cd, sl⟩ => (t == "type" && (cd.hasDict && !cd.hasDel)) && ((match cd.mro with
    | .ref C' :: bm => C' == C && (PySem.HandSPX.refsVE bm && eqO (PySem.W.alongIn K "__init__" bm) (some (some (.builtin "ValueError.__init__"))))
    | _ => false) && (match sl.toList with
    | [_, _, _, _, some (.builtin n), _] => n == "ValueError.__new__"
    | _ => false))
  | _ => false
def supB (file c f : Str) (K : PySem.W.Frag) : Bool :=
  (eqO (PySem.W.findIn K (.ref (ga K c)) "__init__") (some (some (.ref (supA K c)))) && (decide (PySem.W.typeIn K (.ref (supA K c)) = some (.type "function")) && (PySem.W.keepIn K (.ref (ga K c)) && (decide (PySem.W.typeIn K (.ref (ga K c)) = some (.type "type")) && decide (PySem.W.subIn K (.ref (ga K c)) (.type "BaseException") = some true))))) &&
  ((supFB K file (ga K c) (supA K c) && supCB K (ga K c)) &&
  (eqO (PySem.W.findIn K (.ref (ga K c)) "__setattr__") (some (some (.builtin "object.__setattr__"))) && (eqO (PySem.W.findIn K (.ref (ga K c)) f) (some none) && (decide (PySem.W.mroIn K (ga K c) (.ref (ga K c)) = some true) && (decide (PySem.W.subIn K (.ref (ga K c)) (.type "ValueError") = some true) &&
  (eqO (PySem.W.nsIn K cStatics "thirdparty.any") (some none) && eqO (PySem.W.nsIn K mainGlobals "super") (some none)))))))
theorem supCB_ok {K : PySem.W.Frag} {C : Addr} (h : supCB K C = true) : ∃ nm q N bs bm sn sub ab col dd k0 k1 k2 k3 k5, K.lookup C = some (excClassObj nm q C N bs bm true sn sub ab col dd k0 k1 k2 k3 k5 "ValueError.__new__") ∧ PySem.HandSPX.refsVE bm = true ∧ PySem.W.alongIn K "__init__" bm = some (some (.builtin "ValueError.__init__")) := by
  unfold supCB at h
  split at h
  · rename_i t dd cd sl e
    obtain ⟨g1, g2⟩ := ba h
    obtain ⟨g3, g4⟩ := ba g1
    obtain ⟨g5, g6⟩ := ba g4
    obtain ⟨g7, g8⟩ := ba g2
    split at g7
    · rename_i C' bm em
      obtain ⟨i1, i2⟩ := ba g7
      obtain ⟨i3, i4⟩ := ba i2
      split at g8
      · rename_i k0 k1 k2 k3 n k5 es
        obtain ⟨nm, bs, mro, N, q, hd, sn, sub, ab, col, del⟩ := cd
        dsimp only at g5 g6 em
        have e1 : t = "type" := by simpa using g3
        have e2 : C' = C := by simpa using i1
        have e3 : n = "ValueError.__new__" := by simpa using g8
        have e4 : del = false := by simpa using g6
        clear g1 g2 g4 g7 h
        subst e1 e2 e3 e4 g5 em
        have e5 : sl = #[k0, k1, k2, k3, some (.builtin "ValueError.__new__"), k5] := by rw [← es]
        subst e5
        exact ⟨nm, q, N, bs, bm, sn, sub, ab, col, dd, k0, k1, k2, k3, k5, e, i3, eqO_ok i4⟩
      · cases g8
    · cases g7
  · cases h
/-- the text of such an __init__ -/
def SupT (body : List Stmt) (slf prm f : Str) : Prop := ∃ (p0 p1 p2 p3 p4 p5 p6 p7 p8 p9 : Pos) (msg : Str) (k : Nat), body = [.Expr (.Call (.Attribute (.Call (.Name "super" p0) [] [] p1) "__init__" p2) [.Constant (.str msg) k p3] [] p4) p5, .Assign [.Attribute (.Name slf p6) f p7] (.Name prm p8) p9] ∧ (p2.endLine == p4.line) = true
structure SupS (scope : Scope) (params : Arguments) (slf prm : Str) : Prop where
  ar : ∃ ar : Arg, (params.posonlyargs ++ params.args).head? = some ar ∧ ar.arg = slf
  s1 : scope.names.lookup ("super" : Str) = some .globalImplicit
  s2 : scope.names.lookup ("__class__" : Str) = some .free
  s3 : scope.names.lookup slf = some .local
  s4 : scope.names.lookup prm = some .local
  s5 : scope.kind = .function
  s6 : ∀ x ∈ scope.names, x.2 ≠ .cell
  s7 : scope.isCoroutine = false
  s8 : scope.isGenerator = false
theorem supM_of {P : Program} {K : PySem.W.Frag} {d : DefD} {file c f slf prm : Str} (e : fnS K (supA K c) = sval d) (h : supB file c f K = true) (hb : SupT d.body slf prm f) (hs : SupS d.scope d.params slf prm) (hfile : ((P.main.file : Str) == file) = true) (htop : (P.main.scope.names.lookup ("super" : Str)).isSome = false)
    (hbind : ∀ (kV doc pm : Value) (an : Option Addr) (cd ct : Value) (cc : Addr) (a b : Value), bindArgs (PySem.W.ksFn d.name d.qual d.params d.body d.scope .none kV doc pm an cd ct cc) ⟨[a, b], []⟩ = pure [(slf, a), (prm, b)])
    (ne : (slf == prm) = false := by decide) (d1 : (slf == ("__debug__" : Str)) = false := by decide) (d2 : (prm == ("__debug__" : Str)) = false := by decide) : Sup.SupM P K (ga K c) (supA K c) slf prm f (fdA K (supA K c)) := by
  obtain ⟨h1, h2⟩ := ba h
  obtain ⟨a1, h1⟩ := ba h1
  obtain ⟨a2, h1⟩ := ba h1
  obtain ⟨a3, h1⟩ := ba h1
  obtain ⟨a4, a5⟩ := ba h1
  obtain ⟨b1, h2⟩ := ba h2
  obtain ⟨b1, b2⟩ := ba b1
  obtain ⟨c1, h2⟩ := ba h2
  obtain ⟨c2, h2⟩ := ba h2
  obtain ⟨c3, h2⟩ := ba h2
  obtain ⟨c4, h2⟩ := ba h2
  obtain ⟨c5, c6⟩ := ba h2
  obtain ⟨p0, p1, p2, p3, p4, p5, p6, p7, p8, p9, msg, k, eb, el⟩ := hb
  obtain ⟨ar, r1, r2⟩ := hs.ar
  unfold fnS at e
  unfold supFB at b1
  split at e
  · rename_i oc od fd osl lk
    rw [lk] at b1
    dsimp only at b1
    obtain ⟨x1, y1⟩ := ba b1
    obtain ⟨x2, x3⟩ := ba y1
    clear y1 b1 h
    obtain ⟨nm, qn, pr, bd, sc, gl, cl, dV, kV, doc, pm, an, cd, ct, bn⟩ := fd
    have e2 := Option.some.inj e
    simp only [Prod.mk.injEq] at e2
    obtain ⟨rfl, rfl, rfl, rfl, rfl, rfl, e3, rfl⟩ := e2
    dsimp only at x1 x2 x3
    split at x1
    · unfold cloB at x2
      split at x2
      · rename_i q
        obtain ⟨qn, cc⟩ := q
        simp only [List.map_cons, List.map_nil, List.cons.injEq, Prod.mk.injEq, and_true] at e3
        subst e3
        dsimp only at x2
        split at x2
        · rename_i cl2 cld C' csl lcc
          have e4 : C' = ga K c := by simpa using x2
          subst e4
          obtain ⟨x5, x4⟩ := ba x3
          clear x3
          split at x4
          · rename_i cda
            split at x4
            · rename_i ccl cdd vs ccs lcd
              split at x4
              · rename_i fl tf ev
                have e5 : fl = file := by simpa using x4
                subst e5
                have efd : fdA K (supA K c) = PySem.W.ksFn d.name d.qual d.params d.body d.scope .none kV doc pm an (.ref cda) ct cc := by
                  unfold fdA
                  rw [lk]
                have hbnd : ∀ (s : Shared) (a b : Value), BindsTo s (fdA K (supA K c)) ⟨[a, b], []⟩ [(slf, a), (prm, b)] := fun s a b => .of_eq (by rw [efd]; exact hbind kV doc pm an _ ct cc a b)
                refine ⟨⟨⟨d.name, d.qual, msg, fl, d.params, d.scope, .none, kV, doc, pm, ct, oc, an, od, osl, cc, cda, k, p0, p1, p2, p3, p4, p5, p6, p7, p8, p9, ccl, cl2, cdd, cld, vs, #[], ccs, csl, tf, ar, ?_, ?_, x5, lcd, ev, hfile, lcc, r1, r2, hs.s1, hs.s2, hs.s3, hs.s4, hs.s5, hs.s6, hs.s7, hs.s8, el⟩, ne, d1, d2, supCB_ok b2, eqO_ok c1, eqO_ok c2, of_decide_eq_true c3, of_decide_eq_true c4, eqO_ok c5, eqO_ok c6, htop⟩, of_decide_eq_true a5, of_decide_eq_true a4, a3, eqO_ok a1, of_decide_eq_true a2, hbnd⟩
                · rw [efd, eb]
                · rw [efd, lk]
              · cases x4
            · cases x4
          · cases x4
        · cases x2
      · cases x2
    · cases x1
  · cases e
/-! ### the head -/
abbrev Sups : Type := List (Str × DefD)
abbrev AlS : Type := AlT × List FnW
def obsS (n : Nat) (ts : List (Str × Str)) (ss : Sups) (fa : List Fa) (fn : List DefD) (gs : Gets) (ex : PySem.W.Frag → Bool) (g : Addr → Option Obj) : AlS :=
  let K := frT n ts g
  ((obsV fa fn gs ex K, tabsB ts K g), ss.map fun q => fnS K (supA K q.1))
structure SaysS (ss : Sups) (fa : List Fa) (fn : List DefD) (gs : Gets) (ex : PySem.W.Frag → Bool) (K : PySem.W.Frag) : Prop where
  v : SaysV fa fn gs ex K
  s : (ss.map fun q => fnS K (supA K q.1)) = ss.map fun q => sval q.2
theorem SaysS.sup {ss : Sups} {fa : List Fa} {fn : List DefD} {gs : Gets} {ex : PySem.W.Frag → Bool} {K : PySem.W.Frag} (c : SaysS ss fa fn gs ex K) (i : Nat) {p : Str} {d : DefD} (h : ss[i]? = some (p, d) := by rfl) : fnS K (supA K p) = sval d := by
  have e : (ss.map fun q => fnS K (supA K q.1))[i]? = (ss.map fun q => sval q.2)[i]? := by rw [c.s]
  rw [List.getElem?_map, List.getElem?_map, h] at e
  exact Option.some.inj e
def hookS (n : Nat) (ts : List (Str × Str)) (ss : Sups) (fa : List Fa) (fn : List DefD) (gs : Gets) (ex : PySem.W.Frag → Bool) : PySem.W.Hook where
  α := AlS
  obs := fun s => obsS n ts ss fa fn gs ex s.heap.get?
  val := fun _ => ((valV' fn gs, true), ss.map fun q => sval q.2)
  says := fun _ h => ∃ K : PySem.W.Frag, K.In h ∧ SaysS ss fa fn gs ex K ∧ Tabs0 ts K h
  of := fun _ s e => ⟨frT n ts s.heap.get?, fun b o z => frG_in b o (lookup_filter z fun q _ r _ e => by rw [e]), ⟨(Prod.mk.inj (Prod.mk.inj e).1).1, (Prod.mk.inj e).2⟩, tabs0_ok (Prod.mk.inj (Prod.mk.inj e).1).2⟩
  keeps := fun _ h h' ⟨K, hK, c, T⟩ k => ⟨K, PySem.W.Frag.In.keeps hK k, c, ⟨fun p hp => k _ _ (T.at_ p hp), T.no, T.hd, T.nd⟩⟩
theorem obsS_eq {n : Nat} {ts : List (Str × Str)} {ss : Sups} {fa : List Fa} {fn : List DefD} {gs : Gets} {ex : PySem.W.Frag → Bool} {g : Addr → Option Obj} {s : Shared} (h : ∀ a, g a = s.heap.get? a) : obsS n ts ss fa fn gs ex g = (hookS n ts ss fa fn gs ex).obs s := by
  have e : g = s.heap.get? := funext h
  rw [e] <;> rfl
end L2.VI
/-! VI34: where lambdas stand in a text; small facts for printed walks. -/
namespace L2.VI
open PySem PySem.Spec PyProof.Rows He
def pos0 : Pos := ⟨0, 0, 0, 0⟩
def lx0 : Expr := .Name "" pos0
def ls0 : Stmt := .Pass pos0
def lsAt (i : Nat) (b : List Stmt) : Stmt := b.getD i ls0
def lsVal : Stmt → Expr
  | .Assign _ v _ => v
  | .Expr v _ => v
  | .Return (some v) _ => v
  | .If t _ _ _ => t
  | _ => lx0
def lsBody : Stmt → List Stmt
  | .If _ b _ _ => b
  | .For (body := b) .. => b
  | .While (body := b) .. => b
  | .Try (body := b) .. => b
  | _ => []
def lsElse : Stmt → List Stmt
  | .If _ _ b _ => b
  | _ => []
def lxFun : Expr → Expr
  | .Call f _ _ _ => f
  | _ => lx0
def lxAttr : Expr → Expr
  | .Attribute o _ _ => o
  | _ => lx0
def lxArg (i : Nat) : Expr → Expr
  | .Call _ as _ _ => as.getD i lx0
  | _ => lx0
def lxKw (i : Nat) : Expr → Expr
  | .Call _ _ ks _ => (ks[i]?.map (·.value)).getD lx0
  | _ => lx0
def lxEl (i : Nat) : Expr → Expr
  | .List es _ => es.getD i lx0
  | .Tuple es _ _ => es.getD i lx0
  | .BoolOp _ es _ => es.getD i lx0
  | .Compare _ _ es _ => es.getD i lx0
  | .IfExp a b c _ => [a, b, c].getD i lx0
  | _ => lx0
def lxOne : Expr → Expr
  | .UnaryOp _ a _ => a
  | .Compare a _ _ _ => a
  | _ => lx0
def lxPar : Expr → Arguments
  | .Lambda p _ _ _ => p
  | _ => default
def lxBody : Expr → Expr
  | .Lambda _ b _ _ => b
  | _ => lx0
def lxScope : Expr → Scope
  | .Lambda _ _ s _ => s
  | _ => default
/-- the code object of a def of the module -/
theorem cod_of {K : PySem.W.Frag} {x qual : Str} {params : Arguments} {body : List Stmt} {scope : Scope} {dvs : List V} {kws : List (Str × V)} (F : FunD K x qual params body scope dvs kws (ga K x) (fdA K (ga K x))) : (fdA K (ga K x)).code = .ref (codA K x) := by
  obtain ⟨oc, od, dV, kV, doc, pm, an, cdv, ct, osl, e, lk, hcd, _, _⟩ := F.ex
  have h : cdv = .ref (codA K x) := by
    unfold codA
    rw [lk, e]
    unfold PySem.W.codeIn at hcd
    split at hcd
    · rfl
    · cases hcd
  rw [e]
  exact h
theorem FnG.mono {P : Program} {w : World} {K : PySem.W.Frag} {mg : Str → Option Value} {base : Heap} {j k : Nat} {f : Addr} {fd : FuncData} {ps : List Str} {sp : Sp} (F : FnG P w K mg base j f fd ps sp) (h : j ≤ k) : FnG P w K mg base k f fd ps sp :=
  ⟨F.n, fun hA o s G as ws zs R T hr => F.go hA o s G as ws zs R T (hr.mono h)⟩
theorem isGloD_cd {K : PySem.W.Frag} (x : Str) : ∀ c, isGloD x c = true → (∃ n, c = .ty n ∧ Value.ref (ga K x) = .type n) ∨ ∃ y, c = .glo y ∧ Value.ref (ga K x) = .ref (ga K y) := fun c h => .inr (by
  cases c with
  | glo m => have : m = x := of_decide_eq_true h; subst this; exact ⟨_, rfl, rfl⟩
  | _ => cases h)
theorem isTyD_cd {K : PySem.W.Frag} (T : String) : ∀ c, isTyD T c = true → (∃ n, c = .ty n ∧ Value.type T = .type n) ∨ ∃ y, c = .glo y ∧ Value.type T = .ref (ga K y) := fun c h => .inl (by
  cases c with
  | ty m => have : m = T := of_decide_eq_true h; subst this; exact ⟨_, rfl, rfl⟩
  | _ => cases h)
def kitAB (c : Str) (ts : List String) (r : Bool) (K : PySem.W.Frag) : Bool := decide (PySem.W.kitAny K (.ref (ga K c)) (ts.map Value.type) = some r)
theorem kitAB_ok {c : Str} {ts : List String} {r : Bool} {K : PySem.W.Frag} (h : kitAB c ts r K = true) : PySem.W.kitAny K (.ref (ga K c)) (ts.map Value.type) = some r := of_decide_eq_true h
end L2.VI
/-! VI35: the draws' begin from any store; small words for plain laws. -/
namespace L2.VI
open PySem PySem.Spec PyProof.Rows He
section
theorem begun_at (g : GSt) (ns : List Int) (hl : ns.length ≤ 63) : ∃ g', H.f__law_begun [.scr ns] g = .ok (.ptr (g.nx + 1)) g' ∧ StOk g' (g.nx + 1) g.nx 0 ∧ g'.nx = g.nx + 2 ∧ ∀ j, j < g.nx → g'.S j = g.S j := by
  obtain ⟨L, e⟩ := large_ok (g := g) (s := .val (.scr ns)) (tt := isB (bin2 geD (getV 2) (bin2 powD (M.ret (.int 10)) (M.ret (.int 18))))) (elt := bin2 subD (getV 2) (bin2 powD (M.ret (.int 10)) (M.ret (.int 18)))) (fun x => ⟨decide (10 ^ 18 ≤ x), by simp⟩) (fun x => by simp) ns [] (by simp; omega)
  refine ⟨(g.new (.lst (L.map .int))).new (stD g.nx ns 0 0), ?_, ⟨by omega, L, ns, 0, 0, by omega, by omega, ?_, ?_⟩, rfl, fun j hj => ?_⟩
  · simp only [List.map_nil] at e
    simp [H.f__law_begun, H.m__law_begun, lcN, BSt.wip, wipeT, e, GSt.new, toLst, mergeD, dput, stD]
    rfl
  · simp [GSt.new]
  · simp [GSt.new]
  · simp [GSt.new, show j ≠ g.nx + 1 by omega, show j ≠ g.nx by omega]
end
@[simp] theorem fnBodyF_ap {n sl : Nat} {me : Option Nat} {up : Ups} {m : M Fl} {ds : List D} {g : GSt} : fnBodyF n sl me up m ds g = if ds.length = n then (m ⟨g, ds.map (fun d => some (.val d)) ++ (List.replicate (sl - n) none ++ [some (.frm me up)])⟩).out else .fail := by
  unfold fnBodyF
  split
  · generalize m _ = r
    cases r with
    | ok fl b => cases fl <;> rfl
    | exc x b => rfl
    | fail => rfl
  · rfl
@[simp] theorem fnBodyU_ap {n sl : Nat} {m : M Fl} {up : Ups} {ds : List D} {g : GSt} : fnBodyU n sl m up ds g = fnBodyF n sl none up m ds g := rfl
@[simp] theorem fnBodyC_ap {n sl : Nat} {m : M Fl} {ds : List D} {g : GSt} : fnBodyC n sl m ds g = fnBodyF n sl (some g.nx) [] m ds { g with nx := g.nx + 1 } := rfl
@[simp] theorem tryKeep_ap {i j : Nat} {own : List (Str × Bool)} {mb : M Fl} {b : BSt} : tryKeep i j own mb b = (match mb b with
  | .exc e b' => (match own.lookup e.c with
    | some true => .ok .nx { b' with t := ((b'.t.set i (some (.val (.xob e.c e.fs)))).set j (some (.val (.xob e.c e.fs)))).set i none }
    | some false => .exc e b'
    | none => .fail)
  | r => r) := rfl
@[simp] theorem isN_xob {c : Str} {fs : List (Str × D)} : (D.xob c fs).isNon = false := rfl
@[simp] theorem raiseS_ap {c f : Str} {mas : M (List D)} {b : BSt} : raiseS c f mas b = (mas b).thn fun ds b => match ds with
  | [d] => .exc ⟨c, [(f, d)]⟩ b
  | _ => .fail := rfl
@[simp] theorem isiE_x {cd : D → Bool} {subs : String → Bool} {own ownx : List (Str × Bool)} {c : Str} {fs : List (Str × D)} {u : D} {b : BSt} : isiE cd subs own ownx [.xob c fs, u] b = (if cd u = true then (match ownx.lookup c with
    | some k => .ok (.bl k) b
    | none => .fail) else .fail) := rfl
@[simp] theorem fldX_ap {cs : List Str} {f : Str} {mo : M D} {b : BSt} : fldX cs f mo b = (mo b).thn fun d => fun b => match d with
  | .xob c fs => if c ∈ cs then (match fs.lookup f with
    | some v => .ok v b
    | none => .fail) else .fail
  | _ => .fail := rfl
@[simp] theorem eqD_bl {x y : Bool} {b : BSt} : eqD (.bl x) (.bl y) b = .ok (.bl (decide (x = y))) b := by
  cases x <;> cases y <;> rfl
@[simp] theorem neD_bl {x y : Bool} {b : BSt} : neD (.bl x) (.bl y) b = .ok (.bl (!decide (x = y))) b := by
  cases x <;> cases y <;> rfl
@[simp] theorem callT_ap {kf : Nat} {m : FnU} {ds : List D} {b : BSt} : callT kf m ds b = (match b.t[kf]? with
  | some (some (.frm none up)) => callF (m up) ds b
  | _ => .fail) := rfl
@[simp] theorem callU_ap {kf : Nat} {N : List Str} {capt : List Nat} {m : FnU} {ds : List D} {b : BSt} : callU kf N capt m ds b = (match b.t[kf]? with
  | some (some (.frm me up)) => callF (m (upsOf N capt b.t me up)) ds b
  | _ => .fail) := rfl
@[simp] theorem lamM_ap {i : Nat} {L : LamT} {kt kf : Nat} {x : Str} {b : BSt} : lamM i L kt kf x b = (match b.g.S kt, b.t[kf]? with
  | some (.tab x' q'), some (some (.frm (some fr) _)) => if x' = x ∧ q' = L.qual then .ok (.lam i L fr) b else .fail
  | _, _ => .fail) := rfl
end L2.VI

namespace L2.VI.K77
open PySem PySem.Spec PyProof.Rows He L2 L2.VI
noncomputable section
abbrev PW : Program := PySem.Challenge.pw_wholepaid_k77_questions_about_plans_refu
def st (i : Nat) : Stmt := PW.main.body.getD i (.Pass ⟨0, 0, 0, 0⟩)
def clsB : Stmt → List Stmt
  | .ClassDef (body := b) .. => b
  | _ => []
def stC (i j : Nat) : Stmt := (clsB (st i)).getD j (.Pass ⟨0, 0, 0, 0⟩)
abbrev s_sup_BadNumber : Stmt := stC 2 0
def d_sup_BadNumber : He.DefD := ⟨("BadNumber", some "__init__"), "__init__", "BadNumber.__init__", defArgs s_sup_BadNumber, defBody s_sup_BadNumber, defScope s_sup_BadNumber, [], []⟩
abbrev s_sup_BadPlan : Stmt := stC 3 0
def d_sup_BadPlan : He.DefD := ⟨("BadPlan", some "__init__"), "__init__", "BadPlan.__init__", defArgs s_sup_BadPlan, defBody s_sup_BadPlan, defScope s_sup_BadPlan, [], []⟩
def sups : Sups := [("BadNumber", d_sup_BadNumber), ("BadPlan", d_sup_BadPlan)]
def tabs : List (Str × Str) := [("_law_plan_right", ((("_law_plan_right" : Str) ++ ".<locals>.") ++ "<lambda>"))]
abbrev s_month_with : Stmt := st 18
def d_month_with : He.DefD := ⟨("month_with", none), "month_with", "month_with", defArgs s_month_with, defBody s_month_with, defScope s_month_with, [], []⟩
abbrev s_is_number : Stmt := st 5
def d_is_number : He.DefD := ⟨("is_number", none), "is_number", "is_number", defArgs s_is_number, defBody s_is_number, defScope s_is_number, [], []⟩
abbrev s_is_number_in : Stmt := st 6
def d_is_number_in : He.DefD := ⟨("is_number_in", none), "is_number_in", "is_number_in", defArgs s_is_number_in, defBody s_is_number_in, defScope s_is_number_in, [], []⟩
abbrev s_need_plan : Stmt := st 16
def d_need_plan : He.DefD := ⟨("need_plan", none), "need_plan", "need_plan", defArgs s_need_plan, defBody s_need_plan, defScope s_need_plan, [], []⟩
abbrev s_need_balance : Stmt := st 17
def d_need_balance : He.DefD := ⟨("need_balance", none), "need_balance", "need_balance", defArgs s_need_balance, defBody s_need_balance, defScope s_need_balance, [], []⟩
abbrev s_month : Stmt := st 19
def d_month : He.DefD := ⟨("month", none), "month", "month", defArgs s_month, defBody s_month, defScope s_month, [], []⟩
abbrev s_row_with : Stmt := st 20
def d_row_with : He.DefD := ⟨("row_with", none), "row_with", "row_with", defArgs s_row_with, defBody s_row_with, defScope s_row_with, [], []⟩
abbrev s_ending : Stmt := st 21
def d_ending : He.DefD := ⟨("ending", none), "ending", "ending", defArgs s_ending, defBody s_ending, defScope s_ending, [], []⟩
abbrev s_evidence : Stmt := st 22
def d_evidence : He.DefD := ⟨("evidence", none), "evidence", "evidence", defArgs s_evidence, defBody s_evidence, defScope s_evidence, [], []⟩
abbrev s_is_list : Stmt := st 7
def d_is_list : He.DefD := ⟨("is_list", none), "is_list", "is_list", defArgs s_is_list, defBody s_is_list, defScope s_is_list, [], []⟩
abbrev s_is_evidence : Stmt := st 23
def d_is_evidence : He.DefD := ⟨("is_evidence", none), "is_evidence", "is_evidence", defArgs s_is_evidence, defBody s_is_evidence, defScope s_is_evidence, [], []⟩
abbrev s_greatest_to : Stmt := st 26
def d_greatest_to : He.DefD := ⟨("greatest_to", none), "greatest_to", "greatest_to", defArgs s_greatest_to, defBody s_greatest_to, defScope s_greatest_to, [], []⟩
abbrev s_Plan_share : Stmt := stC 15 2
def d_Plan_share : He.DefD := ⟨("Plan", some "share"), "share", "Plan.share", defArgs s_Plan_share, defBody s_Plan_share, defScope s_Plan_share, [], []⟩
abbrev s_most_within : Stmt := st 27
def d_most_within : He.DefD := ⟨("most_within", none), "most_within", "most_within", defArgs s_most_within, defBody s_most_within, defScope s_most_within, [], []⟩
abbrev s_is_enough : Stmt := st 28
def d_is_enough : He.DefD := ⟨("is_enough", none), "is_enough", "is_enough", defArgs s_is_enough, defBody s_is_enough, defScope s_is_enough, [], []⟩
abbrev s_least_extra : Stmt := st 29
def d_least_extra : He.DefD := ⟨("least_extra", none), "least_extra", "least_extra", defArgs s_least_extra, defBody s_least_extra, defScope s_least_extra, [], []⟩
abbrev s_Plan_rate : Stmt := stC 15 1
def d_Plan_rate : He.DefD := ⟨("Plan", some "rate"), "rate", "Plan.rate", defArgs s_Plan_rate, defBody s_Plan_rate, defScope s_Plan_rate, [], []⟩
abbrev s_first_with : Stmt := st 24
def d_first_with : He.DefD := ⟨("first_with", none), "first_with", "first_with", defArgs s_first_with, defBody s_first_with, defScope s_first_with, [], []⟩
abbrev s_least_endless : Stmt := st 25
def d_least_endless : He.DefD := ⟨("least_endless", none), "least_endless", "least_endless", defArgs s_least_endless, defBody s_least_endless, defScope s_least_endless, [], []⟩
abbrev s__law_caught : Stmt := st 37
def d__law_caught : He.DefD := ⟨("_law_caught", none), "_law_caught", "_law_caught", defArgs s__law_caught, defBody s__law_caught, defScope s__law_caught, [], []⟩
abbrev s__law_kind : Stmt := st 38
def d__law_kind : He.DefD := ⟨("_law_kind", none), "_law_kind", "_law_kind", defArgs s__law_kind, defBody s__law_kind, defScope s__law_kind, [], []⟩
abbrev s__law_plan_right : Stmt := st 39
def d__law_plan_right : He.DefD := ⟨("_law_plan_right", none), "_law_plan_right", "_law_plan_right", defArgs s__law_plan_right, defBody s__law_plan_right, defScope s__law_plan_right, [], []⟩
abbrev s__law_mixed : Stmt := st 32
def d__law_mixed : He.DefD := ⟨("_law_mixed", none), "_law_mixed", "_law_mixed", defArgs s__law_mixed, defBody s__law_mixed, defScope s__law_mixed, [], []⟩
abbrev s__law_take : Stmt := st 33
def d__law_take : He.DefD := ⟨("_law_take", none), "_law_take", "_law_take", defArgs s__law_take, defBody s__law_take, defScope s__law_take, [], []⟩
abbrev s__law_pick : Stmt := st 34
def d__law_pick : He.DefD := ⟨("_law_pick", none), "_law_pick", "_law_pick", defArgs s__law_pick, defBody s__law_pick, defScope s__law_pick, [], []⟩
abbrev s_Plan_init : Stmt := stC 15 0
def d_Plan_init : He.DefD := ⟨("Plan", some "__init__"), "__init__", "Plan.__init__", defArgs s_Plan_init, defBody s_Plan_init, defScope s_Plan_init, [.bl false], []⟩
abbrev s__law_planned : Stmt := st 36
def d__law_planned : He.DefD := ⟨("_law_planned", none), "_law_planned", "_law_planned", defArgs s__law_planned, defBody s__law_planned, defScope s__law_planned, [], []⟩
abbrev s__law_parts : Stmt := st 35
def d__law_parts : He.DefD := ⟨("_law_parts", none), "_law_parts", "_law_parts", defArgs s__law_parts, defBody s__law_parts, defScope s__law_parts, [], []⟩
abbrev s__law_begun : Stmt := st 31
def d__law_begun : He.DefD := ⟨("_law_begun", none), "_law_begun", "_law_begun", defArgs s__law_begun, defBody s__law_begun, defScope s__law_begun, [], []⟩
abbrev s_law : Stmt := st 40
def d_law : He.DefD := ⟨("law", none), "law", "law", defArgs s_law, defBody s_law, defScope s_law, [], []⟩
def fn : List He.DefD := [d_month_with, d_is_number, d_is_number_in, d_need_plan, d_need_balance, d_month, d_row_with, d_ending, d_evidence, d_is_list, d_is_evidence, d_greatest_to, d_most_within, d_is_enough, d_least_extra, d_first_with, d_least_endless, d__law_caught, d__law_kind, d__law_plan_right, d__law_mixed, d__law_take, d__law_pick, d_Plan_init, d__law_planned, d__law_parts, d__law_begun, d_law]
def gs : Gets := [(("Plan", "share"), d_Plan_share), (("Plan", "rate"), d_Plan_rate)]
def fa : List He.Fa := [.free "len", .free "min", .free "range", .glo "BadPlan", .free "isinstance", .glo "BadNumber", .free "ValueError", .free "max", .int "THOUSAND" 1000, .noat "Plan" "l_parts", .cls "Plan", .glo "month_with", .free "int", .free "bool", .glo "is_number", .int "MOST_BALANCE" 100000, .glo "is_number_in", .glo "Plan", .glo "need_plan", .glo "need_balance", .glo "month", .free "sum", .glo "row_with", .glo "ending", .str "NEVER" "never", .str "ENDS" "ends", .glo "evidence", .free "list", .free "tuple", .glo "is_list", .free "all", .free "str", .glo "is_evidence", .glo "greatest_to", .int "MOST_MONTHS" 100, .glo "most_within", .glo "is_enough", .glo "least_extra", .glo "first_with", .glo "least_endless", .glo "CreditError", .glo "_law_caught", .glo "_law_kind", .free "repr", .glo "_law_plan_right", .glo "_law_mixed", .glo "_law_take", .glo "_law_pick", .int "MOST_LEAST" 1000000, .mkr "Plan", .glo "_law_planned", .glo "_law_parts", .glo "_law_begun", .glo "law"]
def FILE : Str := PW.main.file
def exs : List (PySem.W.Frag → Bool) := [excCB "BadPlan", kit1B "BadPlan" (.inr "BadPlan") true, excCB "BadNumber", kit1B "BadNumber" (.inr "BadPlan") false, kitsB "BadPlan", noAtB "BadPlan" "part", noAtB "BadNumber" "number", kit1B "BadPlan" (.inr "BadNumber") false, kit1B "BadNumber" (.inr "BadNumber") true, kitsB "BadNumber", kit1B "BadPlan" (.inl "ValueError") true, kit1B "BadNumber" (.inl "ValueError") true, exmB "BadPlan" "CreditError" true, exmB "BadNumber" "CreditError" true, kitsB "Plan", clsIB "Plan", kit1B "Plan" (.inr "Plan") true, supB FILE "BadNumber" "number", supB FILE "BadPlan" "part"]
structure Ctx (K : PySem.W.Frag) (mg : Str → Option Value) : Prop where
  says : SaysS sups fa fn gs (exAll exs) K
  ns : ∃ h : Heap, K.In h ∧ h.Ns mainGlobals mg
section
variable {K : PySem.W.Frag} {mg : Str → Option Value}
theorem Ctx.fact (C : Ctx K mg) (i : Nat) (f : He.Fa) (h : fa[i]? = some f := by rfl) : f.ok K = true := C.says.v.d.fact i h
theorem Ctx.glo (C : Ctx K mg) (i : Nat) (x : Str) (h : fa[i]? = some (.glo x) := by rfl) : mg x = some (.ref (ga K x)) := by
  obtain ⟨h0, X, G⟩ := C.ns
  exact glo_ok X G (C.fact i _ h)
theorem Ctx.free (C : Ctx K mg) (i : Nat) (x : Str) (h : fa[i]? = some (.free x) := by rfl) : mg x = none := by
  obtain ⟨h0, X, G⟩ := C.ns
  exact free_ok X G (C.fact i _ h)
theorem Ctx.int (C : Ctx K mg) (i : Nat) (x : Str) (n : Int) (h : fa[i]? = some (.int x n) := by rfl) : ∃ t, mg x = some (.int n t) := by
  obtain ⟨h0, X, G⟩ := C.ns
  exact int_ok X G (C.fact i _ h)
theorem Ctx.str (C : Ctx K mg) (i : Nat) (x z : Str) (h : fa[i]? = some (.str x z) := by rfl) : ∃ t, mg x = some (.str z t) := by
  obtain ⟨h0, X, G⟩ := C.ns
  exact str_ok X G (C.fact i _ h)
theorem Ctx.cls (C : Ctx K mg) (i : Nat) (x : Str) (h : fa[i]? = some (.cls x) := by rfl) : Cls K (ga K x) := cls_ok (C.fact i _ h)
theorem Ctx.noat (C : Ctx K mg) (i : Nat) (x f : Str) (h : fa[i]? = some (.noat x f) := by rfl) : NoAttr K (ga K x) f := noat_ok (C.fact i _ h)
theorem Ctx.meth (C : Ctx K mg) (i : Nat) (x m : Str) (h : fa[i]? = some (.meth x m) := by rfl) : Meth K (ga K x) m (ma K (ga K x) m) := meth_ok (C.fact i _ h)
theorem Ctx.mkr (C : Ctx K mg) (i : Nat) (x : Str) (h : fa[i]? = some (.mkr x) := by rfl) : Mk K (ga K x) (ma K (ga K x) "__init__") := mkr_ok (C.fact i _ h)
theorem Ctx.ex (C : Ctx K mg) (i : Nat) {f : PySem.W.Frag → Bool} (h : exs[i]? = some f := by rfl) : f K = true := exAt C.says.v.more i h
theorem Ctx.get (C : Ctx K mg) (i : Nat) (p : Str × Str) (d : He.DefD) (h : gs[i]? = some (p, d) := by rfl) : PropOf K (ga K p.1) p.2 (ma K (ga K p.1) p.2) (pgA K p) ∧ FunD K d.name d.qual d.params d.body d.scope [] [] (pgA K p) (fdA K (pgA K p)) := C.says.v.get i h
end
theorem sup_BadNumber {K : PySem.W.Frag} {mg : Str → Option Value} (C : Ctx K mg) : Sup.SupM PW K (ga K "BadNumber") (supA K "BadNumber") "self" "number" "number" (fdA K (supA K "BadNumber")) := supM_of (d := d_sup_BadNumber) (C.says.sup 0) (C.ex 17) ⟨_, _, _, _, _, _, _, _, _, _, _, _, rfl, rfl⟩ ⟨⟨_, rfl, rfl⟩, rfl, rfl, rfl, rfl, rfl, by decide +kernel, rfl, rfl⟩ (by decide +kernel) (by decide +kernel) (fun _ _ _ _ _ _ _ _ _ => rfl)
theorem sup_BadPlan {K : PySem.W.Frag} {mg : Str → Option Value} (C : Ctx K mg) : Sup.SupM PW K (ga K "BadPlan") (supA K "BadPlan") "self" "part" "part" (fdA K (supA K "BadPlan")) := supM_of (d := d_sup_BadPlan) (C.says.sup 1) (C.ex 18) ⟨_, _, _, _, _, _, _, _, _, _, _, _, rfl, rfl⟩ ⟨⟨_, rfl, rfl⟩, rfl, rfl, rfl, rfl, rfl, by decide +kernel, rfl, rfl⟩ (by decide +kernel) (by decide +kernel) (fun _ _ _ _ _ _ _ _ _ => rfl)
theorem fun_month_with {K : PySem.W.Frag} {mg : Str → Option Value} (C : Ctx K mg) : FunD K "month_with" "month_with" (defArgs s_month_with) (defBody s_month_with) (defScope s_month_with) [] [] (ga K "month_with") (fdA K (ga K "month_with")) := C.says.v.fn_ 0 (d := d_month_with) rfl
theorem fun_is_number {K : PySem.W.Frag} {mg : Str → Option Value} (C : Ctx K mg) : FunD K "is_number" "is_number" (defArgs s_is_number) (defBody s_is_number) (defScope s_is_number) [] [] (ga K "is_number") (fdA K (ga K "is_number")) := C.says.v.fn_ 1 (d := d_is_number) rfl
theorem fun_is_number_in {K : PySem.W.Frag} {mg : Str → Option Value} (C : Ctx K mg) : FunD K "is_number_in" "is_number_in" (defArgs s_is_number_in) (defBody s_is_number_in) (defScope s_is_number_in) [] [] (ga K "is_number_in") (fdA K (ga K "is_number_in")) := C.says.v.fn_ 2 (d := d_is_number_in) rfl
theorem fun_need_plan {K : PySem.W.Frag} {mg : Str → Option Value} (C : Ctx K mg) : FunD K "need_plan" "need_plan" (defArgs s_need_plan) (defBody s_need_plan) (defScope s_need_plan) [] [] (ga K "need_plan") (fdA K (ga K "need_plan")) := C.says.v.fn_ 3 (d := d_need_plan) rfl
theorem fun_need_balance {K : PySem.W.Frag} {mg : Str → Option Value} (C : Ctx K mg) : FunD K "need_balance" "need_balance" (defArgs s_need_balance) (defBody s_need_balance) (defScope s_need_balance) [] [] (ga K "need_balance") (fdA K (ga K "need_balance")) := C.says.v.fn_ 4 (d := d_need_balance) rfl
theorem fun_month {K : PySem.W.Frag} {mg : Str → Option Value} (C : Ctx K mg) : FunD K "month" "month" (defArgs s_month) (defBody s_month) (defScope s_month) [] [] (ga K "month") (fdA K (ga K "month")) := C.says.v.fn_ 5 (d := d_month) rfl
theorem fun_row_with {K : PySem.W.Frag} {mg : Str → Option Value} (C : Ctx K mg) : FunD K "row_with" "row_with" (defArgs s_row_with) (defBody s_row_with) (defScope s_row_with) [] [] (ga K "row_with") (fdA K (ga K "row_with")) := C.says.v.fn_ 6 (d := d_row_with) rfl
theorem fun_ending {K : PySem.W.Frag} {mg : Str → Option Value} (C : Ctx K mg) : FunD K "ending" "ending" (defArgs s_ending) (defBody s_ending) (defScope s_ending) [] [] (ga K "ending") (fdA K (ga K "ending")) := C.says.v.fn_ 7 (d := d_ending) rfl
theorem fun_evidence {K : PySem.W.Frag} {mg : Str → Option Value} (C : Ctx K mg) : FunD K "evidence" "evidence" (defArgs s_evidence) (defBody s_evidence) (defScope s_evidence) [] [] (ga K "evidence") (fdA K (ga K "evidence")) := C.says.v.fn_ 8 (d := d_evidence) rfl
theorem fun_is_list {K : PySem.W.Frag} {mg : Str → Option Value} (C : Ctx K mg) : FunD K "is_list" "is_list" (defArgs s_is_list) (defBody s_is_list) (defScope s_is_list) [] [] (ga K "is_list") (fdA K (ga K "is_list")) := C.says.v.fn_ 9 (d := d_is_list) rfl
theorem fun_is_evidence {K : PySem.W.Frag} {mg : Str → Option Value} (C : Ctx K mg) : FunD K "is_evidence" "is_evidence" (defArgs s_is_evidence) (defBody s_is_evidence) (defScope s_is_evidence) [] [] (ga K "is_evidence") (fdA K (ga K "is_evidence")) := C.says.v.fn_ 10 (d := d_is_evidence) rfl
theorem fun_greatest_to {K : PySem.W.Frag} {mg : Str → Option Value} (C : Ctx K mg) : FunD K "greatest_to" "greatest_to" (defArgs s_greatest_to) (defBody s_greatest_to) (defScope s_greatest_to) [] [] (ga K "greatest_to") (fdA K (ga K "greatest_to")) := C.says.v.fn_ 11 (d := d_greatest_to) rfl
theorem fun_Plan_share {K : PySem.W.Frag} {mg : Str → Option Value} (C : Ctx K mg) : FunD K "share" "Plan.share" (defArgs s_Plan_share) (defBody s_Plan_share) (defScope s_Plan_share) [] [] (pgA K ("Plan", "share")) (fdA K (pgA K ("Plan", "share"))) := (C.get 0 ("Plan", "share") d_Plan_share).2
theorem fun_most_within {K : PySem.W.Frag} {mg : Str → Option Value} (C : Ctx K mg) : FunD K "most_within" "most_within" (defArgs s_most_within) (defBody s_most_within) (defScope s_most_within) [] [] (ga K "most_within") (fdA K (ga K "most_within")) := C.says.v.fn_ 12 (d := d_most_within) rfl
theorem fun_is_enough {K : PySem.W.Frag} {mg : Str → Option Value} (C : Ctx K mg) : FunD K "is_enough" "is_enough" (defArgs s_is_enough) (defBody s_is_enough) (defScope s_is_enough) [] [] (ga K "is_enough") (fdA K (ga K "is_enough")) := C.says.v.fn_ 13 (d := d_is_enough) rfl
theorem fun_least_extra {K : PySem.W.Frag} {mg : Str → Option Value} (C : Ctx K mg) : FunD K "least_extra" "least_extra" (defArgs s_least_extra) (defBody s_least_extra) (defScope s_least_extra) [] [] (ga K "least_extra") (fdA K (ga K "least_extra")) := C.says.v.fn_ 14 (d := d_least_extra) rfl
theorem fun_Plan_rate {K : PySem.W.Frag} {mg : Str → Option Value} (C : Ctx K mg) : FunD K "rate" "Plan.rate" (defArgs s_Plan_rate) (defBody s_Plan_rate) (defScope s_Plan_rate) [] [] (pgA K ("Plan", "rate")) (fdA K (pgA K ("Plan", "rate"))) := (C.get 1 ("Plan", "rate") d_Plan_rate).2
theorem fun_first_with {K : PySem.W.Frag} {mg : Str → Option Value} (C : Ctx K mg) : FunD K "first_with" "first_with" (defArgs s_first_with) (defBody s_first_with) (defScope s_first_with) [] [] (ga K "first_with") (fdA K (ga K "first_with")) := C.says.v.fn_ 15 (d := d_first_with) rfl
theorem fun_least_endless {K : PySem.W.Frag} {mg : Str → Option Value} (C : Ctx K mg) : FunD K "least_endless" "least_endless" (defArgs s_least_endless) (defBody s_least_endless) (defScope s_least_endless) [] [] (ga K "least_endless") (fdA K (ga K "least_endless")) := C.says.v.fn_ 16 (d := d_least_endless) rfl
theorem fun__law_caught {K : PySem.W.Frag} {mg : Str → Option Value} (C : Ctx K mg) : FunD K "_law_caught" "_law_caught" (defArgs s__law_caught) (defBody s__law_caught) (defScope s__law_caught) [] [] (ga K "_law_caught") (fdA K (ga K "_law_caught")) := C.says.v.fn_ 17 (d := d__law_caught) rfl
theorem fun__law_kind {K : PySem.W.Frag} {mg : Str → Option Value} (C : Ctx K mg) : FunD K "_law_kind" "_law_kind" (defArgs s__law_kind) (defBody s__law_kind) (defScope s__law_kind) [] [] (ga K "_law_kind") (fdA K (ga K "_law_kind")) := C.says.v.fn_ 18 (d := d__law_kind) rfl
theorem fun__law_plan_right {K : PySem.W.Frag} {mg : Str → Option Value} (C : Ctx K mg) : FunD K "_law_plan_right" "_law_plan_right" (defArgs s__law_plan_right) (defBody s__law_plan_right) (defScope s__law_plan_right) [] [] (ga K "_law_plan_right") (fdA K (ga K "_law_plan_right")) := C.says.v.fn_ 19 (d := d__law_plan_right) rfl
theorem fun__law_mixed {K : PySem.W.Frag} {mg : Str → Option Value} (C : Ctx K mg) : FunD K "_law_mixed" "_law_mixed" (defArgs s__law_mixed) (defBody s__law_mixed) (defScope s__law_mixed) [] [] (ga K "_law_mixed") (fdA K (ga K "_law_mixed")) := C.says.v.fn_ 20 (d := d__law_mixed) rfl
theorem fun__law_take {K : PySem.W.Frag} {mg : Str → Option Value} (C : Ctx K mg) : FunD K "_law_take" "_law_take" (defArgs s__law_take) (defBody s__law_take) (defScope s__law_take) [] [] (ga K "_law_take") (fdA K (ga K "_law_take")) := C.says.v.fn_ 21 (d := d__law_take) rfl
theorem fun__law_pick {K : PySem.W.Frag} {mg : Str → Option Value} (C : Ctx K mg) : FunD K "_law_pick" "_law_pick" (defArgs s__law_pick) (defBody s__law_pick) (defScope s__law_pick) [] [] (ga K "_law_pick") (fdA K (ga K "_law_pick")) := C.says.v.fn_ 22 (d := d__law_pick) rfl
theorem fun_Plan_init {K : PySem.W.Frag} {mg : Str → Option Value} (C : Ctx K mg) : FunD K "__init__" "Plan.__init__" (defArgs s_Plan_init) (defBody s_Plan_init) (defScope s_Plan_init) (DefD.dvs K d_Plan_init) [] (fAd K ("Plan", some "__init__")) (fdA K (fAd K ("Plan", some "__init__"))) := C.says.v.fn_ 23 (d := d_Plan_init) rfl
theorem fun__law_planned {K : PySem.W.Frag} {mg : Str → Option Value} (C : Ctx K mg) : FunD K "_law_planned" "_law_planned" (defArgs s__law_planned) (defBody s__law_planned) (defScope s__law_planned) [] [] (ga K "_law_planned") (fdA K (ga K "_law_planned")) := C.says.v.fn_ 24 (d := d__law_planned) rfl
theorem fun__law_parts {K : PySem.W.Frag} {mg : Str → Option Value} (C : Ctx K mg) : FunD K "_law_parts" "_law_parts" (defArgs s__law_parts) (defBody s__law_parts) (defScope s__law_parts) [] [] (ga K "_law_parts") (fdA K (ga K "_law_parts")) := C.says.v.fn_ 25 (d := d__law_parts) rfl
theorem fun__law_begun {K : PySem.W.Frag} {mg : Str → Option Value} (C : Ctx K mg) : FunD K "_law_begun" "_law_begun" (defArgs s__law_begun) (defBody s__law_begun) (defScope s__law_begun) [] [] (ga K "_law_begun") (fdA K (ga K "_law_begun")) := C.says.v.fn_ 26 (d := d__law_begun) rfl
theorem fun_law {K : PySem.W.Frag} {mg : Str → Option Value} (C : Ctx K mg) : FunD K "law" "law" (defArgs s_law) (defBody s_law) (defScope s_law) [] [] (ga K "law") (fdA K (ga K "law")) := C.says.v.fn_ 27 (d := d_law) rfl
/-! month_with: slots 0 plan, 1 balance, 2 extra, 3 rate, 4 share, 5 least, 6 plus, 7 interest, 8 owed, 9 wanted, 10 payment -/
def m_month_with : M Fl := seqM (asgM (fldM "Plan" "l_parts" (getV 0)) (gTupM 4 (gsCons (gSet 3) (gsCons (gSet 4) (gsCons (gSet 5) (gsCons (gSet 6) (gsNil))))))) (seqM (M.bind (bin2 fdivD (bin2 mulD (getV 1) (getV 3)) (M.ret (.int 1000))) (setV 7)) (seqM (M.bind (bin2 addD (getV 1) (getV 7)) (setV 8)) (seqM (ifM (isB (bin2 leD (getV 8) (getV 5))) (retM (tupM (consM (getV 7) (consM (getV 8) (consM (M.ret (.int 0)) (M.ret [])))))) (M.ret .nx)) (seqM (M.bind (ifM (isB (getV 6)) (bin2 addD (getV 7) (bin2 fdivD (bin2 mulD (getV 1) (getV 4)) (M.ret (.int 1000)))) (bin2 fdivD (bin2 mulD (getV 8) (getV 4)) (M.ret (.int 1000)))) (setV 9)) (seqM (M.bind (M.bind (consM (getV 8) (consM (bin2 addD (M.bind (consM (getV 5) (consM (getV 9) (M.ret []))) max2D) (getV 2)) (M.ret []))) min2D) (setV 10)) (retM (tupM (consM (getV 7) (consM (getV 10) (consM (bin2 subD (getV 8) (getV 10)) (M.ret [])))))))))))
def f_month_with : FnD := fnBody 3 11 m_month_with
theorem sc_month_with : FnScope ["plan", "balance", "extra", "rate", "share", "least", "plus", "interest", "owed", "wanted", "payment"] ["plan", "balance", "extra"] (defScope s_month_with) := ⟨rfl, rfl, rfl, by decide +kernel, rfl, by decide +kernel, by decide +kernel⟩
theorem b_month_with {K : PySem.W.Frag} {mg : Str → Option Value} (C : Ctx K mg) : Binds K (fdA K (ga K "month_with")) ["plan", "balance", "extra"] [] := (fun_month_with C).bindsN fun _ _ _ _ _ _ us hl => match us, hl with | [_, _, _], _ => rfl
theorem ok_month_with {w : World} {K : PySem.W.Frag} {mg : Str → Option Value} {base : Heap} (C : Ctx K mg) : OkV PW w K mg base 1 (ga K "month_with") ["plan", "balance", "extra"] f_month_with :=
  fn_okV (qual := "month_with") (scope := defScope s_month_with) (body := defBody s_month_with) (m := m_month_with) (k := 0) (fun_month_with C) sc_month_with rfl rfl fun cdv A outer s H E hr => ss_cons (ss_asg (vs := [3, 4, 5, 6]) (se_fld (sv 0) (C.cls 10 "Plan") (C.noat 9 "Plan" "l_parts")) (sg_tup (sgs_cons (sg_name sc_month_with.nd) (sgs_cons (sg_name sc_month_with.nd) (sgs_cons (sg_name sc_month_with.nd) (sgs_cons (sg_name sc_month_with.nd) (sgs_nil))))))) (ss_cons (ss_set sc_month_with.nd (se_bin ov_fdiv (se_bin ov_mul (sv 1) (sv 3)) (se_gint (C.int 8 "THOUSAND" 1000)))) (ss_cons (ss_set sc_month_with.nd (se_bin ov_add (sv 1) (sv 7))) (ss_cons (ss_if (sb_cmp ov_le (sv 8) (sv 5) (nomark _)) (ss_one (ss_ret (se_tup (sa_cons (sv 7) (sa_cons (sv 8) (sa_cons (se_int) (sa_nil))))))) (ss_nil)) (ss_cons (ss_set sc_month_with.nd (se_if (sb_val (sv 6)) (se_bin ov_add (sv 7) (se_bin ov_fdiv (se_bin ov_mul (sv 1) (sv 4)) (se_gint (C.int 8 "THOUSAND" 1000)))) (se_bin ov_fdiv (se_bin ov_mul (sv 8) (sv 4)) (se_gint (C.int 8 "THOUSAND" 1000))))) (ss_cons (ss_set sc_month_with.nd (se_callB cv_min2 (C.free 1 "min") (by decide +kernel) (sa_cons (sv 8) (sa_cons (se_bin ov_add (se_callB cv_max2 (C.free 7 "max") (by decide +kernel) (sa_cons (sv 5) (sa_cons (sv 9) (sa_nil)))) (sv 2)) (sa_nil))))) (ss_one (ss_ret (se_tup (sa_cons (sv 7) (sa_cons (sv 10) (sa_cons (se_bin ov_sub (sv 8) (sv 10)) (sa_nil))))))))))))
/-! is_number: slots 0 value -/
def m_is_number : M Fl := retM (andD (M.bind (consM (getV 0) (consM (M.ret (.ty "int")) (M.ret []))) (isiM (isTyD "int") (fun t => t == "int" || t == "bool") [])) (notD (M.bind (consM (getV 0) (consM (M.ret (.ty "bool")) (M.ret []))) (isiM (isTyD "bool") (fun t => t == "bool") []))))
def f_is_number : FnD := fnBody 1 1 m_is_number
theorem sc_is_number : FnScope ["value"] ["value"] (defScope s_is_number) := ⟨rfl, rfl, rfl, by decide +kernel, rfl, by decide +kernel, by decide +kernel⟩
theorem b_is_number {K : PySem.W.Frag} {mg : Str → Option Value} (C : Ctx K mg) : Binds K (fdA K (ga K "is_number")) ["value"] [] := (fun_is_number C).bindsN fun _ _ _ _ _ _ us hl => match us, hl with | [_], _ => rfl
theorem ok_is_number {w : World} {K : PySem.W.Frag} {mg : Str → Option Value} {base : Heap} (C : Ctx K mg) : OkV PW w K mg base 1 (ga K "is_number") ["value"] f_is_number :=
  fn_okV (qual := "is_number") (scope := defScope s_is_number) (body := defBody s_is_number) (m := m_is_number) (k := 0) (fun_is_number C) sc_is_number rfl rfl fun cdv A outer s H E hr => ss_one (ss_ret (se_and (se_callB (cv_isiT (ho := (fun p hp => nomatch hp))) (C.free 4 "isinstance") (by decide +kernel) (sa_cons (sv 0) (sa_cons (se_bty (n := "int") (C.free 12 "int") (by decide +kernel)) (sa_nil)))) (se_one (se_not (se_callB (cv_isiT (ho := (fun p hp => nomatch hp))) (C.free 4 "isinstance") (by decide +kernel) (sa_cons (sv 0) (sa_cons (se_bty (n := "bool") (C.free 13 "bool") (by decide +kernel)) (sa_nil))))))))
/-! is_number_in: slots 0 value, 1 least, 2 most -/
def m_is_number_in : M Fl := retM (andD (M.bind (consM (getV 0) (M.ret [])) (callF f_is_number)) (chainD leD leD (getV 1) (getV 0) (getV 2)))
def f_is_number_in : FnD := fnBody 3 3 m_is_number_in
theorem sc_is_number_in : FnScope ["value", "least", "most"] ["value", "least", "most"] (defScope s_is_number_in) := ⟨rfl, rfl, rfl, by decide +kernel, rfl, by decide +kernel, by decide +kernel⟩
theorem b_is_number_in {K : PySem.W.Frag} {mg : Str → Option Value} (C : Ctx K mg) : Binds K (fdA K (ga K "is_number_in")) ["value", "least", "most"] [] := (fun_is_number_in C).bindsN fun _ _ _ _ _ _ us hl => match us, hl with | [_, _, _], _ => rfl
theorem ok_is_number_in {w : World} {K : PySem.W.Frag} {mg : Str → Option Value} {base : Heap} (C : Ctx K mg) : OkV PW w K mg base 2 (ga K "is_number_in") ["value", "least", "most"] f_is_number_in :=
  fn_okV (qual := "is_number_in") (scope := defScope s_is_number_in) (body := defBody s_is_number_in) (m := m_is_number_in) (k := 1) (fun_is_number_in C) sc_is_number_in rfl rfl fun cdv A outer s H E hr => ss_one (ss_ret (se_and (se_call (takes_of rfl rfl rfl rfl) ((ok_is_number C).mono (by decide : 1 ≤ 1)) ar_of hr (C.glo 14 "is_number") (fun_is_number C).kp (b_is_number C) (sa_cons (sv 0) (sa_nil))) (se_one (se_chain ob_le ov_le (sv 1) (sv 0) (sv 2)))))
/-! need_plan: slots 0 value -/
def m_need_plan : M Fl := ifM (notB (isB (M.bind (consM (getV 0) (consM (M.ret (.glo "Plan")) (M.ret []))) (isiM (isGloD "Plan") (fun _ => false) [("Plan", true)])))) (raiseS "BadPlan" "part" (consM (M.ret (.str "plan")) (M.ret []))) (M.ret .nx)
def f_need_plan : FnD := fnBody 1 1 m_need_plan
theorem sc_need_plan : FnScope ["value"] ["value"] (defScope s_need_plan) := ⟨rfl, rfl, rfl, by decide +kernel, rfl, by decide +kernel, by decide +kernel⟩
theorem b_need_plan {K : PySem.W.Frag} {mg : Str → Option Value} (C : Ctx K mg) : Binds K (fdA K (ga K "need_plan")) ["value"] [] := (fun_need_plan C).bindsN fun _ _ _ _ _ _ us hl => match us, hl with | [_], _ => rfl
theorem ok_need_plan {w : World} {K : PySem.W.Frag} {mg : Str → Option Value} {base : Heap} (C : Ctx K mg) : OkV PW w K mg base 2 (ga K "need_plan") ["value"] f_need_plan :=
  fn_okV (qual := "need_plan") (scope := defScope s_need_plan) (body := defBody s_need_plan) (m := m_need_plan) (k := 1) (fun_need_plan C) sc_need_plan rfl rfl fun cdv A outer s H E hr => ss_one (ss_if (sb_not (sb_val (se_callB (cv_isiC (kitsB_ok (C := "Plan") (C.ex 14)) (List.forall_mem_cons.mpr ⟨⟨clsIB_ok (c := "Plan") (C.cls 10 "Plan") (C.ex 15), kit1B_ok (c := "Plan") (t := (.inr "Plan")) (r := true) (C.ex 16)⟩, (fun p hp => nomatch hp)⟩)) (C.free 4 "isinstance") (by decide +kernel) (sa_cons (sv 0) (sa_cons (se_glo (C.glo 17 "Plan")) (sa_nil)))))) (ss_one (ss_raiseS (takes_of rfl rfl rfl rfl) (sup_BadPlan C) (hr.mono (by decide : 0 + 1 ≤ 1)) (C.glo 3 "BadPlan") (sa_cons (se_str) (sa_nil)))) (ss_nil))
/-! need_balance: slots 0 plan, 1 balance -/
def m_need_balance : M Fl := seqM (exprM (M.bind (consM (getV 0) (M.ret [])) (callF f_need_plan))) (ifM (notB (isB (M.bind (consM (getV 1) (consM (M.ret (.int 0)) (consM (M.ret (.int 100000)) (M.ret [])))) (callF f_is_number_in)))) (raiseS "BadNumber" "number" (consM (getV 1) (M.ret []))) (M.ret .nx))
def f_need_balance : FnD := fnBody 2 2 m_need_balance
theorem sc_need_balance : FnScope ["plan", "balance"] ["plan", "balance"] (defScope s_need_balance) := ⟨rfl, rfl, rfl, by decide +kernel, rfl, by decide +kernel, by decide +kernel⟩
theorem b_need_balance {K : PySem.W.Frag} {mg : Str → Option Value} (C : Ctx K mg) : Binds K (fdA K (ga K "need_balance")) ["plan", "balance"] [] := (fun_need_balance C).bindsN fun _ _ _ _ _ _ us hl => match us, hl with | [_, _], _ => rfl
theorem ok_need_balance {w : World} {K : PySem.W.Frag} {mg : Str → Option Value} {base : Heap} (C : Ctx K mg) : OkV PW w K mg base 3 (ga K "need_balance") ["plan", "balance"] f_need_balance :=
  fn_okV (qual := "need_balance") (scope := defScope s_need_balance) (body := defBody s_need_balance) (m := m_need_balance) (k := 2) (fun_need_balance C) sc_need_balance rfl rfl fun cdv A outer s H E hr => ss_cons (ss_expr (se_call (takes_of rfl rfl rfl rfl) ((ok_need_plan C).mono (by decide : 2 ≤ 2)) ar_of hr (C.glo 18 "need_plan") (fun_need_plan C).kp (b_need_plan C) (sa_cons (sv 0) (sa_nil)))) (ss_one (ss_if (sb_not (sb_val (se_call (takes_of rfl rfl rfl rfl) ((ok_is_number_in C).mono (by decide : 2 ≤ 2)) ar_of hr (C.glo 16 "is_number_in") (fun_is_number_in C).kp (b_is_number_in C) (sa_cons (sv 1) (sa_cons (se_int) (sa_cons (se_gint (C.int 15 "MOST_BALANCE" 100000)) (sa_nil))))))) (ss_one (ss_raiseS (takes_of rfl rfl rfl rfl) (sup_BadNumber C) (hr.mono (by decide : 0 + 1 ≤ 2)) (C.glo 5 "BadNumber") (sa_cons (sv 1) (sa_nil)))) (ss_nil)))
/-! month: slots 0 plan, 1 balance -/
def m_month : M Fl := seqM (exprM (M.bind (consM (getV 0) (consM (getV 1) (M.ret []))) (callF f_need_balance))) (retM (M.bind (consM (getV 0) (consM (getV 1) (consM (M.ret (.int 0)) (M.ret [])))) (callF f_month_with)))
def f_month : FnD := fnBody 2 2 m_month
theorem sc_month : FnScope ["plan", "balance"] ["plan", "balance"] (defScope s_month) := ⟨rfl, rfl, rfl, by decide +kernel, rfl, by decide +kernel, by decide +kernel⟩
theorem b_month {K : PySem.W.Frag} {mg : Str → Option Value} (C : Ctx K mg) : Binds K (fdA K (ga K "month")) ["plan", "balance"] [] := (fun_month C).bindsN fun _ _ _ _ _ _ us hl => match us, hl with | [_, _], _ => rfl
theorem ok_month {w : World} {K : PySem.W.Frag} {mg : Str → Option Value} {base : Heap} (C : Ctx K mg) : OkV PW w K mg base 4 (ga K "month") ["plan", "balance"] f_month :=
  fn_okV (qual := "month") (scope := defScope s_month) (body := defBody s_month) (m := m_month) (k := 3) (fun_month C) sc_month rfl rfl fun cdv A outer s H E hr => ss_cons (ss_expr (se_call (takes_of rfl rfl rfl rfl) ((ok_need_balance C).mono (by decide : 3 ≤ 3)) ar_of hr (C.glo 19 "need_balance") (fun_need_balance C).kp (b_need_balance C) (sa_cons (sv 0) (sa_cons (sv 1) (sa_nil))))) (ss_one (ss_ret (se_call (takes_of rfl rfl rfl rfl) ((ok_month_with C).mono (by decide : 1 ≤ 3)) ar_of hr (C.glo 11 "month_with") (fun_month_with C).kp (b_month_with C) (sa_cons (sv 0) (sa_cons (sv 1) (sa_cons (se_int) (sa_nil)))))))
def ml_0 : M D := M.bind (consM (getV 0) (consM (getV 1) (M.ret []))) (callF f_month)
abbrev le_0 : Expr := (lxEl 0 (lsVal (lsAt 0 (defBody s__law_plan_right))))
def lam_0 : LamT := ⟨(("_law_plan_right" : Str) ++ ".<locals>.") ++ "<lambda>", lxPar le_0, lxBody le_0, lxScope le_0, ["_law_first", "_law_second", "_law_third", "_law_due", "_law_works", "_law_work", "."]⟩
theorem lamB_0 : LamB lam_0 := ⟨rfl, rfl, rfl, by decide +kernel, fun _ _ _ _ => rfl⟩
theorem okl_0 {w : World} {K : PySem.W.Frag} {mg : Str → Option Value} {base : Heap} (C : Ctx K mg) : OkLam PW w K mg base 4 lam_0 ml_0 := fun cs A outer s H E f c hr => se_call (takes_of rfl rfl rfl rfl) ((ok_month C).mono (by decide : 4 ≤ 4)) ar_of hr (C.glo 20 "month") (fun_month C).kp (b_month C) (sa_cons (sv 0) (sa_cons (sv 1) (sa_nil)))
/-! row_with: slots 0 plan, 1 balance, 2 extra, 3 found, 4 later -/
def m_row_with : M Fl := seqM (M.bind (lstN (consM (getV 1) (M.ret []))) (setO 3)) (seqM (whileM (isB (bin2 gtD (ixV 3 (negM (M.ret (.int 1)))) (M.ret (.int 0)))) (seqM (M.bind (bin2 ixD (M.bind (consM (getV 0) (consM (ixV 3 (negM (M.ret (.int 1)))) (consM (getV 2) (M.ret [])))) (callF f_month_with)) (M.ret (.int 2))) (setV 4)) (seqM (ifM (isB (bin2 geD (getV 4) (ixV 3 (negM (M.ret (.int 1)))))) (retM (getV 3)) (M.ret .nx)) (exprM (methO 3 "list" fAppend (consM (getV 4) (M.ret []))))))) (retM (getV 3)))
def f_row_with : FnD := fnBody 3 5 m_row_with
theorem sc_row_with : FnScope ["plan", "balance", "extra", "found", "later"] ["plan", "balance", "extra"] (defScope s_row_with) := ⟨rfl, rfl, rfl, by decide +kernel, rfl, by decide +kernel, by decide +kernel⟩
theorem b_row_with {K : PySem.W.Frag} {mg : Str → Option Value} (C : Ctx K mg) : Binds K (fdA K (ga K "row_with")) ["plan", "balance", "extra"] [] := (fun_row_with C).bindsN fun _ _ _ _ _ _ us hl => match us, hl with | [_, _, _], _ => rfl
theorem ok_row_with {w : World} {K : PySem.W.Frag} {mg : Str → Option Value} {base : Heap} (C : Ctx K mg) : OkV PW w K mg base 2 (ga K "row_with") ["plan", "balance", "extra"] f_row_with :=
  fn_okV (qual := "row_with") (scope := defScope s_row_with) (body := defBody s_row_with) (m := m_row_with) (k := 1) (fun_row_with C) sc_row_with rfl rfl fun cdv A outer s H E hr => ss_cons (ss_setO sc_row_with.nd (sn_lst (sa_cons (sv 1) (sa_nil)))) (ss_cons (ss_while (passes_of rfl) (sb_cmp ov_gt (se_ixV (hu_of hr) (pvv 3) (se_neg (se_int))) (se_int) (nomark _)) (ss_cons (ss_set sc_row_with.nd (se_ix (hu_of hr) (se_call (takes_of rfl rfl rfl rfl) ((ok_month_with C).mono (by decide : 1 ≤ 1)) ar_of hr (C.glo 11 "month_with") (fun_month_with C).kp (b_month_with C) (sa_cons (sv 0) (sa_cons (se_ixV (hu_of hr) (pvv 3) (se_neg (se_int))) (sa_cons (sv 2) (sa_nil))))) (se_int))) (ss_cons (ss_if (sb_cmp ov_ge (sv 4) (se_ixV (hu_of hr) (pvv 3) (se_neg (se_int))) (nomark _)) (ss_one (ss_ret (sv 3))) (ss_nil)) (ss_one (ss_expr (se_methO mo_append PySem.F.plainAttrs_list PySem.F.slot_list_append (by rfl) (pvv 3) (sa_cons (sv 4) (sa_nil)))))))) (ss_one (ss_ret (sv 3))))
/-! ending: slots 0 plan, 1 balance, 2 row, 3 one -/
def m_ending : M Fl := seqM (exprM (M.bind (consM (getV 0) (consM (getV 1) (M.ret []))) (callF f_need_balance))) (seqM (M.bind (M.bind (consM (getV 0) (consM (getV 1) (consM (M.ret (.int 0)) (M.ret [])))) (callF f_row_with)) (setV 2)) (seqM (ifM (isB (bin2 gtD (ixV 2 (negM (M.ret (.int 1)))) (M.ret (.int 0)))) (retM (M.ret .non)) (M.ret .nx)) (retM (tupM (consM (bin2 subD (lenV 2) (M.ret (.int 1))) (consM (M.bind (consM (frzM (lcN (itemsM (getV 2)) (gSet 3) (M.ret true) (bin2 ixD (M.bind (consM (getV 0) (consM (getV 3) (consM (M.ret (.int 0)) (M.ret [])))) (callF f_month_with)) (M.ret (.int 0))) [3])) (M.ret [])) sumD) (M.ret [])))))))
def f_ending : FnD := fnBody 2 4 m_ending
theorem sc_ending : FnScope ["plan", "balance", "row", "one"] ["plan", "balance"] (defScope s_ending) := ⟨rfl, rfl, rfl, by decide +kernel, rfl, by decide +kernel, by decide +kernel⟩
theorem b_ending {K : PySem.W.Frag} {mg : Str → Option Value} (C : Ctx K mg) : Binds K (fdA K (ga K "ending")) ["plan", "balance"] [] := (fun_ending C).bindsN fun _ _ _ _ _ _ us hl => match us, hl with | [_, _], _ => rfl
theorem ok_ending {w : World} {K : PySem.W.Frag} {mg : Str → Option Value} {base : Heap} (C : Ctx K mg) : OkV PW w K mg base 4 (ga K "ending") ["plan", "balance"] f_ending :=
  fn_okV (qual := "ending") (scope := defScope s_ending) (body := defBody s_ending) (m := m_ending) (k := 3) (fun_ending C) sc_ending rfl rfl fun cdv A outer s H E hr => ss_cons (ss_expr (se_call (takes_of rfl rfl rfl rfl) ((ok_need_balance C).mono (by decide : 3 ≤ 3)) ar_of hr (C.glo 19 "need_balance") (fun_need_balance C).kp (b_need_balance C) (sa_cons (sv 0) (sa_cons (sv 1) (sa_nil))))) (ss_cons (ss_set sc_ending.nd (se_call (takes_of rfl rfl rfl rfl) ((ok_row_with C).mono (by decide : 2 ≤ 3)) ar_of hr (C.glo 22 "row_with") (fun_row_with C).kp (b_row_with C) (sa_cons (sv 0) (sa_cons (sv 1) (sa_cons (se_int) (sa_nil)))))) (ss_cons (ss_if (sb_cmp ov_gt (se_ixV (hu_of hr) (pvv 2) (se_neg (se_int))) (se_int) (nomark _)) (ss_one (ss_ret (se_non))) (ss_nil)) (ss_one (ss_ret (se_tup (sa_cons (se_bin ov_sub (se_lenV (pvv 2) (C.free 0 "len")) (se_int)) (sa_cons (se_callB cv_sum (C.free 21 "sum") (by decide +kernel) (sa_cons (se_frz (sn_lc (own := [("one", 3)]) sc_ending.nd (si_seq (sv 2)) (blkOk_by (N := ["plan", "balance", "row", "one"]) (sc := defScope s_ending) (by decide +kernel)) (fun _ _ _ _ _ => sg_name sc_ending.nd) (fun _ _ _ _ _ => sts_nil) (fun _ _ _ _ _ => se_ix (hu_of hr) (se_call LamX.takes0 ((ok_month_with C).mono (by decide : 1 ≤ 3)) ar_of hr (C.glo 11 "month_with") (fun_month_with C).kp (b_month_with C) (sa_cons (sv 0) (sa_cons (sv 3) (sa_cons (se_int) (sa_nil))))) (se_int)))) (sa_nil))) (sa_nil))))))))
theorem kb_ending_0_balance_plan {K : PySem.W.Frag} {mg : Str → Option Value} (C : Ctx K mg) : KB K (fdA K (ga K "ending")) ["plan", "balance"] 0 (["balance", "plan"] : List Str) [] [1, 0] := kb_n (fun_ending C) fun _ _ _ _ _ _ us ws h1 h2 => match us, ws, h1, h2 with | [], [_, _], _, _ => rfl
def ml_1 : M D := argsK 0 2 [] [1, 0] (M.ret []) (consM (getV 1) (consM (getV 0) (M.ret []))) (callF f_ending)
abbrev le_1 : Expr := (lxArg 0 (lsVal (lsAt 1 (defBody s__law_plan_right))))
def lam_1 : LamT := ⟨(("_law_plan_right" : Str) ++ ".<locals>.") ++ "<lambda>", lxPar le_1, lxBody le_1, lxScope le_1, ["_law_first", "_law_second", "_law_third", "_law_due", "_law_works", "_law_work", "."]⟩
theorem lamB_1 : LamB lam_1 := ⟨rfl, rfl, rfl, by decide +kernel, fun _ _ _ _ => rfl⟩
theorem okl_1 {w : World} {K : PySem.W.Frag} {mg : Str → Option Value} {base : Heap} (C : Ctx K mg) : OkLam PW w K mg base 4 lam_1 ml_1 := fun cs A outer s H E f c hr => se_callK0 (takes_of rfl rfl rfl rfl) ((ok_ending C).mono (by decide : 4 ≤ 4)) ar_of hr (C.glo 23 "ending") (fun_ending C).kp (kb_ending_0_balance_plan C) (.nil) (sk_cons (sv 1) (sk_cons (sv 0) (sk_nil)))
/-! evidence: slots 0 plan, 1 balance, 2 row -/
def m_evidence : M Fl := seqM (exprM (M.bind (consM (getV 0) (consM (getV 1) (M.ret []))) (callF f_need_balance))) (seqM (M.bind (M.bind (consM (getV 0) (consM (getV 1) (consM (M.ret (.int 0)) (M.ret [])))) (callF f_row_with)) (setV 2)) (retM (ifM (isB (bin2 gtD (ixV 2 (negM (M.ret (.int 1)))) (M.ret (.int 0)))) (tupM (consM (M.ret (.str "never")) (consM (ixV 2 (negM (M.ret (.int 1)))) (M.ret [])))) (tupM (consM (M.ret (.str "ends")) (consM (getV 2) (M.ret [])))))))
def f_evidence : FnD := fnBody 2 3 m_evidence
theorem sc_evidence : FnScope ["plan", "balance", "row"] ["plan", "balance"] (defScope s_evidence) := ⟨rfl, rfl, rfl, by decide +kernel, rfl, by decide +kernel, by decide +kernel⟩
theorem b_evidence {K : PySem.W.Frag} {mg : Str → Option Value} (C : Ctx K mg) : Binds K (fdA K (ga K "evidence")) ["plan", "balance"] [] := (fun_evidence C).bindsN fun _ _ _ _ _ _ us hl => match us, hl with | [_, _], _ => rfl
theorem ok_evidence {w : World} {K : PySem.W.Frag} {mg : Str → Option Value} {base : Heap} (C : Ctx K mg) : OkV PW w K mg base 4 (ga K "evidence") ["plan", "balance"] f_evidence :=
  fn_okV (qual := "evidence") (scope := defScope s_evidence) (body := defBody s_evidence) (m := m_evidence) (k := 3) (fun_evidence C) sc_evidence rfl rfl fun cdv A outer s H E hr => ss_cons (ss_expr (se_call (takes_of rfl rfl rfl rfl) ((ok_need_balance C).mono (by decide : 3 ≤ 3)) ar_of hr (C.glo 19 "need_balance") (fun_need_balance C).kp (b_need_balance C) (sa_cons (sv 0) (sa_cons (sv 1) (sa_nil))))) (ss_cons (ss_set sc_evidence.nd (se_call (takes_of rfl rfl rfl rfl) ((ok_row_with C).mono (by decide : 2 ≤ 3)) ar_of hr (C.glo 22 "row_with") (fun_row_with C).kp (b_row_with C) (sa_cons (sv 0) (sa_cons (sv 1) (sa_cons (se_int) (sa_nil)))))) (ss_one (ss_ret (se_if (sb_cmp ov_gt (se_ixV (hu_of hr) (pvv 2) (se_neg (se_int))) (se_int) (nomark _)) (se_tup (sa_cons (se_gstr (C.str 24 "NEVER" "never")) (sa_cons (se_ixV (hu_of hr) (pvv 2) (se_neg (se_int))) (sa_nil)))) (se_tup (sa_cons (se_gstr (C.str 25 "ENDS" "ends")) (sa_cons (sv 2) (sa_nil))))))))
def ml_2 : M D := M.bind (consM (getV 0) (consM (getV 1) (M.ret []))) (callF f_evidence)
abbrev le_2 : Expr := (lxArg 0 (lsVal (lsAt 2 (defBody s__law_plan_right))))
def lam_2 : LamT := ⟨(("_law_plan_right" : Str) ++ ".<locals>.") ++ "<lambda>", lxPar le_2, lxBody le_2, lxScope le_2, ["_law_first", "_law_second", "_law_third", "_law_due", "_law_works", "_law_work", "."]⟩
theorem lamB_2 : LamB lam_2 := ⟨rfl, rfl, rfl, by decide +kernel, fun _ _ _ _ => rfl⟩
theorem okl_2 {w : World} {K : PySem.W.Frag} {mg : Str → Option Value} {base : Heap} (C : Ctx K mg) : OkLam PW w K mg base 4 lam_2 ml_2 := fun cs A outer s H E f c hr => se_call (takes_of rfl rfl rfl rfl) ((ok_evidence C).mono (by decide : 4 ≤ 4)) ar_of hr (C.glo 26 "evidence") (fun_evidence C).kp (b_evidence C) (sa_cons (sv 0) (sa_cons (sv 1) (sa_nil)))
/-! is_list: slots 0 value -/
def m_is_list : M Fl := retM (M.bind (consM (getV 0) (consM (tupM (consM (M.ret (.ty "list")) (consM (M.ret (.ty "tuple")) (M.ret [])))) (M.ret []))) (isiTM ["list", "tuple"] (fun t => t == "list" || t == "tuple") []))
def f_is_list : FnD := fnBody 1 1 m_is_list
theorem sc_is_list : FnScope ["value"] ["value"] (defScope s_is_list) := ⟨rfl, rfl, rfl, by decide +kernel, rfl, by decide +kernel, by decide +kernel⟩
theorem b_is_list {K : PySem.W.Frag} {mg : Str → Option Value} (C : Ctx K mg) : Binds K (fdA K (ga K "is_list")) ["value"] [] := (fun_is_list C).bindsN fun _ _ _ _ _ _ us hl => match us, hl with | [_], _ => rfl
theorem ok_is_list {w : World} {K : PySem.W.Frag} {mg : Str → Option Value} {base : Heap} (C : Ctx K mg) : OkV PW w K mg base 1 (ga K "is_list") ["value"] f_is_list :=
  fn_okV (qual := "is_list") (scope := defScope s_is_list) (body := defBody s_is_list) (m := m_is_list) (k := 0) (fun_is_list C) sc_is_list rfl rfl fun cdv A outer s H E hr => ss_one (ss_ret (se_callB (cv_isiTup (ts := ["list", "tuple"]) (ho := (fun p hp => nomatch hp))) (C.free 4 "isinstance") (by decide +kernel) (sa_cons (sv 0) (sa_cons (se_tup (sa_cons (se_bty (n := "list") (C.free 27 "list") (by decide +kernel)) (sa_cons (se_bty (n := "tuple") (C.free 28 "tuple") (by decide +kernel)) (sa_nil)))) (sa_nil)))))
/-! is_evidence: slots 0 plan, 1 balance, 2 value, 3 one, 4 row -/
def m_is_evidence : M Fl := seqM (exprM (M.bind (consM (getV 0) (consM (getV 1) (M.ret []))) (callF f_need_balance))) (seqM (ifM (orB (notB (isB (M.bind (consM (getV 2) (consM (M.ret (.ty "tuple")) (M.ret []))) (isiM (isTyD "tuple") (fun t => t == "tuple") [])))) (orB (isB (bin2 neD (lenV 2) (M.ret (.int 2)))) (notB (isB (M.bind (consM (ixV 2 (M.ret (.int 0))) (consM (M.ret (.ty "str")) (M.ret []))) (isiM (isTyD "str") (fun t => t == "str") [])))))) (retM (M.ret (.bl false))) (M.ret .nx)) (seqM (ifM (isB (bin2 eqD (ixV 2 (M.ret (.int 0))) (M.ret (.str "never")))) (retM (andD (M.bind (consM (ixV 2 (M.ret (.int 1))) (consM (M.ret (.int 1)) (consM (getV 1) (M.ret [])))) (callF f_is_number_in)) (bin2 geD (bin2 ixD (M.bind (consM (getV 0) (consM (ixV 2 (M.ret (.int 1))) (consM (M.ret (.int 0)) (M.ret [])))) (callF f_month_with)) (M.ret (.int 2))) (ixV 2 (M.ret (.int 1)))))) (M.ret .nx)) (seqM (ifM (orB (isB (bin2 neD (ixV 2 (M.ret (.int 0))) (M.ret (.str "ends")))) (orB (notB (isB (M.bind (consM (ixV 2 (M.ret (.int 1))) (M.ret [])) (callF f_is_list)))) (notB (isB (M.bind (consM (frzM (lcN (itemsM (ixV 2 (M.ret (.int 1)))) (gSet 3) (M.ret true) (M.bind (consM (getV 3) (M.ret [])) (callF f_is_number)) [3])) (M.ret [])) allD))))) (retM (M.ret (.bl false))) (M.ret .nx)) (seqM (M.bind (M.bind (consM (getV 0) (consM (getV 1) (consM (M.ret (.int 0)) (M.ret [])))) (callF f_row_with)) (setV 4)) (retM (andD (bin2 eqD (ixV 4 (negM (M.ret (.int 1)))) (M.ret (.int 0))) (bin2 eqD (frzM (listN (consM (ixV 2 (M.ret (.int 1))) (M.ret [])))) (getV 4))))))))
def f_is_evidence : FnD := fnBody 3 5 m_is_evidence
theorem sc_is_evidence : FnScope ["plan", "balance", "value", "one", "row"] ["plan", "balance", "value"] (defScope s_is_evidence) := ⟨rfl, rfl, rfl, by decide +kernel, rfl, by decide +kernel, by decide +kernel⟩
theorem b_is_evidence {K : PySem.W.Frag} {mg : Str → Option Value} (C : Ctx K mg) : Binds K (fdA K (ga K "is_evidence")) ["plan", "balance", "value"] [] := (fun_is_evidence C).bindsN fun _ _ _ _ _ _ us hl => match us, hl with | [_, _, _], _ => rfl
theorem ok_is_evidence {w : World} {K : PySem.W.Frag} {mg : Str → Option Value} {base : Heap} (C : Ctx K mg) : OkV PW w K mg base 4 (ga K "is_evidence") ["plan", "balance", "value"] f_is_evidence :=
  fn_okV (qual := "is_evidence") (scope := defScope s_is_evidence) (body := defBody s_is_evidence) (m := m_is_evidence) (k := 3) (fun_is_evidence C) sc_is_evidence rfl rfl fun cdv A outer s H E hr => ss_cons (ss_expr (se_call (takes_of rfl rfl rfl rfl) ((ok_need_balance C).mono (by decide : 3 ≤ 3)) ar_of hr (C.glo 19 "need_balance") (fun_need_balance C).kp (b_need_balance C) (sa_cons (sv 0) (sa_cons (sv 1) (sa_nil))))) (ss_cons (ss_if (sb_w (sw_or (sb_not (sb_val (se_callB (cv_isiT (ho := (fun p hp => nomatch hp))) (C.free 4 "isinstance") (by decide +kernel) (sa_cons (sv 2) (sa_cons (se_bty (n := "tuple") (C.free 28 "tuple") (by decide +kernel)) (sa_nil)))))) (sw_or (sb_cmp (ov_ne hr) (se_lenV (pvv 2) (C.free 0 "len")) (se_int) (nomark _)) (sw_or1 (sb_not (sb_val (se_callB (cv_isiT (ho := (fun p hp => nomatch hp))) (C.free 4 "isinstance") (by decide +kernel) (sa_cons (se_ixV (hu_of hr) (pvv 2) (se_int)) (sa_cons (se_bty (n := "str") (C.free 31 "str") (by decide +kernel)) (sa_nil)))))))))) (ss_one (ss_ret (se_bl))) (ss_nil)) (ss_cons (ss_if (sb_cmp (ov_eq hr) (se_ixV (hu_of hr) (pvv 2) (se_int)) (se_gstr (C.str 24 "NEVER" "never")) (nomark _)) (ss_one (ss_ret (se_and (se_call (takes_of rfl rfl rfl rfl) ((ok_is_number_in C).mono (by decide : 2 ≤ 3)) ar_of hr (C.glo 16 "is_number_in") (fun_is_number_in C).kp (b_is_number_in C) (sa_cons (se_ixV (hu_of hr) (pvv 2) (se_int)) (sa_cons (se_int) (sa_cons (sv 1) (sa_nil))))) (se_one (se_cmp ov_ge (se_ix (hu_of hr) (se_call (takes_of rfl rfl rfl rfl) ((ok_month_with C).mono (by decide : 1 ≤ 3)) ar_of hr (C.glo 11 "month_with") (fun_month_with C).kp (b_month_with C) (sa_cons (sv 0) (sa_cons (se_ixV (hu_of hr) (pvv 2) (se_int)) (sa_cons (se_int) (sa_nil))))) (se_int)) (se_ixV (hu_of hr) (pvv 2) (se_int)) (nomark _)))))) (ss_nil)) (ss_cons (ss_if (sb_w (sw_or (sb_cmp (ov_ne hr) (se_ixV (hu_of hr) (pvv 2) (se_int)) (se_gstr (C.str 25 "ENDS" "ends")) (nomark _)) (sw_or (sb_not (sb_val (se_call (takes_of rfl rfl rfl rfl) ((ok_is_list C).mono (by decide : 1 ≤ 3)) ar_of hr (C.glo 29 "is_list") (fun_is_list C).kp (b_is_list C) (sa_cons (se_ixV (hu_of hr) (pvv 2) (se_int)) (sa_nil))))) (sw_or1 (sb_not (sb_val (se_callB cv_all (C.free 30 "all") (by decide +kernel) (sa_cons (se_frz (sn_lc (own := [("one", 3)]) sc_is_evidence.nd (si_seq (se_ixV (hu_of hr) (pvv 2) (se_int))) (blkOk_by (N := ["plan", "balance", "value", "one", "row"]) (sc := defScope s_is_evidence) (by decide +kernel)) (fun _ _ _ _ _ => sg_name sc_is_evidence.nd) (fun _ _ _ _ _ => sts_nil) (fun _ _ _ _ _ => se_call LamX.takes0 ((ok_is_number C).mono (by decide : 1 ≤ 3)) ar_of hr (C.glo 14 "is_number") (fun_is_number C).kp (b_is_number C) (sa_cons (sv 3) (sa_nil))))) (sa_nil))))))))) (ss_one (ss_ret (se_bl))) (ss_nil)) (ss_cons (ss_set sc_is_evidence.nd (se_call (takes_of rfl rfl rfl rfl) ((ok_row_with C).mono (by decide : 2 ≤ 3)) ar_of hr (C.glo 22 "row_with") (fun_row_with C).kp (b_row_with C) (sa_cons (sv 0) (sa_cons (sv 1) (sa_cons (se_int) (sa_nil)))))) (ss_one (ss_ret (se_and (se_cmp (ov_eq hr) (se_ixV (hu_of hr) (pvv 4) (se_neg (se_int))) (se_int) (nomark _)) (se_one (se_cmp (ov_eq hr) (se_frz (sn_list (x := "list") (C.free 27 "list") (sa_cons (se_ixV (hu_of hr) (pvv 2) (se_int)) (sa_nil)))) (sv 4) (nomark _))))))))))
def ml_3 : M D := M.bind (consM (getV 0) (consM (getV 1) (consM (M.ret .non) (M.ret [])))) (callF f_is_evidence)
abbrev le_3 : Expr := (lxArg 0 (lsVal (lsAt 3 (defBody s__law_plan_right))))
def lam_3 : LamT := ⟨(("_law_plan_right" : Str) ++ ".<locals>.") ++ "<lambda>", lxPar le_3, lxBody le_3, lxScope le_3, ["_law_first", "_law_second", "_law_third", "_law_due", "_law_works", "_law_work", "."]⟩
theorem lamB_3 : LamB lam_3 := ⟨rfl, rfl, rfl, by decide +kernel, fun _ _ _ _ => rfl⟩
theorem okl_3 {w : World} {K : PySem.W.Frag} {mg : Str → Option Value} {base : Heap} (C : Ctx K mg) : OkLam PW w K mg base 4 lam_3 ml_3 := fun cs A outer s H E f c hr => se_call (takes_of rfl rfl rfl rfl) ((ok_is_evidence C).mono (by decide : 4 ≤ 4)) ar_of hr (C.glo 32 "is_evidence") (fun_is_evidence C).kp (b_is_evidence C) (sa_cons (sv 0) (sa_cons (sv 1) (sa_cons (se_non) (sa_nil))))
theorem kb_is_evidence_0_value_balance_plan {K : PySem.W.Frag} {mg : Str → Option Value} (C : Ctx K mg) : KB K (fdA K (ga K "is_evidence")) ["plan", "balance", "value"] 0 (["value", "balance", "plan"] : List Str) [] [2, 1, 0] := kb_n (fun_is_evidence C) fun _ _ _ _ _ _ us ws h1 h2 => match us, ws, h1, h2 with | [], [_, _, _], _, _ => rfl
def ml_4 : M D := argsK 0 3 [] [2, 1, 0] (M.ret []) (consM (tupM (M.ret [])) (consM (getV 1) (consM (getV 0) (M.ret [])))) (callF f_is_evidence)
abbrev le_4 : Expr := (lxArg 0 (lsVal (lsAt 4 (defBody s__law_plan_right))))
def lam_4 : LamT := ⟨(("_law_plan_right" : Str) ++ ".<locals>.") ++ "<lambda>", lxPar le_4, lxBody le_4, lxScope le_4, ["_law_first", "_law_second", "_law_third", "_law_due", "_law_works", "_law_work", "."]⟩
theorem lamB_4 : LamB lam_4 := ⟨rfl, rfl, rfl, by decide +kernel, fun _ _ _ _ => rfl⟩
theorem okl_4 {w : World} {K : PySem.W.Frag} {mg : Str → Option Value} {base : Heap} (C : Ctx K mg) : OkLam PW w K mg base 4 lam_4 ml_4 := fun cs A outer s H E f c hr => se_callK0 (takes_of rfl rfl rfl rfl) ((ok_is_evidence C).mono (by decide : 4 ≤ 4)) ar_of hr (C.glo 32 "is_evidence") (fun_is_evidence C).kp (kb_is_evidence_0_value_balance_plan C) (.nil) (sk_cons (se_tup (sa_nil)) (sk_cons (sv 1) (sk_cons (sv 0) (sk_nil))))
/-! greatest_to: slots 0 plan, 1 bound, 2 low, 3 high, 4 middle -/
def m_greatest_to : M Fl := seqM (set2 2 3 (consM (getV 1) (consM (bin2 addD (getV 1) (M.ret (.int 1))) (M.ret [])))) (seqM (whileM (isB (bin2 leD (bin2 ixD (M.bind (consM (getV 0) (consM (getV 3) (consM (M.ret (.int 0)) (M.ret [])))) (callF f_month_with)) (M.ret (.int 2))) (getV 1))) (set2 2 3 (consM (getV 3) (consM (bin2 mulD (M.ret (.int 2)) (getV 3)) (M.ret []))))) (seqM (ifM (isB (bin2 gtD (bin2 ixD (M.bind (consM (getV 0) (consM (getV 2) (consM (M.ret (.int 0)) (M.ret [])))) (callF f_month_with)) (M.ret (.int 2))) (getV 1))) (set2 2 3 (consM (M.ret (.int 0)) (consM (getV 2) (M.ret [])))) (M.ret .nx)) (seqM (whileM (isB (bin2 gtD (bin2 subD (getV 3) (getV 2)) (M.ret (.int 1)))) (seqM (M.bind (bin2 fdivD (bin2 addD (getV 2) (getV 3)) (M.ret (.int 2))) (setV 4)) (ifM (isB (bin2 leD (bin2 ixD (M.bind (consM (getV 0) (consM (getV 4) (consM (M.ret (.int 0)) (M.ret [])))) (callF f_month_with)) (M.ret (.int 2))) (getV 1))) (M.bind (getV 4) (setV 2)) (M.bind (getV 4) (setV 3))))) (retM (getV 2)))))
def f_greatest_to : FnD := fnBody 2 5 m_greatest_to
theorem sc_greatest_to : FnScope ["plan", "bound", "low", "high", "middle"] ["plan", "bound"] (defScope s_greatest_to) := ⟨rfl, rfl, rfl, by decide +kernel, rfl, by decide +kernel, by decide +kernel⟩
theorem b_greatest_to {K : PySem.W.Frag} {mg : Str → Option Value} (C : Ctx K mg) : Binds K (fdA K (ga K "greatest_to")) ["plan", "bound"] [] := (fun_greatest_to C).bindsN fun _ _ _ _ _ _ us hl => match us, hl with | [_, _], _ => rfl
theorem ok_greatest_to {w : World} {K : PySem.W.Frag} {mg : Str → Option Value} {base : Heap} (C : Ctx K mg) : OkV PW w K mg base 2 (ga K "greatest_to") ["plan", "bound"] f_greatest_to :=
  fn_okV (qual := "greatest_to") (scope := defScope s_greatest_to) (body := defBody s_greatest_to) (m := m_greatest_to) (k := 1) (fun_greatest_to C) sc_greatest_to rfl rfl fun cdv A outer s H E hr => ss_cons (ss_par sc_greatest_to.nd (by decide) (sa_cons (sv 1) (sa_cons (se_bin ov_add (sv 1) (se_int)) (sa_nil))) (by rfl)) (ss_cons (ss_while (passes_of rfl) (sb_cmp ov_le (se_ix (hu_of hr) (se_call (takes_of rfl rfl rfl rfl) ((ok_month_with C).mono (by decide : 1 ≤ 1)) ar_of hr (C.glo 11 "month_with") (fun_month_with C).kp (b_month_with C) (sa_cons (sv 0) (sa_cons (sv 3) (sa_cons (se_int) (sa_nil))))) (se_int)) (sv 1) (nomark _)) (ss_one (ss_par sc_greatest_to.nd (by decide) (sa_cons (sv 3) (sa_cons (se_bin ov_mul (se_int) (sv 3)) (sa_nil))) (by rfl)))) (ss_cons (ss_if (sb_cmp ov_gt (se_ix (hu_of hr) (se_call (takes_of rfl rfl rfl rfl) ((ok_month_with C).mono (by decide : 1 ≤ 1)) ar_of hr (C.glo 11 "month_with") (fun_month_with C).kp (b_month_with C) (sa_cons (sv 0) (sa_cons (sv 2) (sa_cons (se_int) (sa_nil))))) (se_int)) (sv 1) (nomark _)) (ss_one (ss_par sc_greatest_to.nd (by decide) (sa_cons (se_int) (sa_cons (sv 2) (sa_nil))) (by rfl))) (ss_nil)) (ss_cons (ss_while (passes_of rfl) (sb_cmp ov_gt (se_bin ov_sub (sv 3) (sv 2)) (se_int) (nomark _)) (ss_cons (ss_set sc_greatest_to.nd (se_bin ov_fdiv (se_bin ov_add (sv 2) (sv 3)) (se_int))) (ss_one (ss_if (sb_cmp ov_le (se_ix (hu_of hr) (se_call (takes_of rfl rfl rfl rfl) ((ok_month_with C).mono (by decide : 1 ≤ 1)) ar_of hr (C.glo 11 "month_with") (fun_month_with C).kp (b_month_with C) (sa_cons (sv 0) (sa_cons (sv 4) (sa_cons (se_int) (sa_nil))))) (se_int)) (sv 1) (nomark _)) (ss_one (ss_set sc_greatest_to.nd (sv 4))) (ss_one (ss_set sc_greatest_to.nd (sv 4))))))) (ss_one (ss_ret (sv 2))))))
/-! Plan.share: slots 0 self -/
def m_Plan_share : M Fl := retM (bin2 ixD (fldM "Plan" "l_parts" (getV 0)) (M.ret (.int 1)))
def f_Plan_share : FnD := fnBody 1 1 m_Plan_share
theorem sc_Plan_share : FnScope ["self"] ["self"] (defScope s_Plan_share) := ⟨rfl, rfl, rfl, by decide +kernel, rfl, by decide +kernel, by decide +kernel⟩
theorem b_Plan_share {K : PySem.W.Frag} {mg : Str → Option Value} (C : Ctx K mg) : Binds K (fdA K (pgA K ("Plan", "share"))) ["self"] [] := (fun_Plan_share C).bindsN fun _ _ _ _ _ _ us hl => match us, hl with | [_], _ => rfl
theorem ok_Plan_share {w : World} {K : PySem.W.Frag} {mg : Str → Option Value} {base : Heap} (C : Ctx K mg) : OkV PW w K mg base 1 (pgA K ("Plan", "share")) ["self"] f_Plan_share :=
  fn_okV (qual := "Plan.share") (scope := defScope s_Plan_share) (body := defBody s_Plan_share) (m := m_Plan_share) (k := 0) (fun_Plan_share C) sc_Plan_share rfl rfl fun cdv A outer s H E hr => ss_one (ss_ret (se_ix (hu_of hr) (se_fld (sv 0) (C.cls 10 "Plan") (C.noat 9 "Plan" "l_parts")) (se_int)))
/-! most_within: slots 0 plan, 1 months, 2 found, 3 turn -/
def m_most_within : M Fl := seqM (exprM (M.bind (consM (getV 0) (M.ret [])) (callF f_need_plan))) (seqM (ifM (notB (isB (M.bind (consM (getV 1) (consM (M.ret (.int 0)) (consM (M.ret (.int 100)) (M.ret [])))) (callF f_is_number_in)))) (raiseS "BadNumber" "number" (consM (getV 1) (M.ret []))) (M.ret .nx)) (seqM (ifM (andB (isB (bin2 gtD (getV 1) (M.ret (.int 0)))) (isB (bin2 eqD (propM "Plan" f_Plan_share (getV 0)) (M.ret (.int 1000))))) (retM (M.ret .non)) (M.ret .nx)) (seqM (M.bind (M.ret (.int 0)) (setV 2)) (seqM (forM (rng1M (consM (getV 1) (M.ret []))) (gSet 3) (M.bind (M.bind (consM (getV 0) (consM (getV 2) (M.ret []))) (callF f_greatest_to)) (setV 2))) (retM (getV 2))))))
def f_most_within : FnD := fnBody 2 4 m_most_within
theorem sc_most_within : FnScope ["plan", "months", "found", "turn"] ["plan", "months"] (defScope s_most_within) := ⟨rfl, rfl, rfl, by decide +kernel, rfl, by decide +kernel, by decide +kernel⟩
theorem b_most_within {K : PySem.W.Frag} {mg : Str → Option Value} (C : Ctx K mg) : Binds K (fdA K (ga K "most_within")) ["plan", "months"] [] := (fun_most_within C).bindsN fun _ _ _ _ _ _ us hl => match us, hl with | [_, _], _ => rfl
theorem ok_most_within {w : World} {K : PySem.W.Frag} {mg : Str → Option Value} {base : Heap} (C : Ctx K mg) : OkV PW w K mg base 3 (ga K "most_within") ["plan", "months"] f_most_within :=
  fn_okV (qual := "most_within") (scope := defScope s_most_within) (body := defBody s_most_within) (m := m_most_within) (k := 2) (fun_most_within C) sc_most_within rfl rfl fun cdv A outer s H E hr => ss_cons (ss_expr (se_call (takes_of rfl rfl rfl rfl) ((ok_need_plan C).mono (by decide : 2 ≤ 2)) ar_of hr (C.glo 18 "need_plan") (fun_need_plan C).kp (b_need_plan C) (sa_cons (sv 0) (sa_nil)))) (ss_cons (ss_if (sb_not (sb_val (se_call (takes_of rfl rfl rfl rfl) ((ok_is_number_in C).mono (by decide : 2 ≤ 2)) ar_of hr (C.glo 16 "is_number_in") (fun_is_number_in C).kp (b_is_number_in C) (sa_cons (sv 1) (sa_cons (se_int) (sa_cons (se_gint (C.int 34 "MOST_MONTHS" 100)) (sa_nil))))))) (ss_one (ss_raiseS (takes_of rfl rfl rfl rfl) (sup_BadNumber C) (hr.mono (by decide : 0 + 1 ≤ 2)) (C.glo 5 "BadNumber") (sa_cons (sv 1) (sa_nil)))) (ss_nil)) (ss_cons (ss_if (sb_w (sw_and (sb_cmp ov_gt (sv 1) (se_int) (nomark _)) (sw_and1 (sb_cmp (ov_eq hr) (se_prop (sv 0) (C.cls 10 "Plan") (C.get 0 ("Plan", "share") d_Plan_share).1 (ok_Plan_share C) ar_of (hr.mono (by decide : 1 + 1 ≤ 2)) (b_Plan_share C)) (se_gint (C.int 8 "THOUSAND" 1000)) (nomark _))))) (ss_one (ss_ret (se_non))) (ss_nil)) (ss_cons (ss_set sc_most_within.nd (se_int)) (ss_cons (ss_for (vs := [3]) (passes_of rfl) (si_range1 (C.free 2 "range") (sa_cons (sv 1) (sa_nil))) (sg_name sc_most_within.nd) (ss_one (ss_set sc_most_within.nd (se_call (takes_of rfl rfl rfl rfl) ((ok_greatest_to C).mono (by decide : 2 ≤ 2)) ar_of hr (C.glo 33 "greatest_to") (fun_greatest_to C).kp (b_greatest_to C) (sa_cons (sv 0) (sa_cons (sv 2) (sa_nil))))))) (ss_one (ss_ret (sv 2)))))))
def ml_5 : M D := M.bind (consM (getV 0) (consM (getV 2) (M.ret []))) (callF f_most_within)
abbrev le_5 : Expr := (lxEl 0 (lsVal (lsAt 6 (defBody s__law_plan_right))))
def lam_5 : LamT := ⟨(("_law_plan_right" : Str) ++ ".<locals>.") ++ "<lambda>", lxPar le_5, lxBody le_5, lxScope le_5, ["_law_first", "_law_second", "_law_third", "_law_due", "_law_works", "_law_work", "."]⟩
theorem lamB_5 : LamB lam_5 := ⟨rfl, rfl, rfl, by decide +kernel, fun _ _ _ _ => rfl⟩
theorem okl_5 {w : World} {K : PySem.W.Frag} {mg : Str → Option Value} {base : Heap} (C : Ctx K mg) : OkLam PW w K mg base 3 lam_5 ml_5 := fun cs A outer s H E f c hr => se_call (takes_of rfl rfl rfl rfl) ((ok_most_within C).mono (by decide : 3 ≤ 3)) ar_of hr (C.glo 35 "most_within") (fun_most_within C).kp (b_most_within C) (sa_cons (sv 0) (sa_cons (sv 2) (sa_nil)))
theorem kb_most_within_0_months_plan {K : PySem.W.Frag} {mg : Str → Option Value} (C : Ctx K mg) : KB K (fdA K (ga K "most_within")) ["plan", "months"] 0 (["months", "plan"] : List Str) [] [1, 0] := kb_n (fun_most_within C) fun _ _ _ _ _ _ us ws h1 h2 => match us, ws, h1, h2 with | [], [_, _], _, _ => rfl
def ml_6 : M D := argsK 0 2 [] [1, 0] (M.ret []) (consM (getV 2) (consM (getV 0) (M.ret []))) (callF f_most_within)
abbrev le_6 : Expr := (lxArg 0 (lsVal (lsAt 7 (defBody s__law_plan_right))))
def lam_6 : LamT := ⟨(("_law_plan_right" : Str) ++ ".<locals>.") ++ "<lambda>", lxPar le_6, lxBody le_6, lxScope le_6, ["_law_first", "_law_second", "_law_third", "_law_due", "_law_works", "_law_work", "."]⟩
theorem lamB_6 : LamB lam_6 := ⟨rfl, rfl, rfl, by decide +kernel, fun _ _ _ _ => rfl⟩
theorem okl_6 {w : World} {K : PySem.W.Frag} {mg : Str → Option Value} {base : Heap} (C : Ctx K mg) : OkLam PW w K mg base 3 lam_6 ml_6 := fun cs A outer s H E f c hr => se_callK0 (takes_of rfl rfl rfl rfl) ((ok_most_within C).mono (by decide : 3 ≤ 3)) ar_of hr (C.glo 35 "most_within") (fun_most_within C).kp (kb_most_within_0_months_plan C) (.nil) (sk_cons (sv 2) (sk_cons (sv 0) (sk_nil)))
/-! is_enough: slots 0 plan, 1 balance, 2 months, 3 extra, 4 row -/
def m_is_enough : M Fl := seqM (M.bind (M.bind (consM (getV 0) (consM (getV 1) (consM (getV 3) (M.ret [])))) (callF f_row_with)) (setV 4)) (retM (andD (bin2 eqD (ixV 4 (negM (M.ret (.int 1)))) (M.ret (.int 0))) (orD (bin2 isND (getV 2) (M.ret .non)) (bin2 leD (bin2 subD (lenV 4) (M.ret (.int 1))) (getV 2)))))
def f_is_enough : FnD := fnBody 4 5 m_is_enough
theorem sc_is_enough : FnScope ["plan", "balance", "months", "extra", "row"] ["plan", "balance", "months", "extra"] (defScope s_is_enough) := ⟨rfl, rfl, rfl, by decide +kernel, rfl, by decide +kernel, by decide +kernel⟩
theorem b_is_enough {K : PySem.W.Frag} {mg : Str → Option Value} (C : Ctx K mg) : Binds K (fdA K (ga K "is_enough")) ["plan", "balance", "months", "extra"] [] := (fun_is_enough C).bindsN fun _ _ _ _ _ _ us hl => match us, hl with | [_, _, _, _], _ => rfl
theorem ok_is_enough {w : World} {K : PySem.W.Frag} {mg : Str → Option Value} {base : Heap} (C : Ctx K mg) : OkV PW w K mg base 3 (ga K "is_enough") ["plan", "balance", "months", "extra"] f_is_enough :=
  fn_okV (qual := "is_enough") (scope := defScope s_is_enough) (body := defBody s_is_enough) (m := m_is_enough) (k := 2) (fun_is_enough C) sc_is_enough rfl rfl fun cdv A outer s H E hr => ss_cons (ss_set sc_is_enough.nd (se_call (takes_of rfl rfl rfl rfl) ((ok_row_with C).mono (by decide : 2 ≤ 2)) ar_of hr (C.glo 22 "row_with") (fun_row_with C).kp (b_row_with C) (sa_cons (sv 0) (sa_cons (sv 1) (sa_cons (sv 3) (sa_nil)))))) (ss_one (ss_ret (se_and (se_cmp (ov_eq hr) (se_ixV (hu_of hr) (pvv 4) (se_neg (se_int))) (se_int) (nomark _)) (se_one (se_or (se_cmp ov_isN (sv 2) (se_non) (nomark _)) (se_one (se_cmp ov_le (se_bin ov_sub (se_lenV (pvv 4) (C.free 0 "len")) (se_int)) (sv 2) (nomark _))))))))
/-! least_extra: slots 0 plan, 1 balance, 2 months, 3 low, 4 high, 5 middle -/
def m_least_extra : M Fl := seqM (exprM (M.bind (consM (getV 0) (consM (getV 1) (M.ret []))) (callF f_need_balance))) (seqM (ifM (andB (isB (bin2 notND (getV 2) (M.ret .non))) (notB (isB (M.bind (consM (getV 2) (consM (M.ret (.int 1)) (consM (M.ret (.int 100)) (M.ret [])))) (callF f_is_number_in))))) (raiseS "BadNumber" "number" (consM (getV 2) (M.ret []))) (M.ret .nx)) (seqM (ifM (isB (M.bind (consM (getV 0) (consM (getV 1) (consM (getV 2) (consM (M.ret (.int 0)) (M.ret []))))) (callF f_is_enough))) (retM (M.ret (.int 0))) (M.ret .nx)) (seqM (set2 3 4 (consM (M.ret (.int 0)) (consM (bin2 mulD (M.ret (.int 2)) (getV 1)) (M.ret [])))) (seqM (whileM (isB (bin2 gtD (bin2 subD (getV 4) (getV 3)) (M.ret (.int 1)))) (seqM (M.bind (bin2 fdivD (bin2 addD (getV 3) (getV 4)) (M.ret (.int 2))) (setV 5)) (ifM (isB (M.bind (consM (getV 0) (consM (getV 1) (consM (getV 2) (consM (getV 5) (M.ret []))))) (callF f_is_enough))) (M.bind (getV 5) (setV 4)) (M.bind (getV 5) (setV 3))))) (retM (getV 4))))))
def f_least_extra : FnD := fnBody 3 6 m_least_extra
theorem sc_least_extra : FnScope ["plan", "balance", "months", "low", "high", "middle"] ["plan", "balance", "months"] (defScope s_least_extra) := ⟨rfl, rfl, rfl, by decide +kernel, rfl, by decide +kernel, by decide +kernel⟩
theorem b_least_extra {K : PySem.W.Frag} {mg : Str → Option Value} (C : Ctx K mg) : Binds K (fdA K (ga K "least_extra")) ["plan", "balance", "months"] [] := (fun_least_extra C).bindsN fun _ _ _ _ _ _ us hl => match us, hl with | [_, _, _], _ => rfl
theorem ok_least_extra {w : World} {K : PySem.W.Frag} {mg : Str → Option Value} {base : Heap} (C : Ctx K mg) : OkV PW w K mg base 4 (ga K "least_extra") ["plan", "balance", "months"] f_least_extra :=
  fn_okV (qual := "least_extra") (scope := defScope s_least_extra) (body := defBody s_least_extra) (m := m_least_extra) (k := 3) (fun_least_extra C) sc_least_extra rfl rfl fun cdv A outer s H E hr => ss_cons (ss_expr (se_call (takes_of rfl rfl rfl rfl) ((ok_need_balance C).mono (by decide : 3 ≤ 3)) ar_of hr (C.glo 19 "need_balance") (fun_need_balance C).kp (b_need_balance C) (sa_cons (sv 0) (sa_cons (sv 1) (sa_nil))))) (ss_cons (ss_if (sb_w (sw_and (sb_cmp ov_notN (sv 2) (se_non) (nomark _)) (sw_and1 (sb_not (sb_val (se_call (takes_of rfl rfl rfl rfl) ((ok_is_number_in C).mono (by decide : 2 ≤ 3)) ar_of hr (C.glo 16 "is_number_in") (fun_is_number_in C).kp (b_is_number_in C) (sa_cons (sv 2) (sa_cons (se_int) (sa_cons (se_gint (C.int 34 "MOST_MONTHS" 100)) (sa_nil)))))))))) (ss_one (ss_raiseS (takes_of rfl rfl rfl rfl) (sup_BadNumber C) (hr.mono (by decide : 0 + 1 ≤ 3)) (C.glo 5 "BadNumber") (sa_cons (sv 2) (sa_nil)))) (ss_nil)) (ss_cons (ss_if (sb_val (se_call (takes_of rfl rfl rfl rfl) ((ok_is_enough C).mono (by decide : 3 ≤ 3)) ar_of hr (C.glo 36 "is_enough") (fun_is_enough C).kp (b_is_enough C) (sa_cons (sv 0) (sa_cons (sv 1) (sa_cons (sv 2) (sa_cons (se_int) (sa_nil))))))) (ss_one (ss_ret (se_int))) (ss_nil)) (ss_cons (ss_par sc_least_extra.nd (by decide) (sa_cons (se_int) (sa_cons (se_bin ov_mul (se_int) (sv 1)) (sa_nil))) (by rfl)) (ss_cons (ss_while (passes_of rfl) (sb_cmp ov_gt (se_bin ov_sub (sv 4) (sv 3)) (se_int) (nomark _)) (ss_cons (ss_set sc_least_extra.nd (se_bin ov_fdiv (se_bin ov_add (sv 3) (sv 4)) (se_int))) (ss_one (ss_if (sb_val (se_call (takes_of rfl rfl rfl rfl) ((ok_is_enough C).mono (by decide : 3 ≤ 3)) ar_of hr (C.glo 36 "is_enough") (fun_is_enough C).kp (b_is_enough C) (sa_cons (sv 0) (sa_cons (sv 1) (sa_cons (sv 2) (sa_cons (sv 5) (sa_nil))))))) (ss_one (ss_set sc_least_extra.nd (sv 5))) (ss_one (ss_set sc_least_extra.nd (sv 5))))))) (ss_one (ss_ret (sv 4)))))))
def ml_7 : M D := M.bind (consM (getV 0) (consM (getV 1) (consM (getV 2) (M.ret [])))) (callF f_least_extra)
abbrev le_7 : Expr := (lxEl 0 (lsVal (lsAt 9 (defBody s__law_plan_right))))
def lam_7 : LamT := ⟨(("_law_plan_right" : Str) ++ ".<locals>.") ++ "<lambda>", lxPar le_7, lxBody le_7, lxScope le_7, ["_law_first", "_law_second", "_law_third", "_law_due", "_law_works", "_law_work", "."]⟩
theorem lamB_7 : LamB lam_7 := ⟨rfl, rfl, rfl, by decide +kernel, fun _ _ _ _ => rfl⟩
theorem okl_7 {w : World} {K : PySem.W.Frag} {mg : Str → Option Value} {base : Heap} (C : Ctx K mg) : OkLam PW w K mg base 4 lam_7 ml_7 := fun cs A outer s H E f c hr => se_call (takes_of rfl rfl rfl rfl) ((ok_least_extra C).mono (by decide : 4 ≤ 4)) ar_of hr (C.glo 37 "least_extra") (fun_least_extra C).kp (b_least_extra C) (sa_cons (sv 0) (sa_cons (sv 1) (sa_cons (sv 2) (sa_nil))))
theorem kb_least_extra_0_months_balance_plan {K : PySem.W.Frag} {mg : Str → Option Value} (C : Ctx K mg) : KB K (fdA K (ga K "least_extra")) ["plan", "balance", "months"] 0 (["months", "balance", "plan"] : List Str) [] [2, 1, 0] := kb_n (fun_least_extra C) fun _ _ _ _ _ _ us ws h1 h2 => match us, ws, h1, h2 with | [], [_, _, _], _, _ => rfl
def ml_8 : M D := argsK 0 3 [] [2, 1, 0] (M.ret []) (consM (getV 2) (consM (getV 1) (consM (getV 0) (M.ret [])))) (callF f_least_extra)
abbrev le_8 : Expr := (lxArg 0 (lsVal (lsAt 10 (defBody s__law_plan_right))))
def lam_8 : LamT := ⟨(("_law_plan_right" : Str) ++ ".<locals>.") ++ "<lambda>", lxPar le_8, lxBody le_8, lxScope le_8, ["_law_first", "_law_second", "_law_third", "_law_due", "_law_works", "_law_work", "."]⟩
theorem lamB_8 : LamB lam_8 := ⟨rfl, rfl, rfl, by decide +kernel, fun _ _ _ _ => rfl⟩
theorem okl_8 {w : World} {K : PySem.W.Frag} {mg : Str → Option Value} {base : Heap} (C : Ctx K mg) : OkLam PW w K mg base 4 lam_8 ml_8 := fun cs A outer s H E f c hr => se_callK0 (takes_of rfl rfl rfl rfl) ((ok_least_extra C).mono (by decide : 4 ≤ 4)) ar_of hr (C.glo 37 "least_extra") (fun_least_extra C).kp (kb_least_extra_0_months_balance_plan C) (.nil) (sk_cons (sv 2) (sk_cons (sv 1) (sk_cons (sv 0) (sk_nil))))
/-! Plan.rate: slots 0 self -/
def m_Plan_rate : M Fl := retM (bin2 ixD (fldM "Plan" "l_parts" (getV 0)) (M.ret (.int 0)))
def f_Plan_rate : FnD := fnBody 1 1 m_Plan_rate
theorem sc_Plan_rate : FnScope ["self"] ["self"] (defScope s_Plan_rate) := ⟨rfl, rfl, rfl, by decide +kernel, rfl, by decide +kernel, by decide +kernel⟩
theorem b_Plan_rate {K : PySem.W.Frag} {mg : Str → Option Value} (C : Ctx K mg) : Binds K (fdA K (pgA K ("Plan", "rate"))) ["self"] [] := (fun_Plan_rate C).bindsN fun _ _ _ _ _ _ us hl => match us, hl with | [_], _ => rfl
theorem ok_Plan_rate {w : World} {K : PySem.W.Frag} {mg : Str → Option Value} {base : Heap} (C : Ctx K mg) : OkV PW w K mg base 1 (pgA K ("Plan", "rate")) ["self"] f_Plan_rate :=
  fn_okV (qual := "Plan.rate") (scope := defScope s_Plan_rate) (body := defBody s_Plan_rate) (m := m_Plan_rate) (k := 0) (fun_Plan_rate C) sc_Plan_rate rfl rfl fun cdv A outer s H E hr => ss_one (ss_ret (se_ix (hu_of hr) (se_fld (sv 0) (C.cls 10 "Plan") (C.noat 9 "Plan" "l_parts")) (se_int)))
/-! first_with: slots 0 plan, 1 interest -/
def m_first_with : M Fl := retM (negM (bin2 fdivD (bin2 mulD (negM (getV 1)) (M.ret (.int 1000))) (propM "Plan" f_Plan_rate (getV 0))))
def f_first_with : FnD := fnBody 2 2 m_first_with
theorem sc_first_with : FnScope ["plan", "interest"] ["plan", "interest"] (defScope s_first_with) := ⟨rfl, rfl, rfl, by decide +kernel, rfl, by decide +kernel, by decide +kernel⟩
theorem b_first_with {K : PySem.W.Frag} {mg : Str → Option Value} (C : Ctx K mg) : Binds K (fdA K (ga K "first_with")) ["plan", "interest"] [] := (fun_first_with C).bindsN fun _ _ _ _ _ _ us hl => match us, hl with | [_, _], _ => rfl
theorem ok_first_with {w : World} {K : PySem.W.Frag} {mg : Str → Option Value} {base : Heap} (C : Ctx K mg) : OkV PW w K mg base 3 (ga K "first_with") ["plan", "interest"] f_first_with :=
  fn_okV (qual := "first_with") (scope := defScope s_first_with) (body := defBody s_first_with) (m := m_first_with) (k := 2) (fun_first_with C) sc_first_with rfl rfl fun cdv A outer s H E hr => ss_one (ss_ret (se_neg (se_bin ov_fdiv (se_bin ov_mul (se_neg (sv 1)) (se_gint (C.int 8 "THOUSAND" 1000))) (se_prop (sv 0) (C.cls 10 "Plan") (C.get 1 ("Plan", "rate") d_Plan_rate).1 (ok_Plan_rate C) ar_of (hr.mono (by decide : 1 + 1 ≤ 2)) (b_Plan_rate C)))))
/-! least_endless: slots 0 plan, 1 rate, 2 share, 3 least, 4 plus, 5 balance, 6 over, 7 interest -/
def m_least_endless : M Fl := seqM (exprM (M.bind (consM (getV 0) (M.ret [])) (callF f_need_plan))) (seqM (asgM (fldM "Plan" "l_parts" (getV 0)) (gTupM 4 (gsCons (gSet 1) (gsCons (gSet 2) (gsCons (gSet 3) (gsCons (gSet 4) (gsNil))))))) (seqM (ifM (isB (bin2 eqD (getV 1) (M.ret (.int 0)))) (retM (M.ret .non)) (M.ret .nx)) (seqM (M.bind (M.bind (consM (getV 0) (consM (getV 3) (M.ret []))) (callF f_first_with)) (setV 5)) (seqM (ifM (isB (getV 4)) (retM (ifM (isB (bin2 ltD (bin2 mulD (getV 5) (getV 2)) (M.ret (.int 1000)))) (getV 5) (M.ret .non))) (M.ret .nx)) (seqM (M.bind (bin2 subD (bin2 mulD (getV 2) (bin2 addD (M.ret (.int 1000)) (getV 1))) (bin2 mulD (M.ret (.int 1000)) (getV 1))) (setV 6)) (seqM (ifM (isB (bin2 leD (getV 6) (M.ret (.int 0)))) (retM (getV 5)) (M.ret .nx)) (seqM (M.bind (getV 3) (setV 7)) (seqM (whileM (isB (bin2 ltD (bin2 mulD (getV 7) (getV 6)) (bin2 mulD (M.ret (.int 1000)) (getV 1)))) (seqM (M.bind (M.bind (consM (getV 0) (consM (getV 7) (M.ret []))) (callF f_first_with)) (setV 5)) (seqM (ifM (isB (bin2 leD (bin2 fdivD (bin2 mulD (bin2 addD (getV 5) (getV 7)) (getV 2)) (M.ret (.int 1000))) (getV 7))) (retM (getV 5)) (M.ret .nx)) (augV 7 (fun i j => i + j) (M.ret (.int 1)))))) (retM (M.ret .non))))))))))
def f_least_endless : FnD := fnBody 1 8 m_least_endless
theorem sc_least_endless : FnScope ["plan", "rate", "share", "least", "plus", "balance", "over", "interest"] ["plan"] (defScope s_least_endless) := ⟨rfl, rfl, rfl, by decide +kernel, rfl, by decide +kernel, by decide +kernel⟩
theorem b_least_endless {K : PySem.W.Frag} {mg : Str → Option Value} (C : Ctx K mg) : Binds K (fdA K (ga K "least_endless")) ["plan"] [] := (fun_least_endless C).bindsN fun _ _ _ _ _ _ us hl => match us, hl with | [_], _ => rfl
theorem ok_least_endless {w : World} {K : PySem.W.Frag} {mg : Str → Option Value} {base : Heap} (C : Ctx K mg) : OkV PW w K mg base 4 (ga K "least_endless") ["plan"] f_least_endless :=
  fn_okV (qual := "least_endless") (scope := defScope s_least_endless) (body := defBody s_least_endless) (m := m_least_endless) (k := 3) (fun_least_endless C) sc_least_endless rfl rfl fun cdv A outer s H E hr => ss_cons (ss_expr (se_call (takes_of rfl rfl rfl rfl) ((ok_need_plan C).mono (by decide : 2 ≤ 3)) ar_of hr (C.glo 18 "need_plan") (fun_need_plan C).kp (b_need_plan C) (sa_cons (sv 0) (sa_nil)))) (ss_cons (ss_asg (vs := [1, 2, 3, 4]) (se_fld (sv 0) (C.cls 10 "Plan") (C.noat 9 "Plan" "l_parts")) (sg_tup (sgs_cons (sg_name sc_least_endless.nd) (sgs_cons (sg_name sc_least_endless.nd) (sgs_cons (sg_name sc_least_endless.nd) (sgs_cons (sg_name sc_least_endless.nd) (sgs_nil))))))) (ss_cons (ss_if (sb_cmp (ov_eq hr) (sv 1) (se_int) (nomark _)) (ss_one (ss_ret (se_non))) (ss_nil)) (ss_cons (ss_set sc_least_endless.nd (se_call (takes_of rfl rfl rfl rfl) ((ok_first_with C).mono (by decide : 3 ≤ 3)) ar_of hr (C.glo 38 "first_with") (fun_first_with C).kp (b_first_with C) (sa_cons (sv 0) (sa_cons (sv 3) (sa_nil))))) (ss_cons (ss_if (sb_val (sv 4)) (ss_one (ss_ret (se_if (sb_cmp ov_lt (se_bin ov_mul (sv 5) (sv 2)) (se_gint (C.int 8 "THOUSAND" 1000)) (nomark _)) (sv 5) (se_non)))) (ss_nil)) (ss_cons (ss_set sc_least_endless.nd (se_bin ov_sub (se_bin ov_mul (sv 2) (se_bin ov_add (se_gint (C.int 8 "THOUSAND" 1000)) (sv 1))) (se_bin ov_mul (se_gint (C.int 8 "THOUSAND" 1000)) (sv 1)))) (ss_cons (ss_if (sb_cmp ov_le (sv 6) (se_int) (nomark _)) (ss_one (ss_ret (sv 5))) (ss_nil)) (ss_cons (ss_set sc_least_endless.nd (sv 3)) (ss_cons (ss_while (passes_of rfl) (sb_cmp ov_lt (se_bin ov_mul (sv 7) (sv 6)) (se_bin ov_mul (se_gint (C.int 8 "THOUSAND" 1000)) (sv 1)) (nomark _)) (ss_cons (ss_set sc_least_endless.nd (se_call (takes_of rfl rfl rfl rfl) ((ok_first_with C).mono (by decide : 3 ≤ 3)) ar_of hr (C.glo 38 "first_with") (fun_first_with C).kp (b_first_with C) (sa_cons (sv 0) (sa_cons (sv 7) (sa_nil))))) (ss_cons (ss_if (sb_cmp ov_le (se_bin ov_fdiv (se_bin ov_mul (se_bin ov_add (sv 5) (sv 7)) (sv 2)) (se_gint (C.int 8 "THOUSAND" 1000))) (sv 7) (nomark _)) (ss_one (ss_ret (sv 5))) (ss_nil)) (ss_one (ss_aug sc_least_endless.nd ip_add (se_int)))))) (ss_one (ss_ret (se_non)))))))))))
def ml_9 : M D := M.bind (consM (getV 0) (M.ret [])) (callF f_least_endless)
abbrev le_9 : Expr := (lxArg 0 (lsVal (lsAt 11 (defBody s__law_plan_right))))
def lam_9 : LamT := ⟨(("_law_plan_right" : Str) ++ ".<locals>.") ++ "<lambda>", lxPar le_9, lxBody le_9, lxScope le_9, ["_law_first", "_law_second", "_law_third", "_law_due", "_law_works", "_law_work", "."]⟩
theorem lamB_9 : LamB lam_9 := ⟨rfl, rfl, rfl, by decide +kernel, fun _ _ _ _ => rfl⟩
theorem okl_9 {w : World} {K : PySem.W.Frag} {mg : Str → Option Value} {base : Heap} (C : Ctx K mg) : OkLam PW w K mg base 4 lam_9 ml_9 := fun cs A outer s H E f c hr => se_call (takes_of rfl rfl rfl rfl) ((ok_least_endless C).mono (by decide : 4 ≤ 4)) ar_of hr (C.glo 39 "least_endless") (fun_least_endless C).kp (b_least_endless C) (sa_cons (sv 0) (sa_nil))
/-! _law_caught: slots 0 _law_work, 1 _law_caught_here, 2 _law_error, 3 . -/
def m__law_caught : M Fl := seqM (M.bind (M.ret .non) (setV 1)) (seqM (tryKeep 2 1 [("BadNumber", true), ("BadPlan", true)] (exprM (lcallM 3 [(lam_0, ml_0), (lam_1, ml_1), (lam_2, ml_2), (lam_3, ml_3), (lam_4, ml_4), (lam_5, ml_5), (lam_6, ml_6), (lam_7, ml_7), (lam_8, ml_8), (lam_9, ml_9)] (getV 0)))) (retM (getV 1)))
def f__law_caught : FnU := fnBodyU 1 3 m__law_caught
theorem sc__law_caught : FnScope ["_law_work", "_law_caught_here", "_law_error", "."] ["_law_work"] (defScope s__law_caught) := ⟨rfl, rfl, rfl, by decide +kernel, rfl, by decide +kernel, by decide +kernel⟩
theorem b__law_caught {K : PySem.W.Frag} {mg : Str → Option Value} (C : Ctx K mg) : Binds K (fdA K (ga K "_law_caught")) ["_law_work"] [] := (fun__law_caught C).bindsN fun _ _ _ _ _ _ us hl => match us, hl with | [_], _ => rfl
theorem ok__law_caught {w : World} {K : PySem.W.Frag} {mg : Str → Option Value} (C : Ctx K mg) : OkU PW w K mg 6 (ga K "_law_caught") (fdA K (ga K "_law_caught")) ["_law_work"] f__law_caught := fun base kin ns =>
  fn_okU (qual := "_law_caught") (scope := defScope s__law_caught) (body := defBody s__law_caught) (m := m__law_caught) (k := 5) (z := ".") (fun__law_caught C) sc__law_caught rfl rfl rfl (by decide +kernel) (by decide) fun cdv A outer s H E hr => ss_cons (ss_set sc__law_caught.nd (se_non)) (ss_cons (ss_tryKeep (takes_of rfl rfl rfl rfl) (C.glo 40 "CreditError") (List.forall_mem_cons.mpr ⟨exmB_ok (c := "BadNumber") (h := "CreditError") (r := true) (C.ex 13), (List.forall_mem_cons.mpr ⟨exmB_ok (c := "BadPlan") (h := "CreditError") (r := true) (C.ex 12), (fun p hp => nomatch hp)⟩)⟩) sc__law_caught.nd (fun _ _ _ t1 t2 => ss_one (ss_expr (se_lcall (k := 4) t1 (hr.mono (by decide : 4 + 1 ≤ 5)) (sv 0) (List.forall_mem_cons.mpr ⟨⟨lamB_0, fun cs A o t G T f c hr => okl_0 C cs A o t G T f c (hr.mono (by decide : 4 ≤ 4))⟩, (List.forall_mem_cons.mpr ⟨⟨lamB_1, fun cs A o t G T f c hr => okl_1 C cs A o t G T f c (hr.mono (by decide : 4 ≤ 4))⟩, (List.forall_mem_cons.mpr ⟨⟨lamB_2, fun cs A o t G T f c hr => okl_2 C cs A o t G T f c (hr.mono (by decide : 4 ≤ 4))⟩, (List.forall_mem_cons.mpr ⟨⟨lamB_3, fun cs A o t G T f c hr => okl_3 C cs A o t G T f c (hr.mono (by decide : 4 ≤ 4))⟩, (List.forall_mem_cons.mpr ⟨⟨lamB_4, fun cs A o t G T f c hr => okl_4 C cs A o t G T f c (hr.mono (by decide : 4 ≤ 4))⟩, (List.forall_mem_cons.mpr ⟨⟨lamB_5, fun cs A o t G T f c hr => okl_5 C cs A o t G T f c (hr.mono (by decide : 3 ≤ 4))⟩, (List.forall_mem_cons.mpr ⟨⟨lamB_6, fun cs A o t G T f c hr => okl_6 C cs A o t G T f c (hr.mono (by decide : 3 ≤ 4))⟩, (List.forall_mem_cons.mpr ⟨⟨lamB_7, fun cs A o t G T f c hr => okl_7 C cs A o t G T f c (hr.mono (by decide : 4 ≤ 4))⟩, (List.forall_mem_cons.mpr ⟨⟨lamB_8, fun cs A o t G T f c hr => okl_8 C cs A o t G T f c (hr.mono (by decide : 4 ≤ 4))⟩, (List.forall_mem_cons.mpr ⟨⟨lamB_9, fun cs A o t G T f c hr => okl_9 C cs A o t G T f c (hr.mono (by decide : 4 ≤ 4))⟩, (fun q hq => nomatch hq)⟩)⟩)⟩)⟩)⟩)⟩)⟩)⟩)⟩)⟩))))) (ss_one (ss_ret (sv 1))))
/-! _law_kind: slots 0 _law_work, 1 _law_error, 2 . -/
def m__law_kind : M Fl := seqM (M.bind (M.bind (consM (getV 0) (M.ret [])) (callT 2 f__law_caught)) (setV 1)) (seqM (ifM (isB (bin2 isND (getV 1) (M.ret .non))) (retM (frzM (lstN (M.ret [])))) (M.ret .nx)) (seqM (ifM (orB (isB (bin2 eqD (M.bind (consM (getV 1) (consM (M.ret (.glo "BadPlan")) (M.ret []))) (isiE (isGloD "BadPlan") (fun _ => false) [] [("BadNumber", false), ("BadPlan", true)])) (M.bind (consM (getV 1) (consM (M.ret (.glo "BadNumber")) (M.ret []))) (isiE (isGloD "BadNumber") (fun _ => false) [] [("BadNumber", true), ("BadPlan", false)])))) (notB (isB (M.bind (consM (getV 1) (consM (M.ret (.ty "ValueError")) (M.ret []))) (isiE (isTyD "ValueError") (fun _ => false) [] [("BadNumber", true), ("BadPlan", true)]))))) (retM (frzM (lstN (consM (M.ret (.str "several")) (M.ret []))))) (M.ret .nx)) (retM (ifM (isB (M.bind (consM (getV 1) (consM (M.ret (.glo "BadPlan")) (M.ret []))) (isiE (isGloD "BadPlan") (fun _ => false) [] [("BadNumber", false), ("BadPlan", true)]))) (frzM (lstN (consM (M.ret (.str "plan")) (consM (fldX ["BadPlan"] "part" (getV 1)) (M.ret []))))) (frzM (lstN (consM (M.ret (.str "number")) (consM (fldX ["BadNumber"] "number" (getV 1)) (M.ret [])))))))))
def f__law_kind : FnU := fnBodyU 1 2 m__law_kind
theorem sc__law_kind : FnScope ["_law_work", "_law_error", "."] ["_law_work"] (defScope s__law_kind) := ⟨rfl, rfl, rfl, by decide +kernel, rfl, by decide +kernel, by decide +kernel⟩
theorem b__law_kind {K : PySem.W.Frag} {mg : Str → Option Value} (C : Ctx K mg) : Binds K (fdA K (ga K "_law_kind")) ["_law_work"] [] := (fun__law_kind C).bindsN fun _ _ _ _ _ _ us hl => match us, hl with | [_], _ => rfl
theorem ok__law_kind {w : World} {K : PySem.W.Frag} {mg : Str → Option Value} (C : Ctx K mg) : OkU PW w K mg 7 (ga K "_law_kind") (fdA K (ga K "_law_kind")) ["_law_work"] f__law_kind := fun base kin ns =>
  fn_okU (qual := "_law_kind") (scope := defScope s__law_kind) (body := defBody s__law_kind) (m := m__law_kind) (k := 6) (z := ".") (fun__law_kind C) sc__law_kind rfl rfl rfl (by decide +kernel) (by decide) fun cdv A outer s H E hr => ss_cons (ss_set sc__law_kind.nd (se_callN (takes_of rfl rfl rfl rfl) (fun B kB nB => (ok__law_caught C B kB nB).mono (by decide : 6 ≤ 6)) ar_ofU hr (C.glo 41 "_law_caught") (fun__law_caught C).kp (b__law_caught C) (sa_cons (sv 0) (sa_nil)))) (ss_cons (ss_if (sb_cmp ov_isN (sv 1) (se_non) (nomark _)) (ss_one (ss_ret (se_frz (sn_lst (sa_nil))))) (ss_nil)) (ss_cons (ss_if (sb_w (sw_or (sb_cmp (ov_eq hr) (se_callB (cv_isE (isGloD_cd "BadPlan") (List.forall_mem_cons.mpr ⟨⟨excCB_ok (c := "BadNumber") (C.ex 2), kit1B_ok (c := "BadNumber") (t := (.inr "BadPlan")) (r := false) (C.ex 3)⟩, (List.forall_mem_cons.mpr ⟨⟨excCB_ok (c := "BadPlan") (C.ex 0), kit1B_ok (c := "BadPlan") (t := (.inr "BadPlan")) (r := true) (C.ex 1)⟩, (fun p hp => nomatch hp)⟩)⟩) (cv_isiC (own := []) (kitsB_ok (C := "BadPlan") (C.ex 4)) (fun p hp => nomatch hp))) (C.free 4 "isinstance") (by decide +kernel) (sa_cons (sv 1) (sa_cons (se_glo (C.glo 3 "BadPlan")) (sa_nil)))) (se_callB (cv_isE (isGloD_cd "BadNumber") (List.forall_mem_cons.mpr ⟨⟨excCB_ok (c := "BadNumber") (C.ex 2), kit1B_ok (c := "BadNumber") (t := (.inr "BadNumber")) (r := true) (C.ex 8)⟩, (List.forall_mem_cons.mpr ⟨⟨excCB_ok (c := "BadPlan") (C.ex 0), kit1B_ok (c := "BadPlan") (t := (.inr "BadNumber")) (r := false) (C.ex 7)⟩, (fun p hp => nomatch hp)⟩)⟩) (cv_isiC (own := []) (kitsB_ok (C := "BadNumber") (C.ex 9)) (fun p hp => nomatch hp))) (C.free 4 "isinstance") (by decide +kernel) (sa_cons (sv 1) (sa_cons (se_glo (C.glo 5 "BadNumber")) (sa_nil)))) (nomark _)) (sw_or1 (sb_not (sb_val (se_callB (cv_isE (isTyD_cd "ValueError") (List.forall_mem_cons.mpr ⟨⟨excCB_ok (c := "BadNumber") (C.ex 2), kit1B_ok (c := "BadNumber") (t := (.inl "ValueError")) (r := true) (C.ex 11)⟩, (List.forall_mem_cons.mpr ⟨⟨excCB_ok (c := "BadPlan") (C.ex 0), kit1B_ok (c := "BadPlan") (t := (.inl "ValueError")) (r := true) (C.ex 10)⟩, (fun p hp => nomatch hp)⟩)⟩) (cv_isiT (T := "ValueError") (subs := fun _ => false) (own := []) (ho := (fun p hp => nomatch hp)))) (C.free 4 "isinstance") (by decide +kernel) (sa_cons (sv 1) (sa_cons (se_bty (n := "ValueError") (C.free 6 "ValueError") (by decide +kernel)) (sa_nil))))))))) (ss_one (ss_ret (se_frz (sn_lst (sa_cons (se_str) (sa_nil)))))) (ss_nil)) (ss_one (ss_ret (se_if (sb_val (se_callB (cv_isE (isGloD_cd "BadPlan") (List.forall_mem_cons.mpr ⟨⟨excCB_ok (c := "BadNumber") (C.ex 2), kit1B_ok (c := "BadNumber") (t := (.inr "BadPlan")) (r := false) (C.ex 3)⟩, (List.forall_mem_cons.mpr ⟨⟨excCB_ok (c := "BadPlan") (C.ex 0), kit1B_ok (c := "BadPlan") (t := (.inr "BadPlan")) (r := true) (C.ex 1)⟩, (fun p hp => nomatch hp)⟩)⟩) (cv_isiC (own := []) (kitsB_ok (C := "BadPlan") (C.ex 4)) (fun p hp => nomatch hp))) (C.free 4 "isinstance") (by decide +kernel) (sa_cons (sv 1) (sa_cons (se_glo (C.glo 3 "BadPlan")) (sa_nil))))) (se_frz (sn_lst (sa_cons (se_str) (sa_cons (se_fldX (sv 1) (List.forall_mem_cons.mpr ⟨⟨excCB_ok (c := "BadPlan") (C.ex 0), noAtB_ok (c := "BadPlan") (f := "part") (C.ex 5)⟩, (fun p hp => nomatch hp)⟩)) (sa_nil))))) (se_frz (sn_lst (sa_cons (se_str) (sa_cons (se_fldX (sv 1) (List.forall_mem_cons.mpr ⟨⟨excCB_ok (c := "BadNumber") (C.ex 2), noAtB_ok (c := "BadNumber") (f := "number") (C.ex 6)⟩, (fun p hp => nomatch hp)⟩)) (sa_nil))))))))))
/-! _law_plan_right: slots 0 _law_first, 1 _law_second, 2 _law_third, 3 _law_due, 4 _law_works, 5 _law_work, 6 . -/
def m__law_plan_right : M Fl := seqM (M.bind (lstN (consM (lamM 0 lam_0 0 6 "_law_plan_right") (M.ret []))) (setO 4)) (seqM (exprM (methO 4 "list" fAppend (consM (lamM 1 lam_1 0 6 "_law_plan_right") (M.ret [])))) (seqM (exprM (methO 4 "list" fAppend (consM (lamM 2 lam_2 0 6 "_law_plan_right") (M.ret [])))) (seqM (exprM (methO 4 "list" fAppend (consM (lamM 3 lam_3 0 6 "_law_plan_right") (M.ret [])))) (seqM (exprM (methO 4 "list" fAppend (consM (lamM 4 lam_4 0 6 "_law_plan_right") (M.ret [])))) (seqM (ifM (isB (bin2 neD (M.bind (consM (frzM (lcU 6 ["_law_first", "_law_second", "_law_third", "_law_due", "_law_works", "_law_work", "."] [0, 1, 2] (itemsM (getV 4)) (gSet 5) (M.ret true) (M.bind (consM (getV 5) (M.ret [])) (callT 6 f__law_kind)) [5])) (M.ret [])) reprG) (M.bind (consM (bin2 mulD (frzM (lstN (consM (ixV 3 (M.ret (.int 0))) (M.ret [])))) (M.ret (.int 5))) (M.ret [])) reprG))) (retM (M.ret (.bl false))) (M.ret .nx)) (seqM (M.bind (lstN (consM (lamM 5 lam_5 0 6 "_law_plan_right") (M.ret []))) (setO 4)) (seqM (exprM (methO 4 "list" fAppend (consM (lamM 6 lam_6 0 6 "_law_plan_right") (M.ret [])))) (seqM (ifM (isB (bin2 neD (M.bind (consM (frzM (lcU 6 ["_law_first", "_law_second", "_law_third", "_law_due", "_law_works", "_law_work", "."] [0, 1, 2] (itemsM (getV 4)) (gSet 5) (M.ret true) (M.bind (consM (getV 5) (M.ret [])) (callT 6 f__law_kind)) [5])) (M.ret [])) reprG) (M.bind (consM (bin2 mulD (frzM (lstN (consM (ixV 3 (M.ret (.int 1))) (M.ret [])))) (M.ret (.int 2))) (M.ret [])) reprG))) (retM (M.ret (.bl false))) (M.ret .nx)) (seqM (M.bind (lstN (consM (lamM 7 lam_7 0 6 "_law_plan_right") (M.ret []))) (setO 4)) (seqM (exprM (methO 4 "list" fAppend (consM (lamM 8 lam_8 0 6 "_law_plan_right") (M.ret [])))) (seqM (exprM (methO 4 "list" fAppend (consM (lamM 9 lam_9 0 6 "_law_plan_right") (M.ret [])))) (retM (bin2 eqD (M.bind (consM (frzM (lcU 6 ["_law_first", "_law_second", "_law_third", "_law_due", "_law_works", "_law_work", "."] [0, 1, 2] (itemsM (getV 4)) (gSet 5) (M.ret true) (M.bind (consM (getV 5) (M.ret [])) (callT 6 f__law_kind)) [5])) (M.ret [])) reprG) (M.bind (consM (bin2 addD (bin2 mulD (frzM (lstN (consM (ixV 3 (M.ret (.int 2))) (M.ret [])))) (M.ret (.int 2))) (frzM (lstN (consM (ixV 3 (M.ret (.int 3))) (M.ret []))))) (M.ret [])) reprG))))))))))))))
def f__law_plan_right : FnD := fnBodyC 4 6 m__law_plan_right
theorem sc__law_plan_right : FnScope ["_law_first", "_law_second", "_law_third", "_law_due", "_law_works", "_law_work", "."] ["_law_first", "_law_second", "_law_third", "_law_due"] (defScope s__law_plan_right) := ⟨rfl, rfl, rfl, by decide +kernel, rfl, by decide +kernel, by decide +kernel⟩
theorem b__law_plan_right {K : PySem.W.Frag} {mg : Str → Option Value} (C : Ctx K mg) : Binds K (fdA K (ga K "_law_plan_right")) ["_law_first", "_law_second", "_law_third", "_law_due"] [] := (fun__law_plan_right C).bindsN fun _ _ _ _ _ _ us hl => match us, hl with | [_, _, _, _], _ => rfl
theorem mem__law_plan_right : (("_law_plan_right", ((("_law_plan_right" : Str) ++ ".<locals>.") ++ "<lambda>")) : Str × Str) ∈ tabs := by simp [tabs]
theorem ok__law_plan_right {w : World} {K : PySem.W.Frag} {mg : Str → Option Value} {base : Heap} (C : Ctx K mg) (TB : ∀ p ∈ tabs, LamX.TabB base mg (codA K p.1) (tabA K p.1)) : FnG PW w K mg base 8 (ga K "_law_plan_right") (fdA K (ga K "_law_plan_right")) ["_law_first", "_law_second", "_law_third", "_law_due"] (spV K 4 f__law_plan_right) :=
  fn_okC (qual := "_law_plan_right") (scope := defScope s__law_plan_right) (body := defBody s__law_plan_right) (m := m__law_plan_right) (k := 7) (z := ".") (fun__law_plan_right C) sc__law_plan_right rfl rfl rfl (by decide +kernel) (by decide) fun cdv A o s G T hcd hA hr => ss_cons (ss_setO sc__law_plan_right.nd (sn_lst (sa_cons (se_lam (i := 0) (kt := 0) (kf := 6) (x := "_law_plan_right") (L := lam_0) (TB _ (mem__law_plan_right)) (hcd.symm.trans (cod_of (fun__law_plan_right C)))) (sa_nil)))) (ss_cons (ss_expr (se_methO mo_append PySem.F.plainAttrs_list PySem.F.slot_list_append (by rfl) (pvv 4) (sa_cons (se_lam (i := 1) (kt := 0) (kf := 6) (x := "_law_plan_right") (L := lam_1) (TB _ (mem__law_plan_right)) (hcd.symm.trans (cod_of (fun__law_plan_right C)))) (sa_nil)))) (ss_cons (ss_expr (se_methO mo_append PySem.F.plainAttrs_list PySem.F.slot_list_append (by rfl) (pvv 4) (sa_cons (se_lam (i := 2) (kt := 0) (kf := 6) (x := "_law_plan_right") (L := lam_2) (TB _ (mem__law_plan_right)) (hcd.symm.trans (cod_of (fun__law_plan_right C)))) (sa_nil)))) (ss_cons (ss_expr (se_methO mo_append PySem.F.plainAttrs_list PySem.F.slot_list_append (by rfl) (pvv 4) (sa_cons (se_lam (i := 3) (kt := 0) (kf := 6) (x := "_law_plan_right") (L := lam_3) (TB _ (mem__law_plan_right)) (hcd.symm.trans (cod_of (fun__law_plan_right C)))) (sa_nil)))) (ss_cons (ss_expr (se_methO mo_append PySem.F.plainAttrs_list PySem.F.slot_list_append (by rfl) (pvv 4) (sa_cons (se_lam (i := 4) (kt := 0) (kf := 6) (x := "_law_plan_right") (L := lam_4) (TB _ (mem__law_plan_right)) (hcd.symm.trans (cod_of (fun__law_plan_right C)))) (sa_nil)))) (ss_cons (ss_if (sb_cmp (ov_ne hr) (se_callB (cv_reprG hA hr) (C.free 43 "repr") (by decide +kernel) (sa_cons (se_frz (sn_lcU (kf := 6) (capt := [0, 1, 2]) (own := [("_law_work", 5)]) sc__law_plan_right.nd (si_seq (sv 4)) (blkOk_by (N := ["_law_first", "_law_second", "_law_third", "_law_due", "_law_works", "_law_work", "."]) (sc := defScope s__law_plan_right) (by decide +kernel)) (fun _ _ _ _ _ _ _ _ => sg_name sc__law_plan_right.nd) (fun _ _ _ _ _ _ _ _ => sts_nil) (fun _ _ _ _ _ _ _ _ => se_callN LamX.takes0 (fun B kB nB => (ok__law_kind C B kB nB).mono (by decide : 7 ≤ 7)) ar_ofU hr (C.glo 42 "_law_kind") (fun__law_kind C).kp (b__law_kind C) (sa_cons (sv 5) (sa_nil))) (by decide))) (sa_nil))) (se_callB (cv_reprG hA hr) (C.free 43 "repr") (by decide +kernel) (sa_cons (se_bin ov_mul (se_frz (sn_lst (sa_cons (se_ixV (hu_of hr) (pvv 3) (se_int)) (sa_nil)))) (se_int)) (sa_nil))) (nomark _)) (ss_one (ss_ret (se_bl))) (ss_nil)) (ss_cons (ss_setO sc__law_plan_right.nd (sn_lst (sa_cons (se_lam (i := 5) (kt := 0) (kf := 6) (x := "_law_plan_right") (L := lam_5) (TB _ (mem__law_plan_right)) (hcd.symm.trans (cod_of (fun__law_plan_right C)))) (sa_nil)))) (ss_cons (ss_expr (se_methO mo_append PySem.F.plainAttrs_list PySem.F.slot_list_append (by rfl) (pvv 4) (sa_cons (se_lam (i := 6) (kt := 0) (kf := 6) (x := "_law_plan_right") (L := lam_6) (TB _ (mem__law_plan_right)) (hcd.symm.trans (cod_of (fun__law_plan_right C)))) (sa_nil)))) (ss_cons (ss_if (sb_cmp (ov_ne hr) (se_callB (cv_reprG hA hr) (C.free 43 "repr") (by decide +kernel) (sa_cons (se_frz (sn_lcU (kf := 6) (capt := [0, 1, 2]) (own := [("_law_work", 5)]) sc__law_plan_right.nd (si_seq (sv 4)) (blkOk_by (N := ["_law_first", "_law_second", "_law_third", "_law_due", "_law_works", "_law_work", "."]) (sc := defScope s__law_plan_right) (by decide +kernel)) (fun _ _ _ _ _ _ _ _ => sg_name sc__law_plan_right.nd) (fun _ _ _ _ _ _ _ _ => sts_nil) (fun _ _ _ _ _ _ _ _ => se_callN LamX.takes0 (fun B kB nB => (ok__law_kind C B kB nB).mono (by decide : 7 ≤ 7)) ar_ofU hr (C.glo 42 "_law_kind") (fun__law_kind C).kp (b__law_kind C) (sa_cons (sv 5) (sa_nil))) (by decide))) (sa_nil))) (se_callB (cv_reprG hA hr) (C.free 43 "repr") (by decide +kernel) (sa_cons (se_bin ov_mul (se_frz (sn_lst (sa_cons (se_ixV (hu_of hr) (pvv 3) (se_int)) (sa_nil)))) (se_int)) (sa_nil))) (nomark _)) (ss_one (ss_ret (se_bl))) (ss_nil)) (ss_cons (ss_setO sc__law_plan_right.nd (sn_lst (sa_cons (se_lam (i := 7) (kt := 0) (kf := 6) (x := "_law_plan_right") (L := lam_7) (TB _ (mem__law_plan_right)) (hcd.symm.trans (cod_of (fun__law_plan_right C)))) (sa_nil)))) (ss_cons (ss_expr (se_methO mo_append PySem.F.plainAttrs_list PySem.F.slot_list_append (by rfl) (pvv 4) (sa_cons (se_lam (i := 8) (kt := 0) (kf := 6) (x := "_law_plan_right") (L := lam_8) (TB _ (mem__law_plan_right)) (hcd.symm.trans (cod_of (fun__law_plan_right C)))) (sa_nil)))) (ss_cons (ss_expr (se_methO mo_append PySem.F.plainAttrs_list PySem.F.slot_list_append (by rfl) (pvv 4) (sa_cons (se_lam (i := 9) (kt := 0) (kf := 6) (x := "_law_plan_right") (L := lam_9) (TB _ (mem__law_plan_right)) (hcd.symm.trans (cod_of (fun__law_plan_right C)))) (sa_nil)))) (ss_one (ss_ret (se_cmp (ov_eq hr) (se_callB (cv_reprG hA hr) (C.free 43 "repr") (by decide +kernel) (sa_cons (se_frz (sn_lcU (kf := 6) (capt := [0, 1, 2]) (own := [("_law_work", 5)]) sc__law_plan_right.nd (si_seq (sv 4)) (blkOk_by (N := ["_law_first", "_law_second", "_law_third", "_law_due", "_law_works", "_law_work", "."]) (sc := defScope s__law_plan_right) (by decide +kernel)) (fun _ _ _ _ _ _ _ _ => sg_name sc__law_plan_right.nd) (fun _ _ _ _ _ _ _ _ => sts_nil) (fun _ _ _ _ _ _ _ _ => se_callN LamX.takes0 (fun B kB nB => (ok__law_kind C B kB nB).mono (by decide : 7 ≤ 7)) ar_ofU hr (C.glo 42 "_law_kind") (fun__law_kind C).kp (b__law_kind C) (sa_cons (sv 5) (sa_nil))) (by decide))) (sa_nil))) (se_callB (cv_reprG hA hr) (C.free 43 "repr") (by decide +kernel) (sa_cons (se_bin ov_add (se_bin ov_mul (se_frz (sn_lst (sa_cons (se_ixV (hu_of hr) (pvv 3) (se_int)) (sa_nil)))) (se_int)) (se_frz (sn_lst (sa_cons (se_ixV (hu_of hr) (pvv 3) (se_int)) (sa_nil))))) (sa_nil))) (nomark _)))))))))))))))
/-! _law_mixed: slots 0 _law_state, 1 _law_found, 2 _law_prime, 3 _law_blend, 4 _law_cell -/
def m__law_mixed : M Fl := seqM (isetP (getV 0) (M.ret (.str "turn")) (bin2 addD (ixV 0 (M.ret (.str "turn"))) (M.ret (.int 1)))) (seqM (M.bind (M.ret (.int 0)) (setV 1)) (seqM (forM (itemsM (frzM (lstN (consM (M.ret (.int 2147483629)) (consM (M.ret (.int 2147483587)) (consM (M.ret (.int 2147483579)) (consM (M.ret (.int 2147483563)) (consM (M.ret (.int 2147483549)) (consM (M.ret (.int 2147483543)) (M.ret [])))))))))) (gSet 2) (seqM (M.bind (bin2 addD (bin2 mulD (M.ret (.int 104729)) (ixV 0 (M.ret (.str "turn")))) (bin2 fdivD (getV 2) (M.ret (.int 7)))) (setV 3)) (seqM (forM (itemsM (ixV 0 (M.ret (.str "cells")))) (gSet 4) (M.bind (bin2 modD (M.bind (consM (bin2 addD (bin2 mulD (getV 3) (M.ret (.int 48271))) (getV 4)) (M.ret [])) intD) (getV 2)) (setV 3))) (M.bind (bin2 addD (bin2 mulD (getV 1) (M.ret (.int 2147483647))) (bin2 modD (M.bind (consM (bin2 powD (getV 3) (M.ret (.int 5))) (M.ret [])) intD) (getV 2))) (setV 1))))) (retM (getV 1))))
def f__law_mixed : FnD := fnBody 1 5 m__law_mixed
theorem sc__law_mixed : FnScope ["_law_state", "_law_found", "_law_prime", "_law_blend", "_law_cell"] ["_law_state"] (defScope s__law_mixed) := ⟨rfl, rfl, rfl, by decide +kernel, rfl, by decide +kernel, by decide +kernel⟩
theorem b__law_mixed {K : PySem.W.Frag} {mg : Str → Option Value} (C : Ctx K mg) : Binds K (fdA K (ga K "_law_mixed")) ["_law_state"] [] := (fun__law_mixed C).bindsN fun _ _ _ _ _ _ us hl => match us, hl with | [_], _ => rfl
theorem ok__law_mixed {w : World} {K : PySem.W.Frag} {mg : Str → Option Value} {base : Heap} (C : Ctx K mg) : OkV PW w K mg base 1 (ga K "_law_mixed") ["_law_state"] f__law_mixed :=
  fn_okV (qual := "_law_mixed") (scope := defScope s__law_mixed) (body := defBody s__law_mixed) (m := m__law_mixed) (k := 0) (fun__law_mixed C) sc__law_mixed rfl rfl fun cdv A outer s H E hr => ss_cons (ss_isetP (hu_of hr) (se_bin ov_add (se_ixV (hu_of hr) (pvv 0) (se_str)) (se_int)) (sv 0) (se_str)) (ss_cons (ss_set sc__law_mixed.nd (se_int)) (ss_cons (ss_for (vs := [2]) (passes_of rfl) (si_seq (se_frz (sn_lst (sa_cons (se_int) (sa_cons (se_int) (sa_cons (se_int) (sa_cons (se_int) (sa_cons (se_int) (sa_cons (se_int) (sa_nil)))))))))) (sg_name sc__law_mixed.nd) (ss_cons (ss_set sc__law_mixed.nd (se_bin ov_add (se_bin ov_mul (se_int) (se_ixV (hu_of hr) (pvv 0) (se_str))) (se_bin ov_fdiv (sv 2) (se_int)))) (ss_cons (ss_for (vs := [4]) (passes_of rfl) (si_seq (se_ixV (hu_of hr) (pvv 0) (se_str))) (sg_name sc__law_mixed.nd) (ss_one (ss_set sc__law_mixed.nd (se_bin ov_mod (se_callT cv_int (C.free 12 "int") (by decide +kernel) (sa_cons (se_bin ov_add (se_bin ov_mul (sv 3) (se_int)) (sv 4)) (sa_nil))) (sv 2))))) (ss_one (ss_set sc__law_mixed.nd (se_bin ov_add (se_bin ov_mul (sv 1) (se_int)) (se_bin ov_mod (se_callT cv_int (C.free 12 "int") (by decide +kernel) (sa_cons (se_bin ov_pow (sv 3) (se_int)) (sa_nil))) (sv 2)))))))) (ss_one (ss_ret (sv 1)))))
/-! _law_take: slots 0 _law_state, 1 _law_size, 2 _law_found -/
def m__law_take : M Fl := seqM (ifM (isB (bin2 eqD (ixV 0 (M.ret (.str "rest"))) (M.ret (.int 0)))) (isetP (getV 0) (M.ret (.str "rest")) (ifM (isB (bin2 neP (ixV 0 (M.ret (.str "large"))) (frzM (lstN (M.ret []))))) (methP "list" fPopAt (ixV 0 (M.ret (.str "large"))) (consM (M.ret (.int 0)) (M.ret []))) (M.bind (consM (getV 0) (M.ret [])) (callF f__law_mixed)))) (M.ret .nx)) (seqM (M.bind (bin2 modD (M.bind (consM (ixV 0 (M.ret (.str "rest"))) (M.ret [])) intD) (getV 1)) (setV 2)) (seqM (isetP (getV 0) (M.ret (.str "rest")) (bin2 fdivD (ixV 0 (M.ret (.str "rest"))) (getV 1))) (retM (getV 2))))
def f__law_take : FnD := fnBody 2 3 m__law_take
theorem sc__law_take : FnScope ["_law_state", "_law_size", "_law_found"] ["_law_state", "_law_size"] (defScope s__law_take) := ⟨rfl, rfl, rfl, by decide +kernel, rfl, by decide +kernel, by decide +kernel⟩
theorem b__law_take {K : PySem.W.Frag} {mg : Str → Option Value} (C : Ctx K mg) : Binds K (fdA K (ga K "_law_take")) ["_law_state", "_law_size"] [] := (fun__law_take C).bindsN fun _ _ _ _ _ _ us hl => match us, hl with | [_, _], _ => rfl
theorem ok__law_take {w : World} {K : PySem.W.Frag} {mg : Str → Option Value} {base : Heap} (C : Ctx K mg) : OkV PW w K mg base 2 (ga K "_law_take") ["_law_state", "_law_size"] f__law_take :=
  fn_okV (qual := "_law_take") (scope := defScope s__law_take) (body := defBody s__law_take) (m := m__law_take) (k := 1) (fun__law_take C) sc__law_take rfl rfl fun cdv A outer s H E hr => ss_cons (ss_if (sb_cmp (ov_eq hr) (se_ixV (hu_of hr) (pvv 0) (se_str)) (se_int) (nomark _)) (ss_one (ss_isetP (hu_of hr) (se_if (sb_cmp (ov_neP hr) (se_ixV (hu_of hr) (pvv 0) (se_str)) (se_frz (sn_lst (sa_nil))) (nomark _)) (se_methP mo_popAt PySem.F.plainAttrs_list PySem.F.slot_list_pop (by rfl) (se_ixV (hu_of hr) (pvv 0) (se_str)) (sa_cons (se_int) (sa_nil))) (se_call (takes_of rfl rfl rfl rfl) ((ok__law_mixed C).mono (by decide : 1 ≤ 1)) ar_of hr (C.glo 45 "_law_mixed") (fun__law_mixed C).kp (b__law_mixed C) (sa_cons (sv 0) (sa_nil)))) (sv 0) (se_str))) (ss_nil)) (ss_cons (ss_set sc__law_take.nd (se_bin ov_mod (se_callT cv_int (C.free 12 "int") (by decide +kernel) (sa_cons (se_ixV (hu_of hr) (pvv 0) (se_str)) (sa_nil))) (sv 1))) (ss_cons (ss_isetP (hu_of hr) (se_bin ov_fdiv (se_ixV (hu_of hr) (pvv 0) (se_str)) (sv 1)) (sv 0) (se_str)) (ss_one (ss_ret (sv 2)))))
/-! _law_pick: slots 0 _law_state, 1 _law_some -/
def m__law_pick : M Fl := retM (ixV 1 (M.bind (consM (getV 0) (consM (lenV 1) (M.ret []))) (callF f__law_take)))
def f__law_pick : FnD := fnBody 2 2 m__law_pick
theorem sc__law_pick : FnScope ["_law_state", "_law_some"] ["_law_state", "_law_some"] (defScope s__law_pick) := ⟨rfl, rfl, rfl, by decide +kernel, rfl, by decide +kernel, by decide +kernel⟩
theorem b__law_pick {K : PySem.W.Frag} {mg : Str → Option Value} (C : Ctx K mg) : Binds K (fdA K (ga K "_law_pick")) ["_law_state", "_law_some"] [] := (fun__law_pick C).bindsN fun _ _ _ _ _ _ us hl => match us, hl with | [_, _], _ => rfl
theorem ok__law_pick {w : World} {K : PySem.W.Frag} {mg : Str → Option Value} {base : Heap} (C : Ctx K mg) : OkV PW w K mg base 3 (ga K "_law_pick") ["_law_state", "_law_some"] f__law_pick :=
  fn_okV (qual := "_law_pick") (scope := defScope s__law_pick) (body := defBody s__law_pick) (m := m__law_pick) (k := 2) (fun__law_pick C) sc__law_pick rfl rfl fun cdv A outer s H E hr => ss_one (ss_ret (se_ixV (hu_of hr) (pvv 1) (se_call (takes_of rfl rfl rfl rfl) ((ok__law_take C).mono (by decide : 2 ≤ 2)) ar_of hr (C.glo 46 "_law_take") (fun__law_take C).kp (b__law_take C) (sa_cons (sv 0) (sa_cons (se_lenV (pvv 1) (C.free 0 "len")) (sa_nil))))))
/-! Plan.__init__: slots 0 self, 1 rate, 2 share, 3 least, 4 plus -/
def m_Plan_init : M Fl := seqM (ifM (notB (isB (M.bind (consM (getV 1) (consM (M.ret (.int 0)) (consM (M.ret (.int 1000)) (M.ret [])))) (callF f_is_number_in)))) (raiseS "BadPlan" "part" (consM (M.ret (.str "rate")) (M.ret []))) (M.ret .nx)) (seqM (ifM (notB (isB (M.bind (consM (getV 2) (consM (M.ret (.int 0)) (consM (M.ret (.int 1000)) (M.ret [])))) (callF f_is_number_in)))) (raiseS "BadPlan" "part" (consM (M.ret (.str "share")) (M.ret []))) (M.ret .nx)) (seqM (ifM (notB (isB (M.bind (consM (getV 3) (consM (M.ret (.int 1)) (consM (M.ret (.int 1000000)) (M.ret [])))) (callF f_is_number_in)))) (raiseS "BadPlan" "part" (consM (M.ret (.str "least")) (M.ret []))) (M.ret .nx)) (seqM (ifM (notB (isB (M.bind (consM (getV 4) (consM (M.ret (.ty "bool")) (M.ret []))) (isiM (isTyD "bool") (fun t => t == "bool") [])))) (raiseS "BadPlan" "part" (consM (M.ret (.str "plus")) (M.ret []))) (M.ret .nx)) (fsetM "Plan" "l_parts" (getV 0) (tupM (consM (getV 1) (consM (getV 2) (consM (getV 3) (consM (getV 4) (M.ret []))))))))))
def f_Plan_init : FnD := fnBody 5 5 m_Plan_init
theorem sc_Plan_init : FnScope ["self", "rate", "share", "least", "plus"] ["self", "rate", "share", "least", "plus"] (defScope s_Plan_init) := ⟨rfl, rfl, rfl, by decide +kernel, rfl, by decide +kernel, by decide +kernel⟩
theorem ok_Plan_init {w : World} {K : PySem.W.Frag} {mg : Str → Option Value} {base : Heap} (C : Ctx K mg) : OkV PW w K mg base 3 (fAd K ("Plan", some "__init__")) ["self", "rate", "share", "least", "plus"] f_Plan_init :=
  fn_okV (qual := "Plan.__init__") (scope := defScope s_Plan_init) (body := defBody s_Plan_init) (m := m_Plan_init) (k := 2) (fun_Plan_init C) sc_Plan_init rfl rfl fun cdv A outer s H E hr => ss_cons (ss_if (sb_not (sb_val (se_call (takes_of rfl rfl rfl rfl) ((ok_is_number_in C).mono (by decide : 2 ≤ 2)) ar_of hr (C.glo 16 "is_number_in") (fun_is_number_in C).kp (b_is_number_in C) (sa_cons (sv 1) (sa_cons (se_int) (sa_cons (se_gint (C.int 8 "THOUSAND" 1000)) (sa_nil))))))) (ss_one (ss_raiseS (takes_of rfl rfl rfl rfl) (sup_BadPlan C) (hr.mono (by decide : 0 + 1 ≤ 2)) (C.glo 3 "BadPlan") (sa_cons (se_str) (sa_nil)))) (ss_nil)) (ss_cons (ss_if (sb_not (sb_val (se_call (takes_of rfl rfl rfl rfl) ((ok_is_number_in C).mono (by decide : 2 ≤ 2)) ar_of hr (C.glo 16 "is_number_in") (fun_is_number_in C).kp (b_is_number_in C) (sa_cons (sv 2) (sa_cons (se_int) (sa_cons (se_gint (C.int 8 "THOUSAND" 1000)) (sa_nil))))))) (ss_one (ss_raiseS (takes_of rfl rfl rfl rfl) (sup_BadPlan C) (hr.mono (by decide : 0 + 1 ≤ 2)) (C.glo 3 "BadPlan") (sa_cons (se_str) (sa_nil)))) (ss_nil)) (ss_cons (ss_if (sb_not (sb_val (se_call (takes_of rfl rfl rfl rfl) ((ok_is_number_in C).mono (by decide : 2 ≤ 2)) ar_of hr (C.glo 16 "is_number_in") (fun_is_number_in C).kp (b_is_number_in C) (sa_cons (sv 3) (sa_cons (se_int) (sa_cons (se_gint (C.int 48 "MOST_LEAST" 1000000)) (sa_nil))))))) (ss_one (ss_raiseS (takes_of rfl rfl rfl rfl) (sup_BadPlan C) (hr.mono (by decide : 0 + 1 ≤ 2)) (C.glo 3 "BadPlan") (sa_cons (se_str) (sa_nil)))) (ss_nil)) (ss_cons (ss_if (sb_not (sb_val (se_callB (cv_isiT (ho := (fun p hp => nomatch hp))) (C.free 4 "isinstance") (by decide +kernel) (sa_cons (sv 4) (sa_cons (se_bty (n := "bool") (C.free 13 "bool") (by decide +kernel)) (sa_nil)))))) (ss_one (ss_raiseS (takes_of rfl rfl rfl rfl) (sup_BadPlan C) (hr.mono (by decide : 0 + 1 ≤ 2)) (C.glo 3 "BadPlan") (sa_cons (se_str) (sa_nil)))) (ss_nil)) (ss_one (ss_fset (sv 0) (se_tup (sa_cons (sv 1) (sa_cons (sv 2) (sa_cons (sv 3) (sa_cons (sv 4) (sa_nil)))))) (C.cls 10 "Plan") (C.noat 9 "Plan" "l_parts"))))))
/-! _law_planned: slots 0 _law_parts_here -/
def m__law_planned : M Fl := retM (mkM "Plan" f_Plan_init 4 0 [.bl false] [0, 1, 2, 3, 4] (consM (ixV 0 (M.ret (.int 0))) (consM (ixV 0 (M.ret (.int 1))) (consM (ixV 0 (M.ret (.int 2))) (consM (ixV 0 (M.ret (.int 3))) (M.ret []))))) (M.ret []))
def f__law_planned : FnD := fnBody 1 1 m__law_planned
theorem kb_Plan_init_5 {K : PySem.W.Frag} {mg : Str → Option Value} (C : Ctx K mg) : KB K (fdA K (fAd K ("Plan", some "__init__"))) ["self", "rate", "share", "least", "plus"] 5 ([] : List Str) (DefD.dvs K d_Plan_init) [0, 1, 2, 3, 4] := kb_d (fun_Plan_init C) (by exact List.cons_ne_nil _ _) fun _ _ _ _ _ _ _ us ws its h1 h2 h3 => match us, ws, its, h1, h2, h3 with | [_, _, _, _, _], [], [_], _, _, _ => ⟨_, rfl, rfl⟩
theorem sc__law_planned : FnScope ["_law_parts_here"] ["_law_parts_here"] (defScope s__law_planned) := ⟨rfl, rfl, rfl, by decide +kernel, rfl, by decide +kernel, by decide +kernel⟩
theorem b__law_planned {K : PySem.W.Frag} {mg : Str → Option Value} (C : Ctx K mg) : Binds K (fdA K (ga K "_law_planned")) ["_law_parts_here"] [] := (fun__law_planned C).bindsN fun _ _ _ _ _ _ us hl => match us, hl with | [_], _ => rfl
theorem ok__law_planned {w : World} {K : PySem.W.Frag} {mg : Str → Option Value} {base : Heap} (C : Ctx K mg) : OkV PW w K mg base 5 (ga K "_law_planned") ["_law_parts_here"] f__law_planned :=
  fn_okV (qual := "_law_planned") (scope := defScope s__law_planned) (body := defBody s__law_planned) (m := m__law_planned) (k := 4) (fun__law_planned C) sc__law_planned rfl rfl fun cdv A outer s H E hr => ss_one (ss_ret (se_make (takes_of rfl rfl rfl rfl) (C.mkr 49 "Plan") (ok_Plan_init C) ar_of (hr.mono (by decide : 3 + 1 ≤ 4)) (C.glo 17 "Plan") (kb_Plan_init_5 C) (.cons (.bl _) .nil) (sa_cons (se_ixV (hu_of hr) (pvv 0) (se_int)) (sa_cons (se_ixV (hu_of hr) (pvv 0) (se_int)) (sa_cons (se_ixV (hu_of hr) (pvv 0) (se_int)) (sa_cons (se_ixV (hu_of hr) (pvv 0) (se_int)) (sa_nil))))) (sk_nil)))
/-! _law_parts: slots 0 _law_state, 1 _law_rated, 2 _law_part, 3 _law_low -/
def m__law_parts : M Fl := seqM (M.bind (M.bind (consM (getV 0) (consM (frzM (lstN (consM (M.ret (.int 0)) (consM (M.ret (.int 1)) (consM (M.ret (.int 5)) (consM (M.ret (.int 15)) (consM (M.ret (.int 20)) (consM (M.ret (.int 100)) (consM (M.ret (.int 999)) (consM (M.ret (.int 1000)) (consM (M.bind (consM (getV 0) (consM (M.ret (.int 60)) (M.ret []))) (callF f__law_take)) (consM (M.bind (consM (getV 0) (consM (M.ret (.int 1001)) (M.ret []))) (callF f__law_take)) (M.ret []))))))))))))) (M.ret []))) (callF f__law_pick)) (setV 1)) (seqM (M.bind (M.bind (consM (getV 0) (consM (frzM (lstN (consM (M.ret (.int 0)) (consM (M.ret (.int 1)) (consM (M.ret (.int 10)) (consM (M.ret (.int 20)) (consM (M.ret (.int 30)) (consM (M.ret (.int 500)) (consM (M.ret (.int 999)) (consM (M.ret (.int 1000)) (consM (M.bind (consM (getV 0) (consM (M.ret (.int 60)) (M.ret []))) (callF f__law_take)) (consM (M.bind (consM (getV 0) (consM (M.ret (.int 1001)) (M.ret []))) (callF f__law_take)) (M.ret []))))))))))))) (M.ret []))) (callF f__law_pick)) (setV 2)) (seqM (M.bind (M.bind (consM (getV 0) (consM (frzM (lstN (consM (M.ret (.int 1)) (consM (M.ret (.int 1)) (consM (M.ret (.int 2)) (consM (M.ret (.int 3)) (consM (M.ret (.int 10)) (consM (M.ret (.int 25)) (consM (bin2 addD (M.ret (.int 1)) (M.bind (consM (getV 0) (consM (M.ret (.int 100)) (M.ret []))) (callF f__law_take))) (consM (bin2 addD (M.ret (.int 1)) (M.bind (consM (getV 0) (consM (M.ret (.int 3000)) (M.ret []))) (callF f__law_take))) (M.ret []))))))))))) (M.ret []))) (callF f__law_pick)) (setV 3)) (retM (tupM (consM (getV 1) (consM (getV 2) (consM (getV 3) (consM (bin2 eqD (M.bind (consM (getV 0) (consM (M.ret (.int 3)) (M.ret []))) (callF f__law_take)) (M.ret (.int 0))) (M.ret [])))))))))
def f__law_parts : FnD := fnBody 1 4 m__law_parts
theorem sc__law_parts : FnScope ["_law_state", "_law_rated", "_law_part", "_law_low"] ["_law_state"] (defScope s__law_parts) := ⟨rfl, rfl, rfl, by decide +kernel, rfl, by decide +kernel, by decide +kernel⟩
theorem b__law_parts {K : PySem.W.Frag} {mg : Str → Option Value} (C : Ctx K mg) : Binds K (fdA K (ga K "_law_parts")) ["_law_state"] [] := (fun__law_parts C).bindsN fun _ _ _ _ _ _ us hl => match us, hl with | [_], _ => rfl
theorem ok__law_parts {w : World} {K : PySem.W.Frag} {mg : Str → Option Value} {base : Heap} (C : Ctx K mg) : OkV PW w K mg base 4 (ga K "_law_parts") ["_law_state"] f__law_parts :=
  fn_okV (qual := "_law_parts") (scope := defScope s__law_parts) (body := defBody s__law_parts) (m := m__law_parts) (k := 3) (fun__law_parts C) sc__law_parts rfl rfl fun cdv A outer s H E hr => ss_cons (ss_set sc__law_parts.nd (se_call (takes_of rfl rfl rfl rfl) ((ok__law_pick C).mono (by decide : 3 ≤ 3)) ar_of hr (C.glo 47 "_law_pick") (fun__law_pick C).kp (b__law_pick C) (sa_cons (sv 0) (sa_cons (se_frz (sn_lst (sa_cons (se_int) (sa_cons (se_int) (sa_cons (se_int) (sa_cons (se_int) (sa_cons (se_int) (sa_cons (se_int) (sa_cons (se_int) (sa_cons (se_int) (sa_cons (se_call (takes_of rfl rfl rfl rfl) ((ok__law_take C).mono (by decide : 2 ≤ 3)) ar_of hr (C.glo 46 "_law_take") (fun__law_take C).kp (b__law_take C) (sa_cons (sv 0) (sa_cons (se_int) (sa_nil)))) (sa_cons (se_call (takes_of rfl rfl rfl rfl) ((ok__law_take C).mono (by decide : 2 ≤ 3)) ar_of hr (C.glo 46 "_law_take") (fun__law_take C).kp (b__law_take C) (sa_cons (sv 0) (sa_cons (se_int) (sa_nil)))) (sa_nil))))))))))))) (sa_nil))))) (ss_cons (ss_set sc__law_parts.nd (se_call (takes_of rfl rfl rfl rfl) ((ok__law_pick C).mono (by decide : 3 ≤ 3)) ar_of hr (C.glo 47 "_law_pick") (fun__law_pick C).kp (b__law_pick C) (sa_cons (sv 0) (sa_cons (se_frz (sn_lst (sa_cons (se_int) (sa_cons (se_int) (sa_cons (se_int) (sa_cons (se_int) (sa_cons (se_int) (sa_cons (se_int) (sa_cons (se_int) (sa_cons (se_int) (sa_cons (se_call (takes_of rfl rfl rfl rfl) ((ok__law_take C).mono (by decide : 2 ≤ 3)) ar_of hr (C.glo 46 "_law_take") (fun__law_take C).kp (b__law_take C) (sa_cons (sv 0) (sa_cons (se_int) (sa_nil)))) (sa_cons (se_call (takes_of rfl rfl rfl rfl) ((ok__law_take C).mono (by decide : 2 ≤ 3)) ar_of hr (C.glo 46 "_law_take") (fun__law_take C).kp (b__law_take C) (sa_cons (sv 0) (sa_cons (se_int) (sa_nil)))) (sa_nil))))))))))))) (sa_nil))))) (ss_cons (ss_set sc__law_parts.nd (se_call (takes_of rfl rfl rfl rfl) ((ok__law_pick C).mono (by decide : 3 ≤ 3)) ar_of hr (C.glo 47 "_law_pick") (fun__law_pick C).kp (b__law_pick C) (sa_cons (sv 0) (sa_cons (se_frz (sn_lst (sa_cons (se_int) (sa_cons (se_int) (sa_cons (se_int) (sa_cons (se_int) (sa_cons (se_int) (sa_cons (se_int) (sa_cons (se_bin ov_add (se_int) (se_call (takes_of rfl rfl rfl rfl) ((ok__law_take C).mono (by decide : 2 ≤ 3)) ar_of hr (C.glo 46 "_law_take") (fun__law_take C).kp (b__law_take C) (sa_cons (sv 0) (sa_cons (se_int) (sa_nil))))) (sa_cons (se_bin ov_add (se_int) (se_call (takes_of rfl rfl rfl rfl) ((ok__law_take C).mono (by decide : 2 ≤ 3)) ar_of hr (C.glo 46 "_law_take") (fun__law_take C).kp (b__law_take C) (sa_cons (sv 0) (sa_cons (se_int) (sa_nil))))) (sa_nil))))))))))) (sa_nil))))) (ss_one (ss_ret (se_tup (sa_cons (sv 1) (sa_cons (sv 2) (sa_cons (sv 3) (sa_cons (se_cmp (ov_eq hr) (se_call (takes_of rfl rfl rfl rfl) ((ok__law_take C).mono (by decide : 2 ≤ 3)) ar_of hr (C.glo 46 "_law_take") (fun__law_take C).kp (b__law_take C) (sa_cons (sv 0) (sa_cons (se_int) (sa_nil)))) (se_int) (nomark _)) (sa_nil))))))))))
/-! _law_begun: slots 0 _law_script, 1 _law_large, 2 _law_cell -/
def m__law_begun : M Fl := seqM (M.bind (newM (lcN (itemsM (getV 0)) (gSet 2) (isB (bin2 geD (getV 2) (bin2 powD (M.ret (.int 10)) (M.ret (.int 18))))) (bin2 subD (getV 2) (bin2 powD (M.ret (.int 10)) (M.ret (.int 18)))) [2])) (setV 1)) (retM (newM (dispN [.inr "large", .inr "cells", .inr "rest", .inr "turn"] [getV 1, frzM (listN (consM (getV 0) (M.ret []))), M.ret (.int 0), M.ret (.int 0)])))
def f__law_begun : FnD := fnBody 1 3 m__law_begun
theorem sc__law_begun : FnScope ["_law_script", "_law_large", "_law_cell"] ["_law_script"] (defScope s__law_begun) := ⟨rfl, rfl, rfl, by decide +kernel, rfl, by decide +kernel, by decide +kernel⟩
theorem b__law_begun {K : PySem.W.Frag} {mg : Str → Option Value} (C : Ctx K mg) : Binds K (fdA K (ga K "_law_begun")) ["_law_script"] [] := (fun__law_begun C).bindsN fun _ _ _ _ _ _ us hl => match us, hl with | [_], _ => rfl
theorem ok__law_begun {w : World} {K : PySem.W.Frag} {mg : Str → Option Value} {base : Heap} (C : Ctx K mg) : OkV PW w K mg base 1 (ga K "_law_begun") ["_law_script"] f__law_begun :=
  fn_okV (qual := "_law_begun") (scope := defScope s__law_begun) (body := defBody s__law_begun) (m := m__law_begun) (k := 0) (fun__law_begun C) sc__law_begun rfl rfl fun cdv A outer s H E hr => ss_cons (SNs.new (sns_lc (i := 1) (own := [("_law_cell", 2)]) sc__law_begun.nd (si_seq (sv 0)) (blkOk_by (N := ["_law_script", "_law_large", "_law_cell"]) (sc := defScope s__law_begun) (by decide +kernel)) (fun _ _ _ _ _ => sg_name sc__law_begun.nd) (fun _ _ _ _ _ => sts_one (sb_cmp ov_ge (sv 2) (se_bin ov_pow (se_int) (se_int)) (nomark _))) (fun _ _ _ _ _ => se_bin ov_sub (sv 2) (se_bin ov_pow (se_int) (se_int))))) (ss_one (ss_ret (se_new (sn_disp (pp_str (sv 1) (pp_str (se_frz (sn_list (x := "list") (C.free 27 "list") (sa_cons (sv 0) (sa_nil)))) (pp_str (se_int) (pp_str (se_int) (pp_nil)))))))))
/-! law: slots 0 _law_script, 1 _law_state, 2 _law_turn, 3 _law_parts_here, 4 _law_made, 5 _law_odd, 6 _law_worse, 7 _law_bad, 8 _law_alone -/
def m_law : M Fl := seqM (M.bind (M.bind (consM (getV 0) (M.ret [])) (callF f__law_begun)) (setV 1)) (seqM (forM (rng1M (consM (bin2 addD (M.ret (.int 5)) (M.bind (consM (lenV 0) (consM (M.ret (.int 20)) (M.ret []))) min2D)) (M.ret []))) (gSet 2) (seqM (M.bind (M.bind (consM (getV 1) (M.ret [])) (callF f__law_parts)) (setV 3)) (seqM (set2 4 5 (consM (M.bind (consM (getV 3) (M.ret [])) (callF f__law_planned)) (consM (M.bind (consM (getV 1) (consM (frzM (lstN (consM (M.ret .non) (consM (M.ret (.int 5)) (consM (M.ret (.str "plan")) (consM (getV 3) (consM (frzM (listN (consM (getV 3) (M.ret [])))) (consM (frzM (M.ret (.dic []))) (consM (M.ret (.bl true)) (consM (frzM (lstN (consM (getV 3) (M.ret [])))) (M.ret []))))))))))) (M.ret []))) (callF f__law_pick)) (M.ret [])))) (seqM (M.bind (M.bind (consM (getV 1) (consM (frzM (lstN (consM (M.ret .non) (consM (negM (M.ret (.int 1))) (consM (bin2 addD (bin2 powD (M.ret (.int 10)) (M.ret (.int 5))) (M.ret (.int 1))) (consM (M.ret (.bl true)) (consM (M.ret (.bl false)) (consM (M.ret (.str "0")) (consM (tupM (consM (M.ret (.int 0)) (M.ret []))) (consM (frzM (lstN (M.ret []))) (consM (bin2 powD (M.ret (.int 10)) (M.ret (.int 30))) (M.ret [])))))))))))) (M.ret []))) (callF f__law_pick)) (setV 6)) (seqM (M.bind (M.bind (consM (getV 1) (consM (frzM (lstN (consM (negM (M.ret (.int 1))) (consM (M.ret (.int 101)) (consM (M.ret (.bl true)) (consM (M.ret (.bl false)) (consM (M.ret (.str "1")) (consM (tupM (consM (M.ret (.int 1)) (M.ret []))) (consM (frzM (lstN (M.ret []))) (consM (bin2 powD (M.ret (.int 10)) (M.ret (.int 30))) (M.ret []))))))))))) (M.ret []))) (callF f__law_pick)) (setV 7)) (seqM (M.bind (frzM (lstN (consM (M.ret (.str "plan")) (consM (M.ret (.str "plan")) (M.ret []))))) (setV 8)) (seqM (ifM (notB (isB (M.bind (consM (getV 5) (consM (getV 6) (consM (getV 7) (consM (frzM (lstN (consM (getV 8) (consM (getV 8) (consM (getV 8) (consM (getV 8) (M.ret []))))))) (M.ret []))))) (callF f__law_plan_right)))) (retM (M.ret (.bl false))) (M.ret .nx)) (seqM (ifM (notB (isB (M.bind (consM (getV 4) (consM (getV 6) (consM (getV 7) (consM (frzM (lstN (consM (frzM (lstN (consM (M.ret (.str "number")) (consM (getV 6) (M.ret []))))) (consM (frzM (lstN (consM (M.ret (.str "number")) (consM (getV 7) (M.ret []))))) (consM (frzM (lstN (consM (M.ret (.str "number")) (consM (getV 6) (M.ret []))))) (consM (frzM (lstN (M.ret []))) (M.ret []))))))) (M.ret []))))) (callF f__law_plan_right)))) (retM (M.ret (.bl false))) (M.ret .nx)) (seqM (ifM (notB (isB (M.bind (consM (getV 4) (consM (M.ret (.int 100)) (consM (getV 7) (consM (frzM (lstN (consM (frzM (lstN (M.ret []))) (consM (frzM (lstN (consM (M.ret (.str "number")) (consM (getV 7) (M.ret []))))) (consM (frzM (lstN (consM (M.ret (.str "number")) (consM (getV 7) (M.ret []))))) (consM (frzM (lstN (M.ret []))) (M.ret []))))))) (M.ret []))))) (callF f__law_plan_right)))) (retM (M.ret (.bl false))) (M.ret .nx)) (seqM (ifM (notB (isB (M.bind (consM (getV 4) (consM (M.ret (.int 100)) (consM (M.ret .non) (consM (frzM (lstN (consM (frzM (lstN (M.ret []))) (consM (frzM (lstN (consM (M.ret (.str "number")) (consM (M.ret .non) (M.ret []))))) (consM (frzM (lstN (M.ret []))) (consM (frzM (lstN (M.ret []))) (M.ret []))))))) (M.ret []))))) (callF f__law_plan_right)))) (retM (M.ret (.bl false))) (M.ret .nx)) (ifM (notB (isB (M.bind (consM (getV 4) (consM (M.ret (.int 2000)) (consM (M.ret (.int 0)) (consM (frzM (lstN (consM (frzM (lstN (M.ret []))) (consM (frzM (lstN (M.ret []))) (consM (frzM (lstN (consM (M.ret (.str "number")) (consM (M.ret (.int 0)) (M.ret []))))) (consM (frzM (lstN (M.ret []))) (M.ret []))))))) (M.ret []))))) (callF f__law_plan_right)))) (retM (M.ret (.bl false))) (M.ret .nx)))))))))))) (retM (M.ret (.bl true))))
def f_law : FnD := fnBody 1 9 m_law
theorem sc_law : FnScope ["_law_script", "_law_state", "_law_turn", "_law_parts_here", "_law_made", "_law_odd", "_law_worse", "_law_bad", "_law_alone"] ["_law_script"] (defScope s_law) := ⟨rfl, rfl, rfl, by decide +kernel, rfl, by decide +kernel, by decide +kernel⟩
theorem b_law {K : PySem.W.Frag} {mg : Str → Option Value} (C : Ctx K mg) : Binds K (fdA K (ga K "law")) ["_law_script"] [] := (fun_law C).bindsN fun _ _ _ _ _ _ us hl => match us, hl with | [_], _ => rfl
theorem ok_law {w : World} {K : PySem.W.Frag} {mg : Str → Option Value} {base : Heap} (C : Ctx K mg) (TB : ∀ p ∈ tabs, LamX.TabB base mg (codA K p.1) (tabA K p.1)) : FnG PW w K mg base 9 (ga K "law") (fdA K (ga K "law")) ["_law_script"] (spV K 1 f_law) :=
  fn_okG (qual := "law") (scope := defScope s_law) (body := defBody s_law) (m := m_law) (k := 8) (fun_law C) sc_law rfl rfl fun cdv A o s G T hA hr => ss_cons (ss_set sc_law.nd (se_call (takes_of rfl rfl rfl rfl) ((ok__law_begun C).mono (by decide : 1 ≤ 8)) ar_of hr (C.glo 52 "_law_begun") (fun__law_begun C).kp (b__law_begun C) (sa_cons (sv 0) (sa_nil)))) (ss_cons (ss_for (vs := [2]) (passes_of rfl) (si_range1 (C.free 2 "range") (sa_cons (se_bin ov_add (se_int) (se_callB cv_min2 (C.free 1 "min") (by decide +kernel) (sa_cons (se_lenV (pvv 0) (C.free 0 "len")) (sa_cons (se_int) (sa_nil))))) (sa_nil))) (sg_name sc_law.nd) (ss_cons (ss_set sc_law.nd (se_call (takes_of rfl rfl rfl rfl) ((ok__law_parts C).mono (by decide : 4 ≤ 8)) ar_of hr (C.glo 51 "_law_parts") (fun__law_parts C).kp (b__law_parts C) (sa_cons (sv 1) (sa_nil)))) (ss_cons (ss_par sc_law.nd (by decide) (sa_cons (se_call (takes_of rfl rfl rfl rfl) ((ok__law_planned C).mono (by decide : 5 ≤ 8)) ar_of hr (C.glo 50 "_law_planned") (fun__law_planned C).kp (b__law_planned C) (sa_cons (sv 3) (sa_nil))) (sa_cons (se_call (takes_of rfl rfl rfl rfl) ((ok__law_pick C).mono (by decide : 3 ≤ 8)) ar_of hr (C.glo 47 "_law_pick") (fun__law_pick C).kp (b__law_pick C) (sa_cons (sv 1) (sa_cons (se_frz (sn_lst (sa_cons (se_non) (sa_cons (se_int) (sa_cons (se_str) (sa_cons (sv 3) (sa_cons (se_frz (sn_list (x := "list") (C.free 27 "list") (sa_cons (sv 3) (sa_nil)))) (sa_cons (se_frz (sn_disp0)) (sa_cons (se_bl) (sa_cons (se_frz (sn_lst (sa_cons (sv 3) (sa_nil)))) (sa_nil))))))))))) (sa_nil)))) (sa_nil))) (by rfl)) (ss_cons (ss_set sc_law.nd (se_call (takes_of rfl rfl rfl rfl) ((ok__law_pick C).mono (by decide : 3 ≤ 8)) ar_of hr (C.glo 47 "_law_pick") (fun__law_pick C).kp (b__law_pick C) (sa_cons (sv 1) (sa_cons (se_frz (sn_lst (sa_cons (se_non) (sa_cons (se_neg (se_int)) (sa_cons (se_bin ov_add (se_bin ov_pow (se_int) (se_int)) (se_int)) (sa_cons (se_bl) (sa_cons (se_bl) (sa_cons (se_str) (sa_cons (se_tup (sa_cons (se_int) (sa_nil))) (sa_cons (se_frz (sn_lst (sa_nil))) (sa_cons (se_bin ov_pow (se_int) (se_int)) (sa_nil)))))))))))) (sa_nil))))) (ss_cons (ss_set sc_law.nd (se_call (takes_of rfl rfl rfl rfl) ((ok__law_pick C).mono (by decide : 3 ≤ 8)) ar_of hr (C.glo 47 "_law_pick") (fun__law_pick C).kp (b__law_pick C) (sa_cons (sv 1) (sa_cons (se_frz (sn_lst (sa_cons (se_neg (se_int)) (sa_cons (se_int) (sa_cons (se_bl) (sa_cons (se_bl) (sa_cons (se_str) (sa_cons (se_tup (sa_cons (se_int) (sa_nil))) (sa_cons (se_frz (sn_lst (sa_nil))) (sa_cons (se_bin ov_pow (se_int) (se_int)) (sa_nil))))))))))) (sa_nil))))) (ss_cons (ss_set sc_law.nd (se_frz (sn_lst (sa_cons (se_str) (sa_cons (se_str) (sa_nil)))))) (ss_cons (ss_if (sb_not (sb_val (se_callG (takes_of rfl rfl rfl rfl) ((ok__law_plan_right C TB).mono (by decide : 8 ≤ 8)) hA ar_ofC hr (C.glo 44 "_law_plan_right") (fun__law_plan_right C).kp (b__law_plan_right C) (sa_cons (sv 5) (sa_cons (sv 6) (sa_cons (sv 7) (sa_cons (se_frz (sn_lst (sa_cons (sv 8) (sa_cons (sv 8) (sa_cons (sv 8) (sa_cons (sv 8) (sa_nil))))))) (sa_nil)))))))) (ss_one (ss_ret (se_bl))) (ss_nil)) (ss_cons (ss_if (sb_not (sb_val (se_callG (takes_of rfl rfl rfl rfl) ((ok__law_plan_right C TB).mono (by decide : 8 ≤ 8)) hA ar_ofC hr (C.glo 44 "_law_plan_right") (fun__law_plan_right C).kp (b__law_plan_right C) (sa_cons (sv 4) (sa_cons (sv 6) (sa_cons (sv 7) (sa_cons (se_frz (sn_lst (sa_cons (se_frz (sn_lst (sa_cons (se_str) (sa_cons (sv 6) (sa_nil))))) (sa_cons (se_frz (sn_lst (sa_cons (se_str) (sa_cons (sv 7) (sa_nil))))) (sa_cons (se_frz (sn_lst (sa_cons (se_str) (sa_cons (sv 6) (sa_nil))))) (sa_cons (se_frz (sn_lst (sa_nil))) (sa_nil))))))) (sa_nil)))))))) (ss_one (ss_ret (se_bl))) (ss_nil)) (ss_cons (ss_if (sb_not (sb_val (se_callG (takes_of rfl rfl rfl rfl) ((ok__law_plan_right C TB).mono (by decide : 8 ≤ 8)) hA ar_ofC hr (C.glo 44 "_law_plan_right") (fun__law_plan_right C).kp (b__law_plan_right C) (sa_cons (sv 4) (sa_cons (se_int) (sa_cons (sv 7) (sa_cons (se_frz (sn_lst (sa_cons (se_frz (sn_lst (sa_nil))) (sa_cons (se_frz (sn_lst (sa_cons (se_str) (sa_cons (sv 7) (sa_nil))))) (sa_cons (se_frz (sn_lst (sa_cons (se_str) (sa_cons (sv 7) (sa_nil))))) (sa_cons (se_frz (sn_lst (sa_nil))) (sa_nil))))))) (sa_nil)))))))) (ss_one (ss_ret (se_bl))) (ss_nil)) (ss_cons (ss_if (sb_not (sb_val (se_callG (takes_of rfl rfl rfl rfl) ((ok__law_plan_right C TB).mono (by decide : 8 ≤ 8)) hA ar_ofC hr (C.glo 44 "_law_plan_right") (fun__law_plan_right C).kp (b__law_plan_right C) (sa_cons (sv 4) (sa_cons (se_int) (sa_cons (se_non) (sa_cons (se_frz (sn_lst (sa_cons (se_frz (sn_lst (sa_nil))) (sa_cons (se_frz (sn_lst (sa_cons (se_str) (sa_cons (se_non) (sa_nil))))) (sa_cons (se_frz (sn_lst (sa_nil))) (sa_cons (se_frz (sn_lst (sa_nil))) (sa_nil))))))) (sa_nil)))))))) (ss_one (ss_ret (se_bl))) (ss_nil)) (ss_one (ss_if (sb_not (sb_val (se_callG (takes_of rfl rfl rfl rfl) ((ok__law_plan_right C TB).mono (by decide : 8 ≤ 8)) hA ar_ofC hr (C.glo 44 "_law_plan_right") (fun__law_plan_right C).kp (b__law_plan_right C) (sa_cons (sv 4) (sa_cons (se_int) (sa_cons (se_int) (sa_cons (se_frz (sn_lst (sa_cons (se_frz (sn_lst (sa_nil))) (sa_cons (se_frz (sn_lst (sa_nil))) (sa_cons (se_frz (sn_lst (sa_cons (se_str) (sa_cons (se_int) (sa_nil))))) (sa_cons (se_frz (sn_lst (sa_nil))) (sa_nil))))))) (sa_nil)))))))) (ss_one (ss_ret (se_bl))) (ss_nil))))))))))))) (ss_one (ss_ret (se_bl))))
end
end L2.VI.K77
namespace L2.VI.K77
open PySem PySem.Spec PyProof.Rows He L2 L2.VI
/-! ### a month -/
def ow (r b : Int) : Int := b + b * r / 1000
def wan (r s : Int) (p : Bool) (b : Int) : Int := if p = true then b * r / 1000 + b * s / 1000 else ow r b * s / 1000
def mx (i j : Int) : Int := if j > i then j else i
def mn (i j : Int) : Int := if j < i then j else i
/-- what is owed behind a month -/
def nxt (r s l : Int) (p : Bool) (e b : Int) : Int := if ow r b ≤ l then 0 else ow r b - mn (ow r b) (mx l (wan r s p b) + e)
structure Pl (r s l : Int) : Prop where
  r0 : 0 ≤ r
  r1 : r ≤ 1000
  s0 : 0 ≤ s
  s1 : s ≤ 1000
  l0 : 1 ≤ l
  l1 : l ≤ 3000
section
variable {r s l : Int} {p : Bool}
theorem int_mono (h : 0 ≤ r) {b c : Int} (hb : b ≤ c) : b * r / 1000 ≤ c * r / 1000 := Int.ediv_le_ediv (by decide) (Int.mul_le_mul_of_nonneg_right hb h)
theorem int_slow (h : s ≤ 1000) {b c : Int} (hb : b ≤ c) : c * s / 1000 ≤ b * s / 1000 + (c - b) := by
  have h1 : c * s ≤ b * s + (c - b) * 1000 := by
    have : (c - b) * s ≤ (c - b) * 1000 := Int.mul_le_mul_of_nonneg_left h (by omega)
    have e : (c - b) * s = c * s - b * s := Int.sub_mul c b s
    omega
  have h2 : (b * s + (c - b) * 1000) / 1000 = b * s / 1000 + (c - b) := Int.add_mul_ediv_right _ _ (by decide)
  have := Int.ediv_le_ediv (c := 1000) (by decide) h1
  omega
theorem ow_mono (P : Pl r s l) {b c : Int} (hb : b ≤ c) : ow r b ≤ ow r c := by
  have := int_mono P.r0 hb
  unfold ow; omega
theorem ow_ge (P : Pl r s l) {b : Int} (hb : 0 ≤ b) : b ≤ ow r b := by
  have : 0 ≤ b * r / 1000 := Int.ediv_nonneg (Int.mul_nonneg hb P.r0) (by decide)
  unfold ow; omega
/-- owed less what is wanted -/
theorem less_mono (P : Pl r s l) {b c : Int} (hb : b ≤ c) : ow r b - wan r s p b ≤ ow r c - wan r s p c := by
  cases p with
  | true =>
    have := int_slow (s := s) P.s1 hb
    simp only [wan, ow, if_true]; omega
  | false =>
    have := int_slow (s := s) P.s1 (ow_mono P hb)
    simp only [wan, Bool.false_eq_true, if_false]; omega
theorem nxt_nonneg {e b : Int} : 0 ≤ nxt r s l p e b := by
  unfold nxt mn
  split
  · omega
  · split <;> omega
theorem nxt_mono (P : Pl r s l) {e b c : Int} (hb : b ≤ c) : nxt r s l p e b ≤ nxt r s l p e c := by
  have h1 := ow_mono P hb
  have h2 := less_mono (p := p) P hb
  unfold nxt mn mx
  split <;> split <;> (repeat' split) <;> omega
theorem nxt_zero (P : Pl r s l) {e : Int} : nxt r s l p e 0 = 0 := by
  have := P.l0
  have : ow r 0 = 0 := by simp [ow]
  unfold nxt
  rw [this, if_pos (by omega)]
/-- a great payment pays all -/
theorem nxt_all (P : Pl r s l) {e b : Int} (hb : 0 ≤ b) (he : 2 * b ≤ e) : nxt r s l p e b = 0 := by
  have h1 : b * r / 1000 ≤ b := by
    have : b * r ≤ b * 1000 := Int.mul_le_mul_of_nonneg_left P.r1 hb
    omega
  have h2 := P.l0
  unfold nxt mn mx
  split
  · rfl
  · have : ow r b ≤ 2 * b := by unfold ow; omega
    (repeat' split) <;> omega
/-- below the full share it grows without end -/
theorem nxt_far (P : Pl r s l) (hs : s < 1000) {c b : Int} (hc : 0 ≤ c) (hb : 1000 * (c + 1) + l < b) : c < nxt r s l p 0 b := by
  have b0 : 0 ≤ b := by have := P.l0; omega
  have h1 := ow_ge P b0
  have h2 : c + 1 ≤ ow r b - wan r s p b := by
    have key : ∀ x : Int, 0 ≤ x → 1000 * (c + 1) ≤ x → x * s / 1000 ≤ x - (c + 1) := by
      intro x x0 hx
      have h3 : x * s ≤ x * 999 := Int.mul_le_mul_of_nonneg_left (by omega) x0
      omega
    cases p with
    | true =>
      have := key b b0 (by have := P.l0; omega)
      simp only [wan, ow, if_true]; omega
    | false =>
      have := key (ow r b) (by omega) (by have := P.l0; omega)
      simp only [wan, Bool.false_eq_true, if_false]; omega
  have := P.l0
  unfold nxt mn mx
  split
  · omega
  · (repeat' split) <;> omega
end
/-! ### the walk of months -/
/-- the last sum after at most n months; the walk ends at 0 or where nothing is gained -/
def wend (f : Int → Int) : Nat → Int → Int
  | 0, x => x
  | n + 1, x => if x = 0 ∨ x ≤ f x then x else wend f n (f x)
/-- how many months -/
def wlen (f : Int → Int) : Nat → Int → Nat
  | 0, _ => 0
  | n + 1, x => if x = 0 ∨ x ≤ f x then 0 else wlen f n (f x) + 1
section
variable {f : Int → Int}
theorem wend_stop {n : Nat} {x : Int} (h : x = 0 ∨ x ≤ f x) : wend f n x = x := by
  cases n with
  | zero => rfl
  | succ n => unfold wend; rw [if_pos h]
theorem wlen_stop {n : Nat} {x : Int} (h : x = 0 ∨ x ≤ f x) : wlen f n x = 0 := by
  cases n with
  | zero => rfl
  | succ n => unfold wlen; rw [if_pos h]
theorem wend_go {n : Nat} {x : Int} (h : ¬(x = 0 ∨ x ≤ f x)) : wend f (n + 1) x = wend f n (f x) := by
  rw [wend, if_neg h]
theorem wlen_go {n : Nat} {x : Int} (h : ¬(x = 0 ∨ x ≤ f x)) : wlen f (n + 1) x = wlen f n (f x) + 1 := by
  rw [wlen, if_neg h]
/-- enough months: no more change anything -/
theorem wend_big (h0 : ∀ x, 0 ≤ f x) : ∀ (n m : Nat) (x : Int), 0 ≤ x → x.toNat ≤ n → x.toNat ≤ m → wend f n x = wend f m x ∧ wlen f n x = wlen f m x
  | 0, m, x, hx, hn, hm => by
    have : x = 0 := by omega
    rw [wend_stop (.inl this), wend_stop (.inl this), wlen_stop (.inl this), wlen_stop (.inl this)]; exact ⟨rfl, rfl⟩
  | n + 1, 0, x, hx, hn, hm => by
    have : x = 0 := by omega
    rw [wend_stop (.inl this), wend_stop (.inl this), wlen_stop (.inl this), wlen_stop (.inl this)]; exact ⟨rfl, rfl⟩
  | n + 1, m + 1, x, hx, hn, hm => by
    by_cases h : x = 0 ∨ x ≤ f x
    · rw [wend_stop h, wend_stop h, wlen_stop h, wlen_stop h]; exact ⟨rfl, rfl⟩
    · have h1 := h0 x
      have h2 : f x < x := by omega
      obtain ⟨e1, e2⟩ := wend_big h0 n m (f x) h1 (by omega) (by omega)
      rw [wend_go h, wend_go h, wlen_go h, wlen_go h, e1, e2]; exact ⟨rfl, rfl⟩
/-- at 0 after m months: the whole walk ends there, in as many -/
theorem wend_zero (h0 : ∀ x, 0 ≤ f x) : ∀ (m n : Nat) (x : Int), 0 ≤ x → x.toNat ≤ n → (wend f m x = 0 ↔ wend f n x = 0 ∧ wlen f n x ≤ m)
  | m, n, x, hx, hn => by
    by_cases h : x = 0 ∨ x ≤ f x
    · rw [wend_stop h, wend_stop h, wlen_stop h]; exact ⟨fun e => ⟨e, Nat.zero_le _⟩, fun e => e.1⟩
    · have h1 := h0 x
      cases n with
      | zero => exact absurd (Or.inl (by omega)) h
      | succ n =>
        cases m with
        | zero =>
          rw [wlen_go h]
          exact ⟨fun e => absurd (Or.inl e) h, fun e => absurd e.2 (by omega)⟩
        | succ m =>
          rw [wend_go h, wend_go h, wlen_go h, wend_zero h0 m n (f x) h1 (by omega)]
          exact ⟨fun e => ⟨e.1, by omega⟩, fun e => ⟨e.1, by omega⟩⟩
/-- n months with no end ahead of time -/
def itn (f : Int → Int) : Nat → Int → Int
  | 0, x => x
  | n + 1, x => itn f n (f x)
theorem itn_le (hm : ∀ x y, x ≤ y → f x ≤ f y) : ∀ (n : Nat) (x y : Int), x ≤ y → itn f n x ≤ itn f n y
  | 0, _, _, h => h
  | n + 1, x, y, h => itn_le hm n _ _ (hm _ _ h)
theorem itn_up (hm : ∀ x y, x ≤ y → f x ≤ f y) : ∀ (n : Nat) (x : Int), x ≤ f x → x ≤ itn f n x
  | 0, _, _ => Int.le_refl _
  | n + 1, x, h => Int.le_trans (itn_up hm n x h) (itn_le hm n _ _ h)
theorem wend_itn (hz : f 0 = 0) (h0 : ∀ x, 0 ≤ f x) (hm : ∀ x y, x ≤ y → f x ≤ f y) : ∀ (n : Nat) (x : Int), 0 ≤ x → (wend f n x = 0 ↔ itn f n x = 0)
  | 0, x, _ => Iff.rfl
  | n + 1, x, hx => by
    by_cases h : x = 0 ∨ x ≤ f x
    · rw [wend_stop h]
      rcases h with h | h
      · subst h
        have : ∀ n, itn f n 0 = 0 := fun n => by
          induction n with
          | zero => rfl
          | succ n ih => show itn f n (f 0) = 0; rw [hz]; exact ih
        exact ⟨fun _ => this _, fun _ => rfl⟩
      · have := itn_up hm (n + 1) x h
        constructor
        · intro e
          subst e
          have : ∀ n, itn f n 0 = 0 := fun n => by
            induction n with
            | zero => rfl
            | succ n ih => show itn f n (f 0) = 0; rw [hz]; exact ih
          exact this _
        · intro e; omega
    · rw [wend_go h]
      exact wend_itn hz h0 hm n (f x) (h0 x)
/-- the greatest sum that ends at most at c, taken n times -/
def gtn (G : Int → Int) : Nat → Int → Int
  | 0, c => c
  | n + 1, c => gtn G n (G c)
theorem itn_gtn {G : Int → Int} (hG : ∀ c, 0 ≤ c → 0 ≤ G c ∧ ∀ x, 0 ≤ x → (f x ≤ c ↔ x ≤ G c)) (h0 : ∀ x, 0 ≤ f x) : ∀ (n : Nat) (c x : Int), 0 ≤ c → 0 ≤ x → (itn f n x ≤ c ↔ x ≤ gtn G n c) ∧ 0 ≤ gtn G n c := by
  have comm : ∀ (n : Nat) (x : Int), itn f (n + 1) x = f (itn f n x) := by
    intro n
    induction n with
    | zero => intro x; rfl
    | succ n ih => intro x; show itn f (n + 1) (f x) = f (itn f n (f x)); exact ih (f x)
  have pos : ∀ (n : Nat) (x : Int), 0 ≤ x → 0 ≤ itn f n x := by
    intro n
    induction n with
    | zero => intro x h; exact h
    | succ n ih => intro x _; exact ih _ (h0 x)
  intro n
  induction n with
  | zero => intro c x hc hx; exact ⟨Iff.rfl, hc⟩
  | succ n ih =>
    intro c x hc hx
    obtain ⟨g0, g1⟩ := hG c hc
    obtain ⟨i1, i2⟩ := ih (G c) x g0 hx
    refine ⟨?_, i2⟩
    rw [comm, g1 _ (pos n x hx)]
    exact i1
end
/-! ### what the defs compute -/
abbrev isPlan (g : GSt) (k : Nat) (r s l : Int) (p : Bool) : Prop := g.S k = some (.ins "Plan" [("l_parts", .tup [.int r, .int s, .int l, .bl p])])
section
variable {g : GSt} {k : Nat} {r s l : Int} {p : Bool}
theorem sz_le {n : Nat} (h : n ≤ 1000) : n ≤ sizeLine := by rw [sizeLine_eq]; omega
theorem Pl.small (P : Pl r s l) : small64 r ∧ small64 s ∧ small64 l := by
  obtain ⟨h1, h2, h3, h4, h5, h6⟩ := P
  unfold small64; omega
theorem month_ok (P : Pl r s l) (h : isPlan g k r s l p) (b e : Int) : ∃ x y, f_month_with [.ptr k, .int b, .int e] g = .ok (.tup [.int x, .int y, .int (nxt r s l p e b)]) g := by
  obtain ⟨sr, ss, _⟩ := P.small
  have z3 : 3 ≤ sizeLine := sz_le (by omega)
  by_cases h1 : ow r b ≤ l
  · have h2 : b + b * r / 1000 ≤ l := h1
    refine ⟨b * r / 1000, ow r b, ?_⟩
    simp [f_month_with, m_month_with, h, List.lookup, sr, h2, nxt, h1, ow, z3]
  · have h2 : ¬ b + b * r / 1000 ≤ l := h1
    refine ⟨b * r / 1000, mn (ow r b) (mx l (wan r s p b) + e), ?_⟩
    cases p <;> simp [f_month_with, m_month_with, h, List.lookup, sr, ss, h2, nxt, ow, wan, mn, mx, z3]
/-! row_with -/
def rwC : M Bool := isB (bin2 gtD (ixV 3 (negM (M.ret (.int 1)))) (M.ret (.int 0)))
def rwB : M Fl := seqM (M.bind (bin2 ixD (M.bind (consM (getV 0) (consM (ixV 3 (negM (M.ret (.int 1)))) (consM (getV 2) (M.ret [])))) (callF f_month_with)) (M.ret (.int 2))) (setV 4)) (seqM (ifM (isB (bin2 geD (getV 4) (ixV 3 (negM (M.ret (.int 1)))))) (retM (getV 3)) (M.ret .nx)) (exprM (methO 3 "list" fAppend (consM (getV 4) (M.ret [])))))
theorem atI_2 {α : Type} {a b c : α} : atI [a, b, c] 2 = some c := by simp [atI, ixN]
theorem row_loop (P : Pl r s l) (h : isPlan g k r s l p) (ba e : Int) : ∀ (n : Nat) (x : Int) (acc : List D) (lt : Option Slot), 0 ≤ x → x.toNat ≤ n → acc.length + n ≤ 200000 →
    ∃ acc', acc'.length = acc.length + wlen (nxt r s l p e) n x ∧ (seqM (whileM rwC rwB) (retM (getV 3)) ⟨g, [some (.val (.ptr k)), some (.val (.int ba)), some (.val (.int e)), some (.own (.lst (acc ++ [.int x]))), lt]⟩).out = .ok (.lst (acc' ++ [.int (wend (nxt r s l p e) n x)])) g := by
  intro n
  induction n with
  | zero =>
    intro x acc lt hx hn ha
    have x0 : x = 0 := by omega
    subst x0
    refine ⟨acc, rfl, ?_⟩
    rw [seqM_ap, whileM_eq]
    simp [rwC, atI_last, wend]
  | succ n ih =>
    intro x acc lt hx hn ha
    by_cases x0 : x = 0
    · subst x0
      refine ⟨acc, by rw [wlen_stop (.inl rfl)]; rfl, ?_⟩
      rw [seqM_ap, whileM_eq, wend_stop (.inl rfl)]
      simp [rwC, atI_last]
    · obtain ⟨m1, m2, em⟩ := month_ok P h x e
      have xp : 0 < x := by omega
      by_cases hs : x ≤ nxt r s l p e x
      · refine ⟨acc, by rw [wlen_stop (.inr hs)]; rfl, ?_⟩
        rw [seqM_ap, whileM_eq, wend_stop (.inr hs)]
        simp [rwC, rwB, atI_last, xp, turnM, em, atI_2, hs]
      · have hgo : ¬(x = 0 ∨ x ≤ nxt r s l p e x) := fun z => z.elim x0 hs
        have n0 : 0 ≤ nxt r s l p e x := nxt_nonneg
        obtain ⟨acc', e1, e3⟩ := ih (nxt r s l p e x) (acc ++ [.int x]) (some (.val (.int (nxt r s l p e x)))) n0 (by omega) (by simp; omega)
        refine ⟨acc', by rw [wlen_go hgo, e1]; simp; omega, ?_⟩
        rw [seqM_ap] at e3
        rw [seqM_ap, whileM_eq, wend_go hgo, ← e3]
        have sz : acc.length + 1 < sizeLine := by rw [sizeLine_eq]; omega
        simp [rwC, rwB, atI_last, xp, turnM, em, atI_2, hs, sz]
theorem row_ok (P : Pl r s l) (h : isPlan g k r s l p) {b e : Int} (hb : 0 ≤ b) (hb2 : b ≤ 100000) : ∃ acc : List D, acc.length = wlen (nxt r s l p e) b.toNat b ∧ f_row_with [.ptr k, .int b, .int e] g = .ok (.lst (acc ++ [.int (wend (nxt r s l p e) b.toNat b)])) g := by
  obtain ⟨acc, e1, e3⟩ := row_loop P h b e b.toNat b [] none hb (Nat.le_refl _) (by simp; omega)
  refine ⟨acc, by simpa using e1, ?_⟩
  have sz : 1 ≤ sizeLine := sz_le (by omega)
  simp only [rwC, rwB, seqM_ap, List.nil_append] at e3
  simp [f_row_with, m_row_with, sz, e3]
/-! is_enough, the law's walk -/
def moD : Option Int → D
  | none => .non
  | some m => .int m
/-- the debt is paid, within the months if told -/
def enough (f : Int → Int) (b : Int) (mo : Option Int) : Bool := decide (wend f b.toNat b = 0) && (match mo with
  | none => true
  | some m => decide ((wlen f b.toNat b : Int) ≤ m))
theorem enough_ok (P : Pl r s l) (h : isPlan g k r s l p) {b e : Int} (hb : 0 ≤ b) (hb2 : b ≤ 100000) (mo : Option Int) : f_is_enough [.ptr k, .int b, moD mo, .int e] g = .ok (.bl (enough (nxt r s l p e) b mo)) g := by
  obtain ⟨acc, e1, e2⟩ := row_ok P h (e := e) hb hb2
  by_cases hw : wend (nxt r s l p e) b.toNat b = 0
  · rw [hw] at e2
    cases mo with
    | none => simp [f_is_enough, m_is_enough, e2, atI_last, moD, enough, hw]
    | some m => simp [f_is_enough, m_is_enough, e2, atI_last, moD, enough, hw, e1]
  · simp [f_is_enough, m_is_enough, e2, atI_last, moD, enough, hw]
theorem rngL_length {lo : Int} {n : Nat} : (rngL lo n).length = n := by simp [rngL]
/-! least_extra -/
theorem isnum_ok (v : Int) : f_is_number [.int v] g = .ok (.bl true) g := by simp [f_is_number, m_is_number]
theorem isnumin_ok {v lo hi : Int} (h1 : lo ≤ v) (h2 : v ≤ hi) : f_is_number_in [.int v, .int lo, .int hi] g = .ok (.bl true) g := by
  simp [f_is_number_in, m_is_number_in, isnum_ok, chainD_ap, h1, h2]
theorem needplan_ok (h : isPlan g k r s l p) : f_need_plan [.ptr k] g = .ok .non g := by
  simp [f_need_plan, m_need_plan, tyD, h, List.lookup]
theorem needbal_ok (h : isPlan g k r s l p) {b : Int} (hb : 0 ≤ b) (hb2 : b ≤ 100000) : f_need_balance [.ptr k, .int b] g = .ok .non g := by
  simp [f_need_balance, m_need_balance, needplan_ok h, isnumin_ok hb hb2]
def leC : M Bool := isB (bin2 gtD (bin2 subD (getV 4) (getV 3)) (M.ret (.int 1)))
noncomputable def leB : M Fl := seqM (M.bind (bin2 fdivD (bin2 addD (getV 3) (getV 4)) (M.ret (.int 2))) (setV 5)) (ifM (isB (M.bind (consM (getV 0) (consM (getV 1) (consM (getV 2) (consM (getV 5) (M.ret []))))) (callF f_is_enough))) (M.bind (getV 5) (setV 4)) (M.bind (getV 5) (setV 3)))
theorem least_loop (P : Pl r s l) (h : isPlan g k r s l p) {b : Int} (hb : 0 ≤ b) (hb2 : b ≤ 100000) (mo : Option Int) : ∀ (n : Nat) (lo hi : Int) (t5 : Option Slot), lo < hi → (hi - lo).toNat ≤ n → enough (nxt r s l p lo) b mo = false → enough (nxt r s l p hi) b mo = true →
    ∃ v, (seqM (whileM leC leB) (retM (getV 4)) ⟨g, [some (.val (.ptr k)), some (.val (.int b)), some (.val (moD mo)), some (.val (.int lo)), some (.val (.int hi)), t5]⟩).out = .ok (.int v) g ∧ lo < v ∧ enough (nxt r s l p v) b mo = true ∧ enough (nxt r s l p (v - 1)) b mo = false := by
  intro n
  induction n with
  | zero => intro lo hi t5 h1 h2; omega
  | succ n ih =>
    intro lo hi t5 h1 h2 h3 h4
    by_cases hd : 1 < hi - lo
    · have hm := enough_ok P h (e := (lo + hi) / 2) hb hb2 mo
      cases hc : enough (nxt r s l p ((lo + hi) / 2)) b mo with
      | true =>
        rw [hc] at hm
        obtain ⟨v, e1, e2⟩ := ih lo ((lo + hi) / 2) (some (.val (.int ((lo + hi) / 2)))) (by omega) (by omega) h3 hc
        refine ⟨v, ?_, e2⟩
        rw [seqM_ap] at e1
        rw [seqM_ap, whileM_eq, ← e1]
        simp [leC, leB, hd, turnM, hm]
      | false =>
        rw [hc] at hm
        obtain ⟨v, e1, e2, e3⟩ := ih ((lo + hi) / 2) hi (some (.val (.int ((lo + hi) / 2)))) (by omega) (by omega) hc h4
        refine ⟨v, ?_, by omega, e3⟩
        rw [seqM_ap] at e1
        rw [seqM_ap, whileM_eq, ← e1]
        simp [leC, leB, hd, turnM, hm]
    · have e : lo = hi - 1 := by omega
      refine ⟨hi, ?_, h1, h4, by rw [← e]; exact h3⟩
      rw [seqM_ap, whileM_eq]
      simp [leC, hd]
theorem least_ok (P : Pl r s l) (h : isPlan g k r s l p) {b : Int} (hb : 0 ≤ b) (hb2 : b ≤ 100000) (mo : Option Int) (hm : ∀ m, mo = some m → 1 ≤ m ∧ m ≤ 100) :
    ∃ v, f_least_extra [.ptr k, .int b, moD mo] g = .ok (.int v) g ∧ 0 ≤ v ∧ enough (nxt r s l p v) b mo = true ∧ (v = 0 ∨ enough (nxt r s l p (v - 1)) b mo = false) := by
  have e0 := enough_ok P h (e := 0) hb hb2 mo
  have hmo : ∀ k : M Fl, (seqM (ifM (andB (isB (bin2 notND (getV 2) (M.ret .non))) (notB (isB (M.bind (consM (getV 2) (consM (M.ret (.int 1)) (consM (M.ret (.int 100)) (M.ret [])))) (callF f_is_number_in))))) (raiseS "BadNumber" "number" (consM (getV 2) (M.ret []))) (M.ret .nx)) k ⟨g, [some (.val (.ptr ‹Nat›)), some (.val (.int b)), some (.val (moD mo)), none, none, none]⟩) = k ⟨g, [some (.val (.ptr ‹Nat›)), some (.val (.int b)), some (.val (moD mo)), none, none, none]⟩ := by
    intro kk
    cases mo with
    | none => simp [moD]
    | some m =>
      obtain ⟨h1, h2⟩ := hm m rfl
      simp [moD, isnumin_ok h1 h2]
  cases hc : enough (nxt r s l p 0) b mo with
  | true =>
    rw [hc] at e0
    refine ⟨0, ?_, Int.le_refl _, hc, .inl rfl⟩
    simp [f_least_extra, m_least_extra, needbal_ok h hb hb2]
    simp at hmo
    rw [hmo]
    simp [e0]
  | false =>
    rw [hc] at e0
    have b0 : 0 < b := by
      by_cases hz : b = 0
      · subst hz
        have : enough (nxt r s l p 0) 0 mo = true := by
          cases mo with
          | none => rfl
          | some m =>
            have := hm m rfl
            simp [enough, wend, wlen]; omega
        rw [this] at hc; cases hc
      · omega
    have hall : enough (nxt r s l p (2 * b)) b mo = true := by
      have z := nxt_all (p := p) P hb (Int.le_refl (2 * b))
      have hgo : ¬(b = 0 ∨ b ≤ nxt r s l p (2 * b) b) := by rw [z]; omega
      obtain ⟨n, hn⟩ : ∃ n, b.toNat = n + 1 := ⟨b.toNat - 1, by omega⟩
      have e1 : wend (nxt r s l p (2 * b)) b.toNat b = 0 := by rw [hn, wend_go hgo, z, wend_stop (.inl rfl)]
      have e2 : wlen (nxt r s l p (2 * b)) b.toNat b = 1 := by rw [hn, wlen_go hgo, z, wlen_stop (.inl rfl)]
      cases mo with
      | none => simp [enough, e1]
      | some m =>
        have := hm m rfl
        simp [enough, e1, e2]; omega
    obtain ⟨v, e1, e2, e3, e4⟩ := least_loop P h hb hb2 mo (2 * b).toNat 0 (2 * b) none (by omega) (by omega) hc hall
    refine ⟨v, ?_, by omega, e3, .inr e4⟩
    have s2 : small64 2 := by decide
    simp only [leC, leB, seqM_ap] at e1
    simp [f_least_extra, m_least_extra, needbal_ok h hb hb2]
    simp at hmo
    rw [hmo]
    simp [e0, s2, e1]
/-! greatest_to -/
/-- v: the greatest sum that ends at most at c -/
def Gr (f : Int → Int) (c v : Int) : Prop := 0 ≤ v ∧ ∀ x, 0 ≤ x → (f x ≤ c ↔ x ≤ v)
def gC : M Bool := isB (bin2 leD (bin2 ixD (M.bind (consM (getV 0) (consM (getV 3) (consM (M.ret (.int 0)) (M.ret [])))) (callF f_month_with)) (M.ret (.int 2))) (getV 1))
def gB : M Fl := set2 2 3 (consM (getV 3) (consM (bin2 mulD (M.ret (.int 2)) (getV 3)) (M.ret [])))
def hC : M Bool := isB (bin2 gtD (bin2 subD (getV 3) (getV 2)) (M.ret (.int 1)))
def hB : M Fl := seqM (M.bind (bin2 fdivD (bin2 addD (getV 2) (getV 3)) (M.ret (.int 2))) (setV 4)) (ifM (isB (bin2 leD (bin2 ixD (M.bind (consM (getV 0) (consM (getV 4) (consM (M.ret (.int 0)) (M.ret [])))) (callF f_month_with)) (M.ret (.int 2))) (getV 1))) (M.bind (getV 4) (setV 2)) (M.bind (getV 4) (setV 3)))
theorem half_loop (P : Pl r s l) (h : isPlan g k r s l p) (c : Int) : ∀ (n : Nat) (lo hi : Int) (t4 : Option Slot), 0 ≤ lo → lo < hi → (hi - lo).toNat ≤ n → nxt r s l p 0 lo ≤ c → c < nxt r s l p 0 hi →
    ∃ v, (seqM (whileM hC hB) (retM (getV 2)) ⟨g, [some (.val (.ptr k)), some (.val (.int c)), some (.val (.int lo)), some (.val (.int hi)), t4]⟩).out = .ok (.int v) g ∧ Gr (nxt r s l p 0) c v := by
  intro n
  induction n with
  | zero => intro lo hi t4 h0 h1 h2; omega
  | succ n ih =>
    intro lo hi t4 h0 h1 h2 h3 h4
    by_cases hd : 1 < hi - lo
    · obtain ⟨m1, m2, em⟩ := month_ok P h ((lo + hi) / 2) 0
      by_cases hc : nxt r s l p 0 ((lo + hi) / 2) ≤ c
      · obtain ⟨v, e1, e2⟩ := ih ((lo + hi) / 2) hi (some (.val (.int ((lo + hi) / 2)))) (by omega) (by omega) (by omega) hc h4
        refine ⟨v, ?_, e2⟩
        rw [seqM_ap] at e1
        rw [seqM_ap, whileM_eq, ← e1]
        simp [hC, hB, hd, turnM, em, atI_2, hc]
      · obtain ⟨v, e1, e2⟩ := ih lo ((lo + hi) / 2) (some (.val (.int ((lo + hi) / 2)))) h0 (by omega) (by omega) h3 (by omega)
        refine ⟨v, ?_, e2⟩
        rw [seqM_ap] at e1
        rw [seqM_ap, whileM_eq, ← e1]
        simp [hC, hB, hd, turnM, em, atI_2, hc]
    · have e : hi = lo + 1 := by omega
      refine ⟨lo, ?_, h0, fun x hx => ⟨fun hf => ?_, fun hf => Int.le_trans (nxt_mono P hf) h3⟩⟩
      · rw [seqM_ap, whileM_eq]
        simp [hC, hd]
      · by_cases hxl : x ≤ lo
        · exact hxl
        · have := nxt_mono (p := p) (e := 0) P (show hi ≤ x by omega)
          omega
theorem up_loop (P : Pl r s l) (hs : s < 1000) (h : isPlan g k r s l p) {c : Int} (hc : 0 ≤ c) (rest : M Fl) (Q : R Fl → Prop) (hr : ∀ lo hi t4, 0 ≤ lo → lo < hi → c < nxt r s l p 0 hi → Q (rest ⟨g, [some (.val (.ptr k)), some (.val (.int c)), some (.val (.int lo)), some (.val (.int hi)), t4]⟩)) :
    ∀ (n : Nat) (lo hi : Int) (t4 : Option Slot), 0 ≤ lo → lo < hi → (1000 * (c + 1) + l + 1 - hi).toNat ≤ n → Q (seqM (whileM gC gB) rest ⟨g, [some (.val (.ptr k)), some (.val (.int c)), some (.val (.int lo)), some (.val (.int hi)), t4]⟩) := by
  have s2 : small64 2 := by decide
  have z : ∀ hi, 1000 * (c + 1) + l < hi → ¬ nxt r s l p 0 hi ≤ c := fun hi h => by have := nxt_far (p := p) P hs hc h; omega
  have stop : ∀ (lo hi : Int) (t4 : Option Slot), 0 ≤ lo → lo < hi → ¬ nxt r s l p 0 hi ≤ c → Q (seqM (whileM gC gB) rest ⟨g, [some (.val (.ptr k)), some (.val (.int c)), some (.val (.int lo)), some (.val (.int hi)), t4]⟩) := by
    intro lo hi t4 h0 h1 h2
    obtain ⟨m1, m2, em⟩ := month_ok P h hi 0
    have := hr lo hi t4 h0 h1 (by omega)
    rw [seqM_ap, whileM_eq]
    simpa [gC, em, atI_2, h2] using this
  intro n
  induction n with
  | zero => intro lo hi t4 h0 h1 h2; exact stop lo hi t4 h0 h1 (z hi (by omega))
  | succ n ih =>
    intro lo hi t4 h0 h1 h2
    by_cases hn : nxt r s l p 0 hi ≤ c
    · obtain ⟨m1, m2, em⟩ := month_ok P h hi 0
      have hle : hi ≤ 1000 * (c + 1) + l := by
        by_cases hz : 1000 * (c + 1) + l < hi
        · exact absurd hn (z hi hz)
        · omega
      have e1 := ih hi (2 * hi) t4 (by omega) (by omega) (by omega)
      rw [seqM_ap] at e1
      rw [seqM_ap, whileM_eq]
      simpa [gC, gB, em, atI_2, hn, turnM, s2] using e1
    · exact stop lo hi t4 h0 h1 hn
theorem greatest_ok (P : Pl r s l) (hs : s < 1000) (h : isPlan g k r s l p) {c : Int} (hc : 0 ≤ c) : ∃ v, f_greatest_to [.ptr k, .int c] g = .ok (.int v) g ∧ Gr (nxt r s l p 0) c v := by
  have key := up_loop P hs h hc (seqM (ifM (isB (bin2 gtD (bin2 ixD (M.bind (consM (getV 0) (consM (getV 2) (consM (M.ret (.int 0)) (M.ret [])))) (callF f_month_with)) (M.ret (.int 2))) (getV 1))) (set2 2 3 (consM (M.ret (.int 0)) (consM (getV 2) (M.ret [])))) (M.ret .nx)) (seqM (whileM hC hB) (retM (getV 2))))
    (fun R => ∃ v, R.out = .ok (.int v) g ∧ Gr (nxt r s l p 0) c v) (fun lo hi t4 h0 h1 h2 => by
      obtain ⟨m1, m2, em⟩ := month_ok P h lo 0
      by_cases hl : c < nxt r s l p 0 lo
      · have lp : 0 < lo := by
          by_cases hz : lo = 0
          · subst hz; rw [nxt_zero P] at hl; omega
          · omega
        obtain ⟨v, e1, e2⟩ := half_loop P h c lo.toNat 0 lo t4 (Int.le_refl _) lp (by omega) (by rw [nxt_zero P]; exact hc) hl
        refine ⟨v, ?_, e2⟩
        rw [seqM_ap] at e1
        rw [← e1]
        simp [em, atI_2, hl]
      · obtain ⟨v, e1, e2⟩ := half_loop P h c (hi - lo).toNat lo hi t4 h0 h1 (Nat.le_refl _) (by omega) h2
        refine ⟨v, ?_, e2⟩
        rw [seqM_ap] at e1
        rw [← e1]
        simp [em, atI_2, hl]) _ c (c + 1) none hc (by omega) (Nat.le_refl _)
  obtain ⟨v, e1, e2⟩ := key
  refine ⟨v, ?_, e2⟩
  simp only [gC, gB, hC, hB, seqM_ap] at e1
  simp [f_greatest_to, m_greatest_to, e1]
/-! most_within -/
noncomputable def mwB : M Fl := M.bind (M.bind (consM (getV 0) (consM (getV 2) (M.ret []))) (callF f_greatest_to)) (setV 2)
theorem itn_pos {f : Int → Int} (h0 : ∀ x, 0 ≤ f x) : ∀ (n : Nat) (x : Int), 0 ≤ x → 0 ≤ itn f n x
  | 0, _, h => h
  | n + 1, x, _ => itn_pos h0 n _ (h0 x)
theorem itn_last {f : Int → Int} : ∀ (n : Nat) (x : Int), itn f (n + 1) x = f (itn f n x)
  | 0, _ => rfl
  | n + 1, x => itn_last n (f x)
theorem gr_le (P : Pl r s l) (hs : s < 1000) {c v : Int} (hc : 0 ≤ c) (h : Gr (nxt r s l p 0) c v) : v + 1 ≤ 4096 * (c + 1) := by
  have h1 := (h.2 v h.1).mpr (Int.le_refl _)
  have h2 := P.l1
  by_cases hz : 1000 * (c + 1) + l < v
  · have := nxt_far (p := p) P hs hc hz; omega
  · omega
theorem most_loop (P : Pl r s l) (hs : s < 1000) (h : isPlan g k r s l p) (t1 : Option Slot) : ∀ (ds : List D) (c : Int) (t3 : Option Slot), 0 ≤ c →
    ∃ v t3', forL (gSet 3) mwB ds ⟨g, [some (.val (.ptr k)), t1, some (.val (.int c)), t3]⟩ = .ok .nx ⟨g, [some (.val (.ptr k)), t1, some (.val (.int v)), t3']⟩ ∧ 0 ≤ v ∧ (∀ x, 0 ≤ x → (itn (nxt r s l p 0) ds.length x ≤ c ↔ x ≤ v)) ∧ v + 1 ≤ 4096 ^ ds.length * (c + 1) := by
  intro ds
  induction ds with
  | nil => intro c t3 hc; exact ⟨c, t3, rfl, hc, fun x hx => Iff.rfl, by simp⟩
  | cons d ds ih =>
    intro c t3 hc
    obtain ⟨v1, e1, g1⟩ := greatest_ok P hs h hc
    obtain ⟨v, t3', e2, v0, hv, hb⟩ := ih v1 (some (.val d)) g1.1
    refine ⟨v, t3', ?_, v0, fun x hx => ?_, ?_⟩
    · rw [← e2]
      simp [forL, mwB, turnM, e1]
    · rw [List.length_cons, itn_last, g1.2 _ (itn_pos (fun x => nxt_nonneg) _ _ hx)]
      exact hv x hx
    · have h1 := gr_le P hs hc g1
      have h2 : (4096 : Int) ^ ds.length * (v1 + 1) ≤ 4096 ^ ds.length * (4096 * (c + 1)) := Int.mul_le_mul_of_nonneg_left h1 (Int.le_of_lt (Int.pow_pos (by decide)))
      have h3 : (4096 : Int) ^ (d :: ds).length * (c + 1) = 4096 ^ ds.length * (4096 * (c + 1)) := by rw [List.length_cons, Int.pow_succ, Int.mul_assoc]
      omega
theorem share_ok (h : isPlan g k r s l p) : f_Plan_share [.ptr k] g = .ok (.int s) g := by
  simp [f_Plan_share, m_Plan_share, h, List.lookup, atI, ixN]
theorem most_ok (P : Pl r s l) (h : isPlan g k r s l p) {m : Int} (hm : 0 ≤ m) (hm2 : m ≤ 100) (hs : m = 0 ∨ s < 1000) :
    ∃ v, f_most_within [.ptr k, .int m] g = .ok (.int v) g ∧ 0 ≤ v ∧ (∀ x, 0 ≤ x → (itn (nxt r s l p 0) m.toNat x ≤ 0 ↔ x ≤ v)) ∧ v.natAbs.log2 < 1920 := by
  have c1 : -4611686018427387904 ≤ m := by omega
  have c2 : m < 4611686018427387904 := by omega
  by_cases hz : m = 0
  · subst hz
    refine ⟨0, ?_, Int.le_refl _, fun x hx => Iff.rfl, by decide⟩
    simp [f_most_within, m_most_within, needplan_ok h, isnumin_ok (g := g) (v := 0) (lo := 0) (hi := 100) (by decide) (by decide), rngL, forL]
  · have hs' := hs.resolve_left hz
    obtain ⟨v, t3, e1, v0, hv, hb⟩ := most_loop P hs' h (some (.val (.int m))) (rngL 0 m.toNat) 0 none (Int.le_refl _)
    rw [rngL_length] at hv hb
    refine ⟨v, ?_, v0, hv, ?_⟩
    · have hp : 0 < m := by omega
      have ns : ¬ s = 1000 := by omega
      simp only [mwB] at e1
      simp [f_most_within, m_most_within, needplan_ok h, isnumin_ok (g := g) hm hm2, hp, isIns, h, share_ok h, ns, c1, c2, e1]
    · have h1 : (4096 : Int) ^ m.toNat * (0 + 1) ≤ 4096 ^ 100 := by
        rw [Int.zero_add, Int.mul_one]
        have : (4096 : Nat) ^ m.toNat ≤ 4096 ^ 100 := Nat.pow_le_pow_right (by decide) (by omega)
        exact_mod_cast this
      have h2 : v.natAbs < 2 ^ 1920 := by
        have h4 : (4096 : Int) ^ 100 ≤ 2 ^ 1920 := by decide +kernel
        have h5 : v < 2 ^ 1920 := by omega
        have h6 : ((v.natAbs : Nat) : Int) < ((2 ^ 1920 : Nat) : Int) := by
          rw [Int.natAbs_of_nonneg v0]
          exact_mod_cast h5
        exact_mod_cast h6
      by_cases hv0 : v.natAbs = 0
      · rw [hv0]; decide
      · exact (Nat.log2_lt hv0).mpr h2
theorem most_none (h : isPlan g k r s l p) {m : Int} (hm : 0 < m) (hm2 : m ≤ 100) (hs : s = 1000) : f_most_within [.ptr k, .int m] g = .ok .non g := by
  simp [f_most_within, m_most_within, needplan_ok h, isnumin_ok (g := g) (show 0 ≤ m by omega) hm2, hm, isIns, h, share_ok h, hs]
/-! the draws are the laws' own -/
theorem e_take : f__law_take = H.f__law_take := rfl
theorem e_pick : f__law_pick = H.f__law_pick := rfl
theorem e_begun : f__law_begun = H.f__law_begun := rfl
/-! a plan is made -/
def plO (r s l : Int) (p : Bool) : SO := .ins "Plan" [("l_parts", .tup [.int r, .int s, .int l, .bl p])]
def plG (g : GSt) (r s l : Int) (p : Bool) : GSt := (g.new (.ins "Plan" [])).put g.nx (plO r s l p)
theorem plG_at : isPlan (plG g r s l p) g.nx r s l p := put_same
theorem plG_ne {j : Nat} (h : j ≠ g.nx) : (plG g r s l p).S j = g.S j := by
  unfold plG
  rw [put_ne h]
  exact if_neg h
theorem plG_nx : (plG g r s l p).nx = g.nx + 1 := rfl
theorem init_ok (P : Pl r s l) {j : Nat} (h : g.S j = some (.ins "Plan" [])) : f_Plan_init [.ptr j, .int r, .int s, .int l, .bl p] g = .ok .non (g.put j (plO r s l p)) := by
  have z4 : 4 ≤ sizeLine := sz_le (by omega)
  simp [f_Plan_init, m_Plan_init, isnumin_ok (g := g) P.r0 P.r1, isnumin_ok (g := g) P.s0 P.s1, isnumin_ok (g := g) P.l0 (show l ≤ 1000000 by have := P.l1; omega), z4, h, dputF, plO]
theorem planned_ok (P : Pl r s l) : f__law_planned [.tup [.int r, .int s, .int l, .bl p]] g = .ok (.ptr g.nx) (plG g r s l p) := by
  have a0 : atI [D.int r, D.int s, D.int l, D.bl p] 0 = some (.int r) := by simp [atI, ixN]
  have a1 : atI [D.int r, D.int s, D.int l, D.bl p] 1 = some (.int s) := by simp [atI, ixN]
  have a2 : atI [D.int r, D.int s, D.int l, D.bl p] 2 = some (.int l) := by simp [atI, ixN]
  have a3 : atI [D.int r, D.int s, D.int l, D.bl p] 3 = some (.bl p) := by simp [atI, ixN]
  have e := init_ok (g := g.new (.ins "Plan" [])) (p := p) P (j := g.nx) (if_pos rfl)
  simp [f__law_planned, m__law_planned, a0, a1, a2, a3, kperm, e, plG]
theorem stok_pl {ks kl : Nat} {n : Int} (h : StOk g ks kl n) (h1 : ks < g.nx) (h2 : kl < g.nx) : StOk (plG g r s l p) ks kl n := by
  obtain ⟨ne, L, cells, rest, turn, a, b, c, d⟩ := h
  exact ⟨ne, L, cells, rest, turn, a, b, by rw [plG_ne (by omega)]; exact c, by rw [plG_ne (by omega)]; exact d⟩
theorem isPlan_fr {g' : GSt} {ks kl : Nat} (h : isPlan g k r s l p) (f : Fr g g' ks kl) (h1 : k ≠ ks) (h2 : k ≠ kl) : isPlan g' k r s l p := (f.eq k h1 h2).trans h
/-! the plan that asks 1 a month -/
theorem stok_le {ks kl : Nat} {n m : Int} (h : StOk g ks kl n) (hm : n ≤ m) : StOk g ks kl m := by
  obtain ⟨ne, L, cells, rest, turn, a, b, c, d⟩ := h
  exact ⟨ne, L, cells, rest, turn, a, by omega, c, d⟩
theorem parts_ok {ks kl : Nat} {n : Int} (h : StOk g ks kl n) (hn : n < 1000000) : ∃ r s l p g', f__law_parts [.ptr ks] g = .ok (.tup [.int r, .int s, .int l, .bl p]) g' ∧ Pl r s l ∧ StOk g' ks kl (n + 10) ∧ Fr g g' ks kl := by
  obtain ⟨a1, g1, e1, x1, y1, s1, f1⟩ := take_ok (m := 60) h (by omega) (by decide) (by decide)
  obtain ⟨a2, g2, e2, x2, y2, s2, f2⟩ := take_ok (m := 1001) s1 (by omega) (by decide) (by decide)
  obtain ⟨d3, g3, e3, x3, s3, f3⟩ := pick_ok s2 (by omega) (ds := [.int 0, .int 1, .int 5, .int 15, .int 20, .int 100, .int 999, .int 1000, .int a1, .int a2]) (by simp) (by simp)
  obtain ⟨r, rfl, r0, r1⟩ : ∃ r, d3 = .int r ∧ 0 ≤ r ∧ r ≤ 1000 := by
    simp only [List.mem_cons, List.not_mem_nil, or_false] at x3
    rcases x3 with h | h | h | h | h | h | h | h | h | h <;> exact ⟨_, h, by omega, by omega⟩
  obtain ⟨b1, g4, e4, x4, y4, s4, f4⟩ := take_ok (m := 60) s3 (by omega) (by decide) (by decide)
  obtain ⟨b2, g5, e5, x5, y5, s5, f5⟩ := take_ok (m := 1001) s4 (by omega) (by decide) (by decide)
  obtain ⟨d6, g6, e6, x6, s6, f6⟩ := pick_ok s5 (by omega) (ds := [.int 0, .int 1, .int 10, .int 20, .int 30, .int 500, .int 999, .int 1000, .int b1, .int b2]) (by simp) (by simp)
  obtain ⟨s, rfl, s0, s1'⟩ : ∃ r, d6 = .int r ∧ 0 ≤ r ∧ r ≤ 1000 := by
    simp only [List.mem_cons, List.not_mem_nil, or_false] at x6
    rcases x6 with h | h | h | h | h | h | h | h | h | h <;> exact ⟨_, h, by omega, by omega⟩
  obtain ⟨c1, g7, e7, x7, y7, s7, f7⟩ := take_ok (m := 100) s6 (by omega) (by decide) (by decide)
  obtain ⟨c2, g8, e8, x8, y8, s8, f8⟩ := take_ok (m := 3000) s7 (by omega) (by decide) (by decide)
  obtain ⟨d9, g9, e9, x9, s9, f9⟩ := pick_ok s8 (by omega) (ds := [.int 1, .int 1, .int 2, .int 3, .int 10, .int 25, .int (1 + c1), .int (1 + c2)]) (by simp) (by simp)
  obtain ⟨l, rfl, l0, l1⟩ : ∃ r, d9 = .int r ∧ 1 ≤ r ∧ r ≤ 3000 := by
    simp only [List.mem_cons, List.not_mem_nil, or_false] at x9
    rcases x9 with h | h | h | h | h | h | h | h <;> exact ⟨_, h, by omega, by omega⟩
  obtain ⟨q, g10, e10, x10, y10, s10, f10⟩ := take_ok (m := 3) s9 (by omega) (by decide) (by decide)
  refine ⟨r, s, l, decide (q = 0), g10, ?_, ⟨r0, r1, s0, s1', l0, l1⟩, stok_le s10 (by omega), ((((((((f1.trans f2).trans f3).trans f4).trans f5).trans f6).trans f7).trans f8).trans f9).trans f10⟩
  have z10 : 10 ≤ sizeLine := sz_le (by omega)
  have z8 : 8 ≤ sizeLine := sz_le (by omega)
  have z4 : 4 ≤ sizeLine := sz_le (by omega)
  simp [f__law_parts, m__law_parts, e_take, e_pick, e1, e2, e3, e4, e5, e6, e7, e8, e9, e10, z10, z8, z4]
/-! the law -/
end
end L2.VI.K77
namespace L2.VI.K77
open PySem PySem.Spec PyProof.Rows He L2 L2.VI
section
variable {g : GSt} {k : Nat} {r s l : Int} {p : Bool}
/-- no number within these bounds -/
abbrev Bad (g : GSt) (lo hi : Int) (d : D) : Prop := f_is_number_in [d, .int lo, .int hi] g = .ok (.bl false) g
/-- no plan -/
abbrev NoPl (g : GSt) (o : D) : Prop := f_need_plan [o] g = .exc ⟨"BadPlan", [("part", .str "plan")]⟩ g
abbrev xp : EX := ⟨"BadPlan", [("part", .str "plan")]⟩
abbrev xn (d : D) : EX := ⟨"BadNumber", [("number", d)]⟩
theorem bad_int {lo hi i : Int} (h : i < lo ∨ hi < i) : Bad g lo hi (.int i) := by
  by_cases h1 : lo ≤ i
  · have h2 : ¬ i ≤ hi := by omega
    simp [Bad, f_is_number_in, m_is_number_in, isnum_ok, h1, h2, chainD]
  · simp [Bad, f_is_number_in, m_is_number_in, isnum_ok, h1, chainD]
theorem bad_non {lo hi : Int} : Bad g lo hi .non := by simp [Bad, f_is_number_in, m_is_number_in, f_is_number, m_is_number, tyD]
theorem bad_bl {lo hi : Int} {c : Bool} : Bad g lo hi (.bl c) := by simp [Bad, f_is_number_in, m_is_number_in, f_is_number, m_is_number, tyD]
theorem bad_str {lo hi : Int} {c : Str} : Bad g lo hi (.str c) := by simp [Bad, f_is_number_in, m_is_number_in, f_is_number, m_is_number, tyD]
theorem bad_tup {lo hi : Int} {c : List D} : Bad g lo hi (.tup c) := by simp [Bad, f_is_number_in, m_is_number_in, f_is_number, m_is_number, tyD]
theorem bad_lst {lo hi : Int} {c : List D} : Bad g lo hi (.lst c) := by simp [Bad, f_is_number_in, m_is_number_in, f_is_number, m_is_number, tyD]
theorem no_non : NoPl g .non := by simp [NoPl, f_need_plan, m_need_plan, tyD, raiseS]
theorem no_int {i : Int} : NoPl g (.int i) := by simp [NoPl, f_need_plan, m_need_plan, tyD, raiseS]
theorem no_bl {i : Bool} : NoPl g (.bl i) := by simp [NoPl, f_need_plan, m_need_plan, tyD, raiseS]
theorem no_str {i : Str} : NoPl g (.str i) := by simp [NoPl, f_need_plan, m_need_plan, tyD, raiseS]
theorem no_tup {i : List D} : NoPl g (.tup i) := by simp [NoPl, f_need_plan, m_need_plan, tyD, raiseS]
theorem no_lst {i : List D} : NoPl g (.lst i) := by simp [NoPl, f_need_plan, m_need_plan, tyD, raiseS]
theorem no_dic {i : List (Key × D)} : NoPl g (.dic i) := by simp [NoPl, f_need_plan, m_need_plan, tyD, raiseS]
theorem bal_odd {o d : D} (h : NoPl g o) : f_need_balance [o, d] g = .exc xp g := by
  simp only [NoPl] at h
  simp [f_need_balance, m_need_balance, h]
theorem bal_bad (h : isPlan g k r s l p) {d : D} (hd : Bad g 0 100000 d) : f_need_balance [.ptr k, d] g = .exc (xn d) g := by
  simp only [Bad] at hd
  simp [f_need_balance, m_need_balance, needplan_ok h, hd, raiseS]
theorem month_x {o d : D} {x : EX} (h : f_need_balance [o, d] g = .exc x g) : f_month [o, d] g = .exc x g := by
  simp [f_month, m_month, h]
theorem ending_x {o d : D} {x : EX} (h : f_need_balance [o, d] g = .exc x g) : f_ending [o, d] g = .exc x g := by
  simp [f_ending, m_ending, h]
theorem evidence_x {o d : D} {x : EX} (h : f_need_balance [o, d] g = .exc x g) : f_evidence [o, d] g = .exc x g := by
  simp [f_evidence, m_evidence, h]
theorem isev_x {o d v : D} {x : EX} (h : f_need_balance [o, d] g = .exc x g) : f_is_evidence [o, d, v] g = .exc x g := by
  simp [f_is_evidence, m_is_evidence, h]
theorem least_x {o d v : D} {x : EX} (h : f_need_balance [o, d] g = .exc x g) : f_least_extra [o, d, v] g = .exc x g := by
  simp [f_least_extra, m_least_extra, h]
theorem most_odd {o d : D} (h : NoPl g o) : f_most_within [o, d] g = .exc xp g := by
  simp only [NoPl] at h
  simp [f_most_within, m_most_within, h]
theorem endless_odd {o : D} (h : NoPl g o) : f_least_endless [o] g = .exc xp g := by
  simp only [NoPl] at h
  simp [f_least_endless, m_least_endless, h]
theorem most_bad (h : isPlan g k r s l p) {d : D} (hd : Bad g 0 100 d) : f_most_within [.ptr k, d] g = .exc (xn d) g := by
  simp only [Bad] at hd
  simp [f_most_within, m_most_within, needplan_ok h, hd, raiseS]
theorem least_bad (h : isPlan g k r s l p) {b : Int} (hb : 0 ≤ b) (hb2 : b ≤ 100000) {d : D} (hd : Bad g 1 100 d) (hn : d.isNon = false) : f_least_extra [.ptr k, .int b, d] g = .exc (xn d) g := by
  simp only [Bad] at hd
  simp [f_least_extra, m_least_extra, needbal_ok h hb hb2, hd, hn, raiseS]
/-! right ones -/
theorem month_good (P : Pl r s l) (h : isPlan g k r s l p) {b : Int} (hb : 0 ≤ b) (hb2 : b ≤ 100000) : ∃ d, f_month [.ptr k, .int b] g = .ok d g := by
  obtain ⟨x, y, e⟩ := month_ok P h b 0
  exact ⟨_, by simp [f_month, m_month, needbal_ok h hb hb2, e]; rfl⟩
theorem isev_good (h : isPlan g k r s l p) {b : Int} (hb : 0 ≤ b) (hb2 : b ≤ 100000) : (∃ d, f_is_evidence [.ptr k, .int b, .non] g = .ok d g) ∧ ∃ d, f_is_evidence [.ptr k, .int b, .tup []] g = .ok d g := by
  refine ⟨⟨.bl false, ?_⟩, ⟨.bl false, ?_⟩⟩
  · simp [f_is_evidence, m_is_evidence, needbal_ok h hb hb2, tyD]
  · simp [f_is_evidence, m_is_evidence, needbal_ok h hb hb2, tyD]
theorem evidence_good (P : Pl r s l) (h : isPlan g k r s l p) {b : Int} (hb : 0 ≤ b) (hb2 : b ≤ 100000) : ∃ d, f_evidence [.ptr k, .int b] g = .ok d g := by
  obtain ⟨acc, _, e⟩ := row_ok P h (e := 0) hb hb2
  have z2 : 2 ≤ sizeLine := sz_le (by omega)
  by_cases hw : 0 < wend (nxt r s l p 0) b.toNat b
  · exact ⟨_, by simp [f_evidence, m_evidence, needbal_ok h hb hb2, e, atI_last, hw, z2]; rfl⟩
  · exact ⟨_, by simp [f_evidence, m_evidence, needbal_ok h hb hb2, e, atI_last, hw, z2]; rfl⟩
theorem most_good (P : Pl r s l) (h : isPlan g k r s l p) {m : Int} (hm : 0 ≤ m) (hm2 : m ≤ 100) : ∃ d, f_most_within [.ptr k, .int m] g = .ok d g := by
  by_cases hs : m = 0 ∨ s < 1000
  · obtain ⟨v, e, _⟩ := most_ok P h hm hm2 hs
    exact ⟨_, e⟩
  · exact ⟨_, most_none h (by omega) hm2 (by have := P.s1; omega)⟩
theorem least_good (P : Pl r s l) (h : isPlan g k r s l p) {b : Int} (hb : 0 ≤ b) (hb2 : b ≤ 100000) (mo : Option Int) (hm : ∀ m, mo = some m → 1 ≤ m ∧ m ≤ 100) : ∃ d, f_least_extra [.ptr k, .int b, moD mo] g = .ok d g := by
  obtain ⟨v, e, _⟩ := least_ok P h hb hb2 mo hm
  exact ⟨_, e⟩
/-! ending: all of a row are ints -/
theorem row_loopI (P : Pl r s l) (h : isPlan g k r s l p) (ba e : Int) : ∀ (n : Nat) (x : Int) (acc : List Int) (lt : Option Slot), 0 ≤ x → x.toNat ≤ n → acc.length + n ≤ 200000 →
    ∃ acc' : List Int, acc'.length ≤ acc.length + n + 1 ∧ (seqM (whileM rwC rwB) (retM (getV 3)) ⟨g, [some (.val (.ptr k)), some (.val (.int ba)), some (.val (.int e)), some (.own (.lst ((acc ++ [x]).map .int))), lt]⟩).out = .ok (.lst (acc'.map .int)) g := by
  intro n
  induction n with
  | zero =>
    intro x acc lt hx hn ha
    have x0 : x = 0 := by omega
    subst x0
    refine ⟨acc ++ [0], by simp, ?_⟩
    rw [seqM_ap, whileM_eq]
    simp [rwC, atI_last]
  | succ n ih =>
    intro x acc lt hx hn ha
    by_cases x0 : x = 0
    · subst x0
      refine ⟨acc ++ [0], by simp, ?_⟩
      rw [seqM_ap, whileM_eq]
      simp [rwC, atI_last]
    · obtain ⟨m1, m2, em⟩ := month_ok P h x e
      have xp : 0 < x := by omega
      by_cases hs : x ≤ nxt r s l p e x
      · refine ⟨acc ++ [x], by simp, ?_⟩
        rw [seqM_ap, whileM_eq]
        simp [rwC, rwB, atI_last, xp, turnM, em, atI_2, hs]
      · have n0 : 0 ≤ nxt r s l p e x := nxt_nonneg
        obtain ⟨acc', e1, e3⟩ := ih (nxt r s l p e x) (acc ++ [x]) (some (.val (.int (nxt r s l p e x)))) n0 (by omega) (by simp; omega)
        refine ⟨acc', by simp at e1; omega, ?_⟩
        rw [seqM_ap] at e3
        rw [seqM_ap, whileM_eq, ← e3]
        have sz : acc.length + 1 < sizeLine := by rw [sizeLine_eq]; omega
        simp [rwC, rwB, atI_last, xp, turnM, em, atI_2, hs, sz]
theorem rowI (P : Pl r s l) (h : isPlan g k r s l p) {b e : Int} (hb : 0 ≤ b) (hb2 : b ≤ 100000) : ∃ L : List Int, L.length ≤ 100001 ∧ f_row_with [.ptr k, .int b, .int e] g = .ok (.lst (L.map .int)) g := by
  obtain ⟨L, e1, e3⟩ := row_loopI P h b e b.toNat b [] none hb (Nat.le_refl _) (by simp; omega)
  refine ⟨L, by simp at e1; omega, ?_⟩
  have sz : 1 ≤ sizeLine := sz_le (by omega)
  simp only [rwC, rwB, seqM_ap, List.nil_append, List.map_cons, List.map_nil] at e3
  simp [f_row_with, m_row_with, sz, e3]
def enE : M D := bin2 ixD (M.bind (consM (getV 0) (consM (getV 3) (consM (M.ret (.int 0)) (M.ret [])))) (callF f_month_with)) (M.ret (.int 0))
theorem atI_0 {α : Type} {a b c : α} : atI [a, b, c] 0 = some a := by simp [atI, ixN]
theorem int_comp (P : Pl r s l) (h : isPlan g k r s l p) (t1 t2 : Option Slot) : ∀ (ns acc : List Int), acc.length + ns.length ≤ 200000 → ∃ L : List Int, compL (gSet 3) (M.ret true) enE [3] (acc.map .int) (ns.map .int) ⟨g, [some (.val (.ptr k)), t1, t2, none]⟩ = .ok (L.map .int) ⟨g, [some (.val (.ptr k)), t1, t2, none]⟩
  | [], acc, _ => ⟨acc, rfl⟩
  | n :: ns, acc, hl => by
    simp only [List.length_cons] at hl
    obtain ⟨x, y, em⟩ := month_ok P h n 0
    obtain ⟨L, e⟩ := int_comp P h t1 t2 ns (acc ++ [x]) (by simp; omega)
    refine ⟨L, ?_⟩
    have sz : acc.length < sizeLine := by rw [sizeLine_eq]; omega
    simp at e
    simp [compL, enE, em, atI_0, BSt.wip, wipeT, sz]
    exact e
theorem ending_good (P : Pl r s l) (h : isPlan g k r s l p) {b : Int} (hb : 0 ≤ b) (hb2 : b ≤ 100000) : ∃ d, f_ending [.ptr k, .int b] g = .ok d g := by
  obtain ⟨acc, e1, e⟩ := row_ok P h (e := 0) hb hb2
  obtain ⟨L, l1, e2⟩ := rowI P h (e := 0) hb hb2
  have eq : D.lst (acc ++ [.int (wend (nxt r s l p 0) b.toNat b)]) = D.lst (L.map .int) := by
    rw [e] at e2
    injection e2
  have eq2 : acc ++ [.int (wend (nxt r s l p 0) b.toNat b)] = L.map D.int := by injection eq
  have z2 : 2 ≤ sizeLine := sz_le (by omega)
  by_cases hw : 0 < wend (nxt r s l p 0) b.toNat b
  · exact ⟨_, by simp [f_ending, m_ending, needbal_ok h hb hb2, e, atI_last, hw]; rfl⟩
  · obtain ⟨L2, e3⟩ := int_comp P h (some (.val (.int b))) (some (.val (.lst (L.map .int)))) L [] (by simp; omega)
    simp only [enE, List.map_nil] at e3
    have ez : atI (L.map D.int) (-1) = some (.int (wend (nxt r s l p 0) b.toNat b)) := by rw [← eq2]; exact atI_last
    exact ⟨_, by simp [f_ending, m_ending, needbal_ok h hb hb2, e2, ez, hw, lcN, BSt.wip, wipeT, e3, z2, dInts_of, sumD]; rfl⟩
/-! least_endless -/
theorem rate_ok (h : isPlan g k r s l p) : f_Plan_rate [.ptr k] g = .ok (.int r) g := by
  simp [f_Plan_rate, m_Plan_rate, h, List.lookup, atI, ixN]
theorem first_ok (P : Pl r s l) (h : isPlan g k r s l p) (hr : 0 < r) (i : Int) : f_first_with [.ptr k, .int i] g = .ok (.int (-(-i * 1000 / r))) g := by
  have r1 : r < 1073741824 := by have := P.r1; omega
  have s1 : small64 1000 := by decide
  simp [f_first_with, m_first_with, rate_ok h, isIns, h, s1, hr, r1]
def elC : M Bool := isB (bin2 ltD (bin2 mulD (getV 7) (getV 6)) (bin2 mulD (M.ret (.int 1000)) (getV 1)))
def elB : M Fl := seqM (M.bind (M.bind (consM (getV 0) (consM (getV 7) (M.ret []))) (callF f_first_with)) (setV 5)) (seqM (ifM (isB (bin2 leD (bin2 fdivD (bin2 mulD (bin2 addD (getV 5) (getV 7)) (getV 2)) (M.ret (.int 1000))) (getV 7))) (retM (getV 5)) (M.ret .nx)) (augV 7 (fun i j => i + j) (M.ret (.int 1))))
theorem el_loop (P : Pl r s l) (h : isPlan g k r s l p) (hr : 0 < r) {ov : Int} (h1 : 0 < ov) (h2 : small64 ov) : ∀ (n : Nat) (i : Int) (t5 : Option Slot), (1000 * r - i * ov).toNat ≤ n →
    ∃ d, (seqM (whileM elC elB) (retM (M.ret .non)) ⟨g, [some (.val (.ptr k)), some (.val (.int r)), some (.val (.int s)), some (.val (.int l)), some (.val (.bl p)), t5, some (.val (.int ov)), some (.val (.int i))]⟩).out = .ok d g := by
  have s1 : small64 1000 := by decide
  obtain ⟨_, ss, _⟩ := P.small
  have stop : ∀ (i : Int) (t5 : Option Slot), ¬ i * ov < 1000 * r → (seqM (whileM elC elB) (retM (M.ret .non)) ⟨g, [some (.val (.ptr k)), some (.val (.int r)), some (.val (.int s)), some (.val (.int l)), some (.val (.bl p)), t5, some (.val (.int ov)), some (.val (.int i))]⟩).out = .ok .non g := by
    intro i t5 hs
    rw [seqM_ap, whileM_eq]
    simp [elC, h2, s1, hs]
  intro n
  induction n with
  | zero => intro i t5 hn; exact ⟨_, stop i t5 (by omega)⟩
  | succ n ih =>
    intro i t5 hn
    by_cases hs : i * ov < 1000 * r
    · have e5 := first_ok P h hr i
      by_cases hd : (-(-i * 1000 / r) + i) * s / 1000 ≤ i
      · refine ⟨.int (-(-i * 1000 / r)), ?_⟩
        rw [seqM_ap, whileM_eq]
        simp [elC, elB, h2, s1, hs, turnM, e5, ss, hd]
      · have hm : (i + 1) * ov = i * ov + ov := by rw [Int.add_mul]; omega
        obtain ⟨d, e⟩ := ih (i + 1) (some (.val (.int (-(-i * 1000 / r))))) (by omega)
        refine ⟨d, ?_⟩
        rw [seqM_ap] at e
        rw [seqM_ap, whileM_eq, ← e]
        simp [elC, elB, h2, s1, hs, turnM, e5, ss, hd, augV]
    · exact ⟨_, stop i t5 hs⟩
theorem endless_good (P : Pl r s l) (h : isPlan g k r s l p) : ∃ d, f_least_endless [.ptr k] g = .ok d g := by
  have s1 : small64 1000 := by decide
  obtain ⟨sr, ss, _⟩ := P.small
  by_cases hr : r = 0
  · subst hr
    exact ⟨_, by simp [f_least_endless, m_least_endless, needplan_ok h, h, List.lookup]; rfl⟩
  · have hr : 0 < r := by have := P.r0; omega
    have hr' : ¬ r = 0 := by omega
    have e5 := first_ok P h hr l
    cases p with
    | true =>
      by_cases hb : -(-l * 1000 / r) * s < 1000
      · exact ⟨_, by simp [f_least_endless, m_least_endless, needplan_ok h, h, List.lookup, hr', e5, ss, hb]; rfl⟩
      · exact ⟨_, by simp [f_least_endless, m_least_endless, needplan_ok h, h, List.lookup, hr', e5, ss, hb]; rfl⟩
    | false =>
      by_cases ho : s * (1000 + r) - 1000 * r ≤ 0
      · exact ⟨_, by simp [f_least_endless, m_least_endless, needplan_ok h, h, List.lookup, hr', e5, ss, s1, ho]; rfl⟩
      · have hov : small64 (s * (1000 + r) - 1000 * r) := by
          have q1 : s * (1000 + r) ≤ 1000 * (1000 + r) := Int.mul_le_mul_of_nonneg_right P.s1 (by omega)
          have := P.r1
          unfold small64; omega
        obtain ⟨d, e⟩ := el_loop P h hr (show 0 < s * (1000 + r) - 1000 * r by omega) hov _ l (some (.val (.int (-(-l * 1000 / r))))) (Nat.le_refl _)
        refine ⟨d, ?_⟩
        rw [seqM_ap] at e
        simp only [elC, elB] at e
        simp [f_least_endless, m_least_endless, needplan_ok h, h, List.lookup, hr', e5, ss, s1, ho]
        exact e
end
end L2.VI.K77
namespace L2.VI.K77
open PySem PySem.Spec PyProof.Rows He L2 L2.VI
section
variable {g : GSt} {k : Nat} {r s l : Int} {p : Bool}
noncomputable abbrev ltab : List (LamT × M D) := [(lam_0, ml_0), (lam_1, ml_1), (lam_2, ml_2), (lam_3, ml_3), (lam_4, ml_4), (lam_5, ml_5), (lam_6, ml_6), (lam_7, ml_7), (lam_8, ml_8), (lam_9, ml_9)]
open Classical in
theorem lcall_ok {kf : Nat} {tbl : List (LamT × M D)} {me : M D} {b : BSt} {i fr : Nat} {L : LamT} {m : M D} {o : Option Nat} {up : Ups} {ts : List (Option D)} (hm : me b = .ok (.lam i L fr) b) (hf : b.t[kf]? = some (some (.frm o up))) (ht : tbl[i]? = some (L, m)) (hu : up.lookup fr = some (L.N, ts)) :
    lcallM kf tbl me b = (match m ⟨b.g, ts.map fun o => o.map Slot.val⟩ with
      | .ok d b' => .ok d { b with g := b'.g }
      | .exc x b' => .exc x { b with g := b'.g }
      | .fail => .fail) := by
  unfold lcallM M.bind
  rw [hm]
  simp [hf, ht, hu]
  try rfl
abbrev tt (a b c : D) : List (Option Slot) := [some (.val a), some (.val b), some (.val c), none, none, none, none]
abbrev cp (a b c : D) : List (Option D) := [some a, some b, some c, none, none, none, none]
/-- how a lambda's body ends, and what the law says of it -/
inductive Ends (g : GSt) : R D → D → Prop
  | ok (d : D) (t : List (Option Slot)) : Ends g (.ok d ⟨g, t⟩) (.lst [])
  | plan (t : List (Option Slot)) : Ends g (.exc xp ⟨g, t⟩) (.lst [.str "plan", .str "plan"])
  | num (d : D) (t : List (Option Slot)) : Ends g (.exc (xn d) ⟨g, t⟩) (.lst [.str "number", d])
theorem kind_ok {ups : Ups} {fr i : Nat} {L : LamT} {m : M D} {a b c v : D} (hi : ltab[i]? = some (L, m)) (hu : ups.lookup fr = some (L.N, cp a b c)) (h : Ends g (m ⟨g, tt a b c⟩) v) : f__law_kind ups [.lam i L fr] g = .ok v g := by
  have hl : ∀ t1 t2, lcallM 3 ltab (getV 0) ⟨g, [some (.val (.lam i L fr)), t1, t2, some (.frm none ups)]⟩ = (match m ⟨g, tt a b c⟩ with
      | .ok d b' => .ok d ⟨b'.g, [some (.val (.lam i L fr)), t1, t2, some (.frm none ups)]⟩
      | .exc x b' => .exc x ⟨b'.g, [some (.val (.lam i L fr)), t1, t2, some (.frm none ups)]⟩
      | .fail => .fail) := fun t1 t2 => lcall_ok (up := ups) (o := none) (by simp) rfl hi hu
  generalize m ⟨g, tt a b c⟩ = z at h hl
  have z2 : 2 ≤ sizeLine := sz_le (by omega)
  have z1 : 1 ≤ sizeLine := sz_le (by omega)
  cases h with
  | ok d t =>
    have e : f__law_caught ups [.lam i L fr] g = .ok .non g := by
      simp [f__law_caught, m__law_caught, hl, List.lookup]
    simp [f__law_kind, m__law_kind, e]
  | plan t =>
    have e : f__law_caught ups [.lam i L fr] g = .ok (.xob "BadPlan" [("part", .str "plan")]) g := by
      simp [f__law_caught, m__law_caught, hl, List.lookup]
    simp [f__law_kind, m__law_kind, e, List.lookup, z2]
  | num d t =>
    have e : f__law_caught ups [.lam i L fr] g = .ok (.xob "BadNumber" [("number", d)]) g := by
      simp [f__law_caught, m__law_caught, hl, List.lookup]
    simp [f__law_kind, m__law_kind, e, List.lookup, z2]
abbrev NN : List Str := ["_law_first", "_law_second", "_law_third", "_law_due", "_law_works", "_law_work", "."]
noncomputable def wkE : M D := M.bind (consM (getV 5) (M.ret [])) (callT 6 f__law_kind)
theorem comp_ok {ups : Ups} {t0 t1 t2 t3 t4 : Option Slot} : ∀ (ls : List (D × D)) (acc : List D), (∀ q ∈ ls, f__law_kind ups [q.1] g = .ok q.2 g) → acc.length + ls.length ≤ 100 →
    compL (gSet 5) (M.ret true) wkE [5] acc (ls.map (·.1)) ⟨g, [t0, t1, t2, t3, t4, none, some (.frm none ups)]⟩ = .ok (acc ++ ls.map (·.2)) ⟨g, [t0, t1, t2, t3, t4, none, some (.frm none ups)]⟩
  | [], acc, _, _ => by simp [compL]
  | q :: ls, acc, h, hl => by
    simp only [List.length_cons] at hl
    have e := h q List.mem_cons_self
    have e2 := comp_ok (t0 := t0) (t1 := t1) (t2 := t2) (t3 := t3) (t4 := t4) ls (acc ++ [q.2]) (fun q hq => h q (List.mem_cons_of_mem _ hq)) (by simp; omega)
    have sz : acc.length < sizeLine := by rw [sizeLine_eq]; omega
    simp only [List.append_assoc, List.singleton_append] at e2
    simp [compL, wkE, e, BSt.wip, wipeT, sz]
    simp only [wkE] at e2
    exact e2
theorem works_ok {a b c d3 : D} {fr : Nat} {t5 : Option Slot} (ls : List (D × D)) (h : ∀ q ∈ ls, f__law_kind [(fr, NN, cp a b c)] [q.1] g = .ok q.2 g) (hl : ls.length ≤ 100) :
    lcU 6 NN [0, 1, 2] (itemsM (getV 4)) (gSet 5) (M.ret true) wkE [5] ⟨g, [some (.val a), some (.val b), some (.val c), some (.val d3), some (.own (.lst (ls.map (·.1)))), t5, some (.frm (some fr) [])]⟩ =
      .ok (.lst (ls.map (·.2))) ⟨g, [some (.val a), some (.val b), some (.val c), some (.val d3), some (.val (.lst (ls.map (·.1)))), none, some (.frm (some fr) [])]⟩ := by
  have e := comp_ok (t0 := some (.val a)) (t1 := some (.val b)) (t2 := some (.val c)) (t3 := some (.val d3)) (t4 := some (.val (.lst (ls.map (·.1))))) ls [] h (by simpa using hl)
  have ec : ∀ x4 x5 x6, capts NN.length [0, 1, 2] [some (.val a), some (.val b), some (.val c), some (.val d3), x4, x5, x6] = cp a b c := fun x4 x5 x6 => rfl
  simp only [List.nil_append] at e
  simp [lcU, BSt.wip, wipeT, upsOf]
  simp only [List.length_cons, List.length_nil] at ec
  simp [ec, e, dropFrm]
theorem mulD_li {xs : List D} {i : Int} {b : BSt} : mulD (.lst xs) (.int i) b = if small64 i ∧ -(2 ^ 63) ≤ i ∧ i < 2 ^ 63 ∧ xs.length * i.toNat ≤ sizeLine then .ok (.lst (List.replicate i.toNat xs).flatten) b else .fail := rfl
theorem reprG_l {xs : List D} {b : BSt} : reprG [.lst xs] b = (match shownD b.g (.lst xs) with
    | some z => .ok (.str z) b
    | none => .fail) := rfl
abbrev LQ : Str := lam_0.qual
def TabOk (g : GSt) : Prop := g.S 0 = some (.tab "_law_plan_right" LQ)
/-- what is wanted of the ten lambdas -/
structure Wants (g : GSt) (a b c d0 d1 d2 d3 : D) : Prop where
  w0 : ∀ m ∈ [ml_0, ml_1, ml_2, ml_3, ml_4], Ends g (m ⟨g, tt a b c⟩) d0
  w1 : ∀ m ∈ [ml_5, ml_6], Ends g (m ⟨g, tt a b c⟩) d1
  w2 : ∀ m ∈ [ml_7, ml_8], Ends g (m ⟨g, tt a b c⟩) d2
  w3 : Ends g (ml_9 ⟨g, tt a b c⟩) d3
  s0 : ∃ z, shownD g (.lst [d0, d0, d0, d0, d0]) = some z
  s1 : ∃ z, shownD g (.lst [d1, d1]) = some z
  s2 : ∃ z, shownD g (.lst [d2, d2, d3]) = some z
theorem right_ok {a b c d0 d1 d2 d3 : D} (hT : TabOk g) (w : Wants { g with nx := g.nx + 1 } a b c d0 d1 d2 d3) : f__law_plan_right [a, b, c, .lst [d0, d1, d2, d3]] g = .ok (.bl true) { g with nx := g.nx + 1 } := by
  have hT' : ({ g with nx := g.nx + 1 } : GSt).S 0 = some (.tab "_law_plan_right" LQ) := hT
  generalize hg : ({ g with nx := g.nx + 1 } : GSt) = g1 at w hT'
  obtain ⟨w0, w1, w2, w3, ⟨z0, s0⟩, ⟨z1, s1⟩, ⟨z2, s2⟩⟩ := w
  have K : ∀ (i : Nat) (L : LamT) (m : M D) (v : D), ltab[i]? = some (L, m) → L.N = NN → Ends g1 (m ⟨g1, tt a b c⟩) v → f__law_kind [(g.nx, NN, cp a b c)] [.lam i L g.nx] g1 = .ok v g1 := fun i L m v hi hN h => kind_ok hi (by simp [List.lookup, hN]) h
  have k0 := K 0 lam_0 ml_0 d0 rfl rfl (w0 _ (by simp))
  have k1 := K 1 lam_1 ml_1 d0 rfl rfl (w0 _ (by simp))
  have k2 := K 2 lam_2 ml_2 d0 rfl rfl (w0 _ (by simp))
  have k3 := K 3 lam_3 ml_3 d0 rfl rfl (w0 _ (by simp))
  have k4 := K 4 lam_4 ml_4 d0 rfl rfl (w0 _ (by simp))
  have k5 := K 5 lam_5 ml_5 d1 rfl rfl (w1 _ (by simp))
  have k6 := K 6 lam_6 ml_6 d1 rfl rfl (w1 _ (by simp))
  have k7 := K 7 lam_7 ml_7 d2 rfl rfl (w2 _ (by simp))
  have k8 := K 8 lam_8 ml_8 d2 rfl rfl (w2 _ (by simp))
  have k9 := K 9 lam_9 ml_9 d3 rfl rfl w3
  have e1 := fun t5 => works_ok (g := g1) (a := a) (b := b) (c := c) (d3 := .lst [d0, d1, d2, d3]) (t5 := t5) (fr := g.nx) [(.lam 0 lam_0 g.nx, d0), (.lam 1 lam_1 g.nx, d0), (.lam 2 lam_2 g.nx, d0), (.lam 3 lam_3 g.nx, d0), (.lam 4 lam_4 g.nx, d0)] (by simp [k0, k1, k2, k3, k4]) (by simp)
  have e2 := fun t5 => works_ok (g := g1) (a := a) (b := b) (c := c) (d3 := .lst [d0, d1, d2, d3]) (t5 := t5) (fr := g.nx) [(.lam 5 lam_5 g.nx, d1), (.lam 6 lam_6 g.nx, d1)] (by simp [k5, k6]) (by simp)
  have e3 := fun t5 => works_ok (g := g1) (a := a) (b := b) (c := c) (d3 := .lst [d0, d1, d2, d3]) (t5 := t5) (fr := g.nx) [(.lam 7 lam_7 g.nx, d2), (.lam 8 lam_8 g.nx, d2), (.lam 9 lam_9 g.nx, d3)] (by simp [k7, k8, k9]) (by simp)
  simp only [List.map_cons, List.map_nil, wkE, NN] at e1 e2 e3
  have q0 : lam_0.qual = LQ := rfl
  have q1 : lam_1.qual = LQ := rfl
  have q2 : lam_2.qual = LQ := rfl
  have q3 : lam_3.qual = LQ := rfl
  have q4 : lam_4.qual = LQ := rfl
  have q5 : lam_5.qual = LQ := rfl
  have q6 : lam_6.qual = LQ := rfl
  have q7 : lam_7.qual = LQ := rfl
  have q8 : lam_8.qual = LQ := rfl
  have q9 : lam_9.qual = LQ := rfl
  have z1' : 1 ≤ sizeLine := sz_le (by omega)
  have p1 : 1 < sizeLine := by rw [sizeLine_eq]; omega
  have p2 : 2 < sizeLine := by rw [sizeLine_eq]; omega
  have p3 : 3 < sizeLine := by rw [sizeLine_eq]; omega
  have p4 : 4 < sizeLine := by rw [sizeLine_eq]; omega
  have p5 : 5 ≤ sizeLine := sz_le (by omega)
  have p6 : 2 ≤ sizeLine := sz_le (by omega)
  have p7 : 3 ≤ sizeLine := sz_le (by omega)
  have m5 : small64 5 := by decide
  have m2 : small64 2 := by decide
  have a0 : atI [d0, d1, d2, d3] 0 = some d0 := by simp [atI, ixN]
  have a1 : atI [d0, d1, d2, d3] 1 = some d1 := by simp [atI, ixN]
  have a2 : atI [d0, d1, d2, d3] 2 = some d2 := by simp [atI, ixN]
  have a3 : atI [d0, d1, d2, d3] 3 = some d3 := by simp [atI, ixN]
  simp [f__law_plan_right, m__law_plan_right, hg, hT', q0, q1, q2, q3, q4, q5, q6, q7, q8, q9, z1', p1, p2, p3, p4, p5, p6, p7, e1, e2, e3, reprG_l, s0, s1, s2, mulD_li, m5, m2, a0, a1, a2, a3, fAppend]
end
end L2.VI.K77
namespace L2.VI.K77
open PySem PySem.Spec PyProof.Rows He L2 L2.VI
section
variable {g : GSt} {k : Nat} {r s l : Int} {p : Bool}
abbrev nd (d : D) : D := .lst [.str "number", d]
abbrev pd : D := .lst [.str "plan", .str "plan"]
theorem five_odd {o b c : D} (h : NoPl g o) : ∀ m ∈ [ml_0, ml_1, ml_2, ml_3, ml_4], Ends g (m ⟨g, tt o b c⟩) pd := by
  have hb := bal_odd (d := b) h
  have e1 := month_x hb
  have e2 := ending_x hb
  have e3 := evidence_x hb
  have e4 := isev_x (v := .non) hb
  have e5 := isev_x (v := .tup []) hb
  have z0 : 0 ≤ sizeLine := Nat.zero_le _
  intro m hm
  simp only [List.mem_cons, List.not_mem_nil, or_false] at hm
  rcases hm with rfl | rfl | rfl | rfl | rfl
  · simp [ml_0, e1]; exact .plan _
  · simp [ml_1, e2, kperm]; exact .plan _
  · simp [ml_2, e3]; exact .plan _
  · simp [ml_3, e4]; exact .plan _
  · simp [ml_4, e5, kperm, z0]; exact .plan _
theorem five_bad {b c : D} (h : isPlan g k r s l p) (hd : Bad g 0 100000 b) : ∀ m ∈ [ml_0, ml_1, ml_2, ml_3, ml_4], Ends g (m ⟨g, tt (.ptr k) b c⟩) (nd b) := by
  have hb := bal_bad h hd
  have e1 := month_x hb
  have e2 := ending_x hb
  have e3 := evidence_x hb
  have e4 := isev_x (v := .non) hb
  have e5 := isev_x (v := .tup []) hb
  intro m hm
  simp only [List.mem_cons, List.not_mem_nil, or_false] at hm
  rcases hm with rfl | rfl | rfl | rfl | rfl
  · simp [ml_0, e1]; exact .num _ _
  · simp [ml_1, e2, kperm]; exact .num _ _
  · simp [ml_2, e3]; exact .num _ _
  · simp [ml_3, e4]; exact .num _ _
  · simp [ml_4, e5, kperm]; exact .num _ _
theorem five_good (P : Pl r s l) {b : Int} {c : D} (h : isPlan g k r s l p) (h0 : 0 ≤ b) (h1 : b ≤ 100000) : ∀ m ∈ [ml_0, ml_1, ml_2, ml_3, ml_4], Ends g (m ⟨g, tt (.ptr k) (.int b) c⟩) (.lst []) := by
  obtain ⟨d1, e1⟩ := month_good P h h0 h1
  obtain ⟨d2, e2⟩ := ending_good P h h0 h1
  obtain ⟨d3, e3⟩ := evidence_good P h h0 h1
  obtain ⟨⟨d4, e4⟩, ⟨d5, e5⟩⟩ := isev_good h h0 h1
  intro m hm
  simp only [List.mem_cons, List.not_mem_nil, or_false] at hm
  rcases hm with rfl | rfl | rfl | rfl | rfl
  · simp [ml_0, e1]; exact .ok _ _
  · simp [ml_1, e2, kperm]; exact .ok _ _
  · simp [ml_2, e3]; exact .ok _ _
  · simp [ml_3, e4]; exact .ok _ _
  · simp [ml_4, e5, kperm]; exact .ok _ _
theorem two_odd {o b c : D} (h : NoPl g o) : ∀ m ∈ [ml_5, ml_6], Ends g (m ⟨g, tt o b c⟩) pd := by
  have e := most_odd (d := c) h
  intro m hm
  simp only [List.mem_cons, List.not_mem_nil, or_false] at hm
  rcases hm with rfl | rfl
  · simp [ml_5, e]; exact .plan _
  · simp [ml_6, e, kperm]; exact .plan _
theorem two_bad {b c : D} (h : isPlan g k r s l p) (hd : Bad g 0 100 c) : ∀ m ∈ [ml_5, ml_6], Ends g (m ⟨g, tt (.ptr k) b c⟩) (nd c) := by
  have e := most_bad h hd
  intro m hm
  simp only [List.mem_cons, List.not_mem_nil, or_false] at hm
  rcases hm with rfl | rfl
  · simp [ml_5, e]; exact .num _ _
  · simp [ml_6, e, kperm]; exact .num _ _
theorem two_good (P : Pl r s l) {b : D} {m0 : Int} (h : isPlan g k r s l p) (h0 : 0 ≤ m0) (h1 : m0 ≤ 100) : ∀ m ∈ [ml_5, ml_6], Ends g (m ⟨g, tt (.ptr k) b (.int m0)⟩) (.lst []) := by
  obtain ⟨d, e⟩ := most_good P h h0 h1
  intro m hm
  simp only [List.mem_cons, List.not_mem_nil, or_false] at hm
  rcases hm with rfl | rfl
  · simp [ml_5, e]; exact .ok _ _
  · simp [ml_6, e, kperm]; exact .ok _ _
theorem le_odd {o b c : D} (h : NoPl g o) : ∀ m ∈ [ml_7, ml_8], Ends g (m ⟨g, tt o b c⟩) pd := by
  have e := least_x (v := c) (bal_odd (d := b) h)
  intro m hm
  simp only [List.mem_cons, List.not_mem_nil, or_false] at hm
  rcases hm with rfl | rfl
  · simp [ml_7, e]; exact .plan _
  · simp [ml_8, e, kperm]; exact .plan _
theorem le_x {b c : D} (h : isPlan g k r s l p) (hd : Bad g 0 100000 b) : ∀ m ∈ [ml_7, ml_8], Ends g (m ⟨g, tt (.ptr k) b c⟩) (nd b) := by
  have e := least_x (v := c) (bal_bad h hd)
  intro m hm
  simp only [List.mem_cons, List.not_mem_nil, or_false] at hm
  rcases hm with rfl | rfl
  · simp [ml_7, e]; exact .num _ _
  · simp [ml_8, e, kperm]; exact .num _ _
theorem le_bad {b : Int} {c : D} (h : isPlan g k r s l p) (h0 : 0 ≤ b) (h1 : b ≤ 100000) (hd : Bad g 1 100 c) (hn : c.isNon = false) : ∀ m ∈ [ml_7, ml_8], Ends g (m ⟨g, tt (.ptr k) (.int b) c⟩) (nd c) := by
  have e := least_bad h h0 h1 hd hn
  intro m hm
  simp only [List.mem_cons, List.not_mem_nil, or_false] at hm
  rcases hm with rfl | rfl
  · simp [ml_7, e]; exact .num _ _
  · simp [ml_8, e, kperm]; exact .num _ _
theorem le_good (P : Pl r s l) {b : Int} (h : isPlan g k r s l p) (h0 : 0 ≤ b) (h1 : b ≤ 100000) : ∀ m ∈ [ml_7, ml_8], Ends g (m ⟨g, tt (.ptr k) (.int b) .non⟩) (.lst []) := by
  obtain ⟨d, e⟩ := least_good P h h0 h1 none (fun m z => by cases z)
  simp only [moD] at e
  intro m hm
  simp only [List.mem_cons, List.not_mem_nil, or_false] at hm
  rcases hm with rfl | rfl
  · simp [ml_7, e]; exact .ok _ _
  · simp [ml_8, e, kperm]; exact .ok _ _
theorem end_odd {o b c : D} (h : NoPl g o) : Ends g (ml_9 ⟨g, tt o b c⟩) pd := by
  have e := endless_odd h
  simp [ml_9, e]; exact .plan _
theorem end_good (P : Pl r s l) {b c : D} (h : isPlan g k r s l p) : Ends g (ml_9 ⟨g, tt (.ptr k) b c⟩) (.lst []) := by
  obtain ⟨d, e⟩ := endless_good P h
  simp [ml_9, e]; exact .ok _ _
/-! what is shown -/
theorem sh_of {d : D} {e : PyData} (h : toPy d = some e) (hp : seeD g d = d) (h1 : e.showable = true) (h2 : e.hasDict = false) (h3 : e.depth ≤ 60) (h4 : e.shown.length ≤ 1000) : ∃ z, shownD g d = some z := by
  refine ⟨e.shown, ?_⟩
  unfold shownD
  rw [hp, h]
  exact if_pos ⟨h1, h2, h3, sz_le h4⟩
def Sh (d : D) : Prop := ∀ g : GSt, (∃ z, shownD g (.lst [nd d, nd d, nd d, nd d, nd d]) = some z) ∧ (∃ z, shownD g (.lst [nd d, nd d]) = some z) ∧ (∃ z, shownD g (.lst [nd d, nd d, .lst []]) = some z)
theorem sh_all {d : D} {e : PyData} (h : toPy d = some e) (c : (let n := PyData.list [.str "number", e]; ([PyData.list [n, n, n, n, n], .list [n, n], .list [n, n, .list []]].all fun x => x.showable && !x.hasDict && decide (x.depth ≤ 60) && decide (x.shown.length ≤ 1000)) = true)) : Sh d := by
  intro g
  have key : ∀ (ds : D) (x : PyData), toPy ds = some x → seeD g ds = ds → (x.showable && !x.hasDict && decide (x.depth ≤ 60) && decide (x.shown.length ≤ 1000)) = true → ∃ z, shownD g ds = some z := by
    intro ds x h1 h2 h3
    simp only [Bool.and_eq_true, Bool.not_eq_true', decide_eq_true_eq] at h3
    obtain ⟨⟨⟨a1, a2⟩, a3⟩, a4⟩ := h3
    exact sh_of h1 h2 a1 a2 a3 a4
  have c' := List.all_eq_true.mp c
  let n := PyData.list [.str "number", e]
  refine ⟨key _ (.list [n, n, n, n, n]) ?_ rfl (c' _ (by simp [n])), key _ (.list [n, n]) ?_ rfl (c' _ (by simp [n])), key _ (.list [n, n, .list []]) ?_ rfl (c' _ (by simp [n]))⟩ <;> simp [toPy, toPyAll, h, n]
theorem sh_non : Sh .non := sh_all (e := .none) rfl (by decide +kernel)
theorem sh_bl (b : Bool) : Sh (.bl b) := by cases b <;> exact sh_all (e := .bool _) rfl (by decide +kernel)
theorem sh_m1 : Sh (.int (-1)) := sh_all (e := .int _) rfl (by decide +kernel)
theorem sh_0 : Sh (.int 0) := sh_all (e := .int _) rfl (by decide +kernel)
theorem sh_101 : Sh (.int 101) := sh_all (e := .int _) rfl (by decide +kernel)
theorem sh_w : Sh (.int 100001) := sh_all (e := .int _) rfl (by decide +kernel)
theorem sh_h : Sh (.int 1000000000000000000000000000000) := sh_all (e := .int _) rfl (by decide +kernel)
theorem sh_s0 : Sh (.str "0") := sh_all (e := .str _) rfl (by decide +kernel)
theorem sh_s1 : Sh (.str "1") := sh_all (e := .str _) rfl (by decide +kernel)
theorem sh_t0 : Sh (.tup [.int 0]) := sh_all (e := .tuple [.int 0]) (by simp [toPy, toPyAll]) (by decide +kernel)
theorem sh_t1 : Sh (.tup [.int 1]) := sh_all (e := .tuple [.int 1]) (by simp [toPy, toPyAll]) (by decide +kernel)
theorem sh_l : Sh (.lst []) := sh_all (e := .list []) (by simp [toPy, toPyAll]) (by decide +kernel)
theorem sh_nil : (∃ z, shownD g (.lst [.lst [], .lst [], .lst [], .lst [], .lst []]) = some z) ∧ (∃ z, shownD g (.lst [.lst [], .lst []]) = some z) ∧ ∃ z, shownD g (.lst [.lst [], .lst [], .lst []]) = some z := by
  refine ⟨sh_of (e := .list [.list [], .list [], .list [], .list [], .list []]) ?_ rfl ?_ ?_ ?_ ?_, sh_of (e := .list [.list [], .list []]) ?_ rfl ?_ ?_ ?_ ?_, sh_of (e := .list [.list [], .list [], .list []]) ?_ rfl ?_ ?_ ?_ ?_⟩ <;> first | (simp [toPy, toPyAll]; done) | decide +kernel
theorem sh_pl : (∃ z, shownD g (.lst [pd, pd, pd, pd, pd]) = some z) ∧ (∃ z, shownD g (.lst [pd, pd]) = some z) ∧ ∃ z, shownD g (.lst [pd, pd, pd]) = some z := by
  let n := PyData.list [.str "plan", .str "plan"]
  refine ⟨sh_of (e := .list [n, n, n, n, n]) ?_ rfl ?_ ?_ ?_ ?_, sh_of (e := .list [n, n]) ?_ rfl ?_ ?_ ?_ ?_, sh_of (e := .list [n, n, n]) ?_ rfl ?_ ?_ ?_ ?_⟩ <;> first | (simp [toPy, toPyAll, n]; done) | decide +kernel
/-! the five questions -/
theorem q_odd {o b c : D} (h : NoPl g o) : Wants g o b c pd pd pd pd := ⟨five_odd h, two_odd h, le_odd h, end_odd h, sh_pl.1, sh_pl.2.1, sh_pl.2.2⟩
theorem q_bad (P : Pl r s l) {w m : D} (h : isPlan g k r s l p) (hw : Bad g 0 100000 w) (hm : Bad g 0 100 m) (sw : Sh w) (sm : Sh m) : Wants g (.ptr k) w m (nd w) (nd m) (nd w) (.lst []) :=
  ⟨five_bad h hw, two_bad h hm, le_x h hw, end_good P h, (sw g).1, (sm g).2.1, (sw g).2.2⟩
theorem q_3 (P : Pl r s l) {m : D} (h : isPlan g k r s l p) (hm : Bad g 0 100 m) (hm1 : Bad g 1 100 m) (hn : m.isNon = false) (sm : Sh m) : Wants g (.ptr k) (.int 100) m (.lst []) (nd m) (nd m) (.lst []) :=
  ⟨five_good P h (by decide) (by decide), two_bad h hm, le_bad h (by decide) (by decide) hm1 hn, end_good P h, sh_nil.1, (sm g).2.1, (sm g).2.2⟩
theorem q_4 (P : Pl r s l) (h : isPlan g k r s l p) : Wants g (.ptr k) (.int 100) .non (.lst []) (nd .non) (.lst []) (.lst []) :=
  ⟨five_good P h (by decide) (by decide), two_bad h bad_non, le_good P h (by decide) (by decide), end_good P h, sh_nil.1, (sh_non g).2.1, sh_nil.2.2⟩
theorem q_5 (P : Pl r s l) (h : isPlan g k r s l p) : Wants g (.ptr k) (.int 2000) (.int 0) (.lst []) (.lst []) (nd (.int 0)) (.lst []) :=
  ⟨five_good P h (by decide) (by decide), two_good P h (by decide) (by decide), le_bad h (by decide) (by decide) (bad_int (.inl (by decide))) rfl, end_good P h, sh_nil.1, sh_nil.2.1, (sh_0 g).2.2⟩
end
end L2.VI.K77
namespace L2.VI.K77
open PySem PySem.Spec PyProof.Rows He L2 L2.VI
section
variable {g : GSt} {k : Nat} {r s l : Int} {p : Bool}
noncomputable def turnB : M Fl := seqM (M.bind (M.bind (consM (getV 1) (M.ret [])) (callF f__law_parts)) (setV 3)) (seqM (set2 4 5 (consM (M.bind (consM (getV 3) (M.ret [])) (callF f__law_planned)) (consM (M.bind (consM (getV 1) (consM (frzM (lstN (consM (M.ret .non) (consM (M.ret (.int 5)) (consM (M.ret (.str "plan")) (consM (getV 3) (consM (frzM (listN (consM (getV 3) (M.ret [])))) (consM (frzM (M.ret (.dic []))) (consM (M.ret (.bl true)) (consM (frzM (lstN (consM (getV 3) (M.ret [])))) (M.ret []))))))))))) (M.ret []))) (callF f__law_pick)) (M.ret [])))) (seqM (M.bind (M.bind (consM (getV 1) (consM (frzM (lstN (consM (M.ret .non) (consM (negM (M.ret (.int 1))) (consM (bin2 addD (bin2 powD (M.ret (.int 10)) (M.ret (.int 5))) (M.ret (.int 1))) (consM (M.ret (.bl true)) (consM (M.ret (.bl false)) (consM (M.ret (.str "0")) (consM (tupM (consM (M.ret (.int 0)) (M.ret []))) (consM (frzM (lstN (M.ret []))) (consM (bin2 powD (M.ret (.int 10)) (M.ret (.int 30))) (M.ret [])))))))))))) (M.ret []))) (callF f__law_pick)) (setV 6)) (seqM (M.bind (M.bind (consM (getV 1) (consM (frzM (lstN (consM (negM (M.ret (.int 1))) (consM (M.ret (.int 101)) (consM (M.ret (.bl true)) (consM (M.ret (.bl false)) (consM (M.ret (.str "1")) (consM (tupM (consM (M.ret (.int 1)) (M.ret []))) (consM (frzM (lstN (M.ret []))) (consM (bin2 powD (M.ret (.int 10)) (M.ret (.int 30))) (M.ret []))))))))))) (M.ret []))) (callF f__law_pick)) (setV 7)) (seqM (M.bind (frzM (lstN (consM (M.ret (.str "plan")) (consM (M.ret (.str "plan")) (M.ret []))))) (setV 8)) (seqM (ifM (notB (isB (M.bind (consM (getV 5) (consM (getV 6) (consM (getV 7) (consM (frzM (lstN (consM (getV 8) (consM (getV 8) (consM (getV 8) (consM (getV 8) (M.ret []))))))) (M.ret []))))) (callF f__law_plan_right)))) (retM (M.ret (.bl false))) (M.ret .nx)) (seqM (ifM (notB (isB (M.bind (consM (getV 4) (consM (getV 6) (consM (getV 7) (consM (frzM (lstN (consM (frzM (lstN (consM (M.ret (.str "number")) (consM (getV 6) (M.ret []))))) (consM (frzM (lstN (consM (M.ret (.str "number")) (consM (getV 7) (M.ret []))))) (consM (frzM (lstN (consM (M.ret (.str "number")) (consM (getV 6) (M.ret []))))) (consM (frzM (lstN (M.ret []))) (M.ret []))))))) (M.ret []))))) (callF f__law_plan_right)))) (retM (M.ret (.bl false))) (M.ret .nx)) (seqM (ifM (notB (isB (M.bind (consM (getV 4) (consM (M.ret (.int 100)) (consM (getV 7) (consM (frzM (lstN (consM (frzM (lstN (M.ret []))) (consM (frzM (lstN (consM (M.ret (.str "number")) (consM (getV 7) (M.ret []))))) (consM (frzM (lstN (consM (M.ret (.str "number")) (consM (getV 7) (M.ret []))))) (consM (frzM (lstN (M.ret []))) (M.ret []))))))) (M.ret []))))) (callF f__law_plan_right)))) (retM (M.ret (.bl false))) (M.ret .nx)) (seqM (ifM (notB (isB (M.bind (consM (getV 4) (consM (M.ret (.int 100)) (consM (M.ret .non) (consM (frzM (lstN (consM (frzM (lstN (M.ret []))) (consM (frzM (lstN (consM (M.ret (.str "number")) (consM (M.ret .non) (M.ret []))))) (consM (frzM (lstN (M.ret []))) (consM (frzM (lstN (M.ret []))) (M.ret []))))))) (M.ret []))))) (callF f__law_plan_right)))) (retM (M.ret (.bl false))) (M.ret .nx)) (ifM (notB (isB (M.bind (consM (getV 4) (consM (M.ret (.int 2000)) (consM (M.ret (.int 0)) (consM (frzM (lstN (consM (frzM (lstN (M.ret []))) (consM (frzM (lstN (M.ret []))) (consM (frzM (lstN (consM (M.ret (.str "number")) (consM (M.ret (.int 0)) (M.ret []))))) (consM (frzM (lstN (M.ret []))) (M.ret []))))))) (M.ret []))))) (callF f__law_plan_right)))) (retM (M.ret (.bl false))) (M.ret .nx))))))))))
/-- the same store, so many frames later -/
def up (g : GSt) (n : Nat) : GSt := { g with nx := g.nx + n }
theorem up_0 : up g 0 = g := rfl
theorem up_1 (n : Nat) : ({ up g n with nx := (up g n).nx + 1 } : GSt) = up g (n + 1) := rfl
theorem right_up {a b c d0 d1 d2 d3 : D} (n : Nat) (hT : TabOk g) (w : Wants (up g (n + 1)) a b c d0 d1 d2 d3) : f__law_plan_right [a, b, c, .lst [d0, d1, d2, d3]] (up g n) = .ok (.bl true) (up g (n + 1)) := right_ok (g := up g n) hT w
theorem pl_up (n : Nat) (h : isPlan g k r s l p) : isPlan (up g n) k r s l p := h
theorem turn_loop (t0 : Option Slot) {ks kl : Nat} : ∀ (ds : List D) (g : GSt) (n : Int) (t2 t3 t4 t5 t6 t7 t8 : Option Slot), StOk g ks kl n → n + 40 * ds.length < 900000 → ks < g.nx → kl < g.nx → TabOk g → ks ≠ 0 → kl ≠ 0 → 0 < g.nx →
    ∃ g' a2 a3 a4 a5 a6 a7 a8, forL (gSet 2) turnB ds ⟨g, [t0, some (.val (.ptr ks)), t2, t3, t4, t5, t6, t7, t8]⟩ = .ok .nx ⟨g', [t0, some (.val (.ptr ks)), a2, a3, a4, a5, a6, a7, a8]⟩ := by
  intro ds
  induction ds with
  | nil => intro g n t2 t3 t4 t5 t6 t7 t8 _ _ _ _ _ _ _ _; exact ⟨g, t2, t3, t4, t5, t6, t7, t8, rfl⟩
  | cons d ds ih =>
    intro g n t2 t3 t4 t5 t6 t7 t8 st hn k1 k2 tb n1 n2 n3
    rw [List.length_cons] at hn
    obtain ⟨r, s, l, p, g1, e1, P, s1, f1⟩ := parts_ok st (by omega)
    have k1' : ks < g1.nx := by rw [f1.nx]; exact k1
    have k2' : kl < g1.nx := by rw [f1.nx]; exact k2
    have e2 := planned_ok (g := g1) (p := p) P
    have s2 := stok_pl (r := r) (s := s) (l := l) (p := p) s1 k1' k2'
    have pl := plG_at (g := g1) (r := r) (s := s) (l := l) (p := p)
    have tb1 : TabOk (plG g1 r s l p) := by
      unfold TabOk
      rw [plG_ne (by rw [f1.nx]; omega), f1.eq 0 (Ne.symm n1) (Ne.symm n2)]
      exact tb
    obtain ⟨o, g3, e3, o1, s3, f3⟩ := pick_ok s2 (by omega) (ds := [.non, .int 5, .str "plan", .tup [.int r, .int s, .int l, .bl p], .lst [.int r, .int s, .int l, .bl p], .dic [], .bl true, .lst [.tup [.int r, .int s, .int l, .bl p]]]) (by simp) (by simp)
    obtain ⟨w, g4, e4, w1, s4, f4⟩ := pick_ok s3 (by omega) (ds := [.non, .int (-1), .int 100001, .bl true, .bl false, .str "0", .tup [.int 0], .lst [], .int 1000000000000000000000000000000]) (by simp) (by simp)
    obtain ⟨m, g5, e5, m1, s5, f5⟩ := pick_ok s4 (by omega) (ds := [.int (-1), .int 101, .bl true, .bl false, .str "1", .tup [.int 1], .lst [], .int 1000000000000000000000000000000]) (by simp) (by simp)
    have no : ∀ g : GSt, NoPl g o := fun g => by
      simp only [List.mem_cons, List.not_mem_nil, or_false] at o1
      rcases o1 with h | h | h | h | h | h | h | h <;> subst h
      · exact no_non
      · exact no_int
      · exact no_str
      · exact no_tup
      · exact no_lst
      · exact no_dic
      · exact no_bl
      · exact no_lst
    have wq : (∀ g : GSt, Bad g 0 100000 w) ∧ Sh w := by
      simp only [List.mem_cons, List.not_mem_nil, or_false] at w1
      rcases w1 with h | h | h | h | h | h | h | h | h <;> subst h
      · exact ⟨fun g => bad_non, sh_non⟩
      · exact ⟨fun g => bad_int (.inl (by decide)), sh_m1⟩
      · exact ⟨fun g => bad_int (.inr (by decide)), sh_w⟩
      · exact ⟨fun g => bad_bl, sh_bl _⟩
      · exact ⟨fun g => bad_bl, sh_bl _⟩
      · exact ⟨fun g => bad_str, sh_s0⟩
      · exact ⟨fun g => bad_tup, sh_t0⟩
      · exact ⟨fun g => bad_lst, sh_l⟩
      · exact ⟨fun g => bad_int (.inr (by decide)), sh_h⟩
    have mq : (∀ g : GSt, Bad g 0 100 m) ∧ (∀ g : GSt, Bad g 1 100 m) ∧ Sh m ∧ m.isNon = false := by
      simp only [List.mem_cons, List.not_mem_nil, or_false] at m1
      rcases m1 with h | h | h | h | h | h | h | h <;> subst h
      · exact ⟨fun g => bad_int (.inl (by decide)), fun g => bad_int (.inl (by decide)), sh_m1, rfl⟩
      · exact ⟨fun g => bad_int (.inr (by decide)), fun g => bad_int (.inr (by decide)), sh_101, rfl⟩
      · exact ⟨fun g => bad_bl, fun g => bad_bl, sh_bl _, rfl⟩
      · exact ⟨fun g => bad_bl, fun g => bad_bl, sh_bl _, rfl⟩
      · exact ⟨fun g => bad_str, fun g => bad_str, sh_s1, rfl⟩
      · exact ⟨fun g => bad_tup, fun g => bad_tup, sh_t1, rfl⟩
      · exact ⟨fun g => bad_lst, fun g => bad_lst, sh_l, rfl⟩
      · exact ⟨fun g => bad_int (.inr (by decide)), fun g => bad_int (.inr (by decide)), sh_h, rfl⟩
    have f35 := (f3.trans f4).trans f5
    have pl5 : isPlan g5 g1.nx r s l p := isPlan_fr pl f35 (by omega) (by omega)
    have tb5 : TabOk g5 := by
      unfold TabOk
      rw [f35.eq 0 (Ne.symm n1) (Ne.symm n2)]
      exact tb1
    have r1 := right_up 0 tb5 (q_odd (b := w) (c := m) (no _))
    have r2 := right_up 1 tb5 (q_bad P (pl_up 2 pl5) (wq.1 _) (mq.1 _) wq.2 mq.2.2.1)
    have r3 := right_up 2 tb5 (q_3 P (pl_up 3 pl5) (mq.1 _) (mq.2.1 _) mq.2.2.2 mq.2.2.1)
    have r4 := right_up 3 tb5 (q_4 P (pl_up 4 pl5))
    have r5 := right_up 4 tb5 (q_5 P (pl_up 5 pl5))
    have x5 : g5.nx = g1.nx + 1 := by rw [f35.nx, plG_nx]
    obtain ⟨g', a2, a3, a4, a5, a6, a7, a8, e7⟩ := ih (up g5 5) (n + 40) (some (.val d)) (some (.val (.tup [.int r, .int s, .int l, .bl p]))) (some (.val (.ptr g1.nx))) (some (.val o)) (some (.val w)) (some (.val m)) (some (.val pd)) (stok_le ⟨s5.ne, s5.at_⟩ (by omega)) (by omega) (by show ks < g5.nx + 5; omega) (by show kl < g5.nx + 5; omega) tb5 n1 n2 (by show 0 < g5.nx + 5; omega)
    refine ⟨g', a2, a3, a4, a5, a6, a7, a8, ?_⟩
    rw [← e7]
    have z9 : 9 ≤ sizeLine := sz_le (by omega)
    have z8 : 8 ≤ sizeLine := sz_le (by omega)
    have z4 : 4 ≤ sizeLine := sz_le (by omega)
    have z2 : 2 ≤ sizeLine := sz_le (by omega)
    have z1 : 1 ≤ sizeLine := sz_le (by omega)
    rw [up_0] at r1
    rw [forL_cons]
    simp [turnB, turnM, e_pick, e1, e2, e3, e4, e5, z9, z8, z4, z2, z1, r1, r2, r3, r4, r5, toLst]
theorem law_true (ns : List Int) (hl : ns.length ≤ 63) : ∃ g', f_law [.scr ns] (tabsG tabs) = .ok (.bl true) g' := by
  obtain ⟨g1, e1, s1, x1, h1⟩ := begun_at { tabsG tabs with nx := 1 } ns hl
  have tb : TabOk g1 := by
    unfold TabOk
    rw [h1 0 (by decide)]
    rfl
  have e1' : H.f__law_begun [.scr ns] (tabsG tabs) = .ok (.ptr 2) g1 := e1
  obtain ⟨g', a2, a3, a4, a5, a6, a7, a8, e3⟩ := turn_loop (some (.val (.scr ns))) (ks := 2) (kl := 1) (rngL 0 (5 + mn ns.length 20).toNat) g1 3 none none none none none none none (stok_le s1 (by omega)) (by rw [rngL_length]; unfold mn; split <;> omega) (by rw [x1]; decide) (by rw [x1]; decide) tb (by decide) (by decide) (by rw [x1]; decide)
  refine ⟨g', ?_⟩
  have c1 : -4611686018427387904 ≤ 5 + mn ns.length 20 := by unfold mn; split <;> omega
  have c2 : 5 + mn ns.length 20 < 4611686018427387904 := by unfold mn; split <;> omega
  simp only [turnB, mn] at e3
  simp only [mn] at c1 c2
  simp [f_law, m_law, e_begun, e1', e3, c1, c2]
end
end L2.VI.K77
namespace L2.VI.K77
open PySem PySem.Spec PyProof.Rows He L2 L2.VI
noncomputable section
abbrev RR : PySem.W.OpenRow := PySem.W.OpenLaw.row PySem.Challenge.rw_wholepaid_k77_questions_about_plans_refu
abbrev hk : PySem.W.Hook := hookS 7 tabs sups fa fn gs (exAll exs)
def ob (s : PySem.W.SharedT) : AlS := obsS 7 tabs sups fa fn gs (exAll exs) (HandSHeadRun.getT s)
theorem ob_eq (s : PySem.W.SharedT) : ob s = hk.obs s.abs := obsS_eq (HandSHeadRun.getT_eq s)
def ls0 : List Str := ["__name__", "CreditError", "BadNumber", "BadPlan", "is_number", "is_number_in", "is_list", "THOUSAND", "MOST_LEAST", "MOST_BALANCE", "MOST_MONTHS", "ENDS", "NEVER", "Plan", "need_plan", "need_balance", "month_with", "month", "row_with", "ending", "evidence", "is_evidence", "first_with", "least_endless", "greatest_to", "most_within", "is_enough", "least_extra", "_law_begun", "_law_mixed"]
def ls1 : List Str := ["_law_take", "_law_pick", "_law_parts", "_law_planned", "_law_caught", "_law_kind", "_law_plan_right"]
def loose : List Str := ls0 ++ ls1
theorem run (w : World) : HandSHeadRun.RunEq RR (PySem.W.view RR.prog [40]) hk ob 6000 loose w := by
  intro os
  kernel_rfl
theorem facts {f0 : Addr} {w : World} {K : PySem.W.Frag} {h : Heap} {mg : Str → Option Value} (X : K.In h) (G : h.Ns mainGlobals mg) (c : SaysS sups fa fn gs (exAll exs) K) (hfa : mg ("law" : Str) = some (.ref f0)) :
    (∀ (s : Shared) (v : Value), BindsTo s (fdA K f0) ⟨[v], []⟩ [("_law_script", v)]) ∧ ∀ base : Heap, K.In base → base.Ns mainGlobals mg → (∀ p ∈ tabs, LamX.TabB base mg (codA K p.1) (tabA K p.1)) → FnG PW w K mg base 9 f0 (fdA K f0) ["_law_script"] (spV K 1 f_law) := by
  have C : Ctx K mg := ⟨c, h, X, G⟩
  have e := hfa.symm.trans (C.glo (fa.length - 1) "law" (by rfl))
  cases e
  exact ⟨fun s v => FunD.bindsA (ps := ["_law_script"]) (fun_law C) (fun _ _ _ _ _ _ us hl => match us, hl with | [_], _ => rfl) s [v] rfl, fun base _ _ TB => ok_law C TB⟩
end
end L2.VI.K77
open PySem PySem.W PySem.Calls PyProof.Rows
theorem L2.VI.K77.holds_of (pure : ∀ ns : List Int, ns.length ≤ 63 → ∃ g', L2.VI.K77.f_law [.scr ns] (tabsG L2.VI.K77.tabs) = .ok (.bl true) g') : PySem.Challenge.rw_wholepaid_k77_questions_about_plans_refu.Holds := by
  w_on; o_law
  refine HandSHeadRun.head_any (r := OpenLaw.row PySem.Challenge.rw_wholepaid_k77_questions_about_plans_refu) (q := view (OpenLaw.row PySem.Challenge.rw_wholepaid_k77_questions_about_plans_refu).prog [40]) (H := L2.VI.K77.hk) (ob := L2.VI.K77.ob) (M := 6000) (loose := L2.VI.K77.loose) (d := HandSHeadRun.topDef (OpenLaw.row PySem.Challenge.rw_wholepaid_k77_questions_about_plans_refu).prog 40) (kwd := []) L2.VI.K77.ob_eq
    (by kernel_rfl) (fun s => by kernel_rfl) L2.VI.K77.run (by kernel_rfl) (by kernel_rfl) (by kernel_rfl) (by rfl) (by first | assumption | decide +kernel) (by decide +kernel) ⟨rfl, rfl, rfl, rfl, rfl, by decide +kernel⟩ ?hw ?hc
  case hw => w_witness2
  case hc =>
    refine L2.VI.walkGT (ts := L2.VI.K77.tabs) (l := PySem.Challenge.rw_wholepaid_k77_questions_about_plans_refu) (n := 63) (lv := 9) (x := "_law_script") (law := L2.VI.K77.f_law) rfl (by decide) (by kernel_rfl) ⟨rfl, by decide, by decide⟩ ?F
    intro w mg fa h Y G hmg0
    obtain ⟨K, KX, c, T⟩ := Y
    have hmg : mg ("law" : PySem.Str) = some (.ref fa) := by
      have e : (HandSHeadRun.topDef (OpenLaw.row PySem.Challenge.rw_wholepaid_k77_questions_about_plans_refu).prog 40).name = ("law" : PySem.Str) := by kernel_rfl
      rw [← e]
      exact hmg0
    obtain ⟨hb, hF⟩ := L2.VI.K77.facts (w := w) KX G c hmg
    exact ⟨K, KX, T, _, hb, pure, hF⟩
open PySem PySem.W PyProof.Rows
theorem PySem.Challenge.cw_wholepaid_k77_questions_about_plans_refu_holds : PySem.Challenge.rw_wholepaid_k77_questions_about_plans_refu.Holds := by
  exact L2.VI.K77.holds_of L2.VI.K77.law_true
