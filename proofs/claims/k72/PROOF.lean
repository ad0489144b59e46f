import PyProof.Rows.All
import Wide.All
import OpenK.AllK
import Wide.FinOn
import PySem.Challenge.RW_wholepaid_k72_plans_and_months
import HandS.ForMost
import HandS.Exc
import HandS.ExcOwn
import HandS.WordsExc
import HandS.CallSlots
import HandS.Defaults
import HandS.HeadHook1
import HandS.HeadHook2
import HandS.HeadHook3
import HandS.Lambda
import HandS.IsInst
import HandS.Wide
import HandS.Property
import HandS.MakeKw
import HandS.Style
import HandS.HeadEnd
import HandS.TupAny
import HandS.Conv
import HandS.Strs
import PyProof.ReprRoads
import HandS.ExcInit
import KE.KExcSuper
import KE.KSuper
import HandS.ExcValue
import HandS.EndTab
import KE.KNestM
import HandS.ExcIs
import HandS.ExcField
import HandS.OwnEq
import HandS.SlotsOwn
import HandS.Zip
import HandS.DictComp
import HandS.SortInts
import PyProof.Rows.SortShellAny
import HandS.Head0
import HandS.Head1
import HandS.Head2
set_option Elab.async false
set_option linter.all false
set_option maxRecDepth 100000
set_option maxHeartbeats 0
/-! VI0: deep data over the hand layer: values, stores, the relation to a heap, the judgements. -/
namespace L2.VI
open PySem PySem.Spec PyProof.Rows He

/-- a lambda's text; N: the names of the def that makes it -/
structure LamT where
  qual : Str
  params : Arguments
  body : Expr
  scope : Scope
  N : List Str
/-- a value: frozen data, a name of the module, a pointer to the store, the script, a lambda that the frame fr made -/
inductive D where
  | non | bl (b : Bool) | int (i : Int) | str (x : Str) | ty (n : String) | glo (x : Str)
  | tup (xs : List D) | lst (xs : List D) | dic (kvs : List (Key × D)) | ptr (k : Nat) | scr (ns : List Int) | xob (c : Str) (fs : List (Str × D)) | lam (i : Nat) (L : LamT) (fr : Nat)
/-- what may change: lists, dicts, instances -/
inductive SO where
  | lst (xs : List D) | dic (kvs : List (Key × D)) | dct (kvs : List (List Key × D)) | ins (c : Str) (fs : List (Str × D)) | tab (x q : Str)
structure GSt where
  S : Nat → Option SO
  nx : Nat
/-- frames that stand below: what their captured names hold -/
abbrev Ups := List (Nat × List Str × List (Option D))
/-- a slot: a value, or an object that the slot alone owns; frm: no slot of the text, but what the frame knows: its own number (if it makes lambdas), the frames below -/
inductive Slot where
  | val (d : D) | own (o : SO) | frm (me : Option Nat) (up : Ups)
structure BSt where
  g : GSt
  t : List (Option Slot)
/-- an exception: its class, its attributes -/
structure EX where
  c : Str
  fs : List (Str × D)
inductive R (α : Type) where
  | ok (a : α) (b : BSt) | exc (x : EX) (b : BSt) | fail
abbrev M (α : Type) := BSt → R α
def M.ret {α : Type} (a : α) : M α := fun b => .ok a b
def M.bind {α β : Type} (m : M α) (k : α → M β) : M β := fun b => match m b with
  | .ok a b' => k a b'
  | .exc x b' => .exc x b'
  | .fail => .fail
def M.fail {α : Type} : M α := fun _ => .fail

/-! ### the relation -/
abbrev Cl := List (Str × Addr)
structure Rho where
  p : Nat → Option Addr
  c : Nat → Option Cl
  k : Addr → Option Obj
instance : CoeFun Rho fun _ => Nat → Option Addr := ⟨Rho.p⟩
def rho0 : Rho := ⟨fun _ => none, fun _ => none, fun _ => none⟩
/-- what is constant in a frame: its cells, the base -/
structure FrC where
  cl : Cl
  base : Heap
abbrev PX (_ : FrC) := Hp
def clOf : List Env → Cl
  | e :: _ => e.cells
  | [] => []
abbrev fcOf (X : Cx) : FrC := ⟨clOf X.stack, X.base⟩
/-- the table of the code object of the def x -/
def tabA (K : PySem.W.Frag) (x : Str) : Addr := match K.lookup (ga K x) with
  | some ⟨_, _, .func fd, _⟩ => (match fd.code with
    | .ref c => (match K.lookup c with
      | some ⟨_, _, .fields vs, _⟩ => (match (vs[11]? : Option Value) with
        | some (.ref P) => P
        | _ => 0)
      | _ => 0)
    | _ => 0)
  | _ => 0
def codA (K : PySem.W.Frag) (x : Str) : Addr := match K.lookup (ga K x) with
  | some ⟨_, _, .func fd, _⟩ => (match fd.code with
    | .ref c => c
    | _ => 0)
  | _ => 0
def LamO (L : LamT) (cs : Cl) (pm : Value) (c' : Addr) (ctv : Value) : HO := .frz (PySem.W.kla_obj "<lambda>" L.qual L.params L.body L.scope (cloFrom cs L.scope.names []) pm c' ctv) (.own 0)
/-- an exception that was caught: of the class at C, its dict (none | at d) -/
def XV (C : Addr) (d : Option Addr) (a : Addr) : HO := .ext fun h => ∃ (oe : Obj) (vs : Array Value), h.get? a = some oe ∧ Zc (.ref C) d oe ∧ oe.data = .fields vs
mutual
inductive Rep (K : PySem.W.Frag) (F : Hp) (ρ : Rho) : V → D → Prop
  | non : Rep K F ρ .non .non
  | bl (b : Bool) : Rep K F ρ (.bl b) (.bl b)
  | int (i : Int) : Rep K F ρ (.int i) (.int i)
  | str (x : Str) : Rep K F ρ (.str x) (.str x)
  | ty (n : String) : Rep K F ρ (.ty n) (.ty n)
  | glo (x : Str) : Rep K F ρ (.ref (ga K x)) (.glo x)
  | tup {a : Addr} {vs : List V} {ds : List D} : F a = some (.tup vs) ∨ SqT K (fun _ => none) a vs → RepAll K F ρ vs ds → Rep K F ρ (.ref a) (.tup ds)
  | lst {a : Addr} {vs : List V} {ds : List D} : F a = some (.lst vs) → RepAll K F ρ vs ds → Rep K F ρ (.ref a) (.lst ds)
  | dic {a : Addr} {vs : List (Key × V)} {ds : List (Key × D)} : F a = some (.dK vs) → vs.map (·.1) = ds.map (·.1) → RepAll K F ρ (vs.map (·.2)) (ds.map (·.2)) → Rep K F ρ (.ref a) (.dic ds)
  | ptr {a : Addr} {k : Nat} : ρ k = some a → Rep K F ρ (.ref a) (.ptr k)
  | scr {a : Addr} {ns : List Int} : SqL K F a (ns.map V.int) → Rep K F ρ (.ref a) (.scr ns)
  | xob {a dx : Addr} {c : Str} {vs : List (Str × V)} {ds : List (Str × D)} : F a = some (XV (ga K c) (some dx) a) → F dx = some (.xd vs) → vs.map (·.1) = ds.map (·.1) → RepAll K F ρ (vs.map (·.2)) (ds.map (·.2)) → Rep K F ρ (.ref a) (.xob c ds)
  | xob0 {a : Addr} {c : Str} : F a = some (XV (ga K c) none a) → Rep K F ρ (.ref a) (.xob c [])
  | lam {f c' : Addr} {i fr : Nat} {L : LamT} {cs : Cl} {pm ctv : Value} : F f = some (LamO L cs pm c' ctv) → F c' = some (LamX.CodeO c' L.qual) → ρ.c fr = some cs → (∀ y ∈ L.scope.names, y.2 = .free → ∃ c, cs.lookup y.1 = some c) → Rep K F ρ (.ref f) (.lam i L fr)
inductive RepAll (K : PySem.W.Frag) (F : Hp) (ρ : Rho) : List V → List D → Prop
  | nil : RepAll K F ρ [] []
  | cons {v : V} {vs : List V} {d : D} {ds : List D} : Rep K F ρ v d → RepAll K F ρ vs ds → RepAll K F ρ (v :: vs) (d :: ds)
end
/-- an object at a, in the part Mm of the heap -/
def RepO (K : PySem.W.Frag) (F : Hp) (ρ : Rho) (Mm : Hp) (a : Addr) : SO → Prop
  | .lst ds => ∃ vs, Mm a = some (.lst vs) ∧ RepAll K F ρ vs ds
  | .dic ds => ∃ vs : List (Key × V), Mm a = some (.dK vs) ∧ vs.map (·.1) = ds.map (·.1) ∧ RepAll K F ρ (vs.map (·.2)) (ds.map (·.2))
  | .dct ds => ∃ vs : List (List Key × V), Mm a = some (.dT vs) ∧ vs.map (·.1) = ds.map (·.1) ∧ RepAll K F ρ (vs.map (·.2)) (ds.map (·.2))
  | .ins c ds => ∃ (dx : Addr) (vs : List (Str × V)), Mm a = some (.ins (ga K c) dx vs) ∧ Mm dx = some (.own a) ∧ vs.map (·.1) = ds.map (·.1) ∧ RepAll K F ρ (vs.map (·.2)) (ds.map (·.2))
  | .tab x q => ∃ ps : Array Value, Mm a = some (.tbl ps) ∧ a = tabA K x ∧ TriplesOk ps.toList ∧ ∀ (pos : Pos) (cv : Value), codeAmong pos ps.toList = some cv → ∃ c, cv = .ref c ∧ F c = some (LamX.CodeO c q)
def SO.plain : SO → Bool
  | .ins _ _ => false
  | .tab _ _ => false
  | _ => true
def isDict : HO → Bool
  | .dK _ => true
  | .dT _ => true
  | _ => false
/-- F: frozen, P: what is another's, Mm: the store -/
structure HRel (K : PySem.W.Frag) (F P Mm : Hp) (ρ : Rho) (g : GSt) (H : Hp) : Prop where
  fh : ∀ a u, F a = some u → if isDict u = true then Rd H a u else H a = some u
  ph : ∀ a u, P a = some u → H a = some u
  mh : ∀ a u, Mm a = some u → H a = some u
  fp : ∀ a u, F a = some u → P a = none ∧ Mm a = none
  pm : ∀ a u, P a = some u → Mm a = none
  st : ∀ k so, g.S k = some so → ∃ a, ρ k = some a ∧ RepO K F ρ Mm a so
  inj : ∀ k j a, ρ k = some a → ρ j = some a → k = j
  nx : ∀ k, g.nx ≤ k → ρ k = none ∧ ρ.c k = none
  rh : ∀ k a, ρ k = some a → ∃ u, Mm a = some u ∧ ∀ x, u ≠ .own x
  lk : ∀ a o, ρ.k a = some o → ∃ u, isDict u = true ∧ F a = some u ∧ H a = some (.frz o u)
/-- the frame fr below, its names N, what its captured names hold -/
def UpOk (K : PySem.W.Frag) (F : Hp) (ρ : Rho) (base : Heap) (u : Nat × List Str × List (Option D)) : Prop := ∃ cs : Cl, ρ.c u.1 = some cs ∧ (∀ y z c, cs.lookup y = some c → cs.lookup z = some c → y = z) ∧ u.2.2.length = u.2.1.length ∧
  (∀ y c, cs.lookup y = some c → ∃ v, base.IsCell c v) ∧ ∀ (j : Nat) (d : D), u.2.2[j]? = some (some d) → ∃ (y : Str) (c : Addr) (w : Value) (v : V), u.2.1[j]? = some y ∧ cs.lookup y = some c ∧ base.IsCell c (some w) ∧ RelV v w ∧ Rep K F ρ v d
def Lk (K : PySem.W.Frag) (F : Hp) (ρ : Rho) (fc : FrC) (me : Option Nat) (up : Ups) : Prop := (∀ fr, me = some fr → ρ.c fr = some fc.cl) ∧ ∀ u ∈ up, UpOk K F ρ fc.base u
def SlotRel (K : PySem.W.Frag) (F : Hp) {fc : FrC} (P0 : PX fc) (P : Hp) (ρ : Rho) (q : Nat → Option Addr) (σ : St) (i : Nat) : Slot → Prop
  | .val d => ∃ v, σ[i]? = some (some v) ∧ Rep K F ρ v d
  | .own so => ∃ p, σ[i]? = some (some (.ref p)) ∧ q i = some p ∧ P0 p = none ∧ RepO K F ρ P p so ∧ so.plain = true
  | .frm me up => ∃ v, σ[i]? = some (some v) ∧ Lk K F ρ fc me up
structure BR (K : PySem.W.Frag) (F : Hp) {fc : FrC} (P0 : PX fc) (P Mm : Hp) (ρ : Rho) (q : Nat → Option Addr) (b : BSt) (σ : St) (H : Hp) : Prop where
  h : HRel K F P Mm ρ b.g H
  pp : ∀ a u, P0 a = some u → P a = some u
  len : σ.length = b.t.length
  qi : ∀ i j p, q i = some p → q j = some p → i = j
  sl : ∀ i s, b.t[i]? = some (some s) → SlotRel K F P0 P ρ q σ i s
def BRel (K : PySem.W.Frag) (F : Hp) {fc : FrC} (P0 : PX fc) (Mm : Hp) (ρ : Rho) (b : BSt) (σ : St) (H : Hp) : Prop := ∃ P q, BR K F P0 P Mm ρ q b σ H
def Leq (F F' : Hp) : Prop := ∀ a u, F a = some u → F' a = some u
structure Rle (ρ ρ' : Rho) : Prop where
  p : ∀ k a, ρ k = some a → ρ' k = some a
  c : ∀ k cs, ρ.c k = some cs → ρ'.c k = some cs
  k : ∀ a o, ρ.k a = some o → ρ'.k a = some o
theorem Leq.refl (F : Hp) : Leq F F := fun _ _ h => h
theorem Leq.trans {F G H : Hp} (a : Leq F G) (b : Leq G H) : Leq F H := fun x u h => b x u (a x u h)
theorem Rle.refl (r : Rho) : Rle r r := ⟨fun _ _ h => h, fun _ _ h => h, fun _ _ h => h⟩
theorem Rle.trans {F G H : Rho} (a : Rle F G) (b : Rle G H) : Rle F H := ⟨fun x u h => b.p x u (a.p x u h), fun x u h => b.c x u (a.c x u h), fun x u h => b.k x u (a.k x u h)⟩
theorem SqL.leq {K : PySem.W.Frag} {F F' : Hp} {a : Addr} {xs : List V} (e : Leq F F') (h : SqL K F a xs) : SqL K F' a xs := by
  rcases h with (h | ⟨o, h⟩) | h
  · exact .inl (.inl (e _ _ h))
  · exact .inl (.inr ⟨o, e _ _ h⟩)
  · exact .inr h
mutual
theorem Rep.mono {K : PySem.W.Frag} {F F' : Hp} {ρ ρ' : Rho} (e : Leq F F') (r : Rle ρ ρ') : ∀ {v : V} {d : D}, Rep K F ρ v d → Rep K F' ρ' v d
  | _, _, .non => .non
  | _, _, .bl b => .bl b
  | _, _, .int i => .int i
  | _, _, .str x => .str x
  | _, _, .ty n => .ty n
  | _, _, .glo x => .glo x
  | _, _, .tup h a => .tup (h.imp (e _ _) id) (RepAll.mono e r a)
  | _, _, .lst h a => .lst (e _ _ h) (RepAll.mono e r a)
  | _, _, .dic h k a => .dic (e _ _ h) k (RepAll.mono e r a)
  | _, _, .ptr h => .ptr (r.p _ _ h)
  | _, _, .scr h => .scr (SqL.leq e h)
  | _, _, .xob h1 h2 h3 h4 => .xob (e _ _ h1) (e _ _ h2) h3 (RepAll.mono e r h4)
  | _, _, .xob0 h => .xob0 (e _ _ h)
  | _, _, .lam h1 h2 h3 h4 => .lam (e _ _ h1) (e _ _ h2) (r.c _ _ h3) h4
theorem RepAll.mono {K : PySem.W.Frag} {F F' : Hp} {ρ ρ' : Rho} (e : Leq F F') (r : Rle ρ ρ') : ∀ {v : List V} {d : List D}, RepAll K F ρ v d → RepAll K F' ρ' v d
  | _, _, .nil => .nil
  | _, _, .cons h t => .cons (Rep.mono e r h) (RepAll.mono e r t)
end
theorem RepO.mono {K : PySem.W.Frag} {F F' : Hp} {ρ ρ' : Rho} {Mm Mm' : Hp} {a : Addr} {so : SO} (e : Leq F F') (r : Rle ρ ρ') (h : RepO K F ρ Mm a so) (m : ∀ b u, (b = a ∨ u = .own a) → Mm b = some u → Mm' b = some u) : RepO K F' ρ' Mm' a so := by
  cases so with
  | lst ds => obtain ⟨vs, h1, h2⟩ := h; exact ⟨vs, m _ _ (.inl rfl) h1, h2.mono e r⟩
  | dic ds => obtain ⟨vs, h1, h2, h3⟩ := h; exact ⟨vs, m _ _ (.inl rfl) h1, h2, h3.mono e r⟩
  | dct ds => obtain ⟨vs, h1, h2, h3⟩ := h; exact ⟨vs, m _ _ (.inl rfl) h1, h2, h3.mono e r⟩
  | ins c ds => obtain ⟨dx, vs, h1, h2, h3, h4⟩ := h; exact ⟨dx, vs, m _ _ (.inl rfl) h1, m _ _ (.inr rfl) h2, h3, h4.mono e r⟩
  | tab x q => obtain ⟨ps, h1, h2, h3, h4⟩ := h; exact ⟨ps, m _ _ (.inl rfl) h1, h2, h3, fun pos cv hc => by obtain ⟨c, e1, e2⟩ := h4 pos cv hc; exact ⟨c, e1, e _ _ e2⟩⟩
theorem UpOk.mono {K : PySem.W.Frag} {F F' : Hp} {ρ ρ' : Rho} {base : Heap} {u : Nat × List Str × List (Option D)} (e : Leq F F') (r : Rle ρ ρ') (h : UpOk K F ρ base u) : UpOk K F' ρ' base u := by
  obtain ⟨cs, h1, h2, h3, h4, h5⟩ := h
  refine ⟨cs, r.c _ _ h1, h2, h3, h4, fun j d hj => ?_⟩
  obtain ⟨y, c, w, v, q1, q2, q3, q4, q5⟩ := h5 j d hj
  exact ⟨y, c, w, v, q1, q2, q3, q4, q5.mono e r⟩
theorem Lk.mono {K : PySem.W.Frag} {F F' : Hp} {ρ ρ' : Rho} {fc : FrC} {me : Option Nat} {up : Ups} (e : Leq F F') (r : Rle ρ ρ') (h : Lk K F ρ fc me up) : Lk K F' ρ' fc me up := ⟨fun fr z => r.c _ _ (h.1 fr z), fun u hu => (h.2 u hu).mono e r⟩
theorem RepAll.length {K : PySem.W.Frag} {F : Hp} {ρ : Rho} : ∀ {vs : List V} {ds : List D}, RepAll K F ρ vs ds → vs.length = ds.length
  | _, _, .nil => rfl
  | _, _, .cons _ t => by simp [RepAll.length t]
theorem RepAll.get {K : PySem.W.Frag} {F : Hp} {ρ : Rho} : ∀ {vs : List V} {ds : List D} {i : Nat} {d : D}, RepAll K F ρ vs ds → ds[i]? = some d → ∃ v, vs[i]? = some v ∧ Rep K F ρ v d
  | _, _, _, _, .nil, e => by simp at e
  | _, _, 0, _, .cons r _, e => by simp at e; subst e; exact ⟨_, rfl, r⟩
  | _, _, i + 1, _, .cons _ t, e => by
    obtain ⟨u, h1, h2⟩ := RepAll.get (i := i) t (by simpa using e)
    exact ⟨u, by simpa using h1, h2⟩
theorem RepAll.getV {K : PySem.W.Frag} {F : Hp} {ρ : Rho} : ∀ {vs : List V} {ds : List D} {i : Nat} {v : V}, RepAll K F ρ vs ds → vs[i]? = some v → ∃ d, ds[i]? = some d ∧ Rep K F ρ v d
  | _, _, _, _, .nil, e => by simp at e
  | _, _, 0, _, .cons r _, e => by simp at e; subst e; exact ⟨_, rfl, r⟩
  | _, _, i + 1, _, .cons _ t, e => by
    obtain ⟨u, h1, h2⟩ := RepAll.getV (i := i) t (by simpa using e)
    exact ⟨u, by simpa using h1, h2⟩
theorem RepAll.append {K : PySem.W.Frag} {F : Hp} {ρ : Rho} : ∀ {vs us : List V} {ds es : List D}, RepAll K F ρ vs ds → RepAll K F ρ us es → RepAll K F ρ (vs ++ us) (ds ++ es)
  | _, _, _, _, .nil, s => s
  | _, _, _, _, .cons r t, s => .cons r (RepAll.append t s)
theorem RepAll.take {K : PySem.W.Frag} {F : Hp} {ρ : Rho} : ∀ {vs : List V} {ds : List D} (n : Nat), RepAll K F ρ vs ds → RepAll K F ρ (vs.take n) (ds.take n)
  | _, _, 0, _ => .nil
  | _, _, _ + 1, .nil => .nil
  | _, _, n + 1, .cons r t => .cons r (RepAll.take n t)
theorem RepAll.drop {K : PySem.W.Frag} {F : Hp} {ρ : Rho} : ∀ {vs : List V} {ds : List D} (n : Nat), RepAll K F ρ vs ds → RepAll K F ρ (vs.drop n) (ds.drop n)
  | _, _, 0, r => r
  | _, _, _ + 1, .nil => .nil
  | _, _, n + 1, .cons r t => RepAll.drop n t
theorem RepAll.set {K : PySem.W.Frag} {F : Hp} {ρ : Rho} {v : V} {d : D} (r : Rep K F ρ v d) : ∀ {vs : List V} {ds : List D} (i : Nat), RepAll K F ρ vs ds → RepAll K F ρ (vs.set i v) (ds.set i d)
  | _, _, _, .nil => .nil
  | _, _, 0, .cons _ t => .cons r t
  | _, _, i + 1, .cons q t => .cons q (RepAll.set r i t)
theorem RepAll.eraseIdx {K : PySem.W.Frag} {F : Hp} {ρ : Rho} : ∀ {vs : List V} {ds : List D} (i : Nat), RepAll K F ρ vs ds → RepAll K F ρ (vs.eraseIdx i) (ds.eraseIdx i)
  | _, _, _, .nil => .nil
  | _, _, 0, .cons _ t => t
  | _, _, i + 1, .cons q t => .cons q (RepAll.eraseIdx i t)
theorem RepAll.dropLast {K : PySem.W.Frag} {F : Hp} {ρ : Rho} {vs : List V} {ds : List D} (h : RepAll K F ρ vs ds) : RepAll K F ρ vs.dropLast ds.dropLast := by
  rw [List.dropLast_eq_take, List.dropLast_eq_take, h.length]; exact h.take _
theorem RepAll.ints {K : PySem.W.Frag} {F : Hp} {ρ : Rho} : ∀ {vs : List V} {ns : List Int}, RepAll K F ρ vs (ns.map D.int) → vs = ns.map V.int
  | _, [], h => by cases h; rfl
  | _, n :: ns, h => by
    cases h with
    | cons r t => cases r; rw [RepAll.ints t]; rfl
theorem RepAll.bls {K : PySem.W.Frag} {F : Hp} {ρ : Rho} : ∀ {vs : List V} {ns : List Bool}, RepAll K F ρ vs (ns.map D.bl) → vs = ns.map V.bl
  | _, [], h => by cases h; rfl
  | _, n :: ns, h => by
    cases h with
    | cons r t => cases r; rw [RepAll.bls t]; rfl
theorem RepAll.strs {K : PySem.W.Frag} {F : Hp} {ρ : Rho} : ∀ {vs : List V} {ns : List Str}, RepAll K F ρ vs (ns.map D.str) → vs = ns.map V.str
  | _, [], h => by cases h; rfl
  | _, n :: ns, h => by
    cases h with
    | cons r t => cases r; rw [RepAll.strs t]; rfl
theorem RepAll.of_ints {K : PySem.W.Frag} {F : Hp} {ρ : Rho} : ∀ ns : List Int, RepAll K F ρ (ns.map V.int) (ns.map D.int)
  | [] => .nil
  | n :: ns => .cons (.int n) (RepAll.of_ints ns)
theorem RepAll.of_strs {K : PySem.W.Frag} {F : Hp} {ρ : Rho} : ∀ ns : List Str, RepAll K F ρ (ns.map V.str) (ns.map D.str)
  | [] => .nil
  | n :: ns => .cons (.str n) (RepAll.of_strs ns)

/-! ### heaps -/
section
variable {K : PySem.W.Frag} {F P : Hp} {fc : FrC} {P0 : PX fc} {Mm H : Hp} {ρ : Rho} {g : GSt} {p a : Addr} {u : HO}
/-- what the locks keep -/
theorem HRel.lkUp (h : HRel K F P Mm ρ g H) {F' H' : Hp} (eF : ∀ a u, F a = some u → F' a = some u) (eH : ∀ a o u, F a = some u → H a = some (.frz o u) → H' a = some (.frz o u)) :
    ∀ a o, ρ.k a = some o → ∃ u, isDict u = true ∧ F' a = some u ∧ H' a = some (.frz o u) := fun a o z => by
  obtain ⟨u, d, f, e⟩ := h.lk a o z
  exact ⟨u, d, eF a u f, eH a o u f e⟩
theorem HRel.fnone (h : HRel K F P Mm ρ g H) (n : H p = none) : F p = none := by
  cases e : F p with
  | none => rfl
  | some u =>
    have q := h.fh p u e
    split at q
    · rcases q with q | ⟨o, q⟩ <;> (rw [n] at q; cases q)
    · rw [n] at q; cases q
theorem HRel.pnone (h : HRel K F P Mm ρ g H) (n : H p = none) : P p = none := by
  cases e : P p with
  | none => rfl
  | some u => have q := h.ph p u e; rw [n] at q; cases q
theorem HRel.mnone (h : HRel K F P Mm ρ g H) (n : H p = none) : Mm p = none := by
  cases e : Mm p with
  | none => rfl
  | some u => have q := h.mh p u e; rw [n] at q; cases q
theorem leq_upd (n : F p = none) : Leq F (upd F p u) := fun b v e => by
  by_cases hb : b = p
  · subst hb; rw [n] at e; cases e
  · rw [upd_ne hb]; exact e
/-- a new frozen object -/
theorem HRel.frozen (h : HRel K F P Mm ρ g H) (n : H p = none) : HRel K (upd F p u) P Mm ρ g (upd H p u) := by
  have nF := h.fnone n
  have nP := h.pnone n
  have nM := h.mnone n
  have ne : ∀ {G : Hp} {b : Addr} {v : HO}, G p = none → G b = some v → b ≠ p := fun {G b v} gn e z => by subst z; rw [gn] at e; cases e
  refine ⟨fun b v e => ?_, fun b v e => ?_, fun b v e => ?_, fun b v e => ?_, h.pm, fun k so e => ?_, h.inj, h.nx, h.rh, h.lkUp (leq_upd nF) fun a o v f e => by rw [upd_ne (ne nF f)]; exact e⟩
  · by_cases hb : b = p
    · subst hb; rw [upd_same] at e; cases e
      split
      · exact .inl upd_same
      · exact upd_same
    · rw [upd_ne hb] at e
      have q := h.fh b v e
      split
      · rename_i hd
        rw [if_pos hd] at q
        rcases q with q | ⟨o, q⟩
        · exact .inl (by rw [upd_ne hb]; exact q)
        · exact .inr ⟨o, by rw [upd_ne hb]; exact q⟩
      · rename_i hd
        rw [if_neg hd] at q
        rw [upd_ne hb]; exact q
  · rw [upd_ne (ne nP e)]; exact h.ph b v e
  · rw [upd_ne (ne nM e)]; exact h.mh b v e
  · by_cases hb : b = p
    · subst hb; exact ⟨nP, nM⟩
    · rw [upd_ne hb] at e; exact h.fp b v e
  · obtain ⟨a, e1, e2⟩ := h.st k so e
    exact ⟨a, e1, e2.mono (leq_upd nF) (Rle.refl _) fun _ _ _ z => z⟩
/-- a new object of another's (a slot's) -/
theorem HRel.owned (h : HRel K F P Mm ρ g H) (n : H p = none) : HRel K F (upd P p u) Mm ρ g (upd H p u) := by
  have nF := h.fnone n
  have nP := h.pnone n
  have nM := h.mnone n
  have ne : ∀ {G : Hp} {b : Addr} {v : HO}, G p = none → G b = some v → b ≠ p := fun {G b v} gn e z => by subst z; rw [gn] at e; cases e
  refine ⟨fun b v e => ?_, fun b v e => ?_, fun b v e => ?_, fun b v e => ?_, fun b v e => ?_, h.st, h.inj, h.nx, h.rh, h.lkUp (fun _ _ e => e) fun a o v f e => by rw [upd_ne (ne nF f)]; exact e⟩
  · have hb := ne nF e
    have q := h.fh b v e
    split
    · rename_i hd
      rw [if_pos hd] at q
      rcases q with q | ⟨o, q⟩
      · exact .inl (by rw [upd_ne hb]; exact q)
      · exact .inr ⟨o, by rw [upd_ne hb]; exact q⟩
    · rename_i hd
      rw [if_neg hd] at q
      rw [upd_ne hb]; exact q
  · by_cases hb : b = p
    · subst hb; rw [upd_same] at e ⊢; exact e
    · rw [upd_ne hb] at e ⊢; exact h.ph b v e
  · rw [upd_ne (ne nM e)]; exact h.mh b v e
  · have hb := ne nF e
    rw [upd_ne hb]; exact h.fp b v e
  · by_cases hb : b = p
    · subst hb; exact nM
    · rw [upd_ne hb] at e; exact h.pm b v e
/-- an owned object is changed -/
theorem HRel.setP (h : HRel K F P Mm ρ g H) {w : HO} (e0 : P p = some w) : HRel K F (upd P p u) Mm ρ g (upd H p u) := by
  have nF : F p = none := by
    cases e : F p with
    | none => rfl
    | some v => rw [(h.fp p v e).1] at e0; cases e0
  have nM := h.pm p w e0
  have ne : ∀ {G : Hp} {b : Addr} {v : HO}, G p = none → G b = some v → b ≠ p := fun {G b v} gn e z => by subst z; rw [gn] at e; cases e
  refine ⟨fun b v e => ?_, fun b v e => ?_, fun b v e => ?_, fun b v e => ?_, fun b v e => ?_, h.st, h.inj, h.nx, h.rh, h.lkUp (fun _ _ e => e) fun a o v f e => by rw [upd_ne (ne nF f)]; exact e⟩
  · have hb := ne nF e
    have q := h.fh b v e
    split
    · rename_i hd
      rw [if_pos hd] at q
      rcases q with q | ⟨o, q⟩
      · exact .inl (by rw [upd_ne hb]; exact q)
      · exact .inr ⟨o, by rw [upd_ne hb]; exact q⟩
    · rename_i hd
      rw [if_neg hd] at q
      rw [upd_ne hb]; exact q
  · by_cases hb : b = p
    · subst hb; rw [upd_same] at e ⊢; exact e
    · rw [upd_ne hb] at e ⊢; exact h.ph b v e
  · rw [upd_ne (ne nM e)]; exact h.mh b v e
  · have hb := ne nF e
    rw [upd_ne hb]; exact h.fp b v e
  · by_cases hb : b = p
    · subst hb; exact nM
    · rw [upd_ne hb] at e; exact h.pm b v e
def rmv (G : Hp) (p : Addr) : Hp := fun b => if b = p then none else G b
theorem rmv_ne {G : Hp} {b : Addr} (h : b ≠ p) : rmv G p b = G b := if_neg h
theorem rmv_same {G : Hp} : rmv G p p = none := if_pos rfl
theorem rmv_some {G : Hp} {b : Addr} {v : HO} (e : rmv G p b = some v) : b ≠ p ∧ G b = some v := by
  by_cases hb : b = p
  · subst hb; rw [rmv_same] at e; cases e
  · exact ⟨hb, by rw [rmv_ne hb] at e; exact e⟩
/-- an owned object is frozen -/
theorem HRel.freeze (h : HRel K F P Mm ρ g H) (e0 : P p = some u) : HRel K (upd F p u) (rmv P p) Mm ρ g H := by
  have nF : F p = none := by
    cases e : F p with
    | none => rfl
    | some v => rw [(h.fp p v e).1] at e0; cases e0
  refine ⟨fun b v e => ?_, fun b v e => ?_, h.mh, fun b v e => ?_, fun b v e => ?_, fun k so e => ?_, h.inj, h.nx, h.rh, h.lkUp (leq_upd nF) fun _ _ _ _ e => e⟩
  · by_cases hb : b = p
    · subst hb; rw [upd_same] at e; cases e
      split
      · exact .inl (h.ph _ _ e0)
      · exact h.ph _ _ e0
    · rw [upd_ne hb] at e; exact h.fh b v e
  · obtain ⟨hb, e⟩ := rmv_some e; exact h.ph b v e
  · by_cases hb : b = p
    · subst hb; exact ⟨rmv_same, h.pm _ _ e0⟩
    · rw [upd_ne hb] at e
      obtain ⟨q1, q2⟩ := h.fp b v e
      exact ⟨by rw [rmv_ne hb]; exact q1, q2⟩
  · obtain ⟨hb, e⟩ := rmv_some e; exact h.pm b v e
  · obtain ⟨a, e1, e2⟩ := h.st k so e
    exact ⟨a, e1, e2.mono (leq_upd nF) (Rle.refl _) fun _ _ _ z => z⟩
end

/-! ### the store -/
def GSt.put (g : GSt) (k : Nat) (so : SO) : GSt := { g with S := fun j => if j = k then some so else g.S j }
def GSt.new (g : GSt) (so : SO) : GSt := ⟨fun j => if j = g.nx then some so else g.S j, g.nx + 1⟩
def rput (ρ : Rho) (k : Nat) (a : Addr) : Rho := ⟨fun j => if j = k then some a else ρ j, ρ.c, ρ.k⟩
theorem rput_same {ρ : Rho} {k : Nat} {a : Addr} : rput ρ k a k = some a := if_pos rfl
theorem rput_ne {ρ : Rho} {k j : Nat} {a : Addr} (h : j ≠ k) : rput ρ k a j = ρ j := if_neg h
theorem rle_put {ρ : Rho} {k : Nat} {a : Addr} (n : ρ k = none) : Rle ρ (rput ρ k a) := ⟨fun j b e => by
  by_cases hj : j = k
  · subst hj; rw [n] at e; cases e
  · rw [rput_ne hj]; exact e, fun _ _ h => h, fun _ _ h => h⟩
end L2.VI
/-! VI1: judgements over deep data, their glue. -/
namespace L2.VI
open PySem PySem.Spec PyProof.Rows He

/-- an exception's class and own dict stand for x -/
def RepX (K : PySem.W.Frag) (F : Hp) (ρ : Rho) (x : EX) (cls : Value) (d : Option Addr) : Prop :=
  cls = .ref (ga K x.c) ∧ ((x.fs = [] ∧ d = none) ∨ ∃ (dx : Addr) (vs : List (Str × V)), d = some dx ∧ F dx = some (.xd vs) ∧ vs.map (·.1) = x.fs.map (·.1) ∧ RepAll K F ρ (vs.map (·.2)) (x.fs.map (·.2)))
def Post {α β : Type} (rel : Hp → Rho → β → α → Prop) (K : PySem.W.Frag) (W : WX) {fc : FrC} (P0 : PX fc) (F : Hp) (ρ : Rho) (σ : St) (Q : β → Hp → Prop) : R α → Prop
  | .ok a b' => ∀ (x : β) (F' M' : Hp) (ρ' : Rho) (H' : Hp), Leq F F' → Rle ρ ρ' → BRel K F' P0 M' ρ' b' σ H' → rel F' ρ' x a → Q x H'
  | .exc x b' => ∀ (cls : Value) (d : Option Addr) (F' M' : Hp) (ρ' : Rho) (H' : Hp), Leq F F' → Rle ρ ρ' → BRel K F' P0 M' ρ' b' σ H' → RepX K F' ρ' x cls d → W cls d σ H'
  | .fail => False
def tM {fc : FrC} {α β : Type} (rel : Hp → Rho → β → α → Prop) (K : PySem.W.Frag) (W : WX) (m : M α) : St → Hp → (β → Hp → Prop) → Prop :=
  fun σ H Q => ∃ (F : Hp) (P0 : PX fc) (Mm : Hp) (ρ : Rho) (b : BSt), BRel K F P0 Mm ρ b σ H ∧ Post rel K W P0 F ρ σ Q (m b)
abbrev tE {fc : FrC} (K : PySem.W.Frag) (W : WX) (m : M D) : TE := tM (fc := fc) (Rep K) K W m
abbrev tT {fc : FrC} (K : PySem.W.Frag) (W : WX) (m : M Bool) : TT := tM (fc := fc) (fun _ _ x a => x = a) K W m
abbrev tA {fc : FrC} (K : PySem.W.Frag) (W : WX) (m : M (List D)) : TA := tM (fc := fc) (RepAll K) K W m
def SE (X : Cx) (W : WX) (e : Expr) (m : M D) : Prop := PE X e (tE (fc := fcOf X) X.K W m)
def SB (X : Cx) (W : WX) (e : Expr) (m : M Bool) : Prop := PT X e (tT (fc := fcOf X) X.K W m)
def SA (X : Cx) (W : WX) (es : List Expr) (m : M (List D)) : Prop := PA X es (tA (fc := fcOf X) X.K W m)
section
variable {α β γ δ : Type} {rel : Hp → Rho → β → α → Prop} {rel' : Hp → Rho → δ → γ → Prop} {K : PySem.W.Frag} {W : WX} {fc : FrC} {P0 : PX fc} {F F1 Mm H : Hp} {ρ r1 : Rho} {σ : St} {b : BSt} {Q : β → Hp → Prop} {Q' : δ → Hp → Prop}
theorem Post.mono {r : R α} (h : Post rel K W P0 F ρ σ Q r) (l : Leq F F1) (e : Rle ρ r1) : Post rel K W P0 F1 r1 σ Q r := by
  cases r with
  | ok a b' => exact fun x F' M' ρ' H' l' e' B r => h x F' M' ρ' H' (l.trans l') (e.trans e') B r
  | exc x b' => exact fun c d F' M' ρ' H' l' e' B r => h c d F' M' ρ' H' (l.trans l') (e.trans e') B r
  | fail => exact h
theorem tM_of {m : M α} (B : BRel K F P0 Mm ρ b σ H) (h : Post rel K W P0 F ρ σ Q (m b)) : tM (fc := fc) rel K W m σ H Q := ⟨F, P0, Mm, ρ, b, B, h⟩
theorem tM_then {m : M α} {k : α → M γ} (B : BRel K F P0 Mm ρ b σ H) (h : Post rel' K W P0 F ρ σ Q' (M.bind m k b))
    (hk : ∀ x a F1 M1 r1 b1 H1, Leq F F1 → Rle ρ r1 → BRel K F1 P0 M1 r1 b1 σ H1 → rel F1 r1 x a → Post rel' K W P0 F1 r1 σ Q' (k a b1) → Q x H1) : tM (fc := fc) rel K W m σ H Q := by
  refine ⟨F, P0, Mm, ρ, b, B, ?_⟩
  unfold M.bind at h
  cases e : m b with
  | ok a b' =>
    rw [e] at h
    exact fun x F' M' ρ' H' l r B' q => hk x a F' M' ρ' b' H' l r B' q (Post.mono h l r)
  | exc x b' => rw [e] at h; exact h
  | fail => rw [e] at h; exact h.elim
/-- the end of a rule: the value is handed on -/
theorem Post.now {a : α} {x : β} (h : Post rel K W P0 F ρ σ Q (.ok a b)) (B : BRel K F P0 Mm ρ b σ H) (q : rel F ρ x a) : Q x H := h x F Mm ρ H (Leq.refl _) (Rle.refl _) B q
end
/-- m, if c holds -/
def guardM {α : Type} (c : Prop) [Decidable c] (m : M α) : M α := fun b => if c then m b else .fail
theorem Post.guard {α β : Type} {rel : Hp → Rho → β → α → Prop} {K : PySem.W.Frag} {W : WX} {fc : FrC} {P0 : PX fc} {F : Hp} {ρ : Rho} {σ : St} {b : BSt} {Q : β → Hp → Prop} {c : Prop} [Decidable c] {m : M α} (h : Post rel K W P0 F ρ σ Q (guardM c m b)) : c ∧ Post rel K W P0 F ρ σ Q (m b) := by
  unfold guardM at h
  split at h
  · rename_i hc; exact ⟨hc, h⟩
  · exact h.elim
/-- a rule from one of the hand layer -/
theorem SE.of {X : Cx} {W : WX} {e : Expr} {m : M D} {t : TE} (h : PE X e t)
    (ht : ∀ σ H F (P0 : PX (fcOf X)) Mm ρ b Q, BRel X.K F P0 Mm ρ b σ H → Post (Rep X.K) X.K W P0 F ρ σ Q (m b) → t σ H Q) : SE X W e m := ⟨fun pins s σ H Q I ⟨F, P0, Mm, ρ, b, B, q⟩ => h.run pins s σ H Q I (ht σ H F P0 Mm ρ b Q B q)⟩
theorem SB.of {X : Cx} {W : WX} {e : Expr} {m : M Bool} {t : TT} (h : PT X e t)
    (ht : ∀ σ H F (P0 : PX (fcOf X)) Mm ρ b Q, BRel X.K F P0 Mm ρ b σ H → Post (fun _ _ x a => x = a) X.K W P0 F ρ σ Q (m b) → t σ H Q) : SB X W e m := ⟨fun pins s σ H Q I ⟨F, P0, Mm, ρ, b, B, q⟩ => h.run pins s σ H Q I (ht σ H F P0 Mm ρ b Q B q)⟩
theorem SA.of {X : Cx} {W : WX} {e : List Expr} {m : M (List D)} {t : TA} (h : PA X e t)
    (ht : ∀ σ H F (P0 : PX (fcOf X)) Mm ρ b Q, BRel X.K F P0 Mm ρ b σ H → Post (RepAll X.K) X.K W P0 F ρ σ Q (m b) → t σ H Q) : SA X W e m := ⟨fun pos pins s σ H Q I ⟨F, P0, Mm, ρ, b, B, q⟩ => h.run pos pins s σ H Q I (ht σ H F P0 Mm ρ b Q B q)⟩

/-! ### fresh objects -/
/-- at p: a fresh object, nobody's -/
def Frs (K : PySem.W.Frag) (F : Hp) {fc : FrC} (P0 : PX fc) (Mm : Hp) (ρ : Rho) (b : BSt) (σ : St) (H : Hp) (p : Addr) (so : SO) : Prop :=
  ∃ P q, BR K F P0 P Mm ρ q b σ H ∧ RepO K F ρ P p so ∧ so.plain = true ∧ P0 p = none ∧ ∀ i, q i ≠ some p
def PostF (K : PySem.W.Frag) (W : WX) {fc : FrC} (P0 : PX fc) (F : Hp) (ρ : Rho) (σ : St) (Q : VK) : R SO → Prop
  | .ok so b' => ∀ (p : Addr) (F' M' : Hp) (ρ' : Rho) (H' : Hp), Leq F F' → Rle ρ ρ' → Frs K F' P0 M' ρ' b' σ H' p so → Q (.ref p) H'
  | .exc x b' => ∀ (cls : Value) (d : Option Addr) (F' M' : Hp) (ρ' : Rho) (H' : Hp), Leq F F' → Rle ρ ρ' → BRel K F' P0 M' ρ' b' σ H' → RepX K F' ρ' x cls d → W cls d σ H'
  | .fail => False
def tF {fc : FrC} (K : PySem.W.Frag) (W : WX) (m : M SO) : TE := fun σ H Q => ∃ (F : Hp) (P0 : PX fc) (Mm : Hp) (ρ : Rho) (b : BSt), BRel K F P0 Mm ρ b σ H ∧ PostF K W P0 F ρ σ Q (m b)
/-- an expression that makes a new object -/
def SN (X : Cx) (W : WX) (e : Expr) (m : M SO) : Prop := PE X e (tF (fc := fcOf X) X.K W m)
theorem SN.of {X : Cx} {W : WX} {e : Expr} {m : M SO} {t : TE} (h : PE X e t)
    (ht : ∀ σ H F (P0 : PX (fcOf X)) Mm ρ b Q, BRel X.K F P0 Mm ρ b σ H → PostF X.K W P0 F ρ σ Q (m b) → t σ H Q) : SN X W e m := ⟨fun pins s σ H Q I ⟨F, P0, Mm, ρ, b, B, q⟩ => h.run pins s σ H Q I (ht σ H F P0 Mm ρ b Q B q)⟩
theorem PostF.mono {K : PySem.W.Frag} {W : WX} {fc : FrC} {P0 : PX fc} {F F1 : Hp} {ρ r1 : Rho} {σ : St} {Q : VK} {r : R SO} (h : PostF K W P0 F ρ σ Q r) (l : Leq F F1) (e : Rle ρ r1) : PostF K W P0 F1 r1 σ Q r := by
  cases r with
  | ok a b' => exact fun x F' M' ρ' H' l' e' B => h x F' M' ρ' H' (l.trans l') (e.trans e') B
  | exc x b' => exact fun c d F' M' ρ' H' l' e' B r => h c d F' M' ρ' H' (l.trans l') (e.trans e') B r
  | fail => exact h
/-- a step ahead of a fresh object -/
theorem tM_thenF {α β : Type} {rel : Hp → Rho → β → α → Prop} {K : PySem.W.Frag} {W : WX} {fc : FrC} {P0 : PX fc} {F Mm H : Hp} {ρ : Rho} {σ : St} {b : BSt} {Q : β → Hp → Prop} {Q' : VK} {m : M α} {k : α → M SO} (B : BRel K F P0 Mm ρ b σ H) (h : PostF K W P0 F ρ σ Q' (M.bind m k b))
    (hk : ∀ x a F1 M1 r1 b1 H1, Leq F F1 → Rle ρ r1 → BRel K F1 P0 M1 r1 b1 σ H1 → rel F1 r1 x a → PostF K W P0 F1 r1 σ Q' (k a b1) → Q x H1) : tM (fc := fc) rel K W m σ H Q := by
  refine ⟨F, P0, Mm, ρ, b, B, ?_⟩
  unfold M.bind at h
  cases e : m b with
  | ok a b' =>
    rw [e] at h
    exact fun x F' M' ρ' H' l r B' q => hk x a F' M' ρ' b' H' l r B' q (PostF.mono h l r)
  | exc x b' => rw [e] at h; exact h
  | fail => rw [e] at h; exact h.elim
section
variable {K : PySem.W.Frag} {F P : Hp} {fc : FrC} {P0 : PX fc} {Mm H : Hp} {ρ : Rho} {q : Nat → Option Addr} {b : BSt} {σ : St} {p : Addr} {u : HO} {so : SO}
theorem RepO.monoP {F' : Hp} {ρ' : Rho} {Mm' : Hp} {a : Addr} (e : Leq F F') (r : Rle ρ ρ') (h : RepO K F ρ Mm a so) (pl : so.plain = true) (m : ∀ u, Mm a = some u → Mm' a = some u) : RepO K F' ρ' Mm' a so := by
  cases so with
  | lst ds => obtain ⟨vs, h1, h2⟩ := h; exact ⟨vs, m _ h1, h2.mono e r⟩
  | dic ds => obtain ⟨vs, h1, h2, h3⟩ := h; exact ⟨vs, m _ h1, h2, h3.mono e r⟩
  | dct ds => obtain ⟨vs, h1, h2, h3⟩ := h; exact ⟨vs, m _ h1, h2, h3.mono e r⟩
  | ins c ds => cases pl
  | tab x q => cases pl
theorem RepO.there {a : Addr} (h : RepO K F ρ Mm a so) : ∃ u, Mm a = some u ∧ ∀ x, u ≠ .own x := by
  cases so with
  | lst ds => obtain ⟨vs, h1, h2⟩ := h; exact ⟨_, h1, fun _ z => nomatch z⟩
  | dic ds => obtain ⟨vs, h1, h2, h3⟩ := h; exact ⟨_, h1, fun _ z => nomatch z⟩
  | dct ds => obtain ⟨vs, h1, h2, h3⟩ := h; exact ⟨_, h1, fun _ z => nomatch z⟩
  | ins c ds => obtain ⟨dx, vs, h1, h2⟩ := h; exact ⟨_, h1, fun _ z => nomatch z⟩
  | tab x q => obtain ⟨ps, h1, h2⟩ := h; exact ⟨_, h1, fun _ z => nomatch z⟩
theorem SlotRel.mono {F' P' : Hp} {ρ' : Rho} {q' : Nat → Option Addr} {i : Nat} {s : Slot} (h : SlotRel K F P0 P ρ q σ i s) (l : Leq F F') (r : Rle ρ ρ')
    (hq : ∀ p, q i = some p → q' i = some p ∧ ∀ u, P p = some u → P' p = some u) : SlotRel K F' P0 P' ρ' q' σ i s := by
  cases s with
  | val d => obtain ⟨v, e, rr⟩ := h; exact ⟨v, e, rr.mono l r⟩
  | own o =>
    obtain ⟨p, e, e2, n, rr, pl⟩ := h
    obtain ⟨q1, q2⟩ := hq p e2
    exact ⟨p, e, q1, n, rr.monoP l r pl q2, pl⟩
  | frm me up => obtain ⟨v, e, lk⟩ := h; exact ⟨v, e, Lk.mono l r lk⟩
theorem HRel.pset (h : HRel K F P Mm ρ b.g H) (n : H p = none) : P p = none := h.pnone n
/-- a new object at p, nobody's -/
theorem BRel.fresh (B : BRel K F P0 Mm ρ b σ H) (n : H p = none) (hso : ∀ P', P' p = some u → RepO K F ρ P' p so) (pl : so.plain = true) : Frs K F P0 Mm ρ b σ (upd H p u) p so := by
  obtain ⟨P, q, B⟩ := B
  have nP := B.h.pnone n
  refine ⟨upd P p u, fun i => if q i = some p then none else q i, ⟨B.h.owned n, fun a w e => ?_, B.len, fun i j a e1 e2 => ?_, fun i s e => ?_⟩, hso _ upd_same, pl, ?_, fun i z => ?_⟩
  · have q1 := B.pp a w e
    have : a ≠ p := fun z => by subst z; rw [nP] at q1; cases q1
    rw [upd_ne this]; exact q1
  · try dsimp only at e1 e2
    split at e1
    · cases e1
    · split at e2
      · cases e2
      · exact B.qi i j a e1 e2
  · have q1 := B.sl i s e
    cases s with
    | val d => exact q1
    | frm me up => exact q1
    | own o =>
      obtain ⟨a, e1, e2, e3, e4, e5⟩ := q1
      have na : a ≠ p := fun z => by
        subst z
        obtain ⟨w, hw, _⟩ := e4.there
        rw [nP] at hw; cases hw
      refine ⟨a, e1, ?_, e3, e4.monoP (Leq.refl _) (Rle.refl _) e5 fun w z => by rw [upd_ne na]; exact z, e5⟩
      exact (if_neg (fun z => na (Option.some.inj (e2.symm.trans z)))).trans e2
  · cases e : P0 p with
    | none => rfl
    | some w => have := B.pp p w e; rw [nP] at this; cases this
  · try dsimp only at z
    split at z
    · cases z
    · exact absurd z (by assumption)
/-- a fresh object is frozen -/
theorem Frs.freeze (h : Frs K F P0 Mm ρ b σ H p so) : ∃ F' u, Leq F F' ∧ F' p = some u ∧ BRel K F' P0 Mm ρ b σ H ∧ RepO K F' ρ F' p so := by
  obtain ⟨P, q, B, r, pl, n0, nq⟩ := h
  obtain ⟨u, hu, _⟩ := id r.there
  have nF : F p = none := by
    cases e : F p with
    | none => rfl
    | some v => rw [(B.h.fp p v e).1] at hu; cases hu
  have l : Leq F (upd F p u) := leq_upd nF
  refine ⟨upd F p u, u, l, upd_same, ⟨rmv P p, q, B.h.freeze hu, fun a w e => ?_, B.len, B.qi, fun i s e => ?_⟩, r.monoP l (Rle.refl _) pl fun w z => ?_⟩
  · have : a ≠ p := fun z => by subst z; rw [n0] at e; cases e
    rw [rmv_ne this]; exact B.pp a w e
  · refine (B.sl i s e).mono l (Rle.refl _) fun a ea => ⟨ea, fun w z => ?_⟩
    have : a ≠ p := fun z => nq i (by rw [← z]; exact ea)
    rw [rmv_ne this]; exact z
  · rw [hu] at z; rw [upd_same]; exact z
def SO.frozen : SO → Option D
  | .lst xs => some (.lst xs)
  | .dic kvs => some (.dic kvs)
  | _ => none
theorem RepO.rep {d : D} (r : RepO K F ρ F p so) (e : so.frozen = some d) : Rep K F ρ (.ref p) d := by
  cases so with
  | lst ds => cases e; obtain ⟨vs, h1, h2⟩ := r; exact .lst h1 h2
  | dic ds => cases e; obtain ⟨vs, h1, h2, h3⟩ := r; exact .dic h1 h2 h3
  | dct ds => cases e
  | ins c f => cases e
  | tab x q => cases e
/-- .. goes into the store -/
theorem HRel.toStore {g : GSt} (h : HRel K F P Mm ρ g H) (e0 : P p = some u) (nu : ∀ x, u ≠ .own x) (hso : RepO K F ρ P p so) (pl : so.plain = true) :
    HRel K F (rmv P p) (upd Mm p u) (rput ρ g.nx p) (g.new so) H ∧ Rle ρ (rput ρ g.nx p) := by
  have nM := h.pm p u e0
  have nx : ρ g.nx = none := (h.nx _ (Nat.le_refl _)).1
  have rl : Rle ρ (rput ρ g.nx p) := rle_put nx
  have lm : Leq Mm (upd Mm p u) := leq_upd nM
  have np : ∀ k, ρ k ≠ some p := fun k z => by
    obtain ⟨w, hw, _⟩ := h.rh k p z
    rw [nM] at hw; cases hw
  refine ⟨⟨h.fh, fun b v e => ?_, fun b v e => ?_, fun b v e => ?_, fun b v e => ?_, fun k o e => ?_, fun k j a e1 e2 => ?_, fun k hk => ?_, fun k a e => ?_, h.lk⟩, rl⟩
  · obtain ⟨hb, e⟩ := rmv_some e; exact h.ph b v e
  · by_cases hb : b = p
    · subst hb; rw [upd_same] at e; cases e; exact h.ph _ _ e0
    · rw [upd_ne hb] at e; exact h.mh b v e
  · obtain ⟨q1, q2⟩ := h.fp b v e
    have hb : b ≠ p := fun z => by subst z; rw [e0] at q1; cases q1
    exact ⟨by rw [rmv_ne hb]; exact q1, by rw [upd_ne hb]; exact q2⟩
  · obtain ⟨hb, e⟩ := rmv_some e
    rw [upd_ne hb]; exact h.pm b v e
  · by_cases hk : k = g.nx
    · subst hk
      have e' : so = o := Option.some.inj (show some so = some o by rw [← e]; exact (if_pos rfl).symm)
      subst e'
      exact ⟨p, rput_same, hso.monoP (Leq.refl _) rl pl fun w z => by rw [e0] at z; rw [upd_same]; exact z⟩
    · have e' : g.S k = some o := by rw [← e]; exact (if_neg hk).symm
      obtain ⟨a, e1, e2⟩ := h.st k o e'
      exact ⟨a, rl.p _ _ e1, e2.mono (Leq.refl _) rl fun c w _ z => lm c w z⟩
  · by_cases hk : k = g.nx
    · by_cases hj : j = g.nx
      · rw [hk, hj]
      · subst hk
        rw [rput_same] at e1; cases e1
        rw [rput_ne hj] at e2
        exact absurd e2 (np j)
    · rw [rput_ne hk] at e1
      by_cases hj : j = g.nx
      · subst hj
        rw [rput_same] at e2; cases e2
        exact absurd e1 (np k)
      · rw [rput_ne hj] at e2; exact h.inj k j a e1 e2
  · have h1 : g.nx + 1 ≤ k := hk
    exact ⟨by rw [rput_ne (by omega)]; exact (h.nx k (by omega)).1, (h.nx k (by omega)).2⟩
  · by_cases hk : k = g.nx
    · subst hk; rw [rput_same] at e; cases e; exact ⟨u, upd_same, nu⟩
    · rw [rput_ne hk] at e
      obtain ⟨w, hw, hn⟩ := h.rh k a e
      exact ⟨w, lm a w hw, hn⟩
theorem Frs.store (h : Frs K F P0 Mm ρ b σ H p so) : ∃ M' ρ', Rle ρ ρ' ∧ BRel K F P0 M' ρ' { b with g := b.g.new so } σ H ∧ Rep K F ρ' (.ref p) (.ptr b.g.nx) := by
  obtain ⟨P, q, B, r, pl, n0, nq⟩ := h
  obtain ⟨u, hu, nu⟩ := id r.there
  obtain ⟨h1, rl⟩ := B.h.toStore hu nu r pl
  refine ⟨_, _, rl, ⟨rmv P p, q, h1, fun a w e => ?_, B.len, B.qi, fun i s e => ?_⟩, .ptr rput_same⟩
  · have : a ≠ p := fun z => by subst z; rw [n0] at e; cases e
    rw [rmv_ne this]; exact B.pp a w e
  · refine (B.sl i s e).mono (Leq.refl _) rl fun a ea => ⟨ea, fun w z => ?_⟩
    have : a ≠ p := fun z => nq i (by rw [← z]; exact ea)
    rw [rmv_ne this]; exact z
/-- a slot takes a value -/
theorem BRel.setV {v : V} {d : D} (B : BRel K F P0 Mm ρ b σ H) (i : Nat) (r : Rep K F ρ v d) : BRel K F P0 Mm ρ { b with t := b.t.set i (some (.val d)) } (σ.set i (some v)) H := by
  obtain ⟨P, q, B⟩ := B
  refine ⟨P, q, B.h, B.pp, by simpa using B.len, B.qi, fun j s e => ?_⟩
  by_cases hj : j = i
  · subst hj
    have hl : j < b.t.length := by
      by_cases h : j < b.t.length
      · exact h
      · have e' : (b.t.set j (some (Slot.val d)))[j]? = some (some s) := e
        rw [List.getElem?_eq_none (by simpa using h)] at e'; cases e'
    have e' : (b.t.set j (some (Slot.val d)))[j]? = some (some s) := e
    rw [List.getElem?_set_self hl] at e'
    cases e'
    exact ⟨v, List.getElem?_set_self (by rw [B.len]; exact hl), r⟩
  · have e' : (b.t.set i (some (Slot.val d)))[j]? = some (some s) := e
    rw [List.getElem?_set_ne (Ne.symm hj)] at e'
    have q1 := B.sl j s e'
    cases s with
    | val d' => obtain ⟨v', h1, h2⟩ := q1; exact ⟨v', by rw [List.getElem?_set_ne (Ne.symm hj)]; exact h1, h2⟩
    | own o => obtain ⟨p, h1, h2⟩ := q1; exact ⟨p, by rw [List.getElem?_set_ne (Ne.symm hj)]; exact h1, h2⟩
    | frm me up => obtain ⟨v', h1, h2⟩ := q1; exact ⟨v', by rw [List.getElem?_set_ne (Ne.symm hj)]; exact h1, h2⟩
/-- a slot is forgotten -/
theorem BRel.drop (B : BRel K F P0 Mm ρ b σ H) (i : Nat) (v : Option V) : BRel K F P0 Mm ρ { b with t := b.t.set i none } (σ.set i v) H := by
  obtain ⟨P, q, B⟩ := B
  refine ⟨P, q, B.h, B.pp, by simpa using B.len, B.qi, fun j s e => ?_⟩
  have e' : (b.t.set i none)[j]? = some (some s) := e
  by_cases hj : j = i
  · subst hj
    by_cases hl : j < b.t.length
    · rw [List.getElem?_set_self hl] at e'; cases e'
    · rw [List.getElem?_eq_none (by simpa using hl)] at e'; cases e'
  · rw [List.getElem?_set_ne (Ne.symm hj)] at e'
    have q1 := B.sl j s e'
    cases s with
    | val d' => obtain ⟨v', h1, h2⟩ := q1; exact ⟨v', by rw [List.getElem?_set_ne (Ne.symm hj)]; exact h1, h2⟩
    | own o => obtain ⟨p, h1, h2⟩ := q1; exact ⟨p, by rw [List.getElem?_set_ne (Ne.symm hj)]; exact h1, h2⟩
    | frm me up => obtain ⟨v', h1, h2⟩ := q1; exact ⟨v', by rw [List.getElem?_set_ne (Ne.symm hj)]; exact h1, h2⟩
/-- a slot takes a fresh object for its own -/
theorem Frs.setO (h : Frs K F P0 Mm ρ b σ H p so) (i : Nat) : BRel K F P0 Mm ρ { b with t := b.t.set i (some (.own so)) } (σ.set i (some (.ref p))) H := by
  obtain ⟨P, q, B, r, pl, n0, nq⟩ := h
  refine ⟨P, fun j => if j = i then some p else q j, B.h, B.pp, by simpa using B.len, fun j k a e1 e2 => ?_, fun j s e => ?_⟩
  · try dsimp only at e1 e2
    split at e1
    · split at e2
      · rename_i h1 h2; rw [h1, h2]
      · cases e1; exact absurd e2 (nq k)
    · split at e2
      · cases e2; exact absurd e1 (nq j)
      · exact B.qi j k a e1 e2
  · by_cases hj : j = i
    · subst hj
      have hl : j < b.t.length := by
        by_cases h : j < b.t.length
        · exact h
        · have e' : (b.t.set j (some (Slot.own so)))[j]? = some (some s) := e
          rw [List.getElem?_eq_none (by simpa using h)] at e'; cases e'
      have e' : (b.t.set j (some (Slot.own so)))[j]? = some (some s) := e
      rw [List.getElem?_set_self hl] at e'
      cases e'
      exact ⟨p, List.getElem?_set_self (by rw [B.len]; exact hl), if_pos rfl, n0, r, pl⟩
    · have e' : (b.t.set i (some (Slot.own so)))[j]? = some (some s) := e
      rw [List.getElem?_set_ne (Ne.symm hj)] at e'
      have q1 := B.sl j s e'
      cases s with
      | val d' => obtain ⟨v', h1, h2⟩ := q1; exact ⟨v', by rw [List.getElem?_set_ne (Ne.symm hj)]; exact h1, h2⟩
      | own o => obtain ⟨p, h1, h2, h3⟩ := q1; exact ⟨p, by rw [List.getElem?_set_ne (Ne.symm hj)]; exact h1, (if_neg hj).trans h2, h3⟩
      | frm me up => obtain ⟨v', h1, h2⟩ := q1; exact ⟨v', by rw [List.getElem?_set_ne (Ne.symm hj)]; exact h1, h2⟩
/-- a slot's own object is frozen: it is read as a value -/
theorem BRel.thaw {d : D} (B : BRel K F P0 Mm ρ b σ H) {i : Nat} (e : b.t[i]? = some (some (.own so))) (hd : so.frozen = some d) :
    ∃ v F', Leq F F' ∧ σ[i]? = some (some v) ∧ BRel K F' P0 Mm ρ { b with t := b.t.set i (some (.val d)) } σ H ∧ Rep K F' ρ v d := by
  obtain ⟨P, q, B⟩ := B
  obtain ⟨p, e1, e2, n0, r, pl⟩ := B.sl i _ e
  obtain ⟨u, hu, _⟩ := id r.there
  have nF : F p = none := by
    cases e : F p with
    | none => rfl
    | some v => rw [(B.h.fp p v e).1] at hu; cases hu
  have l : Leq F (upd F p u) := leq_upd nF
  have rr : Rep K (upd F p u) ρ (.ref p) d := (r.monoP l (Rle.refl _) pl fun w z => by rw [hu] at z; rw [upd_same]; exact z).rep hd
  refine ⟨.ref p, upd F p u, l, e1, ⟨rmv P p, fun j => if j = i then none else q j, B.h.freeze hu, fun a w e => ?_, by simpa using B.len, fun j k a x1 x2 => ?_, fun j s x => ?_⟩, rr⟩
  · have : a ≠ p := fun z => by subst z; rw [n0] at e; cases e
    rw [rmv_ne this]; exact B.pp a w e
  · try dsimp only at x1 x2
    split at x1
    · cases x1
    · split at x2
      · cases x2
      · exact B.qi j k a x1 x2
  · have hl : i < b.t.length := (List.getElem?_eq_some_iff.mp e).1
    have x' : (b.t.set i (some (Slot.val d)))[j]? = some (some s) := x
    by_cases hj : j = i
    · subst hj
      rw [List.getElem?_set_self hl] at x'
      cases x'
      exact ⟨_, e1, rr⟩
    · rw [List.getElem?_set_ne (Ne.symm hj)] at x'
      refine (B.sl j s x').mono l (Rle.refl _) fun a ea => ⟨(if_neg hj).trans ea, fun w z => ?_⟩
      have : a ≠ p := fun z => hj (B.qi j i a ea (by rw [z]; exact e2))
      rw [rmv_ne this]; exact z
/-- a slot's own object is changed -/
theorem BRel.chg {so' : SO} {u' : HO} (B : BRel K F P0 Mm ρ b σ H) {i : Nat} (e : b.t[i]? = some (some (.own so))) (pl' : so'.plain = true) :
    ∃ p u, σ[i]? = some (some (.ref p)) ∧ H p = some u ∧ RepO K F ρ (fun _ => some u) p so ∧ F p = none ∧ Mm p = none ∧ ((∀ P', P' p = some u' → RepO K F ρ P' p so') → BRel K F P0 Mm ρ { b with t := b.t.set i (some (.own so')) } σ (upd H p u')) := by
  obtain ⟨P, q, B⟩ := B
  obtain ⟨p, e1, e2, n0, r, pl⟩ := B.sl i _ e
  obtain ⟨u, hu, _⟩ := id r.there
  have nF : F p = none := by
    cases e : F p with
    | none => rfl
    | some v => rw [(B.h.fp p v e).1] at hu; cases hu
  refine ⟨p, u, e1, B.h.ph _ _ hu, r.monoP (Leq.refl _) (Rle.refl _) pl fun w z => by rw [hu] at z; exact z, nF, B.h.pm _ _ hu, fun hn => ⟨upd P p u', q, B.h.setP hu, fun a w e => ?_, by simpa using B.len, B.qi, fun j s x => ?_⟩⟩
  · have : a ≠ p := fun z => by subst z; rw [n0] at e; cases e
    rw [upd_ne this]; exact B.pp a w e
  · have hl : i < b.t.length := (List.getElem?_eq_some_iff.mp e).1
    have x' : (b.t.set i (some (Slot.own so')))[j]? = some (some s) := x
    by_cases hj : j = i
    · subst hj
      rw [List.getElem?_set_self hl] at x'
      cases x'
      exact ⟨p, e1, e2, n0, hn _ upd_same, pl'⟩
    · rw [List.getElem?_set_ne (Ne.symm hj)] at x'
      refine (B.sl j s x').mono (Leq.refl _) (Rle.refl _) fun a ea => ⟨ea, fun w z => ?_⟩
      have : a ≠ p := fun z => hj (B.qi j i a ea (by rw [z]; exact e2))
      rw [upd_ne this]; exact z
/-- an object of the store is changed -/
theorem HRel.put {g : GSt} {k : Nat} {so' : SO} {u' : HO} (h : HRel K F P Mm ρ g H) (e : g.S k = some so) (pl : so.plain = true) (pl' : so'.plain = true) :
    ∃ a u, ρ k = some a ∧ Mm a = some u ∧ H a = some u ∧ RepO K F ρ (fun _ => some u) a so ∧ F a = none ∧ P a = none ∧
      ((∀ x, u' ≠ .own x) → (∀ M', M' a = some u' → RepO K F ρ M' a so') → HRel K F P (upd Mm a u') ρ (g.put k so') (upd H a u')) := by
  obtain ⟨a, e1, r⟩ := h.st k so e
  obtain ⟨u, hu, nu⟩ := id r.there
  have nF : F a = none := by
    cases e : F a with
    | none => rfl
    | some v => rw [(h.fp a v e).2] at hu; cases hu
  have nP : P a = none := by
    cases e : P a with
    | none => rfl
    | some v => rw [h.pm a v e] at hu; cases hu
  have ne : ∀ {G : Hp} {b : Addr} {v : HO}, G a = none → G b = some v → b ≠ a := fun {G b v} gn e z => by subst z; rw [gn] at e; cases e
  refine ⟨a, u, e1, hu, h.mh _ _ hu, r.monoP (Leq.refl _) (Rle.refl _) pl fun w z => by rw [hu] at z; exact z, nF, nP, fun nu' hn => ⟨fun b v e => ?_, fun b v e => ?_, fun b v e => ?_, fun b v e => ?_, fun b v e => ?_, fun j o x => ?_, h.inj, h.nx, fun j c x => ?_, h.lkUp (fun _ _ e => e) fun c o v f e => by rw [upd_ne (ne nF f)]; exact e⟩⟩
  · have hb := ne nF e
    have q := h.fh b v e
    split
    · rename_i hd
      rw [if_pos hd] at q
      rcases q with q | ⟨o, q⟩
      · exact .inl (by rw [upd_ne hb]; exact q)
      · exact .inr ⟨o, by rw [upd_ne hb]; exact q⟩
    · rename_i hd
      rw [if_neg hd] at q
      rw [upd_ne hb]; exact q
  · rw [upd_ne (ne nP e)]; exact h.ph b v e
  · by_cases hb : b = a
    · subst hb; rw [upd_same] at e ⊢; exact e
    · rw [upd_ne hb] at e ⊢; exact h.mh b v e
  · have hb := ne nF e
    obtain ⟨q1, q2⟩ := h.fp b v e
    exact ⟨q1, by rw [upd_ne hb]; exact q2⟩
  · rw [upd_ne (ne nP e)]; exact h.pm b v e
  · by_cases hj : j = k
    · subst hj
      have x' : so' = o := Option.some.inj (show some so' = some o by rw [← x]; exact (if_pos rfl).symm)
      subst x'
      exact ⟨a, e1, hn _ upd_same⟩
    · have x' : g.S j = some o := by rw [← x]; exact (if_neg hj).symm
      obtain ⟨c, y1, y2⟩ := h.st j o x'
      have hc : c ≠ a := fun z => hj (h.inj j k a (by rw [← z]; exact y1) e1)
      refine ⟨c, y1, y2.mono (Leq.refl _) (Rle.refl _) fun d w hd z => ?_⟩
      have : d ≠ a := by
        rcases hd with rfl | rfl
        · exact hc
        · intro y; subst y; rw [hu] at z; cases z; exact nu _ rfl
      rw [upd_ne this]; exact z
  · obtain ⟨w, y1, y2⟩ := h.rh j c x
    by_cases hc : c = a
    · subst hc; exact ⟨u', upd_same, nu'⟩
    · exact ⟨w, by rw [upd_ne hc]; exact y1, y2⟩
theorem BRel.put {k : Nat} {so' : SO} {u' : HO} (B : BRel K F P0 Mm ρ b σ H) (e : b.g.S k = some so) (pl : so.plain = true) (pl' : so'.plain = true) :
    ∃ a u, ρ k = some a ∧ Mm a = some u ∧ H a = some u ∧ RepO K F ρ (fun _ => some u) a so ∧ F a = none ∧
      ((∀ x, u' ≠ .own x) → (∀ M', M' a = some u' → RepO K F ρ M' a so') → BRel K F P0 (upd Mm a u') ρ { b with g := b.g.put k so' } σ (upd H a u')) := by
  obtain ⟨P, q, B⟩ := B
  obtain ⟨a, u, e1, e2, e3, e4, e5, e6, h⟩ := B.h.put (so' := so') (u' := u') e pl pl'
  exact ⟨a, u, e1, e2, e3, e4, e5, fun n1 n2 => ⟨P, q, h n1 n2, B.pp, B.len, B.qi, B.sl⟩⟩
theorem BRel.frozen (B : BRel K F P0 Mm ρ b σ H) (n : H p = none) (u : HO) : BRel K (upd F p u) P0 Mm ρ b σ (upd H p u) ∧ Leq F (upd F p u) := by
  obtain ⟨P, q, B⟩ := B
  have l := leq_upd (u := u) (B.h.fnone n)
  exact ⟨⟨P, q, B.h.frozen n, B.pp, B.len, B.qi, fun i s e => (B.sl i s e).mono l (Rle.refl _) fun a ea => ⟨ea, fun _ z => z⟩⟩, l⟩
end
end L2.VI
/-! VI2: expressions. -/
namespace L2.VI
open PySem PySem.Spec PyProof.Rows He

/-! ### names, constants -/
def getV (i : Nat) : M D := fun b => match b.t[i]? with
  | some (some (.val d)) => .ok d b
  | some (some (.own so)) => match so.frozen with
    | some d => .ok d { b with t := b.t.set i (some (.val d)) }
    | none => .fail
  | _ => .fail
section
variable {X : Cx} {W : WX} {pos : Pos}
theorem se_var {i : Nat} {x : Str} (h : PE X (.Name x pos) (tVar i)) : SE X W (.Name x pos) (getV i) := by
  refine SE.of h fun σ H F P0 Mm ρ b Q B q => ?_
  unfold getV at q
  split at q
  · rename_i d e
    obtain ⟨P, qq, BB⟩ := id B
    obtain ⟨v, e1, r⟩ := BB.sl i _ e
    exact ⟨v, e1, q.now B r⟩
  · rename_i so e
    split at q
    · rename_i d hd
      obtain ⟨v, F', l, e1, B', r⟩ := B.thaw e hd
      exact ⟨v, e1, q v F' Mm ρ H l (Rle.refl _) B' r⟩
    · exact q.elim
  · exact q.elim
theorem sv (i : Nat) {x : Str} (hN : X.N[i]? = some x := by rfl) (hv : Vis X.env.scope x := by first | exact Or.inl rfl | exact Or.inr (Or.inl rfl) | exact Or.inr (Or.inr rfl)) (hd : (x == ("__debug__" : Str)) = false := by decide)
    (hcd : (x == ("__classdict__" : Str)) = false := by decide) : SE X W (.Name x pos) (getV i) := se_var (pe_var hN hv hd hcd)
theorem se_int {i j} : SE X W (.Constant (.int i) j pos) (M.ret (.int i)) := SE.of pe_int fun σ H F P0 Mm ρ b Q B q => q.now B (.int i)
theorem se_bl {i j} : SE X W (.Constant (.bool i) j pos) (M.ret (.bl i)) := SE.of pe_bl fun σ H F P0 Mm ρ b Q B q => q.now B (.bl i)
theorem se_non {j} : SE X W (.Constant .none j pos) (M.ret .non) := SE.of pe_non fun σ H F P0 Mm ρ b Q B q => q.now B .non
theorem se_str {i j} : SE X W (.Constant (.str i) j pos) (M.ret (.str i)) := SE.of pe_str fun σ H F P0 Mm ρ b Q B q => q.now B (.str i)
/-- a module's number or text -/
theorem se_gint {x : Str} {i : Int} (hm : ∃ t, X.mg x = some (.int i t)) (hg : Gl X x := by rfl) (hd : (x == ("__debug__" : Str)) = false := by decide) : SE X W (.Name x pos) (M.ret (.int i)) := by
  obtain ⟨t, hm⟩ := hm
  exact SE.of (pe_glob (v := .int i) hg hm ⟨t, rfl⟩ hd) fun σ H F P0 Mm ρ b Q B q => q.now B (.int i)
theorem se_gstr {x z : Str} (hm : ∃ t, X.mg x = some (.str z t)) (hg : Gl X x := by rfl) (hd : (x == ("__debug__" : Str)) = false := by decide) : SE X W (.Name x pos) (M.ret (.str z)) := by
  obtain ⟨t, hm⟩ := hm
  exact SE.of (pe_glob (v := .str z) hg hm ⟨t, rfl⟩ hd) fun σ H F P0 Mm ρ b Q B q => q.now B (.str z)
/-- a function or class of the module, as a value -/
theorem se_glo {x : Str} (hm : X.mg x = some (.ref (ga X.K x))) (hg : Gl X x := by rfl) (hd : (x == ("__debug__" : Str)) = false := by decide) : SE X W (.Name x pos) (M.ret (.glo x)) :=
  SE.of (pe_glob (v := .ref (ga X.K x)) hg hm rfl hd) fun σ H F P0 Mm ρ b Q B q => q.now B (.glo x)
/-- a built-in type, as a value -/
theorem se_bty {x : Str} {n : String} (hm : X.mg x = none) (hv : bootBuiltins x = some (.type n)) (hg : Gl X x := by rfl) (hn : x ≠ "__name__" := by decide) (hd : (x == ("__debug__" : Str)) = false := by decide) : SE X W (.Name x pos) (M.ret (.ty n)) :=
  SE.of (pe_bltn (v := .ty n) hg hm hv rfl hn hd) fun σ H F P0 Mm ρ b Q B q => q.now B (.ty n)
end

/-! ### operators -/
def bin2 (f : D → D → M D) (a b : M D) : M D := M.bind a fun x => M.bind b fun y => f x y
/-- g on values is f on data -/
def OpV (X : Cx) (W : WX) (g : Value → Value → Sem Value) (f : D → D → M D) : Prop := ∀ (x y : V) (a c : D) (σ : St) (H F : Hp) (P0 : PX (fcOf X)) (Mm : Hp) (ρ : Rho) (b : BSt) (Q : VK), BRel X.K F P0 Mm ρ b σ H → Rep X.K F ρ x a → Rep X.K F ρ y c →
  Post (Rep X.K) X.K W P0 F ρ σ Q (f a c b) → ∃ r : R2, OpR X g r ∧ r x y H Q
theorem OpR.any {X : Cx} {g : Value → Value → Sem Value} : OpR X g (fun x y H Q => ∃ r, OpR X g r ∧ r x y H Q) := fun pins s σ H x y v u Q I rx ry ⟨r, hr, q⟩ => hr pins s σ H x y v u Q I rx ry q
section
variable {X : Cx} {W : WX} {pos : Pos} {a b : Expr} {ma mb : M D}
theorem tE_2 {K : PySem.W.Frag} {f : D → D → M D} {σ : St} {H F : Hp} {fc : FrC} {P0 : PX fc} {Mm : Hp} {ρ : Rho} {bs : BSt} {Q : VK} {R : V → V → Hp → Prop} (B : BRel K F P0 Mm ρ bs σ H) (h : Post (Rep K) K W P0 F ρ σ Q (bin2 f ma mb bs))
    (hk : ∀ x y d e F1 M1 r1 b1 H1, BRel K F1 P0 M1 r1 b1 σ H1 → Rep K F1 r1 x d → Rep K F1 r1 y e → Post (Rep K) K W P0 F1 r1 σ Q (f d e b1) → R x y H1) : tE (fc := fc) K W ma σ H fun x H1 => tE (fc := fc) K W mb σ H1 fun y H2 => R x y H2 :=
  tM_then B h fun x d F1 M1 r1 b1 H1 l1 e1 B1 q1 h1 => tM_then B1 h1 fun y e F2 M2 r2 b2 H2 l2 e2 B2 q2 h2 => hk x y d e F2 M2 r2 b2 H2 B2 (q1.mono l2 e2) q2 h2
theorem se_bin {op : Operator} {f : D → D → M D} (hf : OpV X W (binaryOp op) f) (ha : SE X W a ma) (hb : SE X W b mb) : SE X W (.BinOp a op b pos) (bin2 f ma mb) :=
  SE.of (pe_op OpR.any ha hb) fun σ H F P0 Mm ρ bs Q B q => tE_2 B q fun x y d e F1 M1 r1 b1 H1 B1 qx qy h1 => hf x y d e σ H1 F1 P0 M1 r1 b1 Q B1 qx qy h1
theorem se_cmp {op : CmpOp} {f : D → D → M D} (hf : OpV X W (compareOp op) f) (ha : SE X W a ma) (hb : SE X W b mb) (hm : behindInMarks op b = false) : SE X W (.Compare a [op] [b] pos) (bin2 f ma mb) :=
  SE.of (pe_cmpR OpR.any ha hb hm) fun σ H F P0 Mm ρ bs Q B q => tE_2 B q fun x y d e F1 M1 r1 b1 H1 B1 qx qy h1 => hf x y d e σ H1 F1 P0 M1 r1 b1 Q B1 qx qy h1
/-- a value that is True or False, as a test -/
def isB (m : M D) : M Bool := M.bind m fun d => match d with
  | .bl c => M.ret c
  | _ => M.fail
theorem tB_of {K : PySem.W.Frag} {t : TE} {m : M D} {σ : St} {H F : Hp} {fc : FrC} {P0 : PX fc} {Mm : Hp} {ρ : Rho} {bs : BSt} {Q : Bool → Hp → Prop} (B : BRel K F P0 Mm ρ bs σ H) (h : Post (fun _ _ x a => x = a) K W P0 F ρ σ Q (isB m bs))
    (ht : ∀ Q, Post (Rep K) K W P0 F ρ σ Q (m bs) → t σ H Q) : t σ H fun x H1 => ∃ c, x = .bl c ∧ Q c H1 := by
  refine ht _ ?_
  unfold isB M.bind at h
  cases e : m bs with
  | ok d b' =>
    rw [e] at h
    intro x F' M' ρ' H' l r B' q
    cases q with
    | bl c => exact ⟨c, rfl, h c F' M' ρ' H' l r B' rfl⟩
    | _ => exact h.elim
  | exc x b' => rw [e] at h; exact h
  | fail => rw [e] at h; exact h.elim
theorem sb_cmp {op : CmpOp} {f : D → D → M D} (hf : OpV X W (compareOp op) f) (ha : SE X W a ma) (hb : SE X W b mb) (hm : behindInMarks op b = false) : SB X W (.Compare a [op] [b] pos) (isB (bin2 f ma mb)) :=
  SB.of (pt_cmpR OpR.any ha hb hm) fun σ H F P0 Mm ρ bs Q B q => tB_of (t := tOp _ _ _) B q fun Q' h => tE_2 B h fun x y d e F1 M1 r1 b1 H1 B1 qx qy h1 => hf x y d e σ H1 F1 P0 M1 r1 b1 Q' B1 qx qy h1
theorem sb_val {e : Expr} {m : M D} (h : SE X W e m) (he : ∀ whole, isTrue e X.env whole = (do let v ← whole; standAt e.pos; holding [v] (truthy v)) := by intro _; rfl) : SB X W e (isB m) :=
  SB.of (pt_val h he) fun σ H F P0 Mm ρ bs Q B q => tB_of (t := tE (fc := fcOf X) X.K W m) B q fun Q' h => tM_of B h
/-! ints, texts, lists, tuples -/
def addD : D → D → M D
  | .int i, .int j => M.ret (.int (i + j))
  | .str x, .str y => guardM (x.length + y.length ≤ sizeLine) (M.ret (.str (x ++ y)))
  | .lst xs, .lst ys => guardM (xs.length + ys.length ≤ sizeLine) (M.ret (.lst (xs ++ ys)))
  | .tup xs, .tup ys => guardM (xs.length + ys.length ≤ sizeLine ∧ xs ≠ []) (M.ret (.tup (xs ++ ys)))
  | _, _ => M.fail
theorem Rep.sqT {K : PySem.W.Frag} {F P : Hp} {fc : FrC} {P0 : PX fc} {Mm H : Hp} {ρ : Rho} {b : BSt} {σ : St} {a : Addr} {vs : List V} (B : BRel K F P0 Mm ρ b σ H) (h : F a = some (.tup vs) ∨ SqT K (fun _ => none) a vs) : SqT K H a vs := by
  rcases h with h | h
  · obtain ⟨P, q, B⟩ := B
    have q := B.h.fh a _ h
    rw [if_neg (show ¬ (isDict (.tup vs) = true) from Bool.false_ne_true)] at q
    exact .inl (.inl q)
  · rcases h with (h | ⟨o, h⟩) | h
    · cases h
    · cases h
    · exact .inr h
theorem BRel.lstAt {K : PySem.W.Frag} {F : Hp} {fc : FrC} {P0 : PX fc} {Mm H : Hp} {ρ : Rho} {b : BSt} {σ : St} {a : Addr} {vs : List V} (B : BRel K F P0 Mm ρ b σ H) (h : F a = some (.lst vs)) : H a = some (.lst vs) := by
  obtain ⟨P, q, B⟩ := B
  have q := B.h.fh a _ h
  rwa [if_neg (show ¬ (isDict (.lst vs) = true) from Bool.false_ne_true)] at q
theorem BRel.dicAt {K : PySem.W.Frag} {F : Hp} {fc : FrC} {P0 : PX fc} {Mm H : Hp} {ρ : Rho} {b : BSt} {σ : St} {a : Addr} {vs : List (Key × V)} (B : BRel K F P0 Mm ρ b σ H) (h : F a = some (.dK vs)) : Rd H a (.dK vs) := by
  obtain ⟨P, q, B⟩ := B
  have q := B.h.fh a _ h
  rwa [if_pos (by rfl)] at q
/-- a new frozen value ends a rule -/
theorem Post.new {K : PySem.W.Frag} {F : Hp} {fc : FrC} {P0 : PX fc} {Mm H : Hp} {ρ : Rho} {b : BSt} {σ : St} {Q : VK} {d : D} {p : Addr} {u : HO} (h : Post (Rep K) K W P0 F ρ σ Q (.ok d b)) (B : BRel K F P0 Mm ρ b σ H) (n : H p = none)
    (r : ∀ F', Leq F F' → F' p = some u → Rep K F' ρ (.ref p) d) : Q (.ref p) (upd H p u) := by
  obtain ⟨B', l⟩ := B.frozen n u
  exact h (.ref p) _ Mm ρ _ l (Rle.refl _) B' (r _ l upd_same)
theorem ov_add : OpV X W (binaryOp .Add) addD := by
  intro x y a c σ H F P0 Mm ρ b Q B rx ry h
  cases rx with
  | int i => cases ry with
    | int j => exact ⟨_, op_add, i, j, rfl, rfl, h.now B (.int _)⟩
    | _ => exact h.elim
  | str i => cases ry with
    | str j =>
      obtain ⟨hl, h⟩ := Post.guard h
      exact ⟨_, op_add_str, i, j, rfl, rfl, hl, h.now B (.str _)⟩
    | _ => exact h.elim
  | lst h1 r1 => cases ry with
    | lst h2 r2 =>
      obtain ⟨hl, h⟩ := Post.guard h
      · refine ⟨_, op_cat, _, _, _, _, rfl, rfl, B.lstAt h1, B.lstAt h2, by rw [r1.length, r2.length]; exact hl, fun p hp => h.new B hp fun F' l e => .lst e ((r1.mono l (Rle.refl _)).append (r2.mono l (Rle.refl _)))⟩
    | _ => exact h.elim
  | tup h1 r1 => cases ry with
    | tup h2 r2 =>
      obtain ⟨hl, h⟩ := Post.guard h
      · obtain ⟨hl, hne⟩ := hl
        refine ⟨_, op_catT, _, _, _, _, rfl, rfl, Rep.sqT (P := fun _ => none) B h1, Rep.sqT (P := fun _ => none) B h2, fun z => hne ?_, by rw [r1.length, r2.length]; exact hl, fun e => ?_, fun _ p hp => h.new B hp fun F' l e => .tup (.inl e) ((r1.mono l (Rle.refl _)).append (r2.mono l (Rle.refl _)))⟩
        · subst z; cases r1; rfl
        · subst e
          cases r2
          exact h.now B (by rw [List.append_nil]; exact .tup h1 r1)
    | _ => exact h.elim
  | _ => exact h.elim
def subD : D → D → M D
  | .int i, .int j => M.ret (.int (i - j))
  | _, _ => M.fail
theorem ov_sub : OpV X W (binaryOp .Sub) subD := by
  intro x y a c σ H F P0 Mm ρ b Q B rx ry h
  cases rx with
  | int i => cases ry with
    | int j => exact ⟨_, op_sub, i, j, rfl, rfl, h.now B (.int _)⟩
    | _ => exact h.elim
  | _ => exact h.elim
def small64 (i : Int) : Prop := -(2 ^ 64) < i ∧ i < 2 ^ 64
instance (i : Int) : Decidable (small64 i) := by unfold small64; infer_instance
def mulD : D → D → M D
  | .int i, .int j => guardM (small64 i ∨ small64 j) (M.ret (.int (i * j)))
  | .lst xs, .int k => guardM (small64 k ∧ -(2 ^ 63) ≤ k ∧ k < 2 ^ 63 ∧ xs.length * k.toNat ≤ sizeLine) (M.ret (.lst (List.replicate k.toNat xs).flatten))
  | _, _ => M.fail
theorem RepAll.rep {K : PySem.W.Frag} {F : Hp} {ρ : Rho} {vs : List V} {ds : List D} (h : RepAll K F ρ vs ds) : ∀ k : Nat, RepAll K F ρ (List.replicate k vs).flatten (List.replicate k ds).flatten
  | 0 => .nil
  | k + 1 => by
    rw [List.replicate_succ, List.replicate_succ, List.flatten_cons, List.flatten_cons]
    exact h.append (RepAll.rep h k)
theorem ov_mul : OpV X W (binaryOp .Mult) mulD := by
  intro x y a c σ H F P0 Mm ρ b Q B rx ry h
  cases rx with
  | int i => cases ry with
    | int j =>
      obtain ⟨hl, h⟩ := Post.guard h
      exact ⟨_, op_mul, i, j, rfl, rfl, hl, h.now B (.int _)⟩
    | _ => exact h.elim
  | lst h1 r1 => cases ry with
    | int k =>
      obtain ⟨hl, h⟩ := Post.guard h
      · obtain ⟨_, l1, l2, l3⟩ := hl
        refine ⟨_, op_rep, _, k, _, rfl, rfl, B.lstAt h1, l1, l2, by rw [r1.length]; exact l3, fun p hp => h.new B hp fun F' l e => .lst e ((r1.mono l (Rle.refl _)).rep _)⟩
    | _ => exact h.elim
  | _ => exact h.elim
def fdivD : D → D → M D
  | .int i, .int j => guardM (0 < j ∧ j < 1073741824) (M.ret (.int (i / j)))
  | _, _ => M.fail
theorem ov_fdiv : OpV X W (binaryOp .FloorDiv) fdivD := by
  intro x y a c σ H F P0 Mm ρ b Q B rx ry h
  cases rx with
  | int i => cases ry with
    | int j =>
      obtain ⟨hl, h⟩ := Post.guard h
      exact ⟨_, op_fdiv, i, j, rfl, rfl, hl, h.now B (.int _)⟩
    | _ => exact h.elim
  | _ => exact h.elim
def modD : D → D → M D
  | .int i, .int j => guardM (0 < j) (M.ret (.int (i % j)))
  | _, _ => M.fail
theorem ov_mod : OpV X W (binaryOp .Mod) modD := by
  intro x y a c σ H F P0 Mm ρ b Q B rx ry h
  cases rx with
  | int i => cases ry with
    | int j =>
      obtain ⟨hl, h⟩ := Post.guard h
      exact ⟨_, op_mod, i, j, rfl, rfl, hl, h.now B (.int _)⟩
    | _ => exact h.elim
  | _ => exact h.elim
def powD : D → D → M D
  | .int i, .int j => guardM (0 ≤ j ∧ j ≤ 1000000 ∧ i.natAbs < 2 ^ 64) (M.ret (.int (i ^ j.toNat)))
  | _, _ => M.fail
theorem ov_pow : OpV X W (binaryOp .Pow) powD := by
  intro x y a c σ H F P0 Mm ρ b Q B rx ry h
  cases rx with
  | int i => cases ry with
    | int j =>
      obtain ⟨hl, h⟩ := Post.guard h
      exact ⟨_, op_pow, i, j, rfl, rfl, hl, h.now B (.int _)⟩
    | _ => exact h.elim
  | _ => exact h.elim
/-! comparisons -/
def ltD : D → D → M D
  | .int i, .int j => M.ret (.bl (decide (i < j)))
  | .str x, .str y => M.ret (.bl (decide (x.cps.toList < y.cps.toList)))
  | _, _ => M.fail
theorem ov_lt : OpV X W (compareOp .Lt) ltD := by
  intro x y a c σ H F P0 Mm ρ b Q B rx ry h
  cases rx with
  | int i => cases ry with
    | int j => exact ⟨_, op_lt, i, j, rfl, rfl, h.now B (.bl _)⟩
    | _ => exact h.elim
  | str i => cases ry with
    | str j => exact ⟨_, op_lt_str, i, j, rfl, rfl, h.now B (.bl _)⟩
    | _ => exact h.elim
  | _ => exact h.elim
def leD : D → D → M D
  | .int i, .int j => M.ret (.bl (decide (i ≤ j)))
  | _, _ => M.fail
theorem ov_le : OpV X W (compareOp .LtE) leD := by
  intro x y a c σ H F P0 Mm ρ b Q B rx ry h
  cases rx with
  | int i => cases ry with
    | int j => exact ⟨_, op_le, i, j, rfl, rfl, h.now B (.bl _)⟩
    | _ => exact h.elim
  | _ => exact h.elim
def gtD : D → D → M D
  | .int i, .int j => M.ret (.bl (decide (j < i)))
  | _, _ => M.fail
theorem ov_gt : OpV X W (compareOp .Gt) gtD := by
  intro x y a c σ H F P0 Mm ρ b Q B rx ry h
  cases rx with
  | int i => cases ry with
    | int j => exact ⟨_, op_gt, i, j, rfl, rfl, h.now B (.bl _)⟩
    | _ => exact h.elim
  | _ => exact h.elim
def geD : D → D → M D
  | .int i, .int j => M.ret (.bl (decide (j ≤ i)))
  | _, _ => M.fail
theorem ov_ge : OpV X W (compareOp .GtE) geD := by
  intro x y a c σ H F P0 Mm ρ b Q B rx ry h
  cases rx with
  | int i => cases ry with
    | int j => exact ⟨_, op_ge, i, j, rfl, rfl, h.now B (.bl _)⟩
    | _ => exact h.elim
  | _ => exact h.elim
def D.isNon : D → Bool
  | .non => true
  | _ => false
def isND (a : D) (c : D) : M D := match c with
  | .non => M.ret (.bl a.isNon)
  | _ => M.fail
def notND (a : D) (c : D) : M D := match c with
  | .non => M.ret (.bl (!a.isNon))
  | _ => M.fail
theorem Rep.isNon {K : PySem.W.Frag} {F : Hp} {ρ : Rho} {x : V} {a : D} (r : Rep K F ρ x a) : decide (x = .non) = a.isNon := by
  cases r <;> first | rfl | exact decide_eq_false fun z => nomatch z
theorem ov_isN : OpV X W (compareOp .Is) isND := by
  intro x y a c σ H F P0 Mm ρ b Q B rx ry h
  cases ry with
  | non => exact ⟨_, op_isN, rfl, by rw [rx.isNon]; exact h.now B (.bl _)⟩
  | _ => exact h.elim
theorem ov_notN : OpV X W (compareOp .IsNot) notND := by
  intro x y a c σ H F P0 Mm ρ b Q B rx ry h
  cases ry with
  | non => exact ⟨_, op_notN, rfl, by rw [rx.isNon]; exact h.now B (.bl _)⟩
  | _ => exact h.elim
/-! equality of data -/
mutual
def toPy : D → Option PyData
  | .non => some .none
  | .bl b => some (.bool b)
  | .int i => some (.int i)
  | .str x => some (.str x)
  | .tup xs => (toPyAll xs).map .tuple
  | .lst xs => (toPyAll xs).map .list
  | _ => none
def toPyAll : List D → Option (List PyData)
  | [] => some []
  | x :: xs => match toPy x, toPyAll xs with
    | some a, some as => some (a :: as)
    | _, _ => none
end
mutual
theorem Rep.dp {K : PySem.W.Frag} {F : Hp} {fc : FrC} {P0 : PX fc} {Mm H : Hp} {ρ : Rho} {b : BSt} {σ : St} (B : BRel K F P0 Mm ρ b σ H) : ∀ {x : V} {a : D} {e : PyData}, Rep K F ρ x a → toPy a = some e → Dp K H x e
  | _, _, _, .non, h => by unfold toPy at h; cases h; exact .non
  | _, _, _, .bl b, h => by unfold toPy at h; cases h; exact .bl b
  | _, _, _, .int i, h => by unfold toPy at h; cases h; exact .int i
  | _, _, _, .str i, h => by unfold toPy at h; cases h; exact .str i
  | _, _, _, .ty _, h => by simp [toPy] at h
  | _, _, _, .glo _, h => by simp [toPy] at h
  | _, _, _, .tup (ds := ds) h1 r, h => by
    unfold toPy at h
    cases e : toPyAll ds with
    | none => rw [e] at h; cases h
    | some es => rw [e] at h; cases h; exact .tup (Rep.sqT (P := fun _ => none) B h1) (RepAll.dp B r e)
  | _, _, _, .lst (ds := ds) h1 r, h => by
    unfold toPy at h
    cases e : toPyAll ds with
    | none => rw [e] at h; cases h
    | some es => rw [e] at h; cases h; exact .lst (SqL.of (B.lstAt h1)) (RepAll.dp B r e)
  | _, _, _, .dic _ _ _, h => by simp [toPy] at h
  | _, _, _, .ptr _, h => by simp [toPy] at h
  | _, _, _, .scr _, h => by simp [toPy] at h
  | _, _, _, .xob _ _ _ _, h => by simp [toPy] at h
  | _, _, _, .xob0 _, h => by simp [toPy] at h
  | _, _, _, .lam _ _ _ _, h => by simp [toPy] at h
theorem RepAll.dp {K : PySem.W.Frag} {F : Hp} {fc : FrC} {P0 : PX fc} {Mm H : Hp} {ρ : Rho} {b : BSt} {σ : St} (B : BRel K F P0 Mm ρ b σ H) : ∀ {x : List V} {a : List D} {e : List PyData}, RepAll K F ρ x a → toPyAll a = some e → DpAll K H x e
  | _, _, _, .nil, h => by unfold toPyAll at h; cases h; exact .nil
  | _, _, _, .cons (d := d) (ds := ds) r t, h => by
    unfold toPyAll at h
    cases e1 : toPy d with
    | none => rw [e1] at h; cases h
    | some a =>
      cases e2 : toPyAll ds with
      | none => rw [e1, e2] at h; cases h
      | some as => rw [e1, e2] at h; cases h; exact .cons (Rep.dp B r e1) (RepAll.dp B t e2)
end
def eqB (a c : D) : Option Bool := match a, c with
  | .int i, .int j => some (decide (i = j))
  | .str i, .str j => some (decide (i = j))
  | a, c => match toPy a, toPy c with
    | some d, some e => if SeqAt.shaped d = true ∧ SeqAt.shaped e = true then some (PyData.eqv d e) else none
    | _, _ => none
def optM {α : Type} : Option α → M α
  | some a => M.ret a
  | none => M.fail
def eqD (a c : D) : M D := M.bind (optM (eqB a c)) fun k => M.ret (.bl k)
def neD (a c : D) : M D := M.bind (optM (eqB a c)) fun k => M.ret (.bl (!k))
theorem eqB_dp {K : PySem.W.Frag} {F : Hp} {fc : FrC} {P0 : PX fc} {Mm H : Hp} {ρ : Rho} {b : BSt} {σ : St} {x y : V} {a c : D} {k : Bool} (B : BRel K F P0 Mm ρ b σ H) (rx : Rep K F ρ x a) (ry : Rep K F ρ y c) (h : eqB a c = some k) :
    (scal x y = true ∧ decide (x = y) = k) ∨ ∃ d e, Dp K H x d ∧ Dp K H y e ∧ SeqAt.shaped d = true ∧ SeqAt.shaped e = true ∧ PyData.eqv d e = k := by
  unfold eqB at h
  split at h
  · cases rx; cases ry; cases h; exact .inl ⟨rfl, decide_eq_decide.mpr ⟨fun z => V.int.inj z, fun z => by rw [z]⟩⟩
  · cases rx; cases ry; cases h; exact .inl ⟨rfl, decide_eq_decide.mpr ⟨fun z => V.str.inj z, fun z => by rw [z]⟩⟩
  · split at h
    · rename_i d e h1 h2
      split at h
      · rename_i hs
        cases h
        exact .inr ⟨d, e, rx.dp B h1, ry.dp B h2, hs.1, hs.2, rfl⟩
      · cases h
    · cases h
theorem ov_eq {k : Nat} (hr : Room k X.A) : OpV X W (compareOp .Eq) eqD := by
  intro x y a c σ H F P0 Mm ρ b Q B rx ry h
  unfold eqD optM M.bind at h
  cases e : eqB a c with
  | none => rw [e] at h; exact h.elim
  | some v =>
    rw [e] at h
    rcases eqB_dp B rx ry e with ⟨e1, e2⟩ | ⟨d, f, d1, d2, s1, s2, e2⟩
    · exact ⟨_, op_eq, e1, by rw [e2]; exact Post.now h B (.bl _)⟩
    · exact ⟨_, op_eqD hr.units, d, f, d1, d2, s1, s2, by rw [e2]; exact Post.now h B (.bl _)⟩
theorem ov_ne {k : Nat} (hr : Room k X.A) : OpV X W (compareOp .NotEq) neD := by
  intro x y a c σ H F P0 Mm ρ b Q B rx ry h
  unfold neD optM M.bind at h
  cases e : eqB a c with
  | none => rw [e] at h; exact h.elim
  | some v =>
    rw [e] at h
    rcases eqB_dp B rx ry e with ⟨e1, e2⟩ | ⟨d, f, d1, d2, s1, s2, e2⟩
    · exact ⟨_, op_ne, e1, by rw [e2]; exact Post.now h B (.bl _)⟩
    · exact ⟨_, op_neD hr.units, d, f, d1, d2, s1, s2, by rw [e2]; exact Post.now h B (.bl _)⟩
end
end L2.VI
/-! VI3: displays, tests, subscripts, attributes, calls. -/
namespace L2.VI
open PySem PySem.Spec PyProof.Rows He

/-! ### argument lists, displays -/
def consM (a : M D) (r : M (List D)) : M (List D) := M.bind a fun x => M.bind r fun xs => M.ret (x :: xs)
section
variable {X : Cx} {W : WX} {pos : Pos} {a b e : Expr} {es : List Expr} {ma mb : M D} {mas : M (List D)}
theorem sa_nil : SA X W [] (M.ret []) := SA.of pa_nil fun σ H F P0 Mm ρ bs Q B q => q.now B .nil
theorem sa_cons (ha : SE X W e ma) (hr : SA X W es mas) (hs : starEach (e :: es) X.env = (false, eval e X.env) :: starEach es X.env := by rfl) : SA X W (e :: es) (consM ma mas) :=
  SA.of (pa_cons ha hr hs) fun σ H F P0 Mm ρ bs Q B q => tM_then B q fun x d F1 M1 r1 b1 H1 l1 e1 B1 q1 h1 => tM_then B1 h1 fun xs ds F2 M2 r2 b2 H2 l2 e2 B2 q2 h2 => h2.now B2 (.cons (q1.mono l2 e2) q2)
def tupM (ms : M (List D)) : M D := M.bind ms fun ds => guardM (ds.length ≤ sizeLine) (M.ret (.tup ds))
def lstM (ms : M (List D)) : M D := M.bind ms fun ds => guardM (ds.length ≤ sizeLine) (M.ret (.lst ds))
def lstN (ms : M (List D)) : M SO := M.bind ms fun ds => guardM (ds.length ≤ sizeLine) (M.ret (.lst ds))
theorem se_tup {x1} (h : SA X W es mas) : SE X W (.Tuple es x1 pos) (tupM mas) :=
  SE.of (pe_tup h) fun σ H F P0 Mm ρ bs Q B q => tM_then B q fun xs ds F1 M1 r1 b1 H1 l1 e1 B1 q1 h1 => by
    obtain ⟨hl, h1⟩ := Post.guard h1
    exact ⟨by rw [q1.length]; exact hl, fun p hp => h1.new B1 hp fun F' l e => .tup (.inl e) (q1.mono l (Rle.refl _))⟩
theorem se_lst (h : SA X W es mas) : SE X W (.List es pos) (lstM mas) :=
  SE.of (pe_lst h) fun σ H F P0 Mm ρ bs Q B q => tM_then B q fun xs ds F1 M1 r1 b1 H1 l1 e1 B1 q1 h1 => by
    obtain ⟨hl, h1⟩ := Post.guard h1
    exact ⟨by rw [q1.length]; exact hl, fun p hp => h1.new B1 hp fun F' l e => .lst e (q1.mono l (Rle.refl _))⟩
theorem PostF.guard {K : PySem.W.Frag} {fc : FrC} {P0 : PX fc} {F : Hp} {ρ : Rho} {σ : St} {bs : BSt} {Q : VK} {c : Prop} [Decidable c] {m : M SO} (h : PostF K W P0 F ρ σ Q (guardM c m bs)) : c ∧ PostF K W P0 F ρ σ Q (m bs) := by
  unfold guardM at h
  split at h
  · rename_i hc; exact ⟨hc, h⟩
  · exact h.elim
/-- a fresh object ends a rule -/
theorem PostF.now {K : PySem.W.Frag} {F : Hp} {fc : FrC} {P0 : PX fc} {Mm H : Hp} {ρ : Rho} {bs : BSt} {σ : St} {Q : VK} {p : Addr} {u : HO} {so : SO} (h : PostF K W P0 F ρ σ Q (.ok so bs)) (B : BRel K F P0 Mm ρ bs σ H) (n : H p = none)
    (hso : ∀ P', P' p = some u → RepO K F ρ P' p so) (pl : so.plain = true) : Q (.ref p) (upd H p u) :=
  h p F Mm ρ _ (Leq.refl _) (Rle.refl _) (B.fresh n hso pl)
theorem sn_lst (h : SA X W es mas) : SN X W (.List es pos) (lstN mas) :=
  SN.of (pe_lst h) fun σ H F P0 Mm ρ bs Q B q => tM_thenF B q fun xs ds F1 M1 r1 b1 H1 l1 e1 B1 q1 h1 => by
    obtain ⟨hl, h1⟩ := PostF.guard h1
    exact ⟨by rw [q1.length]; exact hl, fun p hp => h1.now B1 hp (fun P' e => ⟨_, e, q1⟩) rfl⟩
/-- a new object, frozen at once -/
def frzM (m : M SO) : M D := M.bind m fun so => optM so.frozen
theorem se_frz (h : SN X W e m) : SE X W e (frzM m) := ⟨fun pins s σ H Q I ⟨F, P0, Mm, ρ, bs, B, q⟩ => h.run pins s σ H Q I ⟨F, P0, Mm, ρ, bs, B, by
  unfold frzM M.bind at q
  cases z : m bs with
  | ok so b' =>
    rw [z] at q
    intro p F' M' ρ' H' l r fr
    obtain ⟨F2, u, l2, e2, B2, rr⟩ := fr.freeze
    have q2 : Post (Rep X.K) X.K W P0 F ρ σ Q (optM so.frozen b') := q
    cases zz : so.frozen with
    | none => rw [zz] at q2; exact q2.elim
    | some d => rw [zz] at q2; exact q2 _ _ _ _ _ (l.trans l2) r B2 (rr.rep zz)
  | exc x b' => rw [z] at q; exact q
  | fail => rw [z] at q; exact q.elim⟩⟩
/-- .. put into the store -/
def newM (m : M SO) : M D := M.bind m fun so => fun b => .ok (.ptr b.g.nx) { b with g := b.g.new so }
theorem se_new (h : SN X W e m) : SE X W e (newM m) := ⟨fun pins s σ H Q I ⟨F, P0, Mm, ρ, bs, B, q⟩ => h.run pins s σ H Q I ⟨F, P0, Mm, ρ, bs, B, by
  unfold newM M.bind at q
  cases z : m bs with
  | ok so b' =>
    rw [z] at q
    intro p F' M' ρ' H' l r fr
    obtain ⟨M2, r2, rl, B2, rr⟩ := fr.store
    exact q _ _ _ _ _ l (r.trans rl) B2 rr
  | exc x b' => rw [z] at q; exact q
  | fail => rw [z] at q; exact q.elim⟩⟩

/-! ### tests -/
def andB (a b : M Bool) : M Bool := M.bind a fun c => if c = true then b else M.ret false
def orB (a b : M Bool) : M Bool := M.bind a fun c => if c = true then M.ret true else b
def notB (a : M Bool) : M Bool := M.bind a fun c => M.ret (!c)
def SW (X : Cx) (W : WX) (e : Expr) (m : M Bool) : Prop := PW X e (tT (fc := fcOf X) X.K W m)
theorem SW.of {X : Cx} {W : WX} {e : Expr} {m : M Bool} {t : TT} (h : PW X e t)
    (ht : ∀ σ H F (P0 : PX (fcOf X)) Mm ρ b Q, BRel X.K F P0 Mm ρ b σ H → Post (fun _ _ x a => x = a) X.K W P0 F ρ σ Q (m b) → t σ H Q) : SW X W e m := ⟨fun wh pins s σ H Q I ⟨F, P0, Mm, ρ, b, B, q⟩ => h.run wh pins s σ H Q I (ht σ H F P0 Mm ρ b Q B q)⟩
theorem sb_w {e : Expr} {m : M Bool} (h : SW X W e m) : SB X W e m := PW.pt h
variable {ta tb : M Bool} {rest : List Expr} {c : Expr}
theorem sw_and1 (ha : SB X W a ta) : SW X W (.BoolOp .And [a] pos) ta := pw_and1 ha
theorem sw_or1 (ha : SB X W a ta) : SW X W (.BoolOp .Or [a] pos) ta := pw_or1 ha
theorem tT_if {γ δ : Type} {rel' : Hp → Rho → δ → γ → Prop} {K : PySem.W.Frag} {σ : St} {H F : Hp} {fc : FrC} {P0 : PX fc} {Mm : Hp} {ρ : Rho} {bs : BSt} {Q' : δ → Hp → Prop} {m : M Bool} {k1 k2 : M γ} {R1 R2 : Hp → Prop} (B : BRel K F P0 Mm ρ bs σ H)
    (h : Post rel' K W P0 F ρ σ Q' (M.bind m (fun c => if c = true then k1 else k2) bs))
    (h1 : ∀ F1 M1 r1 b1 H1, Leq F F1 → Rle ρ r1 → BRel K F1 P0 M1 r1 b1 σ H1 → Post rel' K W P0 F1 r1 σ Q' (k1 b1) → R1 H1)
    (h2 : ∀ F1 M1 r1 b1 H1, Leq F F1 → Rle ρ r1 → BRel K F1 P0 M1 r1 b1 σ H1 → Post rel' K W P0 F1 r1 σ Q' (k2 b1) → R2 H1) : tT (fc := fc) K W m σ H fun c H1 => if c = true then R1 H1 else R2 H1 :=
  tM_then B h fun x c F1 M1 r1 b1 H1 l1 e1 B1 q1 hh => by
    subst q1
    cases x with
    | true => exact (if_pos rfl).mpr (h1 F1 M1 r1 b1 H1 l1 e1 B1 hh)
    | false => exact (if_neg Bool.false_ne_true).mpr (h2 F1 M1 r1 b1 H1 l1 e1 B1 hh)
theorem sw_and (ha : SB X W a ta) (hb : SW X W (.BoolOp .And (b :: rest) pos) tb) : SW X W (.BoolOp .And (a :: b :: rest) pos) (andB ta tb) :=
  SW.of (pw_and ha hb) fun σ H F P0 Mm ρ bs Q B q => tT_if B q (fun F1 M1 r1 b1 H1 l e B1 h => tM_of B1 h) fun F1 M1 r1 b1 H1 l e B1 h => Post.now h B1 rfl
theorem sw_or (ha : SB X W a ta) (hb : SW X W (.BoolOp .Or (b :: rest) pos) tb) : SW X W (.BoolOp .Or (a :: b :: rest) pos) (orB ta tb) :=
  SW.of (pw_or ha hb) fun σ H F P0 Mm ρ bs Q B q => tT_if B q (fun F1 M1 r1 b1 H1 l e B1 h => Post.now h B1 rfl) fun F1 M1 r1 b1 H1 l e B1 h => tM_of B1 h
theorem sb_not (ha : SB X W a ta) : SB X W (.UnaryOp .Not a pos) (notB ta) :=
  SB.of (pt_not ha) fun σ H F P0 Mm ρ bs Q B q => tM_then B q fun x c F1 M1 r1 b1 H1 l1 e1 B1 q1 hh => by subst q1; exact Post.now hh B1 rfl
def ifM {α : Type} (t : M Bool) (a b : M α) : M α := M.bind t fun c => if c = true then a else b
theorem se_if (hc : SB X W c ta) (ha : SE X W a ma) (hb : SE X W b mb) : SE X W (.IfExp c a b pos) (ifM ta ma mb) :=
  SE.of (pe_ifExp hc ha hb) fun σ H F P0 Mm ρ bs Q B q => tT_if B q (fun F1 M1 r1 b1 H1 l e B1 h => tM_of B1 h) fun F1 M1 r1 b1 H1 l e B1 h => tM_of B1 h
/-! as values -/
def andD (a b : M D) : M D := M.bind a fun x => match x with
  | .bl true => b
  | .bl false => M.ret (.bl false)
  | _ => M.fail
def orD (a b : M D) : M D := M.bind a fun x => match x with
  | .bl true => M.ret (.bl true)
  | .bl false => b
  | _ => M.fail
def notD (a : M D) : M D := M.bind a fun x => match x with
  | .bl c => M.ret (.bl (!c))
  | _ => M.fail
theorem se_one {op} (h : SE X W a ma) : SE X W (.BoolOp op [a] pos) ma := pe_one h
theorem se_and (ha : SE X W a ma) (hb : SE X W (.BoolOp .And (b :: rest) pos) mb) : SE X W (.BoolOp .And (a :: b :: rest) pos) (andD ma mb) :=
  SE.of (pe_and ha hb) fun σ H F P0 Mm ρ bs Q B q => tM_then B q fun x d F1 M1 r1 b1 H1 l1 e1 B1 q1 hh => by
    cases q1 with
    | bl c => cases c with
      | true => exact ⟨true, rfl, (if_pos rfl).mpr (tM_of B1 hh)⟩
      | false => exact ⟨false, rfl, (if_neg Bool.false_ne_true).mpr (Post.now hh B1 (.bl false))⟩
    | _ => exact hh.elim
theorem se_or (ha : SE X W a ma) (hb : SE X W (.BoolOp .Or (b :: rest) pos) mb) : SE X W (.BoolOp .Or (a :: b :: rest) pos) (orD ma mb) :=
  SE.of (pe_or ha hb) fun σ H F P0 Mm ρ bs Q B q => tM_then B q fun x d F1 M1 r1 b1 H1 l1 e1 B1 q1 hh => by
    cases q1 with
    | bl c => cases c with
      | true => exact ⟨true, rfl, (if_pos rfl).mpr (Post.now hh B1 (.bl true))⟩
      | false => exact ⟨false, rfl, (if_neg Bool.false_ne_true).mpr (tM_of B1 hh)⟩
    | _ => exact hh.elim
theorem se_not (ha : SE X W a ma) : SE X W (.UnaryOp .Not a pos) (notD ma) :=
  SE.of (pe_not ha) fun σ H F P0 Mm ρ bs Q B q => tM_then B q fun x d F1 M1 r1 b1 H1 l1 e1 B1 q1 hh => by
    cases q1 with
    | bl c => exact ⟨c, rfl, Post.now hh B1 (.bl _)⟩
    | _ => exact hh.elim
/-! a < b < c -/
def chainD (f g : D → D → M D) (a b c : M D) : M D := M.bind a fun x => M.bind b fun y => M.bind (f x y) fun k => match k with
  | .bl true => M.bind c fun z => g y z
  | .bl false => M.ret (.bl false)
  | _ => M.fail
/-- what an operator's rule gives is a bool, at the heap as it was -/
def OpB (X : Cx) (W : WX) (g : Value → Value → Sem Value) (f : D → D → M D) : Prop := ∀ (x y : V) (a c : D) (σ : St) (H F : Hp) (P0 : PX (fcOf X)) (Mm : Hp) (ρ : Rho) (b : BSt) (Q : VK), BRel X.K F P0 Mm ρ b σ H → Rep X.K F ρ x a → Rep X.K F ρ y c →
  ∀ k : D → M D, Post (Rep X.K) X.K W P0 F ρ σ Q (M.bind (f a c) k b) → ∃ (r : R2) (v : Bool), OpR X g r ∧ f a c b = .ok (.bl v) b ∧ (∀ Q' : VK, Q' (.bl v) H → r x y H Q')
theorem ob_lt : OpB X W (compareOp .Lt) ltD := by
  intro x y a c σ H F P0 Mm ρ b Q B rx ry k h
  cases rx with
  | int i => cases ry with
    | int j => exact ⟨_, _, op_lt, rfl, fun Q' q => ⟨i, j, rfl, rfl, q⟩⟩
    | _ => exact h.elim
  | str i => cases ry with
    | str j => exact ⟨_, _, op_lt_str, rfl, fun Q' q => ⟨i, j, rfl, rfl, q⟩⟩
    | _ => exact h.elim
  | _ => exact h.elim
theorem ob_le : OpB X W (compareOp .LtE) leD := by
  intro x y a c σ H F P0 Mm ρ b Q B rx ry k h
  cases rx with
  | int i => cases ry with
    | int j => exact ⟨_, _, op_le, rfl, fun Q' q => ⟨i, j, rfl, rfl, q⟩⟩
    | _ => exact h.elim
  | _ => exact h.elim
theorem chain_post {op op' : CmpOp} {f g : D → D → M D} {mc : M D} {σ : St} {H F : Hp} {P0 : PX (fcOf X)} {Mm : Hp} {ρ : Rho} {bs : BSt} {Q : VK} {ma mb : M D} (hf : OpB X W (compareOp op) f) (hg : OpV X W (compareOp op') g) (B : BRel X.K F P0 Mm ρ bs σ H)
    (q : Post (Rep X.K) X.K W P0 F ρ σ Q (chainD f g ma mb mc bs)) : tChain (fun x y H Q => ∃ r, OpR X (compareOp op) r ∧ r x y H Q) (fun x y H Q => ∃ r, OpR X (compareOp op') r ∧ r x y H Q) (tE (fc := fcOf X) X.K W ma) (tE (fc := fcOf X) X.K W mb) (tE (fc := fcOf X) X.K W mc) σ H Q := by
  refine tM_then B q fun x d F1 M1 r1 b1 H1 l1 e1 B1 q1 h1 => tM_then B1 h1 fun y e F2 M2 r2 b2 H2 l2 e2 B2 q2 h2 => ?_
  obtain ⟨r, v, hr, ev, hk⟩ := hf x y d e σ H2 F2 P0 M2 r2 b2 Q B2 (q1.mono l2 e2) q2 _ h2
  refine ⟨r, hr, hk _ ⟨v, rfl, ?_⟩⟩
  unfold M.bind at h2
  rw [ev] at h2
  cases v with
  | true => exact (if_pos rfl).mpr (tM_then B2 h2 fun z d3 F3 M3 r3 b3 H3 l3 e3 B3 q3 h3 => hg y z e d3 σ H3 F3 P0 M3 r3 b3 Q B3 (q2.mono l3 e3) q3 h3)
  | false => exact (if_neg Bool.false_ne_true).mpr (Post.now h2 B2 (.bl false))
theorem se_chain {op op' : CmpOp} {f g : D → D → M D} {mc : M D} (hf : OpB X W (compareOp op) f) (hg : OpV X W (compareOp op') g) (ha : SE X W a ma) (hb : SE X W b mb) (hc : SE X W c mc)
    (hm : lastMarks [op, op'] [b, c] = false := by with_unfolding_all rfl) : SE X W (.Compare a [op, op'] [b, c] pos) (chainD f g ma mb mc) :=
  SE.of (pe_chain OpR.any OpR.any ha hb hc hm) fun σ H F P0 Mm ρ bs Q B q => chain_post hf hg B q
theorem sb_chain {op op' : CmpOp} {f g : D → D → M D} {mc : M D} (hf : OpB X W (compareOp op) f) (hg : OpV X W (compareOp op') g) (ha : SE X W a ma) (hb : SE X W b mb) (hc : SE X W c mc)
    (hm : lastMarks [op, op'] [b, c] = false := by with_unfolding_all rfl) : SB X W (.Compare a [op, op'] [b, c] pos) (isB (chainD f g ma mb mc)) :=
  SB.of (pt_chain OpR.any OpR.any ha hb hc hm) fun σ H F P0 Mm ρ bs Q B q => tB_of (t := tChain _ _ _ _ _) B q fun Q' h => chain_post hf hg B h
end
end L2.VI
/-! VI4: subscripts, attributes, calls. -/
namespace L2.VI
open PySem PySem.Spec PyProof.Rows He

/-! ### subscripts -/
def dlook {κ : Type} [DecidableEq κ] (kvs : List (κ × D)) (k : κ) : Option D := (kvs.find? fun kv => decide (kv.1 = k)).map (·.2)
/-- the item of a sequence or dict -/
def ixO (so : SO) (i : D) : Option D := match so, i with
  | .lst xs, .int i => atI xs i
  | .dic kvs, .str x => dlook kvs (.inr x)
  | .dic kvs, .int j => dlook kvs (.inl j)
  | _, _ => none
def ixD (a i : D) : M D := fun b => match a with
  | .lst xs => optM (ixO (.lst xs) i) b
  | .tup xs => optM (ixO (.lst xs) i) b
  | .dic kvs => optM (ixO (.dic kvs) i) b
  | .str z => (match i with
    | .int i => if z.length ≤ sizeLine then optM ((atI z.cps.toList i).map fun c => D.str ⟨#[c]⟩) b else .fail
    | _ => .fail)
  | .ptr k => (match b.g.S k with
    | some so => optM (ixO so i) b
    | none => .fail)
  | _ => .fail
section
variable {X : Cx} {W : WX} {pos : Pos} {a b e : Expr} {es : List Expr} {ma mb : M D} {mas : M (List D)}
variable {K : PySem.W.Frag} {F : Hp} {fc : FrC} {P0 : PX fc} {Mm H : Hp} {ρ : Rho} {bs : BSt} {σ : St}
theorem RepAll.at {vs : List V} {ds : List D} {i : Int} {d : D} (r : RepAll K F ρ vs ds) (h : atI ds i = some d) : ∃ v, atI vs i = some v ∧ Rep K F ρ v d := by
  unfold atI at h ⊢
  rw [r.length]
  cases e : ixN ds.length i with
  | none => rw [e] at h; cases h
  | some j => rw [e] at h; exact r.get h
theorem kv_find {κ : Type} [DecidableEq κ] {k : κ} : ∀ {vs : List (κ × V)} {ds : List (κ × D)}, vs.map (·.1) = ds.map (·.1) → RepAll K F ρ (vs.map (·.2)) (ds.map (·.2)) →
    (∀ d, dlook ds k = some d → ∃ v, valV vs k = some v ∧ Rep K F ρ v d) ∧ (dlook ds k = none → valV vs k = none)
  | [], [], _, _ => ⟨fun d e => (by cases e), fun _ => rfl⟩
  | [], _ :: _, h, _ => by simp at h
  | _ :: _, [], h, _ => by simp at h
  | (k1, v) :: vs, (k2, d) :: ds, h, r => by
    simp only [List.map_cons, List.cons.injEq] at h
    obtain ⟨h1, h2⟩ := h
    subst h1
    cases r with
    | cons r rr =>
      obtain ⟨i1, i2⟩ := kv_find (k := k) h2 rr
      unfold dlook valV at *
      by_cases e : k1 = k
      · simp only [List.find?_cons, e, decide_true, Option.map_some]
        exact ⟨fun d' e' => ⟨v, rfl, by cases e'; exact r⟩, fun z => by cases z⟩
      · simp only [List.find?_cons, e, decide_false]
        exact ⟨i1, i2⟩
/-- o[i] as a rule by values -/
theorem ix_dict (hu : X.A.units + 1 < cLine) : IxR X (fun x y H Q => ∃ a v, x = .ref a ∧ DGet H a y (some v) ∧ Q v H) := by
  intro value slice pins s σ H x y v u Q I rx ry h hs
  obtain ⟨a, z, rfl, g, q⟩ := h
  obtain rfl : v = Value.ref a := rx
  have hT := dict_typeIs I g
  unfold subscriptTail
  refine wpAny_bind ?_
  rw [getitemInPython_of_ne hT.not_modules]
  refine wpAny_bind (wpAny_specialOf hT PySem.F.slot_dict_getitem.lookup ?_)
  have fin : wpAny (model X.prog X.w) X.A (subscripted slice false (.ref a) u) (fun r s₃ => wpAny (model X.prog X.w) X.A (letTemporaryGo value (.ref a) r >>= fun _ => pure r) (EP X pins σ Q) X.xe s₃) X.xe s := by
    rw [hs]
    exact wpAny_operating (wpAny_mono (d_getItem hu I g ry fun w' s' I' r' => (⟨z, H, I', r', q⟩ : EP X pins σ Q w' s')) (fun r s₃ h₃ => wpAny_bind (wpAny_letTemporaryGo (wpAny_pure h₃))) fun _ _ x => x)
  first
    | exact wpAny_pure (wpAny_bind fin)
    | exact wpAny_bind (wpAny_pure (wpAny_bind fin))
    | exact wpAny_bind fin
theorem IxR.any : IxR X (fun x y H Q => ∃ r, IxR X r ∧ r x y H Q) := fun value slice pins s σ H x y v u Q I rx ry ⟨r, hr, q⟩ hs => hr value slice pins s σ H x y v u Q I rx ry q hs
theorem DGet.kr {a : Addr} {kvs : List (Key × V)} {k : Key} (e : Rd H a (.dK kvs)) : DGet H a (kV k) (valV kvs k) := .inl ⟨kvs, k, e, rfl, rfl⟩
/-- the item, where the object's content is known at the heap -/
theorem ixO_ok (hu : X.A.units + 1 < cLine) {so : SO} {p : Addr} {i d : D} {y : V} {u : HO} {Q : VK} (r : RepO X.K F ρ (fun _ => some u) p so) (hp : Rd H p u) (ry : Rep X.K F ρ y i) (h : ixO so i = some d) (hq : ∀ v, Rep X.K F ρ v d → Q v H) :
    ∃ r, IxR X r ∧ r (.ref p) y H Q := by
  cases so with
  | lst xs =>
    obtain ⟨vs, e, r⟩ := r
    cases e
    cases ry with
    | int j =>
      obtain ⟨v, h1, h2⟩ := r.at (show atI xs j = some d from h)
      exact ⟨_, ix_list, p, vs, j, v, rfl, rfl, .inl hp, h1, hq v h2⟩
    | _ => cases h
  | dic kvs =>
    obtain ⟨vs, e, r1, r2⟩ := r
    cases e
    cases ry with
    | int j =>
      obtain ⟨v, h1, h2⟩ := (kv_find (k := Sum.inl j) r1 r2).1 d h
      exact ⟨_, ix_dict hu, p, v, rfl, by rw [← h1]; exact DGet.kr (k := Sum.inl j) hp, hq v h2⟩
    | str j =>
      obtain ⟨v, h1, h2⟩ := (kv_find (k := Sum.inr j) r1 r2).1 d h
      exact ⟨_, ix_dict hu, p, v, rfl, by rw [← h1]; exact DGet.kr (k := Sum.inr j) hp, hq v h2⟩
    | _ => cases h
  | dct kvs => cases ry <;> cases h
  | ins c fs => cases ry <;> cases h
  | tab x q => cases ry <;> cases h
theorem Post.opt {α β γ : Type} {rel : Hp → Rho → β → α → Prop} {Q : β → Hp → Prop} {o : Option α} (h : Post rel K W P0 F ρ σ Q (optM o bs)) : ∃ a, o = some a ∧ Post rel K W P0 F ρ σ Q (.ok a bs) := by
  cases o with
  | none => exact h.elim
  | some a => exact ⟨a, rfl, h⟩
theorem ixD_ok (hu : X.A.units + 1 < cLine) {x y : V} {d i : D} {Q : VK} (B : BRel X.K F P0 Mm ρ bs σ H) (rx : Rep X.K F ρ x d) (ry : Rep X.K F ρ y i) (h : Post (Rep X.K) X.K W P0 F ρ σ Q (ixD d i bs)) : ∃ r, IxR X r ∧ r x y H Q := by
  cases rx with
  | lst h1 r1 =>
    obtain ⟨d, e, h⟩ := Post.opt (γ := Unit) h
    exact ixO_ok hu (so := .lst _) ⟨_, rfl, r1⟩ (.inl (B.lstAt h1)) ry e fun v q => h.now B q
  | tup h1 r1 =>
    rename_i p vs ds
    obtain ⟨d, e, h2⟩ := Post.opt (γ := Unit) h
    cases ry with
    | int j =>
      obtain ⟨v, e1, e2⟩ := r1.at (show atI ds j = some d from e)
      exact ⟨_, ix_tup, _, vs, j, v, rfl, rfl, Rep.sqT (P := fun _ => none) B h1, e1, h2.now B e2⟩
    | _ => cases e
  | dic h1 k1 r1 =>
    obtain ⟨d, e, h⟩ := Post.opt (γ := Unit) h
    exact ixO_ok hu (so := .dic _) ⟨_, rfl, k1, r1⟩ (B.dicAt h1) ry e fun v q => h.now B q
  | str z =>
    cases ry with
    | int j =>
      unfold ixD at h
      dsimp only at h
      split at h
      · rename_i hl
        obtain ⟨d, e, h⟩ := Post.opt (γ := Unit) h
        cases e2 : atI z.cps.toList j with
        | none => rw [e2] at e; cases e
        | some c => rw [e2] at e; cases e; exact ⟨_, ix_str, z, j, c, rfl, rfl, hl, e2, h.now B (.str _)⟩
      · exact h.elim
    | _ => exact h.elim
  | ptr hr =>
    rename_i p k
    unfold ixD at h
    dsimp only at h
    cases e : bs.g.S k with
    | none => rw [e] at h; exact h.elim
    | some so =>
      rw [e] at h
      obtain ⟨d, e2, h⟩ := Post.opt (γ := Unit) h
      cases pl : so.plain with
      | true =>
        obtain ⟨a', u, h1, h2, h3, h4, _⟩ := B.put (so' := so) (u' := .lst []) e pl pl
        rw [hr] at h1; cases h1
        exact ixO_ok hu h4 (.inl h3) ry e2 fun v q => h.now B q
      | false => cases so <;> first | (cases pl; done) | (unfold ixO at e2; cases ry <;> cases e2)
  | _ => exact h.elim
theorem se_ix (hu : X.A.units + 1 < cLine) (ha : SE X W a ma) (hb : SE X W b mb) (hs : PlainIx b := by exact fun _ _ => rfl) : SE X W (.Subscript a b pos) (bin2 ixD ma mb) :=
  SE.of (pe_ix IxR.any ha hb hs) fun σ H F P0 Mm ρ bs Q B q => tE_2 B q fun x y d e F1 M1 r1 b1 H1 B1 qx qy h1 => ixD_ok hu B1 qx qy h1
/-- x[..] of a name: its own object stays its own -/
def hasS (b : BSt) (i : Nat) : Prop := ∃ s, b.t[i]? = some (some s)
def ixV (i : Nat) (mb : M D) : M D := fun b => match b.t[i]? with
  | some (some _) => M.bind mb (fun y => fun b => match b.t[i]? with
    | some (some (.val d)) => ixD d y b
    | some (some (.own so)) => optM (ixO so y) b
    | _ => .fail) b
  | _ => .fail
theorem BRel.slotV {i : Nat} {sl : Slot} (B : BRel K F P0 Mm ρ bs σ H) (e : bs.t[i]? = some (some sl)) : ∃ v, σ[i]? = some (some v) := by
  obtain ⟨P, qq, BB⟩ := B
  have z := BB.sl i _ e
  cases sl with
  | val d => obtain ⟨v, e, _⟩ := z; exact ⟨v, e⟩
  | own o => obtain ⟨v, e, _⟩ := z; exact ⟨_, e⟩
  | frm me up => obtain ⟨v, e, _⟩ := z; exact ⟨v, e⟩
theorem BRel.valV {i : Nat} {d : D} {v : V} (B : BRel K F P0 Mm ρ bs σ H) (e : bs.t[i]? = some (some (.val d))) (hv : σ[i]? = some (some v)) : Rep K F ρ v d := by
  obtain ⟨P, qq, BB⟩ := B
  obtain ⟨v', e2, r⟩ := BB.sl i _ e
  rw [hv] at e2; cases e2
  exact r
theorem BRel.ownV {i : Nat} {so : SO} {v : V} (B : BRel K F P0 Mm ρ bs σ H) (e : bs.t[i]? = some (some (.own so))) (hv : σ[i]? = some (some v)) : ∃ p u, v = .ref p ∧ H p = some u ∧ RepO K F ρ (fun _ => some u) p so ∧ so.plain = true := by
  obtain ⟨P, qq, BB⟩ := id B
  obtain ⟨p, e2, _, _, _, pl⟩ := BB.sl i _ e
  obtain ⟨p', u, e4, e5, e6, _⟩ := B.chg (so' := so) (u' := .lst []) e pl
  rw [hv] at e2 e4; cases e2; cases e4
  exact ⟨p, u, rfl, e5, e6, pl⟩
theorem se_ixV {i : Nat} {x : Str} {p : Pos} (hu : X.A.units + 1 < cLine) (h : PE X (.Name x p) (tVar i)) (hb : SE X W b mb) (hs : PlainIx b := by exact fun _ _ => rfl) :
    SE X W (.Subscript (.Name x p) b pos) (ixV i mb) := by
  refine SE.of (pe_ix IxR.any h hb hs) fun σ H F P0 Mm ρ bs Q B q => ?_
  unfold ixV at q
  split at q
  · rename_i sl e0
    obtain ⟨v, hv⟩ := B.slotV e0
    refine ⟨v, hv, tM_then B q fun y d F1 M1 r1 b1 H1 l1 e1 B1 q1 h1 => ?_⟩
    split at h1
    · rename_i d0 e2
      exact ixD_ok hu B1 (B1.valV e2 hv) q1 h1
    · rename_i so e2
      obtain ⟨d2, e3, h1⟩ := Post.opt (γ := Unit) h1
      obtain ⟨p, u, rfl, e5, e6, _⟩ := B1.ownV e2 hv
      exact ixO_ok hu e6 (.inl e5) q1 e3 fun v q => h1.now B1 q
    · exact h1.elim
  · exact q.elim
end
end L2.VI
/-! VI5: attributes, calls of the text's own defs, classes, built-ins. -/
namespace L2.VI
open PySem PySem.Spec PyProof.Rows He

section
variable {K : PySem.W.Frag} {F P : Hp} {fc : FrC} {P0 : PX fc} {Mm H : Hp} {ρ : Rho} {bs : BSt} {σ : St} {g : GSt}
theorem fs_find {f : Str} : ∀ {vs : List (Str × V)} {ds : List (Str × D)}, vs.map (·.1) = ds.map (·.1) → RepAll K F ρ (vs.map (·.2)) (ds.map (·.2)) →
    (∀ d, ds.lookup f = some d → ∃ v, vs.lookup f = some v ∧ Rep K F ρ v d) ∧ (ds.lookup f = none → vs.lookup f = none)
  | [], [], _, _ => ⟨fun d e => (by cases e), fun _ => rfl⟩
  | [], _ :: _, h, _ => by simp at h
  | _ :: _, [], h, _ => by simp at h
  | (k1, v) :: vs, (k2, d) :: ds, h, r => by
    simp only [List.map_cons, List.cons.injEq] at h
    obtain ⟨h1, h2⟩ := h
    subst h1
    cases r with
    | cons r rr =>
      obtain ⟨i1, i2⟩ := fs_find (f := f) h2 rr
      cases e : (f == k1) with
      | true =>
        simp only [List.lookup_cons, e]
        exact ⟨fun d' e' => ⟨v, rfl, by cases e'; exact r⟩, fun z => by cases z⟩
      | false =>
        simp only [List.lookup_cons, e]
        exact ⟨i1, i2⟩
theorem HRel.insAt {k : Nat} {c : Str} {fs : List (Str × D)} (h : HRel K F P Mm ρ g H) (e : g.S k = some (.ins c fs)) :
    ∃ a dx vs, ρ k = some a ∧ Mm a = some (.ins (ga K c) dx vs) ∧ Mm dx = some (.own a) ∧ H a = some (.ins (ga K c) dx vs) ∧ vs.map (·.1) = fs.map (·.1) ∧ RepAll K F ρ (vs.map (·.2)) (fs.map (·.2)) := by
  obtain ⟨a, e1, dx, vs, h1, h2, h3, h4⟩ := h.st k _ e
  exact ⟨a, dx, vs, e1, h1, h2, h.mh _ _ h1, h3, h4⟩
/-- an instance of the store is changed -/
theorem HRel.putI {k : Nat} {c : Str} {fs fs' : List (Str × D)} {a dx : Addr} {vs vs' : List (Str × V)} (h : HRel K F P Mm ρ g H) (e : g.S k = some (.ins c fs)) (e1 : ρ k = some a) (e2 : Mm a = some (.ins (ga K c) dx vs)) (e3 : Mm dx = some (.own a))
    (hk : vs'.map (·.1) = fs'.map (·.1)) (hr : RepAll K F ρ (vs'.map (·.2)) (fs'.map (·.2))) : HRel K F P (upd Mm a (.ins (ga K c) dx vs')) ρ (g.put k (.ins c fs')) (upd H a (.ins (ga K c) dx vs')) := by
  have nF : F a = none := by
    cases e : F a with
    | none => rfl
    | some v => rw [(h.fp a v e).2] at e2; cases e2
  have nP : P a = none := by
    cases e : P a with
    | none => rfl
    | some v => rw [h.pm a v e] at e2; cases e2
  have ndx : dx ≠ a := fun z => by rw [z, e2] at e3; cases e3
  have ne : ∀ {G : Hp} {b : Addr} {v : HO}, G a = none → G b = some v → b ≠ a := fun {G b v} gn e z => by subst z; rw [gn] at e; cases e
  refine ⟨fun b v e => ?_, fun b v e => ?_, fun b v e => ?_, fun b v e => ?_, fun b v e => ?_, fun j o x => ?_, h.inj, h.nx, fun j c' x => ?_, h.lkUp (fun _ _ e => e) fun c o v f e => by rw [upd_ne (ne nF f)]; exact e⟩
  · have hb := ne nF e
    have q := h.fh b v e
    split
    · rename_i hd
      rw [if_pos hd] at q
      rcases q with q | ⟨o, q⟩
      · exact .inl (by rw [upd_ne hb]; exact q)
      · exact .inr ⟨o, by rw [upd_ne hb]; exact q⟩
    · rename_i hd
      rw [if_neg hd] at q
      rw [upd_ne hb]; exact q
  · rw [upd_ne (ne nP e)]; exact h.ph b v e
  · by_cases hb : b = a
    · subst hb; rw [upd_same] at e ⊢; exact e
    · rw [upd_ne hb] at e ⊢; exact h.mh b v e
  · have hb := ne nF e
    obtain ⟨q1, q2⟩ := h.fp b v e
    exact ⟨q1, by rw [upd_ne hb]; exact q2⟩
  · rw [upd_ne (ne nP e)]; exact h.pm b v e
  · by_cases hj : j = k
    · subst hj
      have x' : SO.ins c fs' = o := Option.some.inj (show some (SO.ins c fs') = some o by rw [← x]; exact (if_pos rfl).symm)
      subst x'
      exact ⟨a, e1, dx, vs', upd_same, by rw [upd_ne ndx]; exact e3, hk, hr⟩
    · have x' : g.S j = some o := by rw [← x]; exact (if_neg hj).symm
      obtain ⟨c', y1, y2⟩ := h.st j o x'
      have hc : c' ≠ a := fun z => hj (h.inj j k a (by rw [← z]; exact y1) e1)
      refine ⟨c', y1, y2.mono (Leq.refl _) (Rle.refl _) fun d w hd z => ?_⟩
      have : d ≠ a := by
        rcases hd with rfl | rfl
        · exact hc
        · intro y; subst y; rw [e2] at z; cases z
      rw [upd_ne this]; exact z
  · obtain ⟨w, y1, y2⟩ := h.rh j c' x
    by_cases hc : c' = a
    · subst hc; exact ⟨_, upd_same, fun _ z => nomatch z⟩
    · exact ⟨w, by rw [upd_ne hc]; exact y1, y2⟩
/-- a new instance in the store -/
theorem HRel.newI {c : Str} {x dx : Addr} (h : HRel K F P Mm ρ g H) (nx : H x = none) (ndx : H dx = none) (ne : dx ≠ x) :
    HRel K F P (upd (upd Mm dx (.own x)) x (.ins (ga K c) dx [])) (rput ρ g.nx x) (g.new (.ins c [])) (upd (upd H dx (.own x)) x (.ins (ga K c) dx [])) ∧ Rle ρ (rput ρ g.nx x) := by
  have n0 : ρ g.nx = none := (h.nx _ (Nat.le_refl _)).1
  have rl : Rle ρ (rput ρ g.nx x) := rle_put n0
  have mx := h.mnone nx
  have md := h.mnone ndx
  have lm : Leq Mm (upd (upd Mm dx (.own x)) x (.ins (ga K c) dx [])) := (leq_upd md).trans (leq_upd (by rw [upd_ne (Ne.symm ne)]; exact mx))
  have lh : Leq H (upd (upd H dx (.own x)) x (.ins (ga K c) dx [])) := (leq_upd ndx).trans (leq_upd (by rw [upd_ne (Ne.symm ne)]; exact nx))
  refine ⟨⟨fun b v e => ?_, fun b v e => lh _ _ (h.ph b v e), fun b v e => ?_, fun b v e => ?_, fun b v e => ?_, fun k o e => ?_, fun k j a e1 e2 => ?_, fun k hk => ?_, fun k a e => ?_, h.lkUp (fun _ _ e => e) fun c o v f e => lh _ _ e⟩, rl⟩
  · have q := h.fh b v e
    split
    · rename_i hd
      rw [if_pos hd] at q
      rcases q with q | ⟨o, q⟩
      · exact .inl (lh _ _ q)
      · exact .inr ⟨o, lh _ _ q⟩
    · rename_i hd
      rw [if_neg hd] at q
      exact lh _ _ q
  · by_cases h1 : b = x
    · subst h1; rw [upd_same] at e ⊢; exact e
    · rw [upd_ne h1] at e ⊢
      by_cases h2 : b = dx
      · subst h2; rw [upd_same] at e ⊢; exact e
      · rw [upd_ne h2] at e ⊢; exact h.mh b v e
  · obtain ⟨q1, q2⟩ := h.fp b v e
    have hb1 : b ≠ x := fun z => by subst z; rw [h.fnone nx] at e; cases e
    have hb2 : b ≠ dx := fun z => by subst z; rw [h.fnone ndx] at e; cases e
    exact ⟨q1, by rw [upd_ne hb1, upd_ne hb2]; exact q2⟩
  · have hb1 : b ≠ x := fun z => by subst z; rw [h.pnone nx] at e; cases e
    have hb2 : b ≠ dx := fun z => by subst z; rw [h.pnone ndx] at e; cases e
    rw [upd_ne hb1, upd_ne hb2]; exact h.pm b v e
  · by_cases hk : k = g.nx
    · subst hk
      have e' : SO.ins c [] = o := Option.some.inj (show some (SO.ins c []) = some o by rw [← e]; exact (if_pos rfl).symm)
      subst e'
      exact ⟨x, rput_same, dx, [], upd_same, by rw [upd_ne ne, upd_same], rfl, .nil⟩
    · have e' : g.S k = some o := by rw [← e]; exact (if_neg hk).symm
      obtain ⟨a, e1, e2⟩ := h.st k o e'
      exact ⟨a, rl.p _ _ e1, e2.mono (Leq.refl _) rl fun c w _ z => lm c w z⟩
  · have np : ∀ k, ρ k ≠ some x := fun k z => by
      obtain ⟨w, hw, _⟩ := h.rh k x z
      rw [mx] at hw; cases hw
    by_cases hk : k = g.nx
    · by_cases hj : j = g.nx
      · rw [hk, hj]
      · subst hk
        rw [rput_same] at e1; cases e1
        rw [rput_ne hj] at e2
        exact absurd e2 (np j)
    · rw [rput_ne hk] at e1
      by_cases hj : j = g.nx
      · subst hj
        rw [rput_same] at e2; cases e2
        exact absurd e1 (np k)
      · rw [rput_ne hj] at e2; exact h.inj k j a e1 e2
  · have h1 : g.nx + 1 ≤ k := hk
    exact ⟨by rw [rput_ne (by omega)]; exact (h.nx k (by omega)).1, (h.nx k (by omega)).2⟩
  · by_cases hk : k = g.nx
    · subst hk; rw [rput_same] at e; cases e; exact ⟨_, upd_same, fun _ z => nomatch z⟩
    · rw [rput_ne hk] at e
      obtain ⟨w, hw, hn⟩ := h.rh k a e
      exact ⟨w, lm a w hw, hn⟩
/-- the store and the heap behind a call -/
theorem BR.step {q : Nat → Option Addr} {F' M' H' : Hp} {ρ' : Rho} {g' : GSt} (B : BR K F P0 P Mm ρ q bs σ H) (l : Leq F F') (r : Rle ρ ρ') (h : HRel K F' P M' ρ' g' H') : BR K F' P0 P M' ρ' q { bs with g := g' } σ H' :=
  ⟨h, B.pp, B.len, B.qi, fun i s e => (B.sl i s e).mono l r fun a ea => ⟨ea, fun _ z => z⟩⟩
end

/-! ### what a def promises -/
inductive GR where
  | ok (d : D) (g : GSt) | exc (x : EX) (g : GSt) | fail
abbrev FnD := List D → GSt → GR
def PostG (K : PySem.W.Frag) (P F : Hp) (ρ : Rho) (Q : VK) (E : XK) : GR → Prop
  | .ok d g' => ∀ (v : V) (F' M' : Hp) (ρ' : Rho) (H' : Hp), Leq F F' → Rle ρ ρ' → HRel K F' P M' ρ' g' H' → Rep K F' ρ' v d → Q v H'
  | .exc x g' => ∀ (cls : Value) (d : Option Addr) (F' M' : Hp) (ρ' : Rho) (H' : Hp), Leq F F' → Rle ρ ρ' → HRel K F' P M' ρ' g' H' → RepX K F' ρ' x cls d → E cls d H'
  | .fail => False
def spV (K : PySem.W.Frag) (n : Nat) (m : FnD) : Sp := fun vs H Q E => vs.length = n ∧ ∃ F P Mm ρ g ds, HRel K F P Mm ρ g H ∧ RepAll K F ρ vs ds ∧ PostG K P F ρ Q E (m ds g)
/-- a call, in a body -/
def callF (m : FnD) (ds : List D) : M D := fun b => match m ds b.g with
  | .ok d g' => .ok d { b with g := g' }
  | .exc x g' => .exc x { b with g := g' }
  | .fail => .fail
/-- .. that raises nothing -/
def callN (m : FnD) (ds : List D) : M D := fun b => match m ds b.g with
  | .ok d g' => .ok d { b with g := g' }
  | _ => .fail
/-- a new instance -/
def makeF (c : Str) (m : FnD) (ds : List D) : M D := fun b => match m (.ptr b.g.nx :: ds) (b.g.new (.ins c [])) with
  | .ok .non g' => .ok (.ptr b.g.nx) { b with g := g' }
  | .exc x g' => .exc x { b with g := g' }
  | _ => .fail
abbrev CV (P : Program) (w : World) : CXT := L2.CX P w
section
variable {X : Cx} {W : WX} {k : Nat} {f C : Addr} {fd : FuncData} {ps : List Str} {n : Nat} {m : FnD} {dvs : List V} {dfl : List D} {ds : List Value} {x c mn : Str} {p pos apos : Pos} {e o : Expr} {es : List Expr} {ma : M D} {mas : M (List D)}
/-- a def's promise from what is wanted behind the call -/
def Ar (m : FnD) (n : Nat) : Prop := ∀ ds g, ds.length ≠ n → m ds g = .fail
theorem sp_of {F : Hp} {fc : FrC} {P0 : PX fc} {Mm H : Hp} {ρ : Rho} {bs : BSt} {σ : St} {vs : List V} {zs : List D} {Q : VK} (ar : Ar m n) (B : BRel X.K F P0 Mm ρ bs σ H) (r : RepAll X.K F ρ vs zs) (h : Post (Rep X.K) X.K W P0 F ρ σ Q (callF m zs bs)) :
    spV X.K n m vs H Q (WE W σ) := by
  obtain ⟨P, q, B⟩ := B
  have hn : vs.length = n := by
    by_cases hz : zs.length = n
    · rw [r.length]; exact hz
    · unfold callF at h; rw [ar _ _ hz] at h; exact h.elim
  refine ⟨hn, F, P, Mm, ρ, bs.g, zs, B.h, r, ?_⟩
  unfold callF at h
  cases e : m zs bs.g with
  | ok d g' => rw [e] at h; exact fun v F' M' ρ' H' l rl h' rr => h v F' M' ρ' H' l rl ⟨P, q, B.step l rl h'⟩ rr
  | exc x g' => rw [e] at h; exact fun v d F' M' ρ' H' l rl h' rr => h v d F' M' ρ' H' l rl ⟨P, q, B.step l rl h'⟩ rr
  | fail => rw [e] at h; exact h
theorem sp_ofN {F : Hp} {fc : FrC} {P0 : PX fc} {Mm H : Hp} {ρ : Rho} {bs : BSt} {σ : St} {vs : List V} {zs : List D} {Q : VK} (ar : Ar m n) (B : BRel X.K F P0 Mm ρ bs σ H) (r : RepAll X.K F ρ vs zs) (h : Post (Rep X.K) X.K W P0 F ρ σ Q (callN m zs bs)) :
    spV X.K n m vs H Q E0 := by
  obtain ⟨P, q, B⟩ := B
  have hn : vs.length = n := by
    by_cases hz : zs.length = n
    · rw [r.length]; exact hz
    · unfold callN at h; rw [ar _ _ hz] at h; exact h.elim
  refine ⟨hn, F, P, Mm, ρ, bs.g, zs, B.h, r, ?_⟩
  unfold callN at h
  cases e : m zs bs.g with
  | ok d g' => rw [e] at h; exact fun v F' M' ρ' H' l rl h' rr => h v F' M' ρ' H' l rl ⟨P, q, B.step l rl h'⟩ rr
  | exc x g' => rw [e] at h; exact h.elim
  | fail => rw [e] at h; exact h
/-- written defaults -/
inductive Flat : V → D → Prop where
  | non : Flat .non .non
  | bl (b : Bool) : Flat (.bl b) (.bl b)
  | int (i : Int) : Flat (.int i) (.int i)
  | str (x : Str) : Flat (.str x) (.str x)
theorem Flat.rep {K : PySem.W.Frag} {F : Hp} {ρ : Rho} {v : V} {d : D} (h : Flat v d) : Rep K F ρ v d := by
  cases h
  · exact .non
  · exact .bl _
  · exact .int _
  · exact .str _
theorem flats {K : PySem.W.Frag} {F : Hp} {ρ : Rho} : ∀ {vs : List V} {ds : List D}, Paired Flat vs ds → RepAll K F ρ vs ds
  | _, _, .nil => .nil
  | _, _, .cons r t => .cons r.rep (flats t)
/-- f(e, ..), every parameter given -/
theorem se_call (tk : Takes X W) (F : FnOk X.prog X.w X.K X.mg X.base (CV X.prog X.w) k f fd ps (spV X.K n m)) (ar : Ar m n) (hr : Room k X.A) (hm : X.mg x = some (.ref f)) (hk : PySem.W.keepIn X.K (.ref f) = true) (hb : Binds X.K fd ps [])
    (ha : SA X W (e :: es) mas) (hg : Gl X x := by rfl) (hdb : (x == ("__debug__" : Str)) = false := by decide) (he : starEach (e :: es) X.env = (false, eval e X.env) :: starEach es X.env := by rfl) (hpl : (backTo pos (starEach es X.env)).any (·.1) = false := by rfl) :
    SE X W (.Call (.Name x p) (e :: es) [] pos) (M.bind mas (callF m)) := by
  refine SE.of (pe_callSD (E := WE W) F hr hg hm hk hb .nil (fun σ => passAt tk σ) ha hdb he hpl) fun σ H Fz P0 Mm ρ bs Q B q => ?_
  refine tM_then B q fun xs zs F1 M1 r1 b1 H1 l1 e1 B1 q1 h1 => ?_
  rw [List.append_nil]
  exact sp_of ar B1 q1 h1
theorem se_call0 (tk : Takes X W) (F : FnOk X.prog X.w X.K X.mg X.base (CV X.prog X.w) k f fd ps (spV X.K n m)) (ar : Ar m n) (hr : Room k X.A) (hm : X.mg x = some (.ref f)) (hk : PySem.W.keepIn X.K (.ref f) = true) (hb : Binds X.K fd ps [])
    (hg : Gl X x := by rfl) (hdb : (x == ("__debug__" : Str)) = false := by decide) : SE X W (.Call (.Name x p) [] [] pos) (callF m []) := by
  refine ⟨fun pins s σ H Q I ⟨Fz, P0, Mm, ρ, bs, B, q⟩ => ?_⟩
  refine wpAny_Call_Name_kw (ld_glob I hg hm ?_ hdb)
  exact PySem.W.callWith_K0 I.kIn hk (run_fnSD (us := []) (vs := []) (E := WE W) F hr hb .nil (passAt tk σ) I .nil (sp_of ar B .nil q))
/-! ### keywords, defaults -/
def kperm {α : Type} (idx : List Nat) (l : List α) : List α := idx.filterMap fun i => l[i]?
theorem kperm_rep {K : PySem.W.Frag} {F : Hp} {ρ : Rho} {vs : List V} {ds : List D} (r : RepAll K F ρ vs ds) : ∀ idx : List Nat, RepAll K F ρ (kperm idx vs) (kperm idx ds)
  | [] => .nil
  | i :: idx => by
    unfold kperm
    rw [List.filterMap_cons, List.filterMap_cons]
    cases e : ds[i]? with
    | none =>
      have e2 : vs[i]? = none := List.getElem?_eq_none_iff.mpr (by rw [r.length]; exact List.getElem?_eq_none_iff.mp e)
      rw [e2]; exact kperm_rep r idx
    | some d =>
      obtain ⟨v, e2, rr⟩ := r.get e
      rw [e2]; exact .cons rr (kperm_rep r idx)
theorem kperm_vals {vs : List V} {us : List Value} (r : Vals vs us) : ∀ idx : List Nat, Vals (kperm idx vs) (kperm idx us)
  | [] => .nil
  | i :: idx => by
    unfold kperm
    rw [List.filterMap_cons, List.filterMap_cons]
    cases e : vs[i]? with
    | none => rw [r.none_of e]; exact kperm_vals r idx
    | some d =>
      obtain ⟨v, e2, rr⟩ := r.get e
      rw [e2]; exact .cons rr (kperm_vals r idx)
/-- n positional values, keywords ks, defaults dvs; idx: which of all of them goes to each parameter -/
def KB (K : PySem.W.Frag) (fd : FuncData) (ps : List Str) (n : Nat) (ks : List Str) (dvs : List V) (idx : List Nat) : Prop :=
  ∃ its : List Value, Vals dvs its ∧ ∀ (s : Shared) (us ws : List Value), K.In s.heap → us.length = n → ws.length = ks.length → BindsTo s fd ⟨us, ks.zip ws⟩ (ps.zip (kperm idx (us ++ (ws ++ its))))
theorem kb_n {K : PySem.W.Frag} {qual : Str} {params : Arguments} {body : List Stmt} {scope : Scope} {ks : List Str} {idx : List Nat} {j : Nat} (F : FunD K x qual params body scope [] [] f fd)
    (h : ∀ (kV doc pm : Value) (an : Option Addr) (cdv ct : Value) (us ws : List Value), us.length = j → ws.length = ks.length → bindArgs (PySem.W.fnOf x qual params body scope .none kV doc pm an cdv ct) ⟨us, ks.zip ws⟩ = pure (ps.zip (kperm idx (us ++ (ws ++ []))))) : KB K fd ps j ks [] idx := by
  obtain ⟨oc, od, dV, kV, doc, pm, an, cdv, ct, osl, rfl, lk, hcd, hD, hK⟩ := F.ex
  rcases hD with ⟨_, rfl⟩ | ⟨e, _⟩
  · exact ⟨[], .nil, fun s us ws _ h1 h2 => .of_eq (h kV doc pm an cdv ct us ws h1 h2)⟩
  · exact absurd rfl e
theorem kb_d {K : PySem.W.Frag} {qual : Str} {params : Arguments} {body : List Stmt} {scope : Scope} {ks : List Str} {idx : List Nat} {j : Nat} (F : FunD K x qual params body scope dvs [] f fd) (hd : dvs ≠ [])
    (h : ∀ (T : Addr) (kV doc pm : Value) (an : Option Addr) (cdv ct : Value) (us ws its : List Value), us.length = j → ws.length = ks.length → its.length = dvs.length →
      ∃ k, bindArgs (PySem.W.fnOf x qual params body scope (.ref T) kV doc pm an cdv ct) ⟨us, ks.zip ws⟩ = seqItems? (.ref T) >>= k ∧ k (some its.toArray) = pure (ps.zip (kperm idx (us ++ (ws ++ its))))) : KB K fd ps j ks dvs idx := by
  obtain ⟨oc, od, dV, kV, doc, pm, an, cdv, ct, osl, rfl, lk, hcd, hD, hK⟩ := F.ex
  rcases hD with ⟨e, _⟩ | ⟨_, T, o, its, m, rfl, lT, oT, rT⟩
  · exact absurd e hd
  · refine ⟨its, rT, fun s us ws X h1 h2 => ?_⟩
    obtain ⟨k, e1, e2⟩ := h T kV doc pm an cdv ct us ws its h1 h2 rT.length.symm
    refine BindsTo.of_looks fun M => ?_
    rw [e1]
    exact looks_items X lT oT (.of_pure e2)
/-- the callee runs, keywords and all -/
theorem run_fnK {pins : List (Addr × Obj)} {σ : St} {H : Hp} {s : Shared} {Q : VK} {E : XK} {sp : Sp} {us ws its : List Value} {vs zs : List V} {idx : List Nat} {ks : List Str} (F : FnOk X.prog X.w X.K X.mg X.base (CV X.prog X.w) k f fd ps sp) (hr : Room k X.A)
    (hb : BindsTo s fd ⟨us, ks.zip ws⟩ (ps.zip (kperm idx (us ++ (ws ++ its))))) (hx : PassesAt (CV X.prog X.w) X σ E)
    (I : Inv X pins σ H s) (r : Vals vs us) (rz : Vals zs ws) (rd : Vals dvs its) (h : sp (kperm idx (vs ++ (zs ++ dvs))) H Q E) : wpAny (model X.prog X.w) X.A (call (.ref f) us (ks.zip ws)) (EP X pins σ Q) X.xe s := by
  refine wpAny_call (codeAny_mono (F.run X.A X.stack s H ⟨us, ks.zip ws⟩ _ _ Q E hr I.env0 hb (kperm_vals (r.append (rz.append rd)) idx) h) fun r s' hq => ?_)
  cases r with
  | error e => exact hx pins H s e s' I hq
  | ok fl =>
    cases fl with
    | ret u => exact I.after hq
    | next => exact False.elim hq
    | brk => exact False.elim hq
    | cont => exact False.elim hq
def SK (X : Cx) (W : WX) (kws : List Keyword) (m : M (List D)) : Prop := PK X kws (tA (fc := fcOf X) X.K W m)
theorem SK.of {kws : List Keyword} {m : M (List D)} {t : TA} (h : PK X kws t)
    (ht : ∀ σ H F (P0 : PX (fcOf X)) Mm ρ b Q, BRel X.K F P0 Mm ρ b σ H → Post (RepAll X.K) X.K W P0 F ρ σ Q (m b) → t σ H Q) : SK X W kws m := ⟨fun pos pins s σ H Q I ⟨F, P0, Mm, ρ, b, B, q⟩ => h.run pos pins s σ H Q I (ht σ H F P0 Mm ρ b Q B q)⟩
theorem sk_nil : SK X W [] (M.ret []) := SK.of pk_nil fun σ H F P0 Mm ρ bs Q B q => q.now B .nil
theorem sk_cons {nm : Option Str} {kpos : Pos} {kws : List Keyword} (ha : SE X W e ma) (hr : SK X W kws mas) : SK X W (⟨nm, e, kpos⟩ :: kws) (consM ma mas) :=
  SK.of (pk_cons ha hr) fun σ H F P0 Mm ρ bs Q B q => tM_then B q fun x d F1 M1 r1 b1 H1 l1 e1 B1 q1 h1 => tM_then B1 h1 fun xs ds F2 M2 r2 b2 H2 l2 e2 B2 q2 h2 => h2.now B2 (.cons (q1.mono l2 e2) q2)
def argsK (j nk : Nat) (dfl : List D) (idx : List Nat) (mas mks : M (List D)) (k : List D → M D) : M D := M.bind mas fun zs => M.bind mks fun ws => guardM (zs.length = j ∧ ws.length = nk) (k (kperm idx (zs ++ (ws ++ dfl))))
/-- f(e, .., k = v, ..) -/
theorem se_callK {kws : List Keyword} {mks : M (List D)} {j : Nat} {ks : List Str} {idx : List Nat} (tk : Takes X W) (F : FnOk X.prog X.w X.K X.mg X.base (CV X.prog X.w) k f fd ps (spV X.K n m)) (ar : Ar m n) (hr : Room k X.A) (hm : X.mg x = some (.ref f)) (hk : PySem.W.keepIn X.K (.ref f) = true)
    (hb : KB X.K fd ps j ks dvs idx) (hf : Paired Flat dvs dfl) (ha : SA X W (e :: es) mas) (hkw : SK X W kws mks) (hg : Gl X x := by rfl) (hall : (backToKw pos (keywordEach kws X.env)).all (·.1.isSome) = true := by rfl) (hks : (backToKw pos (keywordEach kws X.env)).filterMap (·.1) = ks := by rfl)
    (hdb : (x == ("__debug__" : Str)) = false := by decide) (he : starEach (e :: es) X.env = (false, eval e X.env) :: starEach es X.env := by rfl)
    (hpl : ((backTo pos (starEach (e :: es) X.env)).any (·.1) || (backToKw pos (keywordEach kws X.env)).any (·.1.isNone)) = false := by rfl) : SE X W (.Call (.Name x p) (e :: es) kws pos) (argsK j ks.length dfl idx mas mks (callF m)) := by
  obtain ⟨its, rd, hb⟩ := hb
  refine ⟨fun pins s σ H Q I ⟨Fz, P0, Mm, ρ, bs, B, q⟩ => ?_⟩
  refine wpAny_Call_Name_kw (ld_glob I hg hm ?_ hdb)
  have h0 : tA (fc := fcOf X) X.K W mas σ H (fun vs H1 => tA (fc := fcOf X) X.K W mks σ H1 fun zv H2 => vs.length = j ∧ zv.length = ks.length ∧ spV X.K n m (kperm idx (vs ++ (zv ++ dvs))) H2 Q (WE W σ)) :=
    tM_then B q fun xs zs F1 M1 r1 b1 H1 l1 e1 B1 q1 h1 => tM_then B1 h1 fun ys ws F2 M2 r2 b2 H2 l2 e2 B2 q2 h2 => by
      obtain ⟨⟨g1, g2⟩, h2⟩ := Post.guard h2
      exact ⟨q1.length.trans g1, q2.length.trans g2, sp_of ar B2 (kperm_rep ((q1.mono l2 e2).append (q2.append (flats hf))) idx) h2⟩
  refine PySem.W.callWith_KW (h₀ := X.base) I.ok.mod.kin hk hall (thn (ha.run pos pins s σ H _ I h0) fun us s1 ⟨vs, H1, I1, r, q⟩ => thn (hkw.run pos pins s1 σ H1 _ I1 q) fun ws s2 ⟨zv, H2, I2, rz, l1, l2, q2⟩ => ⟨I2.kIn, ?_⟩) hpl he
  rw [hks]
  exact run_fnK F hr (hb s2 us ws I2.kIn (r.length.symm.trans l1) (rz.length.symm.trans l2)) (passAt tk σ) I2 r rz rd q2
theorem se_callK0 {kws : List Keyword} {mks : M (List D)} {ks : List Str} {idx : List Nat} (tk : Takes X W) (F : FnOk X.prog X.w X.K X.mg X.base (CV X.prog X.w) k f fd ps (spV X.K n m)) (ar : Ar m n) (hr : Room k X.A) (hm : X.mg x = some (.ref f)) (hk : PySem.W.keepIn X.K (.ref f) = true)
    (hb : KB X.K fd ps 0 ks dvs idx) (hf : Paired Flat dvs dfl) (hkw : SK X W kws mks) (hg : Gl X x := by rfl) (hall : (backToKw pos (keywordEach kws X.env)).all (·.1.isSome) = true := by rfl) (hks : (backToKw pos (keywordEach kws X.env)).filterMap (·.1) = ks := by rfl)
    (hdb : (x == ("__debug__" : Str)) = false := by decide)
    (hpl : ((backTo pos (starEach [] X.env)).any (·.1) || (backToKw pos (keywordEach kws X.env)).any (·.1.isNone)) = false := by rfl) : SE X W (.Call (.Name x p) [] kws pos) (argsK 0 ks.length dfl idx (M.ret []) mks (callF m)) := by
  obtain ⟨its, rd, hb⟩ := hb
  refine ⟨fun pins s σ H Q I ⟨Fz, P0, Mm, ρ, bs, B, q⟩ => ?_⟩
  refine wpAny_Call_Name_kw (ld_glob I hg hm ?_ hdb)
  refine PySem.W.callWith_KW0 (h₀ := X.base) I.ok.mod.kin hk hall (thn (hkw.run pos pins s σ H (fun zv H2 => zv.length = ks.length ∧ spV X.K n m (kperm idx ([] ++ (zv ++ dvs))) H2 Q (WE W σ)) I (tM_then (m := mks) B q fun ys ws F2 M2 r2 b2 H2 l2 e2 B2 q2 h2 => ?_)) fun ws s2 ⟨zv, H2, I2, rz, q2⟩ => ⟨I2.kIn, ?_⟩) hpl
  rotate_left
  · rw [hks]
    obtain ⟨l2, q2⟩ := q2
    exact run_fnK (us := []) (vs := []) F hr (hb s2 [] ws I2.kIn rfl (rz.length.symm.trans l2)) (passAt tk σ) I2 .nil rz rd q2
  · obtain ⟨⟨g1, g2⟩, h2⟩ := Post.guard h2
    exact ⟨q2.length.trans g2, sp_of ar B2 (kperm_rep (RepAll.nil.append (q2.append (flats hf))) idx) h2⟩
end
end L2.VI
/-! VI6: classes: making, methods, fields, properties; built-ins. -/
namespace L2.VI
open PySem PySem.Spec PyProof.Rows He

section
variable {X : Cx} {W : WX} {k : Nat} {f C : Addr} {fd : FuncData} {ps : List Str} {n : Nat} {m : FnD} {dvs : List V} {dfl : List D} {ds : List Value} {x c mn : Str} {p pos apos : Pos} {e o : Expr} {es : List Expr} {ma : M D} {mas : M (List D)}
variable {K : PySem.W.Frag} {F : Hp} {fc : FrC} {P0 : PX fc} {Mm H : Hp} {ρ : Rho} {bs : BSt} {σ : St}

/-! ### a new instance -/
theorem run_makeK {pins : List (Addr × Obj)} {s : Shared} {Q : VK} {E : XK} {sp : Sp} {us ws its : List Value} {vs zs : List V} {idx : List Nat} {ks : List Str} (Mc : Mk X.K C f) (F : FnOk X.prog X.w X.K X.mg X.base (CV X.prog X.w) k f fd ps sp) (hr : Room (k + 1) X.A)
    (hb : ∀ (s : Shared) (u : Value), X.K.In s.heap → BindsTo s fd ⟨u :: us, ks.zip ws⟩ (ps.zip (kperm idx (u :: us ++ (ws ++ its))))) (hx : PassesAt (CV X.prog X.w) X σ E)
    (I : Inv X pins σ H s) (r : Vals vs us) (rz : Vals zs ws) (rd : Vals dvs its)
    (h : ∀ x dx, H x = none → H dx = none → dx ≠ x → sp (kperm idx (.ref x :: vs ++ (zs ++ dvs))) (upd (upd H dx (.own x)) x (.ins C dx [])) (fun v H2 => v = .non ∧ Q (.ref x) H2) E) :
    wpAny (model X.prog X.w) X.A (call (.ref C) us (ks.zip ws)) (EP X pins σ Q) X.xe s := by
  have hq := h (s.heap.objs.size + 1) s.heap.objs.size (I.hok.fresh (Nat.le_succ _)) (I.hok.fresh (Nat.le_refl _)) (Nat.ne_of_lt (Nat.lt_succ_self _))
  have I2 := Inv.made (C := C) I
  have r2 : Vals (V.ref (s.heap.objs.size + 1) :: vs ++ (zs ++ dvs)) (Value.ref (s.heap.objs.size + 1) :: us ++ (ws ++ its)) := (Vals.append (.cons rfl r) (rz.append rd))
  refine wpAny_call (make_map (f := f) I.kIn Mc.makes Mc.init (beq_iff_eq.mp Mc.fn) (codeAny_mono (F.run _ X.stack _ _ ⟨Value.ref (s.heap.objs.size + 1) :: us, ks.zip ws⟩ _ _ _ E (hr.make C us (ks.zip ws))
    (I2.env0.make C us (ks.zip ws)) (hb _ _ I2.kIn) (kperm_vals r2 idx) hq) fun r s' hq' => ?_))
  cases r with
  | error e => exact hx pins _ _ e s' I2 hq'
  | ok fl =>
    cases fl with
    | ret u =>
      obtain ⟨v, H', I3, rv, ev, q3⟩ := I2.after hq'
      subst ev
      exact ⟨rv, ⟨V.ref (s.heap.objs.size + 1), H', I3, rfl, q3⟩⟩
    | next => exact False.elim hq'
    | brk => exact False.elim hq'
    | cont => exact False.elim hq'
/-- j values are written, keywords ks; the instance itself goes first -/
def KBm (K : PySem.W.Frag) (fd : FuncData) (ps : List Str) (j : Nat) (ks : List Str) (dvs : List V) (idx : List Nat) : Prop := KB K fd ps (j + 1) ks dvs idx
def makeG (c : Str) (m : FnD) (idx : List Nat) (rest : List D) : M D := fun b => match m (kperm idx (.ptr b.g.nx :: rest)) (b.g.new (.ins c [])) with
  | .ok .non g' => .ok (.ptr b.g.nx) { b with g := g' }
  | .exc x g' => .exc x { b with g := g' }
  | _ => .fail
theorem sp_make {vs : List V} {zs : List D} {Q : VK} {idx : List Nat} (ar : Ar m n) (B : BRel X.K F P0 Mm ρ bs σ H) (r : RepAll X.K F ρ vs zs) (h : Post (Rep X.K) X.K W P0 F ρ σ Q (makeG c m idx zs bs)) (x dx : Addr) (nx : H x = none) (ndx : H dx = none) (ne : dx ≠ x) :
    spV X.K n m (kperm idx (.ref x :: vs)) (upd (upd H dx (.own x)) x (.ins (ga X.K c) dx [])) (fun v H2 => v = .non ∧ Q (.ref x) H2) (WE W σ) := by
  obtain ⟨P, q, B⟩ := B
  obtain ⟨h1, rl⟩ := B.h.newI (c := c) nx ndx ne
  have r1 : RepAll X.K F (rput ρ bs.g.nx x) (.ref x :: vs) (.ptr bs.g.nx :: zs) := .cons (.ptr rput_same) (r.mono (Leq.refl _) rl)
  have r2 := kperm_rep r1 idx
  have hn : (kperm idx (.ref x :: vs)).length = n := by
    by_cases hz : (kperm idx (D.ptr bs.g.nx :: zs)).length = n
    · rw [r2.length]; exact hz
    · unfold makeG at h; rw [ar _ _ hz] at h; exact h.elim
  refine ⟨hn, F, P, _, _, _, _, h1, r2, ?_⟩
  unfold makeG at h
  cases e : m (kperm idx (.ptr bs.g.nx :: zs)) (bs.g.new (.ins c [])) with
  | ok d g' =>
    rw [e] at h
    intro v F' M' ρ' H' l r3 h' rr
    cases d with
    | non =>
      cases rr
      exact ⟨rfl, h (.ref x) F' M' ρ' H' l (rl.trans r3) ⟨P, q, B.step l (rl.trans r3) h'⟩ (.ptr (r3.p _ _ rput_same))⟩
    | _ => exact h.elim
  | exc y g' => rw [e] at h; exact fun v d F' M' ρ' H' l r3 h' rr => h v d F' M' ρ' H' l (rl.trans r3) ⟨P, q, B.step l (rl.trans r3) h'⟩ rr
  | fail => rw [e] at h; exact h.elim
theorem se_make {kws : List Keyword} {mks : M (List D)} {j : Nat} {ks : List Str} {idx : List Nat} (tk : Takes X W) (Mc : Mk X.K (ga X.K c) f) (F : FnOk X.prog X.w X.K X.mg X.base (CV X.prog X.w) k f fd ps (spV X.K n m)) (ar : Ar m n) (hr : Room (k + 1) X.A) (hm : X.mg c = some (.ref (ga X.K c)))
    (hb : KBm X.K fd ps j ks dvs idx) (hf : Paired Flat dvs dfl) (ha : SA X W (e :: es) mas) (hkw : SK X W kws mks) (hg : Gl X c := by rfl) (hall : (backToKw pos (keywordEach kws X.env)).all (·.1.isSome) = true := by rfl) (hks : (backToKw pos (keywordEach kws X.env)).filterMap (·.1) = ks := by rfl)
    (hdb : (c == ("__debug__" : Str)) = false := by decide) (he : starEach (e :: es) X.env = (false, eval e X.env) :: starEach es X.env := by rfl)
    (hpl : ((backTo pos (starEach (e :: es) X.env)).any (·.1) || (backToKw pos (keywordEach kws X.env)).any (·.1.isNone)) = false := by rfl) :
    SE X W (.Call (.Name c p) (e :: es) kws pos) (M.bind mas fun zs => M.bind mks fun ws => guardM (zs.length = j ∧ ws.length = ks.length) (makeG c m idx (zs ++ (ws ++ dfl)))) := by
  obtain ⟨its, rd, hb⟩ := hb
  refine ⟨fun pins s σ H Q I ⟨Fz, P0, Mm, ρ, bs, B, q⟩ => ?_⟩
  refine wpAny_Call_Name_kw (ld_glob I hg hm ?_ hdb)
  have h0 : tA (fc := fcOf X) X.K W mas σ H (fun vs H1 => tA (fc := fcOf X) X.K W mks σ H1 fun zv H2 => vs.length = j ∧ zv.length = ks.length ∧ ∀ x dx, H2 x = none → H2 dx = none → dx ≠ x →
      spV X.K n m (kperm idx (.ref x :: (vs ++ (zv ++ dvs)))) (upd (upd H2 dx (.own x)) x (.ins (ga X.K c) dx [])) (fun v H3 => v = .non ∧ Q (.ref x) H3) (WE W σ)) :=
    tM_then B q fun xs zs F1 M1 r1 b1 H1 l1 e1 B1 q1 h1 => tM_then B1 h1 fun ys ws F2 M2 r2 b2 H2 l2 e2 B2 q2 h2 => by
      obtain ⟨⟨g1, g2⟩, h2⟩ := Post.guard h2
      exact ⟨q1.length.trans g1, q2.length.trans g2, fun x dx nx ndx ne => sp_make ar B2 ((q1.mono l2 e2).append (q2.append (flats hf))) h2 x dx nx ndx ne⟩
  refine PySem.W.callWith_KW (h₀ := X.base) I.ok.mod.kin Mc.kp hall (thn (ha.run pos pins s σ H _ I h0) fun us s1 ⟨vs, H1, I1, r, q⟩ => thn (hkw.run pos pins s1 σ H1 _ I1 q) fun ws s2 ⟨zv, H2, I2, rz, l1, l2, q2⟩ => ⟨I2.kIn, ?_⟩) hpl he
  rw [hks]
  exact run_makeK Mc F hr (fun s u hs => hb s (u :: us) ws hs (congrArg Nat.succ (r.length.symm.trans l1)) (rz.length.symm.trans l2)) (passAt tk σ) I2 r rz rd q2

/-! ### methods -/
/-- d is an instance of the class -/
def isIns (c : Str) (d : D) (g : GSt) : Bool := match d with
  | .ptr k => (match g.S k with
    | some (.ins c' fs) => decide (c' = c)
    | _ => false)
  | _ => false
def noField (mn : Str) (d : D) (g : GSt) : Bool := match d with
  | .ptr k => (match g.S k with
    | some (.ins _ fs) => (fs.lookup mn).isNone
    | _ => false)
  | _ => false
theorem noField_of {k : Nat} {fs : List (Str × D)} {g : GSt} (hS : g.S k = some (.ins c fs)) (h : noField mn (.ptr k) g = true) : fs.lookup mn = none := by
  unfold noField at h
  dsimp only at h
  rw [hS] at h
  exact Option.isNone_iff_eq_none.mp h
def selfM (c mn : Str) (mo : M D) (k : D → M D) : M D := M.bind mo fun d => fun b => if isIns c d b.g = true ∧ noField mn d b.g = true then k d b else .fail
theorem isIns_at {x : V} {d : D} (B : BRel K F P0 Mm ρ bs σ H) (r : Rep K F ρ x d) (h : isIns c d bs.g = true) : ∃ k a dx vs fs, d = .ptr k ∧ x = .ref a ∧ bs.g.S k = some (.ins c fs) ∧ ρ k = some a ∧ Mm a = some (.ins (ga K c) dx vs) ∧ Mm dx = some (.own a) ∧ H a = some (.ins (ga K c) dx vs) ∧
    vs.map (·.1) = fs.map (·.1) ∧ RepAll K F ρ (vs.map (·.2)) (fs.map (·.2)) := by
  cases r with
  | ptr hk =>
    rename_i a k
    unfold isIns at h
    dsimp only at h
    split at h
    · rename_i c' fs e
      have e1 : c' = c := of_decide_eq_true h
      subst e1
      obtain ⟨P, q, BB⟩ := B
      obtain ⟨a', dx, vs, h1, h2, h3, h4, h5, h6⟩ := BB.h.insAt e
      rw [hk] at h1; cases h1
      exact ⟨k, a, dx, vs, fs, rfl, rfl, e, hk, h2, h3, h4, h5, h6⟩
    · cases h
  | _ => cases h
theorem se_meth {kws : List Keyword} {mks : M (List D)} {j : Nat} {ks : List Str} {idx : List Nat} {pl : Sem Bool} (tk : Takes X W) (ho : SE X W o ma) (cl : Cls X.K (ga X.K c)) (hm : Meth X.K (ga X.K c) mn f) (F : FnOk X.prog X.w X.K X.mg X.base (CV X.prog X.w) k f fd ps (spV X.K n m)) (ar : Ar m n) (hr : Room k X.A)
    (hb : KBm X.K fd ps j ks dvs idx) (hf : Paired Flat dvs dfl) (ha : SA X W (e :: es) mas) (hkw : SK X W kws mks) (hall : (backToKw pos (keywordEach kws X.env)).all (·.1.isSome) = true := by rfl) (hks : (backToKw pos (keywordEach kws X.env)).filterMap (·.1) = ks := by rfl)
    (he : starEach (e :: es) X.env = (false, eval e X.env) :: starEach es X.env := by rfl) (hpl : ((backTo pos (starEach (e :: es) X.env)).any (·.1) || (backToKw pos (keywordEach kws X.env)).any (·.1.isNone)) = false := by rfl)
    (ht : eval (.Call (.Attribute o mn apos) (e :: es) kws pos) X.env = (do
      let ov ← eval o X.env
      standAt apos.atName
      let (f, first) ← holding [ov] (getMethod ov mn pl)
      callWith pos f first (backTo pos (starEach (e :: es) X.env)) (backToKw pos (keywordEach kws X.env))) := by rfl) :
    SE X W (.Call (.Attribute o mn apos) (e :: es) kws pos) (selfM c mn ma fun d => M.bind mas fun zs => M.bind mks fun ws => guardM (zs.length = j ∧ ws.length = ks.length) (callF m (kperm idx (d :: zs ++ (ws ++ dfl))))) := by
  obtain ⟨its, rd, hb⟩ := hb
  refine ⟨fun pins s σ H Q I ⟨Fz, P0, Mm, ρ, bs, B, q⟩ => ?_⟩
  have h0 : tE (fc := fcOf X) X.K W ma σ H (fun x H0 => ∃ a dx vs0, x = .ref a ∧ H0 a = some (.ins (ga X.K c) dx vs0) ∧ vs0.lookup mn = none ∧ tA (fc := fcOf X) X.K W mas σ H0 fun vs H1 => tA (fc := fcOf X) X.K W mks σ H1 fun zv H2 => vs.length = j ∧ zv.length = ks.length ∧
      spV X.K n m (kperm idx (.ref a :: vs ++ (zv ++ dvs))) H2 Q (WE W σ)) :=
    tM_then B q fun x d F0 M0 r0 b0 H0 l0 e0 B0 q0 h0 => by
      dsimp only at h0
      split at h0
      · rename_i hc
        obtain ⟨hc, hf0⟩ := hc
        obtain ⟨kk, a, dx, vs, fs, rfl, rfl, hS, hk, _, _, hH, h5, h6⟩ := isIns_at B0 q0 hc
        have hl : fs.lookup mn = none := noField_of hS hf0
        refine ⟨a, dx, vs, rfl, hH, (fs_find h5 h6).2 hl, ?_⟩
        exact tM_then B0 h0 fun xs zs F1 M1 r1 b1 H1 l1 e1 B1 q1 h1 => tM_then B1 h1 fun ys ws F2 M2 r2 b2 H2 l2 e2 B2 q2 h2 => by
          obtain ⟨⟨g1, g2⟩, h2⟩ := Post.guard h2
          exact ⟨q1.length.trans g1, q2.length.trans g2, sp_of ar B2 (kperm_rep (RepAll.append (.cons (q0.mono (l1.trans l2) (e1.trans e2)) (q1.mono l2 e2)) (q2.append (flats hf))) idx) h2⟩
      · exact h0.elim
  refine PySem.W.methodCall_KW (pl := pl) (thn (ho.run pins s σ H _ I h0) fun u s1 ⟨x, H1, I1, rx, a, dx, fs, ex, ea, l, q⟩ => ?_) ht
  subst ex
  obtain rfl : u = Value.ref a := rx
  refine getmeth_ok I1 ea cl hm l ?_
  refine PySem.W.callWith_KW (first := [.ref a]) (h₀ := X.base) I.ok.mod.kin hm.kp hall (thn (ha.run pos pins s1 σ H1 _ I1 q) fun us s2 ⟨vs, H2, I2, r, q2⟩ => thn (hkw.run pos pins s2 σ H2 _ I2 q2) fun ws s3 ⟨zv, H3, I3, rz, l1, l2, q3⟩ => ⟨I3.kIn, ?_⟩) hpl he
  rw [hks]
  exact run_fnK (us := .ref a :: us) (vs := .ref a :: vs) F hr (hb s3 (.ref a :: us) ws I3.kIn (congrArg Nat.succ (r.length.symm.trans l1)) (rz.length.symm.trans l2)) (passAt tk σ) I3 (.cons rfl r) rz rd q3
/-- o.m() -/
theorem se_meth0 {pl : Sem Bool} {idx : List Nat} (tk : Takes X W) (ho : SE X W o ma) (cl : Cls X.K (ga X.K c)) (hm : Meth X.K (ga X.K c) mn f) (F : FnOk X.prog X.w X.K X.mg X.base (CV X.prog X.w) k f fd ps (spV X.K n m)) (ar : Ar m n) (hr : Room k X.A)
    (hb : KBm X.K fd ps 0 [] dvs idx) (hf : Paired Flat dvs dfl)
    (ht : eval (.Call (.Attribute o mn apos) [] [] pos) X.env = (do
      let ov ← eval o X.env
      standAt apos.atName
      let (f, first) ← holding [ov] (getMethod ov mn pl)
      callWith pos f first (backTo pos (starEach [] X.env)) (backToKw pos (keywordEach [] X.env))) := by rfl) :
    SE X W (.Call (.Attribute o mn apos) [] [] pos) (selfM c mn ma fun d => callF m (kperm idx (d :: dfl))) := by
  obtain ⟨its, rd, hb⟩ := hb
  refine ⟨fun pins s σ H Q I ⟨Fz, P0, Mm, ρ, bs, B, q⟩ => ?_⟩
  have h0 : tE (fc := fcOf X) X.K W ma σ H (fun x H0 => ∃ a dx vs0, x = .ref a ∧ H0 a = some (.ins (ga X.K c) dx vs0) ∧ vs0.lookup mn = none ∧ spV X.K n m (kperm idx (.ref a :: dvs)) H0 Q (WE W σ)) :=
    tM_then B q fun x d F0 M0 r0 b0 H0 l0 e0 B0 q0 h0 => by
      dsimp only at h0
      split at h0
      · rename_i hc
        obtain ⟨hc, hf0⟩ := hc
        obtain ⟨kk, a, dx, vs, fs, rfl, rfl, hS, hk, _, _, hH, h5, h6⟩ := isIns_at B0 q0 hc
        have hl : fs.lookup mn = none := noField_of hS hf0
        exact ⟨a, dx, vs, rfl, hH, (fs_find h5 h6).2 hl, sp_of ar B0 (kperm_rep (.cons q0 (flats hf)) idx) h0⟩
      · exact h0.elim
  refine PySem.W.methodCall_KW (pl := pl) (thn (ho.run pins s σ H _ I h0) fun u s1 ⟨x, H1, I1, rx, a, dx, fs, ex, ea, l, q⟩ => ?_) ht
  subst ex
  obtain rfl : u = Value.ref a := rx
  refine getmeth_ok I1 ea cl hm l ?_
  exact PySem.W.callWith_K0 (first := [.ref a]) I1.kIn hm.kp (run_fnK (us := [.ref a]) (vs := [.ref a]) (ws := []) (zs := []) (ks := []) F hr (hb s1 [.ref a] [] I1.kIn rfl rfl) (passAt tk σ) I1 (.cons rfl .nil) .nil rd q)

/-! ### fields, properties -/
def fldM (c fn : Str) (mo : M D) : M D := M.bind mo fun d => fun b => match d with
  | .ptr k => (match b.g.S k with
    | some (.ins c' fs) => if c' = c then optM (fs.lookup fn) b else .fail
    | _ => .fail)
  | _ => .fail
theorem se_fld {fn : Str} (ho : SE X W o ma) (cl : Cls X.K (ga X.K c)) (na : NoAttr X.K (ga X.K c) fn) (hb : attributeBase o fn X.env (eval o X.env) = eval o X.env := by rfl) : SE X W (.Attribute o fn pos) (fldM c fn ma) :=
  SE.of (pe_fld ho hb) fun σ H F P0 Mm ρ bs Q B q => tM_then B q fun x d F1 M1 r1 b1 H1 l1 e1 B1 q1 h1 => by
    cases q1 with
    | ptr hk =>
      rename_i a k
      dsimp only at h1
      split at h1
      · rename_i c' fs e
        split at h1
        · rename_i hc
          subst hc
          obtain ⟨P, q, BB⟩ := id B1
          obtain ⟨a', dx, vs, y1, y2, y3, y4, y5, y6⟩ := BB.h.insAt e
          rw [hk] at y1; cases y1
          obtain ⟨d, e2, h1⟩ := Post.opt (γ := Unit) h1
          obtain ⟨v, e3, rv⟩ := (fs_find (f := fn) y5 y6).1 d e2
          exact ⟨a, _, dx, vs, v, rfl, y4, cl, na, e3, h1.now B1 rv⟩
        · exact h1.elim
      · exact h1.elim
    | _ => exact h1.elim
def propM (c : Str) (m : FnD) (mo : M D) : M D := M.bind mo fun d => fun b => if isIns c d b.g = true then callN m [d] b else .fail
theorem se_prop {fn : Str} {pa : Addr} (ho : SE X W o ma) (cl : Cls X.K (ga X.K c)) (hp : PropOf X.K (ga X.K c) fn pa f) (F : FnOk X.prog X.w X.K X.mg X.base (CV X.prog X.w) k f fd ps (spV X.K n m)) (ar : Ar m n) (hr : Room (k + 1) X.A) (hb : Binds X.K fd ps [])
    (hab : attributeBase o fn X.env (eval o X.env) = eval o X.env := by rfl) : SE X W (.Attribute o fn pos) (propM c m ma) :=
  SE.of (pe_prop ho cl hp F hr hb .nil (passL (X := X.nox)) hab) fun σ H F P0 Mm ρ bs Q B q => tM_then B q fun x d F1 M1 r1 b1 H1 l1 e1 B1 q1 h1 => by
    try dsimp only at h1
    split at h1
    · rename_i hc
      obtain ⟨kk, a, dx, vs, fs, rfl, rfl, hS, hk, _, _, hH, h5, h6⟩ := isIns_at B1 q1 hc
      exact ⟨a, dx, vs, rfl, hH, sp_ofN ar B1 (.cons q1 .nil) h1⟩
    · exact h1.elim

/-! ### built-ins -/
def CallV (X : Cx) (W : WX) (g : Value) (fn : List D → M D) : Prop := ∀ (xs : List V) (as : List D) (σ : St) (H F : Hp) (P0 : PX (fcOf X)) (Mm : Hp) (ρ : Rho) (b : BSt) (Q : VK), BRel X.K F P0 Mm ρ b σ H → RepAll X.K F ρ xs as →
  Post (Rep X.K) X.K W P0 F ρ σ Q (fn as b) → ∃ r, CallR X g r ∧ r xs H Q
theorem CallR.any {g : Value} : CallR X g (fun xs H Q => ∃ r, CallR X g r ∧ r xs H Q) := fun pins s σ H xs us Q I rx ⟨r, hr, q⟩ => hr pins s σ H xs us Q I rx q
theorem se_callB {id : String} {fn : List D → M D} (hc : CallV X W (.builtin id) fn) (hm : X.mg x = none) (hv : bootBuiltins x = some (.builtin id)) (ha : SA X W (e :: es) mas) (hg : Gl X x := by rfl) (hn : x ≠ "__name__" := by decide) (hdb : (x == ("__debug__" : Str)) = false := by decide)
    (he : starEach (e :: es) X.env = (false, eval e X.env) :: starEach es X.env := by rfl) (hpl : (backTo pos (starEach es X.env)).any (·.1) = false := by rfl) : SE X W (.Call (.Name x p) (e :: es) [] pos) (M.bind mas fn) :=
  SE.of (pe_callB CallR.any hg hm hv ha hn hdb he hpl) fun σ H F P0 Mm ρ bs Q B q => tM_then B q fun xs zs F1 M1 r1 b1 H1 l1 e1 B1 q1 h1 => hc xs zs σ H1 F1 P0 M1 r1 b1 Q B1 q1 h1
theorem se_callT {T : String} {fn : List D → M D} (hc : CallV X W (.type T) fn) (hm : X.mg x = none) (hv : bootBuiltins x = some (.type T)) (ha : SA X W (e :: es) mas) (hg : Gl X x := by rfl) (hn : x ≠ "__name__" := by decide) (hdb : (x == ("__debug__" : Str)) = false := by decide)
    (he : starEach (e :: es) X.env = (false, eval e X.env) :: starEach es X.env := by rfl) (hpl : (backTo pos (starEach es X.env)).any (·.1) = false := by rfl) : SE X W (.Call (.Name x p) (e :: es) [] pos) (M.bind mas fn) :=
  SE.of (pe_callTy CallR.any hg hm hv ha hn hdb he hpl) fun σ H F P0 Mm ρ bs Q B q => tM_then B q fun xs zs F1 M1 r1 b1 H1 l1 e1 B1 q1 h1 => hc xs zs σ H1 F1 P0 M1 r1 b1 Q B1 q1 h1
end
end L2.VI
/-! VI7: statements; methods of lists and dicts. -/
namespace L2.VI
open PySem PySem.Spec PyProof.Rows He

inductive Fl where
  | nx | ret (d : D) | brk | cnt
def PostS (K : PySem.W.Frag) (W : WX) {fc : FrC} (P0 : PX fc) (F : Hp) (ρ : Rho) (D : Ends) : R Fl → Prop
  | .ok .nx b' => ∀ (σ' : St) (F' M' : Hp) (ρ' : Rho) (H' : Hp), Leq F F' → Rle ρ ρ' → BRel K F' P0 M' ρ' b' σ' H' → D.nx σ' H'
  | .ok (.ret d) b' => ∀ (v : V) (σ' : St) (F' M' : Hp) (ρ' : Rho) (H' : Hp), Leq F F' → Rle ρ ρ' → BRel K F' P0 M' ρ' b' σ' H' → Rep K F' ρ' v d → D.rt v H'
  | .ok .brk b' => ∀ (σ' : St) (F' M' : Hp) (ρ' : Rho) (H' : Hp), Leq F F' → Rle ρ ρ' → BRel K F' P0 M' ρ' b' σ' H' → D.bk σ' H'
  | .ok .cnt b' => ∀ (σ' : St) (F' M' : Hp) (ρ' : Rho) (H' : Hp), Leq F F' → Rle ρ ρ' → BRel K F' P0 M' ρ' b' σ' H' → D.ct σ' H'
  | .exc x b' => ∀ (cls : Value) (d : Option Addr) (σ' : St) (F' M' : Hp) (ρ' : Rho) (H' : Hp), Leq F F' → Rle ρ ρ' → BRel K F' P0 M' ρ' b' σ' H' → RepX K F' ρ' x cls d → W cls d σ' H'
  | .fail => False
def sV {fc : FrC} (K : PySem.W.Frag) (W : WX) (m : M Fl) : TS := fun D σ H => ∃ (F : Hp) (P0 : PX fc) (Mm : Hp) (ρ : Rho) (b : BSt), BRel K F P0 Mm ρ b σ H ∧ PostS K W P0 F ρ D (m b)
def SS (X : Cx) (W : WX) (st : Stmt) (m : M Fl) : Prop := PS X st (sV (fc := fcOf X) X.K W m)
def SSs (X : Cx) (W : WX) (st : List Stmt) (m : M Fl) : Prop := PSs X st (sV (fc := fcOf X) X.K W m)
section
variable {K : PySem.W.Frag} {W : WX} {fc : FrC} {P0 : PX fc} {F F1 Mm H : Hp} {ρ r1 : Rho} {σ : St} {bs : BSt} {D0 D1 : Ends}
theorem PostS.mono {r : R Fl} (h : PostS K W P0 F ρ D0 r) (l : Leq F F1) (e : Rle ρ r1) : PostS K W P0 F1 r1 D0 r := by
  cases r with
  | ok a b' =>
    cases a with
    | nx => exact fun σ' F' M' ρ' H' l' e' B => h σ' F' M' ρ' H' (l.trans l') (e.trans e') B
    | ret d => exact fun v σ' F' M' ρ' H' l' e' B r => h v σ' F' M' ρ' H' (l.trans l') (e.trans e') B r
    | brk => exact fun σ' F' M' ρ' H' l' e' B => h σ' F' M' ρ' H' (l.trans l') (e.trans e') B
    | cnt => exact fun σ' F' M' ρ' H' l' e' B => h σ' F' M' ρ' H' (l.trans l') (e.trans e') B
  | exc x b' => exact fun c d σ' F' M' ρ' H' l' e' B r => h c d σ' F' M' ρ' H' (l.trans l') (e.trans e') B r
  | fail => exact h
theorem PostS.nxt (h : PostS K W P0 F ρ D0 (.ok .nx bs)) (B : BRel K F P0 Mm ρ bs σ H) : D0.nx σ H := h σ F Mm ρ H (Leq.refl _) (Rle.refl _) B
theorem sV_of {m : M Fl} (B : BRel K F P0 Mm ρ bs σ H) (h : PostS K W P0 F ρ D0 (m bs)) : sV (fc := fc) K W m D0 σ H := ⟨F, P0, Mm, ρ, bs, B, h⟩
/-- an expression ahead of the rest of a statement -/
theorem sM_then {α β : Type} {rel : Hp → Rho → β → α → Prop} {m : M α} {k : α → M Fl} {Q : β → Hp → Prop} (B : BRel K F P0 Mm ρ bs σ H) (h : PostS K W P0 F ρ D0 (M.bind m k bs))
    (hk : ∀ x a F1 M1 r1 b1 H1, Leq F F1 → Rle ρ r1 → BRel K F1 P0 M1 r1 b1 σ H1 → rel F1 r1 x a → PostS K W P0 F1 r1 D0 (k a b1) → Q x H1) : tM (fc := fc) rel K W m σ H Q := by
  refine ⟨F, P0, Mm, ρ, bs, B, ?_⟩
  unfold M.bind at h
  cases e : m bs with
  | ok a b' =>
    rw [e] at h
    exact fun x F' M' ρ' H' l r B' q => hk x a F' M' ρ' b' H' l r B' q (PostS.mono h l r)
  | exc x b' => rw [e] at h; exact fun c d F' M' ρ' H' l r B' q => h c d σ F' M' ρ' H' l r B' q
  | fail => rw [e] at h; exact h.elim
theorem sM_thenF {m : M SO} {k : SO → M Fl} {Q : VK} (B : BRel K F P0 Mm ρ bs σ H) (h : PostS K W P0 F ρ D0 (M.bind m k bs))
    (hk : ∀ p so F1 M1 r1 b1 H1, Leq F F1 → Rle ρ r1 → Frs K F1 P0 M1 r1 b1 σ H1 p so → PostS K W P0 F1 r1 D0 (k so b1) → Q (.ref p) H1) : tF (fc := fc) K W m σ H Q := by
  refine ⟨F, P0, Mm, ρ, bs, B, ?_⟩
  unfold M.bind at h
  cases e : m bs with
  | ok a b' =>
    rw [e] at h
    exact fun p F' M' ρ' H' l r B' => hk p a F' M' ρ' b' H' l r B' (PostS.mono h l r)
  | exc x b' => rw [e] at h; exact fun c d F' M' ρ' H' l r B' q => h c d σ F' M' ρ' H' l r B' q
  | fail => rw [e] at h; exact h.elim
theorem PostS.guard {c : Prop} [Decidable c] {m : M Fl} (h : PostS K W P0 F ρ D0 (guardM c m bs)) : c ∧ PostS K W P0 F ρ D0 (m bs) := by
  unfold guardM at h
  split at h
  · rename_i hc; exact ⟨hc, h⟩
  · exact h.elim
theorem PostS.opt {α : Type} {o : Option α} {k : α → M Fl} (h : PostS K W P0 F ρ D0 (M.bind (optM o) k bs)) : ∃ a, o = some a ∧ PostS K W P0 F ρ D0 (k a bs) := by
  cases o with
  | none => exact h.elim
  | some a => exact ⟨a, rfl, h⟩
end
def seqM (m k : M Fl) : M Fl := M.bind m fun f => match f with
  | .nx => k
  | f => M.ret f
section
variable {X : Cx} {W : WX} {pos : Pos} {st : Stmt} {rest : List Stmt} {e : Expr} {m k : M Fl} {me : M D}
theorem SS.of {t : TS} (h : PS X st t) (ht : ∀ σ H F (P0 : PX (fcOf X)) Mm ρ b D, BRel X.K F P0 Mm ρ b σ H → PostS X.K W P0 F ρ D (m b) → t D σ H) : SS X W st m := ⟨fun pins s σ H D I ⟨F, P0, Mm, ρ, b, B, q⟩ => h.run pins s σ H D I (ht σ H F P0 Mm ρ b D B q)⟩
theorem SSs.of {st : List Stmt} {t : TS} (h : PSs X st t) (ht : ∀ σ H F (P0 : PX (fcOf X)) Mm ρ b D, BRel X.K F P0 Mm ρ b σ H → PostS X.K W P0 F ρ D (m b) → t D σ H) : SSs X W st m := ⟨fun pins s σ H D I ⟨F, P0, Mm, ρ, b, B, q⟩ => h.run pins s σ H D I (ht σ H F P0 Mm ρ b D B q)⟩
theorem ss_nil : SSs X W [] (M.ret .nx) := SSs.of pss_nil fun σ H F P0 Mm ρ b D B q => q.nxt B
theorem ss_one (h : SS X W st m) : SSs X W [st] m := pss_one h
theorem ss_cons (h1 : SS X W st m) (h2 : SSs X W rest k) : SSs X W (st :: rest) (seqM m k) :=
  SSs.of (pss_cons h1 h2) fun σ H F P0 Mm ρ b D B q => by
    refine ⟨F, P0, Mm, ρ, b, B, ?_⟩
    unfold seqM M.bind at q
    cases e : m b with
    | ok a b' =>
      rw [e] at q
      cases a with
      | nx => exact fun σ' F' M' ρ' H' l r B' => sV_of B' (PostS.mono q l r)
      | ret d => exact q
      | brk => exact q
      | cnt => exact q
    | exc x b' => rw [e] at q; exact q
    | fail => rw [e] at q; exact q.elim
theorem ss_never {st : Stmt} : SS X W st M.fail := ⟨fun _ _ _ _ _ _ ⟨_, _, _, _, _, _, q⟩ => False.elim q⟩
theorem sss_never {sts : List Stmt} : SSs X W sts M.fail := ⟨fun _ _ _ _ _ _ ⟨_, _, _, _, _, _, q⟩ => False.elim q⟩
theorem ss_pass : SS X W (.Pass pos) (M.ret .nx) := SS.of ps_pass fun σ H F P0 Mm ρ b D B q => q.nxt B
theorem ss_brk : SS X W (.Break pos) (M.ret .brk) := SS.of ps_break fun σ H F P0 Mm ρ b D B q => q σ F Mm ρ H (Leq.refl _) (Rle.refl _) B
theorem ss_cont : SS X W (.Continue pos) (M.ret .cnt) := SS.of ps_continue fun σ H F P0 Mm ρ b D B q => q σ F Mm ρ H (Leq.refl _) (Rle.refl _) B
def exprM (m : M D) : M Fl := M.bind m fun _ => M.ret .nx
theorem ss_expr (h : SE X W e me) (hs : swapsWith e none pos.line X.env = pure false := by rfl) : SS X W (.Expr e pos) (exprM me) :=
  SS.of (ps_expr h hs) fun σ H F P0 Mm ρ b D B q => sM_then B q fun x d F1 M1 r1 b1 H1 l1 e1 B1 q1 h1 => h1.nxt B1
def retM (m : M D) : M Fl := M.bind m fun d => M.ret (.ret d)
theorem ss_ret (h : SE X W e me) : SS X W (.Return (some e) pos) (retM me) :=
  SS.of (ps_ret h) fun σ H F P0 Mm ρ b D B q => sM_then B q fun x d F1 M1 r1 b1 H1 l1 e1 B1 q1 h1 => h1 x σ F1 M1 r1 H1 (Leq.refl _) (Rle.refl _) B1 q1
theorem ss_retN : SS X W (.Return none pos) (M.ret (.ret .non)) := SS.of ps_retN fun σ H F P0 Mm ρ b D B q => q .non σ F Mm ρ H (Leq.refl _) (Rle.refl _) B .non
theorem ss_if {c : Expr} {a b : List Stmt} {tc : M Bool} {ma mb : M Fl} (hc : SB X W c tc) (ha : SSs X W a ma) (hb : SSs X W b mb) : SS X W (.If c a b pos) (ifM tc ma mb) :=
  SS.of (ps_if hc ha hb) fun σ H F P0 Mm ρ b D B q => sM_then B q fun x c F1 M1 r1 b1 H1 l1 e1 B1 q1 h1 => by
    subst q1
    cases x with
    | true => exact (if_pos rfl).mpr (sV_of B1 h1)
    | false => exact (if_neg Bool.false_ne_true).mpr (sV_of B1 h1)
/-! stores -/
def setV (i : Nat) (d : D) : M Fl := fun b => .ok .nx { b with t := b.t.set i (some (.val d)) }
def setO (i : Nat) (so : SO) : M Fl := fun b => .ok .nx { b with t := b.t.set i (some (.own so)) }
theorem ss_set {i : Nat} {x : Str} {pos' : Pos} (hN : X.N.Nodup) (he : SE X W e me) (hx : Loc X.env.scope x := by first | exact Or.inl rfl | exact Or.inr rfl) (hi : X.N[i]? = some x := by rfl) (hs : swapsWith e (some (.Name x pos')) pos.line X.env = pure false := by rfl)
    (hf : X.fn x = true ∨ X.env.scope.names.lookup x = some .local := by first | exact .inl rfl | exact .inr rfl | assumption) : SS X W (.Assign [.Name x pos'] e pos) (M.bind me (setV i)) :=
  SS.of (ps_set hN hi hx he hs hf) fun σ H F P0 Mm ρ b D B q => sM_then B q fun x d F1 M1 r1 b1 H1 l1 e1 B1 q1 h1 => h1.nxt (B1.setV i q1)
theorem ss_setO {i : Nat} {x : Str} {pos' : Pos} {mo : M SO} (hN : X.N.Nodup) (he : SN X W e mo) (hx : Loc X.env.scope x := by first | exact Or.inl rfl | exact Or.inr rfl) (hi : X.N[i]? = some x := by rfl) (hs : swapsWith e (some (.Name x pos')) pos.line X.env = pure false := by rfl)
    (hf : X.fn x = true ∨ X.env.scope.names.lookup x = some .local := by first | exact .inl rfl | exact .inr rfl | assumption) : SS X W (.Assign [.Name x pos'] e pos) (M.bind mo (setO i)) :=
  SS.of (ps_set hN hi hx he hs hf) fun σ H F P0 Mm ρ b D B q => sM_thenF B q fun p so F1 M1 r1 b1 H1 l1 e1 B1 h1 => h1.nxt (B1.setO i)
/-! a, b = x, y -/
def set2 (i j : Nat) (ms : M (List D)) : M Fl := M.bind ms fun ds => match ds with
  | [a, c] => seqM (setV i a) (setV j c)
  | _ => M.fail
theorem ss_par {i j : Nat} {x y : Str} {a b : Expr} {ms : M (List D)} {px py pt : Pos} {kt k2 pt2} (hN : X.N.Nodup) (hij : i ≠ j) (ha : SA X W [a, b] ms)
    (hw : swappedStores [.Tuple [.Name x px, .Name y py] kt pt] (.Tuple [a, b] k2 pt2) X.env = pure (some [x, y])) (hc : X.calm = true := by rfl) (hi : X.N[i]? = some x := by rfl) (hj : X.N[j]? = some y := by rfl) (hx : X.env.scope.names.lookup x = some .local := by rfl) (hy : X.env.scope.names.lookup y = some .local := by rfl)
    (hs : swapsWithSole [.Tuple [.Name x px, .Name y py] kt pt] (.Tuple [a, b] k2 pt2) pos.line X.env = pure false := by rfl) :
    SS X W (.Assign [.Tuple [.Name x px, .Name y py] kt pt] (.Tuple [a, b] k2 pt2) pos) (set2 i j ms) :=
  SS.of (ps_par hc hN hi hj hij hx hy ha hw hs) fun σ H F P0 Mm ρ b D B q => sM_then B q fun xs ds F1 M1 r1 b1 H1 l1 e1 B1 q1 h1 => by
    cases q1 with
    | nil => exact h1.elim
    | cons r1 q1 =>
      cases q1 with
      | nil => exact h1.elim
      | cons r2 q1 =>
        cases q1 with
        | cons r3 q1 => exact h1.elim
        | nil => exact ⟨_, _, rfl, PostS.nxt (W := W) h1 ((B1.setV i r1).setV j r2)⟩
def set3 (i j l : Nat) (ms : M (List D)) : M Fl := M.bind ms fun ds => match ds with
  | [a, c, d] => seqM (setV i a) (seqM (setV j c) (setV l d))
  | _ => M.fail
theorem ss_par3 {i j l : Nat} {x y z : Str} {a b c : Expr} {ms : M (List D)} {px py pz pt : Pos} {kt k2 pt2} (hN : X.N.Nodup) (hij : i ≠ j) (hil : i ≠ l) (hjl : j ≠ l) (ha : SA X W [a, b, c] ms)
    (hw : swappedStores [.Tuple [.Name x px, .Name y py, .Name z pz] kt pt] (.Tuple [a, b, c] k2 pt2) X.env = pure (some [x, y, z])) (hc : X.calm = true := by rfl) (hi : X.N[i]? = some x := by rfl) (hj : X.N[j]? = some y := by rfl) (hl : X.N[l]? = some z := by rfl) (hx : X.env.scope.names.lookup x = some .local := by rfl) (hy : X.env.scope.names.lookup y = some .local := by rfl) (hz : X.env.scope.names.lookup z = some .local := by rfl)
    (hs : swapsWithSole [.Tuple [.Name x px, .Name y py, .Name z pz] kt pt] (.Tuple [a, b, c] k2 pt2) pos.line X.env = pure false := by rfl) :
    SS X W (.Assign [.Tuple [.Name x px, .Name y py, .Name z pz] kt pt] (.Tuple [a, b, c] k2 pt2) pos) (set3 i j l ms) :=
  SS.of (ps_par3 hc hN hi hj hl hij hil hjl hx hy hz ha hw hs) fun σ H F P0 Mm ρ b D B q => sM_then B q fun xs ds F1 M1 r1 b1 H1 l1 e1 B1 q1 h1 => by
    cases q1 with
    | nil => exact h1.elim
    | cons r1 q1 =>
      cases q1 with
      | nil => exact h1.elim
      | cons r2 q1 =>
        cases q1 with
        | nil => exact h1.elim
        | cons r3 q1 =>
          cases q1 with
          | cons r4 q1 => exact h1.elim
          | nil => exact ⟨_, _, _, rfl, PostS.nxt (W := W) h1 (((B1.setV i r1).setV j r2).setV l r3)⟩
/-! targets -/
/-- a target takes a value; it writes the slots vs alone -/
def PostT (K : PySem.W.Frag) {fc : FrC} (P0 : PX fc) (F : Hp) (ρ : Rho) (vs : List Nat) (σ : St) (Q : St → Hp → Prop) : Option BSt → Prop
  | some b' => ∀ (σ' : St) (F' M' : Hp) (ρ' : Rho) (H' : Hp), Leq F F' → Rle ρ ρ' → BRel K F' P0 M' ρ' b' σ' H' → wipe σ' vs = wipe σ vs → Q σ' H'
  | none => False
abbrev TgM := D → BSt → Option BSt
abbrev TgsM := List D → BSt → Option BSt
def tG {fc : FrC} (K : PySem.W.Frag) (vs : List Nat) (m : TgM) : TG := fun v σ H Q => ∃ (F : Hp) (P0 : PX fc) (Mm : Hp) (ρ : Rho) (b : BSt) (d : D), BRel K F P0 Mm ρ b σ H ∧ Rep K F ρ v d ∧ PostT K P0 F ρ vs σ Q (m d b)
def SG (X : Cx) (vs : List Nat) (tg : Expr) (m : TgM) : Prop := PG X tg (tG (fc := fcOf X) X.K vs m)
def SGs (X : Cx) (vs : List Nat) (tgs : List Expr) (m : TgsM) : Prop := PGs X tgs fun ws σ H Q => ∃ (F : Hp) (P0 : PX (fcOf X)) (Mm : Hp) (ρ : Rho) (b : BSt) (ds : List D), BRel X.K F P0 Mm ρ b σ H ∧ RepAll X.K F ρ ws ds ∧ PostT X.K P0 F ρ vs σ Q (m ds b)
theorem PostT.mono {K : PySem.W.Frag} {fc : FrC} {P0 : PX fc} {F F1 : Hp} {ρ r1 : Rho} {vs : List Nat} {σ τ : St} {Q : St → Hp → Prop} {r : Option BSt} (h : PostT K P0 F ρ vs σ Q r) (l : Leq F F1) (e : Rle ρ r1) (hw : wipe τ vs = wipe σ vs) : PostT K P0 F1 r1 vs τ Q r := by
  cases r with
  | some b' => exact fun σ' F' M' ρ' H' l' e' B w => h σ' F' M' ρ' H' (l.trans l') (e.trans e') B (w.trans hw)
  | none => exact h
theorem SG.of {tg : Expr} {vs : List Nat} {m : TgM} {t : TG} (h : PG X tg t) (ht : ∀ v σ H F (P0 : PX (fcOf X)) Mm ρ b d Q, BRel X.K F P0 Mm ρ b σ H → Rep X.K F ρ v d → PostT X.K P0 F ρ vs σ Q (m d b) → t v σ H Q) : SG X vs tg m :=
  ⟨fun pins s σ H v u Q I r ⟨F, P0, Mm, ρ, b, d, B, rr, q⟩ => h.run pins s σ H v u Q I r (ht v σ H F P0 Mm ρ b d Q B rr q)⟩
theorem SGs.of {tg : List Expr} {vs : List Nat} {m : TgsM} {t : TGs} (h : PGs X tg t) (ht : ∀ v σ H F (P0 : PX (fcOf X)) Mm ρ b d Q, BRel X.K F P0 Mm ρ b σ H → RepAll X.K F ρ v d → PostT X.K P0 F ρ vs σ Q (m d b) → t v σ H Q) : SGs X vs tg m :=
  ⟨fun pins s σ H v u Q I r ⟨F, P0, Mm, ρ, b, d, B, rr, q⟩ => h.run pins s σ H v u Q I r (ht v σ H F P0 Mm ρ b d Q B rr q)⟩
theorem wipe_set {σ : St} {i : Nat} {v : Option V} : ∀ {vs : List Nat}, i ∈ vs → wipe (σ.set i v) vs = wipe σ vs
  | [], h => by cases h
  | w :: vs, h => by
    show (wipe (σ.set i v) vs).set w none = (wipe σ vs).set w none
    by_cases hm : i ∈ vs
    · rw [wipe_set hm]
    · rcases List.mem_cons.mp h with e | h
      · subst e
        have key : ∀ (ws : List Nat), i ∉ ws → wipe (σ.set i v) ws = (wipe σ ws).set i v := by
          intro ws
          induction ws with
          | nil => intro _; rfl
          | cons w ws ih =>
            intro h
            simp only [List.mem_cons, not_or] at h
            show (wipe (σ.set i v) ws).set w none = ((wipe σ ws).set w none).set i v
            rw [ih h.2, List.set_comm _ _ h.1]
        rw [key vs hm, List.set_set]
      · exact absurd h hm
def gSet (i : Nat) : TgM := fun d b => some { b with t := b.t.set i (some (.val d)) }
theorem sg_name {i : Nat} {vs : List Nat} {x : Str} (hN : X.N.Nodup) (hm : i ∈ vs := by decide) (hx : Loc X.env.scope x := by first | exact Or.inl rfl | exact Or.inr rfl) (hi : X.N[i]? = some x := by rfl) (hf : X.fn x = true ∨ X.env.scope.names.lookup x = some .local := by first | exact .inl rfl | exact .inr rfl | assumption) : SG X vs (.Name x pos) (gSet i) :=
  SG.of (pg_name hN hi hx hf) fun v σ H F P0 Mm ρ b d Q B r q => q _ F Mm ρ H (Leq.refl _) (Rle.refl _) (B.setV i r) (wipe_set hm)
def gsNil : TgsM := fun ds b => match ds with
  | [] => some b
  | _ => none
def gsCons (m : TgM) (k : TgsM) : TgsM := fun ds b => match ds with
  | d :: r => (m d b).bind (k r)
  | _ => none
theorem sgs_nil {vs : List Nat} : SGs X vs [] gsNil := SGs.of pgs_nil fun v σ H F P0 Mm ρ b d Q B r q => by
  cases r with
  | nil => exact ⟨rfl, q σ F Mm ρ H (Leq.refl _) (Rle.refl _) B rfl⟩
  | cons _ _ => exact q.elim
theorem sgs_cons {t : Expr} {vs : List Nat} {ts : List Expr} {m : TgM} {k : TgsM} (h1 : SG X vs t m) (h2 : SGs X vs ts k) (hs : (assignEach (t :: ts) X.env).map (·.2) = assign t X.env :: (assignEach ts X.env).map (·.2) := by rfl) : SGs X vs (t :: ts) (gsCons m k) :=
  SGs.of (pgs_cons h1 h2 hs) fun v σ H F P0 Mm ρ b d Q B r q => by
    cases r with
    | nil => exact q.elim
    | cons r rr =>
      rename_i v1 ws d1 ds
      refine ⟨_, _, rfl, F, P0, Mm, ρ, b, _, B, r, ?_⟩
      have q2 : PostT X.K P0 F ρ vs σ Q ((m d1 b).bind (k ds)) := q
      cases e : m d1 b with
      | none => rw [e] at q2; exact q2.elim
      | some b1 =>
        rw [e] at q2
        exact fun σ' F' M' ρ' H' l' e' B' w => ⟨F', P0, M', ρ', b1, _, B', rr.mono l' e', PostT.mono q2 l' e' w⟩
def gTupM (n : Nat) (m : TgsM) : TgM := fun d b => match d with
  | .tup ds => if ds.length = n then m ds b else none
  | _ => none
theorem sg_tup {ts : List Expr} {vs : List Nat} {kk n : Nat} {m : TgsM} (h : SGs X vs ts m) (hc : X.calm = true := by rfl) (hn : (assignEach ts X.env).length = n := by rfl) (hst : (assignEach ts X.env).findIdx? (·.1) = none := by rfl) : SG X vs (.Tuple ts kk pos) (gTupM n m) :=
  SG.of (pg_tup hc h hn hst) fun v σ H F P0 Mm ρ b d Q B r q => by
    cases r with
    | tup h1 r1 =>
      unfold gTupM at q
      dsimp only at q
      split at q
      · rename_i hl
        exact ⟨_, _, rfl, Rep.sqT (P := fun _ => none) B h1, by rw [r1.length]; exact hl, F, P0, Mm, ρ, b, _, B, r1, q⟩
      · exact q.elim
    | _ => exact q.elim
def tgM (g : TgM) (d : D) : M Fl := fun b => match g d b with
  | some b' => .ok .nx b'
  | none => .fail
def asgM (me : M D) (g : TgM) : M Fl := M.bind me (tgM g)
theorem ss_asg {tg e : Expr} {vs : List Nat} {g : TgM} (he : SE X W e me) (hg : SG X vs tg g) (hs : swapsWithSole [tg] e pos.line X.env = pure false := by rfl) (hw : swappedStores [tg] e X.env = pure none := by rfl)
    (h1 : (assignEach [tg] X.env).map (·.2) = [assign tg X.env] := by rfl) : SS X W (.Assign [tg] e pos) (asgM me g) :=
  SS.of (ps_asg he hg hs hw h1) fun σ H F P0 Mm ρ b D B q => sM_then B q fun x d F1 M1 r1 b1 H1 l1 e1 B1 q1 h1 => by
    refine ⟨F1, P0, M1, r1, b1, d, B1, q1, ?_⟩
    unfold tgM at h1
    split at h1
    · rename_i b2 e
      rw [e]
      exact fun σ' F' M' ρ' H' l' e' B' _ => h1 σ' F' M' ρ' H' l' e' B'
    · exact h1.elim
end
end L2.VI
/-! VI8: loops, what they walk, comprehensions. -/
namespace L2.VI
open PySem PySem.Spec PyProof.Rows He

/-! ### while -/
def turnM (body k : M Fl) : M Fl := fun b => match body b with
  | .ok .nx b' => k b'
  | .ok .cnt b' => k b'
  | .ok .brk b' => .ok .nx b'
  | r => r
def whileN (c : M Bool) (body : M Fl) : Nat → M Fl
  | 0 => M.fail
  | n + 1 => ifM c (turnM body (whileN c body n)) (M.ret .nx)
open Classical in
noncomputable def whileM (c : M Bool) (body : M Fl) : M Fl := fun b => if h : ∃ n, whileN c body n b ≠ .fail then whileN c body h.choose b else .fail
theorem whileN_succ {c : M Bool} {body : M Fl} : ∀ {n : Nat} {b : BSt}, whileN c body n b ≠ .fail → whileN c body (n + 1) b = whileN c body n b
  | 0, _, h => absurd rfl h
  | n + 1, b, h => by
    have h2 : ifM c (turnM body (whileN c body n)) (M.ret .nx) b ≠ .fail := h
    show ifM c (turnM body (whileN c body (n + 1))) (M.ret .nx) b = ifM c (turnM body (whileN c body n)) (M.ret .nx) b
    unfold ifM M.bind at h2 ⊢
    cases e : c b with
    | ok t b1 =>
      rw [e] at h2
      dsimp only at h2 ⊢
      cases t with
      | false => rfl
      | true =>
        rw [if_pos rfl] at h2 ⊢
        rw [if_pos rfl]
        unfold turnM at h2 ⊢
        cases e2 : body b1 with
        | ok f b2 =>
          rw [e2] at h2
          cases f with
          | nx => exact whileN_succ h2
          | cnt => exact whileN_succ h2
          | brk => rfl
          | ret d => rfl
        | exc x b2 => rfl
        | fail => rfl
    | exc x b1 => rfl
    | fail => rfl
theorem whileN_le {c : M Bool} {body : M Fl} {n : Nat} {b : BSt} (h : whileN c body n b ≠ .fail) : ∀ k, whileN c body (n + k) b = whileN c body n b
  | 0 => rfl
  | k + 1 => by
    have e := whileN_le h k
    have h2 : whileN c body (n + k) b ≠ .fail := by rw [e]; exact h
    rw [← e]; exact whileN_succ h2
theorem whileM_of {c : M Bool} {body : M Fl} {n : Nat} {b : BSt} (h : whileN c body n b ≠ .fail) : whileM c body b = whileN c body n b := by
  unfold whileM
  have hx : ∃ n, whileN c body n b ≠ .fail := ⟨n, h⟩
  rw [dif_pos hx]
  have h1 := hx.choose_spec
  have e1 := whileN_le h1 n
  have e2 := whileN_le h hx.choose
  rw [← e1, ← e2, Nat.add_comm]
theorem whileM_ok {c : M Bool} {body : M Fl} {b : BSt} (h : whileM c body b ≠ .fail) : ∃ n, whileM c body b = whileN c body n b ∧ whileN c body n b ≠ .fail := by
  by_cases hx : ∃ n, whileN c body n b ≠ .fail
  · obtain ⟨n, hn⟩ := hx
    exact ⟨n, whileM_of hn, hn⟩
  · unfold whileM at h
    rw [dif_neg hx] at h
    exact absurd rfl h
/-- one turn -/
theorem whileM_eq (c : M Bool) (body : M Fl) (b : BSt) : whileM c body b = ifM c (turnM body (whileM c body)) (M.ret .nx) b := by
  by_cases h : whileM c body b = .fail
  · rw [h]
    by_cases h2 : ifM c (turnM body (whileM c body)) (M.ret .nx) b = .fail
    · exact h2.symm
    · exfalso
      -- the right side has an answer: so has some whileN
      have key : ∃ n, ifM c (turnM body (whileN c body n)) (M.ret .nx) b ≠ .fail := by
        unfold ifM M.bind at h2 ⊢
        cases e : c b with
        | ok t b1 =>
          rw [e] at h2
          dsimp only at h2 ⊢
          cases t with
          | false => exact ⟨0, fun z => by cases z⟩
          | true =>
            rw [if_pos rfl] at h2
            unfold turnM at h2
            cases e2 : body b1 with
            | ok f b2 =>
              rw [e2] at h2
              cases f with
              | nx =>
                obtain ⟨n, _, hn⟩ := whileM_ok h2
                exact ⟨n, by rw [if_pos rfl]; unfold turnM; rw [e2]; exact hn⟩
              | cnt =>
                obtain ⟨n, _, hn⟩ := whileM_ok h2
                exact ⟨n, by rw [if_pos rfl]; unfold turnM; rw [e2]; exact hn⟩
              | brk => exact ⟨0, by rw [if_pos rfl]; unfold turnM; rw [e2]; exact fun z => by cases z⟩
              | ret d => exact ⟨0, by rw [if_pos rfl]; unfold turnM; rw [e2]; exact fun z => by cases z⟩
            | exc x b2 => exact ⟨0, by rw [if_pos rfl]; unfold turnM; rw [e2]; exact fun z => by cases z⟩
            | fail => rw [e2] at h2; exact absurd rfl h2
        | exc x b1 => exact ⟨0, fun z => by cases z⟩
        | fail => rw [e] at h2; exact absurd rfl h2
      obtain ⟨n, hn⟩ := key
      have hn' : whileN c body (n + 1) b ≠ .fail := hn
      rw [whileM_of hn'] at h
      exact hn' h
  · obtain ⟨n, e1, h1⟩ := whileM_ok h
    rw [e1]
    cases n with
    | zero => exact absurd rfl h1
    | succ n =>
      have h2 : ifM c (turnM body (whileN c body n)) (M.ret .nx) b ≠ .fail := h1
      show ifM c (turnM body (whileN c body n)) (M.ret .nx) b = ifM c (turnM body (whileM c body)) (M.ret .nx) b
      unfold ifM M.bind at h2 ⊢
      cases e : c b with
      | ok t b1 =>
        rw [e] at h2
        dsimp only at h2 ⊢
        cases t with
        | false => rfl
        | true =>
          rw [if_pos rfl] at h2 ⊢
          rw [if_pos rfl]
          unfold turnM at h2 ⊢
          cases e2 : body b1 with
          | ok f b2 =>
            rw [e2] at h2
            cases f with
            | nx => exact (whileM_of h2).symm
            | cnt => exact (whileM_of h2).symm
            | brk => rfl
            | ret d => rfl
          | exc x b2 => rfl
          | fail => rfl
      | exc x b1 => rfl
      | fail => rfl
section
variable {X : Cx} {W : WX} {pos : Pos}
theorem ss_while {c : Expr} {body : List Stmt} {tc : M Bool} {mb : M Fl} (hp : PassesOwn (model X.prog X.w) X.A X.env X.xe) (hc : SB X W c tc) (hb : SSs X W body mb) : SS X W (.While c body [] pos) (whileM tc mb) :=
  SS.of (ps_while hp hc hb) fun σ H F P0 Mm ρ b D B q => by
    have hq : whileM tc mb b ≠ .fail := fun z => by rw [z] at q; exact q
    obtain ⟨n, e, _⟩ := whileM_ok hq
    rw [e] at q
    refine ⟨fun n σ H => ∃ F' Mm ρ' b, Leq F F' ∧ Rle ρ ρ' ∧ BRel X.K F' P0 Mm ρ' b σ H ∧ PostS X.K W P0 F' ρ' D (whileN tc mb n b), ⟨n, F, Mm, ρ, b, Leq.refl _, Rle.refl _, B, q⟩, ?_⟩
    rintro n σ H ⟨F1, M1, r1, b1, l1, e1, B1, q1⟩
    cases n with
    | zero => exact q1.elim
    | succ n =>
      refine sM_then B1 q1 fun x t F2 M2 r2 b2 H2 l2 e2 B2 q2 h2 => ?_
      subst q2
      cases x with
      | false => exact (if_neg Bool.false_ne_true).mpr (PostS.nxt (W := W) h2 B2)
      | true =>
        refine (if_pos rfl).mpr ⟨fun σ' H' => ∃ F' Mm ρ' b, Leq F F' ∧ Rle ρ ρ' ∧ BRel X.K F' P0 Mm ρ' b σ' H' ∧ PostS X.K W P0 F' ρ' D (whileN tc mb n b), fun σ' H' h => ⟨n, Nat.lt_succ_self n, h⟩, F2, P0, M2, r2, b2, B2, ?_⟩
        have h2' : PostS X.K W P0 F2 r2 D (turnM mb (whileN tc mb n) b2) := h2
        unfold turnM at h2'
        cases e3 : mb b2 with
        | ok f b3 =>
          rw [e3] at h2'
          cases f with
          | nx => exact fun σ' F' M' ρ' H' l' e' B' => ⟨F', M', ρ', b3, (l1.trans l2).trans l', (e1.trans e2).trans e', B', PostS.mono h2' l' e'⟩
          | cnt => exact fun σ' F' M' ρ' H' l' e' B' => ⟨F', M', ρ', b3, (l1.trans l2).trans l', (e1.trans e2).trans e', B', PostS.mono h2' l' e'⟩
          | brk => exact h2'
          | ret d => exact h2'
        | exc x b3 => rw [e3] at h2'; exact h2'
        | fail => rw [e3] at h2'; exact h2'
end

/-! ### what a loop walks -/
/-- the iterator yields ds -/
def ItrOf (K : PySem.W.Frag) {fc : FrC} (P0 : PX fc) (σ0 : St) (J : It) (F0 : Hp) (r0 : Rho) (ds : List D) : Prop := ∀ (i : Nat) (F Mm : Hp) (ρ : Rho) (fc1 : FrC) (P1 : PX fc1) (b : BSt) (σ : St) (H : Hp), Leq F0 F → Rle r0 ρ → BRel K F P1 Mm ρ b σ H →
  (ds.length ≤ i → J.stop i H) ∧ (i < ds.length → J.go i H ∧ ∀ x H', J.yld i H x H' → ∃ F', Leq F F' ∧ BRel K F' P1 Mm ρ b σ H' ∧ ∀ d, ds[i]? = some d → Rep K F' ρ x d)
def PostI (K : PySem.W.Frag) (W : WX) {fc : FrC} (P0 : PX fc) (F : Hp) (ρ : Rho) (σ : St) (Q : It → Hp → Prop) : R (List D) → Prop
  | .ok ds b' => ∀ (J : It) (F' M' : Hp) (ρ' : Rho) (H' : Hp), Leq F F' → Rle ρ ρ' → BRel K F' P0 M' ρ' b' σ H' → ItrOf K P0 σ J F' ρ' ds → Q J H'
  | .exc x b' => ∀ (cls : Value) (d : Option Addr) (F' M' : Hp) (ρ' : Rho) (H' : Hp), Leq F F' → Rle ρ ρ' → BRel K F' P0 M' ρ' b' σ H' → RepX K F' ρ' x cls d → W cls d σ H'
  | .fail => False
def SI (X : Cx) (W : WX) (tg e : Expr) (m : M (List D)) : Prop := PI X tg e fun σ H R => ∃ (F : Hp) (P0 : PX (fcOf X)) (Mm : Hp) (ρ : Rho) (b : BSt), BRel X.K F P0 Mm ρ b σ H ∧ PostI X.K W P0 F ρ σ R (m b)
/-- the items of a sequence -/
def itemsOf : D → Option (List D)
  | .lst xs => some xs
  | .tup xs => some xs
  | .scr ns => some (ns.map .int)
  | _ => none
def itemsM (m : M D) : M (List D) := M.bind m fun d => optM (itemsOf d)
section
variable {X : Cx} {W : WX} {pos : Pos} {tg e : Expr} {me : M D} {K : PySem.W.Frag} {F : Hp} {fc : FrC} {P0 : PX fc} {Mm H : Hp} {ρ : Rho} {bs : BSt} {σ : St}
def iSeq (K : PySem.W.Frag) (tl : TE) : TI := fun σ H R => tl σ H fun x H1 => ∃ a, x = .ref a ∧ (((∃ xs, SqL K H1 a xs) ∧ R (Itl K a) H1) ∨ ((∃ xs, SqT K H1 a xs) ∧ R (Itt K a) H1))
theorem pi_seq {l : Expr} {tl : TE} (hl : PE X l tl) : PI X tg l (iSeq X.K tl) := by
  refine ⟨fun pins s σ H R I h => ?_⟩
  refine thn (hl.run pins s σ H _ I h) fun v s1 ⟨x, H1, I1, r1, q1⟩ => ?_
  obtain ⟨a, e, q⟩ := q1
  subst e
  rcases q with ⟨⟨xs, hq⟩, q⟩ | ⟨⟨xs, hq⟩, q⟩
  · cases r1
    obtain ⟨its, rv, p, hz⟩ := I1.list hq
    refine wpAny_pyIter_list p.isList ?_
    refine ⟨s1.heap.objs.size, [s1.heap.objs.size], _, _, H1, rfl, I1.kept (t' := s1.toks) fun b o e => Heap.get?_push_of_some _ e, turn_list a _, ⟨_, Heap.get?_push_size _ rfl, rfl, rfl⟩, fun b hb => ?_, q⟩
    have e : b = s1.heap.objs.size := by simpa using hb
    subst e
    exact I1.fpOk (Nat.le_refl _) (I1.hok.fresh (Nat.le_refl _))
  · cases r1
    obtain ⟨its, rv, p, hz⟩ := I1.tuple hq
    refine wpAny_pyIter_tuple (show s1.heap.IsTuple a its.toArray from p) ?_
    refine ⟨s1.heap.objs.size, [s1.heap.objs.size], _, _, H1, rfl, I1.kept (t' := s1.toks) fun b o e => Heap.get?_push_of_some _ e, turn_tuple a _, ⟨_, Heap.get?_push_size _ rfl, rfl, rfl⟩, fun b hb => ?_, q⟩
    have e : b = s1.heap.objs.size := by simpa using hb
    subst e
    exact I1.fpOk (Nat.le_refl _) (I1.hok.fresh (Nat.le_refl _))
theorem BRel.sqL {a : Addr} {xs : List V} (B : BRel K F P0 Mm ρ bs σ H) (h : SqL K F a xs) : SqL K H a xs := by
  obtain ⟨P, q, B⟩ := B
  rcases h with (h | ⟨o, h⟩) | h
  · have z := B.h.fh a _ h
    rw [if_neg (show ¬ (isDict (.lst xs) = true) from Bool.false_ne_true)] at z
    exact .inl (.inl z)
  · have z := B.h.fh a _ h
    rw [if_neg (show ¬ (isDict (.frz o (.lst xs)) = true) from Bool.false_ne_true)] at z
    exact .inl (.inr ⟨o, z⟩)
  · exact .inr h
theorem itl_of {a : Addr} {vs : List V} {ds : List D} (hl : ∀ F' M' ρ' (fc1 : FrC) (P1 : PX fc1) b σ H, Leq F F' → Rle ρ ρ' → BRel K F' P1 M' ρ' b σ H → SqL K H a vs) (r : RepAll K F ρ vs ds) : ItrOf K P0 σ (Itl K a) F ρ ds := by
  intro i F' M' ρ' fc1 P1 b σ' H' l e B
  have hq := hl F' M' ρ' fc1 P1 b σ' H' l e B
  refine ⟨fun hi => ⟨vs, hq, by rw [r.length]; exact hi⟩, fun hi => ?_⟩
  have hi' : i < vs.length := by rw [r.length]; exact hi
  refine ⟨⟨vs, vs[i], hq, by simp [hi']⟩, fun x H2 y => ?_⟩
  obtain ⟨e2, y⟩ := y
  subst e2
  refine ⟨F', Leq.refl _, B, fun d hd => ?_⟩
  obtain ⟨v, hv, rv⟩ := r.get hd
  have := y vs hq
  rw [hv] at this; cases this
  exact rv.mono l e
theorem itt_of {a : Addr} {vs : List V} {ds : List D} (hl : ∀ F' M' ρ' (fc1 : FrC) (P1 : PX fc1) b σ H, Leq F F' → Rle ρ ρ' → BRel K F' P1 M' ρ' b σ H → SqT K H a vs) (r : RepAll K F ρ vs ds) : ItrOf K P0 σ (Itt K a) F ρ ds := by
  intro i F' M' ρ' fc1 P1 b σ' H' l e B
  have hq := hl F' M' ρ' fc1 P1 b σ' H' l e B
  refine ⟨fun hi => ⟨vs, hq, by rw [r.length]; exact hi⟩, fun hi => ?_⟩
  have hi' : i < vs.length := by rw [r.length]; exact hi
  refine ⟨⟨vs, vs[i], hq, by simp [hi']⟩, fun x H2 y => ?_⟩
  obtain ⟨e2, y⟩ := y
  subst e2
  refine ⟨F', Leq.refl _, B, fun d hd => ?_⟩
  obtain ⟨v, hv, rv⟩ := r.get hd
  have := y vs hq
  rw [hv] at this; cases this
  exact rv.mono l e
theorem SI.of {m : M (List D)} {t : TI} (h : PI X tg e t) (ht : ∀ σ H F (P0 : PX (fcOf X)) Mm ρ b R, BRel X.K F P0 Mm ρ b σ H → PostI X.K W P0 F ρ σ R (m b) → t σ H R) : SI X W tg e m := ⟨fun pins s σ H R I ⟨F, P0, Mm, ρ, b, B, q⟩ => h.run pins s σ H R I (ht σ H F P0 Mm ρ b R B q)⟩
theorem PostI.mono {F1 : Hp} {r1 : Rho} {Q : It → Hp → Prop} {r : R (List D)} (h : PostI K W P0 F ρ σ Q r) (l : Leq F F1) (e : Rle ρ r1) : PostI K W P0 F1 r1 σ Q r := by
  cases r with
  | ok a b' => exact fun x F' M' ρ' H' l' e' B i => h x F' M' ρ' H' (l.trans l') (e.trans e') B i
  | exc x b' => exact fun c d F' M' ρ' H' l' e' B r => h c d F' M' ρ' H' (l.trans l') (e.trans e') B r
  | fail => exact h
theorem iM_then {α β : Type} {rel : Hp → Rho → β → α → Prop} {m : M α} {k : α → M (List D)} {R : It → Hp → Prop} {Q : β → Hp → Prop} (B : BRel K F P0 Mm ρ bs σ H) (h : PostI K W P0 F ρ σ R (M.bind m k bs))
    (hk : ∀ x a F1 M1 r1 b1 H1, Leq F F1 → Rle ρ r1 → BRel K F1 P0 M1 r1 b1 σ H1 → rel F1 r1 x a → PostI K W P0 F1 r1 σ R (k a b1) → Q x H1) : tM (fc := fc) rel K W m σ H Q := by
  refine ⟨F, P0, Mm, ρ, bs, B, ?_⟩
  unfold M.bind at h
  cases e : m bs with
  | ok a b' =>
    rw [e] at h
    exact fun x F' M' ρ' H' l r B' q => hk x a F' M' ρ' b' H' l r B' q (PostI.mono h l r)
  | exc x b' => rw [e] at h; exact h
  | fail => rw [e] at h; exact h.elim
theorem si_seq (h : SE X W e me) : SI X W tg e (itemsM me) :=
  SI.of (pi_seq h) fun σ H F P0 Mm ρ b R B q => iM_then B q fun x d F1 M1 r1 b1 H1 l1 e1 B1 q1 h1 => by
    cases q1 with
    | lst h2 r2 => exact ⟨_, rfl, .inl ⟨⟨_, SqL.of (B1.lstAt h2)⟩, h1 _ F1 M1 r1 H1 (Leq.refl _) (Rle.refl _) B1 (itl_of (fun F' M' ρ' fc1 P1 b σ H l e B => SqL.of (B.lstAt (l _ _ h2))) r2)⟩⟩
    | tup h2 r2 => exact ⟨_, rfl, .inr ⟨⟨_, Rep.sqT (P := fun _ => none) B1 h2⟩, h1 _ F1 M1 r1 H1 (Leq.refl _) (Rle.refl _) B1 (itt_of (fun F' M' ρ' fc1 P1 b σ H l e B => Rep.sqT (P := fun _ => none) B (h2.imp (l _ _) id)) r2)⟩⟩
    | scr h2 => exact ⟨_, rfl, .inl ⟨⟨_, B1.sqL h2⟩, h1 _ F1 M1 r1 H1 (Leq.refl _) (Rle.refl _) B1 (itl_of (fun F' M' ρ' fc1 P1 b σ H l e B => B.sqL (SqL.leq l h2)) (RepAll.of_ints _))⟩⟩
    | _ => exact h1.elim
/-! range -/
def rngL (lo : Int) (n : Nat) : List D := (List.range n).map fun (i : Nat) => D.int (lo + (i : Int))
theorem itr_of {lo : Int} {n : Nat} : ItrOf K P0 σ (Itr lo n) F ρ (rngL lo n) := by
  intro i F' M' ρ' fc1 P1 b σ' H' l e B
  have hl : (rngL lo n).length = n := by simp [rngL]
  refine ⟨fun hi => by rw [hl] at hi; exact hi, fun hi => ?_⟩
  rw [hl] at hi
  refine ⟨hi, fun x H2 y => ?_⟩
  obtain ⟨e2, y⟩ := y
  subst e2 y
  refine ⟨F', Leq.refl _, B, fun d hd => ?_⟩
  have : d = D.int (lo + i) := by
    unfold rngL at hd
    rw [List.getElem?_map, List.getElem?_range hi] at hd
    exact (Option.some.inj hd).symm
  subst this
  exact .int _
def rng1M (ms : M (List D)) : M (List D) := M.bind ms fun ds => match ds with
  | [.int j] => guardM (-(2 ^ 62) ≤ j ∧ j < 2 ^ 62) (M.ret (rngL 0 j.toNat))
  | _ => M.fail
def rng2M (ms : M (List D)) : M (List D) := M.bind ms fun ds => match ds with
  | [.int i, .int j] => guardM (-(2 ^ 62) ≤ i ∧ i < 2 ^ 62 ∧ -(2 ^ 62) ≤ j ∧ j < 2 ^ 62) (M.ret (rngL i (j - i).toNat))
  | _ => M.fail
theorem PostI.guard {c : Prop} [Decidable c] {m : M (List D)} {Q : It → Hp → Prop} (h : PostI K W P0 F ρ σ Q (guardM c m bs)) : c ∧ PostI K W P0 F ρ σ Q (m bs) := by
  unfold guardM at h
  split at h
  · rename_i hc; exact ⟨hc, h⟩
  · exact h.elim
theorem si_range1 {a : Expr} {p : Pos} {ms : M (List D)} (hm : X.mg "range" = none) (ha : SA X W [a] ms) (hg : Gl X "range" := by rfl) (hs : starEach [a] X.env = [(false, eval a X.env)] := by rfl) : SI X W tg (.Call (.Name "range" p) [a] [] pos) (rng1M ms) :=
  SI.of (pi_range1 hg hm ha hs) fun σ H F P0 Mm ρ b R B q => iM_then B q fun xs ds F1 M1 r1 b1 H1 l1 e1 B1 q1 h1 => by
    cases q1 with
    | nil => exact h1.elim
    | cons r1 q1 =>
      cases q1 with
      | nil =>
        cases r1 with
        | int j =>
          obtain ⟨hj, h1⟩ := PostI.guard h1
          exact ⟨j, rfl, hj.1, hj.2, h1 _ _ _ _ _ (Leq.refl _) (Rle.refl _) B1 itr_of⟩
        | _ => exact h1.elim
      | cons r2 q2 => cases r1 <;> exact h1.elim
theorem si_range2 {a c : Expr} {p : Pos} {ms : M (List D)} (hm : X.mg "range" = none) (ha : SA X W [a, c] ms) (hg : Gl X "range" := by rfl) (hs : starEach [a, c] X.env = [(false, eval a X.env), (false, eval c X.env)] := by rfl) (hs2 : starEach [c] X.env = [(false, eval c X.env)] := by rfl) : SI X W tg (.Call (.Name "range" p) [a, c] [] pos) (rng2M ms) :=
  SI.of (pi_range2 hg hm ha hs hs2) fun σ H F P0 Mm ρ b R B q => iM_then B q fun xs ds F1 M1 r1 b1 H1 l1 e1 B1 q1 h1 => by
    cases q1 with
    | nil => exact h1.elim
    | cons r1 q1 =>
      cases q1 with
      | nil => cases r1 <;> exact h1.elim
      | cons r2 q2 =>
        cases q2 with
        | nil =>
          cases r1 with
          | int i =>
            cases r2 with
            | int j =>
              obtain ⟨hj, h1⟩ := PostI.guard h1
              exact ⟨i, j, rfl, hj, h1 _ _ _ _ _ (Leq.refl _) (Rle.refl _) B1 itr_of⟩
            | _ => exact h1.elim
          | _ => exact h1.elim
        | cons r3 q3 => cases r1 <;> cases r2 <;> exact h1.elim

/-! ### for -/
def forL (g : TgM) (body : M Fl) : List D → M Fl
  | [] => M.ret .nx
  | d :: ds => fun b => match g d b with
    | some b1 => turnM body (forL g body ds) b1
    | none => .fail
def forM (mi : M (List D)) (g : TgM) (body : M Fl) : M Fl := M.bind mi (forL g body)
theorem ss_for {iter : Expr} {body : List Stmt} {vs : List Nat} {mi : M (List D)} {g : TgM} {mb : M Fl} (hp : PassesOwn (model X.prog X.w) X.A X.env X.xe) (hi : SI X W tg iter mi) (hg : SG X vs tg g) (hb : SSs X W body mb) (hc : X.calm = true := by rfl)
    (hs : ∀ x, foldedSetIterable iter X.env x = pure x := by intro _; rfl) : SS X W (.For tg iter body [] pos) (forM mi g mb) :=
  SS.of (ps_for hp hc hi hg hb hs) fun σ H F P0 Mm ρ b D B q => by
    refine ⟨F, P0, Mm, ρ, b, B, ?_⟩
    unfold forM M.bind at q
    cases e : mi b with
    | ok ds b' =>
      rw [e] at q
      intro J F0 M0 r0 H0 l0 e0 B0 it
      have q0 := PostS.mono q l0 e0
      refine ⟨fun i n σ H => n = ds.length - i ∧ ∃ F' Mm ρ' b, Leq F0 F' ∧ Rle r0 ρ' ∧ BRel X.K F' P0 Mm ρ' b σ H ∧ PostS X.K W P0 F' ρ' D (forL g mb (ds.drop i) b), ⟨_, rfl, F0, M0, r0, b', Leq.refl _, Rle.refl _, B0, q0⟩, ?_⟩
      rintro i n σ H ⟨rfl, F1, M1, r1, b1, l1, e1, B1, q1⟩
      obtain ⟨i1, i2⟩ := it i F1 M1 r1 _ P0 b1 σ H l1 e1 B1
      by_cases hi : i < ds.length
      · obtain ⟨hgo, hy⟩ := i2 hi
        refine .inr ⟨hgo, fun σ' H' => ∃ F' Mm ρ' b, Leq F0 F' ∧ Rle r0 ρ' ∧ BRel X.K F' P0 Mm ρ' b σ' H' ∧ PostS X.K W P0 F' ρ' D (forL g mb (ds.drop (i + 1)) b), fun σ' H' h => ⟨ds.length - (i + 1), by omega, rfl, h⟩, fun x H2 y => ?_⟩
        obtain ⟨F2, l2, B2, r2⟩ := hy x H2 y
        have hd : ds.drop i = ds[i] :: ds.drop (i + 1) := List.drop_eq_getElem_cons hi
        rw [hd] at q1
        refine ⟨F2, P0, M1, r1, b1, ds[i], B2, r2 _ (List.getElem?_eq_getElem hi), ?_⟩
        unfold forL at q1
        try dsimp only at q1
        cases eg : g ds[i] b1 with
        | none => rw [eg] at q1; exact q1.elim
        | some b3 =>
          rw [eg] at q1
          intro σ3 F3 M3 r3 H3 l3 e3 B3 _
          refine ⟨F3, P0, M3, r3, b3, B3, ?_⟩
          have q3 : PostS X.K W P0 F3 r3 D (turnM mb (forL g mb (ds.drop (i + 1))) b3) := PostS.mono q1 (l2.trans l3) e3
          unfold turnM at q3
          cases eb : mb b3 with
          | ok f b4 =>
            rw [eb] at q3
            have again : PostS X.K W P0 F3 r3 D (forL g mb (ds.drop (i + 1)) b4) → ∀ (σ' : St) (F' M' : Hp) (ρ' : Rho) (H' : Hp), Leq F3 F' → Rle r3 ρ' → BRel X.K F' P0 M' ρ' b4 σ' H' →
                ∃ F' Mm ρ' b, Leq F0 F' ∧ Rle r0 ρ' ∧ BRel X.K F' P0 Mm ρ' b σ' H' ∧ PostS X.K W P0 F' ρ' D (forL g mb (ds.drop (i + 1)) b) := fun hq σ' F' M' ρ' H' l' e' B' =>
              ⟨F', M', ρ', b4, ((l1.trans l2).trans l3).trans l', (e1.trans e3).trans e', B', PostS.mono hq l' e'⟩
            cases f with
            | nx => exact again q3
            | cnt => exact again q3
            | brk => exact q3
            | ret d => exact q3
          | exc x b4 => rw [eb] at q3; exact q3
          | fail => rw [eb] at q3; exact q3
      · refine .inl ⟨i1 (by omega), ?_⟩
        rw [List.drop_eq_nil_of_le (by omega)] at q1
        exact PostS.nxt (W := W) q1 B1
    | exc x b' => rw [e] at q; exact fun c d F' M' ρ' H' l r B' z => q c d σ F' M' ρ' H' l r B' z
    | fail => rw [e] at q; exact q.elim

/-! ### comprehensions -/
def wipeT : List Nat → List (Option Slot) → List (Option Slot)
  | [], t => t
  | v :: vs, t => (wipeT vs t).set v none
abbrev BSt.wip (vs : List Nat) (b : BSt) : BSt := { b with t := wipeT vs b.t }
theorem BRel.wip (B : BRel K F P0 Mm ρ bs σ H) : ∀ vs : List Nat, BRel K F P0 Mm ρ (bs.wip vs) (wipe σ vs) H
  | [] => B
  | v :: vs => (BRel.wip B vs).drop v none
theorem wipeT_none {t : List (Option Slot)} {i : Nat} {s : Slot} : ∀ {vs : List Nat}, (wipeT vs t)[i]? = some (some s) → t[i]? = some (some s) ∧ i ∉ vs
  | [], h => ⟨h, by simp⟩
  | v :: vs, h => by
    unfold wipeT at h
    by_cases hi : v = i
    · subst hi
      by_cases hv : v < (wipeT vs t).length
      · rw [List.getElem?_set_self hv] at h; cases h
      · rw [List.getElem?_eq_none (by simpa using hv)] at h; cases h
    · rw [List.getElem?_set_ne hi] at h
      obtain ⟨h1, h2⟩ := wipeT_none h
      exact ⟨h1, by simp only [List.mem_cons, not_or]; exact ⟨fun e => hi e.symm, h2⟩⟩
theorem wipeT_length (t : List (Option Slot)) : ∀ vs : List Nat, (wipeT vs t).length = t.length
  | [] => rfl
  | v :: vs => by unfold wipeT; rw [List.length_set, wipeT_length t vs]
theorem wipe_get {σ : St} {i : Nat} : ∀ {vs : List Nat}, i ∉ vs → (wipe σ vs)[i]? = σ[i]?
  | [], _ => rfl
  | v :: vs, h => by
    simp only [List.mem_cons, not_or] at h
    show ((wipe σ vs).set v none)[i]? = _
    rw [List.getElem?_set_ne (fun e => h.1 e.symm)]
    exact wipe_get h.2
/-- from the block's slots back to the def's: any σ' that is alike behind the wiping -/
theorem BRel.back {vs : List Nat} {σ' : St} (B : BRel K F P0 Mm ρ bs σ' H) (hw : wipe σ' vs = wipe σ vs) : BRel K F P0 Mm ρ (bs.wip vs) σ H := by
  obtain ⟨P, q, B⟩ := B
  have hl : σ.length = σ'.length := by have := congrArg List.length hw; rw [wipe_length, wipe_length] at this; exact this.symm
  refine ⟨P, q, B.h, B.pp, by show σ.length = (wipeT vs bs.t).length; rw [wipeT_length, hl]; exact B.len, B.qi, fun i s e => ?_⟩
  obtain ⟨e1, ni⟩ := wipeT_none e
  have eσ : σ[i]? = σ'[i]? := by rw [← wipe_get ni, ← hw, wipe_get ni]
  have z := B.sl i s e1
  cases s with
  | val d => obtain ⟨v, h1, h2⟩ := z; exact ⟨v, by rw [eσ]; exact h1, h2⟩
  | own o => obtain ⟨p, h1, h2⟩ := z; exact ⟨p, by rw [eσ]; exact h1, h2⟩
  | frm me up => obtain ⟨v, h1, h2⟩ := z; exact ⟨v, by rw [eσ]; exact h1, h2⟩
theorem wipe_idem {σ : St} (vs : List Nat) : wipe (wipe σ vs) vs = wipe σ vs := by
  apply List.ext_getElem?
  intro i
  by_cases hi : i ∈ vs
  · have key : ∀ (τ : St) (ws : List Nat), i ∈ ws → (wipe τ ws)[i]? = if i < τ.length then some none else none := by
      intro τ ws
      induction ws with
      | nil => intro h; cases h
      | cons w ws ih =>
        intro h
        show ((wipe τ ws).set w none)[i]? = _
        by_cases hw : w = i
        · subst hw
          by_cases hl : w < τ.length
          · rw [List.getElem?_set_self (by rw [wipe_length]; exact hl), if_pos hl]
          · rw [List.getElem?_eq_none (by rw [List.length_set, wipe_length]; omega), if_neg hl]
        · rw [List.getElem?_set_ne hw]
          rcases List.mem_cons.mp h with e | h
          · exact absurd e.symm hw
          · exact ih h
    rw [key _ _ hi, key _ _ hi, wipe_length]
  · rw [wipe_get hi]
/-- while a fresh object is about: it is kept -/
theorem Frs.prot {p : Addr} {so : SO} (h : Frs K F P0 Mm ρ bs σ H p so) : ∃ u, BRel (fc := fc) K F (upd P0 p u) Mm ρ bs σ H ∧ RepO K F ρ (fun _ => some u) p so ∧ P0 p = none ∧ so.plain = true := by
  obtain ⟨P, q, B, r, pl, n0, nq⟩ := h
  obtain ⟨u, hu, _⟩ := id r.there
  refine ⟨u, ⟨P, q, B.h, fun a w e => ?_, B.len, B.qi, fun i s e => ?_⟩, r.monoP (Leq.refl _) (Rle.refl _) pl fun w z => by rw [hu] at z; exact z, n0, pl⟩
  · by_cases ha : a = p
    · subst ha; rw [upd_same] at e; cases e; exact hu
    · rw [upd_ne ha] at e; exact B.pp a w e
  · have z := B.sl i s e
    cases s with
    | val d => exact z
    | frm me up => exact z
    | own o =>
      obtain ⟨p', h1, h2, h3, h4⟩ := z
      exact ⟨p', h1, h2, by rw [upd_ne (fun z => nq i (by rw [← z]; exact h2))]; exact h3, h4⟩
theorem BRel.unprot {p : Addr} {u : HO} {so : SO} (B : BRel (fc := fc) K F (upd P0 p u) Mm ρ bs σ H) (r : RepO K F ρ (fun _ => some u) p so) (n0 : P0 p = none) (pl : so.plain = true) : Frs K F P0 Mm ρ bs σ H p so := by
  obtain ⟨P, q, B⟩ := B
  have hp : P p = some u := B.pp p u upd_same
  refine ⟨P, fun i => if q i = some p then none else q i, ⟨B.h, fun a w e => ?_, B.len, fun i j a e1 e2 => ?_, fun i s e => ?_⟩, r.monoP (Leq.refl _) (Rle.refl _) pl fun w z => by cases z; exact hp, pl, n0, fun i z => ?_⟩
  · have : a ≠ p := fun z => by subst z; rw [n0] at e; cases e
    exact B.pp a w (by rw [upd_ne this]; exact e)
  · try dsimp only at e1 e2
    split at e1
    · cases e1
    · split at e2
      · cases e2
      · exact B.qi i j a e1 e2
  · have z := B.sl i s e
    cases s with
    | val d => exact z
    | frm me up => exact z
    | own o =>
      obtain ⟨a, e1, e2, e3, e4, e5⟩ := z
      have na : a ≠ p := fun z => by subst z; rw [upd_same] at e3; cases e3
      rw [upd_ne na] at e3
      exact ⟨a, e1, (if_neg (fun z => na (Option.some.inj (e2.symm.trans z)))).trans e2, e3, e4, e5⟩
  · try dsimp only at z
    split at z
    · cases z
    · exact absurd z (by assumption)
/-- a fresh list gets one more -/
theorem Frs.app {p : Addr} {ds : List D} {v : V} {d : D} (h : Frs K F P0 Mm ρ bs σ H p (.lst ds)) (r : Rep K F ρ v d) : ∃ vs, H p = some (.lst vs) ∧ vs.length = ds.length ∧ Frs K F P0 Mm ρ bs σ (upd H p (.lst (vs ++ [v]))) p (.lst (ds ++ [d])) := by
  obtain ⟨P, q, B, ⟨vs, hv, rr⟩, pl, n0, nq⟩ := h
  refine ⟨vs, B.h.ph _ _ hv, rr.length, upd P p (.lst (vs ++ [v])), q, ⟨B.h.setP hv, fun a w e => ?_, B.len, B.qi, fun i s e => ?_⟩, ⟨_, upd_same, rr.append (.cons r .nil)⟩, rfl, n0, nq⟩
  · have : a ≠ p := fun z => by subst z; rw [n0] at e; cases e
    rw [upd_ne this]; exact B.pp a w e
  · refine (B.sl i s e).mono (Leq.refl _) (Rle.refl _) fun a ea => ⟨ea, fun w z => ?_⟩
    have : a ≠ p := fun z => nq i (by rw [← z]; exact ea)
    rw [upd_ne this]; exact z
def compL (g : TgM) (tt : M Bool) (elt : M D) (vs : List Nat) : List D → List D → M (List D)
  | acc, [] => M.ret acc
  | acc, d :: ds => fun b => match g d b with
    | some b1 => (match tt b1 with
      | .ok true b2 => (match elt b2 with
        | .ok y b3 => if acc.length < sizeLine then compL g tt elt vs (acc ++ [y]) ds (b3.wip vs) else .fail
        | _ => .fail)
      | .ok false b2 => compL g tt elt vs acc ds (b2.wip vs)
      | _ => .fail)
    | none => .fail
def lcN (mi : M (List D)) (g : TgM) (tt : M Bool) (elt : M D) (vs : List Nat) : M SO := M.bind mi fun ds => fun b => match compL g tt elt vs [] ds (b.wip vs) with
  | .ok acc b' => .ok (.lst acc) b'
  | _ => .fail
abbrev W0 : WX := fun _ _ _ _ => False
def STs (X : Cx) (W : WX) (ifs : List Expr) (m : M Bool) : Prop := PTs X ifs (tT (fc := fcOf X) X.K W m)
theorem sts_nil : STs X W [] (M.ret true) := ⟨fun pins s σ H Q I ⟨F, P0, Mm, ρ, b, B, q⟩ => pts_nil.run pins s σ H Q I (q true F Mm ρ H (Leq.refl _) (Rle.refl _) B rfl)⟩
theorem sts_one {c : Expr} {m : M Bool} (h : SB X W c m) : STs X W [c] m := pts_one h
theorem wipeT_get {t : List (Option Slot)} {i : Nat} : ∀ {vs : List Nat}, i ∉ vs → (wipeT vs t)[i]? = t[i]?
  | [], _ => rfl
  | v :: vs, h => by
    simp only [List.mem_cons, not_or] at h
    show ((wipeT vs t).set v none)[i]? = _
    rw [List.getElem?_set_ne (fun e => h.1 e.symm)]
    exact wipeT_get h.2
theorem wipeT_idem {t : List (Option Slot)} (vs : List Nat) : wipeT vs (wipeT vs t) = wipeT vs t := by
  apply List.ext_getElem?
  intro i
  by_cases hi : i ∈ vs
  · have key : ∀ (τ : List (Option Slot)) (ws : List Nat), i ∈ ws → (wipeT ws τ)[i]? = if i < τ.length then some none else none := by
      intro τ ws
      induction ws with
      | nil => intro h; cases h
      | cons w ws ih =>
        intro h
        show ((wipeT ws τ).set w none)[i]? = _
        by_cases hw : w = i
        · subst hw
          by_cases hl : w < τ.length
          · rw [List.getElem?_set_self (by rw [wipeT_length]; exact hl), if_pos hl]
          · rw [List.getElem?_eq_none (by rw [List.length_set, wipeT_length]; omega), if_neg hl]
        · rw [List.getElem?_set_ne hw]
          rcases List.mem_cons.mp h with e | h
          · exact absurd e.symm hw
          · exact ih h
    rw [key _ _ hi, key _ _ hi, wipeT_length]
  · rw [wipeT_get hi]
theorem Frs.back {vs : List Nat} {σ' : St} {p : Addr} {so : SO} (h : Frs K F P0 Mm ρ bs σ' H p so) (hw : wipe σ' vs = wipe σ vs) : Frs K F P0 Mm ρ (bs.wip vs) σ H p so := by
  obtain ⟨u, B, r, n0, pl⟩ := h.prot
  exact (B.back hw).unprot r n0 pl
theorem tlc_of {P0 : PX (fcOf X)} {g : TgM} {mt : M Bool} {me : M D} {mi : M (List D)} {vs : List Nat} {Q : VK} {b : BSt} (B : BRel X.K F P0 Mm ρ b σ H) (q : PostF X.K W P0 F ρ σ Q (lcN mi g mt me vs b)) :
    tLc (fun σ H R => ∃ (F : Hp) (P0 : PX (fcOf X)) (Mm : Hp) (ρ : Rho) (b : BSt), BRel X.K F P0 Mm ρ b σ H ∧ PostI X.K W P0 F ρ σ R (mi b)) (tG (fc := fcOf X) X.K vs g) (tT (fc := fcOf X) X.K W0 mt) (tE (fc := fcOf X) X.K W0 me) vs σ H Q := by
  refine ⟨F, P0, Mm, ρ, b, B, ?_⟩
  unfold lcN M.bind at q
  cases e : mi b with
  | exc x b' => rw [e] at q; exact q
  | fail => rw [e] at q; exact q.elim
  | ok ds b' =>
    rw [e] at q
    intro J F0 M0 r0 H0 l0 e0 B0 it Dn hD
    have q0 := PostF.mono q l0 e0
    dsimp only at q0
    -- the new list, nobody's
    have fr : Frs X.K F0 P0 M0 r0 (b'.wip vs) (wipe σ vs) (upd H0 Dn (.lst [])) Dn (.lst []) := (B0.wip vs).fresh (u := .lst []) hD (fun P' h => ⟨[], h, .nil⟩) rfl
    refine ⟨fun i n H => n = ds.length - i ∧ ∃ F' Mm ρ' b acc, Leq F0 F' ∧ Rle r0 ρ' ∧ Frs X.K F' P0 Mm ρ' b (wipe σ vs) H Dn (.lst acc) ∧ b = b.wip vs ∧ PostF X.K W P0 F' ρ' σ Q (match compL g mt me vs acc (ds.drop i) b with | .ok acc b' => .ok (.lst acc) b' | _ => .fail), ⟨_, rfl, F0, M0, r0, b'.wip vs, [], Leq.refl _, Rle.refl _, fr, ?_, q0⟩, ?_⟩
    · show b'.wip vs = (b'.wip vs).wip vs
      unfold BSt.wip
      rw [wipeT_idem]
    rintro i n H ⟨rfl, F1, M1, r1, b1, acc, l1, e1, fr1, bt, q1⟩
    obtain ⟨u, Bp, ru, n0, pl⟩ := fr1.prot
    obtain ⟨i1, i2⟩ := it i F1 M1 r1 _ _ b1 (wipe σ vs) H l1 e1 Bp
    by_cases hlt : i < ds.length
    · obtain ⟨hgo, hy⟩ := i2 hlt
      refine .inr ⟨hgo, fun H' => ∃ F' Mm ρ' b acc, Leq F0 F' ∧ Rle r0 ρ' ∧ Frs X.K F' P0 Mm ρ' b (wipe σ vs) H' Dn (.lst acc) ∧ b = b.wip vs ∧ PostF X.K W P0 F' ρ' σ Q (match compL g mt me vs acc (ds.drop (i + 1)) b with | .ok acc b' => .ok (.lst acc) b' | _ => .fail), fun H' h => ⟨ds.length - (i + 1), by omega, rfl, h⟩, fun x H2 y => ?_⟩
      obtain ⟨F2, l2, B2, r2⟩ := hy x H2 y
      have hd : ds.drop i = ds[i] :: ds.drop (i + 1) := List.drop_eq_getElem_cons hlt
      rw [hd] at q1
      refine ⟨F2, _, M1, r1, b1, ds[i], B2, r2 _ (List.getElem?_eq_getElem hlt), ?_⟩
      unfold compL at q1
      cases eg : g ds[i] b1 with
      | none => rw [eg] at q1; exact q1.elim
      | some b3 =>
        rw [eg] at q1
        intro σ3 F3 M3 r3 H3 l3 e3 B3 w3
        rw [wipe_idem] at w3
        have w3' : wipe σ3 vs = wipe (wipe σ vs) vs := by rw [wipe_idem]; exact w3
        refine ⟨w3, F3, _, M3, r3, b3, B3, ?_⟩
        dsimp only at q1
        cases et : mt b3 with
        | fail => rw [et] at q1; exact q1.elim
        | exc x b4 => rw [et] at q1; exact q1.elim
        | ok t b4 =>
          rw [et] at q1
          intro tv F4 M4 r4 H4 l4 e4 B4 ht
          subst ht
          cases tv with
          | false =>
            exact (if_neg Bool.false_ne_true).mpr ⟨F4, M4, r4, b4.wip vs, acc, ((l1.trans l2).trans l3).trans l4, (e1.trans e3).trans e4, (B4.unprot (ru.monoP ((l2.trans l3).trans l4) (e3.trans e4) pl fun w z => z) n0 pl).back w3', (by
              show b4.wip vs = (b4.wip vs).wip vs
              unfold BSt.wip
              rw [wipeT_idem]), PostF.mono q1 ((l2.trans l3).trans l4) (e3.trans e4)⟩
          | true =>
            refine (if_pos rfl).mpr ⟨F4, _, M4, r4, b4, B4, ?_⟩
            dsimp only at q1
            cases ee : me b4 with
            | fail => rw [ee] at q1; exact q1.elim
            | exc x b5 => rw [ee] at q1; exact q1.elim
            | ok y b5 =>
              rw [ee] at q1
              intro v F5 M5 r5 H5 l5 e5 B5 rv
              dsimp only at q1
              by_cases hz : acc.length < sizeLine
              · rw [if_pos hz] at q1
                have fr5 := B5.unprot (ru.monoP (((l2.trans l3).trans l4).trans l5) ((e3.trans e4).trans e5) pl fun w z => z) n0 pl
                obtain ⟨vs', hv1, hv2, fr6⟩ := fr5.app rv
                exact ⟨vs', hv1, by rw [hv2]; exact hz, F5, M5, r5, b5.wip vs, acc ++ [y], (((l1.trans l2).trans l3).trans l4).trans l5, ((e1.trans e3).trans e4).trans e5, fr6.back w3', (by
                  show b5.wip vs = (b5.wip vs).wip vs
                  unfold BSt.wip
                  rw [wipeT_idem]), PostF.mono q1 (((l2.trans l3).trans l4).trans l5) ((e3.trans e4).trans e5)⟩
              · rw [if_neg hz] at q1
                exact q1.elim
    · refine .inl ⟨i1 (by omega), ?_⟩
      rw [List.drop_eq_nil_of_le (by omega)] at q1
      have z := fr1.back (vs := vs) (σ := σ) (wipe_idem vs)
      rw [← bt] at z
      exact q1 Dn F1 M1 r1 H (Leq.refl _) (Rle.refl _) z
theorem sn_lc {elt iter : Expr} {ifs : List Expr} {scope : Scope} {own : List (Str × Nat)} {mi : M (List D)} {g : TgM} {mt : M Bool} {me : M D} (hN : X.N.Nodup) (hi : SI X W tg iter mi) (ok : BlkOk X.N X.env.scope scope own)
    (hg : ∀ (s : Shared) (H : Hp) (C : Addr) (cl : List (Str × Addr)) (fp : List Addr), SG (X.blk s H scope (compEnvC scope cl C X.env) fp) (own.map (·.2)) tg g) (ht : ∀ (s : Shared) (H : Hp) (C : Addr) (cl : List (Str × Addr)) (fp : List Addr), STs (X.blk s H scope (compEnvC scope cl C X.env) fp) W0 ifs mt)
    (he : ∀ (s : Shared) (H : Hp) (C : Addr) (cl : List (Str × Addr)) (fp : List Addr), SE (X.blk s H scope (compEnvC scope cl C X.env) fp) W0 elt me) (hc : X.calm = true := by rfl) (hs : ∀ x, foldedSetIterable iter X.env x = pure x := by intro _; rfl) :
    SN X W (.ListComp elt [⟨tg, iter, ifs, 0⟩] scope pos) (lcN mi g mt me (own.map (·.2))) := by
  exact SN.of (pe_lc (g := tG (fc := fcOf X) X.K (own.map fun (x : Str × Nat) => x.2) g) (tt := tT (fc := fcOf X) X.K W0 mt) (te := tE (fc := fcOf X) X.K W0 me) hc hN hi ok hg ht he hs) fun σ H F P0 Mm ρ b Q B q => tlc_of B q
end
end L2.VI
/-! VI9: methods of lists, stores to items and fields, displays of dicts, built-ins, a def. -/
namespace L2.VI
open PySem PySem.Spec PyProof.Rows He

/-! ### methods that change their receiver -/
def SO.tyn : SO → String
  | .lst _ => "list"
  | .dic _ => "dict"
  | .dct _ => "dict"
  | .ins _ _ => ""
  | .tab _ _ => ""
abbrev MtF := SO → List D → Option (SO × D)
/-- the method by values does on the heap what f does on data -/
def MtO (X : Cx) (T id : String) (f : MtF) : Prop := ∀ (so so' : SO) (as : List D) (d : D), f so as = some (so', d) → so.tyn = T ∧ so'.plain = true ∧ ∀ (F : Hp) (ρ : Rho) (H : Hp) (p : Addr) (u : HO) (xs : List V), RepO X.K F ρ (fun _ => some u) p so → H p = some u → RepAll X.K F ρ xs as →
  ∃ (u' : HO) (v : V) (r : V → List V → Hp → VK → Prop), MtR X id r ∧ (∀ x, u' ≠ .own x) ∧ (∀ P', P' p = some u' → RepO X.K F ρ P' p so') ∧ Rep X.K F ρ v d ∧ ∀ Q : VK, Q v (upd H p u') → r (.ref p) xs H Q
def methO (i : Nat) (T : String) (f : MtF) (mas : M (List D)) : M D := fun b => match b.t[i]? with
  | some (some (.own so0)) => if so0.tyn = T then (M.bind mas fun as => fun b => match b.t[i]? with
    | some (some (.own so)) => (match f so as with
      | some (so', d) => .ok d { b with t := b.t.set i (some (.own so')) }
      | none => .fail)
    | _ => .fail) b else .fail
  | _ => .fail
def methP (T : String) (f : MtF) (mo : M D) (mas : M (List D)) : M D := M.bind mo fun x => fun b => match x with
  | .ptr k => (match b.g.S k with
    | some so0 => if so0.tyn = T ∧ so0.plain = true then (M.bind mas fun as => fun b => match b.g.S k with
      | some so => (match f so as with
        | some (so', d) => if so.plain = true then .ok d { b with g := b.g.put k so' } else .fail
        | none => .fail)
      | none => .fail) b else .fail
    | none => .fail)
  | _ => .fail
section
variable {X : Cx} {W : WX} {pos apos cpos : Pos} {o e : Expr} {es : List Expr} {mo : M D} {mas : M (List D)} {T id : String} {name x : Str} {f : MtF}
variable {K : PySem.W.Frag} {F : Hp} {fc : FrC} {P0 : PX fc} {Mm H : Hp} {ρ : Rho} {bs : BSt} {σ : St}
theorem tyV_of {so : SO} {p : Addr} {u : HO} (r : RepO K F ρ (fun _ => some u) p so) (hp : H p = some u) (e : so.tyn = T) (pl : so.plain = true) : tyV K T (.ref p) H := by
  subst e
  cases so with
  | lst ds => obtain ⟨vs, h1, _⟩ := r; cases h1; exact .inl ⟨rfl, _, SqL.of hp⟩
  | dic ds => obtain ⟨vs, h1, _⟩ := r; cases h1; exact .inr (.inr (.inl ⟨rfl, .inl ⟨_, hp⟩⟩))
  | dct ds => obtain ⟨vs, h1, _⟩ := r; cases h1; exact .inr (.inr (.inl ⟨rfl, .inr ⟨_, hp⟩⟩))
  | ins c f => cases pl
  | tab x q => cases pl
theorem MtR.any : MtR X id (fun x xs H Q => ∃ r, MtR X id r ∧ r x xs H Q) := fun pins s σ H x xs v us Q I rx rs ⟨r, hr, q⟩ => hr pins s σ H x xs v us Q I rx rs q
theorem methO_ok {P0 : PX (fcOf X)} {i : Nat} {Q : VK} (hf : MtO X T id f) (B : BRel X.K F P0 Mm ρ bs σ H) (q : Post (Rep X.K) X.K W P0 F ρ σ Q (methO i T f mas bs)) {t : TA} (ht : ∀ (σ H F) (P0 : PX (fcOf X)) (Mm ρ bs Q), BRel X.K F P0 Mm ρ bs σ H → Post (RepAll X.K) X.K W P0 F ρ σ Q (mas bs) → t σ H Q) :
    tBM X.K T (fun x xs H Q => ∃ r, MtR X id r ∧ r x xs H Q) (tVar i) t σ H Q := by
  unfold methO at q
  split at q
  · rename_i so0 e0
    split at q
    · rename_i hT
      obtain ⟨v, hv⟩ := B.slotV e0
      obtain ⟨p, u, rfl, hp, ru, pl⟩ := B.ownV e0 hv
      refine ⟨_, hv, tyV_of ru hp hT pl, ?_⟩
      obtain ⟨F1, P1, M1, r1, b1, B1, q1⟩ := tM_then (Q := fun xs H2 => ∃ r, MtR X id r ∧ r (.ref p) xs H2 Q) B q fun xs as F1 M1 r1 b1 H1 l1 e1 B1 q1 h1 => by
        split at h1
        · rename_i so e2
          split at h1
          · rename_i so' d ef
            obtain ⟨_, pl', hm⟩ := hf _ _ _ _ ef
            obtain ⟨p2, u2, rfl2, hp2, ru2, pl2⟩ := B1.ownV e2 hv
            cases rfl2
            obtain ⟨u', v, r, hr, nu, hn, rv, hq⟩ := hm F1 r1 H1 p u2 xs ru2 hp2 q1
            obtain ⟨p3, u3, y1, y2, y3, _, _, y4⟩ := B1.chg (u' := u') e2 pl'
            rw [hv] at y1; cases y1
            exact ⟨r, hr, hq _ (h1 v F1 M1 r1 _ (Leq.refl _) (Rle.refl _) (y4 hn) rv)⟩
          · exact h1.elim
        · exact h1.elim
      exact ht σ H F1 P1 M1 r1 b1 _ B1 q1
    · exact q.elim
  · exact q.elim
/-- x.m(e, ..), x a name whose own object it is -/
theorem se_methO {i : Nat} {p : Pos} (hf : MtO X T id f) (pa : PlainAttrs T) (slot : PySem.Slot T name id) (hty : typeOf (.builtin id) = pure (.type "method_descriptor")) (hx : PE X (.Name x p) (tVar i)) (ha : SA X W (e :: es) mas)
    (hbase : attributeBase (.Name x p) name X.env (eval (.Name x p) X.env) = eval (.Name x p) X.env := by rfl)
    (hfew : ((backTo cpos (starEach (e :: es) X.env)).all (fun x => !x.1) && (backToKw cpos (keywordEach [] X.env)).all (fun x => x.1.isSome)
      && decide ((e :: es).length + ([] : List Keyword).length + (if ([] : List Keyword).isEmpty then 0 else 1) < 30)) = true := by rfl)
    (hline : (apos.endLine == cpos.line) = true := by rfl) (hs : starEach (e :: es) X.env = (false, eval e X.env) :: starEach es X.env := by rfl) (hplain : (backTo cpos (starEach es X.env)).any (·.1) = false := by rfl) :
    SE X W (.Call (.Attribute (.Name x p) name apos) (e :: es) [] cpos) (methO i T f mas) :=
  SE.of (pe_bm pa slot hty MtR.any hx ha hbase hfew hline hs hplain) fun σ H F P0 Mm ρ bs Q B q => methO_ok hf B q fun σ H F P0 Mm ρ bs Q B q => tM_of B q
/-- o.m(e, ..), o's value in the store -/
theorem se_methP (hf : MtO X T id f) (pa : PlainAttrs T) (slot : PySem.Slot T name id) (hty : typeOf (.builtin id) = pure (.type "method_descriptor")) (ho : SE X W o mo) (ha : SA X W (e :: es) mas)
    (hbase : attributeBase o name X.env (eval o X.env) = eval o X.env := by rfl)
    (hfew : ((backTo cpos (starEach (e :: es) X.env)).all (fun x => !x.1) && (backToKw cpos (keywordEach [] X.env)).all (fun x => x.1.isSome)
      && decide ((e :: es).length + ([] : List Keyword).length + (if ([] : List Keyword).isEmpty then 0 else 1) < 30)) = true := by rfl)
    (hline : (apos.endLine == cpos.line) = true := by rfl) (hs : starEach (e :: es) X.env = (false, eval e X.env) :: starEach es X.env := by rfl) (hplain : (backTo cpos (starEach es X.env)).any (·.1) = false := by rfl) :
    SE X W (.Call (.Attribute o name apos) (e :: es) [] cpos) (methP T f mo mas) :=
  SE.of (pe_bm pa slot hty MtR.any ho ha hbase hfew hline hs hplain) fun σ H F P0 Mm ρ bs Q B q => tM_then B q fun x d F0 M0 r0 b0 H0 l0 e0 B0 q0 h0 => by
    cases q0 with
    | ptr hk =>
      rename_i p k
      dsimp only at h0
      split at h0
      · rename_i so0 es0
        split at h0
        · rename_i hT
          obtain ⟨hT, pl0⟩ := hT
          obtain ⟨a, u, y1, _, y2, y3, _⟩ := B0.put (so' := .lst []) (u' := .lst []) es0 pl0 rfl
          rw [hk] at y1; cases y1
          refine ⟨tyV_of y3 y2 hT pl0, tM_then B0 h0 fun xs as F1 M1 r1 b1 H1 l1 e1 B1 q1 h1 => ?_⟩
          try dsimp only at h1
          split at h1
          · rename_i so e2
            split at h1
            · rename_i so' d ef
              obtain ⟨_, pl', hm⟩ := hf _ _ _ _ ef
              split at h1
              · rename_i pl
                obtain ⟨a1, u1, z1, _, z2, z3, _⟩ := B1.put (so' := .lst []) (u' := .lst []) e2 pl rfl
                rw [e1.p _ _ hk] at z1; cases z1
                obtain ⟨u', v, r, hr, nu, hn, rv, hq⟩ := hm F1 r1 H1 p u1 xs z3 z2 q1
                obtain ⟨a2, u2, w1, _, _, _, _, w2⟩ := B1.put (so' := so') (u' := u') e2 pl pl'
                rw [e1.p _ _ hk] at w1; cases w1
                exact ⟨r, hr, hq _ (h1 v F1 _ r1 _ (Leq.refl _) (Rle.refl _) (w2 nu hn) rv)⟩
              · exact h1.elim
            · exact h1.elim
          · exact h1.elim
        · exact h0.elim
      · exact h0.elim
    | _ => exact h0.elim
end
end L2.VI
/-! VI10: methods by name, stores, displays of dicts. -/
namespace L2.VI
open PySem PySem.Spec PyProof.Rows He

section
variable {X : Cx} {W : WX} {pos apos cpos : Pos} {o i e : Expr} {es : List Expr} {mo mi me : M D} {mas : M (List D)}
variable {K : PySem.W.Frag} {F : Hp} {fc : FrC} {P0 : PX fc} {Mm H : Hp} {ρ : Rho} {bs : BSt} {σ : St}
def fAppend : MtF := fun so as => match so, as with
  | .lst xs, [d] => if xs.length < sizeLine then some (.lst (xs ++ [d]), .non) else none
  | _, _ => none
theorem mo_append : MtO X "list" "list.append" fAppend := by
  intro so so' as d h
  unfold fAppend at h
  split at h
  · rename_i xs d0
    split at h
    · rename_i hl
      cases h
      refine ⟨rfl, rfl, fun F ρ H p u xs' r hp ra => ?_⟩
      obtain ⟨vs, e, rr⟩ := r
      cases e
      cases ra with
      | cons r1 ra =>
        cases ra
        exact ⟨_, .non, _, mt_append, (by intro _ z; cases z), fun P' hP => ⟨_, hP, rr.append (.cons r1 .nil)⟩, .non, fun Q q => ⟨p, vs, _, rfl, rfl, hp, by rw [rr.length]; exact hl, q⟩⟩
    · cases h
  · cases h
def fPopAt : MtF := fun so as => match so, as with
  | .lst xs, [.int i] => if -(2 ^ 63) ≤ i ∧ i < 2 ^ 63 then (match ixN xs.length i with
    | some j => (xs[j]?).map fun d => (.lst (xs.eraseIdx j), d)
    | none => none) else none
  | _, _ => none
theorem mo_popAt : MtO X "list" "list.pop" fPopAt := by
  intro so so' as d h
  unfold fPopAt at h
  split at h
  · rename_i xs i
    split at h
    · rename_i hl
      cases ej : ixN xs.length i with
      | none => rw [ej] at h; cases h
      | some j =>
        rw [ej] at h
        dsimp only at h
        cases ed : xs[j]? with
        | none => rw [ed] at h; cases h
        | some d0 =>
          rw [ed] at h
          cases h
          refine ⟨rfl, rfl, fun F ρ H p u xs' r hp ra => ?_⟩
          obtain ⟨vs, e, rr⟩ := r
          cases e
          cases ra with
          | cons r1 ra =>
            cases ra
            cases r1
            obtain ⟨v, hv, rv⟩ := rr.get ed
            obtain ⟨s1, _⟩ := ixN_seq ej
            exact ⟨_, v, _, mt_popAt, (by intro _ z; cases z), fun P' hP => ⟨_, hP, rr.eraseIdx j⟩, rv, fun Q q => ⟨p, vs, i, j, v, rfl, rfl, hp, hl.1, hl.2, by rw [rr.length]; exact s1, hv, q⟩⟩
    · cases h
  · cases h
/-! ### o[i] = v -/
def dput {κ : Type} [DecidableEq κ] (kvs : List (κ × D)) (k : κ) (v : D) : List (κ × D) :=
  if (kvs.any fun kv => decide (kv.1 = k)) = true then kvs.map (fun kv => if kv.1 = k then (kv.1, v) else kv) else kvs ++ [(k, v)]
def putO (so : SO) (i v : D) : Option SO := match so, i with
  | .lst xs, .int i => (ixN xs.length i).map fun j => .lst (xs.set j v)
  | .dic kvs, .str x => if kvs.length < sizeLine then some (.dic (dput kvs (.inr x) v)) else none
  | .dic kvs, .int j => if kvs.length < sizeLine then some (.dic (dput kvs (.inl j) v)) else none
  | _, _ => none
theorem kv_put {κ : Type} [DecidableEq κ] {k : κ} {v : V} {d : D} (r : Rep K F ρ v d) {vs : List (κ × V)} {ds : List (κ × D)} (hk : vs.map (·.1) = ds.map (·.1)) (rr : RepAll K F ρ (vs.map (·.2)) (ds.map (·.2))) :
    (putK vs k v).map (·.1) = (dput ds k d).map (·.1) ∧ RepAll K F ρ ((putK vs k v).map (·.2)) ((dput ds k d).map (·.2)) := by
  have hany : ∀ {vs : List (κ × V)} {ds : List (κ × D)}, vs.map (·.1) = ds.map (·.1) → (vs.any fun kv => decide (kv.1 = k)) = (ds.any fun kv => decide (kv.1 = k)) := by
    intro vs
    induction vs with
    | nil => intro ds h; cases ds with
      | nil => rfl
      | cons _ _ => simp at h
    | cons a vs ih =>
      intro ds h
      cases ds with
      | nil => simp at h
      | cons c ds =>
        simp only [List.map_cons, List.cons.injEq] at h
        simp only [List.any_cons, h.1, ih h.2]
  unfold putK dput
  rw [hany hk]
  split
  · clear hany
    revert hk rr
    induction vs generalizing ds with
    | nil => intro hk rr; cases ds with
      | nil => exact ⟨rfl, .nil⟩
      | cons _ _ => simp at hk
    | cons a vs ih =>
      intro hk rr
      cases ds with
      | nil => simp at hk
      | cons c ds =>
        simp only [List.map_cons, List.cons.injEq] at hk
        cases rr with
        | cons r1 rr =>
          rename_i _ha
          by_cases hx : ∃ z ∈ ds, z.1 = k
          · obtain ⟨i1, i2⟩ := ih (ds := ds) (by simpa using hx) hk.2 rr
            simp only [List.map_cons, hk.1]
            split
            · exact ⟨by simp only [List.cons.injEq, true_and]; exact i1, .cons r i2⟩
            · exact ⟨by simp only [List.cons.injEq]; exact ⟨hk.1, i1⟩, .cons r1 i2⟩
          · have nods : ∀ z ∈ ds, z.1 ≠ k := fun z hz e => hx ⟨z, hz, e⟩
            have novs : ∀ z ∈ vs, z.1 ≠ k := fun z hz e => by
              have : z.1 ∈ vs.map (·.1) := List.mem_map_of_mem hz
              rw [hk.2] at this
              obtain ⟨w, hw, ew⟩ := List.mem_map.mp this
              exact nods w hw (ew.trans e)
            have e1 : vs.map (fun kv => if kv.1 = k then (kv.1, v) else kv) = vs := by
              conv => rhs; rw [← List.map_id vs]
              exact List.map_congr_left fun z hz => if_neg (novs z hz)
            have e2 : ds.map (fun kv => if kv.1 = k then (kv.1, d) else kv) = ds := by
              conv => rhs; rw [← List.map_id ds]
              exact List.map_congr_left fun z hz => if_neg (nods z hz)
            simp only [List.map_cons, e1, e2, hk.1]
            split
            · exact ⟨by simp only [List.cons.injEq, true_and]; exact hk.2, .cons r rr⟩
            · exact ⟨by simp only [List.cons.injEq]; exact ⟨hk.1, hk.2⟩, .cons r1 rr⟩
  · rw [List.map_append, List.map_append, List.map_append, List.map_append, hk]
    exact ⟨rfl, rr.append (.cons r .nil)⟩
/-- a dict's item is stored, by values -/
theorem set_dict (hu : X.A.units + 1 < cLine) : PSet X (fun o i v H Q => ∃ a H', o = .ref a ∧ DPut H a i v H' ∧ Q H') := by
  intro pins s σ H o i v ov iv u Q I ro ri rv h
  obtain ⟨a, H', rfl, g, q⟩ := h
  obtain rfl : ov = Value.ref a := ro
  exact d_setItem hu I g ri rv fun s' I' => ⟨H', I', q⟩
theorem PSet.any : PSet X (fun o i v H Q => ∃ t, PSet X t ∧ t o i v H Q) := fun pins s σ H o i v ov iv u Q I ro ri rv ⟨t, ht, q⟩ => ht pins s σ H o i v ov iv u Q I ro ri rv q
theorem putO_ok (hu : X.A.units + 1 < cLine) {so so' : SO} {p : Addr} {k d : D} {y v : V} {u : HO} (r : RepO X.K F ρ (fun _ => some u) p so) (hp : H p = some u) (ry : Rep X.K F ρ y k) (rv : Rep X.K F ρ v d) (h : putO so k d = some so') :
    so.plain = true ∧ so'.plain = true ∧ ∃ u', (∀ x, u' ≠ .own x) ∧ (∀ P', P' p = some u' → RepO X.K F ρ P' p so') ∧ ∀ Q : Hp → Prop, Q (upd H p u') → ∃ t, PSet X t ∧ t (.ref p) y v H Q := by
  cases so with
  | lst xs =>
    obtain ⟨vs, e, r⟩ := r
    cases e
    cases ry with
    | int j =>
      have h2 : (ixN xs.length j).map (fun n => SO.lst (xs.set n d)) = some so' := h
      cases ej : ixN xs.length j with
      | none => rw [ej] at h2; cases h2
      | some n =>
        rw [ej] at h2; cases h2
        exact ⟨rfl, rfl, _, (by intro _ z; cases z), fun P' hP => ⟨_, hP, r.set rv n⟩, fun Q q => ⟨_, set_list, p, vs, j, n, rfl, rfl, hp, by rw [r.length]; exact ej, q⟩⟩
    | _ => cases h
  | dic kvs =>
    obtain ⟨vs, e, r1, r2⟩ := r
    cases e
    have hl : vs.length = kvs.length := by have := congrArg List.length r1; simpa using this
    cases ry with
    | int j =>
      unfold putO at h
      dsimp only at h
      split at h
      · rename_i hz
        cases h
        obtain ⟨z1, z2⟩ := kv_put (k := (Sum.inl j : Key)) rv r1 r2
        exact ⟨rfl, rfl, _, (by intro _ z; cases z), fun P' hP => ⟨_, hP, z1, z2⟩, fun Q q => ⟨_, set_dict hu, p, _, rfl, DPut.k (k := Sum.inl j) hp (by rw [hl]; exact hz), q⟩⟩
      · cases h
    | str j =>
      unfold putO at h
      dsimp only at h
      split at h
      · rename_i hz
        cases h
        obtain ⟨z1, z2⟩ := kv_put (k := (Sum.inr j : Key)) rv r1 r2
        exact ⟨rfl, rfl, _, (by intro _ z; cases z), fun P' hP => ⟨_, hP, z1, z2⟩, fun Q q => ⟨_, set_dict hu, p, _, rfl, DPut.k (k := Sum.inr j) hp (by rw [hl]; exact hz), q⟩⟩
      · cases h
    | _ => cases h
  | dct kvs => cases ry <;> cases h
  | ins c fs => cases ry <;> cases h
  | tab x q => cases ry <;> cases h
/-- x[i] = e, x's own object -/
def isetO (n : Nat) (mi me : M D) : M Fl := M.bind me fun v => fun b => match b.t[n]? with
  | some (some (.own _)) => M.bind mi (fun k => fun b => match b.t[n]? with
    | some (some (.own so)) => (match putO so k v with
      | some so' => .ok .nx { b with t := b.t.set n (some (.own so')) }
      | none => .fail)
    | _ => .fail) b
  | _ => .fail
def isetP (mo mi me : M D) : M Fl := M.bind me fun v => M.bind mo fun x => M.bind mi fun k => fun b => match x with
  | .ptr kk => (match b.g.S kk with
    | some so => (match putO so k v with
      | some so' => .ok .nx { b with g := b.g.put kk so' }
      | none => .fail)
    | none => .fail)
  | _ => .fail
theorem sg_sub' {to ti : TE} {value : Expr} {tv : TE} (hv : PE X value tv) (ho : PE X o to) (hi : PE X i ti) {pos' : Pos}
    (ha : ∀ v, assign (.Subscript o i pos') X.env v = (do
      let ov ← holding [v] (eval o X.env)
      let iv ← holding [v, ov] (eval i X.env)
      standAt pos'
      holding [v, ov, iv] (setItem ov iv v)
      release [v, ov, iv] [])) (hs : swapsWithSole [.Subscript o i pos'] value pos.line X.env = pure false) (hw : swappedStores [.Subscript o i pos'] value X.env = pure none)
    (h1 : (assignEach [.Subscript o i pos'] X.env).map (·.2) = [assign (.Subscript o i pos') X.env]) :
    PS X (.Assign [.Subscript o i pos'] value pos) (fun D σ H => tv σ H fun v H1 => to σ H1 fun x H2 => ti σ H2 fun y H3 => ∃ t, PSet X t ∧ t x y v H3 fun H4 => D.nx σ H4) :=
  ps_asg hv (pg_sub ho hi PSet.any ha) hs hw h1
theorem ss_isetO {n : Nat} {x : Str} {p pos' : Pos} {value : Expr} (hu : X.A.units + 1 < cLine) (hv : SE X W value me) (hx : PE X (.Name x p) (tVar n)) (hi : SE X W i mi)
    (ha : ∀ v, assign (.Subscript (.Name x p) i pos') X.env v = (do
      let ov ← holding [v] (eval (.Name x p) X.env)
      let iv ← holding [v, ov] (eval i X.env)
      standAt pos'
      holding [v, ov, iv] (setItem ov iv v)
      release [v, ov, iv] []) := by intro _; rfl) (hs : swapsWithSole [.Subscript (.Name x p) i pos'] value pos.line X.env = pure false := by rfl) (hw : swappedStores [.Subscript (.Name x p) i pos'] value X.env = pure none := by rfl)
    (h1 : (assignEach [.Subscript (.Name x p) i pos'] X.env).map (·.2) = [assign (.Subscript (.Name x p) i pos') X.env] := by rfl) : SS X W (.Assign [.Subscript (.Name x p) i pos'] value pos) (isetO n mi me) :=
  SS.of (sg_sub' hv hx hi ha hs hw h1) fun σ H F P0 Mm ρ b D B q => sM_then B q fun v d F1 M1 r1 b1 H1 l1 e1 B1 q1 h1 => by
    try dsimp only at h1
    split at h1
    · rename_i so0 e0
      obtain ⟨xv, hxv⟩ := B1.slotV e0
      refine ⟨xv, hxv, sM_then B1 h1 fun y k F2 M2 r2 b2 H2 l2 e2 B2 q2 h2 => ?_⟩
      split at h2
      · rename_i so e3
        split at h2
        · rename_i so' ep
          obtain ⟨p, u, rfl, hp, ru, pl⟩ := B2.ownV e3 hxv
          obtain ⟨_, pl', u', nu, hn, hq⟩ := putO_ok hu ru hp q2 (q1.mono l2 e2) ep
          obtain ⟨p3, u3, y1, y2, y3, _, _, y4⟩ := B2.chg (u' := u') e3 pl'
          rw [hxv] at y1; cases y1
          exact hq _ (PostS.nxt (W := W) h2 (y4 hn))
        · exact h2.elim
      · exact h2.elim
    · exact h1.elim
theorem ss_isetP {pos' : Pos} {value : Expr} (hu : X.A.units + 1 < cLine) (hv : SE X W value me) (ho : SE X W o mo) (hi : SE X W i mi)
    (ha : ∀ v, assign (.Subscript o i pos') X.env v = (do
      let ov ← holding [v] (eval o X.env)
      let iv ← holding [v, ov] (eval i X.env)
      standAt pos'
      holding [v, ov, iv] (setItem ov iv v)
      release [v, ov, iv] []) := by intro _; rfl) (hs : swapsWithSole [.Subscript o i pos'] value pos.line X.env = pure false := by rfl) (hw : swappedStores [.Subscript o i pos'] value X.env = pure none := by rfl)
    (h1 : (assignEach [.Subscript o i pos'] X.env).map (·.2) = [assign (.Subscript o i pos') X.env] := by rfl) : SS X W (.Assign [.Subscript o i pos'] value pos) (isetP mo mi me) :=
  SS.of (sg_sub' hv ho hi ha hs hw h1) fun σ H F P0 Mm ρ b D B q => sM_then B q fun v d F1 M1 r1 b1 H1 l1 e1 B1 q1 h1 => sM_then B1 h1 fun x a F2 M2 r2 b2 H2 l2 e2 B2 q2 h2 => sM_then B2 h2 fun y k F3 M3 r3 b3 H3 l3 e3 B3 q3 h3 => by
    cases q2 with
    | ptr hk =>
      rename_i p kk
      dsimp only at h3
      split at h3
      · rename_i so e4
        split at h3
        · rename_i so' ep
          have pl : so.plain = true := by
            cases so with
            | ins c fs => cases k <;> cases ep
            | tab x q => cases k <;> cases ep
            | _ => rfl
          obtain ⟨a1, u1, z1, _, z2, z3, _⟩ := B3.put (so' := .lst []) (u' := .lst []) e4 pl rfl
          rw [e3.p _ _ hk] at z1; cases z1
          obtain ⟨_, pl', u', nu, hn, hq⟩ := putO_ok hu z3 z2 q3 ((q1.mono l2 e2).mono l3 e3) ep
          obtain ⟨a2, u2, w1, _, _, _, _, w2⟩ := B3.put (so' := so') (u' := u') e4 pl pl'
          rw [e3.p _ _ hk] at w1; cases w1
          exact hq _ (PostS.nxt (W := W) h3 (w2 nu hn))
        · exact h3.elim
      · exact h3.elim
    | _ => exact h3.elim
/-! ### o.f = v -/
def dputF (f : Str) (v : D) : List (Str × D) → List (Str × D)
  | [] => [(f, v)]
  | (g, x) :: r => if g = f then (g, v) :: r else (g, x) :: dputF f v r
theorem fs_put {f : Str} {v : V} {d : D} (r : Rep K F ρ v d) : ∀ {vs : List (Str × V)} {ds : List (Str × D)}, vs.map (·.1) = ds.map (·.1) → RepAll K F ρ (vs.map (·.2)) (ds.map (·.2)) →
    (putF f v vs).map (·.1) = (dputF f d ds).map (·.1) ∧ RepAll K F ρ ((putF f v vs).map (·.2)) ((dputF f d ds).map (·.2))
  | [], [], _, _ => ⟨rfl, .cons r .nil⟩
  | [], _ :: _, h, _ => by simp at h
  | _ :: _, [], h, _ => by simp at h
  | (k1, v1) :: vs, (k2, d1) :: ds, h, rr => by
    simp only [List.map_cons, List.cons.injEq] at h
    obtain ⟨h1, h2⟩ := h
    subst h1
    cases rr with
    | cons r1 rr =>
      obtain ⟨i1, i2⟩ := fs_put (f := f) r h2 rr
      unfold putF dputF
      split
      · exact ⟨by simp only [List.map_cons, h2], .cons r rr⟩
      · exact ⟨by simp only [List.map_cons, i1], .cons r1 i2⟩
def fsetM (c f : Str) (mo me : M D) : M Fl := M.bind me fun v => M.bind mo fun x => fun b => match x with
  | .ptr k => (match b.g.S k with
    | some (.ins c' fs) => if c' = c ∧ fs.length < 1000 then .ok .nx { b with g := b.g.put k (.ins c (dputF f v fs)) } else .fail
    | _ => .fail)
  | _ => .fail
theorem ss_fset {c f : Str} {pos' : Pos} {value : Expr} (ho : SE X W o mo) (hv : SE X W value me) (cl : Cls X.K (ga X.K c)) (na : NoAttr X.K (ga X.K c) f) (hs : swapsWith value (some (.Attribute o f pos')) pos.line X.env = pure false := by rfl) : SS X W (.Assign [.Attribute o f pos'] value pos) (fsetM c f mo me) :=
  SS.of (ps_fld ho hv hs) fun σ H F P0 Mm ρ b D B q => sM_then B q fun v d F1 M1 r1 b1 H1 l1 e1 B1 q1 h1 => sM_then B1 h1 fun x a F2 M2 r2 b2 H2 l2 e2 B2 q2 h2 => by
    cases q2 with
    | ptr hk =>
      rename_i p k
      dsimp only at h2
      split at h2
      · rename_i c' fs e3
        split at h2
        · rename_i hc
          obtain ⟨hc, hz⟩ := hc
          subst hc
          obtain ⟨P, q, BB⟩ := B2
          obtain ⟨a', dx, vs, y1, y2, y3, y4, y5, y6⟩ := BB.h.insAt e3
          rw [hk] at y1; cases y1
          have hl : vs.length = fs.length := by have := congrArg List.length y5; simpa using this
          obtain ⟨z1, z2⟩ := fs_put (f := f) (q1.mono l2 e2) y5 y6
          refine ⟨p, _, dx, vs, rfl, y4, cl, na, by rw [hl]; exact hz, PostS.nxt (W := W) h2 ⟨P, q, BB.h.putI e3 hk y2 y3 z1 z2, BB.pp, BB.len, BB.qi, BB.sl⟩⟩
        · exact h2.elim
      · exact h2.elim
    | _ => exact h2.elim
end
end L2.VI
/-! VI11: built-in functions; displays of dicts. -/
namespace L2.VI
open PySem PySem.Spec PyProof.Rows He

section
variable {X : Cx} {W : WX} {pos apos cpos : Pos} {o i e : Expr} {es : List Expr} {mo mi me : M D} {mas : M (List D)}
variable {K : PySem.W.Frag} {F : Hp} {fc : FrC} {P0 : PX fc} {Mm H : Hp} {ρ : Rho} {bs : BSt} {σ : St}
/-! ### len -/
def lenD : List D → M D
  | [.str y] => guardM (y.length ≤ sizeLine) (M.ret (.int y.length))
  | [.tup ds] => M.ret (.int ds.length)
  | [.lst ds] => M.ret (.int ds.length)
  | [.scr ns] => M.ret (.int ns.length)
  | [.dic kvs] => M.ret (.int kvs.length)
  | _ => M.fail
theorem call_lenD : CallR X (.builtin "len") (fun xs H Q => ∃ (a : Addr) (kvs : List (Key × V)), xs = [.ref a] ∧ Rd H a (.dK kvs) ∧ Q (.int kvs.length) H) := by
  intro pins s σ H xs us Q I r h
  obtain ⟨a, kvs, rfl, hd, q⟩ := h
  rw [Vals.ref1 r]
  exact d_len I hd fun t s' I' => ⟨.int kvs.length, H, I', ⟨t, rfl⟩, q⟩
theorem cv_len : CallV X W (.builtin "len") lenD := by
  intro xs as σ H F P0 Mm ρ b Q B r h
  unfold lenD at h
  split at h
  · obtain ⟨h1, h⟩ := h.guard
    cases r with | cons r rr => cases rr; cases r; exact ⟨_, call_len, _, _, rfl, ⟨h1, rfl⟩, h.now B (.int _)⟩
  · cases r with | cons r rr => cases rr; cases r with | tup h1 h2 => exact ⟨_, call_len, _, _, rfl, .inr ⟨_, Rep.sqT (P := fun _ => none) B h1, rfl⟩, by rw [h2.length]; exact h.now B (.int _)⟩
  · cases r with | cons r rr => cases rr; cases r with | lst h1 h2 => exact ⟨_, call_len, _, _, rfl, .inl ⟨_, .inl (.inl (B.lstAt h1)), rfl⟩, by rw [h2.length]; exact h.now B (.int _)⟩
  · cases r with | cons r rr => cases rr; cases r with | scr h1 => exact ⟨_, call_len, _, _, rfl, .inl ⟨_, B.sqL h1, rfl⟩, by rw [List.length_map]; exact h.now B (.int _)⟩
  · cases r with | cons r rr => cases rr; cases r with | dic h1 h2 h3 =>
      have e := congrArg List.length h2
      rw [List.length_map, List.length_map] at e
      exact ⟨_, call_lenD, _, _, rfl, B.dicAt h1, by rw [e]; exact h.now B (.int _)⟩
  · exact h.elim
/-- len(x), x's own list is not frozen by it -/
def lenV (n : Nat) : M D := fun b => match b.t[n]? with
  | some (some (.own (.lst xs))) => .ok (.int xs.length) b
  | some (some (.val d)) => lenD [d] b
  | _ => .fail
theorem se_lenV {n : Nat} {x : Str} {p p2 : Pos} (hx : PE X (.Name x p2) (tVar n)) (hm : X.mg "len" = none) (hg : Gl X "len" := by rfl)
    (he : starEach [.Name x p2] X.env = (false, eval (.Name x p2) X.env) :: starEach [] X.env := by rfl) : SE X W (.Call (.Name "len" p) [.Name x p2] [] pos) (lenV n) :=
  SE.of (pe_callB CallR.any hg hm boot_len (pa_cons hx pa_nil he) (by decide) (by decide) he) fun σ H F P0 Mm ρ bs Q B q => by
    unfold lenV at q
    split at q
    · rename_i xs e
      obtain ⟨v, hv⟩ := B.slotV e
      obtain ⟨p, u, rfl, hp, ru, pl⟩ := B.ownV e hv
      obtain ⟨vs, z, rr⟩ := ru
      cases z
      exact ⟨_, hv, _, call_len, _, _, rfl, .inl ⟨_, .inl (.inl hp), rfl⟩, by rw [rr.length]; exact q.now B (.int _)⟩
    · rename_i d e
      obtain ⟨v, hv⟩ := B.slotV e
      exact ⟨_, hv, cv_len (W := W) [v] [d] σ H F P0 Mm ρ bs Q B (.cons (B.valV e hv) .nil) q⟩
    · exact q.elim
/-! ### min, max of two; int; repr -/
def min2D : List D → M D
  | [.int i, .int j] => M.ret (.int (if j < i then j else i))
  | _ => M.fail
def max2D : List D → M D
  | [.int i, .int j] => M.ret (.int (if j > i then j else i))
  | _ => M.fail
theorem cv_min2 (hc : X.calm = true := by rfl) : CallV X W (.builtin "min") min2D := by
  intro xs as σ H F P0 Mm ρ b Q B r h
  refine ⟨_, call_min2 hc, ?_⟩
  unfold min2D at h
  split at h
  · cases r with | cons r rr => cases rr with | cons r2 rr => cases rr; cases r; cases r2; exact ⟨_, _, rfl, h.now B (.int _)⟩
  · exact h.elim
theorem cv_max2 (hc : X.calm = true := by rfl) : CallV X W (.builtin "max") max2D := by
  intro xs as σ H F P0 Mm ρ b Q B r h
  refine ⟨_, call_max2 hc, ?_⟩
  unfold max2D at h
  split at h
  · cases r with | cons r rr => cases rr with | cons r2 rr => cases rr; cases r; cases r2; exact ⟨_, _, rfl, h.now B (.int _)⟩
  · exact h.elim
def intD : List D → M D
  | [.int i] => M.ret (.int i)
  | [.bl k] => M.ret (.int (if k then 1 else 0))
  | _ => M.fail
theorem cv_int : CallV X W (.type "int") intD := by
  intro xs as σ H F P0 Mm ρ b Q B r h
  refine ⟨_, call_int1, ?_⟩
  unfold intD at h
  split at h
  · cases r with | cons r rr => cases rr; cases r; exact .inl ⟨_, rfl, h.now B (.int _)⟩
  · cases r with | cons r rr => cases rr; cases r; exact .inr ⟨_, rfl, h.now B (.int _)⟩
  · exact h.elim
theorem cr_repr : CallR X (.builtin "repr") (fun xs H Q => (∃ i, xs = [.int i] ∧ i.natAbs.log2 < 1920 ∧ Q (.str (toString i)) H) ∨ (∃ k : Bool, xs = [.bl k] ∧ Q (.str (if k then "True" else "False")) H) ∨ xs = [.non] ∧ Q (.str "None") H) := by
  intro pins s σ H xs us Q I r h
  rcases h with ⟨i, rfl, hz, q⟩ | ⟨k, rfl, q⟩ | ⟨rfl, q⟩
  · obtain ⟨u, rfl, t, rfl⟩ := vals1 r
    exact PySem.P.repr_of_int hz ⟨.str _, H, I.tok _, ⟨_, rfl⟩, q⟩
  · obtain ⟨u, rfl, r1⟩ := vals1 r
    cases r1
    exact PySem.P.repr_of_bool ⟨.str _, H, I.tok _, ⟨_, rfl⟩, q⟩
  · obtain ⟨u, rfl, r1⟩ := vals1 r
    cases r1
    exact PySem.P.repr_of_none ⟨.str _, H, I.tok _, ⟨_, rfl⟩, q⟩
def reprD : List D → M D
  | [.int i] => guardM (i.natAbs.log2 < 1920) (M.ret (.str (toString i)))
  | [.bl k] => M.ret (.str (if k then "True" else "False"))
  | [.non] => M.ret (.str "None")
  | _ => M.fail
theorem cv_repr : CallV X W (.builtin "repr") reprD := by
  intro xs as σ H F P0 Mm ρ b Q B r h
  refine ⟨_, cr_repr, ?_⟩
  unfold reprD at h
  split at h
  · obtain ⟨h1, h⟩ := h.guard
    cases r with | cons r rr => cases rr; cases r; exact .inl ⟨_, rfl, h1, h.now B (.str _)⟩
  · cases r with | cons r rr => cases rr; cases r; exact .inr (.inl ⟨_, rfl, h.now B (.str _)⟩)
  · cases r with | cons r rr => cases rr; cases r; exact .inr (.inr ⟨rfl, h.now B (.str _)⟩)
  · exact h.elim
/-! ### list(x): a new list -/
def toLst : List D → Option SO
  | [.lst ds] => some (.lst ds)
  | [.tup ds] => some (.lst ds)
  | [.scr ns] => some (.lst (ns.map D.int))
  | _ => none
def listN (ms : M (List D)) : M SO := M.bind ms fun ds => optM (toLst ds)
theorem PostF.opt {o : Option SO} {Q : VK} (h : PostF K W P0 F ρ σ Q (optM o bs)) : ∃ a, o = some a ∧ PostF K W P0 F ρ σ Q (.ok a bs) := by
  cases o with
  | none => exact h.elim
  | some a => exact ⟨a, rfl, h⟩
theorem sn_list {x : Str} {p : Pos} (hm : X.mg "list" = none) (ha : SA X W [e] mas) (hg : Gl X "list" := by rfl)
    (he : starEach [e] X.env = (false, eval e X.env) :: starEach [] X.env := by rfl) : SN X W (.Call (.Name "list" p) [e] [] pos) (listN mas) :=
  SN.of (pe_callTy call_list_of hg hm (by decide +kernel) ha (by decide) (by decide) he) fun σ H F P0 Mm ρ bs Q B q => tM_thenF B q fun xs ds F1 M1 r1 b1 H1 l1 e1 B1 q1 h1 => by
    obtain ⟨so, ho, h1⟩ := h1.opt
    unfold toLst at ho
    split at ho
    · cases ho
      cases q1 with | cons r rr => cases rr; cases r with | lst h2 h3 => exact ⟨_, _, rfl, .inl (.inl (.inl (B1.lstAt h2))), fun l hl => h1.now B1 hl (fun P' hp => ⟨_, hp, h3⟩) rfl⟩
    · cases ho
      cases q1 with | cons r rr => cases rr; cases r with | tup h2 h3 => exact ⟨_, _, rfl, .inr (Rep.sqT (P := fun _ => none) B1 h2), fun l hl => h1.now B1 hl (fun P' hp => ⟨_, hp, h3⟩) rfl⟩
    · cases ho
      cases q1 with | cons r rr => cases rr; cases r with | scr h2 => exact ⟨_, _, rfl, .inl (B1.sqL h2), fun l hl => h1.now B1 hl (fun P' hp => ⟨_, hp, RepAll.of_ints _⟩) rfl⟩
    · cases ho
/-! ### isinstance -/
/-- a value's type: a built-in one, or a class of the module -/
def tyD (d : D) (g : GSt) : Option (String ⊕ Str) := match d with
  | .non => some (.inl "NoneType")
  | .bl _ => some (.inl "bool")
  | .int _ => some (.inl "int")
  | .str _ => some (.inl "str")
  | .tup _ => some (.inl "tuple")
  | .lst _ => some (.inl "list")
  | .dic _ => some (.inl "dict")
  | .ptr k => (match g.S k with
    | some (.lst _) => some (.inl "list")
    | some (.dic _) => some (.inl "dict")
    | some (.dct _) => some (.inl "dict")
    | some (.ins c _) => some (.inr c)
    | _ => none)
  | _ => none
def isiM (cd : D → Bool) (subs : String → Bool) (own : List (Str × Bool)) : List D → M D
  | [x, c] => fun b => if cd c = true then (match tyD x b.g with
    | some (.inl t) => .ok (.bl (subs t)) b
    | some (.inr c) => (match own.lookup c with
      | some k => .ok (.bl k) b
      | none => .fail)
    | none => .fail) else .fail
  | _ => M.fail
def tyNames : List String := ["NoneType", "bool", "int", "str", "tuple", "list", "dict"]
structure ClsI (K : PySem.W.Frag) (c : Str) : Prop where
  cl : Cls K (ga K c)
  ha : PySem.W.findIn K (.ref (ga K c)) "__class__" = some (some (.builtin "object.__class__"))
  hn : PySem.W.specialIn K (.builtin "object.__class__") "__get__" = some (some (.builtin "getset_descriptor.__get__"))
  htk : PySem.W.takesIn K (.builtin "object.__class__") = some true
  hm : PySem.W.mroIn K (ga K c) (.type "object") = some true
def tyVal (K : PySem.W.Frag) : String ⊕ Str → Value
  | .inl t => .type t
  | .inr c => .ref (ga K c)
theorem tyX_of {x : V} {d : D} {t : String ⊕ Str} (B : BRel K F P0 Mm ρ bs σ H) (r : Rep K F ρ x d) (h : tyD d bs.g = some t) (hc : ∀ c, t = .inr c → ClsI K c) : TyX K H x (tyVal K t) ∧ (∀ n, t = .inl n → n ∈ tyNames) := by
  have lk : ∀ {a : Addr} {vs : List V}, SqT K H a vs → TyX K H (.ref a) (.type "tuple") := by
    intro a vs h
    rcases h with h | ⟨o, its, n, h1, h2, h3⟩
    · rcases h with h | ⟨o, h⟩
      · exact .base (.tup h)
      · exact .fTuple h
    · exact .kTuple h1 h2
  cases r with
  | non => cases h; exact ⟨.base .non, fun n e => by cases e; decide⟩
  | bl b => cases h; exact ⟨.base (.bl b), fun n e => by cases e; decide⟩
  | int i => cases h; exact ⟨.base (.int i), fun n e => by cases e; decide⟩
  | str i => cases h; exact ⟨.base (.str i), fun n e => by cases e; decide⟩
  | ty n => cases h
  | glo x => cases h
  | tup h1 h2 => cases h; exact ⟨lk (Rep.sqT (P := fun _ => none) B h1), fun n e => by cases e; decide⟩
  | lst h1 h2 => cases h; exact ⟨.base (.lst (B.lstAt h1)), fun n e => by cases e; decide⟩
  | dic h1 h2 h3 =>
    cases h
    refine ⟨?_, fun n e => by cases e; decide⟩
    rcases B.dicAt h1 with h | ⟨o, h⟩
    · exact .base (.dK h)
    · exact .fDict h
  | scr h1 => cases h
  | xob _ _ _ _ => cases h
  | xob0 _ => cases h
  | lam _ _ _ _ => cases h
  | ptr hk =>
    rename_i a k
    unfold tyD at h
    dsimp only at h
    obtain ⟨P, q, BB⟩ := id B
    split at h
    · rename_i xs e
      cases h
      obtain ⟨a', h1, vs, h2, h3⟩ := BB.h.st k _ e
      rw [hk] at h1; cases h1
      exact ⟨.base (.lst (BB.h.mh _ _ h2)), fun n e => by cases e; decide⟩
    · rename_i xs e
      cases h
      obtain ⟨a', h1, vs, h2, h3⟩ := BB.h.st k _ e
      rw [hk] at h1; cases h1
      exact ⟨.base (.dK (BB.h.mh _ _ h2)), fun n e => by cases e; decide⟩
    · rename_i xs e
      cases h
      obtain ⟨a', h1, vs, h2, h3⟩ := BB.h.st k _ e
      rw [hk] at h1; cases h1
      exact ⟨.base (.dT (BB.h.mh _ _ h2)), fun n e => by cases e; decide⟩
    · rename_i c fs e
      cases h
      obtain ⟨a', h1, dx, vs, h2, h3⟩ := BB.h.st k _ e
      rw [hk] at h1; cases h1
      have c0 := hc c rfl
      exact ⟨.base (.ins (BB.h.mh _ _ h2) c0.cl c0.ha c0.hn c0.htk c0.hm), fun n e => by cases e⟩
    · cases h
theorem cv_isi {cd : D → Bool} {subs : String → Bool} {own : List (Str × Bool)} {u : Value} (hcd : ∀ c, cd c = true → (∃ n, c = .ty n ∧ u = .type n) ∨ ∃ x, c = .glo x ∧ u = .ref (ga X.K x))
    (hs : ∀ n, n ∈ tyNames → PySem.W.kitOne X.K (.type n) u = some (subs n)) (ho : ∀ p ∈ own, ClsI X.K p.1 ∧ PySem.W.kitOne X.K (.ref (ga X.K p.1)) u = some p.2) : CallV X W (.builtin "isinstance") (isiM cd subs own) := by
  intro xs as σ H F P0 Mm ρ b Q B r h
  refine ⟨_, call_isi, ?_⟩
  unfold isiM at h
  split at h
  · rename_i x c
    split at h
    · rename_i hc
      cases r with
      | cons rx rr =>
        cases rr with
        | cons rc rr =>
          cases rr
          have hC : ∀ v, Rep X.K F ρ v c → ClsV v u := by
            intro v rv
            rcases hcd c hc with ⟨n, rfl, rfl⟩ | ⟨y, rfl, rfl⟩
            · cases rv; exact .ty n
            · cases rv; exact .own _
          cases ht : tyD x b.g with
          | none => rw [ht] at h; exact h.elim
          | some t =>
            rw [ht] at h
            cases t with
            | inl n =>
              obtain ⟨t1, t2⟩ := tyX_of B rx ht fun c e => nomatch e
              exact ⟨_, _, _, u, _, rfl, hC _ rc, t1, hs n (t2 n rfl), h.now B (.bl _)⟩
            | inr y =>
              dsimp only at h
              split at h
              · rename_i k ek
                have hm : (y, k) ∈ own := by
                  clear h ht ho
                  induction own with
                  | nil => cases ek
                  | cons p own ih =>
                    obtain ⟨p1, p2⟩ := p
                    rw [List.lookup_cons] at ek
                    split at ek
                    · rename_i he
                      have := eq_of_beq he
                      cases ek; subst this
                      exact List.mem_cons_self ..
                    · exact List.mem_cons_of_mem _ (ih ek)
                obtain ⟨c1, c2⟩ := ho _ hm
                obtain ⟨t1, _⟩ := tyX_of B rx ht fun c e => by cases e; exact c1
                exact ⟨_, _, _, u, _, rfl, hC _ rc, t1, c2, h.now B (.bl _)⟩
              · exact h.elim
    · exact h.elim
  · exact h.elim
/-! ### {k: v, ..} -/
def seqL : List (M D) → M (List D)
  | [] => M.ret []
  | m :: ms => consM m (seqL ms)
def pairT (fc : FrC) (K : PySem.W.Frag) (W : WX) : List Key → List (M D) → List (TE × TE)
  | k :: ks, m :: ms => (fun σ H Q => Q (kV k) H, tE (fc := fc) K W m) :: pairT fc K W ks ms
  | _, _ => []
theorem pp_nil : PPs X pos [] [] (pairT (fcOf X) X.K W [] []) := pps_nil
theorem pp_str {k : Str} {pk : Pos} {j : Nat} {v : Expr} {ks : List (Option Expr)} {vs : List Expr} {qs : List Key} {m : M D} {ms : List (M D)} (hv : SE X W v m) (hr : PPs X pos ks vs (pairT (fcOf X) X.K W qs ms)) :
    PPs X pos (some (.Constant (.str k) j pk) :: ks) (v :: vs) (pairT (fcOf X) X.K W (.inr k :: qs) (m :: ms)) := pps_cons pe_str hv hr
theorem pp_int {k : Int} {pk : Pos} {j : Nat} {v : Expr} {ks : List (Option Expr)} {vs : List Expr} {qs : List Key} {m : M D} {ms : List (M D)} (hv : SE X W v m) (hr : PPs X pos ks vs (pairT (fcOf X) X.K W qs ms)) :
    PPs X pos (some (.Constant (.int k) j pk) :: ks) (v :: vs) (pairT (fcOf X) X.K W (.inl k :: qs) (m :: ms)) := pps_cons pe_int hv hr
theorem pairs_of {ks : List Key} {ms : List (M D)} : ∀ {F Mm H : Hp} {ρ : Rho} {b : BSt} {Q : List V → Hp → Prop} {R : List (V × V) → Hp → Prop}, ks.length = ms.length → BRel K F P0 Mm ρ b σ H → Post (RepAll K) K W P0 F ρ σ Q (seqL ms b) →
    (∀ vs H2, vs.length = ks.length → Q vs H2 → R ((ks.zip vs).map fun kv => (kV kv.1, kv.2)) H2) → tPairs (pairT fc K W ks ms) σ H R := by
  induction ms generalizing ks with
  | nil =>
    intro F Mm H ρ b Q R hl B h hR
    cases ks with
    | nil => exact hR [] H rfl (h.now B .nil)
    | cons _ _ => cases hl
  | cons m ms ih =>
    intro F Mm H ρ b Q R hl B h hR
    cases ks with
    | nil => cases hl
    | cons k ks =>
      have hl' : ks.length = ms.length := Nat.succ.inj hl
      refine tM_then B h fun x d F1 M1 r1 b1 H1 l1 e1 B1 q1 h1 => ?_
      have h2 : Post (RepAll K) K W P0 F1 r1 σ (fun vs H2 => Q (x :: vs) H2) (seqL ms b1) := by
        unfold M.bind at h1
        cases es : seqL ms b1 with
        | ok a b' =>
          rw [es] at h1
          exact fun y F' M' ρ' H' l r B' q => h1 (x :: y) F' M' ρ' H' l r B' (.cons (q1.mono l r) q)
        | exc y b' => rw [es] at h1; exact h1
        | fail => rw [es] at h1; exact h1.elim
      exact ih (ks := ks) hl' B1 h2 fun vs H2 a1 a3 => hR (x :: vs) H2 (congrArg Nat.succ a1) a3
def mergeD (kvs : List (Key × D)) (more : List (Key × D)) : List (Key × D) := more.foldl (fun acc kv => dput acc kv.1 kv.2) kvs
theorem merge_kv : ∀ {ks : List Key} {vs : List V} {ds : List D} {kvs : List (Key × V)} {kds : List (Key × D)}, RepAll K F ρ vs ds → kvs.map (·.1) = kds.map (·.1) → RepAll K F ρ (kvs.map (·.2)) (kds.map (·.2)) →
    (mergeK kvs (ks.zip vs)).map (·.1) = (mergeD kds (ks.zip ds)).map (·.1) ∧ RepAll K F ρ ((mergeK kvs (ks.zip vs)).map (·.2)) ((mergeD kds (ks.zip ds)).map (·.2))
  | [], _, _, _, _, _, h1, h2 => ⟨by simpa [mergeK, mergeD] using h1, by simpa [mergeK, mergeD] using h2⟩
  | _ :: _, [], [], _, _, _, h1, h2 => ⟨by simpa [mergeK, mergeD] using h1, by simpa [mergeK, mergeD] using h2⟩
  | k :: ks, v :: vs, d :: ds, kvs, kds, .cons r rr, h1, h2 => by
    obtain ⟨z1, z2⟩ := kv_put (k := k) r h1 h2
    exact merge_kv (ks := ks) rr z1 z2
/-- a fresh object is changed -/
theorem Frs.chgF {p : Addr} {so so' : SO} {u u' : HO} (h : Frs K F P0 Mm ρ bs σ H p so) (hn : ∀ P', P' p = some u' → RepO K F ρ P' p so') (pl : so'.plain = true) : Frs K F P0 Mm ρ bs σ (upd H p u') p so' := by
  obtain ⟨P, q, B, r, pl0, n0, nq⟩ := h
  obtain ⟨w, hw, _⟩ := id r.there
  refine ⟨upd P p u', q, ⟨B.h.setP hw, fun a w e => ?_, B.len, B.qi, fun i s e => ?_⟩, hn _ upd_same, pl, n0, nq⟩
  · have : a ≠ p := fun z => by subst z; rw [n0] at e; cases e
    rw [upd_ne this]; exact B.pp a w e
  · refine (B.sl i s e).mono (Leq.refl _) (Rle.refl _) fun a ea => ⟨ea, fun w z => ?_⟩
    have : a ≠ p := fun z => nq i (by rw [← z]; exact ea)
    rw [upd_ne this]; exact z
def dispN (ks : List Key) (ms : List (M D)) : M SO := M.bind (seqL ms) fun ds => M.ret (.dic (mergeD [] (ks.zip ds)))
theorem sn_disp {keys : List (Option Expr)} {values : List Expr} {ks : List Key} {ms : List (M D)} (h : PPs X pos keys values (pairT (fcOf X) X.K W ks ms)) (hk : ks.length = ms.length := by rfl) (hz : ks.length ≤ 15 := by decide)
    (hall : keys.all (·.isSome) = true := by rfl) (hl : keys.length = values.length := by rfl) (h0 : keys ≠ [] := by exact List.cons_ne_nil _ _) (h15 : keys.length ≤ 15 := by decide) : SN X W (.Dict keys values pos) (dispN ks ms) :=
  SN.of (pe_disp h hall hl h0 h15) fun σ H F P0 Mm ρ b Q B q p hp => by
    have fr : Frs X.K F P0 Mm ρ b σ (upd H p (.dK [])) p (.dic []) := B.fresh (u := .dK []) hp (fun P' h => ⟨[], h, rfl, .nil⟩) rfl
    obtain ⟨u, Bp, ru, n0, pl⟩ := fr.prot
    obtain ⟨z0, z1, z2, z3⟩ := id ru
    have eu : u = .dK [] := by
      obtain ⟨vs, e1, e2, _⟩ := id ru
      cases vs with
      | nil => exact Option.some.inj e1
      | cons _ _ => cases e2
    subst eu
    have q2 : Post (fc := fcOf X) (RepAll X.K) X.K W (upd P0 p (.dK [])) F ρ σ (fun vs H2 => H2 p = some (.dK []) ∧ (vs.length = ks.length → Q (.ref p) (upd H2 p (.dK (mergeK [] (ks.zip vs)))))) (seqL ms b) := by
      unfold dispN M.bind at q
      cases es : seqL ms b with
      | fail => rw [es] at q; exact q.elim
      | exc y b' =>
        rw [es] at q
        intro cls d F' M' ρ' H' l r B' rx
        obtain ⟨P, qq, BB, _, _, _, _⟩ := B'.unprot (ru.monoP l r pl fun w z => z) n0 pl
        exact q cls d F' M' ρ' H' l r ⟨P, qq, BB⟩ rx
      | ok ds b' =>
        rw [es] at q
        intro vs F' M' ρ' H' l r B' rv
        have fr' := B'.unprot (ru.monoP l r pl fun w z => z) n0 pl
        refine ⟨?_, fun _ => ?_⟩
        · obtain ⟨P, qq, BB⟩ := B'
          exact BB.h.ph _ _ (BB.pp _ _ upd_same)
        · obtain ⟨m1, m2⟩ := merge_kv (ks := ks) (kvs := []) (kds := []) rv rfl .nil
          exact q p F' M' ρ' _ l r (fr'.chgF (u := .dK []) (fun P' hP => ⟨_, hP, m1, m2⟩) rfl)
    refine pairs_of hk Bp q2 fun vs H2 hv hq => ⟨hq.1, ks.zip vs, rfl, ?_, hq.2 hv⟩
    rw [List.length_zip, hv, Nat.min_self]; exact hz
theorem sn_disp0 : SN X W (.Dict [] [] pos) (M.ret (.dic [])) :=
  SN.of pe_dnewK fun σ H F P0 Mm ρ b Q B q p hp => q.now B hp (fun P' h => ⟨[], h, rfl, .nil⟩) rfl
def isTyD (n : String) : D → Bool
  | .ty m => decide (m = n)
  | _ => false
def isGloD (x : Str) : D → Bool
  | .glo y => decide (y = x)
  | _ => false
/-- isinstance(x, T), T a built-in type -/
theorem cv_isiT {T : String} {subs : String → Bool} {own : List (Str × Bool)} (hs : ∀ n, n ∈ tyNames → kitB n T = some (subs n) := by decide +kernel) (ho : ∀ p ∈ own, ClsI X.K p.1 ∧ PySem.W.kitOne X.K (.ref (ga X.K p.1)) (.type T) = some p.2) : CallV X W (.builtin "isinstance") (isiM (isTyD T) subs own) :=
  cv_isi (u := .type T) (fun c h => .inl (by
    cases c with
    | ty m => have : m = T := of_decide_eq_true h; subst this; exact ⟨_, rfl, rfl⟩
    | _ => cases h)) (fun n hn => kit_ty (hs n hn)) ho
/-- isinstance(x, C), C a class of the module -/
theorem cv_isiC {C : Str} {own : List (Str × Bool)} (hs : ∀ n, n ∈ tyNames → PySem.W.kitOne X.K (.type n) (.ref (ga X.K C)) = some false) (ho : ∀ p ∈ own, ClsI X.K p.1 ∧ PySem.W.kitOne X.K (.ref (ga X.K p.1)) (.ref (ga X.K C)) = some p.2) : CallV X W (.builtin "isinstance") (isiM (isGloD C) (fun _ => false) own) :=
  cv_isi (u := .ref (ga X.K C)) (fun c h => .inr (by
    cases c with
    | glo m => have : m = C := of_decide_eq_true h; subst this; exact ⟨_, rfl, rfl⟩
    | _ => cases h)) hs ho
end
end L2.VI
/-! VI12: a def's promise from its body; the law's; facts by names. -/
namespace L2.VI
open PySem PySem.Spec PyProof.Rows He

/-- a def: n parameters, sl slots -/
def fnBody (n sl : Nat) (m : M Fl) : FnD := fun ds g => if ds.length = n then (match m ⟨g, ds.map (fun d => some (.val d)) ++ List.replicate (sl - n) none⟩ with
  | .ok .nx b => .ok .non b.g
  | .ok (.ret d) b => .ok d b.g
  | .exc x b => .exc x b.g
  | _ => .fail) else .fail
theorem ar_of {n sl : Nat} {m : M Fl} : Ar (fnBody n sl m) n := fun ds g h => if_neg h
theorem HRel.weak {K : PySem.W.Frag} {F P : Hp} {fc : FrC} {P0 : PX fc} {Mm H : Hp} {ρ : Rho} {g : GSt} (h : HRel K F P Mm ρ g H) (pp : ∀ a u, P0 a = some u → P a = some u) : HRel K F P0 Mm ρ g H := by
  have pn : ∀ a, P a = none → P0 a = none := fun a e => by
    cases q : P0 a with
    | none => rfl
    | some u => have := pp a u q; rw [e] at this; cases this
  exact ⟨h.fh, fun a u e => h.ph a u (pp a u e), h.mh, fun a u e => ⟨pn a (h.fp a u e).1, (h.fp a u e).2⟩, fun a u e => h.pm a u (pp a u e), h.st, h.inj, h.nx, h.rh, h.lk⟩
theorem BRel.weak {K : PySem.W.Frag} {F : Hp} {fc : FrC} {P0 : PX fc} {Mm H : Hp} {ρ : Rho} {b : BSt} {σ : St} (B : BRel K F P0 Mm ρ b σ H) : HRel K F P0 Mm ρ b.g H := by
  obtain ⟨P, q, B⟩ := B
  exact B.h.weak B.pp
theorem BRel.start {fc : FrC} {K : PySem.W.Frag} {F P Mm H : Hp} {ρ : Rho} {g : GSt} {vs : List V} {ds : List D} {N : List Str} (h : HRel K F P Mm ρ g H) (r : RepAll K F ρ vs ds) : BRel (fc := fc) K F P Mm ρ ⟨g, ds.map (fun d => some (.val d)) ++ List.replicate (N.length - ds.length) none⟩ (L2.start N vs) H := by
  refine ⟨P, fun _ => none, h, fun _ _ e => e, ?_, (fun _ _ _ e => nomatch e), fun i s e => ?_⟩
  · unfold L2.start
    simp [r.length]
  · have e1 : (ds.map (fun d => some (Slot.val d)) ++ List.replicate (N.length - ds.length) none)[i]? = some (some s) := e
    by_cases hi : i < ds.length
    · rw [List.getElem?_append_left (by simpa using hi), List.getElem?_map] at e1
      cases ed : ds[i]? with
      | none => rw [ed] at e1; cases e1
      | some d =>
        rw [ed] at e1
        cases e1
        obtain ⟨v, hv, rv⟩ := r.get ed
        refine ⟨v, ?_, rv⟩
        unfold L2.start
        rw [List.getElem?_append_left (by simpa [r.length] using hi), List.getElem?_map, hv]
        rfl
    · rw [List.getElem?_append_right (by simpa using hi), List.getElem?_replicate] at e1
      split at e1 <;> cases e1
/-- THE RULE of a def -/
theorem fn_okV {P : Program} {w : World} {K : PySem.W.Frag} {mg : Str → Option Value} {base : Heap} {x qual : Str} {params : Arguments} {body : List Stmt} {scope : Scope} {dvs : List V} {kws : List (Str × V)} {f : Addr} {fd : FuncData} {N ps : List Str} {k n sl : Nat} {m : M Fl}
    (F : FunD K x qual params body scope dvs kws f fd) (S : FnScope N ps scope) (hn : ps.length = n) (hs : N.length = sl)
    (hb : ∀ (cdv : Value) (A : Around) (outer : List Env) (s : Shared) (H : Hp) (E : XK), Room k (A.deeper (envOfC qual scope s.heap.objs.size f cdv)) → SSs (cxOf (CV P w) P w K mg base N qual scope f cdv A outer s H E) (fun cls d _ H => E cls d H) body m) :
    FnOk P w K mg base (CV P w) (k + 1) f fd ps (spV K n (fnBody n sl m)) := by
  subst hn hs
  refine F.ok S (fun vs H Q E h => h.1) fun cdv A outer s H vs Q E hr h => ⟨_, hb cdv A outer s H E hr, ?_⟩
  obtain ⟨hl, F0, P0, Mm, ρ, g, ds, hR, r, q⟩ := h
  have hd : ds.length = ps.length := r.length.symm.trans hl
  have B := BRel.start (fc := fcOf (cxOf (CV P w) P w K mg base N qual scope f cdv A outer s H E)) (N := N) hR r
  refine ⟨F0, P0, Mm, ρ, _, B, ?_⟩
  unfold fnBody at q
  rw [if_pos hd, ← hd] at q
  generalize m ⟨g, ds.map (fun d => some (Slot.val d)) ++ List.replicate (N.length - ds.length) none⟩ = z at q ⊢
  cases z with
  | fail => exact q.elim
  | exc x b => exact fun cls d σ' F' M' ρ' H' l r' B' rx => q cls d F' M' ρ' H' l r' B'.weak rx
  | ok fl b =>
    cases fl with
    | nx => exact fun σ' F' M' ρ' H' l r' B' => q .non F' M' ρ' H' l r' B'.weak .non
    | ret d => exact fun v σ' F' M' ρ' H' l r' B' rv => q v F' M' ρ' H' l r' B'.weak rv
    | brk => exact q.elim
    | cnt => exact q.elim
/-- the law's own promise at the script's list -/
theorem sp_law {K : PySem.W.Frag} {m : FnD} {H : Hp} {a : Addr} {ns : List Int} (hO : Only H) (hS : SqL K H a (ns.map V.int)) (h : ∃ g', m [.scr ns] ⟨fun _ => none, 0⟩ = .ok (.bl true) g') :
    spV K 1 m [.ref a] H (fun v _ => v = .bl true) (fun _ _ _ => False) := by
  obtain ⟨g', e⟩ := h
  refine ⟨rfl, H, fun _ => none, fun _ => none, rho0, ⟨fun _ => none, 0⟩, [.scr ns], ⟨fun b u eu => ?_, fun _ _ z => (nomatch z), fun _ _ z => (nomatch z), fun _ _ _ => ⟨rfl, rfl⟩, fun _ _ z => (nomatch z), fun _ _ z => (nomatch z), fun _ _ _ z => (nomatch z), fun _ _ => ⟨rfl, rfl⟩, fun _ _ z => (nomatch z), fun _ _ z => (nomatch z)⟩, .cons (.scr hS) .nil, ?_⟩
  · rcases hO b with n | ⟨o, xs, n⟩
    · rw [n] at eu; cases eu
    · rw [n] at eu; cases eu; exact n
  · rw [e]
    intro v F' M' ρ' H' l r hh rv
    cases rv
    rfl
/-! ### a def's function object, by its place -/
def fdA (K : PySem.W.Frag) (a : Addr) : FuncData := match K.lookup a with
  | some ⟨_, _, .func fd, _⟩ => fd
  | _ => default
theorem fdA_of {K : PySem.W.Frag} {x qual : Str} {params : Arguments} {body : List Stmt} {scope : Scope} {dvs : List V} {kws : List (Str × V)} {f : Addr} (h : ∃ fd, FunD K x qual params body scope dvs kws f fd) : FunD K x qual params body scope dvs kws f (fdA K f) := by
  obtain ⟨fd, F⟩ := h
  have e : fdA K f = fd := by
    obtain ⟨oc, od, dV, kV, doc, pm, an, cdv, ct, osl, h1, h2, _⟩ := F.ex
    unfold fdA
    rw [h2]
  rw [e]; exact F
/-- the promise of the def at a place -/
abbrev OkV (P : Program) (w : World) (K : PySem.W.Frag) (mg : Str → Option Value) (base : Heap) (lv : Nat) (f : Addr) (ps : List Str) (m : FnD) : Prop := FnOk P w K mg base (CV P w) lv f (fdA K f) ps (spV K ps.length m)
/-! ### properties -/
/-- the object of a class's property, its getter -/
def pgA (K : PySem.W.Frag) (p : Str × Str) : Addr := match PySem.W.recIn K (ma K (ga K p.1) p.2) "property" with
  | some (.ref g :: _) => g
  | _ => 0
def propB (K : PySem.W.Frag) (p : Str × Str) : Bool := eqO (PySem.W.findIn K (.ref (ga K p.1)) p.2) (some (some (.ref (ma K (ga K p.1) p.2)))) && (eqO (PySem.W.specialIn K (.ref (ma K (ga K p.1) p.2)) "__get__") (some (some (.builtin "property.__get__"))) &&
  (decide (PySem.W.takesIn K (.ref (ma K (ga K p.1) p.2)) = some true) && (match PySem.W.recIn K (ma K (ga K p.1) p.2) "property" with
    | some (.ref _ :: _) => true
    | _ => false)))
theorem propB_ok {K : PySem.W.Frag} {p : Str × Str} (h : propB K p = true) : PropOf K (ga K p.1) p.2 (ma K (ga K p.1) p.2) (pgA K p) := by
  obtain ⟨h1, h⟩ := ba h
  obtain ⟨h2, h⟩ := ba h
  obtain ⟨h3, h4⟩ := ba h
  refine ⟨eqO_ok h1, eqO_ok h2, of_decide_eq_true h3, ?_⟩
  unfold pgA
  split at h4
  · rename_i g rest e
    rw [e]
    exact ⟨rest, rfl⟩
  · cases h4
def fnAt (K : PySem.W.Frag) (a : Addr) : FnW := match K.lookup a with
  | some ⟨_, _, .func fd, _⟩ => some (fd.name, fd.qualname, fd.params, fd.body, fd.scope, fd.globals, fd.closure, fd.builtins)
  | _ => none
/-- a getter: it has no defaults -/
def getB (K : PySem.W.Frag) (a : Addr) (q : Str) : Bool := PySem.W.keepIn K (.ref a) && (match K.lookup a with
  | some ⟨_, _, .func fd, _⟩ => PySem.W.codeIn K fd.code q && (dflB K fd.defaults [] && kwdB K fd.kwdefaults [])
  | _ => false)
theorem getB_ok {K : PySem.W.Frag} {a : Addr} {d : DefD} (e : fnAt K a = d.val) (c : getB K a d.qual = true) : ∃ fd, FunD K d.name d.qual d.params d.body d.scope [] [] a fd := by
  obtain ⟨kp, c2⟩ := ba c
  unfold fnAt at e
  cases q : K.lookup a with
  | none => rw [q] at c2; cases c2
  | some o =>
    obtain ⟨oc, od, dt, osl⟩ := o
    rw [q] at c2 e
    cases dt with
    | func fd =>
      obtain ⟨c3, c4⟩ := ba c2
      obtain ⟨c5, c6⟩ := ba c4
      obtain ⟨nm, qn, pr, bd, sc, gl, cl, dV, kV, doc, pm, an, cd, ct, bn⟩ := fd
      have e2 := Option.some.inj e
      simp only [Prod.mk.injEq] at e2
      obtain ⟨rfl, rfl, rfl, rfl, rfl, rfl, rfl, rfl⟩ := e2
      exact ⟨_, ⟨_, _, _, _, _, _, _, _, _, _, rfl, q, c3, dflB_ok c5, kwdB_ok c6⟩, kp⟩
    | _ => cases c2
end L2.VI
/-! VI13: minus, comparing a store's list, facts of the head. -/
namespace L2.VI
open PySem PySem.Spec PyProof.Rows He
section
variable {X : Cx} {W : WX} {pos : Pos} {a b : Expr} {ma mb : M D}
def negM (m : M D) : M D := M.bind m fun d => match d with
  | .int i => M.ret (.int (-i))
  | _ => M.fail
theorem se_neg (h : SE X W a ma) : SE X W (.UnaryOp .USub a pos) (negM ma) :=
  SE.of (pe_un un_neg h) fun σ H F P0 Mm ρ bs Q B q => tM_then B q fun x d F1 M1 r1 b1 H1 l1 e1 B1 q1 h1 => by
    cases q1 with
    | int i => exact ⟨i, rfl, h1.now B1 (.int _)⟩
    | _ => exact h1.elim
/-! equality: a list of the store may stand on the left -/
def seeD (g : GSt) : D → D
  | .ptr k => (match g.S k with
    | some (.lst xs) => .lst xs
    | _ => .ptr k)
  | d => d
def eqP (a c : D) : M D := fun b => eqD (seeD b.g a) c b
def neP (a c : D) : M D := fun b => neD (seeD b.g a) c b
theorem eqB_see {K : PySem.W.Frag} {F : Hp} {fc : FrC} {P0 : PX fc} {Mm H : Hp} {ρ : Rho} {b : BSt} {σ : St} {x y : V} {a c : D} {k : Bool} (B : BRel K F P0 Mm ρ b σ H) (rx : Rep K F ρ x a) (ry : Rep K F ρ y c) (h : eqB (seeD b.g a) c = some k) :
    (scal x y = true ∧ decide (x = y) = k) ∨ ∃ d e, Dp K H x d ∧ Dp K H y e ∧ SeqAt.shaped d = true ∧ SeqAt.shaped e = true ∧ PyData.eqv d e = k := by
  cases rx with
  | ptr hk =>
    rename_i p j
    unfold seeD at h
    dsimp only at h
    split at h
    · rename_i xs e
      obtain ⟨P, q, BB⟩ := id B
      obtain ⟨a', h1, vs, h2, h3⟩ := BB.h.st j _ e
      rw [hk] at h1; cases h1
      unfold eqB at h
      dsimp only at h
      split at h
      · rename_i d f e1 e2
        split at h
        · rename_i hs
          cases h
          unfold toPy at e1
          cases e3 : toPyAll xs with
          | none => rw [e3] at e1; cases e1
          | some es =>
            rw [e3] at e1; cases e1
            exact .inr ⟨_, _, .lst (SqL.of (BB.h.mh _ _ h2)) (RepAll.dp B h3 e3), ry.dp B e2, hs.1, hs.2, rfl⟩
        · cases h
      · cases h
    · exact eqB_dp B (.ptr hk) ry h
  | non => exact eqB_dp B .non ry h
  | bl i => exact eqB_dp B (.bl i) ry h
  | int i => exact eqB_dp B (.int i) ry h
  | str i => exact eqB_dp B (.str i) ry h
  | ty i => exact eqB_dp B (.ty i) ry h
  | glo i => exact eqB_dp B (.glo i) ry h
  | tup h1 h2 => exact eqB_dp B (.tup h1 h2) ry h
  | lst h1 h2 => exact eqB_dp B (.lst h1 h2) ry h
  | dic h1 h2 h3 => exact eqB_dp B (.dic h1 h2 h3) ry h
  | scr h1 => exact eqB_dp B (.scr h1) ry h
  | xob h1 h2 h3 h4 => exact eqB_dp B (.xob h1 h2 h3 h4) ry h
  | xob0 h1 => exact eqB_dp B (.xob0 h1) ry h
  | lam h1 h2 h3 h4 => exact eqB_dp B (.lam h1 h2 h3 h4) ry h
theorem ov_eqP {k : Nat} (hr : Room k X.A) : OpV X W (compareOp .Eq) eqP := by
  intro x y a c σ H F P0 Mm ρ b Q B rx ry h
  unfold eqP eqD optM M.bind at h
  cases e : eqB (seeD b.g a) c with
  | none => rw [e] at h; exact h.elim
  | some v =>
    rw [e] at h
    rcases eqB_see B rx ry e with ⟨e1, e2⟩ | ⟨d, f, d1, d2, s1, s2, e2⟩
    · exact ⟨_, op_eq, e1, by rw [e2]; exact Post.now h B (.bl _)⟩
    · exact ⟨_, op_eqD hr.units, d, f, d1, d2, s1, s2, by rw [e2]; exact Post.now h B (.bl _)⟩
theorem ov_neP {k : Nat} (hr : Room k X.A) : OpV X W (compareOp .NotEq) neP := by
  intro x y a c σ H F P0 Mm ρ b Q B rx ry h
  unfold neP neD optM M.bind at h
  cases e : eqB (seeD b.g a) c with
  | none => rw [e] at h; exact h.elim
  | some v =>
    rw [e] at h
    rcases eqB_see B rx ry e with ⟨e1, e2⟩ | ⟨d, f, d1, d2, s1, s2, e2⟩
    · exact ⟨_, op_ne, e1, by rw [e2]; exact Post.now h B (.bl _)⟩
    · exact ⟨_, op_neD hr.units, d, f, d1, d2, s1, s2, by rw [e2]; exact Post.now h B (.bl _)⟩
end
/-! ### the head: defs by names, getters, own facts -/
abbrev AlV : Type := AlD × (Bool × List FnW)
abbrev Gets : Type := List ((Str × Str) × DefD)
def obsV (fa : List Fa) (fn : List DefD) (gs : Gets) (ex : PySem.W.Frag → Bool) (K : PySem.W.Frag) : AlV :=
  (obsD fa fn K, (ex K && gs.all fun q => propB K q.1 && getB K (pgA K q.1) q.2.qual, gs.map fun q => fnAt K (pgA K q.1)))
def valV' (fn : List DefD) (gs : Gets) : AlV := (valD fn, (true, gs.map fun q => q.2.val))
def SaysV (fa : List Fa) (fn : List DefD) (gs : Gets) (ex : PySem.W.Frag → Bool) (K : PySem.W.Frag) : Prop := obsV fa fn gs ex K = valV' fn gs
def obsVG (n : Nat) (fa : List Fa) (fn : List DefD) (gs : Gets) (ex : PySem.W.Frag → Bool) (g : Addr → Option Obj) : AlV := obsV fa fn gs ex (frG g (asD g n))
def hookV (n : Nat) (fa : List Fa) (fn : List DefD) (gs : Gets) (ex : PySem.W.Frag → Bool) : PySem.W.Hook where
  α := AlV
  obs := fun s => obsVG n fa fn gs ex s.heap.get?
  val := fun _ => valV' fn gs
  says := fun _ h => ∃ K : PySem.W.Frag, K.In h ∧ SaysV fa fn gs ex K
  of := fun _ _ e => ⟨_, frG_in, e⟩
  keeps := fun _ _ _ ⟨K, hK, c⟩ k => ⟨K, PySem.W.Frag.In.keeps hK k, c⟩
theorem obsVG_eq {n : Nat} {fa : List Fa} {fn : List DefD} {gs : Gets} {ex : PySem.W.Frag → Bool} {g : Addr → Option Obj} {s : Shared} (h : ∀ a, g a = s.heap.get? a) : obsVG n fa fn gs ex g = (hookV n fa fn gs ex).obs s := by
  have e : g = s.heap.get? := funext h
  rw [e] <;> rfl
section
variable {fa : List Fa} {fn : List DefD} {gs : Gets} {ex : PySem.W.Frag → Bool} {K : PySem.W.Frag}
theorem SaysV.d (c : SaysV fa fn gs ex K) : SaysD fa fn K := congrArg (fun z : AlV => z.1) c
theorem SaysV.more (c : SaysV fa fn gs ex K) : ex K = true := (ba (congrArg (fun z : AlV => z.2.1) c)).1
theorem SaysV.get (c : SaysV fa fn gs ex K) (i : Nat) {p : Str × Str} {d : DefD} (h : gs[i]? = some (p, d) := by rfl) :
    PropOf K (ga K p.1) p.2 (ma K (ga K p.1) p.2) (pgA K p) ∧ FunD K d.name d.qual d.params d.body d.scope [] [] (pgA K p) (fdA K (pgA K p)) := by
  have c2 := (ba (congrArg (fun z : AlV => z.2.1) c)).2
  have e : gs.map (fun q => fnAt K (pgA K q.1)) = gs.map fun q => q.2.val := congrArg (fun z : AlV => z.2.2) c
  have e2 : (gs.map fun q => fnAt K (pgA K q.1))[i]? = (gs.map fun q => q.2.val)[i]? := by rw [e]
  rw [List.getElem?_map, List.getElem?_map, h] at e2
  obtain ⟨c3, c4⟩ := ba (List.all_eq_true.mp c2 (p, d) (List.mem_of_getElem? h))
  exact ⟨propB_ok c3, fdA_of (getB_ok (Option.some.inj e2) c4)⟩
theorem SaysV.fn_ (c : SaysV fa fn gs ex K) (i : Nat) {d : DefD} (h : fn[i]? = some d := by rfl) : FunD K d.name d.qual d.params d.body d.scope (d.dvs K) (d.kws K) (fAd K d.at_) (fdA K (fAd K d.at_)) := fdA_of (c.d.def_ i h)
end
/-! own checks -/
def exAll (l : List (PySem.W.Frag → Bool)) (K : PySem.W.Frag) : Bool := l.all fun f => f K
theorem exAt {l : List (PySem.W.Frag → Bool)} {K : PySem.W.Frag} (h : exAll l K = true) (i : Nat) {f : PySem.W.Frag → Bool} (hi : l[i]? = some f := by rfl) : f K = true := List.all_eq_true.mp h f (List.mem_of_getElem? hi)
def clsIB (c : Str) (K : PySem.W.Frag) : Bool := eqO (PySem.W.findIn K (.ref (ga K c)) "__class__") (some (some (.builtin "object.__class__"))) && (eqO (PySem.W.specialIn K (.builtin "object.__class__") "__get__") (some (some (.builtin "getset_descriptor.__get__"))) &&
  (decide (PySem.W.takesIn K (.builtin "object.__class__") = some true) && decide (PySem.W.mroIn K (ga K c) (.type "object") = some true)))
theorem clsIB_ok {c : Str} {K : PySem.W.Frag} (cl : Cls K (ga K c)) (h : clsIB c K = true) : ClsI K c := by
  obtain ⟨h1, h⟩ := ba h
  obtain ⟨h2, h⟩ := ba h
  obtain ⟨h3, h4⟩ := ba h
  exact ⟨cl, eqO_ok h1, eqO_ok h2, of_decide_eq_true h3, of_decide_eq_true h4⟩
/-- no built-in value is an instance of the class -/
def kitsB (C : Str) (K : PySem.W.Frag) : Bool := tyNames.all fun n => decide (PySem.W.kitOne K (.type n) (.ref (ga K C)) = some false)
theorem kitsB_ok {C : Str} {K : PySem.W.Frag} (h : kitsB C K = true) : ∀ n, n ∈ tyNames → PySem.W.kitOne K (.type n) (.ref (ga K C)) = some false := fun n hn => of_decide_eq_true (List.all_eq_true.mp h n hn)
def kit1B (c : Str) (t : String ⊕ Str) (r : Bool) (K : PySem.W.Frag) : Bool := decide (PySem.W.kitOne K (.ref (ga K c)) (tyVal K t) = some r)
theorem kit1B_ok {c : Str} {t : String ⊕ Str} {r : Bool} {K : PySem.W.Frag} (h : kit1B c t r K = true) : PySem.W.kitOne K (.ref (ga K c)) (tyVal K t) = some r := of_decide_eq_true h
/-! short words of a walk -/
def mkM (c : Str) (m : FnD) (j nk : Nat) (dfl : List D) (idx : List Nat) (mas mks : M (List D)) : M D := M.bind mas fun zs => M.bind mks fun ws => guardM (zs.length = j ∧ ws.length = nk) (makeG c m idx (zs ++ (ws ++ dfl)))
def mtM (c mn : Str) (m : FnD) (j nk : Nat) (dfl : List D) (idx : List Nat) (mo : M D) (mas mks : M (List D)) : M D := selfM c mn mo fun d => M.bind mas fun zs => M.bind mks fun ws => guardM (zs.length = j ∧ ws.length = nk) (callF m (kperm idx (d :: zs ++ (ws ++ dfl))))
theorem pvv {X : Cx} (i : Nat) {x : Str} {pos : Pos} (hN : X.N[i]? = some x := by rfl) (hv : Vis X.env.scope x := by first | exact Or.inl rfl | exact Or.inr (Or.inl rfl) | exact Or.inr (Or.inr rfl)) (hd : (x == ("__debug__" : Str)) = false := by decide)
    (hcd : (x == ("__classdict__" : Str)) = false := by decide) : PE X (.Name x pos) (tVar i) := pe_var hN hv hd hcd
theorem hu_of {k : Nat} {A : Around} (r : Room k A) : A.units + 1 < cLine := by have := r.un; omega
end L2.VI
/-! VI14: a name takes a new list that a comprehension makes. -/
namespace L2.VI
open PySem PySem.Spec PyProof.Rows He
section
variable {X : Cx} {W : WX} {K : PySem.W.Frag} {F : Hp} {fc : FrC} {P0 : PX fc} {Mm H : Hp} {ρ : Rho} {bs : BSt} {σ : St}
/-- a new object goes to the slot i -/
def SNs (X : Cx) (W : WX) (i : Nat) (st : Stmt) (m : M SO) : Prop := PS X st (fun D σ H => tF (fc := fcOf X) X.K W m σ H fun v H1 => D.nx (σ.set i (some v)) H1)
theorem SNs.own {i : Nat} {st : Stmt} {m : M SO} (h : SNs X W i st m) : SS X W st (M.bind m (setO i)) :=
  SS.of h fun σ H F P0 Mm ρ b D B q => sM_thenF B q fun p so F1 M1 r1 b1 H1 l1 e1 B1 h1 => h1.nxt (B1.setO i)
theorem bind_assoc' {α β γ : Type} (m : M α) (f : α → M β) (g : β → M γ) : M.bind (M.bind m f) g = M.bind m fun a => M.bind (f a) g := by
  funext b
  unfold M.bind
  cases m b <;> rfl
theorem SNs.frz {i : Nat} {st : Stmt} {m : M SO} (h : SNs X W i st m) : SS X W st (M.bind (frzM m) (setV i)) :=
  SS.of h fun σ H F P0 Mm ρ b D B q => by
    unfold frzM at q
    rw [bind_assoc'] at q
    refine sM_thenF B q fun p so F1 M1 r1 b1 H1 l1 e1 B1 h1 => ?_
    obtain ⟨F2, u, l2, e2, B2, rr⟩ := B1.freeze
    obtain ⟨d, ed, h2⟩ := PostS.opt h1
    exact (h2.mono l2 (Rle.refl _)).nxt (B2.setV i (rr.rep ed))
theorem SNs.new {i : Nat} {st : Stmt} {m : M SO} (h : SNs X W i st m) : SS X W st (M.bind (newM m) (setV i)) :=
  SS.of h fun σ H F P0 Mm ρ b D B q => by
    unfold newM at q
    rw [bind_assoc'] at q
    refine sM_thenF B q fun p so F1 M1 r1 b1 H1 l1 e1 B1 h1 => ?_
    obtain ⟨M2, r2, rl, B2, rr⟩ := B1.store
    exact PostS.nxt (W := W) (PostS.mono h1 (Leq.refl _) rl) (B2.setV i rr)
theorem sns_lc {i : Nat} {y : Str} {py pos spos : Pos} {tg elt iter : Expr} {ifs : List Expr} {scope : Scope} {own : List (Str × Nat)} {mi : M (List D)} {g : TgM} {mt : M Bool} {me : M D} (hN : X.N.Nodup) (hi : SI X W tg iter mi) (ok : BlkOk X.N X.env.scope scope own)
    (hg : ∀ (s : Shared) (H : Hp) (C : Addr) (cl : List (Str × Addr)) (fp : List Addr), SG (X.blk s H scope (compEnvC scope cl C X.env) fp) (own.map (·.2)) tg g) (ht : ∀ (s : Shared) (H : Hp) (C : Addr) (cl : List (Str × Addr)) (fp : List Addr), STs (X.blk s H scope (compEnvC scope cl C X.env) fp) W0 ifs mt)
    (he : ∀ (s : Shared) (H : Hp) (C : Addr) (cl : List (Str × Addr)) (fp : List Addr), SE (X.blk s H scope (compEnvC scope cl C X.env) fp) W0 elt me) (hc : X.calm = true := by rfl) (hy : X.N[i]? = some y := by rfl) (hyl : X.env.scope.names.lookup y = some .local := by rfl) (hk : X.env.scope.kind = .function := by rfl)
    (hl : (py.line == pos.line) = true := by rfl) (ha : (scope.names.any fun (n, k) => n == y && (k == .local || k == .cell)) = false := by rfl)
    (hs : ∀ x, foldedSetIterable iter X.env x = pure x := by intro _; rfl) : SNs X W i (.Assign [.Name y py] (.ListComp elt [⟨tg, iter, ifs, 0⟩] scope pos) spos) (lcN mi g mt me (own.map (·.2))) := by
  have h := ps_setLc (i := i) (y := y) (py := py) (pos := pos) (spos := spos) (g := tG (fc := fcOf X) X.K (own.map fun (x : Str × Nat) => x.2) g) (tt := tT (fc := fcOf X) X.K W0 mt) (te := tE (fc := fcOf X) X.K W0 me) hc hN hy hyl (sw_true hk hyl hl ha) hi ok hg ht he hs
  exact ⟨fun pins s σ H D I ⟨F, P0, Mm, ρ, b, B, q⟩ => h.run pins s σ H D I (tlc_of B q)⟩
end
end L2.VI
/-! VI15: the law's end over VI. -/
namespace L2.VI
open PySem PySem.Spec PyProof.Rows He
/-- what is wanted of the law's def at a world: its function, its arguments' binding, its answer at a script, its promise -/
def LawV (l : PySem.W.OpenLaw) (wo : World) (lv n : Nat) (x : Str) (gm : Str → Option Value) (af : Addr) (K : PySem.W.Frag) (law : FnD) : Prop :=
  ∃ fd : FuncData, (∀ (t : Shared) (u : Value), BindsTo t fd ⟨[u], []⟩ [(x, u)]) ∧ (∀ ns : List Int, ns.length ≤ n → ∃ g', law [.scr ns] ⟨fun _ => none, 0⟩ = .ok (.bl true) g') ∧
    ∀ bs : Heap, K.In bs → bs.Ns mainGlobals gm → FnOk l.prog wo K gm bs (CV l.prog wo) lv af fd [x] (spV K 1 law)
theorem walkV {l : PySem.W.OpenLaw} {n lv : Nat} {vw : Program} {ls : List Str} {XP : (Str → Option Value) → Heap → Prop} {YP : World → Heap → Prop} {d : DefRec} {x : Str} {law : FnD} (hn : l.most = some n) (hz : n ≤ sizeLine) (hd : d.params.defaults = []) (hr : Room lv callerA)
    (hF : ∀ (wo : World) (gm : Str → Option Value) (af : Addr) (hp : Heap), YP wo hp → hp.Ns mainGlobals gm → gm d.name = some (.ref af) → ∃ K : PySem.W.Frag, K.In hp ∧ LawV l wo lv n x gm af K law) :
    PySem.W.WalkO vw ls XP YP l.row.toRowW d [] (fun g us => PySem.call g us) := by
  refine Att.attach_call hn hd ?_
  intro wo t0 t1 gm bm af ob pv cv dc al us is GG YY h1 h2 h3 h4 h5 h6 h7 h8
  obtain ⟨K, hK, fd, b, e, f⟩ := hF wo gm af _ YY GG.T.g h4
  have cx : ∀ (H : Hp) (u : Value) (t : Shared), CV l.prog wo [] H t1 (fun _ _ _ => False) u t → False := fun H u t ⟨_, _, _, _, _, _, _, _, _, _, _, _, z⟩ => z
  exact law_call hK GG.T.g GG.T.b GG.T.builtins GG.T.nolimit h8 h5 h6 (Nat.le_trans h7 hz) hr f b (fun H hO hS => sp_law hO hS (e is h7)) cx
end L2.VI
/-! VIE: the shallow words at a state, for simp. -/
namespace L2.VI
open PySem PySem.Spec PyProof.Rows He
theorem ofString_inj {a c : String} : Str.ofString a = Str.ofString c ↔ a = c := by
  refine ⟨fun h => ?_, fun h => by rw [h]⟩
  rw [Str.ofString_eq_toList, Str.ofString_eq_toList] at h
  have h2 : a.toList.map Char.toNat = c.toList.map Char.toNat := by
    have := congrArg (fun s : Str => s.cps.toList) h
    simpa using this
  have inj : ∀ (l m : List Char), l.map Char.toNat = m.map Char.toNat → l = m := by
    intro l
    induction l with
    | nil => intro m e; cases m with
      | nil => rfl
      | cons _ _ => cases e
    | cons x l ih =>
      intro m e
      cases m with
      | nil => cases e
      | cons y m =>
        simp only [List.map_cons, List.cons.injEq] at e
        obtain ⟨e1, e2⟩ := e
        have hxy : x = y := by
          apply Char.ext
          apply UInt32.toNat.inj
          exact e1
        rw [hxy, ih m e2]
  have h3 := inj _ _ h2
  exact String.toList_injective h3
@[simp] theorem ofS_eq {a c : String} : (Str.ofString a = Str.ofString c) = (a = c) := propext ofString_inj
@[simp] theorem ofS_beq {a c : String} : (Str.ofString a == Str.ofString c) = decide (a = c) := by
  by_cases h : a = c
  · subst h; simp
  · have : ¬ Str.ofString a = Str.ofString c := fun e => h (ofString_inj.mp e)
    simp [h, this]
def R.thn {α β : Type} (r : R α) (k : α → M β) : R β := match r with
  | .ok a b => k a b
  | .exc x b => .exc x b
  | .fail => .fail
section
variable {α β : Type} {b : BSt} {g : GSt}
@[simp] theorem thn_ok {a : α} {k : α → M β} : (R.ok a b).thn k = k a b := rfl
@[simp] theorem thn_exc {x : EX} {k : α → M β} : (R.exc x b : R α).thn k = .exc x b := rfl
@[simp] theorem thn_fail {k : α → M β} : (R.fail : R α).thn k = .fail := rfl
@[simp] theorem bind_ap {m : M α} {k : α → M β} : M.bind m k b = (m b).thn k := rfl
@[simp] theorem ret_ap {a : α} : M.ret a b = .ok a b := rfl
@[simp] theorem fail_ap : (M.fail : M α) b = .fail := rfl
@[simp] theorem guardM_ap {c : Prop} [Decidable c] {m : M α} : guardM c m b = if c then m b else .fail := rfl
@[simp] theorem optM_some {a : α} : optM (some a) b = .ok a b := rfl
@[simp] theorem optM_none : optM (none : Option α) b = .fail := rfl
@[simp] theorem seqM_ap {m k : M Fl} : seqM m k b = (m b).thn fun f => match f with
  | .nx => k
  | f => M.ret f := rfl
@[simp] theorem exprM_ap {m : M D} : exprM m b = (m b).thn fun _ => M.ret .nx := rfl
@[simp] theorem retM_ap {m : M D} : retM m b = (m b).thn fun d => M.ret (.ret d) := rfl
@[simp] theorem setV_ap {i : Nat} {d : D} : setV i d b = .ok .nx { b with t := b.t.set i (some (.val d)) } := rfl
@[simp] theorem setO_ap {i : Nat} {so : SO} : setO i so b = .ok .nx { b with t := b.t.set i (some (.own so)) } := rfl
theorem getV_ap {i : Nat} : getV i b = (match b.t[i]? with
  | some (some (.val d)) => .ok d b
  | some (some (.own so)) => (match so.frozen with
    | some d => .ok d { b with t := b.t.set i (some (.val d)) }
    | none => .fail)
  | _ => .fail) := rfl
@[simp] theorem getV_val {i : Nat} {t : List (Option Slot)} {d : D} (h : t[i]? = some (some (.val d))) : getV i ⟨g, t⟩ = .ok d ⟨g, t⟩ := by simp [getV_ap, h]
@[simp] theorem getV_lst {i : Nat} {t : List (Option Slot)} {ds : List D} (h : t[i]? = some (some (.own (.lst ds)))) : getV i ⟨g, t⟩ = .ok (.lst ds) ⟨g, t.set i (some (.val (.lst ds)))⟩ := by simp [getV_ap, h, SO.frozen]
@[simp] theorem getV_dic {i : Nat} {t : List (Option Slot)} {ds : List (Key × D)} (h : t[i]? = some (some (.own (.dic ds)))) : getV i ⟨g, t⟩ = .ok (.dic ds) ⟨g, t.set i (some (.val (.dic ds)))⟩ := by simp [getV_ap, h, SO.frozen]
@[simp] theorem bin2_ap {f : D → D → M D} {x y : M D} : bin2 f x y b = (x b).thn fun u => M.bind y fun v => f u v := rfl
@[simp] theorem isB_ap {m : M D} : isB m b = (m b).thn fun d => match d with
  | .bl c => M.ret c
  | _ => M.fail := rfl
@[simp] theorem ifM_ap {t : M Bool} {x y : M α} : ifM t x y b = (t b).thn fun c => if c = true then x else y := rfl
@[simp] theorem andB_ap {x y : M Bool} : andB x y b = (x b).thn fun c => if c = true then y else M.ret false := rfl
@[simp] theorem orB_ap {x y : M Bool} : orB x y b = (x b).thn fun c => if c = true then M.ret true else y := rfl
@[simp] theorem notB_ap {x : M Bool} : notB x b = (x b).thn fun c => M.ret (!c) := rfl
@[simp] theorem andD_ap {x y : M D} : andD x y b = (x b).thn fun d => match d with
  | .bl true => y
  | .bl false => M.ret (.bl false)
  | _ => M.fail := by unfold andD; congr 1
@[simp] theorem orD_ap {x y : M D} : orD x y b = (x b).thn fun d => match d with
  | .bl true => M.ret (.bl true)
  | .bl false => y
  | _ => M.fail := by unfold orD; congr 1
@[simp] theorem notD_ap {x : M D} : notD x b = (x b).thn fun d => match d with
  | .bl c => M.ret (.bl !c)
  | _ => M.fail := by unfold notD; congr 1
@[simp] theorem consM_ap {a : M D} {r : M (List D)} : consM a r b = (a b).thn fun x => M.bind r fun xs => M.ret (x :: xs) := rfl
@[simp] theorem tupM_ap {ms : M (List D)} : tupM ms b = (ms b).thn fun ds => guardM (ds.length ≤ sizeLine) (M.ret (.tup ds)) := rfl
@[simp] theorem lstM_ap {ms : M (List D)} : lstM ms b = (ms b).thn fun ds => guardM (ds.length ≤ sizeLine) (M.ret (.lst ds)) := rfl
@[simp] theorem lstN_ap {ms : M (List D)} : lstN ms b = (ms b).thn fun ds => guardM (ds.length ≤ sizeLine) (M.ret (.lst ds)) := rfl
@[simp] theorem frzM_ap {m : M SO} : frzM m b = (m b).thn fun so => optM so.frozen := rfl
@[simp] theorem frozen_lst {xs : List D} : (SO.lst xs).frozen = some (.lst xs) := rfl
@[simp] theorem frozen_dic {xs : List (Key × D)} : (SO.dic xs).frozen = some (.dic xs) := rfl
@[simp] theorem newM_ap {m : M SO} : newM m b = (m b).thn fun so => fun b => .ok (.ptr b.g.nx) { b with g := b.g.new so } := rfl
@[simp] theorem asgM_ap {m : M D} {t : TgM} : asgM m t b = (m b).thn (tgM t) := rfl
@[simp] theorem tgM_ap {t : TgM} {d : D} : tgM t d b = (match t d b with
  | some b' => .ok .nx b'
  | none => .fail) := rfl
@[simp] theorem gSet_ap {i : Nat} {d : D} : gSet i d b = some { b with t := b.t.set i (some (.val d)) } := rfl
@[simp] theorem gsNil_ap : gsNil [] b = some b := rfl
@[simp] theorem gsCons_ap {m : TgM} {k : TgsM} {d : D} {ds : List D} : gsCons m k (d :: ds) b = (m d b).bind (k ds) := rfl
@[simp] theorem gTupM_ap {n : Nat} {m : TgsM} {ds : List D} : gTupM n m (.tup ds) b = if ds.length = n then m ds b else none := rfl
@[simp] theorem set2_ap {i j : Nat} {ms : M (List D)} : set2 i j ms b = (ms b).thn fun ds => match ds with
  | [a, c] => seqM (setV i a) (setV j c)
  | _ => M.fail := rfl
@[simp] theorem set3_ap {i j l : Nat} {ms : M (List D)} : set3 i j l ms b = (ms b).thn fun ds => match ds with
  | [a, c, d] => seqM (setV i a) (seqM (setV j c) (setV l d))
  | _ => M.fail := rfl
/-! operators -/
@[simp] theorem addD_ii {i j : Int} : addD (.int i) (.int j) b = .ok (.int (i + j)) b := rfl
@[simp] theorem addD_ss {i j : Str} : addD (.str i) (.str j) b = if i.length + j.length ≤ sizeLine then .ok (.str (i ++ j)) b else .fail := rfl
@[simp] theorem addD_ll {i j : List D} : addD (.lst i) (.lst j) b = if i.length + j.length ≤ sizeLine then .ok (.lst (i ++ j)) b else .fail := rfl
@[simp] theorem subD_ii {i j : Int} : subD (.int i) (.int j) b = .ok (.int (i - j)) b := rfl
@[simp] theorem mulD_ii {i j : Int} : mulD (.int i) (.int j) b = if small64 i ∨ small64 j then .ok (.int (i * j)) b else .fail := rfl
@[simp] theorem fdivD_ii {i j : Int} : fdivD (.int i) (.int j) b = if 0 < j ∧ j < 1073741824 then .ok (.int (i / j)) b else .fail := rfl
@[simp] theorem modD_ii {i j : Int} : modD (.int i) (.int j) b = if 0 < j then .ok (.int (i % j)) b else .fail := rfl
@[simp] theorem powD_ii {i j : Int} : powD (.int i) (.int j) b = if 0 ≤ j ∧ j ≤ 1000000 ∧ i.natAbs < 2 ^ 64 then .ok (.int (i ^ j.toNat)) b else .fail := rfl
@[simp] theorem ltD_ii {i j : Int} : ltD (.int i) (.int j) b = .ok (.bl (decide (i < j))) b := rfl
@[simp] theorem leD_ii {i j : Int} : leD (.int i) (.int j) b = .ok (.bl (decide (i ≤ j))) b := rfl
@[simp] theorem gtD_ii {i j : Int} : gtD (.int i) (.int j) b = .ok (.bl (decide (i > j))) b := rfl
@[simp] theorem geD_ii {i j : Int} : geD (.int i) (.int j) b = .ok (.bl (decide (i ≥ j))) b := rfl
@[simp] theorem isND_n {d : D} : isND d .non b = .ok (.bl d.isNon) b := rfl
@[simp] theorem notND_n {d : D} : notND d .non b = .ok (.bl (!d.isNon)) b := rfl
@[simp] theorem isNon_non : D.non.isNon = true := rfl
@[simp] theorem isNon_int {i : Int} : (D.int i).isNon = false := rfl
@[simp] theorem isNon_bl {i : Bool} : (D.bl i).isNon = false := rfl
@[simp] theorem isNon_str {i : Str} : (D.str i).isNon = false := rfl
@[simp] theorem isNon_lst {i : List D} : (D.lst i).isNon = false := rfl
@[simp] theorem isNon_tup {i : List D} : (D.tup i).isNon = false := rfl
@[simp] theorem isNon_ptr {i : Nat} : (D.ptr i).isNon = false := rfl
theorem eqD_ap {x y : D} : eqD x y b = (match eqB x y with
  | some k => .ok (.bl k) b
  | none => .fail) := by unfold eqD M.bind; cases eqB x y <;> rfl
theorem neD_ap {x y : D} : neD x y b = (match eqB x y with
  | some k => .ok (.bl (!k)) b
  | none => .fail) := by unfold neD M.bind; cases eqB x y <;> rfl
@[simp] theorem eqD_ii {i j : Int} : eqD (.int i) (.int j) b = .ok (.bl (decide (i = j))) b := rfl
@[simp] theorem neD_ii {i j : Int} : neD (.int i) (.int j) b = .ok (.bl (!decide (i = j))) b := rfl
@[simp] theorem eqD_ss {i j : Str} : eqD (.str i) (.str j) b = .ok (.bl (decide (i = j))) b := rfl
@[simp] theorem neD_ss {i j : Str} : neD (.str i) (.str j) b = .ok (.bl (!decide (i = j))) b := rfl
@[simp] theorem negM_ap {m : M D} : negM m b = (m b).thn fun d => match d with
  | .int i => M.ret (.int (-i))
  | _ => M.fail := rfl
theorem chainD_ap {f h : D → D → M D} {x y z : M D} : chainD f h x y z b = (x b).thn fun u => M.bind y fun v => M.bind (f u v) fun k => match k with
  | .bl true => M.bind z fun w => h v w
  | .bl false => M.ret (.bl false)
  | _ => M.fail := by unfold chainD; congr 1
/-! calls -/
@[simp] theorem callF_ap {m : FnD} {ds : List D} : callF m ds b = (match m ds b.g with
  | .ok d g' => .ok d { b with g := g' }
  | .exc x g' => .exc x { b with g := g' }
  | .fail => .fail) := rfl
@[simp] theorem callN_ap {m : FnD} {ds : List D} : callN m ds b = (match m ds b.g with
  | .ok d g' => .ok d { b with g := g' }
  | _ => .fail) := by unfold callN; cases m ds b.g <;> rfl
def R.out : R Fl → GR
  | .ok .nx b => .ok .non b.g
  | .ok (.ret d) b => .ok d b.g
  | .exc x b => .exc x b.g
  | _ => .fail
@[simp] theorem out_nx : (R.ok Fl.nx b).out = .ok .non b.g := rfl
@[simp] theorem out_ret {d : D} : (R.ok (Fl.ret d) b).out = .ok d b.g := rfl
@[simp] theorem out_exc {x : EX} : (R.exc x b : R Fl).out = .exc x b.g := rfl
@[simp] theorem out_fail : (R.fail : R Fl).out = .fail := rfl
@[simp] theorem out_brk : (R.ok Fl.brk b).out = .fail := rfl
@[simp] theorem out_cnt : (R.ok Fl.cnt b).out = .fail := rfl
@[simp] theorem fnBody_ap {n sl : Nat} {m : M Fl} {ds : List D} : fnBody n sl m ds g = if ds.length = n then (m ⟨g, ds.map (fun d => some (.val d)) ++ List.replicate (sl - n) none⟩).out else .fail := by
  unfold fnBody
  split
  · generalize m ⟨g, ds.map (fun d => some (.val d)) ++ List.replicate (sl - n) none⟩ = z
    cases z with
    | ok a b => cases a <;> rfl
    | exc x b => rfl
    | fail => rfl
  · rfl
@[simp] theorem argsK_ap {j nk : Nat} {dfl : List D} {idx : List Nat} {mas mks : M (List D)} {k : List D → M D} : argsK j nk dfl idx mas mks k b = (mas b).thn fun zs => M.bind mks fun ws => guardM (zs.length = j ∧ ws.length = nk) (k (kperm idx (zs ++ (ws ++ dfl)))) := rfl
@[simp] theorem mkM_ap {c : Str} {m : FnD} {j nk : Nat} {dfl : List D} {idx : List Nat} {mas mks : M (List D)} : mkM c m j nk dfl idx mas mks b = (mas b).thn fun zs => M.bind mks fun ws => guardM (zs.length = j ∧ ws.length = nk) (makeG c m idx (zs ++ (ws ++ dfl))) := rfl
@[simp] theorem makeG_ap {c : Str} {m : FnD} {idx : List Nat} {rest : List D} : makeG c m idx rest b = (match m (kperm idx (.ptr b.g.nx :: rest)) (b.g.new (.ins c [])) with
  | .ok .non g' => .ok (.ptr b.g.nx) { b with g := g' }
  | .exc x g' => .exc x { b with g := g' }
  | _ => .fail) := by unfold makeG; rfl
@[simp] theorem fldM_ap {c fn : Str} {mo : M D} : fldM c fn mo b = (mo b).thn fun d => fun b => match d with
  | .ptr k => (match b.g.S k with
    | some (.ins c' fs) => if c' = c then optM (fs.lookup fn) b else .fail
    | _ => .fail)
  | _ => .fail := rfl
@[simp] theorem propM_ap {c : Str} {m : FnD} {mo : M D} : propM c m mo b = (mo b).thn fun d => fun b => if isIns c d b.g = true then callN m [d] b else .fail := rfl
@[simp] theorem mtM_ap {c mn : Str} {m : FnD} {j nk : Nat} {dfl : List D} {idx : List Nat} {mo : M D} {mas mks : M (List D)} : mtM c mn m j nk dfl idx mo mas mks b = selfM c mn mo (fun d => M.bind mas fun zs => M.bind mks fun ws => guardM (zs.length = j ∧ ws.length = nk) (callF m (kperm idx (d :: zs ++ (ws ++ dfl))))) b := rfl
@[simp] theorem selfM_ap {c mn : Str} {mo : M D} {k : D → M D} : selfM c mn mo k b = (mo b).thn fun d => fun b => if isIns c d b.g = true ∧ noField mn d b.g = true then k d b else .fail := rfl
/-! items, stores -/
@[simp] theorem ixD_lst {xs : List D} {i : D} : ixD (.lst xs) i b = optM (ixO (.lst xs) i) b := rfl
@[simp] theorem ixD_tup {xs : List D} {i : D} : ixD (.tup xs) i b = optM (ixO (.lst xs) i) b := rfl
@[simp] theorem ixD_dic {xs : List (Key × D)} {i : D} : ixD (.dic xs) i b = optM (ixO (.dic xs) i) b := rfl
@[simp] theorem ixD_ptr {k : Nat} {i : D} : ixD (.ptr k) i b = (match b.g.S k with
  | some so => optM (ixO so i) b
  | none => .fail) := rfl
@[simp] theorem ixO_lst {xs : List D} {i : Int} : ixO (.lst xs) (.int i) = atI xs i := rfl
@[simp] theorem ixO_dicS {xs : List (Key × D)} {x : Str} : ixO (.dic xs) (.str x) = dlook xs (.inr x) := rfl
@[simp] theorem ixO_dicI {xs : List (Key × D)} {x : Int} : ixO (.dic xs) (.int x) = dlook xs (.inl x) := rfl
@[simp] theorem dlook_nil {κ : Type} [DecidableEq κ] {k : κ} : dlook ([] : List (κ × D)) k = none := rfl
theorem dlook_cons {κ : Type} [DecidableEq κ] {k j : κ} {d : D} {l : List (κ × D)} : dlook ((j, d) :: l) k = if j = k then some d else dlook l k := by
  unfold dlook
  by_cases h : j = k <;> simp [List.find?_cons, h]
@[simp] theorem dlook_hit {κ : Type} [DecidableEq κ] {k : κ} {d : D} {l : List (κ × D)} : dlook ((k, d) :: l) k = some d := by rw [dlook_cons, if_pos rfl]
theorem dlook_miss {κ : Type} [DecidableEq κ] {k j : κ} {d : D} {l : List (κ × D)} (h : decide (j = k) = false) : dlook ((j, d) :: l) k = dlook l k := by rw [dlook_cons, if_neg (of_decide_eq_false h)]
@[simp] theorem ixV_ap {i : Nat} {mb : M D} : ixV i mb b = (match b.t[i]? with
  | some (some _) => (mb b).thn (fun y => fun b => match b.t[i]? with
    | some (some (.val d)) => ixD d y b
    | some (some (.own so)) => optM (ixO so y) b
    | _ => .fail)
  | _ => .fail) := rfl
@[simp] theorem methO_ap {i : Nat} {T : String} {f : MtF} {mas : M (List D)} : methO i T f mas b = (match b.t[i]? with
  | some (some (.own so0)) => if so0.tyn = T then (mas b).thn (fun as => fun b => match b.t[i]? with
    | some (some (.own so)) => (match f so as with
      | some (so', d) => .ok d { b with t := b.t.set i (some (.own so')) }
      | none => .fail)
    | _ => .fail) else .fail
  | _ => .fail) := rfl
@[simp] theorem methP_ap {T : String} {f : MtF} {mo : M D} {mas : M (List D)} : methP T f mo mas b = (mo b).thn fun x => fun b => match x with
  | .ptr k => (match b.g.S k with
    | some so0 => if so0.tyn = T ∧ so0.plain = true then (M.bind mas fun as => fun b => match b.g.S k with
      | some so => (match f so as with
        | some (so', d) => if so.plain = true then .ok d { b with g := b.g.put k so' } else .fail
        | none => .fail)
      | none => .fail) b else .fail
    | none => .fail)
  | _ => .fail := rfl
@[simp] theorem tyn_lst {xs : List D} : (SO.lst xs).tyn = "list" := rfl
@[simp] theorem tyn_dic {xs : List (Key × D)} : (SO.dic xs).tyn = "dict" := rfl
@[simp] theorem plain_lst {xs : List D} : (SO.lst xs).plain = true := rfl
@[simp] theorem plain_dic {xs : List (Key × D)} : (SO.dic xs).plain = true := rfl
@[simp] theorem fAppend_l {xs : List D} {d : D} : fAppend (.lst xs) [d] = if xs.length < sizeLine then some (.lst (xs ++ [d]), .non) else none := rfl
@[simp] theorem isetO_ap {n : Nat} {mi me : M D} : isetO n mi me b = (me b).thn fun v => fun b => match b.t[n]? with
  | some (some (.own _)) => M.bind mi (fun k => fun b => match b.t[n]? with
    | some (some (.own so)) => (match putO so k v with
      | some so' => .ok .nx { b with t := b.t.set n (some (.own so')) }
      | none => .fail)
    | _ => .fail) b
  | _ => .fail := rfl
@[simp] theorem isetP_ap {mo mi me : M D} : isetP mo mi me b = (me b).thn fun v => M.bind mo fun x => M.bind mi fun k => fun b => match x with
  | .ptr kk => (match b.g.S kk with
    | some so => (match putO so k v with
      | some so' => .ok .nx { b with g := b.g.put kk so' }
      | none => .fail)
    | none => .fail)
  | _ => .fail := rfl
@[simp] theorem putO_dicS {kvs : List (Key × D)} {x : Str} {v : D} : putO (.dic kvs) (.str x) v = if kvs.length < sizeLine then some (.dic (dput kvs (.inr x) v)) else none := rfl
@[simp] theorem putO_dicI {kvs : List (Key × D)} {x : Int} {v : D} : putO (.dic kvs) (.int x) v = if kvs.length < sizeLine then some (.dic (dput kvs (.inl x) v)) else none := rfl
@[simp] theorem putO_lst {xs : List D} {i : Int} {v : D} : putO (.lst xs) (.int i) v = (ixN xs.length i).map fun j => .lst (xs.set j v) := rfl
@[simp] theorem fsetM_ap {c f : Str} {mo me : M D} : fsetM c f mo me b = (me b).thn fun v => M.bind mo fun x => fun b => match x with
  | .ptr k => (match b.g.S k with
    | some (.ins c' fs) => if c' = c ∧ fs.length < 1000 then .ok .nx { b with g := b.g.put k (.ins c (dputF f v fs)) } else .fail
    | _ => .fail)
  | _ => .fail := rfl
/-! loops -/
@[simp] theorem itemsM_ap {m : M D} : itemsM m b = (m b).thn fun d => optM (itemsOf d) := rfl
@[simp] theorem itemsOf_lst {xs : List D} : itemsOf (.lst xs) = some xs := rfl
@[simp] theorem itemsOf_tup {xs : List D} : itemsOf (.tup xs) = some xs := rfl
@[simp] theorem itemsOf_scr {xs : List Int} : itemsOf (.scr xs) = some (xs.map .int) := rfl
@[simp] theorem forM_ap {mi : M (List D)} {t : TgM} {body : M Fl} : forM mi t body b = (mi b).thn (forL t body) := rfl
@[simp] theorem rng1M_ap {ms : M (List D)} : rng1M ms b = (ms b).thn fun ds => match ds with
  | [.int j] => guardM (-(2 ^ 62) ≤ j ∧ j < 2 ^ 62) (M.ret (rngL 0 j.toNat))
  | _ => M.fail := rfl
@[simp] theorem rng2M_ap {ms : M (List D)} : rng2M ms b = (ms b).thn fun ds => match ds with
  | [.int i, .int j] => guardM (-(2 ^ 62) ≤ i ∧ i < 2 ^ 62 ∧ -(2 ^ 62) ≤ j ∧ j < 2 ^ 62) (M.ret (rngL i (j - i).toNat))
  | _ => M.fail := rfl
/-! built-ins -/
@[simp] theorem lenD_tup {ds : List D} : lenD [.tup ds] b = .ok (.int ds.length) b := rfl
@[simp] theorem lenD_lst {ds : List D} : lenD [.lst ds] b = .ok (.int ds.length) b := rfl
@[simp] theorem lenD_scr {ds : List Int} : lenD [.scr ds] b = .ok (.int ds.length) b := rfl
@[simp] theorem lenD_str {y : Str} : lenD [.str y] b = if y.length ≤ sizeLine then .ok (.int y.length) b else .fail := rfl
@[simp] theorem lenV_ap {n : Nat} : lenV n b = (match b.t[n]? with
  | some (some (.own (.lst xs))) => .ok (.int xs.length) b
  | some (some (.val d)) => lenD [d] b
  | _ => .fail) := by unfold lenV; rfl
@[simp] theorem min2D_ii {i j : Int} : min2D [.int i, .int j] b = .ok (.int (if j < i then j else i)) b := rfl
@[simp] theorem max2D_ii {i j : Int} : max2D [.int i, .int j] b = .ok (.int (if j > i then j else i)) b := rfl
@[simp] theorem intD_i {i : Int} : intD [.int i] b = .ok (.int i) b := rfl
@[simp] theorem reprD_i {i : Int} : reprD [.int i] b = if i.natAbs.log2 < 1920 then .ok (.str (toString i)) b else .fail := rfl
@[simp] theorem reprD_n : reprD [.non] b = .ok (.str "None") b := rfl
@[simp] theorem listN_ap {ms : M (List D)} : listN ms b = (ms b).thn fun ds => optM (toLst ds) := rfl
@[simp] theorem isiM_ap {cd : D → Bool} {subs : String → Bool} {own : List (Str × Bool)} {x c : D} : isiM cd subs own [x, c] b = if cd c = true then (match tyD x b.g with
    | some (.inl t) => .ok (.bl (subs t)) b
    | some (.inr c) => (match own.lookup c with
      | some k => .ok (.bl k) b
      | none => .fail)
    | none => .fail) else .fail := rfl
@[simp] theorem tyD_int {i : Int} : tyD (.int i) g = some (.inl "int") := rfl
@[simp] theorem tyD_bl {i : Bool} : tyD (.bl i) g = some (.inl "bool") := rfl
@[simp] theorem tyD_non : tyD .non g = some (.inl "NoneType") := rfl
@[simp] theorem tyD_str {i : Str} : tyD (.str i) g = some (.inl "str") := rfl
@[simp] theorem tyD_lst {i : List D} : tyD (.lst i) g = some (.inl "list") := rfl
@[simp] theorem tyD_tup {i : List D} : tyD (.tup i) g = some (.inl "tuple") := rfl
@[simp] theorem isTyD_ty {n m : String} : isTyD n (.ty m) = decide (m = n) := rfl
@[simp] theorem isGloD_glo {n m : Str} : isGloD n (.glo m) = decide (m = n) := rfl
@[simp] theorem dispN_ap {ks : List Key} {ms : List (M D)} : dispN ks ms b = (seqL ms b).thn fun ds => M.ret (.dic (mergeD [] (ks.zip ds))) := rfl
@[simp] theorem seqL_nil : seqL [] b = .ok [] b := rfl
@[simp] theorem seqL_cons {m : M D} {ms : List (M D)} : seqL (m :: ms) b = (m b).thn fun x => M.bind (seqL ms) fun xs => M.ret (x :: xs) := rfl
theorem small64_int {i : Int} : small64 i ↔ -(2 ^ 64) < i ∧ i < 2 ^ 64 := Iff.rfl
end
end L2.VI
/-! VI16: running the shallow functions; the laws' own draws. -/
namespace L2.VI
open PySem PySem.Spec PyProof.Rows He
noncomputable section
namespace H
def m__law_mixed : M Fl := seqM (isetP (getV 0) (M.ret (.str "turn")) (bin2 addD (ixV 0 (M.ret (.str "turn"))) (M.ret (.int 1)))) (seqM (M.bind (M.ret (.int 0)) (setV 1)) (seqM (forM (itemsM (frzM (lstN (consM (M.ret (.int 2147483629)) (consM (M.ret (.int 2147483587)) (consM (M.ret (.int 2147483579)) (consM (M.ret (.int 2147483563)) (consM (M.ret (.int 2147483549)) (consM (M.ret (.int 2147483543)) (M.ret [])))))))))) (gSet 2) (seqM (M.bind (bin2 addD (bin2 mulD (M.ret (.int 104729)) (ixV 0 (M.ret (.str "turn")))) (bin2 fdivD (getV 2) (M.ret (.int 7)))) (setV 3)) (seqM (forM (itemsM (ixV 0 (M.ret (.str "cells")))) (gSet 4) (M.bind (bin2 modD (M.bind (consM (bin2 addD (bin2 mulD (getV 3) (M.ret (.int 48271))) (getV 4)) (M.ret [])) intD) (getV 2)) (setV 3))) (M.bind (bin2 addD (bin2 mulD (getV 1) (M.ret (.int 2147483647))) (bin2 modD (M.bind (consM (bin2 powD (getV 3) (M.ret (.int 5))) (M.ret [])) intD) (getV 2))) (setV 1))))) (retM (getV 1))))
def f__law_mixed : FnD := fnBody 1 5 m__law_mixed
def m__law_take : M Fl := seqM (ifM (isB (bin2 eqD (ixV 0 (M.ret (.str "rest"))) (M.ret (.int 0)))) (isetP (getV 0) (M.ret (.str "rest")) (ifM (isB (bin2 neP (ixV 0 (M.ret (.str "large"))) (frzM (lstN (M.ret []))))) (methP "list" fPopAt (ixV 0 (M.ret (.str "large"))) (consM (M.ret (.int 0)) (M.ret []))) (M.bind (consM (getV 0) (M.ret [])) (callF f__law_mixed)))) (M.ret .nx)) (seqM (M.bind (bin2 modD (M.bind (consM (ixV 0 (M.ret (.str "rest"))) (M.ret [])) intD) (getV 1)) (setV 2)) (seqM (isetP (getV 0) (M.ret (.str "rest")) (bin2 fdivD (ixV 0 (M.ret (.str "rest"))) (getV 1))) (retM (getV 2))))
def f__law_take : FnD := fnBody 2 3 m__law_take
def m__law_pick : M Fl := retM (ixV 1 (M.bind (consM (getV 0) (consM (lenV 1) (M.ret []))) (callF f__law_take)))
def f__law_pick : FnD := fnBody 2 2 m__law_pick
def m__law_is_number : M Fl := retM (andD (M.bind (consM (getV 0) (consM (M.ret (.ty "int")) (M.ret []))) (isiM (isTyD "int") (fun t => t == "int" || t == "bool") [])) (notD (M.bind (consM (getV 0) (consM (M.ret (.ty "bool")) (M.ret []))) (isiM (isTyD "bool") (fun t => t == "bool") []))))
def f__law_is_number : FnD := fnBody 1 1 m__law_is_number
def m__law_begun : M Fl := seqM (M.bind (newM (lcN (itemsM (getV 0)) (gSet 2) (isB (bin2 geD (getV 2) (bin2 powD (M.ret (.int 10)) (M.ret (.int 18))))) (bin2 subD (getV 2) (bin2 powD (M.ret (.int 10)) (M.ret (.int 18)))) [2])) (setV 1)) (retM (newM (dispN [.inr "large", .inr "cells", .inr "rest", .inr "turn"] [getV 1, frzM (listN (consM (getV 0) (M.ret []))), M.ret (.int 0), M.ret (.int 0)])))
def f__law_begun : FnD := fnBody 1 3 m__law_begun
end H
/-! ### loops -/
theorem forL_nil {g : TgM} {body : M Fl} {b : BSt} : forL g body [] b = .ok .nx b := rfl
theorem forL_cons {g : TgM} {body : M Fl} {d : D} {ds : List D} {b : BSt} : forL g body (d :: ds) b = (match g d b with
    | some b1 => turnM body (forL g body ds) b1
    | none => .fail) := rfl
/-- a loop over values: I holds ahead of each turn -/
theorem forL_inv {g : TgM} {body : M Fl} (I : List D → BSt → Prop) (Q : R Fl → Prop) : ∀ {ds : List D} {b : BSt}, I ds b → (∀ b, I [] b → Q (.ok .nx b)) →
    (∀ d ds b, I (d :: ds) b → ∃ b1, g d b = some b1 ∧ ((∃ b2, (body b1 = .ok .nx b2 ∨ body b1 = .ok .cnt b2) ∧ I ds b2) ∨ (∃ v b2, body b1 = .ok (.ret v) b2 ∧ Q (.ok (.ret v) b2)) ∨ ∃ b2, body b1 = .ok .brk b2 ∧ Q (.ok .nx b2))) → Q (forL g body ds b)
  | [], b, h, h0, _ => h0 b h
  | d :: ds, b, h, h0, hs => by
    rw [forL_cons]
    obtain ⟨b1, e1, h1⟩ := hs d ds b h
    rw [e1]
    dsimp only
    unfold turnM
    rcases h1 with ⟨b2, e2 | e2, i⟩ | ⟨v, b2, e2, q⟩ | ⟨b2, e2, q⟩
    · rw [e2]; exact forL_inv I Q i h0 hs
    · rw [e2]; exact forL_inv I Q i h0 hs
    · rw [e2]; exact q
    · rw [e2]; exact q
theorem whileM_inv {c : M Bool} {body : M Fl} (I : Nat → BSt → Prop) (Q : R Fl → Prop)
    (hs : ∀ n b, I n b → (∃ b1, c b = .ok false b1 ∧ Q (.ok .nx b1)) ∨ ∃ b1, c b = .ok true b1 ∧ ((∃ b2, (body b1 = .ok .nx b2 ∨ body b1 = .ok .cnt b2) ∧ ∃ j, j < n ∧ I j b2) ∨ (∃ v b2, body b1 = .ok (.ret v) b2 ∧ Q (.ok (.ret v) b2)) ∨ ∃ b2, body b1 = .ok .brk b2 ∧ Q (.ok .nx b2))) :
    ∀ n b, I n b → Q (whileM c body b) := by
  intro n
  induction n using Nat.strongRecOn with
  | ind n ih =>
    intro b h
    rw [whileM_eq]
    unfold ifM M.bind
    rcases hs n b h with ⟨b1, e1, q⟩ | ⟨b1, e1, h1⟩
    · rw [e1]; exact q
    · rw [e1]
      dsimp only
      rw [if_pos rfl]
      unfold turnM
      rcases h1 with ⟨b2, e2 | e2, j, hj, i⟩ | ⟨v, b2, e2, q⟩ | ⟨b2, e2, q⟩
      · rw [e2]; exact ih j hj b2 i
      · rw [e2]; exact ih j hj b2 i
      · rw [e2]; exact q
      · rw [e2]; exact q
/-! ### a whole list's equality -/
theorem seeD_lst {g : GSt} {k : Nat} {xs : List D} (h : g.S k = some (.lst xs)) : seeD g (.ptr k) = .lst xs := by simp [seeD, h]
theorem toPyAll_ints : ∀ ns : List Int, toPyAll (ns.map D.int) = some (ns.map PyData.int)
  | [] => rfl
  | n :: ns => by simp [toPyAll, toPy, toPyAll_ints ns]
theorem canLay_ints : ∀ ns : List Int, PyData.canLayAll0 (ns.map PyData.int) = true
  | [] => rfl
  | n :: ns => by simp [PyData.canLayAll0, PyData.canLay0, canLay_ints ns]
theorem depth_ints : ∀ ns : List Int, PyData.depthAll (ns.map PyData.int) = 0
  | [] => rfl
  | n :: ns => by simp [PyData.depthAll, PyData.depth, depth_ints ns]
theorem shaped_ints (ns : List Int) : SeqAt.shaped (.list (ns.map PyData.int)) = true := by
  simp [SeqAt.shaped, PyData.canLay0, PyData.depth, canLay_ints, depth_ints]
theorem eqv_nil (ns : List Int) : PyData.eqv (.list (ns.map PyData.int)) (.list []) = ns.isEmpty := by
  cases ns <;> simp [PyData.eqv, PyData.eqvAll]
theorem eqB_nil (ns : List Int) : eqB (.lst (ns.map D.int)) (.lst []) = some ns.isEmpty := by
  have h1 : toPy (.lst (ns.map D.int)) = some (.list (ns.map PyData.int)) := by simp [toPy, toPyAll_ints]
  have h2 : toPy (.lst []) = some (.list []) := by simp [toPy, toPyAll]
  have h3 : SeqAt.shaped (.list []) = true := shaped_ints []
  simp [eqB, h1, h2, h3, shaped_ints, eqv_nil]
/-! ### the draws -/
/-- the draws' state: a dict at ks, the large numbers' list at kl; at most n draws so far -/
structure StOk (g : GSt) (ks kl : Nat) (n : Int) : Prop where
  ne : kl ≠ ks
  at_ : ∃ (L cells : List Int) (rest turn : Int), 0 ≤ turn ∧ turn ≤ n ∧ g.S ks = some (.dic [(.inr "large", .ptr kl), (.inr "cells", .lst (cells.map .int)), (.inr "rest", .int rest), (.inr "turn", .int turn)]) ∧ g.S kl = some (.lst (L.map .int))
/-- what a draw leaves as it was -/
structure Fr (g g' : GSt) (ks kl : Nat) : Prop where
  nx : g'.nx = g.nx
  eq : ∀ j, j ≠ ks → j ≠ kl → g'.S j = g.S j
theorem Fr.refl (g : GSt) (ks kl : Nat) : Fr g g ks kl := ⟨rfl, fun _ _ _ => rfl⟩
theorem Fr.trans {g g1 g2 : GSt} {ks kl : Nat} (a : Fr g g1 ks kl) (b : Fr g1 g2 ks kl) : Fr g g2 ks kl := ⟨b.nx.trans a.nx, fun j h1 h2 => (b.eq j h1 h2).trans (a.eq j h1 h2)⟩
theorem put_same {g : GSt} {k : Nat} {so : SO} : (g.put k so).S k = some so := if_pos rfl
theorem put_ne {g : GSt} {k j : Nat} {so : SO} (h : j ≠ k) : (g.put k so).S j = g.S j := if_neg h
theorem put_nx {g : GSt} {k : Nat} {so : SO} : (g.put k so).nx = g.nx := rfl
/-- one prime's round over the cells -/
theorem cells_ok {g : GSt} {t0 t1 : Option Slot} {p : Int} (hp : 0 < p) (hp2 : p < 2 ^ 31) : ∀ (cells : List Int) (x : Int) (t4 : Option Slot), 0 ≤ x → x < 2 ^ 63 → ∃ (y : Int) (t : Option Slot), 0 ≤ y ∧ y < 2 ^ 63 ∧
    forL (gSet 4) (M.bind (bin2 modD (M.bind (consM (bin2 addD (bin2 mulD (getV 3) (M.ret (.int 48271))) (getV 4)) (M.ret [])) intD) (getV 2)) (setV 3)) (cells.map D.int) ⟨g, [t0, t1, some (.val (.int p)), some (.val (.int x)), t4]⟩ = .ok .nx ⟨g, [t0, t1, some (.val (.int p)), some (.val (.int y)), t]⟩
  | [], x, t4, h1, h2 => ⟨x, t4, h1, h2, rfl⟩
  | c :: cells, x, t4, h1, h2 => by
    obtain ⟨y, t, h3, h4, e⟩ := cells_ok hp hp2 cells ((x * 48271 + c) % p) (some (.val (.int c))) (Int.emod_nonneg _ (by omega)) (by have := Int.emod_lt_of_pos (x * 48271 + c) hp; omega)
    refine ⟨y, t, h3, h4, ?_⟩
    rw [← e]
    have hs : small64 48271 := by decide
    simp [forL, turnM, hs, hp]
theorem primes_ok {g : GSt} {ks kl : Nat} {cells : List Int} {rest turn : Int} (h : g.S ks = some (.dic [(.inr "large", .ptr kl), (.inr "cells", .lst (cells.map .int)), (.inr "rest", .int rest), (.inr "turn", .int turn)])) (ht : 0 ≤ turn) (ht2 : turn ≤ 2 ^ 40) :
    ∀ (ps : List Int), (∀ p ∈ ps, 0 < p ∧ p < 2 ^ 31) → ∀ (f : Int) (t2 t3 t4 : Option Slot), ∃ (f' : Int) (a2 a3 a4 : Option Slot),
    forL (gSet 2) (seqM (M.bind (bin2 addD (bin2 mulD (M.ret (.int 104729)) (ixV 0 (M.ret (.str "turn")))) (bin2 fdivD (getV 2) (M.ret (.int 7)))) (setV 3)) (seqM (forM (itemsM (ixV 0 (M.ret (.str "cells")))) (gSet 4) (M.bind (bin2 modD (M.bind (consM (bin2 addD (bin2 mulD (getV 3) (M.ret (.int 48271))) (getV 4)) (M.ret [])) intD) (getV 2)) (setV 3))) (M.bind (bin2 addD (bin2 mulD (getV 1) (M.ret (.int 2147483647))) (bin2 modD (M.bind (consM (bin2 powD (getV 3) (M.ret (.int 5))) (M.ret [])) intD) (getV 2))) (setV 1))))
      (ps.map D.int) ⟨g, [some (.val (.ptr ks)), some (.val (.int f)), t2, t3, t4]⟩ = .ok .nx ⟨g, [some (.val (.ptr ks)), some (.val (.int f')), a2, a3, a4]⟩
  | [], _, f, t2, t3, t4 => ⟨f, t2, t3, t4, rfl⟩
  | p :: ps, hp, f, t2, t3, t4 => by
    obtain ⟨p0, p1⟩ := hp p (List.mem_cons_self ..)
    have p2 : 0 ≤ p / 7 := Int.ediv_nonneg (by omega) (by decide)
    have p3 : p / 7 < 2 ^ 31 := by omega
    obtain ⟨y, t, y0, y1, ey⟩ := cells_ok (g := g) (t0 := some (.val (.ptr ks))) (t1 := some (.val (.int f))) p0 p1 cells (104729 * turn + p / 7) t4 (by omega) (by omega)
    obtain ⟨f', a2, a3, a4, ef⟩ := primes_ok h ht ht2 ps (fun q hq => hp q (List.mem_cons_of_mem _ hq)) (f * 2147483647 + y ^ 5 % p) (some (.val (.int p))) (some (.val (.int y))) t
    refine ⟨f', a2, a3, a4, ?_⟩
    rw [← ef]
    have hs : small64 104729 := by decide
    have hs2 : small64 2147483647 := by decide
    have hy : y.natAbs < 18446744073709551616 := by omega
    have k1 : ((Sum.inr ("large" : Str) : Key) = Sum.inr ("turn" : Str)) = False := by decide
    have k2 : ((Sum.inr ("cells" : Str) : Key) = Sum.inr ("turn" : Str)) = False := by decide
    have k3 : ((Sum.inr ("rest" : Str) : Key) = Sum.inr ("turn" : Str)) = False := by decide
    have k4 : ((Sum.inr ("large" : Str) : Key) = Sum.inr ("cells" : Str)) = False := by decide
    simp [forL, turnM, hs, hs2, p0, h, dlook_cons, ey, hy]
theorem mixed_ok {g : GSt} {ks kl : Nat} {n : Int} (h : StOk g ks kl n) (hn : n < 2 ^ 40) : ∃ v g', H.f__law_mixed [.ptr ks] g = .ok (.int v) g' ∧ StOk g' ks kl (n + 1) ∧ Fr g g' ks kl := by
  obtain ⟨ne, L, cells, rest, turn, h0, h1, hs, hl⟩ := h
  have e1 : (g.put ks (.dic [(.inr "large", .ptr kl), (.inr "cells", .lst (cells.map .int)), (.inr "rest", .int rest), (.inr "turn", .int (turn + 1))])).S ks = some (.dic [(.inr "large", .ptr kl), (.inr "cells", .lst (cells.map .int)), (.inr "rest", .int rest), (.inr "turn", .int (turn + 1))]) := put_same
  obtain ⟨f, a2, a3, a4, ef⟩ := primes_ok e1 (by omega) (by omega) [2147483629, 2147483587, 2147483579, 2147483563, 2147483549, 2147483543] (by decide) 0 none none none
  refine ⟨f, _, ?_, ⟨ne, L, cells, rest, turn + 1, by omega, by omega, put_same, by rw [put_ne ne]; exact hl⟩, rfl, fun j j1 _ => put_ne j1⟩
  have sz : 4 < sizeLine := by rw [sizeLine_eq]; omega
  have sz6 : 6 ≤ sizeLine := by rw [sizeLine_eq]; omega
  simp at ef
  simp [H.f__law_mixed, H.m__law_mixed, hs, dlook_cons, dput, sz, sz6, ef]
abbrev stD (kl : Nat) (cells : List Int) (rest turn : Int) : SO := .dic [(.inr "large", .ptr kl), (.inr "cells", .lst (cells.map .int)), (.inr "rest", .int rest), (.inr "turn", .int turn)]
theorem take_ok {g : GSt} {ks kl : Nat} {n m : Int} (h : StOk g ks kl n) (hn : n < 2 ^ 40) (h0 : 0 < m) (h1 : m < 2 ^ 30) : ∃ v g', H.f__law_take [.ptr ks, .int m] g = .ok (.int v) g' ∧ 0 ≤ v ∧ v < m ∧ StOk g' ks kl (n + 1) ∧ Fr g g' ks kl := by
  obtain ⟨ne, L, cells, rest, turn, t0, t1, hs, hl⟩ := id h
  have sz : 4 < sizeLine := by rw [sizeLine_eq]; omega
  have h1' : m < 1073741824 := h1
  have en : ks ≠ kl := fun e => ne e.symm
  by_cases hr : rest = 0
  · subst hr
    cases L with
    | cons x L =>
      refine ⟨x % m, ((g.put kl (.lst (L.map .int))).put ks (stD kl cells x turn)).put ks (stD kl cells (x / m) turn), ?_, Int.emod_nonneg _ (by omega), Int.emod_lt_of_pos _ h0, ⟨ne, L, cells, x / m, turn, by omega, by omega, put_same, ?_⟩, ?_, ?_⟩
      rotate_left
      · rw [put_ne ne, put_ne ne, put_same]
      · rfl
      · intro j j1 j2
        rw [put_ne j1, put_ne j1, put_ne j2]
      have e2 := eqB_nil (x :: L)
      simp only [List.map_cons] at e2
      have hl' : g.S kl = some (.lst (D.int x :: L.map D.int)) := hl
      have hp : (0 : Int) < (L.length : Int) + 1 := by omega
      simp [H.f__law_take, H.m__law_take, hs, dlook_cons, dput, sz, neP, seeD, hl', neD_ap, e2, fPopAt, ixN, put_same, put_ne en, put_ne ne, h0, h1', hp]
    | nil =>
      obtain ⟨v, g', e, s', fr⟩ := mixed_ok h hn
      obtain ⟨_, L', cells', rest', turn', u0, u1, hs', hl2⟩ := id s'
      refine ⟨v % m, (g'.put ks (stD kl cells' v turn')).put ks (stD kl cells' (v / m) turn'), ?_, Int.emod_nonneg _ (by omega), Int.emod_lt_of_pos _ h0, ⟨ne, L', cells', v / m, turn', by omega, by omega, put_same, ?_⟩, ?_, ?_⟩
      rotate_left
      · rw [put_ne ne, put_ne ne]; exact hl2
      · exact fr.nx
      · intro j j1 j2
        rw [put_ne j1, put_ne j1]; exact fr.eq j j1 j2
      have e2 := eqB_nil []
      simp only [List.map_nil] at e2
      have hl' : g.S kl = some (.lst []) := hl
      simp [H.f__law_take, H.m__law_take, hs, hs', dlook_cons, dput, sz, neP, seeD, hl', neD_ap, e2, put_same, h0, h1', e]
  · refine ⟨rest % m, g.put ks (stD kl cells (rest / m) turn), ?_, Int.emod_nonneg _ (by omega), Int.emod_lt_of_pos _ h0, ⟨ne, L, cells, rest / m, turn, by omega, by omega, put_same, by rw [put_ne ne]; exact hl⟩, rfl, fun j j1 _ => put_ne j1⟩
    simp [H.f__law_take, H.m__law_take, hs, dlook_cons, dput, sz, hr, h0, h1']
theorem atI_last {α : Type} {xs : List α} {x : α} : atI (xs ++ [x]) (-1) = some x := by
  have h : (-1 : Int) + ((xs.length : Int) + 1) = xs.length := by omega
  have h2 : (1 : Int) ≤ (xs.length : Int) + 1 := by omega
  simp [atI, ixN, h, h2]
theorem atI_nat {α : Type} {xs : List α} {i : Int} {x : α} (h0 : 0 ≤ i) (h : xs[i.toNat]? = some x) : atI xs i = some x := by
  have h1 : i.toNat < xs.length := (List.getElem?_eq_some_iff.mp h).1
  have h2 : i < xs.length := by omega
  simp [atI, ixN, h0, h2, (List.getElem?_eq_some_iff.mp h).2]
theorem pick_ok {g : GSt} {ks kl : Nat} {n : Int} (h : StOk g ks kl n) (hn : n < 2 ^ 40) {ds : List D} (h0 : 0 < ds.length) (h1 : ds.length < 2 ^ 30) : ∃ d g', H.f__law_pick [.ptr ks, .lst ds] g = .ok d g' ∧ d ∈ ds ∧ StOk g' ks kl (n + 1) ∧ Fr g g' ks kl := by
  obtain ⟨v, g', e, v0, v1, s', fr⟩ := take_ok (m := (ds.length : Int)) h hn (by omega) (by omega)
  have hv : v.toNat < ds.length := by omega
  refine ⟨ds[v.toNat], g', ?_, List.getElem_mem hv, s', fr⟩
  have ha : atI ds v = some ds[v.toNat] := atI_nat v0 (List.getElem?_eq_getElem hv)
  simp [H.f__law_pick, H.m__law_pick, e, ha]
theorem large_ok {g : GSt} {s : Slot} {elt : M D} {tt : M Bool} (ht : ∀ x : Int, ∃ c : Bool, tt ⟨g, [some s, none, some (.val (.int x))]⟩ = .ok c ⟨g, [some s, none, some (.val (.int x))]⟩) (he : ∀ x : Int, elt ⟨g, [some s, none, some (.val (.int x))]⟩ = .ok (.int (x - 10 ^ 18)) ⟨g, [some s, none, some (.val (.int x))]⟩) :
    ∀ (ns : List Int) (acc : List Int), acc.length + ns.length ≤ 1000 → ∃ L : List Int, compL (gSet 2) tt elt [2] (acc.map .int) (ns.map .int) ⟨g, [some s, none, none]⟩ = .ok (L.map .int) ⟨g, [some s, none, none]⟩
  | [], acc, _ => ⟨acc, rfl⟩
  | n :: ns, acc, h => by
    simp only [List.length_cons] at h
    obtain ⟨c, hc⟩ := ht n
    cases c with
    | false =>
      obtain ⟨L, e⟩ := large_ok ht he ns acc (by omega)
      refine ⟨L, ?_⟩
      simp [compL, hc, BSt.wip, wipeT, e]
    | true =>
      obtain ⟨L, e⟩ := large_ok ht he ns (acc ++ [n - 10 ^ 18]) (by simp; omega)
      refine ⟨L, ?_⟩
      have sz : acc.length < sizeLine := by rw [sizeLine_eq]; omega
      simp at e
      have he' := he n
      simp at he'
      simp [compL, hc, he', BSt.wip, wipeT, sz, e]
theorem begun_ok (ns : List Int) (hl : ns.length ≤ 63) : ∃ g', H.f__law_begun [.scr ns] ⟨fun _ => none, 0⟩ = .ok (.ptr 1) g' ∧ StOk g' 1 0 0 ∧ g'.nx = 2 := by
  obtain ⟨L, e⟩ := large_ok (g := ⟨fun _ => none, 0⟩) (s := .val (.scr ns)) (tt := isB (bin2 geD (getV 2) (bin2 powD (M.ret (.int 10)) (M.ret (.int 18))))) (elt := bin2 subD (getV 2) (bin2 powD (M.ret (.int 10)) (M.ret (.int 18)))) (fun x => ⟨decide (x ≥ 10 ^ 18), by simp⟩) (fun x => by simp) ns [] (by simp; omega)
  refine ⟨((⟨fun _ => none, 0⟩ : GSt).new (.lst (L.map .int))).new (stD 0 ns 0 0), ?_, ⟨by decide, L, ns, 0, 0, by omega, by omega, rfl, rfl⟩, rfl⟩
  simp only [List.map_nil] at e
  simp [H.f__law_begun, H.m__law_begun, lcN, BSt.wip, wipeT, e, GSt.new, toLst, mergeD, dput]
end
end L2.VI
/-! VI17: all, sum, min and max of a list, tuple(x), slices, in, isinstance of several classes, augmented stores. -/
namespace L2.VI
open PySem PySem.Spec PyProof.Rows He
section
variable {X : Cx} {W : WX} {pos apos cpos p2 : Pos} {o i e a c : Expr} {es : List Expr} {mo mi me ma mb : M D} {mas : M (List D)}
variable {K : PySem.W.Frag} {F : Hp} {fc : FrC} {P0 : PX fc} {Mm H : Hp} {ρ : Rho} {bs : BSt} {σ : St}
/-! ### the ints, the bools of a list -/
def dInts : List D → Option (List Int)
  | [] => some []
  | .int i :: r => (dInts r).map (i :: ·)
  | _ => none
def dBls : List D → Option (List Bool)
  | [] => some []
  | .bl i :: r => (dBls r).map (i :: ·)
  | _ => none
theorem dInts_map : ∀ {ds : List D} {ns : List Int}, dInts ds = some ns → ds = ns.map D.int
  | [], ns, h => by cases h; rfl
  | .int i :: r, ns, h => by
    unfold dInts at h
    cases e : dInts r with
    | none => rw [e] at h; cases h
    | some l => rw [e] at h; cases h; rw [dInts_map e]; rfl
  | .non :: _, _, h => by cases h
  | .bl _ :: _, _, h => by cases h
  | .str _ :: _, _, h => by cases h
  | .ty _ :: _, _, h => by cases h
  | .glo _ :: _, _, h => by cases h
  | .tup _ :: _, _, h => by cases h
  | .lst _ :: _, _, h => by cases h
  | .dic _ :: _, _, h => by cases h
  | .ptr _ :: _, _, h => by cases h
  | .scr _ :: _, _, h => by cases h
  | .xob _ _ :: _, _, h => by cases h
theorem dBls_map : ∀ {ds : List D} {ns : List Bool}, dBls ds = some ns → ds = ns.map D.bl
  | [], ns, h => by cases h; rfl
  | .bl i :: r, ns, h => by
    unfold dBls at h
    cases e : dBls r with
    | none => rw [e] at h; cases h
    | some l => rw [e] at h; cases h; rw [dBls_map e]; rfl
  | .non :: _, _, h => by cases h
  | .int _ :: _, _, h => by cases h
  | .str _ :: _, _, h => by cases h
  | .ty _ :: _, _, h => by cases h
  | .glo _ :: _, _, h => by cases h
  | .tup _ :: _, _, h => by cases h
  | .lst _ :: _, _, h => by cases h
  | .dic _ :: _, _, h => by cases h
  | .ptr _ :: _, _, h => by cases h
  | .scr _ :: _, _, h => by cases h
  | .xob _ _ :: _, _, h => by cases h
theorem dInts_of : ∀ ns : List Int, dInts (ns.map D.int) = some ns
  | [] => rfl
  | n :: ns => by simp [dInts, dInts_of ns]
theorem dBls_of : ∀ ns : List Bool, dBls (ns.map D.bl) = some ns
  | [] => rfl
  | n :: ns => by simp [dBls, dBls_of ns]
/-! ### all, sum -/
def allD : List D → M D
  | [.lst ds] => (match dBls ds with
    | some l => M.ret (.bl (l.all id))
    | none => M.fail)
  | _ => M.fail
def sumD : List D → M D
  | [.lst ds] => (match dInts ds with
    | some l => M.ret (.int l.sum)
    | none => M.fail)
  | _ => M.fail
theorem cv_all (hc : X.calm = true := by rfl) : CallV X W (.builtin "all") allD := by
  intro xs as σ H F P0 Mm ρ b Q B r h
  refine ⟨_, cr_all hc, ?_⟩
  unfold allD at h
  split at h
  · rename_i ds
    cases e : dBls ds with
    | some l =>
      rw [e] at h
      cases r with | cons r rr => cases rr; cases r with | lst h1 h2 =>
        rw [dBls_map e] at h2
        exact ⟨_, l, rfl, by rw [← h2.bls]; exact .inl (.inl (B.lstAt h1)), h.now B (.bl _)⟩
    | none => rw [e] at h; exact h.elim
  · exact h.elim
theorem cv_sum (hc : X.calm = true := by rfl) : CallV X W (.builtin "sum") sumD := by
  intro xs as σ H F P0 Mm ρ b Q B r h
  refine ⟨_, cr_sum hc, ?_⟩
  unfold sumD at h
  split at h
  · rename_i ds
    cases e : dInts ds with
    | some l =>
      rw [e] at h
      cases r with | cons r rr => cases rr; cases r with | lst h1 h2 =>
        rw [dInts_map e] at h2
        exact ⟨_, l, rfl, by rw [← h2.ints]; exact .inl (.inl (B.lstAt h1)), h.now B (.int _)⟩
    | none => rw [e] at h; exact h.elim
  · exact h.elim
/-! ### min, max of a list of ints -/
def maxI : List Int → Option Int
  | [] => none
  | x :: r => some (r.foldl (fun m y => if m < y then y else m) x)
def minI : List Int → Option Int
  | [] => none
  | x :: r => some (r.foldl (fun m y => if y < m then y else m) x)
theorem maxI_spec : ∀ (r : List Int) (x : Int), (r.foldl (fun m y => if m < y then y else m) x) ∈ x :: r ∧ ∀ y ∈ x :: r, y ≤ r.foldl (fun m y => if m < y then y else m) x
  | [], x => ⟨List.mem_cons_self .., fun y h => by cases h with | head => exact Int.le_refl _ | tail _ h => cases h⟩
  | z :: r, x => by
    obtain ⟨h1, h2⟩ := maxI_spec r (if x < z then z else x)
    rw [List.foldl_cons]
    generalize hw : List.foldl (fun m y => if m < y then y else m) (if x < z then z else x) r = w at h1 h2 ⊢
    have h3 := h2 (if x < z then z else x) (List.mem_cons_self ..)
    refine ⟨?_, fun y hy => ?_⟩
    · rcases List.mem_cons.mp h1 with h | h
      · rw [h]
        split
        · exact List.mem_cons_of_mem _ (List.mem_cons_self ..)
        · exact List.mem_cons_self ..
      · exact List.mem_cons_of_mem _ (List.mem_cons_of_mem _ h)
    · rcases List.mem_cons.mp hy with h | h
      · subst h
        split at h3 <;> omega
      · rcases List.mem_cons.mp h with h | h
        · subst h
          split at h3 <;> omega
        · exact h2 y (List.mem_cons_of_mem _ h)
theorem minI_spec : ∀ (r : List Int) (x : Int), (r.foldl (fun m y => if y < m then y else m) x) ∈ x :: r ∧ ∀ y ∈ x :: r, r.foldl (fun m y => if y < m then y else m) x ≤ y
  | [], x => ⟨List.mem_cons_self .., fun y h => by cases h with | head => exact Int.le_refl _ | tail _ h => cases h⟩
  | z :: r, x => by
    obtain ⟨h1, h2⟩ := minI_spec r (if z < x then z else x)
    rw [List.foldl_cons]
    generalize hw : List.foldl (fun m y => if y < m then y else m) (if z < x then z else x) r = w at h1 h2 ⊢
    have h3 := h2 (if z < x then z else x) (List.mem_cons_self ..)
    refine ⟨?_, fun y hy => ?_⟩
    · rcases List.mem_cons.mp h1 with h | h
      · rw [h]
        split
        · exact List.mem_cons_of_mem _ (List.mem_cons_self ..)
        · exact List.mem_cons_self ..
      · exact List.mem_cons_of_mem _ (List.mem_cons_of_mem _ h)
    · rcases List.mem_cons.mp hy with h | h
      · subst h
        split at h3 <;> omega
      · rcases List.mem_cons.mp h with h | h
        · subst h
          split at h3 <;> omega
        · exact h2 y (List.mem_cons_of_mem _ h)
def maxLD : List D → M D
  | [.lst ds] => (match (dInts ds).bind maxI with
    | some m => M.ret (.int m)
    | none => M.fail)
  | _ => M.fail
def minLD : List D → M D
  | [.lst ds] => (match (dInts ds).bind minI with
    | some m => M.ret (.int m)
    | none => M.fail)
  | _ => M.fail
theorem cv_maxL (hc : X.calm = true := by rfl) : CallV X W (.builtin "max") maxLD := by
  intro xs as σ H F P0 Mm ρ b Q B r h
  refine ⟨_, cr_max hc, ?_⟩
  unfold maxLD at h
  split at h
  · rename_i ds
    cases r with | cons r rr => cases rr; cases r with | lst h1 h2 =>
        cases e1 : dInts ds with
        | none => rw [e1] at h; exact h.elim
        | some l =>
          rw [e1] at h
          rw [dInts_map e1] at h2
          cases l with
          | nil => exact h.elim
          | cons x l =>
            obtain ⟨m1, m2⟩ := maxI_spec l x
            refine ⟨_, x :: l, rfl, by rw [← h2.ints]; exact .inl (.inl (B.lstAt h1)), Nat.succ_pos _, fun m hm hle => ?_⟩
            have : m = l.foldl (fun m y => if m < y then y else m) x := Int.le_antisymm (m2 m hm) (hle _ m1)
            rw [this]
            exact h.now B (.int _)
  · exact h.elim
theorem cv_minL (hc : X.calm = true := by rfl) : CallV X W (.builtin "min") minLD := by
  intro xs as σ H F P0 Mm ρ b Q B r h
  refine ⟨_, cr_min hc, ?_⟩
  unfold minLD at h
  split at h
  · rename_i ds
    cases r with | cons r rr => cases rr; cases r with | lst h1 h2 =>
        cases e1 : dInts ds with
        | none => rw [e1] at h; exact h.elim
        | some l =>
          rw [e1] at h
          rw [dInts_map e1] at h2
          cases l with
          | nil => exact h.elim
          | cons x l =>
            obtain ⟨m1, m2⟩ := minI_spec l x
            refine ⟨_, x :: l, rfl, by rw [← h2.ints]; exact .inl (.inl (B.lstAt h1)), Nat.succ_pos _, fun m hm hle => ?_⟩
            have : m = l.foldl (fun m y => if y < m then y else m) x := Int.le_antisymm (hle _ m1) (m2 m hm)
            rw [this]
            exact h.now B (.int _)
  · exact h.elim
/-! ### tuple(x) -/
def tupD : List D → M D
  | [.lst ds] => M.ret (.tup ds)
  | [.tup ds] => M.ret (.tup ds)
  | _ => M.fail
theorem cv_tuple : CallV X W (.type "tuple") tupD := by
  intro xs as σ H F P0 Mm ρ b Q B r h
  refine ⟨_, call_tuple_of, ?_⟩
  unfold tupD at h
  split at h
  · cases r with | cons r rr => cases rr; cases r with | lst h1 h2 =>
      exact ⟨_, _, rfl, .inl ⟨.inl (.inl (B.lstAt h1)), fun p hp => h.new B hp fun F' l e => .tup (.inl e) (h2.mono l (Rle.refl _))⟩⟩
  · cases r with | cons r rr => cases rr; cases r with | tup h1 h2 =>
      exact ⟨_, _, rfl, .inr ⟨Rep.sqT (P := fun _ => none) B h1, h.now B (.tup h1 h2)⟩⟩
  · exact h.elim
/-! ### x[lo:hi] -/
def SO' (X : Cx) (W : WX) (e : Option Expr) (m : M (Option Int)) : Prop := PO X e (tM (fc := fcOf X) (fun _ _ x a => x = a) X.K W m)
theorem so_none : SO' X W none (M.ret none) := ⟨fun pins s σ H Q I ⟨F, P0, Mm, ρ, b, B, q⟩ => po_none.run pins s σ H Q I (q none F Mm ρ H (Leq.refl _) (Rle.refl _) B rfl)⟩
def partM (m : M D) : M (Option Int) := M.bind m fun d => match d with
  | .int i => M.ret (some i)
  | _ => M.fail
theorem so_some (h : SE X W e me) : SO' X W (some e) (partM me) := ⟨fun pins s σ H Q I ⟨F, P0, Mm, ρ, b, B, q⟩ => (po_some h).run pins s σ H Q I (tM_then B q fun x d F1 M1 r1 b1 H1 l1 e1 B1 q1 h1 => by
  cases q1 with
  | int i => exact ⟨i, rfl, h1.now B1 rfl⟩
  | _ => exact h1.elim)⟩
def cutD (xs : List D) (lo hi : Option Int) : List D := (xs.drop (HT.sIx xs.length 0 lo)).take (HT.sIx xs.length xs.length hi - HT.sIx xs.length 0 lo)
theorem RepAll.cut {vs : List V} {ds : List D} (r : RepAll K F ρ vs ds) (lo hi : Option Int) : RepAll K F ρ (cutV vs lo hi) (cutD ds lo hi) := by
  unfold cutV cutD
  rw [r.length]
  exact (r.drop _).take _
def slD (d : D) (lo hi : Option Int) : M D := match d with
  | .lst xs => M.ret (.lst (cutD xs lo hi))
  | .tup xs => M.ret (.tup (cutD xs lo hi))
  | .str z => guardM (z.length ≤ sizeLine) (M.ret (.str (cutS z lo hi)))
  | _ => M.fail
theorem sIx_all {n : Nat} {lo hi : Option Int} (h : HT.sIx n 0 lo = 0 ∧ HT.sIx n n hi = n) (xs : List D) (hn : xs.length = n) : cutD xs lo hi = xs := by
  unfold cutD
  rw [hn, h.1, h.2]
  simp [← hn]
theorem SlR.any : SlR X (fun x lo hi H Q => ∃ r, SlR X r ∧ r x lo hi H Q) := fun pins s σ H x v vl vu lo hi sl Q I rx hs pl pu ⟨r, hr, q⟩ => hr pins s σ H x v vl vu lo hi sl Q I rx hs pl pu q
def sliceM (me : M D) (ml mh : M (Option Int)) : M D := M.bind me fun d => M.bind ml fun l => M.bind mh fun h => slD d l h
theorem se_slice {lo hi : Option Expr} {ml mh : M (Option Int)} (he : SE X W e me) (hl : SO' X W lo ml) (hh : SO' X W hi mh) : SE X W (.Subscript e (.Slice lo hi none p2) pos) (sliceM me ml mh) :=
  SE.of (pe_slice SlR.any he hl hh) fun σ H F P0 Mm ρ bs Q B q => tM_then B q fun x d F1 M1 r1 b1 H1 l1 e1 B1 q1 h1 => tM_then B1 h1 fun l l' F2 M2 r2 b2 H2 l2 e2 B2 q2 h2 => by
    subst q2
    refine tM_then B2 h2 fun u u' F3 M3 r3 b3 H3 l3 e3 B3 q3 h3 => ?_
    subst q3
    have q1' := q1.mono (l2.trans l3) (e2.trans e3)
    cases q1' with
    | lst ha r =>
      exact ⟨_, sl_list, _, _, rfl, .inl (.inl (B3.lstAt ha)), fun p hp => h3.new B3 hp fun F' l e => .lst e ((r.mono l (Rle.refl _)).cut _ _)⟩
    | tup ha r =>
      refine ⟨_, sl_tupA, _, _, rfl, Rep.sqT (P := fun _ => none) B3 ha, fun hw => ?_, fun hw p hp => h3.new B3 hp fun F' l e => .tup (.inl e) ((r.mono l (Rle.refl _)).cut _ _)⟩
      have hw' := hw
      rw [r.length] at hw'
      have e := sIx_all hw' _ rfl
      have h4 : Post (Rep X.K) X.K W P0 F3 r3 σ Q (M.ret (.tup (cutD _ l u)) b3) := h3
      rw [e] at h4
      exact h4.now B3 (.tup ha r)
    | str z =>
      obtain ⟨hz, h3⟩ := Post.guard h3
      exact ⟨_, sl_str, z, rfl, hz, h3.now B3 (.str _)⟩
    | _ => exact h3.elim
end
end L2.VI
/-! VI18: in, isinstance of several classes, augmented stores. -/
namespace L2.VI
open PySem PySem.Spec PyProof.Rows He
section
variable {X : Cx} {W : WX} {pos apos cpos p2 : Pos} {o i e a c : Expr} {es : List Expr} {mo mi me ma mb : M D} {mas : M (List D)}
variable {K : PySem.W.Frag} {F : Hp} {fc : FrC} {P0 : PX fc} {Mm H : Hp} {ρ : Rho} {bs : BSt} {σ : St}
/-! ### in -/
def isF : D → Bool
  | .non => true
  | .bl _ => true
  | .int _ => true
  | .str _ => true
  | _ => false
def eqF : D → D → Bool
  | .non, .non => true
  | .bl a, .bl b => a == b
  | .bl a, .int b => (if a then 1 else 0) == b
  | .int a, .bl b => a == (if b then 1 else 0)
  | .int a, .int b => a == b
  | .str a, .str b => a == b
  | _, _ => false
theorem Rep.flat {x : V} {d : D} (r : Rep K F ρ x d) (h : isF d = true) : flatV x = true := by
  cases r <;> first | rfl | cases h
theorem Rep.eqF' {x y : V} {d e : D} (r : Rep K F ρ x d) (s : Rep K F ρ y e) (h : isF d = true) (h' : isF e = true) : eqV x y = eqF d e := by
  cases r <;> cases s <;> first | rfl | cases h | cases h'
theorem RepAll.flat : ∀ {xs : List V} {ds : List D}, RepAll K F ρ xs ds → ds.all isF = true → xs.all flatV = true
  | _, _, .nil, _ => rfl
  | _, _, .cons r rr, h => by
    simp only [List.all_cons, Bool.and_eq_true] at h ⊢
    exact ⟨r.flat h.1, RepAll.flat rr h.2⟩
theorem RepAll.inF {x : V} {d : D} (s : Rep K F ρ x d) (h' : isF d = true) : ∀ {xs : List V} {ds : List D}, RepAll K F ρ xs ds → ds.all isF = true → inV x xs = ds.any fun y => eqF y d
  | _, _, .nil, _ => rfl
  | _, _, .cons (v := v) (vs := vs) (d := e) (ds := ds) r rr, h => by
    simp only [List.all_cons, Bool.and_eq_true] at h
    have ih := RepAll.inF s h' rr h.2
    have e2 : inV x (v :: vs) = (eqV v x || inV x vs) := rfl
    rw [e2, ih, r.eqF' s h.1 h']
    rfl
def inD (neg : Bool) (d c : D) : M D := match c with
  | .lst ds => guardM (isF d = true ∧ ds.all isF = true) (M.ret (.bl (xor neg (ds.any fun y => eqF y d))))
  | .tup ds => guardM (isF d = true ∧ ds.all isF = true) (M.ret (.bl (xor neg (ds.any fun y => eqF y d))))
  | .str z => (match d with
    | .str x => (match x.cps.toList with
      | [k] => M.ret (.bl (xor neg (decide (k ∈ z.cps.toList))))
      | _ => M.fail)
    | _ => M.fail)
  | _ => M.fail
theorem str_of_one {x : Str} {k : Nat} (h : x.cps.toList = [k]) : x = ⟨#[k]⟩ := by
  obtain ⟨c⟩ := x
  obtain ⟨l⟩ := c
  simp at h
  subst h
  rfl
theorem ov_in : OpV X W (compareOp .In) (inD false) := by
  intro x y d c σ H F P0 Mm ρ b Q B rx ry h
  cases ry with
  | lst ha r =>
    obtain ⟨hg, h⟩ := Post.guard h
    refine ⟨_, op_in_seq, _, _, rfl, .inl (.inl (.inl (B.lstAt ha))), rx.flat hg.1, r.flat hg.2, ?_⟩
    rw [r.inF rx hg.1 hg.2]
    simpa using h.now B (.bl _)
  | tup ha r =>
    obtain ⟨hg, h⟩ := Post.guard h
    refine ⟨_, op_in_seq, _, _, rfl, .inr (Rep.sqT (P := fun _ => none) B ha), rx.flat hg.1, r.flat hg.2, ?_⟩
    rw [r.inF rx hg.1 hg.2]
    simpa using h.now B (.bl _)
  | str z =>
    cases rx with
    | str x =>
      cases e : x.cps.toList with
      | nil => unfold inD at h; dsimp only at h; rw [e] at h; exact h.elim
      | cons k l =>
        cases l with
        | nil =>
          unfold inD at h; dsimp only at h; rw [e] at h
          refine ⟨_, op_in_sign, k, z, by rw [str_of_one e], rfl, ?_⟩
          simpa using h.now B (.bl _)
        | cons _ _ => unfold inD at h; dsimp only at h; rw [e] at h; exact h.elim
    | _ => exact h.elim
  | _ => exact h.elim
theorem ov_notin : OpV X W (compareOp .NotIn) (inD true) := by
  intro x y d c σ H F P0 Mm ρ b Q B rx ry h
  cases ry with
  | lst ha r =>
    obtain ⟨hg, h⟩ := Post.guard h
    refine ⟨_, op_notIn_seq, _, _, rfl, .inl (.inl (.inl (B.lstAt ha))), rx.flat hg.1, r.flat hg.2, ?_⟩
    rw [r.inF rx hg.1 hg.2]
    simpa using h.now B (.bl _)
  | tup ha r =>
    obtain ⟨hg, h⟩ := Post.guard h
    refine ⟨_, op_notIn_seq, _, _, rfl, .inr (Rep.sqT (P := fun _ => none) B ha), rx.flat hg.1, r.flat hg.2, ?_⟩
    rw [r.inF rx hg.1 hg.2]
    simpa using h.now B (.bl _)
  | str z =>
    cases rx with
    | str x =>
      cases e : x.cps.toList with
      | nil => unfold inD at h; dsimp only at h; rw [e] at h; exact h.elim
      | cons k l =>
        cases l with
        | nil =>
          unfold inD at h; dsimp only at h; rw [e] at h
          refine ⟨_, op_notIn_sign, k, z, by rw [str_of_one e], rfl, ?_⟩
          simpa using h.now B (.bl _)
        | cons _ _ => unfold inD at h; dsimp only at h; rw [e] at h; exact h.elim
    | _ => exact h.elim
  | _ => exact h.elim
/-! ### isinstance(x, (T, ..)) -/
def tysOf : List D → Option (List String)
  | [] => some []
  | .ty n :: r => (tysOf r).map (n :: ·)
  | _ => none
theorem tysOf_map : ∀ {ds : List D} {ns : List String}, tysOf ds = some ns → ds = ns.map D.ty
  | [], ns, h => by cases h; rfl
  | .ty i :: r, ns, h => by
    unfold tysOf at h
    cases e : tysOf r with
    | none => rw [e] at h; cases h
    | some l => rw [e] at h; cases h; rw [tysOf_map e]; rfl
  | .non :: _, _, h => by cases h
  | .bl _ :: _, _, h => by cases h
  | .str _ :: _, _, h => by cases h
  | .int _ :: _, _, h => by cases h
  | .glo _ :: _, _, h => by cases h
  | .tup _ :: _, _, h => by cases h
  | .lst _ :: _, _, h => by cases h
  | .dic _ :: _, _, h => by cases h
  | .ptr _ :: _, _, h => by cases h
  | .scr _ :: _, _, h => by cases h
  | .xob _ _ :: _, _, h => by cases h
theorem RepAll.tys : ∀ {vs : List V} {ns : List String}, RepAll K F ρ vs (ns.map D.ty) → vs = ns.map V.ty
  | _, [], h => by cases h; rfl
  | _, n :: ns, h => by
    cases h with
    | cons r t => cases r; rw [RepAll.tys t]; rfl
theorem clsV_tys : ∀ ns : List String, Paired ClsV (ns.map V.ty) (ns.map Value.type)
  | [] => .nil
  | n :: ns => .cons (.ty n) (clsV_tys ns)
theorem vals_tys : ∀ {ns : List String} {us : List Value}, Vals (ns.map V.ty) us → us = ns.map Value.type
  | [], _, h => by cases h; rfl
  | n :: ns, _, h => by
    cases h with
    | cons r t => cases r; rw [vals_tys t]; rfl
def isiTM (ts : List String) (subs : String → Bool) (own : List (Str × Bool)) : List D → M D
  | [x, .tup cs] => fun b => if tysOf cs = some ts then (match tyD x b.g with
    | some (.inl t) => .ok (.bl (subs t)) b
    | some (.inr c) => (match own.lookup c with
      | some k => .ok (.bl k) b
      | none => .fail)
    | none => .fail) else .fail
  | _ => M.fail
theorem lookup_mem' {c : Str} {k : Bool} : ∀ {own : List (Str × Bool)}, own.lookup c = some k → (c, k) ∈ own
  | [], h => by cases h
  | (p1, p2) :: own, h => by
    rw [List.lookup_cons] at h
    split at h
    · rename_i he
      have := eq_of_beq he
      cases h; subst this
      exact List.mem_cons_self ..
    · exact List.mem_cons_of_mem _ (lookup_mem' h)
/-- kitAny over built-in types, computed -/
def kitsB' (a : String) : List String → Option Bool
  | [] => some false
  | t :: ts => match kitB a t with
    | some true => some true
    | some false => kitsB' a ts
    | none => none
theorem kitsB'_ok {K : PySem.W.Frag} {a : String} : ∀ {ts : List String} {r : Bool}, kitsB' a ts = some r → PySem.W.kitAny K (.type a) (ts.map Value.type) = some r
  | [], r, h => by cases h; rfl
  | t :: ts, r, h => by
    unfold kitsB' at h
    rw [List.map_cons]
    unfold PySem.W.kitAny
    cases e : kitB a t with
    | none => rw [e] at h; cases h
    | some b =>
      rw [e] at h
      rw [kit_ty (K := K) e]
      cases b with
      | true => exact h
      | false => exact kitsB'_ok h
theorem cv_isiTup {ts : List String} {subs : String → Bool} {own : List (Str × Bool)} (hs : ∀ n, n ∈ tyNames → kitsB' n ts = some (subs n) := by decide +kernel)
    (ho : ∀ p ∈ own, ClsI X.K p.1 ∧ PySem.W.kitAny X.K (.ref (ga X.K p.1)) (ts.map Value.type) = some p.2) : CallV X W (.builtin "isinstance") (isiTM ts subs own) := by
  intro xs as σ H F P0 Mm ρ b Q B r h
  unfold isiTM at h
  split at h
  · rename_i x cs
    split at h
    · rename_i hc
      cases r with
      | cons rx rr =>
        cases rr with
        | cons rc rr =>
          cases rr
          cases rc with
          | tup ha r2 =>
            rename_i tp vs2
            rw [tysOf_map hc] at r2
            have ev := r2.tys
            -- the answer, whatever the tuple's kind
            rename_i xv
            have fin : ∀ (t : Value) (k : Bool), TyX X.K H xv t → PySem.W.kitAny X.K t (ts.map Value.type) = some k → Q (.bl k) H → ∃ r, CallR X (.builtin "isinstance") r ∧ r [xv, .ref tp] H Q := by
              intro t k ty kk q
              have sq := Rep.sqT (P := fun _ => none) B ha
              rcases sq with (sq | ⟨o, sq⟩) | ⟨o, its, n, h1, h2, h3, h4, h5⟩
              · exact ⟨_, call_isiT, _, tp, _, t, _, k, rfl, sq, by rw [ev]; exact clsV_tys ts, ty, kk, q⟩
              · rcases ha with ha | ha
                · have z : H tp = some (.tup vs2) := by
                    obtain ⟨P, qq, BB⟩ := id B
                    have := BB.h.fh _ _ ha
                    rwa [if_neg (by simp [isDict])] at this
                  rw [z] at sq; cases sq
                · rcases ha with (ha | ⟨o', ha⟩) | ⟨o, its, n, h1, h2, h3, h4, h5⟩
                  · cases ha
                  · cases ha
                  · obtain ⟨oc, od, dt, sl⟩ := o
                    simp only at h2 h3
                    subst h2 h3
                    have e2 : its.toList = ts.map Value.type := vals_tys (by rw [← ev]; exact h5)
                    refine ⟨_, call_isiK, _, tp, od, ts.map Value.type, n, sl, t, k, rfl, ?_, ty, kk, q⟩
                    rw [h1, ← e2]
              · obtain ⟨oc, od, dt, sl⟩ := o
                simp only at h2 h3
                subst h2 h3
                have e2 : its.toList = ts.map Value.type := vals_tys (by rw [← ev]; exact h5)
                refine ⟨_, call_isiK, _, tp, od, ts.map Value.type, n, sl, t, k, rfl, ?_, ty, kk, q⟩
                rw [h1, ← e2]
            cases ht : tyD x b.g with
            | none => rw [ht] at h; exact h.elim
            | some t =>
              rw [ht] at h
              cases t with
              | inl n =>
                obtain ⟨t1, t2⟩ := tyX_of B rx ht fun c e => nomatch e
                exact fin _ _ t1 (kitsB'_ok (hs n (t2 n rfl))) (h.now B (.bl _))
              | inr y =>
                dsimp only at h
                cases ek : own.lookup y with
                | none => rw [ek] at h; exact h.elim
                | some k =>
                  rw [ek] at h
                  obtain ⟨c1, c2⟩ := ho _ (lookup_mem' ek)
                  obtain ⟨t1, _⟩ := tyX_of B rx ht fun c e => by cases e; exact c1
                  exact fin _ _ t1 c2 (h.now B (.bl _))
    · exact h.elim
  · exact h.elim
/-! ### x op= e, ints -/
def augV (n : Nat) (f : Int → Int → Int) (me : M D) : M Fl := fun b => match b.t[n]? with
  | some (some (.val (.int i))) => M.bind me (fun d b => match d with
    | .int j => .ok .nx { b with t := b.t.set n (some (.val (.int (f i j)))) }
    | _ => .fail) b
  | _ => .fail
theorem ss_aug {n : Nat} {x : Str} {pos' : Pos} {op : Operator} {f : Int → Int → Int} (hN : X.N.Nodup) (ho : PIp X op (ipI f)) (he : SE X W e me) (hi : X.N[n]? = some x := by rfl) (hx : Loc X.env.scope x := by first | exact Or.inl rfl | exact Or.inr rfl)
    (hf : X.fn x = true ∨ X.env.scope.names.lookup x = some .local := by first | exact .inl rfl | exact .inr rfl | assumption) : SS X W (.AugAssign (.Name x pos') op e pos) (augV n f me) :=
  SS.of (ps_aug hN hi hx he ho hf) fun σ H F P0 Mm ρ b D B q => by
    unfold augV at q
    split at q
    · rename_i i e0
      obtain ⟨v, hv⟩ := B.slotV e0
      have rv := B.valV e0 hv
      cases rv
      refine ⟨_, hv, sM_then B q fun y d F1 M1 r1 b1 H1 l1 e1 B1 q1 h1 => ?_⟩
      cases q1 with
      | int j => exact ⟨i, j, rfl, rfl, PostS.nxt (W := W) h1 (B1.setV n (.int _))⟩
      | _ => exact h1.elim
    · exact q.elim
/-! ### o.f op= e, ints -/
def faugM (c f : Str) (g : Int → Int → Int) (mo me : M D) : M Fl := M.bind mo fun x => fun b => match x with
  | .ptr k => (match b.g.S k with
    | some (.ins c' fs) => if c' = c then (match fs.lookup f with
      | some (.int i) => M.bind me (fun y b => match y, b.g.S k with
        | .int j, some (.ins c2 fs2) => if c2 = c ∧ fs2.length < 1000 then .ok .nx { b with g := b.g.put k (.ins c (dputF f (.int (g i j)) fs2)) } else .fail
        | _, _ => .fail) b
      | _ => .fail) else .fail
    | _ => .fail)
  | _ => .fail
theorem ss_faug {c f : Str} {tpos : Pos} {op : Operator} {g : Int → Int → Int} (hop : InOp X op (fun x y H Q => ∃ i j, x = .int i ∧ y = .int j ∧ Q (.int (g i j)) H)) (ho : SE X W o mo) (he : SE X W e me) (cl : Cls X.K (ga X.K c)) (na : NoAttr X.K (ga X.K c) f) :
    SS X W (.AugAssign (.Attribute o f tpos) op e pos) (faugM c f g mo me) :=
  SS.of (ps_fldaug ho he hop) fun σ H F P0 Mm ρ b D B q => sM_then B q fun x d F1 M1 r1 b1 H1 l1 e1 B1 q1 h1 => by
    cases q1 with
    | ptr hk =>
      rename_i a k
      dsimp only at h1
      cases es : b1.g.S k with
      | none => rw [es] at h1; exact h1.elim
      | some so =>
        rw [es] at h1
        cases so with
        | ins c' fs =>
          dsimp only at h1
          by_cases hc : c' = c
          · rw [if_pos hc] at h1
            subst hc
            obtain ⟨P, qq, BB⟩ := id B1
            obtain ⟨a', dx, vs, y1, y2, y3, y4, y5, y6⟩ := BB.h.insAt es
            rw [hk] at y1; cases y1
            cases el : fs.lookup f with
            | none => rw [el] at h1; exact h1.elim
            | some dv =>
              rw [el] at h1
              obtain ⟨v, lv, rv⟩ := (fs_find (f := f) y5 y6).1 _ el
              cases dv with
              | int i =>
                cases rv
                refine ⟨a, _, dx, vs, _, rfl, y4, cl, na, lv, sM_then B1 h1 fun y d2 F2 M2 r2 b2 H2 l2 e2 B2 q2 h2 => ?_⟩
                cases q2 with
                | int j =>
                  refine ⟨i, j, rfl, rfl, ?_⟩
                  cases es2 : b2.g.S k with
                  | none => rw [es2] at h2; exact h2.elim
                  | some so2 =>
                    rw [es2] at h2
                    cases so2 with
                    | ins c2 fs2 =>
                      dsimp only at h2
                      by_cases hc2 : c2 = c' ∧ fs2.length < 1000
                      · rw [if_pos hc2] at h2
                        obtain ⟨hc2, hz⟩ := hc2
                        subst hc2
                        obtain ⟨P, q, BB⟩ := B2
                        obtain ⟨a', dx2, vs2, z1, z2, z3, z4, z5, z6⟩ := BB.h.insAt es2
                        rw [e2.p _ _ hk] at z1; cases z1
                        have hl : vs2.length = fs2.length := by have := congrArg List.length z5; simpa using this
                        obtain ⟨w1, w2⟩ := fs_put (f := f) (Rep.int (K := X.K) (F := F2) (ρ := r2) (g i j)) z5 z6
                        exact ⟨dx2, vs2, z4, by rw [hl]; exact hz, PostS.nxt (W := W) h2 ⟨P, q, BB.h.putI es2 (e2.p _ _ hk) z2 z3 w1 w2, BB.pp, BB.len, BB.qi, BB.sl⟩⟩
                      · rw [if_neg hc2] at h2; exact h2.elim
                    | _ => exact h2.elim
                | _ => cases b2.g.S k <;> exact h2.elim
              | _ => exact h1.elim
          · rw [if_neg hc] at h1; exact h1.elim
        | _ => exact h1.elim
    | _ => exact h1.elim
end
end L2.VI
/-! VI19: repr of lists and tuples: it wants to know that no repr is under way, so the defs that use it promise a little less. -/
namespace L2.VI
open PySem PySem.Spec PyProof.Rows He
/-- a def's promise where no repr is under way -/
structure FnG (P : Program) (w : World) (K : PySem.W.Frag) (mg : Str → Option Value) (base : Heap) (k : Nat) (f : Addr) (fd : FuncData) (ps : List Str) (sp : Sp) : Prop where
  n : ∀ zs G R T, sp zs G R T → zs.length = ps.length
  go : ∀ {A : Around}, A.guards = some [] → ∀ (o : List Env) (s : Shared) (G : Hp) (as : Args) (ws : List Value) (zs : List V) (R : VK) (T : XK), Room k A → Env0 P w K mg base A o s G → BindsTo s fd as (ps.zip ws) → Vals zs ws → sp zs G R T →
    codeAny (model P w) A (.call (.ref f) as) (CR (CV P w) o P w G s R T) s
theorem FnG.of {P : Program} {w : World} {K : PySem.W.Frag} {mg : Str → Option Value} {base : Heap} {k : Nat} {f : Addr} {fd : FuncData} {ps : List Str} {sp : Sp} (F : FnOk P w K mg base (CV P w) k f fd ps sp) : FnG P w K mg base k f fd ps sp :=
  ⟨F.len, fun _ o s G as ws zs R T hr e b v h => F.run _ o s G as ws zs R T hr e b v h⟩
section
variable {P : Program} {w : World} {K : PySem.W.Frag} {mg : Str → Option Value} {base : Heap} {x qual : Str} {params : Arguments} {body : List Stmt} {scope : Scope} {dvs : List V} {kws : List (Str × V)} {f : Addr} {fd : FuncData}
theorem fnG_of {N ps : List Str} {k : Nat} {sp : Sp} (F : FunD K x qual params body scope dvs kws f fd) (S : FnScope N ps scope) (len : ∀ zs G R T, sp zs G R T → zs.length = ps.length)
    (hb : ∀ (cdv : Value) (A : Around) (o : List Env) (s : Shared) (G : Hp) (zs : List V) (R : VK) (T : XK), A.guards = some [] → Room k (A.deeper (envOfC qual scope s.heap.objs.size f cdv)) → sp zs G R T →
      ∃ t, PSs (cxOf (CV P w) P w K mg base N qual scope f cdv A o s G T) body t ∧ t { nx := fun _ G' => R .non G', rt := R } (L2.start N zs) G) : FnG P w K mg base (k + 1) f fd ps sp := by
  obtain ⟨oc, od, dV, kV, doc, pm, an, cdv, ct, osl, rfl, lk, hcd, _, _⟩ := F.ex
  refine ⟨len, ?_⟩
  intro A hA o s G as ws zs R T hr e0 hbind r hsp
  have keepB : ∀ b ob, base.get? b = some ob → s.heap.get? b = some ob := fun b ob e => (e0.bs b ob e).1
  have KS := e0.mod.kin.keeps keepB
  have kinds : ∀ y ∈ ps.zip ws, scope.names.lookup y.1 = some .local ∨ (scope.names.lookup y.1 = some .cell ∧ ((cellsFrom (s.heap.objs.size + 1) scope.names []).lookup y.1).isSome = true) := by
    rintro ⟨n, v⟩ hy
    exact (S.par n (List.of_mem_zip hy).1).imp id fun q => ⟨q, PySem.W.cellsFrom_some _ _ _ (.inl q)⟩
  apply codeAny_call_function hr.depth (KS _ _ lk) rfl S.co S.gen rfl (PySem.W.codeRec_of KS hcd)
  apply hbind
  apply wpAny_newFunctionEnv_cells S.kind kinds
  rintro env rfl s1 ic
  obtain ⟨t, ht, hq⟩ := hb cdv A o s G zs R T hA (hr.deeper _) hsp
  refine ⟨(e0.mod.nolimit.keeps keepB).keeps ic.toInCall.keep, codeAny_func (wpAny_mono (ht.run [] s1 (L2.start N zs) G _ (inv_start S hr.hd e0 (len _ _ _ _ hsp) r ic) hq) ?_ fun e s' z => z)⟩
  intro fl s' z
  cases fl with
  | ret u => obtain ⟨v, σ', G', J, rv, q⟩ := z; exact ⟨v, G', J.os, J.bare, J.base, J.hok, rv, q⟩
  | next => obtain ⟨σ', G', J, q⟩ := z; exact ⟨.non, G', J.os, J.bare, J.base, J.hok, rfl, q⟩
  | brk => obtain ⟨_, _, _, q⟩ := z; exact q.elim
  | cont => obtain ⟨_, _, _, q⟩ := z; exact q.elim
/-- THE RULE of such a def -/
theorem fn_okG {N ps : List Str} {k n sl : Nat} {m : M Fl} (F : FunD K x qual params body scope dvs kws f fd) (S : FnScope N ps scope) (hn : ps.length = n) (hs : N.length = sl)
    (hb : ∀ (cdv : Value) (A : Around) (o : List Env) (s : Shared) (G : Hp) (T : XK), (cxOf (CV P w) P w K mg base N qual scope f cdv A o s G T).A.guards = some [] → Room k (A.deeper (envOfC qual scope s.heap.objs.size f cdv)) → SSs (cxOf (CV P w) P w K mg base N qual scope f cdv A o s G T) (fun cls d _ G => T cls d G) body m) :
    FnG P w K mg base (k + 1) f fd ps (spV K n (fnBody n sl m)) := by
  subst hn hs
  refine fnG_of F S (fun zs G R T h => h.1) fun cdv A o s G zs R T hA hr h => ⟨_, hb cdv A o s G T hA hr, ?_⟩
  obtain ⟨hl, F0, P0, Mm, ρ, g, ds, hR, r, q⟩ := h
  have hd : ds.length = ps.length := r.length.symm.trans hl
  refine ⟨F0, P0, Mm, ρ, _, BRel.start (N := N) hR r, ?_⟩
  unfold fnBody at q
  rw [if_pos hd, ← hd] at q
  generalize m ⟨g, ds.map (fun d => some (Slot.val d)) ++ List.replicate (N.length - ds.length) none⟩ = z at q ⊢
  rcases z with ⟨fl, b⟩ | ⟨e, b⟩ | _
  · rcases fl with _ | _ | _ | d
    · exact fun σ' F' M' ρ' H' l r' B' => q .non F' M' ρ' H' l r' B'.weak .non
    all_goals first | exact q.elim | exact fun v σ' F' M' ρ' H' l r' B' rv => q v F' M' ρ' H' l r' B'.weak rv
  · exact fun cls d σ' F' M' ρ' H' l r' B' rx => q cls d F' M' ρ' H' l r' B'.weak rx
  · exact q.elim
end
/-! ### calls of such defs -/
section
variable {X : Cx} {W : WX} {k : Nat} {f : Addr} {fd : FuncData} {ps : List Str} {n : Nat} {m : FnD} {x : Str} {p pos : Pos} {e : Expr} {es : List Expr} {mas : M (List D)} {sp : Sp} {T : St → XK} {t : TA}
theorem pe_callG (F : FnG X.prog X.w X.K X.mg X.base k f fd ps sp) (hA : X.A.guards = some []) (hr : Room k X.A) (hg : Gl X x) (hm : X.mg x = some (.ref f)) (hk : PySem.W.keepIn X.K (.ref f) = true) (hb : Binds X.K fd ps []) (hx : ∀ σ, PassesAt (CV X.prog X.w) X σ (T σ))
    (ha : PA X (e :: es) t) (hdb : (x == ("__debug__" : Str)) = false) (he : starEach (e :: es) X.env = (false, eval e X.env) :: starEach es X.env) (hpl : (backTo pos (starEach es X.env)).any (·.1) = false) : PE X (.Call (.Name x p) (e :: es) [] pos) (tCallSD sp [] T t) := by
  constructor
  intro pins s σ H Q I h
  apply wpAny_Call_Name_kw
  apply ld_glob I hg hm _ hdb
  refine PySem.W.callWith_K (h₀ := X.base) I.ok.mod.kin hk (thn (ha.run pos pins s σ H _ I h) ?_) he hpl
  rintro ws s1 ⟨zs, H1, J, r, q⟩
  rw [List.append_nil] at q
  have hl : (ws ++ []).length = ps.length := by rw [List.append_nil, ← r.length]; exact F.n _ _ _ _ q
  have hbind := hb s1 ws J.kIn hl
  rw [List.append_nil] at hbind
  refine ⟨J.kIn, wpAny_call (codeAny_mono (F.go hA X.stack s1 H1 ⟨ws, []⟩ ws zs Q (T σ) hr J.env0 hbind r q) ?_)⟩
  rintro (er | fl) s' z
  · exact hx σ pins H1 s1 er s' J z
  · cases fl with
    | ret u => exact J.after z
    | _ => exact False.elim z
theorem se_callG (tk : Takes X W) (F : FnG X.prog X.w X.K X.mg X.base k f fd ps (spV X.K n m)) (hA : X.A.guards = some []) (ar : Ar m n) (hr : Room k X.A) (hm : X.mg x = some (.ref f)) (hk : PySem.W.keepIn X.K (.ref f) = true) (hb : Binds X.K fd ps [])
    (ha : SA X W (e :: es) mas) (hg : Gl X x := by rfl) (hdb : (x == ("__debug__" : Str)) = false := by decide) (he : starEach (e :: es) X.env = (false, eval e X.env) :: starEach es X.env := by rfl) (hpl : (backTo pos (starEach es X.env)).any (·.1) = false := by rfl) :
    SE X W (.Call (.Name x p) (e :: es) [] pos) (M.bind mas (callF m)) := by
  refine SE.of (pe_callG (T := WE W) F hA hr hg hm hk hb (fun σ => passAt tk σ) ha hdb he hpl) fun σ H Fz P0 Mm ρ bs Q B q => ?_
  refine tM_then B q fun xs zs F1 M1 r1 b1 H1 l1 e1 B1 q1 h1 => ?_
  rw [List.append_nil]
  exact sp_of ar B1 q1 h1
end
/-! ### repr -/
section
variable {X : Cx} {W : WX} {x y : V}
def shownD (g : GSt) (d : D) : Option Str := match toPy (seeD g d) with
  | some e => if e.showable = true ∧ e.hasDict = false ∧ e.depth ≤ 60 ∧ e.shown.length ≤ sizeLine then some e.shown else none
  | none => none
def D.isSeq : D → Bool
  | .lst _ => true
  | .tup _ => true
  | .ptr _ => true
  | _ => false
def reprG : List D → M D := fun as b => match as with
  | [d] => if d.isSeq = true then (match shownD b.g d with
    | some z => .ok (.str z) b
    | none => .fail) else reprD [d] b
  | _ => .fail
theorem cr_reprG (hA : X.A.guards = some []) (hu : X.A.units + 64 < cLine) : CallR X (.builtin "repr") fun xs H Q => ∃ (a : Addr) (e : PyData), xs = [.ref a] ∧ Dp X.K H (.ref a) e ∧ (e.showable = true ∧ e.hasDict = false ∧ e.depth ≤ 60 ∧ e.shown.length ≤ sizeLine) ∧ Q (.str e.shown) H := by
  rintro pins s σ H xs us Q I r ⟨a, e, rfl, h, ⟨h1, h2, h3, h4⟩, q⟩
  cases r with | cons r rr =>
    cases rr
    cases r
    obtain ⟨as, rd⟩ := Dp.reads I e _ (.ref a) h rfl
    exact repr_of_reads' rd h1 (PyData.noDict_hsm h2) hA (by omega) (fun b o z => z) (fun h' u tk hk => ⟨.str e.shown, H, I.kept hk, ⟨u, rfl⟩, q⟩) h4
theorem dp_see {K : PySem.W.Frag} {F : Hp} {fc : FrC} {P0 : PX fc} {Mm H : Hp} {ρ : Rho} {b : BSt} {σ : St} {v : V} {d : D} {e : PyData} (B : BRel K F P0 Mm ρ b σ H) (r : Rep K F ρ v d) (h : toPy (seeD b.g d) = some e) : Dp K H v e := by
  cases r with
  | ptr hk =>
    rename_i p j
    unfold seeD at h
    dsimp only at h
    split at h
    · rename_i ds eS
      obtain ⟨P, q, BB⟩ := id B
      obtain ⟨a', h1, vs, h2, h3⟩ := BB.h.st j _ eS
      rw [hk] at h1; cases h1
      unfold toPy at h
      cases e3 : toPyAll ds with
      | none => rw [e3] at h; cases h
      | some es =>
        rw [e3] at h; cases h
        exact .lst (SqL.of (BB.h.mh _ _ h2)) (RepAll.dp B h3 e3)
    · simp [toPy] at h
  | non => exact Rep.dp B .non h
  | bl i => exact Rep.dp B (.bl i) h
  | int i => exact Rep.dp B (.int i) h
  | str i => exact Rep.dp B (.str i) h
  | ty i => exact Rep.dp B (.ty i) h
  | glo i => exact Rep.dp B (.glo i) h
  | tup h1 h2 => exact Rep.dp B (.tup h1 h2) h
  | lst h1 h2 => exact Rep.dp B (.lst h1 h2) h
  | dic h1 h2 h3 => exact Rep.dp B (.dic h1 h2 h3) h
  | scr h1 => exact Rep.dp B (.scr h1) h
  | xob h1 h2 h3 h4 => exact Rep.dp B (.xob h1 h2 h3 h4) h
  | xob0 h1 => exact Rep.dp B (.xob0 h1) h
  | lam h1 h2 h3 h4 => exact Rep.dp B (.lam h1 h2 h3 h4) h
theorem Rep.ref_of {K : PySem.W.Frag} {F : Hp} {ρ : Rho} {v : V} {d : D} (r : Rep K F ρ v d) (h : d.isSeq = true) : ∃ a, v = .ref a := by
  cases r <;> first | exact ⟨_, rfl⟩ | exact absurd h Bool.false_ne_true
theorem cv_reprG {k : Nat} (hA : X.A.guards = some []) (hr : Room k X.A) : CallV X W (.builtin "repr") reprG := by
  intro xs as σ H F P0 Mm ρ b Q B r h
  unfold reprG at h
  split at h
  · rename_i d
    split at h
    · rename_i hd
      cases es : shownD b.g d with
      | none => rw [es] at h; exact h.elim
      | some z =>
        rw [es] at h
        unfold shownD at es
        cases ep : toPy (seeD b.g d) with
        | none => rw [ep] at es; cases es
        | some e =>
          rw [ep] at es
          dsimp only at es
          split at es
          · rename_i ok
            cases es
            cases r with | cons r rr =>
            cases rr
            obtain ⟨a, rfl⟩ := r.ref_of hd
            exact ⟨_, cr_reprG hA hr.units, a, e, rfl, dp_see B r ep, ok, h.now B (.str _)⟩
          · cases es
    · exact cv_repr _ _ _ _ _ _ _ _ _ _ B r h
  · exact h.elim
end
/-! ### the law's end -/
/-- the law's promise at its heap: only the script may be tracked -/
theorem law_callG {P : Program} {w : World} {K : PySem.W.Frag} {mg mb : Str → Option Value} {k : Nat} {af a : Addr} {fd : FuncData} {x : Str} {sp : Sp} {t : Shared} {us : List Value} {is : List Int}
    (KX : K.In t.heap) (hns : t.heap.Ns mainGlobals mg) (hb : t.heap.Ns builtinsNs mb) (hbb : ∀ x : Str, x ≠ "__name__" → mb x = bootBuiltins x) (hlim : t.heap.NoLimit) (hg : t.gens = #[]) (ha : t.heap.get? a = some { cls := .type "list", data := .seq us.toArray })
    (hi : IntsAre us is) (hl : is.length ≤ sizeLine) (hr : Room k callerA) (F : ∀ base : Heap, K.In base → base.Ns mainGlobals mg → FnG P w K mg base k af fd [x] sp) (hbind : ∀ (s : Shared) (u : Value), BindsTo s fd ⟨[u], []⟩ [(x, u)])
    (hsp : ∀ H : Hp, Only H → SqL K H a (is.map V.int) → sp [.ref a] H (fun v _ => v = .bl true) fun _ _ _ => False) (hCX : ∀ H e s', CV P w [] H t (fun _ _ _ => False) e s' → False) :
    codeAny (model P w) callerA (.call (.ref af) ⟨[.ref a], []⟩) (fun r s' => r = .ok (.ret (.bool true)) ∧ OldK t.heap s'.heap ∧ s'.os = t.os ∧ AllBare s'.gens) t := by
  have rv := vals_ints hi
  suffices core : ∃ H : Hp, Only H ∧ SqL K H a (is.map V.int) ∧ HOk P w H t.heap ∧ (∀ b, H b ≠ none → b = a ∧ K.lookup a = none) by
    obtain ⟨H, hO, hS, hok, hA⟩ := core
    have free : ∀ b, b ≠ a → H b = none := fun b hb => Classical.byContradiction fun z => hb (hA b z).1
    have hid : ∀ {b : Addr} {o : Obj}, t.heap.get? b = some o → H b = none → (hidT t.heap H).get? b = some o := fun e n => hidT_get e n
    have nsK : ∀ {b : Addr} {m : Str → Option Value}, t.heap.Ns b m → (hidT t.heap H).Ns b m := by
      rintro b m ⟨o, es, ep, e, d, r⟩
      refine ⟨o, es, ep, hid e (free b ?_), d, r⟩
      rintro rfl
      rw [ha] at e
      cases e
      cases d
    have KB : K.In (hidT t.heap H) := fun b o e => hid (KX b o e) (Classical.byContradiction fun z => by
      obtain ⟨rfl, n⟩ := hA b z
      rw [n] at e; cases e)
    obtain ⟨mc, l1, l2⟩ := hlim
    have E : Env0 P w K mg (hidT t.heap H) callerA [] t H := ⟨rfl, ⟨KB, nsK hns, ⟨mb, nsK hb, hbb⟩, ⟨mc, nsK l1, l2⟩⟩, fun b o e => of_hidT e, Nat.le_of_eq (hidT_size _ _), trivial, fun b z => (nomatch (show b ∈ ([] : List Addr) from z)), hok, .of_eq hg⟩
    refine codeAny_mono ((F _ KB (nsK hns)).go rfl [] t H ⟨[.ref a], []⟩ [.ref a] [.ref a] _ _ hr E (hbind t (.ref a)) (.cons rfl .nil) (hsp H hO hS)) ?_
    rintro (e | fl) s' z
    · exact (hCX H e s' z).elim
    · cases fl with
      | ret u =>
        obtain ⟨v, H', os, bare, un, hok', r', rfl⟩ := z
        obtain rfl : u = Value.bool true := r'
        refine ⟨rfl, OldK.of_keep fun b o e => ?_, os, bare⟩
        rcases hO b with n | ⟨ob, xs, n⟩
        · exact un.keep b o e n (fun z => by cases (show b ∈ ([] : List Addr) from z)) (by simp)
        · obtain ⟨e1, _⟩ := hok b _ n
          obtain ⟨e2, _⟩ := hok' b _ (un.frzs b ob _ n)
          rw [e] at e1
          cases e1
          exact e2
      | _ => exact False.elim z
  cases hk : K.lookup a with
  | some o =>
    have e := KX a o hk
    rw [ha] at e
    cases e
    exact ⟨fun _ => none, fun _ => .inl rfl, .inr ⟨_, us.toArray, _, hk, rfl, rfl, rfl, by rw [List.size_toArray, hi.length]; exact hl, by simpa using rv⟩, fun b u z => (by cases (show (none : Option HO) = some u from z)), fun b z => absurd rfl z⟩
  | none =>
    let o : Obj := { cls := .type "list", data := .seq us.toArray }
    have yes : ∀ b, b = a → (fun b => if b = a then some (HO.frz o (.lst (is.map V.int))) else none) b = some (HO.frz o (.lst (is.map V.int))) := fun b h => if_pos h
    have no : ∀ b, b ≠ a → (fun b => if b = a then some (HO.frz o (.lst (is.map V.int))) else none) b = none := fun b h => if_neg h
    refine ⟨fun b => if b = a then some (.frz o (.lst (is.map V.int))) else none, fun b => ?_, .inl (.inr ⟨o, yes a rfl⟩), fun b u z => ?_, fun b z => ?_⟩
    · by_cases h : b = a
      · exact .inr ⟨_, _, yes b h⟩
      · exact .inl (no b h)
    · by_cases h : b = a
      · have z2 := (yes b h).symm.trans z
        cases z2
        subst h
        exact ⟨ha, by rw [List.length_map]; exact hl, us, _, rv, ha⟩
      · have z2 := (no b h).symm.trans z
        cases z2
    · by_cases h : b = a
      · exact ⟨h, rfl⟩
      · exact (z (no b h)).elim
def LawG (l : PySem.W.OpenLaw) (wo : World) (lv n : Nat) (x : Str) (gm : Str → Option Value) (af : Addr) (K : PySem.W.Frag) (law : FnD) : Prop :=
  ∃ fd : FuncData, (∀ (t : Shared) (u : Value), BindsTo t fd ⟨[u], []⟩ [(x, u)]) ∧ (∀ ns : List Int, ns.length ≤ n → ∃ g', law [.scr ns] ⟨fun _ => none, 0⟩ = .ok (.bl true) g') ∧
    ∀ bs : Heap, K.In bs → bs.Ns mainGlobals gm → FnG l.prog wo K gm bs lv af fd [x] (spV K 1 law)
theorem walkG {l : PySem.W.OpenLaw} {n lv : Nat} {vw : Program} {ls : List Str} {XP : (Str → Option Value) → Heap → Prop} {YP : World → Heap → Prop} {d : DefRec} {x : Str} {law : FnD} (hn : l.most = some n) (hz : n ≤ sizeLine) (hd : d.params.defaults = []) (hr : Room lv callerA)
    (hF : ∀ (wo : World) (gm : Str → Option Value) (af : Addr) (hp : Heap), YP wo hp → hp.Ns mainGlobals gm → gm d.name = some (.ref af) → ∃ K : PySem.W.Frag, K.In hp ∧ LawG l wo lv n x gm af K law) :
    PySem.W.WalkO vw ls XP YP l.row.toRowW d [] (fun g us => PySem.call g us) := by
  refine Att.attach_call hn hd ?_
  intro wo t0 t1 gm bm af ob pv cv dc al us is GG YY h1 h2 h3 h4 h5 h6 h7 h8
  obtain ⟨K, hK, fd, b, e, f⟩ := hF wo gm af _ YY GG.T.g h4
  have cx : ∀ (H : Hp) (u : Value) (t : Shared), CV l.prog wo [] H t1 (fun _ _ _ => False) u t → False := fun H u t ⟨_, _, _, _, _, _, _, _, _, _, _, _, z⟩ => z
  exact law_callG hK GG.T.g GG.T.b GG.T.builtins GG.T.nolimit h8 h5 h6 (Nat.le_trans h7 hz) hr f b (fun H hO hS => sp_law hO hS (e is h7)) cx
end L2.VI
/-! VI20: an own exception class whose __init__ says super().__init__(a text) and keeps its one parameter. -/
namespace L2.VI.Sup
open PySem PySem.W PySem.Calls PySem.Spec PyProof.Rows
section
variable {P : Program} {w : World} {A : Around} {R : Result → Shared → Prop} {K : Frag}
/-- the bound ValueError.__init__, called: the args are laid anew -/
theorem bound_call {C e q t0 : Addr} {rest : List Value} {E : Value → Shared → Prop} {Q : Value → Shared → Prop} {h : Heap} {g : Array GenState} {d : Drawn} {t : Nat} {os : OsState}
    {nm qn : Str} {N : Addr} {bs bm : List Value} {hd : Bool} {sn : List Str} {sub : List Value} {ab : Bool} {col : Option Bool} {dd : Option Addr} {k0 k1 k2 k3 k5 : Option Value}
    (hC : h.get? C = some (excClassObj nm qn C N bs bm hd sn sub ab col dd k0 k1 k2 k3 k5 "ValueError.__new__")) (he : h.get? e = some (HandSPX.excO C t0)) (hq : h.get? q = some (kxs_mw "ValueError.__init__" e)) (hz : rest.length ≤ sizeLine)
    (fin : ∀ h' t1, (∀ b o, b ≠ e → h.get? b = some o → h'.get? b = some o) → h'.get? e = some (HandSPX.excO C t1) → Q .none ⟨h', g, d, t, os⟩) : wpAny (model P w) A (call (.ref q) rest) Q E ⟨h, g, d, t, os⟩ := by
  have c1 : (Value.type "method-wrapper" == Value.type "method" || Value.type "method-wrapper" == Value.type "builtin_function_or_method" || Value.type "method-wrapper" == Value.type "method-wrapper") = true := by decide
  refine wpAny_call (codeAny_of_tree (show wpAny _ A.in1 (callAny (.ref q) ⟨rest, []⟩) _ _ _ from ?_))
  simp only [callAny]
  refine wpAny_bind (wpAny_load hq ?_)
  simp only [kxs_mw, c1, if_true]
  refine KFB.if_so (by decide) (wpAny_bind (check_bound_init F.excBase_ValueError.toExcCallFacts hC he rfl (wpAny_bind (wpAny_pure (wpAny_pure ?_)))))
  refine ⟨plainId_quiet F.excBase_ValueError.init.plain _, codeAny_builtin F.excBase_ValueError.initEntry (exc_init_tree (cls := .ref C) (t0 := t0) (dv := none) (c2 := .none) (c3 := .none) (b4 := .bool false) he hz ?_)⟩
  exact fun h' k x _ => fin h' _ k x
/-- what is known of such a class C, its __init__ at fI -/
structure SupC (P : Program) (K : Frag) (C fI : Addr) (slf prm f : Str) (fd : FuncData) : Prop where
  ex : ∃ (name qual msg file : Str) (params : Arguments) (scope : Scope) (dV kV doc pm ct oc : Value) (an od : Option Addr) (osl : Array (Option Value)) (cc cda : Addr) (k : Nat) (p0 p1 p2 p3 p4 p5 p6 p7 p8 p9 : Pos) (ccl cl : Value) (cdd cld : Option Addr) (vs ccs' : Array Value) (ccs csl : Array (Option Value)) (tf : Tok) (ar : Arg),
    fd = ksFn name qual params [.Expr (.Call (.Attribute (.Call (.Name "super" p0) [] [] p1) "__init__" p2) [.Constant (.str msg) k p3] [] p4) p5, .Assign [.Attribute (.Name slf p6) f p7] (.Name prm p8) p9] scope dV kV doc pm an (.ref cda) ct cc ∧
    K.lookup fI = some ⟨oc, od, .func fd, osl⟩ ∧ codeIn K (.ref cda) qual = true ∧ K.lookup cda = some ⟨ccl, cdd, .fields vs, ccs⟩ ∧ vs[2]? = some (.str file tf) ∧ ((P.main.file : Str) == file) = true ∧ K.lookup cc = some ⟨cl, cld, .cell (some (.ref C)), csl⟩ ∧
    (params.posonlyargs ++ params.args).head? = some ar ∧ ar.arg = slf ∧ scope.names.lookup ("super" : Str) = some .globalImplicit ∧ scope.names.lookup ("__class__" : Str) = some .free ∧ scope.names.lookup slf = some .local ∧ scope.names.lookup prm = some .local ∧ scope.kind = .function ∧
    (∀ x ∈ scope.names, x.2 ≠ .cell) ∧ scope.isCoroutine = false ∧ scope.isGenerator = false ∧ (p2.endLine == p4.line) = true
  ne : (slf == prm) = false
  dslf : (slf == ("__debug__" : Str)) = false
  dprm : (prm == ("__debug__" : Str)) = false
  cls : ∃ nm q N bs bm sn sub ab col dd k0 k1 k2 k3 k5, K.lookup C = some (excClassObj nm q C N bs bm true sn sub ab col dd k0 k1 k2 k3 k5 "ValueError.__new__") ∧ HandSPX.refsVE bm = true ∧ alongIn K "__init__" bm = some (some (.builtin "ValueError.__init__"))
  sa : findIn K (.ref C) "__setattr__" = some (some (.builtin "object.__setattr__"))
  no : findIn K (.ref C) f = some none
  sub : mroIn K C (.ref C) = some true
  subVE : subIn K (.ref C) (.type "ValueError") = some true
  tp : nsIn K cStatics "thirdparty.any" = some none
  su : nsIn K mainGlobals "super" = some none
  top : (P.main.scope.names.lookup ("super" : Str)).isSome = false
theorem call_form {env : Env} {p0 p1 p2 p3 p4 : Pos} {msg : Str} {k : Nat} (hl : (p2.endLine == p4.line) = true) : eval (.Call (.Attribute (.Call (.Name "super" p0) [] [] p1) "__init__" p2) [.Constant (.str msg) k p3] [] p4) env = (do
    let ov ← attributeBase (.Call (.Name "super" p0) [] [] p1) "__init__" env (eval (.Call (.Name "super" p0) [] [] p1) env)
    standAt p2.atName
    let (f, first) ← holding [ov] (getMethod ov "__init__" (do return (← importBound (.Call (.Name "super" p0) [] [] p1) env).getD true))
    callWith p4 f first (backTo p4 (starEach [.Constant (.str msg) k p3] env)) []) := by
  have hm : ∀ ov, methodCall (.Call (.Name "super" p0) [] [] p1) "__init__" p2 p4 env ov 1 (backTo p4 (starEach [.Constant (.str msg) k p3] env)) [] = (do
      let (f, first) ← holding [ov] (getMethod ov "__init__" (do return (← importBound (.Call (.Name "super" p0) [] [] p1) env).getD true))
      callWith p4 f first (backTo p4 (starEach [.Constant (.str msg) k p3] env)) []) := fun ov => by
    unfold methodCall
    rw [show methodCallForm 1 (backTo p4 (starEach [.Constant (.str msg) k p3] env)) [] = true from rfl]
    unfold methodCallPos calleeOf
    simp only [hl, Bool.not_true, Bool.false_or, if_true, pure_bind]
  show (do
    let ov ← attributeBase (.Call (.Name "super" p0) [] [] p1) "__init__" env (eval (.Call (.Name "super" p0) [] [] p1) env)
    standAt p2.atName
    methodCall (.Call (.Name "super" p0) [] [] p1) "__init__" p2 p4 env ov 1 (backTo p4 (starEach [.Constant (.str msg) k p3] env)) []) = _
  simp only [hm]
theorem sup_run {C fI e t0 : Addr} {slf prm f : Str} {fd : FuncData} {u : Value} {mg mb : Str → Option Value} {h : Heap} {g : Array GenState} {d : Drawn} {t : Nat} {os : OsState} (S : SupC P K C fI slf prm f fd) (X : K.In h) (room : A.depth < recursionLimit) (lim : h.NoLimit)
    (hns : h.Ns mainGlobals mg) (hb : h.Ns builtinsNs mb) (hbb : ∀ x : Str, x ≠ "__name__" → mb x = bootBuiltins x) (he : h.get? e = some (HandSPX.excO C t0)) (nK : K.lookup e = none) (bind : BindsTo ⟨h, g, d, t, os⟩ fd ⟨[.ref e, u], []⟩ [(slf, .ref e), (prm, u)])
    (fin : ∀ h' t1 tk dx, (∀ b o, b ≠ e → h.get? b = some o → h'.get? b = some o) → h.objs.size ≤ dx → dx ≠ e → h'.get? e = some { cls := .ref C, dict := some dx, data := .fields #[.ref t1, .none, .none, .none, .bool false, .none] } → h'.Ns1 dx (fun y => if y = f then some u else none) → R (.ok (.ret .none)) ⟨h', g, d, tk, os⟩) :
    codeAny (model P w) A (.call (.ref fI) ⟨[.ref e, u], []⟩) R ⟨h, g, d, t, os⟩ := by
  obtain ⟨name, qual, msg, file, params, scope, dV, kV, doc, pm, ct, oc, an, od, osl, cc, cda, k, p0, p1, p2, p3, p4, p5, p6, p7, p8, p9, ccl, cl, cdd, cld, vs, _, ccs, csl, tf, ar, rfl, lk, hcd, lcd, hvs, hfile, lcc, hpar, har, kS, kC, kslf, kprm, kf, ncell, nco, ngen, hln⟩ := S.ex
  obtain ⟨nm, q, N, bs, bm, sn, sub, ab, col, dd, k0, k1, k2, k3, k5, lC, hbm, hal⟩ := S.cls
  cases scope
  dsimp only at kf kS kC kslf kprm ncell nco ngen
  subst kf
  have hcl : clsIn K C = some { name := nm, bases := bs, mro := .ref C :: bm, ns := N, qualname := q, hasDict := true, slotNames := sn, subclasses := sub, abstract := ab, collection := col, hasDel := false } := by unfold clsIn; rw [lC] <;> rfl
  have eC : e ≠ C := fun z => by
    have y := X _ _ lC
    rw [← z, he] at y
    cases y
  have lk2 : ([(slf, Value.ref e), (prm, u)].reverse.lookup slf) = some (.ref e) := by simp [List.lookup, S.ne]
  have lk3 : ([(slf, Value.ref e), (prm, u)].reverse.lookup prm) = some u := by simp [List.lookup]
  refine ks_codeAny_call_defAt (body := [.Expr (.Call (.Attribute (.Call (.Name "super" p0) [] [] p1) "__init__" p2) [.Constant (.str msg) k p3] [] p4) p5, .Assign [.Attribute (.Name slf p6) f p7] (.Name prm p8) p9]) (binds := [(slf, .ref e), (prm, u)]) room (X _ _ lk) rfl lim (codeRec_of X hcd) rfl bind ncell
    (fun y hy => by simp only [List.mem_cons, List.not_mem_nil, or_false] at hy; rcases hy with rfl | rfl <;> assumption) (fun h1 hL kk1 => ?_) nco ngen rfl
  have X1 : K.In h1 := X.keeps kk1
  refine ks_wpAt_execs_cons (ks_wpAt_Expr_any (ks_wpAt_MethodCall ?_ (call_form hln)))
  refine ks_wpAt_super_base (ar := ar) (vs := vs) (file := file) (tf := tf) kS kC rfl rfl (X1 _ _ lk) rfl hpar rfl (X1 _ _ lcd) rfl hvs hfile S.top ?_
  refine ks_loadName_global rfl kS (loadGlobal_builtin (hns.keeps kk1) (mg_none_of X hns S.su) (hb.keeps kk1) (hbb _ (by decide +kernel)) ⟨rfl, ?_⟩)
  refine wpAny_loadName_free rfl kC rfl ⟨_, X1 _ _ lcc, rfl⟩ ?_
  refine wpAny_loadName_local (v := .ref e) rfl (by rw [har]; exact kslf) hL (by rw [har]; exact lk2) ?_
  refine ks_wpAny_isType_cls (X1 _ _ lC) rfl ⟨rfl, ?_⟩
  refine ks_wpAny_call_super (X1 _ _ lC) rfl (kk1 _ _ he) rfl (fun c z => by cases z) (looks_mroIn X1 S.sub) (fun h2 e2 kk2 => ?_)
  have X2 : K.In h2 := X1.keeps kk2
  have he2 := kk2 _ _ (kk1 _ _ he)
  have hI : Looks (model P w) h2 (isInstance (.ref e) (.type "ValueError")) true := (show InstAt h2 e (HandSPX.excO C t0) C none from ⟨he2, rfl, rfl, trivial⟩).type.andThen (looks_subIn X2 S.subVE)
  have hM : Looks (model P w) h2 (mroOf (.ref C)) (.ref C :: bm) := fun A Q E s k q => wpAny_bind ((looks_clsIn X2 hcl) A _ E s k (wpAny_pure q))
  have hdr : ((Value.ref C :: bm).dropWhile (· != .ref C)).drop 1 = bm := by simp [List.dropWhile_cons]
  refine kxs_getMethod kxs_ValueError e2 (looks_opaque X2 S.tp) hM hdr X2 hal hI eC rfl ?_
  have kk3 : ∀ b o, h2.get? b = some o → (h2.push (kxs_mw "ValueError.__init__" e)).get? b = some o := fun b o z => Heap.get?_push_of_some _ z
  have hw : (h2.push (kxs_mw "ValueError.__init__" e)).get? h2.objs.size = some (kxs_mw "ValueError.__init__" e) := Heap.get?_push_at rfl rfl
  generalize h2.push (kxs_mw "ValueError.__init__" e) = h3 at kk3 hw ⊢
  have X3 : K.In h3 := X2.keeps kk3
  refine kxs_callWith (i := "ValueError.__init__") (x := e) rfl (evalArgs_plain (PyProof.Rows.spliced_more (rest := []) (wpAny_Constant_str (PyProof.Rows.spliced_none ⟨hw, ?_⟩))))
  refine bound_call (X3 _ _ lC) (kk3 _ _ he2) hw (by show 1 ≤ sizeLine; rw [sizeLine_eq]; decide) fun h4 t1 kk4 he4 => ?_
  have kk : ∀ b o, b ≠ e → h1.get? b = some o → h4.get? b = some o := fun b o z q => kk4 b o z (kk3 _ _ (kk2 _ _ q))
  have eL : h.objs.size ≠ e := Nat.ne_of_gt (Heap.lt_size he)
  obtain ⟨oL, es, ep, hoL, rL⟩ := hL
  have hoL4 := kk _ _ eL hoL
  have hL4 : h4.Ns h.objs.size (fun x => [(slf, Value.ref e), (prm, u)].reverse.lookup x) := ⟨oL, es, ep, hoL4, rL⟩
  have X4 : K.In h4 := fun b o z => kk b o (fun y => by rw [y, nK] at z; cases z) (X1 b o z)
  refine ks_wpAt_execs_cons (ks_wpAt_Assign_Attr (wpAt_of_wpAny (wpAny_Name (wpAny_loadName_local rfl kprm hL4 lk3 (wpAny_Name (wpAny_loadName_local rfl kslf hL4 lk2 ?_) S.dslf)) S.dprm)))
  refine set_plain X4 (ox := HandSPX.excO C t1) (od := none) ⟨he4, rfl, rfl, trivial⟩ S.sa (HandSPX.exc_osa X4 he4 hcl (show HandSPX.refsVE (.ref C :: bm) = true from hbm) rfl S.no fun h5 tk dx k5' dn dne hx hn => ?_)
  refine wpAt_of_wpAny (wpAny_execs_nil (fin h5 t1 tk dx (fun b o z q => k5' b o z (kk b o z (kk1 b o q))) (Nat.le_trans (Nat.le_of_lt (Heap.lt_size hoL4)) dn) dne hx hn))
end
/-! ### such a class, called -/
structure SupM (P : Program) (K : Frag) (C fI : Addr) (slf prm f : Str) (fd : FuncData) : Prop extends SupC P K C fI slf prm f fd where
  exC : subIn K (.ref C) (.type "BaseException") = some true
  tyC : typeIn K (.ref C) = some (.type "type")
  kC : keepIn K (.ref C) = true
  iC : findIn K (.ref C) "__init__" = some (some (.ref fI))
  tI : typeIn K (.ref fI) = some (.type "function")
  bind : ∀ (s : Shared) (a b : Value), BindsTo s fd ⟨[a, b], []⟩ [(slf, a), (prm, b)]
def tSup (C : Addr) (f : Str) (ta : L2.TA) : L2.St → L2.Hp → L2.XK → Prop := fun σ H Q => ta σ H fun vs H1 => ∃ v, vs = [v] ∧ ∀ d, H1 d = none → Q (.ref C) (some d) (L2.upd H1 d (.xd [(f, v)]))
open L2 in
theorem pmk_sup {X : Cx} {C fI : Addr} {slf prm f x : Str} {fd : FuncData} {e : Expr} {p pos : Pos} {ta : TA} (S : SupM X.prog X.K C fI slf prm f fd) (hr : Room (0 + 1) X.A) (hg : Gl X x) (hm : X.mg x = some (.ref C)) (ha : PA X [e] ta)
    (hdb : (x == ("__debug__" : Str)) = false := by decide) (he : starEach [e] X.env = (false, eval e X.env) :: starEach [] X.env := by rfl) (hpl : (backTo pos (starEach [] X.env)).any (·.1) = false := by rfl) : PMk X (.Call (.Name x p) [e] [] pos) (tSup C f ta) := by
  intro pins s σ H Q I h
  obtain ⟨nm, q, N, bs, bm, sn, sub, ab, col, dd, k0, k1, k2, k3, k5, lC, hbm, _⟩ := S.cls
  refine wpAny_Call_Name_kw (ld_glob I hg hm (callWith_K (h₀ := X.base) I.ok.mod.kin S.kC (thn (ha.run pos pins s σ H _ I h) ?_) he hpl) hdb)
  rintro us s1 ⟨_, H1, J1, r1, v, rfl, q1⟩
  refine ⟨J1.kIn, ?_⟩
  cases r1 with | @cons _ u _ _ rv rn =>
  cases rn
  obtain ⟨hp, g, dr, tk, os⟩ := s1
  have KI := J1.kIn
  have kk : ∀ b o, hp.get? b = some o → ((hp.push (kdv_tup [u])).push (HandSPX.excO C hp.objs.size)).get? b = some o := fun b o z => Heap.get?_push_of_some _ (Heap.get?_push_of_some _ z)
  have hget : ((hp.push (kdv_tup [u])).push (HandSPX.excO C hp.objs.size)).get? (hp.objs.size + 1) = some (HandSPX.excO C hp.objs.size) := by heap_get
  have hsz : hp.objs.size ≤ ((hp.push (kdv_tup [u])).push (HandSPX.excO C hp.objs.size)).objs.size := by simp [Heap.push]; omega
  have n1 : H1 (hp.objs.size + 1) = none := J1.hok.fresh (Nat.le_succ _)
  have nK : X.K.lookup (hp.objs.size + 1) = none := by
    cases z : X.K.lookup (hp.objs.size + 1) with
    | none => rfl
    | some o => exact absurd (Heap.lt_size (KI _ _ z)) (by show ¬ (hp.objs.size + 1 < hp.objs.size); omega)
  obtain ⟨mb, hb1, hb2⟩ := J1.ok.mod.blt
  show wpAny _ _ (call (.ref C) [u]) _ _ _
  refine wpAny_call (HandSPX.call_own F.excBase_ValueError (fun Y => HandSPX.refsVE_contains Y bm hbm) (KI _ _ lC) (looks_findIn KI S.iC) (fun self => bind_fn KI self S.tI) (by show 1 ≤ sizeLine; rw [sizeLine_eq]; decide) ?_)
  generalize (hp.push (kdv_tup [u])).push (HandSPX.excO C hp.objs.size) = h1 at kk hget hsz ⊢
  refine sup_run (t0 := hp.objs.size) S.toSupC (KI.keeps kk) (hr.make C [u] []).depth (J1.nolimit.keeps kk) ((J1.ok.mod.glob.keeps J1.bk).keeps kk) ((hb1.keeps J1.bk).keeps kk) hb2 hget nK (S.bind _ _ _) fun h' t1 tk' dx k dn dne hx hn => ⟨rfl, ?_⟩
  obtain ⟨G, g1, g2⟩ := restrict h' fun b => decide (b ≠ hp.objs.size + 1)
  have gk : ∀ b, b ≠ hp.objs.size + 1 → G.get? b = h'.get? b := fun b hb => g1 b (decide_eq_true hb)
  have ge : G.get? (hp.objs.size + 1) = none := g2 _ (by simp)
  have kG : ∀ b o, hp.get? b = some o → G.get? b = some o := fun b o z => by
    have ne : b ≠ hp.objs.size + 1 := Nat.ne_of_lt (Nat.lt_succ_of_lt (Heap.lt_size z))
    rw [gk b ne]
    exact k b o ne (kk b o z)
  have ddn : hp.objs.size ≤ dx := Nat.le_trans hsz dn
  have ok : ObjOk X.prog X.w (upd H1 dx (.xd [(f, v)])) G dx (.xd [(f, v)]) := ⟨_, hn.at fun o y => (gk dx dne).trans y, relO_put (fs := []) rv fun _ => True.intro⟩
  have J : Inv X pins σ (upd H1 dx (.xd [(f, v)])) ⟨G, g, dr, tk', os⟩ := J1.laid (t' := tk') (a := dx) (h' := G) kG ddn ok
  exact ⟨_, _, _, ⟨G, g, dr, tk', os⟩, _, .ref C, some dx, rfl, J, fun b o z => by
    by_cases hb : b = hp.objs.size + 1
    · rw [hb, ge] at z; cases z
    · exact (gk b hb).symm.trans z, ge, hx, ⟨rfl, rfl⟩, rfl, rfl, by rw [upd_ne (Ne.symm dne)]; exact n1, rfl, J1.bare, raises_own S.exC S.tyC, q1 dx (J1.hok.fresh ddn)⟩
end L2.VI.Sup
/-! VI21: raise C(e), C an own class whose __init__ keeps its one parameter. -/
namespace L2.VI
open PySem PySem.Spec PyProof.Rows He
section
variable {X : Cx} {W : WX} {pos p cpos : Pos} {e : Expr} {mas : M (List D)} {c slf prm f : Str} {fI : Addr} {fd : FuncData}
def raiseS (c f : Str) (mas : M (List D)) : M Fl := M.bind mas fun ds b => match ds with
  | [d] => .exc ⟨c, [(f, d)]⟩ b
  | _ => .fail
theorem ss_raiseS (tk : Takes X W) (S : Sup.SupM X.prog X.K (ga X.K c) fI slf prm f fd) (hr : Room (0 + 1) X.A) (hm : X.mg c = some (.ref (ga X.K c))) (ha : SA X W [e] mas) (hc : X.calm = true := by rfl) (hg : Gl X c := by rfl) (hdb : (c == ("__debug__" : Str)) = false := by decide)
    (he : starEach [e] X.env = (false, eval e X.env) :: starEach [] X.env := by rfl) (hpl : (backTo cpos (starEach [] X.env)).any (·.1) = false := by rfl) : SS X W (.Raise (some (.Call (.Name c p) [e] [] cpos)) none pos) (raiseS c f mas) :=
  SS.of (ps_raise hc tk (Sup.pmk_sup S hr hg hm ha hdb he hpl)) fun σ H F P0 Mm ρ b D B q => sM_then B q fun xs ds F1 M1 r1 b1 H1 l1 e1 B1 q1 h1 => by
    split at h1
    · cases q1 with | cons rd rn =>
        cases rn
        refine ⟨_, rfl, fun dx hn => ?_⟩
        obtain ⟨B2, l2⟩ := B1.frozen hn (.xd [(f, _)])
        exact h1 _ _ σ _ _ _ _ l2 (Rle.refl _) B2 ⟨rfl, .inr ⟨dx, _, rfl, upd_same, rfl, .cons (rd.mono l2 (Rle.refl _)) .nil⟩⟩
    · exact h1.elim
end
end L2.VI
/-! VI22: a caught exception is taken up as a value. -/
namespace L2.VI
open PySem PySem.Spec PyProof.Rows He
section
variable {X : Cx} {pins : List (Addr × Obj)} {σ : St} {H : Hp} {s : Shared} {a : Addr} {o : HO}
/-- an object that the heap has, and nobody tracks, is taken up -/
theorem inv_up (I : Inv X pins σ H s) (na : H a = none) (n0 : X.s_0.heap.get? a = none) (nL : a ≠ X.env.locals) (nC : ∀ v, ¬ s.heap.IsCell a v) (nP : ∀ p ∈ X.pn ++ pins, p.1 ≠ a) (ok : ObjOk X.prog X.w (upd H a o) s.heap a o) (no : ∀ x, o ≠ .own x) : Inv X pins σ (upd H a o) s := by
  have ne : ∀ {b : Addr} {u : HO}, H b = some u → b ≠ a := fun {b u} e z => by rw [z, na] at e; cases e
  have n1 : ∀ {b : Addr} {ob : Obj}, X.s_0.heap.get? b = some ob → b ≠ a := fun {b ob} e z => by rw [z, n0] at e; cases e
  refine ⟨I.ok, I.os, I.bare, ⟨I.base.keep, I.base.slot, fun b ob e n x => ?_, I.base.there, fun b xs e => ?_, fun b ob u e => ?_, fun b ps e => ?_⟩, I.loc, I.cell, ?_, fun x c e => ?_, fun p hp => ?_, fun b ob e => ?_, I.len⟩
  · rw [upd_ne (n1 e)]; exact I.base.free b ob e n x
  · have z := I.base.tups b xs e
    rw [upd_ne (ne z)]; exact z
  · have z := I.base.frzs b ob u e
    rw [upd_ne (ne z)]; exact z
  · obtain ⟨more, z⟩ := I.base.tbls b ps e
    exact ⟨more, by rw [upd_ne (ne z)]; exact z⟩
  · rw [upd_ne (Ne.symm nL)]; exact I.free
  · obtain ⟨v, hv⟩ := I.cell x c e
    have nc : c ≠ a := fun z => nC v (by rw [← z]; exact hv)
    rw [upd_ne nc]; exact I.freeC x c e
  · obtain ⟨h1, h2, h3⟩ := I.pin p hp
    exact ⟨h1, by rw [upd_ne (nP p hp)]; exact h2, h3⟩
  · by_cases hb : b = a
    · subst hb; rw [upd_same] at e; cases e; exact ok
    · rw [upd_ne hb] at e
      exact (I.hok b ob e).stay (fun c v _ z => z) (fun c hc => by rw [upd_ne (ne hc)]; exact hc) (fun c xs hc => by rw [upd_ne (ne hc)]; exact hc)
end
end L2.VI
/-! VI23: try: .. except C as n: y = n. -/
namespace L2.VI
open PySem PySem.Spec PyProof.Rows He
def XVv (cls : Value) (d : Option Addr) (a : Addr) : HO := .ext fun h => ∃ (oe : Obj) (vs : Array Value), h.get? a = some oe ∧ Zc cls d oe ∧ oe.data = .fields vs
theorem xvv_ok {P : Program} {w : World} {H : Hp} {h : Heap} {a : Addr} {cls : Value} {d : Option Addr} {oe : Obj} {vs : Array Value} (e : h.get? a = some oe) (z : Zc cls d oe) (hd : oe.data = .fields vs) : ObjOk P w H h a (XVv cls d a) :=
  ⟨⟨oe, vs, e, z, hd⟩, ⟨_, e⟩, fun h1 h2 ⟨oe', vs', q1, q2, q3⟩ k => ⟨oe', vs', k _ q1, q2, q3⟩⟩
/-- what the clause wishes of an exception of the body -/
def wKeep (K : PySem.W.Frag) (c : Value) (i j : Nat) (Wout : WX) (D : Ends) : WX := fun cls d σ H =>
  ∃ b, PySem.W.exmOne K cls c = some b ∧ (b = true → ∀ a, H a = none → D.nx (((σ.set i (some (.ref a))).set j (some (.ref a))).set i none) (upd H a (XVv cls d a))) ∧ (b = false → Wout cls d σ H)
section
variable {X : Cx} {x n y : Str} {c : Value} {i j : Nat} {body : List Stmt} {np yp vp sp pos pos' : Pos} {tb : WX → TS} {Wo : WX}
theorem ps_try_keep (hs : X.stack = X.env :: X.outer) (hf : X.env.frame = some X.env.locals) (hx : X.ex = []) (hN : X.N.Nodup) (hi : X.N[i]? = some n) (hj : X.N[j]? = some y) (hln : X.env.scope.names.lookup n = some .local) (hly : X.env.scope.names.lookup y = some .local) (hij : i ≠ j) (hc : Names X x c) (tk : Takes X Wo)
    (dn : (n == ("__debug__" : Str)) = false) (dc : (n == ("__classdict__" : Str)) = false)
    (hb : ∀ (W : WX) (pn : List (Addr × Obj)) (xe : Value → Shared → Prop), Takes (X.tr pn xe) W → PassesOwn (model X.prog X.w) X.A X.env xe → PSs (X.tr pn xe) body (tb W)) :
    PS X (.Try body [.ExceptHandler (some (.Name x np)) (some n) [.Assign [.Name y yp] (.Name n vp) sp] pos'] [] [] pos) (fun D σ H => tb (wKeep X.K c i j Wo D) D σ H) := by
  constructor
  intro pins s σ H D I h
  have ok := I.ok
  have fr : X.A.frames = some (X.env :: X.outer) := ok.frames.trans (congrArg some hs)
  apply wpAny_Try_except
  let cl : List ExceptHandler := [.ExceptHandler (some (.Name x np)) (some n) [.Assign [.Name y yp] (.Name n vp) sp] pos']
  let xe : Value → Shared → Prop := fun e s₁ => wpAny (model X.prog X.w) X.A (noteFrame e X.env) (fun _ s₂ => wpAny (model X.prog X.w) X.A (setFlight e none) (fun _ s₃ => wpAny (model X.prog X.w) X.A (handleBy e X.env cl) (SP X pins D) X.xe s₃) X.xe s₂) X.xe s₁
  have takes : Takes (X.tr (X.pn ++ pins) xe) (wKeep X.K c i j Wo D) := by
    rintro u s' ⟨a, B, sI, pins', σ', H', cls, d, rfl, J', nb, up, sky, na, os, ag, b, hb1, yes, noo⟩
    have J : Inv X pins σ' H' sI := J'.ofTry ok
    have sky' : Sky B (X.env :: X.outer) a (Zc cls d) X.env.locals s'.heap := hs ▸ sky
    change wpAny _ _ (noteFrame (.ref a) X.env) _ _ _
    refine Sky.land Zc.steady fr hf sky' fun h3 fl3 up3 => ?_
    have J3 : Inv X pins σ' H' { s' with heap := h3 } := J.landed nb fl3.1 (up.trans up3) os ag
    obtain ⟨oe3, vs3, he3, hz3, hd3⟩ := fl3.there
    have nfr : a ∉ frs (X.env :: X.outer) := fun hm => by
      obtain ⟨_, o', e', hnf⟩ := fl3.2.2.1.mem hm
      rw [he3] at e'; cases e'
      exact hnf _ hd3
    have nL : a ≠ X.env.locals := fun z => nfr (List.mem_filterMap.mpr ⟨X.env, List.mem_cons_self, by rw [hf, z]⟩)
    have nF : a ∉ X.fs := fun hm => by
      obtain ⟨e, he, q⟩ := List.mem_filterMap.mp hm
      exact nfr (List.mem_filterMap.mpr ⟨e, List.mem_cons_of_mem _ he, q⟩)
    have nI : sI.heap.get? a = none := by
      cases z : sI.heap.get? a with
      | none => rfl
      | some o =>
        have z2 := nb a o z (by rw [hs]; exact nfr)
        rw [fl3.2.1] at z2
        cases z2
    have S3 := J3.suite he3 hd3 na nL nF
    refine wpAny_handleBy_cons (codeAny_handlers_test ?_) (fun q => by cases q)
    have LM := PySem.W.exm_one (M := model X.prog X.w) J3.kIn (fun A Q E s k q => wpAny_typeOf_ref (k _ _ he3) (by rw [hz3.1]; exact q)) hb1
    have test : ∀ {Q : Value → Shared → Prop} {E : Value → Shared → Prop}, Q c { s' with heap := h3 } → wpAny (model X.prog X.w) (X.A.mark (some (.ref a))) (eval (.Name x np) X.env) Q E { s' with heap := h3 } := fun {Q E} q => by
      obtain ⟨k1, k2, k3 | ⟨k3, k4, k5⟩⟩ := hc
      · exact ld_glob (X := X.suite a ((a, oe3) :: (X.pn ++ pins))) S3 k1 k3 q k2
      · exact ld_blt (X := X.suite a ((a, oe3) :: (X.pn ++ pins))) S3 k1 k3 k4 q k5 k2
    refine test (LM.here ?_)
    cases b with
    | true =>
      apply codeAny_handlers_suite_as
      refine HandSPX.lands_againZ fl3 fun h4 fl4 up4 => ?_
      have J4 : Inv X pins σ' H' { s' with heap := h4 } := J.landed nb fl4.1 ((up.trans up3).trans up4) os ag
      obtain ⟨oe4, vs4, he4, hz4, hd4⟩ := fl4.there
      refine store_ok (X := X.suite a ((a, oe4) :: (X.pn ++ pins))) (v := .ref a) (J4.suite he4 hd4 na nL nF) hN hi (.inl hln) rfl (fun s5 S5 => ?_) (.inr hln)
      have st : PS (X.suite a ((a, oe4) :: (X.pn ++ pins))) (.Assign [.Name y yp] (.Name n vp) sp) (tAsg (tVar i) (gName j)) := ps_set hN hj (.inl hly) (pe_var hi (.inl hln) dn dc) rfl (.inr hly)
      have hil : i < σ'.length := by rw [J.len]; exact (List.getElem?_eq_some_iff.mp hi).1
      have e0 : (σ'.set i (some (V.ref a)))[i]? = some (some (V.ref a)) := List.getElem?_set_self hil
      refine wpAny_mono ((pss_one st).run [] s5 _ H' { nx := fun τ G => τ = (σ'.set i (some (.ref a))).set j (some (.ref a)) ∧ G = H', rt := fun _ _ => False, bk := fun _ _ => False, ct := fun _ _ => False } S5 ⟨.ref a, e0, rfl, rfl⟩) (fun fl s6 q => ?_) (fun _ _ z => False.elim z)
      cases fl with
      | next =>
        obtain ⟨τ, G, S6, rfl, rfl⟩ := q
        have J6 : Inv X pins _ G s6 := S6.unsuite ok
        obtain ⟨ha6, _⟩ := S6.pin (a, oe4) (List.mem_append_left _ List.mem_cons_self)
        have n0 : X.s_0.heap.get? a = none := by
          cases z : X.s_0.heap.get? a with
          | none => rfl
          | some o =>
            obtain ⟨o', z2⟩ := J.base.there a o z (by rw [hx]; simp)
            rw [nI] at z2; cases z2
        have J7 := inv_up (o := XVv cls d a) J6 na n0 nL (fun v ⟨o, z1, z2⟩ => by rw [ha6] at z1; cases z1; rw [hd4] at z2; cases z2) (fun p hp z => by
          obtain ⟨z1, _⟩ := J.pin p hp
          rw [z, nI] at z1; cases z1) (xvv_ok ha6 hz4 hd4) (fun x z => by cases z)
        exact gone_ok J7 hN hi hln fun s7 J8 => ⟨_, _, J8, yes rfl a na⟩
      | brk => obtain ⟨_, _, _, q⟩ := q; exact False.elim q
      | cont => obtain ⟨_, _, _, q⟩ := q; exact False.elim q
      | ret u => obtain ⟨_, _, _, _, _, q⟩ := q; exact False.elim q
    | false =>
      change wpAny _ X.A (handleBy (.ref a) X.env []) _ _ _
      apply wpAny_handleBy_nil
      obtain ⟨k1, k2, k3, oe, vs, T, oT, ts', he, hz, hd, h1, hr⟩ := id fl3
      unfold PySem.passOn
      refine wpAny_bind (wpAny_field he hd h1 ?_)
      have nn : ¬ ((Value.ref T == Value.none) = true) := by simp
      rw [if_neg nn, hf]
      have fin : wpAny (model X.prog X.w) X.A (setFlight (.ref a) (some X.env.locals)) (fun _ s4 => wpAny (model X.prog X.w) X.A (throw (.ref a) : Sem Flow) (SP X pins D) X.xe s4) X.xe { s' with heap := h3 } :=
        HandSPX.setFlight_upZ fl3 fun h4 hh4 up4 => wpAny_throw (tk _ _ ⟨a, B, sI, pins, σ', H', cls, d, rfl, J, nb, (up.trans up3).trans up4, .inr (.inr (by rw [hs]; exact hh4)), na, os, ag, noo rfl⟩)
      first
        | exact wpAny_bind (wpAny_pure (wpAny_bind fin))
        | exact wpAny_bind fin
  refine wpAny_mono ((hb (wKeep X.K c i j Wo D) (X.pn ++ pins) xe takes PassesOwn.looking).run [] s σ H D (I.toTry _) h) (fun fl s1 q => ?_) (fun e s1 q => q)
  cases fl with
  | next => obtain ⟨σ', H', J, q⟩ := q; exact wpAny_execs_nil ⟨σ', H', J.ofTry ok, q⟩
  | brk => obtain ⟨σ', H', J, q⟩ := q; exact ⟨σ', H', J.ofTry ok, q⟩
  | cont => obtain ⟨σ', H', J, q⟩ := q; exact ⟨σ', H', J.ofTry ok, q⟩
  | ret u => obtain ⟨v, σ', H', J, r, q⟩ := q; exact ⟨v, σ', H', J.ofTry ok, r, q⟩
end
end L2.VI
/-! VI24: lambdas: made, handed down, called. -/
namespace L2.VI
open PySem PySem.Spec PyProof.Rows He
section
variable {X : Cx} {W : WX} {pos : Pos} {K : PySem.W.Frag} {F P : Hp} {fc : FrC} {P0 : PX fc} {Mm H : Hp} {ρ : Rho} {bs : BSt} {σ : St} {g : GSt}
/-- a code object's table grows -/
theorem HRel.tabUp {k : Nat} {x q : Str} (h : HRel K F P Mm ρ g H) (e : g.S k = some (.tab x q)) : ∃ ps : Array Value, Mm (tabA K x) = some (.tbl ps) ∧ H (tabA K x) = some (.tbl ps) ∧ TriplesOk ps.toList ∧
    (∀ (pos : Pos) (cv : Value), codeAmong pos ps.toList = some cv → ∃ c, cv = .ref c ∧ F c = some (LamX.CodeO c q)) ∧
    ∀ ps' : Array Value, TriplesOk ps'.toList → (∀ (pos : Pos) (cv : Value), codeAmong pos ps'.toList = some cv → ∃ c, cv = .ref c ∧ F c = some (LamX.CodeO c q)) → HRel K F P (upd Mm (tabA K x) (.tbl ps')) ρ g (upd H (tabA K x) (.tbl ps')) := by
  obtain ⟨a, e1, ps, h1, ha, h2, h3⟩ := h.st k _ e
  subst ha
  generalize ht : tabA K x = a at *
  refine ⟨ps, h1, h.mh _ _ h1, h2, h3, fun ps' t' c' => ?_⟩
  have nF : F a = none := by
    cases z : F a with
    | none => rfl
    | some v => rw [(h.fp a v z).2] at h1; cases h1
  have nP : P a = none := by
    cases z : P a with
    | none => rfl
    | some v => rw [h.pm a v z] at h1; cases h1
  have ne : ∀ {G : Hp} {b : Addr} {v : HO}, G a = none → G b = some v → b ≠ a := fun {G b v} gn z y => by subst y; rw [gn] at z; cases z
  refine ⟨fun b v z => ?_, fun b v z => ?_, fun b v z => ?_, fun b v z => ?_, fun b v z => ?_, fun j o z => ?_, h.inj, h.nx, fun j c z => ?_, h.lkUp (fun _ _ e => e) fun c o v f e => by rw [upd_ne (ne nF f)]; exact e⟩
  · have hb := ne nF z
    have y := h.fh b v z
    split
    · rename_i hd
      rw [if_pos hd] at y
      rcases y with y | ⟨o, y⟩
      · exact .inl (by rw [upd_ne hb]; exact y)
      · exact .inr ⟨o, by rw [upd_ne hb]; exact y⟩
    · rename_i hd
      rw [if_neg hd] at y
      rw [upd_ne hb]; exact y
  · rw [upd_ne (ne nP z)]; exact h.ph b v z
  · by_cases hb : b = a
    · subst hb; rw [upd_same] at z ⊢; exact z
    · rw [upd_ne hb] at z ⊢; exact h.mh b v z
  · have hb := ne nF z
    obtain ⟨q1, q2⟩ := h.fp b v z
    exact ⟨q1, by rw [upd_ne hb]; exact q2⟩
  · rw [upd_ne (ne nP z)]; exact h.pm b v z
  · by_cases hj : j = k
    · subst hj
      rw [e] at z; cases z
      exact ⟨a, e1, ps', upd_same, ht.symm, t', c'⟩
    · obtain ⟨c, y1, y2⟩ := h.st j o z
      have hc : c ≠ a := fun z => hj (h.inj j k a (by rw [← z]; exact y1) e1)
      refine ⟨c, y1, y2.mono (Leq.refl _) (Rle.refl _) fun d w hd y => ?_⟩
      have : d ≠ a := by
        rcases hd with rfl | rfl
        · exact hc
        · intro y'; subst y'; rw [h1] at y; cases y
      rw [upd_ne this]; exact y
  · obtain ⟨w, y1, y2⟩ := h.rh j c z
    by_cases hc : c = a
    · subst hc; exact ⟨_, upd_same, fun _ z => nomatch z⟩
    · exact ⟨w, by rw [upd_ne hc]; exact y1, y2⟩
theorem BRel.tabUp {k : Nat} {x q : Str} (B : BRel K F P0 Mm ρ bs σ H) (e : bs.g.S k = some (.tab x q)) : ∃ ps : Array Value, Mm (tabA K x) = some (.tbl ps) ∧ H (tabA K x) = some (.tbl ps) ∧ TriplesOk ps.toList ∧
    (∀ (pos : Pos) (cv : Value), codeAmong pos ps.toList = some cv → ∃ c, cv = .ref c ∧ F c = some (LamX.CodeO c q)) ∧
    ∀ ps' : Array Value, TriplesOk ps'.toList → (∀ (pos : Pos) (cv : Value), codeAmong pos ps'.toList = some cv → ∃ c, cv = .ref c ∧ F c = some (LamX.CodeO c q)) → BRel K F P0 (upd Mm (tabA K x) (.tbl ps')) ρ bs σ (upd H (tabA K x) (.tbl ps')) := by
  obtain ⟨P, qq, B⟩ := B
  obtain ⟨ps, h1, h2, h3, h4, h5⟩ := B.h.tabUp e
  exact ⟨ps, h1, h2, h3, h4, fun ps' t c => ⟨P, qq, h5 ps' t c, B.pp, B.len, B.qi, B.sl⟩⟩
theorem lamO_ok {P : Program} {w : World} {H' : Hp} {h : Heap} {f c' : Addr} {L : LamT} {cs : Cl} {pm ctv : Value} (e : h.get? f = some (PySem.W.kla_obj "<lambda>" L.qual L.params L.body L.scope (cloFrom cs L.scope.names []) pm c' ctv)) : ObjOk P w H' h f (LamO L cs pm c' ctv) := ⟨e, _, e⟩
theorem among_more {p p' : Pos} {c v : Value} : ∀ (l : List Value), TriplesOk l → codeAmong p' (l ++ [rawInt p.line, rawInt p.col, c]) = some v → v = c ∨ codeAmong p' l = some v := by
  intro l ok h
  rcases LamX.among_app l ok h with z | z
  · exact .inr z
  · exact .inl z
/-- the machine makes a lambda: its code object is there, or it is new -/
theorem lam_mk {pins : List (Addr × Obj)} {s : Shared} {c T : Addr} {L : LamT} {ps : Array Value} {E Q : Value → Shared → Prop} (I : Inv X pins σ H s) (tb : LamX.TabB X.base X.mg c T) (hc : X.env.code = .ref c) (hT : H T = some (.tbl ps)) (ok : TriplesOk ps.toList)
    (hr : ∀ (p : Pos) (v : Value), codeAmong p ps.toList = some v → ∃ a, v = .ref a) (hd : defaultsOf L.params X.env = ([], [])) (hf : ∀ y ∈ L.scope.names, y.2 = .free → ∃ c, X.env.cells.lookup y.1 = some c) (hq : X.env.qual ++ "<lambda>" = L.qual)
    (hit : ∀ (f c' : Addr) (pm ctv : Value) (s' : Shared), codeAmong pos ps.toList = some (.ref c') → H f = none → Inv X pins σ (upd H f (LamO L X.env.cells pm c' ctv)) s' → Q (.ref f) s')
    (new : ∀ (f c' : Addr) (pm ctv : Value) (s' : Shared), codeAmong pos ps.toList = none → H f = none → H c' = none → f ≠ c' →
      Inv X pins σ (upd (upd (upd H T (.tbl (ps ++ #[rawInt pos.line, rawInt pos.col, .ref c']))) c' (LamX.CodeO c' L.qual)) f (LamO L X.env.cells pm c' ctv)) s' → Q (.ref f) s') :
    wpAny (model X.prog X.w) X.A (eval (.Lambda L.params L.body L.scope pos) X.env) Q E s := by
  have bT : s.heap.BuiltinsAt X.mg T := tb.bm.keeps I.bk
  have oT : s.heap.get? T = some { cls := .none, data := .fields ps } := I.hok T _ hT
  have G : s.heap.Ns mainGlobals X.mg := I.mod.glob.keeps I.bk
  refine PySem.W.kla_eval hd ?_
  cases hcase : codeAmong pos ps.toList with
  | some v =>
    obtain ⟨c', rfl⟩ := hr pos v hcase
    refine PySem.W.kla_makeFunctionHit (c := c) (P := T) (ps := ps) (mg := X.mg) (closure_ok hf) I.ok.glob G hc (tb.code.keeps I.bk) oT ok hcase bT ?_
    rintro ctv h1 tk up sz
    rw [hq]
    exact hit h1.objs.size c' _ ctv _ hcase (I.hok.fresh sz) (I.laid (t' := tk) (fun b u z => Heap.get?_push_of_some _ (up b u z)) sz (lamO_ok (Heap.get?_push_size _ rfl)))
  | none =>
    refine PySem.W.kla_makeFunction (c := c) (P := T) (ps := ps) (mg := X.mg) (closure_ok hf) I.ok.glob G hc (tb.code.keeps I.bk) oT ok hcase tb.gP bT ?_
    rintro c' ctv h1 tk up ge lt ⟨c2, oc, vs, t, e2, g1, g2, g3⟩ tab
    cases e2
    have I1 := LamX.inv_table (q := X.env.qual ++ "<lambda>") (t' := tk) (more := #[rawInt pos.line, rawInt pos.col, .ref c']) (h' := h1) I hT (fun b o hb z => up b o hb z) tab ge ⟨oc, vs, t, g1, g2, g3⟩
    rw [hq] at I1 ⊢
    have sz : s.heap.objs.size ≤ h1.objs.size := Nat.le_trans ge (Nat.le_of_lt lt)
    exact new h1.objs.size c' _ ctv _ hcase (I.hok.fresh sz) (I.hok.fresh ge) (Nat.ne_of_gt lt) (I1.laid (t' := tk) (a := h1.objs.size) (fun b u z => Heap.get?_push_of_some _ z) (Nat.le_refl _) (lamO_ok (Heap.get?_push_size _ rfl)))
/-- lambda: .., the i-th of the text; kt: where the store has the table of the def x; kf: the frame's own slot -/
def lamM (i : Nat) (L : LamT) (kt kf : Nat) (x : Str) : M D := fun b => match b.g.S kt, b.t[kf]? with
  | some (.tab x' q'), some (some (.frm (some fr) _)) => if x' = x ∧ q' = L.qual then .ok (.lam i L fr) b else .fail
  | _, _ => .fail
theorem BRel.frmAt {kf : Nat} {me : Option Nat} {up : Ups} (B : BRel K F P0 Mm ρ bs σ H) (e : bs.t[kf]? = some (some (.frm me up))) : Lk K F ρ fc me up := by
  obtain ⟨P, qq, B⟩ := B
  obtain ⟨v, _, lk⟩ := B.sl kf _ e
  exact lk
theorem upd_comm {G : Hp} {a c : Addr} {u v : HO} (h : a ≠ c) : upd (upd G a u) c v = upd (upd G c v) a u := by
  funext b
  by_cases h1 : b = a
  · subst h1; rw [upd_ne h, upd_same, upd_same]
  · by_cases h2 : b = c
    · subst h2; rw [upd_same, upd_ne h1, upd_same]
    · rw [upd_ne h2, upd_ne h1, upd_ne h1, upd_ne h2]
theorem se_lam {i kt kf : Nat} {x : Str} {L : LamT} (tb : LamX.TabB X.base X.mg (codA X.K x) (tabA X.K x)) (hc : X.env.code = .ref (codA X.K x)) (hs : clOf X.stack = X.env.cells := by rfl) (hq : X.env.qual ++ "<lambda>" = L.qual := by rfl) (hd : defaultsOf L.params X.env = ([], []) := by rfl)
    (hl : LamX.lamSB X.env.scope L.scope = true := by rfl) : SE X W (.Lambda L.params L.body L.scope pos) (lamM i L kt kf x) := by
  refine ⟨fun pins s σ H Q I ⟨F, P0, Mm, ρ, b, B, q⟩ => ?_⟩
  unfold lamM at q
  split at q
  · rename_i x' q' fr up eS et
    split at q
    · rename_i hx
      obtain ⟨rfl, rfl⟩ := hx
      obtain ⟨ps, h1, h2, h3, h4, _⟩ := B.tabUp eS
      have cl := (B.frmAt et).1 fr rfl
      have cl : ρ.c fr = some X.env.cells := by rw [cl]; exact congrArg some hs
      have hf : ∀ y ∈ L.scope.names, y.2 = .free → ∃ c, X.env.cells.lookup y.1 = some c := (LamX.lamS_by hl).has I.ok
      refine lam_mk I tb hc h2 h3 (fun p v z => by obtain ⟨c, e, _⟩ := h4 p v z; exact ⟨c, e⟩) hd hf hq ?_ ?_
      · intro f c' pm ctv s' hm nf I'
        obtain ⟨c2, e2, fc'⟩ := h4 _ _ hm
        cases e2
        obtain ⟨B1, l1⟩ := B.frozen nf (LamO L X.env.cells pm c' ctv)
        exact ⟨.ref f, _, I', rfl, q (.ref f) _ Mm ρ _ l1 (Rle.refl _) B1 (.lam upd_same (l1 _ _ fc') cl hf)⟩
      · intro f c' pm ctv s' hm nf nc ne I'
        obtain ⟨B1, l1⟩ := B.frozen nc (LamX.CodeO c' L.qual)
        obtain ⟨ps', g1, g2, _, _, g5⟩ := B1.tabUp (x := x') (q := L.qual) eS
        have nt : tabA X.K x' ≠ c' := fun z => by rw [z, nc] at h2; cases h2
        rw [upd_ne nt, h2] at g2
        cases g2
        have B2 := g5 (ps ++ #[rawInt pos.line, rawInt pos.col, .ref c']) (by rw [Array.toList_append]; exact PySem.TriplesOk_snoc _ _ _ _ h3) (fun p v z => by
          rw [Array.toList_append] at z
          rcases among_more _ h3 z with rfl | z
          · exact ⟨c', rfl, upd_same⟩
          · obtain ⟨c, e, y⟩ := h4 p v z
            exact ⟨c, e, l1 _ _ y⟩)
        rw [← upd_comm nt] at B2
        have nf2 : upd (upd H (tabA X.K x') (.tbl (ps ++ #[rawInt pos.line, rawInt pos.col, .ref c']))) c' (LamX.CodeO c' L.qual) f = none := by
          rw [upd_ne ne, upd_ne (fun z => by rw [z, h2] at nf; cases nf)]; exact nf
        obtain ⟨B3, l3⟩ := B2.frozen nf2 (LamO L X.env.cells pm c' ctv)
        exact ⟨.ref f, _, I', rfl, q (.ref f) _ _ ρ _ (l1.trans l3) (Rle.refl _) B3 (.lam upd_same (l3 _ _ upd_same) cl hf)⟩
    · exact q.elim
  · exact q.elim
end
end L2.VI
/-! VI25: defs that make lambdas, defs that take them, their calls; try .. except C as n: y = n. -/
namespace L2.VI
open PySem PySem.Spec PyProof.Rows He
/-! ### the frame's own slot -/
section
variable {X : Cx} {pins : List (Addr × Obj)} {σ : St} {H : Hp} {s : Shared}
theorem inv_ghost {k : Nat} {z : Str} {v : Option V} (I : Inv X pins σ H s) (hN : X.N[k]? = some z) (nv : X.env.scope.names.lookup z = none) : Inv X pins (σ.set k v) H s := by
  refine ⟨I.ok, I.os, I.bare, I.base, ?_, I.cell, I.free, I.freeC, I.pin, I.hok, by rw [List.length_set]; exact I.len⟩
  obtain ⟨m, h1, h2⟩ := I.loc
  refine ⟨m, h1, fun i x u e1 e2 e3 => ?_⟩
  by_cases hi : i = k
  · subst hi
    rw [hN] at e1; cases e1
    unfold Vis at e3
    rw [nv] at e3
    rcases e3 with e3 | e3 | e3 <;> cases e3
  · rw [List.getElem?_set_ne (Ne.symm hi)] at e2
    exact h2 i x u e1 e2 e3
theorem pss_ghost {k : Nat} {z : Str} {v : Option V} {body : List Stmt} {t : TS} (hN : X.N[k]? = some z) (nv : X.env.scope.names.lookup z = none) (h : PSs X body t) : PSs X body (fun D σ H => t D (σ.set k v) H) :=
  ⟨fun pins s σ H D I q => by
    have I' := inv_ghost (v := v) I hN nv
    exact h.run pins s _ H D I' q⟩
end
/-- a def: n parameters, sl slots, then the frame's own -/
def fnBodyF (n sl : Nat) (me : Option Nat) (up : Ups) (m : M Fl) : FnD := fun ds g => if ds.length = n then (match m ⟨g, ds.map (fun d => some (.val d)) ++ (List.replicate (sl - n) none ++ [some (.frm me up)])⟩ with
  | .ok .nx b => .ok .non b.g
  | .ok (.ret d) b => .ok d b.g
  | .exc x b => .exc x b.g
  | _ => .fail) else .fail
/-- .. that makes lambdas -/
def fnBodyC (n sl : Nat) (m : M Fl) : FnD := fun ds g => fnBodyF n sl (some g.nx) [] m ds { g with nx := g.nx + 1 }
theorem ar_ofC {n sl : Nat} {m : M Fl} : Ar (fnBodyC n sl m) n := fun ds g h => if_neg h
section
variable {K : PySem.W.Frag} {F P Mm H : Hp} {ρ : Rho} {g : GSt}
theorem BRel.startF {fc : FrC} {vs : List V} {ds : List D} {N : List Str} {sl : Nat} {me : Option Nat} {up : Ups} (h : HRel K F P Mm ρ g H) (r : RepAll K F ρ vs ds) (hN : N.length = sl + 1) (hl : ds.length ≤ sl) (lk : Lk K F ρ fc me up) :
    BRel (fc := fc) K F P Mm ρ ⟨g, ds.map (fun d => some (.val d)) ++ (List.replicate (sl - ds.length) none ++ [some (.frm me up)])⟩ ((L2.start N vs).set sl (some .non)) H := by
  refine ⟨P, fun _ => none, h, fun _ _ e => e, ?_, (fun _ _ _ e => nomatch e), fun i s e => ?_⟩
  · unfold L2.start
    simp [r.length, hN]
    omega
  · have e1 : (ds.map (fun d => some (Slot.val d)) ++ (List.replicate (sl - ds.length) none ++ [some (Slot.frm me up)]))[i]? = some (some s) := e
    have lenS : (L2.start N vs).length = sl + 1 := by unfold L2.start; simp [r.length, hN]; omega
    by_cases hi : i < ds.length
    · rw [List.getElem?_append_left (by simpa using hi), List.getElem?_map] at e1
      cases ed : ds[i]? with
      | none => rw [ed] at e1; cases e1
      | some d =>
        rw [ed] at e1
        cases e1
        obtain ⟨v, hv, rv⟩ := r.get ed
        refine ⟨v, ?_, rv⟩
        rw [List.getElem?_set_ne (by omega)]
        unfold L2.start
        rw [List.getElem?_append_left (by simpa [r.length] using hi), List.getElem?_map, hv]
        rfl
    · rw [List.getElem?_append_right (by simpa using hi)] at e1
      simp only [List.length_map] at e1
      by_cases h2 : i - ds.length < sl - ds.length
      · rw [List.getElem?_append_left (by simpa using h2), List.getElem?_replicate, if_pos h2] at e1
        cases e1
      · rw [List.getElem?_append_right (by simpa using h2)] at e1
        simp only [List.length_replicate] at e1
        cases h3 : i - ds.length - (sl - ds.length) with
        | succ k => rw [h3] at e1; simp at e1
        | zero =>
          rw [h3] at e1
          have e1 : some (some (Slot.frm me up)) = some (some s) := e1
          cases e1
          have hsl : i = sl := by omega
          subst hsl
          exact ⟨.non, List.getElem?_set_self (by rw [lenS]; omega), lk⟩
/-- a frame gets its number -/
def rfr (ρ : Rho) (k : Nat) (cs : Cl) : Rho := ⟨ρ.p, fun j => if j = k then some cs else ρ.c j, ρ.k⟩
theorem HRel.frame (h : HRel K F P Mm ρ g H) (cs : Cl) : HRel K F P Mm (rfr ρ g.nx cs) { g with nx := g.nx + 1 } H ∧ Rle ρ (rfr ρ g.nx cs) ∧ (rfr ρ g.nx cs).c g.nx = some cs := by
  have rl : Rle ρ (rfr ρ g.nx cs) := ⟨fun _ _ e => e, fun j c e => by
    have : j ≠ g.nx := fun z => by rw [z, (h.nx _ (Nat.le_refl _)).2] at e; cases e
    exact (if_neg this).trans e, fun _ _ e => e⟩
  refine ⟨⟨h.fh, h.ph, h.mh, h.fp, h.pm, fun k so e => ?_, h.inj, fun k hk => ?_, h.rh, h.lk⟩, rl, if_pos rfl⟩
  · obtain ⟨a, e1, e2⟩ := h.st k so e
    exact ⟨a, e1, e2.mono (Leq.refl _) rl fun _ _ _ z => z⟩
  · have hk : g.nx + 1 ≤ k := hk
    exact ⟨(h.nx k (by omega)).1, (if_neg (by omega)).trans (h.nx k (by omega)).2⟩
end
section
variable {P : Program} {w : World} {K : PySem.W.Frag} {mg : Str → Option Value} {base : Heap} {x qual : Str} {params : Arguments} {body : List Stmt} {scope : Scope} {dvs : List V} {kws : List (Str × V)} {f : Addr} {fd : FuncData}
/-- VI19's fnG_of, the function's code told -/
theorem fnG_of2 {N ps : List Str} {k : Nat} {sp : Sp} (F : FunD K x qual params body scope dvs kws f fd) (S : FnScope N ps scope) (len : ∀ zs G R T, sp zs G R T → zs.length = ps.length)
    (hb : ∀ (cdv : Value) (A : Around) (o : List Env) (s : Shared) (G : Hp) (zs : List V) (R : VK) (T : XK), fd.code = cdv → A.guards = some [] → Room k (A.deeper (envOfC qual scope s.heap.objs.size f cdv)) → sp zs G R T →
      ∃ t, PSs (cxOf (CV P w) P w K mg base N qual scope f cdv A o s G T) body t ∧ t { nx := fun _ G' => R .non G', rt := R } (L2.start N zs) G) : FnG P w K mg base (k + 1) f fd ps sp := by
  obtain ⟨oc, od, dV, kV, doc, pm, an, cdv, ct, osl, rfl, lk, hcd, _, _⟩ := F.ex
  refine ⟨len, fun {A} hA o s G as ws zs R T hr e0 hbind r hsp => ?_⟩
  have keepB : ∀ b ob, base.get? b = some ob → s.heap.get? b = some ob := fun b ob e => (e0.bs b ob e).1
  have KS := e0.mod.kin.keeps keepB
  have kinds : ∀ y ∈ ps.zip ws, scope.names.lookup y.1 = some .local ∨ (scope.names.lookup y.1 = some .cell ∧ ((cellsFrom (s.heap.objs.size + 1) scope.names []).lookup y.1).isSome = true) := by
    rintro ⟨n, v⟩ hy
    exact (S.par n (List.of_mem_zip hy).1).imp id fun q => ⟨q, PySem.W.cellsFrom_some _ _ _ (.inl q)⟩
  apply codeAny_call_function hr.depth (KS _ _ lk) rfl S.co S.gen rfl (PySem.W.codeRec_of KS hcd)
  apply hbind
  apply wpAny_newFunctionEnv_cells S.kind kinds
  rintro env rfl s1 ic
  obtain ⟨t, ht, hq⟩ := hb cdv A o s G zs R T rfl hA (hr.deeper _) hsp
  refine ⟨(e0.mod.nolimit.keeps keepB).keeps ic.toInCall.keep, codeAny_func (wpAny_mono (ht.run [] s1 (L2.start N zs) G _ (inv_start S hr.hd e0 (len _ _ _ _ hsp) r ic) hq) ?_ fun e s' z => z)⟩
  intro fl s' z
  cases fl with
  | ret u => obtain ⟨v, σ', G', J, rv, q⟩ := z; exact ⟨v, G', J.os, J.bare, J.base, J.hok, rv, q⟩
  | next => obtain ⟨σ', G', J, q⟩ := z; exact ⟨.non, G', J.os, J.bare, J.base, J.hok, rfl, q⟩
  | brk => obtain ⟨_, _, _, q⟩ := z; exact q.elim
  | cont => obtain ⟨_, _, _, q⟩ := z; exact q.elim
theorem PostS.ends {fc : FrC} {P0 : PX fc} {F F1 : Hp} {ρ r1 : Rho} {W : WX} {Rk : VK} {T : XK} {m : R Fl} (l : Leq F F1) (rl : Rle ρ r1) (hW : W = fun cls d _ G => T cls d G)
    (q : PostG K P0 F ρ Rk T (match m with
      | .ok .nx b => .ok .non b.g
      | .ok (.ret d) b => .ok d b.g
      | .exc x b => .exc x b.g
      | _ => .fail)) : PostS K W P0 F1 r1 { nx := fun _ G' => Rk .non G', rt := Rk } m := by
  subst hW
  rcases m with ⟨fl, b⟩ | ⟨e, b⟩ | _
  · cases fl with
    | nx => exact fun σ' F' M' ρ' H' l' r' B' => q .non F' M' ρ' H' (l.trans l') (rl.trans r') B'.weak .non
    | ret d => exact fun v σ' F' M' ρ' H' l' r' B' rv => q v F' M' ρ' H' (l.trans l') (rl.trans r') B'.weak rv
    | brk => exact q.elim
    | cnt => exact q.elim
  · exact fun cls d σ' F' M' ρ' H' l' r' B' rx => q cls d F' M' ρ' H' (l.trans l') (rl.trans r') B'.weak rx
  · exact q.elim
/-- THE RULE of a def that makes lambdas -/
theorem fn_okC {N ps : List Str} {k n sl : Nat} {z : Str} {m : M Fl} (F : FunD K x qual params body scope dvs kws f fd) (S : FnScope N ps scope) (hn : ps.length = n) (hs : N.length = sl + 1) (hz : N[sl]? = some z) (nv : scope.names.lookup z = none) (hnl : n ≤ sl)
    (hb : ∀ (cdv : Value) (A : Around) (o : List Env) (s : Shared) (G : Hp) (T : XK), fd.code = cdv → (cxOf (CV P w) P w K mg base N qual scope f cdv A o s G T).A.guards = some [] → Room k (A.deeper (envOfC qual scope s.heap.objs.size f cdv)) → SSs (cxOf (CV P w) P w K mg base N qual scope f cdv A o s G T) (fun cls d _ G => T cls d G) body m) :
    FnG P w K mg base (k + 1) f fd ps (spV K n (fnBodyC n sl m)) := by
  subst hn
  refine fnG_of2 F S (fun zs G R T h => h.1) fun cdv A o s G zs R T hcd hA hr h => ⟨_, pss_ghost (k := sl) (v := some .non) hz nv (hb cdv A o s G T hcd hA hr), ?_⟩
  obtain ⟨hl, F0, P0, Mm, ρ, g, ds, hR, r, q⟩ := h
  have hd : ds.length = ps.length := r.length.symm.trans hl
  obtain ⟨h1, rl, e1⟩ := hR.frame (clOf (cxOf (CV P w) P w K mg base N qual scope f cdv A o s G T).stack)
  have B := BRel.startF (fc := fcOf (cxOf (CV P w) P w K mg base N qual scope f cdv A o s G T)) (me := some g.nx) (up := []) h1 (r.mono (Leq.refl _) rl) hs (by rw [hd]; exact hnl) ⟨fun fr e => by cases e; exact e1, fun u hu => nomatch hu⟩
  refine ⟨F0, P0, Mm, _, _, B, ?_⟩
  unfold fnBodyC fnBodyF at q
  rw [if_pos hd, ← hd] at q
  exact PostS.ends (Leq.refl _) rl rfl q
/-! ### defs that take lambdas -/
abbrev FnU := Ups → FnD
def fnBodyU (n sl : Nat) (m : M Fl) : FnU := fun up => fnBodyF n sl none up m
def ArU (m : FnU) (n : Nat) : Prop := ∀ up, Ar (m up) n
theorem ar_ofU {n sl : Nat} {m : M Fl} : ArU (fnBodyU n sl m) n := fun up ds g h => if_neg h
def spU (K : PySem.W.Frag) (base : Heap) (n : Nat) (m : FnU) : Sp := fun vs H Q E => vs.length = n ∧ ∃ F P Mm ρ g ds up, HRel K F P Mm ρ g H ∧ (∀ u ∈ up, UpOk K F ρ base u) ∧ RepAll K F ρ vs ds ∧ PostG K P F ρ Q E (m up ds g)
abbrev OkU (P : Program) (w : World) (K : PySem.W.Frag) (mg : Str → Option Value) (lv : Nat) (f : Addr) (fd : FuncData) (ps : List Str) (m : FnU) : Prop := ∀ base : Heap, K.In base → base.Ns mainGlobals mg → FnOk P w K mg base (CV P w) lv f fd ps (spU K base ps.length m)
theorem fn_okU {N ps : List Str} {k n sl : Nat} {z : Str} {m : M Fl} (F : FunD K x qual params body scope dvs kws f fd) (S : FnScope N ps scope) (hn : ps.length = n) (hs : N.length = sl + 1) (hz : N[sl]? = some z) (nv : scope.names.lookup z = none) (hnl : n ≤ sl)
    (hb : ∀ (cdv : Value) (A : Around) (outer : List Env) (s : Shared) (H : Hp) (E : XK), Room k (A.deeper (envOfC qual scope s.heap.objs.size f cdv)) → SSs (cxOf (CV P w) P w K mg base N qual scope f cdv A outer s H E) (fun cls d _ H => E cls d H) body m) :
    FnOk P w K mg base (CV P w) (k + 1) f fd ps (spU K base n (fnBodyU n sl m)) := by
  subst hn
  refine F.ok S (fun vs H Q E h => h.1) fun cdv A outer s H vs Q E hr h => ⟨_, pss_ghost (k := sl) (v := some .non) hz nv (hb cdv A outer s H E hr), ?_⟩
  obtain ⟨hl, F0, P0, Mm, ρ, g, ds, up, hR, hu, r, q⟩ := h
  have hd : ds.length = ps.length := r.length.symm.trans hl
  have B := BRel.startF (fc := fcOf (cxOf (CV P w) P w K mg base N qual scope f cdv A outer s H E)) (me := none) (up := up) hR r hs (by rw [hd]; exact hnl) ⟨fun fr e => (nomatch e), hu⟩
  refine ⟨F0, P0, Mm, _, _, B, ?_⟩
  unfold fnBodyU fnBodyF at q
  rw [if_pos hd, ← hd] at q
  exact PostS.ends (Leq.refl _) (Rle.refl _) rfl q
end
end L2.VI
/-! VI26: defs that take lambdas are called; a lambda is called; try .. except C as n: y = n. -/
namespace L2.VI
open PySem PySem.Spec PyProof.Rows He
section
variable {X : Cx} {pins : List (Addr × Obj)} {σ : St} {H : Hp} {s : Shared}
/-- a base that has the frame's cells, as they are now -/
theorem Inv.baseUp (I : Inv X pins σ H s) (hfn : ∀ x, X.fn x = true) (hst : X.stack = X.env :: X.outer) (hfr : X.env.frame = some X.env.locals) : ∃ B : Heap, X.K.In B ∧ B.Ns mainGlobals X.mg ∧ Env0 X.prog X.w X.K X.mg B X.A X.stack s H ∧ (∀ b o, X.base.get? b = some o → B.get? b = some o) ∧ (∀ y c v, X.env.cells.lookup y = some c → s.heap.IsCell c v → B.IsCell c v) ∧ ∀ b o, B.get? b = some o → X.base.get? b = some o ∨ ∃ y, X.env.cells.lookup y = some b := by
  classical
  let p : Addr → Bool := fun b => decide ((X.base.get? b).isSome = true ∨ ∃ y, X.env.cells.lookup y = some b)
  let l : List Addr := (List.range s.heap.objs.size).filter fun b => !p b
  have hin : ∀ b o, p b = true → s.heap.get? b = some o → (PySem.W.hideAll s.heap l).get? b = some o := fun b o hb e => PySem.W.hideAll_get l e fun hm => by
    have := (List.mem_filter.mp hm).2
    rw [hb] at this
    cases this
  have hof : ∀ b o, (PySem.W.hideAll s.heap l).get? b = some o → s.heap.get? b = some o ∧ p b = true := fun b o e => by
    have e1 := PySem.W.of_hideAll l e
    refine ⟨e1, ?_⟩
    cases hb : p b with
    | true => rfl
    | false =>
      have hm : b ∈ l := List.mem_filter.mpr ⟨List.mem_range.mpr (Heap.lt_size e1), by rw [hb]; rfl⟩
      rw [PySem.W.hideAll_none l hm] at e; cases e
  have up : ∀ b o, X.base.get? b = some o → (PySem.W.hideAll s.heap l).get? b = some o := fun b o e => hin b o (decide_eq_true (.inl (by rw [e]; rfl))) (I.bk b o e)
  have hm := I.mod
  obtain ⟨mb, b1, b2⟩ := hm.blt
  have e0 := I.env0
  refine ⟨PySem.W.hideAll s.heap l, hm.kin.keeps up, hm.glob.keeps up, ⟨e0.frames, ⟨hm.kin.keeps up, hm.glob.keeps up, ⟨mb, b1.keeps up, b2⟩, hm.nolimit.keeps up⟩, fun b o e => ?_, ?_, ?_, e0.frf, e0.hok, e0.bare⟩, up, fun y c v hc ⟨o, h1, h2⟩ => ⟨o, hin c o (decide_eq_true (.inr ⟨y, hc⟩)) h1, h2⟩, fun b o e => ?_⟩
  · obtain ⟨e1, hb⟩ := hof b o e
    refine ⟨e1, ?_⟩
    rcases of_decide_eq_true hb with hb | ⟨y, hb⟩
    · cases q : X.base.get? b with
      | none => rw [q] at hb; cases hb
      | some o' => exact (I.bs b o' q).2
    · exact I.freeC y b hb
  · rw [PySem.W.hideAll_size]; exact Nat.le_refl _
  · refine funFrames_none e0.funs fun L hL => ?_
    cases q : (PySem.W.hideAll s.heap l).get? L with
    | none => rfl
    | some o =>
      obtain ⟨e1, hb⟩ := hof L o q
      have hf := e0.funs
      rcases of_decide_eq_true hb with hb | ⟨y, hb⟩
      · cases q2 : X.base.get? L with
        | none => rw [q2] at hb; cases hb
        | some o' =>
          have := (Heap.FunFrames.mem hf hL).1
          rw [q2] at this; cases this
      · exfalso
        rw [hst] at hL
        have hL' : L = X.env.locals ∨ L ∈ X.fs := by
          have : L ∈ frs (X.env :: X.outer) := hL
          unfold frs at this
          rw [List.filterMap_cons, hfr] at this
          exact List.mem_cons.mp this
        rcases hL' with rfl | hL'
        · obtain ⟨m, ⟨o1, es, ep, g1, g2, _⟩, _⟩ := I.loc
          obtain ⟨v, o2, e3, e4⟩ := I.cell y _ hb
          rw [g1] at e3; cases e3
          rw [g2] at e4; cases e4
        · obtain ⟨_, o', e2, _⟩ := I.ok.funs.mem hL'
          have h1 := Heap.lt_size e2
          exact Nat.lt_irrefl _ (Nat.lt_of_lt_of_le h1 (I.ok.cab y L (hfn y) hb))
  · obtain ⟨e1, hb⟩ := hof b o e
    rcases of_decide_eq_true hb with hb | hb
    · cases q2 : X.base.get? b with
      | none => rw [q2] at hb; cases hb
      | some o' => have := I.bk b o' q2; rw [e1] at this; cases this; exact .inl rfl
    · exact .inr hb
/-- what the captured slots hold -/
def capts (n : Nat) (capt : List Nat) (t : List (Option Slot)) : List (Option D) := (List.range n).map fun j => if j ∈ capt then (match t[j]? with
  | some (some (.val d)) => some d
  | _ => none) else none
theorem capts_get {n j : Nat} {capt : List Nat} {t : List (Option Slot)} {d : D} (h : (capts n capt t)[j]? = some (some d)) : j < n ∧ j ∈ capt ∧ t[j]? = some (some (.val d)) := by
  unfold capts at h
  rw [List.getElem?_map] at h
  by_cases hj : j < n
  · rw [List.getElem?_range hj] at h
    have h : (if j ∈ capt then (match t[j]? with
      | some (some (.val d)) => some d
      | _ => none) else none) = some d := Option.some.inj h
    split at h
    · rename_i hc
      split at h
      · rename_i d' e; cases h; exact ⟨hj, hc, e⟩
      · cases h
    · cases h
  · rw [List.getElem?_eq_none (by simpa using hj)] at h; cases h
/-- the frames below, as a callee sees them: this one too, if it makes lambdas -/
def upsOf (N : List Str) (capt : List Nat) (t : List (Option Slot)) : Option Nat → Ups → Ups
  | some fr, up => (fr, N, capts N.length capt t) :: up
  | none, up => up
def CaptOk (N : List Str) (sc : Scope) (capt : List Nat) : Prop := ∀ j ∈ capt, ∃ y, N[j]? = some y ∧ sc.names.lookup y = some .cell
def captB (N : List Str) (sc : Scope) (capt : List Nat) : Bool := capt.all fun j => match N[j]? with
  | some y => decide (sc.names.lookup y = some .cell)
  | none => false
theorem captOk_by {N : List Str} {sc : Scope} {capt : List Nat} (h : captB N sc capt = true) : CaptOk N sc capt := fun j hj => by
  have := List.all_eq_true.mp h j hj
  split at this
  · rename_i y e; exact ⟨y, e, of_decide_eq_true this⟩
  · cases this
theorem UpOk.base {K : PySem.W.Frag} {F : Hp} {ρ : Rho} {B B' : Heap} {u : Nat × List Str × List (Option D)} (h : UpOk K F ρ B u) (k : ∀ b o, B.get? b = some o → B'.get? b = some o) : UpOk K F ρ B' u := by
  obtain ⟨cs, h1, h2, h3, h4, h5⟩ := h
  have kc : ∀ c v, B.IsCell c v → B'.IsCell c v := fun c v ⟨o, e1, e2⟩ => ⟨o, k _ _ e1, e2⟩
  refine ⟨cs, h1, h2, h3, fun y c e => ?_, fun j d hj => ?_⟩
  · obtain ⟨v, z⟩ := h4 y c e; exact ⟨v, kc _ _ z⟩
  · obtain ⟨y, c, w, v, q1, q2, q3, q4, q5⟩ := h5 j d hj
    exact ⟨y, c, w, v, q1, q2, kc _ _ q3, q4, q5⟩
/-- the base for what is called here, and what it sees -/
theorem up_here {F Mm : Hp} {ρ : Rho} {b : BSt} {P0 : PX (fcOf X)} {kf : Nat} {me : Option Nat} {up : Ups} {capt : List Nat} (I : Inv X pins σ H s) (B : BRel X.K F P0 Mm ρ b σ H) (e : b.t[kf]? = some (some (.frm me up)))
    (hc : me ≠ none → (∀ x, X.fn x = true) ∧ X.stack = X.env :: X.outer ∧ X.env.frame = some X.env.locals ∧ CaptOk X.N X.env.scope capt) :
    ∃ B' : Heap, X.K.In B' ∧ B'.Ns mainGlobals X.mg ∧ Env0 X.prog X.w X.K X.mg B' X.A X.stack s H ∧ (∀ b o, X.base.get? b = some o → B'.get? b = some o) ∧ (∀ b o, B'.get? b = some o → s.heap.get? b = some o ∧ H b = none) ∧ ∀ u ∈ upsOf X.N capt b.t me up, UpOk X.K F ρ B' u := by
  have lk := B.frmAt e
  cases me with
  | none =>
    exact ⟨X.base, I.mod.kin, I.mod.glob, I.env0, fun _ _ z => z, I.bs, lk.2⟩
  | some fr =>
    obtain ⟨c1, c2, c3, c4⟩ := hc (by simp)
    obtain ⟨B', h1, h2, h3, h4, h5, _⟩ := L2.VI.Inv.baseUp I c1 c2 c3
    refine ⟨B', h1, h2, h3, h4, h3.bs, fun u hu => ?_⟩
    rcases List.mem_cons.mp hu with rfl | hu
    · have hcl : ρ.c fr = some X.env.cells := by
        rw [lk.1 fr rfl]
        show some (clOf X.stack) = _
        rw [c2]
        rfl
      refine ⟨X.env.cells, hcl, I.ok.inj, ?_, fun y c z => ?_, fun j d hj => ?_⟩
      · show (capts X.N.length capt b.t).length = X.N.length
        unfold capts
        simp
      · obtain ⟨v, z2⟩ := I.cell y c z
        exact ⟨v, h5 y c v z z2⟩
      · obtain ⟨_, j2, j3⟩ := capts_get hj
        obtain ⟨y, y1, y2⟩ := c4 j j2
        obtain ⟨P, qq, BB⟩ := B
        obtain ⟨v, v1, v2⟩ := BB.sl j _ j3
        obtain ⟨m, _, hl⟩ := I.loc
        obtain ⟨w, r, q⟩ := hl j y v y1 v1 (.inr (.inl y2))
        rcases q with ⟨z, _⟩ | ⟨_, c, z1, z2⟩
        · rw [show X.env.kindOf y = some .cell from y2] at z; cases z
        · exact ⟨y, c, w, v, y1, z1, h5 y c _ z1 z2, r, v2⟩
    · exact (lk.2 u hu).base h4
/-- a def that takes lambdas is called; kf: the frame's own slot, capt: the captured ones -/
def callU (kf : Nat) (N : List Str) (capt : List Nat) (m : FnU) (ds : List D) : M D := fun b => match b.t[kf]? with
  | some (some (.frm me up)) => callF (m (upsOf N capt b.t me up)) ds b
  | _ => .fail
theorem sp_ofU {K : PySem.W.Frag} {W : WX} {fc : FrC} {P0 : PX fc} {F Mm H : Hp} {ρ : Rho} {bs : BSt} {σ : St} {vs : List V} {zs : List D} {Q : VK} {n : Nat} {m : FnU} {ups : Ups} {B' : Heap} (ar : ArU m n) (B : BRel K F P0 Mm ρ bs σ H) (r : RepAll K F ρ vs zs) (hu : ∀ u ∈ ups, UpOk K F ρ B' u)
    (h : Post (Rep K) K W P0 F ρ σ Q (callF (m ups) zs bs)) : spU K B' n m vs H Q (WE W σ) := by
  obtain ⟨P, q, B⟩ := B
  have hn : vs.length = n := by
    by_cases hz : zs.length = n
    · rw [r.length]; exact hz
    · unfold callF at h; rw [ar _ _ _ hz] at h; exact h.elim
  refine ⟨hn, F, P, Mm, ρ, bs.g, zs, ups, B.h, hu, r, ?_⟩
  unfold callF at h
  cases e : m ups zs bs.g with
  | ok d g' => rw [e] at h; exact fun v F' M' ρ' H' l rl h' rr => h v F' M' ρ' H' l rl ⟨P, q, B.step l rl h'⟩ rr
  | exc x g' => rw [e] at h; exact fun v d F' M' ρ' H' l rl h' rr => h v d F' M' ρ' H' l rl ⟨P, q, B.step l rl h'⟩ rr
  | fail => rw [e] at h; exact h
/-- .. in a frame that makes none -/
def callT (kf : Nat) (m : FnU) (ds : List D) : M D := fun b => match b.t[kf]? with
  | some (some (.frm none up)) => callF (m up) ds b
  | _ => .fail
section
variable {W : WX} {k : Nat} {f : Addr} {fd : FuncData} {ps : List Str} {m : FnU} {x : Str} {p pos : Pos} {e : Expr} {es : List Expr} {mas : M (List D)} {kf : Nat} {capt : List Nat}
theorem se_callX {mU : List D → M D} (tk : Takes X W) (U : OkU X.prog X.w X.K X.mg k f fd ps m) (ar : ArU m ps.length) (hr : Room k X.A) (hm : X.mg x = some (.ref f)) (hk : PySem.W.keepIn X.K (.ref f) = true) (hb : Binds X.K fd ps []) (ha : SA X W (e :: es) mas)
    (hU : ∀ (F : Hp) (P0 : PX (fcOf X)) (ρ : Rho) (σ : St) (Q : VK) (zs : List D) (b1 : BSt), Post (Rep X.K) X.K W P0 F ρ σ Q (mU zs b1) → ∃ (me : Option Nat) (up : Ups), b1.t[kf]? = some (some (.frm me up)) ∧ (me ≠ none → (∀ x, X.fn x = true) ∧ X.stack = X.env :: X.outer ∧ X.env.frame = some X.env.locals ∧ CaptOk X.N X.env.scope capt) ∧
      Post (Rep X.K) X.K W P0 F ρ σ Q (callF (m (upsOf X.N capt b1.t me up)) zs b1))
    (hg : Gl X x) (hdb : (x == ("__debug__" : Str)) = false) (he : starEach (e :: es) X.env = (false, eval e X.env) :: starEach es X.env) (hpl : (backTo pos (starEach es X.env)).any (·.1) = false) :
    SE X W (.Call (.Name x p) (e :: es) [] pos) (M.bind mas mU) := by
  refine ⟨fun pins s σ H Q I ⟨F, P0, Mm, ρ, bs, B, q⟩ => ?_⟩
  apply wpAny_Call_Name_kw
  apply ld_glob I hg hm _ hdb
  have h0 : tA (fc := fcOf X) X.K W mas σ H (fun vs H1 => ∃ (F1 Mm1 : Hp) (ρ1 : Rho) (b1 : BSt) (zs : List D) (me : Option Nat) (up : Ups), BRel X.K F1 P0 Mm1 ρ1 b1 σ H1 ∧ RepAll X.K F1 ρ1 vs zs ∧ b1.t[kf]? = some (some (.frm me up)) ∧
      (me ≠ none → (∀ x, X.fn x = true) ∧ X.stack = X.env :: X.outer ∧ X.env.frame = some X.env.locals ∧ CaptOk X.N X.env.scope capt) ∧ Post (Rep X.K) X.K W P0 F1 ρ1 σ Q (callF (m (upsOf X.N capt b1.t me up)) zs b1)) :=
    tM_then B q fun xs zs F1 M1 r1 b1 H1 l1 e1 B1 q1 h1 => by
      obtain ⟨me, up, et, hc, h2⟩ := hU F1 P0 r1 σ Q zs b1 h1
      exact ⟨F1, M1, r1, b1, zs, me, up, B1, q1, et, hc, h2⟩
  refine PySem.W.callWith_K (h₀ := X.base) I.ok.mod.kin hk (thn (ha.run pos pins s σ H _ I h0) ?_) he hpl
  rintro ws s1 ⟨zs, H1, J, r, F1, M1, r1, b1, ds, me, up, B1, q1, et, hc, q2⟩
  refine ⟨J.kIn, ?_⟩
  obtain ⟨B', g1, g2, g3, _, _, g4⟩ := up_here (capt := capt) J B1 et hc
  have Fn := U B' g1 g2
  have sp := sp_ofU (W := W) ar B1 q1 g4 q2
  have hl : (ws ++ []).length = ps.length := by rw [List.append_nil, ← r.length]; exact Fn.len _ _ _ _ sp
  have hbind := hb s1 ws J.kIn hl
  rw [List.append_nil] at hbind
  refine wpAny_call (codeAny_mono (Fn.run X.A X.stack s1 H1 ⟨ws, []⟩ ws zs Q (WE W σ) hr g3 hbind r sp) ?_)
  rintro (er | fl) s' z
  · exact passAt tk σ pins H1 s1 er s' J z
  · cases fl with
    | ret u => exact J.after z
    | _ => exact False.elim z
theorem se_callU (tk : Takes X W) (U : OkU X.prog X.w X.K X.mg k f fd ps m) (ar : ArU m ps.length) (hr : Room k X.A) (hm : X.mg x = some (.ref f)) (hk : PySem.W.keepIn X.K (.ref f) = true) (hb : Binds X.K fd ps []) (ha : SA X W (e :: es) mas)
    (c1 : ∀ x, X.fn x = true := by intro _; rfl) (c2 : X.stack = X.env :: X.outer := by rfl) (c3 : X.env.frame = some X.env.locals := by rfl) (c4 : captB X.N X.env.scope capt = true := by rfl)
    (hg : Gl X x := by rfl) (hdb : (x == ("__debug__" : Str)) = false := by decide) (he : starEach (e :: es) X.env = (false, eval e X.env) :: starEach es X.env := by rfl) (hpl : (backTo pos (starEach es X.env)).any (·.1) = false := by rfl) :
    SE X W (.Call (.Name x p) (e :: es) [] pos) (M.bind mas (callU kf X.N capt m)) :=
  se_callX tk U ar hr hm hk hb ha (fun F P0 ρ σ Q zs b1 h => by
    unfold callU at h
    split at h
    · rename_i me up et
      exact ⟨me, up, et, fun _ => ⟨c1, c2, c3, captOk_by c4⟩, h⟩
    · exact h.elim) hg hdb he hpl
theorem se_callN (tk : Takes X W) (U : OkU X.prog X.w X.K X.mg k f fd ps m) (ar : ArU m ps.length) (hr : Room k X.A) (hm : X.mg x = some (.ref f)) (hk : PySem.W.keepIn X.K (.ref f) = true) (hb : Binds X.K fd ps []) (ha : SA X W (e :: es) mas)
    (hg : Gl X x := by rfl) (hdb : (x == ("__debug__" : Str)) = false := by decide) (he : starEach (e :: es) X.env = (false, eval e X.env) :: starEach es X.env := by rfl) (hpl : (backTo pos (starEach es X.env)).any (·.1) = false := by rfl) :
    SE X W (.Call (.Name x p) (e :: es) [] pos) (M.bind mas (callT kf m)) :=
  se_callX (capt := []) tk U ar hr hm hk hb ha (fun F P0 ρ σ Q zs b1 h => by
    unfold callT at h
    split at h
    · rename_i up et
      exact ⟨none, up, et, fun z => absurd rfl z, h⟩
    · exact h.elim) hg hdb he hpl
end
end
end L2.VI
/-! VI27: a lambda without parameters is called; try .. except C as n: y = n. -/
namespace L2.VI
open PySem PySem.Spec PyProof.Rows He
/-- the frame of a lambda that runs -/
def lamV (L : LamT) (cs : Cl) (s : Shared) (f c' : Addr) : Env := PySem.W.envX L.qual L.scope s.heap.objs.size f (.ref c') (cloFrom cs L.scope.names [])
def lamY (P : Program) (w : World) (K : PySem.W.Frag) (mg : Str → Option Value) (base : Heap) (L : LamT) (cs : Cl) (A : Around) (outer : List Env) (s : Shared) (H : Hp) (E : XK) (f c' : Addr) : Cx where
  prog := P
  w := w
  K := K
  mg := mg
  base := base
  A := A.deeper (lamV L cs s f c')
  N := L.N
  s_0 := s
  H_0 := H
  env := lamV L cs s f c'
  outer := outer
  stack := lamV L cs s f c' :: outer
  ex := []
  fn := fun _ => false
  calm := true
  pn := []
  xe := fun e s' => wpAny (model P w) (A.deeper (lamV L cs s f c')) (leaving (lamV L cs s f c') e) (fun _ s'' => CV P w outer H s E e s'') (fun e' s'' => CV P w outer H s E e' s'') s'
/-- what a lambda's body does, in any frame of its own -/
abbrev OkLam (P : Program) (w : World) (K : PySem.W.Frag) (mg : Str → Option Value) (base : Heap) (k : Nat) (L : LamT) (m : M D) : Prop := ∀ (cs : Cl) (A : Around) (outer : List Env) (s : Shared) (H : Hp) (E : XK) (f c' : Addr), Room k (A.deeper (lamV L cs s f c')) →
  SE (lamY P w K mg base L cs A outer s H E f c') (fun cls d _ H => E cls d H) L.body m
/-- the lambda has no parameters, no names of its own -/
structure LamB (L : LamT) : Prop where
  kind : L.scope.kind = .function
  co : L.scope.isCoroutine = false
  gen : L.scope.isGenerator = false
  own : ∀ y ∈ L.scope.names, y.2 ≠ .local ∧ y.2 ≠ .cell
  bind : ∀ (cl : List (Str × Addr)) (pm cv ctv : Value), bindArgs (PySem.W.kla_fn "<lambda>" L.qual L.params L.body L.scope cl pm cv ctv) ⟨[], []⟩ = pure []
section
variable {X : Cx} {pins : List (Addr × Obj)} {σ : St} {H : Hp} {s : Shared}
theorem clo_look {cs : Cl} {names : List (Str × NameKind)} (hf : ∀ y ∈ names, y.2 = .free → ∃ c, cs.lookup y.1 = some c) : (∀ {y c}, (cloFrom cs names []).lookup y = some c → cs.lookup y = some c) ∧ ∀ {y}, names.lookup y = some .free → ∃ c, (cloFrom cs names []).lookup y = some c := by
  refine ⟨fun {y c} e => ?_, fun {y} e => mem_lookup (cloFrom_has (cells := cs) (acc := []) (PySem.mem_of_lookup e))⟩
  rcases cloFrom_mem (PySem.mem_of_lookup e) with hm | ⟨h1, h2⟩
  · cases hm
  · obtain ⟨c1, h3⟩ := hf _ h1 rfl
    have h3 : cs.lookup y = some c1 := h3
    rw [h2, h3]
    rfl
/-- the lambda's frame begins -/
theorem lam_begin {L : LamT} {cs : Cl} {f c' : Addr} {h1 : Heap} {tk : Nat} {E : XK} {τ : St} (I : Inv X pins σ H s) (hd : X.A.handled = none) (hL : LamB L) (hf : ∀ y ∈ L.scope.names, y.2 = .free → ∃ c, cs.lookup y.1 = some c)
    (inj : ∀ y z c, cs.lookup y = some c → cs.lookup z = some c → y = z) (hc : ∀ y c, cs.lookup y = some c → ∃ v, X.base.IsCell c v) (hlen : τ.length = L.N.length)
    (hτ : ∀ (i : Nat) (y : Str) (v : V), L.N[i]? = some y → τ[i]? = some (some v) → ∃ c w, cs.lookup y = some c ∧ X.base.IsCell c (some w) ∧ RelV v w)
    (hns : h1.Ns s.heap.objs.size fun y => ([] : List (Str × Value)).reverse.lookup y) (kp : ∀ b o, s.heap.get? b = some o → h1.get? b = some o) :
    Inv (lamY X.prog X.w X.K X.mg X.base L cs X.A X.stack s H E f c') [] τ H { s with heap := h1, toks := tk } := by
  obtain ⟨cm, look⟩ := clo_look hf
  have e0 := I.env0
  have noA : ∀ b : Addr, b ∉ (lamY X.prog X.w X.K X.mg X.base L cs X.A X.stack s H E f c').ex := fun b z => absurd (show b ∈ ([] : List Addr) from z) (by simp)
  have cb : ∀ {c v}, X.base.IsCell c v → h1.IsCell c v ∧ H c = none := fun {c v} ⟨o, z1, z2⟩ => ⟨⟨o, kp _ _ (I.bs c o z1).1, z2⟩, (I.bs c o z1).2⟩
  refine ⟨⟨e0.mod, hL.kind, rfl, rfl, Nat.le_refl _, fun y z c e1 e2 => inj y z c (cm e1) (cm e2), fun y hy => ?_, fun y c z _ => (nomatch (show false = true from z)), fun _ => hd, Around.frames_deeper e0.frames, .inr ⟨rfl, rfl⟩, fun b z => absurd z (noA b), e0.bs, e0.bsz, fun b _ _ => noA b, fun b z => absurd z (noA b), e0.funs, e0.frf⟩,
    rfl, e0.bare, Un.kept kp, ⟨_, hns, fun i y v e1 e2 e3 => ?_⟩, fun y c e => ?_, e0.hok.fresh (Nat.le_refl _), fun y c e => ?_, fun q hq => absurd (show q ∈ ([] : List (Addr × Obj)) ++ [] from hq) (by simp), e0.hok.kept kp, hlen⟩
  · have hy : L.scope.names.lookup y = some .cell ∨ L.scope.names.lookup y = some .free := hy
    rcases hy with hy | hy
    · exact absurd rfl (hL.own _ (PySem.mem_of_lookup hy)).2
    · exact look hy
  · have e3 : Vis L.scope y := e3
    rcases e3 with z | z | z
    · exact absurd rfl (hL.own _ (PySem.mem_of_lookup z)).1
    · exact absurd rfl (hL.own _ (PySem.mem_of_lookup z)).2
    · obtain ⟨c, w, q1, q2, q3⟩ := hτ i y v e1 e2
      obtain ⟨c2, q4⟩ := look z
      have q5 := cm q4
      rw [q1] at q5; cases q5
      exact ⟨w, q3, .inr ⟨.inr z, c, q4, (cb q2).1⟩⟩
  · obtain ⟨v, z⟩ := hc y c (cm e)
    exact ⟨v, (cb z).1⟩
  · obtain ⟨v, z⟩ := hc y c (cm e)
    exact (cb z).2
end
/-- the frames below: the one with the number -/
def upFind (fr : Nat) (up : Ups) : Option (List Str × List (Option D)) := up.lookup fr
open Classical in
/-- x(): a lambda of the text, made by a frame below -/
noncomputable def lcallM (kf : Nat) (tbl : List (LamT × M D)) (me : M D) : M D := M.bind me fun d => fun b => match d, b.t[kf]? with
  | .lam i L fr, some (some (.frm _ up)) => (match tbl[i]?, up.lookup fr with
    | some (L', m), some (N, ts) => if L = L' ∧ N = L'.N then (match m ⟨b.g, ts.map fun o => o.map Slot.val⟩ with
      | .ok d b' => .ok d { b with g := b'.g }
      | .exc x b' => .exc x { b with g := b'.g }
      | .fail => .fail) else .fail
    | _, _ => .fail)
  | _, _ => .fail
section
variable {X : Cx} {W : WX}
theorem mem_lookupN {β : Type} {x : Nat} {d : β} : ∀ {l : List (Nat × β)}, l.lookup x = some d → (x, d) ∈ l
  | [], h => by cases h
  | (y, e) :: l, h => by
    simp only [List.lookup] at h
    split at h
    · rename_i hb
      have : x = y := by simpa using hb
      subst this
      cases h
      exact List.mem_cons_self
    · exact List.mem_cons_of_mem _ (mem_lookupN h)
open Classical in
theorem se_lcall {k kf : Nat} {tbl : List (LamT × M D)} {me : M D} {a : Str} {p1 p2 : Pos} (tk : Takes X W) (hr : Room (k + 1) X.A) (ha : SE X W (.Name a p1) me) (hB : ∀ q ∈ tbl, LamB q.1 ∧ OkLam X.prog X.w X.K X.mg X.base k q.1 q.2) :
    SE X W (.Call (.Name a p1) [] [] p2) (lcallM kf tbl me) := by
  refine ⟨fun pins s σ H Q I ⟨F, P0, Mm, ρ, bs, B, q⟩ => ?_⟩
  have h0 : tE (fc := fcOf X) X.K W me σ H (fun v H1 => ∃ (F1 Mm1 : Hp) (ρ1 : Rho) (b1 : BSt) (i fr : Nat) (L : LamT) (m : M D) (o : Option Nat) (up : Ups) (ts : List (Option D)), BRel X.K F1 P0 Mm1 ρ1 b1 σ H1 ∧ Rep X.K F1 ρ1 v (.lam i L fr) ∧ b1.t[kf]? = some (some (.frm o up)) ∧ (L, m) ∈ tbl ∧ (fr, L.N, ts) ∈ up ∧
      Post (Rep X.K) X.K W P0 F1 ρ1 σ Q (match m ⟨b1.g, ts.map fun o => o.map Slot.val⟩ with
        | .ok d b' => .ok d { b1 with g := b'.g }
        | .exc x b' => .exc x { b1 with g := b'.g }
        | .fail => .fail)) :=
    tM_then (k := fun d => fun b => match d, b.t[kf]? with
      | .lam i L fr, some (some (.frm _ up)) => (match tbl[i]?, up.lookup fr with
        | some (L', m), some (N, ts) => if L = L' ∧ N = L'.N then (match m ⟨b.g, ts.map fun o => o.map Slot.val⟩ with
          | .ok d b' => .ok d { b with g := b'.g }
          | .exc x b' => .exc x { b with g := b'.g }
          | .fail => .fail) else .fail
        | _, _ => .fail)
      | _, _ => .fail) B q fun v d F1 M1 r1 b1 H1 l1 e1 B1 q1 h1 => by
      split at h1
      · rename_i i L fr o up et
        split at h1
        · rename_i L' m N ts t1 t2
          split at h1
          · rename_i hL
            obtain ⟨rfl, rfl⟩ := hL
            exact ⟨F1, M1, r1, b1, i, fr, L, m, o, up, ts, B1, q1, et, List.mem_of_getElem? t1, mem_lookupN t2, h1⟩
          · exact h1.elim
        · exact h1.elim
      · exact h1.elim
  apply wpAny_Call_Name_kw
  refine thn (ha.run pins s σ H _ I h0) ?_
  rintro u s1 ⟨v, H1, J, rv, F1, M1, r1, b1, i, fr, L, m, o, up, ts, B1, rl, et, hm, hu, q1⟩
  obtain ⟨hB1, hB2⟩ := hB _ hm
  have lk := (B1.frmAt et).2 _ hu
  obtain ⟨cs, u1, u2, u3, u4, u5⟩ := lk
  cases rl with
  | @lam f c' _ _ _ cs2 pm ctv f1 f2 f3 f4 =>
  rw [u1] at f3
  cases f3
  obtain rfl : u = Value.ref f := rv
  have rf : H1 f = some (LamO L cs pm c' ctv) := by
    obtain ⟨P, qq, BB⟩ := id B1
    exact BB.h.fh _ _ f1
  have rc : H1 c' = some (LamX.CodeO c' L.qual) := by
    obtain ⟨P, qq, BB⟩ := id B1
    exact BB.h.fh _ _ f2
  have of1 := (J.hok f _ rf).1
  obtain ⟨⟨oc, vs, t, k1, k2, k3⟩, _, _⟩ := J.hok c' _ rc
  refine PySem.W.callWith_F0 ⟨_, _, _, _, of1⟩ ?_
  -- the slots of the lambda's frame
  have pick : ∀ j : Nat, ∃ x : Option V, (∀ d, ts[j]? = some (some d) → ∃ (y : Str) (c : Addr) (w : Value) (v : V), x = some v ∧ L.N[j]? = some y ∧ cs.lookup y = some c ∧ X.base.IsCell c (some w) ∧ RelV v w ∧ Rep X.K F1 r1 v d) ∧ ((∀ d, ts[j]? ≠ some (some d)) → x = none) := fun j => by
    by_cases hj : ∃ d, ts[j]? = some (some d)
    · obtain ⟨d, hj⟩ := hj
      obtain ⟨y, c, w, v, y1, y2, y3, y4, y5⟩ := u5 j d hj
      exact ⟨some v, fun d' h' => ⟨y, c, w, v, rfl, y1, y2, y3, y4, by rw [hj] at h'; cases h'; exact y5⟩, fun z => absurd hj (z d)⟩
    · exact ⟨none, fun d' h' => absurd ⟨d', h'⟩ hj, fun _ => rfl⟩
  obtain ⟨fn, hfn⟩ := Classical.axiomOfChoice pick
  have hτ : ∀ j x, ((List.range L.N.length).map fn)[j]? = some x → fn j = x ∧ j < L.N.length := fun j x e => by
    rw [List.getElem?_map] at e
    by_cases hj : j < L.N.length
    · rw [List.getElem?_range hj] at e
      exact ⟨Option.some.inj e, hj⟩
    · rw [List.getElem?_eq_none (by simpa using hj)] at e; cases e
  have rc2 : codeAny (model X.prog X.w) X.A (.call (.ref f) ⟨[], []⟩) (CR (CV X.prog X.w) X.stack X.prog X.w H1 s1 Q (WE W σ)) s1 := by
    refine PySem.W.kla_callFunE hr.depth of1 rfl hB1.co hB1.gen rfl ⟨c', oc, vs, t, rfl, k1, k2, k3⟩ ?_
    rw [hB1.bind]
    refine wpAny_pure (wpAny_newFunctionEnv (fun y hy => (hB1.own y hy).2) (fun y hy => absurd hy (by simp)) (fun h1 hns hsb => ⟨J.nolimit.fresh _ hsb, ?_⟩) hB1.kind)
    show codeAny _ _ (.expr L.body (lamV L cs s1 f c')) _ _
    have kp : ∀ b o, s1.heap.get? b = some o → h1.get? b = some o := fun b o e => hsb.extBut b o (Nat.ne_of_lt (Heap.lt_size e)) (Heap.get?_push_of_some _ e)
    have J2 : Inv (lamY X.prog X.w X.K X.mg X.base L cs X.A X.stack s1 H1 (WE W σ) f c') [] ((List.range L.N.length).map fn) H1 { s1 with heap := h1, toks := s1.toks + ([] : List (Str × Value)).length } :=
      lam_begin J hr.hd hB1 f4 u2 u4 (by simp) (fun j y v e1 e2 => by
        obtain ⟨z1, z2⟩ := hτ j _ e2
        by_cases hj : ∃ d, ts[j]? = some (some d)
        · obtain ⟨d, hj⟩ := hj
          obtain ⟨y', c, w, v', a1, a2, a3, a4, a5, _⟩ := (hfn j).1 d hj
          rw [z1] at a1; cases a1
          have e1 : L.N[j]? = some y := e1
          rw [e1] at a2; cases a2
          exact ⟨c, w, a3, a4, a5⟩
        · rw [(hfn j).2 (fun d z => hj ⟨d, z⟩)] at z1; cases z1) hns kp
    obtain ⟨P, qq, BB⟩ := B1
    have B2 : BRel (fc := fcOf (lamY X.prog X.w X.K X.mg X.base L cs X.A X.stack s1 H1 (WE W σ) f c')) X.K F1 P M1 r1 ⟨b1.g, ts.map fun o => o.map Slot.val⟩ ((List.range L.N.length).map fn) H1 := by
      have u3 : ts.length = L.N.length := u3
      refine ⟨P, fun _ => none, BB.h, fun _ _ z => z, by simp [u3], fun i j p e => (nomatch e), fun j sl e => ?_⟩
      have e : (ts.map fun o => o.map Slot.val)[j]? = some (some sl) := e
      rw [List.getElem?_map] at e
      cases ej : ts[j]? with
      | none => rw [ej] at e; cases e
      | some od =>
        rw [ej] at e
        cases od with
        | none => cases e
        | some d =>
          cases e
          obtain ⟨y', c, w, v', a1, a2, a3, a4, a5, a6⟩ := (hfn j).1 d ej
          refine ⟨v', ?_, a6⟩
          have hj : j < L.N.length := (List.getElem?_eq_some_iff.mp a2).1
          rw [List.getElem?_map, List.getElem?_range hj]
          exact congrArg some a1
    have post : tE (fc := fcOf (lamY X.prog X.w X.K X.mg X.base L cs X.A X.stack s1 H1 (WE W σ) f c')) X.K (fun cls d _ H => WE W σ cls d H) m ((List.range L.N.length).map fn) H1 Q := by
      refine ⟨F1, P, M1, r1, _, B2, ?_⟩
      generalize m ⟨b1.g, ts.map fun o => o.map Slot.val⟩ = z at q1 ⊢
      cases z with
      | ok d b' => exact fun v F' M' ρ' H' l r B3 rv => q1 v F' M' ρ' H' l r ⟨P, qq, BB.step l r B3.weak⟩ rv
      | exc x b' => exact fun cls d F' M' ρ' H' l r B3 rx => q1 cls d F' M' ρ' H' l r ⟨P, qq, BB.step l r B3.weak⟩ rx
      | fail => exact q1
    refine PySem.W.kla_codeExpr (wpAny_mono ((hB2 cs X.A X.stack s1 H1 (WE W σ) f c' (hr.deeper _)).run [] _ _ H1 Q J2 post) (fun v s' hq => ?_) fun e s' hq => hq)
    obtain ⟨w', H', J', rv, q⟩ := hq
    exact ⟨w', H', J'.os, J'.bare, J'.base, J'.hok, rv, q⟩
  refine wpAny_call (codeAny_mono rc2 ?_)
  rintro (er | fl) s' z
  · exact passAt tk σ pins H1 s1 er s' J z
  · cases fl with
    | ret u => exact J.after z
    | _ => exact False.elim z
end
end L2.VI
/-! VI28: try .. except C as n: y = n. -/
namespace L2.VI
open PySem PySem.Spec PyProof.Rows He
section
variable {X : Cx} {Wo : WX} {x n y : Str} {body : List Stmt} {np yp vp sp pos pos' : Pos} {mb : M Fl} {c : Str}
/-- try: .. except c as n: y = n; own: which classes of the module c takes -/
def tryKeep (i j : Nat) (own : List (Str × Bool)) (mb : M Fl) : M Fl := fun b => match mb b with
  | .exc e b' => (match own.lookup e.c with
    | some true => .ok .nx { b' with t := ((b'.t.set i (some (.val (.xob e.c e.fs)))).set j (some (.val (.xob e.c e.fs)))).set i none }
    | some false => .exc e b'
    | none => .fail)
  | r => r
theorem ss_tryKeep {i j : Nat} {own : List (Str × Bool)} (tk : Takes X Wo) (hcM : X.mg c = some (.ref (ga X.K c))) (ho : ∀ p ∈ own, PySem.W.exmOne X.K (.ref (ga X.K p.1)) (.ref (ga X.K c)) = some p.2) (hN : X.N.Nodup)
    (hb : ∀ (W : WX) (pn : List (Addr × Obj)) (xe : Value → Shared → Prop), Takes (X.tr pn xe) W → PassesOwn (model X.prog X.w) X.A X.env xe → SSs (X.tr pn xe) W body mb)
    (hi : X.N[i]? = some n := by rfl) (hj : X.N[j]? = some y := by rfl) (hln : X.env.scope.names.lookup n = some .local := by rfl) (hly : X.env.scope.names.lookup y = some .local := by rfl) (hij : i ≠ j := by decide) (hg : Gl X c := by rfl) (hdb : (c == ("__debug__" : Str)) = false := by decide)
    (dn : (n == ("__debug__" : Str)) = false := by decide) (dc : (n == ("__classdict__" : Str)) = false := by decide) (hs : X.stack = X.env :: X.outer := by rfl) (hf : X.env.frame = some X.env.locals := by rfl) (hx : X.ex = [] := by rfl) :
    SS X Wo (.Try body [.ExceptHandler (some (.Name c np)) (some n) [.Assign [.Name y yp] (.Name n vp) sp] pos'] [] [] pos) (tryKeep i j own mb) := by
  refine SS.of (ps_try_keep (c := .ref (ga X.K c)) (i := i) (j := j) (tb := fun W => sV (fc := fcOf X) X.K W mb) (Wo := Wo) hs hf hx hN hi hj hln hly hij ⟨hg, hdb, .inl hcM⟩ tk dn dc fun W pn xe t1 t2 => hb W pn xe t1 t2) fun σ H F P0 Mm ρ b D B q => ?_
  refine ⟨F, P0, Mm, ρ, b, B, ?_⟩
  unfold tryKeep at q
  cases e : mb b with
  | fail => rw [e] at q; exact q.elim
  | ok fl b' => rw [e] at q; cases fl <;> exact q
  | exc ex b' =>
    rw [e] at q
    dsimp only at q
    intro cls d σ' F' M' ρ' H' l r B' rx
    cases el : own.lookup ex.c with
    | none => rw [el] at q; exact q.elim
    | some k =>
      rw [el] at q
      have hcl := rx.1
      have hm := ho (ex.c, k) (PySem.mem_of_lookup el)
      refine ⟨k, by rw [hcl]; exact hm, fun hk a na => ?_, fun hk => ?_⟩
      · subst hk
        obtain ⟨B2, l2⟩ := B'.frozen na (XVv cls d a)
        have rep : Rep X.K (upd F' a (XVv cls d a)) ρ' (.ref a) (.xob ex.c ex.fs) := by
          obtain ⟨h1, h2⟩ := rx
          subst h1
          rcases h2 with ⟨h3, h4⟩ | ⟨dx, vs, h3, h4, h5, h6⟩
          · subst h4
            rw [h3]
            exact .xob0 upd_same
          · subst h3
            exact .xob upd_same (l2 _ _ h4) h5 (h6.mono l2 (Rle.refl _))
        exact q _ _ _ _ _ (l.trans l2) r (((B2.setV i rep).setV j rep).drop i none)
      · subst hk
        exact q cls d σ' F' M' ρ' H' l r B' rx
end
end L2.VI
/-! VI29: a list comprehension in a def that makes lambdas: in its block the def's cells are known. -/
namespace L2.VI
open PySem PySem.Spec PyProof.Rows He
abbrev reb (Y : Cx) (B : Heap) : Cx := { Y with base := B }
section
variable {Y : Cx} {X : Cx} {pins : List (Addr × Obj)} {σ : St} {H : Hp} {s : Shared}
theorem inv_reb {B : Heap} (I : Inv Y pins σ H s) (m : Mod Y.K Y.mg B) (b1 : ∀ b o, B.get? b = some o → Y.s_0.heap.get? b = some o ∧ Y.H_0 b = none) (b2 : B.objs.size ≤ Y.s_0.heap.objs.size) (b3 : ∀ b o, B.get? b = some o → b ∉ Y.ex) (b4 : Y.s_0.heap.FunFrames B Y.outer) : Inv (reb Y B) pins σ H s :=
  ⟨⟨m, I.ok.kind, I.ok.glob, I.ok.blt, I.ok.above, I.ok.inj, I.ok.has, I.ok.cab, I.ok.hd, I.ok.frames, I.ok.stk, I.ok.exf, b1, b2, b3, I.ok.exfs, b4, I.ok.frf⟩, I.os, I.bare, I.base, I.loc, I.cell, I.free, I.freeC, I.pin, I.hok, I.len⟩
/-- B: the def's base with its cells, as they are at the slots σ -/
structure BaseOf (X : Cx) (σ : St) (B : Heap) : Prop where
  up : ∀ b o, X.base.get? b = some o → B.get? b = some o
  inj : ∀ y z c, X.env.cells.lookup y = some c → X.env.cells.lookup z = some c → y = z
  cell : ∀ y c, X.env.cells.lookup y = some c → ∃ v, B.IsCell c v
  val : ∀ (i : Nat) (y : Str) (v : V), X.N[i]? = some y → σ[i]? = some (some v) → X.env.scope.names.lookup y = some .cell → ∃ c w, X.env.cells.lookup y = some c ∧ B.IsCell c (some w) ∧ RelV v w
theorem baseOf (I : Inv X pins σ H s) {B : Heap} (h1 : ∀ b o, X.base.get? b = some o → B.get? b = some o) (h2 : ∀ y c v, X.env.cells.lookup y = some c → s.heap.IsCell c v → B.IsCell c v) : BaseOf X σ B := by
  refine ⟨h1, I.ok.inj, fun y c e => ?_, fun i y v e1 e2 e3 => ?_⟩
  · obtain ⟨v, z⟩ := I.cell y c e
    exact ⟨v, h2 y c v e z⟩
  · obtain ⟨m, _, hl⟩ := I.loc
    obtain ⟨w, r, q⟩ := hl i y v e1 e2 (.inr (.inl e3))
    rcases q with ⟨z, _⟩ | ⟨_, c, z1, z2⟩
    · rw [show X.env.kindOf y = some .cell from e3] at z; cases z
    · exact ⟨c, w, z1, h2 y c _ z1 z2, r⟩
/-- what a comprehension walks, then: from whatever base with the cells -/
def tLcB (X : Cx) (wi : TI) (g : Heap → TG) (tt : Heap → TT) (te : Heap → TE) (vs : List Nat) : TE := fun σ H Q => wi σ H fun J H1 => ∀ D, H1 D = none → ∀ B, BaseOf X σ B → ∃ Wt : Nat → Nat → Hp → Prop, (∃ m, Wt 0 m (upd H1 D (.lst []))) ∧ ∀ i m G, Wt i m G →
  (J.stop i G ∧ Q (.ref D) G) ∨ (J.go i G ∧ ∃ Nx : Hp → Prop, (∀ G', Nx G' → ∃ m', m' < m ∧ Wt (i + 1) m' G') ∧ ∀ x G', J.yld i G x G' → g B x (wipe σ vs) G' fun τ G2 => wipe τ vs = wipe σ vs ∧ tt B τ G2 fun k G3 =>
    if k = true then te B τ G3 fun y G4 => ∃ acc, G4 D = some (.lst acc) ∧ acc.length < sizeLine ∧ Nx (upd G4 D (.lst (acc ++ [y]))) else Nx G3)
theorem lcB_core {Q : VK} {elt tg iter : Expr} {ifs : List Expr} {scope : Scope} {own : List (Str × Nat)} {pos pos' : Pos} {wi : TI} {g : Heap → TG} {tt : Heap → TT} {te : Heap → TE} {use : Option (Value → Sem Unit)} {Qf : Value → Shared → Prop} (hcalm : X.calm = true) (nd : X.N.Nodup)
    (hfn : ∀ x, X.fn x = true) (hst : X.stack = X.env :: X.outer) (hfr : X.env.frame = some X.env.locals) (I : Inv X pins σ H s) (hi : PI X tg iter wi) (ok : BlkOk X.N X.env.scope scope own)
    (hg : ∀ (B : Heap) (t : Shared) (G : Hp) (C : Addr) (cl : List (Str × Addr)) (fp : List Addr), X.K.In B → B.Ns mainGlobals X.mg → PG (reb (X.blk t G scope (compEnvC scope cl C X.env) fp) B) tg (g B))
    (ht : ∀ (B : Heap) (t : Shared) (G : Hp) (C : Addr) (cl : List (Str × Addr)) (fp : List Addr), X.K.In B → B.Ns mainGlobals X.mg → PTs (reb (X.blk t G scope (compEnvC scope cl C X.env) fp) B) ifs (tt B))
    (he : ∀ (B : Heap) (t : Shared) (G : Hp) (C : Addr) (cl : List (Str × Addr)) (fp : List Addr), X.K.In B → B.Ns mainGlobals X.mg → PE (reb (X.blk t G scope (compEnvC scope cl C X.env) fp) B) elt (te B)) (hs : ∀ x, foldedSetIterable iter X.env x = pure x)
    (h : tLcB X wi g tt te (own.map (·.2)) σ H Q)
    (ends : ∀ D C t m G, Inv X pins σ G t → Q (.ref D) G → t.heap.Ns C m → FpOk X pins G C → compPost (model X.prog X.w) X.A X.xe use Qf (.ref D) C (.ok .next) t) :
    wpAny (model X.prog X.w) X.A (comprehension (.ListComp elt [⟨tg, iter, ifs, 0⟩] scope pos) scope X.env pos' (newList []) false (eval iter X.env) use) Qf X.xe s := by
  have hfree : ∀ y ∈ scope.names, y.2 = .free → ∃ c, X.env.cells.lookup y.1 = some c := by
    intro y hy e
    exact (ok.free y hy e).elim (fun z => I.ok.has _ (.inl z)) (fun z => I.ok.has _ (.inr z))
  refine wpAny_comprehension_free (use := use) rfl hs (closure_ok hfree) ok.kind (fun y hy e => by rw [ok.uniq y hy, e]) ?_
  refine thn (hi.run pins s σ H _ I h) ?_
  intro xv s1 hx
  refine thn hx ?_
  rintro itv s2 ⟨it, fp, tn, J, H2, rfl, I2, T, st2, f2, q⟩
  refine wpAny_newObj_type (newEnv_comp ?_) (show 0 ≤ sizeLine by decide)
  generalize eD : s2.heap.objs.size = Dn
  have nD : H2 Dn = none := I2.hok.fresh (Nat.le_of_eq eD)
  have qD := q Dn nD
  generalize e3 : ({ s2 with heap := s2.heap.push { cls := .type "list", data := .seq ([] : List Value).toArray } } : Shared) = s3
  have h3 : s3.heap = s2.heap.push { cls := .type "list", data := .seq ([] : List Value).toArray } := by subst e3; rfl
  have I3 : Inv X pins σ (upd H2 Dn (.lst [])) s3 := by
    subst e3
    exact I2.laid (t' := s2.toks) (fun b o z => Heap.get?_push_of_some _ z) (Nat.le_of_eq eD) ⟨Nat.zero_le _, [], 0, .nil, by rw [← eD]; exact Heap.get?_push_size _ rfl⟩
  have sz : ∀ b ∈ fp, b < s2.heap.objs.size := by
    intro b hb
    obtain ⟨o, z, _⟩ := T.obj _ _ st2 b hb
    exact Heap.lt_size z
  have f3 : ∀ b ∈ fp, FpOk X pins (upd H2 Dn (.lst [])) b ∧ b < s3.heap.objs.size := by
    intro b hb
    have lt := sz b hb
    refine ⟨⟨?_, (f2 b hb).2⟩, by rw [h3, Heap.size_push]; exact Nat.lt_succ_of_lt lt⟩
    rw [upd_ne (by rw [← eD]; exact Nat.ne_of_lt lt)]
    exact (f2 b hb).1
  have st3 : tn 0 s3.heap := T.keep _ _ _ st2 (by intro b _ o z; rw [h3]; exact Heap.get?_push_of_some _ z)
  obtain ⟨B, kB, nB, eB, u1, u2, u3⟩ := L2.VI.Inv.baseUp I3 hfn hst hfr
  obtain ⟨Wt, ⟨m0, w0⟩, turn⟩ := qD B (baseOf I3 u1 u2)
  have I4' := block_start I3 ok nd f3
  have pg := hg B s3 (upd H2 Dn (.lst [])) s3.heap.objs.size (cellsFrom (s3.heap.objs.size + 1) scope.names (cloFrom X.env.cells scope.names [])) fp kB nB
  have pt := ht B s3 (upd H2 Dn (.lst [])) s3.heap.objs.size (cellsFrom (s3.heap.objs.size + 1) scope.names (cloFrom X.env.cells scope.names [])) fp kB nB
  have pe := he B s3 (upd H2 Dn (.lst [])) s3.heap.objs.size (cellsFrom (s3.heap.objs.size + 1) scope.names (cloFrom X.env.cells scope.names [])) fp kB nB
  show codeAny _ _ (.compStart (.ListComp elt [⟨tg, iter, ifs, 0⟩] scope pos) 0 (.ref it) (.ref Dn) (compEnvC scope (cellsFrom (s3.heap.objs.size + 1) scope.names (cloFrom X.env.cells scope.names [])) s3.heap.objs.size X.env)) (compPost (model X.prog X.w) X.A X.xe use Qf (.ref Dn) s3.heap.objs.size)
    { s3 with heap := pushCells (s3.heap.push { cls := .type "dict", data := .dict #[] }) scope.names }
  have nfp : ∀ b ∈ fp, (upd H2 Dn (.lst [])) b = none := by intro b hb; exact (f3 b hb).1.1
  generalize ece : compEnvC scope (cellsFrom (s3.heap.objs.size + 1) scope.names (cloFrom X.env.cells scope.names [])) s3.heap.objs.size X.env = ce at I4' pg pt pe ⊢
  have cL : ce.locals = s3.heap.objs.size := by rw [← ece]; rfl
  generalize eH : upd H2 Dn (.lst []) = H3 at I3 I4' pg pt pe w0 nfp f3 eB
  generalize e4 : ({ s3 with heap := pushCells (s3.heap.push { cls := .type "dict", data := .dict #[] }) scope.names } : Shared) = s4 at I4' ⊢
  have I4 : Inv (reb (X.blk s3 H3 scope ce fp) B) [] (wipe σ (own.map (·.2))) H3 s4 := inv_reb I4' eB.mod eB.bs eB.bsz (by
    intro b o z hb
    rcases u3 b o z with z | ⟨y, z⟩
    · exact I4'.ok.noex b o z hb
    · exact (f3 b hb).1.2.2.2.2.1 y b z rfl) eB.funs
  have st4 : tn 0 s4.heap := T.keep _ _ _ st3 (by intro b _ o z; subst e4; exact pushCells_keeps _ _ _ _ (Heap.get?_push_of_some _ z))
  have stat : ∀ {τ : St} {G : Hp} {t : Shared}, Inv (reb (X.blk s3 H3 scope ce fp) B) [] τ G t → (∀ b ∈ fp, G b = none) → ∀ b ∈ fp, FpOk (reb (X.blk s3 H3 scope ce fp) B) [] G b := by
    intro τ G t J1 hn b hb
    exact ⟨hn b hb, (J1.ok.exf b hb).1, J1.ok.exfs b hb, .inl hb, fun x c z => (J1.ok.exf b hb).2 x c z, fun p hp => by cases hp⟩
  have loop : codeAny (model X.prog X.w) X.A (.compLoop (.ListComp elt [⟨tg, iter, ifs, 0⟩] scope pos) 0 (.ref it) (.ref Dn) ce) (compPost (model X.prog X.w) X.A X.xe use Qf (.ref Dn) s3.heap.objs.size) s4 := by
    refine compLoop_any (fun n t => ∃ i G, Inv (reb (X.blk s3 H3 scope ce fp) B) [] (wipe σ (own.map (·.2))) G t ∧ tn i t.heap ∧ (∀ b ∈ fp, G b = none) ∧ Wt i n G) ?_ m0 ⟨0, H3, I4, st4, nfp, w0⟩
    rintro n s5 ⟨i, H5, I5, st5, n5, w5⟩
    rcases turn i n H5 w5 with ⟨stop, qq⟩ | ⟨go, Nx, hNx, step⟩
    · refine thnF (T.done (reb (X.blk s3 H3 scope ce fp) B) rfl rfl rfl hcalm i [] s5 _ H5 (fun _ _ => False) I5 (stat I5 n5) st5 stop) ?_
      rintro r s6 ⟨rfl, I6⟩
      have I7 : Inv X pins σ H5 s6 := I3.call' (ch := fp) I6.os I6.base I6.hok I6.bare (by intro b hb; exact ⟨(f3 b hb).1.2.2.2.1, (f3 b hb).1.2.1, (f3 b hb).1.2.2.2.2.1, (f3 b hb).1.2.2.2.2.2⟩)
      have nC : H5 s3.heap.objs.size = none := by
        have z : H5 ce.locals = none := I6.free
        rwa [cL] at z
      obtain ⟨m, hn, _⟩ := I6.loc
      have hn : s6.heap.Ns ce.locals m := hn
      rw [cL] at hn
      exact ends Dn s3.heap.objs.size s6 m H5 I7 qq hn (I3.fpOk (Nat.le_refl _) nC)
    · refine thnF (T.item (reb (X.blk s3 H3 scope ce fp) B) rfl rfl rfl hcalm i [] s5 _ H5 (fun _ _ => False) I5 (stat I5 n5) st5 go) ?_
      rintro r s6 ⟨u, rfl, h6⟩
      refine thnF h6 ?_
      rintro _ s7 ⟨x, H7, I7, r7, y7, st7, n7⟩
      have I7' := I7.pinned (stat I7 n7) (T.obj _ _ st7)
      refine thnF (pg.run _ s7 _ H7 x u _ I7' r7 (step x H7 y7)) ?_
      rintro _ s8 ⟨τ8, H8, I8, hw8, q8⟩
      refine thnF (pt.run _ s8 τ8 H8 _ I8 q8) ?_
      rintro k s9 ⟨H9, I9, q9⟩
      have fin : ∀ {t : Shared} {G : Hp}, Inv (reb (X.blk s3 H3 scope ce fp) B) ([] ++ pinsAt fp s7.heap) τ8 G t → Nx G → ∃ m, m < n ∧ ∃ i G, Inv (reb (X.blk s3 H3 scope ce fp) B) [] (wipe σ (own.map (·.2))) G t ∧ tn i t.heap ∧ (∀ b ∈ fp, G b = none) ∧ Wt i m G := by
        intro t G J1 nx
        obtain ⟨m', hm, w'⟩ := hNx G nx
        have pin' : ∀ b ∈ fp, ∀ o, s7.heap.get? b = some o → t.heap.get? b = some o ∧ G b = none := by
          intro b hb o z
          have y := J1.pin (b, o) (List.mem_append_right _ (List.mem_append_right _ (mem_pinsAt hb z)))
          exact ⟨y.1, y.2.1⟩
        have hl : (wipe σ (own.map (·.2))).length = τ8.length := by rw [← hw8, wipe_length]
        refine ⟨m', hm, i + 1, G, (J1.unpinned (pins := [])).weak hl ?_, T.keep _ _ _ st7 (by intro b hb o z; exact (pin' b hb o z).1), ?_, w'⟩
        · intro j v z
          rw [← hw8] at z
          exact (wipe_some z).1
        · intro b hb
          obtain ⟨o, z, _⟩ := T.obj _ _ st7 b hb
          exact (pin' b hb o z).2
      cases k with
      | false =>
        simp only [Bool.false_eq_true, if_false] at q9 ⊢
        exact fin I9 q9
      | true =>
        simp only [if_true] at q9 ⊢
        refine thnF (pe.run _ s9 τ8 H9 _ I9 q9) ?_
        rintro z s10 ⟨yv, H10, I10, r10, acc, hD10, hz10, nx⟩
        exact app_ok (X := reb (X.blk s3 H3 scope ce fp) B) I10 hD10 hz10 r10 (by intro s11 I11; exact fin I11 nx)
  exact codeAny_compStart_list loop (T.self X.A 0 _ _ _ st4 loop)
end
end L2.VI
/-! VI30: the shallow word of such a comprehension, its rule. -/
namespace L2.VI
open PySem PySem.Spec PyProof.Rows He
def dropFrm : Option Slot → Option Slot
  | some (.frm _ _) => none
  | o => o
/-- a comprehension in a def that makes lambdas: its block sees the captured slots as they are at its begin -/
def lcU (kf : Nat) (N : List Str) (capt : List Nat) (mi : M (List D)) (g : TgM) (tt : M Bool) (elt : M D) (vs : List Nat) : M SO := M.bind mi fun ds => fun b => match b.t[kf]? with
  | some (some (.frm o up)) => (match compL g tt elt vs [] ds (({ b with t := b.t.set kf (some (.frm none (upsOf N capt b.t o up))) } : BSt).wip vs) with
    | .ok acc b' => .ok (.lst acc) { b' with t := (b'.t.map dropFrm).set kf (some (.frm o up)) }
    | _ => .fail)
  | _ => .fail
section
variable {K : PySem.W.Frag} {F Mm H : Hp} {ρ : Rho} {b : BSt} {σ : St} {fc fc' : FrC} {kf : Nat} {o : Option Nat} {up ups : Ups}
theorem BRel.toB {P0 : PX fc} (B : BRel K F P0 Mm ρ b σ H) (e : b.t[kf]? = some (some (.frm o up))) (hcl : fc'.cl = fc.cl) (hb : ∀ a u, fc.base.get? a = some u → fc'.base.get? a = some u) (hu : ∀ u ∈ ups, UpOk K F ρ fc'.base u) :
    BRel (fc := fc') K F P0 Mm ρ { b with t := b.t.set kf (some (.frm none ups)) } σ H := by
  obtain ⟨P, q, B⟩ := B
  refine ⟨P, q, B.h, B.pp, by simpa using B.len, B.qi, fun j s x => ?_⟩
  have x' : (b.t.set kf (some (Slot.frm none ups)))[j]? = some (some s) := x
  have hl : kf < b.t.length := (List.getElem?_eq_some_iff.mp e).1
  by_cases hj : j = kf
  · subst hj
    rw [List.getElem?_set_self hl] at x'
    cases x'
    obtain ⟨v, hv, _⟩ := B.sl j _ e
    exact ⟨v, hv, fun fr z => (nomatch z), hu⟩
  · rw [List.getElem?_set_ne (Ne.symm hj)] at x'
    have z := B.sl j s x'
    cases s with
    | val d => exact z
    | own so => exact z
    | frm o' up' =>
      obtain ⟨v, hv, z1, z2⟩ := z
      exact ⟨v, hv, fun fr y => by rw [hcl]; exact z1 fr y, fun u y => (z2 u y).base hb⟩
theorem Frs.fromB {P0 : PX fc'} {p : Addr} {so : SO} (h : Frs (fc := fc') K F P0 Mm ρ b σ H p so) (hk : ∃ v, σ[kf]? = some (some v)) (lk : Lk K F ρ fc o up) : Frs (fc := fc) K F P0 Mm ρ { b with t := (b.t.map dropFrm).set kf (some (.frm o up)) } σ H p so := by
  obtain ⟨P, q, B, r, pl, n0, nq⟩ := h
  refine ⟨P, q, ⟨B.h, B.pp, by simpa using B.len, B.qi, fun j s x => ?_⟩, r, pl, n0, nq⟩
  have x' : ((b.t.map dropFrm).set kf (some (Slot.frm o up)))[j]? = some (some s) := x
  by_cases hj : j = kf
  · subst hj
    have hl : j < (b.t.map dropFrm).length := by
      by_cases h : j < (b.t.map dropFrm).length
      · exact h
      · rw [List.getElem?_eq_none (by simpa using h)] at x'; cases x'
    rw [List.getElem?_set_self hl] at x'
    cases x'
    obtain ⟨v, hv⟩ := hk
    exact ⟨v, hv, lk⟩
  · rw [List.getElem?_set_ne (Ne.symm hj), List.getElem?_map] at x'
    cases e : b.t[j]? with
    | none => rw [e] at x'; cases x'
    | some w =>
      rw [e] at x'
      have x' : dropFrm w = some s := Option.some.inj x'
      cases w with
      | none => cases x'
      | some w =>
        cases w with
        | val d => cases x'; exact B.sl j _ e
        | own so' => cases x'; exact B.sl j _ e
        | frm _ _ => cases x'
theorem tlc_in {P0 : PX fc} {fc0 : FrC} {P00 : PX fc0} {σ0 : St} {g : TgM} {mt : M Bool} {me : M D} {vs : List Nat} {ds : List D} {J : It} {F0 M0 H1 : Hp} {r0 : Rho} {b0 bF : BSt} {Dn : Addr} {accF : List D} {Qe : VK}
    (fr : Frs K F0 P0 M0 r0 b0 (wipe σ vs) H1 Dn (.lst [])) (hb0 : b0 = b0.wip vs) (it : ItrOf K P00 σ0 J F0 r0 ds) (hq : compL g mt me vs [] ds b0 = .ok accF bF)
    (hend : ∀ F' M' ρ' H', Leq F0 F' → Rle r0 ρ' → Frs K F' P0 M' ρ' bF (wipe σ vs) H' Dn (.lst accF) → bF = bF.wip vs → Qe (.ref Dn) H') :
    ∃ Wt : Nat → Nat → Hp → Prop, (∃ m, Wt 0 m H1) ∧ ∀ i m G, Wt i m G →
      (J.stop i G ∧ Qe (.ref Dn) G) ∨ (J.go i G ∧ ∃ Nx : Hp → Prop, (∀ G', Nx G' → ∃ m', m' < m ∧ Wt (i + 1) m' G') ∧ ∀ x G', J.yld i G x G' → tG (fc := fc) K vs g x (wipe σ vs) G' fun τ G2 => wipe τ vs = wipe σ vs ∧ tT (fc := fc) K W0 mt τ G2 fun k G3 =>
        if k = true then tE (fc := fc) K W0 me τ G3 fun y G4 => ∃ acc, G4 Dn = some (.lst acc) ∧ acc.length < sizeLine ∧ Nx (upd G4 Dn (.lst (acc ++ [y]))) else Nx G3) := by
  have wi : ∀ b : BSt, b.wip vs = (b.wip vs).wip vs := fun b => by
    unfold BSt.wip
    rw [wipeT_idem]
  refine ⟨fun i n G => n = ds.length - i ∧ ∃ F' Mm ρ' b acc, Leq F0 F' ∧ Rle r0 ρ' ∧ Frs K F' P0 Mm ρ' b (wipe σ vs) G Dn (.lst acc) ∧ b = b.wip vs ∧ compL g mt me vs acc (ds.drop i) b = .ok accF bF, ⟨_, rfl, F0, M0, r0, b0, [], Leq.refl _, Rle.refl _, fr, hb0, hq⟩, ?_⟩
  rintro i n G ⟨rfl, F1, M1, r1, b1, acc, l1, e1, fr1, bt, q1⟩
  obtain ⟨u, Bp, ru, n0, pl⟩ := fr1.prot
  obtain ⟨i1, i2⟩ := it i F1 M1 r1 _ _ b1 (wipe σ vs) G l1 e1 Bp
  by_cases hlt : i < ds.length
  · obtain ⟨hgo, hy⟩ := i2 hlt
    refine .inr ⟨hgo, fun G' => ∃ F' Mm ρ' b acc, Leq F0 F' ∧ Rle r0 ρ' ∧ Frs K F' P0 Mm ρ' b (wipe σ vs) G' Dn (.lst acc) ∧ b = b.wip vs ∧ compL g mt me vs acc (ds.drop (i + 1)) b = .ok accF bF, fun G' h => ⟨ds.length - (i + 1), by omega, rfl, h⟩, fun x G2 y => ?_⟩
    obtain ⟨F2, l2, B2, r2⟩ := hy x G2 y
    rw [show ds.drop i = ds[i] :: ds.drop (i + 1) from List.drop_eq_getElem_cons hlt] at q1
    refine ⟨F2, _, M1, r1, b1, ds[i], B2, r2 _ (List.getElem?_eq_getElem hlt), ?_⟩
    unfold compL at q1
    cases eg : g ds[i] b1 with
    | none => rw [eg] at q1; cases q1
    | some b3 =>
      rw [eg] at q1
      intro σ3 F3 M3 r3 G3 l3 e3 B3 w3
      rw [wipe_idem] at w3
      have w3' : wipe σ3 vs = wipe (wipe σ vs) vs := by rw [wipe_idem]; exact w3
      refine ⟨w3, F3, _, M3, r3, b3, B3, ?_⟩
      dsimp only at q1
      cases et : mt b3 with
      | fail => rw [et] at q1; cases q1
      | exc x b4 => rw [et] at q1; cases q1
      | ok t b4 =>
        rw [et] at q1
        intro tv F4 M4 r4 G4 l4 e4 B4 ht
        subst ht
        cases tv with
        | false =>
          exact (if_neg Bool.false_ne_true).mpr ⟨F4, M4, r4, b4.wip vs, acc, ((l1.trans l2).trans l3).trans l4, (e1.trans e3).trans e4, (B4.unprot (ru.monoP ((l2.trans l3).trans l4) (e3.trans e4) pl fun w z => z) n0 pl).back w3', wi b4, q1⟩
        | true =>
          refine (if_pos rfl).mpr ⟨F4, _, M4, r4, b4, B4, ?_⟩
          dsimp only at q1
          cases ee : me b4 with
          | fail => rw [ee] at q1; cases q1
          | exc x b5 => rw [ee] at q1; cases q1
          | ok y b5 =>
            rw [ee] at q1
            intro v F5 M5 r5 G5 l5 e5 B5 rv
            dsimp only at q1
            by_cases hz : acc.length < sizeLine
            · rw [if_pos hz] at q1
              have fr5 := B5.unprot (ru.monoP (((l2.trans l3).trans l4).trans l5) ((e3.trans e4).trans e5) pl fun w z => z) n0 pl
              obtain ⟨vs', hv1, hv2, fr6⟩ := fr5.app rv
              exact ⟨vs', hv1, by rw [hv2]; exact hz, F5, M5, r5, b5.wip vs, acc ++ [y], (((l1.trans l2).trans l3).trans l4).trans l5, ((e1.trans e3).trans e4).trans e5, fr6.back w3', wi b5, q1⟩
            · rw [if_neg hz] at q1
              cases q1
  · refine .inl ⟨i1 (by omega), ?_⟩
    rw [List.drop_eq_nil_of_le (by omega)] at q1
    unfold compL at q1
    cases q1
    exact hend F1 M1 r1 G l1 e1 fr1 bt
end
section
variable {X : Cx} {W : WX} {tg elt iter : Expr} {ifs : List Expr} {scope : Scope} {own : List (Str × Nat)} {pos : Pos} {mi : M (List D)} {g : TgM} {mt : M Bool} {me : M D} {kf : Nat} {capt : List Nat}
theorem ups_of {σ : St} {F Mm H : Hp} {P0 : PX (fcOf X)} {ρ : Rho} {b : BSt} {B : Heap} {o : Option Nat} {up : Ups} (Bo : BaseOf X σ B) (R : BRel X.K F P0 Mm ρ b σ H) (e : b.t[kf]? = some (some (.frm o up))) (hcl : clOf X.stack = X.env.cells) (hc : CaptOk X.N X.env.scope capt) :
    ∀ u ∈ upsOf X.N capt b.t o up, UpOk X.K F ρ B u := by
  have lk := R.frmAt e
  have old : ∀ u ∈ up, UpOk X.K F ρ B u := fun u hu => (lk.2 u hu).base Bo.up
  cases o with
  | none => exact old
  | some fr =>
    intro u hu
    rcases List.mem_cons.mp hu with rfl | hu
    · refine ⟨X.env.cells, by rw [lk.1 fr rfl]; exact congrArg some hcl, Bo.inj, ?_, Bo.cell, fun j d hj => ?_⟩
      · show (capts X.N.length capt b.t).length = X.N.length
        unfold capts
        simp
      · obtain ⟨_, j2, j3⟩ := capts_get hj
        obtain ⟨y, y1, y2⟩ := hc j j2
        obtain ⟨P, qq, BB⟩ := R
        obtain ⟨v, v1, v2⟩ := BB.sl j _ j3
        obtain ⟨c, w, z1, z2, z3⟩ := Bo.val j y v y1 v1 y2
        exact ⟨y, c, w, v, y1, z1, z2, z3, v2⟩
    · exact old u hu
theorem sn_lcU (nd : X.N.Nodup) (hi : SI X W tg iter mi) (ok : BlkOk X.N X.env.scope scope own)
    (hg : ∀ (B : Heap) (t : Shared) (G : Hp) (C : Addr) (cl : List (Str × Addr)) (fp : List Addr), X.K.In B → B.Ns mainGlobals X.mg → SG (reb (X.blk t G scope (compEnvC scope cl C X.env) fp) B) (own.map (·.2)) tg g)
    (ht : ∀ (B : Heap) (t : Shared) (G : Hp) (C : Addr) (cl : List (Str × Addr)) (fp : List Addr), X.K.In B → B.Ns mainGlobals X.mg → STs (reb (X.blk t G scope (compEnvC scope cl C X.env) fp) B) W0 ifs mt)
    (he : ∀ (B : Heap) (t : Shared) (G : Hp) (C : Addr) (cl : List (Str × Addr)) (fp : List Addr), X.K.In B → B.Ns mainGlobals X.mg → SE (reb (X.blk t G scope (compEnvC scope cl C X.env) fp) B) W0 elt me)
    (hkf : kf ∉ own.map (·.2)) (hcalm : X.calm = true := by rfl) (c1 : ∀ x, X.fn x = true := by intro _; rfl) (c2 : X.stack = X.env :: X.outer := by rfl) (c3 : X.env.frame = some X.env.locals := by rfl) (c4 : captB X.N X.env.scope capt = true := by rfl)
    (hs : ∀ x, foldedSetIterable iter X.env x = pure x := by intro _; rfl) : SN X W (.ListComp elt [⟨tg, iter, ifs, 0⟩] scope pos) (lcU kf X.N capt mi g mt me (own.map (·.2))) := by
  have hcl : clOf X.stack = X.env.cells := by rw [c2]; rfl
  refine ⟨fun pins s σ H Q I ⟨F, P0, Mm, ρ, b, B, q⟩ => ?_⟩
  rw [eval_ListComp]
  have h : tLcB X (fun σ H R => ∃ (F : Hp) (P0 : PX (fcOf X)) (Mm : Hp) (ρ : Rho) (b : BSt), BRel X.K F P0 Mm ρ b σ H ∧ PostI X.K W P0 F ρ σ R (mi b)) (fun B => tG (fc := ⟨clOf X.stack, B⟩) X.K (own.map fun (x : Str × Nat) => x.2) g) (fun B => tT (fc := ⟨clOf X.stack, B⟩) X.K W0 mt) (fun B => tE (fc := ⟨clOf X.stack, B⟩) X.K W0 me) (own.map fun (x : Str × Nat) => x.2) σ H Q := by
    refine ⟨F, P0, Mm, ρ, b, B, ?_⟩
    unfold lcU M.bind at q
    cases e : mi b with
    | exc x b' => rw [e] at q; exact q
    | fail => rw [e] at q; exact q.elim
    | ok ds b' =>
      rw [e] at q
      intro J F0 M0 r0 H0 l0 e0 B0 it Dn hD Bs Bo
      have q0 := PostF.mono q l0 e0
      dsimp only at q0
      split at q0
      · rename_i o up ek
        split at q0
        · rename_i accF bF hq
          have lk := B0.frmAt ek
          have B1 : BRel (fc := ⟨clOf X.stack, Bs⟩) X.K F0 P0 M0 r0 { b' with t := b'.t.set kf (some (.frm none (upsOf X.N capt b'.t o up))) } σ H0 := B0.toB ek rfl Bo.up (ups_of Bo B0 ek hcl (captOk_by c4))
          have fr := (B1.wip (own.map fun (x : Str × Nat) => x.2)).fresh (u := .lst []) (so := .lst []) hD (fun P' h => ⟨[], h, .nil⟩) rfl
          refine tlc_in (fc0 := fcOf X) fr (by unfold BSt.wip; rw [wipeT_idem]) it hq fun F' M' ρ' H' l r fr' bt => ?_
          have z := fr'.back (vs := own.map fun (x : Str × Nat) => x.2) (σ := σ) (wipe_idem _)
          rw [← bt] at z
          exact q0 Dn F' M' ρ' H' l r (Frs.fromB (fc := fcOf X) (fc' := ⟨clOf X.stack, Bs⟩) (kf := kf) z (B0.slotV ek) (lk.mono l r))
        · exact q0.elim
      · exact q0.elim
  refine lcB_core (use := none) (g := fun B => tG (fc := ⟨clOf X.stack, B⟩) X.K (own.map fun (x : Str × Nat) => x.2) g) (tt := fun B => tT (fc := ⟨clOf X.stack, B⟩) X.K W0 mt) (te := fun B => tE (fc := ⟨clOf X.stack, B⟩) X.K W0 me) hcalm nd c1 c2 c3 I hi ok hg ht he hs h fun D C t m G I' q' hn f => ⟨m, hn, fun h2 sb => ?_⟩
  obtain ⟨f0, f1, f2, f3, f4, f5⟩ := f
  exact ⟨.ref D, G, I'.turned (t' := t.toks) (fun b o hb e => (sb.2 b hb).trans e) f0 f1 f3 f4 f5, rfl, q'⟩
end
end L2.VI
/-! VI31: the law's end where defs make lambdas: their code objects' tables. -/
namespace L2.VI
open PySem PySem.Spec PyProof.Rows He
/-- the store at the begin: the tables -/
def tabsG (ts : List (Str × Str)) : GSt := ⟨fun k => (ts[k]?).map fun p => .tab p.1 p.2, ts.length⟩
/-- what is known of the tables -/
structure Tabs0 (ts : List (Str × Str)) (K : PySem.W.Frag) (h : Heap) : Prop where
  at_ : ∀ p ∈ ts, h.get? (tabA K p.1) = some (PySem.W.tabObj #[])
  no : ∀ p ∈ ts, K.lookup (tabA K p.1) = none
  hd : ∀ p ∈ ts, PySem.W.codeHdIn K (codA K p.1) (tabA K p.1) = true
  nd : (ts.map fun p => tabA K p.1).Nodup
theorem sp_lawT {K : PySem.W.Frag} {m : FnD} {H : Hp} {a : Addr} {ns : List Int} {ts : List (Str × Str)} (hT : ∀ p ∈ ts, H (tabA K p.1) = some (.tbl #[])) (nd : (ts.map fun p => tabA K p.1).Nodup) (hS : SqL K H a (ns.map V.int)) (h : ∃ g', m [.scr ns] (tabsG ts) = .ok (.bl true) g') :
    spV K 1 m [.ref a] H (fun v _ => v = .bl true) (fun _ _ _ => False) := by
  classical
  obtain ⟨g', e⟩ := h
  let tabs := ts.map fun p => tabA K p.1
  have hM : ∀ b, b ∈ tabs → H b = some (.tbl #[]) := fun b hb => by
    obtain ⟨p, hp, e⟩ := List.mem_map.mp hb
    rw [← e]; exact hT p hp
  let F : Hp := fun b => if b ∈ tabs then none else H b
  let Mm : Hp := fun b => if b ∈ tabs then some (.tbl #[]) else none
  have hF : ∀ b u, F b = some u → b ∉ tabs ∧ H b = some u := fun b u z => by
    by_cases hb : b ∈ tabs
    · have : F b = none := if_pos hb
      rw [this] at z; cases z
    · have : F b = H b := if_neg hb
      rw [this] at z; exact ⟨hb, z⟩
  have hMm : ∀ b u, Mm b = some u → b ∈ tabs ∧ u = .tbl #[] := fun b u z => by
    by_cases hb : b ∈ tabs
    · have : Mm b = some (.tbl #[]) := if_pos hb
      rw [this] at z; cases z; exact ⟨hb, rfl⟩
    · have : Mm b = none := if_neg hb
      rw [this] at z; cases z
  have inM : ∀ b, b ∈ tabs → Mm b = some (.tbl #[]) := fun b hb => if_pos hb
  let ρ : Rho := ⟨fun k => (ts[k]?).map fun p => tabA K p.1, fun _ => none, fun _ => none⟩
  have hρ : ∀ k b, ρ k = some b → tabs[k]? = some b := fun k b z => by
    show (ts.map fun p => tabA K p.1)[k]? = some b
    rw [List.getElem?_map]; exact z
  have R : HRel K F (fun _ => none) Mm ρ (tabsG ts) H := by
    refine ⟨fun b u z => ?_, fun _ _ z => (nomatch z), fun b u z => ?_, fun b u z => ⟨rfl, ?_⟩, fun _ _ z => (nomatch z), fun k so z => ?_, fun k j b z1 z2 => ?_, fun k hk => ⟨?_, rfl⟩, fun k b z => ?_, fun _ _ z => (nomatch z)⟩
    · split
      · exact .inl (hF b u z).2
      · exact (hF b u z).2
    · obtain ⟨y1, y2⟩ := hMm b u z
      rw [y2]; exact hM b y1
    · cases y : Mm b with
      | none => rfl
      | some w => exact absurd (hMm b w y).1 (hF b u z).1
    · have z : (ts[k]?).map (fun p => SO.tab p.1 p.2) = some so := z
      cases y : ts[k]? with
      | none => rw [y] at z; cases z
      | some p =>
        rw [y] at z; cases z
        refine ⟨tabA K p.1, ?_, #[], inM _ (List.mem_map.mpr ⟨p, List.mem_of_getElem? y, rfl⟩), rfl, True.intro, fun pos cv hc => ?_⟩
        · show (ts[k]?).map (fun p => tabA K p.1) = _
          rw [y]; rfl
        · have hc : codeAmong pos [] = some cv := hc
          simp [codeAmong] at hc
    · exact (List.getElem?_inj (List.getElem?_eq_some_iff.mp (hρ k b z1)).1 nd).mp ((hρ k b z1).trans (hρ j b z2).symm)
    · show (ts[k]?).map (fun p => tabA K p.1) = none
      have hk : ts.length ≤ k := hk
      rw [List.getElem?_eq_none hk]; rfl
    · exact ⟨_, inM b (List.mem_of_getElem? (hρ k b z)), fun _ y => nomatch y⟩
  have hS' : SqL K F a (ns.map V.int) := by
    have nt : H a ≠ some (.tbl #[]) → a ∉ tabs := fun h z => h (hM a z)
    rcases hS with (z | ⟨o, z⟩) | z
    · exact .inl (.inl ((if_neg (nt (by rw [z]; simp))).trans z))
    · exact .inl (.inr ⟨o, (if_neg (nt (by rw [z]; simp))).trans z⟩)
    · exact .inr z
  refine ⟨rfl, F, fun _ => none, Mm, ρ, tabsG ts, [.scr ns], R, .cons (.scr hS') .nil, ?_⟩
  rw [e]
  intro v F' M' ρ' H' l r hh rv
  cases rv
  rfl
/-- the law's promise at its heap, where no repr is under way; T: its code objects' tables -/
theorem law_callGT {P : Program} {w : World} {K : PySem.W.Frag} {mg mb : Str → Option Value} {k : Nat} {af a : Addr} {fd : FuncData} {x : Str} {sp : Sp} {t : Shared} {us : List Value} {is : List Int} {ts : List (Str × Str)}
    (KX : K.In t.heap) (hns : t.heap.Ns mainGlobals mg) (hb : t.heap.Ns builtinsNs mb) (hbb : ∀ x : Str, x ≠ "__name__" → mb x = bootBuiltins x) (hlim : t.heap.NoLimit) (hg : t.gens = #[]) (T : Tabs0 ts K t.heap)
    (hbm : ∃ (bm : Addr) (ob : Obj), mg "__builtins__" = some (.ref bm) ∧ bm ≠ builtinsNs ∧ t.heap.get? bm = some ob ∧ ob.cls = .type "module" ∧ ob.dict = some builtinsNs ∧ ob.data = .plain)
    (ha : t.heap.get? a = some { cls := .type "list", data := .seq us.toArray }) (hi : IntsAre us is) (hl : is.length ≤ sizeLine) (hr : Room k callerA)
    (F : ∀ base : Heap, K.In base → base.Ns mainGlobals mg → (∀ p ∈ ts, LamX.TabB base mg (codA K p.1) (tabA K p.1)) → FnG P w K mg base k af fd [x] sp) (hbind : ∀ (s : Shared) (u : Value), BindsTo s fd ⟨[u], []⟩ [(x, u)])
    (hsp : ∀ H : Hp, (∀ p ∈ ts, H (tabA K p.1) = some (.tbl #[])) → SqL K H a (is.map V.int) → sp [.ref a] H (fun v _ => v = .bl true) fun _ _ _ => False) (hCX : ∀ H e s', CV P w [] H t (fun _ _ _ => False) e s' → False) :
    codeAny (model P w) callerA (.call (.ref af) ⟨[.ref a], []⟩) (fun r s' => r = .ok (.ret (.bool true)) ∧ OldK t.heap s'.heap ∧ s'.os = t.os ∧ AllBare s'.gens) t := by
  classical
  have rv := vals_ints hi
  let tabs := ts.map fun p => tabA K p.1
  have tabAt : ∀ b, b ∈ tabs → t.heap.get? b = some (PySem.W.tabObj #[]) := fun b hb => by
    obtain ⟨p, hp, e⟩ := List.mem_map.mp hb
    rw [← e]; exact T.at_ p hp
  have inT : ∀ p ∈ ts, tabA K p.1 ∈ tabs := fun p hp => List.mem_map.mpr ⟨p, hp, rfl⟩
  have aT : a ∉ tabs := fun hb => by
    have z := tabAt a hb
    rw [ha] at z
    have z2 : Data.seq us.toArray _ = Data.fields #[] := congrArg Obj.data (Option.some.inj z)
    cases z2
  suffices core : ∃ H : Hp, (∀ b, H b = none ∨ b ∈ tabs ∨ ∃ ob xs, H b = some (.frz ob (.lst xs))) ∧ (∀ b, b ∈ tabs → H b = some (.tbl #[])) ∧ SqL K H a (is.map V.int) ∧ HOk P w H t.heap ∧ (∀ b, H b ≠ none → b ∈ tabs ∨ (b = a ∧ K.lookup a = none)) by
    obtain ⟨H, hO, hM, hS, hok, hA⟩ := core
    have hid : ∀ {b : Addr} {ob : Obj}, t.heap.get? b = some ob → H b = none → (hidT t.heap H).get? b = some ob := fun e n => hidT_get e n
    have free : ∀ {b : Addr} {ob : Obj}, t.heap.get? b = some ob → (∀ vs n, ob.data ≠ .seq vs n) → ob.data ≠ .fields #[] → H b = none := by
      intro b ob e n1 n2
      refine Classical.byContradiction fun z => ?_
      rcases hA b z with hb | ⟨rfl, _⟩
      · rw [tabAt b hb] at e; cases e; exact n2 rfl
      · rw [ha] at e; cases e; exact n1 _ _ rfl
    have nsK : ∀ {b : Addr} {m : Str → Option Value}, t.heap.Ns b m → (hidT t.heap H).Ns b m := by
      rintro b m ⟨o, es, ep, e, d, r⟩
      exact ⟨o, es, ep, hid e (free e (by rw [d]; intro _ _ z; cases z) (by rw [d]; intro z; cases z)), d, r⟩
    have KB : K.In (hidT t.heap H) := fun b o e => hid (KX b o e) (Classical.byContradiction fun z => by
      rcases hA b z with hb | ⟨rfl, n⟩
      · obtain ⟨p, hp, ep⟩ := List.mem_map.mp hb
        rw [← ep, T.no p hp] at e; cases e
      · rw [n] at e; cases e)
    obtain ⟨mc, l1, l2⟩ := hlim
    have E : Env0 P w K mg (hidT t.heap H) callerA [] t H := ⟨rfl, ⟨KB, nsK hns, ⟨mb, nsK hb, hbb⟩, ⟨mc, nsK l1, l2⟩⟩, fun b o e => of_hidT e, Nat.le_of_eq (hidT_size _ _), trivial, fun b z => (nomatch (show b ∈ ([] : List Addr) from z)), hok, .of_eq hg⟩
    have TB : ∀ p ∈ ts, LamX.TabB (hidT t.heap H) mg (codA K p.1) (tabA K p.1) := by
      intro p hp
      refine ⟨PySem.W.codeHd_of_K KB (T.hd p hp), ?_, fun z => ?_⟩
      · obtain ⟨bm, ob, b1, b2, b3, b4, b5, b6⟩ := hbm
        refine ⟨bm, ob, b1, b2, fun z => ?_, fun z => ?_, hid b3 (free b3 (by rw [b6]; intro _ _ z; cases z) (by rw [b6]; intro z; cases z)), b4, b5, b6⟩
        · obtain ⟨o, es, ep, e, d, _⟩ := hns
          rw [z, e] at b3; cases b3
          rw [d] at b6; cases b6
        · rw [z, T.at_ p hp] at b3; cases b3
          cases b6
      · obtain ⟨o, es, ep, e, d, _⟩ := hns
        rw [z, T.at_ p hp] at e; cases e
        cases d
    refine codeAny_mono ((F _ KB (nsK hns) TB).go rfl [] t H ⟨[.ref a], []⟩ [.ref a] [.ref a] _ _ hr E (hbind t (.ref a)) (.cons rfl .nil) (hsp H (fun p hp => hM _ (inT p hp)) hS)) ?_
    rintro (e | fl) s' z
    · exact (hCX H e s' z).elim
    · cases fl with
      | ret u =>
        obtain ⟨v, H', os, bare, un, hok', r', rfl⟩ := z
        obtain rfl : u = Value.bool true := r'
        have grown : ∀ b, b ∈ tabs → ∃ more : Array Value, s'.heap.get? b = some { cls := .none, data := .fields more } := by
          intro b hb
          obtain ⟨more, z⟩ := un.tbls b #[] (hM b hb)
          exact ⟨_, hok' b _ z⟩
        have others : ∀ b o, b ∉ tabs → t.heap.get? b = some o → s'.heap.get? b = some o := by
          intro b o nb e
          rcases hO b with n | hb | ⟨ob, xs, n⟩
          · exact un.keep b o e n (fun z => by cases (show b ∈ ([] : List Addr) from z)) (by simp)
          · exact absurd hb nb
          · obtain ⟨e1, _⟩ := hok b _ n
            obtain ⟨e2, _⟩ := hok' b _ (un.frzs b ob _ n)
            rw [e] at e1
            cases e1
            exact e2
        refine ⟨rfl, ⟨fun b o e => ?_, fun b o e => ?_⟩, os, bare⟩
        · by_cases hb : b ∈ tabs
          · obtain ⟨more, hm⟩ := grown b hb
            obtain ⟨p, hp, ep⟩ := List.mem_map.mp hb
            have z := tabAt b hb
            rw [e] at z
            cases z
            refine .inr (.inl ⟨?_, rfl, #[], more, rfl, by rw [Array.empty_append]; exact hm⟩)
            rw [← ep]
            exact ((PySem.W.codeHd_of_K KX (T.hd p hp)).tab (T.at_ p hp)).isCodeTable
          · exact .inl (others b o hb e)
        · by_cases hb : b ∈ tabs
          · obtain ⟨more, hm⟩ := grown b hb
            exact ⟨_, hm⟩
          · exact ⟨o, others b o hb e⟩
      | _ => exact False.elim z
  cases hk : K.lookup a with
  | some o =>
    have e := KX a o hk
    rw [ha] at e
    cases e
    have yes : ∀ b, b ∈ tabs → (fun b => if b ∈ tabs then some (HO.tbl #[]) else none) b = some (HO.tbl #[]) := fun b h => if_pos h
    have no : ∀ b, b ∉ tabs → (fun b => if b ∈ tabs then some (HO.tbl #[]) else none) b = none := fun b h => if_neg h
    refine ⟨fun b => if b ∈ tabs then some (.tbl #[]) else none, fun b => ?_, yes, .inr ⟨_, us.toArray, _, hk, rfl, rfl, rfl, by rw [List.size_toArray, hi.length]; exact hl, by simpa using rv⟩, fun b u z => ?_, fun b z => ?_⟩
    · by_cases hb : b ∈ tabs
      · exact .inr (.inl hb)
      · exact .inl (no b hb)
    · by_cases hb : b ∈ tabs
      · have z2 := (yes b hb).symm.trans z
        cases z2
        exact tabAt b hb
      · have z2 := (no b hb).symm.trans z
        cases z2
    · by_cases hb : b ∈ tabs
      · exact .inl hb
      · exact absurd (no b hb) z
  | none =>
    let o : Obj := { cls := .type "list", data := .seq us.toArray }
    let G : Hp := fun b => if b = a then some (.frz o (.lst (is.map V.int))) else if b ∈ tabs then some (.tbl #[]) else none
    have ga : G a = some (.frz o (.lst (is.map V.int))) := if_pos rfl
    have gt : ∀ b, b ∈ tabs → G b = some (.tbl #[]) := fun b hb => (if_neg (fun z => aT (by rw [← z]; exact hb))).trans (if_pos hb)
    have gn : ∀ b, b ≠ a → b ∉ tabs → G b = none := fun b h1 h2 => (if_neg h1).trans (if_neg h2)
    refine ⟨G, fun b => ?_, gt, .inl (.inr ⟨o, ga⟩), fun b u z => ?_, fun b z => ?_⟩
    · by_cases h : b = a
      · rw [h]; exact .inr (.inr ⟨_, _, ga⟩)
      · by_cases hb : b ∈ tabs
        · exact .inr (.inl hb)
        · exact .inl (gn b h hb)
    · by_cases h : b = a
      · subst h
        rw [ga] at z; cases z
        exact ⟨ha, by rw [List.length_map]; exact hl, us, _, rv, ha⟩
      · by_cases hb : b ∈ tabs
        · rw [gt b hb] at z; cases z
          exact tabAt b hb
        · rw [gn b h hb] at z; cases z
    · by_cases h : b = a
      · exact .inr ⟨h, rfl⟩
      · by_cases hb : b ∈ tabs
        · exact .inl hb
        · exact absurd (gn b h hb) z
def LawGT (l : PySem.W.OpenLaw) (wo : World) (lv n : Nat) (x : Str) (gm : Str → Option Value) (af : Addr) (K : PySem.W.Frag) (ts : List (Str × Str)) (law : FnD) : Prop :=
  ∃ fd : FuncData, (∀ (t : Shared) (u : Value), BindsTo t fd ⟨[u], []⟩ [(x, u)]) ∧ (∀ ns : List Int, ns.length ≤ n → ∃ g', law [.scr ns] (tabsG ts) = .ok (.bl true) g') ∧
    ∀ bs : Heap, K.In bs → bs.Ns mainGlobals gm → (∀ p ∈ ts, LamX.TabB bs gm (codA K p.1) (tabA K p.1)) → FnG l.prog wo K gm bs lv af fd [x] (spV K 1 law)
theorem walkGT {l : PySem.W.OpenLaw} {n lv : Nat} {vw : Program} {ls : List Str} {XP : (Str → Option Value) → Heap → Prop} {YP : World → Heap → Prop} {d : DefRec} {x : Str} {law : FnD} {ts : List (Str × Str)} (hn : l.most = some n) (hz : n ≤ sizeLine) (hd : d.params.defaults = []) (hr : Room lv callerA)
    (hF : ∀ (wo : World) (gm : Str → Option Value) (af : Addr) (hp : Heap), YP wo hp → hp.Ns mainGlobals gm → gm d.name = some (.ref af) → ∃ K : PySem.W.Frag, K.In hp ∧ Tabs0 ts K hp ∧ LawGT l wo lv n x gm af K ts law) :
    PySem.W.WalkO vw ls XP YP l.row.toRowW d [] (fun g us => PySem.call g us) := by
  refine Att.attach_call hn hd ?_
  intro wo t0 t1 gm bm af ob pv cv dc al us is GG YY h1 h2 h3 h4 h5 h6 h7 h8
  obtain ⟨K, hK, T, fd, b, e, f⟩ := hF wo gm af _ YY GG.T.g h4
  have cx : ∀ (H : Hp) (u : Value) (t : Shared), CV l.prog wo [] H t1 (fun _ _ _ => False) u t → False := fun H u t ⟨_, _, _, _, _, _, _, _, _, _, _, _, z⟩ => z
  exact law_callGT hK GG.T.g GG.T.b GG.T.builtins GG.T.nolimit h8 T GG.T.bmain h5 h6 (Nat.le_trans h7 hz) hr f b (fun H hO hS => sp_lawT hO T.nd hS (e is h7)) cx
/-! ### the head's facts, the tables left out of the written part -/
def isTab0 : Option Obj → Bool
  | some ⟨.none, none, .fields vs, sl⟩ => vs.size == 0 && sl.size == 0
  | _ => false
theorem isTab0_ok {o : Option Obj} (h : isTab0 o = true) : o = some (PySem.W.tabObj #[]) := by
  unfold isTab0 at h
  split at h
  · rename_i vs sl
    simp only [Bool.and_eq_true, beq_iff_eq] at h
    obtain ⟨h1, h2⟩ := h
    rw [Array.eq_empty_of_size_eq_zero h1, Array.eq_empty_of_size_eq_zero h2]
  · cases h
def frT (n : Nat) (ts : List (Str × Str)) (g : Addr → Option Obj) : PySem.W.Frag :=
  let K := frG g (cStatics :: asD g n)
  let as := ts.map fun p => tabA K p.1
  K.filter fun q => !as.contains q.1
def tabsB (ts : List (Str × Str)) (K : PySem.W.Frag) (g : Addr → Option Obj) : Bool :=
  (ts.all fun p => isTab0 (g (tabA K p.1)) && ((K.lookup (tabA K p.1)).isNone && PySem.W.codeHdIn K (codA K p.1) (tabA K p.1))) && decide (ts.map fun p => tabA K p.1).Nodup
theorem tabs0_ok {ts : List (Str × Str)} {K : PySem.W.Frag} {h : Heap} (e : tabsB ts K h.get? = true) : Tabs0 ts K h := by
  obtain ⟨e1, e2⟩ := ba e
  have z := fun p hp => List.all_eq_true.mp e1 p hp
  refine ⟨fun p hp => ?_, fun p hp => ?_, fun p hp => ?_, of_decide_eq_true e2⟩
  · exact isTab0_ok (ba (z p hp)).1
  · have y := (ba (ba (z p hp)).2).1
    cases q : K.lookup (tabA K p.1) with
    | none => rfl
    | some o => rw [q] at y; cases y
  · exact (ba (ba (z p hp)).2).2
theorem lookup_filter {α : Type} {f : Addr × α → Bool} : ∀ {l : List (Addr × α)} {a : Addr} {o : α}, (l.filter f).lookup a = some o → (∀ q ∈ l, ∀ r ∈ l, q.1 = r.1 → f q = f r) → l.lookup a = some o
  | [], _, _, h, _ => by cases h
  | (b, u) :: l, a, o, h, hf => by
    rw [List.filter_cons] at h
    rw [List.lookup_cons]
    split at h
    · rename_i hb
      rw [List.lookup_cons] at h
      split
      · rename_i e; rw [e] at h; exact h
      · rename_i e; rw [e] at h; exact lookup_filter h fun q hq r hr => hf q (List.mem_cons_of_mem _ hq) r (List.mem_cons_of_mem _ hr)
    · rename_i hb
      split
      · rename_i e
        have eab : a = b := by simpa using e
        subst eab
        have hm : (a, o) ∈ l.filter f := mem_lookupN (β := α) h
        obtain ⟨h1, h2⟩ := List.mem_filter.mp hm
        have := hf (a, o) (List.mem_cons_of_mem _ h1) (a, u) List.mem_cons_self rfl
        rw [h2] at this
        exact absurd this.symm hb
      · exact lookup_filter h fun q hq r hr => hf q (List.mem_cons_of_mem _ hq) r (List.mem_cons_of_mem _ hr)
abbrev AlT : Type := AlV × Bool
def obsT (n : Nat) (ts : List (Str × Str)) (fa : List Fa) (fn : List DefD) (gs : Gets) (ex : PySem.W.Frag → Bool) (g : Addr → Option Obj) : AlT := (obsV fa fn gs ex (frT n ts g), tabsB ts (frT n ts g) g)
def hookT (n : Nat) (ts : List (Str × Str)) (fa : List Fa) (fn : List DefD) (gs : Gets) (ex : PySem.W.Frag → Bool) : PySem.W.Hook where
  α := AlT
  obs := fun s => obsT n ts fa fn gs ex s.heap.get?
  val := fun _ => (valV' fn gs, true)
  says := fun _ h => ∃ K : PySem.W.Frag, K.In h ∧ SaysV fa fn gs ex K ∧ Tabs0 ts K h
  of := fun _ s e => ⟨frT n ts s.heap.get?, fun b o z => frG_in b o (lookup_filter z fun q _ r _ e => by rw [e]), (Prod.mk.inj e).1, tabs0_ok (Prod.mk.inj e).2⟩
  keeps := fun _ h h' ⟨K, hK, c, T⟩ k => ⟨K, PySem.W.Frag.In.keeps hK k, c, ⟨fun p hp => k _ _ (T.at_ p hp), T.no, T.hd, T.nd⟩⟩
theorem obsT_eq {n : Nat} {ts : List (Str × Str)} {fa : List Fa} {fn : List DefD} {gs : Gets} {ex : PySem.W.Frag → Bool} {g : Addr → Option Obj} {s : Shared} (h : ∀ a, g a = s.heap.get? a) : obsT n ts fa fn gs ex g = (hookT n ts fa fn gs ex).obs s := by
  have e : g = s.heap.get? := funext h
  rw [e] <;> rfl
end L2.VI
/-! VI32: exceptions as values: isinstance, fields. -/
namespace L2.VI.XK
open PySem PySem.W PySem.Spec PySem.Calls PyProof.Rows
section
variable {prog : Program} {w : World} {A : Around} {E : Value → Shared → Prop} {s : Shared} {K : Frag} {x D : Addr} {ox : Obj} {od : Option Obj}
theorem find_cls {C : Addr} {name : Str} {a g : Value} (c : (clsIn K C).isSome = true) (h1 : findIn K (.ref C) name = some (some a)) (h2 : specialIn K a "__get__" = some (some g)) (h3 : takesIn K a = some true) : findObj K C od name = some (.bind g a) := by
  obtain ⟨cd, c⟩ := Option.isSome_iff_exists.mp c
  unfold findObj
  rw [c, Option.bind_some, h1, Option.bind_some]
  simp [h2, h3]
/-- e.__class__ of an exception of an own class, whether it has a dict or none -/
theorem class_of_exc {Q : Option Value → Shared → Prop} (C : L2.ExcC K D) (X : K.In s.heap) (I : InstAt s.heap x ox D od) (h : Q (some (.ref D)) { s with toks := s.toks + 1 }) : wpAny (model prog w) A (getAttr? (.ref x) "__class__") Q E s := by
  have fnd : findObj K D od "__class__" = some (.bind (.builtin "getset_descriptor.__get__") (.builtin "object.__class__")) := find_cls (by obtain ⟨cd, c, _⟩ := any_some C.hd; rw [c]; rfl) C.ha C.hn C.ht
  obtain ⟨hp, g, d, t, os⟩ := s
  have ty := I.type (M := model prog w)
  have g1 := looks_findIn (M := model prog w) X C.hg
  have g2 := looks_findIn (M := model prog w) X C.hk
  have g3 := looks_find (M := model prog w) X I fnd
  have isB : Looks (model prog w) hp (isInstance (.ref x) (.type "BaseException")) true := ty.andThen (looks_subIn X C.hs)
  have n0 : (false && onTheHeap (Value.builtin "BaseException.__getattribute__")) = false := rfl
  have n1 : (onTheHeap (Value.ref D) && Value.builtin "BaseException.__getattribute__" == Value.builtin "object.__getattribute__") = false := by
    rw [show (Value.builtin "BaseException.__getattribute__" == Value.builtin "object.__getattribute__") = false by decide +kernel]
    rfl
  unfold getAttr? getAttrBy? getAttrBy
  apply wpAny_bind
  apply wpAny_mkText
  apply wpAny_bind
  apply wpAny_attempt
  apply wpAny_holding
  apply wpAny_bind
  refine ty.at (wpAny_bind (g1.at ?_))
  show wpAny _ _ (ite ((onTheHeap (Value.ref D) && Value.builtin "BaseException.__getattribute__" == Value.builtin "object.__getattribute__") = true) _ _) _ _ _
  rw [n1, if_neg Bool.false_ne_true]
  unfold getAttrByItsOwn hookBefore
  apply wpAny_bind
  rw [if_pos (show onTheHeap (Value.ref D) = true from rfl)]
  refine g2.at ?_
  apply wpAny_bind
  apply wpAny_attempt
  apply wpAny_holding
  unfold callGetattribute
  rw [n0, if_neg Bool.false_ne_true]
  unfold boundAndCalled
  rw [PySem.F.excAttr_ValueError.ga.bind (.ref x)]
  apply wpAny_bind
  apply wpAny_pure
  show wpAny _ _ (call (.builtin "BaseException.__getattribute__") [.ref x, .str "__class__" t]) _ _ _
  apply wpAny_call
  apply codeAny_call_builtin PySem.F.excAttr_ValueError.ga.plain PySem.F.entry_bexc_ga
  refine @check_slot (model prog w) _ _ ⟨hp, g, d, t + 1, os⟩ "BaseException.__getattribute__" "BaseException" "__getattribute__" (.ref x) [.str "__class__" t] [] _ (by decide +kernel) (by decide +kernel) isB (PySem.F.args_bexc_ga (.ref x) (.str "__class__" t)) ?_
  unfold Builtin.«object.__getattribute__»
  refine wpAny_bind (wpAny_of_eq (a := ((Value.ref x : Value), [Value.str "__class__" t])) (by first | rfl | (simp only [slotArgs]; rfl)) ?_)
  apply wpAny_bind
  apply wpAny_pure
  apply wpAny_bind
  refine ty.at (wpAny_bind (g3.at ?_))
  show wpAny _ _ (holding [Value.builtin "object.__class__"] (call (.builtin "getset_descriptor.__get__") [.builtin "object.__class__", .ref x, .ref D]) >>= ret) _ _ _
  apply wpAny_bind
  apply wpAny_holding
  apply wpAny_call
  refine class_get (s := ⟨hp, g, d, t + 1, os⟩) (ox := ox) (od := od) X I C.hm ?_
  apply wpAny_pure
  show wpAny _ _ (handedOut (.ref D)) _ _ _
  rw [handedOut_of (v := .ref D) rfl]
  first
    | exact wpAny_pure (wpAny_pure h)
    | exact wpAny_pure h
    | exact wpAny_pure (wpAny_bind (wpAny_pure (wpAny_pure h)))
theorem kit_exc (C : L2.ExcC K D) : KitX K (.ref x) (.ref D) (fun h => ∃ ox od, InstAt h x ox D od) where
  ty := fun _ _ _ ⟨_, _, I⟩ => I.type
  it := fun _ _ X _ => by
    obtain ⟨cd, c, _⟩ := any_some C.hd
    unfold clsIn at c
    split at c
    · rename_i a1 a2 a3 a4 ho
      intro A' Q' E' s' k q
      unfold isType loadHead
      apply wpAny_bind
      exact wpAny_loadPart (k _ _ (X _ _ ho)) (wpAny_pure q)
    · cases c
  ne := fun h tp dd its n sl X htp => by
    obtain ⟨cd, c, _⟩ := any_some C.hd
    apply Bool.eq_false_iff.mpr
    intro q
    have e : D = tp := Value.ref.inj (beq_iff_eq.mp q)
    subst e
    unfold clsIn at c
    split at c
    · rename_i a1 a2 a3 a4 ho
      have z := (X _ _ ho).symm.trans htp
      cases z
    · cases c
  ca := fun X ⟨_, _, I⟩ k => class_of_exc C X I k
end
end L2.VI.XK
namespace L2.VI
open PySem PySem.Spec PyProof.Rows He
def excCB (c : Str) (K : PySem.W.Frag) : Bool := eqO (PySem.W.findIn K (.ref (ga K c)) "__getattribute__") (some (some (.builtin "BaseException.__getattribute__"))) && (eqO (PySem.W.findIn K (.ref (ga K c)) "__getattr__") (some none) && (decide (PySem.W.subIn K (.ref (ga K c)) (.type "BaseException") = some true) && (PySem.W.hasDictIn K (ga K c) &&
  (eqO (PySem.W.findIn K (.ref (ga K c)) "__class__") (some (some (.builtin "object.__class__"))) && (eqO (PySem.W.specialIn K (.builtin "object.__class__") "__get__") (some (some (.builtin "getset_descriptor.__get__"))) &&
  (decide (PySem.W.takesIn K (.builtin "object.__class__") = some true) && decide (PySem.W.mroIn K (ga K c) (.type "object") = some true)))))))
theorem excCB_ok {c : Str} {K : PySem.W.Frag} (h : excCB c K = true) : ExcC K (ga K c) := by
  obtain ⟨h1, h⟩ := ba h
  obtain ⟨h2, h⟩ := ba h
  obtain ⟨h3, h⟩ := ba h
  obtain ⟨h4, h⟩ := ba h
  obtain ⟨h5, h⟩ := ba h
  obtain ⟨h6, h⟩ := ba h
  obtain ⟨h7, h8⟩ := ba h
  exact ⟨eqO_ok h1, eqO_ok h2, of_decide_eq_true h3, h4, eqO_ok h5, eqO_ok h6, of_decide_eq_true h7, of_decide_eq_true h8⟩
def noAtB (c f : Str) (K : PySem.W.Frag) : Bool := eqO (PySem.W.findIn K (.ref (ga K c)) f) (some none)
theorem noAtB_ok {c f : Str} {K : PySem.W.Frag} (h : noAtB c f K = true) : PySem.W.findIn K (.ref (ga K c)) f = some none := eqO_ok h
def exmB (c h : Str) (r : Bool) (K : PySem.W.Frag) : Bool := decide (PySem.W.exmOne K (.ref (ga K c)) (.ref (ga K h)) = some r)
theorem exmB_ok {c h : Str} {r : Bool} {K : PySem.W.Frag} (e : exmB c h r K = true) : PySem.W.exmOne K (.ref (ga K c)) (.ref (ga K h)) = some r := of_decide_eq_true e
section
variable {X : Cx} {W : WX} {pos apos cpos : Pos} {o i e : Expr} {es : List Expr} {mo mi me : M D} {mas : M (List D)}
theorem BRel.xvAt {K : PySem.W.Frag} {F Mm H : Hp} {fc : FrC} {P0 : PX fc} {ρ : Rho} {bs : BSt} {σ : St} {a C : Addr} {d : Option Addr} (B : BRel K F P0 Mm ρ bs σ H) (h : F a = some (XV C d a)) : H a = some (XV C d a) := by
  obtain ⟨P, q, B⟩ := B
  exact B.h.fh a _ h
/-- an exception that is known is an instance of its class -/
theorem xv_inst {pins : List (Addr × Obj)} {σ : St} {H : Hp} {s : Shared} {a C : Addr} {d : Option Addr} (I : Inv X pins σ H s) (h : H a = some (XV C d a)) (hd : ∀ dx, d = some dx → ∃ od, s.heap.get? dx = some od) : ∃ ox od, PySem.W.InstAt s.heap a ox C od ∧ ox.dict = d ∧ (∀ dx o, d = some dx → s.heap.get? dx = some o → od = some o) := by
  obtain ⟨⟨oe, vs, h1, h2, h3⟩, _, _⟩ := I.hok a _ h
  cases d with
  | none => exact ⟨oe, none, ⟨h1, h2.1, by unfold PySem.W.notCls; rw [h3] <;> rfl, by rw [h2.2]; trivial⟩, h2.2, fun _ _ z => nomatch z⟩
  | some dx =>
    obtain ⟨od, hod⟩ := hd dx rfl
    exact ⟨oe, some od, ⟨h1, h2.1, by unfold PySem.W.notCls; rw [h3] <;> rfl, by rw [h2.2]; exact hod⟩, h2.2, fun dx' o z y => by cases z; rw [hod] at y; exact y⟩
/-- isinstance(x, c): x may be an exception, too -/
def isiE (cd : D → Bool) (subs : String → Bool) (own ownx : List (Str × Bool)) : List D → M D := fun as => match as with
  | [.xob c _, u] => fun b => if cd u = true then (match ownx.lookup c with
    | some k => .ok (.bl k) b
    | none => .fail) else .fail
  | as => isiM cd subs own as
theorem cr_isE : CallR X (.builtin "isinstance") fun xs H Q => ∃ (a D : Addr) (d : Option Addr) (c : V) (u : Value) (k : Bool), xs = [.ref a, c] ∧ H a = some (XV D d a) ∧ (∀ dx, d = some dx → ∃ vs, H dx = some (.xd vs)) ∧ ExcC X.K D ∧ ClsV c u ∧ PySem.W.kitOne X.K (.ref D) u = some k ∧ Q (.bl k) H := by
  rintro pins s σ H xs us Q I r ⟨a, D, d, c, u, k, rfl, h1, h2, h3, h4, h5, q⟩
  cases r with | cons r1 rr => cases rr with | cons r2 rr =>
  cases rr
  cases r1
  have eu := h4.eq r2
  subst eu
  obtain ⟨ox, od, J, _, _⟩ := xv_inst I h1 (fun dx e => by
    obtain ⟨vs, z⟩ := h2 dx e
    obtain ⟨mA, ⟨o, es, ep, y, _⟩, _⟩ := (I.hok dx _ z)
    exact ⟨o, y⟩)
  exact PySem.W.kia_one (XK.kit_exc h3) I.kIn ⟨ox, od, J⟩ h5 (fun z => nomatch z) fun tk => ⟨.bl k, H, I.kept (t' := tk) fun _ _ z => z, rfl, q⟩
theorem cv_isE {cd : D → Bool} {subs : String → Bool} {own ownx : List (Str × Bool)} {u : Value} (hcd : ∀ c, cd c = true → (∃ n, c = .ty n ∧ u = .type n) ∨ ∃ x, c = .glo x ∧ u = .ref (ga X.K x)) (hx : ∀ p ∈ ownx, ExcC X.K (ga X.K p.1) ∧ PySem.W.kitOne X.K (.ref (ga X.K p.1)) u = some p.2)
    (h0 : CallV X W (.builtin "isinstance") (isiM cd subs own)) : CallV X W (.builtin "isinstance") (isiE cd subs own ownx) := by
  intro xs as σ H F P0 Mm ρ b Q B r h
  unfold isiE at h
  split at h
  · rename_i c fs w
    split at h
    · rename_i hc
      split at h
      · rename_i k ek
        obtain ⟨x1, x2⟩ := hx (c, k) (PySem.mem_of_lookup ek)
        cases r with | cons r1 rr => cases rr with | cons r2 rr =>
        cases rr
        have hC : ∃ cv, ClsV cv u ∧ ∀ v, Rep X.K F ρ v w → v = cv := by
          rcases hcd w hc with ⟨n, rfl, rfl⟩ | ⟨y, rfl, rfl⟩
          · exact ⟨.ty n, .ty n, fun v z => by cases z; rfl⟩
          · exact ⟨.ref (ga X.K y), .own _, fun v z => by cases z; rfl⟩
        obtain ⟨cv, k1, k2⟩ := hC
        have e2 := k2 _ r2
        subst e2
        cases r1 with
        | @xob a dx c vs ds f1 f2 f3 f4 => exact ⟨_, cr_isE, a, _, some dx, _, u, k, rfl, B.xvAt f1, fun dx' z => by cases z; exact ⟨vs, by obtain ⟨P, q, BB⟩ := B; exact BB.h.fh _ _ f2⟩, x1, k1, x2, h.now B (.bl _)⟩
        | @xob0 a c f1 => exact ⟨_, cr_isE, a, _, none, _, u, k, rfl, B.xvAt f1, fun dx' z => (nomatch z), x1, k1, x2, h.now B (.bl _)⟩
      · exact h.elim
    · exact h.elim
  · exact h0 xs _ σ H F P0 Mm ρ b Q B r h
/-! ### e.f -/
def fldX (cs : List Str) (f : Str) (mo : M D) : M D := M.bind mo fun d => fun b => match d with
  | .xob c fs => if c ∈ cs then (match fs.lookup f with
    | some v => .ok v b
    | none => .fail) else .fail
  | _ => .fail
theorem se_fldX {cs : List Str} {f : Str} (ho : SE X W o mo) (hc : ∀ c ∈ cs, ExcC X.K (ga X.K c) ∧ PySem.W.findIn X.K (.ref (ga X.K c)) f = some none) (hb : attributeBase o f X.env (eval o X.env) = eval o X.env := by rfl) : SE X W (.Attribute o f pos) (fldX cs f mo) := by
  refine ⟨fun pins s σ H Q I ⟨F, P0, Mm, ρ, bs, B, q⟩ => ?_⟩
  have h0 : tE (fc := fcOf X) X.K W mo σ H (fun x H1 => ∃ (a dx : Addr) (c : Str) (vs : List (Str × V)) (v : V), x = .ref a ∧ H1 a = some (XV (ga X.K c) (some dx) a) ∧ H1 dx = some (.xd vs) ∧ vs.lookup f = some v ∧ c ∈ cs ∧ Q v H1) :=
    tM_then B q fun x d F1 M1 r1 b1 H1 l1 e1 B1 q1 h1 => by
      split at h1
      · rename_i c fs
        split at h1
        · rename_i hm
          split at h1
          · rename_i w ew
            cases q1 with
            | @xob a dx c vs ds f1 f2 f3 f4 =>
              obtain ⟨v, g1, g2⟩ := (fs_find (f := f) f3 f4).1 w ew
              exact ⟨a, dx, c, vs, v, rfl, B1.xvAt f1, by obtain ⟨P, qq, BB⟩ := id B1; exact BB.h.fh _ _ f2, g1, hm, h1.now B1 g2⟩
            | xob0 f1 => cases ew
          · exact h1.elim
        · exact h1.elim
      · exact h1.elim
  refine attr_of hb (thn (ho.run pins s σ H _ I h0) ?_)
  rintro u s1 ⟨x, H1, J, rx, a, dx, c, vs, v, rfl, k1, k2, k3, k4, q1⟩
  obtain rfl : u = Value.ref a := rx
  obtain ⟨C1, C2⟩ := hc c k4
  obtain ⟨mA, hns, hr⟩ := J.hok dx _ k2
  obtain ⟨od, hod, hl⟩ := lookIn_ns hns
  obtain ⟨u, hu, ru⟩ := RelO.some_of (v := v) (o := mA f) (by rw [← k3]; exact hr f)
  obtain ⟨ox, od', In, _, hod2⟩ := xv_inst J k1 (fun d e => by cases e; exact ⟨od, hod⟩)
  have e2 := hod2 dx od rfl hod
  subst e2
  exact HandSPX.exc_get J.kIn In C1.hg C1.hk C1.hs (PySem.W.findObj_own C1.hd C2 rfl (by rw [hl, hu])) (handed_of ru) ⟨v, H1, J.tok _, ru, q1⟩
end
end L2.VI
/-! VI33: the facts of own exception classes from the head; the head with tables and such classes. -/
namespace L2.VI
open PySem PySem.Spec PyProof.Rows He
/-- the function object of the class's __init__ -/
def supA (K : PySem.W.Frag) (c : Str) : Addr := ma K (ga K c) "__init__"
def fnS (K : PySem.W.Frag) (a : Addr) : FnW := match K.lookup a with
  | some ⟨_, _, .func fd, _⟩ => some (fd.name, fd.qualname, fd.params, fd.body, fd.scope, fd.globals, fd.closure.map fun q => (q.1, 0), fd.builtins)
  | _ => none
def sval (d : DefD) : FnW := some (d.name, d.qual, d.params, .stmts d.body, d.scope, mainGlobals, [("__class__", 0)], builtinsNs)
def decB (p : Prop) [Decidable p] : Bool := decide p
def cloB (K : PySem.W.Frag) (C : Addr) : List (Str × Addr) → Bool
  | [q] => (match K.lookup q.2 with
    | some ⟨_, _, .cell (some (.ref C')), _⟩ => C' == C
    | _ => false)
  | _ => false
def codB (K : PySem.W.Frag) (file qn : Str) (cd : Value) : Bool := PySem.W.codeIn K cd qn && (match cd with
  | .ref c => (match K.lookup c with
    | some ⟨_, _, .fields vs, _⟩ => (match (vs[2]? : Option Value) with
      | some (.str fl _) => fl == file
      | _ => false)
    | _ => false)
  | _ => false)
def supFB (K : PySem.W.Frag) (file : Str) (C a : Addr) : Bool := match K.lookup a with
  | some ⟨_, _, .func fd, _⟩ => (match fd.defaults with
    | .none => true
    | _ => false) && (cloB K C fd.closure && codB K file fd.qualname fd.code)
  | _ => false
def supCB (K : PySem.W.Frag) (C : Addr) : Bool := match K.lookup C with
  | some ⟨.type t, _, .cls cd, sl⟩ => (t == "type" && (cd.hasDict && !cd.hasDel)) && ((match cd.mro with
    | .ref C' :: bm => C' == C && (PySem.HandSPX.refsVE bm && eqO (PySem.W.alongIn K "__init__" bm) (some (some (.builtin "ValueError.__init__"))))
    | _ => false) && (match sl.toList with
    | [_, _, _, _, some (.builtin n), _] => n == "ValueError.__new__"
    | _ => false))
  | _ => false
def supB (file c f : Str) (K : PySem.W.Frag) : Bool :=
  (eqO (PySem.W.findIn K (.ref (ga K c)) "__init__") (some (some (.ref (supA K c)))) && (decide (PySem.W.typeIn K (.ref (supA K c)) = some (.type "function")) && (PySem.W.keepIn K (.ref (ga K c)) && (decide (PySem.W.typeIn K (.ref (ga K c)) = some (.type "type")) && decide (PySem.W.subIn K (.ref (ga K c)) (.type "BaseException") = some true))))) &&
  ((supFB K file (ga K c) (supA K c) && supCB K (ga K c)) &&
  (eqO (PySem.W.findIn K (.ref (ga K c)) "__setattr__") (some (some (.builtin "object.__setattr__"))) && (eqO (PySem.W.findIn K (.ref (ga K c)) f) (some none) && (decide (PySem.W.mroIn K (ga K c) (.ref (ga K c)) = some true) && (decide (PySem.W.subIn K (.ref (ga K c)) (.type "ValueError") = some true) &&
  (eqO (PySem.W.nsIn K cStatics "thirdparty.any") (some none) && eqO (PySem.W.nsIn K mainGlobals "super") (some none)))))))
theorem supCB_ok {K : PySem.W.Frag} {C : Addr} (h : supCB K C = true) : ∃ nm q N bs bm sn sub ab col dd k0 k1 k2 k3 k5, K.lookup C = some (excClassObj nm q C N bs bm true sn sub ab col dd k0 k1 k2 k3 k5 "ValueError.__new__") ∧ PySem.HandSPX.refsVE bm = true ∧ PySem.W.alongIn K "__init__" bm = some (some (.builtin "ValueError.__init__")) := by
  unfold supCB at h
  split at h
  · rename_i t dd cd sl e
    obtain ⟨g1, g2⟩ := ba h
    obtain ⟨g3, g4⟩ := ba g1
    obtain ⟨g5, g6⟩ := ba g4
    obtain ⟨g7, g8⟩ := ba g2
    split at g7
    · rename_i C' bm em
      obtain ⟨i1, i2⟩ := ba g7
      obtain ⟨i3, i4⟩ := ba i2
      split at g8
      · rename_i k0 k1 k2 k3 n k5 es
        obtain ⟨nm, bs, mro, N, q, hd, sn, sub, ab, col, del⟩ := cd
        dsimp only at g5 g6 em
        have e1 : t = "type" := by simpa using g3
        have e2 : C' = C := by simpa using i1
        have e3 : n = "ValueError.__new__" := by simpa using g8
        have e4 : del = false := by simpa using g6
        clear g1 g2 g4 g7 h
        subst e1 e2 e3 e4 g5 em
        have e5 : sl = #[k0, k1, k2, k3, some (.builtin "ValueError.__new__"), k5] := by rw [← es]
        subst e5
        exact ⟨nm, q, N, bs, bm, sn, sub, ab, col, dd, k0, k1, k2, k3, k5, e, i3, eqO_ok i4⟩
      · cases g8
    · cases g7
  · cases h
/-- the text of such an __init__ -/
def SupT (body : List Stmt) (slf prm f : Str) : Prop := ∃ (p0 p1 p2 p3 p4 p5 p6 p7 p8 p9 : Pos) (msg : Str) (k : Nat), body = [.Expr (.Call (.Attribute (.Call (.Name "super" p0) [] [] p1) "__init__" p2) [.Constant (.str msg) k p3] [] p4) p5, .Assign [.Attribute (.Name slf p6) f p7] (.Name prm p8) p9] ∧ (p2.endLine == p4.line) = true
structure SupS (scope : Scope) (params : Arguments) (slf prm : Str) : Prop where
  ar : ∃ ar : Arg, (params.posonlyargs ++ params.args).head? = some ar ∧ ar.arg = slf
  s1 : scope.names.lookup ("super" : Str) = some .globalImplicit
  s2 : scope.names.lookup ("__class__" : Str) = some .free
  s3 : scope.names.lookup slf = some .local
  s4 : scope.names.lookup prm = some .local
  s5 : scope.kind = .function
  s6 : ∀ x ∈ scope.names, x.2 ≠ .cell
  s7 : scope.isCoroutine = false
  s8 : scope.isGenerator = false
theorem supM_of {P : Program} {K : PySem.W.Frag} {d : DefD} {file c f slf prm : Str} (e : fnS K (supA K c) = sval d) (h : supB file c f K = true) (hb : SupT d.body slf prm f) (hs : SupS d.scope d.params slf prm) (hfile : ((P.main.file : Str) == file) = true) (htop : (P.main.scope.names.lookup ("super" : Str)).isSome = false)
    (hbind : ∀ (kV doc pm : Value) (an : Option Addr) (cd ct : Value) (cc : Addr) (a b : Value), bindArgs (PySem.W.ksFn d.name d.qual d.params d.body d.scope .none kV doc pm an cd ct cc) ⟨[a, b], []⟩ = pure [(slf, a), (prm, b)])
    (ne : (slf == prm) = false := by decide) (d1 : (slf == ("__debug__" : Str)) = false := by decide) (d2 : (prm == ("__debug__" : Str)) = false := by decide) : Sup.SupM P K (ga K c) (supA K c) slf prm f (fdA K (supA K c)) := by
  obtain ⟨h1, h2⟩ := ba h
  obtain ⟨a1, h1⟩ := ba h1
  obtain ⟨a2, h1⟩ := ba h1
  obtain ⟨a3, h1⟩ := ba h1
  obtain ⟨a4, a5⟩ := ba h1
  obtain ⟨b1, h2⟩ := ba h2
  obtain ⟨b1, b2⟩ := ba b1
  obtain ⟨c1, h2⟩ := ba h2
  obtain ⟨c2, h2⟩ := ba h2
  obtain ⟨c3, h2⟩ := ba h2
  obtain ⟨c4, h2⟩ := ba h2
  obtain ⟨c5, c6⟩ := ba h2
  obtain ⟨p0, p1, p2, p3, p4, p5, p6, p7, p8, p9, msg, k, eb, el⟩ := hb
  obtain ⟨ar, r1, r2⟩ := hs.ar
  unfold fnS at e
  unfold supFB at b1
  split at e
  · rename_i oc od fd osl lk
    rw [lk] at b1
    dsimp only at b1
    obtain ⟨x1, y1⟩ := ba b1
    obtain ⟨x2, x3⟩ := ba y1
    clear y1 b1 h
    obtain ⟨nm, qn, pr, bd, sc, gl, cl, dV, kV, doc, pm, an, cd, ct, bn⟩ := fd
    have e2 := Option.some.inj e
    simp only [Prod.mk.injEq] at e2
    obtain ⟨rfl, rfl, rfl, rfl, rfl, rfl, e3, rfl⟩ := e2
    dsimp only at x1 x2 x3
    split at x1
    · unfold cloB at x2
      split at x2
      · rename_i q
        obtain ⟨qn, cc⟩ := q
        simp only [List.map_cons, List.map_nil, List.cons.injEq, Prod.mk.injEq, and_true] at e3
        subst e3
        dsimp only at x2
        split at x2
        · rename_i cl2 cld C' csl lcc
          have e4 : C' = ga K c := by simpa using x2
          subst e4
          obtain ⟨x5, x4⟩ := ba x3
          clear x3
          split at x4
          · rename_i cda
            split at x4
            · rename_i ccl cdd vs ccs lcd
              split at x4
              · rename_i fl tf ev
                have e5 : fl = file := by simpa using x4
                subst e5
                have efd : fdA K (supA K c) = PySem.W.ksFn d.name d.qual d.params d.body d.scope .none kV doc pm an (.ref cda) ct cc := by
                  unfold fdA
                  rw [lk]
                have hbnd : ∀ (s : Shared) (a b : Value), BindsTo s (fdA K (supA K c)) ⟨[a, b], []⟩ [(slf, a), (prm, b)] := fun s a b => .of_eq (by rw [efd]; exact hbind kV doc pm an _ ct cc a b)
                refine ⟨⟨⟨d.name, d.qual, msg, fl, d.params, d.scope, .none, kV, doc, pm, ct, oc, an, od, osl, cc, cda, k, p0, p1, p2, p3, p4, p5, p6, p7, p8, p9, ccl, cl2, cdd, cld, vs, #[], ccs, csl, tf, ar, ?_, ?_, x5, lcd, ev, hfile, lcc, r1, r2, hs.s1, hs.s2, hs.s3, hs.s4, hs.s5, hs.s6, hs.s7, hs.s8, el⟩, ne, d1, d2, supCB_ok b2, eqO_ok c1, eqO_ok c2, of_decide_eq_true c3, of_decide_eq_true c4, eqO_ok c5, eqO_ok c6, htop⟩, of_decide_eq_true a5, of_decide_eq_true a4, a3, eqO_ok a1, of_decide_eq_true a2, hbnd⟩
                · rw [efd, eb]
                · rw [efd, lk]
              · cases x4
            · cases x4
          · cases x4
        · cases x2
      · cases x2
    · cases x1
  · cases e
/-! ### the head -/
abbrev Sups : Type := List (Str × DefD)
abbrev AlS : Type := AlT × List FnW
def obsS (n : Nat) (ts : List (Str × Str)) (ss : Sups) (fa : List Fa) (fn : List DefD) (gs : Gets) (ex : PySem.W.Frag → Bool) (g : Addr → Option Obj) : AlS :=
  let K := frT n ts g
  ((obsV fa fn gs ex K, tabsB ts K g), ss.map fun q => fnS K (supA K q.1))
structure SaysS (ss : Sups) (fa : List Fa) (fn : List DefD) (gs : Gets) (ex : PySem.W.Frag → Bool) (K : PySem.W.Frag) : Prop where
  v : SaysV fa fn gs ex K
  s : (ss.map fun q => fnS K (supA K q.1)) = ss.map fun q => sval q.2
theorem SaysS.sup {ss : Sups} {fa : List Fa} {fn : List DefD} {gs : Gets} {ex : PySem.W.Frag → Bool} {K : PySem.W.Frag} (c : SaysS ss fa fn gs ex K) (i : Nat) {p : Str} {d : DefD} (h : ss[i]? = some (p, d) := by rfl) : fnS K (supA K p) = sval d := by
  have e : (ss.map fun q => fnS K (supA K q.1))[i]? = (ss.map fun q => sval q.2)[i]? := by rw [c.s]
  rw [List.getElem?_map, List.getElem?_map, h] at e
  exact Option.some.inj e
def hookS (n : Nat) (ts : List (Str × Str)) (ss : Sups) (fa : List Fa) (fn : List DefD) (gs : Gets) (ex : PySem.W.Frag → Bool) : PySem.W.Hook where
  α := AlS
  obs := fun s => obsS n ts ss fa fn gs ex s.heap.get?
  val := fun _ => ((valV' fn gs, true), ss.map fun q => sval q.2)
  says := fun _ h => ∃ K : PySem.W.Frag, K.In h ∧ SaysS ss fa fn gs ex K ∧ Tabs0 ts K h
  of := fun _ s e => ⟨frT n ts s.heap.get?, fun b o z => frG_in b o (lookup_filter z fun q _ r _ e => by rw [e]), ⟨(Prod.mk.inj (Prod.mk.inj e).1).1, (Prod.mk.inj e).2⟩, tabs0_ok (Prod.mk.inj (Prod.mk.inj e).1).2⟩
  keeps := fun _ h h' ⟨K, hK, c, T⟩ k => ⟨K, PySem.W.Frag.In.keeps hK k, c, ⟨fun p hp => k _ _ (T.at_ p hp), T.no, T.hd, T.nd⟩⟩
theorem obsS_eq {n : Nat} {ts : List (Str × Str)} {ss : Sups} {fa : List Fa} {fn : List DefD} {gs : Gets} {ex : PySem.W.Frag → Bool} {g : Addr → Option Obj} {s : Shared} (h : ∀ a, g a = s.heap.get? a) : obsS n ts ss fa fn gs ex g = (hookS n ts ss fa fn gs ex).obs s := by
  have e : g = s.heap.get? := funext h
  rw [e] <;> rfl
end L2.VI
/-! VI34: where lambdas stand in a text; small facts for printed walks. -/
namespace L2.VI
open PySem PySem.Spec PyProof.Rows He
def pos0 : Pos := ⟨0, 0, 0, 0⟩
def lx0 : Expr := .Name "" pos0
def ls0 : Stmt := .Pass pos0
def lsAt (i : Nat) (b : List Stmt) : Stmt := b.getD i ls0
def lsVal : Stmt → Expr
  | .Assign _ v _ => v
  | .Expr v _ => v
  | .Return (some v) _ => v
  | .If t _ _ _ => t
  | _ => lx0
def lsBody : Stmt → List Stmt
  | .If _ b _ _ => b
  | .For (body := b) .. => b
  | .While (body := b) .. => b
  | .Try (body := b) .. => b
  | _ => []
def lsElse : Stmt → List Stmt
  | .If _ _ b _ => b
  | _ => []
def lxFun : Expr → Expr
  | .Call f _ _ _ => f
  | _ => lx0
def lxAttr : Expr → Expr
  | .Attribute o _ _ => o
  | _ => lx0
def lxArg (i : Nat) : Expr → Expr
  | .Call _ as _ _ => as.getD i lx0
  | _ => lx0
def lxKw (i : Nat) : Expr → Expr
  | .Call _ _ ks _ => (ks[i]?.map (·.value)).getD lx0
  | _ => lx0
def lxEl (i : Nat) : Expr → Expr
  | .List es _ => es.getD i lx0
  | .Tuple es _ _ => es.getD i lx0
  | .BoolOp _ es _ => es.getD i lx0
  | .Compare _ _ es _ => es.getD i lx0
  | .IfExp a b c _ => [a, b, c].getD i lx0
  | _ => lx0
def lxOne : Expr → Expr
  | .UnaryOp _ a _ => a
  | .Compare a _ _ _ => a
  | _ => lx0
def lxPar : Expr → Arguments
  | .Lambda p _ _ _ => p
  | _ => default
def lxBody : Expr → Expr
  | .Lambda _ b _ _ => b
  | _ => lx0
def lxScope : Expr → Scope
  | .Lambda _ _ s _ => s
  | _ => default
/-- the code object of a def of the module -/
theorem cod_of {K : PySem.W.Frag} {x qual : Str} {params : Arguments} {body : List Stmt} {scope : Scope} {dvs : List V} {kws : List (Str × V)} (F : FunD K x qual params body scope dvs kws (ga K x) (fdA K (ga K x))) : (fdA K (ga K x)).code = .ref (codA K x) := by
  obtain ⟨oc, od, dV, kV, doc, pm, an, cdv, ct, osl, e, lk, hcd, _, _⟩ := F.ex
  have h : cdv = .ref (codA K x) := by
    unfold codA
    rw [lk, e]
    unfold PySem.W.codeIn at hcd
    split at hcd
    · rfl
    · cases hcd
  rw [e]
  exact h
theorem FnG.mono {P : Program} {w : World} {K : PySem.W.Frag} {mg : Str → Option Value} {base : Heap} {j k : Nat} {f : Addr} {fd : FuncData} {ps : List Str} {sp : Sp} (F : FnG P w K mg base j f fd ps sp) (h : j ≤ k) : FnG P w K mg base k f fd ps sp :=
  ⟨F.n, fun hA o s G as ws zs R T hr => F.go hA o s G as ws zs R T (hr.mono h)⟩
theorem isGloD_cd {K : PySem.W.Frag} (x : Str) : ∀ c, isGloD x c = true → (∃ n, c = .ty n ∧ Value.ref (ga K x) = .type n) ∨ ∃ y, c = .glo y ∧ Value.ref (ga K x) = .ref (ga K y) := fun c h => .inr (by
  cases c with
  | glo m => have : m = x := of_decide_eq_true h; subst this; exact ⟨_, rfl, rfl⟩
  | _ => cases h)
theorem isTyD_cd {K : PySem.W.Frag} (T : String) : ∀ c, isTyD T c = true → (∃ n, c = .ty n ∧ Value.type T = .type n) ∨ ∃ y, c = .glo y ∧ Value.type T = .ref (ga K y) := fun c h => .inl (by
  cases c with
  | ty m => have : m = T := of_decide_eq_true h; subst this; exact ⟨_, rfl, rfl⟩
  | _ => cases h)
def kitAB (c : Str) (ts : List String) (r : Bool) (K : PySem.W.Frag) : Bool := decide (PySem.W.kitAny K (.ref (ga K c)) (ts.map Value.type) = some r)
theorem kitAB_ok {c : Str} {ts : List String} {r : Bool} {K : PySem.W.Frag} (h : kitAB c ts r K = true) : PySem.W.kitAny K (.ref (ga K c)) (ts.map Value.type) = some r := of_decide_eq_true h
end L2.VI
/-! VI35: the draws' begin from any store; small words for plain laws. -/
namespace L2.VI
open PySem PySem.Spec PyProof.Rows He
section
theorem begun_at (g : GSt) (ns : List Int) (hl : ns.length ≤ 63) : ∃ g', H.f__law_begun [.scr ns] g = .ok (.ptr (g.nx + 1)) g' ∧ StOk g' (g.nx + 1) g.nx 0 ∧ g'.nx = g.nx + 2 ∧ ∀ j, j < g.nx → g'.S j = g.S j := by
  obtain ⟨L, e⟩ := large_ok (g := g) (s := .val (.scr ns)) (tt := isB (bin2 geD (getV 2) (bin2 powD (M.ret (.int 10)) (M.ret (.int 18))))) (elt := bin2 subD (getV 2) (bin2 powD (M.ret (.int 10)) (M.ret (.int 18)))) (fun x => ⟨decide (10 ^ 18 ≤ x), by simp⟩) (fun x => by simp) ns [] (by simp; omega)
  refine ⟨(g.new (.lst (L.map .int))).new (stD g.nx ns 0 0), ?_, ⟨by omega, L, ns, 0, 0, by omega, by omega, ?_, ?_⟩, rfl, fun j hj => ?_⟩
  · simp only [List.map_nil] at e
    simp [H.f__law_begun, H.m__law_begun, lcN, BSt.wip, wipeT, e, GSt.new, toLst, mergeD, dput, stD]
    rfl
  · simp [GSt.new]
  · simp [GSt.new]
  · simp [GSt.new, show j ≠ g.nx + 1 by omega, show j ≠ g.nx by omega]
end
@[simp] theorem fnBodyF_ap {n sl : Nat} {me : Option Nat} {up : Ups} {m : M Fl} {ds : List D} {g : GSt} : fnBodyF n sl me up m ds g = if ds.length = n then (m ⟨g, ds.map (fun d => some (.val d)) ++ (List.replicate (sl - n) none ++ [some (.frm me up)])⟩).out else .fail := by
  unfold fnBodyF
  split
  · generalize m _ = r
    cases r with
    | ok fl b => cases fl <;> rfl
    | exc x b => rfl
    | fail => rfl
  · rfl
@[simp] theorem fnBodyU_ap {n sl : Nat} {m : M Fl} {up : Ups} {ds : List D} {g : GSt} : fnBodyU n sl m up ds g = fnBodyF n sl none up m ds g := rfl
@[simp] theorem fnBodyC_ap {n sl : Nat} {m : M Fl} {ds : List D} {g : GSt} : fnBodyC n sl m ds g = fnBodyF n sl (some g.nx) [] m ds { g with nx := g.nx + 1 } := rfl
@[simp] theorem tryKeep_ap {i j : Nat} {own : List (Str × Bool)} {mb : M Fl} {b : BSt} : tryKeep i j own mb b = (match mb b with
  | .exc e b' => (match own.lookup e.c with
    | some true => .ok .nx { b' with t := ((b'.t.set i (some (.val (.xob e.c e.fs)))).set j (some (.val (.xob e.c e.fs)))).set i none }
    | some false => .exc e b'
    | none => .fail)
  | r => r) := rfl
@[simp] theorem isN_xob {c : Str} {fs : List (Str × D)} : (D.xob c fs).isNon = false := rfl
@[simp] theorem raiseS_ap {c f : Str} {mas : M (List D)} {b : BSt} : raiseS c f mas b = (mas b).thn fun ds b => match ds with
  | [d] => .exc ⟨c, [(f, d)]⟩ b
  | _ => .fail := rfl
@[simp] theorem isiE_x {cd : D → Bool} {subs : String → Bool} {own ownx : List (Str × Bool)} {c : Str} {fs : List (Str × D)} {u : D} {b : BSt} : isiE cd subs own ownx [.xob c fs, u] b = (if cd u = true then (match ownx.lookup c with
    | some k => .ok (.bl k) b
    | none => .fail) else .fail) := rfl
@[simp] theorem fldX_ap {cs : List Str} {f : Str} {mo : M D} {b : BSt} : fldX cs f mo b = (mo b).thn fun d => fun b => match d with
  | .xob c fs => if c ∈ cs then (match fs.lookup f with
    | some v => .ok v b
    | none => .fail) else .fail
  | _ => .fail := rfl
@[simp] theorem eqD_bl {x y : Bool} {b : BSt} : eqD (.bl x) (.bl y) b = .ok (.bl (decide (x = y))) b := by
  cases x <;> cases y <;> rfl
@[simp] theorem neD_bl {x y : Bool} {b : BSt} : neD (.bl x) (.bl y) b = .ok (.bl (!decide (x = y))) b := by
  cases x <;> cases y <;> rfl
@[simp] theorem callT_ap {kf : Nat} {m : FnU} {ds : List D} {b : BSt} : callT kf m ds b = (match b.t[kf]? with
  | some (some (.frm none up)) => callF (m up) ds b
  | _ => .fail) := rfl
@[simp] theorem callU_ap {kf : Nat} {N : List Str} {capt : List Nat} {m : FnU} {ds : List D} {b : BSt} : callU kf N capt m ds b = (match b.t[kf]? with
  | some (some (.frm me up)) => callF (m (upsOf N capt b.t me up)) ds b
  | _ => .fail) := rfl
@[simp] theorem lamM_ap {i : Nat} {L : LamT} {kt kf : Nat} {x : Str} {b : BSt} : lamM i L kt kf x b = (match b.g.S kt, b.t[kf]? with
  | some (.tab x' q'), some (some (.frm (some fr) _)) => if x' = x ∧ q' = L.qual then .ok (.lam i L fr) b else .fail
  | _, _ => .fail) := rfl
end L2.VI
/-! VI36: == and != by an own __eq__ that raises nothing. -/
namespace L2.VI
open PySem PySem.Spec PyProof.Rows He

/-- the type of what stands to the right -/
inductive RTy (K : PySem.W.Frag) (H : Hp) : V → Value → Prop
  | non : RTy K H .non (.type "NoneType")
  | bl (b : Bool) : RTy K H (.bl b) (.type "bool")
  | int (i : Int) : RTy K H (.int i) (.type "int")
  | str (x : Str) : RTy K H (.str x) (.type "str")
  | tup {a : Addr} {xs : List V} : SqT K H a xs → RTy K H (.ref a) (.type "tuple")
  | lst {a : Addr} {xs : List V} : H a = some (.lst xs) → RTy K H (.ref a) (.type "list")
  | ins {a C dx : Addr} {vs : List (Str × V)} : H a = some (.ins C dx vs) → RTy K H (.ref a) (.ref C)
/-- what the class at C has for == and != -/
structure EqC (K : PySem.W.Frag) (C f : Addr) : Prop where
  eq : PySem.W.findIn K (.ref C) "__eq__" = some (some (.ref f))
  ne : PySem.W.findIn K (.ref C) "__ne__" = some (some (.builtin "object.__ne__"))
  fn : PySem.W.isFn K (.ref f) = true
  ob : PySem.W.subIn K (.ref C) (.type "object") = some true
  tys : (["NoneType", "bool", "int", "str", "tuple", "list"].all fun n => PySem.W.notFirst K C (.type n)) = true
section
variable {X : Cx} {pins : List (Addr × Obj)} {σ : St} {H : Hp} {s : Shared} {a C f : Addr} {k : Nat} {fd : FuncData} {ps : List Str} {sp : Sp}
theorem RTy.looks {M : Model} {y : V} {tb u : Value} (h : RTy X.K H y tb) (I : Inv X pins σ H s) (r : RelV y u) : PySem.W.Looks M s.heap (typeOf u) tb := by
  cases h with
  | non => cases (show u = Value.none from r); exact PySem.W.Looks.of_pure rfl
  | bl b => cases (show u = Value.bool b from r); exact PySem.W.Looks.of_pure rfl
  | int i =>
    obtain ⟨t, e⟩ := (show ∃ t, u = Value.int i t from r)
    cases e; exact PySem.W.Looks.of_pure rfl
  | str x =>
    obtain ⟨t, e⟩ := (show ∃ t, u = Value.str x t from r)
    cases e; exact PySem.W.Looks.of_pure rfl
  | tup h =>
    cases r
    obtain ⟨its, _, ⟨o, e, hc, _⟩, _⟩ := I.tuple h
    rw [← hc]
    exact (PySem.W.Looks.ld e).andThen .now
  | lst h =>
    cases r
    obtain ⟨z, its, n, _, e⟩ := I.hok _ _ h
    exact (PySem.W.Looks.ld e).andThen .now
  | ins h =>
    cases r
    obtain ⟨mA, J, _⟩ := ins_get I.hok h
    obtain ⟨od, J, _⟩ := J.look
    exact J.type
/-- the def of == is called somewhere below -/
theorem run_eq {A : Around} {x y : V} {v u : Value} {Q : VK} (F : FnOk X.prog X.w X.K X.mg X.base (CV X.prog X.w) k f fd ps sp) (hr : Room k A) (e0 : Env0 X.prog X.w X.K X.mg X.base A X.stack s H) (I : Inv X pins σ H s) (hb : Binds X.K fd ps [])
    (rv : Vals [x, y] [v, u]) (h : sp [x, y] H Q E0) : wpAny (model X.prog X.w) A (call (.ref f) [v, u]) (EP X pins σ Q) X.xe s := by
  have hl := F.len _ _ _ _ h
  refine wpAny_call (codeAny_mono (F.run A X.stack s H ⟨[v, u], []⟩ [v, u] [x, y] _ E0 hr e0 (by
    have := hb s [v, u] I.kIn (by simpa using hl)
    simpa using this) rv h) fun r s' hq => ?_)
  cases r with
  | error e =>
    obtain ⟨x, cls, d, n, H', h1, h2⟩ := hq
    exact False.elim (by simp_all [E0])
  | ok fl =>
    cases fl with
    | ret w => exact I.after hq
    | next => exact False.elim hq
    | brk => exact False.elim hq
    | cont => exact False.elim hq
/-- x == y -/
def rEqU (K : PySem.W.Frag) (C : Addr) (sp : Sp) : R2 := fun x y H Q => ∃ a dx vs tb, x = .ref a ∧ H a = some (.ins C dx vs) ∧ RTy K H y tb ∧ PySem.W.notFirst K C tb = true ∧ sp [x, y] H Q E0
theorem op_eqU (E : EqC X.K C f) (F : FnOk X.prog X.w X.K X.mg X.base (CV X.prog X.w) k f fd ps sp) (hr : Room k X.A) (hb : Binds X.K fd ps []) : OpR X (compareOp .Eq) (rEqU X.K C sp) := by
  intro pins s σ H x y v u Q I rx ry ⟨a, dx, vs, tb, ex, ha, ht, hn, q⟩
  subst ex
  cases rx
  obtain ⟨mA, J, _⟩ := ins_get I.hok ha
  obtain ⟨od, J, _⟩ := J.look
  obtain ⟨m, hF⟩ := I.fr
  show wpAny (model X.prog X.w) X.A (richCompare .Eq (.ref a) u) (EP X pins σ Q) X.xe s
  refine PySem.W.cmp_K (op := .Eq) (tb := tb) hr.units0 hF I.ok.mod.kin J (ht.looks I ry) hn E.eq E.fn ?_
  refine wpAny_mono (run_eq F hr I.env0 I hb (show Vals [V.ref a, y] [Value.ref a, u] from .cons rfl (.cons ry .nil)) q) (fun w s' z => ?_) fun _ _ x => x
  obtain ⟨z', H', I', rz, qz⟩ := z
  exact SlX.cmpback rz ⟨z', H', I', rz, qz⟩
/-- x != y: the other answer -/
theorem tryNe {A : Around} {y : V} {u : Value} {Q : VK} (E : EqC X.K C f) (F : FnOk X.prog X.w X.K X.mg X.base (CV X.prog X.w) k f fd ps sp) (hr : Room (k + 1) A) (hA : A.frames = X.A.frames) (I : Inv X pins σ H s) (hb : Binds X.K fd ps [])
    {dx : Addr} {vs : List (Str × V)} (ha : H a = some (.ins C dx vs)) (ry : RelV y u) (q : sp [.ref a, y] H (fun w H' => ∃ r, w = .bl r ∧ Q (.bl (!r)) H') E0) :
    wpAny (model X.prog X.w) A (tryCompare (.ref a) "__ne__" u) (fun r s' => ∃ v, r = some v ∧ EP X pins σ Q v s') X.xe s := by
  obtain ⟨mA, J, _⟩ := ins_get I.hok ha
  obtain ⟨od, J, _⟩ := J.look
  have e0 : Env0 X.prog X.w X.K X.mg X.base A.in1 X.stack s H := by
    have e := I.env0.in1
    exact ⟨by show A.in1.frames = _; exact hA.trans e.frames, e.mod, e.bs, e.bsz, e.funs, e.frf, e.hok, e.bare⟩
  -- what the built-in answers
  have body : wpAny (model X.prog X.w) A (call (.builtin "object.__ne__") [.ref a, u]) (fun v s' => ∃ r, v = .bool r ∧ EP X pins σ Q (.bool r) s') X.xe s := by
    refine wpAny_call (codeAny_call_builtin PySem.F.cmp_object.ne.plain PySem.F.cmpEntry_ne (PySem.W.check_slot PySem.F.cmpKind_ne PySem.F.cmpSplit_ne (J.type.andThen (PySem.W.looks_subIn I.kIn E.ob)) (PySem.F.cmpArgs_ne _ _) ?_))
    unfold Builtin.«object.__ne__»
    repeat (first
      | with_reducible refine wpAny_cRoomFor hr.in1.units0 ?_
      | (refine wpAny_bind (m := callSpecialIfBound? (.ref a) (Str.ofString "__eq__") [u])
          (PySem.W.ifBound_K I.kIn J E.eq E.fn (wpAny_mono (run_eq F hr.in1 e0 I hb (show Vals [V.ref a, y] [Value.ref a, u] from .cons rfl (.cons ry .nil)) q) (fun w s' z => ?_) fun _ _ x => x)))
      | wp_step)
    obtain ⟨z', H', I', rz, r, ez, qz⟩ := z
    subst ez
    cases (show w = Value.bool r from rz)
    repeat (first | (refine wpAny_bind (m := truthy (.bool _)) (wpAny_truthy_bool ?_)) | wp_step)
    exact ⟨_, rfl, .bl (!r), H', I', rfl, qz⟩
  unfold tryCompare
  refine wpAny_bind ?_
  simp only [callSpecialIfBound?, bindSpecialIfBound?]
  refine wpAny_holding (wpAny_bind (wpAny_bind (wpAny_bind (J.type.here ((PySem.W.looks_findIn I.kIn E.ne).here ?_)))))
  have fin : wpAny (model X.prog X.w) A (call (.builtin "object.__ne__") ([.ref a] ++ [u]) >>= fun v => pure (some v)) (fun r s' => ∃ b, r = some (.bool b) ∧ EP X pins σ Q (.bool b) s') X.xe s := wpAny_bind (wpAny_mono body (fun v s' ⟨r, e, h⟩ => wpAny_pure ⟨r, by rw [e], h⟩) fun _ _ h' => h')
  have fin2 : wpAny (model X.prog X.w) A (call (.builtin "object.__ne__") ([.ref a] ++ [u]) >>= fun v => pure (some v)) (fun r s' => wpAny (model X.prog X.w) A (match r with | some .notImplemented => pure none | none => pure none | some v => pure (some v)) (fun r s' => ∃ v, r = some v ∧ EP X pins σ Q v s') X.xe s') X.xe s :=
    wpAny_mono fin (fun r s' ⟨b, e, h⟩ => by subst e; exact wpAny_pure ⟨_, rfl, h⟩) fun _ _ x => x
  refine wpAny_bind (wpAny_askSetting (wpAny_ite ?_))
  simp only [PySem.F.cmp_object.ne.bind]
  split
  · exact wpAny_bind (wpAny_pure (wpAny_pure fin2))
  · exact wpAny_tryCatch (wpAny_bind (wpAny_pure (wpAny_pure fin2)))
/-- x != y -/
def rNeU (K : PySem.W.Frag) (C : Addr) (sp : Sp) : R2 := fun x y H Q => ∃ a dx vs tb, x = .ref a ∧ H a = some (.ins C dx vs) ∧ RTy K H y tb ∧ PySem.W.notFirst K C tb = true ∧ sp [x, y] H (fun w H' => ∃ r, w = .bl r ∧ Q (.bl (!r)) H') E0
theorem op_neU (E : EqC X.K C f) (F : FnOk X.prog X.w X.K X.mg X.base (CV X.prog X.w) k f fd ps sp) (hr : Room (k + 1) X.A) (hb : Binds X.K fd ps []) : OpR X (compareOp .NotEq) (rNeU X.K C sp) := by
  intro pins s σ H x y v u Q I rx ry ⟨a, dx, vs, tb, ex, ha, ht, hn, q⟩
  subst ex
  cases rx
  obtain ⟨mA, J, _⟩ := ins_get I.hok ha
  obtain ⟨od, J, _⟩ := J.look
  show wpAny (model X.prog X.w) X.A (richCompare .NotEq (.ref a) u) (EP X pins σ Q) X.xe s
  have one := tryNe E F hr rfl I hb ha ry q
  unfold richCompare
  simp only [oneThing_ref]
  refine wpAny_holding (wpAny_bind (wpAny_cRoomFor hr.units0 ?_))
  rw [PySem.cmpInfo_NotEq]
  dsimp only
  refine wpAny_bind (J.type.here (wpAny_bind ((ht.looks I ry).here ?_)))
  split
  · rename_i q'
    have e : PySem.W.subIn X.K tb (.ref C) = some false := by
      rcases Bool.or_eq_true_iff.mp hn with e | e
      · rw [beq_iff_eq.mp e] at q'; simp at q'
      · exact beq_iff_eq.mp e
    refine wpAny_bind ((PySem.W.looks_subIn I.kIn e).here ?_)
    simp only [Bool.false_eq_true, if_false]
    refine wpAny_bind (wpAny_mono one (fun r s' z => ?_) fun _ _ e => e)
    obtain ⟨v, rfl, hq⟩ := z
    exact wpAny_pure hq
  · refine wpAny_bind (wpAny_pure ?_)
    simp only [Bool.false_eq_true, if_false]
    refine wpAny_bind (wpAny_mono one (fun r s' z => ?_) fun _ _ e => e)
    obtain ⟨v, rfl, hq⟩ := z
    exact wpAny_pure hq
end
/-! ### over deep data -/
/-- what may stand to the right: flat values, tuples, lists, instances of the classes cs -/
def eqRt (cs : List Str) (g : GSt) : D → Bool
  | .non => true
  | .bl _ => true
  | .int _ => true
  | .str _ => true
  | .tup _ => true
  | .lst _ => true
  | .ptr k => (match g.S k with
    | some (.ins c _) => cs.contains c
    | _ => false)
  | _ => false
def eqUD (c : Str) (cs : List Str) (m : FnD) (a b : D) : M D := fun st => if isIns c a st.g = true ∧ eqRt cs st.g b = true then callN m [a, b] st else .fail
def neUD (c : Str) (cs : List Str) (m : FnD) (a b : D) : M D := M.bind (eqUD c cs m a b) fun d => match d with
  | .bl r => M.ret (.bl (!r))
  | _ => M.fail
section
variable {X : Cx} {W : WX} {c : Str} {cs : List Str} {f : Addr} {k : Nat} {fd : FuncData} {ps : List Str} {m : FnD}
theorem rty_of {F : Hp} {P0 : PX (fcOf X)} {Mm H : Hp} {ρ : Rho} {bs : BSt} {σ : St} {y : V} {d : D} (E : EqC X.K (ga X.K c) f) (hcs : ∀ c' ∈ cs, PySem.W.notFirst X.K (ga X.K c) (.ref (ga X.K c')) = true) (B : BRel X.K F P0 Mm ρ bs σ H) (r : Rep X.K F ρ y d) (h : eqRt cs bs.g d = true) :
    ∃ tb, RTy X.K H y tb ∧ PySem.W.notFirst X.K (ga X.K c) tb = true := by
  have T : ∀ n ∈ ["NoneType", "bool", "int", "str", "tuple", "list"], PySem.W.notFirst X.K (ga X.K c) (.type n) = true := List.all_eq_true.mp E.tys
  obtain ⟨P, q, BB⟩ := id B
  cases r with
  | non => exact ⟨_, .non, T _ (by simp)⟩
  | bl b => exact ⟨_, .bl _, T _ (by simp)⟩
  | int i => exact ⟨_, .int _, T _ (by simp)⟩
  | str x => exact ⟨_, .str _, T _ (by simp)⟩
  | tup h1 h2 =>
    rename_i p vs ds
    have ht : SqT X.K H p vs := by
      rcases h1 with h1 | h1
      · have q := BB.h.fh _ _ h1
        exact .inl (.inl (by simpa [isDict] using q))
      · rcases h1 with (h1 | ⟨o, h1⟩) | h1
        · cases h1
        · cases h1
        · exact .inr h1
    exact ⟨_, .tup ht, T "tuple" (by simp)⟩
  | lst h1 h2 =>
    have q := BB.h.fh _ _ h1
    exact ⟨_, .lst (by simpa [isDict] using q), T "list" (by simp)⟩
  | ptr hk =>
    rename_i a kk
    unfold eqRt at h
    dsimp only at h
    split at h
    · rename_i c' fs e
      obtain ⟨a', dx, vs, h1, h2, h3, h4, h5, h6⟩ := BB.h.insAt e
      rw [hk] at h1; cases h1
      exact ⟨_, .ins h4, hcs _ (by simpa using h)⟩
    · cases h
  | _ => cases h
theorem ov_eqU (E : EqC X.K (ga X.K c) f) (hcs : ∀ c' ∈ cs, PySem.W.notFirst X.K (ga X.K c) (.ref (ga X.K c')) = true) (F : FnOk X.prog X.w X.K X.mg X.base (CV X.prog X.w) k f fd ps (spV X.K 2 m)) (ar : Ar m 2) (hr : Room k X.A) (hb : Binds X.K fd ps []) :
    OpV X W (compareOp .Eq) (eqUD c cs m) := by
  intro x y a b σ H Fz P0 Mm ρ bs Q B rx ry h
  refine ⟨_, op_eqU E F hr hb, ?_⟩
  unfold eqUD at h
  split at h
  · rename_i hc
    obtain ⟨kk, p, dx, vs, fs, rfl, rfl, hS, hk, _, _, hH, h5, h6⟩ := isIns_at B rx hc.1
    obtain ⟨tb, ht, hn⟩ := rty_of E hcs B ry hc.2
    exact ⟨p, dx, vs, tb, rfl, hH, ht, hn, sp_ofN ar B (.cons rx (.cons ry .nil)) h⟩
  · exact h.elim
theorem ov_neU (E : EqC X.K (ga X.K c) f) (hcs : ∀ c' ∈ cs, PySem.W.notFirst X.K (ga X.K c) (.ref (ga X.K c')) = true) (F : FnOk X.prog X.w X.K X.mg X.base (CV X.prog X.w) k f fd ps (spV X.K 2 m)) (ar : Ar m 2) (hr : Room (k + 1) X.A) (hb : Binds X.K fd ps []) :
    OpV X W (compareOp .NotEq) (neUD c cs m) := by
  intro x y a b σ H Fz P0 Mm ρ bs Q B rx ry h
  refine ⟨_, op_neU E F hr hb, ?_⟩
  unfold neUD M.bind eqUD at h
  split at h
  · rename_i d b' hd
    split at hd
    · rename_i hc
      obtain ⟨kk, p, dx, vs, fs, rfl, rfl, hS, hk, _, _, hH, h5, h6⟩ := isIns_at B rx hc.1
      obtain ⟨tb, ht, hn⟩ := rty_of E hcs B ry hc.2
      refine ⟨p, dx, vs, tb, rfl, hH, ht, hn, sp_ofN (W := W) ar B (.cons rx (.cons ry .nil)) ?_⟩
      rw [hd]
      intro w F' M' ρ' H' l r B' rw'
      cases rw' with
      | bl r0 => exact ⟨r0, rfl, h _ _ _ _ _ l r B' (.bl _)⟩
      | _ => exact h.elim
    · cases hd
  · rename_i x' b' hd
    split at hd
    · unfold callN at hd
      split at hd <;> cases hd
    · cases hd
  · exact h.elim
end
end L2.VI
/-! VI37: zip of any number of lists and tuples, at the library's level. -/
namespace L2.VI.ZN
open PySem RZ

/-- one of what is zipped: a list or a tuple at l, its iterator at i -/
structure Src where
  tup : Bool
  i : Nat
  l : Nat
def Src.At (S : Src) (h : Heap) (k : Nat) : Prop := match S.tup with
  | true => h.IsTupleIter S.i S.l k
  | false => h.IsListIter S.i S.l k
def Src.Has (S : Src) (h : Heap) (xs : Array Value) : Prop := match S.tup with
  | true => h.IsTuple S.l xs
  | false => h.IsList S.l xs
theorem Src.At.to {S : Src} {h h' : Heap} {k : Nat} (x : S.At h k) (q : ∀ o, h.get? S.i = some o → h'.get? S.i = some o) : S.At h' k := by
  obtain ⟨t, i, l⟩ := S
  cases t <;> exact let ⟨o, e, r⟩ := x; ⟨o, q o e, r⟩
theorem Src.Has.to {S : Src} {h h' : Heap} {xs : Array Value} (x : S.Has h xs) (q : ∀ o, h.get? S.l = some o → h'.get? S.l = some o) : S.Has h' xs := by
  obtain ⟨t, i, l⟩ := S
  cases t <;> exact let ⟨o, e, r⟩ := x; ⟨o, q o e, r⟩
theorem Src.At.lt {S : Src} {h : Heap} {k : Nat} (x : S.At h k) : S.i < h.objs.size := by
  obtain ⟨t, i, l⟩ := S
  cases t <;> exact let ⟨o, e, r⟩ := x; Heap.lt_size e
theorem Src.Has.lt {S : Src} {h : Heap} {xs : Array Value} (x : S.Has h xs) : S.l < h.objs.size := by
  obtain ⟨t, i, l⟩ := S
  cases t <;> exact let ⟨o, e, r⟩ := x; Heap.lt_size e
abbrev IsTA (h : Heap) (T : Addr) (vs : List Value) : Prop := h.get? T = some { cls := .type "tuple", data := .seq vs.toArray }
/-- all that changes is at a place of p -/
def Kp (p : Addr → Prop) (h h' : Heap) : Prop := ∀ c o, ¬ p c → h.get? c = some o → h'.get? c = some o
section
variable {prog : Program} {w : World} {A : Around} {E : Value → Shared → Prop} {s : Shared}
theorem next_item {S : Src} {k : Nat} {items} {x : Value} {Q : Value → Shared → Prop} (hit : S.At s.heap k) (hl : S.Has s.heap items) (hx : items[k]? = some x)
    (hQ : ∀ h', S.At h' (k + 1) → Heap.SameBut S.i s.heap h' → Q x { s with heap := h' }) : wpAny (model prog w) A (Builtin.SmallTypes.nextOf (.ref S.i)) Q E s := by
  obtain ⟨t, i, l⟩ := S
  cases t
  · exact wpAny_nextOf_list_item hit hl hx hQ
  · exact nextOf_tuple_item hit hl hx hQ
theorem next_end {S : Src} {k : Nat} {items} {Q : Value → Shared → Prop} (hh : A.handled = none) (hit : S.At s.heap k) (hl : S.Has s.heap items) (hx : items[k]? = none)
    (hE : ∀ h' e, Heap.ExtBut S.i s.heap h' → (∃ o, h'.get? e = some o ∧ o.cls = .type "StopIteration") → E (.ref e) { s with heap := h' }) : wpAny (model prog w) A (Builtin.SmallTypes.nextOf (.ref S.i)) Q E s := by
  obtain ⟨t, i, l⟩ := S
  cases t
  · exact wpAny_nextOf_list_end hh hit hl hx hE
  · exact nextOf_tuple_end hh hit hl hx hE
theorem updTA {T : Addr} {vs : List Value} {x : Value} {k : Nat} {Q : Unit → Shared → Prop} (hT : IsTA s.heap T vs) (hv : vs.length ≤ sizeLine)
    (h : ∀ h', IsTA h' T (vs.set k x) → Heap.SameBut T s.heap h' → Q () { s with heap := h' }) : wpAny (model prog w) A (updateSeq T (·.setIfInBounds k x)) Q E s := by
  refine wpAny_updateSeq hT rfl (f := (·.setIfInBounds k x)) (hz := by simpa using hv) (_hz' := by simp; omega) (h _ ?_ (Heap.SameBut.update ..))
  show (Heap.get? _ _) = _
  rw [Heap.get?_update_self _ hT rfl]
  simp [Obj.mapSeq]

structure Apart (z TI TO : Addr) (all : List Src) : Prop where
  TIz : TI ≠ z
  TOz : TO ≠ z
  TITO : TI ≠ TO
  iz : ∀ S ∈ all, S.i ≠ z ∧ S.i ≠ TI ∧ S.i ≠ TO ∧ S.l ≠ z ∧ S.l ≠ TO
  il : ∀ S ∈ all, ∀ S' ∈ all, S.l ≠ S'.i
  nd : (all.map (·.i)).Nodup
  ne : all ≠ []
/-- the loop over the iterators, each gives an item -/
theorem loop_items {σ : Type} {z TI TO : Addr} {all : List Src} {k n : Nat} (D : Apart z TI TO all) (body : Value × Nat → σ → Sem (ForInStep σ)) (init : σ)
    (hstep : ∀ (S : Src) (x : Value) (items : Array Value) (pre : List Value) (o : Value) (os : List Value) (s : Shared) (Q : ForInStep σ → Shared → Prop), S ∈ all → (pre ++ o :: os).length = n → IsTA s.heap TO (pre ++ o :: os) → S.At s.heap k → S.Has s.heap items → items[k]? = some x →
      (∀ h', S.At h' (k + 1) → IsTA h' TO (pre ++ x :: os) → Kp (fun c => c = TO ∨ c = S.i) s.heap h' → h'.objs.size = s.heap.objs.size → Q (.yield init) { s with heap := h' }) → wpAny (model prog w) A (body (.ref S.i, pre.length) init) Q E s) :
    ∀ (rest : List (Src × Value)) (pre olds : List Value) (s : Shared) (Q : σ → Shared → Prop), (∀ p ∈ rest, p.1 ∈ all) → (rest.map (·.1.i)).Nodup → (pre ++ olds).length = n → IsTA s.heap TO (pre ++ olds) → olds.length = rest.length →
      (∀ p ∈ rest, p.1.At s.heap k ∧ ∃ items, p.1.Has s.heap items ∧ items[k]? = some p.2) →
      (∀ h', (∀ p ∈ rest, p.1.At h' (k + 1)) → IsTA h' TO (pre ++ rest.map (·.2)) → Kp (fun c => c = TO ∨ ∃ p ∈ rest, c = p.1.i) s.heap h' → h'.objs.size = s.heap.objs.size → Q init { s with heap := h' }) →
      wpAny (model prog w) A (forIn ((rest.map fun p => Value.ref p.1.i).zipIdx pre.length) init body) Q E s := by
  intro rest
  induction rest with
  | nil =>
    intro pre olds s Q _ _ hn hT hl _ hQ
    have : olds = [] := List.length_eq_zero_iff.mp hl
    subst this
    exact wpAny_pure (hQ s.heap (fun p hp => nomatch hp) hT (fun c o _ e => e) rfl)
  | cons p rest ih =>
    intro pre olds s Q hall hnd hn hT hl hat hQ
    obtain ⟨S, x⟩ := p
    cases olds with
    | nil => cases hl
    | cons o os =>
      have hS : S ∈ all := hall _ (.head _)
      obtain ⟨ha, items, hh, hx⟩ := hat _ (.head _)
      rw [List.map_cons, List.zipIdx_cons, List.forIn_cons]
      refine wpAny_bind (hstep S x items pre o os s _ hS hn hT ha hh hx fun h' ha' hT' hk hz => ?_)
      have hall' : ∀ q ∈ rest, q.1 ∈ all := fun q hq => hall q (.tail _ hq)
      have hne : ∀ q ∈ rest, q.1.i ≠ S.i := fun q hq e => by
        rw [List.map_cons, List.nodup_cons] at hnd
        exact hnd.1 (List.mem_map.mpr ⟨q, hq, e⟩)
      have hT2 : IsTA h' TO ((pre ++ [x]) ++ os) := by rw [List.append_assoc]; exact hT'
      have := ih (pre ++ [x]) os { s with heap := h' } Q hall' (by rw [List.map_cons, List.nodup_cons] at hnd; exact hnd.2) (by rw [List.append_assoc]; simpa using hn) hT2 (by simpa using hl) (fun q hq => ?_) (fun h2 b1 b2 b3 b4 => ?_)
      · rw [List.length_append] at this
        exact this
      · obtain ⟨qa, its, qh, qx⟩ := hat q (.tail _ hq)
        have dz := D.iz _ (hall' q hq)
        refine ⟨qa.to fun o e => hk _ o (fun z => z.elim dz.2.2.1 (hne q hq)) e, its, qh.to fun o e => hk _ o (fun z => z.elim dz.2.2.2.2 (D.il _ (hall' q hq) _ hS)) e, qx⟩
      · refine hQ h2 (fun q hq => ?_) (by simpa using b2) (fun c o hc e => b3 c o (fun z => hc ?_) (hk c o (fun z => hc ?_) e)) (b4.trans hz)
        · rcases List.mem_cons.mp hq with rfl | hq
          · exact ha'.to fun o e => b3 _ o (fun z => z.elim (D.iz _ hS).2.2.1 fun ⟨q, hq, e⟩ => hne q hq e.symm) e
          · exact b1 q hq
        · exact z.imp id fun ⟨q, hq, e⟩ => ⟨q, .tail _ hq, e⟩
        · exact z.imp id fun e => ⟨_, .head _, e⟩
/-- .. until one has ended -/
theorem loop_end {σ : Type} {z TI TO : Addr} {all : List Src} {k n : Nat} (D : Apart z TI TO all) (body : Value × Nat → σ → Sem (ForInStep σ)) (init : σ)
    (hstep : ∀ (S : Src) (x : Value) (items : Array Value) (pre : List Value) (o : Value) (os : List Value) (s : Shared) (Q : ForInStep σ → Shared → Prop), S ∈ all → (pre ++ o :: os).length = n → IsTA s.heap TO (pre ++ o :: os) → S.At s.heap k → S.Has s.heap items → items[k]? = some x →
      (∀ h', S.At h' (k + 1) → IsTA h' TO (pre ++ x :: os) → Kp (fun c => c = TO ∨ c = S.i) s.heap h' → h'.objs.size = s.heap.objs.size → Q (.yield init) { s with heap := h' }) → wpAny (model prog w) A (body (.ref S.i, pre.length) init) Q E s)
    {f0 : Value} (hend : ∀ (S : Src) (items : Array Value) (j : Nat) (s : Shared) (Q : ForInStep σ → Shared → Prop), S ∈ all → IsZip s.heap z TI TO f0 → S.At s.heap k → S.Has s.heap items → items[k]? = none →
      (∀ h' e, Kp (fun c => c = z ∨ c = S.i) s.heap h' → (∃ o, h'.get? e = some o ∧ o.cls = .type "StopIteration") → E (.ref e) { s with heap := h' }) → wpAny (model prog w) A (body (.ref S.i, j) init) Q E s) :
    ∀ (rest : List Src) (pre olds : List Value) (s : Shared) (Q : σ → Shared → Prop), (∀ p ∈ rest, p ∈ all) → (rest.map (·.i)).Nodup → IsZip s.heap z TI TO f0 → (pre ++ olds).length = n → IsTA s.heap TO (pre ++ olds) → olds.length = rest.length →
      (∀ p ∈ rest, p.At s.heap k ∧ ∃ items, p.Has s.heap items) → (∃ p ∈ rest, ∃ items, p.Has s.heap items ∧ items[k]? = none) →
      (∀ h' e, Kp (fun c => c = z ∨ c = TO ∨ ∃ p ∈ rest, c = p.i) s.heap h' → (∃ o, h'.get? e = some o ∧ o.cls = .type "StopIteration") → E (.ref e) { s with heap := h' }) →
      wpAny (model prog w) A (forIn ((rest.map fun p => Value.ref p.i).zipIdx pre.length) init body) Q E s := by
  intro rest
  induction rest with
  | nil => intro pre olds s Q _ _ _ _ _ _ _ ⟨p, hp, _⟩; exact nomatch hp
  | cons S rest ih =>
    intro pre olds s Q hall hnd hz hn hT hl hat hen hE
    cases olds with
    | nil => cases hl
    | cons o os =>
      have hS : S ∈ all := hall _ (.head _)
      obtain ⟨ha, items, hh⟩ := hat _ (.head _)
      rw [List.map_cons, List.zipIdx_cons, List.forIn_cons]
      cases hx : items[k]? with
      | none => exact wpAny_bind (hend S items pre.length s _ hS hz ha hh hx fun h' e hk he => hE h' e (fun c o hc => hk c o fun z => hc (z.elim .inl fun e => .inr (.inr ⟨_, .head _, e⟩))) he)
      | some x =>
        refine wpAny_bind (hstep S x items pre o os s _ hS hn hT ha hh hx fun h' ha' hT' hk hz' => ?_)
        have hall' : ∀ q ∈ rest, q ∈ all := fun q hq => hall q (.tail _ hq)
        have hne : ∀ q ∈ rest, q.i ≠ S.i := fun q hq e => by
          rw [List.map_cons, List.nodup_cons] at hnd
          exact hnd.1 (List.mem_map.mpr ⟨q, hq, e⟩)
        have hT2 : IsTA h' TO ((pre ++ [x]) ++ os) := by rw [List.append_assoc]; exact hT'
        have hh' : ∀ q ∈ rest, ∀ its, q.Has s.heap its → q.Has h' its := fun q hq its qh => qh.to fun o e => hk _ o (fun z => z.elim (D.iz _ (hall' q hq)).2.2.2.2 (D.il _ (hall' q hq) _ hS)) e
        have := ih (pre ++ [x]) os { s with heap := h' } Q hall' (by rw [List.map_cons, List.nodup_cons] at hnd; exact hnd.2) (hk _ _ (fun q => q.elim D.TOz.symm (D.iz _ hS).1.symm) hz) (by rw [List.append_assoc]; simpa using hn) hT2 (by simpa using hl) (fun q hq => ?_) ?_ (fun h2 e b1 b2 => ?_)
        · rw [List.length_append] at this
          exact this
        · obtain ⟨qa, its, qh⟩ := hat q (.tail _ hq)
          exact ⟨qa.to fun o e => hk _ o (fun z => z.elim (D.iz _ (hall' q hq)).2.2.1 (hne q hq)) e, its, hh' q hq its qh⟩
        · obtain ⟨p, hp, its, ph, pn⟩ := hen
          rcases List.mem_cons.mp hp with rfl | hp
          · exfalso
            obtain ⟨t, i, l⟩ := p
            cases t
            · obtain ⟨o1, e1, _, n1, d1⟩ := hh
              obtain ⟨o2, e2, _, n2, d2⟩ := ph
              rw [e1] at e2; cases e2; rw [d1] at d2; cases d2; rw [hx] at pn; cases pn
            · obtain ⟨o1, e1, _, n1, d1⟩ := hh
              obtain ⟨o2, e2, _, n2, d2⟩ := ph
              rw [e1] at e2; cases e2; rw [d1] at d2; cases d2; rw [hx] at pn; cases pn
          · exact ⟨p, hp, its, hh' p hp its ph, pn⟩
        · refine hE h2 e (fun c o hc e => b1 c o (fun z => hc ?_) (hk c o (fun z => hc ?_) e)) b2
          · exact z.imp id fun z => z.imp id fun ⟨q, hq, e⟩ => ⟨q, .tail _ hq, e⟩
          · exact .inr (z.imp id fun e => ⟨_, .head _, e⟩)
end
end L2.VI.ZN
/-! VI38: zip.__next__ of any number. -/
namespace L2.VI.ZN
open PySem RZ
section
variable {prog : Program} {w : World} {A : Around} {E : Value → Shared → Prop} {s : Shared}
theorem zipN_item {z TI TO : Addr} {k : Nat} {rest : List (Src × Value)} {olds : List Value} {Q : Value → Shared → Prop} (D : Apart z TI TO (rest.map (·.1))) (hz : IsZip s.heap z TI TO .none) (hTI : IsTA s.heap TI (rest.map fun p => .ref p.1.i)) (hTO : IsTA s.heap TO olds)
    (hl : olds.length = rest.length) (hs : rest.length ≤ sizeLine) (hat : ∀ p ∈ rest, p.1.At s.heap k ∧ ∃ items, p.1.Has s.heap items ∧ items[k]? = some p.2)
    (hQ : ∀ h', IsZip h' z TI TO (rawInt s.heap.objs.size) → IsTA h' TO (rest.map (·.2)) → (∀ p ∈ rest, p.1.At h' (k + 1)) → IsTA h' s.heap.objs.size (rest.map (·.2)) → h'.objs.size = s.heap.objs.size + 1 →
      Kp (fun c => c = z ∨ c = TO ∨ ∃ p ∈ rest, c = p.1.i) s.heap h' → Q (.ref s.heap.objs.size) { s with heap := h' }) :
    wpAny (model prog w) A (Builtin.«zip.__next__» ⟨[.ref z], []⟩) (fun fin s' => ∃ v, fin = .done (.ret v) ∧ Q v s') E s := by
  have hne : rest ≠ [] := fun e => D.ne (by rw [e]; rfl)
  show wpAny _ _ (field (.ref z) 2 >>= _) _ _ _
  refine wpAny_bind (wpAny_field hz rfl (x := .bool false) rfl ?_)
  show wpAny _ _ (field (.ref z) 3 >>= _) _ _ _
  refine wpAny_bind (wpAny_field hz rfl (x := .ref TI) rfl ?_)
  refine wpAny_bind (wpAny_seqItems hTI rfl ?_)
  dsimp only
  rw [if_neg (show ¬ ((rest.map fun p => Value.ref p.1.i).toArray.isEmpty = true) from by simpa using hne)]
  show wpAny _ _ (Builtin.SmallTypes.ownedTupleIsFree (.ref z) >>= _) _ _ _
  refine wpAny_bind ?_
  unfold Builtin.SmallTypes.ownedTupleIsFree
  refine wpAny_bind (wpAny_field hz rfl (x := .none) rfl (wpAny_pure ?_))
  simp only [if_true]
  refine wpAny_bind (wpAny_rule ?_)
  refine wpAny_bind (wpAny_field hz rfl (x := .ref TO) rfl ?_)
  refine wpAny_bind (wpAny_setField_rec hz (by simp) fun h₁ hz₁ hs₁ => ?_)
  replace hz₁ : IsZip h₁ z TI TO .ellipsis := hz₁
  have D1 : ∀ p ∈ rest, p.1.i ≠ z ∧ p.1.i ≠ TI ∧ p.1.i ≠ TO ∧ p.1.l ≠ z ∧ p.1.l ≠ TO := fun p hp => D.iz _ (List.mem_map.mpr ⟨p, hp, rfl⟩)
  have hnd : (rest.map (·.1.i)).Nodup := by have := D.nd; rwa [List.map_map] at this
  have k1 : Kp (fun c => c = z) s.heap h₁ := fun c o hc e => hs₁.extBut _ _ hc e
  refine wpAny_bind ?_
  refine loop_items (prog := prog) (w := w) (A := A) (E := E) (k := k) D _ _ ?step rest [] olds { s with heap := h₁ } _ (fun p hp => List.mem_map.mpr ⟨p, hp, rfl⟩) hnd rfl (k1 _ _ D.TOz hTO) hl (fun p hp => ?_) fun h₅ b1 b2 b3 b4 => ?_
  case step =>
    intro S x items pre o os s2 Q2 hS hn hT ha hh hx q
    have dS := D.iz S hS
    refine wpAny_bind (wpAny_onRaise ?_)
    show wpAny _ _ (Builtin.SmallTypes.nextOf (.ref S.i) >>= _) _ _ _
    refine wpAny_bind (next_item ha hh hx fun h₂ ha₂ hs₂ => wpAny_pure ?_)
    have hT₂ : IsTA h₂ TO (pre ++ o :: os) := hs₂.extBut _ _ dS.2.2.1.symm hT
    refine wpAny_bind (wpAny_seqItems hT₂ rfl ?_)
    refine wpAny_bind (updTA hT₂ ?_ fun h₃ hT₃ hs₃ => ?_)
    · rw [hn]; show olds.length ≤ _; omega
    refine wpAny_bind (wpAny_letGo (wpAny_pure ?_))
    refine q h₃ (ha₂.to fun o e => hs₃.extBut _ _ dS.2.2.1 e) (by simpa using hT₃) (fun c o hc e => hs₃.extBut _ _ (fun z => hc (.inl z)) (hs₂.extBut _ _ (fun z => hc (.inr z)) e)) (hs₃.1.trans hs₂.1)
  · obtain ⟨pa, items, ph, px⟩ := hat p hp
    exact ⟨pa.to fun o e => k1 _ o (D1 p hp).1 e, items, ph.to fun o e => k1 _ o (D1 p hp).2.2.2.1 e, px⟩
  have b2 : IsTA h₅ TO (rest.map (·.2)) := b2
  refine wpAny_bind (wpAny_seqItems b2 rfl ?_)
  refine wpAny_bind (wpAny_newTuple ?_ (by simpa using hs))
  have hsz : h₅.objs.size = s.heap.objs.size := b4.trans hs₁.1
  have hz₅ : IsZip h₅ z TI TO .ellipsis := b3 _ _ (fun q => q.elim D.TOz.symm fun ⟨p, hp, e⟩ => (D1 p hp).1 e.symm) hz₁
  have hzlt : z < h₅.objs.size := Heap.lt_size hz₅
  show wpAny _ _ (Builtin.SmallTypes.ownedTupleHandOut (.ref z) (.ref h₅.objs.size) >>= _) _ _ _
  refine wpAny_bind ?_
  unfold Builtin.SmallTypes.ownedTupleHandOut
  have hz₆ : IsZip (h₅.push { cls := .type "tuple", data := .seq (rest.map (·.2)).toArray }) z TI TO .ellipsis := Heap.get?_push_of_some _ hz₅
  refine wpAny_bind (wpAny_setField_rec hz₆ (by simp) fun h₇ hz₇ hs₇ => ?_)
  replace hz₇ : IsZip h₇ z TI TO (rawInt h₅.objs.size) := hz₇
  refine wpAny_setField_rec hz₇ (by simp) fun h₈ hz₈ hs₈ => ?_
  replace hz₈ : IsZip h₈ z TI TO (rawInt h₅.objs.size) := hz₈
  have up : ∀ c o, c ≠ z → h₅.get? c = some o → h₈.get? c = some o := fun c o c1 e => hs₈.extBut _ _ c1 (hs₇.extBut _ _ c1 (Heap.get?_push_of_some _ e))
  have hT₈ : IsTA h₈ h₅.objs.size (rest.map (·.2)) := hs₈.extBut _ _ (Nat.ne_of_gt hzlt) (hs₇.extBut _ _ (Nat.ne_of_gt hzlt) (Heap.get?_push_size _ rfl))
  have hz8 : h₈.objs.size = h₅.objs.size + 1 := by rw [hs₈.1, hs₇.1, Heap.size_push]
  rw [hsz] at hz₈ hT₈ hz8
  refine wpAny_pure ⟨_, rfl, ?_⟩
  show Q (.ref h₅.objs.size) _
  rw [hsz]
  exact hQ h₈ hz₈ (up _ _ D.TOz b2) (fun p hp => (b1 p hp).to fun o e => up _ o (D1 p hp).1 e) hT₈ hz8 fun c o hc e => up c o (fun z => hc (.inl z)) (b3 c o (fun z => hc (.inr z)) (k1 c o (fun z => hc (.inl z)) e))
theorem zipN_end {z TI TO : Addr} {k : Nat} {all : List Src} {olds : List Value} {Q : Fin → Shared → Prop} (hA : A.handled = none) (D : Apart z TI TO all) (hz : IsZip s.heap z TI TO .none) (hTI : IsTA s.heap TI (all.map fun p => .ref p.i)) (hTO : IsTA s.heap TO olds)
    (hl : olds.length = all.length) (hs : all.length ≤ sizeLine) (hat : ∀ p ∈ all, p.At s.heap k ∧ ∃ items, p.Has s.heap items) (hen : ∃ p ∈ all, ∃ items, p.Has s.heap items ∧ items[k]? = none)
    (hE : ∀ h' e, Kp (fun c => c = z ∨ c = TO ∨ ∃ p ∈ all, c = p.i) s.heap h' → (∃ o, h'.get? e = some o ∧ o.cls = .type "StopIteration") → E (.ref e) { s with heap := h' }) :
    wpAny (model prog w) A (Builtin.«zip.__next__» ⟨[.ref z], []⟩) Q E s := by
  have hne : all ≠ [] := D.ne
  show wpAny _ _ (field (.ref z) 2 >>= _) _ _ _
  refine wpAny_bind (wpAny_field hz rfl (x := .bool false) rfl ?_)
  show wpAny _ _ (field (.ref z) 3 >>= _) _ _ _
  refine wpAny_bind (wpAny_field hz rfl (x := .ref TI) rfl ?_)
  refine wpAny_bind (wpAny_seqItems hTI rfl ?_)
  dsimp only
  rw [if_neg (show ¬ ((all.map fun p => Value.ref p.i).toArray.isEmpty = true) from by simpa using hne)]
  show wpAny _ _ (Builtin.SmallTypes.ownedTupleIsFree (.ref z) >>= _) _ _ _
  refine wpAny_bind ?_
  unfold Builtin.SmallTypes.ownedTupleIsFree
  refine wpAny_bind (wpAny_field hz rfl (x := .none) rfl (wpAny_pure ?_))
  simp only [if_true]
  refine wpAny_bind (wpAny_rule ?_)
  refine wpAny_bind (wpAny_field hz rfl (x := .ref TO) rfl ?_)
  refine wpAny_bind (wpAny_setField_rec hz (by simp) fun h₁ hz₁ hs₁ => ?_)
  replace hz₁ : IsZip h₁ z TI TO .ellipsis := hz₁
  have k1 : Kp (fun c => c = z) s.heap h₁ := fun c o hc e => hs₁.extBut _ _ hc e
  have hh' : ∀ q ∈ all, ∀ its, q.Has s.heap its → q.Has h₁ its := fun q hq its qh => qh.to fun o e => k1 _ o (D.iz _ hq).2.2.2.1 e
  refine wpAny_bind ?_
  refine loop_end (prog := prog) (w := w) (A := A) (E := E) (k := k) D _ _ ?step ?stop all [] olds { s with heap := h₁ } _ (fun p hp => hp) D.nd hz₁ rfl (k1 _ _ D.TOz hTO) hl (fun p hp => ?_) ?_ fun h' e hk he => hE h' e (fun c o hc e => hk c o hc (k1 c o (fun z => hc (.inl z)) e)) he
  case step =>
    intro S x items pre o os s2 Q2 hS hn hT ha hh hx q
    have dS := D.iz S hS
    refine wpAny_bind (wpAny_onRaise ?_)
    show wpAny _ _ (Builtin.SmallTypes.nextOf (.ref S.i) >>= _) _ _ _
    refine wpAny_bind (next_item ha hh hx fun h₂ ha₂ hs₂ => wpAny_pure ?_)
    have hT₂ : IsTA h₂ TO (pre ++ o :: os) := hs₂.extBut _ _ dS.2.2.1.symm hT
    refine wpAny_bind (wpAny_seqItems hT₂ rfl ?_)
    refine wpAny_bind (updTA hT₂ ?_ fun h₃ hT₃ hs₃ => ?_)
    · rw [hn]; show olds.length ≤ _; omega
    refine wpAny_bind (wpAny_letGo (wpAny_pure ?_))
    refine q h₃ (ha₂.to fun o e => hs₃.extBut _ _ dS.2.2.1 e) (by simpa using hT₃) (fun c o hc e => hs₃.extBut _ _ (fun z => hc (.inl z)) (hs₂.extBut _ _ (fun z => hc (.inr z)) e)) (hs₃.1.trans hs₂.1)
  case stop =>
    intro S items j s2 Q2 hS hz2 ha hh hx q
    have dS := D.iz S hS
    refine wpAny_bind (wpAny_onRaise ?_)
    show wpAny _ _ (Builtin.SmallTypes.nextOf (.ref S.i) >>= _) _ _ _
    refine wpAny_bind (next_end hA ha hh hx fun h₂ e hs₂ he => ?_)
    obtain ⟨oe, hoe, hce⟩ := he
    have hz₂ : IsZip h₂ z TI TO .ellipsis := hs₂ _ _ dS.1.symm hz2
    have hez : e ≠ z := fun x => by subst x; rw [hz₂] at hoe; cases hoe; simp at hce
    exact wpAny_setField_rec hz₂ (by simp) fun h₃ _ hs₃ => q h₃ e (fun c o hc x => hs₃.extBut _ _ (fun z => hc (.inl z)) (hs₂ _ _ (fun z => hc (.inr z)) x)) ⟨oe, hs₃.extBut _ _ hez hoe, hce⟩
  · obtain ⟨pa, items, ph⟩ := hat p hp
    exact ⟨pa.to fun o e => k1 _ o (D.iz _ hp).1 e, items, hh' p hp items ph⟩
  · obtain ⟨p, hp, items, ph, pn⟩ := hen
    exact ⟨p, hp, items, hh' p hp items ph, pn⟩
theorem pyNext_zipN_item {z TI TO : Addr} {k : Nat} {rest : List (Src × Value)} {olds : List Value} {Q : Option Value → Shared → Prop} (D : Apart z TI TO (rest.map (·.1))) (hz : IsZip s.heap z TI TO .none) (hTI : IsTA s.heap TI (rest.map fun p => .ref p.1.i)) (hTO : IsTA s.heap TO olds)
    (hl : olds.length = rest.length) (hs : rest.length ≤ sizeLine) (hat : ∀ p ∈ rest, p.1.At s.heap k ∧ ∃ items, p.1.Has s.heap items ∧ items[k]? = some p.2)
    (hQ : ∀ h', IsZip h' z TI TO (rawInt s.heap.objs.size) → IsTA h' TO (rest.map (·.2)) → (∀ p ∈ rest, p.1.At h' (k + 1)) → IsTA h' s.heap.objs.size (rest.map (·.2)) → h'.objs.size = s.heap.objs.size + 1 →
      Kp (fun c => c = z ∨ c = TO ∨ ∃ p ∈ rest, c = p.1.i) s.heap h' → Q (some (.ref s.heap.objs.size)) { s with heap := h' }) : wpAny (model prog w) A (pyNext (.ref z)) Q E s := by
  have hT : s.TypeIs (.ref z) "zip" := ⟨_, hz, rfl⟩
  unfold pyNext
  exact wpAny_bind (wpAny_attempt (wpAny_callSpecial?_slot (name := Str.ofString "__next__") hT F.slot_zip_next
    (wpAny_call_entry F.slot_zip_next hT F.entry_zip_next
      (zipN_item D hz hTI hTO hl hs hat fun h' a1 a2 a3 a4 a5 a6 => wpAny_pure (hQ h' a1 a2 a3 a4 a5 a6)) (F.args_zip_next_1 _))))
theorem pyNext_zipN_end {z TI TO : Addr} {k : Nat} {all : List Src} {olds : List Value} {Q : Option Value → Shared → Prop} (hA : A.handled = none) (D : Apart z TI TO all) (hz : IsZip s.heap z TI TO .none) (hTI : IsTA s.heap TI (all.map fun p => .ref p.i)) (hTO : IsTA s.heap TO olds)
    (hl : olds.length = all.length) (hs : all.length ≤ sizeLine) (hat : ∀ p ∈ all, p.At s.heap k ∧ ∃ items, p.Has s.heap items) (hen : ∃ p ∈ all, ∃ items, p.Has s.heap items ∧ items[k]? = none)
    (hQ : ∀ h', Kp (fun c => c = z ∨ c = TO ∨ ∃ p ∈ all, c = p.i) s.heap h' → Q none { s with heap := h' }) : wpAny (model prog w) A (pyNext (.ref z)) Q E s := by
  have hT : s.TypeIs (.ref z) "zip" := ⟨_, hz, rfl⟩
  unfold pyNext
  refine wpAny_bind (wpAny_attempt (wpAny_callSpecial?_slot (name := Str.ofString "__next__") hT F.slot_zip_next
    (wpAny_call_entry F.slot_zip_next hT F.entry_zip_next (zipN_end hA D hz hTI hTO hl hs hat hen fun h' e hk he => ?_) (F.args_zip_next_1 _))))
  obtain ⟨o, ho, hc⟩ := he
  refine wpAny_bind (wpAny_isInstance (T := "StopIteration") (b := true) ⟨o, ho, hc⟩ isSubtype_stop ?_)
  exact wpAny_pure (hQ _ hk)
end
end L2.VI.ZN
/-! VI39: zip(..) of any number made. -/
namespace L2.VI.ZN
open PySem RZ
section
variable {prog : Program} {w : World} {A : Around} {E : Value → Shared → Prop} {s : Shared}
/-- the sources of the containers ls, their iterators from n on -/
def srcs (n : Nat) : List (Bool × Addr) → List Src
  | [] => []
  | p :: r => ⟨p.1, n, p.2⟩ :: srcs (n + 1) r
theorem srcs_len (n : Nat) (ls : List (Bool × Addr)) : (srcs n ls).length = ls.length := by
  induction ls generalizing n with
  | nil => rfl
  | cons p r ih => simp [srcs, ih]
theorem srcs_mem {n : Nat} {ls : List (Bool × Addr)} {S : Src} (h : S ∈ srcs n ls) : (S.tup, S.l) ∈ ls ∧ n ≤ S.i ∧ S.i < n + ls.length := by
  induction ls generalizing n with
  | nil => exact nomatch h
  | cons p r ih =>
    rcases List.mem_cons.mp h with rfl | h
    · exact ⟨.head _, Nat.le_refl _, by simp⟩
    · obtain ⟨a, b, c⟩ := ih h
      exact ⟨.tail _ a, by omega, by simp at c ⊢; omega⟩
theorem srcs_nd (n : Nat) (ls : List (Bool × Addr)) : ((srcs n ls).map (·.i)).Nodup := by
  induction ls generalizing n with
  | nil => exact List.nodup_nil
  | cons p r ih =>
    rw [srcs, List.map_cons, List.nodup_cons]
    refine ⟨fun h => ?_, ih _⟩
    obtain ⟨S, hS, e⟩ := List.mem_map.mp h
    have := (srcs_mem hS).2.1
    simp only at e
    omega
/-- what a container is -/
def Con (h : Heap) (p : Bool × Addr) : Prop := ∃ xs : Array Value, (Src.mk p.1 0 p.2).Has h xs
theorem iter_src {p : Bool × Addr} {Q : Value → Shared → Prop} (hc : Con s.heap p) (hQ : ∀ h', (Src.mk p.1 s.heap.objs.size p.2).At h' 0 → h'.objs.size = s.heap.objs.size + 1 → (∀ c o, s.heap.get? c = some o → h'.get? c = some o) → Q (.ref s.heap.objs.size) { s with heap := h' }) :
    wpAny (model prog w) A (pyIter (.ref p.2)) Q E s := by
  obtain ⟨t, l⟩ := p
  obtain ⟨xs, hx⟩ := hc
  cases t
  · exact wpAny_pyIter_list hx (hQ _ ⟨_, Heap.get?_push_size _ rfl, rfl, rfl⟩ (Heap.size_push ..) fun c o e => Heap.get?_push_of_some _ e)
  · exact wpAny_pyIter_tuple hx (hQ _ ⟨_, Heap.get?_push_size _ rfl, rfl, rfl⟩ (Heap.size_push ..) fun c o e => Heap.get?_push_of_some _ e)
theorem iterAll_srcs (ls : List (Bool × Addr)) {Q : List Value → Shared → Prop} (hc : ∀ p ∈ ls, Con s.heap p)
    (hQ : ∀ h', (∀ S ∈ srcs s.heap.objs.size ls, S.At h' 0) → h'.objs.size = s.heap.objs.size + ls.length → (∀ c o, s.heap.get? c = some o → h'.get? c = some o) → Q ((srcs s.heap.objs.size ls).map fun S => .ref S.i) { s with heap := h' }) :
    wpAny (model prog w) A (Builtin.SmallTypes.iterAll (ls.map fun p => .ref p.2)) Q E s := by
  have loop : ∀ (ls : List (Bool × Addr)) (acc : Array Value) (s : Shared) (Q : Array Value → Shared → Prop), (∀ p ∈ ls, Con s.heap p) →
      (∀ h', (∀ S ∈ srcs s.heap.objs.size ls, S.At h' 0) → h'.objs.size = s.heap.objs.size + ls.length → (∀ c o, s.heap.get? c = some o → h'.get? c = some o) → Q (acc ++ ((srcs s.heap.objs.size ls).map fun S => Value.ref S.i).toArray) { s with heap := h' }) →
      wpAny (model prog w) A (forIn (ls.map fun p => Value.ref p.2) acc fun x its => do
        let v ← holding its.toList (pyIter x)
        pure (ForInStep.yield (its.push v))) Q E s := by
    intro ls
    induction ls with
    | nil => intro acc s Q _ hQ; exact wpAny_pure (by have := hQ s.heap (fun S hS => nomatch hS) rfl (fun c o e => e); simpa [srcs] using this)
    | cons p r ih =>
      intro acc s Q hc hQ
      rw [List.map_cons, List.forIn_cons]
      refine wpAny_bind (wpAny_bind (wpAny_holding (iter_src (hc p (.head _)) fun h' ha hz hk => wpAny_pure ?_)))
      refine ih (acc.push (.ref s.heap.objs.size)) { s with heap := h' } Q (fun q hq => ?_) fun h2 b1 b2 b3 => ?_
      · obtain ⟨xs, hx⟩ := hc q (.tail _ hq)
        exact ⟨xs, hx.to fun o e => hk _ _ e⟩
      · have b1 : ∀ S ∈ srcs h'.objs.size r, S.At h2 0 := b1
        have := hQ h2 (fun S hS => ?_) ((show h2.objs.size = h'.objs.size + r.length from b2).trans (by rw [hz, List.length_cons]; omega)) fun c o e => b3 c o (hk c o e)
        · have e : acc.push (.ref s.heap.objs.size) ++ ((srcs h'.objs.size r).map fun S => Value.ref S.i).toArray = acc ++ ((srcs s.heap.objs.size (p :: r)).map fun S => Value.ref S.i).toArray := by simp [srcs, hz]
          show Q (acc.push (.ref s.heap.objs.size) ++ ((srcs h'.objs.size r).map fun S => Value.ref S.i).toArray) _
          rw [e]
          exact this
        · rcases List.mem_cons.mp hS with rfl | hS
          · exact ha.to fun o e => b3 _ o e
          · rw [hz] at b1
            exact b1 S hS
  unfold Builtin.SmallTypes.iterAll
  refine wpAny_bind (loop ls #[] s _ hc fun h' a b c => wpAny_pure ?_)
  simpa using hQ h' a b c
abbrev NewZ (n : Nat) (ls : List (Bool × Addr)) (h h' : Heap) : Prop := IsZip h' (n + ls.length + 2) (n + ls.length) (n + ls.length + 1) .none ∧ IsTA h' (n + ls.length) ((srcs n ls).map fun S => .ref S.i) ∧ IsTA h' (n + ls.length + 1) (ls.map fun _ => .none) ∧
  (∀ S ∈ srcs n ls, S.At h' 0) ∧ h'.objs.size = n + ls.length + 3 ∧ ∀ c o, h.get? c = some o → h'.get? c = some o
theorem newz_of {h h1 : Heap} {ls : List (Bool × Addr)} (b1 : ∀ S ∈ srcs h.objs.size ls, S.At h1 0) (b2 : h1.objs.size = h.objs.size + ls.length) (b3 : ∀ c o, h.get? c = some o → h1.get? c = some o) {o1 o2 o3 : Obj}
    (e1 : o1 = { cls := .type "tuple", data := .seq ((srcs h.objs.size ls).map fun S => Value.ref S.i).toArray }) (e2 : o2 = { cls := .type "tuple", data := .seq (((srcs h.objs.size ls).map fun S => Value.ref S.i).map fun _ => Value.none).toArray })
    (e3 : o3 = { cls := .type "zip", data := .fields #[.none, .bool false, .bool false, .ref h1.objs.size, .ref (h1.push o1).objs.size] }) : NewZ h.objs.size ls h (((h1.push o1).push o2).push o3) := by
  have z1 : (h1.push o1).objs.size = h.objs.size + ls.length + 1 := by rw [Heap.size_push, b2]
  have z2 : ((h1.push o1).push o2).objs.size = h.objs.size + ls.length + 2 := by rw [Heap.size_push, z1]
  have z3 : (((h1.push o1).push o2).push o3).objs.size = h.objs.size + ls.length + 3 := by rw [Heap.size_push, z2]
  have up : ∀ c o, h1.get? c = some o → (((h1.push o1).push o2).push o3).get? c = some o := fun c o e => Heap.get?_push_of_some _ (Heap.get?_push_of_some _ (Heap.get?_push_of_some _ e))
  refine ⟨?_, ?_, ?_, fun S hS => (b1 S hS).to fun o e => up _ _ e, z3, fun c o e => up c o (b3 c o e)⟩
  · show Heap.get? _ _ = _
    rw [← z2, ← b2, Heap.get?_push_size _ (by rw [e3]; rfl), e3]
    have : (h1.push o1).objs.size = h1.objs.size + 1 := Heap.size_push ..
    rw [this]
  · show Heap.get? _ _ = _
    rw [← b2]
    refine Heap.get?_push_of_some _ (Heap.get?_push_of_some _ ?_)
    rw [Heap.get?_push_size _ (by rw [e1]; rfl), e1]
  · show Heap.get? _ _ = _
    rw [← z1]
    refine Heap.get?_push_of_some _ ?_
    rw [Heap.get?_push_size _ (by rw [e2]; rfl), e2]
    have : ((srcs h.objs.size ls).map fun S => Value.ref S.i).map (fun _ => Value.none) = ls.map fun _ => Value.none := by
      rw [List.map_map]
      show List.map (fun _ => Value.none) _ = _
      rw [List.map_const', List.map_const', srcs_len]
    rw [this]
theorem meets_zipN (ls : List (Bool × Addr)) :
    Meets (Builtin.«zip.__new__» ⟨.type "zip" :: ls.map (fun p => .ref p.2), []⟩) (fun _ R s => (∀ p ∈ ls, Con s.heap p) ∧ ls.length ≤ sizeLine ∧
      ∀ h', NewZ s.heap.objs.size ls s.heap h' → R (.ok (.ret (.ref (s.heap.objs.size + ls.length + 2)))) { s with heap := h' }) :=
  .of_wp fun prog w A R s h => by
    obtain ⟨hc, hz, h⟩ := h
    have hsub := sub_zip
    unfold Builtin.«zip.__new__»
    repeat (first
      | (refine wpAny_bind (m := Builtin.SmallTypes.iterAll _) (iterAll_srcs ls hc fun h1 b1 b2 b3 => ?_))
      | (refine wpAny_bind (m := newTuple _) (wpAny_newTuple ?_ (by simpa [srcs_len] using hz)))
      | (refine wpAny_bind (m := Builtin.SmallTypes.newRecord _ _) (wpAny_newObj_type ?_))
      | wp_step)
    have z2 (o1 o2 : Obj) : ((h1.push o1).push o2).objs.size = s.heap.objs.size + ls.length + 2 := by rw [Heap.size_push, Heap.size_push, b2]
    refine ⟨_, rfl, ?_⟩
    have this := h _ (newz_of b1 b2 b3 rfl rfl rfl)
    rw [← z2 { cls := .type "tuple", data := .seq ((srcs s.heap.objs.size ls).map fun S => Value.ref S.i).toArray } { cls := .type "tuple", data := .seq (((srcs s.heap.objs.size ls).map fun S => Value.ref S.i).map fun _ => Value.none).toArray }] at this
    exact this
theorem call_zipN {ls : List (Bool × Addr)} {Q : Value → Shared → Prop} (hct : checkTypeCall "zip" ⟨ls.map (fun p => .ref p.2), []⟩ = pure ()) (hcn : checkBuiltinCall "zip.__new__" ⟨.type "zip" :: ls.map (fun p => .ref p.2), []⟩ = pure ())
    (hok : ∀ obj, argsOk "object.__init__" ⟨obj :: ls.map (fun p => .ref p.2), []⟩) (hc : ∀ p ∈ ls, Con s.heap p) (hz : ls.length ≤ sizeLine)
    (h : ∀ h', NewZ s.heap.objs.size ls s.heap h' → Q (.ref (s.heap.objs.size + ls.length + 2)) { s with heap := h' }) : wpAny (model prog w) A (call (.type "zip") (ls.map fun p => .ref p.2)) Q E s :=
  callType_new F.called_zip (by decide) hct hcn hok F.entry_zip_new (meets_zipN ls) ⟨hc, hz, fun h' n => ⟨⟨_, n.1, rfl⟩, h h' n⟩⟩
end
end L2.VI.ZN
/-! VI40: a walk over zip of any number. -/
namespace L2.VI.ZN
open PySem PySem.Spec PyProof.Rows L2 RZ

def SqB (K : PySem.W.Frag) (H : Hp) (p : Bool × Addr) (xs : List V) : Prop := match p.1 with
  | true => SqT K H p.2 xs
  | false => SqL K H p.2 xs
def ItzN (K : PySem.W.Frag) (ls : List (Bool × Addr)) : It :=
  ⟨fun i H => ∃ ys : List V, Paired (fun p y => ∃ xs, SqB K H p xs ∧ xs[i]? = some y) ls ys,
    fun i H v H' => ∃ T ys, v = .ref T ∧ H T = none ∧ H' = upd H T (.tup ys) ∧ Paired (fun p y => ∀ xs, SqB K H p xs → xs[i]? = some y) ls ys,
    fun i H => (∀ p ∈ ls, ∃ xs, SqB K H p xs) ∧ ∃ p ∈ ls, ∃ xs, SqB K H p xs ∧ xs.length ≤ i⟩
section
variable {X : Cx} {pins : List (Addr × Obj)} {σ : L2.St} {H : Hp} {s : Shared}
theorem has_of {p : Bool × Addr} {xs : List V} {n : Nat} (I : Inv X pins σ H s) (h : SqB X.K H p xs) : ∃ its : List Value, Vals xs its ∧ (Src.mk p.1 n p.2).Has s.heap its.toArray := by
  obtain ⟨t, a⟩ := p
  cases t
  · obtain ⟨its, r, q, _⟩ := I.list (show SqL X.K H a xs from h)
    exact ⟨its, r, q.isList⟩
  · obtain ⟨its, r, q, _⟩ := I.tuple (show SqT X.K H a xs from h)
    exact ⟨its, r, q⟩
theorem sqb_inj {p : Bool × Addr} {xs ys : List V} (I : Inv X pins σ H s) (h : SqB X.K H p xs) (h' : SqB X.K H p ys) : xs = ys := by
  obtain ⟨t, a⟩ := p
  cases t
  · exact I.list_inj (show SqL X.K H a xs from h) h'
  · exact I.tuple_inj (show SqT X.K H a xs from h) h'
theorem rest_of {i : Nat} (I : Inv X pins σ H s) : ∀ {ls : List (Bool × Addr)} {ys : List V} (n : Nat), Paired (fun p y => ∃ xs, SqB X.K H p xs ∧ xs[i]? = some y) ls ys → (∀ S ∈ srcs n ls, S.At s.heap i) →
    ∃ rest : List (Src × Value), rest.map (·.1) = srcs n ls ∧ Vals ys (rest.map (·.2)) ∧ (∀ p ∈ rest, p.1.At s.heap i ∧ ∃ items, p.1.Has s.heap items ∧ items[i]? = some p.2) ∧ Paired (fun p y => ∀ xs, SqB X.K H p xs → xs[i]? = some y) ls ys
  | _, _, n, .nil, _ => ⟨[], rfl, .nil, (fun p hp => nomatch hp), .nil⟩
  | _, _, n, .cons (a := p) (b := y) ⟨xs, h1, h2⟩ t, ha => by
    obtain ⟨its, rv, hh⟩ := has_of (n := n) I h1
    obtain ⟨u, hu, ru⟩ := rv.get h2
    obtain ⟨rest, e1, e2, e3, e4⟩ := rest_of I (n + 1) t fun S hS => ha S (.tail _ hS)
    refine ⟨(⟨p.1, n, p.2⟩, u) :: rest, ?_, .cons ru e2, fun q hq => ?_, .cons (fun zs hz => ?_) e4⟩
    · rw [List.map_cons, e1]; rfl
    · rcases List.mem_cons.mp hq with rfl | hq
      · exact ⟨ha _ (.head _), its.toArray, hh, by simpa using hu⟩
      · exact e3 q hq
    · rw [sqb_inj I hz h1]; exact h2
end
theorem paired_len {α β : Type} {R : α → β → Prop} : ∀ {as : List α} {bs : List β}, Paired R as bs → as.length = bs.length
  | _, _, .nil => rfl
  | _, _, .cons _ t => congrArg Nat.succ (paired_len t)
/-- the zip's own objects -/
def fps (z TI TO : Addr) (S : List Src) : List Addr := z :: TI :: TO :: S.map (·.i)
def Zt (z TI TO : Addr) (S : List Src) (m i : Nat) (h : Heap) : Prop := IsZip h z TI TO .none ∧ IsTA h TI (S.map fun p => .ref p.i) ∧ (∃ olds : List Value, olds.length = m ∧ IsTA h TO olds) ∧ ∀ p ∈ S, p.At h i
theorem turn_zipN {P : Program} {w : World} {K : PySem.W.Frag} {elts : List Expr} {kk : Nat} {tpos : Pos} {z TI TO : Addr} {n : Nat} {ls : List (Bool × Addr)} (D : Apart z TI TO (srcs n ls)) (hz : ls.length ≤ sizeLine) :
    Turn P w K (.Tuple elts kk tpos) (ItzN K ls) (fps z TI TO (srcs n ls)) z (Zt z TI TO (srcs n ls) ls.length) where
  mem := .head _
  obj := fun i h st c hc => by
    obtain ⟨q1, q2, ⟨olds, _, q3⟩, q4⟩ := st
    rcases List.mem_cons.mp hc with rfl | hc
    · exact ⟨_, q1, fun v q => nomatch q⟩
    rcases List.mem_cons.mp hc with rfl | hc
    · exact ⟨_, q2, fun v q => nomatch q⟩
    rcases List.mem_cons.mp hc with rfl | hc
    · exact ⟨_, q3, fun v q => nomatch q⟩
    · obtain ⟨S, hS, rfl⟩ := List.mem_map.mp hc
      have := q4 S hS
      obtain ⟨t, i', l⟩ := S
      cases t
      · obtain ⟨o, e, _, d⟩ := this
        exact ⟨o, e, fun v q => by rw [d] at q; cases q⟩
      · obtain ⟨o, e, _, d⟩ := this
        exact ⟨o, e, fun v q => by rw [d] at q; cases q⟩
  keep := fun i h h' st k => by
    obtain ⟨q1, q2, ⟨olds, e, q3⟩, q4⟩ := st
    exact ⟨k z (.head _) _ q1, k TI (.tail _ (.head _)) _ q2, ⟨olds, e, k TO (.tail _ (.tail _ (.head _))) _ q3⟩, fun S hS => (q4 S hS).to fun o q => k _ (.tail _ (.tail _ (.tail _ (List.mem_map.mpr ⟨S, hS, rfl⟩)))) o q⟩
  item := by
    intro X hP hw hK hc i pins s σ H E I hf st hg
    subst hP hw hK
    obtain ⟨q1, q2, ⟨olds, eo, q3⟩, q4⟩ := st
    obtain ⟨ys, hp⟩ := hg
    obtain ⟨rest, e1, e2, e3, e4⟩ := rest_of I n hp q4
    have hzl : z < s.heap.objs.size := Heap.lt_size q1
    have hlen : rest.length = ls.length := by rw [← srcs_len n ls, ← e1, List.length_map]
    have hmem : ∀ p ∈ rest, p.1 ∈ srcs n ls := fun p hp => e1 ▸ List.mem_map.mpr ⟨p, hp, rfl⟩
    have q2' : IsTA s.heap TI (rest.map fun p => .ref p.1.i) := by
      have : (rest.map fun p => Value.ref p.1.i) = (srcs n ls).map fun p => .ref p.i := by rw [← e1, List.map_map]; rfl
      rw [this]; exact q2
    refine pyNext_zipN_item (rest := rest) (k := i) (olds := olds) (by rw [e1]; exact D) q1 q2' q3 (by rw [hlen]; exact eo) (by rw [hlen]; exact hz) e3 fun h' z' TO' a' hT hsz hk => ?_
    refine ⟨_, rfl, wpAny_letOwnedTupleGo_zip (s := { s with heap := h' }) z' fun h'' z'' sb => ?_⟩
    have hT2 : IsTA h'' s.heap.objs.size (rest.map (·.2)) := (sb.2 _ (Nat.ne_of_gt hzl)).trans hT
    have hys : ys.length = (rest.map (·.2)).length := e2.length
    have new : ObjOk X.prog X.w (upd H s.heap.objs.size (.tup ys)) h'' s.heap.objs.size (.tup ys) :=
      ⟨by show ys.length ≤ sizeLine; rw [hys, List.length_map, hlen]; exact hz, rest.map (·.2), e2, ⟨_, hT2, rfl, _, rfl⟩⟩
    have nin : ∀ c, c ∉ fps z TI TO (srcs n ls) → ¬ (c = z ∨ c = TO ∨ ∃ p ∈ rest, c = p.1.i) := fun c hc q => hc (by
      rcases q with q | q | ⟨p, hp, q⟩
      · rw [q]; exact .head _
      · rw [q]; exact .tail _ (.tail _ (.head _))
      · rw [q]; exact .tail _ (.tail _ (.tail _ (List.mem_map.mpr ⟨p.1, hmem p hp, rfl⟩))))
    have I1 : Inv X pins σ (upd H s.heap.objs.size (.tup ys)) { s with heap := h'' } :=
      I.turnedNew (t' := s.toks) (ch := fps z TI TO (srcs n ls)) (fun c o hb q => (sb.2 c (fun q' => hb (by rw [q']; exact .head _))).trans (hk c o (nin c hb) q)) hf (Nat.le_refl _) new
    refine ⟨.ref s.heap.objs.size, _, I1, rfl, ⟨_, ys, rfl, I.hok.fresh (Nat.le_refl _), rfl, e4⟩, ⟨z'', ?_, ⟨rest.map (·.2), by rw [List.length_map, hlen], ?_⟩, fun S hS => ?_⟩, fun c hcm => ?_⟩
    · refine (sb.2 _ D.TIz).trans (hk _ _ (fun q => ?_) q2)
      rcases q with q | q | ⟨p, hp, q⟩
      · exact D.TIz q
      · exact D.TITO q
      · exact (D.iz _ (hmem p hp)).2.1 q.symm
    · exact (sb.2 _ D.TOz).trans TO'
    · rw [← e1] at hS
      obtain ⟨p, hp, rfl⟩ := List.mem_map.mp hS
      exact (a' p hp).to fun o q => (sb.2 _ (D.iz _ (hmem p hp)).1).trans q
    · have hlt : c < s.heap.objs.size := by
        rcases List.mem_cons.mp hcm with rfl | hcm
        · exact hzl
        rcases List.mem_cons.mp hcm with rfl | hcm
        · exact Heap.lt_size q2
        rcases List.mem_cons.mp hcm with rfl | hcm
        · exact Heap.lt_size q3
        · obtain ⟨S, hS, rfl⟩ := List.mem_map.mp hcm
          exact (q4 S hS).lt
      rw [upd_ne (Nat.ne_of_lt hlt)]
      exact (hf c hcm).1
  done := by
    intro X hP hw hK hc i pins s σ H E I hf st hg
    subst hP hw hK
    obtain ⟨q1, q2, ⟨olds, eo, q3⟩, q4⟩ := st
    obtain ⟨g1, p, hp, xs, g2, g3⟩ := hg
    have mem : ∀ S ∈ srcs n ls, ∀ xs, SqB X.K H (S.tup, S.l) xs → ∃ its : List Value, Vals xs its ∧ S.Has s.heap its.toArray := fun S hS xs hx => by
      obtain ⟨its, r, hh⟩ := has_of (n := S.i) I hx
      exact ⟨its, r, hh⟩
    have inv : ∀ {n : Nat} {ls : List (Bool × Addr)} {p : Bool × Addr}, p ∈ ls → ∃ S ∈ srcs n ls, (S.tup, S.l) = p := by
      intro n ls
      induction ls generalizing n with
      | nil => intro p h; exact nomatch h
      | cons q r ih =>
        intro p h
        rcases List.mem_cons.mp h with rfl | h
        · exact ⟨_, .head _, rfl⟩
        · obtain ⟨S, hS, e⟩ := ih (n := n + 1) h
          exact ⟨S, .tail _ hS, e⟩
    refine pyNext_zipN_end (k := i) (I.ok.hd hc) D q1 q2 q3 (by rw [srcs_len]; exact eo) (by rw [srcs_len]; exact hz) (fun S hS => ?_) ?_ fun h' hk => ⟨rfl, ?_⟩
    · obtain ⟨xs, hx⟩ := g1 _ (srcs_mem hS).1
      obtain ⟨its, _, hh⟩ := mem S hS xs hx
      exact ⟨q4 S hS, _, hh⟩
    · obtain ⟨S, hS, rfl⟩ := inv (n := n) hp
      obtain ⟨its, r, hh⟩ := mem S hS xs g2
      have hl := r.length
      exact ⟨S, hS, _, hh, by simp; omega⟩
    · exact I.turnedL (t' := s.toks) (ch := fps z TI TO (srcs n ls)) (fun c o hb q => hk c o (fun q => hb (by
        rcases q with q | q | ⟨p, hp, q⟩
        · rw [q]; exact .head _
        · rw [q]; exact .tail _ (.tail _ (.head _))
        · rw [q]; exact .tail _ (.tail _ (.tail _ (List.mem_map.mpr ⟨p, hp, rfl⟩))))) q) hf
  self := fun A i s Q E st h => wpAny_pyIter_zip st.1 h
end L2.VI.ZN
/-! VI41: for .. in zip(..): the rule. -/
namespace L2.VI.ZN
open PySem PySem.Spec PyProof.Rows L2 RZ
/-- what the call of zip asks of its text, at n containers -/
structure ZipN (n : Nat) : Prop where
  ct : ∀ vs : List Value, vs.length = n → checkTypeCall "zip" ⟨vs, []⟩ = pure ()
  cn : ∀ vs : List Value, vs.length = n → checkBuiltinCall "zip.__new__" ⟨.type "zip" :: vs, []⟩ = pure ()
  ok : ∀ vs : List Value, vs.length = n → ∀ obj, argsOk "object.__init__" ⟨obj :: vs, []⟩
theorem zip2 : ZipN 2 := by
  refine ⟨fun vs h => ?_, fun vs h => ?_, fun vs h obj => ?_⟩
  · match vs, h with
    | [a, b], _ => kernel_rfl
  · match vs, h with
    | [a, b], _ => kernel_rfl
  · match vs, h with
    | [a, b], _ =>
      unfold argsOk
      rw [signature?_of (id := "object.__init__") (n := ['_', '_', 't', 'i', 'n', 'i', '_', '_']) (o := ['t', 'c', 'e', 'j', 'b', 'o']) (by kernel_rfl) F.owner_object]
      kernel_rfl
theorem zip3 : ZipN 3 := by
  refine ⟨fun vs h => ?_, fun vs h => ?_, fun vs h obj => ?_⟩
  · match vs, h with
    | [a, b, c], _ => kernel_rfl
  · match vs, h with
    | [a, b, c], _ => kernel_rfl
  · match vs, h with
    | [a, b, c], _ =>
      unfold argsOk
      rw [signature?_of (id := "object.__init__") (n := ['_', '_', 't', 'i', 'n', 'i', '_', '_']) (o := ['t', 'c', 'e', 'j', 'b', 'o']) (by kernel_rfl) F.owner_object]
      kernel_rfl
theorem zip4 : ZipN 4 := by
  refine ⟨fun vs h => ?_, fun vs h => ?_, fun vs h obj => ?_⟩
  · match vs, h with
    | [a, b, c, d], _ => kernel_rfl
  · match vs, h with
    | [a, b, c, d], _ => kernel_rfl
  · match vs, h with
    | [a, b, c, d], _ =>
      unfold argsOk
      rw [signature?_of (id := "object.__init__") (n := ['_', '_', 't', 'i', 'n', 'i', '_', '_']) (o := ['t', 'c', 'e', 'j', 'b', 'o']) (by kernel_rfl) F.owner_object]
      kernel_rfl
def iZipN (K : PySem.W.Frag) (n : Nat) (ta : TA) : TI := fun σ H R => ta σ H fun vs H1 => ∃ ls : List (Bool × Addr), vs = ls.map (fun p => V.ref p.2) ∧ ls.length = n ∧ (∀ p ∈ ls, ∃ xs, SqB K H1 p xs) ∧ R (ItzN K ls) H1
theorem vals_refs : ∀ {ls : List (Bool × Addr)} {us : List Value}, Vals (ls.map fun p => V.ref p.2) us → us = ls.map fun p => .ref p.2
  | [], _, .nil => rfl
  | _ :: r, _, .cons h t => by
    have := vals_refs (ls := r) t
    subst this
    cases h
    rfl
theorem pi_zipN {X : Cx} {n : Nat} {e : Expr} {es : List Expr} {ta : TA} {p pos tpos : Pos} {elts : List Expr} {kk : Nat} (zn : ZipN (n + 1)) (hn : n + 1 ≤ sizeLine) (hg : Gl X "zip") (hm : X.mg "zip" = none) (ha : PA X (e :: es) ta)
    (hs : starEach (e :: es) X.env = (false, eval e X.env) :: starEach es X.env := by rfl) (hpl : (backTo pos (starEach es X.env)).any (·.1) = false := by rfl) :
    PI X (.Tuple elts kk tpos) (.Call (.Name "zip" p) (e :: es) [] pos) (iZipN X.K (n + 1) ta) := by
  refine ⟨fun pins s σ H R I h => ?_⟩
  refine Call_ (ld_blt I hg hm PyProof.Rows.boot_zip (PyProof.Rows.callWith_type1 (thn (ha.run pos pins s σ H _ I h) fun us s1 ⟨vs, H1, I1, r1, q1⟩ => ?_) hs hpl))
  obtain ⟨ls, ex, hl, hq, q1⟩ := q1
  subst ex
  have eu := vals_refs r1
  subst eu
  have hll : (ls.map fun p : Bool × Addr => Value.ref p.2).length = n + 1 := by rw [List.length_map, hl]
  have con : ∀ p ∈ ls, Con s1.heap p := fun p hp => by
    obtain ⟨xs, hx⟩ := hq p hp
    obtain ⟨its, _, hh⟩ := has_of (n := 0) I1 hx
    exact ⟨_, hh⟩
  have hz : ls.length ≤ sizeLine := by rw [hl]; exact hn
  refine call_zipN (zn.ct _ hll) (zn.cn _ hll) (zn.ok _ hll) con hz fun h' nw => ?_
  obtain ⟨n1, n2, n3, n4, n5, n6⟩ := nw
  refine wpAny_pyIter_zip n1 ?_
  have I2 : Inv X pins σ H1 { s1 with heap := h' } := I1.kept (t' := s1.toks) n6
  have D : Apart (s1.heap.objs.size + ls.length + 2) (s1.heap.objs.size + ls.length) (s1.heap.objs.size + ls.length + 1) (srcs s1.heap.objs.size ls) := by
    refine ⟨?_, ?_, ?_, fun S hS => ?_, fun S hS S' hS' => ?_, srcs_nd _ _, fun q => ?_⟩
    · exact Nat.ne_of_lt (by omega)
    · exact Nat.ne_of_lt (by omega)
    · exact Nat.ne_of_lt (by omega)
    · obtain ⟨m1, m2, m3⟩ := srcs_mem hS
      obtain ⟨xs, hx⟩ := con _ m1
      have lt : S.l < s1.heap.objs.size := Src.Has.lt hx
      exact ⟨Nat.ne_of_lt (by omega), Nat.ne_of_lt (by omega), Nat.ne_of_lt (by omega), Nat.ne_of_lt (by omega), Nat.ne_of_lt (by omega)⟩
    · obtain ⟨m1, m2, m3⟩ := srcs_mem hS
      obtain ⟨xs, hx⟩ := con _ m1
      have lt : S.l < s1.heap.objs.size := Src.Has.lt hx
      have := (srcs_mem hS').2.1
      exact Nat.ne_of_lt (by omega)
    · have := srcs_len s1.heap.objs.size ls
      rw [q, hl] at this
      cases this
  refine ⟨_, fps _ _ _ (srcs s1.heap.objs.size ls), _, _, H1, rfl, I2, turn_zipN D hz, ⟨n1, n2, ⟨_, by rw [List.length_map], n3⟩, n4⟩, fun c hc => ?_, q1⟩
  have hle : s1.heap.objs.size ≤ c := by
    rcases List.mem_cons.mp hc with rfl | hc
    · exact Nat.le_trans (Nat.le_add_right _ _) (Nat.le_add_right _ _)
    rcases List.mem_cons.mp hc with rfl | hc
    · exact Nat.le_add_right _ _
    rcases List.mem_cons.mp hc with rfl | hc
    · exact Nat.le_trans (Nat.le_add_right _ _) (Nat.le_add_right _ _)
    · obtain ⟨S, hS, rfl⟩ := List.mem_map.mp hc
      exact (srcs_mem hS).2.1
  exact (I1.fpOk hle (I1.hok.fresh hle)).imp id id
end L2.VI.ZN
namespace L2.VI
open PySem PySem.Spec PyProof.Rows He
def minLen : List (List D) → Nat
  | [] => 0
  | [xs] => xs.length
  | xs :: r => min xs.length (minLen r)
def zipRows (xss : List (List D)) : List D := (List.range (minLen xss)).map fun i => .tup (xss.map fun xs => xs.getD i .non)
def itemsAll : List D → Option (List (List D))
  | [] => some []
  | d :: ds => match itemsOf d, itemsAll ds with
    | some xs, some r => some (xs :: r)
    | _, _ => none
def zipM (n : Nat) (ms : M (List D)) : M (List D) := M.bind ms fun ds => guardM (ds.length = n) (M.bind (optM (itemsAll ds)) fun xss => M.ret (zipRows xss))
open ZN in
theorem cons_of {K : PySem.W.Frag} {F : Hp} {ρ : Rho} : ∀ {vs : List V} {ds : List D} {xss : List (List D)}, RepAll K F ρ vs ds → itemsAll ds = some xss →
    ∃ ls : List (Bool × Addr), vs = ls.map (fun p => V.ref p.2) ∧ Paired (fun p xs => ∃ zs, (∀ F' M' ρ' (fc1 : FrC) (P1 : PX fc1) b σ H, Leq F F' → BRel K F' P1 M' ρ' b σ H → SqB K H p zs) ∧ RepAll K F ρ zs xs) ls xss
  | _, _, _, .nil, h => by cases h; exact ⟨[], rfl, .nil⟩
  | _, d :: ds, _, .cons r t, h => by
    unfold itemsAll at h
    split at h
    · rename_i xs rr e1 e2
      cases h
      obtain ⟨ls, ev, hp⟩ := cons_of t e2
      cases r with
      | lst h2 r2 =>
        rename_i a vs2 ds2
        cases e1
        exact ⟨(false, a) :: ls, by rw [ev]; rfl, .cons ⟨_, fun F' M' ρ' fc1 P1 b σ H l B => SqL.of (B.lstAt (l _ _ h2)), r2⟩ hp⟩
      | tup h2 r2 =>
        rename_i a vs2 ds2
        cases e1
        exact ⟨(true, a) :: ls, by rw [ev]; rfl, .cons ⟨_, fun F' M' ρ' fc1 P1 b σ H l B => Rep.sqT (P := fun _ => none) B (h2.imp (l _ _) id), r2⟩ hp⟩
      | scr h2 =>
        rename_i a ns
        cases e1
        exact ⟨(false, a) :: ls, by rw [ev]; rfl, .cons ⟨_, fun F' M' ρ' fc1 P1 b σ H l B => B.sqL (SqL.leq l h2), RepAll.of_ints _⟩ hp⟩
      | _ => cases e1
    · cases h
theorem minLen_all : ∀ {xss : List (List D)} {i : Nat}, i < minLen xss → ∀ xs ∈ xss, i < xs.length
  | [], _, h, _, hx => nomatch hx
  | [xs], _, h, _, hx => by cases List.mem_singleton.mp hx; exact h
  | xs :: ys :: r, i, h, zs, hx => by
    have h : i < min xs.length (minLen (ys :: r)) := h
    rcases List.mem_cons.mp hx with rfl | hx
    · omega
    · exact minLen_all (by omega) zs hx
theorem minLen_some : ∀ {xss : List (List D)} {i : Nat}, xss ≠ [] → minLen xss ≤ i → ∃ xs ∈ xss, xs.length ≤ i
  | [], _, h, _ => absurd rfl h
  | [xs], _, _, h => ⟨xs, .head _, h⟩
  | xs :: ys :: r, i, _, h => by
    have h : min xs.length (minLen (ys :: r)) ≤ i := h
    by_cases q : xs.length ≤ i
    · exact ⟨xs, .head _, q⟩
    · obtain ⟨zs, hz, e⟩ := minLen_some (xss := ys :: r) (i := i) (by simp) (by omega)
      exact ⟨zs, .tail _ hz, e⟩
open ZN in
theorem row_of {K : PySem.W.Frag} {F F' M' H' : Hp} {ρ ρ' : Rho} {fc1 : FrC} {P1 : PX fc1} {b : BSt} {σ' : St} {i : Nat} (l : Leq F F') (e : Rle ρ ρ') (B : BRel K F' P1 M' ρ' b σ' H') : ∀ {ls : List (Bool × Addr)} {xss : List (List D)} {ys : List V},
    Paired (fun p xs => ∃ zs, (∀ F' M' ρ' (fc1 : FrC) (P1 : PX fc1) b σ H, Leq F F' → BRel K F' P1 M' ρ' b σ H → SqB K H p zs) ∧ RepAll K F ρ zs xs) ls xss → Paired (fun p y => ∀ xs, SqB K H' p xs → xs[i]? = some y) ls ys → (∀ xs ∈ xss, i < xs.length) →
    RepAll K F' ρ' ys (xss.map fun xs => xs.getD i .non)
  | _, _, _, .nil, .nil, _ => .nil
  | _, _, _, .cons (b := xs) ⟨zs, h1, h2⟩ t, .cons g1 g2, all => by
    refine .cons ?_ (row_of l e B t g2 fun xs hx => all xs (.tail _ hx))
    have hi : i < xs.length := all _ (.head _)
    have q := g1 zs (h1 F' M' ρ' fc1 P1 b σ' H' l B)
    obtain ⟨d, hd, r⟩ := h2.getV q
    have : xs.getD i .non = d := by rw [List.getD_eq_getElem?_getD, hd]; rfl
    show Rep K F' ρ' _ (xs.getD i .non)
    rw [this]
    exact r.mono l e
open ZN in
theorem itz_of {K : PySem.W.Frag} {F : Hp} {fc : FrC} {P0 : PX fc} {ρ : Rho} {σ : St} {ls : List (Bool × Addr)} {xss : List (List D)} (hne : xss ≠ [])
    (hp : Paired (fun p xs => ∃ zs, (∀ F' M' ρ' (fc1 : FrC) (P1 : PX fc1) b σ H, Leq F F' → BRel K F' P1 M' ρ' b σ H → SqB K H p zs) ∧ RepAll K F ρ zs xs) ls xss) : ItrOf K P0 σ (ItzN K ls) F ρ (zipRows xss) := by
  intro i F' M' ρ' fc1 P1 b σ' H' l e B
  have hl : (zipRows xss).length = minLen xss := by simp [zipRows]
  have back : ∀ {ls : List (Bool × Addr)} {xss : List (List D)}, Paired (fun p xs => ∃ zs, (∀ F' M' ρ' (fc1 : FrC) (P1 : PX fc1) b σ H, Leq F F' → BRel K F' P1 M' ρ' b σ H → SqB K H p zs) ∧ RepAll K F ρ zs xs) ls xss →
      (∀ p ∈ ls, ∃ xs, SqB K H' p xs) ∧ (∀ xs ∈ xss, ∃ p ∈ ls, ∃ zs, SqB K H' p zs ∧ zs.length = xs.length) := by
    intro ls xss h
    induction h with
    | nil => exact ⟨fun p hp => (nomatch hp), fun p hp => (nomatch hp)⟩
    | cons h t ih =>
      obtain ⟨zs, h1, h2⟩ := h
      refine ⟨fun p hp => ?_, fun xs hx => ?_⟩
      · rcases List.mem_cons.mp hp with rfl | hp
        · exact ⟨_, h1 F' M' ρ' fc1 P1 b σ' H' l B⟩
        · exact ih.1 p hp
      · rcases List.mem_cons.mp hx with rfl | hx
        · exact ⟨_, .head _, zs, h1 F' M' ρ' fc1 P1 b σ' H' l B, h2.length⟩
        · obtain ⟨p, hp, q⟩ := ih.2 xs hx
          exact ⟨p, .tail _ hp, q⟩
  rw [hl]
  refine ⟨fun hi => ?_, fun hi => ⟨?_, fun x H2 y => ?_⟩⟩
  · obtain ⟨xs, hx, q⟩ := minLen_some hne hi
    obtain ⟨p, hp', zs, h1, h2⟩ := (back hp).2 xs hx
    exact ⟨(back hp).1, p, hp', zs, h1, by rw [h2]; exact q⟩
  · have all := minLen_all hi
    clear hl hne back hi
    induction hp with
    | nil => exact ⟨[], .nil⟩
    | cons h t ih =>
      obtain ⟨zs, h1, h2⟩ := h
      obtain ⟨ys, hy⟩ := ih fun xs hx => all xs (.tail _ hx)
      have hi' : i < zs.length := by rw [h2.length]; exact all _ (.head _)
      exact ⟨zs[i] :: ys, .cons ⟨zs, h1 F' M' ρ' fc1 P1 b σ' H' l B, by simp [hi']⟩ hy⟩
  · obtain ⟨T, ys, e1, e2, e3, e4⟩ := y
    subst e1 e3
    obtain ⟨B', l'⟩ := B.frozen e2 (.tup ys)
    refine ⟨_, l', B', fun d hd => ?_⟩
    have hd' : d = .tup (xss.map fun xs => xs.getD i .non) := by
      unfold zipRows at hd
      rw [List.getElem?_map, List.getElem?_range hi] at hd
      exact (Option.some.inj hd).symm
    subst hd'
    refine .tup (.inl upd_same) ?_
    have all := minLen_all hi
    clear hl hne back hi hd
    have row := row_of (i := i) l e B hp e4 all
    exact row.mono l' (Rle.refl _)
open ZN in
theorem si_zip {X : Cx} {W : WX} {n : Nat} {e : Expr} {es : List Expr} {ms : M (List D)} {p pos tpos : Pos} {elts : List Expr} {kk : Nat} (zn : ZipN (n + 1)) (hm : X.mg "zip" = none) (ha : SA X W (e :: es) ms) (hn : n + 1 ≤ sizeLine := by decide) (hg : Gl X "zip" := by rfl)
    (hs : starEach (e :: es) X.env = (false, eval e X.env) :: starEach es X.env := by rfl) (hpl : (backTo pos (starEach es X.env)).any (·.1) = false := by rfl) : SI X W (.Tuple elts kk tpos) (.Call (.Name "zip" p) (e :: es) [] pos) (zipM (n + 1) ms) :=
  SI.of (pi_zipN zn hn hg hm ha hs hpl) fun σ H F P0 Mm ρ b R B q => iM_then B q fun xs ds F1 M1 r1 b1 H1 l1 e1 B1 q1 h1 => by
    obtain ⟨hl, h1⟩ := PostI.guard h1
    cases hx : itemsAll ds with
    | none => rw [hx] at h1; exact h1.elim
    | some xss =>
      rw [hx] at h1
      obtain ⟨ls, ev, hp⟩ := cons_of q1 hx
      have l1 : ls.length = n + 1 := by rw [← hl, ← q1.length, ev, List.length_map]
      have l2 : ls.length = xss.length := paired_len hp
      have all : ∀ {ls : List (Bool × Addr)} {xss : List (List D)}, Paired (fun p xs => ∃ zs, (∀ F' M' ρ' (fc1 : FrC) (P1 : PX fc1) b σ H, Leq F1 F' → BRel X.K F' P1 M' ρ' b σ H → SqB X.K H p zs) ∧ RepAll X.K F1 r1 zs xs) ls xss → ∀ p ∈ ls, ∃ xs, SqB X.K H1 p xs := by
        intro ls xss h
        induction h with
        | nil => exact fun p hp => (nomatch hp)
        | cons h t ih =>
          obtain ⟨zs, h1, h2⟩ := h
          intro p hp
          rcases List.mem_cons.mp hp with rfl | hp
          · exact ⟨_, h1 _ _ _ _ _ _ _ _ (Leq.refl _) B1⟩
          · exact ih p hp
      exact ⟨ls, ev, l1, all hp, h1 _ _ _ _ _ (Leq.refl _) (Rle.refl _) B1 (itz_of (fun q => by rw [q] at l2; rw [l1] at l2; cases l2) hp)⟩
end L2.VI
/-! VI42: walks over dicts and texts. -/
namespace L2.VI
open PySem PySem.Spec PyProof.Rows He

def rlk (ρ : Rho) (a : Addr) (o : Obj) : Rho := ⟨ρ.p, ρ.c, fun b => if b = a then some o else ρ.k b⟩
def keyD : Key → D
  | .inl i => .int i
  | .inr x => .str x
section
variable {K : PySem.W.Frag} {F P : Hp} {fc : FrC} {P0 : PX fc} {Mm H : Hp} {ρ : Rho} {g : GSt} {bs : BSt} {σ : St} {a : Addr} {u : HO} {o : Obj}
theorem rlk_same : (rlk ρ a o).k a = some o := if_pos rfl
/-- a frozen dict is locked -/
theorem HRel.lock (h : HRel K F P Mm ρ g H) (f : F a = some u) (d : isDict u = true) (e : H a = some u) (o : Obj) : HRel K F P Mm (rlk ρ a o) g (upd H a (.frz o u)) ∧ Rle ρ (rlk ρ a o) := by
  have rl : Rle ρ (rlk ρ a o) := ⟨fun _ _ z => z, fun _ _ z => z, fun b o' z => by
    by_cases hb : b = a
    · subst hb
      obtain ⟨w, hd, _, hw⟩ := h.lk _ _ z
      rw [e] at hw; cases hw; cases d
    · exact (if_neg hb).trans z⟩
  have nP := (h.fp a u f).1
  have nM := (h.fp a u f).2
  have ne : ∀ {G : Hp} {b : Addr} {v : HO}, G a = none → G b = some v → b ≠ a := fun {G b v} gn z y => by subst y; rw [gn] at z; cases z
  refine ⟨⟨fun b v z => ?_, fun b v z => ?_, fun b v z => ?_, h.fp, h.pm, fun k so z => ?_, h.inj, h.nx, h.rh, fun b o' z => ?_⟩, rl⟩
  · by_cases hb : b = a
    · subst hb
      rw [f] at z; cases z
      rw [if_pos d]; exact .inr ⟨o, upd_same⟩
    · have q := h.fh b v z
      split
      · rename_i hd
        rw [if_pos hd] at q
        rcases q with q | ⟨o, q⟩
        · exact .inl (by rw [upd_ne hb]; exact q)
        · exact .inr ⟨o, by rw [upd_ne hb]; exact q⟩
      · rename_i hd
        rw [if_neg hd] at q
        rw [upd_ne hb]; exact q
  · rw [upd_ne (ne nP z)]; exact h.ph b v z
  · rw [upd_ne (ne nM z)]; exact h.mh b v z
  · obtain ⟨c, e1, e2⟩ := h.st k so z
    exact ⟨c, e1, e2.mono (Leq.refl _) rl fun _ _ _ y => y⟩
  · by_cases hb : b = a
    · subst hb
      rw [rlk_same] at z; cases z
      exact ⟨u, d, f, upd_same⟩
    · have z : ρ.k b = some o' := (if_neg hb).symm.trans z
      obtain ⟨w, w1, w2, w3⟩ := h.lk b o' z
      exact ⟨w, w1, w2, by rw [upd_ne hb]; exact w3⟩
/-- .. is known to be locked -/
theorem HRel.known (h : HRel K F P Mm ρ g H) (f : F a = some u) (d : isDict u = true) (e : H a = some (.frz o u)) : HRel K F P Mm (rlk ρ a o) g H ∧ Rle ρ (rlk ρ a o) := by
  have rl : Rle ρ (rlk ρ a o) := ⟨fun _ _ z => z, fun _ _ z => z, fun b o' z => by
    by_cases hb : b = a
    · subst hb
      obtain ⟨w, hd, _, hw⟩ := h.lk _ _ z
      rw [e] at hw; cases hw; exact rlk_same
    · exact (if_neg hb).trans z⟩
  refine ⟨⟨h.fh, h.ph, h.mh, h.fp, h.pm, fun k so z => ?_, h.inj, h.nx, h.rh, fun b o' z => ?_⟩, rl⟩
  · obtain ⟨c, e1, e2⟩ := h.st k so z
    exact ⟨c, e1, e2.mono (Leq.refl _) rl fun _ _ _ y => y⟩
  · by_cases hb : b = a
    · subst hb
      rw [rlk_same] at z; cases z
      exact ⟨u, d, f, e⟩
    · exact h.lk b o' ((if_neg hb).symm.trans z)
theorem BRel.lock (B : BRel K F P0 Mm ρ bs σ H) (f : F a = some u) (d : isDict u = true) (e : H a = some u) (o : Obj) : BRel K F P0 Mm (rlk ρ a o) bs σ (upd H a (.frz o u)) ∧ Rle ρ (rlk ρ a o) := by
  obtain ⟨P, q, B⟩ := B
  obtain ⟨h, rl⟩ := B.h.lock f d e o
  exact ⟨⟨P, q, B.step (Leq.refl _) rl h⟩, rl⟩
theorem BRel.known (B : BRel K F P0 Mm ρ bs σ H) (f : F a = some u) (d : isDict u = true) (e : H a = some (.frz o u)) : BRel K F P0 Mm (rlk ρ a o) bs σ H ∧ Rle ρ (rlk ρ a o) := by
  obtain ⟨P, q, B⟩ := B
  obtain ⟨h, rl⟩ := B.h.known f d e
  exact ⟨⟨P, q, B.step (Leq.refl _) rl h⟩, rl⟩
/-- what a lock tells, at any later heap -/
theorem BRel.locked (B : BRel K F P0 Mm ρ bs σ H) (f : F a = some u) (e : ρ.k a = some o) : H a = some (.frz o u) := by
  obtain ⟨P, q, B⟩ := B
  obtain ⟨w, w1, w2, w3⟩ := B.h.lk a o e
  rw [f] at w2; cases w2
  exact w3
end
section
variable {X : Cx} {W : WX} {pos : Pos} {tg e : Expr} {me : M D}
/-- the value is a dict: it may be locked -/
theorem pe_lk {te : TE} (he : PE X e te) : PE X e (fun σ H Q => te σ H fun x H1 => Q x H1 ∨ ∃ d u, x = .ref d ∧ H1 d = some u ∧ isDict u = true ∧ ∀ od, Q x (upd H1 d (.frz od u))) := by
  refine ⟨fun pins s σ H Q I h => wpAny_mono (he.run pins s σ H _ I h) (fun v s' z => ?_) fun _ _ x => x⟩
  obtain ⟨x, H1, I1, rx, q⟩ := z
  rcases q with q | ⟨d, u, ex, hd, di, q⟩
  · exact ⟨x, H1, I1, rx, q⟩
  · obtain ⟨od, I2⟩ := I1.lock hd (by cases u <;> first | exact True.intro | cases di)
    exact ⟨x, _, I2, rx, q od⟩
/-- the dict's value, locked -/
theorem lk_dic {F : Hp} {P0 : PX (fcOf X)} {Mm H : Hp} {ρ : Rho} {b : BSt} {σ : St} {a : Addr} {vs : List (Key × V)} {Q : VK} (B : BRel X.K F P0 Mm ρ b σ H) (f : F a = some (.dK vs))
    (h : ∀ od H', H' a = some (.frz od (.dK vs)) → BRel X.K F P0 Mm (rlk ρ a od) b σ H' → Rle ρ (rlk ρ a od) → Q (.ref a) H') :
    Q (.ref a) H ∨ ∃ d u, V.ref a = .ref d ∧ H d = some u ∧ isDict u = true ∧ ∀ od, Q (.ref a) (upd H d (.frz od u)) := by
  rcases B.dicAt f with e | ⟨o, e⟩
  · refine .inr ⟨a, _, rfl, e, rfl, fun od => ?_⟩
    obtain ⟨B', rl⟩ := B.lock f rfl e od
    exact h od _ upd_same B' rl
  · obtain ⟨B', rl⟩ := B.known f rfl e
    exact .inl (h o H e B' rl)
theorem itk_of {K : PySem.W.Frag} {F : Hp} {fc : FrC} {P0 : PX fc} {ρ : Rho} {σ : St} {a : Addr} {o : Obj} {vs : List (Key × V)} (f : F a = some (.dK vs)) : ItrOf K P0 σ (Itk a o vs) F (rlk ρ a o) (vs.map fun kv => keyD kv.1) := by
  intro i F' M' ρ' fc1 P1 b σ' H' l e B
  have hk : H' a = some (.frz o (.dK vs)) := B.locked (l _ _ f) (e.k _ _ rlk_same)
  rw [List.length_map]
  refine ⟨fun hi => ⟨hk, hi⟩, fun hi => ⟨⟨hk, hi⟩, fun x H2 y => ?_⟩⟩
  obtain ⟨e2, k, v, e3, e4⟩ := y
  subst e2 e4
  refine ⟨F', Leq.refl _, B, fun d hd => ?_⟩
  rw [List.getElem?_map, e3] at hd
  cases hd
  cases k with
  | inl i => exact .int i
  | inr x => exact .str x
theorem iti_of {K : PySem.W.Frag} {F : Hp} {fc : FrC} {P0 : PX fc} {ρ : Rho} {σ : St} {a : Addr} {o : Obj} {vs : List (Key × V)} {ds : List (Key × D)} (f : F a = some (.dK vs)) (h1 : vs.map (·.1) = ds.map (·.1)) (h2 : RepAll K F ρ (vs.map (·.2)) (ds.map (·.2))) (rl : Rle ρ (rlk ρ a o)) :
    ItrOf K P0 σ (Iti a o vs) F (rlk ρ a o) (ds.map fun kv => .tup [keyD kv.1, kv.2]) := by
  intro i F' M' ρ' fc1 P1 b σ' H' l e B
  have hk : H' a = some (.frz o (.dK vs)) := B.locked (l _ _ f) (e.k _ _ rlk_same)
  have hl : vs.length = ds.length := by simpa using congrArg List.length h1
  rw [List.length_map, ← hl]
  refine ⟨fun hi => ⟨hk, hi⟩, fun hi => ⟨⟨hk, hi⟩, fun x H2 y => ?_⟩⟩
  obtain ⟨T, k, v, e3, e4, e5, e6⟩ := y
  subst e4 e6
  obtain ⟨B', l'⟩ := B.frozen e5 (.tup [kV k, v])
  refine ⟨_, l', B', fun d hd => ?_⟩
  have hd' : i < ds.length := by omega
  rw [List.getElem?_map, List.getElem?_eq_getElem hd'] at hd
  cases hd
  have k1 : k = ds[i].1 := by
    have q := congrArg (fun l => l[i]?) h1
    simp only [List.getElem?_map, e3, List.getElem?_eq_getElem hd', Option.map_some] at q
    exact Option.some.inj q
  have v1 : Rep K F ρ v ds[i].2 := by
    obtain ⟨w, w1, w2⟩ := h2.get (i := i) (d := ds[i].2) (by rw [List.getElem?_map, List.getElem?_eq_getElem hd']; rfl)
    rw [List.getElem?_map, e3] at w1
    cases w1
    exact w2
  refine .tup (.inl upd_same) (.cons ?_ (.cons ((v1.mono l (rl.trans e)).mono l' (Rle.refl _)) .nil))
  rw [← k1]
  cases k with
  | inl i => exact .int i
  | inr x => exact .str x
theorem itd_of {K : PySem.W.Frag} {F : Hp} {fc : FrC} {P0 : PX fc} {ρ : Rho} {σ : St} {a : Addr} {o : Obj} {vs : List (Key × V)} {ds : List (Key × D)} (f : F a = some (.dK vs)) (h2 : RepAll K F ρ (vs.map (·.2)) (ds.map (·.2))) (rl : Rle ρ (rlk ρ a o)) :
    ItrOf K P0 σ (Itd a o vs) F (rlk ρ a o) (ds.map fun kv => kv.2) := by
  intro i F' M' ρ' fc1 P1 b σ' H' l e B
  have hk : H' a = some (.frz o (.dK vs)) := B.locked (l _ _ f) (e.k _ _ rlk_same)
  have hl : vs.length = ds.length := by have := h2.length; simpa using this
  rw [List.length_map, ← hl]
  refine ⟨fun hi => ⟨hk, hi⟩, fun hi => ⟨⟨hk, hi⟩, fun x H2 y => ?_⟩⟩
  obtain ⟨e2, k, e3⟩ := y
  subst e2
  refine ⟨F', Leq.refl _, B, fun d hd => ?_⟩
  obtain ⟨w, w1, w2⟩ := h2.get hd
  rw [List.getElem?_map, e3] at w1
  cases w1
  exact w2.mono l (rl.trans e)
theorem its_of {K : PySem.W.Frag} {F : Hp} {fc : FrC} {P0 : PX fc} {ρ : Rho} {σ : St} {z : Str} : ItrOf K P0 σ (Its z) F ρ (z.cps.toList.map fun c => .str ⟨#[c]⟩) := by
  intro i F' M' ρ' fc1 P1 b σ' H' l e B
  rw [List.length_map, Array.length_toList]
  refine ⟨fun hi => hi, fun hi => ⟨hi, fun x H2 y => ?_⟩⟩
  obtain ⟨e2, c, e3, e4⟩ := y
  subst e2 e4
  refine ⟨F', Leq.refl _, B, fun d hd => ?_⟩
  rw [List.getElem?_map, Array.getElem?_toList, e3] at hd
  cases hd
  exact .str _
/-- what a for walks: lists, tuples, the keys of a dict, the signs of a text -/
def anyOf : D → Option (List D)
  | .lst xs => some xs
  | .tup xs => some xs
  | .scr ns => some (ns.map .int)
  | .dic kvs => some (kvs.map fun kv => keyD kv.1)
  | .str z => some (z.cps.toList.map fun c => .str ⟨#[c]⟩)
  | _ => none
def anyM (m : M D) : M (List D) := M.bind m fun d => optM (anyOf d)
def iAny (K : PySem.W.Frag) (td : TE) : TI := fun σ H R => td σ H fun x H1 => (∃ a xs, x = .ref a ∧ SqL K H1 a xs ∧ R (Itl K a) H1) ∨ (∃ a xs, x = .ref a ∧ SqT K H1 a xs ∧ R (Itt K a) H1) ∨ (∃ z, x = .str z ∧ R (Its z) H1) ∨
  ∃ d o kvs, x = .ref d ∧ H1 d = some (.frz o (.dK kvs)) ∧ R (Itk d o kvs) H1
theorem pi_any {td : TE} (he : PE X e td) : PI X tg e (iAny X.K td) := by
  refine ⟨fun pins s σ H R I h => ?_⟩
  refine thn (he.run pins s σ H _ I h) fun v s1 ⟨x, H1, I1, r1, q1⟩ => ?_
  rcases q1 with ⟨a, xs, ex, hq, q⟩ | ⟨a, xs, ex, hq, q⟩ | ⟨z, ex, q⟩ | ⟨d, o, kvs, ex, hd, q⟩ <;> subst ex
  · cases r1
    obtain ⟨its, rv, p, hz⟩ := I1.list hq
    exact wpAny_pyIter_list p.isList (pi_one (tk := s1.toks) I1 _ (turn_list a _) ⟨_, Heap.get?_push_size _ rfl, rfl, rfl⟩ q)
  · cases r1
    obtain ⟨its, rv, p, hz⟩ := I1.tuple hq
    exact wpAny_pyIter_tuple (show s1.heap.IsTuple a its.toArray from p) (pi_one (tk := s1.toks) I1 _ (turn_tuple a _) ⟨_, Heap.get?_push_size _ rfl, rfl, rfl⟩ q)
  · obtain ⟨t, rfl⟩ := r1
    cases ha : z.cps.all (· < 128)
    · exact wpAny_pyIter_wide ha (pi_one (tk := s1.toks) I1 _ (turn_str _ z t "str_iterator" (.inr rfl)) ⟨_, Heap.get?_push_size _ rfl, rfl, rfl⟩ q)
    · exact wpAny_pyIter_ascii ha (pi_one (tk := s1.toks) I1 _ (turn_str _ z t "str_ascii_iterator" (.inl rfl)) ⟨_, Heap.get?_push_size _ rfl, rfl, rfl⟩ q)
  · cases r1
    obtain ⟨hs, hgd, hx, es, ep, vs, hdt, hsz, kv, hm⟩ := I1.frzK hd
    refine iter_keys hs hgd hx hdt (pi_one (tk := s1.toks) I1 _ (turn_keys _ hdt) ⟨_, Heap.get?_push_size _ rfl, rfl, ?_⟩ q)
    rw [hsz] <;> rfl
theorem si_any (h : SE X W e me) : SI X W tg e (anyM me) :=
  SI.of (pi_any (pe_lk h)) fun σ H F P0 Mm ρ b R B q => iM_then B q fun x d F1 M1 r1 b1 H1 l1 e1 B1 q1 h1 => by
    cases q1 with
    | lst h2 r2 => exact .inl (.inl ⟨_, _, rfl, SqL.of (B1.lstAt h2), h1 _ F1 M1 r1 H1 (Leq.refl _) (Rle.refl _) B1 (itl_of (fun F' M' ρ' fc1 P1 b σ H l e B => SqL.of (B.lstAt (l _ _ h2))) r2)⟩)
    | tup h2 r2 => exact .inl (.inr (.inl ⟨_, _, rfl, Rep.sqT (P := fun _ => none) B1 h2, h1 _ F1 M1 r1 H1 (Leq.refl _) (Rle.refl _) B1 (itt_of (fun F' M' ρ' fc1 P1 b σ H l e B => Rep.sqT (P := fun _ => none) B (h2.imp (l _ _) id)) r2)⟩))
    | scr h2 => exact .inl (.inl ⟨_, _, rfl, B1.sqL h2, h1 _ F1 M1 r1 H1 (Leq.refl _) (Rle.refl _) B1 (itl_of (fun F' M' ρ' fc1 P1 b σ H l e B => B.sqL (SqL.leq l h2)) (RepAll.of_ints _))⟩)
    | str z => exact .inl (.inr (.inr (.inl ⟨z, rfl, h1 _ F1 M1 r1 H1 (Leq.refl _) (Rle.refl _) B1 its_of⟩)))
    | dic h2 k2 r2 =>
      rename_i a vs ds
      refine lk_dic (Q := fun x H1 => (∃ a xs, x = .ref a ∧ SqL X.K H1 a xs ∧ R (Itl X.K a) H1) ∨ (∃ a xs, x = .ref a ∧ SqT X.K H1 a xs ∧ R (Itt X.K a) H1) ∨ (∃ z, x = .str z ∧ R (Its z) H1) ∨ ∃ d o kvs, x = .ref d ∧ H1 d = some (.frz o (.dK kvs)) ∧ R (Itk d o kvs) H1) B1 h2 fun od H' hk B' rl => .inr (.inr (.inr ⟨a, od, vs, rfl, hk, ?_⟩))
      have ek : (ds.map fun kv => keyD kv.1) = vs.map fun kv => keyD kv.1 := by
        have := congrArg (List.map keyD) k2
        simpa [List.map_map, Function.comp_def] using this.symm
      have it := itk_of (K := X.K) (P0 := P0) (σ := σ) (ρ := r1) (o := od) h2
      rw [← ek] at it
      exact h1 _ F1 M1 _ H' (Leq.refl _) rl B' it
    | _ => exact h1.elim
def dicOf : D → Option (List (Key × D))
  | .dic kvs => some kvs
  | _ => none
def dItemsM (m : M D) : M (List D) := M.bind m fun d => M.bind (optM (dicOf d)) fun kvs => M.ret (kvs.map fun kv => .tup [keyD kv.1, kv.2])
def dValsM (m : M D) : M (List D) := M.bind m fun d => M.bind (optM (dicOf d)) fun kvs => M.ret (kvs.map fun kv => kv.2)
theorem si_ditems {elts : List Expr} {kk : Nat} {tpos apos cpos : Pos} (h : SE X W e me) (hbase : attributeBase e "items" X.env (eval e X.env) = eval e X.env := by rfl) (hline : (apos.endLine == cpos.line) = true := by rfl) :
    SI X W (.Tuple elts kk tpos) (.Call (.Attribute e "items" apos) [] [] cpos) (dItemsM me) :=
  SI.of (pi_items (pe_lk h) hbase hline) fun σ H F P0 Mm ρ b R B q => iM_then B q fun x d F1 M1 r1 b1 H1 l1 e1 B1 q1 h1 => by
    cases q1 with
    | dic h2 k2 r2 =>
      rename_i a vs ds
      exact lk_dic (Q := fun x H1 => ∃ d o kvs, x = .ref d ∧ H1 d = some (.frz o (.dK kvs)) ∧ R (Iti d o kvs) H1) B1 h2 fun od H' hk B' rl => ⟨a, od, vs, rfl, hk, h1 _ F1 M1 _ H' (Leq.refl _) rl B' (iti_of h2 k2 r2 rl)⟩
    | _ => exact h1.elim
theorem si_dvals {apos cpos : Pos} (h : SE X W e me) (hbase : attributeBase e "values" X.env (eval e X.env) = eval e X.env := by rfl) (hline : (apos.endLine == cpos.line) = true := by rfl) :
    SI X W tg (.Call (.Attribute e "values" apos) [] [] cpos) (dValsM me) :=
  SI.of (pi_values (pe_lk h) hbase hline) fun σ H F P0 Mm ρ b R B q => iM_then B q fun x d F1 M1 r1 b1 H1 l1 e1 B1 q1 h1 => by
    cases q1 with
    | dic h2 k2 r2 =>
      rename_i a vs ds
      exact lk_dic (Q := fun x H1 => ∃ d o kvs, x = .ref d ∧ H1 d = some (.frz o (.dK kvs)) ∧ R (Itd d o kvs) H1) B1 h2 fun od H' hk B' rl => ⟨a, od, vs, rfl, hk, h1 _ F1 M1 _ H' (Leq.refl _) rl B' (itd_of h2 r2 rl)⟩
    | _ => exact h1.elim
/-! enumerate -/
def lstOf : D → Option (List D)
  | .lst xs => some xs
  | .scr ns => some (ns.map .int)
  | _ => none
def enumL (xs : List D) : List D := xs.zipIdx.map fun p => .tup [.int (p.2 : Nat), p.1]
def enumM (ms : M (List D)) : M (List D) := M.bind ms fun ds => match ds with
  | [d] => M.bind (optM (lstOf d)) fun xs => M.ret (enumL xs)
  | _ => M.fail
theorem ite_of {K : PySem.W.Frag} {F : Hp} {fc : FrC} {P0 : PX fc} {ρ : Rho} {σ : St} {a : Addr} {vs : List V} {ds : List D} (hl : ∀ F' M' ρ' (fc1 : FrC) (P1 : PX fc1) b σ H, Leq F F' → Rle ρ ρ' → BRel K F' P1 M' ρ' b σ H → SqL K H a vs) (r : RepAll K F ρ vs ds) : ItrOf K P0 σ (Ite K a) F ρ (enumL ds) := by
  intro i F' M' ρ' fc1 P1 b σ' H' l e B
  have hq := hl F' M' ρ' fc1 P1 b σ' H' l e B
  have hL : (enumL ds).length = vs.length := by simp [enumL, r.length]
  rw [hL]
  refine ⟨fun hi => ⟨vs, hq, hi⟩, fun hi => ⟨⟨vs, vs[i], hq, by simp [hi]⟩, fun x H2 y => ?_⟩⟩
  obtain ⟨T, v, e3, e4, e5, e6⟩ := y
  subst e3 e5
  obtain ⟨B', l'⟩ := B.frozen e4 (.tup [.int (i : Nat), v])
  refine ⟨_, l', B', fun d hd => ?_⟩
  obtain ⟨d0, hd0, r0⟩ := r.getV (e6 vs hq)
  have : d = .tup [.int (i : Nat), d0] := by
    unfold enumL at hd
    rw [List.getElem?_map, List.getElem?_zipIdx, hd0] at hd
    simpa using hd.symm
  subst this
  exact .tup (.inl upd_same) (.cons (.int _) (.cons ((r0.mono l e).mono l' (Rle.refl _)) .nil))
theorem si_enum {elts : List Expr} {kk : Nat} {tpos p : Pos} {ms : M (List D)} (hm : X.mg "enumerate" = none) (ha : SA X W [e] ms) (hg : Gl X "enumerate" := by rfl) (hs : starEach [e] X.env = [(false, eval e X.env)] := by rfl) :
    SI X W (.Tuple elts kk tpos) (.Call (.Name "enumerate" p) [e] [] pos) (enumM ms) :=
  SI.of (pi_enum hg hm ha hs) fun σ H F P0 Mm ρ b R B q => iM_then B q fun xs ds F1 M1 r1 b1 H1 l1 e1 B1 q1 h1 => by
    cases q1 with
    | nil => exact h1.elim
    | cons ra q1 =>
      cases q1 with
      | nil =>
        cases ra with
        | lst h2 r2 => exact ⟨_, _, rfl, SqL.of (B1.lstAt h2), h1 _ F1 M1 r1 H1 (Leq.refl _) (Rle.refl _) B1 (ite_of (fun F' M' ρ' fc1 P1 b σ H l e B => SqL.of (B.lstAt (l _ _ h2))) r2)⟩
        | scr h2 => exact ⟨_, _, rfl, B1.sqL h2, h1 _ F1 M1 r1 H1 (Leq.refl _) (Rle.refl _) B1 (ite_of (fun F' M' ρ' fc1 P1 b σ H l e B => B.sqL (SqL.leq l h2)) (RepAll.of_ints _))⟩
        | _ => exact h1.elim
      | cons r2 q2 => exact h1.elim
end
end L2.VI
/-! VI43: dict comprehensions; sorted texts. -/
namespace L2.VI
open PySem PySem.Spec PyProof.Rows He

def keyOf : D → Option Key
  | .int i => some (.inl i)
  | .str x => some (.inr x)
  | _ => none
theorem rep_key {K : PySem.W.Frag} {F : Hp} {ρ : Rho} {v : V} {d : D} {k : Key} (r : Rep K F ρ v d) (h : keyOf d = some k) : v = kV k := by
  cases r <;> cases h <;> rfl
def compDL (g : TgM) (tt : M Bool) (mk mv : M D) (vs : List Nat) : List (Key × D) → List D → M (List (Key × D))
  | acc, [] => M.ret acc
  | acc, d :: ds => fun b => match g d b with
    | some b1 => (match tt b1 with
      | .ok true b2 => (match mk b2 with
        | .ok kd b3 => (match keyOf kd with
          | some k => (match mv b3 with
            | .ok y b4 => if acc.length < sizeLine then compDL g tt mk mv vs (dput acc k y) ds (b4.wip vs) else .fail
            | _ => .fail)
          | none => .fail)
        | _ => .fail)
      | .ok false b2 => compDL g tt mk mv vs acc ds (b2.wip vs)
      | _ => .fail)
    | none => .fail
def dcN (mi : M (List D)) (g : TgM) (tt : M Bool) (mk mv : M D) (vs : List Nat) : M SO := M.bind mi fun ds => fun b => match compDL g tt mk mv vs [] ds (b.wip vs) with
  | .ok acc b' => .ok (.dic acc) b'
  | _ => .fail
section
variable {X : Cx} {W : WX} {pos : Pos} {tg : Expr} {K : PySem.W.Frag} {F : Hp} {fc : FrC} {P0 : PX fc} {Mm H : Hp} {ρ : Rho} {bs : BSt} {σ : St}
theorem Frs.dput {p : Addr} {ds : List (Key × D)} {k : Key} {v : V} {d : D} (h : Frs K F P0 Mm ρ bs σ H p (.dic ds)) (r : Rep K F ρ v d) : ∃ vs : List (Key × V), H p = some (.dK vs) ∧ vs.length = ds.length ∧ Frs K F P0 Mm ρ bs σ (upd H p (.dK (putK vs k v))) p (.dic (L2.VI.dput ds k d)) := by
  obtain ⟨P, q, B, ⟨vs, hv, h1, h2⟩, pl, n0, nq⟩ := id h
  refine ⟨vs, B.h.ph _ _ hv, by simpa using congrArg List.length h1, h.chgF (u := .dK vs) (fun P' hP => ⟨_, hP, ?_⟩) rfl⟩
  exact kv_put r h1 h2
theorem tdc_of {P0 : PX (fcOf X)} {g : TgM} {mt : M Bool} {mk mv : M D} {mi : M (List D)} {vs : List Nat} {Q : VK} {b : BSt} (B : BRel X.K F P0 Mm ρ b σ H) (q : PostF X.K W P0 F ρ σ Q (dcN mi g mt mk mv vs b)) :
    tDc (fun σ H R => ∃ (F : Hp) (P0 : PX (fcOf X)) (Mm : Hp) (ρ : Rho) (b : BSt), BRel X.K F P0 Mm ρ b σ H ∧ PostI X.K W P0 F ρ σ R (mi b)) (tG (fc := fcOf X) X.K vs g) (tT (fc := fcOf X) X.K W0 mt) (tE (fc := fcOf X) X.K W0 mk) (tE (fc := fcOf X) X.K W0 mv) vs σ H Q := by
  refine ⟨F, P0, Mm, ρ, b, B, ?_⟩
  unfold dcN M.bind at q
  cases e : mi b with
  | exc x b' => rw [e] at q; exact q
  | fail => rw [e] at q; exact q.elim
  | ok ds b' =>
    rw [e] at q
    intro J F0 M0 r0 H0 l0 e0 B0 it Dn hD
    have q0 := PostF.mono q l0 e0
    dsimp only at q0
    have fr : Frs X.K F0 P0 M0 r0 (b'.wip vs) (wipe σ vs) (upd H0 Dn (.dK [])) Dn (.dic []) := (B0.wip vs).fresh (u := .dK []) hD (fun P' h => ⟨[], h, rfl, .nil⟩) rfl
    refine ⟨fun i n H => n = ds.length - i ∧ ∃ F' Mm ρ' b acc, Leq F0 F' ∧ Rle r0 ρ' ∧ Frs X.K F' P0 Mm ρ' b (wipe σ vs) H Dn (.dic acc) ∧ b = b.wip vs ∧ PostF X.K W P0 F' ρ' σ Q (match compDL g mt mk mv vs acc (ds.drop i) b with | .ok acc b' => .ok (.dic acc) b' | _ => .fail), ⟨_, rfl, F0, M0, r0, b'.wip vs, [], Leq.refl _, Rle.refl _, fr, ?_, q0⟩, ?_⟩
    · show b'.wip vs = (b'.wip vs).wip vs
      unfold BSt.wip
      rw [wipeT_idem]
    rintro i n H ⟨rfl, F1, M1, r1, b1, acc, l1, e1, fr1, bt, q1⟩
    obtain ⟨u, Bp, ru, n0, pl⟩ := fr1.prot
    obtain ⟨i1, i2⟩ := it i F1 M1 r1 _ _ b1 (wipe σ vs) H l1 e1 Bp
    by_cases hlt : i < ds.length
    · obtain ⟨hgo, hy⟩ := i2 hlt
      refine .inr ⟨hgo, fun H' => ∃ F' Mm ρ' b acc, Leq F0 F' ∧ Rle r0 ρ' ∧ Frs X.K F' P0 Mm ρ' b (wipe σ vs) H' Dn (.dic acc) ∧ b = b.wip vs ∧ PostF X.K W P0 F' ρ' σ Q (match compDL g mt mk mv vs acc (ds.drop (i + 1)) b with | .ok acc b' => .ok (.dic acc) b' | _ => .fail), fun H' h => ⟨ds.length - (i + 1), by omega, rfl, h⟩, fun x H2 y => ?_⟩
      obtain ⟨F2, l2, B2, r2⟩ := hy x H2 y
      have hd : ds.drop i = ds[i] :: ds.drop (i + 1) := List.drop_eq_getElem_cons hlt
      rw [hd] at q1
      refine ⟨F2, _, M1, r1, b1, ds[i], B2, r2 _ (List.getElem?_eq_getElem hlt), ?_⟩
      unfold compDL at q1
      cases eg : g ds[i] b1 with
      | none => rw [eg] at q1; exact q1.elim
      | some b3 =>
        rw [eg] at q1
        intro σ3 F3 M3 r3 H3 l3 e3 B3 w3
        rw [wipe_idem] at w3
        have w3' : wipe σ3 vs = wipe (wipe σ vs) vs := by rw [wipe_idem]; exact w3
        refine ⟨w3, F3, _, M3, r3, b3, B3, ?_⟩
        dsimp only at q1
        cases et : mt b3 with
        | fail => rw [et] at q1; exact q1.elim
        | exc x b4 => rw [et] at q1; exact q1.elim
        | ok t b4 =>
          rw [et] at q1
          intro tv F4 M4 r4 H4 l4 e4 B4 ht
          subst ht
          cases tv with
          | false =>
            exact (if_neg Bool.false_ne_true).mpr ⟨F4, M4, r4, b4.wip vs, acc, ((l1.trans l2).trans l3).trans l4, (e1.trans e3).trans e4, (B4.unprot (ru.monoP ((l2.trans l3).trans l4) (e3.trans e4) pl fun w z => z) n0 pl).back w3', (by
              show b4.wip vs = (b4.wip vs).wip vs
              unfold BSt.wip
              rw [wipeT_idem]), PostF.mono q1 ((l2.trans l3).trans l4) (e3.trans e4)⟩
          | true =>
            refine (if_pos rfl).mpr ⟨F4, _, M4, r4, b4, B4, ?_⟩
            dsimp only at q1
            cases ee : mk b4 with
            | fail => rw [ee] at q1; exact q1.elim
            | exc x b5 => rw [ee] at q1; exact q1.elim
            | ok kd b5 =>
              rw [ee] at q1
              intro kv F5 M5 r5 H5 l5 e5 B5 rk
              dsimp only at q1
              cases ek : keyOf kd with
              | none => rw [ek] at q1; exact q1.elim
              | some k =>
                rw [ek] at q1
                dsimp only at q1
                refine ⟨F5, _, M5, r5, b5, B5, ?_⟩
                cases ev : mv b5 with
                | fail => rw [ev] at q1; exact q1.elim
                | exc x b6 => rw [ev] at q1; exact q1.elim
                | ok y b6 =>
                  rw [ev] at q1
                  intro v F6 M6 r6 H6 l6 e6 B6 rv
                  dsimp only at q1
                  by_cases hz : acc.length < sizeLine
                  · rw [if_pos hz] at q1
                    have lt := (((l2.trans l3).trans l4).trans l5).trans l6
                    have et' := ((e3.trans e4).trans e5).trans e6
                    have fr6 := B6.unprot (ru.monoP lt et' pl fun w z => z) n0 pl
                    obtain ⟨vs', hv1, hv2, fr7⟩ := fr6.dput (k := k) rv
                    exact ⟨vs', k, rep_key rk ek, hv1, by rw [hv2]; exact hz, F6, M6, r6, b6.wip vs, L2.VI.dput acc k y, l1.trans lt, e1.trans et', fr7.back w3', (by
                      show b6.wip vs = (b6.wip vs).wip vs
                      unfold BSt.wip
                      rw [wipeT_idem]), PostF.mono q1 lt et'⟩
                  · rw [if_neg hz] at q1
                    exact q1.elim
    · refine .inl ⟨i1 (by omega), ?_⟩
      rw [List.drop_eq_nil_of_le (by omega)] at q1
      have z := fr1.back (vs := vs) (σ := σ) (wipe_idem vs)
      rw [← bt] at z
      exact q1 Dn F1 M1 r1 H (Leq.refl _) (Rle.refl _) z
theorem sn_dc {kx vx iter : Expr} {ifs : List Expr} {scope : Scope} {own : List (Str × Nat)} {mi : M (List D)} {g : TgM} {mt : M Bool} {mk mv : M D} (hN : X.N.Nodup) (hi : SI X W tg iter mi) (ok : BlkOk X.N X.env.scope scope own)
    (hg : ∀ (s : Shared) (H : Hp) (C : Addr) (cl : List (Str × Addr)) (fp : List Addr), SG (X.blk s H scope (compEnvC scope cl C X.env) fp) (own.map (·.2)) tg g) (ht : ∀ (s : Shared) (H : Hp) (C : Addr) (cl : List (Str × Addr)) (fp : List Addr), STs (X.blk s H scope (compEnvC scope cl C X.env) fp) W0 ifs mt)
    (hk : ∀ (s : Shared) (H : Hp) (C : Addr) (cl : List (Str × Addr)) (fp : List Addr), SE (X.blk s H scope (compEnvC scope cl C X.env) fp) W0 kx mk)
    (hv : ∀ (s : Shared) (H : Hp) (C : Addr) (cl : List (Str × Addr)) (fp : List Addr), SE (X.blk s H scope (compEnvC scope cl C X.env) fp) W0 vx mv) (hc : X.calm = true := by rfl) (hs : ∀ x, foldedSetIterable iter X.env x = pure x := by intro _; rfl) :
    SN X W (.DictComp kx vx [⟨tg, iter, ifs, 0⟩] scope pos) (dcN mi g mt mk mv (own.map (·.2))) := by
  exact SN.of (pe_dc (g := tG (fc := fcOf X) X.K (own.map fun (x : Str × Nat) => x.2) g) (tt := tT (fc := fcOf X) X.K W0 mt) (tk := tE (fc := fcOf X) X.K W0 mk) (tv := tE (fc := fcOf X) X.K W0 mv) hc hN hi ok hg ht hk hv hs) fun σ H F P0 Mm ρ b Q B q => tdc_of B q
end
end L2.VI
/-! VI44: sorted texts and numbers. -/
namespace L2.VI
open PySem PySem.Spec PyProof.Rows He

theorem ltCps_irr : ∀ a : List Nat, ltCps a a = false
  | [] => rfl
  | a :: r => by simp [ltCps, ltCps_irr r]
theorem ltCps_tri : ∀ {a b : List Nat}, ltCps a b = false → ltCps b a = false → a = b
  | [], [], _, _ => rfl
  | [], _ :: _, h, _ => by cases h
  | _ :: _, [], _, h => by cases h
  | a :: r, b :: t, h1, h2 => by
    simp only [ltCps, Bool.or_eq_false_iff, decide_eq_false_iff_not, Bool.and_eq_false_iff, beq_eq_false_iff_ne] at h1 h2
    have e : a = b := by omega
    subst e
    rw [ltCps_tri (h1.2.resolve_left (fun z => z rfl)) (h2.2.resolve_left (fun z => z rfl))]
theorem ltCps_trans : ∀ {a b c : List Nat}, ltCps a b = true → ltCps b c = true → ltCps a c = true
  | _, [], [], _, h => by cases h
  | [], [], _ :: _, h, _ => by cases h
  | _ :: _, [], _ :: _, h, _ => by cases h
  | [], _ :: _, [], _, h => by cases h
  | _ :: _, _ :: _, [], _, h => by cases h
  | [], _ :: _, _ :: _, _, _ => rfl
  | a :: r, b :: t, c :: u, h1, h2 => by
    simp only [ltCps, Bool.or_eq_true, decide_eq_true_eq, Bool.and_eq_true, beq_iff_eq] at h1 h2 ⊢
    rcases h1 with h1 | ⟨h1, h1'⟩
    · rcases h2 with h2 | ⟨h2, _⟩
      · exact .inl (Nat.lt_trans h1 h2)
      · exact .inl (h2 ▸ h1)
    · rcases h2 with h2 | ⟨h2, h2'⟩
      · exact .inl (h1 ▸ h2)
      · exact .inr ⟨h1.trans h2, ltCps_trans h1' h2'⟩
def leS (a b : Str) : Prop := ltCps b.cps.toList a.cps.toList = false
theorem leS_anti {a b : Str} (h : leS a b) (h' : leS b a) : a = b := by
  have := ltCps_tri h' h
  obtain ⟨⟨a⟩⟩ := a
  obtain ⟨⟨b⟩⟩ := b
  simp at this
  rw [this]
theorem leS_trans {a b c : Str} (h : leS a b) (h' : leS b c) : leS a c := by
  unfold leS at *
  cases e : ltCps c.cps.toList a.cps.toList with
  | false => rfl
  | true =>
    -- c < a; b is not below a, so a < b or a = b
    cases e2 : ltCps a.cps.toList b.cps.toList with
    | true => rw [ltCps_trans e e2] at h'; cases h'
    | false => rw [ltCps_tri e2 h] at e; rw [e] at h'; cases h'
theorem rising_pw : ∀ {r : List Str} {p : Str}, risingS p r = true → (p :: r).Pairwise leS
  | [], p, _ => by simp
  | x :: r, p, h => by
    simp only [risingS, Bool.and_eq_true, Bool.not_eq_true'] at h
    have ih := rising_pw h.2
    have px : leS p x := h.1
    refine List.pairwise_cons.mpr ⟨fun y hy => ?_, ih⟩
    rcases List.mem_cons.mp hy with rfl | hy
    · exact px
    · exact leS_trans px ((List.pairwise_cons.mp ih).1 y hy)
theorem sorted_pw : ∀ {r : List Str}, sortedS r = true → r.Pairwise leS
  | [], _ => .nil
  | _ :: _, h => rising_pw h
theorem pw_uniq {α : Type} {le : α → α → Prop} (anti : ∀ a b, le a b → le b a → a = b) : ∀ {xs ys : List α}, xs.Perm ys → xs.Pairwise le → ys.Pairwise le → xs = ys
  | [], ys, p, _, _ => (List.nil_perm.mp p).symm
  | x :: xs, [], p, _, _ => by cases p.length_eq
  | x :: xs, y :: ys, p, h1, h2 => by
    have e : x = y := by
      rcases List.mem_cons.mp (p.mem_iff.mp (.head _)) with e | hx
      · exact e
      · rcases List.mem_cons.mp (p.symm.mem_iff.mp (List.Mem.head _)) with e | hy
        · exact e.symm
        · exact anti _ _ ((List.pairwise_cons.mp h1).1 y hy) ((List.pairwise_cons.mp h2).1 x hx)
    subst e
    rw [pw_uniq anti (List.Perm.cons_inv p) (List.pairwise_cons.mp h1).2 (List.pairwise_cons.mp h2).2]
def insS (x : Str) : List Str → List Str
  | [] => [x]
  | y :: r => if ltCps y.cps.toList x.cps.toList = true then y :: insS x r else x :: y :: r
def sortS : List Str → List Str
  | [] => []
  | x :: r => insS x (sortS r)
theorem insS_perm (x : Str) : ∀ r, (insS x r).Perm (x :: r)
  | [] => .refl _
  | y :: r => by
    unfold insS
    split
    · exact (List.Perm.cons y (insS_perm x r)).trans (List.Perm.swap ..)
    · exact .refl _
theorem sortS_perm : ∀ r, (sortS r).Perm r
  | [] => .refl _
  | x :: r => (insS_perm x _).trans (List.Perm.cons x (sortS_perm r))
theorem insS_pw (x : Str) : ∀ {r : List Str}, r.Pairwise leS → (insS x r).Pairwise leS
  | [], _ => by simp [insS]
  | y :: r, h => by
    unfold insS
    split
    · rename_i hl
      refine List.pairwise_cons.mpr ⟨fun z hz => ?_, insS_pw x (List.pairwise_cons.mp h).2⟩
      rcases List.mem_cons.mp ((insS_perm x r).mem_iff.mp hz) with rfl | hz
      · unfold leS
        cases e : ltCps z.cps.toList y.cps.toList with
        | false => rfl
        | true => have := ltCps_trans hl e; rw [ltCps_irr] at this; cases this
      · exact (List.pairwise_cons.mp h).1 z hz
    · rename_i hl
      have xy : leS x y := by
        unfold leS
        cases e : ltCps y.cps.toList x.cps.toList with
        | false => rfl
        | true => exact absurd e hl
      refine List.pairwise_cons.mpr ⟨fun z hz => ?_, h⟩
      rcases List.mem_cons.mp hz with rfl | hz
      · exact xy
      · exact leS_trans xy ((List.pairwise_cons.mp h).1 z hz)
theorem sortS_pw : ∀ r, (sortS r).Pairwise leS
  | [] => .nil
  | x :: r => insS_pw x (sortS_pw r)
theorem sortS_uniq {xs ys : List Str} (p : ys.Perm xs) (h : sortedS ys = true) : ys = sortS xs := pw_uniq (fun _ _ => leS_anti) (p.trans (sortS_perm xs).symm) (sorted_pw h) (sortS_pw xs)
def insI (x : Int) : List Int → List Int
  | [] => [x]
  | y :: r => if y < x then y :: insI x r else x :: y :: r
def sortI : List Int → List Int
  | [] => []
  | x :: r => insI x (sortI r)
theorem insI_perm (x : Int) : ∀ r, (insI x r).Perm (x :: r)
  | [] => .refl _
  | y :: r => by
    unfold insI
    split
    · exact (List.Perm.cons y (insI_perm x r)).trans (List.Perm.swap ..)
    · exact .refl _
theorem sortI_perm : ∀ r, (sortI r).Perm r
  | [] => .refl _
  | x :: r => (insI_perm x _).trans (List.Perm.cons x (sortI_perm r))
theorem insI_pw (x : Int) : ∀ {r : List Int}, r.Pairwise (· ≤ ·) → (insI x r).Pairwise (· ≤ ·)
  | [], _ => by simp [insI]
  | y :: r, h => by
    unfold insI
    split
    · rename_i hl
      refine List.pairwise_cons.mpr ⟨fun z hz => ?_, insI_pw x (List.pairwise_cons.mp h).2⟩
      rcases List.mem_cons.mp ((insI_perm x r).mem_iff.mp hz) with rfl | hz
      · omega
      · exact (List.pairwise_cons.mp h).1 z hz
    · rename_i hl
      refine List.pairwise_cons.mpr ⟨fun z hz => ?_, h⟩
      rcases List.mem_cons.mp hz with rfl | hz
      · omega
      · have := (List.pairwise_cons.mp h).1 z hz; omega
theorem sortI_pw : ∀ r, (sortI r).Pairwise (· ≤ ·)
  | [] => .nil
  | x :: r => insI_pw x (sortI_pw r)
theorem sortI_uniq {xs ys : List Int} (p : ys.Perm xs) (h : ys.Pairwise (· ≤ ·)) : ys = sortI xs := pw_uniq (fun _ _ a b => Int.le_antisymm a b) (p.trans (sortI_perm xs).symm) h (sortI_pw xs)

/-! ### the rule -/
def strsOf : List D → Option (List Str)
  | [] => some []
  | .str x :: r => (strsOf r).map (x :: ·)
  | _ :: _ => none
def intsOf : List D → Option (List Int)
  | [] => some []
  | .int x :: r => (intsOf r).map (x :: ·)
  | _ :: _ => none
def sortO (ds : List D) : Option SO := match strsOf ds with
  | some xs => if xs.length < 64 then some (.lst ((sortS xs).map .str)) else none
  | none => (match intsOf ds with
    | some ns => some (.lst ((sortI ns).map .int))
    | none => none)
/-- sorted(list), sorted(dict): what it makes -/
def toSrt : List D → Option SO
  | [.lst ds] => sortO ds
  | [.scr ns] => some (.lst ((sortI ns).map .int))
  | [.dic kvs] => (match strsOf (kvs.map fun kv => keyD kv.1) with
    | some xs => if xs.length < 64 then some (.lst ((sortS xs).map .str)) else none
    | none => none)
  | _ => none
def sortN (ms : M (List D)) : M SO := M.bind ms fun ds => optM (toSrt ds)
theorem strsOf_eq : ∀ {ds : List D} {xs : List Str}, strsOf ds = some xs → ds = xs.map D.str
  | [], _, h => by cases h; rfl
  | d :: r, xs, h => by
    cases d <;> first
      | (unfold strsOf at h
         obtain ⟨ys, e, rfl⟩ := Option.map_eq_some_iff.mp h
         rw [strsOf_eq e]; rfl)
      | (cases h)
theorem intsOf_eq : ∀ {ds : List D} {xs : List Int}, intsOf ds = some xs → ds = xs.map D.int
  | [], _, h => by cases h; rfl
  | d :: r, xs, h => by
    cases d <;> first
      | (unfold intsOf at h
         obtain ⟨ys, e, rfl⟩ := Option.map_eq_some_iff.mp h
         rw [intsOf_eq e]; rfl)
      | (cases h)
section
variable {X : Cx} {W : WX} {pos : Pos} {e : Expr} {mas : M (List D)}
theorem keys_strs : ∀ {kvs : List (Key × D)} {xs : List Str}, (kvs.map fun kv => keyD kv.1) = xs.map D.str → kvs.map (·.1) = xs.map Sum.inr
  | [], [], _ => rfl
  | [], _ :: _, h => by cases h
  | _ :: _, [], h => by cases h
  | (k, d) :: r, x :: xs, h => by
    simp only [List.map_cons, List.cons.injEq] at h ⊢
    refine ⟨?_, keys_strs h.2⟩
    have := h.1
    cases k with
    | inl i => cases this
    | inr y => cases this; rfl
theorem sn_sorted {p : Pos} (hm : X.mg "sorted" = none) (ha : SA X W [e] mas) (hc : X.calm = true := by rfl) (hg : Gl X "sorted" := by rfl)
    (he : starEach [e] X.env = (false, eval e X.env) :: starEach [] X.env := by rfl) : SN X W (.Call (.Name "sorted" p) [e] [] pos) (sortN mas) :=
  SN.of (pe_callB (id := "sorted") CallR.any hg hm (by decide +kernel) ha (by decide) (by decide) he) fun σ H F P0 Mm ρ bs Q B q => tM_thenF B q fun xs ds F1 M1 r1 b1 H1 l1 e1 B1 q1 h1 => by
    obtain ⟨so, ho, h1⟩ := h1.opt
    unfold toSrt at ho
    split at ho
    · rename_i ds
      cases q1 with | cons r rr => cases rr; cases r with | lst h2 h3 =>
        unfold sortO at ho
        split at ho
        · rename_i zs ez
          split at ho
          · rename_i h64
            cases ho
            have hv : _ = zs.map V.str := RepAll.strs (by rw [← strsOf_eq ez]; exact h3)
            refine ⟨_, cr_sortedS, _, zs, rfl, by rw [← hv]; exact SqL.of (B1.lstAt h2), h64, fun ys p pm sd hp => ?_⟩
            rw [sortS_uniq pm sd]
            exact h1.now B1 hp (fun P' z => ⟨_, z, RepAll.of_strs _⟩) rfl
          · cases ho
        · split at ho
          · rename_i zs ez
            cases ho
            have hv : _ = zs.map V.int := RepAll.ints (by rw [← intsOf_eq ez]; exact h3)
            refine ⟨_, cr_sortedI, _, zs, rfl, by rw [← hv]; exact SqL.of (B1.lstAt h2), fun ys p pm sd hp => ?_⟩
            rw [sortI_uniq pm sd]
            exact h1.now B1 hp (fun P' z => ⟨_, z, RepAll.of_ints _⟩) rfl
          · cases ho
    · rename_i ns
      cases ho
      cases q1 with | cons r rr => cases rr; cases r with | scr h2 =>
        refine ⟨_, cr_sortedI, _, ns, rfl, B1.sqL h2, fun ys p pm sd hp => ?_⟩
        rw [sortI_uniq pm sd]
        exact h1.now B1 hp (fun P' z => ⟨_, z, RepAll.of_ints _⟩) rfl
    · rename_i kvs
      split at ho
      · rename_i zs ez
        split at ho
        · rename_i h64
          cases ho
          cases q1 with | cons r rr => cases rr; cases r with | dic h2 k2 r2 =>
            refine ⟨_, call_sortedD hc, _, _, zs, rfl, B1.dicAt h2, k2.trans (keys_strs (strsOf_eq ez)), h64, fun ys p pm sd hp => ?_⟩
            rw [sortS_uniq pm sd]
            exact h1.now B1 hp (fun P' z => ⟨_, z, RepAll.of_strs _⟩) rfl
        · cases ho
      · cases ho
    · cases ho
end
end L2.VI
/-! VI45: facts of == by an own __eq__; what is never reached. -/
namespace L2.VI
open PySem PySem.Spec PyProof.Rows He

theorem se_fail {X : Cx} {W : WX} {e : Expr} : SE X W e M.fail := ⟨fun _ _ _ _ _ _ ⟨_, _, _, _, _, _, q⟩ => False.elim q⟩
def eqCB (c : Str) (K : PySem.W.Frag) : Bool := eqO (PySem.W.findIn K (.ref (ga K c)) "__eq__") (some (some (.ref (fAd K (c, some "__eq__"))))) && (eqO (PySem.W.findIn K (.ref (ga K c)) "__ne__") (some (some (.builtin "object.__ne__"))) &&
  (PySem.W.isFn K (.ref (fAd K (c, some "__eq__"))) && (decide (PySem.W.subIn K (.ref (ga K c)) (.type "object") = some true) && (["NoneType", "bool", "int", "str", "tuple", "list"].all fun n => PySem.W.notFirst K (ga K c) (.type n)))))
theorem eqCB_ok {c : Str} {K : PySem.W.Frag} (h : eqCB c K = true) : EqC K (ga K c) (fAd K (c, some "__eq__")) := by
  obtain ⟨h1, h⟩ := ba h
  obtain ⟨h2, h⟩ := ba h
  obtain ⟨h3, h⟩ := ba h
  obtain ⟨h4, h5⟩ := ba h
  exact ⟨eqO_ok h1, eqO_ok h2, h3, of_decide_eq_true h4, h5⟩
def nfB (c d : Str) (K : PySem.W.Frag) : Bool := PySem.W.notFirst K (ga K c) (.ref (ga K d))
theorem nfB_ok {c d : Str} {K : PySem.W.Frag} (h : nfB c d K = true) : PySem.W.notFirst K (ga K c) (.ref (ga K d)) = true := h
section
variable {X : Cx} {W : WX} {k : Nat} {f : Addr} {fd : FuncData} {ps : List Str} {n : Nat} {m : FnD} {dvs : List V} {dfl : List D} {c mn : Str} {p pos apos : Pos} {o : Expr} {ma : M D}
/-- C(k = v, ..) -/
theorem se_makeK0 {kws : List Keyword} {mks : M (List D)} {ks : List Str} {idx : List Nat} (tk : Takes X W) (Mc : Mk X.K (ga X.K c) f) (F : FnOk X.prog X.w X.K X.mg X.base (CV X.prog X.w) k f fd ps (spV X.K n m)) (ar : Ar m n) (hr : Room (k + 1) X.A) (hm : X.mg c = some (.ref (ga X.K c)))
    (hb : KBm X.K fd ps 0 ks dvs idx) (hf : Paired Flat dvs dfl) (hkw : SK X W kws mks) (hg : Gl X c := by rfl) (hall : (backToKw pos (keywordEach kws X.env)).all (·.1.isSome) = true := by rfl) (hks : (backToKw pos (keywordEach kws X.env)).filterMap (·.1) = ks := by rfl)
    (hdb : (c == ("__debug__" : Str)) = false := by decide)
    (hpl : ((backTo pos (starEach [] X.env)).any (·.1) || (backToKw pos (keywordEach kws X.env)).any (·.1.isNone)) = false := by rfl) :
    SE X W (.Call (.Name c p) [] kws pos) (M.bind (M.ret []) fun zs => M.bind mks fun ws => guardM (zs.length = 0 ∧ ws.length = ks.length) (makeG c m idx (zs ++ (ws ++ dfl)))) := by
  obtain ⟨its, rd, hb⟩ := hb
  refine ⟨fun pins s σ H Q I ⟨Fz, P0, Mm, ρ, bs, B, q⟩ => ?_⟩
  refine wpAny_Call_Name_kw (ld_glob I hg hm ?_ hdb)
  refine PySem.W.callWith_KW0 (h₀ := X.base) I.ok.mod.kin Mc.kp hall (thn (hkw.run pos pins s σ H (fun zv H2 => zv.length = ks.length ∧ ∀ x dx, H2 x = none → H2 dx = none → dx ≠ x →
      spV X.K n m (kperm idx (.ref x :: ([] ++ (zv ++ dvs)))) (upd (upd H2 dx (.own x)) x (.ins (ga X.K c) dx [])) (fun v H3 => v = .non ∧ Q (.ref x) H3) (WE W σ)) I (tM_then (m := mks) B q fun ys ws F2 M2 r2 b2 H2 l2 e2 B2 q2 h2 => ?_)) fun ws s2 ⟨zv, H2, I2, rz, q2⟩ => ⟨I2.kIn, ?_⟩) hpl
  rotate_left
  · rw [hks]
    obtain ⟨l2, q2⟩ := q2
    exact run_makeK (us := []) (vs := []) Mc F hr (fun s u hs => hb s [u] ws hs rfl (rz.length.symm.trans l2)) (passAt tk σ) I2 .nil rz rd q2
  · obtain ⟨⟨g1, g2⟩, h2⟩ := Post.guard h2
    exact ⟨q2.length.trans g2, fun x dx nx ndx ne => sp_make ar B2 (RepAll.nil.append (q2.append (flats hf))) h2 x dx nx ndx ne⟩
end
end L2.VI
/-! VI46: + of tuples, the left one empty, too. -/
namespace L2.VI
open PySem PySem.Spec PyProof.Rows He

def addT : D → D → M D
  | .tup xs, .tup ys => guardM (xs.length + ys.length ≤ sizeLine) (M.ret (.tup (xs ++ ys)))
  | a, b => addD a b
theorem ov_addT {X : Cx} {W : WX} : OpV X W (binaryOp .Add) addT := by
  intro x y a c σ H F P0 Mm ρ b Q B rx ry h
  by_cases ht : ∃ xs ys, a = .tup xs ∧ c = .tup ys
  · obtain ⟨xs, ys, rfl, rfl⟩ := ht
    cases rx with
    | tup h1 r1 =>
      cases ry with
      | tup h2 r2 =>
        obtain ⟨hl, h⟩ := Post.guard h
        refine ⟨_, op_catA, _, _, _, _, rfl, rfl, Rep.sqT (P := fun _ => none) B h1, Rep.sqT (P := fun _ => none) B h2, by rw [r1.length, r2.length]; exact hl, ?_⟩
        refine ⟨fun e => ?_, fun _ e => ?_, fun _ _ p hp => h.new B hp fun F' l e => .tup (.inl e) ((r1.mono l (Rle.refl _)).append (r2.mono l (Rle.refl _)))⟩
        · subst e
          cases r1
          exact h.now B (.tup h2 r2)
        · subst e
          cases r2
          exact h.now B (by rw [List.append_nil]; exact .tup h1 r1)
  · refine ov_add (W := W) x y a c σ H F P0 Mm ρ b Q B rx ry ?_
    unfold addT at h
    split at h
    · rename_i xs ys
      exact absurd ⟨xs, ys, rfl, rfl⟩ ht
    · exact h
end L2.VI
/-! VI47: the newer words at a state, for simp. -/
namespace L2.VI
open PySem PySem.Spec PyProof.Rows He
section
variable {b : BSt}
@[simp] theorem anyM_ap {m : M D} : anyM m b = (m b).thn fun d => optM (anyOf d) := rfl
@[simp] theorem anyOf_lst {xs : List D} : anyOf (.lst xs) = some xs := rfl
@[simp] theorem anyOf_tup {xs : List D} : anyOf (.tup xs) = some xs := rfl
@[simp] theorem anyOf_scr {ns : List Int} : anyOf (.scr ns) = some (ns.map .int) := rfl
@[simp] theorem anyOf_dic {kvs : List (Key × D)} : anyOf (.dic kvs) = some (kvs.map fun kv => keyD kv.1) := rfl
@[simp] theorem anyOf_str {z : Str} : anyOf (.str z) = some (z.cps.toList.map fun c => .str ⟨#[c]⟩) := rfl
@[simp] theorem zipM_ap {n : Nat} {ms : M (List D)} : zipM n ms b = (ms b).thn fun ds => guardM (ds.length = n) (M.bind (optM (itemsAll ds)) fun xss => M.ret (zipRows xss)) := rfl
@[simp] theorem itemsAll_nil : itemsAll [] = some [] := rfl
@[simp] theorem itemsAll_lst {xs : List D} {ds : List D} : itemsAll (.lst xs :: ds) = (itemsAll ds).map (xs :: ·) := by
  rw [itemsAll]
  cases itemsAll ds <;> rfl
@[simp] theorem itemsAll_tup {xs : List D} {ds : List D} : itemsAll (.tup xs :: ds) = (itemsAll ds).map (xs :: ·) := by
  rw [itemsAll]
  cases itemsAll ds <;> rfl
@[simp] theorem addT_int {i j : Int} : addT (.int i) (.int j) = M.ret (.int (i + j)) := rfl
@[simp] theorem addT_tup {xs ys : List D} : addT (.tup xs) (.tup ys) b = if xs.length + ys.length ≤ sizeLine then .ok (.tup (xs ++ ys)) b else .fail := rfl
@[simp] theorem lenD_dic {kvs : List (Key × D)} : lenD [.dic kvs] b = .ok (.int kvs.length) b := rfl
@[simp] theorem sortN_ap {ms : M (List D)} : sortN ms b = (ms b).thn fun ds => optM (toSrt ds) := rfl
@[simp] theorem dcN_ap {mi : M (List D)} {g : TgM} {mt : M Bool} {mk mv : M D} {vs : List Nat} : dcN mi g mt mk mv vs b = (mi b).thn fun ds => fun b => match compDL g mt mk mv vs [] ds (b.wip vs) with
  | .ok acc b' => .ok (.dic acc) b'
  | _ => .fail := rfl
@[simp] theorem eqUD_ap {c : Str} {cs : List Str} {m : FnD} {x y : D} : eqUD c cs m x y b = if isIns c x b.g = true ∧ eqRt cs b.g y = true then callN m [x, y] b else .fail := rfl
@[simp] theorem neUD_ap {c : Str} {cs : List Str} {m : FnD} {x y : D} : neUD c cs m x y b = (eqUD c cs m x y b).thn fun d => match d with
  | .bl r => M.ret (.bl (!r))
  | _ => M.fail := rfl
end
end L2.VI
/-! VI48: is, is not of two truth values. -/
namespace L2.VI
open PySem PySem.Spec PyProof.Rows He
theorem op_isBl {X : Cx} : OpR X (compareOp .Is) (fun x y H Q => ∃ i j, x = .bl i ∧ y = .bl j ∧ Q (.bl (decide (i = j))) H) := by
  intro pins s σ H x y v u Q I rx ry h
  obtain ⟨i, j, rfl, rfl, q⟩ := h
  cases rx
  cases ry
  refine wpAny_pure ⟨.bl (decide (i = j)), H, I, ?_, q⟩
  cases i <;> cases j <;> rfl
theorem op_notBl {X : Cx} : OpR X (compareOp .IsNot) (fun x y H Q => ∃ i j, x = .bl i ∧ y = .bl j ∧ Q (.bl (!decide (i = j))) H) := by
  intro pins s σ H x y v u Q I rx ry h
  obtain ⟨i, j, rfl, rfl, q⟩ := h
  cases rx
  cases ry
  refine wpAny_pure ⟨.bl (!decide (i = j)), H, I, ?_, q⟩
  cases i <;> cases j <;> rfl
def isBD : D → D → M D
  | .bl x, .bl y => M.ret (.bl (decide (x = y)))
  | a, c => isND a c
def notBD : D → D → M D
  | .bl x, .bl y => M.ret (.bl (!decide (x = y)))
  | a, c => notND a c
theorem ov_isB {X : Cx} {W : WX} : OpV X W (compareOp .Is) isBD := by
  intro x y a c σ H F P0 Mm ρ b Q B rx ry h
  unfold isBD at h
  split at h
  · cases rx; cases ry; exact ⟨_, op_isBl, _, _, rfl, rfl, h.now B (.bl _)⟩
  · exact ov_isN (W := W) x y _ _ σ H F P0 Mm ρ b Q B rx ry h
theorem ov_notB {X : Cx} {W : WX} : OpV X W (compareOp .IsNot) notBD := by
  intro x y a c σ H F P0 Mm ρ b Q B rx ry h
  unfold notBD at h
  split at h
  · cases rx; cases ry; exact ⟨_, op_notBl, _, _, rfl, rfl, h.now B (.bl _)⟩
  · exact ov_notN (W := W) x y _ _ σ H F P0 Mm ρ b Q B rx ry h
@[simp] theorem isBD_bl {x y : Bool} : isBD (.bl x) (.bl y) = M.ret (.bl (decide (x = y))) := rfl
@[simp] theorem notBD_bl {x y : Bool} : notBD (.bl x) (.bl y) = M.ret (.bl (!decide (x = y))) := rfl
@[simp] theorem isBD_n {a : D} : isBD a .non = isND a .non := by cases a <;> rfl
@[simp] theorem notBD_n {a : D} : notBD a .non = notND a .non := by cases a <;> rfl
end L2.VI

namespace L2.VI.K72
open PySem PySem.Spec PyProof.Rows He L2 L2.VI
noncomputable section
abbrev PW : Program := PySem.Challenge.pw_wholepaid_k72_plans_and_months
def st (i : Nat) : Stmt := PW.main.body.getD i (.Pass ⟨0, 0, 0, 0⟩)
def clsB : Stmt → List Stmt
  | .ClassDef (body := b) .. => b
  | _ => []
def stC (i j : Nat) : Stmt := (clsB (st i)).getD j (.Pass ⟨0, 0, 0, 0⟩)
abbrev s_sup_BadNumber : Stmt := stC 4 0
def d_sup_BadNumber : He.DefD := ⟨("BadNumber", some "__init__"), "__init__", "BadNumber.__init__", defArgs s_sup_BadNumber, defBody s_sup_BadNumber, defScope s_sup_BadNumber, [], []⟩
abbrev s_sup_BadPlan : Stmt := stC 5 0
def d_sup_BadPlan : He.DefD := ⟨("BadPlan", some "__init__"), "__init__", "BadPlan.__init__", defArgs s_sup_BadPlan, defBody s_sup_BadPlan, defScope s_sup_BadPlan, [], []⟩
abbrev s_sup_BadBook : Stmt := stC 3 0
def d_sup_BadBook : He.DefD := ⟨("BadBook", some "__init__"), "__init__", "BadBook.__init__", defArgs s_sup_BadBook, defBody s_sup_BadBook, defScope s_sup_BadBook, [], []⟩
def sups : Sups := [("BadNumber", d_sup_BadNumber), ("BadPlan", d_sup_BadPlan), ("BadBook", d_sup_BadBook)]
def tabs : List (Str × Str) := [("_law_refused_right", ((("_law_refused_right" : Str) ++ ".<locals>.") ++ "<lambda>"))]
abbrev s_month_with : Stmt := st 35
def d_month_with : He.DefD := ⟨("month_with", none), "month_with", "month_with", defArgs s_month_with, defBody s_month_with, defScope s_month_with, [], []⟩
abbrev s_is_number : Stmt := st 18
def d_is_number : He.DefD := ⟨("is_number", none), "is_number", "is_number", defArgs s_is_number, defBody s_is_number, defScope s_is_number, [], []⟩
abbrev s_is_number_in : Stmt := st 19
def d_is_number_in : He.DefD := ⟨("is_number_in", none), "is_number_in", "is_number_in", defArgs s_is_number_in, defBody s_is_number_in, defScope s_is_number_in, [], []⟩
abbrev s_need_plan : Stmt := st 33
def d_need_plan : He.DefD := ⟨("need_plan", none), "need_plan", "need_plan", defArgs s_need_plan, defBody s_need_plan, defScope s_need_plan, [], []⟩
abbrev s_need_balance : Stmt := st 34
def d_need_balance : He.DefD := ⟨("need_balance", none), "need_balance", "need_balance", defArgs s_need_balance, defBody s_need_balance, defScope s_need_balance, [], []⟩
abbrev s_month : Stmt := st 36
def d_month : He.DefD := ⟨("month", none), "month", "month", defArgs s_month, defBody s_month, defScope s_month, [], []⟩
abbrev s__law_step : Stmt := st 50
def d__law_step : He.DefD := ⟨("_law_step", none), "_law_step", "_law_step", defArgs s__law_step, defBody s__law_step, defScope s__law_step, [], []⟩
abbrev s__law_mixed : Stmt := st 39
def d__law_mixed : He.DefD := ⟨("_law_mixed", none), "_law_mixed", "_law_mixed", defArgs s__law_mixed, defBody s__law_mixed, defScope s__law_mixed, [], []⟩
abbrev s__law_take : Stmt := st 40
def d__law_take : He.DefD := ⟨("_law_take", none), "_law_take", "_law_take", defArgs s__law_take, defBody s__law_take, defScope s__law_take, [], []⟩
abbrev s__law_pick : Stmt := st 41
def d__law_pick : He.DefD := ⟨("_law_pick", none), "_law_pick", "_law_pick", defArgs s__law_pick, defBody s__law_pick, defScope s__law_pick, [], []⟩
abbrev s__law_sum_drawn : Stmt := st 49
def d__law_sum_drawn : He.DefD := ⟨("_law_sum_drawn", none), "_law_sum_drawn", "_law_sum_drawn", defArgs s__law_sum_drawn, defBody s__law_sum_drawn, defScope s__law_sum_drawn, [], []⟩
abbrev s_Plan_plus : Stmt := stC 32 4
def d_Plan_plus : He.DefD := ⟨("Plan", some "plus"), "plus", "Plan.plus", defArgs s_Plan_plus, defBody s_Plan_plus, defScope s_Plan_plus, [], []⟩
abbrev s_Plan_least : Stmt := stC 32 3
def d_Plan_least : He.DefD := ⟨("Plan", some "least"), "least", "Plan.least", defArgs s_Plan_least, defBody s_Plan_least, defScope s_Plan_least, [], []⟩
abbrev s_Plan_share : Stmt := stC 32 2
def d_Plan_share : He.DefD := ⟨("Plan", some "share"), "share", "Plan.share", defArgs s_Plan_share, defBody s_Plan_share, defScope s_Plan_share, [], []⟩
abbrev s_Plan_rate : Stmt := stC 32 1
def d_Plan_rate : He.DefD := ⟨("Plan", some "rate"), "rate", "Plan.rate", defArgs s_Plan_rate, defBody s_Plan_rate, defScope s_Plan_rate, [], []⟩
abbrev s__law_shown : Stmt := st 44
def d__law_shown : He.DefD := ⟨("_law_shown", none), "_law_shown", "_law_shown", defArgs s__law_shown, defBody s__law_shown, defScope s__law_shown, [], []⟩
abbrev s_Plan_init : Stmt := stC 32 0
def d_Plan_init : He.DefD := ⟨("Plan", some "__init__"), "__init__", "Plan.__init__", defArgs s_Plan_init, defBody s_Plan_init, defScope s_Plan_init, [.bl false], []⟩
abbrev s__law_caught : Stmt := st 47
def d__law_caught : He.DefD := ⟨("_law_caught", none), "_law_caught", "_law_caught", defArgs s__law_caught, defBody s__law_caught, defScope s__law_caught, [], []⟩
abbrev s__law_is_number : Stmt := st 45
def d__law_is_number : He.DefD := ⟨("_law_is_number", none), "_law_is_number", "_law_is_number", defArgs s__law_is_number, defBody s__law_is_number, defScope s__law_is_number, [], []⟩
abbrev s__law_wrong : Stmt := st 46
def d__law_wrong : He.DefD := ⟨("_law_wrong", none), "_law_wrong", "_law_wrong", defArgs s__law_wrong, defBody s__law_wrong, defScope s__law_wrong, [], []⟩
abbrev s__law_refused_right : Stmt := st 48
def d__law_refused_right : He.DefD := ⟨("_law_refused_right", none), "_law_refused_right", "_law_refused_right", defArgs s__law_refused_right, defBody s__law_refused_right, defScope s__law_refused_right, [], []⟩
abbrev s_is_name : Stmt := st 21
def d_is_name : He.DefD := ⟨("is_name", none), "is_name", "is_name", defArgs s_is_name, defBody s_is_name, defScope s_is_name, [], []⟩
abbrev s_is_order : Stmt := st 25
def d_is_order : He.DefD := ⟨("is_order", none), "is_order", "is_order", defArgs s_is_order, defBody s_is_order, defScope s_is_order, [], []⟩
abbrev s_is_kind : Stmt := st 23
def d_is_kind : He.DefD := ⟨("is_kind", none), "is_kind", "is_kind", defArgs s_is_kind, defBody s_is_kind, defScope s_is_kind, [], []⟩
abbrev s_are_kinds : Stmt := st 24
def d_are_kinds : He.DefD := ⟨("are_kinds", none), "are_kinds", "are_kinds", defArgs s_are_kinds, defBody s_are_kinds, defScope s_are_kinds, [], []⟩
abbrev s_is_list : Stmt := st 20
def d_is_list : He.DefD := ⟨("is_list", none), "is_list", "is_list", defArgs s_is_list, defBody s_is_list, defScope s_is_list, [], []⟩
abbrev s_are_lengths : Stmt := st 22
def d_are_lengths : He.DefD := ⟨("are_lengths", none), "are_lengths", "are_lengths", defArgs s_are_lengths, defBody s_are_lengths, defScope s_are_lengths, [], []⟩
abbrev s_Book_init : Stmt := stC 27 0
def d_Book_init : He.DefD := ⟨("Book", some "__init__"), "__init__", "Book.__init__", defArgs s_Book_init, defBody s_Book_init, defScope s_Book_init, [.int 0, .str "day", .non], []⟩
abbrev s_Plan_eq : Stmt := stC 32 5
def d_Plan_eq : He.DefD := ⟨("Plan", some "__eq__"), "__eq__", "Plan.__eq__", defArgs s_Plan_eq, defBody s_Plan_eq, defScope s_Plan_eq, [], []⟩
abbrev s__law_planned : Stmt := st 43
def d__law_planned : He.DefD := ⟨("_law_planned", none), "_law_planned", "_law_planned", defArgs s__law_planned, defBody s__law_planned, defScope s__law_planned, [], []⟩
abbrev s__law_parts : Stmt := st 42
def d__law_parts : He.DefD := ⟨("_law_parts", none), "_law_parts", "_law_parts", defArgs s__law_parts, defBody s__law_parts, defScope s__law_parts, [], []⟩
abbrev s__law_begun : Stmt := st 38
def d__law_begun : He.DefD := ⟨("_law_begun", none), "_law_begun", "_law_begun", defArgs s__law_begun, defBody s__law_begun, defScope s__law_begun, [], []⟩
abbrev s_law : Stmt := st 51
def d_law : He.DefD := ⟨("law", none), "law", "law", defArgs s_law, defBody s_law, defScope s_law, [], []⟩
def fn : List He.DefD := [d_month_with, d_is_number, d_is_number_in, d_need_plan, d_need_balance, d_month, d__law_step, d__law_mixed, d__law_take, d__law_pick, d__law_sum_drawn, d__law_shown, d_Plan_init, d__law_caught, d__law_is_number, d__law_wrong, d__law_refused_right, d_is_name, d_is_order, d_is_kind, d_are_kinds, d_is_list, d_are_lengths, d_Book_init, d_Plan_eq, d__law_planned, d__law_parts, d__law_begun, d_law]
def gs : Gets := [(("Plan", "plus"), d_Plan_plus), (("Plan", "least"), d_Plan_least), (("Plan", "share"), d_Plan_share), (("Plan", "rate"), d_Plan_rate)]
def fa : List He.Fa := [.free "len", .free "min", .free "range", .free "max", .int "THOUSAND" 1000, .noat "Plan" "l_parts", .cls "Plan", .glo "month_with", .free "int", .free "isinstance", .free "bool", .glo "is_number", .int "MOST_BALANCE" 100000, .glo "is_number_in", .glo "BadNumber", .glo "Plan", .cls "Book", .glo "BadPlan", .glo "need_plan", .glo "need_balance", .glo "month", .free "repr", .glo "_law_step", .glo "_law_mixed", .glo "_law_take", .glo "_law_pick", .glo "_law_sum_drawn", .int "MOST_LEAST" 1000000, .mkr "Plan", .glo "_law_shown", .free "tuple", .glo "CreditError", .glo "_law_caught", .free "zip", .glo "_law_is_number", .glo "_law_wrong", .free "list", .glo "_law_refused_right", .noat "Book" "b_laid", .noat "Book" "b_begins", .noat "Book" "b_memory", .free "sorted", .noat "Book" "b_kinds", .noat "Book" "b_due", .noat "Book" "b_lengths", .free "str", .int "MOST_NAME" 8, .str "LETTERS" "abcdefghijklmnopqrstuvwxyz", .free "all", .glo "is_name", .glo "is_order", .glo "BadBook", .str "STATEMENT" "statement", .str "DAY" "day", .int "MOST_MEMORY" 2, .int "MOST_RATE" 1000, .glo "is_kind", .free "dict", .int "MOST_KINDS" 6, .glo "are_kinds", .int "LONGEST" 31, .int "SHORTEST" 2, .glo "is_list", .int "MOST_LENGTHS" 4, .glo "are_lengths", .mkr "Book", .glo "Book", .glo "_law_planned", .glo "_law_parts", .glo "_law_begun", .glo "law"]
def FILE : Str := PW.main.file
def exs : List (PySem.W.Frag → Bool) := [kitsB "Plan", clsIB "Plan", kit1B "Plan" (.inr "Plan") true, clsIB "Book", kit1B "Book" (.inr "Plan") false, excCB "BadPlan", kit1B "BadPlan" (.inr "BadPlan") true, excCB "BadNumber", kit1B "BadNumber" (.inr "BadPlan") false, excCB "BadBook", kit1B "BadBook" (.inr "BadPlan") false, kitsB "BadPlan", noAtB "BadPlan" "part", noAtB "BadBook" "part", exmB "BadPlan" "CreditError" true, exmB "BadNumber" "CreditError" true, exmB "BadBook" "CreditError" true, eqCB "Plan", nfB "Plan" "Book", nfB "Plan" "Plan", supB FILE "BadNumber" "number", supB FILE "BadPlan" "part", supB FILE "BadBook" "part"]
structure Ctx (K : PySem.W.Frag) (mg : Str → Option Value) : Prop where
  says : SaysS sups fa fn gs (exAll exs) K
  ns : ∃ h : Heap, K.In h ∧ h.Ns mainGlobals mg
section
variable {K : PySem.W.Frag} {mg : Str → Option Value}
theorem Ctx.fact (C : Ctx K mg) (i : Nat) (f : He.Fa) (h : fa[i]? = some f := by rfl) : f.ok K = true := C.says.v.d.fact i h
theorem Ctx.glo (C : Ctx K mg) (i : Nat) (x : Str) (h : fa[i]? = some (.glo x) := by rfl) : mg x = some (.ref (ga K x)) := by
  obtain ⟨h0, X, G⟩ := C.ns
  exact glo_ok X G (C.fact i _ h)
theorem Ctx.free (C : Ctx K mg) (i : Nat) (x : Str) (h : fa[i]? = some (.free x) := by rfl) : mg x = none := by
  obtain ⟨h0, X, G⟩ := C.ns
  exact free_ok X G (C.fact i _ h)
theorem Ctx.int (C : Ctx K mg) (i : Nat) (x : Str) (n : Int) (h : fa[i]? = some (.int x n) := by rfl) : ∃ t, mg x = some (.int n t) := by
  obtain ⟨h0, X, G⟩ := C.ns
  exact int_ok X G (C.fact i _ h)
theorem Ctx.str (C : Ctx K mg) (i : Nat) (x z : Str) (h : fa[i]? = some (.str x z) := by rfl) : ∃ t, mg x = some (.str z t) := by
  obtain ⟨h0, X, G⟩ := C.ns
  exact str_ok X G (C.fact i _ h)
theorem Ctx.cls (C : Ctx K mg) (i : Nat) (x : Str) (h : fa[i]? = some (.cls x) := by rfl) : Cls K (ga K x) := cls_ok (C.fact i _ h)
theorem Ctx.noat (C : Ctx K mg) (i : Nat) (x f : Str) (h : fa[i]? = some (.noat x f) := by rfl) : NoAttr K (ga K x) f := noat_ok (C.fact i _ h)
theorem Ctx.meth (C : Ctx K mg) (i : Nat) (x m : Str) (h : fa[i]? = some (.meth x m) := by rfl) : Meth K (ga K x) m (ma K (ga K x) m) := meth_ok (C.fact i _ h)
theorem Ctx.mkr (C : Ctx K mg) (i : Nat) (x : Str) (h : fa[i]? = some (.mkr x) := by rfl) : Mk K (ga K x) (ma K (ga K x) "__init__") := mkr_ok (C.fact i _ h)
theorem Ctx.ex (C : Ctx K mg) (i : Nat) {f : PySem.W.Frag → Bool} (h : exs[i]? = some f := by rfl) : f K = true := exAt C.says.v.more i h
theorem Ctx.get (C : Ctx K mg) (i : Nat) (p : Str × Str) (d : He.DefD) (h : gs[i]? = some (p, d) := by rfl) : PropOf K (ga K p.1) p.2 (ma K (ga K p.1) p.2) (pgA K p) ∧ FunD K d.name d.qual d.params d.body d.scope [] [] (pgA K p) (fdA K (pgA K p)) := C.says.v.get i h
end
theorem sup_BadNumber {K : PySem.W.Frag} {mg : Str → Option Value} (C : Ctx K mg) : Sup.SupM PW K (ga K "BadNumber") (supA K "BadNumber") "self" "number" "number" (fdA K (supA K "BadNumber")) := supM_of (d := d_sup_BadNumber) (C.says.sup 0) (C.ex 20) ⟨_, _, _, _, _, _, _, _, _, _, _, _, rfl, rfl⟩ ⟨⟨_, rfl, rfl⟩, rfl, rfl, rfl, rfl, rfl, by decide +kernel, rfl, rfl⟩ (by decide +kernel) (by decide +kernel) (fun _ _ _ _ _ _ _ _ _ => rfl)
theorem sup_BadPlan {K : PySem.W.Frag} {mg : Str → Option Value} (C : Ctx K mg) : Sup.SupM PW K (ga K "BadPlan") (supA K "BadPlan") "self" "part" "part" (fdA K (supA K "BadPlan")) := supM_of (d := d_sup_BadPlan) (C.says.sup 1) (C.ex 21) ⟨_, _, _, _, _, _, _, _, _, _, _, _, rfl, rfl⟩ ⟨⟨_, rfl, rfl⟩, rfl, rfl, rfl, rfl, rfl, by decide +kernel, rfl, rfl⟩ (by decide +kernel) (by decide +kernel) (fun _ _ _ _ _ _ _ _ _ => rfl)
theorem sup_BadBook {K : PySem.W.Frag} {mg : Str → Option Value} (C : Ctx K mg) : Sup.SupM PW K (ga K "BadBook") (supA K "BadBook") "self" "part" "part" (fdA K (supA K "BadBook")) := supM_of (d := d_sup_BadBook) (C.says.sup 2) (C.ex 22) ⟨_, _, _, _, _, _, _, _, _, _, _, _, rfl, rfl⟩ ⟨⟨_, rfl, rfl⟩, rfl, rfl, rfl, rfl, rfl, by decide +kernel, rfl, rfl⟩ (by decide +kernel) (by decide +kernel) (fun _ _ _ _ _ _ _ _ _ => rfl)
theorem fun_month_with {K : PySem.W.Frag} {mg : Str → Option Value} (C : Ctx K mg) : FunD K "month_with" "month_with" (defArgs s_month_with) (defBody s_month_with) (defScope s_month_with) [] [] (ga K "month_with") (fdA K (ga K "month_with")) := C.says.v.fn_ 0 (d := d_month_with) rfl
theorem fun_is_number {K : PySem.W.Frag} {mg : Str → Option Value} (C : Ctx K mg) : FunD K "is_number" "is_number" (defArgs s_is_number) (defBody s_is_number) (defScope s_is_number) [] [] (ga K "is_number") (fdA K (ga K "is_number")) := C.says.v.fn_ 1 (d := d_is_number) rfl
theorem fun_is_number_in {K : PySem.W.Frag} {mg : Str → Option Value} (C : Ctx K mg) : FunD K "is_number_in" "is_number_in" (defArgs s_is_number_in) (defBody s_is_number_in) (defScope s_is_number_in) [] [] (ga K "is_number_in") (fdA K (ga K "is_number_in")) := C.says.v.fn_ 2 (d := d_is_number_in) rfl
theorem fun_need_plan {K : PySem.W.Frag} {mg : Str → Option Value} (C : Ctx K mg) : FunD K "need_plan" "need_plan" (defArgs s_need_plan) (defBody s_need_plan) (defScope s_need_plan) [] [] (ga K "need_plan") (fdA K (ga K "need_plan")) := C.says.v.fn_ 3 (d := d_need_plan) rfl
theorem fun_need_balance {K : PySem.W.Frag} {mg : Str → Option Value} (C : Ctx K mg) : FunD K "need_balance" "need_balance" (defArgs s_need_balance) (defBody s_need_balance) (defScope s_need_balance) [] [] (ga K "need_balance") (fdA K (ga K "need_balance")) := C.says.v.fn_ 4 (d := d_need_balance) rfl
theorem fun_month {K : PySem.W.Frag} {mg : Str → Option Value} (C : Ctx K mg) : FunD K "month" "month" (defArgs s_month) (defBody s_month) (defScope s_month) [] [] (ga K "month") (fdA K (ga K "month")) := C.says.v.fn_ 5 (d := d_month) rfl
theorem fun__law_step {K : PySem.W.Frag} {mg : Str → Option Value} (C : Ctx K mg) : FunD K "_law_step" "_law_step" (defArgs s__law_step) (defBody s__law_step) (defScope s__law_step) [] [] (ga K "_law_step") (fdA K (ga K "_law_step")) := C.says.v.fn_ 6 (d := d__law_step) rfl
theorem fun__law_mixed {K : PySem.W.Frag} {mg : Str → Option Value} (C : Ctx K mg) : FunD K "_law_mixed" "_law_mixed" (defArgs s__law_mixed) (defBody s__law_mixed) (defScope s__law_mixed) [] [] (ga K "_law_mixed") (fdA K (ga K "_law_mixed")) := C.says.v.fn_ 7 (d := d__law_mixed) rfl
theorem fun__law_take {K : PySem.W.Frag} {mg : Str → Option Value} (C : Ctx K mg) : FunD K "_law_take" "_law_take" (defArgs s__law_take) (defBody s__law_take) (defScope s__law_take) [] [] (ga K "_law_take") (fdA K (ga K "_law_take")) := C.says.v.fn_ 8 (d := d__law_take) rfl
theorem fun__law_pick {K : PySem.W.Frag} {mg : Str → Option Value} (C : Ctx K mg) : FunD K "_law_pick" "_law_pick" (defArgs s__law_pick) (defBody s__law_pick) (defScope s__law_pick) [] [] (ga K "_law_pick") (fdA K (ga K "_law_pick")) := C.says.v.fn_ 9 (d := d__law_pick) rfl
theorem fun__law_sum_drawn {K : PySem.W.Frag} {mg : Str → Option Value} (C : Ctx K mg) : FunD K "_law_sum_drawn" "_law_sum_drawn" (defArgs s__law_sum_drawn) (defBody s__law_sum_drawn) (defScope s__law_sum_drawn) [] [] (ga K "_law_sum_drawn") (fdA K (ga K "_law_sum_drawn")) := C.says.v.fn_ 10 (d := d__law_sum_drawn) rfl
theorem fun_Plan_plus {K : PySem.W.Frag} {mg : Str → Option Value} (C : Ctx K mg) : FunD K "plus" "Plan.plus" (defArgs s_Plan_plus) (defBody s_Plan_plus) (defScope s_Plan_plus) [] [] (pgA K ("Plan", "plus")) (fdA K (pgA K ("Plan", "plus"))) := (C.get 0 ("Plan", "plus") d_Plan_plus).2
theorem fun_Plan_least {K : PySem.W.Frag} {mg : Str → Option Value} (C : Ctx K mg) : FunD K "least" "Plan.least" (defArgs s_Plan_least) (defBody s_Plan_least) (defScope s_Plan_least) [] [] (pgA K ("Plan", "least")) (fdA K (pgA K ("Plan", "least"))) := (C.get 1 ("Plan", "least") d_Plan_least).2
theorem fun_Plan_share {K : PySem.W.Frag} {mg : Str → Option Value} (C : Ctx K mg) : FunD K "share" "Plan.share" (defArgs s_Plan_share) (defBody s_Plan_share) (defScope s_Plan_share) [] [] (pgA K ("Plan", "share")) (fdA K (pgA K ("Plan", "share"))) := (C.get 2 ("Plan", "share") d_Plan_share).2
theorem fun_Plan_rate {K : PySem.W.Frag} {mg : Str → Option Value} (C : Ctx K mg) : FunD K "rate" "Plan.rate" (defArgs s_Plan_rate) (defBody s_Plan_rate) (defScope s_Plan_rate) [] [] (pgA K ("Plan", "rate")) (fdA K (pgA K ("Plan", "rate"))) := (C.get 3 ("Plan", "rate") d_Plan_rate).2
theorem fun__law_shown {K : PySem.W.Frag} {mg : Str → Option Value} (C : Ctx K mg) : FunD K "_law_shown" "_law_shown" (defArgs s__law_shown) (defBody s__law_shown) (defScope s__law_shown) [] [] (ga K "_law_shown") (fdA K (ga K "_law_shown")) := C.says.v.fn_ 11 (d := d__law_shown) rfl
theorem fun_Plan_init {K : PySem.W.Frag} {mg : Str → Option Value} (C : Ctx K mg) : FunD K "__init__" "Plan.__init__" (defArgs s_Plan_init) (defBody s_Plan_init) (defScope s_Plan_init) (DefD.dvs K d_Plan_init) [] (fAd K ("Plan", some "__init__")) (fdA K (fAd K ("Plan", some "__init__"))) := C.says.v.fn_ 12 (d := d_Plan_init) rfl
theorem fun__law_caught {K : PySem.W.Frag} {mg : Str → Option Value} (C : Ctx K mg) : FunD K "_law_caught" "_law_caught" (defArgs s__law_caught) (defBody s__law_caught) (defScope s__law_caught) [] [] (ga K "_law_caught") (fdA K (ga K "_law_caught")) := C.says.v.fn_ 13 (d := d__law_caught) rfl
theorem fun__law_is_number {K : PySem.W.Frag} {mg : Str → Option Value} (C : Ctx K mg) : FunD K "_law_is_number" "_law_is_number" (defArgs s__law_is_number) (defBody s__law_is_number) (defScope s__law_is_number) [] [] (ga K "_law_is_number") (fdA K (ga K "_law_is_number")) := C.says.v.fn_ 14 (d := d__law_is_number) rfl
theorem fun__law_wrong {K : PySem.W.Frag} {mg : Str → Option Value} (C : Ctx K mg) : FunD K "_law_wrong" "_law_wrong" (defArgs s__law_wrong) (defBody s__law_wrong) (defScope s__law_wrong) [] [] (ga K "_law_wrong") (fdA K (ga K "_law_wrong")) := C.says.v.fn_ 15 (d := d__law_wrong) rfl
theorem fun__law_refused_right {K : PySem.W.Frag} {mg : Str → Option Value} (C : Ctx K mg) : FunD K "_law_refused_right" "_law_refused_right" (defArgs s__law_refused_right) (defBody s__law_refused_right) (defScope s__law_refused_right) [] [] (ga K "_law_refused_right") (fdA K (ga K "_law_refused_right")) := C.says.v.fn_ 16 (d := d__law_refused_right) rfl
theorem fun_is_name {K : PySem.W.Frag} {mg : Str → Option Value} (C : Ctx K mg) : FunD K "is_name" "is_name" (defArgs s_is_name) (defBody s_is_name) (defScope s_is_name) [] [] (ga K "is_name") (fdA K (ga K "is_name")) := C.says.v.fn_ 17 (d := d_is_name) rfl
theorem fun_is_order {K : PySem.W.Frag} {mg : Str → Option Value} (C : Ctx K mg) : FunD K "is_order" "is_order" (defArgs s_is_order) (defBody s_is_order) (defScope s_is_order) [] [] (ga K "is_order") (fdA K (ga K "is_order")) := C.says.v.fn_ 18 (d := d_is_order) rfl
theorem fun_is_kind {K : PySem.W.Frag} {mg : Str → Option Value} (C : Ctx K mg) : FunD K "is_kind" "is_kind" (defArgs s_is_kind) (defBody s_is_kind) (defScope s_is_kind) [] [] (ga K "is_kind") (fdA K (ga K "is_kind")) := C.says.v.fn_ 19 (d := d_is_kind) rfl
theorem fun_are_kinds {K : PySem.W.Frag} {mg : Str → Option Value} (C : Ctx K mg) : FunD K "are_kinds" "are_kinds" (defArgs s_are_kinds) (defBody s_are_kinds) (defScope s_are_kinds) [] [] (ga K "are_kinds") (fdA K (ga K "are_kinds")) := C.says.v.fn_ 20 (d := d_are_kinds) rfl
theorem fun_is_list {K : PySem.W.Frag} {mg : Str → Option Value} (C : Ctx K mg) : FunD K "is_list" "is_list" (defArgs s_is_list) (defBody s_is_list) (defScope s_is_list) [] [] (ga K "is_list") (fdA K (ga K "is_list")) := C.says.v.fn_ 21 (d := d_is_list) rfl
theorem fun_are_lengths {K : PySem.W.Frag} {mg : Str → Option Value} (C : Ctx K mg) : FunD K "are_lengths" "are_lengths" (defArgs s_are_lengths) (defBody s_are_lengths) (defScope s_are_lengths) [] [] (ga K "are_lengths") (fdA K (ga K "are_lengths")) := C.says.v.fn_ 22 (d := d_are_lengths) rfl
theorem fun_Book_init {K : PySem.W.Frag} {mg : Str → Option Value} (C : Ctx K mg) : FunD K "__init__" "Book.__init__" (defArgs s_Book_init) (defBody s_Book_init) (defScope s_Book_init) (DefD.dvs K d_Book_init) [] (fAd K ("Book", some "__init__")) (fdA K (fAd K ("Book", some "__init__"))) := C.says.v.fn_ 23 (d := d_Book_init) rfl
theorem fun_Plan_eq {K : PySem.W.Frag} {mg : Str → Option Value} (C : Ctx K mg) : FunD K "__eq__" "Plan.__eq__" (defArgs s_Plan_eq) (defBody s_Plan_eq) (defScope s_Plan_eq) [] [] (fAd K ("Plan", some "__eq__")) (fdA K (fAd K ("Plan", some "__eq__"))) := C.says.v.fn_ 24 (d := d_Plan_eq) rfl
theorem fun__law_planned {K : PySem.W.Frag} {mg : Str → Option Value} (C : Ctx K mg) : FunD K "_law_planned" "_law_planned" (defArgs s__law_planned) (defBody s__law_planned) (defScope s__law_planned) [] [] (ga K "_law_planned") (fdA K (ga K "_law_planned")) := C.says.v.fn_ 25 (d := d__law_planned) rfl
theorem fun__law_parts {K : PySem.W.Frag} {mg : Str → Option Value} (C : Ctx K mg) : FunD K "_law_parts" "_law_parts" (defArgs s__law_parts) (defBody s__law_parts) (defScope s__law_parts) [] [] (ga K "_law_parts") (fdA K (ga K "_law_parts")) := C.says.v.fn_ 26 (d := d__law_parts) rfl
theorem fun__law_begun {K : PySem.W.Frag} {mg : Str → Option Value} (C : Ctx K mg) : FunD K "_law_begun" "_law_begun" (defArgs s__law_begun) (defBody s__law_begun) (defScope s__law_begun) [] [] (ga K "_law_begun") (fdA K (ga K "_law_begun")) := C.says.v.fn_ 27 (d := d__law_begun) rfl
theorem fun_law {K : PySem.W.Frag} {mg : Str → Option Value} (C : Ctx K mg) : FunD K "law" "law" (defArgs s_law) (defBody s_law) (defScope s_law) [] [] (ga K "law") (fdA K (ga K "law")) := C.says.v.fn_ 28 (d := d_law) rfl
/-! month_with: slots 0 plan, 1 balance, 2 extra, 3 rate, 4 share, 5 least, 6 plus, 7 interest, 8 owed, 9 wanted, 10 payment -/
def m_month_with : M Fl := seqM (asgM (fldM "Plan" "l_parts" (getV 0)) (gTupM 4 (gsCons (gSet 3) (gsCons (gSet 4) (gsCons (gSet 5) (gsCons (gSet 6) (gsNil))))))) (seqM (M.bind (bin2 fdivD (bin2 mulD (getV 1) (getV 3)) (M.ret (.int 1000))) (setV 7)) (seqM (M.bind (bin2 addT (getV 1) (getV 7)) (setV 8)) (seqM (ifM (isB (bin2 leD (getV 8) (getV 5))) (retM (tupM (consM (getV 7) (consM (getV 8) (consM (M.ret (.int 0)) (M.ret [])))))) (M.ret .nx)) (seqM (M.bind (ifM (isB (getV 6)) (bin2 addT (getV 7) (bin2 fdivD (bin2 mulD (getV 1) (getV 4)) (M.ret (.int 1000)))) (bin2 fdivD (bin2 mulD (getV 8) (getV 4)) (M.ret (.int 1000)))) (setV 9)) (seqM (M.bind (M.bind (consM (getV 8) (consM (bin2 addT (M.bind (consM (getV 5) (consM (getV 9) (M.ret []))) max2D) (getV 2)) (M.ret []))) min2D) (setV 10)) (retM (tupM (consM (getV 7) (consM (getV 10) (consM (bin2 subD (getV 8) (getV 10)) (M.ret [])))))))))))
def f_month_with : FnD := fnBody 3 11 m_month_with
theorem sc_month_with : FnScope ["plan", "balance", "extra", "rate", "share", "least", "plus", "interest", "owed", "wanted", "payment"] ["plan", "balance", "extra"] (defScope s_month_with) := ⟨rfl, rfl, rfl, by decide +kernel, rfl, by decide +kernel, by decide +kernel⟩
theorem b_month_with {K : PySem.W.Frag} {mg : Str → Option Value} (C : Ctx K mg) : Binds K (fdA K (ga K "month_with")) ["plan", "balance", "extra"] [] := (fun_month_with C).bindsN fun _ _ _ _ _ _ us hl => match us, hl with | [_, _, _], _ => rfl
theorem ok_month_with {w : World} {K : PySem.W.Frag} {mg : Str → Option Value} {base : Heap} (C : Ctx K mg) : OkV PW w K mg base 1 (ga K "month_with") ["plan", "balance", "extra"] f_month_with :=
  fn_okV (qual := "month_with") (scope := defScope s_month_with) (body := defBody s_month_with) (m := m_month_with) (k := 0) (fun_month_with C) sc_month_with rfl rfl fun cdv A outer s H E hr => ss_cons (ss_asg (vs := [3, 4, 5, 6]) (se_fld (sv 0) (C.cls 6 "Plan") (C.noat 5 "Plan" "l_parts")) (sg_tup (sgs_cons (sg_name sc_month_with.nd) (sgs_cons (sg_name sc_month_with.nd) (sgs_cons (sg_name sc_month_with.nd) (sgs_cons (sg_name sc_month_with.nd) (sgs_nil))))))) (ss_cons (ss_set sc_month_with.nd (se_bin ov_fdiv (se_bin ov_mul (sv 1) (sv 3)) (se_gint (C.int 4 "THOUSAND" 1000)))) (ss_cons (ss_set sc_month_with.nd (se_bin ov_addT (sv 1) (sv 7))) (ss_cons (ss_if (sb_cmp ov_le (sv 8) (sv 5) (nomark _)) (ss_one (ss_ret (se_tup (sa_cons (sv 7) (sa_cons (sv 8) (sa_cons (se_int) (sa_nil))))))) (ss_nil)) (ss_cons (ss_set sc_month_with.nd (se_if (sb_val (sv 6)) (se_bin ov_addT (sv 7) (se_bin ov_fdiv (se_bin ov_mul (sv 1) (sv 4)) (se_gint (C.int 4 "THOUSAND" 1000)))) (se_bin ov_fdiv (se_bin ov_mul (sv 8) (sv 4)) (se_gint (C.int 4 "THOUSAND" 1000))))) (ss_cons (ss_set sc_month_with.nd (se_callB cv_min2 (C.free 1 "min") (by decide +kernel) (sa_cons (sv 8) (sa_cons (se_bin ov_addT (se_callB cv_max2 (C.free 3 "max") (by decide +kernel) (sa_cons (sv 5) (sa_cons (sv 9) (sa_nil)))) (sv 2)) (sa_nil))))) (ss_one (ss_ret (se_tup (sa_cons (sv 7) (sa_cons (sv 10) (sa_cons (se_bin ov_sub (sv 8) (sv 10)) (sa_nil))))))))))))
/-! is_number: slots 0 value -/
def m_is_number : M Fl := retM (andD (M.bind (consM (getV 0) (consM (M.ret (.ty "int")) (M.ret []))) (isiM (isTyD "int") (fun t => t == "int" || t == "bool") [])) (notD (M.bind (consM (getV 0) (consM (M.ret (.ty "bool")) (M.ret []))) (isiM (isTyD "bool") (fun t => t == "bool") []))))
def f_is_number : FnD := fnBody 1 1 m_is_number
theorem sc_is_number : FnScope ["value"] ["value"] (defScope s_is_number) := ⟨rfl, rfl, rfl, by decide +kernel, rfl, by decide +kernel, by decide +kernel⟩
theorem b_is_number {K : PySem.W.Frag} {mg : Str → Option Value} (C : Ctx K mg) : Binds K (fdA K (ga K "is_number")) ["value"] [] := (fun_is_number C).bindsN fun _ _ _ _ _ _ us hl => match us, hl with | [_], _ => rfl
theorem ok_is_number {w : World} {K : PySem.W.Frag} {mg : Str → Option Value} {base : Heap} (C : Ctx K mg) : OkV PW w K mg base 1 (ga K "is_number") ["value"] f_is_number :=
  fn_okV (qual := "is_number") (scope := defScope s_is_number) (body := defBody s_is_number) (m := m_is_number) (k := 0) (fun_is_number C) sc_is_number rfl rfl fun cdv A outer s H E hr => ss_one (ss_ret (se_and (se_callB (cv_isiT (ho := (fun p hp => nomatch hp))) (C.free 9 "isinstance") (by decide +kernel) (sa_cons (sv 0) (sa_cons (se_bty (n := "int") (C.free 8 "int") (by decide +kernel)) (sa_nil)))) (se_one (se_not (se_callB (cv_isiT (ho := (fun p hp => nomatch hp))) (C.free 9 "isinstance") (by decide +kernel) (sa_cons (sv 0) (sa_cons (se_bty (n := "bool") (C.free 10 "bool") (by decide +kernel)) (sa_nil))))))))
/-! is_number_in: slots 0 value, 1 least, 2 most -/
def m_is_number_in : M Fl := retM (andD (M.bind (consM (getV 0) (M.ret [])) (callF f_is_number)) (chainD leD leD (getV 1) (getV 0) (getV 2)))
def f_is_number_in : FnD := fnBody 3 3 m_is_number_in
theorem sc_is_number_in : FnScope ["value", "least", "most"] ["value", "least", "most"] (defScope s_is_number_in) := ⟨rfl, rfl, rfl, by decide +kernel, rfl, by decide +kernel, by decide +kernel⟩
theorem b_is_number_in {K : PySem.W.Frag} {mg : Str → Option Value} (C : Ctx K mg) : Binds K (fdA K (ga K "is_number_in")) ["value", "least", "most"] [] := (fun_is_number_in C).bindsN fun _ _ _ _ _ _ us hl => match us, hl with | [_, _, _], _ => rfl
theorem ok_is_number_in {w : World} {K : PySem.W.Frag} {mg : Str → Option Value} {base : Heap} (C : Ctx K mg) : OkV PW w K mg base 2 (ga K "is_number_in") ["value", "least", "most"] f_is_number_in :=
  fn_okV (qual := "is_number_in") (scope := defScope s_is_number_in) (body := defBody s_is_number_in) (m := m_is_number_in) (k := 1) (fun_is_number_in C) sc_is_number_in rfl rfl fun cdv A outer s H E hr => ss_one (ss_ret (se_and (se_call (takes_of rfl rfl rfl rfl) ((ok_is_number C).mono (by decide : 1 ≤ 1)) ar_of hr (C.glo 11 "is_number") (fun_is_number C).kp (b_is_number C) (sa_cons (sv 0) (sa_nil))) (se_one (se_chain ob_le ov_le (sv 1) (sv 0) (sv 2)))))
/-! need_plan: slots 0 value -/
def m_need_plan : M Fl := ifM (notB (isB (M.bind (consM (getV 0) (consM (M.ret (.glo "Plan")) (M.ret []))) (isiM (isGloD "Plan") (fun _ => false) [("Plan", true), ("Book", false)])))) (raiseS "BadPlan" "part" (consM (M.ret (.str "plan")) (M.ret []))) (M.ret .nx)
def f_need_plan : FnD := fnBody 1 1 m_need_plan
theorem sc_need_plan : FnScope ["value"] ["value"] (defScope s_need_plan) := ⟨rfl, rfl, rfl, by decide +kernel, rfl, by decide +kernel, by decide +kernel⟩
theorem b_need_plan {K : PySem.W.Frag} {mg : Str → Option Value} (C : Ctx K mg) : Binds K (fdA K (ga K "need_plan")) ["value"] [] := (fun_need_plan C).bindsN fun _ _ _ _ _ _ us hl => match us, hl with | [_], _ => rfl
theorem ok_need_plan {w : World} {K : PySem.W.Frag} {mg : Str → Option Value} {base : Heap} (C : Ctx K mg) : OkV PW w K mg base 2 (ga K "need_plan") ["value"] f_need_plan :=
  fn_okV (qual := "need_plan") (scope := defScope s_need_plan) (body := defBody s_need_plan) (m := m_need_plan) (k := 1) (fun_need_plan C) sc_need_plan rfl rfl fun cdv A outer s H E hr => ss_one (ss_if (sb_not (sb_val (se_callB (cv_isiC (kitsB_ok (C := "Plan") (C.ex 0)) (List.forall_mem_cons.mpr ⟨⟨clsIB_ok (c := "Plan") (C.cls 6 "Plan") (C.ex 1), kit1B_ok (c := "Plan") (t := (.inr "Plan")) (r := true) (C.ex 2)⟩, (List.forall_mem_cons.mpr ⟨⟨clsIB_ok (c := "Book") (C.cls 16 "Book") (C.ex 3), kit1B_ok (c := "Book") (t := (.inr "Plan")) (r := false) (C.ex 4)⟩, (fun p hp => nomatch hp)⟩)⟩)) (C.free 9 "isinstance") (by decide +kernel) (sa_cons (sv 0) (sa_cons (se_glo (C.glo 15 "Plan")) (sa_nil)))))) (ss_one (ss_raiseS (takes_of rfl rfl rfl rfl) (sup_BadPlan C) (hr.mono (by decide : 0 + 1 ≤ 1)) (C.glo 17 "BadPlan") (sa_cons (se_str) (sa_nil)))) (ss_nil))
/-! need_balance: slots 0 plan, 1 balance -/
def m_need_balance : M Fl := seqM (exprM (M.bind (consM (getV 0) (M.ret [])) (callF f_need_plan))) (ifM (notB (isB (M.bind (consM (getV 1) (consM (M.ret (.int 0)) (consM (M.ret (.int 100000)) (M.ret [])))) (callF f_is_number_in)))) (raiseS "BadNumber" "number" (consM (getV 1) (M.ret []))) (M.ret .nx))
def f_need_balance : FnD := fnBody 2 2 m_need_balance
theorem sc_need_balance : FnScope ["plan", "balance"] ["plan", "balance"] (defScope s_need_balance) := ⟨rfl, rfl, rfl, by decide +kernel, rfl, by decide +kernel, by decide +kernel⟩
theorem b_need_balance {K : PySem.W.Frag} {mg : Str → Option Value} (C : Ctx K mg) : Binds K (fdA K (ga K "need_balance")) ["plan", "balance"] [] := (fun_need_balance C).bindsN fun _ _ _ _ _ _ us hl => match us, hl with | [_, _], _ => rfl
theorem ok_need_balance {w : World} {K : PySem.W.Frag} {mg : Str → Option Value} {base : Heap} (C : Ctx K mg) : OkV PW w K mg base 3 (ga K "need_balance") ["plan", "balance"] f_need_balance :=
  fn_okV (qual := "need_balance") (scope := defScope s_need_balance) (body := defBody s_need_balance) (m := m_need_balance) (k := 2) (fun_need_balance C) sc_need_balance rfl rfl fun cdv A outer s H E hr => ss_cons (ss_expr (se_call (takes_of rfl rfl rfl rfl) ((ok_need_plan C).mono (by decide : 2 ≤ 2)) ar_of hr (C.glo 18 "need_plan") (fun_need_plan C).kp (b_need_plan C) (sa_cons (sv 0) (sa_nil)))) (ss_one (ss_if (sb_not (sb_val (se_call (takes_of rfl rfl rfl rfl) ((ok_is_number_in C).mono (by decide : 2 ≤ 2)) ar_of hr (C.glo 13 "is_number_in") (fun_is_number_in C).kp (b_is_number_in C) (sa_cons (sv 1) (sa_cons (se_int) (sa_cons (se_gint (C.int 12 "MOST_BALANCE" 100000)) (sa_nil))))))) (ss_one (ss_raiseS (takes_of rfl rfl rfl rfl) (sup_BadNumber C) (hr.mono (by decide : 0 + 1 ≤ 2)) (C.glo 14 "BadNumber") (sa_cons (sv 1) (sa_nil)))) (ss_nil)))
/-! month: slots 0 plan, 1 balance -/
def m_month : M Fl := seqM (exprM (M.bind (consM (getV 0) (consM (getV 1) (M.ret []))) (callF f_need_balance))) (retM (M.bind (consM (getV 0) (consM (getV 1) (consM (M.ret (.int 0)) (M.ret [])))) (callF f_month_with)))
def f_month : FnD := fnBody 2 2 m_month
theorem sc_month : FnScope ["plan", "balance"] ["plan", "balance"] (defScope s_month) := ⟨rfl, rfl, rfl, by decide +kernel, rfl, by decide +kernel, by decide +kernel⟩
theorem b_month {K : PySem.W.Frag} {mg : Str → Option Value} (C : Ctx K mg) : Binds K (fdA K (ga K "month")) ["plan", "balance"] [] := (fun_month C).bindsN fun _ _ _ _ _ _ us hl => match us, hl with | [_, _], _ => rfl
theorem ok_month {w : World} {K : PySem.W.Frag} {mg : Str → Option Value} {base : Heap} (C : Ctx K mg) : OkV PW w K mg base 4 (ga K "month") ["plan", "balance"] f_month :=
  fn_okV (qual := "month") (scope := defScope s_month) (body := defBody s_month) (m := m_month) (k := 3) (fun_month C) sc_month rfl rfl fun cdv A outer s H E hr => ss_cons (ss_expr (se_call (takes_of rfl rfl rfl rfl) ((ok_need_balance C).mono (by decide : 3 ≤ 3)) ar_of hr (C.glo 19 "need_balance") (fun_need_balance C).kp (b_need_balance C) (sa_cons (sv 0) (sa_cons (sv 1) (sa_nil))))) (ss_one (ss_ret (se_call (takes_of rfl rfl rfl rfl) ((ok_month_with C).mono (by decide : 1 ≤ 3)) ar_of hr (C.glo 7 "month_with") (fun_month_with C).kp (b_month_with C) (sa_cons (sv 0) (sa_cons (sv 1) (sa_cons (se_int) (sa_nil)))))))
theorem kb_month_0_balance_plan {K : PySem.W.Frag} {mg : Str → Option Value} (C : Ctx K mg) : KB K (fdA K (ga K "month")) ["plan", "balance"] 0 (["balance", "plan"] : List Str) [] [1, 0] := kb_n (fun_month C) fun _ _ _ _ _ _ us ws h1 h2 => match us, ws, h1, h2 with | [], [_, _], _, _ => rfl
/-! _law_step: slots 0 _law_parts_here, 1 _law_sum_here, 2 _law_more, 3 _law_rated, 4 _law_part, 5 _law_low, 6 _law_is_plus, 7 _law_plus_here, 8 _law_every, 9 _law_due -/
def m__law_step : M Fl := seqM (asgM (getV 0) (gTupM 4 (gsCons (gSet 3) (gsCons (gSet 4) (gsCons (gSet 5) (gsCons (gSet 6) (gsNil))))))) (seqM (M.bind (bin2 fdivD (bin2 mulD (getV 1) (getV 3)) (M.ret (.int 1000))) (setV 7)) (seqM (M.bind (bin2 addT (getV 1) (getV 7)) (setV 8)) (seqM (ifM (isB (bin2 leD (getV 8) (getV 5))) (retM (tupM (consM (getV 7) (consM (getV 8) (consM (M.ret (.int 0)) (M.ret [])))))) (M.ret .nx)) (seqM (M.bind (bin2 fdivD (bin2 mulD (getV 8) (getV 4)) (M.ret (.int 1000))) (setV 9)) (seqM (ifM (isB (getV 6)) (M.bind (bin2 addT (getV 7) (bin2 fdivD (bin2 mulD (getV 1) (getV 4)) (M.ret (.int 1000)))) (setV 9)) (M.ret .nx)) (seqM (M.bind (M.bind (consM (getV 8) (consM (bin2 addT (M.bind (consM (getV 5) (consM (getV 9) (M.ret []))) max2D) (getV 2)) (M.ret []))) min2D) (setV 9)) (retM (tupM (consM (getV 7) (consM (getV 9) (consM (bin2 subD (getV 8) (getV 9)) (M.ret []))))))))))))
def f__law_step : FnD := fnBody 3 10 m__law_step
theorem sc__law_step : FnScope ["_law_parts_here", "_law_sum_here", "_law_more", "_law_rated", "_law_part", "_law_low", "_law_is_plus", "_law_plus_here", "_law_every", "_law_due"] ["_law_parts_here", "_law_sum_here", "_law_more"] (defScope s__law_step) := ⟨rfl, rfl, rfl, by decide +kernel, rfl, by decide +kernel, by decide +kernel⟩
theorem b__law_step {K : PySem.W.Frag} {mg : Str → Option Value} (C : Ctx K mg) : Binds K (fdA K (ga K "_law_step")) ["_law_parts_here", "_law_sum_here", "_law_more"] [] := (fun__law_step C).bindsN fun _ _ _ _ _ _ us hl => match us, hl with | [_, _, _], _ => rfl
theorem ok__law_step {w : World} {K : PySem.W.Frag} {mg : Str → Option Value} {base : Heap} (C : Ctx K mg) : OkV PW w K mg base 1 (ga K "_law_step") ["_law_parts_here", "_law_sum_here", "_law_more"] f__law_step :=
  fn_okV (qual := "_law_step") (scope := defScope s__law_step) (body := defBody s__law_step) (m := m__law_step) (k := 0) (fun__law_step C) sc__law_step rfl rfl fun cdv A outer s H E hr => ss_cons (ss_asg (vs := [3, 4, 5, 6]) (sv 0) (sg_tup (sgs_cons (sg_name sc__law_step.nd) (sgs_cons (sg_name sc__law_step.nd) (sgs_cons (sg_name sc__law_step.nd) (sgs_cons (sg_name sc__law_step.nd) (sgs_nil))))))) (ss_cons (ss_set sc__law_step.nd (se_bin ov_fdiv (se_bin ov_mul (sv 1) (sv 3)) (se_int))) (ss_cons (ss_set sc__law_step.nd (se_bin ov_addT (sv 1) (sv 7))) (ss_cons (ss_if (sb_cmp ov_le (sv 8) (sv 5) (nomark _)) (ss_one (ss_ret (se_tup (sa_cons (sv 7) (sa_cons (sv 8) (sa_cons (se_int) (sa_nil))))))) (ss_nil)) (ss_cons (ss_set sc__law_step.nd (se_bin ov_fdiv (se_bin ov_mul (sv 8) (sv 4)) (se_int))) (ss_cons (ss_if (sb_val (sv 6)) (ss_one (ss_set sc__law_step.nd (se_bin ov_addT (sv 7) (se_bin ov_fdiv (se_bin ov_mul (sv 1) (sv 4)) (se_int))))) (ss_nil)) (ss_cons (ss_set sc__law_step.nd (se_callB cv_min2 (C.free 1 "min") (by decide +kernel) (sa_cons (sv 8) (sa_cons (se_bin ov_addT (se_callB cv_max2 (C.free 3 "max") (by decide +kernel) (sa_cons (sv 5) (sa_cons (sv 9) (sa_nil)))) (sv 2)) (sa_nil))))) (ss_one (ss_ret (se_tup (sa_cons (sv 7) (sa_cons (sv 9) (sa_cons (se_bin ov_sub (sv 8) (sv 9)) (sa_nil)))))))))))))
/-! _law_mixed: slots 0 _law_state, 1 _law_found, 2 _law_prime, 3 _law_blend, 4 _law_cell -/
def m__law_mixed : M Fl := seqM (isetP (getV 0) (M.ret (.str "turn")) (bin2 addD (ixV 0 (M.ret (.str "turn"))) (M.ret (.int 1)))) (seqM (M.bind (M.ret (.int 0)) (setV 1)) (seqM (forM (itemsM (frzM (lstN (consM (M.ret (.int 2147483629)) (consM (M.ret (.int 2147483587)) (consM (M.ret (.int 2147483579)) (consM (M.ret (.int 2147483563)) (consM (M.ret (.int 2147483549)) (consM (M.ret (.int 2147483543)) (M.ret [])))))))))) (gSet 2) (seqM (M.bind (bin2 addD (bin2 mulD (M.ret (.int 104729)) (ixV 0 (M.ret (.str "turn")))) (bin2 fdivD (getV 2) (M.ret (.int 7)))) (setV 3)) (seqM (forM (itemsM (ixV 0 (M.ret (.str "cells")))) (gSet 4) (M.bind (bin2 modD (M.bind (consM (bin2 addD (bin2 mulD (getV 3) (M.ret (.int 48271))) (getV 4)) (M.ret [])) intD) (getV 2)) (setV 3))) (M.bind (bin2 addD (bin2 mulD (getV 1) (M.ret (.int 2147483647))) (bin2 modD (M.bind (consM (bin2 powD (getV 3) (M.ret (.int 5))) (M.ret [])) intD) (getV 2))) (setV 1))))) (retM (getV 1))))
def f__law_mixed : FnD := fnBody 1 5 m__law_mixed
theorem sc__law_mixed : FnScope ["_law_state", "_law_found", "_law_prime", "_law_blend", "_law_cell"] ["_law_state"] (defScope s__law_mixed) := ⟨rfl, rfl, rfl, by decide +kernel, rfl, by decide +kernel, by decide +kernel⟩
theorem b__law_mixed {K : PySem.W.Frag} {mg : Str → Option Value} (C : Ctx K mg) : Binds K (fdA K (ga K "_law_mixed")) ["_law_state"] [] := (fun__law_mixed C).bindsN fun _ _ _ _ _ _ us hl => match us, hl with | [_], _ => rfl
theorem ok__law_mixed {w : World} {K : PySem.W.Frag} {mg : Str → Option Value} {base : Heap} (C : Ctx K mg) : OkV PW w K mg base 1 (ga K "_law_mixed") ["_law_state"] f__law_mixed :=
  fn_okV (qual := "_law_mixed") (scope := defScope s__law_mixed) (body := defBody s__law_mixed) (m := m__law_mixed) (k := 0) (fun__law_mixed C) sc__law_mixed rfl rfl fun cdv A outer s H E hr => ss_cons (ss_isetP (hu_of hr) (se_bin ov_add (se_ixV (hu_of hr) (pvv 0) (se_str)) (se_int)) (sv 0) (se_str)) (ss_cons (ss_set sc__law_mixed.nd (se_int)) (ss_cons (ss_for (vs := [2]) (passes_of rfl) (si_seq (se_frz (sn_lst (sa_cons (se_int) (sa_cons (se_int) (sa_cons (se_int) (sa_cons (se_int) (sa_cons (se_int) (sa_cons (se_int) (sa_nil)))))))))) (sg_name sc__law_mixed.nd) (ss_cons (ss_set sc__law_mixed.nd (se_bin ov_add (se_bin ov_mul (se_int) (se_ixV (hu_of hr) (pvv 0) (se_str))) (se_bin ov_fdiv (sv 2) (se_int)))) (ss_cons (ss_for (vs := [4]) (passes_of rfl) (si_seq (se_ixV (hu_of hr) (pvv 0) (se_str))) (sg_name sc__law_mixed.nd) (ss_one (ss_set sc__law_mixed.nd (se_bin ov_mod (se_callT cv_int (C.free 8 "int") (by decide +kernel) (sa_cons (se_bin ov_add (se_bin ov_mul (sv 3) (se_int)) (sv 4)) (sa_nil))) (sv 2))))) (ss_one (ss_set sc__law_mixed.nd (se_bin ov_add (se_bin ov_mul (sv 1) (se_int)) (se_bin ov_mod (se_callT cv_int (C.free 8 "int") (by decide +kernel) (sa_cons (se_bin ov_pow (sv 3) (se_int)) (sa_nil))) (sv 2)))))))) (ss_one (ss_ret (sv 1)))))
/-! _law_take: slots 0 _law_state, 1 _law_size, 2 _law_found -/
def m__law_take : M Fl := seqM (ifM (isB (bin2 eqD (ixV 0 (M.ret (.str "rest"))) (M.ret (.int 0)))) (isetP (getV 0) (M.ret (.str "rest")) (ifM (isB (bin2 neP (ixV 0 (M.ret (.str "large"))) (frzM (lstN (M.ret []))))) (methP "list" fPopAt (ixV 0 (M.ret (.str "large"))) (consM (M.ret (.int 0)) (M.ret []))) (M.bind (consM (getV 0) (M.ret [])) (callF f__law_mixed)))) (M.ret .nx)) (seqM (M.bind (bin2 modD (M.bind (consM (ixV 0 (M.ret (.str "rest"))) (M.ret [])) intD) (getV 1)) (setV 2)) (seqM (isetP (getV 0) (M.ret (.str "rest")) (bin2 fdivD (ixV 0 (M.ret (.str "rest"))) (getV 1))) (retM (getV 2))))
def f__law_take : FnD := fnBody 2 3 m__law_take
theorem sc__law_take : FnScope ["_law_state", "_law_size", "_law_found"] ["_law_state", "_law_size"] (defScope s__law_take) := ⟨rfl, rfl, rfl, by decide +kernel, rfl, by decide +kernel, by decide +kernel⟩
theorem b__law_take {K : PySem.W.Frag} {mg : Str → Option Value} (C : Ctx K mg) : Binds K (fdA K (ga K "_law_take")) ["_law_state", "_law_size"] [] := (fun__law_take C).bindsN fun _ _ _ _ _ _ us hl => match us, hl with | [_, _], _ => rfl
theorem ok__law_take {w : World} {K : PySem.W.Frag} {mg : Str → Option Value} {base : Heap} (C : Ctx K mg) : OkV PW w K mg base 2 (ga K "_law_take") ["_law_state", "_law_size"] f__law_take :=
  fn_okV (qual := "_law_take") (scope := defScope s__law_take) (body := defBody s__law_take) (m := m__law_take) (k := 1) (fun__law_take C) sc__law_take rfl rfl fun cdv A outer s H E hr => ss_cons (ss_if (sb_cmp (ov_eq hr) (se_ixV (hu_of hr) (pvv 0) (se_str)) (se_int) (nomark _)) (ss_one (ss_isetP (hu_of hr) (se_if (sb_cmp (ov_neP hr) (se_ixV (hu_of hr) (pvv 0) (se_str)) (se_frz (sn_lst (sa_nil))) (nomark _)) (se_methP mo_popAt PySem.F.plainAttrs_list PySem.F.slot_list_pop (by rfl) (se_ixV (hu_of hr) (pvv 0) (se_str)) (sa_cons (se_int) (sa_nil))) (se_call (takes_of rfl rfl rfl rfl) ((ok__law_mixed C).mono (by decide : 1 ≤ 1)) ar_of hr (C.glo 23 "_law_mixed") (fun__law_mixed C).kp (b__law_mixed C) (sa_cons (sv 0) (sa_nil)))) (sv 0) (se_str))) (ss_nil)) (ss_cons (ss_set sc__law_take.nd (se_bin ov_mod (se_callT cv_int (C.free 8 "int") (by decide +kernel) (sa_cons (se_ixV (hu_of hr) (pvv 0) (se_str)) (sa_nil))) (sv 1))) (ss_cons (ss_isetP (hu_of hr) (se_bin ov_fdiv (se_ixV (hu_of hr) (pvv 0) (se_str)) (sv 1)) (sv 0) (se_str)) (ss_one (ss_ret (sv 2)))))
/-! _law_pick: slots 0 _law_state, 1 _law_some -/
def m__law_pick : M Fl := retM (ixV 1 (M.bind (consM (getV 0) (consM (lenV 1) (M.ret []))) (callF f__law_take)))
def f__law_pick : FnD := fnBody 2 2 m__law_pick
theorem sc__law_pick : FnScope ["_law_state", "_law_some"] ["_law_state", "_law_some"] (defScope s__law_pick) := ⟨rfl, rfl, rfl, by decide +kernel, rfl, by decide +kernel, by decide +kernel⟩
theorem b__law_pick {K : PySem.W.Frag} {mg : Str → Option Value} (C : Ctx K mg) : Binds K (fdA K (ga K "_law_pick")) ["_law_state", "_law_some"] [] := (fun__law_pick C).bindsN fun _ _ _ _ _ _ us hl => match us, hl with | [_, _], _ => rfl
theorem ok__law_pick {w : World} {K : PySem.W.Frag} {mg : Str → Option Value} {base : Heap} (C : Ctx K mg) : OkV PW w K mg base 3 (ga K "_law_pick") ["_law_state", "_law_some"] f__law_pick :=
  fn_okV (qual := "_law_pick") (scope := defScope s__law_pick) (body := defBody s__law_pick) (m := m__law_pick) (k := 2) (fun__law_pick C) sc__law_pick rfl rfl fun cdv A outer s H E hr => ss_one (ss_ret (se_ixV (hu_of hr) (pvv 1) (se_call (takes_of rfl rfl rfl rfl) ((ok__law_take C).mono (by decide : 2 ≤ 2)) ar_of hr (C.glo 24 "_law_take") (fun__law_take C).kp (b__law_take C) (sa_cons (sv 0) (sa_cons (se_lenV (pvv 1) (C.free 0 "len")) (sa_nil))))))
/-! _law_sum_drawn: slots 0 _law_state, 1 _law_parts_here, 2 _law_near, 3 _law_some -/
def m__law_sum_drawn : M Fl := seqM (M.bind (bin2 fdivD (bin2 mulD (M.ret (.int 1000)) (ixV 1 (M.ret (.int 2)))) (M.bind (consM (M.ret (.int 1)) (consM (ixV 1 (M.ret (.int 0))) (M.ret []))) max2D)) (setV 2)) (seqM (M.bind (frzM (lstN (consM (M.ret (.int 0)) (consM (M.ret (.int 1)) (consM (M.ret (.int 2)) (consM (ixV 1 (M.ret (.int 2))) (consM (bin2 addT (ixV 1 (M.ret (.int 2))) (M.ret (.int 1))) (consM (bin2 subD (getV 2) (M.ret (.int 1))) (consM (getV 2) (consM (bin2 addT (getV 2) (M.ret (.int 1))) (consM (M.bind (consM (getV 0) (consM (M.ret (.int 50)) (M.ret []))) (callF f__law_take)) (consM (M.bind (consM (getV 0) (consM (M.ret (.int 5000)) (M.ret []))) (callF f__law_take)) (M.ret []))))))))))))) (setV 3)) (retM (M.bind (consM (M.ret (.int 0)) (consM (M.bind (consM (M.ret (.int 20000)) (consM (M.bind (consM (getV 0) (consM (getV 3) (M.ret []))) (callF f__law_pick)) (M.ret []))) min2D) (M.ret []))) max2D)))
def f__law_sum_drawn : FnD := fnBody 2 4 m__law_sum_drawn
theorem sc__law_sum_drawn : FnScope ["_law_state", "_law_parts_here", "_law_near", "_law_some"] ["_law_state", "_law_parts_here"] (defScope s__law_sum_drawn) := ⟨rfl, rfl, rfl, by decide +kernel, rfl, by decide +kernel, by decide +kernel⟩
theorem b__law_sum_drawn {K : PySem.W.Frag} {mg : Str → Option Value} (C : Ctx K mg) : Binds K (fdA K (ga K "_law_sum_drawn")) ["_law_state", "_law_parts_here"] [] := (fun__law_sum_drawn C).bindsN fun _ _ _ _ _ _ us hl => match us, hl with | [_, _], _ => rfl
theorem ok__law_sum_drawn {w : World} {K : PySem.W.Frag} {mg : Str → Option Value} {base : Heap} (C : Ctx K mg) : OkV PW w K mg base 4 (ga K "_law_sum_drawn") ["_law_state", "_law_parts_here"] f__law_sum_drawn :=
  fn_okV (qual := "_law_sum_drawn") (scope := defScope s__law_sum_drawn) (body := defBody s__law_sum_drawn) (m := m__law_sum_drawn) (k := 3) (fun__law_sum_drawn C) sc__law_sum_drawn rfl rfl fun cdv A outer s H E hr => ss_cons (ss_set sc__law_sum_drawn.nd (se_bin ov_fdiv (se_bin ov_mul (se_int) (se_ixV (hu_of hr) (pvv 1) (se_int))) (se_callB cv_max2 (C.free 3 "max") (by decide +kernel) (sa_cons (se_int) (sa_cons (se_ixV (hu_of hr) (pvv 1) (se_int)) (sa_nil)))))) (ss_cons (ss_set sc__law_sum_drawn.nd (se_frz (sn_lst (sa_cons (se_int) (sa_cons (se_int) (sa_cons (se_int) (sa_cons (se_ixV (hu_of hr) (pvv 1) (se_int)) (sa_cons (se_bin ov_addT (se_ixV (hu_of hr) (pvv 1) (se_int)) (se_int)) (sa_cons (se_bin ov_sub (sv 2) (se_int)) (sa_cons (sv 2) (sa_cons (se_bin ov_addT (sv 2) (se_int)) (sa_cons (se_call (takes_of rfl rfl rfl rfl) ((ok__law_take C).mono (by decide : 2 ≤ 3)) ar_of hr (C.glo 24 "_law_take") (fun__law_take C).kp (b__law_take C) (sa_cons (sv 0) (sa_cons (se_int) (sa_nil)))) (sa_cons (se_call (takes_of rfl rfl rfl rfl) ((ok__law_take C).mono (by decide : 2 ≤ 3)) ar_of hr (C.glo 24 "_law_take") (fun__law_take C).kp (b__law_take C) (sa_cons (sv 0) (sa_cons (se_int) (sa_nil)))) (sa_nil)))))))))))))) (ss_one (ss_ret (se_callB cv_max2 (C.free 3 "max") (by decide +kernel) (sa_cons (se_int) (sa_cons (se_callB cv_min2 (C.free 1 "min") (by decide +kernel) (sa_cons (se_int) (sa_cons (se_call (takes_of rfl rfl rfl rfl) ((ok__law_pick C).mono (by decide : 3 ≤ 3)) ar_of hr (C.glo 25 "_law_pick") (fun__law_pick C).kp (b__law_pick C) (sa_cons (sv 0) (sa_cons (sv 3) (sa_nil)))) (sa_nil)))) (sa_nil)))))))
/-! Plan.plus: slots 0 self -/
def m_Plan_plus : M Fl := retM (bin2 ixD (fldM "Plan" "l_parts" (getV 0)) (M.ret (.int 3)))
def f_Plan_plus : FnD := fnBody 1 1 m_Plan_plus
theorem sc_Plan_plus : FnScope ["self"] ["self"] (defScope s_Plan_plus) := ⟨rfl, rfl, rfl, by decide +kernel, rfl, by decide +kernel, by decide +kernel⟩
theorem b_Plan_plus {K : PySem.W.Frag} {mg : Str → Option Value} (C : Ctx K mg) : Binds K (fdA K (pgA K ("Plan", "plus"))) ["self"] [] := (fun_Plan_plus C).bindsN fun _ _ _ _ _ _ us hl => match us, hl with | [_], _ => rfl
theorem ok_Plan_plus {w : World} {K : PySem.W.Frag} {mg : Str → Option Value} {base : Heap} (C : Ctx K mg) : OkV PW w K mg base 1 (pgA K ("Plan", "plus")) ["self"] f_Plan_plus :=
  fn_okV (qual := "Plan.plus") (scope := defScope s_Plan_plus) (body := defBody s_Plan_plus) (m := m_Plan_plus) (k := 0) (fun_Plan_plus C) sc_Plan_plus rfl rfl fun cdv A outer s H E hr => ss_one (ss_ret (se_ix (hu_of hr) (se_fld (sv 0) (C.cls 6 "Plan") (C.noat 5 "Plan" "l_parts")) (se_int)))
/-! Plan.least: slots 0 self -/
def m_Plan_least : M Fl := retM (bin2 ixD (fldM "Plan" "l_parts" (getV 0)) (M.ret (.int 2)))
def f_Plan_least : FnD := fnBody 1 1 m_Plan_least
theorem sc_Plan_least : FnScope ["self"] ["self"] (defScope s_Plan_least) := ⟨rfl, rfl, rfl, by decide +kernel, rfl, by decide +kernel, by decide +kernel⟩
theorem b_Plan_least {K : PySem.W.Frag} {mg : Str → Option Value} (C : Ctx K mg) : Binds K (fdA K (pgA K ("Plan", "least"))) ["self"] [] := (fun_Plan_least C).bindsN fun _ _ _ _ _ _ us hl => match us, hl with | [_], _ => rfl
theorem ok_Plan_least {w : World} {K : PySem.W.Frag} {mg : Str → Option Value} {base : Heap} (C : Ctx K mg) : OkV PW w K mg base 1 (pgA K ("Plan", "least")) ["self"] f_Plan_least :=
  fn_okV (qual := "Plan.least") (scope := defScope s_Plan_least) (body := defBody s_Plan_least) (m := m_Plan_least) (k := 0) (fun_Plan_least C) sc_Plan_least rfl rfl fun cdv A outer s H E hr => ss_one (ss_ret (se_ix (hu_of hr) (se_fld (sv 0) (C.cls 6 "Plan") (C.noat 5 "Plan" "l_parts")) (se_int)))
/-! Plan.share: slots 0 self -/
def m_Plan_share : M Fl := retM (bin2 ixD (fldM "Plan" "l_parts" (getV 0)) (M.ret (.int 1)))
def f_Plan_share : FnD := fnBody 1 1 m_Plan_share
theorem sc_Plan_share : FnScope ["self"] ["self"] (defScope s_Plan_share) := ⟨rfl, rfl, rfl, by decide +kernel, rfl, by decide +kernel, by decide +kernel⟩
theorem b_Plan_share {K : PySem.W.Frag} {mg : Str → Option Value} (C : Ctx K mg) : Binds K (fdA K (pgA K ("Plan", "share"))) ["self"] [] := (fun_Plan_share C).bindsN fun _ _ _ _ _ _ us hl => match us, hl with | [_], _ => rfl
theorem ok_Plan_share {w : World} {K : PySem.W.Frag} {mg : Str → Option Value} {base : Heap} (C : Ctx K mg) : OkV PW w K mg base 1 (pgA K ("Plan", "share")) ["self"] f_Plan_share :=
  fn_okV (qual := "Plan.share") (scope := defScope s_Plan_share) (body := defBody s_Plan_share) (m := m_Plan_share) (k := 0) (fun_Plan_share C) sc_Plan_share rfl rfl fun cdv A outer s H E hr => ss_one (ss_ret (se_ix (hu_of hr) (se_fld (sv 0) (C.cls 6 "Plan") (C.noat 5 "Plan" "l_parts")) (se_int)))
/-! Plan.rate: slots 0 self -/
def m_Plan_rate : M Fl := retM (bin2 ixD (fldM "Plan" "l_parts" (getV 0)) (M.ret (.int 0)))
def f_Plan_rate : FnD := fnBody 1 1 m_Plan_rate
theorem sc_Plan_rate : FnScope ["self"] ["self"] (defScope s_Plan_rate) := ⟨rfl, rfl, rfl, by decide +kernel, rfl, by decide +kernel, by decide +kernel⟩
theorem b_Plan_rate {K : PySem.W.Frag} {mg : Str → Option Value} (C : Ctx K mg) : Binds K (fdA K (pgA K ("Plan", "rate"))) ["self"] [] := (fun_Plan_rate C).bindsN fun _ _ _ _ _ _ us hl => match us, hl with | [_], _ => rfl
theorem ok_Plan_rate {w : World} {K : PySem.W.Frag} {mg : Str → Option Value} {base : Heap} (C : Ctx K mg) : OkV PW w K mg base 1 (pgA K ("Plan", "rate")) ["self"] f_Plan_rate :=
  fn_okV (qual := "Plan.rate") (scope := defScope s_Plan_rate) (body := defBody s_Plan_rate) (m := m_Plan_rate) (k := 0) (fun_Plan_rate C) sc_Plan_rate rfl rfl fun cdv A outer s H E hr => ss_one (ss_ret (se_ix (hu_of hr) (se_fld (sv 0) (C.cls 6 "Plan") (C.noat 5 "Plan" "l_parts")) (se_int)))
/-! _law_shown: slots 0 _law_made -/
def m__law_shown : M Fl := retM (tupM (consM (propM "Plan" f_Plan_rate (getV 0)) (consM (propM "Plan" f_Plan_share (getV 0)) (consM (propM "Plan" f_Plan_least (getV 0)) (consM (propM "Plan" f_Plan_plus (getV 0)) (M.ret []))))))
def f__law_shown : FnD := fnBody 1 1 m__law_shown
theorem sc__law_shown : FnScope ["_law_made"] ["_law_made"] (defScope s__law_shown) := ⟨rfl, rfl, rfl, by decide +kernel, rfl, by decide +kernel, by decide +kernel⟩
theorem b__law_shown {K : PySem.W.Frag} {mg : Str → Option Value} (C : Ctx K mg) : Binds K (fdA K (ga K "_law_shown")) ["_law_made"] [] := (fun__law_shown C).bindsN fun _ _ _ _ _ _ us hl => match us, hl with | [_], _ => rfl
theorem ok__law_shown {w : World} {K : PySem.W.Frag} {mg : Str → Option Value} {base : Heap} (C : Ctx K mg) : OkV PW w K mg base 3 (ga K "_law_shown") ["_law_made"] f__law_shown :=
  fn_okV (qual := "_law_shown") (scope := defScope s__law_shown) (body := defBody s__law_shown) (m := m__law_shown) (k := 2) (fun__law_shown C) sc__law_shown rfl rfl fun cdv A outer s H E hr => ss_one (ss_ret (se_tup (sa_cons (se_prop (sv 0) (C.cls 6 "Plan") (C.get 3 ("Plan", "rate") d_Plan_rate).1 (ok_Plan_rate C) ar_of (hr.mono (by decide : 1 + 1 ≤ 2)) (b_Plan_rate C)) (sa_cons (se_prop (sv 0) (C.cls 6 "Plan") (C.get 2 ("Plan", "share") d_Plan_share).1 (ok_Plan_share C) ar_of (hr.mono (by decide : 1 + 1 ≤ 2)) (b_Plan_share C)) (sa_cons (se_prop (sv 0) (C.cls 6 "Plan") (C.get 1 ("Plan", "least") d_Plan_least).1 (ok_Plan_least C) ar_of (hr.mono (by decide : 1 + 1 ≤ 2)) (b_Plan_least C)) (sa_cons (se_prop (sv 0) (C.cls 6 "Plan") (C.get 0 ("Plan", "plus") d_Plan_plus).1 (ok_Plan_plus C) ar_of (hr.mono (by decide : 1 + 1 ≤ 2)) (b_Plan_plus C)) (sa_nil)))))))
/-! Plan.__init__: slots 0 self, 1 rate, 2 share, 3 least, 4 plus -/
def m_Plan_init : M Fl := seqM (ifM (notB (isB (M.bind (consM (getV 1) (consM (M.ret (.int 0)) (consM (M.ret (.int 1000)) (M.ret [])))) (callF f_is_number_in)))) (raiseS "BadPlan" "part" (consM (M.ret (.str "rate")) (M.ret []))) (M.ret .nx)) (seqM (ifM (notB (isB (M.bind (consM (getV 2) (consM (M.ret (.int 0)) (consM (M.ret (.int 1000)) (M.ret [])))) (callF f_is_number_in)))) (raiseS "BadPlan" "part" (consM (M.ret (.str "share")) (M.ret []))) (M.ret .nx)) (seqM (ifM (notB (isB (M.bind (consM (getV 3) (consM (M.ret (.int 1)) (consM (M.ret (.int 1000000)) (M.ret [])))) (callF f_is_number_in)))) (raiseS "BadPlan" "part" (consM (M.ret (.str "least")) (M.ret []))) (M.ret .nx)) (seqM (ifM (notB (isB (M.bind (consM (getV 4) (consM (M.ret (.ty "bool")) (M.ret []))) (isiM (isTyD "bool") (fun t => t == "bool") [])))) (raiseS "BadPlan" "part" (consM (M.ret (.str "plus")) (M.ret []))) (M.ret .nx)) (fsetM "Plan" "l_parts" (getV 0) (tupM (consM (getV 1) (consM (getV 2) (consM (getV 3) (consM (getV 4) (M.ret []))))))))))
def f_Plan_init : FnD := fnBody 5 5 m_Plan_init
theorem sc_Plan_init : FnScope ["self", "rate", "share", "least", "plus"] ["self", "rate", "share", "least", "plus"] (defScope s_Plan_init) := ⟨rfl, rfl, rfl, by decide +kernel, rfl, by decide +kernel, by decide +kernel⟩
theorem ok_Plan_init {w : World} {K : PySem.W.Frag} {mg : Str → Option Value} {base : Heap} (C : Ctx K mg) : OkV PW w K mg base 3 (fAd K ("Plan", some "__init__")) ["self", "rate", "share", "least", "plus"] f_Plan_init :=
  fn_okV (qual := "Plan.__init__") (scope := defScope s_Plan_init) (body := defBody s_Plan_init) (m := m_Plan_init) (k := 2) (fun_Plan_init C) sc_Plan_init rfl rfl fun cdv A outer s H E hr => ss_cons (ss_if (sb_not (sb_val (se_call (takes_of rfl rfl rfl rfl) ((ok_is_number_in C).mono (by decide : 2 ≤ 2)) ar_of hr (C.glo 13 "is_number_in") (fun_is_number_in C).kp (b_is_number_in C) (sa_cons (sv 1) (sa_cons (se_int) (sa_cons (se_gint (C.int 4 "THOUSAND" 1000)) (sa_nil))))))) (ss_one (ss_raiseS (takes_of rfl rfl rfl rfl) (sup_BadPlan C) (hr.mono (by decide : 0 + 1 ≤ 2)) (C.glo 17 "BadPlan") (sa_cons (se_str) (sa_nil)))) (ss_nil)) (ss_cons (ss_if (sb_not (sb_val (se_call (takes_of rfl rfl rfl rfl) ((ok_is_number_in C).mono (by decide : 2 ≤ 2)) ar_of hr (C.glo 13 "is_number_in") (fun_is_number_in C).kp (b_is_number_in C) (sa_cons (sv 2) (sa_cons (se_int) (sa_cons (se_gint (C.int 4 "THOUSAND" 1000)) (sa_nil))))))) (ss_one (ss_raiseS (takes_of rfl rfl rfl rfl) (sup_BadPlan C) (hr.mono (by decide : 0 + 1 ≤ 2)) (C.glo 17 "BadPlan") (sa_cons (se_str) (sa_nil)))) (ss_nil)) (ss_cons (ss_if (sb_not (sb_val (se_call (takes_of rfl rfl rfl rfl) ((ok_is_number_in C).mono (by decide : 2 ≤ 2)) ar_of hr (C.glo 13 "is_number_in") (fun_is_number_in C).kp (b_is_number_in C) (sa_cons (sv 3) (sa_cons (se_int) (sa_cons (se_gint (C.int 27 "MOST_LEAST" 1000000)) (sa_nil))))))) (ss_one (ss_raiseS (takes_of rfl rfl rfl rfl) (sup_BadPlan C) (hr.mono (by decide : 0 + 1 ≤ 2)) (C.glo 17 "BadPlan") (sa_cons (se_str) (sa_nil)))) (ss_nil)) (ss_cons (ss_if (sb_not (sb_val (se_callB (cv_isiT (ho := (fun p hp => nomatch hp))) (C.free 9 "isinstance") (by decide +kernel) (sa_cons (sv 4) (sa_cons (se_bty (n := "bool") (C.free 10 "bool") (by decide +kernel)) (sa_nil)))))) (ss_one (ss_raiseS (takes_of rfl rfl rfl rfl) (sup_BadPlan C) (hr.mono (by decide : 0 + 1 ≤ 2)) (C.glo 17 "BadPlan") (sa_cons (se_str) (sa_nil)))) (ss_nil)) (ss_one (ss_fset (sv 0) (se_tup (sa_cons (sv 1) (sa_cons (sv 2) (sa_cons (sv 3) (sa_cons (sv 4) (sa_nil)))))) (C.cls 6 "Plan") (C.noat 5 "Plan" "l_parts"))))))
theorem kb_Plan_init_5 {K : PySem.W.Frag} {mg : Str → Option Value} (C : Ctx K mg) : KB K (fdA K (fAd K ("Plan", some "__init__"))) ["self", "rate", "share", "least", "plus"] 5 ([] : List Str) (DefD.dvs K d_Plan_init) [0, 1, 2, 3, 4] := kb_d (fun_Plan_init C) (by exact List.cons_ne_nil _ _) fun _ _ _ _ _ _ _ us ws its h1 h2 h3 => match us, ws, its, h1, h2, h3 with | [_, _, _, _, _], [], [_], _, _, _ => ⟨_, rfl, rfl⟩
def ml_0 : M D := mkM "Plan" f_Plan_init 4 0 [.bl false] [0, 1, 2, 3, 4] (consM (ixV 2 (M.ret (.int 0))) (consM (ixV 2 (M.ret (.int 1))) (consM (ixV 2 (M.ret (.int 2))) (consM (ixV 2 (M.ret (.int 3))) (M.ret []))))) (M.ret [])
abbrev le_0 : Expr := (lxArg 0 (lxEl 0 (lsVal (lsAt 3 (defBody s__law_refused_right)))))
def lam_0 : LamT := ⟨(("_law_refused_right" : Str) ++ ".<locals>.") ++ "<lambda>", lxPar le_0, lxBody le_0, lxScope le_0, ["_law_state", "_law_parts_here", "_law_some", "_law_change", "_law_odd", "_law_due", "_law_errors", "_law_error", "."]⟩
theorem lamB_0 : LamB lam_0 := ⟨rfl, rfl, rfl, by decide +kernel, fun _ _ _ _ => rfl⟩
theorem okl_0 {w : World} {K : PySem.W.Frag} {mg : Str → Option Value} {base : Heap} (C : Ctx K mg) : OkLam PW w K mg base 4 lam_0 ml_0 := fun cs A outer s H E f c hr => se_make (takes_of rfl rfl rfl rfl) (C.mkr 28 "Plan") (ok_Plan_init C) ar_of (hr.mono (by decide : 3 + 1 ≤ 4)) (C.glo 15 "Plan") (kb_Plan_init_5 C) (.cons (.bl _) .nil) (sa_cons (se_ixV (hu_of hr) (pvv 2) (se_int)) (sa_cons (se_ixV (hu_of hr) (pvv 2) (se_int)) (sa_cons (se_ixV (hu_of hr) (pvv 2) (se_int)) (sa_cons (se_ixV (hu_of hr) (pvv 2) (se_int)) (sa_nil))))) (sk_nil)
theorem kb_Plan_init_1_plus_least_rate_share {K : PySem.W.Frag} {mg : Str → Option Value} (C : Ctx K mg) : KB K (fdA K (fAd K ("Plan", some "__init__"))) ["self", "rate", "share", "least", "plus"] 1 (["plus", "least", "rate", "share"] : List Str) (DefD.dvs K d_Plan_init) [0, 3, 4, 2, 1] := kb_d (fun_Plan_init C) (by exact List.cons_ne_nil _ _) fun _ _ _ _ _ _ _ us ws its h1 h2 h3 => match us, ws, its, h1, h2, h3 with | [_], [_, _, _, _], [_], _, _, _ => ⟨_, rfl, rfl⟩
def ml_1 : M D := mkM "Plan" f_Plan_init 0 4 [.bl false] [0, 3, 4, 2, 1] (M.ret []) (consM (ixV 2 (M.ret (.int 3))) (consM (ixV 2 (M.ret (.int 2))) (consM (ixV 2 (M.ret (.int 0))) (consM (ixV 2 (M.ret (.int 1))) (M.ret [])))))
abbrev le_1 : Expr := (lxArg 0 (lxArg 0 (lsVal (lsAt 4 (defBody s__law_refused_right)))))
def lam_1 : LamT := ⟨(("_law_refused_right" : Str) ++ ".<locals>.") ++ "<lambda>", lxPar le_1, lxBody le_1, lxScope le_1, ["_law_state", "_law_parts_here", "_law_some", "_law_change", "_law_odd", "_law_due", "_law_errors", "_law_error", "."]⟩
theorem lamB_1 : LamB lam_1 := ⟨rfl, rfl, rfl, by decide +kernel, fun _ _ _ _ => rfl⟩
theorem okl_1 {w : World} {K : PySem.W.Frag} {mg : Str → Option Value} {base : Heap} (C : Ctx K mg) : OkLam PW w K mg base 4 lam_1 ml_1 := fun cs A outer s H E f c hr => se_makeK0 (takes_of rfl rfl rfl rfl) (C.mkr 28 "Plan") (ok_Plan_init C) ar_of (hr.mono (by decide : 3 + 1 ≤ 4)) (C.glo 15 "Plan") (kb_Plan_init_1_plus_least_rate_share C) (.cons (.bl _) .nil) (sk_cons (se_ixV (hu_of hr) (pvv 2) (se_int)) (sk_cons (se_ixV (hu_of hr) (pvv 2) (se_int)) (sk_cons (se_ixV (hu_of hr) (pvv 2) (se_int)) (sk_cons (se_ixV (hu_of hr) (pvv 2) (se_int)) (sk_nil)))))
/-! _law_caught: slots 0 _law_work, 1 _law_caught_here, 2 _law_error, 3 . -/
def m__law_caught : M Fl := seqM (M.bind (M.ret .non) (setV 1)) (seqM (tryKeep 2 1 [("BadBook", true), ("BadNumber", true), ("BadPlan", true)] (exprM (lcallM 3 [(lam_0, ml_0), (lam_1, ml_1)] (getV 0)))) (retM (getV 1)))
def f__law_caught : FnU := fnBodyU 1 3 m__law_caught
theorem sc__law_caught : FnScope ["_law_work", "_law_caught_here", "_law_error", "."] ["_law_work"] (defScope s__law_caught) := ⟨rfl, rfl, rfl, by decide +kernel, rfl, by decide +kernel, by decide +kernel⟩
theorem b__law_caught {K : PySem.W.Frag} {mg : Str → Option Value} (C : Ctx K mg) : Binds K (fdA K (ga K "_law_caught")) ["_law_work"] [] := (fun__law_caught C).bindsN fun _ _ _ _ _ _ us hl => match us, hl with | [_], _ => rfl
theorem ok__law_caught {w : World} {K : PySem.W.Frag} {mg : Str → Option Value} (C : Ctx K mg) : OkU PW w K mg 6 (ga K "_law_caught") (fdA K (ga K "_law_caught")) ["_law_work"] f__law_caught := fun base kin ns =>
  fn_okU (qual := "_law_caught") (scope := defScope s__law_caught) (body := defBody s__law_caught) (m := m__law_caught) (k := 5) (z := ".") (fun__law_caught C) sc__law_caught rfl rfl rfl (by decide +kernel) (by decide) fun cdv A outer s H E hr => ss_cons (ss_set sc__law_caught.nd (se_non)) (ss_cons (ss_tryKeep (takes_of rfl rfl rfl rfl) (C.glo 31 "CreditError") (List.forall_mem_cons.mpr ⟨exmB_ok (c := "BadBook") (h := "CreditError") (r := true) (C.ex 16), (List.forall_mem_cons.mpr ⟨exmB_ok (c := "BadNumber") (h := "CreditError") (r := true) (C.ex 15), (List.forall_mem_cons.mpr ⟨exmB_ok (c := "BadPlan") (h := "CreditError") (r := true) (C.ex 14), (fun p hp => nomatch hp)⟩)⟩)⟩) sc__law_caught.nd (fun _ _ _ t1 t2 => ss_one (ss_expr (se_lcall (k := 4) t1 (hr.mono (by decide : 4 + 1 ≤ 5)) (sv 0) (List.forall_mem_cons.mpr ⟨⟨lamB_0, fun cs A o t G T f c hr => okl_0 C cs A o t G T f c (hr.mono (by decide : 4 ≤ 4))⟩, (List.forall_mem_cons.mpr ⟨⟨lamB_1, fun cs A o t G T f c hr => okl_1 C cs A o t G T f c (hr.mono (by decide : 4 ≤ 4))⟩, (fun q hq => nomatch hq)⟩)⟩))))) (ss_one (ss_ret (sv 1))))
/-! _law_is_number: slots 0 _law_thing -/
def m__law_is_number : M Fl := retM (andD (M.bind (consM (getV 0) (consM (M.ret (.ty "int")) (M.ret []))) (isiM (isTyD "int") (fun t => t == "int" || t == "bool") [])) (notD (M.bind (consM (getV 0) (consM (M.ret (.ty "bool")) (M.ret []))) (isiM (isTyD "bool") (fun t => t == "bool") []))))
def f__law_is_number : FnD := fnBody 1 1 m__law_is_number
theorem sc__law_is_number : FnScope ["_law_thing"] ["_law_thing"] (defScope s__law_is_number) := ⟨rfl, rfl, rfl, by decide +kernel, rfl, by decide +kernel, by decide +kernel⟩
theorem b__law_is_number {K : PySem.W.Frag} {mg : Str → Option Value} (C : Ctx K mg) : Binds K (fdA K (ga K "_law_is_number")) ["_law_thing"] [] := (fun__law_is_number C).bindsN fun _ _ _ _ _ _ us hl => match us, hl with | [_], _ => rfl
theorem ok__law_is_number {w : World} {K : PySem.W.Frag} {mg : Str → Option Value} {base : Heap} (C : Ctx K mg) : OkV PW w K mg base 1 (ga K "_law_is_number") ["_law_thing"] f__law_is_number :=
  fn_okV (qual := "_law_is_number") (scope := defScope s__law_is_number) (body := defBody s__law_is_number) (m := m__law_is_number) (k := 0) (fun__law_is_number C) sc__law_is_number rfl rfl fun cdv A outer s H E hr => ss_one (ss_ret (se_and (se_callB (cv_isiT (ho := (fun p hp => nomatch hp))) (C.free 9 "isinstance") (by decide +kernel) (sa_cons (sv 0) (sa_cons (se_bty (n := "int") (C.free 8 "int") (by decide +kernel)) (sa_nil)))) (se_one (se_not (se_callB (cv_isiT (ho := (fun p hp => nomatch hp))) (C.free 9 "isinstance") (by decide +kernel) (sa_cons (sv 0) (sa_cons (se_bty (n := "bool") (C.free 10 "bool") (by decide +kernel)) (sa_nil))))))))
/-! _law_wrong: slots 0 _law_parts_here, 1 _law_label, 2 _law_part, 3 _law_low, 4 _law_high -/
def m__law_wrong : M Fl := seqM (forM (zipM 4 (consM (frzM (lstN (consM (M.ret (.str "rate")) (consM (M.ret (.str "share")) (consM (M.ret (.str "least")) (M.ret [])))))) (consM (getV 0) (consM (frzM (lstN (consM (M.ret (.int 0)) (consM (M.ret (.int 0)) (consM (M.ret (.int 1)) (M.ret [])))))) (consM (frzM (lstN (consM (M.ret (.int 1000)) (consM (M.ret (.int 1000)) (consM (bin2 powD (M.ret (.int 10)) (M.ret (.int 6))) (M.ret [])))))) (M.ret [])))))) (gTupM 4 (gsCons (gSet 1) (gsCons (gSet 2) (gsCons (gSet 3) (gsCons (gSet 4) (gsNil)))))) (ifM (orB (notB (isB (M.bind (consM (getV 2) (M.ret [])) (callF f__law_is_number)))) (notB (isB (chainD leD leD (getV 3) (getV 2) (getV 4))))) (retM (frzM (lstN (consM (getV 1) (M.ret []))))) (M.ret .nx))) (retM (ifM (isB (M.bind (consM (ixV 0 (M.ret (.int 3))) (consM (M.ret (.ty "bool")) (M.ret []))) (isiM (isTyD "bool") (fun t => t == "bool") []))) (frzM (lstN (M.ret []))) (frzM (lstN (consM (M.ret (.str "plus")) (M.ret []))))))
def f__law_wrong : FnD := fnBody 1 5 m__law_wrong
theorem sc__law_wrong : FnScope ["_law_parts_here", "_law_label", "_law_part", "_law_low", "_law_high"] ["_law_parts_here"] (defScope s__law_wrong) := ⟨rfl, rfl, rfl, by decide +kernel, rfl, by decide +kernel, by decide +kernel⟩
theorem b__law_wrong {K : PySem.W.Frag} {mg : Str → Option Value} (C : Ctx K mg) : Binds K (fdA K (ga K "_law_wrong")) ["_law_parts_here"] [] := (fun__law_wrong C).bindsN fun _ _ _ _ _ _ us hl => match us, hl with | [_], _ => rfl
theorem ok__law_wrong {w : World} {K : PySem.W.Frag} {mg : Str → Option Value} {base : Heap} (C : Ctx K mg) : OkV PW w K mg base 2 (ga K "_law_wrong") ["_law_parts_here"] f__law_wrong :=
  fn_okV (qual := "_law_wrong") (scope := defScope s__law_wrong) (body := defBody s__law_wrong) (m := m__law_wrong) (k := 1) (fun__law_wrong C) sc__law_wrong rfl rfl fun cdv A outer s H E hr => ss_cons (ss_for (vs := [1, 2, 3, 4]) (passes_of rfl) (si_zip ZN.zip4 (C.free 33 "zip") (sa_cons (se_frz (sn_lst (sa_cons (se_str) (sa_cons (se_str) (sa_cons (se_str) (sa_nil)))))) (sa_cons (sv 0) (sa_cons (se_frz (sn_lst (sa_cons (se_int) (sa_cons (se_int) (sa_cons (se_int) (sa_nil)))))) (sa_cons (se_frz (sn_lst (sa_cons (se_int) (sa_cons (se_int) (sa_cons (se_bin ov_pow (se_int) (se_int)) (sa_nil)))))) (sa_nil)))))) (sg_tup (sgs_cons (sg_name sc__law_wrong.nd) (sgs_cons (sg_name sc__law_wrong.nd) (sgs_cons (sg_name sc__law_wrong.nd) (sgs_cons (sg_name sc__law_wrong.nd) (sgs_nil)))))) (ss_one (ss_if (sb_w (sw_or (sb_not (sb_val (se_call (takes_of rfl rfl rfl rfl) ((ok__law_is_number C).mono (by decide : 1 ≤ 1)) ar_of hr (C.glo 34 "_law_is_number") (fun__law_is_number C).kp (b__law_is_number C) (sa_cons (sv 2) (sa_nil))))) (sw_or1 (sb_not (sb_chain ob_le ov_le (sv 3) (sv 2) (sv 4)))))) (ss_one (ss_ret (se_frz (sn_lst (sa_cons (sv 1) (sa_nil)))))) (ss_nil)))) (ss_one (ss_ret (se_if (sb_val (se_callB (cv_isiT (ho := (fun p hp => nomatch hp))) (C.free 9 "isinstance") (by decide +kernel) (sa_cons (se_ixV (hu_of hr) (pvv 0) (se_int)) (sa_cons (se_bty (n := "bool") (C.free 10 "bool") (by decide +kernel)) (sa_nil))))) (se_frz (sn_lst (sa_nil))) (se_frz (sn_lst (sa_cons (se_str) (sa_nil)))))))
/-! _law_refused_right: slots 0 _law_state, 1 _law_parts_here, 2 _law_some, 3 _law_change, 4 _law_odd, 5 _law_due, 6 _law_errors, 7 _law_error, 8 . -/
def m__law_refused_right : M Fl := seqM (M.bind (listN (consM (getV 1) (M.ret []))) (setO 2)) (seqM (forM (rng1M (consM (M.bind (consM (getV 0) (consM (M.ret (.int 3)) (M.ret []))) (callF f__law_take)) (M.ret []))) (gSet 3) (seqM (M.bind (frzM (lstN (consM (M.ret .non) (consM (M.ret (.bl true)) (consM (M.ret (.bl false)) (consM (negM (M.ret (.int 1))) (consM (M.ret (.int 0)) (consM (M.ret (.int 1)) (consM (M.ret (.int 1000)) (consM (M.ret (.int 1001)) (consM (bin2 powD (M.ret (.int 10)) (M.ret (.int 6))) (consM (bin2 addT (bin2 powD (M.ret (.int 10)) (M.ret (.int 6))) (M.ret (.int 1))) (consM (M.ret (.str "1")) (consM (tupM (M.ret [])) (consM (frzM (lstN (M.ret []))) (consM (bin2 powD (M.ret (.int 10)) (M.ret (.int 30))) (M.ret []))))))))))))))))) (setV 4)) (isetO 2 (M.bind (consM (getV 0) (consM (M.ret (.int 4)) (M.ret []))) (callF f__law_take)) (M.bind (consM (getV 0) (consM (getV 4) (M.ret []))) (callF f__law_pick))))) (seqM (M.bind (M.bind (consM (getV 2) (M.ret [])) (callF f__law_wrong)) (setV 5)) (seqM (M.bind (lstN (consM (M.bind (consM (lamM 0 lam_0 0 8 "_law_refused_right") (M.ret [])) (callU 8 ["_law_state", "_law_parts_here", "_law_some", "_law_change", "_law_odd", "_law_due", "_law_errors", "_law_error", "."] [2] f__law_caught)) (M.ret []))) (setO 6)) (seqM (exprM (methO 6 "list" fAppend (consM (M.bind (consM (lamM 1 lam_1 0 8 "_law_refused_right") (M.ret [])) (callU 8 ["_law_state", "_law_parts_here", "_law_some", "_law_change", "_law_odd", "_law_due", "_law_errors", "_law_error", "."] [2] f__law_caught)) (M.ret [])))) (seqM (forM (anyM (getV 6)) (gSet 7) (ifM (orB (isB (bin2 neD (bin2 isND (getV 7) (M.ret .non)) (bin2 eqP (getV 5) (frzM (lstN (M.ret [])))))) (andB (isB (bin2 neP (getV 5) (frzM (lstN (M.ret []))))) (orB (notB (isB (M.bind (consM (getV 7) (consM (M.ret (.glo "BadPlan")) (M.ret []))) (isiE (isGloD "BadPlan") (fun _ => false) [] [("BadBook", false), ("BadNumber", false), ("BadPlan", true)])))) (isB (bin2 neD (frzM (lstN (consM (fldX ["BadBook", "BadPlan"] "part" (getV 7)) (M.ret [])))) (getV 5)))))) (retM (M.ret (.bl false))) (M.ret .nx))) (retM (orD (bin2 neP (getV 5) (frzM (lstN (M.ret [])))) (bin2 eqD (M.bind (consM (M.bind (consM (mkM "Plan" f_Plan_init 4 0 [.bl false] [0, 1, 2, 3, 4] (consM (ixV 2 (M.ret (.int 0))) (consM (ixV 2 (M.ret (.int 1))) (consM (ixV 2 (M.ret (.int 2))) (consM (ixV 2 (M.ret (.int 3))) (M.ret []))))) (M.ret [])) (M.ret [])) (callF f__law_shown)) (M.ret [])) reprG) (M.bind (consM (M.bind (consM (getV 2) (M.ret [])) tupD) (M.ret [])) reprG)))))))))
def f__law_refused_right : FnD := fnBodyC 2 8 m__law_refused_right
theorem sc__law_refused_right : FnScope ["_law_state", "_law_parts_here", "_law_some", "_law_change", "_law_odd", "_law_due", "_law_errors", "_law_error", "."] ["_law_state", "_law_parts_here"] (defScope s__law_refused_right) := ⟨rfl, rfl, rfl, by decide +kernel, rfl, by decide +kernel, by decide +kernel⟩
theorem b__law_refused_right {K : PySem.W.Frag} {mg : Str → Option Value} (C : Ctx K mg) : Binds K (fdA K (ga K "_law_refused_right")) ["_law_state", "_law_parts_here"] [] := (fun__law_refused_right C).bindsN fun _ _ _ _ _ _ us hl => match us, hl with | [_, _], _ => rfl
theorem mem__law_refused_right : (("_law_refused_right", ((("_law_refused_right" : Str) ++ ".<locals>.") ++ "<lambda>")) : Str × Str) ∈ tabs := by simp [tabs]
theorem ok__law_refused_right {w : World} {K : PySem.W.Frag} {mg : Str → Option Value} {base : Heap} (C : Ctx K mg) (TB : ∀ p ∈ tabs, LamX.TabB base mg (codA K p.1) (tabA K p.1)) : FnG PW w K mg base 7 (ga K "_law_refused_right") (fdA K (ga K "_law_refused_right")) ["_law_state", "_law_parts_here"] (spV K 2 f__law_refused_right) :=
  fn_okC (qual := "_law_refused_right") (scope := defScope s__law_refused_right) (body := defBody s__law_refused_right) (m := m__law_refused_right) (k := 6) (z := ".") (fun__law_refused_right C) sc__law_refused_right rfl rfl rfl (by decide +kernel) (by decide) fun cdv A o s G T hcd hA hr => ss_cons (ss_setO sc__law_refused_right.nd (sn_list (x := "list") (C.free 36 "list") (sa_cons (sv 1) (sa_nil)))) (ss_cons (ss_for (vs := [3]) (passes_of rfl) (si_range1 (C.free 2 "range") (sa_cons (se_call (takes_of rfl rfl rfl rfl) ((ok__law_take C).mono (by decide : 2 ≤ 6)) ar_of hr (C.glo 24 "_law_take") (fun__law_take C).kp (b__law_take C) (sa_cons (sv 0) (sa_cons (se_int) (sa_nil)))) (sa_nil))) (sg_name sc__law_refused_right.nd) (ss_cons (ss_set sc__law_refused_right.nd (se_frz (sn_lst (sa_cons (se_non) (sa_cons (se_bl) (sa_cons (se_bl) (sa_cons (se_neg (se_int)) (sa_cons (se_int) (sa_cons (se_int) (sa_cons (se_int) (sa_cons (se_int) (sa_cons (se_bin ov_pow (se_int) (se_int)) (sa_cons (se_bin ov_addT (se_bin ov_pow (se_int) (se_int)) (se_int)) (sa_cons (se_str) (sa_cons (se_tup (sa_nil)) (sa_cons (se_frz (sn_lst (sa_nil))) (sa_cons (se_bin ov_pow (se_int) (se_int)) (sa_nil)))))))))))))))))) (ss_one (ss_isetO (hu_of hr) (se_call (takes_of rfl rfl rfl rfl) ((ok__law_pick C).mono (by decide : 3 ≤ 6)) ar_of hr (C.glo 25 "_law_pick") (fun__law_pick C).kp (b__law_pick C) (sa_cons (sv 0) (sa_cons (sv 4) (sa_nil)))) (pvv 2) (se_call (takes_of rfl rfl rfl rfl) ((ok__law_take C).mono (by decide : 2 ≤ 6)) ar_of hr (C.glo 24 "_law_take") (fun__law_take C).kp (b__law_take C) (sa_cons (sv 0) (sa_cons (se_int) (sa_nil)))))))) (ss_cons (ss_set sc__law_refused_right.nd (se_call (takes_of rfl rfl rfl rfl) ((ok__law_wrong C).mono (by decide : 2 ≤ 6)) ar_of hr (C.glo 35 "_law_wrong") (fun__law_wrong C).kp (b__law_wrong C) (sa_cons (sv 2) (sa_nil)))) (ss_cons (ss_setO sc__law_refused_right.nd (sn_lst (sa_cons (se_callU (capt := [2]) (takes_of rfl rfl rfl rfl) (fun B kB nB => (ok__law_caught C B kB nB).mono (by decide : 6 ≤ 6)) ar_ofU hr (C.glo 32 "_law_caught") (fun__law_caught C).kp (b__law_caught C) (sa_cons (se_lam (i := 0) (kt := 0) (kf := 8) (x := "_law_refused_right") (L := lam_0) (TB _ (mem__law_refused_right)) (hcd.symm.trans (cod_of (fun__law_refused_right C)))) (sa_nil))) (sa_nil)))) (ss_cons (ss_expr (se_methO mo_append PySem.F.plainAttrs_list PySem.F.slot_list_append (by rfl) (pvv 6) (sa_cons (se_callU (capt := [2]) (takes_of rfl rfl rfl rfl) (fun B kB nB => (ok__law_caught C B kB nB).mono (by decide : 6 ≤ 6)) ar_ofU hr (C.glo 32 "_law_caught") (fun__law_caught C).kp (b__law_caught C) (sa_cons (se_lam (i := 1) (kt := 0) (kf := 8) (x := "_law_refused_right") (L := lam_1) (TB _ (mem__law_refused_right)) (hcd.symm.trans (cod_of (fun__law_refused_right C)))) (sa_nil))) (sa_nil)))) (ss_cons (ss_for (vs := [7]) (passes_of rfl) (si_any (sv 6)) (sg_name sc__law_refused_right.nd) (ss_one (ss_if (sb_w (sw_or (sb_cmp (ov_ne hr) (se_cmp ov_isN (sv 7) (se_non) (nomark _)) (se_cmp (ov_eqP hr) (sv 5) (se_frz (sn_lst (sa_nil))) (nomark _)) (nomark _)) (sw_or1 (sb_w (sw_and (sb_cmp (ov_neP hr) (sv 5) (se_frz (sn_lst (sa_nil))) (nomark _)) (sw_and1 (sb_w (sw_or (sb_not (sb_val (se_callB (cv_isE (isGloD_cd "BadPlan") (List.forall_mem_cons.mpr ⟨⟨excCB_ok (c := "BadBook") (C.ex 9), kit1B_ok (c := "BadBook") (t := (.inr "BadPlan")) (r := false) (C.ex 10)⟩, (List.forall_mem_cons.mpr ⟨⟨excCB_ok (c := "BadNumber") (C.ex 7), kit1B_ok (c := "BadNumber") (t := (.inr "BadPlan")) (r := false) (C.ex 8)⟩, (List.forall_mem_cons.mpr ⟨⟨excCB_ok (c := "BadPlan") (C.ex 5), kit1B_ok (c := "BadPlan") (t := (.inr "BadPlan")) (r := true) (C.ex 6)⟩, (fun p hp => nomatch hp)⟩)⟩)⟩) (cv_isiC (own := []) (kitsB_ok (C := "BadPlan") (C.ex 11)) (fun p hp => nomatch hp))) (C.free 9 "isinstance") (by decide +kernel) (sa_cons (sv 7) (sa_cons (se_glo (C.glo 17 "BadPlan")) (sa_nil)))))) (sw_or1 (sb_cmp (ov_ne hr) (se_frz (sn_lst (sa_cons (se_fldX (sv 7) (List.forall_mem_cons.mpr ⟨⟨excCB_ok (c := "BadBook") (C.ex 9), noAtB_ok (c := "BadBook") (f := "part") (C.ex 13)⟩, (List.forall_mem_cons.mpr ⟨⟨excCB_ok (c := "BadPlan") (C.ex 5), noAtB_ok (c := "BadPlan") (f := "part") (C.ex 12)⟩, (fun p hp => nomatch hp)⟩)⟩)) (sa_nil)))) (sv 5) (nomark _))))))))))) (ss_one (ss_ret (se_bl))) (ss_nil)))) (ss_one (ss_ret (se_or (se_cmp (ov_neP hr) (sv 5) (se_frz (sn_lst (sa_nil))) (nomark _)) (se_one (se_cmp (ov_eq hr) (se_callB (cv_reprG hA hr) (C.free 21 "repr") (by decide +kernel) (sa_cons (se_call (takes_of rfl rfl rfl rfl) ((ok__law_shown C).mono (by decide : 3 ≤ 6)) ar_of hr (C.glo 29 "_law_shown") (fun__law_shown C).kp (b__law_shown C) (sa_cons (se_make (takes_of rfl rfl rfl rfl) (C.mkr 28 "Plan") (ok_Plan_init C) ar_of (hr.mono (by decide : 3 + 1 ≤ 6)) (C.glo 15 "Plan") (kb_Plan_init_5 C) (.cons (.bl _) .nil) (sa_cons (se_ixV (hu_of hr) (pvv 2) (se_int)) (sa_cons (se_ixV (hu_of hr) (pvv 2) (se_int)) (sa_cons (se_ixV (hu_of hr) (pvv 2) (se_int)) (sa_cons (se_ixV (hu_of hr) (pvv 2) (se_int)) (sa_nil))))) (sk_nil)) (sa_nil))) (sa_nil))) (se_callB (cv_reprG hA hr) (C.free 21 "repr") (by decide +kernel) (sa_cons (se_callT cv_tuple (C.free 30 "tuple") (by decide +kernel) (sa_cons (sv 2) (sa_nil))) (sa_nil))) (nomark _)))))))))))
/-! is_name: slots 0 value, 1 sign -/
def m_is_name : M Fl := retM (andD (M.bind (consM (getV 0) (consM (M.ret (.ty "str")) (M.ret []))) (isiM (isTyD "str") (fun t => t == "str") [])) (andD (chainD leD leD (M.ret (.int 1)) (lenV 0) (M.ret (.int 8))) (M.bind (consM (frzM (lcN (anyM (getV 0)) (gSet 1) (M.ret true) (bin2 (inD false) (getV 1) (M.ret (.str "abcdefghijklmnopqrstuvwxyz"))) [1])) (M.ret [])) allD)))
def f_is_name : FnD := fnBody 1 2 m_is_name
theorem sc_is_name : FnScope ["value", "sign"] ["value"] (defScope s_is_name) := ⟨rfl, rfl, rfl, by decide +kernel, rfl, by decide +kernel, by decide +kernel⟩
theorem b_is_name {K : PySem.W.Frag} {mg : Str → Option Value} (C : Ctx K mg) : Binds K (fdA K (ga K "is_name")) ["value"] [] := (fun_is_name C).bindsN fun _ _ _ _ _ _ us hl => match us, hl with | [_], _ => rfl
theorem ok_is_name {w : World} {K : PySem.W.Frag} {mg : Str → Option Value} {base : Heap} (C : Ctx K mg) : OkV PW w K mg base 1 (ga K "is_name") ["value"] f_is_name :=
  fn_okV (qual := "is_name") (scope := defScope s_is_name) (body := defBody s_is_name) (m := m_is_name) (k := 0) (fun_is_name C) sc_is_name rfl rfl fun cdv A outer s H E hr => ss_one (ss_ret (se_and (se_callB (cv_isiT (ho := (fun p hp => nomatch hp))) (C.free 9 "isinstance") (by decide +kernel) (sa_cons (sv 0) (sa_cons (se_bty (n := "str") (C.free 45 "str") (by decide +kernel)) (sa_nil)))) (se_and (se_chain ob_le ov_le (se_int) (se_lenV (pvv 0) (C.free 0 "len")) (se_gint (C.int 46 "MOST_NAME" 8))) (se_one (se_callB cv_all (C.free 48 "all") (by decide +kernel) (sa_cons (se_frz (sn_lc (own := [("sign", 1)]) sc_is_name.nd (si_any (sv 0)) (blkOk_by (N := ["value", "sign"]) (sc := defScope s_is_name) (by decide +kernel)) (fun _ _ _ _ _ => sg_name sc_is_name.nd) (fun _ _ _ _ _ => sts_nil) (fun _ _ _ _ _ => se_cmp ov_in (sv 1) (se_gstr (C.str 47 "LETTERS" "abcdefghijklmnopqrstuvwxyz")) (by rfl)))) (sa_nil)))))))
/-! is_order: slots 0 names, 1 value, 2 name -/
def m_is_order : M Fl := seqM (ifM (orB (notB (isB (M.bind (consM (getV 1) (consM (M.ret (.ty "tuple")) (M.ret []))) (isiM (isTyD "tuple") (fun t => t == "tuple") [])))) (notB (isB (M.bind (consM (frzM (lcN (anyM (getV 1)) (gSet 2) (M.ret true) (M.bind (consM (getV 2) (M.ret [])) (callF f_is_name)) [2])) (M.ret [])) allD)))) (retM (M.ret (.bl false))) (M.ret .nx)) (retM (bin2 eqD (frzM (sortN (consM (getV 1) (M.ret [])))) (frzM (sortN (consM (getV 0) (M.ret []))))))
def f_is_order : FnD := fnBody 2 3 m_is_order
theorem sc_is_order : FnScope ["names", "value", "name"] ["names", "value"] (defScope s_is_order) := ⟨rfl, rfl, rfl, by decide +kernel, rfl, by decide +kernel, by decide +kernel⟩
theorem b_is_order {K : PySem.W.Frag} {mg : Str → Option Value} (C : Ctx K mg) : Binds K (fdA K (ga K "is_order")) ["names", "value"] [] := (fun_is_order C).bindsN fun _ _ _ _ _ _ us hl => match us, hl with | [_, _], _ => rfl
theorem ok_is_order {w : World} {K : PySem.W.Frag} {mg : Str → Option Value} {base : Heap} (C : Ctx K mg) : OkV PW w K mg base 2 (ga K "is_order") ["names", "value"] f_is_order :=
  fn_okV (qual := "is_order") (scope := defScope s_is_order) (body := defBody s_is_order) (m := m_is_order) (k := 1) (fun_is_order C) sc_is_order rfl rfl fun cdv A outer s H E hr => ss_cons (ss_if (sb_w (sw_or (sb_not (sb_val (se_callB (cv_isiT (ho := (fun p hp => nomatch hp))) (C.free 9 "isinstance") (by decide +kernel) (sa_cons (sv 1) (sa_cons (se_bty (n := "tuple") (C.free 30 "tuple") (by decide +kernel)) (sa_nil)))))) (sw_or1 (sb_not (sb_val (se_callB cv_all (C.free 48 "all") (by decide +kernel) (sa_cons (se_frz (sn_lc (own := [("name", 2)]) sc_is_order.nd (si_any (sv 1)) (blkOk_by (N := ["names", "value", "name"]) (sc := defScope s_is_order) (by decide +kernel)) (fun _ _ _ _ _ => sg_name sc_is_order.nd) (fun _ _ _ _ _ => sts_nil) (fun _ _ _ _ _ => se_call LamX.takes0 ((ok_is_name C).mono (by decide : 1 ≤ 1)) ar_of hr (C.glo 49 "is_name") (fun_is_name C).kp (b_is_name C) (sa_cons (sv 2) (sa_nil))))) (sa_nil)))))))) (ss_one (ss_ret (se_bl))) (ss_nil)) (ss_one (ss_ret (se_cmp (ov_eq hr) (se_frz (sn_sorted (C.free 41 "sorted") (sa_cons (sv 1) (sa_nil)))) (se_frz (sn_sorted (C.free 41 "sorted") (sa_cons (sv 0) (sa_nil)))) (nomark _))))
/-! is_kind: slots 0 value -/
def m_is_kind : M Fl := seqM (ifM (orB (notB (isB (M.bind (consM (getV 0) (consM (M.ret (.ty "tuple")) (M.ret []))) (isiM (isTyD "tuple") (fun t => t == "tuple") [])))) (isB (bin2 neD (lenV 0) (M.ret (.int 2))))) (retM (M.ret (.bl false))) (M.ret .nx)) (retM (andD (M.bind (consM (ixV 0 (M.ret (.int 0))) (consM (M.ret (.int 0)) (consM (M.ret (.int 1000)) (M.ret [])))) (callF f_is_number_in)) (M.bind (consM (ixV 0 (M.ret (.int 1))) (consM (M.ret (.ty "bool")) (M.ret []))) (isiM (isTyD "bool") (fun t => t == "bool") []))))
def f_is_kind : FnD := fnBody 1 1 m_is_kind
theorem sc_is_kind : FnScope ["value"] ["value"] (defScope s_is_kind) := ⟨rfl, rfl, rfl, by decide +kernel, rfl, by decide +kernel, by decide +kernel⟩
theorem b_is_kind {K : PySem.W.Frag} {mg : Str → Option Value} (C : Ctx K mg) : Binds K (fdA K (ga K "is_kind")) ["value"] [] := (fun_is_kind C).bindsN fun _ _ _ _ _ _ us hl => match us, hl with | [_], _ => rfl
theorem ok_is_kind {w : World} {K : PySem.W.Frag} {mg : Str → Option Value} {base : Heap} (C : Ctx K mg) : OkV PW w K mg base 3 (ga K "is_kind") ["value"] f_is_kind :=
  fn_okV (qual := "is_kind") (scope := defScope s_is_kind) (body := defBody s_is_kind) (m := m_is_kind) (k := 2) (fun_is_kind C) sc_is_kind rfl rfl fun cdv A outer s H E hr => ss_cons (ss_if (sb_w (sw_or (sb_not (sb_val (se_callB (cv_isiT (ho := (fun p hp => nomatch hp))) (C.free 9 "isinstance") (by decide +kernel) (sa_cons (sv 0) (sa_cons (se_bty (n := "tuple") (C.free 30 "tuple") (by decide +kernel)) (sa_nil)))))) (sw_or1 (sb_cmp (ov_ne hr) (se_lenV (pvv 0) (C.free 0 "len")) (se_int) (nomark _))))) (ss_one (ss_ret (se_bl))) (ss_nil)) (ss_one (ss_ret (se_and (se_call (takes_of rfl rfl rfl rfl) ((ok_is_number_in C).mono (by decide : 2 ≤ 2)) ar_of hr (C.glo 13 "is_number_in") (fun_is_number_in C).kp (b_is_number_in C) (sa_cons (se_ixV (hu_of hr) (pvv 0) (se_int)) (sa_cons (se_int) (sa_cons (se_gint (C.int 55 "MOST_RATE" 1000)) (sa_nil))))) (se_one (se_callB (cv_isiT (ho := (fun p hp => nomatch hp))) (C.free 9 "isinstance") (by decide +kernel) (sa_cons (se_ixV (hu_of hr) (pvv 0) (se_int)) (sa_cons (se_bty (n := "bool") (C.free 10 "bool") (by decide +kernel)) (sa_nil))))))))
/-! are_kinds: slots 0 value, 1 name -/
def m_are_kinds : M Fl := seqM (ifM (orB (notB (isB (M.bind (consM (getV 0) (consM (M.ret (.ty "dict")) (M.ret []))) (isiM (isTyD "dict") (fun t => t == "dict") [])))) (notB (isB (chainD leD leD (M.ret (.int 1)) (lenV 0) (M.ret (.int 6)))))) (retM (M.ret (.bl false))) (M.ret .nx)) (retM (M.bind (consM (frzM (lcN (anyM (getV 0)) (gSet 1) (M.ret true) (andD (M.bind (consM (getV 1) (M.ret [])) (callF f_is_name)) (M.bind (consM (ixV 0 (getV 1)) (M.ret [])) (callF f_is_kind))) [1])) (M.ret [])) allD))
def f_are_kinds : FnD := fnBody 1 2 m_are_kinds
theorem sc_are_kinds : FnScope ["value", "name"] ["value"] (defScope s_are_kinds) := ⟨rfl, rfl, rfl, by decide +kernel, rfl, by decide +kernel, by decide +kernel⟩
theorem b_are_kinds {K : PySem.W.Frag} {mg : Str → Option Value} (C : Ctx K mg) : Binds K (fdA K (ga K "are_kinds")) ["value"] [] := (fun_are_kinds C).bindsN fun _ _ _ _ _ _ us hl => match us, hl with | [_], _ => rfl
theorem ok_are_kinds {w : World} {K : PySem.W.Frag} {mg : Str → Option Value} {base : Heap} (C : Ctx K mg) : OkV PW w K mg base 4 (ga K "are_kinds") ["value"] f_are_kinds :=
  fn_okV (qual := "are_kinds") (scope := defScope s_are_kinds) (body := defBody s_are_kinds) (m := m_are_kinds) (k := 3) (fun_are_kinds C) sc_are_kinds rfl rfl fun cdv A outer s H E hr => ss_cons (ss_if (sb_w (sw_or (sb_not (sb_val (se_callB (cv_isiT (ho := (fun p hp => nomatch hp))) (C.free 9 "isinstance") (by decide +kernel) (sa_cons (sv 0) (sa_cons (se_bty (n := "dict") (C.free 57 "dict") (by decide +kernel)) (sa_nil)))))) (sw_or1 (sb_not (sb_chain ob_le ov_le (se_int) (se_lenV (pvv 0) (C.free 0 "len")) (se_gint (C.int 58 "MOST_KINDS" 6))))))) (ss_one (ss_ret (se_bl))) (ss_nil)) (ss_one (ss_ret (se_callB cv_all (C.free 48 "all") (by decide +kernel) (sa_cons (se_frz (sn_lc (own := [("name", 1)]) sc_are_kinds.nd (si_any (sv 0)) (blkOk_by (N := ["value", "name"]) (sc := defScope s_are_kinds) (by decide +kernel)) (fun _ _ _ _ _ => sg_name sc_are_kinds.nd) (fun _ _ _ _ _ => sts_nil) (fun _ _ _ _ _ => se_and (se_call LamX.takes0 ((ok_is_name C).mono (by decide : 1 ≤ 3)) ar_of hr (C.glo 49 "is_name") (fun_is_name C).kp (b_is_name C) (sa_cons (sv 1) (sa_nil))) (se_one (se_call LamX.takes0 ((ok_is_kind C).mono (by decide : 3 ≤ 3)) ar_of hr (C.glo 56 "is_kind") (fun_is_kind C).kp (b_is_kind C) (sa_cons (se_ixV (hu_of hr) (pvv 0) (sv 1)) (sa_nil))))))) (sa_nil)))))
/-! is_list: slots 0 value -/
def m_is_list : M Fl := retM (M.bind (consM (getV 0) (consM (tupM (consM (M.ret (.ty "list")) (consM (M.ret (.ty "tuple")) (M.ret [])))) (M.ret []))) (isiTM ["list", "tuple"] (fun t => t == "list" || t == "tuple") []))
def f_is_list : FnD := fnBody 1 1 m_is_list
theorem sc_is_list : FnScope ["value"] ["value"] (defScope s_is_list) := ⟨rfl, rfl, rfl, by decide +kernel, rfl, by decide +kernel, by decide +kernel⟩
theorem b_is_list {K : PySem.W.Frag} {mg : Str → Option Value} (C : Ctx K mg) : Binds K (fdA K (ga K "is_list")) ["value"] [] := (fun_is_list C).bindsN fun _ _ _ _ _ _ us hl => match us, hl with | [_], _ => rfl
theorem ok_is_list {w : World} {K : PySem.W.Frag} {mg : Str → Option Value} {base : Heap} (C : Ctx K mg) : OkV PW w K mg base 1 (ga K "is_list") ["value"] f_is_list :=
  fn_okV (qual := "is_list") (scope := defScope s_is_list) (body := defBody s_is_list) (m := m_is_list) (k := 0) (fun_is_list C) sc_is_list rfl rfl fun cdv A outer s H E hr => ss_one (ss_ret (se_callB (cv_isiTup (ts := ["list", "tuple"]) (ho := (fun p hp => nomatch hp))) (C.free 9 "isinstance") (by decide +kernel) (sa_cons (sv 0) (sa_cons (se_tup (sa_cons (se_bty (n := "list") (C.free 36 "list") (by decide +kernel)) (sa_cons (se_bty (n := "tuple") (C.free 30 "tuple") (by decide +kernel)) (sa_nil)))) (sa_nil)))))
/-! are_lengths: slots 0 value, 1 length -/
def m_are_lengths : M Fl := seqM (ifM (orB (notB (isB (M.bind (consM (getV 0) (M.ret [])) (callF f_is_list)))) (notB (isB (chainD leD leD (M.ret (.int 1)) (lenV 0) (M.ret (.int 4)))))) (retM (M.ret (.bl false))) (M.ret .nx)) (retM (M.bind (consM (frzM (lcN (anyM (getV 0)) (gSet 1) (M.ret true) (M.bind (consM (getV 1) (consM (M.ret (.int 2)) (consM (M.ret (.int 31)) (M.ret [])))) (callF f_is_number_in)) [1])) (M.ret [])) allD))
def f_are_lengths : FnD := fnBody 1 2 m_are_lengths
theorem sc_are_lengths : FnScope ["value", "length"] ["value"] (defScope s_are_lengths) := ⟨rfl, rfl, rfl, by decide +kernel, rfl, by decide +kernel, by decide +kernel⟩
theorem b_are_lengths {K : PySem.W.Frag} {mg : Str → Option Value} (C : Ctx K mg) : Binds K (fdA K (ga K "are_lengths")) ["value"] [] := (fun_are_lengths C).bindsN fun _ _ _ _ _ _ us hl => match us, hl with | [_], _ => rfl
theorem ok_are_lengths {w : World} {K : PySem.W.Frag} {mg : Str → Option Value} {base : Heap} (C : Ctx K mg) : OkV PW w K mg base 3 (ga K "are_lengths") ["value"] f_are_lengths :=
  fn_okV (qual := "are_lengths") (scope := defScope s_are_lengths) (body := defBody s_are_lengths) (m := m_are_lengths) (k := 2) (fun_are_lengths C) sc_are_lengths rfl rfl fun cdv A outer s H E hr => ss_cons (ss_if (sb_w (sw_or (sb_not (sb_val (se_call (takes_of rfl rfl rfl rfl) ((ok_is_list C).mono (by decide : 1 ≤ 2)) ar_of hr (C.glo 62 "is_list") (fun_is_list C).kp (b_is_list C) (sa_cons (sv 0) (sa_nil))))) (sw_or1 (sb_not (sb_chain ob_le ov_le (se_int) (se_lenV (pvv 0) (C.free 0 "len")) (se_gint (C.int 63 "MOST_LENGTHS" 4))))))) (ss_one (ss_ret (se_bl))) (ss_nil)) (ss_one (ss_ret (se_callB cv_all (C.free 48 "all") (by decide +kernel) (sa_cons (se_frz (sn_lc (own := [("length", 1)]) sc_are_lengths.nd (si_any (sv 0)) (blkOk_by (N := ["value", "length"]) (sc := defScope s_are_lengths) (by decide +kernel)) (fun _ _ _ _ _ => sg_name sc_are_lengths.nd) (fun _ _ _ _ _ => sts_nil) (fun _ _ _ _ _ => se_call LamX.takes0 ((ok_is_number_in C).mono (by decide : 2 ≤ 2)) ar_of hr (C.glo 13 "is_number_in") (fun_is_number_in C).kp (b_is_number_in C) (sa_cons (sv 1) (sa_cons (se_gint (C.int 61 "SHORTEST" 2)) (sa_cons (se_gint (C.int 60 "LONGEST" 31)) (sa_nil))))))) (sa_nil)))))
/-! Book.__init__: slots 0 self, 1 lengths, 2 due, 3 kinds, 4 memory, 5 begins, 6 laid, 7 name -/
def m_Book_init : M Fl := seqM (ifM (notB (isB (M.bind (consM (getV 1) (M.ret [])) (callF f_are_lengths)))) (raiseS "BadBook" "part" (consM (M.ret (.str "lengths")) (M.ret []))) (M.ret .nx)) (seqM (ifM (notB (isB (M.bind (consM (getV 2) (consM (M.ret (.int 0)) (consM (bin2 subD (M.bind (consM (getV 1) (M.ret [])) minLD) (M.ret (.int 1))) (M.ret [])))) (callF f_is_number_in)))) (raiseS "BadBook" "part" (consM (M.ret (.str "due")) (M.ret []))) (M.ret .nx)) (seqM (ifM (notB (isB (M.bind (consM (getV 3) (M.ret [])) (callF f_are_kinds)))) (raiseS "BadBook" "part" (consM (M.ret (.str "kinds")) (M.ret []))) (M.ret .nx)) (seqM (ifM (notB (isB (M.bind (consM (getV 4) (consM (M.ret (.int 0)) (consM (M.ret (.int 2)) (M.ret [])))) (callF f_is_number_in)))) (raiseS "BadBook" "part" (consM (M.ret (.str "memory")) (M.ret []))) (M.ret .nx)) (seqM (ifM (orB (notB (isB (M.bind (consM (getV 5) (consM (M.ret (.ty "str")) (M.ret []))) (isiM (isTyD "str") (fun t => t == "str") [])))) (isB (bin2 (inD true) (getV 5) (tupM (consM (M.ret (.str "day")) (consM (M.ret (.str "statement")) (M.ret []))))))) (raiseS "BadBook" "part" (consM (M.ret (.str "begins")) (M.ret []))) (M.ret .nx)) (seqM (ifM (andB (isB (bin2 notND (getV 6) (M.ret .non))) (notB (isB (M.bind (consM (frzM (listN (consM (getV 3) (M.ret [])))) (consM (getV 6) (M.ret []))) (callF f_is_order))))) (raiseS "BadBook" "part" (consM (M.ret (.str "laid")) (M.ret []))) (M.ret .nx)) (seqM (fsetM "Book" "b_lengths" (getV 0) (M.bind (consM (getV 1) (M.ret [])) tupD)) (seqM (fsetM "Book" "b_due" (getV 0) (getV 2)) (seqM (fsetM "Book" "b_kinds" (getV 0) (frzM (dcN (anyM (frzM (sortN (consM (getV 3) (M.ret []))))) (gSet 7) (M.ret true) (getV 7) (ixV 3 (getV 7)) [7]))) (seqM (fsetM "Book" "b_memory" (getV 0) (getV 4)) (seqM (fsetM "Book" "b_begins" (getV 0) (getV 5)) (fsetM "Book" "b_laid" (getV 0) (getV 6))))))))))))
def f_Book_init : FnD := fnBody 7 8 m_Book_init
theorem sc_Book_init : FnScope ["self", "lengths", "due", "kinds", "memory", "begins", "laid", "name"] ["self", "lengths", "due", "kinds", "memory", "begins", "laid"] (defScope s_Book_init) := ⟨rfl, rfl, rfl, by decide +kernel, rfl, by decide +kernel, by decide +kernel⟩
theorem ok_Book_init {w : World} {K : PySem.W.Frag} {mg : Str → Option Value} {base : Heap} (C : Ctx K mg) : OkV PW w K mg base 5 (fAd K ("Book", some "__init__")) ["self", "lengths", "due", "kinds", "memory", "begins", "laid"] f_Book_init :=
  fn_okV (qual := "Book.__init__") (scope := defScope s_Book_init) (body := defBody s_Book_init) (m := m_Book_init) (k := 4) (fun_Book_init C) sc_Book_init rfl rfl fun cdv A outer s H E hr => ss_cons (ss_if (sb_not (sb_val (se_call (takes_of rfl rfl rfl rfl) ((ok_are_lengths C).mono (by decide : 3 ≤ 4)) ar_of hr (C.glo 64 "are_lengths") (fun_are_lengths C).kp (b_are_lengths C) (sa_cons (sv 1) (sa_nil))))) (ss_one (ss_raiseS (takes_of rfl rfl rfl rfl) (sup_BadBook C) (hr.mono (by decide : 0 + 1 ≤ 4)) (C.glo 51 "BadBook") (sa_cons (se_str) (sa_nil)))) (ss_nil)) (ss_cons (ss_if (sb_not (sb_val (se_call (takes_of rfl rfl rfl rfl) ((ok_is_number_in C).mono (by decide : 2 ≤ 4)) ar_of hr (C.glo 13 "is_number_in") (fun_is_number_in C).kp (b_is_number_in C) (sa_cons (sv 2) (sa_cons (se_int) (sa_cons (se_bin ov_sub (se_callB cv_minL (C.free 1 "min") (by decide +kernel) (sa_cons (sv 1) (sa_nil))) (se_int)) (sa_nil))))))) (ss_one (ss_raiseS (takes_of rfl rfl rfl rfl) (sup_BadBook C) (hr.mono (by decide : 0 + 1 ≤ 4)) (C.glo 51 "BadBook") (sa_cons (se_str) (sa_nil)))) (ss_nil)) (ss_cons (ss_if (sb_not (sb_val (se_call (takes_of rfl rfl rfl rfl) ((ok_are_kinds C).mono (by decide : 4 ≤ 4)) ar_of hr (C.glo 59 "are_kinds") (fun_are_kinds C).kp (b_are_kinds C) (sa_cons (sv 3) (sa_nil))))) (ss_one (ss_raiseS (takes_of rfl rfl rfl rfl) (sup_BadBook C) (hr.mono (by decide : 0 + 1 ≤ 4)) (C.glo 51 "BadBook") (sa_cons (se_str) (sa_nil)))) (ss_nil)) (ss_cons (ss_if (sb_not (sb_val (se_call (takes_of rfl rfl rfl rfl) ((ok_is_number_in C).mono (by decide : 2 ≤ 4)) ar_of hr (C.glo 13 "is_number_in") (fun_is_number_in C).kp (b_is_number_in C) (sa_cons (sv 4) (sa_cons (se_int) (sa_cons (se_gint (C.int 54 "MOST_MEMORY" 2)) (sa_nil))))))) (ss_one (ss_raiseS (takes_of rfl rfl rfl rfl) (sup_BadBook C) (hr.mono (by decide : 0 + 1 ≤ 4)) (C.glo 51 "BadBook") (sa_cons (se_str) (sa_nil)))) (ss_nil)) (ss_cons (ss_if (sb_w (sw_or (sb_not (sb_val (se_callB (cv_isiT (ho := (fun p hp => nomatch hp))) (C.free 9 "isinstance") (by decide +kernel) (sa_cons (sv 5) (sa_cons (se_bty (n := "str") (C.free 45 "str") (by decide +kernel)) (sa_nil)))))) (sw_or1 (sb_cmp ov_notin (sv 5) (se_tup (sa_cons (se_gstr (C.str 53 "DAY" "day")) (sa_cons (se_gstr (C.str 52 "STATEMENT" "statement")) (sa_nil)))) (by rfl))))) (ss_one (ss_raiseS (takes_of rfl rfl rfl rfl) (sup_BadBook C) (hr.mono (by decide : 0 + 1 ≤ 4)) (C.glo 51 "BadBook") (sa_cons (se_str) (sa_nil)))) (ss_nil)) (ss_cons (ss_if (sb_w (sw_and (sb_cmp ov_notN (sv 6) (se_non) (nomark _)) (sw_and1 (sb_not (sb_val (se_call (takes_of rfl rfl rfl rfl) ((ok_is_order C).mono (by decide : 2 ≤ 4)) ar_of hr (C.glo 50 "is_order") (fun_is_order C).kp (b_is_order C) (sa_cons (se_frz (sn_list (x := "list") (C.free 36 "list") (sa_cons (sv 3) (sa_nil)))) (sa_cons (sv 6) (sa_nil))))))))) (ss_one (ss_raiseS (takes_of rfl rfl rfl rfl) (sup_BadBook C) (hr.mono (by decide : 0 + 1 ≤ 4)) (C.glo 51 "BadBook") (sa_cons (se_str) (sa_nil)))) (ss_nil)) (ss_cons (ss_fset (sv 0) (se_callT cv_tuple (C.free 30 "tuple") (by decide +kernel) (sa_cons (sv 1) (sa_nil))) (C.cls 16 "Book") (C.noat 44 "Book" "b_lengths")) (ss_cons (ss_fset (sv 0) (sv 2) (C.cls 16 "Book") (C.noat 43 "Book" "b_due")) (ss_cons (ss_fset (sv 0) (se_frz (sn_dc (own := [("name", 7)]) sc_Book_init.nd (si_any (se_frz (sn_sorted (C.free 41 "sorted") (sa_cons (sv 3) (sa_nil))))) (blkOk_by (N := ["self", "lengths", "due", "kinds", "memory", "begins", "laid", "name"]) (sc := defScope s_Book_init) (by decide +kernel)) (fun _ _ _ _ _ => sg_name sc_Book_init.nd) (fun _ _ _ _ _ => sts_nil) (fun _ _ _ _ _ => sv 7) (fun _ _ _ _ _ => se_ixV (hu_of hr) (pvv 3) (sv 7)))) (C.cls 16 "Book") (C.noat 42 "Book" "b_kinds")) (ss_cons (ss_fset (sv 0) (sv 4) (C.cls 16 "Book") (C.noat 40 "Book" "b_memory")) (ss_cons (ss_fset (sv 0) (sv 5) (C.cls 16 "Book") (C.noat 39 "Book" "b_begins")) (ss_one (ss_fset (sv 0) (sv 6) (C.cls 16 "Book") (C.noat 38 "Book" "b_laid")))))))))))))
theorem kb_Book_init_4 {K : PySem.W.Frag} {mg : Str → Option Value} (C : Ctx K mg) : KB K (fdA K (fAd K ("Book", some "__init__"))) ["self", "lengths", "due", "kinds", "memory", "begins", "laid"] 4 ([] : List Str) (DefD.dvs K d_Book_init) [0, 1, 2, 3, 4, 5, 6] := kb_d (fun_Book_init C) (by exact List.cons_ne_nil _ _) fun _ _ _ _ _ _ _ us ws its h1 h2 h3 => match us, ws, its, h1, h2, h3 with | [_, _, _, _], [], [_, _, _], _, _, _ => ⟨_, rfl, rfl⟩
/-! Plan.__eq__: slots 0 self, 1 other -/
def m_Plan_eq : M Fl := retM (andD (M.bind (consM (getV 1) (consM (M.ret (.glo "Plan")) (M.ret []))) (isiM (isGloD "Plan") (fun _ => false) [("Plan", true), ("Book", false)])) (bin2 eqD (fldM "Plan" "l_parts" (getV 0)) (fldM "Plan" "l_parts" (getV 1))))
def f_Plan_eq : FnD := fnBody 2 2 m_Plan_eq
theorem sc_Plan_eq : FnScope ["self", "other"] ["self", "other"] (defScope s_Plan_eq) := ⟨rfl, rfl, rfl, by decide +kernel, rfl, by decide +kernel, by decide +kernel⟩
theorem b_Plan_eq {K : PySem.W.Frag} {mg : Str → Option Value} (C : Ctx K mg) : Binds K (fdA K (fAd K ("Plan", some "__eq__"))) ["self", "other"] [] := (fun_Plan_eq C).bindsN fun _ _ _ _ _ _ us hl => match us, hl with | [_, _], _ => rfl
theorem ok_Plan_eq {w : World} {K : PySem.W.Frag} {mg : Str → Option Value} {base : Heap} (C : Ctx K mg) : OkV PW w K mg base 1 (fAd K ("Plan", some "__eq__")) ["self", "other"] f_Plan_eq :=
  fn_okV (qual := "Plan.__eq__") (scope := defScope s_Plan_eq) (body := defBody s_Plan_eq) (m := m_Plan_eq) (k := 0) (fun_Plan_eq C) sc_Plan_eq rfl rfl fun cdv A outer s H E hr => ss_one (ss_ret (se_and (se_callB (cv_isiC (kitsB_ok (C := "Plan") (C.ex 0)) (List.forall_mem_cons.mpr ⟨⟨clsIB_ok (c := "Plan") (C.cls 6 "Plan") (C.ex 1), kit1B_ok (c := "Plan") (t := (.inr "Plan")) (r := true) (C.ex 2)⟩, (List.forall_mem_cons.mpr ⟨⟨clsIB_ok (c := "Book") (C.cls 16 "Book") (C.ex 3), kit1B_ok (c := "Book") (t := (.inr "Plan")) (r := false) (C.ex 4)⟩, (fun p hp => nomatch hp)⟩)⟩)) (C.free 9 "isinstance") (by decide +kernel) (sa_cons (sv 1) (sa_cons (se_glo (C.glo 15 "Plan")) (sa_nil)))) (se_one (se_cmp (ov_eq hr) (se_fld (sv 0) (C.cls 6 "Plan") (C.noat 5 "Plan" "l_parts")) (se_fld (sv 1) (C.cls 6 "Plan") (C.noat 5 "Plan" "l_parts")) (nomark _)))))
/-! _law_planned: slots 0 _law_parts_here -/
def m__law_planned : M Fl := retM (mkM "Plan" f_Plan_init 4 0 [.bl false] [0, 1, 2, 3, 4] (consM (ixV 0 (M.ret (.int 0))) (consM (ixV 0 (M.ret (.int 1))) (consM (ixV 0 (M.ret (.int 2))) (consM (ixV 0 (M.ret (.int 3))) (M.ret []))))) (M.ret []))
def f__law_planned : FnD := fnBody 1 1 m__law_planned
theorem sc__law_planned : FnScope ["_law_parts_here"] ["_law_parts_here"] (defScope s__law_planned) := ⟨rfl, rfl, rfl, by decide +kernel, rfl, by decide +kernel, by decide +kernel⟩
theorem b__law_planned {K : PySem.W.Frag} {mg : Str → Option Value} (C : Ctx K mg) : Binds K (fdA K (ga K "_law_planned")) ["_law_parts_here"] [] := (fun__law_planned C).bindsN fun _ _ _ _ _ _ us hl => match us, hl with | [_], _ => rfl
theorem ok__law_planned {w : World} {K : PySem.W.Frag} {mg : Str → Option Value} {base : Heap} (C : Ctx K mg) : OkV PW w K mg base 5 (ga K "_law_planned") ["_law_parts_here"] f__law_planned :=
  fn_okV (qual := "_law_planned") (scope := defScope s__law_planned) (body := defBody s__law_planned) (m := m__law_planned) (k := 4) (fun__law_planned C) sc__law_planned rfl rfl fun cdv A outer s H E hr => ss_one (ss_ret (se_make (takes_of rfl rfl rfl rfl) (C.mkr 28 "Plan") (ok_Plan_init C) ar_of (hr.mono (by decide : 3 + 1 ≤ 4)) (C.glo 15 "Plan") (kb_Plan_init_5 C) (.cons (.bl _) .nil) (sa_cons (se_ixV (hu_of hr) (pvv 0) (se_int)) (sa_cons (se_ixV (hu_of hr) (pvv 0) (se_int)) (sa_cons (se_ixV (hu_of hr) (pvv 0) (se_int)) (sa_cons (se_ixV (hu_of hr) (pvv 0) (se_int)) (sa_nil))))) (sk_nil)))
theorem kb_Plan_init_4 {K : PySem.W.Frag} {mg : Str → Option Value} (C : Ctx K mg) : KB K (fdA K (fAd K ("Plan", some "__init__"))) ["self", "rate", "share", "least", "plus"] 4 ([] : List Str) (DefD.dvs K d_Plan_init) [0, 1, 2, 3, 4] := kb_d (fun_Plan_init C) (by exact List.cons_ne_nil _ _) fun _ _ _ _ _ _ _ us ws its h1 h2 h3 => match us, ws, its, h1, h2, h3 with | [_, _, _, _], [], [_], _, _, _ => ⟨_, rfl, rfl⟩
/-! _law_parts: slots 0 _law_state, 1 _law_rated, 2 _law_part, 3 _law_low -/
def m__law_parts : M Fl := seqM (M.bind (M.bind (consM (getV 0) (consM (frzM (lstN (consM (M.ret (.int 0)) (consM (M.ret (.int 1)) (consM (M.ret (.int 5)) (consM (M.ret (.int 15)) (consM (M.ret (.int 20)) (consM (M.ret (.int 100)) (consM (M.ret (.int 999)) (consM (M.ret (.int 1000)) (consM (M.bind (consM (getV 0) (consM (M.ret (.int 60)) (M.ret []))) (callF f__law_take)) (consM (M.bind (consM (getV 0) (consM (M.ret (.int 1001)) (M.ret []))) (callF f__law_take)) (M.ret []))))))))))))) (M.ret []))) (callF f__law_pick)) (setV 1)) (seqM (M.bind (M.bind (consM (getV 0) (consM (frzM (lstN (consM (M.ret (.int 0)) (consM (M.ret (.int 1)) (consM (M.ret (.int 10)) (consM (M.ret (.int 20)) (consM (M.ret (.int 30)) (consM (M.ret (.int 500)) (consM (M.ret (.int 999)) (consM (M.ret (.int 1000)) (consM (M.bind (consM (getV 0) (consM (M.ret (.int 60)) (M.ret []))) (callF f__law_take)) (consM (M.bind (consM (getV 0) (consM (M.ret (.int 1001)) (M.ret []))) (callF f__law_take)) (M.ret []))))))))))))) (M.ret []))) (callF f__law_pick)) (setV 2)) (seqM (M.bind (M.bind (consM (getV 0) (consM (frzM (lstN (consM (M.ret (.int 1)) (consM (M.ret (.int 1)) (consM (M.ret (.int 2)) (consM (M.ret (.int 3)) (consM (M.ret (.int 10)) (consM (M.ret (.int 25)) (consM (bin2 addT (M.ret (.int 1)) (M.bind (consM (getV 0) (consM (M.ret (.int 100)) (M.ret []))) (callF f__law_take))) (consM (bin2 addT (M.ret (.int 1)) (M.bind (consM (getV 0) (consM (M.ret (.int 3000)) (M.ret []))) (callF f__law_take))) (M.ret []))))))))))) (M.ret []))) (callF f__law_pick)) (setV 3)) (retM (tupM (consM (getV 1) (consM (getV 2) (consM (getV 3) (consM (bin2 eqD (M.bind (consM (getV 0) (consM (M.ret (.int 3)) (M.ret []))) (callF f__law_take)) (M.ret (.int 0))) (M.ret [])))))))))
def f__law_parts : FnD := fnBody 1 4 m__law_parts
theorem sc__law_parts : FnScope ["_law_state", "_law_rated", "_law_part", "_law_low"] ["_law_state"] (defScope s__law_parts) := ⟨rfl, rfl, rfl, by decide +kernel, rfl, by decide +kernel, by decide +kernel⟩
theorem b__law_parts {K : PySem.W.Frag} {mg : Str → Option Value} (C : Ctx K mg) : Binds K (fdA K (ga K "_law_parts")) ["_law_state"] [] := (fun__law_parts C).bindsN fun _ _ _ _ _ _ us hl => match us, hl with | [_], _ => rfl
theorem ok__law_parts {w : World} {K : PySem.W.Frag} {mg : Str → Option Value} {base : Heap} (C : Ctx K mg) : OkV PW w K mg base 4 (ga K "_law_parts") ["_law_state"] f__law_parts :=
  fn_okV (qual := "_law_parts") (scope := defScope s__law_parts) (body := defBody s__law_parts) (m := m__law_parts) (k := 3) (fun__law_parts C) sc__law_parts rfl rfl fun cdv A outer s H E hr => ss_cons (ss_set sc__law_parts.nd (se_call (takes_of rfl rfl rfl rfl) ((ok__law_pick C).mono (by decide : 3 ≤ 3)) ar_of hr (C.glo 25 "_law_pick") (fun__law_pick C).kp (b__law_pick C) (sa_cons (sv 0) (sa_cons (se_frz (sn_lst (sa_cons (se_int) (sa_cons (se_int) (sa_cons (se_int) (sa_cons (se_int) (sa_cons (se_int) (sa_cons (se_int) (sa_cons (se_int) (sa_cons (se_int) (sa_cons (se_call (takes_of rfl rfl rfl rfl) ((ok__law_take C).mono (by decide : 2 ≤ 3)) ar_of hr (C.glo 24 "_law_take") (fun__law_take C).kp (b__law_take C) (sa_cons (sv 0) (sa_cons (se_int) (sa_nil)))) (sa_cons (se_call (takes_of rfl rfl rfl rfl) ((ok__law_take C).mono (by decide : 2 ≤ 3)) ar_of hr (C.glo 24 "_law_take") (fun__law_take C).kp (b__law_take C) (sa_cons (sv 0) (sa_cons (se_int) (sa_nil)))) (sa_nil))))))))))))) (sa_nil))))) (ss_cons (ss_set sc__law_parts.nd (se_call (takes_of rfl rfl rfl rfl) ((ok__law_pick C).mono (by decide : 3 ≤ 3)) ar_of hr (C.glo 25 "_law_pick") (fun__law_pick C).kp (b__law_pick C) (sa_cons (sv 0) (sa_cons (se_frz (sn_lst (sa_cons (se_int) (sa_cons (se_int) (sa_cons (se_int) (sa_cons (se_int) (sa_cons (se_int) (sa_cons (se_int) (sa_cons (se_int) (sa_cons (se_int) (sa_cons (se_call (takes_of rfl rfl rfl rfl) ((ok__law_take C).mono (by decide : 2 ≤ 3)) ar_of hr (C.glo 24 "_law_take") (fun__law_take C).kp (b__law_take C) (sa_cons (sv 0) (sa_cons (se_int) (sa_nil)))) (sa_cons (se_call (takes_of rfl rfl rfl rfl) ((ok__law_take C).mono (by decide : 2 ≤ 3)) ar_of hr (C.glo 24 "_law_take") (fun__law_take C).kp (b__law_take C) (sa_cons (sv 0) (sa_cons (se_int) (sa_nil)))) (sa_nil))))))))))))) (sa_nil))))) (ss_cons (ss_set sc__law_parts.nd (se_call (takes_of rfl rfl rfl rfl) ((ok__law_pick C).mono (by decide : 3 ≤ 3)) ar_of hr (C.glo 25 "_law_pick") (fun__law_pick C).kp (b__law_pick C) (sa_cons (sv 0) (sa_cons (se_frz (sn_lst (sa_cons (se_int) (sa_cons (se_int) (sa_cons (se_int) (sa_cons (se_int) (sa_cons (se_int) (sa_cons (se_int) (sa_cons (se_bin ov_addT (se_int) (se_call (takes_of rfl rfl rfl rfl) ((ok__law_take C).mono (by decide : 2 ≤ 3)) ar_of hr (C.glo 24 "_law_take") (fun__law_take C).kp (b__law_take C) (sa_cons (sv 0) (sa_cons (se_int) (sa_nil))))) (sa_cons (se_bin ov_addT (se_int) (se_call (takes_of rfl rfl rfl rfl) ((ok__law_take C).mono (by decide : 2 ≤ 3)) ar_of hr (C.glo 24 "_law_take") (fun__law_take C).kp (b__law_take C) (sa_cons (sv 0) (sa_cons (se_int) (sa_nil))))) (sa_nil))))))))))) (sa_nil))))) (ss_one (ss_ret (se_tup (sa_cons (sv 1) (sa_cons (sv 2) (sa_cons (sv 3) (sa_cons (se_cmp (ov_eq hr) (se_call (takes_of rfl rfl rfl rfl) ((ok__law_take C).mono (by decide : 2 ≤ 3)) ar_of hr (C.glo 24 "_law_take") (fun__law_take C).kp (b__law_take C) (sa_cons (sv 0) (sa_cons (se_int) (sa_nil)))) (se_int) (nomark _)) (sa_nil))))))))))
/-! _law_begun: slots 0 _law_script, 1 _law_large, 2 _law_cell -/
def m__law_begun : M Fl := seqM (M.bind (newM (lcN (itemsM (getV 0)) (gSet 2) (isB (bin2 geD (getV 2) (bin2 powD (M.ret (.int 10)) (M.ret (.int 18))))) (bin2 subD (getV 2) (bin2 powD (M.ret (.int 10)) (M.ret (.int 18)))) [2])) (setV 1)) (retM (newM (dispN [.inr "large", .inr "cells", .inr "rest", .inr "turn"] [getV 1, frzM (listN (consM (getV 0) (M.ret []))), M.ret (.int 0), M.ret (.int 0)])))
def f__law_begun : FnD := fnBody 1 3 m__law_begun
theorem sc__law_begun : FnScope ["_law_script", "_law_large", "_law_cell"] ["_law_script"] (defScope s__law_begun) := ⟨rfl, rfl, rfl, by decide +kernel, rfl, by decide +kernel, by decide +kernel⟩
theorem b__law_begun {K : PySem.W.Frag} {mg : Str → Option Value} (C : Ctx K mg) : Binds K (fdA K (ga K "_law_begun")) ["_law_script"] [] := (fun__law_begun C).bindsN fun _ _ _ _ _ _ us hl => match us, hl with | [_], _ => rfl
theorem ok__law_begun {w : World} {K : PySem.W.Frag} {mg : Str → Option Value} {base : Heap} (C : Ctx K mg) : OkV PW w K mg base 1 (ga K "_law_begun") ["_law_script"] f__law_begun :=
  fn_okV (qual := "_law_begun") (scope := defScope s__law_begun) (body := defBody s__law_begun) (m := m__law_begun) (k := 0) (fun__law_begun C) sc__law_begun rfl rfl fun cdv A outer s H E hr => ss_cons (SNs.new (sns_lc (i := 1) (own := [("_law_cell", 2)]) sc__law_begun.nd (si_seq (sv 0)) (blkOk_by (N := ["_law_script", "_law_large", "_law_cell"]) (sc := defScope s__law_begun) (by decide +kernel)) (fun _ _ _ _ _ => sg_name sc__law_begun.nd) (fun _ _ _ _ _ => sts_one (sb_cmp ov_ge (sv 2) (se_bin ov_pow (se_int) (se_int)) (nomark _))) (fun _ _ _ _ _ => se_bin ov_sub (sv 2) (se_bin ov_pow (se_int) (se_int))))) (ss_one (ss_ret (se_new (sn_disp (pp_str (sv 1) (pp_str (se_frz (sn_list (x := "list") (C.free 36 "list") (sa_cons (sv 0) (sa_nil)))) (pp_str (se_int) (pp_str (se_int) (pp_nil)))))))))
/-! law: slots 0 _law_script, 1 _law_state, 2 _law_turn, 3 _law_parts_here, 4 _law_other, 5 _law_made, 6 _law_spot, 7 _law_near, 8 _law_others, 9 _law_odd, 10 _law_lap, 11 _law_sum_here, 12 _law_due -/
def m_law : M Fl := seqM (M.bind (M.bind (consM (getV 0) (M.ret [])) (callF f__law_begun)) (setV 1)) (seqM (forM (rng1M (consM (bin2 addT (M.ret (.int 6)) (M.bind (consM (lenV 0) (consM (M.ret (.int 24)) (M.ret []))) min2D)) (M.ret []))) (gSet 2) (seqM (set2 3 4 (consM (M.bind (consM (getV 1) (M.ret [])) (callF f__law_parts)) (consM (M.bind (consM (getV 1) (M.ret [])) (callF f__law_parts)) (M.ret [])))) (seqM (asgM (tupM (consM (M.bind (consM (getV 3) (M.ret [])) (callF f__law_planned)) (consM (M.bind (consM (getV 1) (consM (M.ret (.int 4)) (M.ret []))) (callF f__law_take)) (M.ret [])))) (gTupM 2 (gsCons (gSet 5) (gsCons (gSet 6) (gsNil))))) (seqM (M.bind (bin2 addT (bin2 addT (sliceM (getV 3) (M.ret none) (partM (getV 6))) (sliceM (getV 4) (partM (getV 6)) (partM (bin2 addT (getV 6) (M.ret (.int 1)))))) (sliceM (getV 3) (partM (bin2 addT (getV 6) (M.ret (.int 1)))) (M.ret none))) (setV 7)) (seqM (ifM (orB (isB (bin2 neD (M.bind (consM (M.bind (consM (getV 5) (M.ret [])) (callF f__law_shown)) (M.ret [])) reprG) (M.bind (consM (getV 3) (M.ret [])) reprG))) (isB (bin2 notBD (propM "Plan" f_Plan_plus (mkM "Plan" f_Plan_init 3 0 [.bl false] [0, 1, 2, 3, 4] (consM (ixV 3 (M.ret (.int 0))) (consM (ixV 3 (M.ret (.int 1))) (consM (ixV 3 (M.ret (.int 2))) (M.ret [])))) (M.ret []))) (M.ret (.bl false))))) (retM (M.ret (.bl false))) (M.ret .nx)) (seqM (ifM (orB (isB (bin2 neD (bin2 (eqUD "Plan" ["Plan", "Book"] f_Plan_eq) (getV 5) (M.bind (consM (getV 7) (M.ret [])) (callF f__law_planned))) (bin2 eqD (getV 3) (getV 7)))) (isB (bin2 eqD (bin2 (neUD "Plan" ["Plan", "Book"] f_Plan_eq) (getV 5) (M.bind (consM (getV 7) (M.ret [])) (callF f__law_planned))) (bin2 eqD (getV 3) (getV 7))))) (retM (M.ret (.bl false))) (M.ret .nx)) (seqM (M.bind (frzM (lcN (anyM (frzM (lstN (consM (getV 3) (consM (M.ret .non) (consM (mkM "Book" f_Book_init 3 0 [.int 0, .str "day", .non] [0, 1, 2, 3, 4, 5, 6] (consM (frzM (lstN (consM (M.ret (.int 30)) (M.ret [])))) (consM (M.ret (.int 0)) (consM (frzM (dispN [.inr "a"] [tupM (consM (ixV 3 (M.ret (.int 0))) (consM (M.ret (.bl true)) (M.ret [])))])) (M.ret [])))) (M.ret [])) (consM (M.ret (.int 0)) (consM (M.ret (.str "")) (M.ret []))))))))) (gSet 9) (isB (bin2 (eqUD "Plan" ["Plan", "Book"] f_Plan_eq) (getV 5) (getV 9))) (getV 9) [9])) (setV 8)) (seqM (ifM (orB (isB (bin2 neP (getV 8) (frzM (lstN (M.ret []))))) (notB (isB (M.bind (consM (getV 1) (consM (getV 3) (M.ret []))) (callF f__law_refused_right))))) (retM (M.ret (.bl false))) (M.ret .nx)) (forM (rng1M (consM (M.ret (.int 6)) (M.ret []))) (gSet 10) (seqM (M.bind (M.bind (consM (getV 1) (consM (frzM (lstN (consM (M.bind (consM (getV 1) (consM (getV 3) (M.ret []))) (callF f__law_sum_drawn)) (consM (M.bind (consM (getV 1) (consM (bin2 addT (bin2 powD (M.ret (.int 10)) (M.ret (.int 5))) (M.ret (.int 1))) (M.ret []))) (callF f__law_take)) (consM (bin2 powD (M.ret (.int 10)) (M.ret (.int 5))) (M.ret [])))))) (M.ret []))) (callF f__law_pick)) (setV 11)) (seqM (M.bind (M.bind (consM (M.bind (consM (getV 3) (consM (getV 11) (consM (M.ret (.int 0)) (M.ret [])))) (callF f__law_step)) (M.ret [])) reprG) (setV 12)) (ifM (orB (isB (bin2 neD (M.bind (consM (M.bind (consM (getV 5) (consM (getV 11) (M.ret []))) (callF f_month)) (M.ret [])) reprG) (getV 12))) (isB (bin2 neD (M.bind (consM (argsK 0 2 [] [1, 0] (M.ret []) (consM (getV 11) (consM (getV 5) (M.ret []))) (callF f_month)) (M.ret [])) reprG) (getV 12)))) (retM (M.ret (.bl false))) (M.ret .nx))))))))))))) (retM (M.ret (.bl true))))
def f_law : FnD := fnBody 1 13 m_law
theorem sc_law : FnScope ["_law_script", "_law_state", "_law_turn", "_law_parts_here", "_law_other", "_law_made", "_law_spot", "_law_near", "_law_others", "_law_odd", "_law_lap", "_law_sum_here", "_law_due"] ["_law_script"] (defScope s_law) := ⟨rfl, rfl, rfl, by decide +kernel, rfl, by decide +kernel, by decide +kernel⟩
theorem b_law {K : PySem.W.Frag} {mg : Str → Option Value} (C : Ctx K mg) : Binds K (fdA K (ga K "law")) ["_law_script"] [] := (fun_law C).bindsN fun _ _ _ _ _ _ us hl => match us, hl with | [_], _ => rfl
theorem ok_law {w : World} {K : PySem.W.Frag} {mg : Str → Option Value} {base : Heap} (C : Ctx K mg) (TB : ∀ p ∈ tabs, LamX.TabB base mg (codA K p.1) (tabA K p.1)) : FnG PW w K mg base 8 (ga K "law") (fdA K (ga K "law")) ["_law_script"] (spV K 1 f_law) :=
  fn_okG (qual := "law") (scope := defScope s_law) (body := defBody s_law) (m := m_law) (k := 7) (fun_law C) sc_law rfl rfl fun cdv A o s G T hA hr => ss_cons (ss_set sc_law.nd (se_call (takes_of rfl rfl rfl rfl) ((ok__law_begun C).mono (by decide : 1 ≤ 7)) ar_of hr (C.glo 69 "_law_begun") (fun__law_begun C).kp (b__law_begun C) (sa_cons (sv 0) (sa_nil)))) (ss_cons (ss_for (vs := [2]) (passes_of rfl) (si_range1 (C.free 2 "range") (sa_cons (se_bin ov_addT (se_int) (se_callB cv_min2 (C.free 1 "min") (by decide +kernel) (sa_cons (se_lenV (pvv 0) (C.free 0 "len")) (sa_cons (se_int) (sa_nil))))) (sa_nil))) (sg_name sc_law.nd) (ss_cons (ss_par sc_law.nd (by decide) (sa_cons (se_call (takes_of rfl rfl rfl rfl) ((ok__law_parts C).mono (by decide : 4 ≤ 7)) ar_of hr (C.glo 68 "_law_parts") (fun__law_parts C).kp (b__law_parts C) (sa_cons (sv 1) (sa_nil))) (sa_cons (se_call (takes_of rfl rfl rfl rfl) ((ok__law_parts C).mono (by decide : 4 ≤ 7)) ar_of hr (C.glo 68 "_law_parts") (fun__law_parts C).kp (b__law_parts C) (sa_cons (sv 1) (sa_nil))) (sa_nil))) (by rfl)) (ss_cons (ss_asg (vs := [5, 6]) (se_tup (sa_cons (se_call (takes_of rfl rfl rfl rfl) ((ok__law_planned C).mono (by decide : 5 ≤ 7)) ar_of hr (C.glo 67 "_law_planned") (fun__law_planned C).kp (b__law_planned C) (sa_cons (sv 3) (sa_nil))) (sa_cons (se_call (takes_of rfl rfl rfl rfl) ((ok__law_take C).mono (by decide : 2 ≤ 7)) ar_of hr (C.glo 24 "_law_take") (fun__law_take C).kp (b__law_take C) (sa_cons (sv 1) (sa_cons (se_int) (sa_nil)))) (sa_nil)))) (sg_tup (sgs_cons (sg_name sc_law.nd) (sgs_cons (sg_name sc_law.nd) (sgs_nil))))) (ss_cons (ss_set sc_law.nd (se_bin ov_addT (se_bin ov_addT (se_slice (sv 3) (so_none) (so_some (sv 6))) (se_slice (sv 4) (so_some (sv 6)) (so_some (se_bin ov_addT (sv 6) (se_int))))) (se_slice (sv 3) (so_some (se_bin ov_addT (sv 6) (se_int))) (so_none)))) (ss_cons (ss_if (sb_w (sw_or (sb_cmp (ov_ne hr) (se_callB (cv_reprG hA hr) (C.free 21 "repr") (by decide +kernel) (sa_cons (se_call (takes_of rfl rfl rfl rfl) ((ok__law_shown C).mono (by decide : 3 ≤ 7)) ar_of hr (C.glo 29 "_law_shown") (fun__law_shown C).kp (b__law_shown C) (sa_cons (sv 5) (sa_nil))) (sa_nil))) (se_callB (cv_reprG hA hr) (C.free 21 "repr") (by decide +kernel) (sa_cons (sv 3) (sa_nil))) (nomark _)) (sw_or1 (sb_cmp ov_notB (se_prop (se_make (takes_of rfl rfl rfl rfl) (C.mkr 28 "Plan") (ok_Plan_init C) ar_of (hr.mono (by decide : 3 + 1 ≤ 7)) (C.glo 15 "Plan") (kb_Plan_init_4 C) (.cons (.bl _) .nil) (sa_cons (se_ixV (hu_of hr) (pvv 3) (se_int)) (sa_cons (se_ixV (hu_of hr) (pvv 3) (se_int)) (sa_cons (se_ixV (hu_of hr) (pvv 3) (se_int)) (sa_nil)))) (sk_nil)) (C.cls 6 "Plan") (C.get 0 ("Plan", "plus") d_Plan_plus).1 (ok_Plan_plus C) ar_of (hr.mono (by decide : 1 + 1 ≤ 7)) (b_Plan_plus C)) (se_bl) (nomark _))))) (ss_one (ss_ret (se_bl))) (ss_nil)) (ss_cons (ss_if (sb_w (sw_or (sb_cmp (ov_ne hr) (se_cmp (ov_eqU (eqCB_ok (c := "Plan") (C.ex 17)) (List.forall_mem_cons.mpr ⟨nfB_ok (c := "Plan") (d := "Plan") (C.ex 19), (List.forall_mem_cons.mpr ⟨nfB_ok (c := "Plan") (d := "Book") (C.ex 18), (fun p hp => nomatch hp)⟩)⟩) ((ok_Plan_eq C).mono (by decide : 1 ≤ 7)) ar_of hr (b_Plan_eq C)) (sv 5) (se_call (takes_of rfl rfl rfl rfl) ((ok__law_planned C).mono (by decide : 5 ≤ 7)) ar_of hr (C.glo 67 "_law_planned") (fun__law_planned C).kp (b__law_planned C) (sa_cons (sv 7) (sa_nil))) (nomark _)) (se_cmp (ov_eq hr) (sv 3) (sv 7) (nomark _)) (nomark _)) (sw_or1 (sb_cmp (ov_eq hr) (se_cmp (ov_neU (eqCB_ok (c := "Plan") (C.ex 17)) (List.forall_mem_cons.mpr ⟨nfB_ok (c := "Plan") (d := "Plan") (C.ex 19), (List.forall_mem_cons.mpr ⟨nfB_ok (c := "Plan") (d := "Book") (C.ex 18), (fun p hp => nomatch hp)⟩)⟩) (ok_Plan_eq C) ar_of (hr.mono (by decide : 1 + 1 ≤ 7)) (b_Plan_eq C)) (sv 5) (se_call (takes_of rfl rfl rfl rfl) ((ok__law_planned C).mono (by decide : 5 ≤ 7)) ar_of hr (C.glo 67 "_law_planned") (fun__law_planned C).kp (b__law_planned C) (sa_cons (sv 7) (sa_nil))) (nomark _)) (se_cmp (ov_eq hr) (sv 3) (sv 7) (nomark _)) (nomark _))))) (ss_one (ss_ret (se_bl))) (ss_nil)) (ss_cons (SNs.frz (sns_lc (i := 8) (own := [("_law_odd", 9)]) sc_law.nd (si_any (se_frz (sn_lst (sa_cons (sv 3) (sa_cons (se_non) (sa_cons (se_make (takes_of rfl rfl rfl rfl) (C.mkr 65 "Book") (ok_Book_init C) ar_of (hr.mono (by decide : 5 + 1 ≤ 7)) (C.glo 66 "Book") (kb_Book_init_4 C) (.cons (.int _) (.cons (.str _) (.cons .non .nil))) (sa_cons (se_frz (sn_lst (sa_cons (se_int) (sa_nil)))) (sa_cons (se_int) (sa_cons (se_frz (sn_disp (pp_str (se_tup (sa_cons (se_ixV (hu_of hr) (pvv 3) (se_int)) (sa_cons (se_bl) (sa_nil)))) (pp_nil)))) (sa_nil)))) (sk_nil)) (sa_cons (se_int) (sa_cons (se_str) (sa_nil))))))))) (blkOk_by (N := ["_law_script", "_law_state", "_law_turn", "_law_parts_here", "_law_other", "_law_made", "_law_spot", "_law_near", "_law_others", "_law_odd", "_law_lap", "_law_sum_here", "_law_due"]) (sc := defScope s_law) (by decide +kernel)) (fun _ _ _ _ _ => sg_name sc_law.nd) (fun _ _ _ _ _ => sts_one (sb_cmp (ov_eqU (eqCB_ok (c := "Plan") (C.ex 17)) (List.forall_mem_cons.mpr ⟨nfB_ok (c := "Plan") (d := "Plan") (C.ex 19), (List.forall_mem_cons.mpr ⟨nfB_ok (c := "Plan") (d := "Book") (C.ex 18), (fun p hp => nomatch hp)⟩)⟩) ((ok_Plan_eq C).mono (by decide : 1 ≤ 7)) ar_of hr (b_Plan_eq C)) (sv 5) (sv 9) (nomark _))) (fun _ _ _ _ _ => sv 9))) (ss_cons (ss_if (sb_w (sw_or (sb_cmp (ov_neP hr) (sv 8) (se_frz (sn_lst (sa_nil))) (nomark _)) (sw_or1 (sb_not (sb_val (se_callG (takes_of rfl rfl rfl rfl) ((ok__law_refused_right C TB).mono (by decide : 7 ≤ 7)) hA ar_ofC hr (C.glo 37 "_law_refused_right") (fun__law_refused_right C).kp (b__law_refused_right C) (sa_cons (sv 1) (sa_cons (sv 3) (sa_nil))))))))) (ss_one (ss_ret (se_bl))) (ss_nil)) (ss_one (ss_for (vs := [10]) (passes_of rfl) (si_range1 (C.free 2 "range") (sa_cons (se_int) (sa_nil))) (sg_name sc_law.nd) (ss_cons (ss_set sc_law.nd (se_call (takes_of rfl rfl rfl rfl) ((ok__law_pick C).mono (by decide : 3 ≤ 7)) ar_of hr (C.glo 25 "_law_pick") (fun__law_pick C).kp (b__law_pick C) (sa_cons (sv 1) (sa_cons (se_frz (sn_lst (sa_cons (se_call (takes_of rfl rfl rfl rfl) ((ok__law_sum_drawn C).mono (by decide : 4 ≤ 7)) ar_of hr (C.glo 26 "_law_sum_drawn") (fun__law_sum_drawn C).kp (b__law_sum_drawn C) (sa_cons (sv 1) (sa_cons (sv 3) (sa_nil)))) (sa_cons (se_call (takes_of rfl rfl rfl rfl) ((ok__law_take C).mono (by decide : 2 ≤ 7)) ar_of hr (C.glo 24 "_law_take") (fun__law_take C).kp (b__law_take C) (sa_cons (sv 1) (sa_cons (se_bin ov_addT (se_bin ov_pow (se_int) (se_int)) (se_int)) (sa_nil)))) (sa_cons (se_bin ov_pow (se_int) (se_int)) (sa_nil)))))) (sa_nil))))) (ss_cons (ss_set sc_law.nd (se_callB (cv_reprG hA hr) (C.free 21 "repr") (by decide +kernel) (sa_cons (se_call (takes_of rfl rfl rfl rfl) ((ok__law_step C).mono (by decide : 1 ≤ 7)) ar_of hr (C.glo 22 "_law_step") (fun__law_step C).kp (b__law_step C) (sa_cons (sv 3) (sa_cons (sv 11) (sa_cons (se_int) (sa_nil))))) (sa_nil)))) (ss_one (ss_if (sb_w (sw_or (sb_cmp (ov_ne hr) (se_callB (cv_reprG hA hr) (C.free 21 "repr") (by decide +kernel) (sa_cons (se_call (takes_of rfl rfl rfl rfl) ((ok_month C).mono (by decide : 4 ≤ 7)) ar_of hr (C.glo 20 "month") (fun_month C).kp (b_month C) (sa_cons (sv 5) (sa_cons (sv 11) (sa_nil)))) (sa_nil))) (sv 12) (nomark _)) (sw_or1 (sb_cmp (ov_ne hr) (se_callB (cv_reprG hA hr) (C.free 21 "repr") (by decide +kernel) (sa_cons (se_callK0 (takes_of rfl rfl rfl rfl) ((ok_month C).mono (by decide : 4 ≤ 7)) ar_of hr (C.glo 20 "month") (fun_month C).kp (kb_month_0_balance_plan C) (.nil) (sk_cons (sv 11) (sk_cons (sv 5) (sk_nil)))) (sa_nil))) (sv 12) (nomark _))))) (ss_one (ss_ret (se_bl))) (ss_nil))))))))))))))) (ss_one (ss_ret (se_bl))))
end
end L2.VI.K72
namespace L2.VI.K72
open PySem PySem.Spec PyProof.Rows He L2 L2.VI
/-! ### a month -/
def mx (i j : Int) : Int := if j > i then j else i
def mn (i j : Int) : Int := if j < i then j else i
def inr (r b : Int) : Int := b * r / 1000
def ow (r b : Int) : Int := b + b * r / 1000
def wan (r s : Int) (p : Bool) (b : Int) : Int := if p = true then b * r / 1000 + b * s / 1000 else ow r b * s / 1000
/-- interest, payment, next -/
def mon (r s l : Int) (p : Bool) (b : Int) : List D := if ow r b ≤ l then [.int (inr r b), .int (ow r b), .int 0] else [.int (inr r b), .int (mn (ow r b) (mx l (wan r s p b) + 0)), .int (ow r b - mn (ow r b) (mx l (wan r s p b) + 0))]
structure Pl (r s l : Int) : Prop where
  r0 : 0 ≤ r
  r1 : r ≤ 1000
  s0 : 0 ≤ s
  s1 : s ≤ 1000
  l0 : 1 ≤ l
  l1 : l ≤ 3000
section
variable {r s l : Int} {p : Bool} {g : GSt} {k : Nat}
abbrev isPlan (g : GSt) (k : Nat) (a : D) : Prop := g.S k = some (.ins "Plan" [("l_parts", a)])
abbrev prt (r s l : Int) (p : Bool) : D := .tup [.int r, .int s, .int l, .bl p]
theorem sz_le {n : Nat} (h : n ≤ 1000) : n ≤ sizeLine := by rw [sizeLine_eq]; omega
theorem Pl.small (P : Pl r s l) : small64 r ∧ small64 s ∧ small64 l := by
  have := P.r0; have := P.r1; have := P.s0; have := P.s1; have := P.l0; have := P.l1
  refine ⟨⟨by omega, by omega⟩, ⟨by omega, by omega⟩, ⟨by omega, by omega⟩⟩
theorem month_ok (P : Pl r s l) (h : isPlan g k (prt r s l p)) (b : Int) : f_month_with [.ptr k, .int b, .int 0] g = .ok (.tup (mon r s l p b)) g := by
  obtain ⟨q1, q2, q3⟩ := P.small
  have z3 : 3 ≤ sizeLine := sz_le (by omega)
  unfold mon
  by_cases c1 : ow r b ≤ l
  · have c1' := c1
    unfold ow at c1'
    simp [f_month_with, m_month_with, h, List.lookup, q1, q2, c1', c1, z3, inr, ow]
  · have c1' := c1
    unfold ow at c1'
    cases p with
    | true =>
      simp [f_month_with, m_month_with, h, List.lookup, q1, q2, c1', c1, z3, inr, ow, wan, mn, mx]
    | false =>
      simp [f_month_with, m_month_with, h, List.lookup, q1, q2, c1', c1, z3, inr, ow, wan, mn, mx]
theorem step_ok (P : Pl r s l) (b : Int) : f__law_step [prt r s l p, .int b, .int 0] g = .ok (.tup (mon r s l p b)) g := by
  obtain ⟨q1, q2, q3⟩ := P.small
  have z3 : 3 ≤ sizeLine := sz_le (by omega)
  unfold mon
  by_cases c1 : ow r b ≤ l
  · have c1' := c1
    unfold ow at c1'
    simp [f__law_step, m__law_step, q1, q2, c1', c1, z3, inr, ow]
  · have c1' := c1
    unfold ow at c1'
    cases p with
    | true =>
      simp [f__law_step, m__law_step, q1, q2, c1', c1, z3, inr, ow, wan, mn, mx]
    | false =>
      simp [f__law_step, m__law_step, q1, q2, c1', c1, z3, inr, ow, wan, mn, mx]
end
end L2.VI.K72
namespace L2.VI.K72
open PySem PySem.Spec PyProof.Rows He L2 L2.VI
section
variable {g : GSt} {k : Nat}
def okN (v : D) (lo hi : Int) : Bool := match v with
  | .int i => decide (lo ≤ i) && decide (i ≤ hi)
  | _ => false
def isI : D → Bool
  | .int _ => true
  | _ => false
def isBl : D → Bool
  | .bl _ => true
  | _ => false
/-- what the drawn parts are -/
inductive Pv : D → Prop
  | non : Pv .non
  | bl (b : Bool) : Pv (.bl b)
  | int (i : Int) : Pv (.int i)
  | str (x : Str) : Pv (.str x)
  | tup (xs : List D) : Pv (.tup xs)
  | lst (xs : List D) : Pv (.lst xs)
theorem isnum_ok {v : D} (h : Pv v) : f_is_number [v] g = .ok (.bl (isI v)) g := by
  cases h <;> simp [f_is_number, m_is_number, tyD, isI]
theorem lisnum_ok {v : D} (h : Pv v) : f__law_is_number [v] g = .ok (.bl (isI v)) g := by
  cases h <;> simp [f__law_is_number, m__law_is_number, tyD, isI]
theorem isnumin_ok {v : D} (h : Pv v) (lo hi : Int) : f_is_number_in [v, .int lo, .int hi] g = .ok (.bl (okN v lo hi)) g := by
  have e := isnum_ok (g := g) h
  cases h with
  | int i =>
    by_cases h1 : lo ≤ i
    · by_cases h2 : i ≤ hi <;> simp [f_is_number_in, m_is_number_in, e, isI, okN, h1, h2, chainD]
    · simp [f_is_number_in, m_is_number_in, e, isI, okN, h1, chainD]
  | _ => simp [f_is_number_in, m_is_number_in, e, isI, okN]
def wr (v0 v1 v2 v3 : D) : Option Str := if okN v0 0 1000 = false then some "rate" else if okN v1 0 1000 = false then some "share" else if okN v2 1 1000000 = false then some "least" else if isBl v3 = true then none else some "plus"
abbrev xp (x : Str) : EX := ⟨"BadPlan", [("part", .str x)]⟩
theorem isbl_ok {v : D} (h : Pv v) {b : BSt} : isiM (isTyD "bool") (fun t => t == "bool") [] [v, .ty "bool"] b = .ok (.bl (isBl v)) b := by
  cases h <;> simp [tyD, isBl]
theorem init_x {v0 v1 v2 v3 : D} {j : Nat} {x : Str} (h0 : Pv v0) (h1 : Pv v1) (h2 : Pv v2) (h3 : Pv v3) (h : wr v0 v1 v2 v3 = some x) : f_Plan_init [.ptr j, v0, v1, v2, v3] g = .exc (xp x) g := by
  have e0 := isnumin_ok (g := g) h0 0 1000
  have e1 := isnumin_ok (g := g) h1 0 1000
  have e2 := isnumin_ok (g := g) h2 1 1000000
  have e3 := fun b => isbl_ok (b := b) h3
  unfold wr at h
  by_cases c0 : okN v0 0 1000 = false
  · rw [if_pos c0] at h; cases h
    simp [f_Plan_init, m_Plan_init, e0, c0]
  · rw [if_neg c0] at h
    by_cases c1 : okN v1 0 1000 = false
    · rw [if_pos c1] at h; cases h
      simp [f_Plan_init, m_Plan_init, e0, c0, e1, c1]
    · rw [if_neg c1] at h
      by_cases c2 : okN v2 1 1000000 = false
      · rw [if_pos c2] at h; cases h
        simp [f_Plan_init, m_Plan_init, e0, c0, e1, c1, e2, c2]
      · rw [if_neg c2] at h
        by_cases c3 : isBl v3 = true
        · rw [if_pos c3] at h; cases h
        · rw [if_neg c3] at h; cases h
          simp only [Bool.not_eq_true] at c3
          simp [f_Plan_init, m_Plan_init, e0, c0, e1, c1, e2, c2, e3, c3]
theorem init_ok {v0 v1 v2 v3 : D} {j : Nat} (h0 : Pv v0) (h1 : Pv v1) (h2 : Pv v2) (h3 : Pv v3) (h : wr v0 v1 v2 v3 = none) (hj : g.S j = some (.ins "Plan" [])) : f_Plan_init [.ptr j, v0, v1, v2, v3] g = .ok .non (g.put j (.ins "Plan" [("l_parts", .tup [v0, v1, v2, v3])])) := by
  have e0 := isnumin_ok (g := g) h0 0 1000
  have e1 := isnumin_ok (g := g) h1 0 1000
  have e2 := isnumin_ok (g := g) h2 1 1000000
  have e3 := fun b => isbl_ok (b := b) h3
  have z4 : 4 ≤ sizeLine := sz_le (by omega)
  unfold wr at h
  by_cases c0 : okN v0 0 1000 = false
  · rw [if_pos c0] at h; cases h
  · rw [if_neg c0] at h
    by_cases c1 : okN v1 0 1000 = false
    · rw [if_pos c1] at h; cases h
    · rw [if_neg c1] at h
      by_cases c2 : okN v2 1 1000000 = false
      · rw [if_pos c2] at h; cases h
      · rw [if_neg c2] at h
        by_cases c3 : isBl v3 = true
        · simp [f_Plan_init, m_Plan_init, e0, c0, e1, c1, e2, c2, e3, c3, z4, hj, dputF]
        · rw [if_neg c3] at h; cases h
def wrB : M Fl := ifM (orB (notB (isB (M.bind (consM (getV 2) (M.ret [])) (callF f__law_is_number)))) (notB (isB (chainD leD leD (getV 3) (getV 2) (getV 4))))) (retM (frzM (lstN (consM (getV 1) (M.ret []))))) (M.ret .nx)
theorem wr_turn {v lb : D} {lo hi : Int} {t0 : Option Slot} (h : Pv v) : wrB ⟨g, [t0, some (.val lb), some (.val v), some (.val (.int lo)), some (.val (.int hi))]⟩ = if okN v lo hi = true then .ok .nx ⟨g, [t0, some (.val lb), some (.val v), some (.val (.int lo)), some (.val (.int hi))]⟩ else .ok (.ret (.lst [lb])) ⟨g, [t0, some (.val lb), some (.val v), some (.val (.int lo)), some (.val (.int hi))]⟩ := by
  have e := lisnum_ok (g := g) h
  have z1 : 1 ≤ sizeLine := sz_le (by omega)
  cases h with
  | int i =>
    by_cases h1 : lo ≤ i
    · by_cases h2 : i ≤ hi <;> simp [wrB, e, isI, okN, h1, h2, chainD, z1]
    · simp [wrB, e, isI, okN, h1, chainD, z1]
  | _ => simp [wrB, e, isI, okN, z1]
def wr3 (v0 v1 v2 : D) : Option Str := if okN v0 0 1000 = false then some "rate" else if okN v1 0 1000 = false then some "share" else if okN v2 1 1000000 = false then some "least" else none
abbrev wrT : TgM := gTupM 4 (gsCons (gSet 1) (gsCons (gSet 2) (gsCons (gSet 3) (gsCons (gSet 4) (gsNil)))))
theorem tg4 {a b c d : D} {t0 t1 t2 t3 t4 : Option Slot} : wrT (.tup [a, b, c, d]) ⟨g, [t0, t1, t2, t3, t4]⟩ = some ⟨g, [t0, some (.val a), some (.val b), some (.val c), some (.val d)]⟩ := by simp [wrT]
theorem wr_loop {v0 v1 v2 : D} {t0 : Option Slot} (h0 : Pv v0) (h1 : Pv v1) (h2 : Pv v2) : ∃ a1 a2 a3 a4, forL wrT wrB [.tup [.str "rate", v0, .int 0, .int 1000], .tup [.str "share", v1, .int 0, .int 1000], .tup [.str "least", v2, .int 1, .int 1000000]] ⟨g, [t0, none, none, none, none]⟩ =
    .ok (match wr3 v0 v1 v2 with | some x => .ret (.lst [.str x]) | none => .nx) ⟨g, [t0, a1, a2, a3, a4]⟩ := by
  have w0 := wr_turn (g := g) (v := v0) (lb := .str "rate") (lo := 0) (hi := 1000) (t0 := t0) h0
  have w1 := wr_turn (g := g) (v := v1) (lb := .str "share") (lo := 0) (hi := 1000) (t0 := t0) h1
  have w2 := wr_turn (g := g) (v := v2) (lb := .str "least") (lo := 1) (hi := 1000000) (t0 := t0) h2
  unfold wr3
  rw [forL_cons, tg4]
  by_cases c0 : okN v0 0 1000 = false
  · rw [c0] at w0
    exact ⟨_, _, _, _, by simp [turnM, w0, c0]; exact ⟨rfl, rfl, rfl, rfl⟩⟩
  · simp only [Bool.not_eq_false] at c0
    rw [c0] at w0
    by_cases c1 : okN v1 0 1000 = false
    · rw [c1] at w1
      exact ⟨_, _, _, _, by simp [turnM, w0, c0, forL_cons, tg4, w1, c1]; exact ⟨rfl, rfl, rfl, rfl⟩⟩
    · simp only [Bool.not_eq_false] at c1
      rw [c1] at w1
      by_cases c2 : okN v2 1 1000000 = false
      · rw [c2] at w2
        exact ⟨_, _, _, _, by simp [turnM, w0, c0, forL_cons, tg4, w1, c1, w2, c2]; exact ⟨rfl, rfl, rfl, rfl⟩⟩
      · simp only [Bool.not_eq_false] at c2
        rw [c2] at w2
        exact ⟨_, _, _, _, by simp [turnM, w0, c0, forL_cons, tg4, w1, c1, w2, c2, forL]; exact ⟨rfl, rfl, rfl, rfl⟩⟩
theorem wr_eq {v0 v1 v2 v3 : D} : wr v0 v1 v2 v3 = match wr3 v0 v1 v2 with | some x => some x | none => if isBl v3 = true then none else some "plus" := by
  unfold wr wr3
  split
  · rfl
  · split
    · rfl
    · split <;> rfl
theorem wrong_ok {v0 v1 v2 v3 : D} (h0 : Pv v0) (h1 : Pv v1) (h2 : Pv v2) (h3 : Pv v3) : f__law_wrong [.lst [v0, v1, v2, v3]] g = .ok (.lst (match wr v0 v1 v2 v3 with | some x => [.str x] | none => [])) g := by
  have e3 := fun b => isbl_ok (b := b) h3
  have z3 : 3 ≤ sizeLine := sz_le (by omega)
  have z1 : 1 ≤ sizeLine := sz_le (by omega)
  have rows : zipRows [[.str "rate", .str "share", .str "least"], [v0, v1, v2, v3], [.int 0, .int 0, .int 1], [.int 1000, .int 1000, .int 1000000]] = [.tup [.str "rate", v0, .int 0, .int 1000], .tup [.str "share", v1, .int 0, .int 1000], .tup [.str "least", v2, .int 1, .int 1000000]] := rfl
  have a3 : atI [v0, v1, v2, v3] 3 = some v3 := by simp [atI, ixN]
  obtain ⟨a1, a2, a3', a4, e⟩ := wr_loop (g := g) (t0 := some (.val (.lst [v0, v1, v2, v3]))) h0 h1 h2
  simp only [wrB, wrT] at e
  rw [wr_eq]
  cases hw : wr3 v0 v1 v2 with
  | some x =>
    rw [hw] at e
    simp [f__law_wrong, m__law_wrong, z3, rows, e]
  | none =>
    rw [hw] at e
    by_cases c3 : isBl v3 = true
    · simp [f__law_wrong, m__law_wrong, z3, z1, rows, e, e3, c3, a3]
    · simp only [Bool.not_eq_true] at c3
      simp [f__law_wrong, m__law_wrong, z3, z1, rows, e, e3, c3, a3]
end
end L2.VI.K72
namespace L2.VI.K72
open PySem PySem.Spec PyProof.Rows He L2 L2.VI
section
variable {g : GSt} {k : Nat}
/-! ### what is shown -/
theorem piled_le : ∀ {ts : List Str} {m : Nat}, (∀ t ∈ ts, t.length ≤ m) → piled ts ≤ (m + 2) * ts.length
  | [], _, _ => by simp [piled]
  | t :: ts, m, h => by
    have ih := piled_le (ts := ts) (m := m) fun t ht => h t (.tail _ ht)
    have h0 := h t (.head _)
    have : piled (t :: ts) = (t.length + 2) + piled ts := by simp [piled] <;> omega
    rw [this, List.length_cons, Nat.mul_succ]
    omega
theorem join_le {ts : List Str} {m : Nat} (h : ∀ t ∈ ts, t.length ≤ m) (hn : ts ≠ []) : (Str.join ", " ts).length ≤ (m + 2) * ts.length := by
  have e := join_length_add ts hn
  have p := piled_le h
  omega
theorem int_len {a : Int} (h : a.natAbs.log2 < 1920) : (PyData.int a).shown.length ≤ 1921 := by
  have e := int_text_length_le (k := 1920) (by decide) h
  show (Str.ofString (toString a)).length ≤ 1921
  rw [PySem.ofString_length]; exact e
theorem bl_len {b : Bool} : (PyData.bool b).shown.length ≤ 1921 := by cases b <;> decide +kernel
theorem tup_len {es : List PyData} (hn : es ≠ []) (h1 : es.length ≠ 1) (hl : es.length ≤ 10) (h : ∀ e ∈ es, e.shown.length ≤ 1921) : (PyData.tuple es).shown.length ≤ sizeLine := by
  have all : ∀ {es : List PyData}, PyData.shownAll es = es.map PyData.shown := by
    intro es
    induction es with
    | nil => rfl
    | cons e es ih => simp [PyData.shownAll, ih]
  have j := join_le (ts := PyData.shownAll es) (m := 1921) (fun t ht => by
    rw [all] at ht
    obtain ⟨e, he, rfl⟩ := List.mem_map.mp ht
    exact h e he) (by rw [all]; simpa using hn)
  have ln : (PyData.shownAll es).length = es.length := by rw [all, List.length_map]
  rw [ln] at j
  show (tupleText (PyData.shownAll es)).length ≤ sizeLine
  unfold tupleText
  rw [ln, if_neg (by simpa using h1)]
  have a1 : ∀ (x y : Str), (x ++ y).length = x.length + y.length := fun x y => by simp [Str.length_append]
  rw [a1, a1, sizeLine_eq]
  have l1 : (("(" : String) : Str).length = 1 := rfl
  have l2 : ((")" : String) : Str).length = 1 := rfl
  have : (1921 + 2) * es.length ≤ 1923 * 10 := Nat.mul_le_mul_left _ hl
  omega
theorem sh_of {d : D} {e : PyData} (h : toPy d = some e) (hp : seeD g d = d) (h1 : e.showable = true) (h2 : e.hasDict = false) (h3 : e.depth ≤ 60) (h4 : e.shown.length ≤ sizeLine) : ∃ z, shownD g d = some z := by
  refine ⟨e.shown, ?_⟩
  unfold shownD
  rw [hp, h]
  exact if_pos ⟨h1, h2, h3, h4⟩
theorem sh3 {a b c : Int} (ha : a.natAbs.log2 < 1920) (hb : b.natAbs.log2 < 1920) (hc : c.natAbs.log2 < 1920) : ∃ z, shownD g (.tup [.int a, .int b, .int c]) = some z :=
  sh_of (e := .tuple [.int a, .int b, .int c]) (by simp [toPy, toPyAll]) rfl (by simp [PyData.showable, PyData.showableAll, ha, hb, hc]) rfl (by simp [PyData.depth, PyData.depthAll]) (tup_len (by simp) (by simp) (by simp) (by
    intro e he
    simp only [List.mem_cons, List.not_mem_nil, or_false] at he
    rcases he with rfl | rfl | rfl
    · exact int_len ha
    · exact int_len hb
    · exact int_len hc))
theorem sh4 {a b c : Int} {p : Bool} (ha : a.natAbs.log2 < 1920) (hb : b.natAbs.log2 < 1920) (hc : c.natAbs.log2 < 1920) : ∃ z, shownD g (.tup [.int a, .int b, .int c, .bl p]) = some z :=
  sh_of (e := .tuple [.int a, .int b, .int c, .bool p]) (by simp [toPy, toPyAll]) rfl (by simp [PyData.showable, PyData.showableAll, ha, hb, hc]) rfl (by simp [PyData.depth, PyData.depthAll]) (tup_len (by simp) (by simp) (by simp) (by
    intro e he
    simp only [List.mem_cons, List.not_mem_nil, or_false] at he
    rcases he with rfl | rfl | rfl | rfl
    · exact int_len ha
    · exact int_len hb
    · exact int_len hc
    · exact bl_len))
theorem log_small {a : Int} (h0 : 0 ≤ a) (h1 : a ≤ 1000000000000) : a.natAbs.log2 < 1920 := by
  by_cases hz : a.natAbs = 0
  · rw [hz]; decide
  · have : a.natAbs < 2 ^ 50 := by
      have : (2 : Nat) ^ 50 = 1125899906842624 := by decide
      omega
    have := (Nat.log2_lt hz).mpr this
    omega
end
end L2.VI.K72
namespace L2.VI.K72
open PySem PySem.Spec PyProof.Rows He L2 L2.VI
section
variable {g : GSt} {k : Nat}
noncomputable abbrev ltab : List (LamT × M D) := [(lam_0, ml_0), (lam_1, ml_1)]
open Classical in
theorem lcall_ok {kf : Nat} {tbl : List (LamT × M D)} {me : M D} {b : BSt} {i fr : Nat} {L : LamT} {m : M D} {o : Option Nat} {up : Ups} {ts : List (Option D)} (hm : me b = .ok (.lam i L fr) b) (hf : b.t[kf]? = some (some (.frm o up))) (ht : tbl[i]? = some (L, m)) (hu : up.lookup fr = some (L.N, ts)) :
    lcallM kf tbl me b = (match m ⟨b.g, ts.map fun o => o.map Slot.val⟩ with
      | .ok d b' => .ok d { b with g := b'.g }
      | .exc x b' => .exc x { b with g := b'.g }
      | .fail => .fail) := by
  unfold lcallM M.bind
  rw [hm]
  simp [hf, ht, hu]
  try rfl
abbrev NN : List Str := ["_law_state", "_law_parts_here", "_law_some", "_law_change", "_law_odd", "_law_due", "_law_errors", "_law_error", "."]
abbrev tt (a : D) : List (Option Slot) := [none, none, some (.val a), none, none, none, none, none, none]
abbrev cp (a : D) : List (Option D) := [none, none, some a, none, none, none, none, none, none]
def er : Option Str → D
  | none => .non
  | some x => .xob "BadPlan" [("part", .str x)]
/-- the store behind a plan that was asked for -/
def gN (g : GSt) (vs : List D) : Option Str → GSt
  | none => (g.new (.ins "Plan" [])).put g.nx (.ins "Plan" [("l_parts", .tup vs)])
  | some _ => g.new (.ins "Plan" [])
theorem gN_nx {vs : List D} {o : Option Str} : (gN g vs o).nx = g.nx + 1 := by cases o <;> rfl
theorem gN_ne {vs : List D} {o : Option Str} {j : Nat} (h : j ≠ g.nx) : (gN g vs o).S j = g.S j := by
  cases o with
  | none =>
    show (GSt.put _ _ _).S j = _
    rw [put_ne h]
    exact if_neg h
  | some x => exact if_neg h
def rs (g : GSt) (vs : List D) (t : List (Option Slot)) : Option Str → R D
  | none => .ok (.ptr g.nx) ⟨gN g vs none, t⟩
  | some x => .exc (xp x) ⟨gN g vs (some x), t⟩
theorem new_at {so : SO} : (g.new so).S g.nx = some so := if_pos rfl
section
variable {v0 v1 v2 v3 : D} (h0 : Pv v0) (h1 : Pv v1) (h2 : Pv v2) (h3 : Pv v3)
include h0 h1 h2 h3
theorem make_ok {b : BSt} : makeG "Plan" f_Plan_init [0, 1, 2, 3, 4] [v0, v1, v2, v3, .bl false] b = rs b.g [v0, v1, v2, v3] b.t (wr v0 v1 v2 v3) := by
  cases hw : wr v0 v1 v2 v3 with
  | none =>
    have e := init_ok (g := b.g.new (.ins "Plan" [])) (j := b.g.nx) h0 h1 h2 h3 hw new_at
    simp [makeG, kperm, e, rs, gN]
  | some x =>
    have e := init_x (g := b.g.new (.ins "Plan" [])) (j := b.g.nx) h0 h1 h2 h3 hw
    simp [makeG, kperm, e, rs, gN]
theorem lam0_ok : ml_0 ⟨g, tt (.lst [v0, v1, v2, v3])⟩ = rs g [v0, v1, v2, v3] (tt (.lst [v0, v1, v2, v3])) (wr v0 v1 v2 v3) := by
  have a0 : atI [v0, v1, v2, v3] 0 = some v0 := by simp [atI, ixN]
  have a1 : atI [v0, v1, v2, v3] 1 = some v1 := by simp [atI, ixN]
  have a2 : atI [v0, v1, v2, v3] 2 = some v2 := by simp [atI, ixN]
  have a3 : atI [v0, v1, v2, v3] 3 = some v3 := by simp [atI, ixN]
  have e := make_ok h0 h1 h2 h3 (b := ⟨g, tt (.lst [v0, v1, v2, v3])⟩)
  unfold ml_0
  rw [mkM_ap]
  simp [a0, a1, a2, a3]
  exact e
theorem make1_ok {b : BSt} : makeG "Plan" f_Plan_init [0, 3, 4, 2, 1] [v3, v2, v0, v1, .bl false] b = rs b.g [v0, v1, v2, v3] b.t (wr v0 v1 v2 v3) := by
  cases hw : wr v0 v1 v2 v3 with
  | none =>
    have e := init_ok (g := b.g.new (.ins "Plan" [])) (j := b.g.nx) h0 h1 h2 h3 hw new_at
    simp [makeG, kperm, e, rs, gN]
  | some x =>
    have e := init_x (g := b.g.new (.ins "Plan" [])) (j := b.g.nx) h0 h1 h2 h3 hw
    simp [makeG, kperm, e, rs, gN]
theorem lam1_ok : ml_1 ⟨g, tt (.lst [v0, v1, v2, v3])⟩ = rs g [v0, v1, v2, v3] (tt (.lst [v0, v1, v2, v3])) (wr v0 v1 v2 v3) := by
  have a0 : atI [v0, v1, v2, v3] 0 = some v0 := by simp [atI, ixN]
  have a1 : atI [v0, v1, v2, v3] 1 = some v1 := by simp [atI, ixN]
  have a2 : atI [v0, v1, v2, v3] 2 = some v2 := by simp [atI, ixN]
  have a3 : atI [v0, v1, v2, v3] 3 = some v3 := by simp [atI, ixN]
  have e := make1_ok h0 h1 h2 h3 (b := ⟨g, tt (.lst [v0, v1, v2, v3])⟩)
  unfold ml_1
  rw [mkM_ap]
  simp [a0, a1, a2, a3]
  exact e
end
theorem caught_ok {ups : Ups} {fr i : Nat} {L : LamT} {m : M D} {a : D} {vs : List D} {w : Option Str} (hi : ltab[i]? = some (L, m)) (hu : ups.lookup fr = some (L.N, cp a)) (h : m ⟨g, tt a⟩ = rs g vs (tt a) w) : f__law_caught ups [.lam i L fr] g = .ok (er w) (gN g vs w) := by
  have hl : ∀ t1 t2, lcallM 3 ltab (getV 0) ⟨g, [some (.val (.lam i L fr)), t1, t2, some (.frm none ups)]⟩ = (match m ⟨g, tt a⟩ with
      | .ok d b' => .ok d ⟨b'.g, [some (.val (.lam i L fr)), t1, t2, some (.frm none ups)]⟩
      | .exc x b' => .exc x ⟨b'.g, [some (.val (.lam i L fr)), t1, t2, some (.frm none ups)]⟩
      | .fail => .fail) := fun t1 t2 => lcall_ok (up := ups) (o := none) (by simp) rfl hi hu
  rw [h] at hl
  cases w with
  | none => simp [f__law_caught, m__law_caught, hl, rs, er]
  | some x => simp [f__law_caught, m__law_caught, hl, rs, er, List.lookup]
end
end L2.VI.K72
namespace L2.VI.K72
open PySem PySem.Spec PyProof.Rows He L2 L2.VI
section
variable {g : GSt} {k : Nat}
theorem e_take : f__law_take = H.f__law_take := rfl
theorem e_pick : f__law_pick = H.f__law_pick := rfl
theorem e_begun : f__law_begun = H.f__law_begun := rfl
theorem stok_le {ks kl : Nat} {n m : Int} (h : StOk g ks kl n) (hm : n ≤ m) : StOk g ks kl m := by
  obtain ⟨ne, L, cells, rest, turn, a, b, c, d⟩ := h
  exact ⟨ne, L, cells, rest, turn, a, by omega, c, d⟩
noncomputable def chB : M Fl := seqM (M.bind (frzM (lstN (consM (M.ret .non) (consM (M.ret (.bl true)) (consM (M.ret (.bl false)) (consM (negM (M.ret (.int 1))) (consM (M.ret (.int 0)) (consM (M.ret (.int 1)) (consM (M.ret (.int 1000)) (consM (M.ret (.int 1001)) (consM (bin2 powD (M.ret (.int 10)) (M.ret (.int 6))) (consM (bin2 addT (bin2 powD (M.ret (.int 10)) (M.ret (.int 6))) (M.ret (.int 1))) (consM (M.ret (.str "1")) (consM (tupM (M.ret [])) (consM (frzM (lstN (M.ret []))) (consM (bin2 powD (M.ret (.int 10)) (M.ret (.int 30))) (M.ret []))))))))))))))))) (setV 4)) (isetO 2 (M.bind (consM (getV 0) (consM (M.ret (.int 4)) (M.ret []))) (callF f__law_take)) (M.bind (consM (getV 0) (consM (getV 4) (M.ret []))) (callF f__law_pick)))
abbrev odds : List D := [.non, .bl true, .bl false, .int (-1), .int 0, .int 1, .int 1000, .int 1001, .int 1000000, .int 1000001, .str "1", .tup [], .lst [], .int 1000000000000000000000000000000]
theorem odds_pv {d : D} (h : d ∈ odds) : Pv d := by
  simp only [odds, List.mem_cons, List.not_mem_nil, or_false] at h
  rcases h with h | h | h | h | h | h | h | h | h | h | h | h | h | h <;> subst h <;> constructor
theorem ch_turn {ks kl : Nat} {n : Int} {v0 v1 v2 v3 : D} {t1 t3 t4 t5 t6 t7 t8 : Option Slot} (st : StOk g ks kl n) (hn : n < 1000000) (h0 : Pv v0) (h1 : Pv v1) (h2 : Pv v2) (h3 : Pv v3) :
    ∃ w0 w1 w2 w3 g', chB ⟨g, [some (.val (.ptr ks)), t1, some (.own (.lst [v0, v1, v2, v3])), t3, t4, t5, t6, t7, t8]⟩ = .ok .nx ⟨g', [some (.val (.ptr ks)), t1, some (.own (.lst [w0, w1, w2, w3])), t3, some (.val (.lst odds)), t5, t6, t7, t8]⟩ ∧ Pv w0 ∧ Pv w1 ∧ Pv w2 ∧ Pv w3 ∧ StOk g' ks kl (n + 2) ∧ Fr g g' ks kl := by
  obtain ⟨v, g1, e1, o1, s1, f1⟩ := pick_ok st (by omega) (ds := odds) (by simp) (by simp)
  obtain ⟨j, g2, e2, j0, j1, s2, f2⟩ := take_ok (m := 4) s1 (by omega) (by decide) (by decide)
  have hv := odds_pv o1
  have z14 : 14 ≤ sizeLine := sz_le (by omega)
  have c : j = 0 ∨ j = 1 ∨ j = 2 ∨ j = 3 := by omega
  have s2' : StOk g2 ks kl (n + 2) := stok_le s2 (by omega)
  simp only [odds] at e1
  rcases c with rfl | rfl | rfl | rfl
  · exact ⟨v, v1, v2, v3, g2, by simp [chB, z14, e_pick, e_take, e1, e2, putO, ixN], hv, h1, h2, h3, s2', f1.trans f2⟩
  · exact ⟨v0, v, v2, v3, g2, by simp [chB, z14, e_pick, e_take, e1, e2, putO, ixN], h0, hv, h2, h3, s2', f1.trans f2⟩
  · exact ⟨v0, v1, v, v3, g2, by simp [chB, z14, e_pick, e_take, e1, e2, putO, ixN], h0, h1, hv, h3, s2', f1.trans f2⟩
  · exact ⟨v0, v1, v2, v, g2, by simp [chB, z14, e_pick, e_take, e1, e2, putO, ixN], h0, h1, h2, hv, s2', f1.trans f2⟩
theorem ch_loop {ks kl : Nat} {t1 t5 t6 t7 t8 : Option Slot} : ∀ (ds : List D) (g : GSt) (n : Int) (v0 v1 v2 v3 : D) (t3 t4 : Option Slot), StOk g ks kl n → n + 2 * ds.length < 1000000 → Pv v0 → Pv v1 → Pv v2 → Pv v3 →
    ∃ w0 w1 w2 w3 g' a3 a4, forL (gSet 3) chB ds ⟨g, [some (.val (.ptr ks)), t1, some (.own (.lst [v0, v1, v2, v3])), t3, t4, t5, t6, t7, t8]⟩ = .ok .nx ⟨g', [some (.val (.ptr ks)), t1, some (.own (.lst [w0, w1, w2, w3])), a3, a4, t5, t6, t7, t8]⟩ ∧ Pv w0 ∧ Pv w1 ∧ Pv w2 ∧ Pv w3 ∧ StOk g' ks kl (n + 2 * ds.length) ∧ Fr g g' ks kl := by
  intro ds
  induction ds with
  | nil => intro g n v0 v1 v2 v3 t3 t4 st hn h0 h1 h2 h3; exact ⟨v0, v1, v2, v3, g, t3, t4, rfl, h0, h1, h2, h3, by simpa using st, Fr.refl _ _ _⟩
  | cons d ds ih =>
    intro g n v0 v1 v2 v3 t3 t4 st hn h0 h1 h2 h3
    rw [List.length_cons] at hn
    obtain ⟨w0, w1, w2, w3, g1, e1, p0, p1, p2, p3, s1, f1⟩ := ch_turn (t1 := t1) (t3 := some (.val d)) (t4 := t4) (t5 := t5) (t6 := t6) (t7 := t7) (t8 := t8) st (by omega) h0 h1 h2 h3
    obtain ⟨u0, u1, u2, u3, g2, a3, a4, e2, q0, q1, q2, q3, s2, f2⟩ := ih g1 (n + 2) w0 w1 w2 w3 (some (.val d)) (some (.val (.lst odds))) s1 (by omega) p0 p1 p2 p3
    refine ⟨u0, u1, u2, u3, g2, a3, a4, ?_, q0, q1, q2, q3, stok_le s2 (by rw [List.length_cons]; omega), f1.trans f2⟩
    rw [← e2, forL_cons]
    simp [turnM, e1]
end
end L2.VI.K72
namespace L2.VI.K72
open PySem PySem.Spec PyProof.Rows He L2 L2.VI
section
variable {g : GSt} {k : Nat}
/-- later stores: what stood stays, but for the draws' -/
structure Ev (g g' : GSt) (ks kl : Nat) : Prop where
  nx : g.nx ≤ g'.nx
  eq : ∀ j, j < g.nx → j ≠ ks → j ≠ kl → g'.S j = g.S j
theorem Ev.refl (g : GSt) (ks kl : Nat) : Ev g g ks kl := ⟨Nat.le_refl _, fun _ _ _ _ => rfl⟩
theorem Ev.trans {a b c : GSt} {ks kl : Nat} (h : Ev a b ks kl) (h' : Ev b c ks kl) : Ev a c ks kl := ⟨Nat.le_trans h.nx h'.nx, fun j h1 h2 h3 => (h'.eq j (Nat.lt_of_lt_of_le h1 h.nx) h2 h3).trans (h.eq j h1 h2 h3)⟩
theorem Ev.fr {a b : GSt} {ks kl : Nat} (f : Fr a b ks kl) : Ev a b ks kl := ⟨Nat.le_of_eq f.nx.symm, fun j _ h2 h3 => f.eq j h2 h3⟩
theorem ev_gN {vs : List D} {o : Option Str} {ks kl : Nat} : Ev g (gN g vs o) ks kl := ⟨by rw [gN_nx]; omega, fun j h _ _ => gN_ne (by omega)⟩
theorem ev_nx {ks kl : Nat} {n : Nat} : Ev g { g with nx := g.nx + n } ks kl := ⟨Nat.le_add_right _ _, fun _ _ _ _ => rfl⟩
theorem stok_gN {vs : List D} {o : Option Str} {ks kl : Nat} {n : Int} (h : StOk g ks kl n) (h1 : ks < g.nx) (h2 : kl < g.nx) : StOk (gN g vs o) ks kl n := by
  obtain ⟨ne, L, cells, rest, turn, a, b, c, d⟩ := h
  exact ⟨ne, L, cells, rest, turn, a, b, by rw [gN_ne (by omega)]; exact c, by rw [gN_ne (by omega)]; exact d⟩
theorem gN_at {vs : List D} : isPlan (gN g vs none) g.nx (.tup vs) := put_same
theorem shown_ok {v0 v1 v2 v3 : D} (h : isPlan g k (.tup [v0, v1, v2, v3])) : f__law_shown [.ptr k] g = .ok (.tup [v0, v1, v2, v3]) g := by
  have a0 : atI [v0, v1, v2, v3] 0 = some v0 := by simp [atI, ixN]
  have a1 : atI [v0, v1, v2, v3] 1 = some v1 := by simp [atI, ixN]
  have a2 : atI [v0, v1, v2, v3] 2 = some v2 := by simp [atI, ixN]
  have a3 : atI [v0, v1, v2, v3] 3 = some v3 := by simp [atI, ixN]
  have z4 : 4 ≤ sizeLine := sz_le (by omega)
  have e0 : f_Plan_rate [.ptr k] g = .ok v0 g := by simp [f_Plan_rate, m_Plan_rate, h, List.lookup, a0]
  have e1 : f_Plan_share [.ptr k] g = .ok v1 g := by simp [f_Plan_share, m_Plan_share, h, List.lookup, a1]
  have e2 : f_Plan_least [.ptr k] g = .ok v2 g := by simp [f_Plan_least, m_Plan_least, h, List.lookup, a2]
  have e3 : f_Plan_plus [.ptr k] g = .ok v3 g := by simp [f_Plan_plus, m_Plan_plus, h, List.lookup, a3]
  simp [f__law_shown, m__law_shown, isIns, h, e0, e1, e2, e3, z4]
theorem reprG_t {xs : List D} {b : BSt} : reprG [.tup xs] b = (match shownD b.g (.tup xs) with
    | some z => .ok (.str z) b
    | none => .fail) := rfl
theorem okN_int {v : D} {lo hi : Int} (h : ¬ okN v lo hi = false) : ∃ i, v = .int i ∧ lo ≤ i ∧ i ≤ hi := by
  cases v <;> simp [okN] at h
  exact ⟨_, rfl, h.1, h.2⟩
theorem wr_none {v0 v1 v2 v3 : D} (h : wr v0 v1 v2 v3 = none) : ∃ a b c p, v0 = .int a ∧ v1 = .int b ∧ v2 = .int c ∧ v3 = .bl p ∧ (0 ≤ a ∧ a ≤ 1000) ∧ (0 ≤ b ∧ b ≤ 1000) ∧ 1 ≤ c ∧ c ≤ 1000000 := by
  unfold wr at h
  by_cases c0 : okN v0 0 1000 = false
  · rw [if_pos c0] at h; cases h
  rw [if_neg c0] at h
  by_cases c1 : okN v1 0 1000 = false
  · rw [if_pos c1] at h; cases h
  rw [if_neg c1] at h
  by_cases c2 : okN v2 1 1000000 = false
  · rw [if_pos c2] at h; cases h
  rw [if_neg c2] at h
  by_cases c3 : isBl v3 = true
  · obtain ⟨a, ea, a1, a2⟩ := okN_int c0
    obtain ⟨b, eb, b1, b2⟩ := okN_int c1
    obtain ⟨c, ec, x1, x2⟩ := okN_int c2
    cases v3 <;> simp [isBl] at c3
    exact ⟨a, b, c, _, ea, eb, ec, rfl, ⟨a1, a2⟩, ⟨b1, b2⟩, x1, x2⟩
  · rw [if_neg c3] at h; cases h
abbrev LQ : Str := lam_0.qual
def TabOk (g : GSt) : Prop := g.S 0 = some (.tab "_law_refused_right" LQ)
def Nm (x : Str) : Prop := x = "rate" ∨ x = "share" ∨ x = "least" ∨ x = "plus"
theorem wr_nm {v0 v1 v2 v3 : D} {x : Str} (h : wr v0 v1 v2 v3 = some x) : Nm x := by
  unfold wr at h
  split at h
  · cases h; exact .inl rfl
  · split at h
    · cases h; exact .inr (.inl rfl)
    · split at h
      · cases h; exact .inr (.inr (.inl rfl))
      · split at h
        · cases h
        · cases h; exact .inr (.inr (.inr rfl))
theorem shp {x : Str} (h : Nm x) : SeqAt.shaped (.list [.str x]) = true := by
  rcases h with rfl | rfl | rfl | rfl <;> decide +kernel
theorem shn : SeqAt.shaped (.list []) = true := by decide +kernel
theorem eqP_n {b : BSt} : eqP (.lst []) (.lst []) b = .ok (.bl true) b := by rfl
theorem eqP_c {x : Str} (h : Nm x) {b : BSt} : eqP (.lst [.str x]) (.lst []) b = .ok (.bl false) b := by
  simp [eqP, seeD, eqD, eqB, toPy, toPyAll, shp h, shn, PyData.eqv, PyData.eqvAll]
theorem neP_n {b : BSt} : neP (.lst []) (.lst []) b = .ok (.bl false) b := by rfl
theorem neP_c {x : Str} (h : Nm x) {b : BSt} : neP (.lst [.str x]) (.lst []) b = .ok (.bl true) b := by
  simp [neP, seeD, neD, eqB, toPy, toPyAll, shp h, shn, PyData.eqv, PyData.eqvAll]
theorem neD_s {x : Str} (h : Nm x) {b : BSt} : neD (.lst [.str x]) (.lst [.str x]) b = .ok (.bl false) b := by
  simp [neD, eqB, toPy, toPyAll, shp h, PyData.eqv, PyData.eqvAll]
theorem eqD_s {x : Str} {b : BSt} : eqD (.str x) (.str x) b = .ok (.bl true) b := by simp [eqD, eqB]
theorem refused_ok {ks kl : Nat} {n : Int} {v0 v1 v2 v3 : D} (st : StOk g ks kl n) (hn : n < 900000) (k1 : ks < g.nx) (k2 : kl < g.nx) (n1 : ks ≠ 0) (n2 : kl ≠ 0) (n3 : 0 < g.nx) (tb : TabOk g) (h0 : Pv v0) (h1 : Pv v1) (h2 : Pv v2) (h3 : Pv v3) :
    ∃ g', f__law_refused_right [.ptr ks, .tup [v0, v1, v2, v3]] g = .ok (.bl true) g' ∧ StOk g' ks kl (n + 10) ∧ Ev g g' ks kl := by
  have st' : StOk { g with nx := g.nx + 1 } ks kl n := ⟨st.ne, st.at_⟩
  obtain ⟨d, g1, e1, d0, d1, s1, f1⟩ := take_ok (m := 3) st' (by omega) (by decide) (by decide)
  have c1 : -4611686018427387904 ≤ d := by omega
  have c2 : d < 4611686018427387904 := by omega
  have rl : (rngL 0 d.toNat).length = d.toNat := by simp [rngL]
  obtain ⟨w0, w1, w2, w3, g2, a3, a4, e2, p0, p1, p2, p3, s2, f2⟩ := ch_loop (t1 := some (.val (.tup [v0, v1, v2, v3]))) (t5 := none) (t6 := none) (t7 := none) (t8 := some (.frm (some g.nx) [])) (rngL 0 d.toNat) g1 (n + 1) v0 v1 v2 v3 none none s1 (by rw [rl]; omega) h0 h1 h2 h3
  have e3 := wrong_ok (g := g2) p0 p1 p2 p3
  have x2 : g2.nx = g.nx + 1 := by rw [f2.nx, f1.nx]
  have tb2 : g2.S 0 = some (.tab "_law_refused_right" LQ) := by
    rw [f2.eq 0 (Ne.symm n1) (Ne.symm n2), f1.eq 0 (Ne.symm n1) (Ne.symm n2)]; exact tb
  have q0 : lam_0.qual = LQ := rfl
  have q1 : lam_1.qual = LQ := rfl
  have e4 : f__law_caught [(g.nx, NN, cp (.lst [w0, w1, w2, w3]))] [.lam 0 lam_0 g.nx] g2 = .ok (er (wr w0 w1 w2 w3)) (gN g2 [w0, w1, w2, w3] (wr w0 w1 w2 w3)) := caught_ok rfl (by simp [List.lookup, show lam_0.N = NN from rfl]) (lam0_ok p0 p1 p2 p3)
  have e5 : f__law_caught [(g.nx, NN, cp (.lst [w0, w1, w2, w3]))] [.lam 1 lam_1 g.nx] (gN g2 [w0, w1, w2, w3] (wr w0 w1 w2 w3)) = .ok (er (wr w0 w1 w2 w3)) (gN (gN g2 [w0, w1, w2, w3] (wr w0 w1 w2 w3)) [w0, w1, w2, w3] (wr w0 w1 w2 w3)) := caught_ok rfl (by simp [List.lookup, show lam_1.N = NN from rfl]) (lam1_ok p0 p1 p2 p3)
  have tb3 : (gN g2 [w0, w1, w2, w3] (wr w0 w1 w2 w3)).S 0 = some (.tab "_law_refused_right" LQ) := by rw [gN_ne (by omega)]; exact tb2
  have ec : ∀ x3 x4 x5 x6 x7 x8, capts 9 [2] [some (.val (.ptr ks)), some (.val (.tup [v0, v1, v2, v3])), some (.val (.lst [w0, w1, w2, w3])), x3, x4, x5, x6, x7, x8] = cp (.lst [w0, w1, w2, w3]) := fun x3 x4 x5 x6 x7 x8 => rfl
  have z1 : 1 ≤ sizeLine := sz_le (by omega)
  have p1' : 1 < sizeLine := by rw [sizeLine_eq]; omega
  have z4 : 4 ≤ sizeLine := sz_le (by omega)
  have kx : ks < g2.nx ∧ kl < g2.nx := ⟨by omega, by omega⟩
  have ev2 : Ev g g2 ks kl := (ev_nx (n := 1)).trans ((Ev.fr f1).trans (Ev.fr f2))
  have sN : StOk (gN (gN g2 [w0, w1, w2, w3] (wr w0 w1 w2 w3)) [w0, w1, w2, w3] (wr w0 w1 w2 w3)) ks kl (n + 10) := stok_gN (stok_gN (stok_le s2 (by rw [rl]; omega)) kx.1 kx.2) (by rw [gN_nx]; omega) (by rw [gN_nx]; omega)
  have evN : Ev g (gN (gN g2 [w0, w1, w2, w3] (wr w0 w1 w2 w3)) [w0, w1, w2, w3] (wr w0 w1 w2 w3)) ks kl := ev2.trans (ev_gN.trans ev_gN)
  simp only [chB, e_take] at e2
  simp only [NN, cp] at e4 e5
  cases hw : wr w0 w1 w2 w3 with
  | some x =>
    rw [hw] at e3 e4 e5 tb3 sN evN
    refine ⟨_, ?_, sN, evN⟩
    have nm := wr_nm hw
    simp [f__law_refused_right, m__law_refused_right, e_take, e1, c1, c2, toLst, e2, e3, tb2, tb3, q0, q1, z1, p1', upsOf, ec, e4, e5, fAppend, forL_cons, forL, turnM, er, List.lookup, eqP_c nm, neP_c nm, neD_s nm]
  | none =>
    rw [hw] at e3 e4 e5 tb3 sN evN
    have mk := make_ok p0 p1 p2 p3 (b := ⟨gN (gN g2 [w0, w1, w2, w3] none) [w0, w1, w2, w3] none, []⟩)
    refine ⟨gN (gN (gN g2 [w0, w1, w2, w3] none) [w0, w1, w2, w3] none) [w0, w1, w2, w3] none, ?_, stok_gN sN (by rw [gN_nx, gN_nx]; omega) (by rw [gN_nx, gN_nx]; omega), evN.trans ev_gN⟩
    have sh := shown_ok (gN_at (g := gN (gN g2 [w0, w1, w2, w3] none) [w0, w1, w2, w3] none) (vs := [w0, w1, w2, w3]))
    obtain ⟨a, b, c, p, ea, eb, ecc, ep, ba, bb, bc⟩ := wr_none hw
    obtain ⟨z, hz⟩ := sh4 (g := gN (gN (gN g2 [w0, w1, w2, w3] none) [w0, w1, w2, w3] none) [w0, w1, w2, w3] none) (a := a) (b := b) (c := c) (p := p) (log_small ba.1 (by omega)) (log_small bb.1 (by omega)) (log_small (by omega) (by omega))
    have i0 := init_ok (g := (gN (gN g2 [w0, w1, w2, w3] none) [w0, w1, w2, w3] none).new (.ins "Plan" [])) (j := (gN (gN g2 [w0, w1, w2, w3] none) [w0, w1, w2, w3] none).nx) p0 p1 p2 p3 hw new_at
    have b0 : atI [w0, w1, w2, w3] 0 = some w0 := by simp [atI, ixN]
    have b1 : atI [w0, w1, w2, w3] 1 = some w1 := by simp [atI, ixN]
    have b2 : atI [w0, w1, w2, w3] 2 = some w2 := by simp [atI, ixN]
    have b3 : atI [w0, w1, w2, w3] 3 = some w3 := by simp [atI, ixN]
    have gd : ((gN (gN g2 [w0, w1, w2, w3] none) [w0, w1, w2, w3] none).new (.ins "Plan" [])).put (gN (gN g2 [w0, w1, w2, w3] none) [w0, w1, w2, w3] none).nx (.ins "Plan" [("l_parts", .tup [w0, w1, w2, w3])]) = gN (gN (gN g2 [w0, w1, w2, w3] none) [w0, w1, w2, w3] none) [w0, w1, w2, w3] none := rfl
    rw [gd] at i0
    rw [← ea, ← eb, ← ecc, ← ep] at hz
    simp [f__law_refused_right, m__law_refused_right, e_take, e1, c1, c2, toLst, e2, e3, tb2, tb3, q0, q1, z1, p1', z4, upsOf, ec, e4, e5, fAppend, forL_cons, forL, turnM, er, List.lookup, eqP_n, neP_n, eqD_s, b0, b1, b2, b3, kperm, i0, sh, reprG_t, hz, tupD]
end
end L2.VI.K72
namespace L2.VI.K72
open PySem PySem.Spec PyProof.Rows He L2 L2.VI
section
variable {g : GSt} {k : Nat}
theorem islist_ok : f_is_list [.lst [.int 30]] g = .ok (.bl true) g := by
  have z2 : 2 ≤ sizeLine := sz_le (by omega)
  simp [f_is_list, m_is_list, isiTM, tyD, z2, show tysOf [D.ty "list", D.ty "tuple"] = some ["list", "tuple"] from rfl]
theorem lengths_ok : f_are_lengths [.lst [.int 30]] g = .ok (.bl true) g := by
  have e := isnumin_ok (g := g) (.int 30) 2 31
  have o : okN (.int 30) 2 31 = true := by decide
  rw [o] at e
  have z0 : 0 < sizeLine := by rw [sizeLine_eq]; omega
  simp [f_are_lengths, m_are_lengths, islist_ok, chainD, lcN, compL, e, BSt.wip, wipeT, allD, dBls, z0]
theorem kind_ok {r : Int} (h0 : 0 ≤ r) (h1 : r ≤ 1000) : f_is_kind [.tup [.int r, .bl true]] g = .ok (.bl true) g := by
  have e := isnumin_ok (g := g) (.int r) 0 1000
  have o : okN (.int r) 0 1000 = true := by simp [okN, h0, h1]
  rw [o] at e
  have a0 : atI [D.int r, D.bl true] 0 = some (.int r) := by simp [atI, ixN]
  have a1 : atI [D.int r, D.bl true] 1 = some (.bl true) := by simp [atI, ixN]
  simp [f_is_kind, m_is_kind, tyD, a0, a1, e]
theorem name_ok : f_is_name [.str "a"] g = .ok (.bl true) g := by
  have z0 : 0 < sizeLine := by rw [sizeLine_eq]; omega
  have l1 : (Str.ofString "a").length = 1 := rfl
  have c1 : (Str.ofString "a").cps.toList = [97] := rfl
  have z1 : 1 ≤ sizeLine := sz_le (by omega)
  have mem : (97 : Nat) ∈ (Str.ofString "abcdefghijklmnopqrstuvwxyz").cps.toList := by decide +kernel
  have e : ∀ b : BSt, inD false (.str ⟨#[97]⟩) (.str "abcdefghijklmnopqrstuvwxyz") b = .ok (.bl true) b := fun b => by
    simp [inD, mem]
  simp [f_is_name, m_is_name, tyD, chainD, lcN, compL, BSt.wip, wipeT, allD, dBls, z0, z1, l1, c1, e]
theorem kinds_ok {r : Int} (h0 : 0 ≤ r) (h1 : r ≤ 1000) : f_are_kinds [.dic [(.inr "a", .tup [.int r, .bl true])]] g = .ok (.bl true) g := by
  have z0 : 0 < sizeLine := by rw [sizeLine_eq]; omega
  have z1 : 1 ≤ sizeLine := sz_le (by omega)
  have kd := kind_ok (g := g) h0 h1
  have nm := name_ok (g := g)
  simp [f_are_kinds, m_are_kinds, tyD, chainD, lcN, compL, BSt.wip, wipeT, allD, dBls, z0, z1, keyD, nm, kd, ixO, List.lookup]
theorem book_ok {r : Int} (h0 : 0 ≤ r) (h1 : r ≤ 1000) {j : Nat} (hj : g.S j = some (.ins "Book" [])) : ∃ g', f_Book_init [.ptr j, .lst [.int 30], .int 0, .dic [(.inr "a", .tup [.int r, .bl true])], .int 0, .str "day", .non] g = .ok .non g' ∧ (∃ fs, g'.S j = some (.ins "Book" fs)) ∧ g'.nx = g.nx ∧ ∀ i, i ≠ j → g'.S i = g.S i := by
  have ln := lengths_ok (g := g)
  have ks := kinds_ok (g := g) h0 h1
  have n1 := isnumin_ok (g := g) (.int 0) 0 29
  have n2 := isnumin_ok (g := g) (.int 0) 0 2
  have o1 : okN (.int 0) 0 29 = true := by decide
  have o2 : okN (.int 0) 0 2 = true := by decide
  rw [o1] at n1
  rw [o2] at n2
  have z0 : 0 < sizeLine := by rw [sizeLine_eq]; omega
  have z2 : 2 ≤ sizeLine := sz_le (by omega)
  have key : ∃ f1 f2 f3 f4 f5 f6, f_Book_init [.ptr j, .lst [.int 30], .int 0, .dic [(.inr "a", .tup [.int r, .bl true])], .int 0, .str "day", .non] g = .ok .non ((((((g.put j (.ins "Book" f1)).put j (.ins "Book" f2)).put j (.ins "Book" f3)).put j (.ins "Book" f4)).put j (.ins "Book" f5)).put j (.ins "Book" f6)) := by
    have e : ∀ b : BSt, inD true (.str "day") (.tup [.str "day", .str "statement"]) b = .ok (.bl false) b := fun b => by
      simp [inD, isF, eqF]
    have so : toSrt [.dic [(.inr "a", .tup [.int r, .bl true])]] = some (.lst [.str "a"]) := rfl
    simp [f_Book_init, m_Book_init, ln, ks, n1, n2, minLD, dInts, minI, tyD, hj, z0, z2, e, so, tupD, compDL, keyOf, BSt.wip, wipeT, L2.VI.dput, ixO, List.lookup, isIns, dputF, put_same]
    exact ⟨_, _, _, _, _, _, rfl⟩
  obtain ⟨f1, f2, f3, f4, f5, f6, e⟩ := key
  exact ⟨_, e, ⟨f6, put_same⟩, rfl, fun i hi => by simp only [put_ne hi]⟩
end
end L2.VI.K72
namespace L2.VI.K72
open PySem PySem.Spec PyProof.Rows He L2 L2.VI
section
variable {g : GSt} {k : Nat} {r s l : Int} {p : Bool}
theorem parts_ok {ks kl : Nat} {n : Int} (h : StOk g ks kl n) (hn : n < 1000000) : ∃ r s l p g', f__law_parts [.ptr ks] g = .ok (prt r s l p) g' ∧ Pl r s l ∧ StOk g' ks kl (n + 10) ∧ Fr g g' ks kl := by
  obtain ⟨a1, g1, e1, x1, y1, s1, f1⟩ := take_ok (m := 60) h (by omega) (by decide) (by decide)
  obtain ⟨a2, g2, e2, x2, y2, s2, f2⟩ := take_ok (m := 1001) s1 (by omega) (by decide) (by decide)
  obtain ⟨d3, g3, e3, x3, s3, f3⟩ := pick_ok s2 (by omega) (ds := [.int 0, .int 1, .int 5, .int 15, .int 20, .int 100, .int 999, .int 1000, .int a1, .int a2]) (by simp) (by simp)
  obtain ⟨r, rfl, r0, r1⟩ : ∃ r, d3 = .int r ∧ 0 ≤ r ∧ r ≤ 1000 := by
    simp only [List.mem_cons, List.not_mem_nil, or_false] at x3
    rcases x3 with h | h | h | h | h | h | h | h | h | h <;> exact ⟨_, h, by omega, by omega⟩
  obtain ⟨b1, g4, e4, x4, y4, s4, f4⟩ := take_ok (m := 60) s3 (by omega) (by decide) (by decide)
  obtain ⟨b2, g5, e5, x5, y5, s5, f5⟩ := take_ok (m := 1001) s4 (by omega) (by decide) (by decide)
  obtain ⟨d6, g6, e6, x6, s6, f6⟩ := pick_ok s5 (by omega) (ds := [.int 0, .int 1, .int 10, .int 20, .int 30, .int 500, .int 999, .int 1000, .int b1, .int b2]) (by simp) (by simp)
  obtain ⟨s, rfl, s0, s1'⟩ : ∃ r, d6 = .int r ∧ 0 ≤ r ∧ r ≤ 1000 := by
    simp only [List.mem_cons, List.not_mem_nil, or_false] at x6
    rcases x6 with h | h | h | h | h | h | h | h | h | h <;> exact ⟨_, h, by omega, by omega⟩
  obtain ⟨c1, g7, e7, x7, y7, s7, f7⟩ := take_ok (m := 100) s6 (by omega) (by decide) (by decide)
  obtain ⟨c2, g8, e8, x8, y8, s8, f8⟩ := take_ok (m := 3000) s7 (by omega) (by decide) (by decide)
  obtain ⟨d9, g9, e9, x9, s9, f9⟩ := pick_ok s8 (by omega) (ds := [.int 1, .int 1, .int 2, .int 3, .int 10, .int 25, .int (1 + c1), .int (1 + c2)]) (by simp) (by simp)
  obtain ⟨l, rfl, l0, l1⟩ : ∃ r, d9 = .int r ∧ 1 ≤ r ∧ r ≤ 3000 := by
    simp only [List.mem_cons, List.not_mem_nil, or_false] at x9
    rcases x9 with h | h | h | h | h | h | h | h <;> exact ⟨_, h, by omega, by omega⟩
  obtain ⟨q, g10, e10, x10, y10, s10, f10⟩ := take_ok (m := 3) s9 (by omega) (by decide) (by decide)
  refine ⟨r, s, l, decide (q = 0), g10, ?_, ⟨r0, r1, s0, s1', l0, l1⟩, stok_le s10 (by omega), ((((((((f1.trans f2).trans f3).trans f4).trans f5).trans f6).trans f7).trans f8).trans f9).trans f10⟩
  have z10 : 10 ≤ sizeLine := sz_le (by omega)
  have z8 : 8 ≤ sizeLine := sz_le (by omega)
  have z4 : 4 ≤ sizeLine := sz_le (by omega)
  simp [f__law_parts, m__law_parts, prt, e_take, e_pick, e1, e2, e3, e4, e5, e6, e7, e8, e9, e10, z10, z8, z4]
theorem pl_pv (P : Pl r s l) : Pv (.int r) ∧ Pv (.int s) ∧ Pv (.int l) ∧ Pv (.bl p) := ⟨.int _, .int _, .int _, .bl _⟩
theorem pl_wr (P : Pl r s l) : wr (.int r) (.int s) (.int l) (.bl p) = none := by
  have h1 : okN (.int r) 0 1000 = true := by simp [okN, P.r0, P.r1]
  have h2 : okN (.int s) 0 1000 = true := by simp [okN, P.s0, P.s1]
  have h3 : okN (.int l) 1 1000000 = true := by have := P.l0; have := P.l1; simp [okN]; omega
  simp [wr, h1, h2, h3, isBl]
theorem planned_ok (P : Pl r s l) : f__law_planned [prt r s l p] g = .ok (.ptr g.nx) (gN g [.int r, .int s, .int l, .bl p] none) := by
  have a0 : atI [D.int r, D.int s, D.int l, D.bl p] 0 = some (.int r) := by simp [atI, ixN]
  have a1 : atI [D.int r, D.int s, D.int l, D.bl p] 1 = some (.int s) := by simp [atI, ixN]
  have a2 : atI [D.int r, D.int s, D.int l, D.bl p] 2 = some (.int l) := by simp [atI, ixN]
  have a3 : atI [D.int r, D.int s, D.int l, D.bl p] 3 = some (.bl p) := by simp [atI, ixN]
  have e := init_ok (g := g.new (.ins "Plan" [])) (j := g.nx) (.int r) (.int s) (.int l) (.bl p) (pl_wr P) new_at
  simp [f__law_planned, m__law_planned, a0, a1, a2, a3, kperm, e, gN]
theorem sum_ok {ks kl : Nat} {n : Int} (P : Pl r s l) (h : StOk g ks kl n) (hn : n < 900000) : ∃ b g', f__law_sum_drawn [.ptr ks, prt r s l p] g = .ok (.int b) g' ∧ 0 ≤ b ∧ b ≤ 20000 ∧ StOk g' ks kl (n + 3) ∧ Fr g g' ks kl := by
  obtain ⟨a1, g1, e1, x1, y1, s1, f1⟩ := take_ok (m := 50) h (by omega) (by decide) (by decide)
  obtain ⟨a2, g2, e2, x2, y2, s2, f2⟩ := take_ok (m := 5000) s1 (by omega) (by decide) (by decide)
  obtain ⟨N, hN⟩ : ∃ N, N = 1000 * l / (if 1 < r then r else 1) := ⟨_, rfl⟩
  obtain ⟨d, g3, e3, o3, s3, f3⟩ := pick_ok s2 (by omega) (ds := [.int 0, .int 1, .int 2, .int l, .int (l + 1), .int (N - 1), .int N, .int (N + 1), .int a1, .int a2]) (by simp) (by simp)
  obtain ⟨v, rfl⟩ : ∃ v, d = .int v := by
    simp only [List.mem_cons, List.not_mem_nil, or_false] at o3
    rcases o3 with h | h | h | h | h | h | h | h | h | h <;> exact ⟨_, h⟩
  have b0 : atI [D.int r, D.int s, D.int l, D.bl p] 0 = some (.int r) := by simp [atI, ixN]
  have b2 : atI [D.int r, D.int s, D.int l, D.bl p] 2 = some (.int l) := by simp [atI, ixN]
  have z10 : 10 ≤ sizeLine := sz_le (by omega)
  have q1 := P.small.2.2
  have q2 : small64 1000 := by decide
  have nz : 0 < (if 1 < r then r else 1) := by split <;> omega
  have nz2 : (if 1 < r then r else 1) < 1073741824 := by have := P.r1; split <;> omega
  subst hN
  refine ⟨mx 0 (mn 20000 v), g3, ?_, by unfold mx; split <;> omega, by unfold mx mn; repeat' split <;> omega, stok_le s3 (by omega), (f1.trans f2).trans f3⟩
  simp [f__law_sum_drawn, m__law_sum_drawn, b0, b2, q1, q2, nz, nz2, e_take, e_pick, e1, e2, e3, z10, mx, mn]
end
end L2.VI.K72
namespace L2.VI.K72
open PySem PySem.Spec PyProof.Rows He L2 L2.VI
section
variable {g : GSt} {k : Nat} {r s l : Int} {p : Bool}
noncomputable def nrE : M D := bin2 addT (bin2 addT (sliceM (getV 3) (M.ret none) (partM (getV 6))) (sliceM (getV 4) (partM (getV 6)) (partM (bin2 addT (getV 6) (M.ret (.int 1)))))) (sliceM (getV 3) (partM (bin2 addT (getV 6) (M.ret (.int 1)))) (M.ret none))
/-- the parts of the one, the one at the spot of the other -/
def near (i : Int) (r s l : Int) (p : Bool) (r' s' l' : Int) (p' : Bool) : D := if i = 0 then prt r' s l p else if i = 1 then prt r s' l p else if i = 2 then prt r s l' p else prt r s l p'
theorem near_pl {r' s' l' : Int} {p' : Bool} (i : Int) (P : Pl r s l) (P' : Pl r' s' l') : ∃ a b c q, near i r s l p r' s' l' p' = prt a b c q ∧ Pl a b c := by
  unfold near
  split
  · exact ⟨_, _, _, _, rfl, ⟨P'.r0, P'.r1, P.s0, P.s1, P.l0, P.l1⟩⟩
  · split
    · exact ⟨_, _, _, _, rfl, ⟨P.r0, P.r1, P'.s0, P'.s1, P.l0, P.l1⟩⟩
    · split
      · exact ⟨_, _, _, _, rfl, ⟨P.r0, P.r1, P.s0, P.s1, P'.l0, P'.l1⟩⟩
      · exact ⟨_, _, _, _, rfl, P⟩
theorem near_ok {r' s' l' i : Int} {p' : Bool} {t0 t1 t2 t5 : Option Slot} {tl : List (Option Slot)} (h0 : 0 ≤ i) (h1 : i < 4) :
    nrE ⟨g, t0 :: t1 :: t2 :: some (.val (prt r s l p)) :: some (.val (prt r' s' l' p')) :: t5 :: some (.val (.int i)) :: tl⟩ = .ok (near i r s l p r' s' l' p') ⟨g, t0 :: t1 :: t2 :: some (.val (prt r s l p)) :: some (.val (prt r' s' l' p')) :: t5 :: some (.val (.int i)) :: tl⟩ := by
  have z4 : 4 ≤ sizeLine := sz_le (by omega)
  have z3 : 3 ≤ sizeLine := sz_le (by omega)
  have z2 : 2 ≤ sizeLine := sz_le (by omega)
  have z1 : 1 ≤ sizeLine := sz_le (by omega)
  have c : i = 0 ∨ i = 1 ∨ i = 2 ∨ i = 3 := by omega
  rcases c with rfl | rfl | rfl | rfl <;> simp [nrE, near, sliceM, partM, slD, cutD, HT.sIx, z4, z3, z2, z1]
end
end L2.VI.K72
namespace L2.VI.K72
open PySem PySem.Spec PyProof.Rows He L2 L2.VI
section
variable {g : GSt} {k j : Nat} {r s l : Int} {p : Bool}
theorem plan_eq {A B : D} {e : Bool} (h : isPlan g k A) (h' : isPlan g j B) (he : eqB A B = some e) : f_Plan_eq [.ptr k, .ptr j] g = .ok (.bl e) g := by
  simp [f_Plan_eq, m_Plan_eq, tyD, h, h', List.lookup, eqD, he]
theorem plan_ne {A d : D} (h : isPlan g k A) (hd : (∃ i, d = .int i) ∨ d = .non ∨ (∃ x, d = .str x) ∨ (∃ xs, d = .tup xs) ∨ ∃ j fs, d = .ptr j ∧ g.S j = some (.ins "Book" fs)) : f_Plan_eq [.ptr k, d] g = .ok (.bl false) g := by
  rcases hd with ⟨i, rfl⟩ | rfl | ⟨x, rfl⟩ | ⟨xs, rfl⟩ | ⟨j, fs, rfl, hj⟩
  · simp [f_Plan_eq, m_Plan_eq, tyD]
  · simp [f_Plan_eq, m_Plan_eq, tyD]
  · simp [f_Plan_eq, m_Plan_eq, tyD]
  · simp [f_Plan_eq, m_Plan_eq, tyD]
  · simp [f_Plan_eq, m_Plan_eq, tyD, hj, List.lookup]
end
end L2.VI.K72
namespace L2.VI.K72
open PySem PySem.Spec PyProof.Rows He L2 L2.VI
section
variable {g : GSt} {k j : Nat} {r s l : Int} {p : Bool}
theorem prt_eqB {r' s' l' : Int} {p' : Bool} (P : Pl r s l) (P' : Pl r' s' l') : ∃ e, eqB (prt r s l p) (prt r' s' l' p') = some e := by
  have sh : ∀ {a b c : Int} {q : Bool}, SeqAt.shaped (.tuple [.int a, .int b, .int c, .bool q]) = true := by
    intro a b c q
    simp [SeqAt.shaped, PyData.canLay0, PyData.canLayAll0, PyData.depth, PyData.depthAll]
  exact ⟨_, by simp [eqB, toPy, toPyAll, sh]; rfl⟩
theorem mon_sh (P : Pl r s l) {b : Int} (h0 : 0 ≤ b) (h1 : b ≤ 100000) : ∃ z, shownD g (.tup (mon r s l p b)) = some z := by
  have i0 : 0 ≤ b * r / 1000 := Int.ediv_nonneg (Int.mul_nonneg h0 P.r0) (by decide)
  have i1 : b * r / 1000 ≤ b := by
    have : b * r ≤ b * 1000 := Int.mul_le_mul_of_nonneg_left P.r1 h0
    omega
  have w0 : 0 ≤ mx l (wan r s p b) := by have := P.l0; unfold mx; split <;> omega
  unfold mon
  split
  · exact sh3 (log_small (by unfold inr; omega) (by unfold inr; omega)) (log_small (by unfold ow; omega) (by unfold ow; omega)) (log_small (by decide) (by decide))
  · refine sh3 (log_small (by unfold inr; omega) (by unfold inr; omega)) (log_small ?_ ?_) (log_small ?_ ?_) <;> unfold mn ow <;> split <;> omega
end
end L2.VI.K72
namespace L2.VI.K72
open PySem PySem.Spec PyProof.Rows He L2 L2.VI
section
variable {g : GSt} {k : Nat} {r s l : Int} {p : Bool}
noncomputable def lapB : M Fl := seqM (M.bind (M.bind (consM (getV 1) (consM (frzM (lstN (consM (M.bind (consM (getV 1) (consM (getV 3) (M.ret []))) (callF f__law_sum_drawn)) (consM (M.bind (consM (getV 1) (consM (bin2 addT (bin2 powD (M.ret (.int 10)) (M.ret (.int 5))) (M.ret (.int 1))) (M.ret []))) (callF f__law_take)) (consM (bin2 powD (M.ret (.int 10)) (M.ret (.int 5))) (M.ret [])))))) (M.ret []))) (callF f__law_pick)) (setV 11)) (seqM (M.bind (M.bind (consM (M.bind (consM (getV 3) (consM (getV 11) (consM (M.ret (.int 0)) (M.ret [])))) (callF f__law_step)) (M.ret [])) reprG) (setV 12)) (ifM (orB (isB (bin2 neD (M.bind (consM (M.bind (consM (getV 5) (consM (getV 11) (M.ret []))) (callF f_month)) (M.ret [])) reprG) (getV 12))) (isB (bin2 neD (M.bind (consM (argsK 0 2 [] [1, 0] (M.ret []) (consM (getV 11) (consM (getV 5) (M.ret []))) (callF f_month)) (M.ret [])) reprG) (getV 12)))) (retM (M.ret (.bl false))) (M.ret .nx)))
theorem fmonth_ok (P : Pl r s l) (h : isPlan g k (prt r s l p)) {b : Int} (h0 : 0 ≤ b) (h1 : b ≤ 100000) : f_month [.ptr k, .int b] g = .ok (.tup (mon r s l p b)) g := by
  have e1 : f_need_plan [.ptr k] g = .ok .non g := by simp [f_need_plan, m_need_plan, tyD, h, List.lookup]
  have e2 := isnumin_ok (g := g) (.int b) 0 100000
  have o : okN (.int b) 0 100000 = true := by simp [okN, h0, h1]
  rw [o] at e2
  have e3 : f_need_balance [.ptr k, .int b] g = .ok .non g := by simp [f_need_balance, m_need_balance, e1, e2]
  have e4 := month_ok P h b
  simp [f_month, m_month, e3, e4]
theorem neD_str {x : Str} {b : BSt} : neD (.str x) (.str x) b = .ok (.bl false) b := by simp [neD, eqB]
theorem lap_turn {ks kl : Nat} {n : Int} {t0 t2 t4 t6 t7 t8 t9 t10 t11 t12 : Option Slot} (P : Pl r s l) (st : StOk g ks kl n) (hn : n < 900000) (h : isPlan g k (prt r s l p)) (k1 : k ≠ ks) (k2 : k ≠ kl) :
    ∃ g' a11 a12, lapB ⟨g, [t0, some (.val (.ptr ks)), t2, some (.val (prt r s l p)), t4, some (.val (.ptr k)), t6, t7, t8, t9, t10, t11, t12]⟩ = .ok .nx ⟨g', [t0, some (.val (.ptr ks)), t2, some (.val (prt r s l p)), t4, some (.val (.ptr k)), t6, t7, t8, t9, t10, a11, a12]⟩ ∧ StOk g' ks kl (n + 5) ∧ Fr g g' ks kl := by
  obtain ⟨b, g1, e1, b0, b1, s1, f1⟩ := sum_ok (p := p) P st (by omega)
  obtain ⟨x, g2, e2, x0, x1, s2, f2⟩ := take_ok (m := 100001) s1 (by omega) (by decide) (by decide)
  obtain ⟨d, g3, e3, o3, s3, f3⟩ := pick_ok s2 (by omega) (ds := [.int b, .int x, .int 100000]) (by simp) (by simp)
  obtain ⟨v, rfl, v0, v1⟩ : ∃ v, d = .int v ∧ 0 ≤ v ∧ v ≤ 100000 := by
    simp only [List.mem_cons, List.not_mem_nil, or_false] at o3
    rcases o3 with h | h | h <;> exact ⟨_, h, by omega, by omega⟩
  have f13 := (f1.trans f2).trans f3
  have h3 : isPlan g3 k (prt r s l p) := by show g3.S k = _; rw [f13.eq k k1 k2]; exact h
  have e4 := step_ok (g := g3) (p := p) P v
  have e5 := fmonth_ok P h3 v0 v1
  obtain ⟨z, ez⟩ := mon_sh (g := g3) (p := p) P v0 v1
  have z3 : 3 ≤ sizeLine := sz_le (by omega)
  refine ⟨g3, some (.val (.int v)), some (.val (.str z)), ?_, stok_le s3 (by omega), f13⟩
  simp [lapB, e_take, e_pick, e1, e2, e3, z3, e4, e5, kperm, reprG_t, ez, neD_str]
theorem lap_loop {ks kl : Nat} {t0 t2 t4 t6 t7 t8 t9 : Option Slot} (P : Pl r s l) (k1 : k ≠ ks) (k2 : k ≠ kl) : ∀ (ds : List D) (g : GSt) (n : Int) (t10 t11 t12 : Option Slot), StOk g ks kl n → n + 5 * ds.length < 900000 → isPlan g k (prt r s l p) →
    ∃ g' a10 a11 a12, forL (gSet 10) lapB ds ⟨g, [t0, some (.val (.ptr ks)), t2, some (.val (prt r s l p)), t4, some (.val (.ptr k)), t6, t7, t8, t9, t10, t11, t12]⟩ = .ok .nx ⟨g', [t0, some (.val (.ptr ks)), t2, some (.val (prt r s l p)), t4, some (.val (.ptr k)), t6, t7, t8, t9, a10, a11, a12]⟩ ∧ StOk g' ks kl (n + 5 * ds.length) ∧ Fr g g' ks kl := by
  intro ds
  induction ds with
  | nil => intro g n t10 t11 t12 st hn h; exact ⟨g, t10, t11, t12, rfl, by simpa using st, Fr.refl _ _ _⟩
  | cons d ds ih =>
    intro g n t10 t11 t12 st hn h
    rw [List.length_cons] at hn
    obtain ⟨g1, b11, b12, e1, s1, f1⟩ := lap_turn (t0 := t0) (t2 := t2) (t4 := t4) (t6 := t6) (t7 := t7) (t8 := t8) (t9 := t9) (t10 := some (.val d)) (t11 := t11) (t12 := t12) P st (by omega) h k1 k2
    have h1 : isPlan g1 k (prt r s l p) := by show g1.S k = _; rw [f1.eq k k1 k2]; exact h
    obtain ⟨g2, a10, a11, a12, e2, s2, f2⟩ := ih g1 (n + 5) (some (.val d)) b11 b12 s1 (by omega) h1
    refine ⟨g2, a10, a11, a12, ?_, stok_le s2 (by rw [List.length_cons]; omega), f1.trans f2⟩
    rw [← e2, forL_cons]
    simp [turnM, e1]
end
end L2.VI.K72
namespace L2.VI.K72
open PySem PySem.Spec PyProof.Rows He L2 L2.VI
section
variable {g : GSt} {k : Nat} {r s l : Int} {p : Bool}
noncomputable def S1 : M Fl := set2 3 4 (consM (M.bind (consM (getV 1) (M.ret [])) (callF f__law_parts)) (consM (M.bind (consM (getV 1) (M.ret [])) (callF f__law_parts)) (M.ret [])))
noncomputable def S2 : M Fl := asgM (tupM (consM (M.bind (consM (getV 3) (M.ret [])) (callF f__law_planned)) (consM (M.bind (consM (getV 1) (consM (M.ret (.int 4)) (M.ret []))) (callF f__law_take)) (M.ret [])))) (gTupM 2 (gsCons (gSet 5) (gsCons (gSet 6) (gsNil))))
noncomputable def S3 : M Fl := M.bind (bin2 addT (bin2 addT (sliceM (getV 3) (M.ret none) (partM (getV 6))) (sliceM (getV 4) (partM (getV 6)) (partM (bin2 addT (getV 6) (M.ret (.int 1)))))) (sliceM (getV 3) (partM (bin2 addT (getV 6) (M.ret (.int 1)))) (M.ret none))) (setV 7)
noncomputable def S4 : M Fl := ifM (orB (isB (bin2 neD (M.bind (consM (M.bind (consM (getV 5) (M.ret [])) (callF f__law_shown)) (M.ret [])) reprG) (M.bind (consM (getV 3) (M.ret [])) reprG))) (isB (bin2 notBD (propM "Plan" f_Plan_plus (mkM "Plan" f_Plan_init 3 0 [.bl false] [0, 1, 2, 3, 4] (consM (ixV 3 (M.ret (.int 0))) (consM (ixV 3 (M.ret (.int 1))) (consM (ixV 3 (M.ret (.int 2))) (M.ret [])))) (M.ret []))) (M.ret (.bl false))))) (retM (M.ret (.bl false))) (M.ret .nx)
noncomputable def S5 : M Fl := ifM (orB (isB (bin2 neD (bin2 (eqUD "Plan" ["Plan", "Book"] f_Plan_eq) (getV 5) (M.bind (consM (getV 7) (M.ret [])) (callF f__law_planned))) (bin2 eqD (getV 3) (getV 7)))) (isB (bin2 eqD (bin2 (neUD "Plan" ["Plan", "Book"] f_Plan_eq) (getV 5) (M.bind (consM (getV 7) (M.ret [])) (callF f__law_planned))) (bin2 eqD (getV 3) (getV 7))))) (retM (M.ret (.bl false))) (M.ret .nx)
noncomputable def S6 : M Fl := M.bind (frzM (lcN (anyM (frzM (lstN (consM (getV 3) (consM (M.ret .non) (consM (mkM "Book" f_Book_init 3 0 [.int 0, .str "day", .non] [0, 1, 2, 3, 4, 5, 6] (consM (frzM (lstN (consM (M.ret (.int 30)) (M.ret [])))) (consM (M.ret (.int 0)) (consM (frzM (dispN [.inr "a"] [tupM (consM (ixV 3 (M.ret (.int 0))) (consM (M.ret (.bl true)) (M.ret [])))])) (M.ret [])))) (M.ret [])) (consM (M.ret (.int 0)) (consM (M.ret (.str "")) (M.ret []))))))))) (gSet 9) (isB (bin2 (eqUD "Plan" ["Plan", "Book"] f_Plan_eq) (getV 5) (getV 9))) (getV 9) [9])) (setV 8)
noncomputable def S7 : M Fl := ifM (orB (isB (bin2 neP (getV 8) (frzM (lstN (M.ret []))))) (notB (isB (M.bind (consM (getV 1) (consM (getV 3) (M.ret []))) (callF f__law_refused_right))))) (retM (M.ret (.bl false))) (M.ret .nx)
noncomputable def S8 : M Fl := forM (rng1M (consM (M.ret (.int 6)) (M.ret []))) (gSet 10) (seqM (M.bind (M.bind (consM (getV 1) (consM (frzM (lstN (consM (M.bind (consM (getV 1) (consM (getV 3) (M.ret []))) (callF f__law_sum_drawn)) (consM (M.bind (consM (getV 1) (consM (bin2 addT (bin2 powD (M.ret (.int 10)) (M.ret (.int 5))) (M.ret (.int 1))) (M.ret []))) (callF f__law_take)) (consM (bin2 powD (M.ret (.int 10)) (M.ret (.int 5))) (M.ret [])))))) (M.ret []))) (callF f__law_pick)) (setV 11)) (seqM (M.bind (M.bind (consM (M.bind (consM (getV 3) (consM (getV 11) (consM (M.ret (.int 0)) (M.ret [])))) (callF f__law_step)) (M.ret [])) reprG) (setV 12)) (ifM (orB (isB (bin2 neD (M.bind (consM (M.bind (consM (getV 5) (consM (getV 11) (M.ret []))) (callF f_month)) (M.ret [])) reprG) (getV 12))) (isB (bin2 neD (M.bind (consM (argsK 0 2 [] [1, 0] (M.ret []) (consM (getV 11) (consM (getV 5) (M.ret []))) (callF f_month)) (M.ret [])) reprG) (getV 12)))) (retM (M.ret (.bl false))) (M.ret .nx))))
noncomputable def turnB : M Fl := (seqM S1 (seqM S2 (seqM S3 (seqM S4 (seqM S5 (seqM S6 (seqM S7 S8)))))))
theorem stok_ev {a b : GSt} {ks kl : Nat} {n : Int} (st : StOk a ks kl n) (h1 : ks < a.nx) (h2 : kl < a.nx) (e : ∀ i, i < a.nx → b.S i = a.S i) : StOk b ks kl n := by
  obtain ⟨ne, L, cells, rest, turn, x, y, c, d⟩ := st
  exact ⟨ne, L, cells, rest, turn, x, y, by rw [e _ h1]; exact c, by rw [e _ h2]; exact d⟩
theorem gN_lt {vs : List D} {o : Option Str} {i : Nat} (h : i < g.nx) : (gN g vs o).S i = g.S i := gN_ne (by omega)
section
variable {t0 t1 t2 t3 t4 t5 t6 t7 t8 t9 t10 t11 t12 : Option Slot}
theorem S1_ok {ks kl : Nat} {n : Int} (st : StOk g ks kl n) (hn : n < 900000) : ∃ r s l p r' s' l' p' g', S1 ⟨g, [t0, some (.val (.ptr ks)), t2, t3, t4, t5, t6, t7, t8, t9, t10, t11, t12]⟩ = .ok .nx ⟨g', [t0, some (.val (.ptr ks)), t2, some (.val (prt r s l p)), some (.val (prt r' s' l' p')), t5, t6, t7, t8, t9, t10, t11, t12]⟩ ∧ Pl r s l ∧ Pl r' s' l' ∧ StOk g' ks kl (n + 20) ∧ Fr g g' ks kl := by
  obtain ⟨r, s, l, p, g1, e1, P, s1, f1⟩ := parts_ok st (by omega)
  obtain ⟨r', s', l', p', g2, e2, P', s2, f2⟩ := parts_ok s1 (by omega)
  exact ⟨r, s, l, p, r', s', l', p', g2, by simp [S1, e1, e2], P, P', stok_le s2 (by omega), f1.trans f2⟩
theorem S2_ok {ks kl : Nat} {n : Int} (P : Pl r s l) (st : StOk g ks kl n) (hn : n < 900000) (k1 : ks < g.nx) (k2 : kl < g.nx) : ∃ i g', S2 ⟨g, [t0, some (.val (.ptr ks)), t2, some (.val (prt r s l p)), t4, t5, t6, t7, t8, t9, t10, t11, t12]⟩ = .ok .nx ⟨g', [t0, some (.val (.ptr ks)), t2, some (.val (prt r s l p)), t4, some (.val (.ptr g.nx)), some (.val (.int i)), t7, t8, t9, t10, t11, t12]⟩ ∧ 0 ≤ i ∧ i < 4 ∧ isPlan g' g.nx (prt r s l p) ∧ g'.nx = g.nx + 1 ∧ StOk g' ks kl (n + 20) ∧ Ev g g' ks kl := by
  have e3 := planned_ok (g := g) (p := p) P
  have s3 : StOk (gN g [.int r, .int s, .int l, .bl p] none) ks kl n := stok_gN st (by omega) (by omega)
  obtain ⟨i, g4, e4, i0, i1, s4, f4⟩ := take_ok (m := 4) s3 (by omega) (by decide) (by decide)
  have z2 : 2 ≤ sizeLine := sz_le (by omega)
  refine ⟨i, g4, ?_, i0, i1, ?_, by rw [f4.nx, gN_nx], stok_le s4 (by omega), ev_gN.trans (Ev.fr f4)⟩
  · simp [S2, e3, e_take, e4, z2]
  · show g4.S _ = _
    rw [f4.eq _ (by omega) (by omega)]
    exact gN_at
theorem S3_ok {r' s' l' i : Int} {p' : Bool} (h0 : 0 ≤ i) (h1 : i < 4) :
    S3 ⟨g, [t0, t1, t2, some (.val (prt r s l p)), some (.val (prt r' s' l' p')), t5, some (.val (.int i)), t7, t8, t9, t10, t11, t12]⟩ = .ok .nx ⟨g, [t0, t1, t2, some (.val (prt r s l p)), some (.val (prt r' s' l' p')), t5, some (.val (.int i)), some (.val (near i r s l p r' s' l' p')), t8, t9, t10, t11, t12]⟩ := by
  have np := near_ok (g := g) (p := p) (p' := p') (r := r) (s := s) (l := l) (r' := r') (s' := s') (l' := l') (i := i) (t0 := t0) (t1 := t1) (t2 := t2) (t5 := t5) (tl := [t7, t8, t9, t10, t11, t12]) h0 h1
  simp only [nrE] at np
  unfold S3
  show R.thn (bin2 addT _ _ _) _ = _
  rw [np]
  rfl
theorem S4_ok (P : Pl r s l) (h : isPlan g k (prt r s l p)) :
    S4 ⟨g, [t0, t1, t2, some (.val (prt r s l p)), t4, some (.val (.ptr k)), t6, t7, t8, t9, t10, t11, t12]⟩ = .ok .nx ⟨gN g [.int r, .int s, .int l, .bl false] none, [t0, t1, t2, some (.val (prt r s l p)), t4, some (.val (.ptr k)), t6, t7, t8, t9, t10, t11, t12]⟩ := by
  obtain ⟨z, hz⟩ := sh4 (g := g) (a := r) (b := s) (c := l) (p := p) (log_small P.r0 (by have := P.r1; omega)) (log_small P.s0 (by have := P.s1; omega)) (log_small (by have := P.l0; omega) (by have := P.l1; omega))
  have sh := shown_ok h
  have a0 : atI [D.int r, D.int s, D.int l, D.bl p] 0 = some (.int r) := by simp [atI, ixN]
  have a1 : atI [D.int r, D.int s, D.int l, D.bl p] 1 = some (.int s) := by simp [atI, ixN]
  have a2 : atI [D.int r, D.int s, D.int l, D.bl p] 2 = some (.int l) := by simp [atI, ixN]
  have b3 : atI [D.int r, D.int s, D.int l, D.bl false] 3 = some (.bl false) := by simp [atI, ixN]
  have e := init_ok (g := g.new (.ins "Plan" [])) (j := g.nx) (.int r) (.int s) (.int l) (.bl false) (pl_wr P) new_at
  have gd : (g.new (.ins "Plan" [])).put g.nx (.ins "Plan" [("l_parts", .tup [.int r, .int s, .int l, .bl false])]) = gN g [.int r, .int s, .int l, .bl false] none := rfl
  rw [gd] at e
  have hp : isPlan (gN g [.int r, .int s, .int l, .bl false] none) g.nx (prt r s l false) := gN_at
  have e5 : f_Plan_plus [.ptr g.nx] (gN g [.int r, .int s, .int l, .bl false] none) = .ok (.bl false) (gN g [.int r, .int s, .int l, .bl false] none) := by simp [f_Plan_plus, m_Plan_plus, hp, List.lookup, b3]
  simp [S4, sh, reprG_t, hz, neD_str, a0, a1, a2, kperm, e, isIns, hp, e5]
theorem S5_ok {a b c : Int} {q : Bool} (P : Pl r s l) (Q : Pl a b c) (h : isPlan g k (prt r s l p)) (hk : k < g.nx) :
    S5 ⟨g, [t0, t1, t2, some (.val (prt r s l p)), t4, some (.val (.ptr k)), t6, some (.val (prt a b c q)), t8, t9, t10, t11, t12]⟩ = .ok .nx ⟨gN (gN g [.int a, .int b, .int c, .bl q] none) [.int a, .int b, .int c, .bl q] none, [t0, t1, t2, some (.val (prt r s l p)), t4, some (.val (.ptr k)), t6, some (.val (prt a b c q)), t8, t9, t10, t11, t12]⟩ := by
  obtain ⟨e, he⟩ := prt_eqB (p := p) (p' := q) P Q
  have e1 := planned_ok (g := g) (p := q) Q
  have e2 := planned_ok (g := gN g [.int a, .int b, .int c, .bl q] none) (p := q) Q
  have h1 : isPlan (gN g [.int a, .int b, .int c, .bl q] none) k (prt r s l p) := by show GSt.S _ _ = _; rw [gN_lt hk]; exact h
  have h2 : isPlan (gN (gN g [.int a, .int b, .int c, .bl q] none) [.int a, .int b, .int c, .bl q] none) k (prt r s l p) := by show GSt.S _ _ = _; rw [gN_lt (by rw [gN_nx]; omega)]; exact h1
  have n1 : isPlan (gN g [.int a, .int b, .int c, .bl q] none) g.nx (prt a b c q) := gN_at
  have n2 : isPlan (gN (gN g [.int a, .int b, .int c, .bl q] none) [.int a, .int b, .int c, .bl q] none) (g.nx + 1) (prt a b c q) := gN_at (g := gN g [.int a, .int b, .int c, .bl q] none)
  have e3 := plan_eq h1 n1 he
  have e4 := plan_eq h2 n2 he
  have b1 : ∀ x y : Bool, neD (.bl x) (.bl y) = M.ret (.bl (!decide (x = y))) := fun x y => by cases x <;> cases y <;> rfl
  have b2 : ∀ x y : Bool, eqD (.bl x) (.bl y) = M.ret (.bl (decide (x = y))) := fun x y => by cases x <;> cases y <;> rfl
  have b4 : eqB (.bl (!e)) (.bl e) = some false := by cases e <;> rfl
  simp [S5, b4, e1, e2, isIns, eqRt, h1, h2, n1, n2, e3, e4, b1, b2, eqD, he, gN_nx]
theorem eq_no {d : D} (h : isPlan g k (prt r s l p)) (hd : (∃ i, d = .int i) ∨ d = .non ∨ (∃ x, d = .str x) ∨ (∃ xs, d = .tup xs) ∨ ∃ j fs, d = .ptr j ∧ g.S j = some (.ins "Book" fs)) (t : List (Option Slot)) : eqUD "Plan" ["Plan", "Book"] f_Plan_eq (.ptr k) d ⟨g, t⟩ = .ok (.bl false) ⟨g, t⟩ := by
  have e := plan_ne h hd
  rcases hd with ⟨i, rfl⟩ | rfl | ⟨x, rfl⟩ | ⟨xs, rfl⟩ | ⟨j, fs, rfl, hj⟩ <;> simp [isIns, eqRt, h, e] <;> simp [hj]
theorem S6_ok (P : Pl r s l) (h : isPlan g k (prt r s l p)) (hk : k < g.nx) : ∃ g',
    S6 ⟨g, [t0, t1, t2, some (.val (prt r s l p)), t4, some (.val (.ptr k)), t6, t7, t8, t9, t10, t11, t12]⟩ = .ok .nx ⟨g', [t0, t1, t2, some (.val (prt r s l p)), t4, some (.val (.ptr k)), t6, t7, some (.val (.lst [])), none, t10, t11, t12]⟩ ∧ g'.nx = g.nx + 1 ∧ ∀ i, i < g.nx → g'.S i = g.S i := by
  obtain ⟨g', e, ⟨fs, hf⟩, x', q'⟩ := book_ok (g := g.new (.ins "Book" [])) (j := g.nx) P.r0 P.r1 new_at
  have lt : ∀ i, i < g.nx → g'.S i = g.S i := fun i hi => by
    rw [q' i (by omega)]
    exact if_neg (by omega)
  have pk : isPlan g' k (prt r s l p) := by show g'.S k = _; rw [lt k hk]; exact h
  have q1 := fun t => eq_no (d := prt r s l p) pk (.inr (.inr (.inr (.inl ⟨_, rfl⟩)))) t
  have q2 := fun t => eq_no (d := .non) pk (.inr (.inl rfl)) t
  have q3 := fun t => eq_no (d := .ptr g.nx) pk (.inr (.inr (.inr (.inr ⟨_, _, rfl, hf⟩)))) t
  have q4 := fun t => eq_no (d := .int 0) pk (.inl ⟨_, rfl⟩) t
  have q5 := fun t => eq_no (d := .str "") pk (.inr (.inr (.inl ⟨_, rfl⟩))) t
  have a0 : atI [D.int r, D.int s, D.int l, D.bl p] 0 = some (.int r) := by simp [atI, ixN]
  have z5 : 5 ≤ sizeLine := sz_le (by omega)
  have z2 : 2 ≤ sizeLine := sz_le (by omega)
  have z1 : 1 ≤ sizeLine := sz_le (by omega)
  refine ⟨g', ?_, x', lt⟩
  have mg : mergeD [] [((.inr "a" : Key), D.tup [.int r, .bl true])] = [(.inr "a", .tup [.int r, .bl true])] := rfl
  simp [S6, a0, mg, kperm, e, z5, z2, z1, lcN, compL, BSt.wip, wipeT, -eqUD_ap, q1, q2, q3, q4, q5]
end
end
end L2.VI.K72
namespace L2.VI.K72
open PySem PySem.Spec PyProof.Rows He L2 L2.VI
section
variable {g : GSt} {k : Nat} {r s l : Int} {p : Bool}
theorem rngL_length (lo : Int) (n : Nat) : (rngL lo n).length = n := by simp [rngL]
variable {t0 t2 t3 t4 t5 t6 t7 t8 t9 t10 t11 t12 : Option Slot}
theorem S7_ok {ks kl : Nat} {n : Int} (st : StOk g ks kl n) (hn : n < 900000) (k1 : ks < g.nx) (k2 : kl < g.nx) (n1 : ks ≠ 0) (n2 : kl ≠ 0) (n3 : 0 < g.nx) (tb : TabOk g) : ∃ g',
    S7 ⟨g, [t0, some (.val (.ptr ks)), t2, some (.val (prt r s l p)), t4, t5, t6, t7, some (.val (.lst [])), t9, t10, t11, t12]⟩ = .ok .nx ⟨g', [t0, some (.val (.ptr ks)), t2, some (.val (prt r s l p)), t4, t5, t6, t7, some (.val (.lst [])), t9, t10, t11, t12]⟩ ∧ StOk g' ks kl (n + 10) ∧ Ev g g' ks kl := by
  obtain ⟨g', e, s', v⟩ := refused_ok st (by omega) k1 k2 n1 n2 n3 tb (.int r) (.int s) (.int l) (.bl p)
  refine ⟨g', ?_, s', v⟩
  have z0 : 0 ≤ sizeLine := Nat.zero_le _
  simp [S7, neP_n, e, z0]
theorem S8_ok {ks kl : Nat} {n : Int} (P : Pl r s l) (st : StOk g ks kl n) (hn : n < 800000) (h : isPlan g k (prt r s l p)) (k1 : k ≠ ks) (k2 : k ≠ kl) : ∃ g' a10 a11 a12,
    S8 ⟨g, [t0, some (.val (.ptr ks)), t2, some (.val (prt r s l p)), t4, some (.val (.ptr k)), t6, t7, t8, t9, t10, t11, t12]⟩ = .ok .nx ⟨g', [t0, some (.val (.ptr ks)), t2, some (.val (prt r s l p)), t4, some (.val (.ptr k)), t6, t7, t8, t9, a10, a11, a12]⟩ ∧ StOk g' ks kl (n + 30) ∧ Fr g g' ks kl := by
  obtain ⟨g', a10, a11, a12, e, s', f⟩ := lap_loop (t0 := t0) (t2 := t2) (t4 := t4) (t6 := t6) (t7 := t7) (t8 := t8) (t9 := t9) P k1 k2 (rngL 0 6) g n t10 t11 t12 st (by rw [rngL_length]; omega) h
  refine ⟨g', a10, a11, a12, ?_, stok_le s' (by rw [rngL_length]; omega), f⟩
  simp only [lapB] at e
  have e' : (rngL 0 (6 : Int).toNat) = rngL 0 6 := rfl
  simp [S8, e', e]
theorem Ev.tab {a b : GSt} {ks kl : Nat} (v : Ev a b ks kl) (n1 : ks ≠ 0) (n2 : kl ≠ 0) (n3 : 0 < a.nx) (h : TabOk a) : TabOk b := by
  unfold TabOk
  rw [v.eq 0 n3 (Ne.symm n1) (Ne.symm n2)]
  exact h
theorem Ev.pl {a b : GSt} {ks kl : Nat} {A : D} (v : Ev a b ks kl) (h : isPlan a k A) (h0 : k < a.nx) (h1 : k ≠ ks) (h2 : k ≠ kl) : isPlan b k A := by
  show b.S k = _
  rw [v.eq k h0 h1 h2]; exact h
theorem turn_ok {ks kl : Nat} {n : Int} (st : StOk g ks kl n) (hn : n + 100 < 800000) (k1 : ks < g.nx) (k2 : kl < g.nx) (tb : TabOk g) (n1 : ks ≠ 0) (n2 : kl ≠ 0) (n3 : 0 < g.nx) :
    ∃ g' a3 a4 a5 a6 a7 a8 a9 a10 a11 a12, turnB ⟨g, [t0, some (.val (.ptr ks)), t2, t3, t4, t5, t6, t7, t8, t9, t10, t11, t12]⟩ = .ok .nx ⟨g', [t0, some (.val (.ptr ks)), t2, a3, a4, a5, a6, a7, a8, a9, a10, a11, a12]⟩ ∧ StOk g' ks kl (n + 100) ∧ Ev g g' ks kl := by
  obtain ⟨r, s, l, p, r', s', l', p', g1, e1, P, P', s1, f1⟩ := S1_ok (t0 := t0) (t2 := t2) (t3 := t3) (t4 := t4) (t5 := t5) (t6 := t6) (t7 := t7) (t8 := t8) (t9 := t9) (t10 := t10) (t11 := t11) (t12 := t12) st (by omega)
  have x1 : g1.nx = g.nx := f1.nx
  obtain ⟨i, g2, e2, i0, i1, pl2, x2, s2, v2⟩ := S2_ok (t0 := t0) (t2 := t2) (t4 := some (.val (prt r' s' l' p'))) (t5 := t5) (t6 := t6) (t7 := t7) (t8 := t8) (t9 := t9) (t10 := t10) (t11 := t11) (t12 := t12) (p := p) P s1 (by omega) (by omega) (by omega)
  have e3 := S3_ok (g := g2) (r := r) (s := s) (l := l) (p := p) (r' := r') (s' := s') (l' := l') (p' := p') (t0 := t0) (t1 := some (.val (.ptr ks))) (t2 := t2) (t5 := some (.val (.ptr g1.nx))) (t7 := t7) (t8 := t8) (t9 := t9) (t10 := t10) (t11 := t11) (t12 := t12) i0 i1
  obtain ⟨a, b, c, q, hq, Q⟩ := near_pl (p := p) (p' := p') i P P'
  rw [hq] at e3
  have e4 := S4_ok (t0 := t0) (t1 := some (.val (.ptr ks))) (t2 := t2) (t4 := some (.val (prt r' s' l' p'))) (t6 := some (.val (.int i))) (t7 := some (.val (prt a b c q))) (t8 := t8) (t9 := t9) (t10 := t10) (t11 := t11) (t12 := t12) P pl2
  have v3 : Ev g2 (gN g2 [.int r, .int s, .int l, .bl false] none) ks kl := ev_gN
  have pl3 := v3.pl pl2 (by omega) (by omega) (by omega)
  have x3 : (gN g2 [.int r, .int s, .int l, .bl false] none).nx = g2.nx + 1 := gN_nx
  have s3 : StOk (gN g2 [.int r, .int s, .int l, .bl false] none) ks kl (n + 40) := stok_gN (stok_le s2 (by omega)) (by omega) (by omega)
  generalize gN g2 [.int r, .int s, .int l, .bl false] none = G3 at *
  have e5 := S5_ok (q := q) (t0 := t0) (t1 := some (.val (.ptr ks))) (t2 := t2) (t4 := some (.val (prt r' s' l' p'))) (t6 := some (.val (.int i))) (t8 := t8) (t9 := t9) (t10 := t10) (t11 := t11) (t12 := t12) P Q pl3 (by omega)
  have v4 : Ev G3 (gN (gN G3 [.int a, .int b, .int c, .bl q] none) [.int a, .int b, .int c, .bl q] none) ks kl := ev_gN.trans ev_gN
  have pl4 := v4.pl pl3 (by omega) (by omega) (by omega)
  have x4 : (gN (gN G3 [.int a, .int b, .int c, .bl q] none) [.int a, .int b, .int c, .bl q] none).nx = G3.nx + 2 := by rw [gN_nx, gN_nx]
  have s4 : StOk (gN (gN G3 [.int a, .int b, .int c, .bl q] none) [.int a, .int b, .int c, .bl q] none) ks kl (n + 40) := stok_gN (stok_gN s3 (by omega) (by omega)) (by rw [gN_nx]; omega) (by rw [gN_nx]; omega)
  generalize gN (gN G3 [.int a, .int b, .int c, .bl q] none) [.int a, .int b, .int c, .bl q] none = G4 at *
  obtain ⟨g5, e6, x5, q5⟩ := S6_ok (t0 := t0) (t1 := some (.val (.ptr ks))) (t2 := t2) (t4 := some (.val (prt r' s' l' p'))) (t6 := some (.val (.int i))) (t7 := some (.val (prt a b c q))) (t8 := t8) (t9 := t9) (t10 := t10) (t11 := t11) (t12 := t12) P pl4 (by omega)
  have v5 : Ev G4 g5 ks kl := ⟨by omega, fun j h _ _ => q5 j h⟩
  have s5 : StOk g5 ks kl (n + 40) := stok_ev s4 (by omega) (by omega) q5
  have pl5 := v5.pl pl4 (by omega) (by omega) (by omega)
  have vg5 : Ev g g5 ks kl := (Ev.fr f1).trans (v2.trans (v3.trans (v4.trans v5)))
  obtain ⟨g6, e7, s6, v6⟩ := S7_ok (t0 := t0) (t2 := t2) (t4 := some (.val (prt r' s' l' p'))) (t5 := some (.val (.ptr g1.nx))) (t6 := some (.val (.int i))) (t7 := some (.val (prt a b c q))) (t9 := none) (t10 := t10) (t11 := t11) (t12 := t12) (r := r) (s := s) (l := l) (p := p) s5 (by omega) (by omega) (by omega) n1 n2 (by omega) (vg5.tab n1 n2 n3 tb)
  have pl6 := v6.pl pl5 (by omega) (by omega) (by omega)
  obtain ⟨g7, a10, a11, a12, e8, s7, f7⟩ := S8_ok (t0 := t0) (t2 := t2) (t4 := some (.val (prt r' s' l' p'))) (t6 := some (.val (.int i))) (t7 := some (.val (prt a b c q))) (t8 := some (.val (.lst []))) (t9 := none) (t10 := t10) (t11 := t11) (t12 := t12) P s6 (by omega) pl6 (by omega) (by omega)
  refine ⟨g7, some (.val (prt r s l p)), some (.val (prt r' s' l' p')), some (.val (.ptr g1.nx)), some (.val (.int i)), some (.val (prt a b c q)), some (.val (.lst [])), none, a10, a11, a12, ?_, stok_le s7 (by omega), vg5.trans (v6.trans (Ev.fr f7))⟩
  unfold turnB
  simp [e1, e2, e3, e4, e5, e6, e7, e8]
end
theorem turn_loop (t0 : Option Slot) {ks kl : Nat} : ∀ (ds : List D) (g : GSt) (n : Int) (t2 t3 t4 t5 t6 t7 t8 t9 t10 t11 t12 : Option Slot), StOk g ks kl n → n + 100 * ds.length < 700000 → ks < g.nx → kl < g.nx → TabOk g → ks ≠ 0 → kl ≠ 0 → 0 < g.nx →
    ∃ g' a2 a3 a4 a5 a6 a7 a8 a9 a10 a11 a12, forL (gSet 2) turnB ds ⟨g, [t0, some (.val (.ptr ks)), t2, t3, t4, t5, t6, t7, t8, t9, t10, t11, t12]⟩ = .ok .nx ⟨g', [t0, some (.val (.ptr ks)), a2, a3, a4, a5, a6, a7, a8, a9, a10, a11, a12]⟩ := by
  intro ds
  induction ds with
  | nil => intro g n t2 t3 t4 t5 t6 t7 t8 t9 t10 t11 t12 _ _ _ _ _ _ _ _; exact ⟨g, t2, t3, t4, t5, t6, t7, t8, t9, t10, t11, t12, rfl⟩
  | cons d ds ih =>
    intro g n t2 t3 t4 t5 t6 t7 t8 t9 t10 t11 t12 st hn k1 k2 tb n1 n2 n3
    rw [List.length_cons] at hn
    obtain ⟨g1, b3, b4, b5, b6, b7, b8, b9, b10, b11, b12, e1, s1, v1⟩ := turn_ok (t0 := t0) (t2 := some (.val d)) (t3 := t3) (t4 := t4) (t5 := t5) (t6 := t6) (t7 := t7) (t8 := t8) (t9 := t9) (t10 := t10) (t11 := t11) (t12 := t12) st (by omega) k1 k2 tb n1 n2 n3
    have le := v1.nx
    obtain ⟨g', a2, a3, a4, a5, a6, a7, a8, a9, a10, a11, a12, e2⟩ := ih g1 (n + 100) (some (.val d)) b3 b4 b5 b6 b7 b8 b9 b10 b11 b12 s1 (by omega) (by omega) (by omega) (v1.tab n1 n2 n3 tb) n1 n2 (by omega)
    refine ⟨g', a2, a3, a4, a5, a6, a7, a8, a9, a10, a11, a12, ?_⟩
    rw [← e2, forL_cons]
    simp [turnM, e1]
theorem law_true (ns : List Int) (hl : ns.length ≤ 63) : ∃ g', f_law [.scr ns] (tabsG tabs) = .ok (.bl true) g' := by
  obtain ⟨g1, e1, s1, x1, h1⟩ := begun_at { tabsG tabs with nx := 1 } ns hl
  have tb : TabOk g1 := by
    unfold TabOk
    rw [h1 0 (by decide)]
    rfl
  have e1' : H.f__law_begun [.scr ns] (tabsG tabs) = .ok (.ptr 2) g1 := e1
  obtain ⟨g', a2, a3, a4, a5, a6, a7, a8, a9, a10, a11, a12, e3⟩ := turn_loop (some (.val (.scr ns))) (ks := 2) (kl := 1) (rngL 0 (6 + mn ns.length 24).toNat) g1 3 none none none none none none none none none none none (stok_le s1 (by omega)) (by rw [rngL_length]; unfold mn; split <;> omega) (by rw [x1]; decide) (by rw [x1]; decide) tb (by decide) (by decide) (by rw [x1]; decide)
  refine ⟨g', ?_⟩
  have c1 : -4611686018427387904 ≤ 6 + mn ns.length 24 := by unfold mn; split <;> omega
  have c2 : 6 + mn ns.length 24 < 4611686018427387904 := by unfold mn; split <;> omega
  simp only [turnB, S1, S2, S3, S4, S5, S6, S7, S8, mn] at e3
  simp only [mn] at c1 c2
  simp [f_law, m_law, e_begun, e1', e3, c1, c2]
end L2.VI.K72
namespace L2.VI.K72
open PySem PySem.Spec PyProof.Rows He L2 L2.VI
noncomputable section
abbrev RR : PySem.W.OpenRow := PySem.W.OpenLaw.row PySem.Challenge.rw_wholepaid_k72_plans_and_months
abbrev hk : PySem.W.Hook := hookS 7 tabs sups fa fn gs (exAll exs)
def ob (s : PySem.W.SharedT) : AlS := obsS 7 tabs sups fa fn gs (exAll exs) (HandSHeadRun.getT s)
theorem ob_eq (s : PySem.W.SharedT) : ob s = hk.obs s.abs := obsS_eq (HandSHeadRun.getT_eq s)
def ls0 : List Str := ["_wall", "__name__", "CreditError", "BadBook", "BadNumber", "BadPlan", "LETTERS", "MOST_NAME", "MOST_KINDS", "MOST_RATE", "MOST_LENGTHS", "SHORTEST", "LONGEST", "MOST_MEMORY", "MOST_DAY", "DAY", "STATEMENT", "is_number", "is_number_in", "is_list", "is_name", "are_lengths", "is_kind", "are_kinds", "is_order", "need_number", "Book", "THOUSAND", "MOST_LEAST", "MOST_BALANCE"]
def ls1 : List Str := ["Plan", "need_plan", "need_balance", "month_with", "month", "_law_begun", "_law_mixed", "_law_take", "_law_pick", "_law_parts", "_law_planned", "_law_shown", "_law_is_number", "_law_wrong", "_law_caught", "_law_refused_right", "_law_sum_drawn", "_law_step"]
def loose : List Str := ls0 ++ ls1
theorem run (w : World) : HandSHeadRun.RunEq RR (PySem.W.view RR.prog [51]) hk ob 6000 loose w := by
  intro os
  kernel_rfl
theorem facts {f0 : Addr} {w : World} {K : PySem.W.Frag} {h : Heap} {mg : Str → Option Value} (X : K.In h) (G : h.Ns mainGlobals mg) (c : SaysS sups fa fn gs (exAll exs) K) (hfa : mg ("law" : Str) = some (.ref f0)) :
    (∀ (s : Shared) (v : Value), BindsTo s (fdA K f0) ⟨[v], []⟩ [("_law_script", v)]) ∧ ∀ base : Heap, K.In base → base.Ns mainGlobals mg → (∀ p ∈ tabs, LamX.TabB base mg (codA K p.1) (tabA K p.1)) → FnG PW w K mg base 8 f0 (fdA K f0) ["_law_script"] (spV K 1 f_law) := by
  have C : Ctx K mg := ⟨c, h, X, G⟩
  have e := hfa.symm.trans (C.glo (fa.length - 1) "law" (by rfl))
  cases e
  exact ⟨fun s v => FunD.bindsA (ps := ["_law_script"]) (fun_law C) (fun _ _ _ _ _ _ us hl => match us, hl with | [_], _ => rfl) s [v] rfl, fun base _ _ TB => ok_law C TB⟩
end
end L2.VI.K72
open PySem PySem.W PySem.Calls PyProof.Rows
theorem L2.VI.K72.holds_of (pure : ∀ ns : List Int, ns.length ≤ 63 → ∃ g', L2.VI.K72.f_law [.scr ns] (tabsG L2.VI.K72.tabs) = .ok (.bl true) g') : PySem.Challenge.rw_wholepaid_k72_plans_and_months.Holds := by
  w_on; o_law
  refine HandSHeadRun.head_any (r := OpenLaw.row PySem.Challenge.rw_wholepaid_k72_plans_and_months) (q := view (OpenLaw.row PySem.Challenge.rw_wholepaid_k72_plans_and_months).prog [51]) (H := L2.VI.K72.hk) (ob := L2.VI.K72.ob) (M := 6000) (loose := L2.VI.K72.loose) (d := HandSHeadRun.topDef (OpenLaw.row PySem.Challenge.rw_wholepaid_k72_plans_and_months).prog 51) (kwd := []) L2.VI.K72.ob_eq
    (by kernel_rfl) (fun s => by kernel_rfl) L2.VI.K72.run (by kernel_rfl) (by kernel_rfl) (by kernel_rfl) (by rfl) (by first | assumption | decide +kernel) (by decide +kernel) ⟨rfl, rfl, rfl, rfl, rfl, by decide +kernel⟩ ?hw ?hc
  case hw => w_witness2
  case hc =>
    refine L2.VI.walkGT (ts := L2.VI.K72.tabs) (l := PySem.Challenge.rw_wholepaid_k72_plans_and_months) (n := 63) (lv := 8) (x := "_law_script") (law := L2.VI.K72.f_law) rfl (by decide) (by kernel_rfl) ⟨rfl, by decide, by decide⟩ ?F
    intro w mg fa h Y G hmg0
    obtain ⟨K, KX, c, T⟩ := Y
    have hmg : mg ("law" : PySem.Str) = some (.ref fa) := by
      have e : (HandSHeadRun.topDef (OpenLaw.row PySem.Challenge.rw_wholepaid_k72_plans_and_months).prog 51).name = ("law" : PySem.Str) := by kernel_rfl
      rw [← e]
      exact hmg0
    obtain ⟨hb, hF⟩ := L2.VI.K72.facts (w := w) KX G c hmg
    exact ⟨K, KX, T, _, hb, pure, hF⟩
open PySem PySem.W PyProof.Rows
theorem PySem.Challenge.cw_wholepaid_k72_plans_and_months_holds : PySem.Challenge.rw_wholepaid_k72_plans_and_months.Holds := by
  exact L2.VI.K72.holds_of L2.VI.K72.law_true
