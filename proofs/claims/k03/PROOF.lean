import PyProof.Rows.All
import Wide.All
import OpenK.AllK
import Wide.FinOn
import HandS.ForMost
import HandS.Wide
import HandS.Style
import HandS.Flow
import HandS.Exc
import HandS.Defaults
import HandS.WordsExc
import HandS.HeadEnd
import HandS.Head0
import HandS.Head1
import HandS.HeadHook1
import HandS.HeadHook2
import HandS.TupAny
import HandS.List
import HandS.Codes
import HandS.Deep
import HandS.Strs
import HandS.Replace
import HandS.Star
import HandS.IsInst
import HandS.Small
import HandS.Property
import HandS.More
import PyProof.ReprLen
import PyProof.ReprRoads
import KE.GoesMore
import KE.GoesEnum
import KE.GoesZip
import HandS.DictComp
import KE.KUnpackStar
import HandS.Text
import HandS.MethStar
import KE.LtData
import HandS.Head2
import HandS.TryOnly
import PyProof.GenQ
import HandS.GenOver
import HandS.GenList
import HandS.ClsMeth
import HandS.WordsDict
import KE.SortData
import HandS.Conv
import HandS.SetFor
import HandS.More
import HandS.TupSets
import KE.SortData
import HandS.TupSets
import KE.KxMul
import KE.KeyNested
import PySem.Challenge.RW_coarseclock_k03_orders_and_cells
set_option Elab.async false
set_option linter.all false
set_option maxRecDepth 100000
set_option maxHeartbeats 4000000
set_option autoImplicit false

/-! A deterministic layer over HandS: expressions and statements denote functions on plain data (D) and a store of mutable cells. -/
namespace DM
open PySem PySem.Spec L2

inductive D where
  | non | bl (b : Bool) | int (i : Int) | str (x : Str) | tup (xs : List D) | lst (xs : List D) | fl (xs : List D) | ref (i : Nat)
instance : Inhabited D := ⟨.non⟩
inductive Ob where
  | lst (xs : List D) | obj (C : Str) (fs : List (Str × D)) | dct (kvs : List (Key × D)) | dcl (kvs : List (Key × D)) | dtt (kvs : List (List Key × D))
  | exc (C : Str) (fs : List (Str × D)) | tab (x : Str) | dnk (kvs : List (List D × D))
abbrev Store := List Ob
abbrev Rho := List (Option D)
structure Ex where
  cls : Str
  fs : List (Str × D)

/-! ### equality of data -/
mutual
def D.beq : D → D → Bool
  | .non, .non => true
  | .bl a, .bl b => a == b
  | .int a, .int b => a == b
  | .str a, .str b => a == b
  | .tup a, .tup b => beqs a b
  | .lst a, .lst b => beqs a b
  | .fl a, .fl b => beqs a b
  | .ref a, .ref b => a == b
  | _, _ => false
def beqs : List D → List D → Bool
  | [], [] => true
  | a :: r, b :: t => a.beq b && beqs r t
  | _, _ => false
end
mutual
theorem D.beq_eq : ∀ a b : D, a.beq b = true → a = b
  | .non, b, h => by cases b <;> simp_all [D.beq]
  | .bl a, b, h => by cases b <;> simp_all [D.beq]
  | .int a, b, h => by cases b <;> simp_all [D.beq]
  | .str a, b, h => by cases b <;> simp_all [D.beq]
  | .tup a, b, h => by cases b <;> simp_all [D.beq]; exact beqs_eq _ _ h
  | .lst a, b, h => by cases b <;> simp_all [D.beq]; exact beqs_eq _ _ h
  | .fl a, b, h => by cases b <;> simp_all [D.beq]; exact beqs_eq _ _ h
  | .ref a, b, h => by cases b <;> simp_all [D.beq]
theorem beqs_eq : ∀ a b : List D, beqs a b = true → a = b
  | [], b, h => by cases b <;> simp_all [beqs]
  | x :: r, b, h => by
    cases b with
    | nil => simp [beqs] at h
    | cons y t =>
      simp only [beqs, Bool.and_eq_true] at h
      rw [D.beq_eq x y h.1, beqs_eq r t h.2]
end
mutual
theorem D.beq_rfl : ∀ a : D, a.beq a = true
  | .non => rfl
  | .bl a => by simp [D.beq]
  | .int a => by simp [D.beq]
  | .str a => by simp [D.beq]
  | .tup a => by simp only [D.beq]; exact beqs_rfl a
  | .lst a => by simp only [D.beq]; exact beqs_rfl a
  | .fl a => by simp only [D.beq]; exact beqs_rfl a
  | .ref a => by simp [D.beq]
theorem beqs_rfl : ∀ a : List D, beqs a a = true
  | [] => rfl
  | x :: r => by simp only [beqs, D.beq_rfl x, beqs_rfl r, Bool.and_true]
end
instance : DecidableEq D := fun a b => if h : a.beq b = true then .isTrue (D.beq_eq a b h) else .isFalse (fun e => h (by rw [e]; exact D.beq_rfl b))

/-! ### the worlds' relation -/
/-- a tuple: made here (its object is known, it has no dict), or written -/
def TupAt (K : PySem.W.Frag) (ι : List Addr) (H : Hp) (a : Addr) (vs : List V) : Prop :=
  ((∃ o, H a = some (.frz o (.tup vs)) ∧ o.dict = none) ∧ a ∉ ι) ∨
    (∃ (o : Obj) (its : Array Value) (n : Nat), K.lookup a = some o ∧ o.cls = .type "tuple" ∧ o.dict = none ∧ o.data = .seq its n ∧ its.size ≤ sizeLine ∧ Vals vs its.toList) ∨
    (H a = some (.tup vs) ∧ a ∉ ι ∧ ∃ i, V.int i ∈ vs)
/-- a list that nobody changes any more -/
def LstAt (ι : List Addr) (H : Hp) (a : Addr) (vs : List V) : Prop := H a = some (.lst vs) ∧ a ∉ ι
/-- the script, or a list of the module's -/
def FlAt (K : PySem.W.Frag) (ι : List Addr) (H : Hp) (a : Addr) (vs : List V) : Prop :=
  ((∃ o, H a = some (.frz o (.lst vs))) ∧ a ∉ ι) ∨
    ∃ (o : Obj) (its : Array Value) (n : Nat), K.lookup a = some o ∧ o.cls = .type "list" ∧ o.dict = none ∧ o.data = .seq its n ∧ its.size ≤ sizeLine ∧ Vals vs its.toList
theorem TupAt.sq {K : PySem.W.Frag} {ι : List Addr} {H : Hp} {a : Addr} {vs : List V} (h : TupAt K ι H a vs) : SqT K H a vs := by
  rcases h with ⟨⟨o, h, _⟩, _⟩ | ⟨o, its, n, h1, h2, _, h3⟩ | ⟨h, _⟩
  · exact .inl (.inr ⟨o, h⟩)
  · exact .inr ⟨o, its, n, h1, h2, h3⟩
  · exact .inl (.inl h)
theorem LstAt.sq {K : PySem.W.Frag} {ι : List Addr} {H : Hp} {a : Addr} {vs : List V} (h : LstAt ι H a vs) : SqL K H a vs := .inl (.inl h.1)
theorem FlAt.sq {K : PySem.W.Frag} {ι : List Addr} {H : Hp} {a : Addr} {vs : List V} (h : FlAt K ι H a vs) : SqL K H a vs := h.elim (fun z => .inl (.inr z.1)) .inr
mutual
inductive VR (K : PySem.W.Frag) (ι : List Addr) (H : Hp) : V → D → Prop
  | non : VR K ι H .non .non
  | bl (b : Bool) : VR K ι H (.bl b) (.bl b)
  | int (i : Int) : VR K ι H (.int i) (.int i)
  | str (x : Str) : VR K ι H (.str x) (.str x)
  | tup {a : Addr} {vs : List V} {ds : List D} (h : TupAt K ι H a vs) (r : VRs K ι H vs ds) : VR K ι H (.ref a) (.tup ds)
  | lst {a : Addr} {vs : List V} {ds : List D} (h : LstAt ι H a vs) (r : VRs K ι H vs ds) : VR K ι H (.ref a) (.lst ds)
  | fl {a : Addr} {vs : List V} {ds : List D} (h : FlAt K ι H a vs) (r : VRs K ι H vs ds) : VR K ι H (.ref a) (.fl ds)
  | ref {a : Addr} {i : Nat} (h : ι[i]? = some a) : VR K ι H (.ref a) (.ref i)
inductive VRs (K : PySem.W.Frag) (ι : List Addr) (H : Hp) : List V → List D → Prop
  | nil : VRs K ι H [] []
  | cons {v : V} {d : D} {vs : List V} {ds : List D} (h : VR K ι H v d) (r : VRs K ι H vs ds) : VRs K ι H (v :: vs) (d :: ds)
end
structure Le (ι : List Addr) (H : Hp) (ι' : List Addr) (H' : Hp) : Prop where
  pre : ∀ (i : Nat) a, ι[i]? = some a → ι'[i]? = some a
  new : ∀ a, a ∈ ι' → a ∉ ι → H a = none
  keep : ∀ a o, a ∉ ι → H a = some o → H' a = some o
  frz : ∀ a o u, H a = some (.frz o u) → H' a = some (.frz o u)
theorem Le.refl (ι : List Addr) (H : Hp) : Le ι H ι H := ⟨fun _ _ h => h, fun _ h n => absurd h n, fun _ _ _ h => h, fun _ _ _ h => h⟩
theorem Le.out {ι ι' : List Addr} {H H' : Hp} (l : Le ι H ι' H') {a : Addr} {o : HO} (n : a ∉ ι) (h : H a = some o) : a ∉ ι' := fun m => by
  rw [l.new a m n] at h; cases h
theorem Le.trans {ι ι1 ι2 : List Addr} {H H1 H2 : Hp} (l : Le ι H ι1 H1) (m : Le ι1 H1 ι2 H2) : Le ι H ι2 H2 := by
  refine ⟨fun i a h => m.pre i a (l.pre i a h), fun a h n => ?_, fun a o n h => m.keep a o (l.out n h) (l.keep a o n h), fun a o u h => m.frz a o u (l.frz a o u h)⟩
  by_cases z : a ∈ ι1
  · exact l.new a z n
  · cases e : H a with
    | none => rfl
    | some o =>
      have q := l.keep a o n e
      rw [m.new a h z] at q; cases q
theorem TupAt.mono {K : PySem.W.Frag} {ι ι' : List Addr} {H H' : Hp} {a : Addr} {vs : List V} (l : Le ι H ι' H') (h : TupAt K ι H a vs) : TupAt K ι' H' a vs := by
  rcases h with ⟨⟨o, h, d⟩, n⟩ | h | ⟨h, n, q⟩
  · exact .inl ⟨⟨o, l.keep _ _ n h, d⟩, l.out n h⟩
  · exact .inr (.inl h)
  · exact .inr (.inr ⟨l.keep _ _ n h, l.out n h, q⟩)
theorem LstAt.mono {ι ι' : List Addr} {H H' : Hp} {a : Addr} {vs : List V} (l : Le ι H ι' H') (h : LstAt ι H a vs) : LstAt ι' H' a vs := ⟨l.keep _ _ h.2 h.1, l.out h.2 h.1⟩
theorem FlAt.mono {K : PySem.W.Frag} {ι ι' : List Addr} {H H' : Hp} {a : Addr} {vs : List V} (l : Le ι H ι' H') (h : FlAt K ι H a vs) : FlAt K ι' H' a vs := by
  rcases h with ⟨⟨o, h⟩, n⟩ | h
  · exact .inl ⟨⟨o, l.keep _ _ n h⟩, l.out n h⟩
  · exact .inr h
mutual
theorem VR.mono {K : PySem.W.Frag} {ι ι' : List Addr} {H H' : Hp} (l : Le ι H ι' H') : ∀ {v : V} {d : D}, VR K ι H v d → VR K ι' H' v d
  | _, _, .non => .non
  | _, _, .bl b => .bl b
  | _, _, .int i => .int i
  | _, _, .str x => .str x
  | _, _, .tup h r => .tup (h.mono l) (VRs.mono l r)
  | _, _, .lst h r => .lst (h.mono l) (VRs.mono l r)
  | _, _, .fl h r => .fl (h.mono l) (VRs.mono l r)
  | _, _, .ref h => .ref (l.pre _ _ h)
theorem VRs.mono {K : PySem.W.Frag} {ι ι' : List Addr} {H H' : Hp} (l : Le ι H ι' H') : ∀ {vs : List V} {ds : List D}, VRs K ι H vs ds → VRs K ι' H' vs ds
  | _, _, .nil => .nil
  | _, _, .cons h r => .cons (VR.mono l h) (VRs.mono l r)
end
section
variable {K : PySem.W.Frag} {ι : List Addr} {H : Hp}
theorem VRs.length : ∀ {vs : List V} {ds : List D}, VRs K ι H vs ds → vs.length = ds.length
  | _, _, .nil => rfl
  | _, _, .cons _ r => by rw [List.length_cons, List.length_cons, VRs.length r]
theorem VRs.get : ∀ {vs : List V} {ds : List D} {i : Nat} {d : D}, VRs K ι H vs ds → ds[i]? = some d → ∃ v, vs[i]? = some v ∧ VR K ι H v d
  | _, _, _, _, .nil, e => by simp at e
  | _, _, 0, _, .cons h _, e => by simp at e; subst e; exact ⟨_, rfl, h⟩
  | _, _, i + 1, d, .cons _ t, e => by
    obtain ⟨u, h1, h2⟩ := VRs.get (i := i) (d := d) t (by simpa using e)
    exact ⟨u, by simpa using h1, h2⟩
theorem VRs.set {v : V} {d : D} (h : VR K ι H v d) : ∀ {vs : List V} {ds : List D} (i : Nat), VRs K ι H vs ds → VRs K ι H (vs.set i v) (ds.set i d)
  | _, _, _, .nil => .nil
  | _, _, 0, .cons _ t => .cons h t
  | _, _, i + 1, .cons q t => .cons q (VRs.set h i t)
theorem VRs.append : ∀ {vs ws : List V} {ds es : List D}, VRs K ι H vs ds → VRs K ι H ws es → VRs K ι H (vs ++ ws) (ds ++ es)
  | _, _, _, _, .nil, s => s
  | _, _, _, _, .cons r t, s => .cons r (VRs.append t s)
theorem VRs.take : ∀ {vs : List V} {ds : List D} (n : Nat), VRs K ι H vs ds → VRs K ι H (vs.take n) (ds.take n)
  | _, _, 0, _ => .nil
  | _, _, _ + 1, .nil => .nil
  | _, _, n + 1, .cons r t => .cons r (VRs.take n t)
theorem VRs.drop : ∀ {vs : List V} {ds : List D} (n : Nat), VRs K ι H vs ds → VRs K ι H (vs.drop n) (ds.drop n)
  | _, _, 0, r => r
  | _, _, _ + 1, .nil => .nil
  | _, _, n + 1, .cons _ t => VRs.drop n t
end
/-- an exception's object of this class, with this dict -/
def ExA (H : Hp) (a : Addr) (cls : Value) (d : Option Addr) : Prop := ∃ (oe : Obj) (vs : Array Value), H a = some (.frz oe (.ext fun h => h.get? a = some oe)) ∧ (oe.cls = cls ∧ oe.dict = d) ∧ oe.data = .fields vs
/-- the object at c is a code object of this name -/
def codO (c : Addr) (q : Str) : HO := .ext fun h => ∃ (o : Obj) (fs : Array Value) (tk : Tok), h.get? c = some o ∧ o.data = .fields fs ∧ fs[1]? = some (.str q tk)
/-- a table of code objects, all of this name, none of them a cell -/
def TabC (ι : List Addr) (H : Hp) (P : Addr) (q : Str) : Prop := ∃ ps : Array Value, H P = some (.tbl ps) ∧ TriplesOk ps.toList ∧ ∀ (pos : Pos) (cv : Value), codeAmong pos ps.toList = some cv → ∃ c, cv = .ref c ∧ H c = some (codO c q) ∧ c ∉ ι
/-- the table of code objects of a def of the module; its lambdas' name -/
def tabA (K : PySem.W.Frag) (x : Str) : Addr := ((PySem.W.tabIn K x).map (·.2)).getD 0
def lamQ (x : Str) : Str := x ++ PySem.Str.ofString ".<locals>." ++ "<lambda>"
/-! a dict whose keys are tuples of whole numbers, truth values and None -/
def nkD : D → NestedKey
  | .bl b => .num (if b = true then 1 else 0)
  | .int i => .num i
  | _ => .none
def nkT (ds : List D) : NestedKey := .tup (ds.map nkD)
def atomK : D → Bool
  | .non => true
  | .bl _ => true
  | .int _ => true
  | _ => false
def dnP (a : Addr) (ks : List NestedKey) (bs : List Addr) (vs : List V) : Heap → Prop := fun h => (a == sysModules) = false ∧ ∃ o es ep us, h.get? a = some o ∧ o.ExactDict ∧ o.data = .dict es ep ∧ Vals vs us ∧ ∀ (P : Program) (w : World), es.toList = (ks.zip (bs.zip us)).map (entryOfKey (nestedKind P w))
def OR (K : PySem.W.Frag) (ι : List Addr) (H : Hp) (a : Addr) : Ob → Prop
  | .lst ds => ∃ vs, H a = some (.lst vs) ∧ VRs K ι H vs ds
  | .obj C fs => ∃ dx gs, H a = some (.ins (He.ga K C) dx gs) ∧ gs.map (·.1) = fs.map (·.1) ∧ VRs K ι H (gs.map (·.2)) (fs.map (·.2)) ∧ Cls K (He.ga K C) ∧ ∀ f ∈ fs.map (·.1), NoAttr K (He.ga K C) f
  | .dct kvs => ∃ qs, H a = some (.dK qs) ∧ qs.map (·.1) = kvs.map (·.1) ∧ VRs K ι H (qs.map (·.2)) (kvs.map (·.2))
  | .dcl kvs => ∃ o qs, H a = some (.frz o (.dK qs)) ∧ qs.map (·.1) = kvs.map (·.1) ∧ VRs K ι H (qs.map (·.2)) (kvs.map (·.2))
  | .dtt kvs => ∃ qs, H a = some (.dT qs) ∧ qs.map (·.1) = kvs.map (·.1) ∧ VRs K ι H (qs.map (·.2)) (kvs.map (·.2))
  | .exc C fs => ∃ d gs, ExA H a (.ref (He.ga K C)) (some d) ∧ H d = some (.xd gs) ∧ d ∉ ι ∧ gs.map (·.1) = fs.map (·.1) ∧ VRs K ι H (gs.map (·.2)) (fs.map (·.2))
  | .tab x => a = tabA K x ∧ TabC ι H a (lamQ x)
  | .dnk kvs => ∃ bs vs, H a = some (.ext (dnP a (kvs.map fun kv => nkT kv.1) bs vs)) ∧ VRs K ι H (bs.map V.ref) (kvs.map fun kv => D.tup kv.1) ∧ VRs K ι H vs (kvs.map (·.2)) ∧ (kvs.all fun kv => kv.1.all atomK) = true ∧ (kvs.map fun kv => nkT kv.1).Nodup
theorem OR.mkL {K : PySem.W.Frag} {ι : List Addr} {H : Hp} {a : Addr} {vs : List V} {ds : List D} (h : H a = some (.lst vs)) (r : VRs K ι H vs ds) : OR K ι H a (.lst ds) := ⟨vs, h, r⟩
structure WF (K : PySem.W.Frag) (ι : List Addr) (μ : Store) (H : Hp) : Prop where
  len : ι.length = μ.length
  nd : ι.Nodup
  ob : ∀ (i : Nat) a o, ι[i]? = some a → μ[i]? = some o → OR K ι H a o
theorem OR.has {K : PySem.W.Frag} {ι : List Addr} {H : Hp} {a : Addr} {o : Ob} (h : OR K ι H a o) : ∃ u, H a = some u := by
  cases o with
  | lst ds => obtain ⟨vs, e, _⟩ := h; exact ⟨_, e⟩
  | obj C fs => obtain ⟨dx, gs, e, _⟩ := h; exact ⟨_, e⟩
  | dct kvs => obtain ⟨qs, e, _⟩ := h; exact ⟨_, e⟩
  | dcl kvs => obtain ⟨o, qs, e, _⟩ := h; exact ⟨_, e⟩
  | dtt kvs => obtain ⟨qs, e, _⟩ := h; exact ⟨_, e⟩
  | exc C fs => obtain ⟨d, gs, ⟨_, _, e, _⟩, _⟩ := h; exact ⟨_, e⟩
  | tab tx => obtain ⟨_, ps, e, _⟩ := h; exact ⟨_, e⟩
  | dnk kvs => obtain ⟨bs, vs, e, _⟩ := h; exact ⟨_, e⟩
theorem WF.has {K : PySem.W.Frag} {ι : List Addr} {μ : Store} {H : Hp} (w : WF K ι μ H) {i : Nat} {a : Addr} (h : ι[i]? = some a) : ∃ o, μ[i]? = some o ∧ OR K ι H a o := by
  have hl : i < μ.length := by rw [← w.len]; exact (List.getElem?_eq_some_iff.mp h).1
  exact ⟨_, List.getElem?_eq_getElem hl, w.ob i a _ h (List.getElem?_eq_getElem hl)⟩
theorem WF.at {K : PySem.W.Frag} {ι : List Addr} {μ : Store} {H : Hp} (w : WF K ι μ H) {i : Nat} {o : Ob} (h : μ[i]? = some o) : ∃ a, ι[i]? = some a ∧ OR K ι H a o := by
  have hl : i < ι.length := by rw [w.len]; exact (List.getElem?_eq_some_iff.mp h).1
  exact ⟨_, List.getElem?_eq_getElem hl, w.ob i _ o (List.getElem?_eq_getElem hl) h⟩
theorem WF.out {K : PySem.W.Frag} {ι : List Addr} {μ : Store} {H : Hp} (w : WF K ι μ H) {p : Addr} (h : H p = none) : p ∉ ι := fun m => by
  obtain ⟨i, hi⟩ := List.getElem?_of_mem m
  obtain ⟨o, _, q⟩ := w.has hi
  obtain ⟨u, e⟩ := q.has
  rw [h] at e; cases e
theorem OR.mono {K : PySem.W.Frag} {ι ι' : List Addr} {H H' : Hp} {a : Addr} {o : Ob} (l : Le ι H ι' H') (e : H' a = H a) (h : OR K ι H a o) : OR K ι' H' a o := by
  cases o with
  | lst ds => obtain ⟨vs, q, r⟩ := h; exact ⟨vs, e.trans q, r.mono l⟩
  | obj C fs => obtain ⟨dx, gs, q, k, r, z⟩ := h; exact ⟨dx, gs, e.trans q, k, r.mono l, z⟩
  | dct kvs => obtain ⟨qs, q, k, r⟩ := h; exact ⟨qs, e.trans q, k, r.mono l⟩
  | dcl kvs => obtain ⟨o, qs, q, k, r⟩ := h; exact ⟨o, qs, e.trans q, k, r.mono l⟩
  | dtt kvs => obtain ⟨qs, q, k, r⟩ := h; exact ⟨qs, e.trans q, k, r.mono l⟩
  | exc C fs => obtain ⟨d, gs, ⟨oe, vs, q, z⟩, q2, n, k, r⟩ := h; exact ⟨d, gs, ⟨oe, vs, e.trans q, z⟩, l.keep _ _ n q2, l.out n q2, k, r.mono l⟩
  | tab tx => obtain ⟨z, ps, q1, q2, q3⟩ := h; exact ⟨z, ps, e.trans q1, q2, fun pos cv hc => let ⟨c, a1, a2, a3⟩ := q3 pos cv hc; ⟨c, a1, l.keep _ _ a3 a2, l.out a3 a2⟩⟩
  | dnk kvs => obtain ⟨bs, vs, q, k, r, z⟩ := h; exact ⟨bs, vs, e.trans q, k.mono l, r.mono l, z⟩
/-- a new thing at p that is no cell -/
theorem Le.laid {ι : List Addr} {H : Hp} {p : Addr} {o : HO} (h : H p = none) : Le ι H ι (upd H p o) :=
  ⟨fun _ _ h => h, fun _ h n => absurd h n, fun a o _ e => by rw [upd_ne (ne_of_none e h)]; exact e, fun a o u e => by rw [upd_ne (ne_of_none e h)]; exact e⟩
theorem WF.laid {K : PySem.W.Frag} {ι : List Addr} {μ : Store} {H : Hp} {p : Addr} {o : HO} (w : WF K ι μ H) (h : H p = none) : WF K ι μ (upd H p o) :=
  ⟨w.len, w.nd, fun i a u hi hu => (w.ob i a u hi hu).mono (Le.laid h) (upd_ne (fun e => w.out h (by rw [← e]; exact List.mem_of_getElem? hi)))⟩
/-- a new cell at p -/
theorem Le.cell {ι : List Addr} {H : Hp} {p : Addr} {o : HO} (h : H p = none) : Le ι H (ι ++ [p]) (upd H p o) := by
  refine ⟨fun i a e => ?_, fun a m n => ?_, fun a o _ e => by rw [upd_ne (ne_of_none e h)]; exact e, fun a o u e => by rw [upd_ne (ne_of_none e h)]; exact e⟩
  · rw [List.getElem?_append_left (List.getElem?_eq_some_iff.mp e).1]; exact e
  · rcases List.mem_append.mp m with z | z
    · exact absurd z n
    · rw [List.mem_singleton.mp z]; exact h
theorem WF.cell {K : PySem.W.Frag} {ι : List Addr} {μ : Store} {H : Hp} {p : Addr} {o : HO} {u : Ob} (w : WF K ι μ H) (h : H p = none) (q : OR K (ι ++ [p]) (upd H p o) p u) : WF K (ι ++ [p]) (μ ++ [u]) (upd H p o) := by
  have np := w.out h
  refine ⟨by simp [w.len], ?_, fun i a v hi hv => ?_⟩
  · rw [List.nodup_append]
    exact ⟨w.nd, by simp, fun a ha b hb e => np (by rw [List.mem_singleton.mp hb] at e; rw [← e]; exact ha)⟩
  · by_cases hl : i < ι.length
    · rw [List.getElem?_append_left hl] at hi
      rw [List.getElem?_append_left (by rw [← w.len]; exact hl)] at hv
      exact (w.ob i a v hi hv).mono (Le.cell h) (upd_ne (fun e => np (by rw [← e]; exact List.mem_of_getElem? hi)))
    · have e : i = ι.length := by
        have := (List.getElem?_eq_some_iff.mp hi).1
        simp at this; omega
      subst e
      have hi' : a = p := by simpa using hi.symm
      rw [w.len] at hv
      have hv' : v = u := by simpa using hv.symm
      subst hi'; subst hv'
      exact q
/-- a cell's content changed -/
def noFrz : HO → Bool
  | .frz _ _ => false
  | _ => true
def NF (H : Hp) (a : Addr) : Prop := ∀ o u, H a ≠ some (.frz o u)
theorem nf {H : Hp} {a : Addr} {u : HO} (e : H a = some u) (h : noFrz u = true := by rfl) : NF H a := fun o v z => by
  rw [e] at z; cases z; cases h
theorem Le.set {ι : List Addr} {H : Hp} {i : Nat} {a : Addr} {o : HO} (hi : ι[i]? = some a) (hn : NF H a) : Le ι H ι (upd H a o) := by
  refine ⟨fun _ _ h => h, fun _ h n => absurd h n, fun b u n e => ?_, fun b o' u' e => by rw [upd_ne (fun z => hn o' u' (by rw [← z]; exact e))]; exact e⟩
  have z : b ≠ a := fun z => n (by rw [z]; exact List.mem_of_getElem? hi)
  rw [upd_ne z]
  exact e
theorem WF.set {K : PySem.W.Frag} {ι : List Addr} {μ : Store} {H : Hp} {i : Nat} {a : Addr} {o : HO} {u : Ob} (w : WF K ι μ H) (hi : ι[i]? = some a) (hn : NF H a) (q : OR K ι (upd H a o) a u) : WF K ι (μ.set i u) (upd H a o) := by
  refine ⟨by simp [w.len], w.nd, fun j b v hj hv => ?_⟩
  by_cases e : i = j
  · subst e
    rw [hi] at hj
    cases hj
    have hl : i < μ.length := by rw [← w.len]; exact (List.getElem?_eq_some_iff.mp hi).1
    rw [List.getElem?_set_self hl] at hv
    cases hv
    exact q
  · rw [List.getElem?_set_ne e] at hv
    refine (w.ob j b v hj hv).mono (Le.set hi hn) (upd_ne fun z => ?_)
    subst z
    have h1 := List.getElem?_eq_some_iff.mp hi
    have h2 := List.getElem?_eq_some_iff.mp hj
    exact e ((List.getElem_inj w.nd).mp (h1.2.trans h2.2.symm))
structure SR (K : PySem.W.Frag) (ι : List Addr) (H : Hp) (σ : L2.St) (ρ : Rho) : Prop where
  len : σ.length = ρ.length
  at' : ∀ (i : Nat) (d : D), ρ[i]? = some (some d) → ∃ v, σ[i]? = some (some v) ∧ VR K ι H v d
theorem SR.mono {K : PySem.W.Frag} {ι ι' : List Addr} {H H' : Hp} {σ : L2.St} {ρ : Rho} (l : Le ι H ι' H') (s : SR K ι H σ ρ) : SR K ι' H' σ ρ :=
  ⟨s.len, fun i d h => let ⟨v, a, b⟩ := s.at' i d h; ⟨v, a, b.mono l⟩⟩
theorem SR.set {K : PySem.W.Frag} {ι : List Addr} {H : Hp} {σ : L2.St} {ρ : Rho} {v : V} {d : D} (s : SR K ι H σ ρ) (i : Nat) (h : VR K ι H v d) : SR K ι H (σ.set i (some v)) (ρ.set i (some d)) := by
  refine ⟨by simp [s.len], fun j e hj => ?_⟩
  by_cases z : i = j
  · subst z
    have hl : i < (ρ.set i (some d)).length := (List.getElem?_eq_some_iff.mp hj).1
    rw [List.length_set] at hl
    rw [List.getElem?_set_self hl] at hj
    cases hj
    exact ⟨v, List.getElem?_set_self (by rw [s.len]; exact hl), h⟩
  · rw [List.getElem?_set_ne z] at hj
    obtain ⟨w, a, b⟩ := s.at' j e hj
    exact ⟨w, by rw [List.getElem?_set_ne z]; exact a, b⟩
end DM

namespace DM
open PySem PySem.Spec L2

abbrev Res (α : Type) := Option (Except Ex α × Store)
abbrev CM (α : Type) := Rho → Store → Res α
/-- what is wanted of an exception: the exception, the cells, the slots, the heap -/
abbrev DW := Ex → List Addr → L2.St → Hp → Prop
abbrev noX : DW := fun _ _ _ _ => False
def CM.bind {α β : Type} (A : CM α) (F : α → CM β) : CM β := fun ρ μ => match A ρ μ with
  | some (.ok a, μ1) => F a ρ μ1
  | some (.error x, μ1) => some (.error x, μ1)
  | none => none
def CM.ret {α : Type} (a : α) : CM α := fun _ μ => some (.ok a, μ)
section
variable {α β γ δ : Type}
def PostG (R : List Addr → Hp → β → α → Prop) (K : PySem.W.Frag) (W : DW) (σ : L2.St) (ι : List Addr) (H : Hp) (Q : β → Hp → Prop) : Res α → Prop
  | some (.ok d, μ') => ∀ ι' H' v, Le ι H ι' H' → WF K ι' μ' H' → R ι' H' v d → Q v H'
  | some (.error x, μ') => ∀ ι' H', Le ι H ι' H' → WF K ι' μ' H' → W x ι' σ H'
  | none => False
def tG (R : List Addr → Hp → β → α → Prop) (K : PySem.W.Frag) (W : DW) (E : CM α) : L2.St → Hp → (β → Hp → Prop) → Prop := fun σ H Q =>
  ∃ ρ ι μ, SR K ι H σ ρ ∧ WF K ι μ H ∧ PostG R K W σ ι H Q (E ρ μ)
variable {R : List Addr → Hp → β → α → Prop} {R2 : List Addr → Hp → δ → γ → Prop} {K : PySem.W.Frag} {W : DW} {σ : L2.St} {ι : List Addr} {H : Hp} {Q Q' : β → Hp → Prop} {Q2 : δ → Hp → Prop} {ρ : Rho} {μ : Store}
theorem PostG.mono {r : Res α} (h : PostG R K W σ ι H Q r) (q : ∀ v H', Q v H' → Q' v H') : PostG R K W σ ι H Q' r := by
  match r, h with
  | some (.ok d, μ'), h => exact fun ι' H' v a b c => q _ _ (h ι' H' v a b c)
  | some (.error x, μ'), h => exact h
theorem PostG.from {r : Res α} {ι0 : List Addr} {H0 : Hp} (l : Le ι0 H0 ι H) (h : PostG R K W σ ι0 H0 Q r) : PostG R K W σ ι H Q r := by
  match r, h with
  | some (.ok d, μ'), h => exact fun ι' H' v a b c => h ι' H' v (l.trans a) b c
  | some (.error x, μ'), h => exact fun ι' H' a b => h ι' H' (l.trans a) b
theorem tG.mono {E : CM α} (h : tG R K W E σ H Q) (q : ∀ v H', Q v H' → Q' v H') : tG R K W E σ H Q' := by
  obtain ⟨ρ, ι, μ, a, b, c⟩ := h
  exact ⟨ρ, ι, μ, a, b, c.mono q⟩
theorem PostG.bindP {A : CM α} {F : α → CM γ} (h : PostG R2 K W σ ι H Q2 ((A.bind F) ρ μ)) :
    PostG R K W σ ι H (fun x H1 => ∃ ι1 μ1 a, Le ι H ι1 H1 ∧ WF K ι1 μ1 H1 ∧ R ι1 H1 x a ∧ PostG R2 K W σ ι1 H1 Q2 (F a ρ μ1)) (A ρ μ) := by
  unfold CM.bind at h
  match A ρ μ, h with
  | some (.ok a, μ1), h => exact fun ι' H' v l w r => ⟨ι', μ1, a, l, w, r, PostG.from l h⟩
  | some (.error x, μ1), h => exact h
theorem PostG.bind {A : CM α} {F : α → CM γ} (sr : SR K ι H σ ρ) (wf : WF K ι μ H) (h : PostG R2 K W σ ι H Q2 ((A.bind F) ρ μ)) :
    tG R K W A σ H (fun x H1 => ∃ ι1 μ1 a, Le ι H ι1 H1 ∧ WF K ι1 μ1 H1 ∧ R ι1 H1 x a ∧ PostG R2 K W σ ι1 H1 Q2 (F a ρ μ1)) := ⟨ρ, ι, μ, sr, wf, h.bindP⟩
/-- what the world answers -/
theorem PostG.ok {d : α} {v : β} {μ' : Store} {ι' : List Addr} {H' : Hp} (h : PostG R K W σ ι H Q (some (.ok d, μ'))) (l : Le ι H ι' H') (w : WF K ι' μ' H') (r : R ι' H' v d) : Q v H' := h ι' H' v l w r
theorem PostG.ok0 {d : α} {v : β} (h : PostG R K W σ ι H Q (some (.ok d, μ))) (w : WF K ι μ H) (r : R ι H v d) : Q v H := h ι H v (Le.refl _ _) w r
end
abbrev eR (K : PySem.W.Frag) := VR K
abbrev aR (K : PySem.W.Frag) := VRs K
abbrev bR : List Addr → Hp → Bool → Bool → Prop := fun _ _ a b => a = b
abbrev tE (K : PySem.W.Frag) (W : DW) (E : CM D) : TE := tG (VR K) K W E
abbrev tA (K : PySem.W.Frag) (W : DW) (E : CM (List D)) : TA := tG (VRs K) K W E
abbrev tT (K : PySem.W.Frag) (W : DW) (E : CM Bool) : TT := tG bR K W E
/-! ### weaker readings -/
end DM
namespace L2
open PySem PySem.Spec
section
variable {X : Cx}
theorem PE.imp {e : Expr} {t t' : TE} (h : PE X e t) (q : ∀ σ H Q, t' σ H Q → t σ H Q) : PE X e t' := ⟨fun pins s σ H Q I z => h.run pins s σ H Q I (q _ _ _ z)⟩
theorem PT.imp {e : Expr} {t t' : TT} (h : PT X e t) (q : ∀ σ H Q, t' σ H Q → t σ H Q) : PT X e t' := ⟨fun pins s σ H Q I z => h.run pins s σ H Q I (q _ _ _ z)⟩
theorem PW.imp {e : Expr} {t t' : TT} (h : PW X e t) (q : ∀ σ H Q, t' σ H Q → t σ H Q) : PW X e t' := ⟨fun w pins s σ H Q I z => h.run w pins s σ H Q I (q _ _ _ z)⟩
theorem PA.imp {e : List Expr} {t t' : TA} (h : PA X e t) (q : ∀ σ H Q, t' σ H Q → t σ H Q) : PA X e t' := ⟨fun p pins s σ H Q I z => h.run p pins s σ H Q I (q _ _ _ z)⟩
theorem PS.imp {e : Stmt} {t t' : TS} (h : PS X e t) (q : ∀ D σ H, t' D σ H → t D σ H) : PS X e t' := ⟨fun pins s σ H D I z => h.run pins s σ H D I (q _ _ _ z)⟩
theorem PSs.imp {e : List Stmt} {t t' : TS} (h : PSs X e t) (q : ∀ D σ H, t' D σ H → t D σ H) : PSs X e t' := ⟨fun pins s σ H D I z => h.run pins s σ H D I (q _ _ _ z)⟩
theorem PI.imp {tg e : Expr} {t t' : TI} (h : PI X tg e t) (q : ∀ σ H R, t' σ H R → t σ H R) : PI X tg e t' := ⟨fun pins s σ H R I z => h.run pins s σ H R I (q _ _ _ z)⟩
end
end L2
namespace DM
open PySem PySem.Spec L2
/-! ### names, constants -/
def eVar (i : Nat) : CM D := fun ρ μ => match ρ[i]? with
  | some (some d) => some (.ok d, μ)
  | _ => none
abbrev eC (d : D) : CM D := CM.ret d
section
variable {X : Cx} {W : DW}
theorem d_pv (i : Nat) {x : Str} {pos : Pos} (h : PE X (.Name x pos) (tVar i)) : PE X (.Name x pos) (tE X.K W (eVar i)) := h.imp fun σ H Q ⟨ρ, ι, μ, sr, wf, h⟩ => by
  unfold eVar at h
  match e : ρ[i]?, h with
  | some (some d), h =>
    obtain ⟨v, a, b⟩ := sr.at' i d e
    exact ⟨v, a, h.ok0 wf b⟩
theorem d_const {e : Expr} {v : V} {d : D} (h : PE X e (tC v)) (r : ∀ ι H, VR X.K ι H v d) : PE X e (tE X.K W (eC d)) := h.imp fun σ H Q ⟨ρ, ι, μ, sr, wf, h⟩ => PostG.ok0 h wf (r ι H)
theorem d_int {i : Int} {j : Nat} {pos : Pos} : PE X (.Constant (.int i) j pos) (tE X.K W (eC (.int i))) := d_const pe_int fun _ _ => .int i
theorem d_str {x : Str} {j : Nat} {pos : Pos} : PE X (.Constant (.str x) j pos) (tE X.K W (eC (.str x))) := d_const pe_str fun _ _ => .str x
theorem d_bl {b : Bool} {j : Nat} {pos : Pos} : PE X (.Constant (.bool b) j pos) (tE X.K W (eC (.bl b))) := d_const pe_bl fun _ _ => .bl b
end
/-! ### operators -/
def pureR (o : Option D) (μ : Store) : Res D := match o with
  | some d => some (.ok d, μ)
  | none => none
def e1 (F : D → Store → Res D) (A : CM D) : CM D := A.bind fun d _ μ => F d μ
def e2 (F : D → D → Store → Res D) (A B : CM D) : CM D := A.bind fun d => B.bind fun e _ μ => F d e μ
def Lift1 (K : PySem.W.Frag) (r : V → Hp → VK → Prop) (F : D → Store → Res D) : Prop := ∀ (W : DW) σ ι μ H x d Q, WF K ι μ H → VR K ι H x d → PostG (VR K) K W σ ι H Q (F d μ) → r x H Q
def Lift2 (K : PySem.W.Frag) (r : L2.R2) (F : D → D → Store → Res D) : Prop := ∀ (W : DW) σ ι μ H x y d e Q, WF K ι μ H → VR K ι H x d → VR K ι H y e → PostG (VR K) K W σ ι H Q (F d e μ) → r x y H Q
section
variable {X : Cx} {W : DW} {a b c : Expr} {A B C : CM D} {pos : Pos}
theorem d_bin {t : L2.R2 } {F : D → D → Store → Res D} (hF : Lift2 X.K t F) (σ : L2.St) (H : Hp) (Q : VK) (h : tE X.K W (e2 F A B) σ H Q) : tOp t (tE X.K W A) (tE X.K W B) σ H Q := by
  obtain ⟨ρ, ι, μ, sr, wf, h⟩ := h
  refine tG.mono (PostG.bind sr wf h) ?_
  rintro x H1 ⟨ι1, μ1, d, l1, w1, vx, h1⟩
  refine tG.mono (PostG.bind (sr.mono l1) w1 h1) ?_
  rintro y H2 ⟨ι2, μ2, e, l2, w2, vy, h2⟩
  exact hF W σ ι2 μ2 H2 x y d e Q w2 (vx.mono l2) vy h2
theorem d_op {op : Operator} {r : L2.R2} {F : D → D → Store → Res D} (ho : OpR X (binaryOp op) r) (hF : Lift2 X.K r F) (ha : PE X a (tE X.K W A)) (hb : PE X b (tE X.K W B)) : PE X (.BinOp a op b pos) (tE X.K W (e2 F A B)) :=
  (pe_op ho ha hb).imp (d_bin hF)
theorem d_cmp {op : CmpOp} {r : L2.R2} {F : D → D → Store → Res D} (ho : OpR X (compareOp op) r) (hF : Lift2 X.K r F) (ha : PE X a (tE X.K W A)) (hb : PE X b (tE X.K W B)) (hm : behindInMarks op b = false) : PE X (.Compare a [op] [b] pos) (tE X.K W (e2 F A B)) :=
  (pe_cmpR ho ha hb hm).imp (d_bin hF)
/-- a value that is a bool, as a test -/
def bOf (E : CM D) : CM Bool := E.bind fun d _ μ => match d with
  | .bl b => some (.ok b, μ)
  | _ => none
theorem d_bOf {Qb : Bool → Hp → Prop} {E : CM D} (σ : L2.St) (H : Hp) (h : tT X.K W (bOf E) σ H Qb) : tE X.K W E σ H (fun x H' => ∃ k, x = .bl k ∧ Qb k H') := by
  obtain ⟨ρ, ι, μ, sr, wf, h⟩ := h
  refine tG.mono (PostG.bind sr wf h) ?_
  rintro x H1 ⟨ι1, μ1, d, l1, w1, vx, h1⟩
  cases vx with
  | bl b => exact ⟨b, rfl, h1.ok0 w1 rfl⟩
  | _ => exact h1.elim
theorem dt_cmp {op : CmpOp} {r : L2.R2} {F : D → D → Store → Res D} (ho : OpR X (compareOp op) r) (hF : Lift2 X.K r F) (ha : PE X a (tE X.K W A)) (hb : PE X b (tE X.K W B)) (hm : behindInMarks op b = false) : PT X (.Compare a [op] [b] pos) (tT X.K W (bOf (e2 F A B))) :=
  (pt_cmpR ho ha hb hm).imp fun σ H Q h => d_bin hF σ H _ (d_bOf σ H h)
theorem d_un {op : UnaryOp} {r : V → Hp → VK → Prop} {F : D → Store → Res D} (ho : UnR X (unaryOp op) r) (hF : Lift1 X.K r F) (ha : PE X a (tE X.K W A)) : PE X (.UnaryOp op a pos) (tE X.K W (e1 F A)) :=
  (pe_un ho ha).imp fun σ H Q ⟨ρ, ι, μ, sr, wf, h⟩ => by
    refine tG.mono (PostG.bind sr wf h) ?_
    rintro x H1 ⟨ι1, μ1, d, l1, w1, vx, h1⟩
    exact hF W σ ι1 μ1 H1 x d Q w1 vx h1
/-- a < b < c -/
def eChain (F G : D → D → Store → Res D) (A B C : CM D) : CM D := A.bind fun d => B.bind fun e => CM.bind (fun _ μ => F d e μ) fun z => match z with
  | .bl true => C.bind fun g _ μ => G e g μ
  | .bl false => CM.ret (.bl false)
  | _ => fun _ _ => none
end
section
variable {X : Cx} {W : DW} {a b c : Expr} {A B C : CM D} {pos : Pos}
end
end DM

namespace DM
open PySem PySem.Spec L2
abbrev okR (d : D) (μ : Store) : Res D := some (.ok d, μ)
theorem PostG.guard {α β : Type} {R : List Addr → Hp → β → α → Prop} {K : PySem.W.Frag} {W : DW} {σ : L2.St} {ι : List Addr} {H : Hp} {Q : β → Hp → Prop} {c : Prop} [Decidable c] {r : Res α} (h : PostG R K W σ ι H Q (if c then r else none)) : c ∧ PostG R K W σ ι H Q r := by
  by_cases z : c
  · rw [if_pos z] at h; exact ⟨z, h⟩
  · rw [if_neg z] at h; exact h.elim
/-! ### arithmetic -/
def mulOk (i j : Int) : Prop := (-(2 ^ 64) < i ∧ i < 2 ^ 64) ∨ (-(2 ^ 64) < j ∧ j < 2 ^ 64) ∨ i.natAbs.log2 + j.natAbs.log2 < 1000000
instance (i j : Int) : Decidable (mulOk i j) := by unfold mulOk; infer_instance
def divOk (j : Int) : Prop := 0 < j ∧ j < 2 ^ 256
instance (j : Int) : Decidable (divOk j) := by unfold divOk; infer_instance
def powOk (i j : Int) : Prop := 0 ≤ j ∧ j ≤ 1000 ∧ -(2 ^ 256) < i ∧ i < 2 ^ 256
instance (i j : Int) : Decidable (powOk i j) := by unfold powOk; infer_instance
def Fadd : D → D → Store → Res D
  | .int i, .int j, μ => okR (.int (i + j)) μ
  | .str a, .str b, μ => if a.length + b.length ≤ sizeLine then okR (.str (a ++ b)) μ else none
  | .lst a, .lst b, μ => if a.length + b.length ≤ sizeLine then okR (.lst (a ++ b)) μ else none
  | .tup a, .tup b, μ => if a.length + b.length ≤ sizeLine then okR (.tup (a ++ b)) μ else none
  | _, _, _ => none
def Fsub : D → D → Store → Res D
  | .int i, .int j, μ => okR (.int (i - j)) μ
  | _, _, _ => none
def Fmul : D → D → Store → Res D
  | .int i, .int j, μ => if mulOk i j then okR (.int (i * j)) μ else none
  | .lst a, .int k, μ => if (-(2 ^ 63) ≤ k ∧ k < 2 ^ 63) ∧ a.length * k.toNat ≤ sizeLine then okR (.lst (List.replicate k.toNat a).flatten) μ else none
  | _, _, _ => none
def Fdiv : D → D → Store → Res D
  | .int i, .int j, μ => if divOk j then okR (.int (i / j)) μ else none
  | _, _, _ => none
def Fmod : D → D → Store → Res D
  | .int i, .int j, μ => if 0 < j then okR (.int (i % j)) μ else none
  | _, _, _ => none
def Fpow : D → D → Store → Res D
  | .int i, .int j, μ => if powOk i j then okR (.int (i ^ j.toNat)) μ else none
  | _, _, _ => none
def Fneg : D → Store → Res D
  | .int i, μ => okR (.int (-i)) μ
  | _, _ => none
/-- t + u of tuples, the new one's object known -/
def rCatF (K : PySem.W.Frag) : L2.R2 := fun x y H Q => ∃ a b xs ys, x = .ref a ∧ y = .ref b ∧ SqT K H a xs ∧ SqT K H b ys ∧ xs.length + ys.length ≤ sizeLine ∧
  (xs = [] → Q (.ref b) H) ∧ (ys = [] → Q (.ref a) H) ∧ (xs ≠ [] → ys ≠ [] → ∀ p o, H p = none → o.dict = none → Q (.ref p) (upd H p (.frz o (.tup (xs ++ ys)))))
def rAddD (K : PySem.W.Frag) : L2.R2 := fun x y H Q => (rI0 fun i j => V.int (i + j)) x y H Q ∨ (∃ i j, x = .str i ∧ y = .str j ∧ i.length + j.length ≤ sizeLine ∧ Q (.str (i ++ j)) H) ∨ rCat x y H Q ∨ rCatF K x y H Q
section
variable {X : Cx} {K : PySem.W.Frag}
theorem op_catF : OpR X (binaryOp .Add) (rCatF X.K) := by
  intro pins s σ H x y v u Q I rx ry h
  obtain ⟨a, b, xs, ys, rfl, rfl, ha, hb, hz, q0, q1, q2⟩ := h
  cases rx
  cases ry
  obtain ⟨us, r1, p1, _⟩ := I.tuple ha
  obtain ⟨ws, r2, p2, _⟩ := I.tuple hb
  by_cases hx : xs = []
  · subst hx
    cases r1
    exact cat_tup0 p1 p2 ⟨.ref b, H, I, rfl, q0 rfl⟩
  · refine HT.cat_tup p1 p2 (fun z => hx (r1.nil_iff.mp z)) (fun z => ⟨.ref a, H, I, rfl, q1 (r2.nil_iff.mp z)⟩) (fun z => ?_) (by rw [← r1.length, ← r2.length]; exact hz)
    refine ⟨.ref s.heap.objs.size, upd H s.heap.objs.size (.frz _ (.tup (xs ++ ys))), I.laid (t' := s.toks) (fun b ob q => Heap.get?_push_of_some _ q) (Nat.le_refl _) ⟨Heap.get?_push_size _ rfl, by rw [List.length_append]; exact hz, _, r1.append r2, PyProof.Rows.IsTup.new _ _⟩, rfl, q2 hx (fun w => z (r2.nil_iff.mpr w)) _ _ (I.hok.fresh (Nat.le_refl _)) rfl⟩
theorem op_addD : OpR X (binaryOp .Add) (rAddD X.K) := op_add.or (op_add_str.or (op_cat.or op_catF))
theorem lift_add : Lift2 K (rAddD K) Fadd := by
  intro W σ ι μ H x y d e Q w vx vy h
  cases vx with
  | int i =>
    cases vy with
    | int j => exact .inl ⟨i, j, rfl, rfl, h.ok0 w (.int _)⟩
    | _ => exact h.elim
  | str a =>
    cases vy with
    | str b =>
      obtain ⟨q, h⟩ := PostG.guard h
      exact .inr (.inl ⟨a, b, rfl, rfl, q, h.ok0 w (.str _)⟩)
    | _ => exact h.elim
  | lst ha ra =>
    cases vy with
    | lst hb rb =>
      obtain ⟨q, h⟩ := PostG.guard h
      refine .inr (.inr (.inl ⟨_, _, _, _, rfl, rfl, ha.1, hb.1, by rw [ra.length, rb.length]; exact q, fun p hp => ?_⟩))
      exact h.ok (Le.laid hp) (w.laid hp) (.lst ⟨upd_same, w.out hp⟩ ((ra.append rb).mono (Le.laid hp)))
    | _ => exact h.elim
  | tup ha ra =>
    cases vy with
    | tup hb rb =>
      obtain ⟨q, h⟩ := PostG.guard h
      refine .inr (.inr (.inr ⟨_, _, _, _, rfl, rfl, ha.sq, hb.sq, by rw [ra.length, rb.length]; exact q, fun z => ?_, fun z => ?_, fun _ _ p o hp ho => ?_⟩))
      · subst z
        cases ra
        exact h.ok0 w (.tup hb rb)
      · subst z
        cases rb
        rw [List.append_nil] at h
        exact h.ok0 w (.tup ha ra)
      · exact h.ok (Le.laid hp) (w.laid hp) (.tup (.inl ⟨⟨o, upd_same, ho⟩, w.out hp⟩) ((ra.append rb).mono (Le.laid hp)))
    | _ => exact h.elim
  | _ => exact h.elim
theorem lift_i2 {C : Int → Int → Prop} [∀ i j, Decidable (C i j)] {C' : Int → Int → Prop} {g : Int → Int → Int} {F : D → D → Store → Res D} (hi : ∀ i j μ, F (.int i) (.int j) μ = if C i j then okR (.int (g i j)) μ else none) (hn : ∀ d e μ, (∀ i j, d = .int i → e = .int j → False) → F d e μ = none) (hc : ∀ i j, C i j → C' i j) :
    Lift2 K (rI C' fun i j => .int (g i j)) F := by
  intro W σ ι μ H x y d e Q w vx vy h
  by_cases z : ∃ i j, d = .int i ∧ e = .int j
  · obtain ⟨i, j, rfl, rfl⟩ := z
    cases vx; cases vy
    rw [hi] at h
    obtain ⟨q, h⟩ := PostG.guard h
    exact ⟨i, j, rfl, rfl, hc i j q, h.ok0 w (.int _)⟩
  · rw [hn d e μ (fun i j a b => z ⟨i, j, a, b⟩)] at h
    exact h.elim
theorem lift_sub : Lift2 K (rI0 fun i j => .int (i - j)) Fsub := by
  intro W σ ι μ H x y d e Q w vx vy h
  cases vx with
  | int i =>
    cases vy with
    | int j => exact ⟨i, j, rfl, rfl, h.ok0 w (.int _)⟩
    | _ => exact h.elim
  | _ => exact h.elim
def CMulD (i j : Int) : Prop := IntMulOk i j
theorem op_mulD : OpR X (binaryOp .Mult) (rI CMulD fun i j => .int (i * j)) := opI fun _ _ _ _ _ _ _ hc q => PyProof.Rows.mul_int q hc
theorem mulOk.ok {i j : Int} (h : mulOk i j) : CMulD i j := by
  rcases h with h | h | h
  · exact CMul.ok (.inl h)
  · exact CMul.ok (.inr h)
  · exact CMulW.ok h
def rMulD : L2.R2 := fun x y H Q => (rI CMulD fun i j => V.int (i * j)) x y H Q ∨ rRep x y H Q
theorem op_mulDD : OpR X (binaryOp .Mult) rMulD := op_mulD.or op_rep
theorem VRs.rep {ι : List Addr} {H : Hp} {vs : List V} {ds : List D} (r : VRs K ι H vs ds) : ∀ n : Nat, VRs K ι H (List.replicate n vs).flatten (List.replicate n ds).flatten
  | 0 => .nil
  | n + 1 => by
    rw [List.replicate_succ, List.replicate_succ, List.flatten_cons, List.flatten_cons]
    exact r.append (VRs.rep r n)
theorem lift_mul : Lift2 K rMulD Fmul := by
  intro W σ ι μ H x y d e Q w vx vy h
  cases vx with
  | int i =>
    cases vy with
    | int j =>
      obtain ⟨q, h⟩ := PostG.guard h
      exact .inl ⟨i, j, rfl, rfl, q.ok, h.ok0 w (.int _)⟩
    | _ => exact h.elim
  | lst ha ra =>
    cases vy with
    | int k =>
      obtain ⟨q, h⟩ := PostG.guard h
      refine .inr ⟨_, k, _, rfl, rfl, ha.1, q.1.1, q.1.2, by rw [ra.length]; exact q.2, fun p hp => ?_⟩
      exact h.ok (Le.laid hp) (w.laid hp) (.lst ⟨upd_same, w.out hp⟩ ((ra.rep _).mono (Le.laid hp)))
    | _ => exact h.elim
  | _ => exact h.elim
theorem lift_div : Lift2 K (rI CDivW fun i j => .int (i / j)) Fdiv :=
  lift_i2 (C := fun _ j => divOk j) (fun _ _ _ => rfl) (fun d e μ h => by cases d <;> cases e <;> first | rfl | exact (h _ _ rfl rfl).elim) fun i j h =>
    wide_div (b := 257) h.1 (by have h1 := h.1; have h2 := h.2; omega) (by decide) (by decide)
theorem lift_mod : Lift2 K (rI (fun _ j => 0 < j) fun i j => .int (i % j)) Fmod :=
  lift_i2 (C := fun _ j => 0 < j) (fun _ _ _ => rfl) (fun d e μ h => by cases d <;> cases e <;> first | rfl | exact (h _ _ rfl rfl).elim) fun _ _ h => h
theorem op_powD : OpR X (binaryOp .Pow) (rI powOk fun i j => .int (i ^ j.toNat)) := opI fun i j _ _ _ _ _ hc q => by
  refine PyProof.Rows.pow_int hc.1 ?_ q
  have hb : Builtin.Int.intBits i ≤ 257 := by
    unfold Builtin.Int.intBits
    split
    · omega
    · have : i.natAbs.log2 < 257 := PySem.Flt.log2_lt_of (by decide) (by have h1 := hc.2.2.1; have h2 := hc.2.2.2; omega)
      omega
  have h0 := hc.1
  have h1 := hc.2.1
  have h2 : (Builtin.Int.intBits i : Int) * j ≤ 257 * 1000 := by
    have a : (Builtin.Int.intBits i : Int) ≤ 257 := by omega
    exact Int.mul_le_mul a h1 h0 (by decide)
  omega
theorem lift_pow : Lift2 K (rI powOk fun i j => .int (i ^ j.toNat)) Fpow :=
  lift_i2 (C := powOk) (fun _ _ _ => rfl) (fun d e μ h => by cases d <;> cases e <;> first | rfl | exact (h _ _ rfl rfl).elim) fun _ _ h => h
theorem lift_neg : Lift1 K (rU fun i => .int (-i)) Fneg := by
  intro W σ ι μ H x d Q w vx h
  cases vx with
  | int i => exact ⟨i, rfl, h.ok0 w (.int _)⟩
  | _ => exact h.elim
end
section
variable {X : Cx} {W : DW} {a b c : Expr} {A B C : CM D} {pos : Pos}
theorem d_add (ha : PE X a (tE X.K W A)) (hb : PE X b (tE X.K W B)) : PE X (.BinOp a .Add b pos) (tE X.K W (e2 Fadd A B)) := d_op op_addD lift_add ha hb
theorem d_sub (ha : PE X a (tE X.K W A)) (hb : PE X b (tE X.K W B)) : PE X (.BinOp a .Sub b pos) (tE X.K W (e2 Fsub A B)) := d_op op_sub lift_sub ha hb
theorem d_mul (ha : PE X a (tE X.K W A)) (hb : PE X b (tE X.K W B)) : PE X (.BinOp a .Mult b pos) (tE X.K W (e2 Fmul A B)) := d_op op_mulDD lift_mul ha hb
theorem d_div (ha : PE X a (tE X.K W A)) (hb : PE X b (tE X.K W B)) : PE X (.BinOp a .FloorDiv b pos) (tE X.K W (e2 Fdiv A B)) := d_op op_fdivW lift_div ha hb
theorem d_mod (ha : PE X a (tE X.K W A)) (hb : PE X b (tE X.K W B)) : PE X (.BinOp a .Mod b pos) (tE X.K W (e2 Fmod A B)) := d_op op_mod lift_mod ha hb
theorem d_pow (ha : PE X a (tE X.K W A)) (hb : PE X b (tE X.K W B)) : PE X (.BinOp a .Pow b pos) (tE X.K W (e2 Fpow A B)) := d_op op_powD lift_pow ha hb
theorem d_neg (ha : PE X a (tE X.K W A)) : PE X (.UnaryOp .USub a pos) (tE X.K W (e1 Fneg A)) := d_un un_neg lift_neg ha
end
end DM

namespace DM
open PySem PySem.Spec L2
/-! ### data as PyData; comparisons -/
mutual
def toPy : D → Option PyData
  | .non => some .none
  | .bl b => some (.bool b)
  | .int i => some (.int i)
  | .str x => some (.str x)
  | .tup xs => (toPys xs).map .tuple
  | .lst xs => (toPys xs).map .list
  | .fl xs => (toPys xs).map .list
  | .ref _ => none
def toPys : List D → Option (List PyData)
  | [] => some []
  | x :: r => match toPy x, toPys r with
    | some p, some q => some (p :: q)
    | _, _ => none
end
section
variable {K : PySem.W.Frag} {ι : List Addr} {H : Hp}
mutual
theorem dp_of : ∀ {v : V} {d : D} {p : PyData}, VR K ι H v d → toPy d = some p → Dp K H v p
  | _, _, _, .non, e => by cases e; exact .non
  | _, _, _, .bl b, e => by cases e; exact .bl b
  | _, _, _, .int i, e => by cases e; exact .int i
  | _, _, _, .str x, e => by cases e; exact .str x
  | _, _, _, .tup (ds := ds) h r, e => by
    simp only [toPy, Option.map_eq_some_iff] at e
    obtain ⟨q, e1, e2⟩ := e
    subst e2
    exact .tup h.sq (dps_of r e1)
  | _, _, _, .lst (ds := ds) h r, e => by
    simp only [toPy, Option.map_eq_some_iff] at e
    obtain ⟨q, e1, e2⟩ := e
    subst e2
    exact .lst h.sq (dps_of r e1)
  | _, _, _, .fl (ds := ds) h r, e => by
    simp only [toPy, Option.map_eq_some_iff] at e
    obtain ⟨q, e1, e2⟩ := e
    subst e2
    exact .lst h.sq (dps_of r e1)
  | _, _, _, .ref h, e => by cases e
theorem dps_of : ∀ {vs : List V} {ds : List D} {ps : List PyData}, VRs K ι H vs ds → toPys ds = some ps → DpAll K H vs ps
  | _, _, _, .nil, e => by cases e; exact .nil
  | _, _, _, .cons (d := d) (ds := ds) h r, e => by
    simp only [toPys] at e
    match e1 : toPy d, e2 : toPys ds, e with
    | some p, some q, e =>
      cases e
      exact .cons (dp_of h e1) (dps_of r e2)
end
end
/-- a cell's content as data, too -/
def toPyS (μ : Store) : D → Option PyData
  | .ref i => match μ[i]? with
    | some (.lst xs) => (toPys xs).map .list
    | _ => none
  | d => toPy d
theorem dpS_of {K : PySem.W.Frag} {ι : List Addr} {H : Hp} {μ : Store} {v : V} {d : D} {p : PyData} (w : WF K ι μ H) (r : VR K ι H v d) (e : toPyS μ d = some p) : Dp K H v p := by
  cases r with
  | ref hi =>
    obtain ⟨o, ho, ro⟩ := w.has hi
    simp only [toPyS, ho] at e
    cases o with
    | lst xs =>
      obtain ⟨vs, ea, rs⟩ := ro
      simp only [Option.map_eq_some_iff] at e
      obtain ⟨q, e1, e2⟩ := e
      subst e2
      exact .lst (.inl (.inl ea)) (dps_of rs e1)
    | obj C fs => cases e
    | dct kvs => cases e
    | dcl kvs => cases e
    | dtt kvs => cases e
    | exc C fs => cases e
    | tab tx => cases e
    | dnk kvs => cases e
  | non => exact dp_of (ι := ι) .non e
  | bl b => exact dp_of (ι := ι) (.bl b) e
  | int b => exact dp_of (ι := ι) (.int b) e
  | str b => exact dp_of (ι := ι) (.str b) e
  | tup h r => exact dp_of (.tup h r) e
  | lst h r => exact dp_of (.lst h r) e
  | fl h r => exact dp_of (.fl h r) e
def twoS : D → D → Option (Str × Str)
  | .str a, .str b => some (a, b)
  | _, _ => none
theorem twoS_some {d e : D} {a b : Str} (h : twoS d e = some (a, b)) : d = .str a ∧ e = .str b := by
  unfold twoS at h
  split at h
  · cases h; exact ⟨rfl, rfl⟩
  · cases h
def Feq (neg : Bool) (d e : D) (μ : Store) : Res D := match twoS d e with
  | some (a, b) => okR (.bl (if neg then !(a == b) else a == b)) μ
  | none => match toPyS μ d, toPyS μ e with
    | some p, some q => if SeqAt.shaped p = true ∧ SeqAt.shaped q = true then okR (.bl (if neg then !PyData.eqv p q else PyData.eqv p q)) μ else none
    | _, _ => none
def Fcmp (p : Int → Int → Bool) : D → D → Store → Res D
  | .int i, .int j, μ => okR (.bl (p i j)) μ
  | _, _, _ => none
abbrev Flt := Fcmp fun i j => decide (i < j)
abbrev Fle := Fcmp fun i j => decide (i ≤ j)
abbrev Fgt := Fcmp fun i j => decide (j < i)
abbrev Fge := Fcmp fun i j => decide (j ≤ i)
def Fis (neg : Bool) : D → D → Store → Res D
  | .bl a, .bl b, μ => okR (.bl (if neg then !decide (a = b) else decide (a = b))) μ
  | d, .non, μ => okR (.bl (if neg then !decide (d = .non) else decide (d = .non))) μ
  | _, _, _ => none
section
variable {X : Cx} {K : PySem.W.Frag}
def rEqX (K : PySem.W.Frag) : L2.R2 := fun x y H Q => rEq x y H Q ∨ rEqD K x y H Q
def rNeX (K : PySem.W.Frag) : L2.R2 := fun x y H Q => rNe x y H Q ∨ rNeD K x y H Q
theorem op_eqX (hu : X.A.units + 64 < cLine) : OpR X (compareOp .Eq) (rEqX X.K) := op_eq.or (op_eqD hu)
theorem op_neX (hu : X.A.units + 64 < cLine) : OpR X (compareOp .NotEq) (rNeX X.K) := op_ne.or (op_neD hu)
theorem dec_strV {a b : Str} : decide (V.str a = V.str b) = (a == b) := by
  rw [Bool.eq_iff_iff]
  simp
theorem lift_eq : Lift2 K (rEqX K) (Feq false) := by
  intro W σ ι μ H x y d e Q w vx vy h
  unfold Feq at h
  match e0 : twoS d e, h with
  | some (a, b), h =>
    obtain ⟨rfl, rfl⟩ := twoS_some e0
    cases vx
    cases vy
    refine .inl ⟨rfl, ?_⟩
    rw [dec_strV]
    exact h.ok0 w (.bl _)
  | none, h =>
    match e1 : toPyS μ d, e2 : toPyS μ e, h with
    | some p, some q, h =>
      obtain ⟨z, h⟩ := PostG.guard h
      exact .inr ⟨p, q, dpS_of w vx e1, dpS_of w vy e2, z.1, z.2, h.ok0 w (.bl _)⟩
theorem lift_ne : Lift2 K (rNeX K) (Feq true) := by
  intro W σ ι μ H x y d e Q w vx vy h
  unfold Feq at h
  match e0 : twoS d e, h with
  | some (a, b), h =>
    obtain ⟨rfl, rfl⟩ := twoS_some e0
    cases vx
    cases vy
    refine .inl ⟨rfl, ?_⟩
    rw [dec_strV]
    exact h.ok0 w (.bl _)
  | none, h =>
    match e1 : toPyS μ d, e2 : toPyS μ e, h with
    | some p, some q, h =>
      obtain ⟨z, h⟩ := PostG.guard h
      exact .inr ⟨p, q, dpS_of w vx e1, dpS_of w vy e2, z.1, z.2, h.ok0 w (.bl _)⟩
theorem lift_cmp {p : Int → Int → Bool} : Lift2 K (rI0 fun i j => .bl (p i j)) (Fcmp p) := by
  intro W σ ι μ H x y d e Q w vx vy h
  cases vx with
  | int i =>
    cases vy with
    | int j => exact ⟨i, j, rfl, rfl, h.ok0 w (.bl _)⟩
    | _ => exact h.elim
  | _ => exact h.elim
def rIsD (neg : Bool) : L2.R2 := fun x y H Q => (∃ a b : Bool, x = .bl a ∧ y = .bl b ∧ Q (.bl (if neg then !decide (a = b) else decide (a = b))) H) ∨ (y = .non ∧ Q (.bl (if neg then !decide (x = .non) else decide (x = .non))) H)
end
section
variable {X : Cx} {W : DW} {a b c : Expr} {A B C : CM D} {pos : Pos} {k : Nat}
theorem d_eq (hr : Room k X.A) (ha : PE X a (tE X.K W A)) (hb : PE X b (tE X.K W B)) : PE X (.Compare a [.Eq] [b] pos) (tE X.K W (e2 (Feq false) A B)) := d_cmp (op_eqX hr.units) lift_eq ha hb (nomark _)
theorem dt_eq (hr : Room k X.A) (ha : PE X a (tE X.K W A)) (hb : PE X b (tE X.K W B)) : PT X (.Compare a [.Eq] [b] pos) (tT X.K W (bOf (e2 (Feq false) A B))) := dt_cmp (op_eqX hr.units) lift_eq ha hb (nomark _)
theorem dt_ne (hr : Room k X.A) (ha : PE X a (tE X.K W A)) (hb : PE X b (tE X.K W B)) : PT X (.Compare a [.NotEq] [b] pos) (tT X.K W (bOf (e2 (Feq true) A B))) := dt_cmp (op_neX hr.units) lift_ne ha hb (nomark _)
theorem dt_lt (ha : PE X a (tE X.K W A)) (hb : PE X b (tE X.K W B)) : PT X (.Compare a [.Lt] [b] pos) (tT X.K W (bOf (e2 Flt A B))) := dt_cmp op_lt lift_cmp ha hb (nomark _)
theorem dt_gt (ha : PE X a (tE X.K W A)) (hb : PE X b (tE X.K W B)) : PT X (.Compare a [.Gt] [b] pos) (tT X.K W (bOf (e2 Fgt A B))) := dt_cmp op_gt lift_cmp ha hb (nomark _)
theorem dt_ge (ha : PE X a (tE X.K W A)) (hb : PE X b (tE X.K W B)) : PT X (.Compare a [.GtE] [b] pos) (tT X.K W (bOf (e2 Fge A B))) := dt_cmp op_ge lift_cmp ha hb (nomark _)
end
/-! ### tests -/
def bAnd (A B : CM Bool) : CM Bool := A.bind fun c => if c then B else CM.ret false
def bOr (A B : CM Bool) : CM Bool := A.bind fun c => if c then CM.ret true else B
def bNot (A : CM Bool) : CM Bool := A.bind fun c => CM.ret (!c)
def eIf (T : CM Bool) (A B : CM D) : CM D := T.bind fun c => if c then A else B
def vAnd (A B : CM D) : CM D := A.bind fun d => match d with
  | .bl true => B
  | .bl false => CM.ret (.bl false)
  | _ => fun _ _ => none
def vOr (A B : CM D) : CM D := A.bind fun d => match d with
  | .bl true => CM.ret (.bl true)
  | .bl false => B
  | _ => fun _ _ => none
def vNot (A : CM D) : CM D := A.bind fun d => match d with
  | .bl b => CM.ret (.bl (!b))
  | _ => fun _ _ => none
/-- truth -/
def Ftru (d : D) (μ : Store) : Res Bool := match d with
  | .non => some (.ok false, μ)
  | .bl b => some (.ok b, μ)
  | .int i => some (.ok (i != 0), μ)
  | .str y => if y.length ≤ sizeLine then some (.ok ((y.length : Int) != 0), μ) else none
  | .tup xs => some (.ok (!xs.isEmpty), μ)
  | .lst xs => some (.ok (!xs.isEmpty), μ)
  | .fl xs => some (.ok (!xs.isEmpty), μ)
  | .ref i => match μ[i]? with
    | some (.lst xs) => some (.ok (!xs.isEmpty), μ)
    | _ => none
def bTru (A : CM D) : CM Bool := A.bind fun d _ μ => Ftru d μ
section
variable {X : Cx} {W : DW} {a b c : Expr} {A B : CM Bool} {P Q' : CM D} {pos : Pos} {rest : List Expr}
theorem dw_or1 (ha : PT X a (tT X.K W A)) : PW X (.BoolOp .Or [a] pos) (tT X.K W A) := pw_or1 ha
theorem dw_or (ha : PT X a (tT X.K W A)) (hb : PW X (.BoolOp .Or (b :: rest) pos) (tT X.K W B)) : PW X (.BoolOp .Or (a :: b :: rest) pos) (tT X.K W (bOr A B)) :=
  (pw_or ha hb).imp fun σ H Q ⟨ρ, ι, μ, sr, wf, h⟩ => by
    refine tG.mono (PostG.bind sr wf h) ?_
    rintro c H1 ⟨ι1, μ1, d, l1, w1, rfl, h1⟩
    cases c with
    | false => exact ⟨ρ, ι1, μ1, sr.mono l1, w1, h1⟩
    | true => exact PostG.ok0 h1 w1 rfl
theorem d_ifexp (hc : PT X c (tT X.K W A)) (ha : PE X a (tE X.K W P)) (hb : PE X b (tE X.K W Q')) : PE X (.IfExp c a b pos) (tE X.K W (eIf A P Q')) :=
  (pe_ifExp hc ha hb).imp fun σ H Q ⟨ρ, ι, μ, sr, wf, h⟩ => by
    refine tG.mono (PostG.bind sr wf h) ?_
    rintro c H1 ⟨ι1, μ1, d, l1, w1, rfl, h1⟩
    cases c with
    | true => exact ⟨ρ, ι1, μ1, sr.mono l1, w1, h1⟩
    | false => exact ⟨ρ, ι1, μ1, sr.mono l1, w1, h1⟩
theorem d_one {op} (h : PE X a (tE X.K W P)) : PE X (.BoolOp op [a] pos) (tE X.K W P) := pe_one h
theorem d_and (ha : PE X a (tE X.K W P)) (hb : PE X (.BoolOp .And (b :: rest) pos) (tE X.K W Q')) : PE X (.BoolOp .And (a :: b :: rest) pos) (tE X.K W (vAnd P Q')) :=
  (pe_and ha hb).imp fun σ H Q ⟨ρ, ι, μ, sr, wf, h⟩ => by
    refine tG.mono (PostG.bind sr wf h) ?_
    rintro c H1 ⟨ι1, μ1, d, l1, w1, vx, h1⟩
    cases vx with
    | bl c =>
      refine ⟨c, rfl, ?_⟩
      cases c with
      | true => exact ⟨ρ, ι1, μ1, sr.mono l1, w1, h1⟩
      | false => exact PostG.ok0 h1 w1 (.bl _)
    | _ => exact h1.elim
end
end DM

namespace DM
open PySem PySem.Spec L2
/-! ### argument lists, displays -/
def aNil : CM (List D) := CM.ret []
def aCons (A : CM D) (B : CM (List D)) : CM (List D) := A.bind fun d => B.bind fun ds => CM.ret (d :: ds)
def eTup (A : CM (List D)) : CM D := A.bind fun ds _ μ => if ds.length ≤ sizeLine then okR (.tup ds) μ else none
/-- a list that is not changed any more; a list that is a cell -/
def eLst (A : CM (List D)) : CM D := A.bind fun ds _ μ => if ds.length ≤ sizeLine then okR (.lst ds) μ else none
def eCel (A : CM (List D)) : CM D := A.bind fun ds _ μ => if ds.length ≤ sizeLine then okR (.ref μ.length) (μ ++ [.lst ds]) else none
section
variable {X : Cx} {W : DW} {e : Expr} {es : List Expr} {A : CM D} {As : CM (List D)} {pos : Pos}
theorem da_nil : PA X [] (tA X.K W aNil) := pa_nil.imp fun σ H Q ⟨ρ, ι, μ, sr, wf, h⟩ => PostG.ok0 h wf .nil
theorem da_cons (ha : PE X e (tE X.K W A)) (hr : PA X es (tA X.K W As)) (hs : starEach (e :: es) X.env = (false, eval e X.env) :: starEach es X.env := by rfl) : PA X (e :: es) (tA X.K W (aCons A As)) :=
  (pa_cons ha hr hs).imp fun σ H Q ⟨ρ, ι, μ, sr, wf, h⟩ => by
    refine tG.mono (PostG.bind sr wf h) ?_
    rintro x H1 ⟨ι1, μ1, d, l1, w1, vx, h1⟩
    refine tG.mono (PostG.bind (sr.mono l1) w1 h1) ?_
    rintro xs H2 ⟨ι2, μ2, ds, l2, w2, vxs, h2⟩
    exact PostG.ok0 h2 w2 (.cons (vx.mono l2) vxs)
theorem d_tup {x1} (h : PA X es (tA X.K W As)) : PE X (.Tuple es x1 pos) (tE X.K W (eTup As)) := by
  refine ⟨fun pins s σ H Q I ⟨ρ, ι, μ, sr, wf, hq⟩ => ?_⟩
  refine wpAny_Tuple_spliced (thn (h.run pos pins s σ H _ I (PostG.bind sr wf hq)) ?_)
  rintro us s1 ⟨xs, H1, I1, r, ι1, μ1, ds, l1, w1, vx, h1⟩
  obtain ⟨q, h1⟩ := PostG.guard h1
  have z : xs.length ≤ sizeLine := by rw [vx.length]; exact q
  refine ⟨by rw [← r.length]; exact z, ?_⟩
  have hf : H1 s1.heap.objs.size = none := I1.hok.fresh (Nat.le_refl _)
  refine ⟨.ref s1.heap.objs.size, upd H1 s1.heap.objs.size (.frz _ (.tup xs)), I1.laid (t' := s1.toks) (fun b u e => Heap.get?_push_of_some _ e) (Nat.le_refl _) ⟨Heap.get?_push_size _ rfl, z, us, r, ⟨_, Heap.get?_push_size _ rfl, rfl, _, rfl⟩⟩, rfl, ?_⟩
  exact h1.ok (Le.laid hf) (w1.laid hf) (.tup (.inl ⟨⟨_, upd_same, rfl⟩, w1.out hf⟩) (vx.mono (Le.laid hf)))
theorem d_lst (h : PA X es (tA X.K W As)) : PE X (.List es pos) (tE X.K W (eLst As)) :=
  (pe_lst h).imp fun σ H Q ⟨ρ, ι, μ, sr, wf, h⟩ => by
    refine tG.mono (PostG.bind sr wf h) ?_
    rintro xs H1 ⟨ι1, μ1, ds, l1, w1, vx, h1⟩
    obtain ⟨q, h1⟩ := PostG.guard h1
    refine ⟨by rw [vx.length]; exact q, fun p hp => ?_⟩
    exact h1.ok (Le.laid hp) (w1.laid hp) (.lst ⟨upd_same, w1.out hp⟩ (vx.mono (Le.laid hp)))
theorem d_cel (h : PA X es (tA X.K W As)) : PE X (.List es pos) (tE X.K W (eCel As)) :=
  (pe_lst h).imp fun σ H Q ⟨ρ, ι, μ, sr, wf, h⟩ => by
    refine tG.mono (PostG.bind sr wf h) ?_
    rintro xs H1 ⟨ι1, μ1, ds, l1, w1, vx, h1⟩
    obtain ⟨q, h1⟩ := PostG.guard h1
    refine ⟨by rw [vx.length]; exact q, fun p hp => ?_⟩
    refine h1.ok (Le.cell hp) (w1.cell hp ⟨xs, upd_same, vx.mono (Le.cell hp)⟩) (.ref ?_)
    rw [← w1.len]; simp
end
/-! ### subscripts -/
def Fix (d e : D) (μ : Store) : Res D := match d, e with
  | .lst xs, .int i => pureR (atI xs i) μ
  | .fl xs, .int i => pureR (atI xs i) μ
  | .tup xs, .int i => pureR (atI xs i) μ
  | .str z, .int i => if z.length ≤ sizeLine then pureR ((atI z.cps.toList i).map fun c => .str ⟨#[c]⟩) μ else none
  | .ref j, .int i => match μ[j]? with
    | some (.lst xs) => pureR (atI xs i) μ
    | _ => none
  | _, _ => none
theorem PostG.pure {K : PySem.W.Frag} {W : DW} {σ : L2.St} {ι : List Addr} {H : Hp} {Q : VK} {o : Option D} {μ : Store} (h : PostG (VR K) K W σ ι H Q (pureR o μ)) : ∃ d, o = some d ∧ PostG (VR K) K W σ ι H Q (okR d μ) := by
  cases o with
  | none => exact h.elim
  | some d => exact ⟨d, rfl, h⟩
section
variable {X : Cx} {K : PySem.W.Frag} {ι : List Addr} {H : Hp}
theorem VRs.atI {vs : List V} {ds : List D} {i : Int} {d : D} (r : VRs K ι H vs ds) (h : atI ds i = some d) : ∃ v, L2.atI vs i = some v ∧ VR K ι H v d := by
  unfold L2.atI at h ⊢
  rw [r.length]
  cases e : ixN ds.length i with
  | none => rw [e] at h; cases h
  | some j => rw [e] at h; exact r.get h
theorem lift_ix : Lift2 K (rIx K) Fix := by
  intro W σ ι μ H x y d e Q w vx vy h
  cases vy with
  | int i =>
    cases vx with
    | lst hh r =>
      obtain ⟨z, e, h⟩ := PostG.pure h
      obtain ⟨v, e1, r1⟩ := r.atI e
      exact .inl ⟨_, _, i, v, rfl, rfl, hh.sq, e1, h.ok0 w r1⟩
    | fl hh r =>
      obtain ⟨z, e, h⟩ := PostG.pure h
      obtain ⟨v, e1, r1⟩ := r.atI e
      exact .inl ⟨_, _, i, v, rfl, rfl, hh.sq, e1, h.ok0 w r1⟩
    | tup hh r =>
      obtain ⟨z, e, h⟩ := PostG.pure h
      obtain ⟨v, e1, r1⟩ := r.atI e
      exact .inr (.inl ⟨_, _, i, v, rfl, rfl, hh.sq, e1, h.ok0 w r1⟩)
    | str z =>
      obtain ⟨q, h⟩ := PostG.guard h
      obtain ⟨z', e, h⟩ := PostG.pure h
      obtain ⟨c, e1, rfl⟩ := Option.map_eq_some_iff.mp e
      exact .inr (.inr ⟨z, i, c, rfl, rfl, q, e1, h.ok0 w (.str _)⟩)
    | ref hi =>
      obtain ⟨o, ho, ro⟩ := w.has hi
      unfold Fix at h
      simp only [ho] at h
      cases o with
      | lst ds =>
        obtain ⟨vs, ea, r⟩ := ro
        obtain ⟨z, e, h⟩ := PostG.pure h
        obtain ⟨v, e1, r1⟩ := r.atI e
        exact .inl ⟨_, _, i, v, rfl, rfl, .inl (.inl ea), e1, h.ok0 w r1⟩
      | _ => exact h.elim
    | _ => exact h.elim
  | _ => cases vx <;> exact h.elim
end
section
variable {X : Cx} {W : DW} {a b : Expr} {A B : CM D} {pos : Pos}
theorem d_ix (ha : PE X a (tE X.K W A)) (hb : PE X b (tE X.K W B)) (hs : PlainIx b) : PE X (.Subscript a b pos) (tE X.K W (e2 Fix A B)) := (pe_ix ix_seq ha hb hs).imp (d_bin lift_ix)
end
/-! ### calls of built-ins -/
def LiftA (K : PySem.W.Frag) (r : List V → Hp → VK → Prop) (F : List D → Store → Res D) : Prop := ∀ (W : DW) σ ι μ H xs ds Q, WF K ι μ H → VRs K ι H xs ds → PostG (VR K) K W σ ι H Q (F ds μ) → r xs H Q
def eCallB (F : List D → Store → Res D) (A : CM (List D)) : CM D := A.bind fun ds _ μ => F ds μ
def Fabs (ds : List D) (μ : Store) : Res D := match ds with
  | [.int i] => okR (.int (if i < 0 then -i else i)) μ
  | _ => none
def Fint (ds : List D) (μ : Store) : Res D := match ds with
  | [.int i] => okR (.int i) μ
  | [.bl k] => okR (.int (if k then 1 else 0)) μ
  | _ => none
def Fmax (ds : List D) (μ : Store) : Res D := match ds with
  | [.int i, .int j] => okR (.int (if j > i then j else i)) μ
  | _ => none
def Fmin (ds : List D) (μ : Store) : Res D := match ds with
  | [.int i, .int j] => okR (.int (if j < i then j else i)) μ
  | _ => none
def Flen (ds : List D) (μ : Store) : Res D := match ds with
  | [.str y] => if y.length ≤ sizeLine then okR (.int y.length) μ else none
  | [.lst xs] => okR (.int xs.length) μ
  | [.fl xs] => okR (.int xs.length) μ
  | [.tup xs] => okR (.int xs.length) μ
  | [.ref i] => match μ[i]? with
    | some (.lst xs) => okR (.int xs.length) μ
    | _ => none
  | _ => none
def bls : List D → Option (List Bool)
  | [] => some []
  | .bl b :: r => (bls r).map (b :: ·)
  | _ => none
def Fall (ds : List D) (μ : Store) : Res D := match ds with
  | [.lst xs] => pureR ((bls xs).map fun bs => .bl (bs.all id)) μ
  | _ => none
def Fany (ds : List D) (μ : Store) : Res D := match ds with
  | [.lst xs] => pureR ((bls xs).map fun bs => .bl (bs.any id)) μ
  | _ => none
section
variable {X : Cx} {K : PySem.W.Frag}
theorem VRs.one {ι : List Addr} {H : Hp} {vs : List V} {d : D} (v : VRs K ι H vs [d]) : ∃ x, vs = [x] ∧ VR K ι H x d := by
  cases v with
  | cons a b => cases b; exact ⟨_, rfl, a⟩
theorem VRs.two {ι : List Addr} {H : Hp} {vs : List V} {d e : D} (v : VRs K ι H vs [d, e]) : ∃ x y, vs = [x, y] ∧ VR K ι H x d ∧ VR K ι H y e := by
  cases v with
  | cons a b =>
    obtain ⟨y, rfl, c⟩ := VRs.one b
    exact ⟨_, y, rfl, a, c⟩
theorem lift_abs : LiftA K (fun xs H Q => ∃ i, xs = [.int i] ∧ Q (.int (if i < 0 then -i else i)) H) Fabs := by
  intro W σ ι μ H xs ds Q w v h
  unfold Fabs at h
  split at h
  · obtain ⟨x, rfl, vx⟩ := v.one
    cases vx
    exact ⟨_, rfl, h.ok0 w (.int _)⟩
  · exact h.elim
theorem lift_max : LiftA K (fun xs H Q => ∃ i j, xs = [.int i, .int j] ∧ Q (.int (if j > i then j else i)) H) Fmax := by
  intro W σ ι μ H xs ds Q w v h
  unfold Fmax at h
  split at h
  · obtain ⟨x, y, rfl, vx, vy⟩ := v.two
    cases vx; cases vy
    exact ⟨_, _, rfl, h.ok0 w (.int _)⟩
  · exact h.elim
theorem lift_min : LiftA K (fun xs H Q => ∃ i j, xs = [.int i, .int j] ∧ Q (.int (if j < i then j else i)) H) Fmin := by
  intro W σ ι μ H xs ds Q w v h
  unfold Fmin at h
  split at h
  · obtain ⟨x, y, rfl, vx, vy⟩ := v.two
    cases vx; cases vy
    exact ⟨_, _, rfl, h.ok0 w (.int _)⟩
  · exact h.elim
theorem lift_len : LiftA K (fun xs H Q => ∃ x n, xs = [x] ∧ LenV K x H n ∧ Q (.int n) H) Flen := by
  intro W σ ι μ H xs ds Q w v h
  unfold Flen at h
  split at h
  · obtain ⟨x, rfl, vx⟩ := v.one
    cases vx
    obtain ⟨q, h⟩ := PostG.guard h
    exact ⟨_, _, rfl, ⟨q, rfl⟩, h.ok0 w (.int _)⟩
  · obtain ⟨x, rfl, vx⟩ := v.one
    cases vx with
    | lst hh r => exact ⟨_, _, rfl, .inl ⟨_, hh.sq, rfl⟩, h.ok0 w (by rw [r.length]; exact .int _)⟩
  · obtain ⟨x, rfl, vx⟩ := v.one
    cases vx with
    | fl hh r => exact ⟨_, _, rfl, .inl ⟨_, hh.sq, rfl⟩, h.ok0 w (by rw [r.length]; exact .int _)⟩
  · obtain ⟨x, rfl, vx⟩ := v.one
    cases vx with
    | tup hh r => exact ⟨_, _, rfl, .inr ⟨_, hh.sq, rfl⟩, h.ok0 w (by rw [r.length]; exact .int _)⟩
  · obtain ⟨x, rfl, vx⟩ := v.one
    cases vx with
    | ref hi =>
      obtain ⟨o, ho, ro⟩ := w.has hi
      simp only [ho] at h
      cases o with
      | lst ds =>
        obtain ⟨vs, ea, r⟩ := ro
        exact ⟨_, _, rfl, .inl ⟨_, .inl (.inl ea), rfl⟩, h.ok0 w (by rw [r.length]; exact .int _)⟩
      | _ => exact h.elim
  · exact h.elim
theorem bls_of {ι : List Addr} {H : Hp} : ∀ {vs : List V} {ds : List D} {bs : List Bool}, VRs K ι H vs ds → bls ds = some bs → vs = bs.map V.bl
  | _, _, _, .nil, e => by cases e; rfl
  | _, _, _, .cons h r, e => by
    cases h with
    | bl b =>
      simp only [bls] at e
      obtain ⟨t, e1, rfl⟩ := Option.map_eq_some_iff.mp e
      rw [bls_of r e1]; rfl
    | _ => simp [bls] at e
theorem lift_all : LiftA K (rAll K) Fall := by
  intro W σ ι μ H xs ds Q w v h
  unfold Fall at h
  split at h
  · obtain ⟨x, rfl, vx⟩ := v.one
    cases vx with
    | lst hh r =>
      obtain ⟨z, e, h⟩ := PostG.pure h
      obtain ⟨bs, e1, rfl⟩ := Option.map_eq_some_iff.mp e
      have q := bls_of r e1
      subst q
      exact ⟨_, bs, rfl, hh.sq, h.ok0 w (.bl _)⟩
  · exact h.elim
theorem d_cb {W : DW} {x : Str} {p pos : Pos} {e : Expr} {es : List Expr} {As : CM (List D)} {id : String} {r : List V → Hp → VK → Prop} {F : List D → Store → Res D} (hc : CallR X (.builtin id) r) (hF : LiftA X.K r F) (hg : Gl X x) (hm : X.mg x = none) (hv : bootBuiltins x = some (.builtin id)) (ha : PA X (e :: es) (tA X.K W As))
    (hn : x ≠ "__name__" := by decide) (hdb : (x == ("__debug__" : Str)) = false := by decide)
    (he : starEach (e :: es) X.env = (false, eval e X.env) :: starEach es X.env := by rfl) (hpl : (backTo pos (starEach es X.env)).any (·.1) = false := by rfl) : PE X (.Call (.Name x p) (e :: es) [] pos) (tE X.K W (eCallB F As)) :=
  (pe_callB hc hg hm hv ha hn hdb he hpl).imp fun σ H Q ⟨ρ, ι, μ, sr, wf, h⟩ => by
    refine tG.mono (PostG.bind sr wf h) ?_
    rintro xs H1 ⟨ι1, μ1, ds, l1, w1, vx, h1⟩
    exact hF W σ ι1 μ1 H1 xs ds Q w1 vx h1
theorem d_ct {W : DW} {x : Str} {p pos : Pos} {e : Expr} {es : List Expr} {As : CM (List D)} {T : String} {r : List V → Hp → VK → Prop} {F : List D → Store → Res D} (hc : CallR X (.type T) r) (hF : LiftA X.K r F) (hg : Gl X x) (hm : X.mg x = none) (hv : bootBuiltins x = some (.type T)) (ha : PA X (e :: es) (tA X.K W As))
    (hn : x ≠ "__name__" := by decide) (hdb : (x == ("__debug__" : Str)) = false := by decide)
    (he : starEach (e :: es) X.env = (false, eval e X.env) :: starEach es X.env := by rfl) (hpl : (backTo pos (starEach es X.env)).any (·.1) = false := by rfl) : PE X (.Call (.Name x p) (e :: es) [] pos) (tE X.K W (eCallB F As)) :=
  (pe_callTy hc hg hm hv ha hn hdb he hpl).imp fun σ H Q ⟨ρ, ι, μ, sr, wf, h⟩ => by
    refine tG.mono (PostG.bind sr wf h) ?_
    rintro xs H1 ⟨ι1, μ1, ds, l1, w1, vx, h1⟩
    exact hF W σ ι1 μ1 H1 xs ds Q w1 vx h1
end
end DM

namespace DM
open PySem PySem.Spec L2
/-! ### statements -/
inductive Fl where
  | nx (ρ : Rho) | rt (d : D) | bk (ρ : Rho) | ct (ρ : Rho) | ex (x : Ex) (ρ : Rho)
abbrev SF := Rho → Store → Option (Fl × Store)
def PostS (K : PySem.W.Frag) (W : DW) (T : Ends) (ι : List Addr) (H : Hp) : Option (Fl × Store) → Prop
  | some (.nx ρ', μ') => ∀ σ' ι' H', Le ι H ι' H' → WF K ι' μ' H' → SR K ι' H' σ' ρ' → T.nx σ' H'
  | some (.rt d, μ') => ∀ ι' H' v, Le ι H ι' H' → WF K ι' μ' H' → VR K ι' H' v d → T.rt v H'
  | some (.bk ρ', μ') => ∀ σ' ι' H', Le ι H ι' H' → WF K ι' μ' H' → SR K ι' H' σ' ρ' → T.bk σ' H'
  | some (.ct ρ', μ') => ∀ σ' ι' H', Le ι H ι' H' → WF K ι' μ' H' → SR K ι' H' σ' ρ' → T.ct σ' H'
  | some (.ex x ρ', μ') => ∀ σ' ι' H', Le ι H ι' H' → WF K ι' μ' H' → SR K ι' H' σ' ρ' → W x ι' σ' H'
  | none => False
def sD (K : PySem.W.Frag) (W : DW) (S : SF) : TS := fun T σ H => ∃ ρ ι μ, SR K ι H σ ρ ∧ WF K ι μ H ∧ PostS K W T ι H (S ρ μ)
def lft {α : Type} (E : CM α) (F : α → SF) : SF := fun ρ μ => match E ρ μ with
  | some (.ok a, μ1) => F a ρ μ1
  | some (.error x, μ1) => some (.ex x ρ, μ1)
  | none => none
section
variable {K : PySem.W.Frag} {W : DW} {T : Ends} {σ : L2.St} {ι : List Addr} {H : Hp} {ρ : Rho} {μ : Store}
theorem PostS.from {r : Option (Fl × Store)} {ι0 : List Addr} {H0 : Hp} (l : Le ι0 H0 ι H) (h : PostS K W T ι0 H0 r) : PostS K W T ι H r := by
  match r, h with
  | some (.nx _, _), h => exact fun _ _ _ a b c => h _ _ _ (l.trans a) b c
  | some (.rt _, _), h => exact fun _ _ _ a b c => h _ _ _ (l.trans a) b c
  | some (.bk _, _), h => exact fun _ _ _ a b c => h _ _ _ (l.trans a) b c
  | some (.ct _, _), h => exact fun _ _ _ a b c => h _ _ _ (l.trans a) b c
  | some (.ex _ _, _), h => exact fun _ _ _ a b c => h _ _ _ (l.trans a) b c
theorem PostS.bindP {α β : Type} {R : List Addr → Hp → β → α → Prop} {A : CM α} {F : α → SF} (sr : SR K ι H σ ρ) (h : PostS K W T ι H (lft A F ρ μ)) :
    PostG R K W σ ι H (fun x H1 => ∃ ι1 μ1 a, Le ι H ι1 H1 ∧ WF K ι1 μ1 H1 ∧ R ι1 H1 x a ∧ PostS K W T ι1 H1 (F a ρ μ1)) (A ρ μ) := by
  unfold lft at h
  match A ρ μ, h with
  | some (.ok a, μ1), h => exact fun ι' H' v l w r => ⟨ι', μ1, a, l, w, r, PostS.from l h⟩
  | some (.error x, μ1), h => exact fun ι' H' l w => h σ ι' H' l w (sr.mono l)
theorem PostS.bind {α β : Type} {R : List Addr → Hp → β → α → Prop} {A : CM α} {F : α → SF} (sr : SR K ι H σ ρ) (wf : WF K ι μ H) (h : PostS K W T ι H (lft A F ρ μ)) :
    tG R K W A σ H (fun x H1 => ∃ ι1 μ1 a, Le ι H ι1 H1 ∧ WF K ι1 μ1 H1 ∧ R ι1 H1 x a ∧ PostS K W T ι1 H1 (F a ρ μ1)) := ⟨ρ, ι, μ, sr, wf, h.bindP sr⟩
theorem PostS.nx0 {ρ' : Rho} (h : PostS K W T ι H (some (.nx ρ', μ))) (w : WF K ι μ H) (s : SR K ι H σ ρ') : T.nx σ H := h σ ι H (Le.refl _ _) w s
theorem PostS.guard {c : Prop} [Decidable c] {r : Option (Fl × Store)} (h : PostS K W T ι H (if c then r else none)) : c ∧ PostS K W T ι H r := by
  by_cases z : c
  · rw [if_pos z] at h; exact ⟨z, h⟩
  · rw [if_neg z] at h; exact h.elim
end
def sNil : SF := fun ρ μ => some (.nx ρ, μ)
def sSeq (A B : SF) : SF := fun ρ μ => match A ρ μ with
  | some (.nx ρ1, μ1) => B ρ1 μ1
  | o => o
def sAsg (i : Nat) (E : CM D) : SF := lft E fun d ρ μ => some (.nx (ρ.set i (some d)), μ)
def sPar2 (i j : Nat) (E : CM (List D)) : SF := lft E fun ds ρ μ => match ds with
  | [a, b] => some (.nx ((ρ.set i (some a)).set j (some b)), μ)
  | _ => none
def sPar3 (i j l : Nat) (E : CM (List D)) : SF := lft E fun ds ρ μ => match ds with
  | [a, b, c] => some (.nx (((ρ.set i (some a)).set j (some b)).set l (some c)), μ)
  | _ => none
def sIf (C : CM Bool) (A B : SF) : SF := lft C fun c => if c then A else B
def sRet (E : CM D) : SF := lft E fun d _ μ => some (.rt d, μ)
def sRetN : SF := fun _ μ => some (.rt .non, μ)
def sDrop (E : CM D) : SF := lft E fun _ ρ μ => some (.nx ρ, μ)
def sBrk : SF := fun ρ μ => some (.bk ρ, μ)
def sCnt : SF := fun ρ μ => some (.ct ρ, μ)
def sPut (o i v : CM D) : SF := lft v fun v => lft o fun o => lft i fun i ρ μ => match o, i with
  | .ref c, .int k => match μ[c]? with
    | some (.lst xs) => match ixN xs.length k with
      | some j => some (.nx ρ, μ.set c (.lst (xs.set j v)))
      | none => none
    | _ => none
  | _, _ => none
def sAug (i : Nat) (F : D → D → Store → Res D) (E : CM D) : SF := fun ρ μ => match ρ[i]? with
  | some (some x) => lft (E.bind fun e _ μ => F x e μ) (fun d ρ μ => some (.nx (ρ.set i (some d)), μ)) ρ μ
  | _ => none
section
variable {X : Cx} {W : DW} {e a b c : Expr} {E A : CM D} {pos : Pos} {st : Stmt} {rest : List Stmt} {S S2 : SF}
theorem ds_nil : PSs X [] (sD X.K W sNil) := pss_nil.imp fun T σ H ⟨ρ, ι, μ, sr, wf, h⟩ => h.nx0 wf sr
theorem ds_seqAux {T : Ends} (σ : L2.St) (H : Hp) (h : sD X.K W (sSeq S S2) T σ H) : tSeq (sD X.K W S) (sD X.K W S2) T σ H := by
  obtain ⟨ρ, ι, μ, sr, wf, h⟩ := h
  refine ⟨ρ, ι, μ, sr, wf, ?_⟩
  unfold sSeq at h
  match S ρ μ, h with
  | some (.nx ρ1, μ1), h => exact fun σ' ι' H' l w s => ⟨ρ1, ι', μ1, s, w, PostS.from l h⟩
  | some (.rt _, _), h => exact h
  | some (.bk _, _), h => exact h
  | some (.ct _, _), h => exact h
  | some (.ex _ _, _), h => exact h
theorem ds_cons (h1 : PS X st (sD X.K W S)) (h2 : PSs X rest (sD X.K W S2)) : PSs X (st :: rest) (sD X.K W (sSeq S S2)) :=
  (pss_cons h1 h2).imp fun T σ H h => ds_seqAux σ H h
theorem ds_one (h1 : PS X st (sD X.K W S)) : PSs X [st] (sD X.K W S) := pss_one h1
theorem ds_brk : PS X (.Break pos) (sD X.K W sBrk) := ps_break.imp fun T σ H ⟨ρ, ι, μ, sr, wf, h⟩ => h σ ι H (Le.refl _ _) wf sr
theorem ds_asgAux {i : Nat} {T : Ends} (σ : L2.St) (H : Hp) (h : sD X.K W (sAsg i E) T σ H) : tAsg (tE X.K W E) (gName i) T σ H := by
  obtain ⟨ρ, ι, μ, sr, wf, h⟩ := h
  refine tG.mono (PostS.bind sr wf h) ?_
  rintro x H1 ⟨ι1, μ1, d, l1, w1, vx, h1⟩
  exact h1.nx0 w1 ((sr.mono l1).set i vx)
theorem ds_set {i : Nat} {x : Str} {pos' : Pos} (hN : X.N.Nodup) (hi : X.N[i]? = some x) (hx : Loc X.env.scope x) (he : PE X e (tE X.K W E)) (hs : swapsWith e (some (.Name x pos')) pos.line X.env = pure false := by rfl)
    (hf : X.fn x = true ∨ X.env.scope.names.lookup x = some .local := by first | exact .inl rfl | exact .inr rfl | assumption) :
    PS X (.Assign [.Name x pos'] e pos) (sD X.K W (sAsg i E)) := (ps_set hN hi hx he hs hf).imp fun T σ H h => ds_asgAux σ H h
theorem ds_ret (he : PE X e (tE X.K W E)) : PS X (.Return (some e) pos) (sD X.K W (sRet E)) := (ps_ret he).imp fun T σ H ⟨ρ, ι, μ, sr, wf, h⟩ => by
  refine tG.mono (PostS.bind sr wf h) ?_
  rintro x H1 ⟨ι1, μ1, d, l1, w1, vx, h1⟩
  exact h1 ι1 H1 x (Le.refl _ _) w1 vx
theorem ds_expr (he : PE X e (tE X.K W E)) (hs : swapsWith e none pos.line X.env = pure false := by rfl) : PS X (.Expr e pos) (sD X.K W (sDrop E)) := (ps_expr he hs).imp fun T σ H ⟨ρ, ι, μ, sr, wf, h⟩ => by
  refine tG.mono (PostS.bind sr wf h) ?_
  rintro x H1 ⟨ι1, μ1, d, l1, w1, vx, h1⟩
  exact h1.nx0 w1 (sr.mono l1)
theorem ds_if {C : CM Bool} {sa sb : List Stmt} (hc : PT X c (tT X.K W C)) (ha : PSs X sa (sD X.K W S)) (hb : PSs X sb (sD X.K W S2)) : PS X (.If c sa sb pos) (sD X.K W (sIf C S S2)) := (ps_if hc ha hb).imp fun T σ H ⟨ρ, ι, μ, sr, wf, h⟩ => by
  refine tG.mono (PostS.bind sr wf h) ?_
  rintro k H1 ⟨ι1, μ1, d, l1, w1, rfl, h1⟩
  cases k with
  | true => exact ⟨ρ, ι1, μ1, sr.mono l1, w1, h1⟩
  | false => exact ⟨ρ, ι1, μ1, sr.mono l1, w1, h1⟩
theorem ds_par2 {i j : Nat} {x y : Str} {As : CM (List D)} {px py pt : Pos} {kt k2 pt2} (hc : X.calm = true) (hN : X.N.Nodup) (hi : X.N[i]? = some x) (hj : X.N[j]? = some y) (hij : i ≠ j)
    (hx : X.env.scope.names.lookup x = some .local) (hy : X.env.scope.names.lookup y = some .local) (ha : PA X [a, b] (tA X.K W As))
    (hw : swappedStores [.Tuple [.Name x px, .Name y py] kt pt] (.Tuple [a, b] k2 pt2) X.env = pure (some [x, y])) (hs : swapsWithSole [.Tuple [.Name x px, .Name y py] kt pt] (.Tuple [a, b] k2 pt2) pos.line X.env = pure false := by rfl) :
    PS X (.Assign [.Tuple [.Name x px, .Name y py] kt pt] (.Tuple [a, b] k2 pt2) pos) (sD X.K W (sPar2 i j As)) := (ps_par hc hN hi hj hij hx hy ha hw hs).imp fun T σ H ⟨ρ, ι, μ, sr, wf, h⟩ => by
  refine tG.mono (PostS.bind sr wf h) ?_
  rintro xs H1 ⟨ι1, μ1, ds, l1, w1, vx, h1⟩
  split at h1
  · obtain ⟨u, v, rfl, vu, vv⟩ := vx.two
    exact ⟨u, v, rfl, h1.nx0 w1 (((sr.mono l1).set i vu).set j vv)⟩
  · exact h1.elim
theorem ds_put {o i : Expr} {O I : CM D} {tpos : Pos} (he : PE X e (tE X.K W E)) (ho : PE X o (tE X.K W O)) (hi : PE X i (tE X.K W I))
    (hst : PG X (.Subscript o i tpos) (gSub (tE X.K W O) (tE X.K W I) rSetL)) (hs : swapsWithSole [.Subscript o i tpos] e pos.line X.env = pure false := by rfl) (hw : swappedStores [.Subscript o i tpos] e X.env = pure none := by rfl) : PS X (.Assign [.Subscript o i tpos] e pos) (sD X.K W (sPut O I E)) :=
  (ps_asg he hst hs hw).imp fun T σ H ⟨ρ, ι, μ, sr, wf, h⟩ => by
    refine tG.mono (PostS.bind sr wf h) ?_
    rintro v H1 ⟨ι1, μ1, dv, l1, w1, vv, h1⟩
    refine tG.mono (PostS.bind (sr.mono l1) w1 h1) ?_
    rintro o H2 ⟨ι2, μ2, d2, l2, w2, v2, h2⟩
    refine tG.mono (PostS.bind (sr.mono (l1.trans l2)) w2 h2) ?_
    rintro i H3 ⟨ι3, μ3, di, l3, w3, v3, h3⟩
    have vo := v2.mono l3
    have vv3 := vv.mono (l2.trans l3)
    split at h3
    · rename_i c k
      cases vo with
      | ref hc =>
      cases v3
      obtain ⟨ob, hob, ro⟩ := w3.has hc
      simp only [hob] at h3
      cases ob with
      | lst ds =>
        obtain ⟨vs, ea, rs⟩ := ro
        simp only [] at h3
        split at h3
        · rename_i j ej
          refine ⟨_, vs, k, j, rfl, rfl, ea, by rw [rs.length]; exact ej, ?_⟩
          refine h3 σ ι3 _ (Le.set hc (nf ea)) (w3.set hc (nf ea) ⟨_, upd_same, (rs.set vv3 j).mono (Le.set hc (nf ea))⟩) ((sr.mono (l1.trans (l2.trans l3))).mono (Le.set hc (nf ea)))
        · exact h3.elim
      | _ => exact h3.elim
    · exact h3.elim
end
end DM

namespace DM
open PySem PySem.Spec L2
/-! ### targets: a name, a tuple of names -/
def TgOk (K : PySem.W.Frag) (g : TG) (f : D → Rho → Option Rho) (own : List Nat) : Prop :=
  ∀ v d σ ρ ρ' ι μ H (Q : L2.St → Hp → Prop), SR K ι H σ ρ → WF K ι μ H → VR K ι H v d → f d ρ = some ρ' → (∀ σ', SR K ι H σ' ρ' → wipe σ' own = wipe σ own → Q σ' H) → g v σ H Q
theorem wipe_set {σ : L2.St} {i : Nat} {x : Option V} : ∀ {vs : List Nat}, i ∈ vs → wipe (σ.set i x) vs = wipe σ vs
  | [], h => by simp at h
  | v :: vs, h => by
    unfold wipe
    by_cases e : i ∈ vs
    · rw [wipe_set e]
    · have e' : i = v := by
        rcases List.mem_cons.mp h with z | z
        · exact z
        · exact absurd z e
      subst e'
      have q : ∀ (ws : List Nat) (τ : L2.St), i ∉ ws → wipe (τ.set i x) ws = (wipe τ ws).set i x := by
        intro ws
        induction ws with
        | nil => intro τ _; rfl
        | cons w ws ih =>
          intro τ n
          have n1 : i ≠ w := fun z => n (by rw [z]; exact List.mem_cons_self)
          have n2 : i ∉ ws := fun z => n (List.mem_cons_of_mem _ z)
          unfold wipe
          rw [ih τ n2, List.set_comm _ _ n1]
      rw [q vs σ e, List.set_set]
def fName (i : Nat) : D → Rho → Option Rho := fun d ρ => some (ρ.set i (some d))
def setAll : List Nat → List D → Rho → Option Rho
  | [], [], ρ => some ρ
  | i :: r, d :: t, ρ => setAll r t (ρ.set i (some d))
  | _, _, _ => none
def fTup (is : List Nat) : D → Rho → Option Rho := fun d ρ => match d with
  | .tup ds => setAll is ds ρ
  | _ => none
def gNames : List Nat → TGs
  | [] => gNil
  | i :: r => gCons (gName i) (gNames r)
section
variable {K : PySem.W.Frag}
theorem tg_name {i : Nat} {own : List Nat} (h : i ∈ own) : TgOk K (gName i) (fName i) own := by
  intro v d σ ρ ρ' ι μ H Q sr wf vr e q
  cases e
  exact q _ (sr.set i vr) (wipe_set h)
theorem tg_names {own : List Nat} : ∀ (is : List Nat), (∀ i ∈ is, i ∈ own) → ∀ (vs : List V) (ds : List D) (σ σ0 : L2.St) (ρ ρ' : Rho) (ι : List Addr) (H : Hp) (Q : L2.St → Hp → Prop), SR K ι H σ ρ → VRs K ι H vs ds → setAll is ds ρ = some ρ' → wipe σ own = wipe σ0 own → (∀ σ', SR K ι H σ' ρ' → wipe σ' own = wipe σ0 own → Q σ' H) → gNames is vs σ H Q
  | [], hi, vs, ds, σ, σ0, ρ, ρ', ι, H, Q, sr, vr, e, z, q => by
    cases vr with
    | nil => simp only [setAll] at e; cases e; exact ⟨rfl, q σ sr z⟩
    | cons a b => simp [setAll] at e
  | i :: r, hi, vs, ds, σ, σ0, ρ, ρ', ι, H, Q, sr, vr, e, z, q => by
    cases vr with
    | nil => simp [setAll] at e
    | cons a b =>
      simp only [setAll] at e
      refine ⟨_, _, rfl, ?_⟩
      exact tg_names r (fun j hj => hi j (List.mem_cons_of_mem _ hj)) _ _ _ σ0 _ ρ' ι H Q (sr.set i a) b e (by rw [wipe_set (hi i List.mem_cons_self)]; exact z) q
theorem setAll_len : ∀ (is : List Nat) (ds : List D) (ρ ρ' : Rho), setAll is ds ρ = some ρ' → ds.length = is.length
  | [], [], _, _, _ => rfl
  | [], _ :: _, _, _, e => by simp [setAll] at e
  | _ :: _, [], _, _, e => by simp [setAll] at e
  | i :: r, d :: t, ρ, ρ', e => by simp only [setAll] at e; simp [setAll_len r t _ _ e]
theorem tg_tup {is own : List Nat} {n : Nat} (hn : is.length = n) (h : ∀ i ∈ is, i ∈ own) : TgOk K (gTup K n (gNames is)) (fTup is) own := by
  intro v d σ ρ ρ' ι μ H Q sr wf vr e q
  cases vr with
  | tup hh r => exact ⟨_, _, rfl, hh.sq, by rw [r.length, setAll_len _ _ _ _ e]; exact hn, tg_names is h _ _ σ σ ρ ρ' ι H Q sr r e rfl q⟩
  | _ => simp [fTup] at e
end
/-! ### what is walked -/
abbrev IV := List D × (Store → Bool)
def ItR (K : PySem.W.Frag) (ι0 : List Addr) (H0 : Hp) (J : It) (p : IV) : Prop :=
  ∀ (i : Nat) ι μ H, Le ι0 H0 ι H → WF K ι μ H → p.2 μ = true → (∀ d, p.1[i]? = some d → J.go i H ∧ ∀ x H', J.yld i H x H' → Le ι H ι H' ∧ WF K ι μ H' ∧ VR K ι H' x d) ∧ (p.1.length ≤ i → J.stop i H)
abbrev tI (K : PySem.W.Frag) (W : DW) (I : CM IV) : TI := tG (ItR K) K W I
def anyG : Store → Bool := fun _ => true
def isLst (c : Nat) (xs : List D) : Store → Bool := fun μ => match μ[c]? with
  | some (.lst ys) => beqs ys xs
  | _ => false
def iSeq (E : CM D) : CM IV := E.bind fun d _ μ => match d with
  | .lst xs => some (.ok (xs, anyG), μ)
  | .fl xs => some (.ok (xs, anyG), μ)
  | .ref c => match μ[c]? with
    | some (.lst xs) => some (.ok (xs, isLst c xs), μ)
    | _ => none
  | _ => none
def iTupD (E : CM D) : CM IV := E.bind fun d _ μ => match d with
  | .tup xs => some (.ok (xs, anyG), μ)
  | _ => none
def rngD (lo : Int) (n : Nat) : List D := (List.range n).map fun (i : Nat) => .int (lo + i)
def iRg1 (E : CM (List D)) : CM IV := E.bind fun ds _ μ => match ds with
  | [.int j] => if -(2 ^ 62) ≤ j ∧ j < 2 ^ 62 then some (.ok (rngD 0 j.toNat, anyG), μ) else none
  | _ => none
def iRg2 (E : CM (List D)) : CM IV := E.bind fun ds _ μ => match ds with
  | [.int i, .int j] => if -(2 ^ 62) ≤ i ∧ i < 2 ^ 62 ∧ -(2 ^ 62) ≤ j ∧ j < 2 ^ 62 then some (.ok (rngD i (j - i).toNat, anyG), μ) else none
  | _ => none
section
variable {K : PySem.W.Frag} {ι : List Addr} {H : Hp}
theorem itr_lst {a : Addr} {vs : List V} {ds : List D} (h : LstAt ι H a vs) (r : VRs K ι H vs ds) : ItR K ι H (Itl K a) (ds, anyG) := by
  intro i ι' μ H' l w _
  have h' := (h.mono l).sq (K := K)
  have r' := r.mono l
  refine ⟨fun d e => ?_, fun e => ⟨vs, h', by rw [r.length]; exact e⟩⟩
  obtain ⟨v, e1, q⟩ := r'.get e
  refine ⟨⟨vs, v, h', e1⟩, fun x H'' y => ?_⟩
  obtain ⟨rfl, y⟩ := y
  have z := y vs h'
  rw [e1] at z
  cases z
  exact ⟨Le.refl _ _, w, q⟩
theorem itr_fl {a : Addr} {vs : List V} {ds : List D} (h : FlAt K ι H a vs) (r : VRs K ι H vs ds) : ItR K ι H (Itl K a) (ds, anyG) := by
  intro i ι' μ H' l w _
  have h' := (h.mono l).sq (K := K)
  have r' := r.mono l
  refine ⟨fun d e => ?_, fun e => ⟨vs, h', by rw [r.length]; exact e⟩⟩
  obtain ⟨v, e1, q⟩ := r'.get e
  refine ⟨⟨vs, v, h', e1⟩, fun x H'' y => ?_⟩
  obtain ⟨rfl, y⟩ := y
  have z := y vs h'
  rw [e1] at z
  cases z
  exact ⟨Le.refl _ _, w, q⟩
theorem itr_tup {a : Addr} {vs : List V} {ds : List D} (h : TupAt K ι H a vs) (r : VRs K ι H vs ds) : ItR K ι H (Itt K a) (ds, anyG) := by
  intro i ι' μ H' l w _
  have h' := (h.mono l).sq (K := K)
  have r' := r.mono l
  refine ⟨fun d e => ?_, fun e => ⟨vs, h', by rw [r.length]; exact e⟩⟩
  obtain ⟨v, e1, q⟩ := r'.get e
  refine ⟨⟨vs, v, h', e1⟩, fun x H'' y => ?_⟩
  obtain ⟨rfl, y⟩ := y
  have z := y vs h'
  rw [e1] at z
  cases z
  exact ⟨Le.refl _ _, w, q⟩
theorem itr_cell {c : Nat} {a : Addr} {ds : List D} (hc : ι[c]? = some a) : ItR K ι H (Itl K a) (ds, isLst c ds) := by
  intro i ι' μ H' l w g
  have hc' := l.pre _ _ hc
  obtain ⟨o, ho, ro⟩ := w.has hc'
  have g' : (match μ[c]? with | some (Ob.lst ys) => beqs ys ds | _ => false) = true := g
  rw [ho] at g'
  cases o with
  | lst ys =>
    have e0 : ys = ds := beqs_eq _ _ g'
    subst e0
    obtain ⟨vs, ea, r⟩ := ro
    have h' : SqL K H' a vs := .inl (.inl ea)
    refine ⟨fun d e => ?_, fun e => ⟨vs, h', by rw [r.length]; exact e⟩⟩
    obtain ⟨v, e1, q⟩ := r.get e
    refine ⟨⟨vs, v, h', e1⟩, fun x H'' y => ?_⟩
    obtain ⟨rfl, y⟩ := y
    have z := y vs h'
    rw [e1] at z
    cases z
    exact ⟨Le.refl _ _, w, q⟩
  | _ => cases g'
theorem itr_rng (lo : Int) (n : Nat) : ItR K ι H (Itr lo n) (rngD lo n, anyG) := by
  intro i ι' μ H' l w _
  refine ⟨fun d e => ?_, fun e => ?_⟩
  · have hl : i < n := by
      have := (List.getElem?_eq_some_iff.mp e).1
      simpa [rngD] using this
    refine ⟨hl, fun x H'' y => ?_⟩
    obtain ⟨rfl, rfl⟩ := y
    have e' : d = .int (lo + i) := by
      have : (rngD lo n)[i]? = some d := e
      unfold rngD at this
      rw [List.getElem?_map, List.getElem?_range hl] at this
      cases this; rfl
    subst e'
    exact ⟨Le.refl _ _, w, .int _⟩
  · have : (rngD lo n).length ≤ i := e
    unfold rngD at this
    simp at this
    exact this
end
section
variable {X : Cx} {W : DW} {e tg : Expr} {E : CM D} {As : CM (List D)} {pos p : Pos} {a b : Expr}
theorem di_tup (he : PE X e (tE X.K W E)) : PI X tg e (tI X.K W (iTupD E)) := (pi_tup he).imp fun σ H R ⟨ρ, ι, μ, sr, wf, h⟩ => by
  refine tG.mono (PostG.bind sr wf h) ?_
  rintro x H1 ⟨ι1, μ1, d, l1, w1, vx, h1⟩
  cases vx with
  | tup hh r => exact ⟨_, rfl, ⟨_, hh.sq⟩, PostG.ok0 h1 w1 (itr_tup hh r)⟩
  | _ => exact h1.elim
theorem di_rg1 (hg : Gl X "range") (hm : X.mg "range" = none) (ha : PA X [a] (tA X.K W As)) (hs : starEach [a] X.env = [(false, eval a X.env)] := by rfl) : PI X tg (.Call (.Name "range" p) [a] [] pos) (tI X.K W (iRg1 As)) :=
  (pi_range1 hg hm ha hs).imp fun σ H R ⟨ρ, ι, μ, sr, wf, h⟩ => by
    refine tG.mono (PostG.bind sr wf h) ?_
    rintro xs H1 ⟨ι1, μ1, ds, l1, w1, vx, h1⟩
    split at h1
    · obtain ⟨x, rfl, v1⟩ := vx.one
      cases v1
      obtain ⟨q, h1⟩ := PostG.guard h1
      exact ⟨_, rfl, q.1, q.2, PostG.ok0 h1 w1 (itr_rng 0 _)⟩
    · exact h1.elim
theorem di_rg2 (hg : Gl X "range") (hm : X.mg "range" = none) (ha : PA X [a, b] (tA X.K W As)) (hs : starEach [a, b] X.env = [(false, eval a X.env), (false, eval b X.env)] := by rfl) (hs2 : starEach [b] X.env = [(false, eval b X.env)] := by rfl) : PI X tg (.Call (.Name "range" p) [a, b] [] pos) (tI X.K W (iRg2 As)) :=
  (pi_range2 hg hm ha hs hs2).imp fun σ H R ⟨ρ, ι, μ, sr, wf, h⟩ => by
    refine tG.mono (PostG.bind sr wf h) ?_
    rintro xs H1 ⟨ι1, μ1, ds, l1, w1, vx, h1⟩
    split at h1
    · obtain ⟨x, y, rfl, v1, v2⟩ := vx.two
      cases v1; cases v2
      obtain ⟨q, h1⟩ := PostG.guard h1
      exact ⟨_, _, rfl, q, PostG.ok0 h1 w1 (itr_rng _ _)⟩
    · exact h1.elim
end
/-! ### for -/
def loop (gd : Store → Bool) (g : D → Rho → Option Rho) (S : SF) : List D → SF
  | [] => fun ρ μ => if gd μ = true then some (.nx ρ, μ) else none
  | d :: r => fun ρ μ => if gd μ = true then (match g d ρ with
      | some ρ1 => match S ρ1 μ with
        | some (.nx ρ2, μ2) => loop gd g S r ρ2 μ2
        | some (.ct ρ2, μ2) => loop gd g S r ρ2 μ2
        | some (.bk ρ2, μ2) => some (.nx ρ2, μ2)
        | some (.rt d, μ2) => some (.rt d, μ2)
        | some (.ex x ρ2, μ2) => some (.ex x ρ2, μ2)
        | none => none
      | none => none) else none
def sFor (I : CM IV) (g : D → Rho → Option Rho) (S : SF) : SF := lft I fun p => loop p.2 g S p.1
theorem ds_for {X : Cx} {W : DW} {tg iter : Expr} {body : List Stmt} {I : CM IV} {g : TG} {f : D → Rho → Option Rho} {own : List Nat} {S : SF} {pos : Pos} (hp : PassesOwn (model X.prog X.w) X.A X.env X.xe) (hc : X.calm = true) (hi : PI X tg iter (tI X.K W I)) (hg : PG X tg g) (ht : TgOk X.K g f own) (hb : PSs X body (sD X.K W S))
    (hs : ∀ x, foldedSetIterable iter X.env x = pure x := by intro _; rfl) : PS X (.For tg iter body [] pos) (sD X.K W (sFor I f S)) := (ps_for hp hc hi hg hb hs).imp fun T σ H ⟨ρ, ι, μ, sr, wf, h⟩ => by
  refine tG.mono (PostS.bind sr wf h) ?_
  rintro J H1 ⟨ι1, μ1, ⟨items, gd⟩, l1, w1, hJ, h1⟩
  have h1 : PostS X.K W T ι1 H1 (loop gd f S items ρ μ1) := h1
  refine ⟨fun i m σ' H' => ∃ ρ' ι' μ', SR X.K ι' H' σ' ρ' ∧ WF X.K ι' μ' H' ∧ Le ι1 H1 ι' H' ∧ m = items.length - i ∧ i ≤ items.length ∧ PostS X.K W T ι' H' (loop gd f S (items.drop i) ρ' μ'),
    ⟨items.length, ρ, ι1, μ1, sr.mono l1, w1, Le.refl _ _, rfl, Nat.zero_le _, h1⟩, ?_⟩
  rintro i m σ2 H2 ⟨ρ2, ι2, μ2, sr2, w2, l2, rfl, hi2, h2⟩
  by_cases hlt : i < items.length
  · refine .inr ?_
    rw [List.drop_eq_getElem_cons hlt] at h2
    obtain ⟨hgd, h2⟩ := PostS.guard h2
    obtain ⟨go, _⟩ := hJ i ι2 μ2 H2 l2 w2 hgd
    obtain ⟨jg, jy⟩ := go _ (List.getElem?_eq_getElem hlt)
    refine ⟨jg, fun σ' H' => ∃ ρ' ι' μ', SR X.K ι' H' σ' ρ' ∧ WF X.K ι' μ' H' ∧ Le ι1 H1 ι' H' ∧ PostS X.K W T ι' H' (loop gd f S (items.drop (i + 1)) ρ' μ'), fun σ' H' ⟨ρ', ι', μ', a, b, c, d⟩ => ⟨items.length - (i + 1), by omega, ρ', ι', μ', a, b, c, rfl, hlt, d⟩, fun x H3 y => ?_⟩
    obtain ⟨l3, w3, v3⟩ := jy x H3 y
    split at h2
    · rename_i ρ3 eg
      refine ht x _ σ2 ρ2 ρ3 ι2 μ2 H3 _ (sr2.mono l3) w3 v3 eg fun σ3 sr3 _ => ⟨ρ3, ι2, μ2, sr3, w3, ?_⟩
      have h3 := PostS.from l3 h2
      have L := l2.trans l3
      match S ρ3 μ2, h3 with
      | some (.nx ρ4, μ4), h3 => exact fun σ4 ι4 H4 l w s => ⟨ρ4, ι4, μ4, s, w, L.trans l, PostS.from l h3⟩
      | some (.ct ρ4, μ4), h3 => exact fun σ4 ι4 H4 l w s => ⟨ρ4, ι4, μ4, s, w, L.trans l, PostS.from l h3⟩
      | some (.bk ρ4, μ4), h3 => exact h3
      | some (.rt d, μ4), h3 => exact h3
      | some (.ex x ρ4, μ4), h3 => exact h3
    · exact h2.elim
  · have e : i = items.length := by omega
    subst e
    rw [List.drop_length] at h2
    obtain ⟨hgd, h2⟩ := PostS.guard h2
    obtain ⟨_, st⟩ := hJ items.length ι2 μ2 H2 l2 w2 hgd
    exact .inl ⟨st (Nat.le_refl _), h2.nx0 w2 sr2⟩
end DM

namespace DM
open PySem PySem.Spec L2
/-! ### list comprehensions: the new list is a cell -/
def wipeR (ρ : Rho) : List Nat → Rho
  | [] => ρ
  | v :: vs => (wipeR ρ vs).set v none
theorem SR.unset {K : PySem.W.Frag} {ι : List Addr} {H : Hp} {σ : L2.St} {ρ : Rho} (s : SR K ι H σ ρ) (i : Nat) : SR K ι H (σ.set i none) (ρ.set i none) := by
  refine ⟨by simp [s.len], fun j e hj => ?_⟩
  by_cases z : i = j
  · subst z
    have hl : i < (ρ.set i none).length := (List.getElem?_eq_some_iff.mp hj).1
    rw [List.length_set] at hl
    rw [List.getElem?_set_self hl] at hj
    cases hj
  · rw [List.getElem?_set_ne z] at hj
    obtain ⟨w, a, b⟩ := s.at' j e hj
    exact ⟨w, by rw [List.getElem?_set_ne z]; exact a, b⟩
theorem SR.wipe {K : PySem.W.Frag} {ι : List Addr} {H : Hp} {σ : L2.St} {ρ : Rho} (s : SR K ι H σ ρ) : ∀ vs : List Nat, SR K ι H (L2.wipe σ vs) (wipeR ρ vs)
  | [] => s
  | v :: vs => (SR.wipe s vs).unset v
theorem wipe_sub {σ : L2.St} {vs : List Nat} : ∀ us : List Nat, (∀ u ∈ us, u ∈ vs) → wipe (wipe σ us) vs = wipe σ vs
  | [], _ => rfl
  | u :: us, h => by
    show wipe ((wipe σ us).set u none) vs = wipe σ vs
    rw [wipe_set (h u List.mem_cons_self)]
    exact wipe_sub us fun z hz => h z (List.mem_cons_of_mem _ hz)
def lcLoop (gd : Store → Bool) (g : D → Rho → Option Rho) (T : CM Bool) (E : CM D) (c : Nat) : List D → CM D
  | [] => fun _ μ => if gd μ = true then okR (.ref c) μ else none
  | d :: r => fun ρ μ => if gd μ = true then (match g d ρ with
      | some ρ1 => match T ρ1 μ with
        | some (.ok true, μ1) => match E ρ1 μ1 with
          | some (.ok y, μ2) => match μ2[c]? with
            | some (.lst acc) => if acc.length < sizeLine then lcLoop gd g T E c r ρ (μ2.set c (.lst (acc ++ [y]))) else none
            | _ => none
          | _ => none
        | some (.ok false, μ1) => lcLoop gd g T E c r ρ μ1
        | _ => none
      | none => none) else none
def eLC (I : CM IV) (g : D → Rho → Option Rho) (T : CM Bool) (E : CM D) (own : List Nat) : CM D := I.bind fun p ρ μ => lcLoop p.2 g T E μ.length p.1 (wipeR ρ own) (μ ++ [.lst []])
abbrev bYes : CM Bool := CM.ret true
section
variable {X : Cx} {W : DW}
theorem dts_nil : PTs X [] (tT X.K W bYes) := ⟨fun pins s σ H Q I ⟨ρ, ι, μ, sr, wf, h⟩ => pts_nil.run pins s σ H Q I (PostG.ok0 h wf rfl)⟩
theorem dts_one {c : Expr} {T : CM Bool} (h : PT X c (tT X.K W T)) : PTs X [c] (tT X.K W T) := pts_one h
theorem lcAux {K : PySem.W.Frag} {I : CM IV} {g : TG} {f : D → Rho → Option Rho} {T : CM Bool} {E : CM D} {vs : List Nat} (ht : TgOk K g f vs) (σ : L2.St) (H : Hp) (Q : VK) (h : tE K W (eLC I f T E vs) σ H Q) : tLc (tI K W I) g (tT K noX T) (tE K noX E) vs σ H Q := by
  obtain ⟨ρ, ι, μ, sr, wf, h⟩ := h
  refine tG.mono (PostG.bind sr wf h) ?_
  rintro J H1 ⟨ι1, μ1, ⟨items, gd⟩, l1, w1, hJ, h1⟩ Dd hD
  have h1 : PostG (VR K) K W σ ι1 H1 Q (lcLoop gd f T E μ1.length items (wipeR ρ vs) (μ1 ++ [.lst []])) := h1
  have lc := Le.cell (ι := ι1) (o := HO.lst []) hD
  have wc : WF K (ι1 ++ [Dd]) (μ1 ++ [.lst []]) (upd H1 Dd (.lst [])) := w1.cell hD ⟨[], upd_same, .nil⟩
  have hcc : (ι1 ++ [Dd])[μ1.length]? = some Dd := by rw [← w1.len]; simp
  have h1' := PostG.from lc h1
  refine ⟨fun i m H' => ∃ ι' μ', WF K ι' μ' H' ∧ Le (ι1 ++ [Dd]) (upd H1 Dd (.lst [])) ι' H' ∧ m = items.length - i ∧ i ≤ items.length ∧ PostG (VR K) K W σ ι' H' Q (lcLoop gd f T E μ1.length (items.drop i) (wipeR ρ vs) μ'),
    ⟨items.length, ι1 ++ [Dd], μ1 ++ [Ob.lst []], wc, Le.refl _ _, rfl, Nat.zero_le _, by rw [List.drop_zero]; exact h1'⟩, ?_⟩
  rintro i m H2 ⟨ι2, μ2, w2, l2, rfl, hi2, h2⟩
  have sr2 : SR K ι2 H2 (wipe σ vs) (wipeR ρ vs) := (sr.mono (l1.trans (lc.trans l2))).wipe vs
  have hcD : ι2[μ1.length]? = some Dd := l2.pre _ _ hcc
  by_cases hlt : i < items.length
  · refine .inr ?_
    rw [List.drop_eq_getElem_cons hlt] at h2
    obtain ⟨hgd, h2⟩ := PostG.guard h2
    obtain ⟨go, _⟩ := hJ i ι2 μ2 H2 (lc.trans l2) w2 hgd
    obtain ⟨jg, jy⟩ := go _ (List.getElem?_eq_getElem hlt)
    refine ⟨jg, fun H' => ∃ ι' μ', WF K ι' μ' H' ∧ Le (ι1 ++ [Dd]) (upd H1 Dd (.lst [])) ι' H' ∧ PostG (VR K) K W σ ι' H' Q (lcLoop gd f T E μ1.length (items.drop (i + 1)) (wipeR ρ vs) μ'), fun H' ⟨ι', μ', a, b, c⟩ => ⟨items.length - (i + 1), by omega, ι', μ', a, b, rfl, hlt, c⟩, fun x H3 y => ?_⟩
    obtain ⟨l3, w3, v3⟩ := jy x H3 y
    split at h2
    · rename_i ρ3 eg
      refine ht x _ (wipe σ vs) (wipeR ρ vs) ρ3 ι2 μ2 H3 _ (sr2.mono l3) w3 v3 eg fun σ3 sr3 hw => ⟨hw.trans (wipe_sub vs fun _ z => z), ρ3, ι2, μ2, sr3, w3, ?_⟩
      have h3 := PostG.from l3 h2
      have L := l2.trans l3
      match T ρ3 μ2, h3 with
      | some (.ok true, μ4), h3 =>
        intro ι4 H4 b l4 w4 eb
        subst eb
        rw [if_pos rfl]
        refine ⟨ρ3, ι4, μ4, sr3.mono l4, w4, ?_⟩
        have h4 := PostG.from l4 h3
        simp only [] at h4
        generalize E ρ3 μ4 = rE at h4 ⊢
        match rE, h4 with
        | some (.ok yd, μ5), h4 =>
          intro ι5 H5 yv l5 w5 vy
          have hc5 := l5.pre _ _ (l4.pre _ _ hcD)
          obtain ⟨o, ho, ro⟩ := w5.has hc5
          simp only [ho] at h4
          cases o with
          | lst acc =>
            obtain ⟨av, ea, ra⟩ := ro
            obtain ⟨q, h4⟩ := PostG.guard h4
            refine ⟨av, ea, by rw [ra.length]; exact q, ι5, _, w5.set hc5 (nf ea) (OR.mkL upd_same ((ra.append (.cons vy .nil)).mono (Le.set hc5 (nf ea)))), ((L.trans l4).trans l5).trans (Le.set hc5 (nf ea)), PostG.from (l5.trans (Le.set hc5 (nf ea))) h4⟩
          | _ => exact h4.elim
      | some (.ok false, μ4), h3 =>
        intro ι4 H4 b l4 w4 eb
        subst eb
        rw [if_neg Bool.false_ne_true]
        exact ⟨ι4, μ4, w4, L.trans l4, PostG.from l4 h3⟩
    · exact h2.elim
  · have e : i = items.length := by omega
    subst e
    rw [List.drop_length] at h2
    obtain ⟨hgd, h2⟩ := PostG.guard h2
    obtain ⟨_, st⟩ := hJ items.length ι2 μ2 H2 (lc.trans l2) w2 hgd
    exact .inl ⟨st (Nat.le_refl _), h2.ok0 w2 (.ref hcD)⟩
theorem d_lc {elt tg iter : Expr} {ifs : List Expr} {scope : Scope} {own : List (Str × Nat)} {pos : Pos} {I : CM IV} {g : TG} {f : D → Rho → Option Rho} {T : CM Bool} {E : CM D} (hc : X.calm = true) (hN : X.N.Nodup) (hi : PI X tg iter (tI X.K W I)) (ok : BlkOk X.N X.env.scope scope own)
    (hg : ∀ (s : Shared) (H : Hp) (C : Addr) (cl : List (Str × Addr)) (fp : List Addr), PG (X.blk s H scope (compEnvC scope cl C X.env) fp) tg g) (htg : TgOk X.K g f (own.map (·.2)))
    (ht : ∀ (s : Shared) (H : Hp) (C : Addr) (cl : List (Str × Addr)) (fp : List Addr), PTs (X.blk s H scope (compEnvC scope cl C X.env) fp) ifs (tT X.K noX T))
    (he : ∀ (s : Shared) (H : Hp) (C : Addr) (cl : List (Str × Addr)) (fp : List Addr), PE (X.blk s H scope (compEnvC scope cl C X.env) fp) elt (tE X.K noX E)) (hs : ∀ x, foldedSetIterable iter X.env x = pure x := by intro _; rfl) :
    PE X (.ListComp elt [⟨tg, iter, ifs, 0⟩] scope pos) (tE X.K W (eLC I f T E (own.map (·.2)))) := (pe_lc hc hN hi ok hg ht he hs).imp (lcAux htg)
end
/-! ### sealing: what was made within, and is reached by the result alone, is data -/
mutual
def noRef (n : Nat) : D → Bool
  | .non => true
  | .bl _ => true
  | .int _ => true
  | .str _ => true
  | .tup xs => noRefs n xs
  | .lst xs => noRefs n xs
  | .fl xs => noRefs n xs
  | .ref i => decide (i < n)
def noRefs (n : Nat) : List D → Bool
  | [] => true
  | x :: r => noRef n x && noRefs n r
end
def obOk (n : Nat) : Ob → Bool
  | .lst xs => noRefs n xs
  | .obj _ fs => noRefs n (fs.map (·.2))
  | .dct kvs => noRefs n (kvs.map (·.2))
  | .dcl kvs => noRefs n (kvs.map (·.2))
  | .dtt kvs => noRefs n (kvs.map (·.2))
  | .exc _ fs => noRefs n (fs.map (·.2))
  | .tab _ => true
  | .dnk kvs => noRefs n (kvs.map fun kv => D.tup kv.1) && noRefs n (kvs.map (·.2))
def mapO (f : D → Option D) : List D → Option (List D)
  | [] => some []
  | x :: r => match f x, mapO f r with
    | some y, some t => some (y :: t)
    | _, _ => none
def unref (n : Nat) (μ : Store) : Nat → D → Option D
  | 0, d => if noRef n d = true then some d else none
  | k + 1, d => if noRef n d = true then some d else match d with
    | .tup xs => (mapO (unref n μ k) xs).map .tup
    | .lst xs => (mapO (unref n μ k) xs).map .lst
    | .ref i => match μ[i]? with
      | some (.lst xs) => (mapO (unref n μ k) xs).map .lst
      | _ => none
    | _ => none
def sealR (n : Nat) (r : Res D) : Res D := match r with
  | some (.ok d, μ') => if (μ'.take n).all (obOk n) = true then (match unref n μ' 4 d with
    | some d' => some (.ok d', μ'.take n)
    | none => none) else none
  | some (.error x, μ') => some (.error x, μ')
  | none => none
def eSeal (E : CM D) : CM D := fun ρ μ => sealR μ.length (E ρ μ)
section
variable {K : PySem.W.Frag} {ι ι' : List Addr} {H' : Hp} {n : Nat}
mutual
theorem VR.cut (hn : ∀ i a, i < n → ι'[i]? = some a → ι[i]? = some a) (hs : ∀ a, a ∈ ι → a ∈ ι') : ∀ {v : V} {d : D}, VR K ι' H' v d → noRef n d = true → VR K ι H' v d
  | _, _, .non, _ => .non
  | _, _, .bl b, _ => .bl b
  | _, _, .int i, _ => .int i
  | _, _, .str x, _ => .str x
  | _, _, .tup h r, e => .tup (h.imp (fun z => ⟨z.1, fun m => z.2 (hs _ m)⟩) (Or.imp id fun z => ⟨z.1, fun m => z.2.1 (hs _ m), z.2.2⟩)) (VRs.cut hn hs r (by simpa [noRef] using e))
  | _, _, .lst h r, e => .lst ⟨h.1, fun m => h.2 (hs _ m)⟩ (VRs.cut hn hs r (by simpa [noRef] using e))
  | _, _, .fl h r, e => .fl (h.imp (fun z => ⟨z.1, fun m => z.2 (hs _ m)⟩) id) (VRs.cut hn hs r (by simpa [noRef] using e))
  | _, _, .ref h, e => .ref (hn _ _ (by simpa [noRef] using e) h)
theorem VRs.cut (hn : ∀ i a, i < n → ι'[i]? = some a → ι[i]? = some a) (hs : ∀ a, a ∈ ι → a ∈ ι') : ∀ {vs : List V} {ds : List D}, VRs K ι' H' vs ds → noRefs n ds = true → VRs K ι H' vs ds
  | _, _, .nil, _ => .nil
  | _, _, .cons h r, e => by
    simp only [noRefs, Bool.and_eq_true] at e
    exact .cons (VR.cut hn hs h e.1) (VRs.cut hn hs r e.2)
end
theorem unref_vr {μ' : Store} (w : WF K ι' μ' H') (hn : ∀ i a, i < n → ι'[i]? = some a → ι[i]? = some a) (hs : ∀ a, a ∈ ι → a ∈ ι') (ho : ∀ (i : Nat) a, ι'[i]? = some a → ¬ i < n → a ∉ ι) :
    ∀ (k : Nat) (v : V) (d d' : D), VR K ι' H' v d → unref n μ' k d = some d' → VR K ι H' v d' := by
  intro k
  induction k with
  | zero =>
    intro v d d' h e
    unfold unref at e
    by_cases z : noRef n d = true
    · rw [if_pos z] at e; cases e; exact h.cut hn hs z
    · rw [if_neg z] at e; cases e
  | succ k ih =>
    intro v d d' h e
    have all : ∀ (ds : List D) (vs : List V) (ds' : List D), VRs K ι' H' vs ds → mapO (unref n μ' k) ds = some ds' → VRs K ι H' vs ds' := by
      intro ds
      induction ds with
      | nil => intro vs ds' r e; cases r; simp only [mapO] at e; cases e; exact .nil
      | cons x t iht =>
        intro vs ds' r e
        cases r with
        | cons a b =>
          simp only [mapO] at e
          match e1 : unref n μ' k x, e2 : mapO (unref n μ' k) t, e with
          | some y, some u, e => cases e; exact .cons (ih _ _ _ a e1) (iht _ _ b e2)
    unfold unref at e
    by_cases z : noRef n d = true
    · rw [if_pos z] at e; cases e; exact h.cut hn hs z
    · rw [if_neg z] at e
      cases h with
      | tup hh r =>
        obtain ⟨t, e1, rfl⟩ := Option.map_eq_some_iff.mp e
        exact .tup (hh.imp (fun z => ⟨z.1, fun m => z.2 (hs _ m)⟩) (Or.imp id fun z => ⟨z.1, fun m => z.2.1 (hs _ m), z.2.2⟩)) (all _ _ _ r e1)
      | lst hh r =>
        obtain ⟨t, e1, rfl⟩ := Option.map_eq_some_iff.mp e
        exact .lst ⟨hh.1, fun m => hh.2 (hs _ m)⟩ (all _ _ _ r e1)
      | ref hi =>
        rename_i a i
        have hi' : ¬ i < n := by simpa [noRef] using z
        obtain ⟨o, hob, ro⟩ := w.has hi
        simp only [hob] at e
        cases o with
        | lst xs =>
          obtain ⟨t, e1, rfl⟩ := Option.map_eq_some_iff.mp e
          obtain ⟨vs, ea, r⟩ := ro
          exact .lst ⟨ea, ho _ _ hi hi'⟩ (all _ _ _ r e1)
        | _ => cases e
      | _ => cases e
end
theorem sealAux {K : PySem.W.Frag} {W : DW} {σ : L2.St} {ι : List Addr} {H : Hp} {Q : VK} {μ : Store} {r : Res D} (wf : WF K ι μ H) (h : PostG (VR K) K W σ ι H Q (sealR μ.length r)) : PostG (VR K) K W σ ι H Q r := by
  unfold sealR at h
  match r, h with
  | some (.ok d, μ'), h =>
    obtain ⟨hob, h⟩ := PostG.guard h
    match e : unref μ.length μ' 4 d, h with
    | some d', h =>
      intro ι' H' v l w r
      have hlen : ι.length = μ.length := wf.len
      have hn : ∀ i a, i < μ.length → ι'[i]? = some a → ι[i]? = some a := fun i a hi q => by
        rw [← hlen] at hi
        have q2 := l.pre i _ (List.getElem?_eq_getElem hi)
        rw [q] at q2
        rw [List.getElem?_eq_getElem hi, q2]
      have hs : ∀ a, a ∈ ι → a ∈ ι' := fun a ha => by
        obtain ⟨i, hi⟩ := List.getElem?_of_mem ha
        exact List.mem_of_getElem? (l.pre _ _ hi)
      have ho : ∀ (i : Nat) a, ι'[i]? = some a → ¬ i < μ.length → a ∉ ι := fun i a hi hni ha => by
        obtain ⟨j, hj⟩ := List.getElem?_of_mem ha
        have hj2 := l.pre _ _ hj
        have hjl : j < μ.length := by rw [← hlen]; exact (List.getElem?_eq_some_iff.mp hj).1
        have h1 := List.getElem?_eq_some_iff.mp hi
        have h2 := List.getElem?_eq_some_iff.mp hj2
        have := (List.getElem_inj w.nd).mp (h1.2.trans h2.2.symm)
        omega
      have le : Le ι H ι H' := ⟨fun _ _ z => z, fun _ z n => absurd z n, fun a o n z => l.keep a o n z, l.frz⟩
      have hle : μ.length ≤ μ'.length := by
        rw [← w.len, ← hlen]
        by_cases z : ι.length = 0
        · omega
        · have hi : ι.length - 1 < ι.length := by omega
          have := (List.getElem?_eq_some_iff.mp (l.pre _ _ (List.getElem?_eq_getElem hi))).1
          omega
      have wf' : WF K ι (μ'.take μ.length) H' := by
        refine ⟨by rw [List.length_take, hlen]; omega, wf.nd, fun i a o hi hu => ?_⟩
        have hil : i < μ.length := by rw [← hlen]; exact (List.getElem?_eq_some_iff.mp hi).1
        rw [List.getElem?_take_of_lt hil] at hu
        have q := w.ob i a o (l.pre _ _ hi) hu
        have qo : obOk μ.length o = true := List.all_eq_true.mp hob o (List.mem_of_getElem? (by rw [List.getElem?_take_of_lt hil]; exact hu))
        cases o with
        | lst xs =>
          obtain ⟨vs, ea, r⟩ := q
          exact ⟨vs, ea, r.cut hn hs qo⟩
        | obj C fs =>
          obtain ⟨dx, gs, ea, k, r, z⟩ := q
          exact ⟨dx, gs, ea, k, r.cut hn hs qo, z⟩
        | dct kvs =>
          obtain ⟨qs, ea, k, r⟩ := q
          exact ⟨qs, ea, k, r.cut hn hs qo⟩
        | dcl kvs =>
          obtain ⟨u, qs, ea, k, r⟩ := q
          exact ⟨u, qs, ea, k, r.cut hn hs qo⟩
        | dtt kvs =>
          obtain ⟨qs, ea, k, r⟩ := q
          exact ⟨qs, ea, k, r.cut hn hs qo⟩
        | exc C fs =>
          obtain ⟨d, gs, ea, ed, nd, k, r⟩ := q
          exact ⟨d, gs, ea, ed, fun m => nd (hs _ m), k, r.cut hn hs qo⟩
        | tab tx =>
          obtain ⟨z, ps, e1, e2, e3⟩ := q
          exact ⟨z, ps, e1, e2, fun pos cv hc => let ⟨c, a1, a2, a3⟩ := e3 pos cv hc; ⟨c, a1, a2, fun m => a3 (hs _ m)⟩⟩
        | dnk kvs =>
          obtain ⟨bs, vs, ea, k, r, z⟩ := q
          have qo : (noRefs μ.length (kvs.map fun kv => D.tup kv.1) && noRefs μ.length (kvs.map (·.2))) = true := qo
          rw [Bool.and_eq_true] at qo
          exact ⟨bs, vs, ea, k.cut hn hs qo.1, r.cut hn hs qo.2, z⟩
      exact h.ok le wf' (unref_vr w hn hs ho 4 v d d' r e)
  | some (.error x, μ'), h => exact h
theorem d_seal {X : Cx} {W : DW} {e : Expr} {E : CM D} (h : PE X e (tE X.K W E)) : PE X e (tE X.K W (eSeal E)) := h.imp fun σ H Q ⟨ρ, ι, μ, sr, wf, h⟩ => ⟨ρ, ι, μ, sr, wf, sealAux wf h⟩
end DM

namespace DM
open PySem PySem.Spec L2
open PyProof.Rows (envOfC)
/-! ### defs -/
abbrev XRel := Ex → Value → Option Addr → List Addr → Hp → Prop
abbrev FD := List D → Store → Res D
/-- an own exception: its class, its fields in its dict -/
def xrS (K : PySem.W.Frag) : XRel := fun x c dd ι H => c = .ref (He.ga K x.cls) ∧ ∃ d gs, dd = some d ∧ d ∉ ι ∧ H d = some (.xd gs) ∧ gs.map (·.1) = x.fs.map (·.1) ∧ VRs K ι H (gs.map (·.2)) (x.fs.map (·.2))
/-- this context takes the exceptions that W wishes -/
def TkX (X : Cx) (W : DW) : Prop := ∃ W' : WX, Takes X W' ∧ ∀ x ι c dd σ H, W x ι σ H → xrS X.K x c dd ι H → W' c dd σ H
theorem nx_no {X : Cx} : TkX X noX := ⟨fun _ _ _ _ => False, takes0, fun _ _ _ _ _ _ h _ => h⟩
def PostF (K : PySem.W.Frag) (xr : XRel) (ι : List Addr) (H : Hp) (Q : VK) (E : XK) : Res D → Prop
  | some (.ok d, μ') => ∀ ι' H' v, Le ι H ι' H' → WF K ι' μ' H' → VR K ι' H' v d → Q v H'
  | some (.error x, μ') => ∀ ι' H' c dd, Le ι H ι' H' → WF K ι' μ' H' → xr x c dd ι' H' → E c dd H'
  | none => False
structure FnG (P : Program) (w : World) (K : PySem.W.Frag) (mg : Str → Option Value) (base : Heap) (xr : XRel) (k : Nat) (f : Addr) (fd : FuncData) (ps : List Str) (F : FD) : Prop where
  go : ∀ {A : Around} {outer : List Env} {s : Shared} {H : Hp} {args : Args} {us : List Value} {vs : List V} {ι : List Addr} {μ : Store} {ds : List D} {Q : VK} {E : XK},
    Room k A → A.guards = some [] → Env0 P w K mg base A outer s H → BindsTo s fd args (ps.zip us) → Vals vs us → vs.length = ps.length → WF K ι μ H → VRs K ι H vs ds → PostF K xr ι H Q E (F ds μ) →
      codeAny (model P w) A (.call (.ref f) args) (CR (L2.CX P w) outer P w H s Q E) s
theorem FnG.mono {P : Program} {w : World} {K : PySem.W.Frag} {mg : Str → Option Value} {base : Heap} {xr : XRel} {j k : Nat} {f : Addr} {fd : FuncData} {ps : List Str} {F : FD} (h : FnG P w K mg base xr j f fd ps F) (l : j ≤ k) : FnG P w K mg base xr k f fd ps F :=
  ⟨fun hr => h.go (hr.mono l)⟩
/-- what a body's statement gives, as a def's result -/
def resOf : Option (Fl × Store) → Res D
  | some (.nx _, μ) => some (.ok .non, μ)
  | some (.rt d, μ) => some (.ok d, μ)
  | some (.ex x _, μ) => some (.error x, μ)
  | _ => none
def startR (n : Nat) (ds : List D) : Rho := ds.map some ++ List.replicate (n - ds.length) none
/-- n: all names; m: the parameters -/
def fnD (n m : Nat) (S : SF) : FD := fun ds μ => if ds.length = m then resOf (S (startR n ds) μ) else none
def noExS (S : SF) : SF := fun ρ μ => match S ρ μ with
  | some (.ex _ _, _) => none
  | o => o
def resP : Option (Fl × Store) → Res D
  | some (.nx _, μ) => some (.ok .non, μ)
  | some (.rt d, μ) => some (.ok d, μ)
  | _ => none
def fnP (n m : Nat) (S : SF) : FD := fun ds μ => if ds.length = m then resP (S (startR n ds) μ) else none
def fnSeal (F : FD) : FD := fun ds μ => sealR μ.length (F ds μ)
theorem SR.start {K : PySem.W.Frag} {ι : List Addr} {H : Hp} {N : List Str} {vs : List V} {ds : List D} (r : VRs K ι H vs ds) : SR K ι H (start N vs) (startR N.length ds) := by
  unfold L2.start startR
  refine ⟨by simp [r.length], fun i d h => ?_⟩
  by_cases hi : i < ds.length
  · rw [List.getElem?_append_left (by simpa using hi), List.getElem?_map] at h
    obtain ⟨e, h1, h2⟩ := Option.map_eq_some_iff.mp h
    cases h2
    obtain ⟨v, q1, q2⟩ := r.get h1
    refine ⟨v, ?_, q2⟩
    rw [List.getElem?_append_left (by simpa [r.length] using hi), List.getElem?_map, q1]
    rfl
  · rw [List.getElem?_append_right (by simpa using hi), List.getElem?_replicate] at h
    split at h <;> cases h
section
variable {P : Program} {w : World} {K : PySem.W.Frag} {mg : Str → Option Value} {base : Heap} {xr : XRel}
/-- a def that lets no exception out of its body's walk (W = noX) or lets it out as xr says -/
theorem fnG_mk {x qual : Str} {pa : Arguments} {body : List Stmt} {sc : Scope} {dvs : List V} {kws : List (Str × V)} {f : Addr} {fd : FuncData} {N ps : List Str} {k m n : Nat} {S : SF} (Fd : FunD K x qual pa body sc dvs kws f fd) (Sc : FnScope N ps sc) (hm : ps.length = m) (hn : N.length = n)
    (hb : ∀ (cdv : Value) (A : Around) (outer : List Env) (s : Shared) (H : Hp) (E : XK), Room k (A.deeper (envOfC qual sc s.heap.objs.size f cdv)) → (A.deeper (envOfC qual sc s.heap.objs.size f cdv)).guards = some [] →
      PSs (cxOf (L2.CX P w) P w K mg base N qual sc f cdv A outer s H E) body (sD K (fun x ι _ H' => ∀ c dd, xr x c dd ι H' → E c dd H') S)) : FnG P w K mg base xr (k + 1) f fd ps (fnD n m S) := by
  obtain ⟨oc, od, dV, kV, doc, pm, an, cdv, ct, osl, rfl, lk, hcd, _, _⟩ := Fd.ex
  refine ⟨fun {A outer s H args us vs ι μ ds Q E} hr hG e0 bt rv hl wf vr post => ?_⟩
  have inK : K.In s.heap := e0.mod.kin.keeps (fun b o q => (e0.bs b o q).1)
  have noLim : s.heap.NoLimit := e0.mod.nolimit.keeps (fun b o q => (e0.bs b o q).1)
  have names : ∀ y ∈ ps.zip us, sc.names.lookup y.1 = some .local ∨ (sc.names.lookup y.1 = some .cell ∧ ((cellsFrom (s.heap.objs.size + 1) sc.names []).lookup y.1).isSome = true) := by
    rintro ⟨nm, v⟩ hy
    exact (Sc.par nm (List.of_mem_zip hy).1).imp id (fun q => ⟨q, PySem.W.cellsFrom_some _ _ _ (.inl q)⟩)
  refine codeAny_call_function hr.depth (inK _ _ lk) rfl Sc.co Sc.gen rfl (PySem.W.codeRec_of inK hcd) (bt _ _ _ _ (wpAny_newFunctionEnv_cells Sc.kind names (fun env he s1 ic => ?_)))
  subst he
  have J : Inv (cxOf (L2.CX P w) P w K mg base N qual sc f cdv A outer s H E) [] (start N vs) H s1 := inv_start Sc hr.hd e0 hl rv ic
  have hds : ds.length = m := by rw [← vr.length, hl, hm]
  have post' : PostF K xr ι H Q E (resOf (S (startR n ds) μ)) := by
    unfold fnD at post
    rw [if_pos hds] at post
    exact post
  have st : sD K (fun x ι _ H' => ∀ c dd, xr x c dd ι H' → E c dd H') S { nx := fun _ H' => Q .non H', rt := Q } (start N vs) H := by
    refine ⟨startR n ds, ι, μ, by rw [← hn]; exact SR.start vr, wf, ?_⟩
    match S (startR n ds) μ, post' with
    | some (.nx _, _), q => exact fun _ ι' H' l w _ => q ι' H' .non l w .non
    | some (.rt d, _), q => exact q
    | some (.ex x _, _), q => exact fun _ ι' H' l w _ c dd z => q ι' H' c dd l w z
  refine ⟨noLim.keeps ic.toInCall.keep, codeAny_func (wpAny_mono ((hb cdv A outer s H E (hr.deeper _) hG).run [] s1 _ H _ J st) (fun fl s' q => ?_) (fun _ _ q => q))⟩
  cases fl with
  | next =>
    obtain ⟨σ', H', J', z⟩ := q
    exact ⟨.non, H', J'.os, J'.bare, J'.base, J'.hok, rfl, z⟩
  | ret u =>
    obtain ⟨v, σ', H', J', rv', z⟩ := q
    exact ⟨v, H', J'.os, J'.bare, J'.base, J'.hok, rv', z⟩
  | brk =>
    obtain ⟨_, _, _, z⟩ := q
    exact z.elim
  | cont =>
    obtain ⟨_, _, _, z⟩ := q
    exact z.elim
theorem FnG.imp {k : Nat} {f : Addr} {fd : FuncData} {ps : List Str} {F F' : FD} (h : FnG P w K mg base xr k f fd ps F) (q : ∀ ι μ ds H Q E, WF K ι μ H → PostF K xr ι H Q E (F' ds μ) → PostF K xr ι H Q E (F ds μ)) : FnG P w K mg base xr k f fd ps F' :=
  ⟨fun hr hG e0 bt rv hl wf vr post => h.go hr hG e0 bt rv hl wf vr (q _ _ _ _ _ _ wf post)⟩
/-- the usual case: nothing is raised -/
theorem fnG_pure {x qual : Str} {pa : Arguments} {body : List Stmt} {sc : Scope} {dvs : List V} {kws : List (Str × V)} {f : Addr} {fd : FuncData} {N ps : List Str} {k m n : Nat} {S : SF} (Fd : FunD K x qual pa body sc dvs kws f fd) (Sc : FnScope N ps sc) (hm : ps.length = m) (hn : N.length = n)
    (hb : ∀ (cdv : Value) (A : Around) (outer : List Env) (s : Shared) (H : Hp) (E : XK), Room k (A.deeper (envOfC qual sc s.heap.objs.size f cdv)) → (A.deeper (envOfC qual sc s.heap.objs.size f cdv)).guards = some [] →
      PSs (cxOf (L2.CX P w) P w K mg base N qual sc f cdv A outer s H E).nox body (sD K noX S)) : FnG P w K mg base xr (k + 1) f fd ps (fnP n m S) := by
  have h := fnG_mk (xr := xr) (S := noExS S) Fd Sc hm hn fun cdv A outer s H E hr hG => PSs.imp (PSs.nox (hb cdv A outer s H E hr hG)) fun T σ H ⟨ρ, ι, μ, sr, wf, h⟩ => ⟨ρ, ι, μ, sr, wf, by
    unfold noExS at h
    generalize S ρ μ = r at h ⊢
    match r, h with
    | some (.nx _, _), h => exact h
    | some (.rt _, _), h => exact h
    | some (.bk _, _), h => exact h
    | some (.ct _, _), h => exact h⟩
  refine h.imp fun ι μ ds H Q E wf post => ?_
  unfold fnP at post
  unfold fnD noExS
  split at post
  · rename_i z
    rw [if_pos z]
    generalize S (startR n ds) μ = r at post ⊢
    match r, post with
    | some (.nx _, _), h => exact h
    | some (.rt _, _), h => exact h
  · exact post.elim
theorem FnG.seal {k : Nat} {f : Addr} {fd : FuncData} {ps : List Str} {F : FD} (h : FnG P w K mg base xr k f fd ps F) : FnG P w K mg base xr k f fd ps (fnSeal F) :=
  h.imp fun ι μ ds H Q E wf post => by
    unfold fnSeal at post
    have := sealAux (K := K) (W := fun x ι _ H' => ∀ c dd, xr x c dd ι H' → E c dd H') (σ := []) (ι := ι) (H := H) (Q := Q) (r := F ds μ) wf (by
      match sealR μ.length (F ds μ), post with
      | some (.ok _, _), post => exact post
      | some (.error _, _), post => exact fun ι' H' l w c dd z => post ι' H' c dd l w z)
    match F ds μ, this with
    | some (.ok _, _), q => exact q
    | some (.error _, _), q => exact fun ι' H' c dd l w z => q ι' H' l w c dd z
end
/-! ### calls -/
def eCall (F : FD) (A : CM (List D)) (dfl : List D) : CM D := A.bind fun ds _ μ => F (ds ++ dfl) μ
section
variable {X : Cx} {W : DW} {xr : XRel} {k : Nat} {f : Addr} {fd : FuncData} {ps : List Str} {F : FD} {x : Str} {p pos : Pos} {e : Expr} {es : List Expr} {As : CM (List D)} {dvs : List V} {dds : List D} {ds0 : List Value}
theorem runG {pins : List (Addr × Obj)} {σ : L2.St} {H : Hp} {s : Shared} {Q : VK} {us : List Value} {vs : List V} {ι : List Addr} {μ : Store} {ds : List D} (G : FnG X.prog X.w X.K X.mg X.base (xrS X.K) k f fd ps F) (hr : Room k X.A) (hG : X.A.guards = some []) (hb : Binds X.K fd ps ds0) (hd : Vals dvs ds0) (hdd : ∀ ι H, VRs X.K ι H dvs dds) (hlen : ∀ ds μ, F ds μ ≠ none → ds.length = ps.length) (hW : TkX X W)
    (I : Inv X pins σ H s) (r : Vals vs us) (wf : WF X.K ι μ H) (vr : VRs X.K ι H vs ds) (h : PostG (VR X.K) X.K W σ ι H Q (F (ds ++ dds) μ)) : wpAny (model X.prog X.w) X.A (call (.ref f) us) (EP X pins σ Q) X.xe s := by
  have rr : Vals (vs ++ dvs) (us ++ ds0) := r.append hd
  have vv : VRs X.K ι H (vs ++ dvs) (ds ++ dds) := vr.append (hdd ι H)
  have nn : F (ds ++ dds) μ ≠ none := fun z => by rw [z] at h; exact h
  have hl : (vs ++ dvs).length = ps.length := by rw [vv.length]; exact hlen _ _ nn
  obtain ⟨W1, tk1, hW1⟩ := hW
  have post : PostF X.K (xrS X.K) ι H Q (fun c dd H9 => W1 c dd σ H9) (F (ds ++ dds) μ) := by
    match F (ds ++ dds) μ, h with
    | some (.ok _, _), h => exact h
    | some (.error x, _), h => exact fun ι' H' c dd l w z => hW1 _ _ _ _ _ _ (h ι' H' l w) z
  refine wpAny_call (codeAny_mono (G.go hr hG I.env0 (hb s us I.kIn (by rw [← rr.length]; exact hl)) rr hl wf vv post) (fun r s' q => ?_))
  cases r with
  | error z => exact passAt tk1 σ pins H s z s' I q
  | ok fl =>
    cases fl with
    | ret u => exact I.after q
    | next => exact q.elim
    | brk => exact q.elim
    | cont => exact q.elim
theorem d_call (G : FnG X.prog X.w X.K X.mg X.base (xrS X.K) k f fd ps F) (hr : Room k X.A) (hG : X.A.guards = some []) (hg : Gl X x) (hm : X.mg x = some (.ref f)) (hk : PySem.W.keepIn X.K (.ref f) = true) (hb : Binds X.K fd ps ds0) (hd : Vals dvs ds0) (hdd : ∀ ι H, VRs X.K ι H dvs dds) (hlen : ∀ ds μ, F ds μ ≠ none → ds.length = ps.length) (ha : PA X (e :: es) (tA X.K W As)) (hW : TkX X W)
    (hdb : (x == ("__debug__" : Str)) = false := by decide) (he : starEach (e :: es) X.env = (false, eval e X.env) :: starEach es X.env := by rfl) (hpl : (backTo pos (starEach es X.env)).any (·.1) = false := by rfl) :
    PE X (.Call (.Name x p) (e :: es) [] pos) (tE X.K W (eCall F As dds)) := by
  refine ⟨fun pins s σ H Q I ⟨ρ, ι, μ, sr, wf, h⟩ => ?_⟩
  refine wpAny_Call_Name_kw (ld_glob I hg hm ?_ hdb)
  refine PySem.W.callWith_K (h₀ := X.base) I.ok.mod.kin hk (thn (ha.run pos pins s σ H _ I (PostG.bind sr wf h)) ?_) he hpl
  rintro us s1 ⟨vs, H1, I1, r, ι1, μ1, ds, l1, w1, v1, h1⟩
  exact ⟨I1.kIn, runG G hr hG hb hd hdd hlen hW I1 r w1 v1 h1⟩
theorem d_call0 (G : FnG X.prog X.w X.K X.mg X.base (xrS X.K) k f fd ps F) (hr : Room k X.A) (hG : X.A.guards = some []) (hg : Gl X x) (hm : X.mg x = some (.ref f)) (hk : PySem.W.keepIn X.K (.ref f) = true) (hb : Binds X.K fd ps ds0) (hd : Vals dvs ds0) (hdd : ∀ ι H, VRs X.K ι H dvs dds) (hlen : ∀ ds μ, F ds μ ≠ none → ds.length = ps.length) (hW : TkX X W)
    (hdb : (x == ("__debug__" : Str)) = false := by decide) : PE X (.Call (.Name x p) [] [] pos) (tE X.K W (eCall F aNil dds)) := by
  refine ⟨fun pins s σ H Q I ⟨ρ, ι, μ, sr, wf, h⟩ => ?_⟩
  refine wpAny_Call_Name_kw (ld_glob I hg hm ?_ hdb)
  exact PySem.W.callWith_K0 I.kIn hk (runG (us := []) G hr hG hb hd hdd hlen hW I .nil wf .nil h)
theorem fnP_len {n m : Nat} {S : SF} (ds : List D) (μ : Store) (h : fnP n m S ds μ ≠ none) : ds.length = m := by
  unfold fnP at h
  by_cases z : ds.length = m
  · exact z
  · rw [if_neg z] at h; exact absurd rfl h
theorem fnSeal_len {F : FD} {m : Nat} (hF : ∀ ds μ, F ds μ ≠ none → ds.length = m) (ds : List D) (μ : Store) (h : fnSeal F ds μ ≠ none) : ds.length = m := hF ds μ fun z => h (by unfold fnSeal; rw [z]; rfl)
end
end DM

namespace DM
open PySem PySem.Spec L2
open PyProof.Rows (AllBare)
def scriptD (ns : List Int) : D := .fl (ns.map D.int)
theorem vrs_ints {K : PySem.W.Frag} {ι : List Addr} {H : Hp} : ∀ ns : List Int, VRs K ι H (ns.map V.int) (ns.map D.int)
  | [] => .nil
  | n :: r => .cons (.int n) (vrs_ints r)
section
variable {P : Program} {w : World} {K : PySem.W.Frag} {mg mb : Str → Option Value} {k : Nat} {fa a : Addr} {fd : FuncData} {x : Str} {F : FD} {s1 : Shared} {us : List Value} {ns : List Int}
/-- what is tracked at the law's entry: nothing, or the script -/
theorem law_at {H : Hp} (KX : K.In s1.heap) (hns : s1.heap.Ns mainGlobals mg) (hbt : s1.heap.Ns builtinsNs mb) (hbb : ∀ x : Str, x ≠ "__name__" → mb x = bootBuiltins x) (hlim : s1.heap.NoLimit) (hg : s1.gens = #[])
    (ha : s1.heap.get? a = some { cls := .type "list", data := .seq us.toArray }) (hr : Room k callerA)
    (G : ∀ base : Heap, K.In base → base.Ns mainGlobals mg → FnG P w K mg base (xrS K) k fa fd [x] F) (hbind : ∀ (s : Shared) (u : Value), BindsTo s fd ⟨[u], []⟩ [(x, u)])
    (hF : ∃ μ', F [scriptD ns] [] = some (.ok (.bl true), μ')) (hO : Only H) (hS : FlAt K [] H a (ns.map V.int)) (hok : HOk P w H s1.heap) (hA : ∀ b, H b ≠ none → b = a) (hK : H a ≠ none → K.lookup a = none) :
    codeAny (model P w) callerA (.call (.ref fa) ⟨[.ref a], []⟩) (fun r s' => r = .ok (.ret (.bool true)) ∧ OldK s1.heap s'.heap ∧ s'.os = s1.os ∧ AllBare s'.gens) s1 := by
  -- an object that is no list of the script's address is not tracked
  have free : ∀ {b : Addr}, b ≠ a → H b = none := fun {b} nb => by
    cases q : H b with
    | none => rfl
    | some u => exact absurd (hA b (by rw [q]; simp)) nb
  have dictFree : ∀ {b : Addr} {o : Obj} {es : Array DictEntry} {ep : Nat}, s1.heap.get? b = some o → o.data = .dict es ep → H b = none := fun {b o es ep} e d => free fun z => by
    subst z
    rw [ha] at e
    cases e
    cases (show Data.seq us.toArray _ = Data.dict es ep from d)
  have nsBase : ∀ {b : Addr} {m : Str → Option Value}, s1.heap.Ns b m → (hidT s1.heap H).Ns b m := by
    rintro b m ⟨o, es, ep, e, d, r⟩
    exact ⟨o, es, ep, hidT_get e (dictFree e d), d, r⟩
  have kBase : K.In (hidT s1.heap H) := fun b o e => by
    refine hidT_get (KX b o e) ?_
    cases q : H b with
    | none => rfl
    | some u =>
      have z : b = a := hA b (by rw [q]; simp)
      subst z
      rw [hK (by rw [q]; simp)] at e
      cases e
  have limBase : (hidT s1.heap H).NoLimit := by
    obtain ⟨mc, h1, h2⟩ := hlim
    exact ⟨mc, nsBase h1, h2⟩
  have e0 : Env0 P w K mg (hidT s1.heap H) callerA [] s1 H :=
    { frames := rfl, mod := ⟨kBase, nsBase hns, ⟨mb, nsBase hbt, hbb⟩, limBase⟩, bs := fun b o e => of_hidT e, bsz := Nat.le_of_eq (hidT_size _ _), funs := trivial, frf := fun b hb => absurd (show b ∈ ([] : List Addr) from hb) (by simp), hok := hok, bare := .of_eq hg }
  have wf : WF K [] [] H := ⟨rfl, List.nodup_nil, fun i a o hi _ => by simp at hi⟩
  have vr : VRs K [] H [V.ref a] [scriptD ns] := .cons (.fl hS (vrs_ints ns)) .nil
  have post : PostF K (xrS K) [] H (fun v _ => v = .bl true) (fun _ _ _ => False) (F [scriptD ns] []) := by
    obtain ⟨μ', e⟩ := hF
    rw [e]
    intro ι' H' v _ _ r
    cases r
    rfl
  refine codeAny_mono ((G _ kBase (nsBase hns)).go (us := [.ref a]) hr rfl e0 (hbind s1 (.ref a)) (vs := [V.ref a]) (.cons (show RelV (.ref a) (.ref a) from rfl) .nil) rfl wf vr post) (fun r s' z => ?_)
  cases r with
  | error e =>
    obtain ⟨_, _, _, _, _, _, _, _, _, _, _, _, q⟩ := z
    exact q.elim
  | ok fl =>
    cases fl with
    | next => exact z.elim
    | brk => exact z.elim
    | cont => exact z.elim
    | ret u =>
      obtain ⟨v, H', os, bare, un, hok', rv, q⟩ := z
      have q' : v = .bl true := q
      subst q'
      cases (show u = Value.bool true from rv)
      refine ⟨rfl, OldK.of_keep (fun b o e => ?_), os, bare⟩
      cases t : H b with
      | none => exact un.keep b o e t (fun z => absurd (show b ∈ ([] : List Addr) from z) (by simp)) (by simp)
      | some y =>
        rcases hO b with n | ⟨ob, xs, n⟩
        · rw [t] at n; cases n
        · have g1 := (hok b _ n).1
          have g2 := (hok' b _ (un.frzs b ob _ n)).1
          rw [e] at g1
          cases g1
          exact g2
end
/-- the end: what the head leaves, from the law's own contract -/
theorem law_end {l : PySem.W.OpenLaw} {n k : Nat} {q : Program} {loose : List Str} {XP : (Str → Option Value) → Heap → Prop} {YP : World → Heap → Prop} {d : DefRec} {x : Str} (hn : l.most = some n) (hn2 : n ≤ sizeLine) (hdf : d.params.defaults = []) (hr : Room k callerA)
    (T : ∀ (w : World) (mg : Str → Option Value) (fa : Addr) (h : Heap), YP w h → h.Ns mainGlobals mg → mg d.name = some (.ref fa) →
      ∃ (K : PySem.W.Frag) (fd : FuncData) (F : FD), K.In h ∧ (∀ (s : Shared) (u : Value), BindsTo s fd ⟨[u], []⟩ [(x, u)]) ∧ (∀ ns : List Int, ns.length ≤ n → ∃ μ', F [scriptD ns] [] = some (.ok (.bl true), μ')) ∧
        ∀ base : Heap, K.In base → base.Ns mainGlobals mg → FnG l.prog w K mg base (xrS K) k fa fd [x] F) :
    PySem.W.WalkO q loose XP YP l.row.toRowW d [] (fun f vs => PySem.call f vs) := by
  refine Att.attach_call hn hdf fun w s0 s1 mg mb fa o pm cd doc a us ns G Y ho hd hcd hmg hobj hints hlen hg => ?_
  obtain ⟨K, fd, F, KX, hb, hF, hG⟩ := T w mg fa _ Y G.T.g hmg
  have rv := vals_ints hints
  have lv := hints.length
  have hl : ns.length ≤ sizeLine := Nat.le_trans hlen hn2
  cases hk : K.lookup a with
  | some ob =>
    have e := KX a ob hk
    rw [hobj] at e
    cases e
    exact law_at (H := fun _ => none) KX G.T.g G.T.b G.T.builtins G.T.nolimit hg hobj hr hG hb (hF ns hlen) (fun _ => .inl rfl) (.inr ⟨_, us.toArray, _, hk, rfl, rfl, rfl, by rw [List.size_toArray, lv]; exact hl, by simpa using rv⟩) (fun b u z => by cases (show (none : Option HO) = some u from z)) (fun b z => absurd rfl z) (fun z => absurd rfl z)
  | none =>
    refine law_at (H := fun b => if b = a then some (.frz { cls := .type "list", data := .seq us.toArray } (.lst (ns.map V.int))) else none) KX G.T.g G.T.b G.T.builtins G.T.nolimit hg hobj hr hG hb (hF ns hlen) (fun b => ?_) (.inl ⟨⟨{ cls := .type "list", data := .seq us.toArray }, if_pos rfl⟩, by simp⟩) (fun b u z => ?_) (fun b z => ?_) (fun _ => hk)
    · by_cases hb : b = a
      · exact .inr ⟨_, _, if_pos hb⟩
      · exact .inl (if_neg hb)
    · by_cases hb : b = a
      · cases (if_pos hb).symm.trans z
        subst hb
        exact ⟨hobj, by rw [List.length_map]; exact hl, us, _, rv, hobj⟩
      · cases (if_neg hb).symm.trans z
    · by_cases hb : b = a
      · exact hb
      · exact absurd (if_neg hb) z
end DM

namespace DM
open PySem PySem.Spec L2
/-! ### bundles for printed derivations -/
/-- the def that the module's name x stands for -/
structure Kn (P : Program) (w : World) (K : PySem.W.Frag) (mg : Str → Option Value) (base : Heap) (k : Nat) (x : Str) (ps : List Str) (F : FD) : Prop where
  ex : ∃ f fd, FnG P w K mg base (xrS K) k f fd ps F ∧ mg x = some (.ref f) ∧ PySem.W.keepIn K (.ref f) = true ∧ Binds K fd ps [] ∧ ∀ ds μ, F ds μ ≠ none → ds.length = ps.length
section
variable {X : Cx} {W : DW} {k j : Nat} {ps : List Str} {F : FD} {x : Str} {p pos : Pos} {e : Expr} {es : List Expr} {As : CM (List D)}
theorem d_fn (h : Kn X.prog X.w X.K X.mg X.base j x ps F) (hr : Room k X.A) (hjk : j ≤ k) (hG : X.A.guards = some []) (hg : Gl X x) (ha : PA X (e :: es) (tA X.K W As)) (hW : TkX X W)
    (hdb : (x == ("__debug__" : Str)) = false := by decide) (he : starEach (e :: es) X.env = (false, eval e X.env) :: starEach es X.env := by rfl) (hpl : (backTo pos (starEach es X.env)).any (·.1) = false := by rfl) :
    PE X (.Call (.Name x p) (e :: es) [] pos) (tE X.K W (eCall F As [])) := by
  obtain ⟨f, fd, G, hm, hk, hb, hl⟩ := h.ex
  exact d_call G (hr.mono hjk) hG hg hm hk hb .nil (fun _ _ => .nil) hl ha hW hdb he hpl
theorem d_fn0 (h : Kn X.prog X.w X.K X.mg X.base j x ps F) (hr : Room k X.A) (hjk : j ≤ k) (hG : X.A.guards = some []) (hg : Gl X x) (hW : TkX X W)
    (hdb : (x == ("__debug__" : Str)) = false := by decide) : PE X (.Call (.Name x p) [] [] pos) (tE X.K W (eCall F aNil [])) := by
  obtain ⟨f, fd, G, hm, hk, hb, hl⟩ := h.ex
  exact d_call0 G (hr.mono hjk) hG hg hm hk hb .nil (fun _ _ => .nil) hl hW hdb
end
/-! ### repr of scalars -/
def reprB (b : Bool) : Str := if b then "True" else "False"
def Frepr0 (ds : List D) (μ : Store) : Res D := match ds with
  | [.bl b] => okR (.str (reprB b)) μ
  | _ => none
section
variable {X : Cx} {K : PySem.W.Frag}
end
/-! ### name = [comprehension] -/
end DM

namespace DM
open PySem PySem.Spec L2
/-! ### running the plain functions -/
def Ok {α : Type} (r : Res α) (Q : α → Store → Prop) : Prop := match r with
  | some (.ok a, μ) => Q a μ
  | _ => False
def OkS (r : Option (Fl × Store)) (Q : Fl → Store → Prop) : Prop := match r with
  | some (f, μ) => Q f μ
  | none => False
section
variable {α β : Type} {ρ : Rho} {μ : Store}
theorem Ok.mono {r : Res α} {Q Q' : α → Store → Prop} (h : Ok r Q) (q : ∀ a μ, Q a μ → Q' a μ) : Ok r Q' := by
  match r, h with
  | some (.ok a, μ), h => exact q a μ h
theorem OkS.mono {r : Option (Fl × Store)} {Q Q' : Fl → Store → Prop} (h : OkS r Q) (q : ∀ a μ, Q a μ → Q' a μ) : OkS r Q' := by
  match r, h with
  | some (a, μ), h => exact q a μ h
theorem Ok.get {r : Res α} {Q : α → Store → Prop} (h : Ok r Q) : ∃ a μ, r = some (.ok a, μ) ∧ Q a μ := by
  match r, h with
  | some (.ok a, μ), h => exact ⟨a, μ, rfl, h⟩
@[simp] theorem Ok_ok {a : α} {Q : α → Store → Prop} : Ok (some (.ok a, μ)) Q = Q a μ := rfl
@[simp] theorem OkS_ok {f : Fl} {Q : Fl → Store → Prop} : OkS (some (f, μ)) Q = Q f μ := rfl
@[simp] theorem Ok_bind {A : CM α} {F : α → CM β} {Q : β → Store → Prop} : Ok (CM.bind A F ρ μ) Q = Ok (A ρ μ) (fun a μ1 => Ok (F a ρ μ1) Q) := by
  unfold CM.bind
  match A ρ μ with
  | some (.ok a, μ1) => rfl
  | some (.error x, μ1) => rfl
  | none => rfl
@[simp] theorem Ok_ret {a : α} {Q : α → Store → Prop} : Ok (CM.ret a ρ μ) Q = Q a μ := rfl
@[simp] theorem OkS_lft {A : CM α} {F : α → SF} {Q : Fl → Store → Prop} (h : Ok (A ρ μ) (fun a μ1 => OkS (F a ρ μ1) Q)) : OkS (lft A F ρ μ) Q := by
  unfold lft
  match A ρ μ, h with
  | some (.ok a, μ1), h => exact h
theorem OkS_asg {i : Nat} {E : CM D} {Q : Fl → Store → Prop} (h : Ok (E ρ μ) (fun d μ1 => Q (.nx (ρ.set i (some d))) μ1)) : OkS (sAsg i E ρ μ) Q := OkS_lft (h.mono fun _ _ q => q)
theorem OkS_ret {E : CM D} {Q : Fl → Store → Prop} (h : Ok (E ρ μ) (fun d μ1 => Q (.rt d) μ1)) : OkS (sRet E ρ μ) Q := OkS_lft (h.mono fun _ _ q => q)
theorem OkS_drop {E : CM D} {Q : Fl → Store → Prop} (h : Ok (E ρ μ) (fun d μ1 => Q (.nx ρ) μ1)) : OkS (sDrop E ρ μ) Q := OkS_lft (h.mono fun _ _ q => q)
/-- a loop by an invariant over the turn, the names and the store; the body either goes on, or is left -/
theorem loop_ok {gd : Store → Bool} {g : D → Rho → Option Rho} {S : SF} {items : List D} {Q : Fl → Store → Prop} (I : Nat → Rho → Store → Prop) (hgd : ∀ i ρ μ, I i ρ μ → gd μ = true)
    (hs : ∀ (i : Nat) d ρ μ, items[i]? = some d → I i ρ μ → ∃ ρ1, g d ρ = some ρ1 ∧ OkS (S ρ1 μ) (fun f μ2 => match f with | .nx ρ2 => I (i + 1) ρ2 μ2 | .ct ρ2 => I (i + 1) ρ2 μ2 | .bk ρ2 => Q (.nx ρ2) μ2 | .rt d => Q (.rt d) μ2 | .ex _ _ => False))
    (hd : ∀ ρ μ, I items.length ρ μ → Q (.nx ρ) μ) (h0 : I 0 ρ μ) : OkS (loop gd g S items ρ μ) Q := by
  have key : ∀ (r : List D) (i : Nat) (ρ : Rho) (μ : Store), i + r.length = items.length → items.drop i = r → I i ρ μ → OkS (loop gd g S r ρ μ) Q := by
    intro r
    induction r with
    | nil =>
      intro i ρ μ e _ h
      have e' : i = items.length := by simpa using e
      subst e'
      unfold loop
      rw [if_pos (hgd _ _ _ h)]
      exact hd ρ μ h
    | cons d t ih =>
      intro i ρ μ e ed h
      have hl : i < items.length := by rw [← e]; simp
      rw [List.drop_eq_getElem_cons hl] at ed
      obtain ⟨e1, e2⟩ := List.cons.inj ed
      unfold loop
      rw [if_pos (hgd _ _ _ h)]
      obtain ⟨ρ1, eg, h1⟩ := hs i d ρ μ (by rw [← e1]; exact List.getElem?_eq_getElem hl) h
      rw [eg]
      have le : i + 1 + t.length = items.length := by rw [← e]; simp; omega
      show OkS (match S ρ1 μ with
        | some (.nx ρ2, μ2) => loop gd g S t ρ2 μ2
        | some (.ct ρ2, μ2) => loop gd g S t ρ2 μ2
        | some (.bk ρ2, μ2) => some (.nx ρ2, μ2)
        | some (.rt d, μ2) => some (.rt d, μ2)
        | some (.ex x ρ2, μ2) => some (.ex x ρ2, μ2)
        | none => none) Q
      generalize S ρ1 μ = r at h1 ⊢
      match r, h1 with
      | some (.nx ρ2, μ2), h1 => exact ih (i + 1) ρ2 μ2 le e2 h1
      | some (.ct ρ2, μ2), h1 => exact ih (i + 1) ρ2 μ2 le e2 h1
      | some (.bk ρ2, μ2), h1 => exact h1
      | some (.rt d, μ2), h1 => exact h1
  exact key items 0 ρ μ (by simp) rfl h0
/-- a comprehension by an invariant over the turn, the list so far and the store -/
theorem lc_ok {gd : Store → Bool} {g : D → Rho → Option Rho} {T : CM Bool} {E : CM D} {c : Nat} {items : List D} {Q : D → Store → Prop} (I : Nat → List D → Store → Prop) (hgd : ∀ i acc μ, I i acc μ → gd μ = true)
    (hs : ∀ (i : Nat) d acc μ, items[i]? = some d → I i acc μ → ∃ ρ1, g d ρ = some ρ1 ∧ Ok (T ρ1 μ) (fun b μ1 => (b = true → Ok (E ρ1 μ1) (fun y μ2 => μ2[c]? = some (.lst acc) ∧ acc.length < sizeLine ∧ I (i + 1) (acc ++ [y]) (μ2.set c (.lst (acc ++ [y]))))) ∧ (b = false → I (i + 1) acc μ1)))
    (hd : ∀ acc μ, I items.length acc μ → Q (.ref c) μ) {acc : List D} (h0 : I 0 acc μ) : Ok (lcLoop gd g T E c items ρ μ) Q := by
  have key : ∀ (r : List D) (i : Nat) (acc : List D) (μ : Store), i + r.length = items.length → items.drop i = r → I i acc μ → Ok (lcLoop gd g T E c r ρ μ) Q := by
    intro r
    induction r with
    | nil =>
      intro i acc μ e _ h
      have e' : i = items.length := by simpa using e
      subst e'
      unfold lcLoop
      rw [if_pos (hgd _ _ _ h)]
      exact hd acc μ h
    | cons d t ih =>
      intro i acc μ e ed h
      have hl : i < items.length := by rw [← e]; simp
      rw [List.drop_eq_getElem_cons hl] at ed
      obtain ⟨e1, e2⟩ := List.cons.inj ed
      unfold lcLoop
      rw [if_pos (hgd _ _ _ h)]
      obtain ⟨ρ1, eg, h1⟩ := hs i d acc μ (by rw [← e1]; exact List.getElem?_eq_getElem hl) h
      rw [eg]
      have le : i + 1 + t.length = items.length := by rw [← e]; simp; omega
      obtain ⟨b, μ1, eT, hb1, hb2⟩ := h1.get
      simp only [eT]
      cases b with
      | true =>
        obtain ⟨y, μ2, eE, hc, hz, hI⟩ := (hb1 rfl).get
        simp only [eE, hc, if_pos hz]
        exact ih (i + 1) _ _ le e2 hI
      | false => exact ih (i + 1) _ _ le e2 (hb2 rfl)
  exact key items 0 acc μ (by simp) rfl h0
/-! ### sealing -/
mutual
theorem noRef_mono {n : Nat} : ∀ {d : D}, noRef 0 d = true → noRef n d = true
  | .non, _ => rfl
  | .bl _, _ => rfl
  | .int _, _ => rfl
  | .str _, _ => rfl
  | .tup _, h => noRefs_mono (by simpa [noRef] using h)
  | .lst _, h => noRefs_mono (by simpa [noRef] using h)
  | .fl _, h => noRefs_mono (by simpa [noRef] using h)
  | .ref _, h => by simp [noRef] at h
theorem noRefs_mono {n : Nat} : ∀ {ds : List D}, noRefs 0 ds = true → noRefs n ds = true
  | [], _ => rfl
  | _ :: _, h => by
    simp only [noRefs, Bool.and_eq_true] at h ⊢
    exact ⟨noRef_mono h.1, noRefs_mono h.2⟩
end
theorem obOk_mono {n : Nat} {o : Ob} (h : obOk 0 o = true) : obOk n o = true := by
  cases o with
  | lst xs => exact noRefs_mono h
  | obj C fs => exact noRefs_mono (show noRefs 0 (fs.map (·.2)) = true from h)
  | dct kvs => exact noRefs_mono (show noRefs 0 (kvs.map (·.2)) = true from h)
  | dcl kvs => exact noRefs_mono (show noRefs 0 (kvs.map (·.2)) = true from h)
  | dtt kvs => exact noRefs_mono (show noRefs 0 (kvs.map (·.2)) = true from h)
  | exc C fs => exact noRefs_mono (show noRefs 0 (fs.map (·.2)) = true from h)
  | tab tx => rfl
  | dnk kvs =>
    have h : (noRefs 0 (kvs.map fun kv => D.tup kv.1) && noRefs 0 (kvs.map (·.2))) = true := h
    rw [Bool.and_eq_true] at h
    show (noRefs n (kvs.map fun kv => D.tup kv.1) && noRefs n (kvs.map (·.2))) = true
    rw [noRefs_mono h.1, noRefs_mono h.2]
    rfl
/-- every cell holds data alone -/
def PureS (μ : Store) : Prop := ∀ o ∈ μ, obOk 0 o = true
theorem PureS.all {μ : Store} (h : PureS μ) (n m : Nat) : (μ.take n).all (obOk m) = true := List.all_eq_true.mpr fun o ho => obOk_mono (h o (List.mem_of_mem_take ho))
theorem PureS.set {μ : Store} (h : PureS μ) {i : Nat} {o : Ob} (ho : obOk 0 o = true) : PureS (μ.set i o) := fun u hu => by
  rcases List.mem_or_eq_of_mem_set hu with z | z
  · exact h u z
  · rw [z]; exact ho
theorem PureS.app {μ : Store} (h : PureS μ) {o : Ob} (ho : obOk 0 o = true) : PureS (μ ++ [o]) := fun u hu => by
  rcases List.mem_append.mp hu with z | z
  · exact h u z
  · rw [List.mem_singleton.mp z]; exact ho
theorem noRefs_all : ∀ {ds : List D} {n : Nat}, noRefs n ds = true ↔ ∀ d ∈ ds, noRef n d = true
  | [], n => by simp [noRefs]
  | x :: r, n => by simp [noRefs, noRefs_all (ds := r)]
theorem unref_pure {n k : Nat} {d : D} {μ : Store} (h : noRef 0 d = true) : unref n μ k d = some d := by
  cases k with
  | zero => unfold unref; rw [if_pos (noRef_mono h)]
  | succ k => unfold unref; rw [if_pos (noRef_mono h)]
theorem mapO_id {f : D → Option D} : ∀ {ds : List D}, (∀ d ∈ ds, f d = some d) → mapO f ds = some ds
  | [], _ => rfl
  | x :: r, h => by
    simp only [mapO]
    rw [h x List.mem_cons_self, mapO_id fun d hd => h d (List.mem_cons_of_mem _ hd)]
theorem unref_cell {n c k : Nat} {ds : List D} {μ : Store} (hc : μ[c]? = some (.lst ds)) (hn : n ≤ c) (h : noRefs 0 ds = true) : unref n μ (k + 1) (.ref c) = some (.lst ds) := by
  unfold unref
  rw [if_neg (by simp [noRef]; omega)]
  simp only [hc]
  rw [mapO_id fun d hd => unref_pure (noRefs_all.mp h d hd)]
  rfl
theorem seal_ok {r : Res D} {n : Nat} {Q : D → Store → Prop} (h : Ok r (fun d μ' => PureS (μ'.take n) ∧ ∃ d', unref n μ' 4 d = some d' ∧ Q d' (μ'.take n))) : Ok (sealR n r) Q := by
  match r, h with
  | some (.ok d, μ'), ⟨hp, d', e, q⟩ =>
    have ha : (μ'.take n).all (obOk n) = true := List.all_eq_true.mpr fun o ho => obOk_mono (hp o ho)
    unfold sealR
    simp only [ha, e, if_true]
    exact q
theorem Ok_seal {E : CM D} {Q : D → Store → Prop} (h : Ok (E ρ μ) (fun d μ' => PureS (μ'.take μ.length) ∧ ∃ d', unref μ.length μ' 4 d = some d' ∧ Q d' (μ'.take μ.length))) : Ok (eSeal E ρ μ) Q := seal_ok h
/-- frames: only the cell p may change -/
structure Fr (p : Nat) (μ μ' : Store) : Prop where
  len : μ'.length = μ.length
  eq : ∀ j : Nat, j ≠ p → μ'[j]? = μ[j]?
theorem Fr.refl (p : Nat) (μ : Store) : Fr p μ μ := ⟨rfl, fun _ _ => rfl⟩
theorem Fr.trans {p : Nat} {μ μ1 μ2 : Store} (a : Fr p μ μ1) (b : Fr p μ1 μ2) : Fr p μ μ2 := ⟨b.len.trans a.len, fun j h => (b.eq j h).trans (a.eq j h)⟩
theorem Fr.set {p : Nat} {μ : Store} {o : Ob} : Fr p μ (μ.set p o) := ⟨by simp, fun j h => List.getElem?_set_ne (Ne.symm h)⟩
theorem take_last {ν : Store} {o : Ob} {n : Nat} (h : ν.length = n + 1) (hc : ν[n]? = some o) : ν = ν.take n ++ [o] := by
  have := List.take_append_drop n ν
  rw [List.drop_eq_getElem_cons (by omega)] at this
  have e : ν[n]'(by omega) = o := by
    have := List.getElem?_eq_some_iff.mp hc
    exact this.2
  rw [e] at this
  have z : ν.drop (n + 1) = [] := List.drop_eq_nil_iff.mpr (by omega)
  rw [z] at this
  exact this.symm
theorem PureS.take {μ : Store} (h : PureS μ) (n : Nat) : PureS (μ.take n) := fun o ho => h o (List.mem_of_mem_take ho)
/-- a comprehension whose elements touch the cell p alone -/
theorem lcp {g : D → Rho → Option Rho} {E : CM D} {items : List D} {n p : Nat} {μ1 : Store} (J : Nat → Store → Prop) (R : Nat → D → Prop) (hJ : ∀ i (ν : Store) o, ν.length = n → J i ν → J i (ν ++ [o])) (hJ' : ∀ i (ν : Store) o, ν.length = n → J i (ν ++ [o]) → J i ν) (hn : μ1.length = n) (hp : p ≠ n) (hpu : PureS μ1) (hlen : items.length ≤ 1000) (h0 : J 0 μ1)
    (hs : ∀ (i : Nat) d (μ' : Store), items[i]? = some d → μ'.length = n + 1 → PureS μ' → J i μ' → ∃ ρ1, g d ρ = some ρ1 ∧ Ok (E ρ1 μ') (fun y μ2 => R i y ∧ noRef 0 y = true ∧ Fr p μ' μ2 ∧ PureS μ2 ∧ J (i + 1) μ2))
    : Ok (lcLoop anyG g bYes E n items ρ (μ1 ++ [.lst []])) (fun d μ' => PureS (μ'.take n) ∧ ∃ ys, unref n μ' 4 d = some (.lst ys) ∧ ys.length = items.length ∧ (∀ (i : Nat) y, ys[i]? = some y → R i y) ∧ Fr p μ1 (μ'.take n) ∧ J items.length (μ'.take n)) := by
  refine lc_ok (acc := []) (fun i acc μ => ∃ ν : Store, μ = ν ++ [.lst acc] ∧ ν.length = n ∧ Fr p μ1 ν ∧ PureS ν ∧ J i ν ∧ acc.length = i ∧ ∀ (k : Nat) y, acc[k]? = some y → R k y ∧ noRef 0 y = true) (fun _ _ _ _ => rfl) ?_ ?_ ⟨μ1, rfl, hn, Fr.refl _ _, hpu, h0, rfl, fun k y e => by simp at e⟩
  · rintro i d acc μ ed ⟨ν, rfl, hl, hf, hpν, hJν, ha, hR⟩
    have hpa : noRefs 0 acc = true := noRefs_all.mpr fun y hy => by
      obtain ⟨k, hk⟩ := List.getElem?_of_mem hy
      exact (hR k y hk).2
    obtain ⟨ρ1, eg, h1⟩ := hs i d (ν ++ [.lst acc]) ed (by simp [hl]) (hpν.app (o := Ob.lst acc) hpa) (hJ _ _ _ hl hJν)
    refine ⟨ρ1, eg, ?_⟩
    show (true = true → _) ∧ _
    refine ⟨fun _ => h1.mono fun y μ2 ⟨hy, hyp, hf2, hp2, hJ2⟩ => ?_, fun z => by cases z⟩
    have l2 : μ2.length = n + 1 := by rw [hf2.len]; simp [hl]
    have c2 : μ2[n]? = some (.lst acc) := by
      rw [hf2.eq n (Ne.symm hp), ← hl]
      simp
    have hil : i < items.length := (List.getElem?_eq_some_iff.mp ed).1
    have e2 := take_last l2 c2
    refine ⟨c2, by rw [ha]; exact small1000 (by omega), μ2.take n, ?_, by rw [List.length_take]; omega, ?_, hp2.take n, hJ' _ _ (.lst acc) (by rw [List.length_take]; omega) (by rw [← e2]; exact hJ2), by simp [ha], fun k z ez => ?_⟩
    · have tl : (μ2.take n).length = n := by rw [List.length_take]; omega
      rw [e2, List.set_append_right _ _ (by omega), tl]
      simp [tl]
    · refine ⟨by rw [List.length_take, hn]; omega, fun j hj => ?_⟩
      by_cases hjn : j < n
      · rw [List.getElem?_take_of_lt hjn, hf2.eq j hj, List.getElem?_append_left (by omega), hf.eq j hj]
      · rw [List.getElem?_eq_none (by rw [List.length_take]; omega), List.getElem?_eq_none (by omega)]
    · by_cases hk : k < acc.length
      · rw [List.getElem?_append_left hk] at ez
        exact hR k z ez
      · have hk2 : k = acc.length := by
          have := (List.getElem?_eq_some_iff.mp ez).1
          simp at this; omega
        subst hk2
        simp at ez
        subst ez
        rw [ha]
        exact ⟨hy, hyp⟩
  · rintro acc μ ⟨ν, rfl, hl, hf, hpν, hJν, ha, hR⟩
    have hpa : noRefs 0 acc = true := noRefs_all.mpr fun y hy => by
      obtain ⟨k, hk⟩ := List.getElem?_of_mem hy
      exact (hR k y hk).2
    have tk : (ν ++ [Ob.lst acc]).take n = ν := by rw [← hl]; simp
    rw [tk]
    exact ⟨hpν, acc, unref_cell (ds := acc) (by rw [← hl]; simp) (Nat.le_refl _) hpa, ha, (fun i y e => (hR i y e).1), hf, hJν⟩
end
end DM

namespace DM
open PySem PySem.Spec L2
section
variable {α β : Type} {ρ : Rho} {μ : Store} {Q : D → Store → Prop} {Qs : List D → Store → Prop} {Qb : Bool → Store → Prop} {Qf : Fl → Store → Prop} {Qi : IV → Store → Prop} {A B C : CM D} {T U : CM Bool} {As : CM (List D)}
theorem q_ok {a : α} {R : α → Store → Prop} : Ok (some (.ok a, μ)) R = R a μ := rfl
theorem q_okR {d : D} : Ok (okR d μ) Q = Q d μ := rfl
theorem q_if {c : Prop} [Decidable c] {r : Res α} {R : α → Store → Prop} : Ok (if c then r else none) R = (c ∧ Ok r R) := by
  by_cases z : c
  · simp [z]
  · simp [z, Ok]
theorem q_C {d : D} : Ok (eC d ρ μ) Q = Q d μ := rfl
theorem q_ret {a : α} {R : α → Store → Prop} : Ok (CM.ret a ρ μ) R = R a μ := rfl
def varAt (o : Option (Option D)) (k : D → Prop) : Prop := match o with
  | some (some d) => k d
  | _ => False
theorem q_var {i : Nat} : Ok (eVar i ρ μ) Q = varAt ρ[i]? (fun d => Q d μ) := by
  unfold eVar varAt
  match ρ[i]? with
  | some (some d) => rfl
  | some none => rfl
  | none => rfl
theorem q_at {d : D} {k : D → Prop} : varAt (some (some d)) k = k d := rfl
theorem q_e1 {F : D → Store → Res D} : Ok (e1 F A ρ μ) Q = Ok (A ρ μ) (fun d μ1 => Ok (F d μ1) Q) := Ok_bind
theorem q_e2 {F : D → D → Store → Res D} : Ok (e2 F A B ρ μ) Q = Ok (A ρ μ) (fun d μ1 => Ok (B ρ μ1) (fun e μ2 => Ok (F d e μ2) Q)) := by
  unfold e2
  rw [Ok_bind]
  congr 1
  funext d μ1
  exact Ok_bind
theorem q_call {F : FD} {dfl : List D} : Ok (eCall F As dfl ρ μ) Q = Ok (As ρ μ) (fun ds μ1 => Ok (F (ds ++ dfl) μ1) Q) := Ok_bind
theorem q_callB {F : List D → Store → Res D} : Ok (eCallB F As ρ μ) Q = Ok (As ρ μ) (fun ds μ1 => Ok (F ds μ1) Q) := Ok_bind
theorem q_nil : Ok (aNil ρ μ) Qs = Qs [] μ := rfl
theorem q_cons : Ok (aCons A As ρ μ) Qs = Ok (A ρ μ) (fun d μ1 => Ok (As ρ μ1) (fun ds μ2 => Qs (d :: ds) μ2)) := by
  unfold aCons
  rw [Ok_bind]
  congr 1
  funext d μ1
  rw [Ok_bind]
  rfl
theorem q_tup : Ok (eTup As ρ μ) Q = Ok (As ρ μ) (fun ds μ1 => ds.length ≤ sizeLine ∧ Q (.tup ds) μ1) := by
  unfold eTup
  rw [Ok_bind]
  congr 1
  funext d μ1
  exact q_if
theorem q_lst : Ok (eLst As ρ μ) Q = Ok (As ρ μ) (fun ds μ1 => ds.length ≤ sizeLine ∧ Q (.lst ds) μ1) := by
  unfold eLst
  rw [Ok_bind]
  congr 1
  funext d μ1
  exact q_if
theorem q_cel : Ok (eCel As ρ μ) Q = Ok (As ρ μ) (fun ds μ1 => ds.length ≤ sizeLine ∧ Q (.ref μ1.length) (μ1 ++ [.lst ds])) := by
  unfold eCel
  rw [Ok_bind]
  congr 1
  funext d μ1
  exact q_if
theorem q_ifexp : Ok (eIf T A B ρ μ) Q = Ok (T ρ μ) (fun c μ1 => if c = true then Ok (A ρ μ1) Q else Ok (B ρ μ1) Q) := by
  unfold eIf
  rw [Ok_bind]
  congr 1
  funext c μ1
  cases c <;> rfl
def blAt (d : D) (k : Bool → Prop) : Prop := match d with
  | .bl b => k b
  | _ => False
theorem q_blAt {b : Bool} {k : Bool → Prop} : blAt (.bl b) k = k b := rfl
theorem q_bOf : Ok (bOf A ρ μ) Qb = Ok (A ρ μ) (fun d μ1 => blAt d (fun b => Qb b μ1)) := by
  unfold bOf
  rw [Ok_bind]
  congr 1
  funext d μ1
  cases d <;> rfl
theorem q_bTru : Ok (bTru A ρ μ) Qb = Ok (A ρ μ) (fun d μ1 => Ok (Ftru d μ1) Qb) := Ok_bind
theorem q_bAnd : Ok (bAnd T U ρ μ) Qb = Ok (T ρ μ) (fun c μ1 => if c = true then Ok (U ρ μ1) Qb else Qb false μ1) := by
  unfold bAnd
  rw [Ok_bind]
  congr 1
  funext c μ1
  cases c <;> rfl
theorem q_bOr : Ok (bOr T U ρ μ) Qb = Ok (T ρ μ) (fun c μ1 => if c = true then Qb true μ1 else Ok (U ρ μ1) Qb) := by
  unfold bOr
  rw [Ok_bind]
  congr 1
  funext c μ1
  cases c <;> rfl
theorem q_bNot : Ok (bNot T ρ μ) Qb = Ok (T ρ μ) (fun c μ1 => Qb (!c) μ1) := Ok_bind
theorem q_vAnd : Ok (vAnd A B ρ μ) Q = Ok (A ρ μ) (fun d μ1 => blAt d (fun b => if b = true then Ok (B ρ μ1) Q else Q (.bl false) μ1)) := by
  unfold vAnd
  rw [Ok_bind]
  congr 1
  funext d μ1
  cases d with
  | bl b => cases b <;> rfl
  | _ => rfl
theorem q_vOr : Ok (vOr A B ρ μ) Q = Ok (A ρ μ) (fun d μ1 => blAt d (fun b => if b = true then Q (.bl true) μ1 else Ok (B ρ μ1) Q)) := by
  unfold vOr
  rw [Ok_bind]
  congr 1
  funext d μ1
  cases d with
  | bl b => cases b <;> rfl
  | _ => rfl
theorem q_vNot : Ok (vNot A ρ μ) Q = Ok (A ρ μ) (fun d μ1 => blAt d (fun b => Q (.bl (!b)) μ1)) := by
  unfold vNot
  rw [Ok_bind]
  congr 1
  funext d μ1
  cases d <;> rfl
theorem q_chain {F G : D → D → Store → Res D} : Ok (eChain F G A B C ρ μ) Q = Ok (A ρ μ) (fun d μ1 => Ok (B ρ μ1) (fun e μ2 => Ok (F d e μ2) (fun z μ3 => blAt z (fun b => if b = true then Ok (C ρ μ3) (fun g μ4 => Ok (G e g μ4) Q) else Q (.bl false) μ3)))) := by
  unfold eChain
  rw [Ok_bind]
  congr 1
  funext d μ1
  rw [Ok_bind]
  congr 1
  funext e μ2
  rw [Ok_bind]
  congr 1
  funext z μ3
  cases z with
  | bl b =>
    cases b with
    | true => exact Ok_bind
    | false => rfl
  | _ => rfl
/-! statements -/
def contS (B : SF) (Qf : Fl → Store → Prop) : Fl → Store → Prop := fun f μ => match f with
  | .nx ρ => OkS (B ρ μ) Qf
  | f => Qf f μ
theorem q_seq {S B : SF} : OkS (sSeq S B ρ μ) Qf = OkS (S ρ μ) (contS B Qf) := by
  unfold sSeq
  match S ρ μ with
  | some (.nx ρ1, μ1) => rfl
  | some (.rt _, _) => rfl
  | some (.bk _, _) => rfl
  | some (.ct _, _) => rfl
  | some (.ex _ _, _) => rfl
  | none => rfl
theorem q_cont {B : SF} : contS B Qf (.nx ρ) μ = OkS (B ρ μ) Qf := rfl
theorem q_contR {B : SF} {d : D} : contS B Qf (.rt d) μ = Qf (.rt d) μ := rfl
theorem q_contB {B : SF} : contS B Qf (.bk ρ) μ = Qf (.bk ρ) μ := rfl
theorem q_contC {B : SF} : contS B Qf (.ct ρ) μ = Qf (.ct ρ) μ := rfl
theorem q_asg {i : Nat} (h : Ok (A ρ μ) (fun d μ1 => Qf (.nx (ρ.set i (some d))) μ1)) : OkS (sAsg i A ρ μ) Qf := OkS_asg h
theorem q_sret (h : Ok (A ρ μ) (fun d μ1 => Qf (.rt d) μ1)) : OkS (sRet A ρ μ) Qf := OkS_ret h
theorem q_sif {S S' : SF} (h : Ok (T ρ μ) (fun c μ1 => if c = true then OkS (S ρ μ1) Qf else OkS (S' ρ μ1) Qf)) : OkS (sIf T S S' ρ μ) Qf := by
  unfold sIf
  refine OkS_lft (h.mono fun c μ1 q => ?_)
  cases c <;> exact q
theorem q_snil : OkS (sNil ρ μ) Qf = Qf (.nx ρ) μ := rfl
theorem q_par2 {i j : Nat} (h : Ok (As ρ μ) (fun ds μ1 => ∃ a b, ds = [a, b] ∧ Qf (.nx ((ρ.set i (some a)).set j (some b))) μ1)) : OkS (sPar2 i j As ρ μ) Qf := OkS_lft (h.mono fun ds μ1 ⟨a, b, e, q⟩ => by subst e; exact q)
theorem q_par3 {i j l : Nat} (h : Ok (As ρ μ) (fun ds μ1 => ∃ a b c, ds = [a, b, c] ∧ Qf (.nx (((ρ.set i (some a)).set j (some b)).set l (some c))) μ1)) : OkS (sPar3 i j l As ρ μ) Qf := OkS_lft (h.mono fun ds μ1 ⟨a, b, c, e, q⟩ => by subst e; exact q)
theorem q_put (h : Ok (C ρ μ) (fun v μ1 => Ok (A ρ μ1) (fun o μ2 => Ok (B ρ μ2) (fun i μ3 => ∃ c k xs j, o = .ref c ∧ i = .int k ∧ μ3[c]? = some (.lst xs) ∧ ixN xs.length k = some j ∧ Qf (.nx ρ) (μ3.set c (.lst (xs.set j v))))))) : OkS (sPut A B C ρ μ) Qf := by
  unfold sPut
  refine OkS_lft (h.mono fun v μ1 h1 => OkS_lft (h1.mono fun o μ2 h2 => OkS_lft (h2.mono fun i μ3 h3 => ?_)))
  obtain ⟨c, k, xs, j, rfl, rfl, e1, e2, q⟩ := h3
  simp only [e1, e2]
  exact q
theorem q_for {I : CM IV} {g : D → Rho → Option Rho} {S : SF} (h : Ok (I ρ μ) (fun p μ1 => OkS (loop p.2 g S p.1 ρ μ1) Qf)) : OkS (sFor I g S ρ μ) Qf := OkS_lft h
theorem q_fn {n m : Nat} {S : SF} {ds : List D} (hl : ds.length = m) (h : OkS (S (startR n ds) μ) (fun f μ1 => match f with | .nx _ => Q .non μ1 | .rt d => Q d μ1 | _ => False)) : Ok (fnP n m S ds μ) Q := by
  unfold fnP
  rw [if_pos hl]
  generalize S (startR n ds) μ = r at h ⊢
  match r, h with
  | some (.nx _, _), h => exact h
  | some (.rt _, _), h => exact h
theorem q_rg1 : Ok (iRg1 As ρ μ) Qi = Ok (As ρ μ) (fun ds μ1 => ∃ j : Int, ds = [.int j] ∧ -(2 ^ 62) ≤ j ∧ j < 2 ^ 62 ∧ Qi (rngD 0 j.toNat, anyG) μ1) := by
  unfold iRg1
  rw [Ok_bind]
  congr 1
  funext ds μ1
  apply propext
  constructor
  · intro h
    split at h
    · rw [q_if] at h
      exact ⟨_, rfl, h.1.1, h.1.2, h.2⟩
    · exact h.elim
  · rintro ⟨j, rfl, a, b, q⟩
    show Ok (if _ then _ else none) Qi
    rw [q_if]
    exact ⟨⟨a, b⟩, q⟩
theorem q_rg2 : Ok (iRg2 As ρ μ) Qi = Ok (As ρ μ) (fun ds μ1 => ∃ i j : Int, ds = [.int i, .int j] ∧ (-(2 ^ 62) ≤ i ∧ i < 2 ^ 62 ∧ -(2 ^ 62) ≤ j ∧ j < 2 ^ 62) ∧ Qi (rngD i (j - i).toNat, anyG) μ1) := by
  unfold iRg2
  rw [Ok_bind]
  congr 1
  funext ds μ1
  apply propext
  constructor
  · intro h
    split at h
    · rw [q_if] at h
      exact ⟨_, _, rfl, h.1, h.2⟩
    · exact h.elim
  · rintro ⟨i, j, rfl, a, q⟩
    show Ok (if _ then _ else none) Qi
    rw [q_if]
    exact ⟨a, q⟩
def seqAt (d : D) (μ : Store) (k : List D → (Store → Bool) → Prop) : Prop := match d with
  | .lst xs => k xs anyG
  | .fl xs => k xs anyG
  | .ref c => match μ[c]? with
    | some (.lst xs) => k xs (isLst c xs)
    | _ => False
  | _ => False
theorem q_seqL {xs : List D} {k : List D → (Store → Bool) → Prop} : seqAt (.lst xs) μ k = k xs anyG := rfl
theorem q_seqF {xs : List D} {k : List D → (Store → Bool) → Prop} : seqAt (.fl xs) μ k = k xs anyG := rfl
theorem q_iseq : Ok (iSeq A ρ μ) Qi = Ok (A ρ μ) (fun d μ1 => seqAt d μ1 (fun xs g => Qi (xs, g) μ1)) := by
  unfold iSeq
  rw [Ok_bind]
  congr 1
  funext d μ1
  cases d with
  | ref c =>
    unfold seqAt
    simp only []
    cases μ1[c]? with
    | none => rfl
    | some o => cases o <;> rfl
  | _ => rfl
def tupAt (d : D) (k : List D → Prop) : Prop := match d with
  | .tup xs => k xs
  | _ => False
theorem q_tupAt {xs : List D} {k : List D → Prop} : tupAt (.tup xs) k = k xs := rfl
theorem q_itup : Ok (iTupD A ρ μ) Qi = Ok (A ρ μ) (fun d μ1 => tupAt d (fun xs => Qi (xs, anyG) μ1)) := by
  unfold iTupD
  rw [Ok_bind]
  congr 1
  funext d μ1
  cases d <;> rfl
/-! built-in functions on known shapes -/
theorem f_add {i j : Int} : Fadd (.int i) (.int j) μ = okR (.int (i + j)) μ := rfl
theorem f_sub {i j : Int} : Fsub (.int i) (.int j) μ = okR (.int (i - j)) μ := rfl
theorem f_mul {i j : Int} : Fmul (.int i) (.int j) μ = if mulOk i j then okR (.int (i * j)) μ else none := rfl
theorem f_div {i j : Int} : Fdiv (.int i) (.int j) μ = if divOk j then okR (.int (i / j)) μ else none := rfl
theorem f_mod {i j : Int} : Fmod (.int i) (.int j) μ = if 0 < j then okR (.int (i % j)) μ else none := rfl
theorem f_pow {i j : Int} : Fpow (.int i) (.int j) μ = if powOk i j then okR (.int (i ^ j.toNat)) μ else none := rfl
theorem f_neg {i : Int} : Fneg (.int i) μ = okR (.int (-i)) μ := rfl
theorem f_cmp {p : Int → Int → Bool} {i j : Int} : Fcmp p (.int i) (.int j) μ = okR (.bl (p i j)) μ := rfl
theorem f_abs {i : Int} : Fabs [.int i] μ = okR (.int (if i < 0 then -i else i)) μ := rfl
theorem f_intI {i : Int} : Fint [.int i] μ = okR (.int i) μ := rfl
theorem f_intB {b : Bool} : Fint [.bl b] μ = okR (.int (if b then 1 else 0)) μ := rfl
theorem f_max {i j : Int} : Fmax [.int i, .int j] μ = okR (.int (if j > i then j else i)) μ := rfl
theorem f_min {i j : Int} : Fmin [.int i, .int j] μ = okR (.int (if j < i then j else i)) μ := rfl
theorem f_lenL {xs : List D} : Flen [.lst xs] μ = okR (.int xs.length) μ := rfl
theorem f_lenF {xs : List D} : Flen [.fl xs] μ = okR (.int xs.length) μ := rfl
theorem f_lenT {xs : List D} : Flen [.tup xs] μ = okR (.int xs.length) μ := rfl
theorem f_ixL {xs : List D} {i : Int} : Fix (.lst xs) (.int i) μ = pureR (atI xs i) μ := rfl
theorem f_ixF {xs : List D} {i : Int} : Fix (.fl xs) (.int i) μ = pureR (atI xs i) μ := rfl
theorem f_ixT {xs : List D} {i : Int} : Fix (.tup xs) (.int i) μ = pureR (atI xs i) μ := rfl
theorem f_ixR {c : Nat} {xs : List D} {i : Int} (h : μ[c]? = some (.lst xs)) : Fix (.ref c) (.int i) μ = pureR (atI xs i) μ := by
  unfold Fix
  simp only [h]
theorem f_eqI {i j : Int} : Feq false (.int i) (.int j) μ = okR (.bl (i == j)) μ := rfl
theorem f_neI {i j : Int} : Feq true (.int i) (.int j) μ = okR (.bl (!(i == j))) μ := rfl
theorem f_eqB {i j : Bool} : Feq false (.bl i) (.bl j) μ = okR (.bl (i == j)) μ := rfl
theorem f_neB {i j : Bool} : Feq true (.bl i) (.bl j) μ = okR (.bl (!(i == j))) μ := rfl
theorem f_eqT {i j : Str} : Feq false (.str i) (.str j) μ = okR (.bl (i == j)) μ := rfl
theorem f_neT {i j : Str} : Feq true (.str i) (.str j) μ = okR (.bl (!(i == j))) μ := rfl
theorem f_isB {i j : Bool} : Fis false (.bl i) (.bl j) μ = okR (.bl (decide (i = j))) μ := rfl
theorem f_isnotB {i j : Bool} : Fis true (.bl i) (.bl j) μ = okR (.bl (!decide (i = j))) μ := rfl
theorem f_truB {b : Bool} : Ftru (.bl b) μ = some (.ok b, μ) := rfl
theorem f_truI {i : Int} : Ftru (.int i) μ = some (.ok (i != 0), μ) := rfl
theorem f_repr0 {b : Bool} : Frepr0 [.bl b] μ = okR (.str (reprB b)) μ := rfl
theorem q_pureS {d : D} : Ok (pureR (some d) μ) Q = Q d μ := rfl
theorem at0 {x : α} {r : List α} : atI (x :: r) 0 = some x := atI_nat (j := 0) rfl
theorem at1 {x y : α} {r : List α} : atI (x :: y :: r) 1 = some y := atI_nat (j := 1) rfl
theorem at2 {x y z : α} {r : List α} : atI (x :: y :: z :: r) 2 = some z := atI_nat (j := 2) rfl
theorem at_lt {xs : List α} {i : Int} (h0 : 0 ≤ i) (h : i < xs.length) : ∃ x, atI xs i = some x ∧ xs[i.toNat]? = some x := by
  have hl : i.toNat < xs.length := by omega
  refine ⟨xs[i.toNat], ?_, List.getElem?_eq_getElem hl⟩
  have := atI_nat (j := i.toNat) (v := xs[i.toNat]) (List.getElem?_eq_getElem hl)
  rw [Int.toNat_of_nonneg h0] at this
  exact this
theorem size_ok {n : Nat} (h : n ≤ 1000000) : n ≤ sizeLine := Nat.le_trans h (by decide)
theorem q_lc {I : CM IV} {g : D → Rho → Option Rho} {E : CM D} {own : List Nat} (h : Ok (I ρ μ) (fun q μ1 => Ok (lcLoop q.2 g T E μ1.length q.1 (wipeR ρ own) (μ1 ++ [.lst []])) (fun d μ' => PureS (μ'.take μ.length) ∧ ∃ d', unref μ.length μ' 4 d = some d' ∧ Q d' (μ'.take μ.length)))) : Ok (eSeal (eLC I g T E own) ρ μ) Q := by
  refine Ok_seal ?_
  unfold eLC
  rw [Ok_bind]
  exact h
theorem rng_get {lo : Int} {n i : Nat} {d : D} (h : (rngD lo n)[i]? = some d) : i < n ∧ d = .int (lo + i) := by
  have hl : i < n := by
    have := (List.getElem?_eq_some_iff.mp h).1
    simpa [rngD] using this
  unfold rngD at h
  rw [List.getElem?_map, List.getElem?_range hl] at h
  cases h
  exact ⟨hl, rfl⟩
theorem rng_len {lo : Int} {n : Nat} : (rngD lo n).length = n := by simp [rngD]
theorem bls_true : ∀ {ys : List D}, (∀ y ∈ ys, y = .bl true) → ∃ bs, bls ys = some bs ∧ bs.all id = true
  | [], _ => ⟨[], rfl, rfl⟩
  | y :: r, h => by
    have hy := h y List.mem_cons_self
    subst hy
    obtain ⟨bs, e, a⟩ := bls_true (ys := r) fun z hz => h z (List.mem_cons_of_mem _ hz)
    exact ⟨true :: bs, by simp [bls, e], by simpa using a⟩
theorem f_all {ys : List D} (h : ∀ y ∈ ys, y = .bl true) : Fall [.lst ys] μ = okR (.bl true) μ := by
  obtain ⟨bs, e, a⟩ := bls_true h
  unfold Fall
  simp only [e, Option.map_some, pureR, a]
end
end DM

namespace DM
open PySem PySem.Spec L2
local macro_rules | `(tactic| walk_at "q") => `(tactic| simp only [q_ok, q_okR, q_if, q_C, q_ret, q_var, q_at, q_e1, q_e2, q_call, q_callB, q_nil, q_cons, q_tup, q_lst, q_cel, q_ifexp, q_blAt, q_bOf, q_bTru, q_bAnd, q_bOr, q_bNot, q_vAnd, q_vOr, q_vNot, q_chain, q_pureS, at0, at1, at2, q_iseq, q_seqL, q_seqF, q_rg1, q_rg2, q_itup, q_tupAt,
  f_add, f_sub, f_mul, f_div, f_mod, f_pow, f_neg, f_cmp, f_abs, f_intI, f_intB, f_max, f_min, f_lenL, f_lenF, f_lenT, f_ixL, f_ixF, f_ixT, f_eqI, f_neI, f_eqB, f_neB, f_isB, f_isnotB, f_truB, f_truI, f_repr0, startR, List.map_cons, List.map_nil, List.length_cons, List.length_nil, List.cons_append, List.nil_append, List.append_nil, List.getElem?_cons_zero, List.getElem?_cons_succ, List.set_cons_zero, List.set_cons_succ, List.replicate_succ, List.replicate_zero, Nat.reduceAdd, Nat.reduceSub])
/-! ### the drawn numbers: a pool is a cell of three ints; c bounds how many were mixed -/
def Pool (p : Nat) (c : Int) (μ : Store) : Prop := ∃ a b c0 : Int, μ[p]? = some (.lst [.int a, .int b, .int c0]) ∧ 0 ≤ a ∧ 0 ≤ b ∧ b < 2 ^ 62 ∧ 0 ≤ c0 ∧ c0 ≤ c
theorem pool_set {p : Nat} {μ : Store} {a b c0 c : Int} (hl : p < μ.length) (ha : 0 ≤ a) (hb : 0 ≤ b) (hb2 : b < 2 ^ 62) (h0 : 0 ≤ c0) (h1 : c0 ≤ c) : Pool p c (μ.set p (.lst [.int a, .int b, .int c0])) :=
  ⟨a, b, c0, List.getElem?_set_self hl, ha, hb, hb2, h0, h1⟩
/-- the store as a law's own helpers find it -/
structure Wd (p : Nat) (c : Int) (μ : Store) : Prop where
  pool : Pool p c μ
  pure : PureS μ
theorem Wd.mono {p : Nat} {c c' : Int} {μ : Store} (h : Wd p c μ) (l : c ≤ c') : Wd p c' μ := by
  obtain ⟨⟨a, b, c0, e, q1, q2, q3, q4, q5⟩, hp⟩ := h
  exact ⟨⟨a, b, c0, e, q1, q2, q3, q4, by omega⟩, hp⟩
theorem Wd.lt {p : Nat} {c : Int} {μ : Store} (h : Wd p c μ) : p < μ.length := by
  obtain ⟨⟨a, b, c0, e, _⟩, _⟩ := h
  exact (List.getElem?_eq_some_iff.mp e).1
/-- a draw: n is what it is bounded by -/
def DrawOk (F : FD) : Prop := ∀ {p : Nat} {c n : Int} {μ : Store}, Wd p c μ → c < 2 ^ 20 → 0 < n → n < 2 ^ 200 → Ok (F [.ref p, .int n] μ) (fun d μ' => ∃ r, d = .int r ∧ 0 ≤ r ∧ r < n ∧ Wd p (c + 1) μ' ∧ Fr p μ μ')
/-- the same with nothing said of the other cells -/
def DrawP (F : FD) : Prop := ∀ {p : Nat} {c n : Int} {μ : Store}, Pool p c μ → c < 2 ^ 20 → 0 < n → n < 2 ^ 200 → Ok (F [.ref p, .int n] μ) (fun d μ' => ∃ r, d = .int r ∧ 0 ≤ r ∧ r < n ∧ Pool p (c + 1) μ' ∧ ∃ a b c0 : Int, μ' = μ.set p (.lst [.int a, .int b, .int c0]))
theorem DrawP.ok {F : FD} (h : DrawP F) : DrawOk F := fun {p c n μ} hw hc h0 h1 => (h hw.pool hc h0 h1).mono fun d μ' ⟨r, e, r0, r1, w, a, b, c0, e'⟩ => ⟨r, e, r0, r1, ⟨w, by rw [e']; exact hw.pure.set rfl⟩, by rw [e']; exact Fr.set⟩
def primes5 : List D := [.int 2147483647, .int 2147483629, .int 2147483587, .int 2147483579, .int 2147483563]
theorem primes5_at (t : Int) : ∃ pr : Int, atI primes5 (t % 5) = some (.int pr) ∧ 2147483563 ≤ pr ∧ pr ≤ 2147483647 := by
  have : t % 5 = 0 ∨ t % 5 = 1 ∨ t % 5 = 2 ∨ t % 5 = 3 ∨ t % 5 = 4 := by omega
  rcases this with h | h | h | h | h <;> rw [h]
  · exact ⟨2147483647, rfl, by decide, by decide⟩
  · exact ⟨2147483629, rfl, by decide, by decide⟩
  · exact ⟨2147483587, rfl, by decide, by decide⟩
  · exact ⟨2147483579, rfl, by decide, by decide⟩
  · exact ⟨2147483563, rfl, by decide, by decide⟩
/-- the first part of every draw -/
def digitS (rest : SF) : SF := (sSeq (sIf (bOf (e2 Fgt (e2 Fix (eVar 0) (eC (.int 0))) (eC (.int 0)))) (sSeq (sAsg 2 (e2 Fmod (e2 Fix (eVar 0) (eC (.int 0))) (eVar 1))) (sSeq (sPut (eVar 0) (eC (.int 0)) (e2 Fdiv (e2 Fix (eVar 0) (eC (.int 0))) (eVar 1))) (sRet (eVar 2)))) sNil) (sSeq (sPut (eVar 0) (eC (.int 2)) (e2 Fadd (e2 Fix (eVar 0) (eC (.int 2))) (eC (.int 1)))) rest))
theorem digit_ok {rest : SF} {k : Nat}
    (hr : ∀ {p : Nat} {a b t n : Int} {μ1 : Store}, μ1[p]? = some (.lst [.int a, .int b, .int t]) → 0 ≤ b → b < 2 ^ 62 → 0 < t → t ≤ 2 ^ 20 → 0 < n → n < 2 ^ 200 → ∀ {Qf : Fl → Store → Prop}, (∀ r, 0 ≤ r → r < n → Qf (.rt (.int r)) μ1) → OkS (rest (some (.ref p) :: some (.int n) :: none :: List.replicate k none) μ1) Qf) : DrawP (fnP (3 + k) 2 (digitS rest)) := by
  intro p c n μ hw hc h0 h1
  obtain ⟨a, b, c0, e, ha, hb, hb2, hc0, hcc⟩ := hw
  have hl : p < μ.length := (List.getElem?_eq_some_iff.mp e).1
  refine q_fn rfl ?_
  have est : startR (3 + k) [.ref p, .int n] = some (.ref p) :: some (.int n) :: none :: List.replicate k none := by
    unfold startR
    have : 3 + k - [D.ref p, D.int n].length = k + 1 := by simp; omega
    rw [this, List.replicate_succ]
    rfl
  rw [est]
  unfold digitS
  rw [q_seq]
  refine q_sif ?_
  walk_at "q"
  simp only [f_ixR e, at0, q_pureS, f_cmp, q_okR, q_blAt]
  by_cases z : 0 < a
  · rw [if_pos (decide_eq_true z), q_seq]
    refine q_asg ?_
    walk_at "q"
    simp only [f_ixR e, at0, q_pureS, f_mod, q_if, q_okR]
    refine ⟨h0, ?_⟩
    rw [q_cont, q_seq]
    refine q_put ?_
    walk_at "q"
    simp only [f_ixR e, at0, q_pureS, f_div, q_if, q_okR]
    refine ⟨⟨h0, by omega⟩, p, 0, _, 0, rfl, rfl, e, rfl, ?_⟩
    rw [q_cont]
    refine q_sret ?_
    walk_at "q"
    rw [q_contR]
    refine ⟨a % n, rfl, Int.emod_nonneg _ (by omega), Int.emod_lt_of_pos _ h0, pool_set hl (Int.ediv_nonneg ha (by omega)) hb hb2 hc0 (by omega), _, _, _, rfl⟩
  · rw [if_neg (by simpa using z), q_snil, q_cont, q_seq]
    refine q_put ?_
    walk_at "q"
    simp only [f_ixR e, at2, q_pureS, f_add, q_okR]
    refine ⟨p, 2, _, 2, rfl, rfl, e, rfl, ?_⟩
    simp only [List.set_cons_zero, List.set_cons_succ]
    rw [q_cont]
    refine hr (List.getElem?_set_self hl) hb hb2 (by omega) (by omega) h0 h1 fun r r0 r1 => ?_
    exact ⟨r, rfl, r0, r1, pool_set hl ha hb hb2 (by omega) (by omega), _, _, _, rfl⟩
def drawRest : SF := (sSeq (sAsg 3 (e2 Fix (eVar 0) (eC (.int 2)))) (sSeq (sAsg 4 (e2 Fix (eLst (aCons (eC (.int 2147483647)) (aCons (eC (.int 2147483629)) (aCons (eC (.int 2147483587)) (aCons (eC (.int 2147483579)) (aCons (eC (.int 2147483563)) aNil)))))) (e2 Fmod (eVar 3) (eC (.int 5))))) (sSeq (sAsg 5 (e2 Fmod (e2 Fpow (e2 Fadd (e2 Fadd (e2 Fix (eVar 0) (eC (.int 1))) (e2 Fmul (e2 Fmul (eC (.int 7573)) (eVar 3)) (eVar 3))) (e2 Fmul (eC (.int 37)) (eVar 3))) (eC (.int 3))) (eVar 4))) (sRet (e2 Fmod (e2 Fdiv (e2 Fmod (e2 Fmul (eVar 5) (e2 Fadd (e2 Fadd (e2 Fmod (eVar 5) (eC (.int 1013))) (e2 Fmul (eC (.int 9)) (eVar 3))) (eC (.int 1)))) (eVar 4)) (eC (.int 13))) (eVar 1))))))
def takeRest (c1 c2 c3 c4 : Int) : SF := (sSeq (sAsg 3 (e2 Fix (eLst (aCons (eC (.int 2147483647)) (aCons (eC (.int 2147483629)) (aCons (eC (.int 2147483587)) (aCons (eC (.int 2147483579)) (aCons (eC (.int 2147483563)) aNil)))))) (e2 Fmod (e2 Fix (eVar 0) (eC (.int 2))) (eC (.int 5))))) (sSeq (sAsg 4 (e2 Fmod (e2 Fpow (e2 Fadd (e2 Fadd (e2 Fix (eVar 0) (eC (.int 1))) (e2 Fmul (e2 Fmul (eC (.int c1)) (e2 Fix (eVar 0) (eC (.int 2)))) (e2 Fix (eVar 0) (eC (.int 2))))) (eC (.int c2))) (eC (.int 3))) (eVar 3))) (sRet (e2 Fmod (e2 Fdiv (e2 Fmod (e2 Fmul (eVar 4) (e2 Fadd (e2 Fmod (eVar 4) (eC (.int c3))) (e2 Fmul (eC (.int c4)) (e2 Fix (eVar 0) (eC (.int 2)))))) (eC (.int 2305843009213693907))) (eC (.int c4))) (eVar 1)))))
/-- 65537, 29, 10007, 97; or 40009, 31, 10009, 89 -/
theorem take1_okP {c1 c2 c3 c4 : Int} (a1 : 0 < c1 ∧ c1 < 2 ^ 30) (a2 : 0 < c2 ∧ c2 < 2 ^ 30) (a3 : 0 < c3 ∧ c3 < 2 ^ 30) (a4 : 0 < c4 ∧ c4 < 2 ^ 30) : DrawP (fnP 5 2 (digitS (takeRest c1 c2 c3 c4))) := digit_ok (k := 2) (by
  intro p a b t n μ1 e hb hb2 ht0 ht1 h0 h1 Qf q
  unfold takeRest
  rw [q_seq]
  refine q_asg ?_
  walk_at "q"
  simp only [f_ixR e, at2, q_pureS, f_mod, q_if, q_okR, f_ixL]
  refine ⟨size_ok (by decide), by decide, ?_⟩
  obtain ⟨pr, epr, hpr0, hpr1⟩ := primes5_at t
  rw [show [D.int 2147483647, .int 2147483629, .int 2147483587, .int 2147483579, .int 2147483563] = primes5 from rfl, epr, q_pureS, q_cont, q_seq]
  refine q_asg ?_
  walk_at "q"
  simp only [f_ixR e, at1, at2, q_pureS, f_add, f_mul, f_pow, f_mod, q_if, q_okR]
  have hu0 : 0 ≤ t * t := Int.mul_nonneg (by omega) (by omega)
  have hu : t * t ≤ 2 ^ 20 * 2 ^ 20 := Int.mul_le_mul (by omega) (by omega) (by omega) (by decide)
  have hx : c1 * t * t = c1 * (t * t) := Int.mul_assoc _ _ _
  have hv0 : 0 ≤ c1 * (t * t) := Int.mul_nonneg (by omega) hu0
  have hv : c1 * (t * t) ≤ 2 ^ 30 * (2 ^ 20 * 2 ^ 20) := Int.mul_le_mul (by omega) hu hu0 (by decide)
  refine ⟨.inl (by omega), .inr (.inl (by omega)), ⟨by decide, by decide, by omega, by omega⟩, by omega, ?_⟩
  generalize (b + c1 * t * t + c2) ^ Int.toNat 3 = big
  have hy0 := Int.emod_nonneg big (show pr ≠ 0 by omega)
  have hy1 := Int.emod_lt_of_pos big (show 0 < pr by omega)
  generalize big % pr = y at hy0 hy1
  rw [q_cont]
  refine q_sret ?_
  walk_at "q"
  simp only [f_ixR e, at2, q_pureS, f_add, f_mul, f_div, f_mod, q_if, q_okR]
  refine ⟨by omega, .inl (by omega), .inl (by omega), by decide, ⟨by omega, by omega⟩, h0, ?_⟩
  exact q _ (Int.emod_nonneg _ (by omega)) (Int.emod_lt_of_pos _ h0))
theorem take1_ok {c1 c2 c3 c4 : Int} (a1 : 0 < c1 ∧ c1 < 2 ^ 30) (a2 : 0 < c2 ∧ c2 < 2 ^ 30) (a3 : 0 < c3 ∧ c3 < 2 ^ 30) (a4 : 0 < c4 ∧ c4 < 2 ^ 30) : DrawOk (fnP 5 2 (digitS (takeRest c1 c2 c3 c4))) := DrawP.ok (take1_okP a1 a2 a3 a4)
def takeRest2 : SF := (sSeq (sAsg 3 (e2 Fix (eLst (aCons (eC (.int 2305843009213693951)) (aCons (eC (.int 2305843009213693921)) (aCons (eC (.int 2305843009213693907)) (aCons (eC (.int 2305843009213693723)) aNil))))) (e2 Fmod (e2 Fix (eVar 0) (eC (.int 2))) (eC (.int 4))))) (sSeq (sAsg 4 (e2 Fmod (e2 Fpow (e2 Fadd (e2 Fadd (e2 Fix (eVar 0) (eC (.int 1))) (e2 Fmul (e2 Fmul (eC (.int 15485863)) (e2 Fix (eVar 0) (eC (.int 2)))) (e2 Fix (eVar 0) (eC (.int 2))))) (eC (.int 7))) (eC (.int 3))) (eVar 3))) (sRet (e2 Fmod (e2 Fdiv (e2 Fmod (e2 Fmul (eVar 4) (e2 Fadd (e2 Fmod (eVar 4) (eC (.int 1000003))) (e2 Fix (eVar 0) (eC (.int 2))))) (eVar 3)) (eC (.int 4099))) (eVar 1)))))
/-- one of some -/
def pickF (F : FD) : FD := fnP 2 2 (sRet (e2 Fix (eVar 1) (eCall F (aCons (eVar 0) (aCons (eCallB Flen (aCons (eVar 1) aNil)) aNil)) [])))
theorem pick_lst {F : FD} (hF : DrawOk F) {p : Nat} {c : Int} {μ : Store} {xs : List D} (hw : Wd p c μ) (hc : c < 2 ^ 20) (h0 : 0 < xs.length) (h1 : xs.length < 2 ^ 30) : Ok (pickF F [.ref p, .lst xs] μ) (fun d μ' => (∃ i : Nat, xs[i]? = some d) ∧ Wd p (c + 1) μ' ∧ Fr p μ μ') := by
  refine q_fn rfl ?_
  refine q_sret ?_
  walk_at "q"
  refine (hF hw hc (by omega) (by omega)).mono ?_
  rintro d μ1 ⟨r, rfl, hr0, hr1, hw1, hf1⟩
  obtain ⟨x, ex, ex2⟩ := at_lt (xs := xs) hr0 hr1
  simp only [f_ixL, ex, q_pureS]
  exact ⟨⟨_, ex2⟩, hw1, hf1⟩
theorem pick_tup {F : FD} (hF : DrawOk F) {p : Nat} {c : Int} {μ : Store} {xs : List D} (hw : Wd p c μ) (hc : c < 2 ^ 20) (h0 : 0 < xs.length) (h1 : xs.length < 2 ^ 30) : Ok (pickF F [.ref p, .tup xs] μ) (fun d μ' => (∃ i : Nat, xs[i]? = some d) ∧ Wd p (c + 1) μ' ∧ Fr p μ μ') := by
  refine q_fn rfl ?_
  refine q_sret ?_
  walk_at "q"
  refine (hF hw hc (by omega) (by omega)).mono ?_
  rintro d μ1 ⟨r, rfl, hr0, hr1, hw1, hf1⟩
  obtain ⟨x, ex, ex2⟩ := at_lt (xs := xs) hr0 hr1
  simp only [f_ixT, ex, q_pureS]
  exact ⟨⟨_, ex2⟩, hw1, hf1⟩
/-! ### pools made from the script -/
def PoolOk (F : FD) : Prop := ∀ {ns : List Int} {k : Int} {μ : Store}, 0 ≤ k → k < 4 → PureS μ → Ok (F [scriptD ns, .int k] μ) (fun d μ' => d = .ref μ.length ∧ (∃ o, μ' = μ ++ [o]) ∧ Wd μ.length 0 μ')
def lotE (l1 l2 : Int) : CM D := (eIf (bOf (e2 Flt (eVar 1) (eCallB Flen (aCons (eVar 0) aNil)))) (e2 Fix (eVar 0) (eVar 1)) (e2 Fadd (e2 Fmul (eC (.int l1)) (eVar 1)) (eC (.int l2))))
theorem lot_ok {l1 l2 : Int} {ns : List Int} {k : Int} {μ : Store} {ρ : Rho} (hl : -(2 ^ 64) < l1 ∧ l1 < 2 ^ 64) (h0 : 0 ≤ k) (e0 : ρ[0]? = some (some (scriptD ns))) (e1 : ρ[1]? = some (some (.int k))) : Ok (lotE l1 l2 ρ μ) (fun d μ1 => (∃ lot, d = .int lot) ∧ μ1 = μ) := by
  unfold lotE
  simp only [q_ifexp, q_bOf, q_e2, q_var, e0, e1, q_at, q_callB, q_cons, q_nil, scriptD, f_lenF, q_okR, f_cmp, q_blAt]
  by_cases z : k < ((ns.map D.int).length : Int)
  · rw [if_pos (decide_eq_true z)]
    obtain ⟨x, ex, ex2⟩ := at_lt h0 z
    rw [f_ixF, ex, q_pureS]
    rw [List.getElem?_map] at ex2
    obtain ⟨y, _, rfl⟩ := Option.map_eq_some_iff.mp ex2
    exact ⟨⟨y, rfl⟩, rfl⟩
  · rw [if_neg (by simpa using z)]
    walk_at "q"
    exact ⟨.inl hl, ⟨_, rfl⟩, by trivial⟩
/-- the mixed part and the list -/
theorem mix_ok {μ : Store} {own mix : Int} (hs : PureS μ) (h0 : 0 ≤ own) (h1 : 0 ≤ mix) (h2 : mix < 2 ^ 62) : Wd μ.length 0 (μ ++ [.lst [.int own, .int mix, .int 0]]) :=
  ⟨⟨own, mix, 0, by simp, h0, h1, h2, by decide, by decide⟩, hs.app rfl⟩
def poolS1 (l1 l2 pw m1 m2 m3 m4 : Int) : SF := (sSeq (sAsg 2 (lotE l1 l2)) (sSeq (sAsg 3 (e2 Fmul (e2 Fmod (eCallB Fabs (aCons (eVar 2) aNil)) (e2 Fpow (e2 Fpow (eC (.int 10)) (eC (.int 60))) (eC (.int pw)))) (eCallB Fint (aCons (e2 Fge (eCallB Fabs (aCons (eVar 2) aNil)) (e2 Fpow (eC (.int 10)) (eC (.int 18)))) aNil)))) (sRet (eCel (aCons (eVar 3) (aCons (e2 Fmod (e2 Fmul (e2 Fadd (e2 Fadd (e2 Fmod (eVar 2) (eC (.int m1))) (e2 Fmul (eC (.int m2)) (eVar 1))) (eC (.int m3))) (eC (.int m4))) (eC (.int 2147483399))) (aCons (eC (.int 0)) aNil)))))))
def mixE (m1 m2 m3 m4 : Int) : CM D := (e2 Fmod (e2 Fadd (e2 Fadd (e2 Fmul (e2 Fmod (eVar 2) (eC (.int m1))) (eC (.int m2))) (e2 Fmul (e2 Fmul (eC (.int m3)) (eVar 1)) (eVar 1))) (eC (.int m4))) (eC (.int 2305843009213693921)))
def poolS2 (l1 l2 pw m1 m2 m3 m4 : Int) : SF := (sSeq (sAsg 2 (lotE l1 l2)) (sSeq (sAsg 3 (e2 Fmul (e2 Fmod (eCallB Fabs (aCons (eVar 2) aNil)) (e2 Fpow (e2 Fpow (eC (.int 10)) (eC (.int 60))) (eC (.int pw)))) (eCallB Fint (aCons (e2 Fge (eCallB Fabs (aCons (eVar 2) aNil)) (e2 Fpow (eC (.int 10)) (eC (.int 18)))) aNil)))) (sRet (eCel (aCons (eVar 3) (aCons (mixE m1 m2 m3 m4) (aCons (eC (.int 0)) aNil)))))))
def poolS3 (l1 l2 pw m1 m2 m3 m4 : Int) : SF := (sSeq (sAsg 2 (lotE l1 l2)) (sSeq (sAsg 3 (eIf (bOf (e2 Fge (eCallB Fabs (aCons (eVar 2) aNil)) (e2 Fpow (eC (.int 10)) (eC (.int 18))))) (e2 Fmod (eCallB Fabs (aCons (eVar 2) aNil)) (e2 Fpow (e2 Fpow (eC (.int 10)) (eC (.int 60))) (eC (.int pw)))) (eC (.int 0)))) (sRet (eCel (aCons (eVar 3) (aCons (mixE m1 m2 m3 m4) (aCons (eC (.int 0)) aNil)))))))
theorem pool3_ok {l1 l2 pw m1 m2 m3 m4 : Int} (hl : -(2 ^ 64) < l1 ∧ l1 < 2 ^ 64) (hp : 0 ≤ pw ∧ pw ≤ 100) (a1 : 0 < m1) (a2 : 0 < m2 ∧ m2 < 2 ^ 60) (a3 : 0 < m3 ∧ m3 < 2 ^ 60) : PoolOk (fnP 4 2 (poolS3 l1 l2 pw m1 m2 m3 m4)) := by
  intro ns k μ h0 h1 hs
  refine q_fn rfl ?_
  unfold poolS3
  rw [q_seq]
  refine q_asg ((lot_ok (ns := ns) (k := k) hl h0 rfl rfl).mono ?_)
  rintro d μ1 ⟨⟨lot, rfl⟩, rfl⟩
  rw [q_cont, q_seq]
  refine q_asg (Ok.mono (Q := fun d μ2 => (∃ own, d = .int own ∧ 0 ≤ own) ∧ μ2 = μ1) ?_ ?_)
  · walk_at "q"
    have hbig : (0 : Int) < (10 ^ Int.toNat 60) ^ pw.toNat := Int.pow_pos (by decide)
    refine ⟨by decide, ?_⟩
    generalize (if lot < 0 then -lot else lot) = a
    split
    · exact ⟨by decide, ⟨hp.1, by omega, by decide, by decide⟩, hbig, ⟨_, rfl, Int.emod_nonneg _ (Int.ne_of_gt hbig)⟩, by trivial⟩
    · exact ⟨⟨0, rfl, by decide⟩, by trivial⟩
  · rintro d μ1 ⟨⟨own, rfl, hown⟩, rfl⟩
    rw [q_cont]
    refine q_sret ?_
    unfold mixE
    walk_at "q"
    refine ⟨a1, .inr (.inl (by omega)), .inl (by omega), .inr (.inl (by omega)), by decide, size_ok (by decide), ?_⟩
    refine ⟨by trivial, ⟨_, rfl⟩, mix_ok hs hown (Int.emod_nonneg _ (by decide)) ?_⟩
    have := Int.emod_lt_of_pos (lot % m1 * m2 + m3 * k * k + m4) (show (0 : Int) < 2305843009213693921 by decide)
    omega
def poolS4 (l1 l2 m1 m2 m3 m4 : Int) : SF := (sSeq (sAsg 2 (lotE l1 l2)) (sSeq (sAsg 3 (e2 Fmul (e2 Fmod (eCallB Fabs (aCons (eVar 2) aNil)) (e2 Fmul (e2 Fmul (e2 Fpow (eC (.int 10)) (eC (.int 60))) (e2 Fpow (eC (.int 10)) (eC (.int 60)))) (e2 Fpow (eC (.int 10)) (eC (.int 60))))) (eCallB Fint (aCons (e2 Fge (eCallB Fabs (aCons (eVar 2) aNil)) (e2 Fpow (eC (.int 10)) (eC (.int 18)))) aNil)))) (sRet (eCel (aCons (eVar 3) (aCons (e2 Fmod (e2 Fadd (e2 Fadd (e2 Fmul (e2 Fmod (eVar 2) (eC (.int m1))) (eC (.int m2))) (e2 Fmul (eC (.int m3)) (eVar 1))) (eC (.int m4))) (eC (.int 2305843009213693921))) (aCons (eC (.int 0)) aNil)))))))
/-! ### the law's own loops -/
/-- a helper of the law: it answers True, and mixes at most K numbers -/
def RightOk (F : FD) (K M : Int) : Prop := ∀ {p : Nat} {c : Int} {μ : Store}, Wd p c μ → c ≤ M → Ok (F [.ref p] μ) (fun d μ' => d = .bl true ∧ Wd p (c + K) μ' ∧ Fr p μ μ')
def allS (F : FD) (turns : Int) (x y : Nat) : CM D := eCallB Fall (aCons (eSeal (eLC (iRg1 (aCons (eC (.int turns)) aNil)) (fName y) bYes (eCall F (aCons (eVar x) aNil) []) [y])) aNil)
theorem turns_ok {ns : List Int} {n : Int} (hn : 1 ≤ n) : ∃ j : Int, (if (if ((ns.map D.int).length : Int) < n then ((ns.map D.int).length : Int) else n) > 1 then (if ((ns.map D.int).length : Int) < n then ((ns.map D.int).length : Int) else n) else 1) = j ∧ 1 ≤ j ∧ j ≤ n := by
  refine ⟨_, rfl, ?_, ?_⟩
  · split <;> omega
  · split
    · split <;> omega
    · omega
/-- for k in range(max(1, min(n, len(script)))): pool = ..; if not all([right(pool) for turn in range(m)]): return False; return True -/
def lawS1 (Fp Fr' : FD) (n m : Int) : SF := (sSeq (sFor (iRg1 (aCons (eCallB Fmax (aCons (eC (.int 1)) (aCons (eCallB Fmin (aCons (eC (.int n)) (aCons (eCallB Flen (aCons (eVar 0) aNil)) aNil))) aNil))) aNil)) (fName 1) (sSeq (sAsg 2 (eCall Fp (aCons (eVar 0) (aCons (eVar 1) aNil)) [])) (sIf (bNot (bTru (allS Fr' m 2 3))) (sRet (eC (.bl false))) sNil))) (sRet (eC (.bl true))))
/-- all([right(pool(script, k)) for k in range(max(1, min(n, len(script))))]) -/
def lawS2 (Fp Fr' : FD) (n : Int) : SF := sRet (eCallB Fall (aCons (eSeal (eLC (iRg1 (aCons (eCallB Fmax (aCons (eC (.int 1)) (aCons (eCallB Fmin (aCons (eC (.int n)) (aCons (eCallB Flen (aCons (eVar 0) aNil)) aNil))) aNil))) aNil)) (fName 1) bYes (eSeal (eCall Fr' (aCons (eCall Fp (aCons (eVar 0) (aCons (eVar 1) aNil)) []) aNil) [])) [1])) aNil))
theorem fr_take {μ μ2 : Store} {o : Ob} (h : Fr μ.length (μ ++ [o]) μ2) : μ2.take μ.length = μ := by
  apply List.ext_getElem?
  intro j
  by_cases hj : j < μ.length
  · rw [List.getElem?_take_of_lt hj, h.eq j (Nat.ne_of_lt hj), List.getElem?_append_left hj]
  · rw [List.getElem?_eq_none (by rw [List.length_take]; omega), List.getElem?_eq_none (by omega)]
theorem law2_true {Fp Fr' : FD} {K n M : Int} (hP : PoolOk Fp) (hR : RightOk Fr' K M) (hn : 1 ≤ n ∧ n ≤ 4) (hM : 0 ≤ M) (ns : List Int) : ∃ μ', fnP 2 1 (lawS2 Fp Fr' n) [scriptD ns] [] = some (.ok (.bl true), μ') := by
  have h : Ok (fnP 2 1 (lawS2 Fp Fr' n) [scriptD ns] []) (fun d _ => d = .bl true) := by
    refine q_fn rfl ?_
    unfold lawS2
    refine q_sret ?_
    simp only [q_callB, q_cons, q_nil]
    refine q_lc ?_
    simp only [scriptD]
    walk_at "q"
    refine ⟨_, rfl, ?_⟩
    obtain ⟨j, ej, hj1, hj2⟩ := turns_ok (ns := ns) hn.1
    rw [ej]
    refine ⟨by omega, by omega, ?_⟩
    have hlen : (rngD 0 j.toNat).length = j.toNat := rng_len
    refine (lcp (p := 1) (μ1 := ([] : Store)) (n := 0) (fun i _ => True) (fun _ y => y = .bl true) (fun _ _ _ _ _ => trivial) (fun _ _ _ _ _ => trivial) rfl (by decide) (fun o ho => by simp at ho) ?_ trivial ?_).mono ?_
    · rw [hlen]; omega
    · intro i d μ' ed hl' hs' _
      obtain ⟨hi, rfl⟩ := rng_get ed
      refine ⟨_, rfl, ?_⟩
      refine Ok_seal ?_
      simp only [wipeR]
      walk_at "q"
      refine (hP (ns := ns) (by omega) (by omega) hs').mono ?_
      rintro d μ1 ⟨rfl, ⟨o, rfl⟩, hw1⟩
      refine (hR hw1 hM).mono ?_
      rintro d μ2 ⟨rfl, hw2, hf2⟩
      rw [fr_take hf2]
      exact ⟨hs', .bl true, unref_pure rfl, rfl, rfl, Fr.refl _ _, hs', trivial⟩
    · rintro d μ' ⟨hs', ys, eu, hyl, hy, hf', hp'⟩
      refine ⟨hs', .lst ys, eu, ?_⟩
      rw [f_all (fun y hy' => by obtain ⟨k, hk⟩ := List.getElem?_of_mem hy'; exact hy k y hk)]
      trivial
  obtain ⟨a, μ, e, rfl⟩ := h.get
  exact ⟨μ, e⟩
/-! ### the same, counted from a def's entry -/
structure Wx (μ0 : Store) (p : Nat) (c : Int) (μ : Store) : Prop where
  wd : Wd p c μ
  fr : Fr p μ0 μ
theorem Wd.x {p : Nat} {c : Int} {μ : Store} (h : Wd p c μ) : Wx μ p c μ := ⟨h, Fr.refl _ _⟩
theorem Wx.mono {μ0 μ : Store} {p : Nat} {c c' : Int} (h : Wx μ0 p c μ) (l : c ≤ c') : Wx μ0 p c' μ := ⟨h.wd.mono l, h.fr⟩
theorem Wx.from {μ0 μ1 μ : Store} {p : Nat} {c c1 : Int} (a : Wx μ0 p c1 μ1) (b : Wx μ1 p c μ) : Wx μ0 p c μ := ⟨b.wd, a.fr.trans b.fr⟩
section
variable {F : FD} (hF : DrawOk F) {μ0 μ : Store} {p : Nat} {c : Int}
include hF
theorem DrawOk.x {n : Int} (h : Wx μ0 p c μ) (hc : c < 2 ^ 20) (h0 : 0 < n) (h1 : n < 2 ^ 200) : Ok (F [.ref p, .int n] μ) (fun d μ' => ∃ r, d = .int r ∧ 0 ≤ r ∧ r < n ∧ Wx μ0 p (c + 1) μ') :=
  (hF h.wd hc h0 h1).mono fun _ _ ⟨r, a, b, e, w, f⟩ => ⟨r, a, b, e, w, h.fr.trans f⟩
theorem DrawOk.pick {xs : List D} (h : Wx μ0 p c μ) (hc : c < 2 ^ 20) (h0 : 0 < xs.length) (h1 : xs.length < 2 ^ 30) : Ok (pickF F [.ref p, .lst xs] μ) (fun d μ' => d ∈ xs ∧ Wx μ0 p (c + 1) μ') :=
  (pick_lst hF h.wd hc h0 h1).mono fun _ _ ⟨⟨i, e⟩, w, f⟩ => ⟨List.mem_of_getElem? e, w, h.fr.trans f⟩
theorem DrawOk.pickT {xs : List D} (h : Wx μ0 p c μ) (hc : c < 2 ^ 20) (h0 : 0 < xs.length) (h1 : xs.length < 2 ^ 30) : Ok (pickF F [.ref p, .tup xs] μ) (fun d μ' => d ∈ xs ∧ Wx μ0 p (c + 1) μ') :=
  (pick_tup hF h.wd hc h0 h1).mono fun _ _ ⟨⟨i, e⟩, w, f⟩ => ⟨List.mem_of_getElem? e, w, h.fr.trans f⟩
end
end DM

namespace DM
open PySem PySem.Spec L2
/-! ### a, b = e -/
def sUnp (is : List Nat) (E : CM D) : SF := lft E fun d ρ μ => match fTup is d ρ with
  | some ρ' => some (.nx ρ', μ)
  | none => none
theorem ds_unp {X : Cx} {W : DW} {tg e : Expr} {E : CM D} {g : TG} {is own : List Nat} {pos : Pos} (he : PE X e (tE X.K W E)) (hg : PG X tg g) (ht : TgOk X.K g (fTup is) own) (hs : swapsWithSole [tg] e pos.line X.env = pure false := by rfl) (hw : swappedStores [tg] e X.env = pure none := by rfl)
    (h1 : (assignEach [tg] X.env).map (·.2) = [assign tg X.env] := by rfl) : PS X (.Assign [tg] e pos) (sD X.K W (sUnp is E)) := (ps_asg he hg hs hw h1).imp fun T σ H ⟨ρ, ι, μ, sr, wf, h⟩ => by
  refine tG.mono (PostS.bind sr wf h) ?_
  rintro x H1 ⟨ι1, μ1, d, l1, w1, vx, h1⟩
  match e : fTup is d ρ, h1 with
  | some ρ', h1 => exact ht x d σ ρ ρ' ι1 μ1 H1 _ (sr.mono l1) w1 vx e fun σ' s' _ => h1.nx0 w1 s'
/-! ### methods of lists -/
def isList (μ : Store) : D → Bool
  | .lst _ => true
  | .fl _ => true
  | .ref i => match μ[i]? with
    | some (.lst _) => true
    | _ => false
  | _ => false
def eMeth (c : Store → D → Bool) (F : D → List D → Store → Res D) (O : CM D) (A : CM (List D)) : CM D := O.bind fun o => fun ρ μ => if c μ o = true then (A.bind fun ds _ μ => F o ds μ) ρ μ else none
def LiftM (K : PySem.W.Frag) (r : V → List V → Hp → VK → Prop) (F : D → List D → Store → Res D) : Prop := ∀ (W : DW) σ ι μ H x xs d ds Q, WF K ι μ H → VR K ι H x d → VRs K ι H xs ds → PostG (VR K) K W σ ι H Q (F d ds μ) → r x xs H Q
theorem list_ty {K : PySem.W.Frag} {ι : List Addr} {H : Hp} {μ : Store} {x : V} {d : D} (w : WF K ι μ H) (v : VR K ι H x d) (h : isList μ d = true) : tyV K "list" x H := by
  cases v with
  | lst hh r => exact .inl ⟨rfl, _, hh.sq⟩
  | fl hh r => exact .inl ⟨rfl, _, hh.sq⟩
  | ref hi =>
    obtain ⟨o, ho, ro⟩ := w.has hi
    cases o with
    | lst xs =>
      obtain ⟨vs, ea, _⟩ := ro
      exact .inl ⟨rfl, _, .inl (.inl ea)⟩
    | _ => simp [isList, ho] at h
  | _ => simp [isList] at h
theorem bmAux {K : PySem.W.Frag} {W : DW} {T : String} {r : V → List V → Hp → VK → Prop} {F : D → List D → Store → Res D} {c : Store → D → Bool} {O : CM D} {As : CM (List D)} (hc : ∀ ι H μ x d, WF K ι μ H → VR K ι H x d → c μ d = true → tyV K T x H) (hF : LiftM K r F) (σ : L2.St) (H : Hp) (Q : VK) (h : tE K W (eMeth c F O As) σ H Q) : tBM K T r (tE K W O) (tA K W As) σ H Q := by
  obtain ⟨ρ, ι, μ, sr, wf, h⟩ := h
  refine tG.mono (PostG.bind sr wf h) ?_
  rintro x H1 ⟨ι1, μ1, d, l1, w1, vx, h1⟩
  obtain ⟨ct, h1⟩ := PostG.guard h1
  refine ⟨hc _ _ _ _ _ w1 vx ct, tG.mono (PostG.bind (sr.mono l1) w1 h1) ?_⟩
  rintro xs H2 ⟨ι2, μ2, ds, l2, w2, vxs, h2⟩
  exact hF W σ ι2 μ2 H2 x xs d ds Q w2 (vx.mono l2) vxs h2
def Fapp (o : D) (ds : List D) (μ : Store) : Res D := match o, ds with
  | .ref c, [y] => match μ[c]? with
    | some (.lst xs) => if xs.length < sizeLine then okR .non (μ.set c (.lst (xs ++ [y]))) else none
    | _ => none
  | _, _ => none
def Fext (o : D) (ds : List D) (μ : Store) : Res D := match o, ds with
  | .ref c, [.lst ys] => match μ[c]? with
    | some (.lst xs) => if xs.length + ys.length ≤ sizeLine then okR .non (μ.set c (.lst (xs ++ ys))) else none
    | _ => none
  | _, _ => none
def FpopAt (o : D) (ds : List D) (μ : Store) : Res D := match o, ds with
  | .ref c, [.int i] => match μ[c]? with
    | some (.lst xs) => if -(2 ^ 63) ≤ i ∧ i < 2 ^ 63 then (match seqIndex? i xs.length with
      | some k => match xs[k]? with
        | some y => okR y (μ.set c (.lst (xs.eraseIdx k)))
        | none => none
      | none => none) else none
    | _ => none
  | _, _ => none
section
variable {X : Cx} {K : PySem.W.Frag}
theorem lift_app : LiftM K rAppend Fapp := by
  intro W σ ι μ H x xs d ds Q w vx vxs h
  unfold Fapp at h
  split at h
  · rename_i c y
    obtain ⟨v, rfl, vy⟩ := vxs.one
    cases vx with
    | ref hi =>
      obtain ⟨o, ho, ro⟩ := w.has hi
      simp only [ho] at h
      cases o with
      | lst zs =>
        obtain ⟨vs, ea, r⟩ := ro
        obtain ⟨q, h⟩ := PostG.guard h
        exact ⟨_, vs, v, rfl, rfl, ea, by rw [r.length]; exact q, h.ok (Le.set hi (nf ea)) (w.set hi (nf ea) (OR.mkL upd_same ((r.append (.cons vy .nil)).mono (Le.set hi (nf ea))))) .non⟩
      | _ => exact h.elim
  · exact h.elim
theorem lift_ext : LiftM K rExtend Fext := by
  intro W σ ι μ H x xs d ds Q w vx vxs h
  unfold Fext at h
  split at h
  · rename_i c ys
    obtain ⟨v, rfl, vy⟩ := vxs.one
    cases vx with
    | ref hi =>
      obtain ⟨o, ho, ro⟩ := w.has hi
      simp only [ho] at h
      cases o with
      | lst zs =>
        obtain ⟨vs, ea, r⟩ := ro
        obtain ⟨q, h⟩ := PostG.guard h
        cases vy with
        | lst hb rb =>
          exact ⟨_, _, vs, _, rfl, rfl, ea, hb.1, by rw [r.length, rb.length]; exact q, h.ok (Le.set hi (nf ea)) (w.set hi (nf ea) (OR.mkL upd_same ((r.append rb).mono (Le.set hi (nf ea))))) .non⟩
      | _ => exact h.elim
  · exact h.elim
end
section
variable {X : Cx} {W : DW} {o e : Expr} {es : List Expr} {O : CM D} {As : CM (List D)} {apos cpos : Pos}
theorem d_app (ho : PE X o (tE X.K W O)) (ha : PA X [e] (tA X.K W As)) (hbase : attributeBase o "append" X.env (eval o X.env) = eval o X.env := by rfl)
    (hfew : ((backTo cpos (starEach [e] X.env)).all (fun x => !x.1) && (backToKw cpos (keywordEach [] X.env)).all (fun x => x.1.isSome) && decide ([e].length + ([] : List Keyword).length + (if ([] : List Keyword).isEmpty then 0 else 1) < 30)) = true := by rfl)
    (hline : (apos.endLine == cpos.line) = true := by rfl) (hs : starEach [e] X.env = (false, eval e X.env) :: starEach [] X.env := by rfl) (hp : (backTo cpos (starEach [] X.env)).any (·.1) = false := by rfl) :
    PE X (.Call (.Attribute o "append" apos) [e] [] cpos) (tE X.K W (eMeth isList Fapp O As)) :=
  (pe_bm PySem.F.plainAttrs_list PySem.F.slot_list_append PySem.F.type_list_append mt_append ho ha hbase hfew hline hs hp).imp (bmAux (fun _ _ _ _ _ => list_ty) lift_app)
theorem d_ext (ho : PE X o (tE X.K W O)) (ha : PA X [e] (tA X.K W As)) (hbase : attributeBase o "extend" X.env (eval o X.env) = eval o X.env := by rfl)
    (hfew : ((backTo cpos (starEach [e] X.env)).all (fun x => !x.1) && (backToKw cpos (keywordEach [] X.env)).all (fun x => x.1.isSome) && decide ([e].length + ([] : List Keyword).length + (if ([] : List Keyword).isEmpty then 0 else 1) < 30)) = true := by rfl)
    (hline : (apos.endLine == cpos.line) = true := by rfl) (hs : starEach [e] X.env = (false, eval e X.env) :: starEach [] X.env := by rfl) (hp : (backTo cpos (starEach [] X.env)).any (·.1) = false := by rfl) :
    PE X (.Call (.Attribute o "extend" apos) [e] [] cpos) (tE X.K W (eMeth isList Fext O As)) :=
  (pe_bm PySem.F.plainAttrs_list PySem.F.slot_list_extend PySem.F.type_list_extend mt_extend ho ha hbase hfew hline hs hp).imp (bmAux (fun _ _ _ _ _ => list_ty) lift_ext)
end
/-! ### min, max, sum of a list of intsD -/
def intsD : List D → Option (List Int)
  | [] => some []
  | .int i :: r => (intsD r).map (i :: ·)
  | _ => none
def minI : Int → List Int → Int
  | m, [] => m
  | m, x :: r => minI (if x < m then x else m) r
def maxI : Int → List Int → Int
  | m, [] => m
  | m, x :: r => maxI (if m < x then x else m) r
/-- the items of a list value -/
def itemsL (μ : Store) : D → Option (List D)
  | .lst xs => some xs
  | .fl xs => some xs
  | .ref i => match μ[i]? with
    | some (.lst xs) => some xs
    | _ => none
  | _ => none
theorem itemsL_sq {K : PySem.W.Frag} {ι : List Addr} {H : Hp} {μ : Store} {x : V} {d : D} {xs : List D} (w : WF K ι μ H) (v : VR K ι H x d) (h : itemsL μ d = some xs) : ∃ a vs, x = .ref a ∧ SqL K H a vs ∧ VRs K ι H vs xs := by
  cases v with
  | lst hh r => cases h; exact ⟨_, _, rfl, hh.sq, r⟩
  | fl hh r => cases h; exact ⟨_, _, rfl, hh.sq, r⟩
  | ref hi =>
    obtain ⟨o, ho, ro⟩ := w.has hi
    simp only [itemsL, ho] at h
    cases o with
    | lst ys =>
      cases h
      obtain ⟨vs, ea, r⟩ := ro
      exact ⟨_, vs, rfl, .inl (.inl ea), r⟩
    | _ => cases h
  | _ => simp [itemsL] at h
def FminL (ds : List D) (μ : Store) : Res D := match ds with
  | [d] => match (itemsL μ d).bind intsD with
    | some (m :: r) => okR (.int (minI m r)) μ
    | _ => none
  | _ => none
def FmaxL (ds : List D) (μ : Store) : Res D := match ds with
  | [d] => match (itemsL μ d).bind intsD with
    | some (m :: r) => okR (.int (maxI m r)) μ
    | _ => none
  | _ => none
def Fsum (ds : List D) (μ : Store) : Res D := match ds with
  | [d] => match (itemsL μ d).bind intsD with
    | some ns => okR (.int ns.sum) μ
    | _ => none
  | _ => none
section
variable {X : Cx} {K : PySem.W.Frag}
end
/-! ### in, not in -/
def Fin (neg : Bool) (d e : D) (μ : Store) : Res D := match e with
  | .str y => match d with
    | .str x => okR (.bl (if neg then !(!(Builtin.Str.occurrences y x 0 y.length 1).isEmpty) else !(Builtin.Str.occurrences y x 0 y.length 1).isEmpty)) μ
    | _ => none
  | _ => match toPyS μ d, toPyS μ e with
    | some p, some (.list ds) => if SeqAt.shaped p = true ∧ SeqAt.shaped (.list ds) = true then okR (.bl (if neg then !ds.any fun z => PyData.eqv z p else ds.any fun z => PyData.eqv z p)) μ else none
    | some p, some (.tuple ds) => if SeqAt.shaped p = true ∧ SeqAt.shaped (.tuple ds) = true then okR (.bl (if neg then !ds.any fun z => PyData.eqv z p else ds.any fun z => PyData.eqv z p)) μ else none
    | _, _ => none
def rInT (K : PySem.W.Frag) (neg : Bool) : L2.R2 := fun x y H Q => ∃ d ds, Dp K H x d ∧ Dp K H y (.tuple ds) ∧ SeqAt.shaped d = true ∧ SeqAt.shaped (.tuple ds) = true ∧ Q (.bl (if neg then !ds.any fun z => PyData.eqv z d else ds.any fun z => PyData.eqv z d)) H
def rInL (K : PySem.W.Frag) (neg : Bool) : L2.R2 := fun x y H Q => ∃ d ds, Dp K H x d ∧ Dp K H y (.list ds) ∧ SeqAt.shaped d = true ∧ SeqAt.shaped (.list ds) = true ∧ Q (.bl (if neg then !ds.any fun z => PyData.eqv z d else ds.any fun z => PyData.eqv z d)) H
def rInS (neg : Bool) : L2.R2 := fun x y H Q => ∃ i j, x = .str i ∧ y = .str j ∧ Q (.bl (if neg then !(!(Builtin.Str.occurrences j i 0 j.length 1).isEmpty) else !(Builtin.Str.occurrences j i 0 j.length 1).isEmpty)) H
def rInAny (K : PySem.W.Frag) (neg : Bool) : L2.R2 := fun x y H Q => rInL K neg x y H Q ∨ rInT K neg x y H Q ∨ rInS neg x y H Q
section
variable {X : Cx} {K : PySem.W.Frag}
theorem roomIn {A : Around} {ds : List PyData} {d : PyData} (h : SeqAt.shaped d = true) (hu : A.units + 65 < cLine) : A.units + 1 + min (PyData.depthAll ds) d.depth < cLine := by
  have h1 := SeqAt.depth_of_shaped h
  have h2 : min (PyData.depthAll ds) d.depth ≤ d.depth := Nat.min_le_right _ _
  omega
theorem op_notInT (hu : X.A.units + 65 < cLine) : OpR X (compareOp .NotIn) (rInT X.K true) := by
  intro pins s σ H x y v u Q I rx ry h
  obtain ⟨d, ds, hd, he, sd, se, q⟩ := h
  obtain ⟨as, r1⟩ := Dp.reads I d x v hd rx
  obtain ⟨bs, r2⟩ := Dp.reads I (.tuple ds) y u he ry
  have hc : PyData.canLayAll0 ds = true := SeqAt.canLay_of_shaped se
  exact SeqAt.notIn_tuple_reads r2 r1 hc (SeqAt.canLay_of_shaped sd) (roomIn sd hu) ⟨.bl _, H, I, rfl, q⟩
theorem op_notInAny (hu : X.A.units + 65 < cLine) : OpR X (compareOp .NotIn) (rInAny X.K true) := (op_notInD hu).or ((op_notInT hu).or op_notin_str)
theorem lift_in {neg : Bool} : Lift2 K (rInAny K neg) (Fin neg) := by
  intro W σ ι μ H x y d e Q w vx vy h
  by_cases z : ∃ t, e = .str t
  · obtain ⟨t, rfl⟩ := z
    cases vy
    cases vx with
    | str a => exact .inr (.inr ⟨a, t, rfl, rfl, h.ok0 w (.bl _)⟩)
    | _ => exact h.elim
  · have h' : PostG (VR K) K W σ ι H Q (match toPyS μ d, toPyS μ e with
      | some p, some (.list ds) => if SeqAt.shaped p = true ∧ SeqAt.shaped (.list ds) = true then okR (.bl (if neg then !ds.any fun z => PyData.eqv z p else ds.any fun z => PyData.eqv z p)) μ else none
      | some p, some (.tuple ds) => if SeqAt.shaped p = true ∧ SeqAt.shaped (.tuple ds) = true then okR (.bl (if neg then !ds.any fun z => PyData.eqv z p else ds.any fun z => PyData.eqv z p)) μ else none
      | _, _ => none) := by
      cases e with
      | str t => exact absurd ⟨t, rfl⟩ z
      | _ => exact h
    match e1 : toPyS μ d, e2 : toPyS μ e, h' with
    | some p, some (.list ds), h' =>
      obtain ⟨q, h'⟩ := PostG.guard h'
      exact .inl ⟨p, ds, dpS_of w vx e1, dpS_of w vy e2, q.1, q.2, h'.ok0 w (.bl _)⟩
    | some p, some (.tuple ds), h' =>
      obtain ⟨q, h'⟩ := PostG.guard h'
      exact .inr (.inl ⟨p, ds, dpS_of w vx e1, dpS_of w vy e2, q.1, q.2, h'.ok0 w (.bl _)⟩)
end
section
variable {X : Cx} {W : DW} {a b : Expr} {A B : CM D} {pos : Pos} {k : Nat}
theorem units65 {A : Around} (hr : Room k A) : A.units + 65 < cLine := by have := hr.un; omega
theorem dt_notin (hr : Room k X.A) (ha : PE X a (tE X.K W A)) (hb : PE X b (tE X.K W B)) (hm : behindInMarks .NotIn b = false := by rfl) : PT X (.Compare a [.NotIn] [b] pos) (tT X.K W (bOf (e2 (Fin true) A B))) := dt_cmp (op_notInAny (units65 hr)) lift_in ha hb hm
end
/-! ### x += e -/
section
variable {X : Cx} {K : PySem.W.Frag}
def FaddI : D → D → Store → Res D
  | .int i, .int j, μ => okR (.int (i + j)) μ
  | _, _, _ => none
end
/-! ### for over a list, a tuple or a text -/
def signsD (x : Str) : List D := x.cps.toList.map fun c => .str ⟨#[c]⟩
def iAny (E : CM D) : CM IV := E.bind fun d _ μ => match d with
  | .lst xs => some (.ok (xs, anyG), μ)
  | .fl xs => some (.ok (xs, anyG), μ)
  | .tup xs => some (.ok (xs, anyG), μ)
  | .str x => some (.ok (signsD x, anyG), μ)
  | .ref c => match μ[c]? with
    | some (.lst xs) => some (.ok (xs, isLst c xs), μ)
    | _ => none
  | _ => none
theorem itr_str {K : PySem.W.Frag} {ι : List Addr} {H : Hp} (x : Str) : ItR K ι H (Its x) (signsD x, anyG) := by
  intro i ι' μ H' l w _
  refine ⟨fun d e => ?_, fun e => ?_⟩
  · have e : (x.cps.toList.map fun c => D.str ⟨#[c]⟩)[i]? = some d := e
    rw [List.getElem?_map] at e
    obtain ⟨c, e1, rfl⟩ := Option.map_eq_some_iff.mp e
    have hl : i < x.cps.size := by
      have := (List.getElem?_eq_some_iff.mp e1).1
      simpa using this
    refine ⟨hl, fun v H'' y => ?_⟩
    obtain ⟨rfl, c', e2, rfl⟩ := y
    have : x.cps[i]? = some c := by simpa using e1
    rw [this] at e2
    cases e2
    exact ⟨Le.refl _ _, w, .str _⟩
  · have : (signsD x).length ≤ i := e
    unfold signsD at this
    show x.cps.size ≤ i
    simpa using this
theorem di_any {X : Cx} {W : DW} {e tg : Expr} {E : CM D} (he : PE X e (tE X.K W E)) : PI X tg e (tI X.K W (iAny E)) := by
  refine ⟨fun pins s σ H R I ⟨ρ, ι, μ, sr, wf, h⟩ => ?_⟩
  refine thn (he.run pins s σ H _ I (PostG.bind sr wf h)) ?_
  rintro v s1 ⟨x, H1, I1, r1, ι1, μ1, d, l1, w1, vx, h1⟩
  cases vx with
  | lst hh r =>
    cases r1
    obtain ⟨its, rv, p, hz⟩ := I1.list hh.sq
    exact wpAny_pyIter_list p.isList (pi_one (tk := s1.toks) I1 _ (turn_list _ _) ⟨_, Heap.get?_push_size _ rfl, rfl, rfl⟩ (PostG.ok0 h1 w1 (itr_lst hh r)))
  | fl hh r =>
    cases r1
    obtain ⟨its, rv, p, hz⟩ := I1.list hh.sq
    exact wpAny_pyIter_list p.isList (pi_one (tk := s1.toks) I1 _ (turn_list _ _) ⟨_, Heap.get?_push_size _ rfl, rfl, rfl⟩ (PostG.ok0 h1 w1 (itr_fl hh r)))
  | tup hh r =>
    cases r1
    obtain ⟨its, rv, p, hz⟩ := I1.tuple hh.sq
    exact wpAny_pyIter_tuple (show s1.heap.IsTuple _ its.toArray from p) (pi_one (tk := s1.toks) I1 _ (turn_tuple _ _) ⟨_, Heap.get?_push_size _ rfl, rfl, rfl⟩ (PostG.ok0 h1 w1 (itr_tup hh r)))
  | str x =>
    obtain ⟨t, rfl⟩ := r1
    cases ha : x.cps.all (· < 128)
    · exact wpAny_pyIter_wide ha (pi_one (tk := s1.toks) I1 _ (turn_str _ x t "str_iterator" (.inr rfl)) ⟨_, Heap.get?_push_size _ rfl, rfl, rfl⟩ (PostG.ok0 h1 w1 (itr_str x)))
    · exact wpAny_pyIter_ascii ha (pi_one (tk := s1.toks) I1 _ (turn_str _ x t "str_ascii_iterator" (.inl rfl)) ⟨_, Heap.get?_push_size _ rfl, rfl, rfl⟩ (PostG.ok0 h1 w1 (itr_str x)))
  | ref hc =>
    obtain ⟨o, ho, ro⟩ := w1.has hc
    simp only [ho] at h1
    cases o with
    | lst ds =>
      obtain ⟨vs, ea, r⟩ := ro
      cases r1
      obtain ⟨its, rv, p, hz⟩ := I1.list (xs := vs) (.inl (.inl ea))
      exact wpAny_pyIter_list p.isList (pi_one (tk := s1.toks) I1 _ (turn_list _ _) ⟨_, Heap.get?_push_size _ rfl, rfl, rfl⟩ (PostG.ok0 h1 w1 (itr_cell hc)))
    | _ => exact h1.elim
  | _ => exact h1.elim
/-! ### defs with cells of their own -/
theorem q_fseal {F : FD} {ds : List D} {μ : Store} {Q : D → Store → Prop} (h : Ok (F ds μ) (fun d μ' => PureS (μ'.take μ.length) ∧ ∃ d', unref μ.length μ' 4 d = some d' ∧ Q d' (μ'.take μ.length))) : Ok (fnSeal F ds μ) Q := seal_ok h
/-- cells beyond those of μ0 may stand there; of those of μ0 the pool alone has changed -/
structure Wy (μ0 : Store) (p : Nat) (c : Int) (μ : Store) : Prop where
  wd : Wd p c μ
  len : μ0.length ≤ μ.length
  eq : ∀ j : Nat, j < μ0.length → j ≠ p → μ[j]? = μ0[j]?
theorem Wd.y {p : Nat} {c : Int} {μ : Store} (h : Wd p c μ) : Wy μ p c μ := ⟨h, Nat.le_refl _, fun _ _ _ => rfl⟩
theorem Wy.mono {μ0 μ : Store} {p : Nat} {c c' : Int} (h : Wy μ0 p c μ) (l : c ≤ c') : Wy μ0 p c' μ := ⟨h.wd.mono l, h.len, h.eq⟩
theorem Wy.step {μ0 μ μ' : Store} {p : Nat} {c c' : Int} (h : Wy μ0 p c μ) (w : Wd p c' μ') (f : Fr p μ μ') : Wy μ0 p c' μ' :=
  ⟨w, by rw [f.len]; exact h.len, fun j hj hp => (f.eq j hp).trans (h.eq j hj hp)⟩
theorem Wd.app {p : Nat} {c : Int} {μ : Store} {o : Ob} (h : Wd p c μ) (ho : obOk 0 o = true) : Wd p c (μ ++ [o]) := by
  have hl := h.lt
  obtain ⟨⟨a, b, c0, e, q⟩, hp⟩ := h
  exact ⟨⟨a, b, c0, by rw [List.getElem?_append_left hl]; exact e, q⟩, hp.app ho⟩
theorem Wd.setn {p n : Nat} {c : Int} {μ : Store} {o : Ob} (h : Wd p c μ) (hn : n ≠ p) (ho : obOk 0 o = true) : Wd p c (μ.set n o) := by
  obtain ⟨⟨a, b, c0, e, q⟩, hp⟩ := h
  exact ⟨⟨a, b, c0, by rw [List.getElem?_set_ne hn]; exact e, q⟩, hp.set ho⟩
theorem Wy.app {μ0 μ : Store} {p : Nat} {c : Int} {o : Ob} (h : Wy μ0 p c μ) (ho : obOk 0 o = true) : Wy μ0 p c (μ ++ [o]) :=
  ⟨h.wd.app ho, by rw [List.length_append]; have := h.len; omega, fun j hj hp => by rw [List.getElem?_append_left (Nat.lt_of_lt_of_le hj h.len)]; exact h.eq j hj hp⟩
theorem Wy.setn {μ0 μ : Store} {p n : Nat} {c : Int} {o : Ob} (h : Wy μ0 p c μ) (hn : μ0.length ≤ n) (hp0 : p < μ0.length) (ho : obOk 0 o = true) : Wy μ0 p c (μ.set n o) :=
  ⟨h.wd.setn (by omega) ho, by rw [List.length_set]; exact h.len, fun j hj hp => by rw [List.getElem?_set_ne (by omega)]; exact h.eq j hj hp⟩
theorem Wy.cut {μ0 μ : Store} {p : Nat} {c : Int} (h : Wy μ0 p c μ) (hp0 : p < μ0.length) : Wx μ0 p c (μ.take μ0.length) := by
  obtain ⟨⟨⟨a, b, c0, e, q⟩, hp⟩, hl, he⟩ := h
  refine ⟨⟨⟨a, b, c0, by rw [List.getElem?_take_of_lt hp0]; exact e, q⟩, hp.take _⟩, by rw [List.length_take]; omega, fun j hj => ?_⟩
  by_cases hjl : j < μ0.length
  · rw [List.getElem?_take_of_lt hjl]; exact he j hjl hj
  · rw [List.getElem?_eq_none (by rw [List.length_take]; omega), List.getElem?_eq_none (by omega)]
/-! ### running: the new words -/
section
variable {ρ : Rho} {μ : Store} {Q : D → Store → Prop} {Qf : Fl → Store → Prop} {Qi : IV → Store → Prop} {A : CM D} {As : CM (List D)}
theorem q_unp {is : List Nat} (h : Ok (A ρ μ) (fun d μ1 => ∃ ρ', fTup is d ρ = some ρ' ∧ Qf (.nx ρ') μ1)) : OkS (sUnp is A ρ μ) Qf := OkS_lft (h.mono fun d μ1 ⟨ρ', e, q⟩ => by simp only [e]; exact q)
theorem q_drop (h : Ok (A ρ μ) (fun _ μ1 => Qf (.nx ρ) μ1)) : OkS (sDrop A ρ μ) Qf := OkS_drop h
theorem q_meth {c : Store → D → Bool} {F : D → List D → Store → Res D} : Ok (eMeth c F A As ρ μ) Q = Ok (A ρ μ) (fun o μ1 => c μ1 o = true ∧ Ok (As ρ μ1) (fun ds μ2 => Ok (F o ds μ2) Q)) := by
  unfold eMeth
  rw [Ok_bind]
  congr 1
  funext o μ1
  rw [q_if]
  congr 1
  exact Ok_bind
theorem f_app {c : Nat} {xs : List D} {y : D} (h : μ[c]? = some (.lst xs)) (hl : xs.length < sizeLine) : Fapp (.ref c) [y] μ = okR .non (μ.set c (.lst (xs ++ [y]))) := by
  unfold Fapp
  simp only [h, if_pos hl]
theorem f_ext {c : Nat} {xs ys : List D} (h : μ[c]? = some (.lst xs)) (hl : xs.length + ys.length ≤ sizeLine) : Fext (.ref c) [.lst ys] μ = okR .non (μ.set c (.lst (xs ++ ys))) := by
  unfold Fext
  simp only [h, if_pos hl]
theorem isList_ref {c : Nat} {xs : List D} (h : μ[c]? = some (.lst xs)) : isList μ (.ref c) = true := by
  simp only [isList, h]
def anyAt (d : D) (μ : Store) (k : List D → (Store → Bool) → Prop) : Prop := match d with
  | .lst xs => k xs anyG
  | .fl xs => k xs anyG
  | .tup xs => k xs anyG
  | .str x => k (signsD x) anyG
  | .ref c => match μ[c]? with
    | some (.lst xs) => k xs (isLst c xs)
    | _ => False
  | _ => False
theorem q_anyL {xs : List D} {k : List D → (Store → Bool) → Prop} : anyAt (.lst xs) μ k = k xs anyG := rfl
theorem q_anyF {xs : List D} {k : List D → (Store → Bool) → Prop} : anyAt (.fl xs) μ k = k xs anyG := rfl
theorem q_anyT {xs : List D} {k : List D → (Store → Bool) → Prop} : anyAt (.tup xs) μ k = k xs anyG := rfl
theorem q_anyS {x : Str} {k : List D → (Store → Bool) → Prop} : anyAt (.str x) μ k = k (signsD x) anyG := rfl
theorem q_iany : Ok (iAny A ρ μ) Qi = Ok (A ρ μ) (fun d μ1 => anyAt d μ1 (fun xs g => Qi (xs, g) μ1)) := by
  unfold iAny
  rw [Ok_bind]
  congr 1
  funext d μ1
  cases d with
  | ref c =>
    unfold anyAt
    simp only []
    cases μ1[c]? with
    | none => rfl
    | some o => cases o <;> rfl
  | _ => rfl
end
end DM

namespace DM
open PySem PySem.Spec L2
section
variable {α β : Type} {ρ : Rho} {μ : Store} {Q : D → Store → Prop} {Qs : List D → Store → Prop} {Qb : Bool → Store → Prop} {Qf : Fl → Store → Prop} {Qi : IV → Store → Prop} {A B C : CM D} {T U : CM Bool} {As : CM (List D)}
/-! ### comprehensions that leave the store as it is -/
theorem lcm {gd : Store → Bool} {g : D → Rho → Option Rho} {E : CM D} (emb : α → D) (t : α → Bool) (f : α → D) {items : List α} {n : Nat} (hn : μ.length = n) (hp : PureS μ) (hlen : items.length ≤ 1000000) (hgd : ∀ o, gd (μ ++ [o]) = true)
    (hs : ∀ x o, x ∈ items → ∃ ρ1, g (emb x) ρ = some ρ1 ∧ Ok (T ρ1 (μ ++ [o])) (fun b μ2 => μ2 = μ ++ [o] ∧ b = t x) ∧ (t x = true → Ok (E ρ1 (μ ++ [o])) (fun y μ2 => μ2 = μ ++ [o] ∧ y = f x ∧ noRef 0 (f x) = true)))
    (q : ∀ d μ', (d = D.ref n ∧ μ' = μ ++ [.lst ((items.filter t).map f)] ∧ PureS (μ'.take n) ∧ unref n μ' 4 d = some (.lst ((items.filter t).map f)) ∧ μ'.take n = μ) → Q d μ') : Ok (lcLoop gd g T E n (items.map emb) ρ (μ ++ [.lst []])) Q := by
  refine Ok.mono ?_ q
  refine lc_ok (acc := []) (fun i acc μ' => μ' = μ ++ [.lst acc] ∧ acc = ((items.take i).filter t).map f ∧ noRefs 0 acc = true ∧ acc.length ≤ i) (fun i acc μ' h => by rw [h.1]; exact hgd _) ?_ ?_ ⟨rfl, by simp, rfl, by simp⟩
  · rintro i d acc μ' ed ⟨rfl, ha, hr, hl⟩
    have hil : i < items.length := by
      have := (List.getElem?_eq_some_iff.mp ed).1
      simpa using this
    rw [List.getElem?_map] at ed
    rw [List.getElem?_eq_getElem hil] at ed
    cases ed
    obtain ⟨ρ1, eg, h1, h2⟩ := hs items[i] (.lst acc) (List.getElem_mem hil)
    refine ⟨ρ1, eg, h1.mono ?_⟩
    rintro b μ2 ⟨rfl, rfl⟩
    have tk : items.take (i + 1) = items.take i ++ [items[i]] := by simp
    refine ⟨fun hb => (h2 hb).mono ?_, fun hb => ⟨rfl, ?_, hr, by omega⟩⟩
    · rintro y μ2 ⟨rfl, rfl, hy⟩
      refine ⟨by rw [← hn]; simp, ?_, ?_, ?_, ?_, ?_⟩
      · exact Nat.lt_of_le_of_lt hl (Nat.lt_of_lt_of_le hil (size_ok hlen))
      · rw [List.set_append_right _ _ (by omega), hn]; simp
      · rw [tk, List.filter_append, List.map_append, ← ha]
        congr 1
        rw [List.filter_cons, if_pos hb]
        rfl
      · exact noRefs_all.mpr fun d hd => by
          rcases List.mem_append.mp hd with h | h
          · exact noRefs_all.mp hr d h
          · rw [List.mem_singleton.mp h]; exact hy
      · simp; omega
    · rw [tk, List.filter_append, List.map_append, ← ha, List.filter_cons, if_neg (by simp [hb])]
      simp
  · rintro acc μ' ⟨rfl, ha, hr, hl⟩
    have e : (List.take (items.map emb).length items) = items := by simp
    rw [e] at ha
    subst ha
    refine ⟨rfl, rfl, ?_, ?_, ?_⟩
    · rw [← hn]; simpa using hp
    · exact unref_cell (by rw [← hn]; simp) (Nat.le_refl _) hr
    · rw [← hn]; simp
/-- the list of a comprehension that leaves the store as it is -/
theorem q_lcm {I : CM IV} {g : D → Rho → Option Rho} {E : CM D} {own : List Nat} (emb : α → D) (t : α → Bool) (f : α → D) (items : List α) (hp : PureS μ) (hlen : items.length ≤ 1000000)
    (hI : Ok (I ρ μ) (fun q μ1 => μ1 = μ ∧ q.1 = items.map emb ∧ ∀ o, q.2 (μ ++ [o]) = true))
    (hs : ∀ x o, x ∈ items → ∃ ρ1, g (emb x) (wipeR ρ own) = some ρ1 ∧ Ok (T ρ1 (μ ++ [o])) (fun b μ2 => μ2 = μ ++ [o] ∧ b = t x) ∧ (t x = true → Ok (E ρ1 (μ ++ [o])) (fun y μ2 => μ2 = μ ++ [o] ∧ y = f x ∧ noRef 0 (f x) = true)))
    (q : Q (.lst ((items.filter t).map f)) μ) : Ok (eSeal (eLC I g T E own) ρ μ) Q := by
  refine q_lc (hI.mono ?_)
  rintro ⟨xs, gd⟩ μ1 ⟨rfl, rfl, hg⟩
  refine lcm emb t f rfl hp hlen hg hs ?_
  rintro d μ' ⟨rfl, e1, e2, e3, e4⟩
  rw [e4] at e2 ⊢
  exact ⟨e2, _, e3, q⟩
def rngI (lo : Int) (n : Nat) : List Int := (List.range n).map (fun i : Nat => lo + (i : Int))
theorem rngD_eq {lo : Int} {n : Nat} : rngD lo n = (rngI lo n).map D.int := by
  unfold rngD rngI
  rw [List.map_map]
  rfl
theorem rngI_mem {lo x : Int} {n : Nat} : x ∈ rngI lo n ↔ lo ≤ x ∧ x < lo + n := by
  unfold rngI
  rw [List.mem_map]
  constructor
  · rintro ⟨i, hi, rfl⟩
    have := List.mem_range.mp hi
    omega
  · rintro ⟨a, b⟩
    exact ⟨(x - lo).toNat, List.mem_range.mpr (by omega), by omega⟩
/-! ### words on lists that a function maps -/
/-! ### stores of names side by side -/
def par2 (ds : List D) (k : D → D → Prop) : Prop := match ds with
  | [a, b] => k a b
  | _ => False
def par3 (ds : List D) (k : D → D → D → Prop) : Prop := match ds with
  | [a, b, c] => k a b c
  | _ => False
theorem q_p2 {a b : D} {k : D → D → Prop} : par2 [a, b] k = k a b := rfl
theorem q_p3 {a b c : D} {k : D → D → D → Prop} : par3 [a, b, c] k = k a b c := rfl
theorem q_spar2 {i j : Nat} (h : Ok (As ρ μ) (fun ds μ1 => par2 ds (fun a b => Qf (.nx ((ρ.set i (some a)).set j (some b))) μ1))) : OkS (sPar2 i j As ρ μ) Qf := q_par2 (h.mono fun ds μ1 q => by
  unfold par2 at q
  split at q
  · exact ⟨_, _, rfl, q⟩
  · exact q.elim)
theorem q_spar3 {i j l : Nat} (h : Ok (As ρ μ) (fun ds μ1 => par3 ds (fun a b c => Qf (.nx (((ρ.set i (some a)).set j (some b)).set l (some c))) μ1))) : OkS (sPar3 i j l As ρ μ) Qf := q_par3 (h.mono fun ds μ1 q => by
  unfold par3 at q
  split at q
  · exact ⟨_, _, _, rfl, q⟩
  · exact q.elim)
theorem q_setA0 {ρ : Rho} : setAll [] [] ρ = some ρ := rfl
theorem q_setA {i : Nat} {is : List Nat} {d : D} {ds : List D} {ρ : Rho} : setAll (i :: is) (d :: ds) ρ = setAll is ds (ρ.set i (some d)) := rfl
def unpAt (is : List Nat) (d : D) (ρ : Rho) (k : Rho → Prop) : Prop := match fTup is d ρ with
  | some ρ' => k ρ'
  | none => False
def rhoAt (o : Option Rho) (k : Rho → Prop) : Prop := match o with
  | some ρ' => k ρ'
  | none => False
theorem q_rhoAt {ρ : Rho} {k : Rho → Prop} : rhoAt (some ρ) k = k ρ := rfl
theorem q_unpT {is : List Nat} {ds : List D} {k : Rho → Prop} : unpAt is (.tup ds) ρ k = rhoAt (setAll is ds ρ) k := rfl
theorem q_sunp {is : List Nat} (h : Ok (A ρ μ) (fun d μ1 => unpAt is d ρ (fun ρ' => Qf (.nx ρ') μ1))) : OkS (sUnp is A ρ μ) Qf := q_unp (h.mono fun d μ1 q => by
  unfold unpAt at q
  split at q
  · exact ⟨_, by assumption, q⟩
  · exact q.elim)
/-! ### lists of whole numbers as data -/
end
end DM

namespace DM
open PySem PySem.Spec L2
/-! ### what a module's name holds -/
mutual
def conV (K : PySem.W.Frag) : D → Value → Bool
  | .non, u => (match u with
    | .none => true
    | _ => false)
  | .bl b, u => (match u with
    | .bool c => b == c
    | _ => false)
  | .int i, u => (match u with
    | .int j _ => decide (i = j)
    | _ => false)
  | .str x, u => (match u with
    | .str y _ => decide (x = y)
    | _ => false)
  | .tup ds, u => (match u with
    | .ref a => (match K.lookup a with
      | some ⟨.type c, none, .seq its _, _⟩ => decide (c = "tuple") && (decide (its.size ≤ sizeLine) && conVs K ds its.toList)
      | _ => false)
    | _ => false)
  | _, _ => false
def conVs (K : PySem.W.Frag) : List D → List Value → Bool
  | [], us => us.isEmpty
  | d :: ds, us => (match us with
    | u :: us => conV K d u && conVs K ds us
    | [] => false)
end
theorem andT {a b : Bool} (h : (a && b) = true) : a = true ∧ b = true := by cases a <;> cases b <;> simp_all
mutual
theorem conV_ok {K : PySem.W.Frag} : ∀ {d : D} {u : Value}, conV K d u = true → ∃ v, RelV v u ∧ ∀ ι H, VR K ι H v d
  | .non, u, h => by
    cases u with
    | none => exact ⟨.non, rfl, fun _ _ => .non⟩
    | _ => simp [conV] at h
  | .bl b, u, h => by
    cases u with
    | bool c =>
      have e : b = c := by simpa [conV] using h
      subst e
      exact ⟨.bl b, rfl, fun _ _ => .bl b⟩
    | _ => simp [conV] at h
  | .int i, u, h => by
    cases u with
    | int j t =>
      have e : i = j := by simpa [conV] using h
      subst e
      exact ⟨.int i, ⟨t, rfl⟩, fun _ _ => .int i⟩
    | _ => simp [conV] at h
  | .str x, u, h => by
    cases u with
    | str y t =>
      have e : x = y := by simpa [conV] using h
      subst e
      exact ⟨.str x, ⟨t, rfl⟩, fun _ _ => .str x⟩
    | _ => simp [conV] at h
  | .tup ds, u, h => by
    cases u with
    | ref a =>
      unfold conV at h
      simp only [] at h
      split at h
      · rename_i c its n sl q
        obtain ⟨h1, h2⟩ := andT h
        obtain ⟨h3, h4⟩ := andT h2
        obtain ⟨vs, r, k⟩ := conVs_ok h4
        exact ⟨.ref a, rfl, fun ι H => .tup (.inr (.inl ⟨_, its, n, q, congrArg Value.type (of_decide_eq_true h1), rfl, rfl, of_decide_eq_true h3, r⟩)) (k ι H)⟩
      · cases h
    | _ => simp [conV] at h
  | .lst _, _, h => by simp [conV] at h
  | .fl _, _, h => by simp [conV] at h
  | .ref _, _, h => by simp [conV] at h
theorem conVs_ok {K : PySem.W.Frag} : ∀ {ds : List D} {us : List Value}, conVs K ds us = true → ∃ vs, Vals vs us ∧ ∀ ι H, VRs K ι H vs ds
  | [], us, h => by
    cases us with
    | nil => exact ⟨[], .nil, fun _ _ => .nil⟩
    | cons _ _ => simp [conVs] at h
  | d :: ds, us, h => by
    cases us with
    | nil => simp [conVs] at h
    | cons u us =>
      obtain ⟨h1, h2⟩ := andT (show (conV K d u && conVs K ds us) = true by simpa [conVs] using h)
      obtain ⟨v, r, k⟩ := conV_ok h1
      obtain ⟨vs, r', k'⟩ := conVs_ok h2
      exact ⟨v :: vs, .cons r r', fun ι H => .cons (k ι H) (k' ι H)⟩
end
def Cst (K : PySem.W.Frag) (mg : Str → Option Value) (x : Str) (d : D) : Prop := ∃ u v, mg x = some u ∧ RelV v u ∧ ∀ ι H, VR K ι H v d
def conB (K : PySem.W.Frag) (c : Str × D) : Bool := match PySem.W.nsIn K mainGlobals c.1 with
  | some (some u) => conV K c.2 u
  | _ => false
theorem conB_ok {K : PySem.W.Frag} {h : Heap} {mg : Str → Option Value} {x : Str} {d : D} (X : K.In h) (G : h.Ns mainGlobals mg) (c : conB K (x, d) = true) : Cst K mg x d := by
  unfold conB at c
  split at c
  · rename_i u q
    obtain ⟨v, r, k⟩ := conV_ok c
    exact ⟨u, v, PySem.W.mg_of X G q, r, k⟩
  · cases c
theorem d_cst {X : Cx} {W : DW} {x : Str} {d : D} {pos : Pos} (hg : Gl X x) (h : Cst X.K X.mg x d) (hd : (x == ("__debug__" : Str)) = false := by decide) : PE X (.Name x pos) (tE X.K W (eC d)) := by
  obtain ⟨u, v, h1, h2, h3⟩ := h
  exact d_const (pe_glob hg h1 h2 hd) h3
/-! ### the look at the head, with the module's values -/
abbrev AlC : Type := Bool × He.AlD
def obsC (fa : List He.Fa) (fn : List He.DefD) (cs : List (Str × D)) (K : PySem.W.Frag) : AlC := (cs.all (conB K), He.obsD fa fn K)
def obsCG (n : Nat) (fa : List He.Fa) (fn : List He.DefD) (cs : List (Str × D)) (g : Addr → Option Obj) : AlC := obsC fa fn cs (He.frG g (He.asD g n))
structure SaysC (fa : List He.Fa) (fn : List He.DefD) (cs : List (Str × D)) (K : PySem.W.Frag) : Prop where
  c : He.SaysD fa fn K
  k : cs.all (conB K) = true
def hookC (n : Nat) (fa : List He.Fa) (fn : List He.DefD) (cs : List (Str × D)) : PySem.W.Hook where
  α := AlC
  obs := fun s => obsCG n fa fn cs s.heap.get?
  val := fun _ => (true, He.valD fn)
  says := fun _ h => ∃ K : PySem.W.Frag, K.In h ∧ SaysC fa fn cs K
  of := fun _ _ e => ⟨_, He.frG_in, congrArg Prod.snd e, congrArg Prod.fst e⟩
  keeps := fun _ _ _ ⟨K, hK, c⟩ k => ⟨K, PySem.W.Frag.In.keeps hK k, c⟩
theorem obsCG_eq {n : Nat} {fa : List He.Fa} {fn : List He.DefD} {cs : List (Str × D)} {g : Addr → Option Obj} {s : Shared} (h : ∀ a, g a = s.heap.get? a) : obsCG n fa fn cs g = (hookC n fa fn cs).obs s := by
  have e : g = s.heap.get? := funext h
  rw [e] <;> rfl
theorem SaysC.con {fa : List He.Fa} {fn : List He.DefD} {cs : List (Str × D)} {K : PySem.W.Frag} (c : SaysC fa fn cs K) (i : Nat) {z : Str × D} (h : cs[i]? = some z := by rfl) : conB K z = true :=
  List.all_eq_true.mp c.k z (List.mem_of_getElem? h)
end DM

namespace DM
open PySem PySem.Spec L2
/-! ### repr of data -/
def Frepr (ds : List D) (μ : Store) : Res D := match ds with
  | [d] => match toPyS μ d with
    | some p => if (p.showable = true ∧ p.depth ≤ 64) ∧ p.shown.length ≤ sizeLine then okR (.str p.shown) μ else none
    | none => none
  | _ => none
def rRepr (K : PySem.W.Frag) : List V → Hp → VK → Prop := fun xs H Q => ∃ x p, xs = [x] ∧ Dp K H x p ∧ p.showable = true ∧ p.depth ≤ 64 ∧ p.shown.length ≤ sizeLine ∧ Q (.str p.shown) H
section
variable {X : Cx} {K : PySem.W.Frag}
mutual
theorem dp_noDict {H : Hp} : ∀ {v : V} {p : PyData}, Dp K H v p → p.hasDict = false
  | _, _, .non => rfl
  | _, _, .bl _ => rfl
  | _, _, .int _ => rfl
  | _, _, .str _ => rfl
  | _, _, .lst _ h => by simp only [PyData.hasDict]; exact dp_noDictAll h
  | _, _, .tup _ h => by simp only [PyData.hasDict]; exact dp_noDictAll h
theorem dp_noDictAll {H : Hp} : ∀ {vs : List V} {ps : List PyData}, DpAll K H vs ps → PyData.hasDictAll ps = false
  | _, _, .nil => rfl
  | _, _, .cons h t => by simp only [PyData.hasDictAll, dp_noDict h, dp_noDictAll t, Bool.or_self]
end
theorem call_repr (hG : X.A.guards = some []) (hu : X.A.units + 65 < cLine) : CallR X (.builtin "repr") (rRepr X.K) := by
  intro pins s σ H xs us Q I r h
  obtain ⟨x, p, rfl, hp, h1, h2, h3, q⟩ := h
  obtain ⟨u, rfl, rx⟩ := vals1 r
  obtain ⟨as, rd⟩ := Dp.reads I p x u hp rx
  have hnd := dp_noDict hp
  cases hp with
  | non => cases rx; exact PySem.P.repr_of_none ⟨.str _, H, I.tok _, ⟨_, rfl⟩, q⟩
  | bl b => cases rx; exact PySem.P.repr_of_bool ⟨.str _, H, I.tok _, ⟨_, rfl⟩, q⟩
  | int i =>
    obtain ⟨t, rfl⟩ := rx
    exact PySem.P.repr_of_int (of_decide_eq_true h1) ⟨.str _, H, I.tok _, ⟨_, rfl⟩, q⟩
  | str z =>
    obtain ⟨t, rfl⟩ := rx
    exact PySem.P.repr_of_str (hsz := h3) ⟨.str _, H, I.tok _, ⟨_, rfl⟩, q⟩
  | lst hs ha =>
    cases rx
    exact repr_of_reads' rd h1 (PyData.noDict_hsm hnd) hG (by omega) (fun _ _ e => e) (fun h' u tk hk => ⟨.str _, H, I.kept hk, ⟨_, rfl⟩, q⟩) h3
  | tup hs ha =>
    cases rx
    exact repr_of_reads' rd h1 (PyData.noDict_hsm hnd) hG (by omega) (fun _ _ e => e) (fun h' u tk hk => ⟨.str _, H, I.kept hk, ⟨_, rfl⟩, q⟩) h3
theorem lift_repr : LiftA K (rRepr K) Frepr := by
  intro W σ ι μ H xs ds Q w v h
  unfold Frepr at h
  split at h
  · obtain ⟨x, rfl, vx⟩ := v.one
    split at h
    · rename_i p ep
      obtain ⟨z, h⟩ := PostG.guard h
      exact ⟨x, p, rfl, dpS_of w vx ep, z.1.1, z.1.2, z.2, h.ok0 w (.str _)⟩
    · exact h.elim
  · exact h.elim
/-! ### methods of tuples -/
def tyT (K : PySem.W.Frag) (x : V) (H : Hp) : Prop := ∃ p vs, x = .ref p ∧ ((∃ o, H p = some (.frz o (.tup vs)) ∧ o.dict = none) ∨ ∃ o, K.lookup p = some o ∧ o.cls = .type "tuple" ∧ o.dict = none)
def tBMT (K : PySem.W.Frag) (r : V → List V → Hp → VK → Prop) (to : TE) (t : TA) : TE := fun σ H Q => to σ H fun x H1 => tyT K x H1 ∧ t σ H1 fun xs H2 => r x xs H2 Q
section
variable {o e : Expr} {es : List Expr} {to : TE} {t : TA} {name : Str} {apos cpos : Pos} {id : String} {r : V → List V → Hp → VK → Prop}
end
def notInt : D → Bool
  | .int _ => false
  | _ => true
def isTup (μ : Store) : D → Bool
  | .tup ds => ds.all notInt
  | _ => false
def strsD : List D → Option (List Str)
  | [] => some []
  | .str x :: r => (strsD r).map (x :: ·)
  | _ :: _ => none
theorem strsD_map : ∀ ys : List Str, strsD (ys.map D.str) = some ys
  | [] => rfl
  | y :: r => by simp only [List.map_cons, strsD, strsD_map r, Option.map_some]
theorem strsD_eq : ∀ {ds : List D} {ys : List Str}, strsD ds = some ys → ds = ys.map D.str
  | [], ys, h => by cases h; rfl
  | d :: r, ys, h => by
    cases d with
    | str x =>
      simp only [strsD, Option.map_eq_some_iff] at h
      obtain ⟨z, e, rfl⟩ := h
      rw [strsD_eq e]
      rfl
    | _ => simp [strsD] at h
theorem vrs_strs {ι : List Addr} {H : Hp} : ∀ {vs : List V} {ys : List Str}, VRs K ι H vs (ys.map D.str) → vs = ys.map V.str
  | _, [], h => by cases h; rfl
  | _, y :: r, h => by
    cases h with
    | cons a t =>
      cases a
      rw [vrs_strs t]
      rfl
def idxS (z : Str) : List Str → Option Nat
  | [] => none
  | y :: r => if y = z then some 0 else (idxS z r).map (· + 1)
def FtIdx (o : D) (ds : List D) (μ : Store) : Res D := match o, ds with
  | .tup xs, [.str z] => match strsD xs with
    | some ys => pureR ((idxS z ys).map fun j => .int (j : Nat)) μ
    | none => none
  | _, _ => none
end
section
variable {X : Cx} {W : DW} {o e : Expr} {es : List Expr} {O : CM D} {As : CM (List D)} {apos cpos : Pos}
end
end DM

namespace DM
open PySem PySem.Spec L2
section
variable {α β : Type} {ρ : Rho} {μ : Store} {Q : D → Store → Prop} {Qf : Fl → Store → Prop}
/-! ### loops over few items, turn by turn -/
def afterL (gd : Store → Bool) (g : D → Rho → Option Rho) (S : SF) (t : List D) (Q : Fl → Store → Prop) : Fl → Store → Prop := fun f μ => match f with
  | .nx ρ => OkS (loop gd g S t ρ μ) Q
  | .ct ρ => OkS (loop gd g S t ρ μ) Q
  | .bk ρ => Q (.nx ρ) μ
  | .rt d => Q (.rt d) μ
  | .ex _ _ => False
theorem q_loop0 {gd : Store → Bool} {g : D → Rho → Option Rho} {S : SF} (hg : gd μ = true) (h : Qf (.nx ρ) μ) : OkS (loop gd g S [] ρ μ) Qf := by
  unfold loop
  rw [if_pos hg]
  exact h
theorem q_loopS {gd : Store → Bool} {g : D → Rho → Option Rho} {S : SF} {d : D} {t : List D} {ρ1 : Rho} (hg : gd μ = true) (e : g d ρ = some ρ1) (h : OkS (S ρ1 μ) (afterL gd g S t Qf)) : OkS (loop gd g S (d :: t) ρ μ) Qf := by
  unfold loop
  rw [if_pos hg, e]
  show OkS (match S ρ1 μ with
    | some (.nx ρ2, μ2) => loop gd g S t ρ2 μ2
    | some (.ct ρ2, μ2) => loop gd g S t ρ2 μ2
    | some (.bk ρ2, μ2) => some (.nx ρ2, μ2)
    | some (.rt d, μ2) => some (.rt d, μ2)
    | some (.ex x ρ2, μ2) => some (.ex x ρ2, μ2)
    | none => none) Qf
  generalize S ρ1 μ = r at h ⊢
  match r, h with
  | some (.nx ρ2, μ2), h => exact h
  | some (.ct ρ2, μ2), h => exact h
  | some (.bk ρ2, μ2), h => exact h
  | some (.rt d, μ2), h => exact h
theorem q_aftN {gd : Store → Bool} {g : D → Rho → Option Rho} {S : SF} {t : List D} : afterL gd g S t Qf (.nx ρ) μ = OkS (loop gd g S t ρ μ) Qf := rfl
theorem q_aftC {gd : Store → Bool} {g : D → Rho → Option Rho} {S : SF} {t : List D} : afterL gd g S t Qf (.ct ρ) μ = OkS (loop gd g S t ρ μ) Qf := rfl
theorem q_aftB {gd : Store → Bool} {g : D → Rho → Option Rho} {S : SF} {t : List D} : afterL gd g S t Qf (.bk ρ) μ = Qf (.nx ρ) μ := rfl
theorem q_aftR {gd : Store → Bool} {g : D → Rho → Option Rho} {S : SF} {t : List D} {d : D} : afterL gd g S t Qf (.rt d) μ = Qf (.rt d) μ := rfl
/-! ### texts as data -/
theorem toPys_strs : ∀ ys : List Str, toPys (ys.map D.str) = some (ys.map PyData.str)
  | [] => rfl
  | n :: r => by simp only [List.map_cons, toPys, toPy, toPys_strs r]
theorem canLay_strs : ∀ {ys : List Str}, ys.all PyData.strOk = true → PyData.canLayAll0 (ys.map PyData.str) = true
  | [], _ => rfl
  | n :: r, h => by
    rw [List.all_cons, Bool.and_eq_true] at h
    simp only [List.map_cons, PyData.canLayAll0, PyData.canLay0, canLay_strs h.2, h.1, Bool.and_self]
theorem depth_strs : ∀ ys : List Str, PyData.depthAll (ys.map PyData.str) = 0
  | [] => rfl
  | n :: r => by simp only [List.map_cons, PyData.depthAll, PyData.depth, depth_strs r, Nat.max_self]
theorem shaped_strsT {ys : List Str} (h : ys.all PyData.strOk = true) : SeqAt.shaped (.tuple (ys.map PyData.str)) = true := by
  simp [SeqAt.shaped, PyData.canLay0, canLay_strs h, PyData.depth, depth_strs]
theorem shaped_str {x : Str} (h : PyData.strOk x = true) : SeqAt.shaped (.str x) = true := by
  simp [SeqAt.shaped, PyData.canLay0, h, PyData.depth]
theorem any_strs {x : Str} : ∀ ns : List Str, ((ns.map PyData.str).any fun z => PyData.eqv z (.str x)) = decide (x ∈ ns)
  | [] => by simp
  | n :: r => by
    rw [List.map_cons, List.any_cons, any_strs r]
    simp only [PyData.eqv, List.mem_cons]
    by_cases h : n = x
    · subst h; simp
    · have h' : ¬ x = n := fun e => h e.symm
      simp [h, h']
theorem f_notinTS {ys : List Str} {x : Str} (hy : ys.all PyData.strOk = true) (hx : PyData.strOk x = true) : Fin true (.str x) (.tup (ys.map D.str)) μ = okR (.bl (!decide (x ∈ ys))) μ := by
  unfold Fin
  simp only [toPyS, toPys_strs, Option.map_some, toPy]
  rw [if_pos ⟨shaped_str hx, shaped_strsT hy⟩, any_strs]
  rfl
theorem noRef_strs : ∀ ys : List Str, noRefs 0 (ys.map D.str) = true
  | [] => rfl
  | y :: r => by simp only [List.map_cons, noRefs, noRef, noRef_strs r, Bool.and_true]
/-! ### two times the same text -/
theorem f_repr {d : D} {p : PyData} (e : toPyS μ d = some p) (h : p.showable = true ∧ p.depth ≤ 64) (hl : p.shown.length ≤ sizeLine) : Frepr [d] μ = okR (.str p.shown) μ := by
  unfold Frepr
  simp only [e]
  rw [if_pos ⟨h, hl⟩]
end
end DM

namespace DM
open PySem PySem.Spec L2
/-! ### tuple(x), list(x) -/
def itemsD (μ : Store) : D → Option (List D)
  | .lst xs => some xs
  | .fl xs => some xs
  | .tup xs => some xs
  | .ref i => match μ[i]? with
    | some (.lst xs) => some xs
    | _ => none
  | _ => none
def Ftuple (ds : List D) (μ : Store) : Res D := match ds with
  | [d] => match itemsD μ d with
    | some xs => okR (.tup xs) μ
    | none => none
  | _ => none
def Flist (ds : List D) (μ : Store) : Res D := match ds with
  | [d] => match itemsD μ d with
    | some xs => okR (.lst xs) μ
    | none => none
  | _ => none
/-- list(x) as a cell -/
def FlistC (ds : List D) (μ : Store) : Res D := match ds with
  | [d] => match itemsD μ d with
    | some xs => okR (.ref μ.length) (μ ++ [.lst xs])
    | none => none
  | _ => none
def rTupleD (K : PySem.W.Frag) : List V → Hp → VK → Prop := fun xs H Q => ∃ p ys, xs = [.ref p] ∧ ((SqL K H p ys ∧ ∀ l o, H l = none → o.dict = none → Q (.ref l) (upd H l (.frz o (.tup ys)))) ∨ (SqT K H p ys ∧ Q (.ref p) H))
section
variable {X : Cx} {K : PySem.W.Frag}
theorem call_tupleD : CallR X (.type "tuple") (rTupleD X.K) := by
  intro pins s σ H xs us Q I r h
  obtain ⟨p, ys, rfl, h⟩ := h
  obtain ⟨u, rfl, rx⟩ := vals1 r
  cases rx
  rcases h with ⟨hq, q⟩ | ⟨hq, q⟩
  · obtain ⟨its, r', pl, hz⟩ := I.list hq
    have hlen := r'.length
    refine call_tuple_list pl.isList (fun h' kp => ?_) (by simp only [List.size_toArray] <;> omega)
    have I1 : Inv X pins σ H { s with heap := h' } := I.kept (t' := s.toks) kp
    exact ⟨.ref h'.objs.size, upd H h'.objs.size (.frz _ (.tup ys)), I1.laid (t' := s.toks) (fun b o e => Heap.get?_push_of_some _ e) (Nat.le_refl _) ⟨Heap.get?_push_size _ rfl, hz, its, r', PyProof.Rows.IsTup.new _ _⟩, rfl, q _ _ (I1.hok.fresh (Nat.le_refl _)) rfl⟩
  · obtain ⟨its, r', pl, hz⟩ := I.tuple hq
    exact call_tuple_same pl ⟨.ref p, H, I, rfl, q⟩
theorem itemsD_sq {ι : List Addr} {H : Hp} {μ : Store} {x : V} {d : D} {xs : List D} (w : WF K ι μ H) (v : VR K ι H x d) (h : itemsD μ d = some xs) : ∃ a vs, x = .ref a ∧ VRs K ι H vs xs ∧ (SqL K H a vs ∨ (SqT K H a vs ∧ TupAt K ι H a vs)) := by
  cases v with
  | lst hh r => cases h; exact ⟨_, _, rfl, r, .inl hh.sq⟩
  | fl hh r => cases h; exact ⟨_, _, rfl, r, .inl hh.sq⟩
  | tup hh r => cases h; exact ⟨_, _, rfl, r, .inr ⟨hh.sq, hh⟩⟩
  | ref hi =>
    obtain ⟨o, ho, ro⟩ := w.has hi
    simp only [itemsD, ho] at h
    cases o with
    | lst ys =>
      cases h
      obtain ⟨vs, ea, r⟩ := ro
      exact ⟨_, vs, rfl, r, .inl (.inl (.inl ea))⟩
    | _ => cases h
  | _ => simp [itemsD] at h
theorem lift_tuple : LiftA K (rTupleD K) Ftuple := by
  intro W σ ι μ H xs ds Q w v h
  unfold Ftuple at h
  split at h
  · obtain ⟨x, rfl, vx⟩ := v.one
    split at h
    · rename_i ys ey
      obtain ⟨a, vs, rfl, r, q | ⟨q, ta⟩⟩ := itemsD_sq w vx ey
      · refine ⟨a, vs, rfl, .inl ⟨q, fun l o hl ho => ?_⟩⟩
        exact h.ok (Le.laid hl) (w.laid hl) (.tup (.inl ⟨⟨o, upd_same, ho⟩, w.out hl⟩) (r.mono (Le.laid hl)))
      · exact ⟨a, vs, rfl, .inr ⟨q, h.ok0 w (.tup ta r)⟩⟩
    · exact h.elim
  · exact h.elim
def rListD (K : PySem.W.Frag) : List V → Hp → VK → Prop := fun xs H Q => ∃ p ys, xs = [.ref p] ∧ (SqL K H p ys ∨ SqT K H p ys) ∧ ∀ l, H l = none → Q (.ref l) (upd H l (.lst ys))
end
/-! ### slices -/
def cutD {α : Type} (xs : List α) (lo hi : Option Int) : List α := (xs.drop (HT.sIx xs.length 0 lo)).take (HT.sIx xs.length xs.length hi - HT.sIx xs.length 0 lo)
def Fcut (d : D) (lo hi : Option Int) (μ : Store) : Res D := match d with
  | .str z => if z.length ≤ sizeLine then okR (.str (Txt.slice z lo hi)) μ else none
  | .tup xs => okR (.tup (cutD xs lo hi)) μ
  | d => match itemsL μ d with
    | some xs => okR (.lst (cutD xs lo hi)) μ
    | none => none
def oNone : CM (Option Int) := CM.ret none
def oSome (E : CM D) : CM (Option Int) := E.bind fun d _ μ => match d with
  | .int i => some (.ok (some i), μ)
  | _ => none
def eCut (E : CM D) (L U : CM (Option Int)) : CM D := E.bind fun d => L.bind fun l => U.bind fun u _ μ => Fcut d l u μ
def rSlTF (K : PySem.W.Frag) : V → Option Int → Option Int → Hp → VK → Prop := fun x lo hi H Q => ∃ a xs, x = .ref a ∧ SqT K H a xs ∧ (HT.sIx xs.length 0 lo = 0 ∧ HT.sIx xs.length xs.length hi = xs.length → Q (.ref a) H) ∧ (¬ (HT.sIx xs.length 0 lo = 0 ∧ HT.sIx xs.length xs.length hi = xs.length) → ∀ p o, H p = none → o.dict = none → Q (.ref p) (upd H p (.frz o (.tup (cutV xs lo hi)))))
def rCut (K : PySem.W.Frag) : V → Option Int → Option Int → Hp → VK → Prop := fun x lo hi H Q => C8.rSlX x lo hi H Q ∨ rSlTF K x lo hi H Q ∨ rSlL K x lo hi H Q
abbrev tO (K : PySem.W.Frag) (W : DW) (O : CM (Option Int)) : TO := tG (fun _ _ (x : Option Int) (d : Option Int) => x = d) K W O
section
variable {X : Cx} {K : PySem.W.Frag} {W : DW} {e : Expr} {E : CM D} {pos p2 : Pos} {lo hi : Option Expr} {L U : CM (Option Int)}
theorem sl_tupF : SlR X (rSlTF X.K) := by
  intro pins s σ H x v vl vu lo hi sl Q I rx hs pl pu h
  obtain ⟨a, xs, rfl, hx, q1, q2⟩ := h
  cases rx
  obtain ⟨its, r, ht, hz⟩ := I.tuple hx
  have hlen : its.toArray.size = xs.length := by rw [List.size_toArray]; exact r.length.symm
  refine ⟨"tuple", _, PyProof.Rows.slot_tuple_getitem.lookup, ht.typeIs, ?_⟩
  by_cases hw : HT.sIx xs.length 0 lo = 0 ∧ HT.sIx xs.length xs.length hi = xs.length
  · exact getItem_tuple_whole ht hs pl pu (by rw [hlen]; exact hw) ⟨.ref a, H, I, rfl, q1 hw⟩
  · refine HT.getItem_tuple_cut ht hs pl pu (by rw [hlen]; exact hw) ?_ (by rw [hlen]; exact hz)
    rw [hlen]
    refine ⟨.ref s.heap.objs.size, upd H s.heap.objs.size (.frz { cls := .type "tuple", data := .seq ((its.toArray.toList.drop (HT.sIx xs.length 0 lo)).take (HT.sIx xs.length xs.length hi - HT.sIx xs.length 0 lo)).toArray } (.tup (cutV xs lo hi))), I.laid (t' := s.toks) (fun b ob q => Heap.get?_push_of_some _ q) (Nat.le_refl _) ?_, rfl, q2 hw _ _ (I.hok.fresh (Nat.le_refl _)) rfl⟩
    exact ⟨Heap.get?_push_size _ rfl, Nat.le_trans (cutV_length xs lo hi) hz, _, (r.drop (HT.sIx xs.length 0 lo)).take (HT.sIx xs.length xs.length hi - HT.sIx xs.length 0 lo), PyProof.Rows.IsTup.new _ _⟩
theorem sl_cut : SlR X (rCut X.K) := C8.sl_txt.or (sl_tupF.or sl_list)
theorem VRs.cutR {ι : List Addr} {H : Hp} {vs : List V} {ds : List D} (r : VRs K ι H vs ds) (lo hi : Option Int) : VRs K ι H (cutV vs lo hi) (cutD ds lo hi) := by
  unfold cutV cutD
  rw [r.length]
  exact (r.drop _).take _
theorem PO.imp {e : Option Expr} {t t' : TO} (h : PO X e t) (q : ∀ σ H Q, t' σ H Q → t σ H Q) : PO X e t' := ⟨fun pins s σ H Q I z => h.run pins s σ H Q I (q σ H Q z)⟩
theorem po_n : PO X none (tO X.K W oNone) := PO.imp po_none fun σ H Q ⟨ρ, ι, μ, sr, wf, h⟩ => PostG.ok0 h wf rfl
theorem po_s (he : PE X e (tE X.K W E)) : PO X (some e) (tO X.K W (oSome E)) := PO.imp (po_some he) fun σ H Q ⟨ρ, ι, μ, sr, wf, h⟩ => by
  refine tG.mono (PostG.bind sr wf h) ?_
  rintro x H1 ⟨ι1, μ1, d, l1, w1, vx, h1⟩
  split at h1
  · cases vx
    exact ⟨_, rfl, PostG.ok0 h1 w1 rfl⟩
  · exact h1.elim
theorem lift_cut {σ : L2.St} {ι : List Addr} {μ : Store} {H : Hp} {x : V} {d : D} {lo hi : Option Int} {Q : VK} (w : WF K ι μ H) (vx : VR K ι H x d) (h : PostG (VR K) K W σ ι H Q (Fcut d lo hi μ)) : rCut K x lo hi H Q := by
  have lst : ∀ {xs : List D}, itemsL μ d = some xs → PostG (VR K) K W σ ι H Q (okR (.lst (cutD xs lo hi)) μ) → rCut K x lo hi H Q := by
    intro xs e h
    obtain ⟨a, vs, rfl, sq, r⟩ := itemsL_sq w vx e
    exact .inr (.inr ⟨a, vs, rfl, sq, fun p hp => h.ok (Le.laid hp) (w.laid hp) (.lst ⟨upd_same, w.out hp⟩ ((r.cutR lo hi).mono (Le.laid hp)))⟩)
  cases vx with
  | str z =>
    obtain ⟨q, h⟩ := PostG.guard h
    exact .inl ⟨z, rfl, q, h.ok0 w (.str _)⟩
  | @tup a vs ds hh r =>
    refine .inr (.inl ⟨_, _, rfl, hh.sq, fun z => ?_, fun _ p o hp ho => ?_⟩)
    · have e : cutD ds lo hi = ds := by
        unfold cutD
        rw [← r.length, z.1, z.2, List.drop_zero, Nat.sub_zero, r.length, List.take_length]
      have h : PostG (VR K) K W σ ι H Q (okR (.tup (cutD ds lo hi)) μ) := h
      rw [e] at h
      exact h.ok0 w (.tup hh r)
    · exact PostG.ok h (Le.laid hp) (w.laid hp) (.tup (.inl ⟨⟨o, upd_same, ho⟩, w.out hp⟩) ((r.cutR lo hi).mono (Le.laid hp)))
  | lst hh r => exact lst rfl h
  | fl hh r => exact lst rfl h
  | ref hi' =>
    have h : PostG (VR K) K W σ ι H Q (match itemsL μ (.ref _) with | some xs => okR (.lst (cutD xs lo hi)) μ | none => none) := h
    split at h
    · rename_i xs e; exact lst e h
    · exact h.elim
  | _ => exact h.elim
theorem d_cut (he : PE X e (tE X.K W E)) (hl : PO X lo (tO X.K W L)) (hu : PO X hi (tO X.K W U)) : PE X (.Subscript e (.Slice lo hi none p2) pos) (tE X.K W (eCut E L U)) := (pe_slice sl_cut he hl hu).imp fun σ H Q ⟨ρ, ι, μ, sr, wf, h⟩ => by
  refine tG.mono (PostG.bind sr wf h) ?_
  rintro x H1 ⟨ι1, μ1, d, l1, w1, vx, h1⟩
  refine tG.mono (PostG.bind (sr.mono l1) w1 h1) ?_
  rintro l H2 ⟨ι2, μ2, l', l2, w2, rfl, h2⟩
  refine tG.mono (PostG.bind ((sr.mono l1).mono l2) w2 h2) ?_
  rintro u H3 ⟨ι3, μ3, u', l3, w3, rfl, h3⟩
  exact lift_cut w3 ((vx.mono l2).mono l3) h3
end
end DM

namespace DM
open PySem PySem.Spec L2
/-! ### while -/
def whileN (T : CM Bool) (S : SF) : Nat → SF
  | 0 => fun _ _ => none
  | n + 1 => lft T fun b => if b then (fun ρ μ => match S ρ μ with
      | some (.nx ρ2, μ2) => whileN T S n ρ2 μ2
      | some (.ct ρ2, μ2) => whileN T S n ρ2 μ2
      | some (.bk ρ2, μ2) => some (.nx ρ2, μ2)
      | some (.rt d, μ2) => some (.rt d, μ2)
      | some (.ex x ρ2, μ2) => some (.ex x ρ2, μ2)
      | none => none) else sNil
/-! ### calls with keywords -/
def pick {α : Type} (idx : List Nat) (xs : List α) : List α := idx.filterMap (xs[·]?)
theorem pick_vals {idx : List Nat} {vs : List V} {us : List Value} (r : Vals vs us) : Vals (pick idx vs) (pick idx us) := by
  induction idx with
  | nil => exact .nil
  | cons i t ih =>
    unfold pick at ih ⊢
    rw [List.filterMap_cons, List.filterMap_cons]
    cases e : vs[i]? with
    | none =>
      have : us[i]? = none := by
        rw [List.getElem?_eq_none_iff] at e ⊢
        rw [← r.length]; exact e
      rw [this]
      exact ih
    | some v =>
      obtain ⟨u, hu, ru⟩ := r.get e
      rw [hu]
      exact .cons ru ih
theorem pick_vrs {K : PySem.W.Frag} {ι : List Addr} {H : Hp} {idx : List Nat} {vs : List V} {ds : List D} (r : VRs K ι H vs ds) : VRs K ι H (pick idx vs) (pick idx ds) := by
  induction idx with
  | nil => exact .nil
  | cons i t ih =>
    unfold pick at ih ⊢
    rw [List.filterMap_cons, List.filterMap_cons]
    cases e : ds[i]? with
    | none =>
      have : vs[i]? = none := by
        rw [List.getElem?_eq_none_iff] at e ⊢
        rw [r.length]; exact e
      rw [this]
      exact ih
    | some d =>
      obtain ⟨v, hv, rv⟩ := r.get e
      rw [hv]
      exact .cons rv ih
def eCallK (F : FD) (idx : List Nat) (n m : Nat) (A B : CM (List D)) : CM D := A.bind fun ds => B.bind fun es _ μ => if ds.length = n ∧ es.length = m then F (pick idx (ds ++ es)) μ else none
/-- a def as a call with n values and these keywords reaches it -/
structure KnK (P : Program) (w : World) (K : PySem.W.Frag) (mg : Str → Option Value) (base : Heap) (k : Nat) (x : Str) (ps : List Str) (F : FD) (n : Nat) (ks : List Str) (idx : List Nat) : Prop where
  ex : ∃ f fd, FnG P w K mg base (xrS K) k f fd ps F ∧ mg x = some (.ref f) ∧ PySem.W.keepIn K (.ref f) = true ∧ (∀ (s : Shared) (us ws : List Value), us.length = n → ws.length = ks.length → BindsTo s fd ⟨us, ks.zip ws⟩ (ps.zip (pick idx (us ++ ws)))) ∧ ∀ ds μ, F ds μ ≠ none → ds.length = ps.length
theorem FunD.bindsKw {K : PySem.W.Frag} {x qual : Str} {params : Arguments} {body : List Stmt} {scope : Scope} {kws : List (Str × V)} {f : Addr} {fd : FuncData} {ps ks : List Str} {n : Nat} {idx : List Nat} (F : FunD K x qual params body scope [] kws f fd)
    (h : ∀ (kV doc pm : Value) (an : Option Addr) (cdv ct : Value) (us ws : List Value), us.length = n → ws.length = ks.length → bindArgs (PySem.W.fnOf x qual params body scope .none kV doc pm an cdv ct) ⟨us, ks.zip ws⟩ = pure (ps.zip (pick idx (us ++ ws)))) (s : Shared) (us ws : List Value) (l1 : us.length = n) (l2 : ws.length = ks.length) : BindsTo s fd ⟨us, ks.zip ws⟩ (ps.zip (pick idx (us ++ ws))) := by
  obtain ⟨oc, od, dV, kV, doc, pm, an, cdv, ct, osl, rfl, lk, hcd, hD, hK⟩ := F.ex
  rcases hD with ⟨_, rfl⟩ | ⟨e, _⟩
  · exact .of_eq (h kV doc pm an cdv ct us ws l1 l2)
  · exact absurd rfl e
section
variable {X : Cx} {W : DW} {k j n : Nat} {ps ks : List Str} {F : FD} {x : Str} {p pos : Pos} {e : Expr} {es : List Expr} {kws : List Keyword} {As Bs : CM (List D)} {idx : List Nat}
theorem dk_nil : PK X [] (tA X.K W aNil) := ⟨fun pos pins s σ H Q I ⟨ρ, ι, μ, sr, wf, h⟩ => pk_nil.run pos pins s σ H Q I (PostG.ok0 h wf .nil)⟩
theorem dk_cons {nm : Option Str} {kpos : Pos} {A : CM D} (ha : PE X e (tE X.K W A)) (hr : PK X kws (tA X.K W As)) : PK X (⟨nm, e, kpos⟩ :: kws) (tA X.K W (aCons A As)) := ⟨fun pos pins s σ H Q I ⟨ρ, ι, μ, sr, wf, h⟩ => (pk_cons ha hr).run pos pins s σ H Q I (by
    refine tG.mono (PostG.bind sr wf h) ?_
    rintro x H1 ⟨ι1, μ1, d, l1, w1, vx, h1⟩
    refine tG.mono (PostG.bind (sr.mono l1) w1 h1) ?_
    rintro xs H2 ⟨ι2, μ2, ds, l2, w2, vxs, h2⟩
    exact PostG.ok0 h2 w2 (.cons (vx.mono l2) vxs))⟩
end
/-! running -/
section
variable {ρ : Rho} {μ : Store} {Q : D → Store → Prop} {As Bs : CM (List D)} {A : CM D} {L U : CM (Option Int)} {Qf : Fl → Store → Prop}
theorem q_callK {F : FD} {idx : List Nat} {n m : Nat} : Ok (eCallK F idx n m As Bs ρ μ) Q = Ok (As ρ μ) (fun ds μ1 => Ok (Bs ρ μ1) (fun es μ2 => (ds.length = n ∧ es.length = m) ∧ Ok (F (pick idx (ds ++ es)) μ2) Q)) := by
  unfold eCallK
  rw [Ok_bind]
  congr 1
  funext ds μ1
  rw [Ok_bind]
  congr 1
  funext es μ2
  exact q_if
theorem q_oN {R : Option Int → Store → Prop} : Ok (oNone ρ μ) R = R none μ := rfl
def intAt (d : D) (k : Int → Prop) : Prop := match d with
  | .int i => k i
  | _ => False
theorem q_intAt {i : Int} {k : Int → Prop} : intAt (.int i) k = k i := rfl
theorem q_oS {R : Option Int → Store → Prop} : Ok (oSome A ρ μ) R = Ok (A ρ μ) (fun d μ1 => intAt d (fun i => R (some i) μ1)) := by
  unfold oSome
  rw [Ok_bind]
  congr 1
  funext d μ1
  cases d <;> rfl
theorem q_cut : Ok (eCut A L U ρ μ) Q = Ok (A ρ μ) (fun d μ1 => Ok (L ρ μ1) (fun l μ2 => Ok (U ρ μ2) (fun u μ3 => Ok (Fcut d l u μ3) Q))) := by
  unfold eCut
  rw [Ok_bind]
  congr 1
  funext d μ1
  rw [Ok_bind]
  congr 1
  funext l μ2
  exact Ok_bind
theorem f_tupL {xs : List D} : Ftuple [.lst xs] μ = okR (.tup xs) μ := rfl
theorem f_tupT {xs : List D} : Ftuple [.tup xs] μ = okR (.tup xs) μ := rfl
theorem f_tupR {c : Nat} {xs : List D} (h : μ[c]? = some (.lst xs)) : Ftuple [.ref c] μ = okR (.tup xs) μ := by
  unfold Ftuple
  simp only [itemsD, h]
theorem f_listL {xs : List D} : Flist [.lst xs] μ = okR (.lst xs) μ := rfl
theorem f_listT {xs : List D} : Flist [.tup xs] μ = okR (.lst xs) μ := rfl
theorem f_listCL {xs : List D} : FlistC [.lst xs] μ = okR (.ref μ.length) (μ ++ [.lst xs]) := rfl
theorem f_listCT {xs : List D} : FlistC [.tup xs] μ = okR (.ref μ.length) (μ ++ [.lst xs]) := rfl
theorem f_cutT {xs : List D} {l u : Option Int} : Fcut (.tup xs) l u μ = okR (.tup (cutD xs l u)) μ := rfl
theorem f_cutL {xs : List D} {l u : Option Int} : Fcut (.lst xs) l u μ = okR (.lst (cutD xs l u)) μ := rfl
end
end DM

namespace DM
open PySem PySem.Spec L2
local macro_rules | `(tactic| walk_at "q") => `(tactic| try simp only [q_ok, q_okR, q_if, q_C, q_ret, q_var, q_at, q_e1, q_e2, q_call, q_callB, q_nil, q_cons, q_tup, q_lst, q_cel, q_ifexp, q_blAt, q_bOf, q_bTru, q_bAnd, q_bOr, q_bNot, q_vAnd, q_vOr, q_vNot, q_chain, q_pureS, at0, at1, at2, q_iseq, q_seqL, q_seqF, q_rg1, q_rg2, q_itup, q_tupAt, q_iany, q_anyL, q_anyF, q_anyT, q_anyS, q_meth, q_p2, q_p3, q_unpT, q_setA, q_setA0, q_rhoAt, q_contR, q_contB, q_contC, q_callK, q_oN, q_oS, q_intAt, q_cut, f_tupL, f_tupT, f_listL, f_listT, f_listCL, f_listCT, f_cutT, f_cutL, q_aftN, q_aftC, q_aftB, q_aftR,
  f_add, f_sub, f_mul, f_div, f_mod, f_pow, f_neg, f_cmp, f_abs, f_intI, f_intB, f_max, f_min, f_lenL, f_lenF, f_lenT, f_ixL, f_ixF, f_ixT, f_eqI, f_neI, f_eqB, f_neB, f_eqT, f_neT, f_isB, f_isnotB, f_truB, f_truI, f_repr0, startR, wipeR, List.map_cons, List.map_nil, List.length_cons, List.length_nil, List.cons_append, List.nil_append, List.append_nil, List.getElem?_cons_zero, List.getElem?_cons_succ, List.set_cons_zero, List.set_cons_succ, List.replicate_succ, List.replicate_zero, Nat.reduceAdd, Nat.reduceSub, Int.reduceToNat, Int.reducePow])
local macro_rules | `(tactic| walk_at "go") => `(tactic| repeat (first | rw [q_cont] | rw [q_seq] | rw [q_snil] | ((with_reducible refine q_asg ?_); walk_at "q") | ((with_reducible refine q_sret ?_); walk_at "q") | ((with_reducible refine q_spar2 ?_); walk_at "q") | ((with_reducible refine q_spar3 ?_); walk_at "q") | ((with_reducible refine q_sunp ?_); walk_at "q") | ((with_reducible refine q_drop ?_); walk_at "q") | ((with_reducible refine q_sif ?_); walk_at "q") | ((with_reducible refine q_for ?_); walk_at "q")))
local macro_rules | `(tactic| walk_at "g1") => `(tactic| repeat (first | rw [q_cont] | rw [q_seq] | rw [q_snil] | ((with_reducible refine q_asg ?_); walk_at "q") | ((with_reducible refine q_sret ?_); walk_at "q") | ((with_reducible refine q_spar2 ?_); walk_at "q") | ((with_reducible refine q_spar3 ?_); walk_at "q") | ((with_reducible refine q_sunp ?_); walk_at "q") | ((with_reducible refine q_drop ?_); walk_at "q") | ((with_reducible refine q_for ?_); walk_at "q")))
/-! ### the pool beside further cells -/
theorem Wd.peel {p : Nat} {c c' : Int} {ν μ2 : Store} {o : Ob} (h : Wd p c ν) (w : Wd p c' μ2) (f : Fr p (ν ++ [o]) μ2) : ∃ ν', μ2 = ν' ++ [o] ∧ Wd p c' ν' ∧ Fr p ν ν' := by
  have hl := h.lt
  have l2 : μ2.length = ν.length + 1 := by rw [f.len]; simp
  have e2 : μ2[ν.length]? = some o := by rw [f.eq _ (by omega)]; simp
  have e := take_last l2 e2
  refine ⟨μ2.take ν.length, e, ?_, ?_⟩
  · obtain ⟨⟨a, b, c0, eq, q⟩, hp⟩ := w
    exact ⟨⟨a, b, c0, by rw [List.getElem?_take_of_lt hl]; exact eq, q⟩, hp.take _⟩
  · refine ⟨by rw [List.length_take]; omega, fun j hj => ?_⟩
    by_cases hjl : j < ν.length
    · rw [List.getElem?_take_of_lt hjl, f.eq j hj, List.getElem?_append_left hjl]
    · rw [List.getElem?_eq_none (by rw [List.length_take]; omega), List.getElem?_eq_none (by omega)]
section
variable {F : FD} {ρ : Rho} {μ μ0 : Store} {Q : D → Store → Prop} {p : Nat} {c : Int}
/-- a draw beside cells of the def's own -/
theorem DrawOk.y (hF : DrawOk F) {n : Int} (h : Wy μ0 p c μ) (hc : c < 2 ^ 20) (h0 : 0 < n) (h1 : n < 2 ^ 200) : Ok (F [.ref p, .int n] μ) (fun d μ' => ∃ r, d = .int r ∧ 0 ≤ r ∧ r < n ∧ Wy μ0 p (c + 1) μ' ∧ Fr p μ μ') :=
  (hF h.wd hc h0 h1).mono fun d μ' ⟨r, e, a, b, w, f⟩ => ⟨r, e, a, b, h.step w f, f⟩
end
/-! ### drawing all of some texts in any order -/
def mixedF (F : FD) : FD := fnSeal (fnP 4 2 (sSeq (sPar2 2 3 (aCons (eCallB FlistC (aCons (eVar 1) aNil)) (aCons (eCel aNil) aNil))) (sSeq (whileN (bOf (e2 (Feq true) (eVar 2) (eLst aNil))) (sDrop (eMeth isList Fapp (eVar 3) (aCons (eMeth isList FpopAt (eVar 2) (aCons (eCall F (aCons (eVar 0) (aCons (eCallB Flen (aCons (eVar 2) aNil)) aNil)) []) aNil)) aNil))) 1000000) (sRet (eVar 3)))))
/-! ### cells of a table -/
abbrev Cell := Str × Int × Str
def cellD (c : Cell) : D := .tup [.str c.1, .int c.2.1, .str c.2.2]
def cellP (c : Cell) : PyData := .tuple [.str c.1, .int c.2.1, .str c.2.2]
def cellOk (c : Cell) : Bool := PyData.strOk c.1 && PyData.strOk c.2.2
theorem noRef_cells : ∀ cs : List Cell, noRefs 0 (cs.map cellD) = true
  | [] => rfl
  | c :: r => by simp only [List.map_cons, noRefs, cellD, noRef, noRef_cells r, Bool.and_true]
/-! ### all cells of a width -/
def two (r : Str) (g : Int) : List Cell := [(r, g, "other"), (r, g, "same")]
def row (r : Str) (lo : Int) (n : Nat) : List Cell := (rngI lo n).flatMap (two r)
def allC (w : Int) : List Cell := row "less" (0 - w) (2 * w + 1).toNat ++ row "more" (0 - w) (2 * w + 1).toNat ++ row "same" (0 - w) (2 * w + 1).toNat
theorem row_mem {r : Str} {lo : Int} {n : Nat} {c : Cell} : c ∈ row r lo n ↔ c.1 = r ∧ (lo ≤ c.2.1 ∧ c.2.1 < lo + n) ∧ (c.2.2 = "other" ∨ c.2.2 = "same") := by
  unfold row two
  rw [List.mem_flatMap]
  obtain ⟨a, b, d⟩ := c
  constructor
  · rintro ⟨g, hg, hc⟩
    have := rngI_mem.mp hg
    simp only [List.mem_cons, List.not_mem_nil, or_false, Prod.mk.injEq] at hc
    rcases hc with ⟨rfl, rfl, rfl⟩ | ⟨rfl, rfl, rfl⟩
    · exact ⟨rfl, this, .inl rfl⟩
    · exact ⟨rfl, this, .inr rfl⟩
  · rintro ⟨h1, h2, h3⟩
    simp only at h1 h2 h3
    subst h1
    refine ⟨b, rngI_mem.mpr h2, ?_⟩
    rcases h3 with rfl | rfl <;> simp
theorem allC_mem {w : Int} {c : Cell} : c ∈ allC w ↔ (c.1 = "less" ∨ c.1 = "more" ∨ c.1 = "same") ∧ (0 - w ≤ c.2.1 ∧ c.2.1 ≤ w) ∧ (c.2.2 = "other" ∨ c.2.2 = "same") := by
  unfold allC
  simp only [List.mem_append, row_mem]
  have : (0 - w ≤ c.2.1 ∧ c.2.1 < 0 - w + ((2 * w + 1).toNat : Int)) ↔ (0 - w ≤ c.2.1 ∧ c.2.1 ≤ w) := by omega
  rw [this]
  constructor
  · rintro ((⟨h, q⟩ | ⟨h, q⟩) | ⟨h, q⟩)
    · exact ⟨.inl h, q⟩
    · exact ⟨.inr (.inl h), q⟩
    · exact ⟨.inr (.inr h), q⟩
  · rintro ⟨h | h | h, q⟩
    · exact .inl (.inl ⟨h, q⟩)
    · exact .inl (.inr ⟨h, q⟩)
    · exact .inr ⟨h, q⟩
theorem row_len {r : Str} {lo : Int} {n : Nat} : (row r lo n).length = 2 * n := by
  unfold row
  rw [List.length_flatMap]
  have : (rngI lo n).map (fun g => (two r g).length) = List.replicate n 2 := by
    rw [List.eq_replicate_iff]
    exact ⟨by simp [rngI], fun b hb => by obtain ⟨g, _, rfl⟩ := List.mem_map.mp hb; rfl⟩
  rw [this, List.sum_replicate_nat]
  omega
theorem row_succ {r : Str} {lo : Int} {n : Nat} : row r lo (n + 1) = row r lo n ++ two r (lo + Int.ofNat n) := by
  unfold row rngI
  rw [List.range_succ, List.map_append, List.flatMap_append]
  simp
end DM

namespace DM
open PySem PySem.Spec L2
/-! ### any statement that is never reached -/
def sFail : SF := fun _ _ => none
def eFail : CM D := fun _ _ => none
/-! ### fields of instances -/
def putD (f : Str) (v : D) : List (Str × D) → List (Str × D)
  | [] => [(f, v)]
  | (g, x) :: r => if g = f then (g, v) :: r else (g, x) :: putD f v r
section
variable {K : PySem.W.Frag} {ι : List Addr} {H : Hp}
end
def fldAt (μ : Store) (d : D) (f : Str) : Option D := match d with
  | .ref i => match μ[i]? with
    | some (.obj _ fs) => fs.lookup f
    | _ => none
  | _ => none
def eFld (f : Str) (E : CM D) : CM D := E.bind fun d _ μ => pureR (fldAt μ d f) μ
/-! ### targets -/
def toEnds (Q : L2.St → Hp → Prop) : Ends := { nx := Q, rt := fun _ _ => False, bk := fun _ _ => False, ct := fun _ _ => False }
def tgD (K : PySem.W.Frag) (W : DW) (F : D → SF) : TG := fun v σ H Q => ∃ ρ ι μ d, SR K ι H σ ρ ∧ WF K ι μ H ∧ VR K ι H v d ∧ PostS K W (toEnds Q) ι H (F d ρ μ)
def tgsD (K : PySem.W.Frag) (W : DW) (F : List D → SF) : TGs := fun vs σ H Q => ∃ ρ ι μ ds, SR K ι H σ ρ ∧ WF K ι μ H ∧ VRs K ι H vs ds ∧ PostS K W (toEnds Q) ι H (F ds ρ μ)
end DM
namespace L2
open PySem PySem.Spec
theorem PG.imp {X : Cx} {e : Expr} {t t' : TG} (h : PG X e t) (q : ∀ v σ H Q, t' v σ H Q → t v σ H Q) : PG X e t' := ⟨fun pins s σ H v u Q I r z => h.run pins s σ H v u Q I r (q _ _ _ _ z)⟩
theorem PGs.imp {X : Cx} {e : List Expr} {t t' : TGs} (h : PGs X e t) (q : ∀ v σ H Q, t' v σ H Q → t v σ H Q) : PGs X e t' := ⟨fun pins s σ H v u Q I r z => h.run pins s σ H v u Q I r (q _ _ _ _ z)⟩
/-- o.f = .. -/
def gFld (K : PySem.W.Frag) (to : TE) (f : Str) : TG := fun v σ H Q => to σ H fun x H1 => ∃ a C dx fs, x = .ref a ∧ H1 a = some (.ins C dx fs) ∧ Cls K C ∧ NoAttr K C f ∧ fs.length < 1000 ∧ Q σ (upd H1 a (.ins C dx (putF f v fs)))
end L2
namespace DM
open PySem PySem.Spec L2
def tName (i : Nat) : D → SF := fun d ρ μ => some (.nx (ρ.set i (some d)), μ)
def tNil : List D → SF := fun ds ρ μ => match ds with
  | [] => some (.nx ρ, μ)
  | _ => none
def tCons (F : D → SF) (G : List D → SF) : List D → SF := fun ds => match ds with
  | d :: r => sSeq (F d) (G r)
  | [] => fun _ _ => none
def tTup (n : Nat) (G : List D → SF) : D → SF := fun d => match d with
  | .tup ds => fun ρ μ => if ds.length = n then G ds ρ μ else none
  | _ => fun _ _ => none
def tFld (f : Str) (cs : List Str) (O : CM D) : D → SF := fun v => lft O fun o ρ μ => match o with
  | .ref i => match μ[i]? with
    | some (.obj C fs) => if fs.length < 1000 ∧ (C ∈ cs ∨ f ∈ fs.map (·.1)) then some (.nx ρ, μ.set i (.obj C (putD f v fs))) else none
    | _ => none
  | _ => none
section
variable {X : Cx} {W : DW} {pos : Pos}
def tgOnly (S : SF) : SF := fun ρ μ => match S ρ μ with
  | some (.nx ρ', μ') => some (.nx ρ', μ')
  | some (.ex x ρ', μ') => some (.ex x ρ', μ')
  | _ => none
def sAsgT (E : CM D) (F : D → SF) : SF := lft E fun d => tgOnly (F d)
end
end DM

namespace DM
open PySem PySem.Spec L2
/-! ### methods of own classes -/
structure MtK (P : Program) (w : World) (K : PySem.W.Frag) (mg : Str → Option Value) (base : Heap) (k : Nat) (C m : Str) (F : FD) : Prop where
  ex : ∃ f fd ps, FnG P w K mg base (xrS K) k f fd ps F ∧ Meth K (He.ga K C) m f ∧ Binds K fd ps [] ∧ ∀ ds μ, F ds μ ≠ none → ds.length = ps.length
def eMt (tb : List (Str × FD)) (m : Str) (O : CM D) (A : CM (List D)) : CM D := O.bind fun o ρ μ => match o with
  | .ref i => match μ[i]? with
    | some (.obj C fs) => if (fs.lookup m).isNone = true then (match tb.lookup C with
      | some F => (A.bind fun ds _ μ => F (.ref i :: ds) μ) ρ μ
      | none => none) else none
    | _ => none
  | _ => none
section
variable {X : Cx} {W : DW} {k j : Nat} {m : Str} {tb : List (Str × FD)} {o e : Expr} {es : List Expr} {O : CM D} {As : CM (List D)} {pos apos : Pos}
/-! ### new instances -/
structure MkK (P : Program) (w : World) (K : PySem.W.Frag) (mg : Str → Option Value) (base : Heap) (k : Nat) (C : Str) (F : FD) : Prop where
  ex : ∃ f fd ps, FnG P w K mg base (xrS K) k f fd ps F ∧ Mk K (He.ga K C) f ∧ mg C = some (.ref (He.ga K C)) ∧ Cls K (He.ga K C) ∧ Binds K fd ps [] ∧ ∀ ds μ, F ds μ ≠ none → ds.length = ps.length
/-- __init__ at a new instance -/
def mkO (C : Str) (F : FD) (ds : List D) (μ : Store) : Res D := match F (.ref μ.length :: ds) (μ ++ [.obj C []]) with
  | some (.ok .non, μ') => some (.ok (.ref μ.length), μ')
  | some (.error x, μ') => some (.error x, μ')
  | _ => none
def eMk (C : Str) (F : FD) (A : CM (List D)) : CM D := A.bind fun ds _ μ => mkO C F ds μ
/-! ### properties -/
structure PrK (P : Program) (w : World) (K : PySem.W.Frag) (mg : Str → Option Value) (base : Heap) (k : Nat) (C m : Str) (F : FD) : Prop where
  ex : ∃ p f fd ps, FnG P w K mg base (xrS K) k f fd ps F ∧ PropOf K (He.ga K C) m p f ∧ Binds K fd ps [] ∧ ∀ ds μ, F ds μ ≠ none → ds.length = ps.length
def ePr (tb : List (Str × FD)) (O : CM D) : CM D := O.bind fun o ρ μ => match o with
  | .ref i => match μ[i]? with
    | some (.obj C _) => match tb.lookup C with
      | some F => F [.ref i] μ
      | none => none
    | _ => none
  | _ => none
end
end DM

namespace DM
open PySem PySem.Spec L2
/-! ### o.f op= e -/
def sAugF (f : Str) (F : D → D → Store → Res D) (O E : CM D) : SF := lft O fun o ρ μ => match o with
  | .ref i => match μ[i]? with
    | some (.obj C fs) => match fs.lookup f with
      | some v => (lft E fun e => lft (fun _ μ => F v e μ) fun z ρ μ => match μ[i]? with
        | some (.obj C' fs') => if C' = C ∧ fs'.length < 1000 ∧ f ∈ fs'.map (·.1) then some (.nx ρ, μ.set i (.obj C (putD f z fs'))) else none
        | _ => none) ρ μ
      | none => none
    | _ => none
  | _ => none
def FaddN : D → D → Store → Res D
  | .int i, .int j, μ => okR (.int (i + j)) μ
  | _, _, _ => none
/-! ### isinstance of built-in types -/
def tyD (μ : Store) : D → Option String
  | .non => some "NoneType"
  | .bl _ => some "bool"
  | .int _ => some "int"
  | .str _ => some "str"
  | .tup _ => some "tuple"
  | .lst _ => some "list"
  | .fl _ => some "list"
  | .ref i => match μ[i]? with
    | some (.lst _) => some "list"
    | some (.dct _) => some "dict"
    | _ => none
def isiB (t T : String) : Bool := t == T || (t == "bool" && T == "int")
def tysB : List String := ["int", "bool", "str", "tuple", "list", "dict"]
def tysV : List String := ["NoneType", "bool", "int", "str", "tuple", "list", "dict"]
def eIsi (T : String) (E : CM D) : CM D := E.bind fun d _ μ => match tyD μ d with
  | some t => okR (.bl (isiB t T)) μ
  | none => none
end DM
namespace L2
open PySem PySem.Spec
end L2
namespace DM
open PySem PySem.Spec L2
/-! ### stars in displays and calls -/
def aStar (E : CM D) (As : CM (List D)) : CM (List D) := E.bind fun d => fun ρ μ => match itemsD μ d with
  | some xs => (As.bind fun ds => CM.ret (xs ++ ds)) ρ μ
  | none => none
theorem da_star {X : Cx} {W : DW} {e : Expr} {es : List Expr} {p : Pos} {E : CM D} {As : CM (List D)} (he : PE X e (tE X.K W E)) (hr : PA X es (tA X.K W As)) (hs : starEach (.Starred e p :: es) X.env = (true, eval e X.env) :: starEach es X.env := by rfl) : PA X (.Starred e p :: es) (tA X.K W (aStar E As)) :=
  (StX.pa_star he hr hs).imp fun σ H Q ⟨ρ, ι, μ, sr, wf, h⟩ => by
    refine tG.mono (PostG.bind sr wf h) ?_
    rintro x H1 ⟨ι1, μ1, d, l1, w1, vx, h1⟩
    cases ei : itemsD μ1 d with
    | none => simp only [ei] at h1; exact h1.elim
    | some xs =>
      simp only [ei] at h1
      obtain ⟨a, vs, rfl, rv, hq⟩ := itemsD_sq w1 vx ei
      refine ⟨a, vs, rfl, hq.elim .inr (fun z => .inl z.1), tG.mono (PostG.bind (sr.mono l1) w1 h1) ?_⟩
      rintro ys H2 ⟨ι2, μ2, ds, l2, w2, vy, h2⟩
      exact PostG.ok0 h2 w2 ((rv.mono l2).append vy)
/-! ### dicts -/
def keyD : D → Option Key
  | .int i => some (.inl i)
  | .str x => some (.inr x)
  | _ => none
def valD (kvs : List (Key × D)) (k : Key) : Option D := (kvs.find? fun kv => decide (kv.1 = k)).map (·.2)
def putKD (kvs : List (Key × D)) (k : Key) (v : D) : List (Key × D) := if (kvs.any fun kv => decide (kv.1 = k)) = true then kvs.map (fun kv => if kv.1 = k then (kv.1, v) else kv) else kvs ++ [(k, v)]
section
variable {K : PySem.W.Frag} {ι : List Addr} {H : Hp}
theorem keyD_vr {x : V} {d : D} {k : Key} (v : VR K ι H x d) (h : keyD d = some k) : x = kV k := by
  cases v <;> cases h <;> rfl
end
def eDNew : CM D := fun _ μ => some (.ok (.ref μ.length), μ ++ [.dct []])
def dctAt (μ : Store) : D → Option (Nat × List (Key × D))
  | .ref c => match μ[c]? with
    | some (.dct kvs) => some (c, kvs)
    | some (.dcl kvs) => some (c, kvs)
    | _ => none
  | _ => none
def dctW (μ : Store) : D → Option (Nat × List (Key × D))
  | .ref c => match μ[c]? with
    | some (.dct kvs) => some (c, kvs)
    | _ => none
  | _ => none
def FdGet (o i : D) (μ : Store) : Res D := match dctAt μ o, keyD i with
  | some (_, kvs), some k => pureR (valD kvs k) μ
  | _, _ => none
def FdIn (neg : Bool) (i o : D) (μ : Store) : Res D := match dctAt μ o, keyD i with
  | some (_, kvs), some k => okR (.bl (if neg then !(valD kvs k).isSome else (valD kvs k).isSome)) μ
  | _, _ => none
def FdPut (o i v : D) (μ : Store) : Option Store := match dctW μ o, keyD i with
  | some (c, kvs), some k => if kvs.length < sizeLine then some (μ.set c (.dct (putKD kvs k v))) else none
  | _, _ => none
def tDSub (O I : CM D) : D → SF := fun v => lft O fun o => lft I fun i ρ μ => match FdPut o i v μ with
  | some μ' => some (.nx ρ, μ')
  | none => none
section
variable {X : Cx} {W : DW} {o i e : Expr} {O I E : CM D} {pos pos' : Pos} {k : Nat}
end
end DM

namespace DM
open PySem PySem.Spec L2
def clsB : Stmt → List Stmt
  | .ClassDef _ _ _ body _ _ _ _ _ _ _ => body
  | _ => []
/-! ### tables of methods -/
section
variable {P : Program} {w : World} {K : PySem.W.Frag} {mg : Str → Option Value} {base : Heap}
theorem MtK.mono {j k : Nat} {C m : Str} {F : FD} (h : MtK P w K mg base j C m F) (l : j ≤ k) : MtK P w K mg base k C m F := by
  obtain ⟨f, fd, ps, G, r⟩ := h.ex
  exact ⟨⟨f, fd, ps, G.mono l, r⟩⟩
theorem PrK.mono {j k : Nat} {C m : Str} {F : FD} (h : PrK P w K mg base j C m F) (l : j ≤ k) : PrK P w K mg base k C m F := by
  obtain ⟨p, f, fd, ps, G, r⟩ := h.ex
  exact ⟨⟨p, f, fd, ps, G.mono l, r⟩⟩
end
/-! ### dict displays -/
def pR (K : PySem.W.Frag) (ι : List Addr) (H : Hp) (ps : List (V × V)) (ds : List (D × D)) : Prop := VRs K ι H (ps.map (·.1)) (ds.map (·.1)) ∧ VRs K ι H (ps.map (·.2)) (ds.map (·.2))
def pNil : CM (List (D × D)) := CM.ret []
def pCons (A B : CM D) (P : CM (List (D × D))) : CM (List (D × D)) := A.bind fun a => B.bind fun b => P.bind fun ps => CM.ret ((a, b) :: ps)
structure DPs (X : Cx) (W : DW) (pos : Pos) (keys : List (Option Expr)) (values : List Expr) (P : CM (List (D × D))) : Prop where
  ex : ∃ trs, PPs X pos keys values trs ∧ ∀ σ H Q, tG (pR X.K) X.K W P σ H Q → tPairs trs σ H Q
def keysD : List (D × D) → Option (List (Key × D))
  | [] => some []
  | (a, b) :: r => match keyD a, keysD r with
    | some k, some t => some ((k, b) :: t)
    | _, _ => none
def mergeKD (kvs more : List (Key × D)) : List (Key × D) := more.foldl (fun acc kv => putKD acc kv.1 kv.2) kvs
def eDisp (P : CM (List (D × D))) : CM D := fun ρ μ => match P ρ (μ ++ [.dct []]) with
  | some (.ok ps, μ') => (match keysD ps, μ'[μ.length]? with
    | some kvs, some (.dct []) => if kvs.length ≤ 15 then some (.ok (.ref μ.length), μ'.set μ.length (.dct (mergeKD [] kvs))) else none
    | _, _ => none)
  | some (.error x, μ') => some (.error x, μ')
  | none => none
section
variable {X : Cx} {W : DW} {pos : Pos}
end
end DM

namespace DM
open PySem PySem.Spec L2
/-! ### running: instances, dicts, targets -/
def onlyN (Qf : Fl → Store → Prop) : Fl → Store → Prop := fun f μ => match f with
  | .nx ρ => Qf (.nx ρ) μ
  | _ => False
def starAt (o : Option (List D)) (k : List D → Prop) : Prop := match o with
  | some xs => k xs
  | none => False
section
variable {ρ : Rho} {μ : Store} {Q : D → Store → Prop} {Qf : Fl → Store → Prop} {A O E : CM D} {As : CM (List D)}
theorem q_fld {f : Str} : Ok (eFld f A ρ μ) Q = Ok (A ρ μ) (fun d μ1 => Ok (pureR (fldAt μ1 d f) μ1) Q) := Ok_bind
theorem q_asgT {F : D → SF} (h : Ok (E ρ μ) (fun d μ1 => OkS (F d ρ μ1) (onlyN Qf))) : OkS (sAsgT E F ρ μ) Qf := by
  unfold sAsgT
  refine OkS_lft (h.mono fun d μ1 h => ?_)
  unfold tgOnly
  generalize F d ρ μ1 = r at h ⊢
  match r, h with
  | some (.nx ρ', μ'), h => exact h
theorem q_only {ρ' : Rho} : onlyN Qf (.nx ρ') μ = Qf (.nx ρ') μ := rfl
theorem q_tName {i : Nat} {d : D} : OkS (tName i d ρ μ) Qf = Qf (.nx (ρ.set i (some d))) μ := rfl
theorem q_tNil : OkS (tNil [] ρ μ) Qf = Qf (.nx ρ) μ := rfl
theorem q_tCons {F : D → SF} {G : List D → SF} {d : D} {ds : List D} : OkS (tCons F G (d :: ds) ρ μ) Qf = OkS (F d ρ μ) (contS (G ds) Qf) := q_seq
theorem q_starS {xs : List D} {k : List D → Prop} : starAt (some xs) k = k xs := rfl
theorem q_star {R : List D → Store → Prop} : Ok (aStar E As ρ μ) R = Ok (E ρ μ) (fun d μ1 => starAt (itemsD μ1 d) (fun xs => Ok (As ρ μ1) (fun ds μ2 => R (xs ++ ds) μ2))) := by
  unfold aStar
  rw [Ok_bind]
  congr 1
  funext d μ1
  cases itemsD μ1 d with
  | none => rfl
  | some xs =>
    simp only [starAt]
    rw [Ok_bind]
    rfl
theorem f_itT {xs : List D} : itemsD μ (.tup xs) = some xs := rfl
theorem f_addN {i j : Int} : FaddN (.int i) (.int j) μ = okR (.int (i + j)) μ := rfl
end
end DM

namespace DM
open PySem PySem.Spec L2
/-! ### histories, plainly -/
inductive Mk where
  | note | stat | read | look
deriving DecidableEq
def Mk.str : Mk → Str
  | .note => "note" | .stat => "stat" | .read => "read" | .look => "look"
inductive Stp where
  | wr (t : Int) | rs (t z : Int) | cp (t e : Int) | cr (t e z : Int) | to (t e : Int) | mk (m : Mk) (t : Int)
deriving DecidableEq
def Stp.word : Stp → Str
  | .wr _ => "write" | .rs _ _ => "resize" | .cp _ _ => "copy" | .cr _ _ _ => "copyresize" | .to _ _ => "touch" | .mk m _ => m.str
def Stp.tick : Stp → Int
  | .wr t => t | .rs t _ => t | .cp t _ => t | .cr t _ _ => t | .to t _ => t | .mk _ t => t
def Stp.rest : Stp → List Int
  | .wr _ => [] | .rs _ z => [z] | .cp _ e => [e] | .cr _ e z => [e, z] | .to _ e => [e] | .mk _ _ => []
def Stp.isEv : Stp → Bool
  | .mk _ _ => false
  | _ => true
def Stp.D (s : Stp) : D := .tup (.str s.word :: .int s.tick :: s.rest.map D.int)
def mxI (a b : Int) : Int := if b > a then b else a
structure Fs where
  latest : Int
  stamp : Int
  size : Int
  changed : Int
def Fs.ob (k : Str) (f : Fs) : Ob := .obj "File" [("kind", .str k), ("latest", .int f.latest), ("stamp", .int f.stamp), ("size", .int f.size), ("changed", .int f.changed)]
def doF (kw : Bool) (f : Fs) : Stp → Fs
  | .wr t => ⟨mxI f.latest t, t, f.size, f.changed + 1⟩
  | .rs t z => ⟨mxI f.latest t, t, z, f.changed + 1⟩
  | .cp t e => ⟨mxI f.latest t, if kw = true then e else t, f.size, f.changed + 1⟩
  | .cr t e z => ⟨mxI f.latest t, if kw = true then e else t, z, f.changed + 1⟩
  | .to t e => ⟨mxI f.latest t, if kw = true then e else t, f.size, f.changed⟩
  | .mk _ t => ⟨mxI f.latest t, f.stamp, f.size, f.changed⟩
structure Kp where
  note : Option Int
  stat : Option (Int × Int)
  read : Option Int
def kp0 : Kp := ⟨none, none, none⟩
def kpF (k : Kp) (f : Fs) : Stp → Kp
  | .mk .note t => { k with note := some t }
  | .mk .stat _ => { k with stat := some (f.stamp, f.size) }
  | .mk .read _ => { k with read := some f.changed }
  | _ => k
def runF (kw : Bool) : Fs → Kp → List Stp → Fs × Kp
  | f, k, [] => (f, k)
  | f, k, s :: r => runF kw (doF kw f s) (kpF k (doF kw f s) s) r
def Kp.rel (k : Kp) (kvs : List (Key × D)) : Prop := valD kvs (.inr "note") = k.note.map D.int ∧ valD kvs (.inr "stat") = k.stat.map (fun p => .tup [.int p.1, .int p.2]) ∧ valD kvs (.inr "read") = k.read.map D.int
/-- what a tale has: all steps can happen -/
def posF (back : Int) (f : Fs) : Stp → Bool
  | .wr t => !decide (t < f.latest - back)
  | .rs t z => !decide (t < f.latest - back) && !(z == f.size)
  | .cp t e => !decide (t < f.latest - back) && !decide (e > t)
  | .cr t e z => !decide (t < f.latest - back) && (!decide (e > t) && !(z == f.size))
  | .to t e => !decide (t < f.latest - back) && !decide (e > t)
  | .mk _ t => !decide (t < f.latest - back)
def posA (back : Int) : Fs → List Stp → Bool
  | _, [] => true
  | f, s :: r => posF back f s && posA back (doF true f s) r
def Stp.sizeOk : Stp → Bool
  | .rs _ z => decide (0 ≤ z)
  | .cr _ _ z => decide (0 ≤ z)
  | _ => true
def doA (kw : Bool) (f : Fs) (ss : List Stp) : Fs := ss.foldl (doF kw) f
def marks (ss : List Stp) : List Mk := ss.filterMap fun s => match s with
  | .mk m _ => some m
  | _ => none
theorem marks_app {a b : List Stp} : marks (a ++ b) = marks a ++ marks b := by unfold marks; rw [List.filterMap_append]
/-- a tale of some words, with its marks -/
structure Tale (ws : List Str) (back : Int) (f : Fs) (ms : List Mk) (ss : List Stp) : Prop where
  pos : posA back f ss = true
  words : ∀ s ∈ ss, s.isEv = true → s.word ∈ ws
  sizes : ∀ s ∈ ss, s.sizeOk = true
  mrk : marks ss = ms
/-! ### what is kept -/
def Kp.has (k : Kp) (m : Mk) : Bool := match m with
  | .note => k.note.isSome
  | .stat => k.stat.isSome
  | .read => k.read.isSome
  | .look => true
/-! ### both kinds -/
def simF (f g : Fs) : Prop := f.latest = g.latest ∧ f.size = g.size ∧ f.changed = g.changed
def simK (k l : Kp) : Prop := k.note = l.note ∧ k.stat.map (·.2) = l.stat.map (·.2) ∧ k.read = l.read
/-- without copies and touches -/
def plainS : Stp → Bool
  | .wr _ => true
  | .rs _ _ => true
  | .mk _ _ => true
  | _ => false
/-- a clock that is set back -/
def setB : Int → List Stp → Bool
  | _, [] => false
  | t, s :: r => if s.tick < t then true else setB s.tick r
/-! ### orders -/
def ordersM : List (List Mk) := [[.note, .read, .stat], [.note, .stat, .read], [.read, .note, .stat], [.read, .stat, .note], [.stat, .note, .read], [.stat, .read, .note]]
end DM

namespace DM
open PySem PySem.Spec L2
/-! ### list.index of texts -/
def FlIdx (o : D) (ds : List D) (μ : Store) : Res D := match o, ds with
  | .lst xs, [.str z] => match strsD xs with
    | some ys => pureR ((idxS z ys).map fun j => .int (j : Nat)) μ
    | none => none
  | _, _ => none
section
variable {X : Cx} {W : DW} {o e : Expr} {es : List Expr} {O : CM D} {As : CM (List D)} {apos cpos : Pos}
end
/-! ### isinstance -/
def isiR (T : String) (d : D) (μ : Store) : Res D := match tyD μ d with
  | some t => okR (.bl (isiB t T)) μ
  | none => none
section
variable {ρ : Rho} {μ : Store} {Q : D → Store → Prop} {E : CM D}
theorem q_isi {T : String} : Ok (eIsi T E ρ μ) Q = Ok (E ρ μ) (fun d μ1 => Ok (isiR T d μ1) Q) := Ok_bind
theorem isi_ii {i : Int} : isiR "int" (.int i) μ = okR (.bl true) μ := rfl
theorem isi_ib {i : Int} : isiR "bool" (.int i) μ = okR (.bl false) μ := rfl
theorem isi_tt {xs : List D} : isiR "tuple" (.tup xs) μ = okR (.bl true) μ := rfl
theorem isi_ss {x : Str} : isiR "str" (.str x) μ = okR (.bl true) μ := rfl
end
end DM

namespace DM
open PySem PySem.Spec L2
section
variable {α β : Type} {ρ : Rho} {μ : Store} {Q : D → Store → Prop} {T : CM Bool}
end
end DM

namespace DM
open PySem PySem.Spec L2
/-! ### histories moved, raised, lengthened -/
def mvS (d : Int) : Stp → Stp
  | .wr t => .wr (t + d)
  | .rs t z => .rs (t + d) z
  | .cp t e => .cp (t + d) (e + d)
  | .cr t e z => .cr (t + d) (e + d) z
  | .to t e => .to (t + d) (e + d)
  | .mk m t => .mk m (t + d)
def mvF (d : Int) (f : Fs) : Fs := ⟨f.latest + d, f.stamp + d, f.size, f.changed⟩
def mvK (d : Int) (k : Kp) : Kp := ⟨k.note.map (· + d), k.stat.map (fun p => (p.1 + d, p.2)), k.read⟩
theorem marks_map {g : Stp → Stp} (hg : ∀ s, marks [g s] = marks [s]) : ∀ ss : List Stp, marks (ss.map g) = marks ss
  | [] => rfl
  | s :: r => by
    have e : ∀ (x : Stp) (r : List Stp), marks (x :: r) = marks [x] ++ marks r := fun x r => marks_app (a := [x])
    rw [List.map_cons, e, e s, hg, marks_map hg r]
theorem Tale.map {ws : List Str} {back : Int} {f f' : Fs} {ms : List Mk} {ss : List Stp} {g : Stp → Stp} (h : Tale ws back f ms ss) (hp : posA back f' (ss.map g) = posA back f ss) (hw : ∀ s, (g s).word = s.word ∧ (g s).isEv = s.isEv) (hz : ∀ s, s.sizeOk = true → (g s).sizeOk = true) (hm : ∀ s, marks [g s] = marks [s]) : Tale ws back f' ms (ss.map g) := by
  refine ⟨by rw [hp]; exact h.pos, fun s hs hv => ?_, fun s hs => ?_, by rw [marks_map hm]; exact h.mrk⟩
  · obtain ⟨x, hx, rfl⟩ := List.mem_map.mp hs
    rw [(hw x).1]
    exact h.words x hx (by rw [← (hw x).2]; exact hv)
  · obtain ⟨x, hx, rfl⟩ := List.mem_map.mp hs
    exact hz x (h.sizes x hx)
def rsS (r : Int) : Stp → Stp
  | .rs t z => .rs t (z + r)
  | .cr t e z => .cr t e (z + r)
  | s => s
def rsF (r : Int) (f : Fs) : Fs := ⟨f.latest, f.stamp, f.size + r, f.changed⟩
def rsK (r : Int) (k : Kp) : Kp := ⟨k.note, k.stat.map (fun p => (p.1, p.2 + r)), k.read⟩
theorem do_rs {kw : Bool} {r : Int} {f : Fs} {s : Stp} : doF kw (rsF r f) (rsS r s) = rsF r (doF kw f s) := by
  cases s <;> rfl
theorem pos_rs {back d : Int} {f : Fs} {s : Stp} : posF back (rsF d f) (rsS d s) = posF back f s := by
  generalize hf : rsF d f = f'
  have h1 : f'.latest = f.latest := by rw [← hf]; rfl
  have h2 : f'.size = f.size + d := by rw [← hf]; rfl
  rw [Bool.eq_iff_iff]
  cases s <;> simp [posF, rsS] <;> omega
theorem posA_rs {back d : Int} : ∀ {ss : List Stp} {f : Fs}, posA back (rsF d f) (ss.map (rsS d)) = posA back f ss
  | [], f => rfl
  | s :: r, f => by rw [List.map_cons, posA, posA, pos_rs, do_rs, posA_rs]
theorem Tale.rs {ws : List Str} {back d : Int} {f : Fs} {ms : List Mk} {ss : List Stp} (hd : 0 ≤ d) (h : Tale ws back f ms ss) : Tale ws back (rsF d f) ms (ss.map (rsS d)) :=
  h.map posA_rs (fun s => by cases s <;> exact ⟨rfl, rfl⟩) (fun s hs => by cases s <;> simp_all [rsS, Stp.sizeOk] <;> omega) (fun s => by cases s <;> rfl)
theorem latest_le {M : Int} : ∀ {ss : List Stp} {f : Fs}, f.latest ≤ M → (∀ s ∈ ss, s.tick ≤ M) → (doA true f ss).latest ≤ M
  | [], f, h, _ => h
  | s :: r, f, h, hs => by
    show (doA true (doF true f s) r).latest ≤ M
    refine latest_le ?_ fun x hx => hs x (List.mem_cons_of_mem _ hx)
    have h1 : (doF true f s).latest = mxI f.latest s.tick := by cases s <;> rfl
    rw [h1]
    have := hs s List.mem_cons_self
    unfold mxI
    split <;> omega
theorem posA_app {back : Int} : ∀ {ss : List Stp} {f : Fs} {s : Stp}, posA back f (ss ++ [s]) = (posA back f ss && posF back (doA true f ss) s)
  | [], f, s => by simp [posA, doA]
  | x :: r, f, s => by
    rw [List.cons_append, posA, posA, posA_app, Bool.and_assoc]
    rfl
theorem Tale.last {ws : List Str} {back : Int} {f : Fs} {ms : List Mk} {s : List Stp} {m : Mk} {t T : Int} (hb : 0 ≤ back) (h : Tale ws back f ms (s ++ [.mk m t])) (h1 : f.latest ≤ T) (h2 : ∀ x ∈ s, x.tick ≤ T) : Tale ws back f ms (s ++ [.mk m T]) := by
  have hp := h.pos
  rw [posA_app, Bool.and_eq_true] at hp
  have hl := latest_le h1 h2
  refine ⟨?_, fun x hx hv => ?_, fun x hx => ?_, ?_⟩
  · rw [posA_app, hp.1]
    have : ¬ (T < (doA true f s).latest - back) := by omega
    simp [posF, this]
  · rcases List.mem_append.mp hx with z | z
    · exact h.words x (List.mem_append_left _ z) hv
    · rw [List.mem_singleton.mp z] at hv; cases hv
  · rcases List.mem_append.mp hx with z | z
    · exact h.sizes x (List.mem_append_left _ z)
    · rw [List.mem_singleton.mp z]; rfl
  · have := h.mrk
    rw [marks_app] at this ⊢
    exact this
def shF (f : Fs) : Fs := ⟨f.latest, f.stamp, f.size, f.changed + 1⟩
def shK (k : Kp) : Kp := ⟨k.note, k.stat, k.read.map (· + 1)⟩
def chF (f g : Fs) : Prop := f.changed = g.changed + 1
def chK (k l : Kp) : Prop := k.read = l.read.map (· + 1)
end DM

/-! equality and membership of plain data in general -/
namespace DM
open PySem PySem.Spec L2
mutual
/-- data without cells, of a depth, with good strings -/
def shp : Nat → D → Bool
  | _, .non => true
  | _, .bl _ => true
  | _, .int _ => true
  | _, .str x => PyData.strOk x
  | 0, .tup _ => false
  | n + 1, .tup xs => shps n xs
  | 0, .lst _ => false
  | n + 1, .lst xs => shps n xs
  | 0, .fl _ => false
  | n + 1, .fl xs => shps n xs
  | _, .ref _ => false
def shps : Nat → List D → Bool
  | _, [] => true
  | n, x :: r => shp n x && shps n r
end
mutual
/-- no bool stands where the other one has an int -/
def apt : D → D → Bool
  | .bl _, .int _ => false
  | .int _, .bl _ => false
  | .lst _, .fl _ => false
  | .fl _, .lst _ => false
  | .tup a, .tup b => apts a b
  | .lst a, .lst b => apts a b
  | .fl a, .fl b => apts a b
  | _, _ => true
def apts : List D → List D → Bool
  | a :: r, b :: t => apt a b && apts r t
  | _, _ => true
end
mutual
def pyD : D → PyData
  | .non => .none
  | .bl b => .bool b
  | .int i => .int i
  | .str x => .str x
  | .tup xs => .tuple (pyDs xs)
  | .lst xs => .list (pyDs xs)
  | .fl xs => .list (pyDs xs)
  | .ref _ => .none
def pyDs : List D → List PyData
  | [] => []
  | x :: r => pyD x :: pyDs r
end
mutual
theorem toPy_shp : ∀ {n : Nat} {d : D}, shp n d = true → toPy d = some (pyD d)
  | _, .non, _ => by simp [toPy, pyD]
  | _, .bl b, _ => by simp [toPy, pyD]
  | _, .int i, _ => by simp [toPy, pyD]
  | _, .str x, _ => by simp [toPy, pyD]
  | 0, .tup xs, h => by simp [shp] at h
  | n + 1, .tup xs, h => by
    simp only [shp] at h
    simp only [toPy, pyD, toPys_shps h, Option.map_some]
  | 0, .lst xs, h => by simp [shp] at h
  | n + 1, .lst xs, h => by
    simp only [shp] at h
    simp only [toPy, pyD, toPys_shps h, Option.map_some]
  | 0, .fl xs, h => by simp [shp] at h
  | n + 1, .fl xs, h => by
    simp only [shp] at h
    simp only [toPy, pyD, toPys_shps h, Option.map_some]
  | _, .ref _, h => by simp [shp] at h
theorem toPys_shps : ∀ {n : Nat} {ds : List D}, shps n ds = true → toPys ds = some (pyDs ds)
  | _, [], _ => by simp [toPys, pyDs]
  | n, d :: r, h => by
    simp only [shps, Bool.and_eq_true] at h
    simp only [toPys, toPy_shp h.1, toPys_shps h.2, pyDs]
end
mutual
theorem lay_shp : ∀ {n : Nat} {d : D}, shp n d = true → PyData.canLay0 (pyD d) = true
  | _, .non, _ => by simp [pyD, PyData.canLay0]
  | _, .bl b, _ => by simp [pyD, PyData.canLay0]
  | _, .int i, _ => by simp [pyD, PyData.canLay0]
  | _, .str x, h => by simpa [pyD, PyData.canLay0, shp] using h
  | 0, .tup xs, h => by simp [shp] at h
  | n + 1, .tup xs, h => by
    simp only [shp] at h
    simp only [pyD, PyData.canLay0, lays_shps h]
  | 0, .lst xs, h => by simp [shp] at h
  | n + 1, .lst xs, h => by
    simp only [shp] at h
    simp only [pyD, PyData.canLay0, lays_shps h]
  | 0, .fl xs, h => by simp [shp] at h
  | n + 1, .fl xs, h => by
    simp only [shp] at h
    simp only [pyD, PyData.canLay0, lays_shps h]
  | _, .ref _, h => by simp [shp] at h
theorem lays_shps : ∀ {n : Nat} {ds : List D}, shps n ds = true → PyData.canLayAll0 (pyDs ds) = true
  | _, [], _ => by simp [pyDs, PyData.canLayAll0]
  | n, d :: r, h => by
    simp only [shps, Bool.and_eq_true] at h
    simp only [pyDs, PyData.canLayAll0, lay_shp h.1, lays_shps h.2, Bool.and_self]
end
mutual
theorem dep_shp : ∀ {n : Nat} {d : D}, shp n d = true → (pyD d).depth ≤ n
  | _, .non, _ => by simp [pyD, PyData.depth]
  | _, .bl b, _ => by simp [pyD, PyData.depth]
  | _, .int i, _ => by simp [pyD, PyData.depth]
  | _, .str x, h => by simp [pyD, PyData.depth]
  | 0, .tup xs, h => by simp [shp] at h
  | n + 1, .tup xs, h => by
    simp only [shp] at h
    have := deps_shps h
    simp only [pyD, PyData.depth]; omega
  | 0, .lst xs, h => by simp [shp] at h
  | n + 1, .lst xs, h => by
    simp only [shp] at h
    have := deps_shps h
    simp only [pyD, PyData.depth]; omega
  | 0, .fl xs, h => by simp [shp] at h
  | n + 1, .fl xs, h => by
    simp only [shp] at h
    have := deps_shps h
    simp only [pyD, PyData.depth]; omega
  | _, .ref _, h => by simp [shp] at h
theorem deps_shps : ∀ {n : Nat} {ds : List D}, shps n ds = true → PyData.depthAll (pyDs ds) ≤ n
  | _, [], _ => by simp [pyDs, PyData.depthAll]
  | n, d :: r, h => by
    simp only [shps, Bool.and_eq_true] at h
    have h1 := dep_shp h.1
    have h2 := deps_shps h.2
    simp only [pyDs, PyData.depthAll]; omega
end
theorem shaped_shp {d : D} (h : shp 60 d = true) : SeqAt.shaped (pyD d) = true := by
  unfold SeqAt.shaped
  have := dep_shp h
  rw [lay_shp h, Bool.true_and]
  exact decide_eq_true (by omega)
mutual
theorem eqv_apt : ∀ {n m : Nat} {d e : D}, shp n d = true → shp m e = true → apt d e = true → PyData.eqv (pyD d) (pyD e) = d.beq e
  | _, _, .non, e, _, h, _ => by cases e <;> simp_all [pyD, PyData.eqv, D.beq, shp]
  | _, _, .bl b, e, _, h, a => by cases e <;> simp_all [pyD, PyData.eqv, D.beq, shp, apt]
  | _, _, .int b, e, _, h, a => by cases e <;> simp_all [pyD, PyData.eqv, D.beq, shp, apt]
  | _, _, .str b, e, _, h, a => by cases e <;> simp_all [pyD, PyData.eqv, D.beq, shp, apt]
  | 0, _, .tup xs, e, h, _, _ => by simp [shp] at h
  | 0, _, .lst xs, e, h, _, _ => by simp [shp] at h
  | 0, _, .fl xs, e, h, _, _ => by simp [shp] at h
  | n + 1, m, .tup xs, e, h, h', a => by
    cases e with
    | tup ys =>
      cases m with
      | zero => simp [shp] at h'
      | succ m =>
        simp only [shp] at h h'
        simp only [apt] at a
        simp only [pyD, PyData.eqv, D.beq]
        exact eqvs_apts h h' a
    | ref i => simp [shp] at h'
    | _ => simp [pyD, PyData.eqv, D.beq]
  | n + 1, m, .lst xs, e, h, h', a => by
    cases e with
    | lst ys =>
      cases m with
      | zero => simp [shp] at h'
      | succ m =>
        simp only [shp] at h h'
        simp only [apt] at a
        simp only [pyD, PyData.eqv, D.beq]
        exact eqvs_apts h h' a
    | ref i => simp [shp] at h'
    | fl ys => simp [apt] at a
    | _ => simp [pyD, PyData.eqv, D.beq]
  | n + 1, m, .fl xs, e, h, h', a => by
    cases e with
    | fl ys =>
      cases m with
      | zero => simp [shp] at h'
      | succ m =>
        simp only [shp] at h h'
        simp only [apt] at a
        simp only [pyD, PyData.eqv, D.beq]
        exact eqvs_apts h h' a
    | ref i => simp [shp] at h'
    | lst ys => simp [apt] at a
    | _ => simp [pyD, PyData.eqv, D.beq]
  | n, _, .ref _, _, h, _, _ => by simp [shp] at h
theorem eqvs_apts : ∀ {n m : Nat} {ds es : List D}, shps n ds = true → shps m es = true → apts ds es = true → PyData.eqvAll (pyDs ds) (pyDs es) = beqs ds es
  | _, _, [], [], _, _, _ => by simp [pyDs, PyData.eqvAll, beqs]
  | _, _, [], e :: t, _, _, _ => by simp [pyDs, PyData.eqvAll, beqs]
  | _, _, d :: r, [], _, _, _ => by simp [pyDs, PyData.eqvAll, beqs]
  | n, m, d :: r, e :: t, h, h', a => by
    simp only [shps, Bool.and_eq_true] at h h'
    simp only [apts, Bool.and_eq_true] at a
    simp only [pyDs, PyData.eqvAll, beqs, eqv_apt h.1 h'.1 a.1, eqvs_apts h.2 h'.2 a.2]
end
theorem beq_dec {d e : D} : d.beq e = decide (d = e) := by
  by_cases h : d = e
  · subst h; rw [D.beq_rfl]; simp
  · rw [decide_eq_false h]
    cases q : d.beq e
    · rfl
    · exact absurd (D.beq_eq _ _ q) h
theorem toPyS_shp {d : D} {n : Nat} {μ : Store} (h : shp n d = true) : toPyS μ d = some (pyD d) := by
  cases d with
  | ref i => simp [shp] at h
  | _ => exact toPy_shp h
theorem f_eqG {neg : Bool} {d e : D} {μ : Store} (hd : shp 60 d = true) (he : shp 60 e = true) (ha : apt d e = true) : Feq neg d e μ = okR (.bl (if neg = true then !d.beq e else d.beq e)) μ := by
  unfold Feq
  match h : twoS d e with
  | some (a, b) =>
    obtain ⟨rfl, rfl⟩ := twoS_some h
    simp [D.beq]
  | none =>
    simp only [toPyS_shp hd, toPyS_shp he]
    rw [if_pos ⟨shaped_shp hd, shaped_shp he⟩, eqv_apt hd he ha]
theorem f_eqD {d e : D} {μ : Store} (hd : shp 60 d = true) (he : shp 60 e = true) (ha : apt d e = true) : Feq false d e μ = okR (.bl (decide (d = e))) μ := by
  rw [f_eqG hd he ha, if_neg (by decide), beq_dec]
theorem f_neD {d e : D} {μ : Store} (hd : shp 60 d = true) (he : shp 60 e = true) (ha : apt d e = true) : Feq true d e μ = okR (.bl (!decide (d = e))) μ := by
  rw [f_eqG hd he ha, if_pos rfl, beq_dec]
theorem shps_all {n : Nat} : ∀ {xs : List D}, shps n xs = true ↔ ∀ x ∈ xs, shp n x = true
  | [] => by simp [shps]
  | x :: r => by simp only [shps, Bool.and_eq_true, shps_all (xs := r), List.mem_cons, forall_eq_or_imp]
/-! slices -/
theorem cut_take {α : Type} {xs : List α} {n : Nat} : cutD xs none (some (n : Int)) = xs.take n := by
  unfold cutD
  rw [HT.sIx_nat, HT.sIx_none, List.drop_zero, Nat.sub_zero]
  by_cases h : n ≤ xs.length
  · rw [Nat.min_eq_left h]
  · rw [Nat.min_eq_right (by omega), List.take_of_length_le (Nat.le_refl _), List.take_of_length_le (by omega)]
end DM

/-! x[::-1] of tuples and lists -/
namespace HT
open PySem PySem.Spec PyProof.Rows L2
section
variable {prog : Program} {w : World} {A : Around} {E : Value → Shared → Prop} {s : Shared}
end
end HT
namespace DM
open PySem PySem.Spec L2 PyProof.Rows
def Frev (d : D) (μ : Store) : Res D := match d with
  | .tup xs => okR (.tup xs.reverse) μ
  | .lst xs => okR (.lst xs.reverse) μ
  | _ => none
def tRev (K : PySem.W.Frag) (te : TE) : TE := fun σ H Q => te σ H fun x H1 => ∃ a xs, x = .ref a ∧ ((SqL K H1 a xs ∧ ∀ p, H1 p = none → Q (.ref p) (upd H1 p (.lst xs.reverse))) ∨ (SqT K H1 a xs ∧ ∀ p o, H1 p = none → o.dict = none → Q (.ref p) (upd H1 p (.frz o (.tup xs.reverse)))))
section
variable {X : Cx} {W : DW} {e : Expr} {E : CM D} {te : TE} {k : Nat} {p1 p2 p3 pos : Pos}
end
end DM

/-! repr of plain data in general -/
namespace DM
open PySem PySem.Spec L2
mutual
/-- all ints are of at most so many digits -/
def sml (k : Nat) : D → Bool
  | .int i => decide (i.natAbs < 10 ^ k)
  | .tup xs => smls k xs
  | .lst xs => smls k xs
  | .fl xs => smls k xs
  | _ => true
def smls (k : Nat) : List D → Bool
  | [] => true
  | x :: r => sml k x && smls k r
end
mutual
/-- no repr is longer than this -/
def rpn (k : Nat) : D → Nat
  | .int _ => k + 1
  | .str x => 10 * x.length + 8
  | .tup xs => rpns k xs + 3
  | .lst xs => rpns k xs + 3
  | .fl xs => rpns k xs + 3
  | _ => 8
def rpns (k : Nat) : List D → Nat
  | [] => 0
  | x :: r => rpn k x + 2 + rpns k r
end
theorem pyDs_len : ∀ xs : List D, (pyDs xs).length = xs.length
  | [] => rfl
  | x :: r => by simp only [pyDs, List.length_cons, pyDs_len r]
mutual
theorem shown_rpn {k : Nat} (hk : 1 ≤ k) : ∀ {n : Nat} {d : D}, shp n d = true → sml k d = true → (pyD d).shown.length ≤ rpn k d
  | _, .non, _, _ => by
    have e : (PyData.shown .none).length = 4 := rfl
    simp only [pyD, rpn]; omega
  | _, .bl b, _, _ => by
    have e : (PyData.shown (.bool b)).length ≤ 5 := by cases b <;> decide
    simp only [pyD, rpn]; omega
  | _, .int i, _, h => by
    simp only [sml, decide_eq_true_eq] at h
    have e := int_text_length_le10 (k := k) hk h
    simp only [pyD, rpn]
    show (Str.ofString (toString i)).length ≤ _
    rw [ofString_length]; exact e
  | _, .str x, h, _ => by
    have hl : PyData.leavesShort 8 (.str x) = true := PyData.leavesShort_of_canLay0 8 (.str x) (by simpa [shp, PyData.canLay0] using h) rfl
    have e := PyData.shown_le 8 (by decide) (.str x) hl
    have e2 : x.length = x.cps.size := rfl
    simp only [pyD, rpn, PyData.weight] at e ⊢
    omega
  | 0, .tup xs, h, _ => by simp [shp] at h
  | n + 1, .tup xs, h, h' => by
    simp only [shp] at h
    simp only [sml] at h'
    have h1 := shown_rpns hk h h'
    have h2 := tupleText_len_le (PyData.shownAll (pyDs xs))
    have h3 := PyData.shownAll_length (pyDs xs)
    have h4 := pyDs_len xs
    simp only [pyD, rpn, PyData.shown]
    omega
  | 0, .lst xs, h, _ => by simp [shp] at h
  | n + 1, .lst xs, h, h' => by
    simp only [shp] at h
    simp only [sml] at h'
    have h1 := shown_rpns hk h h'
    have h2 := listText_len_le (PyData.shownAll (pyDs xs))
    have h3 := PyData.shownAll_length (pyDs xs)
    have h4 := pyDs_len xs
    simp only [pyD, rpn, PyData.shown]
    omega
  | 0, .fl xs, h, _ => by simp [shp] at h
  | n + 1, .fl xs, h, h' => by
    simp only [shp] at h
    simp only [sml] at h'
    have h1 := shown_rpns hk h h'
    have h2 := listText_len_le (PyData.shownAll (pyDs xs))
    have h3 := PyData.shownAll_length (pyDs xs)
    have h4 := pyDs_len xs
    simp only [pyD, rpn, PyData.shown]
    omega
  | _, .ref _, h, _ => by simp [shp] at h
theorem shown_rpns {k : Nat} (hk : 1 ≤ k) : ∀ {n : Nat} {ds : List D}, shps n ds = true → smls k ds = true → ((PyData.shownAll (pyDs ds)).map (·.length)).sum + 2 * ds.length ≤ rpns k ds
  | _, [], _, _ => by simp [pyDs, PyData.shownAll, rpns]
  | n, d :: r, h, h' => by
    simp only [shps, Bool.and_eq_true] at h
    simp only [smls, Bool.and_eq_true] at h'
    have h1 := shown_rpn hk h.1 h'.1
    have h2 := shown_rpns hk h.2 h'.2
    simp only [pyDs, PyData.shownAll, rpns, List.map_cons, List.sum_cons, List.length_cons]
    omega
end
theorem log_lt {k i : Nat} (hk : k ≤ 500) (h : i < 10 ^ k) : i.log2 < 1920 := by
  by_cases h0 : i = 0
  · subst h0; decide
  · rw [Nat.log2_lt h0]
    exact Nat.lt_of_lt_of_le h (Nat.le_trans (Nat.pow_le_pow_right (by decide) hk) (by decide +kernel))
mutual
theorem showable_sml {k : Nat} (hk : k ≤ 500) : ∀ {d : D}, sml k d = true → (pyD d).showable = true
  | .non, _ => by simp [pyD, PyData.showable]
  | .bl b, _ => by simp [pyD, PyData.showable]
  | .int i, h => by
    simp only [sml, decide_eq_true_eq] at h
    simp only [pyD, PyData.showable, decide_eq_true_eq]
    exact log_lt hk h
  | .str x, _ => by simp [pyD, PyData.showable]
  | .tup xs, h => by
    simp only [sml] at h
    simp only [pyD, PyData.showable, showables_smls hk h]
  | .lst xs, h => by
    simp only [sml] at h
    simp only [pyD, PyData.showable, showables_smls hk h]
  | .fl xs, h => by
    simp only [sml] at h
    simp only [pyD, PyData.showable, showables_smls hk h]
  | .ref _, _ => by simp [pyD, PyData.showable]
theorem showables_smls {k : Nat} (hk : k ≤ 500) : ∀ {ds : List D}, smls k ds = true → PyData.showableAll (pyDs ds) = true
  | [], _ => by simp [pyDs, PyData.showableAll]
  | d :: r, h => by
    simp only [smls, Bool.and_eq_true] at h
    simp only [pyDs, PyData.showableAll, showable_sml hk h.1, showables_smls hk h.2, Bool.and_self]
end
/-- repr of data -/
def reprD (d : D) : Str := (pyD d).shown
theorem f_reprD {k : Nat} {d : D} {μ : Store} (hs : shp 60 d = true) (h0 : 1 ≤ k) (hk : k ≤ 500) (hi : sml k d = true) (hl : rpn k d ≤ 1000000) : Frepr [d] μ = okR (.str (reprD d)) μ :=
  f_repr (toPyS_shp hs) ⟨showable_sml hk hi, by have := dep_shp hs; omega⟩ (size_ok (Nat.le_trans (shown_rpn h0 hs hi) hl))
theorem smls_all {k : Nat} : ∀ {xs : List D}, smls k xs = true ↔ ∀ x ∈ xs, sml k x = true
  | [] => by simp [smls]
  | x :: r => by simp only [smls, Bool.and_eq_true, smls_all (xs := r), List.mem_cons, forall_eq_or_imp]
end DM

/-! enumerate and zip over lists and tuples -/
namespace PySem
open Sem (wp)
open AutoSeq1 (wpAny_loadPart')
end PySem
namespace DM
open PySem PySem.Spec L2 PyProof.Rows
inductive Sk where
  | l | t
def sqA (K : PySem.W.Frag) : Sk → Hp → Addr → List V → Prop
  | .l => SqL K
  | .t => SqT K
def onA : Sk → Heap → Addr → Addr → Nat → Prop
  | .l, h, it, a, i => h.IsListIter it a i
  | .t, h, it, a, i => h.IsTupleIter it a i
def isA : Sk → Heap → Addr → Array Value → Prop
  | .l, h, a, its => h.IsList a its
  | .t, h, a, its => h.IsTuple a its
def itO : Sk → Addr → Obj
  | .l, a => { cls := .type "list_iterator", data := .fields #[.ref a, .int 0 0] }
  | .t, a => { cls := .type "tuple_iterator", data := .fields #[.ref a, .int 0 0] }
def clsA : Sk → String
  | .l => "list"
  | .t => "tuple"
def clsI : Sk → String
  | .l => "list_iterator"
  | .t => "tuple_iterator"
section
variable {X : Cx} {pins : List (Addr × Obj)} {σ : L2.St} {H : Hp} {s : Shared} {k : Sk} {a it : Addr} {h h' : Heap} {i : Nat}
end
/-! ### enumerate -/
def IteA (K : PySem.W.Frag) (k : Sk) (a : Addr) (n : Nat) : It :=
  ⟨fun i H => ∃ (xs : List V) (x : V), sqA K k H a xs ∧ xs.length = n ∧ xs[i]? = some x,
   fun i H v H' => ∃ T o x, v = .ref T ∧ H T = none ∧ o.dict = none ∧ H' = upd H T (.frz o (.tup [.int (i : Nat), x])) ∧ ∀ xs, sqA K k H a xs → xs[i]? = some x,
   fun i H => ∃ xs : List V, sqA K k H a xs ∧ xs.length = n ∧ n ≤ i⟩
def iEnumA (K : PySem.W.Frag) (ta : TA) : TI := fun σ H R => ta σ H fun vs H1 => ∃ k a xs, vs = [.ref a] ∧ sqA K k H1 a xs ∧ R (IteA K k a xs.length) H1
/-! ### the data -/
def seqD (μ : Store) : D → Option (List D × (Store → Bool))
  | .lst xs => some (xs, anyG)
  | .fl xs => some (xs, anyG)
  | .tup xs => some (xs, anyG)
  | .ref c => match μ[c]? with
    | some (.lst xs) => some (xs, isLst c xs)
    | _ => none
  | _ => none
/-- a walked thing stands at a, whatever is changed as long as the guard holds -/
def SqOk (K : PySem.W.Frag) (ι0 : List Addr) (H0 : Hp) (k : Sk) (a : Addr) (xs : List D) (g : Store → Bool) : Prop :=
  ∀ ι μ H, Le ι0 H0 ι H → WF K ι μ H → g μ = true → ∃ vs, sqA K k H a vs ∧ VRs K ι H vs xs
def enumD (xs : List D) : List D := xs.mapIdx fun i x => .tup [.int (i : Nat), x]
def iEnum (E : CM (List D)) : CM IV := E.bind fun ds _ μ => match ds with
  | [d] => match seqD μ d with
    | some (xs, g) => some (.ok (enumD xs, g), μ)
    | none => none
  | _ => none
/-! ### zip -/
def ItzA (K : PySem.W.Frag) (k k' : Sk) (a b : Addr) (n m : Nat) : It :=
  ⟨fun i H => ∃ (xs ys : List V) (x y : V), sqA K k H a xs ∧ sqA K k' H b ys ∧ xs.length = n ∧ ys.length = m ∧ xs[i]? = some x ∧ ys[i]? = some y,
   fun i H v H' => ∃ T o x y, v = .ref T ∧ H T = none ∧ o.dict = none ∧ H' = upd H T (.frz o (.tup [x, y])) ∧ (∀ xs, sqA K k H a xs → xs[i]? = some x) ∧ ∀ ys, sqA K k' H b ys → ys[i]? = some y,
   fun i H => ∃ xs ys : List V, sqA K k H a xs ∧ sqA K k' H b ys ∧ xs.length = n ∧ ys.length = m ∧ (n ≤ i ∨ m ≤ i)⟩
structure ZApt (z TI TO i1 i2 : Addr) : Prop where
  TIz : TI ≠ z
  TOz : TO ≠ z
  TITO : TI ≠ TO
  TIi1 : TI ≠ i1
  TIi2 : TI ≠ i2
  zi1 : z ≠ i1
  zi2 : z ≠ i2
  TOi1 : TO ≠ i1
  TOi2 : TO ≠ i2
  i12 : i1 ≠ i2
def iZipA (K : PySem.W.Frag) (ta : TA) : TI := fun σ H R => ta σ H fun vs H1 => ∃ k k' a b xs ys, vs = [.ref a, .ref b] ∧ sqA K k H1 a xs ∧ sqA K k' H1 b ys ∧ R (ItzA K k k' a b xs.length ys.length) H1
def zipD (xs ys : List D) : List D := List.zipWith (fun x y => .tup [x, y]) xs ys
def iZip (E : CM (List D)) : CM IV := E.bind fun ds _ μ => match ds with
  | [d, e] => match seqD μ d, seqD μ e with
    | some (xs, g), some (ys, g') => some (.ok (zipD xs ys, fun ν => g ν && g' ν), μ)
    | _, _ => none
  | _ => none
end DM

/-! dict comprehensions, x, *y = e, a = b = e, a try that runs through -/
namespace DM
open PySem PySem.Spec L2 PyProof.Rows
def dcLoop (gd : Store → Bool) (g : D → Rho → Option Rho) (T : CM Bool) (A B : CM D) (c : Nat) : List D → CM D
  | [] => fun _ μ => if gd μ = true then okR (.ref c) μ else none
  | d :: r => fun ρ μ => if gd μ = true then (match g d ρ with
      | some ρ1 => match T ρ1 μ with
        | some (.ok true, μ1) => match A ρ1 μ1 with
          | some (.ok y, μ2) => match B ρ1 μ2 with
            | some (.ok z, μ3) => match μ3[c]?, keyD y with
              | some (.dct kvs), some k => if kvs.length < sizeLine then dcLoop gd g T A B c r ρ (μ3.set c (.dct (putKD kvs k z))) else none
              | _, _ => none
            | _ => none
          | _ => none
        | some (.ok false, μ1) => dcLoop gd g T A B c r ρ μ1
        | _ => none
      | none => none) else none
def eDC (I : CM IV) (g : D → Rho → Option Rho) (T : CM Bool) (A B : CM D) (own : List Nat) : CM D := I.bind fun p ρ μ => dcLoop p.2 g T A B μ.length p.1 (wipeR ρ own) (μ ++ [.dct []])
section
variable {X : Cx} {W : DW}
/-! ### a = b = e -/
def sAsg2 (E : CM D) (F G : D → SF) : SF := lft E fun d => sSeq (tgOnly (F d)) (tgOnly (G d))
/-! ### a try that runs through -/
end
/-! ### x, *y = e -/
section
variable {prog : Program} {w : World} {A : Around} {E : Value → Shared → Prop} {s : Shared} {env : Env} {elts : List Expr} {kk : Nat} {pos : Pos}
end
/-- (x, *y) = a tuple or a list -/
def gStar (K : PySem.W.Frag) (t : TGs) : TG := fun v σ H Q => ∃ a x xs, v = .ref a ∧ SqT K H a (x :: xs) ∧ ∀ p, H p = none → t [x, .ref p] σ (upd H p (.lst xs)) Q
section
variable {X : Cx} {W : DW}
def tStar (G : List D → SF) : D → SF := fun d => match d with
  | .tup (x :: xs) => G [x, .lst xs]
  | _ => fun _ _ => none
end
end DM

/-! dicts read; a loop over a dict; sorted; join -/
namespace DM
open PySem PySem.Spec L2 PyProof.Rows
/-! ### k in d -/
section
variable {X : Cx} {W : DW} {a b : Expr} {A B : CM D} {pos : Pos} {k : Nat}
end
/-! ### d.get(k) -/
def FdGet1 (o i : D) (μ : Store) : Res D := match dctAt μ o, keyD i with
  | some (_, kvs), some k => okR ((valD kvs k).getD .non) μ
  | _, _ => none
/-- the dict is looked at ahead of the key -/
def eGet (O I : CM D) : CM D := O.bind fun o ρ μ => match dctAt μ o with
  | some _ => I.bind (fun i _ μ1 => FdGet1 o i μ1) ρ μ
  | none => none
/-! ### dict(d), dict(pairs) -/
def pairsD : List D → Option (List (Key × D))
  | [] => some []
  | .tup [k, v] :: r => match keyD k, pairsD r with
    | some k, some t => some ((k, v) :: t)
    | _, _ => none
  | _ => none
def Fdict (ds : List D) (μ : Store) : Res D := match ds with
  | [d] => match dctAt μ d with
    | some (_, kvs) => okR (.ref μ.length) (μ ++ [.dct kvs])
    | none => match d with
      | .lst xs => match pairsD xs with
        | some kvs => okR (.ref μ.length) (μ ++ [.dct (mergeKD [] kvs)])
        | none => none
      | _ => none
  | _ => none
def rDict (K : PySem.W.Frag) : List V → Hp → VK → Prop := fun xs H Q =>
  (∃ (a : Addr) (kvs : List (Key × V)), xs = [.ref a] ∧ Rd H a (.dK kvs) ∧ ∀ p, H p = none → Q (.ref p) (upd H p (.dK kvs))) ∨
  (∃ (a : Addr) (ps : List Addr) (kvs : List (Key × V)), xs = [.ref a] ∧ SqL K H a (ps.map V.ref) ∧ Paired (fun p kv => SqT K H p [kV kv.1, kv.2]) ps kvs ∧ ∀ p, H p = none → Q (.ref p) (upd H p (.dK (mergeK [] kvs))))
/-! ### sorted of texts, of a dict's keys -/
def leS (a b : Str) : Bool := !ltCps b.cps.toList a.cps.toList
def insS (x : Str) : List Str → List Str
  | [] => [x]
  | y :: r => if leS x y = true then x :: y :: r else y :: insS x r
def sortS : List Str → List Str
  | [] => []
  | x :: r => insS x (sortS r)
def strKeys : List (Key × D) → Option (List Str)
  | [] => some []
  | (.inr s, _) :: r => (strKeys r).map (s :: ·)
  | _ => none
def Fsorted (ds : List D) (μ : Store) : Res D := match ds with
  | [d] => match dctAt μ d with
    | some (_, kvs) => match strKeys kvs with
      | some ks => if ks.length < 64 then okR (.lst ((sortS ks).map D.str)) μ else none
      | none => none
    | none => match d with
      | .lst xs => match strsD xs with
        | some ks => if ks.length < 64 then okR (.lst ((sortS ks).map D.str)) μ else none
        | none => none
      | _ => none
  | _ => none
def rSorted2 (K : PySem.W.Frag) : List V → Hp → VK → Prop := fun xs H Q =>
  (∃ (a : Addr) (kvs : List (Key × V)) (ks : List Str), xs = [.ref a] ∧ Rd H a (.dK kvs) ∧ kvs.map (·.1) = ks.map Sum.inr ∧ ks.length < 64 ∧ ∀ ys p, ys.Perm ks → sortedS ys = true → H p = none → Q (.ref p) (upd H p (.lst (ys.map V.str)))) ∨ rSortedS K xs H Q
/-! ### sep.join(xs) -/
def joinF (o d : D) (μ : Store) : Res D := match o with
  | .str a => match (itemsD μ d).bind strsD with
    | some ys => if (ys.map (·.length)).sum + ys.length * a.length ≤ 16777216 then okR (.str (Txt.join a ys)) μ else none
    | none => none
  | _ => none
def isStrD : D → Bool
  | .str _ => true
  | _ => false
def eJoin (O I : CM D) : CM D := O.bind fun o => if isStrD o = true then I.bind (fun i _ μ1 => joinF o i μ1) else fun _ _ => none
end DM

/-! a loop over a dict that is not changed meanwhile -/
namespace DM
open PySem PySem.Spec L2 PyProof.Rows
section
variable {K : PySem.W.Frag} {ι : List Addr} {H : Hp} {a : Addr} {u : HO}
theorem ne_cell {p : Addr} (ha : a ∈ ι) (hp : p ∉ ι) : p ≠ a := fun z => hp (by rw [z]; exact ha)
theorem TupAt.updC {p : Addr} {vs : List V} (ha : a ∈ ι) (h : TupAt K ι H p vs) : TupAt K ι (upd H a u) p vs := by
  rcases h with ⟨⟨o, h, d⟩, n⟩ | h | ⟨h, n, q⟩
  · exact .inl ⟨⟨o, by rw [upd_ne (ne_cell ha n)]; exact h, d⟩, n⟩
  · exact .inr (.inl h)
  · exact .inr (.inr ⟨by rw [upd_ne (ne_cell ha n)]; exact h, n, q⟩)
theorem LstAt.updC {p : Addr} {vs : List V} (ha : a ∈ ι) (h : LstAt ι H p vs) : LstAt ι (upd H a u) p vs := ⟨by rw [upd_ne (ne_cell ha h.2)]; exact h.1, h.2⟩
theorem FlAt.updC {p : Addr} {vs : List V} (ha : a ∈ ι) (h : FlAt K ι H p vs) : FlAt K ι (upd H a u) p vs := by
  rcases h with ⟨⟨o, h⟩, n⟩ | h
  · exact .inl ⟨⟨o, by rw [upd_ne (ne_cell ha n)]; exact h⟩, n⟩
  · exact .inr h
mutual
theorem VR.updC (ha : a ∈ ι) : ∀ {v : V} {d : D}, VR K ι H v d → VR K ι (upd H a u) v d
  | _, _, .non => .non
  | _, _, .bl b => .bl b
  | _, _, .int i => .int i
  | _, _, .str x => .str x
  | _, _, .tup h r => .tup (h.updC ha) (VRs.updC ha r)
  | _, _, .lst h r => .lst (h.updC ha) (VRs.updC ha r)
  | _, _, .fl h r => .fl (h.updC ha) (VRs.updC ha r)
  | _, _, .ref h => .ref h
theorem VRs.updC (ha : a ∈ ι) : ∀ {vs : List V} {ds : List D}, VRs K ι H vs ds → VRs K ι (upd H a u) vs ds
  | _, _, .nil => .nil
  | _, _, .cons h r => .cons (VR.updC ha h) (VRs.updC ha r)
end
theorem OR.updC {b : Addr} {o : Ob} (ha : a ∈ ι) (hb : b ≠ a) (h : OR K ι H b o) : OR K ι (upd H a u) b o := by
  have e : upd H a u b = H b := upd_ne hb
  cases o with
  | lst ds => obtain ⟨vs, q, r⟩ := h; exact ⟨vs, e.trans q, r.updC ha⟩
  | obj C fs => obtain ⟨dx, gs, q, k, r, z⟩ := h; exact ⟨dx, gs, e.trans q, k, r.updC ha, z⟩
  | dct kvs => obtain ⟨qs, q, k, r⟩ := h; exact ⟨qs, e.trans q, k, r.updC ha⟩
  | dcl kvs => obtain ⟨o, qs, q, k, r⟩ := h; exact ⟨o, qs, e.trans q, k, r.updC ha⟩
  | dtt kvs => obtain ⟨qs, q, k, r⟩ := h; exact ⟨qs, e.trans q, k, r.updC ha⟩
  | exc C fs => obtain ⟨d, gs, ⟨oe, vs, q, z⟩, q2, n, k, r⟩ := h; exact ⟨d, gs, ⟨oe, vs, e.trans q, z⟩, by rw [upd_ne (fun z => n (by rw [z]; exact ha))]; exact q2, n, k, r.updC ha⟩
  | tab tx => obtain ⟨z, ps, q1, q2, q3⟩ := h; exact ⟨z, ps, e.trans q1, q2, fun pos cv hc => let ⟨c, a1, a2, a3⟩ := q3 pos cv hc; ⟨c, a1, by rw [upd_ne (fun z => a3 (by rw [z]; exact ha))]; exact a2, a3⟩⟩
  | dnk kvs => obtain ⟨bs, vs, q, k, r, z⟩ := h; exact ⟨bs, vs, e.trans q, k.updC ha, r.updC ha, z⟩
theorem SR.updC {σ : L2.St} {ρ : Rho} (ha : a ∈ ι) (s : SR K ι H σ ρ) : SR K ι (upd H a u) σ ρ := ⟨s.len, fun i d h => let ⟨v, x, y⟩ := s.at' i d h; ⟨v, x, y.updC ha⟩⟩
theorem WF.unlock {μ : Store} {c : Nat} {od : Obj} {qs : List (Key × V)} {kvs : List (Key × D)} (w : WF K ι μ H) (hc : ι[c]? = some a) (hm : μ[c]? = some (.dcl kvs)) (hH : H a = some (.frz od (.dK qs))) : WF K ι (μ.set c (.dct kvs)) (upd H a (.dK qs)) := by
  have ha : a ∈ ι := List.mem_of_getElem? hc
  refine ⟨by simp [w.len], w.nd, fun j b v hj hv => ?_⟩
  by_cases e : c = j
  · subst e
    rw [hc] at hj
    cases hj
    have hl : c < μ.length := (List.getElem?_eq_some_iff.mp hm).1
    rw [List.getElem?_set_self hl] at hv
    cases hv
    obtain ⟨o, qs', e1, k, r⟩ := w.ob c a _ hc hm
    rw [hH] at e1
    cases e1
    exact ⟨qs, upd_same, k, r.updC ha⟩
  · rw [List.getElem?_set_ne e] at hv
    refine (w.ob j b v hj hv).updC ha fun z => ?_
    subst z
    have h1 := List.getElem?_eq_some_iff.mp hc
    have h2 := List.getElem?_eq_some_iff.mp hj
    exact e ((List.getElem_inj w.nd).mp (h1.2.trans h2.2.symm))
theorem WF.lock {μ : Store} {c : Nat} {od : Obj} {qs : List (Key × V)} {kvs : List (Key × D)} (w : WF K ι μ H) (hc : ι[c]? = some a) (hm : μ[c]? = some (.dct kvs)) (hH : H a = some (.dK qs)) : WF K ι (μ.set c (.dcl kvs)) (upd H a (.frz od (.dK qs))) := by
  have ha : a ∈ ι := List.mem_of_getElem? hc
  refine ⟨by simp [w.len], w.nd, fun j b v hj hv => ?_⟩
  by_cases e : c = j
  · subst e
    rw [hc] at hj
    cases hj
    have hl : c < μ.length := (List.getElem?_eq_some_iff.mp hm).1
    rw [List.getElem?_set_self hl] at hv
    cases hv
    obtain ⟨qs', e1, k, r⟩ := w.ob c a _ hc hm
    rw [hH] at e1
    cases e1
    exact ⟨od, qs, upd_same, k, r.updC ha⟩
  · rw [List.getElem?_set_ne e] at hv
    refine (w.ob j b v hj hv).updC ha fun z => ?_
    subst z
    have h1 := List.getElem?_eq_some_iff.mp hc
    have h2 := List.getElem?_eq_some_iff.mp hj
    exact e ((List.getElem_inj w.nd).mp (h1.2.trans h2.2.symm))
/-- behind the lock: as seen from ahead of it -/
theorem Le.unlock {ι' : List Addr} {H' : Hp} {c : Nat} {od : Obj} {qs : List (Key × V)} (hc : ι[c]? = some a) (hH : H a = some (.dK qs)) (l : Le ι (upd H a (.frz od (.dK qs))) ι' H') : Le ι H ι' (upd H' a (.dK qs)) := by
  have ha : a ∈ ι := List.mem_of_getElem? hc
  refine ⟨l.pre, fun b hb n => ?_, fun b o n e => ?_, fun b o v e => ?_⟩
  · have := l.new b hb n
    rw [upd_ne (ne_cell ha n)] at this
    exact this
  · have hne := ne_cell ha n
    rw [upd_ne hne]
    exact l.keep b o n (by rw [upd_ne hne]; exact e)
  · have hne : b ≠ a := fun z => by rw [z, hH] at e; cases e
    rw [upd_ne hne]
    exact l.frz b o v (by rw [upd_ne hne]; exact e)
end
def keyOf : Key → D
  | .inl i => .int i
  | .inr s => .str s
def iKeysL (E : CM D) : CM IV := E.bind fun d _ μ => match d with
  | .ref c => match μ[c]? with
    | some (.dcl kvs) => some (.ok (kvs.map (fun kv => keyOf kv.1), anyG), μ)
    | _ => none
  | _ => none
/-- the lock is taken off -/
def unlk (c : Nat) : Option (Fl × Store) → Option (Fl × Store)
  | some (f, μ) => match f, μ[c]? with
    | .ex _ _, _ => none
    | f, some (.dcl kvs) => some (f, μ.set c (.dct kvs))
    | _, _ => none
  | none => none
def sForK (E : CM D) (g : D → Rho → Option Rho) (S : SF) : SF := fun ρ μ => match E ρ μ with
  | some (.ok (.ref c), _) => match μ[c]? with
    | some (.dct kvs) => unlk c (sFor (iKeysL E) g S ρ (μ.set c (.dcl kvs)))
    | _ => none
  | _ => none
end DM

namespace DM
open PySem PySem.Spec L2
open PyProof.Rows (envOfC)
/-! ### defs by their arguments: positional ones (any number), keywords named ks -/
abbrev FV := List D → List D → Store → Res D
structure FnV (P : Program) (w : World) (K : PySem.W.Frag) (mg : Str → Option Value) (base : Heap) (k : Nat) (f : Addr) (ks : List Str) (F : FV) : Prop where
  go : ∀ {A : Around} {outer : List Env} {s : Shared} {H : Hp} {us ws : List Value} {vs zs : List V} {ι : List Addr} {μ : Store} {ds es : List D} {Q : VK} {E : XK},
    Room k A → A.guards = some [] → Env0 P w K mg base A outer s H → Vals vs us → Vals zs ws → zs.length = ks.length → WF K ι μ H → VRs K ι H vs ds → VRs K ι H zs es → PostF K (xrS K) ι H Q E (F ds es μ) →
      codeAny (model P w) A (.call (.ref f) ⟨us, ks.zip ws⟩) (CR (L2.CX P w) outer P w H s Q E) s
  len : ∀ ds es μ, F ds es μ ≠ none → es.length = ks.length
theorem FnV.mono {P : Program} {w : World} {K : PySem.W.Frag} {mg : Str → Option Value} {base : Heap} {j k : Nat} {f : Addr} {ks : List Str} {F : FV} (h : FnV P w K mg base j f ks F) (l : j ≤ k) : FnV P w K mg base k f ks F :=
  ⟨fun hr => h.go (hr.mono l), h.len⟩
/-- a def without stars: idx picks its parameters from the positional ones and the keywords -/
def gV (n nk : Nat) (idx : List Nat) (F : FD) : FV := fun ds es μ => if ds.length = n ∧ es.length = nk then F (pick idx (ds ++ es)) μ else none
theorem FnV.ofG {P : Program} {w : World} {K : PySem.W.Frag} {mg : Str → Option Value} {base : Heap} {k n : Nat} {f : Addr} {fd : FuncData} {ps ks : List Str} {idx : List Nat} {F : FD} (G : FnG P w K mg base (xrS K) k f fd ps F)
    (hb : ∀ (s : Shared) (us ws : List Value), us.length = n → ws.length = ks.length → BindsTo s fd ⟨us, ks.zip ws⟩ (ps.zip (pick idx (us ++ ws)))) (hlen : ∀ ds μ, F ds μ ≠ none → ds.length = ps.length) : FnV P w K mg base k f ks (gV n ks.length idx F) := by
  refine ⟨fun {A outer s H us ws vs zs ι μ ds es Q E} hr hG e0 rv rz lz wf vr vz post => ?_, fun ds es μ h => ?_⟩
  · unfold gV at post
    have ln : ds.length = n ∧ es.length = ks.length := by
      by_cases z : ds.length = n ∧ es.length = ks.length
      · exact z
      · rw [if_neg z] at post; exact post.elim
    rw [if_pos ln] at post
    have vv : VRs K ι H (pick idx (vs ++ zs)) (pick idx (ds ++ es)) := pick_vrs (vr.append vz)
    have nn : F (pick idx (ds ++ es)) μ ≠ none := fun z => by rw [z] at post; exact post
    have hl : (pick idx (vs ++ zs)).length = ps.length := by rw [vv.length]; exact hlen _ _ nn
    exact G.go hr hG e0 (hb s us ws (by rw [← rv.length, vr.length]; exact ln.1) (by rw [← rz.length]; exact lz)) (pick_vals (rv.append rz)) hl wf vv post
  · unfold gV at h
    by_cases z : ds.length = n ∧ es.length = ks.length
    · exact z.2
    · rw [if_neg z] at h; exact absurd rfl h
/-- def f(a, .., *v, k = .., ..) -/
def fnV (np nk : Nat) (idx : List Nat) (F : FD) : FV := fun ds es μ => if (np ≤ ds.length ∧ ds.length ≤ sizeLine) ∧ es.length = nk then F (ds.take np ++ (pick idx es ++ [.tup (ds.drop np)])) μ else none
end DM
namespace DM
open PySem PySem.Spec L2
def sealV (F : FV) : FV := fun ds es μ => sealR μ.length (F ds es μ)
theorem FnV.seal {P : Program} {w : World} {K : PySem.W.Frag} {mg : Str → Option Value} {base : Heap} {k : Nat} {f : Addr} {ks : List Str} {F : FV} (h : FnV P w K mg base k f ks F) : FnV P w K mg base k f ks (sealV F) := by
  refine ⟨fun {A outer s H us ws vs zs ι μ ds es Q E} hr hG e0 rv rz lz wf vr vz post => ?_, fun ds es μ q => h.len ds es μ fun z => q (by unfold sealV; rw [z]; rfl)⟩
  refine h.go hr hG e0 rv rz lz wf vr vz ?_
  unfold sealV at post
  have := sealAux (K := K) (W := fun x ι _ H' => ∀ c dd, (xrS K) x c dd ι H' → E c dd H') (σ := []) (ι := ι) (H := H) (Q := Q) (r := F ds es μ) wf (by
    match sealR μ.length (F ds es μ), post with
    | some (.ok _, _), post => exact post
    | some (.error _, _), post => exact fun ι' H' l w c dd z => post ι' H' c dd l w z)
  match F ds es μ, this with
  | some (.ok _, _), q => exact q
  | some (.error _, _), q => exact fun ι' H' c dd l w z => q ι' H' l w c dd z
end DM

namespace L2
open PySem PySem.Spec PySem.Calls PySem.W
section
variable {M : Model} {A : Around} {E : Value → Shared → Prop} {s : Shared}
end
end L2
namespace DM
open PySem PySem.Spec L2
/-! ### methods by their arguments -/
structure MtV (P : Program) (w : World) (K : PySem.W.Frag) (mg : Str → Option Value) (base : Heap) (k : Nat) (C m : Str) (ks : List Str) (F : FV) : Prop where
  ex : ∃ f, FnV P w K mg base k f ks F ∧ BMeth K (He.ga K C) m f
theorem MtV.mono {P : Program} {w : World} {K : PySem.W.Frag} {mg : Str → Option Value} {base : Heap} {j k : Nat} {C m : Str} {ks : List Str} {F : FV} (h : MtV P w K mg base j C m ks F) (l : j ≤ k) : MtV P w K mg base k C m ks F := by
  obtain ⟨f, G, r⟩ := h.ex
  exact ⟨⟨f, G.mono l, r⟩⟩
/-- the object, its class's def; then A: the positional arguments, B: the keywords -/
def eMtV (tb : List (Str × FV)) (m : Str) (O : CM D) (A B : CM (List D)) : CM D := O.bind fun o ρ μ => match o with
  | .ref i => match μ[i]? with
    | some (.obj C fs) => if (fs.lookup m).isNone = true then (match tb.lookup C with
      | some F => (A.bind fun ds => B.bind fun es _ μ => F (.ref i :: ds) es μ) ρ μ
      | none => none) else none
    | _ => none
  | _ => none
section
variable {X : Cx} {W : DW} {k j : Nat} {m : Str} {ks : List Str} {tb : List (Str × FV)} {o e : Expr} {es : List Expr} {kws : List Keyword} {O E : CM D} {As Bs : CM (List D)} {pos apos p : Pos}
/-- what the star brings -/
def aLone (E : CM D) : CM (List D) := E.bind fun d _ μ => match itemsD μ d with
  | some xs => some (.ok xs, μ)
  | none => none
/-! ### new instances by their arguments -/
structure MkV (P : Program) (w : World) (K : PySem.W.Frag) (mg : Str → Option Value) (base : Heap) (k : Nat) (C : Str) (ks : List Str) (F : FV) : Prop where
  ex : ∃ f, FnV P w K mg base k f ks F ∧ L2.Mk K (He.ga K C) f ∧ mg C = some (.ref (He.ga K C)) ∧ Cls K (He.ga K C)
def mkV (C : Str) (F : FV) (ds es : List D) (μ : Store) : Res D := mkO C (fun ds μ => F ds es μ) ds μ
def eMkV (C : Str) (F : FV) (A B : CM (List D)) : CM D := A.bind fun ds => B.bind fun es _ μ => mkV C F ds es μ
/-- C( *e, k = v, ..): the star is read behind the keywords -/
def eMkS (C : Str) (F : FV) (E : CM D) (B : CM (List D)) : CM D := E.bind fun d => B.bind fun es _ μ => match itemsD μ d with
  | some ds => mkV C F ds es μ
  | none => none
end
end DM

namespace DM
open PySem PySem.Spec L2
/-! ### the look at the head: defs at any place, properties, bound methods -/
structure DefX where
  ad : PySem.W.Frag → Addr
  d : He.DefD
def fnWX (K : PySem.W.Frag) (x : DefX) : He.FnW := match K.lookup (x.ad K) with
  | some ⟨_, _, .func fd, _⟩ => some (fd.name, fd.qualname, fd.params, fd.body, fd.scope, fd.globals, fd.closure, fd.builtins)
  | _ => none
def DefX.ok (K : PySem.W.Frag) (x : DefX) : Bool := PySem.W.keepIn K (.ref (x.ad K)) && (match K.lookup (x.ad K) with
  | some ⟨_, _, .func fd, _⟩ => PySem.W.codeIn K fd.code x.d.qual && (He.dflB K fd.defaults (x.d.dvs K) && He.kwdB K fd.kwdefaults (x.d.kws K))
  | _ => false)
/-- a bound method may be made -/
def bmB (C m : Str) (K : PySem.W.Frag) : Bool := He.eqO (PySem.W.specialIn K (.ref (He.ma K (He.ga K C) m)) "__get__") (some (some (.builtin "function.__get__"))) && (decide (PySem.W.takesIn K (.ref (He.ma K (He.ga K C) m)) = some false) && (!(PySem.W.copiedNames.contains m) && PySem.W.fnIn K (He.ma K (He.ga K C) m)))
/-- a property's getter -/
def pgA (C m : Str) (K : PySem.W.Frag) : Addr := match PySem.W.recIn K (He.ma K (He.ga K C) m) "property" with
  | some (.ref g :: _) => g
  | _ => 0
def prB (C m : Str) (K : PySem.W.Frag) : Bool := He.eqO (PySem.W.findIn K (.ref (He.ga K C)) m) (some (some (.ref (He.ma K (He.ga K C) m)))) && (He.eqO (PySem.W.specialIn K (.ref (He.ma K (He.ga K C) m)) "__get__") (some (some (.builtin "property.__get__"))) && (decide (PySem.W.takesIn K (.ref (He.ma K (He.ga K C) m)) = some true) && (match PySem.W.recIn K (He.ma K (He.ga K C) m) "property" with
  | some (.ref _ :: _) => true
  | _ => false)))
abbrev AlX : Type := Bool × List He.FnW × He.AlD
def obsX (fa : List He.Fa) (fn : List He.DefD) (cs : List (Str × D)) (xf : List (PySem.W.Frag → Bool)) (xs : List DefX) (K : PySem.W.Frag) : AlX := (cs.all (conB K) && ((xf.all fun f => f K) && xs.all fun x => x.ok K), xs.map (fnWX K), He.obsD fa fn K)
def obsXG (n : Nat) (fa : List He.Fa) (fn : List He.DefD) (cs : List (Str × D)) (xf : List (PySem.W.Frag → Bool)) (xs : List DefX) (g : Addr → Option Obj) : AlX := obsX fa fn cs xf xs (He.frG g (He.asD g n))
def valX (xs : List DefX) : List He.FnW := xs.map fun x => x.d.val
structure SaysX (fa : List He.Fa) (fn : List He.DefD) (cs : List (Str × D)) (xf : List (PySem.W.Frag → Bool)) (xs : List DefX) (K : PySem.W.Frag) : Prop where
  c : He.SaysD fa fn K
  k : (cs.all (conB K) && ((xf.all fun f => f K) && xs.all fun x => x.ok K)) = true
  x : xs.map (fnWX K) = valX xs
def hookX (n : Nat) (fa : List He.Fa) (fn : List He.DefD) (cs : List (Str × D)) (xf : List (PySem.W.Frag → Bool)) (xs : List DefX) : PySem.W.Hook where
  α := AlX
  obs := fun s => obsXG n fa fn cs xf xs s.heap.get?
  val := fun _ => (true, valX xs, He.valD fn)
  says := fun _ h => ∃ K : PySem.W.Frag, K.In h ∧ SaysX fa fn cs xf xs K
  of := fun _ _ e => ⟨_, He.frG_in, congrArg (fun z : AlX => z.2.2) e, congrArg Prod.fst e, congrArg (fun z : AlX => z.2.1) e⟩
  keeps := fun _ _ _ ⟨K, hK, c⟩ k => ⟨K, PySem.W.Frag.In.keeps hK k, c⟩
section
variable {fa : List He.Fa} {fn : List He.DefD} {cs : List (Str × D)} {xf : List (PySem.W.Frag → Bool)} {xs : List DefX} {K : PySem.W.Frag}
theorem SaysX.con (c : SaysX fa fn cs xf xs K) (i : Nat) {z : Str × D} (h : cs[i]? = some z := by rfl) : conB K z = true :=
  List.all_eq_true.mp (andT c.k).1 z (List.mem_of_getElem? h)
end
/-! ### by names, for the printed texts -/
section
variable {P : Program} {w : World} {K : PySem.W.Frag} {mg : Str → Option Value} {base : Heap}
/-- a method without stars and keywords, as one by its arguments -/
theorem MtV.ofG {C m : Str} {k n : Nat} {f : Addr} {fd : FuncData} {ps ks : List Str} {idx : List Nat} {F : FD} (G : FnG P w K mg base (xrS K) k f fd ps F) (hb : ∀ (s : Shared) (us ws : List Value), us.length = n → ws.length = ks.length → BindsTo s fd ⟨us, ks.zip ws⟩ (ps.zip (pick idx (us ++ ws)))) (hlen : ∀ ds μ, F ds μ ≠ none → ds.length = ps.length) (hm : BMeth K (He.ga K C) m f) : MtV P w K mg base k C m ks (gV n ks.length idx F) := ⟨⟨f, FnV.ofG G hb hlen, hm⟩⟩
end
end DM

namespace DM
open PySem PySem.Spec L2
/-! ### closed stores: what a cell names is a cell -/
mutual
theorem noRef_le {n m : Nat} (l : n ≤ m) : ∀ {d : D}, noRef n d = true → noRef m d = true
  | .non, _ => rfl
  | .bl _, _ => rfl
  | .int _, _ => rfl
  | .str _, _ => rfl
  | .tup xs, h => by simp only [noRef] at h ⊢; exact noRefs_le l h
  | .lst xs, h => by simp only [noRef] at h ⊢; exact noRefs_le l h
  | .fl xs, h => by simp only [noRef] at h ⊢; exact noRefs_le l h
  | .ref i, h => by simp only [noRef, decide_eq_true_eq] at h ⊢; omega
theorem noRefs_le {n m : Nat} (l : n ≤ m) : ∀ {ds : List D}, noRefs n ds = true → noRefs m ds = true
  | [], _ => rfl
  | _ :: _, h => by
    simp only [noRefs, Bool.and_eq_true] at h ⊢
    exact ⟨noRef_le l h.1, noRefs_le l h.2⟩
end
theorem obOk_le {n m : Nat} {o : Ob} (l : n ≤ m) (h : obOk n o = true) : obOk m o = true := by
  cases o with
  | lst xs => exact noRefs_le l h
  | obj C fs => exact noRefs_le l (show noRefs n (fs.map (·.2)) = true from h)
  | dct kvs => exact noRefs_le l (show noRefs n (kvs.map (·.2)) = true from h)
  | dcl kvs => exact noRefs_le l (show noRefs n (kvs.map (·.2)) = true from h)
  | dtt kvs => exact noRefs_le l (show noRefs n (kvs.map (·.2)) = true from h)
  | exc C fs => exact noRefs_le l (show noRefs n (fs.map (·.2)) = true from h)
  | tab tx => rfl
  | dnk kvs =>
    have h : (noRefs n (kvs.map fun kv => D.tup kv.1) && noRefs n (kvs.map (·.2))) = true := h
    rw [Bool.and_eq_true] at h
    show (noRefs m (kvs.map fun kv => D.tup kv.1) && noRefs m (kvs.map (·.2))) = true
    rw [noRefs_le l h.1, noRefs_le l h.2]
    rfl
def Clo (μ : Store) : Prop := ∀ o ∈ μ, obOk μ.length o = true
theorem Clo.nil : Clo [] := fun o h => by simp at h
theorem PureS.clo {μ : Store} (h : PureS μ) : Clo μ := fun o ho => obOk_mono (h o ho)
theorem Clo.set {μ : Store} (h : Clo μ) {i : Nat} {o : Ob} (ho : obOk μ.length o = true) : Clo (μ.set i o) := fun u hu => by
  rw [List.length_set]
  rcases List.mem_or_eq_of_mem_set hu with z | z
  · exact h u z
  · rw [z]; exact ho
theorem Clo.app {μ : Store} (h : Clo μ) {o : Ob} (ho : obOk (μ.length + 1) o = true) : Clo (μ ++ [o]) := fun u hu => by
  rw [List.length_append, List.length_singleton]
  rcases List.mem_append.mp hu with z | z
  · exact obOk_le (Nat.le_succ _) (h u z)
  · rw [List.mem_singleton.mp z]; exact ho
theorem Clo.at {μ : Store} (h : Clo μ) {i : Nat} {o : Ob} (e : μ[i]? = some o) : obOk μ.length o = true := h o (List.mem_of_getElem? e)
theorem clo_of {μ : Store} (h : ∀ (i : Nat) o, μ[i]? = some o → obOk μ.length o = true) : Clo μ := fun o ho => by
  obtain ⟨i, e⟩ := List.getElem?_of_mem ho
  exact h i o e
theorem Clo.fr {μ ν : Store} {p : Nat} (h : Clo μ) (f : Fr p μ ν) (ho : ∀ o, ν[p]? = some o → obOk ν.length o = true) : Clo ν := clo_of fun i o e => by
  by_cases z : i = p
  · subst z; exact ho o e
  · rw [f.eq i z] at e
    rw [f.len]
    exact h.at e
theorem Clo.all {μ : Store} (h : Clo μ) : μ.all (obOk μ.length) = true := List.all_eq_true.mpr h
theorem Pool.app {p : Nat} {c : Int} {μ : Store} {o : Ob} (h : Pool p c μ) : Pool p c (μ ++ [o]) := by
  obtain ⟨a, b, c0, e, q⟩ := h
  exact ⟨a, b, c0, by rw [List.getElem?_append_left (List.getElem?_eq_some_iff.mp e).1]; exact e, q⟩
theorem Pool.lt {p : Nat} {c : Int} {μ : Store} (h : Pool p c μ) : p < μ.length := by
  obtain ⟨a, b, c0, e, q⟩ := h
  exact (List.getElem?_eq_some_iff.mp e).1
theorem Pool.ob {p : Nat} {c : Int} {μ : Store} (h : Pool p c μ) (n : Nat) : ∀ o, μ[p]? = some o → obOk n o = true := by
  obtain ⟨a, b, c0, e, q⟩ := h
  intro o e'
  rw [e] at e'
  cases e'
  rfl
theorem Pool.mono {p : Nat} {c c' : Int} {μ : Store} (h : Pool p c μ) (l : c ≤ c') : Pool p c' μ := by
  obtain ⟨a, b, c0, e, q1, q2, q3, q4, q5⟩ := h
  exact ⟨a, b, c0, e, q1, q2, q3, q4, by omega⟩
theorem Pool.of {p : Nat} {c : Int} {μ ν : Store} (h : Pool p c μ) (e : ν[p]? = μ[p]?) : Pool p c ν := by
  obtain ⟨a, b, c0, e', q⟩ := h
  exact ⟨a, b, c0, e.trans e', q⟩
/-- the store as a law's own helpers find it -/
structure Wc (p : Nat) (c : Int) (μ : Store) : Prop where
  pool : Pool p c μ
  clo : Clo μ
theorem Wd.c {p : Nat} {c : Int} {μ : Store} (h : Wd p c μ) : Wc p c μ := ⟨h.pool, h.pure.clo⟩
theorem Wc.mono {p : Nat} {c c' : Int} {μ : Store} (h : Wc p c μ) (l : c ≤ c') : Wc p c' μ := ⟨h.pool.mono l, h.clo⟩
/-- of the cells of μ0 the pool alone has changed -/
structure Wz (μ0 : Store) (p : Nat) (c : Int) (μ : Store) : Prop where
  wd : Wc p c μ
  fr : Fr p μ0 μ
theorem Wc.z {p : Nat} {c : Int} {μ : Store} (h : Wc p c μ) : Wz μ p c μ := ⟨h, Fr.refl _ _⟩
theorem Wz.mono {μ0 μ : Store} {p : Nat} {c c' : Int} (h : Wz μ0 p c μ) (l : c ≤ c') : Wz μ0 p c' μ := ⟨h.wd.mono l, h.fr⟩
theorem Wz.from {μ0 μ1 μ : Store} {p : Nat} {c c1 : Int} (a : Wz μ0 p c1 μ1) (b : Wz μ1 p c μ) : Wz μ0 p c μ := ⟨b.wd, a.fr.trans b.fr⟩
local macro_rules | `(tactic| walk_at "q") => `(tactic| simp only [q_ok, q_okR, q_if, q_C, q_ret, q_var, q_at, q_e1, q_e2, q_call, q_callB, q_nil, q_cons, q_tup, q_lst, q_cel, q_ifexp, q_blAt, q_bOf, q_bTru, q_bAnd, q_bOr, q_bNot, q_vAnd, q_vOr, q_vNot, q_chain, q_pureS, at0, at1, at2, q_iseq, q_seqL, q_seqF, q_rg1, q_rg2, q_itup, q_tupAt,
  f_add, f_sub, f_mul, f_div, f_mod, f_pow, f_neg, f_cmp, f_abs, f_intI, f_intB, f_max, f_min, f_lenL, f_lenF, f_lenT, f_ixL, f_ixF, f_ixT, f_eqI, f_neI, f_eqB, f_neB, f_isB, f_isnotB, f_truB, f_truI, f_repr0, startR, List.map_cons, List.map_nil, List.length_cons, List.length_nil, List.cons_append, List.nil_append, List.append_nil, List.getElem?_cons_zero, List.getElem?_cons_succ, List.set_cons_zero, List.set_cons_succ, List.replicate_succ, List.replicate_zero, Nat.reduceAdd, Nat.reduceSub])
theorem atI_in {α : Type} {xs : List α} {r : Int} (r0 : 0 ≤ r) (r1 : r < xs.length) : ∃ y, atI xs r = some y ∧ y ∈ xs := by
  have hr : r.toNat < xs.length := by omega
  refine ⟨xs[r.toNat], ?_, List.getElem_mem hr⟩
  unfold atI ixN
  rw [if_pos r0, if_pos r1]
  exact List.getElem?_eq_getElem hr
section
variable {F : FD} (hF : DrawP F) {μ0 μ : Store} {p : Nat} {c : Int}
include hF
theorem DrawP.z {n : Int} (h : Wz μ0 p c μ) (hc : c < 2 ^ 20) (h0 : 0 < n) (h1 : n < 2 ^ 200) : Ok (F [.ref p, .int n] μ) (fun d μ' => ∃ r, d = .int r ∧ 0 ≤ r ∧ r < n ∧ Wz μ0 p (c + 1) μ') :=
  (hF h.wd.pool hc h0 h1).mono fun _ _ ⟨r, a, b, e, w, x, y, z, e'⟩ => ⟨r, a, b, e, ⟨w, by rw [e']; exact h.wd.clo.set rfl⟩, by rw [e']; exact h.fr.trans Fr.set⟩
theorem DrawP.pick {xs : List D} (h : Wz μ0 p c μ) (hc : c < 2 ^ 20) (h0 : 0 < xs.length) (h1 : xs.length < 2 ^ 30) : Ok (pickF F [.ref p, .lst xs] μ) (fun d μ' => d ∈ xs ∧ Wz μ0 p (c + 1) μ') := by
  refine q_fn rfl ?_
  refine q_sret ?_
  walk_at "q"
  refine (hF.z h hc (n := xs.length) (by omega) (by omega)).mono ?_
  rintro d μ' ⟨r, rfl, r0, r1, x⟩
  simp only [f_ixL]
  obtain ⟨y, e, hm⟩ := atI_in r0 r1
  rw [e, q_pureS]
  exact ⟨hm, x⟩
theorem DrawP.pickT {xs : List D} (h : Wz μ0 p c μ) (hc : c < 2 ^ 20) (h0 : 0 < xs.length) (h1 : xs.length < 2 ^ 30) : Ok (pickF F [.ref p, .tup xs] μ) (fun d μ' => d ∈ xs ∧ Wz μ0 p (c + 1) μ') := by
  refine q_fn rfl ?_
  refine q_sret ?_
  walk_at "q"
  refine (hF.z h hc (n := xs.length) (by omega) (by omega)).mono ?_
  rintro d μ' ⟨r, rfl, r0, r1, x⟩
  simp only [f_ixT]
  obtain ⟨y, e, hm⟩ := atI_in r0 r1
  rw [e, q_pureS]
  exact ⟨hm, x⟩
end
/-! ### running: objects, stars, dicts -/
def objAt (μ : Store) (o : D) (k : Nat → Str → List (Str × D) → Prop) : Prop := match o with
  | .ref i => match μ[i]? with
    | some (.obj C fs) => k i C fs
    | _ => False
  | _ => False
def lookF {α : Type} (tb : List (Str × α)) (C : Str) (k : α → Prop) : Prop := match tb.lookup C with
  | some F => k F
  | none => False
theorem lookF_hit {α : Type} {C : Str} {F : α} {tb : List (Str × α)} {k : α → Prop} : lookF ((C, F) :: tb) C k = k F := by simp [lookF]
section
variable {ρ : Rho} {μ : Store} {Q : D → Store → Prop} {Qf : Fl → Store → Prop} {A O E I : CM D} {As Bs : CM (List D)} {R : List D → Store → Prop}
theorem q_pr {tb : List (Str × FD)} : Ok (ePr tb O ρ μ) Q = Ok (O ρ μ) (fun o μ1 => objAt μ1 o (fun i C _ => lookF tb C (fun F => Ok (F [.ref i] μ1) Q))) := by
  unfold ePr
  rw [Ok_bind]
  congr 1
  funext o μ1
  cases o with
  | ref i =>
    simp only [objAt]
    cases μ1[i]? with
    | none => rfl
    | some ob =>
      cases ob with
      | obj C fs =>
        simp only [lookF]
        cases tb.lookup C <;> rfl
      | _ => rfl
  | _ => rfl
theorem q_mtE {tb : List (Str × FD)} {m : Str} : Ok (eMt tb m O As ρ μ) Q = Ok (O ρ μ) (fun o μ1 => objAt μ1 o (fun i C fs => (fs.lookup m).isNone = true ∧ lookF tb C (fun F => Ok (As ρ μ1) (fun ds μ2 => Ok (F (.ref i :: ds) μ2) Q)))) := by
  unfold eMt
  rw [Ok_bind]
  congr 1
  funext o μ1
  cases o with
  | ref i =>
    simp only [objAt]
    cases μ1[i]? with
    | none => rfl
    | some ob =>
      cases ob with
      | obj C fs =>
        simp only [q_if, lookF]
        congr 1
        cases tb.lookup C with
        | none => rfl
        | some F => exact Ok_bind
      | _ => rfl
  | _ => rfl
theorem q_mtV {tb : List (Str × FV)} {m : Str} : Ok (eMtV tb m O As Bs ρ μ) Q = Ok (O ρ μ) (fun o μ1 => objAt μ1 o (fun i C fs => (fs.lookup m).isNone = true ∧ lookF tb C (fun F => Ok (As ρ μ1) (fun ds μ2 => Ok (Bs ρ μ2) (fun es μ3 => Ok (F (.ref i :: ds) es μ3) Q))))) := by
  unfold eMtV
  rw [Ok_bind]
  congr 1
  funext o μ1
  cases o with
  | ref i =>
    simp only [objAt]
    cases μ1[i]? with
    | none => rfl
    | some ob =>
      cases ob with
      | obj C fs =>
        simp only [q_if, lookF]
        congr 1
        cases tb.lookup C with
        | none => rfl
        | some F => rw [Ok_bind]; simp only [Ok_bind]
      | _ => rfl
  | _ => rfl
theorem q_lone : Ok (aLone E ρ μ) R = Ok (E ρ μ) (fun d μ1 => starAt (itemsD μ1 d) (fun xs => R xs μ1)) := by
  unfold aLone
  rw [Ok_bind]
  congr 1
  funext d μ1
  cases itemsD μ1 d <;> rfl
theorem q_gV {n nk : Nat} {idx : List Nat} {F : FD} {ds es : List D} : Ok (gV n nk idx F ds es μ) Q = ((ds.length = n ∧ es.length = nk) ∧ Ok (F (pick idx (ds ++ es)) μ) Q) := by unfold gV; rw [q_if]
theorem q_fnV {np nk : Nat} {idx : List Nat} {F : FD} {ds es : List D} : Ok (fnV np nk idx F ds es μ) Q = (((np ≤ ds.length ∧ ds.length ≤ sizeLine) ∧ es.length = nk) ∧ Ok (F (ds.take np ++ (pick idx es ++ [.tup (ds.drop np)])) μ) Q) := by unfold fnV; rw [q_if]
theorem q_mkO {C : Str} {F : FD} {ds : List D} : Ok (mkO C F ds μ) Q = Ok (F (.ref μ.length :: ds) (μ ++ [.obj C []])) (fun d μ2 => d = .non ∧ Q (.ref μ.length) μ2) := by
  unfold mkO
  generalize F (.ref μ.length :: ds) (μ ++ [.obj C []]) = r
  match r with
  | none => rfl
  | some (.error x, μ') => rfl
  | some (.ok d, μ') =>
    cases d with
    | non => simp [Ok]
    | _ => simp [Ok]
theorem q_mkV {C : Str} {F : FV} : Ok (eMkV C F As Bs ρ μ) Q = Ok (As ρ μ) (fun ds μ1 => Ok (Bs ρ μ1) (fun es μ2 => Ok (F (.ref μ2.length :: ds) es (μ2 ++ [.obj C []])) (fun d μ3 => d = .non ∧ Q (.ref μ2.length) μ3))) := by
  unfold eMkV
  rw [Ok_bind]
  simp only [Ok_bind]
  unfold mkV
  simp only [q_mkO]
theorem q_mkS {C : Str} {F : FV} : Ok (eMkS C F E Bs ρ μ) Q = Ok (E ρ μ) (fun d μ1 => Ok (Bs ρ μ1) (fun es μ2 => starAt (itemsD μ2 d) (fun ds => Ok (F (.ref μ2.length :: ds) es (μ2 ++ [.obj C []])) (fun d μ3 => d = .non ∧ Q (.ref μ2.length) μ3)))) := by
  unfold eMkS
  rw [Ok_bind]
  simp only [Ok_bind]
  congr 1
  funext d μ1
  congr 1
  funext es μ2
  cases itemsD μ2 d with
  | none => rfl
  | some ds =>
    simp only [starAt]
    unfold mkV
    rw [q_mkO]
theorem f_itL {xs : List D} : itemsD μ (.lst xs) = some xs := rfl
/-- d[k] = v -/
def dputAt (μ : Store) (o i v : D) (k : Store → Prop) : Prop := match FdPut o i v μ with
  | some μ' => k μ'
  | none => False
theorem q_tDSubG {v : D} (h : Ok (O ρ μ) (fun o μ1 => Ok (I ρ μ1) (fun i μ2 => dputAt μ2 o i v (fun μ3 => Qf (.nx ρ) μ3)))) : OkS (tDSub O I v ρ μ) Qf := by
  unfold tDSub
  refine OkS_lft (h.mono fun o μ1 h => OkS_lft (h.mono fun i μ2 h => ?_))
  unfold dputAt at h
  generalize FdPut o i v μ2 = r at h ⊢
  cases r with
  | none => exact h
  | some μ3 => exact h
/-- for x in d -/
def unlkQ (c : Nat) (Qf : Fl → Store → Prop) : Fl → Store → Prop := fun f μ => match f with
  | .ex _ _ => False
  | f => ∃ kvs, μ[c]? = some (.dcl kvs) ∧ Qf f (μ.set c (.dct kvs))
/-- a try that runs through -/
def noExQ (Qf : Fl → Store → Prop) : Fl → Store → Prop := fun f μ => match f with
  | .ex _ _ => False
  | f => Qf f μ
theorem q_noEx {S : SF} (h : OkS (S ρ μ) (noExQ Qf)) : OkS (noExS S ρ μ) Qf := by
  unfold noExS
  generalize S ρ μ = r at h ⊢
  match r, h with
  | some (.nx _, _), h => exact h
  | some (.rt _, _), h => exact h
  | some (.bk _, _), h => exact h
  | some (.ct _, _), h => exact h
theorem q_noExN {ρ' : Rho} : noExQ Qf (.nx ρ') μ = Qf (.nx ρ') μ := rfl
theorem q_asg2 {F G : D → SF} (h : Ok (E ρ μ) (fun d μ1 => OkS (F d ρ μ1) (onlyN (contS (tgOnly (G d)) Qf)))) : OkS (sAsg2 E F G ρ μ) Qf := by
  unfold sAsg2
  refine OkS_lft (h.mono fun d μ1 h => ?_)
  rw [q_seq]
  unfold tgOnly
  generalize F d ρ μ1 = r at h ⊢
  match r, h with
  | some (.nx ρ', μ'), h => exact h
theorem q_tStar {G : List D → SF} {x : D} {xs : List D} : OkS (tStar G (.tup (x :: xs)) ρ μ) Qf = OkS (G [x, .lst xs] ρ μ) Qf := rfl
def seqP (o : Option (List D × (Store → Bool))) (k : List D → (Store → Bool) → Prop) : Prop := match o with
  | some (xs, g) => k xs g
  | none => False
theorem q_enum {Qi : IV → Store → Prop} : Ok (iEnum (aCons A aNil) ρ μ) Qi = Ok (A ρ μ) (fun d μ1 => seqP (seqD μ1 d) (fun xs g => Qi (enumD xs, g) μ1)) := by
  unfold iEnum
  rw [Ok_bind, q_cons]
  simp only [q_nil]
  congr 1
  funext d μ1
  cases seqD μ1 d with
  | none => rfl
  | some z => rfl
theorem q_join {Q : D → Store → Prop} {a : Str} : Ok (eJoin (eC (.str a)) I ρ μ) Q = Ok (I ρ μ) (fun d μ1 => Ok (joinF (.str a) d μ1) Q) := by
  unfold eJoin
  rw [Ok_bind, q_C]
  rw [if_pos (show isStrD (D.str a) = true from rfl), Ok_bind]
end
end DM

namespace DM
open PySem PySem.Spec L2
/-! ### comprehensions in closed stores -/
section
variable {α : Type} {ρ : Rho} {μ : Store} {Q : D → Store → Prop} {T : CM Bool}
end
/-! ### dicts with text keys -/
def kvS (l : List (Str × D)) : List (Key × D) := l.map fun q => (.inr q.1, q.2)
end DM

namespace DM
open PySem PySem.Spec L2
/-! ### x < y of data that are alike -/
def isNonP : PyData → Bool
  | .none => true
  | _ => false
def ltOk (p q : PyData) : Bool := SeqAt.shaped p && (SeqAt.shaped q && (PySem.W.alike p q && !isNonP p))
def FltD (d e : D) (μ : Store) : Res D := match toPyS μ d, toPyS μ e with
  | some p, some q => if ltOk p q = true then okR (.bl (PySem.W.dataLt p q)) μ else none
  | _, _ => none
def rLtD (K : PySem.W.Frag) : L2.R2 := fun x y H Q => ∃ d e, Dp K H x d ∧ Dp K H y e ∧ ltOk d e = true ∧ Q (.bl (PySem.W.dataLt d e)) H
section
variable {X : Cx} {W : DW} {a b : Expr} {A B : CM D} {pos : Pos} {k : Nat}
end
end DM

namespace DM
open PySem PySem.Spec L2 HandSHeadRun PySem.W PySem.Calls PyProof.Rows
/-! ### the run of the head, looked at piece by piece -/
noncomputable abbrev endX (r : PySem.W.OpenRow) (M : Nat) (w : World) (os : OsState) : Option PySem.W.SharedT := HandSHeadRun.endF (HandSHeadRun.stepQ (HandSHeadRun.denQ HandSHeadRun.tabQ) r.prog w) M r.prog w os
abbrev fragX (n : Nat) (s : PySem.W.SharedT) : PySem.W.Frag := He.frG (HandSHeadRun.getT s) (He.asD (HandSHeadRun.getT s) n)
end DM

namespace DM
open PySem PySem.Spec L2 HandSHeadRun PySem.W PySem.Calls PyProof.Rows
/-! ### the look at the head, at given addresses -/
abbrev fragL (as : List Addr) (s : PySem.W.SharedT) : PySem.W.Frag := He.frG (HandSHeadRun.getT s) as
def obsLG (as : List Addr) (fa : List He.Fa) (fn : List He.DefD) (cs : List (Str × D)) (xf : List (PySem.W.Frag → Bool)) (xs : List DefX) (g : Addr → Option Obj) : AlX := obsX fa fn cs xf xs (He.frG g as)
def hookL (as : List Addr) (fa : List He.Fa) (fn : List He.DefD) (cs : List (Str × D)) (xf : List (PySem.W.Frag → Bool)) (xs : List DefX) : PySem.W.Hook where
  α := AlX
  obs := fun s => obsLG as fa fn cs xf xs s.heap.get?
  val := fun _ => (true, valX xs, He.valD fn)
  says := fun _ h => ∃ K : PySem.W.Frag, K.In h ∧ SaysX fa fn cs xf xs K
  of := fun _ _ e => ⟨_, He.frG_in, congrArg (fun z : AlX => z.2.2) e, congrArg Prod.fst e, congrArg (fun z : AlX => z.2.1) e⟩
  keeps := fun _ _ _ ⟨K, hK, c⟩ k => ⟨K, PySem.W.Frag.In.keeps hK k, c⟩
end DM

namespace DM
open PySem PySem.Spec L2
open PyProof.Rows (envOfC)
/-! ### keyword-only parameters that a call leaves out -/
def dfV (md : List D) (F : FV) : FV := fun ds es μ => F ds (es ++ md) μ
/-- what the def at f holds as defaults of the names ms -/
def kwcV (K : PySem.W.Frag) (ms : List (Str × D)) : Value → Bool
  | .ref D => ms.all fun q => (match PySem.W.nsIn K D q.1 with
    | some (some u) => conV K q.2 u
    | _ => false)
  | _ => false
def kwcA (f : Addr) (ms : List (Str × D)) (K : PySem.W.Frag) : Bool := match K.lookup f with
  | some ⟨_, _, .func fd, _⟩ => kwcV K ms fd.kwdefaults
  | _ => false
section
variable {P : Program} {w : World} {K : PySem.W.Frag} {mg : Str → Option Value} {base : Heap} {x qual : Str} {pa : Arguments} {body : List Stmt} {sc : Scope} {kws : List (Str × V)} {f : Addr} {fd : FuncData} {ms : List (Str × D)}
/-- t looks the names up in the dict at D, one behind another, and goes on as r -/
def KwTo {α : Type} (D : Addr) : List (Str × Value) → Sem α → Sem α → Prop
  | [], t, r => t = r
  | q :: l, t, r => ∃ (β γ : Type) (k1 : Option Value → Sem β) (k2 : β → Sem γ) (k3 : γ → Sem α) (a : β), t = ((nsGet D q.1 >>= k1) >>= k2) >>= k3 ∧ k1 (some q.2) = pure a ∧ KwTo D l (k2 a >>= k3) r
theorem KwTo.wp {α : Type} {M : Model} {A : Around} {D : Addr} {Q : α → Shared → Prop} {E : Value → Shared → Prop} {s : Shared} (X : K.In s.heap) : ∀ {l : List (Str × Value)} {t r : Sem α}, (∀ q ∈ l, PySem.W.nsIn K D q.1 = some (some q.2)) → KwTo D l t r → wpAny M A r Q E s → wpAny M A t Q E s
  | [], t, r, _, e, h => by rw [show t = r from e]; exact h
  | q :: l, t, r, hl, e, h => by
    obtain ⟨β, γ, k1, k2, k3, a, e1, e2, e3⟩ := e
    have l1 : PySem.W.Looks M s.heap (nsGet D q.1 >>= k1) a := (PySem.W.looks_nsIn X (hl q (List.mem_cons_self ..))).andThen (PySem.W.Looks.of_pure e2)
    rw [e1, bind_assoc]
    exact wpAny_bind (l1 A _ E s (fun _ _ z => z) (KwTo.wp X (fun p hp => hl p (List.mem_cons_of_mem _ hp)) e3 h))
theorem Env0.kin {A : Around} {outer : List Env} {s : Shared} {H : Hp} (e : Env0 P w K mg base A outer s H) : K.In s.heap := fun a o h => (e.bs a o (e.mod.kin a o h)).1
end
section
variable {μ : Store} {Q : D → Store → Prop}
end
end DM

namespace DM
open PySem PySem.Spec L2
/-! ### a, b = a list -/
def fLst (is : List Nat) : D → Rho → Option Rho := fun d ρ => match d with
  | .lst ds => setAll is ds ρ
  | _ => none
def sUnpL (is : List Nat) (E : CM D) : SF := lft E fun d ρ μ => match fLst is d ρ with
  | some ρ' => some (.nx ρ', μ)
  | none => none
section
variable {ρ : Rho} {μ : Store} {A : CM D} {Qf : Fl → Store → Prop}
end
end DM

/-! sleeping generators are left alone by what runs where they are poisoned -/
namespace GP
open PySem
open Sem (wp)
def badK : Resume → Sem PySem.Fin := fun _ => .unsupported "poison"
def poison : GenState → GenState
  | .suspended _ l c p fs cl => .suspended badK l c p fs cl
  | x => x
def isSusp : GenState → Bool
  | .suspended .. => true
  | _ => false
def retOnly (fs : List Frame) : Prop := ∀ f ∈ fs, ∀ g k l c p, f ≠ .gen g k l c p
def genOk : GenState → Prop
  | .suspended _ _ _ _ fs _ => retOnly fs
  | _ => True
def endOk : End → Prop
  | .ret _ => True
  | .susp _ _ _ _ _ _ fs => retOnly fs
theorem retOnly_nil : retOnly [] := fun f h => by simp at h
theorem retOnly_split : ∀ {fs : List Frame}, retOnly fs → splitAtGen fs = none
  | [], _ => rfl
  | .ret k h g l c p kp :: fs, q => by
    have := retOnly_split (fs := fs) fun f hf => q f (List.mem_cons_of_mem _ hf)
    simp [splitAtGen, this]
  | .gen g k l c p :: fs, q => absurd rfl (q _ List.mem_cons_self g k l c p)
theorem seen_poison (x : GenState) : (poison x).seen = x.seen := by cases x <;> rfl
theorem genState_ok {e : End} (h : endOk e) : genOk e.genState := by
  cases e with
  | ret _ => trivial
  | susp v g l k c p fs => exact h
structure GRel (g0 gp gr : Array GenState) : Prop where
  sz : gp.size = gr.size
  le : g0.size ≤ gr.size
  at_ : ∀ (i : Nat) x, gr[i]? = some x → (isSusp x = true ∧ g0[i]? = some x ∧ gp[i]? = some (poison x)) ∨ (gp[i]? = some x ∧ genOk x ∧ ∀ y, g0[i]? = some y → isSusp y = false)
structure SR (g0 : Array GenState) (sp sr : Shared) : Prop where
  heap : sp.heap = sr.heap
  drawn : sp.drawn = sr.drawn
  toks : sp.toks = sr.toks
  os : sp.os = sr.os
  gens : GRel g0 sp.gens sr.gens
section
variable {g0 gp gr : Array GenState} {sp sr : Shared}
theorem GRel.real (h : GRel g0 gp gr) {i : Nat} {x : GenState} (e : gp[i]? = some x) : ∃ y, gr[i]? = some y := by
  have hi : i < gp.size := (Array.getElem?_eq_some_iff.mp e).1
  exact ⟨gr[i]'(h.sz ▸ hi), Array.getElem?_eq_getElem _⟩
theorem GRel.push (h : GRel g0 gp gr) {x : GenState} (hx : genOk x) : GRel g0 (gp.push x) (gr.push x) := by
  refine ⟨by simp [h.sz], by simp; have := h.le; omega, fun i y e => ?_⟩
  by_cases hi : i < gr.size
  · rw [Array.getElem?_push_lt hi] at e
    rw [Array.getElem?_push_lt (by rw [h.sz]; exact hi)]
    have e' : gr[i]? = some y := by rw [Array.getElem?_eq_getElem hi]; exact e
    have := h.at_ i y e'
    rw [Array.getElem?_eq_getElem (show i < gp.size by rw [h.sz]; exact hi)] at this
    exact this
  · have hi2 : i = gr.size := by
      have := (Array.getElem?_eq_some_iff.mp e).1
      simp at this
      omega
    subst hi2
    rw [Array.getElem?_push_size] at e
    cases e
    refine .inr ⟨by rw [← h.sz, Array.getElem?_push_size], hx, fun z ez => ?_⟩
    have := (Array.getElem?_eq_some_iff.mp ez).1
    have := h.le
    omega
theorem GRel.set (h : GRel g0 gp gr) {g : Nat} {x : GenState} (hx : genOk x) (hn : ∀ y, g0[g]? = some y → isSusp y = false) : GRel g0 (gp.setIfInBounds g x) (gr.setIfInBounds g x) := by
  refine ⟨by simp [h.sz], by simpa using h.le, fun i y e => ?_⟩
  rw [Array.getElem?_setIfInBounds] at e ⊢
  by_cases hg : g = i
  · subst hg
    rw [if_pos rfl] at e ⊢
    by_cases hl : g < gr.size
    · rw [if_pos hl] at e
      rw [if_pos (by rw [h.sz]; exact hl)]
      cases e
      exact .inr ⟨rfl, hx, hn⟩
    · rw [if_neg hl] at e
      cases e
  · rw [if_neg hg] at e ⊢
    exact h.at_ i y e
/-- what the poisoned one shows of a generator that is no sleeper of before -/
theorem GRel.same (h : GRel g0 gp gr) {i : Nat} {x : GenState} (e : gp[i]? = some x) (hx : ∀ l c p fs cl, x ≠ .suspended badK l c p fs cl) : gr[i]? = some x ∧ genOk x ∧ ∀ y, g0[i]? = some y → isSusp y = false := by
  obtain ⟨y, ey⟩ := h.real e
  rcases h.at_ i y ey with ⟨hs, _, h2⟩ | ⟨h1, h2, h3⟩
  · rw [e] at h2
    cases y with
    | suspended k l c p fs cl =>
      exact absurd (Option.some.inj h2) (hx l c p fs cl)
    | _ => simp [isSusp] at hs
  · rw [e] at h1
    cases h1
    exact ⟨ey, h2, h3⟩
theorem GRel.seen (h : GRel g0 gp gr) {i : Nat} {x : GenState} (e : gp[i]? = some x) : ∃ y, gr[i]? = some y ∧ y.seen = x.seen := by
  obtain ⟨y, ey⟩ := h.real e
  refine ⟨y, ey, ?_⟩
  rcases h.at_ i y ey with ⟨_, _, h2⟩ | ⟨h1, _, _⟩
  · rw [e] at h2
    rw [Option.some.inj h2, seen_poison]
  · rw [e] at h1
    rw [Option.some.inj h1]
theorem SR.setGen (h : SR g0 sp sr) {g : Nat} {x : GenState} (hx : genOk x) (hn : ∀ y, g0[g]? = some y → isSusp y = false) : SR g0 (sp.setGen g x) (sr.setGen g x) := ⟨h.heap, h.drawn, h.toks, h.os, h.gens.set hx hn⟩
end
theorem bad_no {M : Model} {Γ : Ctx} {p : Pos} {r : Resume} {fs : List Frame} {s s' : Shared} {e : End} (h : Runs M Γ p (badK r) fs s e s') : False := by
  generalize ht : badK r = t at h
  unfold badK at ht
  induction h <;> (try cases ht) <;> simp_all
/-- the same run where the sleepers are whole -/
theorem runs_real {M : Model} {g0 : Array GenState} {Γ : Ctx} {p : Pos} {t : Sem PySem.Fin} {fs : List Frame} {sp sp' : Shared} {e : End} (h : Runs M Γ p t fs sp e sp') : ∀ sr, SR g0 sp sr → retOnly fs → ∃ sr', Runs M Γ p t fs sr e sr' ∧ SR g0 sp' sr' ∧ endOk e := by
  induction h with
  | done => exact fun sr q _ => ⟨sr, .done, q, trivial⟩
  | raise => exact fun sr q _ => ⟨sr, .raise, q, trivial⟩
  | again hc _ ih => exact fun sr q r => let ⟨sr', a, b, c⟩ := ih sr q r; ⟨sr', .again hc a, b, c⟩
  | rule _ ih => exact fun sr q r => let ⟨sr', a, b, c⟩ := ih sr q r; ⟨sr', .rule a, b, c⟩
  | «at» _ ih => exact fun sr q r => let ⟨sr', a, b, c⟩ := ih sr q r; ⟨sr', .at a, b, c⟩
  | load ho _ ih => exact fun sr q r => let ⟨sr', a, b, c⟩ := ih sr q r; ⟨sr', .load (q.heap ▸ ho) a, b, c⟩
  | update ho _ ih => exact fun sr q r => let ⟨sr', a, b, c⟩ := ih { sr with heap := sr.heap.update _ _ } ⟨by rw [← q.heap], q.drawn, q.toks, q.os, q.gens⟩ r; ⟨sr', .update (q.heap ▸ ho) a, b, c⟩
  | loadIfAlive _ ih => exact fun sr q r => let ⟨sr', a, b, c⟩ := ih sr q r; ⟨sr', .loadIfAlive (q.heap ▸ a), b, c⟩
  | point _ ih => exact fun sr q r => let ⟨sr', a, b, c⟩ := ih sr q r; ⟨sr', .point a, b, c⟩
  | alloc _ ih => exact fun sr q r => let ⟨sr', a, b, c⟩ := ih { sr with heap := sr.heap.push _ } ⟨congrArg (fun h => Heap.push h _) q.heap, q.drawn, q.toks, q.os, q.gens⟩ r; ⟨sr', .alloc (by rw [← q.heap]; rw [← q.heap] at a; exact a), b, c⟩
  | fresh _ ih => exact fun sr q r => let ⟨sr', a, b, c⟩ := ih { sr with toks := sr.toks + 1 } ⟨q.heap, q.drawn, by rw [← q.toks], q.os, q.gens⟩ r; ⟨sr', .fresh (by rw [← q.toks]; rw [← q.toks] at a; exact a), b, c⟩
  | ask _ ih => exact fun sr q r => let ⟨sr', a, b, c⟩ := ih sr q r; ⟨sr', .ask a, b, c⟩
  | choose hn h1 ih =>
    rename_i n Γ p k s e s' src
    intro sr q r
    obtain ⟨sr', a, b, c⟩ := ih { sr with drawn := sr.drawn.bump src } ⟨q.heap, by show s.drawn.bump src = sr.drawn.bump src; rw [q.drawn], q.toks, q.os, q.gens⟩ r
    rw [q.drawn] at a
    exact ⟨sr', .choose hn a, b, c⟩
  | os h1 ih =>
    rename_i Γ p k s e s' o l
    intro sr q r
    obtain ⟨sr', a, b, c⟩ := ih { sr with os := (Os.step sr.os o).1 } ⟨q.heap, q.drawn, q.toks, by show (Os.step s.os o).1 = (Os.step sr.os o).1; rw [q.os], q.gens⟩ r
    rw [q.os] at a
    exact ⟨sr', .os a, b, c⟩
  | handled _ ih => exact fun sr q r => let ⟨sr', a, b, c⟩ := ih sr q r; ⟨sr', .handled a, b, c⟩
  | genState hs _ ih => exact fun sr q r => let ⟨sr', a, b, c⟩ := ih sr q r; let ⟨y, ey, es⟩ := q.gens.seen hs; ⟨sr', .genState ey (es ▸ a), b, c⟩
  | stack _ ih => exact fun sr q r => let ⟨sr', a, b, c⟩ := ih sr q r; ⟨sr', .stack a, b, c⟩
  | thread _ ih => exact fun sr q r => let ⟨sr', a, b, c⟩ := ih sr q r; ⟨sr', .thread a, b, c⟩
  | newGen _ ih => exact fun sr q r => let ⟨sr', a, b, c⟩ := ih { sr with gens := sr.gens.push _ } ⟨q.heap, q.drawn, q.toks, q.os, q.gens.push trivial⟩ r; ⟨sr', .newGen (by rw [← q.gens.sz]; exact a), b, c⟩
  | call _ _ ih1 ih2 =>
    intro sr q r
    obtain ⟨s1, a1, b1, _⟩ := ih1 sr q retOnly_nil
    obtain ⟨s2, a2, b2, c2⟩ := ih2 s1 b1 r
    exact ⟨s2, .call a1 a2, b2, c2⟩
  | callSusp _ ih1 =>
    intro sr q r
    obtain ⟨s1, a1, b1, c1⟩ := ih1 sr q retOnly_nil
    refine ⟨s1, .callSusp a1, b1, fun f hf => ?_⟩
    rcases List.mem_append.mp hf with hf | hf
    · exact c1 f hf
    · rw [List.mem_singleton.mp hf]
      exact fun _ _ _ _ _ z => by cases z
  | yield => exact fun sr q _ => ⟨sr, .yield, q, retOnly_nil⟩
  | resumeFresh hg _ hq _ ih1 ih2 =>
    intro sr q r
    obtain ⟨e1, _, e3⟩ := q.gens.same hg (fun _ _ _ _ _ z => by cases z)
    obtain ⟨s1, a1, b1, c1⟩ := ih1 _ (q.setGen (x := .running) trivial e3) retOnly_nil
    obtain ⟨s2, a2, b2, c2⟩ := ih2 _ (b1.setGen (genState_ok c1) e3) r
    exact ⟨s2, .resumeFresh e1 a1 hq a2, b2, c2⟩
  | resumeSuspended hg hrun hq _ ih1 ih2 =>
    intro sr q r
    obtain ⟨e1, e2, e3⟩ := q.gens.same hg (fun l c p fs cl z => by
      cases z
      exact bad_no hrun)
    obtain ⟨s1, a1, b1, c1⟩ := ih1 _ (q.setGen (x := .running) trivial e3) e2
    obtain ⟨s2, a2, b2, c2⟩ := ih2 _ (b1.setGen (genState_ok c1) e3) r
    exact ⟨s2, .resumeSuspended e1 a1 hq a2, b2, c2⟩
  | resumeJustStarted hg hv _ ih =>
    intro sr q r
    obtain ⟨e1, _, e3⟩ := q.gens.same hg (fun _ _ _ _ _ z => by cases z)
    obtain ⟨s1, a1, b1, c1⟩ := ih sr q r
    exact ⟨s1, .resumeJustStarted e1 hv a1, b1, c1⟩
  | resumeThrowFresh hg _ ih =>
    intro sr q r
    obtain ⟨e1, _, e3⟩ := q.gens.same hg (fun _ _ _ _ _ z => by cases z)
    obtain ⟨s1, a1, b1, c1⟩ := ih _ (q.setGen (x := .finished) trivial e3) r
    exact ⟨s1, .resumeThrowFresh e1 a1, b1, c1⟩
  | resumeRunning hg _ ih =>
    intro sr q r
    obtain ⟨e1, _, e3⟩ := q.gens.same hg (fun _ _ _ _ _ z => by cases z)
    obtain ⟨s1, a1, b1, c1⟩ := ih sr q r
    exact ⟨s1, .resumeRunning e1 a1, b1, c1⟩
  | resumeFinished hg _ ih =>
    intro sr q r
    obtain ⟨e1, _, e3⟩ := q.gens.same hg (fun _ _ _ _ _ z => by cases z)
    obtain ⟨s1, a1, b1, c1⟩ := ih sr q r
    exact ⟨s1, .resumeFinished e1 a1, b1, c1⟩
  | segRet _ _ ih1 ih2 =>
    intro sr q r
    obtain ⟨s1, a1, b1, _⟩ := ih1 sr q retOnly_nil
    obtain ⟨s2, a2, b2, c2⟩ := ih2 s1 b1 fun f hf => r f (List.mem_cons_of_mem _ hf)
    exact ⟨s2, .segRet a1 a2, b2, c2⟩
  | segGen _ _ ih1 ih2 => exact fun sr q r => absurd rfl (r _ List.mem_cons_self _ _ _ _ _)
  | segSuspOut hs _ ih1 =>
    intro sr q r
    obtain ⟨s1, a1, b1, c1⟩ := ih1 sr q retOnly_nil
    refine ⟨s1, .segSuspOut hs a1, b1, fun f hf => ?_⟩
    rcases List.mem_append.mp hf with hf | hf
    · exact c1 f hf
    · exact r f hf
  | segSuspGen hs _ hq _ ih1 ih2 =>
    intro sr q r
    rw [retOnly_split r] at hs
    cases hs
end GP

namespace GP
open PySem
open Sem (wp)
theorem unsup_no {M : Model} {Γ : Ctx} {p : Pos} {w : String} {fs : List Frame} {s s' : Shared} {e : End} (h : Runs M Γ p (.unsupported w) fs s e s') : False := by
  generalize ht : (Sem.unsupported w : Sem PySem.Fin) = t at h
  induction h <;> (try cases ht) <;> simp_all
open Classical in
theorem wakes_real {M : Model} {g0 : Array GenState} {Γ : Ctx} {p : Pos} {g : Nat} {r : Resume} {res : GenResult} {sp sp' sr : Shared} (h : Wakes M Γ p g r sp res sp') (q : SR g0 sp sr) : ∃ sr', Wakes M Γ p g r sr res sr' ∧ SR g0 sp' sr' := by
  have h1 : Runs M Γ p (.resume g r [] fun x => if x = res then (.pure (.done .next) : Sem PySem.Fin) else .unsupported "") [] sp (.ret (.ok .next)) sp' :=
    (Sem.runs_resume_iff M _).mpr ⟨res, sp', h, by rw [if_pos rfl]; exact .done⟩
  obtain ⟨sr', a, b, _⟩ := runs_real h1 sr q retOnly_nil
  obtain ⟨res', s1, w, hr⟩ := (Sem.runs_resume_iff M _).mp a
  by_cases e : res' = res
  · subst e
    rw [if_pos rfl] at hr
    have e2 : s1 = sr' := by cases hr; rfl
    subst e2
    exact ⟨s1, w, b⟩
  · rw [if_neg e] at hr
    exact (unsup_no hr).elim
theorem returns_real {M : Model} {g0 : Array GenState} {Γ : Ctx} {p : Pos} {r : Result} {sp sp' sr : Shared} (h : Returns M Γ p sp r sp') (q : SR g0 sp sr) : ∃ sr', Returns M Γ p sr r sr' ∧ SR g0 sp' sr' := by
  obtain ⟨sr', a, b, _⟩ := runs_real h sr q retOnly_nil
  exact ⟨sr', a, b⟩
theorem wp_real {M : Model} {g0 : Array GenState} {α : Type} {Γ : Ctx} (m : Sem α) : ∀ {Q : α → Pos → Shared → Prop} {E : Value → Pos → Shared → Prop} {p : Pos} {sp sr : Shared}, wp M Γ m Q E p sp → SR g0 sp sr →
    wp M Γ m (fun a p s => ∃ sp, SR g0 sp s ∧ Q a p sp) (fun a p s => ∃ sp, SR g0 sp s ∧ E a p sp) p sr := by
  induction m with
  | pure a => intro Q E p sp sr h q; exact ⟨sp, q, h⟩
  | raise x => intro Q E p sp sr h q; exact ⟨sp, q, h⟩
  | unsupported what => intro Q E p sp sr h; exact h.elim
  | finish x => intro Q E p sp sr h; exact h.elim
  | register a k => intro Q E p sp sr h; exact h.elim
  | yield v g l k => intro Q E p sp sr h; exact h.elim
  | fork c k => intro Q E p sp sr h; exact h.elim
  | await a f d l k => intro Q E p sp sr h; exact h.elim
  | rule tag k ih => intro Q E p sp sr h q; exact ih () h q
  | «at» p' k ih => intro Q E p sp sr h q; exact ih () h q
  | load a part k ih =>
    intro Q E p sp sr h q
    obtain ⟨o, ho, h⟩ := h
    exact ⟨o, q.heap ▸ ho, ih o h q⟩
  | update a part f k ih =>
    intro Q E p sp sr h q
    obtain ⟨ha, h⟩ := h
    exact ⟨q.heap ▸ ha, ih () h ⟨by show sp.heap.update a f = sr.heap.update a f; rw [q.heap], q.drawn, q.toks, q.os, q.gens⟩⟩
  | alloc o k ih =>
    intro Q E p sp sr h q
    have := ih sp.heap.objs.size h (sr := { sr with heap := sr.heap.push o }) ⟨by show sp.heap.push o = sr.heap.push o; rw [q.heap], q.drawn, q.toks, q.os, q.gens⟩
    show wp M Γ (k sr.heap.objs.size) _ _ p { sr with heap := sr.heap.push o }
    rw [← q.heap] at this ⊢
    exact this
  | loadIfAlive a k ih =>
    intro Q E p sp sr h q
    show wp M Γ (k (sr.heap.get? a)) _ _ p sr
    rw [← q.heap]
    exact ih _ h q
  | point l k ih => intro Q E p sp sr h q; exact ih () h q
  | fresh k ih =>
    intro Q E p sp sr h q
    have := ih sp.toks h (sr := { sr with toks := sr.toks + 1 }) ⟨q.heap, q.drawn, by show sp.toks + 1 = sr.toks + 1; rw [q.toks], q.os, q.gens⟩
    show wp M Γ (k sr.toks) _ _ p { sr with toks := sr.toks + 1 }
    rw [← q.toks] at this ⊢
    exact this
  | ask k ih => intro Q E p sp sr h q; exact ih _ h q
  | choose src n k ih =>
    intro Q E p sp sr h q
    obtain ⟨hn, h⟩ := h
    refine ⟨hn, ?_⟩
    have := ih _ h (sr := { sr with drawn := sr.drawn.bump src }) ⟨q.heap, by show sp.drawn.bump src = sr.drawn.bump src; rw [q.drawn], q.toks, q.os, q.gens⟩
    rw [← q.drawn] at this ⊢
    exact this
  | os o l k ih =>
    intro Q E p sp sr h q
    have := ih _ h (sr := { sr with os := (Os.step sr.os o).1 }) ⟨q.heap, q.drawn, q.toks, by show (Os.step sp.os o).1 = (Os.step sr.os o).1; rw [q.os], q.gens⟩
    show wp M Γ (k (Os.step sr.os o).2) _ _ p { sr with os := (Os.step sr.os o).1 }
    rw [← q.os] at this ⊢
    exact this
  | call c hh g l k ih =>
    intro Q E p sp sr h q
    obtain ⟨r, s1, hret, h⟩ := h
    obtain ⟨sr1, a, b⟩ := returns_real hret q
    exact ⟨r, sr1, a, ih r h b⟩
  | handled own k ih => intro Q E p sp sr h q; exact ih _ h q
  | newGen c k ih =>
    intro Q E p sp sr h q
    have := ih _ h (sr := { sr with gens := sr.gens.push (.fresh c) }) ⟨q.heap, q.drawn, q.toks, q.os, q.gens.push trivial⟩
    show wp M Γ (k sr.gens.size) _ _ p { sr with gens := sr.gens.push (.fresh c) }
    rw [← q.gens.sz]
    exact this
  | genState g k ih =>
    intro Q E p sp sr h q
    obtain ⟨st, hg, h⟩ := h
    obtain ⟨y, ey, es⟩ := q.gens.seen hg
    refine ⟨y, ey, ?_⟩
    rw [es]
    exact ih _ h q
  | resume g r l k ih =>
    intro Q E p sp sr h q
    obtain ⟨res, s1, hwk, h⟩ := h
    obtain ⟨sr1, a, b⟩ := wakes_real hwk q
    exact ⟨res, sr1, a, ih res h b⟩
  | stack k ih => intro Q E p sp sr h q; exact ih _ h q
  | thread k ih => intro Q E p sp sr h q; exact ih _ h q
/-- what runs where the sleepers are poisoned runs where they are whole, and leaves them alone -/
theorem wpAny_real {M : Model} {g0 : Array GenState} {α : Type} {A : Around} {m : Sem α} {Q : α → Shared → Prop} {E : Value → Shared → Prop} {sp sr : Shared} (h : wpAny M A m Q E sp) (q : SR g0 sp sr) : wpAny M A m (fun a s => ∃ sp, SR g0 sp s ∧ Q a sp) (fun a s => ∃ sp, SR g0 sp s ∧ E a sp) sr :=
  fun Γ p hΓ => wp_real m (h Γ p hΓ) q
def poisoned (s : Shared) : Shared := { s with gens := s.gens.map poison }
theorem SR.start (s : Shared) (h : ∀ x ∈ s.gens, isSusp x = false → genOk x) : SR s.gens (poisoned s) s := by
  refine ⟨rfl, rfl, rfl, rfl, ⟨by simp [poisoned], Nat.le_refl _, fun i x e => ?_⟩⟩
  have e2 : (poisoned s).gens[i]? = some (poison x) := by
    show (s.gens.map poison)[i]? = _
    rw [Array.getElem?_map, e]; rfl
  cases hx : isSusp x with
  | true => exact .inl ⟨rfl, e, e2⟩
  | false =>
    have ep : poison x = x := by cases x <;> first | rfl | cases hx
    rw [ep] at e2
    exact .inr ⟨e2, h x (Array.mem_of_getElem? e) hx, fun y ey => by rw [e] at ey; cases ey; exact hx⟩
theorem genOk_of {x : GenState} (h : isSusp x = false) : genOk x := by cases x <;> first | trivial | cases h
theorem SR.start' (s : Shared) : SR s.gens (poisoned s) s := SR.start s fun _ _ h => genOk_of h
/-- a sleeper is as it was -/
theorem SR.slept {g0 : Array GenState} {sp sr : Shared} (q : SR g0 sp sr) {g : Nat} {x : GenState} (e : g0[g]? = some x) (hx : isSusp x = true) : sr.gens[g]? = some x := by
  have hg : g < sr.gens.size := Nat.lt_of_lt_of_le (Array.getElem?_eq_some_iff.mp e).1 q.gens.le
  rcases q.gens.at_ g sr.gens[g] (Array.getElem?_eq_getElem hg) with ⟨_, h2, _⟩ | ⟨_, _, h3⟩
  · rw [Array.getElem?_eq_getElem hg, ← h2, e]
  · have := h3 x e
    rw [hx] at this; cases this
theorem poison_bare (x : GenState) : (poison x).bare = x.bare := by cases x <;> rfl
theorem poisoned_bare {s : Shared} (h : ∀ x ∈ s.gens, x.bare = true) : ∀ x ∈ (poisoned s).gens, x.bare = true := by
  intro x hx
  obtain ⟨y, hy, rfl⟩ := Array.mem_map.mp hx
  rw [poison_bare]
  exact h y hy
theorem SR.bare {g0 : Array GenState} {sp sr : Shared} (q : SR g0 sp sr) (h : ∀ x ∈ sp.gens, x.bare = true) : ∀ x ∈ sr.gens, x.bare = true := by
  intro x hx
  obtain ⟨i, hi, e⟩ := Array.mem_iff_getElem.mp hx
  have e' : sr.gens[i]? = some x := by rw [Array.getElem?_eq_getElem hi, e]
  rcases q.gens.at_ i x e' with ⟨_, _, h2⟩ | ⟨h1, _, _⟩
  · have := h _ (Array.mem_of_getElem? h2)
    rw [poison_bare] at this
    exact this
  · exact h _ (Array.mem_of_getElem? h1)
end GP

namespace GP
open PySem PySem.Spec L2 PyProof.Rows
/-! ### a loop over a generator's object -/
theorem inv_poison {X : Cx} {pins : List (Addr × Obj)} {σ : L2.St} {H : Hp} {s : Shared} (I : Inv X pins σ H s) : Inv X pins σ H (poisoned s) :=
  ⟨I.ok, I.os, poisoned_bare I.bare, I.base, I.loc, I.cell, I.free, I.freeC, I.pin, I.hok, I.len⟩
theorem inv_real {X : Cx} {pins : List (Addr × Obj)} {σ : L2.St} {H : Hp} {g0 : Array GenState} {sp s : Shared} (q : SR g0 sp s) (I : Inv X pins σ H sp) : Inv X pins σ H s := by
  have hb := q.bare I.bare
  obtain ⟨h1, g1, d1, t1, o1⟩ := sp
  obtain ⟨h2, g2, d2, t2, o2⟩ := s
  obtain ⟨e1, e2, e3, e4, _⟩ := q
  simp only at e1 e2 e3 e4
  subst e1 e2 e3 e4
  exact ⟨I.ok, I.os, hb, I.base, I.loc, I.cell, I.free, I.freeC, I.pin, I.hok, I.len⟩
def Ext (H H' : Hp) : Prop := ∀ b o, H b = some o → H' b = some o
/-- as tFor; the last turn may track more -/
def tForG (wi : TI) (g : TG) (tb : TS) : TS := fun D σ H => wi σ H fun J H1 => ∃ W : Nat → Nat → L2.St → Hp → Prop, (∃ m, W 0 m σ H1) ∧ ∀ i m σ H, W i m σ H →
  (J.stop i H ∧ ∀ H', Ext H H' → D.nx σ H') ∨ (J.go i H ∧ ∃ N : L2.St → Hp → Prop, (∀ σ' H', N σ' H' → ∃ m', m' < m ∧ W (i + 1) m' σ' H') ∧ ∀ x H', J.yld i H x H' → g x σ H' fun σ2 H2 => tb { D with nx := N, ct := N, bk := D.nx } σ2 H2)
structure GTurn (X : Cx) (tg : Expr) (J : It) (g : Nat) (it : Addr) (pins : List (Addr × Obj)) (tn : Nat → Shared → List Addr → Prop) : Prop where
  obj : ∀ i s fp, tn i s fp → ∀ b ∈ fp, ∃ o, s.heap.get? b = some o ∧ ∀ v, o.data ≠ .cell v
  keep : ∀ i s s' fp pins' σ H, tn i s fp → Inv X pins' σ H s' → (∀ b ∈ fp, ∀ o, s.heap.get? b = some o → s'.heap.get? b = some o) → s'.gens[g]? = s.gens[g]? → tn i s' fp
  item : ∀ (i : Nat) (s : Shared) (σ : L2.St) (H : Hp) (fp : List Addr), Inv X pins σ H s → (∀ b ∈ fp, FpOk X pins H b) → tn i s fp → J.go i H →
    wpAny (model X.prog X.w) X.A (pyNext (.ref it)) (fun r s1 => ∃ u, r = some u ∧
      wpAny (model X.prog X.w) X.A (letOwnedTupleGo tg (.ref it) u) (fun _ s2 => ∃ x H' fp', Inv X pins σ H' s2 ∧ RelV x u ∧ J.yld i H x H' ∧ tn (i + 1) s2 fp' ∧ (∃ y, s2.gens[g]? = some y ∧ isSusp y = true) ∧ ∀ b ∈ fp', FpOk X pins H' b) X.xe s1) X.xe s
  done : ∀ (i : Nat) (s : Shared) (σ : L2.St) (H : Hp) (fp : List Addr), Inv X pins σ H s → (∀ b ∈ fp, FpOk X pins H b) → tn i s fp → J.stop i H →
    wpAny (model X.prog X.w) X.A (pyNext (.ref it)) (fun r s1 => r = none ∧ ∃ H', Inv X pins σ H' s1 ∧ Ext H H') X.xe s
def PGE (X : Cx) (pins : List (Addr × Obj)) (σ : L2.St) (tg : Expr) (R : It → Hp → Prop) (itv : Value) (s2 : Shared) : Prop :=
  ∃ (it : Addr) (g : Nat) (fp : List Addr) (tn : Nat → Shared → List Addr → Prop) (J : It) (H' : Hp), itv = .ref it ∧ Inv X pins σ H' s2 ∧ GTurn X tg J g it pins tn ∧ tn 0 s2 fp ∧ (∀ b ∈ fp, FpOk X pins H' b) ∧ R J H'
structure PIG (X : Cx) (tg iter : Expr) (wi : TI) : Prop where
  run : ∀ (pins : List (Addr × Obj)) (s : Shared) (σ : L2.St) (H : Hp) (R : It → Hp → Prop), Inv X pins σ H s → wi σ H R →
    wpAny (model X.prog X.w) X.A (eval iter X.env) (fun v s1 => wpAny (model X.prog X.w) X.A (pyIter v) (PGE X pins σ tg R) X.xe s1) X.xe s
/-- the target's store and the body, where the generator sleeps -/
theorem slept_run {X : Cx} {tg : Expr} {body : List Stmt} {g : TG} {tb : TS} {D : Ends} {pins : List (Addr × Obj)} {s : Shared} {σ : L2.St} {H : Hp} {x : V} {u : Value} (hx : ∀ e s, ¬ X.xe e s) (hg : PG X tg g) (hb : PSs X body tb) (I : Inv X pins σ H s) (r : RelV x u) (h : g x σ H fun σ2 H2 => tb D σ2 H2) :
    wpAny (model X.prog X.w) X.A (assign tg X.env u) (fun _ s6 => wpAny (model X.prog X.w) X.A (execs body X.env) (fun f s7 => SP X pins D f s7 ∧ ∀ (k : Nat) y, s.gens[k]? = some y → isSusp y = true → s7.gens[k]? = some y) X.xe s6) X.xe s := by
  have q0 := SR.start' s
  have r1 := hg.run _ (poisoned s) σ H x u _ (inv_poison I) r h
  refine wpAny_mono (wpAny_real r1 q0) (fun _ s6 ⟨s6p, q6, σ6, H6, I6, h6⟩ => ?_) fun e s6 ⟨sp, _, z⟩ => absurd z (hx e sp)
  have r2 := hb.run _ s6p σ6 H6 D I6 h6
  refine wpAny_mono (wpAny_real r2 q6) (fun f s7 ⟨s7p, q7, h7⟩ => ⟨?_, fun k y ek hy => q7.slept ek hy⟩) fun e s6 ⟨sp, _, z⟩ => absurd z (hx e sp)
  cases f with
  | next => obtain ⟨σ7, H7, I7, q⟩ := h7; exact ⟨σ7, H7, inv_real q7 I7, q⟩
  | cont => obtain ⟨σ7, H7, I7, q⟩ := h7; exact ⟨σ7, H7, inv_real q7 I7, q⟩
  | brk => obtain ⟨σ7, H7, I7, q⟩ := h7; exact ⟨σ7, H7, inv_real q7 I7, q⟩
  | ret v => obtain ⟨x7, σ7, H7, I7, r7, q⟩ := h7; exact ⟨x7, σ7, H7, inv_real q7 I7, r7, q⟩
theorem ps_forG {X : Cx} {tg iter : Expr} {body : List Stmt} {wi : TI} {g : TG} {tb : TS} {pos : Pos} (hx : ∀ e s, ¬ X.xe e s) (hp : PassesOwn (model X.prog X.w) X.A X.env X.xe) (hi : PIG X tg iter wi) (hg : PG X tg g) (hb : PSs X body tb)
    (hs : ∀ x, foldedSetIterable iter X.env x = pure x := by intro _; rfl) : PS X (.For tg iter body [] pos) (tForG wi g tb) := by
  refine ⟨fun pins s σ H D I h => ?_⟩
  refine wpAny_For (thn (hi.run pins s σ H _ I h) fun v s1 h1 => thn h1 fun itv s2 h2 => ?_) hs
  obtain ⟨it, gg, fp, tn, J, H2, e, I2, T, st2, f2, W, ⟨m0, w0⟩, turn⟩ := h2
  subst e
  refine codeAny_forLoop_any (fun n s' => ∃ i σ' H' fp, Inv X pins σ' H' s' ∧ tn i s' fp ∧ (∀ b ∈ fp, FpOk X pins H' b) ∧ W i n σ' H') ?_ m0 ⟨0, σ, H2, fp, I2, st2, f2, w0⟩
  clear st2 f2
  rintro n s3 ⟨i, σ3, H3, fp3, I3, st3, fr3, w3⟩
  rcases turn i n σ3 H3 w3 with ⟨stop, qn⟩ | ⟨go, N, hN, step⟩
  · refine wpAny_passesOwn hp (thn (T.done i s3 σ3 H3 fp3 I3 fr3 st3 stop) fun r s4 ⟨hr, H4, I4, e4⟩ => ?_)
    subst hr
    exact wpAny_execs_nil ⟨σ3, H4, I4, qn H4 e4⟩
  · refine wpAny_passesOwn hp (thn (T.item i s3 σ3 H3 fp3 I3 fr3 st3 go) fun r s4 ⟨u, hr, h4⟩ => ?_)
    subst hr
    refine wpAny_passesOwn hp (thn h4 fun _ s5 ⟨x, H5, fp5, I5, r5, y5, st5, ⟨y, ey, sy⟩, fr5⟩ => ?_)
    have I5' := I5.pinned fr5 (T.obj _ _ _ st5)
    refine wpAny_passesOwn hp (thn (slept_run hx hg hb I5' r5 (step x H5 y5)) fun _ s6 h6 => ?_)
    refine wpAny_passesOwn hp (thn h6 fun f s7 ⟨q7, k7⟩ => ?_)
    have g7 : s7.gens[gg]? = s5.gens[gg]? := by rw [ey]; exact k7 gg y ey sy
    have again : ∀ {σ7 : L2.St} {H7 : Hp}, Inv X (pins ++ pinsAt fp5 s5.heap) σ7 H7 s7 → N σ7 H7 → ∃ m, m < n ∧ ∃ i σ' H' fp, Inv X pins σ' H' s7 ∧ tn i s7 fp ∧ (∀ b ∈ fp, FpOk X pins H' b) ∧ W i m σ' H' := fun {σ7 H7} I7 n7 => by
      obtain ⟨m', hm, w7⟩ := hN σ7 H7 n7
      refine ⟨m', hm, i + 1, σ7, H7, fp5, I7.unpinned, T.keep _ _ _ _ _ _ _ st5 I7 (fun b hb o e => (I7.pin (b, o) (List.mem_append_right _ (List.mem_append_right _ (mem_pinsAt hb e)))).1) g7, fun b hb => ?_, w7⟩
      obtain ⟨o, e, d⟩ := T.obj _ _ _ st5 b hb
      refine ⟨?_, (fr5 b hb).2⟩
      exact (I7.pin (b, o) (List.mem_append_right _ (List.mem_append_right _ (mem_pinsAt hb e)))).2.1
    cases f with
    | next => obtain ⟨σ7, H7, I7, n7⟩ := q7; exact again I7 n7
    | cont => obtain ⟨σ7, H7, I7, n7⟩ := q7; exact again I7 n7
    | brk => obtain ⟨σ7, H7, I7, q7⟩ := q7; exact ⟨σ7, H7, I7.unpinned, q7⟩
    | ret v => obtain ⟨x7, σ7, H7, I7, r7, q7⟩ := q7; exact ⟨x7, σ7, H7, I7.unpinned, r7, q7⟩
end GP

namespace GP
open PySem PySem.Spec L2 PyProof.Rows GenW
/-! ### for, within a generator (no exception) -/
section
variable {M : Model} {A : Around} {R : GenEnd} {Y : Protocol} {n : Nat} {s₀ : Shared} {c : Code} {fs : List Frame} {s : Shared} {env : Env}
  {K : Flow → Sem PySem.Fin} {H : Value → Sem PySem.Fin} {gd : Bool → Bool} {lv : List Value → List Value}
def ff : Value → Shared → Prop := fun _ _ => False
def backK (env : Env) (K : Flow → Sem PySem.Fin) (H : Value → Sem PySem.Fin) (gd : Bool → Bool) (lv : List Value → List Value) : Result → Sem PySem.Fin := fun r => ((match r with | .ok f => (.pure f : Sem Flow) | .error e => .raise e).onRaise fun (x : Value) => do
        if (← field x 1) == Value.none then unsupported "frame.own-activation:exception-without-traceback"
        setFlight x env.frame).wrap K H gd lv
end
section
variable {prog : Program} {w : World} {A : Around} {R : GenEnd} {Y : Protocol} {n : Nat} {s₀ : Shared} {fs : List Frame} {s : Shared} {env : Env}
end
end GP

namespace GP
open PySem PySem.Spec L2 PyProof.Rows GenW
/-! ### one segment of a generator's run -/
def Seg1 (M : Model) (A : Around) (Φ : End → Shared → Prop) (c : Code) (t : Sem PySem.Fin) (fs : List Frame) (s : Shared) : Prop := ∀ Γ p, Γ.code = c → Γ.Woken A → ∃ e s', Runs M Γ p t fs s e s' ∧ Φ e s'
section
variable {M : Model} {A : Around} {Φ : End → Shared → Prop} {c : Code} {fs : List Frame} {s : Shared} {env : Env}
theorem seg1_wrap {α : Type} {m : Sem α} {K : α → Sem PySem.Fin} {H : Value → Sem PySem.Fin} {gd lv}
    (h : wpAny M (A.over c fs) m (fun a s' => Seg1 M A Φ c (K a) fs s') (fun x s' => Seg1 M A Φ c (H x) fs s') s) : Seg1 M A Φ c (m.wrap K H gd lv) fs s := by
  rintro Γ p rfl hΓ
  exact runs_wrap_of_wp K H gd lv m (h (Γ.over fs) p (hΓ.over fs)) (fun a p' s' h' => h' Γ p' rfl hΓ) (fun x p' s' h' => h' Γ p' rfl hΓ)
theorem seg1_bw {α β : Type} {m : Sem α} {K : α → Sem β} {K' : β → Sem PySem.Fin} {H' : Value → Sem PySem.Fin} {gd lv}
    (h : wpAny M (A.over c fs) m (fun a s' => Seg1 M A Φ c ((K a).wrap K' H' gd lv) fs s') ff s) : Seg1 M A Φ c ((m >>= K).wrap K' H' gd lv) fs s := by
  rw [Sem.bind_eq_wrap', Sem.wrap_wrap]
  exact seg1_wrap (wpAny_mono h (fun _ _ z => z) fun _ _ z => z.elim)
theorem seg1_at {p' : Pos} {k : Unit → Sem PySem.Fin} (h : Seg1 M A Φ c (k ()) fs s) : Seg1 M A Φ c (.at p' k) fs s :=
  seg1_wrap (m := standAt p') (K := k) (H := .raise) (gd := id) (lv := id) (wpAny_standAt h)
theorem seg1_call {c' : Code} {h g l} {k : Result → Sem PySem.Fin} (hc : ∀ p, Seg1 M A Φ c' (M.den c') (.ret k h g l c p [] :: fs) s) : Seg1 M A Φ c (.call c' h g l k) fs s := by
  rintro Γ p rfl hΓ
  obtain ⟨e, s', hr, he⟩ := hc p (Γ.goto c') p rfl (hΓ.goto c')
  exact ⟨e, s', runs_call_seg hr, he⟩
theorem seg1_leaf {k h g l c₁ p₁ kp} (r : Result) (hk : Seg1 M A Φ c₁ (k r) fs s) : Seg1 M A Φ c (leafOf r) (.ret k h g l c₁ p₁ kp :: fs) s := by
  rintro Γ p rfl hΓ
  obtain ⟨e, s', hr, he⟩ := hk (Γ.goto c₁) p₁ rfl (hΓ.goto c₁)
  exact ⟨e, s', Runs.pop r hr, he⟩
theorem seg1_again {c' : Code} (hq : c'.quiet = true) (hc : Seg1 M A Φ c' (M.den c') fs s) : Seg1 M A Φ c (.pure (.again c')) fs s := by
  rintro Γ p rfl hΓ
  obtain ⟨e, s', hr, he⟩ := hc (Γ.goto c') p rfl (hΓ.goto c')
  exact ⟨e, s', Runs.head (c₁ := c') (fun _ _ x => .again hq x) hr, he⟩
theorem seg1_end (r : Result) (h : Φ (.ret r) s) : Seg1 M A Φ c (leafOf r) [] s := by
  rintro Γ p rfl _
  exact ⟨.ret r, s, Runs.leaf r, h⟩
theorem seg1_yield {v g l} {k : Resume → Sem PySem.Fin} (hfs : splitAtGen fs = none) (h : ∀ p, Φ (.susp v g l k c p fs) s) : Seg1 M A Φ c (.yield v g l k) fs s := by
  rintro Γ p rfl _
  exact ⟨_, s, Runs.yield' fs hfs, h p⟩
variable {K : Flow → Sem PySem.Fin} {H : Value → Sem PySem.Fin} {gd : Bool → Bool} {lv : List Value → List Value}
theorem seg1_nil (h : Seg1 M A Φ c (K .next) fs s) : Seg1 M A Φ c ((execs [] env).wrap K H gd lv) fs s := h
theorem seg1_cons {st : Stmt} {rest : List Stmt} (h : Seg1 M A Φ c ((exec st env).wrap (fun f => match f with | .next => (execs rest env).wrap K H gd lv | f => K f) H gd lv) fs s) : Seg1 M A Φ c ((execs (st :: rest) env).wrap K H gd lv) fs s := by
  rw [execs_cons_wrap]; exact h
theorem seg1_For {target iter : Expr} {body : List Stmt} {pos : Pos}
    (h : wpAny M (A.over c fs) (eval iter env) (fun x s1 => wpAny M (A.over c fs) (pyIter x) (fun it s2 => ∀ p, Seg1 M A Φ (.forLoop target it body [] env) (M.den (.forLoop target it body [] env)) (.ret (backK env K H gd lv) none (gd false) (lv []) c p [] :: fs) s2) ff s1) ff s)
    (hs : ∀ x, foldedSetIterable iter env x = pure x := by intro _; rfl) : Seg1 M A Φ c ((exec (.For target iter body [] pos) env).wrap K H gd lv) fs s := by
  rw [exec_For]
  refine seg1_bw (wpAny_standAt ?_)
  refine seg1_bw (wpAny_mono h (fun x s1 h1 => ?_) fun _ _ z => z)
  refine seg1_bw (wpAny_of_eq (hs x) ?_)
  refine seg1_bw (wpAny_standAt ?_)
  refine seg1_bw (wpAny_holding (wpAny_mono h1 (fun it s2 h2 => ?_) fun _ _ z => z))
  exact seg1_call h2
theorem seg1_Yield {e : Expr} {ypos pos : Pos} (hfs : splitAtGen fs = none)
    (h : wpAny M (A.over c fs) (eval e env) (fun v s' => ∀ p (k : Resume → Sem PySem.Fin), k (.send .none) = K .next → Φ (.susp v (gd false) (lv []) k c p fs) s') ff s) (hco : env.scope.isCoroutine = false := by rfl) (hi : interactive env = false := by rfl) :
    Seg1 M A Φ c ((exec (.Expr (.Yield (some e) ypos) pos) env).wrap K H gd lv) fs s := by
  rw [exec_Expr env _ pos hi rfl]
  show Seg1 M A Φ c (.at pos fun _ => ((eval e env >>= fun v => (standAt ypos >>= fun _ => yieldOut env v)) >>= fun x => dropValue (.Yield (some e) ypos) pos x).wrap K H gd lv) fs s
  have hy : ∀ v, yieldOut env v = yieldValue v := fun v => by simp only [yieldOut, hco, Bool.false_eq_true, if_false]
  simp only [hy]
  refine seg1_at ?_
  rw [Sem.bind_eq_wrap', Sem.bind_eq_wrap', Sem.wrap_wrap, Sem.wrap_wrap]
  refine seg1_wrap (wpAny_mono h (fun v s' h' => ?_) fun _ _ z => z.elim)
  refine seg1_at (seg1_yield hfs fun p => h' p _ rfl)
end
section
variable {prog : Program} {w : World} {A : Around} {Φ : End → Shared → Prop} {fs : List Frame} {s : Shared} {env : Env}
theorem seg1_forLoop {target : Expr} {it : Value} {body : List Stmt}
    (h : wpAny (model prog w) (A.over (.forLoop target it body [] env) fs) (pyNext it) (fun r s1 => match r with
      | none => Seg1 (model prog w) A Φ (.forLoop target it body [] env) (.pure (.again (.block [] env))) fs s1
      | some v => wpAny (model prog w) (A.over (.forLoop target it body [] env) fs) (letOwnedTupleGo target it v) (fun _ s2 => wpAny (model prog w) (A.over (.forLoop target it body [] env) fs) (assign target env v) (fun _ s3 =>
          ∀ HH, Seg1 (model prog w) A Φ (.forLoop target it body [] env) ((execs body env).wrap (fun f => match f with
            | .next | .cont => .pure (.again (.forLoop target it body [] env))
            | .brk => .pure (.done .next)
            | .ret v => .pure (.done (.ret v))) HH id id) fs s3) ff s2) ff s1) ff s) :
    Seg1 (model prog w) A Φ (.forLoop target it body [] env) ((model prog w).den (.forLoop target it body [] env)) fs s := by
  show Seg1 _ A Φ _ ((forTurn target it body [] env).onRaise (fun x => do noteFrame x env; theTreesLotGoes x)) fs s
  unfold forTurn
  rw [Sem.onRaise_eq_wrap]
  refine seg1_bw (wpAny_standAt ?_)
  refine seg1_bw (wpAny_onRaise (wpAny_mono h (fun r s1 h1 => ?_) fun _ _ z => z.elim))
  cases r with
  | none => exact h1
  | some v =>
    refine seg1_bw (wpAny_mono h1 (fun _ s2 h2 => ?_) fun _ _ z => z)
    refine seg1_bw (wpAny_mono h2 (fun _ s3 h3 => ?_) fun _ _ z => z)
    rw [Sem.bind_eq_wrap', Sem.wrap_wrap]
    rw [Sem.wrap_congr (execs body env) _ _ (K' := fun f => match f with
            | .next | .cont => .pure (.again (.forLoop target it body [] env))
            | .brk => .pure (.done .next)
            | .ret v => .pure (.done (.ret v))) (fun f => by cases f <;> rfl) (fun e => rfl)]
    exact h3 _
theorem seg1_func {body : List Stmt} (h : ∀ HH, Seg1 (model prog w) A Φ (.func body env) ((execs body env).wrap (fun f => .pure (.done (.ret (match f with | .ret v => v | _ => .none)))) HH id id) fs s) :
    Seg1 (model prog w) A Φ (.func body env) ((model prog w).den (.func body env)) fs s := by
  show Seg1 _ A Φ _ (.point [] fun _ => ((execs body env).onRaise (leaving env)) >>= _) fs s
  refine seg1_wrap (m := point) (H := .raise) (gd := id) (lv := fun _ => []) (wpAny_point ?_)
  rw [Sem.onRaise_eq_wrap, Sem.bind_eq_wrap', Sem.wrap_wrap]
  rw [Sem.wrap_congr (execs body env) _ _ (K' := fun f => .pure (.done (.ret (match f with | .ret v => v | _ => .none)))) (fun f => by cases f <;> rfl) (fun e => rfl)]
  exact h _
/-- the next turn of a generator, by one segment -/
theorem wpAny_resume1 {M : Model} {α : Type} {g : Nat} {gs : GenState} {l : List Value} {k : GenResult → Sem α} {Q : α → Shared → Prop} {E : Value → Shared → Prop} (hg : s.gens[g]? = some gs)
    (hgo : match gs with
      | .fresh c => Seg1 M A Φ c (M.den c) [] (s.setGen g .running)
      | .suspended k₀ _ c _ fs _ => Seg1 M A Φ c (k₀ (.send .none)) fs (s.setGen g .running)
      | _ => False)
    (hΦ : ∀ e s1, Φ e s1 → e.quiet = true ∧ wpAny M A (k e.result) Q E (s1.setGen g e.genState)) : wpAny M A (.resume g (.send .none) l k) Q E s := by
  intro Γ p hΓ
  rw [Sem.wp_resume]
  have hB : ∀ c, (Γ.wake c p).Woken A := fun c => hΓ.wake c p
  cases gs with
  | fresh c =>
    obtain ⟨e₁, s₁, hr, he⟩ := hgo (Γ.wake c p) p rfl (hB c)
    obtain ⟨hq, hk⟩ := hΦ e₁ s₁ he
    exact ⟨_, _, by unfold Wakes; rw [hg]; exact ⟨e₁, s₁, hr, hq, rfl, rfl⟩, hk Γ p hΓ⟩
  | suspended k₀ l₀ c₀ p₀ fs₀ cl =>
    obtain ⟨e₁, s₁, hr, he⟩ := hgo (Γ.wake c₀ p) p₀ rfl (hB c₀)
    obtain ⟨hq, hk⟩ := hΦ e₁ s₁ he
    exact ⟨_, _, by unfold Wakes; rw [hg]; exact ⟨e₁, s₁, hr, hq, rfl, rfl⟩, hk Γ p hΓ⟩
  | running => exact hgo.elim
  | finished => exact hgo.elim
end
end GP

namespace GP
open PySem PySem.Spec L2 PyProof.Rows GenW DM
/-! ### the heap below an address -/
def cutH (h : Heap) (L : Nat) : Heap := ⟨h.objs.extract 0 L, h.life⟩
theorem cutH_get {h : Heap} {L b : Nat} : (cutH h L).get? b = if b < L then h.get? b else none := by
  unfold cutH Heap.get?
  by_cases hb : b < L
  · rw [if_pos hb]
    have : (h.objs.extract 0 L)[b]? = h.objs[b]? := by
      rw [Array.getElem?_extract]
      by_cases hs : b < h.objs.size
      · simp [hb, hs, Nat.lt_min]
      · rw [if_neg (by omega), Array.getElem?_eq_none (by omega)]
    simp only [this]
  · rw [if_neg hb]
    have : (h.objs.extract 0 L)[b]? = none := Array.getElem?_eq_none (by simp; omega)
    simp only [this]
theorem cutH_some {h : Heap} {L b : Nat} {o : Obj} (e : (cutH h L).get? b = some o) : b < L ∧ h.get? b = some o := by
  rw [cutH_get] at e
  by_cases hb : b < L
  · rw [if_pos hb] at e; exact ⟨hb, e⟩
  · rw [if_neg hb] at e; cases e
theorem cutH_size {h : Heap} {L : Nat} : (cutH h L).objs.size = min L h.objs.size := by unfold cutH; simp
theorem Ext.refl (H : Hp) : Ext H H := fun _ _ h => h
theorem Ext.trans {H1 H2 H3 : Hp} (a : Ext H1 H2) (b : Ext H2 H3) : Ext H1 H3 := fun x o h => b x o (a x o h)
theorem Ext.of_le {H H' : Hp} {ι : List Addr} (l : Le [] H ι H') : Ext H H' := fun b o h => l.keep b o (by simp) h
/-- a generator's call -/
structure Gp where
  P : Program
  w : World
  K : PySem.W.Frag
  mg : Str → Option Value
  base : Heap
  N : List Str
  qual : Str
  sc : Scope
  f : Addr
  cd : Value
  A : Around
  outer : List Env
  L : Nat
  pn : List (Addr × Obj)
/-- the same, with these guests -/
abbrev Gp.wi (G : Gp) (gp : List (Addr × Obj)) : Gp := { G with pn := gp }
abbrev Gp.env (G : Gp) : Env := envOfC G.qual G.sc G.L G.f G.cd
structure Gp.Ok (G : Gp) : Prop where
  kind : G.sc.kind = .function
  co : G.sc.isCoroutine = false
  ce : cellsFrom (G.L + 1) G.sc.names [] = []
  nc : ∀ x, G.sc.names.lookup x ≠ some .cell ∧ G.sc.names.lookup x ≠ some .free
  hd : G.A.handled = none
  bL : G.base.objs.size ≤ G.L
  fL : ∀ b ∈ frs G.outer, b < G.L
abbrev Gp.E0 (G : Gp) (s : Shared) (H : Hp) : Prop := Env0 G.P G.w G.K G.mg G.base G.A G.outer s H
/-- the context of a segment that begins at s -/
def Gp.X (G : Gp) (s : Shared) (H : Hp) : Cx where
  prog := G.P
  w := G.w
  K := G.K
  mg := G.mg
  base := G.base
  A := G.A.deeper G.env
  N := G.N
  s_0 := { s with heap := cutH s.heap G.L }
  H_0 := H
  env := G.env
  outer := G.outer
  stack := G.env :: G.outer
  ex := []
  fn := fun _ => true
  calm := true
  pn := G.pn
  xe := ff
theorem funs_cut {h base : Heap} {L : Nat} : ∀ {l : List Env}, h.FunFrames base l → (∀ b ∈ frs l, b < L) → (cutH h L).FunFrames base l
  | [], _, _ => trivial
  | env :: r, ⟨h1, ⟨L0, o, hf, hb, ho, hd⟩, h3⟩, hl => by
    have m0 : L0 ∈ frs (env :: r) := by unfold frs; rw [List.filterMap_cons, hf]; exact List.mem_cons_self
    refine ⟨h1, ⟨L0, o, hf, hb, by rw [cutH_get, if_pos (hl L0 m0)]; exact ho, hd⟩, funs_cut h3 fun b hb => hl b ?_⟩
    unfold frs at hb ⊢
    rw [List.filterMap_cons, hf]
    exact List.mem_cons_of_mem _ hb
section
variable {G : Gp} (ok : G.Ok)
include ok
theorem Gp.Ok.nocell {x : Str} {c : Addr} (h : G.env.cells.lookup x = some c) : False := by
  have e : G.env.cells = [] := ok.ce
  rw [e] at h; simp at h
theorem Gp.Ok.cx {s : Shared} {H : Hp} (e0 : G.E0 s H) : (G.X s H).Ok := by
  refine ⟨e0.mod, ok.kind, rfl, rfl, ?_, fun x y c h => (ok.nocell h).elim, fun x hx => ?_, fun x c _ h => (ok.nocell h).elim, fun _ => ok.hd, Around.frames_deeper e0.frames, .inr ⟨rfl, rfl⟩, fun b hb => absurd hb (by simp [Gp.X]), fun b o e => ?_, ?_, fun b o _ hb => absurd hb (by simp [Gp.X]), fun b hb => absurd hb (by simp [Gp.X]), funs_cut e0.funs ok.fL, e0.frf⟩
  · show (cutH s.heap G.L).objs.size ≤ G.L
    rw [cutH_size]; omega
  · have hx : G.sc.names.lookup x = some .cell ∨ G.sc.names.lookup x = some .free := hx
    rcases hx with z | z
    · exact absurd z (ok.nc x).1
    · exact absurd z (ok.nc x).2
  · obtain ⟨e1, e2⟩ := e0.bs b o e
    refine ⟨?_, e2⟩
    show (cutH s.heap G.L).get? b = some o
    rw [cutH_get, if_pos (Nat.lt_of_lt_of_le (Heap.lt_size e) ok.bL)]
    exact e1
  · show G.base.objs.size ≤ (cutH s.heap G.L).objs.size
    rw [cutH_size]
    have := e0.bsz
    have := ok.bL
    omega
theorem Gp.Ok.wi (gp : List (Addr × Obj)) : (G.wi gp).Ok := ⟨ok.kind, ok.co, ok.ce, ok.nc, ok.hd, ok.bL, ok.fL⟩
/-- the frame and the iterators as they stood: the segment's invariant anew -/
theorem Gp.Ok.woken {s1 s' : Shared} {sr : Shared} {Hr H1 H' : Hp} {ip gp : List (Addr × Obj)} {σ : L2.St} (I : Inv (G.X sr Hr) ip σ H1 s1) (e0 : G.E0 s' H')
    (hk : ∀ b, (b = G.L ∨ ∃ p ∈ ip, p.1 = b) → ∀ o, s1.heap.get? b = some o → s'.heap.get? b = some o) (hn : ∀ b, (b = G.L ∨ ∃ p ∈ ip, p.1 = b) → H' b = none)
    (hgp : ∀ p ∈ gp, s'.heap.get? p.1 = some p.2 ∧ H' p.1 = none ∧ p.1 ≠ G.L ∧ p.1 ∉ frs G.outer ∧ ∀ v, p.2.data ≠ .cell v) : Inv ((G.wi gp).X s' H') ip σ H' s' := by
  obtain ⟨m, hm, hl⟩ := I.loc
  refine ⟨(ok.wi gp).cx e0, rfl, e0.bare, ⟨fun b o e _ _ _ => (cutH_some e).2, fun b o e _ _ _ => ⟨o.slots, (cutH_some e).2⟩, fun b o _ h _ => h, fun b o e _ => ⟨o, (cutH_some e).2⟩, fun _ _ h => h, fun _ _ _ h => h, fun b ps h => ⟨#[], by have h' : H' b = some (HO.tbl ps) := h; rw [h']; simp⟩⟩,
    ⟨m, hm.at' fun o e => hk _ (.inl rfl) o e, fun i x v h1 h2 h3 => ?_⟩, fun x c h => (ok.nocell h).elim, hn _ (.inl rfl), fun x c h => (ok.nocell h).elim, fun p hp => ?_, e0.hok, I.len⟩
  · obtain ⟨u, ru, lk⟩ := hl i x v h1 h2 h3
    refine ⟨u, ru, ?_⟩
    rcases lk with ⟨k1, k2⟩ | ⟨k1, _⟩
    · exact .inl ⟨k1, k2⟩
    · have k1 : G.sc.names.lookup x = some .cell ∨ G.sc.names.lookup x = some .free := k1
      rcases k1 with z | z
      · exact absurd z (ok.nc x).1
      · exact absurd z (ok.nc x).2
  · have hp' : p ∈ gp ++ ip := hp
    rcases List.mem_append.mp hp' with z | z
    · exact hgp p z
    · obtain ⟨p1, p2, p3, p4, p5⟩ := I.pin p (List.mem_append_right _ z)
      exact ⟨hk _ (.inr ⟨p, z, rfl⟩) _ p1, hn _ (.inr ⟨p, z, rfl⟩), p3, p4, p5⟩
end
/-! ### atoms -/
def atomV : D → Option V
  | .non => some .non
  | .bl b => some (.bl b)
  | .int i => some (.int i)
  | .str x => some (.str x)
  | _ => none
theorem atom_vr {K : PySem.W.Frag} {ι : List Addr} {H : Hp} {d : D} {v : V} (h : atomV d = some v) : VR K ι H v d := by
  cases d with
  | non => cases h; exact .non
  | bl b => cases h; exact .bl b
  | int i => cases h; exact .int i
  | str x => cases h; exact .str x
  | _ => cases h
structure SA (σ : L2.St) (ρ : Rho) : Prop where
  len : σ.length = ρ.length
  at_ : ∀ (i : Nat) (d : D), ρ[i]? = some (some d) → ∃ v, σ[i]? = some (some v) ∧ atomV d = some v
theorem SA.sr {K : PySem.W.Frag} {ι : List Addr} {H : Hp} {σ : L2.St} {ρ : Rho} (h : SA σ ρ) : DM.SR K ι H σ ρ := ⟨h.len, fun i d e => let ⟨v, a, b⟩ := h.at_ i d e; ⟨v, a, atom_vr b⟩⟩
theorem SA.set {σ : L2.St} {ρ : Rho} {i : Nat} {d : D} {v : V} (h : SA σ ρ) (hv : atomV d = some v) : SA (σ.set i (some v)) (ρ.set i (some d)) := by
  refine ⟨by simp [h.len], fun j e hj => ?_⟩
  by_cases z : i = j
  · subst z
    have hl : i < (ρ.set i (some d)).length := (List.getElem?_eq_some_iff.mp hj).1
    rw [List.length_set] at hl
    rw [List.getElem?_set_self hl] at hj
    cases hj
    exact ⟨v, List.getElem?_set_self (by rw [h.len]; exact hl), hv⟩
  · rw [List.getElem?_set_ne z] at hj
    obtain ⟨u, a, b⟩ := h.at_ j e hj
    exact ⟨u, by rw [List.getElem?_set_ne z]; exact a, b⟩
/-- an iterator that hands out these atoms, whatever is tracked -/
def ItC (J : It) (ds : List D) : Prop := ∀ i H, (∀ d, ds[i]? = some d → J.go i H ∧ ∀ x H', J.yld i H x H' → Ext H H' ∧ atomV d = some x) ∧ (ds.length ≤ i → J.stop i H)
structure PIC (X : Cx) (tg iter : Expr) (I : Rho → Option (List D)) : Prop where
  run : ∀ (pins : List (Addr × Obj)) (s : Shared) (σ : L2.St) (H : Hp) (ρ : Rho) (ds : List D), Inv X pins σ H s → SA σ ρ → I ρ = some ds →
    wpAny (model X.prog X.w) X.A (eval iter X.env) (fun v s1 => wpAny (model X.prog X.w) X.A (pyIter v) (PIE X pins σ tg (fun J H' => Ext H H' ∧ ItC J ds)) X.xe s1) X.xe s
end GP

namespace GP
open PySem PySem.Spec L2 PyProof.Rows GenW DM
/-! ### a generator of these items -/
/-- what a segment leaves -/
structure SegOk (G : Gp) (sr : Shared) (Hr H1 : Hp) (s : Shared) : Prop where
  os : s.os = sr.os
  bare : AllBare s.gens
  un : Un (frs G.outer) [] Hr H1 (cutH sr.heap G.L) s.heap
  hok : HOk G.P G.w H1 s.heap
  ext : Ext Hr H1
  gst : ∀ q ∈ G.pn, s.heap.get? q.1 = some q.2 ∧ H1 q.1 = none
theorem SegOk.of {G : Gp} {sr : Shared} {Hr H1 : Hp} {ip : List (Addr × Obj)} {σ : L2.St} {s : Shared} (I : L2.Inv (G.X sr Hr) ip σ H1 s) (e : Ext Hr H1) : SegOk G sr Hr H1 s := ⟨I.os, I.bare, I.base, I.hok, e, fun q hq => let ⟨p1, p2, _⟩ := I.pin q (List.mem_append_left _ hq); ⟨p1, p2⟩⟩
/-- asleep: what it needs stands at objs, and is not tracked -/
structure Wake (G : Gp) (objs : List (Addr × Obj)) (s : Shared) (H : Hp) : Prop where
  e0 : G.E0 s H
  at_ : ∀ p ∈ objs, s.heap.get? p.1 = some p.2
  no : ∀ p ∈ objs, H p.1 = none
  gst : ∀ q ∈ G.pn, s.heap.get? q.1 = some q.2 ∧ H q.1 = none ∧ q.1 ≠ G.L ∧ q.1 ∉ frs G.outer ∧ (∀ v, q.2.data ≠ .cell v) ∧ ∀ p ∈ objs, p.1 ≠ q.1
/-- the end of a segment with n items left -/
def Phi : Gp → List D → Nat → Shared → Hp → End → Shared → Prop
  | G, all, 0, sr, Hr, e, s => match e with
    | .ret r => (r = .ok (.ret .none) ∨ r = .ok .next) ∧ ∃ H1, SegOk G sr Hr H1 s
    | .susp .. => False
  | G, all, m + 1, sr, Hr, e, s => match e with
    | .ret _ => False
    | .susp v g l k c p fs => (End.susp v g l k c p fs).quiet = true ∧ ∃ (d : D) (x : V) (H1 : Hp) (objs : List (Addr × Obj)), all[all.length - (m + 1)]? = some d ∧ RelV x v ∧ VR G.K [] H1 x d ∧ SegOk G sr Hr H1 s ∧
        (∀ q ∈ objs, s.heap.get? q.1 = some q.2 ∧ H1 q.1 = none ∧ G.L ≤ q.1 ∧ ∀ v, q.2.data ≠ .cell v) ∧ (∀ q ∈ G.pn, ∀ p ∈ objs, p.1 ≠ q.1) ∧
        ∀ gp s' H', Wake (G.wi gp) objs s' H' → Seg1 (model G.P G.w) G.A (Phi (G.wi gp) all m s' H') c (k (.send .none)) fs s'
/-- running -/
structure GRun (G : Gp) (sr : Shared) (Hr : Hp) (ip : List (Addr × Obj)) (ρ : Rho) (s : Shared) : Prop where
  ex : ∃ σ H, L2.Inv (G.X sr Hr) ip σ H s ∧ SA σ ρ ∧ Ext Hr H
  e0 : G.E0 sr Hr
  gd : ∀ q ∈ G.pn, ∀ p ∈ ip, p.1 ≠ q.1
  ip : ∀ p ∈ ip, G.L ≤ p.1
  le : G.L ≤ sr.heap.objs.size
abbrev GD := Rho → Option (List D × Rho)
/-- where the code stands -/
structure GC1 (G : Gp) (c : Code) (fs : List Frame) (gd : Bool → Bool) : Prop where
  over : G.A.over c fs = G.A.deeper G.env
  split : splitAtGen fs = none
  guard : fs.any Frame.guarded = false
  gd : gd false = false
def KOk (G : Gp) (all : List D) (i : Nat) (ip : List (Addr × Obj)) (ρ : Rho) (c : Code) (fs : List Frame) (t : Sem PySem.Fin) : Prop := ∀ gp sr Hr s, GRun (G.wi gp) sr Hr ip ρ s → Seg1 (model G.P G.w) G.A (Phi (G.wi gp) all (all.length - i) sr Hr) c t fs s
structure GSD (G : Gp) (all : List D) (st : List Stmt) (F : GD) : Prop where
  run : ∀ (i : Nat) (ip : List (Addr × Obj)) (ρ ρ' : Rho) (ys : List D) (c : Code) (fs : List Frame) (KK : Flow → Sem PySem.Fin) (HH : Value → Sem PySem.Fin) (gd : Bool → Bool) (lv : List Value → List Value),
    GC1 G c fs gd → F ρ = some (ys, ρ') → i + ys.length ≤ all.length → (∀ j d, ys[j]? = some d → all[i + j]? = some d) → KOk G all (i + ys.length) ip ρ' c fs (KK .next) → KOk G all i ip ρ c fs ((execs st G.env).wrap KK HH gd lv)
structure GS1 (G : Gp) (all : List D) (st : Stmt) (F : GD) : Prop where
  run : ∀ (i : Nat) (ip : List (Addr × Obj)) (ρ ρ' : Rho) (ys : List D) (c : Code) (fs : List Frame) (KK : Flow → Sem PySem.Fin) (HH : Value → Sem PySem.Fin) (gd : Bool → Bool) (lv : List Value → List Value),
    GC1 G c fs gd → F ρ = some (ys, ρ') → i + ys.length ≤ all.length → (∀ j d, ys[j]? = some d → all[i + j]? = some d) → KOk G all (i + ys.length) ip ρ' c fs (KK .next) → KOk G all i ip ρ c fs ((exec st G.env).wrap KK HH gd lv)
def gdNil : GD := fun ρ => some ([], ρ)
def gdSeq (F F' : GD) : GD := fun ρ => match F ρ with
  | some (ys, ρ1) => (match F' ρ1 with
    | some (zs, ρ2) => some (ys ++ zs, ρ2)
    | none => none)
  | none => none
section
variable {G : Gp} {all : List D}
theorem gsd_one {st : Stmt} {F : GD} (a : GS1 G all st F) : GSD G all [st] F := ⟨fun i ip ρ ρ' ys c fs KK HH gd lv g e hl hy hk gp sr Hr s h => by
  refine seg1_cons ?_
  exact a.run i ip ρ ρ' ys c fs (fun f => match f with | .next => (execs [] G.env).wrap KK HH gd lv | f => KK f) HH gd lv g e hl hy (fun gp sr Hr s h => seg1_nil (hk gp sr Hr s h)) gp sr Hr s h⟩
/-! ### yield -/
def gdYield (E : CM D) : GD := fun ρ => match E ρ [] with
  | some (.ok d, []) => some ([d], ρ)
  | _ => none
theorem gs_yield1 {e : Expr} {yp pos : Pos} {E : CM D} (ok : G.Ok) (he : ∀ gp s H, PE ((G.wi gp).X s H) e (tE G.K noX E)) (hi : interactive G.env = false := by rfl) : GS1 G all (.Expr (.Yield (some e) yp) pos) (gdYield E) := by
  refine ⟨fun i ip ρ ρ' ys c fs KK HH gd lv g eF hl hy hk gp sr Hr s h => ?_⟩
  unfold gdYield at eF
  split at eF
  · rename_i d eE
    cases eF
    obtain ⟨σ, H, I, sa, ex⟩ := h.ex
    have hn : all.length - i = (all.length - (i + 1)) + 1 := by
      have : i + 1 ≤ all.length := by simpa using hl
      omega
    rw [hn]
    refine seg1_Yield g.split ?_ ok.co hi
    rw [g.over]
    refine wpAny_mono ((he gp sr Hr).run ip s σ H (fun x H1 => Le [] H [] H1 ∧ VR G.K [] H1 x d) I ⟨ρ, [], [], sa.sr, ⟨rfl, List.Pairwise.nil, fun j a o h1 => by simp at h1⟩, ?_⟩) (fun v s' hv => ?_) fun _ _ z => z
    · rw [eE]
      intro ι' H' x l w v
      have e0 : ι' = [] := List.eq_nil_of_length_eq_zero (by have := w.len; simpa using this)
      subst e0
      exact ⟨l, v⟩
    · obtain ⟨x, H1, I1, rv, l1, v1⟩ := hv
      intro p k ek
      obtain ⟨m, hm, _⟩ := I1.loc
      obtain ⟨oL, es, ep, hoL, hdL, _⟩ := hm
      have hoL : s'.heap.get? G.L = some oL := hoL
      refine ⟨by simp [End.quiet, g.gd, g.guard], d, x, H1, (G.L, oL) :: ip, ?_, rv, v1, SegOk.of I1 (ex.trans (Ext.of_le l1)), fun q hq => ?_, fun q hq p hp => ?_, fun gp2 s2 H2 wk => ?_⟩
      · have e1 : all.length - (all.length - (i + 1) + 1) = i + 0 := by
          have : i + 1 ≤ all.length := by simpa using hl
          omega
        rw [e1]
        exact hy 0 d rfl
      · rcases List.mem_cons.mp hq with rfl | hq
        · exact ⟨hoL, I1.free, Nat.le_refl _, fun v z => by rw [hdL] at z; cases z⟩
        · obtain ⟨p1, p2, p3, p4, p5⟩ := I1.pin q (List.mem_append_right _ hq)
          exact ⟨p1, p2, h.ip q hq, p5⟩
      · rcases List.mem_cons.mp hp with rfl | hp
        · exact fun z => (I1.pin q (List.mem_append_left _ hq)).2.2.1 z.symm
        · exact h.gd q hq p hp
      · rw [ek]
        have I2 : L2.Inv ((G.wi gp2).X s2 H2) ip σ H2 s2 := (ok.wi gp).woken I1 wk.e0 (fun b hb o eo => by
          rcases hb with rfl | ⟨q, hq, rfl⟩
          · rw [hoL] at eo; cases eo
            exact wk.at_ (G.L, oL) List.mem_cons_self
          · obtain ⟨p1, _⟩ := I1.pin q (List.mem_append_right _ hq)
            rw [p1] at eo; cases eo
            exact wk.at_ q (List.mem_cons_of_mem _ hq)) (fun b hb => by
          rcases hb with rfl | ⟨q, hq, rfl⟩
          · exact wk.no (G.L, oL) List.mem_cons_self
          · exact wk.no q (List.mem_cons_of_mem _ hq)) fun p hp => let ⟨a1, a2, a3, a4, a5, _⟩ := wk.gst p hp; ⟨a1, a2, a3, a4, a5⟩
        have := hk gp2 s2 H2 s2 ⟨⟨σ, H2, I2, sa, Ext.refl _⟩, wk.e0, fun q hq p hp => (wk.gst q hq).2.2.2.2.2 p (List.mem_cons_of_mem _ hp), h.ip, Nat.le_of_lt (Heap.lt_size (wk.at_ (G.L, oL) List.mem_cons_self))⟩
        simpa using this
  · cases eF
/-! ### for -/
def gdFold (j : Nat) (F : GD) : List D → Rho → Option (List D × Rho)
  | [], ρ => some ([], ρ)
  | d :: r, ρ => match F (ρ.set j (some d)) with
    | some (ys, ρ1) => (match gdFold j F r ρ1 with
      | some (zs, ρ2) => some (ys ++ zs, ρ2)
      | none => none)
    | none => none
def gdFor (I : Rho → Option (List D)) (j : Nat) (F : GD) : GD := fun ρ => match I ρ with
  | some ds => gdFold j F ds ρ
  | none => none
theorem gs_for1 {tg iter : Expr} {body : List Stmt} {pos : Pos} {I : Rho → Option (List D)} {j : Nat} {F : GD} (ok : G.Ok) (hi : ∀ gp s H, PIC ((G.wi gp).X s H) tg iter I) (hg : ∀ gp s H, PG ((G.wi gp).X s H) tg (gName j)) (hb : GSD G all body F)
    (hs : ∀ x, foldedSetIterable iter G.env x = pure x := by intro _; rfl) : GS1 G all (.For tg iter body [] pos) (gdFor I j F) := by
  refine ⟨fun i ip ρ ρ' ys c fs KK HH gd lv g eF hl hy hk gp sr Hr s h => ?_⟩
  unfold gdFor at eF
  split at eF
  · rename_i ds eI
    obtain ⟨σ, H, I0, sa, ex⟩ := h.ex
    refine seg1_For ?_ hs
    rw [g.over]
    refine wpAny_mono ((hi gp sr Hr).run ip s σ H ρ ds I0 sa eI) (fun v s1 h1 => wpAny_mono h1 (fun itv s2 h2 => ?_) fun _ _ z => z) fun _ _ z => z
    obtain ⟨it, fp, tn, J, H2, rfl, I2, T, st2, f2, ex2, hJ⟩ := h2
    intro p
    have fp0 : ∀ b ∈ fp, b ≠ G.L ∧ b ∉ frs G.outer ∧ G.L ≤ b ∧ ∀ q ∈ gp ++ ip, q.1 ≠ b := fun b hb => by
      obtain ⟨_, q2, q3, q4, _, q6⟩ := f2 b hb
      refine ⟨q2, q3, ?_, fun q hq => q6 q hq⟩
      rcases q4 with z | z
      · exact absurd z (by simp [Gp.X])
      · have z : (cutH sr.heap G.L).objs.size ≤ b := z
        rw [cutH_size] at z
        have : G.L ≤ sr.heap.objs.size := h.le
        omega
    have fpk : ∀ (gp : List (Addr × Obj)) (sr : Shared) (Hr H : Hp), (∀ q ∈ gp, ∀ b ∈ fp, q.1 ≠ b) → (∀ b ∈ fp, H b = none) → ∀ b ∈ fp, FpOk ((G.wi gp).X sr Hr) ip H b := fun gp sr Hr H hgq hn b hb => by
      obtain ⟨q1, q2, q3, q4⟩ := fp0 b hb
      refine ⟨hn b hb, q1, q2, .inr ?_, fun x c z => (ok.nocell z).elim, fun q hq => (List.mem_append.mp hq).elim (fun z => hgq q z b hb) fun z => q4 q (List.mem_append_right _ z)⟩
      show (cutH sr.heap G.L).objs.size ≤ b
      rw [cutH_size]; omega
    have gl : GC1 G (.forLoop tg (.ref it) body [] G.env) (.ret (backK G.env KK HH gd lv) none (gd false) (lv []) c p [] :: fs) id := by
      refine ⟨(over_loop rfl rfl).trans g.over, ?_, ?_, rfl⟩
      · show (splitAtGen fs).map _ = none
        rw [g.split]; rfl
      · show (gd false || fs.any Frame.guarded) = false
        rw [g.gd, g.guard]; rfl
    have loop : ∀ (r : List D) (q i : Nat) (ρ : Rho) (ys : List D), ds.drop q = r → q + r.length = ds.length → gdFold j F r ρ = some (ys, ρ') → i + ys.length ≤ all.length → (∀ k d, ys[k]? = some d → all[i + k]? = some d) → KOk G all (i + ys.length) ip ρ' c fs (KK .next) →
        ∀ gp sr Hr s σ H, L2.Inv ((G.wi gp).X sr Hr) ip σ H s → SA σ ρ → Ext Hr H → G.E0 sr Hr → G.L ≤ sr.heap.objs.size → (∀ q ∈ gp, ∀ p ∈ ip, p.1 ≠ q.1) → (∀ q ∈ gp, ∀ b ∈ fp, q.1 ≠ b) → tn q s.heap → (∀ b ∈ fp, H b = none) →
        Seg1 (model G.P G.w) G.A (Phi (G.wi gp) all (all.length - i) sr Hr) (.forLoop tg (.ref it) body [] G.env) ((model G.P G.w).den (.forLoop tg (.ref it) body [] G.env)) (.ret (backK G.env KK HH gd lv) none (gd false) (lv []) c p [] :: fs) s := by
      intro r
      induction r with
      | nil =>
        intro q i ρ ys hd hq eF hl hy hk gp sr Hr s σ H I3 sa3 ex3 e03 le3 gd3 gq3 st3 fn3
        cases eF
        refine seg1_forLoop ?_
        rw [gl.over]
        refine wpAny_mono (T.done ((G.wi gp).X sr Hr) rfl rfl rfl rfl q ip s σ H _ I3 (fpk gp sr Hr H gq3 fn3) st3 ((hJ q H).2 (by simp at hq; omega))) (fun r s4 ⟨hr, I4⟩ => ?_) fun _ _ z => z
        subst hr
        refine seg1_again rfl ?_
        show Seg1 _ _ _ _ (leafOf (.ok .next)) _ _
        refine seg1_leaf (.ok .next) ?_
        exact hk gp sr Hr s4 ⟨⟨σ, H, I4, sa3, ex3⟩, e03, gd3, h.ip, le3⟩
      | cons d r ih =>
        intro q i ρ ys hd hq eF hl hy hk gp sr Hr s σ H I3 sa3 ex3 e03 le3 gd3 gq3 st3 fn3
        have hqd : ds[q]? = some d := by
          have := congrArg (fun l => l[0]?) hd
          simpa [List.getElem?_drop] using this
        unfold gdFold at eF
        split at eF
        · rename_i ys1 ρ1 eF1
          split at eF
          · rename_i zs ρ2 eF2
            cases eF
            obtain ⟨⟨hgo, hyl⟩⟩ := (⟨(hJ q H).1 d hqd⟩ : PLift _)
            refine seg1_forLoop ?_
            rw [gl.over]
            refine wpAny_mono (T.item ((G.wi gp).X sr Hr) rfl rfl rfl rfl q ip s σ H _ I3 (fpk gp sr Hr H gq3 fn3) st3 hgo) (fun rr s4 ⟨u, hr, h4⟩ => ?_) fun _ _ z => z
            subst hr
            refine wpAny_mono h4 (fun _ s5 ⟨x, H5, I5, r5, y5, st5, fn5⟩ => ?_) fun _ _ z => z
            obtain ⟨e5, av⟩ := hyl x H5 y5
            have I5' := I5.pinned (fpk gp sr Hr H5 gq3 fn5) (T.obj _ _ st5)
            refine wpAny_mono ((hg gp sr Hr).run _ s5 σ H5 x u (fun σ6 H6 => σ6 = σ.set j (some x) ∧ H6 = H5) I5' r5 ⟨rfl, rfl⟩) (fun _ s6 ⟨σ6, H6, I6, e6, e7⟩ => ?_) fun _ _ z => z
            subst e6 e7
            intro HH'
            rw [List.length_append] at hl hk
            refine hb.run i (ip ++ pinsAt fp s5.heap) (ρ.set j (some d)) ρ1 ys1 _ _ _ HH' id id gl eF1 (by omega) (fun k d' hk' => hy k d' (by rw [List.getElem?_append_left (List.getElem?_eq_some_iff.mp hk').1]; exact hk')) (fun gp' sr' Hr' s7 h7 => ?_) gp sr Hr s6 ⟨⟨σ.set j (some x), H6, I6, sa3.set av, ex3.trans e5⟩, e03, fun q hq p hp => ?_, fun q hq => ?_, le3⟩
            · obtain ⟨σ7, H7, I7, sa7, ex7⟩ := h7.ex
              refine seg1_again rfl ?_
              refine ih (q + 1) (i + ys1.length) ρ1 zs ?_ ?_ eF2 (by omega) (fun k d' hk' => ?_) (by rw [Nat.add_assoc]; exact hk) gp' sr' Hr' s7 σ7 H7 I7.unpinned sa7 ex7 h7.e0 h7.le (fun q hq p hp => h7.gd q hq p (List.mem_append_left _ hp)) (fun q hq b hb => ?_) (T.keep _ _ _ st5 fun b hb o e => (I7.pin (b, o) (List.mem_append_right _ (List.mem_append_right _ (mem_pinsAt hb e)))).1) fun b hb => ?_
              · rw [← List.drop_drop, hd]; rfl
              · simp only [List.length_cons] at hq; omega
              · have := hy (ys1.length + k) d' (by rw [List.getElem?_append_right (by omega), Nat.add_sub_cancel_left]; exact hk')
                rw [Nat.add_assoc]; exact this
              · obtain ⟨o, e, _⟩ := T.obj _ _ st5 b hb
                exact fun z => h7.gd q hq (b, o) (List.mem_append_right _ (mem_pinsAt hb e)) z.symm
              · obtain ⟨o, e, _⟩ := T.obj _ _ st5 b hb
                exact (I7.pin (b, o) (List.mem_append_right _ (List.mem_append_right _ (mem_pinsAt hb e)))).2.1
            · rcases List.mem_append.mp hp with z | z
              · exact gd3 q hq p z
              · exact fun y => gq3 q hq p.1 (of_pinsAt z).1 y.symm
            · rcases List.mem_append.mp hq with z | z
              · exact h.ip q z
              · exact (fp0 q.1 (of_pinsAt z).1).2.2.1
          · cases eF
        · cases eF
    exact loop ds 0 i ρ ys rfl (by simp) eF hl hy hk gp sr Hr s2 σ H2 I2 sa (ex.trans ex2) h.e0 h.le h.gd (fun q hq b hb => (fp0 b hb).2.2.2 q (List.mem_append_left _ hq)) st2 fun b hb => (f2 b hb).1
  · cases eF
end
end GP

namespace GP
open PySem PySem.Spec L2 PyProof.Rows GenW DM
/-! ### the next item of a generator's object -/
def Go1 (M : Model) (A : Around) (Φ : End → Shared → Prop) : GenState → Shared → Prop
  | .fresh c, s => Seg1 M A Φ c (M.den c) [] s
  | .suspended k _ c _ fs _, s => Seg1 M A Φ c (k (.send .none)) fs s
  | _, _ => False
theorem resume_go1 {M : Model} {A : Around} {Φ : End → Shared → Prop} {s : Shared} {α : Type} {g : Nat} {gs : GenState} {l : List Value} {k : GenResult → Sem α} {Q : α → Shared → Prop} {E : Value → Shared → Prop} (hg : s.gens[g]? = some gs) (hgo : Go1 M A Φ gs (s.setGen g .running))
    (hΦ : ∀ e s1, Φ e s1 → e.quiet = true ∧ wpAny M A (k e.result) Q E (s1.setGen g e.genState)) : wpAny M A (.resume g (.send .none) l k) Q E s := by
  cases gs with
  | fresh c => exact wpAny_resume1 hg hgo hΦ
  | suspended k₀ l₀ c₀ p₀ fs₀ cl => exact wpAny_resume1 hg hgo hΦ
  | running => exact hgo.elim
  | finished => exact hgo.elim
def NextOk (G : Gp) (all : List D) (n : Nat) (gs : GenState) (s : Shared) (H : Hp) : Prop := Go1 (model G.P G.w) G.A (Phi G all n s H) gs s
section
variable {G : Gp} {all : List D} {A : Around} {E : Value → Shared → Prop} {s : Shared} {H : Hp}
theorem next_gen1 {a : Addr} {g n : Nat} {gs : GenState} {Q : Option Value → Shared → Prop} (hA : G.A = A.in1) (hh : A.handled = none) (hl : s.heap.NoLimit) (hroom : A.depth < recursionLimit) (hg : s.heap.IsGen a g) (hgs : s.gens[g]? = some gs)
    (hgo : NextOk G all n gs (s.setGen g .running) H)
    (hY : ∀ m v g0 l0 k c p fs s1, n = m + 1 → Phi G all (m + 1) (s.setGen g .running) H (.susp v g0 l0 k c p fs) s1 → Q (some v) (s1.setGen g (End.susp v g0 l0 k c p fs).genState))
    (hP : ∀ s1 H1, n = 0 → SegOk G (s.setGen g .running) H H1 s1 → ∀ h', (∀ b o, s1.heap.get? b = some o → h'.get? b = some o) → Q none { s1.setGen g .finished with heap := h' }) :
    wpAny (model G.P G.w) A (pyNext (.ref a)) Q E s := by
  unfold pyNext
  refine wpAny_bind (wpAny_attempt (wpAny_callSpecial?_slot (name := Str.ofString "__next__") hg.typeIs slot_gen_next
    (wpAny_call_entry slot_gen_next hg.typeIs entry_gen_next ?_ (args_gen_next _))))
  show wpAny _ A.in1 (Builtin.Generator.genWake (.ref a) (.send .none)) _ _ s
  unfold Builtin.Generator.genWake
  refine wpAny_bind (wpAny_holding (wpAny_genNumber hg (wpAny_bind (wpAny_genState hgs ?_))))
  have hgo' : Go1 (model G.P G.w) A.in1 (Phi G all n (s.setGen g .running) H) gs (s.setGen g .running) := by
    rw [← hA]; exact hgo
  cases gs with
  | running => exact hgo.elim
  | finished => exact hgo.elim
  | _ =>
    refine wpAny_bind (wpAny_roomToWake hl hroom ?_)
    show wpAny _ A.in1 (.resume g (.send .none) [] _) _ _ s
    refine resume_go1 hgs hgo' fun e s1 he => ?_
    cases n with
    | zero =>
      cases e with
      | susp v g0 l0 k c p fs => exact he.elim
      | ret r =>
        obtain ⟨hr, H1, ok1⟩ := he
        refine ⟨rfl, ?_⟩
        have hres : End.result (.ret r) = .returned .none := by
          rcases hr with hr | hr <;> rw [hr] <;> rfl
        first | rw [hres] | simp only [hres]
        show wpAny _ A.in1 (newExc (.type "StopIteration") [] >>= _) _ _ _
        refine wpAny_bind ?_
        simp only [newExc, newTuple]
        refine wpAny_bind (wpAny_newObj_type ?_ (by size_fits))
        refine wpAny_bind (m := firstArgMember _ _) (wpAny_of_eq (a := Value.none) (by first | rfl | (simp only [firstArgMember]; rfl)) ?_)
        refine wpAny_newObj_type ?_ (by size_fits)
        simp only [raiseNew]
        refine wpAny_bind (wpAny_bind (wpAny_handled ?_))
        first | rw [show A.in1.handled = none from hh] | rw [hh]
        refine wpAny_throw ?_
        refine wpAny_bind (wpAny_isInstance (T := "StopIteration") (b := true) ⟨_, Heap.get?_push_size _ rfl, rfl⟩ isSubtype_stop ?_)
        exact wpAny_pure (hP s1 H1 rfl ok1 _ fun b o hb => Heap.get?_push_of_some _ (Heap.get?_push_of_some _ hb))
    | succ m =>
      cases e with
      | ret r => exact he.elim
      | susp v g0 l0 k c p fs =>
        have hq : (End.susp v g0 l0 k c p fs).quiet = true := he.1
        exact ⟨hq, wpAny_pure ⟨v, rfl, wpAny_pure (hY m v g0 l0 k c p fs s1 rfl he)⟩⟩
end
/-! ### the consumer's invariant behind a segment -/
/-- older than the generator: the consumer's frame, its cells, its pins -/
structure Older (X : Cx) (pins : List (Addr × Obj)) (L : Nat) : Prop where
  loc : @LT.lt Nat _ X.env.locals L
  cell : ∀ x (c : Nat), X.env.cells.lookup x = some c → c < L
  pin : ∀ p ∈ X.pn ++ pins, @LT.lt Nat _ p.1 L
  fs : ∀ (b : Nat), b ∈ frs X.stack → b < L
theorem Older.of {X : Cx} {pins : List (Addr × Obj)} {σ : L2.St} {H : Hp} {s : Shared} (I : L2.Inv X pins σ H s) : Older X pins s.heap.objs.size :=
  ⟨I.lt, fun x c e => let ⟨v, q⟩ := I.cell x c e; q.lt, fun p hp => Heap.lt_size (I.pin p hp).1, fun b hb => let ⟨_, o, ho, _⟩ := I.stack.mem hb; Heap.lt_size ho⟩
theorem Older.fp {X : Cx} {pins : List (Addr × Obj)} {L : Nat} {H : Hp} {b : Nat} (o : Older X pins L) (ok : X.Ok) (hs : frs X.outer ⊆ frs X.stack) (hb : L ≤ b) (hn : H b = none) : FpOk X pins H b :=
  ⟨hn, Nat.ne_of_gt (Nat.lt_of_lt_of_le o.loc hb), fun z => absurd (Nat.lt_of_lt_of_le (o.fs b (hs z)) hb) (Nat.lt_irrefl _), .inr (Nat.le_trans ok.above (Nat.le_trans (Nat.le_of_lt o.loc) hb)),
    fun x c e => Nat.ne_of_lt (Nat.lt_of_lt_of_le (o.cell x c e) hb), fun p hp => Nat.ne_of_lt (Nat.lt_of_lt_of_le (o.pin p hp) hb)⟩
theorem stk_sub {X : Cx} (ok : X.Ok) : frs X.outer ⊆ frs X.stack := by
  intro b hb
  rcases ok.stk with e | ⟨e, _⟩
  · rw [e]; exact hb
  · rw [e]
    unfold frs at hb ⊢
    rw [List.filterMap_cons]
    split
    · exact hb
    · exact List.mem_cons_of_mem _ hb
/-- what X needs is older than the generator, or among its guests -/
structure Kept (X : Cx) (pins : List (Addr × Obj)) (L : Nat) (gp : List (Addr × Obj)) : Prop where
  loc : @LT.lt Nat _ X.env.locals L ∨ ∃ o, (X.env.locals, o) ∈ gp
  cell : ∀ x (c : Nat), X.env.cells.lookup x = some c → c < L
  pin : ∀ p ∈ X.pn ++ pins, @LT.lt Nat _ p.1 L ∨ p ∈ gp
theorem Older.kept {X : Cx} {pins : List (Addr × Obj)} {L : Nat} (o : Older X pins L) (gp : List (Addr × Obj)) : Kept X pins L gp := ⟨.inl o.loc, o.cell, fun p hp => .inl (o.pin p hp)⟩
theorem inv_behind {X : Cx} {pins : List (Addr × Obj)} {σ : L2.St} {H H1 : Hp} {s s1 : Shared} {G : Gp} {gg : Nat} (I : L2.Inv X pins σ H s) (o : Kept X pins G.L G.pn) (hg0 : ∀ q ∈ G.pn, s.heap.get? q.1 = some q.2)
    (hex : ∀ b, G.L ≤ b → H b = none → b < s.heap.objs.size → (∀ q ∈ G.pn, q.1 ≠ b) → b ∈ X.ex ∨ X.s_0.heap.objs.size ≤ b) (hP : G.P = X.prog) (hw : G.w = X.w) (ho : G.outer = X.stack) (k : SegOk G (s.setGen gg .running) H H1 s1) : L2.Inv X pins σ H1 s1 := by
  have hh : (s.setGen gg .running).heap = s.heap := rfl
  refine I.call' (ch := (List.range s.heap.objs.size).filter fun b => decide (G.L ≤ b) && ((H b).isNone && G.pn.all fun q => decide (q.1 ≠ b))) (k.os.trans rfl) ?_ (by rw [← hP, ← hw]; exact k.hok) k.bare fun b hb => ?_
  · have un := k.un
    rw [ho, hh] at un
    have lt : ∀ b ob, s.heap.get? b = some ob → b ∉ ((List.range s.heap.objs.size).filter fun b => decide (G.L ≤ b) && ((H b).isNone && G.pn.all fun q => decide (q.1 ≠ b))) → b < G.L ∨ (∃ u, H b = some u) ∨ (b, ob) ∈ G.pn := fun b ob e hn => by
      rcases Nat.lt_or_ge b G.L with z | z
      · exact .inl z
      · cases hb : H b with
        | some u => exact .inr (.inl ⟨u, rfl⟩)
        | none =>
          refine .inr (.inr ?_)
          by_cases hq : ∃ q ∈ G.pn, q.1 = b
          · obtain ⟨q, hq, rfl⟩ := hq
            have := hg0 q hq
            rw [e] at this
            cases this
            exact hq
          · refine absurd (List.mem_filter.mpr ⟨List.mem_range.mpr (Heap.lt_size e), ?_⟩) hn
            simp only [hb, Option.isNone_none, Bool.true_and, Bool.and_eq_true, decide_eq_true_eq, List.all_eq_true]
            exact ⟨z, fun q hq' y => hq ⟨q, hq', y⟩⟩
    have cg : ∀ b ob, s.heap.get? b = some ob → b < G.L → (cutH s.heap G.L).get? b = some ob := fun b ob e z => by rw [cutH_get, if_pos z]; exact e
    refine ⟨fun b ob e n1 n2 n3 => ?_, fun b ob e n1 n2 n3 => ?_, fun b ob e n1 n3 => ?_, fun b ob e n3 => ?_, un.tups, un.frzs, un.tbls⟩
    · rcases lt b ob e n3 with z | ⟨u, z⟩ | z
      · exact un.keep b ob (cg b ob e z) n1 n2 (by simp)
      · rw [z] at n1; cases n1
      · exact (k.gst _ z).1
    · rcases lt b ob e n3 with z | ⟨u, z⟩ | z
      · exact un.slot b ob (cg b ob e z) n1 n2 (by simp)
      · rw [z] at n1; cases n1
      · exact ⟨ob.slots, (k.gst _ z).1⟩
    · rcases lt b ob e n3 with z | ⟨u, z⟩ | z
      · exact un.free b ob (cg b ob e z) n1 (by simp)
      · rw [z] at n1; cases n1
      · exact (k.gst _ z).2
    · rcases lt b ob e n3 with z | ⟨u, z⟩ | z
      · exact un.there b ob (cg b ob e z) (by simp)
      · cases q : s1.heap.get? b with
        | some o' => exact ⟨o', rfl⟩
        | none =>
          have := k.hok.gone q
          rw [k.ext b u z] at this; cases this
      · exact ⟨ob, (k.gst _ z).1⟩
  · obtain ⟨hb1, hb2⟩ := List.mem_filter.mp hb
    simp only [Bool.and_eq_true, decide_eq_true_eq, List.all_eq_true, Option.isNone_iff_eq_none] at hb2
    obtain ⟨hb2, hb3, hb4⟩ := hb2
    refine ⟨hex b hb2 hb3 (List.mem_range.mp hb1) hb4, fun z => ?_, fun x c e => Nat.ne_of_lt (Nat.lt_of_lt_of_le (o.cell x c e) hb2), fun p hp z => ?_⟩
    · rcases o.loc with y | ⟨u, y⟩
      · rw [← z] at y; exact absurd (Nat.lt_of_lt_of_le y hb2) (Nat.lt_irrefl _)
      · exact hb4 _ y z.symm
    · rcases o.pin p hp with y | y
      · rw [z] at y; exact absurd (Nat.lt_of_lt_of_le y hb2) (Nat.lt_irrefl _)
      · exact hb4 _ y z
theorem Older.hex {X : Cx} {pins : List (Addr × Obj)} {L : Nat} (o : Older X pins L) (ok : X.Ok) {b : Nat} (hb : L ≤ b) : b ∈ X.ex ∨ X.s_0.heap.objs.size ≤ b := .inr (Nat.le_trans ok.above (Nat.le_trans (Nat.le_of_lt o.loc) hb))
theorem inv_gens {X : Cx} {pins : List (Addr × Obj)} {σ : L2.St} {H : Hp} {s : Shared} {gens : Array GenState} (I : L2.Inv X pins σ H s) (h : AllBare gens) : L2.Inv X pins σ H { s with gens := gens } :=
  ⟨I.ok, I.os, h, I.base, I.loc, I.cell, I.free, I.freeC, I.pin, I.hok, I.len⟩
end GP

namespace GP
open PySem PySem.Spec L2 PyProof.Rows GenW DM
/-! ### the turns of a loop over a generator's object -/
def JG (K : PySem.W.Frag) (all : List D) : It := ⟨fun i _ => i < all.length, fun i H x H' => ∃ d, all[i]? = some d ∧ Ext H H' ∧ VR K [] H' x d, fun i _ => all.length ≤ i⟩
structure GObj (go : Obj) (g : Nat) : Prop where
  cls : go.cls = .type "generator"
  data : ∃ nm qn, go.data = .fields #[.int g 0, nm, qn]
  slots : go.slots = #[]
theorem GObj.isGen {go : Obj} {g : Nat} {h : Heap} {a : Addr} (o : GObj go g) (e : h.get? a = some go) : h.IsGen a g := let ⟨nm, qn, d⟩ := o.data; ⟨go, nm, qn, e, o.cls, d, o.slots⟩
/-- asleep at the i-th item: its own objects, the generator's object -/
def TnG (G : Gp) (all : List D) (a : Addr) (go : Obj) (g : Nat) (i : Nat) (s : Shared) (fp : List Addr) : Prop :=
  ∃ gs objs, s.gens[g]? = some gs ∧ fp = a :: objs.map (·.1) ∧ s.heap.get? a = some go ∧ @LT.lt Nat _ G.L a ∧ (∀ q ∈ objs, s.heap.get? q.1 = some q.2 ∧ @LE.le Nat _ G.L q.1 ∧ q.1 ≠ a ∧ ∀ v, q.2.data ≠ .cell v) ∧ ∀ gp s' H', Wake (G.wi gp) objs s' H' → NextOk (G.wi gp) all (all.length - i) gs s' H'
theorem GObj.nocell {go : Obj} {g : Nat} (h : GObj go g) : ∀ v, go.data ≠ .cell v := fun v z => by
  obtain ⟨nm, qn, d⟩ := h.data
  rw [d] at z; cases z
/-- the room that a resume needs -/
structure AOk (X : Cx) (A : Around) : Prop where
  hd : A.handled = none
  room : A.depth < recursionLimit
  frs : A.frames = X.A.frames
section
variable {X : Cx} {pins : List (Addr × Obj)} {all : List D} {N : List Str} {qual : Str} {sc : Scope} {f : Addr} {cd : Value} {L g : Nat} {a : Addr} {go : Obj} {σ : L2.St} {H : Hp} {s : Shared} {fp : List Addr} {E : Value → Shared → Prop} {A : Around}
/-- the guests of a resume, beside the generator's object -/
def GstOk (L : Nat) (fp : List Addr) (gp : List (Addr × Obj)) (s : Shared) (H : Hp) : Prop := ∀ q ∈ gp, s.heap.get? q.1 = some q.2 ∧ H q.1 = none ∧ @LT.lt Nat _ L q.1 ∧ (∀ v, q.2.data ≠ .cell v) ∧ q.1 ∉ fp
theorem wake_of {objs gp : List (Addr × Obj)} (hfA : A.frames = X.A.frames) (hgo : GObj go g) (hLf : ∀ (b : Nat), b ∈ frs X.stack → b < L) (I : L2.Inv X pins σ H s) (ha : s.heap.get? a = some go) (hLa : @LT.lt Nat _ L a) (ho : ∀ q ∈ objs, s.heap.get? q.1 = some q.2 ∧ @LE.le Nat _ L q.1 ∧ q.1 ≠ a ∧ ∀ v, q.2.data ≠ .cell v)
    (hn : ∀ b ∈ a :: objs.map (·.1), H b = none) (hg : GstOk L (a :: objs.map (·.1)) gp s H) : Wake ⟨X.prog, X.w, X.K, X.mg, X.base, N, qual, sc, f, cd, A.in1, X.stack, L, (a, go) :: gp⟩ objs (s.setGen g .running) H := by
  have e0 := I.env0
  refine ⟨⟨hfA.trans e0.frames, e0.mod, e0.bs, e0.bsz, e0.funs, e0.frf, e0.hok, allBare_setGen e0.bare rfl⟩, fun q hq => (ho q hq).1, fun q hq => hn q.1 (List.mem_cons_of_mem _ (List.mem_map.mpr ⟨q, hq, rfl⟩)), fun q hq => ?_⟩
  rcases List.mem_cons.mp hq with rfl | hq
  · exact ⟨ha, hn a List.mem_cons_self, Nat.ne_of_gt hLa, fun z => absurd (Nat.lt_trans (hLf _ z) hLa) (Nat.lt_irrefl _), hgo.nocell, fun p hp => (ho p hp).2.2.1⟩
  · obtain ⟨q1, q2, q3, q4, q5⟩ := hg q hq
    exact ⟨q1, q2, Nat.ne_of_gt q3, fun z => absurd (Nat.lt_trans (hLf _ z) q3) (Nat.lt_irrefl _), q4, fun p hp z => q5 (by rw [← z]; exact List.mem_cons_of_mem _ (List.mem_map.mpr ⟨p, hp, rfl⟩))⟩
/-- what the consumer's context needs of a resume -/
structure Cons (X : Cx) (pins : List (Addr × Obj)) (L : Nat) (a : Addr) (go : Obj) (gp : List (Addr × Obj)) (s : Shared) (H : Hp) : Prop where
  kept : Kept X pins L ((a, go) :: gp)
  hex : ∀ b, L ≤ b → H b = none → b < s.heap.objs.size → (∀ q ∈ (a, go) :: gp, q.1 ≠ b) → b ∈ X.ex ∨ X.s_0.heap.objs.size ≤ b
  fs : ∀ (b : Nat), b ∈ frs X.stack → b < L
abbrev gpOf (X : Cx) (A : Around) (N : List Str) (qual : Str) (sc : Scope) (f : Addr) (cd : Value) (L : Nat) : Gp := ⟨X.prog, X.w, X.K, X.mg, X.base, N, qual, sc, f, cd, A.in1, X.stack, L, []⟩
theorem resume_item {i : Nat} {gp : List (Addr × Obj)} (hgo : GObj go g) (hA : AOk X A) (I : L2.Inv X pins σ H s) (C : Cons X pins L a go gp s H) (t : TnG (gpOf X A N qual sc f cd L) all a go g i s fp) (hn : ∀ b ∈ fp, H b = none) (hg : GstOk L fp gp s H) (hi : i < all.length) :
    wpAny (model X.prog X.w) A (pyNext (.ref a)) (fun r s1 => ∃ u x d H1 fp', r = some u ∧ all[i]? = some d ∧ L2.Inv X pins σ H1 s1 ∧ RelV x u ∧ Ext H H1 ∧ VR X.K [] H1 x d ∧ TnG (gpOf X A N qual sc f cd L) all a go g (i + 1) s1 fp' ∧ (∃ y, s1.gens[g]? = some y ∧ isSusp y = true) ∧ (∀ b ∈ fp', H1 b = none ∧ @LE.le Nat _ L b) ∧ GstOk L fp' gp s1 H1) E s := by
  obtain ⟨gs, objs, e1, rfl, ha, hLa, ho, hnx⟩ := t
  have hgl : g < s.gens.size := (Array.getElem?_eq_some_iff.mp e1).1
  have wk := wake_of (N := N) (qual := qual) (sc := sc) (f := f) (cd := cd) hA.frs hgo C.fs I ha hLa ho hn hg
  refine wpAny_gsz (n := g + 1) hgl (next_gen1 (G := (gpOf X A N qual sc f cd L).wi ((a, go) :: gp)) rfl hA.hd I.nolimit hA.room (hgo.isGen ha) e1 (hnx _ _ _ wk) (fun m v g0 l0 k c p fs s1 hm phi => ?_) fun s1 H1 hz => ?_)
  · intro hsz
    obtain ⟨hq, d, x, H1, objs', hd', rv, vr, sok, ho', hpn, hnx'⟩ := phi
    have I1 : L2.Inv X pins σ H1 s1 := inv_behind (G := (gpOf X A N qual sc f cd L).wi ((a, go) :: gp)) I C.kept (fun q hq => (wk.gst q hq).1) C.hex rfl rfl rfl sok
    have I2 : L2.Inv X pins σ H1 (s1.setGen g (End.susp v g0 l0 k c p fs).genState) := inv_gens I1 (allBare_setGen I1.bare (End.bare_of_quiet hq))
    have hs1 : g < s1.gens.size := by
      have q : (s1.setGen g (End.susp v g0 l0 k c p fs).genState).gens.size = s1.gens.size := setGen_size _ _ _
      have hsz' : g + 1 ≤ (s1.setGen g (End.susp v g0 l0 k c p fs).genState).gens.size := hsz
      omega
    obtain ⟨ga, gn⟩ := sok.gst (a, go) List.mem_cons_self
    refine ⟨v, x, d, H1, a :: objs'.map (·.1), rfl, ?_, I2, rv, sok.ext, vr, ⟨_, objs', setGen_at hs1, rfl, ga, hLa, fun q hq' => let ⟨h1, _, h3, h4⟩ := ho' q hq'; ⟨h1, h3, hpn (a, go) List.mem_cons_self q hq', h4⟩, fun gp' s' H' w' => ?_⟩, ⟨_, setGen_at hs1, rfl⟩, fun b hb => ?_, fun q hq' => ?_⟩
    · rw [show i = all.length - (m + 1) by omega]; exact hd'
    · have em : all.length - (i + 1) = m := by omega
      rw [em]
      exact hnx' gp' s' H' w'
    · rcases List.mem_cons.mp hb with rfl | hb
      · exact ⟨gn, Nat.le_of_lt hLa⟩
      · obtain ⟨q, hq', rfl⟩ := List.mem_map.mp hb
        obtain ⟨_, h2, h3, _⟩ := ho' q hq'
        exact ⟨h2, h3⟩
    · obtain ⟨z1, z2⟩ := sok.gst q (List.mem_cons_of_mem _ hq')
      obtain ⟨_, _, q3, q4, q5⟩ := hg q hq'
      refine ⟨z1, z2, q3, q4, fun z => ?_⟩
      rcases List.mem_cons.mp z with z | z
      · exact q5 (by rw [z]; exact List.mem_cons_self)
      · obtain ⟨p', hp', e'⟩ := List.mem_map.mp z
        exact hpn q (List.mem_cons_of_mem _ hq') p' hp' e'
  · omega
theorem resume_done {i : Nat} {gp : List (Addr × Obj)} (hgo : GObj go g) (hA : AOk X A) (I : L2.Inv X pins σ H s) (C : Cons X pins L a go gp s H) (t : TnG (gpOf X A N qual sc f cd L) all a go g i s fp) (hn : ∀ b ∈ fp, H b = none) (hg : GstOk L fp gp s H) (hi : all.length ≤ i) :
    wpAny (model X.prog X.w) A (pyNext (.ref a)) (fun r s1 => r = none ∧ ∃ H1, L2.Inv X pins σ H1 s1 ∧ Ext H H1 ∧ ∀ q ∈ gp, s1.heap.get? q.1 = some q.2 ∧ H1 q.1 = none) E s := by
  obtain ⟨gs, objs, e1, rfl, ha, hLa, ho, hnx⟩ := t
  have wk := wake_of (N := N) (qual := qual) (sc := sc) (f := f) (cd := cd) hA.frs hgo C.fs I ha hLa ho hn hg
  refine next_gen1 (G := (gpOf X A N qual sc f cd L).wi ((a, go) :: gp)) rfl hA.hd I.nolimit hA.room (hgo.isGen ha) e1 (hnx _ _ _ wk) (fun m v g0 l0 k c p fs s1 hm phi => ?_) fun s1 H1 hz sok h' hk => ?_
  · omega
  · have I1 : L2.Inv X pins σ H1 s1 := inv_behind (G := (gpOf X A N qual sc f cd L).wi ((a, go) :: gp)) I C.kept (fun q hq => (wk.gst q hq).1) C.hex rfl rfl rfl sok
    have I2 : L2.Inv X pins σ H1 (s1.setGen g .finished) := inv_gens I1 (allBare_setGen I1.bare rfl)
    exact ⟨rfl, H1, I2.kept (t' := s1.toks) hk, sok.ext, fun q hq => let ⟨z1, z2⟩ := sok.gst q (List.mem_cons_of_mem _ hq); ⟨hk _ _ z1, z2⟩⟩
theorem Older.cons (old : Older X pins L) (ok : X.Ok) (gp : List (Addr × Obj)) : Cons X pins L a go gp s H := ⟨old.kept _, fun b hb _ _ _ => old.hex ok hb, old.fs⟩
theorem gturn {tg : Expr} (hgo : GObj go g) (old : Older X pins L) (hA : AOk X X.A) :
    GTurn X tg (JG X.K all) g a pins (TnG (gpOf X X.A N qual sc f cd L) all a go g) := by
  refine ⟨fun i s fp t b hb => ?_, fun i s s' fp pins' σ H t I hk hg => ?_, fun i s σ H fp I hf t hi => ?_, fun i s σ H fp I hf t hi => ?_⟩
  · obtain ⟨gs, objs, _, rfl, ha, _, ho, _⟩ := t
    rcases List.mem_cons.mp hb with rfl | hb
    · exact ⟨go, ha, hgo.nocell⟩
    · obtain ⟨q, hq, rfl⟩ := List.mem_map.mp hb
      obtain ⟨h1, _, _, h3⟩ := ho q hq
      exact ⟨q.2, h1, h3⟩
  · obtain ⟨gs, objs, e1, rfl, ha, hLa, ho, hn⟩ := t
    exact ⟨gs, objs, hg.trans e1, rfl, hk a List.mem_cons_self go ha, hLa, fun q hq => let ⟨h1, h2, h3⟩ := ho q hq; ⟨hk q.1 (List.mem_cons_of_mem _ (List.mem_map.mpr ⟨q, hq, rfl⟩)) q.2 h1, h2, h3⟩, hn⟩
  · refine wpAny_mono (resume_item (E := X.xe) (gp := []) hgo hA I (old.cons I.ok []) t (fun b hb => (hf b hb).1) (fun q hq => by simp at hq) hi) (fun r s1 h => ?_) fun _ _ z => z
    obtain ⟨u, x, d, H1, fp', rfl, hd, I1, rv, ex, vr, t1, hs, hfp, _⟩ := h
    have hga : s1.heap.get? a = some go := let ⟨_, _, _, _, ha, _⟩ := t1; ha
    obtain ⟨nm, qn, hdt⟩ := hgo.data
    exact ⟨u, rfl, go_of (n := "generator") hga hgo.cls hdt (by decide) ⟨x, H1, fp', I1, rv, ⟨d, hd, ex, vr⟩, t1, hs, fun b hb => old.fp I.ok (stk_sub I.ok) (hfp b hb).2 (hfp b hb).1⟩⟩
  · refine wpAny_mono (resume_done (E := X.xe) (gp := []) hgo hA I (old.cons I.ok []) t (fun b hb => (hf b hb).1) (fun q hq => by simp at hq) hi) (fun r s1 h => ?_) fun _ _ z => z
    obtain ⟨hr, H1, I1, ex, _⟩ := h
    exact ⟨hr, H1, I1, ex⟩
end
end GP

namespace GP
open PySem PySem.Spec L2 PyProof.Rows GenW DM
/-! ### data of atoms and tuples -/
mutual
def tupl : D → Bool
  | .non => true
  | .bl _ => true
  | .int _ => true
  | .str _ => true
  | .tup xs => tupls xs
  | _ => false
def tupls : List D → Bool
  | [] => true
  | x :: r => tupl x && tupls r
end
theorem wf_tup_out {K : PySem.W.Frag} {ι : List Addr} {μ : Store} {H : Hp} {a : Addr} {o : Obj} {vs : List V} (w : WF K ι μ H) (h : H a = some (.frz o (.tup vs))) : a ∉ ι := fun m => by
  obtain ⟨i, hi⟩ := List.getElem?_of_mem m
  obtain ⟨ob, _, q⟩ := w.has hi
  cases ob with
  | lst ds => obtain ⟨us, e, _⟩ := q; rw [h] at e; cases e
  | obj C fs => obtain ⟨dx, gs, e, _⟩ := q; rw [h] at e; cases e
  | dct kvs => obtain ⟨qs, e, _⟩ := q; rw [h] at e; cases e
  | dcl kvs => obtain ⟨o', qs, e, _⟩ := q; rw [h] at e; cases e
  | dtt kvs => obtain ⟨qs, e, _⟩ := q; rw [h] at e; cases e
  | exc C fs => obtain ⟨d, gs, ⟨_, _, e, _⟩, _⟩ := q; rw [h] at e; cases e
  | tab tx => obtain ⟨_, ps, e, _⟩ := q; rw [h] at e; cases e
  | dnk kvs => obtain ⟨bs, vs, e, _⟩ := q; rw [h] at e; cases e
theorem wf_tup_out2 {K : PySem.W.Frag} {ι : List Addr} {μ : Store} {H : Hp} {a : Addr} {vs : List V} (w : WF K ι μ H) (h : H a = some (.tup vs)) : a ∉ ι := fun m => by
  obtain ⟨i, hi⟩ := List.getElem?_of_mem m
  obtain ⟨ob, _, q⟩ := w.has hi
  cases ob with
  | lst ds => obtain ⟨us, e, _⟩ := q; rw [h] at e; cases e
  | obj C fs => obtain ⟨dx, gs, e, _⟩ := q; rw [h] at e; cases e
  | dct kvs => obtain ⟨qs, e, _⟩ := q; rw [h] at e; cases e
  | dcl kvs => obtain ⟨o', qs, e, _⟩ := q; rw [h] at e; cases e
  | dtt kvs => obtain ⟨qs, e, _⟩ := q; rw [h] at e; cases e
  | exc C fs => obtain ⟨d, gs, ⟨_, _, e, _⟩, _⟩ := q; rw [h] at e; cases e
  | tab tx => obtain ⟨_, ps, e, _⟩ := q; rw [h] at e; cases e
  | dnk kvs => obtain ⟨bs, vs, e, _⟩ := q; rw [h] at e; cases e
mutual
theorem vr_any {K : PySem.W.Frag} {ι : List Addr} {μ : Store} {H : Hp} (w : WF K ι μ H) : ∀ {v : V} {d : D}, tupl d = true → VR K [] H v d → VR K ι H v d
  | _, _, _, .non => .non
  | _, _, _, .bl b => .bl b
  | _, _, _, .int i => .int i
  | _, _, _, .str x => .str x
  | _, _, t, .tup h r => by
    refine .tup ?_ (vrs_any w t r)
    rcases h with ⟨⟨o, h, d⟩, _⟩ | h | ⟨h, _, q⟩
    · exact .inl ⟨⟨o, h, d⟩, wf_tup_out w h⟩
    · exact .inr (.inl h)
    · exact .inr (.inr ⟨h, wf_tup_out2 w h, q⟩)
  | _, _, t, .lst h r => by simp [tupl] at t
  | _, _, t, .fl h r => by simp [tupl] at t
  | _, _, t, .ref h => by simp [tupl] at t
theorem vrs_any {K : PySem.W.Frag} {ι : List Addr} {μ : Store} {H : Hp} (w : WF K ι μ H) : ∀ {vs : List V} {ds : List D}, tupls ds = true → VRs K [] H vs ds → VRs K ι H vs ds
  | _, _, _, .nil => .nil
  | _, _, t, .cons h r => by
    simp only [tupls, Bool.and_eq_true] at t
    exact .cons (vr_any w t.1 h) (vrs_any w t.2 r)
end
theorem ext_le {K : PySem.W.Frag} {ι : List Addr} {μ : Store} {H H' : Hp} (e : Ext H H') (w : WF K ι μ H) : Le ι H ι H' ∧ WF K ι μ H' := by
  have l : Le ι H ι H' := ⟨fun _ _ h => h, fun _ h n => absurd h n, fun a o _ h => e a o h, fun a o u h => e a _ h⟩
  refine ⟨l, w.len, w.nd, fun i a o hi ho => (w.ob i a o hi ho).mono l ?_⟩
  obtain ⟨u, hu⟩ := (w.ob i a o hi ho).has
  rw [hu]; exact e a u hu
theorem itr_JG {K : PySem.W.Frag} {ι0 : List Addr} {H0 : Hp} {items : List D} (ht : ∀ d ∈ items, tupl d = true) : ItR K ι0 H0 (JG K items) (items, anyG) := by
  intro i ι μ H _ w _
  refine ⟨fun d hd => ⟨(List.getElem?_eq_some_iff.mp hd).1, fun x H' y => ?_⟩, fun h => h⟩
  obtain ⟨d', hd', e, v⟩ := y
  have hd : items[i]? = some d := hd
  rw [hd] at hd'; cases hd'
  obtain ⟨l, w'⟩ := ext_le e w
  exact ⟨l, w', vr_any w' (ht d (List.mem_of_getElem? hd)) v⟩
/-! ### for over a generator's call -/
theorem ds_forG {X : Cx} {W : DW} {tg iter : Expr} {body : List Stmt} {I : CM IV} {g : TG} {f : D → Rho → Option Rho} {own : List Nat} {S : SF} {pos : Pos} (hx : ∀ e s, ¬ X.xe e s) (hp : PassesOwn (model X.prog X.w) X.A X.env X.xe) (hi : PIG X tg iter (tI X.K W I)) (hg : PG X tg g) (ht : TgOk X.K g f own) (hb : PSs X body (sD X.K W S))
    (hs : ∀ x, foldedSetIterable iter X.env x = pure x := by intro _; rfl) : PS X (.For tg iter body [] pos) (sD X.K W (sFor I f S)) := (ps_forG hx hp hi hg hb hs).imp fun T σ H ⟨ρ, ι, μ, sr, wf, h⟩ => by
  refine tG.mono (PostS.bind sr wf h) ?_
  rintro J H1 ⟨ι1, μ1, ⟨items, gd⟩, l1, w1, hJ, h1⟩
  have h1 : PostS X.K W T ι1 H1 (loop gd f S items ρ μ1) := h1
  refine ⟨fun i m σ' H' => ∃ ρ' ι' μ', DM.SR X.K ι' H' σ' ρ' ∧ WF X.K ι' μ' H' ∧ Le ι1 H1 ι' H' ∧ m = items.length - i ∧ i ≤ items.length ∧ PostS X.K W T ι' H' (loop gd f S (items.drop i) ρ' μ'),
    ⟨items.length, ρ, ι1, μ1, sr.mono l1, w1, Le.refl _ _, rfl, Nat.zero_le _, h1⟩, ?_⟩
  rintro i m σ2 H2 ⟨ρ2, ι2, μ2, sr2, w2, l2, rfl, hi2, h2⟩
  by_cases hlt : i < items.length
  · refine .inr ?_
    rw [List.drop_eq_getElem_cons hlt] at h2
    obtain ⟨hgd, h2⟩ := PostS.guard h2
    obtain ⟨go, _⟩ := hJ i ι2 μ2 H2 l2 w2 hgd
    obtain ⟨jg, jy⟩ := go _ (List.getElem?_eq_getElem hlt)
    refine ⟨jg, fun σ' H' => ∃ ρ' ι' μ', DM.SR X.K ι' H' σ' ρ' ∧ WF X.K ι' μ' H' ∧ Le ι1 H1 ι' H' ∧ PostS X.K W T ι' H' (loop gd f S (items.drop (i + 1)) ρ' μ'), fun σ' H' ⟨ρ', ι', μ', a, b, c, d⟩ => ⟨items.length - (i + 1), by omega, ρ', ι', μ', a, b, c, rfl, hlt, d⟩, fun x H3 y => ?_⟩
    obtain ⟨l3, w3, v3⟩ := jy x H3 y
    split at h2
    · rename_i ρ3 eg
      refine ht x _ σ2 ρ2 ρ3 ι2 μ2 H3 _ (sr2.mono l3) w3 v3 eg fun σ3 sr3 _ => ⟨ρ3, ι2, μ2, sr3, w3, ?_⟩
      have h3 := PostS.from l3 h2
      have L := l2.trans l3
      match S ρ3 μ2, h3 with
      | some (.nx ρ4, μ4), h3 => exact fun σ4 ι4 H4 l w s => ⟨ρ4, ι4, μ4, s, w, L.trans l, PostS.from l h3⟩
      | some (.ct ρ4, μ4), h3 => exact fun σ4 ι4 H4 l w s => ⟨ρ4, ι4, μ4, s, w, L.trans l, PostS.from l h3⟩
      | some (.bk ρ4, μ4), h3 => exact h3
      | some (.rt d, μ4), h3 => exact h3
      | some (.ex x ρ4, μ4), h3 => exact h3
    · exact h2.elim
  · have e : i = items.length := by omega
    subst e
    rw [List.drop_length] at h2
    obtain ⟨hgd, h2⟩ := PostS.guard h2
    obtain ⟨_, st⟩ := hJ items.length ι2 μ2 H2 l2 w2 hgd
    refine .inl ⟨st (Nat.le_refl _), fun H' e => ?_⟩
    obtain ⟨l', w'⟩ := ext_le e w2
    exact (PostS.from l' h2).nx0 w' (sr2.mono l')
end GP

namespace GP
open PySem PySem.Spec L2 PyProof.Rows GenW DM
/-! ### a generator def's contract -/
def atomsV : List D → Option (List V)
  | [] => some []
  | d :: r => match atomV d, atomsV r with
    | some v, some vs => some (v :: vs)
    | _, _ => none
theorem vr_atom {K : PySem.W.Frag} {ι : List Addr} {H : Hp} {d : D} {v u : V} (h : atomV d = some u) (r : VR K ι H v d) : v = u := by
  cases r <;> simp [atomV] at h <;> first | exact h | exact h.symm | (subst h; rfl)
theorem vrs_atoms {K : PySem.W.Frag} {ι : List Addr} {H : Hp} : ∀ {ds : List D} {vs us : List V}, atomsV ds = some us → VRs K ι H vs ds → vs = us
  | [], vs, us, h, r => by cases r; simp [atomsV] at h; exact h.symm
  | d :: ds, vs, us, h, r => by
    cases r with
    | cons h1 h2 =>
      unfold atomsV at h
      split at h
      · rename_i v vs' e1 e2
        cases h
        rw [vr_atom e1 h1, vrs_atoms e2 h2]
      · cases h
theorem atoms_len : ∀ {ds : List D} {us : List V}, atomsV ds = some us → us.length = ds.length
  | [], us, h => by simp [atomsV] at h; rw [h]; rfl
  | d :: ds, us, h => by
    unfold atomsV at h
    split at h
    · rename_i v vs e1 e2
      cases h
      simp [atoms_len e2]
    · cases h
theorem atoms_at : ∀ {ds : List D} {us : List V} {i : Nat} {d : D}, atomsV ds = some us → ds[i]? = some d → ∃ v, us[i]? = some v ∧ atomV d = some v
  | [], us, i, d, h, e => by simp at e
  | x :: ds, us, i, d, h, e => by
    unfold atomsV at h
    split at h
    · rename_i v vs e1 e2
      cases h
      cases i with
      | zero => simp at e; subst e; exact ⟨v, rfl, e1⟩
      | succ i =>
        obtain ⟨w, a, b⟩ := atoms_at e2 (by simpa using e)
        exact ⟨w, by simpa using a, b⟩
    · cases h
structure GMd (P : Program) (w : World) (K : PySem.W.Frag) (mg : Str → Option Value) (base : Heap) (k : Nat) (outer : List Env) (s : Shared) (f : Addr) (items : List D) (u : Value) (s' : Shared) : Prop where
  ex : ∃ (a : Addr) (g : Nat) (go oL : Obj) (N : List Str) (qual : Str) (sc : Scope) (cd : Value) (c : Code), u = .ref a ∧ GObj go g ∧ s'.heap.get? a = some go ∧ @LT.lt Nat _ s.heap.objs.size a ∧ s'.gens[g]? = some (.fresh c) ∧ s'.os = s.os ∧ AllBare s'.gens ∧
    (∀ b o, s.heap.get? b = some o → s'.heap.get? b = some o) ∧ s'.heap.get? s.heap.objs.size = some oL ∧ (∀ v, oL.data ≠ .cell v) ∧
    ∀ A', Room k A' → A'.frames = some outer → ∀ gp s2 H2, Wake ⟨P, w, K, mg, base, N, qual, sc, f, cd, A', outer, s.heap.objs.size, gp⟩ [(s.heap.objs.size, oL)] s2 H2 →
      NextOk ⟨P, w, K, mg, base, N, qual, sc, f, cd, A', outer, s.heap.objs.size, gp⟩ items items.length (.fresh c) s2 H2
structure GnG (P : Program) (w : World) (K : PySem.W.Frag) (mg : Str → Option Value) (base : Heap) (k : Nat) (f : Addr) (fd : FuncData) (ps : List Str) (Fg : List D → Option (List D)) : Prop where
  go : ∀ {A : Around} {outer : List Env} {s : Shared} {H : Hp} {args : Args} {us : List Value} {vs : List V} {ds items : List D}, Room k A → Env0 P w K mg base A outer s H → BindsTo s fd args (ps.zip us) → Vals vs us → atomsV ds = some vs → vs.length = ps.length → Fg ds = some items →
    codeAny (model P w) A (.call (.ref f) args) (fun r s' => match r with | .ok (.ret u) => GMd P w K mg base k outer s f items u s' | _ => False) s
theorem Gp.Ok.mkInv {G : Gp} (ok : G.Ok) {s : Shared} {H : Hp} {ip : List (Addr × Obj)} {σ : L2.St} (e0 : G.E0 s H)
    (loc : ∃ m, s.heap.Ns G.L m ∧ ∀ (i : Nat) (x : Str) (v : V), G.N[i]? = some x → σ[i]? = some (some v) → Vis G.sc x → ∃ u, RelV v u ∧ Look G.env s.heap m x u) (hL : H G.L = none)
    (pin : ∀ p ∈ G.pn ++ ip, s.heap.get? p.1 = some p.2 ∧ H p.1 = none ∧ p.1 ≠ G.L ∧ p.1 ∉ frs G.outer ∧ ∀ v, p.2.data ≠ .cell v) (len : σ.length = G.N.length) : L2.Inv (G.X s H) ip σ H s :=
  ⟨ok.cx e0, rfl, e0.bare, ⟨fun b o e _ _ _ => (cutH_some e).2, fun b o e _ _ _ => ⟨o.slots, (cutH_some e).2⟩, fun b o _ h _ => h, fun b o e _ => ⟨o, (cutH_some e).2⟩, fun _ _ h => h, fun _ _ _ h => h, fun b ps h => ⟨#[], by have h' : H b = some (HO.tbl ps) := h; rw [h']; simp⟩⟩,
    loc, fun x c h => (ok.nocell h).elim, hL, fun x c h => (ok.nocell h).elim, pin, e0.hok, len⟩
/-- THE RULE: a generator def, by its body -/
theorem gng_of {P : Program} {w : World} {K : PySem.W.Frag} {mg : Str → Option Value} {base : Heap} {k : Nat} {f : Addr} {name qual : Str} {params : Arguments} {body : List Stmt} {scope : Scope} {kws : List (Str × V)} {fd : FuncData}
    {N ps : List Str} {Fb : GD} (Fd : FunD K name qual params body scope [] kws f fd) (S : GScope N ps scope) (hce : ∀ n, cellsFrom n scope.names [] = []) (hnc : ∀ x, scope.names.lookup x ≠ some .cell ∧ scope.names.lookup x ≠ some .free)
    (hbody : ∀ (cdv : Value) (A' : Around) (outer : List Env) (L : Nat) (pn : List (Addr × Obj)) (items : List D), Room k (A'.deeper (envOfC qual scope L f cdv)) → Gp.Ok ⟨P, w, K, mg, base, N, qual, scope, f, cdv, A', outer, L, pn⟩ → GSD ⟨P, w, K, mg, base, N, qual, scope, f, cdv, A', outer, L, pn⟩ items body Fb) :
    GnG P w K mg base (k + 1) f fd ps (fun ds => (Fb (startR N.length ds)).map (·.1)) := by
  obtain ⟨oc, od, dV, kV, doc, pm, an, cdv, ct, osl, rfl, lk, hcd, _, _⟩ := Fd.ex
  refine ⟨fun {A outer s H args us vs ds items} hr e0 hb r hat hl hF => ?_⟩
  have KX : K.In s.heap := e0.mod.kin.keeps fun b o e => (e0.bs b o e).1
  have lim : s.heap.NoLimit := e0.mod.nolimit.keeps fun b o e => (e0.bs b o e).1
  have hkind : ∀ y ∈ ps.zip us, scope.names.lookup y.1 = some .local ∨ (scope.names.lookup y.1 = some .cell ∧ ((cellsFrom (s.heap.objs.size + 1) scope.names []).lookup y.1).isSome = true) := fun ⟨n, v⟩ hy => by
    rcases S.par n (List.of_mem_zip hy).1 with q | q
    · exact .inl q
    · exact .inr ⟨q, PySem.W.cellsFrom_some _ _ _ (.inl q)⟩
  refine codeAny_call_generator hr.depth (KX _ _ lk) rfl S.co S.gen rfl (PySem.W.codeRec_of KX hcd) (hb _ _ _ _ ?_)
  refine wpAny_newFunctionEnv_cells S.kind hkind fun env he s1 x => ?_
  subst he
  have lim1 : s1.heap.NoLimit := lim.keeps x.toInCall.keep
  refine ⟨lim1, ?_⟩
  obtain ⟨h1, tk, es1, hk1⟩ := x.done
  have os1 : s1.os = s.os := by rw [es1]
  have gen1 : s1.gens = s.gens := by rw [es1]
  have lt1 : s.heap.objs.size < s1.heap.objs.size := x.toInCall.ns.lt
  have kp1 : ∀ b o, s.heap.get? b = some o → s1.heap.get? b = some o := x.toInCall.keep
  have I1 := inv_startG (E := fun _ _ _ => False) S hr.hd e0 hl r x
  obtain ⟨m, hm, hloc⟩ := I1.loc
  obtain ⟨oL, esL, epL, hoL, hdL, hrest⟩ := id hm
  have hoL : s1.heap.get? s.heap.objs.size = some oL := hoL
  have main : ∀ (go : Obj) (nm qn : Value) (tk2 : Nat), go.cls = .type "generator" → go.data = .fields #[.int s1.gens.size 0, nm, qn] → go.slots = #[] → (∀ h : Heap, (h.push go).get? h.objs.size = some go) →
      GMd P w K mg base (k + 1) outer s f items (.ref s1.heap.objs.size) { s1 with gens := s1.gens.push (.fresh (.func body (envOfC qual scope s.heap.objs.size f cdv))), toks := tk2, heap := s1.heap.push go } := by
    intro go nm qn tk2 hgc hgd0 hgs hgp
    refine ⟨s1.heap.objs.size, s1.gens.size, go, oL, N, qual, scope, cdv, _, rfl, ⟨hgc, ⟨nm, qn, hgd0⟩, hgs⟩, hgp _, lt1, Array.getElem?_push_size .., os1, AllBare.push (by rw [gen1]; exact e0.bare) rfl, fun b o e => Heap.get?_push_of_some _ (kp1 b o e), Heap.get?_push_of_some _ hoL, fun v z => (by rw [hdL] at z; cases z), ?_⟩
    intro A' hr' hfr gp s2 H2 wk
    have ok : Gp.Ok ⟨P, w, K, mg, base, N, qual, scope, f, cdv, A', outer, s.heap.objs.size, gp⟩ := ⟨S.kind, S.co, hce _, hnc, hr'.hd, e0.bsz, fun b hb => by
      obtain ⟨_, o, ho, _⟩ := e0.funs.mem hb
      exact Heap.lt_size ho⟩
    have hob := hbody cdv A' outer s.heap.objs.size gp items (hr'.deeper _) ok
    have keepL : s2.heap.get? s.heap.objs.size = some oL := wk.at_ _ List.mem_cons_self
    have I2 : L2.Inv (Gp.X ⟨P, w, K, mg, base, N, qual, scope, f, cdv, A', outer, s.heap.objs.size, gp⟩ s2 H2) [] (start N vs) H2 s2 := by
      refine ok.mkInv wk.e0 ⟨m, hm.at' fun o e => ?_, fun i y v h1 h2 h3 => ?_⟩ (wk.no _ List.mem_cons_self) (fun p hp => ?_) I1.len
      · have e : s1.heap.get? s.heap.objs.size = some o := e
        rw [hoL] at e; cases e
        exact keepL
      · obtain ⟨u, ru, lk⟩ := hloc i y v h1 h2 h3
        refine ⟨u, ru, ?_⟩
        rcases lk with ⟨k1, k2⟩ | ⟨k1, _⟩
        · exact .inl ⟨k1, k2⟩
        · have k1 : scope.names.lookup y = some .cell ∨ scope.names.lookup y = some .free := k1
          rcases k1 with z | z
          · exact absurd z (hnc y).1
          · exact absurd z (hnc y).2
      · have hp : p ∈ gp := by simpa using hp
        obtain ⟨a1, a2, a3, a4, a5, _⟩ := wk.gst p hp
        exact ⟨a1, a2, a3, a4, a5⟩
    have sa : SA (start N vs) (startR N.length ds) := by
      have hvl := atoms_len hat
      have hpl : ps.length ≤ N.length := by have := congrArg List.length S.pre; rw [List.length_take] at this; omega
      have hN : (L2.start N vs).length = N.length := I1.len
      refine ⟨by rw [hN]; unfold startR; simp; omega, fun i d e => ?_⟩
      have hi : i < ds.length := by
        unfold startR at e
        by_cases hi : i < ds.length
        · exact hi
        · rw [List.getElem?_append_right (by simpa using hi), List.getElem?_replicate] at e
          split at e <;> cases e
      have ed : ds[i]? = some d := by
        unfold startR at e
        rw [List.getElem?_append_left (by simpa using hi), List.getElem?_map] at e
        cases q : ds[i]? with
        | none => rw [q] at e; cases e
        | some z => rw [q] at e; cases e; rfl
      obtain ⟨v, e1, e2⟩ := atoms_at hat ed
      refine ⟨v, ?_, e2⟩
      unfold L2.start
      rw [List.getElem?_append_left (by simp; omega), List.getElem?_map, e1]
      rfl
    cases hFb : Fb (startR N.length ds) with
    | none => rw [hFb] at hF; cases hF
    | some q =>
      obtain ⟨ys, ρ'⟩ := q
      rw [hFb] at hF
      have e : ys = items := by simpa using hF
      subst e
      refine seg1_func fun HH => ?_
      have := hob.run 0 [] (startR N.length ds) ρ' ys (.func body (envOfC qual scope s.heap.objs.size f cdv)) [] (fun f => .pure (.done (.ret (match f with | .ret v => v | _ => .none)))) HH id id ⟨over_func, rfl, rfl, rfl⟩ hFb (by omega) (fun j d h => by rw [Nat.zero_add]; exact h) (fun gp3 sr Hr s3 h3 => ?_) gp s2 H2 s2 ⟨⟨start N vs, H2, I2, sa, Ext.refl _⟩, wk.e0, fun _ _ p hp => by simp at hp, fun p hp => by simp at hp, Nat.le_of_lt (Heap.lt_size keepL)⟩
      · rw [Nat.sub_zero] at this; exact this
      · obtain ⟨σ3, H3, I3, _, ex3⟩ := h3.ex
        have z : ys.length - (0 + ys.length) = 0 := by omega
        rw [z]
        exact seg1_end (.ok (.ret .none)) ⟨.inl rfl, H3, SegOk.of I3 ex3⟩
  exact main _ _ _ _ rfl rfl rfl fun h => Heap.get?_push_size _ rfl
end GP

namespace GP
open PySem PySem.Spec L2 PyProof.Rows GenW DM
structure KnG (P : Program) (w : World) (K : PySem.W.Frag) (mg : Str → Option Value) (base : Heap) (k : Nat) (x : Str) (ps : List Str) (Fg : List D → Option (List D)) : Prop where
  ex : ∃ f fd, GnG P w K mg base k f fd ps Fg ∧ mg x = some (.ref f) ∧ PySem.W.keepIn K (.ref f) = true ∧ Binds K fd ps []
/-- the items of a generator's call -/
def iGen (n : Nat) (Fg : List D → Option (List D)) (As : CM (List D)) : CM IV := As.bind fun ds _ μ => match atomsV ds, Fg ds with
  | some _, some items => if ds.length = n ∧ items.all tupl = true then some (.ok (items, anyG), μ) else none
  | _, _ => none
section
variable {X : Cx} {W : DW} {k j n : Nat} {ps : List Str} {Fg : List D → Option (List D)} {x : Str} {p pos : Pos} {tg e : Expr} {es : List Expr} {As : CM (List D)}
theorem pig_call (h : KnG X.prog X.w X.K X.mg X.base j x ps Fg) (hr : Room k X.A) (hjk : j + 1 ≤ k) (hg : Gl X x) (hn : ps.length = n) (ha : PA X (e :: es) (tA X.K W As))
    (hdb : (x == ("__debug__" : Str)) = false := by decide) (he : starEach (e :: es) X.env = (false, eval e X.env) :: starEach es X.env := by rfl) (hpl : (backTo pos (starEach es X.env)).any (·.1) = false := by rfl) :
    PIG X tg (.Call (.Name x p) (e :: es) [] pos) (tI X.K W (iGen n Fg As)) := by
  obtain ⟨f, fd, F, hm, hk, hb⟩ := h.ex
  refine ⟨fun pins s σ H R I ⟨ρ, ι, μ, sr, wf, h⟩ => ?_⟩
  refine wpAny_Call_Name_kw (ld_glob I hg hm ?_ hdb)
  refine PySem.W.callWith_K (h₀ := X.base) I.ok.mod.kin hk (thn (ha.run pos pins s σ H _ I (PostG.bind sr wf h)) fun us s1 ⟨vs, H1, I1, r, ι1, μ1, ds, l1, w1, vx, h1⟩ => ⟨I1.kIn, ?_⟩) he hpl
  split at h1
  · rename_i us' items e1 e2
    obtain ⟨q, h1⟩ := PostG.guard h1
    have evs : vs = us' := vrs_atoms e1 vx
    subst evs
    have hl : vs.length = ps.length := by rw [atoms_len e1, q.1, hn]
    have hlu : us.length = ps.length := by rw [← r.length]; exact hl
    have hbb := hb s1 us I1.kIn (by simpa using hlu)
    rw [List.append_nil] at hbb
    refine wpAny_call (codeAny_mono (F.go (hr.mono (Nat.le_trans (Nat.le_succ _) hjk)) I1.env0 hbb r e1 hl e2) fun rr s' hq => ?_)
    have hr1 : Room j X.A.in1 := (hr.mono hjk).in1
    cases rr with
    | error e => exact hq.elim
    | ok fl =>
      cases fl with
      | next => exact hq.elim
      | brk => exact hq.elim
      | cont => exact hq.elim
      | ret u =>
        obtain ⟨a, g, go, oL, N, qual, sc, cd, c, rfl, hgo, hga, hlt, hgen, hos, hbare, hkeep, hoL, hnc, hnext⟩ := hq.ex
        refine wpAny_pyIter_gen (hgo.isGen hga) ?_
        have I2 : L2.Inv X pins σ H1 s' := I1.call' (ch := []) hos (Un.kept hkeep) (I1.hok.kept hkeep) hbare fun b z => by simp at z
        have old := Older.of I1
        refine ⟨a, g, [a, s1.heap.objs.size], TnG (gpOf X X.A N qual sc f cd s1.heap.objs.size) items a go g, JG X.K items, H1, rfl, I2, gturn hgo old ⟨hr.hd, hr.depth, rfl⟩, ⟨_, [(s1.heap.objs.size, oL)], hgen, rfl, hga, hlt, fun q' hq' => ?_, fun gp s2 H2 w2 => ?_⟩, fun b hb' => ?_, h1.ok0 w1 (itr_JG fun d hd => List.all_eq_true.mp q.2 d hd)⟩
        · rw [List.mem_singleton.mp hq']
          exact ⟨hoL, Nat.le_refl _, Nat.ne_of_lt hlt, hnc⟩
        · rw [Nat.sub_zero]
          exact hnext X.A.in1 hr1 I1.ok.frames gp s2 H2 w2
        · rcases List.mem_cons.mp hb' with rfl | hb'
          · exact old.fp I1.ok (stk_sub I1.ok) (Nat.le_of_lt hlt) (I1.hok.fresh (Nat.le_of_lt hlt))
          · rw [List.mem_singleton.mp hb']
            exact old.fp I1.ok (stk_sub I1.ok) (Nat.le_refl _) (I1.hok.fresh (Nat.le_refl _))
  · exact h1.elim
end
/-! ### iterables within a generator -/
section
variable {X : Cx} {x : Str} {pos p : Pos} {tg a b : Expr} {ds : List D} {us : List V}
theorem pic_const (hg : Gl X x) (h : Cst X.K X.mg x (.tup ds)) (hat : atomsV ds = some us) (hd : (x == ("__debug__" : Str)) = false := by decide) : PIC X tg (.Name x pos) (fun _ => some ds) := by
  obtain ⟨u, v, h1, h2, h3⟩ := h
  refine ⟨fun pins s σ H ρ ds' I sa e => ?_⟩
  cases e
  have hv := h3 [] (fun _ => none)
  cases hv with
  | tup hT hr =>
    rename_i aa vs
    rcases hT with ⟨⟨o, z, _⟩, _⟩ | ⟨o, its, n, lk, hc, hdd, hdt, hsz, hvl⟩ | ⟨z, _⟩
    · cases z
    rotate_left
    · cases z
    have sq : ∀ H, SqT X.K H aa vs := fun H => .inr ⟨o, its, n, lk, hc, hdt, hsz, hvl⟩
    have evs := vrs_atoms hat hr
    subst evs
    refine (pi_tup (pe_glob hg h1 h2 hd)).run pins s σ H _ I ⟨aa, rfl, ⟨vs, sq H⟩, Ext.refl H, fun i H' => ⟨fun d hd' => ?_, fun hi => ⟨vs, sq H', by rw [atoms_len hat]; exact hi⟩⟩⟩
    obtain ⟨v', e1, e2⟩ := atoms_at hat hd'
    refine ⟨⟨vs, v', sq H', e1⟩, fun x' H'' y => ?_⟩
    obtain ⟨rfl, y2⟩ := y
    have := y2 vs (sq _)
    rw [e1] at this
    cases this
    exact ⟨Ext.refl _, e2⟩
def gRng2 (As : CM (List D)) : Rho → Option (List D) := fun ρ => match As ρ [] with
  | some (.ok [.int i, .int j], []) => if -(2 ^ 62) ≤ i ∧ i < 2 ^ 62 ∧ -(2 ^ 62) ≤ j ∧ j < 2 ^ 62 then some (rngD i (j - i).toNat) else none
  | _ => none
theorem nc_of {ns : List (Str × NameKind)} (h : ∀ y ∈ ns, y.2 ≠ .cell ∧ y.2 ≠ .free) (x : Str) : ns.lookup x ≠ some .cell ∧ ns.lookup x ≠ some .free := ⟨fun e => (h _ (PySem.mem_of_lookup e)).1 rfl, fun e => (h _ (PySem.mem_of_lookup e)).2 rfl⟩
theorem pic_range2 {As : CM (List D)} (hg : Gl X "range") (hm : X.mg "range" = none) (ha : PA X [a, b] (tA X.K noX As)) (hs : starEach [a, b] X.env = [(false, eval a X.env), (false, eval b X.env)] := by rfl) (hs2 : starEach [b] X.env = [(false, eval b X.env)] := by rfl) :
    PIC X tg (.Call (.Name "range" p) [a, b] [] pos) (gRng2 As) := by
  refine ⟨fun pins s σ H ρ ds' I sa e => ?_⟩
  unfold gRng2 at e
  split at e
  · rename_i i j eA
    by_cases hq : -(2 ^ 62) ≤ i ∧ i < 2 ^ 62 ∧ -(2 ^ 62) ≤ j ∧ j < 2 ^ 62
    · rw [if_pos hq] at e
      cases e
      refine (pi_range2 hg hm ha hs hs2).run pins s σ H _ I ⟨ρ, [], [], sa.sr, ⟨rfl, List.Pairwise.nil, fun q a o h1 => by simp at h1⟩, ?_⟩
      rw [eA]
      intro ι' H' vs l w v
      obtain ⟨y, z, rfl, v1, v2⟩ := v.two
      cases v1; cases v2
      refine ⟨i, j, rfl, hq, fun b o h => l.keep b o (by simp) h, fun q H'' => ⟨fun d hd => ?_, fun hl => ?_⟩⟩
      · obtain ⟨h1, rfl⟩ := rng_get hd
        refine ⟨h1, fun x H3 y => ?_⟩
        obtain ⟨rfl, rfl⟩ := y
        exact ⟨Ext.refl _, rfl⟩
      · rw [rng_len] at hl; exact hl
    · rw [if_neg hq] at e; cases e
  · cases e
end
end GP

namespace GP
open PySem PySem.Spec L2 PyProof.Rows GenW DM
/-! ### a generator's object, fresh -/
def PGM (X : Cx) (A : Around) (pins : List (Addr × Obj)) (σ : L2.St) (R : It → Hp → Prop) (v : Value) (s : Shared) : Prop :=
  ∃ (a : Addr) (g : Nat) (go : Obj) (N : List Str) (qual : Str) (sc : Scope) (f : Addr) (cd : Value) (L : Nat) (fp : List Addr) (items : List D) (H : Hp), v = .ref a ∧ L2.Inv X pins σ H s ∧ GObj go g ∧ Older X pins L ∧ (∀ b, L ≤ b → H b = none) ∧ s.heap.get? a = some go ∧ L < a ∧
    TnG (gpOf X A N qual sc f cd L) items a go g 0 s fp ∧ (∀ b ∈ fp, @LE.le Nat _ L b) ∧ AOk X A ∧ R (JG X.K items) H
structure PIM (X : Cx) (A : Around) (iter : Expr) (wi : TI) : Prop where
  run : ∀ (pins : List (Addr × Obj)) (s : Shared) (σ : L2.St) (H : Hp) (R : It → Hp → Prop), L2.Inv X pins σ H s → wi σ H R → wpAny (model X.prog X.w) X.A (eval iter X.env) (PGM X A pins σ R) X.xe s
section
variable {X : Cx} {W : DW} {k j n : Nat} {ps : List Str} {Fg : List D → Option (List D)} {x : Str} {p pos : Pos} {tg e : Expr} {es : List Expr} {As : CM (List D)}
theorem pim_call {A : Around} (hrA : Room (j + 1) A) (hfA : A.frames = X.A.frames) (h : KnG X.prog X.w X.K X.mg X.base j x ps Fg) (hr : Room k X.A) (hjk : j + 1 ≤ k) (hg : Gl X x) (hn : ps.length = n) (ha : PA X (e :: es) (tA X.K W As))
    (hdb : (x == ("__debug__" : Str)) = false := by decide) (he : starEach (e :: es) X.env = (false, eval e X.env) :: starEach es X.env := by rfl) (hpl : (backTo pos (starEach es X.env)).any (·.1) = false := by rfl) :
    PIM X A (.Call (.Name x p) (e :: es) [] pos) (tI X.K W (iGen n Fg As)) := by
  obtain ⟨f, fd, F, hm, hk, hb⟩ := h.ex
  refine ⟨fun pins s σ H R I ⟨ρ, ι, μ, sr, wf, h⟩ => ?_⟩
  refine wpAny_Call_Name_kw (ld_glob I hg hm ?_ hdb)
  refine PySem.W.callWith_K (h₀ := X.base) I.ok.mod.kin hk (thn (ha.run pos pins s σ H _ I (PostG.bind sr wf h)) fun us s1 ⟨vs, H1, I1, r, ι1, μ1, ds, l1, w1, vx, h1⟩ => ⟨I1.kIn, ?_⟩) he hpl
  split at h1
  · rename_i us' items e1 e2
    obtain ⟨q, h1⟩ := PostG.guard h1
    have evs : vs = us' := vrs_atoms e1 vx
    subst evs
    have hl : vs.length = ps.length := by rw [atoms_len e1, q.1, hn]
    have hlu : us.length = ps.length := by rw [← r.length]; exact hl
    have hbb := hb s1 us I1.kIn (by simpa using hlu)
    rw [List.append_nil] at hbb
    refine wpAny_call (codeAny_mono (F.go (hr.mono (Nat.le_trans (Nat.le_succ _) hjk)) I1.env0 hbb r e1 hl e2) fun rr s' hq => ?_)
    have hr1 : Room j A.in1 := hrA.in1
    cases rr with
    | error e => exact hq.elim
    | ok fl =>
      cases fl with
      | next => exact hq.elim
      | brk => exact hq.elim
      | cont => exact hq.elim
      | ret u =>
        obtain ⟨a, g, go, oL, N, qual, sc, cd, c, rfl, hgo, hga, hlt, hgen, hos, hbare, hkeep, hoL, hnc, hnext⟩ := hq.ex
        have I2 : L2.Inv X pins σ H1 s' := I1.call' (ch := []) hos (Un.kept hkeep) (I1.hok.kept hkeep) hbare fun b z => by simp at z
        have old := Older.of I1
        refine ⟨a, g, go, N, qual, sc, f, cd, s1.heap.objs.size, [a, s1.heap.objs.size], items, H1, rfl, I2, hgo, old, fun b hb => I1.hok.fresh hb, hga, hlt, ⟨_, [(s1.heap.objs.size, oL)], hgen, rfl, hga, hlt, fun q' hq' => ?_, fun gp s2 H2 w2 => ?_⟩, fun b hb' => ?_, ⟨hrA.hd, hrA.depth, hfA⟩, h1.ok0 w1 (itr_JG fun d hd => List.all_eq_true.mp q.2 d hd)⟩
        · rw [List.mem_singleton.mp hq']
          exact ⟨hoL, Nat.le_refl _, Nat.ne_of_lt hlt, hnc⟩
        · rw [Nat.sub_zero]
          exact hnext A.in1 hr1 (hfA.trans I1.ok.frames) gp s2 H2 w2
        · rcases List.mem_cons.mp hb' with rfl | hb'
          · exact Nat.le_of_lt hlt
          · rw [List.mem_singleton.mp hb']
            exact Nat.le_refl _
  · exact h1.elim
end
/-! ### a comprehension over a generator -/
def tLcG (wi : TI) (g : TG) (tt : TT) (te : TE) (vs : List Nat) : TE := fun σ H Q => wi σ H fun J H1 => ∀ D, H1 D = none → ∃ W : Nat → Nat → Hp → Prop, (∃ m, W 0 m (upd H1 D (.lst []))) ∧ ∀ i m H, W i m H → (∃ u, H D = some u) ∧
  ((J.stop i H ∧ ∀ H', Ext H H' → Q (.ref D) H') ∨ (J.go i H ∧ ∃ Nx : Hp → Prop, (∀ H', Nx H' → ∃ m', m' < m ∧ W (i + 1) m' H') ∧ ∀ x H', J.yld i H x H' → g x (wipe σ vs) H' fun σ2 H2 => wipe σ2 vs = wipe σ vs ∧ tt σ2 H2 fun b H3 =>
    if b = true then te σ2 H3 fun y H4 => ∃ acc, H4 D = some (.lst acc) ∧ acc.length < sizeLine ∧ Nx (upd H4 D (.lst (acc ++ [y]))) else Nx H3))
/-- as tn, in another state that has kept its objects -/
theorem TnG.keep {G : Gp} {all : List D} {a : Addr} {go : Obj} {g i : Nat} {s s' : Shared} {fp : List Addr} (t : TnG G all a go g i s fp) (hk : ∀ b ∈ fp, ∀ o, s.heap.get? b = some o → s'.heap.get? b = some o) (hg : s'.gens[g]? = s.gens[g]?) : TnG G all a go g i s' fp := by
  obtain ⟨gs, objs, e1, rfl, ha, hLa, ho, hn⟩ := t
  exact ⟨gs, objs, hg.trans e1, rfl, hk a List.mem_cons_self go ha, hLa, fun q hq => let ⟨h1, h2, h3⟩ := ho q hq; ⟨hk q.1 (List.mem_cons_of_mem _ (List.mem_map.mpr ⟨q, hq, rfl⟩)) q.2 h1, h2, h3⟩, hn⟩
theorem TnG.obj {G : Gp} {all : List D} {a : Addr} {go : Obj} {g i : Nat} {s : Shared} {fp : List Addr} (hgo : GObj go g) (t : TnG G all a go g i s fp) : ∀ b ∈ fp, ∃ o, s.heap.get? b = some o ∧ ∀ v, o.data ≠ .cell v := fun b hb => by
  obtain ⟨gs, objs, _, rfl, ha, _, ho, _⟩ := t
  rcases List.mem_cons.mp hb with rfl | hb
  · exact ⟨go, ha, hgo.nocell⟩
  · obtain ⟨q, hq, rfl⟩ := List.mem_map.mp hb
    obtain ⟨h1, _, _, h3⟩ := ho q hq
    exact ⟨q.2, h1, h3⟩
section
variable {X : Cx}
end
end GP

namespace GP
open PySem PySem.Spec L2 PyProof.Rows GenW DM
section
variable {X : Cx} {W : DW}
end
end GP

namespace GP
open PySem PySem.Spec L2 PyProof.Rows GenW DM
theorem vrs_ext {K : PySem.W.Frag} {H H1 : Hp} {vs : List V} {ds : List D} (e : Ext H H1) (h : VRs K [] H vs ds) : VRs K [] H1 vs ds := h.mono (ext_le (K := K) (ι := []) (μ := []) e ⟨rfl, List.Pairwise.nil, fun q a o h1 => by simp at h1⟩).1
/-! ### list(g) -/
section
variable {X : Cx} {pins : List (Addr × Obj)} {σ : L2.St} {all : List D} {N : List Str} {qual : Str} {sc : Scope} {f : Addr} {cd : Value} {L g : Nat} {a S : Addr} {go : Obj} {A : Around} {R : Result → Shared → Prop} {res : Value}
theorem drain1 (hgo : GObj go g) (old : Older X pins L) (hA : AOk X A.in1) (hLS : @LT.lt Nat _ L S) (hlen : all.length ≤ sizeLine) {Hs : Hp}
    (hend : ∀ s' acc c H' ys, s'.heap.get? S = some (lstObj acc c) → Vals ys acc.toList → VRs X.K [] H' ys all → L2.Inv X pins σ H' s' → H' S = none → Ext Hs H' → R (.ok (.ret res)) s') :
    ∀ (m i : Nat) (s : Shared) (H : Hp) (fp : List Addr) (acc : Array Value) (c : Nat) (ys : List V), all.length - i = m → i ≤ all.length → L2.Inv X pins σ H s → TnG (gpOf X A.in1 N qual sc f cd L) all a go g i s fp → (∀ b ∈ fp, H b = none ∧ @LE.le Nat _ L b) → S ∉ fp → H S = none → s.heap.get? S = some (lstObj acc c) → Vals ys acc.toList → VRs X.K [] H ys (all.take i) → Ext Hs H →
      codeAny (model X.prog X.w) A (.builtin "list.extend.loop" ⟨[.ref S, .ref a, res], []⟩) R s := by
  intro m
  induction m with
  | zero =>
    intro i s H fp acc c ys hm hi I t hn hSf hSn hS hv vr ex
    have ei : i = all.length := by omega
    subst ei
    refine codeAny_builtin F.entry_extend_loop ?_
    rw [Around.under_plainId F.plain_extend_loop _]
    show wpAny _ A.in1 (pyNext (.ref a) >>= _) _ _ s
    refine wpAny_bind (wpAny_mono (resume_done (gp := [(S, lstObj acc c)]) (E := fun _ _ => False) hgo hA I (old.cons I.ok _) t (fun b hb => (hn b hb).1) (fun q hq => ?_) (Nat.le_refl _)) (fun r s1 h => ?_) fun _ _ z => z.elim)
    · rw [List.mem_singleton.mp hq]
      exact ⟨hS, hSn, hLS, (fun v z => nomatch z), hSf⟩
    · obtain ⟨rfl, H1, I1, e1, g1⟩ := h
      obtain ⟨k1, k2⟩ := g1 _ (List.mem_singleton.mpr rfl)
      rw [List.take_length] at vr
      exact wpAny_pure (hend _ acc c H1 ys k1 hv (vrs_ext e1 vr) I1 k2 (ex.trans e1))
  | succ m ih =>
    intro i s H fp acc c ys hm hi I t hn hSf hSn hS hv vr ex
    have hlt : i < all.length := by omega
    refine codeAny_builtin F.entry_extend_loop ?_
    rw [Around.under_plainId F.plain_extend_loop _]
    show wpAny _ A.in1 (pyNext (.ref a) >>= _) _ _ s
    refine wpAny_bind (wpAny_mono (resume_item (gp := [(S, lstObj acc c)]) (E := fun _ _ => False) hgo hA I (old.cons I.ok _) t (fun b hb => (hn b hb).1) (fun q hq => ?_) hlt) (fun r s1 h => ?_) fun _ _ z => z.elim)
    · rw [List.mem_singleton.mp hq]
      exact ⟨hS, hSn, hLS, (fun v z => nomatch z), hSf⟩
    · obtain ⟨u, x, d, H1, fp', rfl, hd, I1, rv, e1, v1, t1, _, n1, g1⟩ := h
      obtain ⟨k1, k2, _, _, k5⟩ := g1 _ (List.mem_singleton.mpr rfl)
      have hal : acc.size = i := by
        have z1 := hv.length
        have z2 := vr.length
        rw [List.length_take, Nat.min_eq_left hi] at z2
        have z3 : acc.toList.length = acc.size := rfl
        omega
      have hasz : acc.size < sizeLine := by omega
      show wpAny _ A.in1 (updateSeq S (·.push u) >>= _) _ _ _
      refine wpAny_bind ?_
      refine wpAny_updateSeq k1 rfl (wpAny_pure ⟨plainId_quiet F.plain_extend_loop _, ?_⟩) (Nat.le_of_lt hasz) (by show (acc.push u).size ≤ sizeLine + 1; rw [Array.size_push]; omega)
      have keep3 : ∀ b o, b ≠ S → s1.heap.get? b = some o → (s1.heap.update S (Obj.mapSeq (·.push u))).get? b = some o := fun b o hbS e => (Heap.get?_update_other _ _ (Ne.symm hbS)).trans e
      have fS : FpOk X pins H1 S := old.fp I.ok (stk_sub I.ok) (Nat.le_of_lt hLS) k2
      obtain ⟨f0, f1, f2, f3, f4, f5⟩ := fS
      have I2 : L2.Inv X pins σ H1 { s1 with heap := s1.heap.update S (Obj.mapSeq (·.push u)) } := I1.turned (t' := s1.toks) (fun b o hb e => keep3 b o hb e) f0 f1 f3 f4 f5
      obtain ⟨c', hc'⟩ : ∃ c', (s1.heap.update S (Obj.mapSeq (·.push u))).get? S = some (lstObj (acc.push u) c') := ⟨_, Heap.get?_update_self _ k1 rfl⟩
      refine ih (i + 1) _ H1 fp' (acc.push u) c' (ys ++ [x]) (by omega) hlt I2 (t1.keep (fun b hb o e => keep3 b o (fun z => k5 (by rw [← z]; exact hb)) e) rfl) n1 k5 k2 ?_ ?_ ?_ (ex.trans e1)
      · exact hc'
      · rw [Array.toList_push]; exact hv.append (.cons rv .nil)
      · rw [List.take_succ, hd]
        exact (vrs_ext e1 vr).append (.cons v1 .nil)
theorem inv_track {H : Hp} {s : Shared} {ys : List V} {acc : Array Value} {c : Nat} (I : L2.Inv X pins σ H s) (fS : FpOk X pins H S) (hS : s.heap.get? S = some (lstObj acc c)) (hv : Vals ys acc.toList) (hl : ys.length ≤ sizeLine) : L2.Inv X pins σ (upd H S (.lst ys)) s := by
  obtain ⟨f0, f1, f2, f3, f4, f5⟩ := fS
  refine I.call' (ch := [S]) rfl ⟨fun b ob e _ _ _ => e, fun b ob e _ _ _ => ⟨ob.slots, e⟩, fun b ob e n hx => ?_, fun b ob e _ => ⟨ob, e⟩, fun b xs q => ?_, fun b ob y q => ?_, fun b qs q => ?_⟩ (fun b u q => ?_) I.bare fun b hb => ?_
  · rw [upd_ne (fun z => hx (by rw [z]; exact List.mem_singleton.mpr rfl))]; exact n
  · rw [upd_ne (ne_of_none q f0)]; exact q
  · rw [upd_ne (ne_of_none q f0)]; exact q
  · exact ⟨#[], by rw [upd_ne (ne_of_none q f0), q]; simp⟩
  · by_cases hb : b = S
    · subst hb
      rw [upd_same] at q
      cases q
      exact ⟨hl, acc.toList, c, hv, by rw [hS]⟩
    · rw [upd_ne hb] at q
      exact (I.hok b u q).stay (fun _ _ _ z => z) (fun d z => by rw [upd_ne (ne_of_none z f0)]; exact z) fun d xs z => by rw [upd_ne (ne_of_none z f0)]; exact z
  · rw [List.mem_singleton.mp hb]
    exact ⟨f3, f1, f4, f5⟩
theorem call_list1 {s : Shared} {u : Value} {R' : It → Hp → Prop} {Q' : Value → Shared → Prop} {E : Value → Shared → Prop} (hh : X.A.handled = none) (h : PGM X X.A.in1.in1 pins σ R' u s)
    (hQ : ∀ S s' items H H' ys, R' (JG X.K items) H → Ext H H' → (items.length ≤ sizeLine → H' S = none ∧ VRs X.K [] H' ys items ∧ L2.Inv X pins σ (upd H' S (.lst ys)) s') → Q' (.ref S) s') (hsz : ∀ items H, R' (JG X.K items) H → items.length ≤ sizeLine) :
    wpAny (model X.prog X.w) X.A (call (.type "list") [u]) Q' E s := by
  obtain ⟨a, g, go, N, qual, sc, f, cd, L, fp, items, H, rfl, I, hgo, old, hz, ha, hLa, t, hfp, hA, hR⟩ := h
  have hlen := hsz items H hR
  have hg := hgo.isGen ha
  have ha2 : a < s.heap.objs.size := Heap.lt_size ha
  have hSa : s.heap.objs.size ≠ a := Nat.ne_of_gt ha2
  refine callType_codes (Q₁ := fun obj s₁ => obj = .ref s.heap.objs.size ∧ s₁ = { s with heap := s.heap.push { cls := .type "list", data := .seq #[] } }) F.called_list (F.typeCall_list_1 _) F.entry_list_init
    (code_list_new _ ⟨rfl, rfl⟩) fun obj s₁ h₁ => ?_
  obtain ⟨rfl, rfl⟩ := h₁
  have hS : (s.heap.push { cls := .type "list", data := .seq #[] }).get? s.heap.objs.size = some { cls := .type "list", data := .seq #[] } := Heap.get?_push_size _ rfl
  refine ⟨⟨_, hS, rfl⟩, F.args_list_init_2 _ _, ?_⟩
  show wpAny _ X.A.in1.in1 (do let old ← Builtin.List.listItems (.ref s.heap.objs.size); Builtin.List.listUpdate (.ref s.heap.objs.size) (fun _ => #[]); letGo old.toList.reverse; Builtin.List.listExtendWith (.ref s.heap.objs.size) (.ref a) .none) _ _ _
  refine wpAny_bind ?_
  unfold Builtin.List.listItems
  refine wpAny_bind (wpAny_seqItems hS rfl (wpAny_pure ?_))
  show wpAny _ X.A.in1.in1 (updateSeq s.heap.objs.size (fun _ => #[]) >>= fun _ => letGo (#[] : Array Value).toList.reverse >>= fun _ => Builtin.List.listExtendWith (.ref s.heap.objs.size) (.ref a) .none) _ _ _
  refine wpAny_bind (wpAny_updateSeq hS rfl ?_)
  have hS2 := Heap.get?_update_self (Obj.mapSeq (fun _ => (#[] : Array Value))) hS rfl
  refine wpAny_bind (wpAny_letGo ?_)
  unfold Builtin.List.listExtendWith
  have up : ∀ (h : Heap) (f : Obj → Obj), (∀ b o, s.heap.get? b = some o → h.get? b = some o) → ∀ b o, s.heap.get? b = some o → (h.update s.heap.objs.size f).get? b = some o := fun h f q b o e =>
    (Heap.get?_update_other _ _ (Ne.symm (Nat.ne_of_lt (Heap.lt_size e)))).trans (q b o e)
  have k1 : ∀ b o, s.heap.get? b = some o → (s.heap.push { cls := .type "list", data := .seq #[] }).get? b = some o := fun b o e => Heap.get?_push_of_some _ e
  have k2 := up _ (Obj.mapSeq (fun _ => (#[] : Array Value))) k1
  have gty : ∀ {h : Heap}, (∀ b o, s.heap.get? b = some o → h.get? b = some o) → h.IsGen a g := fun {h} q => hg.keeps q
  refine wpAny_bind (wpAny_typeOf (Heap.IsGen.typeIs (s := { s with heap := _ }) (gty k2)) ?_)
  have h1 : Builtin.List.listSameRef (.ref s.heap.objs.size) (.ref a) = false := by simp [Builtin.List.listSameRef, hSa]
  have h2 : (Value.type "generator" == Value.type "list") = false := by decide
  have h3 : (Value.type "generator" == Value.type "tuple") = false := by decide
  simp only [h1, h2, h3, Bool.or_false, Bool.false_eq_true, if_false]
  refine wpAny_bind (wpAny_pyIter_gen (s := { s with heap := _ }) (gty k2) ?_)
  refine wpAny_bind (wpAny_holding ?_)
  unfold Builtin.List.listLengthHint
  refine wpAny_bind (wpAny_specialOf (Heap.IsGen.typeIs (s := { s with heap := _ }) (gty k2)) F.gen_no_len ?_)
  show wpAny _ X.A.in1.in1 (specialOf (Value.ref a) (Str.ofString "__length_hint__") >>= _) _ _ _
  refine wpAny_bind (wpAny_specialOf (Heap.IsGen.typeIs (s := { s with heap := _ }) (gty k2)) F.gen_no_hint ?_)
  refine wpAny_pure ?_
  show wpAny _ X.A.in1.in1 (rule "list.extend.makes-room" >>= fun _ => Builtin.List.listTouch (.ref s.heap.objs.size) >>= fun _ =>
    again (.builtin "list.extend.loop" ⟨[.ref s.heap.objs.size, .ref a, .none], []⟩)) _ _ _
  refine wpAny_bind (wpAny_rule ?_)
  refine wpAny_bind ?_
  show wpAny _ X.A.in1.in1 (updateSeq s.heap.objs.size (·.push .none) >>= fun _ => updateSeq s.heap.objs.size (·.pop)) _ _ _
  refine wpAny_bind (wpAny_updateSeq hS2 rfl ?_)
  have hS3 := Heap.get?_update_self (Obj.mapSeq (·.push Value.none)) hS2 rfl
  refine wpAny_updateSeq (hz := by seq_fits) hS3 rfl ?_
  have hS4 := Heap.get?_update_self (Obj.mapSeq (·.pop)) hS3 rfl
  have k4 := up _ (Obj.mapSeq (·.pop)) (up _ (Obj.mapSeq (·.push Value.none)) k2)
  have hSn : H s.heap.objs.size = none := I.hok.fresh (Nat.le_refl _)
  refine wpAny_pure ⟨plainId_quiet F.plain_extend_loop _, ?_⟩
  refine drain1 (A := X.A.in1) (Hs := H) (res := .none) hgo old hA (Nat.lt_trans hLa ha2) hlen (fun s' acc c H' ys q1 q2 q3 q4 q5 q6 => ⟨rfl, hQ _ s' items H H' ys hR q6 fun _ => ⟨q5, q3, inv_track q4 (old.fp I.ok (stk_sub I.ok) (Nat.le_of_lt (Nat.lt_trans hLa ha2)) q5) q1 q2 (by rw [q3.length]; exact hlen)⟩⟩) items.length 0 _ H fp #[] _ [] (by omega) (Nat.zero_le _) (I.kept (t' := s.toks) k4) (t.keep (fun b _ o e => k4 b o e) rfl) (fun b hb => ⟨hz b (hfp b hb), hfp b hb⟩) (fun z => ?_) hSn hS4 .nil .nil (Ext.refl _)
  · obtain ⟨o, e, _⟩ := t.obj hgo _ z
    exact absurd (Heap.lt_size e) (Nat.lt_irrefl _)
end
end GP

namespace GP
open PySem PySem.Spec L2 PyProof.Rows GenW DM
theorem vrs_idx {K : PySem.W.Frag} {ι : List Addr} {H : Hp} : ∀ {vs : List V} {ds : List D}, vs.length = ds.length → (∀ (i : Nat) v d, vs[i]? = some v → ds[i]? = some d → VR K ι H v d) → VRs K ι H vs ds
  | [], [], _, _ => .nil
  | v :: vs, d :: ds, hl, h => .cons (h 0 v d rfl rfl) (vrs_idx (by simpa using hl) fun i v d a b => h (i + 1) v d (by simpa using a) (by simpa using b))
  | [], _ :: _, hl, _ => by simp at hl
  | _ :: _, [], hl, _ => by simp at hl
theorem vrs_at {K : PySem.W.Frag} {ι : List Addr} {H : Hp} : ∀ {vs : List V} {ds : List D}, VRs K ι H vs ds → ∀ (i : Nat) v d, vs[i]? = some v → ds[i]? = some d → VR K ι H v d
  | _, _, .nil, i, v, d, a, b => by simp at a
  | _, _, .cons h r, 0, v, d, a, b => by simp at a b; subst a b; exact h
  | _, _, .cons h r, i + 1, v, d, a, b => vrs_at r i v d (by simpa using a) (by simpa using b)
/-- list(g) -/
def eListG (I : CM IV) : CM D := I.bind fun p _ μ => if p.2 μ = true ∧ p.1.length ≤ sizeLine then some (.ok (.lst p.1), μ) else none
section
variable {X : Cx} {W : DW} {I : CM IV} {e : Expr} {p pos : Pos}
theorem d_listG (h : PIM X X.A.in1.in1 e (tI X.K W I)) (hh : X.A.handled = none) (hg : Gl X "list") (hmg : X.mg "list" = none) (he : starEach [e] X.env = (false, eval e X.env) :: starEach [] X.env := by rfl) :
    PE X (.Call (.Name "list" p) [e] [] pos) (tE X.K W (eListG I)) := by
  refine ⟨fun pins s σ H Q I0 ⟨ρ, ι, μ, sr, wf, hq⟩ => ?_⟩
  refine wpAny_Call_Name_kw (ld_blt I0 hg hmg (u := .type "list") (by decide +kernel) ?_ (by decide) (by decide))
  refine PyProof.Rows.callWith_type1 ?_ he rfl
  rw [he]
  show wpAny _ _ (spliced ((false, eval e X.env) :: backTo pos (starEach [] X.env))) _ _ s
  refine Calls.spliced_cons (thn (h.run pins s σ H _ I0 (PostG.bind sr wf hq)) fun u s1 hG => ?_)
  refine Calls.spliced_nil ?_
  have key : ∀ {items : List D} {H1 : Hp}, (∃ ι1 μ1 a, Le ι H ι1 H1 ∧ WF X.K ι1 μ1 H1 ∧ ItR X.K ι1 H1 (JG X.K items) a ∧ PostG (VR X.K) X.K W σ ι1 H1 Q (if a.2 μ1 = true ∧ a.1.length ≤ sizeLine then some (.ok (.lst a.1), μ1) else none)) →
      ∃ (ι1 : List Addr) (μ1 : Store) (a : IV), WF X.K ι1 μ1 H1 ∧ a.1.length ≤ sizeLine ∧ items.length = a.1.length ∧ (∀ (i : Nat) d, a.1[i]? = some d → ∀ x H', (JG X.K items).yld i H1 x H' → Le ι1 H1 ι1 H' ∧ WF X.K ι1 μ1 H' ∧ VR X.K ι1 H' x d) ∧ PostG (VR X.K) X.K W σ ι1 H1 Q (some (.ok (.lst a.1), μ1)) := by
    rintro items H1 ⟨ι1, μ1, a, l1, w1, hJ, h1⟩
    obtain ⟨q, h1⟩ := PostG.guard h1
    refine ⟨ι1, μ1, a, w1, q.2, ?_, fun i d hd => ((hJ i ι1 μ1 H1 (Le.refl _ _) w1 q.1).1 d hd).2, h1⟩
    have z1 : items.length ≤ a.1.length := (hJ a.1.length ι1 μ1 H1 (Le.refl _ _) w1 q.1).2 (Nat.le_refl _)
    refine Nat.le_antisymm z1 ?_
    rcases Nat.lt_or_ge items.length a.1.length with z | z
    · have := ((hJ items.length ι1 μ1 H1 (Le.refl _ _) w1 q.1).1 _ (List.getElem?_eq_getElem z)).1
      exact absurd (show items.length < items.length from this) (Nat.lt_irrefl _)
    · exact z
  refine call_list1 hh hG (fun S s' items H1 H' ys hR ex hf => ?_) fun items H1 hR => ?_
  · obtain ⟨ι1, μ1, a, w1, hl, hlen, hy, h1⟩ := key hR
    obtain ⟨hSn, vr, I2⟩ := hf (by rw [hlen]; exact hl)
    obtain ⟨l2, w2⟩ := ext_le ex w1
    have vr2 : VRs X.K ι1 H' ys a.1 := vrs_idx (by rw [vr.length, hlen]) fun i v d hv hd => by
      have hi : i < items.length := by rw [hlen]; exact (List.getElem?_eq_some_iff.mp hd).1
      exact (hy i d hd v H' ⟨_, List.getElem?_eq_getElem hi, ex, vrs_at vr i v _ hv (List.getElem?_eq_getElem hi)⟩).2.2
    exact ⟨.ref S, _, I2, rfl, h1.ok (l2.trans (Le.laid hSn)) (w2.laid hSn) (.lst ⟨upd_same, w2.out hSn⟩ (vr2.mono (Le.laid hSn)))⟩
  · obtain ⟨ι1, μ1, a, w1, hl, hlen, _, _⟩ := key hR
    rw [hlen]; exact hl
end
end GP

namespace GP
open PySem PySem.Spec L2 DM
/-! ### plainly -/
theorem q_iGen {n : Nat} {Fg : List D → Option (List D)} {As : CM (List D)} {ρ : Rho} {μ : Store} {Q : IV → Store → Prop}
    (h : Ok (As ρ μ) fun ds μ' => ∃ us items, atomsV ds = some us ∧ Fg ds = some items ∧ ds.length = n ∧ items.all tupl = true ∧ Q (items, anyG) μ') : Ok (iGen n Fg As ρ μ) Q := by
  unfold iGen CM.bind
  generalize As ρ μ = r at h
  match r, h with
  | some (.ok ds, μ'), h =>
    obtain ⟨us, items, e1, e2, e3, e4, q⟩ := h
    simp only [e1, e2]
    rw [if_pos ⟨e3, e4⟩]
    exact q
  | some (.error x, μ'), h => exact h
  | none, h => exact h
theorem q_listG {I : CM IV} {ρ : Rho} {μ : Store} {Q : D → Store → Prop} (h : Ok (I ρ μ) fun p μ' => p.2 μ' = true ∧ p.1.length ≤ sizeLine ∧ Q (.lst p.1) μ') : Ok (eListG I ρ μ) Q := by
  unfold eListG CM.bind
  generalize I ρ μ = r at h
  match r, h with
  | some (.ok p, μ'), h =>
    obtain ⟨e1, e2, q⟩ := h
    show Ok (if p.2 μ' = true ∧ p.1.length ≤ sizeLine then some (.ok (.lst p.1), μ') else none) Q
    rw [if_pos ⟨e1, e2⟩]
    exact q
  | some (.error x, μ'), h => exact h
  | none, h => exact h
/-! #### cells(width) -/
def gIn : GD := gdFor (fun _ => some [.str "other", .str "same"]) 3 (gdYield (eTup (aCons (eVar 1) (aCons (eVar 2) (aCons (eVar 3) aNil)))))
theorem gIn_ok {w g : Int} {r : Str} {y3 : Option D} : gIn [some (.int w), some (.str r), some (.int g), y3] = some ((two r g).map cellD, [some (.int w), some (.str r), some (.int g), some (.str "same")]) := by
  rfl
theorem fold_in {w : Int} {r : Str} : ∀ (gs : List Int) (y2 y3 : Option D), ∃ z2 z3, gdFold 2 gIn (gs.map D.int) [some (.int w), some (.str r), y2, y3] = some ((gs.flatMap (two r)).map cellD, [some (.int w), some (.str r), z2, z3])
  | [], y2, y3 => ⟨y2, y3, rfl⟩
  | g :: gs, y2, y3 => by
    obtain ⟨z2, z3, e⟩ := fold_in gs (some (.int g)) (some (.str "same"))
    refine ⟨z2, z3, ?_⟩
    rw [List.map_cons]
    unfold gdFold
    simp only [List.set_cons_succ, List.set_cons_zero, gIn_ok, List.flatMap_cons, List.map_append]
    erw [e]
def gMid : GD := gdFor (gRng2 (aCons (e1 Fneg (eVar 0)) (aCons (e2 Fadd (eVar 0) (eC (.int 1))) aNil))) 2 gIn
theorem gMid_ok {w : Int} {r : Str} (hw : 0 ≤ w ∧ w ≤ 1000) (y2 y3 : Option D) : ∃ z2 z3, gMid [some (.int w), some (.str r), y2, y3] = some ((row r (0 - w) (2 * w + 1).toNat).map cellD, [some (.int w), some (.str r), z2, z3]) := by
  have e : gRng2 (aCons (e1 Fneg (eVar 0)) (aCons (e2 Fadd (eVar 0) (eC (.int 1))) aNil)) [some (.int w), some (.str r), y2, y3] = some (rngD (0 - w) (2 * w + 1).toNat) := by
    unfold gRng2
    have : aCons (e1 Fneg (eVar 0)) (aCons (e2 Fadd (eVar 0) (eC (.int 1))) aNil) [some (.int w), some (.str r), y2, y3] [] = some (.ok [.int (-w), .int (w + 1)], []) := rfl
    rw [this]
    simp only []
    rw [if_pos (by omega), show w + 1 - -w = 2 * w + 1 by omega, show -w = 0 - w by omega]
  obtain ⟨z2, z3, e2⟩ := fold_in (w := w) (r := r) (rngI (0 - w) (2 * w + 1).toNat) y2 y3
  refine ⟨z2, z3, ?_⟩
  unfold gMid gdFor
  rw [e]
  simp only []
  rw [rngD_eq, e2]
  rfl
def gCells : GD := gdFor (fun _ => some [.str "less", .str "more", .str "same"]) 1 gMid
theorem cells_eq {w : Int} (hw : 0 ≤ w ∧ w ≤ 1000) : (gCells (startR 4 [.int w])).map (·.1) = some ((allC w).map cellD) := by
  have s0 : startR 4 [.int w] = [some (.int w), none, none, none] := rfl
  rw [s0]
  obtain ⟨a2, a3, e1⟩ := gMid_ok (r := "less") hw none none
  obtain ⟨b2, b3, e2⟩ := gMid_ok (r := "more") hw a2 a3
  obtain ⟨c2, c3, e3⟩ := gMid_ok (r := "same") hw b2 b3
  unfold gCells gdFor
  simp only [gdFold, List.set_cons_succ, List.set_cons_zero, e1, e2, e3, Option.map_some, List.append_nil]
  unfold allC
  simp only [List.map_append, List.append_assoc]
theorem tupl_cells (cs : List Cell) : (cs.map cellD).all tupl = true := by
  rw [List.all_eq_true]
  intro d hd
  obtain ⟨c, _, rfl⟩ := List.mem_map.mp hd
  rfl
end GP

namespace DM
open PySem PySem.Spec L2
/-! ### things that own cells, side by side -/
structure Own where
  ix : List Nat
  P : Store → Prop
  fr : ∀ (μ μ' : Store), (∀ j ∈ ix, μ'[j]? = μ[j]?) → P μ → P μ'
  lt : ∀ (μ : Store), P μ → ∀ j ∈ ix, j < μ.length
structure Hold (L : List Own) (μ : Store) : Prop where
  nd : (L.flatMap (·.ix)).Nodup
  all : ∀ o ∈ L, o.P μ
  clo : Clo μ
section
variable {L : List Own} {μ μ' : Store} {o o' : Own}
theorem Hold.at (h : Hold L μ) {n : Nat} (e : L[n]? = some o) : o.P μ := h.all o (List.mem_of_getElem? e)
theorem own_sep : ∀ {L : List Own} {n m : Nat} {a b : Own}, (L.flatMap (·.ix)).Nodup → n ≠ m → L[n]? = some a → L[m]? = some b → ∀ j ∈ a.ix, j ∉ b.ix
  | [], _, _, _, _, _, _, e, _ => by simp at e
  | x :: r, 0, 0, _, _, _, hn, _, _ => absurd rfl hn
  | x :: r, 0, m + 1, a, b, nd, _, e, e' => by
    intro j ja jb
    simp only [List.getElem?_cons_zero, Option.some.injEq] at e
    subst e
    rw [List.flatMap_cons, List.nodup_append] at nd
    exact nd.2.2 j ja j (List.mem_flatMap.mpr ⟨b, List.mem_of_getElem? (by simpa using e'), jb⟩) rfl
  | x :: r, n + 1, 0, a, b, nd, _, e, e' => by
    intro j ja jb
    simp only [List.getElem?_cons_zero, Option.some.injEq] at e'
    subst e'
    rw [List.flatMap_cons, List.nodup_append] at nd
    exact nd.2.2 j jb j (List.mem_flatMap.mpr ⟨a, List.mem_of_getElem? (by simpa using e), ja⟩) rfl
  | x :: r, n + 1, m + 1, a, b, nd, hn, e, e' => by
    rw [List.flatMap_cons, List.nodup_append] at nd
    exact own_sep (n := n) (m := m) nd.2.1 (by omega) (by simpa using e) (by simpa using e')
theorem set_ix : ∀ {L : List Own} {n : Nat} {o o' : Own}, L[n]? = some o → o'.ix = o.ix → (L.set n o').flatMap (·.ix) = L.flatMap (·.ix)
  | [], _, _, _, e, _ => by simp at e
  | x :: r, 0, o, o', e, q => by
    simp only [List.getElem?_cons_zero, Option.some.injEq] at e
    subst e
    simp [q]
  | x :: r, n + 1, o, o', e, q => by
    simp only [List.set_cons_succ, List.flatMap_cons]
    rw [set_ix (by simpa using e) q]
/-- one of them has changed -/
theorem Hold.step (h : Hold L μ) {n : Nat} (e : L[n]? = some o) (hix : o'.ix = o.ix) (hP : o'.P μ') (fr : ∀ j, j ∉ o.ix → j < μ.length → μ'[j]? = μ[j]?) (hc : Clo μ') : Hold (L.set n o') μ' := by
  refine ⟨by rw [set_ix e hix]; exact h.nd, ?_, hc⟩
  intro a ha
  obtain ⟨m, hm, ea⟩ := List.getElem_of_mem ha
  have ea' : (L.set n o')[m]? = some a := by rw [List.getElem?_eq_getElem hm, ea]
  by_cases q : n = m
  · subst q
    have hl : n < L.length := by simpa using hm
    rw [List.getElem?_set_self hl] at ea'
    cases ea'
    exact hP
  · rw [List.getElem?_set_ne q] at ea'
    have hpa := h.at ea'
    refine a.fr μ μ' (fun j hj => fr j (own_sep h.nd (Ne.symm q) ea' e j hj) (a.lt μ hpa j hj)) hpa
/-- the cells stay -/
theorem Hold.keep (h : Hold L μ) (fr : ∀ j, j < μ.length → μ'[j]? = μ[j]?) (hc : Clo μ') : Hold L μ' :=
  ⟨h.nd, fun a ha => a.fr μ μ' (fun j hj => fr j (a.lt μ (h.all a ha) j hj)) (h.all a ha), hc⟩
theorem Hold.app {o : Ob} (h : Hold L μ) (ho : obOk (μ.length + 1) o = true) : Hold L (μ ++ [o]) :=
  h.keep (fun j hj => by rw [List.getElem?_append_left hj]) (h.clo.app ho)
/-- a new thing in new cells -/
theorem Hold.new (h : Hold L μ) (fr : ∀ j, j < μ.length → μ'[j]? = μ[j]?) (hc : Clo μ') (hP : o.P μ') (hn : o.ix.Nodup) (hix : ∀ j ∈ o.ix, μ.length ≤ j) : Hold (L ++ [o]) μ' := by
  have k := h.keep fr hc
  refine ⟨?_, ?_, hc⟩
  · rw [List.flatMap_append, List.flatMap_cons, List.flatMap_nil, List.append_nil, List.nodup_append]
    refine ⟨h.nd, hn, ?_⟩
    rintro i hi j hj rfl
    obtain ⟨a, ha, hia⟩ := List.mem_flatMap.mp hi
    have := a.lt μ (h.all a ha) i hia
    have := hix i hj
    omega
  · intro a ha
    rcases List.mem_append.mp ha with ha | ha
    · exact k.all a ha
    · rw [List.mem_singleton.mp ha]; exact hP
theorem Hold.sub {M : List Own} (h : Hold L μ) (s : M.Sublist L) : Hold M μ := by
  refine ⟨?_, fun o ho => h.all o (s.mem ho), h.clo⟩
  refine List.Nodup.sublist ?_ h.nd
  induction s with
  | slnil => exact List.Sublist.refl _
  | cons a s ih =>
    have ih := ih ⟨(List.nodup_append.mp (by simpa using h.nd)).2.1, fun o ho => h.all o (List.mem_cons_of_mem _ ho), h.clo⟩
    exact ih.trans (by rw [List.flatMap_cons]; exact List.sublist_append_right _ _)
  | cons_cons a s ih =>
    have ih := ih ⟨(List.nodup_append.mp (by simpa using h.nd)).2.1, fun o ho => h.all o (List.mem_cons_of_mem _ ho), h.clo⟩
    rw [List.flatMap_cons, List.flatMap_cons]
    exact (List.Sublist.refl _).append ih
end
/-- one cell -/
def oneA (i : Nat) (o : Ob) : Own := ⟨[i], fun μ => μ[i]? = some o, fun μ μ' h e => by rw [h i (by simp)]; exact e, fun μ e j hj => by
  simp only [List.mem_singleton] at hj
  subst hj
  exact (List.getElem?_eq_some_iff.mp e).1⟩
def poolA (p : Nat) (c : Int) : Own := ⟨[p], Pool p c, fun μ μ' h e => e.of (h p (by simp)), fun μ e j hj => by
  simp only [List.mem_singleton] at hj
  subst hj
  exact e.lt⟩
/-- the cells that stood before, but the pool -/
def baseA (μ0 : Store) (p : Nat) : Own := ⟨(List.range μ0.length).filter (fun j => decide (j ≠ p)), fun μ => ∀ k, k < μ0.length → k ≠ p → μ[k]? = μ0[k]?, fun μ μ' h e k hk hp => by
    rw [h k (by simp [hk, hp])]
    exact e k hk hp, fun μ e j hj => by
    simp only [List.mem_filter, List.mem_range, decide_eq_true_eq] at hj
    have := e j hj.1 hj.2
    rw [List.getElem?_eq_getElem hj.1] at this
    exact (List.getElem?_eq_some_iff.mp this).1⟩
section
variable {L : List Own} {μ0 μ μ' : Store} {p : Nat} {c c' : Int}
/-- the end of a sealed def that has a pool -/
theorem Hold.fin {n m : Nat} (h : Hold L μ) (hw : PureS μ0) (hp : p < μ0.length) (e0 : L[n]? = some (baseA μ0 p)) (e1 : L[m]? = some (poolA p c)) : Wd p c (μ.take μ0.length) ∧ Fr p μ0 (μ.take μ0.length) ∧ (μ.take μ0.length).all (obOk μ0.length) = true := by
  have hb : ∀ k, k < μ0.length → k ≠ p → μ[k]? = μ0[k]? := h.at e0
  have hP : Pool p c μ := h.at e1
  have hl : μ0.length ≤ μ.length := by
    by_cases hc : μ0.length ≤ 1
    · have := hP.lt
      omega
    · by_cases q : μ0.length - 1 = p
      · have := hP.lt
        omega
      · have e := hb (μ0.length - 1) (by omega) q
        rw [List.getElem?_eq_getElem (by omega : μ0.length - 1 < μ0.length)] at e
        have := (List.getElem?_eq_some_iff.mp e).1
        omega
  have f : Fr p μ0 (μ.take μ0.length) := by
    refine ⟨by rw [List.length_take]; omega, fun j hj => ?_⟩
    by_cases hk : j < μ0.length
    · rw [List.getElem?_take_of_lt hk]
      exact hb j hk hj
    · rw [List.getElem?_eq_none (by rw [List.length_take]; omega), List.getElem?_eq_none (by omega)]
  have hP' : Pool p c (μ.take μ0.length) := hP.of (by rw [List.getElem?_take_of_lt hp])
  have pu : PureS (μ.take μ0.length) := by
    intro o ho
    obtain ⟨j, hj, rfl⟩ := List.getElem_of_mem ho
    by_cases q : j = p
    · subst q
      exact hP'.ob 0 _ (List.getElem?_eq_getElem hj)
    · have e := f.eq j q
      rw [List.getElem?_eq_getElem hj] at e
      exact hw _ (List.mem_of_getElem? e.symm)
  exact ⟨⟨hP', pu⟩, f, List.all_eq_true.mpr fun o ho => obOk_mono (pu o ho)⟩
theorem Hold.wc {m : Nat} (h : Hold L μ) (e : L[m]? = some (poolA p c)) : Wc p c μ := ⟨h.at e, h.clo⟩
/-- behind a draw -/
theorem Hold.draw {m : Nat} (h : Hold L μ) (e : L[m]? = some (poolA p c)) (x : Wz μ p c' μ') : Hold (L.set m (poolA p c')) μ' :=
  h.step e rfl x.wd.pool (fun j hj _ => x.fr.eq j (by rintro rfl; exact hj (by simp [poolA]))) x.wd.clo
theorem Hold.cell {n i : Nat} {o : Ob} (h : Hold L μ) (e : L[n]? = some (oneA i o)) : μ[i]? = some o := h.at e
/-- a cell set -/
theorem Hold.set {n i : Nat} {o o' : Ob} (h : Hold L μ) (e : L[n]? = some (oneA i o)) (ho : obOk μ.length o' = true) : Hold (L.set n (oneA i o')) (μ.set i o') := by
  have hi : i < μ.length := (List.getElem?_eq_some_iff.mp (h.cell e)).1
  refine h.step e rfl (List.getElem?_set_self hi) (fun j hj _ => List.getElem?_set_ne (by rintro rfl; exact hj (by simp [oneA]))) (h.clo.set ho)
/-- a cell made -/
theorem Hold.push {o : Ob} (h : Hold L μ) (ho : obOk (μ.length + 1) o = true) : Hold (L ++ [oneA μ.length o]) (μ ++ [o]) :=
  h.new (fun j hj => by rw [List.getElem?_append_left hj]) (h.clo.app ho) (by show (μ ++ [o])[μ.length]? = some o; simp) (by simp [oneA]) (by simp [oneA])
end
/-! ### the pool is the second thing -/
section
variable {R : List Own} {b : Own} {μ0 μ μ' : Store} {p : Nat} {c c' : Int}
theorem Hold.pl (h : Hold (b :: poolA p c :: R) μ) : Pool p c μ := h.at (n := 1) rfl
theorem Hold.z (h : Hold (b :: poolA p c :: R) μ) : Wz μ p c μ := ⟨⟨h.pl, h.clo⟩, .refl _ _⟩
theorem Hold.drw (h : Hold (b :: poolA p c :: R) μ) (x : Wz μ p c' μ') : Hold (b :: poolA p c' :: R) μ' := h.draw (m := 1) rfl x
theorem Hold.up (h : Hold (b :: poolA p c :: R) μ) (l : c ≤ c') : Hold (b :: poolA p c' :: R) μ := h.drw (h.z.mono l)
/-- at its end -/
theorem Hold.leave (h : Hold (baseA μ0 p :: poolA p c :: R) μ) (hc : Clo μ0) (hp : p < μ0.length) : Wz μ0 p c (μ.take μ0.length) ∧ (μ.take μ0.length).all (obOk μ0.length) = true := by
  have hb : ∀ k, k < μ0.length → k ≠ p → μ[k]? = μ0[k]? := h.at (n := 0) rfl
  have hP : Pool p c μ := h.pl
  have hl : μ0.length ≤ μ.length := by
    by_cases hc : μ0.length ≤ 1
    · have := hP.lt
      omega
    · by_cases q : μ0.length - 1 = p
      · have := hP.lt
        omega
      · have e := hb (μ0.length - 1) (by omega) q
        rw [List.getElem?_eq_getElem (by omega : μ0.length - 1 < μ0.length)] at e
        have := (List.getElem?_eq_some_iff.mp e).1
        omega
  have f : Fr p μ0 (μ.take μ0.length) := by
    refine ⟨by rw [List.length_take]; omega, fun j hj => ?_⟩
    by_cases hk : j < μ0.length
    · rw [List.getElem?_take_of_lt hk]
      exact hb j hk hj
    · rw [List.getElem?_eq_none (by rw [List.length_take]; omega), List.getElem?_eq_none (by omega)]
  have hP' : Pool p c (μ.take μ0.length) := hP.of (by rw [List.getElem?_take_of_lt hp])
  have cl : Clo (μ.take μ0.length) := hc.fr f fun o ho => hP'.ob _ o ho
  refine ⟨⟨⟨hP', cl⟩, f⟩, ?_⟩
  have := cl.all
  rw [f.len] at this
  exact this
theorem Hold.old (h : Hold (baseA μ0 p :: R) μ) {k : Nat} (hk : k < μ0.length) (hp : k ≠ p) : μ[k]? = μ0[k]? := h.at (n := 0) rfl k hk hp
end
section
variable {F : FD} (hF : DrawP F) {R : List Own} {b : Own} {μ : Store} {p : Nat} {c : Int}
include hF
theorem DrawP.h {n : Int} (h : Hold (b :: poolA p c :: R) μ) (hc : c < 2 ^ 20) (h0 : 0 < n) (h1 : n < 2 ^ 200) : Ok (F [.ref p, .int n] μ) (fun d μ' => ∃ r, d = .int r ∧ 0 ≤ r ∧ r < n ∧ Hold (b :: poolA p (c + 1) :: R) μ') :=
  (hF.z h.z hc h0 h1).mono fun d μ' ⟨r, e, a, q, x⟩ => ⟨r, e, a, q, h.drw x⟩
end
end DM

namespace DM
open PySem PySem.Spec L2
/-! ### [x for x in xs if ..] with draws in the test, in closed stores -/
theorem Wz.peel {p : Nat} {c : Int} {ν μ2 : Store} {o : Ob} (h : Clo ν) (hp : p < ν.length) (x : Wz (ν ++ [o]) p c μ2) : ∃ ν', μ2 = ν' ++ [o] ∧ Wz ν p c ν' := by
  have hl : μ2.length = ν.length + 1 := by rw [x.fr.len]; simp
  have hc : μ2[ν.length]? = some o := by
    rw [x.fr.eq ν.length (by omega)]
    simp
  have e := take_last hl hc
  have tl : (μ2.take ν.length).length = ν.length := by rw [List.length_take]; omega
  have ft : Fr p ν (μ2.take ν.length) := by
    refine ⟨tl, fun j hj => ?_⟩
    by_cases hjn : j < ν.length
    · rw [List.getElem?_take_of_lt hjn, x.fr.eq j hj, List.getElem?_append_left hjn]
    · rw [List.getElem?_eq_none (by omega), List.getElem?_eq_none (by omega)]
  have hP : Pool p c (μ2.take ν.length) := x.wd.pool.of (by rw [List.getElem?_take_of_lt hp])
  exact ⟨_, e, ⟨hP, h.fr ft fun o ho => hP.ob _ o ho⟩, ft⟩
end DM

namespace DM
open PySem PySem.Spec L2
open PyProof.Rows (envOfC)
/-! ### classmethods whose cls is called -/
def fnCP (n m : Nat) (S : SF) : FD := fun ds μ => if ds.length = m then resP (S (none :: startR (n - 1) ds) μ) else none
structure FnC (P : Program) (w : World) (K : PySem.W.Frag) (mg : Str → Option Value) (base : Heap) (k : Nat) (f : Addr) (fd : FuncData) (ps : List Str) (C : Str) (F : FD) : Prop where
  go : ∀ {A : Around} {outer : List Env} {s : Shared} {H : Hp} {args : Args} {us : List Value} {vs : List V} {ι : List Addr} {μ : Store} {ds : List D} {Q : VK} {E : XK},
    Room k A → A.guards = some [] → Env0 P w K mg base A outer s H → BindsTo s fd args (ps.zip us) → Vals (V.ref (He.ga K C) :: vs) us → vs.length + 1 = ps.length → WF K ι μ H → VRs K ι H vs ds → PostF K (xrS K) ι H Q E (F ds μ) →
      codeAny (model P w) A (.call (.ref f) args) (CR (L2.CX P w) outer P w H s Q E) s
section
variable {P : Program} {w : World} {K : PySem.W.Frag} {mg : Str → Option Value} {base : Heap}
end
section
variable {X : Cx} {W : DW} {k j i : Nat} {x C : Str} {p pos : Pos} {e : Expr} {es : List Expr} {kws : List Keyword} {ks : List Str} {As Bs : CM (List D)} {E : CM D}
end
/-! ### their calls -/
structure ClK (P : Program) (w : World) (K : PySem.W.Frag) (mg : Str → Option Value) (base : Heap) (k : Nat) (C m : Str) (F : FD) : Prop where
  ex : ∃ p f fd ps, FnC P w K mg base k f fd ps C F ∧ ClX.CRead K (He.ga K C) (.type "type") ∧ ClX.CMet K (He.ga K C) (.type "type") m p f ∧ mg C = some (.ref (He.ga K C)) ∧ Binds K fd ps [] ∧ ∀ ds μ, F ds μ ≠ none → ds.length + 1 = ps.length
section
variable {X : Cx} {W : DW} {k j : Nat} {C m : Str} {p pos apos : Pos} {e : Expr} {es : List Expr} {As : CM (List D)} {F : FD} {pl : Sem Bool}
end
/-! ### the facts -/
def cgA (C m : Str) (K : PySem.W.Frag) : Addr := match PySem.W.recIn K (He.ma K (He.ga K C) m) "classmethod" with
  | some (.ref g :: _) => g
  | _ => 0
def cmB (C m : Str) (K : PySem.W.Frag) : Bool := PySem.W.readsIn K (He.ga K C) (.type "type") && (He.eqO (PySem.W.specialIn K (.ref (He.ga K C)) "__getattribute__") (some (some (.builtin "type.__getattribute__"))) && ((match PySem.W.findCls K (.ref (He.ga K C)) (.type "type") m with
  | some (.get g p .none D) => decide (g = .builtin "classmethod.__get__") && (decide (p = .ref (He.ma K (He.ga K C) m)) && decide (D = .ref (He.ga K C)))
  | _ => false) && (match PySem.W.recIn K (He.ma K (He.ga K C) m) "classmethod" with
  | some (.ref g :: _) => PySem.W.fnIn K g
  | _ => false)))
end DM

namespace DM
open PySem PySem.Spec L2
/-! ### d.get(k, x) -/
def FdGet2 (o i z : D) (μ : Store) : Res D := match dctAt μ o, keyD i with
  | some (_, kvs), some k => okR ((valD kvs k).getD z) μ
  | _, _ => none
/-- the dict is looked at ahead of the key -/
def eGet2 (O I Z : CM D) : CM D := O.bind fun o ρ μ => match dctAt μ o with
  | some _ => I.bind (fun i => Z.bind (fun z _ μ1 => FdGet2 o i z μ1)) ρ μ
  | none => none
section
variable {ρ : Rho} {μ : Store} {Q : D → Store → Prop} {O I Z : CM D}
end
end DM

namespace DM
open PySem PySem.Spec L2
/-! ### two things as one; things in another order -/
def Own.and (a b : Own) : Own := ⟨a.ix ++ b.ix, fun μ => a.P μ ∧ b.P μ, fun μ μ' e h => ⟨a.fr μ μ' (fun j hj => e j (List.mem_append_left _ hj)) h.1, b.fr μ μ' (fun j hj => e j (List.mem_append_right _ hj)) h.2⟩, fun μ h j hj => by
  rcases List.mem_append.mp hj with hj | hj
  · exact a.lt μ h.1 j hj
  · exact b.lt μ h.2 j hj⟩
section
variable {L M : List Own} {μ μ' : Store} {a b : Own}
theorem Hold.join (h : Hold (a :: b :: L) μ) : Hold (a.and b :: L) μ := by
  refine ⟨?_, ?_, h.clo⟩
  · have := h.nd
    simp only [List.flatMap_cons] at this ⊢
    show ((a.ix ++ b.ix) ++ _).Nodup
    rw [List.append_assoc]
    exact this
  · intro o ho
    rcases List.mem_cons.mp ho with rfl | ho
    · exact ⟨h.all a (by simp), h.all b (by simp)⟩
    · exact h.all o (by simp [ho])
theorem Hold.split (h : Hold (a.and b :: L) μ) : Hold (a :: b :: L) μ := by
  refine ⟨?_, ?_, h.clo⟩
  · have := h.nd
    simp only [List.flatMap_cons] at this ⊢
    have e : (a.and b).ix = a.ix ++ b.ix := rfl
    rw [e, List.append_assoc] at this
    exact this
  · intro o ho
    have hab : a.P μ ∧ b.P μ := h.all (a.and b) (by simp)
    rcases List.mem_cons.mp ho with rfl | ho
    · exact hab.1
    rcases List.mem_cons.mp ho with rfl | ho
    · exact hab.2
    · exact h.all o (by simp [ho])
/-- the cells above n are let go -/
theorem Hold.cut {n : Nat} (h : Hold L μ) (hl : ∀ o ∈ L, ∀ j ∈ o.ix, j < n) (hc : Clo (μ.take n)) : Hold L (μ.take n) :=
  ⟨h.nd, fun o ho => o.fr μ _ (fun j hj => by rw [List.getElem?_take_of_lt (hl o ho j hj)]) (h.all o ho), hc⟩
end
section
variable {ρ : Rho} {μ : Store} {Q : D → Store → Prop}
end
end DM

namespace DM
open PySem PySem.Spec L2
/-! ### an expression that runs while a dict is locked (a comprehension over it) -/
def unlkE (c : Nat) : Res D → Res D
  | some (.ok d, μ) => match μ[c]? with
    | some (.dcl kvs) => some (.ok d, μ.set c (.dct kvs))
    | _ => none
  | _ => none
def eLK (E C : CM D) : CM D := fun ρ μ => match E ρ μ with
  | some (.ok (.ref c), _) => match μ[c]? with
    | some (.dct kvs) => unlkE c (C ρ (μ.set c (.dcl kvs)))
    | _ => none
  | _ => none
section
variable {ρ : Rho} {μ : Store} {Q : D → Store → Prop} {C : CM D}
end
end DM

namespace DM
open PySem PySem.Spec L2
/-! ### len of a dict -/
def FlenD (ds : List D) (μ : Store) : Res D := match ds with
  | [.ref c] => match μ[c]? with
    | some (.dct kvs) => okR (.int kvs.length) μ
    | _ => none
  | _ => none
end DM

namespace DM
open PySem PySem.Spec L2
/-! ### name = [comprehension], the list a cell of the store (its elements may be cells too) -/
section
variable {ρ : Rho} {μ : Store} {Q : D → Store → Prop}
end
end DM

namespace DM
open PySem PySem.Spec L2
/-! ### dict(a list's cell of pairs) -/
def FdictC (ds : List D) (μ : Store) : Res D := match ds with
  | [d] => match itemsL μ d with
    | some xs => match pairsD xs with
      | some kvs => okR (.ref μ.length) (μ ++ [.dct (mergeKD [] kvs)])
      | none => none
    | none => none
  | _ => none
end DM

namespace DM
open PySem PySem.Spec L2 PyProof.Rows
/-! ### sorted(xs) of tuples that are alike -/
def leD (a b : D) : Bool := !PySem.W.dataLt (pyD b) (pyD a)
def srtD (xs : List D) : List D := xs.mergeSort leD
def lstAt (μ : Store) : D → Option (List D)
  | .lst xs => some xs
  | .fl xs => some xs
  | .ref c => match μ[c]? with
    | some (.lst xs) => some xs
    | _ => none
  | _ => none
def isTup1 : D → Bool
  | .tup (_ :: _) => true
  | _ => false
def sortOk (xs : List D) : Prop := xs.length ≤ 1000000 ∧ (∀ x ∈ xs, shp 50 x = true ∧ isTup1 x = true) ∧ ∀ x ∈ xs, ∀ y ∈ xs, PySem.W.alike (pyD x) (pyD y) = true
instance (xs : List D) : Decidable (sortOk xs) := by unfold sortOk; infer_instance
def FsortT (ds : List D) (μ : Store) : Res D := match ds with
  | [d] => match lstAt μ d with
    | some xs => if sortOk xs then okR (.lst (srtD xs)) μ else none
    | none => none
  | _ => none
abbrev leV : V × PyData → V × PyData → Bool := PySem.W.dataLe false (fun b : V × PyData => b.2)
def rSortT (K : PySem.W.Frag) : List V → Hp → VK → Prop := fun xs H Q => ∃ (a : Addr) (vs : List V) (ps : List PyData), xs = [.ref a] ∧ SqL K H a vs ∧ DpAll K H vs ps ∧ PySem.W.AllAlike ps ∧ PySem.W.Sortable ps ∧ (∀ p ∈ ps, p.depth ≤ 50) ∧ vs.length ≤ 1000000 ∧
  ∀ p, H p = none → Q (.ref p) (upd H p (.lst (((vs.zip ps).mergeSort leV).map (·.1))))
section
variable {X : Cx} {K : PySem.W.Frag} {pins : List (Addr × Obj)} {σ : L2.St} {H : Hp} {s : Shared}
end
theorem srt_perm (xs : List D) : (srtD xs).Perm xs := List.mergeSort_perm xs leD
end DM

namespace DM
open PySem PySem.Spec L2
/-! ### a + b of lists, the new list a cell -/
def FaddC : D → D → Store → Res D
  | .lst a, .lst b, μ => if a.length + b.length ≤ sizeLine then okR (.ref μ.length) (μ ++ [.lst (a ++ b)]) else none
  | _, _, _ => none
end DM

namespace DM
open PySem PySem.Spec L2
/-! ### what sorted brings, of tuples that are alike -/
def ltD (a b : D) : Bool := PySem.W.dataLt (pyD a) (pyD b)
theorem ltD_irr (a : D) : ltD a a = false := PyProof.Rows.lex_irrefl _
theorem ltD_trans {a b c : D} (h : ltD a b = true) (k : ltD b c = true) : ltD a c = true := PyProof.Rows.lex_trans _ _ _ h k
theorem ltD_asym {a b : D} (h : ltD a b = true) : ltD b a = false := by
  cases q : ltD b a with
  | false => rfl
  | true => rw [← ltD_irr a, ltD_trans h q]
theorem leD_total (a b : D) : (leD a b || leD b a) = true := by
  show (!ltD b a || !ltD a b) = true
  cases h : ltD b a with
  | false => rfl
  | true => rw [ltD_asym h]; rfl
theorem leD_trans (a b c : D) (h : leD a b = true) (k : leD b c = true) : leD a c = true := by
  have h : (!ltD b a) = true := h
  have k : (!ltD c b) = true := k
  show (!ltD c a) = true
  cases q : ltD c a with
  | false => rfl
  | true =>
    rcases PyProof.Rows.lex_negTrans _ (PySem.W.keyToks (pyD b)) _ q with z | z
    · have z : ltD c b = true := z
      rw [z] at k; cases k
    · have z : ltD b a = true := z
      rw [z] at h; cases h
theorem srt_pw (xs : List D) : (srtD xs).Pairwise fun a b => leD a b = true := List.pairwise_mergeSort leD_trans leD_total xs
theorem pw_lt_uniq : ∀ {xs ys : List D}, xs.Perm ys → (xs.Pairwise fun a b => leD a b = true) → (ys.Pairwise fun a b => ltD a b = true) → xs = ys
  | [], ys, p, _, _ => (List.nil_perm.mp p).symm
  | x :: r, [], p, _, _ => absurd p.length_eq (by simp)
  | x :: r, y :: t, p, h, h' => by
    rw [List.pairwise_cons] at h h'
    have e : x = y := by
      rcases List.mem_cons.mp (p.mem_iff.mp (List.mem_cons_self (a := x) (l := r))) with e | hx
      · exact e
      rcases List.mem_cons.mp (p.symm.mem_iff.mp (List.mem_cons_self (a := y) (l := t))) with e | hy
      · exact e.symm
      have h1 : (!ltD y x) = true := h.1 y hy
      rw [h'.1 x hx] at h1
      cases h1
    subst e
    rw [pw_lt_uniq (List.Perm.cons_inv p) h.2 h'.2]
/-- the sorted list is the ascending one -/
theorem srt_uniq {xs ys : List D} (p : ys.Perm xs) (h : ys.Pairwise fun a b => ltD a b = true) : srtD xs = ys := pw_lt_uniq ((srt_perm xs).trans p.symm) (srt_pw xs) h
end DM

namespace DM
open PySem PySem.Spec L2
/-! ### a + b of lists (values or cells), the new list a cell -/
def lstOf (μ : Store) : D → Option (List D)
  | .lst xs => some xs
  | .ref c => match μ[c]? with
    | some (.lst xs) => some xs
    | _ => none
  | _ => none
def FaddR (x y : D) (μ : Store) : Res D := match lstOf μ x, lstOf μ y with
  | some a, some b => if a.length + b.length ≤ sizeLine then okR (.ref μ.length) (μ ++ [.lst (a ++ b)]) else none
  | _, _ => none
/-! ### a def by its arguments: stars, keywords, keyword-only parameters left out -/
structure KnV (P : Program) (w : World) (K : PySem.W.Frag) (mg : Str → Option Value) (base : Heap) (k : Nat) (x : Str) (ks : List Str) (F : FV) : Prop where
  ex : ∃ f, FnV P w K mg base k f ks F ∧ mg x = some (.ref f) ∧ PySem.W.keepIn K (.ref f) = true
def eCallV (F : FV) (A B : CM (List D)) : CM D := A.bind fun ds => B.bind fun es _ μ => F ds es μ
section
variable {X : Cx} {W : DW} {k j : Nat} {ks : List Str} {F : FV} {x : Str} {p pos : Pos} {e : Expr} {es : List Expr} {kws : List Keyword} {As Bs : CM (List D)}
end
section
variable {ρ : Rho} {μ : Store} {Q : D → Store → Prop} {As Bs : CM (List D)}
end
end DM
namespace GP
open PySem PySem.Spec L2 PyProof.Rows GenW DM
/-! ### list(g(k = v)) -/
structure KnGK (P : Program) (w : World) (K : PySem.W.Frag) (mg : Str → Option Value) (base : Heap) (k : Nat) (x : Str) (ps : List Str) (Fg : List D → Option (List D)) (ks : List Str) (idx : List Nat) : Prop where
  ex : ∃ f fd, GnG P w K mg base k f fd ps Fg ∧ mg x = some (.ref f) ∧ PySem.W.keepIn K (.ref f) = true ∧ ∀ (s : Shared) (us ws : List Value), us.length = 0 → ws.length = ks.length → BindsTo s fd ⟨us, ks.zip ws⟩ (ps.zip (pick idx (us ++ ws)))
def iGenK (n : Nat) (idx : List Nat) (Fg : List D → Option (List D)) (Bs : CM (List D)) : CM IV := Bs.bind fun es _ μ => match atomsV (pick idx es), Fg (pick idx es) with
  | some _, some items => if (es.length = n ∧ (pick idx es).length = n) ∧ items.all tupl = true then some (.ok (items, anyG), μ) else none
  | _, _ => none
section
variable {X : Cx} {W : DW} {k j n : Nat} {ps ks : List Str} {idx : List Nat} {Fg : List D → Option (List D)} {x : Str} {p pos : Pos} {kws : List Keyword} {Bs : CM (List D)}
theorem pim_callK {A : Around} (hrA : Room (j + 1) A) (hfA : A.frames = X.A.frames) (h : KnGK X.prog X.w X.K X.mg X.base j x ps Fg ks idx) (hr : Room k X.A) (hjk : j + 1 ≤ k) (hg : Gl X x) (hn : ps.length = n) (hnk : ks.length = n) (hkw : PK X kws (tA X.K W Bs))
    (hall : (backToKw pos (keywordEach kws X.env)).all (·.1.isSome) = true := by rfl) (hks : (backToKw pos (keywordEach kws X.env)).filterMap (·.1) = ks := by rfl) (hdb : (x == ("__debug__" : Str)) = false := by decide)
    (hpl : ((backTo pos (starEach [] X.env)).any (·.1) || (backToKw pos (keywordEach kws X.env)).any (·.1.isNone)) = false := by rfl) :
    PIM X A (.Call (.Name x p) [] kws pos) (tI X.K W (iGenK n idx Fg Bs)) := by
  obtain ⟨f, fd, F, hm, hk, hb⟩ := h.ex
  refine ⟨fun pins s σ H R I ⟨ρ, ι, μ, sr, wf, h⟩ => ?_⟩
  refine wpAny_Call_Name_kw (ld_glob I hg hm ?_ hdb)
  refine PySem.W.callWith_KW0 (h₀ := X.base) I.ok.mod.kin hk hall (thn (hkw.run pos pins s σ H _ I (PostG.bind sr wf h)) fun us s1 ⟨vs, H1, I1, r, ι1, μ1, ds, l1, w1, vx, h1⟩ => ⟨I1.kIn, ?_⟩) hpl
  rw [hks]
  split at h1
  · rename_i us' items e1 e2
    obtain ⟨q, h1⟩ := PostG.guard h1
    have evs : pick idx vs = us' := vrs_atoms e1 (pick_vrs vx)
    subst evs
    have hl : (pick idx vs).length = ps.length := by rw [atoms_len e1, q.1.2, hn]
    have hbb := hb s1 [] us rfl (by rw [← r.length, vx.length, q.1.1, hnk])
    rw [List.nil_append] at hbb
    refine wpAny_call (codeAny_mono (F.go (hr.mono (Nat.le_trans (Nat.le_succ _) hjk)) I1.env0 hbb (pick_vals r) e1 hl e2) fun rr s' hq => ?_)
    have hr1 : Room j A.in1 := hrA.in1
    cases rr with
    | error e => exact hq.elim
    | ok fl =>
      cases fl with
      | next => exact hq.elim
      | brk => exact hq.elim
      | cont => exact hq.elim
      | ret u =>
        obtain ⟨a, g, go, oL, N, qual, sc, cd, c, rfl, hgo, hga, hlt, hgen, hos, hbare, hkeep, hoL, hnc, hnext⟩ := hq.ex
        have I2 : L2.Inv X pins σ H1 s' := I1.call' (ch := []) hos (Un.kept hkeep) (I1.hok.kept hkeep) hbare fun b z => by simp at z
        have old := Older.of I1
        refine ⟨a, g, go, N, qual, sc, f, cd, s1.heap.objs.size, [a, s1.heap.objs.size], items, H1, rfl, I2, hgo, old, fun b hb => I1.hok.fresh hb, hga, hlt, ⟨_, [(s1.heap.objs.size, oL)], hgen, rfl, hga, hlt, fun q' hq' => ?_, fun gp s2 H2 w2 => ?_⟩, fun b hb' => ?_, ⟨hrA.hd, hrA.depth, hfA⟩, h1.ok0 w1 (itr_JG fun d hd => List.all_eq_true.mp q.2 d hd)⟩
        · rw [List.mem_singleton.mp hq']
          exact ⟨hoL, Nat.le_refl _, Nat.ne_of_lt hlt, hnc⟩
        · rw [Nat.sub_zero]
          exact hnext A.in1 hr1 (hfA.trans I1.ok.frames) gp s2 H2 w2
        · rcases List.mem_cons.mp hb' with rfl | hb'
          · exact Nat.le_of_lt hlt
          · rw [List.mem_singleton.mp hb']
            exact Nat.le_refl _
  · exact h1.elim
end
end GP

namespace DM
open PySem PySem.Spec L2 PyProof.Rows
/-! ### dicts whose keys are tuples of ints and texts -/
def eTNew : CM D := fun _ μ => some (.ok (.ref μ.length), μ ++ [.dtt []])
def keysT : List D → Option (List Key)
  | [] => some []
  | d :: r => match keyD d, keysT r with
    | some k, some t => some (k :: t)
    | _, _ => none
section
variable {K : PySem.W.Frag} {ι : List Addr} {H : Hp}
theorem keysT_vr : ∀ {vs : List V} {ds : List D} {ks : List Key}, VRs K ι H vs ds → keysT ds = some ks → vs = ks.map kV
  | _, _, _, .nil, e => by cases e; rfl
  | _, _, _, .cons (d := d) (ds := ds) h r, e => by
    unfold keysT at e
    match e1 : keyD d, e2 : keysT ds, e with
    | some k, some t, e =>
      cases e
      rw [keyD_vr h e1, keysT_vr r e2]
      rfl
theorem keysT_of {ks : List Key} : keysT (ks.map keyOf) = some ks := by
  induction ks with
  | nil => rfl
  | cons k r ih =>
    show (match keyD (keyOf k), keysT (r.map keyOf) with
      | some k, some t => some (k :: t)
      | _, _ => none) = _
    rw [ih]
    cases k <;> rfl
def putTD (kvs : List (List Key × D)) (k : List Key) (v : D) : List (List Key × D) := if (kvs.any fun kv => decide (kv.1 = k)) = true then kvs.map (fun kv => if kv.1 = k then (kv.1, v) else kv) else kvs ++ [(k, v)]
end

def FtPut (o : D) (ds : List D) (v : D) (μ : Store) : Option Store := match o with
  | .ref c => match μ[c]?, keysT ds with
    | some (.dtt kvs), some k => if kvs.length < sizeLine then some (μ.set c (.dtt (putTD kvs k v))) else none
    | _, _ => none
  | _ => none
def tTSub (O : CM D) (As : CM (List D)) : D → SF := fun v => lft O fun o => lft As fun ds ρ μ => if ds.length ≤ sizeLine then (match FtPut o ds v μ with
  | some μ' => some (.nx ρ, μ')
  | none => none) else none
/-! ### sorted(d) -/
def hasInt (k : List Key) : Bool := k.any fun x => match x with
  | .inl _ => true
  | .inr _ => false
def keyT (k : List Key) : D := .tup (k.map keyOf)
def FsortDT (ds : List D) (μ : Store) : Res D := match ds with
  | [.ref c] => match μ[c]? with
    | some (.dtt kvs) => if sortOk (kvs.map fun kv => keyT kv.1) ∧ (kvs.all fun kv => hasInt kv.1) = true then okR (.lst (srtD (kvs.map fun kv => keyT kv.1))) μ else none
    | _ => none
  | _ => none
def rSortDT (K : PySem.W.Frag) : List V → Hp → VK → Prop := fun xs H Q => ∃ (a : Addr) (kvs : List (List Key × V)) (ps : List PyData), xs = [.ref a] ∧ Rd H a (.dT kvs) ∧ (∀ bs, IsKeys H kvs bs → DpAll K H (bs.map V.ref) ps) ∧ PySem.W.AllAlike ps ∧ PySem.W.Sortable ps ∧ (∀ p ∈ ps, p.depth ≤ 50) ∧ kvs.length ≤ 1000000 ∧
  ∀ bs p, IsKeys H kvs bs → H p = none → Q (.ref p) (upd H p (.lst ((((bs.map V.ref).zip ps).mergeSort leV).map (·.1))))
section
variable {K : PySem.W.Frag} {ι : List Addr} {H : Hp}
end
end DM

/-! ### sorted(set(t)) of a tuple of texts -/
namespace L2
open PySem PySem.Spec PyProof.Rows
/-- the text that a member is -/
def keyS (v : Value) : Str := match v with | .str k _ => k | _ => ""
def txtE (P : Program) (w : World) (e : Int × Value) : Prop := (∃ k tk, e.2 = Value.str k tk) ∧ e.1 = (strKind P w).hash (keyS e.2)
/-- the set of texts at a: S its members -/
def SetS (P : Program) (w : World) (h : Heap) (a : Addr) (S : Str → Bool) (n : Nat) : Prop :=
  ∃ o es ep t, h.get? a = some o ∧ o.ExactSet ∧ o.data = .set es ep t ∧ (∀ e ∈ es.toList, txtE P w e) ∧ (es.toList.map fun e => keyS e.2).Nodup ∧ (∀ k, S k = true ↔ k ∈ es.toList.map fun e => keyS e.2) ∧
    es.size < scanBound ∧ t.fits es.size = true ∧ es.size = n ∧ Ris t.place.toList ∧ (w.params.followText "set-order" = true ∨ t.led = true)
section
variable {P : Program} {w : World} {h h' : Heap} {a : Addr} {S : Str → Bool} {n : Nat}
theorem SetS.at (R : SetS P w h a S n) (k : ∀ o, h.get? a = some o → h'.get? a = some o) : SetS P w h' a S n := by
  obtain ⟨o, es, ep, t, ho, r⟩ := R
  exact ⟨o, es, ep, t, k o ho, r⟩
theorem SetS.congr {S' : Str → Bool} (R : SetS P w h a S n) (e : ∀ k, S' k = S k) : SetS P w h a S' n := by
  rw [show S' = S from funext e]
  exact R
theorem txt_elems {l : List (Int × Value)} (g : ∀ e ∈ l, txtE P w e) : ElemsOf (strKind P w) l := fun e he => by
  obtain ⟨⟨k, tk, h1⟩, h2⟩ := g e he
  exact ⟨⟨k, by rw [h1]; exact strKind_is P w k tk, by rw [h2, h1]; rfl⟩, by rw [h1]; rfl⟩
theorem txt_is {e : Int × Value} (g : txtE P w e) (k : Str) : (strKind P w).is k e.2 = true ↔ keyS e.2 = k := by
  obtain ⟨⟨k0, tk, h1⟩, _⟩ := g
  rw [h1]
  constructor
  · intro z
    exact (strKind P w).inj _ _ _ (strKind_is P w k0 tk) z
  · rintro rfl
    exact strKind_is P w k0 tk
theorem txt_mem {l : List (Int × Value)} (g : ∀ e ∈ l, txtE P w e) (k : Str) : (k ∈ l.map fun e => keyS e.2) ↔ ∃ e ∈ l, (strKind P w).is k e.2 = true := by
  rw [List.mem_map]
  exact ⟨fun ⟨e, he, q⟩ => ⟨e, he, (txt_is (g e he) k).2 q⟩, fun ⟨e, he, q⟩ => ⟨e, he, (txt_is (g e he) k).1 q⟩⟩
end
section
variable {P : Program} {w : World} {A : Around} {E : Value → Shared → Prop} {s : Shared} {a : Addr} {S : Str → Bool} {n : Nat}
/-- a new member is laid: the table may be laid anew -/
theorem setS_lay {g : Bool → Sem Unit} (hg : ∀ (b : Bool) (s₁ : Shared) (Q' : Unit → Shared → Prop), Q' () s₁ → wpAny (model P w) A (g b) Q' E s₁)
    {o : Obj} {es : Array (Int × Value)} {ep : Nat} {t : SetTable} (ho : s.heap.get? a = some o) (hex : o.ExactSet) (hd : o.data = .set es ep t)
    {es1 : Array (Int × Value)} {t2 : SetTable} {S' : Str → Bool} (g1 : ∀ e ∈ es1.toList, txtE P w e) (nd1 : (es1.toList.map fun e => keyS e.2).Nodup) (m1 : ∀ k, S' k = true ↔ k ∈ es1.toList.map fun e => keyS e.2)
    (hb1 : es1.size < scanBound) (hf2 : t2.fits es1.size = true) (hr : Ris t2.place.toList) (hl : w.params.followText "set-order" = true ∨ t2.led = true) {wasDummy : Bool} {R : Option Bool → Shared → Prop}
    (hR : ∀ h', Heap.SameBut a s.heap h' → SetS P w h' a S' es1.size → R (some true) { s with heap := h' }) :
    wpAny (model P w) A (do
        storeSet a es1 t2
        if (!wasDummy && t2.tooFull) = true then do
            g (relayAll t2 es1 (SetTable.grown es1.size)).2.2
            storeSet a (relayAll t2 es1 (SetTable.grown es1.size)).1 (relayAll t2 es1 (SetTable.grown es1.size)).2.1
            pure (some true)
          else pure (some true)) R E s := by
  refine wpAny_bind (wpAny_storeSet_of ho hd ?_ (fits_of_scanBound hb1))
  have ho1 := store_at (es' := es1) (t' := t2) ho hd
  have sb1 := Heap.SameBut.update s.heap a (Obj.putSet es1 t2)
  split
  · have pm := relayAll_perm t2 es1 (SetTable.grown es1.size)
    have hf3 := relayAll_fits t2 es1 (SetTable.grown es1.size)
    have hr3 := relayAll_ris t2 es1 (SetTable.grown es1.size)
    have hl3 := relayAll_led t2 es1 (SetTable.grown es1.size)
    generalize relayAll t2 es1 (SetTable.grown es1.size) = Z at pm hf3 hr3 hl3 ⊢
    obtain ⟨es2, t3, gave⟩ := Z
    dsimp only at pm hf3 hr3 hl3 ⊢
    have hsz : es2.size = es1.size := by rw [← Array.length_toList, pm.length_eq, Array.length_toList]
    refine wpAny_bind (hg _ _ _ ?_)
    refine wpAny_bind (wpAny_storeSet_of ho1 rfl ?_ (fits_of_scanBound (by rw [hsz]; exact hb1)))
    have ho2 := store_at (es' := es2) (t' := t3) ho1 rfl
    have pk := pm.map fun e : Int × Value => keyS e.2
    refine wpAny_pure (hR _ (sb1.trans (Heap.SameBut.update _ a _)) ?_)
    exact ⟨_, es2, _, t3, ho2, hex, rfl, fun e he => g1 e (pm.mem_iff.mp he), pk.nodup_iff.mpr nd1, fun k => (m1 k).trans pk.mem_iff.symm, by rw [hsz]; exact hb1, hf3, hsz, hr3, hl.imp id fun z => by rw [hl3]; exact z⟩
  · exact wpAny_pure (hR _ sb1 ⟨_, es1, _, t2, ho1, hex, rfl, g1, nd1, m1, hb1, hf2, rfl, hr, hl⟩)
theorem setS_add {k : Str} {tk : Tok} {Q : Bool → Shared → Prop} (R : SetS P w s.heap a S n) (room : n + 1 < scanBound)
    (hQ : ∀ h', Heap.SameBut a s.heap h' → SetS P w h' a (fun j => S j || decide (j = k)) (if S k = true then n else n + 1) → Q (!S k) { s with heap := h' }) :
    wpAny (model P w) A (setAddHashed a (.str k tk) ((strKind P w).hash k)) Q E s := by
  obtain ⟨o, es, ep, t, ho, hex, hd, g, nd, hm, hb, hf, hn, hr, hl⟩ := R
  have hkey : (strKind P w).is k (.str k tk) = true := strKind_is P w k tk
  have hsc : (Value.str k tk).scannable = true := rfl
  have hel : ElemsOf (strKind P w) es.toList := txt_elems g
  unfold setAddHashed setAddHashedIn
  refine wpAny_holding (wpAny_bind (wpAny_setState_of ho hd hf ?_))
  dsimp only
  rw [byScan_of hsc hb hel]
  simp only [↓reduceIte]
  unfold setAddByScan
  refine wpAny_bind ?_
  refine wpAny_bind (wpAny_rule ?_)
  refine wpAny_bind (wpAny_setScan_of hkey ho hd hf hel ?_)
  cases hfi : List.findIdx? (fun e => (strKind P w).is k e.2) es.toList with
  | some j =>
    dsimp only
    obtain ⟨hj, pj, _⟩ := List.findIdx?_eq_some_iff_getElem.mp hfi
    have hSk : S k = true := (hm k).2 ((txt_mem (P := P) (w := w) g k).2 ⟨es.toList[j], List.getElem_mem hj, pj⟩)
    refine wpAny_pure (wpAny_pure ?_)
    have q := hQ s.heap (Heap.SameBut.refl a s.heap) ⟨o, es, ep, t, ho, hex, hd, g, nd, fun i => by
      rw [Bool.or_eq_true, decide_eq_true_eq, ← hm i]
      exact ⟨fun z => z.elim id (fun e => e ▸ hSk), .inl⟩, hb, hf, by rw [if_pos hSk]; exact hn, hr, hl⟩
    rw [hSk] at q
    exact q
  | none =>
    dsimp only
    have hnk : ¬ (k ∈ es.toList.map fun e => keyS e.2) := fun z => by
      obtain ⟨e, he, q⟩ := (txt_mem (P := P) (w := w) g k).1 z
      have c := List.findIdx?_eq_none_iff.mp hfi e he
      rw [q] at c
      cases c
    have hSk : S k = false := by
      cases q : S k with
      | false => rfl
      | true => exact absurd ((hm k).1 q) hnk
    have hgw : ∀ (b : Bool) {s₁ : Shared} {Q' : Unit → Shared → Prop}, Q' () s₁ → wpAny (model P w) A (match b with | true => rule "set.scan.the-table-gave-way" | false => pure ()) Q' E s₁ :=
      fun b s₁ Q' q => by cases b <;> first | exact wpAny_pure q | exact wpAny_rule q
    have pm := layNew_perm t es ((strKind P w).hash k) (.str k tk)
    have hf1 := layNew_fits t es ((strKind P w).hash k) (.str k tk)
    have hr1 := layNew_ris t es ((strKind P w).hash k) (.str k tk) hr
    have hl1 := layNew_led t es ((strKind P w).hash k) (.str k tk)
    generalize layNew t es ((strKind P w).hash k) (.str k tk) = Z at pm hf1 hr1 hl1 ⊢
    obtain ⟨es1, t1, wasDummy, gave⟩ := Z
    dsimp only at pm hf1 hr1 hl1 ⊢
    rw [Array.toList_push] at pm
    have pc : es1.toList.Perm (((strKind P w).hash k, Value.str k tk) :: es.toList) := pm.trans (List.perm_append_singleton _ _)
    have pk : (es1.toList.map fun e => keyS e.2).Perm (k :: es.toList.map fun e => keyS e.2) := pc.map fun e : Int × Value => keyS e.2
    have g1 : ∀ e ∈ es1.toList, txtE P w e := fun e he => by
      rcases List.mem_cons.mp (pc.mem_iff.mp he) with z | z
      · rw [z]; exact ⟨⟨k, tk, rfl⟩, rfl⟩
      · exact g e z
    have nd1 : (es1.toList.map fun e => keyS e.2).Nodup := pk.nodup_iff.mpr (List.nodup_cons.mpr ⟨hnk, nd⟩)
    have m1 : ∀ i, (S i || decide (i = k)) = true ↔ i ∈ es1.toList.map fun e => keyS e.2 := fun i => by
      rw [Bool.or_eq_true, decide_eq_true_eq, hm i, pk.mem_iff, List.mem_cons]
      exact Or.comm
    have hsz : es1.size = n + 1 := by rw [← Array.length_toList, pc.length_eq, List.length_cons, Array.length_toList, hn]
    have hb1 : es1.size < scanBound := by rw [hsz]; exact room
    have hled : w.params.followText "set-order" = true ∨ t1.led = true := hl.imp id fun z => by rw [hl1]; exact z
    have fin : ∀ h', Heap.SameBut a s.heap h' → SetS P w h' a (fun j => S j || decide (j = k)) es1.size → Q true { s with heap := h' } := fun h' sb r => by
      have q := hQ h' sb
      rw [hSk] at q
      rw [hsz] at r
      exact q r
    refine wpAny_bind (hgw _ ?_)
    split
    · refine wpAny_bind ?_
      rw [hashByValue_scannable 8 hsc]
      refine wpAny_pure ?_
      refine setS_lay ?_ ho hex hd g1 nd1 m1 hb1 ?_ ?_ ?_ ?_
      · intro b s₁ Q' q; cases b <;> first | exact wpAny_pure q | exact wpAny_rule q
      · first | (split <;> first | exact hf1 | exact SetTable.fits_plain_off hf1) | exact hf1
      · first | (split <;> exact hr1) | exact hr1
      · first | (split <;> exact hled) | exact hled
      · intro h' sb r; dsimp only; exact wpAny_pure (fin h' sb r)
    · refine wpAny_bind (wpAny_pure ?_)
      simp only [↓reduceIte]
      refine setS_lay ?_ ho hex hd g1 nd1 m1 hb1 hf1 hr1 hled ?_
      · intro b s₁ Q' q; cases b <;> first | exact wpAny_pure q | exact wpAny_rule q
      · intro h' sb r; dsimp only; exact wpAny_pure (fin h' sb r)
theorem setS_fresh {ts : List Str} {h : Heap} (ho : h.get? a = some { cls := .type "set", dict := none, data := .set #[] 0 (.fresh 0 0 (!w.params.followText "set-order")) }) : SetS P w h a (fun j => decide (j ∈ ts.take 0)) 0 :=
  ⟨_, #[], 0, _, ho, ⟨rfl, rfl, rfl⟩, rfl, (fun e he => by simp at he), (by simp), (fun k => by simp), (by decide), (by rfl), rfl, List.Pairwise.nil, by
    show _ ∨ (!w.params.followText "set-order") = true
    cases w.params.followText "set-order"
    · exact .inr rfl
    · exact .inl rfl⟩
/-- the texts that an iterator gives, added one by one -/
theorem setS_update {I : Addr} {fp wr : List Addr} {G : Array GenState → Array GenState → Prop} {n : Nat} {Pv : Nat → Value → Prop} {St : Nat → Shared → Prop} {R : Result → Shared → Prop}
    (W : WalksS P w A.in1 I fp wr G n Pv St) (S : Addr) (hSf : S ∉ fp) (ts : List Str) (hn : n = ts.length) (hb : ts.length + 1 < scanBound) (hval : ∀ i v, Pv i v → ∃ k t, ts[i]? = some k ∧ v = .str k t) :
    ∀ (k i : Nat) (s : Shared), n - i = k → i ≤ n → St i s → (∃ c, c ≤ i ∧ SetS P w s.heap S (fun j => decide (j ∈ ts.take i)) c) →
      (∀ s' c, Moved (S :: wr) G s s' → c ≤ n → SetS P w s'.heap S (fun j => decide (j ∈ ts)) c → R (.ok (.ret .none)) s') →
      codeAny (model P w) A (.builtin "set.update.loop" ⟨[.ref S, .ref I], []⟩) R s := by
  have hSw : S ∉ wr := fun h => hSf (W.sub _ h)
  have hsub : ∀ b ∈ wr, b ∈ S :: wr := fun b hb => List.mem_cons_of_mem _ hb
  intro k
  induction k with
  | zero =>
    intro i s hk' hi hst ⟨c, hc, hS⟩ hR
    have hin : i = n := by omega
    subst hin
    refine codeAny_builtin F.entry_set_update_loop ?_
    rw [Around.under_plainId F.plain_set_update_loop _]
    show wpAny _ A.in1 (pyNext (.ref I) >>= _) _ _ s
    refine wpAny_bind (W.done s _ _ hst fun s' hm => ?_)
    show wpAny _ A.in1 (ret Value.none) _ _ s'
    rw [show ts.take i = ts from List.take_of_length_le (by omega)] at hS
    exact wpAny_pure (hR s' c (hm.mono hsub) hc (hS.at fun o e => hm.heap S o hSw e))
  | succ k ih =>
    intro i s hk' hi hst ⟨c, hc, hS⟩ hR
    have hlt : i < n := by omega
    refine codeAny_builtin F.entry_set_update_loop ?_
    rw [Around.under_plainId F.plain_set_update_loop _]
    show wpAny _ A.in1 (pyNext (.ref I) >>= _) _ _ s
    refine wpAny_bind (W.item i s _ _ hlt hst fun v s' hP hst' hm => ?_)
    obtain ⟨z, t, hz, rfl⟩ := hval i v hP
    have hS' : SetS P w s'.heap S (fun j => decide (j ∈ ts.take i)) c := hS.at fun o e => hm.heap S o hSw e
    show wpAny _ A.in1 (holding [Value.str z t] (PySem.setAdd S (.str z t)) >>= _) _ _ s'
    refine wpAny_bind (wpAny_holding ?_)
    unfold PySem.setAdd
    refine wpAny_holding ?_
    refine wpAny_bind ((strKind P w).pyHash (k := z) (strKind_is _ _ _ _) ?_)
    refine setS_add (s := { s' with toks := s'.toks + 1 }) hS' (by omega) fun h' hsb hS2 => ?_
    have hS3 : SetS P w h' S (fun j => decide (j ∈ ts.take (i + 1))) (if decide (z ∈ ts.take i) = true then c else c + 1) := hS2.congr fun j => by
      rw [List.take_add_one, hz]
      simp [List.mem_append]
    have hc3 : (if decide (z ∈ ts.take i) = true then c else c + 1) ≤ i + 1 := by
      split <;> omega
    refine wpAny_pure ⟨plainId_quiet F.plain_set_update_loop _, ih (i + 1) _ (by omega) hlt (W.frame _ s' _ _ hst' (Nat.le_succ _) fun b hb o e => ?_) ⟨_, hc3, hS3⟩ fun s'' c2 hm'' hc'' hS'' => ?_⟩
    · rw [hsb.2 b (fun h : b = S => hSf (by rw [← h]; exact hb))]; exact e
    · refine hR s'' c2 (Moved.trans W.gtrans ((hm.mono hsub).then_heap (Nat.le_succ _) fun b o hb e => ?_) hm'') hc'' hS''
      rw [hsb.2 b (fun h : b = S => hb (by rw [h]; exact List.mem_cons_self))]; exact e
end
/-- sorted(set(t)) -/
def tSortSet (K : PySem.W.Frag) (ta : TE) : TE := fun σ H Q => ta σ H fun x H1 => ∃ (l : Addr) (ts : List Str), x = .ref l ∧ SqT K H1 l (ts.map V.str) ∧ ts.length < 64 ∧ ∀ (ys : List Str) (p : Addr), ys.Nodup → (∀ k, k ∈ ys ↔ k ∈ ts) → sortedS ys = true → H1 p = none → Q (.ref p) (upd H1 p (.lst (ys.map V.str)))
theorem strs_vals : ∀ {ts : List Str} {us : List Value}, Vals (ts.map V.str) us → ∀ (i : Nat) (v : Value), us[i]? = some v → ∃ k t, ts[i]? = some k ∧ v = .str k t
  | [], [], _, i, v, h => by simp at h
  | t :: ts, u :: us, h, i, v, e => by
    cases h with
    | cons a r =>
      cases i with
      | zero =>
        simp at e
        subst e
        obtain ⟨tk, rfl⟩ := a
        exact ⟨t, tk, rfl, rfl⟩
      | succ i => simpa using strs_vals r i v (by simpa using e)
end L2
namespace DM
open PySem PySem.Spec L2
def dedS : List Str → List Str
  | [] => []
  | x :: r => if x ∈ r then dedS r else x :: dedS r
theorem dedS_mem {k : Str} : ∀ {xs : List Str}, k ∈ dedS xs ↔ k ∈ xs
  | [] => Iff.rfl
  | x :: r => by
    unfold dedS
    split
    · rename_i h
      rw [dedS_mem, List.mem_cons]
      exact ⟨.inr, fun z => z.elim (fun e => e ▸ h) id⟩
    · rw [List.mem_cons, List.mem_cons, dedS_mem]
theorem dedS_nd : ∀ xs : List Str, (dedS xs).Nodup
  | [] => List.nodup_nil
  | x :: r => by
    unfold dedS
    split
    · exact dedS_nd r
    · rename_i h
      exact List.nodup_cons.mpr ⟨fun z => h (dedS_mem.mp z), dedS_nd r⟩
/-- sorted(set(..)) of a tuple of texts -/
def Fsset (d : D) (μ : Store) : Res D := match d with
  | .tup xs => match strsD xs with
    | some ts => if ts.length < 64 then okR (.lst ((sortS (dedS ts)).map D.str)) μ else none
    | none => none
  | _ => none
section
variable {X : Cx} {W : DW}
end
end DM

/-! ### sorted(set(t)) of a list of texts -/
namespace L2
open PySem PySem.Spec PyProof.Rows
section
variable {P : Program} {w : World} {A : Around} {E : Value → Shared → Prop} {s : Shared} {a : Addr} {S : Str → Bool} {n : Nat}
/-- set(t), t a list of texts -/
theorem call_setL {l : Addr} {items : Array Value} (ts : List Str) {Q : Value → Shared → Prop} (hh : A.handled = none) (hl : s.heap.IsList l items) (hit : ∀ (i : Nat) (v : Value), items[i]? = some v → ∃ k t, ts[i]? = some k ∧ v = .str k t) (hisz : items.size = ts.length) (hb : ts.length + 1 < scanBound)
    (h : ∀ (h' : Heap) (tk c : Nat), SetS P w h' s.heap.objs.size (fun j => decide (j ∈ ts)) c → c ≤ ts.length → (∀ b o, s.heap.get? b = some o → h'.get? b = some o) → Q (.ref s.heap.objs.size) { s with heap := h', toks := tk }) :
    wpAny (model P w) A (call (.type "set") [.ref l]) Q E s := by
  obtain ⟨c, tl, hmro⟩ := F.called_set.mro
  have hmade := F.called_set.made
  have hsub := F.called_set.sub
  refine wpAny_call (codeAny_of_tree ?_)
  show wpAny _ _ (callAny (.type "set") _) _ _ _
  refine wpAny_pure ⟨Code.quiet_builtin _ (by decide +kernel), codeAny_builtin F.entry_type_call ?_⟩
  rw [Around.under_plain (weight_type_call_type "set" [.ref l] []) rfl]
  have h1 := F.called_set.notType
  have h2 := F.called_set.canCreate
  have hct := F.typeCall_set_1 (.ref l)
  repeat (any_goals (first | assumption | wp_step))
  refine codeAny_mono (code_set_led1 (.ref l) (E := E) (Q₁ := fun obj s₁ => obj = .ref s.heap.objs.size ∧ s₁ = { s with heap := s.heap.push { cls := .type "set", dict := none, data := .set #[] 0 (.fresh 0 0 (!w.params.followText "set-order")) } }) ⟨rfl, rfl⟩) fun r s₁ hr => ?_
  cases r with
  | error e => exact hr
  | ok fl =>
    cases fl with
    | ret obj =>
      obtain ⟨rfl, rfl⟩ := hr
      have hS : (s.heap.push { cls := .type "set", dict := none, data := .set #[] 0 (.fresh 0 0 (!w.params.followText "set-order")) }).get? s.heap.objs.size = some { cls := .type "set", dict := none, data := .set #[] 0 (.fresh 0 0 (!w.params.followText "set-order")) } := Heap.get?_push_size _ rfl
      have hT : Shared.TypeIs { s with heap := s.heap.push { cls := .type "set", dict := none, data := .set #[] 0 (.fresh 0 0 (!w.params.followText "set-order")) } } (.ref s.heap.objs.size) "set" := ⟨_, hS, rfl⟩
      have hli := F.called_set.init.lookup
      have hbi := F.called_set.init.bind (.ref s.heap.objs.size)
      repeat (any_goals (first | assumption | wp_step))
      refine codeAny_mono (codeAny_call_builtin (R := wants (fun r s₂ => r = .none ∧ ∃ h' tk c, s₂ = { s with heap := h', toks := tk } ∧ SetS P w h' s.heap.objs.size (fun j => decide (j ∈ ts)) c ∧ c ≤ ts.length ∧
          (∀ b o, s.heap.get? b = some o → h'.get? b = some o)) E) F.called_set.init.plain F.entry_set_init (check_set_init_1 hT ?_)) fun r₂ s₂ hr₂ => ?_
      · obtain ⟨ol, hol, hcl, nl, hdl⟩ := hl
        obtain ⟨ocls, odict, odata, oslots⟩ := ol
        simp only at hcl hdl
        subst hcl; subst hdl
        have hol' : (s.heap.push { cls := .type "set", dict := none, data := .set #[] 0 (.fresh 0 0 (!w.params.followText "set-order")) }).get? l = some { cls := .type "list", dict := odict, data := .seq items nl, slots := oslots } := Heap.get?_push_of_some _ hol
        have hsls := F.sub_list_set
        have hslf := F.sub_list_frozenset
        have hne : (Value.type "list" == Value.type "dict") = false := by decide
        have hl1 : (s.heap.push { cls := .type "set", dict := none, data := .set #[] 0 (.fresh 0 0 (!w.params.followText "set-order")) }).IsList l items := ⟨_, hol', rfl, nl, rfl⟩
        unfold Builtin.«set.__init__» noKeywords Builtin.Frozenset.updateFrom
        generalize hPI : pyIter = PI
        wp_walk
        subst hPI
        refine wpAny_pyIter_list hl1 ?_
        refine wpAny_bind (wpAny_runValue ?_)
        have hlS : l < s.heap.objs.size := Heap.lt_size hol
        have hh3 : A.in1.in1.in1.handled = none := by simp [hh]
        have hneI : l ≠ (s.heap.push { cls := .type "set", dict := none, data := .set #[] 0 (.fresh 0 0 (!w.params.followText "set-order")) }).objs.size := by
          rw [Heap.size_push]; exact Nat.ne_of_lt (Nat.lt_succ_of_lt hlS)
        have hSf : s.heap.objs.size ∉ [(s.heap.push { cls := .type "set", dict := none, data := .set #[] 0 (.fresh 0 0 (!w.params.followText "set-order")) }).objs.size, l] := by
          rw [Heap.size_push]; simp only [List.mem_cons, List.mem_singleton, List.not_mem_nil, or_false, not_or]
          exact ⟨Nat.ne_of_lt (Nat.lt_succ_self _), Nat.ne_of_gt hlS⟩
        refine setS_update ((Walks.list hh3 _ l hneI items).toS) s.heap.objs.size
          hSf ts hisz hb hit (items.size - 0) 0 _ (by omega) (Nat.zero_le _)
          ⟨⟨_, Heap.get?_push_size _ rfl, rfl, rfl⟩, (hl1.push _)⟩ ?hS0 ?hR
        case hS0 => exact ⟨0, Nat.le_refl 0, setS_fresh (Heap.get?_push_of_some _ hS)⟩
        case hR =>
          intro s' c' hm hc' hS'
          obtain ⟨h', g2, d', tk', os'⟩ := s'
          have eg : g2 = s.gens := hm.gens
          have ed : d' = s.drawn := hm.drawn
          have eo : os' = s.os := hm.os
          subst eg; subst ed; subst eo
          show wpAny _ _ _ _ _ _
          refine wpAny_pure ?_
          show wpAny _ _ (ret Value.none) _ _ _
          rw [hisz] at hc'
          refine wpAny_pure ⟨rfl, h', tk', c', rfl, hS', hc', fun b o e => ?_⟩
          have hb0 : b < s.heap.objs.size := Heap.lt_size e
          have hb1 : b ≠ s.heap.objs.size := Nat.ne_of_lt hb0
          have hb2 : b ≠ (s.heap.push { cls := .type "set", dict := none, data := .set #[] 0 (.fresh 0 0 (!w.params.followText "set-order")) }).objs.size := by
            rw [Heap.size_push]; exact Nat.ne_of_lt (Nat.lt_succ_of_lt hb0)
          exact hm.heap b o (by simp only [List.mem_cons, List.mem_singleton, List.not_mem_nil, or_false, not_or]; exact ⟨hb1, hb2⟩) (Heap.get?_push_of_some _ (Heap.get?_push_of_some _ e))
      · cases r₂ with
        | error e => exact hr₂
        | ok fl₂ =>
          cases fl₂ with
          | ret r =>
            obtain ⟨rfl, h', tk, c', rfl, hS', hc', hk'⟩ := hr₂
            repeat (any_goals (first | assumption | wp_step))
            exact h _ _ _ hS' hc' hk'
          | _ => exact hr₂.elim
    | _ => exact hr.elim
end
/-- sorted(set(t)) -/
def tSortSetL (K : PySem.W.Frag) (ta : TE) : TE := fun σ H Q => ta σ H fun x H1 => ∃ (l : Addr) (ts : List Str), x = .ref l ∧ SqL K H1 l (ts.map V.str) ∧ ts.length < 64 ∧ ∀ (ys : List Str) (p : Addr), ys.Nodup → (∀ k, k ∈ ys ↔ k ∈ ts) → sortedS ys = true → H1 p = none → Q (.ref p) (upd H1 p (.lst (ys.map V.str)))
end L2
namespace DM
open PySem PySem.Spec L2
/-- sorted(set(..)) of a list of texts -/
def FssetL (d : D) (μ : Store) : Res D := match d with
  | .lst xs => match strsD xs with
    | some ts => if ts.length < 64 then okR (.lst ((sortS (dedS ts)).map D.str)) μ else none
    | none => none
  | _ => none
section
variable {X : Cx} {W : DW}
end
end DM

/-! ### the tables of sets, up to 512 places -/
namespace L2
open PySem PySem.Spec PyProof.Rows
/-- what a mask must give: each slot is met -/
structure MG (m : Nat) : Prop where
  all : ∀ j, j ≤ m → ∃ b, b ≤ m ∧ lcgN m b = j
  round : lcgN m (m + 1) = 0
  odd : m % 2 = 1
def orbit : Nat → Nat → List Nat
  | 0, _ => []
  | n + 1, x => x :: orbit n ((x * 5 + 1) % 512)
theorem lcgI_front (m : Nat) : ∀ (k x : Nat), lcgI m x (k + 1) = lcgI m ((x * 5 + 1) % (m + 1)) k
  | 0, _ => rfl
  | k + 1, x => by
    show (lcgI m x (k + 1) * 5 + 1) % (m + 1) = (lcgI m ((x * 5 + 1) % (m + 1)) k * 5 + 1) % (m + 1)
    rw [lcgI_front m k x]
theorem orbit_mem : ∀ (n x y : Nat), y ∈ orbit n x → ∃ k, k < n ∧ lcgI 511 x k = y
  | 0, _, _, h => by cases h
  | n + 1, x, y, h => by
    rcases List.mem_cons.mp h with e | h
    · exact ⟨0, Nat.succ_pos _, e.symm⟩
    · obtain ⟨k, hk, e⟩ := orbit_mem n _ y h
      exact ⟨k + 1, Nat.succ_lt_succ hk, by rw [lcgI_front]; exact e⟩
theorem lcgN_I (m : Nat) : ∀ k, lcgI m 0 k = lcgN m k
  | 0 => rfl
  | k + 1 => by
    show (lcgI m 0 k * 5 + 1) % (m + 1) = (lcgN m k * 5 + 1) % (m + 1)
    rw [lcgN_I m k]
theorem orbit_all : ((List.range 512).all fun j => (orbit 512 0).contains j) = true := by decide +kernel
theorem orbit_end : lcgN 511 512 = 0 := by decide +kernel
theorem mg511 : MG 511 where
  all := fun j hj => by
    have h := List.all_eq_true.mp orbit_all j (List.mem_range.mpr (Nat.lt_succ_of_le hj))
    obtain ⟨k, hk, e⟩ := orbit_mem 512 0 j (List.contains_iff_mem.mp h)
    exact ⟨k, Nat.le_of_lt_succ hk, by rw [← lcgN_I]; exact e⟩
  round := orbit_end
  odd := rfl
def MaskG (m : Nat) : Prop := m = 7 ∨ m = 31 ∨ m = 127 ∨ m = 511
theorem MaskG.mg {m : Nat} (h : MaskG m) : MG m := by
  have old : MaskOk m → MG m := fun h => ⟨fun j hj => lcg_all h hj, lcg_round h, mask_odd h⟩
  rcases h with e | e | e | e
  · exact old (.inl e)
  · exact old (.inr (.inl e))
  · exact old (.inr (.inr e))
  · subst e
    exact mg511
section
variable {m : Nat}
theorem MG.again (hm : MG m) : ∀ k, lcgN m (m + 1 + k) = lcgN m k
  | 0 => hm.round
  | k + 1 => by
    show (lcgN m (m + 1 + k) * 5 + 1) % (m + 1) = (lcgN m k * 5 + 1) % (m + 1)
    rw [hm.again k]
theorem MG.meets (hm : MG m) {i j : Nat} (hi : i ≤ m) (hj : j ≤ m) : ∃ k, k ≤ m ∧ lcgI m i k = j := by
  obtain ⟨a, ha, rfl⟩ := hm.all i hi
  obtain ⟨b, hb, rfl⟩ := hm.all j hj
  by_cases c : b < a
  · refine ⟨b + (m + 1) - a, by omega, ?_⟩
    rw [lcgN_add, show a + (b + (m + 1) - a) = m + 1 + b by omega, hm.again]
  · refine ⟨b - a, by omega, ?_⟩
    rw [lcgN_add, show a + (b - a) = b by omega]
theorem MG.run (hm : MG m) (h : Int) {j : Nat} (hj : j ≤ m) : ∃ n, n ≤ m + 12 ∧ runI m (SetTable.bits h) n = j := by
  obtain ⟨k, hk, e⟩ := hm.meets (runI_le m (SetTable.bits h) 12) hj
  exact ⟨12 + k, by omega, by rw [runI_tail (bits_lt h)]; exact e⟩
theorem MG.nth (hm : MG m) (h : Int) {j : Nat} (hj : j ≤ m) : ∃ k, k < 10 * SetTable.turns m ∧ way m h k = j := by
  obtain ⟨n, hn, e⟩ := hm.run h hj
  obtain ⟨k, hk, e2⟩ := run_nth m (SetTable.bits h) n
  refine ⟨k, by unfold SetTable.turns; omega, ?_⟩
  show (L2.nth m (runAt m (SetTable.bits h % (m + 1)) (SetTable.bits h)) k).j = j
  rw [e2]
  exact e
theorem way_in (m : Nat) (h : Int) (k : Nat) : way m h k ≤ m := by
  have hi : SetTable.bits h % (m + 1) ≤ m := Nat.le_of_lt_succ (Nat.mod_lt _ (Nat.succ_pos _))
  have r := runEnd_bd hi
  have q := nth_in (m := m) k (runAt m (SetTable.bits h % (m + 1)) (SetTable.bits h)) (by
    show SetTable.bits h % (m + 1) + (SetTable.runEnd m (SetTable.bits h % (m + 1)) - SetTable.bits h % (m + 1)) ≤ m
    omega)
  exact Nat.le_trans (Nat.le_add_right _ _) q
end
/-- a table in which all is found again -/
structure TabG (t : SetTable) (hs : List Int) : Prop where
  ris : Ris t.place.toList
  dm : t.dummies = #[]
  sz : t.place.size = hs.length
  mok : MaskG t.mask
  bd : ∀ x ∈ t.place.toList, x ≤ t.mask
  reach : ∀ (i : Nat) (h : Int) (j : Nat), hs[i]? = some h → t.place.toList[i]? = some j → ∃ k, way t.mask h k = j ∧ ∀ k', k' < k → way t.mask h k' ∈ t.place.toList
section
variable {t : SetTable} {hs : List Int}
theorem TabG.first (T : TabG t hs) (hl : hs.length ≤ t.mask) (h : Int) : ∃ K, K < 10 * SetTable.turns t.mask ∧ way t.mask h K ∉ t.place.toList ∧ ∀ k, k < K → way t.mask h k ∈ t.place.toList := by
  obtain ⟨j, hj, hn⟩ := st_missing t.place.toList (t.mask + 1) (by rw [Array.length_toList, T.sz]; omega)
  obtain ⟨k, hk, e⟩ := T.mok.mg.nth h (Nat.le_of_lt_succ hj)
  obtain ⟨K, h1, h2, h3⟩ := st_least (p := fun k => way t.mask h k ∉ t.place.toList) k (by show way t.mask h k ∉ _; rw [e]; exact hn)
  exact ⟨K, Nat.lt_of_le_of_lt h1 hk, h2, fun k' hk' => Classical.not_not.mp (h3 k' hk')⟩
theorem TabG.before (T : TabG t hs) {h : Int} {K i j : Nat} (hK : way t.mask h K ∉ t.place.toList) (hi : hs[i]? = some h) (hj : t.place.toList[i]? = some j) : ∃ k, k < K ∧ way t.mask h k = j := by
  obtain ⟨k, e, hb⟩ := T.reach i h j hi hj
  refine ⟨k, Nat.lt_of_not_le fun c => ?_, e⟩
  rcases Nat.lt_or_eq_of_le c with c | c
  · exact hK (hb K c)
  · rw [c, e] at hK
    exact hK (List.mem_of_getElem? hj)
theorem TabG.put (T : TabG t hs) {h : Int} {K : Nat} (hK : way t.mask h K ∉ t.place.toList) (hb : ∀ k, k < K → way t.mask h k ∈ t.place.toList) :
    (t.put (way t.mask h K)).2 = SetTable.below t.place (way t.mask h K) ∧ SetTable.below t.place (way t.mask h K) ≤ hs.length ∧
    TabG (t.put (way t.mask h K)).1 (hs.take (SetTable.below t.place (way t.mask h K)) ++ h :: hs.drop (SetTable.below t.place (way t.mask h K))) ∧
    (t.put (way t.mask h K)).1.mask = t.mask ∧ (t.put (way t.mask h K)).1.led = t.led ∧ (t.put (way t.mask h K)).1.fill = hs.length + 1 := by
  have hjm : way t.mask h K ≤ t.mask := way_in _ _ _
  obtain ⟨j, hj⟩ : ∃ j, j = way t.mask h K := ⟨_, rfl⟩
  rw [← hj] at hK hjm ⊢
  obtain ⟨c1, _, _⟩ := below_cut T.ris j
  have hpl : SetTable.below t.place j ≤ t.place.toList.length := by rw [Array.length_toList]; exact c1
  have hph : SetTable.below t.place j ≤ hs.length := by rw [← T.sz]; exact c1
  have hnp : t.place[SetTable.below t.place j]? ≠ some j := fun e => hK (List.mem_of_getElem? (by rw [Array.getElem?_toList]; exact e))
  have hpp := put_place t j
  have hsize : (t.put j).1.place.size = hs.length + 1 := by
    rw [← Array.length_toList, hpp, len_ins _ hpl, Array.length_toList, T.sz]
  have up : ∀ {x : Nat}, x ∈ t.place.toList → x ∈ (t.put j).1.place.toList := fun {x} hx => by
    rw [hpp]
    exact mem_ins.2 (.inr hx)
  refine ⟨rfl, hph, ⟨ris_insert T.ris hnp, put_dm T.dm j, by rw [len_ins _ hph]; exact hsize, T.mok, fun x hx => ?_, fun i h' j' h1 h2 => ?_⟩, rfl, rfl, ?_⟩
  · rw [hpp] at hx
    rcases mem_ins.1 hx with z | z
    · rw [z]; exact hjm
    · exact T.bd x z
  · rw [tins_get hs hph] at h1
    rw [hpp, tins_get _ hpl] at h2
    show ∃ k, way t.mask h' k = j' ∧ ∀ k', k' < k → way t.mask h' k' ∈ (t.put j).1.place.toList
    split at h1
    · rename_i c
      rw [if_pos c] at h2
      obtain ⟨k, e, z⟩ := T.reach i h' j' h1 h2
      exact ⟨k, e, fun k' hk' => up (z k' hk')⟩
    · rename_i c
      rw [if_neg c] at h2
      split at h1
      · rename_i d
        rw [if_pos d] at h2
        cases h1
        cases h2
        exact ⟨K, hj.symm, fun k' hk' => up (hb k' hk')⟩
      · rename_i d
        rw [if_neg d] at h2
        obtain ⟨k, e, z⟩ := T.reach (i - 1) h' j' h1 h2
        exact ⟨k, e, fun k' hk' => up (z k' hk')⟩
  · show (t.put j).1.place.size + (t.put j).1.dummies.size = hs.length + 1
    rw [hsize, put_dm T.dm j] <;> rfl
end
/-! laying all anew -/
section
variable {m : Nat}
theorem MG.find (hm : MG m) (owner : Array (Option Nat)) (h : Int) {j : Nat} (hj : j ≤ m) (hf : oAt owner j = none) :
    ∃ K, SetTable.layClean.free m owner (SetTable.turns m) (SetTable.bits h % (m + 1)) (SetTable.bits h) = some (way m h K) ∧ oAt owner (way m h K) = none ∧ ∀ k, k < K → oAt owner (way m h k) ≠ none := by
  obtain ⟨n, hn, e⟩ := hm.run h hj
  obtain ⟨N, hN⟩ : ∃ N, N = off m (SetTable.bits h % (m + 1)) (SetTable.bits h) n := ⟨_, rfl⟩
  have hw : way m h N = j := by
    show (L2.nth m (runAt m (SetTable.bits h % (m + 1)) (SetTable.bits h)) N).j = j
    rw [hN, nth_off, itL_run]
    exact e
  obtain ⟨K, k1, k2, k3⟩ := st_least (p := fun k => oAt owner (way m h k) = none) N (by show oAt owner (way m h N) = none; rw [hw]; exact hf)
  refine ⟨K, free_spec m owner (SetTable.turns m) n _ _ K (by unfold SetTable.turns; omega) (by rw [← hN]; exact k1) (fun k hk => ?_) ?_, k2, k3⟩
  · have q := k3 k hk
    cases z : oAt owner (L2.nth m (runAt m (SetTable.bits h % (m + 1)) (SetTable.bits h)) k).j with
    | none => exact absurd z q
    | some _ => rfl
  · have q : oAt owner (L2.nth m (runAt m (SetTable.bits h % (m + 1)) (SetTable.bits h)) K).j = none := k2
    rw [q]
    rfl
theorem Own.more (hm : MG m) {done : List Int} {owner : Array (Option Nat)} (W : Own m done owner) (hl : done.length ≤ m) (h : Int) :
    ∃ j, SetTable.layClean.free m owner (SetTable.turns m) (SetTable.bits h % (m + 1)) (SetTable.bits h) = some j ∧ Own m (done ++ [h]) (owner.setIfInBounds j (some done.length)) := by
  obtain ⟨ps, hps, hin⟩ := W.ps
  obtain ⟨j0, h0, hn0⟩ := st_missing ps (m + 1) (by omega)
  have hj0 : oAt owner j0 = none := by
    cases z : oAt owner j0 with
    | none => rfl
    | some k => exact absurd (hin j0 (Nat.le_of_lt_succ h0) (by rw [z]; exact fun e => nomatch e)) hn0
  obtain ⟨K, e1, e2, e3⟩ := hm.find owner h (Nat.le_of_lt_succ h0) hj0
  have hjm : way m h K ≤ m := way_in _ _ _
  refine ⟨way m h K, e1, ?_⟩
  have hself := oAt_set_self (owner := owner) (some done.length) (show way m h K < owner.size by rw [W.sz]; omega)
  have mono : ∀ {i : Nat}, oAt owner i ≠ none → oAt (owner.setIfInBounds (way m h K) (some done.length)) i ≠ none := fun {i} hi => by
    by_cases c : i = way m h K
    · rw [c, hself]; exact fun e => nomatch e
    · rw [oAt_set_ne _ c]; exact hi
  refine ⟨by rw [Array.size_setIfInBounds]; exact W.sz, fun j k hj e => ?_, fun k hk => ?_, ⟨way m h K :: ps, by rw [List.length_cons, List.length_append, hps] <;> rfl, fun j hj e => ?_⟩⟩
  · by_cases c : j = way m h K
    · rw [c, hself] at e
      cases e
      exact ⟨h, K, by simp, c.symm, fun k' hk' => mono (e3 k' hk')⟩
    · rw [oAt_set_ne _ c] at e
      obtain ⟨h', K', a1, a2, a3⟩ := W.at_ j k hj e
      exact ⟨h', K', by rw [List.getElem?_append_left (List.getElem?_eq_some_iff.mp a1).1]; exact a1, a2, fun k' hk' => mono (a3 k' hk')⟩
  · rw [List.length_append, List.length_singleton] at hk
    by_cases c : k < done.length
    · obtain ⟨j, hj, e⟩ := W.all k c
      exact ⟨j, hj, by rw [oAt_set_ne _ (fun z => by rw [z, e2] at e; cases e)]; exact e⟩
    · rw [show k = done.length by omega]
      exact ⟨way m h K, hjm, hself⟩
  · by_cases c : j = way m h K
    · rw [c]; exact List.mem_cons_self
    · rw [oAt_set_ne _ c] at e
      exact List.mem_cons_of_mem _ (hin j hj e)
theorem fold_all (hm : MG m) : ∀ (rest done : List Int) (owner : Array (Option Nat)), Own m done owner → done.length + rest.length ≤ m →
    ∃ owner', rest.foldl (stepF m) (some (owner, done.length)) = some (owner', (done ++ rest).length) ∧ Own m (done ++ rest) owner'
  | [], done, owner, W, _ => ⟨owner, by rw [List.append_nil] <;> rfl, by rw [List.append_nil]; exact W⟩
  | h :: rest, done, owner, W, hl => by
    rw [List.length_cons] at hl
    obtain ⟨j, e, W'⟩ := Own.more hm W (by omega) h
    have hl' : (done ++ [h]).length = done.length + 1 := by simp
    obtain ⟨owner', f, W2⟩ := fold_all hm rest (done ++ [h]) _ W' (by rw [hl']; omega)
    rw [show done ++ [h] ++ rest = done ++ h :: rest by simp] at f W2
    rw [hl'] at f
    exact ⟨owner', by rw [List.foldl_cons, stepF_some e]; exact f, W2⟩
theorem clean_all (hm : MG m) {hs : Array Int} (hn : hs.size ≤ m) : ∃ owner, SetTable.layClean m hs = some owner ∧ Own m hs.toList owner := by
  obtain ⟨owner, f, W⟩ := fold_all hm hs.toList [] _ (Own.init m) (by rw [Array.length_toList]; show 0 + hs.size ≤ m; omega)
  rw [List.nil_append] at W
  refine ⟨owner, ?_, W⟩
  have f' : hs.toList.foldl (stepF m) (some (Array.replicate (m + 1) none, 0)) = some (owner, ([] ++ hs.toList).length) := f
  rw [layClean_eq, f']
  rfl
theorem relaid_all (t : SetTable) {hs : Array Int} {wanted M : Nat} (hw : SetTable.sizeAbove wanted - 1 = M) (hM : MaskG M) (hn : hs.size ≤ M) :
    ∃ t' order, t.relaid hs wanted = some (t', order) ∧ order.toList.Perm (List.range hs.size) ∧ TabG t' (order.toList.map fun i => hs.getD i 0) ∧ t'.mask = M ∧ t'.led = t.led := by
  obtain ⟨owner, e, W⟩ := clean_all hM.mg hn
  have hr : t.relaid hs wanted = some (tabOf t M owner, ((liveOf M owner).map (·.2)).toArray) := by
    rw [relaid_eq, hw, e] <;> rfl
  have ris := ris_live (fun j => owner.getD j none) (List.range (M + 1)) (by
    unfold Ris
    first | exact List.pairwise_lt_range | exact List.pairwise_lt_range _)
  have r1 : Ris ((liveOf M owner).map (·.1)) := ris.1
  have r2 : ∀ x ∈ (liveOf M owner).map (·.1), x ∈ List.range (M + 1) := ris.2
  have nd : ((liveOf M owner).map (·.1)).Nodup := List.Pairwise.imp (fun h => Nat.ne_of_lt h) r1
  have hlen : (liveOf M owner).length = hs.size := by
    obtain ⟨ps, p1, p2⟩ := W.ps
    have a := nat_nodup_len ((liveOf M owner).map (·.1)) ps nd fun x hx => by
      obtain ⟨⟨y, k⟩, hq, ey⟩ := List.mem_map.mp hx
      have ey : y = x := ey
      subst ey
      obtain ⟨b1, b2⟩ := (mem_live W.sz).1 hq
      exact p2 y b1 (by rw [b2]; exact fun z => nomatch z)
    have b := nat_nodup_len (List.range hs.size) ((liveOf M owner).map (·.2)) List.nodup_range fun k hk => by
      obtain ⟨j, b1, b2⟩ := W.all k (by rw [Array.length_toList]; exact List.mem_range.mp hk)
      exact List.mem_map.mpr ⟨(j, k), (mem_live W.sz).2 ⟨b1, b2⟩, rfl⟩
    rw [List.length_map, p1] at a
    rw [List.length_map, List.length_range] at b
    have hz : hs.toList.length = hs.size := rfl
    omega
  refine ⟨tabOf t M owner, ((liveOf M owner).map (·.2)).toArray, hr, ?_, ⟨r1, rfl, ?_, hM, fun x hx => Nat.le_of_lt_succ (List.mem_range.mp (r2 x hx)), fun i h j h1 h2 => ?_⟩, rfl, rfl⟩
  · refine perm_range hs.size _ (by show ((liveOf M owner).map (·.2)).length = hs.size; rw [List.length_map]; exact hlen) fun k hk => ?_
    obtain ⟨j, b1, b2⟩ := W.all k (by rw [Array.length_toList]; exact hk)
    exact List.mem_map.mpr ⟨(j, k), (mem_live W.sz).2 ⟨b1, b2⟩, rfl⟩
  · show ((liveOf M owner).map (·.1)).toArray.size = (((liveOf M owner).map (·.2)).map fun i => hs.getD i 0).length
    rw [List.size_toArray, List.length_map, List.length_map, List.length_map]
  · have h1' : (((liveOf M owner).map (·.2)).map fun i => hs.getD i 0)[i]? = some h := h1
    have h2' : ((liveOf M owner).map (·.1))[i]? = some j := h2
    rw [List.getElem?_map, List.getElem?_map] at h1'
    rw [List.getElem?_map] at h2'
    cases hq : (liveOf M owner)[i]? with
    | none => rw [hq] at h2'; cases h2'
    | some q =>
      obtain ⟨y, k⟩ := q
      rw [hq] at h1' h2'
      have ej : y = j := Option.some.inj h2'
      have eh : hs.getD k 0 = h := Option.some.inj h1'
      subst ej
      obtain ⟨b1, b2⟩ := (mem_live W.sz).1 (List.mem_of_getElem? hq)
      obtain ⟨h0, K, a1, a2, a3⟩ := W.at_ y k b1 b2
      have e0 : hs.getD k 0 = h0 := by
        rw [Array.getD_eq_getD_getElem?, ← Array.getElem?_toList, a1] <;> rfl
      have ehh : h0 = h := e0.symm.trans eh
      subst ehh
      refine ⟨K, a2, fun k' hk' => ?_⟩
      show way M h0 k' ∈ (liveOf M owner).map (·.1)
      cases z : oAt owner (way M h0 k') with
      | none => exact absurd z (a3 k' hk')
      | some k2 => exact List.mem_map.mpr ⟨(way M h0 k', k2), (mem_live W.sz).2 ⟨way_in _ _ _, z⟩, rfl⟩
end
theorem grow5 : SetTable.sizeAbove (SetTable.grown 5) = 32 := by decide +kernel
theorem grow19 : SetTable.sizeAbove (SetTable.grown 19) = 128 := by decide +kernel
theorem grow77 : SetTable.sizeAbove (SetTable.grown 77) = 512 := by decide +kernel
/-- the rows in another order -/
theorem rows_order {β : Type} (f : Addr × β → Int × Value) (L : List (Addr × β)) (es : Array (Int × Value)) (order : Array Nat) (hr : es.toList = L.map f) (hp : order.toList.Perm (List.range L.length)) :
    ∃ L2 : List (Addr × β), (order.filterMap (es[·]?)).toList = L2.map f ∧ L2.Perm L ∧ (L2.map fun p => (f p).1) = order.toList.map fun i => (es.map (·.1)).getD i 0 := by
  have hsz : es.size = L.length := by rw [← Array.length_toList, hr, List.length_map]
  have ent : ∀ i (h : i < L.length), es[i]? = some (f L[i]) := fun i h => by
    rw [← Array.getElem?_toList, hr, List.getElem?_map, List.getElem?_eq_getElem h] <;> rfl
  have key : ∀ l : List Nat, (∀ i ∈ l, i < L.length) → ∃ L2 : List (Addr × β), l.filterMap (fun i => es[i]?) = L2.map f ∧ L2 = l.filterMap (fun i => L[i]?) ∧ (L2.map fun p => (f p).1) = l.map fun i => (es.map (·.1)).getD i 0 := by
    intro l
    induction l with
    | nil => intro _; exact ⟨[], rfl, rfl, rfl⟩
    | cons i l ih =>
      intro hl
      have hi := hl i List.mem_cons_self
      obtain ⟨L2, e1, e2, e3⟩ := ih fun j hj => hl j (List.mem_cons_of_mem _ hj)
      refine ⟨L[i] :: L2, ?_, ?_, ?_⟩
      · rw [List.filterMap_cons_some (ent i hi), e1] <;> rfl
      · rw [List.filterMap_cons_some (List.getElem?_eq_getElem hi), e2]
      · rw [List.map_cons, List.map_cons, e3]
        have e5 : (es.map (·.1))[i]? = some (f L[i]).1 := by rw [Array.getElem?_map, ent i hi] <;> rfl
        have e4 : (es.map (·.1)).getD i 0 = (f L[i]).1 := by simp [Array.getD_eq_getD_getElem?, e5]
        rw [e4]
  obtain ⟨L2, e1, e2, e3⟩ := key order.toList fun i hi => List.mem_range.mp (hp.mem_iff.mp hi)
  refine ⟨L2, by first | (rw [Array.toList_filterMap]; exact e1) | simpa using e1, ?_, e3⟩
  have h1 : L2.Perm ((List.range L.length).filterMap fun i => L[i]?) := by
    rw [e2]
    exact hp.filterMap _
  have h2 : ∀ n, n ≤ L.length → (List.range n).filterMap (fun i => L[i]?) = L.take n := by
    intro n
    induction n with
    | zero => intro _; rfl
    | succ n ih =>
      intro hn
      rw [List.range_succ, List.filterMap_append, ih (Nat.le_of_lt hn), List.take_succ, List.getElem?_eq_getElem hn, List.filterMap_cons_some (List.getElem?_eq_getElem hn)]
      rfl
  rw [h2 L.length (Nat.le_refl _), List.take_length] at h1
  exact h1
end L2

/-! ### sets of at most 90 tuples of texts and whole numbers -/
namespace L2
open PySem PySem.Spec PyProof.Rows
section
variable {P : Program} {w : World} {A : Around} {E : Value → Shared → Prop} {s : Shared}
abbrev hK (P : Program) (w : World) (k : List Key) : Int := tupleKeyHash (mixKind P w) k
abbrev IsK (P : Program) (w : World) (h : Heap) (k : List Key) (b : Addr) : Prop := IsTupleKey (mixKind P w) h k b
theorem atoms_of {k : List Key} {vs : List Value} (h : ItemsAre (mixKind P w) k vs) : ∀ v ∈ vs, ∀ n, ofAClassStatement n v = pure false ∧ hashByValue n v = pure (plainKind v) := by
  induction h with
  | nil => exact fun v hv => nomatch hv
  | cons h1 _ ih =>
    intro v hv n
    rcases List.mem_cons.mp hv with e | hv
    · rcases keyIs_shape h1 with ⟨i, t, _, e2⟩ | ⟨x, t, _, e2⟩ <;> rw [e, e2] <;> cases n <;> exact ⟨rfl, rfl⟩
    · exact ih v hv n
theorem noCls {k : List Key} {b : Addr} {Q : Bool → Shared → Prop} (x : IsK P w s.heap k b) (q : Q false s) : wpAny (model P w) A (ofAClassStatement 8 (.ref b)) Q E s := by
  have ty := x.typeIs
  obtain ⟨o, its, m, ho, _, hd, hi⟩ := x
  have ats := atoms_of hi
  unfold ofAClassStatement
  refine wpAny_bind (wpAny_typeOf ty ?_)
  have et : (("tuple" : String) == "tuple") = true := by decide
  simp only [et, if_true, Bool.not_true, Bool.false_eq_true, if_false]
  try refine wpAny_bind (wpAny_pure ?_)
  try simp only [Bool.not_true, Bool.false_eq_true, if_false]
  show wpAny _ _ (seqItems? (.ref b) >>= _) _ _ s
  refine wpAny_bind (wpAny_seqItems ho hd ?_)
  dsimp only
  refine wpAny_bind ?_
  show wpAny _ _ (forIn its _ _) _ _ s
  rw [← Array.forIn_toList]
  refine wpAny_forIn_list _ (fun more got now => (got.1 = none ∧ now = s) ∧ ∀ v ∈ more, v ∈ its.toList) _ ?_ ?_ _ _ ⟨⟨rfl, rfl⟩, fun v hv => hv⟩
  · rintro v more got now ⟨⟨g, rfl⟩, sub⟩
    rw [(ats v (sub v List.mem_cons_self) _).1]
    refine wpAny_bind (wpAny_pure ?_)
    simp only [Bool.false_eq_true, if_false]
    exact wpAny_pure ⟨⟨rfl, rfl⟩, fun u hu => sub u (List.mem_cons_of_mem _ hu)⟩
  · rintro ⟨g1, g2⟩ now ⟨⟨g, rfl⟩, _⟩
    dsimp only at g
    subst g
    exact wpAny_pure q
theorem byVal {k : List Key} {b : Addr} {Q : Bool → Shared → Prop} (x : IsK P w s.heap k b) (q : ∀ y, Q y s) : wpAny (model P w) A (hashByValue 8 (.ref b)) Q E s := by
  have ty := x.typeIs
  obtain ⟨o, its, m, ho, _, hd, hi⟩ := x
  have ats := atoms_of hi
  unfold hashByValue
  refine wpAny_bind (wpAny_specialOf ty F.slot_tuple_hash.lookup ?_)
  show wpAny _ _ (seqItems? (.ref b) >>= _) _ _ s
  refine wpAny_bind (wpAny_seqItems ho hd ?_)
  refine wpAny_bind ?_
  show wpAny _ _ (forIn its _ _) _ _ s
  rw [← Array.forIn_toList]
  refine wpAny_forIn_list _ (fun more got now => (got.1 = none ∧ now = s) ∧ ∀ v ∈ more, v ∈ its.toList) _ ?_ ?_ _ _ ⟨⟨rfl, rfl⟩, fun v hv => hv⟩
  · rintro v more got now ⟨⟨g, rfl⟩, sub⟩
    rw [(ats v (sub v List.mem_cons_self) _).2]
    refine wpAny_bind (wpAny_pure ?_)
    cases plainKind v with
    | true =>
      simp only [Bool.not_true, Bool.false_eq_true, if_false]
      exact wpAny_pure ⟨⟨rfl, rfl⟩, fun u hu => sub u (List.mem_cons_of_mem _ hu)⟩
    | false =>
      simp only [Bool.not_false, if_true]
      exact wpAny_pure (wpAny_pure (q false))
  · rintro ⟨g1, g2⟩ now ⟨⟨g, rfl⟩, _⟩
    dsimp only at g
    subst g
    exact wpAny_pure (q true)
theorem notSeen {k : List Key} {b : Addr} {Q : Bool → Shared → Prop} (x : IsK P w s.heap k b) {ys : List Value} (hy : ∀ y ∈ ys, ∃ j c, y = Value.ref c ∧ IsK P w s.heap j c) (q : Q false s) : wpAny (model P w) A (searchCouldBeSeen (.ref b) ys) Q E s := by
  unfold searchCouldBeSeen
  refine wpAny_bind ?_
  refine wpAny_forIn_list _ (fun more got now => (got.1 = none ∧ now = s) ∧ ∀ v ∈ more, v ∈ ys) _ ?_ ?_ _ _ ⟨⟨rfl, rfl⟩, fun v hv => hv⟩
  · rintro v more got now ⟨⟨g, rfl⟩, sub⟩
    obtain ⟨j, c, rfl, xc⟩ := hy v (sub v List.mem_cons_self)
    have tl : ∀ u ∈ more, u ∈ ys := fun u hu => sub u (List.mem_cons_of_mem _ hu)
    dsimp only
    by_cases same : (b == c || (carriedByValue (.ref b) && carriedByValue (.ref c))) = true
    · exact wp_if_pos same (wpAny_pure ⟨⟨rfl, rfl⟩, tl⟩)
    · refine wp_if_neg same (wpAny_bind (wpAny_eqIsQuiet_tuple x ?_))
      simp only [Bool.not_true, Bool.false_eq_true, if_false]
      refine wpAny_bind (wpAny_eqIsQuiet_tuple xc ?_)
      simp only [Bool.not_true, Bool.false_eq_true, if_false]
      refine wpAny_bind (noCls x ?_)
      simp only [Bool.false_eq_true, if_false]
      refine wpAny_bind (noCls xc ?_)
      simp only [Bool.false_eq_true, if_false]
      exact wpAny_pure ⟨⟨rfl, rfl⟩, tl⟩
  · rintro ⟨g1, g2⟩ now ⟨⟨g, rfl⟩, _⟩
    dsimp only at g
    subst g
    exact wpAny_pure q
/-- a set of at most 90 such tuples: L its members, in the order of the table -/
structure Few (P : Program) (w : World) (h : Heap) (a : Addr) (L : List (Addr × List Key)) (es : Array (Int × Value)) (ep : Nat) (t : SetTable) : Prop where
  obj : ∃ o, h.get? a = some o ∧ o.ExactSet ∧ o.data = .set es ep t
  row : es.toList = L.map fun p => (hK P w p.2, Value.ref p.1)
  tab : TabG t (L.map fun p => hK P w p.2)
  nod : (L.map (·.2)).Nodup
  key : ∀ p ∈ L, IsK P w h p.2 p.1
  room : L.length * 5 < t.mask * 3
  led : w.params.followText "set-order" = true ∨ t.led = true
  few : L.length ≤ 90
variable {a : Addr} {L : List (Addr × List Key)} {es : Array (Int × Value)} {ep : Nat} {t : SetTable}
theorem Few.len (R : Few P w s.heap a L es ep t) : es.size = L.length := by
  rw [← Array.length_toList, R.row, List.length_map]
theorem Few.fit (R : Few P w s.heap a L es ep t) : t.fits es.size = true := by
  have h1 := R.tab.sz
  rw [List.length_map] at h1
  have h2 := R.len
  have h4 := R.room
  unfold SetTable.fits SetTable.fill
  rw [R.tab.dm, Bool.and_eq_true, beq_iff_eq, decide_eq_true_eq]
  show t.place.size = es.size ∧ t.place.size + 0 ≤ t.mask
  omega
theorem Few.at_ (R : Few P w s.heap a L es ep t) {i : Nat} {p : Addr × List Key} (h : L[i]? = some p) : es[i]? = some (hK P w p.2, Value.ref p.1) := by
  rw [← Array.getElem?_toList, R.row, List.getElem?_map, h]
  rfl
theorem Few.good (R : Few P w s.heap a L es ep t) : ¬ t.gaveWay = true := by
  unfold SetTable.gaveWay
  rw [R.tab.mok.mg.odd]
  decide
theorem Few.lim (R : Few P w s.heap a L es ep t) : t.mask ≤ 511 := by
  rcases R.tab.mok with e | e | e | e <;> omega
abbrev P0 (m : Nat) (h : Int) (c : Nat) : SetTable.Probe := nth m (runAt m (SetTable.bits h % (m + 1)) (SetTable.bits h)) c
theorem P0_dummy (m : Nat) (h : Int) (c : Nat) : (P0 m h c).dummy = none := by
  have key : ∀ (n : Nat) (p : SetTable.Probe), p.dummy = none → (nth m p n).dummy = none := by
    intro n
    induction n with
    | zero => exact fun p hp => hp
    | succ n ih =>
      intro p hp
      refine ih (adv m p) ?_
      unfold adv
      split <;> exact hp
  exact key c _ rfl
theorem P0_add (m : Nat) (h : Int) (c q : Nat) : nth m (P0 m h c) q = P0 m h (c + q) := (nth_add m c _ q).symm
/-- the search, from the c-th place of the way on -/
theorem few_search (R : Few P w s.heap a L es ep t) {x : Addr} {k : List Key} (hx : IsK P w s.heap k x) (hu : A.units < cLine) {K : Nat} (hKf : K < 10 * SetTable.turns t.mask) (hout : (P0 t.mask (hK P w k) K).j ∉ t.place.toList) (hin : ∀ c, c < K → (P0 t.mask (hK P w k) c).j ∈ t.place.toList)
    {Q : SetFound → Shared → Prop} (yes : k ∈ L.map (·.2) → Q (.there none) s) (no : k ∉ L.map (·.2) → Q (.free (P0 t.mask (hK P w k) K).j false) s) :
    ∀ (m c f : Nat) (stand : Option SetTable.Probe), c + m = K → m < f → stand.getD (t.probeStart (hK P w k)) = P0 t.mask (hK P w k) c →
      (∀ (i : Nat) p, L[i]? = some p → p.2 = k → ∃ c', c ≤ c' ∧ c' < K ∧ t.place.toList[i]? = some (P0 t.mask (hK P w k) c').j) →
      wpAny (model P w) A (setSearchFrom a (.ref x) (hK P w k) true f stand) Q E s := by
  intro m
  induction m using Nat.strongRecOn with
  | _ m ih =>
    intro c f stand hc hf hst left
    obtain ⟨o, ho, hex, hd⟩ := R.obj
    obtain ⟨f, rfl⟩ : ∃ g, f = g + 1 := ⟨f - 1, by omega⟩
    have spec := go_spec t R.tab.ris R.tab.dm (fun i => (es[i]?.map (·.1)).getD 0) (hK P w k) (10 * SetTable.turns t.mask) m (P0 t.mask (hK P w k) c) (P0_dummy _ _ _) (by omega)
      (fun q hq => by rw [P0_add]; exact hin (c + q) (by omega)) (by rw [P0_add, hc]; exact hout)
    simp only [P0_add] at spec
    have hashOf : ∀ (i : Nat) p, L[i]? = some p → (es[i]?.map (·.1)).getD 0 = hK P w p.2 := fun i p hp => by rw [R.at_ hp]; rfl
    rw [setSearchFrom_succ]
    refine wpAny_bind (wpAny_setState_of ho hd R.fit ?_)
    dsimp only
    refine wp_if_neg R.good ?_
    try refine wpAny_bind (wpAny_pure ?_)
    rcases spec with ⟨q, i, hq, hi, hh, first, pr⟩ | ⟨none_, pr⟩
    · have pr2 : t.probe (fun i => (es[i]?.map (·.1)).getD 0) (hK P w k) (stand.getD (t.probeStart (hK P w k))) = some (.candidate (P0 t.mask (hK P w k) (c + q)).j i (P0 t.mask (hK P w k) (c + (q + 1)))) := by
        rw [hst]
        exact pr
      rw [pr2]
      dsimp only
      have il : i < L.length := by
        have h1 : i < t.place.toList.length := (List.getElem?_eq_some_iff.mp hi).1
        have h2 := R.tab.sz
        rw [List.length_map] at h2
        rw [Array.length_toList] at h1
        omega
      obtain ⟨p, hp⟩ : ∃ p, L[i]? = some p := ⟨_, List.getElem?_eq_getElem il⟩
      have pm := List.mem_of_getElem? hp
      have pk := R.key p pm
      have sl : t.slot (P0 t.mask (hK P w k) (c + q)).j = .live i := slot_live R.tab.ris hi
      have rest : wpAny (model P w) A (searchRest a (.ref x) (hK P w k) true f es t (P0 t.mask (hK P w k) (c + q)).j i (P0 t.mask (hK P w k) (c + (q + 1)))) Q E s := by
        unfold searchRest
        rw [R.at_ hp]
        dsimp only
        refine wpAny_bind (wpAny_holding (wpAny_eqBool_tuple hu pk hx ?_))
        refine wpAny_bind (wpAny_setState_of ho hd R.fit ?_)
        dsimp only
        by_cases ek : p.2 = k
        · exact wp_if_pos (by simp [ek]) (wpAny_pure (yes (List.mem_map.mpr ⟨p, pm, ek⟩)))
        · refine wp_if_neg (by simp [ek]) ?_
          try refine wpAny_bind (wpAny_pure ?_)
          rw [sameMem]
          dsimp only
          simp only [if_true, sl, R.at_ hp]
          refine wpAny_bind (wpAny_isSame_ref_self (wpAny_bind (wpAny_pure ?_)))
          simp only [if_true]
          refine wp_if_neg (by simp [ek]) ?_
          refine ih (m - (q + 1)) (by omega) (c + (q + 1)) f _ (by omega) (by omega) rfl fun i0 p0 h0 k0 => ?_
          obtain ⟨c', a1, a2, a3⟩ := left i0 p0 h0 k0
          refine ⟨c', ?_, a2, a3⟩
          rcases Nat.lt_trichotomy c' (c + q) with z | z | z
          · exfalso
            obtain ⟨d, rfl⟩ : ∃ d, c' = c + d := ⟨c' - c, by omega⟩
            exact first d i0 (by omega) a3 ((hashOf i0 p0 h0).trans (by rw [k0]))
          · exfalso
            subst z
            have e0 := slot_live R.tab.ris a3
            rw [sl] at e0
            injection e0 with e0
            rw [← e0, hp] at h0
            exact ek ((congrArg Prod.snd (Option.some.inj h0)).trans k0)
          · omega
      by_cases hl : t.led = true
      · refine wp_if_neg (by simp [hl]) ?_
        try refine wpAny_bind (wpAny_pure ?_)
        exact rest
      · refine wp_if_pos (by simp [hl]) ?_
        refine wpAny_bind (notSeen hx (fun y hy => ?_) ?_)
        · obtain ⟨e, he, ee⟩ := List.mem_map.mp hy
          have he1 : e ∈ es ∧ e.1 = hK P w k := by simpa using he
          have he2 : e ∈ es.toList := by simpa using he1.1
          rw [R.row] at he2
          obtain ⟨p2, hp2, e2⟩ := List.mem_map.mp he2
          exact ⟨p2.2, p2.1, by rw [← ee, ← e2], R.key p2 hp2⟩
        · refine wp_if_neg (by decide) ?_
          try refine wpAny_bind (wpAny_pure ?_)
          exact rest
    · have pr2 : t.probe (fun i => (es[i]?.map (·.1)).getD 0) (hK P w k) (stand.getD (t.probeStart (hK P w k))) = some (.empty (P0 t.mask (hK P w k) K).j none) := by
        rw [hst]
        rw [← hc]
        exact pr
      rw [pr2]
      dsimp only
      refine wpAny_pure (no fun hmem => ?_)
      obtain ⟨p0, h0, k0⟩ := List.mem_map.mp hmem
      obtain ⟨i0, hi0⟩ := List.getElem?_of_mem h0
      obtain ⟨c', a1, a2, a3⟩ := left i0 p0 hi0 k0
      obtain ⟨d, rfl⟩ : ∃ d, c' = c + d := ⟨c' - c, by omega⟩
      exact none_ d i0 (by omega) a3 ((hashOf i0 p0 hi0).trans (by rw [k0]))
theorem few_at (R : Few P w s.heap a L es ep t) {x : Addr} {k : List Key} (hx : IsK P w s.heap k x) (hu : A.units < cLine) {Q : SetFound → Shared → Prop} (yes : k ∈ L.map (·.2) → Q (.there none) s)
    (no : ∀ K, k ∉ L.map (·.2) → (P0 t.mask (hK P w k) K).j ∉ t.place.toList → (∀ c, c < K → (P0 t.mask (hK P w k) c).j ∈ t.place.toList) → Q (.free (P0 t.mask (hK P w k) K).j false) s) :
    wpAny (model P w) A (setSearch a (.ref x) (hK P w k) true) Q E s := by
  have hr := R.room
  have hl := R.lim
  obtain ⟨K, hKf, hK, hKb⟩ := R.tab.first (by rw [List.length_map]; omega) (hK P w k)
  have bef : ∀ {i j : Nat}, (L.map fun p => L2.hK P w p.2)[i]? = some (L2.hK P w k) → t.place.toList[i]? = some j → ∃ c, c < K ∧ way t.mask (L2.hK P w k) c = j := fun hi hj => R.tab.before hK hi hj
  have hbig : K < 100000 := by
    unfold SetTable.turns at hKf
    omega
  unfold setSearch
  refine few_search R hx hu hKf hK hKb yes (fun hn => no K hn hK hKb) K 0 100000 none (by omega) hbig ?_ fun i p hp hk => ?_
  · show t.probeStart _ = _
    rw [start_run]
    rfl
  · have hi : (L.map fun p => L2.hK P w p.2)[i]? = some (L2.hK P w k) := by rw [List.getElem?_map, hp, ← hk]; rfl
    have il : i < t.place.toList.length := by
      have h1 : i < L.length := (List.getElem?_eq_some_iff.mp hp).1
      have h2 := R.tab.sz
      rw [List.length_map] at h2
      rw [Array.length_toList]
      omega
    have hj := List.getElem?_eq_getElem il
    obtain ⟨c, hc, e⟩ := bef hi hj
    exact ⟨c, Nat.zero_le _, hc, by rw [hj, ← e]⟩
theorem isK_keep {h h' : Heap} {k : List Key} {b : Addr} (x : IsK P w h k b) (hk : ∀ c o, h.get? c = some o → (∀ es ep t, o.data ≠ .set es ep t) → h'.get? c = some o) : IsK P w h' k b := by
  obtain ⟨o, its, n, ho, hc, hd, hi⟩ := x
  exact ⟨o, its, n, hk b o ho (fun es ep t e => by rw [hd] at e; cases e), hc, hd, hi⟩
/-- the table laid anew, larger -/
theorem few_relay {o : Obj} (ho : s.heap.get? a = some o) (hex : o.ExactSet) (hd : o.data = .set es ep t) (hrow : es.toList = L.map fun p => (hK P w p.2, Value.ref p.1)) (T : TabG t (L.map fun p => hK P w p.2)) (hfl : L.length ≤ t.mask)
    (nd : (L.map (·.2)).Nodup) (key : ∀ p ∈ L, IsK P w s.heap p.2 p.1) (ld : w.params.followText "set-order" = true ∨ t.led = true) (few : L.length ≤ 90) {wanted M : Nat}
    (hw : SetTable.sizeAbove wanted = M + 1) (hM : MaskG M) (hM2 : M ≤ 511) (hn : L.length * 5 < M * 3) {Q : Unit → Shared → Prop}
    (hQ : ∀ h' L' es' ep' t', Heap.SameBut a s.heap h' → Few P w h' a L' es' ep' t' → L'.Perm L → Q () { s with heap := h' }) : wpAny (model P w) A (setRelay a wanted) Q E s := by
  have hsl : es.size = L.length := by rw [← Array.length_toList, hrow, List.length_map]
  have hfits : t.fits es.size = true := by
    have h1 := T.sz
    rw [List.length_map] at h1
    unfold SetTable.fits SetTable.fill
    rw [T.dm, Bool.and_eq_true, beq_iff_eq, decide_eq_true_eq]
    show t.place.size = es.size ∧ t.place.size + 0 ≤ t.mask
    omega
  obtain ⟨t', order, e, hp, T2, em, el⟩ := relaid_all t (hs := es.map (·.1)) (wanted := wanted) (M := M) (by rw [hw]; rfl) hM (by rw [Array.size_map, hsl]; omega)
  rw [Array.size_map, hsl] at hp
  obtain ⟨L2, r1, r2, r3⟩ := rows_order (fun p : Addr × List Key => (hK P w p.2, Value.ref p.1)) L es order hrow hp
  rw [← r3] at T2
  have hs2 : (order.filterMap (es[·]?)).size = es.size := by rw [← Array.length_toList, r1, List.length_map, r2.length_eq, hsl]
  rw [setRelay_eq]
  refine wpAny_bind (wpAny_setState_of ho hd hfits ?_)
  dsimp only
  refine wp_if_neg (by rw [sizeLine_eq]; omega) ?_
  try refine wpAny_bind (wpAny_pure ?_)
  rw [e]
  dsimp only
  refine wpAny_bind ?_
  refine wp_if_neg (by rw [hs2]; simp) ?_
  try refine wpAny_bind (wpAny_pure ?_)
  refine wpAny_pure ?_
  dsimp only
  refine wpAny_storeSet_of ho hd ?_ (by rw [hs2, hsl, sizeLine_eq]; omega)
  have sb : Heap.SameBut a s.heap (s.heap.update a (Obj.putSet (order.filterMap (es[·]?)) t')) := Heap.SameBut.update ..
  refine hQ _ L2 (order.filterMap (es[·]?)) (ep + 1) t' sb ⟨⟨_, store_at ho hd, ⟨hex.1, hex.2.1, hex.2.2⟩, rfl⟩, r1, T2, (r2.map (·.2)).nodup_iff.mpr nd, fun p hpm => ?_, ?_, by rw [el]; exact ld, by rw [r2.length_eq]; exact few⟩ r2
  · refine isK_keep (key p (r2.mem_iff.mp hpm)) fun c o2 e2 ne => ?_
    by_cases hc : c = a
    · subst hc
      rw [ho] at e2
      cases e2
      exact absurd hd (ne _ _ _)
    · rw [sb.2 c hc]; exact e2
  · rw [r2.length_eq, em]
    exact hn
theorem few_add (R : Few P w s.heap a L es ep t) {x : Addr} {k : List Key} (hx : IsK P w s.heap k x) (hu : A.units < cLine) (h4 : L.length + 1 ≤ 90) {Q : Bool → Shared → Prop}
    (hQ : ∀ b h' L' es' ep' t', Heap.SameBut a s.heap h' → Few P w h' a L' es' ep' t' → (k ∈ L.map (·.2) → L' = L) → (k ∉ L.map (·.2) → L'.Perm ((x, k) :: L)) → Q b { s with heap := h' }) :
    wpAny (model P w) A (setAddHashed a (.ref x) (hK P w k)) Q E s := by
  obtain ⟨o, ho, hex, hd⟩ := R.obj
  have hlen := R.len
  unfold setAddHashed
  refine wpAny_holding ?_
  rw [show (100000 : Nat) = 99999 + 1 from rfl, setAddHashedIn_succ]
  refine wpAny_bind (wpAny_setState_of ho hd R.fit ?_)
  dsimp only
  refine wp_if_neg (by simp [byScan, Value.scannable]) ?_
  try refine wpAny_bind (wpAny_pure ?_)
  refine wpAny_bind (few_at R hx hu (fun hmem => ?_) fun K hmem hKo hKb => ?_)
  · dsimp only
    exact wpAny_pure (hQ false s.heap L es ep t (Heap.SameBut.refl a s.heap) R (fun _ => rfl) fun z => absurd hmem z)
  · dsimp only
    refine wpAny_bind (wpAny_setState_of ho hd R.fit ?_)
    dsimp only
    have T := R.tab.put (h := hK P w k) (K := K) hKo hKb
    obtain ⟨q1, q2, q3, q4, q5, q9⟩ := T
    have hroom := R.room
    have ew : way t.mask (hK P w k) K = (P0 t.mask (hK P w k) K).j := rfl
    rw [ew] at q1 q2 q3 q4 q5 q9
    generalize t.put (P0 t.mask (hK P w k) K).j = pt at q1 q3 q4 q5 q9 ⊢
    obtain ⟨t1, n⟩ := pt
    dsimp only at q1 q3 q4 q5 q9 ⊢
    subst q1
    have rows1 : (SetTable.insertAt es (SetTable.below t.place (P0 t.mask (hK P w k) K).j) (hK P w k, Value.ref x)).toList = (L.take (SetTable.below t.place (P0 t.mask (hK P w k) K).j) ++ (x, k) :: L.drop (SetTable.below t.place (P0 t.mask (hK P w k) K).j)).map fun p => (hK P w p.2, Value.ref p.1) := by
      rw [SetTable.toList_insertAt, R.row, List.map_append, List.map_cons, List.map_take, List.map_drop]
    generalize SetTable.below t.place (P0 t.mask (hK P w k) K).j = n at q2 q3 rows1 ⊢
    have pm : (L.take n ++ (x, k) :: L.drop n).Perm ((x, k) :: L) := by
      have h1 := List.perm_middle (a := (x, k)) (l₁ := L.take n) (l₂ := L.drop n)
      rw [List.take_append_drop] at h1
      exact h1
    have ln := pm.length_eq
    have hs1 : (L.map fun p => hK P w p.2).take n ++ hK P w k :: (L.map fun p => hK P w p.2).drop n = (L.take n ++ (x, k) :: L.drop n).map fun p => hK P w p.2 := by
      rw [List.map_append, List.map_cons, List.map_take, List.map_drop]
    rw [hs1] at q3
    have nd1 : ((L.take n ++ (x, k) :: L.drop n).map (·.2)).Nodup := (pm.map (·.2)).nodup_iff.mpr (by rw [List.map_cons]; exact List.nodup_cons.mpr ⟨hmem, R.nod⟩)
    generalize L.take n ++ (x, k) :: L.drop n = L1 at pm ln q3 nd1 rows1
    generalize SetTable.insertAt es n (hK P w k, Value.ref x) = es1 at rows1 ⊢
    rw [List.length_cons] at ln
    have sz1 : es1.size = L.length + 1 := by rw [← Array.length_toList, rows1, List.length_map, ln]
    have store : ∀ t2 : SetTable, t2.place = t1.place → t2.dummies = t1.dummies → t2.mask = t1.mask → t2.led = t1.led → wpAny (model P w) A (do
        storeSet a es1 t2
        if (!false && t2.tooFull) = true then setRelay a (SetTable.grown (es.size + 1))
        pure true) Q E s := by
      intro t2 e1 e2 e3 e4
      refine wpAny_bind (wpAny_storeSet_of ho hd ?_ (by rw [sz1, sizeLine_eq]; omega))
      have sb : Heap.SameBut a s.heap (s.heap.update a (Obj.putSet es1 t2)) := Heap.SameBut.update ..
      have ho1 := store_at (es' := es1) (t' := t2) ho hd
      generalize s.heap.update a (Obj.putSet es1 t2) = h1 at sb ho1 ⊢
      have keep : ∀ {j : List Key} {b : Addr}, IsK P w s.heap j b → IsK P w h1 j b := fun hj => isK_keep hj fun c o2 e ne => by
        by_cases hc : c = a
        · subst hc
          rw [ho] at e
          cases e
          exact absurd hd (ne _ _ _)
        · rw [sb.2 c hc]; exact e
      have tab2 : TabG t2 (L1.map fun p => hK P w p.2) := ⟨by rw [e1]; exact q3.ris, by rw [e2]; exact q3.dm, by rw [e1]; exact q3.sz, by rw [e3]; exact q3.mok, by rw [e1, e3]; exact q3.bd, by rw [e1, e3]; exact q3.reach⟩
      have key1 : ∀ p ∈ L1, IsK P w h1 p.2 p.1 := fun p hp => by
        rcases List.mem_cons.mp (pm.mem_iff.mp hp) with e | hp
        · rw [e]; exact keep hx
        · exact keep (R.key p hp)
      have led1 : w.params.followText "set-order" = true ∨ t2.led = true := by rw [e4, q5]; exact R.led
      have fill2 : t2.fill = L.length + 1 := by
        unfold SetTable.fill at q9 ⊢
        rw [e1, e2, q9, List.length_map]
      have m2 : t2.mask = t.mask := by rw [e3, q4]
      by_cases hf : t2.tooFull = true
      · have hfull : (L.length + 1) * 5 ≥ t.mask * 3 := by
          have h := hf
          unfold SetTable.tooFull at h
          rw [decide_eq_true_eq, fill2, m2] at h
          exact h
        have c3 : (t.mask = 7 ∧ L.length = 4) ∨ (t.mask = 31 ∧ L.length = 18) ∨ (t.mask = 127 ∧ L.length = 76) := by
          rcases R.tab.mok with e | e | e | e <;> omega
        first
          | (refine wpAny_bind ?_; refine wp_if_pos (by simp [hf]) ?_)
          | (refine wp_if_pos (by simp [hf]) ?_; refine wpAny_bind ?_)
        rw [hlen]
        have go : ∀ M, SetTable.sizeAbove (SetTable.grown (L.length + 1)) = M + 1 → MaskG M → M ≤ 511 → (L.length + 1) * 5 < M * 3 →
            wpAny (model P w) A (setRelay a (SetTable.grown (L.length + 1))) (fun _ s' => wpAny (model P w) A (pure true) Q E s') E { s with heap := h1 } := fun M g1 g2 g3 g4 => by
          refine few_relay (s := { s with heap := h1 }) ho1 ⟨hex.1, hex.2.1, hex.2.2⟩ rfl rows1 tab2 (by rw [ln, m2]; omega) nd1 key1 led1 (by rw [ln]; exact h4) g1 g2 g3 (by rw [ln]; exact g4) fun h2 L2 es2 ep2 t2 sb2 R2 pm2 => ?_
          exact wpAny_pure (hQ true h2 L2 es2 ep2 t2 (sb.trans sb2) R2 (fun z => absurd z hmem) fun _ => pm2.trans pm)
        rcases c3 with ⟨_, e⟩ | ⟨_, e⟩ | ⟨_, e⟩
        · exact go 31 (by rw [e]; exact grow5) (.inr (.inl rfl)) (by omega) (by omega)
        · exact go 127 (by rw [e]; exact grow19) (.inr (.inr (.inl rfl))) (by omega) (by omega)
        · exact go 511 (by rw [e]; exact grow77) (.inr (.inr (.inr rfl))) (by omega) (by omega)
      · first
          | refine wp_if_neg (by simp [hf]) ?_
          | (refine wpAny_bind ?_; refine wp_if_neg (by simp [hf]) ?_; refine wpAny_pure ?_)
        refine wpAny_pure (hQ true h1 L1 es1 (ep + 1) t2 sb ⟨⟨_, ho1, ⟨hex.1, hex.2.1, hex.2.2⟩, rfl⟩, rows1, tab2, nd1, key1, ?_, led1, by rw [ln]; exact h4⟩ (fun z => absurd z hmem) fun _ => pm)
        have h := hf
        unfold SetTable.tooFull at h
        rw [decide_eq_true_eq, fill2, m2] at h
        rw [ln, m2]
        omega
    by_cases hpl : t1.plain = true
    · first
        | (refine wpAny_bind ?_; refine wp_if_pos hpl ?_; refine byVal hx fun y => ?_)
        | refine wp_if_pos hpl (wpAny_bind (byVal hx fun y => ?_))
      cases y with
      | true =>
        simp only [if_true]
        exact store t1 rfl rfl rfl rfl
      | false =>
        simp only [Bool.false_eq_true, if_false]
        exact store { t1 with plain := false } rfl rfl rfl rfl
    · first
        | (refine wpAny_bind ?_; refine wp_if_neg hpl ?_; refine wpAny_pure ?_)
        | refine wp_if_neg hpl (wpAny_bind (wpAny_pure ?_))
      simp only [if_true]
      exact store t1 rfl rfl rfl rfl
theorem Few.move {h h' : Heap} (R : Few P w h a L es ep t) (ha : ∀ o, h.get? a = some o → h'.get? a = some o) (hk : ∀ p ∈ L, IsK P w h' p.2 p.1) : Few P w h' a L es ep t := by
  obtain ⟨⟨o, ho, r⟩, r1, r2, r3, _, r5, r6, r7⟩ := R
  exact ⟨⟨o, ha o ho, r⟩, r1, r2, r3, hk, r5, r6, r7⟩
theorem isK_sub {h h' : Heap} {k : List Key} {b : Addr} (x : IsK P w h k b) (hk : ∀ c o, h.get? c = some o → h'.get? c = some o) : IsK P w h' k b := isK_keep x fun c o e _ => hk c o e
theorem few_fresh {h : Heap} (ho : h.get? a = some { cls := .type "set", dict := none, data := .set #[] 0 (.fresh 0 0 (!w.params.followText "set-order")) }) : Few P w h a [] #[] 0 (.fresh 0 0 (!w.params.followText "set-order")) :=
  ⟨⟨_, ho, ⟨rfl, rfl, rfl⟩, rfl⟩, rfl, ⟨List.Pairwise.nil, rfl, rfl, .inl rfl, fun x hx => (by cases hx), fun i h j hi => (by simp at hi)⟩, List.nodup_nil, fun p hp => (by cases hp), (show 0 * 5 < 7 * 3 by decide), by
    show _ ∨ (!w.params.followText "set-order") = true
    cases w.params.followText "set-order"
    · exact .inr rfl
    · exact .inl rfl, by decide⟩
/-- what the first i of some tuples leave in the set -/
structure Sofar (ks : List (Addr × List Key)) (i : Nat) (L : List (Addr × List Key)) : Prop where
  sub : ∀ p ∈ L, p ∈ ks
  has : ∀ p ∈ ks.take i, p.2 ∈ L.map (·.2)
  len : L.length ≤ i
theorem Sofar.next {ks L L' : List (Addr × List Key)} {i : Nat} {p : Addr × List Key} (h : Sofar ks i L) (hp : ks[i]? = some p) (same : p.2 ∈ L.map (·.2) → L' = L) (more : p.2 ∉ L.map (·.2) → L'.Perm (p :: L)) : Sofar ks (i + 1) L' := by
  have hm := List.mem_of_getElem? hp
  by_cases c : p.2 ∈ L.map (·.2)
  · rw [same c]
    refine ⟨h.sub, fun q hq => ?_, Nat.le_succ_of_le h.len⟩
    rw [List.take_succ, hp] at hq
    rcases List.mem_append.mp hq with z | z
    · exact h.has q z
    · rw [show q = p from by simpa using z]; exact c
  · have pm := more c
    refine ⟨fun q hq => ?_, fun q hq => ?_, by rw [pm.length_eq, List.length_cons]; exact Nat.succ_le_succ h.len⟩
    · rcases List.mem_cons.mp (pm.mem_iff.mp hq) with e | z
      · rw [e]; exact hm
      · exact h.sub q z
    · refine (pm.map (·.2)).mem_iff.mpr ?_
      rw [List.map_cons, List.mem_cons]
      rw [List.take_succ, hp] at hq
      rcases List.mem_append.mp hq with z | z
      · exact .inr (h.has q z)
      · exact .inl (by rw [show q = p from by simpa using z])
theorem few_update {I : Addr} {fp wr : List Addr} {G : Array GenState → Array GenState → Prop} {n : Nat} {Pv : Nat → Value → Prop} {St : Nat → Shared → Prop} {R : Result → Shared → Prop}
    (W : WalksS P w A.in1 I fp wr G n Pv St) (S : Addr) (hSf : S ∉ fp) (ks : List (Addr × List Key)) (hn : n = ks.length) (h4 : ks.length ≤ 90) (hval : ∀ i v, Pv i v → ∃ p, ks[i]? = some p ∧ v = .ref p.1)
    (h0 : Heap) (hk0 : ∀ p ∈ ks, IsK P w h0 p.2 p.1) (hS0 : h0.get? S = none) (hw0 : ∀ b ∈ wr, h0.get? b = none) (hu : A.in1.units < cLine) :
    ∀ (k i : Nat) (s : Shared), n - i = k → i ≤ n → St i s → (∀ b o, h0.get? b = some o → s.heap.get? b = some o) → (∃ L es ep t, Few P w s.heap S L es ep t ∧ Sofar ks i L) →
      (∀ s' L es ep t, Moved (S :: wr) G s s' → Few P w s'.heap S L es ep t → Sofar ks n L → (∀ b o, h0.get? b = some o → s'.heap.get? b = some o) → R (.ok (.ret .none)) s') →
      codeAny (model P w) A (.builtin "set.update.loop" ⟨[.ref S, .ref I], []⟩) R s := by
  have hSw : S ∉ wr := fun h => hSf (W.sub _ h)
  have hsub : ∀ b ∈ wr, b ∈ S :: wr := fun b hb => List.mem_cons_of_mem _ hb
  have outW : ∀ {b : Addr} {o : Obj}, h0.get? b = some o → b ∉ wr := fun e hb => by rw [hw0 _ hb] at e; cases e
  have outS : ∀ {b : Addr} {o : Obj}, h0.get? b = some o → b ≠ S := fun e hb => by rw [hb, hS0] at e; cases e
  intro k
  induction k with
  | zero =>
    intro i s hk' hi hst sub ⟨L, es, ep, t, F4, got⟩ hR
    obtain rfl : i = n := by omega
    refine codeAny_builtin F.entry_set_update_loop ?_
    rw [Around.under_plainId F.plain_set_update_loop _]
    show wpAny _ A.in1 (pyNext (.ref I) >>= _) _ _ s
    refine wpAny_bind (W.done s _ _ hst fun s' hm => ?_)
    show wpAny _ A.in1 (ret Value.none) _ _ s'
    have sub' : ∀ b o, h0.get? b = some o → s'.heap.get? b = some o := fun b o e => hm.heap b o (outW e) (sub b o e)
    exact wpAny_pure (hR s' L es ep t (hm.mono hsub) (F4.move (fun o e => hm.heap S o hSw e) fun p hp => isK_sub (hk0 p (got.sub p hp)) sub') got sub')
  | succ k ih =>
    intro i s hk' hi hst sub ⟨L, es, ep, t, F4, got⟩ hR
    have hlt : i < n := by omega
    refine codeAny_builtin F.entry_set_update_loop ?_
    rw [Around.under_plainId F.plain_set_update_loop _]
    show wpAny _ A.in1 (pyNext (.ref I) >>= _) _ _ s
    refine wpAny_bind (W.item i s _ _ hlt hst fun v s' hP hst' hm => ?_)
    obtain ⟨p, hp, rfl⟩ := hval i v hP
    have sub' : ∀ b o, h0.get? b = some o → s'.heap.get? b = some o := fun b o e => hm.heap b o (outW e) (sub b o e)
    have F4' : Few P w s'.heap S L es ep t := F4.move (fun o e => hm.heap S o hSw e) fun p hp => isK_sub (hk0 p (got.sub p hp)) sub'
    have hx : IsK P w s'.heap p.2 p.1 := isK_sub (hk0 p (List.mem_of_getElem? hp)) sub'
    have hl := got.len
    show wpAny _ A.in1 (holding [Value.ref p.1] (PySem.setAdd S (.ref p.1)) >>= _) _ _ s'
    refine wpAny_bind (wpAny_holding ?_)
    unfold PySem.setAdd
    refine wpAny_holding ?_
    refine wpAny_bind (wpAny_pyHash_tuple hu hx ?_)
    refine few_add (s := { s' with toks := s'.toks + (p.2.length + 1) }) F4' hx hu (by omega) fun b h' L' es' ep' t' hsb F5 same more => ?_
    have sub2 : ∀ b o, h0.get? b = some o → h'.get? b = some o := fun b o e => by
      rw [hsb.2 b (outS e)]
      exact sub' b o e
    refine wpAny_pure ⟨plainId_quiet F.plain_set_update_loop _, ih (i + 1) _ (by omega) hlt (W.frame _ s' _ _ hst' (by show s'.toks ≤ s'.toks + _; omega) fun b hb o e => ?_) sub2 ⟨L', es', ep', t', F5, got.next hp same more⟩ fun s'' L2 es2 ep2 t2 hm'' F6 g6 sub3 => ?_⟩
    · show h'.get? b = some o
      rw [hsb.2 b (fun h : b = S => hSf (by rw [← h]; exact hb))]; exact e
    · refine hR s'' L2 es2 ep2 t2 (Moved.trans W.gtrans ((hm.mono hsub).then_heap (by show s'.toks ≤ s'.toks + _; omega) fun b o hb e => ?_) hm'') F6 g6 sub3
      show h'.get? b = some o
      rw [hsb.2 b (fun h : b = S => hb (by rw [h]; exact List.mem_cons_self))]; exact e
/-- set(l), l a list of at most four such tuples -/
theorem call_setK {l : Addr} {items : Array Value} (ks : List (Addr × List Key)) {Q : Value → Shared → Prop} (hh : A.handled = none) (hu : A.units + 64 < cLine) (hl : s.heap.IsList l items) (hit : ∀ (i : Nat) (v : Value), items[i]? = some v → ∃ p, ks[i]? = some p ∧ v = .ref p.1) (hisz : items.size = ks.length) (h4 : ks.length ≤ 90) (hk : ∀ p ∈ ks, IsK P w s.heap p.2 p.1)
    (h : ∀ (h' : Heap) (tk : Nat) L es ep t, Few P w h' s.heap.objs.size L es ep t → Sofar ks ks.length L → (∀ b o, s.heap.get? b = some o → h'.get? b = some o) → Q (.ref s.heap.objs.size) { s with heap := h', toks := tk }) :
    wpAny (model P w) A (call (.type "set") [.ref l]) Q E s := by
  obtain ⟨c, tl, hmro⟩ := F.called_set.mro
  have hmade := F.called_set.made
  have hsub := F.called_set.sub
  refine wpAny_call (codeAny_of_tree ?_)
  show wpAny _ _ (callAny (.type "set") _) _ _ _
  refine wpAny_pure ⟨Code.quiet_builtin _ (by decide +kernel), codeAny_builtin F.entry_type_call ?_⟩
  rw [Around.under_plain (weight_type_call_type "set" [.ref l] []) rfl]
  have h1 := F.called_set.notType
  have h2 := F.called_set.canCreate
  have hct := F.typeCall_set_1 (.ref l)
  repeat (any_goals (first | assumption | wp_step))
  refine codeAny_mono (code_set_led1 (.ref l) (E := E) (Q₁ := fun obj s₁ => obj = .ref s.heap.objs.size ∧ s₁ = { s with heap := s.heap.push { cls := .type "set", dict := none, data := .set #[] 0 (.fresh 0 0 (!w.params.followText "set-order")) } }) ⟨rfl, rfl⟩) fun r s₁ hr => ?_
  cases r with
  | error e => exact hr
  | ok fl =>
    cases fl with
    | ret obj =>
      obtain ⟨rfl, rfl⟩ := hr
      have hS : (s.heap.push { cls := .type "set", dict := none, data := .set #[] 0 (.fresh 0 0 (!w.params.followText "set-order")) }).get? s.heap.objs.size = some { cls := .type "set", dict := none, data := .set #[] 0 (.fresh 0 0 (!w.params.followText "set-order")) } := Heap.get?_push_size _ rfl
      have hT : Shared.TypeIs { s with heap := s.heap.push { cls := .type "set", dict := none, data := .set #[] 0 (.fresh 0 0 (!w.params.followText "set-order")) } } (.ref s.heap.objs.size) "set" := ⟨_, hS, rfl⟩
      have hli := F.called_set.init.lookup
      have hbi := F.called_set.init.bind (.ref s.heap.objs.size)
      repeat (any_goals (first | assumption | wp_step))
      refine codeAny_mono (codeAny_call_builtin (R := wants (fun r s₂ => r = .none ∧ ∃ h' tk L es ep t, s₂ = { s with heap := h', toks := tk } ∧ Few P w h' s.heap.objs.size L es ep t ∧ Sofar ks ks.length L ∧
          (∀ b o, s.heap.get? b = some o → h'.get? b = some o)) E) F.called_set.init.plain F.entry_set_init (check_set_init_1 hT ?_)) fun r₂ s₂ hr₂ => ?_
      · obtain ⟨ol, hol, hcl, nl, hdl⟩ := hl
        obtain ⟨ocls, odict, odata, oslots⟩ := ol
        simp only at hcl hdl
        subst hcl; subst hdl
        have hol' : (s.heap.push { cls := .type "set", dict := none, data := .set #[] 0 (.fresh 0 0 (!w.params.followText "set-order")) }).get? l = some { cls := .type "list", dict := odict, data := .seq items nl, slots := oslots } := Heap.get?_push_of_some _ hol
        have hsls := F.sub_list_set
        have hslf := F.sub_list_frozenset
        have hne : (Value.type "list" == Value.type "dict") = false := by decide
        have hl1 : (s.heap.push { cls := .type "set", dict := none, data := .set #[] 0 (.fresh 0 0 (!w.params.followText "set-order")) }).IsList l items := ⟨_, hol', rfl, nl, rfl⟩
        unfold Builtin.«set.__init__» noKeywords Builtin.Frozenset.updateFrom
        generalize hPI : pyIter = PI
        wp_walk
        subst hPI
        refine wpAny_pyIter_list hl1 ?_
        refine wpAny_bind (wpAny_runValue ?_)
        have hlS : l < s.heap.objs.size := Heap.lt_size hol
        have hh3 : A.in1.in1.in1.handled = none := by simp [hh]
        have hneI : l ≠ (s.heap.push { cls := .type "set", dict := none, data := .set #[] 0 (.fresh 0 0 (!w.params.followText "set-order")) }).objs.size := by
          rw [Heap.size_push]; exact Nat.ne_of_lt (Nat.lt_succ_of_lt hlS)
        have hSf : s.heap.objs.size ∉ [(s.heap.push { cls := .type "set", dict := none, data := .set #[] 0 (.fresh 0 0 (!w.params.followText "set-order")) }).objs.size, l] := by
          rw [Heap.size_push]; simp only [List.mem_cons, List.mem_singleton, List.not_mem_nil, or_false, not_or]
          exact ⟨Nat.ne_of_lt (Nat.lt_succ_self _), Nat.ne_of_gt hlS⟩
        have none_of : ∀ b, s.heap.objs.size ≤ b → s.heap.get? b = none := fun b hb => by
          cases q : s.heap.get? b with
          | none => rfl
          | some o => exact absurd (Nat.lt_of_lt_of_le (Heap.lt_size q) hb) (Nat.lt_irrefl _)
        refine few_update ((Walks.list hh3 _ l hneI items).toS) s.heap.objs.size
          hSf ks hisz h4 hit s.heap hk (none_of _ (Nat.le_refl _)) (fun b hb => none_of b (by
            rw [List.mem_singleton.mp hb, Heap.size_push]
            exact Nat.le_succ _)) (by first | omega | (simp; omega) | exact Nat.lt_of_le_of_lt (by simp) hu) (items.size - 0) 0 _ (by omega) (Nat.zero_le _)
          ⟨⟨_, Heap.get?_push_size _ rfl, rfl, rfl⟩, (hl1.push _)⟩ (fun b o e => Heap.get?_push_of_some _ (Heap.get?_push_of_some _ e)) ?hS0 ?hR
        case hS0 => exact ⟨[], #[], 0, _, few_fresh (Heap.get?_push_of_some _ hS), ⟨(fun p hp => by cases hp), (fun p hp => by simp at hp), Nat.le_refl _⟩⟩
        case hR =>
          intro s' L' es' ep' t' hm hF hG sub'
          obtain ⟨h', g2, d', tk', os'⟩ := s'
          have eg : g2 = s.gens := hm.gens
          have ed : d' = s.drawn := hm.drawn
          have eo : os' = s.os := hm.os
          subst eg; subst ed; subst eo
          show wpAny _ _ _ _ _ _
          refine wpAny_pure ?_
          show wpAny _ _ (ret Value.none) _ _ _
          rw [hisz] at hG
          refine wpAny_pure ⟨rfl, h', tk', L', es', ep', t', rfl, hF, hG, fun b o e => ?_⟩
          exact sub' b o e
      · cases r₂ with
        | error e => exact hr₂
        | ok fl₂ =>
          cases fl₂ with
          | ret r =>
            obtain ⟨rfl, h', tk, L', es', ep', t', rfl, hF, hG, hk'⟩ := hr₂
            repeat (any_goals (first | assumption | wp_step))
            exact h _ _ _ _ _ _ hF hG hk'
          | _ => exact hr₂.elim
    | _ => exact hr.elim
end
end L2

/-! ### sorted(set(l)) of at most 90 tuples -/
namespace L2
open PySem PySem.Spec PyProof.Rows
def keyP : Key → PyData
  | .inl i => .int i
  | .inr x => .str x
def encK (p : Addr × List Key) : PyData := .tuple (p.2.map keyP)
section
variable {P : Program} {w : World} {A : Around} {E : Value → Shared → Prop} {s : Shared}
theorem reads_keys {h : Heap} {k : List Key} {vs : List Value} (x : ItemsAre (mixKind P w) k vs) : ReadsAll h vs (k.map keyP) [] := by
  induction x with
  | nil => exact .nil
  | cons h1 _ ih =>
    rcases keyIs_shape h1 with ⟨i, t, e1, e2⟩ | ⟨x, t, e1, e2⟩
    · rw [e1, e2]; exact .cons (as := []) (.int i t) ih
    · rw [e1, e2]; exact .cons (as := []) (.str x t) ih
theorem reads_key {h : Heap} {k : List Key} {b : Addr} (x : IsK P w h k b) : Reads h (.ref b) (.tuple (k.map keyP)) [] := by
  obtain ⟨o, its, n, ho, hc, hd, hi⟩ := x
  exact .tuple ho hc hd (reads_keys hi)
theorem each_self {ks : List (Addr × List Key)} {R : Value → (Addr × List Key) → Prop} (h : ∀ p ∈ ks, R (.ref p.1) p) : PySem.W.EachIs R (ks.map fun p => Value.ref p.1) ks := by
  induction ks with
  | nil => exact .nil
  | cons p r ih => exact .cons (h p List.mem_cons_self) (ih fun q hq => h q (List.mem_cons_of_mem _ hq))
theorem each_refs : ∀ {us : List Value} {ks : List (Addr × List Key)}, PySem.W.EachIs (fun v (p : Addr × List Key) => v = Value.ref p.1) us ks → us = ks.map fun p => Value.ref p.1
  | _, _, .nil => rfl
  | _, _, .cons h t => by rw [h, each_refs t]; rfl
variable {a : Addr} {L : List (Addr × List Key)} {es : Array (Int × Value)} {ep : Nat} {t : SetTable}
theorem perm_map_inv {α β : Type} {f : α → β} {us vs : List β} (h : us.Perm vs) : ∀ L : List α, vs = L.map f → ∃ bs : List α, bs.Perm L ∧ us = bs.map f := by
  induction h with
  | nil =>
    intro L e
    cases L with
    | nil => exact ⟨[], .nil, rfl⟩
    | cons _ _ => cases e
  | cons x _ ih =>
    intro L e
    cases L with
    | nil => cases e
    | cons y L =>
      obtain ⟨e1, e2⟩ := List.cons.inj e
      obtain ⟨bs, p, e3⟩ := ih L e2
      exact ⟨y :: bs, p.cons y, by rw [e1, e3]; rfl⟩
  | swap x y l =>
    intro L e
    match L, e with
    | a :: b :: L, e =>
      obtain ⟨e1, e2⟩ := List.cons.inj e
      obtain ⟨e3, e4⟩ := List.cons.inj e2
      exact ⟨b :: a :: L, List.Perm.swap _ _ _, by rw [e1, e3, e4]; rfl⟩
    | [a], e => cases e
    | [], e => cases e
  | trans _ _ ih1 ih2 =>
    intro L e
    obtain ⟨bs, p, e1⟩ := ih2 L e
    obtain ⟨cs, q, e2⟩ := ih1 bs e1
    exact ⟨cs, q.trans p, e2⟩
theorem perm_refs {us : List Value} {L : List (Addr × List Key)} (h : us.Perm (L.map fun p => Value.ref p.1)) : ∃ bs : List (Addr × List Key), bs.Perm L ∧ us = bs.map fun p => Value.ref p.1 := perm_map_inv h L rfl
theorem depth_keys : ∀ k : List Key, PyData.depthAll (k.map keyP) ≤ 1
  | [] => by decide
  | x :: r => by
    have h := depth_keys r
    cases x <;> simp only [List.map_cons, keyP, PyData.depthAll, PyData.depth] <;> omega
theorem depth_enc (p : Addr × List Key) : (encK p).depth ≤ 2 := by
  have h := depth_keys p.2
  unfold encK
  simp only [PyData.depth]
  omega
theorem sorted_setK {Q : Value → Shared → Prop} (R : Few P w s.heap a L es ep t) (hh : A.handled = none) (hu : A.units + 64 < cLine) (hal : PySem.W.AllAlike (L.map encK)) (hne : ∀ p ∈ L, p.2 ≠ [])
    (hQ : ∀ s' p (out : Array Value) (c : Nat) (bs : List (Addr × List Key)), (∀ b o, s.heap.get? b = some o → s'.heap.get? b = some o) → s'.gens = s.gens → s'.os = s.os → s.heap.objs.size ≤ p →
      s'.heap.get? p = some (seqObj "list" out c) → bs.Perm L → out.toList = (bs.mergeSort (PySem.W.dataLe false encK)).map (fun q => Value.ref q.1) → Q (.ref p) s') :
    wpAny (model P w) A (call (.builtin "sorted") [.ref a]) Q E s := by
  obtain ⟨o, ho, hex, hd⟩ := R.obj
  have hsz := R.len
  have h4 := R.few
  refine Calls.call_function_entry kind_sorted plain_sorted entry_sorted (args_sorted1 _) ?_
  unfold Builtin.«sorted»
  refine wpAny_bind (m := checkCount "sorted" 1 1 _) (wpAny_pure ?_)
  refine wpAny_bind (collect_set (A := A.in1) hh ⟨o, ho, hex.1, hd⟩ R.fit (by unfold scanBound; omega) R.tab.ris R.led fun s1 vs k1 hz g1 o1 pm => ?_)
  have pm2 : vs.Perm (L.map fun p => Value.ref p.1) := by
    refine pm.trans (List.Perm.of_eq ?_)
    rw [R.row, List.map_map]
    rfl
  obtain ⟨bs, pb, rfl⟩ := perm_refs pm2
  have bl : bs.length ≤ 90 := by rw [pb.length_eq]; exact h4
  refine wpAny_bind (wpAny_newList ?_ (by rw [List.length_map, sizeLine_eq]; omega))
  have hoL : (s1.heap.push (seqObj "list" (bs.map fun p => Value.ref p.1).toArray 0)).get? s1.heap.objs.size = some (seqObj "list" (bs.map fun p => Value.ref p.1).toArray 0) := Heap.get?_push_size _ rfl
  have rd : ∀ p ∈ bs, Reads (s1.heap.push (seqObj "list" (bs.map fun p => Value.ref p.1).toArray 0)) (.ref p.1) (encK p) [] := fun p hp => reads_key (isK_sub (R.key p (pb.mem_iff.mp hp)) fun c o e => Heap.get?_push_of_some _ (k1 c o e))
  refine wpAny_bind (wpAny_holding (PySem.W.list_sort_data (R := fun v (p : Addr × List Key) => v = Value.ref p.1) (enc := encK) (bs := bs) hoL (each_self fun p _ => rfl) (each_self fun p hp => ⟨[], rd p hp, by simp⟩) ?_ ?_ (by rw [sizeLine_eq]; omega) ?_ fun out ol eo => ?_))
  · exact fun d hd d' hd' => hal d ((pb.map encK).mem_iff.mp hd) d' ((pb.map encK).mem_iff.mp hd')
  · refine .inl fun d hd => ?_
    obtain ⟨p, hp, rfl⟩ := List.mem_map.mp hd
    have hn := hne p (pb.mem_iff.mp hp)
    obtain ⟨n, k⟩ := p
    cases k with
    | nil => exact absurd rfl hn
    | cons x r => exact ⟨_, _, rfl⟩
  · intro p hp
    have := depth_enc p
    simp
    omega
  · obtain ⟨c, hc⟩ := sortedHeap_at (vs := bs.map fun p => Value.ref p.1) (out := out.toArray) hoL
    refine wpAny_pure ⟨_, rfl, hQ _ s1.heap.objs.size out.toArray c bs (fun b u e => ?_) g1 o1 hz hc pb (each_refs eo)⟩
    have q := k1 b u e
    have hlt := Heap.lt_size q
    show (sortedHeap (s1.heap.push (seqObj "list" (bs.map fun p => Value.ref p.1).toArray 0)) s1.heap.objs.size (bs.map fun p => Value.ref p.1) _).get? b = some u
    rw [sortedHeap_old (Nat.ne_of_lt hlt) (by rw [size_push']; exact Nat.lt_succ_of_lt hlt)]
    exact Heap.get?_push_of_some _ q
end
/-- sorted(set(l)) of at most 90 tuples -/
def tSortSetK (K : PySem.W.Frag) (ta : TE) : TE := fun σ H Q => ta σ H fun x H1 => ∃ (l : Addr) (ks : List (Addr × List Key)), x = .ref l ∧ SqL K H1 l (ks.map fun p => V.ref p.1) ∧ (∀ p ∈ ks, SqT K H1 p.1 (p.2.map kV)) ∧ ks.length ≤ 90 ∧ PySem.W.AllAlike (ks.map encK) ∧ (∀ p ∈ ks, p.2 ≠ []) ∧
  ∀ (bs : List (Addr × List Key)) (p : Addr), (∀ q ∈ bs, q ∈ ks) → (∀ q ∈ ks, q.2 ∈ bs.map (·.2)) → (bs.map (·.2)).Nodup → H1 p = none → Q (.ref p) (upd H1 p (.lst ((bs.mergeSort (PySem.W.dataLe false encK)).map fun q => V.ref q.1)))
theorem keys_items {P : Program} {w : World} : ∀ {k : List Key} {us : List Value}, Vals (k.map kV) us → ItemsAre (mixKind P w) k us
  | [], _, .nil => .nil
  | _ :: _, _, .cons r t => .cons (kV_is r) (keys_items t)
theorem refs_keys : ∀ {ks : List (Addr × List Key)} {us : List Value}, Vals (ks.map fun p => V.ref p.1) us → us = ks.map fun p => Value.ref p.1
  | [], _, .nil => rfl
  | p :: ks, _, .cons r t => by
    cases r
    rw [refs_keys t]
    rfl
theorem keys_refs : ∀ (ks : List (Addr × List Key)), Vals (ks.map fun p => V.ref p.1) (ks.map fun p => Value.ref p.1)
  | [] => .nil
  | p :: ks => .cons rfl (keys_refs ks)
theorem isK_inv {X : Cx} {pins : List (Addr × Obj)} {σ : St} {H : Hp} {s : Shared} {b : Addr} {k : List Key} (I : Inv X pins σ H s) (h : SqT X.K H b (k.map kV)) : IsK X.prog X.w s.heap k b := by
  obtain ⟨its, r, ⟨o, ho, hc, n, hd⟩, _⟩ := I.tuple h
  exact ⟨o, its.toArray, n, ho, hc, hd, keys_items r⟩
theorem pe_sortSetK {X : Cx} {a : Expr} {ta : TE} {p p2 q pos : Pos} (hu : X.A.units + 64 < cLine) (hg : Gl X "sorted") (hm : X.mg "sorted" = none) (hg2 : Gl X "set") (hm2 : X.mg "set" = none) (ha : PE X a ta) (hc : X.calm = true := by rfl)
    (na : starEach [a] X.env = (false, eval a X.env) :: starEach [] X.env := by rfl) : PE X (.Call (.Name "sorted" p) [.Call (.Name "set" p2) [a] [] q] [] pos) (tSortSetK X.K ta) := by
  refine ⟨fun pins s σ H Q I h => ?_⟩
  refine Call_ (ld_blt I hg hm (show bootBuiltins "sorted" = some (.builtin "sorted") by decide +kernel) ?_)
  refine PyProof.Rows.callWith_builtin1 (PyProof.Rows.args_cons ?_ rfl) rfl rfl
  refine Call_ (ld_blt I hg2 hm2 PyProof.Rows.boot_set ?_)
  refine PyProof.Rows.callWith_type1 (PyProof.Rows.args_cons (thn (ha.run pins s σ H _ I h) fun v s1 ⟨x, H1, I1, r1, q1⟩ => PyProof.Rows.args_nil ?_) na) na rfl
  obtain ⟨l, ks, rfl, hq, hks, h4, hal, hne, q1⟩ := q1
  cases r1
  obtain ⟨its, r, pl, hz⟩ := I1.list hq
  have eits := refs_keys r
  subst eits
  have hlen : (ks.map fun p => Value.ref p.1).toArray.size = ks.length := by rw [List.size_toArray, List.length_map]
  refine call_setK ks (I1.ok.hd hc) hu (show s1.heap.IsList l (ks.map fun p => Value.ref p.1).toArray from pl.isList) (fun i v e => ?_) hlen h4 (fun p hp => isK_inv I1 (hks p hp)) fun h' tk L es ep t F got k => ?_
  · have e : (ks.map fun p => Value.ref p.1)[i]? = some v := by simpa using e
    rw [List.getElem?_map] at e
    obtain ⟨p, hp, e⟩ := Option.map_eq_some_iff.mp e
    exact ⟨p, hp, e.symm⟩
  refine PyProof.Rows.args_nil ?_
  have halL : PySem.W.AllAlike (L.map encK) := fun d hd d' hd' => by
    obtain ⟨p, hp, rfl⟩ := List.mem_map.mp hd
    obtain ⟨p', hp', rfl⟩ := List.mem_map.mp hd'
    exact hal _ (List.mem_map.mpr ⟨p, got.sub p hp, rfl⟩) _ (List.mem_map.mpr ⟨p', got.sub p' hp', rfl⟩)
  refine sorted_setK (s := { s1 with heap := h', toks := tk }) F (I1.ok.hd hc) hu halL (fun p hp => hne p (got.sub p hp)) fun s' p0 out c' bs k2 g o hp hi pb eo => ?_
  have hp1 : s1.heap.objs.size ≤ p0 := Nat.le_trans (Nat.le_of_lt (by
    obtain ⟨o, ho, _⟩ := F.obj
    exact Heap.lt_size ho)) hp
  have hn : H1 p0 = none := I1.hok.fresh hp1
  have kall : ∀ b u, s1.heap.get? b = some u → s'.heap.get? b = some u := fun b u e => k2 b u (k b u e)
  have h4L := F.few
  have hlen : ((bs.mergeSort (PySem.W.dataLe false encK)).map fun q => V.ref q.1).length ≤ sizeLine := by
    rw [List.length_map, List.length_mergeSort, pb.length_eq, sizeLine_eq]; omega
  have J : Inv X pins σ (upd H1 p0 (.lst ((bs.mergeSort (PySem.W.dataLe false encK)).map fun q => V.ref q.1))) s' := I1.call' (ch := []) o (Un.laid kall hp1 hn) (I1.hok.laid kall hp1 ⟨hlen, out.toList, c', by rw [eo]; exact keys_refs _, hi⟩) (by rw [g]; exact I1.bare) (fun _ z => nomatch z)
  refine ⟨.ref p0, _, J, rfl, q1 bs p0 (fun q hq => got.sub q (pb.mem_iff.mp hq)) (fun q hq => (pb.map (·.2)).mem_iff.mpr (got.has q (by rw [List.take_length]; exact hq))) ((pb.map (·.2)).nodup_iff.mpr F.nod) hn⟩
end L2

namespace DM
open PySem PySem.Spec L2
/-! ### sorted(set(a list of at most 90 tuples of texts and whole numbers)) -/
def keyTs : List D → Option (List (List Key))
  | [] => some []
  | .tup ds :: r => match keysT ds, keyTs r with
    | some k, some t => some (k :: t)
    | _, _ => none
  | _ => none
def memK (x : List Key) (r : List (List Key)) : Bool := r.any fun y => decide (y = x)
theorem memK_iff {x : List Key} {r : List (List Key)} : memK x r = true ↔ x ∈ r := by
  unfold memK
  rw [List.any_eq_true]
  exact ⟨fun ⟨y, hy, e⟩ => of_decide_eq_true e ▸ hy, fun h => ⟨x, h, decide_eq_true rfl⟩⟩
def dedK : List (List Key) → List (List Key)
  | [] => []
  | x :: r => if memK x r = true then dedK r else x :: dedK r
theorem dedK_mem {k : List Key} : ∀ {xs : List (List Key)}, k ∈ dedK xs ↔ k ∈ xs
  | [] => Iff.rfl
  | x :: r => by
    unfold dedK
    split
    · rename_i h
      rw [dedK_mem, List.mem_cons]
      exact ⟨.inr, fun z => z.elim (fun e => e ▸ memK_iff.mp h) id⟩
    · rw [List.mem_cons, List.mem_cons, dedK_mem]
theorem dedK_nd : ∀ xs : List (List Key), (dedK xs).Nodup
  | [] => List.nodup_nil
  | x :: r => by
    unfold dedK
    split
    · exact dedK_nd r
    · rename_i h
      exact List.nodup_cons.mpr ⟨fun z => h (memK_iff.mpr (dedK_mem.mp z)), dedK_nd r⟩
theorem keysT_inv : ∀ {ds : List D} {k : List Key}, keysT ds = some k → ds = k.map keyOf
  | [], k, h => by
    cases h
    rfl
  | d :: r, k, h => by
    unfold keysT at h
    match e1 : keyD d, e2 : keysT r, h with
    | some x, some t, h =>
      cases h
      rw [List.map_cons, ← keysT_inv e2]
      refine congrArg (· :: r) ?_
      cases d with
      | int i => cases e1; rfl
      | str x => cases e1; rfl
      | _ => cases e1
theorem keyTs_inv : ∀ {xs : List D} {ks : List (List Key)}, keyTs xs = some ks → xs = ks.map keyT
  | [], ks, h => by
    cases h
    rfl
  | d :: r, ks, h => by
    cases d with
    | tup ds =>
      unfold keyTs at h
      match e1 : keysT ds, e2 : keyTs r, h with
      | some k, some t, h =>
        cases h
        rw [List.map_cons, ← keyTs_inv e2, keysT_inv e1]
        rfl
    | _ => cases h
theorem keyTs_map : ∀ ks : List (List Key), keyTs (ks.map keyT) = some ks
  | [] => rfl
  | k :: r => by
    show (match keysT (k.map keyOf), keyTs (r.map keyT) with
      | some k, some t => some (k :: t)
      | _, _ => none) = _
    rw [keysT_of, keyTs_map r]
theorem pyD_keyOf (x : Key) : pyD (keyOf x) = keyP x := by cases x <;> rfl
theorem pyDs_keys : ∀ k : List Key, pyDs (k.map keyOf) = k.map keyP
  | [] => rfl
  | x :: r => by
    show pyD (keyOf x) :: pyDs (r.map keyOf) = _
    rw [pyD_keyOf, pyDs_keys r]
    rfl
theorem pyD_keyT (k : List Key) : pyD (keyT k) = .tuple (k.map keyP) := by
  show PyData.tuple (pyDs (k.map keyOf)) = _
  rw [pyDs_keys]
def FsetK (d : D) (μ : Store) : Res D := match d with
  | .lst xs => match keyTs xs with
    | some ks => if ks.length ≤ 90 ∧ sortOk xs ∧ (srtD ((dedK ks).map keyT)).Pairwise (fun a b => ltD a b = true) then okR (.lst (srtD ((dedK ks).map keyT))) μ else none
    | none => none
  | _ => none
section
variable {X : Cx} {W : DW}
theorem vrs_split {K : PySem.W.Frag} {ι : List Addr} {H : Hp} : ∀ {vs : List V} {ks : List (List Key)}, VRs K ι H vs (ks.map keyT) → ∃ ps : List (Addr × List Key), vs = ps.map (fun p => V.ref p.1) ∧ ks = ps.map (·.2) ∧ ∀ p ∈ ps, SqT K H p.1 (p.2.map kV) ∧ VR K ι H (V.ref p.1) (keyT p.2)
  | _, [], h => by
    cases h
    exact ⟨[], rfl, rfl, fun p hp => by cases hp⟩
  | _, k :: r, h => by
    cases h with
    | cons a t =>
      obtain ⟨ps, e1, e2, h3⟩ := vrs_split t
      have a' : VR K ι H _ (D.tup (k.map keyOf)) := a
      cases a' with
      | tup hh rr =>
        have ev := keysT_vr rr keysT_of
        subst ev
        exact ⟨(_, k) :: ps, by rw [e1]; rfl, by rw [e2]; rfl, fun p hp => by
          rcases List.mem_cons.mp hp with e | z
          · rw [e]; exact ⟨hh.sq, a⟩
          · exact h3 p z⟩
theorem vrs_of_keys {K : PySem.W.Frag} {ι : List Addr} {H : Hp} : ∀ {ps : List (Addr × List Key)}, (∀ p ∈ ps, VR K ι H (V.ref p.1) (keyT p.2)) → VRs K ι H (ps.map fun p => V.ref p.1) (ps.map fun p => keyT p.2)
  | [], _ => .nil
  | p :: r, h => .cons (h p List.mem_cons_self) (vrs_of_keys fun q hq => h q (List.mem_cons_of_mem _ hq))
theorem d_setK {a : Expr} {A : CM D} {p p2 q pos : Pos} (hu : X.A.units + 64 < cLine) (hg : Gl X "sorted") (hm : X.mg "sorted" = none) (hg2 : Gl X "set") (hm2 : X.mg "set" = none) (ha : PE X a (tE X.K W A)) (hc : X.calm = true := by rfl)
    (na : starEach [a] X.env = (false, eval a X.env) :: starEach [] X.env := by rfl) : PE X (.Call (.Name "sorted" p) [.Call (.Name "set" p2) [a] [] q] [] pos) (tE X.K W (e1 FsetK A)) :=
  (pe_sortSetK hu hg hm hg2 hm2 ha hc na).imp fun σ H Q ⟨ρ, ι, μ, sr, wf, h⟩ => by
    refine tG.mono (PostG.bind sr wf h) ?_
    rintro v H1 ⟨ι1, μ1, d, l1, w1, vx, h1⟩
    cases d with
    | lst xs =>
      unfold FsetK at h1
      simp only at h1
      split at h1
      · rename_i ks eks
        obtain ⟨⟨c1, c2, c3⟩, h2⟩ := PostG.guard h1
        have e := keyTs_inv eks
        subst e
        cases vx with
        | lst hh r =>
          obtain ⟨ps, rfl, rfl, hps⟩ := vrs_split r
          rw [List.length_map] at c1
          have hpy : ∀ p : Addr × List Key, encK p = pyD (keyT p.2) := fun p => (pyD_keyT p.2).symm
          refine ⟨_, ps, rfl, hh.sq, fun p hp => (hps p hp).1, c1, fun d hd d' hd' => ?_, fun p hp => ?_, fun bs p hsub hall hnd hp => ?_⟩
          · obtain ⟨a, ha, rfl⟩ := List.mem_map.mp hd
            obtain ⟨b, hb, rfl⟩ := List.mem_map.mp hd'
            rw [hpy, hpy]
            exact c2.2.2 _ (List.mem_map.mpr ⟨a.2, List.mem_map.mpr ⟨a, ha, rfl⟩, rfl⟩) _ (List.mem_map.mpr ⟨b.2, List.mem_map.mpr ⟨b, hb, rfl⟩, rfl⟩)
          · have := (c2.2.1 (keyT p.2) (List.mem_map.mpr ⟨p.2, List.mem_map.mpr ⟨p, hp, rfl⟩, rfl⟩)).2
            intro e0
            rw [e0] at this
            cases this
          · have em : (bs.mergeSort (PySem.W.dataLe false encK)).map (fun q => keyT q.2) = srtD (bs.map fun q => keyT q.2) := by
              unfold srtD
              refine List.map_mergeSort fun a _ b _ => ?_
              show PySem.W.dataLe false encK a b = leD (keyT a.2) (keyT b.2)
              unfold leD
              rw [← hpy, ← hpy]
              rfl
            have pm : ((dedK (ps.map (·.2))).map keyT).Perm (bs.map fun q => keyT q.2) := by
              rw [show (bs.map fun q => keyT q.2) = (bs.map (·.2)).map keyT from by rw [List.map_map]; rfl]
              refine List.Perm.map _ ((List.perm_ext_iff_of_nodup (dedK_nd _) hnd).mpr fun k => ?_)
              rw [dedK_mem]
              constructor
              · intro hk
                obtain ⟨q, hq, rfl⟩ := List.mem_map.mp hk
                exact hall q hq
              · intro hk
                obtain ⟨q, hq, rfl⟩ := List.mem_map.mp hk
                exact List.mem_map.mpr ⟨q, hsub q hq, rfl⟩
            have es : srtD (bs.map fun q => keyT q.2) = srtD ((dedK (ps.map (·.2))).map keyT) := srt_uniq ((srt_perm _).trans pm) c3
            have hv : VRs X.K ι1 H1 ((bs.mergeSort (PySem.W.dataLe false encK)).map fun q => V.ref q.1) (srtD ((dedK (ps.map (·.2))).map keyT)) := by
              rw [← es, ← em]
              exact vrs_of_keys fun q hq => (hps q (hsub q ((List.mergeSort_perm bs _).mem_iff.mp hq))).2
            exact h2.ok (Le.laid hp) (w1.laid hp) (.lst ⟨upd_same, w1.out hp⟩ (hv.mono (Le.laid hp)))
      · exact h1.elim
    | _ => exact h1.elim
end
theorem f_setK {ks : List (List Key)} {μ : Store} (h1 : ks.length ≤ 90) (h2 : sortOk (ks.map keyT)) (h3 : (srtD ((dedK ks).map keyT)).Pairwise fun a b => ltD a b = true) : FsetK (.lst (ks.map keyT)) μ = okR (.lst (srtD ((dedK ks).map keyT))) μ := by
  show (match keyTs (ks.map keyT) with
    | some ks' => if ks'.length ≤ 90 ∧ sortOk (ks.map keyT) ∧ (srtD ((dedK ks').map keyT)).Pairwise (fun a b => ltD a b = true) then okR (D.lst (srtD ((dedK ks').map keyT))) μ else none
    | none => none) = _
  rw [keyTs_map]
  exact if_pos ⟨h1, h2, h3⟩
end DM

/-! ### len(set(a list of texts)) -/
namespace L2
open PySem PySem.Spec PyProof.Rows
def tLenSetS (K : PySem.W.Frag) (ta : TE) : TE := fun σ H Q => ta σ H fun x H1 => ∃ (l : Addr) (ts : List Str), x = .ref l ∧ SqL K H1 l (ts.map V.str) ∧ ts.length < 64 ∧ ∀ (ys : List Str), ys.Nodup → (∀ k, k ∈ ys ↔ k ∈ ts) → Q (.int ys.length) H1
theorem pe_lenSetS {X : Cx} {a : Expr} {ta : TE} {p p2 q pos : Pos} (hg : Gl X "len") (hm : X.mg "len" = none) (hg2 : Gl X "set") (hm2 : X.mg "set" = none) (ha : PE X a ta) (hc : X.calm = true := by rfl)
    (na : starEach [a] X.env = (false, eval a X.env) :: starEach [] X.env := by rfl) : PE X (.Call (.Name "len" p) [.Call (.Name "set" p2) [a] [] q] [] pos) (tLenSetS X.K ta) := by
  refine ⟨fun pins s σ H Q I h => ?_⟩
  refine Call_ (ld_blt I hg hm PySem.boot_len ?_)
  refine PyProof.Rows.callWith_builtin1 (PyProof.Rows.args_cons ?_ rfl) rfl rfl
  refine Call_ (ld_blt I hg2 hm2 PyProof.Rows.boot_set ?_)
  refine PyProof.Rows.callWith_type1 (PyProof.Rows.args_cons (thn (ha.run pins s σ H _ I h) fun v s1 ⟨x, H1, I1, r1, q1⟩ => PyProof.Rows.args_nil ?_) na) na rfl
  obtain ⟨l, ts, rfl, hq, hl, q1⟩ := q1
  cases r1
  obtain ⟨its, r, pl, hz⟩ := I1.list hq
  have hlen : its.toArray.size = ts.length := by rw [List.size_toArray, ← r.length, List.length_map]
  refine call_setL ts (I1.ok.hd hc) (show s1.heap.IsList l its.toArray from pl.isList) (fun i v e => strs_vals r i v (by simpa using e)) hlen (by unfold scanBound; omega) fun h' tk c R1 hcn k => ?_
  refine PyProof.Rows.args_nil ?_
  obtain ⟨o, es, ep, t, ho, hex, hd, g, nd, hmem, hb, hf, hn, _⟩ := R1
  have I2 : Inv X pins σ H1 { s1 with heap := h', toks := tk } := I1.kept fun b o e => k b o e
  have q2 := q1 (es.toList.map fun e => keyS e.2) nd fun x => by rw [← hmem x, decide_eq_true_eq]
  rw [List.length_map, Array.length_toList] at q2
  exact call_len_set ho hex hd hf (by rw [hn]; omega) ⟨.int es.size, H1, I2.tok _, ⟨_, rfl⟩, q2⟩
end L2
namespace DM
open PySem PySem.Spec L2
/-- len(set(..)) of a list of texts -/
def FlenSetS (d : D) (μ : Store) : Res D := match d with
  | .lst xs => match strsD xs with
    | some ts => if ts.length < 64 then okR (.int ((dedS ts).length : Nat)) μ else none
    | none => none
  | _ => none
section
variable {X : Cx} {W : DW}
theorem d_lenSetS {a : Expr} {A : CM D} {p p2 q pos : Pos} (hg : Gl X "len") (hm : X.mg "len" = none) (hg2 : Gl X "set") (hm2 : X.mg "set" = none) (ha : PE X a (tE X.K W A)) (hc : X.calm = true := by rfl)
    (na : starEach [a] X.env = (false, eval a X.env) :: starEach [] X.env := by rfl) : PE X (.Call (.Name "len" p) [.Call (.Name "set" p2) [a] [] q] [] pos) (tE X.K W (e1 FlenSetS A)) :=
  (pe_lenSetS hg hm hg2 hm2 ha hc na).imp fun σ H Q ⟨ρ, ι, μ, sr, wf, h⟩ => by
    refine tG.mono (PostG.bind sr wf h) ?_
    rintro v H1 ⟨ι1, μ1, d, l1, w1, vx, h1⟩
    cases d with
    | lst xs =>
      unfold FlenSetS at h1
      simp only at h1
      split at h1
      · rename_i ts ets
        obtain ⟨c, h2⟩ := PostG.guard h1
        have e := strsD_eq ets
        subst e
        cases vx with
        | lst hh r =>
          have hv := vrs_strs r
          subst hv
          refine ⟨_, ts, rfl, SqL.of hh.1, c, fun ys hnd hmem => ?_⟩
          have e : ys.length = (dedS ts).length := ((List.perm_ext_iff_of_nodup hnd (dedS_nd ts)).mpr fun k => (hmem k).trans dedS_mem.symm).length_eq
          rw [e]
          exact h2.ok0 w1 (.int _)
      · exact h1.elim
    | _ => exact h1.elim
end
theorem f_lenSetS {ts : List Str} {μ : Store} (h : ts.length < 64) : FlenSetS (.lst (ts.map D.str)) μ = okR (.int ((dedS ts).length : Nat)) μ := by
  show (match strsD (ts.map D.str) with
    | some ts => if ts.length < 64 then okR (.int ((dedS ts).length : Nat)) μ else none
    | none => none) = _
  rw [strsD_map]
  exact if_pos h
end DM

namespace DM
open PySem PySem.Spec L2 PyProof.Rows
/-! ### a list times a number -/
def rMulL (K : PySem.W.Frag) : L2.R2 := fun x y H Q => ∃ l k xs, x = .ref l ∧ y = .int k ∧ SqL K H l xs ∧ 0 ≤ k ∧ k ≤ 1000 ∧ xs.length ≤ 1000 ∧ ∀ p, H p = none → Q (.ref p) (upd H p (.lst (List.replicate k.toNat xs).flatten))
theorem op_mulL {X : Cx} : OpR X (binaryOp .Mult) (rMulL X.K) := by
  intro pins s σ H x y v u Q I rx ry h
  obtain ⟨l, k, xs, rfl, rfl, hL, h1, h2, hz, q⟩ := h
  cases rx
  obtain ⟨t, rfl⟩ := ry
  obtain ⟨its, r, pl, hs⟩ := I.list hL
  obtain ⟨⟨cls, dd, data, sl⟩, ho, hc, n, hd⟩ := pl.isList
  simp only at hc hd
  subst hc hd
  have hle : its.length = xs.length := r.length.symm
  have a1 : its.length * k.toNat ≤ 1000 * 1000 := Nat.mul_le_mul (by omega) (by omega)
  have flen : (List.replicate k.toNat xs).flatten.length ≤ sizeLine := by
    rw [lm_len_rep_flat, ← hle, sizeLine_eq, Nat.mul_comm]
    omega
  refine wpAny_binaryOp_repeat_ref (T := "list") (U := "int") (by decide) ⟨_, ho, rfl⟩ (fun s' => typeIs_int s' k t) noFill_list_mul F.fills_int_mul F.slot_int_rmul repeat_list F.slot_int_index.lookup
    (call_meets F.slot_int_rmul (typeIs_int s k t) F.entry_int_rmul (F.args_int_rmul_2 _ _) (lm_int_rmul_list_any k t l its.toArray n dd sl)
      ⟨ho, rfl, ⟨_, ho, rfl⟩, call_meets F.slot_list_mul ⟨_, ho, rfl⟩ F.entry_list_mul (F.args_list_mul_2 _ _)
        (lm_list_mul_any l its.toArray n dd sl k t (by simp [Builtin.List.listFitsIndex]; omega) (by rw [List.size_toArray]; omega) (by rw [List.size_toArray]; simp [Builtin.List.listTooLong, sizeLine]; omega))
        ⟨ho, ?_⟩⟩)
  rw [listMul_foldl_if]
  refine ⟨.ref s.heap.objs.size, upd H s.heap.objs.size (.lst (List.replicate k.toNat xs).flatten), I.laid (t' := s.toks) (fun b ob q => Heap.get?_push_of_some _ q) (Nat.le_refl _) (show ObjOk X.prog X.w _ _ _ (.lst _) from ⟨flen, (List.replicate k.toNat its).flatten, 0, r.rep k.toNat, Heap.get?_push_size _ rfl⟩), rfl, q _ (I.hok.fresh (Nat.le_refl _))⟩
def FmulL : D → D → Store → Res D
  | .lst a, .int k, μ => if 0 ≤ k ∧ k ≤ 1000 ∧ a.length ≤ 1000 then okR (.lst (List.replicate k.toNat a).flatten) μ else none
  | _, _, _ => none
theorem lift_mulL {K : PySem.W.Frag} : Lift2 K (rMulL K) FmulL := by
  intro W σ ι μ H x y d e Q w vx vy h
  cases vx with
  | lst ht r =>
    cases vy with
    | int k =>
      obtain ⟨⟨q2, q3, q4⟩, h⟩ := PostG.guard h
      refine ⟨_, k, _, rfl, rfl, SqL.of ht.1, q2, q3, by rw [r.length]; exact q4, fun p hp => ?_⟩
      exact h.ok (Le.laid hp) (w.laid hp) (.lst ⟨upd_same, w.out hp⟩ ((VRs.rep r k.toNat).mono (Le.laid hp)))
    | _ => exact h.elim
  | _ => exact h.elim
theorem d_mulL {X : Cx} {W : DW} {a b : Expr} {A B : CM D} {pos : Pos} (ha : PE X a (tE X.K W A)) (hb : PE X b (tE X.K W B)) : PE X (.BinOp a .Mult b pos) (tE X.K W (e2 FmulL A B)) := d_op op_mulL lift_mulL ha hb
theorem f_mulLN {a : List D} {k : Int} {μ : Store} (h : 0 ≤ k ∧ k ≤ 1000 ∧ a.length ≤ 1000) : FmulL (.lst a) (.int k) μ = okR (.lst (List.replicate k.toNat a).flatten) μ := if_pos h
end DM

namespace Lw
open PySem PySem.Spec L2 DM
def topS (i : Nat) : Stmt := PySem.Challenge.pw_coarseclock_k03_orders_and_cells.main.body.getD i (.Pass ⟨0, 0, 0, 0⟩)
abbrev FnT (K : PySem.W.Frag) (x : Str) (st : Stmt) (f : Addr) (fd : FuncData) : Prop := FunD K x x (defArgs st) (defBody st) (defScope st) [] [] f fd
abbrev FnM (K : PySem.W.Frag) (x q : Str) (st : Stmt) (f : Addr) (fd : FuncData) : Prop := FunD K x q (defArgs st) (defBody st) (defScope st) [] [] f fd
section
variable {P : Program} {w : World} {K : PySem.W.Frag} {mg : Str → Option Value} {base : Heap}
/-! #### orders -/
abbrev s_orders : Stmt := topS 10
abbrev N_orders : List Str := ["steps", "found", "first", "second", "step"]
theorem sc_orders : FnScope N_orders [] (defScope s_orders) := ⟨rfl, rfl, rfl, by decide +kernel, rfl, by decide +kernel, by decide +kernel⟩
def B_orders_2 : SF := (sDrop (eMeth isList Fapp (eVar 1) (aCons (eTup (aCons (eVar 2) (aCons (eVar 3) (aStar (eSeal (eLC (iAny (eVar 0)) (fName 4) (bOf (e2 (Fin true) (eVar 4) (eTup (aCons (eVar 2) (aCons (eVar 3) aNil))))) (eVar 4) [4])) aNil)))) aNil)))
def B_orders_1 : SF := (sFor (iAny (eSeal (eLC (iAny (eVar 0)) (fName 4) (bOf (e2 (Feq true) (eVar 4) (eVar 2))) (eVar 4) [4]))) (fName 3) B_orders_2)
def S_orders : SF := (sSeq (sPar2 0 1 (aCons (eTup (aCons (eC (.str "note")) (aCons (eC (.str "read")) (aCons (eC (.str "stat")) aNil)))) (aCons (eCel aNil) aNil))) (sSeq (sFor (iAny (eVar 0)) (fName 2) B_orders_1) (sRet (eCallB Ftuple (aCons (eVar 1) aNil)))))
def F_orders : FD := fnSeal (fnP 5 0 S_orders)
abbrev P_orders : List Str := []
theorem ok_orders {f : Addr} {fd : FuncData} (Fd : FnT K "orders" s_orders f fd) (m_tuple : mg "tuple" = none) (c_NOTE : Cst K mg "NOTE" (.str "note")) (c_READ : Cst K mg "READ" (.str "read")) (c_STAT : Cst K mg "STAT" (.str "stat")) : FnG P w K mg base (xrS K) 1 f fd P_orders F_orders := by
  exact FnG.seal (fnG_pure Fd sc_orders rfl rfl fun cdv A outer s H E hr hG => (ds_cons (ds_par2 (i := 0) (j := 1) rfl sc_orders.nd rfl rfl (by decide) rfl rfl (da_cons (d_tup (da_cons (d_cst (by rfl) c_NOTE) (da_cons (d_cst (by rfl) c_READ) (da_cons (d_cst (by rfl) c_STAT) da_nil)))) (da_cons (d_cel da_nil) da_nil)) (by rfl)) (ds_cons (ds_for (own := [2]) PassesOwn.never rfl (di_any (d_pv 0 (pv 0))) (pg_name (i := 2) sc_orders.nd rfl (.inr rfl)) (tg_name (by decide)) (ds_one (ds_for (own := [3]) PassesOwn.never rfl (di_any (d_seal (d_lc (own := [("step", 4)]) rfl sc_orders.nd (di_any (d_pv 0 (pv 0))) (blkOk_by (N := N_orders) (sc := defScope s_orders) (own := [("step", 4)]) (by decide +kernel)) (fun _ _ _ _ _ => (pg_name (i := 4) sc_orders.nd rfl (.inl rfl))) (tg_name (by decide)) (fun _ _ _ _ _ => (dts_one (dt_ne hr (d_pv 4 (pv 4)) (d_pv 2 (pv 2))))) (fun _ _ _ _ _ => (d_pv 4 (pv 4)))))) (pg_name (i := 3) sc_orders.nd rfl (.inr rfl)) (tg_name (by decide)) (ds_one (ds_expr (d_app (d_pv 1 (pv 1)) (da_cons (d_tup (da_cons (d_pv 2 (pv 2)) (da_cons (d_pv 3 (pv 3)) (da_star (d_seal (d_lc (own := [("step", 4)]) rfl sc_orders.nd (di_any (d_pv 0 (pv 0))) (blkOk_by (N := N_orders) (sc := defScope s_orders) (own := [("step", 4)]) (by decide +kernel)) (fun _ _ _ _ _ => (pg_name (i := 4) sc_orders.nd rfl (.inl rfl))) (tg_name (by decide)) (fun _ _ _ _ _ => (dts_one (dt_notin hr (d_pv 4 (pv 4)) (d_tup (da_cons (d_pv 2 (pv 2)) (da_cons (d_pv 3 (pv 3)) da_nil)))))) (fun _ _ _ _ _ => (d_pv 4 (pv 4))))) da_nil)))) da_nil))))))) (ds_one (ds_ret (d_ct call_tupleD lift_tuple (by rfl) m_tuple (by decide +kernel) (da_cons (d_pv 1 (pv 1)) da_nil)))))))
theorem kn_orders {f : Addr} {fd : FuncData} (Fd : FnT K "orders" s_orders f fd) (g : mg "orders" = some (.ref f)) (m_tuple : mg "tuple" = none) (c_NOTE : Cst K mg "NOTE" (.str "note")) (c_READ : Cst K mg "READ" (.str "read")) (c_STAT : Cst K mg "STAT" (.str "stat")) : Kn P w K mg base 1 "orders" P_orders F_orders :=
  ⟨⟨f, fd, ok_orders Fd m_tuple c_NOTE c_READ c_STAT, g, Fd.kp, FunD.bindsN Fd (fun _ _ _ _ _ _ us hl => match us, hl with | [], _ => rfl), fnSeal_len fnP_len⟩⟩
/-! #### cells (a generator) -/
abbrev s_cells : Stmt := topS 11
abbrev N_cells : List Str := ["width", "relation", "gap", "size"]
theorem sc_cells : GScope N_cells ["width"] (defScope s_cells) := ⟨rfl, rfl, rfl, by decide +kernel, rfl, by decide +kernel, by decide +kernel⟩
def G_cells : GP.GD := (GP.gdFor (fun _ => some [(.str "less"), (.str "more"), (.str "same")]) 1 (GP.gdFor (GP.gRng2 (aCons (e1 Fneg (eVar 0)) (aCons (e2 Fadd (eVar 0) (eC (.int 1))) aNil))) 2 (GP.gdFor (fun _ => some [(.str "other"), (.str "same")]) 3 (GP.gdYield (eTup (aCons (eVar 1) (aCons (eVar 2) (aCons (eVar 3) aNil))))))))
def F_cells : List D → Option (List D) := fun ds => (G_cells (startR 4 ds)).map (·.1)
abbrev P_cells : List Str := ["width"]
theorem kg_cells {f : Addr} {fd : FuncData} (Fd : FnT K "cells" s_cells f fd) (g : mg "cells" = some (.ref f)) (m_range : mg "range" = none) (c_RELATIONS : Cst K mg "RELATIONS" (.tup [(.str "less"), (.str "more"), (.str "same")])) (c_SIZES : Cst K mg "SIZES" (.tup [(.str "other"), (.str "same")])) : GP.KnG P w K mg base 1 "cells" P_cells F_cells :=
  ⟨⟨f, fd, GP.gng_of Fd sc_cells (fun _ => rfl) (GP.nc_of (by decide +kernel)) (fun cdv A_ outer L pn items hr ok => (GP.gsd_one (GP.gs_for1 ok (fun _ _ _ => GP.pic_const (by rfl) c_RELATIONS rfl) (fun _ _ _ => pg_name (i := 1) sc_cells.nd rfl (.inl rfl)) (GP.gsd_one (GP.gs_for1 ok (fun _ _ _ => GP.pic_range2 (by rfl) m_range (da_cons (d_neg (d_pv 0 (pv 0))) (da_cons (d_add (d_pv 0 (pv 0)) d_int) da_nil))) (fun _ _ _ => pg_name (i := 2) sc_cells.nd rfl (.inl rfl)) (GP.gsd_one (GP.gs_for1 ok (fun _ _ _ => GP.pic_const (by rfl) c_SIZES rfl) (fun _ _ _ => pg_name (i := 3) sc_cells.nd rfl (.inl rfl)) (GP.gsd_one (GP.gs_yield1 ok (fun _ _ _ => (d_tup (da_cons (d_pv 1 (pv 1)) (da_cons (d_pv 2 (pv 2)) (da_cons (d_pv 3 (pv 3)) da_nil)))))))))))))), g, Fd.kp, FunD.bindsN Fd (fun _ _ _ _ _ _ us hl => match us, hl with | [_], _ => rfl)⟩⟩
/-! #### _law_pot -/
abbrev s__law_pot : Stmt := topS 13
abbrev N__law_pot : List Str := ["_law_script", "_law_k", "_law_cell", "_law_great"]
theorem sc__law_pot : FnScope N__law_pot ["_law_script", "_law_k"] (defScope s__law_pot) := ⟨rfl, rfl, rfl, by decide +kernel, rfl, by decide +kernel, by decide +kernel⟩
def S__law_pot : SF := (sSeq (sAsg 2 (eIf (bOf (e2 Flt (eVar 1) (eCallB Flen (aCons (eVar 0) aNil)))) (e2 Fix (eVar 0) (eVar 1)) (e2 Fadd (e2 Fmul (eC (.int 17)) (eVar 1)) (eC (.int 3))))) (sSeq (sAsg 3 (eIf (bOf (e2 Fge (eCallB Fabs (aCons (eVar 2) aNil)) (e2 Fpow (eC (.int 10)) (eC (.int 18))))) (e2 Fmod (eCallB Fabs (aCons (eVar 2) aNil)) (e2 Fpow (e2 Fpow (eC (.int 10)) (eC (.int 60))) (eC (.int 3)))) (eC (.int 0)))) (sRet (eCel (aCons (eVar 3) (aCons (e2 Fmod (e2 Fadd (e2 Fadd (e2 Fmul (e2 Fmod (eVar 2) (eC (.int 2305843009213693951))) (eC (.int 69621))) (e2 Fmul (e2 Fmul (eC (.int 104729)) (eVar 1)) (eVar 1))) (eC (.int 71))) (eC (.int 2305843009213693921))) (aCons (eC (.int 0)) aNil)))))))
def F__law_pot : FD := fnP 4 2 S__law_pot
abbrev P__law_pot : List Str := ["_law_script", "_law_k"]
theorem ok__law_pot {f : Addr} {fd : FuncData} (Fd : FnT K "_law_pot" s__law_pot f fd) (m_abs : mg "abs" = none) (m_len : mg "len" = none) : FnG P w K mg base (xrS K) 1 f fd P__law_pot F__law_pot := by
  exact fnG_pure Fd sc__law_pot rfl rfl fun cdv A outer s H E hr hG => (ds_cons (ds_set (i := 2) sc__law_pot.nd rfl (.inl rfl) (d_ifexp (dt_lt (d_pv 1 (pv 1)) (d_cb call_len lift_len (by rfl) m_len (by decide +kernel) (da_cons (d_pv 0 (pv 0)) da_nil))) (d_ix (d_pv 0 (pv 0)) (d_pv 1 (pv 1)) (fun _ _ => rfl)) (d_add (d_mul d_int (d_pv 1 (pv 1))) d_int))) (ds_cons (ds_set (i := 3) sc__law_pot.nd rfl (.inl rfl) (d_ifexp (dt_ge (d_cb call_abs lift_abs (by rfl) m_abs (by decide +kernel) (da_cons (d_pv 2 (pv 2)) da_nil)) (d_pow d_int d_int)) (d_mod (d_cb call_abs lift_abs (by rfl) m_abs (by decide +kernel) (da_cons (d_pv 2 (pv 2)) da_nil)) (d_pow (d_pow d_int d_int) d_int)) d_int)) (ds_one (ds_ret (d_cel (da_cons (d_pv 3 (pv 3)) (da_cons (d_mod (d_add (d_add (d_mul (d_mod (d_pv 2 (pv 2)) d_int) d_int) (d_mul (d_mul d_int (d_pv 1 (pv 1))) (d_pv 1 (pv 1)))) d_int) d_int) (da_cons d_int da_nil))))))))
theorem kn__law_pot {f : Addr} {fd : FuncData} (Fd : FnT K "_law_pot" s__law_pot f fd) (g : mg "_law_pot" = some (.ref f)) (m_abs : mg "abs" = none) (m_len : mg "len" = none) : Kn P w K mg base 1 "_law_pot" P__law_pot F__law_pot :=
  ⟨⟨f, fd, ok__law_pot Fd m_abs m_len, g, Fd.kp, FunD.bindsN Fd (fun _ _ _ _ _ _ us hl => match us, hl with | [_, _], _ => rfl), fnP_len⟩⟩
/-! #### _law_take -/
abbrev s__law_take : Stmt := topS 14
abbrev N__law_take : List Str := ["_law_pot_here", "_law_size", "_law_digit", "_law_prime", "_law_mixed"]
theorem sc__law_take : FnScope N__law_take ["_law_pot_here", "_law_size"] (defScope s__law_take) := ⟨rfl, rfl, rfl, by decide +kernel, rfl, by decide +kernel, by decide +kernel⟩
def S__law_take : SF := (sSeq (sIf (bOf (e2 Fgt (e2 Fix (eVar 0) (eC (.int 0))) (eC (.int 0)))) (sSeq (sAsg 2 (e2 Fmod (e2 Fix (eVar 0) (eC (.int 0))) (eVar 1))) (sSeq (sPut (eVar 0) (eC (.int 0)) (e2 Fdiv (e2 Fix (eVar 0) (eC (.int 0))) (eVar 1))) (sRet (eVar 2)))) sNil) (sSeq (sPut (eVar 0) (eC (.int 2)) (e2 Fadd (e2 Fix (eVar 0) (eC (.int 2))) (eC (.int 1)))) (sSeq (sAsg 3 (e2 Fix (eLst (aCons (eC (.int 2147483647)) (aCons (eC (.int 2147483629)) (aCons (eC (.int 2147483587)) (aCons (eC (.int 2147483579)) (aCons (eC (.int 2147483563)) aNil)))))) (e2 Fmod (e2 Fix (eVar 0) (eC (.int 2))) (eC (.int 5))))) (sSeq (sAsg 4 (e2 Fmod (e2 Fpow (e2 Fadd (e2 Fadd (e2 Fix (eVar 0) (eC (.int 1))) (e2 Fmul (e2 Fmul (eC (.int 40009)) (e2 Fix (eVar 0) (eC (.int 2)))) (e2 Fix (eVar 0) (eC (.int 2))))) (eC (.int 31))) (eC (.int 3))) (eVar 3))) (sRet (e2 Fmod (e2 Fdiv (e2 Fmod (e2 Fmul (eVar 4) (e2 Fadd (e2 Fmod (eVar 4) (eC (.int 10009))) (e2 Fmul (eC (.int 89)) (e2 Fix (eVar 0) (eC (.int 2)))))) (eC (.int 2305843009213693907))) (eC (.int 89))) (eVar 1)))))))
def F__law_take : FD := fnP 5 2 S__law_take
abbrev P__law_take : List Str := ["_law_pot_here", "_law_size"]
theorem ok__law_take {f : Addr} {fd : FuncData} (Fd : FnT K "_law_take" s__law_take f fd) : FnG P w K mg base (xrS K) 1 f fd P__law_take F__law_take := by
  exact fnG_pure Fd sc__law_take rfl rfl fun cdv A outer s H E hr hG => (ds_cons (ds_if (dt_gt (d_ix (d_pv 0 (pv 0)) d_int (fun _ _ => rfl)) d_int) (ds_cons (ds_set (i := 2) sc__law_take.nd rfl (.inl rfl) (d_mod (d_ix (d_pv 0 (pv 0)) d_int (fun _ _ => rfl)) (d_pv 1 (pv 1)))) (ds_cons (ds_put (d_div (d_ix (d_pv 0 (pv 0)) d_int (fun _ _ => rfl)) (d_pv 1 (pv 1))) (d_pv 0 (pv 0)) d_int (pg_sub (d_pv 0 (pv 0)) d_int set_list)) (ds_one (ds_ret (d_pv 2 (pv 2)))))) ds_nil) (ds_cons (ds_put (d_add (d_ix (d_pv 0 (pv 0)) d_int (fun _ _ => rfl)) d_int) (d_pv 0 (pv 0)) d_int (pg_sub (d_pv 0 (pv 0)) d_int set_list)) (ds_cons (ds_set (i := 3) sc__law_take.nd rfl (.inl rfl) (d_ix (d_lst (da_cons d_int (da_cons d_int (da_cons d_int (da_cons d_int (da_cons d_int da_nil)))))) (d_mod (d_ix (d_pv 0 (pv 0)) d_int (fun _ _ => rfl)) d_int) (fun _ _ => rfl))) (ds_cons (ds_set (i := 4) sc__law_take.nd rfl (.inl rfl) (d_mod (d_pow (d_add (d_add (d_ix (d_pv 0 (pv 0)) d_int (fun _ _ => rfl)) (d_mul (d_mul d_int (d_ix (d_pv 0 (pv 0)) d_int (fun _ _ => rfl))) (d_ix (d_pv 0 (pv 0)) d_int (fun _ _ => rfl)))) d_int) d_int) (d_pv 3 (pv 3)))) (ds_one (ds_ret (d_mod (d_div (d_mod (d_mul (d_pv 4 (pv 4)) (d_add (d_mod (d_pv 4 (pv 4)) d_int) (d_mul d_int (d_ix (d_pv 0 (pv 0)) d_int (fun _ _ => rfl))))) d_int) d_int) (d_pv 1 (pv 1)))))))))
theorem kn__law_take {f : Addr} {fd : FuncData} (Fd : FnT K "_law_take" s__law_take f fd) (g : mg "_law_take" = some (.ref f)) : Kn P w K mg base 1 "_law_take" P__law_take F__law_take :=
  ⟨⟨f, fd, ok__law_take Fd, g, Fd.kp, FunD.bindsN Fd (fun _ _ _ _ _ _ us hl => match us, hl with | [_, _], _ => rfl), fnP_len⟩⟩
/-! #### _law_all_cells -/
abbrev s__law_all_cells : Stmt := topS 15
abbrev N__law_all_cells : List Str := ["_law_wide", "_law_found", "_law_relation", "_law_gap"]
theorem sc__law_all_cells : FnScope N__law_all_cells ["_law_wide"] (defScope s__law_all_cells) := ⟨rfl, rfl, rfl, by decide +kernel, rfl, by decide +kernel, by decide +kernel⟩
def B__law_all_cells_2 : SF := (sDrop (eMeth isList Fext (eVar 1) (aCons (eLst (aCons (eTup (aCons (eVar 2) (aCons (eVar 3) (aCons (eC (.str "other")) aNil)))) (aCons (eTup (aCons (eVar 2) (aCons (eVar 3) (aCons (eC (.str "same")) aNil)))) aNil))) aNil)))
def B__law_all_cells_1 : SF := (sFor (iRg2 (aCons (e2 Fsub (eC (.int 0)) (eVar 0)) (aCons (e2 Fadd (eVar 0) (eC (.int 1))) aNil))) (fName 3) B__law_all_cells_2)
def S__law_all_cells : SF := (sSeq (sAsg 1 (eCel aNil)) (sSeq (sFor (iTupD (eTup (aCons (eC (.str "less")) (aCons (eC (.str "more")) (aCons (eC (.str "same")) aNil))))) (fName 2) B__law_all_cells_1) (sRet (eVar 1))))
def F__law_all_cells : FD := fnSeal (fnP 4 1 S__law_all_cells)
abbrev P__law_all_cells : List Str := ["_law_wide"]
theorem ok__law_all_cells {f : Addr} {fd : FuncData} (Fd : FnT K "_law_all_cells" s__law_all_cells f fd) (m_range : mg "range" = none) : FnG P w K mg base (xrS K) 1 f fd P__law_all_cells F__law_all_cells := by
  exact FnG.seal (fnG_pure Fd sc__law_all_cells rfl rfl fun cdv A outer s H E hr hG => (ds_cons (ds_set (i := 1) sc__law_all_cells.nd rfl (.inl rfl) (d_cel da_nil)) (ds_cons (ds_for (own := [2]) PassesOwn.never rfl (di_tup (d_tup (da_cons d_str (da_cons d_str (da_cons d_str da_nil))))) (pg_name (i := 2) sc__law_all_cells.nd rfl (.inl rfl)) (tg_name (by decide)) (ds_one (ds_for (own := [3]) PassesOwn.never rfl (di_rg2 (by rfl) m_range (da_cons (d_sub d_int (d_pv 0 (pv 0))) (da_cons (d_add (d_pv 0 (pv 0)) d_int) da_nil))) (pg_name (i := 3) sc__law_all_cells.nd rfl (.inl rfl)) (tg_name (by decide)) (ds_one (ds_expr (d_ext (d_pv 1 (pv 1)) (da_cons (d_lst (da_cons (d_tup (da_cons (d_pv 2 (pv 2)) (da_cons (d_pv 3 (pv 3)) (da_cons d_str da_nil)))) (da_cons (d_tup (da_cons (d_pv 2 (pv 2)) (da_cons (d_pv 3 (pv 3)) (da_cons d_str da_nil)))) da_nil))) da_nil))))))) (ds_one (ds_ret (d_pv 1 (pv 1)))))))
theorem kn__law_all_cells {f : Addr} {fd : FuncData} (Fd : FnT K "_law_all_cells" s__law_all_cells f fd) (g : mg "_law_all_cells" = some (.ref f)) (m_range : mg "range" = none) : Kn P w K mg base 1 "_law_all_cells" P__law_all_cells F__law_all_cells :=
  ⟨⟨f, fd, ok__law_all_cells Fd m_range, g, Fd.kp, FunD.bindsN Fd (fun _ _ _ _ _ _ us hl => match us, hl with | [_], _ => rfl), fnSeal_len fnP_len⟩⟩
/-! #### _law_both -/
abbrev s__law_both : Stmt := topS 16
abbrev N__law_both : List Str := ["_law_wide", "_law_other", "_law_often", "_law_found", "_law_inner_cells", "_law_one", "_law_count", "_law_near"]
theorem sc__law_both : FnScope N__law_both ["_law_wide", "_law_other", "_law_often"] (defScope s__law_both) := ⟨rfl, rfl, rfl, by decide +kernel, rfl, by decide +kernel, by decide +kernel⟩
def B__law_both_2 : SF := (sSeq (sAsg 6 (e2 Fadd (eVar 6) (eC (.int 1)))) (sSeq (sDrop (eMeth isList Fapp (eVar 4) (aCons (eVar 7) aNil))) (sIf (bOf (e2 (Feq false) (eVar 6) (eVar 2))) sBrk sNil)))
def B__law_both_1 : SF := (sSeq (sDrop (eMeth isList Fapp (eVar 3) (aCons (eVar 5) aNil))) (sSeq (sAsg 6 (eC (.int 0))) (sFor (GP.iGen 1 F_cells (aCons (eVar 1) aNil)) (fName 7) B__law_both_2)))
def S__law_both : SF := (sSeq (sPar2 3 4 (aCons (eCel aNil) (aCons (eCel aNil) aNil))) (sSeq (sFor (GP.iGen 1 F_cells (aCons (eVar 0) aNil)) (fName 5) B__law_both_1) (sRet (eTup (aCons (eVar 3) (aCons (eVar 4) aNil))))))
def F__law_both : FD := fnSeal (fnP 8 3 S__law_both)
abbrev P__law_both : List Str := ["_law_wide", "_law_other", "_law_often"]
theorem ok__law_both {f : Addr} {fd : FuncData} (Fd : FnT K "_law_both" s__law_both f fd) (n_cells : GP.KnG P w K mg base 1 "cells" P_cells F_cells) : FnG P w K mg base (xrS K) 5 f fd P__law_both F__law_both := by
  exact FnG.seal (fnG_pure Fd sc__law_both rfl rfl fun cdv A outer s H E hr hG => (ds_cons (ds_par2 (i := 3) (j := 4) rfl sc__law_both.nd rfl rfl (by decide) rfl rfl (da_cons (d_cel da_nil) (da_cons (d_cel da_nil) da_nil)) (by rfl)) (ds_cons (GP.ds_forG (own := [5]) (fun _ _ h => h) PassesOwn.never (GP.pig_call n_cells hr (by decide) (by rfl) rfl (da_cons (d_pv 0 (pv 0)) da_nil)) (pg_name (i := 5) sc__law_both.nd rfl (.inl rfl)) (tg_name (by decide)) (ds_cons (ds_expr (d_app (d_pv 3 (pv 3)) (da_cons (d_pv 5 (pv 5)) da_nil))) (ds_cons (ds_set (i := 6) sc__law_both.nd rfl (.inl rfl) d_int) (ds_one (GP.ds_forG (own := [7]) (fun _ _ h => h) PassesOwn.never (GP.pig_call n_cells hr (by decide) (by rfl) rfl (da_cons (d_pv 1 (pv 1)) da_nil)) (pg_name (i := 7) sc__law_both.nd rfl (.inl rfl)) (tg_name (by decide)) (ds_cons (ds_set (i := 6) sc__law_both.nd rfl (.inl rfl) (d_add (d_pv 6 (pv 6)) d_int)) (ds_cons (ds_expr (d_app (d_pv 4 (pv 4)) (da_cons (d_pv 7 (pv 7)) da_nil))) (ds_one (ds_if (dt_eq hr (d_pv 6 (pv 6)) (d_pv 2 (pv 2))) (ds_one ds_brk) ds_nil))))))))) (ds_one (ds_ret (d_tup (da_cons (d_pv 3 (pv 3)) (da_cons (d_pv 4 (pv 4)) da_nil))))))))
theorem kn__law_both {f : Addr} {fd : FuncData} (Fd : FnT K "_law_both" s__law_both f fd) (g : mg "_law_both" = some (.ref f)) (n_cells : GP.KnG P w K mg base 1 "cells" P_cells F_cells) : Kn P w K mg base 5 "_law_both" P__law_both F__law_both :=
  ⟨⟨f, fd, ok__law_both Fd n_cells, g, Fd.kp, FunD.bindsN Fd (fun _ _ _ _ _ _ us hl => match us, hl with | [_, _, _], _ => rfl), fnSeal_len fnP_len⟩⟩
/-! #### _law_right -/
abbrev s__law_right : Stmt := topS 17
abbrev N__law_right : List Str := ["_law_pot_here", "_law_wide", "_law_due", "_law_other", "_law_often", "_law_found", "_law_inner_cells", "_law_steps", "_law_first", "_law_second", "_law_third"]
theorem sc__law_right : FnScope N__law_right ["_law_pot_here"] (defScope s__law_right) := ⟨rfl, rfl, rfl, by decide +kernel, rfl, by decide +kernel, by decide +kernel⟩
def B__law_right_1 : SF := (sSeq (sAsg 2 (eCall F__law_all_cells (aCons (eVar 1) aNil) [])) (sIf (bOr (bOf (e2 (Feq true) (eCallB Frepr (aCons (GP.eListG (GP.iGen 1 F_cells (aCons (eVar 1) aNil))) aNil)) (eCallB Frepr (aCons (eVar 2) aNil)))) (bOr (bOf (e2 (Feq true) (eVar 2) (e1 FsetK (eVar 2)))) (bOf (e2 (Feq true) (eCallB Flen (aCons (eVar 2) aNil)) (e2 Fmul (eC (.int 6)) (e2 Fadd (e2 Fmul (eC (.int 2)) (eVar 1)) (eC (.int 1)))))))) (sRet (eC (.bl false))) sNil))
def B__law_right_3 : SF := (sDrop (eMeth isList Fext (eVar 2) (aCons (eSeal (eLC (iAny (eVar 7)) (fName 10) (bOf (e2 (Feq false) (e1 FlenSetS (eLst (aCons (eVar 8) (aCons (eVar 9) (aCons (eVar 10) aNil))))) (eC (.int 3)))) (eTup (aCons (eVar 8) (aCons (eVar 9) (aCons (eVar 10) aNil)))) [10])) aNil)))
def B__law_right_2 : SF := (sFor (iAny (eVar 7)) (fName 9) B__law_right_3)
def S__law_right : SF := (sSeq (sFor (iRg2 (aCons (eC (.int 1)) (aCons (eC (.int 7)) aNil))) (fName 1) B__law_right_1) (sSeq (sPar2 1 3 (aCons (e2 Fadd (eC (.int 1)) (eCall F__law_take (aCons (eVar 0) (aCons (eC (.int 6)) aNil)) [])) (aCons (e2 Fadd (eC (.int 1)) (eCall F__law_take (aCons (eVar 0) (aCons (eC (.int 6)) aNil)) [])) aNil))) (sSeq (sAsg 4 (e2 Fadd (eC (.int 1)) (eCall F__law_take (aCons (eVar 0) (aCons (e2 Fmul (eC (.int 6)) (e2 Fadd (e2 Fmul (eC (.int 2)) (eVar 3)) (eC (.int 1)))) aNil)) []))) (sSeq (sUnp [5, 6] (eCall F__law_both (aCons (eVar 1) (aCons (eVar 3) (aCons (eVar 4) aNil))) [])) (sSeq (sIf (bOr (bOf (e2 (Feq true) (eVar 5) (eCall F__law_all_cells (aCons (eVar 1) aNil) []))) (bOf (e2 (Feq true) (eVar 6) (e2 FmulL (eCut (eCall F__law_all_cells (aCons (eVar 3) aNil) []) oNone (oSome (eVar 4))) (eCallB Flen (aCons (eVar 5) aNil)))))) (sRet (eC (.bl false))) sNil) (sSeq (sPar2 7 2 (aCons (eLst (aCons (eC (.str "note")) (aCons (eC (.str "read")) (aCons (eC (.str "stat")) aNil)))) (aCons (eCel aNil) aNil))) (sSeq (sFor (iAny (eVar 7)) (fName 8) B__law_right_2) (sRet (vAnd (e2 (Feq false) (eCallB Frepr (aCons (eCall F_orders aNil []) aNil)) (eCallB Frepr (aCons (eCallB Ftuple (aCons (eVar 2) aNil)) aNil))) (e2 (Feq false) (GP.eListG (GP.iGenK 1 [0] F_cells (aCons (eC (.int 1)) aNil))) (eCall F__law_all_cells (aCons (eC (.int 1)) aNil) [])))))))))))
def F__law_right : FD := fnSeal (fnP 11 1 S__law_right)
abbrev P__law_right : List Str := ["_law_pot_here"]
theorem ok__law_right {f : Addr} {fd : FuncData} (Fd : FnT K "_law_right" s__law_right f fd) (n__law_all_cells : Kn P w K mg base 1 "_law_all_cells" P__law_all_cells F__law_all_cells) (n__law_both : Kn P w K mg base 5 "_law_both" P__law_both F__law_both) (n__law_take : Kn P w K mg base 1 "_law_take" P__law_take F__law_take) (n_cells : GP.KnG P w K mg base 1 "cells" P_cells F_cells) (n_orders : Kn P w K mg base 1 "orders" P_orders F_orders) (ng_0 : GP.KnGK P w K mg base 1 "cells" P_cells F_cells ["width"] [0]) (m_len : mg "len" = none) (m_list : mg "list" = none) (m_range : mg "range" = none) (m_repr : mg "repr" = none) (m_set : mg "set" = none) (m_sorted : mg "sorted" = none) (m_tuple : mg "tuple" = none) : FnG P w K mg base (xrS K) 6 f fd P__law_right F__law_right := by
  exact FnG.seal (fnG_pure Fd sc__law_right rfl rfl fun cdv A outer s H E hr hG => (ds_cons (ds_for (own := [1]) PassesOwn.never rfl (di_rg2 (by rfl) m_range (da_cons d_int (da_cons d_int da_nil))) (pg_name (i := 1) sc__law_right.nd rfl (.inl rfl)) (tg_name (by decide)) (ds_cons (ds_set (i := 2) sc__law_right.nd rfl (.inl rfl) (d_fn n__law_all_cells hr (by decide) hG (by rfl) (da_cons (d_pv 1 (pv 1)) da_nil) nx_no)) (ds_one (ds_if (PW.pt (dw_or (dt_ne hr (d_cb (call_repr hG (units65 hr)) lift_repr (by rfl) m_repr (by decide +kernel) (da_cons (GP.d_listG (GP.pim_call ((hr.mono (by decide)).in1.in1) rfl n_cells hr (by decide) (by rfl) rfl (da_cons (d_pv 1 (pv 1)) da_nil)) hr.hd (by rfl) m_list) da_nil)) (d_cb (call_repr hG (units65 hr)) lift_repr (by rfl) m_repr (by decide +kernel) (da_cons (d_pv 2 (pv 2)) da_nil))) (dw_or (dt_ne hr (d_pv 2 (pv 2)) (d_setK hr.units (by rfl) m_sorted (by rfl) m_set (d_pv 2 (pv 2)))) (dw_or1 (dt_ne hr (d_cb call_len lift_len (by rfl) m_len (by decide +kernel) (da_cons (d_pv 2 (pv 2)) da_nil)) (d_mul d_int (d_add (d_mul d_int (d_pv 1 (pv 1))) d_int))))))) (ds_one (ds_ret d_bl)) ds_nil)))) (ds_cons (ds_par2 (i := 1) (j := 3) rfl sc__law_right.nd rfl rfl (by decide) rfl rfl (da_cons (d_add d_int (d_fn n__law_take hr (by decide) hG (by rfl) (da_cons (d_pv 0 (pv 0)) (da_cons d_int da_nil)) nx_no)) (da_cons (d_add d_int (d_fn n__law_take hr (by decide) hG (by rfl) (da_cons (d_pv 0 (pv 0)) (da_cons d_int da_nil)) nx_no)) da_nil)) (by rfl)) (ds_cons (ds_set (i := 4) sc__law_right.nd rfl (.inl rfl) (d_add d_int (d_fn n__law_take hr (by decide) hG (by rfl) (da_cons (d_pv 0 (pv 0)) (da_cons (d_mul d_int (d_add (d_mul d_int (d_pv 3 (pv 3))) d_int)) da_nil)) nx_no))) (ds_cons (ds_unp (own := [5, 6]) (d_fn n__law_both hr (by decide) hG (by rfl) (da_cons (d_pv 1 (pv 1)) (da_cons (d_pv 3 (pv 3)) (da_cons (d_pv 4 (pv 4)) da_nil))) nx_no) (pg_tup rfl (pgs_cons (pg_name (i := 5) sc__law_right.nd rfl (.inl rfl)) (pgs_cons (pg_name (i := 6) sc__law_right.nd rfl (.inl rfl)) pgs_nil))) (tg_tup (is := [5, 6]) rfl (by decide))) (ds_cons (ds_if (PW.pt (dw_or (dt_ne hr (d_pv 5 (pv 5)) (d_fn n__law_all_cells hr (by decide) hG (by rfl) (da_cons (d_pv 1 (pv 1)) da_nil) nx_no)) (dw_or1 (dt_ne hr (d_pv 6 (pv 6)) (d_mulL (d_cut (d_fn n__law_all_cells hr (by decide) hG (by rfl) (da_cons (d_pv 3 (pv 3)) da_nil) nx_no) po_n (po_s (d_pv 4 (pv 4)))) (d_cb call_len lift_len (by rfl) m_len (by decide +kernel) (da_cons (d_pv 5 (pv 5)) da_nil))))))) (ds_one (ds_ret d_bl)) ds_nil) (ds_cons (ds_par2 (i := 7) (j := 2) rfl sc__law_right.nd rfl rfl (by decide) rfl rfl (da_cons (d_lst (da_cons d_str (da_cons d_str (da_cons d_str da_nil)))) (da_cons (d_cel da_nil) da_nil)) (by rfl)) (ds_cons (ds_for (own := [8]) PassesOwn.never rfl (di_any (d_pv 7 (pv 7))) (pg_name (i := 8) sc__law_right.nd rfl (.inr rfl)) (tg_name (by decide)) (ds_one (ds_for (own := [9]) PassesOwn.never rfl (di_any (d_pv 7 (pv 7))) (pg_name (i := 9) sc__law_right.nd rfl (.inr rfl)) (tg_name (by decide)) (ds_one (ds_expr (d_ext (d_pv 2 (pv 2)) (da_cons (d_seal (d_lc (own := [("_law_third", 10)]) rfl sc__law_right.nd (di_any (d_pv 7 (pv 7))) (blkOk_by (N := N__law_right) (sc := defScope s__law_right) (own := [("_law_third", 10)]) (by decide +kernel)) (fun _ _ _ _ _ => (pg_name (i := 10) sc__law_right.nd rfl (.inl rfl))) (tg_name (by decide)) (fun _ _ _ _ _ => (dts_one (dt_eq hr (d_lenSetS (by rfl) m_len (by rfl) m_set (d_lst (da_cons (d_pv 8 (pv 8)) (da_cons (d_pv 9 (pv 9)) (da_cons (d_pv 10 (pv 10)) da_nil))))) d_int))) (fun _ _ _ _ _ => (d_tup (da_cons (d_pv 8 (pv 8)) (da_cons (d_pv 9 (pv 9)) (da_cons (d_pv 10 (pv 10)) da_nil))))))) da_nil))))))) (ds_one (ds_ret (d_and (d_eq hr (d_cb (call_repr hG (units65 hr)) lift_repr (by rfl) m_repr (by decide +kernel) (da_cons (d_fn0 n_orders hr (by decide) hG (by rfl) nx_no) da_nil)) (d_cb (call_repr hG (units65 hr)) lift_repr (by rfl) m_repr (by decide +kernel) (da_cons (d_ct call_tupleD lift_tuple (by rfl) m_tuple (by decide +kernel) (da_cons (d_pv 2 (pv 2)) da_nil)) da_nil))) (d_one (d_eq hr (GP.d_listG (GP.pim_callK ((hr.mono (by decide)).in1.in1) rfl ng_0 hr (by decide) (by rfl) rfl rfl (dk_cons d_int dk_nil)) hr.hd (by rfl) m_list) (d_fn n__law_all_cells hr (by decide) hG (by rfl) (da_cons d_int da_nil) nx_no))))))))))))))
theorem kn__law_right {f : Addr} {fd : FuncData} (Fd : FnT K "_law_right" s__law_right f fd) (g : mg "_law_right" = some (.ref f)) (n__law_all_cells : Kn P w K mg base 1 "_law_all_cells" P__law_all_cells F__law_all_cells) (n__law_both : Kn P w K mg base 5 "_law_both" P__law_both F__law_both) (n__law_take : Kn P w K mg base 1 "_law_take" P__law_take F__law_take) (n_cells : GP.KnG P w K mg base 1 "cells" P_cells F_cells) (n_orders : Kn P w K mg base 1 "orders" P_orders F_orders) (ng_0 : GP.KnGK P w K mg base 1 "cells" P_cells F_cells ["width"] [0]) (m_len : mg "len" = none) (m_list : mg "list" = none) (m_range : mg "range" = none) (m_repr : mg "repr" = none) (m_set : mg "set" = none) (m_sorted : mg "sorted" = none) (m_tuple : mg "tuple" = none) : Kn P w K mg base 6 "_law_right" P__law_right F__law_right :=
  ⟨⟨f, fd, ok__law_right Fd n__law_all_cells n__law_both n__law_take n_cells n_orders ng_0 m_len m_list m_range m_repr m_set m_sorted m_tuple, g, Fd.kp, FunD.bindsN Fd (fun _ _ _ _ _ _ us hl => match us, hl with | [_], _ => rfl), fnSeal_len fnP_len⟩⟩
/-! #### law -/
abbrev s_law : Stmt := topS 18
abbrev N_law : List Str := ["_law_script", "_law_k"]
theorem sc_law : FnScope N_law ["_law_script"] (defScope s_law) := ⟨rfl, rfl, rfl, by decide +kernel, rfl, by decide +kernel, by decide +kernel⟩
def S_law : SF := (sRet (eCallB Fall (aCons (eSeal (eLC (iRg1 (aCons (eCallB Fmax (aCons (eC (.int 1)) (aCons (eCallB Fmin (aCons (eC (.int 3)) (aCons (eCallB Flen (aCons (eVar 0) aNil)) aNil))) aNil))) aNil)) (fName 1) bYes (eSeal (eCall F__law_right (aCons (eCall F__law_pot (aCons (eVar 0) (aCons (eVar 1) aNil)) []) aNil) [])) [1])) aNil)))
def F_law : FD := fnP 2 1 S_law
abbrev P_law : List Str := ["_law_script"]
theorem ok_law {f : Addr} {fd : FuncData} (Fd : FnT K "law" s_law f fd) (n__law_pot : Kn P w K mg base 1 "_law_pot" P__law_pot F__law_pot) (n__law_right : Kn P w K mg base 6 "_law_right" P__law_right F__law_right) (m_all : mg "all" = none) (m_len : mg "len" = none) (m_max : mg "max" = none) (m_min : mg "min" = none) (m_range : mg "range" = none) : FnG P w K mg base (xrS K) 7 f fd P_law F_law := by
  exact fnG_pure Fd sc_law rfl rfl fun cdv A outer s H E hr hG => (ds_one (ds_ret (d_cb (cr_all rfl) lift_all (by rfl) m_all (by decide +kernel) (da_cons (d_seal (d_lc (own := [("_law_k", 1)]) rfl sc_law.nd (di_rg1 (by rfl) m_range (da_cons (d_cb (call_max2 rfl) lift_max (by rfl) m_max (by decide +kernel) (da_cons d_int (da_cons (d_cb (call_min2 rfl) lift_min (by rfl) m_min (by decide +kernel) (da_cons d_int (da_cons (d_cb call_len lift_len (by rfl) m_len (by decide +kernel) (da_cons (d_pv 0 (pv 0)) da_nil)) da_nil))) da_nil))) da_nil)) (blkOk_by (N := N_law) (sc := defScope s_law) (own := [("_law_k", 1)]) (by decide +kernel)) (fun _ _ _ _ _ => (pg_name (i := 1) sc_law.nd rfl (.inl rfl))) (tg_name (by decide)) (fun _ _ _ _ _ => dts_nil) (fun _ _ _ _ _ => (d_seal (d_fn n__law_right hr (by decide) hG (by rfl) (da_cons (d_fn n__law_pot hr (by decide) hG (by rfl) (da_cons (d_pv 0 (pv 0)) (da_cons (d_pv 1 (pv 1)) da_nil)) nx_no) da_nil) nx_no))))) da_nil))))
theorem kgk_0 {f : Addr} {fd : FuncData} (Fd : FnT K "cells" s_cells f fd) (g : mg "cells" = some (.ref f)) (m_range : mg "range" = none) (c_RELATIONS : Cst K mg "RELATIONS" (.tup [(.str "less"), (.str "more"), (.str "same")])) (c_SIZES : Cst K mg "SIZES" (.tup [(.str "other"), (.str "same")])) : GP.KnGK P w K mg base 1 "cells" P_cells F_cells ["width"] [0] :=
  ⟨⟨f, fd, GP.gng_of Fd sc_cells (fun _ => rfl) (GP.nc_of (by decide +kernel)) (fun cdv A_ outer L pn items hr ok => (GP.gsd_one (GP.gs_for1 ok (fun _ _ _ => GP.pic_const (by rfl) c_RELATIONS rfl) (fun _ _ _ => pg_name (i := 1) sc_cells.nd rfl (.inl rfl)) (GP.gsd_one (GP.gs_for1 ok (fun _ _ _ => GP.pic_range2 (by rfl) m_range (da_cons (d_neg (d_pv 0 (pv 0))) (da_cons (d_add (d_pv 0 (pv 0)) d_int) da_nil))) (fun _ _ _ => pg_name (i := 2) sc_cells.nd rfl (.inl rfl)) (GP.gsd_one (GP.gs_for1 ok (fun _ _ _ => GP.pic_const (by rfl) c_SIZES rfl) (fun _ _ _ => pg_name (i := 3) sc_cells.nd rfl (.inl rfl)) (GP.gsd_one (GP.gs_yield1 ok (fun _ _ _ => (d_tup (da_cons (d_pv 1 (pv 1)) (da_cons (d_pv 2 (pv 2)) (da_cons (d_pv 3 (pv 3)) da_nil)))))))))))))), g, Fd.kp, FunD.bindsKw (n := 0) Fd (fun _ _ _ _ _ _ us ws h1 h2 => match us, ws, h1, h2 with | [], [_], _, _ => rfl)⟩⟩
end
end Lw

namespace Lw
open PySem PySem.Spec L2 DM
def d_orders : He.DefD := ⟨("orders", none), "orders", "orders", defArgs s_orders, defBody s_orders, defScope s_orders, [], []⟩
def d_cells : He.DefD := ⟨("cells", none), "cells", "cells", defArgs s_cells, defBody s_cells, defScope s_cells, [], []⟩
def d__law_pot : He.DefD := ⟨("_law_pot", none), "_law_pot", "_law_pot", defArgs s__law_pot, defBody s__law_pot, defScope s__law_pot, [], []⟩
def d__law_take : He.DefD := ⟨("_law_take", none), "_law_take", "_law_take", defArgs s__law_take, defBody s__law_take, defScope s__law_take, [], []⟩
def d__law_all_cells : He.DefD := ⟨("_law_all_cells", none), "_law_all_cells", "_law_all_cells", defArgs s__law_all_cells, defBody s__law_all_cells, defScope s__law_all_cells, [], []⟩
def d__law_both : He.DefD := ⟨("_law_both", none), "_law_both", "_law_both", defArgs s__law_both, defBody s__law_both, defScope s__law_both, [], []⟩
def d__law_right : He.DefD := ⟨("_law_right", none), "_law_right", "_law_right", defArgs s__law_right, defBody s__law_right, defScope s__law_right, [], []⟩
def d_law : He.DefD := ⟨("law", none), "law", "law", defArgs s_law, defBody s_law, defScope s_law, [], []⟩
def cs : List (Str × D) := ([("NOTE", (.str "note")), ("READ", (.str "read")), ("RELATIONS", (.tup [(.str "less"), (.str "more"), (.str "same")])), ("SIZES", (.tup [(.str "other"), (.str "same")])), ("STAT", (.str "stat"))] : List (Str × D))
def fn : List He.DefD := [d_orders, d_cells, d__law_pot, d__law_take, d__law_all_cells, d__law_both, d__law_right, d_law]
def fa : List He.Fa := [He.Fa.glo "orders", He.Fa.glo "cells", He.Fa.glo "_law_pot", He.Fa.glo "_law_take", He.Fa.glo "_law_all_cells", He.Fa.glo "_law_both", He.Fa.glo "_law_right", He.Fa.glo "law", He.Fa.free "abs", He.Fa.free "all", He.Fa.free "len", He.Fa.free "list", He.Fa.free "max", He.Fa.free "min", He.Fa.free "range", He.Fa.free "repr", He.Fa.free "set", He.Fa.free "sorted", He.Fa.free "tuple"]
abbrev R : PySem.W.OpenRow := PySem.W.OpenLaw.row PySem.Challenge.rw_coarseclock_k03_orders_and_cells
abbrev hk : PySem.W.Hook := hookC 7 fa fn cs
def ob (s : PySem.W.SharedT) : AlC := obsCG 7 fa fn cs (HandSHeadRun.getT s)
theorem ob_eq (s : PySem.W.SharedT) : ob s = hk.obs s.abs := obsCG_eq (HandSHeadRun.getT_eq s)
def loose : List Str := [("NOTE" : Str), ("STAT" : Str), ("READ" : Str), ("LESS" : Str), ("MORE" : Str), ("SAME" : Str), ("OTHER" : Str), ("RELATIONS" : Str), ("SIZES" : Str), ("orders" : Str), ("cells" : Str), ("_law_pot" : Str), ("_law_take" : Str), ("_law_all_cells" : Str), ("_law_both" : Str), ("_law_right" : Str)]
theorem run (w : World) : HandSHeadRun.RunEq R (PySem.W.view R.prog [18]) hk ob 4000 loose w := by
  intro os
  kernel_rfl
end Lw

namespace Lw
open PySem PySem.Spec L2 DM
local macro_rules | `(tactic| walk_at "q") => `(tactic| try simp only [q_ok, q_okR, q_if, q_C, q_ret, q_var, q_at, q_e1, q_e2, q_call, q_callB, q_nil, q_cons, q_tup, q_lst, q_cel, q_ifexp, q_blAt, q_bOf, q_bTru, q_bAnd, q_bOr, q_bNot, q_vAnd, q_vOr, q_vNot, q_chain, q_pureS, at0, at1, at2, q_iseq, q_seqL, q_seqF, q_rg1, q_rg2, q_itup, q_tupAt, q_iany, q_anyL, q_anyF, q_anyT, q_anyS, q_meth, q_p2, q_p3, q_unpT, q_setA, q_setA0, q_rhoAt, q_contR, q_contB, q_contC, q_callK, q_oN, q_oS, q_intAt, q_cut, f_tupL, f_tupT, f_listL, f_listT, f_listCL, f_listCT, f_cutT, f_cutL, q_aftN, q_aftC, q_aftB, q_aftR, q_pr, q_mtE, q_mtV, q_lone, q_gV, q_fnV, q_mkV, q_mkS, q_fld, q_isi, isi_ii, isi_ib, isi_tt, isi_ss, q_starS, q_star, f_itT, f_itL, q_join, q_enum, q_only, q_noExN, lookF_hit, f_addN, q_tName, q_tNil, q_tCons, q_tStar,
  f_add, f_sub, f_mul, f_div, f_mod, f_pow, f_neg, f_cmp, f_abs, f_intI, f_intB, f_max, f_min, f_lenL, f_lenF, f_lenT, f_ixL, f_ixF, f_ixT, f_eqI, f_neI, f_eqB, f_neB, f_eqT, f_neT, f_isB, f_isnotB, f_truB, f_truI, f_repr0, startR, wipeR, List.map_cons, List.map_nil, List.length_cons, List.length_nil, List.cons_append, List.nil_append, List.append_nil, List.getElem?_cons_zero, List.getElem?_cons_succ, List.set_cons_zero, List.set_cons_succ, List.replicate_succ, List.replicate_zero, Nat.reduceAdd, Nat.reduceSub, Int.reduceToNat, Int.reducePow])
local macro_rules | `(tactic| walk_at "go") => `(tactic| repeat (first | rw [q_cont] | rw [q_tCons] | rw [q_tName] | rw [q_tNil] | rw [q_tStar] | rw [q_only] | rw [q_noExN] | rw [q_seq] | rw [q_snil] | ((with_reducible refine q_asg ?_); walk_at "q") | ((with_reducible refine q_sret ?_); walk_at "q") | ((with_reducible refine q_spar2 ?_); walk_at "q") | ((with_reducible refine q_spar3 ?_); walk_at "q") | ((with_reducible refine q_sunp ?_); walk_at "q") | ((with_reducible refine q_drop ?_); walk_at "q") | ((with_reducible refine q_asgT ?_); walk_at "q") | ((with_reducible refine q_noEx ?_); walk_at "q") | ((with_reducible refine q_asg2 ?_); walk_at "q") | ((with_reducible refine q_tDSubG ?_); walk_at "q") | ((with_reducible refine q_sif ?_); walk_at "q") | ((with_reducible refine q_for ?_); walk_at "q")))
local macro_rules | `(tactic| walk_at "g1") => `(tactic| repeat (first | rw [q_cont] | rw [q_tCons] | rw [q_tName] | rw [q_tNil] | rw [q_tStar] | rw [q_only] | rw [q_noExN] | rw [q_seq] | rw [q_snil] | ((with_reducible refine q_asg ?_); walk_at "q") | ((with_reducible refine q_sret ?_); walk_at "q") | ((with_reducible refine q_spar2 ?_); walk_at "q") | ((with_reducible refine q_spar3 ?_); walk_at "q") | ((with_reducible refine q_sunp ?_); walk_at "q") | ((with_reducible refine q_drop ?_); walk_at "q") | ((with_reducible refine q_asgT ?_); walk_at "q") | ((with_reducible refine q_noEx ?_); walk_at "q") | ((with_reducible refine q_asg2 ?_); walk_at "q") | ((with_reducible refine q_tDSubG ?_); walk_at "q") | ((with_reducible refine q_for ?_); walk_at "q")))

mutual
theorem apt_same : ∀ d : D, apt d d = true
  | .non => by simp [apt]
  | .bl _ => by simp [apt]
  | .int _ => by simp [apt]
  | .str _ => by simp [apt]
  | .ref _ => by simp [apt]
  | .tup xs => by unfold apt; exact apts_same xs
  | .lst xs => by unfold apt; exact apts_same xs
  | .fl xs => by unfold apt; exact apts_same xs
theorem apts_same : ∀ ds : List D, apts ds ds = true
  | [] => by simp [apts]
  | d :: r => by
    unfold apts
    rw [apt_same d, apts_same r]
    rfl
end

/-! #### the law's own cells -/
def rowBody : SF := (sDrop (eMeth isList Fext (eVar 1) (aCons (eLst (aCons (eTup (aCons (eVar 2) (aCons (eVar 3) (aCons (eC (.str "other")) aNil)))) (aCons (eTup (aCons (eVar 2) (aCons (eVar 3) (aCons (eC (.str "same")) aNil)))) aNil))) aNil)))
theorem rowBody_ok {r : Str} {w g : Int} {fs : List Cell} {ν : Store} {Q : Fl → Store → Prop} (hl : fs.length ≤ 10000)
    (h : Q (.nx [some (.int w), some (.ref ν.length), some (.str r), some (.int g)]) (ν ++ [.lst ((fs ++ two r g).map cellD)])) :
    OkS (rowBody [some (.int w), some (.ref ν.length), some (.str r), some (.int g)] (ν ++ [.lst (fs.map cellD)])) Q := by
  unfold rowBody
  have hg : (ν ++ [Ob.lst (fs.map cellD)])[ν.length]? = some (.lst (fs.map cellD)) := by simp
  walk_at "go"
  refine ⟨isList_ref hg, size_ok (by simp), size_ok (by simp), size_ok (by simp), ?_⟩
  rw [f_ext hg (by refine size_ok ?_; simp; omega)]
  walk_at "q"
  rw [List.set_append_right _ _ (by omega)]
  simp only [Nat.sub_self, List.set_cons_zero]
  rw [List.map_append] at h
  exact h
theorem rowLoop_ok {r : Str} {w : Int} {fs : List Cell} {ν : Store} {y3 : Option D} {Q : Fl → Store → Prop} (hw : 0 ≤ w ∧ w ≤ 100) (hl : fs.length ≤ 5000)
    (h : ∀ y3, Q (.nx [some (.int w), some (.ref ν.length), some (.str r), y3]) (ν ++ [.lst ((fs ++ row r (0 - w) (2 * w + 1).toNat).map cellD)])) :
    OkS (sFor (iRg2 (aCons (e2 Fsub (eC (.int 0)) (eVar 0)) (aCons (e2 Fadd (eVar 0) (eC (.int 1))) aNil))) (fName 3) rowBody [some (.int w), some (.ref ν.length), some (.str r), y3] (ν ++ [.lst (fs.map cellD)])) Q := by
  refine q_for ?_
  walk_at "q"
  refine ⟨_, _, rfl, by omega, ?_⟩
  have e : (w + 1 - (0 - w)).toNat = (2 * w + 1).toNat := by omega
  rw [e]
  generalize hn : (2 * w + 1).toNat = n at h ⊢
  refine loop_ok (fun i ρ μ' => μ' = ν ++ [.lst ((fs ++ row r (0 - w) i).map cellD)] ∧ ∃ y3, ρ = [some (.int w), some (.ref ν.length), some (.str r), y3]) (fun _ _ _ _ => rfl) ?_ ?_ ⟨by simp [row, rngI], _, rfl⟩
  · rintro i d ρ μ' ed ⟨rfl, y, rfl⟩
    obtain ⟨hi, rfl⟩ := rng_get ed
    refine ⟨_, rfl, ?_⟩
    have hlr := row_len (r := r) (lo := 0 - w) (n := i)
    refine rowBody_ok (by rw [List.length_append]; omega) ⟨?_, _, rfl⟩
    rw [row_succ, List.append_assoc]
    rfl
  · rintro ρ μ' ⟨rfl, y, rfl⟩
    rw [rng_len]
    exact h _
theorem allCells_ok {w : Int} {μ : Store} {Q : D → Store → Prop} (hp : PureS μ) (hw : 0 ≤ w ∧ w ≤ 100) (h : Q (.lst ((allC w).map cellD)) μ) : Ok (F__law_all_cells [.int w] μ) Q := by
  refine q_fseal (q_fn rfl ?_)
  unfold S__law_all_cells
  walk_at "go"
  refine ⟨size_ok (by simp), ?_⟩
  walk_at "go"
  refine ⟨size_ok (by simp), ?_⟩
  have hlr : ∀ r, (row r (0 - w) (2 * w + 1).toNat).length ≤ 500 := fun r => by rw [row_len]; omega
  refine q_loopS rfl rfl (rowLoop_ok (fs := []) hw (by simp) fun y => ?_)
  rw [q_aftN]
  refine q_loopS rfl rfl (rowLoop_ok (fs := [] ++ row "less" (0 - w) (2 * w + 1).toNat) hw (by have := hlr "less"; simp only [List.nil_append]; omega) fun y => ?_)
  rw [q_aftN]
  refine q_loopS rfl rfl (rowLoop_ok (fs := [] ++ row "less" (0 - w) (2 * w + 1).toNat ++ row "more" (0 - w) (2 * w + 1).toNat) hw (by have := hlr "less"; have := hlr "more"; simp only [List.nil_append, List.length_append]; omega) fun y => ?_)
  rw [q_aftN]
  refine q_loop0 rfl ?_
  walk_at "go"
  have e : row "less" (0 - w) (2 * w + 1).toNat ++ row "more" (0 - w) (2 * w + 1).toNat ++ row "same" (0 - w) (2 * w + 1).toNat = allC w := rfl
  rw [e]
  have tk : (μ ++ [Ob.lst ((allC w).map cellD)]).take μ.length = μ := by simp
  rw [tk]
  exact ⟨hp, _, unref_cell (by simp) (Nat.le_refl _) (noRef_cells _), h⟩

/-! #### cells(width), by the program -/
theorem fcells {w : Int} (hw : 0 ≤ w ∧ w ≤ 1000) : F_cells [.int w] = some ((allC w).map cellD) := by
  show (G_cells (startR 4 [.int w])).map (·.1) = _
  exact GP.cells_eq hw
theorem atoms1 {w : Int} : ∃ us, GP.atomsV [D.int w] = some us := ⟨_, rfl⟩
theorem allC_len {w : Int} (hw : 0 ≤ w ∧ w ≤ 10) : (allC w).length ≤ 126 := by
  unfold allC
  rw [List.length_append, List.length_append, row_len, row_len, row_len]
  omega
theorem iCells_ok {A : CM D} {ρ : Rho} {μ : Store} {w : Int} {Q : IV → Store → Prop} (hw : 0 ≤ w ∧ w ≤ 1000) (h : Ok (A ρ μ) fun d μ' => d = .int w ∧ Q ((allC w).map cellD, anyG) μ') : Ok (GP.iGen 1 F_cells (aCons A aNil) ρ μ) Q := by
  refine GP.q_iGen ?_
  rw [q_cons]
  refine h.mono ?_
  rintro d μ1 ⟨rfl, hq⟩
  rw [q_nil]
  obtain ⟨us, hu⟩ := atoms1 (w := w)
  exact ⟨us, _, hu, fcells hw, rfl, GP.tupl_cells _, hq⟩
theorem listCells_ok {A : CM D} {ρ : Rho} {μ : Store} {w : Int} {Q : D → Store → Prop} (hw : 0 ≤ w ∧ w ≤ 10) (h : Ok (A ρ μ) fun d μ' => d = .int w ∧ Q (.lst ((allC w).map cellD)) μ') : Ok (GP.eListG (GP.iGen 1 F_cells (aCons A aNil)) ρ μ) Q := by
  refine GP.q_listG (iCells_ok (w := w) (by omega) (h.mono ?_))
  rintro d μ1 ⟨rfl, hq⟩
  have := allC_len (w := w) hw
  refine ⟨rfl, rfl, size_ok ?_, hq⟩
  rw [List.length_map]
  omega
theorem ne_cell {neg : Bool} {c : Cell} {μ : Store} (h : cellOk c = true) : Feq neg (cellD c) (cellD c) μ = okR (.bl (!neg)) μ := by
  unfold cellOk at h
  rw [Bool.and_eq_true] at h
  have hs : shp 60 (cellD c) = true := by
    show (PyData.strOk c.1 && (true && (PyData.strOk c.2.2 && true))) = true
    rw [h.1, h.2]
    rfl
  rw [f_eqG hs hs (by unfold cellD; simp [apt, apts]), D.beq_rfl]
  cases neg <;> rfl

def rels3 : List Str := ["less", "more", "same"]
def sizes2 : List Str := ["other", "same"]
theorem allC_lt {w : Int} (w0 : 1 ≤ w) (w1 : w ≤ 6) : (allC w).Pairwise fun a b => ltD (cellD a) (cellD b) = true := by
  have key : ∀ w ∈ ([1, 2, 3, 4, 5, 6] : List Int), (allC w).Pairwise fun a b => ltD (cellD a) (cellD b) = true := by
    intro w hw
    simp only [List.mem_cons, List.not_mem_nil, or_false] at hw
    rcases hw with rfl | rfl | rfl | rfl | rfl | rfl <;> decide +kernel
  exact key w (by simp; omega)
theorem allC_cnt {w : Int} (w0 : 1 ≤ w) (w1 : w ≤ 6) : ((allC w).length : Int) = 6 * (2 * w + 1) := by
  have key : ∀ w ∈ ([1, 2, 3, 4, 5, 6] : List Int), ((allC w).length : Int) = 6 * (2 * w + 1) := by decide +kernel
  exact key w (by simp; omega)
theorem allC_rs {w : Int} {c : Cell} (h : c ∈ allC w) : c.1 ∈ rels3 ∧ c.2.2 ∈ sizes2 := by
  obtain ⟨h1, _, h3⟩ := allC_mem.mp h
  exact ⟨by simpa [rels3] using h1, by simpa [sizes2] using h3⟩
def cellK (c : Cell) : List Key := [.inr c.1, .inl c.2.1, .inr c.2.2]
theorem cellK_inj {a b : Cell} (h : cellK a = cellK b) : a = b := by
  obtain ⟨a1, a2, a3⟩ := a
  obtain ⟨b1, b2, b3⟩ := b
  simp only [cellK, List.cons.injEq, Sum.inr.injEq, Sum.inl.injEq] at h
  obtain ⟨rfl, rfl, rfl, _⟩ := h
  rfl
theorem rs_strOk {x : Str} (h : x ∈ rels3 ∨ x ∈ sizes2) : PyData.strOk x = true := by
  have a : (rels3.all PyData.strOk) = true := by decide +kernel
  have b : (sizes2.all PyData.strOk) = true := by decide +kernel
  exact h.elim (fun z => List.all_eq_true.mp a x z) fun z => List.all_eq_true.mp b x z
theorem cell_sort {L : List Cell} (hl : L.length ≤ 1000) (h : ∀ c ∈ L, c.1 ∈ rels3 ∧ c.2.2 ∈ sizes2) : sortOk (L.map cellD) := by
  refine ⟨by rw [List.length_map]; omega, fun x hx => ?_, fun x hx y hy => ?_⟩
  · obtain ⟨c, hc, rfl⟩ := List.mem_map.mp hx
    obtain ⟨a, b⟩ := h c hc
    refine ⟨?_, rfl⟩
    have h1 := rs_strOk (.inl a)
    have h2 := rs_strOk (.inr b)
    simp [cellD, shp, shps, h1, h2]
  · obtain ⟨c, hc, rfl⟩ := List.mem_map.mp hx
    obtain ⟨d, hd, rfl⟩ := List.mem_map.mp hy
    simp [cellD, pyD, pyDs, PySem.W.alike, PySem.W.alikeAll]
/-- the table: the drawn cells, sorted, each once -/
def tabS (w : Int) (ds : List Cell) : List Cell := (allC w).filter fun c => decide (c ∈ ds)
theorem tab_mem {w : Int} {ds : List Cell} (h : ∀ c ∈ ds, c ∈ allC w) {c : Cell} : c ∈ tabS w ds ↔ c ∈ ds := by
  unfold tabS
  rw [List.mem_filter, decide_eq_true_iff]
  exact ⟨fun z => z.2, fun z => ⟨h c z, z⟩⟩
theorem set_cells {w : Int} {ds : List Cell} {μ : Store} (hw : 1 ≤ w ∧ w ≤ 6) (hl : ds.length ≤ 90) (h : ∀ c ∈ ds, c ∈ allC w) : FsetK (.lst (ds.map cellD)) μ = okR (.lst ((tabS w ds).map cellD)) μ := by
  have ek : ∀ L : List Cell, L.map cellD = (L.map cellK).map keyT := fun L => by rw [List.map_map]; rfl
  have asc : ((tabS w ds).map cellD).Pairwise fun a b => ltD a b = true := by
    rw [List.pairwise_map]
    exact (allC_lt hw.1 hw.2).sublist List.filter_sublist
  have nd : (tabS w ds).Nodup := by
    have h := asc
    rw [List.pairwise_map] at h
    refine h.imp fun hlt e => ?_
    rw [e, ltD_irr] at hlt
    cases hlt
  have pm : ((tabS w ds).map cellD).Perm ((dedK (ds.map cellK)).map keyT) := by
    rw [ek]
    refine List.Perm.map _ ((List.perm_ext_iff_of_nodup ?_ (dedK_nd _)).mpr fun k => ?_)
    · exact List.pairwise_map.mpr (nd.imp fun hne e => hne (cellK_inj e))
    · rw [dedK_mem, List.mem_map, List.mem_map]
      constructor
      · rintro ⟨c, hc, rfl⟩
        exact ⟨c, (tab_mem h).mp hc, rfl⟩
      · rintro ⟨c, hc, rfl⟩
        exact ⟨c, (tab_mem h).mpr hc, rfl⟩
  have es : srtD ((dedK (ds.map cellK)).map keyT) = (tabS w ds).map cellD := srt_uniq pm asc
  rw [ek, f_setK (by rw [List.length_map]; exact hl) (by rw [← ek]; exact cell_sort (by omega) fun c hc => allC_rs (h c hc)) (by rw [es]; exact asc), es]
theorem rpns_le' {k B : Nat} : ∀ {xs : List D}, (∀ d ∈ xs, rpn k d ≤ B) → rpns k xs ≤ xs.length * (B + 2)
  | [], _ => by simp [rpns]
  | x :: r, h => by
    have h1 := h x List.mem_cons_self
    have h2 := rpns_le' (xs := r) fun d hd => h d (List.mem_cons_of_mem _ hd)
    simp only [rpns, List.length_cons, Nat.succ_mul]
    omega

end Lw

namespace Lw
open PySem PySem.Spec L2 DM
local macro_rules | `(tactic| walk_at "q") => `(tactic| try simp only [q_ok, q_okR, q_if, q_C, q_ret, q_var, q_at, q_e1, q_e2, q_call, q_callB, q_nil, q_cons, q_tup, q_lst, q_cel, q_ifexp, q_blAt, q_bOf, q_bTru, q_bAnd, q_bOr, q_bNot, q_vAnd, q_vOr, q_vNot, q_chain, q_pureS, at0, at1, at2, q_iseq, q_seqL, q_seqF, q_rg1, q_rg2, q_itup, q_tupAt, q_iany, q_anyL, q_anyF, q_anyT, q_anyS, q_meth, q_p2, q_p3, q_unpT, q_setA, q_setA0, q_rhoAt, q_contR, q_contB, q_contC, q_callK, q_oN, q_oS, q_intAt, q_cut, f_tupL, f_tupT, f_listL, f_listT, f_listCL, f_listCT, f_cutT, f_cutL, q_aftN, q_aftC, q_aftB, q_aftR, q_pr, q_mtE, q_mtV, q_lone, q_gV, q_fnV, q_mkV, q_mkS, q_fld, q_isi, isi_ii, isi_ib, isi_tt, isi_ss, q_starS, q_star, f_itT, f_itL, q_join, q_enum, q_only, q_noExN, lookF_hit, f_addN, q_tName, q_tNil, q_tCons, q_tStar,
  f_add, f_sub, f_mul, f_div, f_mod, f_pow, f_neg, f_cmp, f_abs, f_intI, f_intB, f_max, f_min, f_lenL, f_lenF, f_lenT, f_ixL, f_ixF, f_ixT, f_eqI, f_neI, f_eqB, f_neB, f_eqT, f_neT, f_isB, f_isnotB, f_truB, f_truI, f_repr0, startR, wipeR, List.map_cons, List.map_nil, List.length_cons, List.length_nil, List.cons_append, List.nil_append, List.append_nil, List.getElem?_cons_zero, List.getElem?_cons_succ, List.set_cons_zero, List.set_cons_succ, List.replicate_succ, List.replicate_zero, Nat.reduceAdd, Nat.reduceSub, Int.reduceToNat, Int.reducePow])
local macro_rules | `(tactic| walk_at "go") => `(tactic| repeat (first | rw [q_cont] | rw [q_tCons] | rw [q_tName] | rw [q_tNil] | rw [q_tStar] | rw [q_only] | rw [q_noExN] | rw [q_seq] | rw [q_snil] | ((with_reducible refine q_asg ?_); walk_at "q") | ((with_reducible refine q_sret ?_); walk_at "q") | ((with_reducible refine q_spar2 ?_); walk_at "q") | ((with_reducible refine q_spar3 ?_); walk_at "q") | ((with_reducible refine q_sunp ?_); walk_at "q") | ((with_reducible refine q_drop ?_); walk_at "q") | ((with_reducible refine q_asgT ?_); walk_at "q") | ((with_reducible refine q_noEx ?_); walk_at "q") | ((with_reducible refine q_asg2 ?_); walk_at "q") | ((with_reducible refine q_tDSubG ?_); walk_at "q") | ((with_reducible refine q_sif ?_); walk_at "q") | ((with_reducible refine q_for ?_); walk_at "q")))
local macro_rules | `(tactic| walk_at "g1") => `(tactic| repeat (first | rw [q_cont] | rw [q_tCons] | rw [q_tName] | rw [q_tNil] | rw [q_tStar] | rw [q_only] | rw [q_noExN] | rw [q_seq] | rw [q_snil] | ((with_reducible refine q_asg ?_); walk_at "q") | ((with_reducible refine q_sret ?_); walk_at "q") | ((with_reducible refine q_spar2 ?_); walk_at "q") | ((with_reducible refine q_spar3 ?_); walk_at "q") | ((with_reducible refine q_sunp ?_); walk_at "q") | ((with_reducible refine q_drop ?_); walk_at "q") | ((with_reducible refine q_asgT ?_); walk_at "q") | ((with_reducible refine q_noEx ?_); walk_at "q") | ((with_reducible refine q_asg2 ?_); walk_at "q") | ((with_reducible refine q_tDSubG ?_); walk_at "q") | ((with_reducible refine q_for ?_); walk_at "q")))
local macro_rules | `(tactic| walk_at "w") => `(tactic| try simp only [f_eqW, f_neW, q_okR, q_blAt, weq_advance_advance, weq_advance_set_back, weq_advance_write, weq_advance_copy_in, weq_advance_touch, weq_set_back_advance, weq_set_back_set_back, weq_set_back_write, weq_set_back_copy_in, weq_set_back_touch, weq_write_advance, weq_write_set_back, weq_write_write, weq_write_copy_in, weq_write_touch, weq_copy_in_advance, weq_copy_in_set_back, weq_copy_in_write, weq_copy_in_copy_in, weq_copy_in_touch, weq_touch_advance, weq_touch_set_back, weq_touch_write, weq_touch_copy_in, weq_touch_touch, if_true, if_false, Bool.false_eq_true, Bool.not_true, Bool.not_false])

theorem allC_78 {w : Int} (w0 : 1 ≤ w) (w1 : w ≤ 6) : (allC w).length ≤ 78 := by
  have := allC_cnt w0 w1
  omega
theorem tab_all {w : Int} : tabS w (allC w) = allC w := by
  unfold tabS
  exact List.filter_eq_self.mpr fun c hc => decide_eq_true hc
theorem cells_shp {L : List Cell} {w : Int} (h : ∀ c ∈ L, c ∈ allC w) : shps 59 (L.map cellD) = true := shps_all.mpr fun d hd => by
  obtain ⟨c, hc, rfl⟩ := List.mem_map.mp hd
  have h1 := rs_strOk (.inl (allC_rs (h c hc)).1)
  have h2 := rs_strOk (.inr (allC_rs (h c hc)).2)
  simp [cellD, shp, shps, h1, h2]
theorem cells_repr {w : Int} {μ : Store} (w0 : 1 ≤ w) (w1 : w ≤ 6) : Frepr [.lst ((allC w).map cellD)] μ = okR (.str (reprD (.lst ((allC w).map cellD)))) μ := by
  have hl := allC_78 w0 w1
  have sl : ∀ x : Str, x ∈ rels3 ∨ x ∈ sizes2 → x.length ≤ 5 := fun x hx => by
    have key : ((rels3 ++ sizes2).all fun x => decide (x.length ≤ 5)) = true := by decide +kernel
    exact of_decide_eq_true (List.all_eq_true.mp key x (List.mem_append.mpr hx))
  have r1 := rpns_le' (k := 20) (B := 300) (xs := (allC w).map cellD) fun d hd => by
    obtain ⟨c, hc, rfl⟩ := List.mem_map.mp hd
    have := sl _ (.inl (allC_rs hc).1)
    have := sl _ (.inr (allC_rs hc).2)
    simp only [cellD, rpn, rpns]; omega
  rw [List.length_map] at r1
  refine f_reprD (k := 20) ?_ (by decide) (by decide) ?_ ?_
  · exact cells_shp (w := w) fun c hc => hc
  · show smls 20 ((allC w).map cellD) = true
    refine smls_all.mpr fun d hd => ?_
    obtain ⟨c, hc, rfl⟩ := List.mem_map.mp hd
    have := (allC_mem.mp hc).2.1
    simp only [cellD, sml, smls, Bool.and_true, Bool.true_and, decide_eq_true_eq]
    omega
  · have : (allC w).length * (300 + 2) ≤ 78 * 302 := Nat.mul_le_mul_right _ hl
    simp only [rpn]
    omega
/-! #### two walks, one within the other -/
abbrev stB (μ : Store) (A B : List D) : Store := μ ++ [.lst A, .lst B]
theorem stB_a {μ : Store} {A B : List D} : (stB μ A B)[μ.length]? = some (.lst A) := by simp
theorem stB_b {μ : Store} {A B : List D} : (stB μ A B)[μ.length + 1]? = some (.lst B) := by simp
theorem setB_a {μ : Store} {A B A' : List D} : (stB μ A B).set μ.length (.lst A') = stB μ A' B := by
  rw [List.set_append_right _ _ (Nat.le_refl _)]
  simp
theorem setB_b {μ : Store} {A B B' : List D} : (stB μ A B).set (μ.length + 1) (.lst B') = stB μ A B' := by
  rw [List.set_append_right _ _ (Nat.le_succ _)]
  simp
/-- what the inner walks yield -/
def innerC (v : Int) (n : Nat) (i : Nat) : List Cell := (List.replicate i ((allC v).take n)).flatten
theorem inner_succ {v : Int} {n i : Nat} : innerC v n (i + 1) = innerC v n i ++ (allC v).take n := by
  unfold innerC
  rw [List.replicate_succ', List.flatten_append]
  simp
theorem inner_len {v : Int} {n i : Nat} (hn : n ≤ 78) (hi : i ≤ 78) : (innerC v n i).length ≤ 78 * 78 := by
  unfold innerC
  rw [PyProof.Rows.lm_len_rep_flat]
  exact Nat.mul_le_mul hi (Nat.le_trans (List.length_take_le _ _) hn)
theorem both_ok {w v : Int} {n : Nat} {μ : Store} {Q : D → Store → Prop} (hp : PureS μ) (hw : 1 ≤ w ∧ w ≤ 6) (hv : 1 ≤ v ∧ v ≤ 6) (h1 : 1 ≤ n) (h2 : n ≤ (allC v).length)
    (q : Q (.tup [.lst ((allC w).map cellD), .lst ((innerC v n (allC w).length).map cellD)]) μ) : Ok (F__law_both [.int w, .int v, .int n] μ) Q := by
  have lw := allC_78 hw.1 hw.2
  have lv := allC_78 hv.1 hv.2
  refine q_fseal (q_fn rfl ?_)
  unfold S__law_both
  rw [q_seq]
  refine q_spar2 ?_
  walk_at "q"
  refine ⟨size_ok (by decide), size_ok (by decide), ?_⟩
  rw [show (μ ++ [Ob.lst []]).length = μ.length + 1 by simp, show μ ++ [Ob.lst []] ++ [Ob.lst []] = stB μ [] [] by simp]
  rw [q_cont, q_seq]
  refine q_for (iCells_ok (w := w) (by omega) ?_)
  walk_at "q"
  refine ⟨by trivial, ?_⟩
  refine loop_ok (fun (i : Nat) (ρ : Rho) (μ' : Store) => μ' = stB μ (((allC w).take i).map cellD) ((innerC v n i).map cellD) ∧ ∃ y5 y6 y7, ρ = [some (.int w), some (.int v), some (.int n), some (.ref μ.length), some (.ref (μ.length + 1)), y5, y6, y7]) (fun _ _ _ _ => rfl) ?_ ?_ ⟨rfl, _, _, _, rfl⟩
  · rintro i d ρ μ' ed ⟨rfl, y5, y6, y7, rfl⟩
    rw [List.getElem?_map] at ed
    obtain ⟨c, hc, rfl⟩ := Option.map_eq_some_iff.mp ed
    have hi : i < (allC w).length := (List.getElem?_eq_some_iff.mp hc).1
    refine ⟨_, rfl, ?_⟩
    unfold B__law_both_1
    rw [q_seq]
    refine q_drop ?_
    walk_at "q"
    refine ⟨isList_ref stB_a, ?_⟩
    have e1 : ((allC w).take i).map cellD ++ [cellD c] = ((allC w).take (i + 1)).map cellD := by
      rw [List.take_add_one, hc]
      simp
    rw [f_app stB_a (by rw [List.length_map, List.length_take]; exact Nat.lt_of_le_of_lt (Nat.min_le_right _ _) (Nat.lt_of_le_of_lt lw (by decide))), q_okR, setB_a, e1]
    rw [q_cont, q_seq]
    refine q_asg ?_
    walk_at "q"
    rw [q_cont]
    refine q_for (iCells_ok (w := v) (by omega) ?_)
    walk_at "q"
    refine ⟨by trivial, ?_⟩
    refine loop_ok (fun (j : Nat) (ρ : Rho) (μ' : Store) => j < n ∧ μ' = stB μ (((allC w).take (i + 1)).map cellD) ((innerC v n i ++ (allC v).take j).map cellD) ∧ ∃ k y7, k = (j : Int) ∧ ρ = [some (.int w), some (.int v), some (.int n), some (.ref μ.length), some (.ref (μ.length + 1)), some (cellD c), some (.int k), y7]) (fun _ _ _ _ => rfl) ?_ ?_ ⟨h1, by simp, 0, _, rfl, rfl⟩
    · rintro j d ρ μ' ed ⟨hj, rfl, k, y7, hk, rfl⟩
      rw [List.getElem?_map] at ed
      obtain ⟨c2, hc2, rfl⟩ := Option.map_eq_some_iff.mp ed
      have hjl : j < (allC v).length := (List.getElem?_eq_some_iff.mp hc2).1
      refine ⟨_, rfl, ?_⟩
      unfold B__law_both_2
      rw [q_seq]
      refine q_asg ?_
      walk_at "q"
      rw [q_cont, q_seq]
      refine q_drop ?_
      walk_at "q"
      refine ⟨isList_ref stB_b, ?_⟩
      have e2 : (innerC v n i ++ (allC v).take j).map cellD ++ [cellD c2] = (innerC v n i ++ (allC v).take (j + 1)).map cellD := by
        rw [List.take_add_one, hc2]
        simp
      have il := inner_len (v := v) (n := n) (i := i) (by omega) (by omega)
      have jl : ((allC v).take j).length ≤ 78 := Nat.le_trans (List.length_take_le' _ _) lv
      rw [f_app stB_b (by rw [List.length_map, List.length_append]; exact Nat.lt_of_le_of_lt (Nat.add_le_add il jl) (by decide)), q_okR, setB_b, e2]
      rw [q_cont]
      refine q_sif ?_
      walk_at "q"
      by_cases hjn : k + 1 = (n : Int)
      · rw [if_pos (by simp [hjn])]
        rw [show j + 1 = n by omega, ← inner_succ]
        exact ⟨rfl, _, _, _, rfl⟩
      · rw [if_neg (by simpa using hjn), q_snil]
        exact ⟨by omega, rfl, _, _, by omega, rfl⟩
    · rintro ρ μ' ⟨hj, rfl, k, y7, hk, rfl⟩
      rw [List.length_map] at hj
      omega
  · rintro ρ μ' ⟨rfl, y5, y6, y7, rfl⟩
    rw [q_cont]
    refine q_sret ?_
    walk_at "q"
    refine ⟨size_ok (by decide), ?_⟩
    rw [List.length_map, List.take_of_length_le (Nat.le_refl _)]
    have tk : (stB μ ((allC w).map cellD) ((innerC v n (allC w).length).map cellD)).take μ.length = μ := by simp
    rw [tk]
    refine ⟨hp, _, ?_, q⟩
    show (if noRef μ.length _ = true then _ else (mapO (unref μ.length (stB μ _ _) 3) [.ref μ.length, .ref (μ.length + 1)]).map D.tup) = _
    rw [if_neg (by simp [noRef, noRefs])]
    have u1 := unref_cell (n := μ.length) (k := 2) (stB_a (μ := μ) (A := (allC w).map cellD) (B := (innerC v n (allC w).length).map cellD)) (Nat.le_refl _) (noRef_cells _)
    have u2 := unref_cell (n := μ.length) (k := 2) (stB_b (μ := μ) (A := (allC w).map cellD) (B := (innerC v n (allC w).length).map cellD)) (Nat.le_succ _) (noRef_cells _)
    simp only [mapO, u1, u2]
    rfl

end Lw

namespace Lw
open PySem PySem.Spec L2 DM
local macro_rules | `(tactic| walk_at "q") => `(tactic| try simp only [q_ok, q_okR, q_if, q_C, q_ret, q_var, q_at, q_e1, q_e2, q_call, q_callB, q_nil, q_cons, q_tup, q_lst, q_cel, q_ifexp, q_blAt, q_bOf, q_bTru, q_bAnd, q_bOr, q_bNot, q_vAnd, q_vOr, q_vNot, q_chain, q_pureS, at0, at1, at2, q_iseq, q_seqL, q_seqF, q_rg1, q_rg2, q_itup, q_tupAt, q_iany, q_anyL, q_anyF, q_anyT, q_anyS, q_meth, q_p2, q_p3, q_unpT, q_setA, q_setA0, q_rhoAt, q_contR, q_contB, q_contC, q_callK, q_oN, q_oS, q_intAt, q_cut, f_tupL, f_tupT, f_listL, f_listT, f_listCL, f_listCT, f_cutT, f_cutL, q_aftN, q_aftC, q_aftB, q_aftR, q_pr, q_mtE, q_mtV, q_lone, q_gV, q_fnV, q_mkV, q_mkS, q_fld, q_isi, isi_ii, isi_ib, isi_tt, isi_ss, q_starS, q_star, f_itT, f_itL, q_join, q_enum, q_only, q_noExN, lookF_hit, f_addN, q_tName, q_tNil, q_tCons, q_tStar,
  f_add, f_sub, f_mul, f_div, f_mod, f_pow, f_neg, f_cmp, f_abs, f_intI, f_intB, f_max, f_min, f_lenL, f_lenF, f_lenT, f_ixL, f_ixF, f_ixT, f_eqI, f_neI, f_eqB, f_neB, f_eqT, f_neT, f_isB, f_isnotB, f_truB, f_truI, f_repr0, startR, wipeR, List.map_cons, List.map_nil, List.length_cons, List.length_nil, List.cons_append, List.nil_append, List.append_nil, List.getElem?_cons_zero, List.getElem?_cons_succ, List.set_cons_zero, List.set_cons_succ, List.replicate_succ, List.replicate_zero, Nat.reduceAdd, Nat.reduceSub, Int.reduceToNat, Int.reducePow])
local macro_rules | `(tactic| walk_at "go") => `(tactic| repeat (first | rw [q_cont] | rw [q_tCons] | rw [q_tName] | rw [q_tNil] | rw [q_tStar] | rw [q_only] | rw [q_noExN] | rw [q_seq] | rw [q_snil] | ((with_reducible refine q_asg ?_); walk_at "q") | ((with_reducible refine q_sret ?_); walk_at "q") | ((with_reducible refine q_spar2 ?_); walk_at "q") | ((with_reducible refine q_spar3 ?_); walk_at "q") | ((with_reducible refine q_sunp ?_); walk_at "q") | ((with_reducible refine q_drop ?_); walk_at "q") | ((with_reducible refine q_asgT ?_); walk_at "q") | ((with_reducible refine q_noEx ?_); walk_at "q") | ((with_reducible refine q_asg2 ?_); walk_at "q") | ((with_reducible refine q_tDSubG ?_); walk_at "q") | ((with_reducible refine q_sif ?_); walk_at "q") | ((with_reducible refine q_for ?_); walk_at "q")))
local macro_rules | `(tactic| walk_at "g1") => `(tactic| repeat (first | rw [q_cont] | rw [q_tCons] | rw [q_tName] | rw [q_tNil] | rw [q_tStar] | rw [q_only] | rw [q_noExN] | rw [q_seq] | rw [q_snil] | ((with_reducible refine q_asg ?_); walk_at "q") | ((with_reducible refine q_sret ?_); walk_at "q") | ((with_reducible refine q_spar2 ?_); walk_at "q") | ((with_reducible refine q_spar3 ?_); walk_at "q") | ((with_reducible refine q_sunp ?_); walk_at "q") | ((with_reducible refine q_drop ?_); walk_at "q") | ((with_reducible refine q_asgT ?_); walk_at "q") | ((with_reducible refine q_noEx ?_); walk_at "q") | ((with_reducible refine q_asg2 ?_); walk_at "q") | ((with_reducible refine q_tDSubG ?_); walk_at "q") | ((with_reducible refine q_for ?_); walk_at "q")))
local macro_rules | `(tactic| walk_at "w") => `(tactic| try simp only [f_eqW, f_neW, q_okR, q_blAt, weq_advance_advance, weq_advance_set_back, weq_advance_write, weq_advance_copy_in, weq_advance_touch, weq_set_back_advance, weq_set_back_set_back, weq_set_back_write, weq_set_back_copy_in, weq_set_back_touch, weq_write_advance, weq_write_set_back, weq_write_write, weq_write_copy_in, weq_write_touch, weq_copy_in_advance, weq_copy_in_set_back, weq_copy_in_write, weq_copy_in_copy_in, weq_copy_in_touch, weq_touch_advance, weq_touch_set_back, weq_touch_write, weq_touch_copy_in, weq_touch_touch, if_true, if_false, Bool.false_eq_true, Bool.not_true, Bool.not_false])

def orders6 : List (List Str) := [["note", "read", "stat"], ["note", "stat", "read"], ["read", "note", "stat"], ["read", "stat", "note"], ["stat", "note", "read"], ["stat", "read", "note"]]

/-! #### orders, by the program -/
def stp3 : List Str := ["note", "read", "stat"]
theorem stp3_ok : stp3.all PyData.strOk = true := by decide +kernel
def ordR (a b : Str) : D := .tup (.str a :: .str b :: ((stp3.filter fun x => !decide (x ∈ [a, b])).map D.str))
theorem ord2_ok {a b : Str} {acc : List D} {ν : Store} {y4 : Option D} {Qf : Fl → Store → Prop} (hp : PureS ν) (ha : noRefs 0 acc = true) (hl : acc.length ≤ 1000) (h1 : PyData.strOk a = true) (h2 : PyData.strOk b = true)
    (h : Qf (.nx [some (.tup (stp3.map D.str)), some (.ref ν.length), some (.str a), some (.str b), y4]) (ν ++ [.lst (acc ++ [ordR a b])])) :
    OkS (B_orders_2 [some (.tup (stp3.map D.str)), some (.ref ν.length), some (.str a), some (.str b), y4] (ν ++ [.lst acc])) Qf := by
  unfold B_orders_2
  have hg : (ν ++ [Ob.lst acc])[ν.length]? = some (.lst acc) := by simp
  have hp2 : PureS (ν ++ [.lst acc]) := hp.app ha
  refine q_drop ?_
  rw [q_meth]
  walk_at "q"
  refine ⟨isList_ref hg, ?_⟩
  refine q_lcm D.str (fun x => !decide (x ∈ [a, b])) D.str stp3 hp2 (by simp [stp3]) ?_ ?_ ?_
  · walk_at "q"
    exact ⟨by trivial, by trivial, fun _ => rfl⟩
  · intro x o hx
    refine ⟨_, rfl, ?_, fun _ => ⟨rfl, rfl, rfl⟩⟩
    walk_at "q"
    refine ⟨size_ok (by simp), ?_⟩
    have hx' : PyData.strOk x = true := List.all_eq_true.mp stp3_ok x hx
    have := f_notinTS (ys := [a, b]) (x := x) (μ := ν ++ [Ob.lst acc] ++ [o]) (by simp [h1, h2]) hx'
    rw [show D.tup [D.str a, D.str b] = D.tup ([a, b].map D.str) from rfl, this]
    exact ⟨rfl, rfl⟩
  · rw [show itemsD (ν ++ [Ob.lst acc]) (.lst ((stp3.filter fun x => !decide (x ∈ [a, b])).map D.str)) = some ((stp3.filter fun x => !decide (x ∈ [a, b])).map D.str) from rfl]
    walk_at "q"
    refine ⟨size_ok ?_, ?_⟩
    · have := List.length_filter_le (fun x => !decide (x ∈ [a, b])) stp3
      have h3 : stp3.length = 3 := rfl
      rw [List.length_map]
      omega
    rw [f_app hg (Nat.lt_of_lt_of_le (show acc.length < 1000000 by omega) (size_ok (Nat.le_refl _)))]
    walk_at "q"
    rw [List.set_append_right _ _ (Nat.le_refl _)]
    simp only [Nat.sub_self, List.set_cons_zero]
    exact h
theorem noRef_ordR {a b : Str} : noRef 0 (ordR a b) = true := by
  show noRefs 0 ((a :: b :: stp3.filter fun x => !decide (x ∈ [a, b])).map D.str) = true
  exact noRef_strs _
theorem noRefs_app {xs ys : List D} : noRefs 0 (xs ++ ys) = (noRefs 0 xs && noRefs 0 ys) := by
  induction xs with
  | nil => simp [noRefs]
  | cons x r ih => simp [noRefs, ih, Bool.and_assoc]
theorem ord1_ok {a b c : Str} {acc : List D} {ν : Store} {y3 y4 : Option D} {Qf : Fl → Store → Prop} (hp : PureS ν) (ha : noRefs 0 acc = true) (hl : acc.length ≤ 900) (h1 : PyData.strOk a = true) (h2 : PyData.strOk b = true) (h3 : PyData.strOk c = true) (hf : (stp3.filter fun x => !(x == a)) = [b, c])
    (h : ∀ y3, Qf (.nx [some (.tup (stp3.map D.str)), some (.ref ν.length), some (.str a), y3, y4]) (ν ++ [.lst (acc ++ [ordR a b] ++ [ordR a c])])) :
    OkS (B_orders_1 [some (.tup (stp3.map D.str)), some (.ref ν.length), some (.str a), y3, y4] (ν ++ [.lst acc])) Qf := by
  unfold B_orders_1
  have hp2 : PureS (ν ++ [.lst acc]) := hp.app ha
  refine q_for ?_
  walk_at "q"
  refine q_lcm D.str (fun x => !(x == a)) D.str stp3 hp2 (by simp [stp3]) ?_ ?_ ?_
  · walk_at "q"
    exact ⟨by trivial, by trivial, fun _ => rfl⟩
  · intro x o hx
    refine ⟨_, rfl, ?_, fun _ => ⟨rfl, rfl, rfl⟩⟩
    walk_at "q"
    exact ⟨by trivial, by trivial⟩
  rw [hf]
  walk_at "q"
  refine q_loopS rfl rfl (ord2_ok hp ha (by omega) h1 h2 ?_)
  rw [q_aftN]
  refine q_loopS rfl rfl (ord2_ok hp (by rw [noRefs_app, ha]; show (noRef 0 (ordR a b) && true) = true; rw [noRef_ordR]; rfl) (by simp; omega) h1 h3 ?_)
  rw [q_aftN]
  exact q_loop0 rfl (h _)
theorem orders_ok {μ : Store} {Q : D → Store → Prop} (hp : PureS μ) (h : Q (.tup (orders6.map fun o => .tup (o.map D.str))) μ) : Ok (F_orders [] μ) Q := by
  refine q_fseal (q_fn rfl ?_)
  unfold S_orders
  rw [q_seq]
  refine q_spar2 ?_
  walk_at "q"
  refine ⟨size_ok (by simp), size_ok (by simp), ?_⟩
  rw [q_cont, q_seq]
  refine q_for ?_
  walk_at "q"
  have k : ∀ x ∈ stp3, PyData.strOk x = true := fun x hx => List.all_eq_true.mp stp3_ok x hx
  refine q_loopS rfl rfl (ord1_ok (a := "note") (b := "read") (c := "stat") (acc := []) hp rfl (by simp) (k _ (by simp [stp3])) (k _ (by simp [stp3])) (k _ (by simp [stp3])) (by decide +kernel) fun y3 => ?_)
  rw [q_aftN]
  refine q_loopS rfl rfl (ord1_ok (a := "read") (b := "note") (c := "stat") hp (by rw [noRefs_app, noRefs_app]; simp [noRefs, noRef_ordR]) (by simp) (k _ (by simp [stp3])) (k _ (by simp [stp3])) (k _ (by simp [stp3])) (by decide +kernel) fun y3 => ?_)
  rw [q_aftN]
  refine q_loopS rfl rfl (ord1_ok (a := "stat") (b := "note") (c := "read") hp (by rw [noRefs_app, noRefs_app, noRefs_app, noRefs_app]; simp [noRefs, noRef_ordR]) (by simp) (k _ (by simp [stp3])) (k _ (by simp [stp3])) (k _ (by simp [stp3])) (by decide +kernel) fun y3 => ?_)
  rw [q_aftN]
  refine q_loop0 rfl ?_
  rw [q_cont]
  refine q_sret ?_
  walk_at "q"
  have e : ([] ++ [ordR "note" "read"] ++ [ordR "note" "stat"] ++ [ordR "read" "note"] ++ [ordR "read" "stat"] ++ [ordR "stat" "note"] ++ [ordR "stat" "read"] : List D) = orders6.map fun o => .tup (o.map D.str) := by kernel_rfl
  rw [f_tupR (xs := orders6.map fun o => .tup (o.map D.str)) (by rw [← e]; simp)]
  walk_at "q"
  have tk : ∀ o : Ob, (μ ++ [o]).take μ.length = μ := fun o => by simp
  rw [tk]
  exact ⟨hp, _, unref_pure (by kernel_rfl), h⟩
theorem listCellsK_ok {Bs : CM (List D)} {ρ : Rho} {μ : Store} {w : Int} {Q : D → Store → Prop} (hw : 0 ≤ w ∧ w ≤ 10) (h : Ok (Bs ρ μ) fun es μ' => es = [.int w] ∧ Q (.lst ((allC w).map cellD)) μ') : Ok (GP.eListG (GP.iGenK 1 [0] F_cells Bs) ρ μ) Q := by
  refine GP.q_listG ?_
  unfold GP.iGenK
  rw [Ok_bind]
  refine h.mono ?_
  rintro es μ1 ⟨rfl, hq⟩
  have := allC_len (w := w) hw
  obtain ⟨us, hu⟩ := atoms1 (w := w)
  have e1 : GP.atomsV (pick [0] [D.int w]) = some us := hu
  have e2 : F_cells (pick [0] [D.int w]) = some ((allC w).map cellD) := fcells (by omega)
  simp only [e1, e2]
  have e3 : (([D.int w].length = 1 ∧ (pick [0] [D.int w]).length = 1) ∧ ((allC w).map cellD).all GP.tupl = true) := ⟨⟨rfl, rfl⟩, GP.tupl_cells _⟩
  rw [if_pos e3, q_ok]
  refine ⟨rfl, size_ok ?_, hq⟩
  rw [List.length_map]
  omega

/-! #### the law's own orders -/
def addS (a b : Str) : List D := (stp3.filter fun c => (((dedS [a, b, c]).length : Nat) : Int) == 3).map fun c => .tup [.str a, .str b, .str c]
theorem addS_len (a b : Str) : (addS a b).length ≤ 3 := by
  unfold addS
  rw [List.length_map]
  exact List.length_filter_le _ _
theorem addS_pure (a b : Str) : noRefs 0 (addS a b) = true := by
  unfold addS
  generalize stp3.filter _ = l
  induction l with
  | nil => rfl
  | cons c r ih => simpa [noRefs, noRef] using ih
theorem B3_ok {a b : Str} {fs : List D} {ν : Store} {y0 y1 y3 y4 y5 y6 y10 : Option D} {Q : Fl → Store → Prop} (hp : PureS ν) (hf : noRefs 0 fs = true) (hl : fs.length ≤ 100)
    (h : Q (.nx [y0, y1, some (.ref ν.length), y3, y4, y5, y6, some (.lst (stp3.map D.str)), some (.str a), some (.str b), y10]) (ν ++ [.lst (fs ++ addS a b)])) :
    OkS (B__law_right_3 [y0, y1, some (.ref ν.length), y3, y4, y5, y6, some (.lst (stp3.map D.str)), some (.str a), some (.str b), y10] (ν ++ [.lst fs])) Q := by
  unfold B__law_right_3
  have hg : (ν ++ [Ob.lst fs])[ν.length]? = some (.lst fs) := by simp
  have hp2 : PureS (ν ++ [.lst fs]) := hp.app hf
  refine q_drop ?_
  walk_at "q"
  refine ⟨isList_ref hg, ?_⟩
  refine q_lcm D.str (fun c => (((dedS [a, b, c]).length : Nat) : Int) == 3) (fun c => .tup [.str a, .str b, .str c]) stp3 hp2 (by simp [stp3]) ?_ ?_ ?_
  · walk_at "q"
    exact ⟨by trivial, by trivial, fun _ => rfl⟩
  · intro x o hx
    refine ⟨_, rfl, ?_, fun _ => ?_⟩
    · walk_at "q"
      refine ⟨size_ok (by decide), ?_⟩
      rw [show D.lst [D.str a, D.str b, D.str x] = D.lst (([a, b, x] : List Str).map D.str) from rfl, f_lenSetS (by simp), q_okR]
      walk_at "q"
      exact ⟨by trivial, by trivial⟩
    · walk_at "q"
      exact ⟨size_ok (by decide), by trivial, by trivial, rfl⟩
  have la := addS_len a b
  show Ok (Fext (.ref ν.length) [.lst (addS a b)] (ν ++ [Ob.lst fs])) _
  rw [f_ext hg (by refine size_ok ?_; omega)]
  walk_at "q"
  rw [List.set_append_right _ _ (Nat.le_refl _)]
  simp only [Nat.sub_self, List.set_cons_zero]
  exact h
theorem noRefs_two {xs ys : List D} (h1 : noRefs 0 xs = true) (h2 : noRefs 0 ys = true) : noRefs 0 (xs ++ ys) = true := by rw [noRefs_app, h1, h2]; rfl
theorem B2_ok {a : Str} {fs : List D} {ν : Store} {y0 y1 y3 y4 y5 y6 y9 y10 : Option D} {Q : Fl → Store → Prop} (hp : PureS ν) (hf : noRefs 0 fs = true) (hl : fs.length ≤ 50)
    (h : ∀ y9, Q (.nx [y0, y1, some (.ref ν.length), y3, y4, y5, y6, some (.lst (stp3.map D.str)), some (.str a), y9, y10]) (ν ++ [.lst (fs ++ addS a "note" ++ addS a "read" ++ addS a "stat")])) :
    OkS (B__law_right_2 [y0, y1, some (.ref ν.length), y3, y4, y5, y6, some (.lst (stp3.map D.str)), some (.str a), y9, y10] (ν ++ [.lst fs])) Q := by
  unfold B__law_right_2
  have l1 := addS_len a "note"
  have l2 := addS_len a "read"
  have p1 := addS_pure a "note"
  have p2 := addS_pure a "read"
  refine q_for ?_
  walk_at "q"
  show OkS (loop anyG (fName 9) B__law_right_3 [D.str "note", D.str "read", D.str "stat"] _ _) Q
  refine q_loopS rfl rfl (B3_ok hp hf (by omega) ?_)
  rw [q_aftN]
  refine q_loopS rfl rfl (B3_ok hp (noRefs_two hf p1) (by rw [List.length_append]; omega) ?_)
  rw [q_aftN]
  refine q_loopS rfl rfl (B3_ok hp (noRefs_two (noRefs_two hf p1) p2) (by rw [List.length_append, List.length_append]; omega) ?_)
  rw [q_aftN]
  exact q_loop0 rfl (h _)
theorem addS_eq : (([] ++ addS "note" "note" ++ addS "note" "read" ++ addS "note" "stat") ++ addS "read" "note" ++ addS "read" "read" ++ addS "read" "stat") ++ addS "stat" "note" ++ addS "stat" "read" ++ addS "stat" "stat" = orders6.map fun o => .tup (o.map D.str) := by kernel_rfl
theorem orders_repr {ν : Store} : Frepr [.tup (orders6.map fun o => .tup (o.map D.str))] ν = okR (.str (reprD (.tup (orders6.map fun o => .tup (o.map D.str))))) ν :=
  f_reprD (k := 20) (by decide +kernel) (by decide) (by decide) (by decide +kernel) (by decide +kernel)
/-! #### right -/
theorem take_ok : DrawOk F__law_take := take1_ok (by decide) (by decide) (by decide) (by decide)
theorem pool_ok : PoolOk F__law_pot := pool3_ok (by decide) (by decide) (by decide) (by decide) (by decide)
theorem right_ok : RightOk F__law_right 400 10000 := by
  intro p c μ hw hc
  have x0 := hw.x
  refine q_fseal (q_fn rfl ?_)
  unfold S__law_right
  rw [q_seq]
  refine q_for ?_
  walk_at "q"
  refine ⟨_, _, rfl, by decide, ?_⟩
  refine loop_ok (fun (i : Nat) (ρ : Rho) (μ' : Store) => μ' = μ ∧ ∃ y1 y2, ρ = [some (.ref p), y1, y2, none, none, none, none, none, none, none, none]) (fun _ _ _ _ => rfl) ?_ ?_ ⟨rfl, _, _, rfl⟩
  · rintro i d ρ μ' ed ⟨rfl, y1, y2, rfl⟩
    obtain ⟨hi, rfl⟩ := rng_get ed
    have hi : i < 6 := by simpa using hi
    obtain ⟨w, hwd⟩ : ∃ w : Int, w = 1 + (i : Int) := ⟨_, rfl⟩
    rw [← hwd]
    have w0 : 1 ≤ w := by omega
    have w1 : w ≤ 6 := by omega
    have l78 := allC_78 w0 w1
    refine ⟨_, rfl, ?_⟩
    unfold B__law_right_1
    rw [q_seq]
    refine q_asg ?_
    walk_at "q"
    refine allCells_ok hw.pure (by omega) ?_
    rw [q_cont]
    refine q_sif ?_
    walk_at "q"
    refine listCells_ok (w := w) (by omega) ?_
    walk_at "q"
    refine ⟨by trivial, ?_⟩
    rw [cells_repr w0 w1, q_okR]
    walk_at "q"
    rw [cells_repr w0 w1]
    walk_at "q"
    rw [if_neg (by simp)]
    rw [set_cells ⟨w0, w1⟩ (by omega) (fun c hc => hc), q_okR, tab_all]
    have hsh : shp 60 (.lst ((allC w).map cellD)) = true := cells_shp (w := w) fun c hc => hc
    rw [f_neD hsh hsh (apt_same _), q_okR]
    walk_at "q"
    rw [if_neg (by simp)]
    have hcnt := allC_cnt w0 w1
    walk_at "q"
    refine ⟨.inl (by decide), .inl (by decide), ?_⟩
    rw [if_neg (by simp [hcnt]), q_snil]
    exact ⟨rfl, _, _, rfl⟩
  rintro ρ μ' ⟨rfl, y1, y2, rfl⟩
  rw [q_cont, q_seq]
  refine q_spar2 ?_
  walk_at "q"
  refine (take_ok.x (n := 6) x0 (by omega) (by omega) (by omega)).mono ?_
  rintro d1 μ1 ⟨r1, rfl, r10, r11, x1⟩
  walk_at "q"
  refine (take_ok.x (n := 6) x1 (by omega) (by omega) (by omega)).mono ?_
  rintro d2 μ2 ⟨r2, rfl, r20, r21, x2⟩
  walk_at "q"
  obtain ⟨w, hwd⟩ : ∃ w : Int, w = 1 + r1 := ⟨_, rfl⟩
  obtain ⟨v, hvd⟩ : ∃ v : Int, v = 1 + r2 := ⟨_, rfl⟩
  rw [← hwd, ← hvd]
  have w0 : 1 ≤ w := by omega
  have w1 : w ≤ 6 := by omega
  have v0 : 1 ≤ v := by omega
  have v1 : v ≤ 6 := by omega
  have lw := allC_78 w0 w1
  have lv := allC_78 v0 v1
  have hcw := allC_cnt w0 w1
  have hcv := allC_cnt v0 v1
  rw [q_cont, q_seq]
  refine q_asg ?_
  walk_at "q"
  refine ⟨.inl (by decide), .inl (by decide), ?_⟩
  refine (take_ok.x (n := 6 * (2 * v + 1)) x2 (by omega) (by omega) (Int.lt_of_le_of_lt (show 6 * (2 * v + 1) ≤ 78 by omega) (by decide))).mono ?_
  rintro d3 μ3 ⟨r3, rfl, r30, r31, x3⟩
  walk_at "q"
  obtain ⟨n, hn⟩ : ∃ n : Nat, (n : Int) = 1 + r3 := ⟨(1 + r3).toNat, by omega⟩
  rw [← hn]
  have hp3 : PureS μ3 := x3.wd.pure
  rw [q_cont, q_seq]
  refine q_sunp ?_
  walk_at "q"
  refine both_ok hp3 ⟨w0, w1⟩ ⟨v0, v1⟩ (by omega) (by omega) ?_
  walk_at "q"
  rw [q_cont, q_seq]
  refine q_sif ?_
  walk_at "q"
  refine allCells_ok hp3 (by omega) ?_
  have hshw : shp 60 (.lst ((allC w).map cellD)) = true := cells_shp (w := w) fun c hc => hc
  rw [f_neD hshw hshw (apt_same _), q_okR]
  walk_at "q"
  rw [if_neg (by simp)]
  refine allCells_ok hp3 (by omega) ?_
  walk_at "q"
  have eM : (List.replicate (((allC w).length : Nat) : Int).toNat (((allC v).map cellD).take n)).flatten = (innerC v n (allC w).length).map cellD := by
    unfold innerC
    rw [List.map_flatten, List.map_replicate, List.map_take, Int.toNat_natCast]
  have lt : (((allC v).map cellD).take n).length ≤ 78 := by
    rw [List.length_take, List.length_map]
    exact Nat.le_trans (Nat.min_le_right _ _) lv
  rw [cut_take, List.length_map, f_mulLN ⟨by omega, by omega, by omega⟩, q_okR, eM]
  have hshi : shp 60 (.lst ((innerC v n (allC w).length).map cellD)) = true := cells_shp (w := v) fun c hc => by
    unfold innerC at hc
    obtain ⟨l, hl, hcl⟩ := List.mem_flatten.mp hc
    rw [(List.mem_replicate.mp hl).2] at hcl
    exact List.mem_of_mem_take hcl
  rw [f_neD hshi hshi (apt_same _), q_okR]
  walk_at "q"
  rw [if_neg (by simp), q_snil, q_cont, q_seq]
  refine q_spar2 ?_
  walk_at "q"
  refine ⟨size_ok (by decide), size_ok (by decide), ?_⟩
  rw [q_cont, q_seq]
  refine q_for ?_
  walk_at "q"
  have p1 := fun a b => addS_pure a b
  have l1 := fun a b => addS_len a b
  have pp : ∀ {fs : List D} (a : Str), noRefs 0 fs = true → noRefs 0 (fs ++ addS a "note" ++ addS a "read" ++ addS a "stat") = true := fun a h => noRefs_two (noRefs_two (noRefs_two h (p1 _ _)) (p1 _ _)) (p1 _ _)
  have ll : ∀ (fs : List D) (a : Str), (fs ++ addS a "note" ++ addS a "read" ++ addS a "stat").length ≤ fs.length + 9 := fun fs a => by
    have := l1 a "note"
    have := l1 a "read"
    have := l1 a "stat"
    simp only [List.length_append]
    omega
  refine q_loopS rfl rfl (B2_ok (fs := []) hp3 rfl (by decide) fun y9 => ?_)
  rw [q_aftN]
  have q1 := pp (fs := []) "note" rfl
  have m1 := ll [] "note"
  rw [List.length_nil] at m1
  refine q_loopS rfl rfl (B2_ok hp3 q1 (by omega) fun y9 => ?_)
  rw [q_aftN]
  have q2 := pp "read" q1
  have m2 := ll ([] ++ addS "note" "note" ++ addS "note" "read" ++ addS "note" "stat") "read"
  refine q_loopS rfl rfl (B2_ok hp3 q2 (by omega) fun y9 => ?_)
  rw [q_aftN]
  refine q_loop0 rfl ?_
  rw [addS_eq]
  generalize hacc : (orders6.map fun o => D.tup (o.map D.str)) = acc
  have hpa : noRefs 0 acc = true := by rw [← hacc]; kernel_rfl
  have hp4 : PureS (μ3 ++ [.lst acc]) := hp3.app hpa
  have hg : (μ3 ++ [Ob.lst acc])[μ3.length]? = some (.lst acc) := by simp
  rw [q_cont]
  refine q_sret ?_
  walk_at "q"
  refine orders_ok hp4 ?_
  rw [orders_repr, q_okR]
  walk_at "q"
  rw [f_tupR (xs := acc) hg]
  walk_at "q"
  rw [← hacc, orders_repr]
  walk_at "q"
  rw [if_pos (beq_self_eq_true _), hacc]
  refine listCellsK_ok (w := 1) (by decide) ?_
  walk_at "q"
  refine ⟨by trivial, ?_⟩
  refine allCells_ok hp4 (by decide) ?_
  have hsh1 : shp 60 (.lst ((allC 1).map cellD)) = true := cells_shp (w := 1) fun c hc => hc
  rw [f_eqD hsh1 hsh1 (apt_same _), q_okR]
  have hlen : μ3.length = μ'.length := x3.fr.len
  have tk : (μ3 ++ [Ob.lst acc]).take μ'.length = μ3 := by
    rw [← hlen]
    simp
  rw [tk]
  refine ⟨hp3, _, unref_pure rfl, by simp, x3.wd.mono (by omega), x3.fr⟩
theorem law_true (ns : List Int) (_ : ns.length ≤ 63) : ∃ μ', F_law [scriptD ns] [] = some (.ok (.bl true), μ') := law2_true pool_ok right_ok (by decide) (by decide) ns

end Lw

namespace Lw
open PySem PySem.Spec L2 DM

theorem facts {P : Program} {w : World} {K : PySem.W.Frag} {h : Heap} {mg : Str → Option Value} {f : Addr} (X : K.In h) (G : h.Ns mainGlobals mg) (hfa : mg ("law" : Str) = some (.ref f)) (c : SaysC fa fn cs K) :
    ∃ fd : FuncData, (∀ (s : Shared) (v : Value), BindsTo s fd ⟨[v], []⟩ [("_law_script", v)]) ∧ ∀ base : Heap, K.In base → base.Ns mainGlobals mg → FnG P w K mg base (xrS K) 7 f fd ["_law_script"] F_law := by
  have c_NOTE : Cst K mg "NOTE" (.str "note") := conB_ok X G (c.con 0 (z := ("NOTE", (.str "note"))) rfl)
  have c_READ : Cst K mg "READ" (.str "read") := conB_ok X G (c.con 1 (z := ("READ", (.str "read"))) rfl)
  have c_RELATIONS : Cst K mg "RELATIONS" (.tup [(.str "less"), (.str "more"), (.str "same")]) := conB_ok X G (c.con 2 (z := ("RELATIONS", (.tup [(.str "less"), (.str "more"), (.str "same")]))) rfl)
  have c_SIZES : Cst K mg "SIZES" (.tup [(.str "other"), (.str "same")]) := conB_ok X G (c.con 3 (z := ("SIZES", (.tup [(.str "other"), (.str "same")]))) rfl)
  have c_STAT : Cst K mg "STAT" (.str "stat") := conB_ok X G (c.con 4 (z := ("STAT", (.str "stat"))) rfl)
  replace c := c.c
  obtain ⟨fd_orders, D_orders⟩ := c.def_ 0 (d := d_orders) rfl
  obtain ⟨fd_cells, D_cells⟩ := c.def_ 1 (d := d_cells) rfl
  obtain ⟨fd__law_pot, D__law_pot⟩ := c.def_ 2 (d := d__law_pot) rfl
  obtain ⟨fd__law_take, D__law_take⟩ := c.def_ 3 (d := d__law_take) rfl
  obtain ⟨fd__law_all_cells, D__law_all_cells⟩ := c.def_ 4 (d := d__law_all_cells) rfl
  obtain ⟨fd__law_both, D__law_both⟩ := c.def_ 5 (d := d__law_both) rfl
  obtain ⟨fd__law_right, D__law_right⟩ := c.def_ 6 (d := d__law_right) rfl
  obtain ⟨fd_law, D_law⟩ := c.def_ 7 (d := d_law) rfl
  have g_orders := He.glo_ok X G (c.fact 0 (f := .glo "orders") rfl)
  have g_cells := He.glo_ok X G (c.fact 1 (f := .glo "cells") rfl)
  have g__law_pot := He.glo_ok X G (c.fact 2 (f := .glo "_law_pot") rfl)
  have g__law_take := He.glo_ok X G (c.fact 3 (f := .glo "_law_take") rfl)
  have g__law_all_cells := He.glo_ok X G (c.fact 4 (f := .glo "_law_all_cells") rfl)
  have g__law_both := He.glo_ok X G (c.fact 5 (f := .glo "_law_both") rfl)
  have g__law_right := He.glo_ok X G (c.fact 6 (f := .glo "_law_right") rfl)
  have g_law := He.glo_ok X G (c.fact 7 (f := .glo "law") rfl)
  have m_abs := He.free_ok X G (c.fact 8 (f := .free "abs") rfl)
  have m_all := He.free_ok X G (c.fact 9 (f := .free "all") rfl)
  have m_len := He.free_ok X G (c.fact 10 (f := .free "len") rfl)
  have m_list := He.free_ok X G (c.fact 11 (f := .free "list") rfl)
  have m_max := He.free_ok X G (c.fact 12 (f := .free "max") rfl)
  have m_min := He.free_ok X G (c.fact 13 (f := .free "min") rfl)
  have m_range := He.free_ok X G (c.fact 14 (f := .free "range") rfl)
  have m_repr := He.free_ok X G (c.fact 15 (f := .free "repr") rfl)
  have m_set := He.free_ok X G (c.fact 16 (f := .free "set") rfl)
  have m_sorted := He.free_ok X G (c.fact 17 (f := .free "sorted") rfl)
  have m_tuple := He.free_ok X G (c.fact 18 (f := .free "tuple") rfl)
  have e := hfa.symm.trans g_law
  cases e
  have bl := FunD.bindsA (ps := ["_law_script"]) D_law fun _ _ _ _ _ _ us hl => match us, hl with | [_], _ => rfl
  refine ⟨fd_law, fun s v => bl s [v] rfl, fun base _ _ => ?_⟩
  have n_orders : Kn P w K mg base 1 "orders" P_orders F_orders := kn_orders D_orders g_orders m_tuple c_NOTE c_READ c_STAT
  have ng_0 : GP.KnGK P w K mg base 1 "cells" P_cells F_cells ["width"] [0] := kgk_0 D_cells g_cells m_range c_RELATIONS c_SIZES
  have n_cells : GP.KnG P w K mg base 1 "cells" P_cells F_cells := kg_cells D_cells g_cells m_range c_RELATIONS c_SIZES
  have n__law_pot : Kn P w K mg base 1 "_law_pot" P__law_pot F__law_pot := kn__law_pot D__law_pot g__law_pot m_abs m_len
  have n__law_take : Kn P w K mg base 1 "_law_take" P__law_take F__law_take := kn__law_take D__law_take g__law_take
  have n__law_all_cells : Kn P w K mg base 1 "_law_all_cells" P__law_all_cells F__law_all_cells := kn__law_all_cells D__law_all_cells g__law_all_cells m_range
  have n__law_both : Kn P w K mg base 5 "_law_both" P__law_both F__law_both := kn__law_both D__law_both g__law_both n_cells
  have n__law_right : Kn P w K mg base 6 "_law_right" P__law_right F__law_right := kn__law_right D__law_right g__law_right n__law_all_cells n__law_both n__law_take n_cells n_orders ng_0 m_len m_list m_range m_repr m_set m_sorted m_tuple
  exact ok_law D_law n__law_pot n__law_right m_all m_len m_max m_min m_range
end Lw

open PySem PySem.W PySem.Calls PyProof.Rows
set_option maxRecDepth 100000 in
set_option maxHeartbeats 0 in
theorem PySem.Challenge.cw_coarseclock_k03_orders_and_cells_holds : PySem.Challenge.rw_coarseclock_k03_orders_and_cells.Holds := by
  w_on; o_law
  refine HandSHeadRun.head_any (r := OpenLaw.row PySem.Challenge.rw_coarseclock_k03_orders_and_cells) (q := view (OpenLaw.row PySem.Challenge.rw_coarseclock_k03_orders_and_cells).prog [18]) (H := Lw.hk) (ob := Lw.ob) (M := 4000) (loose := Lw.loose) (d := HandSHeadRun.topDef (OpenLaw.row PySem.Challenge.rw_coarseclock_k03_orders_and_cells).prog 18) (kwd := []) Lw.ob_eq
    (by kernel_rfl) (fun s => by kernel_rfl) Lw.run (by kernel_rfl) (by kernel_rfl) (by kernel_rfl) (by rfl) (by first | assumption | decide +kernel) (by decide +kernel) ⟨rfl, rfl, rfl, rfl, rfl, by decide +kernel⟩ ?hw ?hc
  case hw => w_witness2
  case hc =>
    refine DM.law_end (l := PySem.Challenge.rw_coarseclock_k03_orders_and_cells) (n := 63) (k := 7) (x := "_law_script") rfl (by decide) (by kernel_rfl) ⟨rfl, by decide, by decide⟩ ?F
    intro w mg fa h Y G hmg0
    obtain ⟨K, KX, c⟩ := Y
    have hmg : mg ("law" : PySem.Str) = some (.ref fa) := by
      have e : (HandSHeadRun.topDef (OpenLaw.row PySem.Challenge.rw_coarseclock_k03_orders_and_cells).prog 18).name = ("law" : PySem.Str) := by kernel_rfl
      rw [← e]
      exact hmg0
    obtain ⟨fd, hb, hF⟩ := Lw.facts (P := (PySem.Challenge.rw_coarseclock_k03_orders_and_cells).prog) (w := w) KX G hmg c
    exact ⟨K, fd, Lw.F_law, KX, hb, Lw.law_true, hF⟩
