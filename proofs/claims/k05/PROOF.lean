import PyProof.Rows.All
import Wide.All
import OpenK.AllK
import Wide.FinOn
import HandS.ForMost
import HandS.Wide
import HandS.Style
import HandS.Flow
import HandS.Exc
import HandS.Defaults
import HandS.WordsExc
import HandS.HeadEnd
import HandS.Head0
import HandS.Head1
import HandS.HeadHook1
import HandS.HeadHook2
import HandS.TupAny
import HandS.List
import HandS.Codes
import HandS.Deep
import HandS.Strs
import HandS.Replace
import HandS.Star
import HandS.IsInst
import HandS.Small
import HandS.Property
import HandS.More
import PyProof.ReprLen
import PyProof.ReprRoads
import KE.GoesMore
import KE.GoesEnum
import KE.GoesZip
import HandS.DictComp
import KE.KUnpackStar
import HandS.Text
import HandS.MethStar
import KE.LtData
import HandS.Head2
import HandS.TryOnly
import PyProof.GenQ
import HandS.GenOver
import HandS.GenList
import HandS.ClsMeth
import HandS.WordsDict
import KE.KSuper
import HandS.Nested
import KE.SortData
import HandS.Conv
import HandS.RaiseMore
import HandS.Text
import HandS.SetFor
import HandS.More
import HandS.TupSets
import KE.SortData
import HandS.FStr
import PyProof.ListStr
import PyProof.RowDictHeap
import KE.KeyNested
import PySem.Challenge.RW_coarseclock_k05_policies_of_any_value
set_option Elab.async false
set_option linter.all false
set_option maxRecDepth 100000
set_option maxHeartbeats 4000000
set_option autoImplicit false

/-! A deterministic layer over HandS: expressions and statements denote functions on plain data (D) and a store of mutable cells. -/
namespace DM
open PySem PySem.Spec L2

inductive D where
  | non | bl (b : Bool) | int (i : Int) | str (x : Str) | tup (xs : List D) | lst (xs : List D) | fl (xs : List D) | ref (i : Nat)
instance : Inhabited D := ⟨.non⟩
inductive Ob where
  | lst (xs : List D) | obj (C : Str) (fs : List (Str × D)) | dct (kvs : List (Key × D)) | dcl (kvs : List (Key × D)) | dtt (kvs : List (List Key × D))
  | exc (C : Str) (fs : List (Str × D)) | tab (x : Str) | dnk (kvs : List (List D × D))
abbrev Store := List Ob
abbrev Rho := List (Option D)
structure Ex where
  cls : Str
  fs : List (Str × D)

/-! ### equality of data -/
mutual
def D.beq : D → D → Bool
  | .non, .non => true
  | .bl a, .bl b => a == b
  | .int a, .int b => a == b
  | .str a, .str b => a == b
  | .tup a, .tup b => beqs a b
  | .lst a, .lst b => beqs a b
  | .fl a, .fl b => beqs a b
  | .ref a, .ref b => a == b
  | _, _ => false
def beqs : List D → List D → Bool
  | [], [] => true
  | a :: r, b :: t => a.beq b && beqs r t
  | _, _ => false
end
mutual
theorem D.beq_eq : ∀ a b : D, a.beq b = true → a = b
  | .non, b, h => by cases b <;> simp_all [D.beq]
  | .bl a, b, h => by cases b <;> simp_all [D.beq]
  | .int a, b, h => by cases b <;> simp_all [D.beq]
  | .str a, b, h => by cases b <;> simp_all [D.beq]
  | .tup a, b, h => by cases b <;> simp_all [D.beq]; exact beqs_eq _ _ h
  | .lst a, b, h => by cases b <;> simp_all [D.beq]; exact beqs_eq _ _ h
  | .fl a, b, h => by cases b <;> simp_all [D.beq]; exact beqs_eq _ _ h
  | .ref a, b, h => by cases b <;> simp_all [D.beq]
theorem beqs_eq : ∀ a b : List D, beqs a b = true → a = b
  | [], b, h => by cases b <;> simp_all [beqs]
  | x :: r, b, h => by
    cases b with
    | nil => simp [beqs] at h
    | cons y t =>
      simp only [beqs, Bool.and_eq_true] at h
      rw [D.beq_eq x y h.1, beqs_eq r t h.2]
end
mutual
theorem D.beq_rfl : ∀ a : D, a.beq a = true
  | .non => rfl
  | .bl a => by simp [D.beq]
  | .int a => by simp [D.beq]
  | .str a => by simp [D.beq]
  | .tup a => by simp only [D.beq]; exact beqs_rfl a
  | .lst a => by simp only [D.beq]; exact beqs_rfl a
  | .fl a => by simp only [D.beq]; exact beqs_rfl a
  | .ref a => by simp [D.beq]
theorem beqs_rfl : ∀ a : List D, beqs a a = true
  | [] => rfl
  | x :: r => by simp only [beqs, D.beq_rfl x, beqs_rfl r, Bool.and_true]
end
instance : DecidableEq D := fun a b => if h : a.beq b = true then .isTrue (D.beq_eq a b h) else .isFalse (fun e => h (by rw [e]; exact D.beq_rfl b))

/-! ### the worlds' relation -/
/-- a tuple: made here (its object is known, it has no dict), or written -/
def TupAt (K : PySem.W.Frag) (ι : List Addr) (H : Hp) (a : Addr) (vs : List V) : Prop :=
  ((∃ o, H a = some (.frz o (.tup vs)) ∧ o.dict = none) ∧ a ∉ ι) ∨
    (∃ (o : Obj) (its : Array Value) (n : Nat), K.lookup a = some o ∧ o.cls = .type "tuple" ∧ o.dict = none ∧ o.data = .seq its n ∧ its.size ≤ sizeLine ∧ Vals vs its.toList) ∨
    (H a = some (.tup vs) ∧ a ∉ ι ∧ ∃ i, V.int i ∈ vs)
/-- a list that nobody changes any more -/
def LstAt (ι : List Addr) (H : Hp) (a : Addr) (vs : List V) : Prop := H a = some (.lst vs) ∧ a ∉ ι
/-- the script, or a list of the module's -/
def FlAt (K : PySem.W.Frag) (ι : List Addr) (H : Hp) (a : Addr) (vs : List V) : Prop :=
  ((∃ o, H a = some (.frz o (.lst vs))) ∧ a ∉ ι) ∨
    ∃ (o : Obj) (its : Array Value) (n : Nat), K.lookup a = some o ∧ o.cls = .type "list" ∧ o.dict = none ∧ o.data = .seq its n ∧ its.size ≤ sizeLine ∧ Vals vs its.toList
theorem TupAt.sq {K : PySem.W.Frag} {ι : List Addr} {H : Hp} {a : Addr} {vs : List V} (h : TupAt K ι H a vs) : SqT K H a vs := by
  rcases h with ⟨⟨o, h, _⟩, _⟩ | ⟨o, its, n, h1, h2, _, h3⟩ | ⟨h, _⟩
  · exact .inl (.inr ⟨o, h⟩)
  · exact .inr ⟨o, its, n, h1, h2, h3⟩
  · exact .inl (.inl h)
theorem LstAt.sq {K : PySem.W.Frag} {ι : List Addr} {H : Hp} {a : Addr} {vs : List V} (h : LstAt ι H a vs) : SqL K H a vs := .inl (.inl h.1)
theorem FlAt.sq {K : PySem.W.Frag} {ι : List Addr} {H : Hp} {a : Addr} {vs : List V} (h : FlAt K ι H a vs) : SqL K H a vs := h.elim (fun z => .inl (.inr z.1)) .inr
mutual
inductive VR (K : PySem.W.Frag) (ι : List Addr) (H : Hp) : V → D → Prop
  | non : VR K ι H .non .non
  | bl (b : Bool) : VR K ι H (.bl b) (.bl b)
  | int (i : Int) : VR K ι H (.int i) (.int i)
  | str (x : Str) : VR K ι H (.str x) (.str x)
  | tup {a : Addr} {vs : List V} {ds : List D} (h : TupAt K ι H a vs) (r : VRs K ι H vs ds) : VR K ι H (.ref a) (.tup ds)
  | lst {a : Addr} {vs : List V} {ds : List D} (h : LstAt ι H a vs) (r : VRs K ι H vs ds) : VR K ι H (.ref a) (.lst ds)
  | fl {a : Addr} {vs : List V} {ds : List D} (h : FlAt K ι H a vs) (r : VRs K ι H vs ds) : VR K ι H (.ref a) (.fl ds)
  | ref {a : Addr} {i : Nat} (h : ι[i]? = some a) : VR K ι H (.ref a) (.ref i)
inductive VRs (K : PySem.W.Frag) (ι : List Addr) (H : Hp) : List V → List D → Prop
  | nil : VRs K ι H [] []
  | cons {v : V} {d : D} {vs : List V} {ds : List D} (h : VR K ι H v d) (r : VRs K ι H vs ds) : VRs K ι H (v :: vs) (d :: ds)
end
structure Le (ι : List Addr) (H : Hp) (ι' : List Addr) (H' : Hp) : Prop where
  pre : ∀ (i : Nat) a, ι[i]? = some a → ι'[i]? = some a
  new : ∀ a, a ∈ ι' → a ∉ ι → H a = none
  keep : ∀ a o, a ∉ ι → H a = some o → H' a = some o
  frz : ∀ a o u, H a = some (.frz o u) → H' a = some (.frz o u)
theorem Le.refl (ι : List Addr) (H : Hp) : Le ι H ι H := ⟨fun _ _ h => h, fun _ h n => absurd h n, fun _ _ _ h => h, fun _ _ _ h => h⟩
theorem Le.out {ι ι' : List Addr} {H H' : Hp} (l : Le ι H ι' H') {a : Addr} {o : HO} (n : a ∉ ι) (h : H a = some o) : a ∉ ι' := fun m => by
  rw [l.new a m n] at h; cases h
theorem Le.trans {ι ι1 ι2 : List Addr} {H H1 H2 : Hp} (l : Le ι H ι1 H1) (m : Le ι1 H1 ι2 H2) : Le ι H ι2 H2 := by
  refine ⟨fun i a h => m.pre i a (l.pre i a h), fun a h n => ?_, fun a o n h => m.keep a o (l.out n h) (l.keep a o n h), fun a o u h => m.frz a o u (l.frz a o u h)⟩
  by_cases z : a ∈ ι1
  · exact l.new a z n
  · cases e : H a with
    | none => rfl
    | some o =>
      have q := l.keep a o n e
      rw [m.new a h z] at q; cases q
theorem TupAt.mono {K : PySem.W.Frag} {ι ι' : List Addr} {H H' : Hp} {a : Addr} {vs : List V} (l : Le ι H ι' H') (h : TupAt K ι H a vs) : TupAt K ι' H' a vs := by
  rcases h with ⟨⟨o, h, d⟩, n⟩ | h | ⟨h, n, q⟩
  · exact .inl ⟨⟨o, l.keep _ _ n h, d⟩, l.out n h⟩
  · exact .inr (.inl h)
  · exact .inr (.inr ⟨l.keep _ _ n h, l.out n h, q⟩)
theorem LstAt.mono {ι ι' : List Addr} {H H' : Hp} {a : Addr} {vs : List V} (l : Le ι H ι' H') (h : LstAt ι H a vs) : LstAt ι' H' a vs := ⟨l.keep _ _ h.2 h.1, l.out h.2 h.1⟩
theorem FlAt.mono {K : PySem.W.Frag} {ι ι' : List Addr} {H H' : Hp} {a : Addr} {vs : List V} (l : Le ι H ι' H') (h : FlAt K ι H a vs) : FlAt K ι' H' a vs := by
  rcases h with ⟨⟨o, h⟩, n⟩ | h
  · exact .inl ⟨⟨o, l.keep _ _ n h⟩, l.out n h⟩
  · exact .inr h
mutual
theorem VR.mono {K : PySem.W.Frag} {ι ι' : List Addr} {H H' : Hp} (l : Le ι H ι' H') : ∀ {v : V} {d : D}, VR K ι H v d → VR K ι' H' v d
  | _, _, .non => .non
  | _, _, .bl b => .bl b
  | _, _, .int i => .int i
  | _, _, .str x => .str x
  | _, _, .tup h r => .tup (h.mono l) (VRs.mono l r)
  | _, _, .lst h r => .lst (h.mono l) (VRs.mono l r)
  | _, _, .fl h r => .fl (h.mono l) (VRs.mono l r)
  | _, _, .ref h => .ref (l.pre _ _ h)
theorem VRs.mono {K : PySem.W.Frag} {ι ι' : List Addr} {H H' : Hp} (l : Le ι H ι' H') : ∀ {vs : List V} {ds : List D}, VRs K ι H vs ds → VRs K ι' H' vs ds
  | _, _, .nil => .nil
  | _, _, .cons h r => .cons (VR.mono l h) (VRs.mono l r)
end
section
variable {K : PySem.W.Frag} {ι : List Addr} {H : Hp}
theorem VRs.length : ∀ {vs : List V} {ds : List D}, VRs K ι H vs ds → vs.length = ds.length
  | _, _, .nil => rfl
  | _, _, .cons _ r => by rw [List.length_cons, List.length_cons, VRs.length r]
theorem VRs.get : ∀ {vs : List V} {ds : List D} {i : Nat} {d : D}, VRs K ι H vs ds → ds[i]? = some d → ∃ v, vs[i]? = some v ∧ VR K ι H v d
  | _, _, _, _, .nil, e => by simp at e
  | _, _, 0, _, .cons h _, e => by simp at e; subst e; exact ⟨_, rfl, h⟩
  | _, _, i + 1, d, .cons _ t, e => by
    obtain ⟨u, h1, h2⟩ := VRs.get (i := i) (d := d) t (by simpa using e)
    exact ⟨u, by simpa using h1, h2⟩
theorem VRs.set {v : V} {d : D} (h : VR K ι H v d) : ∀ {vs : List V} {ds : List D} (i : Nat), VRs K ι H vs ds → VRs K ι H (vs.set i v) (ds.set i d)
  | _, _, _, .nil => .nil
  | _, _, 0, .cons _ t => .cons h t
  | _, _, i + 1, .cons q t => .cons q (VRs.set h i t)
theorem VRs.append : ∀ {vs ws : List V} {ds es : List D}, VRs K ι H vs ds → VRs K ι H ws es → VRs K ι H (vs ++ ws) (ds ++ es)
  | _, _, _, _, .nil, s => s
  | _, _, _, _, .cons r t, s => .cons r (VRs.append t s)
theorem VRs.take : ∀ {vs : List V} {ds : List D} (n : Nat), VRs K ι H vs ds → VRs K ι H (vs.take n) (ds.take n)
  | _, _, 0, _ => .nil
  | _, _, _ + 1, .nil => .nil
  | _, _, n + 1, .cons r t => .cons r (VRs.take n t)
theorem VRs.drop : ∀ {vs : List V} {ds : List D} (n : Nat), VRs K ι H vs ds → VRs K ι H (vs.drop n) (ds.drop n)
  | _, _, 0, r => r
  | _, _, _ + 1, .nil => .nil
  | _, _, n + 1, .cons _ t => VRs.drop n t
end
/-- an exception's object of this class, with this dict -/
def ExA (H : Hp) (a : Addr) (cls : Value) (d : Option Addr) : Prop := ∃ (oe : Obj) (vs : Array Value), H a = some (.frz oe (.ext fun h => h.get? a = some oe)) ∧ (oe.cls = cls ∧ oe.dict = d) ∧ oe.data = .fields vs
/-- the object at c is a code object of this name -/
def codO (c : Addr) (q : Str) : HO := .ext fun h => ∃ (o : Obj) (fs : Array Value) (tk : Tok), h.get? c = some o ∧ o.data = .fields fs ∧ fs[1]? = some (.str q tk)
/-- a table of code objects, all of this name, none of them a cell -/
def TabC (ι : List Addr) (H : Hp) (P : Addr) (q : Str) : Prop := ∃ ps : Array Value, H P = some (.tbl ps) ∧ TriplesOk ps.toList ∧ ∀ (pos : Pos) (cv : Value), codeAmong pos ps.toList = some cv → ∃ c, cv = .ref c ∧ H c = some (codO c q) ∧ c ∉ ι
/-- the table of code objects of a def of the module; its lambdas' name -/
def tabA (K : PySem.W.Frag) (x : Str) : Addr := ((PySem.W.tabIn K x).map (·.2)).getD 0
def lamQ (x : Str) : Str := x ++ PySem.Str.ofString ".<locals>." ++ "<lambda>"
/-! a dict whose keys are tuples of whole numbers, truth values and None -/
def nkD : D → NestedKey
  | .bl b => .num (if b = true then 1 else 0)
  | .int i => .num i
  | _ => .none
def nkT (ds : List D) : NestedKey := .tup (ds.map nkD)
def atomK : D → Bool
  | .non => true
  | .bl _ => true
  | .int _ => true
  | _ => false
def dnP (a : Addr) (ks : List NestedKey) (bs : List Addr) (vs : List V) : Heap → Prop := fun h => (a == sysModules) = false ∧ ∃ o es ep us, h.get? a = some o ∧ o.ExactDict ∧ o.data = .dict es ep ∧ Vals vs us ∧ ∀ (P : Program) (w : World), es.toList = (ks.zip (bs.zip us)).map (entryOfKey (nestedKind P w))
def OR (K : PySem.W.Frag) (ι : List Addr) (H : Hp) (a : Addr) : Ob → Prop
  | .lst ds => ∃ vs, H a = some (.lst vs) ∧ VRs K ι H vs ds
  | .obj C fs => ∃ dx gs, H a = some (.ins (He.ga K C) dx gs) ∧ gs.map (·.1) = fs.map (·.1) ∧ VRs K ι H (gs.map (·.2)) (fs.map (·.2)) ∧ Cls K (He.ga K C) ∧ ∀ f ∈ fs.map (·.1), NoAttr K (He.ga K C) f
  | .dct kvs => ∃ qs, H a = some (.dK qs) ∧ qs.map (·.1) = kvs.map (·.1) ∧ VRs K ι H (qs.map (·.2)) (kvs.map (·.2))
  | .dcl kvs => ∃ o qs, H a = some (.frz o (.dK qs)) ∧ qs.map (·.1) = kvs.map (·.1) ∧ VRs K ι H (qs.map (·.2)) (kvs.map (·.2))
  | .dtt kvs => ∃ qs, H a = some (.dT qs) ∧ qs.map (·.1) = kvs.map (·.1) ∧ VRs K ι H (qs.map (·.2)) (kvs.map (·.2))
  | .exc C fs => ∃ d gs, ExA H a (.ref (He.ga K C)) (some d) ∧ H d = some (.xd gs) ∧ d ∉ ι ∧ gs.map (·.1) = fs.map (·.1) ∧ VRs K ι H (gs.map (·.2)) (fs.map (·.2))
  | .tab x => a = tabA K x ∧ TabC ι H a (lamQ x)
  | .dnk kvs => ∃ bs vs, H a = some (.ext (dnP a (kvs.map fun kv => nkT kv.1) bs vs)) ∧ VRs K ι H (bs.map V.ref) (kvs.map fun kv => D.tup kv.1) ∧ VRs K ι H vs (kvs.map (·.2)) ∧ (kvs.all fun kv => kv.1.all atomK) = true ∧ (kvs.map fun kv => nkT kv.1).Nodup
theorem OR.mkL {K : PySem.W.Frag} {ι : List Addr} {H : Hp} {a : Addr} {vs : List V} {ds : List D} (h : H a = some (.lst vs)) (r : VRs K ι H vs ds) : OR K ι H a (.lst ds) := ⟨vs, h, r⟩
structure WF (K : PySem.W.Frag) (ι : List Addr) (μ : Store) (H : Hp) : Prop where
  len : ι.length = μ.length
  nd : ι.Nodup
  ob : ∀ (i : Nat) a o, ι[i]? = some a → μ[i]? = some o → OR K ι H a o
theorem OR.has {K : PySem.W.Frag} {ι : List Addr} {H : Hp} {a : Addr} {o : Ob} (h : OR K ι H a o) : ∃ u, H a = some u := by
  cases o with
  | lst ds => obtain ⟨vs, e, _⟩ := h; exact ⟨_, e⟩
  | obj C fs => obtain ⟨dx, gs, e, _⟩ := h; exact ⟨_, e⟩
  | dct kvs => obtain ⟨qs, e, _⟩ := h; exact ⟨_, e⟩
  | dcl kvs => obtain ⟨o, qs, e, _⟩ := h; exact ⟨_, e⟩
  | dtt kvs => obtain ⟨qs, e, _⟩ := h; exact ⟨_, e⟩
  | exc C fs => obtain ⟨d, gs, ⟨_, _, e, _⟩, _⟩ := h; exact ⟨_, e⟩
  | tab tx => obtain ⟨_, ps, e, _⟩ := h; exact ⟨_, e⟩
  | dnk kvs => obtain ⟨bs, vs, e, _⟩ := h; exact ⟨_, e⟩
theorem WF.has {K : PySem.W.Frag} {ι : List Addr} {μ : Store} {H : Hp} (w : WF K ι μ H) {i : Nat} {a : Addr} (h : ι[i]? = some a) : ∃ o, μ[i]? = some o ∧ OR K ι H a o := by
  have hl : i < μ.length := by rw [← w.len]; exact (List.getElem?_eq_some_iff.mp h).1
  exact ⟨_, List.getElem?_eq_getElem hl, w.ob i a _ h (List.getElem?_eq_getElem hl)⟩
theorem WF.at {K : PySem.W.Frag} {ι : List Addr} {μ : Store} {H : Hp} (w : WF K ι μ H) {i : Nat} {o : Ob} (h : μ[i]? = some o) : ∃ a, ι[i]? = some a ∧ OR K ι H a o := by
  have hl : i < ι.length := by rw [w.len]; exact (List.getElem?_eq_some_iff.mp h).1
  exact ⟨_, List.getElem?_eq_getElem hl, w.ob i _ o (List.getElem?_eq_getElem hl) h⟩
theorem WF.out {K : PySem.W.Frag} {ι : List Addr} {μ : Store} {H : Hp} (w : WF K ι μ H) {p : Addr} (h : H p = none) : p ∉ ι := fun m => by
  obtain ⟨i, hi⟩ := List.getElem?_of_mem m
  obtain ⟨o, _, q⟩ := w.has hi
  obtain ⟨u, e⟩ := q.has
  rw [h] at e; cases e
theorem OR.mono {K : PySem.W.Frag} {ι ι' : List Addr} {H H' : Hp} {a : Addr} {o : Ob} (l : Le ι H ι' H') (e : H' a = H a) (h : OR K ι H a o) : OR K ι' H' a o := by
  cases o with
  | lst ds => obtain ⟨vs, q, r⟩ := h; exact ⟨vs, e.trans q, r.mono l⟩
  | obj C fs => obtain ⟨dx, gs, q, k, r, z⟩ := h; exact ⟨dx, gs, e.trans q, k, r.mono l, z⟩
  | dct kvs => obtain ⟨qs, q, k, r⟩ := h; exact ⟨qs, e.trans q, k, r.mono l⟩
  | dcl kvs => obtain ⟨o, qs, q, k, r⟩ := h; exact ⟨o, qs, e.trans q, k, r.mono l⟩
  | dtt kvs => obtain ⟨qs, q, k, r⟩ := h; exact ⟨qs, e.trans q, k, r.mono l⟩
  | exc C fs => obtain ⟨d, gs, ⟨oe, vs, q, z⟩, q2, n, k, r⟩ := h; exact ⟨d, gs, ⟨oe, vs, e.trans q, z⟩, l.keep _ _ n q2, l.out n q2, k, r.mono l⟩
  | tab tx => obtain ⟨z, ps, q1, q2, q3⟩ := h; exact ⟨z, ps, e.trans q1, q2, fun pos cv hc => let ⟨c, a1, a2, a3⟩ := q3 pos cv hc; ⟨c, a1, l.keep _ _ a3 a2, l.out a3 a2⟩⟩
  | dnk kvs => obtain ⟨bs, vs, q, k, r, z⟩ := h; exact ⟨bs, vs, e.trans q, k.mono l, r.mono l, z⟩
/-- a new thing at p that is no cell -/
theorem Le.laid {ι : List Addr} {H : Hp} {p : Addr} {o : HO} (h : H p = none) : Le ι H ι (upd H p o) :=
  ⟨fun _ _ h => h, fun _ h n => absurd h n, fun a o _ e => by rw [upd_ne (ne_of_none e h)]; exact e, fun a o u e => by rw [upd_ne (ne_of_none e h)]; exact e⟩
theorem WF.laid {K : PySem.W.Frag} {ι : List Addr} {μ : Store} {H : Hp} {p : Addr} {o : HO} (w : WF K ι μ H) (h : H p = none) : WF K ι μ (upd H p o) :=
  ⟨w.len, w.nd, fun i a u hi hu => (w.ob i a u hi hu).mono (Le.laid h) (upd_ne (fun e => w.out h (by rw [← e]; exact List.mem_of_getElem? hi)))⟩
/-- a new cell at p -/
theorem Le.cell {ι : List Addr} {H : Hp} {p : Addr} {o : HO} (h : H p = none) : Le ι H (ι ++ [p]) (upd H p o) := by
  refine ⟨fun i a e => ?_, fun a m n => ?_, fun a o _ e => by rw [upd_ne (ne_of_none e h)]; exact e, fun a o u e => by rw [upd_ne (ne_of_none e h)]; exact e⟩
  · rw [List.getElem?_append_left (List.getElem?_eq_some_iff.mp e).1]; exact e
  · rcases List.mem_append.mp m with z | z
    · exact absurd z n
    · rw [List.mem_singleton.mp z]; exact h
theorem WF.cell {K : PySem.W.Frag} {ι : List Addr} {μ : Store} {H : Hp} {p : Addr} {o : HO} {u : Ob} (w : WF K ι μ H) (h : H p = none) (q : OR K (ι ++ [p]) (upd H p o) p u) : WF K (ι ++ [p]) (μ ++ [u]) (upd H p o) := by
  have np := w.out h
  refine ⟨by simp [w.len], ?_, fun i a v hi hv => ?_⟩
  · rw [List.nodup_append]
    exact ⟨w.nd, by simp, fun a ha b hb e => np (by rw [List.mem_singleton.mp hb] at e; rw [← e]; exact ha)⟩
  · by_cases hl : i < ι.length
    · rw [List.getElem?_append_left hl] at hi
      rw [List.getElem?_append_left (by rw [← w.len]; exact hl)] at hv
      exact (w.ob i a v hi hv).mono (Le.cell h) (upd_ne (fun e => np (by rw [← e]; exact List.mem_of_getElem? hi)))
    · have e : i = ι.length := by
        have := (List.getElem?_eq_some_iff.mp hi).1
        simp at this; omega
      subst e
      have hi' : a = p := by simpa using hi.symm
      rw [w.len] at hv
      have hv' : v = u := by simpa using hv.symm
      subst hi'; subst hv'
      exact q
/-- a cell's content changed -/
def noFrz : HO → Bool
  | .frz _ _ => false
  | _ => true
def NF (H : Hp) (a : Addr) : Prop := ∀ o u, H a ≠ some (.frz o u)
theorem nf {H : Hp} {a : Addr} {u : HO} (e : H a = some u) (h : noFrz u = true := by rfl) : NF H a := fun o v z => by
  rw [e] at z; cases z; cases h
theorem Le.set {ι : List Addr} {H : Hp} {i : Nat} {a : Addr} {o : HO} (hi : ι[i]? = some a) (hn : NF H a) : Le ι H ι (upd H a o) := by
  refine ⟨fun _ _ h => h, fun _ h n => absurd h n, fun b u n e => ?_, fun b o' u' e => by rw [upd_ne (fun z => hn o' u' (by rw [← z]; exact e))]; exact e⟩
  have z : b ≠ a := fun z => n (by rw [z]; exact List.mem_of_getElem? hi)
  rw [upd_ne z]
  exact e
theorem WF.set {K : PySem.W.Frag} {ι : List Addr} {μ : Store} {H : Hp} {i : Nat} {a : Addr} {o : HO} {u : Ob} (w : WF K ι μ H) (hi : ι[i]? = some a) (hn : NF H a) (q : OR K ι (upd H a o) a u) : WF K ι (μ.set i u) (upd H a o) := by
  refine ⟨by simp [w.len], w.nd, fun j b v hj hv => ?_⟩
  by_cases e : i = j
  · subst e
    rw [hi] at hj
    cases hj
    have hl : i < μ.length := by rw [← w.len]; exact (List.getElem?_eq_some_iff.mp hi).1
    rw [List.getElem?_set_self hl] at hv
    cases hv
    exact q
  · rw [List.getElem?_set_ne e] at hv
    refine (w.ob j b v hj hv).mono (Le.set hi hn) (upd_ne fun z => ?_)
    subst z
    have h1 := List.getElem?_eq_some_iff.mp hi
    have h2 := List.getElem?_eq_some_iff.mp hj
    exact e ((List.getElem_inj w.nd).mp (h1.2.trans h2.2.symm))
structure SR (K : PySem.W.Frag) (ι : List Addr) (H : Hp) (σ : L2.St) (ρ : Rho) : Prop where
  len : σ.length = ρ.length
  at' : ∀ (i : Nat) (d : D), ρ[i]? = some (some d) → ∃ v, σ[i]? = some (some v) ∧ VR K ι H v d
theorem SR.mono {K : PySem.W.Frag} {ι ι' : List Addr} {H H' : Hp} {σ : L2.St} {ρ : Rho} (l : Le ι H ι' H') (s : SR K ι H σ ρ) : SR K ι' H' σ ρ :=
  ⟨s.len, fun i d h => let ⟨v, a, b⟩ := s.at' i d h; ⟨v, a, b.mono l⟩⟩
theorem SR.set {K : PySem.W.Frag} {ι : List Addr} {H : Hp} {σ : L2.St} {ρ : Rho} {v : V} {d : D} (s : SR K ι H σ ρ) (i : Nat) (h : VR K ι H v d) : SR K ι H (σ.set i (some v)) (ρ.set i (some d)) := by
  refine ⟨by simp [s.len], fun j e hj => ?_⟩
  by_cases z : i = j
  · subst z
    have hl : i < (ρ.set i (some d)).length := (List.getElem?_eq_some_iff.mp hj).1
    rw [List.length_set] at hl
    rw [List.getElem?_set_self hl] at hj
    cases hj
    exact ⟨v, List.getElem?_set_self (by rw [s.len]; exact hl), h⟩
  · rw [List.getElem?_set_ne z] at hj
    obtain ⟨w, a, b⟩ := s.at' j e hj
    exact ⟨w, by rw [List.getElem?_set_ne z]; exact a, b⟩
end DM

namespace DM
open PySem PySem.Spec L2

abbrev Res (α : Type) := Option (Except Ex α × Store)
abbrev CM (α : Type) := Rho → Store → Res α
/-- what is wanted of an exception: the exception, the cells, the slots, the heap -/
abbrev DW := Ex → List Addr → L2.St → Hp → Prop
abbrev noX : DW := fun _ _ _ _ => False
def CM.bind {α β : Type} (A : CM α) (F : α → CM β) : CM β := fun ρ μ => match A ρ μ with
  | some (.ok a, μ1) => F a ρ μ1
  | some (.error x, μ1) => some (.error x, μ1)
  | none => none
def CM.ret {α : Type} (a : α) : CM α := fun _ μ => some (.ok a, μ)
section
variable {α β γ δ : Type}
def PostG (R : List Addr → Hp → β → α → Prop) (K : PySem.W.Frag) (W : DW) (σ : L2.St) (ι : List Addr) (H : Hp) (Q : β → Hp → Prop) : Res α → Prop
  | some (.ok d, μ') => ∀ ι' H' v, Le ι H ι' H' → WF K ι' μ' H' → R ι' H' v d → Q v H'
  | some (.error x, μ') => ∀ ι' H', Le ι H ι' H' → WF K ι' μ' H' → W x ι' σ H'
  | none => False
def tG (R : List Addr → Hp → β → α → Prop) (K : PySem.W.Frag) (W : DW) (E : CM α) : L2.St → Hp → (β → Hp → Prop) → Prop := fun σ H Q =>
  ∃ ρ ι μ, SR K ι H σ ρ ∧ WF K ι μ H ∧ PostG R K W σ ι H Q (E ρ μ)
variable {R : List Addr → Hp → β → α → Prop} {R2 : List Addr → Hp → δ → γ → Prop} {K : PySem.W.Frag} {W : DW} {σ : L2.St} {ι : List Addr} {H : Hp} {Q Q' : β → Hp → Prop} {Q2 : δ → Hp → Prop} {ρ : Rho} {μ : Store}
theorem PostG.mono {r : Res α} (h : PostG R K W σ ι H Q r) (q : ∀ v H', Q v H' → Q' v H') : PostG R K W σ ι H Q' r := by
  match r, h with
  | some (.ok d, μ'), h => exact fun ι' H' v a b c => q _ _ (h ι' H' v a b c)
  | some (.error x, μ'), h => exact h
theorem PostG.from {r : Res α} {ι0 : List Addr} {H0 : Hp} (l : Le ι0 H0 ι H) (h : PostG R K W σ ι0 H0 Q r) : PostG R K W σ ι H Q r := by
  match r, h with
  | some (.ok d, μ'), h => exact fun ι' H' v a b c => h ι' H' v (l.trans a) b c
  | some (.error x, μ'), h => exact fun ι' H' a b => h ι' H' (l.trans a) b
theorem tG.mono {E : CM α} (h : tG R K W E σ H Q) (q : ∀ v H', Q v H' → Q' v H') : tG R K W E σ H Q' := by
  obtain ⟨ρ, ι, μ, a, b, c⟩ := h
  exact ⟨ρ, ι, μ, a, b, c.mono q⟩
theorem PostG.bindP {A : CM α} {F : α → CM γ} (h : PostG R2 K W σ ι H Q2 ((A.bind F) ρ μ)) :
    PostG R K W σ ι H (fun x H1 => ∃ ι1 μ1 a, Le ι H ι1 H1 ∧ WF K ι1 μ1 H1 ∧ R ι1 H1 x a ∧ PostG R2 K W σ ι1 H1 Q2 (F a ρ μ1)) (A ρ μ) := by
  unfold CM.bind at h
  match A ρ μ, h with
  | some (.ok a, μ1), h => exact fun ι' H' v l w r => ⟨ι', μ1, a, l, w, r, PostG.from l h⟩
  | some (.error x, μ1), h => exact h
theorem PostG.bind {A : CM α} {F : α → CM γ} (sr : SR K ι H σ ρ) (wf : WF K ι μ H) (h : PostG R2 K W σ ι H Q2 ((A.bind F) ρ μ)) :
    tG R K W A σ H (fun x H1 => ∃ ι1 μ1 a, Le ι H ι1 H1 ∧ WF K ι1 μ1 H1 ∧ R ι1 H1 x a ∧ PostG R2 K W σ ι1 H1 Q2 (F a ρ μ1)) := ⟨ρ, ι, μ, sr, wf, h.bindP⟩
/-- what the world answers -/
theorem PostG.ok {d : α} {v : β} {μ' : Store} {ι' : List Addr} {H' : Hp} (h : PostG R K W σ ι H Q (some (.ok d, μ'))) (l : Le ι H ι' H') (w : WF K ι' μ' H') (r : R ι' H' v d) : Q v H' := h ι' H' v l w r
theorem PostG.ok0 {d : α} {v : β} (h : PostG R K W σ ι H Q (some (.ok d, μ))) (w : WF K ι μ H) (r : R ι H v d) : Q v H := h ι H v (Le.refl _ _) w r
end
abbrev eR (K : PySem.W.Frag) := VR K
abbrev aR (K : PySem.W.Frag) := VRs K
abbrev bR : List Addr → Hp → Bool → Bool → Prop := fun _ _ a b => a = b
abbrev tE (K : PySem.W.Frag) (W : DW) (E : CM D) : TE := tG (VR K) K W E
abbrev tA (K : PySem.W.Frag) (W : DW) (E : CM (List D)) : TA := tG (VRs K) K W E
abbrev tT (K : PySem.W.Frag) (W : DW) (E : CM Bool) : TT := tG bR K W E
/-! ### weaker readings -/
end DM
namespace L2
open PySem PySem.Spec
section
variable {X : Cx}
theorem PE.imp {e : Expr} {t t' : TE} (h : PE X e t) (q : ∀ σ H Q, t' σ H Q → t σ H Q) : PE X e t' := ⟨fun pins s σ H Q I z => h.run pins s σ H Q I (q _ _ _ z)⟩
theorem PT.imp {e : Expr} {t t' : TT} (h : PT X e t) (q : ∀ σ H Q, t' σ H Q → t σ H Q) : PT X e t' := ⟨fun pins s σ H Q I z => h.run pins s σ H Q I (q _ _ _ z)⟩
theorem PW.imp {e : Expr} {t t' : TT} (h : PW X e t) (q : ∀ σ H Q, t' σ H Q → t σ H Q) : PW X e t' := ⟨fun w pins s σ H Q I z => h.run w pins s σ H Q I (q _ _ _ z)⟩
theorem PA.imp {e : List Expr} {t t' : TA} (h : PA X e t) (q : ∀ σ H Q, t' σ H Q → t σ H Q) : PA X e t' := ⟨fun p pins s σ H Q I z => h.run p pins s σ H Q I (q _ _ _ z)⟩
theorem PS.imp {e : Stmt} {t t' : TS} (h : PS X e t) (q : ∀ D σ H, t' D σ H → t D σ H) : PS X e t' := ⟨fun pins s σ H D I z => h.run pins s σ H D I (q _ _ _ z)⟩
theorem PSs.imp {e : List Stmt} {t t' : TS} (h : PSs X e t) (q : ∀ D σ H, t' D σ H → t D σ H) : PSs X e t' := ⟨fun pins s σ H D I z => h.run pins s σ H D I (q _ _ _ z)⟩
theorem PI.imp {tg e : Expr} {t t' : TI} (h : PI X tg e t) (q : ∀ σ H R, t' σ H R → t σ H R) : PI X tg e t' := ⟨fun pins s σ H R I z => h.run pins s σ H R I (q _ _ _ z)⟩
end
end L2
namespace DM
open PySem PySem.Spec L2
/-! ### names, constants -/
def eVar (i : Nat) : CM D := fun ρ μ => match ρ[i]? with
  | some (some d) => some (.ok d, μ)
  | _ => none
abbrev eC (d : D) : CM D := CM.ret d
section
variable {X : Cx} {W : DW}
theorem d_pv (i : Nat) {x : Str} {pos : Pos} (h : PE X (.Name x pos) (tVar i)) : PE X (.Name x pos) (tE X.K W (eVar i)) := h.imp fun σ H Q ⟨ρ, ι, μ, sr, wf, h⟩ => by
  unfold eVar at h
  match e : ρ[i]?, h with
  | some (some d), h =>
    obtain ⟨v, a, b⟩ := sr.at' i d e
    exact ⟨v, a, h.ok0 wf b⟩
theorem d_const {e : Expr} {v : V} {d : D} (h : PE X e (tC v)) (r : ∀ ι H, VR X.K ι H v d) : PE X e (tE X.K W (eC d)) := h.imp fun σ H Q ⟨ρ, ι, μ, sr, wf, h⟩ => PostG.ok0 h wf (r ι H)
theorem d_int {i : Int} {j : Nat} {pos : Pos} : PE X (.Constant (.int i) j pos) (tE X.K W (eC (.int i))) := d_const pe_int fun _ _ => .int i
theorem d_str {x : Str} {j : Nat} {pos : Pos} : PE X (.Constant (.str x) j pos) (tE X.K W (eC (.str x))) := d_const pe_str fun _ _ => .str x
theorem d_bl {b : Bool} {j : Nat} {pos : Pos} : PE X (.Constant (.bool b) j pos) (tE X.K W (eC (.bl b))) := d_const pe_bl fun _ _ => .bl b
theorem d_non {j : Nat} {pos : Pos} : PE X (.Constant .none j pos) (tE X.K W (eC .non)) := d_const pe_non fun _ _ => .non
end
/-! ### operators -/
def pureR (o : Option D) (μ : Store) : Res D := match o with
  | some d => some (.ok d, μ)
  | none => none
def e1 (F : D → Store → Res D) (A : CM D) : CM D := A.bind fun d _ μ => F d μ
def e2 (F : D → D → Store → Res D) (A B : CM D) : CM D := A.bind fun d => B.bind fun e _ μ => F d e μ
def Lift1 (K : PySem.W.Frag) (r : V → Hp → VK → Prop) (F : D → Store → Res D) : Prop := ∀ (W : DW) σ ι μ H x d Q, WF K ι μ H → VR K ι H x d → PostG (VR K) K W σ ι H Q (F d μ) → r x H Q
def Lift2 (K : PySem.W.Frag) (r : L2.R2) (F : D → D → Store → Res D) : Prop := ∀ (W : DW) σ ι μ H x y d e Q, WF K ι μ H → VR K ι H x d → VR K ι H y e → PostG (VR K) K W σ ι H Q (F d e μ) → r x y H Q
section
variable {X : Cx} {W : DW} {a b c : Expr} {A B C : CM D} {pos : Pos}
theorem d_bin {t : L2.R2 } {F : D → D → Store → Res D} (hF : Lift2 X.K t F) (σ : L2.St) (H : Hp) (Q : VK) (h : tE X.K W (e2 F A B) σ H Q) : tOp t (tE X.K W A) (tE X.K W B) σ H Q := by
  obtain ⟨ρ, ι, μ, sr, wf, h⟩ := h
  refine tG.mono (PostG.bind sr wf h) ?_
  rintro x H1 ⟨ι1, μ1, d, l1, w1, vx, h1⟩
  refine tG.mono (PostG.bind (sr.mono l1) w1 h1) ?_
  rintro y H2 ⟨ι2, μ2, e, l2, w2, vy, h2⟩
  exact hF W σ ι2 μ2 H2 x y d e Q w2 (vx.mono l2) vy h2
theorem d_op {op : Operator} {r : L2.R2} {F : D → D → Store → Res D} (ho : OpR X (binaryOp op) r) (hF : Lift2 X.K r F) (ha : PE X a (tE X.K W A)) (hb : PE X b (tE X.K W B)) : PE X (.BinOp a op b pos) (tE X.K W (e2 F A B)) :=
  (pe_op ho ha hb).imp (d_bin hF)
theorem d_cmp {op : CmpOp} {r : L2.R2} {F : D → D → Store → Res D} (ho : OpR X (compareOp op) r) (hF : Lift2 X.K r F) (ha : PE X a (tE X.K W A)) (hb : PE X b (tE X.K W B)) (hm : behindInMarks op b = false) : PE X (.Compare a [op] [b] pos) (tE X.K W (e2 F A B)) :=
  (pe_cmpR ho ha hb hm).imp (d_bin hF)
/-- a value that is a bool, as a test -/
def bOf (E : CM D) : CM Bool := E.bind fun d _ μ => match d with
  | .bl b => some (.ok b, μ)
  | _ => none
theorem d_bOf {Qb : Bool → Hp → Prop} {E : CM D} (σ : L2.St) (H : Hp) (h : tT X.K W (bOf E) σ H Qb) : tE X.K W E σ H (fun x H' => ∃ k, x = .bl k ∧ Qb k H') := by
  obtain ⟨ρ, ι, μ, sr, wf, h⟩ := h
  refine tG.mono (PostG.bind sr wf h) ?_
  rintro x H1 ⟨ι1, μ1, d, l1, w1, vx, h1⟩
  cases vx with
  | bl b => exact ⟨b, rfl, h1.ok0 w1 rfl⟩
  | _ => exact h1.elim
theorem dt_cmp {op : CmpOp} {r : L2.R2} {F : D → D → Store → Res D} (ho : OpR X (compareOp op) r) (hF : Lift2 X.K r F) (ha : PE X a (tE X.K W A)) (hb : PE X b (tE X.K W B)) (hm : behindInMarks op b = false) : PT X (.Compare a [op] [b] pos) (tT X.K W (bOf (e2 F A B))) :=
  (pt_cmpR ho ha hb hm).imp fun σ H Q h => d_bin hF σ H _ (d_bOf σ H h)
theorem d_un {op : UnaryOp} {r : V → Hp → VK → Prop} {F : D → Store → Res D} (ho : UnR X (unaryOp op) r) (hF : Lift1 X.K r F) (ha : PE X a (tE X.K W A)) : PE X (.UnaryOp op a pos) (tE X.K W (e1 F A)) :=
  (pe_un ho ha).imp fun σ H Q ⟨ρ, ι, μ, sr, wf, h⟩ => by
    refine tG.mono (PostG.bind sr wf h) ?_
    rintro x H1 ⟨ι1, μ1, d, l1, w1, vx, h1⟩
    exact hF W σ ι1 μ1 H1 x d Q w1 vx h1
/-- a < b < c -/
def eChain (F G : D → D → Store → Res D) (A B C : CM D) : CM D := A.bind fun d => B.bind fun e => CM.bind (fun _ μ => F d e μ) fun z => match z with
  | .bl true => C.bind fun g _ μ => G e g μ
  | .bl false => CM.ret (.bl false)
  | _ => fun _ _ => none
end
section
variable {X : Cx} {W : DW} {a b c : Expr} {A B C : CM D} {pos : Pos}
end
end DM

namespace DM
open PySem PySem.Spec L2
abbrev okR (d : D) (μ : Store) : Res D := some (.ok d, μ)
theorem PostG.guard {α β : Type} {R : List Addr → Hp → β → α → Prop} {K : PySem.W.Frag} {W : DW} {σ : L2.St} {ι : List Addr} {H : Hp} {Q : β → Hp → Prop} {c : Prop} [Decidable c] {r : Res α} (h : PostG R K W σ ι H Q (if c then r else none)) : c ∧ PostG R K W σ ι H Q r := by
  by_cases z : c
  · rw [if_pos z] at h; exact ⟨z, h⟩
  · rw [if_neg z] at h; exact h.elim
/-! ### arithmetic -/
def mulOk (i j : Int) : Prop := (-(2 ^ 64) < i ∧ i < 2 ^ 64) ∨ (-(2 ^ 64) < j ∧ j < 2 ^ 64) ∨ i.natAbs.log2 + j.natAbs.log2 < 1000000
instance (i j : Int) : Decidable (mulOk i j) := by unfold mulOk; infer_instance
def divOk (j : Int) : Prop := 0 < j ∧ j < 2 ^ 256
instance (j : Int) : Decidable (divOk j) := by unfold divOk; infer_instance
def powOk (i j : Int) : Prop := 0 ≤ j ∧ j ≤ 1000 ∧ -(2 ^ 256) < i ∧ i < 2 ^ 256
instance (i j : Int) : Decidable (powOk i j) := by unfold powOk; infer_instance
def Fadd : D → D → Store → Res D
  | .int i, .int j, μ => okR (.int (i + j)) μ
  | .str a, .str b, μ => if a.length + b.length ≤ sizeLine then okR (.str (a ++ b)) μ else none
  | .lst a, .lst b, μ => if a.length + b.length ≤ sizeLine then okR (.lst (a ++ b)) μ else none
  | .tup a, .tup b, μ => if a.length + b.length ≤ sizeLine then okR (.tup (a ++ b)) μ else none
  | _, _, _ => none
def Fsub : D → D → Store → Res D
  | .int i, .int j, μ => okR (.int (i - j)) μ
  | _, _, _ => none
def Fmul : D → D → Store → Res D
  | .int i, .int j, μ => if mulOk i j then okR (.int (i * j)) μ else none
  | .lst a, .int k, μ => if (-(2 ^ 63) ≤ k ∧ k < 2 ^ 63) ∧ a.length * k.toNat ≤ sizeLine then okR (.lst (List.replicate k.toNat a).flatten) μ else none
  | _, _, _ => none
def Fdiv : D → D → Store → Res D
  | .int i, .int j, μ => if divOk j then okR (.int (i / j)) μ else none
  | _, _, _ => none
def Fmod : D → D → Store → Res D
  | .int i, .int j, μ => if 0 < j then okR (.int (i % j)) μ else none
  | _, _, _ => none
def Fpow : D → D → Store → Res D
  | .int i, .int j, μ => if powOk i j then okR (.int (i ^ j.toNat)) μ else none
  | _, _, _ => none
def Fneg : D → Store → Res D
  | .int i, μ => okR (.int (-i)) μ
  | _, _ => none
/-- t + u of tuples, the new one's object known -/
def rCatF (K : PySem.W.Frag) : L2.R2 := fun x y H Q => ∃ a b xs ys, x = .ref a ∧ y = .ref b ∧ SqT K H a xs ∧ SqT K H b ys ∧ xs.length + ys.length ≤ sizeLine ∧
  (xs = [] → Q (.ref b) H) ∧ (ys = [] → Q (.ref a) H) ∧ (xs ≠ [] → ys ≠ [] → ∀ p o, H p = none → o.dict = none → Q (.ref p) (upd H p (.frz o (.tup (xs ++ ys)))))
def rAddD (K : PySem.W.Frag) : L2.R2 := fun x y H Q => (rI0 fun i j => V.int (i + j)) x y H Q ∨ (∃ i j, x = .str i ∧ y = .str j ∧ i.length + j.length ≤ sizeLine ∧ Q (.str (i ++ j)) H) ∨ rCat x y H Q ∨ rCatF K x y H Q
section
variable {X : Cx} {K : PySem.W.Frag}
theorem op_catF : OpR X (binaryOp .Add) (rCatF X.K) := by
  intro pins s σ H x y v u Q I rx ry h
  obtain ⟨a, b, xs, ys, rfl, rfl, ha, hb, hz, q0, q1, q2⟩ := h
  cases rx
  cases ry
  obtain ⟨us, r1, p1, _⟩ := I.tuple ha
  obtain ⟨ws, r2, p2, _⟩ := I.tuple hb
  by_cases hx : xs = []
  · subst hx
    cases r1
    exact cat_tup0 p1 p2 ⟨.ref b, H, I, rfl, q0 rfl⟩
  · refine HT.cat_tup p1 p2 (fun z => hx (r1.nil_iff.mp z)) (fun z => ⟨.ref a, H, I, rfl, q1 (r2.nil_iff.mp z)⟩) (fun z => ?_) (by rw [← r1.length, ← r2.length]; exact hz)
    refine ⟨.ref s.heap.objs.size, upd H s.heap.objs.size (.frz _ (.tup (xs ++ ys))), I.laid (t' := s.toks) (fun b ob q => Heap.get?_push_of_some _ q) (Nat.le_refl _) ⟨Heap.get?_push_size _ rfl, by rw [List.length_append]; exact hz, _, r1.append r2, PyProof.Rows.IsTup.new _ _⟩, rfl, q2 hx (fun w => z (r2.nil_iff.mpr w)) _ _ (I.hok.fresh (Nat.le_refl _)) rfl⟩
theorem op_addD : OpR X (binaryOp .Add) (rAddD X.K) := op_add.or (op_add_str.or (op_cat.or op_catF))
theorem lift_add : Lift2 K (rAddD K) Fadd := by
  intro W σ ι μ H x y d e Q w vx vy h
  cases vx with
  | int i =>
    cases vy with
    | int j => exact .inl ⟨i, j, rfl, rfl, h.ok0 w (.int _)⟩
    | _ => exact h.elim
  | str a =>
    cases vy with
    | str b =>
      obtain ⟨q, h⟩ := PostG.guard h
      exact .inr (.inl ⟨a, b, rfl, rfl, q, h.ok0 w (.str _)⟩)
    | _ => exact h.elim
  | lst ha ra =>
    cases vy with
    | lst hb rb =>
      obtain ⟨q, h⟩ := PostG.guard h
      refine .inr (.inr (.inl ⟨_, _, _, _, rfl, rfl, ha.1, hb.1, by rw [ra.length, rb.length]; exact q, fun p hp => ?_⟩))
      exact h.ok (Le.laid hp) (w.laid hp) (.lst ⟨upd_same, w.out hp⟩ ((ra.append rb).mono (Le.laid hp)))
    | _ => exact h.elim
  | tup ha ra =>
    cases vy with
    | tup hb rb =>
      obtain ⟨q, h⟩ := PostG.guard h
      refine .inr (.inr (.inr ⟨_, _, _, _, rfl, rfl, ha.sq, hb.sq, by rw [ra.length, rb.length]; exact q, fun z => ?_, fun z => ?_, fun _ _ p o hp ho => ?_⟩))
      · subst z
        cases ra
        exact h.ok0 w (.tup hb rb)
      · subst z
        cases rb
        rw [List.append_nil] at h
        exact h.ok0 w (.tup ha ra)
      · exact h.ok (Le.laid hp) (w.laid hp) (.tup (.inl ⟨⟨o, upd_same, ho⟩, w.out hp⟩) ((ra.append rb).mono (Le.laid hp)))
    | _ => exact h.elim
  | _ => exact h.elim
theorem lift_i2 {C : Int → Int → Prop} [∀ i j, Decidable (C i j)] {C' : Int → Int → Prop} {g : Int → Int → Int} {F : D → D → Store → Res D} (hi : ∀ i j μ, F (.int i) (.int j) μ = if C i j then okR (.int (g i j)) μ else none) (hn : ∀ d e μ, (∀ i j, d = .int i → e = .int j → False) → F d e μ = none) (hc : ∀ i j, C i j → C' i j) :
    Lift2 K (rI C' fun i j => .int (g i j)) F := by
  intro W σ ι μ H x y d e Q w vx vy h
  by_cases z : ∃ i j, d = .int i ∧ e = .int j
  · obtain ⟨i, j, rfl, rfl⟩ := z
    cases vx; cases vy
    rw [hi] at h
    obtain ⟨q, h⟩ := PostG.guard h
    exact ⟨i, j, rfl, rfl, hc i j q, h.ok0 w (.int _)⟩
  · rw [hn d e μ (fun i j a b => z ⟨i, j, a, b⟩)] at h
    exact h.elim
theorem lift_sub : Lift2 K (rI0 fun i j => .int (i - j)) Fsub := by
  intro W σ ι μ H x y d e Q w vx vy h
  cases vx with
  | int i =>
    cases vy with
    | int j => exact ⟨i, j, rfl, rfl, h.ok0 w (.int _)⟩
    | _ => exact h.elim
  | _ => exact h.elim
def CMulD (i j : Int) : Prop := IntMulOk i j
theorem op_mulD : OpR X (binaryOp .Mult) (rI CMulD fun i j => .int (i * j)) := opI fun _ _ _ _ _ _ _ hc q => PyProof.Rows.mul_int q hc
theorem mulOk.ok {i j : Int} (h : mulOk i j) : CMulD i j := by
  rcases h with h | h | h
  · exact CMul.ok (.inl h)
  · exact CMul.ok (.inr h)
  · exact CMulW.ok h
def rMulD : L2.R2 := fun x y H Q => (rI CMulD fun i j => V.int (i * j)) x y H Q ∨ rRep x y H Q
theorem op_mulDD : OpR X (binaryOp .Mult) rMulD := op_mulD.or op_rep
theorem VRs.rep {ι : List Addr} {H : Hp} {vs : List V} {ds : List D} (r : VRs K ι H vs ds) : ∀ n : Nat, VRs K ι H (List.replicate n vs).flatten (List.replicate n ds).flatten
  | 0 => .nil
  | n + 1 => by
    rw [List.replicate_succ, List.replicate_succ, List.flatten_cons, List.flatten_cons]
    exact r.append (VRs.rep r n)
theorem lift_mul : Lift2 K rMulD Fmul := by
  intro W σ ι μ H x y d e Q w vx vy h
  cases vx with
  | int i =>
    cases vy with
    | int j =>
      obtain ⟨q, h⟩ := PostG.guard h
      exact .inl ⟨i, j, rfl, rfl, q.ok, h.ok0 w (.int _)⟩
    | _ => exact h.elim
  | lst ha ra =>
    cases vy with
    | int k =>
      obtain ⟨q, h⟩ := PostG.guard h
      refine .inr ⟨_, k, _, rfl, rfl, ha.1, q.1.1, q.1.2, by rw [ra.length]; exact q.2, fun p hp => ?_⟩
      exact h.ok (Le.laid hp) (w.laid hp) (.lst ⟨upd_same, w.out hp⟩ ((ra.rep _).mono (Le.laid hp)))
    | _ => exact h.elim
  | _ => exact h.elim
theorem lift_div : Lift2 K (rI CDivW fun i j => .int (i / j)) Fdiv :=
  lift_i2 (C := fun _ j => divOk j) (fun _ _ _ => rfl) (fun d e μ h => by cases d <;> cases e <;> first | rfl | exact (h _ _ rfl rfl).elim) fun i j h =>
    wide_div (b := 257) h.1 (by have h1 := h.1; have h2 := h.2; omega) (by decide) (by decide)
theorem lift_mod : Lift2 K (rI (fun _ j => 0 < j) fun i j => .int (i % j)) Fmod :=
  lift_i2 (C := fun _ j => 0 < j) (fun _ _ _ => rfl) (fun d e μ h => by cases d <;> cases e <;> first | rfl | exact (h _ _ rfl rfl).elim) fun _ _ h => h
theorem op_powD : OpR X (binaryOp .Pow) (rI powOk fun i j => .int (i ^ j.toNat)) := opI fun i j _ _ _ _ _ hc q => by
  refine PyProof.Rows.pow_int hc.1 ?_ q
  have hb : Builtin.Int.intBits i ≤ 257 := by
    unfold Builtin.Int.intBits
    split
    · omega
    · have : i.natAbs.log2 < 257 := PySem.Flt.log2_lt_of (by decide) (by have h1 := hc.2.2.1; have h2 := hc.2.2.2; omega)
      omega
  have h0 := hc.1
  have h1 := hc.2.1
  have h2 : (Builtin.Int.intBits i : Int) * j ≤ 257 * 1000 := by
    have a : (Builtin.Int.intBits i : Int) ≤ 257 := by omega
    exact Int.mul_le_mul a h1 h0 (by decide)
  omega
theorem lift_pow : Lift2 K (rI powOk fun i j => .int (i ^ j.toNat)) Fpow :=
  lift_i2 (C := powOk) (fun _ _ _ => rfl) (fun d e μ h => by cases d <;> cases e <;> first | rfl | exact (h _ _ rfl rfl).elim) fun _ _ h => h
theorem lift_neg : Lift1 K (rU fun i => .int (-i)) Fneg := by
  intro W σ ι μ H x d Q w vx h
  cases vx with
  | int i => exact ⟨i, rfl, h.ok0 w (.int _)⟩
  | _ => exact h.elim
end
section
variable {X : Cx} {W : DW} {a b c : Expr} {A B C : CM D} {pos : Pos}
theorem d_add (ha : PE X a (tE X.K W A)) (hb : PE X b (tE X.K W B)) : PE X (.BinOp a .Add b pos) (tE X.K W (e2 Fadd A B)) := d_op op_addD lift_add ha hb
theorem d_sub (ha : PE X a (tE X.K W A)) (hb : PE X b (tE X.K W B)) : PE X (.BinOp a .Sub b pos) (tE X.K W (e2 Fsub A B)) := d_op op_sub lift_sub ha hb
theorem d_mul (ha : PE X a (tE X.K W A)) (hb : PE X b (tE X.K W B)) : PE X (.BinOp a .Mult b pos) (tE X.K W (e2 Fmul A B)) := d_op op_mulDD lift_mul ha hb
theorem d_div (ha : PE X a (tE X.K W A)) (hb : PE X b (tE X.K W B)) : PE X (.BinOp a .FloorDiv b pos) (tE X.K W (e2 Fdiv A B)) := d_op op_fdivW lift_div ha hb
theorem d_mod (ha : PE X a (tE X.K W A)) (hb : PE X b (tE X.K W B)) : PE X (.BinOp a .Mod b pos) (tE X.K W (e2 Fmod A B)) := d_op op_mod lift_mod ha hb
theorem d_pow (ha : PE X a (tE X.K W A)) (hb : PE X b (tE X.K W B)) : PE X (.BinOp a .Pow b pos) (tE X.K W (e2 Fpow A B)) := d_op op_powD lift_pow ha hb
theorem d_neg (ha : PE X a (tE X.K W A)) : PE X (.UnaryOp .USub a pos) (tE X.K W (e1 Fneg A)) := d_un un_neg lift_neg ha
end
end DM

namespace DM
open PySem PySem.Spec L2
/-! ### data as PyData; comparisons -/
mutual
def toPy : D → Option PyData
  | .non => some .none
  | .bl b => some (.bool b)
  | .int i => some (.int i)
  | .str x => some (.str x)
  | .tup xs => (toPys xs).map .tuple
  | .lst xs => (toPys xs).map .list
  | .fl xs => (toPys xs).map .list
  | .ref _ => none
def toPys : List D → Option (List PyData)
  | [] => some []
  | x :: r => match toPy x, toPys r with
    | some p, some q => some (p :: q)
    | _, _ => none
end
section
variable {K : PySem.W.Frag} {ι : List Addr} {H : Hp}
mutual
theorem dp_of : ∀ {v : V} {d : D} {p : PyData}, VR K ι H v d → toPy d = some p → Dp K H v p
  | _, _, _, .non, e => by cases e; exact .non
  | _, _, _, .bl b, e => by cases e; exact .bl b
  | _, _, _, .int i, e => by cases e; exact .int i
  | _, _, _, .str x, e => by cases e; exact .str x
  | _, _, _, .tup (ds := ds) h r, e => by
    simp only [toPy, Option.map_eq_some_iff] at e
    obtain ⟨q, e1, e2⟩ := e
    subst e2
    exact .tup h.sq (dps_of r e1)
  | _, _, _, .lst (ds := ds) h r, e => by
    simp only [toPy, Option.map_eq_some_iff] at e
    obtain ⟨q, e1, e2⟩ := e
    subst e2
    exact .lst h.sq (dps_of r e1)
  | _, _, _, .fl (ds := ds) h r, e => by
    simp only [toPy, Option.map_eq_some_iff] at e
    obtain ⟨q, e1, e2⟩ := e
    subst e2
    exact .lst h.sq (dps_of r e1)
  | _, _, _, .ref h, e => by cases e
theorem dps_of : ∀ {vs : List V} {ds : List D} {ps : List PyData}, VRs K ι H vs ds → toPys ds = some ps → DpAll K H vs ps
  | _, _, _, .nil, e => by cases e; exact .nil
  | _, _, _, .cons (d := d) (ds := ds) h r, e => by
    simp only [toPys] at e
    match e1 : toPy d, e2 : toPys ds, e with
    | some p, some q, e =>
      cases e
      exact .cons (dp_of h e1) (dps_of r e2)
end
end
/-- a cell's content as data, too -/
def toPyS (μ : Store) : D → Option PyData
  | .ref i => match μ[i]? with
    | some (.lst xs) => (toPys xs).map .list
    | _ => none
  | d => toPy d
theorem dpS_of {K : PySem.W.Frag} {ι : List Addr} {H : Hp} {μ : Store} {v : V} {d : D} {p : PyData} (w : WF K ι μ H) (r : VR K ι H v d) (e : toPyS μ d = some p) : Dp K H v p := by
  cases r with
  | ref hi =>
    obtain ⟨o, ho, ro⟩ := w.has hi
    simp only [toPyS, ho] at e
    cases o with
    | lst xs =>
      obtain ⟨vs, ea, rs⟩ := ro
      simp only [Option.map_eq_some_iff] at e
      obtain ⟨q, e1, e2⟩ := e
      subst e2
      exact .lst (.inl (.inl ea)) (dps_of rs e1)
    | obj C fs => cases e
    | dct kvs => cases e
    | dcl kvs => cases e
    | dtt kvs => cases e
    | exc C fs => cases e
    | tab tx => cases e
    | dnk kvs => cases e
  | non => exact dp_of (ι := ι) .non e
  | bl b => exact dp_of (ι := ι) (.bl b) e
  | int b => exact dp_of (ι := ι) (.int b) e
  | str b => exact dp_of (ι := ι) (.str b) e
  | tup h r => exact dp_of (.tup h r) e
  | lst h r => exact dp_of (.lst h r) e
  | fl h r => exact dp_of (.fl h r) e
def twoS : D → D → Option (Str × Str)
  | .str a, .str b => some (a, b)
  | _, _ => none
theorem twoS_some {d e : D} {a b : Str} (h : twoS d e = some (a, b)) : d = .str a ∧ e = .str b := by
  unfold twoS at h
  split at h
  · cases h; exact ⟨rfl, rfl⟩
  · cases h
def Feq (neg : Bool) (d e : D) (μ : Store) : Res D := match twoS d e with
  | some (a, b) => okR (.bl (if neg then !(a == b) else a == b)) μ
  | none => match toPyS μ d, toPyS μ e with
    | some p, some q => if SeqAt.shaped p = true ∧ SeqAt.shaped q = true then okR (.bl (if neg then !PyData.eqv p q else PyData.eqv p q)) μ else none
    | _, _ => none
def Fcmp (p : Int → Int → Bool) : D → D → Store → Res D
  | .int i, .int j, μ => okR (.bl (p i j)) μ
  | _, _, _ => none
abbrev Flt := Fcmp fun i j => decide (i < j)
abbrev Fle := Fcmp fun i j => decide (i ≤ j)
abbrev Fgt := Fcmp fun i j => decide (j < i)
abbrev Fge := Fcmp fun i j => decide (j ≤ i)
def Fis (neg : Bool) : D → D → Store → Res D
  | .bl a, .bl b, μ => okR (.bl (if neg then !decide (a = b) else decide (a = b))) μ
  | d, .non, μ => okR (.bl (if neg then !decide (d = .non) else decide (d = .non))) μ
  | _, _, _ => none
section
variable {X : Cx} {K : PySem.W.Frag}
def rEqX (K : PySem.W.Frag) : L2.R2 := fun x y H Q => rEq x y H Q ∨ rEqD K x y H Q
def rNeX (K : PySem.W.Frag) : L2.R2 := fun x y H Q => rNe x y H Q ∨ rNeD K x y H Q
theorem op_eqX (hu : X.A.units + 64 < cLine) : OpR X (compareOp .Eq) (rEqX X.K) := op_eq.or (op_eqD hu)
theorem op_neX (hu : X.A.units + 64 < cLine) : OpR X (compareOp .NotEq) (rNeX X.K) := op_ne.or (op_neD hu)
theorem dec_strV {a b : Str} : decide (V.str a = V.str b) = (a == b) := by
  rw [Bool.eq_iff_iff]
  simp
theorem lift_eq : Lift2 K (rEqX K) (Feq false) := by
  intro W σ ι μ H x y d e Q w vx vy h
  unfold Feq at h
  match e0 : twoS d e, h with
  | some (a, b), h =>
    obtain ⟨rfl, rfl⟩ := twoS_some e0
    cases vx
    cases vy
    refine .inl ⟨rfl, ?_⟩
    rw [dec_strV]
    exact h.ok0 w (.bl _)
  | none, h =>
    match e1 : toPyS μ d, e2 : toPyS μ e, h with
    | some p, some q, h =>
      obtain ⟨z, h⟩ := PostG.guard h
      exact .inr ⟨p, q, dpS_of w vx e1, dpS_of w vy e2, z.1, z.2, h.ok0 w (.bl _)⟩
theorem lift_ne : Lift2 K (rNeX K) (Feq true) := by
  intro W σ ι μ H x y d e Q w vx vy h
  unfold Feq at h
  match e0 : twoS d e, h with
  | some (a, b), h =>
    obtain ⟨rfl, rfl⟩ := twoS_some e0
    cases vx
    cases vy
    refine .inl ⟨rfl, ?_⟩
    rw [dec_strV]
    exact h.ok0 w (.bl _)
  | none, h =>
    match e1 : toPyS μ d, e2 : toPyS μ e, h with
    | some p, some q, h =>
      obtain ⟨z, h⟩ := PostG.guard h
      exact .inr ⟨p, q, dpS_of w vx e1, dpS_of w vy e2, z.1, z.2, h.ok0 w (.bl _)⟩
theorem lift_cmp {p : Int → Int → Bool} : Lift2 K (rI0 fun i j => .bl (p i j)) (Fcmp p) := by
  intro W σ ι μ H x y d e Q w vx vy h
  cases vx with
  | int i =>
    cases vy with
    | int j => exact ⟨i, j, rfl, rfl, h.ok0 w (.bl _)⟩
    | _ => exact h.elim
  | _ => exact h.elim
def rIsD (neg : Bool) : L2.R2 := fun x y H Q => (∃ a b : Bool, x = .bl a ∧ y = .bl b ∧ Q (.bl (if neg then !decide (a = b) else decide (a = b))) H) ∨ (y = .non ∧ Q (.bl (if neg then !decide (x = .non) else decide (x = .non))) H)
theorem op_isD : OpR X (compareOp .Is) (rIsD false) := op_isBl.or op_isN
theorem non_iff {ι : List Addr} {H : Hp} {x : V} {d : D} (v : VR K ι H x d) : decide (x = .non) = decide (d = .non) := by
  cases v <;> simp
theorem lift_is {neg : Bool} : Lift2 K (rIsD neg) (Fis neg) := by
  intro W σ ι μ H x y d e Q w vx vy h
  have hn := non_iff vx
  cases vy with
  | non =>
    refine .inr ⟨rfl, ?_⟩
    rw [hn]
    cases d <;> exact h.ok0 w (.bl _)
  | bl b =>
    cases vx with
    | bl a => exact .inl ⟨a, b, rfl, rfl, h.ok0 w (.bl _)⟩
    | _ => exact h.elim
  | _ => cases vx <;> exact h.elim
end
section
variable {X : Cx} {W : DW} {a b c : Expr} {A B C : CM D} {pos : Pos} {k : Nat}
theorem d_eq (hr : Room k X.A) (ha : PE X a (tE X.K W A)) (hb : PE X b (tE X.K W B)) : PE X (.Compare a [.Eq] [b] pos) (tE X.K W (e2 (Feq false) A B)) := d_cmp (op_eqX hr.units) lift_eq ha hb (nomark _)
theorem d_le (ha : PE X a (tE X.K W A)) (hb : PE X b (tE X.K W B)) : PE X (.Compare a [.LtE] [b] pos) (tE X.K W (e2 Fle A B)) := d_cmp op_le lift_cmp ha hb (nomark _)
theorem d_is (ha : PE X a (tE X.K W A)) (hb : PE X b (tE X.K W B)) : PE X (.Compare a [.Is] [b] pos) (tE X.K W (e2 (Fis false) A B)) := d_cmp op_isD lift_is ha hb (nomark _)
theorem dt_eq (hr : Room k X.A) (ha : PE X a (tE X.K W A)) (hb : PE X b (tE X.K W B)) : PT X (.Compare a [.Eq] [b] pos) (tT X.K W (bOf (e2 (Feq false) A B))) := dt_cmp (op_eqX hr.units) lift_eq ha hb (nomark _)
theorem dt_ne (hr : Room k X.A) (ha : PE X a (tE X.K W A)) (hb : PE X b (tE X.K W B)) : PT X (.Compare a [.NotEq] [b] pos) (tT X.K W (bOf (e2 (Feq true) A B))) := dt_cmp (op_neX hr.units) lift_ne ha hb (nomark _)
theorem dt_lt (ha : PE X a (tE X.K W A)) (hb : PE X b (tE X.K W B)) : PT X (.Compare a [.Lt] [b] pos) (tT X.K W (bOf (e2 Flt A B))) := dt_cmp op_lt lift_cmp ha hb (nomark _)
theorem dt_gt (ha : PE X a (tE X.K W A)) (hb : PE X b (tE X.K W B)) : PT X (.Compare a [.Gt] [b] pos) (tT X.K W (bOf (e2 Fgt A B))) := dt_cmp op_gt lift_cmp ha hb (nomark _)
theorem dt_ge (ha : PE X a (tE X.K W A)) (hb : PE X b (tE X.K W B)) : PT X (.Compare a [.GtE] [b] pos) (tT X.K W (bOf (e2 Fge A B))) := dt_cmp op_ge lift_cmp ha hb (nomark _)
end
/-! ### tests -/
def bAnd (A B : CM Bool) : CM Bool := A.bind fun c => if c then B else CM.ret false
def bOr (A B : CM Bool) : CM Bool := A.bind fun c => if c then CM.ret true else B
def bNot (A : CM Bool) : CM Bool := A.bind fun c => CM.ret (!c)
def eIf (T : CM Bool) (A B : CM D) : CM D := T.bind fun c => if c then A else B
def vAnd (A B : CM D) : CM D := A.bind fun d => match d with
  | .bl true => B
  | .bl false => CM.ret (.bl false)
  | _ => fun _ _ => none
def vOr (A B : CM D) : CM D := A.bind fun d => match d with
  | .bl true => CM.ret (.bl true)
  | .bl false => B
  | _ => fun _ _ => none
def vNot (A : CM D) : CM D := A.bind fun d => match d with
  | .bl b => CM.ret (.bl (!b))
  | _ => fun _ _ => none
/-- truth -/
def Ftru (d : D) (μ : Store) : Res Bool := match d with
  | .non => some (.ok false, μ)
  | .bl b => some (.ok b, μ)
  | .int i => some (.ok (i != 0), μ)
  | .str y => if y.length ≤ sizeLine then some (.ok ((y.length : Int) != 0), μ) else none
  | .tup xs => some (.ok (!xs.isEmpty), μ)
  | .lst xs => some (.ok (!xs.isEmpty), μ)
  | .fl xs => some (.ok (!xs.isEmpty), μ)
  | .ref i => match μ[i]? with
    | some (.lst xs) => some (.ok (!xs.isEmpty), μ)
    | _ => none
def bTru (A : CM D) : CM Bool := A.bind fun d _ μ => Ftru d μ
section
variable {X : Cx} {W : DW} {a b c : Expr} {A B : CM Bool} {P Q' : CM D} {pos : Pos} {rest : List Expr}
theorem dw_and1 (ha : PT X a (tT X.K W A)) : PW X (.BoolOp .And [a] pos) (tT X.K W A) := pw_and1 ha
theorem dw_or1 (ha : PT X a (tT X.K W A)) : PW X (.BoolOp .Or [a] pos) (tT X.K W A) := pw_or1 ha
theorem dw_and (ha : PT X a (tT X.K W A)) (hb : PW X (.BoolOp .And (b :: rest) pos) (tT X.K W B)) : PW X (.BoolOp .And (a :: b :: rest) pos) (tT X.K W (bAnd A B)) :=
  (pw_and ha hb).imp fun σ H Q ⟨ρ, ι, μ, sr, wf, h⟩ => by
    refine tG.mono (PostG.bind sr wf h) ?_
    rintro c H1 ⟨ι1, μ1, d, l1, w1, rfl, h1⟩
    cases c with
    | true => exact ⟨ρ, ι1, μ1, sr.mono l1, w1, h1⟩
    | false => exact PostG.ok0 h1 w1 rfl
theorem dw_or (ha : PT X a (tT X.K W A)) (hb : PW X (.BoolOp .Or (b :: rest) pos) (tT X.K W B)) : PW X (.BoolOp .Or (a :: b :: rest) pos) (tT X.K W (bOr A B)) :=
  (pw_or ha hb).imp fun σ H Q ⟨ρ, ι, μ, sr, wf, h⟩ => by
    refine tG.mono (PostG.bind sr wf h) ?_
    rintro c H1 ⟨ι1, μ1, d, l1, w1, rfl, h1⟩
    cases c with
    | false => exact ⟨ρ, ι1, μ1, sr.mono l1, w1, h1⟩
    | true => exact PostG.ok0 h1 w1 rfl
theorem dt_not (ha : PT X a (tT X.K W A)) : PT X (.UnaryOp .Not a pos) (tT X.K W (bNot A)) :=
  (pt_not ha).imp fun σ H Q ⟨ρ, ι, μ, sr, wf, h⟩ => by
    refine tG.mono (PostG.bind sr wf h) ?_
    rintro c H1 ⟨ι1, μ1, d, l1, w1, rfl, h1⟩
    exact PostG.ok0 h1 w1 rfl
theorem d_ifexp (hc : PT X c (tT X.K W A)) (ha : PE X a (tE X.K W P)) (hb : PE X b (tE X.K W Q')) : PE X (.IfExp c a b pos) (tE X.K W (eIf A P Q')) :=
  (pe_ifExp hc ha hb).imp fun σ H Q ⟨ρ, ι, μ, sr, wf, h⟩ => by
    refine tG.mono (PostG.bind sr wf h) ?_
    rintro c H1 ⟨ι1, μ1, d, l1, w1, rfl, h1⟩
    cases c with
    | true => exact ⟨ρ, ι1, μ1, sr.mono l1, w1, h1⟩
    | false => exact ⟨ρ, ι1, μ1, sr.mono l1, w1, h1⟩
theorem d_one {op} (h : PE X a (tE X.K W P)) : PE X (.BoolOp op [a] pos) (tE X.K W P) := pe_one h
theorem d_and (ha : PE X a (tE X.K W P)) (hb : PE X (.BoolOp .And (b :: rest) pos) (tE X.K W Q')) : PE X (.BoolOp .And (a :: b :: rest) pos) (tE X.K W (vAnd P Q')) :=
  (pe_and ha hb).imp fun σ H Q ⟨ρ, ι, μ, sr, wf, h⟩ => by
    refine tG.mono (PostG.bind sr wf h) ?_
    rintro c H1 ⟨ι1, μ1, d, l1, w1, vx, h1⟩
    cases vx with
    | bl c =>
      refine ⟨c, rfl, ?_⟩
      cases c with
      | true => exact ⟨ρ, ι1, μ1, sr.mono l1, w1, h1⟩
      | false => exact PostG.ok0 h1 w1 (.bl _)
    | _ => exact h1.elim
theorem d_or (ha : PE X a (tE X.K W P)) (hb : PE X (.BoolOp .Or (b :: rest) pos) (tE X.K W Q')) : PE X (.BoolOp .Or (a :: b :: rest) pos) (tE X.K W (vOr P Q')) :=
  (pe_or ha hb).imp fun σ H Q ⟨ρ, ι, μ, sr, wf, h⟩ => by
    refine tG.mono (PostG.bind sr wf h) ?_
    rintro c H1 ⟨ι1, μ1, d, l1, w1, vx, h1⟩
    cases vx with
    | bl c =>
      refine ⟨c, rfl, ?_⟩
      cases c with
      | false => exact ⟨ρ, ι1, μ1, sr.mono l1, w1, h1⟩
      | true => exact PostG.ok0 h1 w1 (.bl _)
    | _ => exact h1.elim
theorem dt_tru (ha : PE X a (tE X.K W P)) (he : ∀ whole, isTrue a X.env whole = (do let v ← whole; standAt a.pos; holding [v] (truthy v))) : PT X a (tT X.K W (bTru P)) :=
  (pt_truth ha he).imp fun σ H Q ⟨ρ, ι, μ, sr, wf, h⟩ => by
    refine tG.mono (PostG.bind sr wf h) ?_
    rintro x H1 ⟨ι1, μ1, d, l1, w1, vx, h1⟩
    cases vx with
    | non => exact ⟨_, rfl, PostG.ok0 h1 w1 rfl⟩
    | bl b => exact ⟨_, rfl, PostG.ok0 h1 w1 rfl⟩
    | int i => exact ⟨_, rfl, PostG.ok0 h1 w1 rfl⟩
    | str y =>
      obtain ⟨q, h1⟩ := PostG.guard h1
      exact ⟨_, ⟨q, rfl⟩, PostG.ok0 h1 w1 rfl⟩
    | tup hh r =>
      refine ⟨_, .inr (.inl ⟨_, hh.sq, rfl⟩), PostG.ok0 h1 w1 ?_⟩
      cases r <;> rfl
    | lst hh r =>
      refine ⟨_, .inl ⟨_, hh.sq, rfl⟩, PostG.ok0 h1 w1 ?_⟩
      cases r <;> rfl
    | fl hh r =>
      refine ⟨_, .inl ⟨_, hh.sq, rfl⟩, PostG.ok0 h1 w1 ?_⟩
      cases r <;> rfl
    | ref hi =>
      rename_i a' i
      obtain ⟨o, ho, ro⟩ := w1.has hi
      unfold Ftru at h1
      simp only [ho] at h1
      cases o with
      | lst ds =>
        obtain ⟨vs, e, r⟩ := ro
        refine ⟨_, .inl ⟨_, .inl (.inl e), rfl⟩, PostG.ok0 h1 w1 ?_⟩
        cases r <;> rfl
      | _ => exact h1.elim
end
end DM

namespace DM
open PySem PySem.Spec L2
/-! ### argument lists, displays -/
def aNil : CM (List D) := CM.ret []
def aCons (A : CM D) (B : CM (List D)) : CM (List D) := A.bind fun d => B.bind fun ds => CM.ret (d :: ds)
def eTup (A : CM (List D)) : CM D := A.bind fun ds _ μ => if ds.length ≤ sizeLine then okR (.tup ds) μ else none
/-- a list that is not changed any more; a list that is a cell -/
def eLst (A : CM (List D)) : CM D := A.bind fun ds _ μ => if ds.length ≤ sizeLine then okR (.lst ds) μ else none
def eCel (A : CM (List D)) : CM D := A.bind fun ds _ μ => if ds.length ≤ sizeLine then okR (.ref μ.length) (μ ++ [.lst ds]) else none
section
variable {X : Cx} {W : DW} {e : Expr} {es : List Expr} {A : CM D} {As : CM (List D)} {pos : Pos}
theorem da_nil : PA X [] (tA X.K W aNil) := pa_nil.imp fun σ H Q ⟨ρ, ι, μ, sr, wf, h⟩ => PostG.ok0 h wf .nil
theorem da_cons (ha : PE X e (tE X.K W A)) (hr : PA X es (tA X.K W As)) (hs : starEach (e :: es) X.env = (false, eval e X.env) :: starEach es X.env := by rfl) : PA X (e :: es) (tA X.K W (aCons A As)) :=
  (pa_cons ha hr hs).imp fun σ H Q ⟨ρ, ι, μ, sr, wf, h⟩ => by
    refine tG.mono (PostG.bind sr wf h) ?_
    rintro x H1 ⟨ι1, μ1, d, l1, w1, vx, h1⟩
    refine tG.mono (PostG.bind (sr.mono l1) w1 h1) ?_
    rintro xs H2 ⟨ι2, μ2, ds, l2, w2, vxs, h2⟩
    exact PostG.ok0 h2 w2 (.cons (vx.mono l2) vxs)
theorem d_tup {x1} (h : PA X es (tA X.K W As)) : PE X (.Tuple es x1 pos) (tE X.K W (eTup As)) := by
  refine ⟨fun pins s σ H Q I ⟨ρ, ι, μ, sr, wf, hq⟩ => ?_⟩
  refine wpAny_Tuple_spliced (thn (h.run pos pins s σ H _ I (PostG.bind sr wf hq)) ?_)
  rintro us s1 ⟨xs, H1, I1, r, ι1, μ1, ds, l1, w1, vx, h1⟩
  obtain ⟨q, h1⟩ := PostG.guard h1
  have z : xs.length ≤ sizeLine := by rw [vx.length]; exact q
  refine ⟨by rw [← r.length]; exact z, ?_⟩
  have hf : H1 s1.heap.objs.size = none := I1.hok.fresh (Nat.le_refl _)
  refine ⟨.ref s1.heap.objs.size, upd H1 s1.heap.objs.size (.frz _ (.tup xs)), I1.laid (t' := s1.toks) (fun b u e => Heap.get?_push_of_some _ e) (Nat.le_refl _) ⟨Heap.get?_push_size _ rfl, z, us, r, ⟨_, Heap.get?_push_size _ rfl, rfl, _, rfl⟩⟩, rfl, ?_⟩
  exact h1.ok (Le.laid hf) (w1.laid hf) (.tup (.inl ⟨⟨_, upd_same, rfl⟩, w1.out hf⟩) (vx.mono (Le.laid hf)))
theorem d_lst (h : PA X es (tA X.K W As)) : PE X (.List es pos) (tE X.K W (eLst As)) :=
  (pe_lst h).imp fun σ H Q ⟨ρ, ι, μ, sr, wf, h⟩ => by
    refine tG.mono (PostG.bind sr wf h) ?_
    rintro xs H1 ⟨ι1, μ1, ds, l1, w1, vx, h1⟩
    obtain ⟨q, h1⟩ := PostG.guard h1
    refine ⟨by rw [vx.length]; exact q, fun p hp => ?_⟩
    exact h1.ok (Le.laid hp) (w1.laid hp) (.lst ⟨upd_same, w1.out hp⟩ (vx.mono (Le.laid hp)))
theorem d_cel (h : PA X es (tA X.K W As)) : PE X (.List es pos) (tE X.K W (eCel As)) :=
  (pe_lst h).imp fun σ H Q ⟨ρ, ι, μ, sr, wf, h⟩ => by
    refine tG.mono (PostG.bind sr wf h) ?_
    rintro xs H1 ⟨ι1, μ1, ds, l1, w1, vx, h1⟩
    obtain ⟨q, h1⟩ := PostG.guard h1
    refine ⟨by rw [vx.length]; exact q, fun p hp => ?_⟩
    refine h1.ok (Le.cell hp) (w1.cell hp ⟨xs, upd_same, vx.mono (Le.cell hp)⟩) (.ref ?_)
    rw [← w1.len]; simp
end
/-! ### subscripts -/
def Fix (d e : D) (μ : Store) : Res D := match d, e with
  | .lst xs, .int i => pureR (atI xs i) μ
  | .fl xs, .int i => pureR (atI xs i) μ
  | .tup xs, .int i => pureR (atI xs i) μ
  | .str z, .int i => if z.length ≤ sizeLine then pureR ((atI z.cps.toList i).map fun c => .str ⟨#[c]⟩) μ else none
  | .ref j, .int i => match μ[j]? with
    | some (.lst xs) => pureR (atI xs i) μ
    | _ => none
  | _, _ => none
theorem PostG.pure {K : PySem.W.Frag} {W : DW} {σ : L2.St} {ι : List Addr} {H : Hp} {Q : VK} {o : Option D} {μ : Store} (h : PostG (VR K) K W σ ι H Q (pureR o μ)) : ∃ d, o = some d ∧ PostG (VR K) K W σ ι H Q (okR d μ) := by
  cases o with
  | none => exact h.elim
  | some d => exact ⟨d, rfl, h⟩
section
variable {X : Cx} {K : PySem.W.Frag} {ι : List Addr} {H : Hp}
theorem VRs.atI {vs : List V} {ds : List D} {i : Int} {d : D} (r : VRs K ι H vs ds) (h : atI ds i = some d) : ∃ v, L2.atI vs i = some v ∧ VR K ι H v d := by
  unfold L2.atI at h ⊢
  rw [r.length]
  cases e : ixN ds.length i with
  | none => rw [e] at h; cases h
  | some j => rw [e] at h; exact r.get h
theorem lift_ix : Lift2 K (rIx K) Fix := by
  intro W σ ι μ H x y d e Q w vx vy h
  cases vy with
  | int i =>
    cases vx with
    | lst hh r =>
      obtain ⟨z, e, h⟩ := PostG.pure h
      obtain ⟨v, e1, r1⟩ := r.atI e
      exact .inl ⟨_, _, i, v, rfl, rfl, hh.sq, e1, h.ok0 w r1⟩
    | fl hh r =>
      obtain ⟨z, e, h⟩ := PostG.pure h
      obtain ⟨v, e1, r1⟩ := r.atI e
      exact .inl ⟨_, _, i, v, rfl, rfl, hh.sq, e1, h.ok0 w r1⟩
    | tup hh r =>
      obtain ⟨z, e, h⟩ := PostG.pure h
      obtain ⟨v, e1, r1⟩ := r.atI e
      exact .inr (.inl ⟨_, _, i, v, rfl, rfl, hh.sq, e1, h.ok0 w r1⟩)
    | str z =>
      obtain ⟨q, h⟩ := PostG.guard h
      obtain ⟨z', e, h⟩ := PostG.pure h
      obtain ⟨c, e1, rfl⟩ := Option.map_eq_some_iff.mp e
      exact .inr (.inr ⟨z, i, c, rfl, rfl, q, e1, h.ok0 w (.str _)⟩)
    | ref hi =>
      obtain ⟨o, ho, ro⟩ := w.has hi
      unfold Fix at h
      simp only [ho] at h
      cases o with
      | lst ds =>
        obtain ⟨vs, ea, r⟩ := ro
        obtain ⟨z, e, h⟩ := PostG.pure h
        obtain ⟨v, e1, r1⟩ := r.atI e
        exact .inl ⟨_, _, i, v, rfl, rfl, .inl (.inl ea), e1, h.ok0 w r1⟩
      | _ => exact h.elim
    | _ => exact h.elim
  | _ => cases vx <;> exact h.elim
end
section
variable {X : Cx} {W : DW} {a b : Expr} {A B : CM D} {pos : Pos}
theorem d_ix (ha : PE X a (tE X.K W A)) (hb : PE X b (tE X.K W B)) (hs : PlainIx b) : PE X (.Subscript a b pos) (tE X.K W (e2 Fix A B)) := (pe_ix ix_seq ha hb hs).imp (d_bin lift_ix)
end
/-! ### calls of built-ins -/
def LiftA (K : PySem.W.Frag) (r : List V → Hp → VK → Prop) (F : List D → Store → Res D) : Prop := ∀ (W : DW) σ ι μ H xs ds Q, WF K ι μ H → VRs K ι H xs ds → PostG (VR K) K W σ ι H Q (F ds μ) → r xs H Q
def eCallB (F : List D → Store → Res D) (A : CM (List D)) : CM D := A.bind fun ds _ μ => F ds μ
def Fabs (ds : List D) (μ : Store) : Res D := match ds with
  | [.int i] => okR (.int (if i < 0 then -i else i)) μ
  | _ => none
def Fint (ds : List D) (μ : Store) : Res D := match ds with
  | [.int i] => okR (.int i) μ
  | [.bl k] => okR (.int (if k then 1 else 0)) μ
  | _ => none
def Fmax (ds : List D) (μ : Store) : Res D := match ds with
  | [.int i, .int j] => okR (.int (if j > i then j else i)) μ
  | _ => none
def Fmin (ds : List D) (μ : Store) : Res D := match ds with
  | [.int i, .int j] => okR (.int (if j < i then j else i)) μ
  | _ => none
def Flen (ds : List D) (μ : Store) : Res D := match ds with
  | [.str y] => if y.length ≤ sizeLine then okR (.int y.length) μ else none
  | [.lst xs] => okR (.int xs.length) μ
  | [.fl xs] => okR (.int xs.length) μ
  | [.tup xs] => okR (.int xs.length) μ
  | [.ref i] => match μ[i]? with
    | some (.lst xs) => okR (.int xs.length) μ
    | _ => none
  | _ => none
def bls : List D → Option (List Bool)
  | [] => some []
  | .bl b :: r => (bls r).map (b :: ·)
  | _ => none
def Fall (ds : List D) (μ : Store) : Res D := match ds with
  | [.lst xs] => pureR ((bls xs).map fun bs => .bl (bs.all id)) μ
  | _ => none
def Fany (ds : List D) (μ : Store) : Res D := match ds with
  | [.lst xs] => pureR ((bls xs).map fun bs => .bl (bs.any id)) μ
  | _ => none
section
variable {X : Cx} {K : PySem.W.Frag}
theorem VRs.one {ι : List Addr} {H : Hp} {vs : List V} {d : D} (v : VRs K ι H vs [d]) : ∃ x, vs = [x] ∧ VR K ι H x d := by
  cases v with
  | cons a b => cases b; exact ⟨_, rfl, a⟩
theorem VRs.two {ι : List Addr} {H : Hp} {vs : List V} {d e : D} (v : VRs K ι H vs [d, e]) : ∃ x y, vs = [x, y] ∧ VR K ι H x d ∧ VR K ι H y e := by
  cases v with
  | cons a b =>
    obtain ⟨y, rfl, c⟩ := VRs.one b
    exact ⟨_, y, rfl, a, c⟩
theorem lift_abs : LiftA K (fun xs H Q => ∃ i, xs = [.int i] ∧ Q (.int (if i < 0 then -i else i)) H) Fabs := by
  intro W σ ι μ H xs ds Q w v h
  unfold Fabs at h
  split at h
  · obtain ⟨x, rfl, vx⟩ := v.one
    cases vx
    exact ⟨_, rfl, h.ok0 w (.int _)⟩
  · exact h.elim
theorem lift_max : LiftA K (fun xs H Q => ∃ i j, xs = [.int i, .int j] ∧ Q (.int (if j > i then j else i)) H) Fmax := by
  intro W σ ι μ H xs ds Q w v h
  unfold Fmax at h
  split at h
  · obtain ⟨x, y, rfl, vx, vy⟩ := v.two
    cases vx; cases vy
    exact ⟨_, _, rfl, h.ok0 w (.int _)⟩
  · exact h.elim
theorem lift_min : LiftA K (fun xs H Q => ∃ i j, xs = [.int i, .int j] ∧ Q (.int (if j < i then j else i)) H) Fmin := by
  intro W σ ι μ H xs ds Q w v h
  unfold Fmin at h
  split at h
  · obtain ⟨x, y, rfl, vx, vy⟩ := v.two
    cases vx; cases vy
    exact ⟨_, _, rfl, h.ok0 w (.int _)⟩
  · exact h.elim
theorem lift_len : LiftA K (fun xs H Q => ∃ x n, xs = [x] ∧ LenV K x H n ∧ Q (.int n) H) Flen := by
  intro W σ ι μ H xs ds Q w v h
  unfold Flen at h
  split at h
  · obtain ⟨x, rfl, vx⟩ := v.one
    cases vx
    obtain ⟨q, h⟩ := PostG.guard h
    exact ⟨_, _, rfl, ⟨q, rfl⟩, h.ok0 w (.int _)⟩
  · obtain ⟨x, rfl, vx⟩ := v.one
    cases vx with
    | lst hh r => exact ⟨_, _, rfl, .inl ⟨_, hh.sq, rfl⟩, h.ok0 w (by rw [r.length]; exact .int _)⟩
  · obtain ⟨x, rfl, vx⟩ := v.one
    cases vx with
    | fl hh r => exact ⟨_, _, rfl, .inl ⟨_, hh.sq, rfl⟩, h.ok0 w (by rw [r.length]; exact .int _)⟩
  · obtain ⟨x, rfl, vx⟩ := v.one
    cases vx with
    | tup hh r => exact ⟨_, _, rfl, .inr ⟨_, hh.sq, rfl⟩, h.ok0 w (by rw [r.length]; exact .int _)⟩
  · obtain ⟨x, rfl, vx⟩ := v.one
    cases vx with
    | ref hi =>
      obtain ⟨o, ho, ro⟩ := w.has hi
      simp only [ho] at h
      cases o with
      | lst ds =>
        obtain ⟨vs, ea, r⟩ := ro
        exact ⟨_, _, rfl, .inl ⟨_, .inl (.inl ea), rfl⟩, h.ok0 w (by rw [r.length]; exact .int _)⟩
      | _ => exact h.elim
  · exact h.elim
theorem bls_of {ι : List Addr} {H : Hp} : ∀ {vs : List V} {ds : List D} {bs : List Bool}, VRs K ι H vs ds → bls ds = some bs → vs = bs.map V.bl
  | _, _, _, .nil, e => by cases e; rfl
  | _, _, _, .cons h r, e => by
    cases h with
    | bl b =>
      simp only [bls] at e
      obtain ⟨t, e1, rfl⟩ := Option.map_eq_some_iff.mp e
      rw [bls_of r e1]; rfl
    | _ => simp [bls] at e
theorem lift_all : LiftA K (rAll K) Fall := by
  intro W σ ι μ H xs ds Q w v h
  unfold Fall at h
  split at h
  · obtain ⟨x, rfl, vx⟩ := v.one
    cases vx with
    | lst hh r =>
      obtain ⟨z, e, h⟩ := PostG.pure h
      obtain ⟨bs, e1, rfl⟩ := Option.map_eq_some_iff.mp e
      have q := bls_of r e1
      subst q
      exact ⟨_, bs, rfl, hh.sq, h.ok0 w (.bl _)⟩
  · exact h.elim
theorem d_cb {W : DW} {x : Str} {p pos : Pos} {e : Expr} {es : List Expr} {As : CM (List D)} {id : String} {r : List V → Hp → VK → Prop} {F : List D → Store → Res D} (hc : CallR X (.builtin id) r) (hF : LiftA X.K r F) (hg : Gl X x) (hm : X.mg x = none) (hv : bootBuiltins x = some (.builtin id)) (ha : PA X (e :: es) (tA X.K W As))
    (hn : x ≠ "__name__" := by decide) (hdb : (x == ("__debug__" : Str)) = false := by decide)
    (he : starEach (e :: es) X.env = (false, eval e X.env) :: starEach es X.env := by rfl) (hpl : (backTo pos (starEach es X.env)).any (·.1) = false := by rfl) : PE X (.Call (.Name x p) (e :: es) [] pos) (tE X.K W (eCallB F As)) :=
  (pe_callB hc hg hm hv ha hn hdb he hpl).imp fun σ H Q ⟨ρ, ι, μ, sr, wf, h⟩ => by
    refine tG.mono (PostG.bind sr wf h) ?_
    rintro xs H1 ⟨ι1, μ1, ds, l1, w1, vx, h1⟩
    exact hF W σ ι1 μ1 H1 xs ds Q w1 vx h1
theorem d_ct {W : DW} {x : Str} {p pos : Pos} {e : Expr} {es : List Expr} {As : CM (List D)} {T : String} {r : List V → Hp → VK → Prop} {F : List D → Store → Res D} (hc : CallR X (.type T) r) (hF : LiftA X.K r F) (hg : Gl X x) (hm : X.mg x = none) (hv : bootBuiltins x = some (.type T)) (ha : PA X (e :: es) (tA X.K W As))
    (hn : x ≠ "__name__" := by decide) (hdb : (x == ("__debug__" : Str)) = false := by decide)
    (he : starEach (e :: es) X.env = (false, eval e X.env) :: starEach es X.env := by rfl) (hpl : (backTo pos (starEach es X.env)).any (·.1) = false := by rfl) : PE X (.Call (.Name x p) (e :: es) [] pos) (tE X.K W (eCallB F As)) :=
  (pe_callTy hc hg hm hv ha hn hdb he hpl).imp fun σ H Q ⟨ρ, ι, μ, sr, wf, h⟩ => by
    refine tG.mono (PostG.bind sr wf h) ?_
    rintro xs H1 ⟨ι1, μ1, ds, l1, w1, vx, h1⟩
    exact hF W σ ι1 μ1 H1 xs ds Q w1 vx h1
end
end DM

namespace DM
open PySem PySem.Spec L2
/-! ### statements -/
inductive Fl where
  | nx (ρ : Rho) | rt (d : D) | bk (ρ : Rho) | ct (ρ : Rho) | ex (x : Ex) (ρ : Rho)
abbrev SF := Rho → Store → Option (Fl × Store)
def PostS (K : PySem.W.Frag) (W : DW) (T : Ends) (ι : List Addr) (H : Hp) : Option (Fl × Store) → Prop
  | some (.nx ρ', μ') => ∀ σ' ι' H', Le ι H ι' H' → WF K ι' μ' H' → SR K ι' H' σ' ρ' → T.nx σ' H'
  | some (.rt d, μ') => ∀ ι' H' v, Le ι H ι' H' → WF K ι' μ' H' → VR K ι' H' v d → T.rt v H'
  | some (.bk ρ', μ') => ∀ σ' ι' H', Le ι H ι' H' → WF K ι' μ' H' → SR K ι' H' σ' ρ' → T.bk σ' H'
  | some (.ct ρ', μ') => ∀ σ' ι' H', Le ι H ι' H' → WF K ι' μ' H' → SR K ι' H' σ' ρ' → T.ct σ' H'
  | some (.ex x ρ', μ') => ∀ σ' ι' H', Le ι H ι' H' → WF K ι' μ' H' → SR K ι' H' σ' ρ' → W x ι' σ' H'
  | none => False
def sD (K : PySem.W.Frag) (W : DW) (S : SF) : TS := fun T σ H => ∃ ρ ι μ, SR K ι H σ ρ ∧ WF K ι μ H ∧ PostS K W T ι H (S ρ μ)
def lft {α : Type} (E : CM α) (F : α → SF) : SF := fun ρ μ => match E ρ μ with
  | some (.ok a, μ1) => F a ρ μ1
  | some (.error x, μ1) => some (.ex x ρ, μ1)
  | none => none
section
variable {K : PySem.W.Frag} {W : DW} {T : Ends} {σ : L2.St} {ι : List Addr} {H : Hp} {ρ : Rho} {μ : Store}
theorem PostS.from {r : Option (Fl × Store)} {ι0 : List Addr} {H0 : Hp} (l : Le ι0 H0 ι H) (h : PostS K W T ι0 H0 r) : PostS K W T ι H r := by
  match r, h with
  | some (.nx _, _), h => exact fun _ _ _ a b c => h _ _ _ (l.trans a) b c
  | some (.rt _, _), h => exact fun _ _ _ a b c => h _ _ _ (l.trans a) b c
  | some (.bk _, _), h => exact fun _ _ _ a b c => h _ _ _ (l.trans a) b c
  | some (.ct _, _), h => exact fun _ _ _ a b c => h _ _ _ (l.trans a) b c
  | some (.ex _ _, _), h => exact fun _ _ _ a b c => h _ _ _ (l.trans a) b c
theorem PostS.bindP {α β : Type} {R : List Addr → Hp → β → α → Prop} {A : CM α} {F : α → SF} (sr : SR K ι H σ ρ) (h : PostS K W T ι H (lft A F ρ μ)) :
    PostG R K W σ ι H (fun x H1 => ∃ ι1 μ1 a, Le ι H ι1 H1 ∧ WF K ι1 μ1 H1 ∧ R ι1 H1 x a ∧ PostS K W T ι1 H1 (F a ρ μ1)) (A ρ μ) := by
  unfold lft at h
  match A ρ μ, h with
  | some (.ok a, μ1), h => exact fun ι' H' v l w r => ⟨ι', μ1, a, l, w, r, PostS.from l h⟩
  | some (.error x, μ1), h => exact fun ι' H' l w => h σ ι' H' l w (sr.mono l)
theorem PostS.bind {α β : Type} {R : List Addr → Hp → β → α → Prop} {A : CM α} {F : α → SF} (sr : SR K ι H σ ρ) (wf : WF K ι μ H) (h : PostS K W T ι H (lft A F ρ μ)) :
    tG R K W A σ H (fun x H1 => ∃ ι1 μ1 a, Le ι H ι1 H1 ∧ WF K ι1 μ1 H1 ∧ R ι1 H1 x a ∧ PostS K W T ι1 H1 (F a ρ μ1)) := ⟨ρ, ι, μ, sr, wf, h.bindP sr⟩
theorem PostS.nx0 {ρ' : Rho} (h : PostS K W T ι H (some (.nx ρ', μ))) (w : WF K ι μ H) (s : SR K ι H σ ρ') : T.nx σ H := h σ ι H (Le.refl _ _) w s
theorem PostS.guard {c : Prop} [Decidable c] {r : Option (Fl × Store)} (h : PostS K W T ι H (if c then r else none)) : c ∧ PostS K W T ι H r := by
  by_cases z : c
  · rw [if_pos z] at h; exact ⟨z, h⟩
  · rw [if_neg z] at h; exact h.elim
end
def sNil : SF := fun ρ μ => some (.nx ρ, μ)
def sSeq (A B : SF) : SF := fun ρ μ => match A ρ μ with
  | some (.nx ρ1, μ1) => B ρ1 μ1
  | o => o
def sAsg (i : Nat) (E : CM D) : SF := lft E fun d ρ μ => some (.nx (ρ.set i (some d)), μ)
def sPar2 (i j : Nat) (E : CM (List D)) : SF := lft E fun ds ρ μ => match ds with
  | [a, b] => some (.nx ((ρ.set i (some a)).set j (some b)), μ)
  | _ => none
def sPar3 (i j l : Nat) (E : CM (List D)) : SF := lft E fun ds ρ μ => match ds with
  | [a, b, c] => some (.nx (((ρ.set i (some a)).set j (some b)).set l (some c)), μ)
  | _ => none
def sIf (C : CM Bool) (A B : SF) : SF := lft C fun c => if c then A else B
def sRet (E : CM D) : SF := lft E fun d _ μ => some (.rt d, μ)
def sRetN : SF := fun _ μ => some (.rt .non, μ)
def sDrop (E : CM D) : SF := lft E fun _ ρ μ => some (.nx ρ, μ)
def sBrk : SF := fun ρ μ => some (.bk ρ, μ)
def sCnt : SF := fun ρ μ => some (.ct ρ, μ)
def sPut (o i v : CM D) : SF := lft v fun v => lft o fun o => lft i fun i ρ μ => match o, i with
  | .ref c, .int k => match μ[c]? with
    | some (.lst xs) => match ixN xs.length k with
      | some j => some (.nx ρ, μ.set c (.lst (xs.set j v)))
      | none => none
    | _ => none
  | _, _ => none
def sAug (i : Nat) (F : D → D → Store → Res D) (E : CM D) : SF := fun ρ μ => match ρ[i]? with
  | some (some x) => lft (E.bind fun e _ μ => F x e μ) (fun d ρ μ => some (.nx (ρ.set i (some d)), μ)) ρ μ
  | _ => none
section
variable {X : Cx} {W : DW} {e a b c : Expr} {E A : CM D} {pos : Pos} {st : Stmt} {rest : List Stmt} {S S2 : SF}
theorem ds_nil : PSs X [] (sD X.K W sNil) := pss_nil.imp fun T σ H ⟨ρ, ι, μ, sr, wf, h⟩ => h.nx0 wf sr
theorem ds_seqAux {T : Ends} (σ : L2.St) (H : Hp) (h : sD X.K W (sSeq S S2) T σ H) : tSeq (sD X.K W S) (sD X.K W S2) T σ H := by
  obtain ⟨ρ, ι, μ, sr, wf, h⟩ := h
  refine ⟨ρ, ι, μ, sr, wf, ?_⟩
  unfold sSeq at h
  match S ρ μ, h with
  | some (.nx ρ1, μ1), h => exact fun σ' ι' H' l w s => ⟨ρ1, ι', μ1, s, w, PostS.from l h⟩
  | some (.rt _, _), h => exact h
  | some (.bk _, _), h => exact h
  | some (.ct _, _), h => exact h
  | some (.ex _ _, _), h => exact h
theorem ds_cons (h1 : PS X st (sD X.K W S)) (h2 : PSs X rest (sD X.K W S2)) : PSs X (st :: rest) (sD X.K W (sSeq S S2)) :=
  (pss_cons h1 h2).imp fun T σ H h => ds_seqAux σ H h
theorem ds_one (h1 : PS X st (sD X.K W S)) : PSs X [st] (sD X.K W S) := pss_one h1
theorem ds_asgAux {i : Nat} {T : Ends} (σ : L2.St) (H : Hp) (h : sD X.K W (sAsg i E) T σ H) : tAsg (tE X.K W E) (gName i) T σ H := by
  obtain ⟨ρ, ι, μ, sr, wf, h⟩ := h
  refine tG.mono (PostS.bind sr wf h) ?_
  rintro x H1 ⟨ι1, μ1, d, l1, w1, vx, h1⟩
  exact h1.nx0 w1 ((sr.mono l1).set i vx)
theorem ds_set {i : Nat} {x : Str} {pos' : Pos} (hN : X.N.Nodup) (hi : X.N[i]? = some x) (hx : Loc X.env.scope x) (he : PE X e (tE X.K W E)) (hs : swapsWith e (some (.Name x pos')) pos.line X.env = pure false := by rfl)
    (hf : X.fn x = true ∨ X.env.scope.names.lookup x = some .local := by first | exact .inl rfl | exact .inr rfl | assumption) :
    PS X (.Assign [.Name x pos'] e pos) (sD X.K W (sAsg i E)) := (ps_set hN hi hx he hs hf).imp fun T σ H h => ds_asgAux σ H h
theorem ds_ret (he : PE X e (tE X.K W E)) : PS X (.Return (some e) pos) (sD X.K W (sRet E)) := (ps_ret he).imp fun T σ H ⟨ρ, ι, μ, sr, wf, h⟩ => by
  refine tG.mono (PostS.bind sr wf h) ?_
  rintro x H1 ⟨ι1, μ1, d, l1, w1, vx, h1⟩
  exact h1 ι1 H1 x (Le.refl _ _) w1 vx
theorem ds_expr (he : PE X e (tE X.K W E)) (hs : swapsWith e none pos.line X.env = pure false := by rfl) : PS X (.Expr e pos) (sD X.K W (sDrop E)) := (ps_expr he hs).imp fun T σ H ⟨ρ, ι, μ, sr, wf, h⟩ => by
  refine tG.mono (PostS.bind sr wf h) ?_
  rintro x H1 ⟨ι1, μ1, d, l1, w1, vx, h1⟩
  exact h1.nx0 w1 (sr.mono l1)
theorem ds_if {C : CM Bool} {sa sb : List Stmt} (hc : PT X c (tT X.K W C)) (ha : PSs X sa (sD X.K W S)) (hb : PSs X sb (sD X.K W S2)) : PS X (.If c sa sb pos) (sD X.K W (sIf C S S2)) := (ps_if hc ha hb).imp fun T σ H ⟨ρ, ι, μ, sr, wf, h⟩ => by
  refine tG.mono (PostS.bind sr wf h) ?_
  rintro k H1 ⟨ι1, μ1, d, l1, w1, rfl, h1⟩
  cases k with
  | true => exact ⟨ρ, ι1, μ1, sr.mono l1, w1, h1⟩
  | false => exact ⟨ρ, ι1, μ1, sr.mono l1, w1, h1⟩
theorem ds_par2 {i j : Nat} {x y : Str} {As : CM (List D)} {px py pt : Pos} {kt k2 pt2} (hc : X.calm = true) (hN : X.N.Nodup) (hi : X.N[i]? = some x) (hj : X.N[j]? = some y) (hij : i ≠ j)
    (hx : X.env.scope.names.lookup x = some .local) (hy : X.env.scope.names.lookup y = some .local) (ha : PA X [a, b] (tA X.K W As))
    (hw : swappedStores [.Tuple [.Name x px, .Name y py] kt pt] (.Tuple [a, b] k2 pt2) X.env = pure (some [x, y])) (hs : swapsWithSole [.Tuple [.Name x px, .Name y py] kt pt] (.Tuple [a, b] k2 pt2) pos.line X.env = pure false := by rfl) :
    PS X (.Assign [.Tuple [.Name x px, .Name y py] kt pt] (.Tuple [a, b] k2 pt2) pos) (sD X.K W (sPar2 i j As)) := (ps_par hc hN hi hj hij hx hy ha hw hs).imp fun T σ H ⟨ρ, ι, μ, sr, wf, h⟩ => by
  refine tG.mono (PostS.bind sr wf h) ?_
  rintro xs H1 ⟨ι1, μ1, ds, l1, w1, vx, h1⟩
  split at h1
  · obtain ⟨u, v, rfl, vu, vv⟩ := vx.two
    exact ⟨u, v, rfl, h1.nx0 w1 (((sr.mono l1).set i vu).set j vv)⟩
  · exact h1.elim
theorem ds_put {o i : Expr} {O I : CM D} {tpos : Pos} (he : PE X e (tE X.K W E)) (ho : PE X o (tE X.K W O)) (hi : PE X i (tE X.K W I))
    (hst : PG X (.Subscript o i tpos) (gSub (tE X.K W O) (tE X.K W I) rSetL)) (hs : swapsWithSole [.Subscript o i tpos] e pos.line X.env = pure false := by rfl) (hw : swappedStores [.Subscript o i tpos] e X.env = pure none := by rfl) : PS X (.Assign [.Subscript o i tpos] e pos) (sD X.K W (sPut O I E)) :=
  (ps_asg he hst hs hw).imp fun T σ H ⟨ρ, ι, μ, sr, wf, h⟩ => by
    refine tG.mono (PostS.bind sr wf h) ?_
    rintro v H1 ⟨ι1, μ1, dv, l1, w1, vv, h1⟩
    refine tG.mono (PostS.bind (sr.mono l1) w1 h1) ?_
    rintro o H2 ⟨ι2, μ2, d2, l2, w2, v2, h2⟩
    refine tG.mono (PostS.bind (sr.mono (l1.trans l2)) w2 h2) ?_
    rintro i H3 ⟨ι3, μ3, di, l3, w3, v3, h3⟩
    have vo := v2.mono l3
    have vv3 := vv.mono (l2.trans l3)
    split at h3
    · rename_i c k
      cases vo with
      | ref hc =>
      cases v3
      obtain ⟨ob, hob, ro⟩ := w3.has hc
      simp only [hob] at h3
      cases ob with
      | lst ds =>
        obtain ⟨vs, ea, rs⟩ := ro
        simp only [] at h3
        split at h3
        · rename_i j ej
          refine ⟨_, vs, k, j, rfl, rfl, ea, by rw [rs.length]; exact ej, ?_⟩
          refine h3 σ ι3 _ (Le.set hc (nf ea)) (w3.set hc (nf ea) ⟨_, upd_same, (rs.set vv3 j).mono (Le.set hc (nf ea))⟩) ((sr.mono (l1.trans (l2.trans l3))).mono (Le.set hc (nf ea)))
        · exact h3.elim
      | _ => exact h3.elim
    · exact h3.elim
end
end DM

namespace DM
open PySem PySem.Spec L2
/-! ### targets: a name, a tuple of names -/
def TgOk (K : PySem.W.Frag) (g : TG) (f : D → Rho → Option Rho) (own : List Nat) : Prop :=
  ∀ v d σ ρ ρ' ι μ H (Q : L2.St → Hp → Prop), SR K ι H σ ρ → WF K ι μ H → VR K ι H v d → f d ρ = some ρ' → (∀ σ', SR K ι H σ' ρ' → wipe σ' own = wipe σ own → Q σ' H) → g v σ H Q
theorem wipe_set {σ : L2.St} {i : Nat} {x : Option V} : ∀ {vs : List Nat}, i ∈ vs → wipe (σ.set i x) vs = wipe σ vs
  | [], h => by simp at h
  | v :: vs, h => by
    unfold wipe
    by_cases e : i ∈ vs
    · rw [wipe_set e]
    · have e' : i = v := by
        rcases List.mem_cons.mp h with z | z
        · exact z
        · exact absurd z e
      subst e'
      have q : ∀ (ws : List Nat) (τ : L2.St), i ∉ ws → wipe (τ.set i x) ws = (wipe τ ws).set i x := by
        intro ws
        induction ws with
        | nil => intro τ _; rfl
        | cons w ws ih =>
          intro τ n
          have n1 : i ≠ w := fun z => n (by rw [z]; exact List.mem_cons_self)
          have n2 : i ∉ ws := fun z => n (List.mem_cons_of_mem _ z)
          unfold wipe
          rw [ih τ n2, List.set_comm _ _ n1]
      rw [q vs σ e, List.set_set]
def fName (i : Nat) : D → Rho → Option Rho := fun d ρ => some (ρ.set i (some d))
def setAll : List Nat → List D → Rho → Option Rho
  | [], [], ρ => some ρ
  | i :: r, d :: t, ρ => setAll r t (ρ.set i (some d))
  | _, _, _ => none
def fTup (is : List Nat) : D → Rho → Option Rho := fun d ρ => match d with
  | .tup ds => setAll is ds ρ
  | _ => none
def gNames : List Nat → TGs
  | [] => gNil
  | i :: r => gCons (gName i) (gNames r)
section
variable {K : PySem.W.Frag}
theorem tg_name {i : Nat} {own : List Nat} (h : i ∈ own) : TgOk K (gName i) (fName i) own := by
  intro v d σ ρ ρ' ι μ H Q sr wf vr e q
  cases e
  exact q _ (sr.set i vr) (wipe_set h)
theorem tg_names {own : List Nat} : ∀ (is : List Nat), (∀ i ∈ is, i ∈ own) → ∀ (vs : List V) (ds : List D) (σ σ0 : L2.St) (ρ ρ' : Rho) (ι : List Addr) (H : Hp) (Q : L2.St → Hp → Prop), SR K ι H σ ρ → VRs K ι H vs ds → setAll is ds ρ = some ρ' → wipe σ own = wipe σ0 own → (∀ σ', SR K ι H σ' ρ' → wipe σ' own = wipe σ0 own → Q σ' H) → gNames is vs σ H Q
  | [], hi, vs, ds, σ, σ0, ρ, ρ', ι, H, Q, sr, vr, e, z, q => by
    cases vr with
    | nil => simp only [setAll] at e; cases e; exact ⟨rfl, q σ sr z⟩
    | cons a b => simp [setAll] at e
  | i :: r, hi, vs, ds, σ, σ0, ρ, ρ', ι, H, Q, sr, vr, e, z, q => by
    cases vr with
    | nil => simp [setAll] at e
    | cons a b =>
      simp only [setAll] at e
      refine ⟨_, _, rfl, ?_⟩
      exact tg_names r (fun j hj => hi j (List.mem_cons_of_mem _ hj)) _ _ _ σ0 _ ρ' ι H Q (sr.set i a) b e (by rw [wipe_set (hi i List.mem_cons_self)]; exact z) q
theorem setAll_len : ∀ (is : List Nat) (ds : List D) (ρ ρ' : Rho), setAll is ds ρ = some ρ' → ds.length = is.length
  | [], [], _, _, _ => rfl
  | [], _ :: _, _, _, e => by simp [setAll] at e
  | _ :: _, [], _, _, e => by simp [setAll] at e
  | i :: r, d :: t, ρ, ρ', e => by simp only [setAll] at e; simp [setAll_len r t _ _ e]
theorem tg_tup {is own : List Nat} {n : Nat} (hn : is.length = n) (h : ∀ i ∈ is, i ∈ own) : TgOk K (gTup K n (gNames is)) (fTup is) own := by
  intro v d σ ρ ρ' ι μ H Q sr wf vr e q
  cases vr with
  | tup hh r => exact ⟨_, _, rfl, hh.sq, by rw [r.length, setAll_len _ _ _ _ e]; exact hn, tg_names is h _ _ σ σ ρ ρ' ι H Q sr r e rfl q⟩
  | _ => simp [fTup] at e
end
/-! ### what is walked -/
abbrev IV := List D × (Store → Bool)
def ItR (K : PySem.W.Frag) (ι0 : List Addr) (H0 : Hp) (J : It) (p : IV) : Prop :=
  ∀ (i : Nat) ι μ H, Le ι0 H0 ι H → WF K ι μ H → p.2 μ = true → (∀ d, p.1[i]? = some d → J.go i H ∧ ∀ x H', J.yld i H x H' → Le ι H ι H' ∧ WF K ι μ H' ∧ VR K ι H' x d) ∧ (p.1.length ≤ i → J.stop i H)
abbrev tI (K : PySem.W.Frag) (W : DW) (I : CM IV) : TI := tG (ItR K) K W I
def anyG : Store → Bool := fun _ => true
def isLst (c : Nat) (xs : List D) : Store → Bool := fun μ => match μ[c]? with
  | some (.lst ys) => beqs ys xs
  | _ => false
def iSeq (E : CM D) : CM IV := E.bind fun d _ μ => match d with
  | .lst xs => some (.ok (xs, anyG), μ)
  | .fl xs => some (.ok (xs, anyG), μ)
  | .ref c => match μ[c]? with
    | some (.lst xs) => some (.ok (xs, isLst c xs), μ)
    | _ => none
  | _ => none
def iTupD (E : CM D) : CM IV := E.bind fun d _ μ => match d with
  | .tup xs => some (.ok (xs, anyG), μ)
  | _ => none
def rngD (lo : Int) (n : Nat) : List D := (List.range n).map fun (i : Nat) => .int (lo + i)
def iRg1 (E : CM (List D)) : CM IV := E.bind fun ds _ μ => match ds with
  | [.int j] => if -(2 ^ 62) ≤ j ∧ j < 2 ^ 62 then some (.ok (rngD 0 j.toNat, anyG), μ) else none
  | _ => none
def iRg2 (E : CM (List D)) : CM IV := E.bind fun ds _ μ => match ds with
  | [.int i, .int j] => if -(2 ^ 62) ≤ i ∧ i < 2 ^ 62 ∧ -(2 ^ 62) ≤ j ∧ j < 2 ^ 62 then some (.ok (rngD i (j - i).toNat, anyG), μ) else none
  | _ => none
section
variable {K : PySem.W.Frag} {ι : List Addr} {H : Hp}
theorem itr_lst {a : Addr} {vs : List V} {ds : List D} (h : LstAt ι H a vs) (r : VRs K ι H vs ds) : ItR K ι H (Itl K a) (ds, anyG) := by
  intro i ι' μ H' l w _
  have h' := (h.mono l).sq (K := K)
  have r' := r.mono l
  refine ⟨fun d e => ?_, fun e => ⟨vs, h', by rw [r.length]; exact e⟩⟩
  obtain ⟨v, e1, q⟩ := r'.get e
  refine ⟨⟨vs, v, h', e1⟩, fun x H'' y => ?_⟩
  obtain ⟨rfl, y⟩ := y
  have z := y vs h'
  rw [e1] at z
  cases z
  exact ⟨Le.refl _ _, w, q⟩
theorem itr_fl {a : Addr} {vs : List V} {ds : List D} (h : FlAt K ι H a vs) (r : VRs K ι H vs ds) : ItR K ι H (Itl K a) (ds, anyG) := by
  intro i ι' μ H' l w _
  have h' := (h.mono l).sq (K := K)
  have r' := r.mono l
  refine ⟨fun d e => ?_, fun e => ⟨vs, h', by rw [r.length]; exact e⟩⟩
  obtain ⟨v, e1, q⟩ := r'.get e
  refine ⟨⟨vs, v, h', e1⟩, fun x H'' y => ?_⟩
  obtain ⟨rfl, y⟩ := y
  have z := y vs h'
  rw [e1] at z
  cases z
  exact ⟨Le.refl _ _, w, q⟩
theorem itr_tup {a : Addr} {vs : List V} {ds : List D} (h : TupAt K ι H a vs) (r : VRs K ι H vs ds) : ItR K ι H (Itt K a) (ds, anyG) := by
  intro i ι' μ H' l w _
  have h' := (h.mono l).sq (K := K)
  have r' := r.mono l
  refine ⟨fun d e => ?_, fun e => ⟨vs, h', by rw [r.length]; exact e⟩⟩
  obtain ⟨v, e1, q⟩ := r'.get e
  refine ⟨⟨vs, v, h', e1⟩, fun x H'' y => ?_⟩
  obtain ⟨rfl, y⟩ := y
  have z := y vs h'
  rw [e1] at z
  cases z
  exact ⟨Le.refl _ _, w, q⟩
theorem itr_cell {c : Nat} {a : Addr} {ds : List D} (hc : ι[c]? = some a) : ItR K ι H (Itl K a) (ds, isLst c ds) := by
  intro i ι' μ H' l w g
  have hc' := l.pre _ _ hc
  obtain ⟨o, ho, ro⟩ := w.has hc'
  have g' : (match μ[c]? with | some (Ob.lst ys) => beqs ys ds | _ => false) = true := g
  rw [ho] at g'
  cases o with
  | lst ys =>
    have e0 : ys = ds := beqs_eq _ _ g'
    subst e0
    obtain ⟨vs, ea, r⟩ := ro
    have h' : SqL K H' a vs := .inl (.inl ea)
    refine ⟨fun d e => ?_, fun e => ⟨vs, h', by rw [r.length]; exact e⟩⟩
    obtain ⟨v, e1, q⟩ := r.get e
    refine ⟨⟨vs, v, h', e1⟩, fun x H'' y => ?_⟩
    obtain ⟨rfl, y⟩ := y
    have z := y vs h'
    rw [e1] at z
    cases z
    exact ⟨Le.refl _ _, w, q⟩
  | _ => cases g'
theorem itr_rng (lo : Int) (n : Nat) : ItR K ι H (Itr lo n) (rngD lo n, anyG) := by
  intro i ι' μ H' l w _
  refine ⟨fun d e => ?_, fun e => ?_⟩
  · have hl : i < n := by
      have := (List.getElem?_eq_some_iff.mp e).1
      simpa [rngD] using this
    refine ⟨hl, fun x H'' y => ?_⟩
    obtain ⟨rfl, rfl⟩ := y
    have e' : d = .int (lo + i) := by
      have : (rngD lo n)[i]? = some d := e
      unfold rngD at this
      rw [List.getElem?_map, List.getElem?_range hl] at this
      cases this; rfl
    subst e'
    exact ⟨Le.refl _ _, w, .int _⟩
  · have : (rngD lo n).length ≤ i := e
    unfold rngD at this
    simp at this
    exact this
end
section
variable {X : Cx} {W : DW} {e tg : Expr} {E : CM D} {As : CM (List D)} {pos p : Pos} {a b : Expr}
theorem di_tup (he : PE X e (tE X.K W E)) : PI X tg e (tI X.K W (iTupD E)) := (pi_tup he).imp fun σ H R ⟨ρ, ι, μ, sr, wf, h⟩ => by
  refine tG.mono (PostG.bind sr wf h) ?_
  rintro x H1 ⟨ι1, μ1, d, l1, w1, vx, h1⟩
  cases vx with
  | tup hh r => exact ⟨_, rfl, ⟨_, hh.sq⟩, PostG.ok0 h1 w1 (itr_tup hh r)⟩
  | _ => exact h1.elim
theorem di_rg1 (hg : Gl X "range") (hm : X.mg "range" = none) (ha : PA X [a] (tA X.K W As)) (hs : starEach [a] X.env = [(false, eval a X.env)] := by rfl) : PI X tg (.Call (.Name "range" p) [a] [] pos) (tI X.K W (iRg1 As)) :=
  (pi_range1 hg hm ha hs).imp fun σ H R ⟨ρ, ι, μ, sr, wf, h⟩ => by
    refine tG.mono (PostG.bind sr wf h) ?_
    rintro xs H1 ⟨ι1, μ1, ds, l1, w1, vx, h1⟩
    split at h1
    · obtain ⟨x, rfl, v1⟩ := vx.one
      cases v1
      obtain ⟨q, h1⟩ := PostG.guard h1
      exact ⟨_, rfl, q.1, q.2, PostG.ok0 h1 w1 (itr_rng 0 _)⟩
    · exact h1.elim
theorem di_rg2 (hg : Gl X "range") (hm : X.mg "range" = none) (ha : PA X [a, b] (tA X.K W As)) (hs : starEach [a, b] X.env = [(false, eval a X.env), (false, eval b X.env)] := by rfl) (hs2 : starEach [b] X.env = [(false, eval b X.env)] := by rfl) : PI X tg (.Call (.Name "range" p) [a, b] [] pos) (tI X.K W (iRg2 As)) :=
  (pi_range2 hg hm ha hs hs2).imp fun σ H R ⟨ρ, ι, μ, sr, wf, h⟩ => by
    refine tG.mono (PostG.bind sr wf h) ?_
    rintro xs H1 ⟨ι1, μ1, ds, l1, w1, vx, h1⟩
    split at h1
    · obtain ⟨x, y, rfl, v1, v2⟩ := vx.two
      cases v1; cases v2
      obtain ⟨q, h1⟩ := PostG.guard h1
      exact ⟨_, _, rfl, q, PostG.ok0 h1 w1 (itr_rng _ _)⟩
    · exact h1.elim
end
/-! ### for -/
def loop (gd : Store → Bool) (g : D → Rho → Option Rho) (S : SF) : List D → SF
  | [] => fun ρ μ => if gd μ = true then some (.nx ρ, μ) else none
  | d :: r => fun ρ μ => if gd μ = true then (match g d ρ with
      | some ρ1 => match S ρ1 μ with
        | some (.nx ρ2, μ2) => loop gd g S r ρ2 μ2
        | some (.ct ρ2, μ2) => loop gd g S r ρ2 μ2
        | some (.bk ρ2, μ2) => some (.nx ρ2, μ2)
        | some (.rt d, μ2) => some (.rt d, μ2)
        | some (.ex x ρ2, μ2) => some (.ex x ρ2, μ2)
        | none => none
      | none => none) else none
def sFor (I : CM IV) (g : D → Rho → Option Rho) (S : SF) : SF := lft I fun p => loop p.2 g S p.1
theorem ds_for {X : Cx} {W : DW} {tg iter : Expr} {body : List Stmt} {I : CM IV} {g : TG} {f : D → Rho → Option Rho} {own : List Nat} {S : SF} {pos : Pos} (hp : PassesOwn (model X.prog X.w) X.A X.env X.xe) (hc : X.calm = true) (hi : PI X tg iter (tI X.K W I)) (hg : PG X tg g) (ht : TgOk X.K g f own) (hb : PSs X body (sD X.K W S))
    (hs : ∀ x, foldedSetIterable iter X.env x = pure x := by intro _; rfl) : PS X (.For tg iter body [] pos) (sD X.K W (sFor I f S)) := (ps_for hp hc hi hg hb hs).imp fun T σ H ⟨ρ, ι, μ, sr, wf, h⟩ => by
  refine tG.mono (PostS.bind sr wf h) ?_
  rintro J H1 ⟨ι1, μ1, ⟨items, gd⟩, l1, w1, hJ, h1⟩
  have h1 : PostS X.K W T ι1 H1 (loop gd f S items ρ μ1) := h1
  refine ⟨fun i m σ' H' => ∃ ρ' ι' μ', SR X.K ι' H' σ' ρ' ∧ WF X.K ι' μ' H' ∧ Le ι1 H1 ι' H' ∧ m = items.length - i ∧ i ≤ items.length ∧ PostS X.K W T ι' H' (loop gd f S (items.drop i) ρ' μ'),
    ⟨items.length, ρ, ι1, μ1, sr.mono l1, w1, Le.refl _ _, rfl, Nat.zero_le _, h1⟩, ?_⟩
  rintro i m σ2 H2 ⟨ρ2, ι2, μ2, sr2, w2, l2, rfl, hi2, h2⟩
  by_cases hlt : i < items.length
  · refine .inr ?_
    rw [List.drop_eq_getElem_cons hlt] at h2
    obtain ⟨hgd, h2⟩ := PostS.guard h2
    obtain ⟨go, _⟩ := hJ i ι2 μ2 H2 l2 w2 hgd
    obtain ⟨jg, jy⟩ := go _ (List.getElem?_eq_getElem hlt)
    refine ⟨jg, fun σ' H' => ∃ ρ' ι' μ', SR X.K ι' H' σ' ρ' ∧ WF X.K ι' μ' H' ∧ Le ι1 H1 ι' H' ∧ PostS X.K W T ι' H' (loop gd f S (items.drop (i + 1)) ρ' μ'), fun σ' H' ⟨ρ', ι', μ', a, b, c, d⟩ => ⟨items.length - (i + 1), by omega, ρ', ι', μ', a, b, c, rfl, hlt, d⟩, fun x H3 y => ?_⟩
    obtain ⟨l3, w3, v3⟩ := jy x H3 y
    split at h2
    · rename_i ρ3 eg
      refine ht x _ σ2 ρ2 ρ3 ι2 μ2 H3 _ (sr2.mono l3) w3 v3 eg fun σ3 sr3 _ => ⟨ρ3, ι2, μ2, sr3, w3, ?_⟩
      have h3 := PostS.from l3 h2
      have L := l2.trans l3
      match S ρ3 μ2, h3 with
      | some (.nx ρ4, μ4), h3 => exact fun σ4 ι4 H4 l w s => ⟨ρ4, ι4, μ4, s, w, L.trans l, PostS.from l h3⟩
      | some (.ct ρ4, μ4), h3 => exact fun σ4 ι4 H4 l w s => ⟨ρ4, ι4, μ4, s, w, L.trans l, PostS.from l h3⟩
      | some (.bk ρ4, μ4), h3 => exact h3
      | some (.rt d, μ4), h3 => exact h3
      | some (.ex x ρ4, μ4), h3 => exact h3
    · exact h2.elim
  · have e : i = items.length := by omega
    subst e
    rw [List.drop_length] at h2
    obtain ⟨hgd, h2⟩ := PostS.guard h2
    obtain ⟨_, st⟩ := hJ items.length ι2 μ2 H2 l2 w2 hgd
    exact .inl ⟨st (Nat.le_refl _), h2.nx0 w2 sr2⟩
end DM

namespace DM
open PySem PySem.Spec L2
/-! ### list comprehensions: the new list is a cell -/
def wipeR (ρ : Rho) : List Nat → Rho
  | [] => ρ
  | v :: vs => (wipeR ρ vs).set v none
theorem SR.unset {K : PySem.W.Frag} {ι : List Addr} {H : Hp} {σ : L2.St} {ρ : Rho} (s : SR K ι H σ ρ) (i : Nat) : SR K ι H (σ.set i none) (ρ.set i none) := by
  refine ⟨by simp [s.len], fun j e hj => ?_⟩
  by_cases z : i = j
  · subst z
    have hl : i < (ρ.set i none).length := (List.getElem?_eq_some_iff.mp hj).1
    rw [List.length_set] at hl
    rw [List.getElem?_set_self hl] at hj
    cases hj
  · rw [List.getElem?_set_ne z] at hj
    obtain ⟨w, a, b⟩ := s.at' j e hj
    exact ⟨w, by rw [List.getElem?_set_ne z]; exact a, b⟩
theorem SR.wipe {K : PySem.W.Frag} {ι : List Addr} {H : Hp} {σ : L2.St} {ρ : Rho} (s : SR K ι H σ ρ) : ∀ vs : List Nat, SR K ι H (L2.wipe σ vs) (wipeR ρ vs)
  | [] => s
  | v :: vs => (SR.wipe s vs).unset v
theorem wipe_sub {σ : L2.St} {vs : List Nat} : ∀ us : List Nat, (∀ u ∈ us, u ∈ vs) → wipe (wipe σ us) vs = wipe σ vs
  | [], _ => rfl
  | u :: us, h => by
    show wipe ((wipe σ us).set u none) vs = wipe σ vs
    rw [wipe_set (h u List.mem_cons_self)]
    exact wipe_sub us fun z hz => h z (List.mem_cons_of_mem _ hz)
def lcLoop (gd : Store → Bool) (g : D → Rho → Option Rho) (T : CM Bool) (E : CM D) (c : Nat) : List D → CM D
  | [] => fun _ μ => if gd μ = true then okR (.ref c) μ else none
  | d :: r => fun ρ μ => if gd μ = true then (match g d ρ with
      | some ρ1 => match T ρ1 μ with
        | some (.ok true, μ1) => match E ρ1 μ1 with
          | some (.ok y, μ2) => match μ2[c]? with
            | some (.lst acc) => if acc.length < sizeLine then lcLoop gd g T E c r ρ (μ2.set c (.lst (acc ++ [y]))) else none
            | _ => none
          | _ => none
        | some (.ok false, μ1) => lcLoop gd g T E c r ρ μ1
        | _ => none
      | none => none) else none
def eLC (I : CM IV) (g : D → Rho → Option Rho) (T : CM Bool) (E : CM D) (own : List Nat) : CM D := I.bind fun p ρ μ => lcLoop p.2 g T E μ.length p.1 (wipeR ρ own) (μ ++ [.lst []])
abbrev bYes : CM Bool := CM.ret true
section
variable {X : Cx} {W : DW}
theorem dts_nil : PTs X [] (tT X.K W bYes) := ⟨fun pins s σ H Q I ⟨ρ, ι, μ, sr, wf, h⟩ => pts_nil.run pins s σ H Q I (PostG.ok0 h wf rfl)⟩
theorem dts_one {c : Expr} {T : CM Bool} (h : PT X c (tT X.K W T)) : PTs X [c] (tT X.K W T) := pts_one h
theorem lcAux {K : PySem.W.Frag} {I : CM IV} {g : TG} {f : D → Rho → Option Rho} {T : CM Bool} {E : CM D} {vs : List Nat} (ht : TgOk K g f vs) (σ : L2.St) (H : Hp) (Q : VK) (h : tE K W (eLC I f T E vs) σ H Q) : tLc (tI K W I) g (tT K noX T) (tE K noX E) vs σ H Q := by
  obtain ⟨ρ, ι, μ, sr, wf, h⟩ := h
  refine tG.mono (PostG.bind sr wf h) ?_
  rintro J H1 ⟨ι1, μ1, ⟨items, gd⟩, l1, w1, hJ, h1⟩ Dd hD
  have h1 : PostG (VR K) K W σ ι1 H1 Q (lcLoop gd f T E μ1.length items (wipeR ρ vs) (μ1 ++ [.lst []])) := h1
  have lc := Le.cell (ι := ι1) (o := HO.lst []) hD
  have wc : WF K (ι1 ++ [Dd]) (μ1 ++ [.lst []]) (upd H1 Dd (.lst [])) := w1.cell hD ⟨[], upd_same, .nil⟩
  have hcc : (ι1 ++ [Dd])[μ1.length]? = some Dd := by rw [← w1.len]; simp
  have h1' := PostG.from lc h1
  refine ⟨fun i m H' => ∃ ι' μ', WF K ι' μ' H' ∧ Le (ι1 ++ [Dd]) (upd H1 Dd (.lst [])) ι' H' ∧ m = items.length - i ∧ i ≤ items.length ∧ PostG (VR K) K W σ ι' H' Q (lcLoop gd f T E μ1.length (items.drop i) (wipeR ρ vs) μ'),
    ⟨items.length, ι1 ++ [Dd], μ1 ++ [Ob.lst []], wc, Le.refl _ _, rfl, Nat.zero_le _, by rw [List.drop_zero]; exact h1'⟩, ?_⟩
  rintro i m H2 ⟨ι2, μ2, w2, l2, rfl, hi2, h2⟩
  have sr2 : SR K ι2 H2 (wipe σ vs) (wipeR ρ vs) := (sr.mono (l1.trans (lc.trans l2))).wipe vs
  have hcD : ι2[μ1.length]? = some Dd := l2.pre _ _ hcc
  by_cases hlt : i < items.length
  · refine .inr ?_
    rw [List.drop_eq_getElem_cons hlt] at h2
    obtain ⟨hgd, h2⟩ := PostG.guard h2
    obtain ⟨go, _⟩ := hJ i ι2 μ2 H2 (lc.trans l2) w2 hgd
    obtain ⟨jg, jy⟩ := go _ (List.getElem?_eq_getElem hlt)
    refine ⟨jg, fun H' => ∃ ι' μ', WF K ι' μ' H' ∧ Le (ι1 ++ [Dd]) (upd H1 Dd (.lst [])) ι' H' ∧ PostG (VR K) K W σ ι' H' Q (lcLoop gd f T E μ1.length (items.drop (i + 1)) (wipeR ρ vs) μ'), fun H' ⟨ι', μ', a, b, c⟩ => ⟨items.length - (i + 1), by omega, ι', μ', a, b, rfl, hlt, c⟩, fun x H3 y => ?_⟩
    obtain ⟨l3, w3, v3⟩ := jy x H3 y
    split at h2
    · rename_i ρ3 eg
      refine ht x _ (wipe σ vs) (wipeR ρ vs) ρ3 ι2 μ2 H3 _ (sr2.mono l3) w3 v3 eg fun σ3 sr3 hw => ⟨hw.trans (wipe_sub vs fun _ z => z), ρ3, ι2, μ2, sr3, w3, ?_⟩
      have h3 := PostG.from l3 h2
      have L := l2.trans l3
      match T ρ3 μ2, h3 with
      | some (.ok true, μ4), h3 =>
        intro ι4 H4 b l4 w4 eb
        subst eb
        rw [if_pos rfl]
        refine ⟨ρ3, ι4, μ4, sr3.mono l4, w4, ?_⟩
        have h4 := PostG.from l4 h3
        simp only [] at h4
        generalize E ρ3 μ4 = rE at h4 ⊢
        match rE, h4 with
        | some (.ok yd, μ5), h4 =>
          intro ι5 H5 yv l5 w5 vy
          have hc5 := l5.pre _ _ (l4.pre _ _ hcD)
          obtain ⟨o, ho, ro⟩ := w5.has hc5
          simp only [ho] at h4
          cases o with
          | lst acc =>
            obtain ⟨av, ea, ra⟩ := ro
            obtain ⟨q, h4⟩ := PostG.guard h4
            refine ⟨av, ea, by rw [ra.length]; exact q, ι5, _, w5.set hc5 (nf ea) (OR.mkL upd_same ((ra.append (.cons vy .nil)).mono (Le.set hc5 (nf ea)))), ((L.trans l4).trans l5).trans (Le.set hc5 (nf ea)), PostG.from (l5.trans (Le.set hc5 (nf ea))) h4⟩
          | _ => exact h4.elim
      | some (.ok false, μ4), h3 =>
        intro ι4 H4 b l4 w4 eb
        subst eb
        rw [if_neg Bool.false_ne_true]
        exact ⟨ι4, μ4, w4, L.trans l4, PostG.from l4 h3⟩
    · exact h2.elim
  · have e : i = items.length := by omega
    subst e
    rw [List.drop_length] at h2
    obtain ⟨hgd, h2⟩ := PostG.guard h2
    obtain ⟨_, st⟩ := hJ items.length ι2 μ2 H2 (lc.trans l2) w2 hgd
    exact .inl ⟨st (Nat.le_refl _), h2.ok0 w2 (.ref hcD)⟩
theorem d_lc {elt tg iter : Expr} {ifs : List Expr} {scope : Scope} {own : List (Str × Nat)} {pos : Pos} {I : CM IV} {g : TG} {f : D → Rho → Option Rho} {T : CM Bool} {E : CM D} (hc : X.calm = true) (hN : X.N.Nodup) (hi : PI X tg iter (tI X.K W I)) (ok : BlkOk X.N X.env.scope scope own)
    (hg : ∀ (s : Shared) (H : Hp) (C : Addr) (cl : List (Str × Addr)) (fp : List Addr), PG (X.blk s H scope (compEnvC scope cl C X.env) fp) tg g) (htg : TgOk X.K g f (own.map (·.2)))
    (ht : ∀ (s : Shared) (H : Hp) (C : Addr) (cl : List (Str × Addr)) (fp : List Addr), PTs (X.blk s H scope (compEnvC scope cl C X.env) fp) ifs (tT X.K noX T))
    (he : ∀ (s : Shared) (H : Hp) (C : Addr) (cl : List (Str × Addr)) (fp : List Addr), PE (X.blk s H scope (compEnvC scope cl C X.env) fp) elt (tE X.K noX E)) (hs : ∀ x, foldedSetIterable iter X.env x = pure x := by intro _; rfl) :
    PE X (.ListComp elt [⟨tg, iter, ifs, 0⟩] scope pos) (tE X.K W (eLC I f T E (own.map (·.2)))) := (pe_lc hc hN hi ok hg ht he hs).imp (lcAux htg)
end
/-! ### sealing: what was made within, and is reached by the result alone, is data -/
mutual
def noRef (n : Nat) : D → Bool
  | .non => true
  | .bl _ => true
  | .int _ => true
  | .str _ => true
  | .tup xs => noRefs n xs
  | .lst xs => noRefs n xs
  | .fl xs => noRefs n xs
  | .ref i => decide (i < n)
def noRefs (n : Nat) : List D → Bool
  | [] => true
  | x :: r => noRef n x && noRefs n r
end
def obOk (n : Nat) : Ob → Bool
  | .lst xs => noRefs n xs
  | .obj _ fs => noRefs n (fs.map (·.2))
  | .dct kvs => noRefs n (kvs.map (·.2))
  | .dcl kvs => noRefs n (kvs.map (·.2))
  | .dtt kvs => noRefs n (kvs.map (·.2))
  | .exc _ fs => noRefs n (fs.map (·.2))
  | .tab _ => true
  | .dnk kvs => noRefs n (kvs.map fun kv => D.tup kv.1) && noRefs n (kvs.map (·.2))
def mapO (f : D → Option D) : List D → Option (List D)
  | [] => some []
  | x :: r => match f x, mapO f r with
    | some y, some t => some (y :: t)
    | _, _ => none
def unref (n : Nat) (μ : Store) : Nat → D → Option D
  | 0, d => if noRef n d = true then some d else none
  | k + 1, d => if noRef n d = true then some d else match d with
    | .tup xs => (mapO (unref n μ k) xs).map .tup
    | .lst xs => (mapO (unref n μ k) xs).map .lst
    | .ref i => match μ[i]? with
      | some (.lst xs) => (mapO (unref n μ k) xs).map .lst
      | _ => none
    | _ => none
def sealR (n : Nat) (r : Res D) : Res D := match r with
  | some (.ok d, μ') => if (μ'.take n).all (obOk n) = true then (match unref n μ' 4 d with
    | some d' => some (.ok d', μ'.take n)
    | none => none) else none
  | some (.error x, μ') => some (.error x, μ')
  | none => none
def eSeal (E : CM D) : CM D := fun ρ μ => sealR μ.length (E ρ μ)
section
variable {K : PySem.W.Frag} {ι ι' : List Addr} {H' : Hp} {n : Nat}
mutual
theorem VR.cut (hn : ∀ i a, i < n → ι'[i]? = some a → ι[i]? = some a) (hs : ∀ a, a ∈ ι → a ∈ ι') : ∀ {v : V} {d : D}, VR K ι' H' v d → noRef n d = true → VR K ι H' v d
  | _, _, .non, _ => .non
  | _, _, .bl b, _ => .bl b
  | _, _, .int i, _ => .int i
  | _, _, .str x, _ => .str x
  | _, _, .tup h r, e => .tup (h.imp (fun z => ⟨z.1, fun m => z.2 (hs _ m)⟩) (Or.imp id fun z => ⟨z.1, fun m => z.2.1 (hs _ m), z.2.2⟩)) (VRs.cut hn hs r (by simpa [noRef] using e))
  | _, _, .lst h r, e => .lst ⟨h.1, fun m => h.2 (hs _ m)⟩ (VRs.cut hn hs r (by simpa [noRef] using e))
  | _, _, .fl h r, e => .fl (h.imp (fun z => ⟨z.1, fun m => z.2 (hs _ m)⟩) id) (VRs.cut hn hs r (by simpa [noRef] using e))
  | _, _, .ref h, e => .ref (hn _ _ (by simpa [noRef] using e) h)
theorem VRs.cut (hn : ∀ i a, i < n → ι'[i]? = some a → ι[i]? = some a) (hs : ∀ a, a ∈ ι → a ∈ ι') : ∀ {vs : List V} {ds : List D}, VRs K ι' H' vs ds → noRefs n ds = true → VRs K ι H' vs ds
  | _, _, .nil, _ => .nil
  | _, _, .cons h r, e => by
    simp only [noRefs, Bool.and_eq_true] at e
    exact .cons (VR.cut hn hs h e.1) (VRs.cut hn hs r e.2)
end
theorem unref_vr {μ' : Store} (w : WF K ι' μ' H') (hn : ∀ i a, i < n → ι'[i]? = some a → ι[i]? = some a) (hs : ∀ a, a ∈ ι → a ∈ ι') (ho : ∀ (i : Nat) a, ι'[i]? = some a → ¬ i < n → a ∉ ι) :
    ∀ (k : Nat) (v : V) (d d' : D), VR K ι' H' v d → unref n μ' k d = some d' → VR K ι H' v d' := by
  intro k
  induction k with
  | zero =>
    intro v d d' h e
    unfold unref at e
    by_cases z : noRef n d = true
    · rw [if_pos z] at e; cases e; exact h.cut hn hs z
    · rw [if_neg z] at e; cases e
  | succ k ih =>
    intro v d d' h e
    have all : ∀ (ds : List D) (vs : List V) (ds' : List D), VRs K ι' H' vs ds → mapO (unref n μ' k) ds = some ds' → VRs K ι H' vs ds' := by
      intro ds
      induction ds with
      | nil => intro vs ds' r e; cases r; simp only [mapO] at e; cases e; exact .nil
      | cons x t iht =>
        intro vs ds' r e
        cases r with
        | cons a b =>
          simp only [mapO] at e
          match e1 : unref n μ' k x, e2 : mapO (unref n μ' k) t, e with
          | some y, some u, e => cases e; exact .cons (ih _ _ _ a e1) (iht _ _ b e2)
    unfold unref at e
    by_cases z : noRef n d = true
    · rw [if_pos z] at e; cases e; exact h.cut hn hs z
    · rw [if_neg z] at e
      cases h with
      | tup hh r =>
        obtain ⟨t, e1, rfl⟩ := Option.map_eq_some_iff.mp e
        exact .tup (hh.imp (fun z => ⟨z.1, fun m => z.2 (hs _ m)⟩) (Or.imp id fun z => ⟨z.1, fun m => z.2.1 (hs _ m), z.2.2⟩)) (all _ _ _ r e1)
      | lst hh r =>
        obtain ⟨t, e1, rfl⟩ := Option.map_eq_some_iff.mp e
        exact .lst ⟨hh.1, fun m => hh.2 (hs _ m)⟩ (all _ _ _ r e1)
      | ref hi =>
        rename_i a i
        have hi' : ¬ i < n := by simpa [noRef] using z
        obtain ⟨o, hob, ro⟩ := w.has hi
        simp only [hob] at e
        cases o with
        | lst xs =>
          obtain ⟨t, e1, rfl⟩ := Option.map_eq_some_iff.mp e
          obtain ⟨vs, ea, r⟩ := ro
          exact .lst ⟨ea, ho _ _ hi hi'⟩ (all _ _ _ r e1)
        | _ => cases e
      | _ => cases e
end
theorem sealAux {K : PySem.W.Frag} {W : DW} {σ : L2.St} {ι : List Addr} {H : Hp} {Q : VK} {μ : Store} {r : Res D} (wf : WF K ι μ H) (h : PostG (VR K) K W σ ι H Q (sealR μ.length r)) : PostG (VR K) K W σ ι H Q r := by
  unfold sealR at h
  match r, h with
  | some (.ok d, μ'), h =>
    obtain ⟨hob, h⟩ := PostG.guard h
    match e : unref μ.length μ' 4 d, h with
    | some d', h =>
      intro ι' H' v l w r
      have hlen : ι.length = μ.length := wf.len
      have hn : ∀ i a, i < μ.length → ι'[i]? = some a → ι[i]? = some a := fun i a hi q => by
        rw [← hlen] at hi
        have q2 := l.pre i _ (List.getElem?_eq_getElem hi)
        rw [q] at q2
        rw [List.getElem?_eq_getElem hi, q2]
      have hs : ∀ a, a ∈ ι → a ∈ ι' := fun a ha => by
        obtain ⟨i, hi⟩ := List.getElem?_of_mem ha
        exact List.mem_of_getElem? (l.pre _ _ hi)
      have ho : ∀ (i : Nat) a, ι'[i]? = some a → ¬ i < μ.length → a ∉ ι := fun i a hi hni ha => by
        obtain ⟨j, hj⟩ := List.getElem?_of_mem ha
        have hj2 := l.pre _ _ hj
        have hjl : j < μ.length := by rw [← hlen]; exact (List.getElem?_eq_some_iff.mp hj).1
        have h1 := List.getElem?_eq_some_iff.mp hi
        have h2 := List.getElem?_eq_some_iff.mp hj2
        have := (List.getElem_inj w.nd).mp (h1.2.trans h2.2.symm)
        omega
      have le : Le ι H ι H' := ⟨fun _ _ z => z, fun _ z n => absurd z n, fun a o n z => l.keep a o n z, l.frz⟩
      have hle : μ.length ≤ μ'.length := by
        rw [← w.len, ← hlen]
        by_cases z : ι.length = 0
        · omega
        · have hi : ι.length - 1 < ι.length := by omega
          have := (List.getElem?_eq_some_iff.mp (l.pre _ _ (List.getElem?_eq_getElem hi))).1
          omega
      have wf' : WF K ι (μ'.take μ.length) H' := by
        refine ⟨by rw [List.length_take, hlen]; omega, wf.nd, fun i a o hi hu => ?_⟩
        have hil : i < μ.length := by rw [← hlen]; exact (List.getElem?_eq_some_iff.mp hi).1
        rw [List.getElem?_take_of_lt hil] at hu
        have q := w.ob i a o (l.pre _ _ hi) hu
        have qo : obOk μ.length o = true := List.all_eq_true.mp hob o (List.mem_of_getElem? (by rw [List.getElem?_take_of_lt hil]; exact hu))
        cases o with
        | lst xs =>
          obtain ⟨vs, ea, r⟩ := q
          exact ⟨vs, ea, r.cut hn hs qo⟩
        | obj C fs =>
          obtain ⟨dx, gs, ea, k, r, z⟩ := q
          exact ⟨dx, gs, ea, k, r.cut hn hs qo, z⟩
        | dct kvs =>
          obtain ⟨qs, ea, k, r⟩ := q
          exact ⟨qs, ea, k, r.cut hn hs qo⟩
        | dcl kvs =>
          obtain ⟨u, qs, ea, k, r⟩ := q
          exact ⟨u, qs, ea, k, r.cut hn hs qo⟩
        | dtt kvs =>
          obtain ⟨qs, ea, k, r⟩ := q
          exact ⟨qs, ea, k, r.cut hn hs qo⟩
        | exc C fs =>
          obtain ⟨d, gs, ea, ed, nd, k, r⟩ := q
          exact ⟨d, gs, ea, ed, fun m => nd (hs _ m), k, r.cut hn hs qo⟩
        | tab tx =>
          obtain ⟨z, ps, e1, e2, e3⟩ := q
          exact ⟨z, ps, e1, e2, fun pos cv hc => let ⟨c, a1, a2, a3⟩ := e3 pos cv hc; ⟨c, a1, a2, fun m => a3 (hs _ m)⟩⟩
        | dnk kvs =>
          obtain ⟨bs, vs, ea, k, r, z⟩ := q
          have qo : (noRefs μ.length (kvs.map fun kv => D.tup kv.1) && noRefs μ.length (kvs.map (·.2))) = true := qo
          rw [Bool.and_eq_true] at qo
          exact ⟨bs, vs, ea, k.cut hn hs qo.1, r.cut hn hs qo.2, z⟩
      exact h.ok le wf' (unref_vr w hn hs ho 4 v d d' r e)
  | some (.error x, μ'), h => exact h
theorem d_seal {X : Cx} {W : DW} {e : Expr} {E : CM D} (h : PE X e (tE X.K W E)) : PE X e (tE X.K W (eSeal E)) := h.imp fun σ H Q ⟨ρ, ι, μ, sr, wf, h⟩ => ⟨ρ, ι, μ, sr, wf, sealAux wf h⟩
end DM

namespace DM
open PySem PySem.Spec L2
open PyProof.Rows (envOfC)
/-! ### defs -/
abbrev XRel := Ex → Value → Option Addr → List Addr → Hp → Prop
abbrev FD := List D → Store → Res D
/-- an own exception: its class, its fields in its dict -/
def xrS (K : PySem.W.Frag) : XRel := fun x c dd ι H => c = .ref (He.ga K x.cls) ∧ ∃ d gs, dd = some d ∧ d ∉ ι ∧ H d = some (.xd gs) ∧ gs.map (·.1) = x.fs.map (·.1) ∧ VRs K ι H (gs.map (·.2)) (x.fs.map (·.2))
/-- this context takes the exceptions that W wishes -/
def TkX (X : Cx) (W : DW) : Prop := ∃ W' : WX, Takes X W' ∧ ∀ x ι c dd σ H, W x ι σ H → xrS X.K x c dd ι H → W' c dd σ H
theorem nx_no {X : Cx} : TkX X noX := ⟨fun _ _ _ _ => False, takes0, fun _ _ _ _ _ _ h _ => h⟩
def PostF (K : PySem.W.Frag) (xr : XRel) (ι : List Addr) (H : Hp) (Q : VK) (E : XK) : Res D → Prop
  | some (.ok d, μ') => ∀ ι' H' v, Le ι H ι' H' → WF K ι' μ' H' → VR K ι' H' v d → Q v H'
  | some (.error x, μ') => ∀ ι' H' c dd, Le ι H ι' H' → WF K ι' μ' H' → xr x c dd ι' H' → E c dd H'
  | none => False
structure FnG (P : Program) (w : World) (K : PySem.W.Frag) (mg : Str → Option Value) (base : Heap) (xr : XRel) (k : Nat) (f : Addr) (fd : FuncData) (ps : List Str) (F : FD) : Prop where
  go : ∀ {A : Around} {outer : List Env} {s : Shared} {H : Hp} {args : Args} {us : List Value} {vs : List V} {ι : List Addr} {μ : Store} {ds : List D} {Q : VK} {E : XK},
    Room k A → A.guards = some [] → Env0 P w K mg base A outer s H → BindsTo s fd args (ps.zip us) → Vals vs us → vs.length = ps.length → WF K ι μ H → VRs K ι H vs ds → PostF K xr ι H Q E (F ds μ) →
      codeAny (model P w) A (.call (.ref f) args) (CR (L2.CX P w) outer P w H s Q E) s
theorem FnG.mono {P : Program} {w : World} {K : PySem.W.Frag} {mg : Str → Option Value} {base : Heap} {xr : XRel} {j k : Nat} {f : Addr} {fd : FuncData} {ps : List Str} {F : FD} (h : FnG P w K mg base xr j f fd ps F) (l : j ≤ k) : FnG P w K mg base xr k f fd ps F :=
  ⟨fun hr => h.go (hr.mono l)⟩
/-- what a body's statement gives, as a def's result -/
def resOf : Option (Fl × Store) → Res D
  | some (.nx _, μ) => some (.ok .non, μ)
  | some (.rt d, μ) => some (.ok d, μ)
  | some (.ex x _, μ) => some (.error x, μ)
  | _ => none
def startR (n : Nat) (ds : List D) : Rho := ds.map some ++ List.replicate (n - ds.length) none
/-- n: all names; m: the parameters -/
def fnD (n m : Nat) (S : SF) : FD := fun ds μ => if ds.length = m then resOf (S (startR n ds) μ) else none
def noExS (S : SF) : SF := fun ρ μ => match S ρ μ with
  | some (.ex _ _, _) => none
  | o => o
def resP : Option (Fl × Store) → Res D
  | some (.nx _, μ) => some (.ok .non, μ)
  | some (.rt d, μ) => some (.ok d, μ)
  | _ => none
def fnP (n m : Nat) (S : SF) : FD := fun ds μ => if ds.length = m then resP (S (startR n ds) μ) else none
def fnSeal (F : FD) : FD := fun ds μ => sealR μ.length (F ds μ)
theorem SR.start {K : PySem.W.Frag} {ι : List Addr} {H : Hp} {N : List Str} {vs : List V} {ds : List D} (r : VRs K ι H vs ds) : SR K ι H (start N vs) (startR N.length ds) := by
  unfold L2.start startR
  refine ⟨by simp [r.length], fun i d h => ?_⟩
  by_cases hi : i < ds.length
  · rw [List.getElem?_append_left (by simpa using hi), List.getElem?_map] at h
    obtain ⟨e, h1, h2⟩ := Option.map_eq_some_iff.mp h
    cases h2
    obtain ⟨v, q1, q2⟩ := r.get h1
    refine ⟨v, ?_, q2⟩
    rw [List.getElem?_append_left (by simpa [r.length] using hi), List.getElem?_map, q1]
    rfl
  · rw [List.getElem?_append_right (by simpa using hi), List.getElem?_replicate] at h
    split at h <;> cases h
section
variable {P : Program} {w : World} {K : PySem.W.Frag} {mg : Str → Option Value} {base : Heap} {xr : XRel}
/-- a def that lets no exception out of its body's walk (W = noX) or lets it out as xr says -/
theorem fnG_mk {x qual : Str} {pa : Arguments} {body : List Stmt} {sc : Scope} {dvs : List V} {kws : List (Str × V)} {f : Addr} {fd : FuncData} {N ps : List Str} {k m n : Nat} {S : SF} (Fd : FunD K x qual pa body sc dvs kws f fd) (Sc : FnScope N ps sc) (hm : ps.length = m) (hn : N.length = n)
    (hb : ∀ (cdv : Value) (A : Around) (outer : List Env) (s : Shared) (H : Hp) (E : XK), Room k (A.deeper (envOfC qual sc s.heap.objs.size f cdv)) → (A.deeper (envOfC qual sc s.heap.objs.size f cdv)).guards = some [] →
      PSs (cxOf (L2.CX P w) P w K mg base N qual sc f cdv A outer s H E) body (sD K (fun x ι _ H' => ∀ c dd, xr x c dd ι H' → E c dd H') S)) : FnG P w K mg base xr (k + 1) f fd ps (fnD n m S) := by
  obtain ⟨oc, od, dV, kV, doc, pm, an, cdv, ct, osl, rfl, lk, hcd, _, _⟩ := Fd.ex
  refine ⟨fun {A outer s H args us vs ι μ ds Q E} hr hG e0 bt rv hl wf vr post => ?_⟩
  have inK : K.In s.heap := e0.mod.kin.keeps (fun b o q => (e0.bs b o q).1)
  have noLim : s.heap.NoLimit := e0.mod.nolimit.keeps (fun b o q => (e0.bs b o q).1)
  have names : ∀ y ∈ ps.zip us, sc.names.lookup y.1 = some .local ∨ (sc.names.lookup y.1 = some .cell ∧ ((cellsFrom (s.heap.objs.size + 1) sc.names []).lookup y.1).isSome = true) := by
    rintro ⟨nm, v⟩ hy
    exact (Sc.par nm (List.of_mem_zip hy).1).imp id (fun q => ⟨q, PySem.W.cellsFrom_some _ _ _ (.inl q)⟩)
  refine codeAny_call_function hr.depth (inK _ _ lk) rfl Sc.co Sc.gen rfl (PySem.W.codeRec_of inK hcd) (bt _ _ _ _ (wpAny_newFunctionEnv_cells Sc.kind names (fun env he s1 ic => ?_)))
  subst he
  have J : Inv (cxOf (L2.CX P w) P w K mg base N qual sc f cdv A outer s H E) [] (start N vs) H s1 := inv_start Sc hr.hd e0 hl rv ic
  have hds : ds.length = m := by rw [← vr.length, hl, hm]
  have post' : PostF K xr ι H Q E (resOf (S (startR n ds) μ)) := by
    unfold fnD at post
    rw [if_pos hds] at post
    exact post
  have st : sD K (fun x ι _ H' => ∀ c dd, xr x c dd ι H' → E c dd H') S { nx := fun _ H' => Q .non H', rt := Q } (start N vs) H := by
    refine ⟨startR n ds, ι, μ, by rw [← hn]; exact SR.start vr, wf, ?_⟩
    match S (startR n ds) μ, post' with
    | some (.nx _, _), q => exact fun _ ι' H' l w _ => q ι' H' .non l w .non
    | some (.rt d, _), q => exact q
    | some (.ex x _, _), q => exact fun _ ι' H' l w _ c dd z => q ι' H' c dd l w z
  refine ⟨noLim.keeps ic.toInCall.keep, codeAny_func (wpAny_mono ((hb cdv A outer s H E (hr.deeper _) hG).run [] s1 _ H _ J st) (fun fl s' q => ?_) (fun _ _ q => q))⟩
  cases fl with
  | next =>
    obtain ⟨σ', H', J', z⟩ := q
    exact ⟨.non, H', J'.os, J'.bare, J'.base, J'.hok, rfl, z⟩
  | ret u =>
    obtain ⟨v, σ', H', J', rv', z⟩ := q
    exact ⟨v, H', J'.os, J'.bare, J'.base, J'.hok, rv', z⟩
  | brk =>
    obtain ⟨_, _, _, z⟩ := q
    exact z.elim
  | cont =>
    obtain ⟨_, _, _, z⟩ := q
    exact z.elim
theorem FnG.imp {k : Nat} {f : Addr} {fd : FuncData} {ps : List Str} {F F' : FD} (h : FnG P w K mg base xr k f fd ps F) (q : ∀ ι μ ds H Q E, WF K ι μ H → PostF K xr ι H Q E (F' ds μ) → PostF K xr ι H Q E (F ds μ)) : FnG P w K mg base xr k f fd ps F' :=
  ⟨fun hr hG e0 bt rv hl wf vr post => h.go hr hG e0 bt rv hl wf vr (q _ _ _ _ _ _ wf post)⟩
/-- the usual case: nothing is raised -/
theorem fnG_pure {x qual : Str} {pa : Arguments} {body : List Stmt} {sc : Scope} {dvs : List V} {kws : List (Str × V)} {f : Addr} {fd : FuncData} {N ps : List Str} {k m n : Nat} {S : SF} (Fd : FunD K x qual pa body sc dvs kws f fd) (Sc : FnScope N ps sc) (hm : ps.length = m) (hn : N.length = n)
    (hb : ∀ (cdv : Value) (A : Around) (outer : List Env) (s : Shared) (H : Hp) (E : XK), Room k (A.deeper (envOfC qual sc s.heap.objs.size f cdv)) → (A.deeper (envOfC qual sc s.heap.objs.size f cdv)).guards = some [] →
      PSs (cxOf (L2.CX P w) P w K mg base N qual sc f cdv A outer s H E).nox body (sD K noX S)) : FnG P w K mg base xr (k + 1) f fd ps (fnP n m S) := by
  have h := fnG_mk (xr := xr) (S := noExS S) Fd Sc hm hn fun cdv A outer s H E hr hG => PSs.imp (PSs.nox (hb cdv A outer s H E hr hG)) fun T σ H ⟨ρ, ι, μ, sr, wf, h⟩ => ⟨ρ, ι, μ, sr, wf, by
    unfold noExS at h
    generalize S ρ μ = r at h ⊢
    match r, h with
    | some (.nx _, _), h => exact h
    | some (.rt _, _), h => exact h
    | some (.bk _, _), h => exact h
    | some (.ct _, _), h => exact h⟩
  refine h.imp fun ι μ ds H Q E wf post => ?_
  unfold fnP at post
  unfold fnD noExS
  split at post
  · rename_i z
    rw [if_pos z]
    generalize S (startR n ds) μ = r at post ⊢
    match r, post with
    | some (.nx _, _), h => exact h
    | some (.rt _, _), h => exact h
  · exact post.elim
theorem FnG.seal {k : Nat} {f : Addr} {fd : FuncData} {ps : List Str} {F : FD} (h : FnG P w K mg base xr k f fd ps F) : FnG P w K mg base xr k f fd ps (fnSeal F) :=
  h.imp fun ι μ ds H Q E wf post => by
    unfold fnSeal at post
    have := sealAux (K := K) (W := fun x ι _ H' => ∀ c dd, xr x c dd ι H' → E c dd H') (σ := []) (ι := ι) (H := H) (Q := Q) (r := F ds μ) wf (by
      match sealR μ.length (F ds μ), post with
      | some (.ok _, _), post => exact post
      | some (.error _, _), post => exact fun ι' H' l w c dd z => post ι' H' c dd l w z)
    match F ds μ, this with
    | some (.ok _, _), q => exact q
    | some (.error _, _), q => exact fun ι' H' c dd l w z => q ι' H' l w c dd z
end
/-! ### calls -/
def eCall (F : FD) (A : CM (List D)) (dfl : List D) : CM D := A.bind fun ds _ μ => F (ds ++ dfl) μ
section
variable {X : Cx} {W : DW} {xr : XRel} {k : Nat} {f : Addr} {fd : FuncData} {ps : List Str} {F : FD} {x : Str} {p pos : Pos} {e : Expr} {es : List Expr} {As : CM (List D)} {dvs : List V} {dds : List D} {ds0 : List Value}
theorem runG {pins : List (Addr × Obj)} {σ : L2.St} {H : Hp} {s : Shared} {Q : VK} {us : List Value} {vs : List V} {ι : List Addr} {μ : Store} {ds : List D} (G : FnG X.prog X.w X.K X.mg X.base (xrS X.K) k f fd ps F) (hr : Room k X.A) (hG : X.A.guards = some []) (hb : Binds X.K fd ps ds0) (hd : Vals dvs ds0) (hdd : ∀ ι H, VRs X.K ι H dvs dds) (hlen : ∀ ds μ, F ds μ ≠ none → ds.length = ps.length) (hW : TkX X W)
    (I : Inv X pins σ H s) (r : Vals vs us) (wf : WF X.K ι μ H) (vr : VRs X.K ι H vs ds) (h : PostG (VR X.K) X.K W σ ι H Q (F (ds ++ dds) μ)) : wpAny (model X.prog X.w) X.A (call (.ref f) us) (EP X pins σ Q) X.xe s := by
  have rr : Vals (vs ++ dvs) (us ++ ds0) := r.append hd
  have vv : VRs X.K ι H (vs ++ dvs) (ds ++ dds) := vr.append (hdd ι H)
  have nn : F (ds ++ dds) μ ≠ none := fun z => by rw [z] at h; exact h
  have hl : (vs ++ dvs).length = ps.length := by rw [vv.length]; exact hlen _ _ nn
  obtain ⟨W1, tk1, hW1⟩ := hW
  have post : PostF X.K (xrS X.K) ι H Q (fun c dd H9 => W1 c dd σ H9) (F (ds ++ dds) μ) := by
    match F (ds ++ dds) μ, h with
    | some (.ok _, _), h => exact h
    | some (.error x, _), h => exact fun ι' H' c dd l w z => hW1 _ _ _ _ _ _ (h ι' H' l w) z
  refine wpAny_call (codeAny_mono (G.go hr hG I.env0 (hb s us I.kIn (by rw [← rr.length]; exact hl)) rr hl wf vv post) (fun r s' q => ?_))
  cases r with
  | error z => exact passAt tk1 σ pins H s z s' I q
  | ok fl =>
    cases fl with
    | ret u => exact I.after q
    | next => exact q.elim
    | brk => exact q.elim
    | cont => exact q.elim
theorem d_call (G : FnG X.prog X.w X.K X.mg X.base (xrS X.K) k f fd ps F) (hr : Room k X.A) (hG : X.A.guards = some []) (hg : Gl X x) (hm : X.mg x = some (.ref f)) (hk : PySem.W.keepIn X.K (.ref f) = true) (hb : Binds X.K fd ps ds0) (hd : Vals dvs ds0) (hdd : ∀ ι H, VRs X.K ι H dvs dds) (hlen : ∀ ds μ, F ds μ ≠ none → ds.length = ps.length) (ha : PA X (e :: es) (tA X.K W As)) (hW : TkX X W)
    (hdb : (x == ("__debug__" : Str)) = false := by decide) (he : starEach (e :: es) X.env = (false, eval e X.env) :: starEach es X.env := by rfl) (hpl : (backTo pos (starEach es X.env)).any (·.1) = false := by rfl) :
    PE X (.Call (.Name x p) (e :: es) [] pos) (tE X.K W (eCall F As dds)) := by
  refine ⟨fun pins s σ H Q I ⟨ρ, ι, μ, sr, wf, h⟩ => ?_⟩
  refine wpAny_Call_Name_kw (ld_glob I hg hm ?_ hdb)
  refine PySem.W.callWith_K (h₀ := X.base) I.ok.mod.kin hk (thn (ha.run pos pins s σ H _ I (PostG.bind sr wf h)) ?_) he hpl
  rintro us s1 ⟨vs, H1, I1, r, ι1, μ1, ds, l1, w1, v1, h1⟩
  exact ⟨I1.kIn, runG G hr hG hb hd hdd hlen hW I1 r w1 v1 h1⟩
theorem d_call0 (G : FnG X.prog X.w X.K X.mg X.base (xrS X.K) k f fd ps F) (hr : Room k X.A) (hG : X.A.guards = some []) (hg : Gl X x) (hm : X.mg x = some (.ref f)) (hk : PySem.W.keepIn X.K (.ref f) = true) (hb : Binds X.K fd ps ds0) (hd : Vals dvs ds0) (hdd : ∀ ι H, VRs X.K ι H dvs dds) (hlen : ∀ ds μ, F ds μ ≠ none → ds.length = ps.length) (hW : TkX X W)
    (hdb : (x == ("__debug__" : Str)) = false := by decide) : PE X (.Call (.Name x p) [] [] pos) (tE X.K W (eCall F aNil dds)) := by
  refine ⟨fun pins s σ H Q I ⟨ρ, ι, μ, sr, wf, h⟩ => ?_⟩
  refine wpAny_Call_Name_kw (ld_glob I hg hm ?_ hdb)
  exact PySem.W.callWith_K0 I.kIn hk (runG (us := []) G hr hG hb hd hdd hlen hW I .nil wf .nil h)
theorem fnP_len {n m : Nat} {S : SF} (ds : List D) (μ : Store) (h : fnP n m S ds μ ≠ none) : ds.length = m := by
  unfold fnP at h
  by_cases z : ds.length = m
  · exact z
  · rw [if_neg z] at h; exact absurd rfl h
theorem fnSeal_len {F : FD} {m : Nat} (hF : ∀ ds μ, F ds μ ≠ none → ds.length = m) (ds : List D) (μ : Store) (h : fnSeal F ds μ ≠ none) : ds.length = m := hF ds μ fun z => h (by unfold fnSeal; rw [z]; rfl)
end
end DM

namespace DM
open PySem PySem.Spec L2
open PyProof.Rows (AllBare)
def scriptD (ns : List Int) : D := .fl (ns.map D.int)
theorem vrs_ints {K : PySem.W.Frag} {ι : List Addr} {H : Hp} : ∀ ns : List Int, VRs K ι H (ns.map V.int) (ns.map D.int)
  | [] => .nil
  | n :: r => .cons (.int n) (vrs_ints r)
section
variable {P : Program} {w : World} {K : PySem.W.Frag} {mg mb : Str → Option Value} {k : Nat} {fa a : Addr} {fd : FuncData} {x : Str} {F : FD} {s1 : Shared} {us : List Value} {ns : List Int}
/-- what is tracked at the law's entry: nothing, or the script -/
theorem law_at {H : Hp} (KX : K.In s1.heap) (hns : s1.heap.Ns mainGlobals mg) (hbt : s1.heap.Ns builtinsNs mb) (hbb : ∀ x : Str, x ≠ "__name__" → mb x = bootBuiltins x) (hlim : s1.heap.NoLimit) (hg : s1.gens = #[])
    (ha : s1.heap.get? a = some { cls := .type "list", data := .seq us.toArray }) (hr : Room k callerA)
    (G : ∀ base : Heap, K.In base → base.Ns mainGlobals mg → FnG P w K mg base (xrS K) k fa fd [x] F) (hbind : ∀ (s : Shared) (u : Value), BindsTo s fd ⟨[u], []⟩ [(x, u)])
    (hF : ∃ μ', F [scriptD ns] [] = some (.ok (.bl true), μ')) (hO : Only H) (hS : FlAt K [] H a (ns.map V.int)) (hok : HOk P w H s1.heap) (hA : ∀ b, H b ≠ none → b = a) (hK : H a ≠ none → K.lookup a = none) :
    codeAny (model P w) callerA (.call (.ref fa) ⟨[.ref a], []⟩) (fun r s' => r = .ok (.ret (.bool true)) ∧ OldK s1.heap s'.heap ∧ s'.os = s1.os ∧ AllBare s'.gens) s1 := by
  -- an object that is no list of the script's address is not tracked
  have free : ∀ {b : Addr}, b ≠ a → H b = none := fun {b} nb => by
    cases q : H b with
    | none => rfl
    | some u => exact absurd (hA b (by rw [q]; simp)) nb
  have dictFree : ∀ {b : Addr} {o : Obj} {es : Array DictEntry} {ep : Nat}, s1.heap.get? b = some o → o.data = .dict es ep → H b = none := fun {b o es ep} e d => free fun z => by
    subst z
    rw [ha] at e
    cases e
    cases (show Data.seq us.toArray _ = Data.dict es ep from d)
  have nsBase : ∀ {b : Addr} {m : Str → Option Value}, s1.heap.Ns b m → (hidT s1.heap H).Ns b m := by
    rintro b m ⟨o, es, ep, e, d, r⟩
    exact ⟨o, es, ep, hidT_get e (dictFree e d), d, r⟩
  have kBase : K.In (hidT s1.heap H) := fun b o e => by
    refine hidT_get (KX b o e) ?_
    cases q : H b with
    | none => rfl
    | some u =>
      have z : b = a := hA b (by rw [q]; simp)
      subst z
      rw [hK (by rw [q]; simp)] at e
      cases e
  have limBase : (hidT s1.heap H).NoLimit := by
    obtain ⟨mc, h1, h2⟩ := hlim
    exact ⟨mc, nsBase h1, h2⟩
  have e0 : Env0 P w K mg (hidT s1.heap H) callerA [] s1 H :=
    { frames := rfl, mod := ⟨kBase, nsBase hns, ⟨mb, nsBase hbt, hbb⟩, limBase⟩, bs := fun b o e => of_hidT e, bsz := Nat.le_of_eq (hidT_size _ _), funs := trivial, frf := fun b hb => absurd (show b ∈ ([] : List Addr) from hb) (by simp), hok := hok, bare := .of_eq hg }
  have wf : WF K [] [] H := ⟨rfl, List.nodup_nil, fun i a o hi _ => by simp at hi⟩
  have vr : VRs K [] H [V.ref a] [scriptD ns] := .cons (.fl hS (vrs_ints ns)) .nil
  have post : PostF K (xrS K) [] H (fun v _ => v = .bl true) (fun _ _ _ => False) (F [scriptD ns] []) := by
    obtain ⟨μ', e⟩ := hF
    rw [e]
    intro ι' H' v _ _ r
    cases r
    rfl
  refine codeAny_mono ((G _ kBase (nsBase hns)).go (us := [.ref a]) hr rfl e0 (hbind s1 (.ref a)) (vs := [V.ref a]) (.cons (show RelV (.ref a) (.ref a) from rfl) .nil) rfl wf vr post) (fun r s' z => ?_)
  cases r with
  | error e =>
    obtain ⟨_, _, _, _, _, _, _, _, _, _, _, _, q⟩ := z
    exact q.elim
  | ok fl =>
    cases fl with
    | next => exact z.elim
    | brk => exact z.elim
    | cont => exact z.elim
    | ret u =>
      obtain ⟨v, H', os, bare, un, hok', rv, q⟩ := z
      have q' : v = .bl true := q
      subst q'
      cases (show u = Value.bool true from rv)
      refine ⟨rfl, OldK.of_keep (fun b o e => ?_), os, bare⟩
      cases t : H b with
      | none => exact un.keep b o e t (fun z => absurd (show b ∈ ([] : List Addr) from z) (by simp)) (by simp)
      | some y =>
        rcases hO b with n | ⟨ob, xs, n⟩
        · rw [t] at n; cases n
        · have g1 := (hok b _ n).1
          have g2 := (hok' b _ (un.frzs b ob _ n)).1
          rw [e] at g1
          cases g1
          exact g2
end
/-- the end: what the head leaves, from the law's own contract -/
theorem law_end {l : PySem.W.OpenLaw} {n k : Nat} {q : Program} {loose : List Str} {XP : (Str → Option Value) → Heap → Prop} {YP : World → Heap → Prop} {d : DefRec} {x : Str} (hn : l.most = some n) (hn2 : n ≤ sizeLine) (hdf : d.params.defaults = []) (hr : Room k callerA)
    (T : ∀ (w : World) (mg : Str → Option Value) (fa : Addr) (h : Heap), YP w h → h.Ns mainGlobals mg → mg d.name = some (.ref fa) →
      ∃ (K : PySem.W.Frag) (fd : FuncData) (F : FD), K.In h ∧ (∀ (s : Shared) (u : Value), BindsTo s fd ⟨[u], []⟩ [(x, u)]) ∧ (∀ ns : List Int, ns.length ≤ n → ∃ μ', F [scriptD ns] [] = some (.ok (.bl true), μ')) ∧
        ∀ base : Heap, K.In base → base.Ns mainGlobals mg → FnG l.prog w K mg base (xrS K) k fa fd [x] F) :
    PySem.W.WalkO q loose XP YP l.row.toRowW d [] (fun f vs => PySem.call f vs) := by
  refine Att.attach_call hn hdf fun w s0 s1 mg mb fa o pm cd doc a us ns G Y ho hd hcd hmg hobj hints hlen hg => ?_
  obtain ⟨K, fd, F, KX, hb, hF, hG⟩ := T w mg fa _ Y G.T.g hmg
  have rv := vals_ints hints
  have lv := hints.length
  have hl : ns.length ≤ sizeLine := Nat.le_trans hlen hn2
  cases hk : K.lookup a with
  | some ob =>
    have e := KX a ob hk
    rw [hobj] at e
    cases e
    exact law_at (H := fun _ => none) KX G.T.g G.T.b G.T.builtins G.T.nolimit hg hobj hr hG hb (hF ns hlen) (fun _ => .inl rfl) (.inr ⟨_, us.toArray, _, hk, rfl, rfl, rfl, by rw [List.size_toArray, lv]; exact hl, by simpa using rv⟩) (fun b u z => by cases (show (none : Option HO) = some u from z)) (fun b z => absurd rfl z) (fun z => absurd rfl z)
  | none =>
    refine law_at (H := fun b => if b = a then some (.frz { cls := .type "list", data := .seq us.toArray } (.lst (ns.map V.int))) else none) KX G.T.g G.T.b G.T.builtins G.T.nolimit hg hobj hr hG hb (hF ns hlen) (fun b => ?_) (.inl ⟨⟨{ cls := .type "list", data := .seq us.toArray }, if_pos rfl⟩, by simp⟩) (fun b u z => ?_) (fun b z => ?_) (fun _ => hk)
    · by_cases hb : b = a
      · exact .inr ⟨_, _, if_pos hb⟩
      · exact .inl (if_neg hb)
    · by_cases hb : b = a
      · cases (if_pos hb).symm.trans z
        subst hb
        exact ⟨hobj, by rw [List.length_map]; exact hl, us, _, rv, hobj⟩
      · cases (if_neg hb).symm.trans z
    · by_cases hb : b = a
      · exact hb
      · exact absurd (if_neg hb) z
end DM

namespace DM
open PySem PySem.Spec L2
/-! ### bundles for printed derivations -/
/-- the def that the module's name x stands for -/
structure Kn (P : Program) (w : World) (K : PySem.W.Frag) (mg : Str → Option Value) (base : Heap) (k : Nat) (x : Str) (ps : List Str) (F : FD) : Prop where
  ex : ∃ f fd, FnG P w K mg base (xrS K) k f fd ps F ∧ mg x = some (.ref f) ∧ PySem.W.keepIn K (.ref f) = true ∧ Binds K fd ps [] ∧ ∀ ds μ, F ds μ ≠ none → ds.length = ps.length
section
variable {X : Cx} {W : DW} {k j : Nat} {ps : List Str} {F : FD} {x : Str} {p pos : Pos} {e : Expr} {es : List Expr} {As : CM (List D)}
theorem d_fn (h : Kn X.prog X.w X.K X.mg X.base j x ps F) (hr : Room k X.A) (hjk : j ≤ k) (hG : X.A.guards = some []) (hg : Gl X x) (ha : PA X (e :: es) (tA X.K W As)) (hW : TkX X W)
    (hdb : (x == ("__debug__" : Str)) = false := by decide) (he : starEach (e :: es) X.env = (false, eval e X.env) :: starEach es X.env := by rfl) (hpl : (backTo pos (starEach es X.env)).any (·.1) = false := by rfl) :
    PE X (.Call (.Name x p) (e :: es) [] pos) (tE X.K W (eCall F As [])) := by
  obtain ⟨f, fd, G, hm, hk, hb, hl⟩ := h.ex
  exact d_call G (hr.mono hjk) hG hg hm hk hb .nil (fun _ _ => .nil) hl ha hW hdb he hpl
theorem d_fn0 (h : Kn X.prog X.w X.K X.mg X.base j x ps F) (hr : Room k X.A) (hjk : j ≤ k) (hG : X.A.guards = some []) (hg : Gl X x) (hW : TkX X W)
    (hdb : (x == ("__debug__" : Str)) = false := by decide) : PE X (.Call (.Name x p) [] [] pos) (tE X.K W (eCall F aNil [])) := by
  obtain ⟨f, fd, G, hm, hk, hb, hl⟩ := h.ex
  exact d_call0 G (hr.mono hjk) hG hg hm hk hb .nil (fun _ _ => .nil) hl hW hdb
end
/-! ### repr of scalars -/
def reprB (b : Bool) : Str := if b then "True" else "False"
def Frepr0 (ds : List D) (μ : Store) : Res D := match ds with
  | [.bl b] => okR (.str (reprB b)) μ
  | _ => none
section
variable {X : Cx} {K : PySem.W.Frag}
end
/-! ### name = [comprehension] -/
end DM

namespace DM
open PySem PySem.Spec L2
/-! ### running the plain functions -/
def Ok {α : Type} (r : Res α) (Q : α → Store → Prop) : Prop := match r with
  | some (.ok a, μ) => Q a μ
  | _ => False
def OkS (r : Option (Fl × Store)) (Q : Fl → Store → Prop) : Prop := match r with
  | some (f, μ) => Q f μ
  | none => False
section
variable {α β : Type} {ρ : Rho} {μ : Store}
theorem Ok.mono {r : Res α} {Q Q' : α → Store → Prop} (h : Ok r Q) (q : ∀ a μ, Q a μ → Q' a μ) : Ok r Q' := by
  match r, h with
  | some (.ok a, μ), h => exact q a μ h
theorem OkS.mono {r : Option (Fl × Store)} {Q Q' : Fl → Store → Prop} (h : OkS r Q) (q : ∀ a μ, Q a μ → Q' a μ) : OkS r Q' := by
  match r, h with
  | some (a, μ), h => exact q a μ h
theorem Ok.get {r : Res α} {Q : α → Store → Prop} (h : Ok r Q) : ∃ a μ, r = some (.ok a, μ) ∧ Q a μ := by
  match r, h with
  | some (.ok a, μ), h => exact ⟨a, μ, rfl, h⟩
@[simp] theorem Ok_ok {a : α} {Q : α → Store → Prop} : Ok (some (.ok a, μ)) Q = Q a μ := rfl
@[simp] theorem OkS_ok {f : Fl} {Q : Fl → Store → Prop} : OkS (some (f, μ)) Q = Q f μ := rfl
@[simp] theorem Ok_bind {A : CM α} {F : α → CM β} {Q : β → Store → Prop} : Ok (CM.bind A F ρ μ) Q = Ok (A ρ μ) (fun a μ1 => Ok (F a ρ μ1) Q) := by
  unfold CM.bind
  match A ρ μ with
  | some (.ok a, μ1) => rfl
  | some (.error x, μ1) => rfl
  | none => rfl
@[simp] theorem Ok_ret {a : α} {Q : α → Store → Prop} : Ok (CM.ret a ρ μ) Q = Q a μ := rfl
@[simp] theorem OkS_lft {A : CM α} {F : α → SF} {Q : Fl → Store → Prop} (h : Ok (A ρ μ) (fun a μ1 => OkS (F a ρ μ1) Q)) : OkS (lft A F ρ μ) Q := by
  unfold lft
  match A ρ μ, h with
  | some (.ok a, μ1), h => exact h
theorem OkS_asg {i : Nat} {E : CM D} {Q : Fl → Store → Prop} (h : Ok (E ρ μ) (fun d μ1 => Q (.nx (ρ.set i (some d))) μ1)) : OkS (sAsg i E ρ μ) Q := OkS_lft (h.mono fun _ _ q => q)
theorem OkS_ret {E : CM D} {Q : Fl → Store → Prop} (h : Ok (E ρ μ) (fun d μ1 => Q (.rt d) μ1)) : OkS (sRet E ρ μ) Q := OkS_lft (h.mono fun _ _ q => q)
theorem OkS_drop {E : CM D} {Q : Fl → Store → Prop} (h : Ok (E ρ μ) (fun d μ1 => Q (.nx ρ) μ1)) : OkS (sDrop E ρ μ) Q := OkS_lft (h.mono fun _ _ q => q)
/-- a loop by an invariant over the turn, the names and the store; the body either goes on, or is left -/
theorem loop_ok {gd : Store → Bool} {g : D → Rho → Option Rho} {S : SF} {items : List D} {Q : Fl → Store → Prop} (I : Nat → Rho → Store → Prop) (hgd : ∀ i ρ μ, I i ρ μ → gd μ = true)
    (hs : ∀ (i : Nat) d ρ μ, items[i]? = some d → I i ρ μ → ∃ ρ1, g d ρ = some ρ1 ∧ OkS (S ρ1 μ) (fun f μ2 => match f with | .nx ρ2 => I (i + 1) ρ2 μ2 | .ct ρ2 => I (i + 1) ρ2 μ2 | .bk ρ2 => Q (.nx ρ2) μ2 | .rt d => Q (.rt d) μ2 | .ex _ _ => False))
    (hd : ∀ ρ μ, I items.length ρ μ → Q (.nx ρ) μ) (h0 : I 0 ρ μ) : OkS (loop gd g S items ρ μ) Q := by
  have key : ∀ (r : List D) (i : Nat) (ρ : Rho) (μ : Store), i + r.length = items.length → items.drop i = r → I i ρ μ → OkS (loop gd g S r ρ μ) Q := by
    intro r
    induction r with
    | nil =>
      intro i ρ μ e _ h
      have e' : i = items.length := by simpa using e
      subst e'
      unfold loop
      rw [if_pos (hgd _ _ _ h)]
      exact hd ρ μ h
    | cons d t ih =>
      intro i ρ μ e ed h
      have hl : i < items.length := by rw [← e]; simp
      rw [List.drop_eq_getElem_cons hl] at ed
      obtain ⟨e1, e2⟩ := List.cons.inj ed
      unfold loop
      rw [if_pos (hgd _ _ _ h)]
      obtain ⟨ρ1, eg, h1⟩ := hs i d ρ μ (by rw [← e1]; exact List.getElem?_eq_getElem hl) h
      rw [eg]
      have le : i + 1 + t.length = items.length := by rw [← e]; simp; omega
      show OkS (match S ρ1 μ with
        | some (.nx ρ2, μ2) => loop gd g S t ρ2 μ2
        | some (.ct ρ2, μ2) => loop gd g S t ρ2 μ2
        | some (.bk ρ2, μ2) => some (.nx ρ2, μ2)
        | some (.rt d, μ2) => some (.rt d, μ2)
        | some (.ex x ρ2, μ2) => some (.ex x ρ2, μ2)
        | none => none) Q
      generalize S ρ1 μ = r at h1 ⊢
      match r, h1 with
      | some (.nx ρ2, μ2), h1 => exact ih (i + 1) ρ2 μ2 le e2 h1
      | some (.ct ρ2, μ2), h1 => exact ih (i + 1) ρ2 μ2 le e2 h1
      | some (.bk ρ2, μ2), h1 => exact h1
      | some (.rt d, μ2), h1 => exact h1
  exact key items 0 ρ μ (by simp) rfl h0
/-- a comprehension by an invariant over the turn, the list so far and the store -/
theorem lc_ok {gd : Store → Bool} {g : D → Rho → Option Rho} {T : CM Bool} {E : CM D} {c : Nat} {items : List D} {Q : D → Store → Prop} (I : Nat → List D → Store → Prop) (hgd : ∀ i acc μ, I i acc μ → gd μ = true)
    (hs : ∀ (i : Nat) d acc μ, items[i]? = some d → I i acc μ → ∃ ρ1, g d ρ = some ρ1 ∧ Ok (T ρ1 μ) (fun b μ1 => (b = true → Ok (E ρ1 μ1) (fun y μ2 => μ2[c]? = some (.lst acc) ∧ acc.length < sizeLine ∧ I (i + 1) (acc ++ [y]) (μ2.set c (.lst (acc ++ [y]))))) ∧ (b = false → I (i + 1) acc μ1)))
    (hd : ∀ acc μ, I items.length acc μ → Q (.ref c) μ) {acc : List D} (h0 : I 0 acc μ) : Ok (lcLoop gd g T E c items ρ μ) Q := by
  have key : ∀ (r : List D) (i : Nat) (acc : List D) (μ : Store), i + r.length = items.length → items.drop i = r → I i acc μ → Ok (lcLoop gd g T E c r ρ μ) Q := by
    intro r
    induction r with
    | nil =>
      intro i acc μ e _ h
      have e' : i = items.length := by simpa using e
      subst e'
      unfold lcLoop
      rw [if_pos (hgd _ _ _ h)]
      exact hd acc μ h
    | cons d t ih =>
      intro i acc μ e ed h
      have hl : i < items.length := by rw [← e]; simp
      rw [List.drop_eq_getElem_cons hl] at ed
      obtain ⟨e1, e2⟩ := List.cons.inj ed
      unfold lcLoop
      rw [if_pos (hgd _ _ _ h)]
      obtain ⟨ρ1, eg, h1⟩ := hs i d acc μ (by rw [← e1]; exact List.getElem?_eq_getElem hl) h
      rw [eg]
      have le : i + 1 + t.length = items.length := by rw [← e]; simp; omega
      obtain ⟨b, μ1, eT, hb1, hb2⟩ := h1.get
      simp only [eT]
      cases b with
      | true =>
        obtain ⟨y, μ2, eE, hc, hz, hI⟩ := (hb1 rfl).get
        simp only [eE, hc, if_pos hz]
        exact ih (i + 1) _ _ le e2 hI
      | false => exact ih (i + 1) _ _ le e2 (hb2 rfl)
  exact key items 0 acc μ (by simp) rfl h0
/-! ### sealing -/
mutual
theorem noRef_mono {n : Nat} : ∀ {d : D}, noRef 0 d = true → noRef n d = true
  | .non, _ => rfl
  | .bl _, _ => rfl
  | .int _, _ => rfl
  | .str _, _ => rfl
  | .tup _, h => noRefs_mono (by simpa [noRef] using h)
  | .lst _, h => noRefs_mono (by simpa [noRef] using h)
  | .fl _, h => noRefs_mono (by simpa [noRef] using h)
  | .ref _, h => by simp [noRef] at h
theorem noRefs_mono {n : Nat} : ∀ {ds : List D}, noRefs 0 ds = true → noRefs n ds = true
  | [], _ => rfl
  | _ :: _, h => by
    simp only [noRefs, Bool.and_eq_true] at h ⊢
    exact ⟨noRef_mono h.1, noRefs_mono h.2⟩
end
theorem obOk_mono {n : Nat} {o : Ob} (h : obOk 0 o = true) : obOk n o = true := by
  cases o with
  | lst xs => exact noRefs_mono h
  | obj C fs => exact noRefs_mono (show noRefs 0 (fs.map (·.2)) = true from h)
  | dct kvs => exact noRefs_mono (show noRefs 0 (kvs.map (·.2)) = true from h)
  | dcl kvs => exact noRefs_mono (show noRefs 0 (kvs.map (·.2)) = true from h)
  | dtt kvs => exact noRefs_mono (show noRefs 0 (kvs.map (·.2)) = true from h)
  | exc C fs => exact noRefs_mono (show noRefs 0 (fs.map (·.2)) = true from h)
  | tab tx => rfl
  | dnk kvs =>
    have h : (noRefs 0 (kvs.map fun kv => D.tup kv.1) && noRefs 0 (kvs.map (·.2))) = true := h
    rw [Bool.and_eq_true] at h
    show (noRefs n (kvs.map fun kv => D.tup kv.1) && noRefs n (kvs.map (·.2))) = true
    rw [noRefs_mono h.1, noRefs_mono h.2]
    rfl
/-- every cell holds data alone -/
def PureS (μ : Store) : Prop := ∀ o ∈ μ, obOk 0 o = true
theorem PureS.all {μ : Store} (h : PureS μ) (n m : Nat) : (μ.take n).all (obOk m) = true := List.all_eq_true.mpr fun o ho => obOk_mono (h o (List.mem_of_mem_take ho))
theorem PureS.set {μ : Store} (h : PureS μ) {i : Nat} {o : Ob} (ho : obOk 0 o = true) : PureS (μ.set i o) := fun u hu => by
  rcases List.mem_or_eq_of_mem_set hu with z | z
  · exact h u z
  · rw [z]; exact ho
theorem PureS.app {μ : Store} (h : PureS μ) {o : Ob} (ho : obOk 0 o = true) : PureS (μ ++ [o]) := fun u hu => by
  rcases List.mem_append.mp hu with z | z
  · exact h u z
  · rw [List.mem_singleton.mp z]; exact ho
theorem noRefs_all : ∀ {ds : List D} {n : Nat}, noRefs n ds = true ↔ ∀ d ∈ ds, noRef n d = true
  | [], n => by simp [noRefs]
  | x :: r, n => by simp [noRefs, noRefs_all (ds := r)]
theorem unref_pure {n k : Nat} {d : D} {μ : Store} (h : noRef 0 d = true) : unref n μ k d = some d := by
  cases k with
  | zero => unfold unref; rw [if_pos (noRef_mono h)]
  | succ k => unfold unref; rw [if_pos (noRef_mono h)]
theorem mapO_id {f : D → Option D} : ∀ {ds : List D}, (∀ d ∈ ds, f d = some d) → mapO f ds = some ds
  | [], _ => rfl
  | x :: r, h => by
    simp only [mapO]
    rw [h x List.mem_cons_self, mapO_id fun d hd => h d (List.mem_cons_of_mem _ hd)]
theorem unref_cell {n c k : Nat} {ds : List D} {μ : Store} (hc : μ[c]? = some (.lst ds)) (hn : n ≤ c) (h : noRefs 0 ds = true) : unref n μ (k + 1) (.ref c) = some (.lst ds) := by
  unfold unref
  rw [if_neg (by simp [noRef]; omega)]
  simp only [hc]
  rw [mapO_id fun d hd => unref_pure (noRefs_all.mp h d hd)]
  rfl
theorem seal_ok {r : Res D} {n : Nat} {Q : D → Store → Prop} (h : Ok r (fun d μ' => PureS (μ'.take n) ∧ ∃ d', unref n μ' 4 d = some d' ∧ Q d' (μ'.take n))) : Ok (sealR n r) Q := by
  match r, h with
  | some (.ok d, μ'), ⟨hp, d', e, q⟩ =>
    have ha : (μ'.take n).all (obOk n) = true := List.all_eq_true.mpr fun o ho => obOk_mono (hp o ho)
    unfold sealR
    simp only [ha, e, if_true]
    exact q
theorem seal_okG {r : Res D} {n : Nat} {Q : D → Store → Prop} (h : Ok r (fun d μ' => (μ'.take n).all (obOk n) = true ∧ ∃ d', unref n μ' 4 d = some d' ∧ Q d' (μ'.take n))) : Ok (sealR n r) Q := by
  match r, h with
  | some (.ok d, μ'), ⟨ha, d', e, q⟩ =>
    unfold sealR
    simp only [ha, e, if_true]
    exact q
theorem Ok_seal {E : CM D} {Q : D → Store → Prop} (h : Ok (E ρ μ) (fun d μ' => PureS (μ'.take μ.length) ∧ ∃ d', unref μ.length μ' 4 d = some d' ∧ Q d' (μ'.take μ.length))) : Ok (eSeal E ρ μ) Q := seal_ok h
/-- frames: only the cell p may change -/
structure Fr (p : Nat) (μ μ' : Store) : Prop where
  len : μ'.length = μ.length
  eq : ∀ j : Nat, j ≠ p → μ'[j]? = μ[j]?
theorem Fr.refl (p : Nat) (μ : Store) : Fr p μ μ := ⟨rfl, fun _ _ => rfl⟩
theorem Fr.trans {p : Nat} {μ μ1 μ2 : Store} (a : Fr p μ μ1) (b : Fr p μ1 μ2) : Fr p μ μ2 := ⟨b.len.trans a.len, fun j h => (b.eq j h).trans (a.eq j h)⟩
theorem Fr.set {p : Nat} {μ : Store} {o : Ob} : Fr p μ (μ.set p o) := ⟨by simp, fun j h => List.getElem?_set_ne (Ne.symm h)⟩
theorem take_last {ν : Store} {o : Ob} {n : Nat} (h : ν.length = n + 1) (hc : ν[n]? = some o) : ν = ν.take n ++ [o] := by
  have := List.take_append_drop n ν
  rw [List.drop_eq_getElem_cons (by omega)] at this
  have e : ν[n]'(by omega) = o := by
    have := List.getElem?_eq_some_iff.mp hc
    exact this.2
  rw [e] at this
  have z : ν.drop (n + 1) = [] := List.drop_eq_nil_iff.mpr (by omega)
  rw [z] at this
  exact this.symm
theorem PureS.take {μ : Store} (h : PureS μ) (n : Nat) : PureS (μ.take n) := fun o ho => h o (List.mem_of_mem_take ho)
/-- a comprehension whose elements touch the cell p alone -/
theorem lcp {g : D → Rho → Option Rho} {E : CM D} {items : List D} {n p : Nat} {μ1 : Store} (J : Nat → Store → Prop) (R : Nat → D → Prop) (hJ : ∀ i (ν : Store) o, ν.length = n → J i ν → J i (ν ++ [o])) (hJ' : ∀ i (ν : Store) o, ν.length = n → J i (ν ++ [o]) → J i ν) (hn : μ1.length = n) (hp : p ≠ n) (hpu : PureS μ1) (hlen : items.length ≤ 1000) (h0 : J 0 μ1)
    (hs : ∀ (i : Nat) d (μ' : Store), items[i]? = some d → μ'.length = n + 1 → PureS μ' → J i μ' → ∃ ρ1, g d ρ = some ρ1 ∧ Ok (E ρ1 μ') (fun y μ2 => R i y ∧ noRef 0 y = true ∧ Fr p μ' μ2 ∧ PureS μ2 ∧ J (i + 1) μ2))
    : Ok (lcLoop anyG g bYes E n items ρ (μ1 ++ [.lst []])) (fun d μ' => PureS (μ'.take n) ∧ ∃ ys, unref n μ' 4 d = some (.lst ys) ∧ ys.length = items.length ∧ (∀ (i : Nat) y, ys[i]? = some y → R i y) ∧ Fr p μ1 (μ'.take n) ∧ J items.length (μ'.take n)) := by
  refine lc_ok (acc := []) (fun i acc μ => ∃ ν : Store, μ = ν ++ [.lst acc] ∧ ν.length = n ∧ Fr p μ1 ν ∧ PureS ν ∧ J i ν ∧ acc.length = i ∧ ∀ (k : Nat) y, acc[k]? = some y → R k y ∧ noRef 0 y = true) (fun _ _ _ _ => rfl) ?_ ?_ ⟨μ1, rfl, hn, Fr.refl _ _, hpu, h0, rfl, fun k y e => by simp at e⟩
  · rintro i d acc μ ed ⟨ν, rfl, hl, hf, hpν, hJν, ha, hR⟩
    have hpa : noRefs 0 acc = true := noRefs_all.mpr fun y hy => by
      obtain ⟨k, hk⟩ := List.getElem?_of_mem hy
      exact (hR k y hk).2
    obtain ⟨ρ1, eg, h1⟩ := hs i d (ν ++ [.lst acc]) ed (by simp [hl]) (hpν.app (o := Ob.lst acc) hpa) (hJ _ _ _ hl hJν)
    refine ⟨ρ1, eg, ?_⟩
    show (true = true → _) ∧ _
    refine ⟨fun _ => h1.mono fun y μ2 ⟨hy, hyp, hf2, hp2, hJ2⟩ => ?_, fun z => by cases z⟩
    have l2 : μ2.length = n + 1 := by rw [hf2.len]; simp [hl]
    have c2 : μ2[n]? = some (.lst acc) := by
      rw [hf2.eq n (Ne.symm hp), ← hl]
      simp
    have hil : i < items.length := (List.getElem?_eq_some_iff.mp ed).1
    have e2 := take_last l2 c2
    refine ⟨c2, by rw [ha]; exact small1000 (by omega), μ2.take n, ?_, by rw [List.length_take]; omega, ?_, hp2.take n, hJ' _ _ (.lst acc) (by rw [List.length_take]; omega) (by rw [← e2]; exact hJ2), by simp [ha], fun k z ez => ?_⟩
    · have tl : (μ2.take n).length = n := by rw [List.length_take]; omega
      rw [e2, List.set_append_right _ _ (by omega), tl]
      simp [tl]
    · refine ⟨by rw [List.length_take, hn]; omega, fun j hj => ?_⟩
      by_cases hjn : j < n
      · rw [List.getElem?_take_of_lt hjn, hf2.eq j hj, List.getElem?_append_left (by omega), hf.eq j hj]
      · rw [List.getElem?_eq_none (by rw [List.length_take]; omega), List.getElem?_eq_none (by omega)]
    · by_cases hk : k < acc.length
      · rw [List.getElem?_append_left hk] at ez
        exact hR k z ez
      · have hk2 : k = acc.length := by
          have := (List.getElem?_eq_some_iff.mp ez).1
          simp at this; omega
        subst hk2
        simp at ez
        subst ez
        rw [ha]
        exact ⟨hy, hyp⟩
  · rintro acc μ ⟨ν, rfl, hl, hf, hpν, hJν, ha, hR⟩
    have hpa : noRefs 0 acc = true := noRefs_all.mpr fun y hy => by
      obtain ⟨k, hk⟩ := List.getElem?_of_mem hy
      exact (hR k y hk).2
    have tk : (ν ++ [Ob.lst acc]).take n = ν := by rw [← hl]; simp
    rw [tk]
    exact ⟨hpν, acc, unref_cell (ds := acc) (by rw [← hl]; simp) (Nat.le_refl _) hpa, ha, (fun i y e => (hR i y e).1), hf, hJν⟩
end
end DM

namespace DM
open PySem PySem.Spec L2
section
variable {α β : Type} {ρ : Rho} {μ : Store} {Q : D → Store → Prop} {Qs : List D → Store → Prop} {Qb : Bool → Store → Prop} {Qf : Fl → Store → Prop} {Qi : IV → Store → Prop} {A B C : CM D} {T U : CM Bool} {As : CM (List D)}
theorem q_ok {a : α} {R : α → Store → Prop} : Ok (some (.ok a, μ)) R = R a μ := rfl
theorem q_okR {d : D} : Ok (okR d μ) Q = Q d μ := rfl
theorem q_if {c : Prop} [Decidable c] {r : Res α} {R : α → Store → Prop} : Ok (if c then r else none) R = (c ∧ Ok r R) := by
  by_cases z : c
  · simp [z]
  · simp [z, Ok]
theorem q_C {d : D} : Ok (eC d ρ μ) Q = Q d μ := rfl
theorem q_ret {a : α} {R : α → Store → Prop} : Ok (CM.ret a ρ μ) R = R a μ := rfl
def varAt (o : Option (Option D)) (k : D → Prop) : Prop := match o with
  | some (some d) => k d
  | _ => False
theorem q_var {i : Nat} : Ok (eVar i ρ μ) Q = varAt ρ[i]? (fun d => Q d μ) := by
  unfold eVar varAt
  match ρ[i]? with
  | some (some d) => rfl
  | some none => rfl
  | none => rfl
theorem q_at {d : D} {k : D → Prop} : varAt (some (some d)) k = k d := rfl
theorem q_e1 {F : D → Store → Res D} : Ok (e1 F A ρ μ) Q = Ok (A ρ μ) (fun d μ1 => Ok (F d μ1) Q) := Ok_bind
theorem q_e2 {F : D → D → Store → Res D} : Ok (e2 F A B ρ μ) Q = Ok (A ρ μ) (fun d μ1 => Ok (B ρ μ1) (fun e μ2 => Ok (F d e μ2) Q)) := by
  unfold e2
  rw [Ok_bind]
  congr 1
  funext d μ1
  exact Ok_bind
theorem q_call {F : FD} {dfl : List D} : Ok (eCall F As dfl ρ μ) Q = Ok (As ρ μ) (fun ds μ1 => Ok (F (ds ++ dfl) μ1) Q) := Ok_bind
theorem q_callB {F : List D → Store → Res D} : Ok (eCallB F As ρ μ) Q = Ok (As ρ μ) (fun ds μ1 => Ok (F ds μ1) Q) := Ok_bind
theorem q_nil : Ok (aNil ρ μ) Qs = Qs [] μ := rfl
theorem q_cons : Ok (aCons A As ρ μ) Qs = Ok (A ρ μ) (fun d μ1 => Ok (As ρ μ1) (fun ds μ2 => Qs (d :: ds) μ2)) := by
  unfold aCons
  rw [Ok_bind]
  congr 1
  funext d μ1
  rw [Ok_bind]
  rfl
theorem q_tup : Ok (eTup As ρ μ) Q = Ok (As ρ μ) (fun ds μ1 => ds.length ≤ sizeLine ∧ Q (.tup ds) μ1) := by
  unfold eTup
  rw [Ok_bind]
  congr 1
  funext d μ1
  exact q_if
theorem q_lst : Ok (eLst As ρ μ) Q = Ok (As ρ μ) (fun ds μ1 => ds.length ≤ sizeLine ∧ Q (.lst ds) μ1) := by
  unfold eLst
  rw [Ok_bind]
  congr 1
  funext d μ1
  exact q_if
theorem q_cel : Ok (eCel As ρ μ) Q = Ok (As ρ μ) (fun ds μ1 => ds.length ≤ sizeLine ∧ Q (.ref μ1.length) (μ1 ++ [.lst ds])) := by
  unfold eCel
  rw [Ok_bind]
  congr 1
  funext d μ1
  exact q_if
theorem q_ifexp : Ok (eIf T A B ρ μ) Q = Ok (T ρ μ) (fun c μ1 => if c = true then Ok (A ρ μ1) Q else Ok (B ρ μ1) Q) := by
  unfold eIf
  rw [Ok_bind]
  congr 1
  funext c μ1
  cases c <;> rfl
def blAt (d : D) (k : Bool → Prop) : Prop := match d with
  | .bl b => k b
  | _ => False
theorem q_blAt {b : Bool} {k : Bool → Prop} : blAt (.bl b) k = k b := rfl
theorem q_bOf : Ok (bOf A ρ μ) Qb = Ok (A ρ μ) (fun d μ1 => blAt d (fun b => Qb b μ1)) := by
  unfold bOf
  rw [Ok_bind]
  congr 1
  funext d μ1
  cases d <;> rfl
theorem q_bTru : Ok (bTru A ρ μ) Qb = Ok (A ρ μ) (fun d μ1 => Ok (Ftru d μ1) Qb) := Ok_bind
theorem q_bAnd : Ok (bAnd T U ρ μ) Qb = Ok (T ρ μ) (fun c μ1 => if c = true then Ok (U ρ μ1) Qb else Qb false μ1) := by
  unfold bAnd
  rw [Ok_bind]
  congr 1
  funext c μ1
  cases c <;> rfl
theorem q_bOr : Ok (bOr T U ρ μ) Qb = Ok (T ρ μ) (fun c μ1 => if c = true then Qb true μ1 else Ok (U ρ μ1) Qb) := by
  unfold bOr
  rw [Ok_bind]
  congr 1
  funext c μ1
  cases c <;> rfl
theorem q_bNot : Ok (bNot T ρ μ) Qb = Ok (T ρ μ) (fun c μ1 => Qb (!c) μ1) := Ok_bind
theorem q_vAnd : Ok (vAnd A B ρ μ) Q = Ok (A ρ μ) (fun d μ1 => blAt d (fun b => if b = true then Ok (B ρ μ1) Q else Q (.bl false) μ1)) := by
  unfold vAnd
  rw [Ok_bind]
  congr 1
  funext d μ1
  cases d with
  | bl b => cases b <;> rfl
  | _ => rfl
theorem q_vOr : Ok (vOr A B ρ μ) Q = Ok (A ρ μ) (fun d μ1 => blAt d (fun b => if b = true then Q (.bl true) μ1 else Ok (B ρ μ1) Q)) := by
  unfold vOr
  rw [Ok_bind]
  congr 1
  funext d μ1
  cases d with
  | bl b => cases b <;> rfl
  | _ => rfl
theorem q_vNot : Ok (vNot A ρ μ) Q = Ok (A ρ μ) (fun d μ1 => blAt d (fun b => Q (.bl (!b)) μ1)) := by
  unfold vNot
  rw [Ok_bind]
  congr 1
  funext d μ1
  cases d <;> rfl
theorem q_chain {F G : D → D → Store → Res D} : Ok (eChain F G A B C ρ μ) Q = Ok (A ρ μ) (fun d μ1 => Ok (B ρ μ1) (fun e μ2 => Ok (F d e μ2) (fun z μ3 => blAt z (fun b => if b = true then Ok (C ρ μ3) (fun g μ4 => Ok (G e g μ4) Q) else Q (.bl false) μ3)))) := by
  unfold eChain
  rw [Ok_bind]
  congr 1
  funext d μ1
  rw [Ok_bind]
  congr 1
  funext e μ2
  rw [Ok_bind]
  congr 1
  funext z μ3
  cases z with
  | bl b =>
    cases b with
    | true => exact Ok_bind
    | false => rfl
  | _ => rfl
/-! statements -/
def contS (B : SF) (Qf : Fl → Store → Prop) : Fl → Store → Prop := fun f μ => match f with
  | .nx ρ => OkS (B ρ μ) Qf
  | f => Qf f μ
theorem q_seq {S B : SF} : OkS (sSeq S B ρ μ) Qf = OkS (S ρ μ) (contS B Qf) := by
  unfold sSeq
  match S ρ μ with
  | some (.nx ρ1, μ1) => rfl
  | some (.rt _, _) => rfl
  | some (.bk _, _) => rfl
  | some (.ct _, _) => rfl
  | some (.ex _ _, _) => rfl
  | none => rfl
theorem q_cont {B : SF} : contS B Qf (.nx ρ) μ = OkS (B ρ μ) Qf := rfl
theorem q_contR {B : SF} {d : D} : contS B Qf (.rt d) μ = Qf (.rt d) μ := rfl
theorem q_contB {B : SF} : contS B Qf (.bk ρ) μ = Qf (.bk ρ) μ := rfl
theorem q_contC {B : SF} : contS B Qf (.ct ρ) μ = Qf (.ct ρ) μ := rfl
theorem q_asg {i : Nat} (h : Ok (A ρ μ) (fun d μ1 => Qf (.nx (ρ.set i (some d))) μ1)) : OkS (sAsg i A ρ μ) Qf := OkS_asg h
theorem q_sret (h : Ok (A ρ μ) (fun d μ1 => Qf (.rt d) μ1)) : OkS (sRet A ρ μ) Qf := OkS_ret h
theorem q_sif {S S' : SF} (h : Ok (T ρ μ) (fun c μ1 => if c = true then OkS (S ρ μ1) Qf else OkS (S' ρ μ1) Qf)) : OkS (sIf T S S' ρ μ) Qf := by
  unfold sIf
  refine OkS_lft (h.mono fun c μ1 q => ?_)
  cases c <;> exact q
theorem q_snil : OkS (sNil ρ μ) Qf = Qf (.nx ρ) μ := rfl
theorem q_par2 {i j : Nat} (h : Ok (As ρ μ) (fun ds μ1 => ∃ a b, ds = [a, b] ∧ Qf (.nx ((ρ.set i (some a)).set j (some b))) μ1)) : OkS (sPar2 i j As ρ μ) Qf := OkS_lft (h.mono fun ds μ1 ⟨a, b, e, q⟩ => by subst e; exact q)
theorem q_par3 {i j l : Nat} (h : Ok (As ρ μ) (fun ds μ1 => ∃ a b c, ds = [a, b, c] ∧ Qf (.nx (((ρ.set i (some a)).set j (some b)).set l (some c))) μ1)) : OkS (sPar3 i j l As ρ μ) Qf := OkS_lft (h.mono fun ds μ1 ⟨a, b, c, e, q⟩ => by subst e; exact q)
theorem q_put (h : Ok (C ρ μ) (fun v μ1 => Ok (A ρ μ1) (fun o μ2 => Ok (B ρ μ2) (fun i μ3 => ∃ c k xs j, o = .ref c ∧ i = .int k ∧ μ3[c]? = some (.lst xs) ∧ ixN xs.length k = some j ∧ Qf (.nx ρ) (μ3.set c (.lst (xs.set j v))))))) : OkS (sPut A B C ρ μ) Qf := by
  unfold sPut
  refine OkS_lft (h.mono fun v μ1 h1 => OkS_lft (h1.mono fun o μ2 h2 => OkS_lft (h2.mono fun i μ3 h3 => ?_)))
  obtain ⟨c, k, xs, j, rfl, rfl, e1, e2, q⟩ := h3
  simp only [e1, e2]
  exact q
theorem q_for {I : CM IV} {g : D → Rho → Option Rho} {S : SF} (h : Ok (I ρ μ) (fun p μ1 => OkS (loop p.2 g S p.1 ρ μ1) Qf)) : OkS (sFor I g S ρ μ) Qf := OkS_lft h
theorem q_fn {n m : Nat} {S : SF} {ds : List D} (hl : ds.length = m) (h : OkS (S (startR n ds) μ) (fun f μ1 => match f with | .nx _ => Q .non μ1 | .rt d => Q d μ1 | _ => False)) : Ok (fnP n m S ds μ) Q := by
  unfold fnP
  rw [if_pos hl]
  generalize S (startR n ds) μ = r at h ⊢
  match r, h with
  | some (.nx _, _), h => exact h
  | some (.rt _, _), h => exact h
theorem q_rg1 : Ok (iRg1 As ρ μ) Qi = Ok (As ρ μ) (fun ds μ1 => ∃ j : Int, ds = [.int j] ∧ -(2 ^ 62) ≤ j ∧ j < 2 ^ 62 ∧ Qi (rngD 0 j.toNat, anyG) μ1) := by
  unfold iRg1
  rw [Ok_bind]
  congr 1
  funext ds μ1
  apply propext
  constructor
  · intro h
    split at h
    · rw [q_if] at h
      exact ⟨_, rfl, h.1.1, h.1.2, h.2⟩
    · exact h.elim
  · rintro ⟨j, rfl, a, b, q⟩
    show Ok (if _ then _ else none) Qi
    rw [q_if]
    exact ⟨⟨a, b⟩, q⟩
theorem q_rg2 : Ok (iRg2 As ρ μ) Qi = Ok (As ρ μ) (fun ds μ1 => ∃ i j : Int, ds = [.int i, .int j] ∧ (-(2 ^ 62) ≤ i ∧ i < 2 ^ 62 ∧ -(2 ^ 62) ≤ j ∧ j < 2 ^ 62) ∧ Qi (rngD i (j - i).toNat, anyG) μ1) := by
  unfold iRg2
  rw [Ok_bind]
  congr 1
  funext ds μ1
  apply propext
  constructor
  · intro h
    split at h
    · rw [q_if] at h
      exact ⟨_, _, rfl, h.1, h.2⟩
    · exact h.elim
  · rintro ⟨i, j, rfl, a, q⟩
    show Ok (if _ then _ else none) Qi
    rw [q_if]
    exact ⟨a, q⟩
def seqAt (d : D) (μ : Store) (k : List D → (Store → Bool) → Prop) : Prop := match d with
  | .lst xs => k xs anyG
  | .fl xs => k xs anyG
  | .ref c => match μ[c]? with
    | some (.lst xs) => k xs (isLst c xs)
    | _ => False
  | _ => False
theorem q_seqL {xs : List D} {k : List D → (Store → Bool) → Prop} : seqAt (.lst xs) μ k = k xs anyG := rfl
theorem q_seqF {xs : List D} {k : List D → (Store → Bool) → Prop} : seqAt (.fl xs) μ k = k xs anyG := rfl
theorem q_iseq : Ok (iSeq A ρ μ) Qi = Ok (A ρ μ) (fun d μ1 => seqAt d μ1 (fun xs g => Qi (xs, g) μ1)) := by
  unfold iSeq
  rw [Ok_bind]
  congr 1
  funext d μ1
  cases d with
  | ref c =>
    unfold seqAt
    simp only []
    cases μ1[c]? with
    | none => rfl
    | some o => cases o <;> rfl
  | _ => rfl
def tupAt (d : D) (k : List D → Prop) : Prop := match d with
  | .tup xs => k xs
  | _ => False
theorem q_tupAt {xs : List D} {k : List D → Prop} : tupAt (.tup xs) k = k xs := rfl
theorem q_itup : Ok (iTupD A ρ μ) Qi = Ok (A ρ μ) (fun d μ1 => tupAt d (fun xs => Qi (xs, anyG) μ1)) := by
  unfold iTupD
  rw [Ok_bind]
  congr 1
  funext d μ1
  cases d <;> rfl
/-! built-in functions on known shapes -/
theorem f_add {i j : Int} : Fadd (.int i) (.int j) μ = okR (.int (i + j)) μ := rfl
theorem f_sub {i j : Int} : Fsub (.int i) (.int j) μ = okR (.int (i - j)) μ := rfl
theorem f_mul {i j : Int} : Fmul (.int i) (.int j) μ = if mulOk i j then okR (.int (i * j)) μ else none := rfl
theorem f_div {i j : Int} : Fdiv (.int i) (.int j) μ = if divOk j then okR (.int (i / j)) μ else none := rfl
theorem f_mod {i j : Int} : Fmod (.int i) (.int j) μ = if 0 < j then okR (.int (i % j)) μ else none := rfl
theorem f_pow {i j : Int} : Fpow (.int i) (.int j) μ = if powOk i j then okR (.int (i ^ j.toNat)) μ else none := rfl
theorem f_neg {i : Int} : Fneg (.int i) μ = okR (.int (-i)) μ := rfl
theorem f_cmp {p : Int → Int → Bool} {i j : Int} : Fcmp p (.int i) (.int j) μ = okR (.bl (p i j)) μ := rfl
theorem f_abs {i : Int} : Fabs [.int i] μ = okR (.int (if i < 0 then -i else i)) μ := rfl
theorem f_intI {i : Int} : Fint [.int i] μ = okR (.int i) μ := rfl
theorem f_intB {b : Bool} : Fint [.bl b] μ = okR (.int (if b then 1 else 0)) μ := rfl
theorem f_max {i j : Int} : Fmax [.int i, .int j] μ = okR (.int (if j > i then j else i)) μ := rfl
theorem f_min {i j : Int} : Fmin [.int i, .int j] μ = okR (.int (if j < i then j else i)) μ := rfl
theorem f_lenL {xs : List D} : Flen [.lst xs] μ = okR (.int xs.length) μ := rfl
theorem f_lenF {xs : List D} : Flen [.fl xs] μ = okR (.int xs.length) μ := rfl
theorem f_lenT {xs : List D} : Flen [.tup xs] μ = okR (.int xs.length) μ := rfl
theorem f_ixL {xs : List D} {i : Int} : Fix (.lst xs) (.int i) μ = pureR (atI xs i) μ := rfl
theorem f_ixF {xs : List D} {i : Int} : Fix (.fl xs) (.int i) μ = pureR (atI xs i) μ := rfl
theorem f_ixT {xs : List D} {i : Int} : Fix (.tup xs) (.int i) μ = pureR (atI xs i) μ := rfl
theorem f_ixR {c : Nat} {xs : List D} {i : Int} (h : μ[c]? = some (.lst xs)) : Fix (.ref c) (.int i) μ = pureR (atI xs i) μ := by
  unfold Fix
  simp only [h]
theorem f_eqI {i j : Int} : Feq false (.int i) (.int j) μ = okR (.bl (i == j)) μ := rfl
theorem f_neI {i j : Int} : Feq true (.int i) (.int j) μ = okR (.bl (!(i == j))) μ := rfl
theorem f_eqB {i j : Bool} : Feq false (.bl i) (.bl j) μ = okR (.bl (i == j)) μ := rfl
theorem f_neB {i j : Bool} : Feq true (.bl i) (.bl j) μ = okR (.bl (!(i == j))) μ := rfl
theorem f_eqT {i j : Str} : Feq false (.str i) (.str j) μ = okR (.bl (i == j)) μ := rfl
theorem f_neT {i j : Str} : Feq true (.str i) (.str j) μ = okR (.bl (!(i == j))) μ := rfl
theorem f_isB {i j : Bool} : Fis false (.bl i) (.bl j) μ = okR (.bl (decide (i = j))) μ := rfl
theorem f_isnotB {i j : Bool} : Fis true (.bl i) (.bl j) μ = okR (.bl (!decide (i = j))) μ := rfl
theorem f_truB {b : Bool} : Ftru (.bl b) μ = some (.ok b, μ) := rfl
theorem f_truI {i : Int} : Ftru (.int i) μ = some (.ok (i != 0), μ) := rfl
theorem f_repr0 {b : Bool} : Frepr0 [.bl b] μ = okR (.str (reprB b)) μ := rfl
theorem q_pureS {d : D} : Ok (pureR (some d) μ) Q = Q d μ := rfl
theorem at0 {x : α} {r : List α} : atI (x :: r) 0 = some x := atI_nat (j := 0) rfl
theorem at1 {x y : α} {r : List α} : atI (x :: y :: r) 1 = some y := atI_nat (j := 1) rfl
theorem at2 {x y z : α} {r : List α} : atI (x :: y :: z :: r) 2 = some z := atI_nat (j := 2) rfl
theorem at_lt {xs : List α} {i : Int} (h0 : 0 ≤ i) (h : i < xs.length) : ∃ x, atI xs i = some x ∧ xs[i.toNat]? = some x := by
  have hl : i.toNat < xs.length := by omega
  refine ⟨xs[i.toNat], ?_, List.getElem?_eq_getElem hl⟩
  have := atI_nat (j := i.toNat) (v := xs[i.toNat]) (List.getElem?_eq_getElem hl)
  rw [Int.toNat_of_nonneg h0] at this
  exact this
theorem size_ok {n : Nat} (h : n ≤ 1000000) : n ≤ sizeLine := Nat.le_trans h (by decide)
theorem q_lc {I : CM IV} {g : D → Rho → Option Rho} {E : CM D} {own : List Nat} (h : Ok (I ρ μ) (fun q μ1 => Ok (lcLoop q.2 g T E μ1.length q.1 (wipeR ρ own) (μ1 ++ [.lst []])) (fun d μ' => PureS (μ'.take μ.length) ∧ ∃ d', unref μ.length μ' 4 d = some d' ∧ Q d' (μ'.take μ.length)))) : Ok (eSeal (eLC I g T E own) ρ μ) Q := by
  refine Ok_seal ?_
  unfold eLC
  rw [Ok_bind]
  exact h
theorem rng_get {lo : Int} {n i : Nat} {d : D} (h : (rngD lo n)[i]? = some d) : i < n ∧ d = .int (lo + i) := by
  have hl : i < n := by
    have := (List.getElem?_eq_some_iff.mp h).1
    simpa [rngD] using this
  unfold rngD at h
  rw [List.getElem?_map, List.getElem?_range hl] at h
  cases h
  exact ⟨hl, rfl⟩
theorem rng_len {lo : Int} {n : Nat} : (rngD lo n).length = n := by simp [rngD]
theorem bls_true : ∀ {ys : List D}, (∀ y ∈ ys, y = .bl true) → ∃ bs, bls ys = some bs ∧ bs.all id = true
  | [], _ => ⟨[], rfl, rfl⟩
  | y :: r, h => by
    have hy := h y List.mem_cons_self
    subst hy
    obtain ⟨bs, e, a⟩ := bls_true (ys := r) fun z hz => h z (List.mem_cons_of_mem _ hz)
    exact ⟨true :: bs, by simp [bls, e], by simpa using a⟩
theorem f_all {ys : List D} (h : ∀ y ∈ ys, y = .bl true) : Fall [.lst ys] μ = okR (.bl true) μ := by
  obtain ⟨bs, e, a⟩ := bls_true h
  unfold Fall
  simp only [e, Option.map_some, pureR, a]
end
end DM

namespace DM
open PySem PySem.Spec L2
local macro_rules | `(tactic| walk_at "q") => `(tactic| simp only [q_ok, q_okR, q_if, q_C, q_ret, q_var, q_at, q_e1, q_e2, q_call, q_callB, q_nil, q_cons, q_tup, q_lst, q_cel, q_ifexp, q_blAt, q_bOf, q_bTru, q_bAnd, q_bOr, q_bNot, q_vAnd, q_vOr, q_vNot, q_chain, q_pureS, at0, at1, at2, q_iseq, q_seqL, q_seqF, q_rg1, q_rg2, q_itup, q_tupAt,
  f_add, f_sub, f_mul, f_div, f_mod, f_pow, f_neg, f_cmp, f_abs, f_intI, f_intB, f_max, f_min, f_lenL, f_lenF, f_lenT, f_ixL, f_ixF, f_ixT, f_eqI, f_neI, f_eqB, f_neB, f_isB, f_isnotB, f_truB, f_truI, f_repr0, startR, List.map_cons, List.map_nil, List.length_cons, List.length_nil, List.cons_append, List.nil_append, List.append_nil, List.getElem?_cons_zero, List.getElem?_cons_succ, List.set_cons_zero, List.set_cons_succ, List.replicate_succ, List.replicate_zero, Nat.reduceAdd, Nat.reduceSub])
/-! ### the drawn numbers: a pool is a cell of three ints; c bounds how many were mixed -/
def Pool (p : Nat) (c : Int) (μ : Store) : Prop := ∃ a b c0 : Int, μ[p]? = some (.lst [.int a, .int b, .int c0]) ∧ 0 ≤ a ∧ 0 ≤ b ∧ b < 2 ^ 62 ∧ 0 ≤ c0 ∧ c0 ≤ c
theorem pool_set {p : Nat} {μ : Store} {a b c0 c : Int} (hl : p < μ.length) (ha : 0 ≤ a) (hb : 0 ≤ b) (hb2 : b < 2 ^ 62) (h0 : 0 ≤ c0) (h1 : c0 ≤ c) : Pool p c (μ.set p (.lst [.int a, .int b, .int c0])) :=
  ⟨a, b, c0, List.getElem?_set_self hl, ha, hb, hb2, h0, h1⟩
/-- the store as a law's own helpers find it -/
structure Wd (p : Nat) (c : Int) (μ : Store) : Prop where
  pool : Pool p c μ
  pure : PureS μ
theorem Wd.mono {p : Nat} {c c' : Int} {μ : Store} (h : Wd p c μ) (l : c ≤ c') : Wd p c' μ := by
  obtain ⟨⟨a, b, c0, e, q1, q2, q3, q4, q5⟩, hp⟩ := h
  exact ⟨⟨a, b, c0, e, q1, q2, q3, q4, by omega⟩, hp⟩
theorem Wd.lt {p : Nat} {c : Int} {μ : Store} (h : Wd p c μ) : p < μ.length := by
  obtain ⟨⟨a, b, c0, e, _⟩, _⟩ := h
  exact (List.getElem?_eq_some_iff.mp e).1
/-- a draw: n is what it is bounded by -/
def DrawOk (F : FD) : Prop := ∀ {p : Nat} {c n : Int} {μ : Store}, Wd p c μ → c < 2 ^ 20 → 0 < n → n < 2 ^ 200 → Ok (F [.ref p, .int n] μ) (fun d μ' => ∃ r, d = .int r ∧ 0 ≤ r ∧ r < n ∧ Wd p (c + 1) μ' ∧ Fr p μ μ')
/-- the same with nothing said of the other cells -/
def DrawP (F : FD) : Prop := ∀ {p : Nat} {c n : Int} {μ : Store}, Pool p c μ → c < 2 ^ 20 → 0 < n → n < 2 ^ 200 → Ok (F [.ref p, .int n] μ) (fun d μ' => ∃ r, d = .int r ∧ 0 ≤ r ∧ r < n ∧ Pool p (c + 1) μ' ∧ ∃ a b c0 : Int, μ' = μ.set p (.lst [.int a, .int b, .int c0]))
theorem DrawP.ok {F : FD} (h : DrawP F) : DrawOk F := fun {p c n μ} hw hc h0 h1 => (h hw.pool hc h0 h1).mono fun d μ' ⟨r, e, r0, r1, w, a, b, c0, e'⟩ => ⟨r, e, r0, r1, ⟨w, by rw [e']; exact hw.pure.set rfl⟩, by rw [e']; exact Fr.set⟩
def primes5 : List D := [.int 2147483647, .int 2147483629, .int 2147483587, .int 2147483579, .int 2147483563]
theorem primes5_at (t : Int) : ∃ pr : Int, atI primes5 (t % 5) = some (.int pr) ∧ 2147483563 ≤ pr ∧ pr ≤ 2147483647 := by
  have : t % 5 = 0 ∨ t % 5 = 1 ∨ t % 5 = 2 ∨ t % 5 = 3 ∨ t % 5 = 4 := by omega
  rcases this with h | h | h | h | h <;> rw [h]
  · exact ⟨2147483647, rfl, by decide, by decide⟩
  · exact ⟨2147483629, rfl, by decide, by decide⟩
  · exact ⟨2147483587, rfl, by decide, by decide⟩
  · exact ⟨2147483579, rfl, by decide, by decide⟩
  · exact ⟨2147483563, rfl, by decide, by decide⟩
/-- the first part of every draw -/
def digitS (rest : SF) : SF := (sSeq (sIf (bOf (e2 Fgt (e2 Fix (eVar 0) (eC (.int 0))) (eC (.int 0)))) (sSeq (sAsg 2 (e2 Fmod (e2 Fix (eVar 0) (eC (.int 0))) (eVar 1))) (sSeq (sPut (eVar 0) (eC (.int 0)) (e2 Fdiv (e2 Fix (eVar 0) (eC (.int 0))) (eVar 1))) (sRet (eVar 2)))) sNil) (sSeq (sPut (eVar 0) (eC (.int 2)) (e2 Fadd (e2 Fix (eVar 0) (eC (.int 2))) (eC (.int 1)))) rest))
theorem digit_ok {rest : SF} {k : Nat}
    (hr : ∀ {p : Nat} {a b t n : Int} {μ1 : Store}, μ1[p]? = some (.lst [.int a, .int b, .int t]) → 0 ≤ b → b < 2 ^ 62 → 0 < t → t ≤ 2 ^ 20 → 0 < n → n < 2 ^ 200 → ∀ {Qf : Fl → Store → Prop}, (∀ r, 0 ≤ r → r < n → Qf (.rt (.int r)) μ1) → OkS (rest (some (.ref p) :: some (.int n) :: none :: List.replicate k none) μ1) Qf) : DrawP (fnP (3 + k) 2 (digitS rest)) := by
  intro p c n μ hw hc h0 h1
  obtain ⟨a, b, c0, e, ha, hb, hb2, hc0, hcc⟩ := hw
  have hl : p < μ.length := (List.getElem?_eq_some_iff.mp e).1
  refine q_fn rfl ?_
  have est : startR (3 + k) [.ref p, .int n] = some (.ref p) :: some (.int n) :: none :: List.replicate k none := by
    unfold startR
    have : 3 + k - [D.ref p, D.int n].length = k + 1 := by simp; omega
    rw [this, List.replicate_succ]
    rfl
  rw [est]
  unfold digitS
  rw [q_seq]
  refine q_sif ?_
  walk_at "q"
  simp only [f_ixR e, at0, q_pureS, f_cmp, q_okR, q_blAt]
  by_cases z : 0 < a
  · rw [if_pos (decide_eq_true z), q_seq]
    refine q_asg ?_
    walk_at "q"
    simp only [f_ixR e, at0, q_pureS, f_mod, q_if, q_okR]
    refine ⟨h0, ?_⟩
    rw [q_cont, q_seq]
    refine q_put ?_
    walk_at "q"
    simp only [f_ixR e, at0, q_pureS, f_div, q_if, q_okR]
    refine ⟨⟨h0, by omega⟩, p, 0, _, 0, rfl, rfl, e, rfl, ?_⟩
    rw [q_cont]
    refine q_sret ?_
    walk_at "q"
    rw [q_contR]
    refine ⟨a % n, rfl, Int.emod_nonneg _ (by omega), Int.emod_lt_of_pos _ h0, pool_set hl (Int.ediv_nonneg ha (by omega)) hb hb2 hc0 (by omega), _, _, _, rfl⟩
  · rw [if_neg (by simpa using z), q_snil, q_cont, q_seq]
    refine q_put ?_
    walk_at "q"
    simp only [f_ixR e, at2, q_pureS, f_add, q_okR]
    refine ⟨p, 2, _, 2, rfl, rfl, e, rfl, ?_⟩
    simp only [List.set_cons_zero, List.set_cons_succ]
    rw [q_cont]
    refine hr (List.getElem?_set_self hl) hb hb2 (by omega) (by omega) h0 h1 fun r r0 r1 => ?_
    exact ⟨r, rfl, r0, r1, pool_set hl ha hb hb2 (by omega) (by omega), _, _, _, rfl⟩
def drawRest : SF := (sSeq (sAsg 3 (e2 Fix (eVar 0) (eC (.int 2)))) (sSeq (sAsg 4 (e2 Fix (eLst (aCons (eC (.int 2147483647)) (aCons (eC (.int 2147483629)) (aCons (eC (.int 2147483587)) (aCons (eC (.int 2147483579)) (aCons (eC (.int 2147483563)) aNil)))))) (e2 Fmod (eVar 3) (eC (.int 5))))) (sSeq (sAsg 5 (e2 Fmod (e2 Fpow (e2 Fadd (e2 Fadd (e2 Fix (eVar 0) (eC (.int 1))) (e2 Fmul (e2 Fmul (eC (.int 7573)) (eVar 3)) (eVar 3))) (e2 Fmul (eC (.int 37)) (eVar 3))) (eC (.int 3))) (eVar 4))) (sRet (e2 Fmod (e2 Fdiv (e2 Fmod (e2 Fmul (eVar 5) (e2 Fadd (e2 Fadd (e2 Fmod (eVar 5) (eC (.int 1013))) (e2 Fmul (eC (.int 9)) (eVar 3))) (eC (.int 1)))) (eVar 4)) (eC (.int 13))) (eVar 1))))))
def takeRest (c1 c2 c3 c4 : Int) : SF := (sSeq (sAsg 3 (e2 Fix (eLst (aCons (eC (.int 2147483647)) (aCons (eC (.int 2147483629)) (aCons (eC (.int 2147483587)) (aCons (eC (.int 2147483579)) (aCons (eC (.int 2147483563)) aNil)))))) (e2 Fmod (e2 Fix (eVar 0) (eC (.int 2))) (eC (.int 5))))) (sSeq (sAsg 4 (e2 Fmod (e2 Fpow (e2 Fadd (e2 Fadd (e2 Fix (eVar 0) (eC (.int 1))) (e2 Fmul (e2 Fmul (eC (.int c1)) (e2 Fix (eVar 0) (eC (.int 2)))) (e2 Fix (eVar 0) (eC (.int 2))))) (eC (.int c2))) (eC (.int 3))) (eVar 3))) (sRet (e2 Fmod (e2 Fdiv (e2 Fmod (e2 Fmul (eVar 4) (e2 Fadd (e2 Fmod (eVar 4) (eC (.int c3))) (e2 Fmul (eC (.int c4)) (e2 Fix (eVar 0) (eC (.int 2)))))) (eC (.int 2305843009213693907))) (eC (.int c4))) (eVar 1)))))
/-- 65537, 29, 10007, 97; or 40009, 31, 10009, 89 -/
theorem take1_okP {c1 c2 c3 c4 : Int} (a1 : 0 < c1 ∧ c1 < 2 ^ 30) (a2 : 0 < c2 ∧ c2 < 2 ^ 30) (a3 : 0 < c3 ∧ c3 < 2 ^ 30) (a4 : 0 < c4 ∧ c4 < 2 ^ 30) : DrawP (fnP 5 2 (digitS (takeRest c1 c2 c3 c4))) := digit_ok (k := 2) (by
  intro p a b t n μ1 e hb hb2 ht0 ht1 h0 h1 Qf q
  unfold takeRest
  rw [q_seq]
  refine q_asg ?_
  walk_at "q"
  simp only [f_ixR e, at2, q_pureS, f_mod, q_if, q_okR, f_ixL]
  refine ⟨size_ok (by decide), by decide, ?_⟩
  obtain ⟨pr, epr, hpr0, hpr1⟩ := primes5_at t
  rw [show [D.int 2147483647, .int 2147483629, .int 2147483587, .int 2147483579, .int 2147483563] = primes5 from rfl, epr, q_pureS, q_cont, q_seq]
  refine q_asg ?_
  walk_at "q"
  simp only [f_ixR e, at1, at2, q_pureS, f_add, f_mul, f_pow, f_mod, q_if, q_okR]
  have hu0 : 0 ≤ t * t := Int.mul_nonneg (by omega) (by omega)
  have hu : t * t ≤ 2 ^ 20 * 2 ^ 20 := Int.mul_le_mul (by omega) (by omega) (by omega) (by decide)
  have hx : c1 * t * t = c1 * (t * t) := Int.mul_assoc _ _ _
  have hv0 : 0 ≤ c1 * (t * t) := Int.mul_nonneg (by omega) hu0
  have hv : c1 * (t * t) ≤ 2 ^ 30 * (2 ^ 20 * 2 ^ 20) := Int.mul_le_mul (by omega) hu hu0 (by decide)
  refine ⟨.inl (by omega), .inr (.inl (by omega)), ⟨by decide, by decide, by omega, by omega⟩, by omega, ?_⟩
  generalize (b + c1 * t * t + c2) ^ Int.toNat 3 = big
  have hy0 := Int.emod_nonneg big (show pr ≠ 0 by omega)
  have hy1 := Int.emod_lt_of_pos big (show 0 < pr by omega)
  generalize big % pr = y at hy0 hy1
  rw [q_cont]
  refine q_sret ?_
  walk_at "q"
  simp only [f_ixR e, at2, q_pureS, f_add, f_mul, f_div, f_mod, q_if, q_okR]
  refine ⟨by omega, .inl (by omega), .inl (by omega), by decide, ⟨by omega, by omega⟩, h0, ?_⟩
  exact q _ (Int.emod_nonneg _ (by omega)) (Int.emod_lt_of_pos _ h0))
def takeRest2 : SF := (sSeq (sAsg 3 (e2 Fix (eLst (aCons (eC (.int 2305843009213693951)) (aCons (eC (.int 2305843009213693921)) (aCons (eC (.int 2305843009213693907)) (aCons (eC (.int 2305843009213693723)) aNil))))) (e2 Fmod (e2 Fix (eVar 0) (eC (.int 2))) (eC (.int 4))))) (sSeq (sAsg 4 (e2 Fmod (e2 Fpow (e2 Fadd (e2 Fadd (e2 Fix (eVar 0) (eC (.int 1))) (e2 Fmul (e2 Fmul (eC (.int 15485863)) (e2 Fix (eVar 0) (eC (.int 2)))) (e2 Fix (eVar 0) (eC (.int 2))))) (eC (.int 7))) (eC (.int 3))) (eVar 3))) (sRet (e2 Fmod (e2 Fdiv (e2 Fmod (e2 Fmul (eVar 4) (e2 Fadd (e2 Fmod (eVar 4) (eC (.int 1000003))) (e2 Fix (eVar 0) (eC (.int 2))))) (eVar 3)) (eC (.int 4099))) (eVar 1)))))
/-- one of some -/
def pickF (F : FD) : FD := fnP 2 2 (sRet (e2 Fix (eVar 1) (eCall F (aCons (eVar 0) (aCons (eCallB Flen (aCons (eVar 1) aNil)) aNil)) [])))
theorem pick_lst {F : FD} (hF : DrawOk F) {p : Nat} {c : Int} {μ : Store} {xs : List D} (hw : Wd p c μ) (hc : c < 2 ^ 20) (h0 : 0 < xs.length) (h1 : xs.length < 2 ^ 30) : Ok (pickF F [.ref p, .lst xs] μ) (fun d μ' => (∃ i : Nat, xs[i]? = some d) ∧ Wd p (c + 1) μ' ∧ Fr p μ μ') := by
  refine q_fn rfl ?_
  refine q_sret ?_
  walk_at "q"
  refine (hF hw hc (by omega) (by omega)).mono ?_
  rintro d μ1 ⟨r, rfl, hr0, hr1, hw1, hf1⟩
  obtain ⟨x, ex, ex2⟩ := at_lt (xs := xs) hr0 hr1
  simp only [f_ixL, ex, q_pureS]
  exact ⟨⟨_, ex2⟩, hw1, hf1⟩
theorem pick_tup {F : FD} (hF : DrawOk F) {p : Nat} {c : Int} {μ : Store} {xs : List D} (hw : Wd p c μ) (hc : c < 2 ^ 20) (h0 : 0 < xs.length) (h1 : xs.length < 2 ^ 30) : Ok (pickF F [.ref p, .tup xs] μ) (fun d μ' => (∃ i : Nat, xs[i]? = some d) ∧ Wd p (c + 1) μ' ∧ Fr p μ μ') := by
  refine q_fn rfl ?_
  refine q_sret ?_
  walk_at "q"
  refine (hF hw hc (by omega) (by omega)).mono ?_
  rintro d μ1 ⟨r, rfl, hr0, hr1, hw1, hf1⟩
  obtain ⟨x, ex, ex2⟩ := at_lt (xs := xs) hr0 hr1
  simp only [f_ixT, ex, q_pureS]
  exact ⟨⟨_, ex2⟩, hw1, hf1⟩
/-! ### pools made from the script -/
def PoolOk (F : FD) : Prop := ∀ {ns : List Int} {k : Int} {μ : Store}, 0 ≤ k → k < 4 → PureS μ → Ok (F [scriptD ns, .int k] μ) (fun d μ' => d = .ref μ.length ∧ (∃ o, μ' = μ ++ [o]) ∧ Wd μ.length 0 μ')
def lotE (l1 l2 : Int) : CM D := (eIf (bOf (e2 Flt (eVar 1) (eCallB Flen (aCons (eVar 0) aNil)))) (e2 Fix (eVar 0) (eVar 1)) (e2 Fadd (e2 Fmul (eC (.int l1)) (eVar 1)) (eC (.int l2))))
theorem lot_ok {l1 l2 : Int} {ns : List Int} {k : Int} {μ : Store} {ρ : Rho} (hl : -(2 ^ 64) < l1 ∧ l1 < 2 ^ 64) (h0 : 0 ≤ k) (e0 : ρ[0]? = some (some (scriptD ns))) (e1 : ρ[1]? = some (some (.int k))) : Ok (lotE l1 l2 ρ μ) (fun d μ1 => (∃ lot, d = .int lot) ∧ μ1 = μ) := by
  unfold lotE
  simp only [q_ifexp, q_bOf, q_e2, q_var, e0, e1, q_at, q_callB, q_cons, q_nil, scriptD, f_lenF, q_okR, f_cmp, q_blAt]
  by_cases z : k < ((ns.map D.int).length : Int)
  · rw [if_pos (decide_eq_true z)]
    obtain ⟨x, ex, ex2⟩ := at_lt h0 z
    rw [f_ixF, ex, q_pureS]
    rw [List.getElem?_map] at ex2
    obtain ⟨y, _, rfl⟩ := Option.map_eq_some_iff.mp ex2
    exact ⟨⟨y, rfl⟩, rfl⟩
  · rw [if_neg (by simpa using z)]
    walk_at "q"
    exact ⟨.inl hl, ⟨_, rfl⟩, by trivial⟩
/-- the mixed part and the list -/
theorem mix_ok {μ : Store} {own mix : Int} (hs : PureS μ) (h0 : 0 ≤ own) (h1 : 0 ≤ mix) (h2 : mix < 2 ^ 62) : Wd μ.length 0 (μ ++ [.lst [.int own, .int mix, .int 0]]) :=
  ⟨⟨own, mix, 0, by simp, h0, h1, h2, by decide, by decide⟩, hs.app rfl⟩
def poolS1 (l1 l2 pw m1 m2 m3 m4 : Int) : SF := (sSeq (sAsg 2 (lotE l1 l2)) (sSeq (sAsg 3 (e2 Fmul (e2 Fmod (eCallB Fabs (aCons (eVar 2) aNil)) (e2 Fpow (e2 Fpow (eC (.int 10)) (eC (.int 60))) (eC (.int pw)))) (eCallB Fint (aCons (e2 Fge (eCallB Fabs (aCons (eVar 2) aNil)) (e2 Fpow (eC (.int 10)) (eC (.int 18)))) aNil)))) (sRet (eCel (aCons (eVar 3) (aCons (e2 Fmod (e2 Fmul (e2 Fadd (e2 Fadd (e2 Fmod (eVar 2) (eC (.int m1))) (e2 Fmul (eC (.int m2)) (eVar 1))) (eC (.int m3))) (eC (.int m4))) (eC (.int 2147483399))) (aCons (eC (.int 0)) aNil)))))))
def mixE (m1 m2 m3 m4 : Int) : CM D := (e2 Fmod (e2 Fadd (e2 Fadd (e2 Fmul (e2 Fmod (eVar 2) (eC (.int m1))) (eC (.int m2))) (e2 Fmul (e2 Fmul (eC (.int m3)) (eVar 1)) (eVar 1))) (eC (.int m4))) (eC (.int 2305843009213693921)))
def poolS2 (l1 l2 pw m1 m2 m3 m4 : Int) : SF := (sSeq (sAsg 2 (lotE l1 l2)) (sSeq (sAsg 3 (e2 Fmul (e2 Fmod (eCallB Fabs (aCons (eVar 2) aNil)) (e2 Fpow (e2 Fpow (eC (.int 10)) (eC (.int 60))) (eC (.int pw)))) (eCallB Fint (aCons (e2 Fge (eCallB Fabs (aCons (eVar 2) aNil)) (e2 Fpow (eC (.int 10)) (eC (.int 18)))) aNil)))) (sRet (eCel (aCons (eVar 3) (aCons (mixE m1 m2 m3 m4) (aCons (eC (.int 0)) aNil)))))))
def poolS3 (l1 l2 pw m1 m2 m3 m4 : Int) : SF := (sSeq (sAsg 2 (lotE l1 l2)) (sSeq (sAsg 3 (eIf (bOf (e2 Fge (eCallB Fabs (aCons (eVar 2) aNil)) (e2 Fpow (eC (.int 10)) (eC (.int 18))))) (e2 Fmod (eCallB Fabs (aCons (eVar 2) aNil)) (e2 Fpow (e2 Fpow (eC (.int 10)) (eC (.int 60))) (eC (.int pw)))) (eC (.int 0)))) (sRet (eCel (aCons (eVar 3) (aCons (mixE m1 m2 m3 m4) (aCons (eC (.int 0)) aNil)))))))
theorem pool3_ok {l1 l2 pw m1 m2 m3 m4 : Int} (hl : -(2 ^ 64) < l1 ∧ l1 < 2 ^ 64) (hp : 0 ≤ pw ∧ pw ≤ 100) (a1 : 0 < m1) (a2 : 0 < m2 ∧ m2 < 2 ^ 60) (a3 : 0 < m3 ∧ m3 < 2 ^ 60) : PoolOk (fnP 4 2 (poolS3 l1 l2 pw m1 m2 m3 m4)) := by
  intro ns k μ h0 h1 hs
  refine q_fn rfl ?_
  unfold poolS3
  rw [q_seq]
  refine q_asg ((lot_ok (ns := ns) (k := k) hl h0 rfl rfl).mono ?_)
  rintro d μ1 ⟨⟨lot, rfl⟩, rfl⟩
  rw [q_cont, q_seq]
  refine q_asg (Ok.mono (Q := fun d μ2 => (∃ own, d = .int own ∧ 0 ≤ own) ∧ μ2 = μ1) ?_ ?_)
  · walk_at "q"
    have hbig : (0 : Int) < (10 ^ Int.toNat 60) ^ pw.toNat := Int.pow_pos (by decide)
    refine ⟨by decide, ?_⟩
    generalize (if lot < 0 then -lot else lot) = a
    split
    · exact ⟨by decide, ⟨hp.1, by omega, by decide, by decide⟩, hbig, ⟨_, rfl, Int.emod_nonneg _ (Int.ne_of_gt hbig)⟩, by trivial⟩
    · exact ⟨⟨0, rfl, by decide⟩, by trivial⟩
  · rintro d μ1 ⟨⟨own, rfl, hown⟩, rfl⟩
    rw [q_cont]
    refine q_sret ?_
    unfold mixE
    walk_at "q"
    refine ⟨a1, .inr (.inl (by omega)), .inl (by omega), .inr (.inl (by omega)), by decide, size_ok (by decide), ?_⟩
    refine ⟨by trivial, ⟨_, rfl⟩, mix_ok hs hown (Int.emod_nonneg _ (by decide)) ?_⟩
    have := Int.emod_lt_of_pos (lot % m1 * m2 + m3 * k * k + m4) (show (0 : Int) < 2305843009213693921 by decide)
    omega
def poolS4 (l1 l2 m1 m2 m3 m4 : Int) : SF := (sSeq (sAsg 2 (lotE l1 l2)) (sSeq (sAsg 3 (e2 Fmul (e2 Fmod (eCallB Fabs (aCons (eVar 2) aNil)) (e2 Fmul (e2 Fmul (e2 Fpow (eC (.int 10)) (eC (.int 60))) (e2 Fpow (eC (.int 10)) (eC (.int 60)))) (e2 Fpow (eC (.int 10)) (eC (.int 60))))) (eCallB Fint (aCons (e2 Fge (eCallB Fabs (aCons (eVar 2) aNil)) (e2 Fpow (eC (.int 10)) (eC (.int 18)))) aNil)))) (sRet (eCel (aCons (eVar 3) (aCons (e2 Fmod (e2 Fadd (e2 Fadd (e2 Fmul (e2 Fmod (eVar 2) (eC (.int m1))) (eC (.int m2))) (e2 Fmul (eC (.int m3)) (eVar 1))) (eC (.int m4))) (eC (.int 2305843009213693921))) (aCons (eC (.int 0)) aNil)))))))
/-! ### the law's own loops -/
/-- a helper of the law: it answers True, and mixes at most K numbers -/
def RightOk (F : FD) (K M : Int) : Prop := ∀ {p : Nat} {c : Int} {μ : Store}, Wd p c μ → c ≤ M → Ok (F [.ref p] μ) (fun d μ' => d = .bl true ∧ Wd p (c + K) μ' ∧ Fr p μ μ')
def allS (F : FD) (turns : Int) (x y : Nat) : CM D := eCallB Fall (aCons (eSeal (eLC (iRg1 (aCons (eC (.int turns)) aNil)) (fName y) bYes (eCall F (aCons (eVar x) aNil) []) [y])) aNil)
theorem turns_ok {ns : List Int} {n : Int} (hn : 1 ≤ n) : ∃ j : Int, (if (if ((ns.map D.int).length : Int) < n then ((ns.map D.int).length : Int) else n) > 1 then (if ((ns.map D.int).length : Int) < n then ((ns.map D.int).length : Int) else n) else 1) = j ∧ 1 ≤ j ∧ j ≤ n := by
  refine ⟨_, rfl, ?_, ?_⟩
  · split <;> omega
  · split
    · split <;> omega
    · omega
/-- for k in range(max(1, min(n, len(script)))): pool = ..; if not all([right(pool) for turn in range(m)]): return False; return True -/
def lawS1 (Fp Fr' : FD) (n m : Int) : SF := (sSeq (sFor (iRg1 (aCons (eCallB Fmax (aCons (eC (.int 1)) (aCons (eCallB Fmin (aCons (eC (.int n)) (aCons (eCallB Flen (aCons (eVar 0) aNil)) aNil))) aNil))) aNil)) (fName 1) (sSeq (sAsg 2 (eCall Fp (aCons (eVar 0) (aCons (eVar 1) aNil)) [])) (sIf (bNot (bTru (allS Fr' m 2 3))) (sRet (eC (.bl false))) sNil))) (sRet (eC (.bl true))))
/-- all([right(pool(script, k)) for k in range(max(1, min(n, len(script))))]) -/
def lawS2 (Fp Fr' : FD) (n : Int) : SF := sRet (eCallB Fall (aCons (eSeal (eLC (iRg1 (aCons (eCallB Fmax (aCons (eC (.int 1)) (aCons (eCallB Fmin (aCons (eC (.int n)) (aCons (eCallB Flen (aCons (eVar 0) aNil)) aNil))) aNil))) aNil)) (fName 1) bYes (eSeal (eCall Fr' (aCons (eCall Fp (aCons (eVar 0) (aCons (eVar 1) aNil)) []) aNil) [])) [1])) aNil))
theorem fr_take {μ μ2 : Store} {o : Ob} (h : Fr μ.length (μ ++ [o]) μ2) : μ2.take μ.length = μ := by
  apply List.ext_getElem?
  intro j
  by_cases hj : j < μ.length
  · rw [List.getElem?_take_of_lt hj, h.eq j (Nat.ne_of_lt hj), List.getElem?_append_left hj]
  · rw [List.getElem?_eq_none (by rw [List.length_take]; omega), List.getElem?_eq_none (by omega)]
theorem law2_true {Fp Fr' : FD} {K n M : Int} (hP : PoolOk Fp) (hR : RightOk Fr' K M) (hn : 1 ≤ n ∧ n ≤ 4) (hM : 0 ≤ M) (ns : List Int) : ∃ μ', fnP 2 1 (lawS2 Fp Fr' n) [scriptD ns] [] = some (.ok (.bl true), μ') := by
  have h : Ok (fnP 2 1 (lawS2 Fp Fr' n) [scriptD ns] []) (fun d _ => d = .bl true) := by
    refine q_fn rfl ?_
    unfold lawS2
    refine q_sret ?_
    simp only [q_callB, q_cons, q_nil]
    refine q_lc ?_
    simp only [scriptD]
    walk_at "q"
    refine ⟨_, rfl, ?_⟩
    obtain ⟨j, ej, hj1, hj2⟩ := turns_ok (ns := ns) hn.1
    rw [ej]
    refine ⟨by omega, by omega, ?_⟩
    have hlen : (rngD 0 j.toNat).length = j.toNat := rng_len
    refine (lcp (p := 1) (μ1 := ([] : Store)) (n := 0) (fun i _ => True) (fun _ y => y = .bl true) (fun _ _ _ _ _ => trivial) (fun _ _ _ _ _ => trivial) rfl (by decide) (fun o ho => by simp at ho) ?_ trivial ?_).mono ?_
    · rw [hlen]; omega
    · intro i d μ' ed hl' hs' _
      obtain ⟨hi, rfl⟩ := rng_get ed
      refine ⟨_, rfl, ?_⟩
      refine Ok_seal ?_
      simp only [wipeR]
      walk_at "q"
      refine (hP (ns := ns) (by omega) (by omega) hs').mono ?_
      rintro d μ1 ⟨rfl, ⟨o, rfl⟩, hw1⟩
      refine (hR hw1 hM).mono ?_
      rintro d μ2 ⟨rfl, hw2, hf2⟩
      rw [fr_take hf2]
      exact ⟨hs', .bl true, unref_pure rfl, rfl, rfl, Fr.refl _ _, hs', trivial⟩
    · rintro d μ' ⟨hs', ys, eu, hyl, hy, hf', hp'⟩
      refine ⟨hs', .lst ys, eu, ?_⟩
      rw [f_all (fun y hy' => by obtain ⟨k, hk⟩ := List.getElem?_of_mem hy'; exact hy k y hk)]
      trivial
  obtain ⟨a, μ, e, rfl⟩ := h.get
  exact ⟨μ, e⟩
/-! ### the same, counted from a def's entry -/
structure Wx (μ0 : Store) (p : Nat) (c : Int) (μ : Store) : Prop where
  wd : Wd p c μ
  fr : Fr p μ0 μ
theorem Wd.x {p : Nat} {c : Int} {μ : Store} (h : Wd p c μ) : Wx μ p c μ := ⟨h, Fr.refl _ _⟩
theorem Wx.mono {μ0 μ : Store} {p : Nat} {c c' : Int} (h : Wx μ0 p c μ) (l : c ≤ c') : Wx μ0 p c' μ := ⟨h.wd.mono l, h.fr⟩
theorem Wx.from {μ0 μ1 μ : Store} {p : Nat} {c c1 : Int} (a : Wx μ0 p c1 μ1) (b : Wx μ1 p c μ) : Wx μ0 p c μ := ⟨b.wd, a.fr.trans b.fr⟩
section
variable {F : FD} (hF : DrawOk F) {μ0 μ : Store} {p : Nat} {c : Int}
include hF
theorem DrawOk.x {n : Int} (h : Wx μ0 p c μ) (hc : c < 2 ^ 20) (h0 : 0 < n) (h1 : n < 2 ^ 200) : Ok (F [.ref p, .int n] μ) (fun d μ' => ∃ r, d = .int r ∧ 0 ≤ r ∧ r < n ∧ Wx μ0 p (c + 1) μ') :=
  (hF h.wd hc h0 h1).mono fun _ _ ⟨r, a, b, e, w, f⟩ => ⟨r, a, b, e, w, h.fr.trans f⟩
theorem DrawOk.pick {xs : List D} (h : Wx μ0 p c μ) (hc : c < 2 ^ 20) (h0 : 0 < xs.length) (h1 : xs.length < 2 ^ 30) : Ok (pickF F [.ref p, .lst xs] μ) (fun d μ' => d ∈ xs ∧ Wx μ0 p (c + 1) μ') :=
  (pick_lst hF h.wd hc h0 h1).mono fun _ _ ⟨⟨i, e⟩, w, f⟩ => ⟨List.mem_of_getElem? e, w, h.fr.trans f⟩
theorem DrawOk.pickT {xs : List D} (h : Wx μ0 p c μ) (hc : c < 2 ^ 20) (h0 : 0 < xs.length) (h1 : xs.length < 2 ^ 30) : Ok (pickF F [.ref p, .tup xs] μ) (fun d μ' => d ∈ xs ∧ Wx μ0 p (c + 1) μ') :=
  (pick_tup hF h.wd hc h0 h1).mono fun _ _ ⟨⟨i, e⟩, w, f⟩ => ⟨List.mem_of_getElem? e, w, h.fr.trans f⟩
end
end DM

namespace DM
open PySem PySem.Spec L2
/-! ### a, b = e -/
def sUnp (is : List Nat) (E : CM D) : SF := lft E fun d ρ μ => match fTup is d ρ with
  | some ρ' => some (.nx ρ', μ)
  | none => none
theorem ds_unp {X : Cx} {W : DW} {tg e : Expr} {E : CM D} {g : TG} {is own : List Nat} {pos : Pos} (he : PE X e (tE X.K W E)) (hg : PG X tg g) (ht : TgOk X.K g (fTup is) own) (hs : swapsWithSole [tg] e pos.line X.env = pure false := by rfl) (hw : swappedStores [tg] e X.env = pure none := by rfl)
    (h1 : (assignEach [tg] X.env).map (·.2) = [assign tg X.env] := by rfl) : PS X (.Assign [tg] e pos) (sD X.K W (sUnp is E)) := (ps_asg he hg hs hw h1).imp fun T σ H ⟨ρ, ι, μ, sr, wf, h⟩ => by
  refine tG.mono (PostS.bind sr wf h) ?_
  rintro x H1 ⟨ι1, μ1, d, l1, w1, vx, h1⟩
  match e : fTup is d ρ, h1 with
  | some ρ', h1 => exact ht x d σ ρ ρ' ι1 μ1 H1 _ (sr.mono l1) w1 vx e fun σ' s' _ => h1.nx0 w1 s'
/-! ### methods of lists -/
def isList (μ : Store) : D → Bool
  | .lst _ => true
  | .fl _ => true
  | .ref i => match μ[i]? with
    | some (.lst _) => true
    | _ => false
  | _ => false
def eMeth (c : Store → D → Bool) (F : D → List D → Store → Res D) (O : CM D) (A : CM (List D)) : CM D := O.bind fun o => fun ρ μ => if c μ o = true then (A.bind fun ds _ μ => F o ds μ) ρ μ else none
def LiftM (K : PySem.W.Frag) (r : V → List V → Hp → VK → Prop) (F : D → List D → Store → Res D) : Prop := ∀ (W : DW) σ ι μ H x xs d ds Q, WF K ι μ H → VR K ι H x d → VRs K ι H xs ds → PostG (VR K) K W σ ι H Q (F d ds μ) → r x xs H Q
theorem list_ty {K : PySem.W.Frag} {ι : List Addr} {H : Hp} {μ : Store} {x : V} {d : D} (w : WF K ι μ H) (v : VR K ι H x d) (h : isList μ d = true) : tyV K "list" x H := by
  cases v with
  | lst hh r => exact .inl ⟨rfl, _, hh.sq⟩
  | fl hh r => exact .inl ⟨rfl, _, hh.sq⟩
  | ref hi =>
    obtain ⟨o, ho, ro⟩ := w.has hi
    cases o with
    | lst xs =>
      obtain ⟨vs, ea, _⟩ := ro
      exact .inl ⟨rfl, _, .inl (.inl ea)⟩
    | _ => simp [isList, ho] at h
  | _ => simp [isList] at h
theorem bmAux {K : PySem.W.Frag} {W : DW} {T : String} {r : V → List V → Hp → VK → Prop} {F : D → List D → Store → Res D} {c : Store → D → Bool} {O : CM D} {As : CM (List D)} (hc : ∀ ι H μ x d, WF K ι μ H → VR K ι H x d → c μ d = true → tyV K T x H) (hF : LiftM K r F) (σ : L2.St) (H : Hp) (Q : VK) (h : tE K W (eMeth c F O As) σ H Q) : tBM K T r (tE K W O) (tA K W As) σ H Q := by
  obtain ⟨ρ, ι, μ, sr, wf, h⟩ := h
  refine tG.mono (PostG.bind sr wf h) ?_
  rintro x H1 ⟨ι1, μ1, d, l1, w1, vx, h1⟩
  obtain ⟨ct, h1⟩ := PostG.guard h1
  refine ⟨hc _ _ _ _ _ w1 vx ct, tG.mono (PostG.bind (sr.mono l1) w1 h1) ?_⟩
  rintro xs H2 ⟨ι2, μ2, ds, l2, w2, vxs, h2⟩
  exact hF W σ ι2 μ2 H2 x xs d ds Q w2 (vx.mono l2) vxs h2
def Fapp (o : D) (ds : List D) (μ : Store) : Res D := match o, ds with
  | .ref c, [y] => match μ[c]? with
    | some (.lst xs) => if xs.length < sizeLine then okR .non (μ.set c (.lst (xs ++ [y]))) else none
    | _ => none
  | _, _ => none
def Fext (o : D) (ds : List D) (μ : Store) : Res D := match o, ds with
  | .ref c, [.lst ys] => match μ[c]? with
    | some (.lst xs) => if xs.length + ys.length ≤ sizeLine then okR .non (μ.set c (.lst (xs ++ ys))) else none
    | _ => none
  | _, _ => none
def FpopAt (o : D) (ds : List D) (μ : Store) : Res D := match o, ds with
  | .ref c, [.int i] => match μ[c]? with
    | some (.lst xs) => if -(2 ^ 63) ≤ i ∧ i < 2 ^ 63 then (match seqIndex? i xs.length with
      | some k => match xs[k]? with
        | some y => okR y (μ.set c (.lst (xs.eraseIdx k)))
        | none => none
      | none => none) else none
    | _ => none
  | _, _ => none
section
variable {X : Cx} {K : PySem.W.Frag}
theorem VRs.erase {ι : List Addr} {H : Hp} : ∀ {vs : List V} {ds : List D} (i : Nat), VRs K ι H vs ds → VRs K ι H (vs.eraseIdx i) (ds.eraseIdx i)
  | _, _, _, .nil => by simp; exact .nil
  | _, _, 0, .cons _ t => t
  | _, _, i + 1, .cons q t => .cons q (VRs.erase i t)
theorem lift_app : LiftM K rAppend Fapp := by
  intro W σ ι μ H x xs d ds Q w vx vxs h
  unfold Fapp at h
  split at h
  · rename_i c y
    obtain ⟨v, rfl, vy⟩ := vxs.one
    cases vx with
    | ref hi =>
      obtain ⟨o, ho, ro⟩ := w.has hi
      simp only [ho] at h
      cases o with
      | lst zs =>
        obtain ⟨vs, ea, r⟩ := ro
        obtain ⟨q, h⟩ := PostG.guard h
        exact ⟨_, vs, v, rfl, rfl, ea, by rw [r.length]; exact q, h.ok (Le.set hi (nf ea)) (w.set hi (nf ea) (OR.mkL upd_same ((r.append (.cons vy .nil)).mono (Le.set hi (nf ea))))) .non⟩
      | _ => exact h.elim
  · exact h.elim
theorem lift_ext : LiftM K rExtend Fext := by
  intro W σ ι μ H x xs d ds Q w vx vxs h
  unfold Fext at h
  split at h
  · rename_i c ys
    obtain ⟨v, rfl, vy⟩ := vxs.one
    cases vx with
    | ref hi =>
      obtain ⟨o, ho, ro⟩ := w.has hi
      simp only [ho] at h
      cases o with
      | lst zs =>
        obtain ⟨vs, ea, r⟩ := ro
        obtain ⟨q, h⟩ := PostG.guard h
        cases vy with
        | lst hb rb =>
          exact ⟨_, _, vs, _, rfl, rfl, ea, hb.1, by rw [r.length, rb.length]; exact q, h.ok (Le.set hi (nf ea)) (w.set hi (nf ea) (OR.mkL upd_same ((r.append rb).mono (Le.set hi (nf ea))))) .non⟩
      | _ => exact h.elim
  · exact h.elim
theorem lift_popAt : LiftM K rPopAt FpopAt := by
  intro W σ ι μ H x xs d ds Q w vx vxs h
  unfold FpopAt at h
  split at h
  · rename_i c i
    obtain ⟨v, rfl, vy⟩ := vxs.one
    cases vy
    cases vx with
    | ref hi =>
      obtain ⟨o, ho, ro⟩ := w.has hi
      simp only [ho] at h
      cases o with
      | lst zs =>
        obtain ⟨vs, ea, r⟩ := ro
        obtain ⟨q, h⟩ := PostG.guard h
        split at h
        · rename_i k ek
          split at h
          · rename_i y ey
            obtain ⟨vv, e1, r1⟩ := r.get ey
            exact ⟨_, vs, i, k, vv, rfl, rfl, ea, q.1, q.2, by rw [r.length]; exact ek, e1, h.ok (Le.set hi (nf ea)) (w.set hi (nf ea) (OR.mkL upd_same ((r.erase k).mono (Le.set hi (nf ea))))) (r1.mono (Le.set hi (nf ea)))⟩
          · exact h.elim
        · exact h.elim
      | _ => exact h.elim
  · exact h.elim
end
section
variable {X : Cx} {W : DW} {o e : Expr} {es : List Expr} {O : CM D} {As : CM (List D)} {apos cpos : Pos}
theorem d_app (ho : PE X o (tE X.K W O)) (ha : PA X [e] (tA X.K W As)) (hbase : attributeBase o "append" X.env (eval o X.env) = eval o X.env := by rfl)
    (hfew : ((backTo cpos (starEach [e] X.env)).all (fun x => !x.1) && (backToKw cpos (keywordEach [] X.env)).all (fun x => x.1.isSome) && decide ([e].length + ([] : List Keyword).length + (if ([] : List Keyword).isEmpty then 0 else 1) < 30)) = true := by rfl)
    (hline : (apos.endLine == cpos.line) = true := by rfl) (hs : starEach [e] X.env = (false, eval e X.env) :: starEach [] X.env := by rfl) (hp : (backTo cpos (starEach [] X.env)).any (·.1) = false := by rfl) :
    PE X (.Call (.Attribute o "append" apos) [e] [] cpos) (tE X.K W (eMeth isList Fapp O As)) :=
  (pe_bm PySem.F.plainAttrs_list PySem.F.slot_list_append PySem.F.type_list_append mt_append ho ha hbase hfew hline hs hp).imp (bmAux (fun _ _ _ _ _ => list_ty) lift_app)
theorem d_ext (ho : PE X o (tE X.K W O)) (ha : PA X [e] (tA X.K W As)) (hbase : attributeBase o "extend" X.env (eval o X.env) = eval o X.env := by rfl)
    (hfew : ((backTo cpos (starEach [e] X.env)).all (fun x => !x.1) && (backToKw cpos (keywordEach [] X.env)).all (fun x => x.1.isSome) && decide ([e].length + ([] : List Keyword).length + (if ([] : List Keyword).isEmpty then 0 else 1) < 30)) = true := by rfl)
    (hline : (apos.endLine == cpos.line) = true := by rfl) (hs : starEach [e] X.env = (false, eval e X.env) :: starEach [] X.env := by rfl) (hp : (backTo cpos (starEach [] X.env)).any (·.1) = false := by rfl) :
    PE X (.Call (.Attribute o "extend" apos) [e] [] cpos) (tE X.K W (eMeth isList Fext O As)) :=
  (pe_bm PySem.F.plainAttrs_list PySem.F.slot_list_extend PySem.F.type_list_extend mt_extend ho ha hbase hfew hline hs hp).imp (bmAux (fun _ _ _ _ _ => list_ty) lift_ext)
theorem d_popAt (ho : PE X o (tE X.K W O)) (ha : PA X [e] (tA X.K W As)) (hbase : attributeBase o "pop" X.env (eval o X.env) = eval o X.env := by rfl)
    (hfew : ((backTo cpos (starEach [e] X.env)).all (fun x => !x.1) && (backToKw cpos (keywordEach [] X.env)).all (fun x => x.1.isSome) && decide ([e].length + ([] : List Keyword).length + (if ([] : List Keyword).isEmpty then 0 else 1) < 30)) = true := by rfl)
    (hline : (apos.endLine == cpos.line) = true := by rfl) (hs : starEach [e] X.env = (false, eval e X.env) :: starEach [] X.env := by rfl) (hp : (backTo cpos (starEach [] X.env)).any (·.1) = false := by rfl) :
    PE X (.Call (.Attribute o "pop" apos) [e] [] cpos) (tE X.K W (eMeth isList FpopAt O As)) :=
  (pe_bm PySem.F.plainAttrs_list PySem.F.slot_list_pop PySem.F.type_list_pop mt_popAt ho ha hbase hfew hline hs hp).imp (bmAux (fun _ _ _ _ _ => list_ty) lift_popAt)
end
/-! ### min, max, sum of a list of intsD -/
def intsD : List D → Option (List Int)
  | [] => some []
  | .int i :: r => (intsD r).map (i :: ·)
  | _ => none
def minI : Int → List Int → Int
  | m, [] => m
  | m, x :: r => minI (if x < m then x else m) r
def maxI : Int → List Int → Int
  | m, [] => m
  | m, x :: r => maxI (if m < x then x else m) r
/-- the items of a list value -/
def itemsL (μ : Store) : D → Option (List D)
  | .lst xs => some xs
  | .fl xs => some xs
  | .ref i => match μ[i]? with
    | some (.lst xs) => some xs
    | _ => none
  | _ => none
theorem itemsL_sq {K : PySem.W.Frag} {ι : List Addr} {H : Hp} {μ : Store} {x : V} {d : D} {xs : List D} (w : WF K ι μ H) (v : VR K ι H x d) (h : itemsL μ d = some xs) : ∃ a vs, x = .ref a ∧ SqL K H a vs ∧ VRs K ι H vs xs := by
  cases v with
  | lst hh r => cases h; exact ⟨_, _, rfl, hh.sq, r⟩
  | fl hh r => cases h; exact ⟨_, _, rfl, hh.sq, r⟩
  | ref hi =>
    obtain ⟨o, ho, ro⟩ := w.has hi
    simp only [itemsL, ho] at h
    cases o with
    | lst ys =>
      cases h
      obtain ⟨vs, ea, r⟩ := ro
      exact ⟨_, vs, rfl, .inl (.inl ea), r⟩
    | _ => cases h
  | _ => simp [itemsL] at h
def FminL (ds : List D) (μ : Store) : Res D := match ds with
  | [d] => match (itemsL μ d).bind intsD with
    | some (m :: r) => okR (.int (minI m r)) μ
    | _ => none
  | _ => none
def FmaxL (ds : List D) (μ : Store) : Res D := match ds with
  | [d] => match (itemsL μ d).bind intsD with
    | some (m :: r) => okR (.int (maxI m r)) μ
    | _ => none
  | _ => none
def Fsum (ds : List D) (μ : Store) : Res D := match ds with
  | [d] => match (itemsL μ d).bind intsD with
    | some ns => okR (.int ns.sum) μ
    | _ => none
  | _ => none
section
variable {X : Cx} {K : PySem.W.Frag}
end
/-! ### in, not in -/
def Fin (neg : Bool) (d e : D) (μ : Store) : Res D := match e with
  | .str y => match d with
    | .str x => okR (.bl (if neg then !(!(Builtin.Str.occurrences y x 0 y.length 1).isEmpty) else !(Builtin.Str.occurrences y x 0 y.length 1).isEmpty)) μ
    | _ => none
  | _ => match toPyS μ d, toPyS μ e with
    | some p, some (.list ds) => if SeqAt.shaped p = true ∧ SeqAt.shaped (.list ds) = true then okR (.bl (if neg then !ds.any fun z => PyData.eqv z p else ds.any fun z => PyData.eqv z p)) μ else none
    | some p, some (.tuple ds) => if SeqAt.shaped p = true ∧ SeqAt.shaped (.tuple ds) = true then okR (.bl (if neg then !ds.any fun z => PyData.eqv z p else ds.any fun z => PyData.eqv z p)) μ else none
    | _, _ => none
def rInT (K : PySem.W.Frag) (neg : Bool) : L2.R2 := fun x y H Q => ∃ d ds, Dp K H x d ∧ Dp K H y (.tuple ds) ∧ SeqAt.shaped d = true ∧ SeqAt.shaped (.tuple ds) = true ∧ Q (.bl (if neg then !ds.any fun z => PyData.eqv z d else ds.any fun z => PyData.eqv z d)) H
def rInL (K : PySem.W.Frag) (neg : Bool) : L2.R2 := fun x y H Q => ∃ d ds, Dp K H x d ∧ Dp K H y (.list ds) ∧ SeqAt.shaped d = true ∧ SeqAt.shaped (.list ds) = true ∧ Q (.bl (if neg then !ds.any fun z => PyData.eqv z d else ds.any fun z => PyData.eqv z d)) H
def rInS (neg : Bool) : L2.R2 := fun x y H Q => ∃ i j, x = .str i ∧ y = .str j ∧ Q (.bl (if neg then !(!(Builtin.Str.occurrences j i 0 j.length 1).isEmpty) else !(Builtin.Str.occurrences j i 0 j.length 1).isEmpty)) H
def rInAny (K : PySem.W.Frag) (neg : Bool) : L2.R2 := fun x y H Q => rInL K neg x y H Q ∨ rInT K neg x y H Q ∨ rInS neg x y H Q
section
variable {X : Cx} {K : PySem.W.Frag}
theorem roomIn {A : Around} {ds : List PyData} {d : PyData} (h : SeqAt.shaped d = true) (hu : A.units + 65 < cLine) : A.units + 1 + min (PyData.depthAll ds) d.depth < cLine := by
  have h1 := SeqAt.depth_of_shaped h
  have h2 : min (PyData.depthAll ds) d.depth ≤ d.depth := Nat.min_le_right _ _
  omega
theorem op_inT (hu : X.A.units + 65 < cLine) : OpR X (compareOp .In) (rInT X.K false) := by
  intro pins s σ H x y v u Q I rx ry h
  obtain ⟨d, ds, hd, he, sd, se, q⟩ := h
  obtain ⟨as, r1⟩ := Dp.reads I d x v hd rx
  obtain ⟨bs, r2⟩ := Dp.reads I (.tuple ds) y u he ry
  have hc : PyData.canLayAll0 ds = true := SeqAt.canLay_of_shaped se
  exact SeqAt.in_tuple_reads r2 r1 hc (SeqAt.canLay_of_shaped sd) (roomIn sd hu) ⟨.bl _, H, I, rfl, q⟩
theorem op_notInT (hu : X.A.units + 65 < cLine) : OpR X (compareOp .NotIn) (rInT X.K true) := by
  intro pins s σ H x y v u Q I rx ry h
  obtain ⟨d, ds, hd, he, sd, se, q⟩ := h
  obtain ⟨as, r1⟩ := Dp.reads I d x v hd rx
  obtain ⟨bs, r2⟩ := Dp.reads I (.tuple ds) y u he ry
  have hc : PyData.canLayAll0 ds = true := SeqAt.canLay_of_shaped se
  exact SeqAt.notIn_tuple_reads r2 r1 hc (SeqAt.canLay_of_shaped sd) (roomIn sd hu) ⟨.bl _, H, I, rfl, q⟩
theorem op_inAny (hu : X.A.units + 65 < cLine) : OpR X (compareOp .In) (rInAny X.K false) := (op_inD hu).or ((op_inT hu).or op_in_str)
theorem op_notInAny (hu : X.A.units + 65 < cLine) : OpR X (compareOp .NotIn) (rInAny X.K true) := (op_notInD hu).or ((op_notInT hu).or op_notin_str)
theorem lift_in {neg : Bool} : Lift2 K (rInAny K neg) (Fin neg) := by
  intro W σ ι μ H x y d e Q w vx vy h
  by_cases z : ∃ t, e = .str t
  · obtain ⟨t, rfl⟩ := z
    cases vy
    cases vx with
    | str a => exact .inr (.inr ⟨a, t, rfl, rfl, h.ok0 w (.bl _)⟩)
    | _ => exact h.elim
  · have h' : PostG (VR K) K W σ ι H Q (match toPyS μ d, toPyS μ e with
      | some p, some (.list ds) => if SeqAt.shaped p = true ∧ SeqAt.shaped (.list ds) = true then okR (.bl (if neg then !ds.any fun z => PyData.eqv z p else ds.any fun z => PyData.eqv z p)) μ else none
      | some p, some (.tuple ds) => if SeqAt.shaped p = true ∧ SeqAt.shaped (.tuple ds) = true then okR (.bl (if neg then !ds.any fun z => PyData.eqv z p else ds.any fun z => PyData.eqv z p)) μ else none
      | _, _ => none) := by
      cases e with
      | str t => exact absurd ⟨t, rfl⟩ z
      | _ => exact h
    match e1 : toPyS μ d, e2 : toPyS μ e, h' with
    | some p, some (.list ds), h' =>
      obtain ⟨q, h'⟩ := PostG.guard h'
      exact .inl ⟨p, ds, dpS_of w vx e1, dpS_of w vy e2, q.1, q.2, h'.ok0 w (.bl _)⟩
    | some p, some (.tuple ds), h' =>
      obtain ⟨q, h'⟩ := PostG.guard h'
      exact .inr (.inl ⟨p, ds, dpS_of w vx e1, dpS_of w vy e2, q.1, q.2, h'.ok0 w (.bl _)⟩)
end
section
variable {X : Cx} {W : DW} {a b : Expr} {A B : CM D} {pos : Pos} {k : Nat}
theorem units65 {A : Around} (hr : Room k A) : A.units + 65 < cLine := by have := hr.un; omega
theorem d_in (hr : Room k X.A) (ha : PE X a (tE X.K W A)) (hb : PE X b (tE X.K W B)) (hm : behindInMarks .In b = false := by rfl) : PE X (.Compare a [.In] [b] pos) (tE X.K W (e2 (Fin false) A B)) := d_cmp (op_inAny (units65 hr)) lift_in ha hb hm
theorem dt_notin (hr : Room k X.A) (ha : PE X a (tE X.K W A)) (hb : PE X b (tE X.K W B)) (hm : behindInMarks .NotIn b = false := by rfl) : PT X (.Compare a [.NotIn] [b] pos) (tT X.K W (bOf (e2 (Fin true) A B))) := dt_cmp (op_notInAny (units65 hr)) lift_in ha hb hm
end
/-! ### x += e -/
section
variable {X : Cx} {K : PySem.W.Frag}
def FaddI : D → D → Store → Res D
  | .int i, .int j, μ => okR (.int (i + j)) μ
  | _, _, _ => none
end
/-! ### for over a list, a tuple or a text -/
def signsD (x : Str) : List D := x.cps.toList.map fun c => .str ⟨#[c]⟩
def iAny (E : CM D) : CM IV := E.bind fun d _ μ => match d with
  | .lst xs => some (.ok (xs, anyG), μ)
  | .fl xs => some (.ok (xs, anyG), μ)
  | .tup xs => some (.ok (xs, anyG), μ)
  | .str x => some (.ok (signsD x, anyG), μ)
  | .ref c => match μ[c]? with
    | some (.lst xs) => some (.ok (xs, isLst c xs), μ)
    | _ => none
  | _ => none
theorem itr_str {K : PySem.W.Frag} {ι : List Addr} {H : Hp} (x : Str) : ItR K ι H (Its x) (signsD x, anyG) := by
  intro i ι' μ H' l w _
  refine ⟨fun d e => ?_, fun e => ?_⟩
  · have e : (x.cps.toList.map fun c => D.str ⟨#[c]⟩)[i]? = some d := e
    rw [List.getElem?_map] at e
    obtain ⟨c, e1, rfl⟩ := Option.map_eq_some_iff.mp e
    have hl : i < x.cps.size := by
      have := (List.getElem?_eq_some_iff.mp e1).1
      simpa using this
    refine ⟨hl, fun v H'' y => ?_⟩
    obtain ⟨rfl, c', e2, rfl⟩ := y
    have : x.cps[i]? = some c := by simpa using e1
    rw [this] at e2
    cases e2
    exact ⟨Le.refl _ _, w, .str _⟩
  · have : (signsD x).length ≤ i := e
    unfold signsD at this
    show x.cps.size ≤ i
    simpa using this
theorem di_any {X : Cx} {W : DW} {e tg : Expr} {E : CM D} (he : PE X e (tE X.K W E)) : PI X tg e (tI X.K W (iAny E)) := by
  refine ⟨fun pins s σ H R I ⟨ρ, ι, μ, sr, wf, h⟩ => ?_⟩
  refine thn (he.run pins s σ H _ I (PostG.bind sr wf h)) ?_
  rintro v s1 ⟨x, H1, I1, r1, ι1, μ1, d, l1, w1, vx, h1⟩
  cases vx with
  | lst hh r =>
    cases r1
    obtain ⟨its, rv, p, hz⟩ := I1.list hh.sq
    exact wpAny_pyIter_list p.isList (pi_one (tk := s1.toks) I1 _ (turn_list _ _) ⟨_, Heap.get?_push_size _ rfl, rfl, rfl⟩ (PostG.ok0 h1 w1 (itr_lst hh r)))
  | fl hh r =>
    cases r1
    obtain ⟨its, rv, p, hz⟩ := I1.list hh.sq
    exact wpAny_pyIter_list p.isList (pi_one (tk := s1.toks) I1 _ (turn_list _ _) ⟨_, Heap.get?_push_size _ rfl, rfl, rfl⟩ (PostG.ok0 h1 w1 (itr_fl hh r)))
  | tup hh r =>
    cases r1
    obtain ⟨its, rv, p, hz⟩ := I1.tuple hh.sq
    exact wpAny_pyIter_tuple (show s1.heap.IsTuple _ its.toArray from p) (pi_one (tk := s1.toks) I1 _ (turn_tuple _ _) ⟨_, Heap.get?_push_size _ rfl, rfl, rfl⟩ (PostG.ok0 h1 w1 (itr_tup hh r)))
  | str x =>
    obtain ⟨t, rfl⟩ := r1
    cases ha : x.cps.all (· < 128)
    · exact wpAny_pyIter_wide ha (pi_one (tk := s1.toks) I1 _ (turn_str _ x t "str_iterator" (.inr rfl)) ⟨_, Heap.get?_push_size _ rfl, rfl, rfl⟩ (PostG.ok0 h1 w1 (itr_str x)))
    · exact wpAny_pyIter_ascii ha (pi_one (tk := s1.toks) I1 _ (turn_str _ x t "str_ascii_iterator" (.inl rfl)) ⟨_, Heap.get?_push_size _ rfl, rfl, rfl⟩ (PostG.ok0 h1 w1 (itr_str x)))
  | ref hc =>
    obtain ⟨o, ho, ro⟩ := w1.has hc
    simp only [ho] at h1
    cases o with
    | lst ds =>
      obtain ⟨vs, ea, r⟩ := ro
      cases r1
      obtain ⟨its, rv, p, hz⟩ := I1.list (xs := vs) (.inl (.inl ea))
      exact wpAny_pyIter_list p.isList (pi_one (tk := s1.toks) I1 _ (turn_list _ _) ⟨_, Heap.get?_push_size _ rfl, rfl, rfl⟩ (PostG.ok0 h1 w1 (itr_cell hc)))
    | _ => exact h1.elim
  | _ => exact h1.elim
/-! ### defs with cells of their own -/
/-- cells beyond those of μ0 may stand there; of those of μ0 the pool alone has changed -/
structure Wy (μ0 : Store) (p : Nat) (c : Int) (μ : Store) : Prop where
  wd : Wd p c μ
  len : μ0.length ≤ μ.length
  eq : ∀ j : Nat, j < μ0.length → j ≠ p → μ[j]? = μ0[j]?
theorem Wd.y {p : Nat} {c : Int} {μ : Store} (h : Wd p c μ) : Wy μ p c μ := ⟨h, Nat.le_refl _, fun _ _ _ => rfl⟩
theorem Wy.mono {μ0 μ : Store} {p : Nat} {c c' : Int} (h : Wy μ0 p c μ) (l : c ≤ c') : Wy μ0 p c' μ := ⟨h.wd.mono l, h.len, h.eq⟩
theorem Wy.step {μ0 μ μ' : Store} {p : Nat} {c c' : Int} (h : Wy μ0 p c μ) (w : Wd p c' μ') (f : Fr p μ μ') : Wy μ0 p c' μ' :=
  ⟨w, by rw [f.len]; exact h.len, fun j hj hp => (f.eq j hp).trans (h.eq j hj hp)⟩
theorem Wd.app {p : Nat} {c : Int} {μ : Store} {o : Ob} (h : Wd p c μ) (ho : obOk 0 o = true) : Wd p c (μ ++ [o]) := by
  have hl := h.lt
  obtain ⟨⟨a, b, c0, e, q⟩, hp⟩ := h
  exact ⟨⟨a, b, c0, by rw [List.getElem?_append_left hl]; exact e, q⟩, hp.app ho⟩
theorem Wd.setn {p n : Nat} {c : Int} {μ : Store} {o : Ob} (h : Wd p c μ) (hn : n ≠ p) (ho : obOk 0 o = true) : Wd p c (μ.set n o) := by
  obtain ⟨⟨a, b, c0, e, q⟩, hp⟩ := h
  exact ⟨⟨a, b, c0, by rw [List.getElem?_set_ne hn]; exact e, q⟩, hp.set ho⟩
theorem Wy.app {μ0 μ : Store} {p : Nat} {c : Int} {o : Ob} (h : Wy μ0 p c μ) (ho : obOk 0 o = true) : Wy μ0 p c (μ ++ [o]) :=
  ⟨h.wd.app ho, by rw [List.length_append]; have := h.len; omega, fun j hj hp => by rw [List.getElem?_append_left (Nat.lt_of_lt_of_le hj h.len)]; exact h.eq j hj hp⟩
theorem Wy.setn {μ0 μ : Store} {p n : Nat} {c : Int} {o : Ob} (h : Wy μ0 p c μ) (hn : μ0.length ≤ n) (hp0 : p < μ0.length) (ho : obOk 0 o = true) : Wy μ0 p c (μ.set n o) :=
  ⟨h.wd.setn (by omega) ho, by rw [List.length_set]; exact h.len, fun j hj hp => by rw [List.getElem?_set_ne (by omega)]; exact h.eq j hj hp⟩
theorem Wy.cut {μ0 μ : Store} {p : Nat} {c : Int} (h : Wy μ0 p c μ) (hp0 : p < μ0.length) : Wx μ0 p c (μ.take μ0.length) := by
  obtain ⟨⟨⟨a, b, c0, e, q⟩, hp⟩, hl, he⟩ := h
  refine ⟨⟨⟨a, b, c0, by rw [List.getElem?_take_of_lt hp0]; exact e, q⟩, hp.take _⟩, by rw [List.length_take]; omega, fun j hj => ?_⟩
  by_cases hjl : j < μ0.length
  · rw [List.getElem?_take_of_lt hjl]; exact he j hjl hj
  · rw [List.getElem?_eq_none (by rw [List.length_take]; omega), List.getElem?_eq_none (by omega)]
/-! ### running: the new words -/
section
variable {ρ : Rho} {μ : Store} {Q : D → Store → Prop} {Qf : Fl → Store → Prop} {Qi : IV → Store → Prop} {A : CM D} {As : CM (List D)}
theorem q_unp {is : List Nat} (h : Ok (A ρ μ) (fun d μ1 => ∃ ρ', fTup is d ρ = some ρ' ∧ Qf (.nx ρ') μ1)) : OkS (sUnp is A ρ μ) Qf := OkS_lft (h.mono fun d μ1 ⟨ρ', e, q⟩ => by simp only [e]; exact q)
theorem q_drop (h : Ok (A ρ μ) (fun _ μ1 => Qf (.nx ρ) μ1)) : OkS (sDrop A ρ μ) Qf := OkS_drop h
theorem q_meth {c : Store → D → Bool} {F : D → List D → Store → Res D} : Ok (eMeth c F A As ρ μ) Q = Ok (A ρ μ) (fun o μ1 => c μ1 o = true ∧ Ok (As ρ μ1) (fun ds μ2 => Ok (F o ds μ2) Q)) := by
  unfold eMeth
  rw [Ok_bind]
  congr 1
  funext o μ1
  rw [q_if]
  congr 1
  exact Ok_bind
theorem f_app {c : Nat} {xs : List D} {y : D} (h : μ[c]? = some (.lst xs)) (hl : xs.length < sizeLine) : Fapp (.ref c) [y] μ = okR .non (μ.set c (.lst (xs ++ [y]))) := by
  unfold Fapp
  simp only [h, if_pos hl]
theorem f_ext {c : Nat} {xs ys : List D} (h : μ[c]? = some (.lst xs)) (hl : xs.length + ys.length ≤ sizeLine) : Fext (.ref c) [.lst ys] μ = okR .non (μ.set c (.lst (xs ++ ys))) := by
  unfold Fext
  simp only [h, if_pos hl]
theorem isList_ref {c : Nat} {xs : List D} (h : μ[c]? = some (.lst xs)) : isList μ (.ref c) = true := by
  simp only [isList, h]
def anyAt (d : D) (μ : Store) (k : List D → (Store → Bool) → Prop) : Prop := match d with
  | .lst xs => k xs anyG
  | .fl xs => k xs anyG
  | .tup xs => k xs anyG
  | .str x => k (signsD x) anyG
  | .ref c => match μ[c]? with
    | some (.lst xs) => k xs (isLst c xs)
    | _ => False
  | _ => False
theorem q_anyL {xs : List D} {k : List D → (Store → Bool) → Prop} : anyAt (.lst xs) μ k = k xs anyG := rfl
theorem q_anyF {xs : List D} {k : List D → (Store → Bool) → Prop} : anyAt (.fl xs) μ k = k xs anyG := rfl
theorem q_anyT {xs : List D} {k : List D → (Store → Bool) → Prop} : anyAt (.tup xs) μ k = k xs anyG := rfl
theorem q_anyS {x : Str} {k : List D → (Store → Bool) → Prop} : anyAt (.str x) μ k = k (signsD x) anyG := rfl
theorem q_iany : Ok (iAny A ρ μ) Qi = Ok (A ρ μ) (fun d μ1 => anyAt d μ1 (fun xs g => Qi (xs, g) μ1)) := by
  unfold iAny
  rw [Ok_bind]
  congr 1
  funext d μ1
  cases d with
  | ref c =>
    unfold anyAt
    simp only []
    cases μ1[c]? with
    | none => rfl
    | some o => cases o <;> rfl
  | _ => rfl
end
end DM

namespace DM
open PySem PySem.Spec L2
section
variable {α β : Type} {ρ : Rho} {μ : Store} {Q : D → Store → Prop} {Qs : List D → Store → Prop} {Qb : Bool → Store → Prop} {Qf : Fl → Store → Prop} {Qi : IV → Store → Prop} {A B C : CM D} {T U : CM Bool} {As : CM (List D)}
/-! ### comprehensions that leave the store as it is -/
def rngI (lo : Int) (n : Nat) : List Int := (List.range n).map (fun i : Nat => lo + (i : Int))
theorem rngI_mem {lo x : Int} {n : Nat} : x ∈ rngI lo n ↔ lo ≤ x ∧ x < lo + n := by
  unfold rngI
  rw [List.mem_map]
  constructor
  · rintro ⟨i, hi, rfl⟩
    have := List.mem_range.mp hi
    omega
  · rintro ⟨a, b⟩
    exact ⟨(x - lo).toNat, List.mem_range.mpr (by omega), by omega⟩
/-! ### words on lists that a function maps -/
theorem bls_map {p : α → Bool} : ∀ xs : List α, bls (xs.map fun x => D.bl (p x)) = some (xs.map p)
  | [] => rfl
  | x :: r => by simp only [List.map_cons, bls, bls_map r, Option.map_some]
theorem f_allM {p : α → Bool} {xs : List α} : Fall [.lst (xs.map fun x => D.bl (p x))] μ = okR (.bl (xs.all p)) μ := by
  unfold Fall
  simp only [bls_map, Option.map_some, pureR]
  congr 3
  simp
/-! ### stores of names side by side -/
def par2 (ds : List D) (k : D → D → Prop) : Prop := match ds with
  | [a, b] => k a b
  | _ => False
def par3 (ds : List D) (k : D → D → D → Prop) : Prop := match ds with
  | [a, b, c] => k a b c
  | _ => False
theorem q_p2 {a b : D} {k : D → D → Prop} : par2 [a, b] k = k a b := rfl
theorem q_p3 {a b c : D} {k : D → D → D → Prop} : par3 [a, b, c] k = k a b c := rfl
theorem q_spar2 {i j : Nat} (h : Ok (As ρ μ) (fun ds μ1 => par2 ds (fun a b => Qf (.nx ((ρ.set i (some a)).set j (some b))) μ1))) : OkS (sPar2 i j As ρ μ) Qf := q_par2 (h.mono fun ds μ1 q => by
  unfold par2 at q
  split at q
  · exact ⟨_, _, rfl, q⟩
  · exact q.elim)
theorem q_spar3 {i j l : Nat} (h : Ok (As ρ μ) (fun ds μ1 => par3 ds (fun a b c => Qf (.nx (((ρ.set i (some a)).set j (some b)).set l (some c))) μ1))) : OkS (sPar3 i j l As ρ μ) Qf := q_par3 (h.mono fun ds μ1 q => by
  unfold par3 at q
  split at q
  · exact ⟨_, _, _, rfl, q⟩
  · exact q.elim)
theorem q_setA0 {ρ : Rho} : setAll [] [] ρ = some ρ := rfl
theorem q_setA {i : Nat} {is : List Nat} {d : D} {ds : List D} {ρ : Rho} : setAll (i :: is) (d :: ds) ρ = setAll is ds (ρ.set i (some d)) := rfl
def unpAt (is : List Nat) (d : D) (ρ : Rho) (k : Rho → Prop) : Prop := match fTup is d ρ with
  | some ρ' => k ρ'
  | none => False
def rhoAt (o : Option Rho) (k : Rho → Prop) : Prop := match o with
  | some ρ' => k ρ'
  | none => False
theorem q_rhoAt {ρ : Rho} {k : Rho → Prop} : rhoAt (some ρ) k = k ρ := rfl
theorem q_unpT {is : List Nat} {ds : List D} {k : Rho → Prop} : unpAt is (.tup ds) ρ k = rhoAt (setAll is ds ρ) k := rfl
theorem q_sunp {is : List Nat} (h : Ok (A ρ μ) (fun d μ1 => unpAt is d ρ (fun ρ' => Qf (.nx ρ') μ1))) : OkS (sUnp is A ρ μ) Qf := q_unp (h.mono fun d μ1 q => by
  unfold unpAt at q
  split at q
  · exact ⟨_, by assumption, q⟩
  · exact q.elim)
/-! ### lists of whole numbers as data -/
theorem f_mulL {xs : List D} {k : Int} (h : (-(2 ^ 63) ≤ k ∧ k < 2 ^ 63) ∧ xs.length * k.toNat ≤ sizeLine) : Fmul (.lst xs) (.int k) μ = okR (.lst (List.replicate k.toNat xs).flatten) μ := by
  unfold Fmul
  simp only [if_pos h]
end
end DM

namespace DM
open PySem PySem.Spec L2
/-! ### what a module's name holds -/
mutual
def conV (K : PySem.W.Frag) : D → Value → Bool
  | .non, u => (match u with
    | .none => true
    | _ => false)
  | .bl b, u => (match u with
    | .bool c => b == c
    | _ => false)
  | .int i, u => (match u with
    | .int j _ => decide (i = j)
    | _ => false)
  | .str x, u => (match u with
    | .str y _ => decide (x = y)
    | _ => false)
  | .tup ds, u => (match u with
    | .ref a => (match K.lookup a with
      | some ⟨.type c, none, .seq its _, _⟩ => decide (c = "tuple") && (decide (its.size ≤ sizeLine) && conVs K ds its.toList)
      | _ => false)
    | _ => false)
  | _, _ => false
def conVs (K : PySem.W.Frag) : List D → List Value → Bool
  | [], us => us.isEmpty
  | d :: ds, us => (match us with
    | u :: us => conV K d u && conVs K ds us
    | [] => false)
end
theorem andT {a b : Bool} (h : (a && b) = true) : a = true ∧ b = true := by cases a <;> cases b <;> simp_all
mutual
theorem conV_ok {K : PySem.W.Frag} : ∀ {d : D} {u : Value}, conV K d u = true → ∃ v, RelV v u ∧ ∀ ι H, VR K ι H v d
  | .non, u, h => by
    cases u with
    | none => exact ⟨.non, rfl, fun _ _ => .non⟩
    | _ => simp [conV] at h
  | .bl b, u, h => by
    cases u with
    | bool c =>
      have e : b = c := by simpa [conV] using h
      subst e
      exact ⟨.bl b, rfl, fun _ _ => .bl b⟩
    | _ => simp [conV] at h
  | .int i, u, h => by
    cases u with
    | int j t =>
      have e : i = j := by simpa [conV] using h
      subst e
      exact ⟨.int i, ⟨t, rfl⟩, fun _ _ => .int i⟩
    | _ => simp [conV] at h
  | .str x, u, h => by
    cases u with
    | str y t =>
      have e : x = y := by simpa [conV] using h
      subst e
      exact ⟨.str x, ⟨t, rfl⟩, fun _ _ => .str x⟩
    | _ => simp [conV] at h
  | .tup ds, u, h => by
    cases u with
    | ref a =>
      unfold conV at h
      simp only [] at h
      split at h
      · rename_i c its n sl q
        obtain ⟨h1, h2⟩ := andT h
        obtain ⟨h3, h4⟩ := andT h2
        obtain ⟨vs, r, k⟩ := conVs_ok h4
        exact ⟨.ref a, rfl, fun ι H => .tup (.inr (.inl ⟨_, its, n, q, congrArg Value.type (of_decide_eq_true h1), rfl, rfl, of_decide_eq_true h3, r⟩)) (k ι H)⟩
      · cases h
    | _ => simp [conV] at h
  | .lst _, _, h => by simp [conV] at h
  | .fl _, _, h => by simp [conV] at h
  | .ref _, _, h => by simp [conV] at h
theorem conVs_ok {K : PySem.W.Frag} : ∀ {ds : List D} {us : List Value}, conVs K ds us = true → ∃ vs, Vals vs us ∧ ∀ ι H, VRs K ι H vs ds
  | [], us, h => by
    cases us with
    | nil => exact ⟨[], .nil, fun _ _ => .nil⟩
    | cons _ _ => simp [conVs] at h
  | d :: ds, us, h => by
    cases us with
    | nil => simp [conVs] at h
    | cons u us =>
      obtain ⟨h1, h2⟩ := andT (show (conV K d u && conVs K ds us) = true by simpa [conVs] using h)
      obtain ⟨v, r, k⟩ := conV_ok h1
      obtain ⟨vs, r', k'⟩ := conVs_ok h2
      exact ⟨v :: vs, .cons r r', fun ι H => .cons (k ι H) (k' ι H)⟩
end
def Cst (K : PySem.W.Frag) (mg : Str → Option Value) (x : Str) (d : D) : Prop := ∃ u v, mg x = some u ∧ RelV v u ∧ ∀ ι H, VR K ι H v d
def conB (K : PySem.W.Frag) (c : Str × D) : Bool := match PySem.W.nsIn K mainGlobals c.1 with
  | some (some u) => conV K c.2 u
  | _ => false
theorem conB_ok {K : PySem.W.Frag} {h : Heap} {mg : Str → Option Value} {x : Str} {d : D} (X : K.In h) (G : h.Ns mainGlobals mg) (c : conB K (x, d) = true) : Cst K mg x d := by
  unfold conB at c
  split at c
  · rename_i u q
    obtain ⟨v, r, k⟩ := conV_ok c
    exact ⟨u, v, PySem.W.mg_of X G q, r, k⟩
  · cases c
theorem d_cst {X : Cx} {W : DW} {x : Str} {d : D} {pos : Pos} (hg : Gl X x) (h : Cst X.K X.mg x d) (hd : (x == ("__debug__" : Str)) = false := by decide) : PE X (.Name x pos) (tE X.K W (eC d)) := by
  obtain ⟨u, v, h1, h2, h3⟩ := h
  exact d_const (pe_glob hg h1 h2 hd) h3
/-! ### the look at the head, with the module's values -/
abbrev AlC : Type := Bool × He.AlD
def obsC (fa : List He.Fa) (fn : List He.DefD) (cs : List (Str × D)) (K : PySem.W.Frag) : AlC := (cs.all (conB K), He.obsD fa fn K)
def obsCG (n : Nat) (fa : List He.Fa) (fn : List He.DefD) (cs : List (Str × D)) (g : Addr → Option Obj) : AlC := obsC fa fn cs (He.frG g (He.asD g n))
structure SaysC (fa : List He.Fa) (fn : List He.DefD) (cs : List (Str × D)) (K : PySem.W.Frag) : Prop where
  c : He.SaysD fa fn K
  k : cs.all (conB K) = true
def hookC (n : Nat) (fa : List He.Fa) (fn : List He.DefD) (cs : List (Str × D)) : PySem.W.Hook where
  α := AlC
  obs := fun s => obsCG n fa fn cs s.heap.get?
  val := fun _ => (true, He.valD fn)
  says := fun _ h => ∃ K : PySem.W.Frag, K.In h ∧ SaysC fa fn cs K
  of := fun _ _ e => ⟨_, He.frG_in, congrArg Prod.snd e, congrArg Prod.fst e⟩
  keeps := fun _ _ _ ⟨K, hK, c⟩ k => ⟨K, PySem.W.Frag.In.keeps hK k, c⟩
theorem SaysC.con {fa : List He.Fa} {fn : List He.DefD} {cs : List (Str × D)} {K : PySem.W.Frag} (c : SaysC fa fn cs K) (i : Nat) {z : Str × D} (h : cs[i]? = some z := by rfl) : conB K z = true :=
  List.all_eq_true.mp c.k z (List.mem_of_getElem? h)
end DM

namespace DM
open PySem PySem.Spec L2
/-! ### repr of data -/
def Frepr (ds : List D) (μ : Store) : Res D := match ds with
  | [d] => match toPyS μ d with
    | some p => if (p.showable = true ∧ p.depth ≤ 64) ∧ p.shown.length ≤ sizeLine then okR (.str p.shown) μ else none
    | none => none
  | _ => none
def rRepr (K : PySem.W.Frag) : List V → Hp → VK → Prop := fun xs H Q => ∃ x p, xs = [x] ∧ Dp K H x p ∧ p.showable = true ∧ p.depth ≤ 64 ∧ p.shown.length ≤ sizeLine ∧ Q (.str p.shown) H
section
variable {X : Cx} {K : PySem.W.Frag}
mutual
theorem dp_noDict {H : Hp} : ∀ {v : V} {p : PyData}, Dp K H v p → p.hasDict = false
  | _, _, .non => rfl
  | _, _, .bl _ => rfl
  | _, _, .int _ => rfl
  | _, _, .str _ => rfl
  | _, _, .lst _ h => by simp only [PyData.hasDict]; exact dp_noDictAll h
  | _, _, .tup _ h => by simp only [PyData.hasDict]; exact dp_noDictAll h
theorem dp_noDictAll {H : Hp} : ∀ {vs : List V} {ps : List PyData}, DpAll K H vs ps → PyData.hasDictAll ps = false
  | _, _, .nil => rfl
  | _, _, .cons h t => by simp only [PyData.hasDictAll, dp_noDict h, dp_noDictAll t, Bool.or_self]
end
/-! ### methods of tuples -/
def tyT (K : PySem.W.Frag) (x : V) (H : Hp) : Prop := ∃ p vs, x = .ref p ∧ ((∃ o, H p = some (.frz o (.tup vs)) ∧ o.dict = none) ∨ ∃ o, K.lookup p = some o ∧ o.cls = .type "tuple" ∧ o.dict = none)
def tBMT (K : PySem.W.Frag) (r : V → List V → Hp → VK → Prop) (to : TE) (t : TA) : TE := fun σ H Q => to σ H fun x H1 => tyT K x H1 ∧ t σ H1 fun xs H2 => r x xs H2 Q
section
variable {o e : Expr} {es : List Expr} {to : TE} {t : TA} {name : Str} {apos cpos : Pos} {id : String} {r : V → List V → Hp → VK → Prop}
end
def notInt : D → Bool
  | .int _ => false
  | _ => true
def isTup (μ : Store) : D → Bool
  | .tup ds => ds.all notInt
  | _ => false
def strsD : List D → Option (List Str)
  | [] => some []
  | .str x :: r => (strsD r).map (x :: ·)
  | _ :: _ => none
theorem strsD_map : ∀ ys : List Str, strsD (ys.map D.str) = some ys
  | [] => rfl
  | y :: r => by simp only [List.map_cons, strsD, strsD_map r, Option.map_some]
theorem strsD_eq : ∀ {ds : List D} {ys : List Str}, strsD ds = some ys → ds = ys.map D.str
  | [], ys, h => by cases h; rfl
  | d :: r, ys, h => by
    cases d with
    | str x =>
      simp only [strsD, Option.map_eq_some_iff] at h
      obtain ⟨z, e, rfl⟩ := h
      rw [strsD_eq e]
      rfl
    | _ => simp [strsD] at h
def idxS (z : Str) : List Str → Option Nat
  | [] => none
  | y :: r => if y = z then some 0 else (idxS z r).map (· + 1)
def FtIdx (o : D) (ds : List D) (μ : Store) : Res D := match o, ds with
  | .tup xs, [.str z] => match strsD xs with
    | some ys => pureR ((idxS z ys).map fun j => .int (j : Nat)) μ
    | none => none
  | _, _ => none
end
section
variable {X : Cx} {W : DW} {o e : Expr} {es : List Expr} {O : CM D} {As : CM (List D)} {apos cpos : Pos}
end
end DM

namespace DM
open PySem PySem.Spec L2
section
variable {α β : Type} {ρ : Rho} {μ : Store} {Q : D → Store → Prop} {Qf : Fl → Store → Prop}
/-! ### loops over few items, turn by turn -/
def afterL (gd : Store → Bool) (g : D → Rho → Option Rho) (S : SF) (t : List D) (Q : Fl → Store → Prop) : Fl → Store → Prop := fun f μ => match f with
  | .nx ρ => OkS (loop gd g S t ρ μ) Q
  | .ct ρ => OkS (loop gd g S t ρ μ) Q
  | .bk ρ => Q (.nx ρ) μ
  | .rt d => Q (.rt d) μ
  | .ex _ _ => False
theorem q_loop0 {gd : Store → Bool} {g : D → Rho → Option Rho} {S : SF} (hg : gd μ = true) (h : Qf (.nx ρ) μ) : OkS (loop gd g S [] ρ μ) Qf := by
  unfold loop
  rw [if_pos hg]
  exact h
theorem q_loopS {gd : Store → Bool} {g : D → Rho → Option Rho} {S : SF} {d : D} {t : List D} {ρ1 : Rho} (hg : gd μ = true) (e : g d ρ = some ρ1) (h : OkS (S ρ1 μ) (afterL gd g S t Qf)) : OkS (loop gd g S (d :: t) ρ μ) Qf := by
  unfold loop
  rw [if_pos hg, e]
  show OkS (match S ρ1 μ with
    | some (.nx ρ2, μ2) => loop gd g S t ρ2 μ2
    | some (.ct ρ2, μ2) => loop gd g S t ρ2 μ2
    | some (.bk ρ2, μ2) => some (.nx ρ2, μ2)
    | some (.rt d, μ2) => some (.rt d, μ2)
    | some (.ex x ρ2, μ2) => some (.ex x ρ2, μ2)
    | none => none) Qf
  generalize S ρ1 μ = r at h ⊢
  match r, h with
  | some (.nx ρ2, μ2), h => exact h
  | some (.ct ρ2, μ2), h => exact h
  | some (.bk ρ2, μ2), h => exact h
  | some (.rt d, μ2), h => exact h
theorem q_aftN {gd : Store → Bool} {g : D → Rho → Option Rho} {S : SF} {t : List D} : afterL gd g S t Qf (.nx ρ) μ = OkS (loop gd g S t ρ μ) Qf := rfl
theorem q_aftC {gd : Store → Bool} {g : D → Rho → Option Rho} {S : SF} {t : List D} : afterL gd g S t Qf (.ct ρ) μ = OkS (loop gd g S t ρ μ) Qf := rfl
theorem q_aftB {gd : Store → Bool} {g : D → Rho → Option Rho} {S : SF} {t : List D} : afterL gd g S t Qf (.bk ρ) μ = Qf (.nx ρ) μ := rfl
theorem q_aftR {gd : Store → Bool} {g : D → Rho → Option Rho} {S : SF} {t : List D} {d : D} : afterL gd g S t Qf (.rt d) μ = Qf (.rt d) μ := rfl
/-! ### texts as data -/
theorem toPys_strs : ∀ ys : List Str, toPys (ys.map D.str) = some (ys.map PyData.str)
  | [] => rfl
  | n :: r => by simp only [List.map_cons, toPys, toPy, toPys_strs r]
theorem canLay_strs : ∀ {ys : List Str}, ys.all PyData.strOk = true → PyData.canLayAll0 (ys.map PyData.str) = true
  | [], _ => rfl
  | n :: r, h => by
    rw [List.all_cons, Bool.and_eq_true] at h
    simp only [List.map_cons, PyData.canLayAll0, PyData.canLay0, canLay_strs h.2, h.1, Bool.and_self]
theorem depth_strs : ∀ ys : List Str, PyData.depthAll (ys.map PyData.str) = 0
  | [] => rfl
  | n :: r => by simp only [List.map_cons, PyData.depthAll, PyData.depth, depth_strs r, Nat.max_self]
theorem shaped_strs {ys : List Str} (h : ys.all PyData.strOk = true) : SeqAt.shaped (.list (ys.map PyData.str)) = true := by
  simp [SeqAt.shaped, PyData.canLay0, canLay_strs h, PyData.depth, depth_strs]
theorem shaped_strsT {ys : List Str} (h : ys.all PyData.strOk = true) : SeqAt.shaped (.tuple (ys.map PyData.str)) = true := by
  simp [SeqAt.shaped, PyData.canLay0, canLay_strs h, PyData.depth, depth_strs]
theorem shaped_str {x : Str} (h : PyData.strOk x = true) : SeqAt.shaped (.str x) = true := by
  simp [SeqAt.shaped, PyData.canLay0, h, PyData.depth]
theorem any_strs {x : Str} : ∀ ns : List Str, ((ns.map PyData.str).any fun z => PyData.eqv z (.str x)) = decide (x ∈ ns)
  | [] => by simp
  | n :: r => by
    rw [List.map_cons, List.any_cons, any_strs r]
    simp only [PyData.eqv, List.mem_cons]
    by_cases h : n = x
    · subst h; simp
    · have h' : ¬ x = n := fun e => h e.symm
      simp [h, h']
theorem f_inTS {ys : List Str} {x : Str} (hy : ys.all PyData.strOk = true) (hx : PyData.strOk x = true) : Fin false (.str x) (.tup (ys.map D.str)) μ = okR (.bl (decide (x ∈ ys))) μ := by
  unfold Fin
  simp only [toPyS, toPys_strs, Option.map_some, toPy]
  rw [if_pos ⟨shaped_str hx, shaped_strsT hy⟩, any_strs]
  rfl
theorem f_notinTS {ys : List Str} {x : Str} (hy : ys.all PyData.strOk = true) (hx : PyData.strOk x = true) : Fin true (.str x) (.tup (ys.map D.str)) μ = okR (.bl (!decide (x ∈ ys))) μ := by
  unfold Fin
  simp only [toPyS, toPys_strs, Option.map_some, toPy]
  rw [if_pos ⟨shaped_str hx, shaped_strsT hy⟩, any_strs]
  rfl
theorem f_inLS {ys : List Str} {x : Str} (hy : ys.all PyData.strOk = true) (hx : PyData.strOk x = true) : Fin false (.str x) (.lst (ys.map D.str)) μ = okR (.bl (decide (x ∈ ys))) μ := by
  unfold Fin
  simp only [toPyS, toPys_strs, Option.map_some, toPy]
  rw [if_pos ⟨shaped_str hx, shaped_strs hy⟩, any_strs]
  rfl
theorem noRef_strs : ∀ ys : List Str, noRefs 0 (ys.map D.str) = true
  | [] => rfl
  | y :: r => by simp only [List.map_cons, noRefs, noRef, noRef_strs r, Bool.and_true]
/-! ### two times the same text -/
end
end DM

namespace DM
open PySem PySem.Spec L2
/-! ### tuple(x), list(x) -/
def itemsD (μ : Store) : D → Option (List D)
  | .lst xs => some xs
  | .fl xs => some xs
  | .tup xs => some xs
  | .ref i => match μ[i]? with
    | some (.lst xs) => some xs
    | _ => none
  | _ => none
def Ftuple (ds : List D) (μ : Store) : Res D := match ds with
  | [d] => match itemsD μ d with
    | some xs => okR (.tup xs) μ
    | none => none
  | _ => none
def Flist (ds : List D) (μ : Store) : Res D := match ds with
  | [d] => match itemsD μ d with
    | some xs => okR (.lst xs) μ
    | none => none
  | _ => none
/-- list(x) as a cell -/
def FlistC (ds : List D) (μ : Store) : Res D := match ds with
  | [d] => match itemsD μ d with
    | some xs => okR (.ref μ.length) (μ ++ [.lst xs])
    | none => none
  | _ => none
def rTupleD (K : PySem.W.Frag) : List V → Hp → VK → Prop := fun xs H Q => ∃ p ys, xs = [.ref p] ∧ ((SqL K H p ys ∧ ∀ l o, H l = none → o.dict = none → Q (.ref l) (upd H l (.frz o (.tup ys)))) ∨ (SqT K H p ys ∧ Q (.ref p) H))
section
variable {X : Cx} {K : PySem.W.Frag}
theorem call_tupleD : CallR X (.type "tuple") (rTupleD X.K) := by
  intro pins s σ H xs us Q I r h
  obtain ⟨p, ys, rfl, h⟩ := h
  obtain ⟨u, rfl, rx⟩ := vals1 r
  cases rx
  rcases h with ⟨hq, q⟩ | ⟨hq, q⟩
  · obtain ⟨its, r', pl, hz⟩ := I.list hq
    have hlen := r'.length
    refine call_tuple_list pl.isList (fun h' kp => ?_) (by simp only [List.size_toArray] <;> omega)
    have I1 : Inv X pins σ H { s with heap := h' } := I.kept (t' := s.toks) kp
    exact ⟨.ref h'.objs.size, upd H h'.objs.size (.frz _ (.tup ys)), I1.laid (t' := s.toks) (fun b o e => Heap.get?_push_of_some _ e) (Nat.le_refl _) ⟨Heap.get?_push_size _ rfl, hz, its, r', PyProof.Rows.IsTup.new _ _⟩, rfl, q _ _ (I1.hok.fresh (Nat.le_refl _)) rfl⟩
  · obtain ⟨its, r', pl, hz⟩ := I.tuple hq
    exact call_tuple_same pl ⟨.ref p, H, I, rfl, q⟩
theorem itemsD_sq {ι : List Addr} {H : Hp} {μ : Store} {x : V} {d : D} {xs : List D} (w : WF K ι μ H) (v : VR K ι H x d) (h : itemsD μ d = some xs) : ∃ a vs, x = .ref a ∧ VRs K ι H vs xs ∧ (SqL K H a vs ∨ (SqT K H a vs ∧ TupAt K ι H a vs)) := by
  cases v with
  | lst hh r => cases h; exact ⟨_, _, rfl, r, .inl hh.sq⟩
  | fl hh r => cases h; exact ⟨_, _, rfl, r, .inl hh.sq⟩
  | tup hh r => cases h; exact ⟨_, _, rfl, r, .inr ⟨hh.sq, hh⟩⟩
  | ref hi =>
    obtain ⟨o, ho, ro⟩ := w.has hi
    simp only [itemsD, ho] at h
    cases o with
    | lst ys =>
      cases h
      obtain ⟨vs, ea, r⟩ := ro
      exact ⟨_, vs, rfl, r, .inl (.inl (.inl ea))⟩
    | _ => cases h
  | _ => simp [itemsD] at h
theorem lift_tuple : LiftA K (rTupleD K) Ftuple := by
  intro W σ ι μ H xs ds Q w v h
  unfold Ftuple at h
  split at h
  · obtain ⟨x, rfl, vx⟩ := v.one
    split at h
    · rename_i ys ey
      obtain ⟨a, vs, rfl, r, q | ⟨q, ta⟩⟩ := itemsD_sq w vx ey
      · refine ⟨a, vs, rfl, .inl ⟨q, fun l o hl ho => ?_⟩⟩
        exact h.ok (Le.laid hl) (w.laid hl) (.tup (.inl ⟨⟨o, upd_same, ho⟩, w.out hl⟩) (r.mono (Le.laid hl)))
      · exact ⟨a, vs, rfl, .inr ⟨q, h.ok0 w (.tup ta r)⟩⟩
    · exact h.elim
  · exact h.elim
def rListD (K : PySem.W.Frag) : List V → Hp → VK → Prop := fun xs H Q => ∃ p ys, xs = [.ref p] ∧ (SqL K H p ys ∨ SqT K H p ys) ∧ ∀ l, H l = none → Q (.ref l) (upd H l (.lst ys))
theorem call_listD' : CallR X (.type "list") (rListD X.K) := call_list_of
theorem lift_list : LiftA K (rListD K) Flist := by
  intro W σ ι μ H xs ds Q w v h
  unfold Flist at h
  split at h
  · obtain ⟨x, rfl, vx⟩ := v.one
    split at h
    · rename_i ys ey
      obtain ⟨a, vs, rfl, r, q⟩ := itemsD_sq w vx ey
      refine ⟨a, vs, rfl, q.elim .inl (fun z => .inr z.1), fun l hl => ?_⟩
      exact h.ok (Le.laid hl) (w.laid hl) (.lst ⟨upd_same, w.out hl⟩ (r.mono (Le.laid hl)))
    · exact h.elim
  · exact h.elim
theorem lift_listC : LiftA K (rListD K) FlistC := by
  intro W σ ι μ H xs ds Q w v h
  unfold FlistC at h
  split at h
  · obtain ⟨x, rfl, vx⟩ := v.one
    split at h
    · rename_i ys ey
      obtain ⟨a, vs, rfl, r, q⟩ := itemsD_sq w vx ey
      refine ⟨a, vs, rfl, q.elim .inl (fun z => .inr z.1), fun l hl => ?_⟩
      refine h.ok (Le.cell hl) (w.cell hl ⟨vs, upd_same, r.mono (Le.cell hl)⟩) (.ref ?_)
      rw [← w.len]; simp
    · exact h.elim
  · exact h.elim
end
/-! ### slices -/
def cutD {α : Type} (xs : List α) (lo hi : Option Int) : List α := (xs.drop (HT.sIx xs.length 0 lo)).take (HT.sIx xs.length xs.length hi - HT.sIx xs.length 0 lo)
def Fcut (d : D) (lo hi : Option Int) (μ : Store) : Res D := match d with
  | .str z => if z.length ≤ sizeLine then okR (.str (Txt.slice z lo hi)) μ else none
  | .tup xs => okR (.tup (cutD xs lo hi)) μ
  | d => match itemsL μ d with
    | some xs => okR (.lst (cutD xs lo hi)) μ
    | none => none
def oNone : CM (Option Int) := CM.ret none
def oSome (E : CM D) : CM (Option Int) := E.bind fun d _ μ => match d with
  | .int i => some (.ok (some i), μ)
  | _ => none
def eCut (E : CM D) (L U : CM (Option Int)) : CM D := E.bind fun d => L.bind fun l => U.bind fun u _ μ => Fcut d l u μ
def rSlTF (K : PySem.W.Frag) : V → Option Int → Option Int → Hp → VK → Prop := fun x lo hi H Q => ∃ a xs, x = .ref a ∧ SqT K H a xs ∧ (HT.sIx xs.length 0 lo = 0 ∧ HT.sIx xs.length xs.length hi = xs.length → Q (.ref a) H) ∧ (¬ (HT.sIx xs.length 0 lo = 0 ∧ HT.sIx xs.length xs.length hi = xs.length) → ∀ p o, H p = none → o.dict = none → Q (.ref p) (upd H p (.frz o (.tup (cutV xs lo hi)))))
def rCut (K : PySem.W.Frag) : V → Option Int → Option Int → Hp → VK → Prop := fun x lo hi H Q => C8.rSlX x lo hi H Q ∨ rSlTF K x lo hi H Q ∨ rSlL K x lo hi H Q
abbrev tO (K : PySem.W.Frag) (W : DW) (O : CM (Option Int)) : TO := tG (fun _ _ (x : Option Int) (d : Option Int) => x = d) K W O
section
variable {X : Cx} {K : PySem.W.Frag} {W : DW} {e : Expr} {E : CM D} {pos p2 : Pos} {lo hi : Option Expr} {L U : CM (Option Int)}
theorem sl_tupF : SlR X (rSlTF X.K) := by
  intro pins s σ H x v vl vu lo hi sl Q I rx hs pl pu h
  obtain ⟨a, xs, rfl, hx, q1, q2⟩ := h
  cases rx
  obtain ⟨its, r, ht, hz⟩ := I.tuple hx
  have hlen : its.toArray.size = xs.length := by rw [List.size_toArray]; exact r.length.symm
  refine ⟨"tuple", _, PyProof.Rows.slot_tuple_getitem.lookup, ht.typeIs, ?_⟩
  by_cases hw : HT.sIx xs.length 0 lo = 0 ∧ HT.sIx xs.length xs.length hi = xs.length
  · exact getItem_tuple_whole ht hs pl pu (by rw [hlen]; exact hw) ⟨.ref a, H, I, rfl, q1 hw⟩
  · refine HT.getItem_tuple_cut ht hs pl pu (by rw [hlen]; exact hw) ?_ (by rw [hlen]; exact hz)
    rw [hlen]
    refine ⟨.ref s.heap.objs.size, upd H s.heap.objs.size (.frz { cls := .type "tuple", data := .seq ((its.toArray.toList.drop (HT.sIx xs.length 0 lo)).take (HT.sIx xs.length xs.length hi - HT.sIx xs.length 0 lo)).toArray } (.tup (cutV xs lo hi))), I.laid (t' := s.toks) (fun b ob q => Heap.get?_push_of_some _ q) (Nat.le_refl _) ?_, rfl, q2 hw _ _ (I.hok.fresh (Nat.le_refl _)) rfl⟩
    exact ⟨Heap.get?_push_size _ rfl, Nat.le_trans (cutV_length xs lo hi) hz, _, (r.drop (HT.sIx xs.length 0 lo)).take (HT.sIx xs.length xs.length hi - HT.sIx xs.length 0 lo), PyProof.Rows.IsTup.new _ _⟩
theorem sl_cut : SlR X (rCut X.K) := C8.sl_txt.or (sl_tupF.or sl_list)
theorem VRs.cutR {ι : List Addr} {H : Hp} {vs : List V} {ds : List D} (r : VRs K ι H vs ds) (lo hi : Option Int) : VRs K ι H (cutV vs lo hi) (cutD ds lo hi) := by
  unfold cutV cutD
  rw [r.length]
  exact (r.drop _).take _
theorem PO.imp {e : Option Expr} {t t' : TO} (h : PO X e t) (q : ∀ σ H Q, t' σ H Q → t σ H Q) : PO X e t' := ⟨fun pins s σ H Q I z => h.run pins s σ H Q I (q σ H Q z)⟩
theorem po_n : PO X none (tO X.K W oNone) := PO.imp po_none fun σ H Q ⟨ρ, ι, μ, sr, wf, h⟩ => PostG.ok0 h wf rfl
theorem po_s (he : PE X e (tE X.K W E)) : PO X (some e) (tO X.K W (oSome E)) := PO.imp (po_some he) fun σ H Q ⟨ρ, ι, μ, sr, wf, h⟩ => by
  refine tG.mono (PostG.bind sr wf h) ?_
  rintro x H1 ⟨ι1, μ1, d, l1, w1, vx, h1⟩
  split at h1
  · cases vx
    exact ⟨_, rfl, PostG.ok0 h1 w1 rfl⟩
  · exact h1.elim
theorem lift_cut {σ : L2.St} {ι : List Addr} {μ : Store} {H : Hp} {x : V} {d : D} {lo hi : Option Int} {Q : VK} (w : WF K ι μ H) (vx : VR K ι H x d) (h : PostG (VR K) K W σ ι H Q (Fcut d lo hi μ)) : rCut K x lo hi H Q := by
  have lst : ∀ {xs : List D}, itemsL μ d = some xs → PostG (VR K) K W σ ι H Q (okR (.lst (cutD xs lo hi)) μ) → rCut K x lo hi H Q := by
    intro xs e h
    obtain ⟨a, vs, rfl, sq, r⟩ := itemsL_sq w vx e
    exact .inr (.inr ⟨a, vs, rfl, sq, fun p hp => h.ok (Le.laid hp) (w.laid hp) (.lst ⟨upd_same, w.out hp⟩ ((r.cutR lo hi).mono (Le.laid hp)))⟩)
  cases vx with
  | str z =>
    obtain ⟨q, h⟩ := PostG.guard h
    exact .inl ⟨z, rfl, q, h.ok0 w (.str _)⟩
  | @tup a vs ds hh r =>
    refine .inr (.inl ⟨_, _, rfl, hh.sq, fun z => ?_, fun _ p o hp ho => ?_⟩)
    · have e : cutD ds lo hi = ds := by
        unfold cutD
        rw [← r.length, z.1, z.2, List.drop_zero, Nat.sub_zero, r.length, List.take_length]
      have h : PostG (VR K) K W σ ι H Q (okR (.tup (cutD ds lo hi)) μ) := h
      rw [e] at h
      exact h.ok0 w (.tup hh r)
    · exact PostG.ok h (Le.laid hp) (w.laid hp) (.tup (.inl ⟨⟨o, upd_same, ho⟩, w.out hp⟩) ((r.cutR lo hi).mono (Le.laid hp)))
  | lst hh r => exact lst rfl h
  | fl hh r => exact lst rfl h
  | ref hi' =>
    have h : PostG (VR K) K W σ ι H Q (match itemsL μ (.ref _) with | some xs => okR (.lst (cutD xs lo hi)) μ | none => none) := h
    split at h
    · rename_i xs e; exact lst e h
    · exact h.elim
  | _ => exact h.elim
theorem d_cut (he : PE X e (tE X.K W E)) (hl : PO X lo (tO X.K W L)) (hu : PO X hi (tO X.K W U)) : PE X (.Subscript e (.Slice lo hi none p2) pos) (tE X.K W (eCut E L U)) := (pe_slice sl_cut he hl hu).imp fun σ H Q ⟨ρ, ι, μ, sr, wf, h⟩ => by
  refine tG.mono (PostG.bind sr wf h) ?_
  rintro x H1 ⟨ι1, μ1, d, l1, w1, vx, h1⟩
  refine tG.mono (PostG.bind (sr.mono l1) w1 h1) ?_
  rintro l H2 ⟨ι2, μ2, l', l2, w2, rfl, h2⟩
  refine tG.mono (PostG.bind ((sr.mono l1).mono l2) w2 h2) ?_
  rintro u H3 ⟨ι3, μ3, u', l3, w3, rfl, h3⟩
  exact lift_cut w3 ((vx.mono l2).mono l3) h3
end
end DM

namespace DM
open PySem PySem.Spec L2
/-! ### while -/
def whileN (T : CM Bool) (S : SF) : Nat → SF
  | 0 => fun _ _ => none
  | n + 1 => lft T fun b => if b then (fun ρ μ => match S ρ μ with
      | some (.nx ρ2, μ2) => whileN T S n ρ2 μ2
      | some (.ct ρ2, μ2) => whileN T S n ρ2 μ2
      | some (.bk ρ2, μ2) => some (.nx ρ2, μ2)
      | some (.rt d, μ2) => some (.rt d, μ2)
      | some (.ex x ρ2, μ2) => some (.ex x ρ2, μ2)
      | none => none) else sNil
theorem ds_while {X : Cx} {W : DW} {c : Expr} {body : List Stmt} {T : CM Bool} {S : SF} {pos : Pos} (n : Nat) (hp : PassesOwn (model X.prog X.w) X.A X.env X.xe) (hc : PT X c (tT X.K W T)) (hb : PSs X body (sD X.K W S)) : PS X (.While c body [] pos) (sD X.K W (whileN T S n)) :=
  (ps_while hp hc hb).imp fun D σ H ⟨ρ, ι, μ, sr, wf, h⟩ => by
    refine ⟨fun m σ H => ∃ ρ ι μ, SR X.K ι H σ ρ ∧ WF X.K ι μ H ∧ PostS X.K W D ι H (whileN T S m ρ μ), ⟨n, ρ, ι, μ, sr, wf, h⟩, ?_⟩
    rintro m σ1 H1 ⟨ρ1, ι1, μ1, sr1, wf1, h1⟩
    cases m with
    | zero => exact h1.elim
    | succ m =>
      refine tG.mono (PostS.bind sr1 wf1 h1) ?_
      rintro k H2 ⟨ι2, μ2, d, l2, w2, rfl, h2⟩
      cases k with
      | false => exact h2.nx0 w2 (sr1.mono l2)
      | true =>
        refine ⟨fun σ' H' => ∃ ρ ι μ, SR X.K ι H' σ' ρ ∧ WF X.K ι μ H' ∧ PostS X.K W D ι H' (whileN T S m ρ μ), fun σ' H' q => ⟨m, Nat.lt_succ_self m, q⟩, ρ1, ι2, μ2, sr1.mono l2, w2, ?_⟩
        have h2 : PostS X.K W D ι2 H2 (match S ρ1 μ2 with
          | some (.nx ρ2, μ2) => whileN T S m ρ2 μ2
          | some (.ct ρ2, μ2) => whileN T S m ρ2 μ2
          | some (.bk ρ2, μ2) => some (.nx ρ2, μ2)
          | some (.rt d, μ2) => some (.rt d, μ2)
          | some (.ex x ρ2, μ2) => some (.ex x ρ2, μ2)
          | none => none) := h2
        match S ρ1 μ2, h2 with
        | some (.nx ρ4, μ4), h3 => exact fun σ4 ι4 H4 l w s => ⟨ρ4, ι4, μ4, s, w, PostS.from l h3⟩
        | some (.ct ρ4, μ4), h3 => exact fun σ4 ι4 H4 l w s => ⟨ρ4, ι4, μ4, s, w, PostS.from l h3⟩
        | some (.bk ρ4, μ4), h3 => exact h3
        | some (.rt d, μ4), h3 => exact h3
        | some (.ex x ρ4, μ4), h3 => exact h3
theorem while_ok {T : CM Bool} {S : SF} {n m : Nat} {ρ : Rho} {μ : Store} {Q : Fl → Store → Prop} (I : Nat → Rho → Store → Prop)
    (hs : ∀ m ρ μ, I m ρ μ → Ok (T ρ μ) (fun b μ1 => if b = true then OkS (S ρ μ1) (fun f μ2 => match f with | .nx ρ2 => ∃ m', m' < m ∧ I m' ρ2 μ2 | .ct ρ2 => ∃ m', m' < m ∧ I m' ρ2 μ2 | .bk ρ2 => Q (.nx ρ2) μ2 | .rt d => Q (.rt d) μ2 | .ex _ _ => False) else Q (.nx ρ) μ1))
    (h0 : I m ρ μ) (hm : m < n) : OkS (whileN T S n ρ μ) Q := by
  induction n generalizing m ρ μ with
  | zero => omega
  | succ n ih =>
    refine OkS_lft ((hs m ρ μ h0).mono fun b μ1 hb => ?_)
    cases b with
    | false => exact hb
    | true =>
      have hb : OkS (S ρ μ1) _ := hb
      show OkS (match S ρ μ1 with
        | some (.nx ρ2, μ2) => whileN T S n ρ2 μ2
        | some (.ct ρ2, μ2) => whileN T S n ρ2 μ2
        | some (.bk ρ2, μ2) => some (.nx ρ2, μ2)
        | some (.rt d, μ2) => some (.rt d, μ2)
        | some (.ex x ρ2, μ2) => some (.ex x ρ2, μ2)
        | none => none) Q
      generalize S ρ μ1 = r at hb ⊢
      match r, hb with
      | some (.nx ρ2, μ2), ⟨m', h1, h2⟩ => exact ih h2 (by omega)
      | some (.ct ρ2, μ2), ⟨m', h1, h2⟩ => exact ih h2 (by omega)
      | some (.bk ρ2, μ2), h => exact h
      | some (.rt d, μ2), h => exact h
/-! ### calls with keywords -/
def pick {α : Type} (idx : List Nat) (xs : List α) : List α := idx.filterMap (xs[·]?)
theorem pick_vals {idx : List Nat} {vs : List V} {us : List Value} (r : Vals vs us) : Vals (pick idx vs) (pick idx us) := by
  induction idx with
  | nil => exact .nil
  | cons i t ih =>
    unfold pick at ih ⊢
    rw [List.filterMap_cons, List.filterMap_cons]
    cases e : vs[i]? with
    | none =>
      have : us[i]? = none := by
        rw [List.getElem?_eq_none_iff] at e ⊢
        rw [← r.length]; exact e
      rw [this]
      exact ih
    | some v =>
      obtain ⟨u, hu, ru⟩ := r.get e
      rw [hu]
      exact .cons ru ih
theorem pick_vrs {K : PySem.W.Frag} {ι : List Addr} {H : Hp} {idx : List Nat} {vs : List V} {ds : List D} (r : VRs K ι H vs ds) : VRs K ι H (pick idx vs) (pick idx ds) := by
  induction idx with
  | nil => exact .nil
  | cons i t ih =>
    unfold pick at ih ⊢
    rw [List.filterMap_cons, List.filterMap_cons]
    cases e : ds[i]? with
    | none =>
      have : vs[i]? = none := by
        rw [List.getElem?_eq_none_iff] at e ⊢
        rw [r.length]; exact e
      rw [this]
      exact ih
    | some d =>
      obtain ⟨v, hv, rv⟩ := r.get e
      rw [hv]
      exact .cons rv ih
def eCallK (F : FD) (idx : List Nat) (n m : Nat) (A B : CM (List D)) : CM D := A.bind fun ds => B.bind fun es _ μ => if ds.length = n ∧ es.length = m then F (pick idx (ds ++ es)) μ else none
/-- a def as a call with n values and these keywords reaches it -/
structure KnK (P : Program) (w : World) (K : PySem.W.Frag) (mg : Str → Option Value) (base : Heap) (k : Nat) (x : Str) (ps : List Str) (F : FD) (n : Nat) (ks : List Str) (idx : List Nat) : Prop where
  ex : ∃ f fd, FnG P w K mg base (xrS K) k f fd ps F ∧ mg x = some (.ref f) ∧ PySem.W.keepIn K (.ref f) = true ∧ (∀ (s : Shared) (us ws : List Value), us.length = n → ws.length = ks.length → BindsTo s fd ⟨us, ks.zip ws⟩ (ps.zip (pick idx (us ++ ws)))) ∧ ∀ ds μ, F ds μ ≠ none → ds.length = ps.length
theorem FunD.bindsKw {K : PySem.W.Frag} {x qual : Str} {params : Arguments} {body : List Stmt} {scope : Scope} {kws : List (Str × V)} {f : Addr} {fd : FuncData} {ps ks : List Str} {n : Nat} {idx : List Nat} (F : FunD K x qual params body scope [] kws f fd)
    (h : ∀ (kV doc pm : Value) (an : Option Addr) (cdv ct : Value) (us ws : List Value), us.length = n → ws.length = ks.length → bindArgs (PySem.W.fnOf x qual params body scope .none kV doc pm an cdv ct) ⟨us, ks.zip ws⟩ = pure (ps.zip (pick idx (us ++ ws)))) (s : Shared) (us ws : List Value) (l1 : us.length = n) (l2 : ws.length = ks.length) : BindsTo s fd ⟨us, ks.zip ws⟩ (ps.zip (pick idx (us ++ ws))) := by
  obtain ⟨oc, od, dV, kV, doc, pm, an, cdv, ct, osl, rfl, lk, hcd, hD, hK⟩ := F.ex
  rcases hD with ⟨_, rfl⟩ | ⟨e, _⟩
  · exact .of_eq (h kV doc pm an cdv ct us ws l1 l2)
  · exact absurd rfl e
section
variable {X : Cx} {W : DW} {k j n : Nat} {ps ks : List Str} {F : FD} {x : Str} {p pos : Pos} {e : Expr} {es : List Expr} {kws : List Keyword} {As Bs : CM (List D)} {idx : List Nat}
theorem runGK {pins : List (Addr × Obj)} {σ : L2.St} {H : Hp} {s : Shared} {Q : VK} {us ws : List Value} {vs zs : List V} {ι : List Addr} {μ : Store} {ds es : List D} {f : Addr} {fd : FuncData} (G : FnG X.prog X.w X.K X.mg X.base (xrS X.K) k f fd ps F) (hr : Room k X.A) (hG : X.A.guards = some []) (hb : ∀ (s : Shared) (us ws : List Value), us.length = n → ws.length = ks.length → BindsTo s fd ⟨us, ks.zip ws⟩ (ps.zip (pick idx (us ++ ws)))) (hlen : ∀ ds μ, F ds μ ≠ none → ds.length = ps.length) (hW : TkX X W)
    (I : Inv X pins σ H s) (r : Vals vs us) (rz : Vals zs ws) (wf : WF X.K ι μ H) (vr : VRs X.K ι H vs ds) (vz : VRs X.K ι H zs es) (l1 : ds.length = n) (l2 : es.length = ks.length) (h : PostG (VR X.K) X.K W σ ι H Q (F (pick idx (ds ++ es)) μ)) : wpAny (model X.prog X.w) X.A (call (.ref f) us (ks.zip ws)) (EP X pins σ Q) X.xe s := by
  have rr : Vals (pick idx (vs ++ zs)) (pick idx (us ++ ws)) := pick_vals (r.append rz)
  have vv : VRs X.K ι H (pick idx (vs ++ zs)) (pick idx (ds ++ es)) := pick_vrs (vr.append vz)
  have nn : F (pick idx (ds ++ es)) μ ≠ none := fun z => by rw [z] at h; exact h
  have hl : (pick idx (vs ++ zs)).length = ps.length := by rw [vv.length]; exact hlen _ _ nn
  obtain ⟨W1, tk1, hW1⟩ := hW
  have post : PostF X.K (xrS X.K) ι H Q (fun c dd H9 => W1 c dd σ H9) (F (pick idx (ds ++ es)) μ) := by
    match F (pick idx (ds ++ es)) μ, h with
    | some (.ok _, _), h => exact h
    | some (.error x, _), h => exact fun ι' H' c dd l w z => hW1 _ _ _ _ _ _ (h ι' H' l w) z
  refine wpAny_call (codeAny_mono (G.go hr hG I.env0 (hb s us ws (by rw [← r.length, vr.length]; exact l1) (by rw [← rz.length, vz.length]; exact l2)) rr hl wf vv post) (fun r s' q => ?_))
  cases r with
  | error z => exact passAt tk1 σ pins H s z s' I q
  | ok fl =>
    cases fl with
    | ret u => exact I.after q
    | next => exact q.elim
    | brk => exact q.elim
    | cont => exact q.elim
theorem dk_nil : PK X [] (tA X.K W aNil) := ⟨fun pos pins s σ H Q I ⟨ρ, ι, μ, sr, wf, h⟩ => pk_nil.run pos pins s σ H Q I (PostG.ok0 h wf .nil)⟩
theorem dk_cons {nm : Option Str} {kpos : Pos} {A : CM D} (ha : PE X e (tE X.K W A)) (hr : PK X kws (tA X.K W As)) : PK X (⟨nm, e, kpos⟩ :: kws) (tA X.K W (aCons A As)) := ⟨fun pos pins s σ H Q I ⟨ρ, ι, μ, sr, wf, h⟩ => (pk_cons ha hr).run pos pins s σ H Q I (by
    refine tG.mono (PostG.bind sr wf h) ?_
    rintro x H1 ⟨ι1, μ1, d, l1, w1, vx, h1⟩
    refine tG.mono (PostG.bind (sr.mono l1) w1 h1) ?_
    rintro xs H2 ⟨ι2, μ2, ds, l2, w2, vxs, h2⟩
    exact PostG.ok0 h2 w2 (.cons (vx.mono l2) vxs))⟩
theorem d_fnK0 {m : Nat} (h : KnK X.prog X.w X.K X.mg X.base j x ps F 0 ks idx) (hr : Room k X.A) (hjk : j ≤ k) (hG : X.A.guards = some []) (hg : Gl X x) (hmk : ks.length = m) (hkw : PK X kws (tA X.K W Bs)) (hW : TkX X W)
    (hall : (backToKw pos (keywordEach kws X.env)).all (·.1.isSome) = true := by rfl) (hks : (backToKw pos (keywordEach kws X.env)).filterMap (·.1) = ks := by rfl) (hdb : (x == ("__debug__" : Str)) = false := by decide)
    (hpl : ((backTo pos (starEach [] X.env)).any (·.1) || (backToKw pos (keywordEach kws X.env)).any (·.1.isNone)) = false := by rfl) :
    PE X (.Call (.Name x p) [] kws pos) (tE X.K W (eCallK F idx 0 m aNil Bs)) := by
  subst hmk
  obtain ⟨f, fd, G, hm, hk, hb, hl⟩ := h.ex
  refine ⟨fun pins s σ H Q I ⟨ρ, ι, μ, sr, wf, h⟩ => ?_⟩
  refine wpAny_Call_Name_kw (ld_glob I hg hm ?_ hdb)
  refine PySem.W.callWith_KW0 (h₀ := X.base) I.ok.mod.kin hk hall (thn (hkw.run pos pins s σ H _ I (PostG.bind sr wf (show PostG (VR X.K) X.K W σ ι H Q ((Bs.bind fun es _ μ => if (([] : List D).length = 0 ∧ es.length = ks.length) then F (pick idx ([] ++ es)) μ else none) ρ μ) from h))) ?_) hpl
  rintro ws s2 ⟨zs, H2, I2, rz, ι2, μ2, es', l2, w2, v2, h2⟩
  obtain ⟨⟨q1, q2⟩, h2⟩ := PostG.guard h2
  rw [hks]
  exact ⟨I2.kIn, runGK (us := []) (vs := []) (ds := []) G (hr.mono hjk) hG hb hl hW I2 .nil rz w2 .nil v2 rfl q2 h2⟩
end
/-! running -/
section
variable {ρ : Rho} {μ : Store} {Q : D → Store → Prop} {As Bs : CM (List D)} {A : CM D} {L U : CM (Option Int)} {Qf : Fl → Store → Prop}
theorem q_callK {F : FD} {idx : List Nat} {n m : Nat} : Ok (eCallK F idx n m As Bs ρ μ) Q = Ok (As ρ μ) (fun ds μ1 => Ok (Bs ρ μ1) (fun es μ2 => (ds.length = n ∧ es.length = m) ∧ Ok (F (pick idx (ds ++ es)) μ2) Q)) := by
  unfold eCallK
  rw [Ok_bind]
  congr 1
  funext ds μ1
  rw [Ok_bind]
  congr 1
  funext es μ2
  exact q_if
theorem q_oN {R : Option Int → Store → Prop} : Ok (oNone ρ μ) R = R none μ := rfl
def intAt (d : D) (k : Int → Prop) : Prop := match d with
  | .int i => k i
  | _ => False
theorem q_intAt {i : Int} {k : Int → Prop} : intAt (.int i) k = k i := rfl
theorem q_oS {R : Option Int → Store → Prop} : Ok (oSome A ρ μ) R = Ok (A ρ μ) (fun d μ1 => intAt d (fun i => R (some i) μ1)) := by
  unfold oSome
  rw [Ok_bind]
  congr 1
  funext d μ1
  cases d <;> rfl
theorem q_cut : Ok (eCut A L U ρ μ) Q = Ok (A ρ μ) (fun d μ1 => Ok (L ρ μ1) (fun l μ2 => Ok (U ρ μ2) (fun u μ3 => Ok (Fcut d l u μ3) Q))) := by
  unfold eCut
  rw [Ok_bind]
  congr 1
  funext d μ1
  rw [Ok_bind]
  congr 1
  funext l μ2
  exact Ok_bind
theorem f_tupL {xs : List D} : Ftuple [.lst xs] μ = okR (.tup xs) μ := rfl
theorem f_tupT {xs : List D} : Ftuple [.tup xs] μ = okR (.tup xs) μ := rfl
theorem f_tupR {c : Nat} {xs : List D} (h : μ[c]? = some (.lst xs)) : Ftuple [.ref c] μ = okR (.tup xs) μ := by
  unfold Ftuple
  simp only [itemsD, h]
theorem f_listL {xs : List D} : Flist [.lst xs] μ = okR (.lst xs) μ := rfl
theorem f_listT {xs : List D} : Flist [.tup xs] μ = okR (.lst xs) μ := rfl
theorem f_listCL {xs : List D} : FlistC [.lst xs] μ = okR (.ref μ.length) (μ ++ [.lst xs]) := rfl
theorem f_listCT {xs : List D} : FlistC [.tup xs] μ = okR (.ref μ.length) (μ ++ [.lst xs]) := rfl
theorem f_cutT {xs : List D} {l u : Option Int} : Fcut (.tup xs) l u μ = okR (.tup (cutD xs l u)) μ := rfl
theorem f_cutL {xs : List D} {l u : Option Int} : Fcut (.lst xs) l u μ = okR (.lst (cutD xs l u)) μ := rfl
end
end DM

namespace DM
open PySem PySem.Spec L2
local macro_rules | `(tactic| walk_at "q") => `(tactic| try simp only [q_ok, q_okR, q_if, q_C, q_ret, q_var, q_at, q_e1, q_e2, q_call, q_callB, q_nil, q_cons, q_tup, q_lst, q_cel, q_ifexp, q_blAt, q_bOf, q_bTru, q_bAnd, q_bOr, q_bNot, q_vAnd, q_vOr, q_vNot, q_chain, q_pureS, at0, at1, at2, q_iseq, q_seqL, q_seqF, q_rg1, q_rg2, q_itup, q_tupAt, q_iany, q_anyL, q_anyF, q_anyT, q_anyS, q_meth, q_p2, q_p3, q_unpT, q_setA, q_setA0, q_rhoAt, q_contR, q_contB, q_contC, q_callK, q_oN, q_oS, q_intAt, q_cut, f_tupL, f_tupT, f_listL, f_listT, f_listCL, f_listCT, f_cutT, f_cutL, q_aftN, q_aftC, q_aftB, q_aftR,
  f_add, f_sub, f_mul, f_div, f_mod, f_pow, f_neg, f_cmp, f_abs, f_intI, f_intB, f_max, f_min, f_lenL, f_lenF, f_lenT, f_ixL, f_ixF, f_ixT, f_eqI, f_neI, f_eqB, f_neB, f_eqT, f_neT, f_isB, f_isnotB, f_truB, f_truI, f_repr0, startR, wipeR, List.map_cons, List.map_nil, List.length_cons, List.length_nil, List.cons_append, List.nil_append, List.append_nil, List.getElem?_cons_zero, List.getElem?_cons_succ, List.set_cons_zero, List.set_cons_succ, List.replicate_succ, List.replicate_zero, Nat.reduceAdd, Nat.reduceSub, Int.reduceToNat, Int.reducePow])
local macro_rules | `(tactic| walk_at "go") => `(tactic| repeat (first | rw [q_cont] | rw [q_seq] | rw [q_snil] | ((with_reducible refine q_asg ?_); walk_at "q") | ((with_reducible refine q_sret ?_); walk_at "q") | ((with_reducible refine q_spar2 ?_); walk_at "q") | ((with_reducible refine q_spar3 ?_); walk_at "q") | ((with_reducible refine q_sunp ?_); walk_at "q") | ((with_reducible refine q_drop ?_); walk_at "q") | ((with_reducible refine q_sif ?_); walk_at "q") | ((with_reducible refine q_for ?_); walk_at "q")))
local macro_rules | `(tactic| walk_at "g1") => `(tactic| repeat (first | rw [q_cont] | rw [q_seq] | rw [q_snil] | ((with_reducible refine q_asg ?_); walk_at "q") | ((with_reducible refine q_sret ?_); walk_at "q") | ((with_reducible refine q_spar2 ?_); walk_at "q") | ((with_reducible refine q_spar3 ?_); walk_at "q") | ((with_reducible refine q_sunp ?_); walk_at "q") | ((with_reducible refine q_drop ?_); walk_at "q") | ((with_reducible refine q_for ?_); walk_at "q")))
/-! ### the pool beside further cells -/
theorem Wd.peel {p : Nat} {c c' : Int} {ν μ2 : Store} {o : Ob} (h : Wd p c ν) (w : Wd p c' μ2) (f : Fr p (ν ++ [o]) μ2) : ∃ ν', μ2 = ν' ++ [o] ∧ Wd p c' ν' ∧ Fr p ν ν' := by
  have hl := h.lt
  have l2 : μ2.length = ν.length + 1 := by rw [f.len]; simp
  have e2 : μ2[ν.length]? = some o := by rw [f.eq _ (by omega)]; simp
  have e := take_last l2 e2
  refine ⟨μ2.take ν.length, e, ?_, ?_⟩
  · obtain ⟨⟨a, b, c0, eq, q⟩, hp⟩ := w
    exact ⟨⟨a, b, c0, by rw [List.getElem?_take_of_lt hl]; exact eq, q⟩, hp.take _⟩
  · refine ⟨by rw [List.length_take]; omega, fun j hj => ?_⟩
    by_cases hjl : j < ν.length
    · rw [List.getElem?_take_of_lt hjl, f.eq j hj, List.getElem?_append_left hjl]
    · rw [List.getElem?_eq_none (by rw [List.length_take]; omega), List.getElem?_eq_none (by omega)]
section
variable {F : FD} {ρ : Rho} {μ μ0 : Store} {Q : D → Store → Prop} {p : Nat} {c : Int}
/-- a draw beside cells of the def's own -/
theorem DrawOk.y (hF : DrawOk F) {n : Int} (h : Wy μ0 p c μ) (hc : c < 2 ^ 20) (h0 : 0 < n) (h1 : n < 2 ^ 200) : Ok (F [.ref p, .int n] μ) (fun d μ' => ∃ r, d = .int r ∧ 0 ≤ r ∧ r < n ∧ Wy μ0 p (c + 1) μ' ∧ Fr p μ μ') :=
  (hF h.wd hc h0 h1).mono fun d μ' ⟨r, e, a, b, w, f⟩ => ⟨r, e, a, b, h.step w f, f⟩
end
/-! ### drawing all of some texts in any order -/
def mixedF (F : FD) : FD := fnSeal (fnP 4 2 (sSeq (sPar2 2 3 (aCons (eCallB FlistC (aCons (eVar 1) aNil)) (aCons (eCel aNil) aNil))) (sSeq (whileN (bOf (e2 (Feq true) (eVar 2) (eLst aNil))) (sDrop (eMeth isList Fapp (eVar 3) (aCons (eMeth isList FpopAt (eVar 2) (aCons (eCall F (aCons (eVar 0) (aCons (eCallB Flen (aCons (eVar 2) aNil)) aNil)) []) aNil)) aNil))) 1000000) (sRet (eVar 3)))))
theorem f_lenR {c : Nat} {xs : List D} {μ : Store} (h : μ[c]? = some (.lst xs)) : Flen [.ref c] μ = okR (.int xs.length) μ := by
  unfold Flen
  simp only [h]
theorem eqvAll_nil : ∀ ps : List PyData, PyData.eqvAll ps [] = ps.isEmpty
  | [] => rfl
  | _ :: _ => rfl
theorem f_neNil {c : Nat} {ss : List Str} {μ : Store} (h : μ[c]? = some (.lst (ss.map D.str))) (hs : ss.all PyData.strOk = true) : Feq true (.ref c) (.lst []) μ = okR (.bl (!ss.isEmpty)) μ := by
  show (match toPyS μ (.ref c), toPyS μ (.lst []) with
    | some p, some q => if SeqAt.shaped p = true ∧ SeqAt.shaped q = true then okR (.bl (if true = true then !PyData.eqv p q else PyData.eqv p q)) μ else none
    | _, _ => none) = _
  simp only [toPyS, h, toPys_strs, toPys, toPy, Option.map_some]
  rw [if_pos ⟨shaped_strs hs, by decide⟩]
  simp only [PyData.eqv, eqvAll_nil, List.isEmpty_map, if_true]
theorem f_popAt {c k : Nat} {xs : List D} {y : D} {μ : Store} (h : μ[c]? = some (.lst xs)) (hk : xs[k]? = some y) (hl : xs.length ≤ 1000000) : FpopAt (.ref c) [.int (Int.ofNat k)] μ = okR y (μ.set c (.lst (xs.eraseIdx k))) := by
  have hlt := (List.getElem?_eq_some_iff.mp hk).1
  have hs : seqIndex? (Int.ofNat k) xs.length = some k := by
    unfold seqIndex?
    simp only [Int.ofNat_eq_natCast]
    split <;> simp_all <;> omega
  unfold FpopAt
  simp only [h]
  rw [if_pos (by simp only [Int.ofNat_eq_natCast]; omega)]
  simp only [hs, hk]
theorem map_erase {α β : Type} {f : α → β} : ∀ (l : List α) (k : Nat), (l.map f).eraseIdx k = (l.eraseIdx k).map f
  | [], _ => rfl
  | _ :: _, 0 => rfl
  | x :: r, k + 1 => by simp only [List.map_cons, List.eraseIdx_cons_succ, map_erase r k]
theorem erase_perm {α : Type} : ∀ (l : List α) (k : Nat) (h : k < l.length), (l[k] :: l.eraseIdx k).Perm l
  | [], _, h => absurd h (Nat.not_lt_zero _)
  | x :: r, 0, _ => List.Perm.refl _
  | x :: r, k + 1, h => by
    have hk : k < r.length := by simpa using h
    show (r[k] :: x :: r.eraseIdx k).Perm (x :: r)
    exact (List.Perm.swap _ _ _).trans ((erase_perm r k hk).cons x)
/-! ### cells of a table -/
abbrev Cell := Str × Int × Str
def cellD (c : Cell) : D := .tup [.str c.1, .int c.2.1, .str c.2.2]
def cellP (c : Cell) : PyData := .tuple [.str c.1, .int c.2.1, .str c.2.2]
def cellOk (c : Cell) : Bool := PyData.strOk c.1 && PyData.strOk c.2.2
theorem noRef_cells : ∀ cs : List Cell, noRefs 0 (cs.map cellD) = true
  | [] => rfl
  | c :: r => by simp only [List.map_cons, noRefs, cellD, noRef, noRef_cells r, Bool.and_true]
/-! ### all cells of a width -/
def two (r : Str) (g : Int) : List Cell := [(r, g, "other"), (r, g, "same")]
def row (r : Str) (lo : Int) (n : Nat) : List Cell := (rngI lo n).flatMap (two r)
def allC (w : Int) : List Cell := row "less" (0 - w) (2 * w + 1).toNat ++ row "more" (0 - w) (2 * w + 1).toNat ++ row "same" (0 - w) (2 * w + 1).toNat
theorem row_mem {r : Str} {lo : Int} {n : Nat} {c : Cell} : c ∈ row r lo n ↔ c.1 = r ∧ (lo ≤ c.2.1 ∧ c.2.1 < lo + n) ∧ (c.2.2 = "other" ∨ c.2.2 = "same") := by
  unfold row two
  rw [List.mem_flatMap]
  obtain ⟨a, b, d⟩ := c
  constructor
  · rintro ⟨g, hg, hc⟩
    have := rngI_mem.mp hg
    simp only [List.mem_cons, List.not_mem_nil, or_false, Prod.mk.injEq] at hc
    rcases hc with ⟨rfl, rfl, rfl⟩ | ⟨rfl, rfl, rfl⟩
    · exact ⟨rfl, this, .inl rfl⟩
    · exact ⟨rfl, this, .inr rfl⟩
  · rintro ⟨h1, h2, h3⟩
    simp only at h1 h2 h3
    subst h1
    refine ⟨b, rngI_mem.mpr h2, ?_⟩
    rcases h3 with rfl | rfl <;> simp
theorem allC_mem {w : Int} {c : Cell} : c ∈ allC w ↔ (c.1 = "less" ∨ c.1 = "more" ∨ c.1 = "same") ∧ (0 - w ≤ c.2.1 ∧ c.2.1 ≤ w) ∧ (c.2.2 = "other" ∨ c.2.2 = "same") := by
  unfold allC
  simp only [List.mem_append, row_mem]
  have : (0 - w ≤ c.2.1 ∧ c.2.1 < 0 - w + ((2 * w + 1).toNat : Int)) ↔ (0 - w ≤ c.2.1 ∧ c.2.1 ≤ w) := by omega
  rw [this]
  constructor
  · rintro ((⟨h, q⟩ | ⟨h, q⟩) | ⟨h, q⟩)
    · exact ⟨.inl h, q⟩
    · exact ⟨.inr (.inl h), q⟩
    · exact ⟨.inr (.inr h), q⟩
  · rintro ⟨h | h | h, q⟩
    · exact .inl (.inl ⟨h, q⟩)
    · exact .inl (.inr ⟨h, q⟩)
    · exact .inr ⟨h, q⟩
theorem row_len {r : Str} {lo : Int} {n : Nat} : (row r lo n).length = 2 * n := by
  unfold row
  rw [List.length_flatMap]
  have : (rngI lo n).map (fun g => (two r g).length) = List.replicate n 2 := by
    rw [List.eq_replicate_iff]
    exact ⟨by simp [rngI], fun b hb => by obtain ⟨g, _, rfl⟩ := List.mem_map.mp hb; rfl⟩
  rw [this, List.sum_replicate_nat]
  omega
theorem row_succ {r : Str} {lo : Int} {n : Nat} : row r lo (n + 1) = row r lo n ++ two r (lo + Int.ofNat n) := by
  unfold row rngI
  rw [List.range_succ, List.map_append, List.flatMap_append]
  simp
end DM

namespace DM
open PySem PySem.Spec L2
/-! ### any statement that is never reached -/
def sFail : SF := fun _ _ => none
def eFail : CM D := fun _ _ => none
/-! ### fields of instances -/
def putD (f : Str) (v : D) : List (Str × D) → List (Str × D)
  | [] => [(f, v)]
  | (g, x) :: r => if g = f then (g, v) :: r else (g, x) :: putD f v r
section
variable {K : PySem.W.Frag} {ι : List Addr} {H : Hp}
end
def fldAt (μ : Store) (d : D) (f : Str) : Option D := match d with
  | .ref i => match μ[i]? with
    | some (.obj _ fs) => fs.lookup f
    | _ => none
  | _ => none
def eFld (f : Str) (E : CM D) : CM D := E.bind fun d _ μ => pureR (fldAt μ d f) μ
/-! ### targets -/
def toEnds (Q : L2.St → Hp → Prop) : Ends := { nx := Q, rt := fun _ _ => False, bk := fun _ _ => False, ct := fun _ _ => False }
def tgD (K : PySem.W.Frag) (W : DW) (F : D → SF) : TG := fun v σ H Q => ∃ ρ ι μ d, SR K ι H σ ρ ∧ WF K ι μ H ∧ VR K ι H v d ∧ PostS K W (toEnds Q) ι H (F d ρ μ)
def tgsD (K : PySem.W.Frag) (W : DW) (F : List D → SF) : TGs := fun vs σ H Q => ∃ ρ ι μ ds, SR K ι H σ ρ ∧ WF K ι μ H ∧ VRs K ι H vs ds ∧ PostS K W (toEnds Q) ι H (F ds ρ μ)
end DM
namespace L2
open PySem PySem.Spec
theorem PG.imp {X : Cx} {e : Expr} {t t' : TG} (h : PG X e t) (q : ∀ v σ H Q, t' v σ H Q → t v σ H Q) : PG X e t' := ⟨fun pins s σ H v u Q I r z => h.run pins s σ H v u Q I r (q _ _ _ _ z)⟩
theorem PGs.imp {X : Cx} {e : List Expr} {t t' : TGs} (h : PGs X e t) (q : ∀ v σ H Q, t' v σ H Q → t v σ H Q) : PGs X e t' := ⟨fun pins s σ H v u Q I r z => h.run pins s σ H v u Q I r (q _ _ _ _ z)⟩
/-- o.f = .. -/
def gFld (K : PySem.W.Frag) (to : TE) (f : Str) : TG := fun v σ H Q => to σ H fun x H1 => ∃ a C dx fs, x = .ref a ∧ H1 a = some (.ins C dx fs) ∧ Cls K C ∧ NoAttr K C f ∧ fs.length < 1000 ∧ Q σ (upd H1 a (.ins C dx (putF f v fs)))
end L2
namespace DM
open PySem PySem.Spec L2
def tName (i : Nat) : D → SF := fun d ρ μ => some (.nx (ρ.set i (some d)), μ)
def tNil : List D → SF := fun ds ρ μ => match ds with
  | [] => some (.nx ρ, μ)
  | _ => none
def tCons (F : D → SF) (G : List D → SF) : List D → SF := fun ds => match ds with
  | d :: r => sSeq (F d) (G r)
  | [] => fun _ _ => none
def tTup (n : Nat) (G : List D → SF) : D → SF := fun d => match d with
  | .tup ds => fun ρ μ => if ds.length = n then G ds ρ μ else none
  | _ => fun _ _ => none
def tFld (f : Str) (cs : List Str) (O : CM D) : D → SF := fun v => lft O fun o ρ μ => match o with
  | .ref i => match μ[i]? with
    | some (.obj C fs) => if fs.length < 1000 ∧ (C ∈ cs ∨ f ∈ fs.map (·.1)) then some (.nx ρ, μ.set i (.obj C (putD f v fs))) else none
    | _ => none
  | _ => none
section
variable {X : Cx} {W : DW} {pos : Pos}
def tgOnly (S : SF) : SF := fun ρ μ => match S ρ μ with
  | some (.nx ρ', μ') => some (.nx ρ', μ')
  | some (.ex x ρ', μ') => some (.ex x ρ', μ')
  | _ => none
def sAsgT (E : CM D) (F : D → SF) : SF := lft E fun d => tgOnly (F d)
end
end DM

namespace DM
open PySem PySem.Spec L2
/-! ### methods of own classes -/
structure MtK (P : Program) (w : World) (K : PySem.W.Frag) (mg : Str → Option Value) (base : Heap) (k : Nat) (C m : Str) (F : FD) : Prop where
  ex : ∃ f fd ps, FnG P w K mg base (xrS K) k f fd ps F ∧ Meth K (He.ga K C) m f ∧ Binds K fd ps [] ∧ ∀ ds μ, F ds μ ≠ none → ds.length = ps.length
def eMt (tb : List (Str × FD)) (m : Str) (O : CM D) (A : CM (List D)) : CM D := O.bind fun o ρ μ => match o with
  | .ref i => match μ[i]? with
    | some (.obj C fs) => if (fs.lookup m).isNone = true then (match tb.lookup C with
      | some F => (A.bind fun ds _ μ => F (.ref i :: ds) μ) ρ μ
      | none => none) else none
    | _ => none
  | _ => none
section
variable {X : Cx} {W : DW} {k j : Nat} {m : Str} {tb : List (Str × FD)} {o e : Expr} {es : List Expr} {O : CM D} {As : CM (List D)} {pos apos : Pos}
/-! ### new instances -/
structure MkK (P : Program) (w : World) (K : PySem.W.Frag) (mg : Str → Option Value) (base : Heap) (k : Nat) (C : Str) (F : FD) : Prop where
  ex : ∃ f fd ps, FnG P w K mg base (xrS K) k f fd ps F ∧ Mk K (He.ga K C) f ∧ mg C = some (.ref (He.ga K C)) ∧ Cls K (He.ga K C) ∧ Binds K fd ps [] ∧ ∀ ds μ, F ds μ ≠ none → ds.length = ps.length
/-- __init__ at a new instance -/
def mkO (C : Str) (F : FD) (ds : List D) (μ : Store) : Res D := match F (.ref μ.length :: ds) (μ ++ [.obj C []]) with
  | some (.ok .non, μ') => some (.ok (.ref μ.length), μ')
  | some (.error x, μ') => some (.error x, μ')
  | _ => none
def eMk (C : Str) (F : FD) (A : CM (List D)) : CM D := A.bind fun ds _ μ => mkO C F ds μ
/-! ### properties -/
structure PrK (P : Program) (w : World) (K : PySem.W.Frag) (mg : Str → Option Value) (base : Heap) (k : Nat) (C m : Str) (F : FD) : Prop where
  ex : ∃ p f fd ps, FnG P w K mg base (xrS K) k f fd ps F ∧ PropOf K (He.ga K C) m p f ∧ Binds K fd ps [] ∧ ∀ ds μ, F ds μ ≠ none → ds.length = ps.length
def ePr (tb : List (Str × FD)) (O : CM D) : CM D := O.bind fun o ρ μ => match o with
  | .ref i => match μ[i]? with
    | some (.obj C _) => match tb.lookup C with
      | some F => F [.ref i] μ
      | none => none
    | _ => none
  | _ => none
end
end DM

namespace DM
open PySem PySem.Spec L2
/-! ### o.f op= e -/
def sAugF (f : Str) (F : D → D → Store → Res D) (O E : CM D) : SF := lft O fun o ρ μ => match o with
  | .ref i => match μ[i]? with
    | some (.obj C fs) => match fs.lookup f with
      | some v => (lft E fun e => lft (fun _ μ => F v e μ) fun z ρ μ => match μ[i]? with
        | some (.obj C' fs') => if C' = C ∧ fs'.length < 1000 ∧ f ∈ fs'.map (·.1) then some (.nx ρ, μ.set i (.obj C (putD f z fs'))) else none
        | _ => none) ρ μ
      | none => none
    | _ => none
  | _ => none
def FaddN : D → D → Store → Res D
  | .int i, .int j, μ => okR (.int (i + j)) μ
  | _, _, _ => none
/-! ### isinstance of built-in types -/
def tyD (μ : Store) : D → Option String
  | .non => some "NoneType"
  | .bl _ => some "bool"
  | .int _ => some "int"
  | .str _ => some "str"
  | .tup _ => some "tuple"
  | .lst _ => some "list"
  | .fl _ => some "list"
  | .ref i => match μ[i]? with
    | some (.lst _) => some "list"
    | some (.dct _) => some "dict"
    | _ => none
def isiB (t T : String) : Bool := t == T || (t == "bool" && T == "int")
def tysB : List String := ["int", "bool", "str", "tuple", "list", "dict"]
def tysV : List String := ["NoneType", "bool", "int", "str", "tuple", "list", "dict"]
theorem kit_all (K : PySem.W.Frag) {T : String} (hT : T ∈ tysB) {t : String} (ht : t ∈ tysV) : PySem.W.kitOne K (.type t) (.type T) = some (isiB t T) := by
  simp only [tysB, tysV, List.mem_cons, List.not_mem_nil, or_false] at hT ht
  rcases hT with rfl | rfl | rfl | rfl | rfl | rfl <;> rcases ht with rfl | rfl | rfl | rfl | rfl | rfl | rfl <;> rfl
theorem tyD_ok {K : PySem.W.Frag} {ι : List Addr} {H : Hp} {μ : Store} {x : V} {d : D} {t : String} (w : WF K ι μ H) (v : VR K ι H x d) (h : tyD μ d = some t) : TyX K H x (.type t) ∧ t ∈ tysV := by
  cases v with
  | non => cases h; exact ⟨.base .non, by decide⟩
  | bl b => cases h; exact ⟨.base (.bl b), by decide⟩
  | int b => cases h; exact ⟨.base (.int b), by decide⟩
  | str b => cases h; exact ⟨.base (.str b), by decide⟩
  | tup hh r =>
    cases h
    refine ⟨?_, by decide⟩
    rcases hh with ⟨⟨o, e, _⟩, _⟩ | ⟨o, its, n, e, c, _⟩ | ⟨e, _⟩
    · exact .fTuple e
    · exact .kTuple e c
    · exact .base (.tup e)
  | lst hh r => cases h; exact ⟨.base (.lst hh.1), by decide⟩
  | fl hh r =>
    cases h
    refine ⟨?_, by decide⟩
    rcases hh with ⟨⟨o, e⟩, _⟩ | ⟨o, its, n, e, c, _⟩
    · exact .base (.frz e)
    · exact .kList e c
  | ref hi =>
    obtain ⟨o, ho, ro⟩ := w.has hi
    simp only [tyD, ho] at h
    cases o with
    | lst xs => cases h; obtain ⟨vs, e, _⟩ := ro; exact ⟨.base (.lst e), by decide⟩
    | dct kvs => cases h; obtain ⟨qs, e, _⟩ := ro; exact ⟨.base (.dK e), by decide⟩
    | dcl kvs => cases h
    | dtt kvs => cases h
    | exc C fs => cases h
    | tab tx => cases h
    | dnk kvs => cases h
    | obj C fs => cases h
def eIsi (T : String) (E : CM D) : CM D := E.bind fun d _ μ => match tyD μ d with
  | some t => okR (.bl (isiB t T)) μ
  | none => none
end DM
namespace L2
open PySem PySem.Spec
/-- a built-in type by its name -/
theorem pe_ty {X : Cx} {x : Str} {T : String} {p : Pos} (hg : Gl X x) (hm : X.mg x = none) (hv : bootBuiltins x = some (.type T)) (hnm : x ≠ "__name__" := by decide) (hdb : (x == ("__debug__" : Str)) = false := by decide) : PE X (.Name x p) (tC (.ty T)) :=
  ⟨fun pins s σ H Q I h => ld_blt I hg hm hv ⟨.ty T, H, I, rfl, h⟩ hnm hdb⟩
end L2
namespace DM
open PySem PySem.Spec L2
theorem d_isi {X : Cx} {W : DW} {e : Expr} {E : CM D} {x : Str} {T : String} {p p2 pos : Pos} (hg : Gl X "isinstance") (hm : X.mg "isinstance" = none) (hgt : Gl X x) (hmt : X.mg x = none) (hv : bootBuiltins x = some (.type T)) (hT : T ∈ tysB) (he : PE X e (tE X.K W E)) (hnm : x ≠ "__name__" := by decide) (hdb : (x == ("__debug__" : Str)) = false := by decide)
    (hs : starEach [e, .Name x p2] X.env = (false, eval e X.env) :: starEach [.Name x p2] X.env := by rfl) (hs2 : starEach [.Name x p2] X.env = (false, eval (.Name x p2) X.env) :: starEach [] X.env := by rfl) : PE X (.Call (.Name "isinstance" p) [e, .Name x p2] [] pos) (tE X.K W (eIsi T E)) :=
  (pe_callB call_isi hg hm (by decide +kernel) (pa_cons he (pa_cons (pe_ty hgt hmt hv hnm hdb) pa_nil hs2) hs) (by decide) (by decide) hs (by rw [hs2]; rfl)).imp fun σ H Q ⟨ρ, ι, μ, sr, wf, h⟩ => by
    refine tG.mono (PostG.bind sr wf h) ?_
    rintro v H1 ⟨ι1, μ1, d, l1, w1, vx, h1⟩
    cases et : tyD μ1 d with
    | none => rw [et] at h1; exact h1.elim
    | some t =>
      rw [et] at h1
      obtain ⟨ty, ht⟩ := tyD_ok w1 vx et
      exact ⟨v, .ty T, .type t, .type T, _, rfl, .ty T, ty, kit_all X.K hT ht, h1.ok0 w1 (.bl _)⟩
/-! ### stars in displays and calls -/
def aStar (E : CM D) (As : CM (List D)) : CM (List D) := E.bind fun d => fun ρ μ => match itemsD μ d with
  | some xs => (As.bind fun ds => CM.ret (xs ++ ds)) ρ μ
  | none => none
theorem da_star {X : Cx} {W : DW} {e : Expr} {es : List Expr} {p : Pos} {E : CM D} {As : CM (List D)} (he : PE X e (tE X.K W E)) (hr : PA X es (tA X.K W As)) (hs : starEach (.Starred e p :: es) X.env = (true, eval e X.env) :: starEach es X.env := by rfl) : PA X (.Starred e p :: es) (tA X.K W (aStar E As)) :=
  (StX.pa_star he hr hs).imp fun σ H Q ⟨ρ, ι, μ, sr, wf, h⟩ => by
    refine tG.mono (PostG.bind sr wf h) ?_
    rintro x H1 ⟨ι1, μ1, d, l1, w1, vx, h1⟩
    cases ei : itemsD μ1 d with
    | none => simp only [ei] at h1; exact h1.elim
    | some xs =>
      simp only [ei] at h1
      obtain ⟨a, vs, rfl, rv, hq⟩ := itemsD_sq w1 vx ei
      refine ⟨a, vs, rfl, hq.elim .inr (fun z => .inl z.1), tG.mono (PostG.bind (sr.mono l1) w1 h1) ?_⟩
      rintro ys H2 ⟨ι2, μ2, ds, l2, w2, vy, h2⟩
      exact PostG.ok0 h2 w2 ((rv.mono l2).append vy)
/-! ### dicts -/
def keyD : D → Option Key
  | .int i => some (.inl i)
  | .str x => some (.inr x)
  | _ => none
def valD (kvs : List (Key × D)) (k : Key) : Option D := (kvs.find? fun kv => decide (kv.1 = k)).map (·.2)
def putKD (kvs : List (Key × D)) (k : Key) (v : D) : List (Key × D) := if (kvs.any fun kv => decide (kv.1 = k)) = true then kvs.map (fun kv => if kv.1 = k then (kv.1, v) else kv) else kvs ++ [(k, v)]
section
variable {K : PySem.W.Frag} {ι : List Addr} {H : Hp}
theorem keyD_vr {x : V} {d : D} {k : Key} (v : VR K ι H x d) (h : keyD d = some k) : x = kV k := by
  cases v <;> cases h <;> rfl
end
def eDNew : CM D := fun _ μ => some (.ok (.ref μ.length), μ ++ [.dct []])
def dctAt (μ : Store) : D → Option (Nat × List (Key × D))
  | .ref c => match μ[c]? with
    | some (.dct kvs) => some (c, kvs)
    | some (.dcl kvs) => some (c, kvs)
    | _ => none
  | _ => none
def dctW (μ : Store) : D → Option (Nat × List (Key × D))
  | .ref c => match μ[c]? with
    | some (.dct kvs) => some (c, kvs)
    | _ => none
  | _ => none
def FdGet (o i : D) (μ : Store) : Res D := match dctAt μ o, keyD i with
  | some (_, kvs), some k => pureR (valD kvs k) μ
  | _, _ => none
def FdIn (neg : Bool) (i o : D) (μ : Store) : Res D := match dctAt μ o, keyD i with
  | some (_, kvs), some k => okR (.bl (if neg then !(valD kvs k).isSome else (valD kvs k).isSome)) μ
  | _, _ => none
def FdPut (o i v : D) (μ : Store) : Option Store := match dctW μ o, keyD i with
  | some (c, kvs), some k => if kvs.length < sizeLine then some (μ.set c (.dct (putKD kvs k v))) else none
  | _, _ => none
def tDSub (O I : CM D) : D → SF := fun v => lft O fun o => lft I fun i ρ μ => match FdPut o i v μ with
  | some μ' => some (.nx ρ, μ')
  | none => none
section
variable {X : Cx} {W : DW} {o i e : Expr} {O I E : CM D} {pos pos' : Pos} {k : Nat}
theorem d_dnew : PE X (.Dict [] [] pos) (tE X.K W eDNew) := pe_dnewK.imp fun σ H Q ⟨ρ, ι, μ, sr, wf, h⟩ p hp => h.ok (Le.cell hp) (wf.cell hp (u := .dct []) ⟨[], upd_same, rfl, .nil⟩) (.ref (by rw [← wf.len]; simp))
end
end DM

namespace DM
open PySem PySem.Spec L2
def clsB : Stmt → List Stmt
  | .ClassDef _ _ _ body _ _ _ _ _ _ _ => body
  | _ => []
/-! ### tables of methods -/
section
variable {P : Program} {w : World} {K : PySem.W.Frag} {mg : Str → Option Value} {base : Heap}
theorem MtK.mono {j k : Nat} {C m : Str} {F : FD} (h : MtK P w K mg base j C m F) (l : j ≤ k) : MtK P w K mg base k C m F := by
  obtain ⟨f, fd, ps, G, r⟩ := h.ex
  exact ⟨⟨f, fd, ps, G.mono l, r⟩⟩
theorem PrK.mono {j k : Nat} {C m : Str} {F : FD} (h : PrK P w K mg base j C m F) (l : j ≤ k) : PrK P w K mg base k C m F := by
  obtain ⟨p, f, fd, ps, G, r⟩ := h.ex
  exact ⟨⟨p, f, fd, ps, G.mono l, r⟩⟩
end
/-! ### dict displays -/
def pR (K : PySem.W.Frag) (ι : List Addr) (H : Hp) (ps : List (V × V)) (ds : List (D × D)) : Prop := VRs K ι H (ps.map (·.1)) (ds.map (·.1)) ∧ VRs K ι H (ps.map (·.2)) (ds.map (·.2))
def pNil : CM (List (D × D)) := CM.ret []
def pCons (A B : CM D) (P : CM (List (D × D))) : CM (List (D × D)) := A.bind fun a => B.bind fun b => P.bind fun ps => CM.ret ((a, b) :: ps)
structure DPs (X : Cx) (W : DW) (pos : Pos) (keys : List (Option Expr)) (values : List Expr) (P : CM (List (D × D))) : Prop where
  ex : ∃ trs, PPs X pos keys values trs ∧ ∀ σ H Q, tG (pR X.K) X.K W P σ H Q → tPairs trs σ H Q
def keysD : List (D × D) → Option (List (Key × D))
  | [] => some []
  | (a, b) :: r => match keyD a, keysD r with
    | some k, some t => some ((k, b) :: t)
    | _, _ => none
def mergeKD (kvs more : List (Key × D)) : List (Key × D) := more.foldl (fun acc kv => putKD acc kv.1 kv.2) kvs
def eDisp (P : CM (List (D × D))) : CM D := fun ρ μ => match P ρ (μ ++ [.dct []]) with
  | some (.ok ps, μ') => (match keysD ps, μ'[μ.length]? with
    | some kvs, some (.dct []) => if kvs.length ≤ 15 then some (.ok (.ref μ.length), μ'.set μ.length (.dct (mergeKD [] kvs))) else none
    | _, _ => none)
  | some (.error x, μ') => some (.error x, μ')
  | none => none
section
variable {X : Cx} {W : DW} {pos : Pos}
end
end DM

namespace DM
open PySem PySem.Spec L2
/-! ### running: instances, dicts, targets -/
def onlyN (Qf : Fl → Store → Prop) : Fl → Store → Prop := fun f μ => match f with
  | .nx ρ => Qf (.nx ρ) μ
  | _ => False
def starAt (o : Option (List D)) (k : List D → Prop) : Prop := match o with
  | some xs => k xs
  | none => False
section
variable {ρ : Rho} {μ : Store} {Q : D → Store → Prop} {Qf : Fl → Store → Prop} {A O E : CM D} {As : CM (List D)}
theorem q_fld {f : Str} : Ok (eFld f A ρ μ) Q = Ok (A ρ μ) (fun d μ1 => Ok (pureR (fldAt μ1 d f) μ1) Q) := Ok_bind
theorem q_asgT {F : D → SF} (h : Ok (E ρ μ) (fun d μ1 => OkS (F d ρ μ1) (onlyN Qf))) : OkS (sAsgT E F ρ μ) Qf := by
  unfold sAsgT
  refine OkS_lft (h.mono fun d μ1 h => ?_)
  unfold tgOnly
  generalize F d ρ μ1 = r at h ⊢
  match r, h with
  | some (.nx ρ', μ'), h => exact h
theorem q_only {ρ' : Rho} : onlyN Qf (.nx ρ') μ = Qf (.nx ρ') μ := rfl
theorem q_tName {i : Nat} {d : D} : OkS (tName i d ρ μ) Qf = Qf (.nx (ρ.set i (some d))) μ := rfl
theorem q_tNil : OkS (tNil [] ρ μ) Qf = Qf (.nx ρ) μ := rfl
theorem q_tCons {F : D → SF} {G : List D → SF} {d : D} {ds : List D} : OkS (tCons F G (d :: ds) ρ μ) Qf = OkS (F d ρ μ) (contS (G ds) Qf) := q_seq
theorem q_starS {xs : List D} {k : List D → Prop} : starAt (some xs) k = k xs := rfl
theorem q_star {R : List D → Store → Prop} : Ok (aStar E As ρ μ) R = Ok (E ρ μ) (fun d μ1 => starAt (itemsD μ1 d) (fun xs => Ok (As ρ μ1) (fun ds μ2 => R (xs ++ ds) μ2))) := by
  unfold aStar
  rw [Ok_bind]
  congr 1
  funext d μ1
  cases itemsD μ1 d with
  | none => rfl
  | some xs =>
    simp only [starAt]
    rw [Ok_bind]
    rfl
theorem f_itT {xs : List D} : itemsD μ (.tup xs) = some xs := rfl
theorem q_dnew : Ok (eDNew ρ μ) Q = Q (.ref μ.length) (μ ++ [.dct []]) := rfl
theorem f_addN {i j : Int} : FaddN (.int i) (.int j) μ = okR (.int (i + j)) μ := rfl
end
end DM

namespace DM
open PySem PySem.Spec L2
/-! ### histories, plainly -/
inductive Mk where
  | note | stat | read | look
deriving DecidableEq
def Mk.str : Mk → Str
  | .note => "note" | .stat => "stat" | .read => "read" | .look => "look"
inductive Stp where
  | wr (t : Int) | rs (t z : Int) | cp (t e : Int) | cr (t e z : Int) | to (t e : Int) | mk (m : Mk) (t : Int)
deriving DecidableEq
def Stp.word : Stp → Str
  | .wr _ => "write" | .rs _ _ => "resize" | .cp _ _ => "copy" | .cr _ _ _ => "copyresize" | .to _ _ => "touch" | .mk m _ => m.str
def Stp.tick : Stp → Int
  | .wr t => t | .rs t _ => t | .cp t _ => t | .cr t _ _ => t | .to t _ => t | .mk _ t => t
def Stp.rest : Stp → List Int
  | .wr _ => [] | .rs _ z => [z] | .cp _ e => [e] | .cr _ e z => [e, z] | .to _ e => [e] | .mk _ _ => []
def Stp.isEv : Stp → Bool
  | .mk _ _ => false
  | _ => true
def Stp.D (s : Stp) : D := .tup (.str s.word :: .int s.tick :: s.rest.map D.int)
def mxI (a b : Int) : Int := if b > a then b else a
structure Fs where
  latest : Int
  stamp : Int
  size : Int
  changed : Int
def Fs.ob (k : Str) (f : Fs) : Ob := .obj "File" [("kind", .str k), ("latest", .int f.latest), ("stamp", .int f.stamp), ("size", .int f.size), ("changed", .int f.changed)]
def doF (kw : Bool) (f : Fs) : Stp → Fs
  | .wr t => ⟨mxI f.latest t, t, f.size, f.changed + 1⟩
  | .rs t z => ⟨mxI f.latest t, t, z, f.changed + 1⟩
  | .cp t e => ⟨mxI f.latest t, if kw = true then e else t, f.size, f.changed + 1⟩
  | .cr t e z => ⟨mxI f.latest t, if kw = true then e else t, z, f.changed + 1⟩
  | .to t e => ⟨mxI f.latest t, if kw = true then e else t, f.size, f.changed⟩
  | .mk _ t => ⟨mxI f.latest t, f.stamp, f.size, f.changed⟩
structure Kp where
  note : Option Int
  stat : Option (Int × Int)
  read : Option Int
def kp0 : Kp := ⟨none, none, none⟩
def kpF (k : Kp) (f : Fs) : Stp → Kp
  | .mk .note t => { k with note := some t }
  | .mk .stat _ => { k with stat := some (f.stamp, f.size) }
  | .mk .read _ => { k with read := some f.changed }
  | _ => k
def runF (kw : Bool) : Fs → Kp → List Stp → Fs × Kp
  | f, k, [] => (f, k)
  | f, k, s :: r => runF kw (doF kw f s) (kpF k (doF kw f s) s) r
def Kp.rel (k : Kp) (kvs : List (Key × D)) : Prop := valD kvs (.inr "note") = k.note.map D.int ∧ valD kvs (.inr "stat") = k.stat.map (fun p => .tup [.int p.1, .int p.2]) ∧ valD kvs (.inr "read") = k.read.map D.int
/-- what a tale has: all steps can happen -/
def posF (back : Int) (f : Fs) : Stp → Bool
  | .wr t => !decide (t < f.latest - back)
  | .rs t z => !decide (t < f.latest - back) && !(z == f.size)
  | .cp t e => !decide (t < f.latest - back) && !decide (e > t)
  | .cr t e z => !decide (t < f.latest - back) && (!decide (e > t) && !(z == f.size))
  | .to t e => !decide (t < f.latest - back) && !decide (e > t)
  | .mk _ t => !decide (t < f.latest - back)
def posA (back : Int) : Fs → List Stp → Bool
  | _, [] => true
  | f, s :: r => posF back f s && posA back (doF true f s) r
def Stp.sizeOk : Stp → Bool
  | .rs _ z => decide (0 ≤ z)
  | .cr _ _ z => decide (0 ≤ z)
  | _ => true
def doA (kw : Bool) (f : Fs) (ss : List Stp) : Fs := ss.foldl (doF kw) f
def marks (ss : List Stp) : List Mk := ss.filterMap fun s => match s with
  | .mk m _ => some m
  | _ => none
theorem marks_app {a b : List Stp} : marks (a ++ b) = marks a ++ marks b := by unfold marks; rw [List.filterMap_append]
/-- a tale of some words, with its marks -/
structure Tale (ws : List Str) (back : Int) (f : Fs) (ms : List Mk) (ss : List Stp) : Prop where
  pos : posA back f ss = true
  words : ∀ s ∈ ss, s.isEv = true → s.word ∈ ws
  sizes : ∀ s ∈ ss, s.sizeOk = true
  mrk : marks ss = ms
/-! ### what is kept -/
def Kp.has (k : Kp) (m : Mk) : Bool := match m with
  | .note => k.note.isSome
  | .stat => k.stat.isSome
  | .read => k.read.isSome
  | .look => true
/-! ### both kinds -/
def simF (f g : Fs) : Prop := f.latest = g.latest ∧ f.size = g.size ∧ f.changed = g.changed
def simK (k l : Kp) : Prop := k.note = l.note ∧ k.stat.map (·.2) = l.stat.map (·.2) ∧ k.read = l.read
/-- without copies and touches -/
def plainS : Stp → Bool
  | .wr _ => true
  | .rs _ _ => true
  | .mk _ _ => true
  | _ => false
/-- a clock that is set back -/
def setB : Int → List Stp → Bool
  | _, [] => false
  | t, s :: r => if s.tick < t then true else setB s.tick r
/-! ### orders -/
def ordersM : List (List Mk) := [[.note, .read, .stat], [.note, .stat, .read], [.read, .note, .stat], [.read, .stat, .note], [.stat, .note, .read], [.stat, .read, .note]]
end DM

namespace DM
open PySem PySem.Spec L2
/-! ### list.index of texts -/
def FlIdx (o : D) (ds : List D) (μ : Store) : Res D := match o, ds with
  | .lst xs, [.str z] => match strsD xs with
    | some ys => pureR ((idxS z ys).map fun j => .int (j : Nat)) μ
    | none => none
  | _, _ => none
section
variable {X : Cx} {W : DW} {o e : Expr} {es : List Expr} {O : CM D} {As : CM (List D)} {apos cpos : Pos}
end
/-! ### isinstance -/
def isiR (T : String) (d : D) (μ : Store) : Res D := match tyD μ d with
  | some t => okR (.bl (isiB t T)) μ
  | none => none
section
variable {ρ : Rho} {μ : Store} {Q : D → Store → Prop} {E : CM D}
theorem q_isi {T : String} : Ok (eIsi T E ρ μ) Q = Ok (E ρ μ) (fun d μ1 => Ok (isiR T d μ1) Q) := Ok_bind
theorem isi_ii {i : Int} : isiR "int" (.int i) μ = okR (.bl true) μ := rfl
theorem isi_ib {i : Int} : isiR "bool" (.int i) μ = okR (.bl false) μ := rfl
theorem isi_tt {xs : List D} : isiR "tuple" (.tup xs) μ = okR (.bl true) μ := rfl
theorem isi_ss {x : Str} : isiR "str" (.str x) μ = okR (.bl true) μ := rfl
end
end DM

namespace DM
open PySem PySem.Spec L2
section
variable {α β : Type} {ρ : Rho} {μ : Store} {Q : D → Store → Prop} {T : CM Bool}
end
end DM

namespace DM
open PySem PySem.Spec L2
/-! ### histories moved, raised, lengthened -/
def mvS (d : Int) : Stp → Stp
  | .wr t => .wr (t + d)
  | .rs t z => .rs (t + d) z
  | .cp t e => .cp (t + d) (e + d)
  | .cr t e z => .cr (t + d) (e + d) z
  | .to t e => .to (t + d) (e + d)
  | .mk m t => .mk m (t + d)
def mvF (d : Int) (f : Fs) : Fs := ⟨f.latest + d, f.stamp + d, f.size, f.changed⟩
def mvK (d : Int) (k : Kp) : Kp := ⟨k.note.map (· + d), k.stat.map (fun p => (p.1 + d, p.2)), k.read⟩
theorem marks_map {g : Stp → Stp} (hg : ∀ s, marks [g s] = marks [s]) : ∀ ss : List Stp, marks (ss.map g) = marks ss
  | [] => rfl
  | s :: r => by
    have e : ∀ (x : Stp) (r : List Stp), marks (x :: r) = marks [x] ++ marks r := fun x r => marks_app (a := [x])
    rw [List.map_cons, e, e s, hg, marks_map hg r]
theorem Tale.map {ws : List Str} {back : Int} {f f' : Fs} {ms : List Mk} {ss : List Stp} {g : Stp → Stp} (h : Tale ws back f ms ss) (hp : posA back f' (ss.map g) = posA back f ss) (hw : ∀ s, (g s).word = s.word ∧ (g s).isEv = s.isEv) (hz : ∀ s, s.sizeOk = true → (g s).sizeOk = true) (hm : ∀ s, marks [g s] = marks [s]) : Tale ws back f' ms (ss.map g) := by
  refine ⟨by rw [hp]; exact h.pos, fun s hs hv => ?_, fun s hs => ?_, by rw [marks_map hm]; exact h.mrk⟩
  · obtain ⟨x, hx, rfl⟩ := List.mem_map.mp hs
    rw [(hw x).1]
    exact h.words x hx (by rw [← (hw x).2]; exact hv)
  · obtain ⟨x, hx, rfl⟩ := List.mem_map.mp hs
    exact hz x (h.sizes x hx)
def rsS (r : Int) : Stp → Stp
  | .rs t z => .rs t (z + r)
  | .cr t e z => .cr t e (z + r)
  | s => s
def rsF (r : Int) (f : Fs) : Fs := ⟨f.latest, f.stamp, f.size + r, f.changed⟩
def rsK (r : Int) (k : Kp) : Kp := ⟨k.note, k.stat.map (fun p => (p.1, p.2 + r)), k.read⟩
theorem do_rs {kw : Bool} {r : Int} {f : Fs} {s : Stp} : doF kw (rsF r f) (rsS r s) = rsF r (doF kw f s) := by
  cases s <;> rfl
theorem pos_rs {back d : Int} {f : Fs} {s : Stp} : posF back (rsF d f) (rsS d s) = posF back f s := by
  generalize hf : rsF d f = f'
  have h1 : f'.latest = f.latest := by rw [← hf]; rfl
  have h2 : f'.size = f.size + d := by rw [← hf]; rfl
  rw [Bool.eq_iff_iff]
  cases s <;> simp [posF, rsS] <;> omega
theorem posA_rs {back d : Int} : ∀ {ss : List Stp} {f : Fs}, posA back (rsF d f) (ss.map (rsS d)) = posA back f ss
  | [], f => rfl
  | s :: r, f => by rw [List.map_cons, posA, posA, pos_rs, do_rs, posA_rs]
theorem Tale.rs {ws : List Str} {back d : Int} {f : Fs} {ms : List Mk} {ss : List Stp} (hd : 0 ≤ d) (h : Tale ws back f ms ss) : Tale ws back (rsF d f) ms (ss.map (rsS d)) :=
  h.map posA_rs (fun s => by cases s <;> exact ⟨rfl, rfl⟩) (fun s hs => by cases s <;> simp_all [rsS, Stp.sizeOk] <;> omega) (fun s => by cases s <;> rfl)
theorem latest_le {M : Int} : ∀ {ss : List Stp} {f : Fs}, f.latest ≤ M → (∀ s ∈ ss, s.tick ≤ M) → (doA true f ss).latest ≤ M
  | [], f, h, _ => h
  | s :: r, f, h, hs => by
    show (doA true (doF true f s) r).latest ≤ M
    refine latest_le ?_ fun x hx => hs x (List.mem_cons_of_mem _ hx)
    have h1 : (doF true f s).latest = mxI f.latest s.tick := by cases s <;> rfl
    rw [h1]
    have := hs s List.mem_cons_self
    unfold mxI
    split <;> omega
theorem posA_app {back : Int} : ∀ {ss : List Stp} {f : Fs} {s : Stp}, posA back f (ss ++ [s]) = (posA back f ss && posF back (doA true f ss) s)
  | [], f, s => by simp [posA, doA]
  | x :: r, f, s => by
    rw [List.cons_append, posA, posA, posA_app, Bool.and_assoc]
    rfl
theorem Tale.last {ws : List Str} {back : Int} {f : Fs} {ms : List Mk} {s : List Stp} {m : Mk} {t T : Int} (hb : 0 ≤ back) (h : Tale ws back f ms (s ++ [.mk m t])) (h1 : f.latest ≤ T) (h2 : ∀ x ∈ s, x.tick ≤ T) : Tale ws back f ms (s ++ [.mk m T]) := by
  have hp := h.pos
  rw [posA_app, Bool.and_eq_true] at hp
  have hl := latest_le h1 h2
  refine ⟨?_, fun x hx hv => ?_, fun x hx => ?_, ?_⟩
  · rw [posA_app, hp.1]
    have : ¬ (T < (doA true f s).latest - back) := by omega
    simp [posF, this]
  · rcases List.mem_append.mp hx with z | z
    · exact h.words x (List.mem_append_left _ z) hv
    · rw [List.mem_singleton.mp z] at hv; cases hv
  · rcases List.mem_append.mp hx with z | z
    · exact h.sizes x (List.mem_append_left _ z)
    · rw [List.mem_singleton.mp z]; rfl
  · have := h.mrk
    rw [marks_app] at this ⊢
    exact this
def shF (f : Fs) : Fs := ⟨f.latest, f.stamp, f.size, f.changed + 1⟩
def shK (k : Kp) : Kp := ⟨k.note, k.stat, k.read.map (· + 1)⟩
def chF (f g : Fs) : Prop := f.changed = g.changed + 1
def chK (k l : Kp) : Prop := k.read = l.read.map (· + 1)
end DM

/-! equality and membership of plain data in general -/
namespace DM
open PySem PySem.Spec L2
mutual
/-- data without cells, of a depth, with good strings -/
def shp : Nat → D → Bool
  | _, .non => true
  | _, .bl _ => true
  | _, .int _ => true
  | _, .str x => PyData.strOk x
  | 0, .tup _ => false
  | n + 1, .tup xs => shps n xs
  | 0, .lst _ => false
  | n + 1, .lst xs => shps n xs
  | 0, .fl _ => false
  | n + 1, .fl xs => shps n xs
  | _, .ref _ => false
def shps : Nat → List D → Bool
  | _, [] => true
  | n, x :: r => shp n x && shps n r
end
mutual
/-- no bool stands where the other one has an int -/
def apt : D → D → Bool
  | .bl _, .int _ => false
  | .int _, .bl _ => false
  | .lst _, .fl _ => false
  | .fl _, .lst _ => false
  | .tup a, .tup b => apts a b
  | .lst a, .lst b => apts a b
  | .fl a, .fl b => apts a b
  | _, _ => true
def apts : List D → List D → Bool
  | a :: r, b :: t => apt a b && apts r t
  | _, _ => true
end
mutual
def pyD : D → PyData
  | .non => .none
  | .bl b => .bool b
  | .int i => .int i
  | .str x => .str x
  | .tup xs => .tuple (pyDs xs)
  | .lst xs => .list (pyDs xs)
  | .fl xs => .list (pyDs xs)
  | .ref _ => .none
def pyDs : List D → List PyData
  | [] => []
  | x :: r => pyD x :: pyDs r
end
mutual
theorem toPy_shp : ∀ {n : Nat} {d : D}, shp n d = true → toPy d = some (pyD d)
  | _, .non, _ => by simp [toPy, pyD]
  | _, .bl b, _ => by simp [toPy, pyD]
  | _, .int i, _ => by simp [toPy, pyD]
  | _, .str x, _ => by simp [toPy, pyD]
  | 0, .tup xs, h => by simp [shp] at h
  | n + 1, .tup xs, h => by
    simp only [shp] at h
    simp only [toPy, pyD, toPys_shps h, Option.map_some]
  | 0, .lst xs, h => by simp [shp] at h
  | n + 1, .lst xs, h => by
    simp only [shp] at h
    simp only [toPy, pyD, toPys_shps h, Option.map_some]
  | 0, .fl xs, h => by simp [shp] at h
  | n + 1, .fl xs, h => by
    simp only [shp] at h
    simp only [toPy, pyD, toPys_shps h, Option.map_some]
  | _, .ref _, h => by simp [shp] at h
theorem toPys_shps : ∀ {n : Nat} {ds : List D}, shps n ds = true → toPys ds = some (pyDs ds)
  | _, [], _ => by simp [toPys, pyDs]
  | n, d :: r, h => by
    simp only [shps, Bool.and_eq_true] at h
    simp only [toPys, toPy_shp h.1, toPys_shps h.2, pyDs]
end
mutual
theorem lay_shp : ∀ {n : Nat} {d : D}, shp n d = true → PyData.canLay0 (pyD d) = true
  | _, .non, _ => by simp [pyD, PyData.canLay0]
  | _, .bl b, _ => by simp [pyD, PyData.canLay0]
  | _, .int i, _ => by simp [pyD, PyData.canLay0]
  | _, .str x, h => by simpa [pyD, PyData.canLay0, shp] using h
  | 0, .tup xs, h => by simp [shp] at h
  | n + 1, .tup xs, h => by
    simp only [shp] at h
    simp only [pyD, PyData.canLay0, lays_shps h]
  | 0, .lst xs, h => by simp [shp] at h
  | n + 1, .lst xs, h => by
    simp only [shp] at h
    simp only [pyD, PyData.canLay0, lays_shps h]
  | 0, .fl xs, h => by simp [shp] at h
  | n + 1, .fl xs, h => by
    simp only [shp] at h
    simp only [pyD, PyData.canLay0, lays_shps h]
  | _, .ref _, h => by simp [shp] at h
theorem lays_shps : ∀ {n : Nat} {ds : List D}, shps n ds = true → PyData.canLayAll0 (pyDs ds) = true
  | _, [], _ => by simp [pyDs, PyData.canLayAll0]
  | n, d :: r, h => by
    simp only [shps, Bool.and_eq_true] at h
    simp only [pyDs, PyData.canLayAll0, lay_shp h.1, lays_shps h.2, Bool.and_self]
end
mutual
theorem dep_shp : ∀ {n : Nat} {d : D}, shp n d = true → (pyD d).depth ≤ n
  | _, .non, _ => by simp [pyD, PyData.depth]
  | _, .bl b, _ => by simp [pyD, PyData.depth]
  | _, .int i, _ => by simp [pyD, PyData.depth]
  | _, .str x, h => by simp [pyD, PyData.depth]
  | 0, .tup xs, h => by simp [shp] at h
  | n + 1, .tup xs, h => by
    simp only [shp] at h
    have := deps_shps h
    simp only [pyD, PyData.depth]; omega
  | 0, .lst xs, h => by simp [shp] at h
  | n + 1, .lst xs, h => by
    simp only [shp] at h
    have := deps_shps h
    simp only [pyD, PyData.depth]; omega
  | 0, .fl xs, h => by simp [shp] at h
  | n + 1, .fl xs, h => by
    simp only [shp] at h
    have := deps_shps h
    simp only [pyD, PyData.depth]; omega
  | _, .ref _, h => by simp [shp] at h
theorem deps_shps : ∀ {n : Nat} {ds : List D}, shps n ds = true → PyData.depthAll (pyDs ds) ≤ n
  | _, [], _ => by simp [pyDs, PyData.depthAll]
  | n, d :: r, h => by
    simp only [shps, Bool.and_eq_true] at h
    have h1 := dep_shp h.1
    have h2 := deps_shps h.2
    simp only [pyDs, PyData.depthAll]; omega
end
theorem shaped_shp {d : D} (h : shp 60 d = true) : SeqAt.shaped (pyD d) = true := by
  unfold SeqAt.shaped
  have := dep_shp h
  rw [lay_shp h, Bool.true_and]
  exact decide_eq_true (by omega)
mutual
theorem eqv_apt : ∀ {n m : Nat} {d e : D}, shp n d = true → shp m e = true → apt d e = true → PyData.eqv (pyD d) (pyD e) = d.beq e
  | _, _, .non, e, _, h, _ => by cases e <;> simp_all [pyD, PyData.eqv, D.beq, shp]
  | _, _, .bl b, e, _, h, a => by cases e <;> simp_all [pyD, PyData.eqv, D.beq, shp, apt]
  | _, _, .int b, e, _, h, a => by cases e <;> simp_all [pyD, PyData.eqv, D.beq, shp, apt]
  | _, _, .str b, e, _, h, a => by cases e <;> simp_all [pyD, PyData.eqv, D.beq, shp, apt]
  | 0, _, .tup xs, e, h, _, _ => by simp [shp] at h
  | 0, _, .lst xs, e, h, _, _ => by simp [shp] at h
  | 0, _, .fl xs, e, h, _, _ => by simp [shp] at h
  | n + 1, m, .tup xs, e, h, h', a => by
    cases e with
    | tup ys =>
      cases m with
      | zero => simp [shp] at h'
      | succ m =>
        simp only [shp] at h h'
        simp only [apt] at a
        simp only [pyD, PyData.eqv, D.beq]
        exact eqvs_apts h h' a
    | ref i => simp [shp] at h'
    | _ => simp [pyD, PyData.eqv, D.beq]
  | n + 1, m, .lst xs, e, h, h', a => by
    cases e with
    | lst ys =>
      cases m with
      | zero => simp [shp] at h'
      | succ m =>
        simp only [shp] at h h'
        simp only [apt] at a
        simp only [pyD, PyData.eqv, D.beq]
        exact eqvs_apts h h' a
    | ref i => simp [shp] at h'
    | fl ys => simp [apt] at a
    | _ => simp [pyD, PyData.eqv, D.beq]
  | n + 1, m, .fl xs, e, h, h', a => by
    cases e with
    | fl ys =>
      cases m with
      | zero => simp [shp] at h'
      | succ m =>
        simp only [shp] at h h'
        simp only [apt] at a
        simp only [pyD, PyData.eqv, D.beq]
        exact eqvs_apts h h' a
    | ref i => simp [shp] at h'
    | lst ys => simp [apt] at a
    | _ => simp [pyD, PyData.eqv, D.beq]
  | n, _, .ref _, _, h, _, _ => by simp [shp] at h
theorem eqvs_apts : ∀ {n m : Nat} {ds es : List D}, shps n ds = true → shps m es = true → apts ds es = true → PyData.eqvAll (pyDs ds) (pyDs es) = beqs ds es
  | _, _, [], [], _, _, _ => by simp [pyDs, PyData.eqvAll, beqs]
  | _, _, [], e :: t, _, _, _ => by simp [pyDs, PyData.eqvAll, beqs]
  | _, _, d :: r, [], _, _, _ => by simp [pyDs, PyData.eqvAll, beqs]
  | n, m, d :: r, e :: t, h, h', a => by
    simp only [shps, Bool.and_eq_true] at h h'
    simp only [apts, Bool.and_eq_true] at a
    simp only [pyDs, PyData.eqvAll, beqs, eqv_apt h.1 h'.1 a.1, eqvs_apts h.2 h'.2 a.2]
end
theorem beq_dec {d e : D} : d.beq e = decide (d = e) := by
  by_cases h : d = e
  · subst h; rw [D.beq_rfl]; simp
  · rw [decide_eq_false h]
    cases q : d.beq e
    · rfl
    · exact absurd (D.beq_eq _ _ q) h
theorem toPyS_shp {d : D} {n : Nat} {μ : Store} (h : shp n d = true) : toPyS μ d = some (pyD d) := by
  cases d with
  | ref i => simp [shp] at h
  | _ => exact toPy_shp h
theorem f_eqG {neg : Bool} {d e : D} {μ : Store} (hd : shp 60 d = true) (he : shp 60 e = true) (ha : apt d e = true) : Feq neg d e μ = okR (.bl (if neg = true then !d.beq e else d.beq e)) μ := by
  unfold Feq
  match h : twoS d e with
  | some (a, b) =>
    obtain ⟨rfl, rfl⟩ := twoS_some h
    simp [D.beq]
  | none =>
    simp only [toPyS_shp hd, toPyS_shp he]
    rw [if_pos ⟨shaped_shp hd, shaped_shp he⟩, eqv_apt hd he ha]
theorem f_eqD {d e : D} {μ : Store} (hd : shp 60 d = true) (he : shp 60 e = true) (ha : apt d e = true) : Feq false d e μ = okR (.bl (decide (d = e))) μ := by
  rw [f_eqG hd he ha, if_neg (by decide), beq_dec]
theorem f_neD {d e : D} {μ : Store} (hd : shp 60 d = true) (he : shp 60 e = true) (ha : apt d e = true) : Feq true d e μ = okR (.bl (!decide (d = e))) μ := by
  rw [f_eqG hd he ha, if_pos rfl, beq_dec]
theorem any_apt {n m : Nat} {d : D} (hd : shp m d = true) : ∀ {xs : List D}, shps n xs = true → (∀ x ∈ xs, apt x d = true) → ((pyDs xs).any fun z => PyData.eqv z (pyD d)) = decide (d ∈ xs)
  | [], _, _ => by simp [pyDs]
  | x :: r, h, a => by
    simp only [shps, Bool.and_eq_true] at h
    rw [pyDs, List.any_cons, any_apt hd h.2 (fun y hy => a y (List.mem_cons_of_mem _ hy)), eqv_apt h.1 hd (a x List.mem_cons_self), beq_dec]
    by_cases q : x = d
    · subst q; simp
    · have q' : ¬ d = x := fun z => q z.symm
      simp [q, q']
theorem f_inT {neg : Bool} {d : D} {xs : List D} {μ : Store} (hd : shp 60 d = true) (hx : shps 59 xs = true) (ha : ∀ x ∈ xs, apt x d = true) : Fin neg d (.tup xs) μ = okR (.bl (if neg = true then !decide (d ∈ xs) else decide (d ∈ xs))) μ := by
  show (match toPyS μ d, toPyS μ (.tup xs) with
    | some p, some (.list ds) => if SeqAt.shaped p = true ∧ SeqAt.shaped (.list ds) = true then okR (.bl (if neg then !ds.any fun z => PyData.eqv z p else ds.any fun z => PyData.eqv z p)) μ else none
    | some p, some (.tuple ds) => if SeqAt.shaped p = true ∧ SeqAt.shaped (.tuple ds) = true then okR (.bl (if neg then !ds.any fun z => PyData.eqv z p else ds.any fun z => PyData.eqv z p)) μ else none
    | _, _ => none) = _
  have h2 : shp 60 (.tup xs) = true := by simp only [shp]; exact hx
  simp only [toPyS_shp hd, toPyS_shp h2, pyD]
  have h3 := shaped_shp h2
  simp only [pyD] at h3
  rw [if_pos ⟨shaped_shp hd, h3⟩, any_apt hd hx ha]
theorem shps_all {n : Nat} : ∀ {xs : List D}, shps n xs = true ↔ ∀ x ∈ xs, shp n x = true
  | [] => by simp [shps]
  | x :: r => by simp only [shps, Bool.and_eq_true, shps_all (xs := r), List.mem_cons, forall_eq_or_imp]
/-! slices -/
theorem cut_drop {α : Type} {xs : List α} {n : Nat} : cutD xs (some (n : Int)) none = xs.drop n := by
  unfold cutD
  rw [HT.sIx_nat, HT.sIx_none]
  by_cases h : n ≤ xs.length
  · rw [Nat.min_eq_left h, List.take_of_length_le (by rw [List.length_drop]; omega)]
  · rw [Nat.min_eq_right (by omega), List.drop_of_length_le (Nat.le_refl _), List.drop_of_length_le (by omega)]
    simp
theorem cut_take {α : Type} {xs : List α} {n : Nat} : cutD xs none (some (n : Int)) = xs.take n := by
  unfold cutD
  rw [HT.sIx_nat, HT.sIx_none, List.drop_zero, Nat.sub_zero]
  by_cases h : n ≤ xs.length
  · rw [Nat.min_eq_left h]
  · rw [Nat.min_eq_right (by omega), List.take_of_length_le (Nat.le_refl _), List.take_of_length_le (by omega)]
theorem f_addT' {xs ys : List D} {ν : Store} (h : xs.length + ys.length ≤ 1000000) : Fadd (.tup xs) (.tup ys) ν = okR (.tup (xs ++ ys)) ν := by
  show (if xs.length + ys.length ≤ sizeLine then okR (.tup (xs ++ ys)) ν else none) = _
  rw [if_pos (size_ok h)]
theorem f_addL' {xs ys : List D} {ν : Store} (h : xs.length + ys.length ≤ 1000000) : Fadd (.lst xs) (.lst ys) ν = okR (.lst (xs ++ ys)) ν := by
  show (if xs.length + ys.length ≤ sizeLine then okR (.lst (xs ++ ys)) ν else none) = _
  rw [if_pos (size_ok h)]
end DM

/-! x[::-1] of tuples and lists -/
namespace HT
open PySem PySem.Spec PyProof.Rows L2
section
variable {prog : Program} {w : World} {A : Around} {E : Value → Shared → Prop} {s : Shared}
theorem adjust_rev (n : Nat) : Builtin.Slice.sliceAdjust none none (-1) (n : Int) = ((n : Int) - 1, -1) := by
  unfold Builtin.Slice.sliceAdjust
  simp
theorem places_rev (n : Nat) : Builtin.Slice.slicePlaces ((n : Int) - 1) (-1) (-1) = n := by
  unfold Builtin.Slice.slicePlaces
  simp
  split <;> omega
theorem sliceApplied_rev {sl : Addr} {vs : Value} {n : Nat} {Q : Int × Int × Nat → Shared → Prop} (hs : s.heap.IsSliceOf sl .none .none vs) (ps : IsPart vs (some (-1)))
    (h : Q ((n : Int) - 1, -1, n) s) : wpAny (model prog w) A (Builtin.Slice.sliceApplied (.ref sl) (pure (n : Int))) Q E s := by
  obtain ⟨os, hos, hcs, hds⟩ := id hs
  unfold Builtin.Slice.sliceApplied Builtin.Slice.sliceFields
  refine wpAny_bind (wpAny_bind (wpAny_field hos hds (x := .none) rfl (wpAny_bind (wpAny_field hos hds (x := .none) rfl (wpAny_bind (wpAny_field hos hds (x := vs) rfl (wpAny_pure ?_)))))))
  refine wpAny_bind (slicePart_ ps ?_)
  show wpAny _ _ (if ((-1 : Int) == 0) = true then _ else _) _ _ s
  rw [if_neg (by decide)]
  refine wpAny_bind (slicePart_none (wpAny_bind (slicePart_none (wpAny_bind (wpAny_pure ?_)))))
  show wpAny _ _ (match Builtin.Slice.sliceAdjust none none (-1) (n : Int) with | (lo, hi) => pure (lo, (-1 : Int), Builtin.Slice.slicePlaces lo hi (-1))) _ _ s
  rw [adjust_rev n]
  show wpAny _ _ (pure ((n : Int) - 1, (-1 : Int), Builtin.Slice.slicePlaces ((n : Int) - 1) (-1) (-1))) _ _ s
  rw [places_rev]
  exact wpAny_pure h
theorem pick_rev (xs : Array Value) : ((List.range xs.size).filterMap fun (m : Nat) => xs[((xs.size : Int) - 1 + (m : Int) * (-1)).toNat]?).toArray = xs.toList.reverse.toArray := by
  have e : (fun (m : Nat) => xs[((xs.size : Int) - 1 + (m : Int) * (-1)).toNat]?) = (xs[·]?) ∘ fun m => xs.size - 1 - m := by
    funext m
    show xs[((xs.size : Int) - 1 + (m : Int) * (-1)).toNat]? = xs[xs.size - 1 - m]?
    have : ((xs.size : Int) - 1 + (m : Int) * (-1)).toNat = xs.size - 1 - m := by omega
    rw [this]
  rw [e, ← List.filterMap_map, PySem.W.krv_range, List.filterMap_reverse, PySem.W.krv_all]
theorem getItem_tuple_rev {t sl : Addr} {items : Array Value} {vs : Value} {Q : Value → Shared → Prop} (ht : IsTup s.heap t items) (hs : s.heap.IsSliceOf sl .none .none vs) (ps : IsPart vs (some (-1)))
    (h : Q (.ref s.heap.objs.size) { s with heap := s.heap.push { cls := .type "tuple", data := .seq items.toList.reverse.toArray } })
    (hsz : items.size ≤ sizeLine) : wpAny (model prog w) A (getItem (.ref t) (.ref sl)) Q E s := by
  have htake : sizeOk (.seq items.toList.reverse.toArray) := by
    show items.toList.reverse.toArray.size ≤ sizeLine
    rw [List.size_toArray, List.length_reverse, Array.length_toList]
    omega
  obtain ⟨os, hos, hcs, hds⟩ := id hs
  have hTs : s.TypeIs (.ref sl) "slice" := ⟨os, hos, hcs⟩
  unfold getItem
  try with_reducible refine wpAny_holding ?_
  first | refine wpAny_bind (wpAny_pure ?_) | skip
  refine wpAny_bind (wpAny_sequenceKey ht.typeIs (by decide) ?_)
  refine wpAny_bind (wpAny_callSpecial?_slot (name := Str.ofString "__getitem__") ht.typeIs PyProof.Rows.slot_tuple_getitem
    (wpAny_call_entry PyProof.Rows.slot_tuple_getitem ht.typeIs entry_tuple_getitem ?_ (args_tuple_getitem _ _)))
  show wpAny _ _ (Builtin.Tuple.tupleItemsOf (.ref t) >>= _) _ _ s
  refine wpAny_bind (tupleItemsOf_ ht ?_)
  refine wpAny_bind (wpAny_typeOf hTs ?_)
  rw [if_pos (by decide)]
  refine wpAny_bind (sliceApplied_rev hs ps ?_)
  show wpAny _ _ (if (((items.size : Int) - 1) == 0 && (-1 : Int) == 1 && items.size == items.size) = true then _ else _) _ _ s
  rw [if_neg (by simp), pick_rev]
  first
    | exact wpAny_bind (m := Builtin.Tuple.tupleExact _) (wpAny_newObj_type (wpAny_pure ⟨_, rfl, wpAny_pure h⟩) htake)
    | exact wpAny_bind (m := Builtin.Tuple.tupleExact _) (wpAny_newObj_type (wpAny_bind (wpAny_pure (wpAny_pure ⟨_, rfl, wpAny_pure h⟩))) htake)
    | exact wpAny_bind (wpAny_bind (m := Builtin.Tuple.tupleExact _) (wpAny_newObj_type (wpAny_pure (wpAny_pure ⟨_, rfl, wpAny_pure h⟩)) htake))
    | exact wpAny_bind (wpAny_bind (m := Builtin.Tuple.tupleExact _) (wpAny_newObj_type (wpAny_pure ⟨_, rfl, wpAny_pure h⟩) htake))
end
end HT
namespace DM
open PySem PySem.Spec L2 PyProof.Rows
def Frev (d : D) (μ : Store) : Res D := match d with
  | .tup xs => okR (.tup xs.reverse) μ
  | .lst xs => okR (.lst xs.reverse) μ
  | _ => none
def tRev (K : PySem.W.Frag) (te : TE) : TE := fun σ H Q => te σ H fun x H1 => ∃ a xs, x = .ref a ∧ ((SqL K H1 a xs ∧ ∀ p, H1 p = none → Q (.ref p) (upd H1 p (.lst xs.reverse))) ∨ (SqT K H1 a xs ∧ ∀ p o, H1 p = none → o.dict = none → Q (.ref p) (upd H1 p (.frz o (.tup xs.reverse)))))
section
variable {X : Cx} {W : DW} {e : Expr} {E : CM D} {te : TE} {k : Nat} {p1 p2 p3 pos : Pos}
theorem pe_rev (he : PE X e te) : PE X (.Subscript e (.Slice none none (some (.UnaryOp .USub (.Constant (.int 1) k p1) p2)) p3) pos) (tRev X.K te) := by
  refine ⟨fun pins s σ H Q I h => ?_⟩
  refine Subscript_ (thn (he.run pins s σ H _ I h) fun v s1 ⟨x, H1, I1, r1, q1⟩ => ?_)
  obtain ⟨a, xs, ex, q⟩ := q1
  subst ex
  cases r1
  have hst : PO X (some (.UnaryOp .USub (.Constant (.int 1) k p1) p2)) (tPart (tUn (rU fun i => .int (-i)) (tC (.int 1)))) := po_some (pe_un un_neg pe_int)
  refine wpAny_Slice (thn (po_none.run pins s1 σ H1 (fun o H2 => o = none ∧ H2 = H1) I1 ⟨rfl, rfl⟩) fun vl s2 ⟨l, H2, I2, pl, el, e2⟩ => ?_)
  subst el e2
  refine thn (po_none.run pins s2 σ H2 (fun o H3 => o = none ∧ H3 = H2) I2 ⟨rfl, rfl⟩) fun vu s3 ⟨u, H3, I3, pu, eu, e3⟩ => ?_
  subst eu e3
  refine thn (hst.run pins s3 σ H3 (fun o H4 => o = some (-1) ∧ H4 = H3) I3 ⟨1, rfl, -1, rfl, rfl, rfl⟩) fun vs s4 ⟨o, H4, I4, ps, eo, e4⟩ => ?_
  subst eo e4
  have I5 : Inv X pins σ H4 { s4 with heap := s4.heap.push { cls := .type "slice", data := .fields #[vl, vu, vs] } } := I4.kept (t' := s4.toks) fun b ob q => Heap.get?_push_of_some _ q
  show wpAny (model X.prog X.w) X.A (subscriptTail e (.Slice none none (some (.UnaryOp .USub (.Constant (.int 1) k p1) p2)) p3) (.ref a) (.ref s4.heap.objs.size)) (EP X pins σ Q) X.xe { s4 with heap := s4.heap.push { cls := .type "slice", data := .fields #[vl, vu, vs] } }
  rcases q with ⟨hx, q⟩ | ⟨hx, q⟩
  · obtain ⟨its, r, ht, hz⟩ := I5.list hx
    have hlen := r.length
    refine tail_any (ops := [.ref a, .ref s4.heap.objs.size]) ht.isList.typeIs (PySem.slot_list_getitem.lookup) ?_ (by with_unfolding_all rfl)
    refine wpAny_getItem_list_slice ht.isList (Heap.IsSliceOf.new _ vl vu vs) pl pu ps (by decide) ?_ (by rw [List.size_toArray]; omega)
    rw [PySem.W.krv_pick]
    refine ⟨.ref _, _, I5.laid (t' := s4.toks) (o := .lst xs.reverse) (fun b ob q => Heap.get?_push_of_some _ q) (Nat.le_refl _) ?_, rfl, q _ (I5.hok.fresh (Nat.le_refl _))⟩
    exact ⟨by rw [List.length_reverse]; exact hz, _, 0, r.reverse, Heap.get?_push_size _ rfl⟩
  · obtain ⟨its, r, ht, hz⟩ := I5.tuple hx
    have hlen := r.length
    cases pl
    cases pu
    refine tail_any (ops := [.ref a, .ref s4.heap.objs.size]) ht.typeIs (PyProof.Rows.slot_tuple_getitem.lookup) ?_ (by with_unfolding_all rfl)
    refine HT.getItem_tuple_rev ht (Heap.IsSliceOf.new _ .none .none vs) ps ?_ (by rw [List.size_toArray]; omega)
    refine ⟨.ref _, upd H4 _ (.frz { cls := .type "tuple", data := .seq its.reverse.toArray } (.tup xs.reverse)), I5.laid (t' := s4.toks) (fun b ob q => Heap.get?_push_of_some _ q) (Nat.le_refl _) ?_, rfl, q _ _ (I5.hok.fresh (Nat.le_refl _)) rfl⟩
    exact ⟨Heap.get?_push_size _ rfl, by rw [List.length_reverse]; exact hz, _, r.reverse, PyProof.Rows.IsTup.new _ _⟩
theorem VRs.rev {K : PySem.W.Frag} {ι : List Addr} {H : Hp} : ∀ {vs : List V} {ds : List D}, VRs K ι H vs ds → VRs K ι H vs.reverse ds.reverse
  | _, _, .nil => .nil
  | _, _, .cons h r => by
    rw [List.reverse_cons, List.reverse_cons]
    exact (VRs.rev r).append (.cons h .nil)
theorem d_rev (he : PE X e (tE X.K W E)) : PE X (.Subscript e (.Slice none none (some (.UnaryOp .USub (.Constant (.int 1) k p1) p2)) p3) pos) (tE X.K W (e1 Frev E)) :=
  (pe_rev he).imp fun σ H Q ⟨ρ, ι, μ, sr, wf, h⟩ => by
    refine tG.mono (PostG.bind sr wf h) ?_
    rintro x H1 ⟨ι1, μ1, d, l1, w1, vx, h1⟩
    cases vx with
    | tup ht r =>
      refine ⟨_, _, rfl, .inr ⟨ht.sq, fun p o hp ho => ?_⟩⟩
      refine h1.ok (Le.laid hp) (w1.laid hp) ?_
      exact .tup (.inl ⟨⟨o, upd_same, ho⟩, w1.out hp⟩) ((r.mono (Le.laid hp)).rev)
    | lst ht r =>
      refine ⟨_, _, rfl, .inl ⟨ht.sq, fun p hp => ?_⟩⟩
      refine h1.ok (Le.laid hp) (w1.laid hp) ?_
      exact .lst ⟨upd_same, w1.out hp⟩ ((r.mono (Le.laid hp)).rev)
    | _ => exact h1.elim
end
end DM

/-! repr of plain data in general -/
namespace DM
open PySem PySem.Spec L2
mutual
/-- all ints are of at most so many digits -/
def sml (k : Nat) : D → Bool
  | .int i => decide (i.natAbs < 10 ^ k)
  | .tup xs => smls k xs
  | .lst xs => smls k xs
  | .fl xs => smls k xs
  | _ => true
def smls (k : Nat) : List D → Bool
  | [] => true
  | x :: r => sml k x && smls k r
end
mutual
/-- no repr is longer than this -/
def rpn (k : Nat) : D → Nat
  | .int _ => k + 1
  | .str x => 10 * x.length + 8
  | .tup xs => rpns k xs + 3
  | .lst xs => rpns k xs + 3
  | .fl xs => rpns k xs + 3
  | _ => 8
def rpns (k : Nat) : List D → Nat
  | [] => 0
  | x :: r => rpn k x + 2 + rpns k r
end
theorem pyDs_len : ∀ xs : List D, (pyDs xs).length = xs.length
  | [] => rfl
  | x :: r => by simp only [pyDs, List.length_cons, pyDs_len r]
mutual
theorem shown_rpn {k : Nat} (hk : 1 ≤ k) : ∀ {n : Nat} {d : D}, shp n d = true → sml k d = true → (pyD d).shown.length ≤ rpn k d
  | _, .non, _, _ => by
    have e : (PyData.shown .none).length = 4 := rfl
    simp only [pyD, rpn]; omega
  | _, .bl b, _, _ => by
    have e : (PyData.shown (.bool b)).length ≤ 5 := by cases b <;> decide
    simp only [pyD, rpn]; omega
  | _, .int i, _, h => by
    simp only [sml, decide_eq_true_eq] at h
    have e := int_text_length_le10 (k := k) hk h
    simp only [pyD, rpn]
    show (Str.ofString (toString i)).length ≤ _
    rw [ofString_length]; exact e
  | _, .str x, h, _ => by
    have hl : PyData.leavesShort 8 (.str x) = true := PyData.leavesShort_of_canLay0 8 (.str x) (by simpa [shp, PyData.canLay0] using h) rfl
    have e := PyData.shown_le 8 (by decide) (.str x) hl
    have e2 : x.length = x.cps.size := rfl
    simp only [pyD, rpn, PyData.weight] at e ⊢
    omega
  | 0, .tup xs, h, _ => by simp [shp] at h
  | n + 1, .tup xs, h, h' => by
    simp only [shp] at h
    simp only [sml] at h'
    have h1 := shown_rpns hk h h'
    have h2 := tupleText_len_le (PyData.shownAll (pyDs xs))
    have h3 := PyData.shownAll_length (pyDs xs)
    have h4 := pyDs_len xs
    simp only [pyD, rpn, PyData.shown]
    omega
  | 0, .lst xs, h, _ => by simp [shp] at h
  | n + 1, .lst xs, h, h' => by
    simp only [shp] at h
    simp only [sml] at h'
    have h1 := shown_rpns hk h h'
    have h2 := listText_len_le (PyData.shownAll (pyDs xs))
    have h3 := PyData.shownAll_length (pyDs xs)
    have h4 := pyDs_len xs
    simp only [pyD, rpn, PyData.shown]
    omega
  | 0, .fl xs, h, _ => by simp [shp] at h
  | n + 1, .fl xs, h, h' => by
    simp only [shp] at h
    simp only [sml] at h'
    have h1 := shown_rpns hk h h'
    have h2 := listText_len_le (PyData.shownAll (pyDs xs))
    have h3 := PyData.shownAll_length (pyDs xs)
    have h4 := pyDs_len xs
    simp only [pyD, rpn, PyData.shown]
    omega
  | _, .ref _, h, _ => by simp [shp] at h
theorem shown_rpns {k : Nat} (hk : 1 ≤ k) : ∀ {n : Nat} {ds : List D}, shps n ds = true → smls k ds = true → ((PyData.shownAll (pyDs ds)).map (·.length)).sum + 2 * ds.length ≤ rpns k ds
  | _, [], _, _ => by simp [pyDs, PyData.shownAll, rpns]
  | n, d :: r, h, h' => by
    simp only [shps, Bool.and_eq_true] at h
    simp only [smls, Bool.and_eq_true] at h'
    have h1 := shown_rpn hk h.1 h'.1
    have h2 := shown_rpns hk h.2 h'.2
    simp only [pyDs, PyData.shownAll, rpns, List.map_cons, List.sum_cons, List.length_cons]
    omega
end
theorem log_lt {k i : Nat} (hk : k ≤ 500) (h : i < 10 ^ k) : i.log2 < 1920 := by
  by_cases h0 : i = 0
  · subst h0; decide
  · rw [Nat.log2_lt h0]
    exact Nat.lt_of_lt_of_le h (Nat.le_trans (Nat.pow_le_pow_right (by decide) hk) (by decide +kernel))
mutual
theorem showable_sml {k : Nat} (hk : k ≤ 500) : ∀ {d : D}, sml k d = true → (pyD d).showable = true
  | .non, _ => by simp [pyD, PyData.showable]
  | .bl b, _ => by simp [pyD, PyData.showable]
  | .int i, h => by
    simp only [sml, decide_eq_true_eq] at h
    simp only [pyD, PyData.showable, decide_eq_true_eq]
    exact log_lt hk h
  | .str x, _ => by simp [pyD, PyData.showable]
  | .tup xs, h => by
    simp only [sml] at h
    simp only [pyD, PyData.showable, showables_smls hk h]
  | .lst xs, h => by
    simp only [sml] at h
    simp only [pyD, PyData.showable, showables_smls hk h]
  | .fl xs, h => by
    simp only [sml] at h
    simp only [pyD, PyData.showable, showables_smls hk h]
  | .ref _, _ => by simp [pyD, PyData.showable]
theorem showables_smls {k : Nat} (hk : k ≤ 500) : ∀ {ds : List D}, smls k ds = true → PyData.showableAll (pyDs ds) = true
  | [], _ => by simp [pyDs, PyData.showableAll]
  | d :: r, h => by
    simp only [smls, Bool.and_eq_true] at h
    simp only [pyDs, PyData.showableAll, showable_sml hk h.1, showables_smls hk h.2, Bool.and_self]
end
/-- repr of data -/
def reprD (d : D) : Str := (pyD d).shown
end DM

/-! enumerate and zip over lists and tuples -/
namespace PySem
open Sem (wp)
open AutoSeq1 (wpAny_loadPart')
end PySem
namespace DM
open PySem PySem.Spec L2 PyProof.Rows
inductive Sk where
  | l | t
def sqA (K : PySem.W.Frag) : Sk → Hp → Addr → List V → Prop
  | .l => SqL K
  | .t => SqT K
def onA : Sk → Heap → Addr → Addr → Nat → Prop
  | .l, h, it, a, i => h.IsListIter it a i
  | .t, h, it, a, i => h.IsTupleIter it a i
def isA : Sk → Heap → Addr → Array Value → Prop
  | .l, h, a, its => h.IsList a its
  | .t, h, a, its => h.IsTuple a its
def itO : Sk → Addr → Obj
  | .l, a => { cls := .type "list_iterator", data := .fields #[.ref a, .int 0 0] }
  | .t, a => { cls := .type "tuple_iterator", data := .fields #[.ref a, .int 0 0] }
def clsA : Sk → String
  | .l => "list"
  | .t => "tuple"
def clsI : Sk → String
  | .l => "list_iterator"
  | .t => "tuple_iterator"
section
variable {X : Cx} {pins : List (Addr × Obj)} {σ : L2.St} {H : Hp} {s : Shared} {k : Sk} {a it : Addr} {h h' : Heap} {i : Nat}
theorem sq_items {xs : List V} (I : Inv X pins σ H s) (q : sqA X.K k H a xs) : ∃ its : List Value, Vals xs its ∧ isA k s.heap a its.toArray := by
  cases k with
  | l => obtain ⟨its, r, p, _⟩ := I.list q; exact ⟨its, r, p.isList⟩
  | t => obtain ⟨its, r, p, _⟩ := I.tuple q; exact ⟨its, r, p⟩
theorem sq_inj {xs ys : List V} (I : Inv X pins σ H s) (q : sqA X.K k H a xs) (q' : sqA X.K k H a ys) : xs = ys := by
  cases k with
  | l => exact I.list_inj q q'
  | t => exact I.tuple_inj q q'
theorem on_obj (o : onA k h it a i) : ∃ ob, h.get? it = some ob ∧ ob.cls = .type (clsI k) ∧ ob.data = .fields #[.ref a, .int i 0] := by cases k <;> exact o
theorem is_obj {its : Array Value} (o : isA k h a its) : ∃ ob, h.get? a = some ob ∧ ob.cls = .type (clsA k) := by
  cases k with
  | l => obtain ⟨ob, e, c, _⟩ := o; exact ⟨ob, e, c⟩
  | t => obtain ⟨ob, e, c, _⟩ := o; exact ⟨ob, e, c⟩
theorem on_keep (o : onA k h it a i) (q : ∀ ob, h.get? it = some ob → h'.get? it = some ob) : onA k h' it a i := by
  cases k with
  | l => exact Heap.IsListIter.at o q
  | t => exact Heap.IsTupleIter.at o q
theorem on_new (e : h.get? it = some (itO k a)) : onA k h it a 0 := by cases k <;> exact ⟨_, e, rfl, rfl⟩
theorem draws_A {prog : Program} {w : World} {A : Around} (hh : A.handled = none) (k : Sk) (it a : Addr) (hne : a ≠ it) (its : Array Value) : Draws prog w A it [it, a] its.size (fun i v => its[i]? = some v) (fun i h => onA k h it a i ∧ isA k h a its) := by
  cases k with
  | l => exact Draws.list hh it a hne its
  | t => exact Draws.tuple hh it a hne its
theorem begins_A (k : Sk) (a : Addr) (its : Array Value) : Begins (.ref a) (itO k a) (fun h => isA k h a its) := by
  cases k with
  | l => exact begins_list a its
  | t => exact begins_tuple a its
theorem cls_ne {x y : Addr} {o u : Obj} {p q : String} (e : h.get? x = some o) (e' : h.get? y = some u) (c : o.cls = .type p) (c' : u.cls = .type q) (n : p ≠ q) : x ≠ y := fun z => by
  subst z
  rw [e] at e'
  cases e'
  rw [c] at c'
  exact n (by injection c')
end
/-! ### enumerate -/
def IteA (K : PySem.W.Frag) (k : Sk) (a : Addr) (n : Nat) : It :=
  ⟨fun i H => ∃ (xs : List V) (x : V), sqA K k H a xs ∧ xs.length = n ∧ xs[i]? = some x,
   fun i H v H' => ∃ T o x, v = .ref T ∧ H T = none ∧ o.dict = none ∧ H' = upd H T (.frz o (.tup [.int (i : Nat), x])) ∧ ∀ xs, sqA K k H a xs → xs[i]? = some x,
   fun i H => ∃ xs : List V, sqA K k H a xs ∧ xs.length = n ∧ n ≤ i⟩
def iEnumA (K : PySem.W.Frag) (ta : TA) : TI := fun σ H R => ta σ H fun vs H1 => ∃ k a xs, vs = [.ref a] ∧ sqA K k H1 a xs ∧ R (IteA K k a xs.length) H1
/-! ### the data -/
def seqD (μ : Store) : D → Option (List D × (Store → Bool))
  | .lst xs => some (xs, anyG)
  | .fl xs => some (xs, anyG)
  | .tup xs => some (xs, anyG)
  | .ref c => match μ[c]? with
    | some (.lst xs) => some (xs, isLst c xs)
    | _ => none
  | _ => none
/-- a walked thing stands at a, whatever is changed as long as the guard holds -/
def SqOk (K : PySem.W.Frag) (ι0 : List Addr) (H0 : Hp) (k : Sk) (a : Addr) (xs : List D) (g : Store → Bool) : Prop :=
  ∀ ι μ H, Le ι0 H0 ι H → WF K ι μ H → g μ = true → ∃ vs, sqA K k H a vs ∧ VRs K ι H vs xs
theorem seqD_ok {K : PySem.W.Frag} {ι : List Addr} {H : Hp} {μ : Store} {x : V} {d : D} {xs : List D} {g : Store → Bool} (w : WF K ι μ H) (v : VR K ι H x d) (h : seqD μ d = some (xs, g)) : ∃ k a, x = .ref a ∧ SqOk K ι H k a xs g ∧ g μ = true := by
  cases v with
  | lst ht r => cases h; exact ⟨.l, _, rfl, fun ι' μ' H' l w' _ => ⟨_, (ht.mono l).sq, r.mono l⟩, rfl⟩
  | fl ht r => cases h; exact ⟨.l, _, rfl, fun ι' μ' H' l w' _ => ⟨_, (ht.mono l).sq, r.mono l⟩, rfl⟩
  | tup ht r => cases h; exact ⟨.t, _, rfl, fun ι' μ' H' l w' _ => ⟨_, (ht.mono l).sq, r.mono l⟩, rfl⟩
  | ref hc =>
    rename_i a c
    have h' : (match μ[c]? with | some (Ob.lst xs) => some (xs, isLst c xs) | _ => none) = some (xs, g) := h
    match e : μ[c]?, h' with
    | some (.lst ys), h' =>
      cases h'
      refine ⟨.l, a, rfl, fun ι' μ' H' l w' gd => ?_, by unfold isLst; rw [e]; exact beqs_rfl _⟩
      have hc' := l.pre _ _ hc
      obtain ⟨o, ho, ro⟩ := w'.has hc'
      unfold isLst at gd
      rw [ho] at gd
      cases o with
      | lst zs =>
        have e0 : zs = xs := beqs_eq _ _ gd
        subst e0
        obtain ⟨vs, ea, r⟩ := ro
        exact ⟨vs, .inl (.inl ea), r⟩
      | _ => cases gd
  | _ => cases h
def enumD (xs : List D) : List D := xs.mapIdx fun i x => .tup [.int (i : Nat), x]
def iEnum (E : CM (List D)) : CM IV := E.bind fun ds _ μ => match ds with
  | [d] => match seqD μ d with
    | some (xs, g) => some (.ok (enumD xs, g), μ)
    | none => none
  | _ => none
/-! ### zip -/
def ItzA (K : PySem.W.Frag) (k k' : Sk) (a b : Addr) (n m : Nat) : It :=
  ⟨fun i H => ∃ (xs ys : List V) (x y : V), sqA K k H a xs ∧ sqA K k' H b ys ∧ xs.length = n ∧ ys.length = m ∧ xs[i]? = some x ∧ ys[i]? = some y,
   fun i H v H' => ∃ T o x y, v = .ref T ∧ H T = none ∧ o.dict = none ∧ H' = upd H T (.frz o (.tup [x, y])) ∧ (∀ xs, sqA K k H a xs → xs[i]? = some x) ∧ ∀ ys, sqA K k' H b ys → ys[i]? = some y,
   fun i H => ∃ xs ys : List V, sqA K k H a xs ∧ sqA K k' H b ys ∧ xs.length = n ∧ ys.length = m ∧ (n ≤ i ∨ m ≤ i)⟩
structure ZApt (z TI TO i1 i2 : Addr) : Prop where
  TIz : TI ≠ z
  TOz : TO ≠ z
  TITO : TI ≠ TO
  TIi1 : TI ≠ i1
  TIi2 : TI ≠ i2
  zi1 : z ≠ i1
  zi2 : z ≠ i2
  TOi1 : TO ≠ i1
  TOi2 : TO ≠ i2
  i12 : i1 ≠ i2
theorem turn_zipA {P : Program} {w : World} {K : PySem.W.Frag} {elts : List Expr} {kk : Nat} {tpos : Pos} (k k' : Sk) {a b z TI TO i1 i2 : Addr} (n m : Nat) (D : ZApt z TI TO i1 i2) (hTa : TO ≠ a) (hTb : TO ≠ b) :
    Turn P w K (.Tuple elts kk tpos) (ItzA K k k' a b n m) [z, TI, TO, i1, i2] z (fun i h => IsZip h z TI TO .none ∧ IsTupOf2 h TI (.ref i1) (.ref i2) ∧ (∃ x y, IsTupOf2 h TO x y) ∧ onA k h i1 a i ∧ onA k' h i2 b i ∧ i ≤ n ∧ i ≤ m) where
  mem := by simp
  obj := fun i h st c hc => by
    obtain ⟨hz, hTI, ⟨x, y, hTO⟩, o1, o2, _⟩ := st
    obtain ⟨ob1, e1, _, d1⟩ := on_obj o1
    obtain ⟨ob2, e2, _, d2⟩ := on_obj o2
    have e' : c = z ∨ c = TI ∨ c = TO ∨ c = i1 ∨ c = i2 := by simpa using hc
    rcases e' with q | q | q | q | q
    · rw [q]; exact ⟨_, hz, fun v q => nomatch q⟩
    · rw [q]; exact ⟨_, hTI, fun v q => nomatch q⟩
    · rw [q]; exact ⟨_, hTO, fun v q => nomatch q⟩
    · rw [q]; exact ⟨ob1, e1, fun v q => by rw [d1] at q; cases q⟩
    · rw [q]; exact ⟨ob2, e2, fun v q => by rw [d2] at q; cases q⟩
  keep := fun i h h' st q => by
    obtain ⟨hz, hTI, ⟨x, y, hTO⟩, h1, h2, hl⟩ := st
    exact ⟨q z (by simp) _ hz, q TI (by simp) _ hTI, ⟨x, y, q TO (by simp) _ hTO⟩, on_keep h1 fun o e => q i1 (by simp) o e, on_keep h2 fun o e => q i2 (by simp) o e, hl⟩
  item := by
    intro X hP hw hK hc i pins s σ H E I hf st hg
    subst hP hw hK
    obtain ⟨hz, hTI, ⟨x0, y0, hTO⟩, h1, h2, hin, him⟩ := st
    obtain ⟨xs, ys, x, y, hqx, hqy, hln, hlm, hx, hy⟩ := hg
    obtain ⟨its, rv, hs1⟩ := sq_items I hqx
    obtain ⟨its2, rv2, hs2⟩ := sq_items I hqy
    obtain ⟨u, hu, ru⟩ := rv.get hx
    obtain ⟨u2, hu2, ru2⟩ := rv2.get hy
    obtain ⟨oi1, ei1, ci1, _⟩ := on_obj h1
    obtain ⟨oi2, ei2, ci2, _⟩ := on_obj h2
    obtain ⟨oa, ea, ca⟩ := is_obj hs1
    obtain ⟨ob, eb, cb⟩ := is_obj hs2
    have ai1 : a ≠ i1 := cls_ne ea ei1 ca ci1 (by cases k <;> decide)
    have ai2 : a ≠ i2 := cls_ne ea ei2 ca ci2 (by cases k <;> cases k' <;> decide)
    have bi1 : b ≠ i1 := cls_ne eb ei1 cb ci1 (by cases k <;> cases k' <;> decide)
    have bi2 : b ≠ i2 := cls_ne eb ei2 cb ci2 (by cases k' <;> decide)
    have az : a ≠ z := cls_ne ea hz ca rfl (by cases k <;> decide)
    have bz : b ≠ z := cls_ne eb hz cb rfl (by cases k' <;> decide)
    have S : ZipSep2 z TI TO i1 i2 [i1, a] [i2, b] := ⟨D.TIz, D.TOz, D.TITO, D.TIi1, by simp, by simp; exact ⟨D.zi1, Ne.symm az⟩, by simp; exact ⟨D.TOi1, hTa⟩, D.TIi2, by simp, by simp; exact ⟨D.zi2, Ne.symm bz⟩, by simp; exact ⟨D.TOi2, hTb⟩, by simp; exact ⟨D.i12, Ne.symm bi1⟩, by simp; exact ⟨Ne.symm D.i12, Ne.symm ai2⟩⟩
    have hzl : z < s.heap.objs.size := Heap.lt_size hz
    have lt1 : i < its.toArray.size := by simpa using (List.getElem?_eq_some_iff.mp hu).1
    have lt2 : i < its2.toArray.size := by simpa using (List.getElem?_eq_some_iff.mp hu2).1
    refine wpAny_pyNext_zipD2_item S (draws_A (A := X.A.in1) (show X.A.in1.handled = none from I.ok.hd hc) k i1 a ai1 its.toArray) (draws_A (A := X.A.in1) (show X.A.in1.handled = none from I.ok.hd hc) k' i2 b bi2 its2.toArray) hz hTI hTO ⟨h1, hs1⟩ ⟨h2, hs2⟩ lt1 lt2 fun v1 v2 h' tk hv1 hv2 z' TO' st1 st2 hT hsz hk => ?_
    have e1 : v1 = u := by
      have : its[i]? = some v1 := by simpa using hv1
      rw [hu] at this
      exact (Option.some.inj this).symm
    have e2 : v2 = u2 := by
      have : its2[i]? = some v2 := by simpa using hv2
      rw [hu2] at this
      exact (Option.some.inj this).symm
    subst e1 e2
    refine ⟨_, rfl, wpAny_letOwnedTupleGo_zip (s := { s with heap := h', toks := tk }) z' fun h'' z'' sb => ?_⟩
    have hT2 : h''.get? s.heap.objs.size = some { cls := .type "tuple", data := .seq #[v1, v2] } := (sb.2 _ (Nat.ne_of_gt hzl)).trans hT
    have new : ObjOk X.prog X.w (upd H s.heap.objs.size (.frz { cls := .type "tuple", data := .seq #[v1, v2] } (.tup [x, y]))) h'' s.heap.objs.size (.frz { cls := .type "tuple", data := .seq #[v1, v2] } (.tup [x, y])) :=
      ⟨hT2, by show 2 ≤ sizeLine; decide, [v1, v2], .cons ru (.cons ru2 .nil), ⟨_, hT2, rfl, _, rfl⟩⟩
    have I1 : Inv X pins σ (upd H s.heap.objs.size (.frz { cls := .type "tuple", data := .seq #[v1, v2] } (.tup [x, y]))) { s with heap := h'', toks := tk } :=
      I.turnedNew (ch := [z, TI, TO, i1, i2]) (fun c o hb q => (sb.2 c (fun q' => hb (by simp [q']))).trans (hk c o (fun q' => hb (by simp [q'])) (fun q' => hb (by simp [q'])) (fun q' => hb (by simp [q'])) (fun q' => hb (by simp [q'])) q)) hf (Nat.le_refl _) new
    refine ⟨.ref s.heap.objs.size, _, I1, rfl, ⟨_, _, x, y, rfl, I.hok.fresh (Nat.le_refl _), rfl, rfl, fun l hl => by rw [sq_inj I hl hqx]; exact hx, fun l hl => by rw [sq_inj I hl hqy]; exact hy⟩, ⟨z'', ?_, ⟨v1, v2, ?_⟩, ?_, ?_, ?_, ?_⟩, fun c hcm => ?_⟩
    · exact (sb.2 _ D.TIz).trans (hk _ _ D.TIz D.TITO D.TIi1 D.TIi2 hTI)
    · exact (sb.2 _ D.TOz).trans TO'
    · exact on_keep st1.1 fun o q => (sb.2 _ (Ne.symm D.zi1)).trans q
    · exact on_keep st2.1 fun o q => (sb.2 _ (Ne.symm D.zi2)).trans q
    · have := (List.getElem?_eq_some_iff.mp hx).1; omega
    · have := (List.getElem?_eq_some_iff.mp hy).1; omega
    · have hlt : c < s.heap.objs.size := by
        have e' : c = z ∨ c = TI ∨ c = TO ∨ c = i1 ∨ c = i2 := by simpa using hcm
        rcases e' with q | q | q | q | q
        · rw [q]; exact hzl
        · rw [q]; exact Heap.lt_size hTI
        · rw [q]; exact Heap.lt_size hTO
        · rw [q]; exact Heap.lt_size ei1
        · rw [q]; exact Heap.lt_size ei2
      rw [upd_ne (Nat.ne_of_lt hlt)]
      exact (hf c hcm).1
  done := by
    intro X hP hw hK hc i pins s σ H E I hf st hg
    subst hP hw hK
    obtain ⟨hz, hTI, ⟨x0, y0, hTO⟩, h1, h2, hin, him⟩ := st
    obtain ⟨xs, ys, hqx, hqy, hln, hlm, hend⟩ := hg
    obtain ⟨its, rv, hs1⟩ := sq_items I hqx
    obtain ⟨its2, rv2, hs2⟩ := sq_items I hqy
    obtain ⟨oi1, ei1, ci1, _⟩ := on_obj h1
    obtain ⟨oi2, ei2, ci2, _⟩ := on_obj h2
    obtain ⟨oa, ea, ca⟩ := is_obj hs1
    obtain ⟨ob, eb, cb⟩ := is_obj hs2
    have ai1 : a ≠ i1 := cls_ne ea ei1 ca ci1 (by cases k <;> decide)
    have ai2 : a ≠ i2 := cls_ne ea ei2 ca ci2 (by cases k <;> cases k' <;> decide)
    have bi1 : b ≠ i1 := cls_ne eb ei1 cb ci1 (by cases k <;> cases k' <;> decide)
    have bi2 : b ≠ i2 := cls_ne eb ei2 cb ci2 (by cases k' <;> decide)
    have az : a ≠ z := cls_ne ea hz ca rfl (by cases k <;> decide)
    have bz : b ≠ z := cls_ne eb hz cb rfl (by cases k' <;> decide)
    have S : ZipSep2 z TI TO i1 i2 [i1, a] [i2, b] := ⟨D.TIz, D.TOz, D.TITO, D.TIi1, by simp, by simp; exact ⟨D.zi1, Ne.symm az⟩, by simp; exact ⟨D.TOi1, hTa⟩, D.TIi2, by simp, by simp; exact ⟨D.zi2, Ne.symm bz⟩, by simp; exact ⟨D.TOi2, hTb⟩, by simp; exact ⟨D.i12, Ne.symm bi1⟩, by simp; exact ⟨Ne.symm D.i12, Ne.symm ai2⟩⟩
    have l1 := rv.length
    have l2 := rv2.length
    have s1 : its.toArray.size = n := by rw [List.size_toArray]; omega
    have s2 : its2.toArray.size = m := by rw [List.size_toArray]; omega
    refine wpAny_pyNext_zipD2_end S (draws_A (A := X.A.in1) (show X.A.in1.handled = none from I.ok.hd hc) k i1 a ai1 its.toArray) (draws_A (A := X.A.in1) (show X.A.in1.handled = none from I.ok.hd hc) k' i2 b bi2 its2.toArray) hz hTI hTO ⟨h1, hs1⟩ ⟨h2, hs2⟩ (by omega) (by omega) (by omega) fun h' tk hk => ⟨rfl, I.turnedL (ch := [z, TI, TO, i1, i2]) (fun c o hb q =>
      hk c o (fun q' => hb (by simp [q'])) (fun q' => hb (by simp [q'])) (fun q' => hb (by simp [q'])) (fun q' => hb (by simp [q'])) q) hf⟩
  self := fun A i s Q E st h => wpAny_pyIter_zip st.1 h
def iZipA (K : PySem.W.Frag) (ta : TA) : TI := fun σ H R => ta σ H fun vs H1 => ∃ k k' a b xs ys, vs = [.ref a, .ref b] ∧ sqA K k H1 a xs ∧ sqA K k' H1 b ys ∧ R (ItzA K k k' a b xs.length ys.length) H1
theorem pi_zipA {X : Cx} {e e2 : Expr} {ta : TA} {p pos tpos : Pos} {elts : List Expr} {kk : Nat} (hg : Gl X "zip") (hm : X.mg "zip" = none) (ha : PA X [e, e2] ta)
    (hs : starEach [e, e2] X.env = (false, eval e X.env) :: starEach [e2] X.env := by rfl) (hpl : (backTo pos (starEach [e2] X.env)).any (·.1) = false := by rfl) :
    PI X (.Tuple elts kk tpos) (.Call (.Name "zip" p) [e, e2] [] pos) (iZipA X.K ta) := by
  refine ⟨fun pins s σ H R I h => ?_⟩
  refine Call_ (ld_blt I hg hm PyProof.Rows.boot_zip (PyProof.Rows.callWith_type1 (thn (ha.run pos pins s σ H _ I h) fun us s1 ⟨vs, H1, I1, r1, q1⟩ => ?_) hs hpl))
  obtain ⟨k, k', a, b, xs, ys, ex, hqx, hqy, q⟩ := q1
  subst ex
  cases r1 with
  | cons r rr =>
    cases rr with
    | cons r' rr =>
      cases rr
      cases r
      cases r'
      obtain ⟨its, rv, hs1⟩ := sq_items I1 hqx
      obtain ⟨its2, rv2, hs2⟩ := sq_items I1 hqy
      have la : a < s1.heap.objs.size := by obtain ⟨o, e, _⟩ := is_obj hs1; exact Heap.lt_size e
      have lb : b < s1.heap.objs.size := by obtain ⟨o, e, _⟩ := is_obj hs2; exact Heap.lt_size e
      refine zip_begins2 (begins_A k a its.toArray) (begins_A k' b its2.toArray) hs1 hs2 fun h' hz hTI hTO h1 h2 hsz hk => wpAny_pyIter_zip hz ?_
      have I2 : Inv X pins σ H1 { s1 with heap := h' } := I1.kept (t' := s1.toks) hk
      generalize hN : s1.heap.objs.size = N at *
      have ne : ∀ i j : Nat, i ≠ j → N + i ≠ N + j := fun i j h e => h (Nat.add_left_cancel e)
      have D : ZApt (N + 4) (N + 2) (N + 3) N (N + 1) := ⟨ne _ _ (by decide), ne _ _ (by decide), ne _ _ (by decide), ne _ 0 (by decide), ne _ _ (by decide), ne _ 0 (by decide), ne _ _ (by decide), ne _ 0 (by decide), ne _ _ (by decide), ne 0 _ (by decide)⟩
      refine ⟨N + 4, [N + 4, N + 2, N + 3, N, N + 1], _, _, H1, rfl, I2, turn_zipA k k' xs.length ys.length D (Nat.ne_of_gt (Nat.lt_of_lt_of_le la (Nat.le_add_right _ _))) (Nat.ne_of_gt (Nat.lt_of_lt_of_le lb (Nat.le_add_right _ _))), ⟨hz, hTI, ⟨_, _, hTO⟩, on_new h1, on_new h2, Nat.zero_le _, Nat.zero_le _⟩, fun c hcm => ?_, q⟩
      have e' : c = N + 4 ∨ c = N + 2 ∨ c = N + 3 ∨ c = N ∨ c = N + 1 := by simpa using hcm
      have hle : s1.heap.objs.size ≤ c := by
        rw [hN]
        rcases e' with z | z | z | z | z
        · rw [z]; exact Nat.le_add_right _ _
        · rw [z]; exact Nat.le_add_right _ _
        · rw [z]; exact Nat.le_add_right _ _
        · rw [z]; exact Nat.le_refl _
        · rw [z]; exact Nat.le_add_right _ _
      exact I1.fpOk hle (I1.hok.fresh hle)
def zipD (xs ys : List D) : List D := List.zipWith (fun x y => .tup [x, y]) xs ys
def iZip (E : CM (List D)) : CM IV := E.bind fun ds _ μ => match ds with
  | [d, e] => match seqD μ d, seqD μ e with
    | some (xs, g), some (ys, g') => some (.ok (zipD xs ys, fun ν => g ν && g' ν), μ)
    | _, _ => none
  | _ => none
theorem itr_zip {K : PySem.W.Frag} {ι : List Addr} {H : Hp} {k k' : Sk} {a b : Addr} {xs ys : List D} {g g' : Store → Bool} (h : SqOk K ι H k a xs g) (h' : SqOk K ι H k' b ys g') : ItR K ι H (ItzA K k k' a b xs.length ys.length) (zipD xs ys, fun ν => g ν && g' ν) := by
  intro i ι' μ H' l w gd
  simp only [Bool.and_eq_true] at gd
  obtain ⟨vs, hq, r⟩ := h ι' μ H' l w gd.1
  obtain ⟨ws, hq', r'⟩ := h' ι' μ H' l w gd.2
  refine ⟨fun d e => ?_, fun e => ⟨vs, ws, hq, hq', r.length, r'.length, by simp only [zipD, List.length_zipWith] at e; omega⟩⟩
  simp only [zipD] at e
  rw [List.getElem?_zipWith] at e
  match e1 : xs[i]?, e2 : ys[i]?, e with
  | some x, some y, e =>
    cases e
    obtain ⟨v, ev, rv⟩ := r.get e1
    obtain ⟨u, eu, ru⟩ := r'.get e2
    refine ⟨⟨vs, ws, v, u, hq, hq', r.length, r'.length, ev, eu⟩, fun z H'' q => ?_⟩
    obtain ⟨T, o, x', y', rfl, hT, ho, rfl, hx', hy'⟩ := q
    have := hx' vs hq
    rw [ev] at this
    cases this
    have := hy' ws hq'
    rw [eu] at this
    cases this
    exact ⟨Le.laid hT, w.laid hT, .tup (.inl ⟨⟨o, upd_same, ho⟩, w.out hT⟩) (.cons (rv.mono (Le.laid hT)) (.cons (ru.mono (Le.laid hT)) .nil))⟩
theorem di_zip {X : Cx} {W : DW} {e e2 : Expr} {As : CM (List D)} {p pos tpos : Pos} {elts : List Expr} {kk : Nat} (hg : Gl X "zip") (hm : X.mg "zip" = none) (ha : PA X [e, e2] (tA X.K W As))
    (hs : starEach [e, e2] X.env = (false, eval e X.env) :: starEach [e2] X.env := by rfl) (hpl : (backTo pos (starEach [e2] X.env)).any (·.1) = false := by rfl) :
    PI X (.Tuple elts kk tpos) (.Call (.Name "zip" p) [e, e2] [] pos) (tI X.K W (iZip As)) :=
  (pi_zipA hg hm ha hs hpl).imp fun σ H R ⟨ρ, ι, μ, sr, wf, h⟩ => by
    refine tG.mono (PostG.bind sr wf h) ?_
    rintro vs H1 ⟨ι1, μ1, ds, l1, w1, vx, h1⟩
    match ds, vx, h1 with
    | [d, e], vx, h1 =>
      obtain ⟨x, y, rfl, vd, ve⟩ := vx.two
      dsimp only at h1
      match hsq : seqD μ1 d, hsq' : seqD μ1 e, h1 with
      | some (xs, g), some (ys, g'), h1 =>
        obtain ⟨k, a, rfl, hok, hgd⟩ := seqD_ok w1 vd hsq
        obtain ⟨k', b, rfl, hok', hgd'⟩ := seqD_ok w1 ve hsq'
        obtain ⟨ws, hq, r⟩ := hok ι1 μ1 H1 (Le.refl _ _) w1 hgd
        obtain ⟨ws', hq', r'⟩ := hok' ι1 μ1 H1 (Le.refl _ _) w1 hgd'
        refine ⟨k, k', a, b, ws, ws', rfl, hq, hq', ?_⟩
        rw [r.length, r'.length]
        exact h1.ok0 w1 (itr_zip hok hok')
end DM

/-! dict comprehensions, x, *y = e, a = b = e, a try that runs through -/
namespace DM
open PySem PySem.Spec L2 PyProof.Rows
def dcLoop (gd : Store → Bool) (g : D → Rho → Option Rho) (T : CM Bool) (A B : CM D) (c : Nat) : List D → CM D
  | [] => fun _ μ => if gd μ = true then okR (.ref c) μ else none
  | d :: r => fun ρ μ => if gd μ = true then (match g d ρ with
      | some ρ1 => match T ρ1 μ with
        | some (.ok true, μ1) => match A ρ1 μ1 with
          | some (.ok y, μ2) => match B ρ1 μ2 with
            | some (.ok z, μ3) => match μ3[c]?, keyD y with
              | some (.dct kvs), some k => if kvs.length < sizeLine then dcLoop gd g T A B c r ρ (μ3.set c (.dct (putKD kvs k z))) else none
              | _, _ => none
            | _ => none
          | _ => none
        | some (.ok false, μ1) => dcLoop gd g T A B c r ρ μ1
        | _ => none
      | none => none) else none
def eDC (I : CM IV) (g : D → Rho → Option Rho) (T : CM Bool) (A B : CM D) (own : List Nat) : CM D := I.bind fun p ρ μ => dcLoop p.2 g T A B μ.length p.1 (wipeR ρ own) (μ ++ [.dct []])
section
variable {X : Cx} {W : DW}
/-! ### a = b = e -/
def sAsg2 (E : CM D) (F G : D → SF) : SF := lft E fun d => sSeq (tgOnly (F d)) (tgOnly (G d))
/-! ### a try that runs through -/
end
/-! ### x, *y = e -/
section
variable {prog : Program} {w : World} {A : Around} {E : Value → Shared → Prop} {s : Shared} {env : Env} {elts : List Expr} {kk : Nat} {pos : Pos}
end
/-- (x, *y) = a tuple or a list -/
def gStar (K : PySem.W.Frag) (t : TGs) : TG := fun v σ H Q => ∃ a x xs, v = .ref a ∧ SqT K H a (x :: xs) ∧ ∀ p, H p = none → t [x, .ref p] σ (upd H p (.lst xs)) Q
section
variable {X : Cx} {W : DW}
def tStar (G : List D → SF) : D → SF := fun d => match d with
  | .tup (x :: xs) => G [x, .lst xs]
  | _ => fun _ _ => none
end
end DM

/-! dicts read; a loop over a dict; sorted; join -/
namespace DM
open PySem PySem.Spec L2 PyProof.Rows
/-! ### k in d -/
section
variable {X : Cx} {W : DW} {a b : Expr} {A B : CM D} {pos : Pos} {k : Nat}
end
/-! ### d.get(k) -/
def FdGet1 (o i : D) (μ : Store) : Res D := match dctAt μ o, keyD i with
  | some (_, kvs), some k => okR ((valD kvs k).getD .non) μ
  | _, _ => none
/-- the dict is looked at ahead of the key -/
def eGet (O I : CM D) : CM D := O.bind fun o ρ μ => match dctAt μ o with
  | some _ => I.bind (fun i _ μ1 => FdGet1 o i μ1) ρ μ
  | none => none
/-! ### dict(d), dict(pairs) -/
def pairsD : List D → Option (List (Key × D))
  | [] => some []
  | .tup [k, v] :: r => match keyD k, pairsD r with
    | some k, some t => some ((k, v) :: t)
    | _, _ => none
  | _ => none
def Fdict (ds : List D) (μ : Store) : Res D := match ds with
  | [d] => match dctAt μ d with
    | some (_, kvs) => okR (.ref μ.length) (μ ++ [.dct kvs])
    | none => match d with
      | .lst xs => match pairsD xs with
        | some kvs => okR (.ref μ.length) (μ ++ [.dct (mergeKD [] kvs)])
        | none => none
      | _ => none
  | _ => none
def rDict (K : PySem.W.Frag) : List V → Hp → VK → Prop := fun xs H Q =>
  (∃ (a : Addr) (kvs : List (Key × V)), xs = [.ref a] ∧ Rd H a (.dK kvs) ∧ ∀ p, H p = none → Q (.ref p) (upd H p (.dK kvs))) ∨
  (∃ (a : Addr) (ps : List Addr) (kvs : List (Key × V)), xs = [.ref a] ∧ SqL K H a (ps.map V.ref) ∧ Paired (fun p kv => SqT K H p [kV kv.1, kv.2]) ps kvs ∧ ∀ p, H p = none → Q (.ref p) (upd H p (.dK (mergeK [] kvs))))
/-! ### sorted of texts, of a dict's keys -/
def leS (a b : Str) : Bool := !ltCps b.cps.toList a.cps.toList
def insS (x : Str) : List Str → List Str
  | [] => [x]
  | y :: r => if leS x y = true then x :: y :: r else y :: insS x r
def sortS : List Str → List Str
  | [] => []
  | x :: r => insS x (sortS r)
def strKeys : List (Key × D) → Option (List Str)
  | [] => some []
  | (.inr s, _) :: r => (strKeys r).map (s :: ·)
  | _ => none
def Fsorted (ds : List D) (μ : Store) : Res D := match ds with
  | [d] => match dctAt μ d with
    | some (_, kvs) => match strKeys kvs with
      | some ks => if ks.length < 64 then okR (.lst ((sortS ks).map D.str)) μ else none
      | none => none
    | none => match d with
      | .lst xs => match strsD xs with
        | some ks => if ks.length < 64 then okR (.lst ((sortS ks).map D.str)) μ else none
        | none => none
      | _ => none
  | _ => none
def rSorted2 (K : PySem.W.Frag) : List V → Hp → VK → Prop := fun xs H Q =>
  (∃ (a : Addr) (kvs : List (Key × V)) (ks : List Str), xs = [.ref a] ∧ Rd H a (.dK kvs) ∧ kvs.map (·.1) = ks.map Sum.inr ∧ ks.length < 64 ∧ ∀ ys p, ys.Perm ks → sortedS ys = true → H p = none → Q (.ref p) (upd H p (.lst (ys.map V.str)))) ∨ rSortedS K xs H Q
/-! ### sep.join(xs) -/
def joinF (o d : D) (μ : Store) : Res D := match o with
  | .str a => match (itemsD μ d).bind strsD with
    | some ys => if (ys.map (·.length)).sum + ys.length * a.length ≤ 16777216 then okR (.str (Txt.join a ys)) μ else none
    | none => none
  | _ => none
def isStrD : D → Bool
  | .str _ => true
  | _ => false
def eJoin (O I : CM D) : CM D := O.bind fun o => if isStrD o = true then I.bind (fun i _ μ1 => joinF o i μ1) else fun _ _ => none
end DM

/-! a loop over a dict that is not changed meanwhile -/
namespace DM
open PySem PySem.Spec L2 PyProof.Rows
section
variable {K : PySem.W.Frag} {ι : List Addr} {H : Hp} {a : Addr} {u : HO}
theorem ne_cell {p : Addr} (ha : a ∈ ι) (hp : p ∉ ι) : p ≠ a := fun z => hp (by rw [z]; exact ha)
theorem TupAt.updC {p : Addr} {vs : List V} (ha : a ∈ ι) (h : TupAt K ι H p vs) : TupAt K ι (upd H a u) p vs := by
  rcases h with ⟨⟨o, h, d⟩, n⟩ | h | ⟨h, n, q⟩
  · exact .inl ⟨⟨o, by rw [upd_ne (ne_cell ha n)]; exact h, d⟩, n⟩
  · exact .inr (.inl h)
  · exact .inr (.inr ⟨by rw [upd_ne (ne_cell ha n)]; exact h, n, q⟩)
theorem LstAt.updC {p : Addr} {vs : List V} (ha : a ∈ ι) (h : LstAt ι H p vs) : LstAt ι (upd H a u) p vs := ⟨by rw [upd_ne (ne_cell ha h.2)]; exact h.1, h.2⟩
theorem FlAt.updC {p : Addr} {vs : List V} (ha : a ∈ ι) (h : FlAt K ι H p vs) : FlAt K ι (upd H a u) p vs := by
  rcases h with ⟨⟨o, h⟩, n⟩ | h
  · exact .inl ⟨⟨o, by rw [upd_ne (ne_cell ha n)]; exact h⟩, n⟩
  · exact .inr h
mutual
theorem VR.updC (ha : a ∈ ι) : ∀ {v : V} {d : D}, VR K ι H v d → VR K ι (upd H a u) v d
  | _, _, .non => .non
  | _, _, .bl b => .bl b
  | _, _, .int i => .int i
  | _, _, .str x => .str x
  | _, _, .tup h r => .tup (h.updC ha) (VRs.updC ha r)
  | _, _, .lst h r => .lst (h.updC ha) (VRs.updC ha r)
  | _, _, .fl h r => .fl (h.updC ha) (VRs.updC ha r)
  | _, _, .ref h => .ref h
theorem VRs.updC (ha : a ∈ ι) : ∀ {vs : List V} {ds : List D}, VRs K ι H vs ds → VRs K ι (upd H a u) vs ds
  | _, _, .nil => .nil
  | _, _, .cons h r => .cons (VR.updC ha h) (VRs.updC ha r)
end
theorem OR.updC {b : Addr} {o : Ob} (ha : a ∈ ι) (hb : b ≠ a) (h : OR K ι H b o) : OR K ι (upd H a u) b o := by
  have e : upd H a u b = H b := upd_ne hb
  cases o with
  | lst ds => obtain ⟨vs, q, r⟩ := h; exact ⟨vs, e.trans q, r.updC ha⟩
  | obj C fs => obtain ⟨dx, gs, q, k, r, z⟩ := h; exact ⟨dx, gs, e.trans q, k, r.updC ha, z⟩
  | dct kvs => obtain ⟨qs, q, k, r⟩ := h; exact ⟨qs, e.trans q, k, r.updC ha⟩
  | dcl kvs => obtain ⟨o, qs, q, k, r⟩ := h; exact ⟨o, qs, e.trans q, k, r.updC ha⟩
  | dtt kvs => obtain ⟨qs, q, k, r⟩ := h; exact ⟨qs, e.trans q, k, r.updC ha⟩
  | exc C fs => obtain ⟨d, gs, ⟨oe, vs, q, z⟩, q2, n, k, r⟩ := h; exact ⟨d, gs, ⟨oe, vs, e.trans q, z⟩, by rw [upd_ne (fun z => n (by rw [z]; exact ha))]; exact q2, n, k, r.updC ha⟩
  | tab tx => obtain ⟨z, ps, q1, q2, q3⟩ := h; exact ⟨z, ps, e.trans q1, q2, fun pos cv hc => let ⟨c, a1, a2, a3⟩ := q3 pos cv hc; ⟨c, a1, by rw [upd_ne (fun z => a3 (by rw [z]; exact ha))]; exact a2, a3⟩⟩
  | dnk kvs => obtain ⟨bs, vs, q, k, r, z⟩ := h; exact ⟨bs, vs, e.trans q, k.updC ha, r.updC ha, z⟩
theorem SR.updC {σ : L2.St} {ρ : Rho} (ha : a ∈ ι) (s : SR K ι H σ ρ) : SR K ι (upd H a u) σ ρ := ⟨s.len, fun i d h => let ⟨v, x, y⟩ := s.at' i d h; ⟨v, x, y.updC ha⟩⟩
theorem WF.unlock {μ : Store} {c : Nat} {od : Obj} {qs : List (Key × V)} {kvs : List (Key × D)} (w : WF K ι μ H) (hc : ι[c]? = some a) (hm : μ[c]? = some (.dcl kvs)) (hH : H a = some (.frz od (.dK qs))) : WF K ι (μ.set c (.dct kvs)) (upd H a (.dK qs)) := by
  have ha : a ∈ ι := List.mem_of_getElem? hc
  refine ⟨by simp [w.len], w.nd, fun j b v hj hv => ?_⟩
  by_cases e : c = j
  · subst e
    rw [hc] at hj
    cases hj
    have hl : c < μ.length := (List.getElem?_eq_some_iff.mp hm).1
    rw [List.getElem?_set_self hl] at hv
    cases hv
    obtain ⟨o, qs', e1, k, r⟩ := w.ob c a _ hc hm
    rw [hH] at e1
    cases e1
    exact ⟨qs, upd_same, k, r.updC ha⟩
  · rw [List.getElem?_set_ne e] at hv
    refine (w.ob j b v hj hv).updC ha fun z => ?_
    subst z
    have h1 := List.getElem?_eq_some_iff.mp hc
    have h2 := List.getElem?_eq_some_iff.mp hj
    exact e ((List.getElem_inj w.nd).mp (h1.2.trans h2.2.symm))
theorem WF.lock {μ : Store} {c : Nat} {od : Obj} {qs : List (Key × V)} {kvs : List (Key × D)} (w : WF K ι μ H) (hc : ι[c]? = some a) (hm : μ[c]? = some (.dct kvs)) (hH : H a = some (.dK qs)) : WF K ι (μ.set c (.dcl kvs)) (upd H a (.frz od (.dK qs))) := by
  have ha : a ∈ ι := List.mem_of_getElem? hc
  refine ⟨by simp [w.len], w.nd, fun j b v hj hv => ?_⟩
  by_cases e : c = j
  · subst e
    rw [hc] at hj
    cases hj
    have hl : c < μ.length := (List.getElem?_eq_some_iff.mp hm).1
    rw [List.getElem?_set_self hl] at hv
    cases hv
    obtain ⟨qs', e1, k, r⟩ := w.ob c a _ hc hm
    rw [hH] at e1
    cases e1
    exact ⟨od, qs, upd_same, k, r.updC ha⟩
  · rw [List.getElem?_set_ne e] at hv
    refine (w.ob j b v hj hv).updC ha fun z => ?_
    subst z
    have h1 := List.getElem?_eq_some_iff.mp hc
    have h2 := List.getElem?_eq_some_iff.mp hj
    exact e ((List.getElem_inj w.nd).mp (h1.2.trans h2.2.symm))
/-- behind the lock: as seen from ahead of it -/
theorem Le.unlock {ι' : List Addr} {H' : Hp} {c : Nat} {od : Obj} {qs : List (Key × V)} (hc : ι[c]? = some a) (hH : H a = some (.dK qs)) (l : Le ι (upd H a (.frz od (.dK qs))) ι' H') : Le ι H ι' (upd H' a (.dK qs)) := by
  have ha : a ∈ ι := List.mem_of_getElem? hc
  refine ⟨l.pre, fun b hb n => ?_, fun b o n e => ?_, fun b o v e => ?_⟩
  · have := l.new b hb n
    rw [upd_ne (ne_cell ha n)] at this
    exact this
  · have hne := ne_cell ha n
    rw [upd_ne hne]
    exact l.keep b o n (by rw [upd_ne hne]; exact e)
  · have hne : b ≠ a := fun z => by rw [z, hH] at e; cases e
    rw [upd_ne hne]
    exact l.frz b o v (by rw [upd_ne hne]; exact e)
end
def keyOf : Key → D
  | .inl i => .int i
  | .inr s => .str s
def iKeysL (E : CM D) : CM IV := E.bind fun d _ μ => match d with
  | .ref c => match μ[c]? with
    | some (.dcl kvs) => some (.ok (kvs.map (fun kv => keyOf kv.1), anyG), μ)
    | _ => none
  | _ => none
/-- the lock is taken off -/
def unlk (c : Nat) : Option (Fl × Store) → Option (Fl × Store)
  | some (f, μ) => match f, μ[c]? with
    | .ex _ _, _ => none
    | f, some (.dcl kvs) => some (f, μ.set c (.dct kvs))
    | _, _ => none
  | none => none
def sForK (E : CM D) (g : D → Rho → Option Rho) (S : SF) : SF := fun ρ μ => match E ρ μ with
  | some (.ok (.ref c), _) => match μ[c]? with
    | some (.dct kvs) => unlk c (sFor (iKeysL E) g S ρ (μ.set c (.dcl kvs)))
    | _ => none
  | _ => none
end DM

namespace DM
open PySem PySem.Spec L2
open PyProof.Rows (envOfC)
/-! ### defs by their arguments: positional ones (any number), keywords named ks -/
abbrev FV := List D → List D → Store → Res D
structure FnV (P : Program) (w : World) (K : PySem.W.Frag) (mg : Str → Option Value) (base : Heap) (k : Nat) (f : Addr) (ks : List Str) (F : FV) : Prop where
  go : ∀ {A : Around} {outer : List Env} {s : Shared} {H : Hp} {us ws : List Value} {vs zs : List V} {ι : List Addr} {μ : Store} {ds es : List D} {Q : VK} {E : XK},
    Room k A → A.guards = some [] → Env0 P w K mg base A outer s H → Vals vs us → Vals zs ws → zs.length = ks.length → WF K ι μ H → VRs K ι H vs ds → VRs K ι H zs es → PostF K (xrS K) ι H Q E (F ds es μ) →
      codeAny (model P w) A (.call (.ref f) ⟨us, ks.zip ws⟩) (CR (L2.CX P w) outer P w H s Q E) s
  len : ∀ ds es μ, F ds es μ ≠ none → es.length = ks.length
theorem FnV.mono {P : Program} {w : World} {K : PySem.W.Frag} {mg : Str → Option Value} {base : Heap} {j k : Nat} {f : Addr} {ks : List Str} {F : FV} (h : FnV P w K mg base j f ks F) (l : j ≤ k) : FnV P w K mg base k f ks F :=
  ⟨fun hr => h.go (hr.mono l), h.len⟩
/-- a def without stars: idx picks its parameters from the positional ones and the keywords -/
def gV (n nk : Nat) (idx : List Nat) (F : FD) : FV := fun ds es μ => if ds.length = n ∧ es.length = nk then F (pick idx (ds ++ es)) μ else none
theorem FnV.ofG {P : Program} {w : World} {K : PySem.W.Frag} {mg : Str → Option Value} {base : Heap} {k n : Nat} {f : Addr} {fd : FuncData} {ps ks : List Str} {idx : List Nat} {F : FD} (G : FnG P w K mg base (xrS K) k f fd ps F)
    (hb : ∀ (s : Shared) (us ws : List Value), us.length = n → ws.length = ks.length → BindsTo s fd ⟨us, ks.zip ws⟩ (ps.zip (pick idx (us ++ ws)))) (hlen : ∀ ds μ, F ds μ ≠ none → ds.length = ps.length) : FnV P w K mg base k f ks (gV n ks.length idx F) := by
  refine ⟨fun {A outer s H us ws vs zs ι μ ds es Q E} hr hG e0 rv rz lz wf vr vz post => ?_, fun ds es μ h => ?_⟩
  · unfold gV at post
    have ln : ds.length = n ∧ es.length = ks.length := by
      by_cases z : ds.length = n ∧ es.length = ks.length
      · exact z
      · rw [if_neg z] at post; exact post.elim
    rw [if_pos ln] at post
    have vv : VRs K ι H (pick idx (vs ++ zs)) (pick idx (ds ++ es)) := pick_vrs (vr.append vz)
    have nn : F (pick idx (ds ++ es)) μ ≠ none := fun z => by rw [z] at post; exact post
    have hl : (pick idx (vs ++ zs)).length = ps.length := by rw [vv.length]; exact hlen _ _ nn
    exact G.go hr hG e0 (hb s us ws (by rw [← rv.length, vr.length]; exact ln.1) (by rw [← rz.length]; exact lz)) (pick_vals (rv.append rz)) hl wf vv post
  · unfold gV at h
    by_cases z : ds.length = n ∧ es.length = ks.length
    · exact z.2
    · rw [if_neg z] at h; exact absurd rfl h
/-- def f(a, .., *v, k = .., ..) -/
def fnV (np nk : Nat) (idx : List Nat) (F : FD) : FV := fun ds es μ => if (np ≤ ds.length ∧ ds.length ≤ sizeLine) ∧ es.length = nk then F (ds.take np ++ (pick idx es ++ [.tup (ds.drop np)])) μ else none
end DM
namespace DM
open PySem PySem.Spec L2
def sealV (F : FV) : FV := fun ds es μ => sealR μ.length (F ds es μ)
theorem FnV.seal {P : Program} {w : World} {K : PySem.W.Frag} {mg : Str → Option Value} {base : Heap} {k : Nat} {f : Addr} {ks : List Str} {F : FV} (h : FnV P w K mg base k f ks F) : FnV P w K mg base k f ks (sealV F) := by
  refine ⟨fun {A outer s H us ws vs zs ι μ ds es Q E} hr hG e0 rv rz lz wf vr vz post => ?_, fun ds es μ q => h.len ds es μ fun z => q (by unfold sealV; rw [z]; rfl)⟩
  refine h.go hr hG e0 rv rz lz wf vr vz ?_
  unfold sealV at post
  have := sealAux (K := K) (W := fun x ι _ H' => ∀ c dd, (xrS K) x c dd ι H' → E c dd H') (σ := []) (ι := ι) (H := H) (Q := Q) (r := F ds es μ) wf (by
    match sealR μ.length (F ds es μ), post with
    | some (.ok _, _), post => exact post
    | some (.error _, _), post => exact fun ι' H' l w c dd z => post ι' H' c dd l w z)
  match F ds es μ, this with
  | some (.ok _, _), q => exact q
  | some (.error _, _), q => exact fun ι' H' c dd l w z => q ι' H' l w c dd z
end DM

namespace L2
open PySem PySem.Spec PySem.Calls PySem.W
section
variable {M : Model} {A : Around} {E : Value → Shared → Prop} {s : Shared}
end
end L2
namespace DM
open PySem PySem.Spec L2
/-! ### methods by their arguments -/
structure MtV (P : Program) (w : World) (K : PySem.W.Frag) (mg : Str → Option Value) (base : Heap) (k : Nat) (C m : Str) (ks : List Str) (F : FV) : Prop where
  ex : ∃ f, FnV P w K mg base k f ks F ∧ BMeth K (He.ga K C) m f
theorem MtV.mono {P : Program} {w : World} {K : PySem.W.Frag} {mg : Str → Option Value} {base : Heap} {j k : Nat} {C m : Str} {ks : List Str} {F : FV} (h : MtV P w K mg base j C m ks F) (l : j ≤ k) : MtV P w K mg base k C m ks F := by
  obtain ⟨f, G, r⟩ := h.ex
  exact ⟨⟨f, G.mono l, r⟩⟩
/-- the object, its class's def; then A: the positional arguments, B: the keywords -/
def eMtV (tb : List (Str × FV)) (m : Str) (O : CM D) (A B : CM (List D)) : CM D := O.bind fun o ρ μ => match o with
  | .ref i => match μ[i]? with
    | some (.obj C fs) => if (fs.lookup m).isNone = true then (match tb.lookup C with
      | some F => (A.bind fun ds => B.bind fun es _ μ => F (.ref i :: ds) es μ) ρ μ
      | none => none) else none
    | _ => none
  | _ => none
section
variable {X : Cx} {W : DW} {k j : Nat} {m : Str} {ks : List Str} {tb : List (Str × FV)} {o e : Expr} {es : List Expr} {kws : List Keyword} {O E : CM D} {As Bs : CM (List D)} {pos apos p : Pos}
/-- what the star brings -/
def aLone (E : CM D) : CM (List D) := E.bind fun d _ μ => match itemsD μ d with
  | some xs => some (.ok xs, μ)
  | none => none
/-! ### new instances by their arguments -/
structure MkV (P : Program) (w : World) (K : PySem.W.Frag) (mg : Str → Option Value) (base : Heap) (k : Nat) (C : Str) (ks : List Str) (F : FV) : Prop where
  ex : ∃ f, FnV P w K mg base k f ks F ∧ L2.Mk K (He.ga K C) f ∧ mg C = some (.ref (He.ga K C)) ∧ Cls K (He.ga K C)
def mkV (C : Str) (F : FV) (ds es : List D) (μ : Store) : Res D := mkO C (fun ds μ => F ds es μ) ds μ
def eMkV (C : Str) (F : FV) (A B : CM (List D)) : CM D := A.bind fun ds => B.bind fun es _ μ => mkV C F ds es μ
/-- C( *e, k = v, ..): the star is read behind the keywords -/
def eMkS (C : Str) (F : FV) (E : CM D) (B : CM (List D)) : CM D := E.bind fun d => B.bind fun es _ μ => match itemsD μ d with
  | some ds => mkV C F ds es μ
  | none => none
end
end DM

namespace DM
open PySem PySem.Spec L2
/-! ### the look at the head: defs at any place, properties, bound methods -/
structure DefX where
  ad : PySem.W.Frag → Addr
  d : He.DefD
def fnWX (K : PySem.W.Frag) (x : DefX) : He.FnW := match K.lookup (x.ad K) with
  | some ⟨_, _, .func fd, _⟩ => some (fd.name, fd.qualname, fd.params, fd.body, fd.scope, fd.globals, fd.closure, fd.builtins)
  | _ => none
def DefX.ok (K : PySem.W.Frag) (x : DefX) : Bool := PySem.W.keepIn K (.ref (x.ad K)) && (match K.lookup (x.ad K) with
  | some ⟨_, _, .func fd, _⟩ => PySem.W.codeIn K fd.code x.d.qual && (He.dflB K fd.defaults (x.d.dvs K) && He.kwdB K fd.kwdefaults (x.d.kws K))
  | _ => false)
/-- a bound method may be made -/
def bmB (C m : Str) (K : PySem.W.Frag) : Bool := He.eqO (PySem.W.specialIn K (.ref (He.ma K (He.ga K C) m)) "__get__") (some (some (.builtin "function.__get__"))) && (decide (PySem.W.takesIn K (.ref (He.ma K (He.ga K C) m)) = some false) && (!(PySem.W.copiedNames.contains m) && PySem.W.fnIn K (He.ma K (He.ga K C) m)))
/-- a property's getter -/
def pgA (C m : Str) (K : PySem.W.Frag) : Addr := match PySem.W.recIn K (He.ma K (He.ga K C) m) "property" with
  | some (.ref g :: _) => g
  | _ => 0
def prB (C m : Str) (K : PySem.W.Frag) : Bool := He.eqO (PySem.W.findIn K (.ref (He.ga K C)) m) (some (some (.ref (He.ma K (He.ga K C) m)))) && (He.eqO (PySem.W.specialIn K (.ref (He.ma K (He.ga K C) m)) "__get__") (some (some (.builtin "property.__get__"))) && (decide (PySem.W.takesIn K (.ref (He.ma K (He.ga K C) m)) = some true) && (match PySem.W.recIn K (He.ma K (He.ga K C) m) "property" with
  | some (.ref _ :: _) => true
  | _ => false)))
abbrev AlX : Type := Bool × List He.FnW × He.AlD
def obsX (fa : List He.Fa) (fn : List He.DefD) (cs : List (Str × D)) (xf : List (PySem.W.Frag → Bool)) (xs : List DefX) (K : PySem.W.Frag) : AlX := (cs.all (conB K) && ((xf.all fun f => f K) && xs.all fun x => x.ok K), xs.map (fnWX K), He.obsD fa fn K)
def obsXG (n : Nat) (fa : List He.Fa) (fn : List He.DefD) (cs : List (Str × D)) (xf : List (PySem.W.Frag → Bool)) (xs : List DefX) (g : Addr → Option Obj) : AlX := obsX fa fn cs xf xs (He.frG g (He.asD g n))
def valX (xs : List DefX) : List He.FnW := xs.map fun x => x.d.val
structure SaysX (fa : List He.Fa) (fn : List He.DefD) (cs : List (Str × D)) (xf : List (PySem.W.Frag → Bool)) (xs : List DefX) (K : PySem.W.Frag) : Prop where
  c : He.SaysD fa fn K
  k : (cs.all (conB K) && ((xf.all fun f => f K) && xs.all fun x => x.ok K)) = true
  x : xs.map (fnWX K) = valX xs
def hookX (n : Nat) (fa : List He.Fa) (fn : List He.DefD) (cs : List (Str × D)) (xf : List (PySem.W.Frag → Bool)) (xs : List DefX) : PySem.W.Hook where
  α := AlX
  obs := fun s => obsXG n fa fn cs xf xs s.heap.get?
  val := fun _ => (true, valX xs, He.valD fn)
  says := fun _ h => ∃ K : PySem.W.Frag, K.In h ∧ SaysX fa fn cs xf xs K
  of := fun _ _ e => ⟨_, He.frG_in, congrArg (fun z : AlX => z.2.2) e, congrArg Prod.fst e, congrArg (fun z : AlX => z.2.1) e⟩
  keeps := fun _ _ _ ⟨K, hK, c⟩ k => ⟨K, PySem.W.Frag.In.keeps hK k, c⟩
section
variable {fa : List He.Fa} {fn : List He.DefD} {cs : List (Str × D)} {xf : List (PySem.W.Frag → Bool)} {xs : List DefX} {K : PySem.W.Frag}
theorem SaysX.con (c : SaysX fa fn cs xf xs K) (i : Nat) {z : Str × D} (h : cs[i]? = some z := by rfl) : conB K z = true :=
  List.all_eq_true.mp (andT c.k).1 z (List.mem_of_getElem? h)
theorem SaysX.xfact (c : SaysX fa fn cs xf xs K) (i : Nat) {f : PySem.W.Frag → Bool} (h : xf[i]? = some f := by rfl) : f K = true :=
  List.all_eq_true.mp (andT (andT c.k).2).1 f (List.mem_of_getElem? h)
end
/-! ### by names, for the printed texts -/
section
variable {P : Program} {w : World} {K : PySem.W.Frag} {mg : Str → Option Value} {base : Heap}
/-- a method without stars and keywords, as one by its arguments -/
theorem MtV.ofG {C m : Str} {k n : Nat} {f : Addr} {fd : FuncData} {ps ks : List Str} {idx : List Nat} {F : FD} (G : FnG P w K mg base (xrS K) k f fd ps F) (hb : ∀ (s : Shared) (us ws : List Value), us.length = n → ws.length = ks.length → BindsTo s fd ⟨us, ks.zip ws⟩ (ps.zip (pick idx (us ++ ws)))) (hlen : ∀ ds μ, F ds μ ≠ none → ds.length = ps.length) (hm : BMeth K (He.ga K C) m f) : MtV P w K mg base k C m ks (gV n ks.length idx F) := ⟨⟨f, FnV.ofG G hb hlen, hm⟩⟩
end
end DM

namespace DM
open PySem PySem.Spec L2
/-! ### closed stores: what a cell names is a cell -/
mutual
theorem noRef_le {n m : Nat} (l : n ≤ m) : ∀ {d : D}, noRef n d = true → noRef m d = true
  | .non, _ => rfl
  | .bl _, _ => rfl
  | .int _, _ => rfl
  | .str _, _ => rfl
  | .tup xs, h => by simp only [noRef] at h ⊢; exact noRefs_le l h
  | .lst xs, h => by simp only [noRef] at h ⊢; exact noRefs_le l h
  | .fl xs, h => by simp only [noRef] at h ⊢; exact noRefs_le l h
  | .ref i, h => by simp only [noRef, decide_eq_true_eq] at h ⊢; omega
theorem noRefs_le {n m : Nat} (l : n ≤ m) : ∀ {ds : List D}, noRefs n ds = true → noRefs m ds = true
  | [], _ => rfl
  | _ :: _, h => by
    simp only [noRefs, Bool.and_eq_true] at h ⊢
    exact ⟨noRef_le l h.1, noRefs_le l h.2⟩
end
theorem obOk_le {n m : Nat} {o : Ob} (l : n ≤ m) (h : obOk n o = true) : obOk m o = true := by
  cases o with
  | lst xs => exact noRefs_le l h
  | obj C fs => exact noRefs_le l (show noRefs n (fs.map (·.2)) = true from h)
  | dct kvs => exact noRefs_le l (show noRefs n (kvs.map (·.2)) = true from h)
  | dcl kvs => exact noRefs_le l (show noRefs n (kvs.map (·.2)) = true from h)
  | dtt kvs => exact noRefs_le l (show noRefs n (kvs.map (·.2)) = true from h)
  | exc C fs => exact noRefs_le l (show noRefs n (fs.map (·.2)) = true from h)
  | tab tx => rfl
  | dnk kvs =>
    have h : (noRefs n (kvs.map fun kv => D.tup kv.1) && noRefs n (kvs.map (·.2))) = true := h
    rw [Bool.and_eq_true] at h
    show (noRefs m (kvs.map fun kv => D.tup kv.1) && noRefs m (kvs.map (·.2))) = true
    rw [noRefs_le l h.1, noRefs_le l h.2]
    rfl
def Clo (μ : Store) : Prop := ∀ o ∈ μ, obOk μ.length o = true
theorem Clo.nil : Clo [] := fun o h => by simp at h
theorem PureS.clo {μ : Store} (h : PureS μ) : Clo μ := fun o ho => obOk_mono (h o ho)
theorem Clo.set {μ : Store} (h : Clo μ) {i : Nat} {o : Ob} (ho : obOk μ.length o = true) : Clo (μ.set i o) := fun u hu => by
  rw [List.length_set]
  rcases List.mem_or_eq_of_mem_set hu with z | z
  · exact h u z
  · rw [z]; exact ho
theorem Clo.app {μ : Store} (h : Clo μ) {o : Ob} (ho : obOk (μ.length + 1) o = true) : Clo (μ ++ [o]) := fun u hu => by
  rw [List.length_append, List.length_singleton]
  rcases List.mem_append.mp hu with z | z
  · exact obOk_le (Nat.le_succ _) (h u z)
  · rw [List.mem_singleton.mp z]; exact ho
theorem Clo.at {μ : Store} (h : Clo μ) {i : Nat} {o : Ob} (e : μ[i]? = some o) : obOk μ.length o = true := h o (List.mem_of_getElem? e)
theorem clo_of {μ : Store} (h : ∀ (i : Nat) o, μ[i]? = some o → obOk μ.length o = true) : Clo μ := fun o ho => by
  obtain ⟨i, e⟩ := List.getElem?_of_mem ho
  exact h i o e
theorem Clo.fr {μ ν : Store} {p : Nat} (h : Clo μ) (f : Fr p μ ν) (ho : ∀ o, ν[p]? = some o → obOk ν.length o = true) : Clo ν := clo_of fun i o e => by
  by_cases z : i = p
  · subst z; exact ho o e
  · rw [f.eq i z] at e
    rw [f.len]
    exact h.at e
theorem Clo.all {μ : Store} (h : Clo μ) : μ.all (obOk μ.length) = true := List.all_eq_true.mpr h
theorem Pool.app {p : Nat} {c : Int} {μ : Store} {o : Ob} (h : Pool p c μ) : Pool p c (μ ++ [o]) := by
  obtain ⟨a, b, c0, e, q⟩ := h
  exact ⟨a, b, c0, by rw [List.getElem?_append_left (List.getElem?_eq_some_iff.mp e).1]; exact e, q⟩
theorem Pool.lt {p : Nat} {c : Int} {μ : Store} (h : Pool p c μ) : p < μ.length := by
  obtain ⟨a, b, c0, e, q⟩ := h
  exact (List.getElem?_eq_some_iff.mp e).1
theorem Pool.ob {p : Nat} {c : Int} {μ : Store} (h : Pool p c μ) (n : Nat) : ∀ o, μ[p]? = some o → obOk n o = true := by
  obtain ⟨a, b, c0, e, q⟩ := h
  intro o e'
  rw [e] at e'
  cases e'
  rfl
theorem Pool.mono {p : Nat} {c c' : Int} {μ : Store} (h : Pool p c μ) (l : c ≤ c') : Pool p c' μ := by
  obtain ⟨a, b, c0, e, q1, q2, q3, q4, q5⟩ := h
  exact ⟨a, b, c0, e, q1, q2, q3, q4, by omega⟩
theorem Pool.of {p : Nat} {c : Int} {μ ν : Store} (h : Pool p c μ) (e : ν[p]? = μ[p]?) : Pool p c ν := by
  obtain ⟨a, b, c0, e', q⟩ := h
  exact ⟨a, b, c0, e.trans e', q⟩
/-- the store as a law's own helpers find it -/
structure Wc (p : Nat) (c : Int) (μ : Store) : Prop where
  pool : Pool p c μ
  clo : Clo μ
theorem Wd.c {p : Nat} {c : Int} {μ : Store} (h : Wd p c μ) : Wc p c μ := ⟨h.pool, h.pure.clo⟩
theorem Wc.mono {p : Nat} {c c' : Int} {μ : Store} (h : Wc p c μ) (l : c ≤ c') : Wc p c' μ := ⟨h.pool.mono l, h.clo⟩
/-- of the cells of μ0 the pool alone has changed -/
structure Wz (μ0 : Store) (p : Nat) (c : Int) (μ : Store) : Prop where
  wd : Wc p c μ
  fr : Fr p μ0 μ
theorem Wc.z {p : Nat} {c : Int} {μ : Store} (h : Wc p c μ) : Wz μ p c μ := ⟨h, Fr.refl _ _⟩
theorem Wz.mono {μ0 μ : Store} {p : Nat} {c c' : Int} (h : Wz μ0 p c μ) (l : c ≤ c') : Wz μ0 p c' μ := ⟨h.wd.mono l, h.fr⟩
theorem Wz.from {μ0 μ1 μ : Store} {p : Nat} {c c1 : Int} (a : Wz μ0 p c1 μ1) (b : Wz μ1 p c μ) : Wz μ0 p c μ := ⟨b.wd, a.fr.trans b.fr⟩
local macro_rules | `(tactic| walk_at "q") => `(tactic| simp only [q_ok, q_okR, q_if, q_C, q_ret, q_var, q_at, q_e1, q_e2, q_call, q_callB, q_nil, q_cons, q_tup, q_lst, q_cel, q_ifexp, q_blAt, q_bOf, q_bTru, q_bAnd, q_bOr, q_bNot, q_vAnd, q_vOr, q_vNot, q_chain, q_pureS, at0, at1, at2, q_iseq, q_seqL, q_seqF, q_rg1, q_rg2, q_itup, q_tupAt,
  f_add, f_sub, f_mul, f_div, f_mod, f_pow, f_neg, f_cmp, f_abs, f_intI, f_intB, f_max, f_min, f_lenL, f_lenF, f_lenT, f_ixL, f_ixF, f_ixT, f_eqI, f_neI, f_eqB, f_neB, f_isB, f_isnotB, f_truB, f_truI, f_repr0, startR, List.map_cons, List.map_nil, List.length_cons, List.length_nil, List.cons_append, List.nil_append, List.append_nil, List.getElem?_cons_zero, List.getElem?_cons_succ, List.set_cons_zero, List.set_cons_succ, List.replicate_succ, List.replicate_zero, Nat.reduceAdd, Nat.reduceSub])
theorem atI_in {α : Type} {xs : List α} {r : Int} (r0 : 0 ≤ r) (r1 : r < xs.length) : ∃ y, atI xs r = some y ∧ y ∈ xs := by
  have hr : r.toNat < xs.length := by omega
  refine ⟨xs[r.toNat], ?_, List.getElem_mem hr⟩
  unfold atI ixN
  rw [if_pos r0, if_pos r1]
  exact List.getElem?_eq_getElem hr
section
variable {F : FD} (hF : DrawP F) {μ0 μ : Store} {p : Nat} {c : Int}
include hF
theorem DrawP.z {n : Int} (h : Wz μ0 p c μ) (hc : c < 2 ^ 20) (h0 : 0 < n) (h1 : n < 2 ^ 200) : Ok (F [.ref p, .int n] μ) (fun d μ' => ∃ r, d = .int r ∧ 0 ≤ r ∧ r < n ∧ Wz μ0 p (c + 1) μ') :=
  (hF h.wd.pool hc h0 h1).mono fun _ _ ⟨r, a, b, e, w, x, y, z, e'⟩ => ⟨r, a, b, e, ⟨w, by rw [e']; exact h.wd.clo.set rfl⟩, by rw [e']; exact h.fr.trans Fr.set⟩
theorem DrawP.pick {xs : List D} (h : Wz μ0 p c μ) (hc : c < 2 ^ 20) (h0 : 0 < xs.length) (h1 : xs.length < 2 ^ 30) : Ok (pickF F [.ref p, .lst xs] μ) (fun d μ' => d ∈ xs ∧ Wz μ0 p (c + 1) μ') := by
  refine q_fn rfl ?_
  refine q_sret ?_
  walk_at "q"
  refine (hF.z h hc (n := xs.length) (by omega) (by omega)).mono ?_
  rintro d μ' ⟨r, rfl, r0, r1, x⟩
  simp only [f_ixL]
  obtain ⟨y, e, hm⟩ := atI_in r0 r1
  rw [e, q_pureS]
  exact ⟨hm, x⟩
theorem DrawP.pickT {xs : List D} (h : Wz μ0 p c μ) (hc : c < 2 ^ 20) (h0 : 0 < xs.length) (h1 : xs.length < 2 ^ 30) : Ok (pickF F [.ref p, .tup xs] μ) (fun d μ' => d ∈ xs ∧ Wz μ0 p (c + 1) μ') := by
  refine q_fn rfl ?_
  refine q_sret ?_
  walk_at "q"
  refine (hF.z h hc (n := xs.length) (by omega) (by omega)).mono ?_
  rintro d μ' ⟨r, rfl, r0, r1, x⟩
  simp only [f_ixT]
  obtain ⟨y, e, hm⟩ := atI_in r0 r1
  rw [e, q_pureS]
  exact ⟨hm, x⟩
end
/-! ### running: objects, stars, dicts -/
def objAt (μ : Store) (o : D) (k : Nat → Str → List (Str × D) → Prop) : Prop := match o with
  | .ref i => match μ[i]? with
    | some (.obj C fs) => k i C fs
    | _ => False
  | _ => False
def lookF {α : Type} (tb : List (Str × α)) (C : Str) (k : α → Prop) : Prop := match tb.lookup C with
  | some F => k F
  | none => False
theorem lookF_hit {α : Type} {C : Str} {F : α} {tb : List (Str × α)} {k : α → Prop} : lookF ((C, F) :: tb) C k = k F := by simp [lookF]
section
variable {ρ : Rho} {μ : Store} {Q : D → Store → Prop} {Qf : Fl → Store → Prop} {A O E I : CM D} {As Bs : CM (List D)} {R : List D → Store → Prop}
theorem q_pr {tb : List (Str × FD)} : Ok (ePr tb O ρ μ) Q = Ok (O ρ μ) (fun o μ1 => objAt μ1 o (fun i C _ => lookF tb C (fun F => Ok (F [.ref i] μ1) Q))) := by
  unfold ePr
  rw [Ok_bind]
  congr 1
  funext o μ1
  cases o with
  | ref i =>
    simp only [objAt]
    cases μ1[i]? with
    | none => rfl
    | some ob =>
      cases ob with
      | obj C fs =>
        simp only [lookF]
        cases tb.lookup C <;> rfl
      | _ => rfl
  | _ => rfl
theorem q_mtE {tb : List (Str × FD)} {m : Str} : Ok (eMt tb m O As ρ μ) Q = Ok (O ρ μ) (fun o μ1 => objAt μ1 o (fun i C fs => (fs.lookup m).isNone = true ∧ lookF tb C (fun F => Ok (As ρ μ1) (fun ds μ2 => Ok (F (.ref i :: ds) μ2) Q)))) := by
  unfold eMt
  rw [Ok_bind]
  congr 1
  funext o μ1
  cases o with
  | ref i =>
    simp only [objAt]
    cases μ1[i]? with
    | none => rfl
    | some ob =>
      cases ob with
      | obj C fs =>
        simp only [q_if, lookF]
        congr 1
        cases tb.lookup C with
        | none => rfl
        | some F => exact Ok_bind
      | _ => rfl
  | _ => rfl
theorem q_mtV {tb : List (Str × FV)} {m : Str} : Ok (eMtV tb m O As Bs ρ μ) Q = Ok (O ρ μ) (fun o μ1 => objAt μ1 o (fun i C fs => (fs.lookup m).isNone = true ∧ lookF tb C (fun F => Ok (As ρ μ1) (fun ds μ2 => Ok (Bs ρ μ2) (fun es μ3 => Ok (F (.ref i :: ds) es μ3) Q))))) := by
  unfold eMtV
  rw [Ok_bind]
  congr 1
  funext o μ1
  cases o with
  | ref i =>
    simp only [objAt]
    cases μ1[i]? with
    | none => rfl
    | some ob =>
      cases ob with
      | obj C fs =>
        simp only [q_if, lookF]
        congr 1
        cases tb.lookup C with
        | none => rfl
        | some F => rw [Ok_bind]; simp only [Ok_bind]
      | _ => rfl
  | _ => rfl
theorem q_lone : Ok (aLone E ρ μ) R = Ok (E ρ μ) (fun d μ1 => starAt (itemsD μ1 d) (fun xs => R xs μ1)) := by
  unfold aLone
  rw [Ok_bind]
  congr 1
  funext d μ1
  cases itemsD μ1 d <;> rfl
theorem q_gV {n nk : Nat} {idx : List Nat} {F : FD} {ds es : List D} : Ok (gV n nk idx F ds es μ) Q = ((ds.length = n ∧ es.length = nk) ∧ Ok (F (pick idx (ds ++ es)) μ) Q) := by unfold gV; rw [q_if]
theorem q_fnV {np nk : Nat} {idx : List Nat} {F : FD} {ds es : List D} : Ok (fnV np nk idx F ds es μ) Q = (((np ≤ ds.length ∧ ds.length ≤ sizeLine) ∧ es.length = nk) ∧ Ok (F (ds.take np ++ (pick idx es ++ [.tup (ds.drop np)])) μ) Q) := by unfold fnV; rw [q_if]
theorem q_fsealG {F : FD} {ds : List D} (h : Ok (F ds μ) (fun d μ' => (μ'.take μ.length).all (obOk μ.length) = true ∧ ∃ d', unref μ.length μ' 4 d = some d' ∧ Q d' (μ'.take μ.length))) : Ok (fnSeal F ds μ) Q := seal_okG h
theorem q_mkO {C : Str} {F : FD} {ds : List D} : Ok (mkO C F ds μ) Q = Ok (F (.ref μ.length :: ds) (μ ++ [.obj C []])) (fun d μ2 => d = .non ∧ Q (.ref μ.length) μ2) := by
  unfold mkO
  generalize F (.ref μ.length :: ds) (μ ++ [.obj C []]) = r
  match r with
  | none => rfl
  | some (.error x, μ') => rfl
  | some (.ok d, μ') =>
    cases d with
    | non => simp [Ok]
    | _ => simp [Ok]
theorem q_mkV {C : Str} {F : FV} : Ok (eMkV C F As Bs ρ μ) Q = Ok (As ρ μ) (fun ds μ1 => Ok (Bs ρ μ1) (fun es μ2 => Ok (F (.ref μ2.length :: ds) es (μ2 ++ [.obj C []])) (fun d μ3 => d = .non ∧ Q (.ref μ2.length) μ3))) := by
  unfold eMkV
  rw [Ok_bind]
  simp only [Ok_bind]
  unfold mkV
  simp only [q_mkO]
theorem q_mkS {C : Str} {F : FV} : Ok (eMkS C F E Bs ρ μ) Q = Ok (E ρ μ) (fun d μ1 => Ok (Bs ρ μ1) (fun es μ2 => starAt (itemsD μ2 d) (fun ds => Ok (F (.ref μ2.length :: ds) es (μ2 ++ [.obj C []])) (fun d μ3 => d = .non ∧ Q (.ref μ2.length) μ3)))) := by
  unfold eMkS
  rw [Ok_bind]
  simp only [Ok_bind]
  congr 1
  funext d μ1
  congr 1
  funext es μ2
  cases itemsD μ2 d with
  | none => rfl
  | some ds =>
    simp only [starAt]
    unfold mkV
    rw [q_mkO]
theorem f_itL {xs : List D} : itemsD μ (.lst xs) = some xs := rfl
/-- d[k] = v -/
def dputAt (μ : Store) (o i v : D) (k : Store → Prop) : Prop := match FdPut o i v μ with
  | some μ' => k μ'
  | none => False
theorem q_tDSubG {v : D} (h : Ok (O ρ μ) (fun o μ1 => Ok (I ρ μ1) (fun i μ2 => dputAt μ2 o i v (fun μ3 => Qf (.nx ρ) μ3)))) : OkS (tDSub O I v ρ μ) Qf := by
  unfold tDSub
  refine OkS_lft (h.mono fun o μ1 h => OkS_lft (h.mono fun i μ2 h => ?_))
  unfold dputAt at h
  generalize FdPut o i v μ2 = r at h ⊢
  cases r with
  | none => exact h
  | some μ3 => exact h
/-- for x in d -/
def unlkQ (c : Nat) (Qf : Fl → Store → Prop) : Fl → Store → Prop := fun f μ => match f with
  | .ex _ _ => False
  | f => ∃ kvs, μ[c]? = some (.dcl kvs) ∧ Qf f (μ.set c (.dct kvs))
/-- a try that runs through -/
def noExQ (Qf : Fl → Store → Prop) : Fl → Store → Prop := fun f μ => match f with
  | .ex _ _ => False
  | f => Qf f μ
theorem q_noEx {S : SF} (h : OkS (S ρ μ) (noExQ Qf)) : OkS (noExS S ρ μ) Qf := by
  unfold noExS
  generalize S ρ μ = r at h ⊢
  match r, h with
  | some (.nx _, _), h => exact h
  | some (.rt _, _), h => exact h
  | some (.bk _, _), h => exact h
  | some (.ct _, _), h => exact h
theorem q_noExN {ρ' : Rho} : noExQ Qf (.nx ρ') μ = Qf (.nx ρ') μ := rfl
theorem q_asg2 {F G : D → SF} (h : Ok (E ρ μ) (fun d μ1 => OkS (F d ρ μ1) (onlyN (contS (tgOnly (G d)) Qf)))) : OkS (sAsg2 E F G ρ μ) Qf := by
  unfold sAsg2
  refine OkS_lft (h.mono fun d μ1 h => ?_)
  rw [q_seq]
  unfold tgOnly
  generalize F d ρ μ1 = r at h ⊢
  match r, h with
  | some (.nx ρ', μ'), h => exact h
theorem q_tStar {G : List D → SF} {x : D} {xs : List D} : OkS (tStar G (.tup (x :: xs)) ρ μ) Qf = OkS (G [x, .lst xs] ρ μ) Qf := rfl
def seqP (o : Option (List D × (Store → Bool))) (k : List D → (Store → Bool) → Prop) : Prop := match o with
  | some (xs, g) => k xs g
  | none => False
theorem q_enum {Qi : IV → Store → Prop} : Ok (iEnum (aCons A aNil) ρ μ) Qi = Ok (A ρ μ) (fun d μ1 => seqP (seqD μ1 d) (fun xs g => Qi (enumD xs, g) μ1)) := by
  unfold iEnum
  rw [Ok_bind, q_cons]
  simp only [q_nil]
  congr 1
  funext d μ1
  cases seqD μ1 d with
  | none => rfl
  | some z => rfl
theorem q_join {Q : D → Store → Prop} {a : Str} : Ok (eJoin (eC (.str a)) I ρ μ) Q = Ok (I ρ μ) (fun d μ1 => Ok (joinF (.str a) d μ1) Q) := by
  unfold eJoin
  rw [Ok_bind, q_C]
  rw [if_pos (show isStrD (D.str a) = true from rfl), Ok_bind]
end
end DM

namespace DM
open PySem PySem.Spec L2
/-! ### comprehensions in closed stores -/
section
variable {α : Type} {ρ : Rho} {μ : Store} {Q : D → Store → Prop} {T : CM Bool}
theorem q_lcG {I : CM IV} {g : D → Rho → Option Rho} {E : CM D} {own : List Nat} (h : Ok (I ρ μ) (fun q μ1 => Ok (lcLoop q.2 g T E μ1.length q.1 (wipeR ρ own) (μ1 ++ [.lst []])) (fun d μ' => (μ'.take μ.length).all (obOk μ.length) = true ∧ ∃ d', unref μ.length μ' 4 d = some d' ∧ Q d' (μ'.take μ.length)))) : Ok (eSeal (eLC I g T E own) ρ μ) Q := by
  refine seal_okG ?_
  unfold eLC
  rw [Ok_bind]
  exact h
/-- the list of a comprehension that leaves the store as it is -/
theorem q_lcmC {I : CM IV} {g : D → Rho → Option Rho} {E : CM D} {own : List Nat} (emb : α → D) (t : α → Bool) (f : α → D) (items : List α) (hp : Clo μ) (hlen : items.length ≤ 1000000)
    (hI : Ok (I ρ μ) (fun q μ1 => μ1 = μ ∧ q.1 = items.map emb ∧ ∀ o, q.2 (μ ++ [o]) = true))
    (hs : ∀ x o, x ∈ items → obOk 0 o = true → ∃ ρ1, g (emb x) (wipeR ρ own) = some ρ1 ∧ Ok (T ρ1 (μ ++ [o])) (fun b μ2 => μ2 = μ ++ [o] ∧ b = t x) ∧ (t x = true → Ok (E ρ1 (μ ++ [o])) (fun y μ2 => μ2 = μ ++ [o] ∧ y = f x ∧ noRef 0 (f x) = true)))
    (q : Q (.lst ((items.filter t).map f)) μ) : Ok (eSeal (eLC I g T E own) ρ μ) Q := by
  refine q_lcG (hI.mono ?_)
  rintro ⟨xs, gd⟩ μ1 ⟨rfl, rfl, hgd⟩
  refine lc_ok (acc := []) (fun i acc μ' => μ' = μ1 ++ [.lst acc] ∧ acc = ((items.take i).filter t).map f ∧ noRefs 0 acc = true ∧ acc.length ≤ i) (fun i acc μ' h => by rw [h.1]; exact hgd _) ?_ ?_ ⟨rfl, by simp, rfl, by simp⟩
  · rintro i d acc μ' ed ⟨rfl, ha, hr, hl⟩
    have hil : i < items.length := by
      have := (List.getElem?_eq_some_iff.mp ed).1
      simpa using this
    rw [List.getElem?_map] at ed
    rw [List.getElem?_eq_getElem hil] at ed
    cases ed
    obtain ⟨ρ1, eg, h1, h2⟩ := hs items[i] (.lst acc) (List.getElem_mem hil) hr
    refine ⟨ρ1, eg, h1.mono ?_⟩
    rintro b μ2 ⟨rfl, rfl⟩
    have tk : items.take (i + 1) = items.take i ++ [items[i]] := by simp
    refine ⟨fun hb => (h2 hb).mono ?_, fun hb => ⟨rfl, ?_, hr, by omega⟩⟩
    · rintro y μ2 ⟨rfl, rfl, hy⟩
      refine ⟨by simp, ?_, ?_, ?_, ?_, ?_⟩
      · exact Nat.lt_of_le_of_lt hl (Nat.lt_of_lt_of_le hil (size_ok hlen))
      · rw [List.set_append_right _ _ (by omega)]; simp
      · rw [tk, List.filter_append, List.map_append, ← ha]
        congr 1
        rw [List.filter_cons, if_pos hb]
        rfl
      · exact noRefs_all.mpr fun d hd => by
          rcases List.mem_append.mp hd with h | h
          · exact noRefs_all.mp hr d h
          · rw [List.mem_singleton.mp h]; exact hy
      · simp; omega
    · rw [tk, List.filter_append, List.map_append, ← ha, List.filter_cons, if_neg (by simp [hb])]
      simp
  · rintro acc μ' ⟨rfl, ha, hr, hl⟩
    have e : (List.take (items.map emb).length items) = items := by simp
    rw [e] at ha
    subst ha
    have tk : (μ1 ++ [Ob.lst ((items.filter t).map f)]).take μ1.length = μ1 := by simp
    rw [tk]
    exact ⟨hp.all, _, unref_cell (by simp) (Nat.le_refl _) hr, q⟩
end
/-! ### dicts with text keys -/
def kvS (l : List (Str × D)) : List (Key × D) := l.map fun q => (.inr q.1, q.2)
end DM

namespace DM
open PySem PySem.Spec L2
/-! ### x < y of data that are alike -/
def isNonP : PyData → Bool
  | .none => true
  | _ => false
def ltOk (p q : PyData) : Bool := SeqAt.shaped p && (SeqAt.shaped q && (PySem.W.alike p q && !isNonP p))
def FltD (d e : D) (μ : Store) : Res D := match toPyS μ d, toPyS μ e with
  | some p, some q => if ltOk p q = true then okR (.bl (PySem.W.dataLt p q)) μ else none
  | _, _ => none
def rLtD (K : PySem.W.Frag) : L2.R2 := fun x y H Q => ∃ d e, Dp K H x d ∧ Dp K H y e ∧ ltOk d e = true ∧ Q (.bl (PySem.W.dataLt d e)) H
theorem op_ltD {X : Cx} (hu : X.A.units + 65 < cLine) : OpR X (compareOp .Lt) (rLtD X.K) := by
  intro pins s σ H x y v u Q I rx ry h
  obtain ⟨d, e, hd, he, ok, q⟩ := h
  obtain ⟨h1, ok⟩ := andT ok
  obtain ⟨h2, ok⟩ := andT ok
  obtain ⟨h3, h4⟩ := andT ok
  obtain ⟨as, r1⟩ := Dp.reads I d x v hd rx
  obtain ⟨bs, r2⟩ := Dp.reads I e y u he ry
  have hn : d ≠ .none := fun z => by rw [z] at h4; cases h4
  have dp := SeqAt.depth_of_shaped h1
  have mn : min d.depth e.depth ≤ d.depth := Nat.min_le_left _ _
  exact PySem.W.rcLt_alike d e X.A s v u as bs r1 r2 h3 hn (by omega) X.prog X.w X.xe _ ⟨.bl _, H, I, rfl, q⟩
theorem lift_ltD {K : PySem.W.Frag} : Lift2 K (rLtD K) FltD := by
  intro W σ ι μ H x y d e Q w vx vy h
  unfold FltD at h
  match e1 : toPyS μ d, e2 : toPyS μ e, h with
  | some p, some q, h =>
    obtain ⟨z, h⟩ := PostG.guard h
    exact ⟨p, q, dpS_of w vx e1, dpS_of w vy e2, z, h.ok0 w (.bl _)⟩
section
variable {X : Cx} {W : DW} {a b : Expr} {A B : CM D} {pos : Pos} {k : Nat}
theorem d_ltD (hr : Room k X.A) (ha : PE X a (tE X.K W A)) (hb : PE X b (tE X.K W B)) (hm : behindInMarks .Lt b = false := by rfl) : PE X (.Compare a [.Lt] [b] pos) (tE X.K W (e2 FltD A B)) := d_cmp (op_ltD (units65 hr)) lift_ltD ha hb hm
end
theorem f_ltD {d e : D} {μ : Store} (hd : shp 60 d = true) (he : shp 60 e = true) (ha : PySem.W.alike (pyD d) (pyD e) = true) (hn : isNonP (pyD d) = false) : FltD d e μ = okR (.bl (PySem.W.dataLt (pyD d) (pyD e))) μ := by
  unfold FltD
  rw [toPyS_shp hd, toPyS_shp he]
  simp only [ltOk, shaped_shp hd, shaped_shp he, ha, hn, Bool.not_false, Bool.and_true, if_true]
end DM

namespace DM
open PySem PySem.Spec L2 HandSHeadRun PySem.W PySem.Calls PyProof.Rows
/-! ### the run of the head, looked at piece by piece -/
noncomputable abbrev endX (r : PySem.W.OpenRow) (M : Nat) (w : World) (os : OsState) : Option PySem.W.SharedT := HandSHeadRun.endF (HandSHeadRun.stepQ (HandSHeadRun.denQ HandSHeadRun.tabQ) r.prog w) M r.prog w os
abbrev fragX (n : Nat) (s : PySem.W.SharedT) : PySem.W.Frag := He.frG (HandSHeadRun.getT s) (He.asD (HandSHeadRun.getT s) n)
end DM

namespace DM
open PySem PySem.Spec L2 HandSHeadRun PySem.W PySem.Calls PyProof.Rows
/-! ### the look at the head, at given addresses -/
abbrev fragL (as : List Addr) (s : PySem.W.SharedT) : PySem.W.Frag := He.frG (HandSHeadRun.getT s) as
def obsLG (as : List Addr) (fa : List He.Fa) (fn : List He.DefD) (cs : List (Str × D)) (xf : List (PySem.W.Frag → Bool)) (xs : List DefX) (g : Addr → Option Obj) : AlX := obsX fa fn cs xf xs (He.frG g as)
def hookL (as : List Addr) (fa : List He.Fa) (fn : List He.DefD) (cs : List (Str × D)) (xf : List (PySem.W.Frag → Bool)) (xs : List DefX) : PySem.W.Hook where
  α := AlX
  obs := fun s => obsLG as fa fn cs xf xs s.heap.get?
  val := fun _ => (true, valX xs, He.valD fn)
  says := fun _ h => ∃ K : PySem.W.Frag, K.In h ∧ SaysX fa fn cs xf xs K
  of := fun _ _ e => ⟨_, He.frG_in, congrArg (fun z : AlX => z.2.2) e, congrArg Prod.fst e, congrArg (fun z : AlX => z.2.1) e⟩
  keeps := fun _ _ _ ⟨K, hK, c⟩ k => ⟨K, PySem.W.Frag.In.keeps hK k, c⟩
end DM

namespace DM
open PySem PySem.Spec L2
open PyProof.Rows (envOfC)
/-! ### keyword-only parameters that a call leaves out -/
def dfV (md : List D) (F : FV) : FV := fun ds es μ => F ds (es ++ md) μ
/-- what the def at f holds as defaults of the names ms -/
def kwcV (K : PySem.W.Frag) (ms : List (Str × D)) : Value → Bool
  | .ref D => ms.all fun q => (match PySem.W.nsIn K D q.1 with
    | some (some u) => conV K q.2 u
    | _ => false)
  | _ => false
def kwcA (f : Addr) (ms : List (Str × D)) (K : PySem.W.Frag) : Bool := match K.lookup f with
  | some ⟨_, _, .func fd, _⟩ => kwcV K ms fd.kwdefaults
  | _ => false
section
variable {P : Program} {w : World} {K : PySem.W.Frag} {mg : Str → Option Value} {base : Heap} {x qual : Str} {pa : Arguments} {body : List Stmt} {sc : Scope} {kws : List (Str × V)} {f : Addr} {fd : FuncData} {ms : List (Str × D)}
/-- t looks the names up in the dict at D, one behind another, and goes on as r -/
def KwTo {α : Type} (D : Addr) : List (Str × Value) → Sem α → Sem α → Prop
  | [], t, r => t = r
  | q :: l, t, r => ∃ (β γ : Type) (k1 : Option Value → Sem β) (k2 : β → Sem γ) (k3 : γ → Sem α) (a : β), t = ((nsGet D q.1 >>= k1) >>= k2) >>= k3 ∧ k1 (some q.2) = pure a ∧ KwTo D l (k2 a >>= k3) r
theorem KwTo.wp {α : Type} {M : Model} {A : Around} {D : Addr} {Q : α → Shared → Prop} {E : Value → Shared → Prop} {s : Shared} (X : K.In s.heap) : ∀ {l : List (Str × Value)} {t r : Sem α}, (∀ q ∈ l, PySem.W.nsIn K D q.1 = some (some q.2)) → KwTo D l t r → wpAny M A r Q E s → wpAny M A t Q E s
  | [], t, r, _, e, h => by rw [show t = r from e]; exact h
  | q :: l, t, r, hl, e, h => by
    obtain ⟨β, γ, k1, k2, k3, a, e1, e2, e3⟩ := e
    have l1 : PySem.W.Looks M s.heap (nsGet D q.1 >>= k1) a := (PySem.W.looks_nsIn X (hl q (List.mem_cons_self ..))).andThen (PySem.W.Looks.of_pure e2)
    rw [e1, bind_assoc]
    exact wpAny_bind (l1 A _ E s (fun _ _ z => z) (KwTo.wp X (fun p hp => hl p (List.mem_cons_of_mem _ hp)) e3 h))
theorem Env0.kin {A : Around} {outer : List Env} {s : Shared} {H : Hp} (e : Env0 P w K mg base A outer s H) : K.In s.heap := fun a o h => (e.bs a o (e.mod.kin a o h)).1
end
section
variable {μ : Store} {Q : D → Store → Prop}
end
end DM

namespace DM
open PySem PySem.Spec L2
/-! ### a, b = a list -/
def fLst (is : List Nat) : D → Rho → Option Rho := fun d ρ => match d with
  | .lst ds => setAll is ds ρ
  | _ => none
def sUnpL (is : List Nat) (E : CM D) : SF := lft E fun d ρ μ => match fLst is d ρ with
  | some ρ' => some (.nx ρ', μ)
  | none => none
section
variable {ρ : Rho} {μ : Store} {A : CM D} {Qf : Fl → Store → Prop}
end
end DM

/-! sleeping generators are left alone by what runs where they are poisoned -/
namespace GP
open PySem
open Sem (wp)
def badK : Resume → Sem PySem.Fin := fun _ => .unsupported "poison"
def poison : GenState → GenState
  | .suspended _ l c p fs cl => .suspended badK l c p fs cl
  | x => x
def isSusp : GenState → Bool
  | .suspended .. => true
  | _ => false
def retOnly (fs : List Frame) : Prop := ∀ f ∈ fs, ∀ g k l c p, f ≠ .gen g k l c p
def genOk : GenState → Prop
  | .suspended _ _ _ _ fs _ => retOnly fs
  | _ => True
def endOk : End → Prop
  | .ret _ => True
  | .susp _ _ _ _ _ _ fs => retOnly fs
theorem retOnly_nil : retOnly [] := fun f h => by simp at h
theorem retOnly_split : ∀ {fs : List Frame}, retOnly fs → splitAtGen fs = none
  | [], _ => rfl
  | .ret k h g l c p kp :: fs, q => by
    have := retOnly_split (fs := fs) fun f hf => q f (List.mem_cons_of_mem _ hf)
    simp [splitAtGen, this]
  | .gen g k l c p :: fs, q => absurd rfl (q _ List.mem_cons_self g k l c p)
theorem seen_poison (x : GenState) : (poison x).seen = x.seen := by cases x <;> rfl
theorem genState_ok {e : End} (h : endOk e) : genOk e.genState := by
  cases e with
  | ret _ => trivial
  | susp v g l k c p fs => exact h
structure GRel (g0 gp gr : Array GenState) : Prop where
  sz : gp.size = gr.size
  le : g0.size ≤ gr.size
  at_ : ∀ (i : Nat) x, gr[i]? = some x → (isSusp x = true ∧ g0[i]? = some x ∧ gp[i]? = some (poison x)) ∨ (gp[i]? = some x ∧ genOk x ∧ ∀ y, g0[i]? = some y → isSusp y = false)
structure SR (g0 : Array GenState) (sp sr : Shared) : Prop where
  heap : sp.heap = sr.heap
  drawn : sp.drawn = sr.drawn
  toks : sp.toks = sr.toks
  os : sp.os = sr.os
  gens : GRel g0 sp.gens sr.gens
section
variable {g0 gp gr : Array GenState} {sp sr : Shared}
theorem GRel.real (h : GRel g0 gp gr) {i : Nat} {x : GenState} (e : gp[i]? = some x) : ∃ y, gr[i]? = some y := by
  have hi : i < gp.size := (Array.getElem?_eq_some_iff.mp e).1
  exact ⟨gr[i]'(h.sz ▸ hi), Array.getElem?_eq_getElem _⟩
theorem GRel.push (h : GRel g0 gp gr) {x : GenState} (hx : genOk x) : GRel g0 (gp.push x) (gr.push x) := by
  refine ⟨by simp [h.sz], by simp; have := h.le; omega, fun i y e => ?_⟩
  by_cases hi : i < gr.size
  · rw [Array.getElem?_push_lt hi] at e
    rw [Array.getElem?_push_lt (by rw [h.sz]; exact hi)]
    have e' : gr[i]? = some y := by rw [Array.getElem?_eq_getElem hi]; exact e
    have := h.at_ i y e'
    rw [Array.getElem?_eq_getElem (show i < gp.size by rw [h.sz]; exact hi)] at this
    exact this
  · have hi2 : i = gr.size := by
      have := (Array.getElem?_eq_some_iff.mp e).1
      simp at this
      omega
    subst hi2
    rw [Array.getElem?_push_size] at e
    cases e
    refine .inr ⟨by rw [← h.sz, Array.getElem?_push_size], hx, fun z ez => ?_⟩
    have := (Array.getElem?_eq_some_iff.mp ez).1
    have := h.le
    omega
theorem GRel.set (h : GRel g0 gp gr) {g : Nat} {x : GenState} (hx : genOk x) (hn : ∀ y, g0[g]? = some y → isSusp y = false) : GRel g0 (gp.setIfInBounds g x) (gr.setIfInBounds g x) := by
  refine ⟨by simp [h.sz], by simpa using h.le, fun i y e => ?_⟩
  rw [Array.getElem?_setIfInBounds] at e ⊢
  by_cases hg : g = i
  · subst hg
    rw [if_pos rfl] at e ⊢
    by_cases hl : g < gr.size
    · rw [if_pos hl] at e
      rw [if_pos (by rw [h.sz]; exact hl)]
      cases e
      exact .inr ⟨rfl, hx, hn⟩
    · rw [if_neg hl] at e
      cases e
  · rw [if_neg hg] at e ⊢
    exact h.at_ i y e
/-- what the poisoned one shows of a generator that is no sleeper of before -/
theorem GRel.same (h : GRel g0 gp gr) {i : Nat} {x : GenState} (e : gp[i]? = some x) (hx : ∀ l c p fs cl, x ≠ .suspended badK l c p fs cl) : gr[i]? = some x ∧ genOk x ∧ ∀ y, g0[i]? = some y → isSusp y = false := by
  obtain ⟨y, ey⟩ := h.real e
  rcases h.at_ i y ey with ⟨hs, _, h2⟩ | ⟨h1, h2, h3⟩
  · rw [e] at h2
    cases y with
    | suspended k l c p fs cl =>
      exact absurd (Option.some.inj h2) (hx l c p fs cl)
    | _ => simp [isSusp] at hs
  · rw [e] at h1
    cases h1
    exact ⟨ey, h2, h3⟩
theorem GRel.seen (h : GRel g0 gp gr) {i : Nat} {x : GenState} (e : gp[i]? = some x) : ∃ y, gr[i]? = some y ∧ y.seen = x.seen := by
  obtain ⟨y, ey⟩ := h.real e
  refine ⟨y, ey, ?_⟩
  rcases h.at_ i y ey with ⟨_, _, h2⟩ | ⟨h1, _, _⟩
  · rw [e] at h2
    rw [Option.some.inj h2, seen_poison]
  · rw [e] at h1
    rw [Option.some.inj h1]
theorem SR.setGen (h : SR g0 sp sr) {g : Nat} {x : GenState} (hx : genOk x) (hn : ∀ y, g0[g]? = some y → isSusp y = false) : SR g0 (sp.setGen g x) (sr.setGen g x) := ⟨h.heap, h.drawn, h.toks, h.os, h.gens.set hx hn⟩
end
theorem bad_no {M : Model} {Γ : Ctx} {p : Pos} {r : Resume} {fs : List Frame} {s s' : Shared} {e : End} (h : Runs M Γ p (badK r) fs s e s') : False := by
  generalize ht : badK r = t at h
  unfold badK at ht
  induction h <;> (try cases ht) <;> simp_all
/-- the same run where the sleepers are whole -/
theorem runs_real {M : Model} {g0 : Array GenState} {Γ : Ctx} {p : Pos} {t : Sem PySem.Fin} {fs : List Frame} {sp sp' : Shared} {e : End} (h : Runs M Γ p t fs sp e sp') : ∀ sr, SR g0 sp sr → retOnly fs → ∃ sr', Runs M Γ p t fs sr e sr' ∧ SR g0 sp' sr' ∧ endOk e := by
  induction h with
  | done => exact fun sr q _ => ⟨sr, .done, q, trivial⟩
  | raise => exact fun sr q _ => ⟨sr, .raise, q, trivial⟩
  | again hc _ ih => exact fun sr q r => let ⟨sr', a, b, c⟩ := ih sr q r; ⟨sr', .again hc a, b, c⟩
  | rule _ ih => exact fun sr q r => let ⟨sr', a, b, c⟩ := ih sr q r; ⟨sr', .rule a, b, c⟩
  | «at» _ ih => exact fun sr q r => let ⟨sr', a, b, c⟩ := ih sr q r; ⟨sr', .at a, b, c⟩
  | load ho _ ih => exact fun sr q r => let ⟨sr', a, b, c⟩ := ih sr q r; ⟨sr', .load (q.heap ▸ ho) a, b, c⟩
  | update ho _ ih => exact fun sr q r => let ⟨sr', a, b, c⟩ := ih { sr with heap := sr.heap.update _ _ } ⟨by rw [← q.heap], q.drawn, q.toks, q.os, q.gens⟩ r; ⟨sr', .update (q.heap ▸ ho) a, b, c⟩
  | loadIfAlive _ ih => exact fun sr q r => let ⟨sr', a, b, c⟩ := ih sr q r; ⟨sr', .loadIfAlive (q.heap ▸ a), b, c⟩
  | point _ ih => exact fun sr q r => let ⟨sr', a, b, c⟩ := ih sr q r; ⟨sr', .point a, b, c⟩
  | alloc _ ih => exact fun sr q r => let ⟨sr', a, b, c⟩ := ih { sr with heap := sr.heap.push _ } ⟨congrArg (fun h => Heap.push h _) q.heap, q.drawn, q.toks, q.os, q.gens⟩ r; ⟨sr', .alloc (by rw [← q.heap]; rw [← q.heap] at a; exact a), b, c⟩
  | fresh _ ih => exact fun sr q r => let ⟨sr', a, b, c⟩ := ih { sr with toks := sr.toks + 1 } ⟨q.heap, q.drawn, by rw [← q.toks], q.os, q.gens⟩ r; ⟨sr', .fresh (by rw [← q.toks]; rw [← q.toks] at a; exact a), b, c⟩
  | ask _ ih => exact fun sr q r => let ⟨sr', a, b, c⟩ := ih sr q r; ⟨sr', .ask a, b, c⟩
  | choose hn h1 ih =>
    rename_i n Γ p k s e s' src
    intro sr q r
    obtain ⟨sr', a, b, c⟩ := ih { sr with drawn := sr.drawn.bump src } ⟨q.heap, by show s.drawn.bump src = sr.drawn.bump src; rw [q.drawn], q.toks, q.os, q.gens⟩ r
    rw [q.drawn] at a
    exact ⟨sr', .choose hn a, b, c⟩
  | os h1 ih =>
    rename_i Γ p k s e s' o l
    intro sr q r
    obtain ⟨sr', a, b, c⟩ := ih { sr with os := (Os.step sr.os o).1 } ⟨q.heap, q.drawn, q.toks, by show (Os.step s.os o).1 = (Os.step sr.os o).1; rw [q.os], q.gens⟩ r
    rw [q.os] at a
    exact ⟨sr', .os a, b, c⟩
  | handled _ ih => exact fun sr q r => let ⟨sr', a, b, c⟩ := ih sr q r; ⟨sr', .handled a, b, c⟩
  | genState hs _ ih => exact fun sr q r => let ⟨sr', a, b, c⟩ := ih sr q r; let ⟨y, ey, es⟩ := q.gens.seen hs; ⟨sr', .genState ey (es ▸ a), b, c⟩
  | stack _ ih => exact fun sr q r => let ⟨sr', a, b, c⟩ := ih sr q r; ⟨sr', .stack a, b, c⟩
  | thread _ ih => exact fun sr q r => let ⟨sr', a, b, c⟩ := ih sr q r; ⟨sr', .thread a, b, c⟩
  | newGen _ ih => exact fun sr q r => let ⟨sr', a, b, c⟩ := ih { sr with gens := sr.gens.push _ } ⟨q.heap, q.drawn, q.toks, q.os, q.gens.push trivial⟩ r; ⟨sr', .newGen (by rw [← q.gens.sz]; exact a), b, c⟩
  | call _ _ ih1 ih2 =>
    intro sr q r
    obtain ⟨s1, a1, b1, _⟩ := ih1 sr q retOnly_nil
    obtain ⟨s2, a2, b2, c2⟩ := ih2 s1 b1 r
    exact ⟨s2, .call a1 a2, b2, c2⟩
  | callSusp _ ih1 =>
    intro sr q r
    obtain ⟨s1, a1, b1, c1⟩ := ih1 sr q retOnly_nil
    refine ⟨s1, .callSusp a1, b1, fun f hf => ?_⟩
    rcases List.mem_append.mp hf with hf | hf
    · exact c1 f hf
    · rw [List.mem_singleton.mp hf]
      exact fun _ _ _ _ _ z => by cases z
  | yield => exact fun sr q _ => ⟨sr, .yield, q, retOnly_nil⟩
  | resumeFresh hg _ hq _ ih1 ih2 =>
    intro sr q r
    obtain ⟨e1, _, e3⟩ := q.gens.same hg (fun _ _ _ _ _ z => by cases z)
    obtain ⟨s1, a1, b1, c1⟩ := ih1 _ (q.setGen (x := .running) trivial e3) retOnly_nil
    obtain ⟨s2, a2, b2, c2⟩ := ih2 _ (b1.setGen (genState_ok c1) e3) r
    exact ⟨s2, .resumeFresh e1 a1 hq a2, b2, c2⟩
  | resumeSuspended hg hrun hq _ ih1 ih2 =>
    intro sr q r
    obtain ⟨e1, e2, e3⟩ := q.gens.same hg (fun l c p fs cl z => by
      cases z
      exact bad_no hrun)
    obtain ⟨s1, a1, b1, c1⟩ := ih1 _ (q.setGen (x := .running) trivial e3) e2
    obtain ⟨s2, a2, b2, c2⟩ := ih2 _ (b1.setGen (genState_ok c1) e3) r
    exact ⟨s2, .resumeSuspended e1 a1 hq a2, b2, c2⟩
  | resumeJustStarted hg hv _ ih =>
    intro sr q r
    obtain ⟨e1, _, e3⟩ := q.gens.same hg (fun _ _ _ _ _ z => by cases z)
    obtain ⟨s1, a1, b1, c1⟩ := ih sr q r
    exact ⟨s1, .resumeJustStarted e1 hv a1, b1, c1⟩
  | resumeThrowFresh hg _ ih =>
    intro sr q r
    obtain ⟨e1, _, e3⟩ := q.gens.same hg (fun _ _ _ _ _ z => by cases z)
    obtain ⟨s1, a1, b1, c1⟩ := ih _ (q.setGen (x := .finished) trivial e3) r
    exact ⟨s1, .resumeThrowFresh e1 a1, b1, c1⟩
  | resumeRunning hg _ ih =>
    intro sr q r
    obtain ⟨e1, _, e3⟩ := q.gens.same hg (fun _ _ _ _ _ z => by cases z)
    obtain ⟨s1, a1, b1, c1⟩ := ih sr q r
    exact ⟨s1, .resumeRunning e1 a1, b1, c1⟩
  | resumeFinished hg _ ih =>
    intro sr q r
    obtain ⟨e1, _, e3⟩ := q.gens.same hg (fun _ _ _ _ _ z => by cases z)
    obtain ⟨s1, a1, b1, c1⟩ := ih sr q r
    exact ⟨s1, .resumeFinished e1 a1, b1, c1⟩
  | segRet _ _ ih1 ih2 =>
    intro sr q r
    obtain ⟨s1, a1, b1, _⟩ := ih1 sr q retOnly_nil
    obtain ⟨s2, a2, b2, c2⟩ := ih2 s1 b1 fun f hf => r f (List.mem_cons_of_mem _ hf)
    exact ⟨s2, .segRet a1 a2, b2, c2⟩
  | segGen _ _ ih1 ih2 => exact fun sr q r => absurd rfl (r _ List.mem_cons_self _ _ _ _ _)
  | segSuspOut hs _ ih1 =>
    intro sr q r
    obtain ⟨s1, a1, b1, c1⟩ := ih1 sr q retOnly_nil
    refine ⟨s1, .segSuspOut hs a1, b1, fun f hf => ?_⟩
    rcases List.mem_append.mp hf with hf | hf
    · exact c1 f hf
    · exact r f hf
  | segSuspGen hs _ hq _ ih1 ih2 =>
    intro sr q r
    rw [retOnly_split r] at hs
    cases hs
end GP

namespace GP
open PySem
open Sem (wp)
theorem unsup_no {M : Model} {Γ : Ctx} {p : Pos} {w : String} {fs : List Frame} {s s' : Shared} {e : End} (h : Runs M Γ p (.unsupported w) fs s e s') : False := by
  generalize ht : (Sem.unsupported w : Sem PySem.Fin) = t at h
  induction h <;> (try cases ht) <;> simp_all
open Classical in
theorem wakes_real {M : Model} {g0 : Array GenState} {Γ : Ctx} {p : Pos} {g : Nat} {r : Resume} {res : GenResult} {sp sp' sr : Shared} (h : Wakes M Γ p g r sp res sp') (q : SR g0 sp sr) : ∃ sr', Wakes M Γ p g r sr res sr' ∧ SR g0 sp' sr' := by
  have h1 : Runs M Γ p (.resume g r [] fun x => if x = res then (.pure (.done .next) : Sem PySem.Fin) else .unsupported "") [] sp (.ret (.ok .next)) sp' :=
    (Sem.runs_resume_iff M _).mpr ⟨res, sp', h, by rw [if_pos rfl]; exact .done⟩
  obtain ⟨sr', a, b, _⟩ := runs_real h1 sr q retOnly_nil
  obtain ⟨res', s1, w, hr⟩ := (Sem.runs_resume_iff M _).mp a
  by_cases e : res' = res
  · subst e
    rw [if_pos rfl] at hr
    have e2 : s1 = sr' := by cases hr; rfl
    subst e2
    exact ⟨s1, w, b⟩
  · rw [if_neg e] at hr
    exact (unsup_no hr).elim
def poisoned (s : Shared) : Shared := { s with gens := s.gens.map poison }
theorem SR.start (s : Shared) (h : ∀ x ∈ s.gens, isSusp x = false → genOk x) : SR s.gens (poisoned s) s := by
  refine ⟨rfl, rfl, rfl, rfl, ⟨by simp [poisoned], Nat.le_refl _, fun i x e => ?_⟩⟩
  have e2 : (poisoned s).gens[i]? = some (poison x) := by
    show (s.gens.map poison)[i]? = _
    rw [Array.getElem?_map, e]; rfl
  cases hx : isSusp x with
  | true => exact .inl ⟨rfl, e, e2⟩
  | false =>
    have ep : poison x = x := by cases x <;> first | rfl | cases hx
    rw [ep] at e2
    exact .inr ⟨e2, h x (Array.mem_of_getElem? e) hx, fun y ey => by rw [e] at ey; cases ey; exact hx⟩
theorem poison_bare (x : GenState) : (poison x).bare = x.bare := by cases x <;> rfl
theorem SR.bare {g0 : Array GenState} {sp sr : Shared} (q : SR g0 sp sr) (h : ∀ x ∈ sp.gens, x.bare = true) : ∀ x ∈ sr.gens, x.bare = true := by
  intro x hx
  obtain ⟨i, hi, e⟩ := Array.mem_iff_getElem.mp hx
  have e' : sr.gens[i]? = some x := by rw [Array.getElem?_eq_getElem hi, e]
  rcases q.gens.at_ i x e' with ⟨_, _, h2⟩ | ⟨h1, _, _⟩
  · have := h _ (Array.mem_of_getElem? h2)
    rw [poison_bare] at this
    exact this
  · exact h _ (Array.mem_of_getElem? h1)
end GP

namespace GP
open PySem PySem.Spec L2 PyProof.Rows
/-! ### a loop over a generator's object -/
def Ext (H H' : Hp) : Prop := ∀ b o, H b = some o → H' b = some o
/-- as tFor; the last turn may track more -/
def tForG (wi : TI) (g : TG) (tb : TS) : TS := fun D σ H => wi σ H fun J H1 => ∃ W : Nat → Nat → L2.St → Hp → Prop, (∃ m, W 0 m σ H1) ∧ ∀ i m σ H, W i m σ H →
  (J.stop i H ∧ ∀ H', Ext H H' → D.nx σ H') ∨ (J.go i H ∧ ∃ N : L2.St → Hp → Prop, (∀ σ' H', N σ' H' → ∃ m', m' < m ∧ W (i + 1) m' σ' H') ∧ ∀ x H', J.yld i H x H' → g x σ H' fun σ2 H2 => tb { D with nx := N, ct := N, bk := D.nx } σ2 H2)
structure GTurn (X : Cx) (tg : Expr) (J : It) (g : Nat) (it : Addr) (pins : List (Addr × Obj)) (tn : Nat → Shared → List Addr → Prop) : Prop where
  obj : ∀ i s fp, tn i s fp → ∀ b ∈ fp, ∃ o, s.heap.get? b = some o ∧ ∀ v, o.data ≠ .cell v
  keep : ∀ i s s' fp pins' σ H, tn i s fp → Inv X pins' σ H s' → (∀ b ∈ fp, ∀ o, s.heap.get? b = some o → s'.heap.get? b = some o) → s'.gens[g]? = s.gens[g]? → tn i s' fp
  item : ∀ (i : Nat) (s : Shared) (σ : L2.St) (H : Hp) (fp : List Addr), Inv X pins σ H s → (∀ b ∈ fp, FpOk X pins H b) → tn i s fp → J.go i H →
    wpAny (model X.prog X.w) X.A (pyNext (.ref it)) (fun r s1 => ∃ u, r = some u ∧
      wpAny (model X.prog X.w) X.A (letOwnedTupleGo tg (.ref it) u) (fun _ s2 => ∃ x H' fp', Inv X pins σ H' s2 ∧ RelV x u ∧ J.yld i H x H' ∧ tn (i + 1) s2 fp' ∧ (∃ y, s2.gens[g]? = some y ∧ isSusp y = true) ∧ ∀ b ∈ fp', FpOk X pins H' b) X.xe s1) X.xe s
  done : ∀ (i : Nat) (s : Shared) (σ : L2.St) (H : Hp) (fp : List Addr), Inv X pins σ H s → (∀ b ∈ fp, FpOk X pins H b) → tn i s fp → J.stop i H →
    wpAny (model X.prog X.w) X.A (pyNext (.ref it)) (fun r s1 => r = none ∧ ∃ H', Inv X pins σ H' s1 ∧ Ext H H') X.xe s
def PGE (X : Cx) (pins : List (Addr × Obj)) (σ : L2.St) (tg : Expr) (R : It → Hp → Prop) (itv : Value) (s2 : Shared) : Prop :=
  ∃ (it : Addr) (g : Nat) (fp : List Addr) (tn : Nat → Shared → List Addr → Prop) (J : It) (H' : Hp), itv = .ref it ∧ Inv X pins σ H' s2 ∧ GTurn X tg J g it pins tn ∧ tn 0 s2 fp ∧ (∀ b ∈ fp, FpOk X pins H' b) ∧ R J H'
structure PIG (X : Cx) (tg iter : Expr) (wi : TI) : Prop where
  run : ∀ (pins : List (Addr × Obj)) (s : Shared) (σ : L2.St) (H : Hp) (R : It → Hp → Prop), Inv X pins σ H s → wi σ H R →
    wpAny (model X.prog X.w) X.A (eval iter X.env) (fun v s1 => wpAny (model X.prog X.w) X.A (pyIter v) (PGE X pins σ tg R) X.xe s1) X.xe s
end GP

namespace GP
open PySem PySem.Spec L2 PyProof.Rows GenW
/-! ### for, within a generator (no exception) -/
section
variable {M : Model} {A : Around} {R : GenEnd} {Y : Protocol} {n : Nat} {s₀ : Shared} {c : Code} {fs : List Frame} {s : Shared} {env : Env}
  {K : Flow → Sem PySem.Fin} {H : Value → Sem PySem.Fin} {gd : Bool → Bool} {lv : List Value → List Value}
def ff : Value → Shared → Prop := fun _ _ => False
def backK (env : Env) (K : Flow → Sem PySem.Fin) (H : Value → Sem PySem.Fin) (gd : Bool → Bool) (lv : List Value → List Value) : Result → Sem PySem.Fin := fun r => ((match r with | .ok f => (.pure f : Sem Flow) | .error e => .raise e).onRaise fun (x : Value) => do
        if (← field x 1) == Value.none then unsupported "frame.own-activation:exception-without-traceback"
        setFlight x env.frame).wrap K H gd lv
end
section
variable {prog : Program} {w : World} {A : Around} {R : GenEnd} {Y : Protocol} {n : Nat} {s₀ : Shared} {fs : List Frame} {s : Shared} {env : Env}
end
end GP

namespace GP
open PySem PySem.Spec L2 PyProof.Rows GenW
/-! ### one segment of a generator's run -/
def Seg1 (M : Model) (A : Around) (Φ : End → Shared → Prop) (c : Code) (t : Sem PySem.Fin) (fs : List Frame) (s : Shared) : Prop := ∀ Γ p, Γ.code = c → Γ.Woken A → ∃ e s', Runs M Γ p t fs s e s' ∧ Φ e s'
section
variable {M : Model} {A : Around} {Φ : End → Shared → Prop} {c : Code} {fs : List Frame} {s : Shared} {env : Env}
variable {K : Flow → Sem PySem.Fin} {H : Value → Sem PySem.Fin} {gd : Bool → Bool} {lv : List Value → List Value}
end
section
variable {prog : Program} {w : World} {A : Around} {Φ : End → Shared → Prop} {fs : List Frame} {s : Shared} {env : Env}
end
end GP

namespace GP
open PySem PySem.Spec L2 PyProof.Rows GenW DM
/-! ### the heap below an address -/
def cutH (h : Heap) (L : Nat) : Heap := ⟨h.objs.extract 0 L, h.life⟩
theorem cutH_get {h : Heap} {L b : Nat} : (cutH h L).get? b = if b < L then h.get? b else none := by
  unfold cutH Heap.get?
  by_cases hb : b < L
  · rw [if_pos hb]
    have : (h.objs.extract 0 L)[b]? = h.objs[b]? := by
      rw [Array.getElem?_extract]
      by_cases hs : b < h.objs.size
      · simp [hb, hs, Nat.lt_min]
      · rw [if_neg (by omega), Array.getElem?_eq_none (by omega)]
    simp only [this]
  · rw [if_neg hb]
    have : (h.objs.extract 0 L)[b]? = none := Array.getElem?_eq_none (by simp; omega)
    simp only [this]
theorem cutH_size {h : Heap} {L : Nat} : (cutH h L).objs.size = min L h.objs.size := by unfold cutH; simp
theorem Ext.refl (H : Hp) : Ext H H := fun _ _ h => h
theorem Ext.trans {H1 H2 H3 : Hp} (a : Ext H1 H2) (b : Ext H2 H3) : Ext H1 H3 := fun x o h => b x o (a x o h)
/-- a generator's call -/
structure Gp where
  P : Program
  w : World
  K : PySem.W.Frag
  mg : Str → Option Value
  base : Heap
  N : List Str
  qual : Str
  sc : Scope
  f : Addr
  cd : Value
  A : Around
  outer : List Env
  L : Nat
  pn : List (Addr × Obj)
/-- the same, with these guests -/
abbrev Gp.wi (G : Gp) (gp : List (Addr × Obj)) : Gp := { G with pn := gp }
abbrev Gp.env (G : Gp) : Env := envOfC G.qual G.sc G.L G.f G.cd
structure Gp.Ok (G : Gp) : Prop where
  kind : G.sc.kind = .function
  co : G.sc.isCoroutine = false
  ce : cellsFrom (G.L + 1) G.sc.names [] = []
  nc : ∀ x, G.sc.names.lookup x ≠ some .cell ∧ G.sc.names.lookup x ≠ some .free
  hd : G.A.handled = none
  bL : G.base.objs.size ≤ G.L
  fL : ∀ b ∈ frs G.outer, b < G.L
abbrev Gp.E0 (G : Gp) (s : Shared) (H : Hp) : Prop := Env0 G.P G.w G.K G.mg G.base G.A G.outer s H
/-- the context of a segment that begins at s -/
def Gp.X (G : Gp) (s : Shared) (H : Hp) : Cx where
  prog := G.P
  w := G.w
  K := G.K
  mg := G.mg
  base := G.base
  A := G.A.deeper G.env
  N := G.N
  s_0 := { s with heap := cutH s.heap G.L }
  H_0 := H
  env := G.env
  outer := G.outer
  stack := G.env :: G.outer
  ex := []
  fn := fun _ => true
  calm := true
  pn := G.pn
  xe := ff
theorem funs_cut {h base : Heap} {L : Nat} : ∀ {l : List Env}, h.FunFrames base l → (∀ b ∈ frs l, b < L) → (cutH h L).FunFrames base l
  | [], _, _ => trivial
  | env :: r, ⟨h1, ⟨L0, o, hf, hb, ho, hd⟩, h3⟩, hl => by
    have m0 : L0 ∈ frs (env :: r) := by unfold frs; rw [List.filterMap_cons, hf]; exact List.mem_cons_self
    refine ⟨h1, ⟨L0, o, hf, hb, by rw [cutH_get, if_pos (hl L0 m0)]; exact ho, hd⟩, funs_cut h3 fun b hb => hl b ?_⟩
    unfold frs at hb ⊢
    rw [List.filterMap_cons, hf]
    exact List.mem_cons_of_mem _ hb
section
variable {G : Gp} (ok : G.Ok)
include ok
theorem Gp.Ok.nocell {x : Str} {c : Addr} (h : G.env.cells.lookup x = some c) : False := by
  have e : G.env.cells = [] := ok.ce
  rw [e] at h; simp at h
theorem Gp.Ok.cx {s : Shared} {H : Hp} (e0 : G.E0 s H) : (G.X s H).Ok := by
  refine ⟨e0.mod, ok.kind, rfl, rfl, ?_, fun x y c h => (ok.nocell h).elim, fun x hx => ?_, fun x c _ h => (ok.nocell h).elim, fun _ => ok.hd, Around.frames_deeper e0.frames, .inr ⟨rfl, rfl⟩, fun b hb => absurd hb (by simp [Gp.X]), fun b o e => ?_, ?_, fun b o _ hb => absurd hb (by simp [Gp.X]), fun b hb => absurd hb (by simp [Gp.X]), funs_cut e0.funs ok.fL, e0.frf⟩
  · show (cutH s.heap G.L).objs.size ≤ G.L
    rw [cutH_size]; omega
  · have hx : G.sc.names.lookup x = some .cell ∨ G.sc.names.lookup x = some .free := hx
    rcases hx with z | z
    · exact absurd z (ok.nc x).1
    · exact absurd z (ok.nc x).2
  · obtain ⟨e1, e2⟩ := e0.bs b o e
    refine ⟨?_, e2⟩
    show (cutH s.heap G.L).get? b = some o
    rw [cutH_get, if_pos (Nat.lt_of_lt_of_le (Heap.lt_size e) ok.bL)]
    exact e1
  · show G.base.objs.size ≤ (cutH s.heap G.L).objs.size
    rw [cutH_size]
    have := e0.bsz
    have := ok.bL
    omega
theorem Gp.Ok.wi (gp : List (Addr × Obj)) : (G.wi gp).Ok := ⟨ok.kind, ok.co, ok.ce, ok.nc, ok.hd, ok.bL, ok.fL⟩
end
/-! ### atoms -/
def atomV : D → Option V
  | .non => some .non
  | .bl b => some (.bl b)
  | .int i => some (.int i)
  | .str x => some (.str x)
  | _ => none
theorem atom_vr {K : PySem.W.Frag} {ι : List Addr} {H : Hp} {d : D} {v : V} (h : atomV d = some v) : VR K ι H v d := by
  cases d with
  | non => cases h; exact .non
  | bl b => cases h; exact .bl b
  | int i => cases h; exact .int i
  | str x => cases h; exact .str x
  | _ => cases h
structure SA (σ : L2.St) (ρ : Rho) : Prop where
  len : σ.length = ρ.length
  at_ : ∀ (i : Nat) (d : D), ρ[i]? = some (some d) → ∃ v, σ[i]? = some (some v) ∧ atomV d = some v
theorem SA.sr {K : PySem.W.Frag} {ι : List Addr} {H : Hp} {σ : L2.St} {ρ : Rho} (h : SA σ ρ) : DM.SR K ι H σ ρ := ⟨h.len, fun i d e => let ⟨v, a, b⟩ := h.at_ i d e; ⟨v, a, atom_vr b⟩⟩
theorem SA.set {σ : L2.St} {ρ : Rho} {i : Nat} {d : D} {v : V} (h : SA σ ρ) (hv : atomV d = some v) : SA (σ.set i (some v)) (ρ.set i (some d)) := by
  refine ⟨by simp [h.len], fun j e hj => ?_⟩
  by_cases z : i = j
  · subst z
    have hl : i < (ρ.set i (some d)).length := (List.getElem?_eq_some_iff.mp hj).1
    rw [List.length_set] at hl
    rw [List.getElem?_set_self hl] at hj
    cases hj
    exact ⟨v, List.getElem?_set_self (by rw [h.len]; exact hl), hv⟩
  · rw [List.getElem?_set_ne z] at hj
    obtain ⟨u, a, b⟩ := h.at_ j e hj
    exact ⟨u, by rw [List.getElem?_set_ne z]; exact a, b⟩
/-- an iterator that hands out these atoms, whatever is tracked -/
def ItC (J : It) (ds : List D) : Prop := ∀ i H, (∀ d, ds[i]? = some d → J.go i H ∧ ∀ x H', J.yld i H x H' → Ext H H' ∧ atomV d = some x) ∧ (ds.length ≤ i → J.stop i H)
structure PIC (X : Cx) (tg iter : Expr) (I : Rho → Option (List D)) : Prop where
  run : ∀ (pins : List (Addr × Obj)) (s : Shared) (σ : L2.St) (H : Hp) (ρ : Rho) (ds : List D), Inv X pins σ H s → SA σ ρ → I ρ = some ds →
    wpAny (model X.prog X.w) X.A (eval iter X.env) (fun v s1 => wpAny (model X.prog X.w) X.A (pyIter v) (PIE X pins σ tg (fun J H' => Ext H H' ∧ ItC J ds)) X.xe s1) X.xe s
end GP

namespace GP
open PySem PySem.Spec L2 PyProof.Rows GenW DM
/-! ### a generator of these items -/
/-- what a segment leaves -/
structure SegOk (G : Gp) (sr : Shared) (Hr H1 : Hp) (s : Shared) : Prop where
  os : s.os = sr.os
  bare : AllBare s.gens
  un : Un (frs G.outer) [] Hr H1 (cutH sr.heap G.L) s.heap
  hok : HOk G.P G.w H1 s.heap
  ext : Ext Hr H1
  gst : ∀ q ∈ G.pn, s.heap.get? q.1 = some q.2 ∧ H1 q.1 = none
theorem SegOk.of {G : Gp} {sr : Shared} {Hr H1 : Hp} {ip : List (Addr × Obj)} {σ : L2.St} {s : Shared} (I : L2.Inv (G.X sr Hr) ip σ H1 s) (e : Ext Hr H1) : SegOk G sr Hr H1 s := ⟨I.os, I.bare, I.base, I.hok, e, fun q hq => let ⟨p1, p2, _⟩ := I.pin q (List.mem_append_left _ hq); ⟨p1, p2⟩⟩
/-- asleep: what it needs stands at objs, and is not tracked -/
structure Wake (G : Gp) (objs : List (Addr × Obj)) (s : Shared) (H : Hp) : Prop where
  e0 : G.E0 s H
  at_ : ∀ p ∈ objs, s.heap.get? p.1 = some p.2
  no : ∀ p ∈ objs, H p.1 = none
  gst : ∀ q ∈ G.pn, s.heap.get? q.1 = some q.2 ∧ H q.1 = none ∧ q.1 ≠ G.L ∧ q.1 ∉ frs G.outer ∧ (∀ v, q.2.data ≠ .cell v) ∧ ∀ p ∈ objs, p.1 ≠ q.1
/-- the end of a segment with n items left -/
def Phi : Gp → List D → Nat → Shared → Hp → End → Shared → Prop
  | G, all, 0, sr, Hr, e, s => match e with
    | .ret r => (r = .ok (.ret .none) ∨ r = .ok .next) ∧ ∃ H1, SegOk G sr Hr H1 s
    | .susp .. => False
  | G, all, m + 1, sr, Hr, e, s => match e with
    | .ret _ => False
    | .susp v g l k c p fs => (End.susp v g l k c p fs).quiet = true ∧ ∃ (d : D) (x : V) (H1 : Hp) (objs : List (Addr × Obj)), all[all.length - (m + 1)]? = some d ∧ RelV x v ∧ VR G.K [] H1 x d ∧ SegOk G sr Hr H1 s ∧
        (∀ q ∈ objs, s.heap.get? q.1 = some q.2 ∧ H1 q.1 = none ∧ G.L ≤ q.1 ∧ ∀ v, q.2.data ≠ .cell v) ∧ (∀ q ∈ G.pn, ∀ p ∈ objs, p.1 ≠ q.1) ∧
        ∀ gp s' H', Wake (G.wi gp) objs s' H' → Seg1 (model G.P G.w) G.A (Phi (G.wi gp) all m s' H') c (k (.send .none)) fs s'
/-- running -/
structure GRun (G : Gp) (sr : Shared) (Hr : Hp) (ip : List (Addr × Obj)) (ρ : Rho) (s : Shared) : Prop where
  ex : ∃ σ H, L2.Inv (G.X sr Hr) ip σ H s ∧ SA σ ρ ∧ Ext Hr H
  e0 : G.E0 sr Hr
  gd : ∀ q ∈ G.pn, ∀ p ∈ ip, p.1 ≠ q.1
  ip : ∀ p ∈ ip, G.L ≤ p.1
  le : G.L ≤ sr.heap.objs.size
abbrev GD := Rho → Option (List D × Rho)
/-- where the code stands -/
structure GC1 (G : Gp) (c : Code) (fs : List Frame) (gd : Bool → Bool) : Prop where
  over : G.A.over c fs = G.A.deeper G.env
  split : splitAtGen fs = none
  guard : fs.any Frame.guarded = false
  gd : gd false = false
def KOk (G : Gp) (all : List D) (i : Nat) (ip : List (Addr × Obj)) (ρ : Rho) (c : Code) (fs : List Frame) (t : Sem PySem.Fin) : Prop := ∀ gp sr Hr s, GRun (G.wi gp) sr Hr ip ρ s → Seg1 (model G.P G.w) G.A (Phi (G.wi gp) all (all.length - i) sr Hr) c t fs s
structure GSD (G : Gp) (all : List D) (st : List Stmt) (F : GD) : Prop where
  run : ∀ (i : Nat) (ip : List (Addr × Obj)) (ρ ρ' : Rho) (ys : List D) (c : Code) (fs : List Frame) (KK : Flow → Sem PySem.Fin) (HH : Value → Sem PySem.Fin) (gd : Bool → Bool) (lv : List Value → List Value),
    GC1 G c fs gd → F ρ = some (ys, ρ') → i + ys.length ≤ all.length → (∀ j d, ys[j]? = some d → all[i + j]? = some d) → KOk G all (i + ys.length) ip ρ' c fs (KK .next) → KOk G all i ip ρ c fs ((execs st G.env).wrap KK HH gd lv)
structure GS1 (G : Gp) (all : List D) (st : Stmt) (F : GD) : Prop where
  run : ∀ (i : Nat) (ip : List (Addr × Obj)) (ρ ρ' : Rho) (ys : List D) (c : Code) (fs : List Frame) (KK : Flow → Sem PySem.Fin) (HH : Value → Sem PySem.Fin) (gd : Bool → Bool) (lv : List Value → List Value),
    GC1 G c fs gd → F ρ = some (ys, ρ') → i + ys.length ≤ all.length → (∀ j d, ys[j]? = some d → all[i + j]? = some d) → KOk G all (i + ys.length) ip ρ' c fs (KK .next) → KOk G all i ip ρ c fs ((exec st G.env).wrap KK HH gd lv)
def gdNil : GD := fun ρ => some ([], ρ)
def gdSeq (F F' : GD) : GD := fun ρ => match F ρ with
  | some (ys, ρ1) => (match F' ρ1 with
    | some (zs, ρ2) => some (ys ++ zs, ρ2)
    | none => none)
  | none => none
section
variable {G : Gp} {all : List D}
/-! ### yield -/
def gdYield (E : CM D) : GD := fun ρ => match E ρ [] with
  | some (.ok d, []) => some ([d], ρ)
  | _ => none
/-! ### for -/
def gdFold (j : Nat) (F : GD) : List D → Rho → Option (List D × Rho)
  | [], ρ => some ([], ρ)
  | d :: r, ρ => match F (ρ.set j (some d)) with
    | some (ys, ρ1) => (match gdFold j F r ρ1 with
      | some (zs, ρ2) => some (ys ++ zs, ρ2)
      | none => none)
    | none => none
def gdFor (I : Rho → Option (List D)) (j : Nat) (F : GD) : GD := fun ρ => match I ρ with
  | some ds => gdFold j F ds ρ
  | none => none
end
end GP

namespace GP
open PySem PySem.Spec L2 PyProof.Rows GenW DM
/-! ### the next item of a generator's object -/
def Go1 (M : Model) (A : Around) (Φ : End → Shared → Prop) : GenState → Shared → Prop
  | .fresh c, s => Seg1 M A Φ c (M.den c) [] s
  | .suspended k _ c _ fs _, s => Seg1 M A Φ c (k (.send .none)) fs s
  | _, _ => False
def NextOk (G : Gp) (all : List D) (n : Nat) (gs : GenState) (s : Shared) (H : Hp) : Prop := Go1 (model G.P G.w) G.A (Phi G all n s H) gs s
section
variable {G : Gp} {all : List D} {A : Around} {E : Value → Shared → Prop} {s : Shared} {H : Hp}
end
/-! ### the consumer's invariant behind a segment -/
/-- older than the generator: the consumer's frame, its cells, its pins -/
structure Older (X : Cx) (pins : List (Addr × Obj)) (L : Nat) : Prop where
  loc : @LT.lt Nat _ X.env.locals L
  cell : ∀ x (c : Nat), X.env.cells.lookup x = some c → c < L
  pin : ∀ p ∈ X.pn ++ pins, @LT.lt Nat _ p.1 L
  fs : ∀ (b : Nat), b ∈ frs X.stack → b < L
theorem Older.of {X : Cx} {pins : List (Addr × Obj)} {σ : L2.St} {H : Hp} {s : Shared} (I : L2.Inv X pins σ H s) : Older X pins s.heap.objs.size :=
  ⟨I.lt, fun x c e => let ⟨v, q⟩ := I.cell x c e; q.lt, fun p hp => Heap.lt_size (I.pin p hp).1, fun b hb => let ⟨_, o, ho, _⟩ := I.stack.mem hb; Heap.lt_size ho⟩
theorem Older.fp {X : Cx} {pins : List (Addr × Obj)} {L : Nat} {H : Hp} {b : Nat} (o : Older X pins L) (ok : X.Ok) (hs : frs X.outer ⊆ frs X.stack) (hb : L ≤ b) (hn : H b = none) : FpOk X pins H b :=
  ⟨hn, Nat.ne_of_gt (Nat.lt_of_lt_of_le o.loc hb), fun z => absurd (Nat.lt_of_lt_of_le (o.fs b (hs z)) hb) (Nat.lt_irrefl _), .inr (Nat.le_trans ok.above (Nat.le_trans (Nat.le_of_lt o.loc) hb)),
    fun x c e => Nat.ne_of_lt (Nat.lt_of_lt_of_le (o.cell x c e) hb), fun p hp => Nat.ne_of_lt (Nat.lt_of_lt_of_le (o.pin p hp) hb)⟩
/-- what X needs is older than the generator, or among its guests -/
structure Kept (X : Cx) (pins : List (Addr × Obj)) (L : Nat) (gp : List (Addr × Obj)) : Prop where
  loc : @LT.lt Nat _ X.env.locals L ∨ ∃ o, (X.env.locals, o) ∈ gp
  cell : ∀ x (c : Nat), X.env.cells.lookup x = some c → c < L
  pin : ∀ p ∈ X.pn ++ pins, @LT.lt Nat _ p.1 L ∨ p ∈ gp
theorem Older.kept {X : Cx} {pins : List (Addr × Obj)} {L : Nat} (o : Older X pins L) (gp : List (Addr × Obj)) : Kept X pins L gp := ⟨.inl o.loc, o.cell, fun p hp => .inl (o.pin p hp)⟩
theorem Older.hex {X : Cx} {pins : List (Addr × Obj)} {L : Nat} (o : Older X pins L) (ok : X.Ok) {b : Nat} (hb : L ≤ b) : b ∈ X.ex ∨ X.s_0.heap.objs.size ≤ b := .inr (Nat.le_trans ok.above (Nat.le_trans (Nat.le_of_lt o.loc) hb))
end GP

namespace GP
open PySem PySem.Spec L2 PyProof.Rows GenW DM
/-! ### the turns of a loop over a generator's object -/
def JG (K : PySem.W.Frag) (all : List D) : It := ⟨fun i _ => i < all.length, fun i H x H' => ∃ d, all[i]? = some d ∧ Ext H H' ∧ VR K [] H' x d, fun i _ => all.length ≤ i⟩
structure GObj (go : Obj) (g : Nat) : Prop where
  cls : go.cls = .type "generator"
  data : ∃ nm qn, go.data = .fields #[.int g 0, nm, qn]
  slots : go.slots = #[]
/-- asleep at the i-th item: its own objects, the generator's object -/
def TnG (G : Gp) (all : List D) (a : Addr) (go : Obj) (g : Nat) (i : Nat) (s : Shared) (fp : List Addr) : Prop :=
  ∃ gs objs, s.gens[g]? = some gs ∧ fp = a :: objs.map (·.1) ∧ s.heap.get? a = some go ∧ @LT.lt Nat _ G.L a ∧ (∀ q ∈ objs, s.heap.get? q.1 = some q.2 ∧ @LE.le Nat _ G.L q.1 ∧ q.1 ≠ a ∧ ∀ v, q.2.data ≠ .cell v) ∧ ∀ gp s' H', Wake (G.wi gp) objs s' H' → NextOk (G.wi gp) all (all.length - i) gs s' H'
theorem GObj.nocell {go : Obj} {g : Nat} (h : GObj go g) : ∀ v, go.data ≠ .cell v := fun v z => by
  obtain ⟨nm, qn, d⟩ := h.data
  rw [d] at z; cases z
/-- the room that a resume needs -/
structure AOk (X : Cx) (A : Around) : Prop where
  hd : A.handled = none
  room : A.depth < recursionLimit
  frs : A.frames = X.A.frames
section
variable {X : Cx} {pins : List (Addr × Obj)} {all : List D} {N : List Str} {qual : Str} {sc : Scope} {f : Addr} {cd : Value} {L g : Nat} {a : Addr} {go : Obj} {σ : L2.St} {H : Hp} {s : Shared} {fp : List Addr} {E : Value → Shared → Prop} {A : Around}
/-- the guests of a resume, beside the generator's object -/
def GstOk (L : Nat) (fp : List Addr) (gp : List (Addr × Obj)) (s : Shared) (H : Hp) : Prop := ∀ q ∈ gp, s.heap.get? q.1 = some q.2 ∧ H q.1 = none ∧ @LT.lt Nat _ L q.1 ∧ (∀ v, q.2.data ≠ .cell v) ∧ q.1 ∉ fp
/-- what the consumer's context needs of a resume -/
structure Cons (X : Cx) (pins : List (Addr × Obj)) (L : Nat) (a : Addr) (go : Obj) (gp : List (Addr × Obj)) (s : Shared) (H : Hp) : Prop where
  kept : Kept X pins L ((a, go) :: gp)
  hex : ∀ b, L ≤ b → H b = none → b < s.heap.objs.size → (∀ q ∈ (a, go) :: gp, q.1 ≠ b) → b ∈ X.ex ∨ X.s_0.heap.objs.size ≤ b
  fs : ∀ (b : Nat), b ∈ frs X.stack → b < L
abbrev gpOf (X : Cx) (A : Around) (N : List Str) (qual : Str) (sc : Scope) (f : Addr) (cd : Value) (L : Nat) : Gp := ⟨X.prog, X.w, X.K, X.mg, X.base, N, qual, sc, f, cd, A.in1, X.stack, L, []⟩
theorem Older.cons (old : Older X pins L) (ok : X.Ok) (gp : List (Addr × Obj)) : Cons X pins L a go gp s H := ⟨old.kept _, fun b hb _ _ _ => old.hex ok hb, old.fs⟩
end
end GP

namespace GP
open PySem PySem.Spec L2 PyProof.Rows GenW DM
/-! ### data of atoms and tuples -/
mutual
def tupl : D → Bool
  | .non => true
  | .bl _ => true
  | .int _ => true
  | .str _ => true
  | .tup xs => tupls xs
  | _ => false
def tupls : List D → Bool
  | [] => true
  | x :: r => tupl x && tupls r
end
theorem wf_tup_out {K : PySem.W.Frag} {ι : List Addr} {μ : Store} {H : Hp} {a : Addr} {o : Obj} {vs : List V} (w : WF K ι μ H) (h : H a = some (.frz o (.tup vs))) : a ∉ ι := fun m => by
  obtain ⟨i, hi⟩ := List.getElem?_of_mem m
  obtain ⟨ob, _, q⟩ := w.has hi
  cases ob with
  | lst ds => obtain ⟨us, e, _⟩ := q; rw [h] at e; cases e
  | obj C fs => obtain ⟨dx, gs, e, _⟩ := q; rw [h] at e; cases e
  | dct kvs => obtain ⟨qs, e, _⟩ := q; rw [h] at e; cases e
  | dcl kvs => obtain ⟨o', qs, e, _⟩ := q; rw [h] at e; cases e
  | dtt kvs => obtain ⟨qs, e, _⟩ := q; rw [h] at e; cases e
  | exc C fs => obtain ⟨d, gs, ⟨_, _, e, _⟩, _⟩ := q; rw [h] at e; cases e
  | tab tx => obtain ⟨_, ps, e, _⟩ := q; rw [h] at e; cases e
  | dnk kvs => obtain ⟨bs, vs, e, _⟩ := q; rw [h] at e; cases e
theorem wf_tup_out2 {K : PySem.W.Frag} {ι : List Addr} {μ : Store} {H : Hp} {a : Addr} {vs : List V} (w : WF K ι μ H) (h : H a = some (.tup vs)) : a ∉ ι := fun m => by
  obtain ⟨i, hi⟩ := List.getElem?_of_mem m
  obtain ⟨ob, _, q⟩ := w.has hi
  cases ob with
  | lst ds => obtain ⟨us, e, _⟩ := q; rw [h] at e; cases e
  | obj C fs => obtain ⟨dx, gs, e, _⟩ := q; rw [h] at e; cases e
  | dct kvs => obtain ⟨qs, e, _⟩ := q; rw [h] at e; cases e
  | dcl kvs => obtain ⟨o', qs, e, _⟩ := q; rw [h] at e; cases e
  | dtt kvs => obtain ⟨qs, e, _⟩ := q; rw [h] at e; cases e
  | exc C fs => obtain ⟨d, gs, ⟨_, _, e, _⟩, _⟩ := q; rw [h] at e; cases e
  | tab tx => obtain ⟨_, ps, e, _⟩ := q; rw [h] at e; cases e
  | dnk kvs => obtain ⟨bs, vs, e, _⟩ := q; rw [h] at e; cases e
mutual
theorem vr_any {K : PySem.W.Frag} {ι : List Addr} {μ : Store} {H : Hp} (w : WF K ι μ H) : ∀ {v : V} {d : D}, tupl d = true → VR K [] H v d → VR K ι H v d
  | _, _, _, .non => .non
  | _, _, _, .bl b => .bl b
  | _, _, _, .int i => .int i
  | _, _, _, .str x => .str x
  | _, _, t, .tup h r => by
    refine .tup ?_ (vrs_any w t r)
    rcases h with ⟨⟨o, h, d⟩, _⟩ | h | ⟨h, _, q⟩
    · exact .inl ⟨⟨o, h, d⟩, wf_tup_out w h⟩
    · exact .inr (.inl h)
    · exact .inr (.inr ⟨h, wf_tup_out2 w h, q⟩)
  | _, _, t, .lst h r => by simp [tupl] at t
  | _, _, t, .fl h r => by simp [tupl] at t
  | _, _, t, .ref h => by simp [tupl] at t
theorem vrs_any {K : PySem.W.Frag} {ι : List Addr} {μ : Store} {H : Hp} (w : WF K ι μ H) : ∀ {vs : List V} {ds : List D}, tupls ds = true → VRs K [] H vs ds → VRs K ι H vs ds
  | _, _, _, .nil => .nil
  | _, _, t, .cons h r => by
    simp only [tupls, Bool.and_eq_true] at t
    exact .cons (vr_any w t.1 h) (vrs_any w t.2 r)
end
/-! ### for over a generator's call -/
end GP

namespace GP
open PySem PySem.Spec L2 PyProof.Rows GenW DM
/-! ### a generator def's contract -/
def atomsV : List D → Option (List V)
  | [] => some []
  | d :: r => match atomV d, atomsV r with
    | some v, some vs => some (v :: vs)
    | _, _ => none
structure GMd (P : Program) (w : World) (K : PySem.W.Frag) (mg : Str → Option Value) (base : Heap) (k : Nat) (outer : List Env) (s : Shared) (f : Addr) (items : List D) (u : Value) (s' : Shared) : Prop where
  ex : ∃ (a : Addr) (g : Nat) (go oL : Obj) (N : List Str) (qual : Str) (sc : Scope) (cd : Value) (c : Code), u = .ref a ∧ GObj go g ∧ s'.heap.get? a = some go ∧ @LT.lt Nat _ s.heap.objs.size a ∧ s'.gens[g]? = some (.fresh c) ∧ s'.os = s.os ∧ AllBare s'.gens ∧
    (∀ b o, s.heap.get? b = some o → s'.heap.get? b = some o) ∧ s'.heap.get? s.heap.objs.size = some oL ∧ (∀ v, oL.data ≠ .cell v) ∧
    ∀ A', Room k A' → A'.frames = some outer → ∀ gp s2 H2, Wake ⟨P, w, K, mg, base, N, qual, sc, f, cd, A', outer, s.heap.objs.size, gp⟩ [(s.heap.objs.size, oL)] s2 H2 →
      NextOk ⟨P, w, K, mg, base, N, qual, sc, f, cd, A', outer, s.heap.objs.size, gp⟩ items items.length (.fresh c) s2 H2
structure GnG (P : Program) (w : World) (K : PySem.W.Frag) (mg : Str → Option Value) (base : Heap) (k : Nat) (f : Addr) (fd : FuncData) (ps : List Str) (Fg : List D → Option (List D)) : Prop where
  go : ∀ {A : Around} {outer : List Env} {s : Shared} {H : Hp} {args : Args} {us : List Value} {vs : List V} {ds items : List D}, Room k A → Env0 P w K mg base A outer s H → BindsTo s fd args (ps.zip us) → Vals vs us → atomsV ds = some vs → vs.length = ps.length → Fg ds = some items →
    codeAny (model P w) A (.call (.ref f) args) (fun r s' => match r with | .ok (.ret u) => GMd P w K mg base k outer s f items u s' | _ => False) s
end GP

namespace GP
open PySem PySem.Spec L2 PyProof.Rows GenW DM
structure KnG (P : Program) (w : World) (K : PySem.W.Frag) (mg : Str → Option Value) (base : Heap) (k : Nat) (x : Str) (ps : List Str) (Fg : List D → Option (List D)) : Prop where
  ex : ∃ f fd, GnG P w K mg base k f fd ps Fg ∧ mg x = some (.ref f) ∧ PySem.W.keepIn K (.ref f) = true ∧ Binds K fd ps []
/-- the items of a generator's call -/
def iGen (n : Nat) (Fg : List D → Option (List D)) (As : CM (List D)) : CM IV := As.bind fun ds _ μ => match atomsV ds, Fg ds with
  | some _, some items => if ds.length = n ∧ items.all tupl = true then some (.ok (items, anyG), μ) else none
  | _, _ => none
section
variable {X : Cx} {W : DW} {k j n : Nat} {ps : List Str} {Fg : List D → Option (List D)} {x : Str} {p pos : Pos} {tg e : Expr} {es : List Expr} {As : CM (List D)}
end
/-! ### iterables within a generator -/
section
variable {X : Cx} {x : Str} {pos p : Pos} {tg a b : Expr} {ds : List D} {us : List V}
def gRng2 (As : CM (List D)) : Rho → Option (List D) := fun ρ => match As ρ [] with
  | some (.ok [.int i, .int j], []) => if -(2 ^ 62) ≤ i ∧ i < 2 ^ 62 ∧ -(2 ^ 62) ≤ j ∧ j < 2 ^ 62 then some (rngD i (j - i).toNat) else none
  | _ => none
end
end GP

namespace GP
open PySem PySem.Spec L2 PyProof.Rows GenW DM
/-! ### a generator's object, fresh -/
def PGM (X : Cx) (A : Around) (pins : List (Addr × Obj)) (σ : L2.St) (R : It → Hp → Prop) (v : Value) (s : Shared) : Prop :=
  ∃ (a : Addr) (g : Nat) (go : Obj) (N : List Str) (qual : Str) (sc : Scope) (f : Addr) (cd : Value) (L : Nat) (fp : List Addr) (items : List D) (H : Hp), v = .ref a ∧ L2.Inv X pins σ H s ∧ GObj go g ∧ Older X pins L ∧ (∀ b, L ≤ b → H b = none) ∧ s.heap.get? a = some go ∧ L < a ∧
    TnG (gpOf X A N qual sc f cd L) items a go g 0 s fp ∧ (∀ b ∈ fp, @LE.le Nat _ L b) ∧ AOk X A ∧ R (JG X.K items) H
structure PIM (X : Cx) (A : Around) (iter : Expr) (wi : TI) : Prop where
  run : ∀ (pins : List (Addr × Obj)) (s : Shared) (σ : L2.St) (H : Hp) (R : It → Hp → Prop), L2.Inv X pins σ H s → wi σ H R → wpAny (model X.prog X.w) X.A (eval iter X.env) (PGM X A pins σ R) X.xe s
section
variable {X : Cx} {W : DW} {k j n : Nat} {ps : List Str} {Fg : List D → Option (List D)} {x : Str} {p pos : Pos} {tg e : Expr} {es : List Expr} {As : CM (List D)}
end
/-! ### a comprehension over a generator -/
def tLcG (wi : TI) (g : TG) (tt : TT) (te : TE) (vs : List Nat) : TE := fun σ H Q => wi σ H fun J H1 => ∀ D, H1 D = none → ∃ W : Nat → Nat → Hp → Prop, (∃ m, W 0 m (upd H1 D (.lst []))) ∧ ∀ i m H, W i m H → (∃ u, H D = some u) ∧
  ((J.stop i H ∧ ∀ H', Ext H H' → Q (.ref D) H') ∨ (J.go i H ∧ ∃ Nx : Hp → Prop, (∀ H', Nx H' → ∃ m', m' < m ∧ W (i + 1) m' H') ∧ ∀ x H', J.yld i H x H' → g x (wipe σ vs) H' fun σ2 H2 => wipe σ2 vs = wipe σ vs ∧ tt σ2 H2 fun b H3 =>
    if b = true then te σ2 H3 fun y H4 => ∃ acc, H4 D = some (.lst acc) ∧ acc.length < sizeLine ∧ Nx (upd H4 D (.lst (acc ++ [y]))) else Nx H3))
/-- as tn, in another state that has kept its objects -/
theorem TnG.keep {G : Gp} {all : List D} {a : Addr} {go : Obj} {g i : Nat} {s s' : Shared} {fp : List Addr} (t : TnG G all a go g i s fp) (hk : ∀ b ∈ fp, ∀ o, s.heap.get? b = some o → s'.heap.get? b = some o) (hg : s'.gens[g]? = s.gens[g]?) : TnG G all a go g i s' fp := by
  obtain ⟨gs, objs, e1, rfl, ha, hLa, ho, hn⟩ := t
  exact ⟨gs, objs, hg.trans e1, rfl, hk a List.mem_cons_self go ha, hLa, fun q hq => let ⟨h1, h2, h3⟩ := ho q hq; ⟨hk q.1 (List.mem_cons_of_mem _ (List.mem_map.mpr ⟨q, hq, rfl⟩)) q.2 h1, h2, h3⟩, hn⟩
theorem TnG.obj {G : Gp} {all : List D} {a : Addr} {go : Obj} {g i : Nat} {s : Shared} {fp : List Addr} (hgo : GObj go g) (t : TnG G all a go g i s fp) : ∀ b ∈ fp, ∃ o, s.heap.get? b = some o ∧ ∀ v, o.data ≠ .cell v := fun b hb => by
  obtain ⟨gs, objs, _, rfl, ha, _, ho, _⟩ := t
  rcases List.mem_cons.mp hb with rfl | hb
  · exact ⟨go, ha, hgo.nocell⟩
  · obtain ⟨q, hq, rfl⟩ := List.mem_map.mp hb
    obtain ⟨h1, _, _, h3⟩ := ho q hq
    exact ⟨q.2, h1, h3⟩
section
variable {X : Cx}
end
end GP

namespace GP
open PySem PySem.Spec L2 PyProof.Rows GenW DM
section
variable {X : Cx} {W : DW}
end
end GP

namespace GP
open PySem PySem.Spec L2 PyProof.Rows GenW DM
/-! ### list(g) -/
section
variable {X : Cx} {pins : List (Addr × Obj)} {σ : L2.St} {all : List D} {N : List Str} {qual : Str} {sc : Scope} {f : Addr} {cd : Value} {L g : Nat} {a S : Addr} {go : Obj} {A : Around} {R : Result → Shared → Prop} {res : Value}
end
end GP

namespace GP
open PySem PySem.Spec L2 PyProof.Rows GenW DM
/-- list(g) -/
def eListG (I : CM IV) : CM D := I.bind fun p _ μ => if p.2 μ = true ∧ p.1.length ≤ sizeLine then some (.ok (.lst p.1), μ) else none
section
variable {X : Cx} {W : DW} {I : CM IV} {e : Expr} {p pos : Pos}
end
end GP

namespace GP
open PySem PySem.Spec L2 DM
/-! ### plainly -/
/-! #### cells(width) -/
def gIn : GD := gdFor (fun _ => some [.str "other", .str "same"]) 3 (gdYield (eTup (aCons (eVar 1) (aCons (eVar 2) (aCons (eVar 3) aNil)))))
def gMid : GD := gdFor (gRng2 (aCons (e1 Fneg (eVar 0)) (aCons (e2 Fadd (eVar 0) (eC (.int 1))) aNil))) 2 gIn
def gCells : GD := gdFor (fun _ => some [.str "less", .str "more", .str "same"]) 1 gMid
end GP

namespace DM
open PySem PySem.Spec L2
/-! ### things that own cells, side by side -/
structure Own where
  ix : List Nat
  P : Store → Prop
  fr : ∀ (μ μ' : Store), (∀ j ∈ ix, μ'[j]? = μ[j]?) → P μ → P μ'
  lt : ∀ (μ : Store), P μ → ∀ j ∈ ix, j < μ.length
structure Hold (L : List Own) (μ : Store) : Prop where
  nd : (L.flatMap (·.ix)).Nodup
  all : ∀ o ∈ L, o.P μ
  clo : Clo μ
section
variable {L : List Own} {μ μ' : Store} {o o' : Own}
theorem Hold.at (h : Hold L μ) {n : Nat} (e : L[n]? = some o) : o.P μ := h.all o (List.mem_of_getElem? e)
theorem own_sep : ∀ {L : List Own} {n m : Nat} {a b : Own}, (L.flatMap (·.ix)).Nodup → n ≠ m → L[n]? = some a → L[m]? = some b → ∀ j ∈ a.ix, j ∉ b.ix
  | [], _, _, _, _, _, _, e, _ => by simp at e
  | x :: r, 0, 0, _, _, _, hn, _, _ => absurd rfl hn
  | x :: r, 0, m + 1, a, b, nd, _, e, e' => by
    intro j ja jb
    simp only [List.getElem?_cons_zero, Option.some.injEq] at e
    subst e
    rw [List.flatMap_cons, List.nodup_append] at nd
    exact nd.2.2 j ja j (List.mem_flatMap.mpr ⟨b, List.mem_of_getElem? (by simpa using e'), jb⟩) rfl
  | x :: r, n + 1, 0, a, b, nd, _, e, e' => by
    intro j ja jb
    simp only [List.getElem?_cons_zero, Option.some.injEq] at e'
    subst e'
    rw [List.flatMap_cons, List.nodup_append] at nd
    exact nd.2.2 j jb j (List.mem_flatMap.mpr ⟨a, List.mem_of_getElem? (by simpa using e), ja⟩) rfl
  | x :: r, n + 1, m + 1, a, b, nd, hn, e, e' => by
    rw [List.flatMap_cons, List.nodup_append] at nd
    exact own_sep (n := n) (m := m) nd.2.1 (by omega) (by simpa using e) (by simpa using e')
theorem set_ix : ∀ {L : List Own} {n : Nat} {o o' : Own}, L[n]? = some o → o'.ix = o.ix → (L.set n o').flatMap (·.ix) = L.flatMap (·.ix)
  | [], _, _, _, e, _ => by simp at e
  | x :: r, 0, o, o', e, q => by
    simp only [List.getElem?_cons_zero, Option.some.injEq] at e
    subst e
    simp [q]
  | x :: r, n + 1, o, o', e, q => by
    simp only [List.set_cons_succ, List.flatMap_cons]
    rw [set_ix (by simpa using e) q]
/-- one of them has changed -/
theorem Hold.step (h : Hold L μ) {n : Nat} (e : L[n]? = some o) (hix : o'.ix = o.ix) (hP : o'.P μ') (fr : ∀ j, j ∉ o.ix → j < μ.length → μ'[j]? = μ[j]?) (hc : Clo μ') : Hold (L.set n o') μ' := by
  refine ⟨by rw [set_ix e hix]; exact h.nd, ?_, hc⟩
  intro a ha
  obtain ⟨m, hm, ea⟩ := List.getElem_of_mem ha
  have ea' : (L.set n o')[m]? = some a := by rw [List.getElem?_eq_getElem hm, ea]
  by_cases q : n = m
  · subst q
    have hl : n < L.length := by simpa using hm
    rw [List.getElem?_set_self hl] at ea'
    cases ea'
    exact hP
  · rw [List.getElem?_set_ne q] at ea'
    have hpa := h.at ea'
    refine a.fr μ μ' (fun j hj => fr j (own_sep h.nd (Ne.symm q) ea' e j hj) (a.lt μ hpa j hj)) hpa
/-- the cells stay -/
theorem Hold.keep (h : Hold L μ) (fr : ∀ j, j < μ.length → μ'[j]? = μ[j]?) (hc : Clo μ') : Hold L μ' :=
  ⟨h.nd, fun a ha => a.fr μ μ' (fun j hj => fr j (a.lt μ (h.all a ha) j hj)) (h.all a ha), hc⟩
theorem Hold.app {o : Ob} (h : Hold L μ) (ho : obOk (μ.length + 1) o = true) : Hold L (μ ++ [o]) :=
  h.keep (fun j hj => by rw [List.getElem?_append_left hj]) (h.clo.app ho)
/-- a new thing in new cells -/
theorem Hold.new (h : Hold L μ) (fr : ∀ j, j < μ.length → μ'[j]? = μ[j]?) (hc : Clo μ') (hP : o.P μ') (hn : o.ix.Nodup) (hix : ∀ j ∈ o.ix, μ.length ≤ j) : Hold (L ++ [o]) μ' := by
  have k := h.keep fr hc
  refine ⟨?_, ?_, hc⟩
  · rw [List.flatMap_append, List.flatMap_cons, List.flatMap_nil, List.append_nil, List.nodup_append]
    refine ⟨h.nd, hn, ?_⟩
    rintro i hi j hj rfl
    obtain ⟨a, ha, hia⟩ := List.mem_flatMap.mp hi
    have := a.lt μ (h.all a ha) i hia
    have := hix i hj
    omega
  · intro a ha
    rcases List.mem_append.mp ha with ha | ha
    · exact k.all a ha
    · rw [List.mem_singleton.mp ha]; exact hP
theorem Hold.sub {M : List Own} (h : Hold L μ) (s : M.Sublist L) : Hold M μ := by
  refine ⟨?_, fun o ho => h.all o (s.mem ho), h.clo⟩
  refine List.Nodup.sublist ?_ h.nd
  induction s with
  | slnil => exact List.Sublist.refl _
  | cons a s ih =>
    have ih := ih ⟨(List.nodup_append.mp (by simpa using h.nd)).2.1, fun o ho => h.all o (List.mem_cons_of_mem _ ho), h.clo⟩
    exact ih.trans (by rw [List.flatMap_cons]; exact List.sublist_append_right _ _)
  | cons_cons a s ih =>
    have ih := ih ⟨(List.nodup_append.mp (by simpa using h.nd)).2.1, fun o ho => h.all o (List.mem_cons_of_mem _ ho), h.clo⟩
    rw [List.flatMap_cons, List.flatMap_cons]
    exact (List.Sublist.refl _).append ih
end
/-- one cell -/
def oneA (i : Nat) (o : Ob) : Own := ⟨[i], fun μ => μ[i]? = some o, fun μ μ' h e => by rw [h i (by simp)]; exact e, fun μ e j hj => by
  simp only [List.mem_singleton] at hj
  subst hj
  exact (List.getElem?_eq_some_iff.mp e).1⟩
def poolA (p : Nat) (c : Int) : Own := ⟨[p], Pool p c, fun μ μ' h e => e.of (h p (by simp)), fun μ e j hj => by
  simp only [List.mem_singleton] at hj
  subst hj
  exact e.lt⟩
/-- the cells that stood before, but the pool -/
def baseA (μ0 : Store) (p : Nat) : Own := ⟨(List.range μ0.length).filter (fun j => decide (j ≠ p)), fun μ => ∀ k, k < μ0.length → k ≠ p → μ[k]? = μ0[k]?, fun μ μ' h e k hk hp => by
    rw [h k (by simp [hk, hp])]
    exact e k hk hp, fun μ e j hj => by
    simp only [List.mem_filter, List.mem_range, decide_eq_true_eq] at hj
    have := e j hj.1 hj.2
    rw [List.getElem?_eq_getElem hj.1] at this
    exact (List.getElem?_eq_some_iff.mp this).1⟩
section
variable {L : List Own} {μ0 μ μ' : Store} {p : Nat} {c c' : Int}
/-- the end of a sealed def that has a pool -/
theorem Hold.fin {n m : Nat} (h : Hold L μ) (hw : PureS μ0) (hp : p < μ0.length) (e0 : L[n]? = some (baseA μ0 p)) (e1 : L[m]? = some (poolA p c)) : Wd p c (μ.take μ0.length) ∧ Fr p μ0 (μ.take μ0.length) ∧ (μ.take μ0.length).all (obOk μ0.length) = true := by
  have hb : ∀ k, k < μ0.length → k ≠ p → μ[k]? = μ0[k]? := h.at e0
  have hP : Pool p c μ := h.at e1
  have hl : μ0.length ≤ μ.length := by
    by_cases hc : μ0.length ≤ 1
    · have := hP.lt
      omega
    · by_cases q : μ0.length - 1 = p
      · have := hP.lt
        omega
      · have e := hb (μ0.length - 1) (by omega) q
        rw [List.getElem?_eq_getElem (by omega : μ0.length - 1 < μ0.length)] at e
        have := (List.getElem?_eq_some_iff.mp e).1
        omega
  have f : Fr p μ0 (μ.take μ0.length) := by
    refine ⟨by rw [List.length_take]; omega, fun j hj => ?_⟩
    by_cases hk : j < μ0.length
    · rw [List.getElem?_take_of_lt hk]
      exact hb j hk hj
    · rw [List.getElem?_eq_none (by rw [List.length_take]; omega), List.getElem?_eq_none (by omega)]
  have hP' : Pool p c (μ.take μ0.length) := hP.of (by rw [List.getElem?_take_of_lt hp])
  have pu : PureS (μ.take μ0.length) := by
    intro o ho
    obtain ⟨j, hj, rfl⟩ := List.getElem_of_mem ho
    by_cases q : j = p
    · subst q
      exact hP'.ob 0 _ (List.getElem?_eq_getElem hj)
    · have e := f.eq j q
      rw [List.getElem?_eq_getElem hj] at e
      exact hw _ (List.mem_of_getElem? e.symm)
  exact ⟨⟨hP', pu⟩, f, List.all_eq_true.mpr fun o ho => obOk_mono (pu o ho)⟩
theorem Hold.wc {m : Nat} (h : Hold L μ) (e : L[m]? = some (poolA p c)) : Wc p c μ := ⟨h.at e, h.clo⟩
/-- behind a draw -/
theorem Hold.draw {m : Nat} (h : Hold L μ) (e : L[m]? = some (poolA p c)) (x : Wz μ p c' μ') : Hold (L.set m (poolA p c')) μ' :=
  h.step e rfl x.wd.pool (fun j hj _ => x.fr.eq j (by rintro rfl; exact hj (by simp [poolA]))) x.wd.clo
theorem Hold.cell {n i : Nat} {o : Ob} (h : Hold L μ) (e : L[n]? = some (oneA i o)) : μ[i]? = some o := h.at e
/-- a cell set -/
theorem Hold.set {n i : Nat} {o o' : Ob} (h : Hold L μ) (e : L[n]? = some (oneA i o)) (ho : obOk μ.length o' = true) : Hold (L.set n (oneA i o')) (μ.set i o') := by
  have hi : i < μ.length := (List.getElem?_eq_some_iff.mp (h.cell e)).1
  refine h.step e rfl (List.getElem?_set_self hi) (fun j hj _ => List.getElem?_set_ne (by rintro rfl; exact hj (by simp [oneA]))) (h.clo.set ho)
/-- a cell made -/
theorem Hold.push {o : Ob} (h : Hold L μ) (ho : obOk (μ.length + 1) o = true) : Hold (L ++ [oneA μ.length o]) (μ ++ [o]) :=
  h.new (fun j hj => by rw [List.getElem?_append_left hj]) (h.clo.app ho) (by show (μ ++ [o])[μ.length]? = some o; simp) (by simp [oneA]) (by simp [oneA])
end
/-! ### the pool is the second thing -/
section
variable {R : List Own} {b : Own} {μ0 μ μ' : Store} {p : Nat} {c c' : Int}
theorem Hold.pl (h : Hold (b :: poolA p c :: R) μ) : Pool p c μ := h.at (n := 1) rfl
theorem Hold.z (h : Hold (b :: poolA p c :: R) μ) : Wz μ p c μ := ⟨⟨h.pl, h.clo⟩, .refl _ _⟩
theorem Hold.drw (h : Hold (b :: poolA p c :: R) μ) (x : Wz μ p c' μ') : Hold (b :: poolA p c' :: R) μ' := h.draw (m := 1) rfl x
theorem Hold.up (h : Hold (b :: poolA p c :: R) μ) (l : c ≤ c') : Hold (b :: poolA p c' :: R) μ := h.drw (h.z.mono l)
/-- at the entry of a sealed def -/
theorem Hold.enter (h : Hold (b :: poolA p c :: R) μ) : Hold [baseA μ p, poolA p c] μ := by
  have hl := h.pl.lt
  refine ⟨?_, ?_, h.clo⟩
  · show ((List.range μ.length).filter (fun j => decide (j ≠ p)) ++ ([p] ++ [])).Nodup
    rw [List.append_nil, List.nodup_append]
    refine ⟨List.nodup_range.filter _, by simp, ?_⟩
    rintro a ha b hb rfl
    simp only [List.mem_filter, List.mem_range, decide_eq_true_eq, List.mem_singleton] at ha hb
    exact ha.2 hb
  · intro o ho
    simp only [List.mem_cons, List.not_mem_nil, or_false] at ho
    rcases ho with rfl | rfl
    · exact fun k _ _ => rfl
    · exact h.pl
/-- at its end -/
theorem Hold.leave (h : Hold (baseA μ0 p :: poolA p c :: R) μ) (hc : Clo μ0) (hp : p < μ0.length) : Wz μ0 p c (μ.take μ0.length) ∧ (μ.take μ0.length).all (obOk μ0.length) = true := by
  have hb : ∀ k, k < μ0.length → k ≠ p → μ[k]? = μ0[k]? := h.at (n := 0) rfl
  have hP : Pool p c μ := h.pl
  have hl : μ0.length ≤ μ.length := by
    by_cases hc : μ0.length ≤ 1
    · have := hP.lt
      omega
    · by_cases q : μ0.length - 1 = p
      · have := hP.lt
        omega
      · have e := hb (μ0.length - 1) (by omega) q
        rw [List.getElem?_eq_getElem (by omega : μ0.length - 1 < μ0.length)] at e
        have := (List.getElem?_eq_some_iff.mp e).1
        omega
  have f : Fr p μ0 (μ.take μ0.length) := by
    refine ⟨by rw [List.length_take]; omega, fun j hj => ?_⟩
    by_cases hk : j < μ0.length
    · rw [List.getElem?_take_of_lt hk]
      exact hb j hk hj
    · rw [List.getElem?_eq_none (by rw [List.length_take]; omega), List.getElem?_eq_none (by omega)]
  have hP' : Pool p c (μ.take μ0.length) := hP.of (by rw [List.getElem?_take_of_lt hp])
  have cl : Clo (μ.take μ0.length) := hc.fr f fun o ho => hP'.ob _ o ho
  refine ⟨⟨⟨hP', cl⟩, f⟩, ?_⟩
  have := cl.all
  rw [f.len] at this
  exact this
theorem Hold.old (h : Hold (baseA μ0 p :: R) μ) {k : Nat} (hk : k < μ0.length) (hp : k ≠ p) : μ[k]? = μ0[k]? := h.at (n := 0) rfl k hk hp
end
section
variable {F : FD} (hF : DrawP F) {R : List Own} {b : Own} {μ : Store} {p : Nat} {c : Int}
include hF
theorem DrawP.h {n : Int} (h : Hold (b :: poolA p c :: R) μ) (hc : c < 2 ^ 20) (h0 : 0 < n) (h1 : n < 2 ^ 200) : Ok (F [.ref p, .int n] μ) (fun d μ' => ∃ r, d = .int r ∧ 0 ≤ r ∧ r < n ∧ Hold (b :: poolA p (c + 1) :: R) μ') :=
  (hF.z h.z hc h0 h1).mono fun d μ' ⟨r, e, a, q, x⟩ => ⟨r, e, a, q, h.drw x⟩
end
end DM

namespace DM
open PySem PySem.Spec L2
/-! ### [x for x in xs if ..] with draws in the test, in closed stores -/
theorem Wz.peel {p : Nat} {c : Int} {ν μ2 : Store} {o : Ob} (h : Clo ν) (hp : p < ν.length) (x : Wz (ν ++ [o]) p c μ2) : ∃ ν', μ2 = ν' ++ [o] ∧ Wz ν p c ν' := by
  have hl : μ2.length = ν.length + 1 := by rw [x.fr.len]; simp
  have hc : μ2[ν.length]? = some o := by
    rw [x.fr.eq ν.length (by omega)]
    simp
  have e := take_last hl hc
  have tl : (μ2.take ν.length).length = ν.length := by rw [List.length_take]; omega
  have ft : Fr p ν (μ2.take ν.length) := by
    refine ⟨tl, fun j hj => ?_⟩
    by_cases hjn : j < ν.length
    · rw [List.getElem?_take_of_lt hjn, x.fr.eq j hj, List.getElem?_append_left hjn]
    · rw [List.getElem?_eq_none (by omega), List.getElem?_eq_none (by omega)]
  have hP : Pool p c (μ2.take ν.length) := x.wd.pool.of (by rw [List.getElem?_take_of_lt hp])
  exact ⟨_, e, ⟨hP, h.fr ft fun o ho => hP.ob _ o ho⟩, ft⟩
theorem q_someC {I : CM IV} {T : CM Bool} {xs : List D} {p y : Nat} {c : Int} {ρ : Rho} {μ0 μ : Store} {Q : D → Store → Prop} (hx : Wz μ0 p c μ) (hl : xs.length ≤ 1000) (hp : noRefs 0 xs = true) (hy : y < ρ.length)
    (hI : Ok (I ρ μ) (fun q μ1 => q = (xs, anyG) ∧ μ1 = μ))
    (hT : ∀ (k : Nat) x (ν : Store), xs[k]? = some x → Clo ν → Pool p (c + Int.ofNat k) ν → Ok (T ((wipeR ρ [y]).set y (some x)) ν) (fun _ ν' => Wz ν p (c + Int.ofNat (k + 1)) ν'))
    (q : ∀ ys μ', ys.Sublist xs → Wz μ0 p (c + Int.ofNat xs.length) μ' → Q (.lst ys) μ') : Ok (eSeal (eLC I (fName y) T (eVar y) [y]) ρ μ) Q := by
  refine q_lcG (hI.mono ?_)
  rintro _ μ1 ⟨rfl, rfl⟩
  have hwl : (wipeR ρ [y]).length = ρ.length := by simp [wipeR]
  have hpl := hx.wd.pool.lt
  refine lc_ok (acc := []) (fun k acc μ' => ∃ ν : Store, μ' = ν ++ [.lst acc] ∧ Wz μ0 p (c + Int.ofNat k) ν ∧ ν.length = μ1.length ∧ acc.Sublist (xs.take k)) (fun _ _ _ _ => rfl) ?_ ?_ ⟨μ1, rfl, hx.mono (by simp), rfl, by simp⟩
  · rintro k d acc μ' ed ⟨ν, rfl, xν, lν, sub⟩
    have hk : k < xs.length := (List.getElem?_eq_some_iff.mp ed).1
    have hacc : noRefs 0 acc = true := noRefs_all.mpr fun z hz => noRefs_all.mp hp z (List.mem_of_mem_take (sub.subset hz))
    refine ⟨_, rfl, ?_⟩
    refine (hT k d (ν ++ [.lst acc]) ed (xν.wd.clo.app (o := .lst acc) (noRefs_mono hacc)) xν.wd.pool.app).mono ?_
    intro b μ2 x2
    obtain ⟨ν', rfl, x3⟩ := Wz.peel xν.wd.clo (by omega) x2
    have x' : Wz μ0 p (c + Int.ofNat (k + 1)) ν' := xν.from x3
    have l' : ν'.length = μ1.length := x3.fr.len.trans lν
    have htk : xs.take (k + 1) = xs.take k ++ [d] := by
      rw [List.take_add_one, ed]; rfl
    refine ⟨fun _ => ?_, fun _ => ⟨ν', rfl, x', l', by rw [htk]; exact sub.trans (List.sublist_append_left _ _)⟩⟩
    rw [q_var, List.getElem?_set_self (by rw [hwl]; exact hy), q_at]
    have lacc : acc.length ≤ k := by
      have := sub.length_le
      rw [List.length_take] at this
      omega
    refine ⟨by rw [← l']; simp, small1000 (by omega), ν', ?_, x', l', ?_⟩
    · rw [List.set_append_right _ _ (by omega), l']; simp
    · rw [htk]; exact sub.append (List.Sublist.refl _)
  · rintro acc μ' ⟨ν, rfl, xν, lν, sub⟩
    rw [List.take_length] at sub
    have hacc : noRefs 0 acc = true := noRefs_all.mpr fun z hz => noRefs_all.mp hp z (sub.subset hz)
    have tk : (ν ++ [Ob.lst acc]).take μ1.length = ν := by rw [← lν]; simp
    rw [tk]
    exact ⟨by rw [← lν]; exact xν.wd.clo.all, _, unref_cell (ds := acc) (by rw [← lν]; simp) (Nat.le_refl _) hacc, q acc ν sub xν⟩
end DM

namespace DM
open PySem PySem.Spec L2
open PyProof.Rows (envOfC)
/-! ### classmethods whose cls is called -/
def fnCP (n m : Nat) (S : SF) : FD := fun ds μ => if ds.length = m then resP (S (none :: startR (n - 1) ds) μ) else none
structure FnC (P : Program) (w : World) (K : PySem.W.Frag) (mg : Str → Option Value) (base : Heap) (k : Nat) (f : Addr) (fd : FuncData) (ps : List Str) (C : Str) (F : FD) : Prop where
  go : ∀ {A : Around} {outer : List Env} {s : Shared} {H : Hp} {args : Args} {us : List Value} {vs : List V} {ι : List Addr} {μ : Store} {ds : List D} {Q : VK} {E : XK},
    Room k A → A.guards = some [] → Env0 P w K mg base A outer s H → BindsTo s fd args (ps.zip us) → Vals (V.ref (He.ga K C) :: vs) us → vs.length + 1 = ps.length → WF K ι μ H → VRs K ι H vs ds → PostF K (xrS K) ι H Q E (F ds μ) →
      codeAny (model P w) A (.call (.ref f) args) (CR (L2.CX P w) outer P w H s Q E) s
section
variable {P : Program} {w : World} {K : PySem.W.Frag} {mg : Str → Option Value} {base : Heap}
end
section
variable {X : Cx} {W : DW} {k j i : Nat} {x C : Str} {p pos : Pos} {e : Expr} {es : List Expr} {kws : List Keyword} {ks : List Str} {As Bs : CM (List D)} {E : CM D}
end
/-! ### their calls -/
structure ClK (P : Program) (w : World) (K : PySem.W.Frag) (mg : Str → Option Value) (base : Heap) (k : Nat) (C m : Str) (F : FD) : Prop where
  ex : ∃ p f fd ps, FnC P w K mg base k f fd ps C F ∧ ClX.CRead K (He.ga K C) (.type "type") ∧ ClX.CMet K (He.ga K C) (.type "type") m p f ∧ mg C = some (.ref (He.ga K C)) ∧ Binds K fd ps [] ∧ ∀ ds μ, F ds μ ≠ none → ds.length + 1 = ps.length
section
variable {X : Cx} {W : DW} {k j : Nat} {C m : Str} {p pos apos : Pos} {e : Expr} {es : List Expr} {As : CM (List D)} {F : FD} {pl : Sem Bool}
end
/-! ### the facts -/
def cgA (C m : Str) (K : PySem.W.Frag) : Addr := match PySem.W.recIn K (He.ma K (He.ga K C) m) "classmethod" with
  | some (.ref g :: _) => g
  | _ => 0
def cmB (C m : Str) (K : PySem.W.Frag) : Bool := PySem.W.readsIn K (He.ga K C) (.type "type") && (He.eqO (PySem.W.specialIn K (.ref (He.ga K C)) "__getattribute__") (some (some (.builtin "type.__getattribute__"))) && ((match PySem.W.findCls K (.ref (He.ga K C)) (.type "type") m with
  | some (.get g p .none D) => decide (g = .builtin "classmethod.__get__") && (decide (p = .ref (He.ma K (He.ga K C) m)) && decide (D = .ref (He.ga K C)))
  | _ => false) && (match PySem.W.recIn K (He.ma K (He.ga K C) m) "classmethod" with
  | some (.ref g :: _) => PySem.W.fnIn K g
  | _ => false)))
end DM

namespace DM
open PySem PySem.Spec L2
/-! ### d.get(k, x) -/
def FdGet2 (o i z : D) (μ : Store) : Res D := match dctAt μ o, keyD i with
  | some (_, kvs), some k => okR ((valD kvs k).getD z) μ
  | _, _ => none
/-- the dict is looked at ahead of the key -/
def eGet2 (O I Z : CM D) : CM D := O.bind fun o ρ μ => match dctAt μ o with
  | some _ => I.bind (fun i => Z.bind (fun z _ μ1 => FdGet2 o i z μ1)) ρ μ
  | none => none
section
variable {ρ : Rho} {μ : Store} {Q : D → Store → Prop} {O I Z : CM D}
end
end DM

namespace DM
open PySem PySem.Spec L2
/-! ### two things as one; things in another order -/
def Own.and (a b : Own) : Own := ⟨a.ix ++ b.ix, fun μ => a.P μ ∧ b.P μ, fun μ μ' e h => ⟨a.fr μ μ' (fun j hj => e j (List.mem_append_left _ hj)) h.1, b.fr μ μ' (fun j hj => e j (List.mem_append_right _ hj)) h.2⟩, fun μ h j hj => by
  rcases List.mem_append.mp hj with hj | hj
  · exact a.lt μ h.1 j hj
  · exact b.lt μ h.2 j hj⟩
section
variable {L M : List Own} {μ μ' : Store} {a b : Own}
theorem Hold.perm (h : Hold L μ) (p : L.Perm M) : Hold M μ := ⟨(p.flatMap_right _).nodup_iff.mp h.nd, fun o ho => h.all o (p.mem_iff.mpr ho), h.clo⟩
theorem Hold.join (h : Hold (a :: b :: L) μ) : Hold (a.and b :: L) μ := by
  refine ⟨?_, ?_, h.clo⟩
  · have := h.nd
    simp only [List.flatMap_cons] at this ⊢
    show ((a.ix ++ b.ix) ++ _).Nodup
    rw [List.append_assoc]
    exact this
  · intro o ho
    rcases List.mem_cons.mp ho with rfl | ho
    · exact ⟨h.all a (by simp), h.all b (by simp)⟩
    · exact h.all o (by simp [ho])
theorem Hold.split (h : Hold (a.and b :: L) μ) : Hold (a :: b :: L) μ := by
  refine ⟨?_, ?_, h.clo⟩
  · have := h.nd
    simp only [List.flatMap_cons] at this ⊢
    have e : (a.and b).ix = a.ix ++ b.ix := rfl
    rw [e, List.append_assoc] at this
    exact this
  · intro o ho
    have hab : a.P μ ∧ b.P μ := h.all (a.and b) (by simp)
    rcases List.mem_cons.mp ho with rfl | ho
    · exact hab.1
    rcases List.mem_cons.mp ho with rfl | ho
    · exact hab.2
    · exact h.all o (by simp [ho])
/-- the cells above n are let go -/
theorem Hold.cut {n : Nat} (h : Hold L μ) (hl : ∀ o ∈ L, ∀ j ∈ o.ix, j < n) (hc : Clo (μ.take n)) : Hold L (μ.take n) :=
  ⟨h.nd, fun o ho => o.fr μ _ (fun j hj => by rw [List.getElem?_take_of_lt (hl o ho j hj)]) (h.all o ho), hc⟩
end
section
variable {ρ : Rho} {μ : Store} {Q : D → Store → Prop}
end
end DM

namespace DM
open PySem PySem.Spec L2
/-! ### an expression that runs while a dict is locked (a comprehension over it) -/
def unlkE (c : Nat) : Res D → Res D
  | some (.ok d, μ) => match μ[c]? with
    | some (.dcl kvs) => some (.ok d, μ.set c (.dct kvs))
    | _ => none
  | _ => none
def eLK (E C : CM D) : CM D := fun ρ μ => match E ρ μ with
  | some (.ok (.ref c), _) => match μ[c]? with
    | some (.dct kvs) => unlkE c (C ρ (μ.set c (.dcl kvs)))
    | _ => none
  | _ => none
section
variable {ρ : Rho} {μ : Store} {Q : D → Store → Prop} {C : CM D}
end
end DM

namespace DM
open PySem PySem.Spec L2
/-! ### len of a dict -/
def FlenD (ds : List D) (μ : Store) : Res D := match ds with
  | [.ref c] => match μ[c]? with
    | some (.dct kvs) => okR (.int kvs.length) μ
    | _ => none
  | _ => none
end DM

namespace DM
open PySem PySem.Spec L2
/-! ### name = [comprehension], the list a cell of the store (its elements may be cells too) -/
section
variable {ρ : Rho} {μ : Store} {Q : D → Store → Prop}
end
end DM

namespace DM
open PySem PySem.Spec L2
/-! ### dict(a list's cell of pairs) -/
def FdictC (ds : List D) (μ : Store) : Res D := match ds with
  | [d] => match itemsL μ d with
    | some xs => match pairsD xs with
      | some kvs => okR (.ref μ.length) (μ ++ [.dct (mergeKD [] kvs)])
      | none => none
    | none => none
  | _ => none
end DM

namespace DM
open PySem PySem.Spec L2
open PySem.W (clsIn mroIn nsIn alongIn typeIn fnIn)
open PySem.W
/-! ### super().m(..) within a method -/
def eSup (Cn : Str) (F : FD) (A : CM (List D)) : CM D := fun (ρ : Rho) (μ : Store) => match ρ[0]? with
  | some (some (D.ref i)) => match μ[i]? with
    | some (Ob.obj C _) => if C = Cn then (A.bind fun ds _ μ => F (.ref i :: ds) μ) ρ μ else none
    | _ => none
  | _ => none
/-- what the code's surroundings show of super() : D the class that the def stands in, C the class of self -/
structure SupE (P : Program) (K : PySem.W.Frag) (mg : Str → Option Value) (env : Env) (D : Addr) (sf : Str) : Prop where
  ks : env.kindOf "super" = some .globalImplicit
  kc : env.kindOf "__class__" = some .free
  fn : ∃ f of fd ar, env.func = some f ∧ K.lookup f = some of ∧ of.data = .func fd ∧ (fd.params.posonlyargs ++ fd.params.args).head? = some ar ∧ ar.arg = sf
  co : ∃ cda oc vs file tf, env.code = .ref cda ∧ K.lookup cda = some oc ∧ oc.data = .fields vs ∧ vs[2]? = some (.str file tf) ∧ ((P.main.file : Str) == file) = true
  top : (P.main.scope.names.lookup ("super" : Str)).isSome = false
  mg0 : mg "super" = none
  cl : ∃ cc oc, env.cells.lookup ("__class__" : Str) = some cc ∧ K.lookup cc = some oc ∧ oc.data = .cell (some (.ref D))
/-- .. and of the two classes -/
structure SupM (K : PySem.W.Frag) (C D f2 : Addr) (m : Str) : Prop where
  cD : ∃ cd oD, clsIn K D = some cd ∧ K.lookup D = some oD ∧ oD.data = .cls cd
  cC : ∃ cd, clsIn K C = some cd ∧ alongIn K m ((cd.mro.dropWhile (· != .ref D)).drop 1) = some (some (.ref f2))
  sub : mroIn K C (.ref D) = some true
  opq : nsIn K cStatics "thirdparty.any" = some none
  ty : ∃ of, K.lookup f2 = some of ∧ of.cls = .type "function"
  fi : fnIn K f2 = true
  nc : (m == ("__class__" : Str)) = false
section
variable {X : Cx} {E : Value → Shared → Prop} {pins : List (Addr × Obj)} {σ : L2.St} {H : Hp} {s : Shared} {C D f2 a dx : Addr} {fs : List (Str × V)} {m sf : Str} {p0 p1 ap pos : Pos} {e : Expr} {es : List Expr} {body : List Stmt}
end
section
variable {X : Cx} {W : DW} {k j : Nat} {Dc f2 : Addr} {fd : FuncData} {ps : List Str} {Cn m sf : Str} {p0 p1 ap pos : Pos} {e : Expr} {es : List Expr} {body : List Stmt} {As : CM (List D)} {F : FD} {pins : List (Addr × Obj)} {σ : L2.St} {H : Hp} {s : Shared} {Q : VK} {pl : Sem Bool}
end
end DM

namespace DM
open PySem PySem.Spec L2
open PySem.W (clsIn mroIn nsIn alongIn typeIn fnIn)
section
variable {X : Cx} {W : DW} {k j : Nat} {Dc f2 : Addr} {fd : FuncData} {ps : List Str} {Cn m sf : Str} {p0 p1 ap pos spos : Pos} {e : Expr} {es : List Expr} {body rest : List Stmt} {As : CM (List D)} {F : FD} {S2 : SF} {pl : Sem Bool}
end
end DM

namespace DM
open PySem PySem.Spec L2
open PyProof.Rows (envOfC)
open NdefX (startF NScope CellsAt ncx envF inv_startN)
/-- a def in a class that says super(): its closure has the class' cell -/
structure FunS (K : PySem.W.Frag) (x qual : Str) (params : Arguments) (body : List Stmt) (scope : Scope) (cc cda : Addr) (kws : List (Str × V)) (f : Addr) (fd : FuncData) : Prop where
  ex : ∃ (oc : Value) (od : Option Addr) (dV kV doc pm : Value) (an : Option Addr) (ct : Value) (osl : Array (Option Value)),
    fd = PySem.W.fnX x qual params body scope [(("__class__" : Str), cc)] dV kV doc pm an (.ref cda) ct ∧ K.lookup f = some ⟨oc, od, .func fd, osl⟩ ∧ PySem.W.codeIn K (.ref cda) qual = true ∧ DflV K dV [] ∧ KwdV K kV kws
  kp : PySem.W.keepIn K (.ref f) = true
  cell : ∃ D oc, K.lookup cc = some oc ∧ oc.data = .cell (some (.ref D))
section
variable {P : Program} {w : World} {K : PySem.W.Frag} {mg : Str → Option Value} {base : Heap}
abbrev nfS (x qual : Str) (pa : Arguments) (body : List Stmt) (sc : Scope) (cc cda : Addr) : NdefX.NF := ⟨x, qual, pa, body, sc, [(("__class__" : Str), cc)], cda⟩
end
end DM

namespace DM
open PySem PySem.Spec L2
/-! ### the look at the head: defs that say super() -/
abbrev FnWS : Type := Option (Str × Str × Arguments × FuncBody × Scope × Addr × List Str × Addr)
def fnWS (K : PySem.W.Frag) (d : He.DefD) : FnWS := match K.lookup (He.fAd K d.at_) with
  | some ⟨_, _, .func fd, _⟩ => some (fd.name, fd.qualname, fd.params, fd.body, fd.scope, fd.globals, fd.closure.map (·.1), fd.builtins)
  | _ => none
def valS (d : He.DefD) : FnWS := some (d.name, d.qual, d.params, .stmts d.body, d.scope, mainGlobals, ["__class__"], builtinsNs)
/-- the cell and the code object of such a def -/
def ccS (K : PySem.W.Frag) (d : He.DefD) : Addr := match K.lookup (He.fAd K d.at_) with
  | some ⟨_, _, .func fd, _⟩ => match fd.closure with
    | [(_, c)] => c
    | _ => 0
  | _ => 0
def cdS (K : PySem.W.Frag) (d : He.DefD) : Addr := match K.lookup (He.fAd K d.at_) with
  | some ⟨_, _, .func fd, _⟩ => match fd.code with
    | .ref c => c
    | _ => 0
  | _ => 0
def isRefB : Value → Bool
  | .ref _ => true
  | _ => false
def okS (K : PySem.W.Frag) (d : He.DefD) : Bool := PySem.W.keepIn K (.ref (He.fAd K d.at_)) && (match K.lookup (He.fAd K d.at_) with
  | some ⟨_, _, .func fd, _⟩ => isRefB fd.code && (PySem.W.codeIn K fd.code d.qual && (He.dflB K fd.defaults [] && He.kwdB K fd.kwdefaults (d.kws K)))
  | _ => false) && (match K.lookup (ccS K d) with
  | some ⟨_, _, .cell (some (.ref _)), _⟩ => true
  | _ => false)
end DM

namespace DM
open PySem PySem.Spec L2
/-! ### what super() needs of the head, as checks -/
def isClsB (K : PySem.W.Frag) (D : Addr) : Bool := match K.lookup D with
  | some ⟨_, _, .cls _, _⟩ => true
  | _ => false
def isFnB (K : PySem.W.Frag) (f : Addr) : Bool := match K.lookup f with
  | some o => decide (o.cls = .type "function")
  | none => false
def optB (o : Option (Option Value)) (v : Value) : Bool := match o with
  | some (some u) => decide (u = v)
  | _ => false
/-- C : the class of self; D : the class that the def stands in; f2 : what super().m is -/
def supMB (C D f2 : Addr) (m : Str) (K : PySem.W.Frag) : Bool := isClsB K D && (optB ((PySem.W.clsIn K C).bind fun cd => PySem.W.alongIn K m ((cd.mro.dropWhile (· != .ref D)).drop 1)) (.ref f2) && (decide (PySem.W.mroIn K C (.ref D) = some true) && (He.eqO (PySem.W.nsIn K cStatics "thirdparty.any") (some none) && (isFnB K f2 && (PySem.W.fnIn K f2 && !(m == ("__class__" : Str)))))))
/-- the cell holds the class D; the code object is of the file fl -/
def supEB (d : He.DefD) (D : Addr) (fl : Str) (K : PySem.W.Frag) : Bool := (match K.lookup (ccS K d) with
  | some ⟨_, _, .cell (some (.ref D')), _⟩ => decide (D' = D)
  | _ => false) && (match K.lookup (cdS K d) with
  | some ⟨_, _, Data.fields (vs : Array Value), _⟩ => match vs[2]? with
    | some (Value.str file _) => fl == file
    | _ => false
  | _ => false)
end DM

namespace DM
open PySem PySem.Spec L2
/-! ### the look at the head, with defs that say super() -/
abbrev AlS : Type := Bool × List FnWS × AlX
section
variable (ss : List He.DefD) (fa : List He.Fa) (fn : List He.DefD) (cs : List (Str × D)) (xf : List (PySem.W.Frag → Bool)) (xs : List DefX)
def obsS (K : PySem.W.Frag) : AlS := (ss.all (okS K), ss.map (fnWS K), obsX fa fn cs xf xs K)
def obsSG (n : Nat) (g : Addr → Option Obj) : AlS := obsS ss fa fn cs xf xs (He.frG g (He.asD g n))
structure SaysS (K : PySem.W.Frag) : Prop where
  b : SaysX fa fn cs xf xs K
  ok : ss.all (okS K) = true
  s : ss.map (fnWS K) = ss.map valS
def hookS (n : Nat) : PySem.W.Hook where
  α := AlS
  obs := fun s => obsSG ss fa fn cs xf xs n s.heap.get?
  val := fun _ => (true, ss.map valS, (true, valX xs, He.valD fn))
  says := fun _ h => ∃ K : PySem.W.Frag, K.In h ∧ SaysS ss fa fn cs xf xs K
  of := fun _ _ e => ⟨_, He.frG_in, ⟨congrArg (fun z : AlS => z.2.2.2.2) e, congrArg (fun z : AlS => z.2.2.1) e, congrArg (fun z : AlS => z.2.2.2.1) e⟩, congrArg (fun z : AlS => z.1) e, congrArg (fun z : AlS => z.2.1) e⟩
  keeps := fun _ _ _ ⟨K, hK, c⟩ k => ⟨K, PySem.W.Frag.In.keeps hK k, c⟩
end
section
variable {ss : List He.DefD} {fa : List He.Fa} {fn : List He.DefD} {cs : List (Str × D)} {xf : List (PySem.W.Frag → Bool)} {xs : List DefX} {K : PySem.W.Frag}
end
end DM

namespace DM
open PySem PySem.Spec L2 HandSHeadRun PySem.W PySem.Calls PyProof.Rows
/-! ### the look at the head at given addresses, with defs that say super() -/
section
variable (as : List Addr) (ss : List He.DefD) (fa : List He.Fa) (fn : List He.DefD) (cs : List (Str × D)) (xf : List (PySem.W.Frag → Bool)) (xs : List DefX)
def obsLS (g : Addr → Option Obj) : AlS := obsS ss fa fn cs xf xs (He.frG g as)
def hookLS : PySem.W.Hook where
  α := AlS
  obs := fun s => obsLS as ss fa fn cs xf xs s.heap.get?
  val := fun _ => (true, ss.map valS, (true, valX xs, He.valD fn))
  says := fun _ h => ∃ K : PySem.W.Frag, K.In h ∧ SaysS ss fa fn cs xf xs K
  of := fun _ _ e => ⟨_, He.frG_in, ⟨congrArg (fun z : AlS => z.2.2.2.2) e, congrArg (fun z : AlS => z.2.2.1) e, congrArg (fun z : AlS => z.2.2.2.1) e⟩, congrArg (fun z : AlS => z.1) e, congrArg (fun z : AlS => z.2.1) e⟩
  keeps := fun _ _ _ ⟨K, hK, c⟩ k => ⟨K, PySem.W.Frag.In.keeps hK k, c⟩
end
section
variable {as : List Addr} {ss : List He.DefD} {fa : List He.Fa} {fn : List He.DefD} {cs : List (Str × D)} {xf : List (PySem.W.Frag → Bool)} {xs : List DefX}
theorem obsLS_eq {g : Addr → Option Obj} {s : Shared} (h : ∀ a, g a = s.heap.get? a) : obsLS as ss fa fn cs xf xs g = (hookLS as ss fa fn cs xf xs).obs s := by
  have e : g = s.heap.get? := funext h
  rw [e] <;> rfl
end
end DM

namespace DM
open PySem PySem.Spec L2
open NdefX (startF NScope CellsAt ncx envF inv_startN)
/-! ### a def that says super(): its surroundings; its keyword-only parameters -/
structure SupX (K : PySem.W.Frag) (cc cda D : Addr) (fl : Str) : Prop where
  cl : ∃ oc, K.lookup cc = some oc ∧ oc.data = .cell (some (.ref D))
  co : ∃ oc vs file tf, K.lookup cda = some oc ∧ oc.data = .fields vs ∧ vs[2]? = some (.str file tf) ∧ (fl == file) = true
section
variable {P : Program} {w : World} {K : PySem.W.Frag} {mg : Str → Option Value} {base : Heap} {x qual : Str} {pa : Arguments} {body : List Stmt} {sc : Scope} {cc cda f : Addr} {fd : FuncData} {kws : List (Str × V)} {ms : List (Str × D)}
end
section
variable {ρ : Rho} {μ : Store} {Q : D → Store → Prop}
end
end DM

namespace DM
open PySem PySem.Spec L2
/-! ### isinstance of own classes -/
structure IsO (K : PySem.W.Frag) (C Dn : Str) (b : Bool) : Prop where
  ha : PySem.W.findIn K (.ref (He.ga K C)) "__class__" = some (some (.builtin "object.__class__"))
  hn : PySem.W.specialIn K (.builtin "object.__class__") "__get__" = some (some (.builtin "getset_descriptor.__get__"))
  htk : PySem.W.takesIn K (.builtin "object.__class__") = some true
  hm : PySem.W.mroIn K (He.ga K C) (.type "object") = some true
  kt : PySem.W.kitOne K (.ref (He.ga K C)) (.ref (He.ga K Dn)) = some b
def isoB (C Dn : Str) (b : Bool) (K : PySem.W.Frag) : Bool := He.eqO (PySem.W.findIn K (.ref (He.ga K C)) "__class__") (some (some (.builtin "object.__class__"))) && (He.eqO (PySem.W.specialIn K (.builtin "object.__class__") "__get__") (some (some (.builtin "getset_descriptor.__get__"))) && (decide (PySem.W.takesIn K (.builtin "object.__class__") = some true) && (decide (PySem.W.mroIn K (He.ga K C) (.type "object") = some true) && decide (PySem.W.kitOne K (.ref (He.ga K C)) (.ref (He.ga K Dn)) = some b))))
def eIsC (tb : List (Str × Bool)) (E : CM D) : CM D := E.bind fun d _ μ => match d with
  | .ref i => match μ[i]? with
    | some (.obj C _) => match tb.lookup C with
      | some b => okR (.bl b) μ
      | none => none
    | _ => none
  | _ => none
section
variable {ρ : Rho} {μ : Store} {Q : D → Store → Prop} {E : CM D}
end
/-! ### a list's place as a target among others -/
def tLSub (O I : CM D) : D → SF := fun v => lft O fun o => lft I fun i ρ μ => match o, i with
  | .ref c, .int k => match μ[c]? with
    | some (.lst xs) => match ixN xs.length k with
      | some j => some (.nx ρ, μ.set c (.lst (xs.set j v)))
      | none => none
    | _ => none
  | _, _ => none
section
variable {X : Cx} {W : DW} {o i e : Expr} {O I E : CM D} {pos pos' : Pos} {k : Nat}
end
section
variable {ρ : Rho} {μ : Store} {Qf : Fl → Store → Prop} {O I : CM D}
end
end DM

namespace DM
open PySem PySem.Spec L2 PyProof.Rows
/-! ### sorted(xs) of tuples that are alike -/
def leD (a b : D) : Bool := !PySem.W.dataLt (pyD b) (pyD a)
def srtD (xs : List D) : List D := xs.mergeSort leD
def lstAt (μ : Store) : D → Option (List D)
  | .lst xs => some xs
  | .fl xs => some xs
  | .ref c => match μ[c]? with
    | some (.lst xs) => some xs
    | _ => none
  | _ => none
def isTup1 : D → Bool
  | .tup (_ :: _) => true
  | _ => false
def sortOk (xs : List D) : Prop := xs.length ≤ 1000000 ∧ (∀ x ∈ xs, shp 50 x = true ∧ isTup1 x = true) ∧ ∀ x ∈ xs, ∀ y ∈ xs, PySem.W.alike (pyD x) (pyD y) = true
instance (xs : List D) : Decidable (sortOk xs) := by unfold sortOk; infer_instance
def FsortT (ds : List D) (μ : Store) : Res D := match ds with
  | [d] => match lstAt μ d with
    | some xs => if sortOk xs then okR (.lst (srtD xs)) μ else none
    | none => none
  | _ => none
abbrev leV : V × PyData → V × PyData → Bool := PySem.W.dataLe false (fun b : V × PyData => b.2)
def rSortT (K : PySem.W.Frag) : List V → Hp → VK → Prop := fun xs H Q => ∃ (a : Addr) (vs : List V) (ps : List PyData), xs = [.ref a] ∧ SqL K H a vs ∧ DpAll K H vs ps ∧ PySem.W.AllAlike ps ∧ PySem.W.Sortable ps ∧ (∀ p ∈ ps, p.depth ≤ 50) ∧ vs.length ≤ 1000000 ∧
  ∀ p, H p = none → Q (.ref p) (upd H p (.lst (((vs.zip ps).mergeSort leV).map (·.1))))
section
variable {X : Cx} {K : PySem.W.Frag} {pins : List (Addr × Obj)} {σ : L2.St} {H : Hp} {s : Shared}
theorem dps_zip : ∀ {vs : List V} {us : List Value} {ps : List PyData}, DpAll K H vs ps → Vals vs us → PySem.W.EachIs (fun v (b : V × PyData) => RelV b.1 v ∧ Dp K H b.1 b.2) us (vs.zip ps)
  | _, _, _, .nil, .nil => .nil
  | _, _, _, .cons h t, .cons r rt => .cons ⟨r, h⟩ (dps_zip t rt)
theorem dps_len : ∀ {vs : List V} {ps : List PyData}, DpAll K H vs ps → vs.length = ps.length
  | _, _, .nil => rfl
  | _, _, .cons _ t => by rw [List.length_cons, List.length_cons, dps_len t]
theorem each_vals : ∀ {us : List Value} {bs : List (V × PyData)}, PySem.W.EachIs (fun v (b : V × PyData) => RelV b.1 v ∧ Dp K H b.1 b.2) us bs → Vals (bs.map (·.1)) us
  | _, _, .nil => .nil
  | _, _, .cons h t => .cons h.1 (each_vals t)
theorem pyDs_map : ∀ xs : List D, pyDs xs = xs.map pyD
  | [] => rfl
  | x :: r => by rw [pyDs, pyDs_map r]; rfl
theorem vrs_pairs {ι : List Addr} : ∀ {zs : List (V × D)}, (∀ z ∈ zs, VR K ι H z.1 z.2) → VRs K ι H (zs.map (·.1)) (zs.map (·.2))
  | [], _ => .nil
  | z :: r, h => .cons (h z List.mem_cons_self) (vrs_pairs fun y hy => h y (List.mem_cons_of_mem _ hy))
theorem vrs_zip {ι : List Addr} : ∀ {vs : List V} {ds : List D}, VRs K ι H vs ds → ∀ z ∈ vs.zip ds, VR K ι H z.1 z.2
  | _, _, .nil, _, h => by simp at h
  | _, _, .cons h t, z, hz => by
    rw [List.zip_cons_cons, List.mem_cons] at hz
    rcases hz with rfl | hz
    · exact h
    · exact vrs_zip t z hz
end
theorem srt_perm (xs : List D) : (srtD xs).Perm xs := List.mergeSort_perm xs leD
end DM

namespace DM
open PySem PySem.Spec L2
/-! ### a + b of lists, the new list a cell -/
def FaddC : D → D → Store → Res D
  | .lst a, .lst b, μ => if a.length + b.length ≤ sizeLine then okR (.ref μ.length) (μ ++ [.lst (a ++ b)]) else none
  | _, _, _ => none
end DM

namespace DM
open PySem PySem.Spec L2
/-! ### what sorted brings, of tuples that are alike -/
def ltD (a b : D) : Bool := PySem.W.dataLt (pyD a) (pyD b)
theorem ltD_irr (a : D) : ltD a a = false := PyProof.Rows.lex_irrefl _
theorem ltD_trans {a b c : D} (h : ltD a b = true) (k : ltD b c = true) : ltD a c = true := PyProof.Rows.lex_trans _ _ _ h k
theorem ltD_asym {a b : D} (h : ltD a b = true) : ltD b a = false := by
  cases q : ltD b a with
  | false => rfl
  | true => rw [← ltD_irr a, ltD_trans h q]
theorem leD_total (a b : D) : (leD a b || leD b a) = true := by
  show (!ltD b a || !ltD a b) = true
  cases h : ltD b a with
  | false => rfl
  | true => rw [ltD_asym h]; rfl
theorem leD_trans (a b c : D) (h : leD a b = true) (k : leD b c = true) : leD a c = true := by
  have h : (!ltD b a) = true := h
  have k : (!ltD c b) = true := k
  show (!ltD c a) = true
  cases q : ltD c a with
  | false => rfl
  | true =>
    rcases PyProof.Rows.lex_negTrans _ (PySem.W.keyToks (pyD b)) _ q with z | z
    · have z : ltD c b = true := z
      rw [z] at k; cases k
    · have z : ltD b a = true := z
      rw [z] at h; cases h
theorem srt_pw (xs : List D) : (srtD xs).Pairwise fun a b => leD a b = true := List.pairwise_mergeSort leD_trans leD_total xs
theorem pw_lt_uniq : ∀ {xs ys : List D}, xs.Perm ys → (xs.Pairwise fun a b => leD a b = true) → (ys.Pairwise fun a b => ltD a b = true) → xs = ys
  | [], ys, p, _, _ => (List.nil_perm.mp p).symm
  | x :: r, [], p, _, _ => absurd p.length_eq (by simp)
  | x :: r, y :: t, p, h, h' => by
    rw [List.pairwise_cons] at h h'
    have e : x = y := by
      rcases List.mem_cons.mp (p.mem_iff.mp (List.mem_cons_self (a := x) (l := r))) with e | hx
      · exact e
      rcases List.mem_cons.mp (p.symm.mem_iff.mp (List.mem_cons_self (a := y) (l := t))) with e | hy
      · exact e.symm
      have h1 : (!ltD y x) = true := h.1 y hy
      rw [h'.1 x hx] at h1
      cases h1
    subst e
    rw [pw_lt_uniq (List.Perm.cons_inv p) h.2 h'.2]
/-- the sorted list is the ascending one -/
theorem srt_uniq {xs ys : List D} (p : ys.Perm xs) (h : ys.Pairwise fun a b => ltD a b = true) : srtD xs = ys := pw_lt_uniq ((srt_perm xs).trans p.symm) (srt_pw xs) h
end DM

namespace DM
open PySem PySem.Spec L2
/-! ### a + b of lists (values or cells), the new list a cell -/
def lstOf (μ : Store) : D → Option (List D)
  | .lst xs => some xs
  | .ref c => match μ[c]? with
    | some (.lst xs) => some xs
    | _ => none
  | _ => none
def FaddR (x y : D) (μ : Store) : Res D := match lstOf μ x, lstOf μ y with
  | some a, some b => if a.length + b.length ≤ sizeLine then okR (.ref μ.length) (μ ++ [.lst (a ++ b)]) else none
  | _, _ => none
theorem lstOf_vr {K : PySem.W.Frag} {ι : List Addr} {H : Hp} {μ : Store} {v : V} {d : D} {xs : List D} (w : WF K ι μ H) (vd : VR K ι H v d) (h : lstOf μ d = some xs) : ∃ a vs, v = .ref a ∧ H a = some (.lst vs) ∧ VRs K ι H vs xs := by
  cases vd with
  | lst hh r => cases h; exact ⟨_, _, rfl, hh.1, r⟩
  | ref hi =>
    obtain ⟨o, ho, ro⟩ := w.has hi
    unfold lstOf at h
    simp only [ho] at h
    cases o with
    | lst ds =>
      obtain ⟨vs, ea, r⟩ := ro
      cases h
      exact ⟨_, _, rfl, ea, r⟩
    | _ => cases h
  | _ => cases h
theorem lift_addR {K : PySem.W.Frag} : Lift2 K (rAddD K) FaddR := by
  intro W σ ι μ H x y d e Q w vx vy h
  unfold FaddR at h
  split at h
  · rename_i a b ea eb
    obtain ⟨q, h⟩ := PostG.guard h
    obtain ⟨pa, va, rfl, ha, ra⟩ := lstOf_vr w vx ea
    obtain ⟨pb, vb, rfl, hb, rb⟩ := lstOf_vr w vy eb
    refine .inr (.inr (.inl ⟨_, _, _, _, rfl, rfl, ha, hb, by rw [ra.length, rb.length]; exact q, fun p hp => ?_⟩))
    refine h.ok (Le.cell hp) (w.cell hp (OR.mkL upd_same ((ra.append rb).mono (Le.cell hp)))) (.ref ?_)
    rw [← w.len]; simp
  · exact h.elim
theorem d_addR {X : Cx} {W : DW} {a b : Expr} {A B : CM D} {pos : Pos} (ha : PE X a (tE X.K W A)) (hb : PE X b (tE X.K W B)) : PE X (.BinOp a .Add b pos) (tE X.K W (e2 FaddR A B)) := d_op op_addD lift_addR ha hb
theorem f_addR {x y : D} {a b : List D} {μ : Store} (hx : lstOf μ x = some a) (hy : lstOf μ y = some b) (h : a.length + b.length ≤ 1000000) : FaddR x y μ = okR (.ref μ.length) (μ ++ [.lst (a ++ b)]) := by
  unfold FaddR
  simp only [hx, hy]
  rw [if_pos (size_ok h)]
/-! ### a def by its arguments: stars, keywords, keyword-only parameters left out -/
structure KnV (P : Program) (w : World) (K : PySem.W.Frag) (mg : Str → Option Value) (base : Heap) (k : Nat) (x : Str) (ks : List Str) (F : FV) : Prop where
  ex : ∃ f, FnV P w K mg base k f ks F ∧ mg x = some (.ref f) ∧ PySem.W.keepIn K (.ref f) = true
def eCallV (F : FV) (A B : CM (List D)) : CM D := A.bind fun ds => B.bind fun es _ μ => F ds es μ
section
variable {X : Cx} {W : DW} {k j : Nat} {ks : List Str} {F : FV} {x : Str} {p pos : Pos} {e : Expr} {es : List Expr} {kws : List Keyword} {As Bs : CM (List D)}
end
section
variable {ρ : Rho} {μ : Store} {Q : D → Store → Prop} {As Bs : CM (List D)}
end
end DM
namespace GP
open PySem PySem.Spec L2 PyProof.Rows GenW DM
/-! ### list(g(k = v)) -/
structure KnGK (P : Program) (w : World) (K : PySem.W.Frag) (mg : Str → Option Value) (base : Heap) (k : Nat) (x : Str) (ps : List Str) (Fg : List D → Option (List D)) (ks : List Str) (idx : List Nat) : Prop where
  ex : ∃ f fd, GnG P w K mg base k f fd ps Fg ∧ mg x = some (.ref f) ∧ PySem.W.keepIn K (.ref f) = true ∧ ∀ (s : Shared) (us ws : List Value), us.length = 0 → ws.length = ks.length → BindsTo s fd ⟨us, ks.zip ws⟩ (ps.zip (pick idx (us ++ ws)))
def iGenK (n : Nat) (idx : List Nat) (Fg : List D → Option (List D)) (Bs : CM (List D)) : CM IV := Bs.bind fun es _ μ => match atomsV (pick idx es), Fg (pick idx es) with
  | some _, some items => if (es.length = n ∧ (pick idx es).length = n) ∧ items.all tupl = true then some (.ok (items, anyG), μ) else none
  | _, _ => none
section
variable {X : Cx} {W : DW} {k j n : Nat} {ps ks : List Str} {idx : List Nat} {Fg : List D → Option (List D)} {x : Str} {p pos : Pos} {kws : List Keyword} {Bs : CM (List D)}
end
end GP

namespace DM
open PySem PySem.Spec L2 PyProof.Rows
/-! ### dicts whose keys are tuples of ints and texts -/
def eTNew : CM D := fun _ μ => some (.ok (.ref μ.length), μ ++ [.dtt []])
def keysT : List D → Option (List Key)
  | [] => some []
  | d :: r => match keyD d, keysT r with
    | some k, some t => some (k :: t)
    | _, _ => none
section
variable {K : PySem.W.Frag} {ι : List Addr} {H : Hp}
theorem keysT_vr : ∀ {vs : List V} {ds : List D} {ks : List Key}, VRs K ι H vs ds → keysT ds = some ks → vs = ks.map kV
  | _, _, _, .nil, e => by cases e; rfl
  | _, _, _, .cons (d := d) (ds := ds) h r, e => by
    unfold keysT at e
    match e1 : keyD d, e2 : keysT ds, e with
    | some k, some t, e =>
      cases e
      rw [keyD_vr h e1, keysT_vr r e2]
      rfl
theorem keysT_of {ks : List Key} : keysT (ks.map keyOf) = some ks := by
  induction ks with
  | nil => rfl
  | cons k r ih =>
    show (match keyD (keyOf k), keysT (r.map keyOf) with
      | some k, some t => some (k :: t)
      | _, _ => none) = _
    rw [ih]
    cases k <;> rfl
def putTD (kvs : List (List Key × D)) (k : List Key) (v : D) : List (List Key × D) := if (kvs.any fun kv => decide (kv.1 = k)) = true then kvs.map (fun kv => if kv.1 = k then (kv.1, v) else kv) else kvs ++ [(k, v)]
end

def FtPut (o : D) (ds : List D) (v : D) (μ : Store) : Option Store := match o with
  | .ref c => match μ[c]?, keysT ds with
    | some (.dtt kvs), some k => if kvs.length < sizeLine then some (μ.set c (.dtt (putTD kvs k v))) else none
    | _, _ => none
  | _ => none
def tTSub (O : CM D) (As : CM (List D)) : D → SF := fun v => lft O fun o => lft As fun ds ρ μ => if ds.length ≤ sizeLine then (match FtPut o ds v μ with
  | some μ' => some (.nx ρ, μ')
  | none => none) else none
/-! ### sorted(d) -/
def hasInt (k : List Key) : Bool := k.any fun x => match x with
  | .inl _ => true
  | .inr _ => false
def keyT (k : List Key) : D := .tup (k.map keyOf)
def FsortDT (ds : List D) (μ : Store) : Res D := match ds with
  | [.ref c] => match μ[c]? with
    | some (.dtt kvs) => if sortOk (kvs.map fun kv => keyT kv.1) ∧ (kvs.all fun kv => hasInt kv.1) = true then okR (.lst (srtD (kvs.map fun kv => keyT kv.1))) μ else none
    | _ => none
  | _ => none
def rSortDT (K : PySem.W.Frag) : List V → Hp → VK → Prop := fun xs H Q => ∃ (a : Addr) (kvs : List (List Key × V)) (ps : List PyData), xs = [.ref a] ∧ Rd H a (.dT kvs) ∧ (∀ bs, IsKeys H kvs bs → DpAll K H (bs.map V.ref) ps) ∧ PySem.W.AllAlike ps ∧ PySem.W.Sortable ps ∧ (∀ p ∈ ps, p.depth ≤ 50) ∧ kvs.length ≤ 1000000 ∧
  ∀ bs p, IsKeys H kvs bs → H p = none → Q (.ref p) (upd H p (.lst ((((bs.map V.ref).zip ps).mergeSort leV).map (·.1))))
section
variable {K : PySem.W.Frag} {ι : List Addr} {H : Hp}
end
end DM

namespace DM
open PySem PySem.Spec L2 PyProof.Rows
/-! ### sorted(t) of a tuple of tuples that are alike -/
def FsortTp (ds : List D) (μ : Store) : Res D := match ds with
  | [.tup xs] => if sortOk xs then okR (.lst (srtD xs)) μ else none
  | _ => none
def rSortTp (K : PySem.W.Frag) : List V → Hp → VK → Prop := fun xs H Q => ∃ (a : Addr) (vs : List V) (ps : List PyData), xs = [.ref a] ∧ SqT K H a vs ∧ DpAll K H vs ps ∧ PySem.W.AllAlike ps ∧ PySem.W.Sortable ps ∧ (∀ p ∈ ps, p.depth ≤ 50) ∧ vs.length ≤ 1000000 ∧
  ∀ p, H p = none → Q (.ref p) (upd H p (.lst (((vs.zip ps).mergeSort leV).map (·.1))))
theorem call_sortTp {X : Cx} (hu : X.A.units + 64 < cLine) : CallR X (.builtin "sorted") (rSortTp X.K) := by
  intro pins s σ H xs us Q I r h
  obtain ⟨a, vs, ps, rfl, hs, hdp, hal, hk, hdep, hz, q⟩ := h
  obtain ⟨u, rfl, rx⟩ := r.one
  cases rx
  obtain ⟨its, rv, ⟨o, ho, hcl, n, hd⟩, hzz⟩ := I.tuple hs
  have hl := rv.length
  refine Calls.call_function_entry PyProof.Rows.kind_sorted PyProof.Rows.plain_sorted PyProof.Rows.entry_sorted (PyProof.Rows.args_sorted1 _) ?_
  unfold Builtin.«sorted»
  refine wpAny_bind (m := checkCount "sorted" 1 1 _) (wpAny_pure ?_)
  refine wpAny_bind (wpAny_collect_seq a (.inr rfl) ho hcl hd (fun h' hkp => ?_) (by rw [List.size_toArray]; omega))
  obtain ⟨acc, hacc⟩ : ∃ acc : Array Value, acc = its.toArray := ⟨_, rfl⟩
  rw [← hacc]
  have eacc : acc.toList = its := by rw [hacc]
  rw [← eacc] at rv hl
  have I1 : Inv X pins σ H { s with heap := h' } := I.kept (t' := s.toks) hkp
  refine wpAny_bind (wpAny_newList ?_ (by omega))
  have hoL : (h'.push (seqObj "list" acc.toList.toArray 0)).get? h'.objs.size = some (seqObj "list" acc.toList.toArray 0) := Heap.get?_push_size _ rfl
  show wpAny _ _ _ _ _ { s with heap := h'.push (seqObj "list" acc.toList.toArray 0) }
  have e := dps_zip hdp rv
  have hm : (vs.zip ps).map (fun b : V × PyData => b.2) = ps := by
    rw [List.map_snd_zip (Nat.le_of_eq (dps_len hdp).symm)]
  have hzl : (vs.zip ps).length = vs.length := by rw [List.length_zip, ← dps_len hdp, Nat.min_self]
  have er' : PySem.W.EachIs (fun v b => ∃ as, Reads (PySem.W.sortingHeap (h'.push (seqObj "list" acc.toList.toArray 0)) h'.objs.size acc.toList) v (b : V × PyData).2 as) acc.toList (vs.zip ps) := e.mono fun v b hb => by
    obtain ⟨as, rr⟩ := Dp.reads I1 b.2 b.1 v hb.2 hb.1
    exact ⟨as, PyProof.Rows.Reads.keeps (fun c o' q' => PySem.W.sortingHeap_old (Nat.ne_of_lt (Heap.lt_size q')) (Heap.get?_push_of_some _ q')) rr⟩
  refine wpAny_bind (wpAny_holding (wpAny_call_entry PyProof.Rows.slot_list_sort ⟨_, hoL, rfl⟩ PyProof.Rows.entry_list_sort
    (PySem.W.list_sort_vals (s := { s with heap := h'.push (seqObj "list" acc.toList.toArray 0) }) (κ := PySem.W.dataKind (PySem.W.sortingHeap (h'.push (seqObj "list" acc.toList.toArray 0)) h'.objs.size acc.toList) ((vs.zip ps).map fun b => b.2)) hoL
      (PySem.W.SortsAt.data (s := { s with heap := PySem.W.sortingHeap (h'.push (seqObj "list" acc.toList.toArray 0)) h'.objs.size acc.toList }) (PySem.W.each_map (R := fun v d => ∃ as, Reads (PySem.W.sortingHeap (h'.push (seqObj "list" acc.toList.toArray 0)) h'.objs.size acc.toList) v d as) (fun b : V × PyData => b.2) er') (by rw [hm]; exact hal) (by rw [hm]; exact hk) fun d hd => ?_) (by omega) ⟨_, rfl, ?_⟩)
    (PyProof.Rows.args_list_sort _)))
  · rw [hm] at hd
    have := hdep d hd
    show X.A.units + 1 + 1 + d.depth < cLine
    omega
  have eo := PySem.W.sortVals_data (R := fun v (b : V × PyData) => RelV b.1 v ∧ Dp X.K H b.1 b.2) (enc := fun b : V × PyData => b.2) false e er' (by rw [hm]; exact hal)
  obtain ⟨e', he'⟩ := PyProof.Rows.sortedHeap_at (vs := acc.toList) (out := (PySem.W.sortVals (PySem.W.dataKind (PySem.W.sortingHeap (h'.push (seqObj "list" acc.toList.toArray 0)) h'.objs.size acc.toList) ((vs.zip ps).map fun b => b.2)) false acc.toList acc.toList).toArray) hoL
  have hlen : (((vs.zip ps).mergeSort leV).map (·.1)).length ≤ sizeLine := by
    rw [List.length_map, List.length_mergeSort, hzl]; omega
  refine wpAny_pure ⟨_, rfl, .ref h'.objs.size, upd H h'.objs.size (.lst (((vs.zip ps).mergeSort leV).map (·.1))), I1.laid (t' := s.toks) (fun b u e => ?_) (Nat.le_refl _)
    (show ObjOk X.prog X.w _ _ _ (.lst _) from ⟨hlen, _, e', each_vals eo, he'⟩), rfl, q _ (I1.hok.fresh (Nat.le_refl _))⟩
  have hb : b < h'.objs.size := Heap.lt_size e
  rw [PyProof.Rows.sortedHeap_old (Nat.ne_of_lt hb) (by rw [size_push']; exact Nat.lt_succ_of_lt hb)]
  exact Heap.get?_push_of_some _ e
end DM

namespace DM
open PySem PySem.Spec L2
/-! ### l.pop() -/
def Fpop (o : D) (ds : List D) (μ : Store) : Res D := match o, ds with
  | .ref c, [] => match μ[c]? with
    | some (.lst xs) => match xs[xs.length - 1]? with
      | some y => okR y (μ.set c (.lst xs.dropLast))
      | none => none
    | _ => none
  | _, _ => none
theorem VRs.dropLast {K : PySem.W.Frag} {ι : List Addr} {H : Hp} : ∀ {vs : List V} {ds : List D}, VRs K ι H vs ds → VRs K ι H vs.dropLast ds.dropLast
  | _, _, .nil => .nil
  | _, _, .cons _ .nil => .nil
  | _, _, .cons q (.cons r t) => .cons q (VRs.dropLast (.cons r t))
section
variable {X : Cx} {W : DW} {o : Expr} {O : CM D} {apos cpos : Pos}
end
/-! ### for (a, b), c in .. -/
def fTup2 (is : List Nat) (k : Nat) : D → Rho → Option Rho := fun d ρ => match d with
  | .tup [.tup ds, e] => (setAll is ds ρ).map fun ρ' => ρ'.set k (some e)
  | _ => none
end DM

namespace DM
open PySem PySem.Spec L2
/-! ### str(x), x.split(y), x.index(y) -/
def Fstr (ds : List D) (μ : Store) : Res D := match ds with
  | [.int i] => if i.natAbs.log2 < 1920 then okR (.str (toString i)) μ else none
  | [.str a] => okR (.str a) μ
  | _ => none
def rStr : List V → Hp → VK → Prop := fun xs H Q => (∃ i, xs = [.int i] ∧ i.natAbs.log2 < 1920 ∧ Q (.str (toString i)) H) ∨ ∃ a, xs = [.str a] ∧ Q (.str a) H
section
variable {X : Cx} {K : PySem.W.Frag}
theorem call_strD : CallR X (.type "str") rStr := by
  intro pins s σ H xs us Q I r q
  rcases q with q | q
  · exact call_str_int pins s σ H xs us Q I r q
  · exact SkE.call_str_str pins s σ H xs us Q I r q
theorem lift_str : LiftA K rStr Fstr := by
  intro W σ ι μ H xs ds Q w v h
  unfold Fstr at h
  split at h
  · obtain ⟨x, rfl, vx⟩ := v.one
    obtain ⟨c, h⟩ := PostG.guard h
    cases vx
    exact .inl ⟨_, rfl, c, h.ok0 w (.str _)⟩
  · obtain ⟨x, rfl, vx⟩ := v.one
    cases vx
    exact .inr ⟨_, rfl, h.ok0 w (.str _)⟩
  · exact h.elim
def isS : D → Bool
  | .str _ => true
  | _ => false
/-- a method of texts, one argument -/
def eSM (F : D → D → Store → Res D) (O E : CM D) : CM D := O.bind fun o ρ μ => if isS o = true then E.bind (fun e _ μ1 => F o e μ1) ρ μ else none
def Fsplit (o e : D) (μ : Store) : Res D := match o, e with
  | .str a, .str b => if (b.length == 0) = false ∧ a.length + 2 ≤ sizeLine then okR (.lst ((Txt.split a b).map D.str)) μ else none
  | _, _ => none
def Fsidx (o e : D) (μ : Store) : Res D := match o, e with
  | .str a, .str b => match Builtin.Str.occurrences a b 0 a.length 1 with
    | i :: _ => okR (.int (i : Nat)) μ
    | [] => none
  | _, _ => none
end
end DM

/-! x, *y = a list -/
namespace DM
open PySem PySem.Spec L2 PyProof.Rows
section
variable {prog : Program} {w : World} {A : Around} {E : Value → Shared → Prop} {s : Shared} {env : Env} {elts : List Expr} {kk : Nat} {pos : Pos}
end
def gStarL (K : PySem.W.Frag) (t : TGs) : TG := fun v σ H Q => ∃ a x xs, v = .ref a ∧ SqL K H a (x :: xs) ∧ ∀ p, H p = none → t [x, .ref p] σ (upd H p (.lst xs)) Q
section
variable {X : Cx} {W : DW}
def tStarL (G : List D → SF) : D → SF := fun d => match d with
  | .lst (x :: xs) => G [x, .lst xs]
  | _ => fun _ _ => none
end
end DM

namespace DM
open PySem PySem.Spec L2
/-! ### x.upper() -/
def Fupper (d : D) (μ : Store) : Res D := match d with
  | .str a => if a.length ≤ 5592405 then okR (.str (Txt.upper a)) μ else none
  | _ => none
section
variable {X : Cx} {W : DW}
theorem d_upper {o : Expr} {O : CM D} {apos pos : Pos} (ho : PE X o (tE X.K W O)) (hbase : attributeBase o "upper" X.env (eval o X.env) = eval o X.env := by rfl) (hline : (apos.endLine == pos.line) = true := by rfl) :
    PE X (.Call (.Attribute o "upper" apos) [] [] pos) (tE X.K W (e1 Fupper O)) :=
  (pe_upper ho hbase hline).imp fun σ H Q ⟨ρ, ι, μ, sr, wf, h⟩ => by
    refine tG.mono (PostG.bind sr wf h) ?_
    rintro v H1 ⟨ι1, μ1, d, l1, w1, vx, h1⟩
    cases d with
    | str a =>
      cases vx
      obtain ⟨c, h2⟩ := PostG.guard h1
      exact ⟨⟨a, rfl⟩, a, rfl, rfl, c, h2.ok0 w1 (.str _)⟩
    | _ => exact h1.elim
end
theorem f_upper {a : Str} {μ : Store} (h : a.length ≤ 1000) : Fupper (.str a) μ = okR (.str (Txt.upper a)) μ := by
  show (if a.length ≤ 5592405 then okR (.str (Txt.upper a)) μ else none) = _
  rw [if_pos (by omega)]
end DM

namespace DM
open PySem PySem.Spec L2
/-! ### l.extend(x), x a list by value or a cell -/
def FextR (o : D) (ds : List D) (μ : Store) : Res D := match o, ds with
  | .ref c, [d] => match μ[c]?, lstOf μ d with
    | some (.lst xs), some ys => if xs.length + ys.length ≤ sizeLine then okR .non (μ.set c (.lst (xs ++ ys))) else none
    | _, _ => none
  | _, _ => none
theorem lift_extR {K : PySem.W.Frag} : LiftM K rExtend FextR := by
  intro W σ ι μ H x xs d ds Q w vx vxs h
  unfold FextR at h
  split at h
  · rename_i c e
    obtain ⟨v, rfl, vy⟩ := vxs.one
    cases vx with
    | ref hi =>
      obtain ⟨o, ho, ro⟩ := w.has hi
      simp only [ho] at h
      cases o with
      | lst zs =>
        obtain ⟨vs, ea, r⟩ := ro
        cases el : lstOf μ e with
        | none => rw [el] at h; exact h.elim
        | some ys =>
          rw [el] at h
          simp only at h
          obtain ⟨q, h⟩ := PostG.guard h
          obtain ⟨b, vb, rfl, hb, rb⟩ := lstOf_vr w vy el
          exact ⟨_, _, vs, _, rfl, rfl, ea, hb, by rw [r.length, rb.length]; exact q, h.ok (Le.set hi (nf ea)) (w.set hi (nf ea) (OR.mkL upd_same ((r.append rb).mono (Le.set hi (nf ea))))) .non⟩
      | _ => exact h.elim
  · exact h.elim
section
variable {X : Cx} {W : DW} {o e : Expr} {O : CM D} {As : CM (List D)} {apos cpos : Pos}
theorem d_extR (ho : PE X o (tE X.K W O)) (ha : PA X [e] (tA X.K W As)) (hbase : attributeBase o "extend" X.env (eval o X.env) = eval o X.env := by rfl)
    (hfew : ((backTo cpos (starEach [e] X.env)).all (fun x => !x.1) && (backToKw cpos (keywordEach [] X.env)).all (fun x => x.1.isSome) && decide ([e].length + ([] : List Keyword).length + (if ([] : List Keyword).isEmpty then 0 else 1) < 30)) = true := by rfl)
    (hline : (apos.endLine == cpos.line) = true := by rfl) (hs : starEach [e] X.env = (false, eval e X.env) :: starEach [] X.env := by rfl) (hp : (backTo cpos (starEach [] X.env)).any (·.1) = false := by rfl) :
    PE X (.Call (.Attribute o "extend" apos) [e] [] cpos) (tE X.K W (eMeth isList FextR O As)) :=
  (pe_bm PySem.F.plainAttrs_list PySem.F.slot_list_extend PySem.F.type_list_extend mt_extend ho ha hbase hfew hline hs hp).imp (bmAux (fun _ _ _ _ _ => list_ty) lift_extR)
end
theorem f_extR {c : Nat} {d : D} {xs ys : List D} {μ : Store} (hc : μ[c]? = some (.lst xs)) (hd : lstOf μ d = some ys) (h : xs.length + ys.length ≤ 1000000) : FextR (.ref c) [d] μ = okR .non (μ.set c (.lst (xs ++ ys))) := by
  show (match μ[c]?, lstOf μ d with
    | some (.lst xs), some ys => if xs.length + ys.length ≤ sizeLine then okR .non (μ.set c (.lst (xs ++ ys))) else none
    | _, _ => none) = _
  rw [hc, hd]
  exact if_pos (size_ok h)
end DM

/-! ### sorted(set(t)) of a tuple of texts -/
namespace L2
open PySem PySem.Spec PyProof.Rows
/-- the text that a member is -/
def keyS (v : Value) : Str := match v with | .str k _ => k | _ => ""
def txtE (P : Program) (w : World) (e : Int × Value) : Prop := (∃ k tk, e.2 = Value.str k tk) ∧ e.1 = (strKind P w).hash (keyS e.2)
/-- the set of texts at a: S its members -/
def SetS (P : Program) (w : World) (h : Heap) (a : Addr) (S : Str → Bool) (n : Nat) : Prop :=
  ∃ o es ep t, h.get? a = some o ∧ o.ExactSet ∧ o.data = .set es ep t ∧ (∀ e ∈ es.toList, txtE P w e) ∧ (es.toList.map fun e => keyS e.2).Nodup ∧ (∀ k, S k = true ↔ k ∈ es.toList.map fun e => keyS e.2) ∧
    es.size < scanBound ∧ t.fits es.size = true ∧ es.size = n ∧ Ris t.place.toList ∧ (w.params.followText "set-order" = true ∨ t.led = true)
section
variable {P : Program} {w : World} {h h' : Heap} {a : Addr} {S : Str → Bool} {n : Nat}
theorem SetS.at (R : SetS P w h a S n) (k : ∀ o, h.get? a = some o → h'.get? a = some o) : SetS P w h' a S n := by
  obtain ⟨o, es, ep, t, ho, r⟩ := R
  exact ⟨o, es, ep, t, k o ho, r⟩
theorem SetS.congr {S' : Str → Bool} (R : SetS P w h a S n) (e : ∀ k, S' k = S k) : SetS P w h a S' n := by
  rw [show S' = S from funext e]
  exact R
end
section
variable {P : Program} {w : World} {A : Around} {E : Value → Shared → Prop} {s : Shared} {a : Addr} {S : Str → Bool} {n : Nat}
end
/-- sorted(set(t)) -/
def tSortSet (K : PySem.W.Frag) (ta : TE) : TE := fun σ H Q => ta σ H fun x H1 => ∃ (l : Addr) (ts : List Str), x = .ref l ∧ SqT K H1 l (ts.map V.str) ∧ ts.length < 64 ∧ ∀ (ys : List Str) (p : Addr), ys.Nodup → (∀ k, k ∈ ys ↔ k ∈ ts) → sortedS ys = true → H1 p = none → Q (.ref p) (upd H1 p (.lst (ys.map V.str)))
end L2
namespace DM
open PySem PySem.Spec L2
def dedS : List Str → List Str
  | [] => []
  | x :: r => if x ∈ r then dedS r else x :: dedS r
/-- sorted(set(..)) of a tuple of texts -/
def Fsset (d : D) (μ : Store) : Res D := match d with
  | .tup xs => match strsD xs with
    | some ts => if ts.length < 64 then okR (.lst ((sortS (dedS ts)).map D.str)) μ else none
    | none => none
  | _ => none
section
variable {X : Cx} {W : DW}
end
end DM

/-! ### the tables of sets, up to 512 places -/
namespace L2
open PySem PySem.Spec PyProof.Rows
/-- what a mask must give: each slot is met -/
structure MG (m : Nat) : Prop where
  all : ∀ j, j ≤ m → ∃ b, b ≤ m ∧ lcgN m b = j
  round : lcgN m (m + 1) = 0
  odd : m % 2 = 1
def orbit : Nat → Nat → List Nat
  | 0, _ => []
  | n + 1, x => x :: orbit n ((x * 5 + 1) % 512)
theorem lcgI_front (m : Nat) : ∀ (k x : Nat), lcgI m x (k + 1) = lcgI m ((x * 5 + 1) % (m + 1)) k
  | 0, _ => rfl
  | k + 1, x => by
    show (lcgI m x (k + 1) * 5 + 1) % (m + 1) = (lcgI m ((x * 5 + 1) % (m + 1)) k * 5 + 1) % (m + 1)
    rw [lcgI_front m k x]
theorem orbit_mem : ∀ (n x y : Nat), y ∈ orbit n x → ∃ k, k < n ∧ lcgI 511 x k = y
  | 0, _, _, h => by cases h
  | n + 1, x, y, h => by
    rcases List.mem_cons.mp h with e | h
    · exact ⟨0, Nat.succ_pos _, e.symm⟩
    · obtain ⟨k, hk, e⟩ := orbit_mem n _ y h
      exact ⟨k + 1, Nat.succ_lt_succ hk, by rw [lcgI_front]; exact e⟩
theorem lcgN_I (m : Nat) : ∀ k, lcgI m 0 k = lcgN m k
  | 0 => rfl
  | k + 1 => by
    show (lcgI m 0 k * 5 + 1) % (m + 1) = (lcgN m k * 5 + 1) % (m + 1)
    rw [lcgN_I m k]
theorem orbit_all : ((List.range 512).all fun j => (orbit 512 0).contains j) = true := by decide +kernel
theorem orbit_end : lcgN 511 512 = 0 := by decide +kernel
theorem mg511 : MG 511 where
  all := fun j hj => by
    have h := List.all_eq_true.mp orbit_all j (List.mem_range.mpr (Nat.lt_succ_of_le hj))
    obtain ⟨k, hk, e⟩ := orbit_mem 512 0 j (List.contains_iff_mem.mp h)
    exact ⟨k, Nat.le_of_lt_succ hk, by rw [← lcgN_I]; exact e⟩
  round := orbit_end
  odd := rfl
def MaskG (m : Nat) : Prop := m = 7 ∨ m = 31 ∨ m = 127 ∨ m = 511
theorem MaskG.mg {m : Nat} (h : MaskG m) : MG m := by
  have old : MaskOk m → MG m := fun h => ⟨fun j hj => lcg_all h hj, lcg_round h, mask_odd h⟩
  rcases h with e | e | e | e
  · exact old (.inl e)
  · exact old (.inr (.inl e))
  · exact old (.inr (.inr e))
  · subst e
    exact mg511
section
variable {m : Nat}
theorem MG.again (hm : MG m) : ∀ k, lcgN m (m + 1 + k) = lcgN m k
  | 0 => hm.round
  | k + 1 => by
    show (lcgN m (m + 1 + k) * 5 + 1) % (m + 1) = (lcgN m k * 5 + 1) % (m + 1)
    rw [hm.again k]
theorem MG.meets (hm : MG m) {i j : Nat} (hi : i ≤ m) (hj : j ≤ m) : ∃ k, k ≤ m ∧ lcgI m i k = j := by
  obtain ⟨a, ha, rfl⟩ := hm.all i hi
  obtain ⟨b, hb, rfl⟩ := hm.all j hj
  by_cases c : b < a
  · refine ⟨b + (m + 1) - a, by omega, ?_⟩
    rw [lcgN_add, show a + (b + (m + 1) - a) = m + 1 + b by omega, hm.again]
  · refine ⟨b - a, by omega, ?_⟩
    rw [lcgN_add, show a + (b - a) = b by omega]
theorem MG.run (hm : MG m) (h : Int) {j : Nat} (hj : j ≤ m) : ∃ n, n ≤ m + 12 ∧ runI m (SetTable.bits h) n = j := by
  obtain ⟨k, hk, e⟩ := hm.meets (runI_le m (SetTable.bits h) 12) hj
  exact ⟨12 + k, by omega, by rw [runI_tail (bits_lt h)]; exact e⟩
theorem MG.nth (hm : MG m) (h : Int) {j : Nat} (hj : j ≤ m) : ∃ k, k < 10 * SetTable.turns m ∧ way m h k = j := by
  obtain ⟨n, hn, e⟩ := hm.run h hj
  obtain ⟨k, hk, e2⟩ := run_nth m (SetTable.bits h) n
  refine ⟨k, by unfold SetTable.turns; omega, ?_⟩
  show (L2.nth m (runAt m (SetTable.bits h % (m + 1)) (SetTable.bits h)) k).j = j
  rw [e2]
  exact e
theorem way_in (m : Nat) (h : Int) (k : Nat) : way m h k ≤ m := by
  have hi : SetTable.bits h % (m + 1) ≤ m := Nat.le_of_lt_succ (Nat.mod_lt _ (Nat.succ_pos _))
  have r := runEnd_bd hi
  have q := nth_in (m := m) k (runAt m (SetTable.bits h % (m + 1)) (SetTable.bits h)) (by
    show SetTable.bits h % (m + 1) + (SetTable.runEnd m (SetTable.bits h % (m + 1)) - SetTable.bits h % (m + 1)) ≤ m
    omega)
  exact Nat.le_trans (Nat.le_add_right _ _) q
end
/-- a table in which all is found again -/
structure TabG (t : SetTable) (hs : List Int) : Prop where
  ris : Ris t.place.toList
  dm : t.dummies = #[]
  sz : t.place.size = hs.length
  mok : MaskG t.mask
  bd : ∀ x ∈ t.place.toList, x ≤ t.mask
  reach : ∀ (i : Nat) (h : Int) (j : Nat), hs[i]? = some h → t.place.toList[i]? = some j → ∃ k, way t.mask h k = j ∧ ∀ k', k' < k → way t.mask h k' ∈ t.place.toList
section
variable {t : SetTable} {hs : List Int}
theorem TabG.first (T : TabG t hs) (hl : hs.length ≤ t.mask) (h : Int) : ∃ K, K < 10 * SetTable.turns t.mask ∧ way t.mask h K ∉ t.place.toList ∧ ∀ k, k < K → way t.mask h k ∈ t.place.toList := by
  obtain ⟨j, hj, hn⟩ := st_missing t.place.toList (t.mask + 1) (by rw [Array.length_toList, T.sz]; omega)
  obtain ⟨k, hk, e⟩ := T.mok.mg.nth h (Nat.le_of_lt_succ hj)
  obtain ⟨K, h1, h2, h3⟩ := st_least (p := fun k => way t.mask h k ∉ t.place.toList) k (by show way t.mask h k ∉ _; rw [e]; exact hn)
  exact ⟨K, Nat.lt_of_le_of_lt h1 hk, h2, fun k' hk' => Classical.not_not.mp (h3 k' hk')⟩
theorem TabG.before (T : TabG t hs) {h : Int} {K i j : Nat} (hK : way t.mask h K ∉ t.place.toList) (hi : hs[i]? = some h) (hj : t.place.toList[i]? = some j) : ∃ k, k < K ∧ way t.mask h k = j := by
  obtain ⟨k, e, hb⟩ := T.reach i h j hi hj
  refine ⟨k, Nat.lt_of_not_le fun c => ?_, e⟩
  rcases Nat.lt_or_eq_of_le c with c | c
  · exact hK (hb K c)
  · rw [c, e] at hK
    exact hK (List.mem_of_getElem? hj)
theorem TabG.put (T : TabG t hs) {h : Int} {K : Nat} (hK : way t.mask h K ∉ t.place.toList) (hb : ∀ k, k < K → way t.mask h k ∈ t.place.toList) :
    (t.put (way t.mask h K)).2 = SetTable.below t.place (way t.mask h K) ∧ SetTable.below t.place (way t.mask h K) ≤ hs.length ∧
    TabG (t.put (way t.mask h K)).1 (hs.take (SetTable.below t.place (way t.mask h K)) ++ h :: hs.drop (SetTable.below t.place (way t.mask h K))) ∧
    (t.put (way t.mask h K)).1.mask = t.mask ∧ (t.put (way t.mask h K)).1.led = t.led ∧ (t.put (way t.mask h K)).1.fill = hs.length + 1 := by
  have hjm : way t.mask h K ≤ t.mask := way_in _ _ _
  obtain ⟨j, hj⟩ : ∃ j, j = way t.mask h K := ⟨_, rfl⟩
  rw [← hj] at hK hjm ⊢
  obtain ⟨c1, _, _⟩ := below_cut T.ris j
  have hpl : SetTable.below t.place j ≤ t.place.toList.length := by rw [Array.length_toList]; exact c1
  have hph : SetTable.below t.place j ≤ hs.length := by rw [← T.sz]; exact c1
  have hnp : t.place[SetTable.below t.place j]? ≠ some j := fun e => hK (List.mem_of_getElem? (by rw [Array.getElem?_toList]; exact e))
  have hpp := put_place t j
  have hsize : (t.put j).1.place.size = hs.length + 1 := by
    rw [← Array.length_toList, hpp, len_ins _ hpl, Array.length_toList, T.sz]
  have up : ∀ {x : Nat}, x ∈ t.place.toList → x ∈ (t.put j).1.place.toList := fun {x} hx => by
    rw [hpp]
    exact mem_ins.2 (.inr hx)
  refine ⟨rfl, hph, ⟨ris_insert T.ris hnp, put_dm T.dm j, by rw [len_ins _ hph]; exact hsize, T.mok, fun x hx => ?_, fun i h' j' h1 h2 => ?_⟩, rfl, rfl, ?_⟩
  · rw [hpp] at hx
    rcases mem_ins.1 hx with z | z
    · rw [z]; exact hjm
    · exact T.bd x z
  · rw [tins_get hs hph] at h1
    rw [hpp, tins_get _ hpl] at h2
    show ∃ k, way t.mask h' k = j' ∧ ∀ k', k' < k → way t.mask h' k' ∈ (t.put j).1.place.toList
    split at h1
    · rename_i c
      rw [if_pos c] at h2
      obtain ⟨k, e, z⟩ := T.reach i h' j' h1 h2
      exact ⟨k, e, fun k' hk' => up (z k' hk')⟩
    · rename_i c
      rw [if_neg c] at h2
      split at h1
      · rename_i d
        rw [if_pos d] at h2
        cases h1
        cases h2
        exact ⟨K, hj.symm, fun k' hk' => up (hb k' hk')⟩
      · rename_i d
        rw [if_neg d] at h2
        obtain ⟨k, e, z⟩ := T.reach (i - 1) h' j' h1 h2
        exact ⟨k, e, fun k' hk' => up (z k' hk')⟩
  · show (t.put j).1.place.size + (t.put j).1.dummies.size = hs.length + 1
    rw [hsize, put_dm T.dm j] <;> rfl
end
/-! laying all anew -/
section
variable {m : Nat}
theorem MG.find (hm : MG m) (owner : Array (Option Nat)) (h : Int) {j : Nat} (hj : j ≤ m) (hf : oAt owner j = none) :
    ∃ K, SetTable.layClean.free m owner (SetTable.turns m) (SetTable.bits h % (m + 1)) (SetTable.bits h) = some (way m h K) ∧ oAt owner (way m h K) = none ∧ ∀ k, k < K → oAt owner (way m h k) ≠ none := by
  obtain ⟨n, hn, e⟩ := hm.run h hj
  obtain ⟨N, hN⟩ : ∃ N, N = off m (SetTable.bits h % (m + 1)) (SetTable.bits h) n := ⟨_, rfl⟩
  have hw : way m h N = j := by
    show (L2.nth m (runAt m (SetTable.bits h % (m + 1)) (SetTable.bits h)) N).j = j
    rw [hN, nth_off, itL_run]
    exact e
  obtain ⟨K, k1, k2, k3⟩ := st_least (p := fun k => oAt owner (way m h k) = none) N (by show oAt owner (way m h N) = none; rw [hw]; exact hf)
  refine ⟨K, free_spec m owner (SetTable.turns m) n _ _ K (by unfold SetTable.turns; omega) (by rw [← hN]; exact k1) (fun k hk => ?_) ?_, k2, k3⟩
  · have q := k3 k hk
    cases z : oAt owner (L2.nth m (runAt m (SetTable.bits h % (m + 1)) (SetTable.bits h)) k).j with
    | none => exact absurd z q
    | some _ => rfl
  · have q : oAt owner (L2.nth m (runAt m (SetTable.bits h % (m + 1)) (SetTable.bits h)) K).j = none := k2
    rw [q]
    rfl
theorem Own.more (hm : MG m) {done : List Int} {owner : Array (Option Nat)} (W : Own m done owner) (hl : done.length ≤ m) (h : Int) :
    ∃ j, SetTable.layClean.free m owner (SetTable.turns m) (SetTable.bits h % (m + 1)) (SetTable.bits h) = some j ∧ Own m (done ++ [h]) (owner.setIfInBounds j (some done.length)) := by
  obtain ⟨ps, hps, hin⟩ := W.ps
  obtain ⟨j0, h0, hn0⟩ := st_missing ps (m + 1) (by omega)
  have hj0 : oAt owner j0 = none := by
    cases z : oAt owner j0 with
    | none => rfl
    | some k => exact absurd (hin j0 (Nat.le_of_lt_succ h0) (by rw [z]; exact fun e => nomatch e)) hn0
  obtain ⟨K, e1, e2, e3⟩ := hm.find owner h (Nat.le_of_lt_succ h0) hj0
  have hjm : way m h K ≤ m := way_in _ _ _
  refine ⟨way m h K, e1, ?_⟩
  have hself := oAt_set_self (owner := owner) (some done.length) (show way m h K < owner.size by rw [W.sz]; omega)
  have mono : ∀ {i : Nat}, oAt owner i ≠ none → oAt (owner.setIfInBounds (way m h K) (some done.length)) i ≠ none := fun {i} hi => by
    by_cases c : i = way m h K
    · rw [c, hself]; exact fun e => nomatch e
    · rw [oAt_set_ne _ c]; exact hi
  refine ⟨by rw [Array.size_setIfInBounds]; exact W.sz, fun j k hj e => ?_, fun k hk => ?_, ⟨way m h K :: ps, by rw [List.length_cons, List.length_append, hps] <;> rfl, fun j hj e => ?_⟩⟩
  · by_cases c : j = way m h K
    · rw [c, hself] at e
      cases e
      exact ⟨h, K, by simp, c.symm, fun k' hk' => mono (e3 k' hk')⟩
    · rw [oAt_set_ne _ c] at e
      obtain ⟨h', K', a1, a2, a3⟩ := W.at_ j k hj e
      exact ⟨h', K', by rw [List.getElem?_append_left (List.getElem?_eq_some_iff.mp a1).1]; exact a1, a2, fun k' hk' => mono (a3 k' hk')⟩
  · rw [List.length_append, List.length_singleton] at hk
    by_cases c : k < done.length
    · obtain ⟨j, hj, e⟩ := W.all k c
      exact ⟨j, hj, by rw [oAt_set_ne _ (fun z => by rw [z, e2] at e; cases e)]; exact e⟩
    · rw [show k = done.length by omega]
      exact ⟨way m h K, hjm, hself⟩
  · by_cases c : j = way m h K
    · rw [c]; exact List.mem_cons_self
    · rw [oAt_set_ne _ c] at e
      exact List.mem_cons_of_mem _ (hin j hj e)
theorem fold_all (hm : MG m) : ∀ (rest done : List Int) (owner : Array (Option Nat)), Own m done owner → done.length + rest.length ≤ m →
    ∃ owner', rest.foldl (stepF m) (some (owner, done.length)) = some (owner', (done ++ rest).length) ∧ Own m (done ++ rest) owner'
  | [], done, owner, W, _ => ⟨owner, by rw [List.append_nil] <;> rfl, by rw [List.append_nil]; exact W⟩
  | h :: rest, done, owner, W, hl => by
    rw [List.length_cons] at hl
    obtain ⟨j, e, W'⟩ := Own.more hm W (by omega) h
    have hl' : (done ++ [h]).length = done.length + 1 := by simp
    obtain ⟨owner', f, W2⟩ := fold_all hm rest (done ++ [h]) _ W' (by rw [hl']; omega)
    rw [show done ++ [h] ++ rest = done ++ h :: rest by simp] at f W2
    rw [hl'] at f
    exact ⟨owner', by rw [List.foldl_cons, stepF_some e]; exact f, W2⟩
theorem clean_all (hm : MG m) {hs : Array Int} (hn : hs.size ≤ m) : ∃ owner, SetTable.layClean m hs = some owner ∧ Own m hs.toList owner := by
  obtain ⟨owner, f, W⟩ := fold_all hm hs.toList [] _ (Own.init m) (by rw [Array.length_toList]; show 0 + hs.size ≤ m; omega)
  rw [List.nil_append] at W
  refine ⟨owner, ?_, W⟩
  have f' : hs.toList.foldl (stepF m) (some (Array.replicate (m + 1) none, 0)) = some (owner, ([] ++ hs.toList).length) := f
  rw [layClean_eq, f']
  rfl
theorem relaid_all (t : SetTable) {hs : Array Int} {wanted M : Nat} (hw : SetTable.sizeAbove wanted - 1 = M) (hM : MaskG M) (hn : hs.size ≤ M) :
    ∃ t' order, t.relaid hs wanted = some (t', order) ∧ order.toList.Perm (List.range hs.size) ∧ TabG t' (order.toList.map fun i => hs.getD i 0) ∧ t'.mask = M ∧ t'.led = t.led := by
  obtain ⟨owner, e, W⟩ := clean_all hM.mg hn
  have hr : t.relaid hs wanted = some (tabOf t M owner, ((liveOf M owner).map (·.2)).toArray) := by
    rw [relaid_eq, hw, e] <;> rfl
  have ris := ris_live (fun j => owner.getD j none) (List.range (M + 1)) (by
    unfold Ris
    first | exact List.pairwise_lt_range | exact List.pairwise_lt_range _)
  have r1 : Ris ((liveOf M owner).map (·.1)) := ris.1
  have r2 : ∀ x ∈ (liveOf M owner).map (·.1), x ∈ List.range (M + 1) := ris.2
  have nd : ((liveOf M owner).map (·.1)).Nodup := List.Pairwise.imp (fun h => Nat.ne_of_lt h) r1
  have hlen : (liveOf M owner).length = hs.size := by
    obtain ⟨ps, p1, p2⟩ := W.ps
    have a := nat_nodup_len ((liveOf M owner).map (·.1)) ps nd fun x hx => by
      obtain ⟨⟨y, k⟩, hq, ey⟩ := List.mem_map.mp hx
      have ey : y = x := ey
      subst ey
      obtain ⟨b1, b2⟩ := (mem_live W.sz).1 hq
      exact p2 y b1 (by rw [b2]; exact fun z => nomatch z)
    have b := nat_nodup_len (List.range hs.size) ((liveOf M owner).map (·.2)) List.nodup_range fun k hk => by
      obtain ⟨j, b1, b2⟩ := W.all k (by rw [Array.length_toList]; exact List.mem_range.mp hk)
      exact List.mem_map.mpr ⟨(j, k), (mem_live W.sz).2 ⟨b1, b2⟩, rfl⟩
    rw [List.length_map, p1] at a
    rw [List.length_map, List.length_range] at b
    have hz : hs.toList.length = hs.size := rfl
    omega
  refine ⟨tabOf t M owner, ((liveOf M owner).map (·.2)).toArray, hr, ?_, ⟨r1, rfl, ?_, hM, fun x hx => Nat.le_of_lt_succ (List.mem_range.mp (r2 x hx)), fun i h j h1 h2 => ?_⟩, rfl, rfl⟩
  · refine perm_range hs.size _ (by show ((liveOf M owner).map (·.2)).length = hs.size; rw [List.length_map]; exact hlen) fun k hk => ?_
    obtain ⟨j, b1, b2⟩ := W.all k (by rw [Array.length_toList]; exact hk)
    exact List.mem_map.mpr ⟨(j, k), (mem_live W.sz).2 ⟨b1, b2⟩, rfl⟩
  · show ((liveOf M owner).map (·.1)).toArray.size = (((liveOf M owner).map (·.2)).map fun i => hs.getD i 0).length
    rw [List.size_toArray, List.length_map, List.length_map, List.length_map]
  · have h1' : (((liveOf M owner).map (·.2)).map fun i => hs.getD i 0)[i]? = some h := h1
    have h2' : ((liveOf M owner).map (·.1))[i]? = some j := h2
    rw [List.getElem?_map, List.getElem?_map] at h1'
    rw [List.getElem?_map] at h2'
    cases hq : (liveOf M owner)[i]? with
    | none => rw [hq] at h2'; cases h2'
    | some q =>
      obtain ⟨y, k⟩ := q
      rw [hq] at h1' h2'
      have ej : y = j := Option.some.inj h2'
      have eh : hs.getD k 0 = h := Option.some.inj h1'
      subst ej
      obtain ⟨b1, b2⟩ := (mem_live W.sz).1 (List.mem_of_getElem? hq)
      obtain ⟨h0, K, a1, a2, a3⟩ := W.at_ y k b1 b2
      have e0 : hs.getD k 0 = h0 := by
        rw [Array.getD_eq_getD_getElem?, ← Array.getElem?_toList, a1] <;> rfl
      have ehh : h0 = h := e0.symm.trans eh
      subst ehh
      refine ⟨K, a2, fun k' hk' => ?_⟩
      show way M h0 k' ∈ (liveOf M owner).map (·.1)
      cases z : oAt owner (way M h0 k') with
      | none => exact absurd z (a3 k' hk')
      | some k2 => exact List.mem_map.mpr ⟨(way M h0 k', k2), (mem_live W.sz).2 ⟨way_in _ _ _, z⟩, rfl⟩
end
theorem grow5 : SetTable.sizeAbove (SetTable.grown 5) = 32 := by decide +kernel
theorem grow19 : SetTable.sizeAbove (SetTable.grown 19) = 128 := by decide +kernel
theorem grow77 : SetTable.sizeAbove (SetTable.grown 77) = 512 := by decide +kernel
/-- the rows in another order -/
theorem rows_order {β : Type} (f : Addr × β → Int × Value) (L : List (Addr × β)) (es : Array (Int × Value)) (order : Array Nat) (hr : es.toList = L.map f) (hp : order.toList.Perm (List.range L.length)) :
    ∃ L2 : List (Addr × β), (order.filterMap (es[·]?)).toList = L2.map f ∧ L2.Perm L ∧ (L2.map fun p => (f p).1) = order.toList.map fun i => (es.map (·.1)).getD i 0 := by
  have hsz : es.size = L.length := by rw [← Array.length_toList, hr, List.length_map]
  have ent : ∀ i (h : i < L.length), es[i]? = some (f L[i]) := fun i h => by
    rw [← Array.getElem?_toList, hr, List.getElem?_map, List.getElem?_eq_getElem h] <;> rfl
  have key : ∀ l : List Nat, (∀ i ∈ l, i < L.length) → ∃ L2 : List (Addr × β), l.filterMap (fun i => es[i]?) = L2.map f ∧ L2 = l.filterMap (fun i => L[i]?) ∧ (L2.map fun p => (f p).1) = l.map fun i => (es.map (·.1)).getD i 0 := by
    intro l
    induction l with
    | nil => intro _; exact ⟨[], rfl, rfl, rfl⟩
    | cons i l ih =>
      intro hl
      have hi := hl i List.mem_cons_self
      obtain ⟨L2, e1, e2, e3⟩ := ih fun j hj => hl j (List.mem_cons_of_mem _ hj)
      refine ⟨L[i] :: L2, ?_, ?_, ?_⟩
      · rw [List.filterMap_cons_some (ent i hi), e1] <;> rfl
      · rw [List.filterMap_cons_some (List.getElem?_eq_getElem hi), e2]
      · rw [List.map_cons, List.map_cons, e3]
        have e5 : (es.map (·.1))[i]? = some (f L[i]).1 := by rw [Array.getElem?_map, ent i hi] <;> rfl
        have e4 : (es.map (·.1)).getD i 0 = (f L[i]).1 := by simp [Array.getD_eq_getD_getElem?, e5]
        rw [e4]
  obtain ⟨L2, e1, e2, e3⟩ := key order.toList fun i hi => List.mem_range.mp (hp.mem_iff.mp hi)
  refine ⟨L2, by first | (rw [Array.toList_filterMap]; exact e1) | simpa using e1, ?_, e3⟩
  have h1 : L2.Perm ((List.range L.length).filterMap fun i => L[i]?) := by
    rw [e2]
    exact hp.filterMap _
  have h2 : ∀ n, n ≤ L.length → (List.range n).filterMap (fun i => L[i]?) = L.take n := by
    intro n
    induction n with
    | zero => intro _; rfl
    | succ n ih =>
      intro hn
      rw [List.range_succ, List.filterMap_append, ih (Nat.le_of_lt hn), List.take_succ, List.getElem?_eq_getElem hn, List.filterMap_cons_some (List.getElem?_eq_getElem hn)]
      rfl
  rw [h2 L.length (Nat.le_refl _), List.take_length] at h1
  exact h1
end L2

/-! ### sets of at most 300 tuples of texts and whole numbers -/
namespace L2
open PySem PySem.Spec PyProof.Rows
section
variable {P : Program} {w : World} {A : Around} {E : Value → Shared → Prop} {s : Shared}
abbrev hK (P : Program) (w : World) (k : List Key) : Int := tupleKeyHash (mixKind P w) k
abbrev IsK (P : Program) (w : World) (h : Heap) (k : List Key) (b : Addr) : Prop := IsTupleKey (mixKind P w) h k b
theorem atoms_of {k : List Key} {vs : List Value} (h : ItemsAre (mixKind P w) k vs) : ∀ v ∈ vs, ∀ n, ofAClassStatement n v = pure false ∧ hashByValue n v = pure (plainKind v) := by
  induction h with
  | nil => exact fun v hv => nomatch hv
  | cons h1 _ ih =>
    intro v hv n
    rcases List.mem_cons.mp hv with e | hv
    · rcases keyIs_shape h1 with ⟨i, t, _, e2⟩ | ⟨x, t, _, e2⟩ <;> rw [e, e2] <;> cases n <;> exact ⟨rfl, rfl⟩
    · exact ih v hv n
theorem noCls {k : List Key} {b : Addr} {Q : Bool → Shared → Prop} (x : IsK P w s.heap k b) (q : Q false s) : wpAny (model P w) A (ofAClassStatement 8 (.ref b)) Q E s := by
  have ty := x.typeIs
  obtain ⟨o, its, m, ho, _, hd, hi⟩ := x
  have ats := atoms_of hi
  unfold ofAClassStatement
  refine wpAny_bind (wpAny_typeOf ty ?_)
  have et : (("tuple" : String) == "tuple") = true := by decide
  simp only [et, if_true, Bool.not_true, Bool.false_eq_true, if_false]
  try refine wpAny_bind (wpAny_pure ?_)
  try simp only [Bool.not_true, Bool.false_eq_true, if_false]
  show wpAny _ _ (seqItems? (.ref b) >>= _) _ _ s
  refine wpAny_bind (wpAny_seqItems ho hd ?_)
  dsimp only
  refine wpAny_bind ?_
  show wpAny _ _ (forIn its _ _) _ _ s
  rw [← Array.forIn_toList]
  refine wpAny_forIn_list _ (fun more got now => (got.1 = none ∧ now = s) ∧ ∀ v ∈ more, v ∈ its.toList) _ ?_ ?_ _ _ ⟨⟨rfl, rfl⟩, fun v hv => hv⟩
  · rintro v more got now ⟨⟨g, rfl⟩, sub⟩
    rw [(ats v (sub v List.mem_cons_self) _).1]
    refine wpAny_bind (wpAny_pure ?_)
    simp only [Bool.false_eq_true, if_false]
    exact wpAny_pure ⟨⟨rfl, rfl⟩, fun u hu => sub u (List.mem_cons_of_mem _ hu)⟩
  · rintro ⟨g1, g2⟩ now ⟨⟨g, rfl⟩, _⟩
    dsimp only at g
    subst g
    exact wpAny_pure q
theorem byVal {k : List Key} {b : Addr} {Q : Bool → Shared → Prop} (x : IsK P w s.heap k b) (q : ∀ y, Q y s) : wpAny (model P w) A (hashByValue 8 (.ref b)) Q E s := by
  have ty := x.typeIs
  obtain ⟨o, its, m, ho, _, hd, hi⟩ := x
  have ats := atoms_of hi
  unfold hashByValue
  refine wpAny_bind (wpAny_specialOf ty F.slot_tuple_hash.lookup ?_)
  show wpAny _ _ (seqItems? (.ref b) >>= _) _ _ s
  refine wpAny_bind (wpAny_seqItems ho hd ?_)
  refine wpAny_bind ?_
  show wpAny _ _ (forIn its _ _) _ _ s
  rw [← Array.forIn_toList]
  refine wpAny_forIn_list _ (fun more got now => (got.1 = none ∧ now = s) ∧ ∀ v ∈ more, v ∈ its.toList) _ ?_ ?_ _ _ ⟨⟨rfl, rfl⟩, fun v hv => hv⟩
  · rintro v more got now ⟨⟨g, rfl⟩, sub⟩
    rw [(ats v (sub v List.mem_cons_self) _).2]
    refine wpAny_bind (wpAny_pure ?_)
    cases plainKind v with
    | true =>
      simp only [Bool.not_true, Bool.false_eq_true, if_false]
      exact wpAny_pure ⟨⟨rfl, rfl⟩, fun u hu => sub u (List.mem_cons_of_mem _ hu)⟩
    | false =>
      simp only [Bool.not_false, if_true]
      exact wpAny_pure (wpAny_pure (q false))
  · rintro ⟨g1, g2⟩ now ⟨⟨g, rfl⟩, _⟩
    dsimp only at g
    subst g
    exact wpAny_pure (q true)
theorem notSeen {k : List Key} {b : Addr} {Q : Bool → Shared → Prop} (x : IsK P w s.heap k b) {ys : List Value} (hy : ∀ y ∈ ys, ∃ j c, y = Value.ref c ∧ IsK P w s.heap j c) (q : Q false s) : wpAny (model P w) A (searchCouldBeSeen (.ref b) ys) Q E s := by
  unfold searchCouldBeSeen
  refine wpAny_bind ?_
  refine wpAny_forIn_list _ (fun more got now => (got.1 = none ∧ now = s) ∧ ∀ v ∈ more, v ∈ ys) _ ?_ ?_ _ _ ⟨⟨rfl, rfl⟩, fun v hv => hv⟩
  · rintro v more got now ⟨⟨g, rfl⟩, sub⟩
    obtain ⟨j, c, rfl, xc⟩ := hy v (sub v List.mem_cons_self)
    have tl : ∀ u ∈ more, u ∈ ys := fun u hu => sub u (List.mem_cons_of_mem _ hu)
    dsimp only
    by_cases same : (b == c || (carriedByValue (.ref b) && carriedByValue (.ref c))) = true
    · exact wp_if_pos same (wpAny_pure ⟨⟨rfl, rfl⟩, tl⟩)
    · refine wp_if_neg same (wpAny_bind (wpAny_eqIsQuiet_tuple x ?_))
      simp only [Bool.not_true, Bool.false_eq_true, if_false]
      refine wpAny_bind (wpAny_eqIsQuiet_tuple xc ?_)
      simp only [Bool.not_true, Bool.false_eq_true, if_false]
      refine wpAny_bind (noCls x ?_)
      simp only [Bool.false_eq_true, if_false]
      refine wpAny_bind (noCls xc ?_)
      simp only [Bool.false_eq_true, if_false]
      exact wpAny_pure ⟨⟨rfl, rfl⟩, tl⟩
  · rintro ⟨g1, g2⟩ now ⟨⟨g, rfl⟩, _⟩
    dsimp only at g
    subst g
    exact wpAny_pure q
/-- a set of at most 300 such tuples: L its members, in the order of the table -/
structure Few (P : Program) (w : World) (h : Heap) (a : Addr) (L : List (Addr × List Key)) (es : Array (Int × Value)) (ep : Nat) (t : SetTable) : Prop where
  obj : ∃ o, h.get? a = some o ∧ o.ExactSet ∧ o.data = .set es ep t
  row : es.toList = L.map fun p => (hK P w p.2, Value.ref p.1)
  tab : TabG t (L.map fun p => hK P w p.2)
  nod : (L.map (·.2)).Nodup
  key : ∀ p ∈ L, IsK P w h p.2 p.1
  room : L.length * 5 < t.mask * 3
  led : w.params.followText "set-order" = true ∨ t.led = true
  few : L.length ≤ 300
variable {a : Addr} {L : List (Addr × List Key)} {es : Array (Int × Value)} {ep : Nat} {t : SetTable}
theorem Few.len (R : Few P w s.heap a L es ep t) : es.size = L.length := by
  rw [← Array.length_toList, R.row, List.length_map]
theorem Few.fit (R : Few P w s.heap a L es ep t) : t.fits es.size = true := by
  have h1 := R.tab.sz
  rw [List.length_map] at h1
  have h2 := R.len
  have h4 := R.room
  unfold SetTable.fits SetTable.fill
  rw [R.tab.dm, Bool.and_eq_true, beq_iff_eq, decide_eq_true_eq]
  show t.place.size = es.size ∧ t.place.size + 0 ≤ t.mask
  omega
theorem Few.at_ (R : Few P w s.heap a L es ep t) {i : Nat} {p : Addr × List Key} (h : L[i]? = some p) : es[i]? = some (hK P w p.2, Value.ref p.1) := by
  rw [← Array.getElem?_toList, R.row, List.getElem?_map, h]
  rfl
theorem Few.good (R : Few P w s.heap a L es ep t) : ¬ t.gaveWay = true := by
  unfold SetTable.gaveWay
  rw [R.tab.mok.mg.odd]
  decide
theorem Few.lim (R : Few P w s.heap a L es ep t) : t.mask ≤ 511 := by
  rcases R.tab.mok with e | e | e | e <;> omega
abbrev P0 (m : Nat) (h : Int) (c : Nat) : SetTable.Probe := nth m (runAt m (SetTable.bits h % (m + 1)) (SetTable.bits h)) c
theorem P0_dummy (m : Nat) (h : Int) (c : Nat) : (P0 m h c).dummy = none := by
  have key : ∀ (n : Nat) (p : SetTable.Probe), p.dummy = none → (nth m p n).dummy = none := by
    intro n
    induction n with
    | zero => exact fun p hp => hp
    | succ n ih =>
      intro p hp
      refine ih (adv m p) ?_
      unfold adv
      split <;> exact hp
  exact key c _ rfl
theorem P0_add (m : Nat) (h : Int) (c q : Nat) : nth m (P0 m h c) q = P0 m h (c + q) := (nth_add m c _ q).symm
/-- the search, from the c-th place of the way on -/
theorem few_search (R : Few P w s.heap a L es ep t) {x : Addr} {k : List Key} (hx : IsK P w s.heap k x) (hu : A.units < cLine) {K : Nat} (hKf : K < 10 * SetTable.turns t.mask) (hout : (P0 t.mask (hK P w k) K).j ∉ t.place.toList) (hin : ∀ c, c < K → (P0 t.mask (hK P w k) c).j ∈ t.place.toList)
    {Q : SetFound → Shared → Prop} (yes : k ∈ L.map (·.2) → Q (.there none) s) (no : k ∉ L.map (·.2) → Q (.free (P0 t.mask (hK P w k) K).j false) s) :
    ∀ (m c f : Nat) (stand : Option SetTable.Probe), c + m = K → m < f → stand.getD (t.probeStart (hK P w k)) = P0 t.mask (hK P w k) c →
      (∀ (i : Nat) p, L[i]? = some p → p.2 = k → ∃ c', c ≤ c' ∧ c' < K ∧ t.place.toList[i]? = some (P0 t.mask (hK P w k) c').j) →
      wpAny (model P w) A (setSearchFrom a (.ref x) (hK P w k) true f stand) Q E s := by
  intro m
  induction m using Nat.strongRecOn with
  | _ m ih =>
    intro c f stand hc hf hst left
    obtain ⟨o, ho, hex, hd⟩ := R.obj
    obtain ⟨f, rfl⟩ : ∃ g, f = g + 1 := ⟨f - 1, by omega⟩
    have spec := go_spec t R.tab.ris R.tab.dm (fun i => (es[i]?.map (·.1)).getD 0) (hK P w k) (10 * SetTable.turns t.mask) m (P0 t.mask (hK P w k) c) (P0_dummy _ _ _) (by omega)
      (fun q hq => by rw [P0_add]; exact hin (c + q) (by omega)) (by rw [P0_add, hc]; exact hout)
    simp only [P0_add] at spec
    have hashOf : ∀ (i : Nat) p, L[i]? = some p → (es[i]?.map (·.1)).getD 0 = hK P w p.2 := fun i p hp => by rw [R.at_ hp]; rfl
    rw [setSearchFrom_succ]
    refine wpAny_bind (wpAny_setState_of ho hd R.fit ?_)
    dsimp only
    refine wp_if_neg R.good ?_
    try refine wpAny_bind (wpAny_pure ?_)
    rcases spec with ⟨q, i, hq, hi, hh, first, pr⟩ | ⟨none_, pr⟩
    · have pr2 : t.probe (fun i => (es[i]?.map (·.1)).getD 0) (hK P w k) (stand.getD (t.probeStart (hK P w k))) = some (.candidate (P0 t.mask (hK P w k) (c + q)).j i (P0 t.mask (hK P w k) (c + (q + 1)))) := by
        rw [hst]
        exact pr
      rw [pr2]
      dsimp only
      have il : i < L.length := by
        have h1 : i < t.place.toList.length := (List.getElem?_eq_some_iff.mp hi).1
        have h2 := R.tab.sz
        rw [List.length_map] at h2
        rw [Array.length_toList] at h1
        omega
      obtain ⟨p, hp⟩ : ∃ p, L[i]? = some p := ⟨_, List.getElem?_eq_getElem il⟩
      have pm := List.mem_of_getElem? hp
      have pk := R.key p pm
      have sl : t.slot (P0 t.mask (hK P w k) (c + q)).j = .live i := slot_live R.tab.ris hi
      have rest : wpAny (model P w) A (searchRest a (.ref x) (hK P w k) true f es t (P0 t.mask (hK P w k) (c + q)).j i (P0 t.mask (hK P w k) (c + (q + 1)))) Q E s := by
        unfold searchRest
        rw [R.at_ hp]
        dsimp only
        refine wpAny_bind (wpAny_holding (wpAny_eqBool_tuple hu pk hx ?_))
        refine wpAny_bind (wpAny_setState_of ho hd R.fit ?_)
        dsimp only
        by_cases ek : p.2 = k
        · exact wp_if_pos (by simp [ek]) (wpAny_pure (yes (List.mem_map.mpr ⟨p, pm, ek⟩)))
        · refine wp_if_neg (by simp [ek]) ?_
          try refine wpAny_bind (wpAny_pure ?_)
          rw [sameMem]
          dsimp only
          simp only [if_true, sl, R.at_ hp]
          refine wpAny_bind (wpAny_isSame_ref_self (wpAny_bind (wpAny_pure ?_)))
          simp only [if_true]
          refine wp_if_neg (by simp [ek]) ?_
          refine ih (m - (q + 1)) (by omega) (c + (q + 1)) f _ (by omega) (by omega) rfl fun i0 p0 h0 k0 => ?_
          obtain ⟨c', a1, a2, a3⟩ := left i0 p0 h0 k0
          refine ⟨c', ?_, a2, a3⟩
          rcases Nat.lt_trichotomy c' (c + q) with z | z | z
          · exfalso
            obtain ⟨d, rfl⟩ : ∃ d, c' = c + d := ⟨c' - c, by omega⟩
            exact first d i0 (by omega) a3 ((hashOf i0 p0 h0).trans (by rw [k0]))
          · exfalso
            subst z
            have e0 := slot_live R.tab.ris a3
            rw [sl] at e0
            injection e0 with e0
            rw [← e0, hp] at h0
            exact ek ((congrArg Prod.snd (Option.some.inj h0)).trans k0)
          · omega
      by_cases hl : t.led = true
      · refine wp_if_neg (by simp [hl]) ?_
        try refine wpAny_bind (wpAny_pure ?_)
        exact rest
      · refine wp_if_pos (by simp [hl]) ?_
        refine wpAny_bind (notSeen hx (fun y hy => ?_) ?_)
        · obtain ⟨e, he, ee⟩ := List.mem_map.mp hy
          have he1 : e ∈ es ∧ e.1 = hK P w k := by simpa using he
          have he2 : e ∈ es.toList := by simpa using he1.1
          rw [R.row] at he2
          obtain ⟨p2, hp2, e2⟩ := List.mem_map.mp he2
          exact ⟨p2.2, p2.1, by rw [← ee, ← e2], R.key p2 hp2⟩
        · refine wp_if_neg (by decide) ?_
          try refine wpAny_bind (wpAny_pure ?_)
          exact rest
    · have pr2 : t.probe (fun i => (es[i]?.map (·.1)).getD 0) (hK P w k) (stand.getD (t.probeStart (hK P w k))) = some (.empty (P0 t.mask (hK P w k) K).j none) := by
        rw [hst]
        rw [← hc]
        exact pr
      rw [pr2]
      dsimp only
      refine wpAny_pure (no fun hmem => ?_)
      obtain ⟨p0, h0, k0⟩ := List.mem_map.mp hmem
      obtain ⟨i0, hi0⟩ := List.getElem?_of_mem h0
      obtain ⟨c', a1, a2, a3⟩ := left i0 p0 hi0 k0
      obtain ⟨d, rfl⟩ : ∃ d, c' = c + d := ⟨c' - c, by omega⟩
      exact none_ d i0 (by omega) a3 ((hashOf i0 p0 hi0).trans (by rw [k0]))
theorem few_at (R : Few P w s.heap a L es ep t) {x : Addr} {k : List Key} (hx : IsK P w s.heap k x) (hu : A.units < cLine) {Q : SetFound → Shared → Prop} (yes : k ∈ L.map (·.2) → Q (.there none) s)
    (no : ∀ K, k ∉ L.map (·.2) → (P0 t.mask (hK P w k) K).j ∉ t.place.toList → (∀ c, c < K → (P0 t.mask (hK P w k) c).j ∈ t.place.toList) → Q (.free (P0 t.mask (hK P w k) K).j false) s) :
    wpAny (model P w) A (setSearch a (.ref x) (hK P w k) true) Q E s := by
  have hr := R.room
  have hl := R.lim
  obtain ⟨K, hKf, hK, hKb⟩ := R.tab.first (by rw [List.length_map]; omega) (hK P w k)
  have bef : ∀ {i j : Nat}, (L.map fun p => L2.hK P w p.2)[i]? = some (L2.hK P w k) → t.place.toList[i]? = some j → ∃ c, c < K ∧ way t.mask (L2.hK P w k) c = j := fun hi hj => R.tab.before hK hi hj
  have hbig : K < 100000 := by
    unfold SetTable.turns at hKf
    omega
  unfold setSearch
  refine few_search R hx hu hKf hK hKb yes (fun hn => no K hn hK hKb) K 0 100000 none (by omega) hbig ?_ fun i p hp hk => ?_
  · show t.probeStart _ = _
    rw [start_run]
    rfl
  · have hi : (L.map fun p => L2.hK P w p.2)[i]? = some (L2.hK P w k) := by rw [List.getElem?_map, hp, ← hk]; rfl
    have il : i < t.place.toList.length := by
      have h1 : i < L.length := (List.getElem?_eq_some_iff.mp hp).1
      have h2 := R.tab.sz
      rw [List.length_map] at h2
      rw [Array.length_toList]
      omega
    have hj := List.getElem?_eq_getElem il
    obtain ⟨c, hc, e⟩ := bef hi hj
    exact ⟨c, Nat.zero_le _, hc, by rw [hj, ← e]⟩
theorem isK_keep {h h' : Heap} {k : List Key} {b : Addr} (x : IsK P w h k b) (hk : ∀ c o, h.get? c = some o → (∀ es ep t, o.data ≠ .set es ep t) → h'.get? c = some o) : IsK P w h' k b := by
  obtain ⟨o, its, n, ho, hc, hd, hi⟩ := x
  exact ⟨o, its, n, hk b o ho (fun es ep t e => by rw [hd] at e; cases e), hc, hd, hi⟩
/-- the table laid anew, larger -/
theorem few_relay {o : Obj} (ho : s.heap.get? a = some o) (hex : o.ExactSet) (hd : o.data = .set es ep t) (hrow : es.toList = L.map fun p => (hK P w p.2, Value.ref p.1)) (T : TabG t (L.map fun p => hK P w p.2)) (hfl : L.length ≤ t.mask)
    (nd : (L.map (·.2)).Nodup) (key : ∀ p ∈ L, IsK P w s.heap p.2 p.1) (ld : w.params.followText "set-order" = true ∨ t.led = true) (few : L.length ≤ 300) {wanted M : Nat}
    (hw : SetTable.sizeAbove wanted = M + 1) (hM : MaskG M) (hM2 : M ≤ 511) (hn : L.length * 5 < M * 3) {Q : Unit → Shared → Prop}
    (hQ : ∀ h' L' es' ep' t', Heap.SameBut a s.heap h' → Few P w h' a L' es' ep' t' → L'.Perm L → Q () { s with heap := h' }) : wpAny (model P w) A (setRelay a wanted) Q E s := by
  have hsl : es.size = L.length := by rw [← Array.length_toList, hrow, List.length_map]
  have hfits : t.fits es.size = true := by
    have h1 := T.sz
    rw [List.length_map] at h1
    unfold SetTable.fits SetTable.fill
    rw [T.dm, Bool.and_eq_true, beq_iff_eq, decide_eq_true_eq]
    show t.place.size = es.size ∧ t.place.size + 0 ≤ t.mask
    omega
  obtain ⟨t', order, e, hp, T2, em, el⟩ := relaid_all t (hs := es.map (·.1)) (wanted := wanted) (M := M) (by rw [hw]; rfl) hM (by rw [Array.size_map, hsl]; omega)
  rw [Array.size_map, hsl] at hp
  obtain ⟨L2, r1, r2, r3⟩ := rows_order (fun p : Addr × List Key => (hK P w p.2, Value.ref p.1)) L es order hrow hp
  rw [← r3] at T2
  have hs2 : (order.filterMap (es[·]?)).size = es.size := by rw [← Array.length_toList, r1, List.length_map, r2.length_eq, hsl]
  rw [setRelay_eq]
  refine wpAny_bind (wpAny_setState_of ho hd hfits ?_)
  dsimp only
  refine wp_if_neg (by rw [sizeLine_eq]; omega) ?_
  try refine wpAny_bind (wpAny_pure ?_)
  rw [e]
  dsimp only
  refine wpAny_bind ?_
  refine wp_if_neg (by rw [hs2]; simp) ?_
  try refine wpAny_bind (wpAny_pure ?_)
  refine wpAny_pure ?_
  dsimp only
  refine wpAny_storeSet_of ho hd ?_ (by rw [hs2, hsl, sizeLine_eq]; omega)
  have sb : Heap.SameBut a s.heap (s.heap.update a (Obj.putSet (order.filterMap (es[·]?)) t')) := Heap.SameBut.update ..
  refine hQ _ L2 (order.filterMap (es[·]?)) (ep + 1) t' sb ⟨⟨_, store_at ho hd, ⟨hex.1, hex.2.1, hex.2.2⟩, rfl⟩, r1, T2, (r2.map (·.2)).nodup_iff.mpr nd, fun p hpm => ?_, ?_, by rw [el]; exact ld, by rw [r2.length_eq]; exact few⟩ r2
  · refine isK_keep (key p (r2.mem_iff.mp hpm)) fun c o2 e2 ne => ?_
    by_cases hc : c = a
    · subst hc
      rw [ho] at e2
      cases e2
      exact absurd hd (ne _ _ _)
    · rw [sb.2 c hc]; exact e2
  · rw [r2.length_eq, em]
    exact hn
theorem few_add (R : Few P w s.heap a L es ep t) {x : Addr} {k : List Key} (hx : IsK P w s.heap k x) (hu : A.units < cLine) (h4 : L.length + 1 ≤ 300) {Q : Bool → Shared → Prop}
    (hQ : ∀ b h' L' es' ep' t', Heap.SameBut a s.heap h' → Few P w h' a L' es' ep' t' → (k ∈ L.map (·.2) → L' = L) → (k ∉ L.map (·.2) → L'.Perm ((x, k) :: L)) → Q b { s with heap := h' }) :
    wpAny (model P w) A (setAddHashed a (.ref x) (hK P w k)) Q E s := by
  obtain ⟨o, ho, hex, hd⟩ := R.obj
  have hlen := R.len
  unfold setAddHashed
  refine wpAny_holding ?_
  rw [show (100000 : Nat) = 99999 + 1 from rfl, setAddHashedIn_succ]
  refine wpAny_bind (wpAny_setState_of ho hd R.fit ?_)
  dsimp only
  refine wp_if_neg (by simp [byScan, Value.scannable]) ?_
  try refine wpAny_bind (wpAny_pure ?_)
  refine wpAny_bind (few_at R hx hu (fun hmem => ?_) fun K hmem hKo hKb => ?_)
  · dsimp only
    exact wpAny_pure (hQ false s.heap L es ep t (Heap.SameBut.refl a s.heap) R (fun _ => rfl) fun z => absurd hmem z)
  · dsimp only
    refine wpAny_bind (wpAny_setState_of ho hd R.fit ?_)
    dsimp only
    have T := R.tab.put (h := hK P w k) (K := K) hKo hKb
    obtain ⟨q1, q2, q3, q4, q5, q9⟩ := T
    have hroom := R.room
    have ew : way t.mask (hK P w k) K = (P0 t.mask (hK P w k) K).j := rfl
    rw [ew] at q1 q2 q3 q4 q5 q9
    generalize t.put (P0 t.mask (hK P w k) K).j = pt at q1 q3 q4 q5 q9 ⊢
    obtain ⟨t1, n⟩ := pt
    dsimp only at q1 q3 q4 q5 q9 ⊢
    subst q1
    have rows1 : (SetTable.insertAt es (SetTable.below t.place (P0 t.mask (hK P w k) K).j) (hK P w k, Value.ref x)).toList = (L.take (SetTable.below t.place (P0 t.mask (hK P w k) K).j) ++ (x, k) :: L.drop (SetTable.below t.place (P0 t.mask (hK P w k) K).j)).map fun p => (hK P w p.2, Value.ref p.1) := by
      rw [SetTable.toList_insertAt, R.row, List.map_append, List.map_cons, List.map_take, List.map_drop]
    generalize SetTable.below t.place (P0 t.mask (hK P w k) K).j = n at q2 q3 rows1 ⊢
    have pm : (L.take n ++ (x, k) :: L.drop n).Perm ((x, k) :: L) := by
      have h1 := List.perm_middle (a := (x, k)) (l₁ := L.take n) (l₂ := L.drop n)
      rw [List.take_append_drop] at h1
      exact h1
    have ln := pm.length_eq
    have hs1 : (L.map fun p => hK P w p.2).take n ++ hK P w k :: (L.map fun p => hK P w p.2).drop n = (L.take n ++ (x, k) :: L.drop n).map fun p => hK P w p.2 := by
      rw [List.map_append, List.map_cons, List.map_take, List.map_drop]
    rw [hs1] at q3
    have nd1 : ((L.take n ++ (x, k) :: L.drop n).map (·.2)).Nodup := (pm.map (·.2)).nodup_iff.mpr (by rw [List.map_cons]; exact List.nodup_cons.mpr ⟨hmem, R.nod⟩)
    generalize L.take n ++ (x, k) :: L.drop n = L1 at pm ln q3 nd1 rows1
    generalize SetTable.insertAt es n (hK P w k, Value.ref x) = es1 at rows1 ⊢
    rw [List.length_cons] at ln
    have sz1 : es1.size = L.length + 1 := by rw [← Array.length_toList, rows1, List.length_map, ln]
    have store : ∀ t2 : SetTable, t2.place = t1.place → t2.dummies = t1.dummies → t2.mask = t1.mask → t2.led = t1.led → wpAny (model P w) A (do
        storeSet a es1 t2
        if (!false && t2.tooFull) = true then setRelay a (SetTable.grown (es.size + 1))
        pure true) Q E s := by
      intro t2 e1 e2 e3 e4
      refine wpAny_bind (wpAny_storeSet_of ho hd ?_ (by rw [sz1, sizeLine_eq]; omega))
      have sb : Heap.SameBut a s.heap (s.heap.update a (Obj.putSet es1 t2)) := Heap.SameBut.update ..
      have ho1 := store_at (es' := es1) (t' := t2) ho hd
      generalize s.heap.update a (Obj.putSet es1 t2) = h1 at sb ho1 ⊢
      have keep : ∀ {j : List Key} {b : Addr}, IsK P w s.heap j b → IsK P w h1 j b := fun hj => isK_keep hj fun c o2 e ne => by
        by_cases hc : c = a
        · subst hc
          rw [ho] at e
          cases e
          exact absurd hd (ne _ _ _)
        · rw [sb.2 c hc]; exact e
      have tab2 : TabG t2 (L1.map fun p => hK P w p.2) := ⟨by rw [e1]; exact q3.ris, by rw [e2]; exact q3.dm, by rw [e1]; exact q3.sz, by rw [e3]; exact q3.mok, by rw [e1, e3]; exact q3.bd, by rw [e1, e3]; exact q3.reach⟩
      have key1 : ∀ p ∈ L1, IsK P w h1 p.2 p.1 := fun p hp => by
        rcases List.mem_cons.mp (pm.mem_iff.mp hp) with e | hp
        · rw [e]; exact keep hx
        · exact keep (R.key p hp)
      have led1 : w.params.followText "set-order" = true ∨ t2.led = true := by rw [e4, q5]; exact R.led
      have fill2 : t2.fill = L.length + 1 := by
        unfold SetTable.fill at q9 ⊢
        rw [e1, e2, q9, List.length_map]
      have m2 : t2.mask = t.mask := by rw [e3, q4]
      by_cases hf : t2.tooFull = true
      · have hfull : (L.length + 1) * 5 ≥ t.mask * 3 := by
          have h := hf
          unfold SetTable.tooFull at h
          rw [decide_eq_true_eq, fill2, m2] at h
          exact h
        have c3 : (t.mask = 7 ∧ L.length = 4) ∨ (t.mask = 31 ∧ L.length = 18) ∨ (t.mask = 127 ∧ L.length = 76) := by
          rcases R.tab.mok with e | e | e | e <;> omega
        first
          | (refine wpAny_bind ?_; refine wp_if_pos (by simp [hf]) ?_)
          | (refine wp_if_pos (by simp [hf]) ?_; refine wpAny_bind ?_)
        rw [hlen]
        have go : ∀ M, SetTable.sizeAbove (SetTable.grown (L.length + 1)) = M + 1 → MaskG M → M ≤ 511 → (L.length + 1) * 5 < M * 3 →
            wpAny (model P w) A (setRelay a (SetTable.grown (L.length + 1))) (fun _ s' => wpAny (model P w) A (pure true) Q E s') E { s with heap := h1 } := fun M g1 g2 g3 g4 => by
          refine few_relay (s := { s with heap := h1 }) ho1 ⟨hex.1, hex.2.1, hex.2.2⟩ rfl rows1 tab2 (by rw [ln, m2]; omega) nd1 key1 led1 (by rw [ln]; exact h4) g1 g2 g3 (by rw [ln]; exact g4) fun h2 L2 es2 ep2 t2 sb2 R2 pm2 => ?_
          exact wpAny_pure (hQ true h2 L2 es2 ep2 t2 (sb.trans sb2) R2 (fun z => absurd z hmem) fun _ => pm2.trans pm)
        rcases c3 with ⟨_, e⟩ | ⟨_, e⟩ | ⟨_, e⟩
        · exact go 31 (by rw [e]; exact grow5) (.inr (.inl rfl)) (by omega) (by omega)
        · exact go 127 (by rw [e]; exact grow19) (.inr (.inr (.inl rfl))) (by omega) (by omega)
        · exact go 511 (by rw [e]; exact grow77) (.inr (.inr (.inr rfl))) (by omega) (by omega)
      · first
          | refine wp_if_neg (by simp [hf]) ?_
          | (refine wpAny_bind ?_; refine wp_if_neg (by simp [hf]) ?_; refine wpAny_pure ?_)
        refine wpAny_pure (hQ true h1 L1 es1 (ep + 1) t2 sb ⟨⟨_, ho1, ⟨hex.1, hex.2.1, hex.2.2⟩, rfl⟩, rows1, tab2, nd1, key1, ?_, led1, by rw [ln]; exact h4⟩ (fun z => absurd z hmem) fun _ => pm)
        have h := hf
        unfold SetTable.tooFull at h
        rw [decide_eq_true_eq, fill2, m2] at h
        rw [ln, m2]
        omega
    by_cases hpl : t1.plain = true
    · first
        | (refine wpAny_bind ?_; refine wp_if_pos hpl ?_; refine byVal hx fun y => ?_)
        | refine wp_if_pos hpl (wpAny_bind (byVal hx fun y => ?_))
      cases y with
      | true =>
        simp only [if_true]
        exact store t1 rfl rfl rfl rfl
      | false =>
        simp only [Bool.false_eq_true, if_false]
        exact store { t1 with plain := false } rfl rfl rfl rfl
    · first
        | (refine wpAny_bind ?_; refine wp_if_neg hpl ?_; refine wpAny_pure ?_)
        | refine wp_if_neg hpl (wpAny_bind (wpAny_pure ?_))
      simp only [if_true]
      exact store t1 rfl rfl rfl rfl
theorem Few.move {h h' : Heap} (R : Few P w h a L es ep t) (ha : ∀ o, h.get? a = some o → h'.get? a = some o) (hk : ∀ p ∈ L, IsK P w h' p.2 p.1) : Few P w h' a L es ep t := by
  obtain ⟨⟨o, ho, r⟩, r1, r2, r3, _, r5, r6, r7⟩ := R
  exact ⟨⟨o, ha o ho, r⟩, r1, r2, r3, hk, r5, r6, r7⟩
theorem isK_sub {h h' : Heap} {k : List Key} {b : Addr} (x : IsK P w h k b) (hk : ∀ c o, h.get? c = some o → h'.get? c = some o) : IsK P w h' k b := isK_keep x fun c o e _ => hk c o e
theorem few_fresh {h : Heap} (ho : h.get? a = some { cls := .type "set", dict := none, data := .set #[] 0 (.fresh 0 0 (!w.params.followText "set-order")) }) : Few P w h a [] #[] 0 (.fresh 0 0 (!w.params.followText "set-order")) :=
  ⟨⟨_, ho, ⟨rfl, rfl, rfl⟩, rfl⟩, rfl, ⟨List.Pairwise.nil, rfl, rfl, .inl rfl, fun x hx => (by cases hx), fun i h j hi => (by simp at hi)⟩, List.nodup_nil, fun p hp => (by cases hp), (show 0 * 5 < 7 * 3 by decide), by
    show _ ∨ (!w.params.followText "set-order") = true
    cases w.params.followText "set-order"
    · exact .inr rfl
    · exact .inl rfl, by decide⟩
/-- what the first i of some tuples leave in the set -/
structure Sofar (ks : List (Addr × List Key)) (i : Nat) (L : List (Addr × List Key)) : Prop where
  sub : ∀ p ∈ L, p ∈ ks
  has : ∀ p ∈ ks.take i, p.2 ∈ L.map (·.2)
  len : L.length ≤ i
theorem Sofar.next {ks L L' : List (Addr × List Key)} {i : Nat} {p : Addr × List Key} (h : Sofar ks i L) (hp : ks[i]? = some p) (same : p.2 ∈ L.map (·.2) → L' = L) (more : p.2 ∉ L.map (·.2) → L'.Perm (p :: L)) : Sofar ks (i + 1) L' := by
  have hm := List.mem_of_getElem? hp
  by_cases c : p.2 ∈ L.map (·.2)
  · rw [same c]
    refine ⟨h.sub, fun q hq => ?_, Nat.le_succ_of_le h.len⟩
    rw [List.take_succ, hp] at hq
    rcases List.mem_append.mp hq with z | z
    · exact h.has q z
    · rw [show q = p from by simpa using z]; exact c
  · have pm := more c
    refine ⟨fun q hq => ?_, fun q hq => ?_, by rw [pm.length_eq, List.length_cons]; exact Nat.succ_le_succ h.len⟩
    · rcases List.mem_cons.mp (pm.mem_iff.mp hq) with e | z
      · rw [e]; exact hm
      · exact h.sub q z
    · refine (pm.map (·.2)).mem_iff.mpr ?_
      rw [List.map_cons, List.mem_cons]
      rw [List.take_succ, hp] at hq
      rcases List.mem_append.mp hq with z | z
      · exact .inr (h.has q z)
      · exact .inl (by rw [show q = p from by simpa using z])
theorem few_update {I : Addr} {fp wr : List Addr} {G : Array GenState → Array GenState → Prop} {n : Nat} {Pv : Nat → Value → Prop} {St : Nat → Shared → Prop} {R : Result → Shared → Prop}
    (W : WalksS P w A.in1 I fp wr G n Pv St) (S : Addr) (hSf : S ∉ fp) (ks : List (Addr × List Key)) (hn : n = ks.length) (h4 : ks.length ≤ 300) (hval : ∀ i v, Pv i v → ∃ p, ks[i]? = some p ∧ v = .ref p.1)
    (h0 : Heap) (hk0 : ∀ p ∈ ks, IsK P w h0 p.2 p.1) (hS0 : h0.get? S = none) (hw0 : ∀ b ∈ wr, h0.get? b = none) (hu : A.in1.units < cLine) :
    ∀ (k i : Nat) (s : Shared), n - i = k → i ≤ n → St i s → (∀ b o, h0.get? b = some o → s.heap.get? b = some o) → (∃ L es ep t, Few P w s.heap S L es ep t ∧ Sofar ks i L) →
      (∀ s' L es ep t, Moved (S :: wr) G s s' → Few P w s'.heap S L es ep t → Sofar ks n L → (∀ b o, h0.get? b = some o → s'.heap.get? b = some o) → R (.ok (.ret .none)) s') →
      codeAny (model P w) A (.builtin "set.update.loop" ⟨[.ref S, .ref I], []⟩) R s := by
  have hSw : S ∉ wr := fun h => hSf (W.sub _ h)
  have hsub : ∀ b ∈ wr, b ∈ S :: wr := fun b hb => List.mem_cons_of_mem _ hb
  have outW : ∀ {b : Addr} {o : Obj}, h0.get? b = some o → b ∉ wr := fun e hb => by rw [hw0 _ hb] at e; cases e
  have outS : ∀ {b : Addr} {o : Obj}, h0.get? b = some o → b ≠ S := fun e hb => by rw [hb, hS0] at e; cases e
  intro k
  induction k with
  | zero =>
    intro i s hk' hi hst sub ⟨L, es, ep, t, F4, got⟩ hR
    obtain rfl : i = n := by omega
    refine codeAny_builtin F.entry_set_update_loop ?_
    rw [Around.under_plainId F.plain_set_update_loop _]
    show wpAny _ A.in1 (pyNext (.ref I) >>= _) _ _ s
    refine wpAny_bind (W.done s _ _ hst fun s' hm => ?_)
    show wpAny _ A.in1 (ret Value.none) _ _ s'
    have sub' : ∀ b o, h0.get? b = some o → s'.heap.get? b = some o := fun b o e => hm.heap b o (outW e) (sub b o e)
    exact wpAny_pure (hR s' L es ep t (hm.mono hsub) (F4.move (fun o e => hm.heap S o hSw e) fun p hp => isK_sub (hk0 p (got.sub p hp)) sub') got sub')
  | succ k ih =>
    intro i s hk' hi hst sub ⟨L, es, ep, t, F4, got⟩ hR
    have hlt : i < n := by omega
    refine codeAny_builtin F.entry_set_update_loop ?_
    rw [Around.under_plainId F.plain_set_update_loop _]
    show wpAny _ A.in1 (pyNext (.ref I) >>= _) _ _ s
    refine wpAny_bind (W.item i s _ _ hlt hst fun v s' hP hst' hm => ?_)
    obtain ⟨p, hp, rfl⟩ := hval i v hP
    have sub' : ∀ b o, h0.get? b = some o → s'.heap.get? b = some o := fun b o e => hm.heap b o (outW e) (sub b o e)
    have F4' : Few P w s'.heap S L es ep t := F4.move (fun o e => hm.heap S o hSw e) fun p hp => isK_sub (hk0 p (got.sub p hp)) sub'
    have hx : IsK P w s'.heap p.2 p.1 := isK_sub (hk0 p (List.mem_of_getElem? hp)) sub'
    have hl := got.len
    show wpAny _ A.in1 (holding [Value.ref p.1] (PySem.setAdd S (.ref p.1)) >>= _) _ _ s'
    refine wpAny_bind (wpAny_holding ?_)
    unfold PySem.setAdd
    refine wpAny_holding ?_
    refine wpAny_bind (wpAny_pyHash_tuple hu hx ?_)
    refine few_add (s := { s' with toks := s'.toks + (p.2.length + 1) }) F4' hx hu (by omega) fun b h' L' es' ep' t' hsb F5 same more => ?_
    have sub2 : ∀ b o, h0.get? b = some o → h'.get? b = some o := fun b o e => by
      rw [hsb.2 b (outS e)]
      exact sub' b o e
    refine wpAny_pure ⟨plainId_quiet F.plain_set_update_loop _, ih (i + 1) _ (by omega) hlt (W.frame _ s' _ _ hst' (by show s'.toks ≤ s'.toks + _; omega) fun b hb o e => ?_) sub2 ⟨L', es', ep', t', F5, got.next hp same more⟩ fun s'' L2 es2 ep2 t2 hm'' F6 g6 sub3 => ?_⟩
    · show h'.get? b = some o
      rw [hsb.2 b (fun h : b = S => hSf (by rw [← h]; exact hb))]; exact e
    · refine hR s'' L2 es2 ep2 t2 (Moved.trans W.gtrans ((hm.mono hsub).then_heap (by show s'.toks ≤ s'.toks + _; omega) fun b o hb e => ?_) hm'') F6 g6 sub3
      show h'.get? b = some o
      rw [hsb.2 b (fun h : b = S => hb (by rw [h]; exact List.mem_cons_self))]; exact e
end
end L2

/-! ### sorted(set(l)) of at most 300 tuples -/
namespace L2
open PySem PySem.Spec PyProof.Rows
def keyP : Key → PyData
  | .inl i => .int i
  | .inr x => .str x
def encK (p : Addr × List Key) : PyData := .tuple (p.2.map keyP)
section
variable {P : Program} {w : World} {A : Around} {E : Value → Shared → Prop} {s : Shared}
theorem reads_keys {h : Heap} {k : List Key} {vs : List Value} (x : ItemsAre (mixKind P w) k vs) : ReadsAll h vs (k.map keyP) [] := by
  induction x with
  | nil => exact .nil
  | cons h1 _ ih =>
    rcases keyIs_shape h1 with ⟨i, t, e1, e2⟩ | ⟨x, t, e1, e2⟩
    · rw [e1, e2]; exact .cons (as := []) (.int i t) ih
    · rw [e1, e2]; exact .cons (as := []) (.str x t) ih
theorem reads_key {h : Heap} {k : List Key} {b : Addr} (x : IsK P w h k b) : Reads h (.ref b) (.tuple (k.map keyP)) [] := by
  obtain ⟨o, its, n, ho, hc, hd, hi⟩ := x
  exact .tuple ho hc hd (reads_keys hi)
theorem each_self {ks : List (Addr × List Key)} {R : Value → (Addr × List Key) → Prop} (h : ∀ p ∈ ks, R (.ref p.1) p) : PySem.W.EachIs R (ks.map fun p => Value.ref p.1) ks := by
  induction ks with
  | nil => exact .nil
  | cons p r ih => exact .cons (h p List.mem_cons_self) (ih fun q hq => h q (List.mem_cons_of_mem _ hq))
theorem each_refs : ∀ {us : List Value} {ks : List (Addr × List Key)}, PySem.W.EachIs (fun v (p : Addr × List Key) => v = Value.ref p.1) us ks → us = ks.map fun p => Value.ref p.1
  | _, _, .nil => rfl
  | _, _, .cons h t => by rw [h, each_refs t]; rfl
variable {a : Addr} {L : List (Addr × List Key)} {es : Array (Int × Value)} {ep : Nat} {t : SetTable}
theorem perm_map_inv {α β : Type} {f : α → β} {us vs : List β} (h : us.Perm vs) : ∀ L : List α, vs = L.map f → ∃ bs : List α, bs.Perm L ∧ us = bs.map f := by
  induction h with
  | nil =>
    intro L e
    cases L with
    | nil => exact ⟨[], .nil, rfl⟩
    | cons _ _ => cases e
  | cons x _ ih =>
    intro L e
    cases L with
    | nil => cases e
    | cons y L =>
      obtain ⟨e1, e2⟩ := List.cons.inj e
      obtain ⟨bs, p, e3⟩ := ih L e2
      exact ⟨y :: bs, p.cons y, by rw [e1, e3]; rfl⟩
  | swap x y l =>
    intro L e
    match L, e with
    | a :: b :: L, e =>
      obtain ⟨e1, e2⟩ := List.cons.inj e
      obtain ⟨e3, e4⟩ := List.cons.inj e2
      exact ⟨b :: a :: L, List.Perm.swap _ _ _, by rw [e1, e3, e4]; rfl⟩
    | [a], e => cases e
    | [], e => cases e
  | trans _ _ ih1 ih2 =>
    intro L e
    obtain ⟨bs, p, e1⟩ := ih2 L e
    obtain ⟨cs, q, e2⟩ := ih1 bs e1
    exact ⟨cs, q.trans p, e2⟩
theorem perm_refs {us : List Value} {L : List (Addr × List Key)} (h : us.Perm (L.map fun p => Value.ref p.1)) : ∃ bs : List (Addr × List Key), bs.Perm L ∧ us = bs.map fun p => Value.ref p.1 := perm_map_inv h L rfl
theorem depth_keys : ∀ k : List Key, PyData.depthAll (k.map keyP) ≤ 1
  | [] => by decide
  | x :: r => by
    have h := depth_keys r
    cases x <;> simp only [List.map_cons, keyP, PyData.depthAll, PyData.depth] <;> omega
theorem depth_enc (p : Addr × List Key) : (encK p).depth ≤ 2 := by
  have h := depth_keys p.2
  unfold encK
  simp only [PyData.depth]
  omega
theorem sorted_setK {Q : Value → Shared → Prop} (R : Few P w s.heap a L es ep t) (hh : A.handled = none) (hu : A.units + 64 < cLine) (hal : PySem.W.AllAlike (L.map encK)) (hne : ∀ p ∈ L, p.2 ≠ [])
    (hQ : ∀ s' p (out : Array Value) (c : Nat) (bs : List (Addr × List Key)), (∀ b o, s.heap.get? b = some o → s'.heap.get? b = some o) → s'.gens = s.gens → s'.os = s.os → s.heap.objs.size ≤ p →
      s'.heap.get? p = some (seqObj "list" out c) → bs.Perm L → out.toList = (bs.mergeSort (PySem.W.dataLe false encK)).map (fun q => Value.ref q.1) → Q (.ref p) s') :
    wpAny (model P w) A (call (.builtin "sorted") [.ref a]) Q E s := by
  obtain ⟨o, ho, hex, hd⟩ := R.obj
  have hsz := R.len
  have h4 := R.few
  refine Calls.call_function_entry kind_sorted plain_sorted entry_sorted (args_sorted1 _) ?_
  unfold Builtin.«sorted»
  refine wpAny_bind (m := checkCount "sorted" 1 1 _) (wpAny_pure ?_)
  refine wpAny_bind (collect_set (A := A.in1) hh ⟨o, ho, hex.1, hd⟩ R.fit (by unfold scanBound; omega) R.tab.ris R.led fun s1 vs k1 hz g1 o1 pm => ?_)
  have pm2 : vs.Perm (L.map fun p => Value.ref p.1) := by
    refine pm.trans (List.Perm.of_eq ?_)
    rw [R.row, List.map_map]
    rfl
  obtain ⟨bs, pb, rfl⟩ := perm_refs pm2
  have bl : bs.length ≤ 300 := by rw [pb.length_eq]; exact h4
  refine wpAny_bind (wpAny_newList ?_ (by rw [List.length_map, sizeLine_eq]; omega))
  have hoL : (s1.heap.push (seqObj "list" (bs.map fun p => Value.ref p.1).toArray 0)).get? s1.heap.objs.size = some (seqObj "list" (bs.map fun p => Value.ref p.1).toArray 0) := Heap.get?_push_size _ rfl
  have rd : ∀ p ∈ bs, Reads (s1.heap.push (seqObj "list" (bs.map fun p => Value.ref p.1).toArray 0)) (.ref p.1) (encK p) [] := fun p hp => reads_key (isK_sub (R.key p (pb.mem_iff.mp hp)) fun c o e => Heap.get?_push_of_some _ (k1 c o e))
  refine wpAny_bind (wpAny_holding (PySem.W.list_sort_data (R := fun v (p : Addr × List Key) => v = Value.ref p.1) (enc := encK) (bs := bs) hoL (each_self fun p _ => rfl) (each_self fun p hp => ⟨[], rd p hp, by simp⟩) ?_ ?_ (by rw [sizeLine_eq]; omega) ?_ fun out ol eo => ?_))
  · exact fun d hd d' hd' => hal d ((pb.map encK).mem_iff.mp hd) d' ((pb.map encK).mem_iff.mp hd')
  · refine .inl fun d hd => ?_
    obtain ⟨p, hp, rfl⟩ := List.mem_map.mp hd
    have hn := hne p (pb.mem_iff.mp hp)
    obtain ⟨n, k⟩ := p
    cases k with
    | nil => exact absurd rfl hn
    | cons x r => exact ⟨_, _, rfl⟩
  · intro p hp
    have := depth_enc p
    simp
    omega
  · obtain ⟨c, hc⟩ := sortedHeap_at (vs := bs.map fun p => Value.ref p.1) (out := out.toArray) hoL
    refine wpAny_pure ⟨_, rfl, hQ _ s1.heap.objs.size out.toArray c bs (fun b u e => ?_) g1 o1 hz hc pb (each_refs eo)⟩
    have q := k1 b u e
    have hlt := Heap.lt_size q
    show (sortedHeap (s1.heap.push (seqObj "list" (bs.map fun p => Value.ref p.1).toArray 0)) s1.heap.objs.size (bs.map fun p => Value.ref p.1) _).get? b = some u
    rw [sortedHeap_old (Nat.ne_of_lt hlt) (by rw [size_push']; exact Nat.lt_succ_of_lt hlt)]
    exact Heap.get?_push_of_some _ q
end
/-- sorted(set(l)) of at most 300 tuples -/
def tSortSetK (K : PySem.W.Frag) (ta : TE) : TE := fun σ H Q => ta σ H fun x H1 => ∃ (l : Addr) (ks : List (Addr × List Key)), x = .ref l ∧ SqL K H1 l (ks.map fun p => V.ref p.1) ∧ (∀ p ∈ ks, SqT K H1 p.1 (p.2.map kV)) ∧ ks.length ≤ 300 ∧ PySem.W.AllAlike (ks.map encK) ∧ (∀ p ∈ ks, p.2 ≠ []) ∧
  ∀ (bs : List (Addr × List Key)) (p : Addr), (∀ q ∈ bs, q ∈ ks) → (∀ q ∈ ks, q.2 ∈ bs.map (·.2)) → (bs.map (·.2)).Nodup → H1 p = none → Q (.ref p) (upd H1 p (.lst ((bs.mergeSort (PySem.W.dataLe false encK)).map fun q => V.ref q.1)))
theorem keys_items {P : Program} {w : World} : ∀ {k : List Key} {us : List Value}, Vals (k.map kV) us → ItemsAre (mixKind P w) k us
  | [], _, .nil => .nil
  | _ :: _, _, .cons r t => .cons (kV_is r) (keys_items t)
theorem refs_keys : ∀ {ks : List (Addr × List Key)} {us : List Value}, Vals (ks.map fun p => V.ref p.1) us → us = ks.map fun p => Value.ref p.1
  | [], _, .nil => rfl
  | p :: ks, _, .cons r t => by
    cases r
    rw [refs_keys t]
    rfl
theorem keys_refs : ∀ (ks : List (Addr × List Key)), Vals (ks.map fun p => V.ref p.1) (ks.map fun p => Value.ref p.1)
  | [] => .nil
  | p :: ks => .cons rfl (keys_refs ks)
theorem isK_inv {X : Cx} {pins : List (Addr × Obj)} {σ : St} {H : Hp} {s : Shared} {b : Addr} {k : List Key} (I : Inv X pins σ H s) (h : SqT X.K H b (k.map kV)) : IsK X.prog X.w s.heap k b := by
  obtain ⟨its, r, ⟨o, ho, hc, n, hd⟩, _⟩ := I.tuple h
  exact ⟨o, its.toArray, n, ho, hc, hd, keys_items r⟩
end L2

namespace DM
open PySem PySem.Spec L2
/-! ### sorted(set(a list of at most 300 tuples of texts and whole numbers)) -/
def keyTs : List D → Option (List (List Key))
  | [] => some []
  | .tup ds :: r => match keysT ds, keyTs r with
    | some k, some t => some (k :: t)
    | _, _ => none
  | _ => none
def memK (x : List Key) (r : List (List Key)) : Bool := r.any fun y => decide (y = x)
theorem memK_iff {x : List Key} {r : List (List Key)} : memK x r = true ↔ x ∈ r := by
  unfold memK
  rw [List.any_eq_true]
  exact ⟨fun ⟨y, hy, e⟩ => of_decide_eq_true e ▸ hy, fun h => ⟨x, h, decide_eq_true rfl⟩⟩
def dedK : List (List Key) → List (List Key)
  | [] => []
  | x :: r => if memK x r = true then dedK r else x :: dedK r
theorem dedK_mem {k : List Key} : ∀ {xs : List (List Key)}, k ∈ dedK xs ↔ k ∈ xs
  | [] => Iff.rfl
  | x :: r => by
    unfold dedK
    split
    · rename_i h
      rw [dedK_mem, List.mem_cons]
      exact ⟨.inr, fun z => z.elim (fun e => e ▸ memK_iff.mp h) id⟩
    · rw [List.mem_cons, List.mem_cons, dedK_mem]
theorem dedK_nd : ∀ xs : List (List Key), (dedK xs).Nodup
  | [] => List.nodup_nil
  | x :: r => by
    unfold dedK
    split
    · exact dedK_nd r
    · rename_i h
      exact List.nodup_cons.mpr ⟨fun z => h (memK_iff.mpr (dedK_mem.mp z)), dedK_nd r⟩
theorem keysT_inv : ∀ {ds : List D} {k : List Key}, keysT ds = some k → ds = k.map keyOf
  | [], k, h => by
    cases h
    rfl
  | d :: r, k, h => by
    unfold keysT at h
    match e1 : keyD d, e2 : keysT r, h with
    | some x, some t, h =>
      cases h
      rw [List.map_cons, ← keysT_inv e2]
      refine congrArg (· :: r) ?_
      cases d with
      | int i => cases e1; rfl
      | str x => cases e1; rfl
      | _ => cases e1
theorem keyTs_inv : ∀ {xs : List D} {ks : List (List Key)}, keyTs xs = some ks → xs = ks.map keyT
  | [], ks, h => by
    cases h
    rfl
  | d :: r, ks, h => by
    cases d with
    | tup ds =>
      unfold keyTs at h
      match e1 : keysT ds, e2 : keyTs r, h with
      | some k, some t, h =>
        cases h
        rw [List.map_cons, ← keyTs_inv e2, keysT_inv e1]
        rfl
    | _ => cases h
theorem keyTs_map : ∀ ks : List (List Key), keyTs (ks.map keyT) = some ks
  | [] => rfl
  | k :: r => by
    show (match keysT (k.map keyOf), keyTs (r.map keyT) with
      | some k, some t => some (k :: t)
      | _, _ => none) = _
    rw [keysT_of, keyTs_map r]
theorem pyD_keyOf (x : Key) : pyD (keyOf x) = keyP x := by cases x <;> rfl
theorem pyDs_keys : ∀ k : List Key, pyDs (k.map keyOf) = k.map keyP
  | [] => rfl
  | x :: r => by
    show pyD (keyOf x) :: pyDs (r.map keyOf) = _
    rw [pyD_keyOf, pyDs_keys r]
    rfl
theorem pyD_keyT (k : List Key) : pyD (keyT k) = .tuple (k.map keyP) := by
  show PyData.tuple (pyDs (k.map keyOf)) = _
  rw [pyDs_keys]
def FsetK (d : D) (μ : Store) : Res D := match d with
  | .lst xs => match keyTs xs with
    | some ks => if ks.length ≤ 300 ∧ sortOk xs ∧ (srtD ((dedK ks).map keyT)).Pairwise (fun a b => ltD a b = true) then okR (.lst (srtD ((dedK ks).map keyT))) μ else none
    | none => none
  | _ => none
section
variable {X : Cx} {W : DW}
theorem vrs_split {K : PySem.W.Frag} {ι : List Addr} {H : Hp} : ∀ {vs : List V} {ks : List (List Key)}, VRs K ι H vs (ks.map keyT) → ∃ ps : List (Addr × List Key), vs = ps.map (fun p => V.ref p.1) ∧ ks = ps.map (·.2) ∧ ∀ p ∈ ps, SqT K H p.1 (p.2.map kV) ∧ VR K ι H (V.ref p.1) (keyT p.2)
  | _, [], h => by
    cases h
    exact ⟨[], rfl, rfl, fun p hp => by cases hp⟩
  | _, k :: r, h => by
    cases h with
    | cons a t =>
      obtain ⟨ps, e1, e2, h3⟩ := vrs_split t
      have a' : VR K ι H _ (D.tup (k.map keyOf)) := a
      cases a' with
      | tup hh rr =>
        have ev := keysT_vr rr keysT_of
        subst ev
        exact ⟨(_, k) :: ps, by rw [e1]; rfl, by rw [e2]; rfl, fun p hp => by
          rcases List.mem_cons.mp hp with e | z
          · rw [e]; exact ⟨hh.sq, a⟩
          · exact h3 p z⟩
theorem vrs_of_keys {K : PySem.W.Frag} {ι : List Addr} {H : Hp} : ∀ {ps : List (Addr × List Key)}, (∀ p ∈ ps, VR K ι H (V.ref p.1) (keyT p.2)) → VRs K ι H (ps.map fun p => V.ref p.1) (ps.map fun p => keyT p.2)
  | [], _ => .nil
  | p :: r, h => .cons (h p List.mem_cons_self) (vrs_of_keys fun q hq => h q (List.mem_cons_of_mem _ hq))
end
end DM

/-! ### sorted(set(t)) of a tuple of tuples -/
namespace L2
open PySem PySem.Spec PyProof.Rows
section
variable {P : Program} {w : World} {A : Around} {E : Value → Shared → Prop} {s : Shared} {a : Addr} {L : List (Addr × List Key)} {es : Array (Int × Value)} {ep : Nat} {t : SetTable}
/-- set(l), l a tuple of at most four such tuples -/
theorem call_setKT {l : Addr} {items : Array Value} (ks : List (Addr × List Key)) {Q : Value → Shared → Prop} (hh : A.handled = none) (hu : A.units + 64 < cLine) (hl : s.heap.IsTuple l items) (hit : ∀ (i : Nat) (v : Value), items[i]? = some v → ∃ p, ks[i]? = some p ∧ v = .ref p.1) (hisz : items.size = ks.length) (h4 : ks.length ≤ 300) (hk : ∀ p ∈ ks, IsK P w s.heap p.2 p.1)
    (h : ∀ (h' : Heap) (tk : Nat) L es ep t, Few P w h' s.heap.objs.size L es ep t → Sofar ks ks.length L → (∀ b o, s.heap.get? b = some o → h'.get? b = some o) → Q (.ref s.heap.objs.size) { s with heap := h', toks := tk }) :
    wpAny (model P w) A (call (.type "set") [.ref l]) Q E s := by
  obtain ⟨c, tl, hmro⟩ := F.called_set.mro
  have hmade := F.called_set.made
  have hsub := F.called_set.sub
  refine wpAny_call (codeAny_of_tree ?_)
  show wpAny _ _ (callAny (.type "set") _) _ _ _
  refine wpAny_pure ⟨Code.quiet_builtin _ (by decide +kernel), codeAny_builtin F.entry_type_call ?_⟩
  rw [Around.under_plain (weight_type_call_type "set" [.ref l] []) rfl]
  have h1 := F.called_set.notType
  have h2 := F.called_set.canCreate
  have hct := F.typeCall_set_1 (.ref l)
  repeat (any_goals (first | assumption | wp_step))
  refine codeAny_mono (code_set_led1 (.ref l) (E := E) (Q₁ := fun obj s₁ => obj = .ref s.heap.objs.size ∧ s₁ = { s with heap := s.heap.push { cls := .type "set", dict := none, data := .set #[] 0 (.fresh 0 0 (!w.params.followText "set-order")) } }) ⟨rfl, rfl⟩) fun r s₁ hr => ?_
  cases r with
  | error e => exact hr
  | ok fl =>
    cases fl with
    | ret obj =>
      obtain ⟨rfl, rfl⟩ := hr
      have hS : (s.heap.push { cls := .type "set", dict := none, data := .set #[] 0 (.fresh 0 0 (!w.params.followText "set-order")) }).get? s.heap.objs.size = some { cls := .type "set", dict := none, data := .set #[] 0 (.fresh 0 0 (!w.params.followText "set-order")) } := Heap.get?_push_size _ rfl
      have hT : Shared.TypeIs { s with heap := s.heap.push { cls := .type "set", dict := none, data := .set #[] 0 (.fresh 0 0 (!w.params.followText "set-order")) } } (.ref s.heap.objs.size) "set" := ⟨_, hS, rfl⟩
      have hli := F.called_set.init.lookup
      have hbi := F.called_set.init.bind (.ref s.heap.objs.size)
      repeat (any_goals (first | assumption | wp_step))
      refine codeAny_mono (codeAny_call_builtin (R := wants (fun r s₂ => r = .none ∧ ∃ h' tk L es ep t, s₂ = { s with heap := h', toks := tk } ∧ Few P w h' s.heap.objs.size L es ep t ∧ Sofar ks ks.length L ∧
          (∀ b o, s.heap.get? b = some o → h'.get? b = some o)) E) F.called_set.init.plain F.entry_set_init (check_set_init_1 hT ?_)) fun r₂ s₂ hr₂ => ?_
      · obtain ⟨ol, hol, hcl, nl, hdl⟩ := hl
        obtain ⟨ocls, odict, odata, oslots⟩ := ol
        simp only at hcl hdl
        subst hcl; subst hdl
        have hol' : (s.heap.push { cls := .type "set", dict := none, data := .set #[] 0 (.fresh 0 0 (!w.params.followText "set-order")) }).get? l = some { cls := .type "tuple", dict := odict, data := .seq items nl, slots := oslots } := Heap.get?_push_of_some _ hol
        have hsls := F.sub_tuple_set
        have hslf := F.sub_tuple_frozenset
        have hne : (Value.type "tuple" == Value.type "dict") = false := by decide
        have hl1 : (s.heap.push { cls := .type "set", dict := none, data := .set #[] 0 (.fresh 0 0 (!w.params.followText "set-order")) }).IsTuple l items := ⟨_, hol', rfl, nl, rfl⟩
        unfold Builtin.«set.__init__» noKeywords Builtin.Frozenset.updateFrom
        generalize hPI : pyIter = PI
        wp_walk
        subst hPI
        refine wpAny_pyIter_tuple hl1 ?_
        refine wpAny_bind (wpAny_runValue ?_)
        have hlS : l < s.heap.objs.size := Heap.lt_size hol
        have hh3 : A.in1.in1.in1.handled = none := by simp [hh]
        have hneI : l ≠ (s.heap.push { cls := .type "set", dict := none, data := .set #[] 0 (.fresh 0 0 (!w.params.followText "set-order")) }).objs.size := by
          rw [Heap.size_push]; exact Nat.ne_of_lt (Nat.lt_succ_of_lt hlS)
        have hSf : s.heap.objs.size ∉ [(s.heap.push { cls := .type "set", dict := none, data := .set #[] 0 (.fresh 0 0 (!w.params.followText "set-order")) }).objs.size, l] := by
          rw [Heap.size_push]; simp only [List.mem_cons, List.mem_singleton, List.not_mem_nil, or_false, not_or]
          exact ⟨Nat.ne_of_lt (Nat.lt_succ_self _), Nat.ne_of_gt hlS⟩
        have none_of : ∀ b, s.heap.objs.size ≤ b → s.heap.get? b = none := fun b hb => by
          cases q : s.heap.get? b with
          | none => rfl
          | some o => exact absurd (Nat.lt_of_lt_of_le (Heap.lt_size q) hb) (Nat.lt_irrefl _)
        refine few_update ((Walks.tuple hh3 _ l hneI items).toS) s.heap.objs.size
          hSf ks hisz h4 hit s.heap hk (none_of _ (Nat.le_refl _)) (fun b hb => none_of b (by
            rw [List.mem_singleton.mp hb, Heap.size_push]
            exact Nat.le_succ _)) (by first | omega | (simp; omega) | exact Nat.lt_of_le_of_lt (by simp) hu) (items.size - 0) 0 _ (by omega) (Nat.zero_le _)
          ⟨⟨_, Heap.get?_push_size _ rfl, rfl, rfl⟩, (hl1.push _)⟩ (fun b o e => Heap.get?_push_of_some _ (Heap.get?_push_of_some _ e)) ?hS0 ?hR
        case hS0 => exact ⟨[], #[], 0, _, few_fresh (Heap.get?_push_of_some _ hS), ⟨(fun p hp => by cases hp), (fun p hp => by simp at hp), Nat.le_refl _⟩⟩
        case hR =>
          intro s' L' es' ep' t' hm hF hG sub'
          obtain ⟨h', g2, d', tk', os'⟩ := s'
          have eg : g2 = s.gens := hm.gens
          have ed : d' = s.drawn := hm.drawn
          have eo : os' = s.os := hm.os
          subst eg; subst ed; subst eo
          show wpAny _ _ _ _ _ _
          refine wpAny_pure ?_
          show wpAny _ _ (ret Value.none) _ _ _
          rw [hisz] at hG
          refine wpAny_pure ⟨rfl, h', tk', L', es', ep', t', rfl, hF, hG, fun b o e => ?_⟩
          exact sub' b o e
      · cases r₂ with
        | error e => exact hr₂
        | ok fl₂ =>
          cases fl₂ with
          | ret r =>
            obtain ⟨rfl, h', tk, L', es', ep', t', rfl, hF, hG, hk'⟩ := hr₂
            repeat (any_goals (first | assumption | wp_step))
            exact h _ _ _ _ _ _ hF hG hk'
          | _ => exact hr₂.elim
    | _ => exact hr.elim
end
/-- sorted(set(l)) of at most 300 tuples -/
def tSortSetKT (K : PySem.W.Frag) (ta : TE) : TE := fun σ H Q => ta σ H fun x H1 => ∃ (l : Addr) (ks : List (Addr × List Key)), x = .ref l ∧ SqT K H1 l (ks.map fun p => V.ref p.1) ∧ (∀ p ∈ ks, SqT K H1 p.1 (p.2.map kV)) ∧ ks.length ≤ 300 ∧ PySem.W.AllAlike (ks.map encK) ∧ (∀ p ∈ ks, p.2 ≠ []) ∧
  ∀ (bs : List (Addr × List Key)) (p : Addr), (∀ q ∈ bs, q ∈ ks) → (∀ q ∈ ks, q.2 ∈ bs.map (·.2)) → (bs.map (·.2)).Nodup → H1 p = none → Q (.ref p) (upd H1 p (.lst ((bs.mergeSort (PySem.W.dataLe false encK)).map fun q => V.ref q.1)))
theorem pe_sortSetKT {X : Cx} {a : Expr} {ta : TE} {p p2 q pos : Pos} (hu : X.A.units + 64 < cLine) (hg : Gl X "sorted") (hm : X.mg "sorted" = none) (hg2 : Gl X "set") (hm2 : X.mg "set" = none) (ha : PE X a ta) (hc : X.calm = true := by rfl)
    (na : starEach [a] X.env = (false, eval a X.env) :: starEach [] X.env := by rfl) : PE X (.Call (.Name "sorted" p) [.Call (.Name "set" p2) [a] [] q] [] pos) (tSortSetKT X.K ta) := by
  refine ⟨fun pins s σ H Q I h => ?_⟩
  refine Call_ (ld_blt I hg hm (show bootBuiltins "sorted" = some (.builtin "sorted") by decide +kernel) ?_)
  refine PyProof.Rows.callWith_builtin1 (PyProof.Rows.args_cons ?_ rfl) rfl rfl
  refine Call_ (ld_blt I hg2 hm2 PyProof.Rows.boot_set ?_)
  refine PyProof.Rows.callWith_type1 (PyProof.Rows.args_cons (thn (ha.run pins s σ H _ I h) fun v s1 ⟨x, H1, I1, r1, q1⟩ => PyProof.Rows.args_nil ?_) na) na rfl
  obtain ⟨l, ks, rfl, hq, hks, h4, hal, hne, q1⟩ := q1
  cases r1
  obtain ⟨its, r, pl, hz⟩ := I1.tuple hq
  have eits := refs_keys r
  subst eits
  have hlen : (ks.map fun p => Value.ref p.1).toArray.size = ks.length := by rw [List.size_toArray, List.length_map]
  refine call_setKT ks (I1.ok.hd hc) hu (show s1.heap.IsTuple l (ks.map fun p => Value.ref p.1).toArray from pl) (fun i v e => ?_) hlen h4 (fun p hp => isK_inv I1 (hks p hp)) fun h' tk L es ep t F got k => ?_
  · have e : (ks.map fun p => Value.ref p.1)[i]? = some v := by simpa using e
    rw [List.getElem?_map] at e
    obtain ⟨p, hp, e⟩ := Option.map_eq_some_iff.mp e
    exact ⟨p, hp, e.symm⟩
  refine PyProof.Rows.args_nil ?_
  have halL : PySem.W.AllAlike (L.map encK) := fun d hd d' hd' => by
    obtain ⟨p, hp, rfl⟩ := List.mem_map.mp hd
    obtain ⟨p', hp', rfl⟩ := List.mem_map.mp hd'
    exact hal _ (List.mem_map.mpr ⟨p, got.sub p hp, rfl⟩) _ (List.mem_map.mpr ⟨p', got.sub p' hp', rfl⟩)
  refine sorted_setK (s := { s1 with heap := h', toks := tk }) F (I1.ok.hd hc) hu halL (fun p hp => hne p (got.sub p hp)) fun s' p0 out c' bs k2 g o hp hi pb eo => ?_
  have hp1 : s1.heap.objs.size ≤ p0 := Nat.le_trans (Nat.le_of_lt (by
    obtain ⟨o, ho, _⟩ := F.obj
    exact Heap.lt_size ho)) hp
  have hn : H1 p0 = none := I1.hok.fresh hp1
  have kall : ∀ b u, s1.heap.get? b = some u → s'.heap.get? b = some u := fun b u e => k2 b u (k b u e)
  have h4L := F.few
  have hlen : ((bs.mergeSort (PySem.W.dataLe false encK)).map fun q => V.ref q.1).length ≤ sizeLine := by
    rw [List.length_map, List.length_mergeSort, pb.length_eq, sizeLine_eq]; omega
  have J : Inv X pins σ (upd H1 p0 (.lst ((bs.mergeSort (PySem.W.dataLe false encK)).map fun q => V.ref q.1))) s' := I1.call' (ch := []) o (Un.laid kall hp1 hn) (I1.hok.laid kall hp1 ⟨hlen, out.toList, c', by rw [eo]; exact keys_refs _, hi⟩) (by rw [g]; exact I1.bare) (fun _ z => nomatch z)
  refine ⟨.ref p0, _, J, rfl, q1 bs p0 (fun q hq => got.sub q (pb.mem_iff.mp hq)) (fun q hq => (pb.map (·.2)).mem_iff.mpr (got.has q (by rw [List.take_length]; exact hq))) ((pb.map (·.2)).nodup_iff.mpr F.nod) hn⟩
end L2
namespace DM
open PySem PySem.Spec L2
def FsetKT (d : D) (μ : Store) : Res D := match d with
  | .tup xs => match keyTs xs with
    | some ks => if ks.length ≤ 300 ∧ sortOk xs ∧ (srtD ((dedK ks).map keyT)).Pairwise (fun a b => ltD a b = true) then okR (.lst (srtD ((dedK ks).map keyT))) μ else none
    | none => none
  | _ => none
section
variable {X : Cx} {W : DW}
theorem d_setKT {a : Expr} {A : CM D} {p p2 q pos : Pos} (hu : X.A.units + 64 < cLine) (hg : Gl X "sorted") (hm : X.mg "sorted" = none) (hg2 : Gl X "set") (hm2 : X.mg "set" = none) (ha : PE X a (tE X.K W A)) (hc : X.calm = true := by rfl)
    (na : starEach [a] X.env = (false, eval a X.env) :: starEach [] X.env := by rfl) : PE X (.Call (.Name "sorted" p) [.Call (.Name "set" p2) [a] [] q] [] pos) (tE X.K W (e1 FsetKT A)) :=
  (pe_sortSetKT hu hg hm hg2 hm2 ha hc na).imp fun σ H Q ⟨ρ, ι, μ, sr, wf, h⟩ => by
    refine tG.mono (PostG.bind sr wf h) ?_
    rintro v H1 ⟨ι1, μ1, d, l1, w1, vx, h1⟩
    cases d with
    | tup xs =>
      unfold FsetKT at h1
      simp only at h1
      split at h1
      · rename_i ks eks
        obtain ⟨⟨c1, c2, c3⟩, h2⟩ := PostG.guard h1
        have e := keyTs_inv eks
        subst e
        cases vx with
        | tup hh r =>
          obtain ⟨ps, rfl, rfl, hps⟩ := vrs_split r
          rw [List.length_map] at c1
          have hpy : ∀ p : Addr × List Key, encK p = pyD (keyT p.2) := fun p => (pyD_keyT p.2).symm
          refine ⟨_, ps, rfl, hh.sq, fun p hp => (hps p hp).1, c1, fun d hd d' hd' => ?_, fun p hp => ?_, fun bs p hsub hall hnd hp => ?_⟩
          · obtain ⟨a, ha, rfl⟩ := List.mem_map.mp hd
            obtain ⟨b, hb, rfl⟩ := List.mem_map.mp hd'
            rw [hpy, hpy]
            exact c2.2.2 _ (List.mem_map.mpr ⟨a.2, List.mem_map.mpr ⟨a, ha, rfl⟩, rfl⟩) _ (List.mem_map.mpr ⟨b.2, List.mem_map.mpr ⟨b, hb, rfl⟩, rfl⟩)
          · have := (c2.2.1 (keyT p.2) (List.mem_map.mpr ⟨p.2, List.mem_map.mpr ⟨p, hp, rfl⟩, rfl⟩)).2
            intro e0
            rw [e0] at this
            cases this
          · have em : (bs.mergeSort (PySem.W.dataLe false encK)).map (fun q => keyT q.2) = srtD (bs.map fun q => keyT q.2) := by
              unfold srtD
              refine List.map_mergeSort fun a _ b _ => ?_
              show PySem.W.dataLe false encK a b = leD (keyT a.2) (keyT b.2)
              unfold leD
              rw [← hpy, ← hpy]
              rfl
            have pm : ((dedK (ps.map (·.2))).map keyT).Perm (bs.map fun q => keyT q.2) := by
              rw [show (bs.map fun q => keyT q.2) = (bs.map (·.2)).map keyT from by rw [List.map_map]; rfl]
              refine List.Perm.map _ ((List.perm_ext_iff_of_nodup (dedK_nd _) hnd).mpr fun k => ?_)
              rw [dedK_mem]
              constructor
              · intro hk
                obtain ⟨q, hq, rfl⟩ := List.mem_map.mp hk
                exact hall q hq
              · intro hk
                obtain ⟨q, hq, rfl⟩ := List.mem_map.mp hk
                exact List.mem_map.mpr ⟨q, hsub q hq, rfl⟩
            have es : srtD (bs.map fun q => keyT q.2) = srtD ((dedK (ps.map (·.2))).map keyT) := srt_uniq ((srt_perm _).trans pm) c3
            have hv : VRs X.K ι1 H1 ((bs.mergeSort (PySem.W.dataLe false encK)).map fun q => V.ref q.1) (srtD ((dedK (ps.map (·.2))).map keyT)) := by
              rw [← es, ← em]
              exact vrs_of_keys fun q hq => (hps q (hsub q ((List.mergeSort_perm bs _).mem_iff.mp hq))).2
            exact h2.ok (Le.laid hp) (w1.laid hp) (.lst ⟨upd_same, w1.out hp⟩ (hv.mono (Le.laid hp)))
      · exact h1.elim
    | _ => exact h1.elim
end
theorem f_setKT {ks : List (List Key)} {μ : Store} (h1 : ks.length ≤ 300) (h2 : sortOk (ks.map keyT)) (h3 : (srtD ((dedK ks).map keyT)).Pairwise fun a b => ltD a b = true) : FsetKT (.tup (ks.map keyT)) μ = okR (.lst (srtD ((dedK ks).map keyT))) μ := by
  show (match keyTs (ks.map keyT) with
    | some ks' => if ks'.length ≤ 300 ∧ sortOk (ks.map keyT) ∧ (srtD ((dedK ks').map keyT)).Pairwise (fun a b => ltD a b = true) then okR (D.lst (srtD ((dedK ks').map keyT))) μ else none
    | none => none) = _
  rw [keyTs_map]
  exact if_pos ⟨h1, h2, h3⟩
end DM

namespace DM
open PySem PySem.Spec L2 PyProof.Rows
/-! ### f"a{e}b" of a text -/
def eJ3 (a : Str) (E : CM D) (b : Str) : CM D := E.bind fun d _ μ => match d with
  | .str y => if (a ++ y ++ b).length ≤ sizeLine then okR (.str (a ++ y ++ b)) μ else none
  | _ => none
section
variable {X : Cx} {W : DW} {E : CM D} {e : Expr} {p1 p2 p3 pos : Pos} {j1 j2 : Nat}
end
/-! ### list(text), a cell -/
def FlistS (ds : List D) (μ : Store) : Res D := match ds with
  | [.str x] => if x.cps.size ≤ sizeLine then okR (.ref μ.length) (μ ++ [.lst (signsD x)]) else none
  | _ => none
def signsV (x : Str) : List V := x.cps.toList.map fun c => V.str ⟨#[c]⟩
def rListS : List V → Hp → VK → Prop := fun xs H Q => ∃ x, xs = [.str x] ∧ x.cps.size ≤ sizeLine ∧ ∀ p, H p = none → Q (.ref p) (upd H p (.lst (signsV x)))
/-! ### repr((data, dict)) -/
def tupP : PyData → Bool
  | .none => true
  | .bool _ => true
  | .int _ => true
  | .str _ => true
  | .tuple xs => tupPs xs
  | _ => false
where tupPs : List PyData → Bool
  | [] => true
  | x :: r => tupP x && tupPs r
mutual
theorem reads_nil {h : Heap} : ∀ {u : Value} {p : PyData} {as : List Addr}, Reads h u p as → tupP p = true → as = []
  | _, _, _, .none, _ => rfl
  | _, _, _, .bool _, _ => rfl
  | _, _, _, .int _ _, _ => rfl
  | _, _, _, .str _ _, _ => rfl
  | _, _, _, .list _ _ _ _, e => by simp [tupP] at e
  | _, _, _, .tuple _ _ _ r, e => readsAll_nil r (by simpa [tupP] using e)
  | _, _, _, .dict _ _ _ _ _, e => by simp [tupP] at e
theorem readsAll_nil {h : Heap} : ∀ {us : List Value} {ps : List PyData} {as : List Addr}, ReadsAll h us ps as → tupP.tupPs ps = true → as = []
  | _, _, _, .nil, _ => rfl
  | _, _, _, .cons r rs, e => by
    simp only [tupP.tupPs, Bool.and_eq_true] at e
    rw [reads_nil r e.1, readsAll_nil rs e.2]
    rfl
end
def encK : Key → PyData
  | .inl i => .int i
  | .inr x => .str x
def kvPy : List (Key × D) → Option (List (PyData × PyData))
  | [] => some []
  | (k, d) :: r => match toPy d, kvPy r with
    | some p, some l => if tupP p = true then some ((encK k, p) :: l) else none
    | _, _ => none
def FreprTD (ds : List D) (μ : Store) : Res D := match ds with
  | [.tup [d, .ref c]] => match μ[c]? with
    | some (.dct kvs) => match toPyS μ d, kvPy kvs with
      | some p, some l => if (tupP p = true ∧ ((PyData.tuple [p, .dict l]).showable = true ∧ (PyData.tuple [p, .dict l]).depth ≤ 64)) ∧ (PyData.tuple [p, .dict l]).shown.length ≤ sizeLine then okR (.str (PyData.tuple [p, .dict l]).shown) μ else none
      | _, _ => none
    | _ => none
  | _ => none
inductive KvP (K : PySem.W.Frag) (H : Hp) : List (Key × V) → List (PyData × PyData) → Prop
  | nil : KvP K H [] []
  | cons {k : Key} {v : V} {p : PyData} {qs : List (Key × V)} {l : List (PyData × PyData)} (h : Dp K H v p) (t : tupP p = true) (r : KvP K H qs l) : KvP K H ((k, v) :: qs) ((encK k, p) :: l)
def rReprTD (K : PySem.W.Frag) : List V → Hp → VK → Prop := fun xs H Q => ∃ (a c : Addr) (v1 : V) (p : PyData) (qs : List (Key × V)) (l : List (PyData × PyData)), xs = [.ref a] ∧ SqT K H a [v1, .ref c] ∧ Dp K H v1 p ∧ tupP p = true ∧ H c = some (.dK qs) ∧ KvP K H qs l ∧
  (PyData.tuple [p, .dict l]).showable = true ∧ (PyData.tuple [p, .dict l]).depth ≤ 64 ∧ (PyData.tuple [p, .dict l]).shown.length ≤ sizeLine ∧ Q (.str (PyData.tuple [p, .dict l]).shown) H
section
variable {X : Cx} {K : PySem.W.Frag}
end
end DM

namespace DM
open PySem PySem.Spec L2 PyProof.Rows
/-! ### repr of data at any depth, with lists and dicts that are cells -/
mutual
inductive DpX (K : PySem.W.Frag) (H : Hp) : V → PyData → Prop
  | non : DpX K H .non .none
  | bl (b : Bool) : DpX K H (.bl b) (.bool b)
  | int (i : Int) : DpX K H (.int i) (.int i)
  | str (x : Str) : DpX K H (.str x) (.str x)
  | lst {a : Addr} {xs : List V} {ds : List PyData} : SqL K H a xs → DpXs K H xs ds → DpX K H (.ref a) (.list ds)
  | tup {a : Addr} {xs : List V} {ds : List PyData} : SqT K H a xs → DpXs K H xs ds → DpX K H (.ref a) (.tuple ds)
  | dct {a : Addr} {qs : List (Key × V)} {l : List (PyData × PyData)} : H a = some (.dK qs) → DpXk K H qs l → DpX K H (.ref a) (.dict l)
inductive DpXs (K : PySem.W.Frag) (H : Hp) : List V → List PyData → Prop
  | nil : DpXs K H [] []
  | cons {v : V} {vs : List V} {d : PyData} {ds : List PyData} : DpX K H v d → DpXs K H vs ds → DpXs K H (v :: vs) (d :: ds)
inductive DpXk (K : PySem.W.Frag) (H : Hp) : List (Key × V) → List (PyData × PyData) → Prop
  | nil : DpXk K H [] []
  | cons {k : Key} {v : V} {p : PyData} {qs : List (Key × V)} {l : List (PyData × PyData)} : DpX K H v p → DpXk K H qs l → DpXk K H ((k, v) :: qs) ((encK k, p) :: l)
end
/-- the module table's object is no list -/
def smB (K : PySem.W.Frag) : Bool := match K.lookup sysModules with
  | some o => match o.cls with
    | .type c => c == "dict"
    | _ => false
  | none => false
section
variable {X : Cx} {K : PySem.W.Frag}
theorem sm_ne {pins : List (Addr × Obj)} {σ : L2.St} {H : Hp} {s : Shared} (I : Inv X pins σ H s) (hs : smB X.K = true) {a : Addr} {o : Obj} (ho : s.heap.get? a = some o) (hc : o.cls = .type "list") : a ≠ sysModules := by
  intro e
  subst e
  unfold smB at hs
  split at hs
  · rename_i o' e'
    have h1 := I.kIn _ _ e'
    rw [ho] at h1
    cases h1
    rw [hc] at hs
    simp at hs
  · cases hs
mutual
theorem DpX.reads {pins : List (Addr × Obj)} {σ : L2.St} {H : Hp} {s : Shared} (I : Inv X pins σ H s) (hs : smB X.K = true) : ∀ {v : V} {p : PyData} {u : Value}, DpX X.K H v p → RelV v u → ∃ as, Reads s.heap u p as ∧ ∀ x ∈ as, x ≠ sysModules
  | _, _, _, .non, r => by cases r; exact ⟨_, Reads.none, by simp⟩
  | _, _, _, .bl b, r => by cases r; exact ⟨_, Reads.bool b, by simp⟩
  | _, _, _, .int i, r => by obtain ⟨t, rfl⟩ := r; exact ⟨_, Reads.int i t, by simp⟩
  | _, _, _, .str x, r => by obtain ⟨t, rfl⟩ := r; exact ⟨_, Reads.str x t, by simp⟩
  | _, _, _, .lst hq ha, r => by
    cases r
    obtain ⟨its, rv, ⟨o, n, ho, hcl, _, hd⟩, _⟩ := I.list hq
    obtain ⟨as, ra, hne⟩ := DpXs.reads I hs ha rv
    refine ⟨_, Reads.list ho hcl hd (by simpa using ra), fun x hx => ?_⟩
    rcases List.mem_cons.mp hx with rfl | hx
    · exact sm_ne I hs ho hcl
    · exact hne x hx
  | _, _, _, .tup hq ha, r => by
    cases r
    obtain ⟨its, rv, ⟨o, ho, hcl, n, hd⟩, _⟩ := I.tuple hq
    obtain ⟨as, ra, hne⟩ := DpXs.reads I hs ha rv
    exact ⟨_, Reads.tuple ho hcl hd (by simpa using ra), hne⟩
  | _, _, _, .dct hc hkv, r => by
    cases r
    obtain ⟨_, y, vs, kv, dd⟩ := dk_of I.hok hc
    obtain ⟨bs, rp, hne⟩ := DpXk.reads I hs hkv kv
    refine ⟨_, PyProof.V.reads_dictOf (fun k key hk => by
      rcases keyIs_shape hk with ⟨i, t, rfl, rfl⟩ | ⟨x, t, rfl, rfl⟩
      · exact Reads.int i t
      · exact Reads.str x t) dd rp, fun x hx => ?_⟩
    rcases List.mem_cons.mp hx with rfl | hx
    · intro e
      rw [e] at y
      simp at y
    · exact hne x hx
theorem DpXs.reads {pins : List (Addr × Obj)} {σ : L2.St} {H : Hp} {s : Shared} (I : Inv X pins σ H s) (hs : smB X.K = true) : ∀ {vs : List V} {ps : List PyData} {us : List Value}, DpXs X.K H vs ps → Vals vs us → ∃ as, ReadsAll s.heap us ps as ∧ ∀ x ∈ as, x ≠ sysModules
  | _, _, _, .nil, r => by cases r; exact ⟨_, ReadsAll.nil, by simp⟩
  | _, _, _, .cons h1 h2, r => by
    cases r with
    | cons r1 r2 =>
      obtain ⟨as, q1, n1⟩ := DpX.reads I hs h1 r1
      obtain ⟨bs, q2, n2⟩ := DpXs.reads I hs h2 r2
      exact ⟨_, ReadsAll.cons q1 q2, fun x hx => (List.mem_append.mp hx).elim (n1 x) (n2 x)⟩
theorem DpXk.reads {pins : List (Addr × Obj)} {σ : L2.St} {H : Hp} {s : Shared} (I : Inv X pins σ H s) (hs : smB X.K = true) : ∀ {qs : List (Key × V)} {l : List (PyData × PyData)} {vs : List (Key × Value)}, DpXk X.K H qs l → KV qs vs → ∃ bs, PyProof.V.PairsRead s.heap encK vs l bs ∧ ∀ x ∈ bs, x ≠ sysModules
  | _, _, _, .nil, r => by cases r; exact ⟨_, PyProof.V.PairsRead.nil, by simp⟩
  | _, _, _, .cons h1 h2, r => by
    cases r with
    | cons hk r =>
      rename_i b _
      obtain ⟨k, u⟩ := b
      obtain ⟨e, rv⟩ := hk
      cases e
      obtain ⟨as, q1, n1⟩ := DpX.reads I hs h1 rv
      obtain ⟨bs, q2, n2⟩ := DpXk.reads I hs h2 r
      exact ⟨_, PyProof.V.PairsRead.cons q1 q2, fun x hx => (List.mem_append.mp hx).elim (n1 x) (n2 x)⟩
end
def rReprX (K : PySem.W.Frag) : List V → Hp → VK → Prop := fun xs H Q => ∃ x p, xs = [x] ∧ DpX K H x p ∧ p.showable = true ∧ p.depth ≤ 64 ∧ p.shown.length ≤ sizeLine ∧ Q (.str p.shown) H
theorem call_reprX (hs : smB X.K = true) (hG : X.A.guards = some []) (hu : X.A.units + 65 < cLine) : CallR X (.builtin "repr") (rReprX X.K) := by
  intro pins s σ H xs us Q I r h
  obtain ⟨x, p, rfl, hp, h1, h2, h3, q⟩ := h
  obtain ⟨u, rfl, rx⟩ := vals1 r
  obtain ⟨as, rd, hne⟩ := DpX.reads I hs hp rx
  have hsm : p.hasDict = true → sysModules ∉ as := fun _ hm => hne _ hm rfl
  cases hp with
  | non => cases rx; exact PySem.P.repr_of_none ⟨.str _, H, I.tok _, ⟨_, rfl⟩, q⟩
  | bl b => cases rx; exact PySem.P.repr_of_bool ⟨.str _, H, I.tok _, ⟨_, rfl⟩, q⟩
  | int i =>
    obtain ⟨t, rfl⟩ := rx
    exact PySem.P.repr_of_int (of_decide_eq_true h1) ⟨.str _, H, I.tok _, ⟨_, rfl⟩, q⟩
  | str z =>
    obtain ⟨t, rfl⟩ := rx
    exact PySem.P.repr_of_str (hsz := h3) ⟨.str _, H, I.tok _, ⟨_, rfl⟩, q⟩
  | lst _ _ =>
    cases rx
    exact repr_of_reads' rd h1 hsm hG (by omega) (fun _ _ e => e) (fun h' u tk hk => ⟨.str _, H, I.kept hk, ⟨_, rfl⟩, q⟩) h3
  | tup _ _ =>
    cases rx
    exact repr_of_reads' rd h1 hsm hG (by omega) (fun _ _ e => e) (fun h' u tk hk => ⟨.str _, H, I.kept hk, ⟨_, rfl⟩, q⟩) h3
  | dct _ _ =>
    cases rx
    exact repr_of_reads' rd h1 hsm hG (by omega) (fun _ _ e => e) (fun h' u tk hk => ⟨.str _, H, I.kept hk, ⟨_, rfl⟩, q⟩) h3
end
/-! over data -/
mutual
def toPyX (μ : Store) : Nat → D → Option PyData
  | 0, _ => none
  | _ + 1, .non => some .none
  | _ + 1, .bl b => some (.bool b)
  | _ + 1, .int i => some (.int i)
  | _ + 1, .str x => some (.str x)
  | n + 1, .tup xs => (toPyXs μ n xs).map .tuple
  | n + 1, .lst xs => (toPyXs μ n xs).map .list
  | n + 1, .fl xs => (toPyXs μ n xs).map .list
  | n + 1, .ref i => match μ[i]? with
    | some (.lst xs) => (toPyXs μ n xs).map .list
    | some (.dct kvs) => (toPyXk μ n kvs).map .dict
    | _ => none
termination_by n d => (n, 0)
def toPyXs (μ : Store) : Nat → List D → Option (List PyData)
  | _, [] => some []
  | n, d :: r => match toPyX μ n d, toPyXs μ n r with
    | some p, some q => some (p :: q)
    | _, _ => none
termination_by n xs => (n, xs.length + 1)
def toPyXk (μ : Store) : Nat → List (Key × D) → Option (List (PyData × PyData))
  | _, [] => some []
  | n, (k, d) :: r => match toPyX μ n d, toPyXk μ n r with
    | some p, some q => some ((encK k, p) :: q)
    | _, _ => none
termination_by n xs => (n, xs.length + 1)
end
section
variable {K : PySem.W.Frag} {ι : List Addr} {H : Hp} {μ : Store}
theorem dpx_all (w : WF K ι μ H) : ∀ n : Nat, (∀ (v : V) (d : D) (p : PyData), VR K ι H v d → toPyX μ n d = some p → DpX K H v p)
  | 0, _, _, _, _, e => by simp [toPyX] at e
  | n + 1, v, d, p, r, e => by
    have ih := dpx_all w n
    have ihs : ∀ (vs : List V) (ds : List D) (ps : List PyData), VRs K ι H vs ds → toPyXs μ n ds = some ps → DpXs K H vs ps := by
      intro vs ds
      induction ds generalizing vs with
      | nil =>
        intro ps r e
        cases r
        simp only [toPyXs] at e
        cases e
        exact .nil
      | cons d ds ihd =>
        intro ps r e
        cases r with
        | cons r1 r2 =>
          simp only [toPyXs] at e
          split at e
          · rename_i p q e1 e2
            cases e
            exact .cons (ih _ _ _ r1 e1) (ihd _ _ r2 e2)
          · cases e
    have ihk : ∀ (qs : List (Key × V)) (kvs : List (Key × D)) (l : List (PyData × PyData)), qs.map (·.1) = kvs.map (·.1) → VRs K ι H (qs.map (·.2)) (kvs.map (·.2)) → toPyXk μ n kvs = some l → DpXk K H qs l := by
      intro qs kvs
      induction kvs generalizing qs with
      | nil =>
        intro l hm r e
        cases qs with
        | nil => simp only [toPyXk] at e; cases e; exact .nil
        | cons a b => simp at hm
      | cons kd kvs ihd =>
        intro l hm r e
        obtain ⟨k, d⟩ := kd
        cases qs with
        | nil => simp at hm
        | cons a qs =>
          obtain ⟨k', v'⟩ := a
          simp only [List.map_cons, List.cons.injEq] at hm
          obtain ⟨rfl, hm⟩ := hm
          cases r with
          | cons r1 r2 =>
            simp only [toPyXk] at e
            split at e
            · rename_i p q e1 e2
              cases e
              exact .cons (ih _ _ _ r1 e1) (ihd _ _ hm r2 e2)
            · cases e
    cases r with
    | non => simp only [toPyX] at e; cases e; exact .non
    | bl b => simp only [toPyX] at e; cases e; exact .bl b
    | int i => simp only [toPyX] at e; cases e; exact .int i
    | str x => simp only [toPyX] at e; cases e; exact .str x
    | tup h r =>
      simp only [toPyX, Option.map_eq_some_iff] at e
      obtain ⟨q, e1, rfl⟩ := e
      exact .tup h.sq (ihs _ _ _ r e1)
    | lst h r =>
      simp only [toPyX, Option.map_eq_some_iff] at e
      obtain ⟨q, e1, rfl⟩ := e
      exact .lst h.sq (ihs _ _ _ r e1)
    | fl h r =>
      simp only [toPyX, Option.map_eq_some_iff] at e
      obtain ⟨q, e1, rfl⟩ := e
      exact .lst h.sq (ihs _ _ _ r e1)
    | ref hi =>
      obtain ⟨o, ho, ro⟩ := w.has hi
      simp only [toPyX, ho] at e
      cases o with
      | lst xs =>
        obtain ⟨vs, ea, rs⟩ := ro
        simp only [Option.map_eq_some_iff] at e
        obtain ⟨q, e1, rfl⟩ := e
        exact .lst (.inl (.inl ea)) (ihs _ _ _ rs e1)
      | dct kvs =>
        obtain ⟨qs, ea, em, rv⟩ := ro
        simp only [Option.map_eq_some_iff] at e
        obtain ⟨q, e1, rfl⟩ := e
        exact .dct ea (ihk _ _ _ em rv e1)
      | _ => cases e
end
def FreprX (ds : List D) (μ : Store) : Res D := match ds with
  | [d] => match toPyX μ 70 d with
    | some p => if (p.showable = true ∧ p.depth ≤ 64) ∧ p.shown.length ≤ sizeLine then okR (.str p.shown) μ else none
    | none => none
  | _ => none
theorem lift_reprX {K : PySem.W.Frag} : LiftA K (rReprX K) FreprX := by
  intro W σ ι μ H xs ds Q w v h
  unfold FreprX at h
  split at h
  · obtain ⟨x, rfl, vx⟩ := v.one
    split at h
    · rename_i p ep
      obtain ⟨z, h⟩ := PostG.guard h
      exact ⟨x, p, rfl, dpx_all w 70 x _ p vx ep, z.1.1, z.1.2, z.2, h.ok0 w (.str _)⟩
    · exact h.elim
  · exact h.elim
theorem f_reprX {d : D} {p : PyData} {μ : Store} (e : toPyX μ 70 d = some p) (h : p.showable = true ∧ p.depth ≤ 64) (hl : p.shown.length ≤ sizeLine) : FreprX [d] μ = okR (.str p.shown) μ := by
  unfold FreprX
  simp only [e]
  rw [if_pos ⟨h, hl⟩]
end DM

namespace DM
open PySem PySem.Spec L2 PyProof.Rows
/-! ### sorted(t) of a tuple of texts -/
def isStr1 : D → Bool
  | .str _ => true
  | _ => false
theorem isStr1_ex {d : D} (h : isStr1 d = true) : ∃ s, d = .str s := by
  cases d <;> first | exact ⟨_, rfl⟩ | cases h
def sortSOk (xs : List D) : Prop := xs.length ≤ 1000000 ∧ ∀ x ∈ xs, shp 50 x = true ∧ isStr1 x = true
instance (xs : List D) : Decidable (sortSOk xs) := by unfold sortSOk; infer_instance
def FsortSp (ds : List D) (μ : Store) : Res D := match ds with
  | [.tup xs] => if sortSOk xs then okR (.lst (srtD xs)) μ else none
  | _ => none
theorem lift_sortSp {K : PySem.W.Frag} : LiftA K (rSortTp K) FsortSp := by
  intro W σ ι μ H xs ds Q w v h
  unfold FsortSp at h
  match ds, v, h with
  | [.tup ys], v, h =>
    obtain ⟨x, rfl, vd⟩ := v.one
    cases vd with
    | @tup a vs _ hh r =>
      dsimp only at h
      obtain ⟨⟨c1, c2⟩, h⟩ := PostG.guard h
      have hsh : shps 50 ys = true := shps_all.mpr fun y hy => (c2 y hy).1
      have hlen := r.length
      refine ⟨a, vs, pyDs ys, rfl, hh.sq, dps_of r (toPys_shps hsh), ?_, ?_, ?_, by rw [hlen]; exact c1, fun p hp => ?_⟩
      · intro p hp q hq
        rw [pyDs_map] at hp hq
        obtain ⟨y, hy, rfl⟩ := List.mem_map.mp hp
        obtain ⟨z, hz, rfl⟩ := List.mem_map.mp hq
        obtain ⟨s, rfl⟩ := isStr1_ex (c2 y hy).2
        obtain ⟨s2, rfl⟩ := isStr1_ex (c2 z hz).2
        simp [pyD, PySem.W.alike]
      · rw [pyDs_map]
        refine .inr fun p hp => ?_
        obtain ⟨y, hy, rfl⟩ := List.mem_map.mp hp
        obtain ⟨s, rfl⟩ := isStr1_ex (c2 y hy).2
        exact ⟨by simp [pyD], fun xs => by simp [pyD]⟩
      · intro p hp
        rw [pyDs_map] at hp
        obtain ⟨y, hy, rfl⟩ := List.mem_map.mp hp
        exact dep_shp (c2 y hy).1
      · have ez : vs.zip (pyDs ys) = (vs.zip ys).map fun z => (z.1, pyD z.2) := by
          rw [pyDs_map, List.zip_map_right]
          rfl
        have e1 : (((vs.zip ys).mergeSort fun a b => leD a.2 b.2).map fun z => (z.1, pyD z.2)) = (vs.zip (pyDs ys)).mergeSort leV := by
          rw [ez]
          exact List.map_mergeSort fun _ _ _ _ => rfl
        have e2 : ((vs.zip (pyDs ys)).mergeSort leV).map (·.1) = ((vs.zip ys).mergeSort fun a b => leD a.2 b.2).map (·.1) := by
          rw [← e1, List.map_map]
          rfl
        have e3 : ((vs.zip ys).mergeSort fun a b => leD a.2 b.2).map (·.2) = srtD ys := by
          have := List.map_mergeSort (r := fun a b : V × D => leD a.2 b.2) (s := leD) (f := fun z : V × D => z.2) (l := vs.zip ys) fun _ _ _ _ => rfl
          rw [this, List.map_snd_zip (Nat.le_of_eq hlen.symm)]
          rfl
        rw [e2]
        refine h.ok (Le.laid hp) (w.laid hp) (.lst ⟨upd_same, w.out hp⟩ ?_)
        rw [← e3]
        exact (vrs_pairs fun z hz => vrs_zip r z (List.mem_mergeSort.mp hz)).mono (Le.laid hp)
end DM

namespace Lw
open PySem PySem.Spec L2 DM
def topS (i : Nat) : Stmt := PySem.Challenge.pw_coarseclock_k05_policies_of_any_value.main.body.getD i (.Pass ⟨0, 0, 0, 0⟩)
abbrev FnT (K : PySem.W.Frag) (x : Str) (st : Stmt) (f : Addr) (fd : FuncData) : Prop := FunD K x x (defArgs st) (defBody st) (defScope st) [] [] f fd
abbrev FnM (K : PySem.W.Frag) (x q : Str) (st : Stmt) (f : Addr) (fd : FuncData) : Prop := FunD K x q (defArgs st) (defBody st) (defScope st) [] [] f fd
section
variable {P : Program} {w : World} {K : PySem.W.Frag} {mg : Str → Option Value} {base : Heap}
/-! #### is_integer -/
abbrev s_is_integer : Stmt := topS 1
abbrev N_is_integer : List Str := ["value", "low", "high"]
theorem sc_is_integer : FnScope N_is_integer ["value", "low", "high"] (defScope s_is_integer) := ⟨rfl, rfl, rfl, by decide +kernel, rfl, by decide +kernel, by decide +kernel⟩
def S_is_integer : SF := (sSeq (sIf (bOr (bNot (bTru (eIsi "int" (eVar 0)))) (bTru (eIsi "bool" (eVar 0)))) (sRet (eC (.bl false))) sNil) (sRet (vAnd (vOr (e2 (Fis false) (eVar 1) (eC .non)) (e2 Fle (eVar 1) (eVar 0))) (vOr (e2 (Fis false) (eVar 2) (eC .non)) (e2 Fle (eVar 0) (eVar 2))))))
def F_is_integer : FD := fnP 3 3 S_is_integer
abbrev P_is_integer : List Str := ["value", "low", "high"]
theorem ok_is_integer {f : Addr} {fd : FuncData} (Fd : FnT K "is_integer" s_is_integer f fd) (m_bool : mg "bool" = none) (m_int : mg "int" = none) (m_isinstance : mg "isinstance" = none) : FnG P w K mg base (xrS K) 1 f fd P_is_integer F_is_integer := by
  exact fnG_pure Fd sc_is_integer rfl rfl fun cdv A outer s H E hr hG => (ds_cons (ds_if (PW.pt (dw_or (dt_not (dt_tru (d_isi (T := "int") (by rfl) m_isinstance (by rfl) m_int (by decide +kernel) (by decide) (d_pv 0 (pv 0))) (by intro _; rfl))) (dw_or1 (dt_tru (d_isi (T := "bool") (by rfl) m_isinstance (by rfl) m_bool (by decide +kernel) (by decide) (d_pv 0 (pv 0))) (by intro _; rfl))))) (ds_one (ds_ret d_bl)) ds_nil) (ds_one (ds_ret (d_and (d_or (d_is (d_pv 1 (pv 1)) d_non) (d_one (d_le (d_pv 1 (pv 1)) (d_pv 0 (pv 0))))) (d_one (d_or (d_is (d_pv 2 (pv 2)) d_non) (d_one (d_le (d_pv 0 (pv 0)) (d_pv 2 (pv 2))))))))))
theorem kn_is_integer {f : Addr} {fd : FuncData} (Fd : FnT K "is_integer" s_is_integer f fd) (g : mg "is_integer" = some (.ref f)) (m_bool : mg "bool" = none) (m_int : mg "int" = none) (m_isinstance : mg "isinstance" = none) : Kn P w K mg base 1 "is_integer" P_is_integer F_is_integer :=
  ⟨⟨f, fd, ok_is_integer Fd m_bool m_int m_isinstance, g, Fd.kp, FunD.bindsN Fd (fun _ _ _ _ _ _ us hl => match us, hl with | [_, _, _], _ => rfl), fnP_len⟩⟩
/-! #### ascends -/
abbrev s_ascends : Stmt := topS 2
abbrev N_ascends : List Str := ["some", "one", "later"]
theorem sc_ascends : FnScope N_ascends ["some"] (defScope s_ascends) := ⟨rfl, rfl, rfl, by decide +kernel, rfl, by decide +kernel, by decide +kernel⟩
def S_ascends : SF := (sRet (eCallB Fall (aCons (eSeal (eLC (iZip (aCons (eVar 0) (aCons (eCut (eVar 0) (oSome (eC (.int 1))) oNone) aNil))) (fTup [1, 2]) bYes (e2 FltD (eVar 1) (eVar 2)) [1, 2])) aNil)))
def F_ascends : FD := fnP 3 1 S_ascends
abbrev P_ascends : List Str := ["some"]
theorem ok_ascends {f : Addr} {fd : FuncData} (Fd : FnT K "ascends" s_ascends f fd) (m_all : mg "all" = none) (m_zip : mg "zip" = none) : FnG P w K mg base (xrS K) 1 f fd P_ascends F_ascends := by
  exact fnG_pure Fd sc_ascends rfl rfl fun cdv A outer s H E hr hG => (ds_one (ds_ret (d_cb (cr_all rfl) lift_all (by rfl) m_all (by decide +kernel) (da_cons (d_seal (d_lc (own := [("one", 1), ("later", 2)]) rfl sc_ascends.nd (di_zip (by rfl) m_zip (da_cons (d_pv 0 (pv 0)) (da_cons (d_cut (d_pv 0 (pv 0)) (po_s d_int) po_n) da_nil))) (blkOk_by (N := N_ascends) (sc := defScope s_ascends) (own := [("one", 1), ("later", 2)]) (by decide +kernel)) (fun _ _ _ _ _ => (pg_tup rfl (pgs_cons (pg_name (i := 1) sc_ascends.nd rfl (.inl rfl)) (pgs_cons (pg_name (i := 2) sc_ascends.nd rfl (.inl rfl)) pgs_nil)))) (tg_tup (is := [1, 2]) rfl (by decide)) (fun _ _ _ _ _ => dts_nil) (fun _ _ _ _ _ => (d_ltD hr (d_pv 1 (pv 1)) (d_pv 2 (pv 2)))))) da_nil))))
theorem kn_ascends {f : Addr} {fd : FuncData} (Fd : FnT K "ascends" s_ascends f fd) (g : mg "ascends" = some (.ref f)) (m_all : mg "all" = none) (m_zip : mg "zip" = none) : Kn P w K mg base 1 "ascends" P_ascends F_ascends :=
  ⟨⟨f, fd, ok_ascends Fd m_all m_zip, g, Fd.kp, FunD.bindsN Fd (fun _ _ _ _ _ _ us hl => match us, hl with | [_], _ => rfl), fnP_len⟩⟩
/-! #### orders -/
abbrev s_orders : Stmt := topS 17
abbrev N_orders : List Str := ["steps", "found", "first", "second", "step"]
theorem sc_orders : FnScope N_orders [] (defScope s_orders) := ⟨rfl, rfl, rfl, by decide +kernel, rfl, by decide +kernel, by decide +kernel⟩
def B_orders_2 : SF := (sDrop (eMeth isList Fapp (eVar 1) (aCons (eTup (aCons (eVar 2) (aCons (eVar 3) (aStar (eSeal (eLC (iAny (eVar 0)) (fName 4) (bOf (e2 (Fin true) (eVar 4) (eTup (aCons (eVar 2) (aCons (eVar 3) aNil))))) (eVar 4) [4])) aNil)))) aNil)))
def B_orders_1 : SF := (sFor (iAny (eSeal (eLC (iAny (eVar 0)) (fName 4) (bOf (e2 (Feq true) (eVar 4) (eVar 2))) (eVar 4) [4]))) (fName 3) B_orders_2)
def S_orders : SF := (sSeq (sPar2 0 1 (aCons (eTup (aCons (eC (.str "note")) (aCons (eC (.str "read")) (aCons (eC (.str "stat")) aNil)))) (aCons (eCel aNil) aNil))) (sSeq (sFor (iAny (eVar 0)) (fName 2) B_orders_1) (sRet (eCallB Ftuple (aCons (eVar 1) aNil)))))
def F_orders : FD := fnSeal (fnP 5 0 S_orders)
abbrev P_orders : List Str := []
theorem ok_orders {f : Addr} {fd : FuncData} (Fd : FnT K "orders" s_orders f fd) (m_tuple : mg "tuple" = none) (c_NOTE : Cst K mg "NOTE" (.str "note")) (c_READ : Cst K mg "READ" (.str "read")) (c_STAT : Cst K mg "STAT" (.str "stat")) : FnG P w K mg base (xrS K) 1 f fd P_orders F_orders := by
  exact FnG.seal (fnG_pure Fd sc_orders rfl rfl fun cdv A outer s H E hr hG => (ds_cons (ds_par2 (i := 0) (j := 1) rfl sc_orders.nd rfl rfl (by decide) rfl rfl (da_cons (d_tup (da_cons (d_cst (by rfl) c_NOTE) (da_cons (d_cst (by rfl) c_READ) (da_cons (d_cst (by rfl) c_STAT) da_nil)))) (da_cons (d_cel da_nil) da_nil)) (by rfl)) (ds_cons (ds_for (own := [2]) PassesOwn.never rfl (di_any (d_pv 0 (pv 0))) (pg_name (i := 2) sc_orders.nd rfl (.inr rfl)) (tg_name (by decide)) (ds_one (ds_for (own := [3]) PassesOwn.never rfl (di_any (d_seal (d_lc (own := [("step", 4)]) rfl sc_orders.nd (di_any (d_pv 0 (pv 0))) (blkOk_by (N := N_orders) (sc := defScope s_orders) (own := [("step", 4)]) (by decide +kernel)) (fun _ _ _ _ _ => (pg_name (i := 4) sc_orders.nd rfl (.inl rfl))) (tg_name (by decide)) (fun _ _ _ _ _ => (dts_one (dt_ne hr (d_pv 4 (pv 4)) (d_pv 2 (pv 2))))) (fun _ _ _ _ _ => (d_pv 4 (pv 4)))))) (pg_name (i := 3) sc_orders.nd rfl (.inr rfl)) (tg_name (by decide)) (ds_one (ds_expr (d_app (d_pv 1 (pv 1)) (da_cons (d_tup (da_cons (d_pv 2 (pv 2)) (da_cons (d_pv 3 (pv 3)) (da_star (d_seal (d_lc (own := [("step", 4)]) rfl sc_orders.nd (di_any (d_pv 0 (pv 0))) (blkOk_by (N := N_orders) (sc := defScope s_orders) (own := [("step", 4)]) (by decide +kernel)) (fun _ _ _ _ _ => (pg_name (i := 4) sc_orders.nd rfl (.inl rfl))) (tg_name (by decide)) (fun _ _ _ _ _ => (dts_one (dt_notin hr (d_pv 4 (pv 4)) (d_tup (da_cons (d_pv 2 (pv 2)) (da_cons (d_pv 3 (pv 3)) da_nil)))))) (fun _ _ _ _ _ => (d_pv 4 (pv 4))))) da_nil)))) da_nil))))))) (ds_one (ds_ret (d_ct call_tupleD lift_tuple (by rfl) m_tuple (by decide +kernel) (da_cons (d_pv 1 (pv 1)) da_nil)))))))
theorem kn_orders {f : Addr} {fd : FuncData} (Fd : FnT K "orders" s_orders f fd) (g : mg "orders" = some (.ref f)) (m_tuple : mg "tuple" = none) (c_NOTE : Cst K mg "NOTE" (.str "note")) (c_READ : Cst K mg "READ" (.str "read")) (c_STAT : Cst K mg "STAT" (.str "stat")) : Kn P w K mg base 1 "orders" P_orders F_orders :=
  ⟨⟨f, fd, ok_orders Fd m_tuple c_NOTE c_READ c_STAT, g, Fd.kp, FunD.bindsN Fd (fun _ _ _ _ _ _ us hl => match us, hl with | [], _ => rfl), fnSeal_len fnP_len⟩⟩
/-! #### is_one_of -/
abbrev s_is_one_of : Stmt := topS 19
abbrev N_is_one_of : List Str := ["value", "words"]
theorem sc_is_one_of : FnScope N_is_one_of ["value", "words"] (defScope s_is_one_of) := ⟨rfl, rfl, rfl, by decide +kernel, rfl, by decide +kernel, by decide +kernel⟩
def S_is_one_of : SF := (sRet (vAnd (eIsi "str" (eVar 0)) (e2 (Fin false) (eVar 0) (eVar 1))))
def F_is_one_of : FD := fnP 2 2 S_is_one_of
abbrev P_is_one_of : List Str := ["value", "words"]
theorem ok_is_one_of {f : Addr} {fd : FuncData} (Fd : FnT K "is_one_of" s_is_one_of f fd) (m_isinstance : mg "isinstance" = none) (m_str : mg "str" = none) : FnG P w K mg base (xrS K) 1 f fd P_is_one_of F_is_one_of := by
  exact fnG_pure Fd sc_is_one_of rfl rfl fun cdv A outer s H E hr hG => (ds_one (ds_ret (d_and (d_isi (T := "str") (by rfl) m_isinstance (by rfl) m_str (by decide +kernel) (by decide) (d_pv 0 (pv 0))) (d_one (d_in hr (d_pv 0 (pv 0)) (d_pv 1 (pv 1)))))))
theorem kn_is_one_of {f : Addr} {fd : FuncData} (Fd : FnT K "is_one_of" s_is_one_of f fd) (g : mg "is_one_of" = some (.ref f)) (m_isinstance : mg "isinstance" = none) (m_str : mg "str" = none) : Kn P w K mg base 1 "is_one_of" P_is_one_of F_is_one_of :=
  ⟨⟨f, fd, ok_is_one_of Fd m_isinstance m_str, g, Fd.kp, FunD.bindsN Fd (fun _ _ _ _ _ _ us hl => match us, hl with | [_, _], _ => rfl), fnP_len⟩⟩
/-! #### _law_pot -/
abbrev s__law_pot : Stmt := topS 23
abbrev N__law_pot : List Str := ["_law_script", "_law_k", "_law_cell", "_law_great"]
theorem sc__law_pot : FnScope N__law_pot ["_law_script", "_law_k"] (defScope s__law_pot) := ⟨rfl, rfl, rfl, by decide +kernel, rfl, by decide +kernel, by decide +kernel⟩
def S__law_pot : SF := (sSeq (sAsg 2 (eIf (bOf (e2 Flt (eVar 1) (eCallB Flen (aCons (eVar 0) aNil)))) (e2 Fix (eVar 0) (eVar 1)) (e2 Fadd (e2 Fmul (eC (.int 17)) (eVar 1)) (eC (.int 3))))) (sSeq (sAsg 3 (eIf (bOf (e2 Fge (eCallB Fabs (aCons (eVar 2) aNil)) (e2 Fpow (eC (.int 10)) (eC (.int 18))))) (e2 Fmod (eCallB Fabs (aCons (eVar 2) aNil)) (e2 Fpow (e2 Fpow (eC (.int 10)) (eC (.int 60))) (eC (.int 3)))) (eC (.int 0)))) (sRet (eCel (aCons (eVar 3) (aCons (e2 Fmod (e2 Fadd (e2 Fadd (e2 Fmul (e2 Fmod (eVar 2) (eC (.int 2305843009213693951))) (eC (.int 69621))) (e2 Fmul (e2 Fmul (eC (.int 104729)) (eVar 1)) (eVar 1))) (eC (.int 71))) (eC (.int 2305843009213693921))) (aCons (eC (.int 0)) aNil)))))))
def F__law_pot : FD := fnP 4 2 S__law_pot
abbrev P__law_pot : List Str := ["_law_script", "_law_k"]
theorem ok__law_pot {f : Addr} {fd : FuncData} (Fd : FnT K "_law_pot" s__law_pot f fd) (m_abs : mg "abs" = none) (m_len : mg "len" = none) : FnG P w K mg base (xrS K) 1 f fd P__law_pot F__law_pot := by
  exact fnG_pure Fd sc__law_pot rfl rfl fun cdv A outer s H E hr hG => (ds_cons (ds_set (i := 2) sc__law_pot.nd rfl (.inl rfl) (d_ifexp (dt_lt (d_pv 1 (pv 1)) (d_cb call_len lift_len (by rfl) m_len (by decide +kernel) (da_cons (d_pv 0 (pv 0)) da_nil))) (d_ix (d_pv 0 (pv 0)) (d_pv 1 (pv 1)) (fun _ _ => rfl)) (d_add (d_mul d_int (d_pv 1 (pv 1))) d_int))) (ds_cons (ds_set (i := 3) sc__law_pot.nd rfl (.inl rfl) (d_ifexp (dt_ge (d_cb call_abs lift_abs (by rfl) m_abs (by decide +kernel) (da_cons (d_pv 2 (pv 2)) da_nil)) (d_pow d_int d_int)) (d_mod (d_cb call_abs lift_abs (by rfl) m_abs (by decide +kernel) (da_cons (d_pv 2 (pv 2)) da_nil)) (d_pow (d_pow d_int d_int) d_int)) d_int)) (ds_one (ds_ret (d_cel (da_cons (d_pv 3 (pv 3)) (da_cons (d_mod (d_add (d_add (d_mul (d_mod (d_pv 2 (pv 2)) d_int) d_int) (d_mul (d_mul d_int (d_pv 1 (pv 1))) (d_pv 1 (pv 1)))) d_int) d_int) (da_cons d_int da_nil))))))))
theorem kn__law_pot {f : Addr} {fd : FuncData} (Fd : FnT K "_law_pot" s__law_pot f fd) (g : mg "_law_pot" = some (.ref f)) (m_abs : mg "abs" = none) (m_len : mg "len" = none) : Kn P w K mg base 1 "_law_pot" P__law_pot F__law_pot :=
  ⟨⟨f, fd, ok__law_pot Fd m_abs m_len, g, Fd.kp, FunD.bindsN Fd (fun _ _ _ _ _ _ us hl => match us, hl with | [_, _], _ => rfl), fnP_len⟩⟩
/-! #### _law_take -/
abbrev s__law_take : Stmt := topS 24
abbrev N__law_take : List Str := ["_law_pot_here", "_law_size", "_law_digit", "_law_prime", "_law_mixed_here"]
theorem sc__law_take : FnScope N__law_take ["_law_pot_here", "_law_size"] (defScope s__law_take) := ⟨rfl, rfl, rfl, by decide +kernel, rfl, by decide +kernel, by decide +kernel⟩
def S__law_take : SF := (sSeq (sIf (bOf (e2 Fgt (e2 Fix (eVar 0) (eC (.int 0))) (eC (.int 0)))) (sSeq (sAsg 2 (e2 Fmod (e2 Fix (eVar 0) (eC (.int 0))) (eVar 1))) (sSeq (sPut (eVar 0) (eC (.int 0)) (e2 Fdiv (e2 Fix (eVar 0) (eC (.int 0))) (eVar 1))) (sRet (eVar 2)))) sNil) (sSeq (sPut (eVar 0) (eC (.int 2)) (e2 Fadd (e2 Fix (eVar 0) (eC (.int 2))) (eC (.int 1)))) (sSeq (sAsg 3 (e2 Fix (eLst (aCons (eC (.int 2147483647)) (aCons (eC (.int 2147483629)) (aCons (eC (.int 2147483587)) (aCons (eC (.int 2147483579)) (aCons (eC (.int 2147483563)) aNil)))))) (e2 Fmod (e2 Fix (eVar 0) (eC (.int 2))) (eC (.int 5))))) (sSeq (sAsg 4 (e2 Fmod (e2 Fpow (e2 Fadd (e2 Fadd (e2 Fix (eVar 0) (eC (.int 1))) (e2 Fmul (e2 Fmul (eC (.int 40009)) (e2 Fix (eVar 0) (eC (.int 2)))) (e2 Fix (eVar 0) (eC (.int 2))))) (eC (.int 31))) (eC (.int 3))) (eVar 3))) (sRet (e2 Fmod (e2 Fdiv (e2 Fmod (e2 Fmul (eVar 4) (e2 Fadd (e2 Fmod (eVar 4) (eC (.int 10009))) (e2 Fmul (eC (.int 89)) (e2 Fix (eVar 0) (eC (.int 2)))))) (eC (.int 2305843009213693907))) (eC (.int 89))) (eVar 1)))))))
def F__law_take : FD := fnP 5 2 S__law_take
abbrev P__law_take : List Str := ["_law_pot_here", "_law_size"]
theorem ok__law_take {f : Addr} {fd : FuncData} (Fd : FnT K "_law_take" s__law_take f fd) : FnG P w K mg base (xrS K) 1 f fd P__law_take F__law_take := by
  exact fnG_pure Fd sc__law_take rfl rfl fun cdv A outer s H E hr hG => (ds_cons (ds_if (dt_gt (d_ix (d_pv 0 (pv 0)) d_int (fun _ _ => rfl)) d_int) (ds_cons (ds_set (i := 2) sc__law_take.nd rfl (.inl rfl) (d_mod (d_ix (d_pv 0 (pv 0)) d_int (fun _ _ => rfl)) (d_pv 1 (pv 1)))) (ds_cons (ds_put (d_div (d_ix (d_pv 0 (pv 0)) d_int (fun _ _ => rfl)) (d_pv 1 (pv 1))) (d_pv 0 (pv 0)) d_int (pg_sub (d_pv 0 (pv 0)) d_int set_list)) (ds_one (ds_ret (d_pv 2 (pv 2)))))) ds_nil) (ds_cons (ds_put (d_add (d_ix (d_pv 0 (pv 0)) d_int (fun _ _ => rfl)) d_int) (d_pv 0 (pv 0)) d_int (pg_sub (d_pv 0 (pv 0)) d_int set_list)) (ds_cons (ds_set (i := 3) sc__law_take.nd rfl (.inl rfl) (d_ix (d_lst (da_cons d_int (da_cons d_int (da_cons d_int (da_cons d_int (da_cons d_int da_nil)))))) (d_mod (d_ix (d_pv 0 (pv 0)) d_int (fun _ _ => rfl)) d_int) (fun _ _ => rfl))) (ds_cons (ds_set (i := 4) sc__law_take.nd rfl (.inl rfl) (d_mod (d_pow (d_add (d_add (d_ix (d_pv 0 (pv 0)) d_int (fun _ _ => rfl)) (d_mul (d_mul d_int (d_ix (d_pv 0 (pv 0)) d_int (fun _ _ => rfl))) (d_ix (d_pv 0 (pv 0)) d_int (fun _ _ => rfl)))) d_int) d_int) (d_pv 3 (pv 3)))) (ds_one (ds_ret (d_mod (d_div (d_mod (d_mul (d_pv 4 (pv 4)) (d_add (d_mod (d_pv 4 (pv 4)) d_int) (d_mul d_int (d_ix (d_pv 0 (pv 0)) d_int (fun _ _ => rfl))))) d_int) d_int) (d_pv 1 (pv 1)))))))))
theorem kn__law_take {f : Addr} {fd : FuncData} (Fd : FnT K "_law_take" s__law_take f fd) (g : mg "_law_take" = some (.ref f)) : Kn P w K mg base 1 "_law_take" P__law_take F__law_take :=
  ⟨⟨f, fd, ok__law_take Fd, g, Fd.kp, FunD.bindsN Fd (fun _ _ _ _ _ _ us hl => match us, hl with | [_, _], _ => rfl), fnP_len⟩⟩
/-! #### _law_all_cells -/
abbrev s__law_all_cells : Stmt := topS 29
abbrev N__law_all_cells : List Str := ["_law_wide", "_law_found", "_law_relation", "_law_gap"]
theorem sc__law_all_cells : FnScope N__law_all_cells ["_law_wide"] (defScope s__law_all_cells) := ⟨rfl, rfl, rfl, by decide +kernel, rfl, by decide +kernel, by decide +kernel⟩
def B__law_all_cells_2 : SF := (sDrop (eMeth isList Fext (eVar 1) (aCons (eLst (aCons (eTup (aCons (eVar 2) (aCons (eVar 3) (aCons (eC (.str "other")) aNil)))) (aCons (eTup (aCons (eVar 2) (aCons (eVar 3) (aCons (eC (.str "same")) aNil)))) aNil))) aNil)))
def B__law_all_cells_1 : SF := (sFor (iRg2 (aCons (e2 Fsub (eC (.int 0)) (eVar 0)) (aCons (e2 Fadd (eVar 0) (eC (.int 1))) aNil))) (fName 3) B__law_all_cells_2)
def S__law_all_cells : SF := (sSeq (sAsg 1 (eCel aNil)) (sSeq (sFor (iTupD (eTup (aCons (eC (.str "less")) (aCons (eC (.str "more")) (aCons (eC (.str "same")) aNil))))) (fName 2) B__law_all_cells_1) (sRet (eVar 1))))
def F__law_all_cells : FD := fnSeal (fnP 4 1 S__law_all_cells)
abbrev P__law_all_cells : List Str := ["_law_wide"]
theorem ok__law_all_cells {f : Addr} {fd : FuncData} (Fd : FnT K "_law_all_cells" s__law_all_cells f fd) (m_range : mg "range" = none) : FnG P w K mg base (xrS K) 1 f fd P__law_all_cells F__law_all_cells := by
  exact FnG.seal (fnG_pure Fd sc__law_all_cells rfl rfl fun cdv A outer s H E hr hG => (ds_cons (ds_set (i := 1) sc__law_all_cells.nd rfl (.inl rfl) (d_cel da_nil)) (ds_cons (ds_for (own := [2]) PassesOwn.never rfl (di_tup (d_tup (da_cons d_str (da_cons d_str (da_cons d_str da_nil))))) (pg_name (i := 2) sc__law_all_cells.nd rfl (.inl rfl)) (tg_name (by decide)) (ds_one (ds_for (own := [3]) PassesOwn.never rfl (di_rg2 (by rfl) m_range (da_cons (d_sub d_int (d_pv 0 (pv 0))) (da_cons (d_add (d_pv 0 (pv 0)) d_int) da_nil))) (pg_name (i := 3) sc__law_all_cells.nd rfl (.inl rfl)) (tg_name (by decide)) (ds_one (ds_expr (d_ext (d_pv 1 (pv 1)) (da_cons (d_lst (da_cons (d_tup (da_cons (d_pv 2 (pv 2)) (da_cons (d_pv 3 (pv 3)) (da_cons d_str da_nil)))) (da_cons (d_tup (da_cons (d_pv 2 (pv 2)) (da_cons (d_pv 3 (pv 3)) (da_cons d_str da_nil)))) da_nil))) da_nil))))))) (ds_one (ds_ret (d_pv 1 (pv 1)))))))
theorem kn__law_all_cells {f : Addr} {fd : FuncData} (Fd : FnT K "_law_all_cells" s__law_all_cells f fd) (g : mg "_law_all_cells" = some (.ref f)) (m_range : mg "range" = none) : Kn P w K mg base 1 "_law_all_cells" P__law_all_cells F__law_all_cells :=
  ⟨⟨f, fd, ok__law_all_cells Fd m_range, g, Fd.kp, FunD.bindsN Fd (fun _ _ _ _ _ _ us hl => match us, hl with | [_], _ => rfl), fnSeal_len fnP_len⟩⟩
/-! #### _law_is_number -/
abbrev s__law_is_number : Stmt := topS 31
abbrev N__law_is_number : List Str := ["_law_thing", "_law_low", "_law_high"]
theorem sc__law_is_number : FnScope N__law_is_number ["_law_thing", "_law_low", "_law_high"] (defScope s__law_is_number) := ⟨rfl, rfl, rfl, by decide +kernel, rfl, by decide +kernel, by decide +kernel⟩
def S__law_is_number : SF := (sSeq (sIf (bOr (bNot (bTru (eIsi "int" (eVar 0)))) (bTru (eIsi "bool" (eVar 0)))) (sRet (eC (.bl false))) sNil) (sRet (vAnd (vOr (e2 (Fis false) (eVar 1) (eC .non)) (e2 Fle (eVar 1) (eVar 0))) (vOr (e2 (Fis false) (eVar 2) (eC .non)) (e2 Fle (eVar 0) (eVar 2))))))
def F__law_is_number : FD := fnP 3 3 S__law_is_number
abbrev P__law_is_number : List Str := ["_law_thing", "_law_low", "_law_high"]
theorem ok__law_is_number {f : Addr} {fd : FuncData} (Fd : FnT K "_law_is_number" s__law_is_number f fd) (m_bool : mg "bool" = none) (m_int : mg "int" = none) (m_isinstance : mg "isinstance" = none) : FnG P w K mg base (xrS K) 1 f fd P__law_is_number F__law_is_number := by
  exact fnG_pure Fd sc__law_is_number rfl rfl fun cdv A outer s H E hr hG => (ds_cons (ds_if (PW.pt (dw_or (dt_not (dt_tru (d_isi (T := "int") (by rfl) m_isinstance (by rfl) m_int (by decide +kernel) (by decide) (d_pv 0 (pv 0))) (by intro _; rfl))) (dw_or1 (dt_tru (d_isi (T := "bool") (by rfl) m_isinstance (by rfl) m_bool (by decide +kernel) (by decide) (d_pv 0 (pv 0))) (by intro _; rfl))))) (ds_one (ds_ret d_bl)) ds_nil) (ds_one (ds_ret (d_and (d_or (d_is (d_pv 1 (pv 1)) d_non) (d_one (d_le (d_pv 1 (pv 1)) (d_pv 0 (pv 0))))) (d_one (d_or (d_is (d_pv 2 (pv 2)) d_non) (d_one (d_le (d_pv 0 (pv 0)) (d_pv 2 (pv 2))))))))))
theorem kn__law_is_number {f : Addr} {fd : FuncData} (Fd : FnT K "_law_is_number" s__law_is_number f fd) (g : mg "_law_is_number" = some (.ref f)) (m_bool : mg "bool" = none) (m_int : mg "int" = none) (m_isinstance : mg "isinstance" = none) : Kn P w K mg base 1 "_law_is_number" P__law_is_number F__law_is_number :=
  ⟨⟨f, fd, ok__law_is_number Fd m_bool m_int m_isinstance, g, Fd.kp, FunD.bindsN Fd (fun _ _ _ _ _ _ us hl => match us, hl with | [_, _, _], _ => rfl), fnP_len⟩⟩
/-! #### is_cell -/
abbrev s_is_cell : Stmt := topS 18
abbrev N_is_cell : List Str := ["value", "width"]
theorem sc_is_cell : FnScope N_is_cell ["value", "width"] (defScope s_is_cell) := ⟨rfl, rfl, rfl, by decide +kernel, rfl, by decide +kernel, by decide +kernel⟩
def S_is_cell : SF := (sSeq (sIf (bOr (bNot (bTru (eIsi "tuple" (eVar 0)))) (bOr (bOf (e2 (Feq true) (eCallB Flen (aCons (eVar 0) aNil)) (eC (.int 3)))) (bNot (bTru (eCall F_is_integer (aCons (e2 Fix (eVar 0) (eC (.int 1))) (aCons (e1 Fneg (eVar 1)) (aCons (eVar 1) aNil))) []))))) (sRet (eC (.bl false))) sNil) (sRet (vAnd (eCall F_is_one_of (aCons (e2 Fix (eVar 0) (eC (.int 0))) (aCons (eC (.tup [(.str "less"), (.str "more"), (.str "same")])) aNil)) []) (eCall F_is_one_of (aCons (e2 Fix (eVar 0) (eC (.int 2))) (aCons (eC (.tup [(.str "other"), (.str "same")])) aNil)) []))))
def F_is_cell : FD := fnP 2 2 S_is_cell
abbrev P_is_cell : List Str := ["value", "width"]
theorem ok_is_cell {f : Addr} {fd : FuncData} (Fd : FnT K "is_cell" s_is_cell f fd) (n_is_integer : Kn P w K mg base 1 "is_integer" P_is_integer F_is_integer) (n_is_one_of : Kn P w K mg base 1 "is_one_of" P_is_one_of F_is_one_of) (m_isinstance : mg "isinstance" = none) (m_len : mg "len" = none) (m_tuple : mg "tuple" = none) (c_CELL_PARTS : Cst K mg "CELL_PARTS" (.int 3)) (c_RELATIONS : Cst K mg "RELATIONS" (.tup [(.str "less"), (.str "more"), (.str "same")])) (c_SIZES : Cst K mg "SIZES" (.tup [(.str "other"), (.str "same")])) : FnG P w K mg base (xrS K) 2 f fd P_is_cell F_is_cell := by
  exact fnG_pure Fd sc_is_cell rfl rfl fun cdv A outer s H E hr hG => (ds_cons (ds_if (PW.pt (dw_or (dt_not (dt_tru (d_isi (T := "tuple") (by rfl) m_isinstance (by rfl) m_tuple (by decide +kernel) (by decide) (d_pv 0 (pv 0))) (by intro _; rfl))) (dw_or (dt_ne hr (d_cb call_len lift_len (by rfl) m_len (by decide +kernel) (da_cons (d_pv 0 (pv 0)) da_nil)) (d_cst (by rfl) c_CELL_PARTS)) (dw_or1 (dt_not (dt_tru (d_fn n_is_integer hr (by decide) hG (by rfl) (da_cons (d_ix (d_pv 0 (pv 0)) d_int (fun _ _ => rfl)) (da_cons (d_neg (d_pv 1 (pv 1))) (da_cons (d_pv 1 (pv 1)) da_nil))) nx_no) (by intro _; rfl))))))) (ds_one (ds_ret d_bl)) ds_nil) (ds_one (ds_ret (d_and (d_fn n_is_one_of hr (by decide) hG (by rfl) (da_cons (d_ix (d_pv 0 (pv 0)) d_int (fun _ _ => rfl)) (da_cons (d_cst (by rfl) c_RELATIONS) da_nil)) nx_no) (d_one (d_fn n_is_one_of hr (by decide) hG (by rfl) (da_cons (d_ix (d_pv 0 (pv 0)) d_int (fun _ _ => rfl)) (da_cons (d_cst (by rfl) c_SIZES) da_nil)) nx_no))))))
theorem kn_is_cell {f : Addr} {fd : FuncData} (Fd : FnT K "is_cell" s_is_cell f fd) (g : mg "is_cell" = some (.ref f)) (n_is_integer : Kn P w K mg base 1 "is_integer" P_is_integer F_is_integer) (n_is_one_of : Kn P w K mg base 1 "is_one_of" P_is_one_of F_is_one_of) (m_isinstance : mg "isinstance" = none) (m_len : mg "len" = none) (m_tuple : mg "tuple" = none) (c_CELL_PARTS : Cst K mg "CELL_PARTS" (.int 3)) (c_RELATIONS : Cst K mg "RELATIONS" (.tup [(.str "less"), (.str "more"), (.str "same")])) (c_SIZES : Cst K mg "SIZES" (.tup [(.str "other"), (.str "same")])) : Kn P w K mg base 2 "is_cell" P_is_cell F_is_cell :=
  ⟨⟨f, fd, ok_is_cell Fd n_is_integer n_is_one_of m_isinstance m_len m_tuple c_CELL_PARTS c_RELATIONS c_SIZES, g, Fd.kp, FunD.bindsN Fd (fun _ _ _ _ _ _ us hl => match us, hl with | [_, _], _ => rfl), fnP_len⟩⟩
/-! #### is_order -/
abbrev s_is_order : Stmt := topS 20
abbrev N_is_order : List Str := ["value", "step"]
theorem sc_is_order : FnScope N_is_order ["value"] (defScope s_is_order) := ⟨rfl, rfl, rfl, by decide +kernel, rfl, by decide +kernel, by decide +kernel⟩
def S_is_order : SF := (sRet (vAnd (eIsi "tuple" (eVar 0)) (vAnd (eCallB Fall (aCons (eSeal (eLC (iAny (eVar 0)) (fName 1) bYes (eIsi "str" (eVar 1)) [1])) aNil)) (e2 (Fin false) (eVar 0) (eCall F_orders aNil [])))))
def F_is_order : FD := fnP 2 1 S_is_order
abbrev P_is_order : List Str := ["value"]
theorem ok_is_order {f : Addr} {fd : FuncData} (Fd : FnT K "is_order" s_is_order f fd) (n_orders : Kn P w K mg base 1 "orders" P_orders F_orders) (m_all : mg "all" = none) (m_isinstance : mg "isinstance" = none) (m_str : mg "str" = none) (m_tuple : mg "tuple" = none) : FnG P w K mg base (xrS K) 2 f fd P_is_order F_is_order := by
  exact fnG_pure Fd sc_is_order rfl rfl fun cdv A outer s H E hr hG => (ds_one (ds_ret (d_and (d_isi (T := "tuple") (by rfl) m_isinstance (by rfl) m_tuple (by decide +kernel) (by decide) (d_pv 0 (pv 0))) (d_and (d_cb (cr_all rfl) lift_all (by rfl) m_all (by decide +kernel) (da_cons (d_seal (d_lc (own := [("step", 1)]) rfl sc_is_order.nd (di_any (d_pv 0 (pv 0))) (blkOk_by (N := N_is_order) (sc := defScope s_is_order) (own := [("step", 1)]) (by decide +kernel)) (fun _ _ _ _ _ => (pg_name (i := 1) sc_is_order.nd rfl (.inl rfl))) (tg_name (by decide)) (fun _ _ _ _ _ => dts_nil) (fun _ _ _ _ _ => (d_isi (T := "str") (by rfl) m_isinstance (by rfl) m_str (by decide +kernel) (by decide) (d_pv 1 (pv 1)))))) da_nil)) (d_one (d_in hr (d_pv 0 (pv 0)) (d_fn0 n_orders hr (by decide) hG (by rfl) nx_no)))))))
theorem kn_is_order {f : Addr} {fd : FuncData} (Fd : FnT K "is_order" s_is_order f fd) (g : mg "is_order" = some (.ref f)) (n_orders : Kn P w K mg base 1 "orders" P_orders F_orders) (m_all : mg "all" = none) (m_isinstance : mg "isinstance" = none) (m_str : mg "str" = none) (m_tuple : mg "tuple" = none) : Kn P w K mg base 2 "is_order" P_is_order F_is_order :=
  ⟨⟨f, fd, ok_is_order Fd n_orders m_all m_isinstance m_str m_tuple, g, Fd.kp, FunD.bindsN Fd (fun _ _ _ _ _ _ us hl => match us, hl with | [_], _ => rfl), fnP_len⟩⟩
/-! #### _law_pick -/
abbrev s__law_pick : Stmt := topS 25
abbrev N__law_pick : List Str := ["_law_pot_here", "_law_some_here"]
theorem sc__law_pick : FnScope N__law_pick ["_law_pot_here", "_law_some_here"] (defScope s__law_pick) := ⟨rfl, rfl, rfl, by decide +kernel, rfl, by decide +kernel, by decide +kernel⟩
def S__law_pick : SF := (sRet (e2 Fix (eVar 1) (eCall F__law_take (aCons (eVar 0) (aCons (eCallB Flen (aCons (eVar 1) aNil)) aNil)) [])))
def F__law_pick : FD := fnP 2 2 S__law_pick
abbrev P__law_pick : List Str := ["_law_pot_here", "_law_some_here"]
theorem ok__law_pick {f : Addr} {fd : FuncData} (Fd : FnT K "_law_pick" s__law_pick f fd) (n__law_take : Kn P w K mg base 1 "_law_take" P__law_take F__law_take) (m_len : mg "len" = none) : FnG P w K mg base (xrS K) 2 f fd P__law_pick F__law_pick := by
  exact fnG_pure Fd sc__law_pick rfl rfl fun cdv A outer s H E hr hG => (ds_one (ds_ret (d_ix (d_pv 1 (pv 1)) (d_fn n__law_take hr (by decide) hG (by rfl) (da_cons (d_pv 0 (pv 0)) (da_cons (d_cb call_len lift_len (by rfl) m_len (by decide +kernel) (da_cons (d_pv 1 (pv 1)) da_nil)) da_nil)) nx_no) (fun _ _ => rfl))))
theorem kn__law_pick {f : Addr} {fd : FuncData} (Fd : FnT K "_law_pick" s__law_pick f fd) (g : mg "_law_pick" = some (.ref f)) (n__law_take : Kn P w K mg base 1 "_law_take" P__law_take F__law_take) (m_len : mg "len" = none) : Kn P w K mg base 2 "_law_pick" P__law_pick F__law_pick :=
  ⟨⟨f, fd, ok__law_pick Fd n__law_take m_len, g, Fd.kp, FunD.bindsN Fd (fun _ _ _ _ _ _ us hl => match us, hl with | [_, _], _ => rfl), fnP_len⟩⟩
/-! #### _law_mixed -/
abbrev s__law_mixed : Stmt := topS 26
abbrev N__law_mixed : List Str := ["_law_pot_here", "_law_some_here", "_law_left", "_law_found"]
theorem sc__law_mixed : FnScope N__law_mixed ["_law_pot_here", "_law_some_here"] (defScope s__law_mixed) := ⟨rfl, rfl, rfl, by decide +kernel, rfl, by decide +kernel, by decide +kernel⟩
def B__law_mixed_1 : SF := (sDrop (eMeth isList Fapp (eVar 3) (aCons (eMeth isList FpopAt (eVar 2) (aCons (eCall F__law_take (aCons (eVar 0) (aCons (eCallB Flen (aCons (eVar 2) aNil)) aNil)) []) aNil)) aNil)))
def S__law_mixed : SF := (sSeq (sPar2 2 3 (aCons (eCallB FlistC (aCons (eVar 1) aNil)) (aCons (eCel aNil) aNil))) (sSeq (whileN (bOf (e2 (Feq true) (eVar 2) (eLst aNil))) B__law_mixed_1 1000000) (sRet (eVar 3))))
def F__law_mixed : FD := fnSeal (fnP 4 2 S__law_mixed)
abbrev P__law_mixed : List Str := ["_law_pot_here", "_law_some_here"]
theorem ok__law_mixed {f : Addr} {fd : FuncData} (Fd : FnT K "_law_mixed" s__law_mixed f fd) (n__law_take : Kn P w K mg base 1 "_law_take" P__law_take F__law_take) (m_len : mg "len" = none) (m_list : mg "list" = none) : FnG P w K mg base (xrS K) 2 f fd P__law_mixed F__law_mixed := by
  exact FnG.seal (fnG_pure Fd sc__law_mixed rfl rfl fun cdv A outer s H E hr hG => (ds_cons (ds_par2 (i := 2) (j := 3) rfl sc__law_mixed.nd rfl rfl (by decide) rfl rfl (da_cons (d_ct call_listD' lift_listC (by rfl) m_list (by decide +kernel) (da_cons (d_pv 1 (pv 1)) da_nil)) (da_cons (d_cel da_nil) da_nil)) (by rfl)) (ds_cons (ds_while 1000000 PassesOwn.never (dt_ne hr (d_pv 2 (pv 2)) (d_lst da_nil)) (ds_one (ds_expr (d_app (d_pv 3 (pv 3)) (da_cons (d_popAt (d_pv 2 (pv 2)) (da_cons (d_fn n__law_take hr (by decide) hG (by rfl) (da_cons (d_pv 0 (pv 0)) (da_cons (d_cb call_len lift_len (by rfl) m_len (by decide +kernel) (da_cons (d_pv 2 (pv 2)) da_nil)) da_nil)) nx_no) da_nil)) da_nil))))) (ds_one (ds_ret (d_pv 3 (pv 3)))))))
theorem kn__law_mixed {f : Addr} {fd : FuncData} (Fd : FnT K "_law_mixed" s__law_mixed f fd) (g : mg "_law_mixed" = some (.ref f)) (n__law_take : Kn P w K mg base 1 "_law_take" P__law_take F__law_take) (m_len : mg "len" = none) (m_list : mg "list" = none) : Kn P w K mg base 2 "_law_mixed" P__law_mixed F__law_mixed :=
  ⟨⟨f, fd, ok__law_mixed Fd n__law_take m_len m_list, g, Fd.kp, FunD.bindsN Fd (fun _ _ _ _ _ _ us hl => match us, hl with | [_, _], _ => rfl), fnSeal_len fnP_len⟩⟩
/-! #### _law_some -/
abbrev s__law_some : Stmt := topS 27
abbrev N__law_some : List Str := ["_law_pot_here", "_law_some_here", "_law_share", "_law_one"]
theorem sc__law_some : FnScope N__law_some ["_law_pot_here", "_law_some_here", "_law_share"] (defScope s__law_some) := ⟨rfl, rfl, rfl, by decide +kernel, rfl, by decide +kernel, by decide +kernel⟩
def S__law_some : SF := (sRet (eCallB Ftuple (aCons (eSeal (eLC (iAny (eVar 1)) (fName 3) (bOf (e2 (Feq false) (eCall F__law_take (aCons (eVar 0) (aCons (eVar 2) aNil)) []) (eC (.int 0)))) (eVar 3) [3])) aNil)))
def F__law_some : FD := fnP 4 3 S__law_some
abbrev P__law_some : List Str := ["_law_pot_here", "_law_some_here", "_law_share"]
theorem ok__law_some {f : Addr} {fd : FuncData} (Fd : FnT K "_law_some" s__law_some f fd) (n__law_take : Kn P w K mg base 1 "_law_take" P__law_take F__law_take) (m_tuple : mg "tuple" = none) : FnG P w K mg base (xrS K) 2 f fd P__law_some F__law_some := by
  exact fnG_pure Fd sc__law_some rfl rfl fun cdv A outer s H E hr hG => (ds_one (ds_ret (d_ct call_tupleD lift_tuple (by rfl) m_tuple (by decide +kernel) (da_cons (d_seal (d_lc (own := [("_law_one", 3)]) rfl sc__law_some.nd (di_any (d_pv 1 (pv 1))) (blkOk_by (N := N__law_some) (sc := defScope s__law_some) (own := [("_law_one", 3)]) (by decide +kernel)) (fun _ _ _ _ _ => (pg_name (i := 3) sc__law_some.nd rfl (.inl rfl))) (tg_name (by decide)) (fun _ _ _ _ _ => (dts_one (dt_eq hr (d_fn n__law_take hr (by decide) hG (by rfl) (da_cons (d_pv 0 (pv 0)) (da_cons (d_pv 2 (pv 2)) da_nil)) nx_no) d_int))) (fun _ _ _ _ _ => (d_pv 3 (pv 3))))) da_nil))))
theorem kn__law_some {f : Addr} {fd : FuncData} (Fd : FnT K "_law_some" s__law_some f fd) (g : mg "_law_some" = some (.ref f)) (n__law_take : Kn P w K mg base 1 "_law_take" P__law_take F__law_take) (m_tuple : mg "tuple" = none) : Kn P w K mg base 2 "_law_some" P__law_some F__law_some :=
  ⟨⟨f, fd, ok__law_some Fd n__law_take m_tuple, g, Fd.kp, FunD.bindsN Fd (fun _ _ _ _ _ _ us hl => match us, hl with | [_, _, _], _ => rfl), fnP_len⟩⟩
/-! #### _law_is_plan -/
abbrev s__law_is_plan : Stmt := topS 34
abbrev N__law_is_plan : List Str := ["_law_thing", "_law_known", "_law_step", "_law_one"]
theorem sc__law_is_plan : FnScope N__law_is_plan ["_law_thing"] (defScope s__law_is_plan) := ⟨rfl, rfl, rfl, by decide +kernel, rfl, by decide +kernel, by decide +kernel⟩
def S__law_is_plan_6 : SF := (sRet (e2 (Feq false) (eCallB Flist (aCons (e2 Fix (eVar 0) (eC (.int 3))) aNil)) (e1 FsetKT (e2 Fix (eVar 0) (eC (.int 3))))))
def S__law_is_plan_5 : SF := (sSeq (sIf (bNot (bTru (eCallB Fall (aCons (eSeal (eLC (iAny (e2 Fix (eVar 0) (eC (.int 3)))) (fName 3) bYes (e2 (Fin false) (eCallB FreprX (aCons (eVar 3) aNil)) (eVar 1)) [3])) aNil)))) (sRet (eC (.bl false))) sNil) S__law_is_plan_6)
def S__law_is_plan_4 : SF := (sSeq (sAsg 1 (eSeal (eLC (iAny (eCall F__law_all_cells (aCons (e2 Fix (eVar 0) (eC (.int 2))) aNil) [])) (fName 3) bYes (eCallB FreprX (aCons (eVar 3) aNil)) [3]))) S__law_is_plan_5)
def S__law_is_plan_3 : SF := (sSeq (sIf (bNot (bTru (eIsi "tuple" (e2 Fix (eVar 0) (eC (.int 3)))))) (sRet (eC (.bl false))) sNil) S__law_is_plan_4)
def S__law_is_plan_2 : SF := (sSeq (sIf (bOr (bOf (e2 (Fin true) (eCallB FreprX (aCons (e2 Fix (eVar 0) (eC (.int 1))) aNil)) (eTup (aCons (eCallB FreprX (aCons (eC (.str "write")) aNil)) (aCons (eCallB FreprX (aCons (eC (.str "change")) aNil)) aNil))))) (bNot (bTru (eCall F__law_is_number (aCons (e2 Fix (eVar 0) (eC (.int 2))) (aCons (eC (.int 1)) (aCons (eC (.int 6)) aNil))) [])))) (sRet (eC (.bl false))) sNil) S__law_is_plan_3)
def S__law_is_plan_1 : SF := (sSeq (sIf (bOr (bNot (bTru (eCallB Fall (aCons (eSeal (eLC (iAny (e2 Fix (eVar 0) (eC (.int 0)))) (fName 2) bYes (eIsi "str" (eVar 2)) [2])) aNil)))) (bOf (e2 (Feq true) (eCallB FsortSp (aCons (e2 Fix (eVar 0) (eC (.int 0))) aNil)) (eLst (aCons (eC (.str "note")) (aCons (eC (.str "read")) (aCons (eC (.str "stat")) aNil))))))) (sRet (eC (.bl false))) sNil) S__law_is_plan_2)
def S__law_is_plan : SF := (sSeq (sIf (bOr (bNot (bTru (eIsi "tuple" (eVar 0)))) (bOr (bOf (e2 (Feq true) (eCallB Flen (aCons (eVar 0) aNil)) (eC (.int 4)))) (bNot (bTru (eIsi "tuple" (e2 Fix (eVar 0) (eC (.int 0)))))))) (sRet (eC (.bl false))) sNil) S__law_is_plan_1)
def F__law_is_plan : FD := fnP 4 1 S__law_is_plan
abbrev P__law_is_plan : List Str := ["_law_thing"]
theorem ok__law_is_plan {f : Addr} {fd : FuncData} (Fd : FnT K "_law_is_plan" s__law_is_plan f fd) (n__law_all_cells : Kn P w K mg base 1 "_law_all_cells" P__law_all_cells F__law_all_cells) (n__law_is_number : Kn P w K mg base 1 "_law_is_number" P__law_is_number F__law_is_number) (sm_K : smB K = true) (m_all : mg "all" = none) (m_isinstance : mg "isinstance" = none) (m_len : mg "len" = none) (m_list : mg "list" = none) (m_repr : mg "repr" = none) (m_set : mg "set" = none) (m_sorted : mg "sorted" = none) (m_str : mg "str" = none) (m_tuple : mg "tuple" = none) : FnG P w K mg base (xrS K) 2 f fd P__law_is_plan F__law_is_plan := by
  exact fnG_pure Fd sc__law_is_plan rfl rfl fun cdv A outer s H E hr hG => (ds_cons (ds_if (PW.pt (dw_or (dt_not (dt_tru (d_isi (T := "tuple") (by rfl) m_isinstance (by rfl) m_tuple (by decide +kernel) (by decide) (d_pv 0 (pv 0))) (by intro _; rfl))) (dw_or (dt_ne hr (d_cb call_len lift_len (by rfl) m_len (by decide +kernel) (da_cons (d_pv 0 (pv 0)) da_nil)) d_int) (dw_or1 (dt_not (dt_tru (d_isi (T := "tuple") (by rfl) m_isinstance (by rfl) m_tuple (by decide +kernel) (by decide) (d_ix (d_pv 0 (pv 0)) d_int (fun _ _ => rfl))) (by intro _; rfl))))))) (ds_one (ds_ret d_bl)) ds_nil) (ds_cons (ds_if (PW.pt (dw_or (dt_not (dt_tru (d_cb (cr_all rfl) lift_all (by rfl) m_all (by decide +kernel) (da_cons (d_seal (d_lc (own := [("_law_step", 2)]) rfl sc__law_is_plan.nd (di_any (d_ix (d_pv 0 (pv 0)) d_int (fun _ _ => rfl))) (blkOk_by (N := N__law_is_plan) (sc := defScope s__law_is_plan) (own := [("_law_step", 2)]) (by decide +kernel)) (fun _ _ _ _ _ => (pg_name (i := 2) sc__law_is_plan.nd rfl (.inl rfl))) (tg_name (by decide)) (fun _ _ _ _ _ => dts_nil) (fun _ _ _ _ _ => (d_isi (T := "str") (by rfl) m_isinstance (by rfl) m_str (by decide +kernel) (by decide) (d_pv 2 (pv 2)))))) da_nil)) (by intro _; rfl))) (dw_or1 (dt_ne hr (d_cb (call_sortTp hr.units) lift_sortSp (by rfl) m_sorted (by decide +kernel) (da_cons (d_ix (d_pv 0 (pv 0)) d_int (fun _ _ => rfl)) da_nil)) (d_lst (da_cons d_str (da_cons d_str (da_cons d_str da_nil)))))))) (ds_one (ds_ret d_bl)) ds_nil) (ds_cons (ds_if (PW.pt (dw_or (dt_notin hr (d_cb (call_reprX sm_K hG (units65 hr)) lift_reprX (by rfl) m_repr (by decide +kernel) (da_cons (d_ix (d_pv 0 (pv 0)) d_int (fun _ _ => rfl)) da_nil)) (d_tup (da_cons (d_cb (call_reprX sm_K hG (units65 hr)) lift_reprX (by rfl) m_repr (by decide +kernel) (da_cons d_str da_nil)) (da_cons (d_cb (call_reprX sm_K hG (units65 hr)) lift_reprX (by rfl) m_repr (by decide +kernel) (da_cons d_str da_nil)) da_nil)))) (dw_or1 (dt_not (dt_tru (d_fn n__law_is_number hr (by decide) hG (by rfl) (da_cons (d_ix (d_pv 0 (pv 0)) d_int (fun _ _ => rfl)) (da_cons d_int (da_cons d_int da_nil))) nx_no) (by intro _; rfl)))))) (ds_one (ds_ret d_bl)) ds_nil) (ds_cons (ds_if (dt_not (dt_tru (d_isi (T := "tuple") (by rfl) m_isinstance (by rfl) m_tuple (by decide +kernel) (by decide) (d_ix (d_pv 0 (pv 0)) d_int (fun _ _ => rfl))) (by intro _; rfl))) (ds_one (ds_ret d_bl)) ds_nil) (ds_cons (ds_set (i := 1) sc__law_is_plan.nd rfl (.inr rfl) (d_seal (d_lc (own := [("_law_one", 3)]) rfl sc__law_is_plan.nd (di_any (d_fn n__law_all_cells hr (by decide) hG (by rfl) (da_cons (d_ix (d_pv 0 (pv 0)) d_int (fun _ _ => rfl)) da_nil) nx_no)) (blkOk_by (N := N__law_is_plan) (sc := defScope s__law_is_plan) (own := [("_law_one", 3)]) (by decide +kernel)) (fun _ _ _ _ _ => (pg_name (i := 3) sc__law_is_plan.nd rfl (.inl rfl))) (tg_name (by decide)) (fun _ _ _ _ _ => dts_nil) (fun _ _ _ _ _ => (d_cb (call_reprX sm_K hG (units65 hr)) lift_reprX (by rfl) m_repr (by decide +kernel) (da_cons (d_pv 3 (pv 3)) da_nil)))))) (ds_cons (ds_if (dt_not (dt_tru (d_cb (cr_all rfl) lift_all (by rfl) m_all (by decide +kernel) (da_cons (d_seal (d_lc (own := [("_law_one", 3)]) rfl sc__law_is_plan.nd (di_any (d_ix (d_pv 0 (pv 0)) d_int (fun _ _ => rfl))) (blkOk_by (N := N__law_is_plan) (sc := defScope s__law_is_plan) (own := [("_law_one", 3)]) (by decide +kernel)) (fun _ _ _ _ _ => (pg_name (i := 3) sc__law_is_plan.nd rfl (.inl rfl))) (tg_name (by decide)) (fun _ _ _ _ _ => dts_nil) (fun _ _ _ _ _ => (d_in hr (d_cb (call_reprX sm_K hG (units65 hr)) lift_reprX (by rfl) m_repr (by decide +kernel) (da_cons (d_pv 3 (pv 3)) da_nil)) (d_pv 1 (pv 1)))))) da_nil)) (by intro _; rfl))) (ds_one (ds_ret d_bl)) ds_nil) (ds_one (ds_ret (d_eq hr (d_ct call_listD' lift_list (by rfl) m_list (by decide +kernel) (da_cons (d_ix (d_pv 0 (pv 0)) d_int (fun _ _ => rfl)) da_nil)) (d_setKT hr.units (by rfl) m_sorted (by rfl) m_set (d_ix (d_pv 0 (pv 0)) d_int (fun _ _ => rfl))))))))))))
theorem kn__law_is_plan {f : Addr} {fd : FuncData} (Fd : FnT K "_law_is_plan" s__law_is_plan f fd) (g : mg "_law_is_plan" = some (.ref f)) (n__law_all_cells : Kn P w K mg base 1 "_law_all_cells" P__law_all_cells F__law_all_cells) (n__law_is_number : Kn P w K mg base 1 "_law_is_number" P__law_is_number F__law_is_number) (sm_K : smB K = true) (m_all : mg "all" = none) (m_isinstance : mg "isinstance" = none) (m_len : mg "len" = none) (m_list : mg "list" = none) (m_repr : mg "repr" = none) (m_set : mg "set" = none) (m_sorted : mg "sorted" = none) (m_str : mg "str" = none) (m_tuple : mg "tuple" = none) : Kn P w K mg base 2 "_law_is_plan" P__law_is_plan F__law_is_plan :=
  ⟨⟨f, fd, ok__law_is_plan Fd n__law_all_cells n__law_is_number sm_K m_all m_isinstance m_len m_list m_repr m_set m_sorted m_str m_tuple, g, Fd.kp, FunD.bindsN Fd (fun _ _ _ _ _ _ us hl => match us, hl with | [_], _ => rfl), fnP_len⟩⟩
/-! #### is_policy -/
abbrev s_is_policy : Stmt := topS 21
abbrev N_is_policy : List Str := ["value", "order", "kind", "width", "table", "cell"]
theorem sc_is_policy : FnScope N_is_policy ["value"] (defScope s_is_policy) := ⟨rfl, rfl, rfl, by decide +kernel, rfl, by decide +kernel, by decide +kernel⟩
def S_is_policy : SF := (sSeq (sIf (bOr (bNot (bTru (eIsi "tuple" (eVar 0)))) (bOf (e2 (Feq true) (eCallB Flen (aCons (eVar 0) aNil)) (eC (.int 4))))) (sRet (eC (.bl false))) sNil) (sSeq (sUnp [1, 2, 3, 4] (eVar 0)) (sSeq (sIf (bOr (bNot (bTru (eCall F_is_order (aCons (eVar 1) aNil) []))) (bOr (bNot (bTru (eCall F_is_one_of (aCons (eVar 2) (aCons (eC (.tup [(.str "change"), (.str "write")])) aNil)) []))) (bNot (bTru (eCall F_is_integer (aCons (eVar 3) (aCons (eC (.int 1)) (aCons (eC (.int 6)) aNil))) []))))) (sRet (eC (.bl false))) sNil) (sRet (vAnd (eIsi "tuple" (eVar 4)) (vAnd (eCallB Fall (aCons (eSeal (eLC (iAny (eVar 4)) (fName 5) bYes (eCall F_is_cell (aCons (eVar 5) (aCons (eVar 3) aNil)) []) [5])) aNil)) (eCall F_ascends (aCons (eVar 4) aNil) [])))))))
def F_is_policy : FD := fnP 6 1 S_is_policy
abbrev P_is_policy : List Str := ["value"]
theorem ok_is_policy {f : Addr} {fd : FuncData} (Fd : FnT K "is_policy" s_is_policy f fd) (n_ascends : Kn P w K mg base 1 "ascends" P_ascends F_ascends) (n_is_cell : Kn P w K mg base 2 "is_cell" P_is_cell F_is_cell) (n_is_integer : Kn P w K mg base 1 "is_integer" P_is_integer F_is_integer) (n_is_one_of : Kn P w K mg base 1 "is_one_of" P_is_one_of F_is_one_of) (n_is_order : Kn P w K mg base 2 "is_order" P_is_order F_is_order) (m_all : mg "all" = none) (m_isinstance : mg "isinstance" = none) (m_len : mg "len" = none) (m_tuple : mg "tuple" = none) (c_KINDS : Cst K mg "KINDS" (.tup [(.str "change"), (.str "write")])) (c_MOST_WIDTH : Cst K mg "MOST_WIDTH" (.int 6)) (c_PARTS : Cst K mg "PARTS" (.int 4)) : FnG P w K mg base (xrS K) 3 f fd P_is_policy F_is_policy := by
  exact fnG_pure Fd sc_is_policy rfl rfl fun cdv A outer s H E hr hG => (ds_cons (ds_if (PW.pt (dw_or (dt_not (dt_tru (d_isi (T := "tuple") (by rfl) m_isinstance (by rfl) m_tuple (by decide +kernel) (by decide) (d_pv 0 (pv 0))) (by intro _; rfl))) (dw_or1 (dt_ne hr (d_cb call_len lift_len (by rfl) m_len (by decide +kernel) (da_cons (d_pv 0 (pv 0)) da_nil)) (d_cst (by rfl) c_PARTS))))) (ds_one (ds_ret d_bl)) ds_nil) (ds_cons (ds_unp (own := [1, 2, 3, 4]) (d_pv 0 (pv 0)) (pg_tup rfl (pgs_cons (pg_name (i := 1) sc_is_policy.nd rfl (.inl rfl)) (pgs_cons (pg_name (i := 2) sc_is_policy.nd rfl (.inl rfl)) (pgs_cons (pg_name (i := 3) sc_is_policy.nd rfl (.inr rfl)) (pgs_cons (pg_name (i := 4) sc_is_policy.nd rfl (.inl rfl)) pgs_nil))))) (tg_tup (is := [1, 2, 3, 4]) rfl (by decide))) (ds_cons (ds_if (PW.pt (dw_or (dt_not (dt_tru (d_fn n_is_order hr (by decide) hG (by rfl) (da_cons (d_pv 1 (pv 1)) da_nil) nx_no) (by intro _; rfl))) (dw_or (dt_not (dt_tru (d_fn n_is_one_of hr (by decide) hG (by rfl) (da_cons (d_pv 2 (pv 2)) (da_cons (d_cst (by rfl) c_KINDS) da_nil)) nx_no) (by intro _; rfl))) (dw_or1 (dt_not (dt_tru (d_fn n_is_integer hr (by decide) hG (by rfl) (da_cons (d_pv 3 (pv 3)) (da_cons d_int (da_cons (d_cst (by rfl) c_MOST_WIDTH) da_nil))) nx_no) (by intro _; rfl))))))) (ds_one (ds_ret d_bl)) ds_nil) (ds_one (ds_ret (d_and (d_isi (T := "tuple") (by rfl) m_isinstance (by rfl) m_tuple (by decide +kernel) (by decide) (d_pv 4 (pv 4))) (d_and (d_cb (cr_all rfl) lift_all (by rfl) m_all (by decide +kernel) (da_cons (d_seal (d_lc (own := [("cell", 5)]) rfl sc_is_policy.nd (di_any (d_pv 4 (pv 4))) (blkOk_by (N := N_is_policy) (sc := defScope s_is_policy) (own := [("cell", 5)]) (by decide +kernel)) (fun _ _ _ _ _ => (pg_name (i := 5) sc_is_policy.nd rfl (.inl rfl))) (tg_name (by decide)) (fun _ _ _ _ _ => dts_nil) (fun _ _ _ _ _ => (d_fn n_is_cell hr (by decide) hG (by rfl) (da_cons (d_pv 5 (pv 5)) (da_cons (d_pv 3 (pv 3)) da_nil)) nx_no)))) da_nil)) (d_one (d_fn n_ascends hr (by decide) hG (by rfl) (da_cons (d_pv 4 (pv 4)) da_nil) nx_no)))))))))
theorem kn_is_policy {f : Addr} {fd : FuncData} (Fd : FnT K "is_policy" s_is_policy f fd) (g : mg "is_policy" = some (.ref f)) (n_ascends : Kn P w K mg base 1 "ascends" P_ascends F_ascends) (n_is_cell : Kn P w K mg base 2 "is_cell" P_is_cell F_is_cell) (n_is_integer : Kn P w K mg base 1 "is_integer" P_is_integer F_is_integer) (n_is_one_of : Kn P w K mg base 1 "is_one_of" P_is_one_of F_is_one_of) (n_is_order : Kn P w K mg base 2 "is_order" P_is_order F_is_order) (m_all : mg "all" = none) (m_isinstance : mg "isinstance" = none) (m_len : mg "len" = none) (m_tuple : mg "tuple" = none) (c_KINDS : Cst K mg "KINDS" (.tup [(.str "change"), (.str "write")])) (c_MOST_WIDTH : Cst K mg "MOST_WIDTH" (.int 6)) (c_PARTS : Cst K mg "PARTS" (.int 4)) : Kn P w K mg base 3 "is_policy" P_is_policy F_is_policy :=
  ⟨⟨f, fd, ok_is_policy Fd n_ascends n_is_cell n_is_integer n_is_one_of n_is_order m_all m_isinstance m_len m_tuple c_KINDS c_MOST_WIDTH c_PARTS, g, Fd.kp, FunD.bindsN Fd (fun _ _ _ _ _ _ us hl => match us, hl with | [_], _ => rfl), fnP_len⟩⟩
/-! #### _law_order_here -/
abbrev s__law_order_here : Stmt := topS 28
abbrev N__law_order_here : List Str := ["_law_pot_here"]
theorem sc__law_order_here : FnScope N__law_order_here ["_law_pot_here"] (defScope s__law_order_here) := ⟨rfl, rfl, rfl, by decide +kernel, rfl, by decide +kernel, by decide +kernel⟩
def S__law_order_here : SF := (sRet (eCallB Ftuple (aCons (eCall F__law_mixed (aCons (eVar 0) (aCons (eLst (aCons (eC (.str "note")) (aCons (eC (.str "read")) (aCons (eC (.str "stat")) aNil)))) aNil)) []) aNil)))
def F__law_order_here : FD := fnP 1 1 S__law_order_here
abbrev P__law_order_here : List Str := ["_law_pot_here"]
theorem ok__law_order_here {f : Addr} {fd : FuncData} (Fd : FnT K "_law_order_here" s__law_order_here f fd) (n__law_mixed : Kn P w K mg base 2 "_law_mixed" P__law_mixed F__law_mixed) (m_tuple : mg "tuple" = none) : FnG P w K mg base (xrS K) 3 f fd P__law_order_here F__law_order_here := by
  exact fnG_pure Fd sc__law_order_here rfl rfl fun cdv A outer s H E hr hG => (ds_one (ds_ret (d_ct call_tupleD lift_tuple (by rfl) m_tuple (by decide +kernel) (da_cons (d_fn n__law_mixed hr (by decide) hG (by rfl) (da_cons (d_pv 0 (pv 0)) (da_cons (d_lst (da_cons d_str (da_cons d_str (da_cons d_str da_nil)))) da_nil)) nx_no) da_nil))))
theorem kn__law_order_here {f : Addr} {fd : FuncData} (Fd : FnT K "_law_order_here" s__law_order_here f fd) (g : mg "_law_order_here" = some (.ref f)) (n__law_mixed : Kn P w K mg base 2 "_law_mixed" P__law_mixed F__law_mixed) (m_tuple : mg "tuple" = none) : Kn P w K mg base 3 "_law_order_here" P__law_order_here F__law_order_here :=
  ⟨⟨f, fd, ok__law_order_here Fd n__law_mixed m_tuple, g, Fd.kp, FunD.bindsN Fd (fun _ _ _ _ _ _ us hl => match us, hl with | [_], _ => rfl), fnP_len⟩⟩
/-! #### _law_odd -/
abbrev s__law_odd : Stmt := topS 32
abbrev N__law_odd : List Str := ["_law_pot_here", "_law_part", "_law_some_here", "_law_changed"]
theorem sc__law_odd : FnScope N__law_odd ["_law_pot_here", "_law_part"] (defScope s__law_odd) := ⟨rfl, rfl, rfl, by decide +kernel, rfl, by decide +kernel, by decide +kernel⟩
def S__law_odd_2 : SF := (sRet (eCall F__law_pick (aCons (eVar 0) (aCons (eVar 2) aNil)) []))
def S__law_odd_1 : SF := (sSeq (sIf (bTru (eIsi "tuple" (eVar 1))) (sSeq (sAsg 3 (eLst (aCons (eCallB Flist (aCons (eVar 1) aNil)) (aCons (eCut (eVar 1) oNone (oSome (e1 Fneg (eC (.int 1))))) (aCons (eCut (eVar 1) (oSome (eC (.int 1))) oNone) (aCons (e2 Fadd (eVar 1) (eCut (eVar 1) (oSome (e1 Fneg (eC (.int 1)))) oNone)) (aCons (e1 Frev (eVar 1)) (aCons (eTup (aCons (eVar 1) aNil)) (aCons (e2 Fadd (eVar 1) (eTup (aCons (eC (.int 0)) aNil))) aNil))))))))) (sAsg 2 (e2 Fadd (eCut (eVar 2) oNone (oSome (eC (.int 6)))) (e2 Fmul (eVar 3) (eC (.int 2)))))) (sIf (bTru (eIsi "str" (eVar 1))) (sSeq (sAsg 2 (e2 Fadd (eCut (eVar 2) oNone (oSome (eC (.int 6)))) (eLst (aCons (e2 Fadd (eVar 1) (eC (.str "x"))) (aCons (eCut (eVar 1) oNone (oSome (e1 Fneg (eC (.int 1))))) (aCons (e1 Fupper (eVar 1)) (aCons (eTup (aCons (eVar 1) aNil)) (aCons (eC (.str "less")) (aCons (eC (.str "more")) (aCons (eC (.str "other")) aNil)))))))))) (sAsg 2 (e2 Fadd (eVar 2) (eLst (aCons (eC (.str "stat")) (aCons (eC (.str "copy")) (aCons (eC (.str "look")) aNil))))))) (sIf (bTru (eIsi "int" (eVar 1))) (sAsg 2 (e2 Fadd (eCut (eVar 2) oNone (oSome (eC (.int 9)))) (e2 Fmul (eLst (aCons (e2 Fadd (eVar 1) (eC (.int 1))) (aCons (e2 Fsub (eVar 1) (eC (.int 1))) (aCons (e1 Fneg (eVar 1)) (aCons (eCallB Fstr (aCons (eVar 1) aNil)) (aCons (e2 (Feq false) (eVar 1) (eC (.int 1))) (aCons (eTup (aCons (eVar 1) aNil)) aNil))))))) (eC (.int 2))))) sNil))) S__law_odd_2)
def S__law_odd : SF := (sSeq (sAsg 2 (eLst (aCons (eC .non) (aCons (eC (.bl true)) (aCons (eC (.bl false)) (aCons (eC (.int 0)) (aCons (eC (.int 1)) (aCons (e1 Fneg (eC (.int 1))) (aCons (eC (.int 5)) (aCons (e2 Fpow (eC (.int 10)) (eC (.int 30))) (aCons (eC (.str "")) (aCons (eC (.str "a")) (aCons (eC (.str "same")) (aCons (eC (.str "note")) (aCons (eC (.str "write")) (aCons (eTup aNil) (aCons (eLst aNil) (aCons eDNew (aCons (eTup (aCons (eC (.int 0)) aNil)) aNil))))))))))))))))))) S__law_odd_1)
def F__law_odd : FD := fnP 4 2 S__law_odd
abbrev P__law_odd : List Str := ["_law_pot_here", "_law_part"]
theorem ok__law_odd {f : Addr} {fd : FuncData} (Fd : FnT K "_law_odd" s__law_odd f fd) (n__law_pick : Kn P w K mg base 2 "_law_pick" P__law_pick F__law_pick) (m_int : mg "int" = none) (m_isinstance : mg "isinstance" = none) (m_list : mg "list" = none) (m_str : mg "str" = none) (m_tuple : mg "tuple" = none) : FnG P w K mg base (xrS K) 3 f fd P__law_odd F__law_odd := by
  exact fnG_pure Fd sc__law_odd rfl rfl fun cdv A outer s H E hr hG => (ds_cons (ds_set (i := 2) sc__law_odd.nd rfl (.inl rfl) (d_lst (da_cons d_non (da_cons d_bl (da_cons d_bl (da_cons d_int (da_cons d_int (da_cons (d_neg d_int) (da_cons d_int (da_cons (d_pow d_int d_int) (da_cons d_str (da_cons d_str (da_cons d_str (da_cons d_str (da_cons d_str (da_cons (d_tup da_nil) (da_cons (d_lst da_nil) (da_cons d_dnew (da_cons (d_tup (da_cons d_int da_nil)) da_nil))))))))))))))))))) (ds_cons (ds_if (dt_tru (d_isi (T := "tuple") (by rfl) m_isinstance (by rfl) m_tuple (by decide +kernel) (by decide) (d_pv 1 (pv 1))) (by intro _; rfl)) (ds_cons (ds_set (i := 3) sc__law_odd.nd rfl (.inl rfl) (d_lst (da_cons (d_ct call_listD' lift_list (by rfl) m_list (by decide +kernel) (da_cons (d_pv 1 (pv 1)) da_nil)) (da_cons (d_cut (d_pv 1 (pv 1)) po_n (po_s (d_neg d_int))) (da_cons (d_cut (d_pv 1 (pv 1)) (po_s d_int) po_n) (da_cons (d_add (d_pv 1 (pv 1)) (d_cut (d_pv 1 (pv 1)) (po_s (d_neg d_int)) po_n)) (da_cons (d_rev (d_pv 1 (pv 1))) (da_cons (d_tup (da_cons (d_pv 1 (pv 1)) da_nil)) (da_cons (d_add (d_pv 1 (pv 1)) (d_tup (da_cons d_int da_nil))) da_nil))))))))) (ds_one (ds_set (i := 2) sc__law_odd.nd rfl (.inl rfl) (d_add (d_cut (d_pv 2 (pv 2)) po_n (po_s d_int)) (d_mul (d_pv 3 (pv 3)) d_int))))) (ds_one (ds_if (dt_tru (d_isi (T := "str") (by rfl) m_isinstance (by rfl) m_str (by decide +kernel) (by decide) (d_pv 1 (pv 1))) (by intro _; rfl)) (ds_cons (ds_set (i := 2) sc__law_odd.nd rfl (.inl rfl) (d_add (d_cut (d_pv 2 (pv 2)) po_n (po_s d_int)) (d_lst (da_cons (d_add (d_pv 1 (pv 1)) d_str) (da_cons (d_cut (d_pv 1 (pv 1)) po_n (po_s (d_neg d_int))) (da_cons (d_upper (d_pv 1 (pv 1))) (da_cons (d_tup (da_cons (d_pv 1 (pv 1)) da_nil)) (da_cons d_str (da_cons d_str (da_cons d_str da_nil)))))))))) (ds_one (ds_set (i := 2) sc__law_odd.nd rfl (.inl rfl) (d_add (d_pv 2 (pv 2)) (d_lst (da_cons d_str (da_cons d_str (da_cons d_str da_nil)))))))) (ds_one (ds_if (dt_tru (d_isi (T := "int") (by rfl) m_isinstance (by rfl) m_int (by decide +kernel) (by decide) (d_pv 1 (pv 1))) (by intro _; rfl)) (ds_one (ds_set (i := 2) sc__law_odd.nd rfl (.inl rfl) (d_add (d_cut (d_pv 2 (pv 2)) po_n (po_s d_int)) (d_mul (d_lst (da_cons (d_add (d_pv 1 (pv 1)) d_int) (da_cons (d_sub (d_pv 1 (pv 1)) d_int) (da_cons (d_neg (d_pv 1 (pv 1))) (da_cons (d_ct call_strD lift_str (by rfl) m_str (by decide +kernel) (da_cons (d_pv 1 (pv 1)) da_nil)) (da_cons (d_eq hr (d_pv 1 (pv 1)) d_int) (da_cons (d_tup (da_cons (d_pv 1 (pv 1)) da_nil)) da_nil))))))) d_int)))) ds_nil))))) (ds_one (ds_ret (d_fn n__law_pick hr (by decide) hG (by rfl) (da_cons (d_pv 0 (pv 0)) (da_cons (d_pv 2 (pv 2)) da_nil)) nx_no)))))
theorem kn__law_odd {f : Addr} {fd : FuncData} (Fd : FnT K "_law_odd" s__law_odd f fd) (g : mg "_law_odd" = some (.ref f)) (n__law_pick : Kn P w K mg base 2 "_law_pick" P__law_pick F__law_pick) (m_int : mg "int" = none) (m_isinstance : mg "isinstance" = none) (m_list : mg "list" = none) (m_str : mg "str" = none) (m_tuple : mg "tuple" = none) : Kn P w K mg base 3 "_law_odd" P__law_odd F__law_odd :=
  ⟨⟨f, fd, ok__law_odd Fd n__law_pick m_int m_isinstance m_list m_str m_tuple, g, Fd.kp, FunD.bindsN Fd (fun _ _ _ _ _ _ us hl => match us, hl with | [_, _], _ => rfl), fnP_len⟩⟩
/-! #### _law_plan -/
abbrev s__law_plan : Stmt := topS 30
abbrev N__law_plan : List Str := ["_law_pot_here", "_law_wide", "_law_table", "_law_kind"]
theorem sc__law_plan : FnScope N__law_plan ["_law_pot_here"] (defScope s__law_plan) := ⟨rfl, rfl, rfl, by decide +kernel, rfl, by decide +kernel, by decide +kernel⟩
def S__law_plan : SF := (sSeq (sAsg 1 (e2 Fadd (eC (.int 1)) (eCall F__law_take (aCons (eVar 0) (aCons (eC (.int 6)) aNil)) []))) (sSeq (sAsg 2 (eCall F__law_some (aCons (eVar 0) (aCons (eCall F__law_all_cells (aCons (eVar 1) aNil) []) (aCons (eCall F__law_pick (aCons (eVar 0) (aCons (eLst (aCons (eC (.int 1)) (aCons (eC (.int 2)) (aCons (eC (.int 3)) (aCons (eC (.int 9)) aNil))))) aNil)) []) aNil))) [])) (sSeq (sAsg 3 (eCall F__law_pick (aCons (eVar 0) (aCons (eLst (aCons (eC (.str "write")) (aCons (eC (.str "change")) aNil))) aNil)) [])) (sRet (eTup (aCons (eCall F__law_order_here (aCons (eVar 0) aNil) []) (aCons (eVar 3) (aCons (eVar 1) (aCons (eCall F__law_pick (aCons (eVar 0) (aCons (eLst (aCons (eVar 2) (aCons (eVar 2) (aCons (eVar 2) (aCons (eTup aNil) aNil))))) aNil)) []) aNil)))))))))
def F__law_plan : FD := fnP 4 1 S__law_plan
abbrev P__law_plan : List Str := ["_law_pot_here"]
theorem ok__law_plan {f : Addr} {fd : FuncData} (Fd : FnT K "_law_plan" s__law_plan f fd) (n__law_all_cells : Kn P w K mg base 1 "_law_all_cells" P__law_all_cells F__law_all_cells) (n__law_order_here : Kn P w K mg base 3 "_law_order_here" P__law_order_here F__law_order_here) (n__law_pick : Kn P w K mg base 2 "_law_pick" P__law_pick F__law_pick) (n__law_some : Kn P w K mg base 2 "_law_some" P__law_some F__law_some) (n__law_take : Kn P w K mg base 1 "_law_take" P__law_take F__law_take) : FnG P w K mg base (xrS K) 4 f fd P__law_plan F__law_plan := by
  exact fnG_pure Fd sc__law_plan rfl rfl fun cdv A outer s H E hr hG => (ds_cons (ds_set (i := 1) sc__law_plan.nd rfl (.inl rfl) (d_add d_int (d_fn n__law_take hr (by decide) hG (by rfl) (da_cons (d_pv 0 (pv 0)) (da_cons d_int da_nil)) nx_no))) (ds_cons (ds_set (i := 2) sc__law_plan.nd rfl (.inl rfl) (d_fn n__law_some hr (by decide) hG (by rfl) (da_cons (d_pv 0 (pv 0)) (da_cons (d_fn n__law_all_cells hr (by decide) hG (by rfl) (da_cons (d_pv 1 (pv 1)) da_nil) nx_no) (da_cons (d_fn n__law_pick hr (by decide) hG (by rfl) (da_cons (d_pv 0 (pv 0)) (da_cons (d_lst (da_cons d_int (da_cons d_int (da_cons d_int (da_cons d_int da_nil))))) da_nil)) nx_no) da_nil))) nx_no)) (ds_cons (ds_set (i := 3) sc__law_plan.nd rfl (.inl rfl) (d_fn n__law_pick hr (by decide) hG (by rfl) (da_cons (d_pv 0 (pv 0)) (da_cons (d_lst (da_cons d_str (da_cons d_str da_nil))) da_nil)) nx_no)) (ds_one (ds_ret (d_tup (da_cons (d_fn n__law_order_here hr (by decide) hG (by rfl) (da_cons (d_pv 0 (pv 0)) da_nil) nx_no) (da_cons (d_pv 3 (pv 3)) (da_cons (d_pv 1 (pv 1)) (da_cons (d_fn n__law_pick hr (by decide) hG (by rfl) (da_cons (d_pv 0 (pv 0)) (da_cons (d_lst (da_cons (d_pv 2 (pv 2)) (da_cons (d_pv 2 (pv 2)) (da_cons (d_pv 2 (pv 2)) (da_cons (d_tup da_nil) da_nil))))) da_nil)) nx_no) da_nil))))))))))
theorem kn__law_plan {f : Addr} {fd : FuncData} (Fd : FnT K "_law_plan" s__law_plan f fd) (g : mg "_law_plan" = some (.ref f)) (n__law_all_cells : Kn P w K mg base 1 "_law_all_cells" P__law_all_cells F__law_all_cells) (n__law_order_here : Kn P w K mg base 3 "_law_order_here" P__law_order_here F__law_order_here) (n__law_pick : Kn P w K mg base 2 "_law_pick" P__law_pick F__law_pick) (n__law_some : Kn P w K mg base 2 "_law_some" P__law_some F__law_some) (n__law_take : Kn P w K mg base 1 "_law_take" P__law_take F__law_take) : Kn P w K mg base 4 "_law_plan" P__law_plan F__law_plan :=
  ⟨⟨f, fd, ok__law_plan Fd n__law_all_cells n__law_order_here n__law_pick n__law_some n__law_take, g, Fd.kp, FunD.bindsN Fd (fun _ _ _ _ _ _ us hl => match us, hl with | [_], _ => rfl), fnP_len⟩⟩
/-! #### _law_asked -/
abbrev s__law_asked : Stmt := topS 35
abbrev N__law_asked : List Str := ["_law_thing", "_law_kept", "_law_due"]
theorem sc__law_asked : FnScope N__law_asked ["_law_thing"] (defScope s__law_asked) := ⟨rfl, rfl, rfl, by decide +kernel, rfl, by decide +kernel, by decide +kernel⟩
def S__law_asked_1 : SF := (sRet (vAnd (e2 (Feq false) (eCallB FreprX (aCons (eCall F_is_policy (aCons (eVar 0) aNil) []) aNil)) (eVar 2)) (e2 (Feq false) (eCallB FreprX (aCons (eVar 0) aNil)) (eVar 1))))
def S__law_asked : SF := (sSeq (sPar2 1 2 (aCons (eCallB FreprX (aCons (eVar 0) aNil)) (aCons (eCallB FreprX (aCons (eCall F__law_is_plan (aCons (eVar 0) aNil) []) aNil)) aNil))) S__law_asked_1)
def F__law_asked : FD := fnP 3 1 S__law_asked
abbrev P__law_asked : List Str := ["_law_thing"]
theorem ok__law_asked {f : Addr} {fd : FuncData} (Fd : FnT K "_law_asked" s__law_asked f fd) (n__law_is_plan : Kn P w K mg base 2 "_law_is_plan" P__law_is_plan F__law_is_plan) (n_is_policy : Kn P w K mg base 3 "is_policy" P_is_policy F_is_policy) (sm_K : smB K = true) (m_repr : mg "repr" = none) : FnG P w K mg base (xrS K) 4 f fd P__law_asked F__law_asked := by
  exact fnG_pure Fd sc__law_asked rfl rfl fun cdv A outer s H E hr hG => (ds_cons (ds_par2 (i := 1) (j := 2) rfl sc__law_asked.nd rfl rfl (by decide) rfl rfl (da_cons (d_cb (call_reprX sm_K hG (units65 hr)) lift_reprX (by rfl) m_repr (by decide +kernel) (da_cons (d_pv 0 (pv 0)) da_nil)) (da_cons (d_cb (call_reprX sm_K hG (units65 hr)) lift_reprX (by rfl) m_repr (by decide +kernel) (da_cons (d_fn n__law_is_plan hr (by decide) hG (by rfl) (da_cons (d_pv 0 (pv 0)) da_nil) nx_no) da_nil)) da_nil)) (by rfl)) (ds_one (ds_ret (d_and (d_eq hr (d_cb (call_reprX sm_K hG (units65 hr)) lift_reprX (by rfl) m_repr (by decide +kernel) (da_cons (d_fn n_is_policy hr (by decide) hG (by rfl) (da_cons (d_pv 0 (pv 0)) da_nil) nx_no) da_nil)) (d_pv 2 (pv 2))) (d_one (d_eq hr (d_cb (call_reprX sm_K hG (units65 hr)) lift_reprX (by rfl) m_repr (by decide +kernel) (da_cons (d_pv 0 (pv 0)) da_nil)) (d_pv 1 (pv 1))))))))
theorem kn__law_asked {f : Addr} {fd : FuncData} (Fd : FnT K "_law_asked" s__law_asked f fd) (g : mg "_law_asked" = some (.ref f)) (n__law_is_plan : Kn P w K mg base 2 "_law_is_plan" P__law_is_plan F__law_is_plan) (n_is_policy : Kn P w K mg base 3 "is_policy" P_is_policy F_is_policy) (sm_K : smB K = true) (m_repr : mg "repr" = none) : Kn P w K mg base 4 "_law_asked" P__law_asked F__law_asked :=
  ⟨⟨f, fd, ok__law_asked Fd n__law_is_plan n_is_policy sm_K m_repr, g, Fd.kp, FunD.bindsN Fd (fun _ _ _ _ _ _ us hl => match us, hl with | [_], _ => rfl), fnP_len⟩⟩
/-! #### _law_bent (it calls itself) -/
abbrev s__law_bent : Stmt := topS 33
abbrev N__law_bent : List Str := ["_law_pot_here", "_law_thing", "_law_depth", "_law_at", "_law_way"]
theorem sc__law_bent : FnScope N__law_bent ["_law_pot_here", "_law_thing", "_law_depth"] (defScope s__law_bent) := ⟨rfl, rfl, rfl, by decide +kernel, rfl, by decide +kernel, by decide +kernel⟩
def S__law_bent_5 (FR : FD) : SF := (sRet (e2 Fadd (e2 Fadd (eCut (eVar 1) oNone (oSome (eVar 3))) (eTup (aCons (eCall FR (aCons (eVar 0) (aCons (e2 Fix (eVar 1) (eVar 3)) (aCons (e2 Fsub (eVar 2) (eC (.int 1))) aNil))) []) aNil))) (eCut (eVar 1) (oSome (e2 Fadd (eVar 3) (eC (.int 1)))) oNone)))
def S__law_bent_4 (FR : FD) : SF := (sSeq (sIf (bAnd (bOf (e2 (Feq false) (eVar 4) (eC (.int 2)))) (bOf (e2 Fgt (eVar 3) (eC (.int 0))))) (sRet (e2 Fadd (e2 Fadd (eCut (eVar 1) oNone (oSome (e2 Fsub (eVar 3) (eC (.int 1))))) (eTup (aCons (e2 Fix (eVar 1) (eVar 3)) (aCons (e2 Fix (eVar 1) (e2 Fsub (eVar 3) (eC (.int 1)))) aNil)))) (eCut (eVar 1) (oSome (e2 Fadd (eVar 3) (eC (.int 1)))) oNone))) sNil) (S__law_bent_5 FR))
def S__law_bent_3 (FR : FD) : SF := (sSeq (sIf (bOf (e2 (Feq false) (eVar 4) (eC (.int 1)))) (sRet (e2 Fadd (eCut (eVar 1) oNone (oSome (e2 Fadd (eVar 3) (eC (.int 1))))) (eCut (eVar 1) (oSome (eVar 3)) oNone))) sNil) (S__law_bent_4 FR))
def S__law_bent_2 (FR : FD) : SF := (sSeq (sIf (bOf (e2 (Feq false) (eVar 4) (eC (.int 0)))) (sRet (e2 Fadd (eCut (eVar 1) oNone (oSome (eVar 3))) (eCut (eVar 1) (oSome (e2 Fadd (eVar 3) (eC (.int 1)))) oNone))) sNil) (S__law_bent_3 FR))
def S__law_bent_1 (FR : FD) : SF := (sSeq (sPar2 3 4 (aCons (eCall F__law_take (aCons (eVar 0) (aCons (eCallB Flen (aCons (eVar 1) aNil)) aNil)) []) (aCons (eCall F__law_take (aCons (eVar 0) (aCons (eC (.int 9)) aNil)) []) aNil))) (S__law_bent_2 FR))
def S__law_bent (FR : FD) : SF := (sSeq (sIf (bOr (bNot (bTru (eIsi "tuple" (eVar 1)))) (bOr (bOf (e2 (Feq false) (eVar 1) (eTup aNil))) (bOr (bOf (e2 (Feq false) (eVar 2) (eC (.int 0)))) (bOf (e2 (Feq false) (eCall F__law_take (aCons (eVar 0) (aCons (eC (.int 6)) aNil)) []) (eC (.int 0))))))) (sRet (eCall F__law_odd (aCons (eVar 0) (aCons (eVar 1) aNil)) [])) sNil) (S__law_bent_1 FR))
def F__law_bent_0 : FD := fun _ _ => none
def F__law_bent_1 : FD := fnP 5 3 (S__law_bent F__law_bent_0)
def F__law_bent_2 : FD := fnP 5 3 (S__law_bent F__law_bent_1)
def F__law_bent_3 : FD := fnP 5 3 (S__law_bent F__law_bent_2)
def F__law_bent_4 : FD := fnP 5 3 (S__law_bent F__law_bent_3)
abbrev F__law_bent : FD := F__law_bent_4
abbrev P__law_bent : List Str := ["_law_pot_here", "_law_thing", "_law_depth"]
theorem ok__law_bent_1 {f : Addr} {fd : FuncData} (Fd : FnT K "_law_bent" s__law_bent f fd) (n__law_odd : Kn P w K mg base 3 "_law_odd" P__law_odd F__law_odd) (n__law_take : Kn P w K mg base 1 "_law_take" P__law_take F__law_take) (m_isinstance : mg "isinstance" = none) (m_len : mg "len" = none) (m_tuple : mg "tuple" = none) (n__law_bent : Kn P w K mg base 3 "_law_bent" P__law_bent F__law_bent_0) : FnG P w K mg base (xrS K) 4 f fd P__law_bent F__law_bent_1 := by
  exact fnG_pure Fd sc__law_bent rfl rfl fun cdv A outer s H E hr hG => (ds_cons (ds_if (PW.pt (dw_or (dt_not (dt_tru (d_isi (T := "tuple") (by rfl) m_isinstance (by rfl) m_tuple (by decide +kernel) (by decide) (d_pv 1 (pv 1))) (by intro _; rfl))) (dw_or (dt_eq hr (d_pv 1 (pv 1)) (d_tup da_nil)) (dw_or (dt_eq hr (d_pv 2 (pv 2)) d_int) (dw_or1 (dt_eq hr (d_fn n__law_take hr (by decide) hG (by rfl) (da_cons (d_pv 0 (pv 0)) (da_cons d_int da_nil)) nx_no) d_int)))))) (ds_one (ds_ret (d_fn n__law_odd hr (by decide) hG (by rfl) (da_cons (d_pv 0 (pv 0)) (da_cons (d_pv 1 (pv 1)) da_nil)) nx_no))) ds_nil) (ds_cons (ds_par2 (i := 3) (j := 4) rfl sc__law_bent.nd rfl rfl (by decide) rfl rfl (da_cons (d_fn n__law_take hr (by decide) hG (by rfl) (da_cons (d_pv 0 (pv 0)) (da_cons (d_cb call_len lift_len (by rfl) m_len (by decide +kernel) (da_cons (d_pv 1 (pv 1)) da_nil)) da_nil)) nx_no) (da_cons (d_fn n__law_take hr (by decide) hG (by rfl) (da_cons (d_pv 0 (pv 0)) (da_cons d_int da_nil)) nx_no) da_nil)) (by rfl)) (ds_cons (ds_if (dt_eq hr (d_pv 4 (pv 4)) d_int) (ds_one (ds_ret (d_add (d_cut (d_pv 1 (pv 1)) po_n (po_s (d_pv 3 (pv 3)))) (d_cut (d_pv 1 (pv 1)) (po_s (d_add (d_pv 3 (pv 3)) d_int)) po_n)))) ds_nil) (ds_cons (ds_if (dt_eq hr (d_pv 4 (pv 4)) d_int) (ds_one (ds_ret (d_add (d_cut (d_pv 1 (pv 1)) po_n (po_s (d_add (d_pv 3 (pv 3)) d_int))) (d_cut (d_pv 1 (pv 1)) (po_s (d_pv 3 (pv 3))) po_n)))) ds_nil) (ds_cons (ds_if (PW.pt (dw_and (dt_eq hr (d_pv 4 (pv 4)) d_int) (dw_and1 (dt_gt (d_pv 3 (pv 3)) d_int)))) (ds_one (ds_ret (d_add (d_add (d_cut (d_pv 1 (pv 1)) po_n (po_s (d_sub (d_pv 3 (pv 3)) d_int))) (d_tup (da_cons (d_ix (d_pv 1 (pv 1)) (d_pv 3 (pv 3)) (fun _ _ => rfl)) (da_cons (d_ix (d_pv 1 (pv 1)) (d_sub (d_pv 3 (pv 3)) d_int) (fun _ _ => rfl)) da_nil)))) (d_cut (d_pv 1 (pv 1)) (po_s (d_add (d_pv 3 (pv 3)) d_int)) po_n)))) ds_nil) (ds_one (ds_ret (d_add (d_add (d_cut (d_pv 1 (pv 1)) po_n (po_s (d_pv 3 (pv 3)))) (d_tup (da_cons (d_fn n__law_bent hr (by decide) hG (by rfl) (da_cons (d_pv 0 (pv 0)) (da_cons (d_ix (d_pv 1 (pv 1)) (d_pv 3 (pv 3)) (fun _ _ => rfl)) (da_cons (d_sub (d_pv 2 (pv 2)) d_int) da_nil))) nx_no) da_nil))) (d_cut (d_pv 1 (pv 1)) (po_s (d_add (d_pv 3 (pv 3)) d_int)) po_n)))))))))
theorem ok__law_bent_2 {f : Addr} {fd : FuncData} (Fd : FnT K "_law_bent" s__law_bent f fd) (n__law_odd : Kn P w K mg base 3 "_law_odd" P__law_odd F__law_odd) (n__law_take : Kn P w K mg base 1 "_law_take" P__law_take F__law_take) (m_isinstance : mg "isinstance" = none) (m_len : mg "len" = none) (m_tuple : mg "tuple" = none) (n__law_bent : Kn P w K mg base 4 "_law_bent" P__law_bent F__law_bent_1) : FnG P w K mg base (xrS K) 5 f fd P__law_bent F__law_bent_2 := by
  exact fnG_pure Fd sc__law_bent rfl rfl fun cdv A outer s H E hr hG => (ds_cons (ds_if (PW.pt (dw_or (dt_not (dt_tru (d_isi (T := "tuple") (by rfl) m_isinstance (by rfl) m_tuple (by decide +kernel) (by decide) (d_pv 1 (pv 1))) (by intro _; rfl))) (dw_or (dt_eq hr (d_pv 1 (pv 1)) (d_tup da_nil)) (dw_or (dt_eq hr (d_pv 2 (pv 2)) d_int) (dw_or1 (dt_eq hr (d_fn n__law_take hr (by decide) hG (by rfl) (da_cons (d_pv 0 (pv 0)) (da_cons d_int da_nil)) nx_no) d_int)))))) (ds_one (ds_ret (d_fn n__law_odd hr (by decide) hG (by rfl) (da_cons (d_pv 0 (pv 0)) (da_cons (d_pv 1 (pv 1)) da_nil)) nx_no))) ds_nil) (ds_cons (ds_par2 (i := 3) (j := 4) rfl sc__law_bent.nd rfl rfl (by decide) rfl rfl (da_cons (d_fn n__law_take hr (by decide) hG (by rfl) (da_cons (d_pv 0 (pv 0)) (da_cons (d_cb call_len lift_len (by rfl) m_len (by decide +kernel) (da_cons (d_pv 1 (pv 1)) da_nil)) da_nil)) nx_no) (da_cons (d_fn n__law_take hr (by decide) hG (by rfl) (da_cons (d_pv 0 (pv 0)) (da_cons d_int da_nil)) nx_no) da_nil)) (by rfl)) (ds_cons (ds_if (dt_eq hr (d_pv 4 (pv 4)) d_int) (ds_one (ds_ret (d_add (d_cut (d_pv 1 (pv 1)) po_n (po_s (d_pv 3 (pv 3)))) (d_cut (d_pv 1 (pv 1)) (po_s (d_add (d_pv 3 (pv 3)) d_int)) po_n)))) ds_nil) (ds_cons (ds_if (dt_eq hr (d_pv 4 (pv 4)) d_int) (ds_one (ds_ret (d_add (d_cut (d_pv 1 (pv 1)) po_n (po_s (d_add (d_pv 3 (pv 3)) d_int))) (d_cut (d_pv 1 (pv 1)) (po_s (d_pv 3 (pv 3))) po_n)))) ds_nil) (ds_cons (ds_if (PW.pt (dw_and (dt_eq hr (d_pv 4 (pv 4)) d_int) (dw_and1 (dt_gt (d_pv 3 (pv 3)) d_int)))) (ds_one (ds_ret (d_add (d_add (d_cut (d_pv 1 (pv 1)) po_n (po_s (d_sub (d_pv 3 (pv 3)) d_int))) (d_tup (da_cons (d_ix (d_pv 1 (pv 1)) (d_pv 3 (pv 3)) (fun _ _ => rfl)) (da_cons (d_ix (d_pv 1 (pv 1)) (d_sub (d_pv 3 (pv 3)) d_int) (fun _ _ => rfl)) da_nil)))) (d_cut (d_pv 1 (pv 1)) (po_s (d_add (d_pv 3 (pv 3)) d_int)) po_n)))) ds_nil) (ds_one (ds_ret (d_add (d_add (d_cut (d_pv 1 (pv 1)) po_n (po_s (d_pv 3 (pv 3)))) (d_tup (da_cons (d_fn n__law_bent hr (by decide) hG (by rfl) (da_cons (d_pv 0 (pv 0)) (da_cons (d_ix (d_pv 1 (pv 1)) (d_pv 3 (pv 3)) (fun _ _ => rfl)) (da_cons (d_sub (d_pv 2 (pv 2)) d_int) da_nil))) nx_no) da_nil))) (d_cut (d_pv 1 (pv 1)) (po_s (d_add (d_pv 3 (pv 3)) d_int)) po_n)))))))))
theorem ok__law_bent_3 {f : Addr} {fd : FuncData} (Fd : FnT K "_law_bent" s__law_bent f fd) (n__law_odd : Kn P w K mg base 3 "_law_odd" P__law_odd F__law_odd) (n__law_take : Kn P w K mg base 1 "_law_take" P__law_take F__law_take) (m_isinstance : mg "isinstance" = none) (m_len : mg "len" = none) (m_tuple : mg "tuple" = none) (n__law_bent : Kn P w K mg base 5 "_law_bent" P__law_bent F__law_bent_2) : FnG P w K mg base (xrS K) 6 f fd P__law_bent F__law_bent_3 := by
  exact fnG_pure Fd sc__law_bent rfl rfl fun cdv A outer s H E hr hG => (ds_cons (ds_if (PW.pt (dw_or (dt_not (dt_tru (d_isi (T := "tuple") (by rfl) m_isinstance (by rfl) m_tuple (by decide +kernel) (by decide) (d_pv 1 (pv 1))) (by intro _; rfl))) (dw_or (dt_eq hr (d_pv 1 (pv 1)) (d_tup da_nil)) (dw_or (dt_eq hr (d_pv 2 (pv 2)) d_int) (dw_or1 (dt_eq hr (d_fn n__law_take hr (by decide) hG (by rfl) (da_cons (d_pv 0 (pv 0)) (da_cons d_int da_nil)) nx_no) d_int)))))) (ds_one (ds_ret (d_fn n__law_odd hr (by decide) hG (by rfl) (da_cons (d_pv 0 (pv 0)) (da_cons (d_pv 1 (pv 1)) da_nil)) nx_no))) ds_nil) (ds_cons (ds_par2 (i := 3) (j := 4) rfl sc__law_bent.nd rfl rfl (by decide) rfl rfl (da_cons (d_fn n__law_take hr (by decide) hG (by rfl) (da_cons (d_pv 0 (pv 0)) (da_cons (d_cb call_len lift_len (by rfl) m_len (by decide +kernel) (da_cons (d_pv 1 (pv 1)) da_nil)) da_nil)) nx_no) (da_cons (d_fn n__law_take hr (by decide) hG (by rfl) (da_cons (d_pv 0 (pv 0)) (da_cons d_int da_nil)) nx_no) da_nil)) (by rfl)) (ds_cons (ds_if (dt_eq hr (d_pv 4 (pv 4)) d_int) (ds_one (ds_ret (d_add (d_cut (d_pv 1 (pv 1)) po_n (po_s (d_pv 3 (pv 3)))) (d_cut (d_pv 1 (pv 1)) (po_s (d_add (d_pv 3 (pv 3)) d_int)) po_n)))) ds_nil) (ds_cons (ds_if (dt_eq hr (d_pv 4 (pv 4)) d_int) (ds_one (ds_ret (d_add (d_cut (d_pv 1 (pv 1)) po_n (po_s (d_add (d_pv 3 (pv 3)) d_int))) (d_cut (d_pv 1 (pv 1)) (po_s (d_pv 3 (pv 3))) po_n)))) ds_nil) (ds_cons (ds_if (PW.pt (dw_and (dt_eq hr (d_pv 4 (pv 4)) d_int) (dw_and1 (dt_gt (d_pv 3 (pv 3)) d_int)))) (ds_one (ds_ret (d_add (d_add (d_cut (d_pv 1 (pv 1)) po_n (po_s (d_sub (d_pv 3 (pv 3)) d_int))) (d_tup (da_cons (d_ix (d_pv 1 (pv 1)) (d_pv 3 (pv 3)) (fun _ _ => rfl)) (da_cons (d_ix (d_pv 1 (pv 1)) (d_sub (d_pv 3 (pv 3)) d_int) (fun _ _ => rfl)) da_nil)))) (d_cut (d_pv 1 (pv 1)) (po_s (d_add (d_pv 3 (pv 3)) d_int)) po_n)))) ds_nil) (ds_one (ds_ret (d_add (d_add (d_cut (d_pv 1 (pv 1)) po_n (po_s (d_pv 3 (pv 3)))) (d_tup (da_cons (d_fn n__law_bent hr (by decide) hG (by rfl) (da_cons (d_pv 0 (pv 0)) (da_cons (d_ix (d_pv 1 (pv 1)) (d_pv 3 (pv 3)) (fun _ _ => rfl)) (da_cons (d_sub (d_pv 2 (pv 2)) d_int) da_nil))) nx_no) da_nil))) (d_cut (d_pv 1 (pv 1)) (po_s (d_add (d_pv 3 (pv 3)) d_int)) po_n)))))))))
theorem ok__law_bent_4 {f : Addr} {fd : FuncData} (Fd : FnT K "_law_bent" s__law_bent f fd) (n__law_odd : Kn P w K mg base 3 "_law_odd" P__law_odd F__law_odd) (n__law_take : Kn P w K mg base 1 "_law_take" P__law_take F__law_take) (m_isinstance : mg "isinstance" = none) (m_len : mg "len" = none) (m_tuple : mg "tuple" = none) (n__law_bent : Kn P w K mg base 6 "_law_bent" P__law_bent F__law_bent_3) : FnG P w K mg base (xrS K) 7 f fd P__law_bent F__law_bent_4 := by
  exact fnG_pure Fd sc__law_bent rfl rfl fun cdv A outer s H E hr hG => (ds_cons (ds_if (PW.pt (dw_or (dt_not (dt_tru (d_isi (T := "tuple") (by rfl) m_isinstance (by rfl) m_tuple (by decide +kernel) (by decide) (d_pv 1 (pv 1))) (by intro _; rfl))) (dw_or (dt_eq hr (d_pv 1 (pv 1)) (d_tup da_nil)) (dw_or (dt_eq hr (d_pv 2 (pv 2)) d_int) (dw_or1 (dt_eq hr (d_fn n__law_take hr (by decide) hG (by rfl) (da_cons (d_pv 0 (pv 0)) (da_cons d_int da_nil)) nx_no) d_int)))))) (ds_one (ds_ret (d_fn n__law_odd hr (by decide) hG (by rfl) (da_cons (d_pv 0 (pv 0)) (da_cons (d_pv 1 (pv 1)) da_nil)) nx_no))) ds_nil) (ds_cons (ds_par2 (i := 3) (j := 4) rfl sc__law_bent.nd rfl rfl (by decide) rfl rfl (da_cons (d_fn n__law_take hr (by decide) hG (by rfl) (da_cons (d_pv 0 (pv 0)) (da_cons (d_cb call_len lift_len (by rfl) m_len (by decide +kernel) (da_cons (d_pv 1 (pv 1)) da_nil)) da_nil)) nx_no) (da_cons (d_fn n__law_take hr (by decide) hG (by rfl) (da_cons (d_pv 0 (pv 0)) (da_cons d_int da_nil)) nx_no) da_nil)) (by rfl)) (ds_cons (ds_if (dt_eq hr (d_pv 4 (pv 4)) d_int) (ds_one (ds_ret (d_add (d_cut (d_pv 1 (pv 1)) po_n (po_s (d_pv 3 (pv 3)))) (d_cut (d_pv 1 (pv 1)) (po_s (d_add (d_pv 3 (pv 3)) d_int)) po_n)))) ds_nil) (ds_cons (ds_if (dt_eq hr (d_pv 4 (pv 4)) d_int) (ds_one (ds_ret (d_add (d_cut (d_pv 1 (pv 1)) po_n (po_s (d_add (d_pv 3 (pv 3)) d_int))) (d_cut (d_pv 1 (pv 1)) (po_s (d_pv 3 (pv 3))) po_n)))) ds_nil) (ds_cons (ds_if (PW.pt (dw_and (dt_eq hr (d_pv 4 (pv 4)) d_int) (dw_and1 (dt_gt (d_pv 3 (pv 3)) d_int)))) (ds_one (ds_ret (d_add (d_add (d_cut (d_pv 1 (pv 1)) po_n (po_s (d_sub (d_pv 3 (pv 3)) d_int))) (d_tup (da_cons (d_ix (d_pv 1 (pv 1)) (d_pv 3 (pv 3)) (fun _ _ => rfl)) (da_cons (d_ix (d_pv 1 (pv 1)) (d_sub (d_pv 3 (pv 3)) d_int) (fun _ _ => rfl)) da_nil)))) (d_cut (d_pv 1 (pv 1)) (po_s (d_add (d_pv 3 (pv 3)) d_int)) po_n)))) ds_nil) (ds_one (ds_ret (d_add (d_add (d_cut (d_pv 1 (pv 1)) po_n (po_s (d_pv 3 (pv 3)))) (d_tup (da_cons (d_fn n__law_bent hr (by decide) hG (by rfl) (da_cons (d_pv 0 (pv 0)) (da_cons (d_ix (d_pv 1 (pv 1)) (d_pv 3 (pv 3)) (fun _ _ => rfl)) (da_cons (d_sub (d_pv 2 (pv 2)) d_int) da_nil))) nx_no) da_nil))) (d_cut (d_pv 1 (pv 1)) (po_s (d_add (d_pv 3 (pv 3)) d_int)) po_n)))))))))
theorem kn__law_bent {f : Addr} {fd : FuncData} (Fd : FnT K "_law_bent" s__law_bent f fd) (g : mg "_law_bent" = some (.ref f)) (n__law_odd : Kn P w K mg base 3 "_law_odd" P__law_odd F__law_odd) (n__law_take : Kn P w K mg base 1 "_law_take" P__law_take F__law_take) (m_isinstance : mg "isinstance" = none) (m_len : mg "len" = none) (m_tuple : mg "tuple" = none) : Kn P w K mg base 7 "_law_bent" P__law_bent F__law_bent := by
  have k0 : Kn P w K mg base 3 "_law_bent" P__law_bent F__law_bent_0 := ⟨⟨f, fd, ⟨fun _ _ _ _ _ _ _ _ post => post.elim⟩, g, Fd.kp, FunD.bindsN Fd (fun _ _ _ _ _ _ us hl => match us, hl with | [_, _, _], _ => rfl), fun _ _ h => absurd rfl h⟩⟩
  have k1 : Kn P w K mg base 4 "_law_bent" P__law_bent F__law_bent_1 := ⟨⟨f, fd, ok__law_bent_1 Fd n__law_odd n__law_take m_isinstance m_len m_tuple k0, g, Fd.kp, FunD.bindsN Fd (fun _ _ _ _ _ _ us hl => match us, hl with | [_, _, _], _ => rfl), fnP_len⟩⟩
  have k2 : Kn P w K mg base 5 "_law_bent" P__law_bent F__law_bent_2 := ⟨⟨f, fd, ok__law_bent_2 Fd n__law_odd n__law_take m_isinstance m_len m_tuple k1, g, Fd.kp, FunD.bindsN Fd (fun _ _ _ _ _ _ us hl => match us, hl with | [_, _, _], _ => rfl), fnP_len⟩⟩
  have k3 : Kn P w K mg base 6 "_law_bent" P__law_bent F__law_bent_3 := ⟨⟨f, fd, ok__law_bent_3 Fd n__law_odd n__law_take m_isinstance m_len m_tuple k2, g, Fd.kp, FunD.bindsN Fd (fun _ _ _ _ _ _ us hl => match us, hl with | [_, _, _], _ => rfl), fnP_len⟩⟩
  have k4 : Kn P w K mg base 7 "_law_bent" P__law_bent F__law_bent_4 := ⟨⟨f, fd, ok__law_bent_4 Fd n__law_odd n__law_take m_isinstance m_len m_tuple k3, g, Fd.kp, FunD.bindsN Fd (fun _ _ _ _ _ _ us hl => match us, hl with | [_, _, _], _ => rfl), fnP_len⟩⟩
  exact k4
/-! #### _law_right -/
abbrev s__law_right : Stmt := topS 36
abbrev N__law_right : List Str := ["_law_pot_here", "_law_order", "_law_some_here", "_law_turn", "_law_plan_here", "_law_again", "_law_thing"]
theorem sc__law_right : FnScope N__law_right ["_law_pot_here"] (defScope s__law_right) := ⟨rfl, rfl, rfl, by decide +kernel, rfl, by decide +kernel, by decide +kernel⟩
def B__law_right_1 : SF := (sSeq (sAsg 4 (eCall F__law_plan (aCons (eVar 0) aNil) [])) (sDrop (eMeth isList FextR (eVar 2) (aCons (e2 FaddR (eLst (aCons (eVar 4) aNil)) (eLC (iRg1 (aCons (eC (.int 10)) aNil)) (fName 5) bYes (eCall F__law_bent (aCons (eVar 0) (aCons (eVar 4) (aCons (eC (.int 3)) aNil))) []) [5])) aNil))))
def S__law_right_9 : SF := (sRet (vAnd (eCallB Fall (aCons (eSeal (eLC (iAny (eVar 2)) (fName 6) bYes (eCall F__law_asked (aCons (eVar 6) aNil) []) [6])) aNil)) (e2 (Fis false) (eCallK F_is_policy [0] 0 1 aNil (aCons (eTup (aCons (eVar 1) (aCons (eC (.str "change")) (aCons (eC (.int 6)) (aCons (eTup aNil) aNil))))) aNil)) (eC (.bl true)))))
def S__law_right_8 : SF := (sSeq (sFor (iRg1 (aCons (eC (.int 8)) aNil)) (fName 3) B__law_right_1) S__law_right_9)
def S__law_right_7 : SF := (sSeq (sAsg 2 (e2 FaddR (eVar 2) (eLst (aCons (eTup (aCons (eVar 1) (aCons (eC (.str "write")) (aCons (eC (.int 1)) (aCons (eTup (aCons (eTup (aCons (eC (.str "same")) (aCons (eC (.int 1)) (aCons (eC (.str "less")) aNil)))) aNil)) aNil))))) (aCons (eTup (aCons (eVar 1) (aCons (eC (.str "write")) (aCons (eC (.int 1)) (aCons (eTup (aCons (eTup (aCons (eC (.str "other")) (aCons (eC (.int 1)) (aCons (eC (.str "same")) aNil)))) aNil)) aNil))))) aNil))))) S__law_right_8)
def S__law_right_6 : SF := (sSeq (sDrop (eMeth isList Fapp (eVar 2) (aCons (eTup (aCons (eVar 1) (aCons (eC (.str "write")) (aCons (eC (.int 1)) (aCons (eTup (aCons (eLst (aCons (eC (.str "same")) (aCons (eC (.int 1)) (aCons (eC (.str "same")) aNil)))) aNil)) aNil))))) aNil))) S__law_right_7)
def S__law_right_5 : SF := (sSeq (sDrop (eMeth isList Fapp (eVar 2) (aCons (eTup (aCons (eVar 1) (aCons (eC (.str "write")) (aCons (eC (.int 1)) (aCons (eTup (aCons (eTup (aCons (eC (.str "same")) (aCons (eC (.bl true)) (aCons (eC (.str "same")) aNil)))) aNil)) aNil))))) aNil))) S__law_right_6)
def S__law_right_4 : SF := (sSeq (sAsg 2 (e2 FaddR (eVar 2) (eLst (aCons (eTup (aCons (eCut (eVar 1) oNone (oSome (eC (.int 2)))) (aCons (eC (.str "write")) (aCons (eC (.int 1)) (aCons (eTup aNil) aNil))))) (aCons (eTup (aCons (e2 Fadd (eVar 1) (eTup (aCons (eC (.str "note")) aNil))) (aCons (eC (.str "write")) (aCons (eC (.int 1)) (aCons (eTup aNil) aNil))))) (aCons (eTup (aCons (eVar 1) (aCons (eC (.str "write")) (aCons (eC (.int 1)) (aCons (eLst aNil) aNil))))) aNil)))))) S__law_right_5)
def S__law_right_3 : SF := (sSeq (sAsg 2 (e2 FaddR (eVar 2) (eLst (aCons (eTup (aCons (eVar 1) (aCons (eC (.str "write")) (aCons (eC (.int 1)) (aCons (eTup (aCons (eTup (aCons (eC (.str "same")) (aCons (eC (.int 2)) (aCons (eC (.str "same")) aNil)))) aNil)) aNil))))) (aCons (eTup (aCons (eVar 1) (aCons (eC (.str "write")) (aCons (eC (.int 1)) (aCons (eTup (aCons (eTup (aCons (eC (.str "same")) (aCons (e1 Fneg (eC (.int 1))) (aCons (eC (.str "same")) aNil)))) aNil)) aNil))))) aNil))))) S__law_right_4)
def S__law_right_2 : SF := (sSeq (sDrop (eMeth isList Fapp (eVar 2) (aCons (eTup (aCons (eVar 1) (aCons (eC (.str "touch")) (aCons (eC (.int 1)) (aCons (eTup aNil) aNil))))) aNil))) S__law_right_3)
def S__law_right_1 : SF := (sSeq (sAsg 2 (e2 FaddR (eVar 2) (eLst (aCons (eTup (aCons (eVar 1) (aCons (eC (.str "write")) (aCons (eC (.int 0)) (aCons (eTup aNil) aNil))))) (aCons (eTup (aCons (eVar 1) (aCons (eC (.str "write")) (aCons (eC (.int 7)) (aCons (eTup aNil) aNil))))) (aCons (eTup (aCons (eVar 1) (aCons (eC (.str "write")) (aCons (eC (.bl true)) (aCons (eTup aNil) aNil))))) aNil)))))) S__law_right_2)
def S__law_right : SF := (sSeq (sPar2 1 2 (aCons (eTup (aCons (eC (.str "note")) (aCons (eC (.str "stat")) (aCons (eC (.str "read")) aNil)))) (aCons (eCel (aCons (eC .non) (aCons (eC (.bl true)) (aCons (eC (.int 0)) (aCons (eC (.str "")) (aCons (eTup aNil) (aCons (eLst aNil) (aCons eDNew aNil)))))))) aNil))) S__law_right_1)
def F__law_right : FD := fnSeal (fnP 7 1 S__law_right)
abbrev P__law_right : List Str := ["_law_pot_here"]
theorem ok__law_right {f : Addr} {fd : FuncData} (Fd : FnT K "_law_right" s__law_right f fd) (n__law_asked : Kn P w K mg base 4 "_law_asked" P__law_asked F__law_asked) (n__law_bent : Kn P w K mg base 7 "_law_bent" P__law_bent F__law_bent) (n__law_plan : Kn P w K mg base 4 "_law_plan" P__law_plan F__law_plan) (nk_0 : KnK P w K mg base 3 "is_policy" P_is_policy F_is_policy 0 ["value"] [0]) (m_all : mg "all" = none) (m_range : mg "range" = none) : FnG P w K mg base (xrS K) 8 f fd P__law_right F__law_right := by
  exact FnG.seal (fnG_pure Fd sc__law_right rfl rfl fun cdv A outer s H E hr hG => (ds_cons (ds_par2 (i := 1) (j := 2) rfl sc__law_right.nd rfl rfl (by decide) rfl rfl (da_cons (d_tup (da_cons d_str (da_cons d_str (da_cons d_str da_nil)))) (da_cons (d_cel (da_cons d_non (da_cons d_bl (da_cons d_int (da_cons d_str (da_cons (d_tup da_nil) (da_cons (d_lst da_nil) (da_cons d_dnew da_nil)))))))) da_nil)) (by rfl)) (ds_cons (ds_set (i := 2) sc__law_right.nd rfl (.inl rfl) (d_addR (d_pv 2 (pv 2)) (d_lst (da_cons (d_tup (da_cons (d_pv 1 (pv 1)) (da_cons d_str (da_cons d_int (da_cons (d_tup da_nil) da_nil))))) (da_cons (d_tup (da_cons (d_pv 1 (pv 1)) (da_cons d_str (da_cons d_int (da_cons (d_tup da_nil) da_nil))))) (da_cons (d_tup (da_cons (d_pv 1 (pv 1)) (da_cons d_str (da_cons d_bl (da_cons (d_tup da_nil) da_nil))))) da_nil)))))) (ds_cons (ds_expr (d_app (d_pv 2 (pv 2)) (da_cons (d_tup (da_cons (d_pv 1 (pv 1)) (da_cons d_str (da_cons d_int (da_cons (d_tup da_nil) da_nil))))) da_nil))) (ds_cons (ds_set (i := 2) sc__law_right.nd rfl (.inl rfl) (d_addR (d_pv 2 (pv 2)) (d_lst (da_cons (d_tup (da_cons (d_pv 1 (pv 1)) (da_cons d_str (da_cons d_int (da_cons (d_tup (da_cons (d_tup (da_cons d_str (da_cons d_int (da_cons d_str da_nil)))) da_nil)) da_nil))))) (da_cons (d_tup (da_cons (d_pv 1 (pv 1)) (da_cons d_str (da_cons d_int (da_cons (d_tup (da_cons (d_tup (da_cons d_str (da_cons (d_neg d_int) (da_cons d_str da_nil)))) da_nil)) da_nil))))) da_nil))))) (ds_cons (ds_set (i := 2) sc__law_right.nd rfl (.inl rfl) (d_addR (d_pv 2 (pv 2)) (d_lst (da_cons (d_tup (da_cons (d_cut (d_pv 1 (pv 1)) po_n (po_s d_int)) (da_cons d_str (da_cons d_int (da_cons (d_tup da_nil) da_nil))))) (da_cons (d_tup (da_cons (d_add (d_pv 1 (pv 1)) (d_tup (da_cons d_str da_nil))) (da_cons d_str (da_cons d_int (da_cons (d_tup da_nil) da_nil))))) (da_cons (d_tup (da_cons (d_pv 1 (pv 1)) (da_cons d_str (da_cons d_int (da_cons (d_lst da_nil) da_nil))))) da_nil)))))) (ds_cons (ds_expr (d_app (d_pv 2 (pv 2)) (da_cons (d_tup (da_cons (d_pv 1 (pv 1)) (da_cons d_str (da_cons d_int (da_cons (d_tup (da_cons (d_tup (da_cons d_str (da_cons d_bl (da_cons d_str da_nil)))) da_nil)) da_nil))))) da_nil))) (ds_cons (ds_expr (d_app (d_pv 2 (pv 2)) (da_cons (d_tup (da_cons (d_pv 1 (pv 1)) (da_cons d_str (da_cons d_int (da_cons (d_tup (da_cons (d_lst (da_cons d_str (da_cons d_int (da_cons d_str da_nil)))) da_nil)) da_nil))))) da_nil))) (ds_cons (ds_set (i := 2) sc__law_right.nd rfl (.inl rfl) (d_addR (d_pv 2 (pv 2)) (d_lst (da_cons (d_tup (da_cons (d_pv 1 (pv 1)) (da_cons d_str (da_cons d_int (da_cons (d_tup (da_cons (d_tup (da_cons d_str (da_cons d_int (da_cons d_str da_nil)))) da_nil)) da_nil))))) (da_cons (d_tup (da_cons (d_pv 1 (pv 1)) (da_cons d_str (da_cons d_int (da_cons (d_tup (da_cons (d_tup (da_cons d_str (da_cons d_int (da_cons d_str da_nil)))) da_nil)) da_nil))))) da_nil))))) (ds_cons (ds_for (own := [3]) PassesOwn.never rfl (di_rg1 (by rfl) m_range (da_cons d_int da_nil)) (pg_name (i := 3) sc__law_right.nd rfl (.inl rfl)) (tg_name (by decide)) (ds_cons (ds_set (i := 4) sc__law_right.nd rfl (.inr rfl) (d_fn n__law_plan hr (by decide) hG (by rfl) (da_cons (d_pv 0 (pv 0)) da_nil) nx_no)) (ds_one (ds_expr (d_extR (d_pv 2 (pv 2)) (da_cons (d_addR (d_lst (da_cons (d_pv 4 (pv 4)) da_nil)) (d_lc (own := [("_law_again", 5)]) rfl sc__law_right.nd (di_rg1 (by rfl) m_range (da_cons d_int da_nil)) (blkOk_by (N := N__law_right) (sc := defScope s__law_right) (own := [("_law_again", 5)]) (by decide +kernel)) (fun _ _ _ _ _ => (pg_name (i := 5) sc__law_right.nd rfl (.inl rfl))) (tg_name (by decide)) (fun _ _ _ _ _ => dts_nil) (fun _ _ _ _ _ => (d_fn n__law_bent hr (by decide) hG (by rfl) (da_cons (d_pv 0 (pv 0)) (da_cons (d_pv 4 (pv 4)) (da_cons d_int da_nil))) nx_no)))) da_nil)))))) (ds_one (ds_ret (d_and (d_cb (cr_all rfl) lift_all (by rfl) m_all (by decide +kernel) (da_cons (d_seal (d_lc (own := [("_law_thing", 6)]) rfl sc__law_right.nd (di_any (d_pv 2 (pv 2))) (blkOk_by (N := N__law_right) (sc := defScope s__law_right) (own := [("_law_thing", 6)]) (by decide +kernel)) (fun _ _ _ _ _ => (pg_name (i := 6) sc__law_right.nd rfl (.inl rfl))) (tg_name (by decide)) (fun _ _ _ _ _ => dts_nil) (fun _ _ _ _ _ => (d_fn n__law_asked hr (by decide) hG (by rfl) (da_cons (d_pv 6 (pv 6)) da_nil) nx_no)))) da_nil)) (d_one (d_is (d_fnK0 nk_0 hr (by decide) hG (by rfl) rfl (dk_cons (d_tup (da_cons (d_pv 1 (pv 1)) (da_cons d_str (da_cons d_int (da_cons (d_tup da_nil) da_nil))))) dk_nil) nx_no) d_bl)))))))))))))))
theorem kn__law_right {f : Addr} {fd : FuncData} (Fd : FnT K "_law_right" s__law_right f fd) (g : mg "_law_right" = some (.ref f)) (n__law_asked : Kn P w K mg base 4 "_law_asked" P__law_asked F__law_asked) (n__law_bent : Kn P w K mg base 7 "_law_bent" P__law_bent F__law_bent) (n__law_plan : Kn P w K mg base 4 "_law_plan" P__law_plan F__law_plan) (nk_0 : KnK P w K mg base 3 "is_policy" P_is_policy F_is_policy 0 ["value"] [0]) (m_all : mg "all" = none) (m_range : mg "range" = none) : Kn P w K mg base 8 "_law_right" P__law_right F__law_right :=
  ⟨⟨f, fd, ok__law_right Fd n__law_asked n__law_bent n__law_plan nk_0 m_all m_range, g, Fd.kp, FunD.bindsN Fd (fun _ _ _ _ _ _ us hl => match us, hl with | [_], _ => rfl), fnSeal_len fnP_len⟩⟩
/-! #### law -/
abbrev s_law : Stmt := topS 37
abbrev N_law : List Str := ["_law_script", "_law_k"]
theorem sc_law : FnScope N_law ["_law_script"] (defScope s_law) := ⟨rfl, rfl, rfl, by decide +kernel, rfl, by decide +kernel, by decide +kernel⟩
def S_law : SF := (sRet (eCallB Fall (aCons (eSeal (eLC (iRg1 (aCons (eCallB Fmax (aCons (eC (.int 1)) (aCons (eCallB Fmin (aCons (eC (.int 3)) (aCons (eCallB Flen (aCons (eVar 0) aNil)) aNil))) aNil))) aNil)) (fName 1) bYes (eSeal (eCall F__law_right (aCons (eCall F__law_pot (aCons (eVar 0) (aCons (eVar 1) aNil)) []) aNil) [])) [1])) aNil)))
def F_law : FD := fnP 2 1 S_law
abbrev P_law : List Str := ["_law_script"]
theorem ok_law {f : Addr} {fd : FuncData} (Fd : FnT K "law" s_law f fd) (n__law_pot : Kn P w K mg base 1 "_law_pot" P__law_pot F__law_pot) (n__law_right : Kn P w K mg base 8 "_law_right" P__law_right F__law_right) (m_all : mg "all" = none) (m_len : mg "len" = none) (m_max : mg "max" = none) (m_min : mg "min" = none) (m_range : mg "range" = none) : FnG P w K mg base (xrS K) 9 f fd P_law F_law := by
  exact fnG_pure Fd sc_law rfl rfl fun cdv A outer s H E hr hG => (ds_one (ds_ret (d_cb (cr_all rfl) lift_all (by rfl) m_all (by decide +kernel) (da_cons (d_seal (d_lc (own := [("_law_k", 1)]) rfl sc_law.nd (di_rg1 (by rfl) m_range (da_cons (d_cb (call_max2 rfl) lift_max (by rfl) m_max (by decide +kernel) (da_cons d_int (da_cons (d_cb (call_min2 rfl) lift_min (by rfl) m_min (by decide +kernel) (da_cons d_int (da_cons (d_cb call_len lift_len (by rfl) m_len (by decide +kernel) (da_cons (d_pv 0 (pv 0)) da_nil)) da_nil))) da_nil))) da_nil)) (blkOk_by (N := N_law) (sc := defScope s_law) (own := [("_law_k", 1)]) (by decide +kernel)) (fun _ _ _ _ _ => (pg_name (i := 1) sc_law.nd rfl (.inl rfl))) (tg_name (by decide)) (fun _ _ _ _ _ => dts_nil) (fun _ _ _ _ _ => (d_seal (d_fn n__law_right hr (by decide) hG (by rfl) (da_cons (d_fn n__law_pot hr (by decide) hG (by rfl) (da_cons (d_pv 0 (pv 0)) (da_cons (d_pv 1 (pv 1)) da_nil)) nx_no) da_nil) nx_no))))) da_nil))))
theorem kk_0 {f : Addr} {fd : FuncData} (Fd : FnT K "is_policy" s_is_policy f fd) (g : mg "is_policy" = some (.ref f)) (n_ascends : Kn P w K mg base 1 "ascends" P_ascends F_ascends) (n_is_cell : Kn P w K mg base 2 "is_cell" P_is_cell F_is_cell) (n_is_integer : Kn P w K mg base 1 "is_integer" P_is_integer F_is_integer) (n_is_one_of : Kn P w K mg base 1 "is_one_of" P_is_one_of F_is_one_of) (n_is_order : Kn P w K mg base 2 "is_order" P_is_order F_is_order) (m_all : mg "all" = none) (m_isinstance : mg "isinstance" = none) (m_len : mg "len" = none) (m_tuple : mg "tuple" = none) (c_KINDS : Cst K mg "KINDS" (.tup [(.str "change"), (.str "write")])) (c_MOST_WIDTH : Cst K mg "MOST_WIDTH" (.int 6)) (c_PARTS : Cst K mg "PARTS" (.int 4)) : KnK P w K mg base 3 "is_policy" P_is_policy F_is_policy 0 ["value"] [0] :=
  ⟨⟨f, fd, ok_is_policy Fd n_ascends n_is_cell n_is_integer n_is_one_of n_is_order m_all m_isinstance m_len m_tuple c_KINDS c_MOST_WIDTH c_PARTS, g, Fd.kp, FunD.bindsKw Fd (fun _ _ _ _ _ _ us ws h1 h2 => match us, ws, h1, h2 with | [], [_], _, _ => rfl), fnP_len⟩⟩
end
end Lw

namespace Lw
open PySem PySem.Spec L2 DM
def d_is_integer : He.DefD := ⟨("is_integer", none), "is_integer", "is_integer", defArgs s_is_integer, defBody s_is_integer, defScope s_is_integer, [], []⟩
def d_ascends : He.DefD := ⟨("ascends", none), "ascends", "ascends", defArgs s_ascends, defBody s_ascends, defScope s_ascends, [], []⟩
def d_orders : He.DefD := ⟨("orders", none), "orders", "orders", defArgs s_orders, defBody s_orders, defScope s_orders, [], []⟩
def d_is_one_of : He.DefD := ⟨("is_one_of", none), "is_one_of", "is_one_of", defArgs s_is_one_of, defBody s_is_one_of, defScope s_is_one_of, [], []⟩
def d__law_pot : He.DefD := ⟨("_law_pot", none), "_law_pot", "_law_pot", defArgs s__law_pot, defBody s__law_pot, defScope s__law_pot, [], []⟩
def d__law_take : He.DefD := ⟨("_law_take", none), "_law_take", "_law_take", defArgs s__law_take, defBody s__law_take, defScope s__law_take, [], []⟩
def d__law_all_cells : He.DefD := ⟨("_law_all_cells", none), "_law_all_cells", "_law_all_cells", defArgs s__law_all_cells, defBody s__law_all_cells, defScope s__law_all_cells, [], []⟩
def d__law_is_number : He.DefD := ⟨("_law_is_number", none), "_law_is_number", "_law_is_number", defArgs s__law_is_number, defBody s__law_is_number, defScope s__law_is_number, [], []⟩
def d_is_cell : He.DefD := ⟨("is_cell", none), "is_cell", "is_cell", defArgs s_is_cell, defBody s_is_cell, defScope s_is_cell, [], []⟩
def d_is_order : He.DefD := ⟨("is_order", none), "is_order", "is_order", defArgs s_is_order, defBody s_is_order, defScope s_is_order, [], []⟩
def d__law_pick : He.DefD := ⟨("_law_pick", none), "_law_pick", "_law_pick", defArgs s__law_pick, defBody s__law_pick, defScope s__law_pick, [], []⟩
def d__law_mixed : He.DefD := ⟨("_law_mixed", none), "_law_mixed", "_law_mixed", defArgs s__law_mixed, defBody s__law_mixed, defScope s__law_mixed, [], []⟩
def d__law_some : He.DefD := ⟨("_law_some", none), "_law_some", "_law_some", defArgs s__law_some, defBody s__law_some, defScope s__law_some, [], []⟩
def d__law_is_plan : He.DefD := ⟨("_law_is_plan", none), "_law_is_plan", "_law_is_plan", defArgs s__law_is_plan, defBody s__law_is_plan, defScope s__law_is_plan, [], []⟩
def d_is_policy : He.DefD := ⟨("is_policy", none), "is_policy", "is_policy", defArgs s_is_policy, defBody s_is_policy, defScope s_is_policy, [], []⟩
def d__law_order_here : He.DefD := ⟨("_law_order_here", none), "_law_order_here", "_law_order_here", defArgs s__law_order_here, defBody s__law_order_here, defScope s__law_order_here, [], []⟩
def d__law_odd : He.DefD := ⟨("_law_odd", none), "_law_odd", "_law_odd", defArgs s__law_odd, defBody s__law_odd, defScope s__law_odd, [], []⟩
def d__law_plan : He.DefD := ⟨("_law_plan", none), "_law_plan", "_law_plan", defArgs s__law_plan, defBody s__law_plan, defScope s__law_plan, [], []⟩
def d__law_asked : He.DefD := ⟨("_law_asked", none), "_law_asked", "_law_asked", defArgs s__law_asked, defBody s__law_asked, defScope s__law_asked, [], []⟩
def d__law_bent : He.DefD := ⟨("_law_bent", none), "_law_bent", "_law_bent", defArgs s__law_bent, defBody s__law_bent, defScope s__law_bent, [], []⟩
def d__law_right : He.DefD := ⟨("_law_right", none), "_law_right", "_law_right", defArgs s__law_right, defBody s__law_right, defScope s__law_right, [], []⟩
def d_law : He.DefD := ⟨("law", none), "law", "law", defArgs s_law, defBody s_law, defScope s_law, [], []⟩
def cs : List (Str × D) := ([("CELL_PARTS", (.int 3)), ("KINDS", (.tup [(.str "change"), (.str "write")])), ("MOST_WIDTH", (.int 6)), ("NOTE", (.str "note")), ("PARTS", (.int 4)), ("READ", (.str "read")), ("RELATIONS", (.tup [(.str "less"), (.str "more"), (.str "same")])), ("SIZES", (.tup [(.str "other"), (.str "same")])), ("STAT", (.str "stat"))] : List (Str × D))
def fn : List He.DefD := [d_is_integer, d_ascends, d_orders, d_is_one_of, d__law_pot, d__law_take, d__law_all_cells, d__law_is_number, d_is_cell, d_is_order, d__law_pick, d__law_mixed, d__law_some, d__law_is_plan, d_is_policy, d__law_order_here, d__law_odd, d__law_plan, d__law_asked, d__law_bent, d__law_right, d_law]
def ss : List He.DefD := []
def fa : List He.Fa := [He.Fa.glo "is_integer", He.Fa.glo "ascends", He.Fa.glo "orders", He.Fa.glo "is_one_of", He.Fa.glo "_law_pot", He.Fa.glo "_law_take", He.Fa.glo "_law_all_cells", He.Fa.glo "_law_is_number", He.Fa.glo "is_cell", He.Fa.glo "is_order", He.Fa.glo "_law_pick", He.Fa.glo "_law_mixed", He.Fa.glo "_law_some", He.Fa.glo "_law_is_plan", He.Fa.glo "is_policy", He.Fa.glo "_law_order_here", He.Fa.glo "_law_odd", He.Fa.glo "_law_plan", He.Fa.glo "_law_asked", He.Fa.glo "_law_bent", He.Fa.glo "_law_right", He.Fa.glo "law", He.Fa.free "abs", He.Fa.free "all", He.Fa.free "bool", He.Fa.free "int", He.Fa.free "isinstance", He.Fa.free "len", He.Fa.free "list", He.Fa.free "max", He.Fa.free "min", He.Fa.free "range", He.Fa.free "repr", He.Fa.free "set", He.Fa.free "sorted", He.Fa.free "str", He.Fa.free "tuple", He.Fa.free "zip"]
def xf : List (PySem.W.Frag → Bool) := [smB]
def xs : List DefX := []
abbrev R : PySem.W.OpenRow := PySem.W.OpenLaw.row PySem.Challenge.rw_coarseclock_k05_policies_of_any_value
def asL : List Nat := [3, 6, 4, 21, 26, 27, 28, 29, 34, 41, 48, 53, 58, 65, 72, 79, 86, 91, 98, 105, 112, 119, 126, 133, 138, 145, 150, 155, 0, 20, 25, 33, 40, 47, 52, 57, 64, 71, 78, 85, 90, 97, 104, 111, 118, 125, 132, 137, 144, 149, 154, 15, 16, 17, 18, 19, 22, 23, 24, 30, 31, 32, 35, 36, 37, 38, 39, 42, 43, 44, 45, 46, 49, 50, 51, 54, 55, 56, 59, 60, 61, 62, 63, 66, 67, 68, 69, 70, 73, 74, 75, 76, 77, 80, 81, 82, 83, 84, 87, 88, 89, 92, 93, 94, 95, 96, 99, 100, 101, 102, 103, 106, 107, 108, 109, 110, 113, 114, 115, 116, 117, 120, 121, 122, 123, 124, 127, 128, 129, 130, 131, 134, 135, 136, 139, 140, 141, 142, 143, 146, 147, 148, 151, 152, 153, 2, 1]
abbrev hk : PySem.W.Hook := hookLS asL ss fa fn cs xf xs
def ob (s : PySem.W.SharedT) : AlS := obsLS asL ss fa fn cs xf xs (HandSHeadRun.getT s)
theorem ob_eq (s : PySem.W.SharedT) : ob s = hk.obs s.abs := obsLS_eq (HandSHeadRun.getT_eq s)
def loose : List Str := [("is_integer" : Str), ("ascends" : Str), ("NOTE" : Str), ("STAT" : Str), ("READ" : Str), ("LESS" : Str), ("MORE" : Str), ("SAME" : Str), ("OTHER" : Str), ("KINDS" : Str), ("RELATIONS" : Str), ("SIZES" : Str), ("MOST_WIDTH" : Str), ("PARTS" : Str), ("CELL_PARTS" : Str), ("orders" : Str), ("is_cell" : Str), ("is_one_of" : Str), ("is_order" : Str), ("is_policy" : Str), ("_law_pot" : Str), ("_law_take" : Str), ("_law_pick" : Str), ("_law_mixed" : Str), ("_law_some" : Str), ("_law_order_here" : Str), ("_law_all_cells" : Str), ("_law_plan" : Str), ("_law_is_number" : Str), ("_law_odd" : Str), ("_law_bent" : Str), ("_law_is_plan" : Str), ("_law_asked" : Str), ("_law_right" : Str)]
theorem run (w : World) : HandSHeadRun.RunEq R (PySem.W.view R.prog [37]) hk ob 4000 loose w := by
  intro os
  kernel_rfl
end Lw


namespace Lw
open PySem PySem.Spec L2 DM
local macro_rules | `(tactic| walk_at "q") => `(tactic| try simp only [q_ok, q_okR, q_if, q_C, q_ret, q_var, q_at, q_e1, q_e2, q_call, q_callB, q_nil, q_cons, q_tup, q_lst, q_cel, q_ifexp, q_blAt, q_bOf, q_bTru, q_bAnd, q_bOr, q_bNot, q_vAnd, q_vOr, q_vNot, q_chain, q_pureS, at0, at1, at2, q_iseq, q_seqL, q_seqF, q_rg1, q_rg2, q_itup, q_tupAt, q_iany, q_anyL, q_anyF, q_anyT, q_anyS, q_meth, q_p2, q_p3, q_unpT, q_setA, q_setA0, q_rhoAt, q_contR, q_contB, q_contC, q_callK, q_oN, q_oS, q_intAt, q_cut, f_tupL, f_tupT, f_listL, f_listT, f_listCL, f_listCT, f_cutT, f_cutL, q_aftN, q_aftC, q_aftB, q_aftR, q_pr, q_mtE, q_mtV, q_lone, q_gV, q_fnV, q_mkV, q_mkS, q_fld, q_isi, isi_ii, isi_ib, isi_tt, isi_ss, q_starS, q_star, f_itT, f_itL, q_join, q_enum, q_only, q_noExN, lookF_hit, f_addN, q_tName, q_tNil, q_tCons, q_tStar,
  f_add, f_sub, f_mul, f_div, f_mod, f_pow, f_neg, f_cmp, f_abs, f_intI, f_intB, f_max, f_min, f_lenL, f_lenF, f_lenT, f_ixL, f_ixF, f_ixT, f_eqI, f_neI, f_eqB, f_neB, f_eqT, f_neT, f_isB, f_isnotB, f_truB, f_truI, f_repr0, startR, wipeR, List.map_cons, List.map_nil, List.length_cons, List.length_nil, List.cons_append, List.nil_append, List.append_nil, List.getElem?_cons_zero, List.getElem?_cons_succ, List.set_cons_zero, List.set_cons_succ, List.replicate_succ, List.replicate_zero, Nat.reduceAdd, Nat.reduceSub, Int.reduceToNat, Int.reducePow])
local macro_rules | `(tactic| walk_at "go") => `(tactic| repeat (first | rw [q_cont] | rw [q_tCons] | rw [q_tName] | rw [q_tNil] | rw [q_tStar] | rw [q_only] | rw [q_noExN] | rw [q_seq] | rw [q_snil] | ((with_reducible refine q_asg ?_); walk_at "q") | ((with_reducible refine q_sret ?_); walk_at "q") | ((with_reducible refine q_spar2 ?_); walk_at "q") | ((with_reducible refine q_spar3 ?_); walk_at "q") | ((with_reducible refine q_sunp ?_); walk_at "q") | ((with_reducible refine q_drop ?_); walk_at "q") | ((with_reducible refine q_asgT ?_); walk_at "q") | ((with_reducible refine q_noEx ?_); walk_at "q") | ((with_reducible refine q_asg2 ?_); walk_at "q") | ((with_reducible refine q_tDSubG ?_); walk_at "q") | ((with_reducible refine q_sif ?_); walk_at "q") | ((with_reducible refine q_for ?_); walk_at "q")))
local macro_rules | `(tactic| walk_at "g1") => `(tactic| repeat (first | rw [q_cont] | rw [q_tCons] | rw [q_tName] | rw [q_tNil] | rw [q_tStar] | rw [q_only] | rw [q_noExN] | rw [q_seq] | rw [q_snil] | ((with_reducible refine q_asg ?_); walk_at "q") | ((with_reducible refine q_sret ?_); walk_at "q") | ((with_reducible refine q_spar2 ?_); walk_at "q") | ((with_reducible refine q_spar3 ?_); walk_at "q") | ((with_reducible refine q_sunp ?_); walk_at "q") | ((with_reducible refine q_drop ?_); walk_at "q") | ((with_reducible refine q_asgT ?_); walk_at "q") | ((with_reducible refine q_noEx ?_); walk_at "q") | ((with_reducible refine q_asg2 ?_); walk_at "q") | ((with_reducible refine q_tDSubG ?_); walk_at "q") | ((with_reducible refine q_for ?_); walk_at "q")))

open SX

/-! #### values of any sort -/
mutual
def sz : D → Nat
  | .str _ => 40
  | .tup xs => szs xs + 3
  | .lst xs => szs xs + 3
  | _ => 60
def szs : List D → Nat
  | [] => 0
  | x :: r => sz x + 2 + szs r
end
mutual
def dp : D → Nat
  | .tup xs => dps xs + 1
  | .lst xs => dps xs + 1
  | .ref _ => 1
  | _ => 0
def dps : List D → Nat
  | [] => 0
  | x :: r => max (dp x) (dps r)
end
theorem szs_app : ∀ {xs ys : List D}, szs (xs ++ ys) = szs xs + szs ys
  | [], ys => by simp [szs]
  | x :: r, ys => by simp only [List.cons_append, szs, szs_app (xs := r)]; omega
theorem szs_mem {x : D} : ∀ {xs : List D}, x ∈ xs → sz x + 2 ≤ szs xs
  | y :: r, h => by
    simp only [szs]
    rcases List.mem_cons.mp h with rfl | h
    · omega
    · have := szs_mem h; omega
theorem dps_mem {x : D} : ∀ {xs : List D}, x ∈ xs → dp x ≤ dps xs
  | y :: r, h => by
    simp only [dps]
    rcases List.mem_cons.mp h with rfl | h
    · omega
    · have := dps_mem h; omega
theorem dps_le {n : Nat} : ∀ {xs : List D}, (∀ x ∈ xs, dp x ≤ n) → dps xs ≤ n
  | [], _ => by simp [dps]
  | y :: r, h => by
    simp only [dps]
    have h1 := h y List.mem_cons_self
    have h2 := dps_le (n := n) fun x hx => h x (List.mem_cons_of_mem _ hx)
    omega
theorem szs_take {n : Nat} {xs : List D} : szs (xs.take n) ≤ szs xs := by
  have := szs_app (xs := xs.take n) (ys := xs.drop n)
  rw [List.take_append_drop] at this
  omega
theorem szs_drop {n : Nat} {xs : List D} : szs (xs.drop n) ≤ szs xs := by
  have := szs_app (xs := xs.take n) (ys := xs.drop n)
  rw [List.take_append_drop] at this
  omega
theorem szs_rev : ∀ {xs : List D}, szs xs.reverse = szs xs
  | [] => rfl
  | x :: r => by rw [List.reverse_cons, szs_app, szs_rev]; simp [szs]; omega
theorem szs_cut {xs : List D} {l u : Option Int} : szs (cutD xs l u) ≤ szs xs := Nat.le_trans szs_take szs_drop
theorem mem_cut {x : D} {xs : List D} {l u : Option Int} (h : x ∈ cutD xs l u) : x ∈ xs := List.mem_of_mem_drop (List.mem_of_mem_take h)

/-! #### the words and numbers that values are made of -/
def gaps13 : List Int := [-6, -5, -4, -3, -2, -1, 0, 1, 2, 3, 4, 5, 6]
def wordsP : List Str := ["note", "read", "stat", "write", "change", "less", "more", "same", "other"]
def allI : List Int := [-7, -6, -5, -4, -3, -2, -1, 0, 1, 2, 3, 4, 5, 6, 7, 1000000000000000000000000000000]
def oddS : List Str := ["", "a", "copy", "look", "touch"]
def allS : List Str := oddS ++ (wordsP ++ (wordsP.map fun (w : Str) => (w ++ ("x" : Str))) ++ (wordsP.map fun (w : Str) => Txt.slice w none (some (-1))) ++ (wordsP.map Txt.upper) ++ (gaps13.map fun i => Str.ofString (toString i)))
/-- a text with a short repr -/
def TxtV (s : Str) : Prop := PyData.strOk s = true ∧ (PyData.str s).showable = true ∧ (PyData.shown (.str s)).length ≤ 40 ∧ s ∈ allS
def txtB (s : Str) : Bool := PyData.strOk s && ((PyData.str s).showable && (decide ((PyData.shown (.str s)).length ≤ 40) && decide (s ∈ allS)))
theorem txt_dec {s : Str} (h : txtB s = true) : TxtV s := by
  unfold txtB at h
  simp only [Bool.and_eq_true, decide_eq_true_eq] at h
  exact ⟨h.1, h.2.1, h.2.2.1, h.2.2.2⟩
def IntS (i : Int) : Prop := (PyData.int i).showable = true ∧ (PyData.shown (.int i)).length ≤ 60 ∧ i ∈ allI
inductive Va (μ : Store) : D → Prop
  | non : Va μ .non
  | bl (b : Bool) : Va μ (.bl b)
  | int {i : Int} : IntS i → Va μ (.int i)
  | str {s : Str} : TxtV s → Va μ (.str s)
  | tup {xs : List D} : (∀ x ∈ xs, Va μ x) → Va μ (.tup xs)
  | lst {xs : List D} : (∀ x ∈ xs, Va μ x) → Va μ (.lst xs)
  | dct {i : Nat} : μ[i]? = some (.dct []) → Va μ (.ref i)
/-- empty dicts stay -/
def KeptD (μ ν : Store) : Prop := ∀ i : Nat, μ[i]? = some (Ob.dct []) → ν[i]? = some (Ob.dct [])
theorem KeptD.rfl {μ : Store} : KeptD μ μ := fun _ h => h
theorem KeptD.trans {μ ν ξ : Store} (a : KeptD μ ν) (b : KeptD ν ξ) : KeptD μ ξ := fun i h => b i (a i h)
theorem KeptD.app {μ t : Store} : KeptD μ (μ ++ t) := fun i h => by rw [List.getElem?_append_left (List.getElem?_eq_some_iff.mp h).1]; exact h
theorem Va.keep {μ ν : Store} {d : D} (h : Va μ d) (k : KeptD μ ν) : Va ν d := by
  induction h with
  | non => exact .non
  | bl b => exact .bl b
  | int h => exact .int h
  | str h => exact .str h
  | tup _ ih => exact .tup ih
  | lst _ ih => exact .lst ih
  | dct h => exact .dct (k _ h)
theorem Va.ref {μ : Store} {d : D} (h : Va μ d) : noRef μ.length d = true := by
  induction h with
  | non => rfl
  | bl b => rfl
  | int _ => rfl
  | str _ => rfl
  | tup _ ih => exact noRefs_all.mpr ih
  | lst _ ih => exact noRefs_all.mpr ih
  | dct h => exact decide_eq_true (List.getElem?_eq_some_iff.mp h).1
/-- its repr -/
def ShV (μ : Store) (d : D) : Prop := ∃ p, (∀ k, toPyX μ (k + dp d + 1) d = some p) ∧ p.showable = true ∧ p.depth ≤ dp d ∧ p.shown.length ≤ sz d
theorem shvs {μ : Store} : ∀ {xs : List D}, (∀ x ∈ xs, ShV μ x) → ∃ ps, (∀ k, toPyXs μ (k + dps xs + 1) xs = some ps) ∧ PyData.showableAll ps = true ∧ PyData.depthAll ps ≤ dps xs ∧ ((PyData.shownAll ps).map (·.length)).sum + 2 * (PyData.shownAll ps).length ≤ szs xs
  | [], _ => ⟨[], fun k => by simp [toPyXs], rfl, by simp [PyData.depthAll], by simp [PyData.shownAll, szs]⟩
  | x :: r, h => by
    obtain ⟨ps, h1, h2, h3, h4⟩ := shvs fun y hy => h y (List.mem_cons_of_mem _ hy)
    obtain ⟨p, g1, g2, g3, g4⟩ := h x List.mem_cons_self
    refine ⟨p :: ps, fun k => ?_, by simp [PyData.showableAll, g2, h2], by simp only [PyData.depthAll, dps]; omega, ?_⟩
    · have e1 := g1 (k + dps (x :: r) - dp x)
      have e2 := h1 (k + dps (x :: r) - dps r)
      have l1 : dp x ≤ dps (x :: r) := by simp only [dps]; omega
      have l2 : dps r ≤ dps (x :: r) := by simp only [dps]; omega
      rw [show k + dps (x :: r) - dp x + dp x + 1 = k + dps (x :: r) + 1 by omega] at e1
      rw [show k + dps (x :: r) - dps r + dps r + 1 = k + dps (x :: r) + 1 by omega] at e2
      simp only [toPyXs, e1, e2]
    · simp only [PyData.shownAll, List.map_cons, List.sum_cons, List.length_cons, szs]
      omega
theorem Va.shv {μ : Store} {d : D} (h : Va μ d) : ShV μ d := by
  induction h with
  | non => exact ⟨.none, fun k => by simp [toPyX, dp], by decide, by decide, by show _ ≤ 60; decide +kernel⟩
  | bl b => exact ⟨.bool b, fun k => by simp [toPyX, dp], by cases b <;> decide, by cases b <;> decide, by show _ ≤ 60; cases b <;> decide +kernel⟩
  | int h => exact ⟨_, fun k => by simp [toPyX, dp], h.1, Nat.le_of_eq rfl, h.2.1⟩
  | str h => exact ⟨_, fun k => by simp [toPyX, dp], h.2.1, Nat.le_of_eq rfl, h.2.2.1⟩
  | @tup xs _ ih =>
    obtain ⟨ps, h1, h2, h3, h4⟩ := shvs ih
    refine ⟨.tuple ps, fun k => ?_, by simp [PyData.showable, h2], by simp only [PyData.depth, dp]; omega, ?_⟩
    · show toPyX μ (k + (dps xs + 1) + 1) (.tup xs) = _
      rw [show k + (dps xs + 1) + 1 = (k + dps xs + 1) + 1 by omega]
      simp only [toPyX, h1 k, Option.map_some]
    · have := tupleText_len_le (PyData.shownAll ps)
      show (tupleText (PyData.shownAll ps)).length ≤ szs xs + 3
      omega
  | @lst xs _ ih =>
    obtain ⟨ps, h1, h2, h3, h4⟩ := shvs ih
    refine ⟨.list ps, fun k => ?_, by simp [PyData.showable, h2], by simp only [PyData.depth, dp]; omega, ?_⟩
    · show toPyX μ (k + (dps xs + 1) + 1) (.lst xs) = _
      rw [show k + (dps xs + 1) + 1 = (k + dps xs + 1) + 1 by omega]
      simp only [toPyX, h1 k, Option.map_some]
    · have := listText_len_le (PyData.shownAll ps)
      show (listText (PyData.shownAll ps)).length ≤ szs xs + 3
      omega
  | @dct i h => exact ⟨.dict [], fun k => by
      show toPyX μ (k + 1 + 1) (.ref i) = _
      simp [toPyX, h, toPyXk], by decide, by show _ ≤ 1; decide, by show _ ≤ 60; decide +kernel⟩
theorem Va.repr {μ : Store} {d : D} (h : Va μ d) (hd : dp d ≤ 60) (hs : sz d ≤ 900000) : ∃ s, FreprX [d] μ = okR (.str s) μ := by
  obtain ⟨p, h1, h2, h3, h4⟩ := h.shv
  have e := h1 (69 - dp d)
  rw [show 69 - dp d + dp d + 1 = 70 by omega] at e
  exact ⟨_, f_reprX e ⟨h2, by omega⟩ (size_ok (by omega))⟩

end Lw


namespace Lw
open PySem PySem.Spec L2 DM
local macro_rules | `(tactic| walk_at "q") => `(tactic| try simp only [q_ok, q_okR, q_if, q_C, q_ret, q_var, q_at, q_e1, q_e2, q_call, q_callB, q_nil, q_cons, q_tup, q_lst, q_cel, q_ifexp, q_blAt, q_bOf, q_bTru, q_bAnd, q_bOr, q_bNot, q_vAnd, q_vOr, q_vNot, q_chain, q_pureS, at0, at1, at2, q_iseq, q_seqL, q_seqF, q_rg1, q_rg2, q_itup, q_tupAt, q_iany, q_anyL, q_anyF, q_anyT, q_anyS, q_meth, q_p2, q_p3, q_unpT, q_setA, q_setA0, q_rhoAt, q_contR, q_contB, q_contC, q_callK, q_oN, q_oS, q_intAt, q_cut, f_tupL, f_tupT, f_listL, f_listT, f_listCL, f_listCT, f_cutT, f_cutL, q_aftN, q_aftC, q_aftB, q_aftR, q_pr, q_mtE, q_mtV, q_lone, q_gV, q_fnV, q_mkV, q_mkS, q_fld, q_isi, isi_ii, isi_ib, isi_tt, isi_ss, q_starS, q_star, f_itT, f_itL, q_join, q_enum, q_only, q_noExN, lookF_hit, f_addN, q_tName, q_tNil, q_tCons, q_tStar,
  f_add, f_sub, f_mul, f_div, f_mod, f_pow, f_neg, f_cmp, f_abs, f_intI, f_intB, f_max, f_min, f_lenL, f_lenF, f_lenT, f_ixL, f_ixF, f_ixT, f_eqI, f_neI, f_eqB, f_neB, f_eqT, f_neT, f_isB, f_isnotB, f_truB, f_truI, f_repr0, startR, wipeR, List.map_cons, List.map_nil, List.length_cons, List.length_nil, List.cons_append, List.nil_append, List.append_nil, List.getElem?_cons_zero, List.getElem?_cons_succ, List.set_cons_zero, List.set_cons_succ, List.replicate_succ, List.replicate_zero, Nat.reduceAdd, Nat.reduceSub, Int.reduceToNat, Int.reducePow])
local macro_rules | `(tactic| walk_at "go") => `(tactic| repeat (first | rw [q_cont] | rw [q_tCons] | rw [q_tName] | rw [q_tNil] | rw [q_tStar] | rw [q_only] | rw [q_noExN] | rw [q_seq] | rw [q_snil] | ((with_reducible refine q_asg ?_); walk_at "q") | ((with_reducible refine q_sret ?_); walk_at "q") | ((with_reducible refine q_spar2 ?_); walk_at "q") | ((with_reducible refine q_spar3 ?_); walk_at "q") | ((with_reducible refine q_sunp ?_); walk_at "q") | ((with_reducible refine q_drop ?_); walk_at "q") | ((with_reducible refine q_asgT ?_); walk_at "q") | ((with_reducible refine q_noEx ?_); walk_at "q") | ((with_reducible refine q_asg2 ?_); walk_at "q") | ((with_reducible refine q_tDSubG ?_); walk_at "q") | ((with_reducible refine q_sif ?_); walk_at "q") | ((with_reducible refine q_for ?_); walk_at "q")))
local macro_rules | `(tactic| walk_at "g1") => `(tactic| repeat (first | rw [q_cont] | rw [q_tCons] | rw [q_tName] | rw [q_tNil] | rw [q_tStar] | rw [q_only] | rw [q_noExN] | rw [q_seq] | rw [q_snil] | ((with_reducible refine q_asg ?_); walk_at "q") | ((with_reducible refine q_sret ?_); walk_at "q") | ((with_reducible refine q_spar2 ?_); walk_at "q") | ((with_reducible refine q_spar3 ?_); walk_at "q") | ((with_reducible refine q_sunp ?_); walk_at "q") | ((with_reducible refine q_drop ?_); walk_at "q") | ((with_reducible refine q_asgT ?_); walk_at "q") | ((with_reducible refine q_noEx ?_); walk_at "q") | ((with_reducible refine q_asg2 ?_); walk_at "q") | ((with_reducible refine q_tDSubG ?_); walk_at "q") | ((with_reducible refine q_for ?_); walk_at "q")))

open SX
theorem take_okP : DrawP F__law_take := take1_okP (by decide) (by decide) (by decide) (by decide)
theorem pool_ok : PoolOk F__law_pot := pool3_ok (by decide) (by decide) (by decide) (by decide) (by decide)
theorem pick_eq : F__law_pick = pickF F__law_take := rfl
section
variable {μ0 μ μ1 : Store} {p : Nat} {c c' : Int} {Q : D → Store → Prop}
/-- the store, of whose first cells the pool alone changed; the rest is closed -/
structure Sx (μ0 : Store) (p : Nat) (c : Int) (μ : Store) : Prop where
  pool : Pool p c μ
  clo : Clo μ
  len : μ0.length ≤ μ.length
  eq : ∀ j : Nat, j < μ0.length → j ≠ p → μ[j]? = μ0[j]?
theorem Sx.mono (h : Sx μ0 p c μ) (l : c ≤ c') : Sx μ0 p c' μ := ⟨h.pool.mono l, h.clo, h.len, h.eq⟩
theorem Sx.w (h : Sx μ0 p c μ) : Wz μ p c μ := ⟨⟨h.pool, h.clo⟩, Fr.refl _ _⟩
theorem Sx.step (h : Sx μ0 p c μ) (z : Wz μ p c' μ1) : Sx μ0 p c' μ1 := ⟨z.wd.pool, z.wd.clo, by rw [z.fr.len]; exact h.len, fun j hj hp => by rw [z.fr.eq j hp]; exact h.eq j hj hp⟩
theorem Sx.app (h : Sx μ0 p c μ) {o : Ob} (ho : obOk (μ.length + 1) o = true) : Sx μ0 p c (μ ++ [o]) :=
  ⟨h.pool.of (List.getElem?_append_left h.pool.lt), h.clo.app ho, by simp; have := h.len; omega, fun j hj hp => by rw [List.getElem?_append_left (by have := h.len; omega)]; exact h.eq j hj hp⟩
theorem Sx.of (hp : Pool p c μ) (hc : Clo μ) : Sx μ p c μ := ⟨hp, hc, Nat.le_refl _, fun _ _ _ => rfl⟩
theorem Sx.cut (h : Sx μ0 p c μ) (hp : p < μ0.length) (hpu : PureS μ0) : Wx μ0 p c (μ.take μ0.length) := by
  obtain ⟨a, b, c0, e, z⟩ := h.pool
  have ep : (μ.take μ0.length)[p]? = some (.lst [.int a, .int b, .int c0]) := by rw [List.getElem?_take_of_lt hp]; exact e
  have fr : ∀ j : Nat, j ≠ p → (μ.take μ0.length)[j]? = μ0[j]? := fun j hj => by
    by_cases hl : j < μ0.length
    · rw [List.getElem?_take_of_lt hl]; exact h.eq j hl hj
    · rw [List.getElem?_eq_none (by rw [List.length_take]; omega), List.getElem?_eq_none (by omega)]
  refine ⟨⟨⟨a, b, c0, ep, z⟩, fun o ho => ?_⟩, ⟨by rw [List.length_take]; have := h.len; omega, fr⟩⟩
  obtain ⟨j, hj⟩ := List.getElem?_of_mem ho
  by_cases q : j = p
  · subst q
    rw [ep] at hj
    cases hj
    rfl
  · rw [fr j q] at hj
    exact hpu o (List.mem_of_getElem? hj)

theorem Sx.trans (a : Sx μ0 p c μ) (b : Sx μ p c' μ1) : Sx μ0 p c' μ1 := ⟨b.pool, b.clo, Nat.le_trans a.len b.len, fun j hj hp => (b.eq j (by have := a.len; omega) hp).trans (a.eq j hj hp)⟩
theorem Sx.self (h : Sx μ0 p c μ) : Sx μ p c μ := Sx.of h.pool h.clo
theorem kd_wz (hp : Pool p c μ) (z : Wz μ p c' μ1) : KeptD μ μ1 := fun i h => by
  by_cases e : i = p
  · subst e
    obtain ⟨a, b, c0, e, _⟩ := hp
    rw [h] at e
    cases e
  · rw [z.fr.eq i e]; exact h
theorem Sx.kd (hp : Pool p c' μ0) (h : Sx μ0 p c μ) : KeptD μ0 μ := fun i e => by
  have hi := (List.getElem?_eq_some_iff.mp e).1
  by_cases q : i = p
  · subst q
    obtain ⟨a, b, c0, e', _⟩ := hp
    rw [e] at e'
    cases e'
  · rw [h.eq i hi q]; exact e
/-- plain data that may be bent -/
inductive Part : D → Prop
  | str {s : Str} : TxtV s → TxtV (s ++ "x") → TxtV (Txt.slice s none (some (-1))) → TxtV (Txt.upper s) → s.length ≤ 1000 → Part (.str s)
  | int {i : Int} : IntS i → IntS (i + 1) → IntS (i - 1) → IntS (-i) → TxtV (toString i) → i.natAbs.log2 < 1920 → Part (.int i)
  | tup {xs : List D} : (∀ x ∈ xs, Part x) → xs.length ≤ 400 → Part (.tup xs)
theorem Part.va {d : D} (h : Part d) : Va μ d := by
  induction h with
  | str h _ _ _ _ => exact .str h
  | int h _ _ _ _ _ => exact .int h
  | tup _ _ ih => exact .tup ih
theorem shps_of {n : Nat} : ∀ {xs : List D}, (∀ x ∈ xs, shp n x = true) → shps n xs = true
  | [], _ => rfl
  | x :: r, h => by
    show (shp n x && shps n r) = true
    rw [h x List.mem_cons_self, shps_of fun y hy => h y (List.mem_cons_of_mem _ hy)]
    rfl
theorem Part.shp {d : D} (h : Part d) : ∀ {n : Nat}, dp d ≤ n → shp n d = true := by
  induction h with
  | str h _ _ _ _ => intro n _; exact h.1
  | int h _ _ _ _ _ => intro n _; rfl
  | @tup xs _ _ ih =>
    intro n hn
    cases n with
    | zero => simp [dp] at hn
    | succ n =>
      have hn' : dps xs ≤ n := by simpa [dp] using hn
      exact shps_of fun x hx => ih x hx (Nat.le_trans (dps_mem hx) hn')
def Good (μ : Store) (S N : Nat) (v : D) : Prop := Va μ v ∧ sz v ≤ S ∧ dp v ≤ N
theorem int_small {i : Int} (h : ((PyData.int i).showable && (decide ((PyData.shown (.int i)).length ≤ 60) && decide (i ∈ allI))) = true) : IntS i := by
  simp only [Bool.and_eq_true, decide_eq_true_eq] at h
  exact h
theorem good6 {S N : Nat} (hS : 400 ≤ S) : ∀ v ∈ ([.non, .bl true, .bl false, .int 0, .int 1, .int (-1)] : List D), Good μ S N v := fun v h => by
  simp only [List.mem_cons, List.not_mem_nil, or_false] at h
  rcases h with rfl | rfl | rfl | rfl | rfl | rfl
  · exact ⟨.non, by simp [sz]; omega, by simp [dp]⟩
  · exact ⟨.bl _, by simp [sz]; omega, by simp [dp]⟩
  · exact ⟨.bl _, by simp [sz]; omega, by simp [dp]⟩
  · exact ⟨.int (int_small (by decide +kernel)), by simp [sz]; omega, by simp [dp]⟩
  · exact ⟨.int (int_small (by decide +kernel)), by simp [sz]; omega, by simp [dp]⟩
  · exact ⟨.int (int_small (by decide +kernel)), by simp [sz]; omega, by simp [dp]⟩
theorem good_txt {S N : Nat} (hS : 400 ≤ S) {s : Str} (h : txtB s = true) : Good μ S N (.str s) := ⟨.str (txt_dec h), by simp [sz]; omega, by simp [dp]⟩
theorem odd_fst {x : D} (hp : Pool p c μ) (hcl : Clo μ)
    (q : ∀ ν its, Sx μ p c ν → KeptD μ ν → its = [.non, .bl true, .bl false, .int 0, .int 1, .int (-1), .int 5, .int 1000000000000000000000000000000, .str "", .str "a", .str "same", .str "note", .str "write", .tup [], .lst [], .ref μ.length, .tup [.int 0]] →
      OkS (S__law_odd_1 [some (.ref p), some x, some (.lst its), none] ν) (fun f μ1 => match f with | .rt d => Q d μ1 | _ => False)) : Ok (F__law_odd [.ref p, x] μ) Q := by
  have s0 : Sx μ p c μ := Sx.of hp hcl
  refine q_fn rfl ?_
  unfold S__law_odd
  rw [q_seq]
  refine q_asg ?_
  walk_at "q"
  refine ⟨by decide +kernel, ?_⟩
  refine ⟨size_ok (by decide), size_ok (by decide), ?_⟩
  rw [q_dnew]
  refine ⟨size_ok (by decide), size_ok (by decide), ?_⟩
  have s1 : Sx μ p c (μ ++ [Ob.dct []]) := s0.app rfl
  rw [q_cont]
  refine (q _ _ s1 KeptD.app rfl).mono fun f μ1 h => ?_
  match f, h with
  | .rt d, h => exact h
theorem odd_pick {S N : Nat} {x : D} {ys : List D} {x3 : Option D} (s : Sx μ p c μ1) (kd : KeptD μ μ1) (hc : c < 900000) (h1 : 0 < ys.length) (h2 : ys.length < 1000) (hg : ∀ v ∈ ys, Good μ1 S N v) (q : ∀ v μ', Sx μ p (c + 1) μ' → KeptD μ μ' → Good μ' S N v → Q v μ') :
    OkS (S__law_odd_2 [some (.ref p), some x, some (.lst ys), x3] μ1) (fun f μ1 => match f with | .rt d => Q d μ1 | _ => False) := by
  unfold S__law_odd_2
  refine q_sret ?_
  rw [pick_eq]
  walk_at "q"
  refine (take_okP.pick s.w (by omega) h1 (by omega)).mono ?_
  rintro d μ2 ⟨hd, z⟩
  obtain ⟨g1, g2, g3⟩ := hg d hd
  have k2 := kd_wz s.pool z
  exact q d μ2 (s.step z) (kd.trans k2) ⟨g1.keep k2, g2, g3⟩
theorem f_addS {a b : Str} {ν : Store} (h : a.length + b.length ≤ 1000000) : Fadd (.str a) (.str b) ν = okR (.str (a ++ b)) ν := by
  show (if a.length + b.length ≤ sizeLine then okR (D.str (a ++ b)) ν else none) = _
  rw [if_pos (size_ok h)]
theorem f_cutS {a : Str} {l u : Option Int} {ν : Store} (h : a.length ≤ 1000000) : Fcut (.str a) l u ν = okR (.str (Txt.slice a l u)) ν := by
  show (if a.length ≤ sizeLine then okR (D.str (Txt.slice a l u)) ν else none) = _
  rw [if_pos (size_ok h)]
theorem f_strI {i : Int} {ν : Store} (h : i.natAbs.log2 < 1920) : Fstr [.int i] ν = okR (.str (toString i)) ν := by
  show (if i.natAbs.log2 < 1920 then okR (D.str (toString i)) ν else none) = _
  rw [if_pos h]
theorem odd_str {s : Str} (h : Part (.str s)) (hp : Pool p c μ) (hcl : Clo μ) (hc : c < 900000) (q : ∀ v μ', Sx μ p (c + 1) μ' → KeptD μ μ' → Good μ' 400 1 v → Q v μ') : Ok (F__law_odd [.ref p, .str s] μ) Q := by
  cases h with
  | str t1 t2 t3 t4 hl =>
  refine odd_fst hp hcl fun ν its sx kd hi => ?_
  unfold S__law_odd_1
  rw [q_seq]
  refine q_sif ?_
  walk_at "q"
  rw [show isiR "tuple" (.str s) ν = okR (.bl false) ν from rfl]
  walk_at "q"
  try simp only [Bool.false_eq_true, if_false]
  refine q_sif ?_
  walk_at "q"
  rw [if_pos trivial, q_seq]
  refine q_asg ?_
  rw [q_e2, q_cut]
  walk_at "q"
  rw [f_addS (by show s.length + 1 ≤ _; omega), q_okR, f_cutS (by omega), q_okR, f_upper hl, q_okR]
  refine ⟨size_ok (by decide), size_ok (by decide), ?_⟩
  rw [show cutD its none (some 6) = [.non, .bl true, .bl false, .int 0, .int 1, .int (-1)] from by subst hi; rfl, f_addL' (by simp), q_okR, q_cont]
  refine q_asg ?_
  walk_at "q"
  refine ⟨size_ok (by decide), ?_⟩
  rw [f_addL' (by simp), q_okR, q_cont]
  refine odd_pick sx kd hc (by simp) (by simp) (fun v hv => ?_) q
  rcases List.mem_append.mp hv with hv | hv
  · have hv : v ∈ ([.non, .bl true, .bl false, .int 0, .int 1, .int (-1)] : List D) ++ [D.str (s ++ "x"), D.str (Txt.slice s none (some (-1))), D.str (Txt.upper s), D.tup [D.str s], D.str "less", D.str "more", D.str "other"] := hv
    rcases List.mem_append.mp hv with hv | hv
    · exact good6 (by decide) v hv
    · simp only [List.mem_cons, List.not_mem_nil, or_false] at hv
      rcases hv with rfl | rfl | rfl | rfl | rfl | rfl | rfl
      · exact ⟨.str t2, by simp [sz], by simp [dp]⟩
      · exact ⟨.str t3, by simp [sz], by simp [dp]⟩
      · exact ⟨.str t4, by simp [sz], by simp [dp]⟩
      · exact ⟨.tup fun x hx => by rw [List.mem_singleton.mp hx]; exact .str t1, by simp [sz, szs], by simp [dp, dps]⟩
      · exact good_txt (by decide) (by decide +kernel)
      · exact good_txt (by decide) (by decide +kernel)
      · exact good_txt (by decide) (by decide +kernel)
  · simp only [List.mem_cons, List.not_mem_nil, or_false] at hv
    rcases hv with rfl | rfl | rfl
    · exact good_txt (by decide) (by decide +kernel)
    · exact good_txt (by decide) (by decide +kernel)
    · exact good_txt (by decide) (by decide +kernel)
theorem odd_int {i : Int} (h : Part (.int i)) (hp : Pool p c μ) (hcl : Clo μ) (hc : c < 900000) (q : ∀ v μ', Sx μ p (c + 1) μ' → KeptD μ μ' → Good μ' 400 1 v → Q v μ') : Ok (F__law_odd [.ref p, .int i] μ) Q := by
  cases h with
  | int t1 t2 t3 t4 t5 hl =>
  refine odd_fst hp hcl fun ν its sx kd hi => ?_
  unfold S__law_odd_1
  rw [q_seq]
  refine q_sif ?_
  walk_at "q"
  rw [show isiR "tuple" (.int i) ν = okR (.bl false) ν from rfl]
  walk_at "q"
  try simp only [Bool.false_eq_true, if_false]
  refine q_sif ?_
  walk_at "q"
  rw [show isiR "str" (.int i) ν = okR (.bl false) ν from rfl]
  walk_at "q"
  try simp only [Bool.false_eq_true, if_false]
  refine q_sif ?_
  walk_at "q"
  rw [if_pos trivial]
  refine q_asg ?_
  rw [q_e2, q_cut]
  walk_at "q"
  rw [f_strI hl, q_okR]
  refine ⟨size_ok (by decide), size_ok (by decide), ?_⟩
  rw [f_mulL ⟨by decide, size_ok (by simp)⟩, q_okR, show cutD its none (some 9) = [.non, .bl true, .bl false, .int 0, .int 1, .int (-1)] ++ [.int 5, .int 1000000000000000000000000000000, .str ""] from by subst hi; rfl, f_addL' (by simp), q_okR, q_cont]
  refine odd_pick sx kd hc (by simp) (by simp) (fun v hv => ?_) q
  rcases List.mem_append.mp hv with hv | hv
  · rcases List.mem_append.mp hv with hv | hv
    · exact good6 (by decide) v hv
    · simp only [List.mem_cons, List.not_mem_nil, or_false] at hv
      rcases hv with rfl | rfl | rfl
      · exact ⟨.int (int_small (by decide +kernel)), by simp [sz], by simp [dp]⟩
      · exact ⟨.int (int_small (by decide +kernel)), by simp [sz], by simp [dp]⟩
      · exact good_txt (by decide) (by decide +kernel)
  · obtain ⟨l, h1, h2⟩ := List.mem_flatten.mp hv
    rw [List.eq_of_mem_replicate h1] at h2
    simp only [List.mem_cons, List.not_mem_nil, or_false] at h2
    rcases h2 with rfl | rfl | rfl | rfl | rfl | rfl
    · exact ⟨.int t2, by simp [sz], by simp [dp]⟩
    · exact ⟨.int t3, by simp [sz], by simp [dp]⟩
    · exact ⟨.int t4, by simp [sz], by simp [dp]⟩
    · exact ⟨.str t5, by simp [sz], by simp [dp]⟩
    · exact ⟨.bl _, by simp [sz], by simp [dp]⟩
    · exact ⟨.tup fun x hx => by rw [List.mem_singleton.mp hx]; exact .int t1, by simp [sz, szs], by simp [dp, dps]⟩
theorem odd_tup {xs : List D} (h : Part (.tup xs)) (hp : Pool p c μ) (hcl : Clo μ) (hc : c < 900000) (q : ∀ v μ', Sx μ p (c + 1) μ' → KeptD μ μ' → Good μ' (3 * sz (.tup xs) + 400) (dp (.tup xs) + 1) v → Q v μ') : Ok (F__law_odd [.ref p, .tup xs] μ) Q := by
  cases h with
  | tup hx hl =>
  refine odd_fst hp hcl fun ν its sx kd hi => ?_
  have va : ∀ x ∈ xs, Va ν x := fun x h => (hx x h).va
  have sc : ∀ l u, szs (cutD xs l u) ≤ szs xs := fun l u => szs_cut
  have dc : ∀ l u, dps (cutD xs l u) ≤ dps xs := fun l u => dps_le fun x h => dps_mem (mem_cut h)
  have ht : sz (.tup xs) = szs xs + 3 := rfl
  have hd : dp (.tup xs) = dps xs + 1 := rfl
  unfold S__law_odd_1
  rw [q_seq]
  refine q_sif ?_
  walk_at "q"
  rw [if_pos trivial, q_seq]
  refine q_asg ?_
  walk_at "q"
  have hcl1 : (cutD xs (some (-1)) none).length ≤ 400 := by
    unfold cutD
    rw [List.length_take, List.length_drop]
    omega
  rw [f_addT' (by omega), q_okR]
  walk_at "q"
  refine ⟨size_ok (by decide), size_ok (by decide), ?_⟩
  rw [f_addT' (by simp; omega), q_okR]
  refine ⟨size_ok (by decide), ?_⟩
  rw [q_cont]
  refine q_asg ?_
  rw [q_e2, q_cut]
  walk_at "q"
  rw [f_mulL ⟨by decide, size_ok (by simp)⟩, q_okR, show cutD its none (some 6) = [.non, .bl true, .bl false, .int 0, .int 1, .int (-1)] from by subst hi; rfl, f_addL' (by simp), q_okR, q_cont]
  refine odd_pick sx kd hc (by simp) (by simp) (fun v hv => ?_) q
  rcases List.mem_append.mp hv with hv | hv
  · exact good6 (by omega) v hv
  · obtain ⟨l, h1, h2⟩ := List.mem_flatten.mp hv
    rw [List.eq_of_mem_replicate h1] at h2
    simp only [List.mem_cons, List.not_mem_nil, or_false] at h2
    have s1 := sc none (some (-1))
    have s2 := sc (some 1) none
    have s3 := sc (some (-1)) none
    have d1 := dc none (some (-1))
    have d2 := dc (some 1) none
    have d3 := dc (some (-1)) none
    rcases h2 with rfl | rfl | rfl | rfl | rfl | rfl | rfl
    · exact ⟨.lst va, by simp only [sz]; omega, by simp only [dp]; omega⟩
    · exact ⟨.tup fun x h => va x (mem_cut h), by simp only [sz]; omega, by simp only [dp]; omega⟩
    · exact ⟨.tup fun x h => va x (mem_cut h), by simp only [sz]; omega, by simp only [dp]; omega⟩
    · refine ⟨.tup fun x h => (List.mem_append.mp h).elim (va x) fun h => va x (mem_cut h), by simp only [sz, szs_app]; omega, ?_⟩
      have : dps (xs ++ cutD xs (some (-1)) none) ≤ dps xs := dps_le fun x h => (List.mem_append.mp h).elim dps_mem fun h => dps_mem (mem_cut h)
      simp only [dp]; omega
    · refine ⟨.tup fun x h => va x (List.mem_reverse.mp h), by simp only [sz, szs_rev]; omega, ?_⟩
      have : dps xs.reverse ≤ dps xs := dps_le fun x h => dps_mem (List.mem_reverse.mp h)
      simp only [dp]; omega
    · exact ⟨.tup fun x h => by rw [List.mem_singleton.mp h]; exact .tup va, by simp only [sz, szs]; omega, by simp only [dp, dps]; omega⟩
    · refine ⟨.tup fun x h => (List.mem_append.mp h).elim (va x) fun h => by rw [List.mem_singleton.mp h]; exact .int (int_small (by decide +kernel)), by simp only [sz, szs_app, szs]; omega, ?_⟩
      have : dps (xs ++ [D.int 0]) ≤ dps xs := dps_le fun x h => (List.mem_append.mp h).elim dps_mem fun h => by rw [List.mem_singleton.mp h]; simp [dp]
      simp only [dp]; omega
theorem odd_ok {d : D} (h : Part d) (hp : Pool p c μ) (hcl : Clo μ) (hc : c < 900000) (q : ∀ v μ', Sx μ p (c + 1) μ' → KeptD μ μ' → Good μ' (3 * sz d + 400) (dp d + 1) v → Q v μ') : Ok (F__law_odd [.ref p, d] μ) Q := by
  cases h with
  | str t1 t2 t3 t4 hl => exact odd_str (.str t1 t2 t3 t4 hl) hp hcl hc fun v μ' s k g => q v μ' s k ⟨g.1, by have := g.2.1; omega, by have := g.2.2; omega⟩
  | int t1 t2 t3 t4 t5 hl => exact odd_int (.int t1 t2 t3 t4 t5 hl) hp hcl hc fun v μ' s k g => q v μ' s k ⟨g.1, by have := g.2.1; omega, by have := g.2.2; omega⟩
  | tup hx hl => exact odd_tup (.tup hx hl) hp hcl hc fun v μ' s k g => q v μ' s k ⟨g.1, by have := g.2.1; omega, g.2.2⟩
end

end Lw


namespace Lw
open PySem PySem.Spec L2 DM
local macro_rules | `(tactic| walk_at "q") => `(tactic| try simp only [q_ok, q_okR, q_if, q_C, q_ret, q_var, q_at, q_e1, q_e2, q_call, q_callB, q_nil, q_cons, q_tup, q_lst, q_cel, q_ifexp, q_blAt, q_bOf, q_bTru, q_bAnd, q_bOr, q_bNot, q_vAnd, q_vOr, q_vNot, q_chain, q_pureS, at0, at1, at2, q_iseq, q_seqL, q_seqF, q_rg1, q_rg2, q_itup, q_tupAt, q_iany, q_anyL, q_anyF, q_anyT, q_anyS, q_meth, q_p2, q_p3, q_unpT, q_setA, q_setA0, q_rhoAt, q_contR, q_contB, q_contC, q_callK, q_oN, q_oS, q_intAt, q_cut, f_tupL, f_tupT, f_listL, f_listT, f_listCL, f_listCT, f_cutT, f_cutL, q_aftN, q_aftC, q_aftB, q_aftR, q_pr, q_mtE, q_mtV, q_lone, q_gV, q_fnV, q_mkV, q_mkS, q_fld, q_isi, isi_ii, isi_ib, isi_tt, isi_ss, q_starS, q_star, f_itT, f_itL, q_join, q_enum, q_only, q_noExN, lookF_hit, f_addN, q_tName, q_tNil, q_tCons, q_tStar,
  f_add, f_sub, f_mul, f_div, f_mod, f_pow, f_neg, f_cmp, f_abs, f_intI, f_intB, f_max, f_min, f_lenL, f_lenF, f_lenT, f_ixL, f_ixF, f_ixT, f_eqI, f_neI, f_eqB, f_neB, f_eqT, f_neT, f_isB, f_isnotB, f_truB, f_truI, f_repr0, startR, wipeR, List.map_cons, List.map_nil, List.length_cons, List.length_nil, List.cons_append, List.nil_append, List.append_nil, List.getElem?_cons_zero, List.getElem?_cons_succ, List.set_cons_zero, List.set_cons_succ, List.replicate_succ, List.replicate_zero, Nat.reduceAdd, Nat.reduceSub, Int.reduceToNat, Int.reducePow])
local macro_rules | `(tactic| walk_at "go") => `(tactic| repeat (first | rw [q_cont] | rw [q_tCons] | rw [q_tName] | rw [q_tNil] | rw [q_tStar] | rw [q_only] | rw [q_noExN] | rw [q_seq] | rw [q_snil] | ((with_reducible refine q_asg ?_); walk_at "q") | ((with_reducible refine q_sret ?_); walk_at "q") | ((with_reducible refine q_spar2 ?_); walk_at "q") | ((with_reducible refine q_spar3 ?_); walk_at "q") | ((with_reducible refine q_sunp ?_); walk_at "q") | ((with_reducible refine q_drop ?_); walk_at "q") | ((with_reducible refine q_asgT ?_); walk_at "q") | ((with_reducible refine q_noEx ?_); walk_at "q") | ((with_reducible refine q_asg2 ?_); walk_at "q") | ((with_reducible refine q_tDSubG ?_); walk_at "q") | ((with_reducible refine q_sif ?_); walk_at "q") | ((with_reducible refine q_for ?_); walk_at "q")))
local macro_rules | `(tactic| walk_at "g1") => `(tactic| repeat (first | rw [q_cont] | rw [q_tCons] | rw [q_tName] | rw [q_tNil] | rw [q_tStar] | rw [q_only] | rw [q_noExN] | rw [q_seq] | rw [q_snil] | ((with_reducible refine q_asg ?_); walk_at "q") | ((with_reducible refine q_sret ?_); walk_at "q") | ((with_reducible refine q_spar2 ?_); walk_at "q") | ((with_reducible refine q_spar3 ?_); walk_at "q") | ((with_reducible refine q_sunp ?_); walk_at "q") | ((with_reducible refine q_drop ?_); walk_at "q") | ((with_reducible refine q_asgT ?_); walk_at "q") | ((with_reducible refine q_noEx ?_); walk_at "q") | ((with_reducible refine q_asg2 ?_); walk_at "q") | ((with_reducible refine q_tDSubG ?_); walk_at "q") | ((with_reducible refine q_for ?_); walk_at "q")))

open SX
section
variable {μ0 μ μ1 : Store} {p : Nat} {c c' : Int} {Q : D → Store → Prop} {xs : List D}
/-- what bending gives, within this bound -/
def BentOk (FR : FD) (n : Nat) : Prop := ∀ {p : Nat} {c : Int} {μ : Store} {Q : D → Store → Prop} {d : D} {k : Int}, Part d → dp d ≤ 50 → 0 ≤ k → k < n → Pool p c μ → Clo μ → c + 4 * n < 900000 →
  (∀ v μ', Sx μ p (c + 4 * n) μ' → KeptD μ μ' → Good μ' (3 * sz d + 400 * n) (dp d + 1) v → Q v μ') → Ok (FR [.ref p, d, .int k] μ) Q
theorem good_list {S N : Nat} {ys : List D} (h : ∀ x ∈ ys, Va μ x ∧ dp x + 1 ≤ N) (hs : szs ys + 3 ≤ S) (hN : 1 ≤ N) : Good μ S N (.tup ys) := by
  refine ⟨.tup fun x hx => (h x hx).1, hs, ?_⟩
  have : dps ys ≤ N - 1 := dps_le fun x hx => by have := (h x hx).2; omega
  show dps ys + 1 ≤ N
  omega
theorem szs_split {a b : Int} (h0 : 0 ≤ a) (h1 : a ≤ b) (h2 : b ≤ xs.length) : szs (cutD xs none (some a)) + szs (cutD xs (some b) none) ≤ szs xs := by
  obtain ⟨n, rfl⟩ := Int.eq_ofNat_of_zero_le h0
  obtain ⟨m, rfl⟩ := Int.eq_ofNat_of_zero_le (Int.le_trans h0 h1)
  rw [cut_take, cut_drop]
  have e1 := szs_app (xs := xs.take n) (ys := xs.drop n)
  rw [List.take_append_drop] at e1
  have e2 := szs_drop (n := m - n) (xs := xs.drop n)
  rw [List.drop_drop, show n + (m - n) = m by omega] at e2
  omega
theorem szs_one {a : Int} {x : D} (h0 : 0 ≤ a) (h1 : a < xs.length) (e : atI xs a = some x) : szs (cutD xs none (some a)) + (sz x + 2) + szs (cutD xs (some (a + 1)) none) = szs xs := by
  obtain ⟨n, rfl⟩ := Int.eq_ofNat_of_zero_le h0
  obtain ⟨x', e1, e2⟩ := at_lt (xs := xs) h0 h1
  rw [e] at e1
  cases e1
  rw [show ((n : Int) + 1) = ((n + 1 : Nat) : Int) by omega, cut_take, cut_drop]
  have hn : n < xs.length := by omega
  have ex : xs[n] = x := by
    rw [Int.toNat_natCast, List.getElem?_eq_getElem hn] at e2
    exact Option.some.inj e2
  have e3 := szs_app (xs := xs.take n) (ys := xs.drop n)
  rw [List.take_append_drop, List.drop_eq_getElem_cons hn] at e3
  simp only [szs, ex] at e3
  omega
theorem cut_len {l u : Option Int} : (cutD xs l u).length ≤ xs.length := by
  unfold cutD
  rw [List.length_take, List.length_drop]
  omega
theorem bent0 : BentOk F__law_bent_0 0 := fun _ _ h0 h1 _ _ _ _ => absurd h1 (by omega)
theorem bent_next {FR : FD} {n : Nat} (hR : BentOk FR n) : BentOk (fnP 5 3 (S__law_bent FR)) (n + 1) := by
  intro p c μ Q d k hd hdp hk0 hk hp hcl hc q
  have s0 : Sx μ p c μ := Sx.of hp hcl
  have e4 : ((n + 1 : Nat) : Int) = (n : Int) + 1 := by omega
  rw [e4] at hc q
  have odd : ∀ {T : SF} {x3 x4 : Option D} {ν : Store} {c2 : Int}, Sx μ p c2 ν → KeptD μ ν → c2 ≤ c + 2 → OkS (sRet (eCall F__law_odd (aCons (eVar 0) (aCons (eVar 1) aNil)) []) [some (.ref p), some d, some (.int k), x3, x4] ν) (contS T (fun f μ1 => match f with | .nx _ => Q .non μ1 | .rt d => Q d μ1 | _ => False)) := fun {T x3 x4 ν c2} s kd hc2 => by
    refine q_sret ?_
    walk_at "q"
    exact odd_ok hd s.pool s.clo (by omega) fun v μ' s' k' g => q v μ' ((s.trans s').mono (by omega)) (kd.trans k') ⟨g.1, Nat.le_trans g.2.1 (by omega), g.2.2⟩
  refine q_fn rfl ?_
  unfold S__law_bent
  rw [q_seq]
  refine q_sif ?_
  rw [q_bOr, q_bNot, q_bTru, q_isi]
  walk_at "q"
  cases hd with
  | str t1 t2 t3 t4 hl =>
    rw [show isiR "tuple" (.str _) μ = okR (.bl false) μ from rfl]
    walk_at "q"
    try simp only [Bool.not_false, if_true]
    exact odd s0 KeptD.rfl (by omega)
  | int t1 t2 t3 t4 t5 hl =>
    rw [show isiR "tuple" (.int _) μ = okR (.bl false) μ from rfl]
    walk_at "q"
    try simp only [Bool.not_false, if_true]
    exact odd s0 KeptD.rfl (by omega)
  | @tup xs hx hl =>
    walk_at "q"
    have hd : Part (.tup xs) := .tup hx hl
    have hdx : dp (.tup xs) = dps xs + 1 := rfl
    have hsx : sz (.tup xs) = szs xs + 3 := rfl
    simp only [Bool.not_true, Bool.false_eq_true, if_false]
    refine ⟨size_ok (by decide), ?_⟩
    rw [f_eqD (hd.shp (by omega)) rfl (by cases xs <;> rfl), q_okR]
    walk_at "q"
    by_cases hnil : xs = []
    · rw [decide_eq_true (by rw [hnil])]
      simp only [if_true]
      exact odd s0 KeptD.rfl (by omega)
    rw [decide_eq_false (fun z => hnil (by cases z; rfl))]
    simp only [Bool.false_eq_true, if_false]
    by_cases hk : k = 0
    · subst hk
      try simp only [beq_self_eq_true, if_true]
      exact odd s0 KeptD.rfl (by omega)
    rw [show (k == 0) = false from by simp [hk]]
    simp only [Bool.false_eq_true, if_false]
    refine (take_okP.z (n := 6) s0.w (by omega) (by decide) (by decide)).mono ?_
    rintro dr μ1 ⟨r, rfl, r0, r6, z⟩
    have s1 := s0.step z
    have k1 := kd_wz s0.pool z
    walk_at "q"
    by_cases hr : r = 0
    · subst hr
      try simp only [beq_self_eq_true, if_true]
      exact odd s1 k1 (by omega)
    rw [show (r == 0) = false from by simp [hr]]
    simp only [Bool.false_eq_true, if_false]
    rw [q_snil, q_cont]
    unfold S__law_bent_1
    rw [q_seq]
    refine q_spar2 ?_
    walk_at "q"
    have hlen : 0 < xs.length := List.length_pos_iff.mpr hnil
    refine (take_okP.z (n := (xs.length : Int)) s1.w (by omega) (by omega) (by omega)).mono ?_
    rintro dr μ2 ⟨at_, rfl, a0, a1, z2⟩
    have s2 := s1.step z2
    have k2 := k1.trans (kd_wz s1.pool z2)
    walk_at "q"
    refine (take_okP.z (n := 9) s2.w (by omega) (by decide) (by decide)).mono ?_
    rintro dr μ3 ⟨way, rfl, w0, w1, z3⟩
    have s3 := (s2.step z3).mono (show c + 1 + 1 + 1 ≤ c + 3 by omega)
    have k3 := k2.trans (kd_wz s2.pool z3)
    have va : ∀ x ∈ xs, Va μ3 x ∧ dp x + 1 ≤ dp (.tup xs) + 1 := fun x h => ⟨(hx x h).va, by have := dps_mem h; omega⟩
    have sc : ∀ l u, szs (cutD xs l u) ≤ szs xs := fun l u => szs_cut
    have cl : ∀ l u, (cutD xs l u).length ≤ xs.length := fun l u => cut_len
    have fin : ∀ {ys : List D}, (∀ x ∈ ys, Va μ3 x ∧ dp x + 1 ≤ dp (.tup xs) + 1) → szs ys + 3 ≤ 3 * sz (.tup xs) + 400 → Q (.tup ys) μ3 := fun {ys} h hs => q _ _ (s3.mono (by omega)) k3 (good_list h (by omega) (by omega))
    rw [q_cont]
    unfold S__law_bent_2
    rw [q_seq]
    refine q_sif ?_
    walk_at "q"
    by_cases hw : way = 0
    · subst hw
      simp only [beq_self_eq_true, if_true]
      refine q_sret ?_
      walk_at "q"
      have h1 := cl none (some at_)
      have h2 := cl (some (at_ + 1)) none
      have g1 := sc none (some at_)
      have g2 := sc (some (at_ + 1)) none
      rw [f_addT' (by omega), q_okR]
      exact fin (fun x h => (List.mem_append.mp h).elim (fun h => va x (mem_cut h)) fun h => va x (mem_cut h)) (by rw [szs_app]; omega)
    rw [show (way == 0) = false from by simp [hw]]
    simp only [Bool.false_eq_true, if_false]
    rw [q_snil, q_cont]
    unfold S__law_bent_3
    rw [q_seq]
    refine q_sif ?_
    walk_at "q"
    by_cases hw1 : way = 1
    · subst hw1
      simp only [beq_self_eq_true, if_true]
      refine q_sret ?_
      walk_at "q"
      have h1 := cl none (some (at_ + 1))
      have h2 := cl (some at_) none
      have g1 := sc none (some (at_ + 1))
      have g2 := sc (some at_) none
      rw [f_addT' (by omega), q_okR]
      exact fin (fun x h => (List.mem_append.mp h).elim (fun h => va x (mem_cut h)) fun h => va x (mem_cut h)) (by rw [szs_app]; omega)
    rw [show (way == 1) = false from by simp [hw1]]
    simp only [Bool.false_eq_true, if_false]
    rw [q_snil, q_cont]
    unfold S__law_bent_4
    obtain ⟨x, ex, hxm⟩ := atI_in a0 a1
    have last : OkS (S__law_bent_5 FR [some (.ref p), some (.tup xs), some (.int k), some (.int at_), some (.int way)] μ3) (fun f μ1 => match f with | .nx _ => Q .non μ1 | .rt d => Q d μ1 | _ => False) := by
      unfold S__law_bent_5
      refine q_sret ?_
      walk_at "q"
      rw [ex, q_pureS]
      walk_at "q"
      refine hR (hx x hxm) (by have := dps_mem hxm; omega) (by omega) (by omega) s3.pool s3.clo (by omega) fun v μ4 s4 k4 g => ?_
      refine ⟨size_ok (by decide), ?_⟩
      have h1 := cl none (some at_)
      have h2 := cl (some (at_ + 1)) none
      have g1 := sc none (some at_)
      have g2 := sc (some (at_ + 1)) none
      rw [f_addT' (by simp; omega), q_okR]
      walk_at "q"
      rw [f_addT' (by simp; omega), q_okR]
      have hsx2 := szs_mem hxm
      have hdx2 := dps_mem hxm
      have va4 : ∀ y ∈ xs, Va μ4 y ∧ dp y + 1 ≤ dp (.tup xs) + 1 := fun y h => ⟨(va y h).1.keep k4, (va y h).2⟩
      have sp := szs_one (xs := xs) (a := at_) a0 a1 ex
      have hg := g.2.1
      refine q _ μ4 ((s3.trans s4).mono (by omega)) (k3.trans k4) (good_list (fun y h => ?_) ?_ (by omega))
      · simp only [List.mem_append, List.mem_cons, List.not_mem_nil, or_false] at h
        rcases h with (h | h) | h
        · exact va4 y (mem_cut h)
        · rw [h]; exact ⟨g.1, by have := g.2.2; omega⟩
        · exact va4 y (mem_cut h)
      · simp only [szs_app, szs]
        omega
    rw [q_seq]
    refine q_sif ?_
    walk_at "q"
    by_cases hw2 : way = 2
    · subst hw2
      simp only [beq_self_eq_true, if_true]
      by_cases hap : at_ > 0
      · rw [decide_eq_true hap]
        simp only [if_true]
        obtain ⟨y, ey, hym⟩ := atI_in (xs := xs) (r := at_ - 1) (by omega) (by omega)
        refine q_sret ?_
        walk_at "q"
        rw [ex, q_pureS]
        walk_at "q"
        rw [ey, q_pureS]
        walk_at "q"
        refine ⟨size_ok (by decide), ?_⟩
        have h1 := cl none (some (at_ - 1))
        have h2 := cl (some (at_ + 1)) none
        have g1 := szs_split (xs := xs) (a := at_ - 1) (b := at_ + 1) (by omega) (by omega) (by omega)
        have hx2 := szs_mem hxm
        have hy2 := szs_mem hym
        rw [f_addT' (by simp; omega), q_okR]
        walk_at "q"
        rw [f_addT' (by simp; omega), q_okR]
        refine fin (fun z h => ?_) (by simp only [szs_app, szs]; omega)
        simp only [List.mem_append, List.mem_cons, List.not_mem_nil, or_false] at h
        rcases h with (h | h | h) | h
        · exact va z (mem_cut h)
        · rw [h]; exact va x hxm
        · rw [h]; exact va y hym
        · exact va z (mem_cut h)
      · rw [decide_eq_false hap]
        simp only [Bool.false_eq_true, if_false]
        rw [q_snil, q_cont]
        exact last
    rw [show (way == 2) = false from by simp [hw2]]
    simp only [Bool.false_eq_true, if_false]
    rw [q_snil, q_cont]
    exact last
end

end Lw


namespace Lw
open PySem PySem.Spec L2 DM
local macro_rules | `(tactic| walk_at "q") => `(tactic| try simp only [q_ok, q_okR, q_if, q_C, q_ret, q_var, q_at, q_e1, q_e2, q_call, q_callB, q_nil, q_cons, q_tup, q_lst, q_cel, q_ifexp, q_blAt, q_bOf, q_bTru, q_bAnd, q_bOr, q_bNot, q_vAnd, q_vOr, q_vNot, q_chain, q_pureS, at0, at1, at2, q_iseq, q_seqL, q_seqF, q_rg1, q_rg2, q_itup, q_tupAt, q_iany, q_anyL, q_anyF, q_anyT, q_anyS, q_meth, q_p2, q_p3, q_unpT, q_setA, q_setA0, q_rhoAt, q_contR, q_contB, q_contC, q_callK, q_oN, q_oS, q_intAt, q_cut, f_tupL, f_tupT, f_listL, f_listT, f_listCL, f_listCT, f_cutT, f_cutL, q_aftN, q_aftC, q_aftB, q_aftR, q_pr, q_mtE, q_mtV, q_lone, q_gV, q_fnV, q_mkV, q_mkS, q_fld, q_isi, isi_ii, isi_ib, isi_tt, isi_ss, q_starS, q_star, f_itT, f_itL, q_join, q_enum, q_only, q_noExN, lookF_hit, f_addN, q_tName, q_tNil, q_tCons, q_tStar,
  f_add, f_sub, f_mul, f_div, f_mod, f_pow, f_neg, f_cmp, f_abs, f_intI, f_intB, f_max, f_min, f_lenL, f_lenF, f_lenT, f_ixL, f_ixF, f_ixT, f_eqI, f_neI, f_eqB, f_neB, f_eqT, f_neT, f_isB, f_isnotB, f_truB, f_truI, f_repr0, startR, wipeR, List.map_cons, List.map_nil, List.length_cons, List.length_nil, List.cons_append, List.nil_append, List.append_nil, List.getElem?_cons_zero, List.getElem?_cons_succ, List.set_cons_zero, List.set_cons_succ, List.replicate_succ, List.replicate_zero, Nat.reduceAdd, Nat.reduceSub, Int.reduceToNat, Int.reducePow])
local macro_rules | `(tactic| walk_at "go") => `(tactic| repeat (first | rw [q_cont] | rw [q_tCons] | rw [q_tName] | rw [q_tNil] | rw [q_tStar] | rw [q_only] | rw [q_noExN] | rw [q_seq] | rw [q_snil] | ((with_reducible refine q_asg ?_); walk_at "q") | ((with_reducible refine q_sret ?_); walk_at "q") | ((with_reducible refine q_spar2 ?_); walk_at "q") | ((with_reducible refine q_spar3 ?_); walk_at "q") | ((with_reducible refine q_sunp ?_); walk_at "q") | ((with_reducible refine q_drop ?_); walk_at "q") | ((with_reducible refine q_asgT ?_); walk_at "q") | ((with_reducible refine q_noEx ?_); walk_at "q") | ((with_reducible refine q_asg2 ?_); walk_at "q") | ((with_reducible refine q_tDSubG ?_); walk_at "q") | ((with_reducible refine q_sif ?_); walk_at "q") | ((with_reducible refine q_for ?_); walk_at "q")))
local macro_rules | `(tactic| walk_at "g1") => `(tactic| repeat (first | rw [q_cont] | rw [q_tCons] | rw [q_tName] | rw [q_tNil] | rw [q_tStar] | rw [q_only] | rw [q_noExN] | rw [q_seq] | rw [q_snil] | ((with_reducible refine q_asg ?_); walk_at "q") | ((with_reducible refine q_sret ?_); walk_at "q") | ((with_reducible refine q_spar2 ?_); walk_at "q") | ((with_reducible refine q_spar3 ?_); walk_at "q") | ((with_reducible refine q_sunp ?_); walk_at "q") | ((with_reducible refine q_drop ?_); walk_at "q") | ((with_reducible refine q_asgT ?_); walk_at "q") | ((with_reducible refine q_noEx ?_); walk_at "q") | ((with_reducible refine q_asg2 ?_); walk_at "q") | ((with_reducible refine q_tDSubG ?_); walk_at "q") | ((with_reducible refine q_for ?_); walk_at "q")))

/-! #### reprs of values are read -/
def atomsP : List PyData := [.none, .bool true, .bool false] ++ (allI.map PyData.int ++ allS.map PyData.str)
abbrev shL (p : PyData) : List Nat := (PyData.shown p).cps.toList
theorem atoms_free : (atomsP.all fun p => (shL p).all fun c => !decide (c = 40) && (!decide (c = 91) && (!decide (c = 123) && (!decide (c = 44) && decide (c < 0x110000))))) = true := by decide +kernel
theorem atom_free {p : PyData} (h : p ∈ atomsP) {c : Nat} (hc : c ∈ shL p) : c ≠ 40 ∧ c ≠ 91 ∧ c ≠ 123 ∧ c ≠ 44 ∧ c < 0x110000 := by
  have := List.all_eq_true.mp (List.all_eq_true.mp atoms_free p h) c hc
  simp only [Bool.and_eq_true, Bool.not_eq_true', decide_eq_false_iff_not, decide_eq_true_eq] at this
  exact this
theorem atoms_nd : (atomsP.map shL).Nodup := by decide +kernel
theorem nd_inj {α β : Type} {f : α → β} : ∀ {l : List α}, (l.map f).Nodup → ∀ a ∈ l, ∀ b ∈ l, f a = f b → a = b
  | x :: r, h, a, ha, b, hb, e => by
    rw [List.map_cons] at h
    obtain ⟨h1, h2⟩ := List.nodup_cons.mp h
    rcases List.mem_cons.mp ha with ea | ha
    · rcases List.mem_cons.mp hb with eb | hb
      · rw [ea, eb]
      · exact absurd (List.mem_map.mpr ⟨b, hb, by rw [← e, ea]⟩) h1
    · rcases List.mem_cons.mp hb with eb | hb
      · exact absurd (List.mem_map.mpr ⟨a, ha, by rw [e, eb]⟩) h1
      · exact nd_inj h2 a ha b hb e
theorem atom_inj {p q : PyData} (hp : p ∈ atomsP) (hq : q ∈ atomsP) (e : shL p = shL q) : p = q := nd_inj atoms_nd p hp q hq e
/-- what values are made of -/
inductive Pv : PyData → Prop
  | atom {p : PyData} : p ∈ atomsP → Pv p
  | tu {ps : List PyData} : (∀ p ∈ ps, Pv p) → Pv (.tuple ps)
  | li {ps : List PyData} : (∀ p ∈ ps, Pv p) → Pv (.list ps)
  | di : Pv (.dict [])
theorem cps_app (a b : Str) : (a ++ b).cps.toList = a.cps.toList ++ b.cps.toList := by
  show (a.cps ++ b.cps).toList = _
  rw [Array.toList_append]
def J : List (List Nat) → List Nat
  | [] => []
  | [x] => x
  | x :: y :: r => x ++ (44 :: 32 :: J (y :: r))
theorem join_cps : ∀ ts : List Str, (Str.join ", " ts).cps.toList = J (ts.map fun t => t.cps.toList)
  | [] => rfl
  | [x] => rfl
  | x :: y :: r => by
    show (x ++ ", " ++ Str.join ", " (y :: r)).cps.toList = x.cps.toList ++ (44 :: 32 :: J ((y :: r).map fun t => t.cps.toList))
    rw [cps_app, cps_app, join_cps (y :: r), show ((", " : String) : Str).cps.toList = [44, 32] from by decide +kernel]
    simp
theorem J_count {c : Nat} : ∀ L : List (List Nat), (J L).count c = (L.map (List.count c)).sum + (if c = 44 ∨ c = 32 then L.length - 1 else 0)
  | [] => by simp [J]
  | [x] => by simp [J]
  | x :: y :: r => by
    have ih := J_count (c := c) (y :: r)
    simp only [J, List.count_append, List.count_cons, ih, List.map_cons, List.sum_cons, List.length_cons]
    by_cases h1 : c = 44
    · subst h1; simp; omega
    · by_cases h2 : c = 32
      · subst h2; simp; omega
      · have h3 : ¬ 44 = c := fun e => h1 e.symm
        have h4 : ¬ 32 = c := fun e => h2 e.symm
        simp [h1, h2, h3, h4]
theorem J_mem {c : Nat} (h1 : c ≠ 44) (h2 : c ≠ 32) : ∀ {L : List (List Nat)}, c ∈ J L ↔ ∃ x ∈ L, c ∈ x
  | [] => by simp [J]
  | [x] => by simp [J]
  | x :: y :: r => by
    have ih := J_mem h1 h2 (L := y :: r)
    simp only [J, List.mem_append, List.mem_cons, ih, h1, h2, false_or]
    simp
theorem tuple_cps (ts : List Str) : (tupleText ts).cps.toList = 40 :: (J (ts.map fun t => t.cps.toList) ++ (if (ts.length == 1) = true then [44, 41] else [41])) := by
  unfold tupleText
  rw [cps_app, cps_app, join_cps, show ("(" : Str).cps.toList = [40] from by decide +kernel]
  split
  · rw [show ((",)" : String) : Str).cps.toList = [44, 41] from by decide +kernel]; simp
  · rw [show ((")" : String) : Str).cps.toList = [41] from by decide +kernel]; simp
theorem from_acc {c : Nat} : ∀ (ts : List Str) (k : Nat) (acc : Str), c ∈ acc.cps.toList → c ∈ (textFrom k acc ts).cps.toList
  | [], k, acc, h => h
  | t :: r, k, acc, h => from_acc r (k + 1) _ (by rw [cps_app, cps_app]; simp [h])
theorem from_mem {c : Nat} : ∀ (ts : List Str) (k : Nat) (acc : Str), c ∈ (textFrom k acc ts).cps.toList → c ∈ acc.cps.toList ∨ (∃ t ∈ ts, c ∈ t.cps.toList) ∨ c = 44 ∨ c = 32
  | [], k, acc, h => .inl h
  | t :: r, k, acc, h => by
    rcases from_mem r (k + 1) _ h with h | ⟨t', ht, h⟩ | h
    · rw [cps_app, cps_app] at h
      simp only [List.mem_append] at h
      rcases h with (h | h) | h
      · exact .inl h
      · split at h
        · rw [show ((", " : String) : Str).cps.toList = [44, 32] from by decide +kernel] at h
          simp only [List.mem_cons, List.not_mem_nil, or_false] at h
          exact .inr (.inr h)
        · rw [show (("" : String) : Str).cps.toList = [] from by decide +kernel] at h
          cases h
      · exact .inr (.inl ⟨t, List.mem_cons_self, h⟩)
    · exact .inr (.inl ⟨t', List.mem_cons_of_mem _ ht, h⟩)
    · exact .inr (.inr h)
theorem list_has (ps : List PyData) : 91 ∈ shL (.list ps) := by
  show 91 ∈ (listText (PyData.shownAll ps)).cps.toList
  unfold listText
  rw [cps_app]
  exact List.mem_append_left _ (from_acc _ _ _ (by decide +kernel))
theorem dict_has : 123 ∈ shL (.dict []) := by decide +kernel
theorem all_map : ∀ ps : List PyData, (PyData.shownAll ps).map (fun t => t.cps.toList) = ps.map shL
  | [] => rfl
  | p :: r => by
    show (PyData.shown p).cps.toList :: (PyData.shownAll r).map (fun t => t.cps.toList) = _
    rw [all_map r]
    rfl
theorem all_len : ∀ ps : List PyData, (PyData.shownAll ps).length = ps.length
  | [] => rfl
  | p :: r => by
    show (PyData.shownAll r).length + 1 = _
    rw [all_len r]
    rfl
theorem shL_tuple (ps : List PyData) : shL (.tuple ps) = 40 :: (J (ps.map shL) ++ (if (ps.length == 1) = true then [44, 41] else [41])) := by
  show (tupleText (PyData.shownAll ps)).cps.toList = _
  rw [tuple_cps, all_map, all_len]
theorem cut44 {x x' r r' : List Nat} (h1 : 44 ∉ x) (h2 : 44 ∉ x') (e : x ++ 44 :: r = x' ++ 44 :: r') : x = x' ∧ r = r' := by
  induction x generalizing x' with
  | nil =>
    cases x' with
    | nil => exact ⟨rfl, (List.cons.inj e).2⟩
    | cons a t => exact absurd ((List.cons.inj e).1 ▸ List.mem_cons_self) h2
  | cons a t ih =>
    cases x' with
    | nil => exact absurd ((List.cons.inj e).1.symm ▸ List.mem_cons_self) h1
    | cons b u =>
      obtain ⟨e1, e2⟩ := List.cons.inj e
      obtain ⟨e3, e4⟩ := ih (fun z => h1 (List.mem_cons_of_mem _ z)) (fun z => h2 (List.mem_cons_of_mem _ z)) e2
      exact ⟨by rw [e1, e3], e4⟩
/-- an atom's repr is no other value's -/
theorem read_atom {p q : PyData} (h : Pv p) (hq : q ∈ atomsP) (e : shL p = shL q) : p = q := by
  cases h with
  | atom hp => exact atom_inj hp hq e
  | tu _ =>
    have : 40 ∈ shL q := by rw [← e, shL_tuple]; exact List.mem_cons_self
    exact absurd rfl (atom_free hq this).1
  | li _ =>
    have : 91 ∈ shL q := by rw [← e]; exact list_has _
    exact absurd rfl (atom_free hq this).2.1
  | di =>
    have : 123 ∈ shL q := by rw [← e]; exact dict_has
    exact absurd rfl (atom_free hq this).2.2.1
theorem sum_zero : ∀ {l : List Nat}, l.sum = 0 → ∀ x ∈ l, x = 0
  | a :: r, h, x, hx => by
    rw [List.sum_cons] at h
    rcases List.mem_cons.mp hx with e | hx
    · omega
    · exact sum_zero (by omega) x hx
theorem count_free {c : Nat} {x : List Nat} (h : c ∉ x) : x.count c = 0 := List.count_eq_zero.mpr h
/-- a cell's repr is no other value's -/
theorem read_cell {p A B C : PyData} (h : Pv p) (hA : A ∈ atomsP) (hB : B ∈ atomsP) (hC : C ∈ atomsP) (e : shL p = shL (.tuple [A, B, C])) : p = .tuple [A, B, C] := by
  have et : shL (.tuple [A, B, C]) = 40 :: (shL A ++ (44 :: 32 :: (shL B ++ (44 :: 32 :: shL C))) ++ [41]) := by rw [shL_tuple]; rfl
  have fr : ∀ q ∈ [A, B, C], ∀ c, c ∈ shL q → c ≠ 40 ∧ c ≠ 91 ∧ c ≠ 123 ∧ c ≠ 44 ∧ c < 0x110000 := fun q hq c hc => by
    simp only [List.mem_cons, List.not_mem_nil, or_false] at hq
    rcases hq with rfl | rfl | rfl
    · exact atom_free hA hc
    · exact atom_free hB hc
    · exact atom_free hC hc
  have mem : ∀ {c : Nat}, c ∈ shL (.tuple [A, B, C]) → c = 40 ∨ c = 44 ∨ c = 32 ∨ c = 41 ∨ ∃ q ∈ [A, B, C], c ∈ shL q := fun {c} hc => by
    rw [et] at hc
    simp only [List.mem_cons, List.mem_append, List.not_mem_nil, or_false] at hc
    rcases hc with h | ((h | h | h | h | h | h | h) | h)
    · exact .inl h
    · exact .inr (.inr (.inr (.inr ⟨A, by simp, h⟩)))
    · exact .inr (.inl h)
    · exact .inr (.inr (.inl h))
    · exact .inr (.inr (.inr (.inr ⟨B, by simp, h⟩)))
    · exact .inr (.inl h)
    · exact .inr (.inr (.inl h))
    · exact .inr (.inr (.inr (.inr ⟨C, by simp, h⟩)))
    · exact .inr (.inr (.inr (.inl h)))
  have no91 : 91 ∉ shL (.tuple [A, B, C]) := fun hc => by
    rcases mem hc with h | h | h | h | ⟨q, hq, h⟩
    · cases h
    · cases h
    · cases h
    · cases h
    · exact (fr q hq _ h).2.1 rfl
  have no123 : 123 ∉ shL (.tuple [A, B, C]) := fun hc => by
    rcases mem hc with h | h | h | h | ⟨q, hq, h⟩
    · cases h
    · cases h
    · cases h
    · cases h
    · exact (fr q hq _ h).2.2.1 rfl
  have k40 : (shL (.tuple [A, B, C])).count 40 = 1 := by
    have a1 := count_free (c := 40) (x := shL A) fun hc => (fr A (by simp) _ hc).1 rfl
    have a2 := count_free (c := 40) (x := shL B) fun hc => (fr B (by simp) _ hc).1 rfl
    have a3 := count_free (c := 40) (x := shL C) fun hc => (fr C (by simp) _ hc).1 rfl
    rw [et]
    simp [List.count_cons, List.count_append, a1, a2, a3]
  have k44 : (shL (.tuple [A, B, C])).count 44 = 2 := by
    have a1 := count_free (c := 44) (x := shL A) fun hc => (fr A (by simp) _ hc).2.2.2.1 rfl
    have a2 := count_free (c := 44) (x := shL B) fun hc => (fr B (by simp) _ hc).2.2.2.1 rfl
    have a3 := count_free (c := 44) (x := shL C) fun hc => (fr C (by simp) _ hc).2.2.2.1 rfl
    rw [et]
    simp [List.count_cons, List.count_append, a1, a2, a3]
  cases h with
  | atom hp =>
    have : 40 ∈ shL p := by rw [e, et]; exact List.mem_cons_self
    exact absurd rfl (atom_free hp this).1
  | li _ => exact absurd (by rw [← e]; exact list_has _) no91
  | di => exact absurd (by rw [← e]; exact dict_has) no123
  | @tu ps hps =>
    rw [← e, shL_tuple] at k40 k44 no91 no123
    have t40 : (if (ps.length == 1) = true then [44, 41] else [41] : List Nat).count 40 = 0 := by split <;> decide
    rw [List.count_cons, List.count_append, t40, J_count] at k40
    have s40 : ((ps.map shL).map (List.count 40)).sum = 0 := by
      simp at k40
      simpa using k40
    have at_ : ∀ q ∈ ps, q ∈ atomsP := fun q hq => by
      have n40 : 40 ∉ shL q := fun hc => by
        have := sum_zero s40 ((shL q).count 40) (List.mem_map.mpr ⟨_, List.mem_map.mpr ⟨q, hq, rfl⟩, rfl⟩)
        exact List.count_eq_zero.mp this hc
      have inJ : ∀ {c : Nat}, c ≠ 44 → c ≠ 32 → c ∈ shL q → c ∈ 40 :: (J (ps.map shL) ++ (if (ps.length == 1) = true then [44, 41] else [41])) := fun {c} h1 h2 hc => List.mem_cons_of_mem _ (List.mem_append_left _ ((J_mem h1 h2).mpr ⟨_, List.mem_map.mpr ⟨q, hq, rfl⟩, hc⟩))
      cases hps q hq with
      | atom h => exact h
      | tu _ => exact absurd (by rw [shL_tuple]; exact List.mem_cons_self) n40
      | li _ => exact absurd (inJ (by decide) (by decide) (list_has _)) no91
      | di => exact absurd (inJ (by decide) (by decide) dict_has) no123
    have z44 : ((ps.map shL).map (List.count 44)).sum = 0 := by
      have : ∀ l : List PyData, (∀ q ∈ l, q ∈ atomsP) → ((l.map shL).map (List.count 44)).sum = 0 := by
        intro l
        induction l with
        | nil => intro _; rfl
        | cons q r ih =>
          intro hl
          rw [List.map_cons, List.map_cons, List.sum_cons, ih fun x hx => hl x (List.mem_cons_of_mem _ hx), count_free fun hc => (atom_free (hl q List.mem_cons_self) hc).2.2.2.1 rfl]
      exact this ps at_
    rw [List.count_cons, List.count_append, J_count, z44] at k44
    have n3 : ps.length = 3 := by
      simp only [List.length_map] at k44
      by_cases h1 : ps.length = 1
      · rw [h1] at k44; simp at k44
      · rw [if_neg (show ¬ (ps.length == 1) = true by simpa using h1)] at k44
        simp at k44
        omega
    match ps, n3, at_ with
    | [x, y, z], _, at_ =>
      have hx := at_ x (by simp)
      have hy := at_ y (by simp)
      have hz := at_ z (by simp)
      have e1 : shL (.tuple [x, y, z]) = 40 :: (shL x ++ (44 :: 32 :: (shL y ++ (44 :: 32 :: shL z))) ++ [41]) := by rw [shL_tuple]; rfl
      rw [e1, et] at e
      have e2 := List.append_cancel_right (List.cons.inj e).2
      have c44 : ∀ {q : PyData}, q ∈ atomsP → 44 ∉ shL q := fun hq hc => (atom_free hq hc).2.2.2.1 rfl
      obtain ⟨ex, e3⟩ := cut44 (c44 hx) (c44 hA) e2
      obtain ⟨ey, e4⟩ := cut44 (c44 hy) (c44 hB) (List.cons.inj e3).2
      have ez := (List.cons.inj e4).2
      rw [atom_inj hx hA ex, atom_inj hy hB ey, atom_inj hz hC ez]
/-- the points of such a repr -/
theorem shown_ok {p : PyData} (h : Pv p) : PyData.strOk (PyData.shown p) = true := by
  have key : ∀ c ∈ shL p, c < 0x110000 := by
    induction h with
    | atom hp => exact fun c hc => (atom_free hp hc).2.2.2.2
    | @tu ps _ ih =>
      intro c hc
      rw [shL_tuple] at hc
      by_cases h1 : c = 44
      · omega
      by_cases h2 : c = 32
      · omega
      rcases List.mem_cons.mp hc with h | h
      · omega
      rcases List.mem_append.mp h with h | h
      · obtain ⟨x, hx, hcx⟩ := (J_mem h1 h2).mp h
        obtain ⟨q, hq, rfl⟩ := List.mem_map.mp hx
        exact ih q hq c hcx
      · split at h <;> simp at h <;> omega
    | @li ps _ ih =>
      intro c hc
      have hc : c ∈ (listText (PyData.shownAll ps)).cps.toList := hc
      unfold listText at hc
      rw [cps_app] at hc
      rcases List.mem_append.mp hc with h | h
      · rcases from_mem _ _ _ h with h | ⟨t, ht, h⟩ | h
        · rw [show ("[" : Str).cps.toList = [91] from by decide +kernel] at h
          simp at h
          omega
        · have : t.cps.toList ∈ ps.map shL := by rw [← all_map]; exact List.mem_map.mpr ⟨t, ht, rfl⟩
          obtain ⟨q, hq, e⟩ := List.mem_map.mp this
          exact ih q hq c (by rw [e]; exact h)
        · omega
      · rw [show ("]" : Str).cps.toList = [93] from by decide +kernel] at h
        simp at h
        omega
    | di =>
      have : (shL (.dict [])).all (fun c => decide (c < 0x110000)) = true := by decide +kernel
      exact fun c hc => of_decide_eq_true (List.all_eq_true.mp this c hc)
  unfold PyData.strOk
  rw [← Array.all_toList]
  exact List.all_eq_true.mpr fun c hc => decide_eq_true (key c hc)

end Lw


namespace Lw
open PySem PySem.Spec L2 DM
local macro_rules | `(tactic| walk_at "q") => `(tactic| try simp only [q_ok, q_okR, q_if, q_C, q_ret, q_var, q_at, q_e1, q_e2, q_call, q_callB, q_nil, q_cons, q_tup, q_lst, q_cel, q_ifexp, q_blAt, q_bOf, q_bTru, q_bAnd, q_bOr, q_bNot, q_vAnd, q_vOr, q_vNot, q_chain, q_pureS, at0, at1, at2, q_iseq, q_seqL, q_seqF, q_rg1, q_rg2, q_itup, q_tupAt, q_iany, q_anyL, q_anyF, q_anyT, q_anyS, q_meth, q_p2, q_p3, q_unpT, q_setA, q_setA0, q_rhoAt, q_contR, q_contB, q_contC, q_callK, q_oN, q_oS, q_intAt, q_cut, f_tupL, f_tupT, f_listL, f_listT, f_listCL, f_listCT, f_cutT, f_cutL, q_aftN, q_aftC, q_aftB, q_aftR, q_pr, q_mtE, q_mtV, q_lone, q_gV, q_fnV, q_mkV, q_mkS, q_fld, q_isi, isi_ii, isi_ib, isi_tt, isi_ss, q_starS, q_star, f_itT, f_itL, q_join, q_enum, q_only, q_noExN, lookF_hit, f_addN, q_tName, q_tNil, q_tCons, q_tStar,
  f_add, f_sub, f_mul, f_div, f_mod, f_pow, f_neg, f_cmp, f_abs, f_intI, f_intB, f_max, f_min, f_lenL, f_lenF, f_lenT, f_ixL, f_ixF, f_ixT, f_eqI, f_neI, f_eqB, f_neB, f_eqT, f_neT, f_isB, f_isnotB, f_truB, f_truI, f_repr0, startR, wipeR, List.map_cons, List.map_nil, List.length_cons, List.length_nil, List.cons_append, List.nil_append, List.append_nil, List.getElem?_cons_zero, List.getElem?_cons_succ, List.set_cons_zero, List.set_cons_succ, List.replicate_succ, List.replicate_zero, Nat.reduceAdd, Nat.reduceSub, Int.reduceToNat, Int.reducePow])
local macro_rules | `(tactic| walk_at "go") => `(tactic| repeat (first | rw [q_cont] | rw [q_tCons] | rw [q_tName] | rw [q_tNil] | rw [q_tStar] | rw [q_only] | rw [q_noExN] | rw [q_seq] | rw [q_snil] | ((with_reducible refine q_asg ?_); walk_at "q") | ((with_reducible refine q_sret ?_); walk_at "q") | ((with_reducible refine q_spar2 ?_); walk_at "q") | ((with_reducible refine q_spar3 ?_); walk_at "q") | ((with_reducible refine q_sunp ?_); walk_at "q") | ((with_reducible refine q_drop ?_); walk_at "q") | ((with_reducible refine q_asgT ?_); walk_at "q") | ((with_reducible refine q_noEx ?_); walk_at "q") | ((with_reducible refine q_asg2 ?_); walk_at "q") | ((with_reducible refine q_tDSubG ?_); walk_at "q") | ((with_reducible refine q_sif ?_); walk_at "q") | ((with_reducible refine q_for ?_); walk_at "q")))
local macro_rules | `(tactic| walk_at "g1") => `(tactic| repeat (first | rw [q_cont] | rw [q_tCons] | rw [q_tName] | rw [q_tNil] | rw [q_tStar] | rw [q_only] | rw [q_noExN] | rw [q_seq] | rw [q_snil] | ((with_reducible refine q_asg ?_); walk_at "q") | ((with_reducible refine q_sret ?_); walk_at "q") | ((with_reducible refine q_spar2 ?_); walk_at "q") | ((with_reducible refine q_spar3 ?_); walk_at "q") | ((with_reducible refine q_sunp ?_); walk_at "q") | ((with_reducible refine q_drop ?_); walk_at "q") | ((with_reducible refine q_asgT ?_); walk_at "q") | ((with_reducible refine q_noEx ?_); walk_at "q") | ((with_reducible refine q_asg2 ?_); walk_at "q") | ((with_reducible refine q_tDSubG ?_); walk_at "q") | ((with_reducible refine q_for ?_); walk_at "q")))

open SX

/-! #### what a value is -/
def isNum : D → Bool
  | .int _ => true
  | _ => false
/-- the value is a whole number within limits -/
def loV (lo : Option Int) (i : Int) : Bool := match lo with | some l => decide (l ≤ i) | none => true
def hiV (hi : Option Int) (i : Int) : Bool := match hi with | some l => decide (i ≤ l) | none => true
def numB (lo hi : Option Int) : D → Bool
  | .int i => loV lo i && hiV hi i
  | _ => false
def limD : Option Int → D
  | some l => .int l
  | none => .non
section
variable {μ : Store} {d : D} {Q : D → Store → Prop}
theorem Va.ty (h : Va μ d) : (∃ s, d = .str s ∧ TxtV s) ∨ (∃ i, d = .int i ∧ IntS i) ∨ (∃ b, d = .bl b) ∨ (∃ xs, d = .tup xs ∧ ∀ x ∈ xs, Va μ x) ∨
    ((∀ s, d ≠ .str s) ∧ (∀ i, d ≠ .int i) ∧ (∀ xs, d ≠ .tup xs) ∧ ∃ t, tyD μ d = some t ∧ isiB t "str" = false ∧ isiB t "int" = false ∧ isiB t "tuple" = false) := by
  cases h with
  | non => exact .inr (.inr (.inr (.inr ⟨by simp, by simp, by simp, _, rfl, by decide, by decide, by decide⟩)))
  | bl b => exact .inr (.inr (.inl ⟨b, rfl⟩))
  | int h => exact .inr (.inl ⟨_, rfl, h⟩)
  | str h => exact .inl ⟨_, rfl, h⟩
  | tup h => exact .inr (.inr (.inr (.inl ⟨_, rfl, h⟩)))
  | lst h => exact .inr (.inr (.inr (.inr ⟨by simp, by simp, by simp, _, rfl, by decide, by decide, by decide⟩)))
  | dct h => exact .inr (.inr (.inr (.inr ⟨by simp, by simp, by simp, "dict", by simp only [tyD, h], by decide, by decide, by decide⟩)))
theorem isi_of {t T : String} {b : Bool} (e : tyD μ d = some t) (h : isiB t T = b) : isiR T d μ = okR (.bl b) μ := by
  unfold isiR
  simp only [e, h]
def isStr : D → Bool
  | .str _ => true
  | _ => false
def isTupB : D → Bool
  | .tup _ => true
  | _ => false
theorem Va.isS (h : Va μ d) : isiR "str" d μ = okR (.bl (isStr d)) μ := by
  rcases h.ty with ⟨s, rfl, _⟩ | ⟨i, rfl, _⟩ | ⟨b, rfl⟩ | ⟨xs, rfl, _⟩ | ⟨h1, h2, h3, t, e, g1, g2, g3⟩
  · rfl
  · rfl
  · rfl
  · rfl
  · rw [isi_of e g1]
    cases d <;> first | rfl | exact absurd rfl (h1 _)
theorem Va.isT (h : Va μ d) : isiR "tuple" d μ = okR (.bl (isTupB d)) μ := by
  rcases h.ty with ⟨s, rfl, _⟩ | ⟨i, rfl, _⟩ | ⟨b, rfl⟩ | ⟨xs, rfl, _⟩ | ⟨h1, h2, h3, t, e, g1, g2, g3⟩
  · rfl
  · rfl
  · rfl
  · rfl
  · rw [isi_of e g3]
    cases d <;> first | rfl | exact absurd rfl (h3 _)
theorem isTupB_of (h : isTupB d = true) : ∃ xs, d = .tup xs := by
  cases d <;> first | exact ⟨_, rfl⟩ | cases h
theorem isStr_of (h : isStr d = true) : ∃ s, d = .str s := by
  cases d <;> first | exact ⟨_, rfl⟩ | cases h
theorem q_lo {lo hi : Option Int} {i : Int} {R : D → Store → Prop} (h : R (.bl (loV lo i)) μ) : Ok (vOr (e2 (Fis false) (eVar 1) (eC .non)) (e2 Fle (eVar 1) (eVar 0)) [some (.int i), some (limD lo), some (limD hi)] μ) R := by
  rw [q_vOr]
  cases lo with
  | none =>
    rw [q_e2, q_var]
    simp only [List.getElem?_cons_zero, List.getElem?_cons_succ, q_at, q_C]
    rw [show Fis false (limD none) .non μ = okR (.bl true) μ from rfl, q_okR, q_blAt, if_pos rfl]
    exact h
  | some k =>
    rw [q_e2, q_var]
    simp only [List.getElem?_cons_zero, List.getElem?_cons_succ, q_at, q_C]
    rw [show Fis false (limD (some k)) .non μ = okR (.bl false) μ from rfl, q_okR, q_blAt, if_neg (by decide)]
    exact h
theorem q_hi {lo hi : Option Int} {i : Int} {R : D → Store → Prop} (h : R (.bl (hiV hi i)) μ) : Ok (vOr (e2 (Fis false) (eVar 2) (eC .non)) (e2 Fle (eVar 0) (eVar 2)) [some (.int i), some (limD lo), some (limD hi)] μ) R := by
  rw [q_vOr]
  cases hi with
  | none =>
    rw [q_e2, q_var]
    simp only [List.getElem?_cons_zero, List.getElem?_cons_succ, q_at, q_C]
    rw [show Fis false (limD none) .non μ = okR (.bl true) μ from rfl, q_okR, q_blAt, if_pos rfl]
    exact h
  | some k =>
    rw [q_e2, q_var]
    simp only [List.getElem?_cons_zero, List.getElem?_cons_succ, q_at, q_C]
    rw [show Fis false (limD (some k)) .non μ = okR (.bl false) μ from rfl, q_okR, q_blAt, if_neg (by decide)]
    exact h
/-- an integer within limits, of any value -/
theorem num_va {lo hi : Option Int} (h : Va μ d) (q : Q (.bl (numB lo hi d)) μ) : Ok (F_is_integer [d, limD lo, limD hi] μ) Q := by
  refine q_fn rfl ?_
  unfold S_is_integer
  have no : ∀ {T : SF}, numB lo hi d = false → OkS (sRet (eC (.bl false)) [some d, some (limD lo), some (limD hi)] μ) (contS T (fun f μ1 => match f with | .nx _ => Q .non μ1 | .rt d => Q d μ1 | _ => False)) := fun hb => by
    refine q_sret ?_
    walk_at "q"
    rw [hb] at q
    exact q
  rw [q_seq]
  refine q_sif ?_
  rw [q_bOr, q_bNot, q_bTru, q_isi]
  walk_at "q"
  rcases h.ty with ⟨s, rfl, _⟩ | ⟨i, rfl, _⟩ | ⟨b, rfl⟩ | ⟨xs, rfl, _⟩ | ⟨h1, h2, h3, t, e, g1, g2, g3⟩
  · rw [show isiR "int" (.str s) μ = okR (.bl false) μ from rfl]
    walk_at "q"
    try simp only [Bool.not_false, if_true]
    exact no rfl
  · rw [show isiR "int" (.int i) μ = okR (.bl true) μ from rfl]
    walk_at "q"
    simp only [Bool.not_true, Bool.false_eq_true, if_false]
    rw [q_snil, q_cont]
    refine q_sret ?_
    rw [q_vAnd]
    refine q_lo ?_
    rw [q_blAt]
    have e : numB lo hi (.int i) = ((loV lo i) && (hiV hi i)) := rfl
    rw [e] at q
    generalize (loV lo i) = a at q ⊢
    cases a with
    | true =>
      rw [if_pos rfl]
      exact q_hi q
    | false =>
      rw [if_neg (by decide)]
      exact q
  · rw [show isiR "int" (.bl b) μ = okR (.bl true) μ from rfl]
    walk_at "q"
    rw [show isiR "bool" (.bl b) μ = okR (.bl true) μ from rfl]
    walk_at "q"
    try simp only [Bool.not_true, Bool.not_false, Bool.false_eq_true, if_false, if_true]
    exact no rfl
  · rw [show isiR "int" (.tup xs) μ = okR (.bl false) μ from rfl]
    walk_at "q"
    try simp only [Bool.not_false, if_true]
    exact no rfl
  · rw [isi_of e g2]
    walk_at "q"
    try simp only [Bool.not_false, if_true]
    refine no ?_
    cases d <;> first | rfl | exact absurd rfl (h2 _)
end

mutual
theorem apt_same : ∀ d : D, apt d d = true
  | .non => by simp [apt]
  | .bl _ => by simp [apt]
  | .int _ => by simp [apt]
  | .str _ => by simp [apt]
  | .ref _ => by simp [apt]
  | .tup xs => by unfold apt; exact apts_same xs
  | .lst xs => by unfold apt; exact apts_same xs
  | .fl xs => by unfold apt; exact apts_same xs
theorem apts_same : ∀ ds : List D, apts ds ds = true
  | [] => by simp [apts]
  | d :: r => by
    unfold apts
    rw [apt_same d, apts_same r]
    rfl
end

/-! #### the law's own cells -/
def rowBody : SF := (sDrop (eMeth isList Fext (eVar 1) (aCons (eLst (aCons (eTup (aCons (eVar 2) (aCons (eVar 3) (aCons (eC (.str "other")) aNil)))) (aCons (eTup (aCons (eVar 2) (aCons (eVar 3) (aCons (eC (.str "same")) aNil)))) aNil))) aNil)))
theorem rowBody_ok {r : Str} {w g : Int} {fs : List Cell} {ν : Store} {Q : Fl → Store → Prop} (hl : fs.length ≤ 10000)
    (h : Q (.nx [some (.int w), some (.ref ν.length), some (.str r), some (.int g)]) (ν ++ [.lst ((fs ++ two r g).map cellD)])) :
    OkS (rowBody [some (.int w), some (.ref ν.length), some (.str r), some (.int g)] (ν ++ [.lst (fs.map cellD)])) Q := by
  unfold rowBody
  have hg : (ν ++ [Ob.lst (fs.map cellD)])[ν.length]? = some (.lst (fs.map cellD)) := by simp
  walk_at "go"
  refine ⟨isList_ref hg, size_ok (by simp), size_ok (by simp), size_ok (by simp), ?_⟩
  rw [f_ext hg (by refine size_ok ?_; simp; omega)]
  walk_at "q"
  rw [List.set_append_right _ _ (by omega)]
  simp only [Nat.sub_self, List.set_cons_zero]
  rw [List.map_append] at h
  exact h
theorem rowLoop_ok {r : Str} {w : Int} {fs : List Cell} {ν : Store} {y3 : Option D} {Q : Fl → Store → Prop} (hw : 0 ≤ w ∧ w ≤ 100) (hl : fs.length ≤ 5000)
    (h : ∀ y3, Q (.nx [some (.int w), some (.ref ν.length), some (.str r), y3]) (ν ++ [.lst ((fs ++ row r (0 - w) (2 * w + 1).toNat).map cellD)])) :
    OkS (sFor (iRg2 (aCons (e2 Fsub (eC (.int 0)) (eVar 0)) (aCons (e2 Fadd (eVar 0) (eC (.int 1))) aNil))) (fName 3) rowBody [some (.int w), some (.ref ν.length), some (.str r), y3] (ν ++ [.lst (fs.map cellD)])) Q := by
  refine q_for ?_
  walk_at "q"
  refine ⟨_, _, rfl, by omega, ?_⟩
  have e : (w + 1 - (0 - w)).toNat = (2 * w + 1).toNat := by omega
  rw [e]
  generalize hn : (2 * w + 1).toNat = n at h ⊢
  refine loop_ok (fun i ρ μ' => μ' = ν ++ [.lst ((fs ++ row r (0 - w) i).map cellD)] ∧ ∃ y3, ρ = [some (.int w), some (.ref ν.length), some (.str r), y3]) (fun _ _ _ _ => rfl) ?_ ?_ ⟨by simp [row, rngI], _, rfl⟩
  · rintro i d ρ μ' ed ⟨rfl, y, rfl⟩
    obtain ⟨hi, rfl⟩ := rng_get ed
    refine ⟨_, rfl, ?_⟩
    have hlr := row_len (r := r) (lo := 0 - w) (n := i)
    refine rowBody_ok (by rw [List.length_append]; omega) ⟨?_, _, rfl⟩
    rw [row_succ, List.append_assoc]
    rfl
  · rintro ρ μ' ⟨rfl, y, rfl⟩
    rw [rng_len]
    exact h _
theorem allCells_ok {w : Int} {μ : Store} {Q : D → Store → Prop} (hp : Clo μ) (hw : 0 ≤ w ∧ w ≤ 100) (h : Q (.lst ((allC w).map cellD)) μ) : Ok (F__law_all_cells [.int w] μ) Q := by
  refine q_fsealG (q_fn rfl ?_)
  unfold S__law_all_cells
  walk_at "go"
  refine ⟨size_ok (by simp), ?_⟩
  walk_at "go"
  refine ⟨size_ok (by simp), ?_⟩
  have hlr : ∀ r, (row r (0 - w) (2 * w + 1).toNat).length ≤ 500 := fun r => by rw [row_len]; omega
  refine q_loopS rfl rfl (rowLoop_ok (fs := []) hw (by simp) fun y => ?_)
  rw [q_aftN]
  refine q_loopS rfl rfl (rowLoop_ok (fs := [] ++ row "less" (0 - w) (2 * w + 1).toNat) hw (by have := hlr "less"; simp only [List.nil_append]; omega) fun y => ?_)
  rw [q_aftN]
  refine q_loopS rfl rfl (rowLoop_ok (fs := [] ++ row "less" (0 - w) (2 * w + 1).toNat ++ row "more" (0 - w) (2 * w + 1).toNat) hw (by have := hlr "less"; have := hlr "more"; simp only [List.nil_append, List.length_append]; omega) fun y => ?_)
  rw [q_aftN]
  refine q_loop0 rfl ?_
  walk_at "go"
  have e : row "less" (0 - w) (2 * w + 1).toNat ++ row "more" (0 - w) (2 * w + 1).toNat ++ row "same" (0 - w) (2 * w + 1).toNat = allC w := rfl
  rw [e]
  have tk : (μ ++ [Ob.lst ((allC w).map cellD)]).take μ.length = μ := by simp
  rw [tk]
  exact ⟨hp.all, _, unref_cell (by simp) (Nat.le_refl _) (noRef_cells _), h⟩

/-! #### cells(width), by the program -/
theorem allC_len {w : Int} (hw : 0 ≤ w ∧ w ≤ 10) : (allC w).length ≤ 126 := by
  unfold allC
  rw [List.length_append, List.length_append, row_len, row_len, row_len]
  omega
theorem ne_cell {neg : Bool} {c : Cell} {μ : Store} (h : cellOk c = true) : Feq neg (cellD c) (cellD c) μ = okR (.bl (!neg)) μ := by
  unfold cellOk at h
  rw [Bool.and_eq_true] at h
  have hs : shp 60 (cellD c) = true := by
    show (PyData.strOk c.1 && (true && (PyData.strOk c.2.2 && true))) = true
    rw [h.1, h.2]
    rfl
  rw [f_eqG hs hs (by unfold cellD; simp [apt, apts]), D.beq_rfl]
  cases neg <;> rfl
def rels3 : List Str := ["less", "more", "same"]
def sizes2 : List Str := ["other", "same"]
theorem allC_lt {w : Int} (w0 : 1 ≤ w) (w1 : w ≤ 6) : (allC w).Pairwise fun a b => ltD (cellD a) (cellD b) = true := by
  have key : ∀ w ∈ ([1, 2, 3, 4, 5, 6] : List Int), (allC w).Pairwise fun a b => ltD (cellD a) (cellD b) = true := by
    intro w hw
    simp only [List.mem_cons, List.not_mem_nil, or_false] at hw
    rcases hw with rfl | rfl | rfl | rfl | rfl | rfl <;> decide +kernel
  exact key w (by simp; omega)
theorem allC_cnt {w : Int} (w0 : 1 ≤ w) (w1 : w ≤ 6) : ((allC w).length : Int) = 6 * (2 * w + 1) := by
  have key : ∀ w ∈ ([1, 2, 3, 4, 5, 6] : List Int), ((allC w).length : Int) = 6 * (2 * w + 1) := by decide +kernel
  exact key w (by simp; omega)
theorem allC_rs {w : Int} {c : Cell} (h : c ∈ allC w) : c.1 ∈ rels3 ∧ c.2.2 ∈ sizes2 := by
  obtain ⟨h1, _, h3⟩ := allC_mem.mp h
  exact ⟨by simpa [rels3] using h1, by simpa [sizes2] using h3⟩
def cellK (c : Cell) : List Key := [.inr c.1, .inl c.2.1, .inr c.2.2]
theorem cellK_inj {a b : Cell} (h : cellK a = cellK b) : a = b := by
  obtain ⟨a1, a2, a3⟩ := a
  obtain ⟨b1, b2, b3⟩ := b
  simp only [cellK, List.cons.injEq, Sum.inr.injEq, Sum.inl.injEq] at h
  obtain ⟨rfl, rfl, rfl, _⟩ := h
  rfl
theorem rs_strOk {x : Str} (h : x ∈ rels3 ∨ x ∈ sizes2) : PyData.strOk x = true := by
  have a : (rels3.all PyData.strOk) = true := by decide +kernel
  have b : (sizes2.all PyData.strOk) = true := by decide +kernel
  exact h.elim (fun z => List.all_eq_true.mp a x z) fun z => List.all_eq_true.mp b x z
theorem cell_sort {L : List Cell} (hl : L.length ≤ 1000) (h : ∀ c ∈ L, c.1 ∈ rels3 ∧ c.2.2 ∈ sizes2) : sortOk (L.map cellD) := by
  refine ⟨by rw [List.length_map]; omega, fun x hx => ?_, fun x hx y hy => ?_⟩
  · obtain ⟨c, hc, rfl⟩ := List.mem_map.mp hx
    obtain ⟨a, b⟩ := h c hc
    refine ⟨?_, rfl⟩
    have h1 := rs_strOk (.inl a)
    have h2 := rs_strOk (.inr b)
    simp [cellD, shp, shps, h1, h2]
  · obtain ⟨c, hc, rfl⟩ := List.mem_map.mp hx
    obtain ⟨d, hd, rfl⟩ := List.mem_map.mp hy
    simp [cellD, pyD, pyDs, PySem.W.alike, PySem.W.alikeAll]
/-- the table: the drawn cells, sorted, each once -/
def tabS (w : Int) (ds : List Cell) : List Cell := (allC w).filter fun c => decide (c ∈ ds)
theorem tab_mem {w : Int} {ds : List Cell} (h : ∀ c ∈ ds, c ∈ allC w) {c : Cell} : c ∈ tabS w ds ↔ c ∈ ds := by
  unfold tabS
  rw [List.mem_filter, decide_eq_true_iff]
  exact ⟨fun z => z.2, fun z => ⟨h c z, z⟩⟩
theorem set_cellsT {w : Int} {ds : List Cell} {μ : Store} (hw : 1 ≤ w ∧ w ≤ 6) (hl : ds.length ≤ 300) (h : ∀ c ∈ ds, c ∈ allC w) : FsetKT (.tup (ds.map cellD)) μ = okR (.lst ((tabS w ds).map cellD)) μ := by
  have ek : ∀ L : List Cell, L.map cellD = (L.map cellK).map keyT := fun L => by rw [List.map_map]; rfl
  have asc : ((tabS w ds).map cellD).Pairwise fun a b => ltD a b = true := by
    rw [List.pairwise_map]
    exact (allC_lt hw.1 hw.2).sublist List.filter_sublist
  have nd : (tabS w ds).Nodup := by
    have h := asc
    rw [List.pairwise_map] at h
    refine h.imp fun hlt e => ?_
    rw [e, ltD_irr] at hlt
    cases hlt
  have pm : ((tabS w ds).map cellD).Perm ((dedK (ds.map cellK)).map keyT) := by
    rw [ek]
    refine List.Perm.map _ ((List.perm_ext_iff_of_nodup ?_ (dedK_nd _)).mpr fun k => ?_)
    · exact List.pairwise_map.mpr (nd.imp fun hne e => hne (cellK_inj e))
    · rw [dedK_mem, List.mem_map, List.mem_map]
      constructor
      · rintro ⟨c, hc, rfl⟩
        exact ⟨c, (tab_mem h).mp hc, rfl⟩
      · rintro ⟨c, hc, rfl⟩
        exact ⟨c, (tab_mem h).mpr hc, rfl⟩
  have es : srtD ((dedK (ds.map cellK)).map keyT) = (tabS w ds).map cellD := srt_uniq pm asc
  rw [ek, f_setKT (by rw [List.length_map]; exact hl) (by rw [← ek]; exact cell_sort (by omega) fun c hc => allC_rs (h c hc)) (by rw [es]; exact asc), es]

def orders6 : List (List Str) := [["note", "read", "stat"], ["note", "stat", "read"], ["read", "note", "stat"], ["read", "stat", "note"], ["stat", "note", "read"], ["stat", "read", "note"]]

/-! #### orders, by the program -/
def stp3 : List Str := ["note", "read", "stat"]
theorem stp3_ok : stp3.all PyData.strOk = true := by decide +kernel
def ordR (a b : Str) : D := .tup (.str a :: .str b :: ((stp3.filter fun x => !decide (x ∈ [a, b])).map D.str))
theorem ord2_ok {a b : Str} {acc : List D} {ν : Store} {y4 : Option D} {Qf : Fl → Store → Prop} (hp : Clo ν) (ha : noRefs 0 acc = true) (hl : acc.length ≤ 1000) (h1 : PyData.strOk a = true) (h2 : PyData.strOk b = true)
    (h : Qf (.nx [some (.tup (stp3.map D.str)), some (.ref ν.length), some (.str a), some (.str b), y4]) (ν ++ [.lst (acc ++ [ordR a b])])) :
    OkS (B_orders_2 [some (.tup (stp3.map D.str)), some (.ref ν.length), some (.str a), some (.str b), y4] (ν ++ [.lst acc])) Qf := by
  unfold B_orders_2
  have hg : (ν ++ [Ob.lst acc])[ν.length]? = some (.lst acc) := by simp
  have hp2 : Clo (ν ++ [.lst acc]) := hp.app (o := Ob.lst acc) (noRefs_mono ha)
  refine q_drop ?_
  rw [q_meth]
  walk_at "q"
  refine ⟨isList_ref hg, ?_⟩
  refine q_lcmC D.str (fun x => !decide (x ∈ [a, b])) D.str stp3 hp2 (by simp [stp3]) ?_ ?_ ?_
  · walk_at "q"
    exact ⟨by trivial, by trivial, fun _ => rfl⟩
  · intro x o hx ho
    refine ⟨_, rfl, ?_, fun _ => ⟨rfl, rfl, rfl⟩⟩
    walk_at "q"
    refine ⟨size_ok (by simp), ?_⟩
    have hx' : PyData.strOk x = true := List.all_eq_true.mp stp3_ok x hx
    have := f_notinTS (ys := [a, b]) (x := x) (μ := ν ++ [Ob.lst acc] ++ [o]) (by simp [h1, h2]) hx'
    rw [show D.tup [D.str a, D.str b] = D.tup ([a, b].map D.str) from rfl, this]
    exact ⟨rfl, rfl⟩
  · rw [show itemsD (ν ++ [Ob.lst acc]) (.lst ((stp3.filter fun x => !decide (x ∈ [a, b])).map D.str)) = some ((stp3.filter fun x => !decide (x ∈ [a, b])).map D.str) from rfl]
    walk_at "q"
    refine ⟨size_ok ?_, ?_⟩
    · have := List.length_filter_le (fun x => !decide (x ∈ [a, b])) stp3
      have h3 : stp3.length = 3 := rfl
      rw [List.length_map]
      omega
    rw [f_app hg (Nat.lt_of_lt_of_le (show acc.length < 1000000 by omega) (size_ok (Nat.le_refl _)))]
    walk_at "q"
    rw [List.set_append_right _ _ (Nat.le_refl _)]
    simp only [Nat.sub_self, List.set_cons_zero]
    exact h
theorem noRef_ordR {a b : Str} : noRef 0 (ordR a b) = true := by
  show noRefs 0 ((a :: b :: stp3.filter fun x => !decide (x ∈ [a, b])).map D.str) = true
  exact noRef_strs _
theorem noRefs_app {xs ys : List D} : noRefs 0 (xs ++ ys) = (noRefs 0 xs && noRefs 0 ys) := by
  induction xs with
  | nil => simp [noRefs]
  | cons x r ih => simp [noRefs, ih, Bool.and_assoc]
theorem ord1_ok {a b c : Str} {acc : List D} {ν : Store} {y3 y4 : Option D} {Qf : Fl → Store → Prop} (hp : Clo ν) (ha : noRefs 0 acc = true) (hl : acc.length ≤ 900) (h1 : PyData.strOk a = true) (h2 : PyData.strOk b = true) (h3 : PyData.strOk c = true) (hf : (stp3.filter fun x => !(x == a)) = [b, c])
    (h : ∀ y3, Qf (.nx [some (.tup (stp3.map D.str)), some (.ref ν.length), some (.str a), y3, y4]) (ν ++ [.lst (acc ++ [ordR a b] ++ [ordR a c])])) :
    OkS (B_orders_1 [some (.tup (stp3.map D.str)), some (.ref ν.length), some (.str a), y3, y4] (ν ++ [.lst acc])) Qf := by
  unfold B_orders_1
  have hp2 : Clo (ν ++ [.lst acc]) := hp.app (o := Ob.lst acc) (noRefs_mono ha)
  refine q_for ?_
  walk_at "q"
  refine q_lcmC D.str (fun x => !(x == a)) D.str stp3 hp2 (by simp [stp3]) ?_ ?_ ?_
  · walk_at "q"
    exact ⟨by trivial, by trivial, fun _ => rfl⟩
  · intro x o hx ho
    refine ⟨_, rfl, ?_, fun _ => ⟨rfl, rfl, rfl⟩⟩
    walk_at "q"
    exact ⟨by trivial, by trivial⟩
  rw [hf]
  walk_at "q"
  refine q_loopS rfl rfl (ord2_ok hp ha (by omega) h1 h2 ?_)
  rw [q_aftN]
  refine q_loopS rfl rfl (ord2_ok hp (by rw [noRefs_app, ha]; show (noRef 0 (ordR a b) && true) = true; rw [noRef_ordR]; rfl) (by simp; omega) h1 h3 ?_)
  rw [q_aftN]
  exact q_loop0 rfl (h _)
theorem orders_ok {μ : Store} {Q : D → Store → Prop} (hp : Clo μ) (h : Q (.tup (orders6.map fun o => .tup (o.map D.str))) μ) : Ok (F_orders [] μ) Q := by
  refine q_fsealG (q_fn rfl ?_)
  unfold S_orders
  rw [q_seq]
  refine q_spar2 ?_
  walk_at "q"
  refine ⟨size_ok (by simp), size_ok (by simp), ?_⟩
  rw [q_cont, q_seq]
  refine q_for ?_
  walk_at "q"
  have k : ∀ x ∈ stp3, PyData.strOk x = true := fun x hx => List.all_eq_true.mp stp3_ok x hx
  refine q_loopS rfl rfl (ord1_ok (a := "note") (b := "read") (c := "stat") (acc := []) hp rfl (by simp) (k _ (by simp [stp3])) (k _ (by simp [stp3])) (k _ (by simp [stp3])) (by decide +kernel) fun y3 => ?_)
  rw [q_aftN]
  refine q_loopS rfl rfl (ord1_ok (a := "read") (b := "note") (c := "stat") hp (by rw [noRefs_app, noRefs_app]; simp [noRefs, noRef_ordR]) (by simp) (k _ (by simp [stp3])) (k _ (by simp [stp3])) (k _ (by simp [stp3])) (by decide +kernel) fun y3 => ?_)
  rw [q_aftN]
  refine q_loopS rfl rfl (ord1_ok (a := "stat") (b := "note") (c := "read") hp (by rw [noRefs_app, noRefs_app, noRefs_app, noRefs_app]; simp [noRefs, noRef_ordR]) (by simp) (k _ (by simp [stp3])) (k _ (by simp [stp3])) (k _ (by simp [stp3])) (by decide +kernel) fun y3 => ?_)
  rw [q_aftN]
  refine q_loop0 rfl ?_
  rw [q_cont]
  refine q_sret ?_
  walk_at "q"
  have e : ([] ++ [ordR "note" "read"] ++ [ordR "note" "stat"] ++ [ordR "read" "note"] ++ [ordR "read" "stat"] ++ [ordR "stat" "note"] ++ [ordR "stat" "read"] : List D) = orders6.map fun o => .tup (o.map D.str) := by kernel_rfl
  rw [f_tupR (xs := orders6.map fun o => .tup (o.map D.str)) (by rw [← e]; simp)]
  walk_at "q"
  have tk : ∀ o : Ob, (μ ++ [o]).take μ.length = μ := fun o => by simp
  rw [tk]
  exact ⟨hp.all, _, unref_pure (by kernel_rfl), h⟩

/-! #### what a repr tells of a value -/
theorem toPyXs_mem {μ : Store} {k : Nat} : ∀ {xs : List D} {ps : List PyData}, toPyXs μ k xs = some ps → ∀ p ∈ ps, ∃ x ∈ xs, toPyX μ k x = some p
  | [], ps, e, p, hp => by
    simp [toPyXs] at e
    subst e
    cases hp
  | x :: r, ps, e, p, hp => by
    simp only [toPyXs] at e
    split at e
    · rename_i a b ea eb
      cases e
      rcases List.mem_cons.mp hp with h | h
      · exact ⟨x, List.mem_cons_self, by rw [h]; exact ea⟩
      · obtain ⟨y, hy, ey⟩ := toPyXs_mem eb p h
        exact ⟨y, List.mem_cons_of_mem _ hy, ey⟩
    · cases e
theorem toPyXs_cons {μ : Store} {k : Nat} {x : D} {xs : List D} {p : PyData} {ps : List PyData} (e : toPyXs μ k (x :: xs) = some (p :: ps)) : toPyX μ k x = some p ∧ toPyXs μ k xs = some ps := by
  simp only [toPyXs] at e
  split at e
  · rename_i a b ea eb
    cases e
    exact ⟨ea, eb⟩
  · cases e
theorem toPyXs_nil {μ : Store} {k : Nat} : ∀ {xs : List D}, toPyXs μ k xs = some [] → xs = []
  | [], _ => rfl
  | x :: r, e => by
    simp only [toPyXs] at e
    split at e <;> cases e
theorem pv_of {μ : Store} {d : D} (h : Va μ d) : ∀ {k : Nat} {p : PyData}, toPyX μ k d = some p → Pv p := by
  induction h with
  | non =>
    intro k p e
    cases k with
    | zero => simp [toPyX] at e
    | succ k => simp [toPyX] at e; subst e; exact .atom (by unfold atomsP; simp)
  | bl b =>
    intro k p e
    cases k with
    | zero => simp [toPyX] at e
    | succ k => simp [toPyX] at e; subst e; exact .atom (by unfold atomsP; cases b <;> simp)
  | @int i h =>
    intro k p e
    cases k with
    | zero => simp [toPyX] at e
    | succ k => simp [toPyX] at e; subst e; exact .atom (List.mem_append_right _ (List.mem_append_left _ (List.mem_map.mpr ⟨i, h.2.2, rfl⟩)))
  | @str s h =>
    intro k p e
    cases k with
    | zero => simp [toPyX] at e
    | succ k => simp [toPyX] at e; subst e; exact .atom (List.mem_append_right _ (List.mem_append_right _ (List.mem_map.mpr ⟨s, h.2.2.2, rfl⟩)))
  | @tup xs _ ih =>
    intro k p e
    cases k with
    | zero => simp [toPyX] at e
    | succ k =>
      simp only [toPyX] at e
      obtain ⟨ps, e1, rfl⟩ := Option.map_eq_some_iff.mp e
      exact .tu fun q hq => by
        obtain ⟨x, hx, ex⟩ := toPyXs_mem e1 q hq
        exact ih x hx ex
  | @lst xs _ ih =>
    intro k p e
    cases k with
    | zero => simp [toPyX] at e
    | succ k =>
      simp only [toPyX] at e
      obtain ⟨ps, e1, rfl⟩ := Option.map_eq_some_iff.mp e
      exact .li fun q hq => by
        obtain ⟨x, hx, ex⟩ := toPyXs_mem e1 q hq
        exact ih x hx ex
  | @dct i h =>
    intro k p e
    cases k with
    | zero => simp [toPyX] at e
    | succ k =>
      simp only [toPyX, h, toPyXk] at e
      simp at e
      subst e
      exact .di
theorem back_str {μ : Store} {d : D} {s : Str} (h : Va μ d) {k : Nat} (e : toPyX μ k d = some (.str s)) : d = .str s := by
  cases k with
  | zero => simp [toPyX] at e
  | succ k =>
    cases h with
    | non => simp [toPyX] at e
    | bl b => simp [toPyX] at e
    | int h => simp [toPyX] at e
    | str h => simp [toPyX] at e; rw [e]
    | tup h => simp [toPyX] at e
    | lst h => simp [toPyX] at e
    | dct h => simp [toPyX, h, toPyXk] at e
theorem back_int {μ : Store} {d : D} {i : Int} (h : Va μ d) {k : Nat} (e : toPyX μ k d = some (.int i)) : d = .int i := by
  cases k with
  | zero => simp [toPyX] at e
  | succ k =>
    cases h with
    | non => simp [toPyX] at e
    | bl b => simp [toPyX] at e
    | int h => simp [toPyX] at e; rw [e]
    | str h => simp [toPyX] at e
    | tup h => simp [toPyX] at e
    | lst h => simp [toPyX] at e
    | dct h => simp [toPyX, h, toPyXk] at e
theorem back_cell {μ : Store} {d : D} {c : Cell} (h : Va μ d) {k : Nat} (e : toPyX μ k d = some (.tuple [.str c.1, .int c.2.1, .str c.2.2])) : d = cellD c := by
  cases k with
  | zero => simp [toPyX] at e
  | succ k =>
    cases h with
    | non => simp [toPyX] at e
    | bl b => simp [toPyX] at e
    | int h => simp [toPyX] at e
    | str h => simp [toPyX] at e
    | lst h => simp [toPyX] at e
    | dct h => simp [toPyX, h, toPyXk] at e
    | @tup xs hx =>
      simp only [toPyX] at e
      obtain ⟨ps, e1, e2⟩ := Option.map_eq_some_iff.mp e
      cases e2
      match xs, e1, hx with
      | [], e1, _ => simp [toPyXs] at e1
      | [a], e1, _ =>
        obtain ⟨_, e4⟩ := toPyXs_cons e1
        simp [toPyXs] at e4
      | [a, b], e1, _ =>
        obtain ⟨_, e4⟩ := toPyXs_cons e1
        obtain ⟨_, e5⟩ := toPyXs_cons e4
        simp [toPyXs] at e5
      | a :: b :: z :: r, e1, hx =>
        obtain ⟨ea, e4⟩ := toPyXs_cons e1
        obtain ⟨eb, e5⟩ := toPyXs_cons e4
        obtain ⟨ez, e6⟩ := toPyXs_cons e5
        have hr := toPyXs_nil e6
        subst hr
        rw [back_str (hx a (by simp)) ea, back_int (hx b (by simp)) eb, back_str (hx z (by simp)) ez]
        rfl
def celP (c : Cell) : PyData := .tuple [.str c.1, .int c.2.1, .str c.2.2]
theorem atom_str {s : Str} (h : s ∈ allS) : PyData.str s ∈ atomsP := List.mem_append_right _ (List.mem_append_right _ (List.mem_map.mpr ⟨s, h, rfl⟩))
theorem atom_int {i : Int} (h : i ∈ allI) : PyData.int i ∈ atomsP := List.mem_append_right _ (List.mem_append_left _ (List.mem_map.mpr ⟨i, h, rfl⟩))
theorem rs_all : ((rels3 ++ sizes2 ++ (["write", "change"] : List Str)).all fun s => decide (s ∈ allS)) = true := by decide +kernel
theorem rs_mem {s : Str} (h : s ∈ rels3 ∨ s ∈ sizes2 ∨ s = "write" ∨ s = "change") : s ∈ allS := by
  refine of_decide_eq_true (List.all_eq_true.mp rs_all s ?_)
  simp only [List.mem_append]
  rcases h with h | h | h | h
  · exact .inl (.inl h)
  · exact .inl (.inr h)
  · exact .inr (by simp [h])
  · exact .inr (by simp [h])
theorem gap_all {g : Int} (h : -6 ≤ g ∧ g ≤ 6) : g ∈ allI := by
  have : g = -6 ∨ g = -5 ∨ g = -4 ∨ g = -3 ∨ g = -2 ∨ g = -1 ∨ g = 0 ∨ g = 1 ∨ g = 2 ∨ g = 3 ∨ g = 4 ∨ g = 5 ∨ g = 6 := by omega
  unfold allI
  rcases this with e | e | e | e | e | e | e | e | e | e | e | e | e <;> simp [e]
/-- the value's repr, and when it is a cell's, a kind's -/
theorem repr_of {μ : Store} {d : D} (h : Va μ d) (hd : dp d ≤ 60) (hs : sz d ≤ 900000) : ∃ s : Str, FreprX [d] μ = okR (.str s) μ ∧ PyData.strOk s = true ∧
    (∀ x : Str, x = "write" ∨ x = "change" → ((s = PyData.shown (.str x)) ↔ d = .str x)) ∧
    (∀ c : Cell, c ∈ allC 6 → ((s = PyData.shown (celP c)) ↔ d = cellD c)) := by
  obtain ⟨p, h1, h2, h3, h4⟩ := h.shv
  have e := h1 (69 - dp d)
  rw [show 69 - dp d + dp d + 1 = 70 by omega] at e
  have hp := pv_of h e
  refine ⟨_, f_reprX e ⟨h2, by omega⟩ (size_ok (by omega)), shown_ok hp, fun x hx => ⟨fun es => ?_, fun ed => ?_⟩, fun c hc => ⟨fun es => ?_, fun ed => ?_⟩⟩
  · have := read_atom hp (atom_str (rs_mem (.inr (.inr hx)))) (congrArg (fun t : Str => t.cps.toList) es)
    rw [this] at e
    exact back_str h e
  · rw [ed] at e
    simp [toPyX] at e
    rw [e]
  · obtain ⟨r1, r2⟩ := allC_rs hc
    have hg := (allC_mem.mp hc).2.1
    have := read_cell hp (atom_str (rs_mem (.inl r1))) (atom_int (gap_all ⟨by omega, hg.2⟩)) (atom_str (rs_mem (.inr (.inl r2)))) (congrArg (fun t : Str => t.cps.toList) es)
    rw [this] at e
    exact back_cell h e
  · rw [ed] at e
    unfold cellD at e
    simp [toPyX, toPyXs] at e
    rw [← e]
    rfl
theorem cells_sub {w : Int} (w1 : w ≤ 6) {c : Cell} (h : c ∈ allC w) : c ∈ allC 6 := by
  obtain ⟨h1, h2, h3⟩ := allC_mem.mp h
  exact allC_mem.mpr ⟨h1, ⟨by omega, by omega⟩, h3⟩

end Lw


namespace Lw
open PySem PySem.Spec L2 DM
local macro_rules | `(tactic| walk_at "q") => `(tactic| try simp only [q_ok, q_okR, q_if, q_C, q_ret, q_var, q_at, q_e1, q_e2, q_call, q_callB, q_nil, q_cons, q_tup, q_lst, q_cel, q_ifexp, q_blAt, q_bOf, q_bTru, q_bAnd, q_bOr, q_bNot, q_vAnd, q_vOr, q_vNot, q_chain, q_pureS, at0, at1, at2, q_iseq, q_seqL, q_seqF, q_rg1, q_rg2, q_itup, q_tupAt, q_iany, q_anyL, q_anyF, q_anyT, q_anyS, q_meth, q_p2, q_p3, q_unpT, q_setA, q_setA0, q_rhoAt, q_contR, q_contB, q_contC, q_callK, q_oN, q_oS, q_intAt, q_cut, f_tupL, f_tupT, f_listL, f_listT, f_listCL, f_listCT, f_cutT, f_cutL, q_aftN, q_aftC, q_aftB, q_aftR, q_pr, q_mtE, q_mtV, q_lone, q_gV, q_fnV, q_mkV, q_mkS, q_fld, q_isi, isi_ii, isi_ib, isi_tt, isi_ss, q_starS, q_star, f_itT, f_itL, q_join, q_enum, q_only, q_noExN, lookF_hit, f_addN, q_tName, q_tNil, q_tCons, q_tStar,
  f_add, f_sub, f_mul, f_div, f_mod, f_pow, f_neg, f_cmp, f_abs, f_intI, f_intB, f_max, f_min, f_lenL, f_lenF, f_lenT, f_ixL, f_ixF, f_ixT, f_eqI, f_neI, f_eqB, f_neB, f_eqT, f_neT, f_isB, f_isnotB, f_truB, f_truI, f_repr0, startR, wipeR, List.map_cons, List.map_nil, List.length_cons, List.length_nil, List.cons_append, List.nil_append, List.append_nil, List.getElem?_cons_zero, List.getElem?_cons_succ, List.set_cons_zero, List.set_cons_succ, List.replicate_succ, List.replicate_zero, Nat.reduceAdd, Nat.reduceSub, Int.reduceToNat, Int.reducePow])
local macro_rules | `(tactic| walk_at "go") => `(tactic| repeat (first | rw [q_cont] | rw [q_tCons] | rw [q_tName] | rw [q_tNil] | rw [q_tStar] | rw [q_only] | rw [q_noExN] | rw [q_seq] | rw [q_snil] | ((with_reducible refine q_asg ?_); walk_at "q") | ((with_reducible refine q_sret ?_); walk_at "q") | ((with_reducible refine q_spar2 ?_); walk_at "q") | ((with_reducible refine q_spar3 ?_); walk_at "q") | ((with_reducible refine q_sunp ?_); walk_at "q") | ((with_reducible refine q_drop ?_); walk_at "q") | ((with_reducible refine q_asgT ?_); walk_at "q") | ((with_reducible refine q_noEx ?_); walk_at "q") | ((with_reducible refine q_asg2 ?_); walk_at "q") | ((with_reducible refine q_tDSubG ?_); walk_at "q") | ((with_reducible refine q_sif ?_); walk_at "q") | ((with_reducible refine q_for ?_); walk_at "q")))
local macro_rules | `(tactic| walk_at "g1") => `(tactic| repeat (first | rw [q_cont] | rw [q_tCons] | rw [q_tName] | rw [q_tNil] | rw [q_tStar] | rw [q_only] | rw [q_noExN] | rw [q_seq] | rw [q_snil] | ((with_reducible refine q_asg ?_); walk_at "q") | ((with_reducible refine q_sret ?_); walk_at "q") | ((with_reducible refine q_spar2 ?_); walk_at "q") | ((with_reducible refine q_spar3 ?_); walk_at "q") | ((with_reducible refine q_sunp ?_); walk_at "q") | ((with_reducible refine q_drop ?_); walk_at "q") | ((with_reducible refine q_asgT ?_); walk_at "q") | ((with_reducible refine q_noEx ?_); walk_at "q") | ((with_reducible refine q_asg2 ?_); walk_at "q") | ((with_reducible refine q_tDSubG ?_); walk_at "q") | ((with_reducible refine q_for ?_); walk_at "q")))

open SX
/-! #### policies of any value -/
def kinds2 : List Str := ["change", "write"]
def isOne (ys : List Str) : D → Bool
  | .str s => decide (s ∈ ys)
  | _ => false
def cellB (w : Int) : D → Bool
  | .tup [a, g, b] => numB (some (-w)) (some w) g && (isOne rels3 a && isOne sizes2 b)
  | _ => false
def ordB : D → Bool
  | .tup xs => (match strsD xs with
    | some ts => decide (ts ∈ orders6)
    | none => false)
  | _ => false
def ascB (cs : List D) : Bool := (cs.zip (cs.drop 1)).all fun p => ltD p.1 p.2
def tabB (w : Int) : D → Bool
  | .tup cs => cs.all (cellB w) && ascB cs
  | _ => false
def plB : D → Bool
  | .tup [o, k, .int w, t] => ordB o && (isOne kinds2 k && (numB (some 1) (some 6) (.int w) && tabB w t))
  | _ => false
theorem len_szs : ∀ zs : List D, 2 * zs.length ≤ szs zs
  | [] => by simp [szs]
  | x :: r => by
    have := len_szs r
    simp only [szs, List.length_cons]; omega
theorem f_allM2 {α : Type} {f : α → Bool} {xs : List α} {μ : Store} : Fall [.lst ((xs.filter fun _ => true).map fun x => .bl (f x))] μ = okR (.bl (xs.all f)) μ := by
  rw [List.filter_eq_self.mpr (fun _ _ => rfl), f_allM]
section
variable {μ : Store} {d : D} {Q : D → Store → Prop}
theorem isone_va {ys : List Str} (h : Va μ d) (hy : ys.all PyData.strOk = true) (q : Q (.bl (isOne ys d)) μ) : Ok (F_is_one_of [d, .tup (ys.map D.str)] μ) Q := by
  refine q_fn rfl ?_
  unfold S_is_one_of
  refine q_sret ?_
  rw [q_vAnd, q_isi]
  walk_at "q"
  rw [h.isS, q_okR]
  cases hs : isStr d with
  | true =>
    obtain ⟨s, rfl⟩ := isStr_of hs
    cases h with
    | str h =>
      walk_at "q"
      try simp only [if_true]
      rw [f_inTS hy h.1, q_okR]
      exact q
  | false =>
    walk_at "q"
    try simp only [Bool.false_eq_true, if_false]
    have : isOne ys d = false := by cases d <;> first | rfl | cases hs
    rw [this] at q
    exact q
theorem rels_ok : rels3.all PyData.strOk = true := by decide +kernel
theorem sizes_ok : sizes2.all PyData.strOk = true := by decide +kernel
theorem kinds_ok : kinds2.all PyData.strOk = true := by decide +kernel
theorem cellB_no {w : Int} (h : ∀ a g b, d ≠ .tup [a, g, b]) : cellB w d = false := by
  unfold cellB
  split
  · exact absurd rfl (h _ _ _)
  · rfl
theorem iscell_va {w : Int} (h : Va μ d) (q : Q (.bl (cellB w d)) μ) : Ok (F_is_cell [d, .int w] μ) Q := by
  refine q_fn rfl ?_
  unfold S_is_cell
  have no : ∀ {T : SF} {ρ : Rho}, cellB w d = false → OkS (sRet (eC (.bl false)) ρ μ) (contS T (fun f μ1 => match f with | .nx _ => Q .non μ1 | .rt d => Q d μ1 | _ => False)) := fun hb => by
    refine q_sret ?_
    walk_at "q"
    rw [hb] at q
    exact q
  rw [q_seq]
  refine q_sif ?_
  rw [q_bOr, q_bNot, q_bTru, q_isi]
  walk_at "q"
  rw [h.isT, q_okR]
  cases ht : isTupB d with
  | false =>
    walk_at "q"
    try simp only [Bool.not_false, if_true]
    exact no (cellB_no fun a g b e => by rw [e] at ht; cases ht)
  | true =>
    obtain ⟨xs, rfl⟩ := isTupB_of ht
    have hx : ∀ x ∈ xs, Va μ x := by cases h with | tup h => exact h
    walk_at "q"
    try simp only [Bool.not_true, Bool.false_eq_true, if_false]
    by_cases hl : xs.length = 3
    · rw [show (((xs.length : Nat) : Int) == 3) = true from by simp [hl]]
      try simp only [Bool.not_true, Bool.false_eq_true, if_false]
      match xs, hl with
      | [a, g, b], _ =>
      have ha := hx a (by simp)
      have hg := hx g (by simp)
      have hb := hx b (by simp)
      walk_at "q"
      refine num_va (lo := some (-w)) (hi := some w) hg ?_
      have e : cellB w (.tup [a, g, b]) = (numB (some (-w)) (some w) g && (isOne rels3 a && isOne sizes2 b)) := rfl
      rw [e] at q no
      walk_at "q"
      cases hn : numB (some (-w)) (some w) g with
      | false =>
        try simp only [Bool.not_false, if_true]
        exact no (by rw [hn]; rfl)
      | true =>
        rw [hn, Bool.true_and] at q
        try simp only [Bool.not_true, Bool.false_eq_true, if_false]
        rw [q_snil, q_cont]
        refine q_sret ?_
        walk_at "q"
        refine isone_va (ys := rels3) ha rels_ok ?_
        walk_at "q"
        cases h1 : isOne rels3 a with
        | false =>
          rw [h1] at q
          try simp only [Bool.false_eq_true, if_false]
          exact q
        | true =>
          rw [h1, Bool.true_and] at q
          try simp only [if_true]
          exact isone_va (ys := sizes2) hb sizes_ok q
    · rw [show (((xs.length : Nat) : Int) == 3) = false from by simp; omega]
      try simp only [Bool.not_false, if_true]
      refine no (cellB_no fun a g b e => hl ?_)
      cases e
      rfl
theorem apts_strs : ∀ (ss tt : List Str), apts (ss.map D.str) (tt.map D.str) = true
  | [], _ => by cases ‹List Str› <;> rfl
  | s :: r, [] => rfl
  | s :: r, t :: u => by
    show (true && apts (r.map D.str) (u.map D.str)) = true
    rw [apts_strs r u]; rfl
theorem all_strs : ∀ {xs : List D}, xs.all isStr = true → ∃ ts : List Str, xs = ts.map D.str
  | [], _ => ⟨[], rfl⟩
  | x :: r, h => by
    rw [List.all_cons, Bool.and_eq_true] at h
    obtain ⟨s, rfl⟩ := isStr_of h.1
    obtain ⟨ts, rfl⟩ := all_strs h.2
    exact ⟨s :: ts, rfl⟩
theorem strs_none {xs : List D} (h : xs.all isStr = false) : strsD xs = none := by
  cases e : strsD xs with
  | none => rfl
  | some ts =>
    have := strsD_eq e
    subst this
    have : (ts.map D.str).all isStr = true := List.all_eq_true.mpr fun d hd => by
      obtain ⟨s, _, rfl⟩ := List.mem_map.mp hd
      rfl
    rw [this] at h
    cases h
theorem strs_ok {ts : List Str} (h : ∀ x ∈ ts.map D.str, Va μ x) : ∀ t ∈ ts, TxtV t := fun t ht => by
  have := h (.str t) (List.mem_map.mpr ⟨t, ht, rfl⟩)
  cases this with
  | str h => exact h
theorem shps_strs {n : Nat} {ts : List Str} (h : ∀ t ∈ ts, PyData.strOk t = true) : shps n (ts.map D.str) = true := shps_all.mpr fun d hd => by
  obtain ⟨x, hx, rfl⟩ := List.mem_map.mp hd
  exact h x hx
theorem ord_strOk {o : List Str} (h : o ∈ orders6) : ∀ t ∈ o, PyData.strOk t = true := by
  have key : (orders6.all fun o => o.all PyData.strOk) = true := by decide +kernel
  exact fun t ht => List.all_eq_true.mp (List.all_eq_true.mp key o h) t ht
theorem tupstr_inj {a b : List Str} (h : D.tup (a.map D.str) = D.tup (b.map D.str)) : a = b := by
  have h : a.map D.str = b.map D.str := D.tup.inj h
  exact (List.map_inj_right (fun a b h => by cases h; rfl)).mp h
theorem isord_va (h : Va μ d) (hc : Clo μ) (hs : sz d ≤ 900000) (q : Q (.bl (ordB d)) μ) : Ok (F_is_order [d] μ) Q := by
  refine q_fn rfl ?_
  unfold S_is_order
  refine q_sret ?_
  rw [q_vAnd, q_isi]
  walk_at "q"
  rw [h.isT, q_okR]
  cases ht : isTupB d with
  | false =>
    walk_at "q"
    try simp only [Bool.false_eq_true, if_false]
    have : ordB d = false := by cases d <;> first | rfl | cases ht
    rw [this] at q
    exact q
  | true =>
    obtain ⟨xs, rfl⟩ := isTupB_of ht
    have hx : ∀ x ∈ xs, Va μ x := by cases h with | tup h => exact h
    have hl := len_szs xs
    have hsz : sz (.tup xs) = szs xs + 3 := rfl
    walk_at "q"
    try simp only [if_true]
    refine q_lcmC (fun d : D => d) (fun _ => true) (fun d => .bl (isStr d)) xs hc (by omega) ?_ ?_ ?_
    · walk_at "q"
      exact ⟨by trivial, by simp, fun _ => rfl⟩
    · intro x o hx' ho
      refine ⟨_, rfl, ⟨rfl, rfl⟩, fun _ => ?_⟩
      have hv := (hx x hx').keep (KeptD.app (t := [o]))
      rw [q_isi]
      walk_at "q"
      rw [hv.isS, q_okR]
      exact ⟨by trivial, by trivial, rfl⟩
    · rw [f_allM2, q_okR]
      walk_at "q"
      cases hall : xs.all isStr with
      | false =>
        try simp only [Bool.false_eq_true, if_false]
        have : ordB (.tup xs) = false := by
          show (match strsD xs with | some ts => decide (ts ∈ orders6) | none => false) = false
          rw [strs_none hall]
        rw [this] at q
        exact q
      | true =>
        try simp only [if_true]
        obtain ⟨ts, rfl⟩ := all_strs hall
        have htx := strs_ok hx
        refine orders_ok hc ?_
        have h1 : shp 60 (.tup (ts.map D.str)) = true := shps_strs (n := 59) fun t ht => (htx t ht).1
        have h2 : shps 59 (orders6.map fun o => D.tup (o.map D.str)) = true := shps_all.mpr fun d hd => by
          obtain ⟨o', ho', rfl⟩ := List.mem_map.mp hd
          exact shps_strs (n := 58) (ord_strOk ho')
        rw [f_inT h1 h2 (fun x hx => by
          obtain ⟨o', ho', rfl⟩ := List.mem_map.mp hx
          exact apts_strs o' ts), q_okR, if_neg (by decide)]
        have : ordB (.tup (ts.map D.str)) = decide (D.tup (ts.map D.str) ∈ orders6.map fun o => D.tup (o.map D.str)) := by
          show (match strsD (ts.map D.str) with | some ts => decide (ts ∈ orders6) | none => false) = _
          rw [strsD_map]
          refine decide_eq_decide.mpr ⟨fun z => List.mem_map.mpr ⟨ts, z, rfl⟩, fun z => ?_⟩
          obtain ⟨o, ho, e⟩ := List.mem_map.mp z
          rw [← tupstr_inj e]
          exact ho
        rw [this] at q
        exact q
theorem numB_int {lo hi : Option Int} {x : D} (h : numB lo hi x = true) : ∃ i, x = .int i := by
  cases x <;> first | exact ⟨_, rfl⟩ | cases h
theorem isOne_str {ys : List Str} {x : D} (h : isOne ys x = true) : ∃ s, x = .str s ∧ s ∈ ys := by
  cases x <;> first | exact ⟨_, rfl, of_decide_eq_true h⟩ | cases h
theorem cell_of_B {w : Int} {x : D} (hw : 0 ≤ w) (h : cellB w x = true) : ∃ c : Cell, x = cellD c ∧ c ∈ allC w := by
  unfold cellB at h
  split at h
  · rename_i a g b
    rw [Bool.and_eq_true, Bool.and_eq_true] at h
    obtain ⟨h1, h2, h3⟩ := h
    obtain ⟨i, rfl⟩ := numB_int h1
    obtain ⟨s, rfl, hs⟩ := isOne_str h2
    obtain ⟨t, rfl, ht⟩ := isOne_str h3
    refine ⟨(s, i, t), rfl, allC_mem.mpr ⟨by simpa [rels3] using hs, ?_, by simpa [sizes2] using ht⟩⟩
    have h1 : (decide (-w ≤ i) && decide (i ≤ w)) = true := h1
    simp only [Bool.and_eq_true, decide_eq_true_eq] at h1
    exact ⟨by dsimp only; omega, h1.2⟩
  · cases h
theorem cell_B {w : Int} {c : Cell} (h : c ∈ allC w) : cellB w (cellD c) = true := by
  obtain ⟨h1, h2, h3⟩ := allC_mem.mp h
  obtain ⟨r1, r2⟩ := allC_rs h
  show ((decide (-w ≤ c.2.1) && decide (c.2.1 ≤ w)) && (decide (c.1 ∈ rels3) && decide (c.2.2 ∈ sizes2))) = true
  rw [decide_eq_true r1, decide_eq_true r2, decide_eq_true (show -w ≤ c.2.1 by omega), decide_eq_true h2.2]
  rfl
theorem all_cells {w : Int} (hw : 0 ≤ w) : ∀ {cs : List D}, cs.all (cellB w) = true → ∃ L : List Cell, cs = L.map cellD ∧ ∀ c ∈ L, c ∈ allC w
  | [], _ => ⟨[], rfl, fun _ h => by cases h⟩
  | x :: r, h => by
    rw [List.all_cons, Bool.and_eq_true] at h
    obtain ⟨c, rfl, hc⟩ := cell_of_B hw h.1
    obtain ⟨L, rfl, hL⟩ := all_cells hw h.2
    exact ⟨c :: L, rfl, fun z hz => (List.mem_cons.mp hz).elim (fun e => e ▸ hc) (hL z)⟩
theorem cel_shp {c : Cell} {w : Int} (h : c ∈ allC w) {n : Nat} (hn : 1 ≤ n) : shp n (cellD c) = true := by
  obtain ⟨r1, r2⟩ := allC_rs h
  have h1 := rs_strOk (.inl r1)
  have h2 := rs_strOk (.inr r2)
  obtain ⟨m, rfl⟩ : ∃ m, n = m + 1 := ⟨n - 1, by omega⟩
  simp [cellD, shp, shps, h1, h2]
theorem asc_va {w : Int} {L : List Cell} (hc : Clo μ) (hl : L.length ≤ 900000) (h : ∀ c ∈ L, c ∈ allC w) (q : Q (.bl (ascB (L.map cellD))) μ) : Ok (F_ascends [.tup (L.map cellD)] μ) Q := by
  refine q_fn rfl ?_
  unfold S_ascends
  walk_at "g1"
  have hz : zipD (L.map cellD) ((L.map cellD).drop 1) = (L.zip (L.drop 1)).map fun p => .tup [cellD p.1, cellD p.2] := by
    unfold zipD
    rw [← List.map_drop, List.zipWith_map, List.zip, List.map_zipWith]
  have ea : ascB (L.map cellD) = (L.zip (L.drop 1)).all fun p => ltD (cellD p.1) (cellD p.2) := by
    unfold ascB
    rw [← List.map_drop, List.zip_map, List.all_map]
    rfl
  rw [ea] at q
  refine q_lcmC (fun p : Cell × Cell => D.tup [cellD p.1, cellD p.2]) (fun _ => true) (fun p => .bl (ltD (cellD p.1) (cellD p.2))) (L.zip (L.drop 1)) hc (by rw [List.length_zip]; omega) ?_ ?_ ?_
  · unfold DM.iZip
    rw [Ok_bind]
    walk_at "q"
    rw [show (1 : Int) = ((1 : Nat) : Int) from rfl, cut_drop]
    simp only [seqD, hz]
    exact ⟨rfl, rfl, fun _ => rfl⟩
  · rintro ⟨a, b⟩ o hm ho
    have ha : a ∈ allC w := h a (List.of_mem_zip hm).1
    have hb : b ∈ allC w := h b (List.mem_of_mem_drop (List.of_mem_zip hm).2)
    refine ⟨_, rfl, ⟨rfl, rfl⟩, fun _ => ?_⟩
    walk_at "q"
    rw [f_ltD (cel_shp ha (by decide)) (cel_shp hb (by decide)) (by simp [cellD, pyD, pyDs, PySem.W.alike, PySem.W.alikeAll]) rfl, q_okR]
    exact ⟨rfl, rfl, rfl⟩
  · rw [f_allM2]
    exact q
theorem plB_no (h : ∀ o k w t, d ≠ .tup [o, k, .int w, t]) : plB d = false := by
  unfold plB
  split
  · exact absurd rfl (h _ _ _ _)
  · rfl
theorem isp_va (h : Va μ d) (hc : Clo μ) (hs : sz d ≤ 900000) (q : Q (.bl (plB d)) μ) : Ok (F_is_policy [d] μ) Q := by
  refine q_fn rfl ?_
  unfold S_is_policy
  have no : ∀ {T : SF} {ρ : Rho}, plB d = false → OkS (sRet (eC (.bl false)) ρ μ) (contS T (fun f μ1 => match f with | .nx _ => Q .non μ1 | .rt d => Q d μ1 | _ => False)) := fun hb => by
    refine q_sret ?_
    walk_at "q"
    rw [hb] at q
    exact q
  rw [q_seq]
  refine q_sif ?_
  rw [q_bOr, q_bNot, q_bTru, q_isi]
  walk_at "q"
  rw [h.isT, q_okR]
  cases ht : isTupB d with
  | false =>
    walk_at "q"
    try simp only [Bool.not_false, if_true]
    exact no (plB_no fun o k w t e => by rw [e] at ht; cases ht)
  | true =>
    obtain ⟨xs, rfl⟩ := isTupB_of ht
    have hx : ∀ x ∈ xs, Va μ x := by cases h with | tup h => exact h
    walk_at "q"
    try simp only [Bool.not_true, Bool.false_eq_true, if_false]
    by_cases hl : xs.length = 4
    · rw [show (((xs.length : Nat) : Int) == 4) = true from by simp [hl]]
      try simp only [Bool.not_true, Bool.false_eq_true, if_false]
      rw [q_snil, q_cont, q_seq]
      match xs, hl with
      | [o, k, w, t], _ =>
      have ho := hx o (by simp)
      have hk := hx k (by simp)
      have hw := hx w (by simp)
      have hvt := hx t (by simp)
      have so : sz o ≤ 900000 := by simp only [sz, szs] at hs; omega
      have st : sz t ≤ 900000 := by simp only [sz, szs] at hs; omega
      refine q_sunp ?_
      walk_at "q"
      rw [q_cont, q_seq]
      refine q_sif ?_
      walk_at "q"
      refine isord_va ho hc so ?_
      walk_at "q"
      cases h1 : ordB o with
      | false =>
        try simp only [Bool.not_false, if_true]
        refine no ?_
        unfold plB
        split
        · rename_i e
          cases e
          rw [h1]; rfl
        · rfl
      | true =>
        try simp only [Bool.not_true, Bool.false_eq_true, if_false]
        refine isone_va (ys := kinds2) hk kinds_ok ?_
        walk_at "q"
        cases h2 : isOne kinds2 k with
        | false =>
          try simp only [Bool.not_false, if_true]
          refine no ?_
          unfold plB
          split
          · rename_i e
            cases e
            rw [h1, h2]; rfl
          · rfl
        | true =>
          try simp only [Bool.not_true, Bool.false_eq_true, if_false]
          refine num_va (lo := some 1) (hi := some 6) hw ?_
          walk_at "q"
          cases h3 : numB (some 1) (some 6) w with
          | false =>
            try simp only [Bool.not_false, if_true]
            refine no ?_
            unfold plB
            split
            · rename_i e
              cases e
              rw [h1, h2, h3]; rfl
            · rfl
          | true =>
            obtain ⟨i, rfl⟩ := numB_int h3
            have hi : 1 ≤ i ∧ i ≤ 6 := by
              have h3 : (decide (1 ≤ i) && decide (i ≤ 6)) = true := h3
              simpa using h3
            have e : plB (.tup [o, k, .int i, t]) = tabB i t := by
              show (ordB o && (isOne kinds2 k && (numB (some 1) (some 6) (.int i) && tabB i t))) = _
              rw [h1, h2, h3]; rfl
            rw [e] at q
            clear no
            try simp only [Bool.not_true, Bool.false_eq_true, if_false]
            rw [q_snil, q_cont]
            refine q_sret ?_
            rw [q_vAnd, q_isi]
            walk_at "q"
            rw [hvt.isT, q_okR]
            cases htt : isTupB t with
            | false =>
              walk_at "q"
              try simp only [Bool.false_eq_true, if_false]
              have : tabB i t = false := by cases t <;> first | rfl | cases htt
              rw [this] at q
              exact q
            | true =>
              obtain ⟨cs, rfl⟩ := isTupB_of htt
              have hcs : ∀ x ∈ cs, Va μ x := by cases hvt with | tup h => exact h
              have lcs := len_szs cs
              have scs : sz (.tup cs) = szs cs + 3 := rfl
              walk_at "q"
              try simp only [if_true]
              refine q_lcmC (fun d : D => d) (fun _ => true) (fun d => .bl (cellB i d)) cs hc (by omega) ?_ ?_ ?_
              · walk_at "q"
                exact ⟨by trivial, by simp, fun _ => rfl⟩
              · intro x o' hx' ho'
                refine ⟨_, rfl, ⟨rfl, rfl⟩, fun _ => ?_⟩
                walk_at "q"
                exact iscell_va ((hcs x hx').keep KeptD.app) ⟨rfl, rfl, rfl⟩
              · rw [f_allM2, q_okR]
                walk_at "q"
                cases hall : cs.all (cellB i) with
                | false =>
                  try simp only [Bool.false_eq_true, if_false]
                  have : tabB i (.tup cs) = false := by
                    show (cs.all (cellB i) && ascB cs) = false
                    rw [hall]; rfl
                  rw [this] at q
                  exact q
                | true =>
                  have : tabB i (.tup cs) = ascB cs := by
                    show (cs.all (cellB i) && ascB cs) = _
                    rw [hall]; rfl
                  rw [this] at q
                  obtain ⟨L, rfl, hL⟩ := all_cells (by omega) hall
                  try simp only [if_true]
                  refine asc_va hc (by rw [List.length_map] at lcs; omega) hL ?_
                  exact q
    · rw [show (((xs.length : Nat) : Int) == 4) = false from by simp; omega]
      try simp only [Bool.not_false, if_true]
      refine no (plB_no fun o k w t e => hl ?_)
      cases e
      rfl
end

end Lw


namespace Lw
open PySem PySem.Spec L2 DM
local macro_rules | `(tactic| walk_at "q") => `(tactic| try simp only [q_ok, q_okR, q_if, q_C, q_ret, q_var, q_at, q_e1, q_e2, q_call, q_callB, q_nil, q_cons, q_tup, q_lst, q_cel, q_ifexp, q_blAt, q_bOf, q_bTru, q_bAnd, q_bOr, q_bNot, q_vAnd, q_vOr, q_vNot, q_chain, q_pureS, at0, at1, at2, q_iseq, q_seqL, q_seqF, q_rg1, q_rg2, q_itup, q_tupAt, q_iany, q_anyL, q_anyF, q_anyT, q_anyS, q_meth, q_p2, q_p3, q_unpT, q_setA, q_setA0, q_rhoAt, q_contR, q_contB, q_contC, q_callK, q_oN, q_oS, q_intAt, q_cut, f_tupL, f_tupT, f_listL, f_listT, f_listCL, f_listCT, f_cutT, f_cutL, q_aftN, q_aftC, q_aftB, q_aftR, q_pr, q_mtE, q_mtV, q_lone, q_gV, q_fnV, q_mkV, q_mkS, q_fld, q_isi, isi_ii, isi_ib, isi_tt, isi_ss, q_starS, q_star, f_itT, f_itL, q_join, q_enum, q_only, q_noExN, lookF_hit, f_addN, q_tName, q_tNil, q_tCons, q_tStar,
  f_add, f_sub, f_mul, f_div, f_mod, f_pow, f_neg, f_cmp, f_abs, f_intI, f_intB, f_max, f_min, f_lenL, f_lenF, f_lenT, f_ixL, f_ixF, f_ixT, f_eqI, f_neI, f_eqB, f_neB, f_eqT, f_neT, f_isB, f_isnotB, f_truB, f_truI, f_repr0, startR, wipeR, List.map_cons, List.map_nil, List.length_cons, List.length_nil, List.cons_append, List.nil_append, List.append_nil, List.getElem?_cons_zero, List.getElem?_cons_succ, List.set_cons_zero, List.set_cons_succ, List.replicate_succ, List.replicate_zero, Nat.reduceAdd, Nat.reduceSub, Int.reduceToNat, Int.reducePow])
local macro_rules | `(tactic| walk_at "go") => `(tactic| repeat (first | rw [q_cont] | rw [q_tCons] | rw [q_tName] | rw [q_tNil] | rw [q_tStar] | rw [q_only] | rw [q_noExN] | rw [q_seq] | rw [q_snil] | ((with_reducible refine q_asg ?_); walk_at "q") | ((with_reducible refine q_sret ?_); walk_at "q") | ((with_reducible refine q_spar2 ?_); walk_at "q") | ((with_reducible refine q_spar3 ?_); walk_at "q") | ((with_reducible refine q_sunp ?_); walk_at "q") | ((with_reducible refine q_drop ?_); walk_at "q") | ((with_reducible refine q_asgT ?_); walk_at "q") | ((with_reducible refine q_noEx ?_); walk_at "q") | ((with_reducible refine q_asg2 ?_); walk_at "q") | ((with_reducible refine q_tDSubG ?_); walk_at "q") | ((with_reducible refine q_sif ?_); walk_at "q") | ((with_reducible refine q_for ?_); walk_at "q")))
local macro_rules | `(tactic| walk_at "g1") => `(tactic| repeat (first | rw [q_cont] | rw [q_tCons] | rw [q_tName] | rw [q_tNil] | rw [q_tStar] | rw [q_only] | rw [q_noExN] | rw [q_seq] | rw [q_snil] | ((with_reducible refine q_asg ?_); walk_at "q") | ((with_reducible refine q_sret ?_); walk_at "q") | ((with_reducible refine q_spar2 ?_); walk_at "q") | ((with_reducible refine q_spar3 ?_); walk_at "q") | ((with_reducible refine q_sunp ?_); walk_at "q") | ((with_reducible refine q_drop ?_); walk_at "q") | ((with_reducible refine q_asgT ?_); walk_at "q") | ((with_reducible refine q_noEx ?_); walk_at "q") | ((with_reducible refine q_asg2 ?_); walk_at "q") | ((with_reducible refine q_tDSubG ?_); walk_at "q") | ((with_reducible refine q_for ?_); walk_at "q")))

open SX
/-! #### the law's own look -/
def tabW : D → D → Bool
  | .int i, t => tabB i t
  | _, _ => false
theorem plB_4 {o k w t : D} : plB (.tup [o, k, w, t]) = (ordB o && (isOne kinds2 k && (numB (some 1) (some 6) w && tabW w t))) := by
  cases w <;> first | rfl | (unfold plB numB; simp)
theorem plB_no4 {xs : List D} (h : xs.length ≠ 4) : plB (.tup xs) = false := plB_no fun o k w t e => h (by cases e; rfl)
def rk (c : Cell) : Int := (if c.1 = "less" then 0 else if c.1 = "more" then 1 else 2) * 100 + c.2.1 * 2 + (if c.2.2 = "other" then 0 else 1)
theorem rk_all : ((allC 6).all fun a => (allC 6).all fun b => ltD (cellD a) (cellD b) == decide (rk a < rk b)) = true := by decide +kernel
theorem rk_lt {a b : Cell} (ha : a ∈ allC 6) (hb : b ∈ allC 6) : ltD (cellD a) (cellD b) = decide (rk a < rk b) := eq_of_beq (List.all_eq_true.mp (List.all_eq_true.mp rk_all a ha) b hb)
theorem asc_pw : ∀ {L : List Cell}, (∀ c ∈ L, c ∈ allC 6) → (ascB (L.map cellD) = true ↔ L.Pairwise fun a b => rk a < rk b)
  | [], _ => ⟨fun _ => .nil, fun _ => rfl⟩
  | [a], _ => ⟨fun _ => List.pairwise_singleton _ _, fun _ => rfl⟩
  | a :: b :: r, h => by
    have ih := asc_pw (L := b :: r) fun c hc => h c (List.mem_cons_of_mem _ hc)
    have e : ascB ((a :: b :: r).map cellD) = (ltD (cellD a) (cellD b) && ascB ((b :: r).map cellD)) := by simp [ascB]
    rw [e, Bool.and_eq_true, ih, rk_lt (h a (by simp)) (h b (by simp)), decide_eq_true_iff]
    constructor
    · rintro ⟨h1, h2⟩
      refine List.pairwise_cons.mpr ⟨fun c hc => ?_, h2⟩
      rcases List.mem_cons.mp hc with rfl | hc
      · exact h1
      · exact Int.lt_trans h1 (List.rel_of_pairwise_cons h2 hc)
    · intro h
      obtain ⟨h1, h2⟩ := List.pairwise_cons.mp h
      exact ⟨h1 b (by simp), h2⟩
theorem pw_lt {L : List Cell} (h : ∀ c ∈ L, c ∈ allC 6) (p : L.Pairwise fun a b => rk a < rk b) : (L.map cellD).Pairwise fun a b => ltD a b = true := by
  rw [List.pairwise_map]
  refine List.pairwise_iff_getElem.mpr fun i j hi hj hij => ?_
  rw [rk_lt (h _ (List.getElem_mem hi)) (h _ (List.getElem_mem hj))]
  exact decide_eq_true (List.pairwise_iff_getElem.mp p i j hi hj hij)
theorem cellD_inj {a b : Cell} (h : cellD a = cellD b) : a = b := by
  obtain ⟨a1, a2, a3⟩ := a
  obtain ⟨b1, b2, b3⟩ := b
  simp only [cellD, D.tup.injEq, List.cons.injEq, D.str.injEq, D.int.injEq] at h
  obtain ⟨rfl, rfl, rfl, _⟩ := h
  rfl
theorem tab_asc {w : Int} {L : List Cell} (w0 : 1 ≤ w) (w1 : w ≤ 6) (h : ∀ c ∈ L, c ∈ allC w) : decide (D.lst (L.map cellD) = D.lst ((tabS w L).map cellD)) = ascB (L.map cellD) := by
  have h6 : ∀ c ∈ L, c ∈ allC 6 := fun c hc => cells_sub w1 (h c hc)
  have tp : ((tabS w L).map cellD).Pairwise fun a b => ltD a b = true := by
    rw [List.pairwise_map]
    exact (allC_lt w0 w1).sublist List.filter_sublist
  rw [Bool.eq_iff_iff, decide_eq_true_iff, asc_pw h6]
  constructor
  · intro e
    have e : L = tabS w L := (List.map_inj_right (fun a b h => cellD_inj h)).mp (D.lst.inj e)
    rw [List.pairwise_map] at tp
    rw [← e] at tp
    refine List.pairwise_iff_getElem.mpr fun i j hi hj hij => ?_
    have := List.pairwise_iff_getElem.mp tp i j hi hj hij
    rw [rk_lt (h6 _ (List.getElem_mem hi)) (h6 _ (List.getElem_mem hj)), decide_eq_true_iff] at this
    exact this
  · intro p
    have lp := pw_lt h6 p
    have nd : ∀ {M : List Cell}, (M.map cellD).Pairwise (fun a b => ltD a b = true) → M.Nodup := fun {M} hM => by
      rw [List.pairwise_map] at hM
      refine hM.imp fun hlt e => ?_
      rw [e, ltD_irr] at hlt
      cases hlt
    have pm : ((tabS w L).map cellD).Perm (L.map cellD) := List.Perm.map _ ((List.perm_ext_iff_of_nodup (nd tp) (nd lp)).mpr fun c => tab_mem h)
    rw [← srt_uniq pm tp, srt_uniq (List.Perm.refl _) lp]
theorem ord_perm {ts : List Str} (h : ts.Perm ["note", "read", "stat"]) : ts ∈ orders6 := by
  have hl := h.length_eq
  have nd : ts.Nodup := h.nodup_iff.mpr (by decide +kernel)
  match ts, hl with
  | [a, b, c], _ =>
    have ha := h.subset (show a ∈ [a, b, c] by simp)
    have hb := h.subset (show b ∈ [a, b, c] by simp)
    have hc := h.subset (show c ∈ [a, b, c] by simp)
    simp only [List.mem_cons, List.not_mem_nil, or_false] at ha hb hc
    rcases ha with rfl | rfl | rfl <;> rcases hb with rfl | rfl | rfl <;> rcases hc with rfl | rfl | rfl <;> first | (exact absurd nd (by decide +kernel)) | decide +kernel
theorem ord_perm' {ts : List Str} (h : ts ∈ orders6) : (["note", "read", "stat"] : List Str).Perm ts := by
  simp only [orders6, List.mem_cons, List.not_mem_nil, or_false] at h
  rcases h with rfl | rfl | rfl | rfl | rfl | rfl <;> decide +kernel
theorem steps_lt : ((["note", "read", "stat"] : List Str).map D.str).Pairwise fun a b => ltD a b = true := by decide +kernel
theorem srt_ord {ts : List Str} : decide (D.lst (srtD (ts.map D.str)) = .lst [.str "note", .str "read", .str "stat"]) = decide (ts ∈ orders6) := by
  refine decide_eq_decide.mpr ⟨fun e => ?_, fun h => ?_⟩
  · have e : srtD (ts.map D.str) = (["note", "read", "stat"] : List Str).map D.str := D.lst.inj e
    have p := srt_perm (ts.map D.str)
    rw [e] at p
    have inj : ∀ {a b : List Str}, (a.map D.str).Perm (b.map D.str) → a.Perm b := fun {a b} hp => by
      have := hp.map fun d => match d with | D.str s => s | _ => ""
      rw [List.map_map, List.map_map] at this
      have i1 : ∀ l : List Str, l.map ((fun d => match d with | D.str s => s | _ => "") ∘ D.str) = l := fun l => by
        rw [show ((fun d => match d with | D.str s => s | _ => "") ∘ D.str) = (id : Str → Str) from rfl, List.map_id]
      rwa [i1, i1] at this
    exact ord_perm (inj p).symm
  · rw [srt_uniq ((ord_perm' h).map D.str) steps_lt]
    rfl
theorem sz_cells : ∀ L : List Cell, szs (L.map cellD) = 151 * L.length
  | [] => rfl
  | c :: r => by
    have ih := sz_cells r
    show sz (cellD c) + 2 + szs (r.map cellD) = _
    rw [ih]
    have : sz (cellD c) = 149 := rfl
    rw [this, List.length_cons]
    omega
theorem cel_all : ((allC 6).all fun c => (celP c).showable && (decide ((celP c).depth ≤ 5) && decide ((PyData.shown (celP c)).length ≤ 100) && PyData.strOk (PyData.shown (celP c)))) = true := by decide +kernel
theorem repr_cell {μ : Store} {c : Cell} (h : c ∈ allC 6) : FreprX [cellD c] μ = okR (.str (PyData.shown (celP c))) μ ∧ PyData.strOk (PyData.shown (celP c)) = true := by
  have k := List.all_eq_true.mp cel_all c h
  simp only [Bool.and_eq_true, decide_eq_true_eq] at k
  exact ⟨f_reprX (p := celP c) (by unfold cellD celP; simp [toPyX, toPyXs]) ⟨k.1, by omega⟩ (size_ok (by omega)), k.2.2⟩
theorem repr_word {μ : Store} {x : Str} (h : x = "write" ∨ x = "change") : FreprX [.str x] μ = okR (.str (PyData.shown (.str x))) μ ∧ PyData.strOk (PyData.shown (.str x)) = true := by
  rcases h with rfl | rfl
  · exact ⟨f_reprX (by simp [toPyX]) (by decide +kernel) (size_ok (by decide +kernel)), by decide +kernel⟩
  · exact ⟨f_reprX (by simp [toPyX]) (by decide +kernel) (size_ok (by decide +kernel)), by decide +kernel⟩
theorem num_eq : F__law_is_number = F_is_integer := rfl
section
variable {μ : Store} {d : D} {Q : D → Store → Prop}
theorem lplan_va (h : Va μ d) (hc : Clo μ) (hs : sz d ≤ 40000) (hd : dp d ≤ 50) (q : Q (.bl (plB d)) μ) : Ok (F__law_is_plan [d] μ) Q := by
  refine q_fn rfl ?_
  unfold S__law_is_plan
  have no : ∀ {T : SF} {ρ : Rho}, plB d = false → OkS (sRet (eC (.bl false)) ρ μ) (contS T (fun f μ1 => match f with | .nx _ => Q .non μ1 | .rt d => Q d μ1 | _ => False)) := fun hb => by
    refine q_sret ?_
    walk_at "q"
    rw [hb] at q
    exact q
  have at3 : ∀ {a b c d : D}, atI [a, b, c, d] 3 = some d := fun {a b c d} => atI_nat (j := 3) rfl
  rw [q_seq]
  refine q_sif ?_
  rw [q_bOr, q_bNot, q_bTru, q_isi]
  walk_at "q"
  rw [h.isT, q_okR]
  cases htu : isTupB d with
  | false =>
    walk_at "q"
    try simp only [Bool.not_false, if_true]
    exact no (plB_no fun o k w t e => by rw [e] at htu; cases htu)
  | true =>
    obtain ⟨xs, rfl⟩ := isTupB_of htu
    have hx : ∀ x ∈ xs, Va μ x := by cases h with | tup h => exact h
    walk_at "q"
    try simp only [Bool.not_true, Bool.false_eq_true, if_false]
    by_cases hl : xs.length = 4
    · rw [show (((xs.length : Nat) : Int) == 4) = true from by simp [hl]]
      try simp only [Bool.not_true, Bool.false_eq_true, if_false]
      match xs, hl with
      | [o, k, w, t], _ =>
      have ho := hx o (by simp)
      have hk := hx k (by simp)
      have hw := hx w (by simp)
      have hvt := hx t (by simp)
      have so : sz o + sz t + sz k ≤ 40000 := by simp only [sz, szs] at hs; omega
      have dk : dp k ≤ 50 := by simp only [dp, dps] at hd; omega
      have dt : dp t ≤ 50 := by simp only [dp, dps] at hd; omega
      rw [plB_4] at q no
      walk_at "q"
      rw [ho.isT, q_okR]
      cases hto : isTupB o with
      | false =>
        walk_at "q"
        try simp only [Bool.not_false, if_true]
        refine no ?_
        have : ordB o = false := by cases o <;> first | rfl | cases hto
        rw [this]; rfl
      | true =>
        obtain ⟨os, rfl⟩ := isTupB_of hto
        have hos : ∀ x ∈ os, Va μ x := by cases ho with | tup h => exact h
        have los := len_szs os
        have sos : sz (.tup os) = szs os + 3 := rfl
        walk_at "q"
        try simp only [Bool.not_true, Bool.false_eq_true, if_false]
        rw [q_snil, q_cont]
        unfold S__law_is_plan_1
        rw [q_seq]
        refine q_sif ?_
        walk_at "q"
        refine q_lcmC (fun d : D => d) (fun _ => true) (fun d => .bl (isStr d)) os hc (by omega) ?_ ?_ ?_
        · walk_at "q"
          exact ⟨by trivial, by simp, fun _ => rfl⟩
        · intro x ob hx' hob
          refine ⟨_, rfl, ⟨rfl, rfl⟩, fun _ => ?_⟩
          have hv := (hos x hx').keep (KeptD.app (t := [ob]))
          rw [q_isi]
          walk_at "q"
          rw [hv.isS, q_okR]
          exact ⟨by trivial, by trivial, rfl⟩
        · rw [f_allM2, q_okR]
          walk_at "q"
          cases hall : os.all isStr with
          | false =>
            try simp only [Bool.not_false, if_true]
            refine no ?_
            have : ordB (.tup os) = false := by
              show (match strsD os with | some ts => decide (ts ∈ orders6) | none => false) = false
              rw [strs_none hall]
            rw [this]; rfl
          | true =>
            try simp only [Bool.not_true, Bool.false_eq_true, if_false]
            obtain ⟨ts, rfl⟩ := all_strs hall
            have htx := strs_ok hos
            have eo : ordB (.tup (ts.map D.str)) = decide (ts ∈ orders6) := by
              show (match strsD (ts.map D.str) with | some ts => decide (ts ∈ orders6) | none => false) = _
              rw [strsD_map]
            rw [eo] at q no
            have hsS : sortSOk (ts.map D.str) := ⟨by omega, fun x hx => by
              obtain ⟨s, hs', rfl⟩ := List.mem_map.mp hx
              exact ⟨(htx s hs').1, rfl⟩⟩
            rw [show FsortSp [.tup (ts.map D.str)] μ = okR (.lst (srtD (ts.map D.str))) μ from if_pos hsS, q_okR]
            walk_at "q"
            refine ⟨size_ok (by decide), ?_⟩
            have hm : ∀ x ∈ srtD (ts.map D.str), ∃ s, x = D.str s ∧ PyData.strOk s = true := fun x hx => by
              obtain ⟨s, hs', rfl⟩ := List.mem_map.mp ((srt_perm _).subset hx)
              exact ⟨s, rfl, (htx s hs').1⟩
            have hA : shp 60 (.lst (srtD (ts.map D.str))) = true := shps_all.mpr fun x hx => by
              obtain ⟨s, rfl, h⟩ := hm x hx
              exact h
            have hap : ∀ (xs : List D) (ys : List Str), (∀ x ∈ xs, ∃ s, x = D.str s ∧ PyData.strOk s = true) → apts xs (ys.map D.str) = true := by
              intro xs
              induction xs with
              | nil => intro ys _; cases ys <;> rfl
              | cons x r ih =>
                intro ys hxs
                cases ys with
                | nil => rfl
                | cons y u =>
                  obtain ⟨s, rfl, _⟩ := hxs x List.mem_cons_self
                  show (true && apts r (u.map D.str)) = true
                  rw [ih u fun z hz => hxs z (List.mem_cons_of_mem _ hz)]; rfl
            rw [f_neD hA (show shp 60 (.lst [D.str "note", D.str "read", D.str "stat"]) = true from by decide +kernel) (hap _ ["note", "read", "stat"] hm), q_okR, srt_ord]
            walk_at "q"
            cases hor : decide (ts ∈ orders6) with
            | false =>
              try simp only [Bool.not_false, if_true]
              exact no (by rw [hor]; rfl)
            | true =>
              rw [hor, Bool.true_and] at q no
              try simp only [Bool.not_true, Bool.false_eq_true, if_false]
              rw [q_snil, q_cont]
              unfold S__law_is_plan_2
              rw [q_seq]
              refine q_sif ?_
              walk_at "q"
              obtain ⟨sk, ek, okk, hkind, _⟩ := repr_of hk (by omega) (by omega)
              rw [ek, q_okR]
              walk_at "q"
              rw [(repr_word (.inl rfl)).1, q_okR]
              walk_at "q"
              rw [(repr_word (.inr rfl)).1, q_okR]
              walk_at "q"
              refine ⟨size_ok (by decide), ?_⟩
              have ekk : isOne kinds2 k = decide (sk ∈ [PyData.shown (.str "write"), PyData.shown (.str "change")]) := by
                rw [Bool.eq_iff_iff, decide_eq_true_iff]
                constructor
                · intro z
                  obtain ⟨s, rfl, hs'⟩ := isOne_str z
                  simp only [kinds2, List.mem_cons, List.not_mem_nil, or_false] at hs'
                  rcases hs' with rfl | rfl
                  · rw [(hkind "change" (.inr rfl)).mpr rfl]; simp
                  · rw [(hkind "write" (.inl rfl)).mpr rfl]; simp
                · intro z
                  simp only [List.mem_cons, List.not_mem_nil, or_false] at z
                  rcases z with z | z
                  · rw [(hkind "write" (.inl rfl)).mp z]; decide +kernel
                  · rw [(hkind "change" (.inr rfl)).mp z]; decide +kernel
              rw [show D.tup [D.str (PyData.shown (.str "write")), D.str (PyData.shown (.str "change"))] = .tup ([PyData.shown (.str "write"), PyData.shown (.str "change")].map D.str) from rfl, f_notinTS (by simp [(repr_word (μ := μ) (.inl rfl)).2, (repr_word (μ := μ) (.inr rfl)).2]) okk, q_okR, ← ekk]
              walk_at "q"
              cases h2 : isOne kinds2 k with
              | false =>
                try simp only [Bool.not_false, if_true]
                exact no (by rw [h2]; rfl)
              | true =>
                rw [h2, Bool.true_and] at q no
                try simp only [Bool.not_true, Bool.false_eq_true, if_false]
                rw [num_eq]
                refine num_va (lo := some 1) (hi := some 6) hw ?_
                walk_at "q"
                cases h3 : numB (some 1) (some 6) w with
                | false =>
                  try simp only [Bool.not_false, if_true]
                  exact no (by rw [h3]; rfl)
                | true =>
                  rw [h3, Bool.true_and] at q no
                  obtain ⟨i, rfl⟩ := numB_int h3
                  have hi : 1 ≤ i ∧ i ≤ 6 := by
                    have h3 : (decide (1 ≤ i) && decide (i ≤ 6)) = true := h3
                    simpa using h3
                  try simp only [Bool.not_true, Bool.false_eq_true, if_false]
                  rw [q_snil, q_cont]
                  unfold S__law_is_plan_3
                  rw [q_seq]
                  refine q_sif ?_
                  walk_at "q"
                  rw [at3]
                  walk_at "q"
                  rw [hvt.isT, q_okR]
                  cases htt : isTupB t with
                  | false =>
                    walk_at "q"
                    try simp only [Bool.not_false, if_true]
                    refine no ?_
                    show tabB i t = false
                    cases t <;> first | rfl | cases htt
                  | true =>
                    obtain ⟨cs, rfl⟩ := isTupB_of htt
                    have hcs : ∀ x ∈ cs, Va μ x := by cases hvt with | tup h => exact h
                    have lcs := len_szs cs
                    have scs : sz (.tup cs) = szs cs + 3 := rfl
                    have dcs : dp (.tup cs) = dps cs + 1 := rfl
                    have et : tabW (.int i) (.tup cs) = (cs.all (cellB i) && ascB cs) := rfl
                    rw [et] at q no
                    have hal := allC_len (w := i) ⟨by omega, by omega⟩
                    walk_at "q"
                    try simp only [Bool.not_true, Bool.false_eq_true, if_false]
                    rw [q_snil, q_cont]
                    unfold S__law_is_plan_4
                    rw [q_seq]
                    refine q_asg ?_
                    refine q_lcmC cellD (fun _ => true) (fun c => .str (PyData.shown (celP c))) (allC i) hc (by omega) ?_ ?_ ?_
                    · walk_at "q"
                      refine allCells_ok hc ⟨by omega, by omega⟩ ?_
                      exact ⟨by trivial, by trivial, fun _ => rfl⟩
                    · intro c ob hcm hob
                      refine ⟨_, rfl, ⟨rfl, rfl⟩, fun _ => ?_⟩
                      walk_at "q"
                      rw [(repr_cell (cells_sub hi.2 hcm)).1, q_okR]
                      exact ⟨by trivial, by trivial, rfl⟩
                    have eK : ((allC i).filter fun _ => true).map (fun c => D.str (PyData.shown (celP c))) = ((allC i).map fun c => PyData.shown (celP c)).map D.str := by
                      rw [List.filter_eq_self.mpr (fun _ _ => rfl), List.map_map]
                      rfl
                    rw [eK]
                    have okK : ((allC i).map fun c => PyData.shown (celP c)).all PyData.strOk = true := List.all_eq_true.mpr fun x hx => by
                      obtain ⟨c, hcm, rfl⟩ := List.mem_map.mp hx
                      exact (repr_cell (μ := μ) (cells_sub hi.2 hcm)).2
                    rw [q_cont]
                    unfold S__law_is_plan_5
                    rw [q_seq]
                    refine q_sif ?_
                    walk_at "q"
                    refine q_lcmC (fun d : D => d) (fun _ => true) (fun d => .bl (cellB i d)) cs hc (by omega) ?_ ?_ ?_
                    · walk_at "q"
                      rw [at3]
                      walk_at "q"
                      exact ⟨by trivial, by simp, fun _ => rfl⟩
                    · intro x ob hx' hob
                      refine ⟨_, rfl, ⟨rfl, rfl⟩, fun _ => ?_⟩
                      have hv := (hcs x hx').keep (KeptD.app (t := [ob]))
                      have dx := dps_mem hx'
                      have sx := szs_mem hx'
                      obtain ⟨sk, ek, okk, _, hcell⟩ := repr_of hv (by omega) (by omega)
                      walk_at "q"
                      rw [ek, q_okR]
                      walk_at "q"
                      rw [f_inLS okK okk, q_okR]
                      have e : decide (sk ∈ (allC i).map fun c => PyData.shown (celP c)) = cellB i x := by
                        rw [Bool.eq_iff_iff, decide_eq_true_iff, List.mem_map]
                        constructor
                        · rintro ⟨c, hcm, e⟩
                          rw [(hcell c (cells_sub hi.2 hcm)).mp e.symm]
                          exact cell_B hcm
                        · intro z
                          obtain ⟨c, rfl, hcm⟩ := cell_of_B (by omega) z
                          exact ⟨c, hcm, ((hcell c (cells_sub hi.2 hcm)).mpr rfl).symm⟩
                      exact ⟨by trivial, by rw [e], rfl⟩
                    · rw [f_allM2, q_okR]
                      walk_at "q"
                      cases hall2 : cs.all (cellB i) with
                      | false =>
                        try simp only [Bool.not_false, if_true]
                        exact no (by rw [hall2]; rfl)
                      | true =>
                        rw [hall2, Bool.true_and] at q
                        try simp only [Bool.not_true, Bool.false_eq_true, if_false]
                        obtain ⟨L, rfl, hL⟩ := all_cells (by omega) hall2
                        have h151 := sz_cells L
                        rw [q_snil, q_cont]
                        unfold S__law_is_plan_6
                        refine q_sret ?_
                        walk_at "q"
                        rw [at3]
                        walk_at "q"
                        rw [set_cellsT hi (by omega) hL, q_okR]
                        have hA2 : shp 60 (.lst (L.map cellD)) = true := shps_all.mpr fun x hx => by
                          obtain ⟨c, hcm, rfl⟩ := List.mem_map.mp hx
                          exact cel_shp (hL c hcm) (by decide)
                        have hB2 : shp 60 (.lst ((tabS i L).map cellD)) = true := shps_all.mpr fun x hx => by
                          obtain ⟨c, hcm, rfl⟩ := List.mem_map.mp hx
                          exact cel_shp (List.mem_filter.mp hcm).1 (by decide)
                        have hap2 : ∀ M N : List Cell, apts (M.map cellD) (N.map cellD) = true := by
                          intro M
                          induction M with
                          | nil => intro N; cases N <;> rfl
                          | cons x r ih =>
                            intro N
                            cases N with
                            | nil => rfl
                            | cons y u =>
                              show (true && (true && (true && true)) && apts (r.map cellD) (u.map cellD)) = true
                              rw [ih u]; rfl
                        rw [f_eqD hA2 hB2 (hap2 L (tabS i L)), q_okR, tab_asc hi.1 hi.2 hL]
                        exact q
    · rw [show (((xs.length : Nat) : Int) == 4) = false from by simp; omega]
      try simp only [Bool.not_false, if_true]
      exact no (plB_no4 hl)
end

end Lw


namespace Lw
open PySem PySem.Spec L2 DM
local macro_rules | `(tactic| walk_at "q") => `(tactic| try simp only [q_ok, q_okR, q_if, q_C, q_ret, q_var, q_at, q_e1, q_e2, q_call, q_callB, q_nil, q_cons, q_tup, q_lst, q_cel, q_ifexp, q_blAt, q_bOf, q_bTru, q_bAnd, q_bOr, q_bNot, q_vAnd, q_vOr, q_vNot, q_chain, q_pureS, at0, at1, at2, q_iseq, q_seqL, q_seqF, q_rg1, q_rg2, q_itup, q_tupAt, q_iany, q_anyL, q_anyF, q_anyT, q_anyS, q_meth, q_p2, q_p3, q_unpT, q_setA, q_setA0, q_rhoAt, q_contR, q_contB, q_contC, q_callK, q_oN, q_oS, q_intAt, q_cut, f_tupL, f_tupT, f_listL, f_listT, f_listCL, f_listCT, f_cutT, f_cutL, q_aftN, q_aftC, q_aftB, q_aftR, q_pr, q_mtE, q_mtV, q_lone, q_gV, q_fnV, q_mkV, q_mkS, q_fld, q_isi, isi_ii, isi_ib, isi_tt, isi_ss, q_starS, q_star, f_itT, f_itL, q_join, q_enum, q_only, q_noExN, lookF_hit, f_addN, q_tName, q_tNil, q_tCons, q_tStar,
  f_add, f_sub, f_mul, f_div, f_mod, f_pow, f_neg, f_cmp, f_abs, f_intI, f_intB, f_max, f_min, f_lenL, f_lenF, f_lenT, f_ixL, f_ixF, f_ixT, f_eqI, f_neI, f_eqB, f_neB, f_eqT, f_neT, f_isB, f_isnotB, f_truB, f_truI, f_repr0, startR, wipeR, List.map_cons, List.map_nil, List.length_cons, List.length_nil, List.cons_append, List.nil_append, List.append_nil, List.getElem?_cons_zero, List.getElem?_cons_succ, List.set_cons_zero, List.set_cons_succ, List.replicate_succ, List.replicate_zero, Nat.reduceAdd, Nat.reduceSub, Int.reduceToNat, Int.reducePow])
local macro_rules | `(tactic| walk_at "go") => `(tactic| repeat (first | rw [q_cont] | rw [q_tCons] | rw [q_tName] | rw [q_tNil] | rw [q_tStar] | rw [q_only] | rw [q_noExN] | rw [q_seq] | rw [q_snil] | ((with_reducible refine q_asg ?_); walk_at "q") | ((with_reducible refine q_sret ?_); walk_at "q") | ((with_reducible refine q_spar2 ?_); walk_at "q") | ((with_reducible refine q_spar3 ?_); walk_at "q") | ((with_reducible refine q_sunp ?_); walk_at "q") | ((with_reducible refine q_drop ?_); walk_at "q") | ((with_reducible refine q_asgT ?_); walk_at "q") | ((with_reducible refine q_noEx ?_); walk_at "q") | ((with_reducible refine q_asg2 ?_); walk_at "q") | ((with_reducible refine q_tDSubG ?_); walk_at "q") | ((with_reducible refine q_sif ?_); walk_at "q") | ((with_reducible refine q_for ?_); walk_at "q")))
local macro_rules | `(tactic| walk_at "g1") => `(tactic| repeat (first | rw [q_cont] | rw [q_tCons] | rw [q_tName] | rw [q_tNil] | rw [q_tStar] | rw [q_only] | rw [q_noExN] | rw [q_seq] | rw [q_snil] | ((with_reducible refine q_asg ?_); walk_at "q") | ((with_reducible refine q_sret ?_); walk_at "q") | ((with_reducible refine q_spar2 ?_); walk_at "q") | ((with_reducible refine q_spar3 ?_); walk_at "q") | ((with_reducible refine q_sunp ?_); walk_at "q") | ((with_reducible refine q_drop ?_); walk_at "q") | ((with_reducible refine q_asgT ?_); walk_at "q") | ((with_reducible refine q_noEx ?_); walk_at "q") | ((with_reducible refine q_asg2 ?_); walk_at "q") | ((with_reducible refine q_tDSubG ?_); walk_at "q") | ((with_reducible refine q_for ?_); walk_at "q")))

open SX
theorem rB {μ : Store} (b : Bool) : ∃ s, FreprX [.bl b] μ = okR (.str s) μ := Va.repr (.bl b) (by simp [dp]) (by simp [sz])
section
variable {μ : Store} {d : D} {Q : D → Store → Prop}
theorem asked_ok (h : Va μ d) (hc : Clo μ) (hs : sz d ≤ 40000) (hd : dp d ≤ 50) (q : Q (.bl true) μ) : Ok (F__law_asked [d] μ) Q := by
  obtain ⟨z, ez⟩ := h.repr (by omega) (by omega)
  obtain ⟨zb, eb⟩ := rB (μ := μ) (plB d)
  refine q_fn rfl ?_
  unfold S__law_asked
  rw [q_seq]
  refine q_spar2 ?_
  walk_at "q"
  rw [ez]
  walk_at "q"
  refine lplan_va h hc hs hd ?_
  rw [eb, q_okR]
  rw [q_cont]
  unfold S__law_asked_1
  refine q_sret ?_
  walk_at "q"
  refine isp_va h hc (by omega) ?_
  rw [eb, q_okR]
  walk_at "q"
  try simp only [beq_self_eq_true, if_true]
  rw [ez, q_okR]
  walk_at "q"
  try simp only [beq_self_eq_true]
  exact q
end
section
variable {μ0 μ μ1 : Store} {p k : Nat} {c c' : Int} {Q : D → Store → Prop} {Qf : Fl → Store → Prop}
theorem strs_noRef (xs : List Str) : noRefs 0 (xs.map D.str) = true := noRefs_all.mpr fun d hd => by
  obtain ⟨x, _, rfl⟩ := List.mem_map.mp hd
  rfl
theorem someP {n : Int} {xs : List D} (s : Sx μ0 p c μ) (hc : c < 800000) (n0 : 0 < n) (n1 : n < 10) (hl : xs.length ≤ 200) (hx : noRefs 0 xs = true)
    (q : ∀ ys μ', ys.Sublist xs → Sx μ0 p (c + 200) μ' → KeptD μ μ' → Q (.tup ys) μ') : Ok (F__law_some [.ref p, .lst xs, .int n] μ) Q := by
  refine q_fn rfl ?_
  unfold S__law_some
  refine q_sret ?_
  walk_at "q"
  refine q_someC (μ0 := μ) (p := p) (c := c) (xs := xs) s.w (by omega) hx (by simp) ?_ ?_ ?_
  · walk_at "q"
    exact ⟨by trivial, by trivial⟩
  · intro z x ν ez hcl hP
    have hz : z < 200 := by
      have := (List.getElem?_eq_some_iff.mp ez).1
      omega
    walk_at "q"
    refine (take_okP.z (μ0 := ν) ⟨⟨hP, hcl⟩, Fr.refl _ _⟩ (by simp only [Int.ofNat_eq_natCast]; omega) n0 (by omega)).mono ?_
    rintro d ν' ⟨r, rfl, r0, r1, x2⟩
    walk_at "q"
    refine x2.mono ?_
    simp only [Int.ofNat_eq_natCast]
    omega
  · intro ys μ1 sub x1
    rw [f_tupL]
    walk_at "q"
    exact q ys μ1 sub ((s.step x1).mono (by simp only [Int.ofNat_eq_natCast]; omega)) (kd_wz s.pool x1)

theorem Sx.setk {k : Nat} {xs : List D} (h : Sx μ0 p c μ) (hk : μ0.length ≤ k) (hp : p < μ0.length) (hkl : k < μ.length) (hx : noRefs μ.length xs = true) : Sx μ0 p c (μ.set k (.lst xs)) := by
  refine ⟨h.pool.of (List.getElem?_set_ne (by omega)), clo_of fun j o e => ?_, by rw [List.length_set]; exact h.len, fun j hj hjp => by rw [List.getElem?_set_ne (by omega)]; exact h.eq j hj hjp⟩
  rw [List.length_set]
  by_cases q : k = j
  · subst q
    rw [List.getElem?_set_self hkl] at e
    cases e
    exact hx
  · rw [List.getElem?_set_ne q] at e
    exact h.clo.at e
theorem KeptD.set {k : Nat} {xs ys : List D} (h : μ[k]? = some (.lst ys)) : KeptD μ (μ.set k (.lst xs)) := fun i e => by
  by_cases q : k = i
  · subst q
    rw [h] at e
    cases e
  · rw [List.getElem?_set_ne q]; exact e
/-- values that the law asks about -/
def AllG (μ : Store) (xs : List D) : Prop := ∀ d ∈ xs, Va μ d ∧ sz d ≤ 40000 ∧ dp d ≤ 50
theorem AllG.keep {ν : Store} {xs : List D} (h : AllG μ xs) (k : KeptD μ ν) : AllG ν xs := fun d hd => ⟨(h d hd).1.keep k, (h d hd).2⟩
theorem AllG.app {xs ys : List D} (h : AllG μ xs) (g : AllG μ ys) : AllG μ (xs ++ ys) := fun d hd => (List.mem_append.mp hd).elim (h d) (g d)
theorem AllG.noR {xs : List D} (h : AllG μ xs) : noRefs μ.length xs = true := noRefs_all.mpr fun d hd => (h d hd).1.ref
theorem AllG.one {d : D} (h : Va μ d) (h1 : sz d ≤ 40000) (h2 : dp d ≤ 50) : AllG μ [d] := fun x hx => by rw [List.mem_singleton.mp hx]; exact ⟨h, h1, h2⟩
theorem bent_ok : BentOk F__law_bent 4 := bent_next (bent_next (bent_next (bent_next bent0)))
def wpart (s : Str) : Bool := txtB s && (txtB (s ++ "x") && (txtB (Txt.slice s none (some (-1))) && (txtB (Txt.upper s) && decide (s.length ≤ 1000))))
theorem wpart_ok {s : Str} (h : wpart s = true) : Part (.str s) := by
  unfold wpart at h
  simp only [Bool.and_eq_true, decide_eq_true_eq] at h
  exact .str (txt_dec h.1) (txt_dec h.2.1) (txt_dec h.2.2.1) (txt_dec h.2.2.2.1) h.2.2.2.2
def intB (i : Int) : Bool := (PyData.int i).showable && (decide ((PyData.shown (.int i)).length ≤ 60) && decide (i ∈ allI))
theorem int_dec {i : Int} (h : intB i = true) : IntS i := by
  unfold intB at h
  simp only [Bool.and_eq_true, decide_eq_true_eq] at h
  exact h
def ipart (i : Int) : Bool := intB i && (intB (i + 1) && (intB (i - 1) && (intB (-i) && (txtB (toString i) && decide (i.natAbs.log2 < 1920)))))
theorem ipart_ok {i : Int} (h : ipart i = true) : Part (.int i) := by
  unfold ipart at h
  simp only [Bool.and_eq_true, decide_eq_true_eq] at h
  exact .int (int_dec h.1) (int_dec h.2.1) (int_dec h.2.2.1) (int_dec h.2.2.2.1) (txt_dec h.2.2.2.2.1) h.2.2.2.2.2

theorem words_part : ∀ s ∈ wordsP, wpart s = true := by decide +kernel
theorem gaps_part : ∀ i ∈ gaps13, ipart i = true := by decide +kernel
theorem hold_z {μ : Store} {p : Nat} {c : Int} (hp : Pool p c μ) (hc : Clo μ) : Hold [baseA μ p, poolA p c] μ := by
  refine ⟨?_, ?_, hc⟩
  · show ((List.range μ.length).filter (fun j => decide (j ≠ p)) ++ ([p] ++ [])).Nodup
    rw [List.append_nil, List.nodup_append]
    refine ⟨List.nodup_range.filter _, by simp, ?_⟩
    rintro a ha b hb rfl
    simp only [List.mem_filter, List.mem_range, decide_eq_true_eq, List.mem_singleton] at ha hb
    exact ha.2 hb
  · intro o ho
    simp only [List.mem_cons, List.not_mem_nil, or_false] at ho
    rcases ho with rfl | rfl
    · exact fun k _ _ => rfl
    · exact hp
theorem mixed_z {μ0 μ : Store} {p : Nat} {c : Int} {xs : List Str} {Q : D → Store → Prop} (hz : Wz μ0 p c μ) (hc : c < 900000) (hl : xs.length ≤ 10) (hs : xs.all PyData.strOk = true)
    (q : ∀ (ys : List Str) μ', ys.Perm xs → Wz μ0 p (c + xs.length) μ' → Q (.lst (ys.map D.str)) μ') : Ok (F__law_mixed [.ref p, .lst (xs.map D.str)] μ) Q := by
  have h := hold_z hz.wd.pool hz.wd.clo
  have hpl := h.pl.lt
  refine q_fsealG (q_fn rfl ?_)
  unfold S__law_mixed
  rw [q_seq]
  refine q_spar2 ?_
  walk_at "q"
  refine ⟨size_ok (by simp), ?_⟩
  rw [q_cont, q_seq]
  have h0 : Hold [baseA μ p, poolA p c, oneA μ.length (.lst (xs.map D.str)), oneA (μ.length + 1) (.lst (([] : List Str).map D.str))] (μ ++ [.lst (xs.map D.str)] ++ [.lst []]) := by
    have h1 := h.enter.push (o := .lst (xs.map D.str)) (noRefs_mono (strs_noRef _))
    have h2 := h1.push (o := .lst (([] : List Str).map D.str)) (noRefs_mono (strs_noRef _))
    rw [show (μ ++ [Ob.lst (xs.map D.str)]).length = μ.length + 1 by simp] at h2
    exact h2
  rw [show (μ ++ [Ob.lst (xs.map D.str)]).length = μ.length + 1 by simp]
  refine while_ok (m := xs.length) (n := 1000000) (fun m ρ μ' => ∃ left found : List Str, m = left.length ∧ (left ++ found).Perm xs ∧ Hold [baseA μ p, poolA p (c + Int.ofNat found.length), oneA μ.length (.lst (left.map D.str)), oneA (μ.length + 1) (.lst (found.map D.str))] μ' ∧ ρ = [some (.ref p), some (.lst (xs.map D.str)), some (.ref μ.length), some (.ref (μ.length + 1))]) ?_ ⟨xs, [], rfl, by simp, by simpa using h0, rfl⟩ (by omega)
  rintro m ρ μ' ⟨left, found, rfl, perm, hh, rfl⟩
  have hlen : left.length + found.length = xs.length := by
    have := perm.length_eq
    simpa using this
  have hll : left.all PyData.strOk = true := List.all_eq_true.mpr fun z hz => List.all_eq_true.mp hs z (perm.subset (List.mem_append_left _ hz))
  have e1 := hh.cell (n := 2) rfl
  have e2 := hh.cell (n := 3) rfl
  walk_at "q"
  refine ⟨size_ok (by simp), ?_⟩
  rw [f_neNil e1 hll, q_okR, q_blAt]
  cases left with
  | nil =>
    rw [if_neg (by decide), q_cont]
    refine q_sret ?_
    walk_at "q"
    obtain ⟨lv1, lv2⟩ := hh.leave h.clo hpl
    refine ⟨lv2, _, unref_cell e2 (by omega) (strs_noRef _), q found _ (by simpa using perm) ((hz.from lv1).mono ?_)⟩
    simp only [List.length_nil] at hlen
    simp only [Int.ofNat_eq_natCast]
    omega
  | cons z left =>
    rw [if_pos (by rfl)]
    unfold B__law_mixed_1
    refine q_drop ?_
    walk_at "q"
    refine ⟨isList_ref e2, isList_ref e1, ?_⟩
    rw [f_lenR e1]
    walk_at "q"
    refine (take_okP.h hh (by simp only [Int.ofNat_eq_natCast]; simp at hlen; omega) (by simp) (by simp at hlen ⊢; omega)).mono ?_
    rintro d μ2 ⟨r, rfl, r0, r1, hh2⟩
    have g1 := hh2.cell (n := 2) rfl
    have g2 := hh2.cell (n := 3) rfl
    walk_at "q"
    obtain ⟨k, rfl⟩ : ∃ k : Nat, r = Int.ofNat k := ⟨r.toNat, by simp only [Int.ofNat_eq_natCast]; omega⟩
    have hk : k < (z :: left).length := by simp at r1 ⊢; omega
    have hget : ((z :: left).map D.str)[k]? = some (.str (z :: left)[k]) := by rw [List.getElem?_map, List.getElem?_eq_getElem hk]; rfl
    rw [f_popAt g1 hget (by simp at hlen ⊢; omega), q_okR]
    have em : ((z :: left).map D.str).eraseIdx k = ((z :: left).eraseIdx k).map D.str := map_erase _ _
    rw [em]
    have hh3 := hh2.set (n := 2) rfl (o' := .lst (((z :: left).eraseIdx k).map D.str)) (noRefs_mono (strs_noRef _))
    have g3 := hh3.cell (n := 3) rfl
    rw [f_app g3 (by rw [List.length_map]; simp at hlen; exact small1000 (by omega)), q_okR]
    have ef : found.map D.str ++ [D.str (z :: left)[k]] = (found ++ [(z :: left)[k]]).map D.str := by simp
    rw [ef]
    have hh4 := hh3.set (n := 3) rfl (o' := .lst ((found ++ [(z :: left)[k]]).map D.str)) (noRefs_mono (strs_noRef _))
    refine ⟨_, ?_, (z :: left).eraseIdx k, found ++ [(z :: left)[k]], rfl, ?_, ?_, by trivial⟩
    · rw [List.length_eraseIdx_of_lt hk]
      simp
    · refine List.Perm.trans ?_ perm
      have h1 := erase_perm (z :: left) k hk
      have h2 : ((z :: left).eraseIdx k ++ (found ++ [(z :: left)[k]])).Perm ((z :: left)[k] :: (z :: left).eraseIdx k ++ found) := by
        refine (List.Perm.append_left _ (List.perm_append_comm)).trans ?_
        exact List.perm_middle
      exact h2.trans (List.Perm.append_right _ h1)
    · simp only [List.set_cons_succ, List.set_cons_zero] at hh4
      refine Hold.up hh4 ?_
      simp only [List.length_append, List.length_cons, List.length_nil, Int.ofNat_eq_natCast]
      omega


theorem order_z {μ0 μ : Store} {p : Nat} {c : Int} {Q : D → Store → Prop} (h : Wz μ0 p c μ) (hc : c < 800000) (q : ∀ (o : List Str) μ', o.Perm ["note", "read", "stat"] → Wz μ0 p (c + 3) μ' → Q (.tup (o.map D.str)) μ') : Ok (F__law_order_here [.ref p] μ) Q := by
  refine q_fn rfl ?_
  unfold S__law_order_here
  refine q_sret ?_
  walk_at "q"
  refine ⟨size_ok (by decide), ?_⟩
  refine mixed_z (xs := ["note", "read", "stat"]) h (by omega) (by decide) (by decide +kernel) fun ys μ' perm x => ?_
  rw [f_tupL]
  walk_at "q"
  exact q ys μ' perm x
theorem noRef_cellsD (xs : List Cell) : noRefs 0 (xs.map cellD) = true := noRefs_all.mpr fun d hd => by
  obtain ⟨x, _, rfl⟩ := List.mem_map.mp hd
  rfl
theorem planP (s : Sx μ0 p c μ) (hc : c < 600000)
    (q : ∀ (o : List Str) (kind : Str) (w : Int) (L : List Cell) μ', o.Perm ["note", "read", "stat"] → (kind = "write" ∨ kind = "change") → 1 ≤ w → w ≤ 6 → L.Sublist (allC w) → Sx μ0 p (c + 220) μ' → KeptD μ μ' → Q (.tup [.tup (o.map D.str), .str kind, .int w, .tup (L.map cellD)]) μ') : Ok (F__law_plan [.ref p] μ) Q := by
  refine q_fn rfl ?_
  unfold S__law_plan
  rw [pick_eq]
  rw [q_seq]
  refine q_asg ?_
  walk_at "q"
  refine (take_okP.z (n := 6) s.w (by omega) (by decide) (by decide)).mono ?_
  rintro d μ1 ⟨r, rfl, r0, r1, z1⟩
  have s1 := s.step z1
  have k1 := kd_wz s.pool z1
  walk_at "q"
  obtain ⟨w, hw⟩ : ∃ w : Int, w = 1 + r := ⟨_, rfl⟩
  rw [← hw]
  have w0 : 1 ≤ w := by omega
  have w1 : w ≤ 6 := by omega
  rw [q_cont, q_seq]
  refine q_asg ?_
  walk_at "q"
  refine allCells_ok s1.clo (by omega) ?_
  refine ⟨size_ok (by decide), ?_⟩
  refine (take_okP.pick s1.w (by omega) (by simp) (by simp)).mono ?_
  rintro d μ2 ⟨hd, z2⟩
  have s2 := s1.step z2
  have k2 := k1.trans (kd_wz s1.pool z2)
  obtain ⟨n, rfl, n0, n1⟩ : ∃ n : Int, d = .int n ∧ 0 < n ∧ n < 10 := by
    simp only [List.mem_cons, List.not_mem_nil, or_false] at hd
    rcases hd with rfl | rfl | rfl | rfl <;> exact ⟨_, rfl, by omega, by omega⟩
  have hal := allC_len (w := w) ⟨by omega, by omega⟩
  refine someP s2 (by omega) n0 n1 (by rw [List.length_map]; omega) (noRef_cellsD _) fun ys μ3 sub s3 k3 => ?_
  obtain ⟨L, hL, rfl⟩ := List.sublist_map_iff.mp sub
  have k3' := k2.trans k3
  rw [q_cont, q_seq]
  refine q_asg ?_
  walk_at "q"
  refine ⟨size_ok (by decide), ?_⟩
  refine (take_okP.pick s3.w (by omega) (by simp) (by simp)).mono ?_
  rintro d μ4 ⟨hd, z4⟩
  have s4 := s3.step z4
  have k4 := k3'.trans (kd_wz s3.pool z4)
  obtain ⟨kind, rfl, hk⟩ : ∃ kind : Str, d = .str kind ∧ (kind = "write" ∨ kind = "change") := by
    simp only [List.mem_cons, List.not_mem_nil, or_false] at hd
    rcases hd with rfl | rfl
    · exact ⟨_, rfl, .inl rfl⟩
    · exact ⟨_, rfl, .inr rfl⟩
  rw [q_cont]
  refine q_sret ?_
  walk_at "q"
  refine order_z s4.w (by omega) fun o μ5 perm z5 => ?_
  have s5 := s4.step z5
  have k5 := k4.trans (kd_wz s4.pool z5)
  walk_at "q"
  refine ⟨size_ok (by decide), size_ok (by decide), ?_⟩
  refine (take_okP.pick s5.w (by omega) (by simp) (by simp)).mono ?_
  rintro d μ6 ⟨hd, z6⟩
  obtain ⟨M, rfl, hM⟩ : ∃ M : List Cell, d = .tup (M.map cellD) ∧ M.Sublist (allC w) := by
    simp only [List.mem_cons, List.not_mem_nil, or_false] at hd
    rcases hd with rfl | rfl | rfl | rfl
    · exact ⟨L, rfl, hL⟩
    · exact ⟨L, rfl, hL⟩
    · exact ⟨L, rfl, hL⟩
    · exact ⟨[], rfl, by simp⟩
  exact ⟨size_ok (by decide), q o kind w M μ6 perm hk w0 w1 hM ((s5.step z6).mono (by omega)) (k5.trans (kd_wz s5.pool z6))⟩
end

end Lw


namespace Lw
open PySem PySem.Spec L2 DM
local macro_rules | `(tactic| walk_at "q") => `(tactic| try simp only [q_ok, q_okR, q_if, q_C, q_ret, q_var, q_at, q_e1, q_e2, q_call, q_callB, q_nil, q_cons, q_tup, q_lst, q_cel, q_ifexp, q_blAt, q_bOf, q_bTru, q_bAnd, q_bOr, q_bNot, q_vAnd, q_vOr, q_vNot, q_chain, q_pureS, at0, at1, at2, q_iseq, q_seqL, q_seqF, q_rg1, q_rg2, q_itup, q_tupAt, q_iany, q_anyL, q_anyF, q_anyT, q_anyS, q_meth, q_p2, q_p3, q_unpT, q_setA, q_setA0, q_rhoAt, q_contR, q_contB, q_contC, q_callK, q_oN, q_oS, q_intAt, q_cut, f_tupL, f_tupT, f_listL, f_listT, f_listCL, f_listCT, f_cutT, f_cutL, q_aftN, q_aftC, q_aftB, q_aftR, q_pr, q_mtE, q_mtV, q_lone, q_gV, q_fnV, q_mkV, q_mkS, q_fld, q_isi, isi_ii, isi_ib, isi_tt, isi_ss, q_starS, q_star, f_itT, f_itL, q_join, q_enum, q_only, q_noExN, lookF_hit, f_addN, q_tName, q_tNil, q_tCons, q_tStar,
  f_add, f_sub, f_mul, f_div, f_mod, f_pow, f_neg, f_cmp, f_abs, f_intI, f_intB, f_max, f_min, f_lenL, f_lenF, f_lenT, f_ixL, f_ixF, f_ixT, f_eqI, f_neI, f_eqB, f_neB, f_eqT, f_neT, f_isB, f_isnotB, f_truB, f_truI, f_repr0, startR, wipeR, List.map_cons, List.map_nil, List.length_cons, List.length_nil, List.cons_append, List.nil_append, List.append_nil, List.getElem?_cons_zero, List.getElem?_cons_succ, List.set_cons_zero, List.set_cons_succ, List.replicate_succ, List.replicate_zero, Nat.reduceAdd, Nat.reduceSub, Int.reduceToNat, Int.reducePow])
local macro_rules | `(tactic| walk_at "go") => `(tactic| repeat (first | rw [q_cont] | rw [q_tCons] | rw [q_tName] | rw [q_tNil] | rw [q_tStar] | rw [q_only] | rw [q_noExN] | rw [q_seq] | rw [q_snil] | ((with_reducible refine q_asg ?_); walk_at "q") | ((with_reducible refine q_sret ?_); walk_at "q") | ((with_reducible refine q_spar2 ?_); walk_at "q") | ((with_reducible refine q_spar3 ?_); walk_at "q") | ((with_reducible refine q_sunp ?_); walk_at "q") | ((with_reducible refine q_drop ?_); walk_at "q") | ((with_reducible refine q_asgT ?_); walk_at "q") | ((with_reducible refine q_noEx ?_); walk_at "q") | ((with_reducible refine q_asg2 ?_); walk_at "q") | ((with_reducible refine q_tDSubG ?_); walk_at "q") | ((with_reducible refine q_sif ?_); walk_at "q") | ((with_reducible refine q_for ?_); walk_at "q")))
local macro_rules | `(tactic| walk_at "g1") => `(tactic| repeat (first | rw [q_cont] | rw [q_tCons] | rw [q_tName] | rw [q_tNil] | rw [q_tStar] | rw [q_only] | rw [q_noExN] | rw [q_seq] | rw [q_snil] | ((with_reducible refine q_asg ?_); walk_at "q") | ((with_reducible refine q_sret ?_); walk_at "q") | ((with_reducible refine q_spar2 ?_); walk_at "q") | ((with_reducible refine q_spar3 ?_); walk_at "q") | ((with_reducible refine q_sunp ?_); walk_at "q") | ((with_reducible refine q_drop ?_); walk_at "q") | ((with_reducible refine q_asgT ?_); walk_at "q") | ((with_reducible refine q_noEx ?_); walk_at "q") | ((with_reducible refine q_asg2 ?_); walk_at "q") | ((with_reducible refine q_tDSubG ?_); walk_at "q") | ((with_reducible refine q_for ?_); walk_at "q")))

open SX
section
variable {μ0 μ μ1 : Store} {p k : Nat} {c c' : Int} {Q : D → Store → Prop} {Qf : Fl → Store → Prop}
theorem cell_part {w : Int} {z : Cell} (w1 : w ≤ 6) (h : z ∈ allC w) : Part (cellD z) := by
  obtain ⟨r1, r2⟩ := allC_rs h
  have hg := (allC_mem.mp h).2.1
  have g : z.2.1 ∈ gaps13 := by
    have : z.2.1 = -6 ∨ z.2.1 = -5 ∨ z.2.1 = -4 ∨ z.2.1 = -3 ∨ z.2.1 = -2 ∨ z.2.1 = -1 ∨ z.2.1 = 0 ∨ z.2.1 = 1 ∨ z.2.1 = 2 ∨ z.2.1 = 3 ∨ z.2.1 = 4 ∨ z.2.1 = 5 ∨ z.2.1 = 6 := by omega
    unfold gaps13
    rcases this with e | e | e | e | e | e | e | e | e | e | e | e | e <;> simp [e]
  have m1 : z.1 ∈ wordsP := by
    simp only [rels3, List.mem_cons, List.not_mem_nil, or_false] at r1
    unfold wordsP
    rcases r1 with e | e | e <;> simp [e]
  have m2 : z.2.2 ∈ wordsP := by
    simp only [sizes2, List.mem_cons, List.not_mem_nil, or_false] at r2
    unfold wordsP
    rcases r2 with e | e <;> simp [e]
  refine .tup (fun x hx => ?_) (by simp)
  simp only [List.mem_cons, List.not_mem_nil, or_false] at hx
  rcases hx with rfl | rfl | rfl
  · exact wpart_ok (words_part _ m1)
  · exact ipart_ok (gaps_part _ g)
  · exact wpart_ok (words_part _ m2)
theorem sz_strs : ∀ ts : List Str, szs (ts.map D.str) = 42 * ts.length
  | [] => rfl
  | t :: r => by
    have ih := sz_strs r
    show sz (.str t) + 2 + szs (r.map D.str) = _
    rw [ih]
    simp [sz]
    omega
theorem plan_part {o : List Str} {kind : Str} {w : Int} {L : List Cell} (ho : o.Perm ["note", "read", "stat"]) (hk : kind = "write" ∨ kind = "change") (w0 : 1 ≤ w) (w1 : w ≤ 6) (hL : L.Sublist (allC w)) :
    Part (.tup [.tup (o.map D.str), .str kind, .int w, .tup (L.map cellD)]) ∧ sz (.tup [.tup (o.map D.str), .str kind, .int w, .tup (L.map cellD)]) ≤ 12100 ∧ dp (.tup [.tup (o.map D.str), .str kind, .int w, .tup (L.map cellD)]) ≤ 4 := by
  have hol := ho.length_eq
  have hl : L.length ≤ 78 := by
    have := hL.length_le
    have := allC_cnt w0 w1
    omega
  have po : Part (.tup (o.map D.str)) := .tup (fun x hx => by
    obtain ⟨s, hm, rfl⟩ := List.mem_map.mp hx
    have := ho.subset hm
    simp only [List.mem_cons, List.not_mem_nil, or_false] at this
    refine wpart_ok (words_part s ?_)
    unfold wordsP
    rcases this with e | e | e <;> simp [e]) (by rw [List.length_map, hol]; decide)
  have pk : Part (.str kind) := wpart_ok (words_part kind (by
    unfold wordsP
    rcases hk with e | e <;> simp [e]))
  have pw : Part (.int w) := ipart_ok (gaps_part w (by
    have : w = 1 ∨ w = 2 ∨ w = 3 ∨ w = 4 ∨ w = 5 ∨ w = 6 := by omega
    unfold gaps13
    rcases this with e | e | e | e | e | e <;> simp [e]))
  have pt : Part (.tup (L.map cellD)) := .tup (fun x hx => by
    obtain ⟨z, hm, rfl⟩ := List.mem_map.mp hx
    exact cell_part w1 (hL.subset hm)) (by rw [List.length_map]; omega)
  have s1 := sz_strs o
  have s2 := sz_cells L
  have d1 : dps (o.map D.str) ≤ 0 := dps_le fun x hx => by
    obtain ⟨s, hm, rfl⟩ := List.mem_map.mp hx
    simp [dp]
  have d2 : dps (L.map cellD) ≤ 1 := dps_le fun x hx => by
    obtain ⟨z, hm, rfl⟩ := List.mem_map.mp hx
    simp [cellD, dp, dps]
  refine ⟨.tup (fun x hx => ?_) (by simp), ?_, ?_⟩
  · simp only [List.mem_cons, List.not_mem_nil, or_false] at hx
    rcases hx with rfl | rfl | rfl | rfl
    · exact po
    · exact pk
    · exact pw
    · exact pt
  · have : o.length = 3 := hol
    simp only [sz, szs]; omega
  · simp only [dp, dps]; omega
theorem right_turn {ds : List D} {od x3 x4 x5 x6 : Option D} (s : Sx μ0 p c μ) (hp : p < μ0.length) (hk : μ0.length ≤ k) (hc : c < 500000) (hd : μ[k]? = some (.lst ds)) (hl : ds.length ≤ 400) (hg : AllG μ ds)
    (q : ∀ ds' y4 μ', Sx μ0 p (c + 400) μ' → μ'[k]? = some (.lst ds') → ds'.length = ds.length + 11 → AllG μ' ds' → Qf (.nx [some (.ref p), od, some (.ref k), x3, y4, x5, x6]) μ') : OkS (B__law_right_1 [some (.ref p), od, some (.ref k), x3, x4, x5, x6] μ) Qf := by
  have kl := (List.getElem?_eq_some_iff.mp hd).1
  have kp : k ≠ p := by omega
  unfold B__law_right_1
  rw [q_seq]
  refine q_asg ?_
  walk_at "q"
  refine planP s.self (by omega) fun o kind w L μ1 ho hki w0 w1 hL s1 k1 => ?_
  obtain ⟨pw, sw, dw⟩ := plan_part ho hki w0 w1 hL
  generalize hw : D.tup [.tup (o.map D.str), .str kind, .int w, .tup (L.map cellD)] = wd at pw sw dw ⊢
  have hd1 : μ1[k]? = some (.lst ds) := by rw [s1.eq k kl kp]; exact hd
  have hg1 := hg.keep k1
  rw [q_cont]
  refine q_drop ?_
  rw [q_meth]
  walk_at "q"
  refine ⟨isList_ref hd1, ?_⟩
  refine ⟨size_ok (by decide), ?_⟩
  unfold eLC
  rw [Ok_bind]
  walk_at "q"
  refine ⟨10, rfl, by decide, by decide, ?_⟩
  have l1 := s1.len
  have s1a : Sx μ p (c + 220) (μ1 ++ [.lst []]) := s1.app rfl
  refine lc_ok (acc := []) (fun i acc ν => Sx μ p (c + 220 + 16 * (i : Int)) ν ∧ KeptD μ1 ν ∧ μ1.length < ν.length ∧ ν[μ1.length]? = some (.lst acc) ∧ acc.length = i ∧ AllG ν acc ∧ ν[k]? = some (.lst ds)) (fun _ _ _ _ => rfl) ?_ ?_ ⟨by rw [show c + 220 + 16 * ((0 : Nat) : Int) = c + 220 by omega]; exact s1a, KeptD.app, by simp, by simp, rfl, fun d hd => absurd hd (by simp), by rw [List.getElem?_append_left (by omega)]; exact hd1⟩
  · rintro i dd acc ν ed ⟨s', k', l', ec, ha, hga, ek⟩
    obtain ⟨hi, rfl⟩ := rng_get ed
    have hi : i < 10 := by simpa using hi
    refine ⟨_, rfl, ?_⟩
    walk_at "q"
    refine ⟨fun _ => ?_, fun z => by cases z⟩
    refine bent_ok (k := 3) pw (by omega) (by decide) (by decide) s'.pool s'.clo (by omega) fun v ν1 s2 k2 g => ?_
    have e1 : ν1[μ1.length]? = some (.lst acc) := by rw [s2.eq _ l' (by omega)]; exact ec
    have e2 : ν1[k]? = some (.lst ds) := by rw [s2.eq _ (by omega) kp]; exact ek
    have hl2 := s2.len
    have hv : AllG ν1 [v] := AllG.one g.1 (by have := g.2.1; omega) (by have := g.2.2; omega)
    have hall : AllG ν1 (acc ++ [v]) := (hga.keep k2).app hv
    have ks : KeptD ν1 (ν1.set μ1.length (.lst (acc ++ [v]))) := KeptD.set e1
    refine ⟨e1, Nat.lt_of_lt_of_le (show acc.length < 1000000 by omega) (size_ok (Nat.le_refl _)), ?_, (k'.trans k2).trans ks, by rw [List.length_set]; omega, List.getElem?_set_self (by omega), by simp [ha], hall.keep ks, by rw [List.getElem?_set_ne (by omega)]; exact e2⟩
    rw [show c + 220 + 16 * ((i + 1 : Nat) : Int) = c + 220 + 16 * (i : Int) + 4 * (4 : Nat) by omega]
    exact ((s'.trans s2)).setk (by omega) (by have := s.len; omega) (by omega) hall.noR
  · rintro acc ν ⟨s', k', l', ec, ha, hga, ek⟩
    rw [rng_len] at s' ha
    have ha : acc.length = 10 := ha
    rw [f_addR (a := [wd]) (b := acc) rfl (by unfold lstOf; simp only [ec]) (by simp; omega), q_okR]
    walk_at "q"
    have s2 : Sx μ p (c + 400) (ν ++ [.lst ([wd] ++ acc)]) := (s'.mono (by simp; omega)).app (by
      show noRefs (ν.length + 1) ([wd] ++ acc) = true
      exact noRefs_le (Nat.le_succ _) ((AllG.one pw.va (by omega) (by omega)).app hga).noR)
    have ek2 : (ν ++ [.lst ([wd] ++ acc)])[k]? = some (.lst ds) := by rw [List.getElem?_append_left (by omega)]; exact ek
    have ka : KeptD ν (ν ++ [.lst ([wd] ++ acc)]) := KeptD.app
    rw [show FextR (D.ref k) [D.ref (List.length ν)] (ν ++ [Ob.lst (wd :: acc)]) = okR .non ((ν ++ [Ob.lst ([wd] ++ acc)]).set k (.lst (ds ++ ([wd] ++ acc)))) from f_extR (d := .ref ν.length) (ys := [wd] ++ acc) ek2 (by unfold lstOf; simp) (by simp; omega), q_okR]
    have hall : AllG (ν ++ [.lst ([wd] ++ acc)]) (ds ++ ([wd] ++ acc)) := ((hg1.keep k').keep ka).app ((AllG.one pw.va (by omega) (by omega)).app (hga.keep ka))
    refine q _ _ _ ((s.trans s2).setk hk hp (by have := s2.len; omega) hall.noR) (List.getElem?_set_self (by simp; omega)) (by simp; omega) (hall.keep (KeptD.set ek2))
end
/-! plain values: without cells -/
mutual
def plV : D → Bool
  | .non => true
  | .bl _ => true
  | .int i => intB i
  | .str s => txtB s
  | .tup xs => plVs xs
  | .lst xs => plVs xs
  | _ => false
def plVs : List D → Bool
  | [] => true
  | x :: r => plV x && plVs r
end
mutual
theorem plV_va {μ : Store} : ∀ {d : D}, plV d = true → Va μ d
  | .non, _ => .non
  | .bl b, _ => .bl b
  | .int i, h => .int (int_dec (by simpa [plV] using h))
  | .str s, h => .str (txt_dec (by simpa [plV] using h))
  | .tup xs, h => .tup (plVs_va (by simpa [plV] using h))
  | .lst xs, h => .lst (plVs_va (by simpa [plV] using h))
  | .fl _, h => by simp [plV] at h
  | .ref _, h => by simp [plV] at h
theorem plVs_va {μ : Store} : ∀ {xs : List D}, plVs xs = true → ∀ x ∈ xs, Va μ x
  | y :: r, h, x, hx => by
    simp only [plVs, Bool.and_eq_true] at h
    rcases List.mem_cons.mp hx with e | hx
    · rw [e]; exact plV_va h.1
    · exact plVs_va h.2 x hx
end
def fine (d : D) : Bool := plV d && (decide (sz d ≤ 40000) && decide (dp d ≤ 50))
theorem fine_ok {μ : Store} {d : D} (h : fine d = true) : Va μ d ∧ sz d ≤ 40000 ∧ dp d ≤ 50 := by
  unfold fine at h
  simp only [Bool.and_eq_true, decide_eq_true_eq] at h
  exact ⟨plV_va h.1, h.2.1, h.2.2⟩

def od : D := .tup [.str "note", .str "stat", .str "read"]
def hand1 : List D := [.non, .bl true, .int 0, .str "", .tup [], .lst []]
def handB : List D := [.tup [od, .str "write", .int 0, .tup []], .tup [od, .str "write", .int 7, .tup []], .tup [od, .str "write", .bl true, .tup []]]
def handC : List D := [.tup [od, .str "touch", .int 1, .tup []]]
def handD : List D := [.tup [od, .str "write", .int 1, .tup [.tup [.str "same", .int 2, .str "same"]]], .tup [od, .str "write", .int 1, .tup [.tup [.str "same", .int (-1), .str "same"]]]]
def handE : List D := [.tup [.tup [.str "note", .str "stat"], .str "write", .int 1, .tup []], .tup [.tup [.str "note", .str "stat", .str "read", .str "note"], .str "write", .int 1, .tup []], .tup [od, .str "write", .int 1, .lst []]]
def handF : List D := [.tup [od, .str "write", .int 1, .tup [.tup [.str "same", .bl true, .str "same"]]]]
def handG : List D := [.tup [od, .str "write", .int 1, .tup [.lst [.str "same", .int 1, .str "same"]]]]
def handH : List D := [.tup [od, .str "write", .int 1, .tup [.tup [.str "same", .int 1, .str "less"]]], .tup [od, .str "write", .int 1, .tup [.tup [.str "other", .int 1, .str "same"]]]]
theorem hand_fine : ∀ d ∈ hand1 ++ handB ++ handC ++ handD ++ handE ++ handF ++ handG ++ handH, fine d = true := by
  have key : (hand1 ++ handB ++ handC ++ handD ++ handE ++ handF ++ handG ++ handH).all fine = true := by decide +kernel
  exact fun d hd => List.all_eq_true.mp key d hd
section
variable {μ0 μ μ1 : Store} {p k : Nat} {c c' : Int} {Q : D → Store → Prop} {Qf : Fl → Store → Prop}
theorem six_plan (hcl : Clo μ) (q : Q (.bl true) μ) : Ok (F_is_policy [.tup [od, .str "change", .int 6, .tup []]] μ) Q := by
  refine isp_va (plV_va (by decide +kernel)) hcl (by decide +kernel) ?_
  rw [show plB (.tup [od, .str "change", .int 6, .tup []]) = true from by decide +kernel]
  exact q
theorem right_end {ds : List D} {x3 x4 x5 x6 : Option D} (s : Sx μ0 p c μ) (hd : μ[k]? = some (.lst ds)) (hl : ds.length ≤ 400) (hg : AllG μ ds) (q : Qf (.rt (.bl true)) μ) : OkS (S__law_right_9 [some (.ref p), some od, some (.ref k), x3, x4, x5, x6] μ) Qf := by
  have kl := (List.getElem?_eq_some_iff.mp hd).1
  unfold S__law_right_9
  refine q_sret ?_
  rw [q_vAnd]
  walk_at "q"
  refine q_lcmC (fun d : D => d) (fun _ => true) (fun _ => .bl true) ds s.clo (by omega) ?_ ?_ ?_
  · walk_at "q"
    unfold anyAt
    simp only [hd]
    refine ⟨by trivial, by simp, fun o => ?_⟩
    unfold isLst
    rw [List.getElem?_append_left kl, hd]
    simp
    exact beqs_rfl _
  · intro x o hx ho
    refine ⟨_, rfl, ⟨rfl, rfl⟩, fun _ => ?_⟩
    walk_at "q"
    obtain ⟨g1, g2, g3⟩ := hg x hx
    exact asked_ok (g1.keep KeptD.app) (s.clo.app (obOk_mono ho)) g2 g3 ⟨rfl, rfl, rfl⟩
  · rw [f_all (fun y hy => by simp at hy; exact hy.2.symm), q_okR]
    walk_at "q"
    try simp only [if_true]
    refine ⟨size_ok (by decide), size_ok (by decide), ⟨by trivial, by trivial⟩, ?_⟩
    refine six_plan s.clo ?_
    rw [show Fis false (.bl true) (.bl true) μ = okR (.bl true) μ from rfl, q_okR]
    exact q
theorem step_add {L hand : List D} {ξ : Store} (s : Sx μ0 p c ξ) (e : ξ[k]? = some (.lst L)) (g : AllG ξ L) (hf : ∀ d ∈ hand, fine d = true) :
    Sx μ0 p c (ξ ++ [.lst (L ++ hand)]) ∧ (ξ ++ [Ob.lst (L ++ hand)])[ξ.length]? = some (.lst (L ++ hand)) ∧ AllG (ξ ++ [.lst (L ++ hand)]) (L ++ hand) ∧ μ0.length ≤ ξ.length := by
  have ga : AllG ξ (L ++ hand) := g.app fun d hd => fine_ok (hf d hd)
  exact ⟨s.app (noRefs_le (Nat.le_succ _) ga.noR), by simp, ga.keep KeptD.app, s.len⟩
theorem step_app {L : List D} {v : D} {ξ : Store} (s : Sx μ0 p c ξ) (hk : μ0.length ≤ k) (hp : p < μ0.length) (e : ξ[k]? = some (.lst L)) (g : AllG ξ L) (hf : fine v = true) :
    Sx μ0 p c (ξ.set k (.lst (L ++ [v]))) ∧ (ξ.set k (Ob.lst (L ++ [v])))[k]? = some (.lst (L ++ [v])) ∧ AllG (ξ.set k (.lst (L ++ [v]))) (L ++ [v]) := by
  have kl := (List.getElem?_eq_some_iff.mp e).1
  have ga : AllG ξ (L ++ [v]) := g.app fun d hd => by rw [List.mem_singleton.mp hd]; exact fine_ok hf
  exact ⟨s.setk hk hp kl ga.noR, List.getElem?_set_self kl, ga.keep (KeptD.set e)⟩
end
theorem right_ok : RightOk F__law_right 5000 400000 := by
  intro p c μ hw hc
  have hp := hw.lt
  have s0 : Sx μ p c μ := Sx.of hw.pool hw.pure.clo
  refine q_fsealG (q_fn rfl ?_)
  unfold S__law_right
  rw [q_seq]
  refine q_spar2 ?_
  walk_at "q"
  refine ⟨size_ok (by decide), size_ok (by decide), size_ok (by decide), ?_⟩
  rw [q_dnew]
  refine ⟨size_ok (by decide), ?_⟩
  have s1 : Sx μ p c (μ ++ [Ob.dct []]) := s0.app rfl
  have e1 : (μ ++ [Ob.dct []])[μ.length]? = some (.dct []) := by simp
  have g1 : AllG (μ ++ [Ob.dct []]) (hand1 ++ [.ref μ.length]) := (show AllG (μ ++ [Ob.dct []]) hand1 from fun d hd => fine_ok (hand_fine d (by simp [hd]))).app (AllG.one (.dct e1) (by simp [sz]) (by simp [dp]))
  have hL : [D.non, D.bl true, D.int 0, D.str (Str.ofString ""), D.tup [], D.lst [], D.ref (List.length μ)] = hand1 ++ [.ref μ.length] := rfl
  rw [hL]
  have n1 : (hand1 ++ [D.ref μ.length]).length = 7 := rfl
  clear hL
  generalize hand1 ++ [D.ref μ.length] = L1 at g1 n1 ⊢
  have l1 := s1.len
  generalize μ ++ [Ob.dct []] = ν at s1 g1 l1 ⊢
  clear e1
  have s2 : Sx μ p c (ν ++ [.lst L1]) := s1.app (noRefs_le (Nat.le_succ _) g1.noR)
  have g2 : AllG (ν ++ [.lst L1]) L1 := g1.keep KeptD.app
  have e2 : (ν ++ [Ob.lst L1])[ν.length]? = some (.lst L1) := by simp
  generalize ν.length = k2 at e2 l1 ⊢
  generalize ν ++ [Ob.lst L1] = ξ2 at s2 g2 e2 ⊢
  have n2 := n1
  have l2 := l1
  rw [q_cont]
  unfold S__law_right_1
  rw [q_seq]
  refine q_asg ?_
  walk_at "q"
  repeat (refine ⟨size_ok (by decide), ?_⟩)
  rw [f_addR (a := L1) (b := handB) (by unfold lstOf; simp only [e2]) rfl (by rw [n1]; decide), q_okR]
  obtain ⟨s3, e3, g3, l3⟩ := step_add (hand := handB) s2 e2 g2 fun d hd => hand_fine d (by simp [hd])
  have n3 : (L1 ++ handB).length = 10 := by rw [List.length_append, n1]; rfl
  generalize L1 ++ handB = L3 at s3 e3 g3 n3 ⊢
  generalize ξ2.length = k3 at e3 l3 ⊢
  generalize ξ2 ++ [Ob.lst L3] = ξ3 at s3 e3 g3 ⊢
  rw [q_cont]
  unfold S__law_right_2
  rw [q_seq]
  refine q_drop ?_
  rw [q_meth]
  walk_at "q"
  refine ⟨isList_ref e3, ?_⟩
  repeat (refine ⟨size_ok (by decide), ?_⟩)
  rw [f_app e3 (Nat.lt_of_lt_of_le (show L3.length < 1000000 by omega) (size_ok (Nat.le_refl _))), q_okR]
  obtain ⟨s4, e4, g4⟩ := step_app (v := D.tup [od, D.str "touch", D.int 1, D.tup []]) s3 l3 hp e3 g3 (by decide +kernel)
  rw [show D.tup [D.tup [D.str (Str.ofString "note"), D.str (Str.ofString "stat"), D.str (Str.ofString "read")], D.str (Str.ofString "touch"), D.int 1, D.tup []] = D.tup [od, D.str "touch", D.int 1, D.tup []] from rfl]
  have n4 : (L3 ++ [D.tup [od, D.str "touch", D.int 1, D.tup []]]).length = 11 := by rw [List.length_append, n3]; rfl
  generalize L3 ++ [D.tup [od, D.str "touch", D.int 1, D.tup []]] = L4 at s4 e4 g4 n4 ⊢
  generalize ξ3.set k3 (Ob.lst L4) = ξ4 at s4 e4 g4 ⊢
  have l4 := l3
  rw [q_cont]
  unfold S__law_right_3
  rw [q_seq]
  refine q_asg ?_
  walk_at "q"
  repeat (refine ⟨size_ok (by decide), ?_⟩)
  rw [f_addR (a := L4) (b := handD) (by unfold lstOf; simp only [e4]) rfl (by rw [n4]; decide), q_okR]
  obtain ⟨s5, e5, g5, l5⟩ := step_add (hand := handD) s4 e4 g4 fun d hd => hand_fine d (by simp [hd])
  have n5 : (L4 ++ handD).length = 13 := by rw [List.length_append, n4]; rfl
  generalize L4 ++ handD = L5 at s5 e5 g5 n5 ⊢
  generalize ξ4.length = k5 at e5 l5 ⊢
  generalize ξ4 ++ [Ob.lst L5] = ξ5 at s5 e5 g5 ⊢
  rw [q_cont]
  unfold S__law_right_4
  rw [q_seq]
  refine q_asg ?_
  walk_at "q"
  repeat (refine ⟨size_ok (by decide), ?_⟩)
  rw [f_addR (a := L5) (b := handE) (by unfold lstOf; simp only [e5]) rfl (by rw [n5]; decide), q_okR]
  obtain ⟨s6, e6, g6, l6⟩ := step_add (hand := handE) s5 e5 g5 fun d hd => hand_fine d (by simp [hd])
  have n6 : (L5 ++ handE).length = 16 := by rw [List.length_append, n5]; rfl
  generalize L5 ++ handE = L6 at s6 e6 g6 n6 ⊢
  generalize ξ5.length = k6 at e6 l6 ⊢
  generalize ξ5 ++ [Ob.lst L6] = ξ6 at s6 e6 g6 ⊢
  rw [q_cont]
  unfold S__law_right_5
  rw [q_seq]
  refine q_drop ?_
  rw [q_meth]
  walk_at "q"
  refine ⟨isList_ref e6, ?_⟩
  repeat (refine ⟨size_ok (by decide), ?_⟩)
  rw [f_app e6 (Nat.lt_of_lt_of_le (show L6.length < 1000000 by omega) (size_ok (Nat.le_refl _))), q_okR]
  obtain ⟨s7, e7, g7⟩ := step_app (v := D.tup [od, D.str "write", D.int 1, D.tup [D.tup [D.str "same", D.bl true, D.str "same"]]]) s6 l6 hp e6 g6 (by decide +kernel)
  rw [show D.tup [D.tup [D.str (Str.ofString "note"), D.str (Str.ofString "stat"), D.str (Str.ofString "read")], D.str (Str.ofString "write"), D.int 1, D.tup [D.tup [D.str (Str.ofString "same"), D.bl true, D.str (Str.ofString "same")]]] = D.tup [od, D.str "write", D.int 1, D.tup [D.tup [D.str "same", D.bl true, D.str "same"]]] from rfl]
  have n7 : (L6 ++ [D.tup [od, D.str "write", D.int 1, D.tup [D.tup [D.str "same", D.bl true, D.str "same"]]]]).length = 17 := by rw [List.length_append, n6]; rfl
  generalize L6 ++ [D.tup [od, D.str "write", D.int 1, D.tup [D.tup [D.str "same", D.bl true, D.str "same"]]]] = L7 at s7 e7 g7 n7 ⊢
  generalize ξ6.set k6 (Ob.lst L7) = ξ7 at s7 e7 g7 ⊢
  rw [q_cont]
  unfold S__law_right_6
  rw [q_seq]
  refine q_drop ?_
  rw [q_meth]
  walk_at "q"
  refine ⟨isList_ref e7, ?_⟩
  repeat (refine ⟨size_ok (by decide), ?_⟩)
  rw [f_app e7 (Nat.lt_of_lt_of_le (show L7.length < 1000000 by omega) (size_ok (Nat.le_refl _))), q_okR]
  obtain ⟨s8, e8, g8⟩ := step_app (v := D.tup [od, D.str "write", D.int 1, D.tup [D.lst [D.str "same", D.int 1, D.str "same"]]]) s7 l6 hp e7 g7 (by decide +kernel)
  rw [show D.tup [D.tup [D.str (Str.ofString "note"), D.str (Str.ofString "stat"), D.str (Str.ofString "read")], D.str (Str.ofString "write"), D.int 1, D.tup [D.lst [D.str (Str.ofString "same"), D.int 1, D.str (Str.ofString "same")]]] = D.tup [od, D.str "write", D.int 1, D.tup [D.lst [D.str "same", D.int 1, D.str "same"]]] from rfl]
  have n8 : (L7 ++ [D.tup [od, D.str "write", D.int 1, D.tup [D.lst [D.str "same", D.int 1, D.str "same"]]]]).length = 18 := by rw [List.length_append, n7]; rfl
  generalize L7 ++ [D.tup [od, D.str "write", D.int 1, D.tup [D.lst [D.str "same", D.int 1, D.str "same"]]]] = L8 at s8 e8 g8 n8 ⊢
  generalize ξ7.set k6 (Ob.lst L8) = ξ8 at s8 e8 g8 ⊢
  rw [q_cont]
  unfold S__law_right_7
  rw [q_seq]
  refine q_asg ?_
  walk_at "q"
  repeat (refine ⟨size_ok (by decide), ?_⟩)
  rw [f_addR (a := L8) (b := handH) (by unfold lstOf; simp only [e8]) rfl (by rw [n8]; decide), q_okR]
  obtain ⟨s9, e9, g9, l9⟩ := step_add (hand := handH) s8 e8 g8 fun d hd => hand_fine d (by simp [hd])
  have n9 : (L8 ++ handH).length = 20 := by rw [List.length_append, n8]; rfl
  generalize L8 ++ handH = L9 at s9 e9 g9 n9 ⊢
  generalize ξ8.length = k9 at e9 l9 ⊢
  generalize ξ8 ++ [Ob.lst L9] = ξ9 at s9 e9 g9 ⊢
  rw [q_cont]
  unfold S__law_right_8
  rw [q_seq]
  refine q_for ?_
  walk_at "q"
  refine ⟨_, rfl, by decide, by decide, ?_⟩
  refine loop_ok (fun (i : Nat) ρ ν => Sx μ p (c + 400 * (i : Int)) ν ∧ ∃ ds x3 x4 x5 x6, ν[k9]? = some (.lst ds) ∧ ds.length = 20 + 11 * i ∧ AllG ν ds ∧ ρ = [some (.ref p), some od, some (.ref k9), x3, x4, x5, x6]) (fun _ _ _ _ => rfl) ?_ ?_ ⟨by rw [show c + 400 * ((0 : Nat) : Int) = c by omega]; exact s9, L9, _, _, _, _, e9, n9, g9, rfl⟩
  · rintro i d ρ ν ed ⟨s, ds, x3, x4, x5, x6, hd, hl, hg, rfl⟩
    obtain ⟨hi, rfl⟩ := rng_get ed
    have hi : i < 8 := by simpa using hi
    refine ⟨_, rfl, ?_⟩
    refine right_turn s hp l9 (by omega) hd (by omega) hg fun ds' y4 μ' s' e' l' g' => ⟨?_, ds', _, _, _, _, e', by omega, g', rfl⟩
    rw [show c + 400 * ((i + 1 : Nat) : Int) = c + 400 * (i : Int) + 400 by omega]
    exact s'
  · rintro ρ ν ⟨s, ds, x3, x4, x5, x6, hd, hl, hg, rfl⟩
    rw [rng_len] at s hl
    rw [q_cont]
    refine right_end s hd (by rw [hl]; decide) hg ?_
    have sμ : Sx μ p (c + 5000) ν := s.mono (by simp)
    have cx := sμ.cut hp hw.pure
    exact ⟨List.all_eq_true.mpr fun o ho => obOk_mono (cx.wd.pure o ho), _, rfl, rfl, cx.wd, cx.fr⟩
theorem law_true (ns : List Int) (_ : ns.length ≤ 63) : ∃ μ', F_law [scriptD ns] [] = some (.ok (.bl true), μ') :=
  law2_true (n := 3) pool_ok right_ok (by decide) (by decide) ns

end Lw

namespace Lw
open PySem PySem.Spec L2 DM

theorem facts {P : Program} {w : World} {K : PySem.W.Frag} {h : Heap} {mg : Str → Option Value} {f : Addr} (X : K.In h) (G : h.Ns mainGlobals mg) (hfa : mg ("law" : Str) = some (.ref f)) (hfl : (P.main.file : Str) = PySem.Challenge.pw_coarseclock_k05_policies_of_any_value.main.file) (top : (P.main.scope.names.lookup ("super" : Str)).isSome = false) (c : SaysS ss fa fn cs xf xs K) :
    ∃ fd : FuncData, (∀ (s : Shared) (v : Value), BindsTo s fd ⟨[v], []⟩ [("_law_script", v)]) ∧ ∀ base : Heap, K.In base → base.Ns mainGlobals mg → FnG P w K mg base (xrS K) 9 f fd ["_law_script"] F_law := by
  replace c := c.b
  have c_CELL_PARTS : Cst K mg "CELL_PARTS" (.int 3) := conB_ok X G (c.con 0 (z := ("CELL_PARTS", (.int 3))) rfl)
  have c_KINDS : Cst K mg "KINDS" (.tup [(.str "change"), (.str "write")]) := conB_ok X G (c.con 1 (z := ("KINDS", (.tup [(.str "change"), (.str "write")]))) rfl)
  have c_MOST_WIDTH : Cst K mg "MOST_WIDTH" (.int 6) := conB_ok X G (c.con 2 (z := ("MOST_WIDTH", (.int 6))) rfl)
  have c_NOTE : Cst K mg "NOTE" (.str "note") := conB_ok X G (c.con 3 (z := ("NOTE", (.str "note"))) rfl)
  have c_PARTS : Cst K mg "PARTS" (.int 4) := conB_ok X G (c.con 4 (z := ("PARTS", (.int 4))) rfl)
  have c_READ : Cst K mg "READ" (.str "read") := conB_ok X G (c.con 5 (z := ("READ", (.str "read"))) rfl)
  have c_RELATIONS : Cst K mg "RELATIONS" (.tup [(.str "less"), (.str "more"), (.str "same")]) := conB_ok X G (c.con 6 (z := ("RELATIONS", (.tup [(.str "less"), (.str "more"), (.str "same")]))) rfl)
  have c_SIZES : Cst K mg "SIZES" (.tup [(.str "other"), (.str "same")]) := conB_ok X G (c.con 7 (z := ("SIZES", (.tup [(.str "other"), (.str "same")]))) rfl)
  have c_STAT : Cst K mg "STAT" (.str "stat") := conB_ok X G (c.con 8 (z := ("STAT", (.str "stat"))) rfl)
  have xf_0 : smB K = true := c.xfact 0 (f := smB) rfl
  replace c := c.c
  obtain ⟨fd_is_integer, D_is_integer⟩ := c.def_ 0 (d := d_is_integer) rfl
  obtain ⟨fd_ascends, D_ascends⟩ := c.def_ 1 (d := d_ascends) rfl
  obtain ⟨fd_orders, D_orders⟩ := c.def_ 2 (d := d_orders) rfl
  obtain ⟨fd_is_one_of, D_is_one_of⟩ := c.def_ 3 (d := d_is_one_of) rfl
  obtain ⟨fd__law_pot, D__law_pot⟩ := c.def_ 4 (d := d__law_pot) rfl
  obtain ⟨fd__law_take, D__law_take⟩ := c.def_ 5 (d := d__law_take) rfl
  obtain ⟨fd__law_all_cells, D__law_all_cells⟩ := c.def_ 6 (d := d__law_all_cells) rfl
  obtain ⟨fd__law_is_number, D__law_is_number⟩ := c.def_ 7 (d := d__law_is_number) rfl
  obtain ⟨fd_is_cell, D_is_cell⟩ := c.def_ 8 (d := d_is_cell) rfl
  obtain ⟨fd_is_order, D_is_order⟩ := c.def_ 9 (d := d_is_order) rfl
  obtain ⟨fd__law_pick, D__law_pick⟩ := c.def_ 10 (d := d__law_pick) rfl
  obtain ⟨fd__law_mixed, D__law_mixed⟩ := c.def_ 11 (d := d__law_mixed) rfl
  obtain ⟨fd__law_some, D__law_some⟩ := c.def_ 12 (d := d__law_some) rfl
  obtain ⟨fd__law_is_plan, D__law_is_plan⟩ := c.def_ 13 (d := d__law_is_plan) rfl
  obtain ⟨fd_is_policy, D_is_policy⟩ := c.def_ 14 (d := d_is_policy) rfl
  obtain ⟨fd__law_order_here, D__law_order_here⟩ := c.def_ 15 (d := d__law_order_here) rfl
  obtain ⟨fd__law_odd, D__law_odd⟩ := c.def_ 16 (d := d__law_odd) rfl
  obtain ⟨fd__law_plan, D__law_plan⟩ := c.def_ 17 (d := d__law_plan) rfl
  obtain ⟨fd__law_asked, D__law_asked⟩ := c.def_ 18 (d := d__law_asked) rfl
  obtain ⟨fd__law_bent, D__law_bent⟩ := c.def_ 19 (d := d__law_bent) rfl
  obtain ⟨fd__law_right, D__law_right⟩ := c.def_ 20 (d := d__law_right) rfl
  obtain ⟨fd_law, D_law⟩ := c.def_ 21 (d := d_law) rfl
  have g_is_integer := He.glo_ok X G (c.fact 0 (f := .glo "is_integer") rfl)
  have g_ascends := He.glo_ok X G (c.fact 1 (f := .glo "ascends") rfl)
  have g_orders := He.glo_ok X G (c.fact 2 (f := .glo "orders") rfl)
  have g_is_one_of := He.glo_ok X G (c.fact 3 (f := .glo "is_one_of") rfl)
  have g__law_pot := He.glo_ok X G (c.fact 4 (f := .glo "_law_pot") rfl)
  have g__law_take := He.glo_ok X G (c.fact 5 (f := .glo "_law_take") rfl)
  have g__law_all_cells := He.glo_ok X G (c.fact 6 (f := .glo "_law_all_cells") rfl)
  have g__law_is_number := He.glo_ok X G (c.fact 7 (f := .glo "_law_is_number") rfl)
  have g_is_cell := He.glo_ok X G (c.fact 8 (f := .glo "is_cell") rfl)
  have g_is_order := He.glo_ok X G (c.fact 9 (f := .glo "is_order") rfl)
  have g__law_pick := He.glo_ok X G (c.fact 10 (f := .glo "_law_pick") rfl)
  have g__law_mixed := He.glo_ok X G (c.fact 11 (f := .glo "_law_mixed") rfl)
  have g__law_some := He.glo_ok X G (c.fact 12 (f := .glo "_law_some") rfl)
  have g__law_is_plan := He.glo_ok X G (c.fact 13 (f := .glo "_law_is_plan") rfl)
  have g_is_policy := He.glo_ok X G (c.fact 14 (f := .glo "is_policy") rfl)
  have g__law_order_here := He.glo_ok X G (c.fact 15 (f := .glo "_law_order_here") rfl)
  have g__law_odd := He.glo_ok X G (c.fact 16 (f := .glo "_law_odd") rfl)
  have g__law_plan := He.glo_ok X G (c.fact 17 (f := .glo "_law_plan") rfl)
  have g__law_asked := He.glo_ok X G (c.fact 18 (f := .glo "_law_asked") rfl)
  have g__law_bent := He.glo_ok X G (c.fact 19 (f := .glo "_law_bent") rfl)
  have g__law_right := He.glo_ok X G (c.fact 20 (f := .glo "_law_right") rfl)
  have g_law := He.glo_ok X G (c.fact 21 (f := .glo "law") rfl)
  have m_abs := He.free_ok X G (c.fact 22 (f := .free "abs") rfl)
  have m_all := He.free_ok X G (c.fact 23 (f := .free "all") rfl)
  have m_bool := He.free_ok X G (c.fact 24 (f := .free "bool") rfl)
  have m_int := He.free_ok X G (c.fact 25 (f := .free "int") rfl)
  have m_isinstance := He.free_ok X G (c.fact 26 (f := .free "isinstance") rfl)
  have m_len := He.free_ok X G (c.fact 27 (f := .free "len") rfl)
  have m_list := He.free_ok X G (c.fact 28 (f := .free "list") rfl)
  have m_max := He.free_ok X G (c.fact 29 (f := .free "max") rfl)
  have m_min := He.free_ok X G (c.fact 30 (f := .free "min") rfl)
  have m_range := He.free_ok X G (c.fact 31 (f := .free "range") rfl)
  have m_repr := He.free_ok X G (c.fact 32 (f := .free "repr") rfl)
  have m_set := He.free_ok X G (c.fact 33 (f := .free "set") rfl)
  have m_sorted := He.free_ok X G (c.fact 34 (f := .free "sorted") rfl)
  have m_str := He.free_ok X G (c.fact 35 (f := .free "str") rfl)
  have m_tuple := He.free_ok X G (c.fact 36 (f := .free "tuple") rfl)
  have m_zip := He.free_ok X G (c.fact 37 (f := .free "zip") rfl)
  have sm_K : smB K = true := xf_0
  have e := hfa.symm.trans g_law
  cases e
  have bl := FunD.bindsA (ps := ["_law_script"]) D_law fun _ _ _ _ _ _ us hl => match us, hl with | [_], _ => rfl
  refine ⟨fd_law, fun s v => bl s [v] rfl, fun base _ _ => ?_⟩
  have n_is_integer : Kn P w K mg base 1 "is_integer" P_is_integer F_is_integer := kn_is_integer D_is_integer g_is_integer m_bool m_int m_isinstance
  have n_ascends : Kn P w K mg base 1 "ascends" P_ascends F_ascends := kn_ascends D_ascends g_ascends m_all m_zip
  have n_orders : Kn P w K mg base 1 "orders" P_orders F_orders := kn_orders D_orders g_orders m_tuple c_NOTE c_READ c_STAT
  have n_is_one_of : Kn P w K mg base 1 "is_one_of" P_is_one_of F_is_one_of := kn_is_one_of D_is_one_of g_is_one_of m_isinstance m_str
  have n__law_pot : Kn P w K mg base 1 "_law_pot" P__law_pot F__law_pot := kn__law_pot D__law_pot g__law_pot m_abs m_len
  have n__law_take : Kn P w K mg base 1 "_law_take" P__law_take F__law_take := kn__law_take D__law_take g__law_take
  have n__law_all_cells : Kn P w K mg base 1 "_law_all_cells" P__law_all_cells F__law_all_cells := kn__law_all_cells D__law_all_cells g__law_all_cells m_range
  have n__law_is_number : Kn P w K mg base 1 "_law_is_number" P__law_is_number F__law_is_number := kn__law_is_number D__law_is_number g__law_is_number m_bool m_int m_isinstance
  have n_is_cell : Kn P w K mg base 2 "is_cell" P_is_cell F_is_cell := kn_is_cell D_is_cell g_is_cell n_is_integer n_is_one_of m_isinstance m_len m_tuple c_CELL_PARTS c_RELATIONS c_SIZES
  have n_is_order : Kn P w K mg base 2 "is_order" P_is_order F_is_order := kn_is_order D_is_order g_is_order n_orders m_all m_isinstance m_str m_tuple
  have n__law_pick : Kn P w K mg base 2 "_law_pick" P__law_pick F__law_pick := kn__law_pick D__law_pick g__law_pick n__law_take m_len
  have n__law_mixed : Kn P w K mg base 2 "_law_mixed" P__law_mixed F__law_mixed := kn__law_mixed D__law_mixed g__law_mixed n__law_take m_len m_list
  have n__law_some : Kn P w K mg base 2 "_law_some" P__law_some F__law_some := kn__law_some D__law_some g__law_some n__law_take m_tuple
  have n__law_is_plan : Kn P w K mg base 2 "_law_is_plan" P__law_is_plan F__law_is_plan := kn__law_is_plan D__law_is_plan g__law_is_plan n__law_all_cells n__law_is_number sm_K m_all m_isinstance m_len m_list m_repr m_set m_sorted m_str m_tuple
  have n_is_policy : Kn P w K mg base 3 "is_policy" P_is_policy F_is_policy := kn_is_policy D_is_policy g_is_policy n_ascends n_is_cell n_is_integer n_is_one_of n_is_order m_all m_isinstance m_len m_tuple c_KINDS c_MOST_WIDTH c_PARTS
  have nk_0 : KnK P w K mg base 3 "is_policy" P_is_policy F_is_policy 0 ["value"] [0] := kk_0 D_is_policy g_is_policy n_ascends n_is_cell n_is_integer n_is_one_of n_is_order m_all m_isinstance m_len m_tuple c_KINDS c_MOST_WIDTH c_PARTS
  have n__law_order_here : Kn P w K mg base 3 "_law_order_here" P__law_order_here F__law_order_here := kn__law_order_here D__law_order_here g__law_order_here n__law_mixed m_tuple
  have n__law_odd : Kn P w K mg base 3 "_law_odd" P__law_odd F__law_odd := kn__law_odd D__law_odd g__law_odd n__law_pick m_int m_isinstance m_list m_str m_tuple
  have n__law_plan : Kn P w K mg base 4 "_law_plan" P__law_plan F__law_plan := kn__law_plan D__law_plan g__law_plan n__law_all_cells n__law_order_here n__law_pick n__law_some n__law_take
  have n__law_asked : Kn P w K mg base 4 "_law_asked" P__law_asked F__law_asked := kn__law_asked D__law_asked g__law_asked n__law_is_plan n_is_policy sm_K m_repr
  have n__law_bent : Kn P w K mg base 7 "_law_bent" P__law_bent F__law_bent := kn__law_bent D__law_bent g__law_bent n__law_odd n__law_take m_isinstance m_len m_tuple
  have n__law_right : Kn P w K mg base 8 "_law_right" P__law_right F__law_right := kn__law_right D__law_right g__law_right n__law_asked n__law_bent n__law_plan nk_0 m_all m_range
  exact ok_law D_law n__law_pot n__law_right m_all m_len m_max m_min m_range
end Lw

open PySem PySem.W PySem.Calls PyProof.Rows
set_option maxRecDepth 100000 in
set_option maxHeartbeats 0 in
theorem PySem.Challenge.cw_coarseclock_k05_policies_of_any_value_holds : PySem.Challenge.rw_coarseclock_k05_policies_of_any_value.Holds := by
  w_on; o_law
  refine HandSHeadRun.head_any (r := OpenLaw.row PySem.Challenge.rw_coarseclock_k05_policies_of_any_value) (q := view (OpenLaw.row PySem.Challenge.rw_coarseclock_k05_policies_of_any_value).prog [37]) (H := Lw.hk) (ob := Lw.ob) (M := 4000) (loose := Lw.loose) (d := HandSHeadRun.topDef (OpenLaw.row PySem.Challenge.rw_coarseclock_k05_policies_of_any_value).prog 37) (kwd := []) Lw.ob_eq
    (by kernel_rfl) (fun s => by kernel_rfl) Lw.run (by kernel_rfl) (by kernel_rfl) (by kernel_rfl) (by rfl) (by first | assumption | decide +kernel) (by decide +kernel) ⟨rfl, rfl, rfl, rfl, rfl, by decide +kernel⟩ ?hw ?hc
  case hw => w_witness2
  case hc =>
    refine DM.law_end (l := PySem.Challenge.rw_coarseclock_k05_policies_of_any_value) (n := 63) (k := 9) (x := "_law_script") rfl (by decide) (by kernel_rfl) ⟨rfl, by decide, by decide⟩ ?F
    intro w mg fa h Y G hmg0
    obtain ⟨K, KX, c⟩ := Y
    have hmg : mg ("law" : PySem.Str) = some (.ref fa) := by
      have e : (HandSHeadRun.topDef (OpenLaw.row PySem.Challenge.rw_coarseclock_k05_policies_of_any_value).prog 37).name = ("law" : PySem.Str) := by kernel_rfl
      rw [← e]
      exact hmg0
    obtain ⟨fd, hb, hF⟩ := Lw.facts (P := (PySem.Challenge.rw_coarseclock_k05_policies_of_any_value).prog) (w := w) KX G hmg (by kernel_rfl) (by kernel_rfl) c
    exact ⟨K, fd, Lw.F_law, KX, hb, Lw.law_true, hF⟩
