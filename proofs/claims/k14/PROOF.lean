import PyProof.Rows.All
import Wide.All
import OpenK.AllK
import Wide.FinOn
import HandS.ForMost
import HandS.Wide
import HandS.Style
import HandS.Flow
import HandS.Exc
import HandS.Defaults
import HandS.WordsExc
import HandS.HeadEnd
import HandS.Head0
import HandS.Head1
import HandS.HeadHook1
import HandS.HeadHook2
import HandS.TupAny
import HandS.List
import HandS.Codes
import HandS.Deep
import HandS.Strs
import HandS.Replace
import HandS.Star
import HandS.IsInst
import HandS.Small
import HandS.Property
import HandS.More
import PyProof.ReprLen
import PyProof.ReprRoads
import KE.GoesMore
import KE.GoesEnum
import KE.GoesZip
import HandS.DictComp
import KE.KUnpackStar
import HandS.Text
import HandS.MethStar
import KE.LtData
import HandS.Head2
import HandS.TryOnly
import PyProof.GenQ
import HandS.GenOver
import HandS.GenList
import HandS.ClsMeth
import HandS.WordsDict
import KE.SortData
import HandS.Conv
import PySem.Challenge.RW_coarseclock_k14_bad_cells_of_widths
set_option Elab.async false
set_option linter.all false
set_option maxRecDepth 100000
set_option maxHeartbeats 4000000
set_option autoImplicit false

/-! A deterministic layer over HandS: expressions and statements denote functions on plain data (D) and a store of mutable cells. -/
namespace DM
open PySem PySem.Spec L2

inductive D where
  | non | bl (b : Bool) | int (i : Int) | str (x : Str) | tup (xs : List D) | lst (xs : List D) | fl (xs : List D) | ref (i : Nat)
instance : Inhabited D := ⟨.non⟩
inductive Ob where
  | lst (xs : List D) | obj (C : Str) (fs : List (Str × D)) | dct (kvs : List (Key × D)) | dcl (kvs : List (Key × D)) | dtt (kvs : List (List Key × D))
abbrev Store := List Ob
abbrev Rho := List (Option D)
structure Ex where
  cls : Str
  fs : List (Str × D)

/-! ### equality of data -/
mutual
def D.beq : D → D → Bool
  | .non, .non => true
  | .bl a, .bl b => a == b
  | .int a, .int b => a == b
  | .str a, .str b => a == b
  | .tup a, .tup b => beqs a b
  | .lst a, .lst b => beqs a b
  | .fl a, .fl b => beqs a b
  | .ref a, .ref b => a == b
  | _, _ => false
def beqs : List D → List D → Bool
  | [], [] => true
  | a :: r, b :: t => a.beq b && beqs r t
  | _, _ => false
end
mutual
theorem D.beq_eq : ∀ a b : D, a.beq b = true → a = b
  | .non, b, h => by cases b <;> simp_all [D.beq]
  | .bl a, b, h => by cases b <;> simp_all [D.beq]
  | .int a, b, h => by cases b <;> simp_all [D.beq]
  | .str a, b, h => by cases b <;> simp_all [D.beq]
  | .tup a, b, h => by cases b <;> simp_all [D.beq]; exact beqs_eq _ _ h
  | .lst a, b, h => by cases b <;> simp_all [D.beq]; exact beqs_eq _ _ h
  | .fl a, b, h => by cases b <;> simp_all [D.beq]; exact beqs_eq _ _ h
  | .ref a, b, h => by cases b <;> simp_all [D.beq]
theorem beqs_eq : ∀ a b : List D, beqs a b = true → a = b
  | [], b, h => by cases b <;> simp_all [beqs]
  | x :: r, b, h => by
    cases b with
    | nil => simp [beqs] at h
    | cons y t =>
      simp only [beqs, Bool.and_eq_true] at h
      rw [D.beq_eq x y h.1, beqs_eq r t h.2]
end
mutual
theorem D.beq_rfl : ∀ a : D, a.beq a = true
  | .non => rfl
  | .bl a => by simp [D.beq]
  | .int a => by simp [D.beq]
  | .str a => by simp [D.beq]
  | .tup a => by simp only [D.beq]; exact beqs_rfl a
  | .lst a => by simp only [D.beq]; exact beqs_rfl a
  | .fl a => by simp only [D.beq]; exact beqs_rfl a
  | .ref a => by simp [D.beq]
theorem beqs_rfl : ∀ a : List D, beqs a a = true
  | [] => rfl
  | x :: r => by simp only [beqs, D.beq_rfl x, beqs_rfl r, Bool.and_true]
end
instance : DecidableEq D := fun a b => if h : a.beq b = true then .isTrue (D.beq_eq a b h) else .isFalse (fun e => h (by rw [e]; exact D.beq_rfl b))

/-! ### the worlds' relation -/
/-- a tuple: made here (its object is known, it has no dict), or written -/
def TupAt (K : PySem.W.Frag) (ι : List Addr) (H : Hp) (a : Addr) (vs : List V) : Prop :=
  ((∃ o, H a = some (.frz o (.tup vs)) ∧ o.dict = none) ∧ a ∉ ι) ∨
    (∃ (o : Obj) (its : Array Value) (n : Nat), K.lookup a = some o ∧ o.cls = .type "tuple" ∧ o.dict = none ∧ o.data = .seq its n ∧ its.size ≤ sizeLine ∧ Vals vs its.toList) ∨
    (H a = some (.tup vs) ∧ a ∉ ι ∧ ∃ i, V.int i ∈ vs)
/-- a list that nobody changes any more -/
def LstAt (ι : List Addr) (H : Hp) (a : Addr) (vs : List V) : Prop := H a = some (.lst vs) ∧ a ∉ ι
/-- the script, or a list of the module's -/
def FlAt (K : PySem.W.Frag) (ι : List Addr) (H : Hp) (a : Addr) (vs : List V) : Prop :=
  ((∃ o, H a = some (.frz o (.lst vs))) ∧ a ∉ ι) ∨
    ∃ (o : Obj) (its : Array Value) (n : Nat), K.lookup a = some o ∧ o.cls = .type "list" ∧ o.dict = none ∧ o.data = .seq its n ∧ its.size ≤ sizeLine ∧ Vals vs its.toList
theorem TupAt.sq {K : PySem.W.Frag} {ι : List Addr} {H : Hp} {a : Addr} {vs : List V} (h : TupAt K ι H a vs) : SqT K H a vs := by
  rcases h with ⟨⟨o, h, _⟩, _⟩ | ⟨o, its, n, h1, h2, _, h3⟩ | ⟨h, _⟩
  · exact .inl (.inr ⟨o, h⟩)
  · exact .inr ⟨o, its, n, h1, h2, h3⟩
  · exact .inl (.inl h)
theorem LstAt.sq {K : PySem.W.Frag} {ι : List Addr} {H : Hp} {a : Addr} {vs : List V} (h : LstAt ι H a vs) : SqL K H a vs := .inl (.inl h.1)
theorem FlAt.sq {K : PySem.W.Frag} {ι : List Addr} {H : Hp} {a : Addr} {vs : List V} (h : FlAt K ι H a vs) : SqL K H a vs := h.elim (fun z => .inl (.inr z.1)) .inr
mutual
inductive VR (K : PySem.W.Frag) (ι : List Addr) (H : Hp) : V → D → Prop
  | non : VR K ι H .non .non
  | bl (b : Bool) : VR K ι H (.bl b) (.bl b)
  | int (i : Int) : VR K ι H (.int i) (.int i)
  | str (x : Str) : VR K ι H (.str x) (.str x)
  | tup {a : Addr} {vs : List V} {ds : List D} (h : TupAt K ι H a vs) (r : VRs K ι H vs ds) : VR K ι H (.ref a) (.tup ds)
  | lst {a : Addr} {vs : List V} {ds : List D} (h : LstAt ι H a vs) (r : VRs K ι H vs ds) : VR K ι H (.ref a) (.lst ds)
  | fl {a : Addr} {vs : List V} {ds : List D} (h : FlAt K ι H a vs) (r : VRs K ι H vs ds) : VR K ι H (.ref a) (.fl ds)
  | ref {a : Addr} {i : Nat} (h : ι[i]? = some a) : VR K ι H (.ref a) (.ref i)
inductive VRs (K : PySem.W.Frag) (ι : List Addr) (H : Hp) : List V → List D → Prop
  | nil : VRs K ι H [] []
  | cons {v : V} {d : D} {vs : List V} {ds : List D} (h : VR K ι H v d) (r : VRs K ι H vs ds) : VRs K ι H (v :: vs) (d :: ds)
end
structure Le (ι : List Addr) (H : Hp) (ι' : List Addr) (H' : Hp) : Prop where
  pre : ∀ (i : Nat) a, ι[i]? = some a → ι'[i]? = some a
  new : ∀ a, a ∈ ι' → a ∉ ι → H a = none
  keep : ∀ a o, a ∉ ι → H a = some o → H' a = some o
  frz : ∀ a o u, H a = some (.frz o u) → H' a = some (.frz o u)
theorem Le.refl (ι : List Addr) (H : Hp) : Le ι H ι H := ⟨fun _ _ h => h, fun _ h n => absurd h n, fun _ _ _ h => h, fun _ _ _ h => h⟩
theorem Le.out {ι ι' : List Addr} {H H' : Hp} (l : Le ι H ι' H') {a : Addr} {o : HO} (n : a ∉ ι) (h : H a = some o) : a ∉ ι' := fun m => by
  rw [l.new a m n] at h; cases h
theorem Le.trans {ι ι1 ι2 : List Addr} {H H1 H2 : Hp} (l : Le ι H ι1 H1) (m : Le ι1 H1 ι2 H2) : Le ι H ι2 H2 := by
  refine ⟨fun i a h => m.pre i a (l.pre i a h), fun a h n => ?_, fun a o n h => m.keep a o (l.out n h) (l.keep a o n h), fun a o u h => m.frz a o u (l.frz a o u h)⟩
  by_cases z : a ∈ ι1
  · exact l.new a z n
  · cases e : H a with
    | none => rfl
    | some o =>
      have q := l.keep a o n e
      rw [m.new a h z] at q; cases q
theorem TupAt.mono {K : PySem.W.Frag} {ι ι' : List Addr} {H H' : Hp} {a : Addr} {vs : List V} (l : Le ι H ι' H') (h : TupAt K ι H a vs) : TupAt K ι' H' a vs := by
  rcases h with ⟨⟨o, h, d⟩, n⟩ | h | ⟨h, n, q⟩
  · exact .inl ⟨⟨o, l.keep _ _ n h, d⟩, l.out n h⟩
  · exact .inr (.inl h)
  · exact .inr (.inr ⟨l.keep _ _ n h, l.out n h, q⟩)
theorem LstAt.mono {ι ι' : List Addr} {H H' : Hp} {a : Addr} {vs : List V} (l : Le ι H ι' H') (h : LstAt ι H a vs) : LstAt ι' H' a vs := ⟨l.keep _ _ h.2 h.1, l.out h.2 h.1⟩
theorem FlAt.mono {K : PySem.W.Frag} {ι ι' : List Addr} {H H' : Hp} {a : Addr} {vs : List V} (l : Le ι H ι' H') (h : FlAt K ι H a vs) : FlAt K ι' H' a vs := by
  rcases h with ⟨⟨o, h⟩, n⟩ | h
  · exact .inl ⟨⟨o, l.keep _ _ n h⟩, l.out n h⟩
  · exact .inr h
mutual
theorem VR.mono {K : PySem.W.Frag} {ι ι' : List Addr} {H H' : Hp} (l : Le ι H ι' H') : ∀ {v : V} {d : D}, VR K ι H v d → VR K ι' H' v d
  | _, _, .non => .non
  | _, _, .bl b => .bl b
  | _, _, .int i => .int i
  | _, _, .str x => .str x
  | _, _, .tup h r => .tup (h.mono l) (VRs.mono l r)
  | _, _, .lst h r => .lst (h.mono l) (VRs.mono l r)
  | _, _, .fl h r => .fl (h.mono l) (VRs.mono l r)
  | _, _, .ref h => .ref (l.pre _ _ h)
theorem VRs.mono {K : PySem.W.Frag} {ι ι' : List Addr} {H H' : Hp} (l : Le ι H ι' H') : ∀ {vs : List V} {ds : List D}, VRs K ι H vs ds → VRs K ι' H' vs ds
  | _, _, .nil => .nil
  | _, _, .cons h r => .cons (VR.mono l h) (VRs.mono l r)
end
section
variable {K : PySem.W.Frag} {ι : List Addr} {H : Hp}
theorem VRs.length : ∀ {vs : List V} {ds : List D}, VRs K ι H vs ds → vs.length = ds.length
  | _, _, .nil => rfl
  | _, _, .cons _ r => by rw [List.length_cons, List.length_cons, VRs.length r]
theorem VRs.get : ∀ {vs : List V} {ds : List D} {i : Nat} {d : D}, VRs K ι H vs ds → ds[i]? = some d → ∃ v, vs[i]? = some v ∧ VR K ι H v d
  | _, _, _, _, .nil, e => by simp at e
  | _, _, 0, _, .cons h _, e => by simp at e; subst e; exact ⟨_, rfl, h⟩
  | _, _, i + 1, d, .cons _ t, e => by
    obtain ⟨u, h1, h2⟩ := VRs.get (i := i) (d := d) t (by simpa using e)
    exact ⟨u, by simpa using h1, h2⟩
theorem VRs.get' : ∀ {vs : List V} {ds : List D} {i : Nat} {v : V}, VRs K ι H vs ds → vs[i]? = some v → ∃ d, ds[i]? = some d ∧ VR K ι H v d
  | _, _, _, _, .nil, e => by simp at e
  | _, _, 0, _, .cons h _, e => by simp at e; subst e; exact ⟨_, rfl, h⟩
  | _, _, i + 1, d, .cons _ t, e => by
    obtain ⟨u, h1, h2⟩ := VRs.get' (i := i) (v := d) t (by simpa using e)
    exact ⟨u, by simpa using h1, h2⟩
theorem VRs.set {v : V} {d : D} (h : VR K ι H v d) : ∀ {vs : List V} {ds : List D} (i : Nat), VRs K ι H vs ds → VRs K ι H (vs.set i v) (ds.set i d)
  | _, _, _, .nil => .nil
  | _, _, 0, .cons _ t => .cons h t
  | _, _, i + 1, .cons q t => .cons q (VRs.set h i t)
theorem VRs.append : ∀ {vs ws : List V} {ds es : List D}, VRs K ι H vs ds → VRs K ι H ws es → VRs K ι H (vs ++ ws) (ds ++ es)
  | _, _, _, _, .nil, s => s
  | _, _, _, _, .cons r t, s => .cons r (VRs.append t s)
theorem VRs.take : ∀ {vs : List V} {ds : List D} (n : Nat), VRs K ι H vs ds → VRs K ι H (vs.take n) (ds.take n)
  | _, _, 0, _ => .nil
  | _, _, _ + 1, .nil => .nil
  | _, _, n + 1, .cons r t => .cons r (VRs.take n t)
theorem VRs.drop : ∀ {vs : List V} {ds : List D} (n : Nat), VRs K ι H vs ds → VRs K ι H (vs.drop n) (ds.drop n)
  | _, _, 0, r => r
  | _, _, _ + 1, .nil => .nil
  | _, _, n + 1, .cons _ t => VRs.drop n t
end
def OR (K : PySem.W.Frag) (ι : List Addr) (H : Hp) (a : Addr) : Ob → Prop
  | .lst ds => ∃ vs, H a = some (.lst vs) ∧ VRs K ι H vs ds
  | .obj C fs => ∃ dx gs, H a = some (.ins (He.ga K C) dx gs) ∧ gs.map (·.1) = fs.map (·.1) ∧ VRs K ι H (gs.map (·.2)) (fs.map (·.2)) ∧ Cls K (He.ga K C) ∧ ∀ f ∈ fs.map (·.1), NoAttr K (He.ga K C) f
  | .dct kvs => ∃ qs, H a = some (.dK qs) ∧ qs.map (·.1) = kvs.map (·.1) ∧ VRs K ι H (qs.map (·.2)) (kvs.map (·.2))
  | .dcl kvs => ∃ o qs, H a = some (.frz o (.dK qs)) ∧ qs.map (·.1) = kvs.map (·.1) ∧ VRs K ι H (qs.map (·.2)) (kvs.map (·.2))
  | .dtt kvs => ∃ qs, H a = some (.dT qs) ∧ qs.map (·.1) = kvs.map (·.1) ∧ VRs K ι H (qs.map (·.2)) (kvs.map (·.2))
theorem OR.mkL {K : PySem.W.Frag} {ι : List Addr} {H : Hp} {a : Addr} {vs : List V} {ds : List D} (h : H a = some (.lst vs)) (r : VRs K ι H vs ds) : OR K ι H a (.lst ds) := ⟨vs, h, r⟩
structure WF (K : PySem.W.Frag) (ι : List Addr) (μ : Store) (H : Hp) : Prop where
  len : ι.length = μ.length
  nd : ι.Nodup
  ob : ∀ (i : Nat) a o, ι[i]? = some a → μ[i]? = some o → OR K ι H a o
theorem OR.has {K : PySem.W.Frag} {ι : List Addr} {H : Hp} {a : Addr} {o : Ob} (h : OR K ι H a o) : ∃ u, H a = some u := by
  cases o with
  | lst ds => obtain ⟨vs, e, _⟩ := h; exact ⟨_, e⟩
  | obj C fs => obtain ⟨dx, gs, e, _⟩ := h; exact ⟨_, e⟩
  | dct kvs => obtain ⟨qs, e, _⟩ := h; exact ⟨_, e⟩
  | dcl kvs => obtain ⟨o, qs, e, _⟩ := h; exact ⟨_, e⟩
  | dtt kvs => obtain ⟨qs, e, _⟩ := h; exact ⟨_, e⟩
theorem WF.has {K : PySem.W.Frag} {ι : List Addr} {μ : Store} {H : Hp} (w : WF K ι μ H) {i : Nat} {a : Addr} (h : ι[i]? = some a) : ∃ o, μ[i]? = some o ∧ OR K ι H a o := by
  have hl : i < μ.length := by rw [← w.len]; exact (List.getElem?_eq_some_iff.mp h).1
  exact ⟨_, List.getElem?_eq_getElem hl, w.ob i a _ h (List.getElem?_eq_getElem hl)⟩
theorem WF.at {K : PySem.W.Frag} {ι : List Addr} {μ : Store} {H : Hp} (w : WF K ι μ H) {i : Nat} {o : Ob} (h : μ[i]? = some o) : ∃ a, ι[i]? = some a ∧ OR K ι H a o := by
  have hl : i < ι.length := by rw [w.len]; exact (List.getElem?_eq_some_iff.mp h).1
  exact ⟨_, List.getElem?_eq_getElem hl, w.ob i _ o (List.getElem?_eq_getElem hl) h⟩
theorem WF.out {K : PySem.W.Frag} {ι : List Addr} {μ : Store} {H : Hp} (w : WF K ι μ H) {p : Addr} (h : H p = none) : p ∉ ι := fun m => by
  obtain ⟨i, hi⟩ := List.getElem?_of_mem m
  obtain ⟨o, _, q⟩ := w.has hi
  obtain ⟨u, e⟩ := q.has
  rw [h] at e; cases e
theorem OR.mono {K : PySem.W.Frag} {ι ι' : List Addr} {H H' : Hp} {a : Addr} {o : Ob} (l : Le ι H ι' H') (e : H' a = H a) (h : OR K ι H a o) : OR K ι' H' a o := by
  cases o with
  | lst ds => obtain ⟨vs, q, r⟩ := h; exact ⟨vs, e.trans q, r.mono l⟩
  | obj C fs => obtain ⟨dx, gs, q, k, r, z⟩ := h; exact ⟨dx, gs, e.trans q, k, r.mono l, z⟩
  | dct kvs => obtain ⟨qs, q, k, r⟩ := h; exact ⟨qs, e.trans q, k, r.mono l⟩
  | dcl kvs => obtain ⟨o, qs, q, k, r⟩ := h; exact ⟨o, qs, e.trans q, k, r.mono l⟩
  | dtt kvs => obtain ⟨qs, q, k, r⟩ := h; exact ⟨qs, e.trans q, k, r.mono l⟩
/-- a new thing at p that is no cell -/
theorem Le.laid {ι : List Addr} {H : Hp} {p : Addr} {o : HO} (h : H p = none) : Le ι H ι (upd H p o) :=
  ⟨fun _ _ h => h, fun _ h n => absurd h n, fun a o _ e => by rw [upd_ne (ne_of_none e h)]; exact e, fun a o u e => by rw [upd_ne (ne_of_none e h)]; exact e⟩
theorem WF.laid {K : PySem.W.Frag} {ι : List Addr} {μ : Store} {H : Hp} {p : Addr} {o : HO} (w : WF K ι μ H) (h : H p = none) : WF K ι μ (upd H p o) :=
  ⟨w.len, w.nd, fun i a u hi hu => (w.ob i a u hi hu).mono (Le.laid h) (upd_ne (fun e => w.out h (by rw [← e]; exact List.mem_of_getElem? hi)))⟩
/-- a new cell at p -/
theorem Le.cell {ι : List Addr} {H : Hp} {p : Addr} {o : HO} (h : H p = none) : Le ι H (ι ++ [p]) (upd H p o) := by
  refine ⟨fun i a e => ?_, fun a m n => ?_, fun a o _ e => by rw [upd_ne (ne_of_none e h)]; exact e, fun a o u e => by rw [upd_ne (ne_of_none e h)]; exact e⟩
  · rw [List.getElem?_append_left (List.getElem?_eq_some_iff.mp e).1]; exact e
  · rcases List.mem_append.mp m with z | z
    · exact absurd z n
    · rw [List.mem_singleton.mp z]; exact h
theorem WF.cell {K : PySem.W.Frag} {ι : List Addr} {μ : Store} {H : Hp} {p : Addr} {o : HO} {u : Ob} (w : WF K ι μ H) (h : H p = none) (q : OR K (ι ++ [p]) (upd H p o) p u) : WF K (ι ++ [p]) (μ ++ [u]) (upd H p o) := by
  have np := w.out h
  refine ⟨by simp [w.len], ?_, fun i a v hi hv => ?_⟩
  · rw [List.nodup_append]
    exact ⟨w.nd, by simp, fun a ha b hb e => np (by rw [List.mem_singleton.mp hb] at e; rw [← e]; exact ha)⟩
  · by_cases hl : i < ι.length
    · rw [List.getElem?_append_left hl] at hi
      rw [List.getElem?_append_left (by rw [← w.len]; exact hl)] at hv
      exact (w.ob i a v hi hv).mono (Le.cell h) (upd_ne (fun e => np (by rw [← e]; exact List.mem_of_getElem? hi)))
    · have e : i = ι.length := by
        have := (List.getElem?_eq_some_iff.mp hi).1
        simp at this; omega
      subst e
      have hi' : a = p := by simpa using hi.symm
      rw [w.len] at hv
      have hv' : v = u := by simpa using hv.symm
      subst hi'; subst hv'
      exact q
/-- a cell's content changed -/
def noFrz : HO → Bool
  | .frz _ _ => false
  | _ => true
def NF (H : Hp) (a : Addr) : Prop := ∀ o u, H a ≠ some (.frz o u)
theorem nf {H : Hp} {a : Addr} {u : HO} (e : H a = some u) (h : noFrz u = true := by rfl) : NF H a := fun o v z => by
  rw [e] at z; cases z; cases h
theorem Le.set {ι : List Addr} {H : Hp} {i : Nat} {a : Addr} {o : HO} (hi : ι[i]? = some a) (hn : NF H a) : Le ι H ι (upd H a o) := by
  refine ⟨fun _ _ h => h, fun _ h n => absurd h n, fun b u n e => ?_, fun b o' u' e => by rw [upd_ne (fun z => hn o' u' (by rw [← z]; exact e))]; exact e⟩
  have z : b ≠ a := fun z => n (by rw [z]; exact List.mem_of_getElem? hi)
  rw [upd_ne z]
  exact e
theorem WF.set {K : PySem.W.Frag} {ι : List Addr} {μ : Store} {H : Hp} {i : Nat} {a : Addr} {o : HO} {u : Ob} (w : WF K ι μ H) (hi : ι[i]? = some a) (hn : NF H a) (q : OR K ι (upd H a o) a u) : WF K ι (μ.set i u) (upd H a o) := by
  refine ⟨by simp [w.len], w.nd, fun j b v hj hv => ?_⟩
  by_cases e : i = j
  · subst e
    rw [hi] at hj
    cases hj
    have hl : i < μ.length := by rw [← w.len]; exact (List.getElem?_eq_some_iff.mp hi).1
    rw [List.getElem?_set_self hl] at hv
    cases hv
    exact q
  · rw [List.getElem?_set_ne e] at hv
    refine (w.ob j b v hj hv).mono (Le.set hi hn) (upd_ne fun z => ?_)
    subst z
    have h1 := List.getElem?_eq_some_iff.mp hi
    have h2 := List.getElem?_eq_some_iff.mp hj
    exact e ((List.getElem_inj w.nd).mp (h1.2.trans h2.2.symm))
structure SR (K : PySem.W.Frag) (ι : List Addr) (H : Hp) (σ : L2.St) (ρ : Rho) : Prop where
  len : σ.length = ρ.length
  at' : ∀ (i : Nat) (d : D), ρ[i]? = some (some d) → ∃ v, σ[i]? = some (some v) ∧ VR K ι H v d
theorem SR.mono {K : PySem.W.Frag} {ι ι' : List Addr} {H H' : Hp} {σ : L2.St} {ρ : Rho} (l : Le ι H ι' H') (s : SR K ι H σ ρ) : SR K ι' H' σ ρ :=
  ⟨s.len, fun i d h => let ⟨v, a, b⟩ := s.at' i d h; ⟨v, a, b.mono l⟩⟩
theorem SR.set {K : PySem.W.Frag} {ι : List Addr} {H : Hp} {σ : L2.St} {ρ : Rho} {v : V} {d : D} (s : SR K ι H σ ρ) (i : Nat) (h : VR K ι H v d) : SR K ι H (σ.set i (some v)) (ρ.set i (some d)) := by
  refine ⟨by simp [s.len], fun j e hj => ?_⟩
  by_cases z : i = j
  · subst z
    have hl : i < (ρ.set i (some d)).length := (List.getElem?_eq_some_iff.mp hj).1
    rw [List.length_set] at hl
    rw [List.getElem?_set_self hl] at hj
    cases hj
    exact ⟨v, List.getElem?_set_self (by rw [s.len]; exact hl), h⟩
  · rw [List.getElem?_set_ne z] at hj
    obtain ⟨w, a, b⟩ := s.at' j e hj
    exact ⟨w, by rw [List.getElem?_set_ne z]; exact a, b⟩
end DM

namespace DM
open PySem PySem.Spec L2

abbrev Res (α : Type) := Option (Except Ex α × Store)
abbrev CM (α : Type) := Rho → Store → Res α
/-- what is wanted of an exception: the exception, the cells, the slots, the heap -/
abbrev DW := Ex → List Addr → L2.St → Hp → Prop
abbrev noX : DW := fun _ _ _ _ => False
def CM.bind {α β : Type} (A : CM α) (F : α → CM β) : CM β := fun ρ μ => match A ρ μ with
  | some (.ok a, μ1) => F a ρ μ1
  | some (.error x, μ1) => some (.error x, μ1)
  | none => none
def CM.ret {α : Type} (a : α) : CM α := fun _ μ => some (.ok a, μ)
section
variable {α β γ δ : Type}
def PostG (R : List Addr → Hp → β → α → Prop) (K : PySem.W.Frag) (W : DW) (σ : L2.St) (ι : List Addr) (H : Hp) (Q : β → Hp → Prop) : Res α → Prop
  | some (.ok d, μ') => ∀ ι' H' v, Le ι H ι' H' → WF K ι' μ' H' → R ι' H' v d → Q v H'
  | some (.error x, μ') => ∀ ι' H', Le ι H ι' H' → WF K ι' μ' H' → W x ι' σ H'
  | none => False
def tG (R : List Addr → Hp → β → α → Prop) (K : PySem.W.Frag) (W : DW) (E : CM α) : L2.St → Hp → (β → Hp → Prop) → Prop := fun σ H Q =>
  ∃ ρ ι μ, SR K ι H σ ρ ∧ WF K ι μ H ∧ PostG R K W σ ι H Q (E ρ μ)
variable {R : List Addr → Hp → β → α → Prop} {R2 : List Addr → Hp → δ → γ → Prop} {K : PySem.W.Frag} {W : DW} {σ : L2.St} {ι : List Addr} {H : Hp} {Q Q' : β → Hp → Prop} {Q2 : δ → Hp → Prop} {ρ : Rho} {μ : Store}
theorem PostG.mono {r : Res α} (h : PostG R K W σ ι H Q r) (q : ∀ v H', Q v H' → Q' v H') : PostG R K W σ ι H Q' r := by
  match r, h with
  | some (.ok d, μ'), h => exact fun ι' H' v a b c => q _ _ (h ι' H' v a b c)
  | some (.error x, μ'), h => exact h
theorem PostG.from {r : Res α} {ι0 : List Addr} {H0 : Hp} (l : Le ι0 H0 ι H) (h : PostG R K W σ ι0 H0 Q r) : PostG R K W σ ι H Q r := by
  match r, h with
  | some (.ok d, μ'), h => exact fun ι' H' v a b c => h ι' H' v (l.trans a) b c
  | some (.error x, μ'), h => exact fun ι' H' a b => h ι' H' (l.trans a) b
theorem tG.mono {E : CM α} (h : tG R K W E σ H Q) (q : ∀ v H', Q v H' → Q' v H') : tG R K W E σ H Q' := by
  obtain ⟨ρ, ι, μ, a, b, c⟩ := h
  exact ⟨ρ, ι, μ, a, b, c.mono q⟩
theorem PostG.bindP {A : CM α} {F : α → CM γ} (h : PostG R2 K W σ ι H Q2 ((A.bind F) ρ μ)) :
    PostG R K W σ ι H (fun x H1 => ∃ ι1 μ1 a, Le ι H ι1 H1 ∧ WF K ι1 μ1 H1 ∧ R ι1 H1 x a ∧ PostG R2 K W σ ι1 H1 Q2 (F a ρ μ1)) (A ρ μ) := by
  unfold CM.bind at h
  match A ρ μ, h with
  | some (.ok a, μ1), h => exact fun ι' H' v l w r => ⟨ι', μ1, a, l, w, r, PostG.from l h⟩
  | some (.error x, μ1), h => exact h
theorem PostG.bind {A : CM α} {F : α → CM γ} (sr : SR K ι H σ ρ) (wf : WF K ι μ H) (h : PostG R2 K W σ ι H Q2 ((A.bind F) ρ μ)) :
    tG R K W A σ H (fun x H1 => ∃ ι1 μ1 a, Le ι H ι1 H1 ∧ WF K ι1 μ1 H1 ∧ R ι1 H1 x a ∧ PostG R2 K W σ ι1 H1 Q2 (F a ρ μ1)) := ⟨ρ, ι, μ, sr, wf, h.bindP⟩
/-- what the world answers -/
theorem PostG.ok {d : α} {v : β} {μ' : Store} {ι' : List Addr} {H' : Hp} (h : PostG R K W σ ι H Q (some (.ok d, μ'))) (l : Le ι H ι' H') (w : WF K ι' μ' H') (r : R ι' H' v d) : Q v H' := h ι' H' v l w r
theorem PostG.ok0 {d : α} {v : β} (h : PostG R K W σ ι H Q (some (.ok d, μ))) (w : WF K ι μ H) (r : R ι H v d) : Q v H := h ι H v (Le.refl _ _) w r
end
abbrev eR (K : PySem.W.Frag) := VR K
abbrev aR (K : PySem.W.Frag) := VRs K
abbrev bR : List Addr → Hp → Bool → Bool → Prop := fun _ _ a b => a = b
abbrev tE (K : PySem.W.Frag) (W : DW) (E : CM D) : TE := tG (VR K) K W E
abbrev tA (K : PySem.W.Frag) (W : DW) (E : CM (List D)) : TA := tG (VRs K) K W E
abbrev tT (K : PySem.W.Frag) (W : DW) (E : CM Bool) : TT := tG bR K W E
/-! ### weaker readings -/
end DM
namespace L2
open PySem PySem.Spec
section
variable {X : Cx}
theorem PE.imp {e : Expr} {t t' : TE} (h : PE X e t) (q : ∀ σ H Q, t' σ H Q → t σ H Q) : PE X e t' := ⟨fun pins s σ H Q I z => h.run pins s σ H Q I (q _ _ _ z)⟩
theorem PT.imp {e : Expr} {t t' : TT} (h : PT X e t) (q : ∀ σ H Q, t' σ H Q → t σ H Q) : PT X e t' := ⟨fun pins s σ H Q I z => h.run pins s σ H Q I (q _ _ _ z)⟩
theorem PW.imp {e : Expr} {t t' : TT} (h : PW X e t) (q : ∀ σ H Q, t' σ H Q → t σ H Q) : PW X e t' := ⟨fun w pins s σ H Q I z => h.run w pins s σ H Q I (q _ _ _ z)⟩
theorem PA.imp {e : List Expr} {t t' : TA} (h : PA X e t) (q : ∀ σ H Q, t' σ H Q → t σ H Q) : PA X e t' := ⟨fun p pins s σ H Q I z => h.run p pins s σ H Q I (q _ _ _ z)⟩
theorem PS.imp {e : Stmt} {t t' : TS} (h : PS X e t) (q : ∀ D σ H, t' D σ H → t D σ H) : PS X e t' := ⟨fun pins s σ H D I z => h.run pins s σ H D I (q _ _ _ z)⟩
theorem PSs.imp {e : List Stmt} {t t' : TS} (h : PSs X e t) (q : ∀ D σ H, t' D σ H → t D σ H) : PSs X e t' := ⟨fun pins s σ H D I z => h.run pins s σ H D I (q _ _ _ z)⟩
theorem PI.imp {tg e : Expr} {t t' : TI} (h : PI X tg e t) (q : ∀ σ H R, t' σ H R → t σ H R) : PI X tg e t' := ⟨fun pins s σ H R I z => h.run pins s σ H R I (q _ _ _ z)⟩
end
end L2
namespace DM
open PySem PySem.Spec L2
/-! ### names, constants -/
def eVar (i : Nat) : CM D := fun ρ μ => match ρ[i]? with
  | some (some d) => some (.ok d, μ)
  | _ => none
abbrev eC (d : D) : CM D := CM.ret d
section
variable {X : Cx} {W : DW}
theorem d_pv (i : Nat) {x : Str} {pos : Pos} (h : PE X (.Name x pos) (tVar i)) : PE X (.Name x pos) (tE X.K W (eVar i)) := h.imp fun σ H Q ⟨ρ, ι, μ, sr, wf, h⟩ => by
  unfold eVar at h
  match e : ρ[i]?, h with
  | some (some d), h =>
    obtain ⟨v, a, b⟩ := sr.at' i d e
    exact ⟨v, a, h.ok0 wf b⟩
theorem d_const {e : Expr} {v : V} {d : D} (h : PE X e (tC v)) (r : ∀ ι H, VR X.K ι H v d) : PE X e (tE X.K W (eC d)) := h.imp fun σ H Q ⟨ρ, ι, μ, sr, wf, h⟩ => PostG.ok0 h wf (r ι H)
theorem d_int {i : Int} {j : Nat} {pos : Pos} : PE X (.Constant (.int i) j pos) (tE X.K W (eC (.int i))) := d_const pe_int fun _ _ => .int i
theorem d_str {x : Str} {j : Nat} {pos : Pos} : PE X (.Constant (.str x) j pos) (tE X.K W (eC (.str x))) := d_const pe_str fun _ _ => .str x
theorem d_bl {b : Bool} {j : Nat} {pos : Pos} : PE X (.Constant (.bool b) j pos) (tE X.K W (eC (.bl b))) := d_const pe_bl fun _ _ => .bl b
theorem d_non {j : Nat} {pos : Pos} : PE X (.Constant .none j pos) (tE X.K W (eC .non)) := d_const pe_non fun _ _ => .non
end
/-! ### operators -/
def pureR (o : Option D) (μ : Store) : Res D := match o with
  | some d => some (.ok d, μ)
  | none => none
def e1 (F : D → Store → Res D) (A : CM D) : CM D := A.bind fun d _ μ => F d μ
def e2 (F : D → D → Store → Res D) (A B : CM D) : CM D := A.bind fun d => B.bind fun e _ μ => F d e μ
def Lift1 (K : PySem.W.Frag) (r : V → Hp → VK → Prop) (F : D → Store → Res D) : Prop := ∀ (W : DW) σ ι μ H x d Q, WF K ι μ H → VR K ι H x d → PostG (VR K) K W σ ι H Q (F d μ) → r x H Q
def Lift2 (K : PySem.W.Frag) (r : L2.R2) (F : D → D → Store → Res D) : Prop := ∀ (W : DW) σ ι μ H x y d e Q, WF K ι μ H → VR K ι H x d → VR K ι H y e → PostG (VR K) K W σ ι H Q (F d e μ) → r x y H Q
section
variable {X : Cx} {W : DW} {a b c : Expr} {A B C : CM D} {pos : Pos}
theorem d_bin {t : L2.R2 } {F : D → D → Store → Res D} (hF : Lift2 X.K t F) (σ : L2.St) (H : Hp) (Q : VK) (h : tE X.K W (e2 F A B) σ H Q) : tOp t (tE X.K W A) (tE X.K W B) σ H Q := by
  obtain ⟨ρ, ι, μ, sr, wf, h⟩ := h
  refine tG.mono (PostG.bind sr wf h) ?_
  rintro x H1 ⟨ι1, μ1, d, l1, w1, vx, h1⟩
  refine tG.mono (PostG.bind (sr.mono l1) w1 h1) ?_
  rintro y H2 ⟨ι2, μ2, e, l2, w2, vy, h2⟩
  exact hF W σ ι2 μ2 H2 x y d e Q w2 (vx.mono l2) vy h2
theorem d_op {op : Operator} {r : L2.R2} {F : D → D → Store → Res D} (ho : OpR X (binaryOp op) r) (hF : Lift2 X.K r F) (ha : PE X a (tE X.K W A)) (hb : PE X b (tE X.K W B)) : PE X (.BinOp a op b pos) (tE X.K W (e2 F A B)) :=
  (pe_op ho ha hb).imp (d_bin hF)
theorem d_cmp {op : CmpOp} {r : L2.R2} {F : D → D → Store → Res D} (ho : OpR X (compareOp op) r) (hF : Lift2 X.K r F) (ha : PE X a (tE X.K W A)) (hb : PE X b (tE X.K W B)) (hm : behindInMarks op b = false) : PE X (.Compare a [op] [b] pos) (tE X.K W (e2 F A B)) :=
  (pe_cmpR ho ha hb hm).imp (d_bin hF)
/-- a value that is a bool, as a test -/
def bOf (E : CM D) : CM Bool := E.bind fun d _ μ => match d with
  | .bl b => some (.ok b, μ)
  | _ => none
theorem d_bOf {Qb : Bool → Hp → Prop} {E : CM D} (σ : L2.St) (H : Hp) (h : tT X.K W (bOf E) σ H Qb) : tE X.K W E σ H (fun x H' => ∃ k, x = .bl k ∧ Qb k H') := by
  obtain ⟨ρ, ι, μ, sr, wf, h⟩ := h
  refine tG.mono (PostG.bind sr wf h) ?_
  rintro x H1 ⟨ι1, μ1, d, l1, w1, vx, h1⟩
  cases vx with
  | bl b => exact ⟨b, rfl, h1.ok0 w1 rfl⟩
  | _ => exact h1.elim
theorem dt_cmp {op : CmpOp} {r : L2.R2} {F : D → D → Store → Res D} (ho : OpR X (compareOp op) r) (hF : Lift2 X.K r F) (ha : PE X a (tE X.K W A)) (hb : PE X b (tE X.K W B)) (hm : behindInMarks op b = false) : PT X (.Compare a [op] [b] pos) (tT X.K W (bOf (e2 F A B))) :=
  (pt_cmpR ho ha hb hm).imp fun σ H Q h => d_bin hF σ H _ (d_bOf σ H h)
theorem d_un {op : UnaryOp} {r : V → Hp → VK → Prop} {F : D → Store → Res D} (ho : UnR X (unaryOp op) r) (hF : Lift1 X.K r F) (ha : PE X a (tE X.K W A)) : PE X (.UnaryOp op a pos) (tE X.K W (e1 F A)) :=
  (pe_un ho ha).imp fun σ H Q ⟨ρ, ι, μ, sr, wf, h⟩ => by
    refine tG.mono (PostG.bind sr wf h) ?_
    rintro x H1 ⟨ι1, μ1, d, l1, w1, vx, h1⟩
    exact hF W σ ι1 μ1 H1 x d Q w1 vx h1
/-- a < b < c -/
def eChain (F G : D → D → Store → Res D) (A B C : CM D) : CM D := A.bind fun d => B.bind fun e => CM.bind (fun _ μ => F d e μ) fun z => match z with
  | .bl true => C.bind fun g _ μ => G e g μ
  | .bl false => CM.ret (.bl false)
  | _ => fun _ _ => none
end
section
variable {X : Cx} {W : DW} {a b c : Expr} {A B C : CM D} {pos : Pos}
theorem d_chainAux {r r' : L2.R2} {F G : D → D → Store → Res D} (hF : Lift2 X.K r F) (hG : Lift2 X.K r' G) (σ : L2.St) (H : Hp) (Q : VK) (h : tE X.K W (eChain F G A B C) σ H Q) : tChain r r' (tE X.K W A) (tE X.K W B) (tE X.K W C) σ H Q := by
  obtain ⟨ρ, ι, μ, sr, wf, h⟩ := h
  refine tG.mono (PostG.bind sr wf h) ?_
  rintro x H1 ⟨ι1, μ1, d, l1, w1, vx, h1⟩
  refine tG.mono (PostG.bind (sr.mono l1) w1 h1) ?_
  rintro y H2 ⟨ι2, μ2, e, l2, w2, vy, h2⟩
  have sr2 := sr.mono (l1.trans l2)
  refine hF W σ ι2 μ2 H2 x y d e _ w2 (vx.mono l2) vy (PostG.mono (PostG.bindP (A := fun _ μ => F d e μ) (R := VR X.K) h2) ?_)
  rintro z H3 ⟨ι3, μ3, g, l3, w3, vz, h3⟩
  cases vz with
  | bl k =>
    refine ⟨k, rfl, ?_⟩
    cases k with
    | true =>
      rw [if_pos rfl]
      refine tG.mono (PostG.bind (sr2.mono l3) w3 h3) ?_
      rintro y' H4 ⟨ι4, μ4, g, l4, w4, vg, h4⟩
      exact hG W σ ι4 μ4 H4 y y' e g Q w4 (vy.mono (l3.trans l4)) vg h4
    | false =>
      rw [if_neg Bool.false_ne_true]
      exact PostG.ok0 h3 w3 (.bl false)
  | _ => exact h3.elim
theorem d_chain {op op' : CmpOp} {r r' : L2.R2} {F G : D → D → Store → Res D} (ho : OpR X (compareOp op) r) (ho' : OpR X (compareOp op') r') (hF : Lift2 X.K r F) (hG : Lift2 X.K r' G)
    (ha : PE X a (tE X.K W A)) (hb : PE X b (tE X.K W B)) (hc : PE X c (tE X.K W C)) (hm : lastMarks [op, op'] [b, c] = false := by with_unfolding_all rfl) : PE X (.Compare a [op, op'] [b, c] pos) (tE X.K W (eChain F G A B C)) :=
  (pe_chain ho ho' ha hb hc hm).imp (d_chainAux hF hG)
theorem dt_chain {op op' : CmpOp} {r r' : L2.R2} {F G : D → D → Store → Res D} (ho : OpR X (compareOp op) r) (ho' : OpR X (compareOp op') r') (hF : Lift2 X.K r F) (hG : Lift2 X.K r' G)
    (ha : PE X a (tE X.K W A)) (hb : PE X b (tE X.K W B)) (hc : PE X c (tE X.K W C)) (hm : lastMarks [op, op'] [b, c] = false := by with_unfolding_all rfl) : PT X (.Compare a [op, op'] [b, c] pos) (tT X.K W (bOf (eChain F G A B C))) :=
  (pt_chain ho ho' ha hb hc hm).imp fun σ H Q h => d_chainAux hF hG σ H _ (d_bOf σ H h)
end
end DM

namespace DM
open PySem PySem.Spec L2
abbrev okR (d : D) (μ : Store) : Res D := some (.ok d, μ)
theorem PostG.guard {α β : Type} {R : List Addr → Hp → β → α → Prop} {K : PySem.W.Frag} {W : DW} {σ : L2.St} {ι : List Addr} {H : Hp} {Q : β → Hp → Prop} {c : Prop} [Decidable c] {r : Res α} (h : PostG R K W σ ι H Q (if c then r else none)) : c ∧ PostG R K W σ ι H Q r := by
  by_cases z : c
  · rw [if_pos z] at h; exact ⟨z, h⟩
  · rw [if_neg z] at h; exact h.elim
/-! ### arithmetic -/
def mulOk (i j : Int) : Prop := (-(2 ^ 64) < i ∧ i < 2 ^ 64) ∨ (-(2 ^ 64) < j ∧ j < 2 ^ 64) ∨ i.natAbs.log2 + j.natAbs.log2 < 1000000
instance (i j : Int) : Decidable (mulOk i j) := by unfold mulOk; infer_instance
def divOk (j : Int) : Prop := 0 < j ∧ j < 2 ^ 256
instance (j : Int) : Decidable (divOk j) := by unfold divOk; infer_instance
def powOk (i j : Int) : Prop := 0 ≤ j ∧ j ≤ 1000 ∧ -(2 ^ 256) < i ∧ i < 2 ^ 256
instance (i j : Int) : Decidable (powOk i j) := by unfold powOk; infer_instance
def Fadd : D → D → Store → Res D
  | .int i, .int j, μ => okR (.int (i + j)) μ
  | .str a, .str b, μ => if a.length + b.length ≤ sizeLine then okR (.str (a ++ b)) μ else none
  | .lst a, .lst b, μ => if a.length + b.length ≤ sizeLine then okR (.lst (a ++ b)) μ else none
  | .tup a, .tup b, μ => if a.length + b.length ≤ sizeLine then okR (.tup (a ++ b)) μ else none
  | _, _, _ => none
def Fsub : D → D → Store → Res D
  | .int i, .int j, μ => okR (.int (i - j)) μ
  | _, _, _ => none
def Fmul : D → D → Store → Res D
  | .int i, .int j, μ => if mulOk i j then okR (.int (i * j)) μ else none
  | .lst a, .int k, μ => if (-(2 ^ 63) ≤ k ∧ k < 2 ^ 63) ∧ a.length * k.toNat ≤ sizeLine then okR (.lst (List.replicate k.toNat a).flatten) μ else none
  | _, _, _ => none
def Fdiv : D → D → Store → Res D
  | .int i, .int j, μ => if divOk j then okR (.int (i / j)) μ else none
  | _, _, _ => none
def Fmod : D → D → Store → Res D
  | .int i, .int j, μ => if 0 < j then okR (.int (i % j)) μ else none
  | _, _, _ => none
def Fpow : D → D → Store → Res D
  | .int i, .int j, μ => if powOk i j then okR (.int (i ^ j.toNat)) μ else none
  | _, _, _ => none
def Fneg : D → Store → Res D
  | .int i, μ => okR (.int (-i)) μ
  | _, _ => none
/-- t + u of tuples, the new one's object known -/
def rCatF (K : PySem.W.Frag) : L2.R2 := fun x y H Q => ∃ a b xs ys, x = .ref a ∧ y = .ref b ∧ SqT K H a xs ∧ SqT K H b ys ∧ xs.length + ys.length ≤ sizeLine ∧
  (xs = [] → Q (.ref b) H) ∧ (ys = [] → Q (.ref a) H) ∧ (xs ≠ [] → ys ≠ [] → ∀ p o, H p = none → o.dict = none → Q (.ref p) (upd H p (.frz o (.tup (xs ++ ys)))))
def rAddD (K : PySem.W.Frag) : L2.R2 := fun x y H Q => (rI0 fun i j => V.int (i + j)) x y H Q ∨ (∃ i j, x = .str i ∧ y = .str j ∧ i.length + j.length ≤ sizeLine ∧ Q (.str (i ++ j)) H) ∨ rCat x y H Q ∨ rCatF K x y H Q
section
variable {X : Cx} {K : PySem.W.Frag}
theorem op_catF : OpR X (binaryOp .Add) (rCatF X.K) := by
  intro pins s σ H x y v u Q I rx ry h
  obtain ⟨a, b, xs, ys, rfl, rfl, ha, hb, hz, q0, q1, q2⟩ := h
  cases rx
  cases ry
  obtain ⟨us, r1, p1, _⟩ := I.tuple ha
  obtain ⟨ws, r2, p2, _⟩ := I.tuple hb
  by_cases hx : xs = []
  · subst hx
    cases r1
    exact cat_tup0 p1 p2 ⟨.ref b, H, I, rfl, q0 rfl⟩
  · refine HT.cat_tup p1 p2 (fun z => hx (r1.nil_iff.mp z)) (fun z => ⟨.ref a, H, I, rfl, q1 (r2.nil_iff.mp z)⟩) (fun z => ?_) (by rw [← r1.length, ← r2.length]; exact hz)
    refine ⟨.ref s.heap.objs.size, upd H s.heap.objs.size (.frz _ (.tup (xs ++ ys))), I.laid (t' := s.toks) (fun b ob q => Heap.get?_push_of_some _ q) (Nat.le_refl _) ⟨Heap.get?_push_size _ rfl, by rw [List.length_append]; exact hz, _, r1.append r2, PyProof.Rows.IsTup.new _ _⟩, rfl, q2 hx (fun w => z (r2.nil_iff.mpr w)) _ _ (I.hok.fresh (Nat.le_refl _)) rfl⟩
theorem op_addD : OpR X (binaryOp .Add) (rAddD X.K) := op_add.or (op_add_str.or (op_cat.or op_catF))
theorem lift_add : Lift2 K (rAddD K) Fadd := by
  intro W σ ι μ H x y d e Q w vx vy h
  cases vx with
  | int i =>
    cases vy with
    | int j => exact .inl ⟨i, j, rfl, rfl, h.ok0 w (.int _)⟩
    | _ => exact h.elim
  | str a =>
    cases vy with
    | str b =>
      obtain ⟨q, h⟩ := PostG.guard h
      exact .inr (.inl ⟨a, b, rfl, rfl, q, h.ok0 w (.str _)⟩)
    | _ => exact h.elim
  | lst ha ra =>
    cases vy with
    | lst hb rb =>
      obtain ⟨q, h⟩ := PostG.guard h
      refine .inr (.inr (.inl ⟨_, _, _, _, rfl, rfl, ha.1, hb.1, by rw [ra.length, rb.length]; exact q, fun p hp => ?_⟩))
      exact h.ok (Le.laid hp) (w.laid hp) (.lst ⟨upd_same, w.out hp⟩ ((ra.append rb).mono (Le.laid hp)))
    | _ => exact h.elim
  | tup ha ra =>
    cases vy with
    | tup hb rb =>
      obtain ⟨q, h⟩ := PostG.guard h
      refine .inr (.inr (.inr ⟨_, _, _, _, rfl, rfl, ha.sq, hb.sq, by rw [ra.length, rb.length]; exact q, fun z => ?_, fun z => ?_, fun _ _ p o hp ho => ?_⟩))
      · subst z
        cases ra
        exact h.ok0 w (.tup hb rb)
      · subst z
        cases rb
        rw [List.append_nil] at h
        exact h.ok0 w (.tup ha ra)
      · exact h.ok (Le.laid hp) (w.laid hp) (.tup (.inl ⟨⟨o, upd_same, ho⟩, w.out hp⟩) ((ra.append rb).mono (Le.laid hp)))
    | _ => exact h.elim
  | _ => exact h.elim
theorem lift_i2 {C : Int → Int → Prop} [∀ i j, Decidable (C i j)] {C' : Int → Int → Prop} {g : Int → Int → Int} {F : D → D → Store → Res D} (hi : ∀ i j μ, F (.int i) (.int j) μ = if C i j then okR (.int (g i j)) μ else none) (hn : ∀ d e μ, (∀ i j, d = .int i → e = .int j → False) → F d e μ = none) (hc : ∀ i j, C i j → C' i j) :
    Lift2 K (rI C' fun i j => .int (g i j)) F := by
  intro W σ ι μ H x y d e Q w vx vy h
  by_cases z : ∃ i j, d = .int i ∧ e = .int j
  · obtain ⟨i, j, rfl, rfl⟩ := z
    cases vx; cases vy
    rw [hi] at h
    obtain ⟨q, h⟩ := PostG.guard h
    exact ⟨i, j, rfl, rfl, hc i j q, h.ok0 w (.int _)⟩
  · rw [hn d e μ (fun i j a b => z ⟨i, j, a, b⟩)] at h
    exact h.elim
theorem lift_sub : Lift2 K (rI0 fun i j => .int (i - j)) Fsub := by
  intro W σ ι μ H x y d e Q w vx vy h
  cases vx with
  | int i =>
    cases vy with
    | int j => exact ⟨i, j, rfl, rfl, h.ok0 w (.int _)⟩
    | _ => exact h.elim
  | _ => exact h.elim
def CMulD (i j : Int) : Prop := IntMulOk i j
theorem op_mulD : OpR X (binaryOp .Mult) (rI CMulD fun i j => .int (i * j)) := opI fun _ _ _ _ _ _ _ hc q => PyProof.Rows.mul_int q hc
theorem mulOk.ok {i j : Int} (h : mulOk i j) : CMulD i j := by
  rcases h with h | h | h
  · exact CMul.ok (.inl h)
  · exact CMul.ok (.inr h)
  · exact CMulW.ok h
def rMulD : L2.R2 := fun x y H Q => (rI CMulD fun i j => V.int (i * j)) x y H Q ∨ rRep x y H Q
theorem op_mulDD : OpR X (binaryOp .Mult) rMulD := op_mulD.or op_rep
theorem VRs.rep {ι : List Addr} {H : Hp} {vs : List V} {ds : List D} (r : VRs K ι H vs ds) : ∀ n : Nat, VRs K ι H (List.replicate n vs).flatten (List.replicate n ds).flatten
  | 0 => .nil
  | n + 1 => by
    rw [List.replicate_succ, List.replicate_succ, List.flatten_cons, List.flatten_cons]
    exact r.append (VRs.rep r n)
theorem lift_mul : Lift2 K rMulD Fmul := by
  intro W σ ι μ H x y d e Q w vx vy h
  cases vx with
  | int i =>
    cases vy with
    | int j =>
      obtain ⟨q, h⟩ := PostG.guard h
      exact .inl ⟨i, j, rfl, rfl, q.ok, h.ok0 w (.int _)⟩
    | _ => exact h.elim
  | lst ha ra =>
    cases vy with
    | int k =>
      obtain ⟨q, h⟩ := PostG.guard h
      refine .inr ⟨_, k, _, rfl, rfl, ha.1, q.1.1, q.1.2, by rw [ra.length]; exact q.2, fun p hp => ?_⟩
      exact h.ok (Le.laid hp) (w.laid hp) (.lst ⟨upd_same, w.out hp⟩ ((ra.rep _).mono (Le.laid hp)))
    | _ => exact h.elim
  | _ => exact h.elim
theorem lift_div : Lift2 K (rI CDivW fun i j => .int (i / j)) Fdiv :=
  lift_i2 (C := fun _ j => divOk j) (fun _ _ _ => rfl) (fun d e μ h => by cases d <;> cases e <;> first | rfl | exact (h _ _ rfl rfl).elim) fun i j h =>
    wide_div (b := 257) h.1 (by have h1 := h.1; have h2 := h.2; omega) (by decide) (by decide)
theorem lift_mod : Lift2 K (rI (fun _ j => 0 < j) fun i j => .int (i % j)) Fmod :=
  lift_i2 (C := fun _ j => 0 < j) (fun _ _ _ => rfl) (fun d e μ h => by cases d <;> cases e <;> first | rfl | exact (h _ _ rfl rfl).elim) fun _ _ h => h
theorem op_powD : OpR X (binaryOp .Pow) (rI powOk fun i j => .int (i ^ j.toNat)) := opI fun i j _ _ _ _ _ hc q => by
  refine PyProof.Rows.pow_int hc.1 ?_ q
  have hb : Builtin.Int.intBits i ≤ 257 := by
    unfold Builtin.Int.intBits
    split
    · omega
    · have : i.natAbs.log2 < 257 := PySem.Flt.log2_lt_of (by decide) (by have h1 := hc.2.2.1; have h2 := hc.2.2.2; omega)
      omega
  have h0 := hc.1
  have h1 := hc.2.1
  have h2 : (Builtin.Int.intBits i : Int) * j ≤ 257 * 1000 := by
    have a : (Builtin.Int.intBits i : Int) ≤ 257 := by omega
    exact Int.mul_le_mul a h1 h0 (by decide)
  omega
theorem lift_pow : Lift2 K (rI powOk fun i j => .int (i ^ j.toNat)) Fpow :=
  lift_i2 (C := powOk) (fun _ _ _ => rfl) (fun d e μ h => by cases d <;> cases e <;> first | rfl | exact (h _ _ rfl rfl).elim) fun _ _ h => h
theorem lift_neg : Lift1 K (rU fun i => .int (-i)) Fneg := by
  intro W σ ι μ H x d Q w vx h
  cases vx with
  | int i => exact ⟨i, rfl, h.ok0 w (.int _)⟩
  | _ => exact h.elim
end
section
variable {X : Cx} {W : DW} {a b c : Expr} {A B C : CM D} {pos : Pos}
theorem d_add (ha : PE X a (tE X.K W A)) (hb : PE X b (tE X.K W B)) : PE X (.BinOp a .Add b pos) (tE X.K W (e2 Fadd A B)) := d_op op_addD lift_add ha hb
theorem d_sub (ha : PE X a (tE X.K W A)) (hb : PE X b (tE X.K W B)) : PE X (.BinOp a .Sub b pos) (tE X.K W (e2 Fsub A B)) := d_op op_sub lift_sub ha hb
theorem d_mul (ha : PE X a (tE X.K W A)) (hb : PE X b (tE X.K W B)) : PE X (.BinOp a .Mult b pos) (tE X.K W (e2 Fmul A B)) := d_op op_mulDD lift_mul ha hb
theorem d_div (ha : PE X a (tE X.K W A)) (hb : PE X b (tE X.K W B)) : PE X (.BinOp a .FloorDiv b pos) (tE X.K W (e2 Fdiv A B)) := d_op op_fdivW lift_div ha hb
theorem d_mod (ha : PE X a (tE X.K W A)) (hb : PE X b (tE X.K W B)) : PE X (.BinOp a .Mod b pos) (tE X.K W (e2 Fmod A B)) := d_op op_mod lift_mod ha hb
theorem d_pow (ha : PE X a (tE X.K W A)) (hb : PE X b (tE X.K W B)) : PE X (.BinOp a .Pow b pos) (tE X.K W (e2 Fpow A B)) := d_op op_powD lift_pow ha hb
theorem d_neg (ha : PE X a (tE X.K W A)) : PE X (.UnaryOp .USub a pos) (tE X.K W (e1 Fneg A)) := d_un un_neg lift_neg ha
end
end DM

namespace DM
open PySem PySem.Spec L2
/-! ### data as PyData; comparisons -/
mutual
def toPy : D → Option PyData
  | .non => some .none
  | .bl b => some (.bool b)
  | .int i => some (.int i)
  | .str x => some (.str x)
  | .tup xs => (toPys xs).map .tuple
  | .lst xs => (toPys xs).map .list
  | .fl xs => (toPys xs).map .list
  | .ref _ => none
def toPys : List D → Option (List PyData)
  | [] => some []
  | x :: r => match toPy x, toPys r with
    | some p, some q => some (p :: q)
    | _, _ => none
end
section
variable {K : PySem.W.Frag} {ι : List Addr} {H : Hp}
mutual
theorem dp_of : ∀ {v : V} {d : D} {p : PyData}, VR K ι H v d → toPy d = some p → Dp K H v p
  | _, _, _, .non, e => by cases e; exact .non
  | _, _, _, .bl b, e => by cases e; exact .bl b
  | _, _, _, .int i, e => by cases e; exact .int i
  | _, _, _, .str x, e => by cases e; exact .str x
  | _, _, _, .tup (ds := ds) h r, e => by
    simp only [toPy, Option.map_eq_some_iff] at e
    obtain ⟨q, e1, e2⟩ := e
    subst e2
    exact .tup h.sq (dps_of r e1)
  | _, _, _, .lst (ds := ds) h r, e => by
    simp only [toPy, Option.map_eq_some_iff] at e
    obtain ⟨q, e1, e2⟩ := e
    subst e2
    exact .lst h.sq (dps_of r e1)
  | _, _, _, .fl (ds := ds) h r, e => by
    simp only [toPy, Option.map_eq_some_iff] at e
    obtain ⟨q, e1, e2⟩ := e
    subst e2
    exact .lst h.sq (dps_of r e1)
  | _, _, _, .ref h, e => by cases e
theorem dps_of : ∀ {vs : List V} {ds : List D} {ps : List PyData}, VRs K ι H vs ds → toPys ds = some ps → DpAll K H vs ps
  | _, _, _, .nil, e => by cases e; exact .nil
  | _, _, _, .cons (d := d) (ds := ds) h r, e => by
    simp only [toPys] at e
    match e1 : toPy d, e2 : toPys ds, e with
    | some p, some q, e =>
      cases e
      exact .cons (dp_of h e1) (dps_of r e2)
end
end
/-- a cell's content as data, too -/
def toPyS (μ : Store) : D → Option PyData
  | .ref i => match μ[i]? with
    | some (.lst xs) => (toPys xs).map .list
    | _ => none
  | d => toPy d
theorem dpS_of {K : PySem.W.Frag} {ι : List Addr} {H : Hp} {μ : Store} {v : V} {d : D} {p : PyData} (w : WF K ι μ H) (r : VR K ι H v d) (e : toPyS μ d = some p) : Dp K H v p := by
  cases r with
  | ref hi =>
    obtain ⟨o, ho, ro⟩ := w.has hi
    simp only [toPyS, ho] at e
    cases o with
    | lst xs =>
      obtain ⟨vs, ea, rs⟩ := ro
      simp only [Option.map_eq_some_iff] at e
      obtain ⟨q, e1, e2⟩ := e
      subst e2
      exact .lst (.inl (.inl ea)) (dps_of rs e1)
    | obj C fs => cases e
    | dct kvs => cases e
    | dcl kvs => cases e
    | dtt kvs => cases e
  | non => exact dp_of (ι := ι) .non e
  | bl b => exact dp_of (ι := ι) (.bl b) e
  | int b => exact dp_of (ι := ι) (.int b) e
  | str b => exact dp_of (ι := ι) (.str b) e
  | tup h r => exact dp_of (.tup h r) e
  | lst h r => exact dp_of (.lst h r) e
  | fl h r => exact dp_of (.fl h r) e
def twoS : D → D → Option (Str × Str)
  | .str a, .str b => some (a, b)
  | _, _ => none
theorem twoS_some {d e : D} {a b : Str} (h : twoS d e = some (a, b)) : d = .str a ∧ e = .str b := by
  unfold twoS at h
  split at h
  · cases h; exact ⟨rfl, rfl⟩
  · cases h
def Feq (neg : Bool) (d e : D) (μ : Store) : Res D := match twoS d e with
  | some (a, b) => okR (.bl (if neg then !(a == b) else a == b)) μ
  | none => match toPyS μ d, toPyS μ e with
    | some p, some q => if SeqAt.shaped p = true ∧ SeqAt.shaped q = true then okR (.bl (if neg then !PyData.eqv p q else PyData.eqv p q)) μ else none
    | _, _ => none
def Fcmp (p : Int → Int → Bool) : D → D → Store → Res D
  | .int i, .int j, μ => okR (.bl (p i j)) μ
  | _, _, _ => none
abbrev Flt := Fcmp fun i j => decide (i < j)
abbrev Fle := Fcmp fun i j => decide (i ≤ j)
abbrev Fgt := Fcmp fun i j => decide (j < i)
abbrev Fge := Fcmp fun i j => decide (j ≤ i)
def Fis (neg : Bool) : D → D → Store → Res D
  | .bl a, .bl b, μ => okR (.bl (if neg then !decide (a = b) else decide (a = b))) μ
  | d, .non, μ => okR (.bl (if neg then !decide (d = .non) else decide (d = .non))) μ
  | _, _, _ => none
section
variable {X : Cx} {K : PySem.W.Frag}
def rEqX (K : PySem.W.Frag) : L2.R2 := fun x y H Q => rEq x y H Q ∨ rEqD K x y H Q
def rNeX (K : PySem.W.Frag) : L2.R2 := fun x y H Q => rNe x y H Q ∨ rNeD K x y H Q
theorem op_eqX (hu : X.A.units + 64 < cLine) : OpR X (compareOp .Eq) (rEqX X.K) := op_eq.or (op_eqD hu)
theorem op_neX (hu : X.A.units + 64 < cLine) : OpR X (compareOp .NotEq) (rNeX X.K) := op_ne.or (op_neD hu)
theorem dec_strV {a b : Str} : decide (V.str a = V.str b) = (a == b) := by
  rw [Bool.eq_iff_iff]
  simp
theorem lift_eq : Lift2 K (rEqX K) (Feq false) := by
  intro W σ ι μ H x y d e Q w vx vy h
  unfold Feq at h
  match e0 : twoS d e, h with
  | some (a, b), h =>
    obtain ⟨rfl, rfl⟩ := twoS_some e0
    cases vx
    cases vy
    refine .inl ⟨rfl, ?_⟩
    rw [dec_strV]
    exact h.ok0 w (.bl _)
  | none, h =>
    match e1 : toPyS μ d, e2 : toPyS μ e, h with
    | some p, some q, h =>
      obtain ⟨z, h⟩ := PostG.guard h
      exact .inr ⟨p, q, dpS_of w vx e1, dpS_of w vy e2, z.1, z.2, h.ok0 w (.bl _)⟩
theorem lift_ne : Lift2 K (rNeX K) (Feq true) := by
  intro W σ ι μ H x y d e Q w vx vy h
  unfold Feq at h
  match e0 : twoS d e, h with
  | some (a, b), h =>
    obtain ⟨rfl, rfl⟩ := twoS_some e0
    cases vx
    cases vy
    refine .inl ⟨rfl, ?_⟩
    rw [dec_strV]
    exact h.ok0 w (.bl _)
  | none, h =>
    match e1 : toPyS μ d, e2 : toPyS μ e, h with
    | some p, some q, h =>
      obtain ⟨z, h⟩ := PostG.guard h
      exact .inr ⟨p, q, dpS_of w vx e1, dpS_of w vy e2, z.1, z.2, h.ok0 w (.bl _)⟩
theorem lift_cmp {p : Int → Int → Bool} : Lift2 K (rI0 fun i j => .bl (p i j)) (Fcmp p) := by
  intro W σ ι μ H x y d e Q w vx vy h
  cases vx with
  | int i =>
    cases vy with
    | int j => exact ⟨i, j, rfl, rfl, h.ok0 w (.bl _)⟩
    | _ => exact h.elim
  | _ => exact h.elim
def rIsD (neg : Bool) : L2.R2 := fun x y H Q => (∃ a b : Bool, x = .bl a ∧ y = .bl b ∧ Q (.bl (if neg then !decide (a = b) else decide (a = b))) H) ∨ (y = .non ∧ Q (.bl (if neg then !decide (x = .non) else decide (x = .non))) H)
theorem op_isD : OpR X (compareOp .Is) (rIsD false) := op_isBl.or op_isN
theorem op_notD : OpR X (compareOp .IsNot) (rIsD true) := op_notBl.or op_notN
theorem non_iff {ι : List Addr} {H : Hp} {x : V} {d : D} (v : VR K ι H x d) : decide (x = .non) = decide (d = .non) := by
  cases v <;> simp
theorem lift_is {neg : Bool} : Lift2 K (rIsD neg) (Fis neg) := by
  intro W σ ι μ H x y d e Q w vx vy h
  have hn := non_iff vx
  cases vy with
  | non =>
    refine .inr ⟨rfl, ?_⟩
    rw [hn]
    cases d <;> exact h.ok0 w (.bl _)
  | bl b =>
    cases vx with
    | bl a => exact .inl ⟨a, b, rfl, rfl, h.ok0 w (.bl _)⟩
    | _ => exact h.elim
  | _ => cases vx <;> exact h.elim
end
section
variable {X : Cx} {W : DW} {a b c : Expr} {A B C : CM D} {pos : Pos} {k : Nat}
theorem d_eq (hr : Room k X.A) (ha : PE X a (tE X.K W A)) (hb : PE X b (tE X.K W B)) : PE X (.Compare a [.Eq] [b] pos) (tE X.K W (e2 (Feq false) A B)) := d_cmp (op_eqX hr.units) lift_eq ha hb (nomark _)
theorem d_ne (hr : Room k X.A) (ha : PE X a (tE X.K W A)) (hb : PE X b (tE X.K W B)) : PE X (.Compare a [.NotEq] [b] pos) (tE X.K W (e2 (Feq true) A B)) := d_cmp (op_neX hr.units) lift_ne ha hb (nomark _)
theorem d_lt (ha : PE X a (tE X.K W A)) (hb : PE X b (tE X.K W B)) : PE X (.Compare a [.Lt] [b] pos) (tE X.K W (e2 Flt A B)) := d_cmp op_lt lift_cmp ha hb (nomark _)
theorem d_le (ha : PE X a (tE X.K W A)) (hb : PE X b (tE X.K W B)) : PE X (.Compare a [.LtE] [b] pos) (tE X.K W (e2 Fle A B)) := d_cmp op_le lift_cmp ha hb (nomark _)
theorem d_gt (ha : PE X a (tE X.K W A)) (hb : PE X b (tE X.K W B)) : PE X (.Compare a [.Gt] [b] pos) (tE X.K W (e2 Fgt A B)) := d_cmp op_gt lift_cmp ha hb (nomark _)
theorem d_ge (ha : PE X a (tE X.K W A)) (hb : PE X b (tE X.K W B)) : PE X (.Compare a [.GtE] [b] pos) (tE X.K W (e2 Fge A B)) := d_cmp op_ge lift_cmp ha hb (nomark _)
theorem d_is (ha : PE X a (tE X.K W A)) (hb : PE X b (tE X.K W B)) : PE X (.Compare a [.Is] [b] pos) (tE X.K W (e2 (Fis false) A B)) := d_cmp op_isD lift_is ha hb (nomark _)
theorem d_isnot (ha : PE X a (tE X.K W A)) (hb : PE X b (tE X.K W B)) : PE X (.Compare a [.IsNot] [b] pos) (tE X.K W (e2 (Fis true) A B)) := d_cmp op_notD lift_is ha hb (nomark _)
theorem dt_eq (hr : Room k X.A) (ha : PE X a (tE X.K W A)) (hb : PE X b (tE X.K W B)) : PT X (.Compare a [.Eq] [b] pos) (tT X.K W (bOf (e2 (Feq false) A B))) := dt_cmp (op_eqX hr.units) lift_eq ha hb (nomark _)
theorem dt_ne (hr : Room k X.A) (ha : PE X a (tE X.K W A)) (hb : PE X b (tE X.K W B)) : PT X (.Compare a [.NotEq] [b] pos) (tT X.K W (bOf (e2 (Feq true) A B))) := dt_cmp (op_neX hr.units) lift_ne ha hb (nomark _)
theorem dt_lt (ha : PE X a (tE X.K W A)) (hb : PE X b (tE X.K W B)) : PT X (.Compare a [.Lt] [b] pos) (tT X.K W (bOf (e2 Flt A B))) := dt_cmp op_lt lift_cmp ha hb (nomark _)
theorem dt_le (ha : PE X a (tE X.K W A)) (hb : PE X b (tE X.K W B)) : PT X (.Compare a [.LtE] [b] pos) (tT X.K W (bOf (e2 Fle A B))) := dt_cmp op_le lift_cmp ha hb (nomark _)
theorem dt_gt (ha : PE X a (tE X.K W A)) (hb : PE X b (tE X.K W B)) : PT X (.Compare a [.Gt] [b] pos) (tT X.K W (bOf (e2 Fgt A B))) := dt_cmp op_gt lift_cmp ha hb (nomark _)
theorem dt_ge (ha : PE X a (tE X.K W A)) (hb : PE X b (tE X.K W B)) : PT X (.Compare a [.GtE] [b] pos) (tT X.K W (bOf (e2 Fge A B))) := dt_cmp op_ge lift_cmp ha hb (nomark _)
theorem dt_is (ha : PE X a (tE X.K W A)) (hb : PE X b (tE X.K W B)) : PT X (.Compare a [.Is] [b] pos) (tT X.K W (bOf (e2 (Fis false) A B))) := dt_cmp op_isD lift_is ha hb (nomark _)
theorem dt_isnot (ha : PE X a (tE X.K W A)) (hb : PE X b (tE X.K W B)) : PT X (.Compare a [.IsNot] [b] pos) (tT X.K W (bOf (e2 (Fis true) A B))) := dt_cmp op_notD lift_is ha hb (nomark _)
end
/-! ### tests -/
def bAnd (A B : CM Bool) : CM Bool := A.bind fun c => if c then B else CM.ret false
def bOr (A B : CM Bool) : CM Bool := A.bind fun c => if c then CM.ret true else B
def bNot (A : CM Bool) : CM Bool := A.bind fun c => CM.ret (!c)
def eIf (T : CM Bool) (A B : CM D) : CM D := T.bind fun c => if c then A else B
def vAnd (A B : CM D) : CM D := A.bind fun d => match d with
  | .bl true => B
  | .bl false => CM.ret (.bl false)
  | _ => fun _ _ => none
def vOr (A B : CM D) : CM D := A.bind fun d => match d with
  | .bl true => CM.ret (.bl true)
  | .bl false => B
  | _ => fun _ _ => none
def vNot (A : CM D) : CM D := A.bind fun d => match d with
  | .bl b => CM.ret (.bl (!b))
  | _ => fun _ _ => none
/-- truth -/
def Ftru (d : D) (μ : Store) : Res Bool := match d with
  | .non => some (.ok false, μ)
  | .bl b => some (.ok b, μ)
  | .int i => some (.ok (i != 0), μ)
  | .str y => if y.length ≤ sizeLine then some (.ok ((y.length : Int) != 0), μ) else none
  | .tup xs => some (.ok (!xs.isEmpty), μ)
  | .lst xs => some (.ok (!xs.isEmpty), μ)
  | .fl xs => some (.ok (!xs.isEmpty), μ)
  | .ref i => match μ[i]? with
    | some (.lst xs) => some (.ok (!xs.isEmpty), μ)
    | _ => none
def bTru (A : CM D) : CM Bool := A.bind fun d _ μ => Ftru d μ
section
variable {X : Cx} {W : DW} {a b c : Expr} {A B : CM Bool} {P Q' : CM D} {pos : Pos} {rest : List Expr}
theorem dw_and1 (ha : PT X a (tT X.K W A)) : PW X (.BoolOp .And [a] pos) (tT X.K W A) := pw_and1 ha
theorem dw_or1 (ha : PT X a (tT X.K W A)) : PW X (.BoolOp .Or [a] pos) (tT X.K W A) := pw_or1 ha
theorem dw_and (ha : PT X a (tT X.K W A)) (hb : PW X (.BoolOp .And (b :: rest) pos) (tT X.K W B)) : PW X (.BoolOp .And (a :: b :: rest) pos) (tT X.K W (bAnd A B)) :=
  (pw_and ha hb).imp fun σ H Q ⟨ρ, ι, μ, sr, wf, h⟩ => by
    refine tG.mono (PostG.bind sr wf h) ?_
    rintro c H1 ⟨ι1, μ1, d, l1, w1, rfl, h1⟩
    cases c with
    | true => exact ⟨ρ, ι1, μ1, sr.mono l1, w1, h1⟩
    | false => exact PostG.ok0 h1 w1 rfl
theorem dw_or (ha : PT X a (tT X.K W A)) (hb : PW X (.BoolOp .Or (b :: rest) pos) (tT X.K W B)) : PW X (.BoolOp .Or (a :: b :: rest) pos) (tT X.K W (bOr A B)) :=
  (pw_or ha hb).imp fun σ H Q ⟨ρ, ι, μ, sr, wf, h⟩ => by
    refine tG.mono (PostG.bind sr wf h) ?_
    rintro c H1 ⟨ι1, μ1, d, l1, w1, rfl, h1⟩
    cases c with
    | false => exact ⟨ρ, ι1, μ1, sr.mono l1, w1, h1⟩
    | true => exact PostG.ok0 h1 w1 rfl
theorem dt_not (ha : PT X a (tT X.K W A)) : PT X (.UnaryOp .Not a pos) (tT X.K W (bNot A)) :=
  (pt_not ha).imp fun σ H Q ⟨ρ, ι, μ, sr, wf, h⟩ => by
    refine tG.mono (PostG.bind sr wf h) ?_
    rintro c H1 ⟨ι1, μ1, d, l1, w1, rfl, h1⟩
    exact PostG.ok0 h1 w1 rfl
theorem d_ifexp (hc : PT X c (tT X.K W A)) (ha : PE X a (tE X.K W P)) (hb : PE X b (tE X.K W Q')) : PE X (.IfExp c a b pos) (tE X.K W (eIf A P Q')) :=
  (pe_ifExp hc ha hb).imp fun σ H Q ⟨ρ, ι, μ, sr, wf, h⟩ => by
    refine tG.mono (PostG.bind sr wf h) ?_
    rintro c H1 ⟨ι1, μ1, d, l1, w1, rfl, h1⟩
    cases c with
    | true => exact ⟨ρ, ι1, μ1, sr.mono l1, w1, h1⟩
    | false => exact ⟨ρ, ι1, μ1, sr.mono l1, w1, h1⟩
theorem d_one {op} (h : PE X a (tE X.K W P)) : PE X (.BoolOp op [a] pos) (tE X.K W P) := pe_one h
theorem d_and (ha : PE X a (tE X.K W P)) (hb : PE X (.BoolOp .And (b :: rest) pos) (tE X.K W Q')) : PE X (.BoolOp .And (a :: b :: rest) pos) (tE X.K W (vAnd P Q')) :=
  (pe_and ha hb).imp fun σ H Q ⟨ρ, ι, μ, sr, wf, h⟩ => by
    refine tG.mono (PostG.bind sr wf h) ?_
    rintro c H1 ⟨ι1, μ1, d, l1, w1, vx, h1⟩
    cases vx with
    | bl c =>
      refine ⟨c, rfl, ?_⟩
      cases c with
      | true => exact ⟨ρ, ι1, μ1, sr.mono l1, w1, h1⟩
      | false => exact PostG.ok0 h1 w1 (.bl _)
    | _ => exact h1.elim
theorem d_or (ha : PE X a (tE X.K W P)) (hb : PE X (.BoolOp .Or (b :: rest) pos) (tE X.K W Q')) : PE X (.BoolOp .Or (a :: b :: rest) pos) (tE X.K W (vOr P Q')) :=
  (pe_or ha hb).imp fun σ H Q ⟨ρ, ι, μ, sr, wf, h⟩ => by
    refine tG.mono (PostG.bind sr wf h) ?_
    rintro c H1 ⟨ι1, μ1, d, l1, w1, vx, h1⟩
    cases vx with
    | bl c =>
      refine ⟨c, rfl, ?_⟩
      cases c with
      | false => exact ⟨ρ, ι1, μ1, sr.mono l1, w1, h1⟩
      | true => exact PostG.ok0 h1 w1 (.bl _)
    | _ => exact h1.elim
theorem d_not (ha : PE X a (tE X.K W P)) : PE X (.UnaryOp .Not a pos) (tE X.K W (vNot P)) :=
  (pe_not ha).imp fun σ H Q ⟨ρ, ι, μ, sr, wf, h⟩ => by
    refine tG.mono (PostG.bind sr wf h) ?_
    rintro c H1 ⟨ι1, μ1, d, l1, w1, vx, h1⟩
    cases vx with
    | bl c => exact ⟨c, rfl, PostG.ok0 h1 w1 (.bl _)⟩
    | _ => exact h1.elim
theorem dt_tru (ha : PE X a (tE X.K W P)) (he : ∀ whole, isTrue a X.env whole = (do let v ← whole; standAt a.pos; holding [v] (truthy v))) : PT X a (tT X.K W (bTru P)) :=
  (pt_truth ha he).imp fun σ H Q ⟨ρ, ι, μ, sr, wf, h⟩ => by
    refine tG.mono (PostG.bind sr wf h) ?_
    rintro x H1 ⟨ι1, μ1, d, l1, w1, vx, h1⟩
    cases vx with
    | non => exact ⟨_, rfl, PostG.ok0 h1 w1 rfl⟩
    | bl b => exact ⟨_, rfl, PostG.ok0 h1 w1 rfl⟩
    | int i => exact ⟨_, rfl, PostG.ok0 h1 w1 rfl⟩
    | str y =>
      obtain ⟨q, h1⟩ := PostG.guard h1
      exact ⟨_, ⟨q, rfl⟩, PostG.ok0 h1 w1 rfl⟩
    | tup hh r =>
      refine ⟨_, .inr (.inl ⟨_, hh.sq, rfl⟩), PostG.ok0 h1 w1 ?_⟩
      cases r <;> rfl
    | lst hh r =>
      refine ⟨_, .inl ⟨_, hh.sq, rfl⟩, PostG.ok0 h1 w1 ?_⟩
      cases r <;> rfl
    | fl hh r =>
      refine ⟨_, .inl ⟨_, hh.sq, rfl⟩, PostG.ok0 h1 w1 ?_⟩
      cases r <;> rfl
    | ref hi =>
      rename_i a' i
      obtain ⟨o, ho, ro⟩ := w1.has hi
      unfold Ftru at h1
      simp only [ho] at h1
      cases o with
      | lst ds =>
        obtain ⟨vs, e, r⟩ := ro
        refine ⟨_, .inl ⟨_, .inl (.inl e), rfl⟩, PostG.ok0 h1 w1 ?_⟩
        cases r <;> rfl
      | _ => exact h1.elim
end
end DM

namespace DM
open PySem PySem.Spec L2
/-! ### argument lists, displays -/
def aNil : CM (List D) := CM.ret []
def aCons (A : CM D) (B : CM (List D)) : CM (List D) := A.bind fun d => B.bind fun ds => CM.ret (d :: ds)
def eTup (A : CM (List D)) : CM D := A.bind fun ds _ μ => if ds.length ≤ sizeLine then okR (.tup ds) μ else none
/-- a list that is not changed any more; a list that is a cell -/
def eLst (A : CM (List D)) : CM D := A.bind fun ds _ μ => if ds.length ≤ sizeLine then okR (.lst ds) μ else none
def eCel (A : CM (List D)) : CM D := A.bind fun ds _ μ => if ds.length ≤ sizeLine then okR (.ref μ.length) (μ ++ [.lst ds]) else none
section
variable {X : Cx} {W : DW} {e : Expr} {es : List Expr} {A : CM D} {As : CM (List D)} {pos : Pos}
theorem da_nil : PA X [] (tA X.K W aNil) := pa_nil.imp fun σ H Q ⟨ρ, ι, μ, sr, wf, h⟩ => PostG.ok0 h wf .nil
theorem da_cons (ha : PE X e (tE X.K W A)) (hr : PA X es (tA X.K W As)) (hs : starEach (e :: es) X.env = (false, eval e X.env) :: starEach es X.env := by rfl) : PA X (e :: es) (tA X.K W (aCons A As)) :=
  (pa_cons ha hr hs).imp fun σ H Q ⟨ρ, ι, μ, sr, wf, h⟩ => by
    refine tG.mono (PostG.bind sr wf h) ?_
    rintro x H1 ⟨ι1, μ1, d, l1, w1, vx, h1⟩
    refine tG.mono (PostG.bind (sr.mono l1) w1 h1) ?_
    rintro xs H2 ⟨ι2, μ2, ds, l2, w2, vxs, h2⟩
    exact PostG.ok0 h2 w2 (.cons (vx.mono l2) vxs)
theorem d_tup {x1} (h : PA X es (tA X.K W As)) : PE X (.Tuple es x1 pos) (tE X.K W (eTup As)) := by
  refine ⟨fun pins s σ H Q I ⟨ρ, ι, μ, sr, wf, hq⟩ => ?_⟩
  refine wpAny_Tuple_spliced (thn (h.run pos pins s σ H _ I (PostG.bind sr wf hq)) ?_)
  rintro us s1 ⟨xs, H1, I1, r, ι1, μ1, ds, l1, w1, vx, h1⟩
  obtain ⟨q, h1⟩ := PostG.guard h1
  have z : xs.length ≤ sizeLine := by rw [vx.length]; exact q
  refine ⟨by rw [← r.length]; exact z, ?_⟩
  have hf : H1 s1.heap.objs.size = none := I1.hok.fresh (Nat.le_refl _)
  refine ⟨.ref s1.heap.objs.size, upd H1 s1.heap.objs.size (.frz _ (.tup xs)), I1.laid (t' := s1.toks) (fun b u e => Heap.get?_push_of_some _ e) (Nat.le_refl _) ⟨Heap.get?_push_size _ rfl, z, us, r, ⟨_, Heap.get?_push_size _ rfl, rfl, _, rfl⟩⟩, rfl, ?_⟩
  exact h1.ok (Le.laid hf) (w1.laid hf) (.tup (.inl ⟨⟨_, upd_same, rfl⟩, w1.out hf⟩) (vx.mono (Le.laid hf)))
theorem d_lst (h : PA X es (tA X.K W As)) : PE X (.List es pos) (tE X.K W (eLst As)) :=
  (pe_lst h).imp fun σ H Q ⟨ρ, ι, μ, sr, wf, h⟩ => by
    refine tG.mono (PostG.bind sr wf h) ?_
    rintro xs H1 ⟨ι1, μ1, ds, l1, w1, vx, h1⟩
    obtain ⟨q, h1⟩ := PostG.guard h1
    refine ⟨by rw [vx.length]; exact q, fun p hp => ?_⟩
    exact h1.ok (Le.laid hp) (w1.laid hp) (.lst ⟨upd_same, w1.out hp⟩ (vx.mono (Le.laid hp)))
theorem d_cel (h : PA X es (tA X.K W As)) : PE X (.List es pos) (tE X.K W (eCel As)) :=
  (pe_lst h).imp fun σ H Q ⟨ρ, ι, μ, sr, wf, h⟩ => by
    refine tG.mono (PostG.bind sr wf h) ?_
    rintro xs H1 ⟨ι1, μ1, ds, l1, w1, vx, h1⟩
    obtain ⟨q, h1⟩ := PostG.guard h1
    refine ⟨by rw [vx.length]; exact q, fun p hp => ?_⟩
    refine h1.ok (Le.cell hp) (w1.cell hp ⟨xs, upd_same, vx.mono (Le.cell hp)⟩) (.ref ?_)
    rw [← w1.len]; simp
end
/-! ### subscripts -/
def Fix (d e : D) (μ : Store) : Res D := match d, e with
  | .lst xs, .int i => pureR (atI xs i) μ
  | .fl xs, .int i => pureR (atI xs i) μ
  | .tup xs, .int i => pureR (atI xs i) μ
  | .str z, .int i => if z.length ≤ sizeLine then pureR ((atI z.cps.toList i).map fun c => .str ⟨#[c]⟩) μ else none
  | .ref j, .int i => match μ[j]? with
    | some (.lst xs) => pureR (atI xs i) μ
    | _ => none
  | _, _ => none
theorem PostG.pure {K : PySem.W.Frag} {W : DW} {σ : L2.St} {ι : List Addr} {H : Hp} {Q : VK} {o : Option D} {μ : Store} (h : PostG (VR K) K W σ ι H Q (pureR o μ)) : ∃ d, o = some d ∧ PostG (VR K) K W σ ι H Q (okR d μ) := by
  cases o with
  | none => exact h.elim
  | some d => exact ⟨d, rfl, h⟩
section
variable {X : Cx} {K : PySem.W.Frag} {ι : List Addr} {H : Hp}
theorem VRs.atI {vs : List V} {ds : List D} {i : Int} {d : D} (r : VRs K ι H vs ds) (h : atI ds i = some d) : ∃ v, L2.atI vs i = some v ∧ VR K ι H v d := by
  unfold L2.atI at h ⊢
  rw [r.length]
  cases e : ixN ds.length i with
  | none => rw [e] at h; cases h
  | some j => rw [e] at h; exact r.get h
theorem lift_ix : Lift2 K (rIx K) Fix := by
  intro W σ ι μ H x y d e Q w vx vy h
  cases vy with
  | int i =>
    cases vx with
    | lst hh r =>
      obtain ⟨z, e, h⟩ := PostG.pure h
      obtain ⟨v, e1, r1⟩ := r.atI e
      exact .inl ⟨_, _, i, v, rfl, rfl, hh.sq, e1, h.ok0 w r1⟩
    | fl hh r =>
      obtain ⟨z, e, h⟩ := PostG.pure h
      obtain ⟨v, e1, r1⟩ := r.atI e
      exact .inl ⟨_, _, i, v, rfl, rfl, hh.sq, e1, h.ok0 w r1⟩
    | tup hh r =>
      obtain ⟨z, e, h⟩ := PostG.pure h
      obtain ⟨v, e1, r1⟩ := r.atI e
      exact .inr (.inl ⟨_, _, i, v, rfl, rfl, hh.sq, e1, h.ok0 w r1⟩)
    | str z =>
      obtain ⟨q, h⟩ := PostG.guard h
      obtain ⟨z', e, h⟩ := PostG.pure h
      obtain ⟨c, e1, rfl⟩ := Option.map_eq_some_iff.mp e
      exact .inr (.inr ⟨z, i, c, rfl, rfl, q, e1, h.ok0 w (.str _)⟩)
    | ref hi =>
      obtain ⟨o, ho, ro⟩ := w.has hi
      unfold Fix at h
      simp only [ho] at h
      cases o with
      | lst ds =>
        obtain ⟨vs, ea, r⟩ := ro
        obtain ⟨z, e, h⟩ := PostG.pure h
        obtain ⟨v, e1, r1⟩ := r.atI e
        exact .inl ⟨_, _, i, v, rfl, rfl, .inl (.inl ea), e1, h.ok0 w r1⟩
      | _ => exact h.elim
    | _ => exact h.elim
  | _ => cases vx <;> exact h.elim
end
section
variable {X : Cx} {W : DW} {a b : Expr} {A B : CM D} {pos : Pos}
theorem d_ix (ha : PE X a (tE X.K W A)) (hb : PE X b (tE X.K W B)) (hs : PlainIx b) : PE X (.Subscript a b pos) (tE X.K W (e2 Fix A B)) := (pe_ix ix_seq ha hb hs).imp (d_bin lift_ix)
end
/-! ### calls of built-ins -/
def LiftA (K : PySem.W.Frag) (r : List V → Hp → VK → Prop) (F : List D → Store → Res D) : Prop := ∀ (W : DW) σ ι μ H xs ds Q, WF K ι μ H → VRs K ι H xs ds → PostG (VR K) K W σ ι H Q (F ds μ) → r xs H Q
def eCallB (F : List D → Store → Res D) (A : CM (List D)) : CM D := A.bind fun ds _ μ => F ds μ
def Fabs (ds : List D) (μ : Store) : Res D := match ds with
  | [.int i] => okR (.int (if i < 0 then -i else i)) μ
  | _ => none
def Fint (ds : List D) (μ : Store) : Res D := match ds with
  | [.int i] => okR (.int i) μ
  | [.bl k] => okR (.int (if k then 1 else 0)) μ
  | _ => none
def Fmax (ds : List D) (μ : Store) : Res D := match ds with
  | [.int i, .int j] => okR (.int (if j > i then j else i)) μ
  | _ => none
def Fmin (ds : List D) (μ : Store) : Res D := match ds with
  | [.int i, .int j] => okR (.int (if j < i then j else i)) μ
  | _ => none
def Flen (ds : List D) (μ : Store) : Res D := match ds with
  | [.str y] => if y.length ≤ sizeLine then okR (.int y.length) μ else none
  | [.lst xs] => okR (.int xs.length) μ
  | [.fl xs] => okR (.int xs.length) μ
  | [.tup xs] => okR (.int xs.length) μ
  | [.ref i] => match μ[i]? with
    | some (.lst xs) => okR (.int xs.length) μ
    | _ => none
  | _ => none
def bls : List D → Option (List Bool)
  | [] => some []
  | .bl b :: r => (bls r).map (b :: ·)
  | _ => none
def Fall (ds : List D) (μ : Store) : Res D := match ds with
  | [.lst xs] => pureR ((bls xs).map fun bs => .bl (bs.all id)) μ
  | _ => none
def Fany (ds : List D) (μ : Store) : Res D := match ds with
  | [.lst xs] => pureR ((bls xs).map fun bs => .bl (bs.any id)) μ
  | _ => none
section
variable {X : Cx} {K : PySem.W.Frag}
theorem VRs.one {ι : List Addr} {H : Hp} {vs : List V} {d : D} (v : VRs K ι H vs [d]) : ∃ x, vs = [x] ∧ VR K ι H x d := by
  cases v with
  | cons a b => cases b; exact ⟨_, rfl, a⟩
theorem VRs.two {ι : List Addr} {H : Hp} {vs : List V} {d e : D} (v : VRs K ι H vs [d, e]) : ∃ x y, vs = [x, y] ∧ VR K ι H x d ∧ VR K ι H y e := by
  cases v with
  | cons a b =>
    obtain ⟨y, rfl, c⟩ := VRs.one b
    exact ⟨_, y, rfl, a, c⟩
theorem lift_abs : LiftA K (fun xs H Q => ∃ i, xs = [.int i] ∧ Q (.int (if i < 0 then -i else i)) H) Fabs := by
  intro W σ ι μ H xs ds Q w v h
  unfold Fabs at h
  split at h
  · obtain ⟨x, rfl, vx⟩ := v.one
    cases vx
    exact ⟨_, rfl, h.ok0 w (.int _)⟩
  · exact h.elim
theorem lift_int : LiftA K (fun xs H Q => (∃ i, xs = [.int i] ∧ Q (.int i) H) ∨ ∃ k, xs = [.bl k] ∧ Q (.int (if k then 1 else 0)) H) Fint := by
  intro W σ ι μ H xs ds Q w v h
  unfold Fint at h
  split at h
  · obtain ⟨x, rfl, vx⟩ := v.one
    cases vx
    exact .inl ⟨_, rfl, h.ok0 w (.int _)⟩
  · obtain ⟨x, rfl, vx⟩ := v.one
    cases vx
    exact .inr ⟨_, rfl, h.ok0 w (.int _)⟩
  · exact h.elim
theorem lift_max : LiftA K (fun xs H Q => ∃ i j, xs = [.int i, .int j] ∧ Q (.int (if j > i then j else i)) H) Fmax := by
  intro W σ ι μ H xs ds Q w v h
  unfold Fmax at h
  split at h
  · obtain ⟨x, y, rfl, vx, vy⟩ := v.two
    cases vx; cases vy
    exact ⟨_, _, rfl, h.ok0 w (.int _)⟩
  · exact h.elim
theorem lift_min : LiftA K (fun xs H Q => ∃ i j, xs = [.int i, .int j] ∧ Q (.int (if j < i then j else i)) H) Fmin := by
  intro W σ ι μ H xs ds Q w v h
  unfold Fmin at h
  split at h
  · obtain ⟨x, y, rfl, vx, vy⟩ := v.two
    cases vx; cases vy
    exact ⟨_, _, rfl, h.ok0 w (.int _)⟩
  · exact h.elim
theorem lift_len : LiftA K (fun xs H Q => ∃ x n, xs = [x] ∧ LenV K x H n ∧ Q (.int n) H) Flen := by
  intro W σ ι μ H xs ds Q w v h
  unfold Flen at h
  split at h
  · obtain ⟨x, rfl, vx⟩ := v.one
    cases vx
    obtain ⟨q, h⟩ := PostG.guard h
    exact ⟨_, _, rfl, ⟨q, rfl⟩, h.ok0 w (.int _)⟩
  · obtain ⟨x, rfl, vx⟩ := v.one
    cases vx with
    | lst hh r => exact ⟨_, _, rfl, .inl ⟨_, hh.sq, rfl⟩, h.ok0 w (by rw [r.length]; exact .int _)⟩
  · obtain ⟨x, rfl, vx⟩ := v.one
    cases vx with
    | fl hh r => exact ⟨_, _, rfl, .inl ⟨_, hh.sq, rfl⟩, h.ok0 w (by rw [r.length]; exact .int _)⟩
  · obtain ⟨x, rfl, vx⟩ := v.one
    cases vx with
    | tup hh r => exact ⟨_, _, rfl, .inr ⟨_, hh.sq, rfl⟩, h.ok0 w (by rw [r.length]; exact .int _)⟩
  · obtain ⟨x, rfl, vx⟩ := v.one
    cases vx with
    | ref hi =>
      obtain ⟨o, ho, ro⟩ := w.has hi
      simp only [ho] at h
      cases o with
      | lst ds =>
        obtain ⟨vs, ea, r⟩ := ro
        exact ⟨_, _, rfl, .inl ⟨_, .inl (.inl ea), rfl⟩, h.ok0 w (by rw [r.length]; exact .int _)⟩
      | _ => exact h.elim
  · exact h.elim
theorem bls_of {ι : List Addr} {H : Hp} : ∀ {vs : List V} {ds : List D} {bs : List Bool}, VRs K ι H vs ds → bls ds = some bs → vs = bs.map V.bl
  | _, _, _, .nil, e => by cases e; rfl
  | _, _, _, .cons h r, e => by
    cases h with
    | bl b =>
      simp only [bls] at e
      obtain ⟨t, e1, rfl⟩ := Option.map_eq_some_iff.mp e
      rw [bls_of r e1]; rfl
    | _ => simp [bls] at e
theorem lift_all : LiftA K (rAll K) Fall := by
  intro W σ ι μ H xs ds Q w v h
  unfold Fall at h
  split at h
  · obtain ⟨x, rfl, vx⟩ := v.one
    cases vx with
    | lst hh r =>
      obtain ⟨z, e, h⟩ := PostG.pure h
      obtain ⟨bs, e1, rfl⟩ := Option.map_eq_some_iff.mp e
      have q := bls_of r e1
      subst q
      exact ⟨_, bs, rfl, hh.sq, h.ok0 w (.bl _)⟩
  · exact h.elim
theorem lift_any : LiftA K (rAny K) Fany := by
  intro W σ ι μ H xs ds Q w v h
  unfold Fany at h
  split at h
  · obtain ⟨x, rfl, vx⟩ := v.one
    cases vx with
    | lst hh r =>
      obtain ⟨z, e, h⟩ := PostG.pure h
      obtain ⟨bs, e1, rfl⟩ := Option.map_eq_some_iff.mp e
      have q := bls_of r e1
      subst q
      exact ⟨_, bs, rfl, hh.sq, h.ok0 w (.bl _)⟩
  · exact h.elim
theorem d_cb {W : DW} {x : Str} {p pos : Pos} {e : Expr} {es : List Expr} {As : CM (List D)} {id : String} {r : List V → Hp → VK → Prop} {F : List D → Store → Res D} (hc : CallR X (.builtin id) r) (hF : LiftA X.K r F) (hg : Gl X x) (hm : X.mg x = none) (hv : bootBuiltins x = some (.builtin id)) (ha : PA X (e :: es) (tA X.K W As))
    (hn : x ≠ "__name__" := by decide) (hdb : (x == ("__debug__" : Str)) = false := by decide)
    (he : starEach (e :: es) X.env = (false, eval e X.env) :: starEach es X.env := by rfl) (hpl : (backTo pos (starEach es X.env)).any (·.1) = false := by rfl) : PE X (.Call (.Name x p) (e :: es) [] pos) (tE X.K W (eCallB F As)) :=
  (pe_callB hc hg hm hv ha hn hdb he hpl).imp fun σ H Q ⟨ρ, ι, μ, sr, wf, h⟩ => by
    refine tG.mono (PostG.bind sr wf h) ?_
    rintro xs H1 ⟨ι1, μ1, ds, l1, w1, vx, h1⟩
    exact hF W σ ι1 μ1 H1 xs ds Q w1 vx h1
theorem d_ct {W : DW} {x : Str} {p pos : Pos} {e : Expr} {es : List Expr} {As : CM (List D)} {T : String} {r : List V → Hp → VK → Prop} {F : List D → Store → Res D} (hc : CallR X (.type T) r) (hF : LiftA X.K r F) (hg : Gl X x) (hm : X.mg x = none) (hv : bootBuiltins x = some (.type T)) (ha : PA X (e :: es) (tA X.K W As))
    (hn : x ≠ "__name__" := by decide) (hdb : (x == ("__debug__" : Str)) = false := by decide)
    (he : starEach (e :: es) X.env = (false, eval e X.env) :: starEach es X.env := by rfl) (hpl : (backTo pos (starEach es X.env)).any (·.1) = false := by rfl) : PE X (.Call (.Name x p) (e :: es) [] pos) (tE X.K W (eCallB F As)) :=
  (pe_callTy hc hg hm hv ha hn hdb he hpl).imp fun σ H Q ⟨ρ, ι, μ, sr, wf, h⟩ => by
    refine tG.mono (PostG.bind sr wf h) ?_
    rintro xs H1 ⟨ι1, μ1, ds, l1, w1, vx, h1⟩
    exact hF W σ ι1 μ1 H1 xs ds Q w1 vx h1
end
end DM

namespace DM
open PySem PySem.Spec L2
/-! ### statements -/
inductive Fl where
  | nx (ρ : Rho) | rt (d : D) | bk (ρ : Rho) | ct (ρ : Rho) | ex (x : Ex) (ρ : Rho)
abbrev SF := Rho → Store → Option (Fl × Store)
def PostS (K : PySem.W.Frag) (W : DW) (T : Ends) (ι : List Addr) (H : Hp) : Option (Fl × Store) → Prop
  | some (.nx ρ', μ') => ∀ σ' ι' H', Le ι H ι' H' → WF K ι' μ' H' → SR K ι' H' σ' ρ' → T.nx σ' H'
  | some (.rt d, μ') => ∀ ι' H' v, Le ι H ι' H' → WF K ι' μ' H' → VR K ι' H' v d → T.rt v H'
  | some (.bk ρ', μ') => ∀ σ' ι' H', Le ι H ι' H' → WF K ι' μ' H' → SR K ι' H' σ' ρ' → T.bk σ' H'
  | some (.ct ρ', μ') => ∀ σ' ι' H', Le ι H ι' H' → WF K ι' μ' H' → SR K ι' H' σ' ρ' → T.ct σ' H'
  | some (.ex x ρ', μ') => ∀ σ' ι' H', Le ι H ι' H' → WF K ι' μ' H' → SR K ι' H' σ' ρ' → W x ι' σ' H'
  | none => False
def sD (K : PySem.W.Frag) (W : DW) (S : SF) : TS := fun T σ H => ∃ ρ ι μ, SR K ι H σ ρ ∧ WF K ι μ H ∧ PostS K W T ι H (S ρ μ)
def lft {α : Type} (E : CM α) (F : α → SF) : SF := fun ρ μ => match E ρ μ with
  | some (.ok a, μ1) => F a ρ μ1
  | some (.error x, μ1) => some (.ex x ρ, μ1)
  | none => none
section
variable {K : PySem.W.Frag} {W : DW} {T : Ends} {σ : L2.St} {ι : List Addr} {H : Hp} {ρ : Rho} {μ : Store}
theorem PostS.from {r : Option (Fl × Store)} {ι0 : List Addr} {H0 : Hp} (l : Le ι0 H0 ι H) (h : PostS K W T ι0 H0 r) : PostS K W T ι H r := by
  match r, h with
  | some (.nx _, _), h => exact fun _ _ _ a b c => h _ _ _ (l.trans a) b c
  | some (.rt _, _), h => exact fun _ _ _ a b c => h _ _ _ (l.trans a) b c
  | some (.bk _, _), h => exact fun _ _ _ a b c => h _ _ _ (l.trans a) b c
  | some (.ct _, _), h => exact fun _ _ _ a b c => h _ _ _ (l.trans a) b c
  | some (.ex _ _, _), h => exact fun _ _ _ a b c => h _ _ _ (l.trans a) b c
theorem PostS.bindP {α β : Type} {R : List Addr → Hp → β → α → Prop} {A : CM α} {F : α → SF} (sr : SR K ι H σ ρ) (h : PostS K W T ι H (lft A F ρ μ)) :
    PostG R K W σ ι H (fun x H1 => ∃ ι1 μ1 a, Le ι H ι1 H1 ∧ WF K ι1 μ1 H1 ∧ R ι1 H1 x a ∧ PostS K W T ι1 H1 (F a ρ μ1)) (A ρ μ) := by
  unfold lft at h
  match A ρ μ, h with
  | some (.ok a, μ1), h => exact fun ι' H' v l w r => ⟨ι', μ1, a, l, w, r, PostS.from l h⟩
  | some (.error x, μ1), h => exact fun ι' H' l w => h σ ι' H' l w (sr.mono l)
theorem PostS.bind {α β : Type} {R : List Addr → Hp → β → α → Prop} {A : CM α} {F : α → SF} (sr : SR K ι H σ ρ) (wf : WF K ι μ H) (h : PostS K W T ι H (lft A F ρ μ)) :
    tG R K W A σ H (fun x H1 => ∃ ι1 μ1 a, Le ι H ι1 H1 ∧ WF K ι1 μ1 H1 ∧ R ι1 H1 x a ∧ PostS K W T ι1 H1 (F a ρ μ1)) := ⟨ρ, ι, μ, sr, wf, h.bindP sr⟩
theorem PostS.nx0 {ρ' : Rho} (h : PostS K W T ι H (some (.nx ρ', μ))) (w : WF K ι μ H) (s : SR K ι H σ ρ') : T.nx σ H := h σ ι H (Le.refl _ _) w s
theorem PostS.guard {c : Prop} [Decidable c] {r : Option (Fl × Store)} (h : PostS K W T ι H (if c then r else none)) : c ∧ PostS K W T ι H r := by
  by_cases z : c
  · rw [if_pos z] at h; exact ⟨z, h⟩
  · rw [if_neg z] at h; exact h.elim
end
def sNil : SF := fun ρ μ => some (.nx ρ, μ)
def sSeq (A B : SF) : SF := fun ρ μ => match A ρ μ with
  | some (.nx ρ1, μ1) => B ρ1 μ1
  | o => o
def sAsg (i : Nat) (E : CM D) : SF := lft E fun d ρ μ => some (.nx (ρ.set i (some d)), μ)
def sPar2 (i j : Nat) (E : CM (List D)) : SF := lft E fun ds ρ μ => match ds with
  | [a, b] => some (.nx ((ρ.set i (some a)).set j (some b)), μ)
  | _ => none
def sPar3 (i j l : Nat) (E : CM (List D)) : SF := lft E fun ds ρ μ => match ds with
  | [a, b, c] => some (.nx (((ρ.set i (some a)).set j (some b)).set l (some c)), μ)
  | _ => none
def sIf (C : CM Bool) (A B : SF) : SF := lft C fun c => if c then A else B
def sRet (E : CM D) : SF := lft E fun d _ μ => some (.rt d, μ)
def sRetN : SF := fun _ μ => some (.rt .non, μ)
def sDrop (E : CM D) : SF := lft E fun _ ρ μ => some (.nx ρ, μ)
def sBrk : SF := fun ρ μ => some (.bk ρ, μ)
def sCnt : SF := fun ρ μ => some (.ct ρ, μ)
def sPut (o i v : CM D) : SF := lft v fun v => lft o fun o => lft i fun i ρ μ => match o, i with
  | .ref c, .int k => match μ[c]? with
    | some (.lst xs) => match ixN xs.length k with
      | some j => some (.nx ρ, μ.set c (.lst (xs.set j v)))
      | none => none
    | _ => none
  | _, _ => none
def sAug (i : Nat) (F : D → D → Store → Res D) (E : CM D) : SF := fun ρ μ => match ρ[i]? with
  | some (some x) => lft (E.bind fun e _ μ => F x e μ) (fun d ρ μ => some (.nx (ρ.set i (some d)), μ)) ρ μ
  | _ => none
section
variable {X : Cx} {W : DW} {e a b c : Expr} {E A : CM D} {pos : Pos} {st : Stmt} {rest : List Stmt} {S S2 : SF}
theorem ds_nil : PSs X [] (sD X.K W sNil) := pss_nil.imp fun T σ H ⟨ρ, ι, μ, sr, wf, h⟩ => h.nx0 wf sr
theorem ds_seqAux {T : Ends} (σ : L2.St) (H : Hp) (h : sD X.K W (sSeq S S2) T σ H) : tSeq (sD X.K W S) (sD X.K W S2) T σ H := by
  obtain ⟨ρ, ι, μ, sr, wf, h⟩ := h
  refine ⟨ρ, ι, μ, sr, wf, ?_⟩
  unfold sSeq at h
  match S ρ μ, h with
  | some (.nx ρ1, μ1), h => exact fun σ' ι' H' l w s => ⟨ρ1, ι', μ1, s, w, PostS.from l h⟩
  | some (.rt _, _), h => exact h
  | some (.bk _, _), h => exact h
  | some (.ct _, _), h => exact h
  | some (.ex _ _, _), h => exact h
theorem ds_cons (h1 : PS X st (sD X.K W S)) (h2 : PSs X rest (sD X.K W S2)) : PSs X (st :: rest) (sD X.K W (sSeq S S2)) :=
  (pss_cons h1 h2).imp fun T σ H h => ds_seqAux σ H h
theorem ds_one (h1 : PS X st (sD X.K W S)) : PSs X [st] (sD X.K W S) := pss_one h1
theorem ds_pass : PS X (.Pass pos) (sD X.K W sNil) := ps_pass.imp fun T σ H ⟨ρ, ι, μ, sr, wf, h⟩ => h.nx0 wf sr
theorem ds_brk : PS X (.Break pos) (sD X.K W sBrk) := ps_break.imp fun T σ H ⟨ρ, ι, μ, sr, wf, h⟩ => h σ ι H (Le.refl _ _) wf sr
theorem ds_cnt : PS X (.Continue pos) (sD X.K W sCnt) := ps_continue.imp fun T σ H ⟨ρ, ι, μ, sr, wf, h⟩ => h σ ι H (Le.refl _ _) wf sr
theorem ds_asgAux {i : Nat} {T : Ends} (σ : L2.St) (H : Hp) (h : sD X.K W (sAsg i E) T σ H) : tAsg (tE X.K W E) (gName i) T σ H := by
  obtain ⟨ρ, ι, μ, sr, wf, h⟩ := h
  refine tG.mono (PostS.bind sr wf h) ?_
  rintro x H1 ⟨ι1, μ1, d, l1, w1, vx, h1⟩
  exact h1.nx0 w1 ((sr.mono l1).set i vx)
theorem ds_set {i : Nat} {x : Str} {pos' : Pos} (hN : X.N.Nodup) (hi : X.N[i]? = some x) (hx : Loc X.env.scope x) (he : PE X e (tE X.K W E)) (hs : swapsWith e (some (.Name x pos')) pos.line X.env = pure false := by rfl)
    (hf : X.fn x = true ∨ X.env.scope.names.lookup x = some .local := by first | exact .inl rfl | exact .inr rfl | assumption) :
    PS X (.Assign [.Name x pos'] e pos) (sD X.K W (sAsg i E)) := (ps_set hN hi hx he hs hf).imp fun T σ H h => ds_asgAux σ H h
theorem ds_ret (he : PE X e (tE X.K W E)) : PS X (.Return (some e) pos) (sD X.K W (sRet E)) := (ps_ret he).imp fun T σ H ⟨ρ, ι, μ, sr, wf, h⟩ => by
  refine tG.mono (PostS.bind sr wf h) ?_
  rintro x H1 ⟨ι1, μ1, d, l1, w1, vx, h1⟩
  exact h1 ι1 H1 x (Le.refl _ _) w1 vx
theorem ds_retN : PS X (.Return none pos) (sD X.K W sRetN) := ps_retN.imp fun T σ H ⟨ρ, ι, μ, sr, wf, h⟩ => h ι H .non (Le.refl _ _) wf .non
theorem ds_expr (he : PE X e (tE X.K W E)) (hs : swapsWith e none pos.line X.env = pure false := by rfl) : PS X (.Expr e pos) (sD X.K W (sDrop E)) := (ps_expr he hs).imp fun T σ H ⟨ρ, ι, μ, sr, wf, h⟩ => by
  refine tG.mono (PostS.bind sr wf h) ?_
  rintro x H1 ⟨ι1, μ1, d, l1, w1, vx, h1⟩
  exact h1.nx0 w1 (sr.mono l1)
theorem ds_if {C : CM Bool} {sa sb : List Stmt} (hc : PT X c (tT X.K W C)) (ha : PSs X sa (sD X.K W S)) (hb : PSs X sb (sD X.K W S2)) : PS X (.If c sa sb pos) (sD X.K W (sIf C S S2)) := (ps_if hc ha hb).imp fun T σ H ⟨ρ, ι, μ, sr, wf, h⟩ => by
  refine tG.mono (PostS.bind sr wf h) ?_
  rintro k H1 ⟨ι1, μ1, d, l1, w1, rfl, h1⟩
  cases k with
  | true => exact ⟨ρ, ι1, μ1, sr.mono l1, w1, h1⟩
  | false => exact ⟨ρ, ι1, μ1, sr.mono l1, w1, h1⟩
theorem ds_par2 {i j : Nat} {x y : Str} {As : CM (List D)} {px py pt : Pos} {kt k2 pt2} (hc : X.calm = true) (hN : X.N.Nodup) (hi : X.N[i]? = some x) (hj : X.N[j]? = some y) (hij : i ≠ j)
    (hx : X.env.scope.names.lookup x = some .local) (hy : X.env.scope.names.lookup y = some .local) (ha : PA X [a, b] (tA X.K W As))
    (hw : swappedStores [.Tuple [.Name x px, .Name y py] kt pt] (.Tuple [a, b] k2 pt2) X.env = pure (some [x, y])) (hs : swapsWithSole [.Tuple [.Name x px, .Name y py] kt pt] (.Tuple [a, b] k2 pt2) pos.line X.env = pure false := by rfl) :
    PS X (.Assign [.Tuple [.Name x px, .Name y py] kt pt] (.Tuple [a, b] k2 pt2) pos) (sD X.K W (sPar2 i j As)) := (ps_par hc hN hi hj hij hx hy ha hw hs).imp fun T σ H ⟨ρ, ι, μ, sr, wf, h⟩ => by
  refine tG.mono (PostS.bind sr wf h) ?_
  rintro xs H1 ⟨ι1, μ1, ds, l1, w1, vx, h1⟩
  split at h1
  · obtain ⟨u, v, rfl, vu, vv⟩ := vx.two
    exact ⟨u, v, rfl, h1.nx0 w1 (((sr.mono l1).set i vu).set j vv)⟩
  · exact h1.elim
theorem ds_par3 {i j l : Nat} {x y z : Str} {As : CM (List D)} {px py pz pt : Pos} {kt k2 pt2} (hc : X.calm = true) (hN : X.N.Nodup) (hi : X.N[i]? = some x) (hj : X.N[j]? = some y) (hl : X.N[l]? = some z) (hij : i ≠ j) (hil : i ≠ l) (hjl : j ≠ l)
    (hx : X.env.scope.names.lookup x = some .local) (hy : X.env.scope.names.lookup y = some .local) (hz : X.env.scope.names.lookup z = some .local) (ha : PA X [a, b, c] (tA X.K W As))
    (hw : swappedStores [.Tuple [.Name x px, .Name y py, .Name z pz] kt pt] (.Tuple [a, b, c] k2 pt2) X.env = pure (some [x, y, z]))
    (hs : swapsWithSole [.Tuple [.Name x px, .Name y py, .Name z pz] kt pt] (.Tuple [a, b, c] k2 pt2) pos.line X.env = pure false := by rfl) :
    PS X (.Assign [.Tuple [.Name x px, .Name y py, .Name z pz] kt pt] (.Tuple [a, b, c] k2 pt2) pos) (sD X.K W (sPar3 i j l As)) := (ps_par3 hc hN hi hj hl hij hil hjl hx hy hz ha hw hs).imp fun T σ H ⟨ρ, ι, μ, sr, wf, h⟩ => by
  refine tG.mono (PostS.bind sr wf h) ?_
  rintro xs H1 ⟨ι1, μ1, ds, l1, w1, vx, h1⟩
  split at h1
  · cases vx with
    | cons vu vx =>
      obtain ⟨v, w, rfl, vv, vw⟩ := vx.two
      exact ⟨_, v, w, rfl, h1.nx0 w1 ((((sr.mono l1).set i vu).set j vv).set l vw)⟩
  · exact h1.elim
theorem ds_put {o i : Expr} {O I : CM D} {tpos : Pos} (he : PE X e (tE X.K W E)) (ho : PE X o (tE X.K W O)) (hi : PE X i (tE X.K W I))
    (hst : PG X (.Subscript o i tpos) (gSub (tE X.K W O) (tE X.K W I) rSetL)) (hs : swapsWithSole [.Subscript o i tpos] e pos.line X.env = pure false := by rfl) (hw : swappedStores [.Subscript o i tpos] e X.env = pure none := by rfl) : PS X (.Assign [.Subscript o i tpos] e pos) (sD X.K W (sPut O I E)) :=
  (ps_asg he hst hs hw).imp fun T σ H ⟨ρ, ι, μ, sr, wf, h⟩ => by
    refine tG.mono (PostS.bind sr wf h) ?_
    rintro v H1 ⟨ι1, μ1, dv, l1, w1, vv, h1⟩
    refine tG.mono (PostS.bind (sr.mono l1) w1 h1) ?_
    rintro o H2 ⟨ι2, μ2, d2, l2, w2, v2, h2⟩
    refine tG.mono (PostS.bind (sr.mono (l1.trans l2)) w2 h2) ?_
    rintro i H3 ⟨ι3, μ3, di, l3, w3, v3, h3⟩
    have vo := v2.mono l3
    have vv3 := vv.mono (l2.trans l3)
    split at h3
    · rename_i c k
      cases vo with
      | ref hc =>
      cases v3
      obtain ⟨ob, hob, ro⟩ := w3.has hc
      simp only [hob] at h3
      cases ob with
      | lst ds =>
        obtain ⟨vs, ea, rs⟩ := ro
        simp only [] at h3
        split at h3
        · rename_i j ej
          refine ⟨_, vs, k, j, rfl, rfl, ea, by rw [rs.length]; exact ej, ?_⟩
          refine h3 σ ι3 _ (Le.set hc (nf ea)) (w3.set hc (nf ea) ⟨_, upd_same, (rs.set vv3 j).mono (Le.set hc (nf ea))⟩) ((sr.mono (l1.trans (l2.trans l3))).mono (Le.set hc (nf ea)))
        · exact h3.elim
      | _ => exact h3.elim
    · exact h3.elim
theorem ds_aug {i : Nat} {x : Str} {op : Operator} {ti : TIp} {F : D → D → Store → Res D} {pos' : Pos} (hN : X.N.Nodup) (hi : X.N[i]? = some x) (hx : Loc X.env.scope x) (he : PE X e (tE X.K W E)) (ho : PIp X op ti) (hF : Lift2 X.K ti F) (hf : X.fn x = true ∨ X.env.scope.names.lookup x = some .local := by first | exact .inl rfl | exact .inr rfl | assumption) :
    PS X (.AugAssign (.Name x pos') op e pos) (sD X.K W (sAug i F E)) := (ps_aug hN hi hx he ho hf).imp fun T σ H ⟨ρ, ι, μ, sr, wf, h⟩ => by
  unfold sAug at h
  match e1 : ρ[i]?, h with
  | some (some x), h =>
    obtain ⟨v, a, b⟩ := sr.at' i x e1
    refine ⟨v, a, ?_⟩
    have h' := (PostS.bindP (R := VR X.K) sr h).mono (Q' := fun z H2 => T.nx (σ.set i (some z)) H2) (fun z H2 ⟨ι1, μ1, d, l1, w1, vz, h1⟩ => h1.nx0 w1 ((sr.mono l1).set i vz))
    refine tG.mono (PostG.bind sr wf h') ?_
    rintro y H1 ⟨ι1, μ1, d, l1, w1, vy, h1⟩
    exact hF W σ ι1 μ1 H1 v y x d _ w1 (b.mono l1) vy h1
end
end DM

namespace DM
open PySem PySem.Spec L2
/-! ### targets: a name, a tuple of names -/
def TgOk (K : PySem.W.Frag) (g : TG) (f : D → Rho → Option Rho) (own : List Nat) : Prop :=
  ∀ v d σ ρ ρ' ι μ H (Q : L2.St → Hp → Prop), SR K ι H σ ρ → WF K ι μ H → VR K ι H v d → f d ρ = some ρ' → (∀ σ', SR K ι H σ' ρ' → wipe σ' own = wipe σ own → Q σ' H) → g v σ H Q
theorem wipe_set {σ : L2.St} {i : Nat} {x : Option V} : ∀ {vs : List Nat}, i ∈ vs → wipe (σ.set i x) vs = wipe σ vs
  | [], h => by simp at h
  | v :: vs, h => by
    unfold wipe
    by_cases e : i ∈ vs
    · rw [wipe_set e]
    · have e' : i = v := by
        rcases List.mem_cons.mp h with z | z
        · exact z
        · exact absurd z e
      subst e'
      have q : ∀ (ws : List Nat) (τ : L2.St), i ∉ ws → wipe (τ.set i x) ws = (wipe τ ws).set i x := by
        intro ws
        induction ws with
        | nil => intro τ _; rfl
        | cons w ws ih =>
          intro τ n
          have n1 : i ≠ w := fun z => n (by rw [z]; exact List.mem_cons_self)
          have n2 : i ∉ ws := fun z => n (List.mem_cons_of_mem _ z)
          unfold wipe
          rw [ih τ n2, List.set_comm _ _ n1]
      rw [q vs σ e, List.set_set]
def fName (i : Nat) : D → Rho → Option Rho := fun d ρ => some (ρ.set i (some d))
def setAll : List Nat → List D → Rho → Option Rho
  | [], [], ρ => some ρ
  | i :: r, d :: t, ρ => setAll r t (ρ.set i (some d))
  | _, _, _ => none
def fTup (is : List Nat) : D → Rho → Option Rho := fun d ρ => match d with
  | .tup ds => setAll is ds ρ
  | _ => none
def gNames : List Nat → TGs
  | [] => gNil
  | i :: r => gCons (gName i) (gNames r)
section
variable {K : PySem.W.Frag}
theorem tg_name {i : Nat} {own : List Nat} (h : i ∈ own) : TgOk K (gName i) (fName i) own := by
  intro v d σ ρ ρ' ι μ H Q sr wf vr e q
  cases e
  exact q _ (sr.set i vr) (wipe_set h)
theorem tg_names {own : List Nat} : ∀ (is : List Nat), (∀ i ∈ is, i ∈ own) → ∀ (vs : List V) (ds : List D) (σ σ0 : L2.St) (ρ ρ' : Rho) (ι : List Addr) (H : Hp) (Q : L2.St → Hp → Prop), SR K ι H σ ρ → VRs K ι H vs ds → setAll is ds ρ = some ρ' → wipe σ own = wipe σ0 own → (∀ σ', SR K ι H σ' ρ' → wipe σ' own = wipe σ0 own → Q σ' H) → gNames is vs σ H Q
  | [], hi, vs, ds, σ, σ0, ρ, ρ', ι, H, Q, sr, vr, e, z, q => by
    cases vr with
    | nil => simp only [setAll] at e; cases e; exact ⟨rfl, q σ sr z⟩
    | cons a b => simp [setAll] at e
  | i :: r, hi, vs, ds, σ, σ0, ρ, ρ', ι, H, Q, sr, vr, e, z, q => by
    cases vr with
    | nil => simp [setAll] at e
    | cons a b =>
      simp only [setAll] at e
      refine ⟨_, _, rfl, ?_⟩
      exact tg_names r (fun j hj => hi j (List.mem_cons_of_mem _ hj)) _ _ _ σ0 _ ρ' ι H Q (sr.set i a) b e (by rw [wipe_set (hi i List.mem_cons_self)]; exact z) q
theorem setAll_len : ∀ (is : List Nat) (ds : List D) (ρ ρ' : Rho), setAll is ds ρ = some ρ' → ds.length = is.length
  | [], [], _, _, _ => rfl
  | [], _ :: _, _, _, e => by simp [setAll] at e
  | _ :: _, [], _, _, e => by simp [setAll] at e
  | i :: r, d :: t, ρ, ρ', e => by simp only [setAll] at e; simp [setAll_len r t _ _ e]
theorem tg_tup {is own : List Nat} {n : Nat} (hn : is.length = n) (h : ∀ i ∈ is, i ∈ own) : TgOk K (gTup K n (gNames is)) (fTup is) own := by
  intro v d σ ρ ρ' ι μ H Q sr wf vr e q
  cases vr with
  | tup hh r => exact ⟨_, _, rfl, hh.sq, by rw [r.length, setAll_len _ _ _ _ e]; exact hn, tg_names is h _ _ σ σ ρ ρ' ι H Q sr r e rfl q⟩
  | _ => simp [fTup] at e
end
/-! ### what is walked -/
abbrev IV := List D × (Store → Bool)
def ItR (K : PySem.W.Frag) (ι0 : List Addr) (H0 : Hp) (J : It) (p : IV) : Prop :=
  ∀ (i : Nat) ι μ H, Le ι0 H0 ι H → WF K ι μ H → p.2 μ = true → (∀ d, p.1[i]? = some d → J.go i H ∧ ∀ x H', J.yld i H x H' → Le ι H ι H' ∧ WF K ι μ H' ∧ VR K ι H' x d) ∧ (p.1.length ≤ i → J.stop i H)
abbrev tI (K : PySem.W.Frag) (W : DW) (I : CM IV) : TI := tG (ItR K) K W I
def anyG : Store → Bool := fun _ => true
def isLst (c : Nat) (xs : List D) : Store → Bool := fun μ => match μ[c]? with
  | some (.lst ys) => beqs ys xs
  | _ => false
def iSeq (E : CM D) : CM IV := E.bind fun d _ μ => match d with
  | .lst xs => some (.ok (xs, anyG), μ)
  | .fl xs => some (.ok (xs, anyG), μ)
  | .ref c => match μ[c]? with
    | some (.lst xs) => some (.ok (xs, isLst c xs), μ)
    | _ => none
  | _ => none
def iTupD (E : CM D) : CM IV := E.bind fun d _ μ => match d with
  | .tup xs => some (.ok (xs, anyG), μ)
  | _ => none
def rngD (lo : Int) (n : Nat) : List D := (List.range n).map fun (i : Nat) => .int (lo + i)
def iRg1 (E : CM (List D)) : CM IV := E.bind fun ds _ μ => match ds with
  | [.int j] => if -(2 ^ 62) ≤ j ∧ j < 2 ^ 62 then some (.ok (rngD 0 j.toNat, anyG), μ) else none
  | _ => none
def iRg2 (E : CM (List D)) : CM IV := E.bind fun ds _ μ => match ds with
  | [.int i, .int j] => if -(2 ^ 62) ≤ i ∧ i < 2 ^ 62 ∧ -(2 ^ 62) ≤ j ∧ j < 2 ^ 62 then some (.ok (rngD i (j - i).toNat, anyG), μ) else none
  | _ => none
section
variable {K : PySem.W.Frag} {ι : List Addr} {H : Hp}
theorem itr_lst {a : Addr} {vs : List V} {ds : List D} (h : LstAt ι H a vs) (r : VRs K ι H vs ds) : ItR K ι H (Itl K a) (ds, anyG) := by
  intro i ι' μ H' l w _
  have h' := (h.mono l).sq (K := K)
  have r' := r.mono l
  refine ⟨fun d e => ?_, fun e => ⟨vs, h', by rw [r.length]; exact e⟩⟩
  obtain ⟨v, e1, q⟩ := r'.get e
  refine ⟨⟨vs, v, h', e1⟩, fun x H'' y => ?_⟩
  obtain ⟨rfl, y⟩ := y
  have z := y vs h'
  rw [e1] at z
  cases z
  exact ⟨Le.refl _ _, w, q⟩
theorem itr_fl {a : Addr} {vs : List V} {ds : List D} (h : FlAt K ι H a vs) (r : VRs K ι H vs ds) : ItR K ι H (Itl K a) (ds, anyG) := by
  intro i ι' μ H' l w _
  have h' := (h.mono l).sq (K := K)
  have r' := r.mono l
  refine ⟨fun d e => ?_, fun e => ⟨vs, h', by rw [r.length]; exact e⟩⟩
  obtain ⟨v, e1, q⟩ := r'.get e
  refine ⟨⟨vs, v, h', e1⟩, fun x H'' y => ?_⟩
  obtain ⟨rfl, y⟩ := y
  have z := y vs h'
  rw [e1] at z
  cases z
  exact ⟨Le.refl _ _, w, q⟩
theorem itr_tup {a : Addr} {vs : List V} {ds : List D} (h : TupAt K ι H a vs) (r : VRs K ι H vs ds) : ItR K ι H (Itt K a) (ds, anyG) := by
  intro i ι' μ H' l w _
  have h' := (h.mono l).sq (K := K)
  have r' := r.mono l
  refine ⟨fun d e => ?_, fun e => ⟨vs, h', by rw [r.length]; exact e⟩⟩
  obtain ⟨v, e1, q⟩ := r'.get e
  refine ⟨⟨vs, v, h', e1⟩, fun x H'' y => ?_⟩
  obtain ⟨rfl, y⟩ := y
  have z := y vs h'
  rw [e1] at z
  cases z
  exact ⟨Le.refl _ _, w, q⟩
theorem itr_cell {c : Nat} {a : Addr} {ds : List D} (hc : ι[c]? = some a) : ItR K ι H (Itl K a) (ds, isLst c ds) := by
  intro i ι' μ H' l w g
  have hc' := l.pre _ _ hc
  obtain ⟨o, ho, ro⟩ := w.has hc'
  have g' : (match μ[c]? with | some (Ob.lst ys) => beqs ys ds | _ => false) = true := g
  rw [ho] at g'
  cases o with
  | lst ys =>
    have e0 : ys = ds := beqs_eq _ _ g'
    subst e0
    obtain ⟨vs, ea, r⟩ := ro
    have h' : SqL K H' a vs := .inl (.inl ea)
    refine ⟨fun d e => ?_, fun e => ⟨vs, h', by rw [r.length]; exact e⟩⟩
    obtain ⟨v, e1, q⟩ := r.get e
    refine ⟨⟨vs, v, h', e1⟩, fun x H'' y => ?_⟩
    obtain ⟨rfl, y⟩ := y
    have z := y vs h'
    rw [e1] at z
    cases z
    exact ⟨Le.refl _ _, w, q⟩
  | _ => cases g'
theorem itr_rng (lo : Int) (n : Nat) : ItR K ι H (Itr lo n) (rngD lo n, anyG) := by
  intro i ι' μ H' l w _
  refine ⟨fun d e => ?_, fun e => ?_⟩
  · have hl : i < n := by
      have := (List.getElem?_eq_some_iff.mp e).1
      simpa [rngD] using this
    refine ⟨hl, fun x H'' y => ?_⟩
    obtain ⟨rfl, rfl⟩ := y
    have e' : d = .int (lo + i) := by
      have : (rngD lo n)[i]? = some d := e
      unfold rngD at this
      rw [List.getElem?_map, List.getElem?_range hl] at this
      cases this; rfl
    subst e'
    exact ⟨Le.refl _ _, w, .int _⟩
  · have : (rngD lo n).length ≤ i := e
    unfold rngD at this
    simp at this
    exact this
end
section
variable {X : Cx} {W : DW} {e tg : Expr} {E : CM D} {As : CM (List D)} {pos p : Pos} {a b : Expr}
theorem di_seq (he : PE X e (tE X.K W E)) : PI X tg e (tI X.K W (iSeq E)) := (pi_list he).imp fun σ H R ⟨ρ, ι, μ, sr, wf, h⟩ => by
  refine tG.mono (PostG.bind sr wf h) ?_
  rintro x H1 ⟨ι1, μ1, d, l1, w1, vx, h1⟩
  cases vx with
  | lst hh r => exact ⟨_, rfl, ⟨_, hh.sq⟩, PostG.ok0 h1 w1 (itr_lst hh r)⟩
  | fl hh r => exact ⟨_, rfl, ⟨_, hh.sq⟩, PostG.ok0 h1 w1 (itr_fl hh r)⟩
  | ref hc =>
    obtain ⟨o, ho, ro⟩ := w1.has hc
    simp only [ho] at h1
    cases o with
    | lst ds =>
      obtain ⟨vs, ea, r⟩ := ro
      exact ⟨_, rfl, ⟨_, .inl (.inl ea)⟩, PostG.ok0 h1 w1 (itr_cell hc)⟩
    | _ => exact h1.elim
  | _ => exact h1.elim
theorem di_tup (he : PE X e (tE X.K W E)) : PI X tg e (tI X.K W (iTupD E)) := (pi_tup he).imp fun σ H R ⟨ρ, ι, μ, sr, wf, h⟩ => by
  refine tG.mono (PostG.bind sr wf h) ?_
  rintro x H1 ⟨ι1, μ1, d, l1, w1, vx, h1⟩
  cases vx with
  | tup hh r => exact ⟨_, rfl, ⟨_, hh.sq⟩, PostG.ok0 h1 w1 (itr_tup hh r)⟩
  | _ => exact h1.elim
theorem di_rg1 (hg : Gl X "range") (hm : X.mg "range" = none) (ha : PA X [a] (tA X.K W As)) (hs : starEach [a] X.env = [(false, eval a X.env)] := by rfl) : PI X tg (.Call (.Name "range" p) [a] [] pos) (tI X.K W (iRg1 As)) :=
  (pi_range1 hg hm ha hs).imp fun σ H R ⟨ρ, ι, μ, sr, wf, h⟩ => by
    refine tG.mono (PostG.bind sr wf h) ?_
    rintro xs H1 ⟨ι1, μ1, ds, l1, w1, vx, h1⟩
    split at h1
    · obtain ⟨x, rfl, v1⟩ := vx.one
      cases v1
      obtain ⟨q, h1⟩ := PostG.guard h1
      exact ⟨_, rfl, q.1, q.2, PostG.ok0 h1 w1 (itr_rng 0 _)⟩
    · exact h1.elim
theorem di_rg2 (hg : Gl X "range") (hm : X.mg "range" = none) (ha : PA X [a, b] (tA X.K W As)) (hs : starEach [a, b] X.env = [(false, eval a X.env), (false, eval b X.env)] := by rfl) (hs2 : starEach [b] X.env = [(false, eval b X.env)] := by rfl) : PI X tg (.Call (.Name "range" p) [a, b] [] pos) (tI X.K W (iRg2 As)) :=
  (pi_range2 hg hm ha hs hs2).imp fun σ H R ⟨ρ, ι, μ, sr, wf, h⟩ => by
    refine tG.mono (PostG.bind sr wf h) ?_
    rintro xs H1 ⟨ι1, μ1, ds, l1, w1, vx, h1⟩
    split at h1
    · obtain ⟨x, y, rfl, v1, v2⟩ := vx.two
      cases v1; cases v2
      obtain ⟨q, h1⟩ := PostG.guard h1
      exact ⟨_, _, rfl, q, PostG.ok0 h1 w1 (itr_rng _ _)⟩
    · exact h1.elim
end
/-! ### for -/
def loop (gd : Store → Bool) (g : D → Rho → Option Rho) (S : SF) : List D → SF
  | [] => fun ρ μ => if gd μ = true then some (.nx ρ, μ) else none
  | d :: r => fun ρ μ => if gd μ = true then (match g d ρ with
      | some ρ1 => match S ρ1 μ with
        | some (.nx ρ2, μ2) => loop gd g S r ρ2 μ2
        | some (.ct ρ2, μ2) => loop gd g S r ρ2 μ2
        | some (.bk ρ2, μ2) => some (.nx ρ2, μ2)
        | some (.rt d, μ2) => some (.rt d, μ2)
        | some (.ex x ρ2, μ2) => some (.ex x ρ2, μ2)
        | none => none
      | none => none) else none
def sFor (I : CM IV) (g : D → Rho → Option Rho) (S : SF) : SF := lft I fun p => loop p.2 g S p.1
theorem ds_for {X : Cx} {W : DW} {tg iter : Expr} {body : List Stmt} {I : CM IV} {g : TG} {f : D → Rho → Option Rho} {own : List Nat} {S : SF} {pos : Pos} (hp : PassesOwn (model X.prog X.w) X.A X.env X.xe) (hc : X.calm = true) (hi : PI X tg iter (tI X.K W I)) (hg : PG X tg g) (ht : TgOk X.K g f own) (hb : PSs X body (sD X.K W S))
    (hs : ∀ x, foldedSetIterable iter X.env x = pure x := by intro _; rfl) : PS X (.For tg iter body [] pos) (sD X.K W (sFor I f S)) := (ps_for hp hc hi hg hb hs).imp fun T σ H ⟨ρ, ι, μ, sr, wf, h⟩ => by
  refine tG.mono (PostS.bind sr wf h) ?_
  rintro J H1 ⟨ι1, μ1, ⟨items, gd⟩, l1, w1, hJ, h1⟩
  have h1 : PostS X.K W T ι1 H1 (loop gd f S items ρ μ1) := h1
  refine ⟨fun i m σ' H' => ∃ ρ' ι' μ', SR X.K ι' H' σ' ρ' ∧ WF X.K ι' μ' H' ∧ Le ι1 H1 ι' H' ∧ m = items.length - i ∧ i ≤ items.length ∧ PostS X.K W T ι' H' (loop gd f S (items.drop i) ρ' μ'),
    ⟨items.length, ρ, ι1, μ1, sr.mono l1, w1, Le.refl _ _, rfl, Nat.zero_le _, h1⟩, ?_⟩
  rintro i m σ2 H2 ⟨ρ2, ι2, μ2, sr2, w2, l2, rfl, hi2, h2⟩
  by_cases hlt : i < items.length
  · refine .inr ?_
    rw [List.drop_eq_getElem_cons hlt] at h2
    obtain ⟨hgd, h2⟩ := PostS.guard h2
    obtain ⟨go, _⟩ := hJ i ι2 μ2 H2 l2 w2 hgd
    obtain ⟨jg, jy⟩ := go _ (List.getElem?_eq_getElem hlt)
    refine ⟨jg, fun σ' H' => ∃ ρ' ι' μ', SR X.K ι' H' σ' ρ' ∧ WF X.K ι' μ' H' ∧ Le ι1 H1 ι' H' ∧ PostS X.K W T ι' H' (loop gd f S (items.drop (i + 1)) ρ' μ'), fun σ' H' ⟨ρ', ι', μ', a, b, c, d⟩ => ⟨items.length - (i + 1), by omega, ρ', ι', μ', a, b, c, rfl, hlt, d⟩, fun x H3 y => ?_⟩
    obtain ⟨l3, w3, v3⟩ := jy x H3 y
    split at h2
    · rename_i ρ3 eg
      refine ht x _ σ2 ρ2 ρ3 ι2 μ2 H3 _ (sr2.mono l3) w3 v3 eg fun σ3 sr3 _ => ⟨ρ3, ι2, μ2, sr3, w3, ?_⟩
      have h3 := PostS.from l3 h2
      have L := l2.trans l3
      match S ρ3 μ2, h3 with
      | some (.nx ρ4, μ4), h3 => exact fun σ4 ι4 H4 l w s => ⟨ρ4, ι4, μ4, s, w, L.trans l, PostS.from l h3⟩
      | some (.ct ρ4, μ4), h3 => exact fun σ4 ι4 H4 l w s => ⟨ρ4, ι4, μ4, s, w, L.trans l, PostS.from l h3⟩
      | some (.bk ρ4, μ4), h3 => exact h3
      | some (.rt d, μ4), h3 => exact h3
      | some (.ex x ρ4, μ4), h3 => exact h3
    · exact h2.elim
  · have e : i = items.length := by omega
    subst e
    rw [List.drop_length] at h2
    obtain ⟨hgd, h2⟩ := PostS.guard h2
    obtain ⟨_, st⟩ := hJ items.length ι2 μ2 H2 l2 w2 hgd
    exact .inl ⟨st (Nat.le_refl _), h2.nx0 w2 sr2⟩
end DM

namespace DM
open PySem PySem.Spec L2
/-! ### list comprehensions: the new list is a cell -/
def wipeR (ρ : Rho) : List Nat → Rho
  | [] => ρ
  | v :: vs => (wipeR ρ vs).set v none
theorem SR.unset {K : PySem.W.Frag} {ι : List Addr} {H : Hp} {σ : L2.St} {ρ : Rho} (s : SR K ι H σ ρ) (i : Nat) : SR K ι H (σ.set i none) (ρ.set i none) := by
  refine ⟨by simp [s.len], fun j e hj => ?_⟩
  by_cases z : i = j
  · subst z
    have hl : i < (ρ.set i none).length := (List.getElem?_eq_some_iff.mp hj).1
    rw [List.length_set] at hl
    rw [List.getElem?_set_self hl] at hj
    cases hj
  · rw [List.getElem?_set_ne z] at hj
    obtain ⟨w, a, b⟩ := s.at' j e hj
    exact ⟨w, by rw [List.getElem?_set_ne z]; exact a, b⟩
theorem SR.wipe {K : PySem.W.Frag} {ι : List Addr} {H : Hp} {σ : L2.St} {ρ : Rho} (s : SR K ι H σ ρ) : ∀ vs : List Nat, SR K ι H (L2.wipe σ vs) (wipeR ρ vs)
  | [] => s
  | v :: vs => (SR.wipe s vs).unset v
theorem wipe_sub {σ : L2.St} {vs : List Nat} : ∀ us : List Nat, (∀ u ∈ us, u ∈ vs) → wipe (wipe σ us) vs = wipe σ vs
  | [], _ => rfl
  | u :: us, h => by
    show wipe ((wipe σ us).set u none) vs = wipe σ vs
    rw [wipe_set (h u List.mem_cons_self)]
    exact wipe_sub us fun z hz => h z (List.mem_cons_of_mem _ hz)
def lcLoop (gd : Store → Bool) (g : D → Rho → Option Rho) (T : CM Bool) (E : CM D) (c : Nat) : List D → CM D
  | [] => fun _ μ => if gd μ = true then okR (.ref c) μ else none
  | d :: r => fun ρ μ => if gd μ = true then (match g d ρ with
      | some ρ1 => match T ρ1 μ with
        | some (.ok true, μ1) => match E ρ1 μ1 with
          | some (.ok y, μ2) => match μ2[c]? with
            | some (.lst acc) => if acc.length < sizeLine then lcLoop gd g T E c r ρ (μ2.set c (.lst (acc ++ [y]))) else none
            | _ => none
          | _ => none
        | some (.ok false, μ1) => lcLoop gd g T E c r ρ μ1
        | _ => none
      | none => none) else none
def eLC (I : CM IV) (g : D → Rho → Option Rho) (T : CM Bool) (E : CM D) (own : List Nat) : CM D := I.bind fun p ρ μ => lcLoop p.2 g T E μ.length p.1 (wipeR ρ own) (μ ++ [.lst []])
abbrev bYes : CM Bool := CM.ret true
section
variable {X : Cx} {W : DW}
theorem dts_nil : PTs X [] (tT X.K W bYes) := ⟨fun pins s σ H Q I ⟨ρ, ι, μ, sr, wf, h⟩ => pts_nil.run pins s σ H Q I (PostG.ok0 h wf rfl)⟩
theorem dts_one {c : Expr} {T : CM Bool} (h : PT X c (tT X.K W T)) : PTs X [c] (tT X.K W T) := pts_one h
theorem lcAux {K : PySem.W.Frag} {I : CM IV} {g : TG} {f : D → Rho → Option Rho} {T : CM Bool} {E : CM D} {vs : List Nat} (ht : TgOk K g f vs) (σ : L2.St) (H : Hp) (Q : VK) (h : tE K W (eLC I f T E vs) σ H Q) : tLc (tI K W I) g (tT K noX T) (tE K noX E) vs σ H Q := by
  obtain ⟨ρ, ι, μ, sr, wf, h⟩ := h
  refine tG.mono (PostG.bind sr wf h) ?_
  rintro J H1 ⟨ι1, μ1, ⟨items, gd⟩, l1, w1, hJ, h1⟩ Dd hD
  have h1 : PostG (VR K) K W σ ι1 H1 Q (lcLoop gd f T E μ1.length items (wipeR ρ vs) (μ1 ++ [.lst []])) := h1
  have lc := Le.cell (ι := ι1) (o := HO.lst []) hD
  have wc : WF K (ι1 ++ [Dd]) (μ1 ++ [.lst []]) (upd H1 Dd (.lst [])) := w1.cell hD ⟨[], upd_same, .nil⟩
  have hcc : (ι1 ++ [Dd])[μ1.length]? = some Dd := by rw [← w1.len]; simp
  have h1' := PostG.from lc h1
  refine ⟨fun i m H' => ∃ ι' μ', WF K ι' μ' H' ∧ Le (ι1 ++ [Dd]) (upd H1 Dd (.lst [])) ι' H' ∧ m = items.length - i ∧ i ≤ items.length ∧ PostG (VR K) K W σ ι' H' Q (lcLoop gd f T E μ1.length (items.drop i) (wipeR ρ vs) μ'),
    ⟨items.length, ι1 ++ [Dd], μ1 ++ [Ob.lst []], wc, Le.refl _ _, rfl, Nat.zero_le _, by rw [List.drop_zero]; exact h1'⟩, ?_⟩
  rintro i m H2 ⟨ι2, μ2, w2, l2, rfl, hi2, h2⟩
  have sr2 : SR K ι2 H2 (wipe σ vs) (wipeR ρ vs) := (sr.mono (l1.trans (lc.trans l2))).wipe vs
  have hcD : ι2[μ1.length]? = some Dd := l2.pre _ _ hcc
  by_cases hlt : i < items.length
  · refine .inr ?_
    rw [List.drop_eq_getElem_cons hlt] at h2
    obtain ⟨hgd, h2⟩ := PostG.guard h2
    obtain ⟨go, _⟩ := hJ i ι2 μ2 H2 (lc.trans l2) w2 hgd
    obtain ⟨jg, jy⟩ := go _ (List.getElem?_eq_getElem hlt)
    refine ⟨jg, fun H' => ∃ ι' μ', WF K ι' μ' H' ∧ Le (ι1 ++ [Dd]) (upd H1 Dd (.lst [])) ι' H' ∧ PostG (VR K) K W σ ι' H' Q (lcLoop gd f T E μ1.length (items.drop (i + 1)) (wipeR ρ vs) μ'), fun H' ⟨ι', μ', a, b, c⟩ => ⟨items.length - (i + 1), by omega, ι', μ', a, b, rfl, hlt, c⟩, fun x H3 y => ?_⟩
    obtain ⟨l3, w3, v3⟩ := jy x H3 y
    split at h2
    · rename_i ρ3 eg
      refine ht x _ (wipe σ vs) (wipeR ρ vs) ρ3 ι2 μ2 H3 _ (sr2.mono l3) w3 v3 eg fun σ3 sr3 hw => ⟨hw.trans (wipe_sub vs fun _ z => z), ρ3, ι2, μ2, sr3, w3, ?_⟩
      have h3 := PostG.from l3 h2
      have L := l2.trans l3
      match T ρ3 μ2, h3 with
      | some (.ok true, μ4), h3 =>
        intro ι4 H4 b l4 w4 eb
        subst eb
        rw [if_pos rfl]
        refine ⟨ρ3, ι4, μ4, sr3.mono l4, w4, ?_⟩
        have h4 := PostG.from l4 h3
        simp only [] at h4
        generalize E ρ3 μ4 = rE at h4 ⊢
        match rE, h4 with
        | some (.ok yd, μ5), h4 =>
          intro ι5 H5 yv l5 w5 vy
          have hc5 := l5.pre _ _ (l4.pre _ _ hcD)
          obtain ⟨o, ho, ro⟩ := w5.has hc5
          simp only [ho] at h4
          cases o with
          | lst acc =>
            obtain ⟨av, ea, ra⟩ := ro
            obtain ⟨q, h4⟩ := PostG.guard h4
            refine ⟨av, ea, by rw [ra.length]; exact q, ι5, _, w5.set hc5 (nf ea) (OR.mkL upd_same ((ra.append (.cons vy .nil)).mono (Le.set hc5 (nf ea)))), ((L.trans l4).trans l5).trans (Le.set hc5 (nf ea)), PostG.from (l5.trans (Le.set hc5 (nf ea))) h4⟩
          | _ => exact h4.elim
      | some (.ok false, μ4), h3 =>
        intro ι4 H4 b l4 w4 eb
        subst eb
        rw [if_neg Bool.false_ne_true]
        exact ⟨ι4, μ4, w4, L.trans l4, PostG.from l4 h3⟩
    · exact h2.elim
  · have e : i = items.length := by omega
    subst e
    rw [List.drop_length] at h2
    obtain ⟨hgd, h2⟩ := PostG.guard h2
    obtain ⟨_, st⟩ := hJ items.length ι2 μ2 H2 (lc.trans l2) w2 hgd
    exact .inl ⟨st (Nat.le_refl _), h2.ok0 w2 (.ref hcD)⟩
theorem d_lc {elt tg iter : Expr} {ifs : List Expr} {scope : Scope} {own : List (Str × Nat)} {pos : Pos} {I : CM IV} {g : TG} {f : D → Rho → Option Rho} {T : CM Bool} {E : CM D} (hc : X.calm = true) (hN : X.N.Nodup) (hi : PI X tg iter (tI X.K W I)) (ok : BlkOk X.N X.env.scope scope own)
    (hg : ∀ (s : Shared) (H : Hp) (C : Addr) (cl : List (Str × Addr)) (fp : List Addr), PG (X.blk s H scope (compEnvC scope cl C X.env) fp) tg g) (htg : TgOk X.K g f (own.map (·.2)))
    (ht : ∀ (s : Shared) (H : Hp) (C : Addr) (cl : List (Str × Addr)) (fp : List Addr), PTs (X.blk s H scope (compEnvC scope cl C X.env) fp) ifs (tT X.K noX T))
    (he : ∀ (s : Shared) (H : Hp) (C : Addr) (cl : List (Str × Addr)) (fp : List Addr), PE (X.blk s H scope (compEnvC scope cl C X.env) fp) elt (tE X.K noX E)) (hs : ∀ x, foldedSetIterable iter X.env x = pure x := by intro _; rfl) :
    PE X (.ListComp elt [⟨tg, iter, ifs, 0⟩] scope pos) (tE X.K W (eLC I f T E (own.map (·.2)))) := (pe_lc hc hN hi ok hg ht he hs).imp (lcAux htg)
end
/-! ### sealing: what was made within, and is reached by the result alone, is data -/
mutual
def noRef (n : Nat) : D → Bool
  | .non => true
  | .bl _ => true
  | .int _ => true
  | .str _ => true
  | .tup xs => noRefs n xs
  | .lst xs => noRefs n xs
  | .fl xs => noRefs n xs
  | .ref i => decide (i < n)
def noRefs (n : Nat) : List D → Bool
  | [] => true
  | x :: r => noRef n x && noRefs n r
end
def obOk (n : Nat) : Ob → Bool
  | .lst xs => noRefs n xs
  | .obj _ fs => noRefs n (fs.map (·.2))
  | .dct kvs => noRefs n (kvs.map (·.2))
  | .dcl kvs => noRefs n (kvs.map (·.2))
  | .dtt kvs => noRefs n (kvs.map (·.2))
def mapO (f : D → Option D) : List D → Option (List D)
  | [] => some []
  | x :: r => match f x, mapO f r with
    | some y, some t => some (y :: t)
    | _, _ => none
def unref (n : Nat) (μ : Store) : Nat → D → Option D
  | 0, d => if noRef n d = true then some d else none
  | k + 1, d => if noRef n d = true then some d else match d with
    | .tup xs => (mapO (unref n μ k) xs).map .tup
    | .lst xs => (mapO (unref n μ k) xs).map .lst
    | .ref i => match μ[i]? with
      | some (.lst xs) => (mapO (unref n μ k) xs).map .lst
      | _ => none
    | _ => none
def sealR (n : Nat) (r : Res D) : Res D := match r with
  | some (.ok d, μ') => if (μ'.take n).all (obOk n) = true then (match unref n μ' 4 d with
    | some d' => some (.ok d', μ'.take n)
    | none => none) else none
  | some (.error x, μ') => some (.error x, μ')
  | none => none
def eSeal (E : CM D) : CM D := fun ρ μ => sealR μ.length (E ρ μ)
section
variable {K : PySem.W.Frag} {ι ι' : List Addr} {H' : Hp} {n : Nat}
mutual
theorem VR.cut (hn : ∀ i a, i < n → ι'[i]? = some a → ι[i]? = some a) (hs : ∀ a, a ∈ ι → a ∈ ι') : ∀ {v : V} {d : D}, VR K ι' H' v d → noRef n d = true → VR K ι H' v d
  | _, _, .non, _ => .non
  | _, _, .bl b, _ => .bl b
  | _, _, .int i, _ => .int i
  | _, _, .str x, _ => .str x
  | _, _, .tup h r, e => .tup (h.imp (fun z => ⟨z.1, fun m => z.2 (hs _ m)⟩) (Or.imp id fun z => ⟨z.1, fun m => z.2.1 (hs _ m), z.2.2⟩)) (VRs.cut hn hs r (by simpa [noRef] using e))
  | _, _, .lst h r, e => .lst ⟨h.1, fun m => h.2 (hs _ m)⟩ (VRs.cut hn hs r (by simpa [noRef] using e))
  | _, _, .fl h r, e => .fl (h.imp (fun z => ⟨z.1, fun m => z.2 (hs _ m)⟩) id) (VRs.cut hn hs r (by simpa [noRef] using e))
  | _, _, .ref h, e => .ref (hn _ _ (by simpa [noRef] using e) h)
theorem VRs.cut (hn : ∀ i a, i < n → ι'[i]? = some a → ι[i]? = some a) (hs : ∀ a, a ∈ ι → a ∈ ι') : ∀ {vs : List V} {ds : List D}, VRs K ι' H' vs ds → noRefs n ds = true → VRs K ι H' vs ds
  | _, _, .nil, _ => .nil
  | _, _, .cons h r, e => by
    simp only [noRefs, Bool.and_eq_true] at e
    exact .cons (VR.cut hn hs h e.1) (VRs.cut hn hs r e.2)
end
theorem unref_vr {μ' : Store} (w : WF K ι' μ' H') (hn : ∀ i a, i < n → ι'[i]? = some a → ι[i]? = some a) (hs : ∀ a, a ∈ ι → a ∈ ι') (ho : ∀ (i : Nat) a, ι'[i]? = some a → ¬ i < n → a ∉ ι) :
    ∀ (k : Nat) (v : V) (d d' : D), VR K ι' H' v d → unref n μ' k d = some d' → VR K ι H' v d' := by
  intro k
  induction k with
  | zero =>
    intro v d d' h e
    unfold unref at e
    by_cases z : noRef n d = true
    · rw [if_pos z] at e; cases e; exact h.cut hn hs z
    · rw [if_neg z] at e; cases e
  | succ k ih =>
    intro v d d' h e
    have all : ∀ (ds : List D) (vs : List V) (ds' : List D), VRs K ι' H' vs ds → mapO (unref n μ' k) ds = some ds' → VRs K ι H' vs ds' := by
      intro ds
      induction ds with
      | nil => intro vs ds' r e; cases r; simp only [mapO] at e; cases e; exact .nil
      | cons x t iht =>
        intro vs ds' r e
        cases r with
        | cons a b =>
          simp only [mapO] at e
          match e1 : unref n μ' k x, e2 : mapO (unref n μ' k) t, e with
          | some y, some u, e => cases e; exact .cons (ih _ _ _ a e1) (iht _ _ b e2)
    unfold unref at e
    by_cases z : noRef n d = true
    · rw [if_pos z] at e; cases e; exact h.cut hn hs z
    · rw [if_neg z] at e
      cases h with
      | tup hh r =>
        obtain ⟨t, e1, rfl⟩ := Option.map_eq_some_iff.mp e
        exact .tup (hh.imp (fun z => ⟨z.1, fun m => z.2 (hs _ m)⟩) (Or.imp id fun z => ⟨z.1, fun m => z.2.1 (hs _ m), z.2.2⟩)) (all _ _ _ r e1)
      | lst hh r =>
        obtain ⟨t, e1, rfl⟩ := Option.map_eq_some_iff.mp e
        exact .lst ⟨hh.1, fun m => hh.2 (hs _ m)⟩ (all _ _ _ r e1)
      | ref hi =>
        rename_i a i
        have hi' : ¬ i < n := by simpa [noRef] using z
        obtain ⟨o, hob, ro⟩ := w.has hi
        simp only [hob] at e
        cases o with
        | lst xs =>
          obtain ⟨t, e1, rfl⟩ := Option.map_eq_some_iff.mp e
          obtain ⟨vs, ea, r⟩ := ro
          exact .lst ⟨ea, ho _ _ hi hi'⟩ (all _ _ _ r e1)
        | _ => cases e
      | _ => cases e
end
theorem sealAux {K : PySem.W.Frag} {W : DW} {σ : L2.St} {ι : List Addr} {H : Hp} {Q : VK} {μ : Store} {r : Res D} (wf : WF K ι μ H) (h : PostG (VR K) K W σ ι H Q (sealR μ.length r)) : PostG (VR K) K W σ ι H Q r := by
  unfold sealR at h
  match r, h with
  | some (.ok d, μ'), h =>
    obtain ⟨hob, h⟩ := PostG.guard h
    match e : unref μ.length μ' 4 d, h with
    | some d', h =>
      intro ι' H' v l w r
      have hlen : ι.length = μ.length := wf.len
      have hn : ∀ i a, i < μ.length → ι'[i]? = some a → ι[i]? = some a := fun i a hi q => by
        rw [← hlen] at hi
        have q2 := l.pre i _ (List.getElem?_eq_getElem hi)
        rw [q] at q2
        rw [List.getElem?_eq_getElem hi, q2]
      have hs : ∀ a, a ∈ ι → a ∈ ι' := fun a ha => by
        obtain ⟨i, hi⟩ := List.getElem?_of_mem ha
        exact List.mem_of_getElem? (l.pre _ _ hi)
      have ho : ∀ (i : Nat) a, ι'[i]? = some a → ¬ i < μ.length → a ∉ ι := fun i a hi hni ha => by
        obtain ⟨j, hj⟩ := List.getElem?_of_mem ha
        have hj2 := l.pre _ _ hj
        have hjl : j < μ.length := by rw [← hlen]; exact (List.getElem?_eq_some_iff.mp hj).1
        have h1 := List.getElem?_eq_some_iff.mp hi
        have h2 := List.getElem?_eq_some_iff.mp hj2
        have := (List.getElem_inj w.nd).mp (h1.2.trans h2.2.symm)
        omega
      have le : Le ι H ι H' := ⟨fun _ _ z => z, fun _ z n => absurd z n, fun a o n z => l.keep a o n z, l.frz⟩
      have hle : μ.length ≤ μ'.length := by
        rw [← w.len, ← hlen]
        by_cases z : ι.length = 0
        · omega
        · have hi : ι.length - 1 < ι.length := by omega
          have := (List.getElem?_eq_some_iff.mp (l.pre _ _ (List.getElem?_eq_getElem hi))).1
          omega
      have wf' : WF K ι (μ'.take μ.length) H' := by
        refine ⟨by rw [List.length_take, hlen]; omega, wf.nd, fun i a o hi hu => ?_⟩
        have hil : i < μ.length := by rw [← hlen]; exact (List.getElem?_eq_some_iff.mp hi).1
        rw [List.getElem?_take_of_lt hil] at hu
        have q := w.ob i a o (l.pre _ _ hi) hu
        have qo : obOk μ.length o = true := List.all_eq_true.mp hob o (List.mem_of_getElem? (by rw [List.getElem?_take_of_lt hil]; exact hu))
        cases o with
        | lst xs =>
          obtain ⟨vs, ea, r⟩ := q
          exact ⟨vs, ea, r.cut hn hs qo⟩
        | obj C fs =>
          obtain ⟨dx, gs, ea, k, r, z⟩ := q
          exact ⟨dx, gs, ea, k, r.cut hn hs qo, z⟩
        | dct kvs =>
          obtain ⟨qs, ea, k, r⟩ := q
          exact ⟨qs, ea, k, r.cut hn hs qo⟩
        | dcl kvs =>
          obtain ⟨u, qs, ea, k, r⟩ := q
          exact ⟨u, qs, ea, k, r.cut hn hs qo⟩
        | dtt kvs =>
          obtain ⟨qs, ea, k, r⟩ := q
          exact ⟨qs, ea, k, r.cut hn hs qo⟩
      exact h.ok le wf' (unref_vr w hn hs ho 4 v d d' r e)
  | some (.error x, μ'), h => exact h
theorem d_seal {X : Cx} {W : DW} {e : Expr} {E : CM D} (h : PE X e (tE X.K W E)) : PE X e (tE X.K W (eSeal E)) := h.imp fun σ H Q ⟨ρ, ι, μ, sr, wf, h⟩ => ⟨ρ, ι, μ, sr, wf, sealAux wf h⟩
end DM

namespace DM
open PySem PySem.Spec L2
open PyProof.Rows (envOfC)
/-! ### defs -/
abbrev XRel := Ex → Value → Option Addr → List Addr → Hp → Prop
abbrev FD := List D → Store → Res D
def PostF (K : PySem.W.Frag) (xr : XRel) (ι : List Addr) (H : Hp) (Q : VK) (E : XK) : Res D → Prop
  | some (.ok d, μ') => ∀ ι' H' v, Le ι H ι' H' → WF K ι' μ' H' → VR K ι' H' v d → Q v H'
  | some (.error x, μ') => ∀ ι' H' c dd, Le ι H ι' H' → WF K ι' μ' H' → xr x c dd ι' H' → E c dd H'
  | none => False
structure FnG (P : Program) (w : World) (K : PySem.W.Frag) (mg : Str → Option Value) (base : Heap) (xr : XRel) (k : Nat) (f : Addr) (fd : FuncData) (ps : List Str) (F : FD) : Prop where
  go : ∀ {A : Around} {outer : List Env} {s : Shared} {H : Hp} {args : Args} {us : List Value} {vs : List V} {ι : List Addr} {μ : Store} {ds : List D} {Q : VK} {E : XK},
    Room k A → A.guards = some [] → Env0 P w K mg base A outer s H → BindsTo s fd args (ps.zip us) → Vals vs us → vs.length = ps.length → WF K ι μ H → VRs K ι H vs ds → PostF K xr ι H Q E (F ds μ) →
      codeAny (model P w) A (.call (.ref f) args) (CR (L2.CX P w) outer P w H s Q E) s
theorem FnG.mono {P : Program} {w : World} {K : PySem.W.Frag} {mg : Str → Option Value} {base : Heap} {xr : XRel} {j k : Nat} {f : Addr} {fd : FuncData} {ps : List Str} {F : FD} (h : FnG P w K mg base xr j f fd ps F) (l : j ≤ k) : FnG P w K mg base xr k f fd ps F :=
  ⟨fun hr => h.go (hr.mono l)⟩
/-- what a body's statement gives, as a def's result -/
def resOf : Option (Fl × Store) → Res D
  | some (.nx _, μ) => some (.ok .non, μ)
  | some (.rt d, μ) => some (.ok d, μ)
  | some (.ex x _, μ) => some (.error x, μ)
  | _ => none
def startR (n : Nat) (ds : List D) : Rho := ds.map some ++ List.replicate (n - ds.length) none
/-- n: all names; m: the parameters -/
def fnD (n m : Nat) (S : SF) : FD := fun ds μ => if ds.length = m then resOf (S (startR n ds) μ) else none
def noExS (S : SF) : SF := fun ρ μ => match S ρ μ with
  | some (.ex _ _, _) => none
  | o => o
def resP : Option (Fl × Store) → Res D
  | some (.nx _, μ) => some (.ok .non, μ)
  | some (.rt d, μ) => some (.ok d, μ)
  | _ => none
def fnP (n m : Nat) (S : SF) : FD := fun ds μ => if ds.length = m then resP (S (startR n ds) μ) else none
def fnSeal (F : FD) : FD := fun ds μ => sealR μ.length (F ds μ)
theorem SR.start {K : PySem.W.Frag} {ι : List Addr} {H : Hp} {N : List Str} {vs : List V} {ds : List D} (r : VRs K ι H vs ds) : SR K ι H (start N vs) (startR N.length ds) := by
  unfold L2.start startR
  refine ⟨by simp [r.length], fun i d h => ?_⟩
  by_cases hi : i < ds.length
  · rw [List.getElem?_append_left (by simpa using hi), List.getElem?_map] at h
    obtain ⟨e, h1, h2⟩ := Option.map_eq_some_iff.mp h
    cases h2
    obtain ⟨v, q1, q2⟩ := r.get h1
    refine ⟨v, ?_, q2⟩
    rw [List.getElem?_append_left (by simpa [r.length] using hi), List.getElem?_map, q1]
    rfl
  · rw [List.getElem?_append_right (by simpa using hi), List.getElem?_replicate] at h
    split at h <;> cases h
section
variable {P : Program} {w : World} {K : PySem.W.Frag} {mg : Str → Option Value} {base : Heap} {xr : XRel}
/-- a def that lets no exception out of its body's walk (W = noX) or lets it out as xr says -/
theorem fnG_mk {x qual : Str} {pa : Arguments} {body : List Stmt} {sc : Scope} {dvs : List V} {kws : List (Str × V)} {f : Addr} {fd : FuncData} {N ps : List Str} {k m n : Nat} {S : SF} (Fd : FunD K x qual pa body sc dvs kws f fd) (Sc : FnScope N ps sc) (hm : ps.length = m) (hn : N.length = n)
    (hb : ∀ (cdv : Value) (A : Around) (outer : List Env) (s : Shared) (H : Hp) (E : XK), Room k (A.deeper (envOfC qual sc s.heap.objs.size f cdv)) → (A.deeper (envOfC qual sc s.heap.objs.size f cdv)).guards = some [] →
      PSs (cxOf (L2.CX P w) P w K mg base N qual sc f cdv A outer s H E) body (sD K (fun x ι _ H' => ∀ c dd, xr x c dd ι H' → E c dd H') S)) : FnG P w K mg base xr (k + 1) f fd ps (fnD n m S) := by
  obtain ⟨oc, od, dV, kV, doc, pm, an, cdv, ct, osl, rfl, lk, hcd, _, _⟩ := Fd.ex
  refine ⟨fun {A outer s H args us vs ι μ ds Q E} hr hG e0 bt rv hl wf vr post => ?_⟩
  have inK : K.In s.heap := e0.mod.kin.keeps (fun b o q => (e0.bs b o q).1)
  have noLim : s.heap.NoLimit := e0.mod.nolimit.keeps (fun b o q => (e0.bs b o q).1)
  have names : ∀ y ∈ ps.zip us, sc.names.lookup y.1 = some .local ∨ (sc.names.lookup y.1 = some .cell ∧ ((cellsFrom (s.heap.objs.size + 1) sc.names []).lookup y.1).isSome = true) := by
    rintro ⟨nm, v⟩ hy
    exact (Sc.par nm (List.of_mem_zip hy).1).imp id (fun q => ⟨q, PySem.W.cellsFrom_some _ _ _ (.inl q)⟩)
  refine codeAny_call_function hr.depth (inK _ _ lk) rfl Sc.co Sc.gen rfl (PySem.W.codeRec_of inK hcd) (bt _ _ _ _ (wpAny_newFunctionEnv_cells Sc.kind names (fun env he s1 ic => ?_)))
  subst he
  have J : Inv (cxOf (L2.CX P w) P w K mg base N qual sc f cdv A outer s H E) [] (start N vs) H s1 := inv_start Sc hr.hd e0 hl rv ic
  have hds : ds.length = m := by rw [← vr.length, hl, hm]
  have post' : PostF K xr ι H Q E (resOf (S (startR n ds) μ)) := by
    unfold fnD at post
    rw [if_pos hds] at post
    exact post
  have st : sD K (fun x ι _ H' => ∀ c dd, xr x c dd ι H' → E c dd H') S { nx := fun _ H' => Q .non H', rt := Q } (start N vs) H := by
    refine ⟨startR n ds, ι, μ, by rw [← hn]; exact SR.start vr, wf, ?_⟩
    match S (startR n ds) μ, post' with
    | some (.nx _, _), q => exact fun _ ι' H' l w _ => q ι' H' .non l w .non
    | some (.rt d, _), q => exact q
    | some (.ex x _, _), q => exact fun _ ι' H' l w _ c dd z => q ι' H' c dd l w z
  refine ⟨noLim.keeps ic.toInCall.keep, codeAny_func (wpAny_mono ((hb cdv A outer s H E (hr.deeper _) hG).run [] s1 _ H _ J st) (fun fl s' q => ?_) (fun _ _ q => q))⟩
  cases fl with
  | next =>
    obtain ⟨σ', H', J', z⟩ := q
    exact ⟨.non, H', J'.os, J'.bare, J'.base, J'.hok, rfl, z⟩
  | ret u =>
    obtain ⟨v, σ', H', J', rv', z⟩ := q
    exact ⟨v, H', J'.os, J'.bare, J'.base, J'.hok, rv', z⟩
  | brk =>
    obtain ⟨_, _, _, z⟩ := q
    exact z.elim
  | cont =>
    obtain ⟨_, _, _, z⟩ := q
    exact z.elim
theorem FnG.imp {k : Nat} {f : Addr} {fd : FuncData} {ps : List Str} {F F' : FD} (h : FnG P w K mg base xr k f fd ps F) (q : ∀ ι μ ds H Q E, WF K ι μ H → PostF K xr ι H Q E (F' ds μ) → PostF K xr ι H Q E (F ds μ)) : FnG P w K mg base xr k f fd ps F' :=
  ⟨fun hr hG e0 bt rv hl wf vr post => h.go hr hG e0 bt rv hl wf vr (q _ _ _ _ _ _ wf post)⟩
/-- the usual case: nothing is raised -/
theorem fnG_pure {x qual : Str} {pa : Arguments} {body : List Stmt} {sc : Scope} {dvs : List V} {kws : List (Str × V)} {f : Addr} {fd : FuncData} {N ps : List Str} {k m n : Nat} {S : SF} (Fd : FunD K x qual pa body sc dvs kws f fd) (Sc : FnScope N ps sc) (hm : ps.length = m) (hn : N.length = n)
    (hb : ∀ (cdv : Value) (A : Around) (outer : List Env) (s : Shared) (H : Hp) (E : XK), Room k (A.deeper (envOfC qual sc s.heap.objs.size f cdv)) → (A.deeper (envOfC qual sc s.heap.objs.size f cdv)).guards = some [] →
      PSs (cxOf (L2.CX P w) P w K mg base N qual sc f cdv A outer s H E).nox body (sD K noX S)) : FnG P w K mg base xr (k + 1) f fd ps (fnP n m S) := by
  have h := fnG_mk (xr := xr) (S := noExS S) Fd Sc hm hn fun cdv A outer s H E hr hG => PSs.imp (PSs.nox (hb cdv A outer s H E hr hG)) fun T σ H ⟨ρ, ι, μ, sr, wf, h⟩ => ⟨ρ, ι, μ, sr, wf, by
    unfold noExS at h
    generalize S ρ μ = r at h ⊢
    match r, h with
    | some (.nx _, _), h => exact h
    | some (.rt _, _), h => exact h
    | some (.bk _, _), h => exact h
    | some (.ct _, _), h => exact h⟩
  refine h.imp fun ι μ ds H Q E wf post => ?_
  unfold fnP at post
  unfold fnD noExS
  split at post
  · rename_i z
    rw [if_pos z]
    generalize S (startR n ds) μ = r at post ⊢
    match r, post with
    | some (.nx _, _), h => exact h
    | some (.rt _, _), h => exact h
  · exact post.elim
theorem FnG.seal {k : Nat} {f : Addr} {fd : FuncData} {ps : List Str} {F : FD} (h : FnG P w K mg base xr k f fd ps F) : FnG P w K mg base xr k f fd ps (fnSeal F) :=
  h.imp fun ι μ ds H Q E wf post => by
    unfold fnSeal at post
    have := sealAux (K := K) (W := fun x ι _ H' => ∀ c dd, xr x c dd ι H' → E c dd H') (σ := []) (ι := ι) (H := H) (Q := Q) (r := F ds μ) wf (by
      match sealR μ.length (F ds μ), post with
      | some (.ok _, _), post => exact post
      | some (.error _, _), post => exact fun ι' H' l w c dd z => post ι' H' c dd l w z)
    match F ds μ, this with
    | some (.ok _, _), q => exact q
    | some (.error _, _), q => exact fun ι' H' c dd l w z => q ι' H' l w c dd z
end
/-! ### calls -/
def eCall (F : FD) (A : CM (List D)) (dfl : List D) : CM D := A.bind fun ds _ μ => F (ds ++ dfl) μ
section
variable {X : Cx} {W : DW} {xr : XRel} {k : Nat} {f : Addr} {fd : FuncData} {ps : List Str} {F : FD} {x : Str} {p pos : Pos} {e : Expr} {es : List Expr} {As : CM (List D)} {dvs : List V} {dds : List D} {ds0 : List Value}
theorem runG {pins : List (Addr × Obj)} {σ : L2.St} {H : Hp} {s : Shared} {Q : VK} {us : List Value} {vs : List V} {ι : List Addr} {μ : Store} {ds : List D} (G : FnG X.prog X.w X.K X.mg X.base xr k f fd ps F) (hr : Room k X.A) (hG : X.A.guards = some []) (hb : Binds X.K fd ps ds0) (hd : Vals dvs ds0) (hdd : ∀ ι H, VRs X.K ι H dvs dds) (hlen : ∀ ds μ, F ds μ ≠ none → ds.length = ps.length) (hW : ∀ x ι σ H, W x ι σ H → False)
    (I : Inv X pins σ H s) (r : Vals vs us) (wf : WF X.K ι μ H) (vr : VRs X.K ι H vs ds) (h : PostG (VR X.K) X.K W σ ι H Q (F (ds ++ dds) μ)) : wpAny (model X.prog X.w) X.A (call (.ref f) us) (EP X pins σ Q) X.xe s := by
  have rr : Vals (vs ++ dvs) (us ++ ds0) := r.append hd
  have vv : VRs X.K ι H (vs ++ dvs) (ds ++ dds) := vr.append (hdd ι H)
  have nn : F (ds ++ dds) μ ≠ none := fun z => by rw [z] at h; exact h
  have hl : (vs ++ dvs).length = ps.length := by rw [vv.length]; exact hlen _ _ nn
  have post : PostF X.K xr ι H Q E0 (F (ds ++ dds) μ) := by
    match F (ds ++ dds) μ, h with
    | some (.ok _, _), h => exact h
    | some (.error x, _), h => exact fun ι' H' c dd l w _ => hW _ _ _ _ (h ι' H' l w)
  refine wpAny_call (codeAny_mono (G.go hr hG I.env0 (hb s us I.kIn (by rw [← rr.length]; exact hl)) rr hl wf vv post) (fun r s' q => ?_))
  cases r with
  | error z => exact passL pins σ H s z s' I q
  | ok fl =>
    cases fl with
    | ret u => exact I.after q
    | next => exact q.elim
    | brk => exact q.elim
    | cont => exact q.elim
theorem d_call (G : FnG X.prog X.w X.K X.mg X.base xr k f fd ps F) (hr : Room k X.A) (hG : X.A.guards = some []) (hg : Gl X x) (hm : X.mg x = some (.ref f)) (hk : PySem.W.keepIn X.K (.ref f) = true) (hb : Binds X.K fd ps ds0) (hd : Vals dvs ds0) (hdd : ∀ ι H, VRs X.K ι H dvs dds) (hlen : ∀ ds μ, F ds μ ≠ none → ds.length = ps.length) (ha : PA X (e :: es) (tA X.K W As)) (hW : ∀ x ι σ H, W x ι σ H → False)
    (hdb : (x == ("__debug__" : Str)) = false := by decide) (he : starEach (e :: es) X.env = (false, eval e X.env) :: starEach es X.env := by rfl) (hpl : (backTo pos (starEach es X.env)).any (·.1) = false := by rfl) :
    PE X (.Call (.Name x p) (e :: es) [] pos) (tE X.K W (eCall F As dds)) := by
  refine ⟨fun pins s σ H Q I ⟨ρ, ι, μ, sr, wf, h⟩ => ?_⟩
  refine wpAny_Call_Name_kw (ld_glob I hg hm ?_ hdb)
  refine PySem.W.callWith_K (h₀ := X.base) I.ok.mod.kin hk (thn (ha.run pos pins s σ H _ I (PostG.bind sr wf h)) ?_) he hpl
  rintro us s1 ⟨vs, H1, I1, r, ι1, μ1, ds, l1, w1, v1, h1⟩
  exact ⟨I1.kIn, runG G hr hG hb hd hdd hlen hW I1 r w1 v1 h1⟩
theorem d_call0 (G : FnG X.prog X.w X.K X.mg X.base xr k f fd ps F) (hr : Room k X.A) (hG : X.A.guards = some []) (hg : Gl X x) (hm : X.mg x = some (.ref f)) (hk : PySem.W.keepIn X.K (.ref f) = true) (hb : Binds X.K fd ps ds0) (hd : Vals dvs ds0) (hdd : ∀ ι H, VRs X.K ι H dvs dds) (hlen : ∀ ds μ, F ds μ ≠ none → ds.length = ps.length) (hW : ∀ x ι σ H, W x ι σ H → False)
    (hdb : (x == ("__debug__" : Str)) = false := by decide) : PE X (.Call (.Name x p) [] [] pos) (tE X.K W (eCall F aNil dds)) := by
  refine ⟨fun pins s σ H Q I ⟨ρ, ι, μ, sr, wf, h⟩ => ?_⟩
  refine wpAny_Call_Name_kw (ld_glob I hg hm ?_ hdb)
  exact PySem.W.callWith_K0 I.kIn hk (runG (us := []) G hr hG hb hd hdd hlen hW I .nil wf .nil h)
theorem fnD_len {n m : Nat} {S : SF} {ds : List D} {μ : Store} (h : fnD n m S ds μ ≠ none) : ds.length = m := by
  unfold fnD at h
  by_cases z : ds.length = m
  · exact z
  · rw [if_neg z] at h; exact absurd rfl h
theorem fnP_len {n m : Nat} {S : SF} (ds : List D) (μ : Store) (h : fnP n m S ds μ ≠ none) : ds.length = m := by
  unfold fnP at h
  by_cases z : ds.length = m
  · exact z
  · rw [if_neg z] at h; exact absurd rfl h
theorem fnSeal_len {F : FD} {m : Nat} (hF : ∀ ds μ, F ds μ ≠ none → ds.length = m) (ds : List D) (μ : Store) (h : fnSeal F ds μ ≠ none) : ds.length = m := hF ds μ fun z => h (by unfold fnSeal; rw [z]; rfl)
end
end DM

namespace DM
open PySem PySem.Spec L2
open PyProof.Rows (AllBare)
abbrev noXR : XRel := fun _ _ _ _ _ => False
def scriptD (ns : List Int) : D := .fl (ns.map D.int)
theorem vrs_ints {K : PySem.W.Frag} {ι : List Addr} {H : Hp} : ∀ ns : List Int, VRs K ι H (ns.map V.int) (ns.map D.int)
  | [] => .nil
  | n :: r => .cons (.int n) (vrs_ints r)
section
variable {P : Program} {w : World} {K : PySem.W.Frag} {mg mb : Str → Option Value} {k : Nat} {fa a : Addr} {fd : FuncData} {x : Str} {F : FD} {s1 : Shared} {us : List Value} {ns : List Int}
/-- what is tracked at the law's entry: nothing, or the script -/
theorem law_at {H : Hp} (KX : K.In s1.heap) (hns : s1.heap.Ns mainGlobals mg) (hbt : s1.heap.Ns builtinsNs mb) (hbb : ∀ x : Str, x ≠ "__name__" → mb x = bootBuiltins x) (hlim : s1.heap.NoLimit) (hg : s1.gens = #[])
    (ha : s1.heap.get? a = some { cls := .type "list", data := .seq us.toArray }) (hr : Room k callerA)
    (G : ∀ base : Heap, K.In base → base.Ns mainGlobals mg → FnG P w K mg base noXR k fa fd [x] F) (hbind : ∀ (s : Shared) (u : Value), BindsTo s fd ⟨[u], []⟩ [(x, u)])
    (hF : ∃ μ', F [scriptD ns] [] = some (.ok (.bl true), μ')) (hO : Only H) (hS : FlAt K [] H a (ns.map V.int)) (hok : HOk P w H s1.heap) (hA : ∀ b, H b ≠ none → b = a) (hK : H a ≠ none → K.lookup a = none) :
    codeAny (model P w) callerA (.call (.ref fa) ⟨[.ref a], []⟩) (fun r s' => r = .ok (.ret (.bool true)) ∧ OldK s1.heap s'.heap ∧ s'.os = s1.os ∧ AllBare s'.gens) s1 := by
  -- an object that is no list of the script's address is not tracked
  have free : ∀ {b : Addr}, b ≠ a → H b = none := fun {b} nb => by
    cases q : H b with
    | none => rfl
    | some u => exact absurd (hA b (by rw [q]; simp)) nb
  have dictFree : ∀ {b : Addr} {o : Obj} {es : Array DictEntry} {ep : Nat}, s1.heap.get? b = some o → o.data = .dict es ep → H b = none := fun {b o es ep} e d => free fun z => by
    subst z
    rw [ha] at e
    cases e
    cases (show Data.seq us.toArray _ = Data.dict es ep from d)
  have nsBase : ∀ {b : Addr} {m : Str → Option Value}, s1.heap.Ns b m → (hidT s1.heap H).Ns b m := by
    rintro b m ⟨o, es, ep, e, d, r⟩
    exact ⟨o, es, ep, hidT_get e (dictFree e d), d, r⟩
  have kBase : K.In (hidT s1.heap H) := fun b o e => by
    refine hidT_get (KX b o e) ?_
    cases q : H b with
    | none => rfl
    | some u =>
      have z : b = a := hA b (by rw [q]; simp)
      subst z
      rw [hK (by rw [q]; simp)] at e
      cases e
  have limBase : (hidT s1.heap H).NoLimit := by
    obtain ⟨mc, h1, h2⟩ := hlim
    exact ⟨mc, nsBase h1, h2⟩
  have e0 : Env0 P w K mg (hidT s1.heap H) callerA [] s1 H :=
    { frames := rfl, mod := ⟨kBase, nsBase hns, ⟨mb, nsBase hbt, hbb⟩, limBase⟩, bs := fun b o e => of_hidT e, bsz := Nat.le_of_eq (hidT_size _ _), funs := trivial, frf := fun b hb => absurd (show b ∈ ([] : List Addr) from hb) (by simp), hok := hok, bare := .of_eq hg }
  have wf : WF K [] [] H := ⟨rfl, List.nodup_nil, fun i a o hi _ => by simp at hi⟩
  have vr : VRs K [] H [V.ref a] [scriptD ns] := .cons (.fl hS (vrs_ints ns)) .nil
  have post : PostF K noXR [] H (fun v _ => v = .bl true) (fun _ _ _ => False) (F [scriptD ns] []) := by
    obtain ⟨μ', e⟩ := hF
    rw [e]
    intro ι' H' v _ _ r
    cases r
    rfl
  refine codeAny_mono ((G _ kBase (nsBase hns)).go (us := [.ref a]) hr rfl e0 (hbind s1 (.ref a)) (vs := [V.ref a]) (.cons (show RelV (.ref a) (.ref a) from rfl) .nil) rfl wf vr post) (fun r s' z => ?_)
  cases r with
  | error e =>
    obtain ⟨_, _, _, _, _, _, _, _, _, _, _, _, q⟩ := z
    exact q.elim
  | ok fl =>
    cases fl with
    | next => exact z.elim
    | brk => exact z.elim
    | cont => exact z.elim
    | ret u =>
      obtain ⟨v, H', os, bare, un, hok', rv, q⟩ := z
      have q' : v = .bl true := q
      subst q'
      cases (show u = Value.bool true from rv)
      refine ⟨rfl, OldK.of_keep (fun b o e => ?_), os, bare⟩
      cases t : H b with
      | none => exact un.keep b o e t (fun z => absurd (show b ∈ ([] : List Addr) from z) (by simp)) (by simp)
      | some y =>
        rcases hO b with n | ⟨ob, xs, n⟩
        · rw [t] at n; cases n
        · have g1 := (hok b _ n).1
          have g2 := (hok' b _ (un.frzs b ob _ n)).1
          rw [e] at g1
          cases g1
          exact g2
end
/-- the end: what the head leaves, from the law's own contract -/
theorem law_end {l : PySem.W.OpenLaw} {n k : Nat} {q : Program} {loose : List Str} {XP : (Str → Option Value) → Heap → Prop} {YP : World → Heap → Prop} {d : DefRec} {x : Str} (hn : l.most = some n) (hn2 : n ≤ sizeLine) (hdf : d.params.defaults = []) (hr : Room k callerA)
    (T : ∀ (w : World) (mg : Str → Option Value) (fa : Addr) (h : Heap), YP w h → h.Ns mainGlobals mg → mg d.name = some (.ref fa) →
      ∃ (K : PySem.W.Frag) (fd : FuncData) (F : FD), K.In h ∧ (∀ (s : Shared) (u : Value), BindsTo s fd ⟨[u], []⟩ [(x, u)]) ∧ (∀ ns : List Int, ns.length ≤ n → ∃ μ', F [scriptD ns] [] = some (.ok (.bl true), μ')) ∧
        ∀ base : Heap, K.In base → base.Ns mainGlobals mg → FnG l.prog w K mg base noXR k fa fd [x] F) :
    PySem.W.WalkO q loose XP YP l.row.toRowW d [] (fun f vs => PySem.call f vs) := by
  refine Att.attach_call hn hdf fun w s0 s1 mg mb fa o pm cd doc a us ns G Y ho hd hcd hmg hobj hints hlen hg => ?_
  obtain ⟨K, fd, F, KX, hb, hF, hG⟩ := T w mg fa _ Y G.T.g hmg
  have rv := vals_ints hints
  have lv := hints.length
  have hl : ns.length ≤ sizeLine := Nat.le_trans hlen hn2
  cases hk : K.lookup a with
  | some ob =>
    have e := KX a ob hk
    rw [hobj] at e
    cases e
    exact law_at (H := fun _ => none) KX G.T.g G.T.b G.T.builtins G.T.nolimit hg hobj hr hG hb (hF ns hlen) (fun _ => .inl rfl) (.inr ⟨_, us.toArray, _, hk, rfl, rfl, rfl, by rw [List.size_toArray, lv]; exact hl, by simpa using rv⟩) (fun b u z => by cases (show (none : Option HO) = some u from z)) (fun b z => absurd rfl z) (fun z => absurd rfl z)
  | none =>
    refine law_at (H := fun b => if b = a then some (.frz { cls := .type "list", data := .seq us.toArray } (.lst (ns.map V.int))) else none) KX G.T.g G.T.b G.T.builtins G.T.nolimit hg hobj hr hG hb (hF ns hlen) (fun b => ?_) (.inl ⟨⟨{ cls := .type "list", data := .seq us.toArray }, if_pos rfl⟩, by simp⟩) (fun b u z => ?_) (fun b z => ?_) (fun _ => hk)
    · by_cases hb : b = a
      · exact .inr ⟨_, _, if_pos hb⟩
      · exact .inl (if_neg hb)
    · by_cases hb : b = a
      · cases (if_pos hb).symm.trans z
        subst hb
        exact ⟨hobj, by rw [List.length_map]; exact hl, us, _, rv, hobj⟩
      · cases (if_neg hb).symm.trans z
    · by_cases hb : b = a
      · exact hb
      · exact absurd (if_neg hb) z
end DM

namespace DM
open PySem PySem.Spec L2
/-! ### bundles for printed derivations -/
/-- the def that the module's name x stands for -/
structure Kn (P : Program) (w : World) (K : PySem.W.Frag) (mg : Str → Option Value) (base : Heap) (k : Nat) (x : Str) (ps : List Str) (F : FD) : Prop where
  ex : ∃ f fd, FnG P w K mg base noXR k f fd ps F ∧ mg x = some (.ref f) ∧ PySem.W.keepIn K (.ref f) = true ∧ Binds K fd ps [] ∧ ∀ ds μ, F ds μ ≠ none → ds.length = ps.length
section
variable {X : Cx} {W : DW} {k j : Nat} {ps : List Str} {F : FD} {x : Str} {p pos : Pos} {e : Expr} {es : List Expr} {As : CM (List D)}
theorem d_fn (h : Kn X.prog X.w X.K X.mg X.base j x ps F) (hr : Room k X.A) (hjk : j ≤ k) (hG : X.A.guards = some []) (hg : Gl X x) (ha : PA X (e :: es) (tA X.K W As)) (hW : ∀ x ι σ H, W x ι σ H → False)
    (hdb : (x == ("__debug__" : Str)) = false := by decide) (he : starEach (e :: es) X.env = (false, eval e X.env) :: starEach es X.env := by rfl) (hpl : (backTo pos (starEach es X.env)).any (·.1) = false := by rfl) :
    PE X (.Call (.Name x p) (e :: es) [] pos) (tE X.K W (eCall F As [])) := by
  obtain ⟨f, fd, G, hm, hk, hb, hl⟩ := h.ex
  exact d_call G (hr.mono hjk) hG hg hm hk hb .nil (fun _ _ => .nil) hl ha hW hdb he hpl
theorem d_fn0 (h : Kn X.prog X.w X.K X.mg X.base j x ps F) (hr : Room k X.A) (hjk : j ≤ k) (hG : X.A.guards = some []) (hg : Gl X x) (hW : ∀ x ι σ H, W x ι σ H → False)
    (hdb : (x == ("__debug__" : Str)) = false := by decide) : PE X (.Call (.Name x p) [] [] pos) (tE X.K W (eCall F aNil [])) := by
  obtain ⟨f, fd, G, hm, hk, hb, hl⟩ := h.ex
  exact d_call0 G (hr.mono hjk) hG hg hm hk hb .nil (fun _ _ => .nil) hl hW hdb
end
theorem nx_no : ∀ (x : Ex) (ι : List Addr) (σ : L2.St) (H : Hp), noX x ι σ H → False := fun _ _ _ _ h => h
/-! ### repr of scalars -/
def reprB (b : Bool) : Str := if b then "True" else "False"
def Frepr0 (ds : List D) (μ : Store) : Res D := match ds with
  | [.bl b] => okR (.str (reprB b)) μ
  | _ => none
section
variable {X : Cx} {K : PySem.W.Frag}
theorem call_repr0 : CallR X (.builtin "repr") (fun xs H Q => ∃ b, xs = [.bl b] ∧ Q (.str (reprB b)) H) := by
  intro pins s σ H xs us Q I r h
  obtain ⟨b, rfl, q⟩ := h
  obtain ⟨u, rfl, rx⟩ := vals1 r
  cases (show u = Value.bool b from rx)
  exact PySem.P.repr_of_bool ⟨.str _, H, I.tok _, ⟨_, rfl⟩, q⟩
theorem lift_repr0 : LiftA K (fun xs H Q => ∃ b, xs = [.bl b] ∧ Q (.str (reprB b)) H) Frepr0 := by
  intro W σ ι μ H xs ds Q w v h
  unfold Frepr0 at h
  split at h
  · obtain ⟨x, rfl, vx⟩ := v.one
    cases vx
    exact ⟨_, rfl, h.ok0 w (.str _)⟩
  · exact h.elim
end
/-! ### name = [comprehension] -/
theorem ds_setLc {X : Cx} {W : DW} {i : Nat} {y : Str} {py : Pos} {elt tg iter : Expr} {ifs : List Expr} {scope : Scope} {own : List (Str × Nat)} {pos spos : Pos} {I : CM IV} {g : TG} {f : D → Rho → Option Rho} {T : CM Bool} {E : CM D} (hc : X.calm = true) (hN : X.N.Nodup) (hy : X.N[i]? = some y) (hyl : X.env.scope.names.lookup y = some .local)
    (hsw : swapsWith (.ListComp elt [⟨tg, iter, ifs, 0⟩] scope pos) (some (.Name y py)) spos.line X.env = pure true) (hi : PI X tg iter (tI X.K W I)) (ok : BlkOk X.N X.env.scope scope own)
    (hg : ∀ (s : Shared) (H : Hp) (C : Addr) (cl : List (Str × Addr)) (fp : List Addr), PG (X.blk s H scope (compEnvC scope cl C X.env) fp) tg g) (htg : TgOk X.K g f (own.map (·.2)))
    (ht : ∀ (s : Shared) (H : Hp) (C : Addr) (cl : List (Str × Addr)) (fp : List Addr), PTs (X.blk s H scope (compEnvC scope cl C X.env) fp) ifs (tT X.K noX T))
    (he : ∀ (s : Shared) (H : Hp) (C : Addr) (cl : List (Str × Addr)) (fp : List Addr), PE (X.blk s H scope (compEnvC scope cl C X.env) fp) elt (tE X.K noX E)) (hs : ∀ x, foldedSetIterable iter X.env x = pure x := by intro _; rfl) :
    PS X (.Assign [.Name y py] (.ListComp elt [⟨tg, iter, ifs, 0⟩] scope pos) spos) (sD X.K W (sAsg i (eSeal (eLC I f T E (own.map (·.2)))))) := (ps_setLc hc hN hy hyl hsw hi ok hg ht he hs).imp fun T σ H h => by
  have h2 := ds_asgAux σ H h
  obtain ⟨ρ, ι, μ, sr, wf, h3⟩ := h2
  exact lcAux htg σ H _ ⟨ρ, ι, μ, sr, wf, sealAux wf h3⟩
end DM

namespace DM
open PySem PySem.Spec L2
/-! ### running the plain functions -/
def Ok {α : Type} (r : Res α) (Q : α → Store → Prop) : Prop := match r with
  | some (.ok a, μ) => Q a μ
  | _ => False
def OkS (r : Option (Fl × Store)) (Q : Fl → Store → Prop) : Prop := match r with
  | some (f, μ) => Q f μ
  | none => False
section
variable {α β : Type} {ρ : Rho} {μ : Store}
theorem Ok.mono {r : Res α} {Q Q' : α → Store → Prop} (h : Ok r Q) (q : ∀ a μ, Q a μ → Q' a μ) : Ok r Q' := by
  match r, h with
  | some (.ok a, μ), h => exact q a μ h
theorem OkS.mono {r : Option (Fl × Store)} {Q Q' : Fl → Store → Prop} (h : OkS r Q) (q : ∀ a μ, Q a μ → Q' a μ) : OkS r Q' := by
  match r, h with
  | some (a, μ), h => exact q a μ h
theorem Ok.get {r : Res α} {Q : α → Store → Prop} (h : Ok r Q) : ∃ a μ, r = some (.ok a, μ) ∧ Q a μ := by
  match r, h with
  | some (.ok a, μ), h => exact ⟨a, μ, rfl, h⟩
@[simp] theorem Ok_ok {a : α} {Q : α → Store → Prop} : Ok (some (.ok a, μ)) Q = Q a μ := rfl
@[simp] theorem OkS_ok {f : Fl} {Q : Fl → Store → Prop} : OkS (some (f, μ)) Q = Q f μ := rfl
@[simp] theorem Ok_bind {A : CM α} {F : α → CM β} {Q : β → Store → Prop} : Ok (CM.bind A F ρ μ) Q = Ok (A ρ μ) (fun a μ1 => Ok (F a ρ μ1) Q) := by
  unfold CM.bind
  match A ρ μ with
  | some (.ok a, μ1) => rfl
  | some (.error x, μ1) => rfl
  | none => rfl
@[simp] theorem Ok_ret {a : α} {Q : α → Store → Prop} : Ok (CM.ret a ρ μ) Q = Q a μ := rfl
@[simp] theorem OkS_lft {A : CM α} {F : α → SF} {Q : Fl → Store → Prop} (h : Ok (A ρ μ) (fun a μ1 => OkS (F a ρ μ1) Q)) : OkS (lft A F ρ μ) Q := by
  unfold lft
  match A ρ μ, h with
  | some (.ok a, μ1), h => exact h
theorem Ok_var {i : Nat} {d : D} {Q : D → Store → Prop} (h : ρ[i]? = some (some d)) (q : Q d μ) : Ok (eVar i ρ μ) Q := by
  unfold eVar
  rw [h]
  exact q
theorem Ok_if {T : CM Bool} {A B : CM D} {Q : D → Store → Prop} (h : Ok (T ρ μ) (fun c μ1 => (c = true → Ok (A ρ μ1) Q) ∧ (c = false → Ok (B ρ μ1) Q))) : Ok (eIf T A B ρ μ) Q := by
  unfold eIf
  rw [Ok_bind]
  refine h.mono fun c μ1 q => ?_
  cases c with
  | true => exact q.1 rfl
  | false => exact q.2 rfl
theorem OkS_if {T : CM Bool} {A B : SF} {Q : Fl → Store → Prop} (h : Ok (T ρ μ) (fun c μ1 => (c = true → OkS (A ρ μ1) Q) ∧ (c = false → OkS (B ρ μ1) Q))) : OkS (sIf T A B ρ μ) Q := by
  unfold sIf
  refine OkS_lft (h.mono fun c μ1 q => ?_)
  cases c with
  | true => exact q.1 rfl
  | false => exact q.2 rfl
theorem OkS_seq {A B : SF} {Q : Fl → Store → Prop} (h : OkS (A ρ μ) (fun f μ1 => match f with | .nx ρ1 => OkS (B ρ1 μ1) Q | f => Q f μ1)) : OkS (sSeq A B ρ μ) Q := by
  unfold sSeq
  match A ρ μ, h with
  | some (.nx ρ1, μ1), h => exact h
  | some (.rt _, _), h => exact h
  | some (.bk _, _), h => exact h
  | some (.ct _, _), h => exact h
  | some (.ex _ _, _), h => exact h
theorem OkS_asg {i : Nat} {E : CM D} {Q : Fl → Store → Prop} (h : Ok (E ρ μ) (fun d μ1 => Q (.nx (ρ.set i (some d))) μ1)) : OkS (sAsg i E ρ μ) Q := OkS_lft (h.mono fun _ _ q => q)
theorem OkS_ret {E : CM D} {Q : Fl → Store → Prop} (h : Ok (E ρ μ) (fun d μ1 => Q (.rt d) μ1)) : OkS (sRet E ρ μ) Q := OkS_lft (h.mono fun _ _ q => q)
theorem OkS_drop {E : CM D} {Q : Fl → Store → Prop} (h : Ok (E ρ μ) (fun d μ1 => Q (.nx ρ) μ1)) : OkS (sDrop E ρ μ) Q := OkS_lft (h.mono fun _ _ q => q)
/-- a loop by an invariant over the turn, the names and the store; the body either goes on, or is left -/
theorem loop_ok {gd : Store → Bool} {g : D → Rho → Option Rho} {S : SF} {items : List D} {Q : Fl → Store → Prop} (I : Nat → Rho → Store → Prop) (hgd : ∀ i ρ μ, I i ρ μ → gd μ = true)
    (hs : ∀ (i : Nat) d ρ μ, items[i]? = some d → I i ρ μ → ∃ ρ1, g d ρ = some ρ1 ∧ OkS (S ρ1 μ) (fun f μ2 => match f with | .nx ρ2 => I (i + 1) ρ2 μ2 | .ct ρ2 => I (i + 1) ρ2 μ2 | .bk ρ2 => Q (.nx ρ2) μ2 | .rt d => Q (.rt d) μ2 | .ex _ _ => False))
    (hd : ∀ ρ μ, I items.length ρ μ → Q (.nx ρ) μ) (h0 : I 0 ρ μ) : OkS (loop gd g S items ρ μ) Q := by
  have key : ∀ (r : List D) (i : Nat) (ρ : Rho) (μ : Store), i + r.length = items.length → items.drop i = r → I i ρ μ → OkS (loop gd g S r ρ μ) Q := by
    intro r
    induction r with
    | nil =>
      intro i ρ μ e _ h
      have e' : i = items.length := by simpa using e
      subst e'
      unfold loop
      rw [if_pos (hgd _ _ _ h)]
      exact hd ρ μ h
    | cons d t ih =>
      intro i ρ μ e ed h
      have hl : i < items.length := by rw [← e]; simp
      rw [List.drop_eq_getElem_cons hl] at ed
      obtain ⟨e1, e2⟩ := List.cons.inj ed
      unfold loop
      rw [if_pos (hgd _ _ _ h)]
      obtain ⟨ρ1, eg, h1⟩ := hs i d ρ μ (by rw [← e1]; exact List.getElem?_eq_getElem hl) h
      rw [eg]
      have le : i + 1 + t.length = items.length := by rw [← e]; simp; omega
      show OkS (match S ρ1 μ with
        | some (.nx ρ2, μ2) => loop gd g S t ρ2 μ2
        | some (.ct ρ2, μ2) => loop gd g S t ρ2 μ2
        | some (.bk ρ2, μ2) => some (.nx ρ2, μ2)
        | some (.rt d, μ2) => some (.rt d, μ2)
        | some (.ex x ρ2, μ2) => some (.ex x ρ2, μ2)
        | none => none) Q
      generalize S ρ1 μ = r at h1 ⊢
      match r, h1 with
      | some (.nx ρ2, μ2), h1 => exact ih (i + 1) ρ2 μ2 le e2 h1
      | some (.ct ρ2, μ2), h1 => exact ih (i + 1) ρ2 μ2 le e2 h1
      | some (.bk ρ2, μ2), h1 => exact h1
      | some (.rt d, μ2), h1 => exact h1
  exact key items 0 ρ μ (by simp) rfl h0
theorem OkS_for {I : CM IV} {g : D → Rho → Option Rho} {S : SF} {Q : Fl → Store → Prop} (h : Ok (I ρ μ) (fun p μ1 => OkS (loop p.2 g S p.1 ρ μ1) Q)) : OkS (sFor I g S ρ μ) Q := OkS_lft h
/-- a comprehension by an invariant over the turn, the list so far and the store -/
theorem lc_ok {gd : Store → Bool} {g : D → Rho → Option Rho} {T : CM Bool} {E : CM D} {c : Nat} {items : List D} {Q : D → Store → Prop} (I : Nat → List D → Store → Prop) (hgd : ∀ i acc μ, I i acc μ → gd μ = true)
    (hs : ∀ (i : Nat) d acc μ, items[i]? = some d → I i acc μ → ∃ ρ1, g d ρ = some ρ1 ∧ Ok (T ρ1 μ) (fun b μ1 => (b = true → Ok (E ρ1 μ1) (fun y μ2 => μ2[c]? = some (.lst acc) ∧ acc.length < sizeLine ∧ I (i + 1) (acc ++ [y]) (μ2.set c (.lst (acc ++ [y]))))) ∧ (b = false → I (i + 1) acc μ1)))
    (hd : ∀ acc μ, I items.length acc μ → Q (.ref c) μ) {acc : List D} (h0 : I 0 acc μ) : Ok (lcLoop gd g T E c items ρ μ) Q := by
  have key : ∀ (r : List D) (i : Nat) (acc : List D) (μ : Store), i + r.length = items.length → items.drop i = r → I i acc μ → Ok (lcLoop gd g T E c r ρ μ) Q := by
    intro r
    induction r with
    | nil =>
      intro i acc μ e _ h
      have e' : i = items.length := by simpa using e
      subst e'
      unfold lcLoop
      rw [if_pos (hgd _ _ _ h)]
      exact hd acc μ h
    | cons d t ih =>
      intro i acc μ e ed h
      have hl : i < items.length := by rw [← e]; simp
      rw [List.drop_eq_getElem_cons hl] at ed
      obtain ⟨e1, e2⟩ := List.cons.inj ed
      unfold lcLoop
      rw [if_pos (hgd _ _ _ h)]
      obtain ⟨ρ1, eg, h1⟩ := hs i d acc μ (by rw [← e1]; exact List.getElem?_eq_getElem hl) h
      rw [eg]
      have le : i + 1 + t.length = items.length := by rw [← e]; simp; omega
      obtain ⟨b, μ1, eT, hb1, hb2⟩ := h1.get
      simp only [eT]
      cases b with
      | true =>
        obtain ⟨y, μ2, eE, hc, hz, hI⟩ := (hb1 rfl).get
        simp only [eE, hc, if_pos hz]
        exact ih (i + 1) _ _ le e2 hI
      | false => exact ih (i + 1) _ _ le e2 (hb2 rfl)
  exact key items 0 acc μ (by simp) rfl h0
/-! ### sealing -/
mutual
theorem noRef_mono {n : Nat} : ∀ {d : D}, noRef 0 d = true → noRef n d = true
  | .non, _ => rfl
  | .bl _, _ => rfl
  | .int _, _ => rfl
  | .str _, _ => rfl
  | .tup _, h => noRefs_mono (by simpa [noRef] using h)
  | .lst _, h => noRefs_mono (by simpa [noRef] using h)
  | .fl _, h => noRefs_mono (by simpa [noRef] using h)
  | .ref _, h => by simp [noRef] at h
theorem noRefs_mono {n : Nat} : ∀ {ds : List D}, noRefs 0 ds = true → noRefs n ds = true
  | [], _ => rfl
  | _ :: _, h => by
    simp only [noRefs, Bool.and_eq_true] at h ⊢
    exact ⟨noRef_mono h.1, noRefs_mono h.2⟩
end
theorem obOk_mono {n : Nat} {o : Ob} (h : obOk 0 o = true) : obOk n o = true := by
  cases o with
  | lst xs => exact noRefs_mono h
  | obj C fs => exact noRefs_mono (show noRefs 0 (fs.map (·.2)) = true from h)
  | dct kvs => exact noRefs_mono (show noRefs 0 (kvs.map (·.2)) = true from h)
  | dcl kvs => exact noRefs_mono (show noRefs 0 (kvs.map (·.2)) = true from h)
  | dtt kvs => exact noRefs_mono (show noRefs 0 (kvs.map (·.2)) = true from h)
/-- every cell holds data alone -/
def PureS (μ : Store) : Prop := ∀ o ∈ μ, obOk 0 o = true
theorem PureS.all {μ : Store} (h : PureS μ) (n m : Nat) : (μ.take n).all (obOk m) = true := List.all_eq_true.mpr fun o ho => obOk_mono (h o (List.mem_of_mem_take ho))
theorem PureS.set {μ : Store} (h : PureS μ) {i : Nat} {o : Ob} (ho : obOk 0 o = true) : PureS (μ.set i o) := fun u hu => by
  rcases List.mem_or_eq_of_mem_set hu with z | z
  · exact h u z
  · rw [z]; exact ho
theorem PureS.app {μ : Store} (h : PureS μ) {o : Ob} (ho : obOk 0 o = true) : PureS (μ ++ [o]) := fun u hu => by
  rcases List.mem_append.mp hu with z | z
  · exact h u z
  · rw [List.mem_singleton.mp z]; exact ho
theorem noRefs_all : ∀ {ds : List D} {n : Nat}, noRefs n ds = true ↔ ∀ d ∈ ds, noRef n d = true
  | [], n => by simp [noRefs]
  | x :: r, n => by simp [noRefs, noRefs_all (ds := r)]
theorem unref_pure {n k : Nat} {d : D} {μ : Store} (h : noRef 0 d = true) : unref n μ k d = some d := by
  cases k with
  | zero => unfold unref; rw [if_pos (noRef_mono h)]
  | succ k => unfold unref; rw [if_pos (noRef_mono h)]
theorem mapO_id {f : D → Option D} : ∀ {ds : List D}, (∀ d ∈ ds, f d = some d) → mapO f ds = some ds
  | [], _ => rfl
  | x :: r, h => by
    simp only [mapO]
    rw [h x List.mem_cons_self, mapO_id fun d hd => h d (List.mem_cons_of_mem _ hd)]
theorem unref_cell {n c k : Nat} {ds : List D} {μ : Store} (hc : μ[c]? = some (.lst ds)) (hn : n ≤ c) (h : noRefs 0 ds = true) : unref n μ (k + 1) (.ref c) = some (.lst ds) := by
  unfold unref
  rw [if_neg (by simp [noRef]; omega)]
  simp only [hc]
  rw [mapO_id fun d hd => unref_pure (noRefs_all.mp h d hd)]
  rfl
theorem seal_ok {r : Res D} {n : Nat} {Q : D → Store → Prop} (h : Ok r (fun d μ' => PureS (μ'.take n) ∧ ∃ d', unref n μ' 4 d = some d' ∧ Q d' (μ'.take n))) : Ok (sealR n r) Q := by
  match r, h with
  | some (.ok d, μ'), ⟨hp, d', e, q⟩ =>
    have ha : (μ'.take n).all (obOk n) = true := List.all_eq_true.mpr fun o ho => obOk_mono (hp o ho)
    unfold sealR
    simp only [ha, e, if_true]
    exact q
theorem seal_okG {r : Res D} {n : Nat} {Q : D → Store → Prop} (h : Ok r (fun d μ' => (μ'.take n).all (obOk n) = true ∧ ∃ d', unref n μ' 4 d = some d' ∧ Q d' (μ'.take n))) : Ok (sealR n r) Q := by
  match r, h with
  | some (.ok d, μ'), ⟨ha, d', e, q⟩ =>
    unfold sealR
    simp only [ha, e, if_true]
    exact q
theorem Ok_seal {E : CM D} {Q : D → Store → Prop} (h : Ok (E ρ μ) (fun d μ' => PureS (μ'.take μ.length) ∧ ∃ d', unref μ.length μ' 4 d = some d' ∧ Q d' (μ'.take μ.length))) : Ok (eSeal E ρ μ) Q := seal_ok h
/-- frames: only the cell p may change -/
structure Fr (p : Nat) (μ μ' : Store) : Prop where
  len : μ'.length = μ.length
  eq : ∀ j : Nat, j ≠ p → μ'[j]? = μ[j]?
theorem Fr.refl (p : Nat) (μ : Store) : Fr p μ μ := ⟨rfl, fun _ _ => rfl⟩
theorem Fr.trans {p : Nat} {μ μ1 μ2 : Store} (a : Fr p μ μ1) (b : Fr p μ1 μ2) : Fr p μ μ2 := ⟨b.len.trans a.len, fun j h => (b.eq j h).trans (a.eq j h)⟩
theorem Fr.set {p : Nat} {μ : Store} {o : Ob} : Fr p μ (μ.set p o) := ⟨by simp, fun j h => List.getElem?_set_ne (Ne.symm h)⟩
theorem take_last {ν : Store} {o : Ob} {n : Nat} (h : ν.length = n + 1) (hc : ν[n]? = some o) : ν = ν.take n ++ [o] := by
  have := List.take_append_drop n ν
  rw [List.drop_eq_getElem_cons (by omega)] at this
  have e : ν[n]'(by omega) = o := by
    have := List.getElem?_eq_some_iff.mp hc
    exact this.2
  rw [e] at this
  have z : ν.drop (n + 1) = [] := List.drop_eq_nil_iff.mpr (by omega)
  rw [z] at this
  exact this.symm
theorem PureS.take {μ : Store} (h : PureS μ) (n : Nat) : PureS (μ.take n) := fun o ho => h o (List.mem_of_mem_take ho)
/-- a comprehension whose elements touch the cell p alone -/
theorem lcp {g : D → Rho → Option Rho} {E : CM D} {items : List D} {n p : Nat} {μ1 : Store} (J : Nat → Store → Prop) (R : Nat → D → Prop) (hJ : ∀ i (ν : Store) o, ν.length = n → J i ν → J i (ν ++ [o])) (hJ' : ∀ i (ν : Store) o, ν.length = n → J i (ν ++ [o]) → J i ν) (hn : μ1.length = n) (hp : p ≠ n) (hpu : PureS μ1) (hlen : items.length ≤ 1000) (h0 : J 0 μ1)
    (hs : ∀ (i : Nat) d (μ' : Store), items[i]? = some d → μ'.length = n + 1 → PureS μ' → J i μ' → ∃ ρ1, g d ρ = some ρ1 ∧ Ok (E ρ1 μ') (fun y μ2 => R i y ∧ noRef 0 y = true ∧ Fr p μ' μ2 ∧ PureS μ2 ∧ J (i + 1) μ2))
    : Ok (lcLoop anyG g bYes E n items ρ (μ1 ++ [.lst []])) (fun d μ' => PureS (μ'.take n) ∧ ∃ ys, unref n μ' 4 d = some (.lst ys) ∧ ys.length = items.length ∧ (∀ (i : Nat) y, ys[i]? = some y → R i y) ∧ Fr p μ1 (μ'.take n) ∧ J items.length (μ'.take n)) := by
  refine lc_ok (acc := []) (fun i acc μ => ∃ ν : Store, μ = ν ++ [.lst acc] ∧ ν.length = n ∧ Fr p μ1 ν ∧ PureS ν ∧ J i ν ∧ acc.length = i ∧ ∀ (k : Nat) y, acc[k]? = some y → R k y ∧ noRef 0 y = true) (fun _ _ _ _ => rfl) ?_ ?_ ⟨μ1, rfl, hn, Fr.refl _ _, hpu, h0, rfl, fun k y e => by simp at e⟩
  · rintro i d acc μ ed ⟨ν, rfl, hl, hf, hpν, hJν, ha, hR⟩
    have hpa : noRefs 0 acc = true := noRefs_all.mpr fun y hy => by
      obtain ⟨k, hk⟩ := List.getElem?_of_mem hy
      exact (hR k y hk).2
    obtain ⟨ρ1, eg, h1⟩ := hs i d (ν ++ [.lst acc]) ed (by simp [hl]) (hpν.app (o := Ob.lst acc) hpa) (hJ _ _ _ hl hJν)
    refine ⟨ρ1, eg, ?_⟩
    show (true = true → _) ∧ _
    refine ⟨fun _ => h1.mono fun y μ2 ⟨hy, hyp, hf2, hp2, hJ2⟩ => ?_, fun z => by cases z⟩
    have l2 : μ2.length = n + 1 := by rw [hf2.len]; simp [hl]
    have c2 : μ2[n]? = some (.lst acc) := by
      rw [hf2.eq n (Ne.symm hp), ← hl]
      simp
    have hil : i < items.length := (List.getElem?_eq_some_iff.mp ed).1
    have e2 := take_last l2 c2
    refine ⟨c2, by rw [ha]; exact small1000 (by omega), μ2.take n, ?_, by rw [List.length_take]; omega, ?_, hp2.take n, hJ' _ _ (.lst acc) (by rw [List.length_take]; omega) (by rw [← e2]; exact hJ2), by simp [ha], fun k z ez => ?_⟩
    · have tl : (μ2.take n).length = n := by rw [List.length_take]; omega
      rw [e2, List.set_append_right _ _ (by omega), tl]
      simp [tl]
    · refine ⟨by rw [List.length_take, hn]; omega, fun j hj => ?_⟩
      by_cases hjn : j < n
      · rw [List.getElem?_take_of_lt hjn, hf2.eq j hj, List.getElem?_append_left (by omega), hf.eq j hj]
      · rw [List.getElem?_eq_none (by rw [List.length_take]; omega), List.getElem?_eq_none (by omega)]
    · by_cases hk : k < acc.length
      · rw [List.getElem?_append_left hk] at ez
        exact hR k z ez
      · have hk2 : k = acc.length := by
          have := (List.getElem?_eq_some_iff.mp ez).1
          simp at this; omega
        subst hk2
        simp at ez
        subst ez
        rw [ha]
        exact ⟨hy, hyp⟩
  · rintro acc μ ⟨ν, rfl, hl, hf, hpν, hJν, ha, hR⟩
    have hpa : noRefs 0 acc = true := noRefs_all.mpr fun y hy => by
      obtain ⟨k, hk⟩ := List.getElem?_of_mem hy
      exact (hR k y hk).2
    have tk : (ν ++ [Ob.lst acc]).take n = ν := by rw [← hl]; simp
    rw [tk]
    exact ⟨hpν, acc, unref_cell (ds := acc) (by rw [← hl]; simp) (Nat.le_refl _) hpa, ha, (fun i y e => (hR i y e).1), hf, hJν⟩
end
end DM

namespace DM
open PySem PySem.Spec L2
section
variable {α β : Type} {ρ : Rho} {μ : Store} {Q : D → Store → Prop} {Qs : List D → Store → Prop} {Qb : Bool → Store → Prop} {Qf : Fl → Store → Prop} {Qi : IV → Store → Prop} {A B C : CM D} {T U : CM Bool} {As : CM (List D)}
theorem q_ok {a : α} {R : α → Store → Prop} : Ok (some (.ok a, μ)) R = R a μ := rfl
theorem q_okR {d : D} : Ok (okR d μ) Q = Q d μ := rfl
theorem q_none {R : α → Store → Prop} : Ok (none : Res α) R = False := rfl
theorem q_if {c : Prop} [Decidable c] {r : Res α} {R : α → Store → Prop} : Ok (if c then r else none) R = (c ∧ Ok r R) := by
  by_cases z : c
  · simp [z]
  · simp [z, Ok]
theorem q_C {d : D} : Ok (eC d ρ μ) Q = Q d μ := rfl
theorem q_ret {a : α} {R : α → Store → Prop} : Ok (CM.ret a ρ μ) R = R a μ := rfl
def varAt (o : Option (Option D)) (k : D → Prop) : Prop := match o with
  | some (some d) => k d
  | _ => False
theorem q_var {i : Nat} : Ok (eVar i ρ μ) Q = varAt ρ[i]? (fun d => Q d μ) := by
  unfold eVar varAt
  match ρ[i]? with
  | some (some d) => rfl
  | some none => rfl
  | none => rfl
theorem q_at {d : D} {k : D → Prop} : varAt (some (some d)) k = k d := rfl
theorem q_e1 {F : D → Store → Res D} : Ok (e1 F A ρ μ) Q = Ok (A ρ μ) (fun d μ1 => Ok (F d μ1) Q) := Ok_bind
theorem q_e2 {F : D → D → Store → Res D} : Ok (e2 F A B ρ μ) Q = Ok (A ρ μ) (fun d μ1 => Ok (B ρ μ1) (fun e μ2 => Ok (F d e μ2) Q)) := by
  unfold e2
  rw [Ok_bind]
  congr 1
  funext d μ1
  exact Ok_bind
theorem q_call {F : FD} {dfl : List D} : Ok (eCall F As dfl ρ μ) Q = Ok (As ρ μ) (fun ds μ1 => Ok (F (ds ++ dfl) μ1) Q) := Ok_bind
theorem q_callB {F : List D → Store → Res D} : Ok (eCallB F As ρ μ) Q = Ok (As ρ μ) (fun ds μ1 => Ok (F ds μ1) Q) := Ok_bind
theorem q_nil : Ok (aNil ρ μ) Qs = Qs [] μ := rfl
theorem q_cons : Ok (aCons A As ρ μ) Qs = Ok (A ρ μ) (fun d μ1 => Ok (As ρ μ1) (fun ds μ2 => Qs (d :: ds) μ2)) := by
  unfold aCons
  rw [Ok_bind]
  congr 1
  funext d μ1
  rw [Ok_bind]
  rfl
theorem q_tup : Ok (eTup As ρ μ) Q = Ok (As ρ μ) (fun ds μ1 => ds.length ≤ sizeLine ∧ Q (.tup ds) μ1) := by
  unfold eTup
  rw [Ok_bind]
  congr 1
  funext d μ1
  exact q_if
theorem q_lst : Ok (eLst As ρ μ) Q = Ok (As ρ μ) (fun ds μ1 => ds.length ≤ sizeLine ∧ Q (.lst ds) μ1) := by
  unfold eLst
  rw [Ok_bind]
  congr 1
  funext d μ1
  exact q_if
theorem q_cel : Ok (eCel As ρ μ) Q = Ok (As ρ μ) (fun ds μ1 => ds.length ≤ sizeLine ∧ Q (.ref μ1.length) (μ1 ++ [.lst ds])) := by
  unfold eCel
  rw [Ok_bind]
  congr 1
  funext d μ1
  exact q_if
theorem q_ifexp : Ok (eIf T A B ρ μ) Q = Ok (T ρ μ) (fun c μ1 => if c = true then Ok (A ρ μ1) Q else Ok (B ρ μ1) Q) := by
  unfold eIf
  rw [Ok_bind]
  congr 1
  funext c μ1
  cases c <;> rfl
def blAt (d : D) (k : Bool → Prop) : Prop := match d with
  | .bl b => k b
  | _ => False
theorem q_blAt {b : Bool} {k : Bool → Prop} : blAt (.bl b) k = k b := rfl
theorem q_bOf : Ok (bOf A ρ μ) Qb = Ok (A ρ μ) (fun d μ1 => blAt d (fun b => Qb b μ1)) := by
  unfold bOf
  rw [Ok_bind]
  congr 1
  funext d μ1
  cases d <;> rfl
theorem q_bTru : Ok (bTru A ρ μ) Qb = Ok (A ρ μ) (fun d μ1 => Ok (Ftru d μ1) Qb) := Ok_bind
theorem q_bAnd : Ok (bAnd T U ρ μ) Qb = Ok (T ρ μ) (fun c μ1 => if c = true then Ok (U ρ μ1) Qb else Qb false μ1) := by
  unfold bAnd
  rw [Ok_bind]
  congr 1
  funext c μ1
  cases c <;> rfl
theorem q_bOr : Ok (bOr T U ρ μ) Qb = Ok (T ρ μ) (fun c μ1 => if c = true then Qb true μ1 else Ok (U ρ μ1) Qb) := by
  unfold bOr
  rw [Ok_bind]
  congr 1
  funext c μ1
  cases c <;> rfl
theorem q_bNot : Ok (bNot T ρ μ) Qb = Ok (T ρ μ) (fun c μ1 => Qb (!c) μ1) := Ok_bind
theorem q_vAnd : Ok (vAnd A B ρ μ) Q = Ok (A ρ μ) (fun d μ1 => blAt d (fun b => if b = true then Ok (B ρ μ1) Q else Q (.bl false) μ1)) := by
  unfold vAnd
  rw [Ok_bind]
  congr 1
  funext d μ1
  cases d with
  | bl b => cases b <;> rfl
  | _ => rfl
theorem q_vOr : Ok (vOr A B ρ μ) Q = Ok (A ρ μ) (fun d μ1 => blAt d (fun b => if b = true then Q (.bl true) μ1 else Ok (B ρ μ1) Q)) := by
  unfold vOr
  rw [Ok_bind]
  congr 1
  funext d μ1
  cases d with
  | bl b => cases b <;> rfl
  | _ => rfl
theorem q_vNot : Ok (vNot A ρ μ) Q = Ok (A ρ μ) (fun d μ1 => blAt d (fun b => Q (.bl (!b)) μ1)) := by
  unfold vNot
  rw [Ok_bind]
  congr 1
  funext d μ1
  cases d <;> rfl
theorem q_chain {F G : D → D → Store → Res D} : Ok (eChain F G A B C ρ μ) Q = Ok (A ρ μ) (fun d μ1 => Ok (B ρ μ1) (fun e μ2 => Ok (F d e μ2) (fun z μ3 => blAt z (fun b => if b = true then Ok (C ρ μ3) (fun g μ4 => Ok (G e g μ4) Q) else Q (.bl false) μ3)))) := by
  unfold eChain
  rw [Ok_bind]
  congr 1
  funext d μ1
  rw [Ok_bind]
  congr 1
  funext e μ2
  rw [Ok_bind]
  congr 1
  funext z μ3
  cases z with
  | bl b =>
    cases b with
    | true => exact Ok_bind
    | false => rfl
  | _ => rfl
theorem q_pure {o : Option D} : Ok (pureR o μ) Q = ∃ d, o = some d ∧ Q d μ := by
  cases o with
  | none => simp [pureR, Ok]
  | some d => simp [pureR, Ok]
/-! statements -/
def contS (B : SF) (Qf : Fl → Store → Prop) : Fl → Store → Prop := fun f μ => match f with
  | .nx ρ => OkS (B ρ μ) Qf
  | f => Qf f μ
theorem q_seq {S B : SF} : OkS (sSeq S B ρ μ) Qf = OkS (S ρ μ) (contS B Qf) := by
  unfold sSeq
  match S ρ μ with
  | some (.nx ρ1, μ1) => rfl
  | some (.rt _, _) => rfl
  | some (.bk _, _) => rfl
  | some (.ct _, _) => rfl
  | some (.ex _ _, _) => rfl
  | none => rfl
theorem q_cont {B : SF} : contS B Qf (.nx ρ) μ = OkS (B ρ μ) Qf := rfl
theorem q_contR {B : SF} {d : D} : contS B Qf (.rt d) μ = Qf (.rt d) μ := rfl
theorem q_contB {B : SF} : contS B Qf (.bk ρ) μ = Qf (.bk ρ) μ := rfl
theorem q_contC {B : SF} : contS B Qf (.ct ρ) μ = Qf (.ct ρ) μ := rfl
theorem q_asg {i : Nat} (h : Ok (A ρ μ) (fun d μ1 => Qf (.nx (ρ.set i (some d))) μ1)) : OkS (sAsg i A ρ μ) Qf := OkS_asg h
theorem q_sret (h : Ok (A ρ μ) (fun d μ1 => Qf (.rt d) μ1)) : OkS (sRet A ρ μ) Qf := OkS_ret h
theorem q_sif {S S' : SF} (h : Ok (T ρ μ) (fun c μ1 => if c = true then OkS (S ρ μ1) Qf else OkS (S' ρ μ1) Qf)) : OkS (sIf T S S' ρ μ) Qf := by
  unfold sIf
  refine OkS_lft (h.mono fun c μ1 q => ?_)
  cases c <;> exact q
theorem q_snil : OkS (sNil ρ μ) Qf = Qf (.nx ρ) μ := rfl
theorem q_par2 {i j : Nat} (h : Ok (As ρ μ) (fun ds μ1 => ∃ a b, ds = [a, b] ∧ Qf (.nx ((ρ.set i (some a)).set j (some b))) μ1)) : OkS (sPar2 i j As ρ μ) Qf := OkS_lft (h.mono fun ds μ1 ⟨a, b, e, q⟩ => by subst e; exact q)
theorem q_par3 {i j l : Nat} (h : Ok (As ρ μ) (fun ds μ1 => ∃ a b c, ds = [a, b, c] ∧ Qf (.nx (((ρ.set i (some a)).set j (some b)).set l (some c))) μ1)) : OkS (sPar3 i j l As ρ μ) Qf := OkS_lft (h.mono fun ds μ1 ⟨a, b, c, e, q⟩ => by subst e; exact q)
theorem q_put (h : Ok (C ρ μ) (fun v μ1 => Ok (A ρ μ1) (fun o μ2 => Ok (B ρ μ2) (fun i μ3 => ∃ c k xs j, o = .ref c ∧ i = .int k ∧ μ3[c]? = some (.lst xs) ∧ ixN xs.length k = some j ∧ Qf (.nx ρ) (μ3.set c (.lst (xs.set j v))))))) : OkS (sPut A B C ρ μ) Qf := by
  unfold sPut
  refine OkS_lft (h.mono fun v μ1 h1 => OkS_lft (h1.mono fun o μ2 h2 => OkS_lft (h2.mono fun i μ3 h3 => ?_)))
  obtain ⟨c, k, xs, j, rfl, rfl, e1, e2, q⟩ := h3
  simp only [e1, e2]
  exact q
theorem q_for {I : CM IV} {g : D → Rho → Option Rho} {S : SF} (h : Ok (I ρ μ) (fun p μ1 => OkS (loop p.2 g S p.1 ρ μ1) Qf)) : OkS (sFor I g S ρ μ) Qf := OkS_lft h
theorem q_fn {n m : Nat} {S : SF} {ds : List D} (hl : ds.length = m) (h : OkS (S (startR n ds) μ) (fun f μ1 => match f with | .nx _ => Q .non μ1 | .rt d => Q d μ1 | _ => False)) : Ok (fnP n m S ds μ) Q := by
  unfold fnP
  rw [if_pos hl]
  generalize S (startR n ds) μ = r at h ⊢
  match r, h with
  | some (.nx _, _), h => exact h
  | some (.rt _, _), h => exact h
theorem q_rg1 : Ok (iRg1 As ρ μ) Qi = Ok (As ρ μ) (fun ds μ1 => ∃ j : Int, ds = [.int j] ∧ -(2 ^ 62) ≤ j ∧ j < 2 ^ 62 ∧ Qi (rngD 0 j.toNat, anyG) μ1) := by
  unfold iRg1
  rw [Ok_bind]
  congr 1
  funext ds μ1
  apply propext
  constructor
  · intro h
    split at h
    · rw [q_if] at h
      exact ⟨_, rfl, h.1.1, h.1.2, h.2⟩
    · exact h.elim
  · rintro ⟨j, rfl, a, b, q⟩
    show Ok (if _ then _ else none) Qi
    rw [q_if]
    exact ⟨⟨a, b⟩, q⟩
theorem q_rg2 : Ok (iRg2 As ρ μ) Qi = Ok (As ρ μ) (fun ds μ1 => ∃ i j : Int, ds = [.int i, .int j] ∧ (-(2 ^ 62) ≤ i ∧ i < 2 ^ 62 ∧ -(2 ^ 62) ≤ j ∧ j < 2 ^ 62) ∧ Qi (rngD i (j - i).toNat, anyG) μ1) := by
  unfold iRg2
  rw [Ok_bind]
  congr 1
  funext ds μ1
  apply propext
  constructor
  · intro h
    split at h
    · rw [q_if] at h
      exact ⟨_, _, rfl, h.1, h.2⟩
    · exact h.elim
  · rintro ⟨i, j, rfl, a, q⟩
    show Ok (if _ then _ else none) Qi
    rw [q_if]
    exact ⟨a, q⟩
def seqAt (d : D) (μ : Store) (k : List D → (Store → Bool) → Prop) : Prop := match d with
  | .lst xs => k xs anyG
  | .fl xs => k xs anyG
  | .ref c => match μ[c]? with
    | some (.lst xs) => k xs (isLst c xs)
    | _ => False
  | _ => False
theorem q_seqL {xs : List D} {k : List D → (Store → Bool) → Prop} : seqAt (.lst xs) μ k = k xs anyG := rfl
theorem q_seqF {xs : List D} {k : List D → (Store → Bool) → Prop} : seqAt (.fl xs) μ k = k xs anyG := rfl
theorem q_iseq : Ok (iSeq A ρ μ) Qi = Ok (A ρ μ) (fun d μ1 => seqAt d μ1 (fun xs g => Qi (xs, g) μ1)) := by
  unfold iSeq
  rw [Ok_bind]
  congr 1
  funext d μ1
  cases d with
  | ref c =>
    unfold seqAt
    simp only []
    cases μ1[c]? with
    | none => rfl
    | some o => cases o <;> rfl
  | _ => rfl
def tupAt (d : D) (k : List D → Prop) : Prop := match d with
  | .tup xs => k xs
  | _ => False
theorem q_tupAt {xs : List D} {k : List D → Prop} : tupAt (.tup xs) k = k xs := rfl
theorem q_itup : Ok (iTupD A ρ μ) Qi = Ok (A ρ μ) (fun d μ1 => tupAt d (fun xs => Qi (xs, anyG) μ1)) := by
  unfold iTupD
  rw [Ok_bind]
  congr 1
  funext d μ1
  cases d <;> rfl
/-! built-in functions on known shapes -/
theorem f_add {i j : Int} : Fadd (.int i) (.int j) μ = okR (.int (i + j)) μ := rfl
theorem f_sub {i j : Int} : Fsub (.int i) (.int j) μ = okR (.int (i - j)) μ := rfl
theorem f_mul {i j : Int} : Fmul (.int i) (.int j) μ = if mulOk i j then okR (.int (i * j)) μ else none := rfl
theorem f_div {i j : Int} : Fdiv (.int i) (.int j) μ = if divOk j then okR (.int (i / j)) μ else none := rfl
theorem f_mod {i j : Int} : Fmod (.int i) (.int j) μ = if 0 < j then okR (.int (i % j)) μ else none := rfl
theorem f_pow {i j : Int} : Fpow (.int i) (.int j) μ = if powOk i j then okR (.int (i ^ j.toNat)) μ else none := rfl
theorem f_neg {i : Int} : Fneg (.int i) μ = okR (.int (-i)) μ := rfl
theorem f_cmp {p : Int → Int → Bool} {i j : Int} : Fcmp p (.int i) (.int j) μ = okR (.bl (p i j)) μ := rfl
theorem f_abs {i : Int} : Fabs [.int i] μ = okR (.int (if i < 0 then -i else i)) μ := rfl
theorem f_intI {i : Int} : Fint [.int i] μ = okR (.int i) μ := rfl
theorem f_intB {b : Bool} : Fint [.bl b] μ = okR (.int (if b then 1 else 0)) μ := rfl
theorem f_max {i j : Int} : Fmax [.int i, .int j] μ = okR (.int (if j > i then j else i)) μ := rfl
theorem f_min {i j : Int} : Fmin [.int i, .int j] μ = okR (.int (if j < i then j else i)) μ := rfl
theorem f_lenL {xs : List D} : Flen [.lst xs] μ = okR (.int xs.length) μ := rfl
theorem f_lenF {xs : List D} : Flen [.fl xs] μ = okR (.int xs.length) μ := rfl
theorem f_lenT {xs : List D} : Flen [.tup xs] μ = okR (.int xs.length) μ := rfl
theorem f_ixL {xs : List D} {i : Int} : Fix (.lst xs) (.int i) μ = pureR (atI xs i) μ := rfl
theorem f_ixF {xs : List D} {i : Int} : Fix (.fl xs) (.int i) μ = pureR (atI xs i) μ := rfl
theorem f_ixT {xs : List D} {i : Int} : Fix (.tup xs) (.int i) μ = pureR (atI xs i) μ := rfl
theorem f_ixR {c : Nat} {xs : List D} {i : Int} (h : μ[c]? = some (.lst xs)) : Fix (.ref c) (.int i) μ = pureR (atI xs i) μ := by
  unfold Fix
  simp only [h]
theorem f_eqI {i j : Int} : Feq false (.int i) (.int j) μ = okR (.bl (i == j)) μ := rfl
theorem f_neI {i j : Int} : Feq true (.int i) (.int j) μ = okR (.bl (!(i == j))) μ := rfl
theorem f_eqB {i j : Bool} : Feq false (.bl i) (.bl j) μ = okR (.bl (i == j)) μ := rfl
theorem f_neB {i j : Bool} : Feq true (.bl i) (.bl j) μ = okR (.bl (!(i == j))) μ := rfl
theorem f_eqT {i j : Str} : Feq false (.str i) (.str j) μ = okR (.bl (i == j)) μ := rfl
theorem f_neT {i j : Str} : Feq true (.str i) (.str j) μ = okR (.bl (!(i == j))) μ := rfl
theorem f_eqS {i j : Str} (hi : PyData.strOk i = true) (hj : PyData.strOk j = true) : Feq false (.str i) (.str j) μ = okR (.bl (i == j)) μ := rfl
theorem f_neS {i j : Str} (hi : PyData.strOk i = true) (hj : PyData.strOk j = true) : Feq true (.str i) (.str j) μ = okR (.bl (!(i == j))) μ := rfl
theorem f_isB {i j : Bool} : Fis false (.bl i) (.bl j) μ = okR (.bl (decide (i = j))) μ := rfl
theorem f_isnotB {i j : Bool} : Fis true (.bl i) (.bl j) μ = okR (.bl (!decide (i = j))) μ := rfl
theorem f_truB {b : Bool} : Ftru (.bl b) μ = some (.ok b, μ) := rfl
theorem f_truI {i : Int} : Ftru (.int i) μ = some (.ok (i != 0), μ) := rfl
theorem f_repr0 {b : Bool} : Frepr0 [.bl b] μ = okR (.str (reprB b)) μ := rfl
theorem reprB_ok : ∀ b : Bool, PyData.strOk (reprB b) = true
  | true => by decide +kernel
  | false => by decide +kernel
theorem reprB_eq : ∀ a b : Bool, (reprB a == reprB b) = (a == b)
  | true, true => by decide +kernel
  | true, false => by decide +kernel
  | false, true => by decide +kernel
  | false, false => by decide +kernel
theorem q_pureS {d : D} : Ok (pureR (some d) μ) Q = Q d μ := rfl
theorem at0 {x : α} {r : List α} : atI (x :: r) 0 = some x := atI_nat (j := 0) rfl
theorem at1 {x y : α} {r : List α} : atI (x :: y :: r) 1 = some y := atI_nat (j := 1) rfl
theorem at2 {x y z : α} {r : List α} : atI (x :: y :: z :: r) 2 = some z := atI_nat (j := 2) rfl
theorem at_lt {xs : List α} {i : Int} (h0 : 0 ≤ i) (h : i < xs.length) : ∃ x, atI xs i = some x ∧ xs[i.toNat]? = some x := by
  have hl : i.toNat < xs.length := by omega
  refine ⟨xs[i.toNat], ?_, List.getElem?_eq_getElem hl⟩
  have := atI_nat (j := i.toNat) (v := xs[i.toNat]) (List.getElem?_eq_getElem hl)
  rw [Int.toNat_of_nonneg h0] at this
  exact this
theorem at_none {xs : List α} {i : Int} (h0 : 0 ≤ i) (h : (xs.length : Int) ≤ i) : atI xs i = none := by
  unfold atI ixN
  rw [if_pos h0, if_neg (by omega)]
  rfl
theorem size_ok {n : Nat} (h : n ≤ 1000000) : n ≤ sizeLine := Nat.le_trans h (by decide)
theorem q_lc {I : CM IV} {g : D → Rho → Option Rho} {E : CM D} {own : List Nat} (h : Ok (I ρ μ) (fun q μ1 => Ok (lcLoop q.2 g T E μ1.length q.1 (wipeR ρ own) (μ1 ++ [.lst []])) (fun d μ' => PureS (μ'.take μ.length) ∧ ∃ d', unref μ.length μ' 4 d = some d' ∧ Q d' (μ'.take μ.length)))) : Ok (eSeal (eLC I g T E own) ρ μ) Q := by
  refine Ok_seal ?_
  unfold eLC
  rw [Ok_bind]
  exact h
theorem rng_get {lo : Int} {n i : Nat} {d : D} (h : (rngD lo n)[i]? = some d) : i < n ∧ d = .int (lo + i) := by
  have hl : i < n := by
    have := (List.getElem?_eq_some_iff.mp h).1
    simpa [rngD] using this
  unfold rngD at h
  rw [List.getElem?_map, List.getElem?_range hl] at h
  cases h
  exact ⟨hl, rfl⟩
theorem rng_len {lo : Int} {n : Nat} : (rngD lo n).length = n := by simp [rngD]
theorem bls_true : ∀ {ys : List D}, (∀ y ∈ ys, y = .bl true) → ∃ bs, bls ys = some bs ∧ bs.all id = true
  | [], _ => ⟨[], rfl, rfl⟩
  | y :: r, h => by
    have hy := h y List.mem_cons_self
    subst hy
    obtain ⟨bs, e, a⟩ := bls_true (ys := r) fun z hz => h z (List.mem_cons_of_mem _ hz)
    exact ⟨true :: bs, by simp [bls, e], by simpa using a⟩
theorem f_all {ys : List D} (h : ∀ y ∈ ys, y = .bl true) : Fall [.lst ys] μ = okR (.bl true) μ := by
  obtain ⟨bs, e, a⟩ := bls_true h
  unfold Fall
  simp only [e, Option.map_some, pureR, a]
end
end DM

namespace DM
open PySem PySem.Spec L2
local macro_rules | `(tactic| walk_at "q") => `(tactic| simp only [q_ok, q_okR, q_if, q_C, q_ret, q_var, q_at, q_e1, q_e2, q_call, q_callB, q_nil, q_cons, q_tup, q_lst, q_cel, q_ifexp, q_blAt, q_bOf, q_bTru, q_bAnd, q_bOr, q_bNot, q_vAnd, q_vOr, q_vNot, q_chain, q_pureS, at0, at1, at2, q_iseq, q_seqL, q_seqF, q_rg1, q_rg2, q_itup, q_tupAt,
  f_add, f_sub, f_mul, f_div, f_mod, f_pow, f_neg, f_cmp, f_abs, f_intI, f_intB, f_max, f_min, f_lenL, f_lenF, f_lenT, f_ixL, f_ixF, f_ixT, f_eqI, f_neI, f_eqB, f_neB, f_isB, f_isnotB, f_truB, f_truI, f_repr0, startR, List.map_cons, List.map_nil, List.length_cons, List.length_nil, List.cons_append, List.nil_append, List.append_nil, List.getElem?_cons_zero, List.getElem?_cons_succ, List.set_cons_zero, List.set_cons_succ, List.replicate_succ, List.replicate_zero, Nat.reduceAdd, Nat.reduceSub])
/-! ### the drawn numbers: a pool is a cell of three ints; c bounds how many were mixed -/
def Pool (p : Nat) (c : Int) (μ : Store) : Prop := ∃ a b c0 : Int, μ[p]? = some (.lst [.int a, .int b, .int c0]) ∧ 0 ≤ a ∧ 0 ≤ b ∧ b < 2 ^ 62 ∧ 0 ≤ c0 ∧ c0 ≤ c
theorem pool_set {p : Nat} {μ : Store} {a b c0 c : Int} (hl : p < μ.length) (ha : 0 ≤ a) (hb : 0 ≤ b) (hb2 : b < 2 ^ 62) (h0 : 0 ≤ c0) (h1 : c0 ≤ c) : Pool p c (μ.set p (.lst [.int a, .int b, .int c0])) :=
  ⟨a, b, c0, List.getElem?_set_self hl, ha, hb, hb2, h0, h1⟩
/-- the store as a law's own helpers find it -/
structure Wd (p : Nat) (c : Int) (μ : Store) : Prop where
  pool : Pool p c μ
  pure : PureS μ
theorem Wd.mono {p : Nat} {c c' : Int} {μ : Store} (h : Wd p c μ) (l : c ≤ c') : Wd p c' μ := by
  obtain ⟨⟨a, b, c0, e, q1, q2, q3, q4, q5⟩, hp⟩ := h
  exact ⟨⟨a, b, c0, e, q1, q2, q3, q4, by omega⟩, hp⟩
theorem Wd.lt {p : Nat} {c : Int} {μ : Store} (h : Wd p c μ) : p < μ.length := by
  obtain ⟨⟨a, b, c0, e, _⟩, _⟩ := h
  exact (List.getElem?_eq_some_iff.mp e).1
/-- a draw: n is what it is bounded by -/
def DrawOk (F : FD) : Prop := ∀ {p : Nat} {c n : Int} {μ : Store}, Wd p c μ → c < 2 ^ 20 → 0 < n → n < 2 ^ 200 → Ok (F [.ref p, .int n] μ) (fun d μ' => ∃ r, d = .int r ∧ 0 ≤ r ∧ r < n ∧ Wd p (c + 1) μ' ∧ Fr p μ μ')
/-- the same with nothing said of the other cells -/
def DrawP (F : FD) : Prop := ∀ {p : Nat} {c n : Int} {μ : Store}, Pool p c μ → c < 2 ^ 20 → 0 < n → n < 2 ^ 200 → Ok (F [.ref p, .int n] μ) (fun d μ' => ∃ r, d = .int r ∧ 0 ≤ r ∧ r < n ∧ Pool p (c + 1) μ' ∧ ∃ a b c0 : Int, μ' = μ.set p (.lst [.int a, .int b, .int c0]))
theorem DrawP.ok {F : FD} (h : DrawP F) : DrawOk F := fun {p c n μ} hw hc h0 h1 => (h hw.pool hc h0 h1).mono fun d μ' ⟨r, e, r0, r1, w, a, b, c0, e'⟩ => ⟨r, e, r0, r1, ⟨w, by rw [e']; exact hw.pure.set rfl⟩, by rw [e']; exact Fr.set⟩
def primes5 : List D := [.int 2147483647, .int 2147483629, .int 2147483587, .int 2147483579, .int 2147483563]
theorem primes5_at (t : Int) : ∃ pr : Int, atI primes5 (t % 5) = some (.int pr) ∧ 2147483563 ≤ pr ∧ pr ≤ 2147483647 := by
  have : t % 5 = 0 ∨ t % 5 = 1 ∨ t % 5 = 2 ∨ t % 5 = 3 ∨ t % 5 = 4 := by omega
  rcases this with h | h | h | h | h <;> rw [h]
  · exact ⟨2147483647, rfl, by decide, by decide⟩
  · exact ⟨2147483629, rfl, by decide, by decide⟩
  · exact ⟨2147483587, rfl, by decide, by decide⟩
  · exact ⟨2147483579, rfl, by decide, by decide⟩
  · exact ⟨2147483563, rfl, by decide, by decide⟩
theorem primes4_at (t : Int) : ∃ pr : Int, atI [D.int 2305843009213693951, .int 2305843009213693921, .int 2305843009213693907, .int 2305843009213693723] (t % 4) = some (.int pr) ∧ 2305843009213693723 ≤ pr ∧ pr ≤ 2305843009213693951 := by
  have : t % 4 = 0 ∨ t % 4 = 1 ∨ t % 4 = 2 ∨ t % 4 = 3 := by omega
  rcases this with h | h | h | h <;> rw [h]
  · exact ⟨2305843009213693951, rfl, by decide, by decide⟩
  · exact ⟨2305843009213693921, rfl, by decide, by decide⟩
  · exact ⟨2305843009213693907, rfl, by decide, by decide⟩
  · exact ⟨2305843009213693723, rfl, by decide, by decide⟩
/-- the first part of every draw -/
def digitS (rest : SF) : SF := (sSeq (sIf (bOf (e2 Fgt (e2 Fix (eVar 0) (eC (.int 0))) (eC (.int 0)))) (sSeq (sAsg 2 (e2 Fmod (e2 Fix (eVar 0) (eC (.int 0))) (eVar 1))) (sSeq (sPut (eVar 0) (eC (.int 0)) (e2 Fdiv (e2 Fix (eVar 0) (eC (.int 0))) (eVar 1))) (sRet (eVar 2)))) sNil) (sSeq (sPut (eVar 0) (eC (.int 2)) (e2 Fadd (e2 Fix (eVar 0) (eC (.int 2))) (eC (.int 1)))) rest))
theorem digit_ok {rest : SF} {k : Nat}
    (hr : ∀ {p : Nat} {a b t n : Int} {μ1 : Store}, μ1[p]? = some (.lst [.int a, .int b, .int t]) → 0 ≤ b → b < 2 ^ 62 → 0 < t → t ≤ 2 ^ 20 → 0 < n → n < 2 ^ 200 → ∀ {Qf : Fl → Store → Prop}, (∀ r, 0 ≤ r → r < n → Qf (.rt (.int r)) μ1) → OkS (rest (some (.ref p) :: some (.int n) :: none :: List.replicate k none) μ1) Qf) : DrawP (fnP (3 + k) 2 (digitS rest)) := by
  intro p c n μ hw hc h0 h1
  obtain ⟨a, b, c0, e, ha, hb, hb2, hc0, hcc⟩ := hw
  have hl : p < μ.length := (List.getElem?_eq_some_iff.mp e).1
  refine q_fn rfl ?_
  have est : startR (3 + k) [.ref p, .int n] = some (.ref p) :: some (.int n) :: none :: List.replicate k none := by
    unfold startR
    have : 3 + k - [D.ref p, D.int n].length = k + 1 := by simp; omega
    rw [this, List.replicate_succ]
    rfl
  rw [est]
  unfold digitS
  rw [q_seq]
  refine q_sif ?_
  walk_at "q"
  simp only [f_ixR e, at0, q_pureS, f_cmp, q_okR, q_blAt]
  by_cases z : 0 < a
  · rw [if_pos (decide_eq_true z), q_seq]
    refine q_asg ?_
    walk_at "q"
    simp only [f_ixR e, at0, q_pureS, f_mod, q_if, q_okR]
    refine ⟨h0, ?_⟩
    rw [q_cont, q_seq]
    refine q_put ?_
    walk_at "q"
    simp only [f_ixR e, at0, q_pureS, f_div, q_if, q_okR]
    refine ⟨⟨h0, by omega⟩, p, 0, _, 0, rfl, rfl, e, rfl, ?_⟩
    rw [q_cont]
    refine q_sret ?_
    walk_at "q"
    rw [q_contR]
    refine ⟨a % n, rfl, Int.emod_nonneg _ (by omega), Int.emod_lt_of_pos _ h0, pool_set hl (Int.ediv_nonneg ha (by omega)) hb hb2 hc0 (by omega), _, _, _, rfl⟩
  · rw [if_neg (by simpa using z), q_snil, q_cont, q_seq]
    refine q_put ?_
    walk_at "q"
    simp only [f_ixR e, at2, q_pureS, f_add, q_okR]
    refine ⟨p, 2, _, 2, rfl, rfl, e, rfl, ?_⟩
    simp only [List.set_cons_zero, List.set_cons_succ]
    rw [q_cont]
    refine hr (List.getElem?_set_self hl) hb hb2 (by omega) (by omega) h0 h1 fun r r0 r1 => ?_
    exact ⟨r, rfl, r0, r1, pool_set hl ha hb hb2 (by omega) (by omega), _, _, _, rfl⟩
def drawRest : SF := (sSeq (sAsg 3 (e2 Fix (eVar 0) (eC (.int 2)))) (sSeq (sAsg 4 (e2 Fix (eLst (aCons (eC (.int 2147483647)) (aCons (eC (.int 2147483629)) (aCons (eC (.int 2147483587)) (aCons (eC (.int 2147483579)) (aCons (eC (.int 2147483563)) aNil)))))) (e2 Fmod (eVar 3) (eC (.int 5))))) (sSeq (sAsg 5 (e2 Fmod (e2 Fpow (e2 Fadd (e2 Fadd (e2 Fix (eVar 0) (eC (.int 1))) (e2 Fmul (e2 Fmul (eC (.int 7573)) (eVar 3)) (eVar 3))) (e2 Fmul (eC (.int 37)) (eVar 3))) (eC (.int 3))) (eVar 4))) (sRet (e2 Fmod (e2 Fdiv (e2 Fmod (e2 Fmul (eVar 5) (e2 Fadd (e2 Fadd (e2 Fmod (eVar 5) (eC (.int 1013))) (e2 Fmul (eC (.int 9)) (eVar 3))) (eC (.int 1)))) (eVar 4)) (eC (.int 13))) (eVar 1))))))
/-- 7573 .. 1013 .. 13 -/
theorem draw1_okP : DrawP (fnP 6 2 (digitS drawRest)) := digit_ok (k := 3) (by
  intro p a b t n μ1 e hb hb2 ht0 ht1 h0 h1 Qf q
  unfold drawRest
  rw [q_seq]
  refine q_asg ?_
  walk_at "q"
  simp only [f_ixR e, at2, q_pureS]
  rw [q_cont, q_seq]
  refine q_asg ?_
  walk_at "q"
  refine ⟨size_ok (by decide), by decide, ?_⟩
  obtain ⟨pr, epr, hpr0, hpr1⟩ := primes5_at t
  rw [show [D.int 2147483647, .int 2147483629, .int 2147483587, .int 2147483579, .int 2147483563] = primes5 from rfl, epr, q_pureS, q_cont, q_seq]
  refine q_asg ?_
  walk_at "q"
  simp only [f_ixR e, at1, q_pureS, f_add, f_mul, f_pow, f_mod, q_if, q_okR]
  have hu0 : 0 ≤ t * t := Int.mul_nonneg (by omega) (by omega)
  have hu : t * t ≤ 2 ^ 20 * 2 ^ 20 := Int.mul_le_mul (by omega) (by omega) (by omega) (by decide)
  have hx : 7573 * t * t = 7573 * (t * t) := Int.mul_assoc _ _ _
  refine ⟨.inl (by omega), .inr (.inl (by omega)), .inl (by omega), ⟨by decide, by decide, by omega, by omega⟩, by omega, ?_⟩
  generalize (b + 7573 * t * t + 37 * t) ^ Int.toNat 3 = big
  have hy0 := Int.emod_nonneg big (show pr ≠ 0 by omega)
  have hy1 := Int.emod_lt_of_pos big (show 0 < pr by omega)
  generalize big % pr = y at hy0 hy1
  rw [q_cont]
  refine q_sret ?_
  walk_at "q"
  refine ⟨by decide, .inl (by omega), .inl (by omega), by omega, ⟨by decide, by decide⟩, h0, ?_⟩
  exact q _ (Int.emod_nonneg _ (by omega)) (Int.emod_lt_of_pos _ h0))
theorem draw1_ok : DrawOk (fnP 6 2 (digitS drawRest)) := DrawP.ok draw1_okP
def takeRest (c1 c2 c3 c4 : Int) : SF := (sSeq (sAsg 3 (e2 Fix (eLst (aCons (eC (.int 2147483647)) (aCons (eC (.int 2147483629)) (aCons (eC (.int 2147483587)) (aCons (eC (.int 2147483579)) (aCons (eC (.int 2147483563)) aNil)))))) (e2 Fmod (e2 Fix (eVar 0) (eC (.int 2))) (eC (.int 5))))) (sSeq (sAsg 4 (e2 Fmod (e2 Fpow (e2 Fadd (e2 Fadd (e2 Fix (eVar 0) (eC (.int 1))) (e2 Fmul (e2 Fmul (eC (.int c1)) (e2 Fix (eVar 0) (eC (.int 2)))) (e2 Fix (eVar 0) (eC (.int 2))))) (eC (.int c2))) (eC (.int 3))) (eVar 3))) (sRet (e2 Fmod (e2 Fdiv (e2 Fmod (e2 Fmul (eVar 4) (e2 Fadd (e2 Fmod (eVar 4) (eC (.int c3))) (e2 Fmul (eC (.int c4)) (e2 Fix (eVar 0) (eC (.int 2)))))) (eC (.int 2305843009213693907))) (eC (.int c4))) (eVar 1)))))
/-- 65537, 29, 10007, 97; or 40009, 31, 10009, 89 -/
theorem take1_okP {c1 c2 c3 c4 : Int} (a1 : 0 < c1 ∧ c1 < 2 ^ 30) (a2 : 0 < c2 ∧ c2 < 2 ^ 30) (a3 : 0 < c3 ∧ c3 < 2 ^ 30) (a4 : 0 < c4 ∧ c4 < 2 ^ 30) : DrawP (fnP 5 2 (digitS (takeRest c1 c2 c3 c4))) := digit_ok (k := 2) (by
  intro p a b t n μ1 e hb hb2 ht0 ht1 h0 h1 Qf q
  unfold takeRest
  rw [q_seq]
  refine q_asg ?_
  walk_at "q"
  simp only [f_ixR e, at2, q_pureS, f_mod, q_if, q_okR, f_ixL]
  refine ⟨size_ok (by decide), by decide, ?_⟩
  obtain ⟨pr, epr, hpr0, hpr1⟩ := primes5_at t
  rw [show [D.int 2147483647, .int 2147483629, .int 2147483587, .int 2147483579, .int 2147483563] = primes5 from rfl, epr, q_pureS, q_cont, q_seq]
  refine q_asg ?_
  walk_at "q"
  simp only [f_ixR e, at1, at2, q_pureS, f_add, f_mul, f_pow, f_mod, q_if, q_okR]
  have hu0 : 0 ≤ t * t := Int.mul_nonneg (by omega) (by omega)
  have hu : t * t ≤ 2 ^ 20 * 2 ^ 20 := Int.mul_le_mul (by omega) (by omega) (by omega) (by decide)
  have hx : c1 * t * t = c1 * (t * t) := Int.mul_assoc _ _ _
  have hv0 : 0 ≤ c1 * (t * t) := Int.mul_nonneg (by omega) hu0
  have hv : c1 * (t * t) ≤ 2 ^ 30 * (2 ^ 20 * 2 ^ 20) := Int.mul_le_mul (by omega) hu hu0 (by decide)
  refine ⟨.inl (by omega), .inr (.inl (by omega)), ⟨by decide, by decide, by omega, by omega⟩, by omega, ?_⟩
  generalize (b + c1 * t * t + c2) ^ Int.toNat 3 = big
  have hy0 := Int.emod_nonneg big (show pr ≠ 0 by omega)
  have hy1 := Int.emod_lt_of_pos big (show 0 < pr by omega)
  generalize big % pr = y at hy0 hy1
  rw [q_cont]
  refine q_sret ?_
  walk_at "q"
  simp only [f_ixR e, at2, q_pureS, f_add, f_mul, f_div, f_mod, q_if, q_okR]
  refine ⟨by omega, .inl (by omega), .inl (by omega), by decide, ⟨by omega, by omega⟩, h0, ?_⟩
  exact q _ (Int.emod_nonneg _ (by omega)) (Int.emod_lt_of_pos _ h0))
theorem take1_ok {c1 c2 c3 c4 : Int} (a1 : 0 < c1 ∧ c1 < 2 ^ 30) (a2 : 0 < c2 ∧ c2 < 2 ^ 30) (a3 : 0 < c3 ∧ c3 < 2 ^ 30) (a4 : 0 < c4 ∧ c4 < 2 ^ 30) : DrawOk (fnP 5 2 (digitS (takeRest c1 c2 c3 c4))) := DrawP.ok (take1_okP a1 a2 a3 a4)
def takeRest2 : SF := (sSeq (sAsg 3 (e2 Fix (eLst (aCons (eC (.int 2305843009213693951)) (aCons (eC (.int 2305843009213693921)) (aCons (eC (.int 2305843009213693907)) (aCons (eC (.int 2305843009213693723)) aNil))))) (e2 Fmod (e2 Fix (eVar 0) (eC (.int 2))) (eC (.int 4))))) (sSeq (sAsg 4 (e2 Fmod (e2 Fpow (e2 Fadd (e2 Fadd (e2 Fix (eVar 0) (eC (.int 1))) (e2 Fmul (e2 Fmul (eC (.int 15485863)) (e2 Fix (eVar 0) (eC (.int 2)))) (e2 Fix (eVar 0) (eC (.int 2))))) (eC (.int 7))) (eC (.int 3))) (eVar 3))) (sRet (e2 Fmod (e2 Fdiv (e2 Fmod (e2 Fmul (eVar 4) (e2 Fadd (e2 Fmod (eVar 4) (eC (.int 1000003))) (e2 Fix (eVar 0) (eC (.int 2))))) (eVar 3)) (eC (.int 4099))) (eVar 1)))))
/-- 15485863 .. 1000003 .. 4099 -/
theorem take2_okP : DrawP (fnP 5 2 (digitS takeRest2)) := digit_ok (k := 2) (by
  intro p a b t n μ1 e hb hb2 ht0 ht1 h0 h1 Qf q
  unfold takeRest2
  rw [q_seq]
  refine q_asg ?_
  walk_at "q"
  simp only [f_ixR e, at2, q_pureS, f_mod, q_if, q_okR, f_ixL]
  refine ⟨size_ok (by decide), by decide, ?_⟩
  obtain ⟨pr, epr, hpr0, hpr1⟩ := primes4_at t
  rw [epr, q_pureS, q_cont, q_seq]
  refine q_asg ?_
  walk_at "q"
  simp only [f_ixR e, at1, at2, q_pureS, f_add, f_mul, f_pow, f_mod, q_if, q_okR]
  have hu0 : 0 ≤ t * t := Int.mul_nonneg (by omega) (by omega)
  have hu : t * t ≤ 2 ^ 20 * 2 ^ 20 := Int.mul_le_mul (by omega) (by omega) (by omega) (by decide)
  have hx : 15485863 * t * t = 15485863 * (t * t) := Int.mul_assoc _ _ _
  refine ⟨.inl (by omega), .inr (.inl (by omega)), ⟨by decide, by decide, by omega, by omega⟩, by omega, ?_⟩
  generalize (b + 15485863 * t * t + 7) ^ Int.toNat 3 = big
  have hy0 := Int.emod_nonneg big (show pr ≠ 0 by omega)
  have hy1 := Int.emod_lt_of_pos big (show 0 < pr by omega)
  generalize big % pr = y at hy0 hy1
  rw [q_cont]
  refine q_sret ?_
  walk_at "q"
  simp only [f_ixR e, at2, q_pureS, f_add, f_mul, f_div, f_mod, q_if, q_okR]
  refine ⟨by decide, .inl (by omega), by omega, ⟨by decide, by decide⟩, h0, ?_⟩
  exact q _ (Int.emod_nonneg _ (by omega)) (Int.emod_lt_of_pos _ h0))
theorem take2_ok : DrawOk (fnP 5 2 (digitS takeRest2)) := DrawP.ok take2_okP
/-- one of some -/
def pickF (F : FD) : FD := fnP 2 2 (sRet (e2 Fix (eVar 1) (eCall F (aCons (eVar 0) (aCons (eCallB Flen (aCons (eVar 1) aNil)) aNil)) [])))
theorem pick_lst {F : FD} (hF : DrawOk F) {p : Nat} {c : Int} {μ : Store} {xs : List D} (hw : Wd p c μ) (hc : c < 2 ^ 20) (h0 : 0 < xs.length) (h1 : xs.length < 2 ^ 30) : Ok (pickF F [.ref p, .lst xs] μ) (fun d μ' => (∃ i : Nat, xs[i]? = some d) ∧ Wd p (c + 1) μ' ∧ Fr p μ μ') := by
  refine q_fn rfl ?_
  refine q_sret ?_
  walk_at "q"
  refine (hF hw hc (by omega) (by omega)).mono ?_
  rintro d μ1 ⟨r, rfl, hr0, hr1, hw1, hf1⟩
  obtain ⟨x, ex, ex2⟩ := at_lt (xs := xs) hr0 hr1
  simp only [f_ixL, ex, q_pureS]
  exact ⟨⟨_, ex2⟩, hw1, hf1⟩
theorem pick_tup {F : FD} (hF : DrawOk F) {p : Nat} {c : Int} {μ : Store} {xs : List D} (hw : Wd p c μ) (hc : c < 2 ^ 20) (h0 : 0 < xs.length) (h1 : xs.length < 2 ^ 30) : Ok (pickF F [.ref p, .tup xs] μ) (fun d μ' => (∃ i : Nat, xs[i]? = some d) ∧ Wd p (c + 1) μ' ∧ Fr p μ μ') := by
  refine q_fn rfl ?_
  refine q_sret ?_
  walk_at "q"
  refine (hF hw hc (by omega) (by omega)).mono ?_
  rintro d μ1 ⟨r, rfl, hr0, hr1, hw1, hf1⟩
  obtain ⟨x, ex, ex2⟩ := at_lt (xs := xs) hr0 hr1
  simp only [f_ixT, ex, q_pureS]
  exact ⟨⟨_, ex2⟩, hw1, hf1⟩
/-! ### pools made from the script -/
def PoolOk (F : FD) : Prop := ∀ {ns : List Int} {k : Int} {μ : Store}, 0 ≤ k → k < 4 → PureS μ → Ok (F [scriptD ns, .int k] μ) (fun d μ' => d = .ref μ.length ∧ (∃ o, μ' = μ ++ [o]) ∧ Wd μ.length 0 μ')
def lotE (l1 l2 : Int) : CM D := (eIf (bOf (e2 Flt (eVar 1) (eCallB Flen (aCons (eVar 0) aNil)))) (e2 Fix (eVar 0) (eVar 1)) (e2 Fadd (e2 Fmul (eC (.int l1)) (eVar 1)) (eC (.int l2))))
theorem lot_ok {l1 l2 : Int} {ns : List Int} {k : Int} {μ : Store} {ρ : Rho} (hl : -(2 ^ 64) < l1 ∧ l1 < 2 ^ 64) (h0 : 0 ≤ k) (e0 : ρ[0]? = some (some (scriptD ns))) (e1 : ρ[1]? = some (some (.int k))) : Ok (lotE l1 l2 ρ μ) (fun d μ1 => (∃ lot, d = .int lot) ∧ μ1 = μ) := by
  unfold lotE
  simp only [q_ifexp, q_bOf, q_e2, q_var, e0, e1, q_at, q_callB, q_cons, q_nil, scriptD, f_lenF, q_okR, f_cmp, q_blAt]
  by_cases z : k < ((ns.map D.int).length : Int)
  · rw [if_pos (decide_eq_true z)]
    obtain ⟨x, ex, ex2⟩ := at_lt h0 z
    rw [f_ixF, ex, q_pureS]
    rw [List.getElem?_map] at ex2
    obtain ⟨y, _, rfl⟩ := Option.map_eq_some_iff.mp ex2
    exact ⟨⟨y, rfl⟩, rfl⟩
  · rw [if_neg (by simpa using z)]
    walk_at "q"
    exact ⟨.inl hl, ⟨_, rfl⟩, by trivial⟩
/-- own digits: abs(lot) % big * int(abs(lot) >= 10 ** 18) -/
theorem own_ok {lot : Int} {big : Int} (hb : 0 < big) : mulOk ((if lot < 0 then -lot else lot) % big) (if 10 ^ Int.toNat 18 ≤ (if lot < 0 then -lot else lot) then 1 else 0) ∧ 0 ≤ (if lot < 0 then -lot else lot) % big * (if 10 ^ Int.toNat 18 ≤ (if lot < 0 then -lot else lot) then 1 else 0) := by
  generalize (if lot < 0 then -lot else lot) = a
  have hw : (if 10 ^ Int.toNat 18 ≤ a then (1 : Int) else 0) = 0 ∨ (if 10 ^ Int.toNat 18 ≤ a then (1 : Int) else 0) = 1 := by
    by_cases z : (10 : Int) ^ Int.toNat 18 ≤ a
    · rw [if_pos z]; exact .inr rfl
    · rw [if_neg z]; exact .inl rfl
  generalize (if 10 ^ Int.toNat 18 ≤ a then (1 : Int) else 0) = w at hw
  have hm0 := Int.emod_nonneg a (show big ≠ 0 by omega)
  exact ⟨.inr (.inl (by omega)), Int.mul_nonneg hm0 (by omega)⟩
/-- the mixed part and the list -/
theorem mix_ok {μ : Store} {own mix : Int} (hs : PureS μ) (h0 : 0 ≤ own) (h1 : 0 ≤ mix) (h2 : mix < 2 ^ 62) : Wd μ.length 0 (μ ++ [.lst [.int own, .int mix, .int 0]]) :=
  ⟨⟨own, mix, 0, by simp, h0, h1, h2, by decide, by decide⟩, hs.app rfl⟩
def poolS1 (l1 l2 pw m1 m2 m3 m4 : Int) : SF := (sSeq (sAsg 2 (lotE l1 l2)) (sSeq (sAsg 3 (e2 Fmul (e2 Fmod (eCallB Fabs (aCons (eVar 2) aNil)) (e2 Fpow (e2 Fpow (eC (.int 10)) (eC (.int 60))) (eC (.int pw)))) (eCallB Fint (aCons (e2 Fge (eCallB Fabs (aCons (eVar 2) aNil)) (e2 Fpow (eC (.int 10)) (eC (.int 18)))) aNil)))) (sRet (eCel (aCons (eVar 3) (aCons (e2 Fmod (e2 Fmul (e2 Fadd (e2 Fadd (e2 Fmod (eVar 2) (eC (.int m1))) (e2 Fmul (eC (.int m2)) (eVar 1))) (eC (.int m3))) (eC (.int m4))) (eC (.int 2147483399))) (aCons (eC (.int 0)) aNil)))))))
theorem pool1_ok {l1 l2 pw m1 m2 m3 m4 : Int} (hl : -(2 ^ 64) < l1 ∧ l1 < 2 ^ 64) (hp : 0 ≤ pw ∧ pw ≤ 100) (a1 : 0 < m1) (a2 : 0 < m2 ∧ m2 < 2 ^ 60) (a4 : 0 < m4 ∧ m4 < 2 ^ 60) : PoolOk (fnP 4 2 (poolS1 l1 l2 pw m1 m2 m3 m4)) := by
  intro ns k μ h0 h1 hs
  refine q_fn rfl ?_
  unfold poolS1
  rw [q_seq]
  refine q_asg ((lot_ok (ns := ns) (k := k) hl h0 rfl rfl).mono ?_)
  rintro d μ1 ⟨⟨lot, rfl⟩, rfl⟩
  rw [q_cont, q_seq]
  refine q_asg ?_
  walk_at "q"
  have hbig : (0 : Int) < (10 ^ Int.toNat 60) ^ pw.toNat := Int.pow_pos (by decide)
  refine ⟨by decide, ⟨hp.1, by omega, by decide, by decide⟩, hbig, by decide, ?_⟩
  simp only [decide_eq_true_eq]
  obtain ⟨ho1, hown⟩ := own_ok (lot := lot) hbig
  refine ⟨ho1, ?_⟩
  generalize (if lot < 0 then -lot else lot) % (10 ^ Int.toNat 60) ^ pw.toNat * (if 10 ^ Int.toNat 18 ≤ (if lot < 0 then -lot else lot) then 1 else 0) = own at hown
  rw [q_cont]
  refine q_sret ?_
  walk_at "q"
  refine ⟨a1, .inl (by omega), .inr (.inl (by omega)), by decide, size_ok (by decide), ?_⟩
  refine ⟨by trivial, ⟨_, rfl⟩, mix_ok hs hown (Int.emod_nonneg _ (by decide)) ?_⟩
  have := Int.emod_lt_of_pos ((lot % m1 + m2 * k + m3) * m4) (show (0 : Int) < 2147483399 by decide)
  omega
def mixE (m1 m2 m3 m4 : Int) : CM D := (e2 Fmod (e2 Fadd (e2 Fadd (e2 Fmul (e2 Fmod (eVar 2) (eC (.int m1))) (eC (.int m2))) (e2 Fmul (e2 Fmul (eC (.int m3)) (eVar 1)) (eVar 1))) (eC (.int m4))) (eC (.int 2305843009213693921)))
def poolS2 (l1 l2 pw m1 m2 m3 m4 : Int) : SF := (sSeq (sAsg 2 (lotE l1 l2)) (sSeq (sAsg 3 (e2 Fmul (e2 Fmod (eCallB Fabs (aCons (eVar 2) aNil)) (e2 Fpow (e2 Fpow (eC (.int 10)) (eC (.int 60))) (eC (.int pw)))) (eCallB Fint (aCons (e2 Fge (eCallB Fabs (aCons (eVar 2) aNil)) (e2 Fpow (eC (.int 10)) (eC (.int 18)))) aNil)))) (sRet (eCel (aCons (eVar 3) (aCons (mixE m1 m2 m3 m4) (aCons (eC (.int 0)) aNil)))))))
theorem pool2_ok {l1 l2 pw m1 m2 m3 m4 : Int} (hl : -(2 ^ 64) < l1 ∧ l1 < 2 ^ 64) (hp : 0 ≤ pw ∧ pw ≤ 100) (a1 : 0 < m1) (a2 : 0 < m2 ∧ m2 < 2 ^ 60) (a3 : 0 < m3 ∧ m3 < 2 ^ 60) : PoolOk (fnP 4 2 (poolS2 l1 l2 pw m1 m2 m3 m4)) := by
  intro ns k μ h0 h1 hs
  refine q_fn rfl ?_
  unfold poolS2
  rw [q_seq]
  refine q_asg ((lot_ok (ns := ns) (k := k) hl h0 rfl rfl).mono ?_)
  rintro d μ1 ⟨⟨lot, rfl⟩, rfl⟩
  rw [q_cont, q_seq]
  refine q_asg ?_
  walk_at "q"
  have hbig : (0 : Int) < (10 ^ Int.toNat 60) ^ pw.toNat := Int.pow_pos (by decide)
  refine ⟨by decide, ⟨hp.1, by omega, by decide, by decide⟩, hbig, by decide, ?_⟩
  simp only [decide_eq_true_eq]
  obtain ⟨ho1, hown⟩ := own_ok (lot := lot) hbig
  refine ⟨ho1, ?_⟩
  generalize (if lot < 0 then -lot else lot) % (10 ^ Int.toNat 60) ^ pw.toNat * (if 10 ^ Int.toNat 18 ≤ (if lot < 0 then -lot else lot) then 1 else 0) = own at hown
  rw [q_cont]
  refine q_sret ?_
  unfold mixE
  walk_at "q"
  refine ⟨a1, .inr (.inl (by omega)), .inl (by omega), .inr (.inl (by omega)), by decide, size_ok (by decide), ?_⟩
  refine ⟨by trivial, ⟨_, rfl⟩, mix_ok hs hown (Int.emod_nonneg _ (by decide)) ?_⟩
  have := Int.emod_lt_of_pos (lot % m1 * m2 + m3 * k * k + m4) (show (0 : Int) < 2305843009213693921 by decide)
  omega
def poolS3 (l1 l2 pw m1 m2 m3 m4 : Int) : SF := (sSeq (sAsg 2 (lotE l1 l2)) (sSeq (sAsg 3 (eIf (bOf (e2 Fge (eCallB Fabs (aCons (eVar 2) aNil)) (e2 Fpow (eC (.int 10)) (eC (.int 18))))) (e2 Fmod (eCallB Fabs (aCons (eVar 2) aNil)) (e2 Fpow (e2 Fpow (eC (.int 10)) (eC (.int 60))) (eC (.int pw)))) (eC (.int 0)))) (sRet (eCel (aCons (eVar 3) (aCons (mixE m1 m2 m3 m4) (aCons (eC (.int 0)) aNil)))))))
theorem pool3_ok {l1 l2 pw m1 m2 m3 m4 : Int} (hl : -(2 ^ 64) < l1 ∧ l1 < 2 ^ 64) (hp : 0 ≤ pw ∧ pw ≤ 100) (a1 : 0 < m1) (a2 : 0 < m2 ∧ m2 < 2 ^ 60) (a3 : 0 < m3 ∧ m3 < 2 ^ 60) : PoolOk (fnP 4 2 (poolS3 l1 l2 pw m1 m2 m3 m4)) := by
  intro ns k μ h0 h1 hs
  refine q_fn rfl ?_
  unfold poolS3
  rw [q_seq]
  refine q_asg ((lot_ok (ns := ns) (k := k) hl h0 rfl rfl).mono ?_)
  rintro d μ1 ⟨⟨lot, rfl⟩, rfl⟩
  rw [q_cont, q_seq]
  refine q_asg (Ok.mono (Q := fun d μ2 => (∃ own, d = .int own ∧ 0 ≤ own) ∧ μ2 = μ1) ?_ ?_)
  · walk_at "q"
    have hbig : (0 : Int) < (10 ^ Int.toNat 60) ^ pw.toNat := Int.pow_pos (by decide)
    refine ⟨by decide, ?_⟩
    generalize (if lot < 0 then -lot else lot) = a
    split
    · exact ⟨by decide, ⟨hp.1, by omega, by decide, by decide⟩, hbig, ⟨_, rfl, Int.emod_nonneg _ (Int.ne_of_gt hbig)⟩, by trivial⟩
    · exact ⟨⟨0, rfl, by decide⟩, by trivial⟩
  · rintro d μ1 ⟨⟨own, rfl, hown⟩, rfl⟩
    rw [q_cont]
    refine q_sret ?_
    unfold mixE
    walk_at "q"
    refine ⟨a1, .inr (.inl (by omega)), .inl (by omega), .inr (.inl (by omega)), by decide, size_ok (by decide), ?_⟩
    refine ⟨by trivial, ⟨_, rfl⟩, mix_ok hs hown (Int.emod_nonneg _ (by decide)) ?_⟩
    have := Int.emod_lt_of_pos (lot % m1 * m2 + m3 * k * k + m4) (show (0 : Int) < 2305843009213693921 by decide)
    omega
def poolS4 (l1 l2 m1 m2 m3 m4 : Int) : SF := (sSeq (sAsg 2 (lotE l1 l2)) (sSeq (sAsg 3 (e2 Fmul (e2 Fmod (eCallB Fabs (aCons (eVar 2) aNil)) (e2 Fmul (e2 Fmul (e2 Fpow (eC (.int 10)) (eC (.int 60))) (e2 Fpow (eC (.int 10)) (eC (.int 60)))) (e2 Fpow (eC (.int 10)) (eC (.int 60))))) (eCallB Fint (aCons (e2 Fge (eCallB Fabs (aCons (eVar 2) aNil)) (e2 Fpow (eC (.int 10)) (eC (.int 18)))) aNil)))) (sRet (eCel (aCons (eVar 3) (aCons (e2 Fmod (e2 Fadd (e2 Fadd (e2 Fmul (e2 Fmod (eVar 2) (eC (.int m1))) (eC (.int m2))) (e2 Fmul (eC (.int m3)) (eVar 1))) (eC (.int m4))) (eC (.int 2305843009213693921))) (aCons (eC (.int 0)) aNil)))))))
theorem pool4_ok {l1 l2 m1 m2 m3 m4 : Int} (hl : -(2 ^ 64) < l1 ∧ l1 < 2 ^ 64) (a1 : 0 < m1) (a2 : 0 < m2 ∧ m2 < 2 ^ 60) (a3 : 0 < m3 ∧ m3 < 2 ^ 60) : PoolOk (fnP 4 2 (poolS4 l1 l2 m1 m2 m3 m4)) := by
  intro ns k μ h0 h1 hs
  refine q_fn rfl ?_
  unfold poolS4
  rw [q_seq]
  refine q_asg ((lot_ok (ns := ns) (k := k) hl h0 rfl rfl).mono ?_)
  rintro d μ1 ⟨⟨lot, rfl⟩, rfl⟩
  rw [q_cont, q_seq]
  refine q_asg ?_
  walk_at "q"
  have hbig : (0 : Int) < 10 ^ Int.toNat 60 * 10 ^ Int.toNat 60 * 10 ^ Int.toNat 60 := by decide
  refine ⟨by decide, by decide, by decide, by decide, by decide, hbig, by decide, ?_⟩
  simp only [decide_eq_true_eq]
  obtain ⟨ho1, hown⟩ := own_ok (lot := lot) hbig
  refine ⟨ho1, ?_⟩
  generalize (if lot < 0 then -lot else lot) % (10 ^ Int.toNat 60 * 10 ^ Int.toNat 60 * 10 ^ Int.toNat 60) * (if 10 ^ Int.toNat 18 ≤ (if lot < 0 then -lot else lot) then 1 else 0) = own at hown
  rw [q_cont]
  refine q_sret ?_
  walk_at "q"
  refine ⟨a1, .inr (.inl (by omega)), .inl (by omega), by decide, size_ok (by decide), ?_⟩
  refine ⟨by trivial, ⟨_, rfl⟩, mix_ok hs hown (Int.emod_nonneg _ (by decide)) ?_⟩
  have := Int.emod_lt_of_pos (lot % m1 * m2 + m3 * k + m4) (show (0 : Int) < 2305843009213693921 by decide)
  omega
/-! ### the law's own loops -/
/-- a helper of the law: it answers True, and mixes at most K numbers -/
def RightOk (F : FD) (K M : Int) : Prop := ∀ {p : Nat} {c : Int} {μ : Store}, Wd p c μ → c ≤ M → Ok (F [.ref p] μ) (fun d μ' => d = .bl true ∧ Wd p (c + K) μ' ∧ Fr p μ μ')
def allS (F : FD) (turns : Int) (x y : Nat) : CM D := eCallB Fall (aCons (eSeal (eLC (iRg1 (aCons (eC (.int turns)) aNil)) (fName y) bYes (eCall F (aCons (eVar x) aNil) []) [y])) aNil)
theorem all_ok {F : FD} {K t M : Int} (hF : RightOk F K M) {ρ : Rho} {x y p : Nat} {c : Int} {μ : Store} (hK : 0 ≤ K) (ht0 : 0 ≤ t) (ht : t ≤ 1000) (ex : (wipeR ρ [y])[x]? = some (some (.ref p))) (hxy : x ≠ y) (hw : Wd p c μ) (hM : c + K * t ≤ M) : Ok (allS F t x y ρ μ) (fun d μ' => d = .bl true ∧ Wd p (c + K * t) μ' ∧ Fr p μ μ') := by
  unfold allS
  simp only [q_callB, q_cons, q_nil]
  refine q_lc ?_
  simp only [q_rg1, q_cons, q_nil, q_C]
  refine ⟨t, rfl, by omega, by omega, ?_⟩
  have hl := hw.lt
  have hlen : (rngD 0 t.toNat).length = t.toNat := rng_len
  refine (lcp (p := p) (fun i μ' => Pool p (c + K * Int.ofNat i) μ') (fun _ y => y = .bl true) ?_ ?_ rfl (Nat.ne_of_lt hl) hw.pure ?_ ?_ ?_).mono ?_
  · rintro i ν o hν ⟨a, b, c0, e, q⟩
    exact ⟨a, b, c0, by rw [List.getElem?_append_left (by rw [hν]; exact hl)]; exact e, q⟩
  · rintro i ν o hν ⟨a, b, c0, e, q⟩
    exact ⟨a, b, c0, by rw [List.getElem?_append_left (by rw [hν]; exact hl)] at e; exact e, q⟩
  · rw [hlen]; omega
  · have := hw.pool
    simpa using this
  · intro i d μ' ed hl' hs' hp'
    obtain ⟨hi, rfl⟩ := rng_get ed
    refine ⟨_, rfl, ?_⟩
    have hKi : K * Int.ofNat i + K ≤ K * t := by
      have : K * (Int.ofNat i + 1) ≤ K * t := Int.mul_le_mul_of_nonneg_left (by simp; omega) hK
      rw [Int.mul_add, Int.mul_one] at this
      exact this
    simp only [q_call, q_cons, q_nil, q_var]
    rw [List.getElem?_set_ne (Ne.symm hxy), ex]
    simp only [q_at, List.cons_append, List.nil_append]
    refine (hF ⟨hp', hs'⟩ (by omega)).mono ?_
    rintro d μ2 ⟨rfl, hw2, hf2⟩
    refine ⟨rfl, rfl, hf2, hw2.pure, ?_⟩
    have : c + K * Int.ofNat (i + 1) = c + K * Int.ofNat i + K := by
      have : Int.ofNat (i + 1) = Int.ofNat i + 1 := rfl
      rw [this, Int.mul_add, Int.mul_one, Int.add_assoc]
    rw [this]
    exact hw2.pool
  · rintro d μ' ⟨hs', ys, eu, hyl, hy, hf', hp'⟩
    refine ⟨hs', .lst ys, eu, ?_⟩
    rw [f_all (fun y hy' => by obtain ⟨k, hk⟩ := List.getElem?_of_mem hy'; exact hy k y hk)]
    refine ⟨rfl, ⟨?_, hs'⟩, hf'⟩
    rw [hlen] at hp'
    have : Int.ofNat t.toNat = t := Int.toNat_of_nonneg ht0
    rw [this] at hp'
    exact hp'
theorem turns_ok {ns : List Int} {n : Int} (hn : 1 ≤ n) : ∃ j : Int, (if (if ((ns.map D.int).length : Int) < n then ((ns.map D.int).length : Int) else n) > 1 then (if ((ns.map D.int).length : Int) < n then ((ns.map D.int).length : Int) else n) else 1) = j ∧ 1 ≤ j ∧ j ≤ n := by
  refine ⟨_, rfl, ?_, ?_⟩
  · split <;> omega
  · split
    · split <;> omega
    · omega
/-- for k in range(max(1, min(n, len(script)))): pool = ..; if not all([right(pool) for turn in range(m)]): return False; return True -/
def lawS1 (Fp Fr' : FD) (n m : Int) : SF := (sSeq (sFor (iRg1 (aCons (eCallB Fmax (aCons (eC (.int 1)) (aCons (eCallB Fmin (aCons (eC (.int n)) (aCons (eCallB Flen (aCons (eVar 0) aNil)) aNil))) aNil))) aNil)) (fName 1) (sSeq (sAsg 2 (eCall Fp (aCons (eVar 0) (aCons (eVar 1) aNil)) [])) (sIf (bNot (bTru (allS Fr' m 2 3))) (sRet (eC (.bl false))) sNil))) (sRet (eC (.bl true))))
theorem law1_true {Fp Fr' : FD} {K m n M : Int} (hP : PoolOk Fp) (hR : RightOk Fr' K M) (hK : 0 ≤ K) (hn : 1 ≤ n ∧ n ≤ 4) (hm0 : 0 ≤ m) (hm : m ≤ 1000) (hM : K * m ≤ M) (ns : List Int) : ∃ μ', fnP 4 1 (lawS1 Fp Fr' n m) [scriptD ns] [] = some (.ok (.bl true), μ') := by
  have h : Ok (fnP 4 1 (lawS1 Fp Fr' n m) [scriptD ns] []) (fun d _ => d = .bl true) := by
    refine q_fn rfl ?_
    unfold lawS1
    rw [q_seq]
    refine q_for ?_
    simp only [scriptD]
    walk_at "q"
    refine ⟨_, rfl, ?_⟩
    obtain ⟨j, ej, hj1, hj2⟩ := turns_ok (ns := ns) hn.1
    rw [ej]
    refine ⟨by omega, by omega, ?_⟩
    refine loop_ok (fun _ ρ μ => PureS μ ∧ ∃ y1 y2 y3, ρ = [some (D.fl (ns.map D.int)), y1, y2, y3]) (fun _ _ _ _ => rfl) ?_ ?_ ⟨fun o ho => by simp at ho, _, _, _, rfl⟩
    · rintro i d ρ μ ed ⟨hs, y1, y2, y3, rfl⟩
      obtain ⟨hi, rfl⟩ := rng_get ed
      refine ⟨_, rfl, ?_⟩
      rw [q_seq]
      refine q_asg ?_
      walk_at "q"
      refine (hP (ns := ns) (by omega) (by omega) hs).mono ?_
      rintro d μ1 ⟨rfl, ⟨o, rfl⟩, hw1⟩
      rw [q_cont]
      refine q_sif ?_
      rw [q_bNot, q_bTru]
      refine (all_ok hR hK hm0 hm rfl (by decide) hw1 (by omega)).mono ?_
      rintro d μ' ⟨rfl, hw', hf'⟩
      walk_at "q"
      simp only [Bool.not_true, Bool.false_eq_true, if_false, q_snil]
      exact ⟨hw'.pure, _, _, _, rfl⟩
    · rintro ρ μ ⟨hs, y1, y2, y3, rfl⟩
      rw [q_cont]
      refine q_sret ?_
      walk_at "q"
  obtain ⟨a, μ, e, rfl⟩ := h.get
  exact ⟨μ, e⟩
/-- all([right(pool(script, k)) for k in range(max(1, min(n, len(script))))]) -/
def lawS2 (Fp Fr' : FD) (n : Int) : SF := sRet (eCallB Fall (aCons (eSeal (eLC (iRg1 (aCons (eCallB Fmax (aCons (eC (.int 1)) (aCons (eCallB Fmin (aCons (eC (.int n)) (aCons (eCallB Flen (aCons (eVar 0) aNil)) aNil))) aNil))) aNil)) (fName 1) bYes (eSeal (eCall Fr' (aCons (eCall Fp (aCons (eVar 0) (aCons (eVar 1) aNil)) []) aNil) [])) [1])) aNil))
theorem fr_take {μ μ2 : Store} {o : Ob} (h : Fr μ.length (μ ++ [o]) μ2) : μ2.take μ.length = μ := by
  apply List.ext_getElem?
  intro j
  by_cases hj : j < μ.length
  · rw [List.getElem?_take_of_lt hj, h.eq j (Nat.ne_of_lt hj), List.getElem?_append_left hj]
  · rw [List.getElem?_eq_none (by rw [List.length_take]; omega), List.getElem?_eq_none (by omega)]
theorem law2_true {Fp Fr' : FD} {K n M : Int} (hP : PoolOk Fp) (hR : RightOk Fr' K M) (hn : 1 ≤ n ∧ n ≤ 4) (hM : 0 ≤ M) (ns : List Int) : ∃ μ', fnP 2 1 (lawS2 Fp Fr' n) [scriptD ns] [] = some (.ok (.bl true), μ') := by
  have h : Ok (fnP 2 1 (lawS2 Fp Fr' n) [scriptD ns] []) (fun d _ => d = .bl true) := by
    refine q_fn rfl ?_
    unfold lawS2
    refine q_sret ?_
    simp only [q_callB, q_cons, q_nil]
    refine q_lc ?_
    simp only [scriptD]
    walk_at "q"
    refine ⟨_, rfl, ?_⟩
    obtain ⟨j, ej, hj1, hj2⟩ := turns_ok (ns := ns) hn.1
    rw [ej]
    refine ⟨by omega, by omega, ?_⟩
    have hlen : (rngD 0 j.toNat).length = j.toNat := rng_len
    refine (lcp (p := 1) (μ1 := ([] : Store)) (n := 0) (fun i _ => True) (fun _ y => y = .bl true) (fun _ _ _ _ _ => trivial) (fun _ _ _ _ _ => trivial) rfl (by decide) (fun o ho => by simp at ho) ?_ trivial ?_).mono ?_
    · rw [hlen]; omega
    · intro i d μ' ed hl' hs' _
      obtain ⟨hi, rfl⟩ := rng_get ed
      refine ⟨_, rfl, ?_⟩
      refine Ok_seal ?_
      simp only [wipeR]
      walk_at "q"
      refine (hP (ns := ns) (by omega) (by omega) hs').mono ?_
      rintro d μ1 ⟨rfl, ⟨o, rfl⟩, hw1⟩
      refine (hR hw1 hM).mono ?_
      rintro d μ2 ⟨rfl, hw2, hf2⟩
      rw [fr_take hf2]
      exact ⟨hs', .bl true, unref_pure rfl, rfl, rfl, Fr.refl _ _, hs', trivial⟩
    · rintro d μ' ⟨hs', ys, eu, hyl, hy, hf', hp'⟩
      refine ⟨hs', .lst ys, eu, ?_⟩
      rw [f_all (fun y hy' => by obtain ⟨k, hk⟩ := List.getElem?_of_mem hy'; exact hy k y hk)]
      trivial
  obtain ⟨a, μ, e, rfl⟩ := h.get
  exact ⟨μ, e⟩
/-! ### the same, counted from a def's entry -/
structure Wx (μ0 : Store) (p : Nat) (c : Int) (μ : Store) : Prop where
  wd : Wd p c μ
  fr : Fr p μ0 μ
theorem Wd.x {p : Nat} {c : Int} {μ : Store} (h : Wd p c μ) : Wx μ p c μ := ⟨h, Fr.refl _ _⟩
theorem Wx.mono {μ0 μ : Store} {p : Nat} {c c' : Int} (h : Wx μ0 p c μ) (l : c ≤ c') : Wx μ0 p c' μ := ⟨h.wd.mono l, h.fr⟩
theorem Wx.from {μ0 μ1 μ : Store} {p : Nat} {c c1 : Int} (a : Wx μ0 p c1 μ1) (b : Wx μ1 p c μ) : Wx μ0 p c μ := ⟨b.wd, a.fr.trans b.fr⟩
section
variable {F : FD} (hF : DrawOk F) {μ0 μ : Store} {p : Nat} {c : Int}
include hF
theorem DrawOk.x {n : Int} (h : Wx μ0 p c μ) (hc : c < 2 ^ 20) (h0 : 0 < n) (h1 : n < 2 ^ 200) : Ok (F [.ref p, .int n] μ) (fun d μ' => ∃ r, d = .int r ∧ 0 ≤ r ∧ r < n ∧ Wx μ0 p (c + 1) μ') :=
  (hF h.wd hc h0 h1).mono fun _ _ ⟨r, a, b, e, w, f⟩ => ⟨r, a, b, e, w, h.fr.trans f⟩
theorem DrawOk.pick {xs : List D} (h : Wx μ0 p c μ) (hc : c < 2 ^ 20) (h0 : 0 < xs.length) (h1 : xs.length < 2 ^ 30) : Ok (pickF F [.ref p, .lst xs] μ) (fun d μ' => d ∈ xs ∧ Wx μ0 p (c + 1) μ') :=
  (pick_lst hF h.wd hc h0 h1).mono fun _ _ ⟨⟨i, e⟩, w, f⟩ => ⟨List.mem_of_getElem? e, w, h.fr.trans f⟩
theorem DrawOk.pickT {xs : List D} (h : Wx μ0 p c μ) (hc : c < 2 ^ 20) (h0 : 0 < xs.length) (h1 : xs.length < 2 ^ 30) : Ok (pickF F [.ref p, .tup xs] μ) (fun d μ' => d ∈ xs ∧ Wx μ0 p (c + 1) μ') :=
  (pick_tup hF h.wd hc h0 h1).mono fun _ _ ⟨⟨i, e⟩, w, f⟩ => ⟨List.mem_of_getElem? e, w, h.fr.trans f⟩
end
end DM

namespace DM
open PySem PySem.Spec L2
/-! ### a, b = e -/
def sUnp (is : List Nat) (E : CM D) : SF := lft E fun d ρ μ => match fTup is d ρ with
  | some ρ' => some (.nx ρ', μ)
  | none => none
theorem ds_unp {X : Cx} {W : DW} {tg e : Expr} {E : CM D} {g : TG} {is own : List Nat} {pos : Pos} (he : PE X e (tE X.K W E)) (hg : PG X tg g) (ht : TgOk X.K g (fTup is) own) (hs : swapsWithSole [tg] e pos.line X.env = pure false := by rfl) (hw : swappedStores [tg] e X.env = pure none := by rfl)
    (h1 : (assignEach [tg] X.env).map (·.2) = [assign tg X.env] := by rfl) : PS X (.Assign [tg] e pos) (sD X.K W (sUnp is E)) := (ps_asg he hg hs hw h1).imp fun T σ H ⟨ρ, ι, μ, sr, wf, h⟩ => by
  refine tG.mono (PostS.bind sr wf h) ?_
  rintro x H1 ⟨ι1, μ1, d, l1, w1, vx, h1⟩
  match e : fTup is d ρ, h1 with
  | some ρ', h1 => exact ht x d σ ρ ρ' ι1 μ1 H1 _ (sr.mono l1) w1 vx e fun σ' s' _ => h1.nx0 w1 s'
/-! ### methods of lists -/
def isList (μ : Store) : D → Bool
  | .lst _ => true
  | .fl _ => true
  | .ref i => match μ[i]? with
    | some (.lst _) => true
    | _ => false
  | _ => false
def eMeth (c : Store → D → Bool) (F : D → List D → Store → Res D) (O : CM D) (A : CM (List D)) : CM D := O.bind fun o => fun ρ μ => if c μ o = true then (A.bind fun ds _ μ => F o ds μ) ρ μ else none
def LiftM (K : PySem.W.Frag) (r : V → List V → Hp → VK → Prop) (F : D → List D → Store → Res D) : Prop := ∀ (W : DW) σ ι μ H x xs d ds Q, WF K ι μ H → VR K ι H x d → VRs K ι H xs ds → PostG (VR K) K W σ ι H Q (F d ds μ) → r x xs H Q
theorem list_ty {K : PySem.W.Frag} {ι : List Addr} {H : Hp} {μ : Store} {x : V} {d : D} (w : WF K ι μ H) (v : VR K ι H x d) (h : isList μ d = true) : tyV K "list" x H := by
  cases v with
  | lst hh r => exact .inl ⟨rfl, _, hh.sq⟩
  | fl hh r => exact .inl ⟨rfl, _, hh.sq⟩
  | ref hi =>
    obtain ⟨o, ho, ro⟩ := w.has hi
    cases o with
    | lst xs =>
      obtain ⟨vs, ea, _⟩ := ro
      exact .inl ⟨rfl, _, .inl (.inl ea)⟩
    | _ => simp [isList, ho] at h
  | _ => simp [isList] at h
theorem bmAux {K : PySem.W.Frag} {W : DW} {T : String} {r : V → List V → Hp → VK → Prop} {F : D → List D → Store → Res D} {c : Store → D → Bool} {O : CM D} {As : CM (List D)} (hc : ∀ ι H μ x d, WF K ι μ H → VR K ι H x d → c μ d = true → tyV K T x H) (hF : LiftM K r F) (σ : L2.St) (H : Hp) (Q : VK) (h : tE K W (eMeth c F O As) σ H Q) : tBM K T r (tE K W O) (tA K W As) σ H Q := by
  obtain ⟨ρ, ι, μ, sr, wf, h⟩ := h
  refine tG.mono (PostG.bind sr wf h) ?_
  rintro x H1 ⟨ι1, μ1, d, l1, w1, vx, h1⟩
  obtain ⟨ct, h1⟩ := PostG.guard h1
  refine ⟨hc _ _ _ _ _ w1 vx ct, tG.mono (PostG.bind (sr.mono l1) w1 h1) ?_⟩
  rintro xs H2 ⟨ι2, μ2, ds, l2, w2, vxs, h2⟩
  exact hF W σ ι2 μ2 H2 x xs d ds Q w2 (vx.mono l2) vxs h2
def Fapp (o : D) (ds : List D) (μ : Store) : Res D := match o, ds with
  | .ref c, [y] => match μ[c]? with
    | some (.lst xs) => if xs.length < sizeLine then okR .non (μ.set c (.lst (xs ++ [y]))) else none
    | _ => none
  | _, _ => none
def Fext (o : D) (ds : List D) (μ : Store) : Res D := match o, ds with
  | .ref c, [.lst ys] => match μ[c]? with
    | some (.lst xs) => if xs.length + ys.length ≤ sizeLine then okR .non (μ.set c (.lst (xs ++ ys))) else none
    | _ => none
  | _, _ => none
def FpopAt (o : D) (ds : List D) (μ : Store) : Res D := match o, ds with
  | .ref c, [.int i] => match μ[c]? with
    | some (.lst xs) => if -(2 ^ 63) ≤ i ∧ i < 2 ^ 63 then (match seqIndex? i xs.length with
      | some k => match xs[k]? with
        | some y => okR y (μ.set c (.lst (xs.eraseIdx k)))
        | none => none
      | none => none) else none
    | _ => none
  | _, _ => none
section
variable {X : Cx} {K : PySem.W.Frag}
theorem VRs.erase {ι : List Addr} {H : Hp} : ∀ {vs : List V} {ds : List D} (i : Nat), VRs K ι H vs ds → VRs K ι H (vs.eraseIdx i) (ds.eraseIdx i)
  | _, _, _, .nil => by simp; exact .nil
  | _, _, 0, .cons _ t => t
  | _, _, i + 1, .cons q t => .cons q (VRs.erase i t)
theorem lift_app : LiftM K rAppend Fapp := by
  intro W σ ι μ H x xs d ds Q w vx vxs h
  unfold Fapp at h
  split at h
  · rename_i c y
    obtain ⟨v, rfl, vy⟩ := vxs.one
    cases vx with
    | ref hi =>
      obtain ⟨o, ho, ro⟩ := w.has hi
      simp only [ho] at h
      cases o with
      | lst zs =>
        obtain ⟨vs, ea, r⟩ := ro
        obtain ⟨q, h⟩ := PostG.guard h
        exact ⟨_, vs, v, rfl, rfl, ea, by rw [r.length]; exact q, h.ok (Le.set hi (nf ea)) (w.set hi (nf ea) (OR.mkL upd_same ((r.append (.cons vy .nil)).mono (Le.set hi (nf ea))))) .non⟩
      | _ => exact h.elim
  · exact h.elim
theorem lift_ext : LiftM K rExtend Fext := by
  intro W σ ι μ H x xs d ds Q w vx vxs h
  unfold Fext at h
  split at h
  · rename_i c ys
    obtain ⟨v, rfl, vy⟩ := vxs.one
    cases vx with
    | ref hi =>
      obtain ⟨o, ho, ro⟩ := w.has hi
      simp only [ho] at h
      cases o with
      | lst zs =>
        obtain ⟨vs, ea, r⟩ := ro
        obtain ⟨q, h⟩ := PostG.guard h
        cases vy with
        | lst hb rb =>
          exact ⟨_, _, vs, _, rfl, rfl, ea, hb.1, by rw [r.length, rb.length]; exact q, h.ok (Le.set hi (nf ea)) (w.set hi (nf ea) (OR.mkL upd_same ((r.append rb).mono (Le.set hi (nf ea))))) .non⟩
      | _ => exact h.elim
  · exact h.elim
theorem lift_popAt : LiftM K rPopAt FpopAt := by
  intro W σ ι μ H x xs d ds Q w vx vxs h
  unfold FpopAt at h
  split at h
  · rename_i c i
    obtain ⟨v, rfl, vy⟩ := vxs.one
    cases vy
    cases vx with
    | ref hi =>
      obtain ⟨o, ho, ro⟩ := w.has hi
      simp only [ho] at h
      cases o with
      | lst zs =>
        obtain ⟨vs, ea, r⟩ := ro
        obtain ⟨q, h⟩ := PostG.guard h
        split at h
        · rename_i k ek
          split at h
          · rename_i y ey
            obtain ⟨vv, e1, r1⟩ := r.get ey
            exact ⟨_, vs, i, k, vv, rfl, rfl, ea, q.1, q.2, by rw [r.length]; exact ek, e1, h.ok (Le.set hi (nf ea)) (w.set hi (nf ea) (OR.mkL upd_same ((r.erase k).mono (Le.set hi (nf ea))))) (r1.mono (Le.set hi (nf ea)))⟩
          · exact h.elim
        · exact h.elim
      | _ => exact h.elim
  · exact h.elim
end
section
variable {X : Cx} {W : DW} {o e : Expr} {es : List Expr} {O : CM D} {As : CM (List D)} {apos cpos : Pos}
theorem d_app (ho : PE X o (tE X.K W O)) (ha : PA X [e] (tA X.K W As)) (hbase : attributeBase o "append" X.env (eval o X.env) = eval o X.env := by rfl)
    (hfew : ((backTo cpos (starEach [e] X.env)).all (fun x => !x.1) && (backToKw cpos (keywordEach [] X.env)).all (fun x => x.1.isSome) && decide ([e].length + ([] : List Keyword).length + (if ([] : List Keyword).isEmpty then 0 else 1) < 30)) = true := by rfl)
    (hline : (apos.endLine == cpos.line) = true := by rfl) (hs : starEach [e] X.env = (false, eval e X.env) :: starEach [] X.env := by rfl) (hp : (backTo cpos (starEach [] X.env)).any (·.1) = false := by rfl) :
    PE X (.Call (.Attribute o "append" apos) [e] [] cpos) (tE X.K W (eMeth isList Fapp O As)) :=
  (pe_bm PySem.F.plainAttrs_list PySem.F.slot_list_append PySem.F.type_list_append mt_append ho ha hbase hfew hline hs hp).imp (bmAux (fun _ _ _ _ _ => list_ty) lift_app)
theorem d_ext (ho : PE X o (tE X.K W O)) (ha : PA X [e] (tA X.K W As)) (hbase : attributeBase o "extend" X.env (eval o X.env) = eval o X.env := by rfl)
    (hfew : ((backTo cpos (starEach [e] X.env)).all (fun x => !x.1) && (backToKw cpos (keywordEach [] X.env)).all (fun x => x.1.isSome) && decide ([e].length + ([] : List Keyword).length + (if ([] : List Keyword).isEmpty then 0 else 1) < 30)) = true := by rfl)
    (hline : (apos.endLine == cpos.line) = true := by rfl) (hs : starEach [e] X.env = (false, eval e X.env) :: starEach [] X.env := by rfl) (hp : (backTo cpos (starEach [] X.env)).any (·.1) = false := by rfl) :
    PE X (.Call (.Attribute o "extend" apos) [e] [] cpos) (tE X.K W (eMeth isList Fext O As)) :=
  (pe_bm PySem.F.plainAttrs_list PySem.F.slot_list_extend PySem.F.type_list_extend mt_extend ho ha hbase hfew hline hs hp).imp (bmAux (fun _ _ _ _ _ => list_ty) lift_ext)
theorem d_popAt (ho : PE X o (tE X.K W O)) (ha : PA X [e] (tA X.K W As)) (hbase : attributeBase o "pop" X.env (eval o X.env) = eval o X.env := by rfl)
    (hfew : ((backTo cpos (starEach [e] X.env)).all (fun x => !x.1) && (backToKw cpos (keywordEach [] X.env)).all (fun x => x.1.isSome) && decide ([e].length + ([] : List Keyword).length + (if ([] : List Keyword).isEmpty then 0 else 1) < 30)) = true := by rfl)
    (hline : (apos.endLine == cpos.line) = true := by rfl) (hs : starEach [e] X.env = (false, eval e X.env) :: starEach [] X.env := by rfl) (hp : (backTo cpos (starEach [] X.env)).any (·.1) = false := by rfl) :
    PE X (.Call (.Attribute o "pop" apos) [e] [] cpos) (tE X.K W (eMeth isList FpopAt O As)) :=
  (pe_bm PySem.F.plainAttrs_list PySem.F.slot_list_pop PySem.F.type_list_pop mt_popAt ho ha hbase hfew hline hs hp).imp (bmAux (fun _ _ _ _ _ => list_ty) lift_popAt)
end
/-! ### min, max, sum of a list of intsD -/
def intsD : List D → Option (List Int)
  | [] => some []
  | .int i :: r => (intsD r).map (i :: ·)
  | _ => none
theorem intsD_of {K : PySem.W.Frag} {ι : List Addr} {H : Hp} : ∀ {vs : List V} {ds : List D} {ns : List Int}, VRs K ι H vs ds → intsD ds = some ns → vs = ns.map V.int
  | _, _, _, .nil, e => by cases e; rfl
  | _, _, _, .cons h r, e => by
    cases h with
    | int b =>
      simp only [intsD] at e
      obtain ⟨t, e1, rfl⟩ := Option.map_eq_some_iff.mp e
      rw [intsD_of r e1]; rfl
    | _ => simp [intsD] at e
def minI : Int → List Int → Int
  | m, [] => m
  | m, x :: r => minI (if x < m then x else m) r
def maxI : Int → List Int → Int
  | m, [] => m
  | m, x :: r => maxI (if m < x then x else m) r
theorem minI_le : ∀ (r : List Int) (m : Int), minI m r ≤ m ∧ ∀ y ∈ r, minI m r ≤ y
  | [], m => ⟨Int.le_refl _, fun y h => by simp at h⟩
  | x :: r, m => by
    obtain ⟨a, b⟩ := minI_le r (if x < m then x else m)
    have h1 : (if x < m then x else m) ≤ m ∧ (if x < m then x else m) ≤ x := by split <;> omega
    refine ⟨Int.le_trans a h1.1, fun y hy => ?_⟩
    rcases List.mem_cons.mp hy with rfl | hy
    · exact Int.le_trans a h1.2
    · exact b y hy
theorem minI_mem : ∀ (r : List Int) (m : Int), minI m r = m ∨ minI m r ∈ r
  | [], m => .inl rfl
  | x :: r, m => by
    rcases minI_mem r (if x < m then x else m) with h | h
    · by_cases z : x < m
      · rw [if_pos z] at h
        exact .inr (by show minI (if x < m then x else m) r ∈ _; rw [if_pos z, h]; exact List.mem_cons_self)
      · rw [if_neg z] at h
        exact .inl (by show minI (if x < m then x else m) r = m; rw [if_neg z, h])
    · exact .inr (List.mem_cons_of_mem _ h)
theorem maxI_ge : ∀ (r : List Int) (m : Int), m ≤ maxI m r ∧ ∀ y ∈ r, y ≤ maxI m r
  | [], m => ⟨Int.le_refl _, fun y h => by simp at h⟩
  | x :: r, m => by
    obtain ⟨a, b⟩ := maxI_ge r (if m < x then x else m)
    have h1 : m ≤ (if m < x then x else m) ∧ x ≤ (if m < x then x else m) := by split <;> omega
    refine ⟨Int.le_trans h1.1 a, fun y hy => ?_⟩
    rcases List.mem_cons.mp hy with rfl | hy
    · exact Int.le_trans h1.2 a
    · exact b y hy
theorem maxI_mem : ∀ (r : List Int) (m : Int), maxI m r = m ∨ maxI m r ∈ r
  | [], m => .inl rfl
  | x :: r, m => by
    rcases maxI_mem r (if m < x then x else m) with h | h
    · by_cases z : m < x
      · rw [if_pos z] at h
        exact .inr (by show maxI (if m < x then x else m) r ∈ _; rw [if_pos z, h]; exact List.mem_cons_self)
      · rw [if_neg z] at h
        exact .inl (by show maxI (if m < x then x else m) r = m; rw [if_neg z, h])
    · exact .inr (List.mem_cons_of_mem _ h)
/-- the items of a list value -/
def itemsL (μ : Store) : D → Option (List D)
  | .lst xs => some xs
  | .fl xs => some xs
  | .ref i => match μ[i]? with
    | some (.lst xs) => some xs
    | _ => none
  | _ => none
theorem itemsL_sq {K : PySem.W.Frag} {ι : List Addr} {H : Hp} {μ : Store} {x : V} {d : D} {xs : List D} (w : WF K ι μ H) (v : VR K ι H x d) (h : itemsL μ d = some xs) : ∃ a vs, x = .ref a ∧ SqL K H a vs ∧ VRs K ι H vs xs := by
  cases v with
  | lst hh r => cases h; exact ⟨_, _, rfl, hh.sq, r⟩
  | fl hh r => cases h; exact ⟨_, _, rfl, hh.sq, r⟩
  | ref hi =>
    obtain ⟨o, ho, ro⟩ := w.has hi
    simp only [itemsL, ho] at h
    cases o with
    | lst ys =>
      cases h
      obtain ⟨vs, ea, r⟩ := ro
      exact ⟨_, vs, rfl, .inl (.inl ea), r⟩
    | _ => cases h
  | _ => simp [itemsL] at h
def FminL (ds : List D) (μ : Store) : Res D := match ds with
  | [d] => match (itemsL μ d).bind intsD with
    | some (m :: r) => okR (.int (minI m r)) μ
    | _ => none
  | _ => none
def FmaxL (ds : List D) (μ : Store) : Res D := match ds with
  | [d] => match (itemsL μ d).bind intsD with
    | some (m :: r) => okR (.int (maxI m r)) μ
    | _ => none
  | _ => none
def Fsum (ds : List D) (μ : Store) : Res D := match ds with
  | [d] => match (itemsL μ d).bind intsD with
    | some ns => okR (.int ns.sum) μ
    | _ => none
  | _ => none
section
variable {X : Cx} {K : PySem.W.Frag}
theorem itemsI {ι : List Addr} {H : Hp} {μ : Store} {x : V} {d : D} {ns : List Int} (w : WF K ι μ H) (v : VR K ι H x d) (h : (itemsL μ d).bind intsD = some ns) : ∃ a, x = .ref a ∧ SqL K H a (ns.map V.int) := by
  obtain ⟨xs, e1, e2⟩ := Option.bind_eq_some_iff.mp h
  obtain ⟨a, vs, rfl, sq, r⟩ := itemsL_sq w v e1
  have := intsD_of r e2
  subst this
  exact ⟨a, rfl, sq⟩
theorem lift_minL : LiftA K (rMin K) FminL := by
  intro W σ ι μ H xs ds Q w v h
  unfold FminL at h
  split at h
  · obtain ⟨x, rfl, vx⟩ := v.one
    split at h
    · rename_i m r e
      obtain ⟨a, rfl, sq⟩ := itemsI w vx e
      refine ⟨a, m :: r, rfl, sq, Nat.succ_pos _, fun z hz hle => ?_⟩
      have e2 : z = minI m r := by
        have h1 := (minI_le r m)
        rcases minI_mem r m with q | q
        · have a1 := hle m List.mem_cons_self
          rcases List.mem_cons.mp hz with rfl | hz
          · exact q.symm
          · have := h1.2 z hz; omega
        · have a1 := hle _ (List.mem_cons_of_mem m q)
          rcases List.mem_cons.mp hz with rfl | hz
          · have := h1.1; omega
          · have := h1.2 z hz; omega
      rw [e2]
      exact h.ok0 w (.int _)
    · exact h.elim
  · exact h.elim
theorem lift_maxL : LiftA K (rMax K) FmaxL := by
  intro W σ ι μ H xs ds Q w v h
  unfold FmaxL at h
  split at h
  · obtain ⟨x, rfl, vx⟩ := v.one
    split at h
    · rename_i m r e
      obtain ⟨a, rfl, sq⟩ := itemsI w vx e
      refine ⟨a, m :: r, rfl, sq, Nat.succ_pos _, fun z hz hle => ?_⟩
      have e2 : z = maxI m r := by
        have h1 := (maxI_ge r m)
        rcases maxI_mem r m with q | q
        · have a1 := hle m List.mem_cons_self
          rcases List.mem_cons.mp hz with rfl | hz
          · exact q.symm
          · have := h1.2 z hz; omega
        · have a1 := hle _ (List.mem_cons_of_mem m q)
          rcases List.mem_cons.mp hz with rfl | hz
          · have := h1.1; omega
          · have := h1.2 z hz; omega
      rw [e2]
      exact h.ok0 w (.int _)
    · exact h.elim
  · exact h.elim
theorem lift_sum : LiftA K (rSum K) Fsum := by
  intro W σ ι μ H xs ds Q w v h
  unfold Fsum at h
  split at h
  · obtain ⟨x, rfl, vx⟩ := v.one
    split at h
    · rename_i ns e
      obtain ⟨a, rfl, sq⟩ := itemsI w vx e
      exact ⟨a, ns, rfl, sq, h.ok0 w (.int _)⟩
    · exact h.elim
  · exact h.elim
end
/-! ### in, not in -/
def Fin (neg : Bool) (d e : D) (μ : Store) : Res D := match e with
  | .str y => match d with
    | .str x => okR (.bl (if neg then !(!(Builtin.Str.occurrences y x 0 y.length 1).isEmpty) else !(Builtin.Str.occurrences y x 0 y.length 1).isEmpty)) μ
    | _ => none
  | _ => match toPyS μ d, toPyS μ e with
    | some p, some (.list ds) => if SeqAt.shaped p = true ∧ SeqAt.shaped (.list ds) = true then okR (.bl (if neg then !ds.any fun z => PyData.eqv z p else ds.any fun z => PyData.eqv z p)) μ else none
    | some p, some (.tuple ds) => if SeqAt.shaped p = true ∧ SeqAt.shaped (.tuple ds) = true then okR (.bl (if neg then !ds.any fun z => PyData.eqv z p else ds.any fun z => PyData.eqv z p)) μ else none
    | _, _ => none
def rInT (K : PySem.W.Frag) (neg : Bool) : L2.R2 := fun x y H Q => ∃ d ds, Dp K H x d ∧ Dp K H y (.tuple ds) ∧ SeqAt.shaped d = true ∧ SeqAt.shaped (.tuple ds) = true ∧ Q (.bl (if neg then !ds.any fun z => PyData.eqv z d else ds.any fun z => PyData.eqv z d)) H
def rInL (K : PySem.W.Frag) (neg : Bool) : L2.R2 := fun x y H Q => ∃ d ds, Dp K H x d ∧ Dp K H y (.list ds) ∧ SeqAt.shaped d = true ∧ SeqAt.shaped (.list ds) = true ∧ Q (.bl (if neg then !ds.any fun z => PyData.eqv z d else ds.any fun z => PyData.eqv z d)) H
def rInS (neg : Bool) : L2.R2 := fun x y H Q => ∃ i j, x = .str i ∧ y = .str j ∧ Q (.bl (if neg then !(!(Builtin.Str.occurrences j i 0 j.length 1).isEmpty) else !(Builtin.Str.occurrences j i 0 j.length 1).isEmpty)) H
def rInAny (K : PySem.W.Frag) (neg : Bool) : L2.R2 := fun x y H Q => rInL K neg x y H Q ∨ rInT K neg x y H Q ∨ rInS neg x y H Q
section
variable {X : Cx} {K : PySem.W.Frag}
theorem roomIn {A : Around} {ds : List PyData} {d : PyData} (h : SeqAt.shaped d = true) (hu : A.units + 65 < cLine) : A.units + 1 + min (PyData.depthAll ds) d.depth < cLine := by
  have h1 := SeqAt.depth_of_shaped h
  have h2 : min (PyData.depthAll ds) d.depth ≤ d.depth := Nat.min_le_right _ _
  omega
theorem op_inT (hu : X.A.units + 65 < cLine) : OpR X (compareOp .In) (rInT X.K false) := by
  intro pins s σ H x y v u Q I rx ry h
  obtain ⟨d, ds, hd, he, sd, se, q⟩ := h
  obtain ⟨as, r1⟩ := Dp.reads I d x v hd rx
  obtain ⟨bs, r2⟩ := Dp.reads I (.tuple ds) y u he ry
  have hc : PyData.canLayAll0 ds = true := SeqAt.canLay_of_shaped se
  exact SeqAt.in_tuple_reads r2 r1 hc (SeqAt.canLay_of_shaped sd) (roomIn sd hu) ⟨.bl _, H, I, rfl, q⟩
theorem op_notInT (hu : X.A.units + 65 < cLine) : OpR X (compareOp .NotIn) (rInT X.K true) := by
  intro pins s σ H x y v u Q I rx ry h
  obtain ⟨d, ds, hd, he, sd, se, q⟩ := h
  obtain ⟨as, r1⟩ := Dp.reads I d x v hd rx
  obtain ⟨bs, r2⟩ := Dp.reads I (.tuple ds) y u he ry
  have hc : PyData.canLayAll0 ds = true := SeqAt.canLay_of_shaped se
  exact SeqAt.notIn_tuple_reads r2 r1 hc (SeqAt.canLay_of_shaped sd) (roomIn sd hu) ⟨.bl _, H, I, rfl, q⟩
theorem op_inAny (hu : X.A.units + 65 < cLine) : OpR X (compareOp .In) (rInAny X.K false) := (op_inD hu).or ((op_inT hu).or op_in_str)
theorem op_notInAny (hu : X.A.units + 65 < cLine) : OpR X (compareOp .NotIn) (rInAny X.K true) := (op_notInD hu).or ((op_notInT hu).or op_notin_str)
theorem lift_in {neg : Bool} : Lift2 K (rInAny K neg) (Fin neg) := by
  intro W σ ι μ H x y d e Q w vx vy h
  by_cases z : ∃ t, e = .str t
  · obtain ⟨t, rfl⟩ := z
    cases vy
    cases vx with
    | str a => exact .inr (.inr ⟨a, t, rfl, rfl, h.ok0 w (.bl _)⟩)
    | _ => exact h.elim
  · have h' : PostG (VR K) K W σ ι H Q (match toPyS μ d, toPyS μ e with
      | some p, some (.list ds) => if SeqAt.shaped p = true ∧ SeqAt.shaped (.list ds) = true then okR (.bl (if neg then !ds.any fun z => PyData.eqv z p else ds.any fun z => PyData.eqv z p)) μ else none
      | some p, some (.tuple ds) => if SeqAt.shaped p = true ∧ SeqAt.shaped (.tuple ds) = true then okR (.bl (if neg then !ds.any fun z => PyData.eqv z p else ds.any fun z => PyData.eqv z p)) μ else none
      | _, _ => none) := by
      cases e with
      | str t => exact absurd ⟨t, rfl⟩ z
      | _ => exact h
    match e1 : toPyS μ d, e2 : toPyS μ e, h' with
    | some p, some (.list ds), h' =>
      obtain ⟨q, h'⟩ := PostG.guard h'
      exact .inl ⟨p, ds, dpS_of w vx e1, dpS_of w vy e2, q.1, q.2, h'.ok0 w (.bl _)⟩
    | some p, some (.tuple ds), h' =>
      obtain ⟨q, h'⟩ := PostG.guard h'
      exact .inr (.inl ⟨p, ds, dpS_of w vx e1, dpS_of w vy e2, q.1, q.2, h'.ok0 w (.bl _)⟩)
end
section
variable {X : Cx} {W : DW} {a b : Expr} {A B : CM D} {pos : Pos} {k : Nat}
theorem units65 {A : Around} (hr : Room k A) : A.units + 65 < cLine := by have := hr.un; omega
theorem d_in (hr : Room k X.A) (ha : PE X a (tE X.K W A)) (hb : PE X b (tE X.K W B)) (hm : behindInMarks .In b = false := by rfl) : PE X (.Compare a [.In] [b] pos) (tE X.K W (e2 (Fin false) A B)) := d_cmp (op_inAny (units65 hr)) lift_in ha hb hm
theorem d_notin (hr : Room k X.A) (ha : PE X a (tE X.K W A)) (hb : PE X b (tE X.K W B)) (hm : behindInMarks .NotIn b = false := by rfl) : PE X (.Compare a [.NotIn] [b] pos) (tE X.K W (e2 (Fin true) A B)) := d_cmp (op_notInAny (units65 hr)) lift_in ha hb hm
theorem dt_in (hr : Room k X.A) (ha : PE X a (tE X.K W A)) (hb : PE X b (tE X.K W B)) (hm : behindInMarks .In b = false := by rfl) : PT X (.Compare a [.In] [b] pos) (tT X.K W (bOf (e2 (Fin false) A B))) := dt_cmp (op_inAny (units65 hr)) lift_in ha hb hm
theorem dt_notin (hr : Room k X.A) (ha : PE X a (tE X.K W A)) (hb : PE X b (tE X.K W B)) (hm : behindInMarks .NotIn b = false := by rfl) : PT X (.Compare a [.NotIn] [b] pos) (tT X.K W (bOf (e2 (Fin true) A B))) := dt_cmp (op_notInAny (units65 hr)) lift_in ha hb hm
end
/-! ### x += e -/
section
variable {X : Cx} {K : PySem.W.Frag}
def FaddI : D → D → Store → Res D
  | .int i, .int j, μ => okR (.int (i + j)) μ
  | _, _, _ => none
theorem lift_ipadd : Lift2 K (ipI fun i j => i + j) FaddI := by
  intro W σ ι μ H x y d e Q w vx vy h
  cases vx with
  | int i =>
    cases vy with
    | int j => exact ⟨i, j, rfl, rfl, h.ok0 w (.int _)⟩
    | _ => exact h.elim
  | _ => exact h.elim
theorem lift_ipsub : Lift2 K (ipI fun i j => i - j) Fsub := by
  intro W σ ι μ H x y d e Q w vx vy h
  cases vx with
  | int i =>
    cases vy with
    | int j => exact ⟨i, j, rfl, rfl, h.ok0 w (.int _)⟩
    | _ => exact h.elim
  | _ => exact h.elim
end
/-! ### for over a list, a tuple or a text -/
def signsD (x : Str) : List D := x.cps.toList.map fun c => .str ⟨#[c]⟩
def iAny (E : CM D) : CM IV := E.bind fun d _ μ => match d with
  | .lst xs => some (.ok (xs, anyG), μ)
  | .fl xs => some (.ok (xs, anyG), μ)
  | .tup xs => some (.ok (xs, anyG), μ)
  | .str x => some (.ok (signsD x, anyG), μ)
  | .ref c => match μ[c]? with
    | some (.lst xs) => some (.ok (xs, isLst c xs), μ)
    | _ => none
  | _ => none
theorem itr_str {K : PySem.W.Frag} {ι : List Addr} {H : Hp} (x : Str) : ItR K ι H (Its x) (signsD x, anyG) := by
  intro i ι' μ H' l w _
  refine ⟨fun d e => ?_, fun e => ?_⟩
  · have e : (x.cps.toList.map fun c => D.str ⟨#[c]⟩)[i]? = some d := e
    rw [List.getElem?_map] at e
    obtain ⟨c, e1, rfl⟩ := Option.map_eq_some_iff.mp e
    have hl : i < x.cps.size := by
      have := (List.getElem?_eq_some_iff.mp e1).1
      simpa using this
    refine ⟨hl, fun v H'' y => ?_⟩
    obtain ⟨rfl, c', e2, rfl⟩ := y
    have : x.cps[i]? = some c := by simpa using e1
    rw [this] at e2
    cases e2
    exact ⟨Le.refl _ _, w, .str _⟩
  · have : (signsD x).length ≤ i := e
    unfold signsD at this
    show x.cps.size ≤ i
    simpa using this
theorem di_any {X : Cx} {W : DW} {e tg : Expr} {E : CM D} (he : PE X e (tE X.K W E)) : PI X tg e (tI X.K W (iAny E)) := by
  refine ⟨fun pins s σ H R I ⟨ρ, ι, μ, sr, wf, h⟩ => ?_⟩
  refine thn (he.run pins s σ H _ I (PostG.bind sr wf h)) ?_
  rintro v s1 ⟨x, H1, I1, r1, ι1, μ1, d, l1, w1, vx, h1⟩
  cases vx with
  | lst hh r =>
    cases r1
    obtain ⟨its, rv, p, hz⟩ := I1.list hh.sq
    exact wpAny_pyIter_list p.isList (pi_one (tk := s1.toks) I1 _ (turn_list _ _) ⟨_, Heap.get?_push_size _ rfl, rfl, rfl⟩ (PostG.ok0 h1 w1 (itr_lst hh r)))
  | fl hh r =>
    cases r1
    obtain ⟨its, rv, p, hz⟩ := I1.list hh.sq
    exact wpAny_pyIter_list p.isList (pi_one (tk := s1.toks) I1 _ (turn_list _ _) ⟨_, Heap.get?_push_size _ rfl, rfl, rfl⟩ (PostG.ok0 h1 w1 (itr_fl hh r)))
  | tup hh r =>
    cases r1
    obtain ⟨its, rv, p, hz⟩ := I1.tuple hh.sq
    exact wpAny_pyIter_tuple (show s1.heap.IsTuple _ its.toArray from p) (pi_one (tk := s1.toks) I1 _ (turn_tuple _ _) ⟨_, Heap.get?_push_size _ rfl, rfl, rfl⟩ (PostG.ok0 h1 w1 (itr_tup hh r)))
  | str x =>
    obtain ⟨t, rfl⟩ := r1
    cases ha : x.cps.all (· < 128)
    · exact wpAny_pyIter_wide ha (pi_one (tk := s1.toks) I1 _ (turn_str _ x t "str_iterator" (.inr rfl)) ⟨_, Heap.get?_push_size _ rfl, rfl, rfl⟩ (PostG.ok0 h1 w1 (itr_str x)))
    · exact wpAny_pyIter_ascii ha (pi_one (tk := s1.toks) I1 _ (turn_str _ x t "str_ascii_iterator" (.inl rfl)) ⟨_, Heap.get?_push_size _ rfl, rfl, rfl⟩ (PostG.ok0 h1 w1 (itr_str x)))
  | ref hc =>
    obtain ⟨o, ho, ro⟩ := w1.has hc
    simp only [ho] at h1
    cases o with
    | lst ds =>
      obtain ⟨vs, ea, r⟩ := ro
      cases r1
      obtain ⟨its, rv, p, hz⟩ := I1.list (xs := vs) (.inl (.inl ea))
      exact wpAny_pyIter_list p.isList (pi_one (tk := s1.toks) I1 _ (turn_list _ _) ⟨_, Heap.get?_push_size _ rfl, rfl, rfl⟩ (PostG.ok0 h1 w1 (itr_cell hc)))
    | _ => exact h1.elim
  | _ => exact h1.elim
/-! ### defs with cells of their own -/
theorem q_fseal {F : FD} {ds : List D} {μ : Store} {Q : D → Store → Prop} (h : Ok (F ds μ) (fun d μ' => PureS (μ'.take μ.length) ∧ ∃ d', unref μ.length μ' 4 d = some d' ∧ Q d' (μ'.take μ.length))) : Ok (fnSeal F ds μ) Q := seal_ok h
/-- cells beyond those of μ0 may stand there; of those of μ0 the pool alone has changed -/
structure Wy (μ0 : Store) (p : Nat) (c : Int) (μ : Store) : Prop where
  wd : Wd p c μ
  len : μ0.length ≤ μ.length
  eq : ∀ j : Nat, j < μ0.length → j ≠ p → μ[j]? = μ0[j]?
theorem Wd.y {p : Nat} {c : Int} {μ : Store} (h : Wd p c μ) : Wy μ p c μ := ⟨h, Nat.le_refl _, fun _ _ _ => rfl⟩
theorem Wy.mono {μ0 μ : Store} {p : Nat} {c c' : Int} (h : Wy μ0 p c μ) (l : c ≤ c') : Wy μ0 p c' μ := ⟨h.wd.mono l, h.len, h.eq⟩
theorem Wy.step {μ0 μ μ' : Store} {p : Nat} {c c' : Int} (h : Wy μ0 p c μ) (w : Wd p c' μ') (f : Fr p μ μ') : Wy μ0 p c' μ' :=
  ⟨w, by rw [f.len]; exact h.len, fun j hj hp => (f.eq j hp).trans (h.eq j hj hp)⟩
theorem Wd.app {p : Nat} {c : Int} {μ : Store} {o : Ob} (h : Wd p c μ) (ho : obOk 0 o = true) : Wd p c (μ ++ [o]) := by
  have hl := h.lt
  obtain ⟨⟨a, b, c0, e, q⟩, hp⟩ := h
  exact ⟨⟨a, b, c0, by rw [List.getElem?_append_left hl]; exact e, q⟩, hp.app ho⟩
theorem Wd.setn {p n : Nat} {c : Int} {μ : Store} {o : Ob} (h : Wd p c μ) (hn : n ≠ p) (ho : obOk 0 o = true) : Wd p c (μ.set n o) := by
  obtain ⟨⟨a, b, c0, e, q⟩, hp⟩ := h
  exact ⟨⟨a, b, c0, by rw [List.getElem?_set_ne hn]; exact e, q⟩, hp.set ho⟩
theorem Wy.app {μ0 μ : Store} {p : Nat} {c : Int} {o : Ob} (h : Wy μ0 p c μ) (ho : obOk 0 o = true) : Wy μ0 p c (μ ++ [o]) :=
  ⟨h.wd.app ho, by rw [List.length_append]; have := h.len; omega, fun j hj hp => by rw [List.getElem?_append_left (Nat.lt_of_lt_of_le hj h.len)]; exact h.eq j hj hp⟩
theorem Wy.setn {μ0 μ : Store} {p n : Nat} {c : Int} {o : Ob} (h : Wy μ0 p c μ) (hn : μ0.length ≤ n) (hp0 : p < μ0.length) (ho : obOk 0 o = true) : Wy μ0 p c (μ.set n o) :=
  ⟨h.wd.setn (by omega) ho, by rw [List.length_set]; exact h.len, fun j hj hp => by rw [List.getElem?_set_ne (by omega)]; exact h.eq j hj hp⟩
theorem Wy.cut {μ0 μ : Store} {p : Nat} {c : Int} (h : Wy μ0 p c μ) (hp0 : p < μ0.length) : Wx μ0 p c (μ.take μ0.length) := by
  obtain ⟨⟨⟨a, b, c0, e, q⟩, hp⟩, hl, he⟩ := h
  refine ⟨⟨⟨a, b, c0, by rw [List.getElem?_take_of_lt hp0]; exact e, q⟩, hp.take _⟩, by rw [List.length_take]; omega, fun j hj => ?_⟩
  by_cases hjl : j < μ0.length
  · rw [List.getElem?_take_of_lt hjl]; exact he j hjl hj
  · rw [List.getElem?_eq_none (by rw [List.length_take]; omega), List.getElem?_eq_none (by omega)]
/-! ### running: the new words -/
section
variable {ρ : Rho} {μ : Store} {Q : D → Store → Prop} {Qf : Fl → Store → Prop} {Qi : IV → Store → Prop} {A : CM D} {As : CM (List D)}
theorem q_unp {is : List Nat} (h : Ok (A ρ μ) (fun d μ1 => ∃ ρ', fTup is d ρ = some ρ' ∧ Qf (.nx ρ') μ1)) : OkS (sUnp is A ρ μ) Qf := OkS_lft (h.mono fun d μ1 ⟨ρ', e, q⟩ => by simp only [e]; exact q)
theorem q_drop (h : Ok (A ρ μ) (fun _ μ1 => Qf (.nx ρ) μ1)) : OkS (sDrop A ρ μ) Qf := OkS_drop h
theorem q_meth {c : Store → D → Bool} {F : D → List D → Store → Res D} : Ok (eMeth c F A As ρ μ) Q = Ok (A ρ μ) (fun o μ1 => c μ1 o = true ∧ Ok (As ρ μ1) (fun ds μ2 => Ok (F o ds μ2) Q)) := by
  unfold eMeth
  rw [Ok_bind]
  congr 1
  funext o μ1
  rw [q_if]
  congr 1
  exact Ok_bind
theorem f_app {c : Nat} {xs : List D} {y : D} (h : μ[c]? = some (.lst xs)) (hl : xs.length < sizeLine) : Fapp (.ref c) [y] μ = okR .non (μ.set c (.lst (xs ++ [y]))) := by
  unfold Fapp
  simp only [h, if_pos hl]
theorem f_ext {c : Nat} {xs ys : List D} (h : μ[c]? = some (.lst xs)) (hl : xs.length + ys.length ≤ sizeLine) : Fext (.ref c) [.lst ys] μ = okR .non (μ.set c (.lst (xs ++ ys))) := by
  unfold Fext
  simp only [h, if_pos hl]
theorem isList_ref {c : Nat} {xs : List D} (h : μ[c]? = some (.lst xs)) : isList μ (.ref c) = true := by
  simp only [isList, h]
def anyAt (d : D) (μ : Store) (k : List D → (Store → Bool) → Prop) : Prop := match d with
  | .lst xs => k xs anyG
  | .fl xs => k xs anyG
  | .tup xs => k xs anyG
  | .str x => k (signsD x) anyG
  | .ref c => match μ[c]? with
    | some (.lst xs) => k xs (isLst c xs)
    | _ => False
  | _ => False
theorem q_anyL {xs : List D} {k : List D → (Store → Bool) → Prop} : anyAt (.lst xs) μ k = k xs anyG := rfl
theorem q_anyF {xs : List D} {k : List D → (Store → Bool) → Prop} : anyAt (.fl xs) μ k = k xs anyG := rfl
theorem q_anyT {xs : List D} {k : List D → (Store → Bool) → Prop} : anyAt (.tup xs) μ k = k xs anyG := rfl
theorem q_anyS {x : Str} {k : List D → (Store → Bool) → Prop} : anyAt (.str x) μ k = k (signsD x) anyG := rfl
theorem q_iany : Ok (iAny A ρ μ) Qi = Ok (A ρ μ) (fun d μ1 => anyAt d μ1 (fun xs g => Qi (xs, g) μ1)) := by
  unfold iAny
  rw [Ok_bind]
  congr 1
  funext d μ1
  cases d with
  | ref c =>
    unfold anyAt
    simp only []
    cases μ1[c]? with
    | none => rfl
    | some o => cases o <;> rfl
  | _ => rfl
theorem intsD_map : ∀ ns : List Int, intsD (ns.map D.int) = some ns
  | [] => rfl
  | n :: r => by simp only [List.map_cons, intsD, intsD_map r, Option.map_some]
theorem f_minR {c : Nat} {m : Int} {ns : List Int} (h : μ[c]? = some (.lst ((m :: ns).map D.int))) : FminL [.ref c] μ = okR (.int (minI m ns)) μ := by
  unfold FminL
  simp only [itemsL, h, Option.bind_some, intsD_map]
theorem f_minLst {m : Int} {ns : List Int} : FminL [.lst ((m :: ns).map D.int)] μ = okR (.int (minI m ns)) μ := by
  unfold FminL
  simp only [itemsL, Option.bind_some, intsD_map]
theorem noRefs_ints : ∀ ns : List Int, noRefs 0 (ns.map D.int) = true
  | [] => rfl
  | n :: r => by simp only [List.map_cons, noRefs, noRef, noRefs_ints r, Bool.and_true]
end
end DM

namespace DM
open PySem PySem.Spec L2
section
variable {α β : Type} {ρ : Rho} {μ : Store} {Q : D → Store → Prop} {Qs : List D → Store → Prop} {Qb : Bool → Store → Prop} {Qf : Fl → Store → Prop} {Qi : IV → Store → Prop} {A B C : CM D} {T U : CM Bool} {As : CM (List D)}
/-! ### comprehensions that leave the store as it is -/
theorem lcm {gd : Store → Bool} {g : D → Rho → Option Rho} {E : CM D} (emb : α → D) (t : α → Bool) (f : α → D) {items : List α} {n : Nat} (hn : μ.length = n) (hp : PureS μ) (hlen : items.length ≤ 1000000) (hgd : ∀ o, gd (μ ++ [o]) = true)
    (hs : ∀ x o, x ∈ items → ∃ ρ1, g (emb x) ρ = some ρ1 ∧ Ok (T ρ1 (μ ++ [o])) (fun b μ2 => μ2 = μ ++ [o] ∧ b = t x) ∧ (t x = true → Ok (E ρ1 (μ ++ [o])) (fun y μ2 => μ2 = μ ++ [o] ∧ y = f x ∧ noRef 0 (f x) = true)))
    (q : ∀ d μ', (d = D.ref n ∧ μ' = μ ++ [.lst ((items.filter t).map f)] ∧ PureS (μ'.take n) ∧ unref n μ' 4 d = some (.lst ((items.filter t).map f)) ∧ μ'.take n = μ) → Q d μ') : Ok (lcLoop gd g T E n (items.map emb) ρ (μ ++ [.lst []])) Q := by
  refine Ok.mono ?_ q
  refine lc_ok (acc := []) (fun i acc μ' => μ' = μ ++ [.lst acc] ∧ acc = ((items.take i).filter t).map f ∧ noRefs 0 acc = true ∧ acc.length ≤ i) (fun i acc μ' h => by rw [h.1]; exact hgd _) ?_ ?_ ⟨rfl, by simp, rfl, by simp⟩
  · rintro i d acc μ' ed ⟨rfl, ha, hr, hl⟩
    have hil : i < items.length := by
      have := (List.getElem?_eq_some_iff.mp ed).1
      simpa using this
    rw [List.getElem?_map] at ed
    rw [List.getElem?_eq_getElem hil] at ed
    cases ed
    obtain ⟨ρ1, eg, h1, h2⟩ := hs items[i] (.lst acc) (List.getElem_mem hil)
    refine ⟨ρ1, eg, h1.mono ?_⟩
    rintro b μ2 ⟨rfl, rfl⟩
    have tk : items.take (i + 1) = items.take i ++ [items[i]] := by simp
    refine ⟨fun hb => (h2 hb).mono ?_, fun hb => ⟨rfl, ?_, hr, by omega⟩⟩
    · rintro y μ2 ⟨rfl, rfl, hy⟩
      refine ⟨by rw [← hn]; simp, ?_, ?_, ?_, ?_, ?_⟩
      · exact Nat.lt_of_le_of_lt hl (Nat.lt_of_lt_of_le hil (size_ok hlen))
      · rw [List.set_append_right _ _ (by omega), hn]; simp
      · rw [tk, List.filter_append, List.map_append, ← ha]
        congr 1
        rw [List.filter_cons, if_pos hb]
        rfl
      · exact noRefs_all.mpr fun d hd => by
          rcases List.mem_append.mp hd with h | h
          · exact noRefs_all.mp hr d h
          · rw [List.mem_singleton.mp h]; exact hy
      · simp; omega
    · rw [tk, List.filter_append, List.map_append, ← ha, List.filter_cons, if_neg (by simp [hb])]
      simp
  · rintro acc μ' ⟨rfl, ha, hr, hl⟩
    have e : (List.take (items.map emb).length items) = items := by simp
    rw [e] at ha
    subst ha
    refine ⟨rfl, rfl, ?_, ?_, ?_⟩
    · rw [← hn]; simpa using hp
    · exact unref_cell (by rw [← hn]; simp) (Nat.le_refl _) hr
    · rw [← hn]; simp
/-- the list of a comprehension that leaves the store as it is -/
theorem q_lcm {I : CM IV} {g : D → Rho → Option Rho} {E : CM D} {own : List Nat} (emb : α → D) (t : α → Bool) (f : α → D) (items : List α) (hp : PureS μ) (hlen : items.length ≤ 1000000)
    (hI : Ok (I ρ μ) (fun q μ1 => μ1 = μ ∧ q.1 = items.map emb ∧ ∀ o, q.2 (μ ++ [o]) = true))
    (hs : ∀ x o, x ∈ items → ∃ ρ1, g (emb x) (wipeR ρ own) = some ρ1 ∧ Ok (T ρ1 (μ ++ [o])) (fun b μ2 => μ2 = μ ++ [o] ∧ b = t x) ∧ (t x = true → Ok (E ρ1 (μ ++ [o])) (fun y μ2 => μ2 = μ ++ [o] ∧ y = f x ∧ noRef 0 (f x) = true)))
    (q : Q (.lst ((items.filter t).map f)) μ) : Ok (eSeal (eLC I g T E own) ρ μ) Q := by
  refine q_lc (hI.mono ?_)
  rintro ⟨xs, gd⟩ μ1 ⟨rfl, rfl, hg⟩
  refine lcm emb t f rfl hp hlen hg hs ?_
  rintro d μ' ⟨rfl, e1, e2, e3, e4⟩
  rw [e4] at e2 ⊢
  exact ⟨e2, _, e3, q⟩
def rngI (lo : Int) (n : Nat) : List Int := (List.range n).map (fun i : Nat => lo + (i : Int))
theorem rngD_eq {lo : Int} {n : Nat} : rngD lo n = (rngI lo n).map D.int := by
  unfold rngD rngI
  rw [List.map_map]
  rfl
theorem rngI_mem {lo x : Int} {n : Nat} : x ∈ rngI lo n ↔ lo ≤ x ∧ x < lo + n := by
  unfold rngI
  rw [List.mem_map]
  constructor
  · rintro ⟨i, hi, rfl⟩
    have := List.mem_range.mp hi
    omega
  · rintro ⟨a, b⟩
    exact ⟨(x - lo).toNat, List.mem_range.mpr (by omega), by omega⟩
theorem rngI_len {lo : Int} {n : Nat} : (rngI lo n).length = n := by simp [rngI]
theorem rngI_get {lo : Int} {n i : Nat} (h : i < n) : (rngI lo n)[i]? = some (lo + i) := by
  unfold rngI
  rw [List.getElem?_map, List.getElem?_range h]
  rfl
/-- the first of a range that passes a test -/
theorem rngI_filter_head {lo : Int} {n : Nat} {t : Int → Bool} {m : Int} (h0 : lo ≤ m) (h1 : m < lo + n) (ht : t m = true) (hb : ∀ x, lo ≤ x → x < m → t x = false) : ∃ r, (rngI lo n).filter t = m :: r := by
  induction n generalizing lo with
  | zero => omega
  | succ n ih =>
    have e : rngI lo (n + 1) = lo :: rngI (lo + 1) n := by
      unfold rngI
      rw [List.range_succ_eq_map]
      simp only [List.map_cons, List.map_map]
      congr 1
      · simp
      · apply List.map_congr_left
        intro i _
        simp only [Function.comp]
        omega
    rw [e]
    by_cases h : lo = m
    · subst h
      rw [List.filter_cons, if_pos ht]
      exact ⟨_, rfl⟩
    · rw [List.filter_cons, if_neg (by rw [hb lo (by omega) (by omega)]; decide)]
      exact ih (by omega) (by omega) (fun x a b => hb x (by omega) b)
theorem q_rg1I {F : Int} (h1 : -(2 ^ 62) ≤ F ∧ F < 2 ^ 62) : Ok (iRg1 (CM.ret [D.int F]) ρ μ) (fun q μ1 => μ1 = μ ∧ q.1 = (rngI 0 F.toNat).map D.int ∧ ∀ o, q.2 (μ ++ [o]) = true) := by
  rw [q_rg1]
  exact ⟨F, rfl, h1.1, h1.2, rfl, rngD_eq, fun _ => rfl⟩
/-! ### words on lists that a function maps -/
theorem bls_map {p : α → Bool} : ∀ xs : List α, bls (xs.map fun x => D.bl (p x)) = some (xs.map p)
  | [] => rfl
  | x :: r => by simp only [List.map_cons, bls, bls_map r, Option.map_some]
theorem f_allM {p : α → Bool} {xs : List α} : Fall [.lst (xs.map fun x => D.bl (p x))] μ = okR (.bl (xs.all p)) μ := by
  unfold Fall
  simp only [bls_map, Option.map_some, pureR]
  congr 3
  simp
theorem f_anyM {p : α → Bool} {xs : List α} : Fany [.lst (xs.map fun x => D.bl (p x))] μ = okR (.bl (xs.any p)) μ := by
  unfold Fany
  simp only [bls_map, Option.map_some, pureR]
  congr 3
  simp
/-! ### stores of names side by side -/
def par2 (ds : List D) (k : D → D → Prop) : Prop := match ds with
  | [a, b] => k a b
  | _ => False
def par3 (ds : List D) (k : D → D → D → Prop) : Prop := match ds with
  | [a, b, c] => k a b c
  | _ => False
theorem q_p2 {a b : D} {k : D → D → Prop} : par2 [a, b] k = k a b := rfl
theorem q_p3 {a b c : D} {k : D → D → D → Prop} : par3 [a, b, c] k = k a b c := rfl
theorem q_spar2 {i j : Nat} (h : Ok (As ρ μ) (fun ds μ1 => par2 ds (fun a b => Qf (.nx ((ρ.set i (some a)).set j (some b))) μ1))) : OkS (sPar2 i j As ρ μ) Qf := q_par2 (h.mono fun ds μ1 q => by
  unfold par2 at q
  split at q
  · exact ⟨_, _, rfl, q⟩
  · exact q.elim)
theorem q_spar3 {i j l : Nat} (h : Ok (As ρ μ) (fun ds μ1 => par3 ds (fun a b c => Qf (.nx (((ρ.set i (some a)).set j (some b)).set l (some c))) μ1))) : OkS (sPar3 i j l As ρ μ) Qf := q_par3 (h.mono fun ds μ1 q => by
  unfold par3 at q
  split at q
  · exact ⟨_, _, _, rfl, q⟩
  · exact q.elim)
theorem q_setA0 {ρ : Rho} : setAll [] [] ρ = some ρ := rfl
theorem q_setA {i : Nat} {is : List Nat} {d : D} {ds : List D} {ρ : Rho} : setAll (i :: is) (d :: ds) ρ = setAll is ds (ρ.set i (some d)) := rfl
def unpAt (is : List Nat) (d : D) (ρ : Rho) (k : Rho → Prop) : Prop := match fTup is d ρ with
  | some ρ' => k ρ'
  | none => False
def rhoAt (o : Option Rho) (k : Rho → Prop) : Prop := match o with
  | some ρ' => k ρ'
  | none => False
theorem q_rhoAt {ρ : Rho} {k : Rho → Prop} : rhoAt (some ρ) k = k ρ := rfl
theorem q_unpT {is : List Nat} {ds : List D} {k : Rho → Prop} : unpAt is (.tup ds) ρ k = rhoAt (setAll is ds ρ) k := rfl
theorem q_sunp {is : List Nat} (h : Ok (A ρ μ) (fun d μ1 => unpAt is d ρ (fun ρ' => Qf (.nx ρ') μ1))) : OkS (sUnp is A ρ μ) Qf := q_unp (h.mono fun d μ1 q => by
  unfold unpAt at q
  split at q
  · exact ⟨_, by assumption, q⟩
  · exact q.elim)
/-! ### lists of whole numbers as data -/
theorem toPys_ints : ∀ ns : List Int, toPys (ns.map D.int) = some (ns.map PyData.int)
  | [] => rfl
  | n :: r => by simp only [List.map_cons, toPys, toPy, toPys_ints r]
theorem canLay_ints : ∀ ns : List Int, PyData.canLayAll0 (ns.map PyData.int) = true
  | [] => rfl
  | n :: r => by simp only [List.map_cons, PyData.canLayAll0, PyData.canLay0, canLay_ints r, Bool.and_self]
theorem depth_ints : ∀ ns : List Int, PyData.depthAll (ns.map PyData.int) = 0
  | [] => rfl
  | n :: r => by simp only [List.map_cons, PyData.depthAll, PyData.depth, depth_ints r, Nat.max_self]
theorem shaped_ints {ns : List Int} : SeqAt.shaped (.list (ns.map PyData.int)) = true := by
  simp [SeqAt.shaped, PyData.canLay0, canLay_ints, PyData.depth, depth_ints]
theorem shaped_intsT {ns : List Int} : SeqAt.shaped (.tuple (ns.map PyData.int)) = true := by
  simp [SeqAt.shaped, PyData.canLay0, canLay_ints, PyData.depth, depth_ints]
theorem any_ints {x : Int} : ∀ ns : List Int, ((ns.map PyData.int).any fun z => PyData.eqv z (.int x)) = decide (x ∈ ns)
  | [] => by simp
  | n :: r => by
    rw [List.map_cons, List.any_cons, any_ints r]
    simp only [PyData.eqv, List.mem_cons]
    by_cases h : n = x
    · subst h; simp
    · have h' : ¬ x = n := fun e => h e.symm
      simp [h, h']
theorem f_inR {c : Nat} {ns : List Int} {x : Int} (h : μ[c]? = some (.lst (ns.map D.int))) : Fin false (.int x) (.ref c) μ = okR (.bl (decide (x ∈ ns))) μ := by
  unfold Fin
  simp only [toPyS, h, toPys_ints, Option.map_some, toPy]
  rw [if_pos ⟨by rfl, shaped_ints⟩, any_ints]
  rfl
theorem f_inL {ns : List Int} {x : Int} : Fin false (.int x) (.lst (ns.map D.int)) μ = okR (.bl (decide (x ∈ ns))) μ := by
  unfold Fin
  simp only [toPyS, toPys_ints, Option.map_some, toPy]
  rw [if_pos ⟨by rfl, shaped_ints⟩, any_ints]
  rfl
theorem f_notinR {c : Nat} {ns : List Int} {x : Int} (h : μ[c]? = some (.lst (ns.map D.int))) : Fin true (.int x) (.ref c) μ = okR (.bl (!decide (x ∈ ns))) μ := by
  unfold Fin
  simp only [toPyS, h, toPys_ints, Option.map_some, toPy]
  rw [if_pos ⟨by rfl, shaped_ints⟩, any_ints]
  rfl
theorem f_notinL {ns : List Int} {x : Int} : Fin true (.int x) (.lst (ns.map D.int)) μ = okR (.bl (!decide (x ∈ ns))) μ := by
  unfold Fin
  simp only [toPyS, toPys_ints, Option.map_some, toPy]
  rw [if_pos ⟨by rfl, shaped_ints⟩, any_ints]
  rfl
theorem eqvAll_ints : ∀ ms ns : List Int, PyData.eqvAll (ms.map PyData.int) (ns.map PyData.int) = decide (ms = ns)
  | [], [] => by simp [PyData.eqvAll]
  | [], _ :: _ => by simp [PyData.eqvAll]
  | _ :: _, [] => by simp [PyData.eqvAll]
  | m :: ms, n :: ns => by
    simp only [List.map_cons, PyData.eqvAll, PyData.eqv, eqvAll_ints ms ns]
    by_cases h : m = n
    · subst h; simp
    · simp [h]
theorem f_mulL {xs : List D} {k : Int} (h : (-(2 ^ 63) ≤ k ∧ k < 2 ^ 63) ∧ xs.length * k.toNat ≤ sizeLine) : Fmul (.lst xs) (.int k) μ = okR (.lst (List.replicate k.toNat xs).flatten) μ := by
  unfold Fmul
  simp only [if_pos h]
theorem f_mulB {d : D} {b : Bool} : Fmul (.lst [d]) (.int (if b = true then 1 else 0)) μ = okR (.lst (if b = true then [d] else [])) μ := by
  cases b
  · rw [if_neg (by decide), if_neg (by decide), f_mulL ⟨by decide, size_ok (by simp)⟩]
    rfl
  · rw [if_pos rfl, if_pos rfl, f_mulL ⟨by decide, size_ok (by simp)⟩]
    rfl
end
end DM

namespace DM
open PySem PySem.Spec L2
/-! ### what a module's name holds -/
mutual
def conV (K : PySem.W.Frag) : D → Value → Bool
  | .non, u => (match u with
    | .none => true
    | _ => false)
  | .bl b, u => (match u with
    | .bool c => b == c
    | _ => false)
  | .int i, u => (match u with
    | .int j _ => decide (i = j)
    | _ => false)
  | .str x, u => (match u with
    | .str y _ => decide (x = y)
    | _ => false)
  | .tup ds, u => (match u with
    | .ref a => (match K.lookup a with
      | some ⟨.type c, none, .seq its _, _⟩ => decide (c = "tuple") && (decide (its.size ≤ sizeLine) && conVs K ds its.toList)
      | _ => false)
    | _ => false)
  | _, _ => false
def conVs (K : PySem.W.Frag) : List D → List Value → Bool
  | [], us => us.isEmpty
  | d :: ds, us => (match us with
    | u :: us => conV K d u && conVs K ds us
    | [] => false)
end
theorem andT {a b : Bool} (h : (a && b) = true) : a = true ∧ b = true := by cases a <;> cases b <;> simp_all
mutual
theorem conV_ok {K : PySem.W.Frag} : ∀ {d : D} {u : Value}, conV K d u = true → ∃ v, RelV v u ∧ ∀ ι H, VR K ι H v d
  | .non, u, h => by
    cases u with
    | none => exact ⟨.non, rfl, fun _ _ => .non⟩
    | _ => simp [conV] at h
  | .bl b, u, h => by
    cases u with
    | bool c =>
      have e : b = c := by simpa [conV] using h
      subst e
      exact ⟨.bl b, rfl, fun _ _ => .bl b⟩
    | _ => simp [conV] at h
  | .int i, u, h => by
    cases u with
    | int j t =>
      have e : i = j := by simpa [conV] using h
      subst e
      exact ⟨.int i, ⟨t, rfl⟩, fun _ _ => .int i⟩
    | _ => simp [conV] at h
  | .str x, u, h => by
    cases u with
    | str y t =>
      have e : x = y := by simpa [conV] using h
      subst e
      exact ⟨.str x, ⟨t, rfl⟩, fun _ _ => .str x⟩
    | _ => simp [conV] at h
  | .tup ds, u, h => by
    cases u with
    | ref a =>
      unfold conV at h
      simp only [] at h
      split at h
      · rename_i c its n sl q
        obtain ⟨h1, h2⟩ := andT h
        obtain ⟨h3, h4⟩ := andT h2
        obtain ⟨vs, r, k⟩ := conVs_ok h4
        exact ⟨.ref a, rfl, fun ι H => .tup (.inr (.inl ⟨_, its, n, q, congrArg Value.type (of_decide_eq_true h1), rfl, rfl, of_decide_eq_true h3, r⟩)) (k ι H)⟩
      · cases h
    | _ => simp [conV] at h
  | .lst _, _, h => by simp [conV] at h
  | .fl _, _, h => by simp [conV] at h
  | .ref _, _, h => by simp [conV] at h
theorem conVs_ok {K : PySem.W.Frag} : ∀ {ds : List D} {us : List Value}, conVs K ds us = true → ∃ vs, Vals vs us ∧ ∀ ι H, VRs K ι H vs ds
  | [], us, h => by
    cases us with
    | nil => exact ⟨[], .nil, fun _ _ => .nil⟩
    | cons _ _ => simp [conVs] at h
  | d :: ds, us, h => by
    cases us with
    | nil => simp [conVs] at h
    | cons u us =>
      obtain ⟨h1, h2⟩ := andT (show (conV K d u && conVs K ds us) = true by simpa [conVs] using h)
      obtain ⟨v, r, k⟩ := conV_ok h1
      obtain ⟨vs, r', k'⟩ := conVs_ok h2
      exact ⟨v :: vs, .cons r r', fun ι H => .cons (k ι H) (k' ι H)⟩
end
def Cst (K : PySem.W.Frag) (mg : Str → Option Value) (x : Str) (d : D) : Prop := ∃ u v, mg x = some u ∧ RelV v u ∧ ∀ ι H, VR K ι H v d
def conB (K : PySem.W.Frag) (c : Str × D) : Bool := match PySem.W.nsIn K mainGlobals c.1 with
  | some (some u) => conV K c.2 u
  | _ => false
theorem conB_ok {K : PySem.W.Frag} {h : Heap} {mg : Str → Option Value} {x : Str} {d : D} (X : K.In h) (G : h.Ns mainGlobals mg) (c : conB K (x, d) = true) : Cst K mg x d := by
  unfold conB at c
  split at c
  · rename_i u q
    obtain ⟨v, r, k⟩ := conV_ok c
    exact ⟨u, v, PySem.W.mg_of X G q, r, k⟩
  · cases c
theorem d_cst {X : Cx} {W : DW} {x : Str} {d : D} {pos : Pos} (hg : Gl X x) (h : Cst X.K X.mg x d) (hd : (x == ("__debug__" : Str)) = false := by decide) : PE X (.Name x pos) (tE X.K W (eC d)) := by
  obtain ⟨u, v, h1, h2, h3⟩ := h
  exact d_const (pe_glob hg h1 h2 hd) h3
/-! ### the look at the head, with the module's values -/
abbrev AlC : Type := Bool × He.AlD
def obsC (fa : List He.Fa) (fn : List He.DefD) (cs : List (Str × D)) (K : PySem.W.Frag) : AlC := (cs.all (conB K), He.obsD fa fn K)
def obsCG (n : Nat) (fa : List He.Fa) (fn : List He.DefD) (cs : List (Str × D)) (g : Addr → Option Obj) : AlC := obsC fa fn cs (He.frG g (He.asD g n))
structure SaysC (fa : List He.Fa) (fn : List He.DefD) (cs : List (Str × D)) (K : PySem.W.Frag) : Prop where
  c : He.SaysD fa fn K
  k : cs.all (conB K) = true
def hookC (n : Nat) (fa : List He.Fa) (fn : List He.DefD) (cs : List (Str × D)) : PySem.W.Hook where
  α := AlC
  obs := fun s => obsCG n fa fn cs s.heap.get?
  val := fun _ => (true, He.valD fn)
  says := fun _ h => ∃ K : PySem.W.Frag, K.In h ∧ SaysC fa fn cs K
  of := fun _ _ e => ⟨_, He.frG_in, congrArg Prod.snd e, congrArg Prod.fst e⟩
  keeps := fun _ _ _ ⟨K, hK, c⟩ k => ⟨K, PySem.W.Frag.In.keeps hK k, c⟩
theorem obsCG_eq {n : Nat} {fa : List He.Fa} {fn : List He.DefD} {cs : List (Str × D)} {g : Addr → Option Obj} {s : Shared} (h : ∀ a, g a = s.heap.get? a) : obsCG n fa fn cs g = (hookC n fa fn cs).obs s := by
  have e : g = s.heap.get? := funext h
  rw [e] <;> rfl
theorem SaysC.con {fa : List He.Fa} {fn : List He.DefD} {cs : List (Str × D)} {K : PySem.W.Frag} (c : SaysC fa fn cs K) (i : Nat) {z : Str × D} (h : cs[i]? = some z := by rfl) : conB K z = true :=
  List.all_eq_true.mp c.k z (List.mem_of_getElem? h)
end DM

namespace DM
open PySem PySem.Spec L2
/-! ### repr of data -/
def Frepr (ds : List D) (μ : Store) : Res D := match ds with
  | [d] => match toPyS μ d with
    | some p => if (p.showable = true ∧ p.depth ≤ 64) ∧ p.shown.length ≤ sizeLine then okR (.str p.shown) μ else none
    | none => none
  | _ => none
def rRepr (K : PySem.W.Frag) : List V → Hp → VK → Prop := fun xs H Q => ∃ x p, xs = [x] ∧ Dp K H x p ∧ p.showable = true ∧ p.depth ≤ 64 ∧ p.shown.length ≤ sizeLine ∧ Q (.str p.shown) H
section
variable {X : Cx} {K : PySem.W.Frag}
mutual
theorem dp_noDict {H : Hp} : ∀ {v : V} {p : PyData}, Dp K H v p → p.hasDict = false
  | _, _, .non => rfl
  | _, _, .bl _ => rfl
  | _, _, .int _ => rfl
  | _, _, .str _ => rfl
  | _, _, .lst _ h => by simp only [PyData.hasDict]; exact dp_noDictAll h
  | _, _, .tup _ h => by simp only [PyData.hasDict]; exact dp_noDictAll h
theorem dp_noDictAll {H : Hp} : ∀ {vs : List V} {ps : List PyData}, DpAll K H vs ps → PyData.hasDictAll ps = false
  | _, _, .nil => rfl
  | _, _, .cons h t => by simp only [PyData.hasDictAll, dp_noDict h, dp_noDictAll t, Bool.or_self]
end
theorem call_repr (hG : X.A.guards = some []) (hu : X.A.units + 65 < cLine) : CallR X (.builtin "repr") (rRepr X.K) := by
  intro pins s σ H xs us Q I r h
  obtain ⟨x, p, rfl, hp, h1, h2, h3, q⟩ := h
  obtain ⟨u, rfl, rx⟩ := vals1 r
  obtain ⟨as, rd⟩ := Dp.reads I p x u hp rx
  have hnd := dp_noDict hp
  cases hp with
  | non => cases rx; exact PySem.P.repr_of_none ⟨.str _, H, I.tok _, ⟨_, rfl⟩, q⟩
  | bl b => cases rx; exact PySem.P.repr_of_bool ⟨.str _, H, I.tok _, ⟨_, rfl⟩, q⟩
  | int i =>
    obtain ⟨t, rfl⟩ := rx
    exact PySem.P.repr_of_int (of_decide_eq_true h1) ⟨.str _, H, I.tok _, ⟨_, rfl⟩, q⟩
  | str z =>
    obtain ⟨t, rfl⟩ := rx
    exact PySem.P.repr_of_str (hsz := h3) ⟨.str _, H, I.tok _, ⟨_, rfl⟩, q⟩
  | lst hs ha =>
    cases rx
    exact repr_of_reads' rd h1 (PyData.noDict_hsm hnd) hG (by omega) (fun _ _ e => e) (fun h' u tk hk => ⟨.str _, H, I.kept hk, ⟨_, rfl⟩, q⟩) h3
  | tup hs ha =>
    cases rx
    exact repr_of_reads' rd h1 (PyData.noDict_hsm hnd) hG (by omega) (fun _ _ e => e) (fun h' u tk hk => ⟨.str _, H, I.kept hk, ⟨_, rfl⟩, q⟩) h3
theorem lift_repr : LiftA K (rRepr K) Frepr := by
  intro W σ ι μ H xs ds Q w v h
  unfold Frepr at h
  split at h
  · obtain ⟨x, rfl, vx⟩ := v.one
    split at h
    · rename_i p ep
      obtain ⟨z, h⟩ := PostG.guard h
      exact ⟨x, p, rfl, dpS_of w vx ep, z.1.1, z.1.2, z.2, h.ok0 w (.str _)⟩
    · exact h.elim
  · exact h.elim
/-! ### methods of tuples -/
def tyT (K : PySem.W.Frag) (x : V) (H : Hp) : Prop := ∃ p vs, x = .ref p ∧ ((∃ o, H p = some (.frz o (.tup vs)) ∧ o.dict = none) ∨ ∃ o, K.lookup p = some o ∧ o.cls = .type "tuple" ∧ o.dict = none)
theorem tyT_is {pins : List (Addr × Obj)} {σ : L2.St} {H : Hp} {s : Shared} {x : V} {v : Value} (I : Inv X pins σ H s) (r : RelV x v) (ty : tyT X.K x H) : s.TypeIs v "tuple" ∧ ∀ a, v = .ref a → ∃ ob, s.heap.get? a = some ob ∧ ob.dict = none := by
  obtain ⟨p, vs, rfl, h⟩ := ty
  cases r
  rcases h with ⟨o, h, hd⟩ | ⟨o, hk, hc, hd⟩
  · have hh := I.hok p _ h
    obtain ⟨its, _, pl, _⟩ := I.tuple (a := p) (xs := vs) (.inl (.inr ⟨o, h⟩))
    obtain ⟨o', ho', hc', _⟩ := pl
    have e : o' = o := by
      have := hh.1
      rw [ho'] at this
      exact Option.some.inj this
    subst e
    exact ⟨⟨_, ho', hc'⟩, fun a e => by cases e; exact ⟨_, ho', hd⟩⟩
  · exact ⟨⟨o, I.kIn p o hk, hc⟩, fun a e => by cases e; exact ⟨o, I.kIn _ o hk, hd⟩⟩
def tBMT (K : PySem.W.Frag) (r : V → List V → Hp → VK → Prop) (to : TE) (t : TA) : TE := fun σ H Q => to σ H fun x H1 => tyT K x H1 ∧ t σ H1 fun xs H2 => r x xs H2 Q
section
variable {o e : Expr} {es : List Expr} {to : TE} {t : TA} {name : Str} {apos cpos : Pos} {id : String} {r : V → List V → Hp → VK → Prop}
theorem pe_bmT (pa : PlainAttrs "tuple") (slot : Slot "tuple" name id) (hty : typeOf (.builtin id) = pure (.type "method_descriptor")) (hm : MtR X id r) (ho : PE X o to) (ha : PA X (e :: es) t)
    (hbase : attributeBase o name X.env (eval o X.env) = eval o X.env := by rfl)
    (hfew : ((backTo cpos (starEach (e :: es) X.env)).all (fun x => !x.1) && (backToKw cpos (keywordEach [] X.env)).all (fun x => x.1.isSome)
      && decide ((e :: es).length + ([] : List Keyword).length + (if ([] : List Keyword).isEmpty then 0 else 1) < 30)) = true := by rfl)
    (hline : (apos.endLine == cpos.line) = true := by rfl) (hs : starEach (e :: es) X.env = (false, eval e X.env) :: starEach es X.env := by rfl) (hplain : (backTo cpos (starEach es X.env)).any (·.1) = false := by rfl) :
    PE X (.Call (.Attribute o name apos) (e :: es) [] cpos) (tBMT X.K r to t) := by
  refine ⟨fun pins s σ H Q I h => ?_⟩
  refine wpAny_Call_method_late hbase hfew hline rfl (thn (ho.run pins s σ H _ I h) fun v s1 ⟨x, H1, I1, r1, ty, q1⟩ => ?_)
  obtain ⟨h1, h2⟩ := tyT_is I1 r1 ty
  refine ⟨"tuple", id, pa, slot, hty, h1, h2, ?_⟩
  have hA := ha.run cpos pins s1 σ H1 _ I1 q1
  rw [hs] at hA ⊢
  refine Calls.callWith_builtin (by show (false || (backTo cpos (starEach es X.env)).any (·.1)) = false; rw [hplain] <;> rfl) (Calls.evalArgs_plain ?_)
  exact thn hA fun us s2 ⟨vs, H2, I2, r2, q2⟩ => hm pins s2 σ H2 x vs v us Q I2 r1 r2 q2
end
def notInt : D → Bool
  | .int _ => false
  | _ => true
def isTup (μ : Store) : D → Bool
  | .tup ds => ds.all notInt
  | _ => false
theorem tup_ty {ι : List Addr} {H : Hp} {μ : Store} {x : V} {d : D} (w : WF K ι μ H) (v : VR K ι H x d) (h : isTup μ d = true) : tyT K x H := by
  cases v with
  | tup hh r =>
    rcases hh with ⟨⟨o, h, hd⟩, _⟩ | ⟨o, its, n, h1, h2, h3, _⟩ | ⟨_, _, i, hi⟩
    · exact ⟨_, _, rfl, .inl ⟨o, h, hd⟩⟩
    · exact ⟨_, [], rfl, .inr ⟨o, h1, h2, h3⟩⟩
    · exfalso
      have key : ∀ {vs : List V} {ds : List D}, VRs K ι H vs ds → V.int i ∈ vs → ds.all notInt = true → False := by
        intro vs
        induction vs with
        | nil => intro ds _ hm; simp at hm
        | cons v t ih =>
          intro ds r hm ha
          cases r with
          | cons a b =>
            rw [List.all_cons, Bool.and_eq_true] at ha
            rcases List.mem_cons.mp hm with rfl | hm
            · cases a; exact absurd ha.1 (by simp [notInt])
            · exact ih b hm ha.2
      exact key r hi h
  | _ => simp [isTup] at h
theorem bmAuxT {W : DW} {r : V → List V → Hp → VK → Prop} {F : D → List D → Store → Res D} {O : CM D} {As : CM (List D)} (hF : LiftM K r F) (σ : L2.St) (H : Hp) (Q : VK) (h : tE K W (eMeth isTup F O As) σ H Q) : tBMT K r (tE K W O) (tA K W As) σ H Q := by
  obtain ⟨ρ, ι, μ, sr, wf, h⟩ := h
  refine tG.mono (PostG.bind sr wf h) ?_
  rintro x H1 ⟨ι1, μ1, d, l1, w1, vx, h1⟩
  obtain ⟨ct, h1⟩ := PostG.guard h1
  refine ⟨tup_ty w1 vx ct, tG.mono (PostG.bind (sr.mono l1) w1 h1) ?_⟩
  rintro xs H2 ⟨ι2, μ2, ds, l2, w2, vxs, h2⟩
  exact hF W σ ι2 μ2 H2 x xs d ds Q w2 (vx.mono l2) vxs h2
def strsD : List D → Option (List Str)
  | [] => some []
  | .str x :: r => (strsD r).map (x :: ·)
  | _ :: _ => none
theorem strsD_map : ∀ ys : List Str, strsD (ys.map D.str) = some ys
  | [] => rfl
  | y :: r => by simp only [List.map_cons, strsD, strsD_map r, Option.map_some]
theorem strsD_eq : ∀ {ds : List D} {ys : List Str}, strsD ds = some ys → ds = ys.map D.str
  | [], ys, h => by cases h; rfl
  | d :: r, ys, h => by
    cases d with
    | str x =>
      simp only [strsD, Option.map_eq_some_iff] at h
      obtain ⟨z, e, rfl⟩ := h
      rw [strsD_eq e]
      rfl
    | _ => simp [strsD] at h
theorem vrs_strs {ι : List Addr} {H : Hp} : ∀ {vs : List V} {ys : List Str}, VRs K ι H vs (ys.map D.str) → vs = ys.map V.str
  | _, [], h => by cases h; rfl
  | _, y :: r, h => by
    cases h with
    | cons a t =>
      cases a
      rw [vrs_strs t]
      rfl
def idxS (z : Str) : List Str → Option Nat
  | [] => none
  | y :: r => if y = z then some 0 else (idxS z r).map (· + 1)
theorem idxS_ok {z : Str} : ∀ {ys : List Str} {j : Nat}, idxS z ys = some j → ys[j]? = some z ∧ ∀ m, m < j → ys[m]? ≠ some z
  | [], j, h => by simp [idxS] at h
  | y :: r, j, h => by
    unfold idxS at h
    split at h
    · rename_i e
      cases h
      exact ⟨by rw [e]; rfl, fun m hm => absurd hm (Nat.not_lt_zero _)⟩
    · rename_i ne
      simp only [Option.map_eq_some_iff] at h
      obtain ⟨i, e, rfl⟩ := h
      obtain ⟨h1, h2⟩ := idxS_ok e
      refine ⟨by simpa using h1, fun m hm => ?_⟩
      cases m with
      | zero => simpa using ne
      | succ m => simpa using h2 m (by omega)
def FtIdx (o : D) (ds : List D) (μ : Store) : Res D := match o, ds with
  | .tup xs, [.str z] => match strsD xs with
    | some ys => pureR ((idxS z ys).map fun j => .int (j : Nat)) μ
    | none => none
  | _, _ => none
theorem lift_tidx : LiftM K (fun x xs H Q => ∃ p, ∃ ys : List Str, ∃ z j, x = .ref p ∧ xs = [.str z] ∧ SqT K H p (ys.map V.str) ∧ ys[j]? = some z ∧ (∀ m, m < j → ys[m]? ≠ some z) ∧ Q (.int (j : Nat)) H) FtIdx := by
  intro W σ ι μ H x xs d ds Q w vx vxs h
  unfold FtIdx at h
  split at h
  · rename_i zs z
    obtain ⟨v, rfl, vy⟩ := vxs.one
    cases vy
    split at h
    · rename_i ys eys
      have e := strsD_eq eys
      subst e
      cases ej : idxS z ys with
      | none => rw [ej] at h; exact h.elim
      | some j =>
        rw [ej] at h
        obtain ⟨h1, h2⟩ := idxS_ok ej
        cases vx with
        | tup hh r =>
          have hv := vrs_strs r
          subst hv
          exact ⟨_, ys, z, j, rfl, rfl, hh.sq, h1, h2, PostG.ok0 h w (.int _)⟩
    · exact h.elim
  · exact h.elim
end
section
variable {X : Cx} {W : DW} {o e : Expr} {es : List Expr} {O : CM D} {As : CM (List D)} {apos cpos : Pos}
theorem d_tidx (ho : PE X o (tE X.K W O)) (ha : PA X [e] (tA X.K W As)) (hbase : attributeBase o "index" X.env (eval o X.env) = eval o X.env := by rfl)
    (hfew : ((backTo cpos (starEach [e] X.env)).all (fun x => !x.1) && (backToKw cpos (keywordEach [] X.env)).all (fun x => x.1.isSome) && decide ([e].length + ([] : List Keyword).length + (if ([] : List Keyword).isEmpty then 0 else 1) < 30)) = true := by rfl)
    (hline : (apos.endLine == cpos.line) = true := by rfl) (hs : starEach [e] X.env = (false, eval e X.env) :: starEach [] X.env := by rfl) (hp : (backTo cpos (starEach [] X.env)).any (·.1) = false := by rfl) :
    PE X (.Call (.Attribute o "index" apos) [e] [] cpos) (tE X.K W (eMeth isTup FtIdx O As)) :=
  (pe_bmT PySem.F.plainAttrs_tuple PySem.F.slot_tuple_index PySem.F.type_tuple_index mt_tup_index ho ha hbase hfew hline hs hp).imp (bmAuxT lift_tidx)
end
end DM

namespace DM
open PySem PySem.Spec L2
section
variable {α β : Type} {ρ : Rho} {μ : Store} {Q : D → Store → Prop} {Qf : Fl → Store → Prop}
/-! ### loops over few items, turn by turn -/
def afterL (gd : Store → Bool) (g : D → Rho → Option Rho) (S : SF) (t : List D) (Q : Fl → Store → Prop) : Fl → Store → Prop := fun f μ => match f with
  | .nx ρ => OkS (loop gd g S t ρ μ) Q
  | .ct ρ => OkS (loop gd g S t ρ μ) Q
  | .bk ρ => Q (.nx ρ) μ
  | .rt d => Q (.rt d) μ
  | .ex _ _ => False
theorem q_loop0 {gd : Store → Bool} {g : D → Rho → Option Rho} {S : SF} (hg : gd μ = true) (h : Qf (.nx ρ) μ) : OkS (loop gd g S [] ρ μ) Qf := by
  unfold loop
  rw [if_pos hg]
  exact h
theorem q_loopS {gd : Store → Bool} {g : D → Rho → Option Rho} {S : SF} {d : D} {t : List D} {ρ1 : Rho} (hg : gd μ = true) (e : g d ρ = some ρ1) (h : OkS (S ρ1 μ) (afterL gd g S t Qf)) : OkS (loop gd g S (d :: t) ρ μ) Qf := by
  unfold loop
  rw [if_pos hg, e]
  show OkS (match S ρ1 μ with
    | some (.nx ρ2, μ2) => loop gd g S t ρ2 μ2
    | some (.ct ρ2, μ2) => loop gd g S t ρ2 μ2
    | some (.bk ρ2, μ2) => some (.nx ρ2, μ2)
    | some (.rt d, μ2) => some (.rt d, μ2)
    | some (.ex x ρ2, μ2) => some (.ex x ρ2, μ2)
    | none => none) Qf
  generalize S ρ1 μ = r at h ⊢
  match r, h with
  | some (.nx ρ2, μ2), h => exact h
  | some (.ct ρ2, μ2), h => exact h
  | some (.bk ρ2, μ2), h => exact h
  | some (.rt d, μ2), h => exact h
theorem q_aftN {gd : Store → Bool} {g : D → Rho → Option Rho} {S : SF} {t : List D} : afterL gd g S t Qf (.nx ρ) μ = OkS (loop gd g S t ρ μ) Qf := rfl
theorem q_aftC {gd : Store → Bool} {g : D → Rho → Option Rho} {S : SF} {t : List D} : afterL gd g S t Qf (.ct ρ) μ = OkS (loop gd g S t ρ μ) Qf := rfl
theorem q_aftB {gd : Store → Bool} {g : D → Rho → Option Rho} {S : SF} {t : List D} : afterL gd g S t Qf (.bk ρ) μ = Qf (.nx ρ) μ := rfl
theorem q_aftR {gd : Store → Bool} {g : D → Rho → Option Rho} {S : SF} {t : List D} {d : D} : afterL gd g S t Qf (.rt d) μ = Qf (.rt d) μ := rfl
/-- a loop that always goes on and keeps what holds -/
theorem loop_inv {gd : Store → Bool} {g : D → Rho → Option Rho} {S : SF} {items : List D} (I : Rho → Store → Prop) (hgd : ∀ ρ μ, I ρ μ → gd μ = true)
    (hs : ∀ d ρ μ, d ∈ items → I ρ μ → ∃ ρ1, g d ρ = some ρ1 ∧ OkS (S ρ1 μ) (fun f μ2 => match f with | .nx ρ2 => I ρ2 μ2 | .ct ρ2 => I ρ2 μ2 | .bk ρ2 => Qf (.nx ρ2) μ2 | .rt d => Qf (.rt d) μ2 | .ex _ _ => False))
    (hd : ∀ ρ μ, I ρ μ → Qf (.nx ρ) μ) (h0 : I ρ μ) : OkS (loop gd g S items ρ μ) Qf :=
  loop_ok (fun _ ρ μ => I ρ μ) (fun _ => hgd) (fun i d ρ μ e h => hs d ρ μ (List.mem_of_getElem? e) h) hd h0
/-! ### texts as data -/
theorem toPys_strs : ∀ ys : List Str, toPys (ys.map D.str) = some (ys.map PyData.str)
  | [] => rfl
  | n :: r => by simp only [List.map_cons, toPys, toPy, toPys_strs r]
theorem canLay_strs : ∀ {ys : List Str}, ys.all PyData.strOk = true → PyData.canLayAll0 (ys.map PyData.str) = true
  | [], _ => rfl
  | n :: r, h => by
    rw [List.all_cons, Bool.and_eq_true] at h
    simp only [List.map_cons, PyData.canLayAll0, PyData.canLay0, canLay_strs h.2, h.1, Bool.and_self]
theorem depth_strs : ∀ ys : List Str, PyData.depthAll (ys.map PyData.str) = 0
  | [] => rfl
  | n :: r => by simp only [List.map_cons, PyData.depthAll, PyData.depth, depth_strs r, Nat.max_self]
theorem shaped_strs {ys : List Str} (h : ys.all PyData.strOk = true) : SeqAt.shaped (.list (ys.map PyData.str)) = true := by
  simp [SeqAt.shaped, PyData.canLay0, canLay_strs h, PyData.depth, depth_strs]
theorem shaped_strsT {ys : List Str} (h : ys.all PyData.strOk = true) : SeqAt.shaped (.tuple (ys.map PyData.str)) = true := by
  simp [SeqAt.shaped, PyData.canLay0, canLay_strs h, PyData.depth, depth_strs]
theorem shaped_str {x : Str} (h : PyData.strOk x = true) : SeqAt.shaped (.str x) = true := by
  simp [SeqAt.shaped, PyData.canLay0, h, PyData.depth]
theorem any_strs {x : Str} : ∀ ns : List Str, ((ns.map PyData.str).any fun z => PyData.eqv z (.str x)) = decide (x ∈ ns)
  | [] => by simp
  | n :: r => by
    rw [List.map_cons, List.any_cons, any_strs r]
    simp only [PyData.eqv, List.mem_cons]
    by_cases h : n = x
    · subst h; simp
    · have h' : ¬ x = n := fun e => h e.symm
      simp [h, h']
theorem f_inTS {ys : List Str} {x : Str} (hy : ys.all PyData.strOk = true) (hx : PyData.strOk x = true) : Fin false (.str x) (.tup (ys.map D.str)) μ = okR (.bl (decide (x ∈ ys))) μ := by
  unfold Fin
  simp only [toPyS, toPys_strs, Option.map_some, toPy]
  rw [if_pos ⟨shaped_str hx, shaped_strsT hy⟩, any_strs]
  rfl
theorem f_notinTS {ys : List Str} {x : Str} (hy : ys.all PyData.strOk = true) (hx : PyData.strOk x = true) : Fin true (.str x) (.tup (ys.map D.str)) μ = okR (.bl (!decide (x ∈ ys))) μ := by
  unfold Fin
  simp only [toPyS, toPys_strs, Option.map_some, toPy]
  rw [if_pos ⟨shaped_str hx, shaped_strsT hy⟩, any_strs]
  rfl
theorem f_inLS {ys : List Str} {x : Str} (hy : ys.all PyData.strOk = true) (hx : PyData.strOk x = true) : Fin false (.str x) (.lst (ys.map D.str)) μ = okR (.bl (decide (x ∈ ys))) μ := by
  unfold Fin
  simp only [toPyS, toPys_strs, Option.map_some, toPy]
  rw [if_pos ⟨shaped_str hx, shaped_strs hy⟩, any_strs]
  rfl
theorem f_tidx {ys : List Str} {z : Str} : FtIdx (.tup (ys.map D.str)) [.str z] μ = pureR ((idxS z ys).map fun j => .int (j : Nat)) μ := by
  unfold FtIdx
  simp only [strsD_map]
theorem noRef_strs : ∀ ys : List Str, noRefs 0 (ys.map D.str) = true
  | [] => rfl
  | y :: r => by simp only [List.map_cons, noRefs, noRef, noRef_strs r, Bool.and_true]
/-! ### two times the same text -/
theorem repr_ne {d e : D} {p : PyData} (h1 : toPyS μ d = some p) (h2 : toPyS μ e = some p) : toPyS μ d = toPyS μ e := by rw [h1, h2]
theorem f_repr {d : D} {p : PyData} (e : toPyS μ d = some p) (h : p.showable = true ∧ p.depth ≤ 64) (hl : p.shown.length ≤ sizeLine) : Frepr [d] μ = okR (.str p.shown) μ := by
  unfold Frepr
  simp only [e]
  rw [if_pos ⟨h, hl⟩]
end
end DM

namespace DM
open PySem PySem.Spec L2
/-! ### tuple(x), list(x) -/
def itemsD (μ : Store) : D → Option (List D)
  | .lst xs => some xs
  | .fl xs => some xs
  | .tup xs => some xs
  | .ref i => match μ[i]? with
    | some (.lst xs) => some xs
    | _ => none
  | _ => none
def Ftuple (ds : List D) (μ : Store) : Res D := match ds with
  | [d] => match itemsD μ d with
    | some xs => okR (.tup xs) μ
    | none => none
  | _ => none
def Flist (ds : List D) (μ : Store) : Res D := match ds with
  | [d] => match itemsD μ d with
    | some xs => okR (.lst xs) μ
    | none => none
  | _ => none
/-- list(x) as a cell -/
def FlistC (ds : List D) (μ : Store) : Res D := match ds with
  | [d] => match itemsD μ d with
    | some xs => okR (.ref μ.length) (μ ++ [.lst xs])
    | none => none
  | _ => none
def rTupleD (K : PySem.W.Frag) : List V → Hp → VK → Prop := fun xs H Q => ∃ p ys, xs = [.ref p] ∧ ((SqL K H p ys ∧ ∀ l o, H l = none → o.dict = none → Q (.ref l) (upd H l (.frz o (.tup ys)))) ∨ (SqT K H p ys ∧ Q (.ref p) H))
section
variable {X : Cx} {K : PySem.W.Frag}
theorem call_tupleD : CallR X (.type "tuple") (rTupleD X.K) := by
  intro pins s σ H xs us Q I r h
  obtain ⟨p, ys, rfl, h⟩ := h
  obtain ⟨u, rfl, rx⟩ := vals1 r
  cases rx
  rcases h with ⟨hq, q⟩ | ⟨hq, q⟩
  · obtain ⟨its, r', pl, hz⟩ := I.list hq
    have hlen := r'.length
    refine call_tuple_list pl.isList (fun h' kp => ?_) (by simp only [List.size_toArray] <;> omega)
    have I1 : Inv X pins σ H { s with heap := h' } := I.kept (t' := s.toks) kp
    exact ⟨.ref h'.objs.size, upd H h'.objs.size (.frz _ (.tup ys)), I1.laid (t' := s.toks) (fun b o e => Heap.get?_push_of_some _ e) (Nat.le_refl _) ⟨Heap.get?_push_size _ rfl, hz, its, r', PyProof.Rows.IsTup.new _ _⟩, rfl, q _ _ (I1.hok.fresh (Nat.le_refl _)) rfl⟩
  · obtain ⟨its, r', pl, hz⟩ := I.tuple hq
    exact call_tuple_same pl ⟨.ref p, H, I, rfl, q⟩
theorem itemsD_sq {ι : List Addr} {H : Hp} {μ : Store} {x : V} {d : D} {xs : List D} (w : WF K ι μ H) (v : VR K ι H x d) (h : itemsD μ d = some xs) : ∃ a vs, x = .ref a ∧ VRs K ι H vs xs ∧ (SqL K H a vs ∨ (SqT K H a vs ∧ TupAt K ι H a vs)) := by
  cases v with
  | lst hh r => cases h; exact ⟨_, _, rfl, r, .inl hh.sq⟩
  | fl hh r => cases h; exact ⟨_, _, rfl, r, .inl hh.sq⟩
  | tup hh r => cases h; exact ⟨_, _, rfl, r, .inr ⟨hh.sq, hh⟩⟩
  | ref hi =>
    obtain ⟨o, ho, ro⟩ := w.has hi
    simp only [itemsD, ho] at h
    cases o with
    | lst ys =>
      cases h
      obtain ⟨vs, ea, r⟩ := ro
      exact ⟨_, vs, rfl, r, .inl (.inl (.inl ea))⟩
    | _ => cases h
  | _ => simp [itemsD] at h
theorem lift_tuple : LiftA K (rTupleD K) Ftuple := by
  intro W σ ι μ H xs ds Q w v h
  unfold Ftuple at h
  split at h
  · obtain ⟨x, rfl, vx⟩ := v.one
    split at h
    · rename_i ys ey
      obtain ⟨a, vs, rfl, r, q | ⟨q, ta⟩⟩ := itemsD_sq w vx ey
      · refine ⟨a, vs, rfl, .inl ⟨q, fun l o hl ho => ?_⟩⟩
        exact h.ok (Le.laid hl) (w.laid hl) (.tup (.inl ⟨⟨o, upd_same, ho⟩, w.out hl⟩) (r.mono (Le.laid hl)))
      · exact ⟨a, vs, rfl, .inr ⟨q, h.ok0 w (.tup ta r)⟩⟩
    · exact h.elim
  · exact h.elim
def rListD (K : PySem.W.Frag) : List V → Hp → VK → Prop := fun xs H Q => ∃ p ys, xs = [.ref p] ∧ (SqL K H p ys ∨ SqT K H p ys) ∧ ∀ l, H l = none → Q (.ref l) (upd H l (.lst ys))
theorem call_listD' : CallR X (.type "list") (rListD X.K) := call_list_of
theorem lift_list : LiftA K (rListD K) Flist := by
  intro W σ ι μ H xs ds Q w v h
  unfold Flist at h
  split at h
  · obtain ⟨x, rfl, vx⟩ := v.one
    split at h
    · rename_i ys ey
      obtain ⟨a, vs, rfl, r, q⟩ := itemsD_sq w vx ey
      refine ⟨a, vs, rfl, q.elim .inl (fun z => .inr z.1), fun l hl => ?_⟩
      exact h.ok (Le.laid hl) (w.laid hl) (.lst ⟨upd_same, w.out hl⟩ (r.mono (Le.laid hl)))
    · exact h.elim
  · exact h.elim
theorem lift_listC : LiftA K (rListD K) FlistC := by
  intro W σ ι μ H xs ds Q w v h
  unfold FlistC at h
  split at h
  · obtain ⟨x, rfl, vx⟩ := v.one
    split at h
    · rename_i ys ey
      obtain ⟨a, vs, rfl, r, q⟩ := itemsD_sq w vx ey
      refine ⟨a, vs, rfl, q.elim .inl (fun z => .inr z.1), fun l hl => ?_⟩
      refine h.ok (Le.cell hl) (w.cell hl ⟨vs, upd_same, r.mono (Le.cell hl)⟩) (.ref ?_)
      rw [← w.len]; simp
    · exact h.elim
  · exact h.elim
end
/-! ### slices -/
def cutD {α : Type} (xs : List α) (lo hi : Option Int) : List α := (xs.drop (HT.sIx xs.length 0 lo)).take (HT.sIx xs.length xs.length hi - HT.sIx xs.length 0 lo)
def Fcut (d : D) (lo hi : Option Int) (μ : Store) : Res D := match d with
  | .str z => if z.length ≤ sizeLine then okR (.str (Txt.slice z lo hi)) μ else none
  | .tup xs => okR (.tup (cutD xs lo hi)) μ
  | d => match itemsL μ d with
    | some xs => okR (.lst (cutD xs lo hi)) μ
    | none => none
def oNone : CM (Option Int) := CM.ret none
def oSome (E : CM D) : CM (Option Int) := E.bind fun d _ μ => match d with
  | .int i => some (.ok (some i), μ)
  | _ => none
def eCut (E : CM D) (L U : CM (Option Int)) : CM D := E.bind fun d => L.bind fun l => U.bind fun u _ μ => Fcut d l u μ
def rSlTF (K : PySem.W.Frag) : V → Option Int → Option Int → Hp → VK → Prop := fun x lo hi H Q => ∃ a xs, x = .ref a ∧ SqT K H a xs ∧ (HT.sIx xs.length 0 lo = 0 ∧ HT.sIx xs.length xs.length hi = xs.length → Q (.ref a) H) ∧ (¬ (HT.sIx xs.length 0 lo = 0 ∧ HT.sIx xs.length xs.length hi = xs.length) → ∀ p o, H p = none → o.dict = none → Q (.ref p) (upd H p (.frz o (.tup (cutV xs lo hi)))))
def rCut (K : PySem.W.Frag) : V → Option Int → Option Int → Hp → VK → Prop := fun x lo hi H Q => C8.rSlX x lo hi H Q ∨ rSlTF K x lo hi H Q ∨ rSlL K x lo hi H Q
abbrev tO (K : PySem.W.Frag) (W : DW) (O : CM (Option Int)) : TO := tG (fun _ _ (x : Option Int) (d : Option Int) => x = d) K W O
section
variable {X : Cx} {K : PySem.W.Frag} {W : DW} {e : Expr} {E : CM D} {pos p2 : Pos} {lo hi : Option Expr} {L U : CM (Option Int)}
theorem sl_tupF : SlR X (rSlTF X.K) := by
  intro pins s σ H x v vl vu lo hi sl Q I rx hs pl pu h
  obtain ⟨a, xs, rfl, hx, q1, q2⟩ := h
  cases rx
  obtain ⟨its, r, ht, hz⟩ := I.tuple hx
  have hlen : its.toArray.size = xs.length := by rw [List.size_toArray]; exact r.length.symm
  refine ⟨"tuple", _, PyProof.Rows.slot_tuple_getitem.lookup, ht.typeIs, ?_⟩
  by_cases hw : HT.sIx xs.length 0 lo = 0 ∧ HT.sIx xs.length xs.length hi = xs.length
  · exact getItem_tuple_whole ht hs pl pu (by rw [hlen]; exact hw) ⟨.ref a, H, I, rfl, q1 hw⟩
  · refine HT.getItem_tuple_cut ht hs pl pu (by rw [hlen]; exact hw) ?_ (by rw [hlen]; exact hz)
    rw [hlen]
    refine ⟨.ref s.heap.objs.size, upd H s.heap.objs.size (.frz { cls := .type "tuple", data := .seq ((its.toArray.toList.drop (HT.sIx xs.length 0 lo)).take (HT.sIx xs.length xs.length hi - HT.sIx xs.length 0 lo)).toArray } (.tup (cutV xs lo hi))), I.laid (t' := s.toks) (fun b ob q => Heap.get?_push_of_some _ q) (Nat.le_refl _) ?_, rfl, q2 hw _ _ (I.hok.fresh (Nat.le_refl _)) rfl⟩
    exact ⟨Heap.get?_push_size _ rfl, Nat.le_trans (cutV_length xs lo hi) hz, _, (r.drop (HT.sIx xs.length 0 lo)).take (HT.sIx xs.length xs.length hi - HT.sIx xs.length 0 lo), PyProof.Rows.IsTup.new _ _⟩
theorem sl_cut : SlR X (rCut X.K) := C8.sl_txt.or (sl_tupF.or sl_list)
theorem VRs.cutR {ι : List Addr} {H : Hp} {vs : List V} {ds : List D} (r : VRs K ι H vs ds) (lo hi : Option Int) : VRs K ι H (cutV vs lo hi) (cutD ds lo hi) := by
  unfold cutV cutD
  rw [r.length]
  exact (r.drop _).take _
theorem PO.imp {e : Option Expr} {t t' : TO} (h : PO X e t) (q : ∀ σ H Q, t' σ H Q → t σ H Q) : PO X e t' := ⟨fun pins s σ H Q I z => h.run pins s σ H Q I (q σ H Q z)⟩
theorem po_n : PO X none (tO X.K W oNone) := PO.imp po_none fun σ H Q ⟨ρ, ι, μ, sr, wf, h⟩ => PostG.ok0 h wf rfl
theorem po_s (he : PE X e (tE X.K W E)) : PO X (some e) (tO X.K W (oSome E)) := PO.imp (po_some he) fun σ H Q ⟨ρ, ι, μ, sr, wf, h⟩ => by
  refine tG.mono (PostG.bind sr wf h) ?_
  rintro x H1 ⟨ι1, μ1, d, l1, w1, vx, h1⟩
  split at h1
  · cases vx
    exact ⟨_, rfl, PostG.ok0 h1 w1 rfl⟩
  · exact h1.elim
theorem lift_cut {σ : L2.St} {ι : List Addr} {μ : Store} {H : Hp} {x : V} {d : D} {lo hi : Option Int} {Q : VK} (w : WF K ι μ H) (vx : VR K ι H x d) (h : PostG (VR K) K W σ ι H Q (Fcut d lo hi μ)) : rCut K x lo hi H Q := by
  have lst : ∀ {xs : List D}, itemsL μ d = some xs → PostG (VR K) K W σ ι H Q (okR (.lst (cutD xs lo hi)) μ) → rCut K x lo hi H Q := by
    intro xs e h
    obtain ⟨a, vs, rfl, sq, r⟩ := itemsL_sq w vx e
    exact .inr (.inr ⟨a, vs, rfl, sq, fun p hp => h.ok (Le.laid hp) (w.laid hp) (.lst ⟨upd_same, w.out hp⟩ ((r.cutR lo hi).mono (Le.laid hp)))⟩)
  cases vx with
  | str z =>
    obtain ⟨q, h⟩ := PostG.guard h
    exact .inl ⟨z, rfl, q, h.ok0 w (.str _)⟩
  | @tup a vs ds hh r =>
    refine .inr (.inl ⟨_, _, rfl, hh.sq, fun z => ?_, fun _ p o hp ho => ?_⟩)
    · have e : cutD ds lo hi = ds := by
        unfold cutD
        rw [← r.length, z.1, z.2, List.drop_zero, Nat.sub_zero, r.length, List.take_length]
      have h : PostG (VR K) K W σ ι H Q (okR (.tup (cutD ds lo hi)) μ) := h
      rw [e] at h
      exact h.ok0 w (.tup hh r)
    · exact PostG.ok h (Le.laid hp) (w.laid hp) (.tup (.inl ⟨⟨o, upd_same, ho⟩, w.out hp⟩) ((r.cutR lo hi).mono (Le.laid hp)))
  | lst hh r => exact lst rfl h
  | fl hh r => exact lst rfl h
  | ref hi' =>
    have h : PostG (VR K) K W σ ι H Q (match itemsL μ (.ref _) with | some xs => okR (.lst (cutD xs lo hi)) μ | none => none) := h
    split at h
    · rename_i xs e; exact lst e h
    · exact h.elim
  | _ => exact h.elim
theorem d_cut (he : PE X e (tE X.K W E)) (hl : PO X lo (tO X.K W L)) (hu : PO X hi (tO X.K W U)) : PE X (.Subscript e (.Slice lo hi none p2) pos) (tE X.K W (eCut E L U)) := (pe_slice sl_cut he hl hu).imp fun σ H Q ⟨ρ, ι, μ, sr, wf, h⟩ => by
  refine tG.mono (PostG.bind sr wf h) ?_
  rintro x H1 ⟨ι1, μ1, d, l1, w1, vx, h1⟩
  refine tG.mono (PostG.bind (sr.mono l1) w1 h1) ?_
  rintro l H2 ⟨ι2, μ2, l', l2, w2, rfl, h2⟩
  refine tG.mono (PostG.bind ((sr.mono l1).mono l2) w2 h2) ?_
  rintro u H3 ⟨ι3, μ3, u', l3, w3, rfl, h3⟩
  exact lift_cut w3 ((vx.mono l2).mono l3) h3
end
end DM

namespace DM
open PySem PySem.Spec L2
/-! ### while -/
def whileN (T : CM Bool) (S : SF) : Nat → SF
  | 0 => fun _ _ => none
  | n + 1 => lft T fun b => if b then (fun ρ μ => match S ρ μ with
      | some (.nx ρ2, μ2) => whileN T S n ρ2 μ2
      | some (.ct ρ2, μ2) => whileN T S n ρ2 μ2
      | some (.bk ρ2, μ2) => some (.nx ρ2, μ2)
      | some (.rt d, μ2) => some (.rt d, μ2)
      | some (.ex x ρ2, μ2) => some (.ex x ρ2, μ2)
      | none => none) else sNil
theorem ds_while {X : Cx} {W : DW} {c : Expr} {body : List Stmt} {T : CM Bool} {S : SF} {pos : Pos} (n : Nat) (hp : PassesOwn (model X.prog X.w) X.A X.env X.xe) (hc : PT X c (tT X.K W T)) (hb : PSs X body (sD X.K W S)) : PS X (.While c body [] pos) (sD X.K W (whileN T S n)) :=
  (ps_while hp hc hb).imp fun D σ H ⟨ρ, ι, μ, sr, wf, h⟩ => by
    refine ⟨fun m σ H => ∃ ρ ι μ, SR X.K ι H σ ρ ∧ WF X.K ι μ H ∧ PostS X.K W D ι H (whileN T S m ρ μ), ⟨n, ρ, ι, μ, sr, wf, h⟩, ?_⟩
    rintro m σ1 H1 ⟨ρ1, ι1, μ1, sr1, wf1, h1⟩
    cases m with
    | zero => exact h1.elim
    | succ m =>
      refine tG.mono (PostS.bind sr1 wf1 h1) ?_
      rintro k H2 ⟨ι2, μ2, d, l2, w2, rfl, h2⟩
      cases k with
      | false => exact h2.nx0 w2 (sr1.mono l2)
      | true =>
        refine ⟨fun σ' H' => ∃ ρ ι μ, SR X.K ι H' σ' ρ ∧ WF X.K ι μ H' ∧ PostS X.K W D ι H' (whileN T S m ρ μ), fun σ' H' q => ⟨m, Nat.lt_succ_self m, q⟩, ρ1, ι2, μ2, sr1.mono l2, w2, ?_⟩
        have h2 : PostS X.K W D ι2 H2 (match S ρ1 μ2 with
          | some (.nx ρ2, μ2) => whileN T S m ρ2 μ2
          | some (.ct ρ2, μ2) => whileN T S m ρ2 μ2
          | some (.bk ρ2, μ2) => some (.nx ρ2, μ2)
          | some (.rt d, μ2) => some (.rt d, μ2)
          | some (.ex x ρ2, μ2) => some (.ex x ρ2, μ2)
          | none => none) := h2
        match S ρ1 μ2, h2 with
        | some (.nx ρ4, μ4), h3 => exact fun σ4 ι4 H4 l w s => ⟨ρ4, ι4, μ4, s, w, PostS.from l h3⟩
        | some (.ct ρ4, μ4), h3 => exact fun σ4 ι4 H4 l w s => ⟨ρ4, ι4, μ4, s, w, PostS.from l h3⟩
        | some (.bk ρ4, μ4), h3 => exact h3
        | some (.rt d, μ4), h3 => exact h3
        | some (.ex x ρ4, μ4), h3 => exact h3
theorem while_ok {T : CM Bool} {S : SF} {n m : Nat} {ρ : Rho} {μ : Store} {Q : Fl → Store → Prop} (I : Nat → Rho → Store → Prop)
    (hs : ∀ m ρ μ, I m ρ μ → Ok (T ρ μ) (fun b μ1 => if b = true then OkS (S ρ μ1) (fun f μ2 => match f with | .nx ρ2 => ∃ m', m' < m ∧ I m' ρ2 μ2 | .ct ρ2 => ∃ m', m' < m ∧ I m' ρ2 μ2 | .bk ρ2 => Q (.nx ρ2) μ2 | .rt d => Q (.rt d) μ2 | .ex _ _ => False) else Q (.nx ρ) μ1))
    (h0 : I m ρ μ) (hm : m < n) : OkS (whileN T S n ρ μ) Q := by
  induction n generalizing m ρ μ with
  | zero => omega
  | succ n ih =>
    refine OkS_lft ((hs m ρ μ h0).mono fun b μ1 hb => ?_)
    cases b with
    | false => exact hb
    | true =>
      have hb : OkS (S ρ μ1) _ := hb
      show OkS (match S ρ μ1 with
        | some (.nx ρ2, μ2) => whileN T S n ρ2 μ2
        | some (.ct ρ2, μ2) => whileN T S n ρ2 μ2
        | some (.bk ρ2, μ2) => some (.nx ρ2, μ2)
        | some (.rt d, μ2) => some (.rt d, μ2)
        | some (.ex x ρ2, μ2) => some (.ex x ρ2, μ2)
        | none => none) Q
      generalize S ρ μ1 = r at hb ⊢
      match r, hb with
      | some (.nx ρ2, μ2), ⟨m', h1, h2⟩ => exact ih h2 (by omega)
      | some (.ct ρ2, μ2), ⟨m', h1, h2⟩ => exact ih h2 (by omega)
      | some (.bk ρ2, μ2), h => exact h
      | some (.rt d, μ2), h => exact h
/-! ### calls with keywords -/
def pick {α : Type} (idx : List Nat) (xs : List α) : List α := idx.filterMap (xs[·]?)
theorem pick_vals {idx : List Nat} {vs : List V} {us : List Value} (r : Vals vs us) : Vals (pick idx vs) (pick idx us) := by
  induction idx with
  | nil => exact .nil
  | cons i t ih =>
    unfold pick at ih ⊢
    rw [List.filterMap_cons, List.filterMap_cons]
    cases e : vs[i]? with
    | none =>
      have : us[i]? = none := by
        rw [List.getElem?_eq_none_iff] at e ⊢
        rw [← r.length]; exact e
      rw [this]
      exact ih
    | some v =>
      obtain ⟨u, hu, ru⟩ := r.get e
      rw [hu]
      exact .cons ru ih
theorem pick_vrs {K : PySem.W.Frag} {ι : List Addr} {H : Hp} {idx : List Nat} {vs : List V} {ds : List D} (r : VRs K ι H vs ds) : VRs K ι H (pick idx vs) (pick idx ds) := by
  induction idx with
  | nil => exact .nil
  | cons i t ih =>
    unfold pick at ih ⊢
    rw [List.filterMap_cons, List.filterMap_cons]
    cases e : ds[i]? with
    | none =>
      have : vs[i]? = none := by
        rw [List.getElem?_eq_none_iff] at e ⊢
        rw [r.length]; exact e
      rw [this]
      exact ih
    | some d =>
      obtain ⟨v, hv, rv⟩ := r.get e
      rw [hv]
      exact .cons rv ih
def eCallK (F : FD) (idx : List Nat) (n m : Nat) (A B : CM (List D)) : CM D := A.bind fun ds => B.bind fun es _ μ => if ds.length = n ∧ es.length = m then F (pick idx (ds ++ es)) μ else none
/-- a def as a call with n values and these keywords reaches it -/
structure KnK (P : Program) (w : World) (K : PySem.W.Frag) (mg : Str → Option Value) (base : Heap) (k : Nat) (x : Str) (ps : List Str) (F : FD) (n : Nat) (ks : List Str) (idx : List Nat) : Prop where
  ex : ∃ f fd, FnG P w K mg base noXR k f fd ps F ∧ mg x = some (.ref f) ∧ PySem.W.keepIn K (.ref f) = true ∧ (∀ (s : Shared) (us ws : List Value), us.length = n → ws.length = ks.length → BindsTo s fd ⟨us, ks.zip ws⟩ (ps.zip (pick idx (us ++ ws)))) ∧ ∀ ds μ, F ds μ ≠ none → ds.length = ps.length
theorem FunD.bindsKw {K : PySem.W.Frag} {x qual : Str} {params : Arguments} {body : List Stmt} {scope : Scope} {kws : List (Str × V)} {f : Addr} {fd : FuncData} {ps ks : List Str} {n : Nat} {idx : List Nat} (F : FunD K x qual params body scope [] kws f fd)
    (h : ∀ (kV doc pm : Value) (an : Option Addr) (cdv ct : Value) (us ws : List Value), us.length = n → ws.length = ks.length → bindArgs (PySem.W.fnOf x qual params body scope .none kV doc pm an cdv ct) ⟨us, ks.zip ws⟩ = pure (ps.zip (pick idx (us ++ ws)))) (s : Shared) (us ws : List Value) (l1 : us.length = n) (l2 : ws.length = ks.length) : BindsTo s fd ⟨us, ks.zip ws⟩ (ps.zip (pick idx (us ++ ws))) := by
  obtain ⟨oc, od, dV, kV, doc, pm, an, cdv, ct, osl, rfl, lk, hcd, hD, hK⟩ := F.ex
  rcases hD with ⟨_, rfl⟩ | ⟨e, _⟩
  · exact .of_eq (h kV doc pm an cdv ct us ws l1 l2)
  · exact absurd rfl e
section
variable {X : Cx} {W : DW} {k j n : Nat} {ps ks : List Str} {F : FD} {x : Str} {p pos : Pos} {e : Expr} {es : List Expr} {kws : List Keyword} {As Bs : CM (List D)} {idx : List Nat}
theorem runGK {pins : List (Addr × Obj)} {σ : L2.St} {H : Hp} {s : Shared} {Q : VK} {us ws : List Value} {vs zs : List V} {ι : List Addr} {μ : Store} {ds es : List D} {f : Addr} {fd : FuncData} (G : FnG X.prog X.w X.K X.mg X.base noXR k f fd ps F) (hr : Room k X.A) (hG : X.A.guards = some []) (hb : ∀ (s : Shared) (us ws : List Value), us.length = n → ws.length = ks.length → BindsTo s fd ⟨us, ks.zip ws⟩ (ps.zip (pick idx (us ++ ws)))) (hlen : ∀ ds μ, F ds μ ≠ none → ds.length = ps.length) (hW : ∀ x ι σ H, W x ι σ H → False)
    (I : Inv X pins σ H s) (r : Vals vs us) (rz : Vals zs ws) (wf : WF X.K ι μ H) (vr : VRs X.K ι H vs ds) (vz : VRs X.K ι H zs es) (l1 : ds.length = n) (l2 : es.length = ks.length) (h : PostG (VR X.K) X.K W σ ι H Q (F (pick idx (ds ++ es)) μ)) : wpAny (model X.prog X.w) X.A (call (.ref f) us (ks.zip ws)) (EP X pins σ Q) X.xe s := by
  have rr : Vals (pick idx (vs ++ zs)) (pick idx (us ++ ws)) := pick_vals (r.append rz)
  have vv : VRs X.K ι H (pick idx (vs ++ zs)) (pick idx (ds ++ es)) := pick_vrs (vr.append vz)
  have nn : F (pick idx (ds ++ es)) μ ≠ none := fun z => by rw [z] at h; exact h
  have hl : (pick idx (vs ++ zs)).length = ps.length := by rw [vv.length]; exact hlen _ _ nn
  have post : PostF X.K noXR ι H Q E0 (F (pick idx (ds ++ es)) μ) := by
    match F (pick idx (ds ++ es)) μ, h with
    | some (.ok _, _), h => exact h
    | some (.error x, _), h => exact fun ι' H' c dd l w _ => hW _ _ _ _ (h ι' H' l w)
  refine wpAny_call (codeAny_mono (G.go hr hG I.env0 (hb s us ws (by rw [← r.length, vr.length]; exact l1) (by rw [← rz.length, vz.length]; exact l2)) rr hl wf vv post) (fun r s' q => ?_))
  cases r with
  | error z => exact passL pins σ H s z s' I q
  | ok fl =>
    cases fl with
    | ret u => exact I.after q
    | next => exact q.elim
    | brk => exact q.elim
    | cont => exact q.elim
theorem dk_nil : PK X [] (tA X.K W aNil) := ⟨fun pos pins s σ H Q I ⟨ρ, ι, μ, sr, wf, h⟩ => pk_nil.run pos pins s σ H Q I (PostG.ok0 h wf .nil)⟩
theorem dk_cons {nm : Option Str} {kpos : Pos} {A : CM D} (ha : PE X e (tE X.K W A)) (hr : PK X kws (tA X.K W As)) : PK X (⟨nm, e, kpos⟩ :: kws) (tA X.K W (aCons A As)) := ⟨fun pos pins s σ H Q I ⟨ρ, ι, μ, sr, wf, h⟩ => (pk_cons ha hr).run pos pins s σ H Q I (by
    refine tG.mono (PostG.bind sr wf h) ?_
    rintro x H1 ⟨ι1, μ1, d, l1, w1, vx, h1⟩
    refine tG.mono (PostG.bind (sr.mono l1) w1 h1) ?_
    rintro xs H2 ⟨ι2, μ2, ds, l2, w2, vxs, h2⟩
    exact PostG.ok0 h2 w2 (.cons (vx.mono l2) vxs))⟩
theorem d_fnK {m : Nat} (h : KnK X.prog X.w X.K X.mg X.base j x ps F n ks idx) (hr : Room k X.A) (hjk : j ≤ k) (hG : X.A.guards = some []) (hg : Gl X x) (hmk : ks.length = m) (ha : PA X (e :: es) (tA X.K W As)) (hkw : PK X kws (tA X.K W Bs)) (hW : ∀ x ι σ H, W x ι σ H → False)
    (hall : (backToKw pos (keywordEach kws X.env)).all (·.1.isSome) = true := by rfl) (hks : (backToKw pos (keywordEach kws X.env)).filterMap (·.1) = ks := by rfl) (hdb : (x == ("__debug__" : Str)) = false := by decide)
    (he : starEach (e :: es) X.env = (false, eval e X.env) :: starEach es X.env := by rfl) (hpl : ((backTo pos (starEach (e :: es) X.env)).any (·.1) || (backToKw pos (keywordEach kws X.env)).any (·.1.isNone)) = false := by rfl) :
    PE X (.Call (.Name x p) (e :: es) kws pos) (tE X.K W (eCallK F idx n m As Bs)) := by
  subst hmk
  obtain ⟨f, fd, G, hm, hk, hb, hl⟩ := h.ex
  refine ⟨fun pins s σ H Q I ⟨ρ, ι, μ, sr, wf, h⟩ => ?_⟩
  refine wpAny_Call_Name_kw (ld_glob I hg hm ?_ hdb)
  refine PySem.W.callWith_KW (h₀ := X.base) I.ok.mod.kin hk hall (thn (ha.run pos pins s σ H _ I (PostG.bind sr wf h)) ?_) hpl he
  rintro us s1 ⟨vs, H1, I1, r, ι1, μ1, ds, l1, w1, v1, h1⟩
  refine thn (hkw.run pos pins s1 σ H1 _ I1 (PostG.bind (sr.mono l1) w1 h1)) ?_
  rintro ws s2 ⟨zs, H2, I2, rz, ι2, μ2, es', l2, w2, v2, h2⟩
  obtain ⟨⟨q1, q2⟩, h2⟩ := PostG.guard h2
  rw [hks]
  exact ⟨I2.kIn, runGK G (hr.mono hjk) hG hb hl hW I2 r rz w2 (v1.mono l2) v2 q1 q2 h2⟩
theorem d_fnK0 {m : Nat} (h : KnK X.prog X.w X.K X.mg X.base j x ps F 0 ks idx) (hr : Room k X.A) (hjk : j ≤ k) (hG : X.A.guards = some []) (hg : Gl X x) (hmk : ks.length = m) (hkw : PK X kws (tA X.K W Bs)) (hW : ∀ x ι σ H, W x ι σ H → False)
    (hall : (backToKw pos (keywordEach kws X.env)).all (·.1.isSome) = true := by rfl) (hks : (backToKw pos (keywordEach kws X.env)).filterMap (·.1) = ks := by rfl) (hdb : (x == ("__debug__" : Str)) = false := by decide)
    (hpl : ((backTo pos (starEach [] X.env)).any (·.1) || (backToKw pos (keywordEach kws X.env)).any (·.1.isNone)) = false := by rfl) :
    PE X (.Call (.Name x p) [] kws pos) (tE X.K W (eCallK F idx 0 m aNil Bs)) := by
  subst hmk
  obtain ⟨f, fd, G, hm, hk, hb, hl⟩ := h.ex
  refine ⟨fun pins s σ H Q I ⟨ρ, ι, μ, sr, wf, h⟩ => ?_⟩
  refine wpAny_Call_Name_kw (ld_glob I hg hm ?_ hdb)
  refine PySem.W.callWith_KW0 (h₀ := X.base) I.ok.mod.kin hk hall (thn (hkw.run pos pins s σ H _ I (PostG.bind sr wf (show PostG (VR X.K) X.K W σ ι H Q ((Bs.bind fun es _ μ => if (([] : List D).length = 0 ∧ es.length = ks.length) then F (pick idx ([] ++ es)) μ else none) ρ μ) from h))) ?_) hpl
  rintro ws s2 ⟨zs, H2, I2, rz, ι2, μ2, es', l2, w2, v2, h2⟩
  obtain ⟨⟨q1, q2⟩, h2⟩ := PostG.guard h2
  rw [hks]
  exact ⟨I2.kIn, runGK (us := []) (vs := []) (ds := []) G (hr.mono hjk) hG hb hl hW I2 .nil rz w2 .nil v2 rfl q2 h2⟩
end
/-! running -/
section
variable {ρ : Rho} {μ : Store} {Q : D → Store → Prop} {As Bs : CM (List D)} {A : CM D} {L U : CM (Option Int)} {Qf : Fl → Store → Prop}
theorem q_callK {F : FD} {idx : List Nat} {n m : Nat} : Ok (eCallK F idx n m As Bs ρ μ) Q = Ok (As ρ μ) (fun ds μ1 => Ok (Bs ρ μ1) (fun es μ2 => (ds.length = n ∧ es.length = m) ∧ Ok (F (pick idx (ds ++ es)) μ2) Q)) := by
  unfold eCallK
  rw [Ok_bind]
  congr 1
  funext ds μ1
  rw [Ok_bind]
  congr 1
  funext es μ2
  exact q_if
theorem q_oN {R : Option Int → Store → Prop} : Ok (oNone ρ μ) R = R none μ := rfl
def intAt (d : D) (k : Int → Prop) : Prop := match d with
  | .int i => k i
  | _ => False
theorem q_intAt {i : Int} {k : Int → Prop} : intAt (.int i) k = k i := rfl
theorem q_oS {R : Option Int → Store → Prop} : Ok (oSome A ρ μ) R = Ok (A ρ μ) (fun d μ1 => intAt d (fun i => R (some i) μ1)) := by
  unfold oSome
  rw [Ok_bind]
  congr 1
  funext d μ1
  cases d <;> rfl
theorem q_cut : Ok (eCut A L U ρ μ) Q = Ok (A ρ μ) (fun d μ1 => Ok (L ρ μ1) (fun l μ2 => Ok (U ρ μ2) (fun u μ3 => Ok (Fcut d l u μ3) Q))) := by
  unfold eCut
  rw [Ok_bind]
  congr 1
  funext d μ1
  rw [Ok_bind]
  congr 1
  funext l μ2
  exact Ok_bind
theorem f_tupL {xs : List D} : Ftuple [.lst xs] μ = okR (.tup xs) μ := rfl
theorem f_tupT {xs : List D} : Ftuple [.tup xs] μ = okR (.tup xs) μ := rfl
theorem f_tupR {c : Nat} {xs : List D} (h : μ[c]? = some (.lst xs)) : Ftuple [.ref c] μ = okR (.tup xs) μ := by
  unfold Ftuple
  simp only [itemsD, h]
theorem f_listL {xs : List D} : Flist [.lst xs] μ = okR (.lst xs) μ := rfl
theorem f_listT {xs : List D} : Flist [.tup xs] μ = okR (.lst xs) μ := rfl
theorem f_listCL {xs : List D} : FlistC [.lst xs] μ = okR (.ref μ.length) (μ ++ [.lst xs]) := rfl
theorem f_listCT {xs : List D} : FlistC [.tup xs] μ = okR (.ref μ.length) (μ ++ [.lst xs]) := rfl
theorem f_cutT {xs : List D} {l u : Option Int} : Fcut (.tup xs) l u μ = okR (.tup (cutD xs l u)) μ := rfl
theorem f_cutL {xs : List D} {l u : Option Int} : Fcut (.lst xs) l u μ = okR (.lst (cutD xs l u)) μ := rfl
end
end DM

namespace DM
open PySem PySem.Spec L2
local macro_rules | `(tactic| walk_at "q") => `(tactic| try simp only [q_ok, q_okR, q_if, q_C, q_ret, q_var, q_at, q_e1, q_e2, q_call, q_callB, q_nil, q_cons, q_tup, q_lst, q_cel, q_ifexp, q_blAt, q_bOf, q_bTru, q_bAnd, q_bOr, q_bNot, q_vAnd, q_vOr, q_vNot, q_chain, q_pureS, at0, at1, at2, q_iseq, q_seqL, q_seqF, q_rg1, q_rg2, q_itup, q_tupAt, q_iany, q_anyL, q_anyF, q_anyT, q_anyS, q_meth, q_p2, q_p3, q_unpT, q_setA, q_setA0, q_rhoAt, q_contR, q_contB, q_contC, q_callK, q_oN, q_oS, q_intAt, q_cut, f_tupL, f_tupT, f_listL, f_listT, f_listCL, f_listCT, f_cutT, f_cutL, q_aftN, q_aftC, q_aftB, q_aftR,
  f_add, f_sub, f_mul, f_div, f_mod, f_pow, f_neg, f_cmp, f_abs, f_intI, f_intB, f_max, f_min, f_lenL, f_lenF, f_lenT, f_ixL, f_ixF, f_ixT, f_eqI, f_neI, f_eqB, f_neB, f_eqT, f_neT, f_isB, f_isnotB, f_truB, f_truI, f_repr0, startR, wipeR, List.map_cons, List.map_nil, List.length_cons, List.length_nil, List.cons_append, List.nil_append, List.append_nil, List.getElem?_cons_zero, List.getElem?_cons_succ, List.set_cons_zero, List.set_cons_succ, List.replicate_succ, List.replicate_zero, Nat.reduceAdd, Nat.reduceSub, Int.reduceToNat, Int.reducePow])
local macro_rules | `(tactic| walk_at "go") => `(tactic| repeat (first | rw [q_cont] | rw [q_seq] | rw [q_snil] | ((with_reducible refine q_asg ?_); walk_at "q") | ((with_reducible refine q_sret ?_); walk_at "q") | ((with_reducible refine q_spar2 ?_); walk_at "q") | ((with_reducible refine q_spar3 ?_); walk_at "q") | ((with_reducible refine q_sunp ?_); walk_at "q") | ((with_reducible refine q_drop ?_); walk_at "q") | ((with_reducible refine q_sif ?_); walk_at "q") | ((with_reducible refine q_for ?_); walk_at "q")))
local macro_rules | `(tactic| walk_at "g1") => `(tactic| repeat (first | rw [q_cont] | rw [q_seq] | rw [q_snil] | ((with_reducible refine q_asg ?_); walk_at "q") | ((with_reducible refine q_sret ?_); walk_at "q") | ((with_reducible refine q_spar2 ?_); walk_at "q") | ((with_reducible refine q_spar3 ?_); walk_at "q") | ((with_reducible refine q_sunp ?_); walk_at "q") | ((with_reducible refine q_drop ?_); walk_at "q") | ((with_reducible refine q_for ?_); walk_at "q")))
/-! ### the pool beside further cells -/
theorem Wd.peel {p : Nat} {c c' : Int} {ν μ2 : Store} {o : Ob} (h : Wd p c ν) (w : Wd p c' μ2) (f : Fr p (ν ++ [o]) μ2) : ∃ ν', μ2 = ν' ++ [o] ∧ Wd p c' ν' ∧ Fr p ν ν' := by
  have hl := h.lt
  have l2 : μ2.length = ν.length + 1 := by rw [f.len]; simp
  have e2 : μ2[ν.length]? = some o := by rw [f.eq _ (by omega)]; simp
  have e := take_last l2 e2
  refine ⟨μ2.take ν.length, e, ?_, ?_⟩
  · obtain ⟨⟨a, b, c0, eq, q⟩, hp⟩ := w
    exact ⟨⟨a, b, c0, by rw [List.getElem?_take_of_lt hl]; exact eq, q⟩, hp.take _⟩
  · refine ⟨by rw [List.length_take]; omega, fun j hj => ?_⟩
    by_cases hjl : j < ν.length
    · rw [List.getElem?_take_of_lt hjl, f.eq j hj, List.getElem?_append_left hjl]
    · rw [List.getElem?_eq_none (by rw [List.length_take]; omega), List.getElem?_eq_none (by omega)]
section
variable {F : FD} {ρ : Rho} {μ μ0 : Store} {Q : D → Store → Prop} {p : Nat} {c : Int}
/-- a draw beside cells of the def's own -/
theorem DrawOk.y (hF : DrawOk F) {n : Int} (h : Wy μ0 p c μ) (hc : c < 2 ^ 20) (h0 : 0 < n) (h1 : n < 2 ^ 200) : Ok (F [.ref p, .int n] μ) (fun d μ' => ∃ r, d = .int r ∧ 0 ≤ r ∧ r < n ∧ Wy μ0 p (c + 1) μ' ∧ Fr p μ μ') :=
  (hF h.wd hc h0 h1).mono fun d μ' ⟨r, e, a, b, w, f⟩ => ⟨r, e, a, b, h.step w f, f⟩
/-- [x for x in xs if draw(share) == 0] -/
theorem some_ok (hF : DrawOk F) {I : CM IV} {xs : List D} {i j y : Nat} {n : Int} (hx : Wx μ0 p c μ) (hc : c + Int.ofNat xs.length < 2 ^ 20) (h0 : 0 < n) (h1 : n < 2 ^ 200) (hl : xs.length ≤ 100000) (hp : noRefs 0 xs = true)
    (hI : Ok (I ρ μ) (fun q μ1 => q = (xs, anyG) ∧ μ1 = μ)) (e0 : (wipeR ρ [y])[i]? = some (some (.ref p))) (e1 : (wipeR ρ [y])[j]? = some (some (.int n))) (hi : i ≠ y) (hj : j ≠ y) (hy : y < ρ.length)
    (q : ∀ ys μ', ys.Sublist xs → Wx μ0 p (c + Int.ofNat xs.length) μ' → Q (.lst ys) μ') :
    Ok (eSeal (eLC I (fName y) (bOf (e2 (Feq false) (eCall F (aCons (eVar i) (aCons (eVar j) aNil)) []) (eC (.int 0)))) (eVar y) [y]) ρ μ) Q := by
  refine q_lc (hI.mono ?_)
  rintro _ μ1 ⟨rfl, rfl⟩
  have hwl : (wipeR ρ [y]).length = ρ.length := by simp [wipeR]
  refine lc_ok (acc := []) (fun k acc μ' => ∃ ν : Store, μ' = ν ++ [.lst acc] ∧ Wx μ0 p (c + Int.ofNat k) ν ∧ ν.length = μ1.length ∧ acc.Sublist (xs.take k)) (fun _ _ _ _ => rfl) ?_ ?_ ⟨μ1, rfl, hx.mono (by simp), rfl, by simp⟩
  · rintro k d acc μ' ed ⟨ν, rfl, xν, lν, sub⟩
    have hk : k < xs.length := (List.getElem?_eq_some_iff.mp ed).1
    have hacc : noRefs 0 acc = true := noRefs_all.mpr fun z hz => noRefs_all.mp hp z (List.mem_of_mem_take (sub.subset hz))
    refine ⟨_, rfl, ?_⟩
    rw [q_bOf, q_e2, q_call, q_cons, q_var, List.getElem?_set_ne (Ne.symm hi), e0, q_at, q_cons, q_var, List.getElem?_set_ne (Ne.symm hj), e1, q_at, q_nil]
    have hci : c + Int.ofNat k < 2 ^ 20 := by simp only [Int.ofNat_eq_natCast] at hc ⊢; omega
    refine (hF (xν.wd.app (o := .lst acc) hacc) hci h0 h1).mono ?_
    rintro d2 μ2 ⟨r, rfl, _, _, w2, f2⟩
    obtain ⟨ν', rfl, w', f'⟩ := xν.wd.peel w2 f2
    have hck : c + Int.ofNat k + 1 = c + Int.ofNat (k + 1) := by simp only [Int.ofNat_eq_natCast]; omega
    rw [hck] at w'
    have x' : Wx μ0 p (c + Int.ofNat (k + 1)) ν' := ⟨w', xν.fr.trans f'⟩
    have l' : ν'.length = μ1.length := f'.len.trans lν
    rw [q_C, f_eqI, q_okR, q_blAt]
    have htk : xs.take (k + 1) = xs.take k ++ [d] := by
      rw [List.take_add_one, ed]; rfl
    refine ⟨fun _ => ?_, fun _ => ⟨ν', rfl, x', l', by rw [htk]; exact sub.trans (List.sublist_append_left _ _)⟩⟩
    rw [q_var, List.getElem?_set_self (by rw [hwl]; exact hy), q_at]
    have lacc : acc.length ≤ k := by
      have := sub.length_le
      rw [List.length_take] at this
      omega
    refine ⟨by rw [← l']; simp, Nat.lt_of_lt_of_le (show acc.length < 1000000 by omega) (size_ok (Nat.le_refl _)), ν', ?_, x', l', ?_⟩
    · rw [List.set_append_right _ _ (by omega), l']; simp
    · rw [htk]; exact sub.append (List.Sublist.refl _)
  · rintro acc μ' ⟨ν, rfl, xν, lν, sub⟩
    rw [List.take_length] at sub
    have hacc : noRefs 0 acc = true := noRefs_all.mpr fun z hz => noRefs_all.mp hp z (sub.subset hz)
    have tk : (ν ++ [Ob.lst acc]).take μ1.length = ν := by rw [← lν]; simp
    rw [tk]
    exact ⟨xν.wd.pure, _, unref_cell (ds := acc) (by rw [← lν]; simp) (Nat.le_refl _) hacc, q acc ν sub xν⟩
end
/-! ### drawing all of some texts in any order -/
def mixedF (F : FD) : FD := fnSeal (fnP 4 2 (sSeq (sPar2 2 3 (aCons (eCallB FlistC (aCons (eVar 1) aNil)) (aCons (eCel aNil) aNil))) (sSeq (whileN (bOf (e2 (Feq true) (eVar 2) (eLst aNil))) (sDrop (eMeth isList Fapp (eVar 3) (aCons (eMeth isList FpopAt (eVar 2) (aCons (eCall F (aCons (eVar 0) (aCons (eCallB Flen (aCons (eVar 2) aNil)) aNil)) []) aNil)) aNil))) 1000000) (sRet (eVar 3)))))
theorem f_lenR {c : Nat} {xs : List D} {μ : Store} (h : μ[c]? = some (.lst xs)) : Flen [.ref c] μ = okR (.int xs.length) μ := by
  unfold Flen
  simp only [h]
theorem eqvAll_nil : ∀ ps : List PyData, PyData.eqvAll ps [] = ps.isEmpty
  | [] => rfl
  | _ :: _ => rfl
theorem f_neNil {c : Nat} {ss : List Str} {μ : Store} (h : μ[c]? = some (.lst (ss.map D.str))) (hs : ss.all PyData.strOk = true) : Feq true (.ref c) (.lst []) μ = okR (.bl (!ss.isEmpty)) μ := by
  show (match toPyS μ (.ref c), toPyS μ (.lst []) with
    | some p, some q => if SeqAt.shaped p = true ∧ SeqAt.shaped q = true then okR (.bl (if true = true then !PyData.eqv p q else PyData.eqv p q)) μ else none
    | _, _ => none) = _
  simp only [toPyS, h, toPys_strs, toPys, toPy, Option.map_some]
  rw [if_pos ⟨shaped_strs hs, by decide⟩]
  simp only [PyData.eqv, eqvAll_nil, List.isEmpty_map, if_true]
theorem f_popAt {c k : Nat} {xs : List D} {y : D} {μ : Store} (h : μ[c]? = some (.lst xs)) (hk : xs[k]? = some y) (hl : xs.length ≤ 1000000) : FpopAt (.ref c) [.int (Int.ofNat k)] μ = okR y (μ.set c (.lst (xs.eraseIdx k))) := by
  have hlt := (List.getElem?_eq_some_iff.mp hk).1
  have hs : seqIndex? (Int.ofNat k) xs.length = some k := by
    unfold seqIndex?
    simp only [Int.ofNat_eq_natCast]
    split <;> simp_all <;> omega
  unfold FpopAt
  simp only [h]
  rw [if_pos (by simp only [Int.ofNat_eq_natCast]; omega)]
  simp only [hs, hk]
theorem map_erase {α β : Type} {f : α → β} : ∀ (l : List α) (k : Nat), (l.map f).eraseIdx k = (l.eraseIdx k).map f
  | [], _ => rfl
  | _ :: _, 0 => rfl
  | x :: r, k + 1 => by simp only [List.map_cons, List.eraseIdx_cons_succ, map_erase r k]
theorem erase_perm {α : Type} : ∀ (l : List α) (k : Nat) (h : k < l.length), (l[k] :: l.eraseIdx k).Perm l
  | [], _, h => absurd h (Nat.not_lt_zero _)
  | x :: r, 0, _ => List.Perm.refl _
  | x :: r, k + 1, h => by
    have hk : k < r.length := by simpa using h
    show (r[k] :: x :: r.eraseIdx k).Perm (x :: r)
    exact (List.Perm.swap _ _ _).trans ((erase_perm r k hk).cons x)
theorem mixed_ok {F : FD} (hF : DrawOk F) {μ0 μ : Store} {p : Nat} {c : Int} {ss : List Str} {Q : D → Store → Prop} (hx : Wx μ0 p c μ) (hc : c + Int.ofNat ss.length < 2 ^ 20) (hs : ss.all PyData.strOk = true) (hl : ss.length ≤ 1000)
    (q : ∀ (ys : List Str) μ', ys.Perm ss → Wx μ0 p (c + Int.ofNat ss.length) μ' → Q (.lst (ys.map D.str)) μ') : Ok (mixedF F [.ref p, .lst (ss.map D.str)] μ) Q := by
  have hpl := hx.wd.lt
  have hsp := noRef_strs ss
  refine q_fseal (q_fn rfl ?_)
  walk_at "g1"
  refine ⟨size_ok (by simp), ?_⟩
  walk_at "g1"
  have y0 : Wy μ p c (μ ++ [.lst (ss.map D.str)] ++ [.lst []]) := (hx.wd.y.app (o := .lst _) hsp).app (o := .lst []) rfl
  refine while_ok (m := ss.length) (n := 1000000) (fun m ρ μ' => ∃ left found : List Str, m = left.length ∧ (left ++ found).Perm ss ∧ Wy μ p (c + Int.ofNat found.length) μ' ∧ μ'.length = μ.length + 2 ∧ μ'[μ.length]? = some (.lst (left.map D.str)) ∧ μ'[μ.length + 1]? = some (.lst (found.map D.str)) ∧ ρ = [some (.ref p), some (.lst (ss.map D.str)), some (.ref μ.length), some (.ref (μ.length + 1))]) ?_ ⟨ss, [], rfl, by simp, y0.mono (by simp), by simp, by simp, by simp, by simp⟩ (by omega)
  rintro m ρ μ' ⟨left, found, rfl, perm, y, ln, e1, e2, rfl⟩
  have hll : left.all PyData.strOk = true := List.all_eq_true.mpr fun z hz => List.all_eq_true.mp hs z (perm.subset (List.mem_append_left _ hz))
  have hlen : left.length + found.length = ss.length := by rw [← perm.length_eq, List.length_append]
  have hc2 : c + Int.ofNat found.length < 2 ^ 20 := by simp only [Int.ofNat_eq_natCast] at hc ⊢; omega
  walk_at "q"
  refine ⟨size_ok (by simp), ?_⟩
  rw [f_neNil e1 hll, q_okR, q_blAt]
  cases left with
  | nil =>
    rw [if_neg (by decide)]
    walk_at "go"
    have hx' := y.cut hpl
    refine ⟨hx'.wd.pure, _, unref_cell (k := 3) e2 (by omega) (noRef_strs _), q _ _ (by simpa using perm) (hx.from (hx'.mono ?_))⟩
    simp only [List.length_nil, Int.ofNat_eq_natCast] at hlen ⊢
    omega
  | cons z left =>
    rw [if_pos (by rfl)]
    refine q_drop ?_
    walk_at "q"
    refine ⟨isList_ref e2, isList_ref e1, ?_⟩
    rw [f_lenR e1]
    walk_at "q"
    refine (hF.y y hc2 (by simp) (by simp at hlen ⊢; omega)).mono ?_
    rintro d μ2 ⟨r, rfl, r0, r1, y2, f2⟩
    have g1 : μ2[μ.length]? = some (.lst ((z :: left).map D.str)) := by rw [f2.eq _ (by omega)]; exact e1
    have g2 : μ2[μ.length + 1]? = some (.lst (found.map D.str)) := by rw [f2.eq _ (by omega)]; exact e2
    have gl : μ2.length = μ.length + 2 := f2.len.trans ln
    walk_at "q"
    obtain ⟨k, rfl⟩ : ∃ k : Nat, r = Int.ofNat k := ⟨r.toNat, by simp only [Int.ofNat_eq_natCast]; omega⟩
    have hk : k < (z :: left).length := by simp at r1 ⊢; omega
    have hget : ((z :: left).map D.str)[k]? = some (.str (z :: left)[k]) := by rw [List.getElem?_map, List.getElem?_eq_getElem hk]; rfl
    rw [f_popAt g1 hget (by simp at hlen ⊢; omega), q_okR]
    have g3 : (μ2.set μ.length (.lst (((z :: left).map D.str).eraseIdx k)))[μ.length + 1]? = some (.lst (found.map D.str)) := by rw [List.getElem?_set_ne (by omega)]; exact g2
    rw [f_app g3 (by rw [List.length_map]; exact Nat.lt_of_lt_of_le (show found.length < 1000000 by omega) (size_ok (Nat.le_refl _))), q_okR]
    have em : ((z :: left).map D.str).eraseIdx k = ((z :: left).eraseIdx k).map D.str := map_erase _ _
    have ef : found.map D.str ++ [D.str (z :: left)[k]] = (found ++ [(z :: left)[k]]).map D.str := by simp
    rw [em, ef]
    refine ⟨_, ?_, (z :: left).eraseIdx k, found ++ [(z :: left)[k]], rfl, ?_, ?_, ?_, ?_, ?_, by trivial⟩
    · rw [List.length_eraseIdx_of_lt hk]
      simp
    · refine List.Perm.trans ?_ perm
      have h1 := erase_perm (z :: left) k hk
      have h2 : ((z :: left).eraseIdx k ++ (found ++ [(z :: left)[k]])).Perm ((z :: left)[k] :: (z :: left).eraseIdx k ++ found) := by
        refine (List.Perm.append_left _ (List.perm_append_comm)).trans ?_
        exact List.perm_middle
      exact h2.trans (List.Perm.append_right _ h1)
    · have := ((y2.setn (n := μ.length) (o := .lst (((z :: left).eraseIdx k).map D.str)) (Nat.le_refl _) hpl (noRef_strs _)).setn (n := μ.length + 1) (o := .lst ((found ++ [(z :: left)[k]]).map D.str)) (by omega) hpl (noRef_strs _))
      refine this.mono ?_
      simp only [List.length_append, List.length_cons, List.length_nil, Int.ofNat_eq_natCast]
      omega
    · simp [gl]
    · rw [List.getElem?_set_ne (by omega), List.getElem?_set_self (by omega)]
    · rw [List.getElem?_set_self (by simp; omega)]
/-! ### cells of a table -/
abbrev Cell := Str × Int × Str
def cellD (c : Cell) : D := .tup [.str c.1, .int c.2.1, .str c.2.2]
def cellP (c : Cell) : PyData := .tuple [.str c.1, .int c.2.1, .str c.2.2]
def cellOk (c : Cell) : Bool := PyData.strOk c.1 && PyData.strOk c.2.2
theorem noRef_cells : ∀ cs : List Cell, noRefs 0 (cs.map cellD) = true
  | [] => rfl
  | c :: r => by simp only [List.map_cons, noRefs, cellD, noRef, noRef_cells r, Bool.and_true]
theorem toPys_cells : ∀ cs : List Cell, toPys (cs.map cellD) = some (cs.map cellP)
  | [] => rfl
  | c :: r => by simp only [List.map_cons, toPys, toPy, toPys_cells r, cellD, cellP, Option.map_some]
theorem canLay_cell {c : Cell} (h : cellOk c = true) : PyData.canLay0 (cellP c) = true := by
  have := andT h
  simp only [cellP, PyData.canLay0, PyData.canLayAll0, this.1, this.2, Bool.and_self]
theorem canLay_cells : ∀ {cs : List Cell}, cs.all cellOk = true → PyData.canLayAll0 (cs.map cellP) = true
  | [], _ => rfl
  | c :: r, h => by
    rw [List.all_cons] at h
    have := andT h
    simp only [List.map_cons, PyData.canLayAll0, canLay_cell this.1, canLay_cells this.2, Bool.and_self]
theorem depth_cell (c : Cell) : (cellP c).depth = 1 := by simp [cellP, PyData.depth, PyData.depthAll]
theorem depth_cells : ∀ cs : List Cell, PyData.depthAll (cs.map cellP) ≤ 1
  | [] => by simp [PyData.depthAll]
  | c :: r => by
    have := depth_cells r
    simp only [List.map_cons, PyData.depthAll, depth_cell]
    omega
theorem shaped_cell {c : Cell} (h : cellOk c = true) : SeqAt.shaped (cellP c) = true := by
  unfold SeqAt.shaped
  rw [canLay_cell h, depth_cell]
  rfl
theorem shaped_cellsT {cs : List Cell} (h : cs.all cellOk = true) : SeqAt.shaped (.tuple (cs.map cellP)) = true := by
  unfold SeqAt.shaped
  simp only [PyData.canLay0, canLay_cells h, Bool.true_and]
  have := depth_cells cs
  exact decide_eq_true (by simp only [PyData.depth]; omega)
theorem shaped_cells {cs : List Cell} (h : cs.all cellOk = true) : SeqAt.shaped (.list (cs.map cellP)) = true := by
  unfold SeqAt.shaped
  simp only [PyData.canLay0, canLay_cells h, Bool.true_and]
  have := depth_cells cs
  exact decide_eq_true (by simp only [PyData.depth]; omega)
theorem eqv_cell {c e : Cell} : PyData.eqv (cellP c) (cellP e) = decide (c = e) := by
  obtain ⟨a, b, d⟩ := c
  obtain ⟨a', b', d'⟩ := e
  simp only [cellP, PyData.eqv, PyData.eqvAll, Bool.and_true]
  rw [Bool.eq_iff_iff]
  simp
theorem any_cells {x : Cell} : ∀ cs : List Cell, ((cs.map cellP).any fun z => PyData.eqv z (cellP x)) = decide (x ∈ cs)
  | [] => by simp
  | c :: r => by
    rw [List.map_cons, List.any_cons, any_cells r, eqv_cell]
    rw [Bool.eq_iff_iff]
    simp only [Bool.or_eq_true, decide_eq_true_eq, List.mem_cons]
    constructor
    · rintro (h | h)
      · exact .inl h.symm
      · exact .inr h
    · rintro (h | h)
      · exact .inl h.symm
      · exact .inr h
theorem f_inTC {cs : List Cell} {x : Cell} {μ : Store} (h : cs.all cellOk = true) (hx : cellOk x = true) : Fin false (cellD x) (.tup (cs.map cellD)) μ = okR (.bl (decide (x ∈ cs))) μ := by
  unfold Fin
  have e1 : toPyS μ (cellD x) = some (cellP x) := rfl
  have e2 : toPyS μ (.tup (cs.map cellD)) = some (.tuple (cs.map cellP)) := by simp only [toPyS, toPy, toPys_cells, Option.map_some]
  simp only [e1, e2]
  rw [if_pos ⟨shaped_cell hx, shaped_cellsT h⟩, any_cells]
  rfl
theorem f_notinTC {cs : List Cell} {x : Cell} {μ : Store} (h : cs.all cellOk = true) (hx : cellOk x = true) : Fin true (cellD x) (.tup (cs.map cellD)) μ = okR (.bl (!decide (x ∈ cs))) μ := by
  unfold Fin
  have e1 : toPyS μ (cellD x) = some (cellP x) := rfl
  have e2 : toPyS μ (.tup (cs.map cellD)) = some (.tuple (cs.map cellP)) := by simp only [toPyS, toPy, toPys_cells, Option.map_some]
  simp only [e1, e2]
  rw [if_pos ⟨shaped_cell hx, shaped_cellsT h⟩, any_cells]
  rfl
/-! ### all cells of a width -/
def two (r : Str) (g : Int) : List Cell := [(r, g, "other"), (r, g, "same")]
def row (r : Str) (lo : Int) (n : Nat) : List Cell := (rngI lo n).flatMap (two r)
def allC (w : Int) : List Cell := row "less" (0 - w) (2 * w + 1).toNat ++ row "more" (0 - w) (2 * w + 1).toNat ++ row "same" (0 - w) (2 * w + 1).toNat
theorem row_mem {r : Str} {lo : Int} {n : Nat} {c : Cell} : c ∈ row r lo n ↔ c.1 = r ∧ (lo ≤ c.2.1 ∧ c.2.1 < lo + n) ∧ (c.2.2 = "other" ∨ c.2.2 = "same") := by
  unfold row two
  rw [List.mem_flatMap]
  obtain ⟨a, b, d⟩ := c
  constructor
  · rintro ⟨g, hg, hc⟩
    have := rngI_mem.mp hg
    simp only [List.mem_cons, List.not_mem_nil, or_false, Prod.mk.injEq] at hc
    rcases hc with ⟨rfl, rfl, rfl⟩ | ⟨rfl, rfl, rfl⟩
    · exact ⟨rfl, this, .inl rfl⟩
    · exact ⟨rfl, this, .inr rfl⟩
  · rintro ⟨h1, h2, h3⟩
    simp only at h1 h2 h3
    subst h1
    refine ⟨b, rngI_mem.mpr h2, ?_⟩
    rcases h3 with rfl | rfl <;> simp
theorem allC_mem {w : Int} {c : Cell} : c ∈ allC w ↔ (c.1 = "less" ∨ c.1 = "more" ∨ c.1 = "same") ∧ (0 - w ≤ c.2.1 ∧ c.2.1 ≤ w) ∧ (c.2.2 = "other" ∨ c.2.2 = "same") := by
  unfold allC
  simp only [List.mem_append, row_mem]
  have : (0 - w ≤ c.2.1 ∧ c.2.1 < 0 - w + ((2 * w + 1).toNat : Int)) ↔ (0 - w ≤ c.2.1 ∧ c.2.1 ≤ w) := by omega
  rw [this]
  constructor
  · rintro ((⟨h, q⟩ | ⟨h, q⟩) | ⟨h, q⟩)
    · exact ⟨.inl h, q⟩
    · exact ⟨.inr (.inl h), q⟩
    · exact ⟨.inr (.inr h), q⟩
  · rintro ⟨h | h | h, q⟩
    · exact .inl (.inl ⟨h, q⟩)
    · exact .inl (.inr ⟨h, q⟩)
    · exact .inr ⟨h, q⟩
theorem allC_ok {w : Int} {c : Cell} (h : c ∈ allC w) : cellOk c = true := by
  obtain ⟨h1, _, h3⟩ := allC_mem.mp h
  unfold cellOk
  have a : PyData.strOk c.1 = true := by rcases h1 with h | h | h <;> rw [h] <;> decide +kernel
  have b : PyData.strOk c.2.2 = true := by rcases h3 with h | h <;> rw [h] <;> decide +kernel
  rw [a, b]
  rfl
theorem row_len {r : Str} {lo : Int} {n : Nat} : (row r lo n).length = 2 * n := by
  unfold row
  rw [List.length_flatMap]
  have : (rngI lo n).map (fun g => (two r g).length) = List.replicate n 2 := by
    rw [List.eq_replicate_iff]
    exact ⟨by simp [rngI], fun b hb => by obtain ⟨g, _, rfl⟩ := List.mem_map.mp hb; rfl⟩
  rw [this, List.sum_replicate_nat]
  omega
theorem row_succ {r : Str} {lo : Int} {n : Nat} : row r lo (n + 1) = row r lo n ++ two r (lo + Int.ofNat n) := by
  unfold row rngI
  rw [List.range_succ, List.map_append, List.flatMap_append]
  simp
end DM

namespace DM
open PySem PySem.Spec L2
/-! ### any statement that is never reached -/
def sFail : SF := fun _ _ => none
theorem ds_fail {X : Cx} {W : DW} {st : Stmt} : PS X st (sD X.K W sFail) := ⟨fun pins s σ H D I ⟨ρ, ι, μ, sr, wf, h⟩ => h.elim⟩
def eFail : CM D := fun _ _ => none
theorem d_fail {X : Cx} {W : DW} {e : Expr} : PE X e (tE X.K W eFail) := ⟨fun pins s σ H Q I ⟨ρ, ι, μ, sr, wf, h⟩ => h.elim⟩
/-! ### fields of instances -/
def putD (f : Str) (v : D) : List (Str × D) → List (Str × D)
  | [] => [(f, v)]
  | (g, x) :: r => if g = f then (g, v) :: r else (g, x) :: putD f v r
section
variable {K : PySem.W.Frag} {ι : List Addr} {H : Hp}
theorem fld_look {f : Str} {d : D} : ∀ {gs : List (Str × V)} {fs : List (Str × D)}, gs.map (·.1) = fs.map (·.1) → VRs K ι H (gs.map (·.2)) (fs.map (·.2)) → fs.lookup f = some d → ∃ v, gs.lookup f = some v ∧ VR K ι H v d
  | [], [], _, _, e => by cases e
  | [], _ :: _, k, _, _ => by cases k
  | _ :: _, [], k, _, _ => by cases k
  | (g, x) :: gr, (h, y) :: fr, k, r, e => by
    simp only [List.map_cons, List.cons.injEq] at k
    obtain ⟨k1, k2⟩ := k
    subst k1
    rw [List.map_cons, List.map_cons] at r
    cases r with
    | cons r1 r2 =>
    rw [List.lookup_cons] at e ⊢
    by_cases z : (f == g) = true
    · simp only [z] at e ⊢
      cases e
      exact ⟨x, rfl, r1⟩
    · have z' : (f == g) = false := by simpa using z
      simp only [z'] at e ⊢
      exact fld_look k2 r2 e
theorem fld_none {f : Str} : ∀ {gs : List (Str × V)} {fs : List (Str × D)}, gs.map (·.1) = fs.map (·.1) → fs.lookup f = none → gs.lookup f = none
  | [], [], _, _ => rfl
  | [], _ :: _, k, _ => by cases k
  | _ :: _, [], k, _ => by cases k
  | (g, x) :: gr, (h, y) :: fr, k, e => by
    simp only [List.map_cons, List.cons.injEq] at k
    obtain ⟨k1, k2⟩ := k
    subst k1
    rw [List.lookup_cons] at e ⊢
    by_cases z : (f == g) = true
    · simp only [z] at e; cases e
    · have z' : (f == g) = false := by simpa using z
      simp only [z'] at e ⊢
      exact fld_none k2 e
theorem fld_mem {α : Type} {f : Str} {d : α} : ∀ {fs : List (Str × α)}, fs.lookup f = some d → f ∈ fs.map (·.1)
  | [], e => by cases e
  | (g, x) :: r, e => by
    rw [List.lookup_cons] at e
    by_cases z : (f == g) = true
    · rw [List.map_cons, beq_iff_eq.mp z]; exact List.mem_cons_self
    · have z' : (f == g) = false := by simpa using z
      simp only [z'] at e
      exact List.mem_cons_of_mem _ (fld_mem e)
theorem put_rel {f : Str} {v : V} {d : D} (h : VR K ι H v d) : ∀ {gs : List (Str × V)} {fs : List (Str × D)}, gs.map (·.1) = fs.map (·.1) → VRs K ι H (gs.map (·.2)) (fs.map (·.2)) → (putF f v gs).map (·.1) = (putD f d fs).map (·.1) ∧ VRs K ι H ((putF f v gs).map (·.2)) ((putD f d fs).map (·.2))
  | [], [], _, _ => ⟨rfl, .cons h .nil⟩
  | [], _ :: _, k, _ => by cases k
  | _ :: _, [], k, _ => by cases k
  | (g, x) :: gr, (h', y) :: fr, k, r => by
    simp only [List.map_cons, List.cons.injEq] at k
    obtain ⟨k1, k2⟩ := k
    subst k1
    rw [List.map_cons, List.map_cons] at r
    cases r with
    | cons r1 r2 =>
    unfold putF putD
    by_cases z : g = f
    · rw [if_pos z, if_pos z]
      exact ⟨by simp [k2], .cons h r2⟩
    · rw [if_neg z, if_neg z]
      obtain ⟨a, b⟩ := put_rel h k2 r2
      exact ⟨by simp [a], .cons r1 b⟩
theorem put_keys {f g : Str} {d : D} : ∀ {fs : List (Str × D)}, g ∈ (putD f d fs).map (·.1) → g = f ∨ g ∈ fs.map (·.1)
  | [], h => by simp [putD] at h; exact .inl h
  | (k, x) :: r, h => by
    unfold putD at h
    by_cases z : k = f
    · rw [if_pos z] at h
      simp only [List.map_cons, List.mem_cons] at h ⊢
      rcases h with h | h
      · exact .inr (.inl h)
      · exact .inr (.inr h)
    · rw [if_neg z] at h
      simp only [List.map_cons, List.mem_cons] at h ⊢
      rcases h with h | h
      · exact .inr (.inl h)
      · rcases put_keys h with q | q
        · exact .inl q
        · exact .inr (.inr q)
end
def fldAt (μ : Store) (d : D) (f : Str) : Option D := match d with
  | .ref i => match μ[i]? with
    | some (.obj _ fs) => fs.lookup f
    | _ => none
  | _ => none
def eFld (f : Str) (E : CM D) : CM D := E.bind fun d _ μ => pureR (fldAt μ d f) μ
theorem d_fld {X : Cx} {W : DW} {e : Expr} {E : CM D} {f : Str} {pos : Pos} (he : PE X e (tE X.K W E)) (hb : attributeBase e f X.env (eval e X.env) = eval e X.env) : PE X (.Attribute e f pos) (tE X.K W (eFld f E)) :=
  (pe_fld he hb).imp fun σ H Q ⟨ρ, ι, μ, sr, wf, h⟩ => by
    refine tG.mono (PostG.bind sr wf h) ?_
    rintro x H1 ⟨ι1, μ1, d, l1, w1, vx, h1⟩
    obtain ⟨y, ey, h2⟩ := PostG.pure h1
    clear h1
    unfold fldAt at ey
    cases vx with
    | ref hi =>
      obtain ⟨o, ho, ro⟩ := w1.has hi
      simp only [ho] at ey
      cases o with
      | obj C fs =>
        obtain ⟨dx, gs, ea, k, r, c, n⟩ := ro
        obtain ⟨v, ev, rv⟩ := fld_look k r ey
        exact ⟨_, _, dx, gs, v, rfl, ea, c, n f (fld_mem ey), ev, h2.ok0 w1 rv⟩
      | _ => cases ey
    | _ => cases ey
/-! ### targets -/
def toEnds (Q : L2.St → Hp → Prop) : Ends := { nx := Q, rt := fun _ _ => False, bk := fun _ _ => False, ct := fun _ _ => False }
def tgD (K : PySem.W.Frag) (W : DW) (F : D → SF) : TG := fun v σ H Q => ∃ ρ ι μ d, SR K ι H σ ρ ∧ WF K ι μ H ∧ VR K ι H v d ∧ PostS K W (toEnds Q) ι H (F d ρ μ)
def tgsD (K : PySem.W.Frag) (W : DW) (F : List D → SF) : TGs := fun vs σ H Q => ∃ ρ ι μ ds, SR K ι H σ ρ ∧ WF K ι μ H ∧ VRs K ι H vs ds ∧ PostS K W (toEnds Q) ι H (F ds ρ μ)
end DM
namespace L2
open PySem PySem.Spec
theorem PG.imp {X : Cx} {e : Expr} {t t' : TG} (h : PG X e t) (q : ∀ v σ H Q, t' v σ H Q → t v σ H Q) : PG X e t' := ⟨fun pins s σ H v u Q I r z => h.run pins s σ H v u Q I r (q _ _ _ _ z)⟩
theorem PGs.imp {X : Cx} {e : List Expr} {t t' : TGs} (h : PGs X e t) (q : ∀ v σ H Q, t' v σ H Q → t v σ H Q) : PGs X e t' := ⟨fun pins s σ H v u Q I r z => h.run pins s σ H v u Q I r (q _ _ _ _ z)⟩
/-- o.f = .. -/
def gFld (K : PySem.W.Frag) (to : TE) (f : Str) : TG := fun v σ H Q => to σ H fun x H1 => ∃ a C dx fs, x = .ref a ∧ H1 a = some (.ins C dx fs) ∧ Cls K C ∧ NoAttr K C f ∧ fs.length < 1000 ∧ Q σ (upd H1 a (.ins C dx (putF f v fs)))
theorem pg_fld {X : Cx} {o : Expr} {f : Str} {pos : Pos} {to : TE} (ho : PE X o to) : PG X (.Attribute o f pos) (gFld X.K to f) := by
  refine ⟨fun pins s σ H v u Q I r h => ?_⟩
  rw [assign_Attribute]
  refine wpAny_bind (wpAny_holding (thn (ho.run pins s σ H _ I h) fun ov s1 ⟨x, H1, I1, r1, a, C, dx, fs, ex, ea, c, n, l, q1⟩ => ?_))
  subst ex
  obtain rfl : ov = Value.ref a := r1
  refine wpAny_bind (wpAny_standAt (wpAny_bind (wpAny_holding ?_)))
  exact setattr_ok I1 ea c n l r fun s2 I2 => wpAny_release ⟨σ, _, I2, q1⟩
end L2
namespace DM
open PySem PySem.Spec L2
def tName (i : Nat) : D → SF := fun d ρ μ => some (.nx (ρ.set i (some d)), μ)
def tNil : List D → SF := fun ds ρ μ => match ds with
  | [] => some (.nx ρ, μ)
  | _ => none
def tCons (F : D → SF) (G : List D → SF) : List D → SF := fun ds => match ds with
  | d :: r => sSeq (F d) (G r)
  | [] => fun _ _ => none
def tTup (n : Nat) (G : List D → SF) : D → SF := fun d => match d with
  | .tup ds => fun ρ μ => if ds.length = n then G ds ρ μ else none
  | _ => fun _ _ => none
def tFld (f : Str) (cs : List Str) (O : CM D) : D → SF := fun v => lft O fun o ρ μ => match o with
  | .ref i => match μ[i]? with
    | some (.obj C fs) => if fs.length < 1000 ∧ (C ∈ cs ∨ f ∈ fs.map (·.1)) then some (.nx ρ, μ.set i (.obj C (putD f v fs))) else none
    | _ => none
  | _ => none
section
variable {X : Cx} {W : DW} {pos : Pos}
theorem dg_name {i : Nat} {x : Str} (h : PG X (.Name x pos) (gName i)) : PG X (.Name x pos) (tgD X.K W (tName i)) := h.imp fun v σ H Q ⟨ρ, ι, μ, d, sr, wf, vr, h⟩ => h _ ι H (Le.refl _ _) wf (sr.set i vr)
theorem dgs_nil : PGs X [] (tgsD X.K W tNil) := pgs_nil.imp fun v σ H Q ⟨ρ, ι, μ, ds, sr, wf, vr, h⟩ => by
  cases vr with
  | nil => exact ⟨rfl, h σ ι H (Le.refl _ _) wf sr⟩
  | cons _ _ => exact h.elim
theorem dgs_cons {e : Expr} {es : List Expr} {F : D → SF} {G : List D → SF} (ha : PG X e (tgD X.K W F)) (hr : PGs X es (tgsD X.K W G)) (hs : (assignEach (e :: es) X.env).map (·.2) = assign e X.env :: (assignEach es X.env).map (·.2) := by rfl) : PGs X (e :: es) (tgsD X.K W (tCons F G)) := (pgs_cons ha hr hs).imp fun v σ H Q ⟨ρ, ι, μ, ds, sr, wf, vr, h⟩ => by
  cases vr with
  | nil => exact h.elim
  | @cons v1 d vs ds r1 r2 =>
    refine ⟨_, _, rfl, ρ, ι, μ, _, sr, wf, r1, ?_⟩
    unfold tCons at h
    simp only [] at h
    unfold sSeq at h
    generalize F d ρ μ = z at h ⊢
    match z, h with
    | some (.nx ρ1, μ1), h => exact fun σ' ι' H' l w s => ⟨ρ1, ι', μ1, ds, s, w, r2.mono l, PostS.from l h⟩
    | some (.rt _, _), h => exact h
    | some (.bk _, _), h => exact h
    | some (.ct _, _), h => exact h
    | some (.ex _ _, _), h => exact h
theorem dg_tup {es : List Expr} {k n : Nat} {G : List D → SF} (hc : X.calm = true) (h : PGs X es (tgsD X.K W G)) (hn : (assignEach es X.env).length = n := by rfl) (hst : (assignEach es X.env).findIdx? (·.1) = none := by rfl) : PG X (.Tuple es k pos) (tgD X.K W (tTup n G)) :=
  (pg_tup hc h hn hst).imp fun v σ H Q ⟨ρ, ι, μ, d, sr, wf, vr, h⟩ => by
    cases vr with
    | tup hh r =>
      obtain ⟨q, h⟩ := PostS.guard h
      exact ⟨_, _, rfl, hh.sq, by rw [r.length]; exact q, ρ, ι, μ, _, sr, wf, r, h⟩
    | _ => exact h.elim
theorem dg_fld {o : Expr} {f : Str} {cs : List Str} {O : CM D} (ho : PE X o (tE X.K W O)) (hcs : ∀ C ∈ cs, NoAttr X.K (He.ga X.K C) f) : PG X (.Attribute o f pos) (tgD X.K W (tFld f cs O)) :=
  (pg_fld ho).imp fun v σ H Q ⟨ρ, ι, μ, d, sr, wf, vr, h⟩ => by
    refine tG.mono (PostS.bind sr wf h) ?_
    rintro x H1 ⟨ι1, μ1, od, l1, w1, vx, h1⟩
    cases vx with
    | ref hi =>
      obtain ⟨ob, ho, ro⟩ := w1.has hi
      simp only [ho] at h1
      cases ob with
      | obj C fs =>
        obtain ⟨q, h1⟩ := PostS.guard h1
        obtain ⟨dx, gs, ea, k, r, c, n⟩ := ro
        have no : NoAttr X.K (He.ga X.K C) f := q.2.elim (hcs C) (n f)
        have hl : gs.length = fs.length := by have := congrArg List.length k; simpa using this
        have v1 := vr.mono l1
        obtain ⟨p1, p2⟩ := put_rel (f := f) v1 k r
        refine ⟨_, _, dx, gs, rfl, ea, c, no, by rw [hl]; exact q.1, h1 σ ι1 _ (Le.set hi (nf ea)) (w1.set hi (nf ea) (u := .obj C (putD f d fs)) ⟨dx, _, upd_same, p1, p2.mono (Le.set hi (nf ea)), c, fun g hg => ?_⟩) ((sr.mono l1).mono (Le.set hi (nf ea)))⟩
        rcases put_keys hg with z | z
        · rw [z]; exact no
        · exact n g z
      | _ => exact h1.elim
    | _ => exact h1.elim
def tgOnly (S : SF) : SF := fun ρ μ => match S ρ μ with
  | some (.nx ρ', μ') => some (.nx ρ', μ')
  | some (.ex x ρ', μ') => some (.ex x ρ', μ')
  | _ => none
def sAsgT (E : CM D) (F : D → SF) : SF := lft E fun d => tgOnly (F d)
theorem ds_asgT {tg e : Expr} {E : CM D} {F : D → SF} (he : PE X e (tE X.K W E)) (hg : PG X tg (tgD X.K W F)) (hs : swapsWithSole [tg] e pos.line X.env = pure false := by rfl) (hw : swappedStores [tg] e X.env = pure none := by rfl) (h1 : (assignEach [tg] X.env).map (·.2) = [assign tg X.env] := by rfl) : PS X (.Assign [tg] e pos) (sD X.K W (sAsgT E F)) :=
  (ps_asg he hg hs hw h1).imp fun T σ H ⟨ρ, ι, μ, sr, wf, h⟩ => by
    refine tG.mono (PostS.bind sr wf h) ?_
    rintro x H1 ⟨ι1, μ1, d, l1, w1, vx, h1⟩
    refine ⟨ρ, ι1, μ1, d, sr.mono l1, w1, vx, ?_⟩
    unfold tgOnly at h1
    generalize F d ρ μ1 = z at h1 ⊢
    match z, h1 with
    | some (.nx _, _), h => exact h
    | some (.ex _ _, _), h => exact h
end
end DM

namespace DM
open PySem PySem.Spec L2
/-! ### methods of own classes -/
structure MtK (P : Program) (w : World) (K : PySem.W.Frag) (mg : Str → Option Value) (base : Heap) (k : Nat) (C m : Str) (F : FD) : Prop where
  ex : ∃ f fd ps, FnG P w K mg base noXR k f fd ps F ∧ Meth K (He.ga K C) m f ∧ Binds K fd ps [] ∧ ∀ ds μ, F ds μ ≠ none → ds.length = ps.length
def eMt (tb : List (Str × FD)) (m : Str) (O : CM D) (A : CM (List D)) : CM D := O.bind fun o ρ μ => match o with
  | .ref i => match μ[i]? with
    | some (.obj C fs) => if (fs.lookup m).isNone = true then (match tb.lookup C with
      | some F => (A.bind fun ds _ μ => F (.ref i :: ds) μ) ρ μ
      | none => none) else none
    | _ => none
  | _ => none
section
variable {X : Cx} {W : DW} {k j : Nat} {m : Str} {tb : List (Str × FD)} {o e : Expr} {es : List Expr} {O : CM D} {As : CM (List D)} {pos apos : Pos}
theorem d_mt {pl : Sem Bool} (he : PE X o (tE X.K W O)) (ht : ∀ C F, tb.lookup C = some F → MtK X.prog X.w X.K X.mg X.base j C m F) (hr : Room k X.A) (hjk : j ≤ k) (hG : X.A.guards = some []) (ha : PA X (e :: es) (tA X.K W As)) (hW : ∀ x ι σ H, W x ι σ H → False)
    (hst : starEach (e :: es) X.env = (false, eval e X.env) :: starEach es X.env := by rfl) (hpl : (backTo pos (starEach es X.env)).any (·.1) = false := by rfl)
    (hev : eval (.Call (.Attribute o m apos) (e :: es) [] pos) X.env = (do
      let ov ← eval o X.env
      standAt apos.atName
      let (f, first) ← holding [ov] (getMethod ov m pl)
      callWith pos f first (backTo pos (starEach (e :: es) X.env)) (backToKw pos (keywordEach [] X.env))) := by rfl) :
    PE X (.Call (.Attribute o m apos) (e :: es) [] pos) (tE X.K W (eMt tb m O As)) := by
  refine ⟨fun pins s σ H Q I ⟨ρ, ι, μ, sr, wf, h⟩ => ?_⟩
  refine methcall_of (pl := pl) he I (tG.mono (PostG.bind sr wf h) ?_) hev
  rintro x H1 ⟨ι1, μ1, d, l1, w1, vx, h1⟩
  cases vx with
  | ref hi =>
    obtain ⟨ob, hob, ro⟩ := w1.has hi
    simp only [hob] at h1
    cases ob with
    | obj C fs =>
      obtain ⟨dx, gs, ea, kk, r, c, n⟩ := ro
      obtain ⟨q, h1⟩ := PostG.guard h1
      cases et : tb.lookup C with
      | none => rw [et] at h1; exact h1.elim
      | some F =>
        rw [et] at h1
        obtain ⟨f, fd, ps, G, hm, hb, hl⟩ := (ht C F et).ex
        refine ⟨_, _, dx, gs, f, rfl, ea, c, hm, fld_none kk (Option.isNone_iff_eq_none.mp q), fun s1 I1 => ?_⟩
        refine PySem.W.callWith_K (first := [.ref _]) (h₀ := X.base) I.ok.mod.kin hm.kp (thn (ha.run pos pins s1 σ H1 _ I1 (PostG.bind (sr.mono l1) w1 h1)) ?_) hst hpl
        rintro us s2 ⟨vs, H2, I2, rv, ι2, μ2, ds, l2, w2, v2, h2⟩
        exact ⟨I2.kIn, runG (us := .ref _ :: us) (vs := .ref _ :: vs) (ds := .ref _ :: ds) (dds := []) G (hr.mono hjk) hG hb .nil (fun _ _ => .nil) hl hW I2 (.cons rfl rv) w2 (.cons (.ref (l2.pre _ _ hi)) v2) (by rw [List.append_nil]; exact h2)⟩
    | _ => exact h1.elim
  | _ => exact h1.elim
theorem d_mt0 {pl : Sem Bool} (he : PE X o (tE X.K W O)) (ht : ∀ C F, tb.lookup C = some F → MtK X.prog X.w X.K X.mg X.base j C m F) (hr : Room k X.A) (hjk : j ≤ k) (hG : X.A.guards = some []) (hW : ∀ x ι σ H, W x ι σ H → False)
    (hev : eval (.Call (.Attribute o m apos) [] [] pos) X.env = (do
      let ov ← eval o X.env
      standAt apos.atName
      let (f, first) ← holding [ov] (getMethod ov m pl)
      callWith pos f first (backTo pos (starEach [] X.env)) (backToKw pos (keywordEach [] X.env))) := by rfl) :
    PE X (.Call (.Attribute o m apos) [] [] pos) (tE X.K W (eMt tb m O aNil)) := by
  refine ⟨fun pins s σ H Q I ⟨ρ, ι, μ, sr, wf, h⟩ => ?_⟩
  refine methcall_of (pl := pl) he I (tG.mono (PostG.bind sr wf h) ?_) hev
  rintro x H1 ⟨ι1, μ1, d, l1, w1, vx, h1⟩
  cases vx with
  | ref hi =>
    obtain ⟨ob, hob, ro⟩ := w1.has hi
    simp only [hob] at h1
    cases ob with
    | obj C fs =>
      obtain ⟨dx, gs, ea, kk, r, c, n⟩ := ro
      obtain ⟨q, h1⟩ := PostG.guard h1
      cases et : tb.lookup C with
      | none => rw [et] at h1; exact h1.elim
      | some F =>
        rw [et] at h1
        obtain ⟨f, fd, ps, G, hm, hb, hl⟩ := (ht C F et).ex
        refine ⟨_, _, dx, gs, f, rfl, ea, c, hm, fld_none kk (Option.isNone_iff_eq_none.mp q), fun s1 I1 => ?_⟩
        exact PySem.W.callWith_K0 (first := [.ref _]) I1.kIn hm.kp (runG (us := [.ref _]) (vs := [.ref _]) (ds := [.ref _]) (dds := []) G (hr.mono hjk) hG hb .nil (fun _ _ => .nil) hl hW I1 (.cons rfl .nil) w1 (.cons (.ref hi) .nil) h1)
    | _ => exact h1.elim
  | _ => exact h1.elim
/-! ### new instances -/
structure MkK (P : Program) (w : World) (K : PySem.W.Frag) (mg : Str → Option Value) (base : Heap) (k : Nat) (C : Str) (F : FD) : Prop where
  ex : ∃ f fd ps, FnG P w K mg base noXR k f fd ps F ∧ Mk K (He.ga K C) f ∧ mg C = some (.ref (He.ga K C)) ∧ Cls K (He.ga K C) ∧ Binds K fd ps [] ∧ ∀ ds μ, F ds μ ≠ none → ds.length = ps.length
/-- __init__ at a new instance -/
def mkO (C : Str) (F : FD) (ds : List D) (μ : Store) : Res D := match F (.ref μ.length :: ds) (μ ++ [.obj C []]) with
  | some (.ok .non, μ') => some (.ok (.ref μ.length), μ')
  | some (.error x, μ') => some (.error x, μ')
  | _ => none
def eMk (C : Str) (F : FD) (A : CM (List D)) : CM D := A.bind fun ds _ μ => mkO C F ds μ
theorem runMk {C : Str} {F : FD} {pins : List (Addr × Obj)} {σ : L2.St} {H : Hp} {s : Shared} {Q : VK} {us : List Value} {vs : List V} {ι : List Addr} {μ : Store} {ds : List D} (M : MkK X.prog X.w X.K X.mg X.base j C F) (hr : Room k X.A) (hjk : j + 1 ≤ k) (hG : X.A.guards = some []) (hW : ∀ x ι σ H, W x ι σ H → False)
    (I : Inv X pins σ H s) (r : Vals vs us) (wf : WF X.K ι μ H) (vr : VRs X.K ι H vs ds) (h : PostG (VR X.K) X.K W σ ι H Q (mkO C F ds μ)) : wpAny (model X.prog X.w) X.A (call (.ref (He.ga X.K C)) us) (EP X pins σ Q) X.xe s := by
  obtain ⟨f, fd, ps, G, mk, hmg, cl, hb, hlen⟩ := M.ex
  have hr := hr.mono hjk
  have n1 : H (s.heap.objs.size + 1) = none := I.hok.fresh (Nat.le_succ _)
  have n2 : H s.heap.objs.size = none := I.hok.fresh (Nat.le_refl _)
  have ne : s.heap.objs.size ≠ s.heap.objs.size + 1 := Nat.ne_of_lt (Nat.lt_succ_self _)
  have I2 := Inv.made (C := He.ga X.K C) I
  have nn : F (.ref μ.length :: ds) (μ ++ [.obj C []]) ≠ none := fun z => by unfold mkO at h; rw [z] at h; exact h
  have l0 : Le ι H ι (upd H s.heap.objs.size (.own (s.heap.objs.size + 1))) := Le.laid n2
  have w0 := wf.laid (o := .own (s.heap.objs.size + 1)) n2
  have n1' : (upd H s.heap.objs.size (.own (s.heap.objs.size + 1))) (s.heap.objs.size + 1) = none := by rw [upd_ne (Ne.symm ne)]; exact n1
  have w2 : WF X.K (ι ++ [s.heap.objs.size + 1]) (μ ++ [.obj C []]) (upd (upd H s.heap.objs.size (.own (s.heap.objs.size + 1))) (s.heap.objs.size + 1) (.ins (He.ga X.K C) s.heap.objs.size [])) :=
    w0.cell n1' (u := .obj C []) ⟨_, [], upd_same, rfl, .nil, cl, fun f hf => by simp at hf⟩
  have l2 := l0.trans (Le.cell (o := .ins (He.ga X.K C) s.heap.objs.size []) n1')
  have hself : (ι ++ [s.heap.objs.size + 1])[μ.length]? = some (s.heap.objs.size + 1) := by rw [← wf.len]; simp
  have vv : VRs X.K (ι ++ [s.heap.objs.size + 1]) (upd (upd H s.heap.objs.size (.own (s.heap.objs.size + 1))) (s.heap.objs.size + 1) (.ins (He.ga X.K C) s.heap.objs.size [])) (V.ref (s.heap.objs.size + 1) :: vs) (.ref μ.length :: ds) := .cons (.ref hself) (vr.mono l2)
  have hl : (V.ref (s.heap.objs.size + 1) :: vs).length = ps.length := by rw [vv.length]; exact hlen _ _ nn
  have rr : Vals (V.ref (s.heap.objs.size + 1) :: vs) (Value.ref (s.heap.objs.size + 1) :: us) := .cons rfl r
  have hl2 : (Value.ref (s.heap.objs.size + 1) :: us ++ ([] : List Value)).length = ps.length := by rw [List.append_nil, ← rr.length]; exact hl
  have post : PostF X.K noXR (ι ++ [s.heap.objs.size + 1]) (upd (upd H s.heap.objs.size (.own (s.heap.objs.size + 1))) (s.heap.objs.size + 1) (.ins (He.ga X.K C) s.heap.objs.size [])) (fun v H2 => v = .non ∧ Q (.ref (s.heap.objs.size + 1)) H2) E0 (F (.ref μ.length :: ds) (μ ++ [.obj C []])) := by
    unfold mkO at h
    generalize F (.ref μ.length :: ds) (μ ++ [.obj C []]) = z at h ⊢
    match z, h with
    | some (.ok .non, μ'), h =>
      intro ι' H' v l w vr
      cases vr
      exact ⟨rfl, h ι' H' _ (l2.trans l) w (.ref (l.pre _ _ hself))⟩
    | some (.error x, μ'), h => exact fun ι' H' c dd l w z => z.elim
  have bt := hb { s with heap := (s.heap.push PySem.W.emptyDict).push (PySem.W.instObj (He.ga X.K C) s.heap.objs.size) } (Value.ref (s.heap.objs.size + 1) :: us) I2.kIn hl2
  rw [List.append_nil] at bt
  refine wpAny_call (make_map (f := f) I.kIn mk.makes mk.init (beq_iff_eq.mp mk.fn) (codeAny_mono (G.go (hr.make (He.ga X.K C) us []) hG (I2.env0.make (He.ga X.K C) us []) bt rr hl w2 vv post) fun r s' hq' => ?_))
  cases r with
  | error e => exact passL pins σ _ _ e s' I2 hq'
  | ok fl =>
    cases fl with
    | ret u =>
      obtain ⟨v, H', I3, rv, ev, q3⟩ := I2.after hq'
      subst ev
      exact ⟨rv, ⟨V.ref (s.heap.objs.size + 1), H', I3, rfl, q3⟩⟩
    | next => exact False.elim hq'
    | brk => exact False.elim hq'
    | cont => exact False.elim hq'
theorem d_mk {C : Str} {F : FD} {p : Pos} (M : MkK X.prog X.w X.K X.mg X.base j C F) (hr : Room k X.A) (hjk : j + 1 ≤ k) (hG : X.A.guards = some []) (hg : Gl X C) (ha : PA X (e :: es) (tA X.K W As)) (hW : ∀ x ι σ H, W x ι σ H → False)
    (hdb : (C == ("__debug__" : Str)) = false := by decide) (hst : starEach (e :: es) X.env = (false, eval e X.env) :: starEach es X.env := by rfl) (hpl : (backTo pos (starEach es X.env)).any (·.1) = false := by rfl) :
    PE X (.Call (.Name C p) (e :: es) [] pos) (tE X.K W (eMk C F As)) := by
  refine ⟨fun pins s σ H Q I ⟨ρ, ι, μ, sr, wf, h⟩ => ?_⟩
  obtain ⟨f, fd, ps, G, mk, hmg, _⟩ := M.ex
  refine wpAny_Call_Name_kw (ld_glob I hg hmg ?_ hdb)
  refine PySem.W.callWith_K (h₀ := X.base) I.ok.mod.kin mk.kp (thn (ha.run pos pins s σ H _ I (PostG.bind sr wf h)) ?_) hst hpl
  rintro us s1 ⟨vs, H1, I1, r, ι1, μ1, ds, l1, w1, v1, h1⟩
  exact ⟨I1.kIn, runMk M hr hjk hG hW I1 r w1 v1 h1⟩
/-! ### properties -/
structure PrK (P : Program) (w : World) (K : PySem.W.Frag) (mg : Str → Option Value) (base : Heap) (k : Nat) (C m : Str) (F : FD) : Prop where
  ex : ∃ p f fd ps, FnG P w K mg base noXR k f fd ps F ∧ PropOf K (He.ga K C) m p f ∧ Binds K fd ps [] ∧ ∀ ds μ, F ds μ ≠ none → ds.length = ps.length
def ePr (tb : List (Str × FD)) (O : CM D) : CM D := O.bind fun o ρ μ => match o with
  | .ref i => match μ[i]? with
    | some (.obj C _) => match tb.lookup C with
      | some F => F [.ref i] μ
      | none => none
    | _ => none
  | _ => none
theorem d_pr {f : Str} (he : PE X o (tE X.K W O)) (ht : ∀ C F, tb.lookup C = some F → PrK X.prog X.w X.K X.mg X.base j C f F) (hr : Room k X.A) (hjk : j + 1 ≤ k) (hG : X.A.guards = some []) (hW : ∀ x ι σ H, W x ι σ H → False)
    (hab : attributeBase o f X.env (eval o X.env) = eval o X.env) : PE X (.Attribute o f pos) (tE X.K W (ePr tb O)) := by
  refine ⟨fun pins s σ H Q I ⟨ρ, ι, μ, sr, wf, h⟩ => ?_⟩
  refine attr_of hab (thn (he.run pins s σ H _ I (PostG.bind sr wf h)) ?_)
  rintro u s1 ⟨x, H1, I1, rx, ι1, μ1, d, l1, w1, vx, h1⟩
  cases vx with
  | @ref a i hi =>
    obtain rfl : u = Value.ref a := rx
    obtain ⟨ob, hob, ro⟩ := w1.has hi
    simp only [hob] at h1
    cases ob with
    | obj C fs =>
      obtain ⟨dx, gs, ea, kk, r, c, n⟩ := ro
      cases et : tb.lookup C with
      | none => simp only [et] at h1; exact h1.elim
      | some F =>
        simp only [et] at h1
        obtain ⟨p, g, fd, ps, G, hp, hb, hl⟩ := (ht C F et).ex
        obtain ⟨mA, O', _, _, _, _⟩ := ins_get I1.hok ea
        obtain ⟨od, J, _⟩ := O'.look
        obtain ⟨rest, hrec⟩ := hp.rec_
        have I2 := I1.tok (s1.toks + 1)
        have nn : F [.ref i] μ1 ≠ none := fun z => by rw [z] at h1; exact h1
        have hlp : ([V.ref a] : List V).length = ps.length := by have := hl _ _ nn; simpa using this
        have hc : (PySem.W.clsIn X.K (He.ga X.K C)).isSome = true := by
          obtain ⟨cd, hc, _⟩ := PySem.W.any_some c.hd
          rw [hc]
          rfl
        have post : PostF X.K noXR ι1 H1 Q E0 (F [.ref i] μ1) := by
          generalize F [.ref i] μ1 = z at h1 ⊢
          match z, h1 with
          | some (.ok _, _), h => exact h
          | some (.error x, _), h => exact fun ι' H' c dd l w z => z.elim
        have bt := hb { s1 with toks := s1.toks + 1 } [.ref a] I2.kIn (by simpa using hlp)
        rw [List.append_nil] at bt
        refine PySem.W.get_bind I1.kIn J (PySem.W.plainGet_of (c.get f)).1 (PySem.W.findObj_data hc hp.at_ hp.get hp.tak) (PySem.W.plainGet_of (c.get f)).2 (wpAny_call (PySem.W.prop_get (s := { s1 with toks := s1.toks + 1 }) I1.kIn hrec ?_))
        refine codeAny_mono (G.go (hr.mono hjk).in1 hG I2.env0.in1 bt (vs := [V.ref a]) (.cons rfl .nil) hlp w1 (.cons (.ref hi) .nil) post) fun r s' hq => ?_
        cases r with
        | error er =>
          exact False.elim (passL (X := X.nox) pins σ H1 { s1 with toks := s1.toks + 1 } er s' (I2.wish _) hq)
        | ok fl =>
          cases fl with
          | ret u =>
            obtain ⟨v, H', I3, rv, q3⟩ := I2.after hq
            show wpAny _ _ (handedOut u) _ _ _
            rw [PySem.W.handedOut_of (handed_of rv)]
            exact wpAny_pure ⟨v, H', I3, rv, q3⟩
          | next => exact False.elim hq
          | brk => exact False.elim hq
          | cont => exact False.elim hq
    | _ => exact h1.elim
  | _ => exact h1.elim
end
end DM

namespace DM
open PySem PySem.Spec L2
/-! ### o.f op= e -/
def sAugF (f : Str) (F : D → D → Store → Res D) (O E : CM D) : SF := lft O fun o ρ μ => match o with
  | .ref i => match μ[i]? with
    | some (.obj C fs) => match fs.lookup f with
      | some v => (lft E fun e => lft (fun _ μ => F v e μ) fun z ρ μ => match μ[i]? with
        | some (.obj C' fs') => if C' = C ∧ fs'.length < 1000 ∧ f ∈ fs'.map (·.1) then some (.nx ρ, μ.set i (.obj C (putD f z fs'))) else none
        | _ => none) ρ μ
      | none => none
    | _ => none
  | _ => none
theorem ds_augF {X : Cx} {W : DW} {o value : Expr} {f : Str} {tpos pos : Pos} {op : Operator} {rd : V → V → Hp → VK → Prop} {F : D → D → Store → Res D} {O E : CM D} (ha : PE X o (tE X.K W O)) (hv : PE X value (tE X.K W E)) (hop : InOp X op rd) (hF : Lift2 X.K rd F) : PS X (.AugAssign (.Attribute o f tpos) op value pos) (sD X.K W (sAugF f F O E)) :=
  (ps_fldaug ha hv hop).imp fun T σ H ⟨ρ, ι, μ, sr, wf, h⟩ => by
    refine tG.mono (PostS.bind sr wf h) ?_
    rintro x H1 ⟨ι1, μ1, d, l1, w1, vx, h1⟩
    cases vx with
    | @ref a i hi =>
      obtain ⟨ob, hob, ro⟩ := w1.has hi
      simp only [hob] at h1
      cases ob with
      | obj C fs =>
        obtain ⟨dx, gs, ea, kk, r, c, n⟩ := ro
        simp only [] at h1
        cases el : fs.lookup f with
        | none => rw [el] at h1; exact h1.elim
        | some v =>
          simp only [el] at h1
          obtain ⟨vv, ev, rv⟩ := fld_look kk r el
          refine ⟨a, _, dx, gs, vv, rfl, ea, c, n f (fld_mem el), ev, ?_⟩
          refine tG.mono (PostS.bind (sr.mono l1) w1 h1) ?_
          rintro y H2 ⟨ι2, μ2, e, l2, w2, vy, h2⟩
          refine hF W σ ι2 μ2 H2 vv y v e _ w2 (rv.mono l2) vy (PostG.mono (PostS.bindP (R := VR X.K) (A := fun _ μ => F v e μ) ((sr.mono l1).mono l2) h2) ?_)
          rintro z H3 ⟨ι3, μ3, g, l3, w3, vz, h3⟩
          have hi3 := l3.pre _ _ (l2.pre _ _ hi)
          obtain ⟨ob3, hob3, ro3⟩ := w3.has hi3
          simp only [hob3] at h3
          cases ob3 with
          | obj C3 fs3 =>
            obtain ⟨q, h3⟩ := PostS.guard h3
            obtain ⟨dx3, gs3, ea3, kk3, r3, c3, n3⟩ := ro3
            obtain ⟨rfl, q1, q2⟩ := q
            have hl : gs3.length = fs3.length := by have := congrArg List.length kk3; simpa using this
            obtain ⟨p1, p2⟩ := put_rel (f := f) vz kk3 r3
            refine ⟨dx3, gs3, ea3, by rw [hl]; exact q1, h3 σ ι3 _ (Le.set hi3 (nf ea3)) (w3.set hi3 (nf ea3) (u := .obj C3 (putD f g fs3)) ⟨dx3, _, upd_same, p1, p2.mono (Le.set hi3 (nf ea3)), c3, fun g' hg => ?_⟩) ((sr.mono (l1.trans (l2.trans l3))).mono (Le.set hi3 (nf ea3)))⟩
            rcases put_keys hg with z | z
            · rw [z]; exact n3 f q2
            · exact n3 g' z
          | _ => exact h3.elim
      | _ => exact h1.elim
    | _ => exact h1.elim
def FaddN : D → D → Store → Res D
  | .int i, .int j, μ => okR (.int (i + j)) μ
  | _, _, _ => none
theorem lift_rAdd {K : PySem.W.Frag} : Lift2 K rAdd FaddN := by
  intro W σ ι μ H x y d e Q w vx vy h
  cases vx with
  | int i =>
    cases vy with
    | int j => exact ⟨i, j, rfl, rfl, h.ok0 w (.int _)⟩
    | _ => exact h.elim
  | _ => exact h.elim
theorem lift_rSub {K : PySem.W.Frag} : Lift2 K rSub Fsub := by
  intro W σ ι μ H x y d e Q w vx vy h
  cases vx with
  | int i =>
    cases vy with
    | int j => exact ⟨i, j, rfl, rfl, h.ok0 w (.int _)⟩
    | _ => exact h.elim
  | _ => exact h.elim
/-! ### isinstance of built-in types -/
def tyD (μ : Store) : D → Option String
  | .non => some "NoneType"
  | .bl _ => some "bool"
  | .int _ => some "int"
  | .str _ => some "str"
  | .tup _ => some "tuple"
  | .lst _ => some "list"
  | .fl _ => some "list"
  | .ref i => match μ[i]? with
    | some (.lst _) => some "list"
    | some (.dct _) => some "dict"
    | _ => none
def isiB (t T : String) : Bool := t == T || (t == "bool" && T == "int")
def tysB : List String := ["int", "bool", "str", "tuple", "list", "dict"]
def tysV : List String := ["NoneType", "bool", "int", "str", "tuple", "list", "dict"]
theorem kit_all (K : PySem.W.Frag) {T : String} (hT : T ∈ tysB) {t : String} (ht : t ∈ tysV) : PySem.W.kitOne K (.type t) (.type T) = some (isiB t T) := by
  simp only [tysB, tysV, List.mem_cons, List.not_mem_nil, or_false] at hT ht
  rcases hT with rfl | rfl | rfl | rfl | rfl | rfl <;> rcases ht with rfl | rfl | rfl | rfl | rfl | rfl | rfl <;> rfl
theorem tyD_ok {K : PySem.W.Frag} {ι : List Addr} {H : Hp} {μ : Store} {x : V} {d : D} {t : String} (w : WF K ι μ H) (v : VR K ι H x d) (h : tyD μ d = some t) : TyX K H x (.type t) ∧ t ∈ tysV := by
  cases v with
  | non => cases h; exact ⟨.base .non, by decide⟩
  | bl b => cases h; exact ⟨.base (.bl b), by decide⟩
  | int b => cases h; exact ⟨.base (.int b), by decide⟩
  | str b => cases h; exact ⟨.base (.str b), by decide⟩
  | tup hh r =>
    cases h
    refine ⟨?_, by decide⟩
    rcases hh with ⟨⟨o, e, _⟩, _⟩ | ⟨o, its, n, e, c, _⟩ | ⟨e, _⟩
    · exact .fTuple e
    · exact .kTuple e c
    · exact .base (.tup e)
  | lst hh r => cases h; exact ⟨.base (.lst hh.1), by decide⟩
  | fl hh r =>
    cases h
    refine ⟨?_, by decide⟩
    rcases hh with ⟨⟨o, e⟩, _⟩ | ⟨o, its, n, e, c, _⟩
    · exact .base (.frz e)
    · exact .kList e c
  | ref hi =>
    obtain ⟨o, ho, ro⟩ := w.has hi
    simp only [tyD, ho] at h
    cases o with
    | lst xs => cases h; obtain ⟨vs, e, _⟩ := ro; exact ⟨.base (.lst e), by decide⟩
    | dct kvs => cases h; obtain ⟨qs, e, _⟩ := ro; exact ⟨.base (.dK e), by decide⟩
    | dcl kvs => cases h
    | dtt kvs => cases h
    | obj C fs => cases h
def eIsi (T : String) (E : CM D) : CM D := E.bind fun d _ μ => match tyD μ d with
  | some t => okR (.bl (isiB t T)) μ
  | none => none
end DM
namespace L2
open PySem PySem.Spec
/-- a built-in type by its name -/
theorem pe_ty {X : Cx} {x : Str} {T : String} {p : Pos} (hg : Gl X x) (hm : X.mg x = none) (hv : bootBuiltins x = some (.type T)) (hnm : x ≠ "__name__" := by decide) (hdb : (x == ("__debug__" : Str)) = false := by decide) : PE X (.Name x p) (tC (.ty T)) :=
  ⟨fun pins s σ H Q I h => ld_blt I hg hm hv ⟨.ty T, H, I, rfl, h⟩ hnm hdb⟩
end L2
namespace DM
open PySem PySem.Spec L2
theorem d_isi {X : Cx} {W : DW} {e : Expr} {E : CM D} {x : Str} {T : String} {p p2 pos : Pos} (hg : Gl X "isinstance") (hm : X.mg "isinstance" = none) (hgt : Gl X x) (hmt : X.mg x = none) (hv : bootBuiltins x = some (.type T)) (hT : T ∈ tysB) (he : PE X e (tE X.K W E)) (hnm : x ≠ "__name__" := by decide) (hdb : (x == ("__debug__" : Str)) = false := by decide)
    (hs : starEach [e, .Name x p2] X.env = (false, eval e X.env) :: starEach [.Name x p2] X.env := by rfl) (hs2 : starEach [.Name x p2] X.env = (false, eval (.Name x p2) X.env) :: starEach [] X.env := by rfl) : PE X (.Call (.Name "isinstance" p) [e, .Name x p2] [] pos) (tE X.K W (eIsi T E)) :=
  (pe_callB call_isi hg hm (by decide +kernel) (pa_cons he (pa_cons (pe_ty hgt hmt hv hnm hdb) pa_nil hs2) hs) (by decide) (by decide) hs (by rw [hs2]; rfl)).imp fun σ H Q ⟨ρ, ι, μ, sr, wf, h⟩ => by
    refine tG.mono (PostG.bind sr wf h) ?_
    rintro v H1 ⟨ι1, μ1, d, l1, w1, vx, h1⟩
    cases et : tyD μ1 d with
    | none => rw [et] at h1; exact h1.elim
    | some t =>
      rw [et] at h1
      obtain ⟨ty, ht⟩ := tyD_ok w1 vx et
      exact ⟨v, .ty T, .type t, .type T, _, rfl, .ty T, ty, kit_all X.K hT ht, h1.ok0 w1 (.bl _)⟩
/-! ### stars in displays and calls -/
def aStar (E : CM D) (As : CM (List D)) : CM (List D) := E.bind fun d => fun ρ μ => match itemsD μ d with
  | some xs => (As.bind fun ds => CM.ret (xs ++ ds)) ρ μ
  | none => none
theorem da_star {X : Cx} {W : DW} {e : Expr} {es : List Expr} {p : Pos} {E : CM D} {As : CM (List D)} (he : PE X e (tE X.K W E)) (hr : PA X es (tA X.K W As)) (hs : starEach (.Starred e p :: es) X.env = (true, eval e X.env) :: starEach es X.env := by rfl) : PA X (.Starred e p :: es) (tA X.K W (aStar E As)) :=
  (StX.pa_star he hr hs).imp fun σ H Q ⟨ρ, ι, μ, sr, wf, h⟩ => by
    refine tG.mono (PostG.bind sr wf h) ?_
    rintro x H1 ⟨ι1, μ1, d, l1, w1, vx, h1⟩
    cases ei : itemsD μ1 d with
    | none => simp only [ei] at h1; exact h1.elim
    | some xs =>
      simp only [ei] at h1
      obtain ⟨a, vs, rfl, rv, hq⟩ := itemsD_sq w1 vx ei
      refine ⟨a, vs, rfl, hq.elim .inr (fun z => .inl z.1), tG.mono (PostG.bind (sr.mono l1) w1 h1) ?_⟩
      rintro ys H2 ⟨ι2, μ2, ds, l2, w2, vy, h2⟩
      exact PostG.ok0 h2 w2 ((rv.mono l2).append vy)
/-! ### dicts -/
def keyD : D → Option Key
  | .int i => some (.inl i)
  | .str x => some (.inr x)
  | _ => none
def valD (kvs : List (Key × D)) (k : Key) : Option D := (kvs.find? fun kv => decide (kv.1 = k)).map (·.2)
def putKD (kvs : List (Key × D)) (k : Key) (v : D) : List (Key × D) := if (kvs.any fun kv => decide (kv.1 = k)) = true then kvs.map (fun kv => if kv.1 = k then (kv.1, v) else kv) else kvs ++ [(k, v)]
section
variable {K : PySem.W.Frag} {ι : List Addr} {H : Hp}
theorem keyD_vr {x : V} {d : D} {k : Key} (v : VR K ι H x d) (h : keyD d = some k) : x = kV k := by
  cases v <;> cases h <;> rfl
theorem valD_some {k : Key} {d : D} : ∀ {qs : List (Key × V)} {kvs : List (Key × D)}, qs.map (·.1) = kvs.map (·.1) → VRs K ι H (qs.map (·.2)) (kvs.map (·.2)) → valD kvs k = some d → ∃ v, valV qs k = some v ∧ VR K ι H v d
  | [], [], _, _, e => by cases e
  | [], _ :: _, q, _, _ => by cases q
  | _ :: _, [], q, _, _ => by cases q
  | (g, x) :: gr, (h, y) :: fr, q, r, e => by
    simp only [List.map_cons, List.cons.injEq] at q
    obtain ⟨k1, k2⟩ := q
    subst k1
    rw [List.map_cons, List.map_cons] at r
    cases r with
    | cons r1 r2 =>
    unfold valD at e
    unfold valV
    rw [List.find?_cons] at e ⊢
    by_cases z : g = k
    · simp only [z, decide_true] at e ⊢
      cases e
      exact ⟨x, rfl, r1⟩
    · simp only [z, decide_false] at e ⊢
      exact valD_some k2 r2 e
theorem valD_none {k : Key} : ∀ {qs : List (Key × V)} {kvs : List (Key × D)}, qs.map (·.1) = kvs.map (·.1) → valD kvs k = none → valV qs k = none
  | [], [], _, _ => rfl
  | [], _ :: _, q, _ => by cases q
  | _ :: _, [], q, _ => by cases q
  | (g, x) :: gr, (h, y) :: fr, q, e => by
    simp only [List.map_cons, List.cons.injEq] at q
    obtain ⟨k1, k2⟩ := q
    subst k1
    unfold valD at e
    unfold valV
    rw [List.find?_cons] at e ⊢
    by_cases z : g = k
    · simp only [z, decide_true] at e; cases e
    · simp only [z, decide_false] at e ⊢
      exact valD_none k2 e
theorem any_keys {α β : Type} {k : Key} : ∀ {qs : List (Key × α)} {kvs : List (Key × β)}, qs.map (·.1) = kvs.map (·.1) → (qs.any fun kv => decide (kv.1 = k)) = kvs.any fun kv => decide (kv.1 = k)
  | [], [], _ => rfl
  | [], _ :: _, q => by cases q
  | _ :: _, [], q => by cases q
  | (g, x) :: gr, (h, y) :: fr, q => by
    simp only [List.map_cons, List.cons.injEq] at q
    obtain ⟨k1, k2⟩ := q
    subst k1
    rw [List.any_cons, List.any_cons, any_keys k2]
theorem map_keys {α : Type} (k : Key) (v : α) (qs : List (Key × α)) : (qs.map fun kv => if kv.1 = k then (kv.1, v) else kv).map (·.1) = qs.map (·.1) := by
  rw [List.map_map]
  refine List.map_congr_left fun kv _ => ?_
  show (if kv.1 = k then (kv.1, v) else kv).1 = kv.1
  split <;> rfl
theorem putK_rel {k : Key} {v : V} {d : D} (hv : VR K ι H v d) {qs : List (Key × V)} {kvs : List (Key × D)} (q : qs.map (·.1) = kvs.map (·.1)) (r : VRs K ι H (qs.map (·.2)) (kvs.map (·.2))) : (putK qs k v).map (·.1) = (putKD kvs k d).map (·.1) ∧ VRs K ι H ((putK qs k v).map (·.2)) ((putKD kvs k d).map (·.2)) := by
  unfold putK putKD
  rw [any_keys q]
  split
  · refine ⟨by rw [map_keys, map_keys, q], ?_⟩
    rename_i hz
    clear hz
    induction qs generalizing kvs with
    | nil => cases kvs with | nil => exact .nil | cons _ _ => cases q
    | cons p qs ih =>
      cases kvs with
      | nil => cases q
      | cons p2 kvs =>
        obtain ⟨g, x⟩ := p
        obtain ⟨h, y⟩ := p2
        simp only [List.map_cons, List.cons.injEq] at q
        obtain ⟨k1, k2⟩ := q
        subst k1
        rw [List.map_cons, List.map_cons] at r
        cases r with
        | cons r1 r2 =>
        rw [List.map_cons, List.map_cons, List.map_cons, List.map_cons]
        by_cases z : g = k
        · simp only [z, if_true]
          exact .cons hv (by simpa using ih k2 r2)
        · simp only [z, if_false]
          exact .cons r1 (by simpa using ih k2 r2)
  · refine ⟨by simp [q], ?_⟩
    rw [List.map_append, List.map_append]
    exact r.append (.cons hv .nil)
end
def eDNew : CM D := fun _ μ => some (.ok (.ref μ.length), μ ++ [.dct []])
def dctAt (μ : Store) : D → Option (Nat × List (Key × D))
  | .ref c => match μ[c]? with
    | some (.dct kvs) => some (c, kvs)
    | some (.dcl kvs) => some (c, kvs)
    | _ => none
  | _ => none
def dctW (μ : Store) : D → Option (Nat × List (Key × D))
  | .ref c => match μ[c]? with
    | some (.dct kvs) => some (c, kvs)
    | _ => none
  | _ => none
def FdGet (o i : D) (μ : Store) : Res D := match dctAt μ o, keyD i with
  | some (_, kvs), some k => pureR (valD kvs k) μ
  | _, _ => none
def FdIn (neg : Bool) (i o : D) (μ : Store) : Res D := match dctAt μ o, keyD i with
  | some (_, kvs), some k => okR (.bl (if neg then !(valD kvs k).isSome else (valD kvs k).isSome)) μ
  | _, _ => none
def FdPut (o i v : D) (μ : Store) : Option Store := match dctW μ o, keyD i with
  | some (c, kvs), some k => if kvs.length < sizeLine then some (μ.set c (.dct (putKD kvs k v))) else none
  | _, _ => none
theorem dctAt_vr {K : PySem.W.Frag} {ι : List Addr} {H : Hp} {μ : Store} {x : V} {d : D} {c : Nat} {kvs : List (Key × D)} (w : WF K ι μ H) (v : VR K ι H x d) (h : dctAt μ d = some (c, kvs)) : ∃ a qs, x = .ref a ∧ ι[c]? = some a ∧ Rd H a (.dK qs) ∧ qs.map (·.1) = kvs.map (·.1) ∧ VRs K ι H (qs.map (·.2)) (kvs.map (·.2)) := by
  cases v with
  | @ref a i hi =>
    obtain ⟨o, ho, ro⟩ := w.has hi
    simp only [dctAt, ho] at h
    cases o with
    | dct k2 =>
      cases h
      obtain ⟨qs, e, q, r⟩ := ro
      exact ⟨a, qs, rfl, hi, .inl e, q, r⟩
    | dcl k2 =>
      cases h
      obtain ⟨u, qs, e, q, r⟩ := ro
      exact ⟨a, qs, rfl, hi, .inr ⟨u, e⟩, q, r⟩
    | _ => cases h
  | _ => cases h
theorem dctW_vr {K : PySem.W.Frag} {ι : List Addr} {H : Hp} {μ : Store} {x : V} {d : D} {c : Nat} {kvs : List (Key × D)} (w : WF K ι μ H) (v : VR K ι H x d) (h : dctW μ d = some (c, kvs)) : ∃ a qs, x = .ref a ∧ ι[c]? = some a ∧ H a = some (.dK qs) ∧ qs.map (·.1) = kvs.map (·.1) ∧ VRs K ι H (qs.map (·.2)) (kvs.map (·.2)) := by
  cases v with
  | @ref a i hi =>
    obtain ⟨o, ho, ro⟩ := w.has hi
    simp only [dctW, ho] at h
    cases o with
    | dct k2 =>
      cases h
      obtain ⟨qs, e, q, r⟩ := ro
      exact ⟨a, qs, rfl, hi, e, q, r⟩
    | _ => cases h
  | _ => cases h
def tDSub (O I : CM D) : D → SF := fun v => lft O fun o => lft I fun i ρ μ => match FdPut o i v μ with
  | some μ' => some (.nx ρ, μ')
  | none => none
section
variable {X : Cx} {W : DW} {o i e : Expr} {O I E : CM D} {pos pos' : Pos} {k : Nat}
theorem d_dnew : PE X (.Dict [] [] pos) (tE X.K W eDNew) := pe_dnewK.imp fun σ H Q ⟨ρ, ι, μ, sr, wf, h⟩ p hp => h.ok (Le.cell hp) (wf.cell hp (u := .dct []) ⟨[], upd_same, rfl, .nil⟩) (.ref (by rw [← wf.len]; simp))
theorem d_dget (hr : Room k X.A) (ho : PE X o (tE X.K W O)) (hi : PE X i (tE X.K W I)) (hs : NoSl i) : PE X (.Subscript o i pos) (tE X.K W (e2 FdGet O I)) :=
  (pe_dget (by have := hr.units; omega) ho hi hs).imp fun σ H Q ⟨ρ, ι, μ, sr, wf, h⟩ => by
    refine tG.mono (PostG.bind sr wf h) ?_
    rintro x H1 ⟨ι1, μ1, d, l1, w1, vx, h1⟩
    refine tG.mono (PostG.bind (sr.mono l1) w1 h1) ?_
    rintro y H2 ⟨ι2, μ2, di, l2, w2, vy, h2⟩
    simp only [FdGet] at h2
    cases ed : dctAt μ2 d with
    | none => rw [ed] at h2; exact h2.elim
    | some p =>
      obtain ⟨c, kvs⟩ := p
      cases ek : keyD di with
      | none => rw [ed, ek] at h2; exact h2.elim
      | some kk =>
        simp only [ed, ek] at h2
        obtain ⟨z, ez, h3⟩ := PostG.pure h2
        obtain ⟨a, qs, rfl, hc, ea, q, r⟩ := dctAt_vr w2 (vx.mono l2) ed
        obtain ⟨v, ev, rv⟩ := valD_some q r ez
        have ey := keyD_vr vy ek
        subst ey
        exact ⟨a, v, rfl, by rw [← ev]; exact .inl ⟨qs, kk, ea, rfl, rfl⟩, h3.ok0 w2 rv⟩
theorem dg_dsub (hr : Room k X.A) (ho : PE X o (tE X.K W O)) (hi : PE X i (tE X.K W I)) (ha : ∀ v, assign (.Subscript o i pos) X.env v = (do
      let ov ← holding [v] (eval o X.env)
      let iv ← holding [v, ov] (eval i X.env)
      standAt pos
      holding [v, ov, iv] (setItem ov iv v)
      release [v, ov, iv] []) := by intro _; rfl) : PG X (.Subscript o i pos) (tgD X.K W (tDSub O I)) :=
  (pg_sub ho hi (set_dict (by have := hr.units; omega)) ha).imp fun v σ H Q ⟨ρ, ι, μ, dv, sr, wf, vr, h⟩ => by
    refine tG.mono (PostS.bind sr wf h) ?_
    rintro x H1 ⟨ι1, μ1, d, l1, w1, vx, h1⟩
    refine tG.mono (PostS.bind (sr.mono l1) w1 h1) ?_
    rintro y H2 ⟨ι2, μ2, di, l2, w2, vy, h2⟩
    simp only [FdPut] at h2
    cases ed : dctW μ2 d with
    | none => rw [ed] at h2; exact h2.elim
    | some p =>
      obtain ⟨c, kvs⟩ := p
      cases ek : keyD di with
      | none => rw [ed, ek] at h2; exact h2.elim
      | some kk =>
        simp only [ed, ek] at h2
        by_cases hl : kvs.length < sizeLine
        · rw [if_pos hl] at h2
          obtain ⟨a, qs, rfl, hc, ea, q, r⟩ := dctW_vr w2 (vx.mono l2) ed
          have ey := keyD_vr vy ek
          subst ey
          have hql : qs.length < sizeLine := by have := congrArg List.length q; simp at this; omega
          obtain ⟨p1, p2⟩ := putK_rel (k := kk) (vr.mono (l1.trans l2)) q r
          exact ⟨a, _, rfl, DPut.k ea hql, h2 σ ι2 _ (Le.set hc (nf ea)) (w2.set hc (nf ea) (u := .dct (putKD kvs kk dv)) ⟨_, upd_same, p1, p2.mono (Le.set hc (nf ea))⟩) ((sr.mono (l1.trans l2)).mono (Le.set hc (nf ea)))⟩
        · rw [if_neg hl] at h2; exact h2.elim
end
end DM

namespace DM
open PySem PySem.Spec L2
def clsB : Stmt → List Stmt
  | .ClassDef _ _ _ body _ _ _ _ _ _ _ => body
  | _ => []
/-! ### tables of methods -/
section
variable {P : Program} {w : World} {K : PySem.W.Frag} {mg : Str → Option Value} {base : Heap}
theorem MtK.mono {j k : Nat} {C m : Str} {F : FD} (h : MtK P w K mg base j C m F) (l : j ≤ k) : MtK P w K mg base k C m F := by
  obtain ⟨f, fd, ps, G, r⟩ := h.ex
  exact ⟨⟨f, fd, ps, G.mono l, r⟩⟩
theorem PrK.mono {j k : Nat} {C m : Str} {F : FD} (h : PrK P w K mg base j C m F) (l : j ≤ k) : PrK P w K mg base k C m F := by
  obtain ⟨p, f, fd, ps, G, r⟩ := h.ex
  exact ⟨⟨p, f, fd, ps, G.mono l, r⟩⟩
end
theorem tb_nil {R : Str → FD → Prop} : ∀ C F, ([] : List (Str × FD)).lookup C = some F → R C F := fun _ _ h => by cases h
theorem tb_cons {R : Str → FD → Prop} {C : Str} {F : FD} {tb : List (Str × FD)} (h : R C F) (r : ∀ C F, tb.lookup C = some F → R C F) : ∀ C' F', ((C, F) :: tb).lookup C' = some F' → R C' F' := fun C' F' e => by
  rw [List.lookup_cons] at e
  by_cases z : (C' == C) = true
  · simp only [z] at e
    cases e
    rw [beq_iff_eq.mp z]
    exact h
  · have z' : (C' == C) = false := by simpa using z
    simp only [z'] at e
    exact r C' F' e
theorem na_nil {K : PySem.W.Frag} {f : Str} : ∀ C ∈ ([] : List Str), NoAttr K (He.ga K C) f := fun _ h => by simp at h
theorem na_cons {K : PySem.W.Frag} {f C : Str} {cs : List Str} (h : NoAttr K (He.ga K C) f) (r : ∀ C ∈ cs, NoAttr K (He.ga K C) f) : ∀ C' ∈ C :: cs, NoAttr K (He.ga K C') f := fun C' hm => by
  rcases List.mem_cons.mp hm with z | z
  · rw [z]; exact h
  · exact r C' z
/-! ### dict displays -/
def pR (K : PySem.W.Frag) (ι : List Addr) (H : Hp) (ps : List (V × V)) (ds : List (D × D)) : Prop := VRs K ι H (ps.map (·.1)) (ds.map (·.1)) ∧ VRs K ι H (ps.map (·.2)) (ds.map (·.2))
def pNil : CM (List (D × D)) := CM.ret []
def pCons (A B : CM D) (P : CM (List (D × D))) : CM (List (D × D)) := A.bind fun a => B.bind fun b => P.bind fun ps => CM.ret ((a, b) :: ps)
structure DPs (X : Cx) (W : DW) (pos : Pos) (keys : List (Option Expr)) (values : List Expr) (P : CM (List (D × D))) : Prop where
  ex : ∃ trs, PPs X pos keys values trs ∧ ∀ σ H Q, tG (pR X.K) X.K W P σ H Q → tPairs trs σ H Q
def keysD : List (D × D) → Option (List (Key × D))
  | [] => some []
  | (a, b) :: r => match keyD a, keysD r with
    | some k, some t => some ((k, b) :: t)
    | _, _ => none
def mergeKD (kvs more : List (Key × D)) : List (Key × D) := more.foldl (fun acc kv => putKD acc kv.1 kv.2) kvs
def eDisp (P : CM (List (D × D))) : CM D := fun ρ μ => match P ρ (μ ++ [.dct []]) with
  | some (.ok ps, μ') => (match keysD ps, μ'[μ.length]? with
    | some kvs, some (.dct []) => if kvs.length ≤ 15 then some (.ok (.ref μ.length), μ'.set μ.length (.dct (mergeKD [] kvs))) else none
    | _, _ => none)
  | some (.error x, μ') => some (.error x, μ')
  | none => none
theorem keysD_rel {K : PySem.W.Frag} {ι : List Addr} {H : Hp} : ∀ {ps : List (V × V)} {ds : List (D × D)} {kvs : List (Key × D)}, pR K ι H ps ds → keysD ds = some kvs → ∃ qs : List (Key × V), ps = qs.map (fun kv => (kV kv.1, kv.2)) ∧ qs.map (·.1) = kvs.map (·.1) ∧ VRs K ι H (qs.map (·.2)) (kvs.map (·.2))
  | [], [], _, _, e => by cases e; exact ⟨[], rfl, rfl, .nil⟩
  | [], _ :: _, _, h, _ => by have := h.1.length; simp at this
  | _ :: _, [], _, h, _ => by have := h.1.length; simp at this
  | (x, y) :: ps, (a, b) :: ds, kvs, ⟨h1, h2⟩, e => by
    rw [List.map_cons, List.map_cons] at h1 h2
    cases h1 with
    | cons r1 r2 =>
    cases h2 with
    | cons s1 s2 =>
    unfold keysD at e
    cases ek : keyD a with
    | none => simp [ek] at e
    | some k =>
      cases er : keysD ds with
      | none => simp [ek, er] at e
      | some t =>
        simp only [ek, er, Option.some.injEq] at e
        subst e
        obtain ⟨qs, e1, e2, e3⟩ := keysD_rel ⟨r2, s2⟩ er
        have ex := keyD_vr r1 ek
        exact ⟨(k, y) :: qs, by simp [e1]; exact ex, by simp [e2], .cons s1 e3⟩
theorem merge_rel {K : PySem.W.Frag} {ι : List Addr} {H : Hp} : ∀ {more : List (Key × V)} {moreD : List (Key × D)} {qs : List (Key × V)} {kvs : List (Key × D)}, more.map (·.1) = moreD.map (·.1) → VRs K ι H (more.map (·.2)) (moreD.map (·.2)) → qs.map (·.1) = kvs.map (·.1) → VRs K ι H (qs.map (·.2)) (kvs.map (·.2)) → (mergeK qs more).map (·.1) = (mergeKD kvs moreD).map (·.1) ∧ VRs K ι H ((mergeK qs more).map (·.2)) ((mergeKD kvs moreD).map (·.2))
  | [], [], _, _, _, _, q, r => ⟨q, r⟩
  | [], _ :: _, _, _, h, _, _, _ => by cases h
  | _ :: _, [], _, _, h, _, _, _ => by cases h
  | (k, x) :: more, (k', y) :: moreD, qs, kvs, h, hr, q, r => by
    simp only [List.map_cons, List.cons.injEq] at h
    obtain ⟨k1, k2⟩ := h
    subst k1
    rw [List.map_cons, List.map_cons] at hr
    cases hr with
    | cons r1 r2 =>
    obtain ⟨p1, p2⟩ := putK_rel (k := k) r1 q r
    have := merge_rel (more := more) (moreD := moreD) k2 r2 p1 p2
    exact this
section
variable {X : Cx} {W : DW} {pos : Pos}
theorem dps_nil : DPs X W pos [] [] pNil := ⟨⟨[], pps_nil, fun σ H Q ⟨ρ, ι, μ, sr, wf, h⟩ => PostG.ok0 (R := pR X.K) h wf ⟨.nil, .nil⟩⟩⟩
theorem dps_cons {k v : Expr} {ks : List (Option Expr)} {vs : List Expr} {A B : CM D} {P : CM (List (D × D))} (hk : PE X k (tE X.K W A)) (hv : PE X v (tE X.K W B)) (hr : DPs X W pos ks vs P) : DPs X W pos (some k :: ks) (v :: vs) (pCons A B P) := by
  obtain ⟨trs, h1, h2⟩ := hr.ex
  refine ⟨⟨_, pps_cons hk hv h1, fun σ H Q ⟨ρ, ι, μ, sr, wf, h⟩ => ?_⟩⟩
  refine tG.mono (PostG.bind sr wf h) ?_
  rintro x H1 ⟨ι1, μ1, a, l1, w1, vx, h1'⟩
  refine tG.mono (PostG.bind (sr.mono l1) w1 h1') ?_
  rintro y H2 ⟨ι2, μ2, b, l2, w2, vy, h2'⟩
  refine h2 σ H2 _ (tG.mono (PostG.bind (R := pR X.K) (sr.mono (l1.trans l2)) w2 h2') ?_)
  rintro ps H3 ⟨ι3, μ3, ds, l3, w3, ⟨r1, r2⟩, h3⟩
  exact PostG.ok0 (R := pR X.K) h3 w3 ⟨.cons (vx.mono (l2.trans l3)) r1, .cons (vy.mono l3) r2⟩
theorem d_disp {keys : List (Option Expr)} {values : List Expr} {P : CM (List (D × D))} (h : DPs X W pos keys values P) (hall : keys.all (·.isSome) = true) (hl : keys.length = values.length) (h0 : keys ≠ []) (h15 : keys.length ≤ 15) : PE X (.Dict keys values pos) (tE X.K W (eDisp P)) := by
  obtain ⟨trs, h1, h2⟩ := h.ex
  refine (pe_disp h1 hall hl h0 h15).imp fun σ H Q ⟨ρ, ι, μ, sr, wf, h⟩ p hp => ?_
  have lc : Le ι H (ι ++ [p]) (upd H p (.dK [])) := Le.cell hp
  have wc : WF X.K (ι ++ [p]) (μ ++ [.dct []]) (upd H p (.dK [])) := wf.cell hp (u := .dct []) ⟨[], upd_same, rfl, .nil⟩
  have hpi : (ι ++ [p])[μ.length]? = some p := by rw [← wf.len]; simp
  refine h2 σ _ _ ⟨ρ, _, _, sr.mono lc, wc, ?_⟩
  unfold eDisp at h
  generalize P ρ (μ ++ [.dct []]) = z at h ⊢
  match z, h with
  | some (.error x, μ'), h => exact fun ι' H' l w => h ι' H' (lc.trans l) w
  | some (.ok ds, μ'), h =>
    intro ι' H' ps l w r
    have hp' := l.pre _ _ hpi
    obtain ⟨o, ho, ro⟩ := w.has hp'
    simp only [ho] at h
    cases ek : keysD ds with
    | none => simp only [ek] at h; exact h.elim
    | some kvs =>
      simp only [ek] at h
      cases o with
      | dct k0 =>
        cases k0 with
        | nil =>
          simp only [] at h
          obtain ⟨q, h⟩ := PostG.guard h
          obtain ⟨qs0, e0, k0, _⟩ := ro
          have : qs0 = [] := by simpa using k0
          subst this
          obtain ⟨qs, e1, e2, e3⟩ := keysD_rel r ek
          obtain ⟨m1, m2⟩ := merge_rel (K := X.K) (ι := ι') (H := H') (qs := []) (kvs := []) e2 e3 rfl .nil
          have hlen : qs.length ≤ 15 := by have := congrArg List.length e2; simp at this; omega
          refine ⟨e0, qs, e1, hlen, ?_⟩
          exact h ι' _ _ ((lc.trans l).trans (Le.set hp' (nf e0))) (w.set hp' (nf e0) (u := .dct (mergeKD [] kvs)) ⟨_, upd_same, m1, m2.mono (Le.set hp' (nf e0))⟩) (.ref hp')
        | cons _ _ => exact h.elim
      | _ => exact h.elim
end
end DM

namespace DM
open PySem PySem.Spec L2
/-! ### running: instances, dicts, targets -/
def onlyN (Qf : Fl → Store → Prop) : Fl → Store → Prop := fun f μ => match f with
  | .nx ρ => Qf (.nx ρ) μ
  | _ => False
def starAt (o : Option (List D)) (k : List D → Prop) : Prop := match o with
  | some xs => k xs
  | none => False
section
variable {ρ : Rho} {μ : Store} {Q : D → Store → Prop} {Qf : Fl → Store → Prop} {A O E : CM D} {As : CM (List D)}
theorem q_fld {f : Str} : Ok (eFld f A ρ μ) Q = Ok (A ρ μ) (fun d μ1 => Ok (pureR (fldAt μ1 d f) μ1) Q) := Ok_bind
theorem fldAt_ref {c : Nat} {C f : Str} {fs : List (Str × D)} (h : μ[c]? = some (.obj C fs)) : fldAt μ (.ref c) f = fs.lookup f := by simp [fldAt, h]
theorem q_mk {C : Str} {F : FD} (h : Ok (As ρ μ) (fun ds μ1 => Ok (F (.ref μ1.length :: ds) (μ1 ++ [.obj C []])) (fun d μ2 => d = .non ∧ Q (.ref μ1.length) μ2))) : Ok (eMk C F As ρ μ) Q := by
  unfold eMk
  rw [Ok_bind]
  refine h.mono fun ds μ1 h => ?_
  unfold mkO
  generalize F (.ref μ1.length :: ds) (μ1 ++ [.obj C []]) = r at h ⊢
  match r, h with
  | some (.ok d, μ'), h =>
    obtain ⟨rfl, q⟩ := h
    exact q
theorem q_mt {tb : List (Str × FD)} {m : Str} (h : Ok (O ρ μ) (fun o μ1 => ∃ i C fs F, o = .ref i ∧ μ1[i]? = some (.obj C fs) ∧ (fs.lookup m).isNone = true ∧ tb.lookup C = some F ∧ Ok (As ρ μ1) (fun ds μ2 => Ok (F (.ref i :: ds) μ2) Q))) : Ok (eMt tb m O As ρ μ) Q := by
  unfold eMt
  rw [Ok_bind]
  refine h.mono fun o μ1 h => ?_
  obtain ⟨i, C, fs, F, rfl, e1, e2, e3, h⟩ := h
  simp only [e1, e2, e3, if_true]
  rw [Ok_bind]
  exact h
theorem q_asgT {F : D → SF} (h : Ok (E ρ μ) (fun d μ1 => OkS (F d ρ μ1) (onlyN Qf))) : OkS (sAsgT E F ρ μ) Qf := by
  unfold sAsgT
  refine OkS_lft (h.mono fun d μ1 h => ?_)
  unfold tgOnly
  generalize F d ρ μ1 = r at h ⊢
  match r, h with
  | some (.nx ρ', μ'), h => exact h
theorem q_only {ρ' : Rho} : onlyN Qf (.nx ρ') μ = Qf (.nx ρ') μ := rfl
theorem q_tName {i : Nat} {d : D} : OkS (tName i d ρ μ) Qf = Qf (.nx (ρ.set i (some d))) μ := rfl
theorem q_tNil : OkS (tNil [] ρ μ) Qf = Qf (.nx ρ) μ := rfl
theorem q_tCons {F : D → SF} {G : List D → SF} {d : D} {ds : List D} : OkS (tCons F G (d :: ds) ρ μ) Qf = OkS (F d ρ μ) (contS (G ds) Qf) := q_seq
theorem q_tTup {n : Nat} {G : List D → SF} {ds : List D} (h : ds.length = n) : OkS (tTup n G (.tup ds) ρ μ) Qf = OkS (G ds ρ μ) Qf := by
  unfold tTup
  simp only [h, if_true]
theorem q_tFld {f : Str} {cs : List Str} {x i : Nat} {C : Str} {fs : List (Str × D)} {v : D} (h : ρ[x]? = some (some (.ref i))) (hi : μ[i]? = some (.obj C fs)) (hl : fs.length < 1000) (hc : C ∈ cs ∨ f ∈ fs.map (·.1)) (q : Qf (.nx ρ) (μ.set i (.obj C (putD f v fs)))) : OkS (tFld f cs (eVar x) v ρ μ) Qf := by
  unfold tFld
  refine OkS_lft (Ok_var h ?_)
  simp only [hi, hl, hc, and_self, if_true]
  exact q
theorem q_tDSub {x c : Nat} {s : Str} {kvs : List (Key × D)} {v : D} (h : ρ[x]? = some (some (.ref c))) (hc : μ[c]? = some (.dct kvs)) (hl : kvs.length < sizeLine) (q : Qf (.nx ρ) (μ.set c (.dct (putKD kvs (.inr s) v)))) : OkS (tDSub (eVar x) (eC (.str s)) v ρ μ) Qf := by
  unfold tDSub
  refine OkS_lft (Ok_var h ?_)
  refine OkS_lft ?_
  rw [q_C]
  simp only [FdPut, dctW, hc, keyD, hl, if_true]
  exact q
theorem q_augF {f : Str} {F : D → D → Store → Res D} {x i : Nat} {C : Str} {fs : List (Str × D)} {v : D} (h : ρ[x]? = some (some (.ref i))) (hi : μ[i]? = some (.obj C fs)) (hf : fs.lookup f = some v)
    (q : Ok (E ρ μ) (fun e μ1 => Ok (F v e μ1) (fun z μ2 => ∃ fs', μ2[i]? = some (.obj C fs') ∧ fs'.length < 1000 ∧ f ∈ fs'.map (·.1) ∧ Qf (.nx ρ) (μ2.set i (.obj C (putD f z fs')))))) : OkS (sAugF f F (eVar x) E ρ μ) Qf := by
  unfold sAugF
  refine OkS_lft (Ok_var h ?_)
  simp only [hi, hf]
  refine OkS_lft (q.mono fun e μ1 q => ?_)
  refine OkS_lft (q.mono fun z μ2 ⟨fs', e1, e2, e3, q⟩ => ?_)
  simp only [e1, e2, e3, and_self, if_true]
  exact q
theorem q_starS {xs : List D} {k : List D → Prop} : starAt (some xs) k = k xs := rfl
theorem q_star {R : List D → Store → Prop} : Ok (aStar E As ρ μ) R = Ok (E ρ μ) (fun d μ1 => starAt (itemsD μ1 d) (fun xs => Ok (As ρ μ1) (fun ds μ2 => R (xs ++ ds) μ2))) := by
  unfold aStar
  rw [Ok_bind]
  congr 1
  funext d μ1
  cases itemsD μ1 d with
  | none => rfl
  | some xs =>
    simp only [starAt]
    rw [Ok_bind]
    rfl
theorem f_itT {xs : List D} : itemsD μ (.tup xs) = some xs := rfl
theorem q_dnew : Ok (eDNew ρ μ) Q = Q (.ref μ.length) (μ ++ [.dct []]) := rfl
theorem f_dget {c : Nat} {s : Str} {kvs : List (Key × D)} (h : μ[c]? = some (.dct kvs)) : FdGet (.ref c) (.str s) μ = pureR (valD kvs (.inr s)) μ := by
  simp only [FdGet, dctAt, h, keyD]
theorem f_addN {i j : Int} : FaddN (.int i) (.int j) μ = okR (.int (i + j)) μ := rfl
end
theorem valD_put {kvs : List (Key × D)} {k k' : Key} {v : D} : valD (putKD kvs k v) k' = if k = k' then some v else valD kvs k' := by
  unfold putKD
  split
  · rename_i h
    induction kvs with
    | nil => simp at h
    | cons p r ih =>
      obtain ⟨g, x⟩ := p
      rw [List.map_cons]
      unfold valD
      rw [List.find?_cons, List.find?_cons]
      by_cases hg : g = k
      · subst hg
        simp only [if_true]
        by_cases h2 : g = k'
        · simp [h2]
        · simp only [h2, decide_false, if_false]
          have : ∀ r : List (Key × D), (List.find? (fun kv => decide (kv.1 = k')) (List.map (fun kv => if kv.1 = g then (kv.1, v) else kv) r)).map (·.2) = (List.find? (fun kv => decide (kv.1 = k')) r).map (·.2) := by
            intro r
            induction r with
            | nil => rfl
            | cons p r ih2 =>
              obtain ⟨g2, x2⟩ := p
              rw [List.map_cons, List.find?_cons, List.find?_cons]
              by_cases h3 : g2 = g
              · subst h3
                simp only [if_true, h2, decide_false]
                exact ih2
              · simp only [h3, if_false]
                by_cases h4 : g2 = k'
                · simp [h4]
                · simp only [h4, decide_false]
                  exact ih2
          exact this r
      · simp only [hg, if_false]
        have hr : (r.any fun kv => decide (kv.1 = k)) = true := by
          rw [List.any_cons] at h
          simpa [hg] using h
        by_cases h2 : g = k'
        · subst h2
          simp [Ne.symm hg]
        · simp only [h2, decide_false]
          exact ih hr
  · rename_i h
    unfold valD
    rw [List.find?_append]
    by_cases h2 : k = k'
    · subst h2
      have : List.find? (fun kv => decide (kv.1 = k)) kvs = none := by
        rw [List.find?_eq_none]
        intro p hp hk
        exact h (List.any_eq_true.mpr ⟨p, hp, hk⟩)
      simp [this]
    · simp only [h2, if_false]
      cases List.find? (fun kv => decide (kv.1 = k')) kvs <;> simp [h2]
theorem putKD_len {kvs : List (Key × D)} {k : Key} {v : D} : (putKD kvs k v).length ≤ kvs.length + 1 := by
  unfold putKD
  split <;> simp
theorem app_get0 {μ : Store} {a b : Ob} : (μ ++ [a, b])[μ.length]? = some a := by simp
theorem app_get1 {μ : Store} {a b : Ob} : (μ ++ [a, b])[μ.length + 1]? = some b := by simp
theorem app_set0 {μ : Store} {a b o : Ob} : (μ ++ [a, b]).set μ.length o = μ ++ [o, b] := by
  rw [List.set_append_right _ _ (Nat.le_refl _)]
  simp
theorem app_set1 {μ : Store} {a b o : Ob} : (μ ++ [a, b]).set (μ.length + 1) o = μ ++ [a, o] := by
  rw [List.set_append_right _ _ (by omega)]
  simp
end DM

namespace DM
open PySem PySem.Spec L2
/-! ### histories, plainly -/
inductive Mk where
  | note | stat | read | look
deriving DecidableEq
def Mk.str : Mk → Str
  | .note => "note" | .stat => "stat" | .read => "read" | .look => "look"
inductive Stp where
  | wr (t : Int) | rs (t z : Int) | cp (t e : Int) | cr (t e z : Int) | to (t e : Int) | mk (m : Mk) (t : Int)
deriving DecidableEq
def Stp.word : Stp → Str
  | .wr _ => "write" | .rs _ _ => "resize" | .cp _ _ => "copy" | .cr _ _ _ => "copyresize" | .to _ _ => "touch" | .mk m _ => m.str
def Stp.tick : Stp → Int
  | .wr t => t | .rs t _ => t | .cp t _ => t | .cr t _ _ => t | .to t _ => t | .mk _ t => t
def Stp.rest : Stp → List Int
  | .wr _ => [] | .rs _ z => [z] | .cp _ e => [e] | .cr _ e z => [e, z] | .to _ e => [e] | .mk _ _ => []
def Stp.isEv : Stp → Bool
  | .mk _ _ => false
  | _ => true
def Stp.D (s : Stp) : D := .tup (.str s.word :: .int s.tick :: s.rest.map D.int)
def mxI (a b : Int) : Int := if b > a then b else a
theorem mxI_ge (a b : Int) : a ≤ mxI a b ∧ b ≤ mxI a b := by unfold mxI; split <;> omega
structure Fs where
  latest : Int
  stamp : Int
  size : Int
  changed : Int
def Fs.ob (k : Str) (f : Fs) : Ob := .obj "File" [("kind", .str k), ("latest", .int f.latest), ("stamp", .int f.stamp), ("size", .int f.size), ("changed", .int f.changed)]
def doF (kw : Bool) (f : Fs) : Stp → Fs
  | .wr t => ⟨mxI f.latest t, t, f.size, f.changed + 1⟩
  | .rs t z => ⟨mxI f.latest t, t, z, f.changed + 1⟩
  | .cp t e => ⟨mxI f.latest t, if kw = true then e else t, f.size, f.changed + 1⟩
  | .cr t e z => ⟨mxI f.latest t, if kw = true then e else t, z, f.changed + 1⟩
  | .to t e => ⟨mxI f.latest t, if kw = true then e else t, f.size, f.changed⟩
  | .mk _ t => ⟨mxI f.latest t, f.stamp, f.size, f.changed⟩
structure Kp where
  note : Option Int
  stat : Option (Int × Int)
  read : Option Int
def kp0 : Kp := ⟨none, none, none⟩
def kpF (k : Kp) (f : Fs) : Stp → Kp
  | .mk .note t => { k with note := some t }
  | .mk .stat _ => { k with stat := some (f.stamp, f.size) }
  | .mk .read _ => { k with read := some f.changed }
  | _ => k
def runF (kw : Bool) : Fs → Kp → List Stp → Fs × Kp
  | f, k, [] => (f, k)
  | f, k, s :: r => runF kw (doF kw f s) (kpF k (doF kw f s) s) r
def Kp.rel (k : Kp) (kvs : List (Key × D)) : Prop := valD kvs (.inr "note") = k.note.map D.int ∧ valD kvs (.inr "stat") = k.stat.map (fun p => .tup [.int p.1, .int p.2]) ∧ valD kvs (.inr "read") = k.read.map D.int
theorem rel_note {k : Kp} {kvs : List (Key × D)} {t : Int} (h : k.rel kvs) : Kp.rel { k with note := some t } (putKD kvs (.inr "note") (.int t)) := by
  obtain ⟨a, b, c⟩ := h
  refine ⟨?_, ?_, ?_⟩
  · rw [valD_put, if_pos rfl]; rfl
  · rw [valD_put, if_neg (by decide +kernel)]; exact b
  · rw [valD_put, if_neg (by decide +kernel)]; exact c
theorem rel_stat {k : Kp} {kvs : List (Key × D)} {a b : Int} (h : k.rel kvs) : Kp.rel { k with stat := some (a, b) } (putKD kvs (.inr "stat") (.tup [.int a, .int b])) := by
  obtain ⟨x, y, z⟩ := h
  refine ⟨?_, ?_, ?_⟩
  · rw [valD_put, if_neg (by decide +kernel)]; exact x
  · rw [valD_put, if_pos rfl]; rfl
  · rw [valD_put, if_neg (by decide +kernel)]; exact z
theorem rel_read {k : Kp} {kvs : List (Key × D)} {t : Int} (h : k.rel kvs) : Kp.rel { k with read := some t } (putKD kvs (.inr "read") (.int t)) := by
  obtain ⟨a, b, c⟩ := h
  refine ⟨?_, ?_, ?_⟩
  · rw [valD_put, if_neg (by decide +kernel)]; exact a
  · rw [valD_put, if_neg (by decide +kernel)]; exact b
  · rw [valD_put, if_pos rfl]; rfl
theorem noRef_stp (s : Stp) : noRef 0 s.D = true := by
  cases s <;> rfl
theorem noRef_stps : ∀ ss : List Stp, noRefs 0 (ss.map Stp.D) = true
  | [] => rfl
  | s :: r => by simp only [List.map_cons, noRefs, noRef_stp s, noRef_stps r, Bool.and_self]
/-- what a tale has: all steps can happen -/
def posF (back : Int) (f : Fs) : Stp → Bool
  | .wr t => !decide (t < f.latest - back)
  | .rs t z => !decide (t < f.latest - back) && !(z == f.size)
  | .cp t e => !decide (t < f.latest - back) && !decide (e > t)
  | .cr t e z => !decide (t < f.latest - back) && (!decide (e > t) && !(z == f.size))
  | .to t e => !decide (t < f.latest - back) && !decide (e > t)
  | .mk _ t => !decide (t < f.latest - back)
def posA (back : Int) : Fs → List Stp → Bool
  | _, [] => true
  | f, s :: r => posF back f s && posA back (doF true f s) r
def Stp.sizeOk : Stp → Bool
  | .rs _ z => decide (0 ≤ z)
  | .cr _ _ z => decide (0 ≤ z)
  | _ => true
def doA (kw : Bool) (f : Fs) (ss : List Stp) : Fs := ss.foldl (doF kw) f
theorem posA_snoc {back : Int} : ∀ {ss : List Stp} {f : Fs} {s : Stp}, posA back f ss = true → posF back (doA true f ss) s = true → posA back f (ss ++ [s]) = true
  | [], f, s, _, h => by simp [posA]; exact h
  | x :: r, f, s, h1, h2 => by
    rw [posA, Bool.and_eq_true] at h1
    rw [List.cons_append, posA, Bool.and_eq_true]
    exact ⟨h1.1, posA_snoc h1.2 h2⟩
theorem doA_snoc {kw : Bool} {ss : List Stp} {f : Fs} {s : Stp} : doA kw f (ss ++ [s]) = doF kw (doA kw f ss) s := by
  unfold doA
  rw [List.foldl_append]
  rfl
def marks (ss : List Stp) : List Mk := ss.filterMap fun s => match s with
  | .mk m _ => some m
  | _ => none
theorem marks_app {a b : List Stp} : marks (a ++ b) = marks a ++ marks b := by unfold marks; rw [List.filterMap_append]
/-- a tale of some words, with its marks -/
structure Tale (ws : List Str) (back : Int) (f : Fs) (ms : List Mk) (ss : List Stp) : Prop where
  pos : posA back f ss = true
  words : ∀ s ∈ ss, s.isEv = true → s.word ∈ ws
  sizes : ∀ s ∈ ss, s.sizeOk = true
  mrk : marks ss = ms
theorem Tale.snoc {ws : List Str} {back : Int} {f : Fs} {ms : List Mk} {ss : List Stp} {s : Stp} (h : Tale ws back f ms ss) (hp : posF back (doA true f ss) s = true) (hw : s.isEv = true → s.word ∈ ws) (hz : s.sizeOk = true) : Tale ws back f (ms ++ marks [s]) (ss ++ [s]) := by
  refine ⟨posA_snoc h.pos hp, fun x hx hv => ?_, fun x hx => ?_, by rw [marks_app, h.mrk]⟩
  · rcases List.mem_append.mp hx with z | z
    · exact h.words x z hv
    · rw [List.mem_singleton.mp z] at hv ⊢; exact hw hv
  · rcases List.mem_append.mp hx with z | z
    · exact h.sizes x z
    · rw [List.mem_singleton.mp z]; exact hz
/-! ### what is kept -/
def Kp.has (k : Kp) (m : Mk) : Bool := match m with
  | .note => k.note.isSome
  | .stat => k.stat.isSome
  | .read => k.read.isSome
  | .look => true
theorem kpF_has {k : Kp} {f : Fs} {s : Stp} {m : Mk} (h : k.has m = true ∨ m ∈ marks [s]) : (kpF k f s).has m = true := by
  cases s with
  | mk m' t =>
    simp [marks] at h
    cases m <;> cases m' <;> simp_all [kpF, Kp.has]
  | _ => simpa [marks, kpF] using h
theorem runF_has {kw : Bool} {m : Mk} : ∀ {ss : List Stp} {f : Fs} {k : Kp}, k.has m = true ∨ m ∈ marks ss → (runF kw f k ss).2.has m = true
  | [], f, k, h => by simpa [marks, runF] using h
  | s :: r, f, k, h => by
    rw [runF]
    refine runF_has ?_
    rcases h with h | h
    · exact .inl (kpF_has (.inl h))
    · have e : marks (s :: r) = marks [s] ++ marks r := marks_app (a := [s])
      rw [e] at h
      rcases List.mem_append.mp h with z | z
      · exact .inl (kpF_has (.inr z))
      · exact .inr z
theorem runF_all {kw : Bool} {ss : List Stp} {f : Fs} (h1 : Mk.note ∈ marks ss) (h2 : Mk.stat ∈ marks ss) (h3 : Mk.read ∈ marks ss) : ∃ f' n s r, runF kw f kp0 ss = (f', ⟨some n, some s, some r⟩) := by
  have a := runF_has (kw := kw) (f := f) (k := kp0) (.inr h1)
  have b := runF_has (kw := kw) (f := f) (k := kp0) (.inr h2)
  have c := runF_has (kw := kw) (f := f) (k := kp0) (.inr h3)
  generalize runF kw f kp0 ss = z at a b c
  obtain ⟨f', ⟨n, s, r⟩⟩ := z
  simp only [Kp.has] at a b c
  obtain ⟨n, rfl⟩ := Option.isSome_iff_exists.mp a
  obtain ⟨s, rfl⟩ := Option.isSome_iff_exists.mp b
  obtain ⟨r, rfl⟩ := Option.isSome_iff_exists.mp c
  exact ⟨f', n, s, r, rfl⟩
/-! ### both kinds -/
def simF (f g : Fs) : Prop := f.latest = g.latest ∧ f.size = g.size ∧ f.changed = g.changed
def simK (k l : Kp) : Prop := k.note = l.note ∧ k.stat.map (·.2) = l.stat.map (·.2) ∧ k.read = l.read
theorem sim_run : ∀ {ss : List Stp} {f g : Fs} {k l : Kp}, simF f g → simK k l → simF (runF true f k ss).1 (runF false g l ss).1 ∧ simK (runF true f k ss).2 (runF false g l ss).2
  | [], f, g, k, l, a, b => ⟨a, b⟩
  | s :: r, f, g, k, l, a, b => by
    rw [runF, runF]
    have a' : simF (doF true f s) (doF false g s) := by
      obtain ⟨a1, a2, a3⟩ := a
      cases s <;> simp [doF, simF, a1, a2, a3]
    refine sim_run a' ?_
    obtain ⟨b1, b2, b3⟩ := b
    cases s with
    | mk m t => cases m <;> simp_all [kpF, simK, simF, doF]
    | _ => exact ⟨b1, b2, b3⟩
/-- without copies and touches -/
def plainS : Stp → Bool
  | .wr _ => true
  | .rs _ _ => true
  | .mk _ _ => true
  | _ => false
theorem plain_run : ∀ {ss : List Stp} {f : Fs} {k : Kp}, (∀ s ∈ ss, plainS s = true) → runF true f k ss = runF false f k ss
  | [], f, k, _ => rfl
  | s :: r, f, k, h => by
    rw [runF, runF]
    have e : doF true f s = doF false f s := by
      have := h s List.mem_cons_self
      cases s <;> simp_all [doF, plainS]
    rw [e]
    exact plain_run fun s hs => h s (List.mem_cons_of_mem _ hs)
/-- a clock that is set back -/
def setB : Int → List Stp → Bool
  | _, [] => false
  | t, s :: r => if s.tick < t then true else setB s.tick r
theorem set_run : ∀ {ss : List Stp} {f : Fs} {k : Kp} {t : Int}, setB t ss = false → f.stamp ≤ t → (∀ p, k.stat = some p → p.1 ≤ f.stamp) → ∀ p, (runF false f k ss).2.stat = some p → p.1 ≤ (runF false f k ss).1.stamp
  | [], f, k, t, _, _, h => h
  | s :: r, f, k, t, hs, ht, h => by
    rw [setB] at hs
    by_cases hlt : s.tick < t
    · rw [if_pos hlt] at hs; cases hs
    · rw [if_neg hlt] at hs
      rw [runF]
      have key : f.stamp ≤ (doF false f s).stamp ∧ (doF false f s).stamp ≤ s.tick := by
        cases s <;> simp_all [doF, Stp.tick] <;> omega
      refine set_run hs key.2 ?_
      intro p hp
      cases s with
      | mk m t' =>
        cases m with
        | stat =>
          simp only [kpF, Option.some.injEq] at hp
          subst hp
          exact Int.le_refl _
        | _ => exact Int.le_trans (h p hp) key.1
      | _ => exact Int.le_trans (h p hp) key.1
/-! ### orders -/
def ordersM : List (List Mk) := [[.note, .read, .stat], [.note, .stat, .read], [.read, .note, .stat], [.read, .stat, .note], [.stat, .note, .read], [.stat, .read, .note]]
theorem perm6 {ys : List Str} (h : ys.Perm ["note", "read", "stat"]) : ∃ os ∈ ordersM, ys = os.map Mk.str := by
  have hl := h.length_eq
  have hm : ∀ y ∈ ys, y = "note" ∨ y = "read" ∨ y = "stat" := fun y hy => by have := h.subset hy; simpa using this
  have hn : ys.Nodup := (h.nodup_iff).mpr (by decide +kernel)
  match ys, hl with
  | [a, b, c], _ =>
    have ha := hm a (by simp)
    have hb := hm b (by simp)
    have hc := hm c (by simp)
    simp only [List.nodup_cons, List.mem_cons, List.not_mem_nil, or_false, not_or] at hn
    obtain ⟨⟨n1, n2⟩, n3, _⟩ := hn
    rcases ha with rfl | rfl | rfl <;> rcases hb with rfl | rfl | rfl <;> rcases hc with rfl | rfl | rfl <;> first
      | exact absurd rfl n1
      | exact absurd rfl n2
      | exact absurd rfl n3
      | exact ⟨[.note, .read, .stat], by simp [ordersM], rfl⟩
      | exact ⟨[.note, .stat, .read], by simp [ordersM], rfl⟩
      | exact ⟨[.read, .note, .stat], by simp [ordersM], rfl⟩
      | exact ⟨[.read, .stat, .note], by simp [ordersM], rfl⟩
      | exact ⟨[.stat, .note, .read], by simp [ordersM], rfl⟩
      | exact ⟨[.stat, .read, .note], by simp [ordersM], rfl⟩
theorem ord_mem {os : List Mk} (h : os ∈ ordersM) {m : Mk} (hm : m ≠ .look) : m ∈ os := by
  simp only [ordersM, List.mem_cons, List.not_mem_nil, or_false] at h
  rcases h with rfl | rfl | rfl | rfl | rfl | rfl <;> cases m <;> simp_all
end DM

namespace DM
open PySem PySem.Spec L2
/-! ### list.index of texts -/
def FlIdx (o : D) (ds : List D) (μ : Store) : Res D := match o, ds with
  | .lst xs, [.str z] => match strsD xs with
    | some ys => pureR ((idxS z ys).map fun j => .int (j : Nat)) μ
    | none => none
  | _, _ => none
theorem lift_lidx {K : PySem.W.Frag} : LiftM K (rIndex K) FlIdx := by
  intro W σ ι μ H x xs d ds Q w vx vxs h
  unfold FlIdx at h
  split at h
  · rename_i zs z
    obtain ⟨v, rfl, vy⟩ := vxs.one
    cases vy
    split at h
    · rename_i ys eys
      have e := strsD_eq eys
      subst e
      cases ej : idxS z ys with
      | none => rw [ej] at h; exact h.elim
      | some j =>
        rw [ej] at h
        obtain ⟨h1, h2⟩ := idxS_ok ej
        cases vx with
        | lst hh r =>
          have hv := vrs_strs r
          subst hv
          refine ⟨_, _, _, j, .str z, rfl, rfl, hh.sq, rfl, ?_, by rw [List.getElem?_map, h1]; rfl, by simp [eqV], fun m z' hm hz => ?_, PostG.ok0 h w (.int _)⟩
          · rw [List.all_eq_true]
            intro v hv
            obtain ⟨y, _, rfl⟩ := List.mem_map.mp hv
            rfl
          · rw [List.getElem?_map] at hz
            have := h2 m hm
            cases e : ys[m]? with
            | none => rw [e] at hz; cases hz
            | some y =>
              rw [e] at hz this
              cases hz
              simp [eqV]
              intro e'
              exact this (by rw [e'])
    · exact h.elim
  · exact h.elim
section
variable {X : Cx} {W : DW} {o e : Expr} {es : List Expr} {O : CM D} {As : CM (List D)} {apos cpos : Pos}
theorem d_lidx (ho : PE X o (tE X.K W O)) (ha : PA X [e] (tA X.K W As)) (hbase : attributeBase o "index" X.env (eval o X.env) = eval o X.env := by rfl)
    (hfew : ((backTo cpos (starEach [e] X.env)).all (fun x => !x.1) && (backToKw cpos (keywordEach [] X.env)).all (fun x => x.1.isSome) && decide ([e].length + ([] : List Keyword).length + (if ([] : List Keyword).isEmpty then 0 else 1) < 30)) = true := by rfl)
    (hline : (apos.endLine == cpos.line) = true := by rfl) (hs : starEach [e] X.env = (false, eval e X.env) :: starEach [] X.env := by rfl) (hp : (backTo cpos (starEach [] X.env)).any (·.1) = false := by rfl) :
    PE X (.Call (.Attribute o "index" apos) [e] [] cpos) (tE X.K W (eMeth isList FlIdx O As)) :=
  (pe_bm PySem.F.plainAttrs_list PySem.F.slot_list_index PySem.F.type_list_index mt_index ho ha hbase hfew hline hs hp).imp (bmAux (fun _ _ _ _ _ => list_ty) lift_lidx)
end
theorem f_lidx {ys : List Str} {z : Str} {μ : Store} : FlIdx (.lst (ys.map D.str)) [.str z] μ = pureR ((idxS z ys).map fun j => .int (j : Nat)) μ := by
  have := @f_tidx μ ys z
  unfold FtIdx at this
  unfold FlIdx
  exact this
/-! ### isinstance -/
def isiR (T : String) (d : D) (μ : Store) : Res D := match tyD μ d with
  | some t => okR (.bl (isiB t T)) μ
  | none => none
section
variable {ρ : Rho} {μ : Store} {Q : D → Store → Prop} {E : CM D}
theorem q_isi {T : String} : Ok (eIsi T E ρ μ) Q = Ok (E ρ μ) (fun d μ1 => Ok (isiR T d μ1) Q) := Ok_bind
theorem isi_ii {i : Int} : isiR "int" (.int i) μ = okR (.bl true) μ := rfl
theorem isi_ib {i : Int} : isiR "bool" (.int i) μ = okR (.bl false) μ := rfl
theorem isi_tt {xs : List D} : isiR "tuple" (.tup xs) μ = okR (.bl true) μ := rfl
theorem isi_ss {x : Str} : isiR "str" (.str x) μ = okR (.bl true) μ := rfl
theorem f_isN {d : D} : Fis false .non .non μ = okR (.bl true) μ := rfl
theorem f_isNI {i : Int} : Fis false (.int i) .non μ = okR (.bl false) μ := rfl
end
theorem eqvAll_strs : ∀ ms ns : List Str, PyData.eqvAll (ms.map PyData.str) (ns.map PyData.str) = decide (ms = ns)
  | [], [] => by simp [PyData.eqvAll]
  | [], n :: r => by simp [PyData.eqvAll]
  | m :: r, [] => by simp [PyData.eqvAll]
  | m :: r, n :: t => by
    rw [List.map_cons, List.map_cons, PyData.eqvAll, eqvAll_strs r t]
    by_cases h : m = n <;> by_cases h2 : r = t <;> simp [PyData.eqv, h, h2]
theorem eq_strsT {neg : Bool} {xs ys : List Str} {ν : Store} (hx : xs.all PyData.strOk = true) (hy : ys.all PyData.strOk = true) : Feq neg (.tup (xs.map D.str)) (.tup (ys.map D.str)) ν = okR (.bl (if neg = true then !decide (xs = ys) else decide (xs = ys))) ν := by
  show (match toPyS ν (.tup (xs.map D.str)), toPyS ν (.tup (ys.map D.str)) with
    | some p, some q => if SeqAt.shaped p = true ∧ SeqAt.shaped q = true then okR (.bl (if neg = true then !PyData.eqv p q else PyData.eqv p q)) ν else none
    | _, _ => none) = _
  have e1 : ∀ ws : List Str, toPyS ν (.tup (ws.map D.str)) = some (.tuple (ws.map PyData.str)) := fun ws => by simp only [toPyS, toPy, toPys_strs, Option.map_some]
  rw [e1, e1]
  simp only []
  rw [if_pos ⟨shaped_strsT hx, shaped_strsT hy⟩]
  have e3 : PyData.eqv (.tuple (xs.map PyData.str)) (.tuple (ys.map PyData.str)) = decide (xs = ys) := eqvAll_strs xs ys
  rw [e3]
end DM

namespace DM
open PySem PySem.Spec L2
section
variable {α β : Type} {ρ : Rho} {μ : Store} {Q : D → Store → Prop} {T : CM Bool}
theorem lcmP {gd : Store → Bool} {g : D → Rho → Option Rho} {E : CM D} (emb : α → D) (t : α → Bool) (f : α → D) {items : List α} {n : Nat} (hn : μ.length = n) (hp : PureS μ) (hlen : items.length ≤ 1000000) (hgd : ∀ o, gd (μ ++ [o]) = true)
    (hs : ∀ x o, x ∈ items → obOk 0 o = true → ∃ ρ1, g (emb x) ρ = some ρ1 ∧ Ok (T ρ1 (μ ++ [o])) (fun b μ2 => μ2 = μ ++ [o] ∧ b = t x) ∧ (t x = true → Ok (E ρ1 (μ ++ [o])) (fun y μ2 => μ2 = μ ++ [o] ∧ y = f x ∧ noRef 0 (f x) = true)))
    (q : ∀ d μ', (d = D.ref n ∧ μ' = μ ++ [.lst ((items.filter t).map f)] ∧ PureS (μ'.take n) ∧ unref n μ' 4 d = some (.lst ((items.filter t).map f)) ∧ μ'.take n = μ) → Q d μ') : Ok (lcLoop gd g T E n (items.map emb) ρ (μ ++ [.lst []])) Q := by
  refine Ok.mono ?_ q
  refine lc_ok (acc := []) (fun i acc μ' => μ' = μ ++ [.lst acc] ∧ acc = ((items.take i).filter t).map f ∧ noRefs 0 acc = true ∧ acc.length ≤ i) (fun i acc μ' h => by rw [h.1]; exact hgd _) ?_ ?_ ⟨rfl, by simp, rfl, by simp⟩
  · rintro i d acc μ' ed ⟨rfl, ha, hr, hl⟩
    have hil : i < items.length := by
      have := (List.getElem?_eq_some_iff.mp ed).1
      simpa using this
    rw [List.getElem?_map] at ed
    rw [List.getElem?_eq_getElem hil] at ed
    cases ed
    obtain ⟨ρ1, eg, h1, h2⟩ := hs items[i] (.lst acc) (List.getElem_mem hil) hr
    refine ⟨ρ1, eg, h1.mono ?_⟩
    rintro b μ2 ⟨rfl, rfl⟩
    have tk : items.take (i + 1) = items.take i ++ [items[i]] := by simp
    refine ⟨fun hb => (h2 hb).mono ?_, fun hb => ⟨rfl, ?_, hr, by omega⟩⟩
    · rintro y μ2 ⟨rfl, rfl, hy⟩
      refine ⟨by rw [← hn]; simp, ?_, ?_, ?_, ?_, ?_⟩
      · exact Nat.lt_of_le_of_lt hl (Nat.lt_of_lt_of_le hil (size_ok hlen))
      · rw [List.set_append_right _ _ (by omega), hn]; simp
      · rw [tk, List.filter_append, List.map_append, ← ha]
        congr 1
        rw [List.filter_cons, if_pos hb]
        rfl
      · exact noRefs_all.mpr fun d hd => by
          rcases List.mem_append.mp hd with h | h
          · exact noRefs_all.mp hr d h
          · rw [List.mem_singleton.mp h]; exact hy
      · simp; omega
    · rw [tk, List.filter_append, List.map_append, ← ha, List.filter_cons, if_neg (by simp [hb])]
      simp
  · rintro acc μ' ⟨rfl, ha, hr, hl⟩
    have e : (List.take (items.map emb).length items) = items := by simp
    rw [e] at ha
    subst ha
    refine ⟨rfl, rfl, ?_, ?_, ?_⟩
    · rw [← hn]; simpa using hp
    · exact unref_cell (by rw [← hn]; simp) (Nat.le_refl _) hr
    · rw [← hn]; simp
/-- the list of a comprehension that leaves the store as it is -/
theorem q_lcmP {I : CM IV} {g : D → Rho → Option Rho} {E : CM D} {own : List Nat} (emb : α → D) (t : α → Bool) (f : α → D) (items : List α) (hp : PureS μ) (hlen : items.length ≤ 1000000)
    (hI : Ok (I ρ μ) (fun q μ1 => μ1 = μ ∧ q.1 = items.map emb ∧ ∀ o, q.2 (μ ++ [o]) = true))
    (hs : ∀ x o, x ∈ items → obOk 0 o = true → ∃ ρ1, g (emb x) (wipeR ρ own) = some ρ1 ∧ Ok (T ρ1 (μ ++ [o])) (fun b μ2 => μ2 = μ ++ [o] ∧ b = t x) ∧ (t x = true → Ok (E ρ1 (μ ++ [o])) (fun y μ2 => μ2 = μ ++ [o] ∧ y = f x ∧ noRef 0 (f x) = true)))
    (q : Q (.lst ((items.filter t).map f)) μ) : Ok (eSeal (eLC I g T E own) ρ μ) Q := by
  refine q_lc (hI.mono ?_)
  rintro ⟨xs, gd⟩ μ1 ⟨rfl, rfl, hg⟩
  refine lcmP emb t f rfl hp hlen hg hs ?_
  rintro d μ' ⟨rfl, e1, e2, e3, e4⟩
  rw [e4] at e2 ⊢
  exact ⟨e2, _, e3, q⟩
end
end DM

namespace DM
open PySem PySem.Spec L2
/-! ### histories moved, raised, lengthened -/
def mvS (d : Int) : Stp → Stp
  | .wr t => .wr (t + d)
  | .rs t z => .rs (t + d) z
  | .cp t e => .cp (t + d) (e + d)
  | .cr t e z => .cr (t + d) (e + d) z
  | .to t e => .to (t + d) (e + d)
  | .mk m t => .mk m (t + d)
def mvF (d : Int) (f : Fs) : Fs := ⟨f.latest + d, f.stamp + d, f.size, f.changed⟩
def mvK (d : Int) (k : Kp) : Kp := ⟨k.note.map (· + d), k.stat.map (fun p => (p.1 + d, p.2)), k.read⟩
theorem mx_mv {a b d : Int} : mxI (a + d) (b + d) = mxI a b + d := by
  unfold mxI
  by_cases h : b > a
  · rw [if_pos h, if_pos (by omega)]
  · rw [if_neg h, if_neg (by omega)]
theorem do_mv {kw : Bool} {d : Int} {f : Fs} {s : Stp} : doF kw (mvF d f) (mvS d s) = mvF d (doF kw f s) := by
  cases s <;> simp only [doF, mvF, mvS, mx_mv] <;> cases kw <;> rfl
theorem run_mv {kw : Bool} {d : Int} : ∀ {ss : List Stp} {f : Fs} {k : Kp}, runF kw (mvF d f) (mvK d k) (ss.map (mvS d)) = (mvF d (runF kw f k ss).1, mvK d (runF kw f k ss).2)
  | [], f, k => rfl
  | s :: r, f, k => by
    rw [List.map_cons, runF, runF, do_mv]
    have e : kpF (mvK d k) (mvF d (doF kw f s)) (mvS d s) = mvK d (kpF k (doF kw f s) s) := by
      cases s with
      | mk m t => cases m <;> rfl
      | _ => rfl
    rw [e]
    exact run_mv
theorem pos_mv {back d : Int} {f : Fs} {s : Stp} : posF back (mvF d f) (mvS d s) = posF back f s := by
  generalize hf : mvF d f = f'
  have h1 : f'.latest = f.latest + d := by rw [← hf]; rfl
  have h2 : f'.size = f.size := by rw [← hf]; rfl
  rw [Bool.eq_iff_iff]
  cases s <;> simp [posF, mvS] <;> omega
theorem posA_mv {back d : Int} : ∀ {ss : List Stp} {f : Fs}, posA back (mvF d f) (ss.map (mvS d)) = posA back f ss
  | [], f => rfl
  | s :: r, f => by rw [List.map_cons, posA, posA, pos_mv, do_mv, posA_mv]
theorem marks_map {g : Stp → Stp} (hg : ∀ s, marks [g s] = marks [s]) : ∀ ss : List Stp, marks (ss.map g) = marks ss
  | [] => rfl
  | s :: r => by
    have e : ∀ (x : Stp) (r : List Stp), marks (x :: r) = marks [x] ++ marks r := fun x r => marks_app (a := [x])
    rw [List.map_cons, e, e s, hg, marks_map hg r]
theorem Tale.map {ws : List Str} {back : Int} {f f' : Fs} {ms : List Mk} {ss : List Stp} {g : Stp → Stp} (h : Tale ws back f ms ss) (hp : posA back f' (ss.map g) = posA back f ss) (hw : ∀ s, (g s).word = s.word ∧ (g s).isEv = s.isEv) (hz : ∀ s, s.sizeOk = true → (g s).sizeOk = true) (hm : ∀ s, marks [g s] = marks [s]) : Tale ws back f' ms (ss.map g) := by
  refine ⟨by rw [hp]; exact h.pos, fun s hs hv => ?_, fun s hs => ?_, by rw [marks_map hm]; exact h.mrk⟩
  · obtain ⟨x, hx, rfl⟩ := List.mem_map.mp hs
    rw [(hw x).1]
    exact h.words x hx (by rw [← (hw x).2]; exact hv)
  · obtain ⟨x, hx, rfl⟩ := List.mem_map.mp hs
    exact hz x (h.sizes x hx)
theorem Tale.mv {ws : List Str} {back d : Int} {f : Fs} {ms : List Mk} {ss : List Stp} (h : Tale ws back f ms ss) : Tale ws back (mvF d f) ms (ss.map (mvS d)) :=
  h.map posA_mv (fun s => by cases s <;> exact ⟨rfl, rfl⟩) (fun s hs => by cases s <;> exact hs) (fun s => by cases s <;> rfl)
def rsS (r : Int) : Stp → Stp
  | .rs t z => .rs t (z + r)
  | .cr t e z => .cr t e (z + r)
  | s => s
def rsF (r : Int) (f : Fs) : Fs := ⟨f.latest, f.stamp, f.size + r, f.changed⟩
def rsK (r : Int) (k : Kp) : Kp := ⟨k.note, k.stat.map (fun p => (p.1, p.2 + r)), k.read⟩
theorem do_rs {kw : Bool} {r : Int} {f : Fs} {s : Stp} : doF kw (rsF r f) (rsS r s) = rsF r (doF kw f s) := by
  cases s <;> rfl
theorem run_rs {kw : Bool} {d : Int} : ∀ {ss : List Stp} {f : Fs} {k : Kp}, runF kw (rsF d f) (rsK d k) (ss.map (rsS d)) = (rsF d (runF kw f k ss).1, rsK d (runF kw f k ss).2)
  | [], f, k => rfl
  | s :: r, f, k => by
    rw [List.map_cons, runF, runF, do_rs]
    have e : kpF (rsK d k) (rsF d (doF kw f s)) (rsS d s) = rsK d (kpF k (doF kw f s) s) := by
      cases s with
      | mk m t => cases m <;> rfl
      | _ => rfl
    rw [e]
    exact run_rs
theorem pos_rs {back d : Int} {f : Fs} {s : Stp} : posF back (rsF d f) (rsS d s) = posF back f s := by
  generalize hf : rsF d f = f'
  have h1 : f'.latest = f.latest := by rw [← hf]; rfl
  have h2 : f'.size = f.size + d := by rw [← hf]; rfl
  rw [Bool.eq_iff_iff]
  cases s <;> simp [posF, rsS] <;> omega
theorem posA_rs {back d : Int} : ∀ {ss : List Stp} {f : Fs}, posA back (rsF d f) (ss.map (rsS d)) = posA back f ss
  | [], f => rfl
  | s :: r, f => by rw [List.map_cons, posA, posA, pos_rs, do_rs, posA_rs]
theorem Tale.rs {ws : List Str} {back d : Int} {f : Fs} {ms : List Mk} {ss : List Stp} (hd : 0 ≤ d) (h : Tale ws back f ms ss) : Tale ws back (rsF d f) ms (ss.map (rsS d)) :=
  h.map posA_rs (fun s => by cases s <;> exact ⟨rfl, rfl⟩) (fun s hs => by cases s <;> simp_all [rsS, Stp.sizeOk] <;> omega) (fun s => by cases s <;> rfl)
/-- the tick of the last look -/
theorem runF_app {kw : Bool} {x : Stp} : ∀ {ss : List Stp} {f : Fs} {k : Kp}, runF kw f k (ss ++ [x]) = (doF kw (runF kw f k ss).1 x, kpF (runF kw f k ss).2 (doF kw (runF kw f k ss).1 x) x)
  | [], f, k => rfl
  | s :: r, f, k => by rw [List.cons_append, runF, runF]; exact runF_app
theorem latest_le {M : Int} : ∀ {ss : List Stp} {f : Fs}, f.latest ≤ M → (∀ s ∈ ss, s.tick ≤ M) → (doA true f ss).latest ≤ M
  | [], f, h, _ => h
  | s :: r, f, h, hs => by
    show (doA true (doF true f s) r).latest ≤ M
    refine latest_le ?_ fun x hx => hs x (List.mem_cons_of_mem _ hx)
    have h1 : (doF true f s).latest = mxI f.latest s.tick := by cases s <;> rfl
    rw [h1]
    have := hs s List.mem_cons_self
    unfold mxI
    split <;> omega
theorem posA_app {back : Int} : ∀ {ss : List Stp} {f : Fs} {s : Stp}, posA back f (ss ++ [s]) = (posA back f ss && posF back (doA true f ss) s)
  | [], f, s => by simp [posA, doA]
  | x :: r, f, s => by
    rw [List.cons_append, posA, posA, posA_app, Bool.and_assoc]
    rfl
theorem Tale.last {ws : List Str} {back : Int} {f : Fs} {ms : List Mk} {s : List Stp} {m : Mk} {t T : Int} (hb : 0 ≤ back) (h : Tale ws back f ms (s ++ [.mk m t])) (h1 : f.latest ≤ T) (h2 : ∀ x ∈ s, x.tick ≤ T) : Tale ws back f ms (s ++ [.mk m T]) := by
  have hp := h.pos
  rw [posA_app, Bool.and_eq_true] at hp
  have hl := latest_le h1 h2
  refine ⟨?_, fun x hx hv => ?_, fun x hx => ?_, ?_⟩
  · rw [posA_app, hp.1]
    have : ¬ (T < (doA true f s).latest - back) := by omega
    simp [posF, this]
  · rcases List.mem_append.mp hx with z | z
    · exact h.words x (List.mem_append_left _ z) hv
    · rw [List.mem_singleton.mp z] at hv; cases hv
  · rcases List.mem_append.mp hx with z | z
    · exact h.sizes x (List.mem_append_left _ z)
    · rw [List.mem_singleton.mp z]; rfl
  · have := h.mrk
    rw [marks_app] at this ⊢
    exact this
/-- a write ahead of all -/
theorem posA_congr {back : Int} : ∀ {ss : List Stp} {f g : Fs}, f.latest = g.latest → f.size = g.size → posA back f ss = posA back g ss
  | [], f, g, _, _ => rfl
  | s :: r, f, g, h1, h2 => by
    rw [posA, posA]
    have e : posF back f s = posF back g s := by cases s <;> simp only [posF, h1, h2]
    rw [e, posA_congr (f := doF true f s) (g := doF true g s) (by cases s <;> simp only [doF, h1]) (by cases s <;> simp only [doF, h2])]
theorem Tale.early {ws ws' : List Str} {back a b z : Int} {ms : List Mk} {ss : List Stp} (hb : 0 ≤ back) (h : Tale ws back ⟨a, b, z, 0⟩ ms ss) (hs : ∀ w ∈ ws, w ∈ ws') (hw : ("write" : Str) ∈ ws') : Tale ws' back ⟨a, b, z, 0⟩ ms (.wr a :: ss) := by
  refine ⟨?_, fun x hx hv => ?_, fun x hx => ?_, ?_⟩
  · rw [posA]
    have e : posA back (doF true ⟨a, b, z, 0⟩ (.wr a)) ss = posA back ⟨a, b, z, 0⟩ ss := posA_congr (by show mxI a a = a; unfold mxI; simp) rfl
    rw [e, h.pos]
    have : ¬ (a < a - back) := by omega
    simp [posF, this]
  · rcases List.mem_cons.mp hx with rfl | z
    · exact hw
    · exact hs _ (h.words x z hv)
  · rcases List.mem_cons.mp hx with rfl | z
    · rfl
    · exact h.sizes x z
  · exact h.mrk
def shF (f : Fs) : Fs := ⟨f.latest, f.stamp, f.size, f.changed + 1⟩
def shK (k : Kp) : Kp := ⟨k.note, k.stat, k.read.map (· + 1)⟩
theorem do_sh {kw : Bool} {f : Fs} {s : Stp} : doF kw (shF f) s = shF (doF kw f s) := by cases s <;> rfl
theorem run_sh {kw : Bool} : ∀ {ss : List Stp} {f : Fs} {k : Kp}, runF kw (shF f) (shK k) ss = (shF (runF kw f k ss).1, shK (runF kw f k ss).2)
  | [], f, k => rfl
  | s :: r, f, k => by
    rw [runF, runF, do_sh]
    have e : kpF (shK k) (shF (doF kw f s)) s = shK (kpF k (doF kw f s) s) := by
      cases s with
      | mk m t => cases m <;> rfl
      | _ => rfl
    rw [e]
    exact run_sh
def chF (f g : Fs) : Prop := f.changed = g.changed + 1
def chK (k l : Kp) : Prop := k.read = l.read.map (· + 1)
theorem run_ch {kw : Bool} : ∀ {ss : List Stp} {f g : Fs} {k l : Kp}, chF f g → chK k l → chF (runF kw f k ss).1 (runF kw g l ss).1 ∧ chK (runF kw f k ss).2 (runF kw g l ss).2
  | [], f, g, k, l, a, b => ⟨a, b⟩
  | s :: r, f, g, k, l, a, b => by
    rw [runF, runF]
    have a' : chF (doF kw f s) (doF kw g s) := by
      unfold chF at a ⊢
      cases s <;> simp only [doF, a]
    refine run_ch a' ?_
    cases s with
    | mk m t =>
      cases m with
      | read => unfold chK; simp only [kpF, Option.map_some]; exact congrArg some a'
      | _ => exact b
    | _ => exact b
theorem idxS_mem {x : Str} : ∀ {ys : List Str}, x ∈ ys → ∃ j, idxS x ys = some j
  | [], h => by simp at h
  | y :: r, h => by
    unfold idxS
    split
    · exact ⟨_, rfl⟩
    · rename_i hne
      have hr : x ∈ r := by
        rcases List.mem_cons.mp h with z | z
        · exact absurd z.symm hne
        · exact z
      obtain ⟨j, hj⟩ := idxS_mem hr
      exact ⟨j + 1, by rw [hj]; rfl⟩
end DM

/-! equality and membership of plain data in general -/
namespace DM
open PySem PySem.Spec L2
mutual
/-- data without cells, of a depth, with good strings -/
def shp : Nat → D → Bool
  | _, .non => true
  | _, .bl _ => true
  | _, .int _ => true
  | _, .str x => PyData.strOk x
  | 0, .tup _ => false
  | n + 1, .tup xs => shps n xs
  | 0, .lst _ => false
  | n + 1, .lst xs => shps n xs
  | 0, .fl _ => false
  | n + 1, .fl xs => shps n xs
  | _, .ref _ => false
def shps : Nat → List D → Bool
  | _, [] => true
  | n, x :: r => shp n x && shps n r
end
mutual
/-- no bool stands where the other one has an int -/
def apt : D → D → Bool
  | .bl _, .int _ => false
  | .int _, .bl _ => false
  | .lst _, .fl _ => false
  | .fl _, .lst _ => false
  | .tup a, .tup b => apts a b
  | .lst a, .lst b => apts a b
  | .fl a, .fl b => apts a b
  | _, _ => true
def apts : List D → List D → Bool
  | a :: r, b :: t => apt a b && apts r t
  | _, _ => true
end
mutual
def pyD : D → PyData
  | .non => .none
  | .bl b => .bool b
  | .int i => .int i
  | .str x => .str x
  | .tup xs => .tuple (pyDs xs)
  | .lst xs => .list (pyDs xs)
  | .fl xs => .list (pyDs xs)
  | .ref _ => .none
def pyDs : List D → List PyData
  | [] => []
  | x :: r => pyD x :: pyDs r
end
mutual
theorem toPy_shp : ∀ {n : Nat} {d : D}, shp n d = true → toPy d = some (pyD d)
  | _, .non, _ => by simp [toPy, pyD]
  | _, .bl b, _ => by simp [toPy, pyD]
  | _, .int i, _ => by simp [toPy, pyD]
  | _, .str x, _ => by simp [toPy, pyD]
  | 0, .tup xs, h => by simp [shp] at h
  | n + 1, .tup xs, h => by
    simp only [shp] at h
    simp only [toPy, pyD, toPys_shps h, Option.map_some]
  | 0, .lst xs, h => by simp [shp] at h
  | n + 1, .lst xs, h => by
    simp only [shp] at h
    simp only [toPy, pyD, toPys_shps h, Option.map_some]
  | 0, .fl xs, h => by simp [shp] at h
  | n + 1, .fl xs, h => by
    simp only [shp] at h
    simp only [toPy, pyD, toPys_shps h, Option.map_some]
  | _, .ref _, h => by simp [shp] at h
theorem toPys_shps : ∀ {n : Nat} {ds : List D}, shps n ds = true → toPys ds = some (pyDs ds)
  | _, [], _ => by simp [toPys, pyDs]
  | n, d :: r, h => by
    simp only [shps, Bool.and_eq_true] at h
    simp only [toPys, toPy_shp h.1, toPys_shps h.2, pyDs]
end
mutual
theorem lay_shp : ∀ {n : Nat} {d : D}, shp n d = true → PyData.canLay0 (pyD d) = true
  | _, .non, _ => by simp [pyD, PyData.canLay0]
  | _, .bl b, _ => by simp [pyD, PyData.canLay0]
  | _, .int i, _ => by simp [pyD, PyData.canLay0]
  | _, .str x, h => by simpa [pyD, PyData.canLay0, shp] using h
  | 0, .tup xs, h => by simp [shp] at h
  | n + 1, .tup xs, h => by
    simp only [shp] at h
    simp only [pyD, PyData.canLay0, lays_shps h]
  | 0, .lst xs, h => by simp [shp] at h
  | n + 1, .lst xs, h => by
    simp only [shp] at h
    simp only [pyD, PyData.canLay0, lays_shps h]
  | 0, .fl xs, h => by simp [shp] at h
  | n + 1, .fl xs, h => by
    simp only [shp] at h
    simp only [pyD, PyData.canLay0, lays_shps h]
  | _, .ref _, h => by simp [shp] at h
theorem lays_shps : ∀ {n : Nat} {ds : List D}, shps n ds = true → PyData.canLayAll0 (pyDs ds) = true
  | _, [], _ => by simp [pyDs, PyData.canLayAll0]
  | n, d :: r, h => by
    simp only [shps, Bool.and_eq_true] at h
    simp only [pyDs, PyData.canLayAll0, lay_shp h.1, lays_shps h.2, Bool.and_self]
end
mutual
theorem dep_shp : ∀ {n : Nat} {d : D}, shp n d = true → (pyD d).depth ≤ n
  | _, .non, _ => by simp [pyD, PyData.depth]
  | _, .bl b, _ => by simp [pyD, PyData.depth]
  | _, .int i, _ => by simp [pyD, PyData.depth]
  | _, .str x, h => by simp [pyD, PyData.depth]
  | 0, .tup xs, h => by simp [shp] at h
  | n + 1, .tup xs, h => by
    simp only [shp] at h
    have := deps_shps h
    simp only [pyD, PyData.depth]; omega
  | 0, .lst xs, h => by simp [shp] at h
  | n + 1, .lst xs, h => by
    simp only [shp] at h
    have := deps_shps h
    simp only [pyD, PyData.depth]; omega
  | 0, .fl xs, h => by simp [shp] at h
  | n + 1, .fl xs, h => by
    simp only [shp] at h
    have := deps_shps h
    simp only [pyD, PyData.depth]; omega
  | _, .ref _, h => by simp [shp] at h
theorem deps_shps : ∀ {n : Nat} {ds : List D}, shps n ds = true → PyData.depthAll (pyDs ds) ≤ n
  | _, [], _ => by simp [pyDs, PyData.depthAll]
  | n, d :: r, h => by
    simp only [shps, Bool.and_eq_true] at h
    have h1 := dep_shp h.1
    have h2 := deps_shps h.2
    simp only [pyDs, PyData.depthAll]; omega
end
theorem shaped_shp {d : D} (h : shp 60 d = true) : SeqAt.shaped (pyD d) = true := by
  unfold SeqAt.shaped
  have := dep_shp h
  rw [lay_shp h, Bool.true_and]
  exact decide_eq_true (by omega)
mutual
theorem eqv_apt : ∀ {n m : Nat} {d e : D}, shp n d = true → shp m e = true → apt d e = true → PyData.eqv (pyD d) (pyD e) = d.beq e
  | _, _, .non, e, _, h, _ => by cases e <;> simp_all [pyD, PyData.eqv, D.beq, shp]
  | _, _, .bl b, e, _, h, a => by cases e <;> simp_all [pyD, PyData.eqv, D.beq, shp, apt]
  | _, _, .int b, e, _, h, a => by cases e <;> simp_all [pyD, PyData.eqv, D.beq, shp, apt]
  | _, _, .str b, e, _, h, a => by cases e <;> simp_all [pyD, PyData.eqv, D.beq, shp, apt]
  | 0, _, .tup xs, e, h, _, _ => by simp [shp] at h
  | 0, _, .lst xs, e, h, _, _ => by simp [shp] at h
  | 0, _, .fl xs, e, h, _, _ => by simp [shp] at h
  | n + 1, m, .tup xs, e, h, h', a => by
    cases e with
    | tup ys =>
      cases m with
      | zero => simp [shp] at h'
      | succ m =>
        simp only [shp] at h h'
        simp only [apt] at a
        simp only [pyD, PyData.eqv, D.beq]
        exact eqvs_apts h h' a
    | ref i => simp [shp] at h'
    | _ => simp [pyD, PyData.eqv, D.beq]
  | n + 1, m, .lst xs, e, h, h', a => by
    cases e with
    | lst ys =>
      cases m with
      | zero => simp [shp] at h'
      | succ m =>
        simp only [shp] at h h'
        simp only [apt] at a
        simp only [pyD, PyData.eqv, D.beq]
        exact eqvs_apts h h' a
    | ref i => simp [shp] at h'
    | fl ys => simp [apt] at a
    | _ => simp [pyD, PyData.eqv, D.beq]
  | n + 1, m, .fl xs, e, h, h', a => by
    cases e with
    | fl ys =>
      cases m with
      | zero => simp [shp] at h'
      | succ m =>
        simp only [shp] at h h'
        simp only [apt] at a
        simp only [pyD, PyData.eqv, D.beq]
        exact eqvs_apts h h' a
    | ref i => simp [shp] at h'
    | lst ys => simp [apt] at a
    | _ => simp [pyD, PyData.eqv, D.beq]
  | n, _, .ref _, _, h, _, _ => by simp [shp] at h
theorem eqvs_apts : ∀ {n m : Nat} {ds es : List D}, shps n ds = true → shps m es = true → apts ds es = true → PyData.eqvAll (pyDs ds) (pyDs es) = beqs ds es
  | _, _, [], [], _, _, _ => by simp [pyDs, PyData.eqvAll, beqs]
  | _, _, [], e :: t, _, _, _ => by simp [pyDs, PyData.eqvAll, beqs]
  | _, _, d :: r, [], _, _, _ => by simp [pyDs, PyData.eqvAll, beqs]
  | n, m, d :: r, e :: t, h, h', a => by
    simp only [shps, Bool.and_eq_true] at h h'
    simp only [apts, Bool.and_eq_true] at a
    simp only [pyDs, PyData.eqvAll, beqs, eqv_apt h.1 h'.1 a.1, eqvs_apts h.2 h'.2 a.2]
end
theorem beq_dec {d e : D} : d.beq e = decide (d = e) := by
  by_cases h : d = e
  · subst h; rw [D.beq_rfl]; simp
  · rw [decide_eq_false h]
    cases q : d.beq e
    · rfl
    · exact absurd (D.beq_eq _ _ q) h
theorem toPyS_shp {d : D} {n : Nat} {μ : Store} (h : shp n d = true) : toPyS μ d = some (pyD d) := by
  cases d with
  | ref i => simp [shp] at h
  | _ => exact toPy_shp h
theorem f_eqG {neg : Bool} {d e : D} {μ : Store} (hd : shp 60 d = true) (he : shp 60 e = true) (ha : apt d e = true) : Feq neg d e μ = okR (.bl (if neg = true then !d.beq e else d.beq e)) μ := by
  unfold Feq
  match h : twoS d e with
  | some (a, b) =>
    obtain ⟨rfl, rfl⟩ := twoS_some h
    simp [D.beq]
  | none =>
    simp only [toPyS_shp hd, toPyS_shp he]
    rw [if_pos ⟨shaped_shp hd, shaped_shp he⟩, eqv_apt hd he ha]
theorem f_eqD {d e : D} {μ : Store} (hd : shp 60 d = true) (he : shp 60 e = true) (ha : apt d e = true) : Feq false d e μ = okR (.bl (decide (d = e))) μ := by
  rw [f_eqG hd he ha, if_neg (by decide), beq_dec]
theorem f_neD {d e : D} {μ : Store} (hd : shp 60 d = true) (he : shp 60 e = true) (ha : apt d e = true) : Feq true d e μ = okR (.bl (!decide (d = e))) μ := by
  rw [f_eqG hd he ha, if_pos rfl, beq_dec]
theorem any_apt {n m : Nat} {d : D} (hd : shp m d = true) : ∀ {xs : List D}, shps n xs = true → (∀ x ∈ xs, apt x d = true) → ((pyDs xs).any fun z => PyData.eqv z (pyD d)) = decide (d ∈ xs)
  | [], _, _ => by simp [pyDs]
  | x :: r, h, a => by
    simp only [shps, Bool.and_eq_true] at h
    rw [pyDs, List.any_cons, any_apt hd h.2 (fun y hy => a y (List.mem_cons_of_mem _ hy)), eqv_apt h.1 hd (a x List.mem_cons_self), beq_dec]
    by_cases q : x = d
    · subst q; simp
    · have q' : ¬ d = x := fun z => q z.symm
      simp [q, q']
theorem f_inT {neg : Bool} {d : D} {xs : List D} {μ : Store} (hd : shp 60 d = true) (hx : shps 59 xs = true) (ha : ∀ x ∈ xs, apt x d = true) : Fin neg d (.tup xs) μ = okR (.bl (if neg = true then !decide (d ∈ xs) else decide (d ∈ xs))) μ := by
  show (match toPyS μ d, toPyS μ (.tup xs) with
    | some p, some (.list ds) => if SeqAt.shaped p = true ∧ SeqAt.shaped (.list ds) = true then okR (.bl (if neg then !ds.any fun z => PyData.eqv z p else ds.any fun z => PyData.eqv z p)) μ else none
    | some p, some (.tuple ds) => if SeqAt.shaped p = true ∧ SeqAt.shaped (.tuple ds) = true then okR (.bl (if neg then !ds.any fun z => PyData.eqv z p else ds.any fun z => PyData.eqv z p)) μ else none
    | _, _ => none) = _
  have h2 : shp 60 (.tup xs) = true := by simp only [shp]; exact hx
  simp only [toPyS_shp hd, toPyS_shp h2, pyD]
  have h3 := shaped_shp h2
  simp only [pyD] at h3
  rw [if_pos ⟨shaped_shp hd, h3⟩, any_apt hd hx ha]
theorem f_inL' {neg : Bool} {d : D} {xs : List D} {μ : Store} (hd : shp 60 d = true) (hx : shps 59 xs = true) (ha : ∀ x ∈ xs, apt x d = true) : Fin neg d (.lst xs) μ = okR (.bl (if neg = true then !decide (d ∈ xs) else decide (d ∈ xs))) μ := by
  show (match toPyS μ d, toPyS μ (.lst xs) with
    | some p, some (.list ds) => if SeqAt.shaped p = true ∧ SeqAt.shaped (.list ds) = true then okR (.bl (if neg then !ds.any fun z => PyData.eqv z p else ds.any fun z => PyData.eqv z p)) μ else none
    | some p, some (.tuple ds) => if SeqAt.shaped p = true ∧ SeqAt.shaped (.tuple ds) = true then okR (.bl (if neg then !ds.any fun z => PyData.eqv z p else ds.any fun z => PyData.eqv z p)) μ else none
    | _, _ => none) = _
  have h2 : shp 60 (.lst xs) = true := by simp only [shp]; exact hx
  simp only [toPyS_shp hd, toPyS_shp h2, pyD]
  have h3 := shaped_shp h2
  simp only [pyD] at h3
  rw [if_pos ⟨shaped_shp hd, h3⟩, any_apt hd hx ha]
theorem f_inR' {neg : Bool} {d : D} {xs : List D} {c : Nat} {μ : Store} (hc : μ[c]? = some (.lst xs)) (hd : shp 60 d = true) (hx : shps 59 xs = true) (ha : ∀ x ∈ xs, apt x d = true) : Fin neg d (.ref c) μ = okR (.bl (if neg = true then !decide (d ∈ xs) else decide (d ∈ xs))) μ := by
  show (match toPyS μ d, toPyS μ (.ref c) with
    | some p, some (.list ds) => if SeqAt.shaped p = true ∧ SeqAt.shaped (.list ds) = true then okR (.bl (if neg then !ds.any fun z => PyData.eqv z p else ds.any fun z => PyData.eqv z p)) μ else none
    | some p, some (.tuple ds) => if SeqAt.shaped p = true ∧ SeqAt.shaped (.tuple ds) = true then okR (.bl (if neg then !ds.any fun z => PyData.eqv z p else ds.any fun z => PyData.eqv z p)) μ else none
    | _, _ => none) = _
  have h2 : shp 60 (.lst xs) = true := by simp only [shp]; exact hx
  have e : toPyS μ (.ref c) = some (.list (pyDs xs)) := by simp only [toPyS, hc, toPys_shps hx, Option.map_some]
  simp only [toPyS_shp hd, e]
  have h3 := shaped_shp h2
  simp only [pyD] at h3
  rw [if_pos ⟨shaped_shp hd, h3⟩, any_apt hd hx ha]
theorem shps_all {n : Nat} : ∀ {xs : List D}, shps n xs = true ↔ ∀ x ∈ xs, shp n x = true
  | [] => by simp [shps]
  | x :: r => by simp only [shps, Bool.and_eq_true, shps_all (xs := r), List.mem_cons, forall_eq_or_imp]
/-! slices -/
theorem cut_drop {α : Type} {xs : List α} {n : Nat} : cutD xs (some (n : Int)) none = xs.drop n := by
  unfold cutD
  rw [HT.sIx_nat, HT.sIx_none]
  by_cases h : n ≤ xs.length
  · rw [Nat.min_eq_left h, List.take_of_length_le (by rw [List.length_drop]; omega)]
  · rw [Nat.min_eq_right (by omega), List.drop_of_length_le (Nat.le_refl _), List.drop_of_length_le (by omega)]
    simp
theorem cut_take {α : Type} {xs : List α} {n : Nat} : cutD xs none (some (n : Int)) = xs.take n := by
  unfold cutD
  rw [HT.sIx_nat, HT.sIx_none, List.drop_zero, Nat.sub_zero]
  by_cases h : n ≤ xs.length
  · rw [Nat.min_eq_left h]
  · rw [Nat.min_eq_right (by omega), List.take_of_length_le (Nat.le_refl _), List.take_of_length_le (by omega)]
theorem cut_init {α : Type} {xs : List α} {y : α} : cutD (xs ++ [y]) none (some (-1)) = xs := by
  unfold cutD
  have e : HT.sIx (xs ++ [y]).length (xs ++ [y]).length (some (-1)) = xs.length := by
    unfold HT.sIx
    simp only []
    rw [if_pos (by decide), List.length_append]
    simp
    omega
  rw [e, HT.sIx_none, List.drop_zero, Nat.sub_zero]
  simp
theorem cut_pos {α : Type} {xs : List α} {i : Int} {n : Nat} (h : i = (n : Int)) : cutD xs (some i) none = xs.drop n ∧ cutD xs none (some i) = xs.take n := by
  subst h
  exact ⟨cut_drop, cut_take⟩
theorem f_addT' {xs ys : List D} {ν : Store} (h : xs.length + ys.length ≤ 1000000) : Fadd (.tup xs) (.tup ys) ν = okR (.tup (xs ++ ys)) ν := by
  show (if xs.length + ys.length ≤ sizeLine then okR (.tup (xs ++ ys)) ν else none) = _
  rw [if_pos (size_ok h)]
theorem f_addL' {xs ys : List D} {ν : Store} (h : xs.length + ys.length ≤ 1000000) : Fadd (.lst xs) (.lst ys) ν = okR (.lst (xs ++ ys)) ν := by
  show (if xs.length + ys.length ≤ sizeLine then okR (.lst (xs ++ ys)) ν else none) = _
  rw [if_pos (size_ok h)]
end DM

/-! x[::-1] of tuples and lists -/
namespace HT
open PySem PySem.Spec PyProof.Rows L2
section
variable {prog : Program} {w : World} {A : Around} {E : Value → Shared → Prop} {s : Shared}
theorem adjust_rev (n : Nat) : Builtin.Slice.sliceAdjust none none (-1) (n : Int) = ((n : Int) - 1, -1) := by
  unfold Builtin.Slice.sliceAdjust
  simp
theorem places_rev (n : Nat) : Builtin.Slice.slicePlaces ((n : Int) - 1) (-1) (-1) = n := by
  unfold Builtin.Slice.slicePlaces
  simp
  split <;> omega
theorem sliceApplied_rev {sl : Addr} {vs : Value} {n : Nat} {Q : Int × Int × Nat → Shared → Prop} (hs : s.heap.IsSliceOf sl .none .none vs) (ps : IsPart vs (some (-1)))
    (h : Q ((n : Int) - 1, -1, n) s) : wpAny (model prog w) A (Builtin.Slice.sliceApplied (.ref sl) (pure (n : Int))) Q E s := by
  obtain ⟨os, hos, hcs, hds⟩ := id hs
  unfold Builtin.Slice.sliceApplied Builtin.Slice.sliceFields
  refine wpAny_bind (wpAny_bind (wpAny_field hos hds (x := .none) rfl (wpAny_bind (wpAny_field hos hds (x := .none) rfl (wpAny_bind (wpAny_field hos hds (x := vs) rfl (wpAny_pure ?_)))))))
  refine wpAny_bind (slicePart_ ps ?_)
  show wpAny _ _ (if ((-1 : Int) == 0) = true then _ else _) _ _ s
  rw [if_neg (by decide)]
  refine wpAny_bind (slicePart_none (wpAny_bind (slicePart_none (wpAny_bind (wpAny_pure ?_)))))
  show wpAny _ _ (match Builtin.Slice.sliceAdjust none none (-1) (n : Int) with | (lo, hi) => pure (lo, (-1 : Int), Builtin.Slice.slicePlaces lo hi (-1))) _ _ s
  rw [adjust_rev n]
  show wpAny _ _ (pure ((n : Int) - 1, (-1 : Int), Builtin.Slice.slicePlaces ((n : Int) - 1) (-1) (-1))) _ _ s
  rw [places_rev]
  exact wpAny_pure h
theorem pick_rev (xs : Array Value) : ((List.range xs.size).filterMap fun (m : Nat) => xs[((xs.size : Int) - 1 + (m : Int) * (-1)).toNat]?).toArray = xs.toList.reverse.toArray := by
  have e : (fun (m : Nat) => xs[((xs.size : Int) - 1 + (m : Int) * (-1)).toNat]?) = (xs[·]?) ∘ fun m => xs.size - 1 - m := by
    funext m
    show xs[((xs.size : Int) - 1 + (m : Int) * (-1)).toNat]? = xs[xs.size - 1 - m]?
    have : ((xs.size : Int) - 1 + (m : Int) * (-1)).toNat = xs.size - 1 - m := by omega
    rw [this]
  rw [e, ← List.filterMap_map, PySem.W.krv_range, List.filterMap_reverse, PySem.W.krv_all]
theorem getItem_tuple_rev {t sl : Addr} {items : Array Value} {vs : Value} {Q : Value → Shared → Prop} (ht : IsTup s.heap t items) (hs : s.heap.IsSliceOf sl .none .none vs) (ps : IsPart vs (some (-1)))
    (h : Q (.ref s.heap.objs.size) { s with heap := s.heap.push { cls := .type "tuple", data := .seq items.toList.reverse.toArray } })
    (hsz : items.size ≤ sizeLine) : wpAny (model prog w) A (getItem (.ref t) (.ref sl)) Q E s := by
  have htake : sizeOk (.seq items.toList.reverse.toArray) := by
    show items.toList.reverse.toArray.size ≤ sizeLine
    rw [List.size_toArray, List.length_reverse, Array.length_toList]
    omega
  obtain ⟨os, hos, hcs, hds⟩ := id hs
  have hTs : s.TypeIs (.ref sl) "slice" := ⟨os, hos, hcs⟩
  unfold getItem
  try with_reducible refine wpAny_holding ?_
  first | refine wpAny_bind (wpAny_pure ?_) | skip
  refine wpAny_bind (wpAny_sequenceKey ht.typeIs (by decide) ?_)
  refine wpAny_bind (wpAny_callSpecial?_slot (name := Str.ofString "__getitem__") ht.typeIs PyProof.Rows.slot_tuple_getitem
    (wpAny_call_entry PyProof.Rows.slot_tuple_getitem ht.typeIs entry_tuple_getitem ?_ (args_tuple_getitem _ _)))
  show wpAny _ _ (Builtin.Tuple.tupleItemsOf (.ref t) >>= _) _ _ s
  refine wpAny_bind (tupleItemsOf_ ht ?_)
  refine wpAny_bind (wpAny_typeOf hTs ?_)
  rw [if_pos (by decide)]
  refine wpAny_bind (sliceApplied_rev hs ps ?_)
  show wpAny _ _ (if (((items.size : Int) - 1) == 0 && (-1 : Int) == 1 && items.size == items.size) = true then _ else _) _ _ s
  rw [if_neg (by simp), pick_rev]
  first
    | exact wpAny_bind (m := Builtin.Tuple.tupleExact _) (wpAny_newObj_type (wpAny_pure ⟨_, rfl, wpAny_pure h⟩) htake)
    | exact wpAny_bind (m := Builtin.Tuple.tupleExact _) (wpAny_newObj_type (wpAny_bind (wpAny_pure (wpAny_pure ⟨_, rfl, wpAny_pure h⟩))) htake)
    | exact wpAny_bind (wpAny_bind (m := Builtin.Tuple.tupleExact _) (wpAny_newObj_type (wpAny_pure (wpAny_pure ⟨_, rfl, wpAny_pure h⟩)) htake))
    | exact wpAny_bind (wpAny_bind (m := Builtin.Tuple.tupleExact _) (wpAny_newObj_type (wpAny_pure ⟨_, rfl, wpAny_pure h⟩) htake))
end
end HT
namespace DM
open PySem PySem.Spec L2 PyProof.Rows
def Frev (d : D) (μ : Store) : Res D := match d with
  | .tup xs => okR (.tup xs.reverse) μ
  | .lst xs => okR (.lst xs.reverse) μ
  | _ => none
def tRev (K : PySem.W.Frag) (te : TE) : TE := fun σ H Q => te σ H fun x H1 => ∃ a xs, x = .ref a ∧ ((SqL K H1 a xs ∧ ∀ p, H1 p = none → Q (.ref p) (upd H1 p (.lst xs.reverse))) ∨ (SqT K H1 a xs ∧ ∀ p o, H1 p = none → o.dict = none → Q (.ref p) (upd H1 p (.frz o (.tup xs.reverse)))))
section
variable {X : Cx} {W : DW} {e : Expr} {E : CM D} {te : TE} {k : Nat} {p1 p2 p3 pos : Pos}
theorem pe_rev (he : PE X e te) : PE X (.Subscript e (.Slice none none (some (.UnaryOp .USub (.Constant (.int 1) k p1) p2)) p3) pos) (tRev X.K te) := by
  refine ⟨fun pins s σ H Q I h => ?_⟩
  refine Subscript_ (thn (he.run pins s σ H _ I h) fun v s1 ⟨x, H1, I1, r1, q1⟩ => ?_)
  obtain ⟨a, xs, ex, q⟩ := q1
  subst ex
  cases r1
  have hst : PO X (some (.UnaryOp .USub (.Constant (.int 1) k p1) p2)) (tPart (tUn (rU fun i => .int (-i)) (tC (.int 1)))) := po_some (pe_un un_neg pe_int)
  refine wpAny_Slice (thn (po_none.run pins s1 σ H1 (fun o H2 => o = none ∧ H2 = H1) I1 ⟨rfl, rfl⟩) fun vl s2 ⟨l, H2, I2, pl, el, e2⟩ => ?_)
  subst el e2
  refine thn (po_none.run pins s2 σ H2 (fun o H3 => o = none ∧ H3 = H2) I2 ⟨rfl, rfl⟩) fun vu s3 ⟨u, H3, I3, pu, eu, e3⟩ => ?_
  subst eu e3
  refine thn (hst.run pins s3 σ H3 (fun o H4 => o = some (-1) ∧ H4 = H3) I3 ⟨1, rfl, -1, rfl, rfl, rfl⟩) fun vs s4 ⟨o, H4, I4, ps, eo, e4⟩ => ?_
  subst eo e4
  have I5 : Inv X pins σ H4 { s4 with heap := s4.heap.push { cls := .type "slice", data := .fields #[vl, vu, vs] } } := I4.kept (t' := s4.toks) fun b ob q => Heap.get?_push_of_some _ q
  show wpAny (model X.prog X.w) X.A (subscriptTail e (.Slice none none (some (.UnaryOp .USub (.Constant (.int 1) k p1) p2)) p3) (.ref a) (.ref s4.heap.objs.size)) (EP X pins σ Q) X.xe { s4 with heap := s4.heap.push { cls := .type "slice", data := .fields #[vl, vu, vs] } }
  rcases q with ⟨hx, q⟩ | ⟨hx, q⟩
  · obtain ⟨its, r, ht, hz⟩ := I5.list hx
    have hlen := r.length
    refine tail_any (ops := [.ref a, .ref s4.heap.objs.size]) ht.isList.typeIs (PySem.slot_list_getitem.lookup) ?_ (by with_unfolding_all rfl)
    refine wpAny_getItem_list_slice ht.isList (Heap.IsSliceOf.new _ vl vu vs) pl pu ps (by decide) ?_ (by rw [List.size_toArray]; omega)
    rw [PySem.W.krv_pick]
    refine ⟨.ref _, _, I5.laid (t' := s4.toks) (o := .lst xs.reverse) (fun b ob q => Heap.get?_push_of_some _ q) (Nat.le_refl _) ?_, rfl, q _ (I5.hok.fresh (Nat.le_refl _))⟩
    exact ⟨by rw [List.length_reverse]; exact hz, _, 0, r.reverse, Heap.get?_push_size _ rfl⟩
  · obtain ⟨its, r, ht, hz⟩ := I5.tuple hx
    have hlen := r.length
    cases pl
    cases pu
    refine tail_any (ops := [.ref a, .ref s4.heap.objs.size]) ht.typeIs (PyProof.Rows.slot_tuple_getitem.lookup) ?_ (by with_unfolding_all rfl)
    refine HT.getItem_tuple_rev ht (Heap.IsSliceOf.new _ .none .none vs) ps ?_ (by rw [List.size_toArray]; omega)
    refine ⟨.ref _, upd H4 _ (.frz { cls := .type "tuple", data := .seq its.reverse.toArray } (.tup xs.reverse)), I5.laid (t' := s4.toks) (fun b ob q => Heap.get?_push_of_some _ q) (Nat.le_refl _) ?_, rfl, q _ _ (I5.hok.fresh (Nat.le_refl _)) rfl⟩
    exact ⟨Heap.get?_push_size _ rfl, by rw [List.length_reverse]; exact hz, _, r.reverse, PyProof.Rows.IsTup.new _ _⟩
theorem VRs.rev {K : PySem.W.Frag} {ι : List Addr} {H : Hp} : ∀ {vs : List V} {ds : List D}, VRs K ι H vs ds → VRs K ι H vs.reverse ds.reverse
  | _, _, .nil => .nil
  | _, _, .cons h r => by
    rw [List.reverse_cons, List.reverse_cons]
    exact (VRs.rev r).append (.cons h .nil)
theorem d_rev (he : PE X e (tE X.K W E)) : PE X (.Subscript e (.Slice none none (some (.UnaryOp .USub (.Constant (.int 1) k p1) p2)) p3) pos) (tE X.K W (e1 Frev E)) :=
  (pe_rev he).imp fun σ H Q ⟨ρ, ι, μ, sr, wf, h⟩ => by
    refine tG.mono (PostG.bind sr wf h) ?_
    rintro x H1 ⟨ι1, μ1, d, l1, w1, vx, h1⟩
    cases vx with
    | tup ht r =>
      refine ⟨_, _, rfl, .inr ⟨ht.sq, fun p o hp ho => ?_⟩⟩
      refine h1.ok (Le.laid hp) (w1.laid hp) ?_
      exact .tup (.inl ⟨⟨o, upd_same, ho⟩, w1.out hp⟩) ((r.mono (Le.laid hp)).rev)
    | lst ht r =>
      refine ⟨_, _, rfl, .inl ⟨ht.sq, fun p hp => ?_⟩⟩
      refine h1.ok (Le.laid hp) (w1.laid hp) ?_
      exact .lst ⟨upd_same, w1.out hp⟩ ((r.mono (Le.laid hp)).rev)
    | _ => exact h1.elim
theorem f_revT {xs : List D} {μ : Store} : Frev (.tup xs) μ = okR (.tup xs.reverse) μ := rfl
theorem f_revL {xs : List D} {μ : Store} : Frev (.lst xs) μ = okR (.lst xs.reverse) μ := rfl
end
end DM

/-! repr of plain data in general -/
namespace DM
open PySem PySem.Spec L2
mutual
/-- all ints are of at most so many digits -/
def sml (k : Nat) : D → Bool
  | .int i => decide (i.natAbs < 10 ^ k)
  | .tup xs => smls k xs
  | .lst xs => smls k xs
  | .fl xs => smls k xs
  | _ => true
def smls (k : Nat) : List D → Bool
  | [] => true
  | x :: r => sml k x && smls k r
end
mutual
/-- no repr is longer than this -/
def rpn (k : Nat) : D → Nat
  | .int _ => k + 1
  | .str x => 10 * x.length + 8
  | .tup xs => rpns k xs + 3
  | .lst xs => rpns k xs + 3
  | .fl xs => rpns k xs + 3
  | _ => 8
def rpns (k : Nat) : List D → Nat
  | [] => 0
  | x :: r => rpn k x + 2 + rpns k r
end
theorem pyDs_len : ∀ xs : List D, (pyDs xs).length = xs.length
  | [] => rfl
  | x :: r => by simp only [pyDs, List.length_cons, pyDs_len r]
mutual
theorem shown_rpn {k : Nat} (hk : 1 ≤ k) : ∀ {n : Nat} {d : D}, shp n d = true → sml k d = true → (pyD d).shown.length ≤ rpn k d
  | _, .non, _, _ => by
    have e : (PyData.shown .none).length = 4 := rfl
    simp only [pyD, rpn]; omega
  | _, .bl b, _, _ => by
    have e : (PyData.shown (.bool b)).length ≤ 5 := by cases b <;> decide
    simp only [pyD, rpn]; omega
  | _, .int i, _, h => by
    simp only [sml, decide_eq_true_eq] at h
    have e := int_text_length_le10 (k := k) hk h
    simp only [pyD, rpn]
    show (Str.ofString (toString i)).length ≤ _
    rw [ofString_length]; exact e
  | _, .str x, h, _ => by
    have hl : PyData.leavesShort 8 (.str x) = true := PyData.leavesShort_of_canLay0 8 (.str x) (by simpa [shp, PyData.canLay0] using h) rfl
    have e := PyData.shown_le 8 (by decide) (.str x) hl
    have e2 : x.length = x.cps.size := rfl
    simp only [pyD, rpn, PyData.weight] at e ⊢
    omega
  | 0, .tup xs, h, _ => by simp [shp] at h
  | n + 1, .tup xs, h, h' => by
    simp only [shp] at h
    simp only [sml] at h'
    have h1 := shown_rpns hk h h'
    have h2 := tupleText_len_le (PyData.shownAll (pyDs xs))
    have h3 := PyData.shownAll_length (pyDs xs)
    have h4 := pyDs_len xs
    simp only [pyD, rpn, PyData.shown]
    omega
  | 0, .lst xs, h, _ => by simp [shp] at h
  | n + 1, .lst xs, h, h' => by
    simp only [shp] at h
    simp only [sml] at h'
    have h1 := shown_rpns hk h h'
    have h2 := listText_len_le (PyData.shownAll (pyDs xs))
    have h3 := PyData.shownAll_length (pyDs xs)
    have h4 := pyDs_len xs
    simp only [pyD, rpn, PyData.shown]
    omega
  | 0, .fl xs, h, _ => by simp [shp] at h
  | n + 1, .fl xs, h, h' => by
    simp only [shp] at h
    simp only [sml] at h'
    have h1 := shown_rpns hk h h'
    have h2 := listText_len_le (PyData.shownAll (pyDs xs))
    have h3 := PyData.shownAll_length (pyDs xs)
    have h4 := pyDs_len xs
    simp only [pyD, rpn, PyData.shown]
    omega
  | _, .ref _, h, _ => by simp [shp] at h
theorem shown_rpns {k : Nat} (hk : 1 ≤ k) : ∀ {n : Nat} {ds : List D}, shps n ds = true → smls k ds = true → ((PyData.shownAll (pyDs ds)).map (·.length)).sum + 2 * ds.length ≤ rpns k ds
  | _, [], _, _ => by simp [pyDs, PyData.shownAll, rpns]
  | n, d :: r, h, h' => by
    simp only [shps, Bool.and_eq_true] at h
    simp only [smls, Bool.and_eq_true] at h'
    have h1 := shown_rpn hk h.1 h'.1
    have h2 := shown_rpns hk h.2 h'.2
    simp only [pyDs, PyData.shownAll, rpns, List.map_cons, List.sum_cons, List.length_cons]
    omega
end
theorem log_lt {k i : Nat} (hk : k ≤ 500) (h : i < 10 ^ k) : i.log2 < 1920 := by
  by_cases h0 : i = 0
  · subst h0; decide
  · rw [Nat.log2_lt h0]
    exact Nat.lt_of_lt_of_le h (Nat.le_trans (Nat.pow_le_pow_right (by decide) hk) (by decide +kernel))
mutual
theorem showable_sml {k : Nat} (hk : k ≤ 500) : ∀ {d : D}, sml k d = true → (pyD d).showable = true
  | .non, _ => by simp [pyD, PyData.showable]
  | .bl b, _ => by simp [pyD, PyData.showable]
  | .int i, h => by
    simp only [sml, decide_eq_true_eq] at h
    simp only [pyD, PyData.showable, decide_eq_true_eq]
    exact log_lt hk h
  | .str x, _ => by simp [pyD, PyData.showable]
  | .tup xs, h => by
    simp only [sml] at h
    simp only [pyD, PyData.showable, showables_smls hk h]
  | .lst xs, h => by
    simp only [sml] at h
    simp only [pyD, PyData.showable, showables_smls hk h]
  | .fl xs, h => by
    simp only [sml] at h
    simp only [pyD, PyData.showable, showables_smls hk h]
  | .ref _, _ => by simp [pyD, PyData.showable]
theorem showables_smls {k : Nat} (hk : k ≤ 500) : ∀ {ds : List D}, smls k ds = true → PyData.showableAll (pyDs ds) = true
  | [], _ => by simp [pyDs, PyData.showableAll]
  | d :: r, h => by
    simp only [smls, Bool.and_eq_true] at h
    simp only [pyDs, PyData.showableAll, showable_sml hk h.1, showables_smls hk h.2, Bool.and_self]
end
/-- repr of data -/
def reprD (d : D) : Str := (pyD d).shown
theorem f_reprD {k : Nat} {d : D} {μ : Store} (hs : shp 60 d = true) (h0 : 1 ≤ k) (hk : k ≤ 500) (hi : sml k d = true) (hl : rpn k d ≤ 1000000) : Frepr [d] μ = okR (.str (reprD d)) μ :=
  f_repr (toPyS_shp hs) ⟨showable_sml hk hi, by have := dep_shp hs; omega⟩ (size_ok (Nat.le_trans (shown_rpn h0 hs hi) hl))
theorem f_reprB {b : Bool} {μ : Store} : Frepr [.bl b] μ = okR (.str (reprB b)) μ := by
  have e : reprD (.bl b) = reprB b := by cases b <;> rfl
  rw [← e]
  exact f_reprD (k := 1) rfl (by decide) (by decide) rfl (by simp [rpn])
theorem smls_all {k : Nat} : ∀ {xs : List D}, smls k xs = true ↔ ∀ x ∈ xs, sml k x = true
  | [] => by simp [smls]
  | x :: r => by simp only [smls, Bool.and_eq_true, smls_all (xs := r), List.mem_cons, forall_eq_or_imp]
theorem rpns_le {k B : Nat} : ∀ {xs : List D}, (∀ x ∈ xs, rpn k x ≤ B) → rpns k xs ≤ xs.length * (B + 2)
  | [], _ => by simp [rpns]
  | x :: r, h => by
    have h1 := h x List.mem_cons_self
    have h2 := rpns_le (xs := r) fun y hy => h y (List.mem_cons_of_mem _ hy)
    simp only [rpns, List.length_cons, Nat.add_mul, Nat.one_mul]
    omega
end DM

/-! enumerate and zip over lists and tuples -/
namespace PySem
open Sem (wp)
open AutoSeq1 (wpAny_loadPart')
theorem meets_enum1B {v : Value} {o : Obj} {H : Heap → Prop} (B : Begins v o H) :
    Meets (Builtin.«enumerate.__new__» ⟨[.type "enumerate", v], []⟩) (fun _ R s => H s.heap ∧
      R (.ok (.ret (.ref (s.heap.push o).objs.size))) { s with heap := (s.heap.push o).push { cls := .type "enumerate", data := .fields #[.none, .bool false, .ref s.heap.objs.size, rawInt 0, .none, .none] } }) :=
  .of_wp fun prog w A R s h => by
    obtain ⟨hp, g, d, tk, os⟩ := s; obtain ⟨h1, h⟩ := h
    have hsub := sub_enumerate
    have q1 : ∀ {A' : Around} {E : Value → Shared → Prop} {Q : Value → Shared → Prop}, Q (.ref hp.objs.size) ⟨hp.push o, g, d, tk, os⟩ → wpAny (model prog w) A' (pyIter v) Q E ⟨hp, g, d, tk, os⟩ :=
      fun q => B.iter prog w _ _ ⟨hp, g, d, tk, os⟩ _ h1 q
    wp_walk using q1
    refine wpAny_stack_any fun st => wpAny_pure ?_
    split
    · rename_i c _ _ _ _ _
      cases (c == Value.type "enumerate")
      · wp_walk using q1
        exact ⟨_, rfl, h⟩
      · wp_walk using q1
        exact ⟨_, rfl, h⟩
    · wp_walk using q1
      exact ⟨_, rfl, h⟩
theorem enum_begins1 {prog : Program} {w : World} {A : Around} {E : Value → Shared → Prop} {s : Shared} {v : Value} {o : Obj} {H : Heap → Prop} {Q : Value → Shared → Prop} (B : Begins v o H) (h1 : H s.heap)
    (h : ∀ h', IsEnum h' (s.heap.objs.size + 1) s.heap.objs.size 0 .none → h'.get? s.heap.objs.size = some o → h'.objs.size = s.heap.objs.size + 2 →
      (∀ b o, s.heap.get? b = some o → h'.get? b = some o) → Q (.ref (s.heap.objs.size + 1)) { s with heap := h' }) :
    wpAny (model prog w) A (call (.type "enumerate") [v]) Q E s := by
  refine callType_new F.called_enumerate (by decide) (F.typeCall_enumerate_1 _) (F.newCall_enumerate_1 _) (fun obj => F.args_object_init_2 obj _) F.entry_enumerate_new
    (meets_enum1B B) ⟨h1, ?_⟩
  have hz : (s.heap.push o).objs.size = s.heap.objs.size + 1 := Heap.size_push ..
  show _ ∧ _
  rw [hz]
  have he : IsEnum ((s.heap.push o).push { cls := .type "enumerate", data := .fields #[.none, .bool false, .ref s.heap.objs.size, rawInt 0, .none, .none] }) (s.heap.objs.size + 1) s.heap.objs.size 0 .none := by
    have := Heap.get?_push_size (s.heap.push o) (o := { cls := .type "enumerate", data := .fields #[.none, .bool false, .ref s.heap.objs.size, rawInt 0, .none, .none] }) rfl
    rw [hz] at this; exact this
  refine ⟨⟨_, he, rfl⟩, h _ he (Heap.get?_push_of_some _ (Heap.get?_push_size _ B.free)) (by rw [Heap.size_push, hz]) fun b o x => Heap.get?_push_of_some _ (Heap.get?_push_of_some _ x)⟩
end PySem
namespace DM
open PySem PySem.Spec L2 PyProof.Rows
inductive Sk where
  | l | t
def sqA (K : PySem.W.Frag) : Sk → Hp → Addr → List V → Prop
  | .l => SqL K
  | .t => SqT K
def onA : Sk → Heap → Addr → Addr → Nat → Prop
  | .l, h, it, a, i => h.IsListIter it a i
  | .t, h, it, a, i => h.IsTupleIter it a i
def isA : Sk → Heap → Addr → Array Value → Prop
  | .l, h, a, its => h.IsList a its
  | .t, h, a, its => h.IsTuple a its
def itO : Sk → Addr → Obj
  | .l, a => { cls := .type "list_iterator", data := .fields #[.ref a, .int 0 0] }
  | .t, a => { cls := .type "tuple_iterator", data := .fields #[.ref a, .int 0 0] }
def clsA : Sk → String
  | .l => "list"
  | .t => "tuple"
def clsI : Sk → String
  | .l => "list_iterator"
  | .t => "tuple_iterator"
section
variable {X : Cx} {pins : List (Addr × Obj)} {σ : L2.St} {H : Hp} {s : Shared} {k : Sk} {a it : Addr} {h h' : Heap} {i : Nat}
theorem sq_items {xs : List V} (I : Inv X pins σ H s) (q : sqA X.K k H a xs) : ∃ its : List Value, Vals xs its ∧ isA k s.heap a its.toArray := by
  cases k with
  | l => obtain ⟨its, r, p, _⟩ := I.list q; exact ⟨its, r, p.isList⟩
  | t => obtain ⟨its, r, p, _⟩ := I.tuple q; exact ⟨its, r, p⟩
theorem sq_inj {xs ys : List V} (I : Inv X pins σ H s) (q : sqA X.K k H a xs) (q' : sqA X.K k H a ys) : xs = ys := by
  cases k with
  | l => exact I.list_inj q q'
  | t => exact I.tuple_inj q q'
theorem on_obj (o : onA k h it a i) : ∃ ob, h.get? it = some ob ∧ ob.cls = .type (clsI k) ∧ ob.data = .fields #[.ref a, .int i 0] := by cases k <;> exact o
theorem is_obj {its : Array Value} (o : isA k h a its) : ∃ ob, h.get? a = some ob ∧ ob.cls = .type (clsA k) := by
  cases k with
  | l => obtain ⟨ob, e, c, _⟩ := o; exact ⟨ob, e, c⟩
  | t => obtain ⟨ob, e, c, _⟩ := o; exact ⟨ob, e, c⟩
theorem on_keep (o : onA k h it a i) (q : ∀ ob, h.get? it = some ob → h'.get? it = some ob) : onA k h' it a i := by
  cases k with
  | l => exact Heap.IsListIter.at o q
  | t => exact Heap.IsTupleIter.at o q
theorem on_new (e : h.get? it = some (itO k a)) : onA k h it a 0 := by cases k <;> exact ⟨_, e, rfl, rfl⟩
theorem draws_A {prog : Program} {w : World} {A : Around} (hh : A.handled = none) (k : Sk) (it a : Addr) (hne : a ≠ it) (its : Array Value) : Draws prog w A it [it, a] its.size (fun i v => its[i]? = some v) (fun i h => onA k h it a i ∧ isA k h a its) := by
  cases k with
  | l => exact Draws.list hh it a hne its
  | t => exact Draws.tuple hh it a hne its
theorem begins_A (k : Sk) (a : Addr) (its : Array Value) : Begins (.ref a) (itO k a) (fun h => isA k h a its) := by
  cases k with
  | l => exact begins_list a its
  | t => exact begins_tuple a its
theorem cls_ne {x y : Addr} {o u : Obj} {p q : String} (e : h.get? x = some o) (e' : h.get? y = some u) (c : o.cls = .type p) (c' : u.cls = .type q) (n : p ≠ q) : x ≠ y := fun z => by
  subst z
  rw [e] at e'
  cases e'
  rw [c] at c'
  exact n (by injection c')
end
/-! ### enumerate -/
def IteA (K : PySem.W.Frag) (k : Sk) (a : Addr) (n : Nat) : It :=
  ⟨fun i H => ∃ (xs : List V) (x : V), sqA K k H a xs ∧ xs.length = n ∧ xs[i]? = some x,
   fun i H v H' => ∃ T o x, v = .ref T ∧ H T = none ∧ o.dict = none ∧ H' = upd H T (.frz o (.tup [.int (i : Nat), x])) ∧ ∀ xs, sqA K k H a xs → xs[i]? = some x,
   fun i H => ∃ xs : List V, sqA K k H a xs ∧ xs.length = n ∧ n ≤ i⟩
theorem turn_enumA {P : Program} {w : World} {K : PySem.W.Frag} {elts : List Expr} {kk : Nat} {tpos : Pos} (k : Sk) (a e it : Addr) (n : Nat) :
    Turn P w K (.Tuple elts kk tpos) (IteA K k a n) [e, it] e (fun i h => (∃ old, IsEnum h e it ((i : Nat) : Int) old) ∧ onA k h it a i ∧ e ≠ it ∧ i ≤ n) where
  mem := by simp
  obj := fun i h st b hb => by
    obtain ⟨⟨old, he⟩, ho, _⟩ := st
    obtain ⟨ob, eo, _, hd⟩ := on_obj ho
    have e' : b = e ∨ b = it := by simpa using hb
    rcases e' with z | z
    · rw [z]; exact ⟨_, he, fun v q => nomatch q⟩
    · rw [z]; exact ⟨ob, eo, fun v q => by rw [hd] at q; cases q⟩
  keep := fun i h h' st q => let ⟨⟨old, he⟩, hi, hne⟩ := st; ⟨⟨old, q e (by simp) _ he⟩, on_keep hi fun o z => q it (by simp) o z, hne⟩
  item := by
    intro X hP hw hK hc i pins s σ H E I hf st hg
    subst hP hw hK
    obtain ⟨⟨old, he⟩, hit, hne, hin⟩ := st
    obtain ⟨xs, x, hq, hn, hx⟩ := hg
    obtain ⟨its, rv, hs⟩ := sq_items I hq
    obtain ⟨u, hu, ru⟩ := rv.get hx
    obtain ⟨oi, eoi, coi, _⟩ := on_obj hit
    obtain ⟨oa, eoa, coa⟩ := is_obj hs
    have hai : a ≠ it := cls_ne eoa eoi coa coi (by cases k <;> decide)
    have hae : a ≠ e := cls_ne eoa he coa rfl (by cases k <;> decide)
    have hel : e < s.heap.objs.size := Heap.lt_size he
    have hil : it < s.heap.objs.size := Heap.lt_size eoi
    have hlt : i < its.toArray.size := by
      have := (List.getElem?_eq_some_iff.mp hu).1
      simpa using this
    refine wpAny_pyNext_enum_itemD (draws_A (A := X.A.in1) (show X.A.in1.handled = none from I.ok.hd hc) k it a hai its.toArray) he ⟨hit, hs⟩ hlt hne (by simp; exact ⟨hne, Ne.symm hae⟩) fun v h' tk hv ho hst hT hsz hk => ?_
    have hvu : v = u := by
      have : its[i]? = some v := by simpa using hv
      rw [hu] at this
      exact (Option.some.inj this).symm
    subst hvu
    refine ⟨_, rfl, wpAny_letOwnedTupleGo_enum (s := { s with heap := h', toks := tk + 1 }) ho fun h'' he' sb => ?_⟩
    have hT2 : h''.get? s.heap.objs.size = some { cls := .type "tuple", data := .seq #[.int i tk, v] } := (sb.2 _ (Nat.ne_of_gt hel)).trans hT
    have new : ObjOk X.prog X.w (upd H s.heap.objs.size (.frz { cls := .type "tuple", data := .seq #[.int i tk, v] } (.tup [.int (i : Nat), x]))) h'' s.heap.objs.size (.frz { cls := .type "tuple", data := .seq #[.int i tk, v] } (.tup [.int (i : Nat), x])) :=
      ⟨hT2, by show 2 ≤ sizeLine; decide, [.int i tk, v], .cons ⟨_, rfl⟩ (.cons ru .nil), ⟨_, hT2, rfl, _, rfl⟩⟩
    have I1 : Inv X pins σ (upd H s.heap.objs.size (.frz { cls := .type "tuple", data := .seq #[.int i tk, v] } (.tup [.int (i : Nat), x]))) { s with heap := h'', toks := tk + 1 } :=
      I.turnedNew (ch := [e, it]) (fun b ob hb q => (sb.2 b (fun z => hb (by simp [z]))).trans (hk b ob (fun z => hb (by simp [z])) (fun z => hb (by simp [z])) q)) hf (Nat.le_refl _) new
    refine ⟨.ref s.heap.objs.size, _, I1, rfl, ⟨_, _, x, rfl, I.hok.fresh (Nat.le_refl _), rfl, rfl, fun ys hy => by rw [sq_inj I hy hq]; exact hx⟩, ⟨⟨v, ?_⟩, on_keep hst.1 fun o q => (sb.2 it (Ne.symm hne)).trans q, hne, ?_⟩, fun b hb => ?_⟩
    · have e1 : ((i + 1 : Nat) : Int) = (i : Int) + 1 := by omega
      rw [e1]; exact he'
    · have := (List.getElem?_eq_some_iff.mp hx).1
      omega
    · have hb' : b < s.heap.objs.size := by
        have e' : b = e ∨ b = it := by simpa using hb
        rcases e' with z | z
        · rw [z]; exact hel
        · rw [z]; exact hil
      rw [upd_ne (Nat.ne_of_lt hb')]
      exact (hf b hb).1
  done := by
    intro X hP hw hK hc i pins s σ H E I hf st hg
    subst hP hw hK
    obtain ⟨⟨old, he⟩, hit, hne, hin⟩ := st
    obtain ⟨xs, hq, hn, hx⟩ := hg
    obtain ⟨its, rv, hs⟩ := sq_items I hq
    obtain ⟨oi, eoi, coi, _⟩ := on_obj hit
    obtain ⟨oa, eoa, coa⟩ := is_obj hs
    have hai : a ≠ it := cls_ne eoa eoi coa coi (by cases k <;> decide)
    obtain ⟨f0, f1, f2, f3, f4, f5⟩ := hf it (by simp)
    have hl := rv.length
    have hsz : its.toArray.size = i := by rw [List.size_toArray]; omega
    refine wpAny_pyNext_enum_endD (draws_A (A := X.A.in1) (show X.A.in1.handled = none from I.ok.hd hc) k it a hai its.toArray) he (by rw [hsz]; exact ⟨hit, hs⟩) fun h' eb => ⟨rfl, I.turned (t' := s.toks) (fun b o hb q => eb b o hb q) f0 f1 f3 f4 f5⟩
  self := fun A i s Q E st h => let ⟨⟨_, he⟩, _⟩ := st; wpAny_pyIter_enum he h
def iEnumA (K : PySem.W.Frag) (ta : TA) : TI := fun σ H R => ta σ H fun vs H1 => ∃ k a xs, vs = [.ref a] ∧ sqA K k H1 a xs ∧ R (IteA K k a xs.length) H1
theorem pi_enumA {X : Cx} {e : Expr} {ta : TA} {p pos tpos : Pos} {elts : List Expr} {kk : Nat} (hg : Gl X "enumerate") (hm : X.mg "enumerate" = none) (ha : PA X [e] ta) (hs : starEach [e] X.env = [(false, eval e X.env)] := by rfl) :
    PI X (.Tuple elts kk tpos) (.Call (.Name "enumerate" p) [e] [] pos) (iEnumA X.K ta) := by
  refine ⟨fun pins s σ H R I h => ?_⟩
  refine Call_ (ld_blt I hg hm boot_enumerate (PyProof.Rows.callWith_type1 (thn (ha.run pos pins s σ H _ I h) fun us s1 ⟨vs, H1, I1, r1, q1⟩ => ?_) hs rfl))
  obtain ⟨k, a, xs, ex, hq, q⟩ := q1
  subst ex
  cases r1 with
  | cons r rr =>
    cases rr
    cases r
    obtain ⟨its, rv, hs'⟩ := sq_items I1 hq
    refine enum_begins1 (begins_A k a its.toArray) hs' fun h' he hit hsz hk => wpAny_pyIter_enum he ?_
    have I2 : Inv X pins σ H1 { s1 with heap := h' } := I1.kept (t' := s1.toks) hk
    refine ⟨s1.heap.objs.size + 1, [s1.heap.objs.size + 1, s1.heap.objs.size], _, _, H1, rfl, I2, turn_enumA k a (s1.heap.objs.size + 1) s1.heap.objs.size xs.length, ⟨⟨.none, he⟩, on_new hit, Nat.succ_ne_self _, Nat.zero_le _⟩, fun b hb => ?_, q⟩
    have e' : b = s1.heap.objs.size + 1 ∨ b = s1.heap.objs.size := by simpa using hb
    have hle : s1.heap.objs.size ≤ b := by
      rcases e' with z | z
      · rw [z]; exact Nat.le_add_right _ _
      · rw [z]; exact Nat.le_refl _
    exact I1.fpOk hle (I1.hok.fresh hle)
/-! ### the data -/
def seqD (μ : Store) : D → Option (List D × (Store → Bool))
  | .lst xs => some (xs, anyG)
  | .fl xs => some (xs, anyG)
  | .tup xs => some (xs, anyG)
  | .ref c => match μ[c]? with
    | some (.lst xs) => some (xs, isLst c xs)
    | _ => none
  | _ => none
/-- a walked thing stands at a, whatever is changed as long as the guard holds -/
def SqOk (K : PySem.W.Frag) (ι0 : List Addr) (H0 : Hp) (k : Sk) (a : Addr) (xs : List D) (g : Store → Bool) : Prop :=
  ∀ ι μ H, Le ι0 H0 ι H → WF K ι μ H → g μ = true → ∃ vs, sqA K k H a vs ∧ VRs K ι H vs xs
theorem seqD_ok {K : PySem.W.Frag} {ι : List Addr} {H : Hp} {μ : Store} {x : V} {d : D} {xs : List D} {g : Store → Bool} (w : WF K ι μ H) (v : VR K ι H x d) (h : seqD μ d = some (xs, g)) : ∃ k a, x = .ref a ∧ SqOk K ι H k a xs g ∧ g μ = true := by
  cases v with
  | lst ht r => cases h; exact ⟨.l, _, rfl, fun ι' μ' H' l w' _ => ⟨_, (ht.mono l).sq, r.mono l⟩, rfl⟩
  | fl ht r => cases h; exact ⟨.l, _, rfl, fun ι' μ' H' l w' _ => ⟨_, (ht.mono l).sq, r.mono l⟩, rfl⟩
  | tup ht r => cases h; exact ⟨.t, _, rfl, fun ι' μ' H' l w' _ => ⟨_, (ht.mono l).sq, r.mono l⟩, rfl⟩
  | ref hc =>
    rename_i a c
    have h' : (match μ[c]? with | some (Ob.lst xs) => some (xs, isLst c xs) | _ => none) = some (xs, g) := h
    match e : μ[c]?, h' with
    | some (.lst ys), h' =>
      cases h'
      refine ⟨.l, a, rfl, fun ι' μ' H' l w' gd => ?_, by unfold isLst; rw [e]; exact beqs_rfl _⟩
      have hc' := l.pre _ _ hc
      obtain ⟨o, ho, ro⟩ := w'.has hc'
      unfold isLst at gd
      rw [ho] at gd
      cases o with
      | lst zs =>
        have e0 : zs = xs := beqs_eq _ _ gd
        subst e0
        obtain ⟨vs, ea, r⟩ := ro
        exact ⟨vs, .inl (.inl ea), r⟩
      | _ => cases gd
  | _ => cases h
def enumD (xs : List D) : List D := xs.mapIdx fun i x => .tup [.int (i : Nat), x]
def iEnum (E : CM (List D)) : CM IV := E.bind fun ds _ μ => match ds with
  | [d] => match seqD μ d with
    | some (xs, g) => some (.ok (enumD xs, g), μ)
    | none => none
  | _ => none
theorem itr_enum {K : PySem.W.Frag} {ι : List Addr} {H : Hp} {k : Sk} {a : Addr} {xs : List D} {g : Store → Bool} (h : SqOk K ι H k a xs g) : ItR K ι H (IteA K k a xs.length) (enumD xs, g) := by
  intro i ι' μ H' l w gd
  obtain ⟨vs, hq, r⟩ := h ι' μ H' l w gd
  refine ⟨fun d e => ?_, fun e => ⟨vs, hq, r.length, by simpa [enumD] using e⟩⟩
  unfold enumD at e
  rw [List.getElem?_mapIdx] at e
  obtain ⟨x, e1, e2⟩ := Option.map_eq_some_iff.mp e
  obtain ⟨v, ev, rv⟩ := r.get e1
  refine ⟨⟨vs, v, hq, r.length, ev⟩, fun y H'' z => ?_⟩
  obtain ⟨T, o, x', rfl, hT, ho, rfl, hx'⟩ := z
  have := hx' vs hq
  rw [ev] at this
  cases this
  subst e2
  exact ⟨Le.laid hT, w.laid hT, .tup (.inl ⟨⟨o, upd_same, ho⟩, w.out hT⟩) (.cons (.int _) (.cons (rv.mono (Le.laid hT)) .nil))⟩
theorem di_enum {X : Cx} {W : DW} {e : Expr} {As : CM (List D)} {p pos tpos : Pos} {elts : List Expr} {kk : Nat} (hg : Gl X "enumerate") (hm : X.mg "enumerate" = none) (ha : PA X [e] (tA X.K W As)) (hs : starEach [e] X.env = [(false, eval e X.env)] := by rfl) :
    PI X (.Tuple elts kk tpos) (.Call (.Name "enumerate" p) [e] [] pos) (tI X.K W (iEnum As)) :=
  (pi_enumA hg hm ha hs).imp fun σ H R ⟨ρ, ι, μ, sr, wf, h⟩ => by
    refine tG.mono (PostG.bind sr wf h) ?_
    rintro vs H1 ⟨ι1, μ1, ds, l1, w1, vx, h1⟩
    match ds, vx, h1 with
    | [d], vx, h1 =>
      obtain ⟨x, rfl, vd⟩ := vx.one
      dsimp only at h1
      match hsq : seqD μ1 d, h1 with
      | some (xs, g), h1 =>
        obtain ⟨k, a, rfl, hok, hgd⟩ := seqD_ok w1 vd hsq
        obtain ⟨ws, hq, r⟩ := hok ι1 μ1 H1 (Le.refl _ _) w1 hgd
        refine ⟨k, a, ws, rfl, hq, ?_⟩
        rw [r.length]
        exact h1.ok0 w1 (itr_enum hok)
/-! ### zip -/
def ItzA (K : PySem.W.Frag) (k k' : Sk) (a b : Addr) (n m : Nat) : It :=
  ⟨fun i H => ∃ (xs ys : List V) (x y : V), sqA K k H a xs ∧ sqA K k' H b ys ∧ xs.length = n ∧ ys.length = m ∧ xs[i]? = some x ∧ ys[i]? = some y,
   fun i H v H' => ∃ T o x y, v = .ref T ∧ H T = none ∧ o.dict = none ∧ H' = upd H T (.frz o (.tup [x, y])) ∧ (∀ xs, sqA K k H a xs → xs[i]? = some x) ∧ ∀ ys, sqA K k' H b ys → ys[i]? = some y,
   fun i H => ∃ xs ys : List V, sqA K k H a xs ∧ sqA K k' H b ys ∧ xs.length = n ∧ ys.length = m ∧ (n ≤ i ∨ m ≤ i)⟩
structure ZApt (z TI TO i1 i2 : Addr) : Prop where
  TIz : TI ≠ z
  TOz : TO ≠ z
  TITO : TI ≠ TO
  TIi1 : TI ≠ i1
  TIi2 : TI ≠ i2
  zi1 : z ≠ i1
  zi2 : z ≠ i2
  TOi1 : TO ≠ i1
  TOi2 : TO ≠ i2
  i12 : i1 ≠ i2
theorem turn_zipA {P : Program} {w : World} {K : PySem.W.Frag} {elts : List Expr} {kk : Nat} {tpos : Pos} (k k' : Sk) {a b z TI TO i1 i2 : Addr} (n m : Nat) (D : ZApt z TI TO i1 i2) (hTa : TO ≠ a) (hTb : TO ≠ b) :
    Turn P w K (.Tuple elts kk tpos) (ItzA K k k' a b n m) [z, TI, TO, i1, i2] z (fun i h => IsZip h z TI TO .none ∧ IsTupOf2 h TI (.ref i1) (.ref i2) ∧ (∃ x y, IsTupOf2 h TO x y) ∧ onA k h i1 a i ∧ onA k' h i2 b i ∧ i ≤ n ∧ i ≤ m) where
  mem := by simp
  obj := fun i h st c hc => by
    obtain ⟨hz, hTI, ⟨x, y, hTO⟩, o1, o2, _⟩ := st
    obtain ⟨ob1, e1, _, d1⟩ := on_obj o1
    obtain ⟨ob2, e2, _, d2⟩ := on_obj o2
    have e' : c = z ∨ c = TI ∨ c = TO ∨ c = i1 ∨ c = i2 := by simpa using hc
    rcases e' with q | q | q | q | q
    · rw [q]; exact ⟨_, hz, fun v q => nomatch q⟩
    · rw [q]; exact ⟨_, hTI, fun v q => nomatch q⟩
    · rw [q]; exact ⟨_, hTO, fun v q => nomatch q⟩
    · rw [q]; exact ⟨ob1, e1, fun v q => by rw [d1] at q; cases q⟩
    · rw [q]; exact ⟨ob2, e2, fun v q => by rw [d2] at q; cases q⟩
  keep := fun i h h' st q => by
    obtain ⟨hz, hTI, ⟨x, y, hTO⟩, h1, h2, hl⟩ := st
    exact ⟨q z (by simp) _ hz, q TI (by simp) _ hTI, ⟨x, y, q TO (by simp) _ hTO⟩, on_keep h1 fun o e => q i1 (by simp) o e, on_keep h2 fun o e => q i2 (by simp) o e, hl⟩
  item := by
    intro X hP hw hK hc i pins s σ H E I hf st hg
    subst hP hw hK
    obtain ⟨hz, hTI, ⟨x0, y0, hTO⟩, h1, h2, hin, him⟩ := st
    obtain ⟨xs, ys, x, y, hqx, hqy, hln, hlm, hx, hy⟩ := hg
    obtain ⟨its, rv, hs1⟩ := sq_items I hqx
    obtain ⟨its2, rv2, hs2⟩ := sq_items I hqy
    obtain ⟨u, hu, ru⟩ := rv.get hx
    obtain ⟨u2, hu2, ru2⟩ := rv2.get hy
    obtain ⟨oi1, ei1, ci1, _⟩ := on_obj h1
    obtain ⟨oi2, ei2, ci2, _⟩ := on_obj h2
    obtain ⟨oa, ea, ca⟩ := is_obj hs1
    obtain ⟨ob, eb, cb⟩ := is_obj hs2
    have ai1 : a ≠ i1 := cls_ne ea ei1 ca ci1 (by cases k <;> decide)
    have ai2 : a ≠ i2 := cls_ne ea ei2 ca ci2 (by cases k <;> cases k' <;> decide)
    have bi1 : b ≠ i1 := cls_ne eb ei1 cb ci1 (by cases k <;> cases k' <;> decide)
    have bi2 : b ≠ i2 := cls_ne eb ei2 cb ci2 (by cases k' <;> decide)
    have az : a ≠ z := cls_ne ea hz ca rfl (by cases k <;> decide)
    have bz : b ≠ z := cls_ne eb hz cb rfl (by cases k' <;> decide)
    have S : ZipSep2 z TI TO i1 i2 [i1, a] [i2, b] := ⟨D.TIz, D.TOz, D.TITO, D.TIi1, by simp, by simp; exact ⟨D.zi1, Ne.symm az⟩, by simp; exact ⟨D.TOi1, hTa⟩, D.TIi2, by simp, by simp; exact ⟨D.zi2, Ne.symm bz⟩, by simp; exact ⟨D.TOi2, hTb⟩, by simp; exact ⟨D.i12, Ne.symm bi1⟩, by simp; exact ⟨Ne.symm D.i12, Ne.symm ai2⟩⟩
    have hzl : z < s.heap.objs.size := Heap.lt_size hz
    have lt1 : i < its.toArray.size := by simpa using (List.getElem?_eq_some_iff.mp hu).1
    have lt2 : i < its2.toArray.size := by simpa using (List.getElem?_eq_some_iff.mp hu2).1
    refine wpAny_pyNext_zipD2_item S (draws_A (A := X.A.in1) (show X.A.in1.handled = none from I.ok.hd hc) k i1 a ai1 its.toArray) (draws_A (A := X.A.in1) (show X.A.in1.handled = none from I.ok.hd hc) k' i2 b bi2 its2.toArray) hz hTI hTO ⟨h1, hs1⟩ ⟨h2, hs2⟩ lt1 lt2 fun v1 v2 h' tk hv1 hv2 z' TO' st1 st2 hT hsz hk => ?_
    have e1 : v1 = u := by
      have : its[i]? = some v1 := by simpa using hv1
      rw [hu] at this
      exact (Option.some.inj this).symm
    have e2 : v2 = u2 := by
      have : its2[i]? = some v2 := by simpa using hv2
      rw [hu2] at this
      exact (Option.some.inj this).symm
    subst e1 e2
    refine ⟨_, rfl, wpAny_letOwnedTupleGo_zip (s := { s with heap := h', toks := tk }) z' fun h'' z'' sb => ?_⟩
    have hT2 : h''.get? s.heap.objs.size = some { cls := .type "tuple", data := .seq #[v1, v2] } := (sb.2 _ (Nat.ne_of_gt hzl)).trans hT
    have new : ObjOk X.prog X.w (upd H s.heap.objs.size (.frz { cls := .type "tuple", data := .seq #[v1, v2] } (.tup [x, y]))) h'' s.heap.objs.size (.frz { cls := .type "tuple", data := .seq #[v1, v2] } (.tup [x, y])) :=
      ⟨hT2, by show 2 ≤ sizeLine; decide, [v1, v2], .cons ru (.cons ru2 .nil), ⟨_, hT2, rfl, _, rfl⟩⟩
    have I1 : Inv X pins σ (upd H s.heap.objs.size (.frz { cls := .type "tuple", data := .seq #[v1, v2] } (.tup [x, y]))) { s with heap := h'', toks := tk } :=
      I.turnedNew (ch := [z, TI, TO, i1, i2]) (fun c o hb q => (sb.2 c (fun q' => hb (by simp [q']))).trans (hk c o (fun q' => hb (by simp [q'])) (fun q' => hb (by simp [q'])) (fun q' => hb (by simp [q'])) (fun q' => hb (by simp [q'])) q)) hf (Nat.le_refl _) new
    refine ⟨.ref s.heap.objs.size, _, I1, rfl, ⟨_, _, x, y, rfl, I.hok.fresh (Nat.le_refl _), rfl, rfl, fun l hl => by rw [sq_inj I hl hqx]; exact hx, fun l hl => by rw [sq_inj I hl hqy]; exact hy⟩, ⟨z'', ?_, ⟨v1, v2, ?_⟩, ?_, ?_, ?_, ?_⟩, fun c hcm => ?_⟩
    · exact (sb.2 _ D.TIz).trans (hk _ _ D.TIz D.TITO D.TIi1 D.TIi2 hTI)
    · exact (sb.2 _ D.TOz).trans TO'
    · exact on_keep st1.1 fun o q => (sb.2 _ (Ne.symm D.zi1)).trans q
    · exact on_keep st2.1 fun o q => (sb.2 _ (Ne.symm D.zi2)).trans q
    · have := (List.getElem?_eq_some_iff.mp hx).1; omega
    · have := (List.getElem?_eq_some_iff.mp hy).1; omega
    · have hlt : c < s.heap.objs.size := by
        have e' : c = z ∨ c = TI ∨ c = TO ∨ c = i1 ∨ c = i2 := by simpa using hcm
        rcases e' with q | q | q | q | q
        · rw [q]; exact hzl
        · rw [q]; exact Heap.lt_size hTI
        · rw [q]; exact Heap.lt_size hTO
        · rw [q]; exact Heap.lt_size ei1
        · rw [q]; exact Heap.lt_size ei2
      rw [upd_ne (Nat.ne_of_lt hlt)]
      exact (hf c hcm).1
  done := by
    intro X hP hw hK hc i pins s σ H E I hf st hg
    subst hP hw hK
    obtain ⟨hz, hTI, ⟨x0, y0, hTO⟩, h1, h2, hin, him⟩ := st
    obtain ⟨xs, ys, hqx, hqy, hln, hlm, hend⟩ := hg
    obtain ⟨its, rv, hs1⟩ := sq_items I hqx
    obtain ⟨its2, rv2, hs2⟩ := sq_items I hqy
    obtain ⟨oi1, ei1, ci1, _⟩ := on_obj h1
    obtain ⟨oi2, ei2, ci2, _⟩ := on_obj h2
    obtain ⟨oa, ea, ca⟩ := is_obj hs1
    obtain ⟨ob, eb, cb⟩ := is_obj hs2
    have ai1 : a ≠ i1 := cls_ne ea ei1 ca ci1 (by cases k <;> decide)
    have ai2 : a ≠ i2 := cls_ne ea ei2 ca ci2 (by cases k <;> cases k' <;> decide)
    have bi1 : b ≠ i1 := cls_ne eb ei1 cb ci1 (by cases k <;> cases k' <;> decide)
    have bi2 : b ≠ i2 := cls_ne eb ei2 cb ci2 (by cases k' <;> decide)
    have az : a ≠ z := cls_ne ea hz ca rfl (by cases k <;> decide)
    have bz : b ≠ z := cls_ne eb hz cb rfl (by cases k' <;> decide)
    have S : ZipSep2 z TI TO i1 i2 [i1, a] [i2, b] := ⟨D.TIz, D.TOz, D.TITO, D.TIi1, by simp, by simp; exact ⟨D.zi1, Ne.symm az⟩, by simp; exact ⟨D.TOi1, hTa⟩, D.TIi2, by simp, by simp; exact ⟨D.zi2, Ne.symm bz⟩, by simp; exact ⟨D.TOi2, hTb⟩, by simp; exact ⟨D.i12, Ne.symm bi1⟩, by simp; exact ⟨Ne.symm D.i12, Ne.symm ai2⟩⟩
    have l1 := rv.length
    have l2 := rv2.length
    have s1 : its.toArray.size = n := by rw [List.size_toArray]; omega
    have s2 : its2.toArray.size = m := by rw [List.size_toArray]; omega
    refine wpAny_pyNext_zipD2_end S (draws_A (A := X.A.in1) (show X.A.in1.handled = none from I.ok.hd hc) k i1 a ai1 its.toArray) (draws_A (A := X.A.in1) (show X.A.in1.handled = none from I.ok.hd hc) k' i2 b bi2 its2.toArray) hz hTI hTO ⟨h1, hs1⟩ ⟨h2, hs2⟩ (by omega) (by omega) (by omega) fun h' tk hk => ⟨rfl, I.turnedL (ch := [z, TI, TO, i1, i2]) (fun c o hb q =>
      hk c o (fun q' => hb (by simp [q'])) (fun q' => hb (by simp [q'])) (fun q' => hb (by simp [q'])) (fun q' => hb (by simp [q'])) q) hf⟩
  self := fun A i s Q E st h => wpAny_pyIter_zip st.1 h
def iZipA (K : PySem.W.Frag) (ta : TA) : TI := fun σ H R => ta σ H fun vs H1 => ∃ k k' a b xs ys, vs = [.ref a, .ref b] ∧ sqA K k H1 a xs ∧ sqA K k' H1 b ys ∧ R (ItzA K k k' a b xs.length ys.length) H1
theorem pi_zipA {X : Cx} {e e2 : Expr} {ta : TA} {p pos tpos : Pos} {elts : List Expr} {kk : Nat} (hg : Gl X "zip") (hm : X.mg "zip" = none) (ha : PA X [e, e2] ta)
    (hs : starEach [e, e2] X.env = (false, eval e X.env) :: starEach [e2] X.env := by rfl) (hpl : (backTo pos (starEach [e2] X.env)).any (·.1) = false := by rfl) :
    PI X (.Tuple elts kk tpos) (.Call (.Name "zip" p) [e, e2] [] pos) (iZipA X.K ta) := by
  refine ⟨fun pins s σ H R I h => ?_⟩
  refine Call_ (ld_blt I hg hm PyProof.Rows.boot_zip (PyProof.Rows.callWith_type1 (thn (ha.run pos pins s σ H _ I h) fun us s1 ⟨vs, H1, I1, r1, q1⟩ => ?_) hs hpl))
  obtain ⟨k, k', a, b, xs, ys, ex, hqx, hqy, q⟩ := q1
  subst ex
  cases r1 with
  | cons r rr =>
    cases rr with
    | cons r' rr =>
      cases rr
      cases r
      cases r'
      obtain ⟨its, rv, hs1⟩ := sq_items I1 hqx
      obtain ⟨its2, rv2, hs2⟩ := sq_items I1 hqy
      have la : a < s1.heap.objs.size := by obtain ⟨o, e, _⟩ := is_obj hs1; exact Heap.lt_size e
      have lb : b < s1.heap.objs.size := by obtain ⟨o, e, _⟩ := is_obj hs2; exact Heap.lt_size e
      refine zip_begins2 (begins_A k a its.toArray) (begins_A k' b its2.toArray) hs1 hs2 fun h' hz hTI hTO h1 h2 hsz hk => wpAny_pyIter_zip hz ?_
      have I2 : Inv X pins σ H1 { s1 with heap := h' } := I1.kept (t' := s1.toks) hk
      generalize hN : s1.heap.objs.size = N at *
      have ne : ∀ i j : Nat, i ≠ j → N + i ≠ N + j := fun i j h e => h (Nat.add_left_cancel e)
      have D : ZApt (N + 4) (N + 2) (N + 3) N (N + 1) := ⟨ne _ _ (by decide), ne _ _ (by decide), ne _ _ (by decide), ne _ 0 (by decide), ne _ _ (by decide), ne _ 0 (by decide), ne _ _ (by decide), ne _ 0 (by decide), ne _ _ (by decide), ne 0 _ (by decide)⟩
      refine ⟨N + 4, [N + 4, N + 2, N + 3, N, N + 1], _, _, H1, rfl, I2, turn_zipA k k' xs.length ys.length D (Nat.ne_of_gt (Nat.lt_of_lt_of_le la (Nat.le_add_right _ _))) (Nat.ne_of_gt (Nat.lt_of_lt_of_le lb (Nat.le_add_right _ _))), ⟨hz, hTI, ⟨_, _, hTO⟩, on_new h1, on_new h2, Nat.zero_le _, Nat.zero_le _⟩, fun c hcm => ?_, q⟩
      have e' : c = N + 4 ∨ c = N + 2 ∨ c = N + 3 ∨ c = N ∨ c = N + 1 := by simpa using hcm
      have hle : s1.heap.objs.size ≤ c := by
        rw [hN]
        rcases e' with z | z | z | z | z
        · rw [z]; exact Nat.le_add_right _ _
        · rw [z]; exact Nat.le_add_right _ _
        · rw [z]; exact Nat.le_add_right _ _
        · rw [z]; exact Nat.le_refl _
        · rw [z]; exact Nat.le_add_right _ _
      exact I1.fpOk hle (I1.hok.fresh hle)
def zipD (xs ys : List D) : List D := List.zipWith (fun x y => .tup [x, y]) xs ys
def iZip (E : CM (List D)) : CM IV := E.bind fun ds _ μ => match ds with
  | [d, e] => match seqD μ d, seqD μ e with
    | some (xs, g), some (ys, g') => some (.ok (zipD xs ys, fun ν => g ν && g' ν), μ)
    | _, _ => none
  | _ => none
theorem itr_zip {K : PySem.W.Frag} {ι : List Addr} {H : Hp} {k k' : Sk} {a b : Addr} {xs ys : List D} {g g' : Store → Bool} (h : SqOk K ι H k a xs g) (h' : SqOk K ι H k' b ys g') : ItR K ι H (ItzA K k k' a b xs.length ys.length) (zipD xs ys, fun ν => g ν && g' ν) := by
  intro i ι' μ H' l w gd
  simp only [Bool.and_eq_true] at gd
  obtain ⟨vs, hq, r⟩ := h ι' μ H' l w gd.1
  obtain ⟨ws, hq', r'⟩ := h' ι' μ H' l w gd.2
  refine ⟨fun d e => ?_, fun e => ⟨vs, ws, hq, hq', r.length, r'.length, by simp only [zipD, List.length_zipWith] at e; omega⟩⟩
  simp only [zipD] at e
  rw [List.getElem?_zipWith] at e
  match e1 : xs[i]?, e2 : ys[i]?, e with
  | some x, some y, e =>
    cases e
    obtain ⟨v, ev, rv⟩ := r.get e1
    obtain ⟨u, eu, ru⟩ := r'.get e2
    refine ⟨⟨vs, ws, v, u, hq, hq', r.length, r'.length, ev, eu⟩, fun z H'' q => ?_⟩
    obtain ⟨T, o, x', y', rfl, hT, ho, rfl, hx', hy'⟩ := q
    have := hx' vs hq
    rw [ev] at this
    cases this
    have := hy' ws hq'
    rw [eu] at this
    cases this
    exact ⟨Le.laid hT, w.laid hT, .tup (.inl ⟨⟨o, upd_same, ho⟩, w.out hT⟩) (.cons (rv.mono (Le.laid hT)) (.cons (ru.mono (Le.laid hT)) .nil))⟩
theorem di_zip {X : Cx} {W : DW} {e e2 : Expr} {As : CM (List D)} {p pos tpos : Pos} {elts : List Expr} {kk : Nat} (hg : Gl X "zip") (hm : X.mg "zip" = none) (ha : PA X [e, e2] (tA X.K W As))
    (hs : starEach [e, e2] X.env = (false, eval e X.env) :: starEach [e2] X.env := by rfl) (hpl : (backTo pos (starEach [e2] X.env)).any (·.1) = false := by rfl) :
    PI X (.Tuple elts kk tpos) (.Call (.Name "zip" p) [e, e2] [] pos) (tI X.K W (iZip As)) :=
  (pi_zipA hg hm ha hs hpl).imp fun σ H R ⟨ρ, ι, μ, sr, wf, h⟩ => by
    refine tG.mono (PostG.bind sr wf h) ?_
    rintro vs H1 ⟨ι1, μ1, ds, l1, w1, vx, h1⟩
    match ds, vx, h1 with
    | [d, e], vx, h1 =>
      obtain ⟨x, y, rfl, vd, ve⟩ := vx.two
      dsimp only at h1
      match hsq : seqD μ1 d, hsq' : seqD μ1 e, h1 with
      | some (xs, g), some (ys, g'), h1 =>
        obtain ⟨k, a, rfl, hok, hgd⟩ := seqD_ok w1 vd hsq
        obtain ⟨k', b, rfl, hok', hgd'⟩ := seqD_ok w1 ve hsq'
        obtain ⟨ws, hq, r⟩ := hok ι1 μ1 H1 (Le.refl _ _) w1 hgd
        obtain ⟨ws', hq', r'⟩ := hok' ι1 μ1 H1 (Le.refl _ _) w1 hgd'
        refine ⟨k, k', a, b, ws, ws', rfl, hq, hq', ?_⟩
        rw [r.length, r'.length]
        exact h1.ok0 w1 (itr_zip hok hok')
end DM

/-! dict comprehensions, x, *y = e, a = b = e, a try that runs through -/
namespace DM
open PySem PySem.Spec L2 PyProof.Rows
def dcLoop (gd : Store → Bool) (g : D → Rho → Option Rho) (T : CM Bool) (A B : CM D) (c : Nat) : List D → CM D
  | [] => fun _ μ => if gd μ = true then okR (.ref c) μ else none
  | d :: r => fun ρ μ => if gd μ = true then (match g d ρ with
      | some ρ1 => match T ρ1 μ with
        | some (.ok true, μ1) => match A ρ1 μ1 with
          | some (.ok y, μ2) => match B ρ1 μ2 with
            | some (.ok z, μ3) => match μ3[c]?, keyD y with
              | some (.dct kvs), some k => if kvs.length < sizeLine then dcLoop gd g T A B c r ρ (μ3.set c (.dct (putKD kvs k z))) else none
              | _, _ => none
            | _ => none
          | _ => none
        | some (.ok false, μ1) => dcLoop gd g T A B c r ρ μ1
        | _ => none
      | none => none) else none
def eDC (I : CM IV) (g : D → Rho → Option Rho) (T : CM Bool) (A B : CM D) (own : List Nat) : CM D := I.bind fun p ρ μ => dcLoop p.2 g T A B μ.length p.1 (wipeR ρ own) (μ ++ [.dct []])
section
variable {X : Cx} {W : DW}
theorem dcAux {K : PySem.W.Frag} {I : CM IV} {g : TG} {f : D → Rho → Option Rho} {T : CM Bool} {A B : CM D} {vs : List Nat} (ht : TgOk K g f vs) (σ : L2.St) (H : Hp) (Q : VK) (h : tE K W (eDC I f T A B vs) σ H Q) : tDc (tI K W I) g (tT K noX T) (tE K noX A) (tE K noX B) vs σ H Q := by
  obtain ⟨ρ, ι, μ, sr, wf, h⟩ := h
  refine tG.mono (PostG.bind sr wf h) ?_
  rintro J H1 ⟨ι1, μ1, ⟨items, gd⟩, l1, w1, hJ, h1⟩ Dd hD
  have h1 : PostG (VR K) K W σ ι1 H1 Q (dcLoop gd f T A B μ1.length items (wipeR ρ vs) (μ1 ++ [.dct []])) := h1
  have lc := Le.cell (ι := ι1) (o := HO.dK []) hD
  have wc : WF K (ι1 ++ [Dd]) (μ1 ++ [.dct []]) (upd H1 Dd (.dK [])) := w1.cell hD (u := .dct []) ⟨[], upd_same, rfl, .nil⟩
  have hcc : (ι1 ++ [Dd])[μ1.length]? = some Dd := by rw [← w1.len]; simp
  have h1' := PostG.from lc h1
  refine ⟨fun i m H' => ∃ ι' μ', WF K ι' μ' H' ∧ Le (ι1 ++ [Dd]) (upd H1 Dd (.dK [])) ι' H' ∧ m = items.length - i ∧ i ≤ items.length ∧ PostG (VR K) K W σ ι' H' Q (dcLoop gd f T A B μ1.length (items.drop i) (wipeR ρ vs) μ'),
    ⟨items.length, ι1 ++ [Dd], μ1 ++ [Ob.dct []], wc, Le.refl _ _, rfl, Nat.zero_le _, by rw [List.drop_zero]; exact h1'⟩, ?_⟩
  rintro i m H2 ⟨ι2, μ2, w2, l2, rfl, hi2, h2⟩
  have sr2 : SR K ι2 H2 (wipe σ vs) (wipeR ρ vs) := (sr.mono (l1.trans (lc.trans l2))).wipe vs
  have hcD : ι2[μ1.length]? = some Dd := l2.pre _ _ hcc
  by_cases hlt : i < items.length
  · refine .inr ?_
    rw [List.drop_eq_getElem_cons hlt] at h2
    obtain ⟨hgd, h2⟩ := PostG.guard h2
    obtain ⟨go, _⟩ := hJ i ι2 μ2 H2 (lc.trans l2) w2 hgd
    obtain ⟨jg, jy⟩ := go _ (List.getElem?_eq_getElem hlt)
    refine ⟨jg, fun H' => ∃ ι' μ', WF K ι' μ' H' ∧ Le (ι1 ++ [Dd]) (upd H1 Dd (.dK [])) ι' H' ∧ PostG (VR K) K W σ ι' H' Q (dcLoop gd f T A B μ1.length (items.drop (i + 1)) (wipeR ρ vs) μ'), fun H' ⟨ι', μ', a, b, c⟩ => ⟨items.length - (i + 1), by omega, ι', μ', a, b, rfl, hlt, c⟩, fun x H3 y => ?_⟩
    obtain ⟨l3, w3, v3⟩ := jy x H3 y
    split at h2
    · rename_i ρ3 eg
      refine ht x _ (wipe σ vs) (wipeR ρ vs) ρ3 ι2 μ2 H3 _ (sr2.mono l3) w3 v3 eg fun σ3 sr3 hw => ⟨hw.trans (wipe_sub vs fun _ z => z), ρ3, ι2, μ2, sr3, w3, ?_⟩
      have h3 := PostG.from l3 h2
      have L := l2.trans l3
      match T ρ3 μ2, h3 with
      | some (.ok true, μ4), h3 =>
        intro ι4 H4 b l4 w4 eb
        subst eb
        rw [if_pos rfl]
        refine ⟨ρ3, ι4, μ4, sr3.mono l4, w4, ?_⟩
        have h4 := PostG.from l4 h3
        simp only [] at h4
        generalize A ρ3 μ4 = rA at h4 ⊢
        match rA, h4 with
        | some (.ok yd, μ5), h4 =>
          intro ι5 H5 yv l5 w5 vy
          refine ⟨ρ3, ι5, μ5, sr3.mono (l4.trans l5), w5, ?_⟩
          have h5 := PostG.from l5 h4
          simp only [] at h5
          generalize B ρ3 μ5 = rB at h5 ⊢
          match rB, h5 with
          | some (.ok zd, μ6), h5 =>
            intro ι6 H6 zv l6 w6 vz
            have hc6 := l6.pre _ _ (l5.pre _ _ (l4.pre _ _ hcD))
            obtain ⟨o, ho, ro⟩ := w6.has hc6
            simp only [ho] at h5
            cases o with
            | dct kvs =>
              match hk : keyD yd, h5 with
              | some k, h5 =>
                obtain ⟨qs, ea, ek, ra⟩ := ro
                obtain ⟨q, h5⟩ := PostG.guard h5
                have hlen : qs.length = kvs.length := by have := congrArg List.length ek; simpa using this
                obtain ⟨p1, p2⟩ := putK_rel (k := k) (v := zv) (d := zd) (vz.mono (Le.set (o := .dK (putK qs k zv)) hc6 (nf ea))) ek (ra.mono (Le.set (o := .dK (putK qs k zv)) hc6 (nf ea)))
                exact ⟨qs, k, keyD_vr vy hk, ea, by rw [hlen]; exact q, ι6, _, w6.set hc6 (nf ea) (u := .dct (putKD kvs k zd)) ⟨_, upd_same, p1, p2⟩, (((L.trans l4).trans l5).trans l6).trans (Le.set hc6 (nf ea)), PostG.from (l6.trans (Le.set hc6 (nf ea))) h5⟩
            | _ => exact h5.elim
      | some (.ok false, μ4), h3 =>
        intro ι4 H4 b l4 w4 eb
        subst eb
        rw [if_neg Bool.false_ne_true]
        exact ⟨ι4, μ4, w4, L.trans l4, PostG.from l4 h3⟩
    · exact h2.elim
  · have e : i = items.length := by omega
    subst e
    rw [List.drop_length] at h2
    obtain ⟨hgd, h2⟩ := PostG.guard h2
    obtain ⟨_, st⟩ := hJ items.length ι2 μ2 H2 (lc.trans l2) w2 hgd
    exact .inl ⟨st (Nat.le_refl _), h2.ok0 w2 (.ref hcD)⟩
theorem d_dc {kx vx tg iter : Expr} {ifs : List Expr} {scope : Scope} {own : List (Str × Nat)} {pos : Pos} {I : CM IV} {g : TG} {f : D → Rho → Option Rho} {T : CM Bool} {A B : CM D} (hc : X.calm = true) (hN : X.N.Nodup) (hi : PI X tg iter (tI X.K W I)) (ok : BlkOk X.N X.env.scope scope own)
    (hg : ∀ (s : Shared) (H : Hp) (C : Addr) (cl : List (Str × Addr)) (fp : List Addr), PG (X.blk s H scope (compEnvC scope cl C X.env) fp) tg g) (htg : TgOk X.K g f (own.map (·.2)))
    (ht : ∀ (s : Shared) (H : Hp) (C : Addr) (cl : List (Str × Addr)) (fp : List Addr), PTs (X.blk s H scope (compEnvC scope cl C X.env) fp) ifs (tT X.K noX T))
    (hk : ∀ (s : Shared) (H : Hp) (C : Addr) (cl : List (Str × Addr)) (fp : List Addr), PE (X.blk s H scope (compEnvC scope cl C X.env) fp) kx (tE X.K noX A))
    (he : ∀ (s : Shared) (H : Hp) (C : Addr) (cl : List (Str × Addr)) (fp : List Addr), PE (X.blk s H scope (compEnvC scope cl C X.env) fp) vx (tE X.K noX B)) (hs : ∀ x, foldedSetIterable iter X.env x = pure x := by intro _; rfl) :
    PE X (.DictComp kx vx [⟨tg, iter, ifs, 0⟩] scope pos) (tE X.K W (eDC I f T A B (own.map (·.2)))) := (pe_dc hc hN hi ok hg ht hk he hs).imp (dcAux htg)
/-! ### a = b = e -/
def sAsg2 (E : CM D) (F G : D → SF) : SF := lft E fun d => sSeq (tgOnly (F d)) (tgOnly (G d))
theorem ds_asg2 {t1 t2 e : Expr} {E : CM D} {F G : D → SF} {pos : Pos} (he : PE X e (tE X.K W E)) (h1 : PG X t1 (tgD X.K W F)) (h2 : PG X t2 (tgD X.K W G)) (ha : (assignEach [t1, t2] X.env).map (·.2) = [assign t1 X.env, assign t2 X.env] := by rfl) (hw : swappedStores [t1, t2] e X.env = pure none := by rfl) : PS X (.Assign [t1, t2] e pos) (sD X.K W (sAsg2 E F G)) :=
  (ps_asg2 he h1 h2 ha hw).imp fun T σ H ⟨ρ, ι, μ, sr, wf, h⟩ => by
    refine tG.mono (PostS.bind sr wf h) ?_
    rintro x H1 ⟨ι1, μ1, d, l1, w1, vx, h1⟩
    refine ⟨ρ, ι1, μ1, d, sr.mono l1, w1, vx, ?_⟩
    unfold sSeq tgOnly at h1
    generalize F d ρ μ1 = z at h1 ⊢
    match z, h1 with
    | some (.nx ρ2, μ2), h =>
      intro σ2 ι2 H2 l2 w2 s2
      refine ⟨ρ2, ι2, μ2, d, s2, w2, vx.mono l2, ?_⟩
      have h' := PostS.from l2 h
      simp only [] at h'
      generalize G d ρ2 μ2 = y at h' ⊢
      match y, h' with
      | some (.nx _, _), h => exact h
      | some (.ex _ _, _), h => exact h
    | some (.ex _ _, _), h => exact h
/-! ### a try that runs through -/
theorem ds_try {body : List Stmt} {h₀ : ExceptHandler} {hs : List ExceptHandler} {S : SF} {pos : Pos} (hb : PSs X.nox body (sD X.K noX S)) : PS X (.Try body (h₀ :: hs) [] [] pos) (sD X.K W (noExS S)) :=
  PS.imp (ps_try_thru0 hb) fun T σ H ⟨ρ, ι, μ, sr, wf, h⟩ => ⟨ρ, ι, μ, sr, wf, by
    unfold noExS at h
    generalize S ρ μ = r at h ⊢
    match r, h with
    | some (.nx _, _), h => exact h
    | some (.rt _, _), h => exact h
    | some (.bk _, _), h => exact h
    | some (.ct _, _), h => exact h⟩
end
/-! ### x, *y = e -/
section
variable {prog : Program} {w : World} {A : Around} {E : Value → Shared → Prop} {s : Shared} {env : Env} {elts : List Expr} {kk : Nat} {pos : Pos}
theorem star1T {l : Addr} {items : Array Value} {Q : Unit → Shared → Prop} (hl : IsTup s.heap l items) (hh : A.handled = none) (hlen : (assignEach elts env).length = 2) (hstar : (assignEach elts env).findIdx? (·.1) = some 1) (hn : 1 ≤ items.size) (hz : items.size ≤ sizeLine)
    (h : ∀ (h₂ : Heap) (tk : Nat), (∀ b o, s.heap.get? b = some o → h₂.get? b = some o) → wpAny (model prog w) A (assignInOrder ((assignEach elts env).map (·.2)) (items.toList.take 1 ++ [.ref h₂.objs.size])) Q E { s with heap := h₂.push { cls := .type "list", data := .seq (items.toList.drop 1).toArray }, toks := tk }) :
    wpAny (model prog w) A (assign (.Tuple elts kk pos) env (.ref l)) Q E s := by
  rw [assign_Tuple]
  refine wpAny_bind (wpAny_standAt ?_)
  unfold unpack
  rw [hlen, hstar]
  refine wpAny_bind (wpAny_holding ?_)
  have hlt : l ≠ s.heap.objs.size := by obtain ⟨o, ho, _⟩ := hl; exact Nat.ne_of_lt (Heap.lt_size ho)
  have hll : l < s.heap.objs.size := by obtain ⟨o, ho, _⟩ := hl; exact Heap.lt_size ho
  unfold unpackItems
  refine wpAny_bind ?_
  unfold notIterableAtAll
  refine wpAny_bind (wpAny_specialOf hl.typeIs slot_tuple_iter.lookup ?_)
  refine wpAny_pure ?_
  simp only [Bool.false_eq_true, if_false]
  refine wpAny_bind (wpAny_holding (iter_tuple hl ?_))
  refine wpAny_bind (wpAny_holding (draw_tuple hlt 1 0 _ _ ⟨_, Heap.get?_push_size _ rfl, rfl, rfl⟩ (hl.push _) (by omega) fun h₁ hit₁ hs₁ => ?_))
  have hl₁ : IsTup h₁ l items := (hl.push _).extBut hs₁.extBut hlt
  rw [Nat.zero_add] at hit₁
  have hit₁' := hit₁
  obtain ⟨oi, hoi, _⟩ := hit₁'
  have hl₁' := hl₁
  obtain ⟨ol, hol, _⟩ := hl₁'
  rw [List.drop_zero]
  have hfl : (items.toList.take 1).length = 1 := by rw [List.length_take, Array.length_toList]; omega
  rw [if_neg (show ¬ ((items.toList.take 1).length < 1) by rw [hfl]; omega)]
  refine wpAny_bind (wpAny_holding (PySem.W.kun_collect (s := { s with heap := h₁ }) (T := "tuple_iterator") (.inr (.inr (.inr rfl))) (Walks.tuple (A := A.in1) hh s.heap.objs.size l hlt items) (fun j u st => st.1.typeIs) (k := 1) (by omega) ⟨hit₁, hl₁⟩ (Heap.lt_size hoi) (Heap.lt_size hol) (fun h₂ tk hk => ?_) hz))
  have hrl : (items.toList.drop 1).length = items.size - 1 := by rw [List.length_drop, Array.length_toList]
  show wpAny _ _ (if (items.toList.drop 1).length < 0 then _ else _) _ _ _
  rw [if_neg (by omega)]
  show wpAny _ _ (newList ((items.toList.drop 1).take ((items.toList.drop 1).length - 0)) >>= fun d => pure (items.toList.take 1 ++ [d] ++ (items.toList.drop 1).drop ((items.toList.drop 1).length - 0))) _ _ _
  rw [Nat.sub_zero, List.take_length, List.drop_length]
  refine wpAny_bind (wpAny_newObj_type (wpAny_pure ?_) (by show (items.toList.drop 1).toArray.size ≤ sizeLine; rw [List.size_toArray, hrl]; omega))
  rw [List.append_nil]
  exact h h₂ tk fun b o e => hk b o (Nat.ne_of_lt (Heap.lt_size e)) (hs₁.extBut b o (Nat.ne_of_lt (Heap.lt_size e)) (Heap.get?_push_of_some _ e))
end
/-- (x, *y) = a tuple or a list -/
def gStar (K : PySem.W.Frag) (t : TGs) : TG := fun v σ H Q => ∃ a x xs, v = .ref a ∧ SqT K H a (x :: xs) ∧ ∀ p, H p = none → t [x, .ref p] σ (upd H p (.lst xs)) Q
section
variable {X : Cx} {W : DW}
theorem pg_star {es : List Expr} {k : Nat} {t : TGs} {pos : Pos} (hc : X.calm = true) (h : PGs X es t)
    (hn : (assignEach es X.env).length = 2 := by rfl) (hst : (assignEach es X.env).findIdx? (·.1) = some 1 := by rfl) : PG X (.Tuple es k pos) (gStar X.K t) := by
  refine ⟨fun pins s σ H v u Q I r hw => ?_⟩
  obtain ⟨a, x, xs, e1, hq, hw⟩ := hw
  subst e1
  cases r
  obtain ⟨its, rv, ht, hz⟩ := I.tuple hq
  cases rv with
  | cons r1 rr =>
    rename_i u1 us
    have hlen := rr.length
    simp only [List.length_cons] at hz
    refine star1T ht (I.ok.hd hc) hn hst (by simp) (by rw [List.size_toArray, List.length_cons]; omega) fun h₂ tk hk => ?_
    have I1 : Inv X pins σ H { s with heap := h₂, toks := tk } := I.kept (t' := tk) hk
    have I2 : Inv X pins σ (upd H h₂.objs.size (.lst xs)) { s with heap := h₂.push { cls := .type "list", data := .seq us.toArray }, toks := tk } := by
      refine I1.laid (t' := tk) (o := .lst xs) (fun b ob q => Heap.get?_push_of_some _ q) (Nat.le_refl _) ?_
      exact ⟨by omega, us, 0, rr, Heap.get?_push_size _ rfl⟩
    exact h.run pins _ σ _ [x, .ref h₂.objs.size] _ Q I2 (.cons r1 (.cons rfl .nil)) (hw _ (I1.hok.fresh (Nat.le_refl _)))
def tStar (G : List D → SF) : D → SF := fun d => match d with
  | .tup (x :: xs) => G [x, .lst xs]
  | _ => fun _ _ => none
theorem dg_star {es : List Expr} {k : Nat} {G : List D → SF} {pos : Pos} (hc : X.calm = true) (h : PGs X es (tgsD X.K W G)) (hn : (assignEach es X.env).length = 2 := by rfl) (hst : (assignEach es X.env).findIdx? (·.1) = some 1 := by rfl) : PG X (.Tuple es k pos) (tgD X.K W (tStar G)) :=
  (pg_star hc h hn hst).imp fun v σ H Q ⟨ρ, ι, μ, d, sr, wf, vr, h⟩ => by
    cases vr with
    | tup ht r =>
      cases r with
      | nil => exact h.elim
      | cons r1 rr =>
        refine ⟨_, _, _, rfl, ht.sq, fun p hp => ⟨ρ, ι, μ, _, sr.mono (Le.laid hp), wf.laid hp, .cons (r1.mono (Le.laid hp)) (.cons (.lst ⟨upd_same, wf.out hp⟩ (rr.mono (Le.laid hp))) .nil), PostS.from (Le.laid hp) h⟩⟩
    | _ => exact h.elim
/-- the second one of two targets with a star -/
theorem dgs_starred {e : Expr} {F : D → SF} {p : Pos} (ha : PG X e (tgD X.K W F)) (hs : (assignEach [e] X.env).map (·.2) = [assign e X.env] := by rfl) : PGs X [.Starred e p] (tgsD X.K W (tCons F tNil)) := by
  have h := dgs_cons (es := []) ha dgs_nil hs
  refine ⟨fun pins s σ H vs us Q I r z => ?_⟩
  have := h.run pins s σ H vs us Q I r z
  rw [hs] at this
  exact this
end
end DM

/-! dicts read; a loop over a dict; sorted; join -/
namespace DM
open PySem PySem.Spec L2 PyProof.Rows
/-! ### k in d -/
theorem op_dIn {X : Cx} (hu : X.A.units + 1 < cLine) : OpR X (compareOp .In) (fun x y H Q => ∃ a o, y = .ref a ∧ DGet H a x o ∧ Q (.bl o.isSome) H) := by
  intro pins s σ H x y v u Q I rx ry h
  obtain ⟨a, o, rfl, g, q⟩ := h
  cases ry
  exact L2.d_in hu I g rx fun s3 I3 => ⟨.bl o.isSome, H, I3, rfl, q⟩
theorem op_dNotIn {X : Cx} (hu : X.A.units + 1 < cLine) : OpR X (compareOp .NotIn) (fun x y H Q => ∃ a o, y = .ref a ∧ DGet H a x o ∧ Q (.bl (!o.isSome)) H) := by
  intro pins s σ H x y v u Q I rx ry h
  obtain ⟨a, o, rfl, g, q⟩ := h
  cases ry
  exact L2.d_notIn hu I g rx fun s3 I3 => ⟨.bl (!o.isSome), H, I3, rfl, q⟩
theorem dget_of {K : PySem.W.Frag} {ι : List Addr} {H : Hp} {μ : Store} {x y : V} {d e : D} {c : Nat} {kvs : List (Key × D)} {k : Key} (w : WF K ι μ H) (vx : VR K ι H x d) (vy : VR K ι H y e) (hd : dctAt μ d = some (c, kvs)) (hk : keyD e = some k) :
    ∃ a o, x = .ref a ∧ DGet H a y o ∧ o.isSome = (valD kvs k).isSome ∧ (∀ z, valD kvs k = some z → ∃ v, o = some v ∧ VR K ι H v z) ∧ (valD kvs k = none → o = none) ∧ IsD H a := by
  obtain ⟨a, qs, rfl, hc, ea, q, r⟩ := dctAt_vr w vx hd
  have ey := keyD_vr vy hk
  subst ey
  refine ⟨a, valV qs k, rfl, .inl ⟨qs, k, ea, rfl, rfl⟩, ?_, fun z hz => ?_, fun hz => valD_none q hz, .inl ⟨qs, ea⟩⟩
  · cases ez : valD kvs k with
    | none => rw [valD_none q ez]; rfl
    | some z => obtain ⟨v, ev, _⟩ := valD_some q r ez; rw [ev]; rfl
  · obtain ⟨v, ev, rv⟩ := valD_some q r hz
    exact ⟨v, ev, rv⟩
theorem lift_dIn {K : PySem.W.Frag} : Lift2 K (fun x y H Q => ∃ a o, y = .ref a ∧ DGet H a x o ∧ Q (.bl o.isSome) H) (FdIn false) := by
  intro W σ ι μ H x y d e Q w vx vy h
  unfold FdIn at h
  match hd : dctAt μ e, hk : keyD d, h with
  | some (c, kvs), some k, h =>
    obtain ⟨a, o, rfl, g, hs, _⟩ := dget_of w vy vx hd hk
    refine ⟨a, o, rfl, g, ?_⟩
    rw [hs]
    exact h.ok0 w (.bl _)
theorem lift_dNotIn {K : PySem.W.Frag} : Lift2 K (fun x y H Q => ∃ a o, y = .ref a ∧ DGet H a x o ∧ Q (.bl (!o.isSome)) H) (FdIn true) := by
  intro W σ ι μ H x y d e Q w vx vy h
  unfold FdIn at h
  match hd : dctAt μ e, hk : keyD d, h with
  | some (c, kvs), some k, h =>
    obtain ⟨a, o, rfl, g, hs, _⟩ := dget_of w vy vx hd hk
    refine ⟨a, o, rfl, g, ?_⟩
    rw [hs]
    exact h.ok0 w (.bl _)
section
variable {X : Cx} {W : DW} {a b : Expr} {A B : CM D} {pos : Pos} {k : Nat}
theorem d_din (hr : Room k X.A) (ha : PE X a (tE X.K W A)) (hb : PE X b (tE X.K W B)) (hm : behindInMarks .In b = false := by rfl) : PE X (.Compare a [.In] [b] pos) (tE X.K W (e2 (FdIn false) A B)) := d_cmp (op_dIn (by have := hr.units; omega)) lift_dIn ha hb hm
theorem d_dnotin (hr : Room k X.A) (ha : PE X a (tE X.K W A)) (hb : PE X b (tE X.K W B)) (hm : behindInMarks .NotIn b = false := by rfl) : PE X (.Compare a [.NotIn] [b] pos) (tE X.K W (e2 (FdIn true) A B)) := d_cmp (op_dNotIn (by have := hr.units; omega)) lift_dNotIn ha hb hm
theorem dt_din (hr : Room k X.A) (ha : PE X a (tE X.K W A)) (hb : PE X b (tE X.K W B)) (hm : behindInMarks .In b = false := by rfl) : PT X (.Compare a [.In] [b] pos) (tT X.K W (bOf (e2 (FdIn false) A B))) := dt_cmp (op_dIn (by have := hr.units; omega)) lift_dIn ha hb hm
theorem dt_dnotin (hr : Room k X.A) (ha : PE X a (tE X.K W A)) (hb : PE X b (tE X.K W B)) (hm : behindInMarks .NotIn b = false := by rfl) : PT X (.Compare a [.NotIn] [b] pos) (tT X.K W (bOf (e2 (FdIn true) A B))) := dt_cmp (op_dNotIn (by have := hr.units; omega)) lift_dNotIn ha hb hm
end
/-! ### d.get(k) -/
def FdGet1 (o i : D) (μ : Store) : Res D := match dctAt μ o, keyD i with
  | some (_, kvs), some k => okR ((valD kvs k).getD .non) μ
  | _, _ => none
/-- the dict is looked at ahead of the key -/
def eGet (O I : CM D) : CM D := O.bind fun o ρ μ => match dctAt μ o with
  | some _ => I.bind (fun i _ μ1 => FdGet1 o i μ1) ρ μ
  | none => none
theorem d_get {X : Cx} {W : DW} {o e : Expr} {O I : CM D} {apos cpos : Pos} {k : Nat} (hr : Room k X.A) (ho : PE X o (tE X.K W O)) (he : PE X e (tE X.K W I)) (m : M1 X o "get" apos e cpos) : PE X (.Call (.Attribute o "get" apos) [e] [] cpos) (tE X.K W (eGet O I)) :=
  (pe_dget1 (by have := hr.units; omega) ho he m).imp fun σ H Q ⟨ρ, ι, μ, sr, wf, h⟩ => by
    refine tG.mono (PostG.bind sr wf h) ?_
    rintro x H1 ⟨ι1, μ1, d, l1, w1, vx, h1⟩
    match hd : dctAt μ1 d, h1 with
    | some (c, kvs), h1 =>
      obtain ⟨a, qs, rfl, hc, ea, q, r⟩ := dctAt_vr w1 vx hd
      refine ⟨a, rfl, .inl ⟨qs, ea⟩, ?_⟩
      refine tG.mono (PostG.bind (sr.mono l1) w1 h1) ?_
      rintro y H2 ⟨ι2, μ2, di, l2, w2, vy, h2⟩
      unfold FdGet1 at h2
      match hd2 : dctAt μ2 d, hk : keyD di, h2 with
      | some (c', kvs'), some kk, h2 =>
        obtain ⟨a', ov, e', g, _, hs, hn, _⟩ := dget_of w2 (vx.mono l2) vy hd2 hk
        cases e'
        refine ⟨ov, g, ?_⟩
        simp only [] at h2
        cases ez : valD kvs' kk with
        | none => rw [hn ez]; rw [ez] at h2; exact h2.ok0 w2 .non
        | some z =>
          obtain ⟨v, ev, rv⟩ := hs z ez
          rw [ev]; rw [ez] at h2
          exact h2.ok0 w2 rv
/-! ### dict(d), dict(pairs) -/
def pairsD : List D → Option (List (Key × D))
  | [] => some []
  | .tup [k, v] :: r => match keyD k, pairsD r with
    | some k, some t => some ((k, v) :: t)
    | _, _ => none
  | _ => none
def Fdict (ds : List D) (μ : Store) : Res D := match ds with
  | [d] => match dctAt μ d with
    | some (_, kvs) => okR (.ref μ.length) (μ ++ [.dct kvs])
    | none => match d with
      | .lst xs => match pairsD xs with
        | some kvs => okR (.ref μ.length) (μ ++ [.dct (mergeKD [] kvs)])
        | none => none
      | _ => none
  | _ => none
def rDict (K : PySem.W.Frag) : List V → Hp → VK → Prop := fun xs H Q =>
  (∃ (a : Addr) (kvs : List (Key × V)), xs = [.ref a] ∧ Rd H a (.dK kvs) ∧ ∀ p, H p = none → Q (.ref p) (upd H p (.dK kvs))) ∨
  (∃ (a : Addr) (ps : List Addr) (kvs : List (Key × V)), xs = [.ref a] ∧ SqL K H a (ps.map V.ref) ∧ Paired (fun p kv => SqT K H p [kV kv.1, kv.2]) ps kvs ∧ ∀ p, H p = none → Q (.ref p) (upd H p (.dK (mergeK [] kvs))))
theorem call_dict {X : Cx} (hc : X.calm = true) : CallR X (.type "dict") (rDict X.K) := by
  intro pins s σ H xs us Q I r q
  rcases q with q | q
  · exact call_dictD pins s σ H xs us Q I r q
  · exact call_dictP hc pins s σ H xs us Q I r q
theorem pairsD_ok {K : PySem.W.Frag} {ι : List Addr} {H : Hp} : ∀ {vs : List V} {xs : List D} {kvs : List (Key × D)}, VRs K ι H vs xs → pairsD xs = some kvs → ∃ (ps : List Addr) (qs : List (Key × V)), vs = ps.map V.ref ∧ Paired (fun p kv => SqT K H p [kV kv.1, kv.2]) ps qs ∧ qs.map (·.1) = kvs.map (·.1) ∧ VRs K ι H (qs.map (·.2)) (kvs.map (·.2))
  | _, _, _, .nil, e => by cases e; exact ⟨[], [], rfl, .nil, rfl, .nil⟩
  | _, _, _, .cons (d := d) (ds := ds) h r, e => by
    unfold pairsD at e
    split at e
    · rename_i k v r' heq
      cases heq
    · rename_i k v r' heq
      cases heq
      match ek : keyD k, er : pairsD ds, e with
      | some kk, some t, e =>
        cases e
        obtain ⟨ps, qs, rfl, hp, h1, h2⟩ := pairsD_ok r er
        cases h with
        | tup ht rr =>
          cases rr with
          | cons r1 rr =>
            cases rr with
            | cons r2 rr =>
              cases rr
              have := keyD_vr r1 ek
              subst this
              rename_i a v2
              exact ⟨a :: ps, (kk, v2) :: qs, rfl, .cons ht.sq hp, by simp [h1], .cons r2 h2⟩
    · cases e
theorem lift_dict {K : PySem.W.Frag} : LiftA K (rDict K) Fdict := by
  intro W σ ι μ H xs ds Q w v h
  unfold Fdict at h
  match ds, v, h with
  | [d], v, h =>
    obtain ⟨x, rfl, vd⟩ := v.one
    dsimp only at h
    match hd : dctAt μ d, h with
    | some (c, kvs), h =>
      obtain ⟨a, qs, rfl, hc, ea, q, r⟩ := dctAt_vr w vd hd
      refine .inl ⟨a, qs, rfl, ea, fun p hp => ?_⟩
      refine h.ok (Le.cell hp) (w.cell hp (u := .dct kvs) ⟨qs, upd_same, q, r.mono (Le.cell hp)⟩) (.ref (by rw [← w.len]; simp))
    | none, h =>
      dsimp only at h
      match d, vd, h with
      | .lst ys, vd, h =>
        dsimp only at h
        match hp : pairsD ys, h with
        | some kvs, h =>
          cases vd with
          | lst ht r =>
            obtain ⟨ps, qs, rfl, hpp, h1, h2⟩ := pairsD_ok r hp
            refine .inr ⟨_, ps, qs, rfl, ht.sq, hpp, fun p hp => ?_⟩
            obtain ⟨m1, m2⟩ := merge_rel (K := K) (ι := ι) (H := H) (qs := []) (kvs := []) h1 h2 rfl .nil
            refine h.ok (Le.cell hp) (w.cell hp (u := .dct (mergeKD [] kvs)) ⟨_, upd_same, m1, m2.mono (Le.cell hp)⟩) (.ref (by rw [← w.len]; simp))
/-! ### sorted of texts, of a dict's keys -/
def leS (a b : Str) : Bool := !ltCps b.cps.toList a.cps.toList
def insS (x : Str) : List Str → List Str
  | [] => [x]
  | y :: r => if leS x y = true then x :: y :: r else y :: insS x r
def sortS : List Str → List Str
  | [] => []
  | x :: r => insS x (sortS r)
theorem leS_iff {a b : Str} : leS a b = true ↔ ¬ (b.cps.toList < a.cps.toList) := by
  unfold leS
  rw [ltCps_eq]
  simp
theorem leS_total {a b : Str} (h : leS a b ≠ true) : leS b a = true := by
  rw [Ne, leS_iff] at h
  rw [leS_iff]
  have h' : b.cps.toList < a.cps.toList := Classical.not_not.mp h
  exact fun z => List.lt_asymm h' z
theorem leS_antisymm {a b : Str} (h : leS a b = true) (h' : leS b a = true) : a = b := by
  rw [leS_iff] at h h'
  have e : a.cps.toList = b.cps.toList := List.le_antisymm (List.not_lt.mp h) (List.not_lt.mp h')
  cases a; cases b
  simp only at e
  rw [Array.toList_inj.mp e]
theorem leS_trans {a b c : Str} (h : leS a b = true) (h' : leS b c = true) : leS a c = true := by
  rw [leS_iff] at h h' ⊢
  exact List.not_lt.mpr (List.le_trans (List.not_lt.mp h) (List.not_lt.mp h'))
theorem leS_refl (a : Str) : leS a a = true := by
  rw [leS_iff]; exact List.lt_irrefl _
theorem rising_pw : ∀ {r : List Str} {x : Str}, risingS x r = true → (x :: r).Pairwise fun a b => leS a b = true
  | [], x, _ => by simp
  | y :: r, x, h => by
    simp only [risingS, Bool.and_eq_true] at h
    have ih := rising_pw h.2
    have hxy : leS x y = true := h.1
    rw [List.pairwise_cons] at ih ⊢
    refine ⟨fun z hz => ?_, List.pairwise_cons.mpr ih⟩
    rcases List.mem_cons.mp hz with rfl | hz
    · exact hxy
    · exact leS_trans hxy (ih.1 z hz)
theorem sortedS_pw {ys : List Str} (h : sortedS ys = true) : ys.Pairwise fun a b => leS a b = true := by
  cases ys with
  | nil => exact List.Pairwise.nil
  | cons x r => exact rising_pw h
theorem insS_perm (x : Str) : ∀ r : List Str, (insS x r).Perm (x :: r)
  | [] => .refl _
  | y :: r => by
    unfold insS
    split
    · exact .refl _
    · exact ((insS_perm x r).cons y).trans (.swap x y r)
theorem sortS_perm : ∀ xs : List Str, (sortS xs).Perm xs
  | [] => .refl _
  | x :: r => (insS_perm x _).trans ((sortS_perm r).cons x)
theorem insS_pw (x : Str) : ∀ {r : List Str}, (r.Pairwise fun a b => leS a b = true) → (insS x r).Pairwise fun a b => leS a b = true
  | [], _ => by simp [insS]
  | y :: r, h => by
    unfold insS
    rw [List.pairwise_cons] at h
    split
    · rename_i hxy
      refine List.pairwise_cons.mpr ⟨fun z hz => ?_, List.pairwise_cons.mpr h⟩
      rcases List.mem_cons.mp hz with rfl | hz
      · exact hxy
      · exact leS_trans hxy (h.1 z hz)
    · rename_i hxy
      refine List.pairwise_cons.mpr ⟨fun z hz => ?_, insS_pw x h.2⟩
      rcases List.mem_cons.mp ((insS_perm x r).mem_iff.mp hz) with rfl | hz
      · exact leS_total hxy
      · exact h.1 z hz
theorem sortS_pw : ∀ xs : List Str, (sortS xs).Pairwise fun a b => leS a b = true
  | [] => List.Pairwise.nil
  | x :: r => insS_pw x (sortS_pw r)
theorem pw_uniq : ∀ {xs ys : List Str}, xs.Perm ys → (xs.Pairwise fun a b => leS a b = true) → (ys.Pairwise fun a b => leS a b = true) → xs = ys
  | [], ys, p, _, _ => (List.nil_perm.mp p).symm
  | x :: r, [], p, _, _ => absurd p.length_eq (by simp)
  | x :: r, y :: t, p, h, h' => by
    rw [List.pairwise_cons] at h h'
    have e : x = y := by
      rcases List.mem_cons.mp (p.mem_iff.mp List.mem_cons_self) with e | hx
      · exact e
      rcases List.mem_cons.mp (p.symm.mem_iff.mp (List.mem_cons_self (a := y) (l := t))) with e | hy
      · exact e.symm
      exact leS_antisymm (h.1 y hy) (h'.1 x hx)
    subst e
    rw [pw_uniq (List.Perm.cons_inv p) h.2 h'.2]
theorem sort_uniq {xs ys : List Str} (p : ys.Perm xs) (h : sortedS ys = true) : ys = sortS xs := pw_uniq (p.trans (sortS_perm xs).symm) (sortedS_pw h) (sortS_pw xs)
def strKeys : List (Key × D) → Option (List Str)
  | [] => some []
  | (.inr s, _) :: r => (strKeys r).map (s :: ·)
  | _ => none
theorem strKeys_eq : ∀ {kvs : List (Key × D)} {ks : List Str}, strKeys kvs = some ks → kvs.map (·.1) = ks.map Sum.inr
  | [], ks, e => by cases e; rfl
  | (.inr s, v) :: r, ks, e => by
    unfold strKeys at e
    obtain ⟨t, e1, rfl⟩ := Option.map_eq_some_iff.mp e
    simp [strKeys_eq e1]
  | (.inl _, _) :: r, ks, e => by cases e
def Fsorted (ds : List D) (μ : Store) : Res D := match ds with
  | [d] => match dctAt μ d with
    | some (_, kvs) => match strKeys kvs with
      | some ks => if ks.length < 64 then okR (.lst ((sortS ks).map D.str)) μ else none
      | none => none
    | none => match d with
      | .lst xs => match strsD xs with
        | some ks => if ks.length < 64 then okR (.lst ((sortS ks).map D.str)) μ else none
        | none => none
      | _ => none
  | _ => none
def rSorted2 (K : PySem.W.Frag) : List V → Hp → VK → Prop := fun xs H Q =>
  (∃ (a : Addr) (kvs : List (Key × V)) (ks : List Str), xs = [.ref a] ∧ Rd H a (.dK kvs) ∧ kvs.map (·.1) = ks.map Sum.inr ∧ ks.length < 64 ∧ ∀ ys p, ys.Perm ks → sortedS ys = true → H p = none → Q (.ref p) (upd H p (.lst (ys.map V.str)))) ∨ rSortedS K xs H Q
theorem call_sorted2 {X : Cx} (hc : X.calm = true) : CallR X (.builtin "sorted") (rSorted2 X.K) := by
  intro pins s σ H xs us Q I r q
  rcases q with q | q
  · exact call_sortedD hc pins s σ H xs us Q I r q
  · exact cr_sortedS pins s σ H xs us Q I r q
theorem vrs_strs' {K : PySem.W.Frag} {ι : List Addr} {H : Hp} : ∀ ys : List Str, VRs K ι H (ys.map V.str) (ys.map D.str)
  | [] => .nil
  | y :: r => .cons (.str y) (vrs_strs' r)
theorem lift_sorted {K : PySem.W.Frag} : LiftA K (rSorted2 K) Fsorted := by
  intro W σ ι μ H xs ds Q w v h
  unfold Fsorted at h
  match ds, v, h with
  | [d], v, h =>
    obtain ⟨x, rfl, vd⟩ := v.one
    dsimp only at h
    match hd : dctAt μ d, h with
    | some (c, kvs), h =>
      dsimp only at h
      match hk : strKeys kvs, h with
      | some ks, h =>
        obtain ⟨q64, h⟩ := PostG.guard h
        obtain ⟨a, qs, rfl, hc, ea, q, r⟩ := dctAt_vr w vd hd
        refine .inl ⟨a, qs, ks, rfl, ea, q.trans (strKeys_eq hk), q64, fun ys p pe so hp => ?_⟩
        rw [sort_uniq pe so]
        exact h.ok (Le.laid hp) (w.laid hp) (.lst ⟨upd_same, w.out hp⟩ (vrs_strs' _))
    | none, h =>
      dsimp only at h
      match d, vd, h with
      | .lst ys, vd, h =>
        dsimp only at h
        match hk : strsD ys, h with
        | some ks, h =>
          obtain ⟨q64, hh⟩ := PostG.guard h
          have e := strsD_eq hk
          clear hk
          cases vd with
          | lst ht r =>
            subst e
            have e2 := vrs_strs r
            subst e2
            refine .inr ⟨_, ks, rfl, ht.sq, q64, fun ys p pe so hp => ?_⟩
            rw [sort_uniq pe so]
            exact hh.ok (Le.laid hp) (w.laid hp) (.lst ⟨upd_same, w.out hp⟩ (vrs_strs' _))
/-! ### sep.join(xs) -/
def joinF (o d : D) (μ : Store) : Res D := match o with
  | .str a => match (itemsD μ d).bind strsD with
    | some ys => if (ys.map (·.length)).sum + ys.length * a.length ≤ 16777216 then okR (.str (Txt.join a ys)) μ else none
    | none => none
  | _ => none
def isStrD : D → Bool
  | .str _ => true
  | _ => false
def eJoin (O I : CM D) : CM D := O.bind fun o => if isStrD o = true then I.bind (fun i _ μ1 => joinF o i μ1) else fun _ _ => none
theorem d_join {X : Cx} {W : DW} {o e : Expr} {O I : CM D} {apos pos : Pos} (ho : PE X o (tE X.K W O)) (he : PE X e (tE X.K W I)) (hs : starEach [e] X.env = [(false, eval e X.env)] := by rfl) (hbase : attributeBase o "join" X.env (eval o X.env) = eval o X.env := by rfl) (hline : (apos.endLine == pos.line) = true := by rfl) :
    PE X (.Call (.Attribute o "join" apos) [e] [] pos) (tE X.K W (eJoin O I)) :=
  (pe_join ho he hs hbase hline).imp fun σ H Q ⟨ρ, ι, μ, sr, wf, h⟩ => by
    refine tG.mono (PostG.bind sr wf h) ?_
    rintro x H1 ⟨ι1, μ1, d, l1, w1, vx, h1⟩
    cases vx with
    | str a =>
      rw [if_pos (show isStrD (D.str a) = true from rfl)] at h1
      refine ⟨⟨a, rfl⟩, tG.mono (PostG.bind (sr.mono l1) w1 h1) ?_⟩
      rintro y H2 ⟨ι2, μ2, di, l2, w2, vy, h2⟩
      unfold joinF at h2
      dsimp only at h2
      match hi : itemsD μ2 di, h2 with
      | some xs, h2 =>
        simp only [Option.bind_some] at h2
        match hk : strsD xs, h2 with
        | some ys, h2 =>
          simp only [] at h2
          obtain ⟨q, hh⟩ := PostG.guard h2
          obtain ⟨a', vs, rfl, r, hq⟩ := itemsD_sq w2 vy hi
          have e := strsD_eq hk
          subst e
          have e2 := vrs_strs r
          subst e2
          exact ⟨a, a', ys, rfl, rfl, hq.imp id (·.1), q, hh.ok0 w2 (.str _)⟩
    | _ => exact h1.elim
end DM

/-! a loop over a dict that is not changed meanwhile -/
namespace DM
open PySem PySem.Spec L2 PyProof.Rows
section
variable {K : PySem.W.Frag} {ι : List Addr} {H : Hp} {a : Addr} {u : HO}
theorem ne_cell {p : Addr} (ha : a ∈ ι) (hp : p ∉ ι) : p ≠ a := fun z => hp (by rw [z]; exact ha)
theorem TupAt.updC {p : Addr} {vs : List V} (ha : a ∈ ι) (h : TupAt K ι H p vs) : TupAt K ι (upd H a u) p vs := by
  rcases h with ⟨⟨o, h, d⟩, n⟩ | h | ⟨h, n, q⟩
  · exact .inl ⟨⟨o, by rw [upd_ne (ne_cell ha n)]; exact h, d⟩, n⟩
  · exact .inr (.inl h)
  · exact .inr (.inr ⟨by rw [upd_ne (ne_cell ha n)]; exact h, n, q⟩)
theorem LstAt.updC {p : Addr} {vs : List V} (ha : a ∈ ι) (h : LstAt ι H p vs) : LstAt ι (upd H a u) p vs := ⟨by rw [upd_ne (ne_cell ha h.2)]; exact h.1, h.2⟩
theorem FlAt.updC {p : Addr} {vs : List V} (ha : a ∈ ι) (h : FlAt K ι H p vs) : FlAt K ι (upd H a u) p vs := by
  rcases h with ⟨⟨o, h⟩, n⟩ | h
  · exact .inl ⟨⟨o, by rw [upd_ne (ne_cell ha n)]; exact h⟩, n⟩
  · exact .inr h
mutual
theorem VR.updC (ha : a ∈ ι) : ∀ {v : V} {d : D}, VR K ι H v d → VR K ι (upd H a u) v d
  | _, _, .non => .non
  | _, _, .bl b => .bl b
  | _, _, .int i => .int i
  | _, _, .str x => .str x
  | _, _, .tup h r => .tup (h.updC ha) (VRs.updC ha r)
  | _, _, .lst h r => .lst (h.updC ha) (VRs.updC ha r)
  | _, _, .fl h r => .fl (h.updC ha) (VRs.updC ha r)
  | _, _, .ref h => .ref h
theorem VRs.updC (ha : a ∈ ι) : ∀ {vs : List V} {ds : List D}, VRs K ι H vs ds → VRs K ι (upd H a u) vs ds
  | _, _, .nil => .nil
  | _, _, .cons h r => .cons (VR.updC ha h) (VRs.updC ha r)
end
theorem OR.updC {b : Addr} {o : Ob} (ha : a ∈ ι) (hb : b ≠ a) (h : OR K ι H b o) : OR K ι (upd H a u) b o := by
  have e : upd H a u b = H b := upd_ne hb
  cases o with
  | lst ds => obtain ⟨vs, q, r⟩ := h; exact ⟨vs, e.trans q, r.updC ha⟩
  | obj C fs => obtain ⟨dx, gs, q, k, r, z⟩ := h; exact ⟨dx, gs, e.trans q, k, r.updC ha, z⟩
  | dct kvs => obtain ⟨qs, q, k, r⟩ := h; exact ⟨qs, e.trans q, k, r.updC ha⟩
  | dcl kvs => obtain ⟨o, qs, q, k, r⟩ := h; exact ⟨o, qs, e.trans q, k, r.updC ha⟩
  | dtt kvs => obtain ⟨qs, q, k, r⟩ := h; exact ⟨qs, e.trans q, k, r.updC ha⟩
theorem SR.updC {σ : L2.St} {ρ : Rho} (ha : a ∈ ι) (s : SR K ι H σ ρ) : SR K ι (upd H a u) σ ρ := ⟨s.len, fun i d h => let ⟨v, x, y⟩ := s.at' i d h; ⟨v, x, y.updC ha⟩⟩
theorem WF.unlock {μ : Store} {c : Nat} {od : Obj} {qs : List (Key × V)} {kvs : List (Key × D)} (w : WF K ι μ H) (hc : ι[c]? = some a) (hm : μ[c]? = some (.dcl kvs)) (hH : H a = some (.frz od (.dK qs))) : WF K ι (μ.set c (.dct kvs)) (upd H a (.dK qs)) := by
  have ha : a ∈ ι := List.mem_of_getElem? hc
  refine ⟨by simp [w.len], w.nd, fun j b v hj hv => ?_⟩
  by_cases e : c = j
  · subst e
    rw [hc] at hj
    cases hj
    have hl : c < μ.length := (List.getElem?_eq_some_iff.mp hm).1
    rw [List.getElem?_set_self hl] at hv
    cases hv
    obtain ⟨o, qs', e1, k, r⟩ := w.ob c a _ hc hm
    rw [hH] at e1
    cases e1
    exact ⟨qs, upd_same, k, r.updC ha⟩
  · rw [List.getElem?_set_ne e] at hv
    refine (w.ob j b v hj hv).updC ha fun z => ?_
    subst z
    have h1 := List.getElem?_eq_some_iff.mp hc
    have h2 := List.getElem?_eq_some_iff.mp hj
    exact e ((List.getElem_inj w.nd).mp (h1.2.trans h2.2.symm))
theorem WF.lock {μ : Store} {c : Nat} {od : Obj} {qs : List (Key × V)} {kvs : List (Key × D)} (w : WF K ι μ H) (hc : ι[c]? = some a) (hm : μ[c]? = some (.dct kvs)) (hH : H a = some (.dK qs)) : WF K ι (μ.set c (.dcl kvs)) (upd H a (.frz od (.dK qs))) := by
  have ha : a ∈ ι := List.mem_of_getElem? hc
  refine ⟨by simp [w.len], w.nd, fun j b v hj hv => ?_⟩
  by_cases e : c = j
  · subst e
    rw [hc] at hj
    cases hj
    have hl : c < μ.length := (List.getElem?_eq_some_iff.mp hm).1
    rw [List.getElem?_set_self hl] at hv
    cases hv
    obtain ⟨qs', e1, k, r⟩ := w.ob c a _ hc hm
    rw [hH] at e1
    cases e1
    exact ⟨od, qs, upd_same, k, r.updC ha⟩
  · rw [List.getElem?_set_ne e] at hv
    refine (w.ob j b v hj hv).updC ha fun z => ?_
    subst z
    have h1 := List.getElem?_eq_some_iff.mp hc
    have h2 := List.getElem?_eq_some_iff.mp hj
    exact e ((List.getElem_inj w.nd).mp (h1.2.trans h2.2.symm))
/-- behind the lock: as seen from ahead of it -/
theorem Le.unlock {ι' : List Addr} {H' : Hp} {c : Nat} {od : Obj} {qs : List (Key × V)} (hc : ι[c]? = some a) (hH : H a = some (.dK qs)) (l : Le ι (upd H a (.frz od (.dK qs))) ι' H') : Le ι H ι' (upd H' a (.dK qs)) := by
  have ha : a ∈ ι := List.mem_of_getElem? hc
  refine ⟨l.pre, fun b hb n => ?_, fun b o n e => ?_, fun b o v e => ?_⟩
  · have := l.new b hb n
    rw [upd_ne (ne_cell ha n)] at this
    exact this
  · have hne := ne_cell ha n
    rw [upd_ne hne]
    exact l.keep b o n (by rw [upd_ne hne]; exact e)
  · have hne : b ≠ a := fun z => by rw [z, hH] at e; cases e
    rw [upd_ne hne]
    exact l.frz b o v (by rw [upd_ne hne]; exact e)
end
def keyOf : Key → D
  | .inl i => .int i
  | .inr s => .str s
theorem keyOf_vr {K : PySem.W.Frag} {ι : List Addr} {H : Hp} (k : Key) : VR K ι H (kV k) (keyOf k) := by
  cases k with
  | inl i => exact .int i
  | inr s => exact .str s
def iKeysL (E : CM D) : CM IV := E.bind fun d _ μ => match d with
  | .ref c => match μ[c]? with
    | some (.dcl kvs) => some (.ok (kvs.map (fun kv => keyOf kv.1), anyG), μ)
    | _ => none
  | _ => none
theorem di_keysL {X : Cx} {W : DW} {tg e : Expr} {E : CM D} (he : PE X e (tE X.K W E)) : PI X tg e (tI X.K W (iKeysL E)) :=
  (pi_keys he).imp fun σ H R ⟨ρ, ι, μ, sr, wf, h⟩ => by
    refine tG.mono (PostG.bind sr wf h) ?_
    rintro x H1 ⟨ι1, μ1, d, l1, w1, vx, h1⟩
    cases vx with
    | @ref a c hc =>
      obtain ⟨o, ho, ro⟩ := w1.has hc
      simp only [ho] at h1
      cases o with
      | dcl kvs =>
        obtain ⟨od, qs, e1, k, r⟩ := ro
        refine ⟨a, od, rfl, .inl ⟨qs, e1, ?_⟩⟩
        refine h1.ok0 w1 ?_
        intro i ι' μ' H' l w _
        have e2 := l.frz _ _ _ e1
        have hlen : qs.length = kvs.length := by have := congrArg List.length k; simpa using this
        refine ⟨fun d e => ?_, fun e => ⟨e2, by simp at e; omega⟩⟩
        simp only [List.getElem?_map] at e
        obtain ⟨kv, e3, rfl⟩ := Option.map_eq_some_iff.mp e
        have hi : i < qs.length := by have := (List.getElem?_eq_some_iff.mp e3).1; omega
        refine ⟨⟨e2, hi⟩, fun y H'' z => ?_⟩
        obtain ⟨rfl, kk, v, e4, rfl⟩ := z
        have : kk = kv.1 := by
          have h1 := congrArg (fun l => l[i]?) k
          simp only [List.getElem?_map, e4, e3, Option.map_some, Option.some.injEq] at h1
          exact h1
        subst this
        exact ⟨Le.refl _ _, w, keyOf_vr _⟩
      | _ => exact h1.elim
    | _ => exact h1.elim
/-- the lock is taken off -/
def unlk (c : Nat) : Option (Fl × Store) → Option (Fl × Store)
  | some (f, μ) => match f, μ[c]? with
    | .ex _ _, _ => none
    | f, some (.dcl kvs) => some (f, μ.set c (.dct kvs))
    | _, _ => none
  | none => none
def sForK (E : CM D) (g : D → Rho → Option Rho) (S : SF) : SF := fun ρ μ => match E ρ μ with
  | some (.ok (.ref c), _) => match μ[c]? with
    | some (.dct kvs) => unlk c (sFor (iKeysL E) g S ρ (μ.set c (.dcl kvs)))
    | _ => none
  | _ => none
theorem ds_forK {X : Cx} {W : DW} {tg iter : Expr} {body : List Stmt} {E : CM D} {g : TG} {f : D → Rho → Option Rho} {own : List Nat} {S : SF} {pos : Pos} (hp : PassesOwn (model X.prog X.w) X.A X.env X.xe) (hc : X.calm = true) (hi : PE X iter (tE X.K noX E)) (hg : PG X tg g) (ht : TgOk X.K g f own) (hb : PSs X body (sD X.K noX S))
    (hs : ∀ x, foldedSetIterable iter X.env x = pure x := by intro _; rfl) : PS X (.For tg iter body [] pos) (sD X.K W (sForK E f S)) :=
  (ps_lock (ds_for (W := noX) hp hc (di_keysL hi) hg ht hb hs)).imp fun T σ H ⟨ρ, ι, μ, sr, wf, h⟩ => by
    unfold sForK at h
    match hE : E ρ μ, h with
    | some (.ok (.ref c), μ0), h =>
      simp only [] at h
      match hm : μ[c]?, h with
      | some (.dct kvs), h =>
        simp only [] at h
        obtain ⟨a, ha, qs, eH, ek, er⟩ := wf.at hm
        have hin : a ∈ ι := List.mem_of_getElem? ha
        refine ⟨a, .dK qs, eH, trivial, fun od => ⟨ρ, ι, μ.set c (.dcl kvs), sr.updC hin, wf.lock ha hm eH, ?_⟩⟩
        generalize sFor (iKeysL E) f S ρ (μ.set c (.dcl kvs)) = r at h ⊢
        match r, h with
        | some (fl, μ'), h =>
          unfold unlk at h
          match fl, h with
          | .ex x ρ', h => exact h.elim
          | .nx ρ', h =>
            simp only [] at h
            match hm' : μ'[c]?, h with
            | some (.dcl kvs'), h =>
              intro σ' ι' H' l w s
              have e1 : H' a = some (.frz od (.dK qs)) := l.frz _ _ _ upd_same
              have ha' := l.pre _ _ ha
              exact ⟨e1, h σ' ι' _ (l.unlock ha eH) (w.unlock ha' hm' e1) (s.updC (List.mem_of_getElem? ha'))⟩
          | .bk ρ', h =>
            simp only [] at h
            match hm' : μ'[c]?, h with
            | some (.dcl kvs'), h =>
              intro σ' ι' H' l w s
              have e1 : H' a = some (.frz od (.dK qs)) := l.frz _ _ _ upd_same
              have ha' := l.pre _ _ ha
              exact ⟨e1, h σ' ι' _ (l.unlock ha eH) (w.unlock ha' hm' e1) (s.updC (List.mem_of_getElem? ha'))⟩
          | .ct ρ', h =>
            simp only [] at h
            match hm' : μ'[c]?, h with
            | some (.dcl kvs'), h =>
              intro σ' ι' H' l w s
              have e1 : H' a = some (.frz od (.dK qs)) := l.frz _ _ _ upd_same
              have ha' := l.pre _ _ ha
              exact ⟨e1, h σ' ι' _ (l.unlock ha eH) (w.unlock ha' hm' e1) (s.updC (List.mem_of_getElem? ha'))⟩
          | .rt d, h =>
            simp only [] at h
            match hm' : μ'[c]?, h with
            | some (.dcl kvs'), h =>
              intro ι' H' v l w s
              have e1 : H' a = some (.frz od (.dK qs)) := l.frz _ _ _ upd_same
              have ha' := l.pre _ _ ha
              exact ⟨e1, h ι' _ v (l.unlock ha eH) (w.unlock ha' hm' e1) (s.updC (List.mem_of_getElem? ha'))⟩
end DM

namespace DM
open PySem PySem.Spec L2
open PyProof.Rows (envOfC)
/-! ### defs by their arguments: positional ones (any number), keywords named ks -/
abbrev FV := List D → List D → Store → Res D
structure FnV (P : Program) (w : World) (K : PySem.W.Frag) (mg : Str → Option Value) (base : Heap) (k : Nat) (f : Addr) (ks : List Str) (F : FV) : Prop where
  go : ∀ {A : Around} {outer : List Env} {s : Shared} {H : Hp} {us ws : List Value} {vs zs : List V} {ι : List Addr} {μ : Store} {ds es : List D} {Q : VK} {E : XK},
    Room k A → A.guards = some [] → Env0 P w K mg base A outer s H → Vals vs us → Vals zs ws → zs.length = ks.length → WF K ι μ H → VRs K ι H vs ds → VRs K ι H zs es → PostF K noXR ι H Q E (F ds es μ) →
      codeAny (model P w) A (.call (.ref f) ⟨us, ks.zip ws⟩) (CR (L2.CX P w) outer P w H s Q E) s
  len : ∀ ds es μ, F ds es μ ≠ none → es.length = ks.length
theorem FnV.mono {P : Program} {w : World} {K : PySem.W.Frag} {mg : Str → Option Value} {base : Heap} {j k : Nat} {f : Addr} {ks : List Str} {F : FV} (h : FnV P w K mg base j f ks F) (l : j ≤ k) : FnV P w K mg base k f ks F :=
  ⟨fun hr => h.go (hr.mono l), h.len⟩
/-- a def without stars: idx picks its parameters from the positional ones and the keywords -/
def gV (n nk : Nat) (idx : List Nat) (F : FD) : FV := fun ds es μ => if ds.length = n ∧ es.length = nk then F (pick idx (ds ++ es)) μ else none
theorem FnV.ofG {P : Program} {w : World} {K : PySem.W.Frag} {mg : Str → Option Value} {base : Heap} {k n : Nat} {f : Addr} {fd : FuncData} {ps ks : List Str} {idx : List Nat} {F : FD} (G : FnG P w K mg base noXR k f fd ps F)
    (hb : ∀ (s : Shared) (us ws : List Value), us.length = n → ws.length = ks.length → BindsTo s fd ⟨us, ks.zip ws⟩ (ps.zip (pick idx (us ++ ws)))) (hlen : ∀ ds μ, F ds μ ≠ none → ds.length = ps.length) : FnV P w K mg base k f ks (gV n ks.length idx F) := by
  refine ⟨fun {A outer s H us ws vs zs ι μ ds es Q E} hr hG e0 rv rz lz wf vr vz post => ?_, fun ds es μ h => ?_⟩
  · unfold gV at post
    have ln : ds.length = n ∧ es.length = ks.length := by
      by_cases z : ds.length = n ∧ es.length = ks.length
      · exact z
      · rw [if_neg z] at post; exact post.elim
    rw [if_pos ln] at post
    have vv : VRs K ι H (pick idx (vs ++ zs)) (pick idx (ds ++ es)) := pick_vrs (vr.append vz)
    have nn : F (pick idx (ds ++ es)) μ ≠ none := fun z => by rw [z] at post; exact post
    have hl : (pick idx (vs ++ zs)).length = ps.length := by rw [vv.length]; exact hlen _ _ nn
    exact G.go hr hG e0 (hb s us ws (by rw [← rv.length, vr.length]; exact ln.1) (by rw [← rz.length]; exact lz)) (pick_vals (rv.append rz)) hl wf vv post
  · unfold gV at h
    by_cases z : ds.length = n ∧ es.length = ks.length
    · exact z.2
    · rw [if_neg z] at h; exact absurd rfl h
/-- def f(a, .., *v, k = .., ..) -/
def fnV (np nk : Nat) (idx : List Nat) (F : FD) : FV := fun ds es μ => if (np ≤ ds.length ∧ ds.length ≤ sizeLine) ∧ es.length = nk then F (ds.take np ++ (pick idx es ++ [.tup (ds.drop np)])) μ else none
theorem fnV_star {P : Program} {w : World} {K : PySem.W.Frag} {mg : Str → Option Value} {base : Heap} {x qual : Str} {pa : Arguments} {body : List Stmt} {sc : Scope} {kws : List (Str × V)} {f : Addr} {fd : FuncData} {N pall ks : List Str} {k m n np : Nat} {idx : List Nat} {S : SF}
    (Fd : FunD K x qual pa body sc [] kws f fd) (Sc : FnScope N pall sc) (hm : pall.length = m) (hn : N.length = n)
    (hbind : ∀ (kV doc pm : Value) (an : Option Addr) (cdv ct : Value) (us rest ws : List Value), us.length = np → ws.length = ks.length → bindArgs (PySem.W.fnOf x qual pa body sc .none kV doc pm an cdv ct) ⟨us ++ rest, ks.zip ws⟩ = (newTuple rest >>= fun t => pure (pall.zip (us ++ (pick idx ws ++ [t])))))
    (hb : ∀ (cdv : Value) (A : Around) (outer : List Env) (s : Shared) (H : Hp) (E : XK), Room k (A.deeper (envOfC qual sc s.heap.objs.size f cdv)) → (A.deeper (envOfC qual sc s.heap.objs.size f cdv)).guards = some [] →
      PSs (cxOf (L2.CX P w) P w K mg base N qual sc f cdv A outer s H E).nox body (sD K noX S)) : FnV P w K mg base (k + 1) f ks (fnV np ks.length idx (fnP n m S)) := by
  obtain ⟨oc, od, dV, kV, doc, pm, an, cdv, ct, osl, rfl, lk, hcd, hD, _⟩ := Fd.ex
  obtain rfl : dV = .none := by
    rcases hD with ⟨_, e⟩ | ⟨e, _⟩
    · exact e
    · exact absurd rfl e
  refine ⟨fun {A outer s H us ws vs zs ι μ ds es Q E} hr hG e0 rv rz lz wf vr vz post => ?_, fun ds es μ h => by
    unfold fnV at h
    by_cases z : (np ≤ ds.length ∧ ds.length ≤ sizeLine) ∧ es.length = ks.length
    · exact z.2
    · rw [if_neg z] at h; exact absurd rfl h⟩
  unfold fnV at post
  have hlen : (np ≤ ds.length ∧ ds.length ≤ sizeLine) ∧ es.length = ks.length := by
    by_cases z : (np ≤ ds.length ∧ ds.length ≤ sizeLine) ∧ es.length = ks.length
    · exact z
    · rw [if_neg z] at post; exact post.elim
  rw [if_pos hlen] at post
  unfold fnP at post
  have hds : (ds.take np ++ (pick idx es ++ [D.tup (ds.drop np)])).length = m := by
    by_cases z : (ds.take np ++ (pick idx es ++ [D.tup (ds.drop np)])).length = m
    · exact z
    · rw [if_neg z] at post; exact post.elim
  rw [if_pos hds] at post
  have lv : vs.length = ds.length := vr.length
  have lu : us.length = vs.length := rv.length.symm
  have hn0 : H s.heap.objs.size = none := e0.hok.fresh (Nat.le_refl _)
  have rt : Vals (vs.take np) (us.take np) := rv.take np
  have rd : Vals (vs.drop np) (us.drop np) := rv.drop np
  have eu : us = us.take np ++ us.drop np := (List.take_append_drop np us).symm
  have hz : (vs.drop np).length ≤ sizeLine := by rw [List.length_drop]; omega
  have hl2 : (us.drop np).length ≤ sizeLine := by rw [← rd.length]; exact hz
  refine StX.run_bnd lk hcd Sc hr e0 (G := fun xs H2 => ∃ p o, H p = none ∧ o.dict = none ∧ xs = vs.take np ++ (pick idx zs ++ [V.ref p]) ∧ H2 = upd H p (.frz o (.tup (vs.drop np)))) (fun A' Ex Q' h => ?_) fun s2 H2 xs ⟨p, o, hp, ho, ex, eH⟩ hr' => ?_
  · have eb := hbind kV doc pm an cdv ct (us.take np) (us.drop np) ws (by rw [List.length_take]; omega) (by rw [← rz.length]; exact lz)
    rw [← eu] at eb
    rw [eb]
    refine wpAny_bind (wpAny_newTuple (wpAny_pure ?_) hl2)
    have new : ObjOk P w (upd H s.heap.objs.size (.frz ({ cls := .type "tuple", data := .seq (us.drop np).toArray } : Obj) (.tup (vs.drop np)))) (s.heap.push ({ cls := .type "tuple", data := .seq (us.drop np).toArray } : Obj)) s.heap.objs.size (.frz ({ cls := .type "tuple", data := .seq (us.drop np).toArray } : Obj) (.tup (vs.drop np))) := ⟨Heap.get?_push_size _ rfl, hz, us.drop np, rd, ⟨_, Heap.get?_push_size _ rfl, rfl, _, rfl⟩⟩
    have un := StX.un_laid (fs := frs outer) (s := s) (o := ({ cls := .type "tuple", data := .seq (us.drop np).toArray } : Obj)) (u := .frz ({ cls := .type "tuple", data := .seq (us.drop np).toArray } : Obj) (.tup (vs.drop np))) hn0
    have rr : Vals (vs.take np ++ (pick idx zs ++ [V.ref s.heap.objs.size])) (us.take np ++ (pick idx ws ++ [Value.ref s.heap.objs.size])) := rt.append ((pick_vals rz).append (.cons rfl .nil))
    have hll : (vs.take np ++ (pick idx zs ++ [V.ref s.heap.objs.size])).length = pall.length := by
      have h1 : (pick idx zs).length = (pick idx es).length := (pick_vrs vz).length
      have h2 : (ds.take np ++ (pick idx es ++ [D.tup (ds.drop np)])).length = m := hds
      simp only [List.length_append, List.length_take, List.length_cons, List.length_nil] at h2 ⊢
      omega
    exact h _ _ _ _ (StX.env0_laid e0 new) un rfl (fun e s' => StX.cxUp outer s H _ _ E e s' un (fun b o q => Heap.get?_push_of_some _ q) rfl) rr hll ⟨_, _, hn0, rfl, rfl, rfl⟩
  · subst ex eH
    refine ⟨_, PSs.nox (hb cdv A outer s2 _ E hr' hG), ?_⟩
    have l1 : Le ι H ι (upd H p (.frz o (.tup (vs.drop np)))) := Le.laid hp
    have vt : VRs K ι (upd H p (.frz o (.tup (vs.drop np)))) (vs.take np ++ (pick idx zs ++ [V.ref p])) (ds.take np ++ (pick idx es ++ [.tup (ds.drop np)])) :=
      ((vr.take np).mono l1).append (((pick_vrs vz).mono l1).append (.cons (.tup (.inl ⟨⟨_, upd_same, ho⟩, wf.out hp⟩) ((vr.drop np).mono l1)) .nil))
    refine ⟨startR n (ds.take np ++ (pick idx es ++ [.tup (ds.drop np)])), ι, μ, by rw [← hn]; exact SR.start vt, wf.laid hp, ?_⟩
    generalize S (startR n (ds.take np ++ (pick idx es ++ [.tup (ds.drop np)]))) μ = r at post ⊢
    match r, post with
    | some (.nx _, _), q => exact fun _ ι' H' l w _ => q ι' H' .non (l1.trans l) w .non
    | some (.rt d, _), q => exact fun ι' H' v l w vv => q ι' H' v (l1.trans l) w vv
end DM
namespace DM
open PySem PySem.Spec L2
def sealV (F : FV) : FV := fun ds es μ => sealR μ.length (F ds es μ)
theorem FnV.seal {P : Program} {w : World} {K : PySem.W.Frag} {mg : Str → Option Value} {base : Heap} {k : Nat} {f : Addr} {ks : List Str} {F : FV} (h : FnV P w K mg base k f ks F) : FnV P w K mg base k f ks (sealV F) := by
  refine ⟨fun {A outer s H us ws vs zs ι μ ds es Q E} hr hG e0 rv rz lz wf vr vz post => ?_, fun ds es μ q => h.len ds es μ fun z => q (by unfold sealV; rw [z]; rfl)⟩
  refine h.go hr hG e0 rv rz lz wf vr vz ?_
  unfold sealV at post
  have := sealAux (K := K) (W := fun x ι _ H' => ∀ c dd, noXR x c dd ι H' → E c dd H') (σ := []) (ι := ι) (H := H) (Q := Q) (r := F ds es μ) wf (by
    match sealR μ.length (F ds es μ), post with
    | some (.ok _, _), post => exact post
    | some (.error _, _), post => exact fun ι' H' l w c dd z => post ι' H' c dd l w z)
  match F ds es μ, this with
  | some (.ok _, _), q => exact q
  | some (.error _, _), q => exact fun ι' H' c dd l w z => q ι' H' l w c dd z
end DM

namespace L2
open PySem PySem.Spec PySem.Calls PySem.W
section
variable {M : Model} {A : Around} {E : Value → Shared → Prop} {s : Shared}
theorem ks_loneKw {f : Value} {x : Sem Value} {pos : Pos} {kws : List (Option Str × Sem Value)} {Q : Args → Shared → Prop} (hall : kws.all (·.1.isSome) = true)
    (h : wpAny M A x (fun v s₁ => wpAny M A (evalAll (kws.map (·.2))) (fun ks s₂ => StarOf M A E v (fun vs s₃ => Q ⟨vs, (kws.filterMap (·.1)).zip ks⟩ s₃) s₂) E s₁) E s) :
    wpAny M A (evalArgs f true [(true, (do let v ← x; standAt pos; pure v))] kws) Q E s := by
  unfold evalArgs
  first
    | refine wpAny_bind (wpAny_bind (wpAny_mono h (fun v s₁ h₁ => wpAny_bind (wpAny_standAt (wpAny_pure ?_))) fun _ _ x => x))
    | refine wpAny_bind (wpAny_bind (wpAny_bind (wpAny_mono h (fun v s₁ h₁ => wpAny_bind (wpAny_standAt (wpAny_pure (wpAny_pure ?_)))) fun _ _ x => x)))
  refine wpAny_holding ?_
  simp only [hall, if_true]
  refine wpAny_bind (wpAny_mono h₁ (fun ks s₂ h₂ => ?_) fun _ _ x => x)
  unfold StarOf at h₂
  refine wpAny_bind (wpAny_bind (wpAny_mono h₂ (fun b s₃ h₃ => ?_) fun _ _ x => x))
  obtain ⟨rfl, h₃⟩ := h₃
  have z := wpAny_holding (vs := ((kws.filterMap (·.1)).zip ks).map (·.2)) (wpAny_mono h₃ (fun vs s₃ h₃ => (wpAny_pure h₃ : wpAny M A (pure (⟨vs, (kws.filterMap (·.1)).zip ks⟩ : Args)) Q E s₃)) fun _ _ x => x)
  try simp only [Bool.false_eq_true, if_false]
  first
    | exact z
    | exact wpAny_bind (wpAny_pure z)
theorem ks_callKw {f : Value} {first : List Value} {pos : Pos} {Q : Value → Shared → Prop} {P : Heap → Prop} {args : List (Bool × Sem Value)} {kws : List (Option Str × Sem Value)} (hst : args.any (·.1) = true)
    (hk : ∀ h, P h → ∃ k, (k = Keeper.frame ∨ k = Keeper.machine ∨ k = Keeper.boundFrame) ∧ Looks M h (keeperOf f) k)
    (h : wpAny M A (evalArgs f true args kws) (fun a s₁ => P s₁.heap ∧ wpAny M A (call f (first ++ a.pos) a.kw) Q E s₁) E s) : wpAny M A (callWith pos f first args kws) Q E s := by
  unfold callWith
  refine wpAny_bind (wpAny_holding (wpAny_mono h (fun a s₁ h₁ => wpAny_bind (wpAny_standAt ?_)) fun _ _ x => x))
  obtain ⟨k, hk', L⟩ := hk _ h₁.1
  simp only [hst, Bool.true_or]
  refine wpAny_bind (L.here ?_)
  have tail : ∀ {t : Sem Value}, wpAny M A t Q E s₁ → wpAny M A (t >>= fun r => holding [r] point >>= fun _ => pure r) Q E s₁ :=
    fun ht => wpAny_bind (wpAny_mono ht (fun r s₂ hr => wpAny_bind (wpAny_holding (wpAny_point (wpAny_pure hr)))) fun _ _ x => x)
  have marked (mk : Value) : wpAny M A (callMarked mk f (first ++ a.pos) a.kw) Q E s₁ := by unfold callMarked; exact Calls.wpAny_keep h₁.2
  rcases hk' with rfl | rfl | rfl <;> dsimp only <;> first | exact tail (marked _) | exact tail (wpAny_operating h₁.2)
end
end L2
namespace DM
open PySem PySem.Spec L2
/-! ### methods by their arguments -/
structure MtV (P : Program) (w : World) (K : PySem.W.Frag) (mg : Str → Option Value) (base : Heap) (k : Nat) (C m : Str) (ks : List Str) (F : FV) : Prop where
  ex : ∃ f, FnV P w K mg base k f ks F ∧ BMeth K (He.ga K C) m f
theorem MtV.mono {P : Program} {w : World} {K : PySem.W.Frag} {mg : Str → Option Value} {base : Heap} {j k : Nat} {C m : Str} {ks : List Str} {F : FV} (h : MtV P w K mg base j C m ks F) (l : j ≤ k) : MtV P w K mg base k C m ks F := by
  obtain ⟨f, G, r⟩ := h.ex
  exact ⟨⟨f, G.mono l, r⟩⟩
theorem tv_nil {R : Str → FV → Prop} : ∀ C F, ([] : List (Str × FV)).lookup C = some F → R C F := fun _ _ h => by cases h
theorem tv_cons {R : Str → FV → Prop} {C : Str} {F : FV} {tb : List (Str × FV)} (h : R C F) (r : ∀ C F, tb.lookup C = some F → R C F) : ∀ C' F', ((C, F) :: tb).lookup C' = some F' → R C' F' := fun C' F' e => by
  rw [List.lookup_cons] at e
  by_cases z : (C' == C) = true
  · simp only [z] at e
    cases e
    rw [beq_iff_eq.mp z]
    exact h
  · have z' : (C' == C) = false := by simpa using z
    simp only [z'] at e
    exact r C' F' e
/-- the object, its class's def; then A: the positional arguments, B: the keywords -/
def eMtV (tb : List (Str × FV)) (m : Str) (O : CM D) (A B : CM (List D)) : CM D := O.bind fun o ρ μ => match o with
  | .ref i => match μ[i]? with
    | some (.obj C fs) => if (fs.lookup m).isNone = true then (match tb.lookup C with
      | some F => (A.bind fun ds => B.bind fun es _ μ => F (.ref i :: ds) es μ) ρ μ
      | none => none) else none
    | _ => none
  | _ => none
section
variable {X : Cx} {W : DW} {k j : Nat} {m : Str} {ks : List Str} {tb : List (Str × FV)} {o e : Expr} {es : List Expr} {kws : List Keyword} {O E : CM D} {As Bs : CM (List D)} {pos apos p : Pos}
theorem runV {pins : List (Addr × Obj)} {σ : L2.St} {H : Hp} {s : Shared} {Q : VK} {us ws : List Value} {vs zs : List V} {ι : List Addr} {μ : Store} {ds es : List D} {f : Addr} {F : FV} (G : FnV X.prog X.w X.K X.mg X.base k f ks F) (hr : Room k X.A) (hG : X.A.guards = some []) (hW : ∀ x ι σ H, W x ι σ H → False)
    (I : Inv X pins σ H s) (r : Vals vs us) (rz : Vals zs ws) (wf : WF X.K ι μ H) (vr : VRs X.K ι H vs ds) (vz : VRs X.K ι H zs es) (h : PostG (VR X.K) X.K W σ ι H Q (F ds es μ)) {R : Result → Shared → Prop} (hR : ∀ r s', CR (L2.CX X.prog X.w) X.stack X.prog X.w H s Q E0 r s' → R r s') : codeAny (model X.prog X.w) X.A (.call (.ref f) ⟨us, ks.zip ws⟩) R s := by
  have post : PostF X.K noXR ι H Q E0 (F ds es μ) := by
    match F ds es μ, h with
    | some (.ok _, _), h => exact h
    | some (.error x, _), h => exact fun ι' H' c dd l w _ => hW _ _ _ _ (h ι' H' l w)
  have lz : zs.length = ks.length := by rw [vz.length]; exact G.len ds es μ fun z => by rw [z] at h; exact h
  exact codeAny_mono (G.go hr hG I.env0 r rz lz wf vr vz post) hR
theorem runV' {pins : List (Addr × Obj)} {σ : L2.St} {H : Hp} {s : Shared} {Q : VK} {us ws : List Value} {vs zs : List V} {ι : List Addr} {μ : Store} {ds es : List D} {f : Addr} {F : FV} (G : FnV X.prog X.w X.K X.mg X.base k f ks F) (hr : Room k X.A) (hG : X.A.guards = some []) (hW : ∀ x ι σ H, W x ι σ H → False)
    (I : Inv X pins σ H s) (r : Vals vs us) (rz : Vals zs ws) (wf : WF X.K ι μ H) (vr : VRs X.K ι H vs ds) (vz : VRs X.K ι H zs es) (h : PostG (VR X.K) X.K W σ ι H Q (F ds es μ)) : wpAny (model X.prog X.w) X.A (call (.ref f) us (ks.zip ws)) (EP X pins σ Q) X.xe s := by
  refine wpAny_call (runV G hr hG hW I r rz wf vr vz h (fun r s' q => ?_))
  cases r with
  | error z => exact passL pins σ H s z s' I q
  | ok fl =>
    cases fl with
    | ret u => exact I.after q
    | next => exact q.elim
    | brk => exact q.elim
    | cont => exact q.elim
/-- o.m(e, ..), no keywords -/
theorem d_mtV {pl : Sem Bool} (he : PE X o (tE X.K W O)) (ht : ∀ C F, tb.lookup C = some F → MtV X.prog X.w X.K X.mg X.base j C m [] F) (hr : Room k X.A) (hjk : j ≤ k) (hG : X.A.guards = some []) (ha : PA X (e :: es) (tA X.K W As)) (hW : ∀ x ι σ H, W x ι σ H → False)
    (hst : starEach (e :: es) X.env = (false, eval e X.env) :: starEach es X.env := by rfl) (hpl : (backTo pos (starEach es X.env)).any (·.1) = false := by rfl)
    (hev : eval (.Call (.Attribute o m apos) (e :: es) [] pos) X.env = (do
      let ov ← eval o X.env
      standAt apos.atName
      let (f, first) ← holding [ov] (getMethod ov m pl)
      callWith pos f first (backTo pos (starEach (e :: es) X.env)) (backToKw pos (keywordEach [] X.env))) := by rfl) :
    PE X (.Call (.Attribute o m apos) (e :: es) [] pos) (tE X.K W (eMtV tb m O As aNil)) := by
  refine ⟨fun pins s σ H Q I ⟨ρ, ι, μ, sr, wf, h⟩ => ?_⟩
  refine methcall_of (pl := pl) he I (tG.mono (PostG.bind sr wf h) ?_) hev
  rintro x H1 ⟨ι1, μ1, d, l1, w1, vx, h1⟩
  cases vx with
  | ref hi =>
    obtain ⟨ob, hob, ro⟩ := w1.has hi
    simp only [hob] at h1
    cases ob with
    | obj C fs =>
      obtain ⟨dx, gs, ea, kk, r, c, n⟩ := ro
      obtain ⟨q, h1⟩ := PostG.guard h1
      cases et : tb.lookup C with
      | none => rw [et] at h1; exact h1.elim
      | some F =>
        rw [et] at h1
        obtain ⟨f, G, hm⟩ := (ht C F et).ex
        refine ⟨_, _, dx, gs, f, rfl, ea, c, hm.mt, fld_none kk (Option.isNone_iff_eq_none.mp q), fun s1 I1 => ?_⟩
        refine PySem.W.callWith_K (first := [.ref _]) (h₀ := X.base) I.ok.mod.kin hm.mt.kp (thn (ha.run pos pins s1 σ H1 _ I1 (PostG.bind (sr.mono l1) w1 h1)) ?_) hst hpl
        rintro us s2 ⟨vs, H2, I2, rv, ι2, μ2, ds, l2, w2, v2, h2⟩
        exact ⟨I2.kIn, runV' (us := .ref _ :: us) (vs := .ref _ :: vs) (ds := .ref _ :: ds) (ks := []) (ws := []) (zs := []) (es := []) G (hr.mono hjk) hG hW I2 (.cons rfl rv) .nil w2 (.cons (.ref (l2.pre _ _ hi)) v2) .nil h2⟩
    | _ => exact h1.elim
  | _ => exact h1.elim
/-- o.m() -/
theorem d_mtV0 {pl : Sem Bool} (he : PE X o (tE X.K W O)) (ht : ∀ C F, tb.lookup C = some F → MtV X.prog X.w X.K X.mg X.base j C m [] F) (hr : Room k X.A) (hjk : j ≤ k) (hG : X.A.guards = some []) (hW : ∀ x ι σ H, W x ι σ H → False)
    (hev : eval (.Call (.Attribute o m apos) [] [] pos) X.env = (do
      let ov ← eval o X.env
      standAt apos.atName
      let (f, first) ← holding [ov] (getMethod ov m pl)
      callWith pos f first (backTo pos (starEach [] X.env)) (backToKw pos (keywordEach [] X.env))) := by rfl) :
    PE X (.Call (.Attribute o m apos) [] [] pos) (tE X.K W (eMtV tb m O aNil aNil)) := by
  refine ⟨fun pins s σ H Q I ⟨ρ, ι, μ, sr, wf, h⟩ => ?_⟩
  refine methcall_of (pl := pl) he I (tG.mono (PostG.bind sr wf h) ?_) hev
  rintro x H1 ⟨ι1, μ1, d, l1, w1, vx, h1⟩
  cases vx with
  | ref hi =>
    obtain ⟨ob, hob, ro⟩ := w1.has hi
    simp only [hob] at h1
    cases ob with
    | obj C fs =>
      obtain ⟨dx, gs, ea, kk, r, c, n⟩ := ro
      obtain ⟨q, h1⟩ := PostG.guard h1
      cases et : tb.lookup C with
      | none => rw [et] at h1; exact h1.elim
      | some F =>
        rw [et] at h1
        obtain ⟨f, G, hm⟩ := (ht C F et).ex
        refine ⟨_, _, dx, gs, f, rfl, ea, c, hm.mt, fld_none kk (Option.isNone_iff_eq_none.mp q), fun s1 I1 => ?_⟩
        exact PySem.W.callWith_K0 (first := [.ref _]) I1.kIn hm.mt.kp (runV' (us := [.ref _]) (vs := [.ref _]) (ds := [.ref _]) (ks := []) (ws := []) (zs := []) (es := []) G (hr.mono hjk) hG hW I1 (.cons rfl .nil) .nil w1 (.cons (.ref hi) .nil) .nil h1)
    | _ => exact h1.elim
  | _ => exact h1.elim
/-- o.m(e, .., k = v, ..) -/
theorem d_mtK {pl : Sem Bool} (he : PE X o (tE X.K W O)) (ht : ∀ C F, tb.lookup C = some F → MtV X.prog X.w X.K X.mg X.base j C m ks F) (hr : Room k X.A) (hjk : j ≤ k) (hG : X.A.guards = some []) (ha : PA X (e :: es) (tA X.K W As)) (hkw : PK X kws (tA X.K W Bs)) (hW : ∀ x ι σ H, W x ι σ H → False)
    (hall : (backToKw pos (keywordEach kws X.env)).all (·.1.isSome) = true := by rfl) (hks : (backToKw pos (keywordEach kws X.env)).filterMap (·.1) = ks := by rfl)
    (hst : starEach (e :: es) X.env = (false, eval e X.env) :: starEach es X.env := by rfl) (hpl : ((backTo pos (starEach (e :: es) X.env)).any (·.1) || (backToKw pos (keywordEach kws X.env)).any (·.1.isNone)) = false := by rfl)
    (hev : eval (.Call (.Attribute o m apos) (e :: es) kws pos) X.env = (do
      let ov ← eval o X.env
      standAt apos.atName
      let (f, first) ← holding [ov] (getMethod ov m pl)
      callWith pos f first (backTo pos (starEach (e :: es) X.env)) (backToKw pos (keywordEach kws X.env))) := by rfl) :
    PE X (.Call (.Attribute o m apos) (e :: es) kws pos) (tE X.K W (eMtV tb m O As Bs)) := by
  refine ⟨fun pins s σ H Q I ⟨ρ, ι, μ, sr, wf, h⟩ => ?_⟩
  refine PySem.W.methodCall_KW (pl := pl) (thn (he.run pins s σ H _ I (PostG.bind sr wf h)) ?_) hev
  rintro u s1 ⟨x, H1, I1, rx, ι1, μ1, d, l1, w1, vx, h1⟩
  cases vx with
  | @ref a i hi =>
    obtain rfl : u = Value.ref a := rx
    obtain ⟨ob, hob, ro⟩ := w1.has hi
    simp only [hob] at h1
    cases ob with
    | obj C fs =>
      obtain ⟨dx, gs, ea, kk, r, c, n⟩ := ro
      obtain ⟨q, h1⟩ := PostG.guard h1
      cases et : tb.lookup C with
      | none => rw [et] at h1; exact h1.elim
      | some F =>
        rw [et] at h1
        obtain ⟨f, G, hm⟩ := (ht C F et).ex
        refine getmeth_ok I1 ea c hm.mt (fld_none kk (Option.isNone_iff_eq_none.mp q)) ?_
        refine PySem.W.callWith_KW (first := [.ref _]) (h₀ := X.base) I.ok.mod.kin hm.mt.kp hall (thn (ha.run pos pins s1 σ H1 _ I1 (PostG.bind (sr.mono l1) w1 h1)) ?_) hpl hst
        rintro us s2 ⟨vs, H2, I2, rv, ι2, μ2, ds, l2, w2, v2, h2⟩
        refine thn (hkw.run pos pins s2 σ H2 _ I2 (PostG.bind (sr.mono (l1.trans l2)) w2 h2)) ?_
        rintro ws s3 ⟨zs, H3, I3, rz, ι3, μ3, es', l3, w3, v3, h3⟩
        rw [hks]
        exact ⟨I3.kIn, runV' (us := .ref _ :: us) (vs := .ref _ :: vs) (ds := .ref _ :: ds) G (hr.mono hjk) hG hW I3 (.cons rfl rv) rz w3 (.cons (.ref (l3.pre _ _ (l2.pre _ _ hi))) (v2.mono l3)) v3 h3⟩
    | _ => exact h1.elim
  | _ => exact h1.elim
/-- what the star brings -/
def aLone (E : CM D) : CM (List D) := E.bind fun d _ μ => match itemsD μ d with
  | some xs => some (.ok xs, μ)
  | none => none
/-- o.m( *e) -/
theorem d_mtS (he : PE X o (tE X.K W O)) (ht : ∀ C F, tb.lookup C = some F → MtV X.prog X.w X.K X.mg X.base j C m [] F) (hr : Room k X.A) (hjk : j ≤ k) (hG : X.A.guards = some []) (ha : PE X e (tE X.K W E)) (hW : ∀ x ι σ H, W x ι σ H → False)
    (hbase : attributeBase o m X.env (eval o X.env) = eval o X.env := by rfl) :
    PE X (.Call (.Attribute o m apos) [.Starred e p] [] pos) (tE X.K W (eMtV tb m O (aLone E) aNil)) := by
  refine ⟨fun pins s σ H Q I ⟨ρ, ι, μ, sr, wf, h⟩ => ?_⟩
  refine starcall_of hbase (thn (he.run pins s σ H _ I (PostG.bind sr wf h)) ?_)
  rintro u s1 ⟨x, H1, I1, rx, ι1, μ1, d, l1, w1, vx, h1⟩
  cases vx with
  | @ref a i hi =>
    obtain rfl : u = Value.ref a := rx
    obtain ⟨ob, hob, ro⟩ := w1.has hi
    simp only [hob] at h1
    cases ob with
    | obj C fs =>
      obtain ⟨dx, gs, ea, kk, r, c, n⟩ := ro
      obtain ⟨q, h1⟩ := PostG.guard h1
      cases et : tb.lookup C with
      | none => rw [et] at h1; exact h1.elim
      | some F =>
        rw [et] at h1
        obtain ⟨f, G, hm⟩ := (ht C F et).ex
        refine getbound_ok I1 ea c hm (fld_none kk (Option.isNone_iff_eq_none.mp q)) fun q1 s2 hq1 I2 => ?_
        refine PySem.W.ks_call (P := PySem.W.MethP X.K q1 f (.ref a)) rfl (PySem.W.keeps_M hm.fi) (PySem.W.ks_lone ?_)
        have lq : Le ι1 H1 ι1 (upd H1 q1 (.met f a)) := Le.laid hq1
        have wq := w1.laid (o := .met f a) hq1
        have hA : PostG (VR X.K) X.K W σ ι1 (upd H1 q1 (.met f a)) Q ((E.bind fun d => fun ρ μ => match itemsD μ d with | some xs => F (.ref i :: xs) [] μ | none => none) ρ μ1) := by
          refine PostG.from lq ?_
          have e1 : ((aLone E).bind fun ds => aNil.bind fun es _ μ => F (.ref i :: ds) es μ) ρ μ1 = (E.bind fun d => fun ρ μ => match itemsD μ d with | some xs => F (.ref i :: xs) [] μ | none => none) ρ μ1 := by
            unfold aLone CM.bind aNil CM.ret
            cases E ρ μ1 with
            | none => rfl
            | some z =>
              obtain ⟨r, μ2⟩ := z
              cases r with
              | error x => rfl
              | ok d2 =>
                simp only []
                cases itemsD μ2 d2 <;> rfl
          rw [← e1]
          exact h1
        refine thn (ha.run pins s2 σ _ _ I2 (PostG.bind ((sr.mono l1).mono lq) wq hA)) ?_
        rintro v s3 ⟨y, H2, I3, ry, ι2, μ2, d2, l2, w2, v2, h2⟩
        have hmq : H2 q1 = some (.met f a) := l2.keep _ _ (w1.out hq1) upd_same
        cases ei : itemsD μ2 d2 with
        | none => simp only [ei] at h2; exact h2.elim
        | some xs =>
          simp only [ei] at h2
          obtain ⟨t, vs, rfl, rv, hsq⟩ := itemsD_sq w2 v2 ei
          obtain rfl : v = Value.ref t := ry
          refine StX.star_any I3 (hsq.elim .inr (fun z => .inl z.1)) fun us s4 I4 rus => ?_
          refine ⟨met_P I4 hmq, ?_⟩
          refine wpAny_call (PySem.W.method_call (met_P I4 hmq).1 (runV (us := Value.ref a :: us) (vs := V.ref a :: vs) (ds := .ref i :: xs) (ks := []) (ws := []) (zs := []) (es := []) G (hr.mono hjk) hG hW I4 (.cons rfl rus) .nil w2 (.cons (.ref (l2.pre _ _ hi)) rv) .nil h2 fun r s' q => ?_))
          cases r with
          | error z => exact passL pins σ H2 s4 z s' I4 q
          | ok fl =>
            cases fl with
            | ret u => exact I4.after q
            | next => exact q.elim
            | brk => exact q.elim
            | cont => exact q.elim
    | _ => exact h1.elim
  | _ => exact h1.elim
/-! ### new instances by their arguments -/
structure MkV (P : Program) (w : World) (K : PySem.W.Frag) (mg : Str → Option Value) (base : Heap) (k : Nat) (C : Str) (ks : List Str) (F : FV) : Prop where
  ex : ∃ f, FnV P w K mg base k f ks F ∧ L2.Mk K (He.ga K C) f ∧ mg C = some (.ref (He.ga K C)) ∧ Cls K (He.ga K C)
def mkV (C : Str) (F : FV) (ds es : List D) (μ : Store) : Res D := mkO C (fun ds μ => F ds es μ) ds μ
def eMkV (C : Str) (F : FV) (A B : CM (List D)) : CM D := A.bind fun ds => B.bind fun es _ μ => mkV C F ds es μ
theorem runMkV {C : Str} {F : FV} {pins : List (Addr × Obj)} {σ : L2.St} {H : Hp} {s : Shared} {Q : VK} {us ws : List Value} {vs zs : List V} {ι : List Addr} {μ : Store} {ds es : List D} (M : MkV X.prog X.w X.K X.mg X.base j C ks F) (hr : Room k X.A) (hjk : j + 1 ≤ k) (hG : X.A.guards = some []) (hW : ∀ x ι σ H, W x ι σ H → False)
    (I : Inv X pins σ H s) (r : Vals vs us) (rz : Vals zs ws) (wf : WF X.K ι μ H) (vr : VRs X.K ι H vs ds) (vz : VRs X.K ι H zs es) (h : PostG (VR X.K) X.K W σ ι H Q (mkV C F ds es μ)) : wpAny (model X.prog X.w) X.A (call (.ref (He.ga X.K C)) us (ks.zip ws)) (EP X pins σ Q) X.xe s := by
  obtain ⟨f, G, mk, hmg, cl⟩ := M.ex
  have hr := hr.mono hjk
  have n1 : H (s.heap.objs.size + 1) = none := I.hok.fresh (Nat.le_succ _)
  have n2 : H s.heap.objs.size = none := I.hok.fresh (Nat.le_refl _)
  have ne : s.heap.objs.size ≠ s.heap.objs.size + 1 := Nat.ne_of_lt (Nat.lt_succ_self _)
  have I2 := Inv.made (C := He.ga X.K C) I
  have nn : F (.ref μ.length :: ds) es (μ ++ [.obj C []]) ≠ none := fun z => by unfold mkV mkO at h; simp only [z] at h; exact h
  have l0 : Le ι H ι (upd H s.heap.objs.size (.own (s.heap.objs.size + 1))) := Le.laid n2
  have w0 := wf.laid (o := .own (s.heap.objs.size + 1)) n2
  have n1' : (upd H s.heap.objs.size (.own (s.heap.objs.size + 1))) (s.heap.objs.size + 1) = none := by rw [upd_ne (Ne.symm ne)]; exact n1
  have w2 : WF X.K (ι ++ [s.heap.objs.size + 1]) (μ ++ [.obj C []]) (upd (upd H s.heap.objs.size (.own (s.heap.objs.size + 1))) (s.heap.objs.size + 1) (.ins (He.ga X.K C) s.heap.objs.size [])) :=
    w0.cell n1' (u := .obj C []) ⟨_, [], upd_same, rfl, .nil, cl, fun f hf => by simp at hf⟩
  have l2 := l0.trans (Le.cell (o := .ins (He.ga X.K C) s.heap.objs.size []) n1')
  have hself : (ι ++ [s.heap.objs.size + 1])[μ.length]? = some (s.heap.objs.size + 1) := by rw [← wf.len]; simp
  have vv : VRs X.K (ι ++ [s.heap.objs.size + 1]) (upd (upd H s.heap.objs.size (.own (s.heap.objs.size + 1))) (s.heap.objs.size + 1) (.ins (He.ga X.K C) s.heap.objs.size [])) (V.ref (s.heap.objs.size + 1) :: vs) (.ref μ.length :: ds) := .cons (.ref hself) (vr.mono l2)
  have rr : Vals (V.ref (s.heap.objs.size + 1) :: vs) (Value.ref (s.heap.objs.size + 1) :: us) := .cons rfl r
  have post : PostF X.K noXR (ι ++ [s.heap.objs.size + 1]) (upd (upd H s.heap.objs.size (.own (s.heap.objs.size + 1))) (s.heap.objs.size + 1) (.ins (He.ga X.K C) s.heap.objs.size [])) (fun v H2 => v = .non ∧ Q (.ref (s.heap.objs.size + 1)) H2) E0 (F (.ref μ.length :: ds) es (μ ++ [.obj C []])) := by
    unfold mkV mkO at h
    simp only [] at h
    generalize F (.ref μ.length :: ds) es (μ ++ [.obj C []]) = z at h ⊢
    match z, h with
    | some (.ok .non, μ'), h =>
      intro ι' H' v l w vr
      cases vr
      exact ⟨rfl, h ι' H' _ (l2.trans l) w (.ref (l.pre _ _ hself))⟩
    | some (.error x, μ'), h => exact fun ι' H' c dd l w z => z.elim
  have lz : zs.length = ks.length := by rw [vz.length]; exact G.len _ _ _ nn
  refine wpAny_call (make_map (f := f) I.kIn mk.makes mk.init (beq_iff_eq.mp mk.fn) (codeAny_mono (G.go (hr.make (He.ga X.K C) us (ks.zip ws)) hG (I2.env0.make (He.ga X.K C) us (ks.zip ws)) rr rz lz w2 vv (vz.mono l2) post) fun r s' hq' => ?_))
  cases r with
  | error e => exact passL pins σ _ _ e s' I2 hq'
  | ok fl =>
    cases fl with
    | ret u =>
      obtain ⟨v, H', I3, rv, ev, q3⟩ := I2.after hq'
      subst ev
      exact ⟨rv, ⟨V.ref (s.heap.objs.size + 1), H', I3, rfl, q3⟩⟩
    | next => exact False.elim hq'
    | brk => exact False.elim hq'
    | cont => exact False.elim hq'
/-- C(e, .., k = v, ..) -/
theorem d_mkK {C : Str} {F : FV} (M : MkV X.prog X.w X.K X.mg X.base j C ks F) (hr : Room k X.A) (hjk : j + 1 ≤ k) (hG : X.A.guards = some []) (hg : Gl X C) (ha : PA X (e :: es) (tA X.K W As)) (hkw : PK X kws (tA X.K W Bs)) (hW : ∀ x ι σ H, W x ι σ H → False)
    (hall : (backToKw pos (keywordEach kws X.env)).all (·.1.isSome) = true := by rfl) (hks : (backToKw pos (keywordEach kws X.env)).filterMap (·.1) = ks := by rfl) (hdb : (C == ("__debug__" : Str)) = false := by decide)
    (hst : starEach (e :: es) X.env = (false, eval e X.env) :: starEach es X.env := by rfl) (hpl : ((backTo pos (starEach (e :: es) X.env)).any (·.1) || (backToKw pos (keywordEach kws X.env)).any (·.1.isNone)) = false := by rfl) :
    PE X (.Call (.Name C p) (e :: es) kws pos) (tE X.K W (eMkV C F As Bs)) := by
  refine ⟨fun pins s σ H Q I ⟨ρ, ι, μ, sr, wf, h⟩ => ?_⟩
  obtain ⟨f, G, mk, hmg, _⟩ := M.ex
  refine wpAny_Call_Name_kw (ld_glob I hg hmg ?_ hdb)
  refine PySem.W.callWith_KW (h₀ := X.base) I.ok.mod.kin mk.kp hall (thn (ha.run pos pins s σ H _ I (PostG.bind sr wf h)) ?_) hpl hst
  rintro us s1 ⟨vs, H1, I1, r, ι1, μ1, ds, l1, w1, v1, h1⟩
  refine thn (hkw.run pos pins s1 σ H1 _ I1 (PostG.bind (sr.mono l1) w1 h1)) ?_
  rintro ws s2 ⟨zs, H2, I2, rz, ι2, μ2, es', l2, w2, v2, h2⟩
  rw [hks]
  exact ⟨I2.kIn, runMkV M hr hjk hG hW I2 r rz w2 (v1.mono l2) v2 h2⟩
/-- C( *e, k = v, ..): the star is read behind the keywords -/
def eMkS (C : Str) (F : FV) (E : CM D) (B : CM (List D)) : CM D := E.bind fun d => B.bind fun es _ μ => match itemsD μ d with
  | some ds => mkV C F ds es μ
  | none => none
theorem d_mkS {C : Str} {F : FV} {p2 : Pos} (M : MkV X.prog X.w X.K X.mg X.base j C ks F) (hr : Room k X.A) (hjk : j + 1 ≤ k) (hG : X.A.guards = some []) (hg : Gl X C) (ha : PE X e (tE X.K W E)) (hkw : PK X kws (tA X.K W Bs)) (hW : ∀ x ι σ H, W x ι σ H → False)
    (hall : (backToKw pos (keywordEach kws X.env)).all (·.1.isSome) = true := by rfl) (hks : (backToKw pos (keywordEach kws X.env)).filterMap (·.1) = ks := by rfl) (hdb : (C == ("__debug__" : Str)) = false := by decide)
    (hst : starEach [.Starred e p2] X.env = [(true, eval e X.env)] := by rfl) :
    PE X (.Call (.Name C p) [.Starred e p2] kws pos) (tE X.K W (eMkS C F E Bs)) := by
  refine ⟨fun pins s σ H Q I ⟨ρ, ι, μ, sr, wf, h⟩ => ?_⟩
  obtain ⟨f, G, mk, hmg, _⟩ := M.ex
  refine wpAny_Call_Name_kw (ld_glob I hg hmg ?_ hdb)
  rw [hst]
  refine ks_callKw (P := fun h => X.K.In h) rfl (PySem.W.keeps_K mk.kp) (ks_loneKw hall ?_)
  refine thn (ha.run pins s σ H _ I (PostG.bind sr wf h)) ?_
  rintro v s1 ⟨y, H1, I1, ry, ι1, μ1, d, l1, w1, v1, h1⟩
  refine thn (hkw.run pos pins s1 σ H1 _ I1 (PostG.bind (sr.mono l1) w1 h1)) ?_
  rintro ws s2 ⟨zs, H2, I2, rz, ι2, μ2, es', l2, w2, v2, h2⟩
  cases ei : itemsD μ2 d with
  | none => simp only [ei] at h2; exact h2.elim
  | some xs =>
    simp only [ei] at h2
    obtain ⟨t, vs, rfl, rv, hsq⟩ := itemsD_sq w2 (v1.mono l2) ei
    obtain rfl : v = Value.ref t := ry
    refine StX.star_any I2 (hsq.elim .inr (fun z => .inl z.1)) fun us s3 I3 rus => ?_
    rw [hks]
    exact ⟨I3.kIn, runMkV M hr hjk hG hW I3 rus rz w2 rv v2 h2⟩
end
end DM

namespace DM
open PySem PySem.Spec L2
/-! ### the look at the head: defs at any place, properties, bound methods -/
structure DefX where
  ad : PySem.W.Frag → Addr
  d : He.DefD
def fnWX (K : PySem.W.Frag) (x : DefX) : He.FnW := match K.lookup (x.ad K) with
  | some ⟨_, _, .func fd, _⟩ => some (fd.name, fd.qualname, fd.params, fd.body, fd.scope, fd.globals, fd.closure, fd.builtins)
  | _ => none
def DefX.ok (K : PySem.W.Frag) (x : DefX) : Bool := PySem.W.keepIn K (.ref (x.ad K)) && (match K.lookup (x.ad K) with
  | some ⟨_, _, .func fd, _⟩ => PySem.W.codeIn K fd.code x.d.qual && (He.dflB K fd.defaults (x.d.dvs K) && He.kwdB K fd.kwdefaults (x.d.kws K))
  | _ => false)
theorem DefX.funD {K : PySem.W.Frag} {x : DefX} (e : fnWX K x = x.d.val) (c : x.ok K = true) : ∃ fd, FunD K x.d.name x.d.qual x.d.params x.d.body x.d.scope (x.d.dvs K) (x.d.kws K) (x.ad K) fd := by
  obtain ⟨kp, c2⟩ := andT c
  unfold fnWX at e
  cases q : K.lookup (x.ad K) with
  | none =>
    rw [q] at c2
    cases c2
  | some o =>
    obtain ⟨oc, od, dt, osl⟩ := o
    rw [q] at c2 e
    cases dt with
    | func fd =>
      obtain ⟨n1, n2, n3, n4, n5, n6, n7, n8, n9, n10, n11, n12, n13, n14, n15⟩ := fd
      have e2 : (some (n1, n2, n3, n4, n5, n6, n7, n15) : He.FnW) = some (x.d.name, x.d.qual, x.d.params, .stmts x.d.body, x.d.scope, mainGlobals, [], builtinsNs) := e
      simp only [Option.some.injEq, Prod.mk.injEq] at e2
      obtain ⟨h1, h2, h3, h4, h5, h6, h7, h8⟩ := e2
      subst h1 h2 h3 h4 h5 h6 h7 h8
      have c3 : (PySem.W.codeIn K n13 x.d.qual && (He.dflB K n8 (x.d.dvs K) && He.kwdB K n9 (x.d.kws K))) = true := c2
      obtain ⟨k1, k2⟩ := andT c3
      obtain ⟨k3, k4⟩ := andT k2
      exact ⟨_, ⟨oc, od, n8, n9, n10, n11, n12, n13, n14, osl, rfl, q, k1, He.dflB_ok k3, He.kwdB_ok k4⟩, kp⟩
    | _ => cases c2
/-- a bound method may be made -/
def bmB (C m : Str) (K : PySem.W.Frag) : Bool := He.eqO (PySem.W.specialIn K (.ref (He.ma K (He.ga K C) m)) "__get__") (some (some (.builtin "function.__get__"))) && (decide (PySem.W.takesIn K (.ref (He.ma K (He.ga K C) m)) = some false) && (!(PySem.W.copiedNames.contains m) && PySem.W.fnIn K (He.ma K (He.ga K C) m)))
theorem bmB_ok {C m : Str} {K : PySem.W.Frag} (h : bmB C m K = true) (hm : Meth K (He.ga K C) m (He.ma K (He.ga K C) m)) : BMeth K (He.ga K C) m (He.ma K (He.ga K C) m) := by
  obtain ⟨h1, h2⟩ := andT h
  obtain ⟨h3, h4⟩ := andT h2
  obtain ⟨h5, h6⟩ := andT h4
  exact ⟨hm, He.eqO_ok h1, of_decide_eq_true h3, by simpa using h5, h6⟩
/-- a property's getter -/
def pgA (C m : Str) (K : PySem.W.Frag) : Addr := match PySem.W.recIn K (He.ma K (He.ga K C) m) "property" with
  | some (.ref g :: _) => g
  | _ => 0
def prB (C m : Str) (K : PySem.W.Frag) : Bool := He.eqO (PySem.W.findIn K (.ref (He.ga K C)) m) (some (some (.ref (He.ma K (He.ga K C) m)))) && (He.eqO (PySem.W.specialIn K (.ref (He.ma K (He.ga K C) m)) "__get__") (some (some (.builtin "property.__get__"))) && (decide (PySem.W.takesIn K (.ref (He.ma K (He.ga K C) m)) = some true) && (match PySem.W.recIn K (He.ma K (He.ga K C) m) "property" with
  | some (.ref _ :: _) => true
  | _ => false)))
theorem prB_ok {C m : Str} {K : PySem.W.Frag} (h : prB C m K = true) : PropOf K (He.ga K C) m (He.ma K (He.ga K C) m) (pgA C m K) := by
  obtain ⟨h1, h2⟩ := andT h
  obtain ⟨h3, h4⟩ := andT h2
  obtain ⟨h5, h6⟩ := andT h4
  refine ⟨He.eqO_ok h1, He.eqO_ok h3, of_decide_eq_true h5, ?_⟩
  unfold pgA
  split at h6
  · rename_i g r e
    rw [e]
    exact ⟨r, rfl⟩
  · cases h6
abbrev AlX : Type := Bool × List He.FnW × He.AlD
def obsX (fa : List He.Fa) (fn : List He.DefD) (cs : List (Str × D)) (xf : List (PySem.W.Frag → Bool)) (xs : List DefX) (K : PySem.W.Frag) : AlX := (cs.all (conB K) && ((xf.all fun f => f K) && xs.all fun x => x.ok K), xs.map (fnWX K), He.obsD fa fn K)
def obsXG (n : Nat) (fa : List He.Fa) (fn : List He.DefD) (cs : List (Str × D)) (xf : List (PySem.W.Frag → Bool)) (xs : List DefX) (g : Addr → Option Obj) : AlX := obsX fa fn cs xf xs (He.frG g (He.asD g n))
def valX (xs : List DefX) : List He.FnW := xs.map fun x => x.d.val
structure SaysX (fa : List He.Fa) (fn : List He.DefD) (cs : List (Str × D)) (xf : List (PySem.W.Frag → Bool)) (xs : List DefX) (K : PySem.W.Frag) : Prop where
  c : He.SaysD fa fn K
  k : (cs.all (conB K) && ((xf.all fun f => f K) && xs.all fun x => x.ok K)) = true
  x : xs.map (fnWX K) = valX xs
def hookX (n : Nat) (fa : List He.Fa) (fn : List He.DefD) (cs : List (Str × D)) (xf : List (PySem.W.Frag → Bool)) (xs : List DefX) : PySem.W.Hook where
  α := AlX
  obs := fun s => obsXG n fa fn cs xf xs s.heap.get?
  val := fun _ => (true, valX xs, He.valD fn)
  says := fun _ h => ∃ K : PySem.W.Frag, K.In h ∧ SaysX fa fn cs xf xs K
  of := fun _ _ e => ⟨_, He.frG_in, congrArg (fun z : AlX => z.2.2) e, congrArg Prod.fst e, congrArg (fun z : AlX => z.2.1) e⟩
  keeps := fun _ _ _ ⟨K, hK, c⟩ k => ⟨K, PySem.W.Frag.In.keeps hK k, c⟩
theorem obsXG_eq {n : Nat} {fa : List He.Fa} {fn : List He.DefD} {cs : List (Str × D)} {xf : List (PySem.W.Frag → Bool)} {xs : List DefX} {g : Addr → Option Obj} {s : Shared} (h : ∀ a, g a = s.heap.get? a) : obsXG n fa fn cs xf xs g = (hookX n fa fn cs xf xs).obs s := by
  have e : g = s.heap.get? := funext h
  rw [e] <;> rfl
section
variable {fa : List He.Fa} {fn : List He.DefD} {cs : List (Str × D)} {xf : List (PySem.W.Frag → Bool)} {xs : List DefX} {K : PySem.W.Frag}
theorem SaysX.con (c : SaysX fa fn cs xf xs K) (i : Nat) {z : Str × D} (h : cs[i]? = some z := by rfl) : conB K z = true :=
  List.all_eq_true.mp (andT c.k).1 z (List.mem_of_getElem? h)
theorem SaysX.xfact (c : SaysX fa fn cs xf xs K) (i : Nat) {f : PySem.W.Frag → Bool} (h : xf[i]? = some f := by rfl) : f K = true :=
  List.all_eq_true.mp (andT (andT c.k).2).1 f (List.mem_of_getElem? h)
theorem SaysX.xdef (c : SaysX fa fn cs xf xs K) (i : Nat) {x : DefX} (h : xs[i]? = some x := by rfl) : ∃ fd, FunD K x.d.name x.d.qual x.d.params x.d.body x.d.scope (x.d.dvs K) (x.d.kws K) (x.ad K) fd := by
  have e2 : (xs.map (fnWX K))[i]? = (xs.map fun x => x.d.val)[i]? := by rw [c.x]; rfl
  rw [List.getElem?_map, List.getElem?_map, h] at e2
  exact DefX.funD (Option.some.inj e2) (List.all_eq_true.mp (andT (andT c.k).2).2 x (List.mem_of_getElem? h))
end
/-! ### by names, for the printed texts -/
section
variable {P : Program} {w : World} {K : PySem.W.Frag} {mg : Str → Option Value} {base : Heap}
/-- a method without stars and keywords, as one by its arguments -/
theorem MtV.ofG {C m : Str} {k n : Nat} {f : Addr} {fd : FuncData} {ps ks : List Str} {idx : List Nat} {F : FD} (G : FnG P w K mg base noXR k f fd ps F) (hb : ∀ (s : Shared) (us ws : List Value), us.length = n → ws.length = ks.length → BindsTo s fd ⟨us, ks.zip ws⟩ (ps.zip (pick idx (us ++ ws)))) (hlen : ∀ ds μ, F ds μ ≠ none → ds.length = ps.length) (hm : BMeth K (He.ga K C) m f) : MtV P w K mg base k C m ks (gV n ks.length idx F) := ⟨⟨f, FnV.ofG G hb hlen, hm⟩⟩
end
end DM

namespace DM
open PySem PySem.Spec L2
/-! ### closed stores: what a cell names is a cell -/
mutual
theorem noRef_le {n m : Nat} (l : n ≤ m) : ∀ {d : D}, noRef n d = true → noRef m d = true
  | .non, _ => rfl
  | .bl _, _ => rfl
  | .int _, _ => rfl
  | .str _, _ => rfl
  | .tup xs, h => by simp only [noRef] at h ⊢; exact noRefs_le l h
  | .lst xs, h => by simp only [noRef] at h ⊢; exact noRefs_le l h
  | .fl xs, h => by simp only [noRef] at h ⊢; exact noRefs_le l h
  | .ref i, h => by simp only [noRef, decide_eq_true_eq] at h ⊢; omega
theorem noRefs_le {n m : Nat} (l : n ≤ m) : ∀ {ds : List D}, noRefs n ds = true → noRefs m ds = true
  | [], _ => rfl
  | _ :: _, h => by
    simp only [noRefs, Bool.and_eq_true] at h ⊢
    exact ⟨noRef_le l h.1, noRefs_le l h.2⟩
end
theorem obOk_le {n m : Nat} {o : Ob} (l : n ≤ m) (h : obOk n o = true) : obOk m o = true := by
  cases o with
  | lst xs => exact noRefs_le l h
  | obj C fs => exact noRefs_le l (show noRefs n (fs.map (·.2)) = true from h)
  | dct kvs => exact noRefs_le l (show noRefs n (kvs.map (·.2)) = true from h)
  | dcl kvs => exact noRefs_le l (show noRefs n (kvs.map (·.2)) = true from h)
  | dtt kvs => exact noRefs_le l (show noRefs n (kvs.map (·.2)) = true from h)
def Clo (μ : Store) : Prop := ∀ o ∈ μ, obOk μ.length o = true
theorem Clo.nil : Clo [] := fun o h => by simp at h
theorem PureS.clo {μ : Store} (h : PureS μ) : Clo μ := fun o ho => obOk_mono (h o ho)
theorem Clo.set {μ : Store} (h : Clo μ) {i : Nat} {o : Ob} (ho : obOk μ.length o = true) : Clo (μ.set i o) := fun u hu => by
  rw [List.length_set]
  rcases List.mem_or_eq_of_mem_set hu with z | z
  · exact h u z
  · rw [z]; exact ho
theorem Clo.app {μ : Store} (h : Clo μ) {o : Ob} (ho : obOk (μ.length + 1) o = true) : Clo (μ ++ [o]) := fun u hu => by
  rw [List.length_append, List.length_singleton]
  rcases List.mem_append.mp hu with z | z
  · exact obOk_le (Nat.le_succ _) (h u z)
  · rw [List.mem_singleton.mp z]; exact ho
theorem Clo.at {μ : Store} (h : Clo μ) {i : Nat} {o : Ob} (e : μ[i]? = some o) : obOk μ.length o = true := h o (List.mem_of_getElem? e)
theorem clo_of {μ : Store} (h : ∀ (i : Nat) o, μ[i]? = some o → obOk μ.length o = true) : Clo μ := fun o ho => by
  obtain ⟨i, e⟩ := List.getElem?_of_mem ho
  exact h i o e
theorem Clo.fr {μ ν : Store} {p : Nat} (h : Clo μ) (f : Fr p μ ν) (ho : ∀ o, ν[p]? = some o → obOk ν.length o = true) : Clo ν := clo_of fun i o e => by
  by_cases z : i = p
  · subst z; exact ho o e
  · rw [f.eq i z] at e
    rw [f.len]
    exact h.at e
theorem Clo.all {μ : Store} (h : Clo μ) : μ.all (obOk μ.length) = true := List.all_eq_true.mpr h
theorem Pool.app {p : Nat} {c : Int} {μ : Store} {o : Ob} (h : Pool p c μ) : Pool p c (μ ++ [o]) := by
  obtain ⟨a, b, c0, e, q⟩ := h
  exact ⟨a, b, c0, by rw [List.getElem?_append_left (List.getElem?_eq_some_iff.mp e).1]; exact e, q⟩
theorem Pool.lt {p : Nat} {c : Int} {μ : Store} (h : Pool p c μ) : p < μ.length := by
  obtain ⟨a, b, c0, e, q⟩ := h
  exact (List.getElem?_eq_some_iff.mp e).1
theorem Pool.ob {p : Nat} {c : Int} {μ : Store} (h : Pool p c μ) (n : Nat) : ∀ o, μ[p]? = some o → obOk n o = true := by
  obtain ⟨a, b, c0, e, q⟩ := h
  intro o e'
  rw [e] at e'
  cases e'
  rfl
theorem Pool.mono {p : Nat} {c c' : Int} {μ : Store} (h : Pool p c μ) (l : c ≤ c') : Pool p c' μ := by
  obtain ⟨a, b, c0, e, q1, q2, q3, q4, q5⟩ := h
  exact ⟨a, b, c0, e, q1, q2, q3, q4, by omega⟩
theorem Pool.of {p : Nat} {c : Int} {μ ν : Store} (h : Pool p c μ) (e : ν[p]? = μ[p]?) : Pool p c ν := by
  obtain ⟨a, b, c0, e', q⟩ := h
  exact ⟨a, b, c0, e.trans e', q⟩
/-- the store as a law's own helpers find it -/
structure Wc (p : Nat) (c : Int) (μ : Store) : Prop where
  pool : Pool p c μ
  clo : Clo μ
theorem Wd.c {p : Nat} {c : Int} {μ : Store} (h : Wd p c μ) : Wc p c μ := ⟨h.pool, h.pure.clo⟩
theorem Wc.mono {p : Nat} {c c' : Int} {μ : Store} (h : Wc p c μ) (l : c ≤ c') : Wc p c' μ := ⟨h.pool.mono l, h.clo⟩
/-- of the cells of μ0 the pool alone has changed -/
structure Wz (μ0 : Store) (p : Nat) (c : Int) (μ : Store) : Prop where
  wd : Wc p c μ
  fr : Fr p μ0 μ
theorem Wc.z {p : Nat} {c : Int} {μ : Store} (h : Wc p c μ) : Wz μ p c μ := ⟨h, Fr.refl _ _⟩
theorem Wz.mono {μ0 μ : Store} {p : Nat} {c c' : Int} (h : Wz μ0 p c μ) (l : c ≤ c') : Wz μ0 p c' μ := ⟨h.wd.mono l, h.fr⟩
theorem Wz.from {μ0 μ1 μ : Store} {p : Nat} {c c1 : Int} (a : Wz μ0 p c1 μ1) (b : Wz μ1 p c μ) : Wz μ0 p c μ := ⟨b.wd, a.fr.trans b.fr⟩
local macro_rules | `(tactic| walk_at "q") => `(tactic| simp only [q_ok, q_okR, q_if, q_C, q_ret, q_var, q_at, q_e1, q_e2, q_call, q_callB, q_nil, q_cons, q_tup, q_lst, q_cel, q_ifexp, q_blAt, q_bOf, q_bTru, q_bAnd, q_bOr, q_bNot, q_vAnd, q_vOr, q_vNot, q_chain, q_pureS, at0, at1, at2, q_iseq, q_seqL, q_seqF, q_rg1, q_rg2, q_itup, q_tupAt,
  f_add, f_sub, f_mul, f_div, f_mod, f_pow, f_neg, f_cmp, f_abs, f_intI, f_intB, f_max, f_min, f_lenL, f_lenF, f_lenT, f_ixL, f_ixF, f_ixT, f_eqI, f_neI, f_eqB, f_neB, f_isB, f_isnotB, f_truB, f_truI, f_repr0, startR, List.map_cons, List.map_nil, List.length_cons, List.length_nil, List.cons_append, List.nil_append, List.append_nil, List.getElem?_cons_zero, List.getElem?_cons_succ, List.set_cons_zero, List.set_cons_succ, List.replicate_succ, List.replicate_zero, Nat.reduceAdd, Nat.reduceSub])
theorem f_lenS {x : Str} {μ : Store} (h : x.length ≤ sizeLine) : Flen [.str x] μ = okR (.int x.length) μ := by simp only [Flen, h, if_true]
theorem f_ixS {x : Str} {i : Int} {μ : Store} (h : x.length ≤ sizeLine) : Fix (.str x) (.int i) μ = pureR ((atI x.cps.toList i).map fun c => .str ⟨#[c]⟩) μ := by simp only [Fix, h, if_true]
theorem atI_in {α : Type} {xs : List α} {r : Int} (r0 : 0 ≤ r) (r1 : r < xs.length) : ∃ y, atI xs r = some y ∧ y ∈ xs := by
  have hr : r.toNat < xs.length := by omega
  refine ⟨xs[r.toNat], ?_, List.getElem_mem hr⟩
  unfold atI ixN
  rw [if_pos r0, if_pos r1]
  exact List.getElem?_eq_getElem hr
section
variable {F : FD} (hF : DrawP F) {μ0 μ : Store} {p : Nat} {c : Int}
include hF
theorem DrawP.z {n : Int} (h : Wz μ0 p c μ) (hc : c < 2 ^ 20) (h0 : 0 < n) (h1 : n < 2 ^ 200) : Ok (F [.ref p, .int n] μ) (fun d μ' => ∃ r, d = .int r ∧ 0 ≤ r ∧ r < n ∧ Wz μ0 p (c + 1) μ') :=
  (hF h.wd.pool hc h0 h1).mono fun _ _ ⟨r, a, b, e, w, x, y, z, e'⟩ => ⟨r, a, b, e, ⟨w, by rw [e']; exact h.wd.clo.set rfl⟩, by rw [e']; exact h.fr.trans Fr.set⟩
theorem DrawP.pick {xs : List D} (h : Wz μ0 p c μ) (hc : c < 2 ^ 20) (h0 : 0 < xs.length) (h1 : xs.length < 2 ^ 30) : Ok (pickF F [.ref p, .lst xs] μ) (fun d μ' => d ∈ xs ∧ Wz μ0 p (c + 1) μ') := by
  refine q_fn rfl ?_
  refine q_sret ?_
  walk_at "q"
  refine (hF.z h hc (n := xs.length) (by omega) (by omega)).mono ?_
  rintro d μ' ⟨r, rfl, r0, r1, x⟩
  simp only [f_ixL]
  obtain ⟨y, e, hm⟩ := atI_in r0 r1
  rw [e, q_pureS]
  exact ⟨hm, x⟩
theorem DrawP.pickT {xs : List D} (h : Wz μ0 p c μ) (hc : c < 2 ^ 20) (h0 : 0 < xs.length) (h1 : xs.length < 2 ^ 30) : Ok (pickF F [.ref p, .tup xs] μ) (fun d μ' => d ∈ xs ∧ Wz μ0 p (c + 1) μ') := by
  refine q_fn rfl ?_
  refine q_sret ?_
  walk_at "q"
  refine (hF.z h hc (n := xs.length) (by omega) (by omega)).mono ?_
  rintro d μ' ⟨r, rfl, r0, r1, x⟩
  simp only [f_ixT]
  obtain ⟨y, e, hm⟩ := atI_in r0 r1
  rw [e, q_pureS]
  exact ⟨hm, x⟩
theorem DrawP.pickS {x : Str} (h : Wz μ0 p c μ) (hc : c < 2 ^ 20) (h0 : 0 < x.length) (h1 : x.length < 1000) : Ok (pickF F [.ref p, .str x] μ) (fun d μ' => (∃ u ∈ x.cps.toList, d = .str ⟨#[u]⟩) ∧ Wz μ0 p (c + 1) μ') := by
  have hs : x.length ≤ sizeLine := size_ok (by omega)
  refine q_fn rfl ?_
  refine q_sret ?_
  walk_at "q"
  rw [f_lenS hs, q_okR]
  refine (hF.z h hc (n := x.length) (by omega) (by omega)).mono ?_
  rintro d μ' ⟨r, rfl, r0, r1, x'⟩
  rw [f_ixS hs]
  have hl : x.cps.toList.length = x.length := by simp [Str.length]
  obtain ⟨y, e, hm⟩ := atI_in (xs := x.cps.toList) r0 (by rw [hl]; exact r1)
  rw [e]
  exact ⟨⟨_, hm, rfl⟩, x'⟩
end
/-! ### running: objects, stars, dicts -/
def objAt (μ : Store) (o : D) (k : Nat → Str → List (Str × D) → Prop) : Prop := match o with
  | .ref i => match μ[i]? with
    | some (.obj C fs) => k i C fs
    | _ => False
  | _ => False
def lookF {α : Type} (tb : List (Str × α)) (C : Str) (k : α → Prop) : Prop := match tb.lookup C with
  | some F => k F
  | none => False
theorem objAt_ref {μ : Store} {i : Nat} {C : Str} {fs : List (Str × D)} {k : Nat → Str → List (Str × D) → Prop} (h : μ[i]? = some (.obj C fs)) : objAt μ (.ref i) k = k i C fs := by simp only [objAt, h]
theorem lookF_hit {α : Type} {C : Str} {F : α} {tb : List (Str × α)} {k : α → Prop} : lookF ((C, F) :: tb) C k = k F := by simp [lookF]
section
variable {ρ : Rho} {μ : Store} {Q : D → Store → Prop} {Qf : Fl → Store → Prop} {A O E I : CM D} {As Bs : CM (List D)} {R : List D → Store → Prop}
theorem q_pr {tb : List (Str × FD)} : Ok (ePr tb O ρ μ) Q = Ok (O ρ μ) (fun o μ1 => objAt μ1 o (fun i C _ => lookF tb C (fun F => Ok (F [.ref i] μ1) Q))) := by
  unfold ePr
  rw [Ok_bind]
  congr 1
  funext o μ1
  cases o with
  | ref i =>
    simp only [objAt]
    cases μ1[i]? with
    | none => rfl
    | some ob =>
      cases ob with
      | obj C fs =>
        simp only [lookF]
        cases tb.lookup C <;> rfl
      | _ => rfl
  | _ => rfl
theorem q_mtE {tb : List (Str × FD)} {m : Str} : Ok (eMt tb m O As ρ μ) Q = Ok (O ρ μ) (fun o μ1 => objAt μ1 o (fun i C fs => (fs.lookup m).isNone = true ∧ lookF tb C (fun F => Ok (As ρ μ1) (fun ds μ2 => Ok (F (.ref i :: ds) μ2) Q)))) := by
  unfold eMt
  rw [Ok_bind]
  congr 1
  funext o μ1
  cases o with
  | ref i =>
    simp only [objAt]
    cases μ1[i]? with
    | none => rfl
    | some ob =>
      cases ob with
      | obj C fs =>
        simp only [q_if, lookF]
        congr 1
        cases tb.lookup C with
        | none => rfl
        | some F => exact Ok_bind
      | _ => rfl
  | _ => rfl
theorem q_mtV {tb : List (Str × FV)} {m : Str} : Ok (eMtV tb m O As Bs ρ μ) Q = Ok (O ρ μ) (fun o μ1 => objAt μ1 o (fun i C fs => (fs.lookup m).isNone = true ∧ lookF tb C (fun F => Ok (As ρ μ1) (fun ds μ2 => Ok (Bs ρ μ2) (fun es μ3 => Ok (F (.ref i :: ds) es μ3) Q))))) := by
  unfold eMtV
  rw [Ok_bind]
  congr 1
  funext o μ1
  cases o with
  | ref i =>
    simp only [objAt]
    cases μ1[i]? with
    | none => rfl
    | some ob =>
      cases ob with
      | obj C fs =>
        simp only [q_if, lookF]
        congr 1
        cases tb.lookup C with
        | none => rfl
        | some F => rw [Ok_bind]; simp only [Ok_bind]
      | _ => rfl
  | _ => rfl
theorem q_lone : Ok (aLone E ρ μ) R = Ok (E ρ μ) (fun d μ1 => starAt (itemsD μ1 d) (fun xs => R xs μ1)) := by
  unfold aLone
  rw [Ok_bind]
  congr 1
  funext d μ1
  cases itemsD μ1 d <;> rfl
theorem q_gV {n nk : Nat} {idx : List Nat} {F : FD} {ds es : List D} : Ok (gV n nk idx F ds es μ) Q = ((ds.length = n ∧ es.length = nk) ∧ Ok (F (pick idx (ds ++ es)) μ) Q) := by unfold gV; rw [q_if]
theorem q_fnV {np nk : Nat} {idx : List Nat} {F : FD} {ds es : List D} : Ok (fnV np nk idx F ds es μ) Q = (((np ≤ ds.length ∧ ds.length ≤ sizeLine) ∧ es.length = nk) ∧ Ok (F (ds.take np ++ (pick idx es ++ [.tup (ds.drop np)])) μ) Q) := by unfold fnV; rw [q_if]
theorem q_sealV {F : FV} {ds es : List D} (h : Ok (F ds es μ) (fun d μ' => (μ'.take μ.length).all (obOk μ.length) = true ∧ ∃ d', unref μ.length μ' 4 d = some d' ∧ Q d' (μ'.take μ.length))) : Ok (sealV F ds es μ) Q := seal_okG h
theorem q_fsealG {F : FD} {ds : List D} (h : Ok (F ds μ) (fun d μ' => (μ'.take μ.length).all (obOk μ.length) = true ∧ ∃ d', unref μ.length μ' 4 d = some d' ∧ Q d' (μ'.take μ.length))) : Ok (fnSeal F ds μ) Q := seal_okG h
theorem q_mkO {C : Str} {F : FD} {ds : List D} : Ok (mkO C F ds μ) Q = Ok (F (.ref μ.length :: ds) (μ ++ [.obj C []])) (fun d μ2 => d = .non ∧ Q (.ref μ.length) μ2) := by
  unfold mkO
  generalize F (.ref μ.length :: ds) (μ ++ [.obj C []]) = r
  match r with
  | none => rfl
  | some (.error x, μ') => rfl
  | some (.ok d, μ') =>
    cases d with
    | non => simp [Ok]
    | _ => simp [Ok]
theorem q_mkV {C : Str} {F : FV} : Ok (eMkV C F As Bs ρ μ) Q = Ok (As ρ μ) (fun ds μ1 => Ok (Bs ρ μ1) (fun es μ2 => Ok (F (.ref μ2.length :: ds) es (μ2 ++ [.obj C []])) (fun d μ3 => d = .non ∧ Q (.ref μ2.length) μ3))) := by
  unfold eMkV
  rw [Ok_bind]
  simp only [Ok_bind]
  unfold mkV
  simp only [q_mkO]
theorem q_mkS {C : Str} {F : FV} : Ok (eMkS C F E Bs ρ μ) Q = Ok (E ρ μ) (fun d μ1 => Ok (Bs ρ μ1) (fun es μ2 => starAt (itemsD μ2 d) (fun ds => Ok (F (.ref μ2.length :: ds) es (μ2 ++ [.obj C []])) (fun d μ3 => d = .non ∧ Q (.ref μ2.length) μ3)))) := by
  unfold eMkS
  rw [Ok_bind]
  simp only [Ok_bind]
  congr 1
  funext d μ1
  congr 1
  funext es μ2
  cases itemsD μ2 d with
  | none => rfl
  | some ds =>
    simp only [starAt]
    unfold mkV
    rw [q_mkO]
theorem f_itL {xs : List D} : itemsD μ (.lst xs) = some xs := rfl
theorem f_dgetD {c : Nat} {s : Str} {kvs : List (Key × D)} (h : μ[c]? = some (.dct kvs)) : FdGet (.ref c) (.str s) μ = pureR (valD kvs (.inr s)) μ := by
  simp only [FdGet, dctAt, h, keyD]
theorem f_dgetL {c : Nat} {s : Str} {kvs : List (Key × D)} (h : μ[c]? = some (.dcl kvs)) : FdGet (.ref c) (.str s) μ = pureR (valD kvs (.inr s)) μ := by
  simp only [FdGet, dctAt, h, keyD]
theorem f_dinD {c : Nat} {s : Str} {kvs : List (Key × D)} {neg : Bool} (h : μ[c]? = some (.dct kvs)) : FdIn neg (.str s) (.ref c) μ = okR (.bl (if neg then !(valD kvs (.inr s)).isSome else (valD kvs (.inr s)).isSome)) μ := by
  simp only [FdIn, dctAt, h, keyD]
theorem f_dinL {c : Nat} {s : Str} {kvs : List (Key × D)} {neg : Bool} (h : μ[c]? = some (.dcl kvs)) : FdIn neg (.str s) (.ref c) μ = okR (.bl (if neg then !(valD kvs (.inr s)).isSome else (valD kvs (.inr s)).isSome)) μ := by
  simp only [FdIn, dctAt, h, keyD]
/-- d[k] = v -/
def dputAt (μ : Store) (o i v : D) (k : Store → Prop) : Prop := match FdPut o i v μ with
  | some μ' => k μ'
  | none => False
theorem q_tDSubG {v : D} (h : Ok (O ρ μ) (fun o μ1 => Ok (I ρ μ1) (fun i μ2 => dputAt μ2 o i v (fun μ3 => Qf (.nx ρ) μ3)))) : OkS (tDSub O I v ρ μ) Qf := by
  unfold tDSub
  refine OkS_lft (h.mono fun o μ1 h => OkS_lft (h.mono fun i μ2 h => ?_))
  unfold dputAt at h
  generalize FdPut o i v μ2 = r at h ⊢
  cases r with
  | none => exact h
  | some μ3 => exact h
theorem dputAt_ref {c : Nat} {s : Str} {kvs : List (Key × D)} {v : D} {k : Store → Prop} (h : μ[c]? = some (.dct kvs)) (hl : kvs.length < sizeLine) : dputAt μ (.ref c) (.str s) v k = k (μ.set c (.dct (putKD kvs (.inr s) v))) := by
  simp only [dputAt, FdPut, dctW, h, keyD, hl, if_true]
/-- for x in d -/
def unlkQ (c : Nat) (Qf : Fl → Store → Prop) : Fl → Store → Prop := fun f μ => match f with
  | .ex _ _ => False
  | f => ∃ kvs, μ[c]? = some (.dcl kvs) ∧ Qf f (μ.set c (.dct kvs))
theorem q_forK {g : D → Rho → Option Rho} {S : SF} {c : Nat} {kvs : List (Key × D)} {μ0 : Store} (hE : E ρ μ = some (.ok (.ref c), μ0)) (hc : μ[c]? = some (.dct kvs)) (h : OkS (sFor (iKeysL E) g S ρ (μ.set c (.dcl kvs))) (unlkQ c Qf)) : OkS (sForK E g S ρ μ) Qf := by
  unfold sForK
  simp only [hE, hc]
  generalize sFor (iKeysL E) g S ρ (μ.set c (.dcl kvs)) = r at h ⊢
  match r, h with
  | some (.nx _, μ'), ⟨kvs', e, q⟩ => simp only [unlk, e]; exact q
  | some (.rt _, μ'), ⟨kvs', e, q⟩ => simp only [unlk, e]; exact q
  | some (.bk _, μ'), ⟨kvs', e, q⟩ => simp only [unlk, e]; exact q
  | some (.ct _, μ'), ⟨kvs', e, q⟩ => simp only [unlk, e]; exact q
theorem q_keysL {Qi : IV → Store → Prop} {c : Nat} {kvs : List (Key × D)} (h : Ok (E ρ μ) (fun d μ1 => d = .ref c ∧ μ1[c]? = some (.dcl kvs) ∧ Qi (kvs.map (fun kv => keyOf kv.1), anyG) μ1)) : Ok (iKeysL E ρ μ) Qi := by
  unfold iKeysL
  rw [Ok_bind]
  refine h.mono ?_
  rintro d μ1 ⟨rfl, e, q⟩
  simp only [e]
  exact q
/-- a try that runs through -/
def noExQ (Qf : Fl → Store → Prop) : Fl → Store → Prop := fun f μ => match f with
  | .ex _ _ => False
  | f => Qf f μ
theorem q_noEx {S : SF} (h : OkS (S ρ μ) (noExQ Qf)) : OkS (noExS S ρ μ) Qf := by
  unfold noExS
  generalize S ρ μ = r at h ⊢
  match r, h with
  | some (.nx _, _), h => exact h
  | some (.rt _, _), h => exact h
  | some (.bk _, _), h => exact h
  | some (.ct _, _), h => exact h
theorem q_noExN {ρ' : Rho} : noExQ Qf (.nx ρ') μ = Qf (.nx ρ') μ := rfl
theorem q_asg2 {F G : D → SF} (h : Ok (E ρ μ) (fun d μ1 => OkS (F d ρ μ1) (onlyN (contS (tgOnly (G d)) Qf)))) : OkS (sAsg2 E F G ρ μ) Qf := by
  unfold sAsg2
  refine OkS_lft (h.mono fun d μ1 h => ?_)
  rw [q_seq]
  unfold tgOnly
  generalize F d ρ μ1 = r at h ⊢
  match r, h with
  | some (.nx ρ', μ'), h => exact h
theorem q_tgOnly {S : SF} (h : OkS (S ρ μ) (onlyN Qf)) : OkS (tgOnly S ρ μ) Qf := by
  unfold tgOnly
  generalize S ρ μ = r at h ⊢
  match r, h with
  | some (.nx ρ', μ'), h => exact h
theorem q_tStar {G : List D → SF} {x : D} {xs : List D} : OkS (tStar G (.tup (x :: xs)) ρ μ) Qf = OkS (G [x, .lst xs] ρ μ) Qf := rfl
def seqP (o : Option (List D × (Store → Bool))) (k : List D → (Store → Bool) → Prop) : Prop := match o with
  | some (xs, g) => k xs g
  | none => False
theorem q_enum {Qi : IV → Store → Prop} : Ok (iEnum (aCons A aNil) ρ μ) Qi = Ok (A ρ μ) (fun d μ1 => seqP (seqD μ1 d) (fun xs g => Qi (enumD xs, g) μ1)) := by
  unfold iEnum
  rw [Ok_bind, q_cons]
  simp only [q_nil]
  congr 1
  funext d μ1
  cases seqD μ1 d with
  | none => rfl
  | some z => rfl
theorem q_join {Q : D → Store → Prop} {a : Str} : Ok (eJoin (eC (.str a)) I ρ μ) Q = Ok (I ρ μ) (fun d μ1 => Ok (joinF (.str a) d μ1) Q) := by
  unfold eJoin
  rw [Ok_bind, q_C]
  rw [if_pos (show isStrD (D.str a) = true from rfl), Ok_bind]
theorem f_dictD {c : Nat} {kvs : List (Key × D)} (h : μ[c]? = some (.dct kvs)) : Fdict [.ref c] μ = okR (.ref μ.length) (μ ++ [.dct kvs]) := by simp only [Fdict, dctAt, h]
theorem f_dictP {xs : List D} {kvs : List (Key × D)} (h : pairsD xs = some kvs) : Fdict [.lst xs] μ = okR (.ref μ.length) (μ ++ [.dct (mergeKD [] kvs)]) := by simp only [Fdict, dctAt, h]
theorem f_sortD {c : Nat} {kvs : List (Key × D)} {ks : List Str} (h : μ[c]? = some (.dct kvs)) (hk : strKeys kvs = some ks) (hl : ks.length < 64) : Fsorted [.ref c] μ = okR (.lst ((sortS ks).map D.str)) μ := by simp only [Fsorted, dctAt, h, hk, hl, if_true]
end
end DM

namespace DM
open PySem PySem.Spec L2
/-! ### comprehensions in closed stores -/
section
variable {α : Type} {ρ : Rho} {μ : Store} {Q : D → Store → Prop} {T : CM Bool}
theorem q_lcG {I : CM IV} {g : D → Rho → Option Rho} {E : CM D} {own : List Nat} (h : Ok (I ρ μ) (fun q μ1 => Ok (lcLoop q.2 g T E μ1.length q.1 (wipeR ρ own) (μ1 ++ [.lst []])) (fun d μ' => (μ'.take μ.length).all (obOk μ.length) = true ∧ ∃ d', unref μ.length μ' 4 d = some d' ∧ Q d' (μ'.take μ.length)))) : Ok (eSeal (eLC I g T E own) ρ μ) Q := by
  refine seal_okG ?_
  unfold eLC
  rw [Ok_bind]
  exact h
/-- the list of a comprehension that leaves the store as it is -/
theorem q_lcmC {I : CM IV} {g : D → Rho → Option Rho} {E : CM D} {own : List Nat} (emb : α → D) (t : α → Bool) (f : α → D) (items : List α) (hp : Clo μ) (hlen : items.length ≤ 1000000)
    (hI : Ok (I ρ μ) (fun q μ1 => μ1 = μ ∧ q.1 = items.map emb ∧ ∀ o, q.2 (μ ++ [o]) = true))
    (hs : ∀ x o, x ∈ items → obOk 0 o = true → ∃ ρ1, g (emb x) (wipeR ρ own) = some ρ1 ∧ Ok (T ρ1 (μ ++ [o])) (fun b μ2 => μ2 = μ ++ [o] ∧ b = t x) ∧ (t x = true → Ok (E ρ1 (μ ++ [o])) (fun y μ2 => μ2 = μ ++ [o] ∧ y = f x ∧ noRef 0 (f x) = true)))
    (q : Q (.lst ((items.filter t).map f)) μ) : Ok (eSeal (eLC I g T E own) ρ μ) Q := by
  refine q_lcG (hI.mono ?_)
  rintro ⟨xs, gd⟩ μ1 ⟨rfl, rfl, hgd⟩
  refine lc_ok (acc := []) (fun i acc μ' => μ' = μ1 ++ [.lst acc] ∧ acc = ((items.take i).filter t).map f ∧ noRefs 0 acc = true ∧ acc.length ≤ i) (fun i acc μ' h => by rw [h.1]; exact hgd _) ?_ ?_ ⟨rfl, by simp, rfl, by simp⟩
  · rintro i d acc μ' ed ⟨rfl, ha, hr, hl⟩
    have hil : i < items.length := by
      have := (List.getElem?_eq_some_iff.mp ed).1
      simpa using this
    rw [List.getElem?_map] at ed
    rw [List.getElem?_eq_getElem hil] at ed
    cases ed
    obtain ⟨ρ1, eg, h1, h2⟩ := hs items[i] (.lst acc) (List.getElem_mem hil) hr
    refine ⟨ρ1, eg, h1.mono ?_⟩
    rintro b μ2 ⟨rfl, rfl⟩
    have tk : items.take (i + 1) = items.take i ++ [items[i]] := by simp
    refine ⟨fun hb => (h2 hb).mono ?_, fun hb => ⟨rfl, ?_, hr, by omega⟩⟩
    · rintro y μ2 ⟨rfl, rfl, hy⟩
      refine ⟨by simp, ?_, ?_, ?_, ?_, ?_⟩
      · exact Nat.lt_of_le_of_lt hl (Nat.lt_of_lt_of_le hil (size_ok hlen))
      · rw [List.set_append_right _ _ (by omega)]; simp
      · rw [tk, List.filter_append, List.map_append, ← ha]
        congr 1
        rw [List.filter_cons, if_pos hb]
        rfl
      · exact noRefs_all.mpr fun d hd => by
          rcases List.mem_append.mp hd with h | h
          · exact noRefs_all.mp hr d h
          · rw [List.mem_singleton.mp h]; exact hy
      · simp; omega
    · rw [tk, List.filter_append, List.map_append, ← ha, List.filter_cons, if_neg (by simp [hb])]
      simp
  · rintro acc μ' ⟨rfl, ha, hr, hl⟩
    have e : (List.take (items.map emb).length items) = items := by simp
    rw [e] at ha
    subst ha
    have tk : (μ1 ++ [Ob.lst ((items.filter t).map f)]).take μ1.length = μ1 := by simp
    rw [tk]
    exact ⟨hp.all, _, unref_cell (by simp) (Nat.le_refl _) hr, q⟩
/-- a comprehension whose elements touch the cell p alone -/
theorem q_lcpC {I : CM IV} {g : D → Rho → Option Rho} {E : CM D} {own : List Nat} {items : List D} {p : Nat} (J : Nat → Store → Prop) (R : Nat → D → Prop) (hJ : ∀ i (ν : Store) o, ν.length = μ.length → J i ν → J i (ν ++ [o])) (hJ' : ∀ i (ν : Store) o, ν.length = μ.length → J i (ν ++ [o]) → J i ν) (hp : p < μ.length) (hpu : Clo μ) (hlen : items.length ≤ 1000) (h0 : J 0 μ)
    (hI : Ok (I ρ μ) (fun q μ1 => μ1 = μ ∧ q = (items, anyG)))
    (hs : ∀ (i : Nat) d (μ' : Store), items[i]? = some d → μ'.length = μ.length + 1 → Clo μ' → J i μ' → ∃ ρ1, g d (wipeR ρ own) = some ρ1 ∧ Ok (E ρ1 μ') (fun y μ2 => R i y ∧ noRef 0 y = true ∧ Fr p μ' μ2 ∧ (∀ o, μ2[p]? = some o → obOk 0 o = true) ∧ J (i + 1) μ2))
    (hQ : ∀ ys μ', ys.length = items.length → (∀ (i : Nat) y, ys[i]? = some y → R i y) → Clo μ' → Fr p μ μ' → J items.length μ' → Q (.lst ys) μ') : Ok (eSeal (eLC I g bYes E own) ρ μ) Q := by
  refine q_lcG (hI.mono ?_)
  rintro q μ1 ⟨rfl, rfl⟩
  refine lc_ok (acc := []) (fun i acc μ' => ∃ ν : Store, μ' = ν ++ [.lst acc] ∧ ν.length = μ1.length ∧ Fr p μ1 ν ∧ Clo ν ∧ J i ν ∧ acc.length = i ∧ ∀ (k : Nat) y, acc[k]? = some y → R k y ∧ noRef 0 y = true) (fun _ _ _ _ => rfl) ?_ ?_ ⟨μ1, rfl, rfl, Fr.refl _ _, hpu, h0, rfl, fun k y e => by simp at e⟩
  · rintro i d acc μ' ed ⟨ν, rfl, hl, hf, hpν, hJν, ha, hR⟩
    have hpa : noRefs 0 acc = true := noRefs_all.mpr fun y hy => by
      obtain ⟨k, hk⟩ := List.getElem?_of_mem hy
      exact (hR k y hk).2
    obtain ⟨ρ1, eg, h1⟩ := hs i d (ν ++ [.lst acc]) ed (by simp [hl]) (hpν.app (o := Ob.lst acc) (noRefs_mono hpa)) (hJ _ _ _ hl hJν)
    refine ⟨ρ1, eg, ?_⟩
    show (true = true → _) ∧ _
    refine ⟨fun _ => h1.mono fun y μ2 ⟨hy, hyp, hf2, hp2, hJ2⟩ => ?_, fun z => by cases z⟩
    have l2 : μ2.length = μ1.length + 1 := by rw [hf2.len]; simp [hl]
    have c2 : μ2[μ1.length]? = some (.lst acc) := by
      rw [hf2.eq μ1.length (by omega), ← hl]
      simp
    have hil : i < items.length := (List.getElem?_eq_some_iff.mp ed).1
    have e2 := take_last l2 c2
    have tl : (μ2.take μ1.length).length = μ1.length := by rw [List.length_take]; omega
    have ft : Fr p μ1 (μ2.take μ1.length) := by
      refine ⟨tl, fun j hj => ?_⟩
      by_cases hjn : j < μ1.length
      · rw [List.getElem?_take_of_lt hjn, hf2.eq j hj, List.getElem?_append_left (by omega), hf.eq j hj]
      · rw [List.getElem?_eq_none (by omega), List.getElem?_eq_none (by omega)]
    refine ⟨c2, by rw [ha]; exact small1000 (by omega), μ2.take μ1.length, ?_, tl, ft, hpu.fr ft (fun o e => obOk_mono (hp2 o (by rw [List.getElem?_take_of_lt hp] at e; exact e))), hJ' _ _ (.lst acc) tl (by rw [← e2]; exact hJ2), by simp [ha], fun k z ez => ?_⟩
    · rw [e2, List.set_append_right _ _ (by omega), tl]
      simp [tl]
    · by_cases hk : k < acc.length
      · rw [List.getElem?_append_left hk] at ez
        exact hR k z ez
      · have hk2 : k = acc.length := by
          have := (List.getElem?_eq_some_iff.mp ez).1
          simp at this; omega
        subst hk2
        simp at ez
        subst ez
        rw [ha]
        exact ⟨hy, hyp⟩
  · rintro acc μ' ⟨ν, rfl, hl, hf, hpν, hJν, ha, hR⟩
    have hpa : noRefs 0 acc = true := noRefs_all.mpr fun y hy => by
      obtain ⟨k, hk⟩ := List.getElem?_of_mem hy
      exact (hR k y hk).2
    have tk : (ν ++ [Ob.lst acc]).take μ1.length = ν := by rw [← hl]; simp
    rw [tk]
    refine ⟨by rw [← hl]; exact hpν.all, _, unref_cell (ds := acc) (by rw [← hl]; simp) (Nat.le_refl _) hpa, hQ acc ν ha (fun i y e => (hR i y e).1) hpν hf hJν⟩
end
/-! ### dicts with text keys -/
def kvS (l : List (Str × D)) : List (Key × D) := l.map fun q => (.inr q.1, q.2)
theorem kvS_len {l : List (Str × D)} : (kvS l).length = l.length := by simp [kvS]
theorem strKeys_kvS : ∀ {l : List (Str × D)}, strKeys (kvS l) = some (l.map (·.1))
  | [] => rfl
  | (s, v) :: r => by
    show (strKeys (kvS r)).map (s :: ·) = _
    rw [strKeys_kvS (l := r)]
    rfl
theorem valD_kvS {s : Str} : ∀ {l : List (Str × D)}, valD (kvS l) (.inr s) = l.lookup s
  | [] => rfl
  | (t, v) :: r => by
    unfold valD kvS
    rw [List.map_cons, List.find?_cons, List.lookup_cons]
    by_cases h : t = s
    · subst h
      simp
    · have h' : (s == t) = false := by simpa using Ne.symm h
      have h2 : decide ((Sum.inr t : Key) = Sum.inr s) = false := by simpa using h
      simp only [h2, h']
      exact valD_kvS (l := r)
theorem putKD_kvS {s : Str} {v : D} {l : List (Str × D)} (h : s ∈ l.map (·.1)) : putKD (kvS l) (.inr s) v = kvS (l.map fun q => if q.1 = s then (q.1, v) else q) := by
  unfold putKD
  have ha : ((kvS l).any fun kv => decide (kv.1 = Sum.inr s)) = true := by
    obtain ⟨q, hq, e⟩ := List.mem_map.mp h
    exact List.any_eq_true.mpr ⟨(.inr q.1, q.2), List.mem_map.mpr ⟨q, hq, rfl⟩, by simp [e]⟩
  rw [if_pos ha]
  unfold kvS
  rw [List.map_map, List.map_map]
  refine List.map_congr_left fun q _ => ?_
  show (if (Sum.inr q.1 : Key) = Sum.inr s then ((Sum.inr q.1 : Key), v) else (Sum.inr q.1, q.2)) = _
  by_cases e : q.1 = s
  · simp [e]
  · simp [e]
theorem putKD_new {s : Str} {v : D} {l : List (Str × D)} (h : s ∉ l.map (·.1)) : putKD (kvS l) (.inr s) v = kvS (l ++ [(s, v)]) := by
  unfold putKD
  have ha : ¬ ((kvS l).any fun kv => decide (kv.1 = Sum.inr s)) = true := by
    intro z
    obtain ⟨kv, hk, e⟩ := List.any_eq_true.mp z
    obtain ⟨q, hq, rfl⟩ := List.mem_map.mp hk
    exact h (List.mem_map.mpr ⟨q, hq, by simpa using e⟩)
  rw [if_neg ha]
  simp [kvS]
theorem merge_kvS {l m : List (Str × D)} (h : ((l ++ m).map (·.1)).Nodup) : mergeKD (kvS l) (kvS m) = kvS (l ++ m) := by
  induction m generalizing l with
  | nil => simp [mergeKD, kvS]
  | cons q m ih =>
    have e : mergeKD (kvS l) (kvS (q :: m)) = mergeKD (putKD (kvS l) (.inr q.1) q.2) (kvS m) := rfl
    have hn : q.1 ∉ l.map (·.1) := by
      intro z
      rw [List.map_append, List.map_cons, List.nodup_append] at h
      exact h.2.2 q.1 z q.1 List.mem_cons_self rfl
    rw [e, putKD_new hn, ih (by simpa [List.append_assoc] using h)]
    simp
theorem pairs_kvS : ∀ {l : List (Str × D)}, pairsD (l.map fun q => .tup [.str q.1, q.2]) = some (kvS l)
  | [] => rfl
  | (s, v) :: r => by
    rw [List.map_cons]
    unfold pairsD
    simp only [keyD, pairs_kvS (l := r)]
    rfl
theorem kvS_ok {n : Nat} {l : List (Str × D)} (h : ∀ q ∈ l, noRef n q.2 = true) : obOk n (.dct (kvS l)) = true := by
  show noRefs n ((kvS l).map (·.2)) = true
  refine noRefs_all.mpr fun d hd => ?_
  unfold kvS at hd
  rw [List.map_map] at hd
  obtain ⟨q, hq, rfl⟩ := List.mem_map.mp hd
  exact h q hq
/-- {name: val for name in names} -/
theorem q_dcC {ρ : Rho} {μ : Store} {Q : D → Store → Prop} {I : CM IV} {A B : CM D} {own : List Nat} {k : Nat} (names : List Str) (val : Str → D) (hnd : names.Nodup) (hlen : names.length ≤ 1000)
    (hI : Ok (I ρ μ) (fun q μ1 => μ1 = μ ∧ q = (names.map D.str, anyG)))
    (hA : ∀ n (ν : Store), Ok (A ((wipeR ρ own).set k (some (.str n))) ν) (fun y ν' => y = .str n ∧ ν' = ν)) (hB : ∀ n (ν : Store), Ok (B ((wipeR ρ own).set k (some (.str n))) ν) (fun y ν' => y = val n ∧ ν' = ν))
    (hQ : Q (.ref μ.length) (μ ++ [.dct (kvS (names.map fun n => (n, val n)))])) : Ok (eDC I (fName k) bYes A B own ρ μ) Q := by
  unfold eDC
  rw [Ok_bind]
  refine hI.mono ?_
  rintro q μ1 ⟨rfl, rfl⟩
  have key : ∀ (r done : List Str), done ++ r = names → Ok (dcLoop anyG (fName k) bYes A B μ1.length (r.map D.str) (wipeR ρ own) (μ1 ++ [.dct (kvS (done.map fun n => (n, val n)))])) Q := by
    intro r
    induction r with
    | nil =>
      intro done e
      rw [List.append_nil] at e
      subst e
      unfold dcLoop
      simp only [List.map_nil]
      exact hQ
    | cons n r ih =>
      intro done e
      have hn : n ∉ done := by
        intro z
        rw [← e, List.nodup_append] at hnd
        exact hnd.2.2 n z n List.mem_cons_self rfl
      have hl : done.length < sizeLine := by
        have : done.length + (r.length + 1) = names.length := by rw [← e]; simp
        exact small1000 (by omega)
      obtain ⟨y, ν1, e1, rfl, rfl⟩ := (hA n (μ1 ++ [.dct (kvS (done.map fun n => (n, val n)))])).get
      obtain ⟨z, ν2, e2, rfl, rfl⟩ := (hB n (μ1 ++ [.dct (kvS (done.map fun n => (n, val n)))])).get
      rw [List.map_cons]
      unfold dcLoop
      have ht : bYes ((wipeR ρ own).set k (some (.str n))) (μ1 ++ [.dct (kvS (done.map fun n => (n, val n)))]) = some (.ok true, μ1 ++ [.dct (kvS (done.map fun n => (n, val n)))]) := rfl
      have hc : (μ1 ++ [Ob.dct (kvS (done.map fun n => (n, val n)))])[μ1.length]? = some (.dct (kvS (done.map fun n => (n, val n)))) := by simp
      simp only [fName, ht, e1, e2, hc, keyD]
      rw [if_pos (show anyG _ = true from rfl), if_pos (by rw [kvS_len]; simpa using hl)]
      have hs : (μ1 ++ [Ob.dct (kvS (done.map fun n => (n, val n)))]).set μ1.length (.dct (putKD (kvS (done.map fun n => (n, val n))) (.inr n) (val n))) = μ1 ++ [.dct (kvS ((done ++ [n]).map fun n => (n, val n)))] := by
        rw [putKD_new (by simpa using hn), List.set_append_right _ _ (Nat.le_refl _)]
        simp
      rw [hs]
      exact ih (done ++ [n]) (by rw [← e]; simp)
  exact key names [] rfl
end DM

namespace DM
open PySem PySem.Spec L2
/-! ### x < y of data that are alike -/
def isNonP : PyData → Bool
  | .none => true
  | _ => false
def ltOk (p q : PyData) : Bool := SeqAt.shaped p && (SeqAt.shaped q && (PySem.W.alike p q && !isNonP p))
def FltD (d e : D) (μ : Store) : Res D := match toPyS μ d, toPyS μ e with
  | some p, some q => if ltOk p q = true then okR (.bl (PySem.W.dataLt p q)) μ else none
  | _, _ => none
def rLtD (K : PySem.W.Frag) : L2.R2 := fun x y H Q => ∃ d e, Dp K H x d ∧ Dp K H y e ∧ ltOk d e = true ∧ Q (.bl (PySem.W.dataLt d e)) H
theorem op_ltD {X : Cx} (hu : X.A.units + 65 < cLine) : OpR X (compareOp .Lt) (rLtD X.K) := by
  intro pins s σ H x y v u Q I rx ry h
  obtain ⟨d, e, hd, he, ok, q⟩ := h
  obtain ⟨h1, ok⟩ := andT ok
  obtain ⟨h2, ok⟩ := andT ok
  obtain ⟨h3, h4⟩ := andT ok
  obtain ⟨as, r1⟩ := Dp.reads I d x v hd rx
  obtain ⟨bs, r2⟩ := Dp.reads I e y u he ry
  have hn : d ≠ .none := fun z => by rw [z] at h4; cases h4
  have dp := SeqAt.depth_of_shaped h1
  have mn : min d.depth e.depth ≤ d.depth := Nat.min_le_left _ _
  exact PySem.W.rcLt_alike d e X.A s v u as bs r1 r2 h3 hn (by omega) X.prog X.w X.xe _ ⟨.bl _, H, I, rfl, q⟩
theorem lift_ltD {K : PySem.W.Frag} : Lift2 K (rLtD K) FltD := by
  intro W σ ι μ H x y d e Q w vx vy h
  unfold FltD at h
  match e1 : toPyS μ d, e2 : toPyS μ e, h with
  | some p, some q, h =>
    obtain ⟨z, h⟩ := PostG.guard h
    exact ⟨p, q, dpS_of w vx e1, dpS_of w vy e2, z, h.ok0 w (.bl _)⟩
section
variable {X : Cx} {W : DW} {a b : Expr} {A B : CM D} {pos : Pos} {k : Nat}
theorem d_ltD (hr : Room k X.A) (ha : PE X a (tE X.K W A)) (hb : PE X b (tE X.K W B)) (hm : behindInMarks .Lt b = false := by rfl) : PE X (.Compare a [.Lt] [b] pos) (tE X.K W (e2 FltD A B)) := d_cmp (op_ltD (units65 hr)) lift_ltD ha hb hm
theorem dt_ltD (hr : Room k X.A) (ha : PE X a (tE X.K W A)) (hb : PE X b (tE X.K W B)) (hm : behindInMarks .Lt b = false := by rfl) : PT X (.Compare a [.Lt] [b] pos) (tT X.K W (bOf (e2 FltD A B))) := dt_cmp (op_ltD (units65 hr)) lift_ltD ha hb hm
end
theorem f_ltD {d e : D} {μ : Store} (hd : shp 60 d = true) (he : shp 60 e = true) (ha : PySem.W.alike (pyD d) (pyD e) = true) (hn : isNonP (pyD d) = false) : FltD d e μ = okR (.bl (PySem.W.dataLt (pyD d) (pyD e))) μ := by
  unfold FltD
  rw [toPyS_shp hd, toPyS_shp he]
  simp only [ltOk, shaped_shp hd, shaped_shp he, ha, hn, Bool.not_false, Bool.and_true, if_true]
end DM

namespace DM
open PySem PySem.Spec L2 HandSHeadRun PySem.W PySem.Calls PyProof.Rows
/-! ### the run of the head, looked at piece by piece -/
noncomputable abbrev endX (r : PySem.W.OpenRow) (M : Nat) (w : World) (os : OsState) : Option PySem.W.SharedT := HandSHeadRun.endF (HandSHeadRun.stepQ (HandSHeadRun.denQ HandSHeadRun.tabQ) r.prog w) M r.prog w os
abbrev fragX (n : Nat) (s : PySem.W.SharedT) : PySem.W.Frag := He.frG (HandSHeadRun.getT s) (He.asD (HandSHeadRun.getT s) n)
theorem runX {r : PySem.W.OpenRow} {q : Program} {n M : Nat} {fa : List He.Fa} {fn : List He.DefD} {cs : List (Str × D)} {xf : List (PySem.W.Frag → Bool)} {xs : List DefX} {loose : List Str} {w : World}
    (p1 : ∀ os, (endX r M w os).map (fun s => (looksF r.prog (boot_heap w.params) s.abs, HandSHeadRun.seenQ q loose (importedModules r.prog.main.body) (fun s => xlAt q [] s && recOk r.toRowW.records s) s.abs)) = some (true, openGood q loose))
    (p2 : ∀ os, (endX r M w os).map (fun s => cs.all (conB (fragX n s))) = some true)
    (p3 : ∀ os, (endX r M w os).map (fun s => (xf.all fun f => f (fragX n s)) && xs.all fun x => x.ok (fragX n s)) = some true)
    (p4 : ∀ os, (endX r M w os).map (fun s => (xs.map (fnWX (fragX n s)), fn.map fun d => He.fnW (fragX n s) d.at_)) = some (valX xs, fn.map He.DefD.val))
    (p5 : ∀ os, (endX r M w os).map (fun s => fa.all fun f => f.ok (fragX n s)) = some true)
    (p6 : ∀ os, (endX r M w os).map (fun s => fn.all fun d => d.ok (fragX n s)) = some true) :
    HandSHeadRun.RunEq r q (hookX n fa fn cs xf xs) (fun s => obsXG n fa fn cs xf xs (HandSHeadRun.getT s)) M loose w := by
  intro os
  have q1 := p1 os; have q2 := p2 os; have q3 := p3 os; have q4 := p4 os; have q5 := p5 os; have q6 := p6 os
  show (endX r M w os).map _ = _
  cases e : endX r M w os with
  | none => rw [e] at q1; cases q1
  | some s =>
    rw [e] at q1 q2 q3 q4 q5 q6
    simp only [Option.map_some, Option.some.injEq, Prod.mk.injEq] at q1 q2 q3 q4 q5 q6
    rw [Option.map_some, q1.1, q1.2]
    have z : obsXG n fa fn cs xf xs (HandSHeadRun.getT s) = (true, valX xs, (true, fn.map He.DefD.val)) := by
      show (cs.all (conB (fragX n s)) && ((xf.all fun f => f (fragX n s)) && xs.all fun x => x.ok (fragX n s)), xs.map (fnWX (fragX n s)), ((fa.all fun f => f.ok (fragX n s)) && fn.all fun d => d.ok (fragX n s), fn.map fun d => He.fnW (fragX n s) d.at_)) = _
      rw [q2, q3, q4.1, q4.2, q5, q6]
      rfl
    exact congrArg (fun z : AlX => some (true, openGood q loose, z)) z
end DM

namespace DM
open PySem PySem.Spec L2 HandSHeadRun PySem.W PySem.Calls PyProof.Rows
/-! ### the look at the head, at given addresses -/
abbrev fragL (as : List Addr) (s : PySem.W.SharedT) : PySem.W.Frag := He.frG (HandSHeadRun.getT s) as
def obsLG (as : List Addr) (fa : List He.Fa) (fn : List He.DefD) (cs : List (Str × D)) (xf : List (PySem.W.Frag → Bool)) (xs : List DefX) (g : Addr → Option Obj) : AlX := obsX fa fn cs xf xs (He.frG g as)
def hookL (as : List Addr) (fa : List He.Fa) (fn : List He.DefD) (cs : List (Str × D)) (xf : List (PySem.W.Frag → Bool)) (xs : List DefX) : PySem.W.Hook where
  α := AlX
  obs := fun s => obsLG as fa fn cs xf xs s.heap.get?
  val := fun _ => (true, valX xs, He.valD fn)
  says := fun _ h => ∃ K : PySem.W.Frag, K.In h ∧ SaysX fa fn cs xf xs K
  of := fun _ _ e => ⟨_, He.frG_in, congrArg (fun z : AlX => z.2.2) e, congrArg Prod.fst e, congrArg (fun z : AlX => z.2.1) e⟩
  keeps := fun _ _ _ ⟨K, hK, c⟩ k => ⟨K, PySem.W.Frag.In.keeps hK k, c⟩
theorem obsLG_eq {as : List Addr} {fa : List He.Fa} {fn : List He.DefD} {cs : List (Str × D)} {xf : List (PySem.W.Frag → Bool)} {xs : List DefX} {g : Addr → Option Obj} {s : Shared} (h : ∀ a, g a = s.heap.get? a) : obsLG as fa fn cs xf xs g = (hookL as fa fn cs xf xs).obs s := by
  have e : g = s.heap.get? := funext h
  rw [e] <;> rfl
theorem runL {r : PySem.W.OpenRow} {q : Program} {as : List Addr} {M : Nat} {fa : List He.Fa} {fn : List He.DefD} {cs : List (Str × D)} {xf : List (PySem.W.Frag → Bool)} {xs : List DefX} {loose : List Str} {w : World}
    (p1 : ∀ os, (endX r M w os).map (fun s => (looksF r.prog (boot_heap w.params) s.abs, HandSHeadRun.seenQ q loose (importedModules r.prog.main.body) (fun s => xlAt q [] s && recOk r.toRowW.records s) s.abs)) = some (true, openGood q loose))
    (p2 : ∀ os, (endX r M w os).map (fun s => cs.all (conB (fragL as s)) && ((xf.all fun f => f (fragL as s)) && xs.all fun x => x.ok (fragL as s))) = some true)
    (p4 : ∀ os, (endX r M w os).map (fun s => (xs.map (fnWX (fragL as s)), fn.map fun d => He.fnW (fragL as s) d.at_)) = some (valX xs, fn.map He.DefD.val))
    (p5 : ∀ os, (endX r M w os).map (fun s => (fa.all fun f => f.ok (fragL as s)) && fn.all fun d => d.ok (fragL as s)) = some true) :
    HandSHeadRun.RunEq r q (hookL as fa fn cs xf xs) (fun s => obsLG as fa fn cs xf xs (HandSHeadRun.getT s)) M loose w := by
  intro os
  have q1 := p1 os; have q2 := p2 os; have q4 := p4 os; have q5 := p5 os
  show (endX r M w os).map _ = _
  cases e : endX r M w os with
  | none => rw [e] at q1; cases q1
  | some s =>
    rw [e] at q1 q2 q4 q5
    simp only [Option.map_some, Option.some.injEq, Prod.mk.injEq] at q1 q2 q4 q5
    rw [Option.map_some, q1.1, q1.2]
    have z : obsLG as fa fn cs xf xs (HandSHeadRun.getT s) = (true, valX xs, (true, fn.map He.DefD.val)) := by
      show (cs.all (conB (fragL as s)) && ((xf.all fun f => f (fragL as s)) && xs.all fun x => x.ok (fragL as s)), xs.map (fnWX (fragL as s)), ((fa.all fun f => f.ok (fragL as s)) && fn.all fun d => d.ok (fragL as s), fn.map fun d => He.fnW (fragL as s) d.at_)) = _
      rw [q2, q4.1, q4.2, q5]
    exact congrArg (fun z : AlX => some (true, openGood q loose, z)) z
end DM

namespace DM
open PySem PySem.Spec L2
open PyProof.Rows (envOfC)
/-! ### keyword-only parameters that a call leaves out -/
def dfV (md : List D) (F : FV) : FV := fun ds es μ => F ds (es ++ md) μ
/-- what the def at f holds as defaults of the names ms -/
def kwcV (K : PySem.W.Frag) (ms : List (Str × D)) : Value → Bool
  | .ref D => ms.all fun q => (match PySem.W.nsIn K D q.1 with
    | some (some u) => conV K q.2 u
    | _ => false)
  | _ => false
def kwcA (f : Addr) (ms : List (Str × D)) (K : PySem.W.Frag) : Bool := match K.lookup f with
  | some ⟨_, _, .func fd, _⟩ => kwcV K ms fd.kwdefaults
  | _ => false
theorem kwc_vals {K : PySem.W.Frag} {D : Addr} : ∀ {ms : List (Str × DM.D)}, (ms.all fun q => (match PySem.W.nsIn K D q.1 with
      | some (some u) => conV K q.2 u
      | _ => false)) = true → ∃ (mv : List Value) (mz : List V), mv.length = ms.length ∧ Vals mz mv ∧ (∀ ι H, VRs K ι H mz (ms.map (·.2))) ∧ ∀ q ∈ (ms.map (·.1)).zip mv, PySem.W.nsIn K D q.1 = some (some q.2)
  | [], _ => ⟨[], [], rfl, .nil, fun _ _ => .nil, fun q hq => by cases hq⟩
  | m :: ms, h => by
    rw [List.all_cons, Bool.and_eq_true] at h
    obtain ⟨mv, mz, l, r, v, a⟩ := kwc_vals h.2
    have h1 := h.1
    split at h1
    · rename_i u e
      obtain ⟨z, rz, vz⟩ := conV_ok h1
      refine ⟨u :: mv, z :: mz, congrArg Nat.succ l, .cons rz r, fun ι H => .cons (vz ι H) (v ι H), fun q hq => ?_⟩
      rcases List.mem_cons.mp (show q ∈ (m.1, u) :: (ms.map (·.1)).zip mv from hq) with e' | hq
      · rw [e']; exact e
      · exact a q hq
    · cases h1
section
variable {P : Program} {w : World} {K : PySem.W.Frag} {mg : Str → Option Value} {base : Heap} {x qual : Str} {pa : Arguments} {body : List Stmt} {sc : Scope} {kws : List (Str × V)} {f : Addr} {fd : FuncData} {ms : List (Str × D)}
theorem kwc_get (Fd : FunD K x qual pa body sc [] kws f fd) (h : kwcA f ms K = true) : ∃ (oc : Value) (od : Option Addr) (D : Addr) (doc pm : Value) (an : Option Addr) (cdv ct : Value) (osl : Array (Option Value)), fd = PySem.W.fnOf x qual pa body sc .none (.ref D) doc pm an cdv ct ∧ K.lookup f = some ⟨oc, od, .func fd, osl⟩ ∧ PySem.W.codeIn K cdv qual = true ∧
    ∃ (mv : List Value) (mz : List V), mv.length = ms.length ∧ Vals mz mv ∧ (∀ ι H, VRs K ι H mz (ms.map (·.2))) ∧ ∀ q ∈ (ms.map (·.1)).zip mv, PySem.W.nsIn K D q.1 = some (some q.2) := by
  obtain ⟨oc, od, dV, kV, doc, pm, an, cdv, ct, osl, rfl, lk, hcd, hD, _⟩ := Fd.ex
  obtain rfl : dV = .none := by
    rcases hD with ⟨_, e⟩ | ⟨e, _⟩
    · exact e
    · exact absurd rfl e
  unfold kwcA at h
  rw [lk] at h
  have h2 : kwcV K ms kV = true := h
  cases kV with
  | ref D => exact ⟨oc, od, D, doc, pm, an, cdv, ct, osl, rfl, lk, hcd, kwc_vals h2⟩
  | _ => cases h2
/-- t looks the names up in the dict at D, one behind another, and goes on as r -/
def KwTo {α : Type} (D : Addr) : List (Str × Value) → Sem α → Sem α → Prop
  | [], t, r => t = r
  | q :: l, t, r => ∃ (β γ : Type) (k1 : Option Value → Sem β) (k2 : β → Sem γ) (k3 : γ → Sem α) (a : β), t = ((nsGet D q.1 >>= k1) >>= k2) >>= k3 ∧ k1 (some q.2) = pure a ∧ KwTo D l (k2 a >>= k3) r
theorem KwTo.wp {α : Type} {M : Model} {A : Around} {D : Addr} {Q : α → Shared → Prop} {E : Value → Shared → Prop} {s : Shared} (X : K.In s.heap) : ∀ {l : List (Str × Value)} {t r : Sem α}, (∀ q ∈ l, PySem.W.nsIn K D q.1 = some (some q.2)) → KwTo D l t r → wpAny M A r Q E s → wpAny M A t Q E s
  | [], t, r, _, e, h => by rw [show t = r from e]; exact h
  | q :: l, t, r, hl, e, h => by
    obtain ⟨β, γ, k1, k2, k3, a, e1, e2, e3⟩ := e
    have l1 : PySem.W.Looks M s.heap (nsGet D q.1 >>= k1) a := (PySem.W.looks_nsIn X (hl q (List.mem_cons_self ..))).andThen (PySem.W.Looks.of_pure e2)
    rw [e1, bind_assoc]
    exact wpAny_bind (l1 A _ E s (fun _ _ z => z) (KwTo.wp X (fun p hp => hl p (List.mem_cons_of_mem _ hp)) e3 h))
theorem Env0.kin {A : Around} {outer : List Env} {s : Shared} {H : Hp} (e : Env0 P w K mg base A outer s H) : K.In s.heap := fun a o h => (e.bs a o (e.mod.kin a o h)).1
theorem FnV.ofGd {k n : Nat} {ps ks : List Str} {idx : List Nat} {F : FD} (Fd : FunD K x qual pa body sc [] kws f fd) (hd : kwcA f ms K = true) (G : FnG P w K mg base noXR k f fd ps F)
    (h : ∀ (D : Addr) (doc pm : Value) (an : Option Addr) (cdv ct : Value) (us ws mv : List Value), us.length = n → ws.length = ks.length → mv.length = ms.length → KwTo D ((ms.map (·.1)).zip mv) (bindArgs (PySem.W.fnOf x qual pa body sc .none (.ref D) doc pm an cdv ct) ⟨us, ks.zip ws⟩) (pure (ps.zip (pick idx (us ++ (ws ++ mv))))))
    (hlen : ∀ ds μ, F ds μ ≠ none → ds.length = ps.length) : FnV P w K mg base k f ks (dfV (ms.map (·.2)) (gV n (ks.length + ms.length) idx F)) := by
  obtain ⟨oc, od, D, doc, pm, an, cdv, ct, osl, rfl, lk, hcd, mv, mz, lm, rm, vm, nm⟩ := kwc_get Fd hd
  refine ⟨fun {A outer s H us ws vs zs ι μ ds es Q E} hr hG e0 rv rz lz wf vr vz post => ?_, fun ds es μ h => ?_⟩
  · unfold dfV gV at post
    have ln : ds.length = n ∧ (es ++ ms.map (·.2)).length = ks.length + ms.length := by
      by_cases z : ds.length = n ∧ (es ++ ms.map (·.2)).length = ks.length + ms.length
      · exact z
      · rw [if_neg z] at post; exact post.elim
    rw [if_pos ln] at post
    have vv : VRs K ι H (pick idx (vs ++ (zs ++ mz))) (pick idx (ds ++ (es ++ ms.map (·.2)))) := pick_vrs (vr.append (vz.append (vm ι H)))
    have nn : F (pick idx (ds ++ (es ++ ms.map (·.2)))) μ ≠ none := fun z => by rw [z] at post; exact post
    have hl : (pick idx (vs ++ (zs ++ mz))).length = ps.length := by rw [vv.length]; exact hlen _ _ nn
    have l1 : us.length = n := by rw [← rv.length, vr.length]; exact ln.1
    have l2 : ws.length = ks.length := by rw [← rz.length]; exact lz
    exact G.go hr hG e0 (fun M A E Q hq => KwTo.wp (Env0.kin e0) nm (h D doc pm an cdv ct us ws mv l1 l2 lm) (wpAny_pure hq)) (pick_vals (rv.append (rz.append rm))) hl wf vv post
  · unfold dfV gV at h
    by_cases z : ds.length = n ∧ (es ++ ms.map (·.2)).length = ks.length + ms.length
    · have := z.2
      rw [List.length_append, List.length_map] at this
      omega
    · rw [if_neg z] at h; exact absurd rfl h
end
theorem fnV_starD {P : Program} {w : World} {K : PySem.W.Frag} {mg : Str → Option Value} {base : Heap} {x qual : Str} {pa : Arguments} {body : List Stmt} {sc : Scope} {kws : List (Str × V)} {f : Addr} {fd : FuncData} {N pall ks : List Str} {k m n np : Nat} {idx : List Nat} {S : SF} {ms : List (Str × D)}
    (Fd : FunD K x qual pa body sc [] kws f fd) (hd : kwcA f ms K = true) (Sc : FnScope N pall sc) (hm : pall.length = m) (hn : N.length = n)
    (hbind : ∀ (D : Addr) (doc pm : Value) (an : Option Addr) (cdv ct : Value) (us rest ws mv : List Value), us.length = np → ws.length = ks.length → mv.length = ms.length → KwTo D ((ms.map (·.1)).zip mv) (bindArgs (PySem.W.fnOf x qual pa body sc .none (.ref D) doc pm an cdv ct) ⟨us ++ rest, ks.zip ws⟩) (newTuple rest >>= fun t => pure (pall.zip (us ++ (pick idx (ws ++ mv) ++ [t])))))
    (hb : ∀ (cdv : Value) (A : Around) (outer : List Env) (s : Shared) (H : Hp) (E : XK), Room k (A.deeper (envOfC qual sc s.heap.objs.size f cdv)) → (A.deeper (envOfC qual sc s.heap.objs.size f cdv)).guards = some [] →
      PSs (cxOf (L2.CX P w) P w K mg base N qual sc f cdv A outer s H E).nox body (sD K noX S)) : FnV P w K mg base (k + 1) f ks (dfV (ms.map (·.2)) (fnV np (ks.length + ms.length) idx (fnP n m S))) := by
  obtain ⟨oc, od, Dk, doc, pm, an, cdv, ct, osl, rfl, lk, hcd, mv, mz, lm, rm, vm, nm⟩ := kwc_get Fd hd
  refine ⟨fun {A outer s H us ws vs zs ι μ ds es Q E} hr hG e0 rv rz lz wf vr vz post => ?_, fun ds es μ h => by
    unfold dfV fnV at h
    by_cases z : (np ≤ ds.length ∧ ds.length ≤ sizeLine) ∧ (es ++ ms.map (·.2)).length = ks.length + ms.length
    · have := z.2
      rw [List.length_append, List.length_map] at this
      omega
    · rw [if_neg z] at h; exact absurd rfl h⟩
  unfold dfV fnV at post
  have vz : VRs K ι H (zs ++ mz) (es ++ ms.map (·.2)) := vz.append (vm ι H)
  have rz0 := rz
  have rz : Vals (zs ++ mz) (ws ++ mv) := rz.append rm
  generalize es ++ ms.map (·.2) = es at post vz
  have hlen : (np ≤ ds.length ∧ ds.length ≤ sizeLine) ∧ es.length = ks.length + ms.length := by
    by_cases z : (np ≤ ds.length ∧ ds.length ≤ sizeLine) ∧ es.length = ks.length + ms.length
    · exact z
    · rw [if_neg z] at post; exact post.elim
  rw [if_pos hlen] at post
  unfold fnP at post
  have hds : (ds.take np ++ (pick idx es ++ [D.tup (ds.drop np)])).length = m := by
    by_cases z : (ds.take np ++ (pick idx es ++ [D.tup (ds.drop np)])).length = m
    · exact z
    · rw [if_neg z] at post; exact post.elim
  rw [if_pos hds] at post
  have lv : vs.length = ds.length := vr.length
  have lu : us.length = vs.length := rv.length.symm
  have hn0 : H s.heap.objs.size = none := e0.hok.fresh (Nat.le_refl _)
  have rt : Vals (vs.take np) (us.take np) := rv.take np
  have rd : Vals (vs.drop np) (us.drop np) := rv.drop np
  have eu : us = us.take np ++ us.drop np := (List.take_append_drop np us).symm
  have hz : (vs.drop np).length ≤ sizeLine := by rw [List.length_drop]; omega
  have hl2 : (us.drop np).length ≤ sizeLine := by rw [← rd.length]; exact hz
  refine StX.run_bnd lk hcd Sc hr e0 (G := fun xs H2 => ∃ p o, H p = none ∧ o.dict = none ∧ xs = vs.take np ++ (pick idx (zs ++ mz) ++ [V.ref p]) ∧ H2 = upd H p (.frz o (.tup (vs.drop np)))) (fun A' Ex Q' h => ?_) fun s2 H2 xs ⟨p, o, hp, ho, ex, eH⟩ hr' => ?_
  · have eb := hbind Dk doc pm an cdv ct (us.take np) (us.drop np) ws mv (by rw [List.length_take]; omega) (by rw [← rz0.length]; exact lz) lm
    rw [← eu] at eb
    refine KwTo.wp (Env0.kin e0) nm eb ?_
    refine wpAny_bind (wpAny_newTuple (wpAny_pure ?_) hl2)
    have new : ObjOk P w (upd H s.heap.objs.size (.frz ({ cls := .type "tuple", data := .seq (us.drop np).toArray } : Obj) (.tup (vs.drop np)))) (s.heap.push ({ cls := .type "tuple", data := .seq (us.drop np).toArray } : Obj)) s.heap.objs.size (.frz ({ cls := .type "tuple", data := .seq (us.drop np).toArray } : Obj) (.tup (vs.drop np))) := ⟨Heap.get?_push_size _ rfl, hz, us.drop np, rd, ⟨_, Heap.get?_push_size _ rfl, rfl, _, rfl⟩⟩
    have un := StX.un_laid (fs := frs outer) (s := s) (o := ({ cls := .type "tuple", data := .seq (us.drop np).toArray } : Obj)) (u := .frz ({ cls := .type "tuple", data := .seq (us.drop np).toArray } : Obj) (.tup (vs.drop np))) hn0
    have rr : Vals (vs.take np ++ (pick idx (zs ++ mz) ++ [V.ref s.heap.objs.size])) (us.take np ++ (pick idx (ws ++ mv) ++ [Value.ref s.heap.objs.size])) := rt.append ((pick_vals rz).append (.cons rfl .nil))
    have hll : (vs.take np ++ (pick idx (zs ++ mz) ++ [V.ref s.heap.objs.size])).length = pall.length := by
      have h1 : (pick idx (zs ++ mz)).length = (pick idx es).length := (pick_vrs vz).length
      have h2 : (ds.take np ++ (pick idx es ++ [D.tup (ds.drop np)])).length = m := hds
      simp only [List.length_append, List.length_take, List.length_cons, List.length_nil] at h2 ⊢
      omega
    exact h _ _ _ _ (StX.env0_laid e0 new) un rfl (fun e s' => StX.cxUp outer s H _ _ E e s' un (fun b o q => Heap.get?_push_of_some _ q) rfl) rr hll ⟨_, _, hn0, rfl, rfl, rfl⟩
  · subst ex eH
    refine ⟨_, PSs.nox (hb cdv A outer s2 _ E hr' hG), ?_⟩
    have l1 : Le ι H ι (upd H p (.frz o (.tup (vs.drop np)))) := Le.laid hp
    have vt : VRs K ι (upd H p (.frz o (.tup (vs.drop np)))) (vs.take np ++ (pick idx (zs ++ mz) ++ [V.ref p])) (ds.take np ++ (pick idx es ++ [.tup (ds.drop np)])) :=
      ((vr.take np).mono l1).append (((pick_vrs vz).mono l1).append (.cons (.tup (.inl ⟨⟨_, upd_same, ho⟩, wf.out hp⟩) ((vr.drop np).mono l1)) .nil))
    refine ⟨startR n (ds.take np ++ (pick idx es ++ [.tup (ds.drop np)])), ι, μ, by rw [← hn]; exact SR.start vt, wf.laid hp, ?_⟩
    generalize S (startR n (ds.take np ++ (pick idx es ++ [.tup (ds.drop np)]))) μ = r at post ⊢
    match r, post with
    | some (.nx _, _), q => exact fun _ ι' H' l w _ => q ι' H' .non (l1.trans l) w .non
    | some (.rt d, _), q => exact fun ι' H' v l w vv => q ι' H' v (l1.trans l) w vv
section
variable {μ : Store} {Q : D → Store → Prop}
theorem q_dfV {md : List D} {F : FV} {ds es : List D} : Ok (dfV md F ds es μ) Q = Ok (F ds (es ++ md) μ) Q := rfl
end
end DM

namespace DM
open PySem PySem.Spec L2
/-! ### a, b = a list -/
def fLst (is : List Nat) : D → Rho → Option Rho := fun d ρ => match d with
  | .lst ds => setAll is ds ρ
  | _ => none
theorem tg_lst {K : PySem.W.Frag} {is own : List Nat} {n : Nat} (hn : is.length = n) (h : ∀ i ∈ is, i ∈ own) : TgOk K (gLst K n (gNames is)) (fLst is) own := by
  intro v d σ ρ ρ' ι μ H Q sr wf vr e q
  cases vr with
  | lst hh r => exact ⟨_, _, rfl, hh.sq, by rw [r.length, setAll_len _ _ _ _ e]; exact hn, tg_names is h _ _ σ σ ρ ρ' ι H Q sr r e rfl q⟩
  | _ => simp [fLst] at e
def sUnpL (is : List Nat) (E : CM D) : SF := lft E fun d ρ μ => match fLst is d ρ with
  | some ρ' => some (.nx ρ', μ)
  | none => none
theorem ds_unpL {X : Cx} {W : DW} {tg e : Expr} {E : CM D} {g : TG} {is own : List Nat} {pos : Pos} (he : PE X e (tE X.K W E)) (hg : PG X tg g) (ht : TgOk X.K g (fLst is) own) (hs : swapsWithSole [tg] e pos.line X.env = pure false := by rfl) (hw : swappedStores [tg] e X.env = pure none := by rfl)
    (h1 : (assignEach [tg] X.env).map (·.2) = [assign tg X.env] := by rfl) : PS X (.Assign [tg] e pos) (sD X.K W (sUnpL is E)) := (ps_asg he hg hs hw h1).imp fun T σ H ⟨ρ, ι, μ, sr, wf, h⟩ => by
  refine tG.mono (PostS.bind sr wf h) ?_
  rintro x H1 ⟨ι1, μ1, d, l1, w1, vx, h1⟩
  match e : fLst is d ρ, h1 with
  | some ρ', h1 => exact ht x d σ ρ ρ' ι1 μ1 H1 _ (sr.mono l1) w1 vx e fun σ' s' _ => h1.nx0 w1 s'
section
variable {ρ : Rho} {μ : Store} {A : CM D} {Qf : Fl → Store → Prop}
theorem q_unpL {is : List Nat} (h : Ok (A ρ μ) (fun d μ1 => ∃ ρ', fLst is d ρ = some ρ' ∧ Qf (.nx ρ') μ1)) : OkS (sUnpL is A ρ μ) Qf :=
  OkS_lft (h.mono fun d μ1 ⟨ρ', e, q⟩ => by simp only [e]; exact q)
end
end DM

/-! sleeping generators are left alone by what runs where they are poisoned -/
namespace GP
open PySem
open Sem (wp)
def badK : Resume → Sem PySem.Fin := fun _ => .unsupported "poison"
def poison : GenState → GenState
  | .suspended _ l c p fs cl => .suspended badK l c p fs cl
  | x => x
def isSusp : GenState → Bool
  | .suspended .. => true
  | _ => false
def retOnly (fs : List Frame) : Prop := ∀ f ∈ fs, ∀ g k l c p, f ≠ .gen g k l c p
def genOk : GenState → Prop
  | .suspended _ _ _ _ fs _ => retOnly fs
  | _ => True
def endOk : End → Prop
  | .ret _ => True
  | .susp _ _ _ _ _ _ fs => retOnly fs
theorem retOnly_nil : retOnly [] := fun f h => by simp at h
theorem retOnly_split : ∀ {fs : List Frame}, retOnly fs → splitAtGen fs = none
  | [], _ => rfl
  | .ret k h g l c p kp :: fs, q => by
    have := retOnly_split (fs := fs) fun f hf => q f (List.mem_cons_of_mem _ hf)
    simp [splitAtGen, this]
  | .gen g k l c p :: fs, q => absurd rfl (q _ List.mem_cons_self g k l c p)
theorem seen_poison (x : GenState) : (poison x).seen = x.seen := by cases x <;> rfl
theorem genState_ok {e : End} (h : endOk e) : genOk e.genState := by
  cases e with
  | ret _ => trivial
  | susp v g l k c p fs => exact h
structure GRel (g0 gp gr : Array GenState) : Prop where
  sz : gp.size = gr.size
  le : g0.size ≤ gr.size
  at_ : ∀ (i : Nat) x, gr[i]? = some x → (isSusp x = true ∧ g0[i]? = some x ∧ gp[i]? = some (poison x)) ∨ (gp[i]? = some x ∧ genOk x ∧ ∀ y, g0[i]? = some y → isSusp y = false)
structure SR (g0 : Array GenState) (sp sr : Shared) : Prop where
  heap : sp.heap = sr.heap
  drawn : sp.drawn = sr.drawn
  toks : sp.toks = sr.toks
  os : sp.os = sr.os
  gens : GRel g0 sp.gens sr.gens
section
variable {g0 gp gr : Array GenState} {sp sr : Shared}
theorem GRel.real (h : GRel g0 gp gr) {i : Nat} {x : GenState} (e : gp[i]? = some x) : ∃ y, gr[i]? = some y := by
  have hi : i < gp.size := (Array.getElem?_eq_some_iff.mp e).1
  exact ⟨gr[i]'(h.sz ▸ hi), Array.getElem?_eq_getElem _⟩
theorem GRel.push (h : GRel g0 gp gr) {x : GenState} (hx : genOk x) : GRel g0 (gp.push x) (gr.push x) := by
  refine ⟨by simp [h.sz], by simp; have := h.le; omega, fun i y e => ?_⟩
  by_cases hi : i < gr.size
  · rw [Array.getElem?_push_lt hi] at e
    rw [Array.getElem?_push_lt (by rw [h.sz]; exact hi)]
    have e' : gr[i]? = some y := by rw [Array.getElem?_eq_getElem hi]; exact e
    have := h.at_ i y e'
    rw [Array.getElem?_eq_getElem (show i < gp.size by rw [h.sz]; exact hi)] at this
    exact this
  · have hi2 : i = gr.size := by
      have := (Array.getElem?_eq_some_iff.mp e).1
      simp at this
      omega
    subst hi2
    rw [Array.getElem?_push_size] at e
    cases e
    refine .inr ⟨by rw [← h.sz, Array.getElem?_push_size], hx, fun z ez => ?_⟩
    have := (Array.getElem?_eq_some_iff.mp ez).1
    have := h.le
    omega
theorem GRel.set (h : GRel g0 gp gr) {g : Nat} {x : GenState} (hx : genOk x) (hn : ∀ y, g0[g]? = some y → isSusp y = false) : GRel g0 (gp.setIfInBounds g x) (gr.setIfInBounds g x) := by
  refine ⟨by simp [h.sz], by simpa using h.le, fun i y e => ?_⟩
  rw [Array.getElem?_setIfInBounds] at e ⊢
  by_cases hg : g = i
  · subst hg
    rw [if_pos rfl] at e ⊢
    by_cases hl : g < gr.size
    · rw [if_pos hl] at e
      rw [if_pos (by rw [h.sz]; exact hl)]
      cases e
      exact .inr ⟨rfl, hx, hn⟩
    · rw [if_neg hl] at e
      cases e
  · rw [if_neg hg] at e ⊢
    exact h.at_ i y e
/-- what the poisoned one shows of a generator that is no sleeper of before -/
theorem GRel.same (h : GRel g0 gp gr) {i : Nat} {x : GenState} (e : gp[i]? = some x) (hx : ∀ l c p fs cl, x ≠ .suspended badK l c p fs cl) : gr[i]? = some x ∧ genOk x ∧ ∀ y, g0[i]? = some y → isSusp y = false := by
  obtain ⟨y, ey⟩ := h.real e
  rcases h.at_ i y ey with ⟨hs, _, h2⟩ | ⟨h1, h2, h3⟩
  · rw [e] at h2
    cases y with
    | suspended k l c p fs cl =>
      exact absurd (Option.some.inj h2) (hx l c p fs cl)
    | _ => simp [isSusp] at hs
  · rw [e] at h1
    cases h1
    exact ⟨ey, h2, h3⟩
theorem GRel.seen (h : GRel g0 gp gr) {i : Nat} {x : GenState} (e : gp[i]? = some x) : ∃ y, gr[i]? = some y ∧ y.seen = x.seen := by
  obtain ⟨y, ey⟩ := h.real e
  refine ⟨y, ey, ?_⟩
  rcases h.at_ i y ey with ⟨_, _, h2⟩ | ⟨h1, _, _⟩
  · rw [e] at h2
    rw [Option.some.inj h2, seen_poison]
  · rw [e] at h1
    rw [Option.some.inj h1]
theorem SR.setGen (h : SR g0 sp sr) {g : Nat} {x : GenState} (hx : genOk x) (hn : ∀ y, g0[g]? = some y → isSusp y = false) : SR g0 (sp.setGen g x) (sr.setGen g x) := ⟨h.heap, h.drawn, h.toks, h.os, h.gens.set hx hn⟩
end
theorem bad_no {M : Model} {Γ : Ctx} {p : Pos} {r : Resume} {fs : List Frame} {s s' : Shared} {e : End} (h : Runs M Γ p (badK r) fs s e s') : False := by
  generalize ht : badK r = t at h
  unfold badK at ht
  induction h <;> (try cases ht) <;> simp_all
/-- the same run where the sleepers are whole -/
theorem runs_real {M : Model} {g0 : Array GenState} {Γ : Ctx} {p : Pos} {t : Sem PySem.Fin} {fs : List Frame} {sp sp' : Shared} {e : End} (h : Runs M Γ p t fs sp e sp') : ∀ sr, SR g0 sp sr → retOnly fs → ∃ sr', Runs M Γ p t fs sr e sr' ∧ SR g0 sp' sr' ∧ endOk e := by
  induction h with
  | done => exact fun sr q _ => ⟨sr, .done, q, trivial⟩
  | raise => exact fun sr q _ => ⟨sr, .raise, q, trivial⟩
  | again hc _ ih => exact fun sr q r => let ⟨sr', a, b, c⟩ := ih sr q r; ⟨sr', .again hc a, b, c⟩
  | rule _ ih => exact fun sr q r => let ⟨sr', a, b, c⟩ := ih sr q r; ⟨sr', .rule a, b, c⟩
  | «at» _ ih => exact fun sr q r => let ⟨sr', a, b, c⟩ := ih sr q r; ⟨sr', .at a, b, c⟩
  | load ho _ ih => exact fun sr q r => let ⟨sr', a, b, c⟩ := ih sr q r; ⟨sr', .load (q.heap ▸ ho) a, b, c⟩
  | update ho _ ih => exact fun sr q r => let ⟨sr', a, b, c⟩ := ih { sr with heap := sr.heap.update _ _ } ⟨by rw [← q.heap], q.drawn, q.toks, q.os, q.gens⟩ r; ⟨sr', .update (q.heap ▸ ho) a, b, c⟩
  | loadIfAlive _ ih => exact fun sr q r => let ⟨sr', a, b, c⟩ := ih sr q r; ⟨sr', .loadIfAlive (q.heap ▸ a), b, c⟩
  | point _ ih => exact fun sr q r => let ⟨sr', a, b, c⟩ := ih sr q r; ⟨sr', .point a, b, c⟩
  | alloc _ ih => exact fun sr q r => let ⟨sr', a, b, c⟩ := ih { sr with heap := sr.heap.push _ } ⟨congrArg (fun h => Heap.push h _) q.heap, q.drawn, q.toks, q.os, q.gens⟩ r; ⟨sr', .alloc (by rw [← q.heap]; rw [← q.heap] at a; exact a), b, c⟩
  | fresh _ ih => exact fun sr q r => let ⟨sr', a, b, c⟩ := ih { sr with toks := sr.toks + 1 } ⟨q.heap, q.drawn, by rw [← q.toks], q.os, q.gens⟩ r; ⟨sr', .fresh (by rw [← q.toks]; rw [← q.toks] at a; exact a), b, c⟩
  | ask _ ih => exact fun sr q r => let ⟨sr', a, b, c⟩ := ih sr q r; ⟨sr', .ask a, b, c⟩
  | choose hn h1 ih =>
    rename_i n Γ p k s e s' src
    intro sr q r
    obtain ⟨sr', a, b, c⟩ := ih { sr with drawn := sr.drawn.bump src } ⟨q.heap, by show s.drawn.bump src = sr.drawn.bump src; rw [q.drawn], q.toks, q.os, q.gens⟩ r
    rw [q.drawn] at a
    exact ⟨sr', .choose hn a, b, c⟩
  | os h1 ih =>
    rename_i Γ p k s e s' o l
    intro sr q r
    obtain ⟨sr', a, b, c⟩ := ih { sr with os := (Os.step sr.os o).1 } ⟨q.heap, q.drawn, q.toks, by show (Os.step s.os o).1 = (Os.step sr.os o).1; rw [q.os], q.gens⟩ r
    rw [q.os] at a
    exact ⟨sr', .os a, b, c⟩
  | handled _ ih => exact fun sr q r => let ⟨sr', a, b, c⟩ := ih sr q r; ⟨sr', .handled a, b, c⟩
  | genState hs _ ih => exact fun sr q r => let ⟨sr', a, b, c⟩ := ih sr q r; let ⟨y, ey, es⟩ := q.gens.seen hs; ⟨sr', .genState ey (es ▸ a), b, c⟩
  | stack _ ih => exact fun sr q r => let ⟨sr', a, b, c⟩ := ih sr q r; ⟨sr', .stack a, b, c⟩
  | thread _ ih => exact fun sr q r => let ⟨sr', a, b, c⟩ := ih sr q r; ⟨sr', .thread a, b, c⟩
  | newGen _ ih => exact fun sr q r => let ⟨sr', a, b, c⟩ := ih { sr with gens := sr.gens.push _ } ⟨q.heap, q.drawn, q.toks, q.os, q.gens.push trivial⟩ r; ⟨sr', .newGen (by rw [← q.gens.sz]; exact a), b, c⟩
  | call _ _ ih1 ih2 =>
    intro sr q r
    obtain ⟨s1, a1, b1, _⟩ := ih1 sr q retOnly_nil
    obtain ⟨s2, a2, b2, c2⟩ := ih2 s1 b1 r
    exact ⟨s2, .call a1 a2, b2, c2⟩
  | callSusp _ ih1 =>
    intro sr q r
    obtain ⟨s1, a1, b1, c1⟩ := ih1 sr q retOnly_nil
    refine ⟨s1, .callSusp a1, b1, fun f hf => ?_⟩
    rcases List.mem_append.mp hf with hf | hf
    · exact c1 f hf
    · rw [List.mem_singleton.mp hf]
      exact fun _ _ _ _ _ z => by cases z
  | yield => exact fun sr q _ => ⟨sr, .yield, q, retOnly_nil⟩
  | resumeFresh hg _ hq _ ih1 ih2 =>
    intro sr q r
    obtain ⟨e1, _, e3⟩ := q.gens.same hg (fun _ _ _ _ _ z => by cases z)
    obtain ⟨s1, a1, b1, c1⟩ := ih1 _ (q.setGen (x := .running) trivial e3) retOnly_nil
    obtain ⟨s2, a2, b2, c2⟩ := ih2 _ (b1.setGen (genState_ok c1) e3) r
    exact ⟨s2, .resumeFresh e1 a1 hq a2, b2, c2⟩
  | resumeSuspended hg hrun hq _ ih1 ih2 =>
    intro sr q r
    obtain ⟨e1, e2, e3⟩ := q.gens.same hg (fun l c p fs cl z => by
      cases z
      exact bad_no hrun)
    obtain ⟨s1, a1, b1, c1⟩ := ih1 _ (q.setGen (x := .running) trivial e3) e2
    obtain ⟨s2, a2, b2, c2⟩ := ih2 _ (b1.setGen (genState_ok c1) e3) r
    exact ⟨s2, .resumeSuspended e1 a1 hq a2, b2, c2⟩
  | resumeJustStarted hg hv _ ih =>
    intro sr q r
    obtain ⟨e1, _, e3⟩ := q.gens.same hg (fun _ _ _ _ _ z => by cases z)
    obtain ⟨s1, a1, b1, c1⟩ := ih sr q r
    exact ⟨s1, .resumeJustStarted e1 hv a1, b1, c1⟩
  | resumeThrowFresh hg _ ih =>
    intro sr q r
    obtain ⟨e1, _, e3⟩ := q.gens.same hg (fun _ _ _ _ _ z => by cases z)
    obtain ⟨s1, a1, b1, c1⟩ := ih _ (q.setGen (x := .finished) trivial e3) r
    exact ⟨s1, .resumeThrowFresh e1 a1, b1, c1⟩
  | resumeRunning hg _ ih =>
    intro sr q r
    obtain ⟨e1, _, e3⟩ := q.gens.same hg (fun _ _ _ _ _ z => by cases z)
    obtain ⟨s1, a1, b1, c1⟩ := ih sr q r
    exact ⟨s1, .resumeRunning e1 a1, b1, c1⟩
  | resumeFinished hg _ ih =>
    intro sr q r
    obtain ⟨e1, _, e3⟩ := q.gens.same hg (fun _ _ _ _ _ z => by cases z)
    obtain ⟨s1, a1, b1, c1⟩ := ih sr q r
    exact ⟨s1, .resumeFinished e1 a1, b1, c1⟩
  | segRet _ _ ih1 ih2 =>
    intro sr q r
    obtain ⟨s1, a1, b1, _⟩ := ih1 sr q retOnly_nil
    obtain ⟨s2, a2, b2, c2⟩ := ih2 s1 b1 fun f hf => r f (List.mem_cons_of_mem _ hf)
    exact ⟨s2, .segRet a1 a2, b2, c2⟩
  | segGen _ _ ih1 ih2 => exact fun sr q r => absurd rfl (r _ List.mem_cons_self _ _ _ _ _)
  | segSuspOut hs _ ih1 =>
    intro sr q r
    obtain ⟨s1, a1, b1, c1⟩ := ih1 sr q retOnly_nil
    refine ⟨s1, .segSuspOut hs a1, b1, fun f hf => ?_⟩
    rcases List.mem_append.mp hf with hf | hf
    · exact c1 f hf
    · exact r f hf
  | segSuspGen hs _ hq _ ih1 ih2 =>
    intro sr q r
    rw [retOnly_split r] at hs
    cases hs
end GP

namespace GP
open PySem
open Sem (wp)
theorem unsup_no {M : Model} {Γ : Ctx} {p : Pos} {w : String} {fs : List Frame} {s s' : Shared} {e : End} (h : Runs M Γ p (.unsupported w) fs s e s') : False := by
  generalize ht : (Sem.unsupported w : Sem PySem.Fin) = t at h
  induction h <;> (try cases ht) <;> simp_all
open Classical in
theorem wakes_real {M : Model} {g0 : Array GenState} {Γ : Ctx} {p : Pos} {g : Nat} {r : Resume} {res : GenResult} {sp sp' sr : Shared} (h : Wakes M Γ p g r sp res sp') (q : SR g0 sp sr) : ∃ sr', Wakes M Γ p g r sr res sr' ∧ SR g0 sp' sr' := by
  have h1 : Runs M Γ p (.resume g r [] fun x => if x = res then (.pure (.done .next) : Sem PySem.Fin) else .unsupported "") [] sp (.ret (.ok .next)) sp' :=
    (Sem.runs_resume_iff M _).mpr ⟨res, sp', h, by rw [if_pos rfl]; exact .done⟩
  obtain ⟨sr', a, b, _⟩ := runs_real h1 sr q retOnly_nil
  obtain ⟨res', s1, w, hr⟩ := (Sem.runs_resume_iff M _).mp a
  by_cases e : res' = res
  · subst e
    rw [if_pos rfl] at hr
    have e2 : s1 = sr' := by cases hr; rfl
    subst e2
    exact ⟨s1, w, b⟩
  · rw [if_neg e] at hr
    exact (unsup_no hr).elim
theorem returns_real {M : Model} {g0 : Array GenState} {Γ : Ctx} {p : Pos} {r : Result} {sp sp' sr : Shared} (h : Returns M Γ p sp r sp') (q : SR g0 sp sr) : ∃ sr', Returns M Γ p sr r sr' ∧ SR g0 sp' sr' := by
  obtain ⟨sr', a, b, _⟩ := runs_real h sr q retOnly_nil
  exact ⟨sr', a, b⟩
theorem wp_real {M : Model} {g0 : Array GenState} {α : Type} {Γ : Ctx} (m : Sem α) : ∀ {Q : α → Pos → Shared → Prop} {E : Value → Pos → Shared → Prop} {p : Pos} {sp sr : Shared}, wp M Γ m Q E p sp → SR g0 sp sr →
    wp M Γ m (fun a p s => ∃ sp, SR g0 sp s ∧ Q a p sp) (fun a p s => ∃ sp, SR g0 sp s ∧ E a p sp) p sr := by
  induction m with
  | pure a => intro Q E p sp sr h q; exact ⟨sp, q, h⟩
  | raise x => intro Q E p sp sr h q; exact ⟨sp, q, h⟩
  | unsupported what => intro Q E p sp sr h; exact h.elim
  | finish x => intro Q E p sp sr h; exact h.elim
  | register a k => intro Q E p sp sr h; exact h.elim
  | yield v g l k => intro Q E p sp sr h; exact h.elim
  | fork c k => intro Q E p sp sr h; exact h.elim
  | await a f d l k => intro Q E p sp sr h; exact h.elim
  | rule tag k ih => intro Q E p sp sr h q; exact ih () h q
  | «at» p' k ih => intro Q E p sp sr h q; exact ih () h q
  | load a part k ih =>
    intro Q E p sp sr h q
    obtain ⟨o, ho, h⟩ := h
    exact ⟨o, q.heap ▸ ho, ih o h q⟩
  | update a part f k ih =>
    intro Q E p sp sr h q
    obtain ⟨ha, h⟩ := h
    exact ⟨q.heap ▸ ha, ih () h ⟨by show sp.heap.update a f = sr.heap.update a f; rw [q.heap], q.drawn, q.toks, q.os, q.gens⟩⟩
  | alloc o k ih =>
    intro Q E p sp sr h q
    have := ih sp.heap.objs.size h (sr := { sr with heap := sr.heap.push o }) ⟨by show sp.heap.push o = sr.heap.push o; rw [q.heap], q.drawn, q.toks, q.os, q.gens⟩
    show wp M Γ (k sr.heap.objs.size) _ _ p { sr with heap := sr.heap.push o }
    rw [← q.heap] at this ⊢
    exact this
  | loadIfAlive a k ih =>
    intro Q E p sp sr h q
    show wp M Γ (k (sr.heap.get? a)) _ _ p sr
    rw [← q.heap]
    exact ih _ h q
  | point l k ih => intro Q E p sp sr h q; exact ih () h q
  | fresh k ih =>
    intro Q E p sp sr h q
    have := ih sp.toks h (sr := { sr with toks := sr.toks + 1 }) ⟨q.heap, q.drawn, by show sp.toks + 1 = sr.toks + 1; rw [q.toks], q.os, q.gens⟩
    show wp M Γ (k sr.toks) _ _ p { sr with toks := sr.toks + 1 }
    rw [← q.toks] at this ⊢
    exact this
  | ask k ih => intro Q E p sp sr h q; exact ih _ h q
  | choose src n k ih =>
    intro Q E p sp sr h q
    obtain ⟨hn, h⟩ := h
    refine ⟨hn, ?_⟩
    have := ih _ h (sr := { sr with drawn := sr.drawn.bump src }) ⟨q.heap, by show sp.drawn.bump src = sr.drawn.bump src; rw [q.drawn], q.toks, q.os, q.gens⟩
    rw [← q.drawn] at this ⊢
    exact this
  | os o l k ih =>
    intro Q E p sp sr h q
    have := ih _ h (sr := { sr with os := (Os.step sr.os o).1 }) ⟨q.heap, q.drawn, q.toks, by show (Os.step sp.os o).1 = (Os.step sr.os o).1; rw [q.os], q.gens⟩
    show wp M Γ (k (Os.step sr.os o).2) _ _ p { sr with os := (Os.step sr.os o).1 }
    rw [← q.os] at this ⊢
    exact this
  | call c hh g l k ih =>
    intro Q E p sp sr h q
    obtain ⟨r, s1, hret, h⟩ := h
    obtain ⟨sr1, a, b⟩ := returns_real hret q
    exact ⟨r, sr1, a, ih r h b⟩
  | handled own k ih => intro Q E p sp sr h q; exact ih _ h q
  | newGen c k ih =>
    intro Q E p sp sr h q
    have := ih _ h (sr := { sr with gens := sr.gens.push (.fresh c) }) ⟨q.heap, q.drawn, q.toks, q.os, q.gens.push trivial⟩
    show wp M Γ (k sr.gens.size) _ _ p { sr with gens := sr.gens.push (.fresh c) }
    rw [← q.gens.sz]
    exact this
  | genState g k ih =>
    intro Q E p sp sr h q
    obtain ⟨st, hg, h⟩ := h
    obtain ⟨y, ey, es⟩ := q.gens.seen hg
    refine ⟨y, ey, ?_⟩
    rw [es]
    exact ih _ h q
  | resume g r l k ih =>
    intro Q E p sp sr h q
    obtain ⟨res, s1, hwk, h⟩ := h
    obtain ⟨sr1, a, b⟩ := wakes_real hwk q
    exact ⟨res, sr1, a, ih res h b⟩
  | stack k ih => intro Q E p sp sr h q; exact ih _ h q
  | thread k ih => intro Q E p sp sr h q; exact ih _ h q
/-- what runs where the sleepers are poisoned runs where they are whole, and leaves them alone -/
theorem wpAny_real {M : Model} {g0 : Array GenState} {α : Type} {A : Around} {m : Sem α} {Q : α → Shared → Prop} {E : Value → Shared → Prop} {sp sr : Shared} (h : wpAny M A m Q E sp) (q : SR g0 sp sr) : wpAny M A m (fun a s => ∃ sp, SR g0 sp s ∧ Q a sp) (fun a s => ∃ sp, SR g0 sp s ∧ E a sp) sr :=
  fun Γ p hΓ => wp_real m (h Γ p hΓ) q
def poisoned (s : Shared) : Shared := { s with gens := s.gens.map poison }
theorem SR.start (s : Shared) (h : ∀ x ∈ s.gens, isSusp x = false → genOk x) : SR s.gens (poisoned s) s := by
  refine ⟨rfl, rfl, rfl, rfl, ⟨by simp [poisoned], Nat.le_refl _, fun i x e => ?_⟩⟩
  have e2 : (poisoned s).gens[i]? = some (poison x) := by
    show (s.gens.map poison)[i]? = _
    rw [Array.getElem?_map, e]; rfl
  cases hx : isSusp x with
  | true => exact .inl ⟨rfl, e, e2⟩
  | false =>
    have ep : poison x = x := by cases x <;> first | rfl | cases hx
    rw [ep] at e2
    exact .inr ⟨e2, h x (Array.mem_of_getElem? e) hx, fun y ey => by rw [e] at ey; cases ey; exact hx⟩
theorem genOk_of {x : GenState} (h : isSusp x = false) : genOk x := by cases x <;> first | trivial | cases h
theorem SR.start' (s : Shared) : SR s.gens (poisoned s) s := SR.start s fun _ _ h => genOk_of h
/-- a sleeper is as it was -/
theorem SR.slept {g0 : Array GenState} {sp sr : Shared} (q : SR g0 sp sr) {g : Nat} {x : GenState} (e : g0[g]? = some x) (hx : isSusp x = true) : sr.gens[g]? = some x := by
  have hg : g < sr.gens.size := Nat.lt_of_lt_of_le (Array.getElem?_eq_some_iff.mp e).1 q.gens.le
  rcases q.gens.at_ g sr.gens[g] (Array.getElem?_eq_getElem hg) with ⟨_, h2, _⟩ | ⟨_, _, h3⟩
  · rw [Array.getElem?_eq_getElem hg, ← h2, e]
  · have := h3 x e
    rw [hx] at this; cases this
theorem poison_bare (x : GenState) : (poison x).bare = x.bare := by cases x <;> rfl
theorem poisoned_bare {s : Shared} (h : ∀ x ∈ s.gens, x.bare = true) : ∀ x ∈ (poisoned s).gens, x.bare = true := by
  intro x hx
  obtain ⟨y, hy, rfl⟩ := Array.mem_map.mp hx
  rw [poison_bare]
  exact h y hy
theorem SR.bare {g0 : Array GenState} {sp sr : Shared} (q : SR g0 sp sr) (h : ∀ x ∈ sp.gens, x.bare = true) : ∀ x ∈ sr.gens, x.bare = true := by
  intro x hx
  obtain ⟨i, hi, e⟩ := Array.mem_iff_getElem.mp hx
  have e' : sr.gens[i]? = some x := by rw [Array.getElem?_eq_getElem hi, e]
  rcases q.gens.at_ i x e' with ⟨_, _, h2⟩ | ⟨h1, _, _⟩
  · have := h _ (Array.mem_of_getElem? h2)
    rw [poison_bare] at this
    exact this
  · exact h _ (Array.mem_of_getElem? h1)
end GP

namespace GP
open PySem PySem.Spec L2 PyProof.Rows
/-! ### a loop over a generator's object -/
theorem inv_poison {X : Cx} {pins : List (Addr × Obj)} {σ : L2.St} {H : Hp} {s : Shared} (I : Inv X pins σ H s) : Inv X pins σ H (poisoned s) :=
  ⟨I.ok, I.os, poisoned_bare I.bare, I.base, I.loc, I.cell, I.free, I.freeC, I.pin, I.hok, I.len⟩
theorem inv_real {X : Cx} {pins : List (Addr × Obj)} {σ : L2.St} {H : Hp} {g0 : Array GenState} {sp s : Shared} (q : SR g0 sp s) (I : Inv X pins σ H sp) : Inv X pins σ H s := by
  have hb := q.bare I.bare
  obtain ⟨h1, g1, d1, t1, o1⟩ := sp
  obtain ⟨h2, g2, d2, t2, o2⟩ := s
  obtain ⟨e1, e2, e3, e4, _⟩ := q
  simp only at e1 e2 e3 e4
  subst e1 e2 e3 e4
  exact ⟨I.ok, I.os, hb, I.base, I.loc, I.cell, I.free, I.freeC, I.pin, I.hok, I.len⟩
def Ext (H H' : Hp) : Prop := ∀ b o, H b = some o → H' b = some o
/-- as tFor; the last turn may track more -/
def tForG (wi : TI) (g : TG) (tb : TS) : TS := fun D σ H => wi σ H fun J H1 => ∃ W : Nat → Nat → L2.St → Hp → Prop, (∃ m, W 0 m σ H1) ∧ ∀ i m σ H, W i m σ H →
  (J.stop i H ∧ ∀ H', Ext H H' → D.nx σ H') ∨ (J.go i H ∧ ∃ N : L2.St → Hp → Prop, (∀ σ' H', N σ' H' → ∃ m', m' < m ∧ W (i + 1) m' σ' H') ∧ ∀ x H', J.yld i H x H' → g x σ H' fun σ2 H2 => tb { D with nx := N, ct := N, bk := D.nx } σ2 H2)
structure GTurn (X : Cx) (tg : Expr) (J : It) (g : Nat) (it : Addr) (pins : List (Addr × Obj)) (tn : Nat → Shared → List Addr → Prop) : Prop where
  obj : ∀ i s fp, tn i s fp → ∀ b ∈ fp, ∃ o, s.heap.get? b = some o ∧ ∀ v, o.data ≠ .cell v
  keep : ∀ i s s' fp pins' σ H, tn i s fp → Inv X pins' σ H s' → (∀ b ∈ fp, ∀ o, s.heap.get? b = some o → s'.heap.get? b = some o) → s'.gens[g]? = s.gens[g]? → tn i s' fp
  item : ∀ (i : Nat) (s : Shared) (σ : L2.St) (H : Hp) (fp : List Addr), Inv X pins σ H s → (∀ b ∈ fp, FpOk X pins H b) → tn i s fp → J.go i H →
    wpAny (model X.prog X.w) X.A (pyNext (.ref it)) (fun r s1 => ∃ u, r = some u ∧
      wpAny (model X.prog X.w) X.A (letOwnedTupleGo tg (.ref it) u) (fun _ s2 => ∃ x H' fp', Inv X pins σ H' s2 ∧ RelV x u ∧ J.yld i H x H' ∧ tn (i + 1) s2 fp' ∧ (∃ y, s2.gens[g]? = some y ∧ isSusp y = true) ∧ ∀ b ∈ fp', FpOk X pins H' b) X.xe s1) X.xe s
  done : ∀ (i : Nat) (s : Shared) (σ : L2.St) (H : Hp) (fp : List Addr), Inv X pins σ H s → (∀ b ∈ fp, FpOk X pins H b) → tn i s fp → J.stop i H →
    wpAny (model X.prog X.w) X.A (pyNext (.ref it)) (fun r s1 => r = none ∧ ∃ H', Inv X pins σ H' s1 ∧ Ext H H') X.xe s
def PGE (X : Cx) (pins : List (Addr × Obj)) (σ : L2.St) (tg : Expr) (R : It → Hp → Prop) (itv : Value) (s2 : Shared) : Prop :=
  ∃ (it : Addr) (g : Nat) (fp : List Addr) (tn : Nat → Shared → List Addr → Prop) (J : It) (H' : Hp), itv = .ref it ∧ Inv X pins σ H' s2 ∧ GTurn X tg J g it pins tn ∧ tn 0 s2 fp ∧ (∀ b ∈ fp, FpOk X pins H' b) ∧ R J H'
structure PIG (X : Cx) (tg iter : Expr) (wi : TI) : Prop where
  run : ∀ (pins : List (Addr × Obj)) (s : Shared) (σ : L2.St) (H : Hp) (R : It → Hp → Prop), Inv X pins σ H s → wi σ H R →
    wpAny (model X.prog X.w) X.A (eval iter X.env) (fun v s1 => wpAny (model X.prog X.w) X.A (pyIter v) (PGE X pins σ tg R) X.xe s1) X.xe s
/-- the target's store and the body, where the generator sleeps -/
theorem slept_run {X : Cx} {tg : Expr} {body : List Stmt} {g : TG} {tb : TS} {D : Ends} {pins : List (Addr × Obj)} {s : Shared} {σ : L2.St} {H : Hp} {x : V} {u : Value} (hx : ∀ e s, ¬ X.xe e s) (hg : PG X tg g) (hb : PSs X body tb) (I : Inv X pins σ H s) (r : RelV x u) (h : g x σ H fun σ2 H2 => tb D σ2 H2) :
    wpAny (model X.prog X.w) X.A (assign tg X.env u) (fun _ s6 => wpAny (model X.prog X.w) X.A (execs body X.env) (fun f s7 => SP X pins D f s7 ∧ ∀ (k : Nat) y, s.gens[k]? = some y → isSusp y = true → s7.gens[k]? = some y) X.xe s6) X.xe s := by
  have q0 := SR.start' s
  have r1 := hg.run _ (poisoned s) σ H x u _ (inv_poison I) r h
  refine wpAny_mono (wpAny_real r1 q0) (fun _ s6 ⟨s6p, q6, σ6, H6, I6, h6⟩ => ?_) fun e s6 ⟨sp, _, z⟩ => absurd z (hx e sp)
  have r2 := hb.run _ s6p σ6 H6 D I6 h6
  refine wpAny_mono (wpAny_real r2 q6) (fun f s7 ⟨s7p, q7, h7⟩ => ⟨?_, fun k y ek hy => q7.slept ek hy⟩) fun e s6 ⟨sp, _, z⟩ => absurd z (hx e sp)
  cases f with
  | next => obtain ⟨σ7, H7, I7, q⟩ := h7; exact ⟨σ7, H7, inv_real q7 I7, q⟩
  | cont => obtain ⟨σ7, H7, I7, q⟩ := h7; exact ⟨σ7, H7, inv_real q7 I7, q⟩
  | brk => obtain ⟨σ7, H7, I7, q⟩ := h7; exact ⟨σ7, H7, inv_real q7 I7, q⟩
  | ret v => obtain ⟨x7, σ7, H7, I7, r7, q⟩ := h7; exact ⟨x7, σ7, H7, inv_real q7 I7, r7, q⟩
theorem ps_forG {X : Cx} {tg iter : Expr} {body : List Stmt} {wi : TI} {g : TG} {tb : TS} {pos : Pos} (hx : ∀ e s, ¬ X.xe e s) (hp : PassesOwn (model X.prog X.w) X.A X.env X.xe) (hi : PIG X tg iter wi) (hg : PG X tg g) (hb : PSs X body tb)
    (hs : ∀ x, foldedSetIterable iter X.env x = pure x := by intro _; rfl) : PS X (.For tg iter body [] pos) (tForG wi g tb) := by
  refine ⟨fun pins s σ H D I h => ?_⟩
  refine wpAny_For (thn (hi.run pins s σ H _ I h) fun v s1 h1 => thn h1 fun itv s2 h2 => ?_) hs
  obtain ⟨it, gg, fp, tn, J, H2, e, I2, T, st2, f2, W, ⟨m0, w0⟩, turn⟩ := h2
  subst e
  refine codeAny_forLoop_any (fun n s' => ∃ i σ' H' fp, Inv X pins σ' H' s' ∧ tn i s' fp ∧ (∀ b ∈ fp, FpOk X pins H' b) ∧ W i n σ' H') ?_ m0 ⟨0, σ, H2, fp, I2, st2, f2, w0⟩
  clear st2 f2
  rintro n s3 ⟨i, σ3, H3, fp3, I3, st3, fr3, w3⟩
  rcases turn i n σ3 H3 w3 with ⟨stop, qn⟩ | ⟨go, N, hN, step⟩
  · refine wpAny_passesOwn hp (thn (T.done i s3 σ3 H3 fp3 I3 fr3 st3 stop) fun r s4 ⟨hr, H4, I4, e4⟩ => ?_)
    subst hr
    exact wpAny_execs_nil ⟨σ3, H4, I4, qn H4 e4⟩
  · refine wpAny_passesOwn hp (thn (T.item i s3 σ3 H3 fp3 I3 fr3 st3 go) fun r s4 ⟨u, hr, h4⟩ => ?_)
    subst hr
    refine wpAny_passesOwn hp (thn h4 fun _ s5 ⟨x, H5, fp5, I5, r5, y5, st5, ⟨y, ey, sy⟩, fr5⟩ => ?_)
    have I5' := I5.pinned fr5 (T.obj _ _ _ st5)
    refine wpAny_passesOwn hp (thn (slept_run hx hg hb I5' r5 (step x H5 y5)) fun _ s6 h6 => ?_)
    refine wpAny_passesOwn hp (thn h6 fun f s7 ⟨q7, k7⟩ => ?_)
    have g7 : s7.gens[gg]? = s5.gens[gg]? := by rw [ey]; exact k7 gg y ey sy
    have again : ∀ {σ7 : L2.St} {H7 : Hp}, Inv X (pins ++ pinsAt fp5 s5.heap) σ7 H7 s7 → N σ7 H7 → ∃ m, m < n ∧ ∃ i σ' H' fp, Inv X pins σ' H' s7 ∧ tn i s7 fp ∧ (∀ b ∈ fp, FpOk X pins H' b) ∧ W i m σ' H' := fun {σ7 H7} I7 n7 => by
      obtain ⟨m', hm, w7⟩ := hN σ7 H7 n7
      refine ⟨m', hm, i + 1, σ7, H7, fp5, I7.unpinned, T.keep _ _ _ _ _ _ _ st5 I7 (fun b hb o e => (I7.pin (b, o) (List.mem_append_right _ (List.mem_append_right _ (mem_pinsAt hb e)))).1) g7, fun b hb => ?_, w7⟩
      obtain ⟨o, e, d⟩ := T.obj _ _ _ st5 b hb
      refine ⟨?_, (fr5 b hb).2⟩
      exact (I7.pin (b, o) (List.mem_append_right _ (List.mem_append_right _ (mem_pinsAt hb e)))).2.1
    cases f with
    | next => obtain ⟨σ7, H7, I7, n7⟩ := q7; exact again I7 n7
    | cont => obtain ⟨σ7, H7, I7, n7⟩ := q7; exact again I7 n7
    | brk => obtain ⟨σ7, H7, I7, q7⟩ := q7; exact ⟨σ7, H7, I7.unpinned, q7⟩
    | ret v => obtain ⟨x7, σ7, H7, I7, r7, q7⟩ := q7; exact ⟨x7, σ7, H7, I7.unpinned, r7, q7⟩
end GP

namespace GP
open PySem PySem.Spec L2 PyProof.Rows GenW
/-! ### for, within a generator (no exception) -/
section
variable {M : Model} {A : Around} {R : GenEnd} {Y : Protocol} {n : Nat} {s₀ : Shared} {c : Code} {fs : List Frame} {s : Shared} {env : Env}
  {K : Flow → Sem PySem.Fin} {H : Value → Sem PySem.Fin} {gd : Bool → Bool} {lv : List Value → List Value}
def ff : Value → Shared → Prop := fun _ _ => False
def backK (env : Env) (K : Flow → Sem PySem.Fin) (H : Value → Sem PySem.Fin) (gd : Bool → Bool) (lv : List Value → List Value) : Result → Sem PySem.Fin := fun r => ((match r with | .ok f => (.pure f : Sem Flow) | .error e => .raise e).onRaise fun (x : Value) => do
        if (← field x 1) == Value.none then unsupported "frame.own-activation:exception-without-traceback"
        setFlight x env.frame).wrap K H gd lv
theorem seg_For {target iter : Expr} {body : List Stmt} {pos : Pos}
    (h : wpAny M (A.over c fs) (eval iter env) (fun x s1 => wpAny M (A.over c fs) (pyIter x) (fun it s2 => ∀ p, Seg M A R Y n s₀ (.forLoop target it body [] env) (M.den (.forLoop target it body [] env)) (.ret (backK env K H gd lv) none (gd false) (lv []) c p [] :: fs) s2) ff s1) ff s)
    (hs : ∀ x, foldedSetIterable iter env x = pure x := by intro _; rfl) : Seg M A R Y n s₀ c ((exec (.For target iter body [] pos) env).wrap K H gd lv) fs s := by
  rw [exec_For]
  refine seg_bind_wrap (wpAny_standAt ?_)
  refine seg_bind_wrap (wpAny_mono h (fun x s1 h1 => ?_) fun _ _ z => z.elim)
  refine seg_bind_wrap (wpAny_of_eq (hs x) ?_)
  refine seg_bind_wrap (wpAny_standAt ?_)
  refine seg_bind_wrap (wpAny_holding (wpAny_mono h1 (fun it s2 h2 => ?_) fun _ _ z => z.elim))
  exact seg_call h2
end
section
variable {prog : Program} {w : World} {A : Around} {R : GenEnd} {Y : Protocol} {n : Nat} {s₀ : Shared} {fs : List Frame} {s : Shared} {env : Env}
theorem seg_forLoop {target : Expr} {it : Value} {body : List Stmt}
    (h : wpAny (model prog w) (A.over (.forLoop target it body [] env) fs) (pyNext it) (fun r s1 => match r with
      | none => Seg (model prog w) A R Y n s₀ (.forLoop target it body [] env) (.pure (.again (.block [] env))) fs s1
      | some v => wpAny (model prog w) (A.over (.forLoop target it body [] env) fs) (letOwnedTupleGo target it v) (fun _ s2 => wpAny (model prog w) (A.over (.forLoop target it body [] env) fs) (assign target env v) (fun _ s3 =>
          ∀ HH, Seg (model prog w) A R Y n s₀ (.forLoop target it body [] env) ((execs body env).wrap (fun f => match f with
            | .next | .cont => .pure (.again (.forLoop target it body [] env))
            | .brk => .pure (.done .next)
            | .ret v => .pure (.done (.ret v))) HH id id) fs s3) ff s2) ff s1) ff s) :
    Seg (model prog w) A R Y n s₀ (.forLoop target it body [] env) ((model prog w).den (.forLoop target it body [] env)) fs s := by
  show Seg _ A R Y n s₀ _ ((forTurn target it body [] env).onRaise (fun x => do noteFrame x env; theTreesLotGoes x)) fs s
  unfold forTurn
  rw [Sem.onRaise_eq_wrap]
  refine seg_bind_wrap (wpAny_standAt ?_)
  refine seg_bind_wrap (wpAny_onRaise (wpAny_mono h (fun r s1 h1 => ?_) fun _ _ z => z.elim))
  cases r with
  | none => exact h1
  | some v =>
    refine seg_bind_wrap (wpAny_mono h1 (fun _ s2 h2 => ?_) fun _ _ z => z.elim)
    refine seg_bind_wrap (wpAny_mono h2 (fun _ s3 h3 => ?_) fun _ _ z => z.elim)
    rw [Sem.bind_eq_wrap', Sem.wrap_wrap]
    rw [Sem.wrap_congr (execs body env) _ _ (K' := fun f => match f with
            | .next | .cont => .pure (.again (.forLoop target it body [] env))
            | .brk => .pure (.done .next)
            | .ret v => .pure (.done (.ret v))) (fun f => by cases f <;> rfl) (fun e => rfl)]
    exact h3 _
theorem seg_block {K : Flow → Sem PySem.Fin} (h : Seg (model prog w) A R Y n s₀ (.block [] env) (.pure (.done .next)) fs s) : Seg (model prog w) A R Y n s₀ (.block [] env) ((model prog w).den (.block [] env)) fs s := by
  exact h
end
end GP

namespace GP
open PySem PySem.Spec L2 PyProof.Rows GenW
/-! ### one segment of a generator's run -/
def Seg1 (M : Model) (A : Around) (Φ : End → Shared → Prop) (c : Code) (t : Sem PySem.Fin) (fs : List Frame) (s : Shared) : Prop := ∀ Γ p, Γ.code = c → Γ.Woken A → ∃ e s', Runs M Γ p t fs s e s' ∧ Φ e s'
section
variable {M : Model} {A : Around} {Φ : End → Shared → Prop} {c : Code} {fs : List Frame} {s : Shared} {env : Env}
theorem seg1_wrap {α : Type} {m : Sem α} {K : α → Sem PySem.Fin} {H : Value → Sem PySem.Fin} {gd lv}
    (h : wpAny M (A.over c fs) m (fun a s' => Seg1 M A Φ c (K a) fs s') (fun x s' => Seg1 M A Φ c (H x) fs s') s) : Seg1 M A Φ c (m.wrap K H gd lv) fs s := by
  rintro Γ p rfl hΓ
  exact runs_wrap_of_wp K H gd lv m (h (Γ.over fs) p (hΓ.over fs)) (fun a p' s' h' => h' Γ p' rfl hΓ) (fun x p' s' h' => h' Γ p' rfl hΓ)
theorem seg1_bw {α β : Type} {m : Sem α} {K : α → Sem β} {K' : β → Sem PySem.Fin} {H' : Value → Sem PySem.Fin} {gd lv}
    (h : wpAny M (A.over c fs) m (fun a s' => Seg1 M A Φ c ((K a).wrap K' H' gd lv) fs s') ff s) : Seg1 M A Φ c ((m >>= K).wrap K' H' gd lv) fs s := by
  rw [Sem.bind_eq_wrap', Sem.wrap_wrap]
  exact seg1_wrap (wpAny_mono h (fun _ _ z => z) fun _ _ z => z.elim)
theorem seg1_at {p' : Pos} {k : Unit → Sem PySem.Fin} (h : Seg1 M A Φ c (k ()) fs s) : Seg1 M A Φ c (.at p' k) fs s :=
  seg1_wrap (m := standAt p') (K := k) (H := .raise) (gd := id) (lv := id) (wpAny_standAt h)
theorem seg1_call {c' : Code} {h g l} {k : Result → Sem PySem.Fin} (hc : ∀ p, Seg1 M A Φ c' (M.den c') (.ret k h g l c p [] :: fs) s) : Seg1 M A Φ c (.call c' h g l k) fs s := by
  rintro Γ p rfl hΓ
  obtain ⟨e, s', hr, he⟩ := hc p (Γ.goto c') p rfl (hΓ.goto c')
  exact ⟨e, s', runs_call_seg hr, he⟩
theorem seg1_leaf {k h g l c₁ p₁ kp} (r : Result) (hk : Seg1 M A Φ c₁ (k r) fs s) : Seg1 M A Φ c (leafOf r) (.ret k h g l c₁ p₁ kp :: fs) s := by
  rintro Γ p rfl hΓ
  obtain ⟨e, s', hr, he⟩ := hk (Γ.goto c₁) p₁ rfl (hΓ.goto c₁)
  exact ⟨e, s', Runs.pop r hr, he⟩
theorem seg1_again {c' : Code} (hq : c'.quiet = true) (hc : Seg1 M A Φ c' (M.den c') fs s) : Seg1 M A Φ c (.pure (.again c')) fs s := by
  rintro Γ p rfl hΓ
  obtain ⟨e, s', hr, he⟩ := hc (Γ.goto c') p rfl (hΓ.goto c')
  exact ⟨e, s', Runs.head (c₁ := c') (fun _ _ x => .again hq x) hr, he⟩
theorem seg1_end (r : Result) (h : Φ (.ret r) s) : Seg1 M A Φ c (leafOf r) [] s := by
  rintro Γ p rfl _
  exact ⟨.ret r, s, Runs.leaf r, h⟩
theorem seg1_yield {v g l} {k : Resume → Sem PySem.Fin} (hfs : splitAtGen fs = none) (h : ∀ p, Φ (.susp v g l k c p fs) s) : Seg1 M A Φ c (.yield v g l k) fs s := by
  rintro Γ p rfl _
  exact ⟨_, s, Runs.yield' fs hfs, h p⟩
variable {K : Flow → Sem PySem.Fin} {H : Value → Sem PySem.Fin} {gd : Bool → Bool} {lv : List Value → List Value}
theorem seg1_nil (h : Seg1 M A Φ c (K .next) fs s) : Seg1 M A Φ c ((execs [] env).wrap K H gd lv) fs s := h
theorem seg1_cons {st : Stmt} {rest : List Stmt} (h : Seg1 M A Φ c ((exec st env).wrap (fun f => match f with | .next => (execs rest env).wrap K H gd lv | f => K f) H gd lv) fs s) : Seg1 M A Φ c ((execs (st :: rest) env).wrap K H gd lv) fs s := by
  rw [execs_cons_wrap]; exact h
theorem seg1_For {target iter : Expr} {body : List Stmt} {pos : Pos}
    (h : wpAny M (A.over c fs) (eval iter env) (fun x s1 => wpAny M (A.over c fs) (pyIter x) (fun it s2 => ∀ p, Seg1 M A Φ (.forLoop target it body [] env) (M.den (.forLoop target it body [] env)) (.ret (backK env K H gd lv) none (gd false) (lv []) c p [] :: fs) s2) ff s1) ff s)
    (hs : ∀ x, foldedSetIterable iter env x = pure x := by intro _; rfl) : Seg1 M A Φ c ((exec (.For target iter body [] pos) env).wrap K H gd lv) fs s := by
  rw [exec_For]
  refine seg1_bw (wpAny_standAt ?_)
  refine seg1_bw (wpAny_mono h (fun x s1 h1 => ?_) fun _ _ z => z)
  refine seg1_bw (wpAny_of_eq (hs x) ?_)
  refine seg1_bw (wpAny_standAt ?_)
  refine seg1_bw (wpAny_holding (wpAny_mono h1 (fun it s2 h2 => ?_) fun _ _ z => z))
  exact seg1_call h2
theorem seg1_Yield {e : Expr} {ypos pos : Pos} (hfs : splitAtGen fs = none)
    (h : wpAny M (A.over c fs) (eval e env) (fun v s' => ∀ p (k : Resume → Sem PySem.Fin), k (.send .none) = K .next → Φ (.susp v (gd false) (lv []) k c p fs) s') ff s) (hco : env.scope.isCoroutine = false := by rfl) (hi : interactive env = false := by rfl) :
    Seg1 M A Φ c ((exec (.Expr (.Yield (some e) ypos) pos) env).wrap K H gd lv) fs s := by
  rw [exec_Expr env _ pos hi rfl]
  show Seg1 M A Φ c (.at pos fun _ => ((eval e env >>= fun v => (standAt ypos >>= fun _ => yieldOut env v)) >>= fun x => dropValue (.Yield (some e) ypos) pos x).wrap K H gd lv) fs s
  have hy : ∀ v, yieldOut env v = yieldValue v := fun v => by simp only [yieldOut, hco, Bool.false_eq_true, if_false]
  simp only [hy]
  refine seg1_at ?_
  rw [Sem.bind_eq_wrap', Sem.bind_eq_wrap', Sem.wrap_wrap, Sem.wrap_wrap]
  refine seg1_wrap (wpAny_mono h (fun v s' h' => ?_) fun _ _ z => z.elim)
  refine seg1_at (seg1_yield hfs fun p => h' p _ rfl)
end
section
variable {prog : Program} {w : World} {A : Around} {Φ : End → Shared → Prop} {fs : List Frame} {s : Shared} {env : Env}
theorem seg1_forLoop {target : Expr} {it : Value} {body : List Stmt}
    (h : wpAny (model prog w) (A.over (.forLoop target it body [] env) fs) (pyNext it) (fun r s1 => match r with
      | none => Seg1 (model prog w) A Φ (.forLoop target it body [] env) (.pure (.again (.block [] env))) fs s1
      | some v => wpAny (model prog w) (A.over (.forLoop target it body [] env) fs) (letOwnedTupleGo target it v) (fun _ s2 => wpAny (model prog w) (A.over (.forLoop target it body [] env) fs) (assign target env v) (fun _ s3 =>
          ∀ HH, Seg1 (model prog w) A Φ (.forLoop target it body [] env) ((execs body env).wrap (fun f => match f with
            | .next | .cont => .pure (.again (.forLoop target it body [] env))
            | .brk => .pure (.done .next)
            | .ret v => .pure (.done (.ret v))) HH id id) fs s3) ff s2) ff s1) ff s) :
    Seg1 (model prog w) A Φ (.forLoop target it body [] env) ((model prog w).den (.forLoop target it body [] env)) fs s := by
  show Seg1 _ A Φ _ ((forTurn target it body [] env).onRaise (fun x => do noteFrame x env; theTreesLotGoes x)) fs s
  unfold forTurn
  rw [Sem.onRaise_eq_wrap]
  refine seg1_bw (wpAny_standAt ?_)
  refine seg1_bw (wpAny_onRaise (wpAny_mono h (fun r s1 h1 => ?_) fun _ _ z => z.elim))
  cases r with
  | none => exact h1
  | some v =>
    refine seg1_bw (wpAny_mono h1 (fun _ s2 h2 => ?_) fun _ _ z => z)
    refine seg1_bw (wpAny_mono h2 (fun _ s3 h3 => ?_) fun _ _ z => z)
    rw [Sem.bind_eq_wrap', Sem.wrap_wrap]
    rw [Sem.wrap_congr (execs body env) _ _ (K' := fun f => match f with
            | .next | .cont => .pure (.again (.forLoop target it body [] env))
            | .brk => .pure (.done .next)
            | .ret v => .pure (.done (.ret v))) (fun f => by cases f <;> rfl) (fun e => rfl)]
    exact h3 _
theorem seg1_func {body : List Stmt} (h : ∀ HH, Seg1 (model prog w) A Φ (.func body env) ((execs body env).wrap (fun f => .pure (.done (.ret (match f with | .ret v => v | _ => .none)))) HH id id) fs s) :
    Seg1 (model prog w) A Φ (.func body env) ((model prog w).den (.func body env)) fs s := by
  show Seg1 _ A Φ _ (.point [] fun _ => ((execs body env).onRaise (leaving env)) >>= _) fs s
  refine seg1_wrap (m := point) (H := .raise) (gd := id) (lv := fun _ => []) (wpAny_point ?_)
  rw [Sem.onRaise_eq_wrap, Sem.bind_eq_wrap', Sem.wrap_wrap]
  rw [Sem.wrap_congr (execs body env) _ _ (K' := fun f => .pure (.done (.ret (match f with | .ret v => v | _ => .none)))) (fun f => by cases f <;> rfl) (fun e => rfl)]
  exact h _
/-- the next turn of a generator, by one segment -/
theorem wpAny_resume1 {M : Model} {α : Type} {g : Nat} {gs : GenState} {l : List Value} {k : GenResult → Sem α} {Q : α → Shared → Prop} {E : Value → Shared → Prop} (hg : s.gens[g]? = some gs)
    (hgo : match gs with
      | .fresh c => Seg1 M A Φ c (M.den c) [] (s.setGen g .running)
      | .suspended k₀ _ c _ fs _ => Seg1 M A Φ c (k₀ (.send .none)) fs (s.setGen g .running)
      | _ => False)
    (hΦ : ∀ e s1, Φ e s1 → e.quiet = true ∧ wpAny M A (k e.result) Q E (s1.setGen g e.genState)) : wpAny M A (.resume g (.send .none) l k) Q E s := by
  intro Γ p hΓ
  rw [Sem.wp_resume]
  have hB : ∀ c, (Γ.wake c p).Woken A := fun c => hΓ.wake c p
  cases gs with
  | fresh c =>
    obtain ⟨e₁, s₁, hr, he⟩ := hgo (Γ.wake c p) p rfl (hB c)
    obtain ⟨hq, hk⟩ := hΦ e₁ s₁ he
    exact ⟨_, _, by unfold Wakes; rw [hg]; exact ⟨e₁, s₁, hr, hq, rfl, rfl⟩, hk Γ p hΓ⟩
  | suspended k₀ l₀ c₀ p₀ fs₀ cl =>
    obtain ⟨e₁, s₁, hr, he⟩ := hgo (Γ.wake c₀ p) p₀ rfl (hB c₀)
    obtain ⟨hq, hk⟩ := hΦ e₁ s₁ he
    exact ⟨_, _, by unfold Wakes; rw [hg]; exact ⟨e₁, s₁, hr, hq, rfl, rfl⟩, hk Γ p hΓ⟩
  | running => exact hgo.elim
  | finished => exact hgo.elim
end
end GP

namespace GP
open PySem PySem.Spec L2 PyProof.Rows GenW DM
/-! ### the heap below an address -/
def cutH (h : Heap) (L : Nat) : Heap := ⟨h.objs.extract 0 L, h.life⟩
theorem cutH_get {h : Heap} {L b : Nat} : (cutH h L).get? b = if b < L then h.get? b else none := by
  unfold cutH Heap.get?
  by_cases hb : b < L
  · rw [if_pos hb]
    have : (h.objs.extract 0 L)[b]? = h.objs[b]? := by
      rw [Array.getElem?_extract]
      by_cases hs : b < h.objs.size
      · simp [hb, hs, Nat.lt_min]
      · rw [if_neg (by omega), Array.getElem?_eq_none (by omega)]
    simp only [this]
  · rw [if_neg hb]
    have : (h.objs.extract 0 L)[b]? = none := Array.getElem?_eq_none (by simp; omega)
    simp only [this]
theorem cutH_some {h : Heap} {L b : Nat} {o : Obj} (e : (cutH h L).get? b = some o) : b < L ∧ h.get? b = some o := by
  rw [cutH_get] at e
  by_cases hb : b < L
  · rw [if_pos hb] at e; exact ⟨hb, e⟩
  · rw [if_neg hb] at e; cases e
theorem cutH_size {h : Heap} {L : Nat} : (cutH h L).objs.size = min L h.objs.size := by unfold cutH; simp
theorem Ext.refl (H : Hp) : Ext H H := fun _ _ h => h
theorem Ext.trans {H1 H2 H3 : Hp} (a : Ext H1 H2) (b : Ext H2 H3) : Ext H1 H3 := fun x o h => b x o (a x o h)
theorem Ext.of_le {H H' : Hp} {ι : List Addr} (l : Le [] H ι H') : Ext H H' := fun b o h => l.keep b o (by simp) h
/-- a generator's call -/
structure Gp where
  P : Program
  w : World
  K : PySem.W.Frag
  mg : Str → Option Value
  base : Heap
  N : List Str
  qual : Str
  sc : Scope
  f : Addr
  cd : Value
  A : Around
  outer : List Env
  L : Nat
  pn : List (Addr × Obj)
/-- the same, with these guests -/
abbrev Gp.wi (G : Gp) (gp : List (Addr × Obj)) : Gp := { G with pn := gp }
abbrev Gp.env (G : Gp) : Env := envOfC G.qual G.sc G.L G.f G.cd
structure Gp.Ok (G : Gp) : Prop where
  kind : G.sc.kind = .function
  co : G.sc.isCoroutine = false
  ce : cellsFrom (G.L + 1) G.sc.names [] = []
  nc : ∀ x, G.sc.names.lookup x ≠ some .cell ∧ G.sc.names.lookup x ≠ some .free
  hd : G.A.handled = none
  bL : G.base.objs.size ≤ G.L
  fL : ∀ b ∈ frs G.outer, b < G.L
abbrev Gp.E0 (G : Gp) (s : Shared) (H : Hp) : Prop := Env0 G.P G.w G.K G.mg G.base G.A G.outer s H
/-- the context of a segment that begins at s -/
def Gp.X (G : Gp) (s : Shared) (H : Hp) : Cx where
  prog := G.P
  w := G.w
  K := G.K
  mg := G.mg
  base := G.base
  A := G.A.deeper G.env
  N := G.N
  s_0 := { s with heap := cutH s.heap G.L }
  H_0 := H
  env := G.env
  outer := G.outer
  stack := G.env :: G.outer
  ex := []
  fn := fun _ => true
  calm := true
  pn := G.pn
  xe := ff
theorem funs_cut {h base : Heap} {L : Nat} : ∀ {l : List Env}, h.FunFrames base l → (∀ b ∈ frs l, b < L) → (cutH h L).FunFrames base l
  | [], _, _ => trivial
  | env :: r, ⟨h1, ⟨L0, o, hf, hb, ho, hd⟩, h3⟩, hl => by
    have m0 : L0 ∈ frs (env :: r) := by unfold frs; rw [List.filterMap_cons, hf]; exact List.mem_cons_self
    refine ⟨h1, ⟨L0, o, hf, hb, by rw [cutH_get, if_pos (hl L0 m0)]; exact ho, hd⟩, funs_cut h3 fun b hb => hl b ?_⟩
    unfold frs at hb ⊢
    rw [List.filterMap_cons, hf]
    exact List.mem_cons_of_mem _ hb
section
variable {G : Gp} (ok : G.Ok)
include ok
theorem Gp.Ok.nocell {x : Str} {c : Addr} (h : G.env.cells.lookup x = some c) : False := by
  have e : G.env.cells = [] := ok.ce
  rw [e] at h; simp at h
theorem Gp.Ok.cx {s : Shared} {H : Hp} (e0 : G.E0 s H) : (G.X s H).Ok := by
  refine ⟨e0.mod, ok.kind, rfl, rfl, ?_, fun x y c h => (ok.nocell h).elim, fun x hx => ?_, fun x c _ h => (ok.nocell h).elim, fun _ => ok.hd, Around.frames_deeper e0.frames, .inr ⟨rfl, rfl⟩, fun b hb => absurd hb (by simp [Gp.X]), fun b o e => ?_, ?_, fun b o _ hb => absurd hb (by simp [Gp.X]), fun b hb => absurd hb (by simp [Gp.X]), funs_cut e0.funs ok.fL, e0.frf⟩
  · show (cutH s.heap G.L).objs.size ≤ G.L
    rw [cutH_size]; omega
  · have hx : G.sc.names.lookup x = some .cell ∨ G.sc.names.lookup x = some .free := hx
    rcases hx with z | z
    · exact absurd z (ok.nc x).1
    · exact absurd z (ok.nc x).2
  · obtain ⟨e1, e2⟩ := e0.bs b o e
    refine ⟨?_, e2⟩
    show (cutH s.heap G.L).get? b = some o
    rw [cutH_get, if_pos (Nat.lt_of_lt_of_le (Heap.lt_size e) ok.bL)]
    exact e1
  · show G.base.objs.size ≤ (cutH s.heap G.L).objs.size
    rw [cutH_size]
    have := e0.bsz
    have := ok.bL
    omega
theorem Gp.Ok.wi (gp : List (Addr × Obj)) : (G.wi gp).Ok := ⟨ok.kind, ok.co, ok.ce, ok.nc, ok.hd, ok.bL, ok.fL⟩
/-- the frame and the iterators as they stood: the segment's invariant anew -/
theorem Gp.Ok.woken {s1 s' : Shared} {sr : Shared} {Hr H1 H' : Hp} {ip gp : List (Addr × Obj)} {σ : L2.St} (I : Inv (G.X sr Hr) ip σ H1 s1) (e0 : G.E0 s' H')
    (hk : ∀ b, (b = G.L ∨ ∃ p ∈ ip, p.1 = b) → ∀ o, s1.heap.get? b = some o → s'.heap.get? b = some o) (hn : ∀ b, (b = G.L ∨ ∃ p ∈ ip, p.1 = b) → H' b = none)
    (hgp : ∀ p ∈ gp, s'.heap.get? p.1 = some p.2 ∧ H' p.1 = none ∧ p.1 ≠ G.L ∧ p.1 ∉ frs G.outer ∧ ∀ v, p.2.data ≠ .cell v) : Inv ((G.wi gp).X s' H') ip σ H' s' := by
  obtain ⟨m, hm, hl⟩ := I.loc
  refine ⟨(ok.wi gp).cx e0, rfl, e0.bare, ⟨fun b o e _ _ _ => (cutH_some e).2, fun b o e _ _ _ => ⟨o.slots, (cutH_some e).2⟩, fun b o _ h _ => h, fun b o e _ => ⟨o, (cutH_some e).2⟩, fun _ _ h => h, fun _ _ _ h => h, fun b ps h => ⟨#[], by have h' : H' b = some (HO.tbl ps) := h; rw [h']; simp⟩⟩,
    ⟨m, hm.at' fun o e => hk _ (.inl rfl) o e, fun i x v h1 h2 h3 => ?_⟩, fun x c h => (ok.nocell h).elim, hn _ (.inl rfl), fun x c h => (ok.nocell h).elim, fun p hp => ?_, e0.hok, I.len⟩
  · obtain ⟨u, ru, lk⟩ := hl i x v h1 h2 h3
    refine ⟨u, ru, ?_⟩
    rcases lk with ⟨k1, k2⟩ | ⟨k1, _⟩
    · exact .inl ⟨k1, k2⟩
    · have k1 : G.sc.names.lookup x = some .cell ∨ G.sc.names.lookup x = some .free := k1
      rcases k1 with z | z
      · exact absurd z (ok.nc x).1
      · exact absurd z (ok.nc x).2
  · have hp' : p ∈ gp ++ ip := hp
    rcases List.mem_append.mp hp' with z | z
    · exact hgp p z
    · obtain ⟨p1, p2, p3, p4, p5⟩ := I.pin p (List.mem_append_right _ z)
      exact ⟨hk _ (.inr ⟨p, z, rfl⟩) _ p1, hn _ (.inr ⟨p, z, rfl⟩), p3, p4, p5⟩
end
/-! ### atoms -/
def atomV : D → Option V
  | .non => some .non
  | .bl b => some (.bl b)
  | .int i => some (.int i)
  | .str x => some (.str x)
  | _ => none
theorem atom_vr {K : PySem.W.Frag} {ι : List Addr} {H : Hp} {d : D} {v : V} (h : atomV d = some v) : VR K ι H v d := by
  cases d with
  | non => cases h; exact .non
  | bl b => cases h; exact .bl b
  | int i => cases h; exact .int i
  | str x => cases h; exact .str x
  | _ => cases h
structure SA (σ : L2.St) (ρ : Rho) : Prop where
  len : σ.length = ρ.length
  at_ : ∀ (i : Nat) (d : D), ρ[i]? = some (some d) → ∃ v, σ[i]? = some (some v) ∧ atomV d = some v
theorem SA.sr {K : PySem.W.Frag} {ι : List Addr} {H : Hp} {σ : L2.St} {ρ : Rho} (h : SA σ ρ) : DM.SR K ι H σ ρ := ⟨h.len, fun i d e => let ⟨v, a, b⟩ := h.at_ i d e; ⟨v, a, atom_vr b⟩⟩
theorem SA.set {σ : L2.St} {ρ : Rho} {i : Nat} {d : D} {v : V} (h : SA σ ρ) (hv : atomV d = some v) : SA (σ.set i (some v)) (ρ.set i (some d)) := by
  refine ⟨by simp [h.len], fun j e hj => ?_⟩
  by_cases z : i = j
  · subst z
    have hl : i < (ρ.set i (some d)).length := (List.getElem?_eq_some_iff.mp hj).1
    rw [List.length_set] at hl
    rw [List.getElem?_set_self hl] at hj
    cases hj
    exact ⟨v, List.getElem?_set_self (by rw [h.len]; exact hl), hv⟩
  · rw [List.getElem?_set_ne z] at hj
    obtain ⟨u, a, b⟩ := h.at_ j e hj
    exact ⟨u, by rw [List.getElem?_set_ne z]; exact a, b⟩
/-- an iterator that hands out these atoms, whatever is tracked -/
def ItC (J : It) (ds : List D) : Prop := ∀ i H, (∀ d, ds[i]? = some d → J.go i H ∧ ∀ x H', J.yld i H x H' → Ext H H' ∧ atomV d = some x) ∧ (ds.length ≤ i → J.stop i H)
structure PIC (X : Cx) (tg iter : Expr) (I : Rho → Option (List D)) : Prop where
  run : ∀ (pins : List (Addr × Obj)) (s : Shared) (σ : L2.St) (H : Hp) (ρ : Rho) (ds : List D), Inv X pins σ H s → SA σ ρ → I ρ = some ds →
    wpAny (model X.prog X.w) X.A (eval iter X.env) (fun v s1 => wpAny (model X.prog X.w) X.A (pyIter v) (PIE X pins σ tg (fun J H' => Ext H H' ∧ ItC J ds)) X.xe s1) X.xe s
end GP

namespace GP
open PySem PySem.Spec L2 PyProof.Rows GenW DM
/-! ### a generator of these items -/
/-- what a segment leaves -/
structure SegOk (G : Gp) (sr : Shared) (Hr H1 : Hp) (s : Shared) : Prop where
  os : s.os = sr.os
  bare : AllBare s.gens
  un : Un (frs G.outer) [] Hr H1 (cutH sr.heap G.L) s.heap
  hok : HOk G.P G.w H1 s.heap
  ext : Ext Hr H1
  gst : ∀ q ∈ G.pn, s.heap.get? q.1 = some q.2 ∧ H1 q.1 = none
theorem SegOk.of {G : Gp} {sr : Shared} {Hr H1 : Hp} {ip : List (Addr × Obj)} {σ : L2.St} {s : Shared} (I : L2.Inv (G.X sr Hr) ip σ H1 s) (e : Ext Hr H1) : SegOk G sr Hr H1 s := ⟨I.os, I.bare, I.base, I.hok, e, fun q hq => let ⟨p1, p2, _⟩ := I.pin q (List.mem_append_left _ hq); ⟨p1, p2⟩⟩
/-- asleep: what it needs stands at objs, and is not tracked -/
structure Wake (G : Gp) (objs : List (Addr × Obj)) (s : Shared) (H : Hp) : Prop where
  e0 : G.E0 s H
  at_ : ∀ p ∈ objs, s.heap.get? p.1 = some p.2
  no : ∀ p ∈ objs, H p.1 = none
  gst : ∀ q ∈ G.pn, s.heap.get? q.1 = some q.2 ∧ H q.1 = none ∧ q.1 ≠ G.L ∧ q.1 ∉ frs G.outer ∧ (∀ v, q.2.data ≠ .cell v) ∧ ∀ p ∈ objs, p.1 ≠ q.1
/-- the end of a segment with n items left -/
def Phi : Gp → List D → Nat → Shared → Hp → End → Shared → Prop
  | G, all, 0, sr, Hr, e, s => match e with
    | .ret r => (r = .ok (.ret .none) ∨ r = .ok .next) ∧ ∃ H1, SegOk G sr Hr H1 s
    | .susp .. => False
  | G, all, m + 1, sr, Hr, e, s => match e with
    | .ret _ => False
    | .susp v g l k c p fs => (End.susp v g l k c p fs).quiet = true ∧ ∃ (d : D) (x : V) (H1 : Hp) (objs : List (Addr × Obj)), all[all.length - (m + 1)]? = some d ∧ RelV x v ∧ VR G.K [] H1 x d ∧ SegOk G sr Hr H1 s ∧
        (∀ q ∈ objs, s.heap.get? q.1 = some q.2 ∧ H1 q.1 = none ∧ G.L ≤ q.1 ∧ ∀ v, q.2.data ≠ .cell v) ∧ (∀ q ∈ G.pn, ∀ p ∈ objs, p.1 ≠ q.1) ∧
        ∀ gp s' H', Wake (G.wi gp) objs s' H' → Seg1 (model G.P G.w) G.A (Phi (G.wi gp) all m s' H') c (k (.send .none)) fs s'
/-- running -/
structure GRun (G : Gp) (sr : Shared) (Hr : Hp) (ip : List (Addr × Obj)) (ρ : Rho) (s : Shared) : Prop where
  ex : ∃ σ H, L2.Inv (G.X sr Hr) ip σ H s ∧ SA σ ρ ∧ Ext Hr H
  e0 : G.E0 sr Hr
  gd : ∀ q ∈ G.pn, ∀ p ∈ ip, p.1 ≠ q.1
  ip : ∀ p ∈ ip, G.L ≤ p.1
  le : G.L ≤ sr.heap.objs.size
abbrev GD := Rho → Option (List D × Rho)
/-- where the code stands -/
structure GC1 (G : Gp) (c : Code) (fs : List Frame) (gd : Bool → Bool) : Prop where
  over : G.A.over c fs = G.A.deeper G.env
  split : splitAtGen fs = none
  guard : fs.any Frame.guarded = false
  gd : gd false = false
def KOk (G : Gp) (all : List D) (i : Nat) (ip : List (Addr × Obj)) (ρ : Rho) (c : Code) (fs : List Frame) (t : Sem PySem.Fin) : Prop := ∀ gp sr Hr s, GRun (G.wi gp) sr Hr ip ρ s → Seg1 (model G.P G.w) G.A (Phi (G.wi gp) all (all.length - i) sr Hr) c t fs s
structure GSD (G : Gp) (all : List D) (st : List Stmt) (F : GD) : Prop where
  run : ∀ (i : Nat) (ip : List (Addr × Obj)) (ρ ρ' : Rho) (ys : List D) (c : Code) (fs : List Frame) (KK : Flow → Sem PySem.Fin) (HH : Value → Sem PySem.Fin) (gd : Bool → Bool) (lv : List Value → List Value),
    GC1 G c fs gd → F ρ = some (ys, ρ') → i + ys.length ≤ all.length → (∀ j d, ys[j]? = some d → all[i + j]? = some d) → KOk G all (i + ys.length) ip ρ' c fs (KK .next) → KOk G all i ip ρ c fs ((execs st G.env).wrap KK HH gd lv)
structure GS1 (G : Gp) (all : List D) (st : Stmt) (F : GD) : Prop where
  run : ∀ (i : Nat) (ip : List (Addr × Obj)) (ρ ρ' : Rho) (ys : List D) (c : Code) (fs : List Frame) (KK : Flow → Sem PySem.Fin) (HH : Value → Sem PySem.Fin) (gd : Bool → Bool) (lv : List Value → List Value),
    GC1 G c fs gd → F ρ = some (ys, ρ') → i + ys.length ≤ all.length → (∀ j d, ys[j]? = some d → all[i + j]? = some d) → KOk G all (i + ys.length) ip ρ' c fs (KK .next) → KOk G all i ip ρ c fs ((exec st G.env).wrap KK HH gd lv)
def gdNil : GD := fun ρ => some ([], ρ)
def gdSeq (F F' : GD) : GD := fun ρ => match F ρ with
  | some (ys, ρ1) => (match F' ρ1 with
    | some (zs, ρ2) => some (ys ++ zs, ρ2)
    | none => none)
  | none => none
section
variable {G : Gp} {all : List D}
theorem gsd_nil : GSD G all [] gdNil := ⟨fun i ip ρ ρ' ys c fs KK HH gd lv g e hl hy hk => by
  cases e
  exact hk⟩
theorem gsd_one {st : Stmt} {F : GD} (a : GS1 G all st F) : GSD G all [st] F := ⟨fun i ip ρ ρ' ys c fs KK HH gd lv g e hl hy hk gp sr Hr s h => by
  refine seg1_cons ?_
  exact a.run i ip ρ ρ' ys c fs (fun f => match f with | .next => (execs [] G.env).wrap KK HH gd lv | f => KK f) HH gd lv g e hl hy (fun gp sr Hr s h => seg1_nil (hk gp sr Hr s h)) gp sr Hr s h⟩
/-! ### yield -/
def gdYield (E : CM D) : GD := fun ρ => match E ρ [] with
  | some (.ok d, []) => some ([d], ρ)
  | _ => none
theorem gs_yield1 {e : Expr} {yp pos : Pos} {E : CM D} (ok : G.Ok) (he : ∀ gp s H, PE ((G.wi gp).X s H) e (tE G.K noX E)) (hi : interactive G.env = false := by rfl) : GS1 G all (.Expr (.Yield (some e) yp) pos) (gdYield E) := by
  refine ⟨fun i ip ρ ρ' ys c fs KK HH gd lv g eF hl hy hk gp sr Hr s h => ?_⟩
  unfold gdYield at eF
  split at eF
  · rename_i d eE
    cases eF
    obtain ⟨σ, H, I, sa, ex⟩ := h.ex
    have hn : all.length - i = (all.length - (i + 1)) + 1 := by
      have : i + 1 ≤ all.length := by simpa using hl
      omega
    rw [hn]
    refine seg1_Yield g.split ?_ ok.co hi
    rw [g.over]
    refine wpAny_mono ((he gp sr Hr).run ip s σ H (fun x H1 => Le [] H [] H1 ∧ VR G.K [] H1 x d) I ⟨ρ, [], [], sa.sr, ⟨rfl, List.Pairwise.nil, fun j a o h1 => by simp at h1⟩, ?_⟩) (fun v s' hv => ?_) fun _ _ z => z
    · rw [eE]
      intro ι' H' x l w v
      have e0 : ι' = [] := List.eq_nil_of_length_eq_zero (by have := w.len; simpa using this)
      subst e0
      exact ⟨l, v⟩
    · obtain ⟨x, H1, I1, rv, l1, v1⟩ := hv
      intro p k ek
      obtain ⟨m, hm, _⟩ := I1.loc
      obtain ⟨oL, es, ep, hoL, hdL, _⟩ := hm
      have hoL : s'.heap.get? G.L = some oL := hoL
      refine ⟨by simp [End.quiet, g.gd, g.guard], d, x, H1, (G.L, oL) :: ip, ?_, rv, v1, SegOk.of I1 (ex.trans (Ext.of_le l1)), fun q hq => ?_, fun q hq p hp => ?_, fun gp2 s2 H2 wk => ?_⟩
      · have e1 : all.length - (all.length - (i + 1) + 1) = i + 0 := by
          have : i + 1 ≤ all.length := by simpa using hl
          omega
        rw [e1]
        exact hy 0 d rfl
      · rcases List.mem_cons.mp hq with rfl | hq
        · exact ⟨hoL, I1.free, Nat.le_refl _, fun v z => by rw [hdL] at z; cases z⟩
        · obtain ⟨p1, p2, p3, p4, p5⟩ := I1.pin q (List.mem_append_right _ hq)
          exact ⟨p1, p2, h.ip q hq, p5⟩
      · rcases List.mem_cons.mp hp with rfl | hp
        · exact fun z => (I1.pin q (List.mem_append_left _ hq)).2.2.1 z.symm
        · exact h.gd q hq p hp
      · rw [ek]
        have I2 : L2.Inv ((G.wi gp2).X s2 H2) ip σ H2 s2 := (ok.wi gp).woken I1 wk.e0 (fun b hb o eo => by
          rcases hb with rfl | ⟨q, hq, rfl⟩
          · rw [hoL] at eo; cases eo
            exact wk.at_ (G.L, oL) List.mem_cons_self
          · obtain ⟨p1, _⟩ := I1.pin q (List.mem_append_right _ hq)
            rw [p1] at eo; cases eo
            exact wk.at_ q (List.mem_cons_of_mem _ hq)) (fun b hb => by
          rcases hb with rfl | ⟨q, hq, rfl⟩
          · exact wk.no (G.L, oL) List.mem_cons_self
          · exact wk.no q (List.mem_cons_of_mem _ hq)) fun p hp => let ⟨a1, a2, a3, a4, a5, _⟩ := wk.gst p hp; ⟨a1, a2, a3, a4, a5⟩
        have := hk gp2 s2 H2 s2 ⟨⟨σ, H2, I2, sa, Ext.refl _⟩, wk.e0, fun q hq p hp => (wk.gst q hq).2.2.2.2.2 p (List.mem_cons_of_mem _ hp), h.ip, Nat.le_of_lt (Heap.lt_size (wk.at_ (G.L, oL) List.mem_cons_self))⟩
        simpa using this
  · cases eF
/-! ### for -/
def gdFold (j : Nat) (F : GD) : List D → Rho → Option (List D × Rho)
  | [], ρ => some ([], ρ)
  | d :: r, ρ => match F (ρ.set j (some d)) with
    | some (ys, ρ1) => (match gdFold j F r ρ1 with
      | some (zs, ρ2) => some (ys ++ zs, ρ2)
      | none => none)
    | none => none
def gdFor (I : Rho → Option (List D)) (j : Nat) (F : GD) : GD := fun ρ => match I ρ with
  | some ds => gdFold j F ds ρ
  | none => none
theorem gs_for1 {tg iter : Expr} {body : List Stmt} {pos : Pos} {I : Rho → Option (List D)} {j : Nat} {F : GD} (ok : G.Ok) (hi : ∀ gp s H, PIC ((G.wi gp).X s H) tg iter I) (hg : ∀ gp s H, PG ((G.wi gp).X s H) tg (gName j)) (hb : GSD G all body F)
    (hs : ∀ x, foldedSetIterable iter G.env x = pure x := by intro _; rfl) : GS1 G all (.For tg iter body [] pos) (gdFor I j F) := by
  refine ⟨fun i ip ρ ρ' ys c fs KK HH gd lv g eF hl hy hk gp sr Hr s h => ?_⟩
  unfold gdFor at eF
  split at eF
  · rename_i ds eI
    obtain ⟨σ, H, I0, sa, ex⟩ := h.ex
    refine seg1_For ?_ hs
    rw [g.over]
    refine wpAny_mono ((hi gp sr Hr).run ip s σ H ρ ds I0 sa eI) (fun v s1 h1 => wpAny_mono h1 (fun itv s2 h2 => ?_) fun _ _ z => z) fun _ _ z => z
    obtain ⟨it, fp, tn, J, H2, rfl, I2, T, st2, f2, ex2, hJ⟩ := h2
    intro p
    have fp0 : ∀ b ∈ fp, b ≠ G.L ∧ b ∉ frs G.outer ∧ G.L ≤ b ∧ ∀ q ∈ gp ++ ip, q.1 ≠ b := fun b hb => by
      obtain ⟨_, q2, q3, q4, _, q6⟩ := f2 b hb
      refine ⟨q2, q3, ?_, fun q hq => q6 q hq⟩
      rcases q4 with z | z
      · exact absurd z (by simp [Gp.X])
      · have z : (cutH sr.heap G.L).objs.size ≤ b := z
        rw [cutH_size] at z
        have : G.L ≤ sr.heap.objs.size := h.le
        omega
    have fpk : ∀ (gp : List (Addr × Obj)) (sr : Shared) (Hr H : Hp), (∀ q ∈ gp, ∀ b ∈ fp, q.1 ≠ b) → (∀ b ∈ fp, H b = none) → ∀ b ∈ fp, FpOk ((G.wi gp).X sr Hr) ip H b := fun gp sr Hr H hgq hn b hb => by
      obtain ⟨q1, q2, q3, q4⟩ := fp0 b hb
      refine ⟨hn b hb, q1, q2, .inr ?_, fun x c z => (ok.nocell z).elim, fun q hq => (List.mem_append.mp hq).elim (fun z => hgq q z b hb) fun z => q4 q (List.mem_append_right _ z)⟩
      show (cutH sr.heap G.L).objs.size ≤ b
      rw [cutH_size]; omega
    have gl : GC1 G (.forLoop tg (.ref it) body [] G.env) (.ret (backK G.env KK HH gd lv) none (gd false) (lv []) c p [] :: fs) id := by
      refine ⟨(over_loop rfl rfl).trans g.over, ?_, ?_, rfl⟩
      · show (splitAtGen fs).map _ = none
        rw [g.split]; rfl
      · show (gd false || fs.any Frame.guarded) = false
        rw [g.gd, g.guard]; rfl
    have loop : ∀ (r : List D) (q i : Nat) (ρ : Rho) (ys : List D), ds.drop q = r → q + r.length = ds.length → gdFold j F r ρ = some (ys, ρ') → i + ys.length ≤ all.length → (∀ k d, ys[k]? = some d → all[i + k]? = some d) → KOk G all (i + ys.length) ip ρ' c fs (KK .next) →
        ∀ gp sr Hr s σ H, L2.Inv ((G.wi gp).X sr Hr) ip σ H s → SA σ ρ → Ext Hr H → G.E0 sr Hr → G.L ≤ sr.heap.objs.size → (∀ q ∈ gp, ∀ p ∈ ip, p.1 ≠ q.1) → (∀ q ∈ gp, ∀ b ∈ fp, q.1 ≠ b) → tn q s.heap → (∀ b ∈ fp, H b = none) →
        Seg1 (model G.P G.w) G.A (Phi (G.wi gp) all (all.length - i) sr Hr) (.forLoop tg (.ref it) body [] G.env) ((model G.P G.w).den (.forLoop tg (.ref it) body [] G.env)) (.ret (backK G.env KK HH gd lv) none (gd false) (lv []) c p [] :: fs) s := by
      intro r
      induction r with
      | nil =>
        intro q i ρ ys hd hq eF hl hy hk gp sr Hr s σ H I3 sa3 ex3 e03 le3 gd3 gq3 st3 fn3
        cases eF
        refine seg1_forLoop ?_
        rw [gl.over]
        refine wpAny_mono (T.done ((G.wi gp).X sr Hr) rfl rfl rfl rfl q ip s σ H _ I3 (fpk gp sr Hr H gq3 fn3) st3 ((hJ q H).2 (by simp at hq; omega))) (fun r s4 ⟨hr, I4⟩ => ?_) fun _ _ z => z
        subst hr
        refine seg1_again rfl ?_
        show Seg1 _ _ _ _ (leafOf (.ok .next)) _ _
        refine seg1_leaf (.ok .next) ?_
        exact hk gp sr Hr s4 ⟨⟨σ, H, I4, sa3, ex3⟩, e03, gd3, h.ip, le3⟩
      | cons d r ih =>
        intro q i ρ ys hd hq eF hl hy hk gp sr Hr s σ H I3 sa3 ex3 e03 le3 gd3 gq3 st3 fn3
        have hqd : ds[q]? = some d := by
          have := congrArg (fun l => l[0]?) hd
          simpa [List.getElem?_drop] using this
        unfold gdFold at eF
        split at eF
        · rename_i ys1 ρ1 eF1
          split at eF
          · rename_i zs ρ2 eF2
            cases eF
            obtain ⟨⟨hgo, hyl⟩⟩ := (⟨(hJ q H).1 d hqd⟩ : PLift _)
            refine seg1_forLoop ?_
            rw [gl.over]
            refine wpAny_mono (T.item ((G.wi gp).X sr Hr) rfl rfl rfl rfl q ip s σ H _ I3 (fpk gp sr Hr H gq3 fn3) st3 hgo) (fun rr s4 ⟨u, hr, h4⟩ => ?_) fun _ _ z => z
            subst hr
            refine wpAny_mono h4 (fun _ s5 ⟨x, H5, I5, r5, y5, st5, fn5⟩ => ?_) fun _ _ z => z
            obtain ⟨e5, av⟩ := hyl x H5 y5
            have I5' := I5.pinned (fpk gp sr Hr H5 gq3 fn5) (T.obj _ _ st5)
            refine wpAny_mono ((hg gp sr Hr).run _ s5 σ H5 x u (fun σ6 H6 => σ6 = σ.set j (some x) ∧ H6 = H5) I5' r5 ⟨rfl, rfl⟩) (fun _ s6 ⟨σ6, H6, I6, e6, e7⟩ => ?_) fun _ _ z => z
            subst e6 e7
            intro HH'
            rw [List.length_append] at hl hk
            refine hb.run i (ip ++ pinsAt fp s5.heap) (ρ.set j (some d)) ρ1 ys1 _ _ _ HH' id id gl eF1 (by omega) (fun k d' hk' => hy k d' (by rw [List.getElem?_append_left (List.getElem?_eq_some_iff.mp hk').1]; exact hk')) (fun gp' sr' Hr' s7 h7 => ?_) gp sr Hr s6 ⟨⟨σ.set j (some x), H6, I6, sa3.set av, ex3.trans e5⟩, e03, fun q hq p hp => ?_, fun q hq => ?_, le3⟩
            · obtain ⟨σ7, H7, I7, sa7, ex7⟩ := h7.ex
              refine seg1_again rfl ?_
              refine ih (q + 1) (i + ys1.length) ρ1 zs ?_ ?_ eF2 (by omega) (fun k d' hk' => ?_) (by rw [Nat.add_assoc]; exact hk) gp' sr' Hr' s7 σ7 H7 I7.unpinned sa7 ex7 h7.e0 h7.le (fun q hq p hp => h7.gd q hq p (List.mem_append_left _ hp)) (fun q hq b hb => ?_) (T.keep _ _ _ st5 fun b hb o e => (I7.pin (b, o) (List.mem_append_right _ (List.mem_append_right _ (mem_pinsAt hb e)))).1) fun b hb => ?_
              · rw [← List.drop_drop, hd]; rfl
              · simp only [List.length_cons] at hq; omega
              · have := hy (ys1.length + k) d' (by rw [List.getElem?_append_right (by omega), Nat.add_sub_cancel_left]; exact hk')
                rw [Nat.add_assoc]; exact this
              · obtain ⟨o, e, _⟩ := T.obj _ _ st5 b hb
                exact fun z => h7.gd q hq (b, o) (List.mem_append_right _ (mem_pinsAt hb e)) z.symm
              · obtain ⟨o, e, _⟩ := T.obj _ _ st5 b hb
                exact (I7.pin (b, o) (List.mem_append_right _ (List.mem_append_right _ (mem_pinsAt hb e)))).2.1
            · rcases List.mem_append.mp hp with z | z
              · exact gd3 q hq p z
              · exact fun y => gq3 q hq p.1 (of_pinsAt z).1 y.symm
            · rcases List.mem_append.mp hq with z | z
              · exact h.ip q z
              · exact (fp0 q.1 (of_pinsAt z).1).2.2.1
          · cases eF
        · cases eF
    exact loop ds 0 i ρ ys rfl (by simp) eF hl hy hk gp sr Hr s2 σ H2 I2 sa (ex.trans ex2) h.e0 h.le h.gd (fun q hq b hb => (fp0 b hb).2.2.2 q (List.mem_append_left _ hq)) st2 fun b hb => (f2 b hb).1
  · cases eF
end
end GP

namespace GP
open PySem PySem.Spec L2 PyProof.Rows GenW DM
/-! ### the next item of a generator's object -/
def Go1 (M : Model) (A : Around) (Φ : End → Shared → Prop) : GenState → Shared → Prop
  | .fresh c, s => Seg1 M A Φ c (M.den c) [] s
  | .suspended k _ c _ fs _, s => Seg1 M A Φ c (k (.send .none)) fs s
  | _, _ => False
theorem resume_go1 {M : Model} {A : Around} {Φ : End → Shared → Prop} {s : Shared} {α : Type} {g : Nat} {gs : GenState} {l : List Value} {k : GenResult → Sem α} {Q : α → Shared → Prop} {E : Value → Shared → Prop} (hg : s.gens[g]? = some gs) (hgo : Go1 M A Φ gs (s.setGen g .running))
    (hΦ : ∀ e s1, Φ e s1 → e.quiet = true ∧ wpAny M A (k e.result) Q E (s1.setGen g e.genState)) : wpAny M A (.resume g (.send .none) l k) Q E s := by
  cases gs with
  | fresh c => exact wpAny_resume1 hg hgo hΦ
  | suspended k₀ l₀ c₀ p₀ fs₀ cl => exact wpAny_resume1 hg hgo hΦ
  | running => exact hgo.elim
  | finished => exact hgo.elim
def NextOk (G : Gp) (all : List D) (n : Nat) (gs : GenState) (s : Shared) (H : Hp) : Prop := Go1 (model G.P G.w) G.A (Phi G all n s H) gs s
section
variable {G : Gp} {all : List D} {A : Around} {E : Value → Shared → Prop} {s : Shared} {H : Hp}
theorem next_gen1 {a : Addr} {g n : Nat} {gs : GenState} {Q : Option Value → Shared → Prop} (hA : G.A = A.in1) (hh : A.handled = none) (hl : s.heap.NoLimit) (hroom : A.depth < recursionLimit) (hg : s.heap.IsGen a g) (hgs : s.gens[g]? = some gs)
    (hgo : NextOk G all n gs (s.setGen g .running) H)
    (hY : ∀ m v g0 l0 k c p fs s1, n = m + 1 → Phi G all (m + 1) (s.setGen g .running) H (.susp v g0 l0 k c p fs) s1 → Q (some v) (s1.setGen g (End.susp v g0 l0 k c p fs).genState))
    (hP : ∀ s1 H1, n = 0 → SegOk G (s.setGen g .running) H H1 s1 → ∀ h', (∀ b o, s1.heap.get? b = some o → h'.get? b = some o) → Q none { s1.setGen g .finished with heap := h' }) :
    wpAny (model G.P G.w) A (pyNext (.ref a)) Q E s := by
  unfold pyNext
  refine wpAny_bind (wpAny_attempt (wpAny_callSpecial?_slot (name := Str.ofString "__next__") hg.typeIs slot_gen_next
    (wpAny_call_entry slot_gen_next hg.typeIs entry_gen_next ?_ (args_gen_next _))))
  show wpAny _ A.in1 (Builtin.Generator.genWake (.ref a) (.send .none)) _ _ s
  unfold Builtin.Generator.genWake
  refine wpAny_bind (wpAny_holding (wpAny_genNumber hg (wpAny_bind (wpAny_genState hgs ?_))))
  have hgo' : Go1 (model G.P G.w) A.in1 (Phi G all n (s.setGen g .running) H) gs (s.setGen g .running) := by
    rw [← hA]; exact hgo
  cases gs with
  | running => exact hgo.elim
  | finished => exact hgo.elim
  | _ =>
    refine wpAny_bind (wpAny_roomToWake hl hroom ?_)
    show wpAny _ A.in1 (.resume g (.send .none) [] _) _ _ s
    refine resume_go1 hgs hgo' fun e s1 he => ?_
    cases n with
    | zero =>
      cases e with
      | susp v g0 l0 k c p fs => exact he.elim
      | ret r =>
        obtain ⟨hr, H1, ok1⟩ := he
        refine ⟨rfl, ?_⟩
        have hres : End.result (.ret r) = .returned .none := by
          rcases hr with hr | hr <;> rw [hr] <;> rfl
        first | rw [hres] | simp only [hres]
        show wpAny _ A.in1 (newExc (.type "StopIteration") [] >>= _) _ _ _
        refine wpAny_bind ?_
        simp only [newExc, newTuple]
        refine wpAny_bind (wpAny_newObj_type ?_ (by size_fits))
        refine wpAny_bind (m := firstArgMember _ _) (wpAny_of_eq (a := Value.none) (by first | rfl | (simp only [firstArgMember]; rfl)) ?_)
        refine wpAny_newObj_type ?_ (by size_fits)
        simp only [raiseNew]
        refine wpAny_bind (wpAny_bind (wpAny_handled ?_))
        first | rw [show A.in1.handled = none from hh] | rw [hh]
        refine wpAny_throw ?_
        refine wpAny_bind (wpAny_isInstance (T := "StopIteration") (b := true) ⟨_, Heap.get?_push_size _ rfl, rfl⟩ isSubtype_stop ?_)
        exact wpAny_pure (hP s1 H1 rfl ok1 _ fun b o hb => Heap.get?_push_of_some _ (Heap.get?_push_of_some _ hb))
    | succ m =>
      cases e with
      | ret r => exact he.elim
      | susp v g0 l0 k c p fs =>
        have hq : (End.susp v g0 l0 k c p fs).quiet = true := he.1
        exact ⟨hq, wpAny_pure ⟨v, rfl, wpAny_pure (hY m v g0 l0 k c p fs s1 rfl he)⟩⟩
end
/-! ### the consumer's invariant behind a segment -/
/-- older than the generator: the consumer's frame, its cells, its pins -/
structure Older (X : Cx) (pins : List (Addr × Obj)) (L : Nat) : Prop where
  loc : @LT.lt Nat _ X.env.locals L
  cell : ∀ x (c : Nat), X.env.cells.lookup x = some c → c < L
  pin : ∀ p ∈ X.pn ++ pins, @LT.lt Nat _ p.1 L
  fs : ∀ (b : Nat), b ∈ frs X.stack → b < L
theorem Older.of {X : Cx} {pins : List (Addr × Obj)} {σ : L2.St} {H : Hp} {s : Shared} (I : L2.Inv X pins σ H s) : Older X pins s.heap.objs.size :=
  ⟨I.lt, fun x c e => let ⟨v, q⟩ := I.cell x c e; q.lt, fun p hp => Heap.lt_size (I.pin p hp).1, fun b hb => let ⟨_, o, ho, _⟩ := I.stack.mem hb; Heap.lt_size ho⟩
theorem Older.fp {X : Cx} {pins : List (Addr × Obj)} {L : Nat} {H : Hp} {b : Nat} (o : Older X pins L) (ok : X.Ok) (hs : frs X.outer ⊆ frs X.stack) (hb : L ≤ b) (hn : H b = none) : FpOk X pins H b :=
  ⟨hn, Nat.ne_of_gt (Nat.lt_of_lt_of_le o.loc hb), fun z => absurd (Nat.lt_of_lt_of_le (o.fs b (hs z)) hb) (Nat.lt_irrefl _), .inr (Nat.le_trans ok.above (Nat.le_trans (Nat.le_of_lt o.loc) hb)),
    fun x c e => Nat.ne_of_lt (Nat.lt_of_lt_of_le (o.cell x c e) hb), fun p hp => Nat.ne_of_lt (Nat.lt_of_lt_of_le (o.pin p hp) hb)⟩
theorem stk_sub {X : Cx} (ok : X.Ok) : frs X.outer ⊆ frs X.stack := by
  intro b hb
  rcases ok.stk with e | ⟨e, _⟩
  · rw [e]; exact hb
  · rw [e]
    unfold frs at hb ⊢
    rw [List.filterMap_cons]
    split
    · exact hb
    · exact List.mem_cons_of_mem _ hb
/-- what X needs is older than the generator, or among its guests -/
structure Kept (X : Cx) (pins : List (Addr × Obj)) (L : Nat) (gp : List (Addr × Obj)) : Prop where
  loc : @LT.lt Nat _ X.env.locals L ∨ ∃ o, (X.env.locals, o) ∈ gp
  cell : ∀ x (c : Nat), X.env.cells.lookup x = some c → c < L
  pin : ∀ p ∈ X.pn ++ pins, @LT.lt Nat _ p.1 L ∨ p ∈ gp
theorem Older.kept {X : Cx} {pins : List (Addr × Obj)} {L : Nat} (o : Older X pins L) (gp : List (Addr × Obj)) : Kept X pins L gp := ⟨.inl o.loc, o.cell, fun p hp => .inl (o.pin p hp)⟩
theorem inv_behind {X : Cx} {pins : List (Addr × Obj)} {σ : L2.St} {H H1 : Hp} {s s1 : Shared} {G : Gp} {gg : Nat} (I : L2.Inv X pins σ H s) (o : Kept X pins G.L G.pn) (hg0 : ∀ q ∈ G.pn, s.heap.get? q.1 = some q.2)
    (hex : ∀ b, G.L ≤ b → H b = none → b < s.heap.objs.size → (∀ q ∈ G.pn, q.1 ≠ b) → b ∈ X.ex ∨ X.s_0.heap.objs.size ≤ b) (hP : G.P = X.prog) (hw : G.w = X.w) (ho : G.outer = X.stack) (k : SegOk G (s.setGen gg .running) H H1 s1) : L2.Inv X pins σ H1 s1 := by
  have hh : (s.setGen gg .running).heap = s.heap := rfl
  refine I.call' (ch := (List.range s.heap.objs.size).filter fun b => decide (G.L ≤ b) && ((H b).isNone && G.pn.all fun q => decide (q.1 ≠ b))) (k.os.trans rfl) ?_ (by rw [← hP, ← hw]; exact k.hok) k.bare fun b hb => ?_
  · have un := k.un
    rw [ho, hh] at un
    have lt : ∀ b ob, s.heap.get? b = some ob → b ∉ ((List.range s.heap.objs.size).filter fun b => decide (G.L ≤ b) && ((H b).isNone && G.pn.all fun q => decide (q.1 ≠ b))) → b < G.L ∨ (∃ u, H b = some u) ∨ (b, ob) ∈ G.pn := fun b ob e hn => by
      rcases Nat.lt_or_ge b G.L with z | z
      · exact .inl z
      · cases hb : H b with
        | some u => exact .inr (.inl ⟨u, rfl⟩)
        | none =>
          refine .inr (.inr ?_)
          by_cases hq : ∃ q ∈ G.pn, q.1 = b
          · obtain ⟨q, hq, rfl⟩ := hq
            have := hg0 q hq
            rw [e] at this
            cases this
            exact hq
          · refine absurd (List.mem_filter.mpr ⟨List.mem_range.mpr (Heap.lt_size e), ?_⟩) hn
            simp only [hb, Option.isNone_none, Bool.true_and, Bool.and_eq_true, decide_eq_true_eq, List.all_eq_true]
            exact ⟨z, fun q hq' y => hq ⟨q, hq', y⟩⟩
    have cg : ∀ b ob, s.heap.get? b = some ob → b < G.L → (cutH s.heap G.L).get? b = some ob := fun b ob e z => by rw [cutH_get, if_pos z]; exact e
    refine ⟨fun b ob e n1 n2 n3 => ?_, fun b ob e n1 n2 n3 => ?_, fun b ob e n1 n3 => ?_, fun b ob e n3 => ?_, un.tups, un.frzs, un.tbls⟩
    · rcases lt b ob e n3 with z | ⟨u, z⟩ | z
      · exact un.keep b ob (cg b ob e z) n1 n2 (by simp)
      · rw [z] at n1; cases n1
      · exact (k.gst _ z).1
    · rcases lt b ob e n3 with z | ⟨u, z⟩ | z
      · exact un.slot b ob (cg b ob e z) n1 n2 (by simp)
      · rw [z] at n1; cases n1
      · exact ⟨ob.slots, (k.gst _ z).1⟩
    · rcases lt b ob e n3 with z | ⟨u, z⟩ | z
      · exact un.free b ob (cg b ob e z) n1 (by simp)
      · rw [z] at n1; cases n1
      · exact (k.gst _ z).2
    · rcases lt b ob e n3 with z | ⟨u, z⟩ | z
      · exact un.there b ob (cg b ob e z) (by simp)
      · cases q : s1.heap.get? b with
        | some o' => exact ⟨o', rfl⟩
        | none =>
          have := k.hok.gone q
          rw [k.ext b u z] at this; cases this
      · exact ⟨ob, (k.gst _ z).1⟩
  · obtain ⟨hb1, hb2⟩ := List.mem_filter.mp hb
    simp only [Bool.and_eq_true, decide_eq_true_eq, List.all_eq_true, Option.isNone_iff_eq_none] at hb2
    obtain ⟨hb2, hb3, hb4⟩ := hb2
    refine ⟨hex b hb2 hb3 (List.mem_range.mp hb1) hb4, fun z => ?_, fun x c e => Nat.ne_of_lt (Nat.lt_of_lt_of_le (o.cell x c e) hb2), fun p hp z => ?_⟩
    · rcases o.loc with y | ⟨u, y⟩
      · rw [← z] at y; exact absurd (Nat.lt_of_lt_of_le y hb2) (Nat.lt_irrefl _)
      · exact hb4 _ y z.symm
    · rcases o.pin p hp with y | y
      · rw [z] at y; exact absurd (Nat.lt_of_lt_of_le y hb2) (Nat.lt_irrefl _)
      · exact hb4 _ y z
theorem Older.hex {X : Cx} {pins : List (Addr × Obj)} {L : Nat} (o : Older X pins L) (ok : X.Ok) {b : Nat} (hb : L ≤ b) : b ∈ X.ex ∨ X.s_0.heap.objs.size ≤ b := .inr (Nat.le_trans ok.above (Nat.le_trans (Nat.le_of_lt o.loc) hb))
theorem inv_gens {X : Cx} {pins : List (Addr × Obj)} {σ : L2.St} {H : Hp} {s : Shared} {gens : Array GenState} (I : L2.Inv X pins σ H s) (h : AllBare gens) : L2.Inv X pins σ H { s with gens := gens } :=
  ⟨I.ok, I.os, h, I.base, I.loc, I.cell, I.free, I.freeC, I.pin, I.hok, I.len⟩
end GP

namespace GP
open PySem PySem.Spec L2 PyProof.Rows GenW DM
/-! ### the turns of a loop over a generator's object -/
def JG (K : PySem.W.Frag) (all : List D) : It := ⟨fun i _ => i < all.length, fun i H x H' => ∃ d, all[i]? = some d ∧ Ext H H' ∧ VR K [] H' x d, fun i _ => all.length ≤ i⟩
structure GObj (go : Obj) (g : Nat) : Prop where
  cls : go.cls = .type "generator"
  data : ∃ nm qn, go.data = .fields #[.int g 0, nm, qn]
  slots : go.slots = #[]
theorem GObj.isGen {go : Obj} {g : Nat} {h : Heap} {a : Addr} (o : GObj go g) (e : h.get? a = some go) : h.IsGen a g := let ⟨nm, qn, d⟩ := o.data; ⟨go, nm, qn, e, o.cls, d, o.slots⟩
/-- asleep at the i-th item: its own objects, the generator's object -/
def TnG (G : Gp) (all : List D) (a : Addr) (go : Obj) (g : Nat) (i : Nat) (s : Shared) (fp : List Addr) : Prop :=
  ∃ gs objs, s.gens[g]? = some gs ∧ fp = a :: objs.map (·.1) ∧ s.heap.get? a = some go ∧ @LT.lt Nat _ G.L a ∧ (∀ q ∈ objs, s.heap.get? q.1 = some q.2 ∧ @LE.le Nat _ G.L q.1 ∧ q.1 ≠ a ∧ ∀ v, q.2.data ≠ .cell v) ∧ ∀ gp s' H', Wake (G.wi gp) objs s' H' → NextOk (G.wi gp) all (all.length - i) gs s' H'
theorem GObj.nocell {go : Obj} {g : Nat} (h : GObj go g) : ∀ v, go.data ≠ .cell v := fun v z => by
  obtain ⟨nm, qn, d⟩ := h.data
  rw [d] at z; cases z
/-- the room that a resume needs -/
structure AOk (X : Cx) (A : Around) : Prop where
  hd : A.handled = none
  room : A.depth < recursionLimit
  frs : A.frames = X.A.frames
section
variable {X : Cx} {pins : List (Addr × Obj)} {all : List D} {N : List Str} {qual : Str} {sc : Scope} {f : Addr} {cd : Value} {L g : Nat} {a : Addr} {go : Obj} {σ : L2.St} {H : Hp} {s : Shared} {fp : List Addr} {E : Value → Shared → Prop} {A : Around}
/-- the guests of a resume, beside the generator's object -/
def GstOk (L : Nat) (fp : List Addr) (gp : List (Addr × Obj)) (s : Shared) (H : Hp) : Prop := ∀ q ∈ gp, s.heap.get? q.1 = some q.2 ∧ H q.1 = none ∧ @LT.lt Nat _ L q.1 ∧ (∀ v, q.2.data ≠ .cell v) ∧ q.1 ∉ fp
theorem wake_of {objs gp : List (Addr × Obj)} (hfA : A.frames = X.A.frames) (hgo : GObj go g) (hLf : ∀ (b : Nat), b ∈ frs X.stack → b < L) (I : L2.Inv X pins σ H s) (ha : s.heap.get? a = some go) (hLa : @LT.lt Nat _ L a) (ho : ∀ q ∈ objs, s.heap.get? q.1 = some q.2 ∧ @LE.le Nat _ L q.1 ∧ q.1 ≠ a ∧ ∀ v, q.2.data ≠ .cell v)
    (hn : ∀ b ∈ a :: objs.map (·.1), H b = none) (hg : GstOk L (a :: objs.map (·.1)) gp s H) : Wake ⟨X.prog, X.w, X.K, X.mg, X.base, N, qual, sc, f, cd, A.in1, X.stack, L, (a, go) :: gp⟩ objs (s.setGen g .running) H := by
  have e0 := I.env0
  refine ⟨⟨hfA.trans e0.frames, e0.mod, e0.bs, e0.bsz, e0.funs, e0.frf, e0.hok, allBare_setGen e0.bare rfl⟩, fun q hq => (ho q hq).1, fun q hq => hn q.1 (List.mem_cons_of_mem _ (List.mem_map.mpr ⟨q, hq, rfl⟩)), fun q hq => ?_⟩
  rcases List.mem_cons.mp hq with rfl | hq
  · exact ⟨ha, hn a List.mem_cons_self, Nat.ne_of_gt hLa, fun z => absurd (Nat.lt_trans (hLf _ z) hLa) (Nat.lt_irrefl _), hgo.nocell, fun p hp => (ho p hp).2.2.1⟩
  · obtain ⟨q1, q2, q3, q4, q5⟩ := hg q hq
    exact ⟨q1, q2, Nat.ne_of_gt q3, fun z => absurd (Nat.lt_trans (hLf _ z) q3) (Nat.lt_irrefl _), q4, fun p hp z => q5 (by rw [← z]; exact List.mem_cons_of_mem _ (List.mem_map.mpr ⟨p, hp, rfl⟩))⟩
/-- what the consumer's context needs of a resume -/
structure Cons (X : Cx) (pins : List (Addr × Obj)) (L : Nat) (a : Addr) (go : Obj) (gp : List (Addr × Obj)) (s : Shared) (H : Hp) : Prop where
  kept : Kept X pins L ((a, go) :: gp)
  hex : ∀ b, L ≤ b → H b = none → b < s.heap.objs.size → (∀ q ∈ (a, go) :: gp, q.1 ≠ b) → b ∈ X.ex ∨ X.s_0.heap.objs.size ≤ b
  fs : ∀ (b : Nat), b ∈ frs X.stack → b < L
abbrev gpOf (X : Cx) (A : Around) (N : List Str) (qual : Str) (sc : Scope) (f : Addr) (cd : Value) (L : Nat) : Gp := ⟨X.prog, X.w, X.K, X.mg, X.base, N, qual, sc, f, cd, A.in1, X.stack, L, []⟩
theorem resume_item {i : Nat} {gp : List (Addr × Obj)} (hgo : GObj go g) (hA : AOk X A) (I : L2.Inv X pins σ H s) (C : Cons X pins L a go gp s H) (t : TnG (gpOf X A N qual sc f cd L) all a go g i s fp) (hn : ∀ b ∈ fp, H b = none) (hg : GstOk L fp gp s H) (hi : i < all.length) :
    wpAny (model X.prog X.w) A (pyNext (.ref a)) (fun r s1 => ∃ u x d H1 fp', r = some u ∧ all[i]? = some d ∧ L2.Inv X pins σ H1 s1 ∧ RelV x u ∧ Ext H H1 ∧ VR X.K [] H1 x d ∧ TnG (gpOf X A N qual sc f cd L) all a go g (i + 1) s1 fp' ∧ (∃ y, s1.gens[g]? = some y ∧ isSusp y = true) ∧ (∀ b ∈ fp', H1 b = none ∧ @LE.le Nat _ L b) ∧ GstOk L fp' gp s1 H1) E s := by
  obtain ⟨gs, objs, e1, rfl, ha, hLa, ho, hnx⟩ := t
  have hgl : g < s.gens.size := (Array.getElem?_eq_some_iff.mp e1).1
  have wk := wake_of (N := N) (qual := qual) (sc := sc) (f := f) (cd := cd) hA.frs hgo C.fs I ha hLa ho hn hg
  refine wpAny_gsz (n := g + 1) hgl (next_gen1 (G := (gpOf X A N qual sc f cd L).wi ((a, go) :: gp)) rfl hA.hd I.nolimit hA.room (hgo.isGen ha) e1 (hnx _ _ _ wk) (fun m v g0 l0 k c p fs s1 hm phi => ?_) fun s1 H1 hz => ?_)
  · intro hsz
    obtain ⟨hq, d, x, H1, objs', hd', rv, vr, sok, ho', hpn, hnx'⟩ := phi
    have I1 : L2.Inv X pins σ H1 s1 := inv_behind (G := (gpOf X A N qual sc f cd L).wi ((a, go) :: gp)) I C.kept (fun q hq => (wk.gst q hq).1) C.hex rfl rfl rfl sok
    have I2 : L2.Inv X pins σ H1 (s1.setGen g (End.susp v g0 l0 k c p fs).genState) := inv_gens I1 (allBare_setGen I1.bare (End.bare_of_quiet hq))
    have hs1 : g < s1.gens.size := by
      have q : (s1.setGen g (End.susp v g0 l0 k c p fs).genState).gens.size = s1.gens.size := setGen_size _ _ _
      have hsz' : g + 1 ≤ (s1.setGen g (End.susp v g0 l0 k c p fs).genState).gens.size := hsz
      omega
    obtain ⟨ga, gn⟩ := sok.gst (a, go) List.mem_cons_self
    refine ⟨v, x, d, H1, a :: objs'.map (·.1), rfl, ?_, I2, rv, sok.ext, vr, ⟨_, objs', setGen_at hs1, rfl, ga, hLa, fun q hq' => let ⟨h1, _, h3, h4⟩ := ho' q hq'; ⟨h1, h3, hpn (a, go) List.mem_cons_self q hq', h4⟩, fun gp' s' H' w' => ?_⟩, ⟨_, setGen_at hs1, rfl⟩, fun b hb => ?_, fun q hq' => ?_⟩
    · rw [show i = all.length - (m + 1) by omega]; exact hd'
    · have em : all.length - (i + 1) = m := by omega
      rw [em]
      exact hnx' gp' s' H' w'
    · rcases List.mem_cons.mp hb with rfl | hb
      · exact ⟨gn, Nat.le_of_lt hLa⟩
      · obtain ⟨q, hq', rfl⟩ := List.mem_map.mp hb
        obtain ⟨_, h2, h3, _⟩ := ho' q hq'
        exact ⟨h2, h3⟩
    · obtain ⟨z1, z2⟩ := sok.gst q (List.mem_cons_of_mem _ hq')
      obtain ⟨_, _, q3, q4, q5⟩ := hg q hq'
      refine ⟨z1, z2, q3, q4, fun z => ?_⟩
      rcases List.mem_cons.mp z with z | z
      · exact q5 (by rw [z]; exact List.mem_cons_self)
      · obtain ⟨p', hp', e'⟩ := List.mem_map.mp z
        exact hpn q (List.mem_cons_of_mem _ hq') p' hp' e'
  · omega
theorem resume_done {i : Nat} {gp : List (Addr × Obj)} (hgo : GObj go g) (hA : AOk X A) (I : L2.Inv X pins σ H s) (C : Cons X pins L a go gp s H) (t : TnG (gpOf X A N qual sc f cd L) all a go g i s fp) (hn : ∀ b ∈ fp, H b = none) (hg : GstOk L fp gp s H) (hi : all.length ≤ i) :
    wpAny (model X.prog X.w) A (pyNext (.ref a)) (fun r s1 => r = none ∧ ∃ H1, L2.Inv X pins σ H1 s1 ∧ Ext H H1 ∧ ∀ q ∈ gp, s1.heap.get? q.1 = some q.2 ∧ H1 q.1 = none) E s := by
  obtain ⟨gs, objs, e1, rfl, ha, hLa, ho, hnx⟩ := t
  have wk := wake_of (N := N) (qual := qual) (sc := sc) (f := f) (cd := cd) hA.frs hgo C.fs I ha hLa ho hn hg
  refine next_gen1 (G := (gpOf X A N qual sc f cd L).wi ((a, go) :: gp)) rfl hA.hd I.nolimit hA.room (hgo.isGen ha) e1 (hnx _ _ _ wk) (fun m v g0 l0 k c p fs s1 hm phi => ?_) fun s1 H1 hz sok h' hk => ?_
  · omega
  · have I1 : L2.Inv X pins σ H1 s1 := inv_behind (G := (gpOf X A N qual sc f cd L).wi ((a, go) :: gp)) I C.kept (fun q hq => (wk.gst q hq).1) C.hex rfl rfl rfl sok
    have I2 : L2.Inv X pins σ H1 (s1.setGen g .finished) := inv_gens I1 (allBare_setGen I1.bare rfl)
    exact ⟨rfl, H1, I2.kept (t' := s1.toks) hk, sok.ext, fun q hq => let ⟨z1, z2⟩ := sok.gst q (List.mem_cons_of_mem _ hq); ⟨hk _ _ z1, z2⟩⟩
theorem Older.cons (old : Older X pins L) (ok : X.Ok) (gp : List (Addr × Obj)) : Cons X pins L a go gp s H := ⟨old.kept _, fun b hb _ _ _ => old.hex ok hb, old.fs⟩
theorem gturn {tg : Expr} (hgo : GObj go g) (old : Older X pins L) (hA : AOk X X.A) :
    GTurn X tg (JG X.K all) g a pins (TnG (gpOf X X.A N qual sc f cd L) all a go g) := by
  refine ⟨fun i s fp t b hb => ?_, fun i s s' fp pins' σ H t I hk hg => ?_, fun i s σ H fp I hf t hi => ?_, fun i s σ H fp I hf t hi => ?_⟩
  · obtain ⟨gs, objs, _, rfl, ha, _, ho, _⟩ := t
    rcases List.mem_cons.mp hb with rfl | hb
    · exact ⟨go, ha, hgo.nocell⟩
    · obtain ⟨q, hq, rfl⟩ := List.mem_map.mp hb
      obtain ⟨h1, _, _, h3⟩ := ho q hq
      exact ⟨q.2, h1, h3⟩
  · obtain ⟨gs, objs, e1, rfl, ha, hLa, ho, hn⟩ := t
    exact ⟨gs, objs, hg.trans e1, rfl, hk a List.mem_cons_self go ha, hLa, fun q hq => let ⟨h1, h2, h3⟩ := ho q hq; ⟨hk q.1 (List.mem_cons_of_mem _ (List.mem_map.mpr ⟨q, hq, rfl⟩)) q.2 h1, h2, h3⟩, hn⟩
  · refine wpAny_mono (resume_item (E := X.xe) (gp := []) hgo hA I (old.cons I.ok []) t (fun b hb => (hf b hb).1) (fun q hq => by simp at hq) hi) (fun r s1 h => ?_) fun _ _ z => z
    obtain ⟨u, x, d, H1, fp', rfl, hd, I1, rv, ex, vr, t1, hs, hfp, _⟩ := h
    have hga : s1.heap.get? a = some go := let ⟨_, _, _, _, ha, _⟩ := t1; ha
    obtain ⟨nm, qn, hdt⟩ := hgo.data
    exact ⟨u, rfl, go_of (n := "generator") hga hgo.cls hdt (by decide) ⟨x, H1, fp', I1, rv, ⟨d, hd, ex, vr⟩, t1, hs, fun b hb => old.fp I.ok (stk_sub I.ok) (hfp b hb).2 (hfp b hb).1⟩⟩
  · refine wpAny_mono (resume_done (E := X.xe) (gp := []) hgo hA I (old.cons I.ok []) t (fun b hb => (hf b hb).1) (fun q hq => by simp at hq) hi) (fun r s1 h => ?_) fun _ _ z => z
    obtain ⟨hr, H1, I1, ex, _⟩ := h
    exact ⟨hr, H1, I1, ex⟩
end
end GP

namespace GP
open PySem PySem.Spec L2 PyProof.Rows GenW DM
/-! ### data of atoms and tuples -/
mutual
def tupl : D → Bool
  | .non => true
  | .bl _ => true
  | .int _ => true
  | .str _ => true
  | .tup xs => tupls xs
  | _ => false
def tupls : List D → Bool
  | [] => true
  | x :: r => tupl x && tupls r
end
theorem wf_tup_out {K : PySem.W.Frag} {ι : List Addr} {μ : Store} {H : Hp} {a : Addr} {o : Obj} {vs : List V} (w : WF K ι μ H) (h : H a = some (.frz o (.tup vs))) : a ∉ ι := fun m => by
  obtain ⟨i, hi⟩ := List.getElem?_of_mem m
  obtain ⟨ob, _, q⟩ := w.has hi
  cases ob with
  | lst ds => obtain ⟨us, e, _⟩ := q; rw [h] at e; cases e
  | obj C fs => obtain ⟨dx, gs, e, _⟩ := q; rw [h] at e; cases e
  | dct kvs => obtain ⟨qs, e, _⟩ := q; rw [h] at e; cases e
  | dcl kvs => obtain ⟨o', qs, e, _⟩ := q; rw [h] at e; cases e
  | dtt kvs => obtain ⟨qs, e, _⟩ := q; rw [h] at e; cases e
theorem wf_tup_out2 {K : PySem.W.Frag} {ι : List Addr} {μ : Store} {H : Hp} {a : Addr} {vs : List V} (w : WF K ι μ H) (h : H a = some (.tup vs)) : a ∉ ι := fun m => by
  obtain ⟨i, hi⟩ := List.getElem?_of_mem m
  obtain ⟨ob, _, q⟩ := w.has hi
  cases ob with
  | lst ds => obtain ⟨us, e, _⟩ := q; rw [h] at e; cases e
  | obj C fs => obtain ⟨dx, gs, e, _⟩ := q; rw [h] at e; cases e
  | dct kvs => obtain ⟨qs, e, _⟩ := q; rw [h] at e; cases e
  | dcl kvs => obtain ⟨o', qs, e, _⟩ := q; rw [h] at e; cases e
  | dtt kvs => obtain ⟨qs, e, _⟩ := q; rw [h] at e; cases e
mutual
theorem vr_any {K : PySem.W.Frag} {ι : List Addr} {μ : Store} {H : Hp} (w : WF K ι μ H) : ∀ {v : V} {d : D}, tupl d = true → VR K [] H v d → VR K ι H v d
  | _, _, _, .non => .non
  | _, _, _, .bl b => .bl b
  | _, _, _, .int i => .int i
  | _, _, _, .str x => .str x
  | _, _, t, .tup h r => by
    refine .tup ?_ (vrs_any w t r)
    rcases h with ⟨⟨o, h, d⟩, _⟩ | h | ⟨h, _, q⟩
    · exact .inl ⟨⟨o, h, d⟩, wf_tup_out w h⟩
    · exact .inr (.inl h)
    · exact .inr (.inr ⟨h, wf_tup_out2 w h, q⟩)
  | _, _, t, .lst h r => by simp [tupl] at t
  | _, _, t, .fl h r => by simp [tupl] at t
  | _, _, t, .ref h => by simp [tupl] at t
theorem vrs_any {K : PySem.W.Frag} {ι : List Addr} {μ : Store} {H : Hp} (w : WF K ι μ H) : ∀ {vs : List V} {ds : List D}, tupls ds = true → VRs K [] H vs ds → VRs K ι H vs ds
  | _, _, _, .nil => .nil
  | _, _, t, .cons h r => by
    simp only [tupls, Bool.and_eq_true] at t
    exact .cons (vr_any w t.1 h) (vrs_any w t.2 r)
end
theorem ext_le {K : PySem.W.Frag} {ι : List Addr} {μ : Store} {H H' : Hp} (e : Ext H H') (w : WF K ι μ H) : Le ι H ι H' ∧ WF K ι μ H' := by
  have l : Le ι H ι H' := ⟨fun _ _ h => h, fun _ h n => absurd h n, fun a o _ h => e a o h, fun a o u h => e a _ h⟩
  refine ⟨l, w.len, w.nd, fun i a o hi ho => (w.ob i a o hi ho).mono l ?_⟩
  obtain ⟨u, hu⟩ := (w.ob i a o hi ho).has
  rw [hu]; exact e a u hu
theorem itr_JG {K : PySem.W.Frag} {ι0 : List Addr} {H0 : Hp} {items : List D} (ht : ∀ d ∈ items, tupl d = true) : ItR K ι0 H0 (JG K items) (items, anyG) := by
  intro i ι μ H _ w _
  refine ⟨fun d hd => ⟨(List.getElem?_eq_some_iff.mp hd).1, fun x H' y => ?_⟩, fun h => h⟩
  obtain ⟨d', hd', e, v⟩ := y
  have hd : items[i]? = some d := hd
  rw [hd] at hd'; cases hd'
  obtain ⟨l, w'⟩ := ext_le e w
  exact ⟨l, w', vr_any w' (ht d (List.mem_of_getElem? hd)) v⟩
/-! ### for over a generator's call -/
theorem ds_forG {X : Cx} {W : DW} {tg iter : Expr} {body : List Stmt} {I : CM IV} {g : TG} {f : D → Rho → Option Rho} {own : List Nat} {S : SF} {pos : Pos} (hx : ∀ e s, ¬ X.xe e s) (hp : PassesOwn (model X.prog X.w) X.A X.env X.xe) (hi : PIG X tg iter (tI X.K W I)) (hg : PG X tg g) (ht : TgOk X.K g f own) (hb : PSs X body (sD X.K W S))
    (hs : ∀ x, foldedSetIterable iter X.env x = pure x := by intro _; rfl) : PS X (.For tg iter body [] pos) (sD X.K W (sFor I f S)) := (ps_forG hx hp hi hg hb hs).imp fun T σ H ⟨ρ, ι, μ, sr, wf, h⟩ => by
  refine tG.mono (PostS.bind sr wf h) ?_
  rintro J H1 ⟨ι1, μ1, ⟨items, gd⟩, l1, w1, hJ, h1⟩
  have h1 : PostS X.K W T ι1 H1 (loop gd f S items ρ μ1) := h1
  refine ⟨fun i m σ' H' => ∃ ρ' ι' μ', DM.SR X.K ι' H' σ' ρ' ∧ WF X.K ι' μ' H' ∧ Le ι1 H1 ι' H' ∧ m = items.length - i ∧ i ≤ items.length ∧ PostS X.K W T ι' H' (loop gd f S (items.drop i) ρ' μ'),
    ⟨items.length, ρ, ι1, μ1, sr.mono l1, w1, Le.refl _ _, rfl, Nat.zero_le _, h1⟩, ?_⟩
  rintro i m σ2 H2 ⟨ρ2, ι2, μ2, sr2, w2, l2, rfl, hi2, h2⟩
  by_cases hlt : i < items.length
  · refine .inr ?_
    rw [List.drop_eq_getElem_cons hlt] at h2
    obtain ⟨hgd, h2⟩ := PostS.guard h2
    obtain ⟨go, _⟩ := hJ i ι2 μ2 H2 l2 w2 hgd
    obtain ⟨jg, jy⟩ := go _ (List.getElem?_eq_getElem hlt)
    refine ⟨jg, fun σ' H' => ∃ ρ' ι' μ', DM.SR X.K ι' H' σ' ρ' ∧ WF X.K ι' μ' H' ∧ Le ι1 H1 ι' H' ∧ PostS X.K W T ι' H' (loop gd f S (items.drop (i + 1)) ρ' μ'), fun σ' H' ⟨ρ', ι', μ', a, b, c, d⟩ => ⟨items.length - (i + 1), by omega, ρ', ι', μ', a, b, c, rfl, hlt, d⟩, fun x H3 y => ?_⟩
    obtain ⟨l3, w3, v3⟩ := jy x H3 y
    split at h2
    · rename_i ρ3 eg
      refine ht x _ σ2 ρ2 ρ3 ι2 μ2 H3 _ (sr2.mono l3) w3 v3 eg fun σ3 sr3 _ => ⟨ρ3, ι2, μ2, sr3, w3, ?_⟩
      have h3 := PostS.from l3 h2
      have L := l2.trans l3
      match S ρ3 μ2, h3 with
      | some (.nx ρ4, μ4), h3 => exact fun σ4 ι4 H4 l w s => ⟨ρ4, ι4, μ4, s, w, L.trans l, PostS.from l h3⟩
      | some (.ct ρ4, μ4), h3 => exact fun σ4 ι4 H4 l w s => ⟨ρ4, ι4, μ4, s, w, L.trans l, PostS.from l h3⟩
      | some (.bk ρ4, μ4), h3 => exact h3
      | some (.rt d, μ4), h3 => exact h3
      | some (.ex x ρ4, μ4), h3 => exact h3
    · exact h2.elim
  · have e : i = items.length := by omega
    subst e
    rw [List.drop_length] at h2
    obtain ⟨hgd, h2⟩ := PostS.guard h2
    obtain ⟨_, st⟩ := hJ items.length ι2 μ2 H2 l2 w2 hgd
    refine .inl ⟨st (Nat.le_refl _), fun H' e => ?_⟩
    obtain ⟨l', w'⟩ := ext_le e w2
    exact (PostS.from l' h2).nx0 w' (sr2.mono l')
end GP

namespace GP
open PySem PySem.Spec L2 PyProof.Rows GenW DM
/-! ### a generator def's contract -/
def atomsV : List D → Option (List V)
  | [] => some []
  | d :: r => match atomV d, atomsV r with
    | some v, some vs => some (v :: vs)
    | _, _ => none
theorem vr_atom {K : PySem.W.Frag} {ι : List Addr} {H : Hp} {d : D} {v u : V} (h : atomV d = some u) (r : VR K ι H v d) : v = u := by
  cases r <;> simp [atomV] at h <;> first | exact h | exact h.symm | (subst h; rfl)
theorem vrs_atoms {K : PySem.W.Frag} {ι : List Addr} {H : Hp} : ∀ {ds : List D} {vs us : List V}, atomsV ds = some us → VRs K ι H vs ds → vs = us
  | [], vs, us, h, r => by cases r; simp [atomsV] at h; exact h.symm
  | d :: ds, vs, us, h, r => by
    cases r with
    | cons h1 h2 =>
      unfold atomsV at h
      split at h
      · rename_i v vs' e1 e2
        cases h
        rw [vr_atom e1 h1, vrs_atoms e2 h2]
      · cases h
theorem atoms_len : ∀ {ds : List D} {us : List V}, atomsV ds = some us → us.length = ds.length
  | [], us, h => by simp [atomsV] at h; rw [h]; rfl
  | d :: ds, us, h => by
    unfold atomsV at h
    split at h
    · rename_i v vs e1 e2
      cases h
      simp [atoms_len e2]
    · cases h
theorem atoms_at : ∀ {ds : List D} {us : List V} {i : Nat} {d : D}, atomsV ds = some us → ds[i]? = some d → ∃ v, us[i]? = some v ∧ atomV d = some v
  | [], us, i, d, h, e => by simp at e
  | x :: ds, us, i, d, h, e => by
    unfold atomsV at h
    split at h
    · rename_i v vs e1 e2
      cases h
      cases i with
      | zero => simp at e; subst e; exact ⟨v, rfl, e1⟩
      | succ i =>
        obtain ⟨w, a, b⟩ := atoms_at e2 (by simpa using e)
        exact ⟨w, by simpa using a, b⟩
    · cases h
structure GMd (P : Program) (w : World) (K : PySem.W.Frag) (mg : Str → Option Value) (base : Heap) (k : Nat) (outer : List Env) (s : Shared) (f : Addr) (items : List D) (u : Value) (s' : Shared) : Prop where
  ex : ∃ (a : Addr) (g : Nat) (go oL : Obj) (N : List Str) (qual : Str) (sc : Scope) (cd : Value) (c : Code), u = .ref a ∧ GObj go g ∧ s'.heap.get? a = some go ∧ @LT.lt Nat _ s.heap.objs.size a ∧ s'.gens[g]? = some (.fresh c) ∧ s'.os = s.os ∧ AllBare s'.gens ∧
    (∀ b o, s.heap.get? b = some o → s'.heap.get? b = some o) ∧ s'.heap.get? s.heap.objs.size = some oL ∧ (∀ v, oL.data ≠ .cell v) ∧
    ∀ A', Room k A' → A'.frames = some outer → ∀ gp s2 H2, Wake ⟨P, w, K, mg, base, N, qual, sc, f, cd, A', outer, s.heap.objs.size, gp⟩ [(s.heap.objs.size, oL)] s2 H2 →
      NextOk ⟨P, w, K, mg, base, N, qual, sc, f, cd, A', outer, s.heap.objs.size, gp⟩ items items.length (.fresh c) s2 H2
structure GnG (P : Program) (w : World) (K : PySem.W.Frag) (mg : Str → Option Value) (base : Heap) (k : Nat) (f : Addr) (fd : FuncData) (ps : List Str) (Fg : List D → Option (List D)) : Prop where
  go : ∀ {A : Around} {outer : List Env} {s : Shared} {H : Hp} {args : Args} {us : List Value} {vs : List V} {ds items : List D}, Room k A → Env0 P w K mg base A outer s H → BindsTo s fd args (ps.zip us) → Vals vs us → atomsV ds = some vs → vs.length = ps.length → Fg ds = some items →
    codeAny (model P w) A (.call (.ref f) args) (fun r s' => match r with | .ok (.ret u) => GMd P w K mg base k outer s f items u s' | _ => False) s
theorem Gp.Ok.mkInv {G : Gp} (ok : G.Ok) {s : Shared} {H : Hp} {ip : List (Addr × Obj)} {σ : L2.St} (e0 : G.E0 s H)
    (loc : ∃ m, s.heap.Ns G.L m ∧ ∀ (i : Nat) (x : Str) (v : V), G.N[i]? = some x → σ[i]? = some (some v) → Vis G.sc x → ∃ u, RelV v u ∧ Look G.env s.heap m x u) (hL : H G.L = none)
    (pin : ∀ p ∈ G.pn ++ ip, s.heap.get? p.1 = some p.2 ∧ H p.1 = none ∧ p.1 ≠ G.L ∧ p.1 ∉ frs G.outer ∧ ∀ v, p.2.data ≠ .cell v) (len : σ.length = G.N.length) : L2.Inv (G.X s H) ip σ H s :=
  ⟨ok.cx e0, rfl, e0.bare, ⟨fun b o e _ _ _ => (cutH_some e).2, fun b o e _ _ _ => ⟨o.slots, (cutH_some e).2⟩, fun b o _ h _ => h, fun b o e _ => ⟨o, (cutH_some e).2⟩, fun _ _ h => h, fun _ _ _ h => h, fun b ps h => ⟨#[], by have h' : H b = some (HO.tbl ps) := h; rw [h']; simp⟩⟩,
    loc, fun x c h => (ok.nocell h).elim, hL, fun x c h => (ok.nocell h).elim, pin, e0.hok, len⟩
/-- THE RULE: a generator def, by its body -/
theorem gng_of {P : Program} {w : World} {K : PySem.W.Frag} {mg : Str → Option Value} {base : Heap} {k : Nat} {f : Addr} {name qual : Str} {params : Arguments} {body : List Stmt} {scope : Scope} {kws : List (Str × V)} {fd : FuncData}
    {N ps : List Str} {Fb : GD} (Fd : FunD K name qual params body scope [] kws f fd) (S : GScope N ps scope) (hce : ∀ n, cellsFrom n scope.names [] = []) (hnc : ∀ x, scope.names.lookup x ≠ some .cell ∧ scope.names.lookup x ≠ some .free)
    (hbody : ∀ (cdv : Value) (A' : Around) (outer : List Env) (L : Nat) (pn : List (Addr × Obj)) (items : List D), Room k (A'.deeper (envOfC qual scope L f cdv)) → Gp.Ok ⟨P, w, K, mg, base, N, qual, scope, f, cdv, A', outer, L, pn⟩ → GSD ⟨P, w, K, mg, base, N, qual, scope, f, cdv, A', outer, L, pn⟩ items body Fb) :
    GnG P w K mg base (k + 1) f fd ps (fun ds => (Fb (startR N.length ds)).map (·.1)) := by
  obtain ⟨oc, od, dV, kV, doc, pm, an, cdv, ct, osl, rfl, lk, hcd, _, _⟩ := Fd.ex
  refine ⟨fun {A outer s H args us vs ds items} hr e0 hb r hat hl hF => ?_⟩
  have KX : K.In s.heap := e0.mod.kin.keeps fun b o e => (e0.bs b o e).1
  have lim : s.heap.NoLimit := e0.mod.nolimit.keeps fun b o e => (e0.bs b o e).1
  have hkind : ∀ y ∈ ps.zip us, scope.names.lookup y.1 = some .local ∨ (scope.names.lookup y.1 = some .cell ∧ ((cellsFrom (s.heap.objs.size + 1) scope.names []).lookup y.1).isSome = true) := fun ⟨n, v⟩ hy => by
    rcases S.par n (List.of_mem_zip hy).1 with q | q
    · exact .inl q
    · exact .inr ⟨q, PySem.W.cellsFrom_some _ _ _ (.inl q)⟩
  refine codeAny_call_generator hr.depth (KX _ _ lk) rfl S.co S.gen rfl (PySem.W.codeRec_of KX hcd) (hb _ _ _ _ ?_)
  refine wpAny_newFunctionEnv_cells S.kind hkind fun env he s1 x => ?_
  subst he
  have lim1 : s1.heap.NoLimit := lim.keeps x.toInCall.keep
  refine ⟨lim1, ?_⟩
  obtain ⟨h1, tk, es1, hk1⟩ := x.done
  have os1 : s1.os = s.os := by rw [es1]
  have gen1 : s1.gens = s.gens := by rw [es1]
  have lt1 : s.heap.objs.size < s1.heap.objs.size := x.toInCall.ns.lt
  have kp1 : ∀ b o, s.heap.get? b = some o → s1.heap.get? b = some o := x.toInCall.keep
  have I1 := inv_startG (E := fun _ _ _ => False) S hr.hd e0 hl r x
  obtain ⟨m, hm, hloc⟩ := I1.loc
  obtain ⟨oL, esL, epL, hoL, hdL, hrest⟩ := id hm
  have hoL : s1.heap.get? s.heap.objs.size = some oL := hoL
  have main : ∀ (go : Obj) (nm qn : Value) (tk2 : Nat), go.cls = .type "generator" → go.data = .fields #[.int s1.gens.size 0, nm, qn] → go.slots = #[] → (∀ h : Heap, (h.push go).get? h.objs.size = some go) →
      GMd P w K mg base (k + 1) outer s f items (.ref s1.heap.objs.size) { s1 with gens := s1.gens.push (.fresh (.func body (envOfC qual scope s.heap.objs.size f cdv))), toks := tk2, heap := s1.heap.push go } := by
    intro go nm qn tk2 hgc hgd0 hgs hgp
    refine ⟨s1.heap.objs.size, s1.gens.size, go, oL, N, qual, scope, cdv, _, rfl, ⟨hgc, ⟨nm, qn, hgd0⟩, hgs⟩, hgp _, lt1, Array.getElem?_push_size .., os1, AllBare.push (by rw [gen1]; exact e0.bare) rfl, fun b o e => Heap.get?_push_of_some _ (kp1 b o e), Heap.get?_push_of_some _ hoL, fun v z => (by rw [hdL] at z; cases z), ?_⟩
    intro A' hr' hfr gp s2 H2 wk
    have ok : Gp.Ok ⟨P, w, K, mg, base, N, qual, scope, f, cdv, A', outer, s.heap.objs.size, gp⟩ := ⟨S.kind, S.co, hce _, hnc, hr'.hd, e0.bsz, fun b hb => by
      obtain ⟨_, o, ho, _⟩ := e0.funs.mem hb
      exact Heap.lt_size ho⟩
    have hob := hbody cdv A' outer s.heap.objs.size gp items (hr'.deeper _) ok
    have keepL : s2.heap.get? s.heap.objs.size = some oL := wk.at_ _ List.mem_cons_self
    have I2 : L2.Inv (Gp.X ⟨P, w, K, mg, base, N, qual, scope, f, cdv, A', outer, s.heap.objs.size, gp⟩ s2 H2) [] (start N vs) H2 s2 := by
      refine ok.mkInv wk.e0 ⟨m, hm.at' fun o e => ?_, fun i y v h1 h2 h3 => ?_⟩ (wk.no _ List.mem_cons_self) (fun p hp => ?_) I1.len
      · have e : s1.heap.get? s.heap.objs.size = some o := e
        rw [hoL] at e; cases e
        exact keepL
      · obtain ⟨u, ru, lk⟩ := hloc i y v h1 h2 h3
        refine ⟨u, ru, ?_⟩
        rcases lk with ⟨k1, k2⟩ | ⟨k1, _⟩
        · exact .inl ⟨k1, k2⟩
        · have k1 : scope.names.lookup y = some .cell ∨ scope.names.lookup y = some .free := k1
          rcases k1 with z | z
          · exact absurd z (hnc y).1
          · exact absurd z (hnc y).2
      · have hp : p ∈ gp := by simpa using hp
        obtain ⟨a1, a2, a3, a4, a5, _⟩ := wk.gst p hp
        exact ⟨a1, a2, a3, a4, a5⟩
    have sa : SA (start N vs) (startR N.length ds) := by
      have hvl := atoms_len hat
      have hpl : ps.length ≤ N.length := by have := congrArg List.length S.pre; rw [List.length_take] at this; omega
      have hN : (L2.start N vs).length = N.length := I1.len
      refine ⟨by rw [hN]; unfold startR; simp; omega, fun i d e => ?_⟩
      have hi : i < ds.length := by
        unfold startR at e
        by_cases hi : i < ds.length
        · exact hi
        · rw [List.getElem?_append_right (by simpa using hi), List.getElem?_replicate] at e
          split at e <;> cases e
      have ed : ds[i]? = some d := by
        unfold startR at e
        rw [List.getElem?_append_left (by simpa using hi), List.getElem?_map] at e
        cases q : ds[i]? with
        | none => rw [q] at e; cases e
        | some z => rw [q] at e; cases e; rfl
      obtain ⟨v, e1, e2⟩ := atoms_at hat ed
      refine ⟨v, ?_, e2⟩
      unfold L2.start
      rw [List.getElem?_append_left (by simp; omega), List.getElem?_map, e1]
      rfl
    cases hFb : Fb (startR N.length ds) with
    | none => rw [hFb] at hF; cases hF
    | some q =>
      obtain ⟨ys, ρ'⟩ := q
      rw [hFb] at hF
      have e : ys = items := by simpa using hF
      subst e
      refine seg1_func fun HH => ?_
      have := hob.run 0 [] (startR N.length ds) ρ' ys (.func body (envOfC qual scope s.heap.objs.size f cdv)) [] (fun f => .pure (.done (.ret (match f with | .ret v => v | _ => .none)))) HH id id ⟨over_func, rfl, rfl, rfl⟩ hFb (by omega) (fun j d h => by rw [Nat.zero_add]; exact h) (fun gp3 sr Hr s3 h3 => ?_) gp s2 H2 s2 ⟨⟨start N vs, H2, I2, sa, Ext.refl _⟩, wk.e0, fun _ _ p hp => by simp at hp, fun p hp => by simp at hp, Nat.le_of_lt (Heap.lt_size keepL)⟩
      · rw [Nat.sub_zero] at this; exact this
      · obtain ⟨σ3, H3, I3, _, ex3⟩ := h3.ex
        have z : ys.length - (0 + ys.length) = 0 := by omega
        rw [z]
        exact seg1_end (.ok (.ret .none)) ⟨.inl rfl, H3, SegOk.of I3 ex3⟩
  exact main _ _ _ _ rfl rfl rfl fun h => Heap.get?_push_size _ rfl
end GP

namespace GP
open PySem PySem.Spec L2 PyProof.Rows GenW DM
structure KnG (P : Program) (w : World) (K : PySem.W.Frag) (mg : Str → Option Value) (base : Heap) (k : Nat) (x : Str) (ps : List Str) (Fg : List D → Option (List D)) : Prop where
  ex : ∃ f fd, GnG P w K mg base k f fd ps Fg ∧ mg x = some (.ref f) ∧ PySem.W.keepIn K (.ref f) = true ∧ Binds K fd ps []
/-- the items of a generator's call -/
def iGen (n : Nat) (Fg : List D → Option (List D)) (As : CM (List D)) : CM IV := As.bind fun ds _ μ => match atomsV ds, Fg ds with
  | some _, some items => if ds.length = n ∧ items.all tupl = true then some (.ok (items, anyG), μ) else none
  | _, _ => none
section
variable {X : Cx} {W : DW} {k j n : Nat} {ps : List Str} {Fg : List D → Option (List D)} {x : Str} {p pos : Pos} {tg e : Expr} {es : List Expr} {As : CM (List D)}
theorem pig_call (h : KnG X.prog X.w X.K X.mg X.base j x ps Fg) (hr : Room k X.A) (hjk : j + 1 ≤ k) (hg : Gl X x) (hn : ps.length = n) (ha : PA X (e :: es) (tA X.K W As))
    (hdb : (x == ("__debug__" : Str)) = false := by decide) (he : starEach (e :: es) X.env = (false, eval e X.env) :: starEach es X.env := by rfl) (hpl : (backTo pos (starEach es X.env)).any (·.1) = false := by rfl) :
    PIG X tg (.Call (.Name x p) (e :: es) [] pos) (tI X.K W (iGen n Fg As)) := by
  obtain ⟨f, fd, F, hm, hk, hb⟩ := h.ex
  refine ⟨fun pins s σ H R I ⟨ρ, ι, μ, sr, wf, h⟩ => ?_⟩
  refine wpAny_Call_Name_kw (ld_glob I hg hm ?_ hdb)
  refine PySem.W.callWith_K (h₀ := X.base) I.ok.mod.kin hk (thn (ha.run pos pins s σ H _ I (PostG.bind sr wf h)) fun us s1 ⟨vs, H1, I1, r, ι1, μ1, ds, l1, w1, vx, h1⟩ => ⟨I1.kIn, ?_⟩) he hpl
  split at h1
  · rename_i us' items e1 e2
    obtain ⟨q, h1⟩ := PostG.guard h1
    have evs : vs = us' := vrs_atoms e1 vx
    subst evs
    have hl : vs.length = ps.length := by rw [atoms_len e1, q.1, hn]
    have hlu : us.length = ps.length := by rw [← r.length]; exact hl
    have hbb := hb s1 us I1.kIn (by simpa using hlu)
    rw [List.append_nil] at hbb
    refine wpAny_call (codeAny_mono (F.go (hr.mono (Nat.le_trans (Nat.le_succ _) hjk)) I1.env0 hbb r e1 hl e2) fun rr s' hq => ?_)
    have hr1 : Room j X.A.in1 := (hr.mono hjk).in1
    cases rr with
    | error e => exact hq.elim
    | ok fl =>
      cases fl with
      | next => exact hq.elim
      | brk => exact hq.elim
      | cont => exact hq.elim
      | ret u =>
        obtain ⟨a, g, go, oL, N, qual, sc, cd, c, rfl, hgo, hga, hlt, hgen, hos, hbare, hkeep, hoL, hnc, hnext⟩ := hq.ex
        refine wpAny_pyIter_gen (hgo.isGen hga) ?_
        have I2 : L2.Inv X pins σ H1 s' := I1.call' (ch := []) hos (Un.kept hkeep) (I1.hok.kept hkeep) hbare fun b z => by simp at z
        have old := Older.of I1
        refine ⟨a, g, [a, s1.heap.objs.size], TnG (gpOf X X.A N qual sc f cd s1.heap.objs.size) items a go g, JG X.K items, H1, rfl, I2, gturn hgo old ⟨hr.hd, hr.depth, rfl⟩, ⟨_, [(s1.heap.objs.size, oL)], hgen, rfl, hga, hlt, fun q' hq' => ?_, fun gp s2 H2 w2 => ?_⟩, fun b hb' => ?_, h1.ok0 w1 (itr_JG fun d hd => List.all_eq_true.mp q.2 d hd)⟩
        · rw [List.mem_singleton.mp hq']
          exact ⟨hoL, Nat.le_refl _, Nat.ne_of_lt hlt, hnc⟩
        · rw [Nat.sub_zero]
          exact hnext X.A.in1 hr1 I1.ok.frames gp s2 H2 w2
        · rcases List.mem_cons.mp hb' with rfl | hb'
          · exact old.fp I1.ok (stk_sub I1.ok) (Nat.le_of_lt hlt) (I1.hok.fresh (Nat.le_of_lt hlt))
          · rw [List.mem_singleton.mp hb']
            exact old.fp I1.ok (stk_sub I1.ok) (Nat.le_refl _) (I1.hok.fresh (Nat.le_refl _))
  · exact h1.elim
end
/-! ### iterables within a generator -/
section
variable {X : Cx} {x : Str} {pos p : Pos} {tg a b : Expr} {ds : List D} {us : List V}
theorem pic_const (hg : Gl X x) (h : Cst X.K X.mg x (.tup ds)) (hat : atomsV ds = some us) (hd : (x == ("__debug__" : Str)) = false := by decide) : PIC X tg (.Name x pos) (fun _ => some ds) := by
  obtain ⟨u, v, h1, h2, h3⟩ := h
  refine ⟨fun pins s σ H ρ ds' I sa e => ?_⟩
  cases e
  have hv := h3 [] (fun _ => none)
  cases hv with
  | tup hT hr =>
    rename_i aa vs
    rcases hT with ⟨⟨o, z, _⟩, _⟩ | ⟨o, its, n, lk, hc, hdd, hdt, hsz, hvl⟩ | ⟨z, _⟩
    · cases z
    rotate_left
    · cases z
    have sq : ∀ H, SqT X.K H aa vs := fun H => .inr ⟨o, its, n, lk, hc, hdt, hsz, hvl⟩
    have evs := vrs_atoms hat hr
    subst evs
    refine (pi_tup (pe_glob hg h1 h2 hd)).run pins s σ H _ I ⟨aa, rfl, ⟨vs, sq H⟩, Ext.refl H, fun i H' => ⟨fun d hd' => ?_, fun hi => ⟨vs, sq H', by rw [atoms_len hat]; exact hi⟩⟩⟩
    obtain ⟨v', e1, e2⟩ := atoms_at hat hd'
    refine ⟨⟨vs, v', sq H', e1⟩, fun x' H'' y => ?_⟩
    obtain ⟨rfl, y2⟩ := y
    have := y2 vs (sq _)
    rw [e1] at this
    cases this
    exact ⟨Ext.refl _, e2⟩
def gRng2 (As : CM (List D)) : Rho → Option (List D) := fun ρ => match As ρ [] with
  | some (.ok [.int i, .int j], []) => if -(2 ^ 62) ≤ i ∧ i < 2 ^ 62 ∧ -(2 ^ 62) ≤ j ∧ j < 2 ^ 62 then some (rngD i (j - i).toNat) else none
  | _ => none
theorem nc_of {ns : List (Str × NameKind)} (h : ∀ y ∈ ns, y.2 ≠ .cell ∧ y.2 ≠ .free) (x : Str) : ns.lookup x ≠ some .cell ∧ ns.lookup x ≠ some .free := ⟨fun e => (h _ (PySem.mem_of_lookup e)).1 rfl, fun e => (h _ (PySem.mem_of_lookup e)).2 rfl⟩
theorem pic_range2 {As : CM (List D)} (hg : Gl X "range") (hm : X.mg "range" = none) (ha : PA X [a, b] (tA X.K noX As)) (hs : starEach [a, b] X.env = [(false, eval a X.env), (false, eval b X.env)] := by rfl) (hs2 : starEach [b] X.env = [(false, eval b X.env)] := by rfl) :
    PIC X tg (.Call (.Name "range" p) [a, b] [] pos) (gRng2 As) := by
  refine ⟨fun pins s σ H ρ ds' I sa e => ?_⟩
  unfold gRng2 at e
  split at e
  · rename_i i j eA
    by_cases hq : -(2 ^ 62) ≤ i ∧ i < 2 ^ 62 ∧ -(2 ^ 62) ≤ j ∧ j < 2 ^ 62
    · rw [if_pos hq] at e
      cases e
      refine (pi_range2 hg hm ha hs hs2).run pins s σ H _ I ⟨ρ, [], [], sa.sr, ⟨rfl, List.Pairwise.nil, fun q a o h1 => by simp at h1⟩, ?_⟩
      rw [eA]
      intro ι' H' vs l w v
      obtain ⟨y, z, rfl, v1, v2⟩ := v.two
      cases v1; cases v2
      refine ⟨i, j, rfl, hq, fun b o h => l.keep b o (by simp) h, fun q H'' => ⟨fun d hd => ?_, fun hl => ?_⟩⟩
      · obtain ⟨h1, rfl⟩ := rng_get hd
        refine ⟨h1, fun x H3 y => ?_⟩
        obtain ⟨rfl, rfl⟩ := y
        exact ⟨Ext.refl _, rfl⟩
      · rw [rng_len] at hl; exact hl
    · rw [if_neg hq] at e; cases e
  · cases e
end
end GP

namespace GP
open PySem PySem.Spec L2 PyProof.Rows GenW DM
/-! ### a generator's object, fresh -/
def PGM (X : Cx) (A : Around) (pins : List (Addr × Obj)) (σ : L2.St) (R : It → Hp → Prop) (v : Value) (s : Shared) : Prop :=
  ∃ (a : Addr) (g : Nat) (go : Obj) (N : List Str) (qual : Str) (sc : Scope) (f : Addr) (cd : Value) (L : Nat) (fp : List Addr) (items : List D) (H : Hp), v = .ref a ∧ L2.Inv X pins σ H s ∧ GObj go g ∧ Older X pins L ∧ (∀ b, L ≤ b → H b = none) ∧ s.heap.get? a = some go ∧ L < a ∧
    TnG (gpOf X A N qual sc f cd L) items a go g 0 s fp ∧ (∀ b ∈ fp, @LE.le Nat _ L b) ∧ AOk X A ∧ R (JG X.K items) H
structure PIM (X : Cx) (A : Around) (iter : Expr) (wi : TI) : Prop where
  run : ∀ (pins : List (Addr × Obj)) (s : Shared) (σ : L2.St) (H : Hp) (R : It → Hp → Prop), L2.Inv X pins σ H s → wi σ H R → wpAny (model X.prog X.w) X.A (eval iter X.env) (PGM X A pins σ R) X.xe s
section
variable {X : Cx} {W : DW} {k j n : Nat} {ps : List Str} {Fg : List D → Option (List D)} {x : Str} {p pos : Pos} {tg e : Expr} {es : List Expr} {As : CM (List D)}
theorem pim_call {A : Around} (hrA : Room (j + 1) A) (hfA : A.frames = X.A.frames) (h : KnG X.prog X.w X.K X.mg X.base j x ps Fg) (hr : Room k X.A) (hjk : j + 1 ≤ k) (hg : Gl X x) (hn : ps.length = n) (ha : PA X (e :: es) (tA X.K W As))
    (hdb : (x == ("__debug__" : Str)) = false := by decide) (he : starEach (e :: es) X.env = (false, eval e X.env) :: starEach es X.env := by rfl) (hpl : (backTo pos (starEach es X.env)).any (·.1) = false := by rfl) :
    PIM X A (.Call (.Name x p) (e :: es) [] pos) (tI X.K W (iGen n Fg As)) := by
  obtain ⟨f, fd, F, hm, hk, hb⟩ := h.ex
  refine ⟨fun pins s σ H R I ⟨ρ, ι, μ, sr, wf, h⟩ => ?_⟩
  refine wpAny_Call_Name_kw (ld_glob I hg hm ?_ hdb)
  refine PySem.W.callWith_K (h₀ := X.base) I.ok.mod.kin hk (thn (ha.run pos pins s σ H _ I (PostG.bind sr wf h)) fun us s1 ⟨vs, H1, I1, r, ι1, μ1, ds, l1, w1, vx, h1⟩ => ⟨I1.kIn, ?_⟩) he hpl
  split at h1
  · rename_i us' items e1 e2
    obtain ⟨q, h1⟩ := PostG.guard h1
    have evs : vs = us' := vrs_atoms e1 vx
    subst evs
    have hl : vs.length = ps.length := by rw [atoms_len e1, q.1, hn]
    have hlu : us.length = ps.length := by rw [← r.length]; exact hl
    have hbb := hb s1 us I1.kIn (by simpa using hlu)
    rw [List.append_nil] at hbb
    refine wpAny_call (codeAny_mono (F.go (hr.mono (Nat.le_trans (Nat.le_succ _) hjk)) I1.env0 hbb r e1 hl e2) fun rr s' hq => ?_)
    have hr1 : Room j A.in1 := hrA.in1
    cases rr with
    | error e => exact hq.elim
    | ok fl =>
      cases fl with
      | next => exact hq.elim
      | brk => exact hq.elim
      | cont => exact hq.elim
      | ret u =>
        obtain ⟨a, g, go, oL, N, qual, sc, cd, c, rfl, hgo, hga, hlt, hgen, hos, hbare, hkeep, hoL, hnc, hnext⟩ := hq.ex
        have I2 : L2.Inv X pins σ H1 s' := I1.call' (ch := []) hos (Un.kept hkeep) (I1.hok.kept hkeep) hbare fun b z => by simp at z
        have old := Older.of I1
        refine ⟨a, g, go, N, qual, sc, f, cd, s1.heap.objs.size, [a, s1.heap.objs.size], items, H1, rfl, I2, hgo, old, fun b hb => I1.hok.fresh hb, hga, hlt, ⟨_, [(s1.heap.objs.size, oL)], hgen, rfl, hga, hlt, fun q' hq' => ?_, fun gp s2 H2 w2 => ?_⟩, fun b hb' => ?_, ⟨hrA.hd, hrA.depth, hfA⟩, h1.ok0 w1 (itr_JG fun d hd => List.all_eq_true.mp q.2 d hd)⟩
        · rw [List.mem_singleton.mp hq']
          exact ⟨hoL, Nat.le_refl _, Nat.ne_of_lt hlt, hnc⟩
        · rw [Nat.sub_zero]
          exact hnext A.in1 hr1 (hfA.trans I1.ok.frames) gp s2 H2 w2
        · rcases List.mem_cons.mp hb' with rfl | hb'
          · exact Nat.le_of_lt hlt
          · rw [List.mem_singleton.mp hb']
            exact Nat.le_refl _
  · exact h1.elim
end
/-! ### a comprehension over a generator -/
def tLcG (wi : TI) (g : TG) (tt : TT) (te : TE) (vs : List Nat) : TE := fun σ H Q => wi σ H fun J H1 => ∀ D, H1 D = none → ∃ W : Nat → Nat → Hp → Prop, (∃ m, W 0 m (upd H1 D (.lst []))) ∧ ∀ i m H, W i m H → (∃ u, H D = some u) ∧
  ((J.stop i H ∧ ∀ H', Ext H H' → Q (.ref D) H') ∨ (J.go i H ∧ ∃ Nx : Hp → Prop, (∀ H', Nx H' → ∃ m', m' < m ∧ W (i + 1) m' H') ∧ ∀ x H', J.yld i H x H' → g x (wipe σ vs) H' fun σ2 H2 => wipe σ2 vs = wipe σ vs ∧ tt σ2 H2 fun b H3 =>
    if b = true then te σ2 H3 fun y H4 => ∃ acc, H4 D = some (.lst acc) ∧ acc.length < sizeLine ∧ Nx (upd H4 D (.lst (acc ++ [y]))) else Nx H3))
/-- as tn, in another state that has kept its objects -/
theorem TnG.keep {G : Gp} {all : List D} {a : Addr} {go : Obj} {g i : Nat} {s s' : Shared} {fp : List Addr} (t : TnG G all a go g i s fp) (hk : ∀ b ∈ fp, ∀ o, s.heap.get? b = some o → s'.heap.get? b = some o) (hg : s'.gens[g]? = s.gens[g]?) : TnG G all a go g i s' fp := by
  obtain ⟨gs, objs, e1, rfl, ha, hLa, ho, hn⟩ := t
  exact ⟨gs, objs, hg.trans e1, rfl, hk a List.mem_cons_self go ha, hLa, fun q hq => let ⟨h1, h2, h3⟩ := ho q hq; ⟨hk q.1 (List.mem_cons_of_mem _ (List.mem_map.mpr ⟨q, hq, rfl⟩)) q.2 h1, h2, h3⟩, hn⟩
theorem TnG.obj {G : Gp} {all : List D} {a : Addr} {go : Obj} {g i : Nat} {s : Shared} {fp : List Addr} (hgo : GObj go g) (t : TnG G all a go g i s fp) : ∀ b ∈ fp, ∃ o, s.heap.get? b = some o ∧ ∀ v, o.data ≠ .cell v := fun b hb => by
  obtain ⟨gs, objs, _, rfl, ha, _, ho, _⟩ := t
  rcases List.mem_cons.mp hb with rfl | hb
  · exact ⟨go, ha, hgo.nocell⟩
  · obtain ⟨q, hq, rfl⟩ := List.mem_map.mp hb
    obtain ⟨h1, _, _, h3⟩ := ho q hq
    exact ⟨q.2, h1, h3⟩
theorem noE {α : Type} {M : Model} {A : Around} {m : Sem α} {Q Q' : α → Shared → Prop} {E : Value → Shared → Prop} {g0 : Array GenState} {sp s : Shared} (h : wpAny M A m Q (fun _ _ => False) sp) (q : SR g0 sp s) (hQ : ∀ a s' sp', SR g0 sp' s' → Q a sp' → Q' a s') : wpAny M A m Q' E s :=
  wpAny_mono (wpAny_real h q) (fun a s' ⟨sp', q', z⟩ => hQ a s' sp' q' z) fun _ _ ⟨_, _, z⟩ => z.elim
section
variable {X : Cx}
theorem lcG_core {pins : List (Addr × Obj)} {s : Shared} {σ : L2.St} {H : Hp} {Q : VK} {elt tg iter : Expr} {ifs : List Expr} {scope : Scope} {own : List (Str × Nat)} {pos pos' : Pos} {wi : TI} {g : TG} {tt : TT} {te : TE} {use : Option (Value → Sem Unit)} {Qf : Value → Shared → Prop}
    (hN : X.N.Nodup) (I : L2.Inv X pins σ H s) (hi : PIM X X.A iter wi) (ok : BlkOk X.N X.env.scope scope own) (hnc : ∀ y ∈ scope.names, y.2 ≠ .cell)
    (hg : ∀ (s : Shared) (H : Hp) (C : Addr) (cl : List (Str × Addr)) (fp : List Addr), PG (X.blk s H scope (compEnvC scope cl C X.env) fp) tg g) (ht : ∀ (s : Shared) (H : Hp) (C : Addr) (cl : List (Str × Addr)) (fp : List Addr), PTs (X.blk s H scope (compEnvC scope cl C X.env) fp) ifs tt)
    (he : ∀ (s : Shared) (H : Hp) (C : Addr) (cl : List (Str × Addr)) (fp : List Addr), PE (X.blk s H scope (compEnvC scope cl C X.env) fp) elt te) (hs : ∀ x, foldedSetIterable iter X.env x = pure x)
    (h : tLcG wi g tt te (own.map (·.2)) σ H Q)
    (hRR : ∀ D C s' m H', L2.Inv X pins σ H' s' → Q (.ref D) H' → s'.heap.Ns C m → FpOk X pins H' C → compPost (model X.prog X.w) X.A X.xe use Qf (.ref D) C (.ok .next) s') :
    wpAny (model X.prog X.w) X.A (comprehension (.ListComp elt [⟨tg, iter, ifs, 0⟩] scope pos) scope X.env pos' (newList []) false (eval iter X.env) use) Qf X.xe s := by
  have hfree : ∀ y ∈ scope.names, y.2 = .free → ∃ c, X.env.cells.lookup y.1 = some c := fun y hy e => by
    rcases ok.free y hy e with k | k
    · exact I.ok.has _ (.inl k)
    · exact I.ok.has _ (.inr k)
  refine wpAny_comprehension_free (use := use) rfl hs (closure_ok hfree) ok.kind (fun y hy e => by rw [ok.uniq y hy, e])
    (thn (hi.run pins s σ H _ I h) fun xv s2 hx => ?_)
  obtain ⟨a, gg, go, N, qual, sc, f, cd, L, fp, items, H2, rfl, I2, hgo, old, hz2, ha2, hLa, st2, f2, hA, q⟩ := hx
  refine wpAny_pyIter_gen (hgo.isGen ha2) ?_
  refine wpAny_newObj_type (newEnv_comp ?_) (by show 0 ≤ sizeLine; decide)
  generalize hD : s2.heap.objs.size = D
  have hDn : H2 D = none := I2.hok.fresh (Nat.le_of_eq hD)
  obtain ⟨W, ⟨m0, w0⟩, turn⟩ := q D hDn
  have haD : a < D := by rw [← hD]; exact Heap.lt_size ha2
  have hLD : L < D := Nat.lt_trans hLa haD
  generalize hs3 : ({ s2 with heap := s2.heap.push { cls := .type "list", data := .seq ([] : List Value).toArray } } : Shared) = s3
  have I3 : L2.Inv X pins σ (upd H2 D (.lst [])) s3 := by
    rw [← hs3]
    refine I2.laid (t' := s2.toks) (fun b o e => Heap.get?_push_of_some _ e) (Nat.le_of_eq hD) ⟨Nat.zero_le _, [], 0, .nil, ?_⟩
    rw [← hD]
    exact Heap.get?_push_size _ rfl
  have h3 : s3.heap = s2.heap.push { cls := .type "list", data := .seq ([] : List Value).toArray } := by rw [← hs3]
  have g3 : s3.gens = s2.gens := by rw [← hs3]
  have z3 : D < s3.heap.objs.size := by rw [h3, Heap.size_push, hD]; exact Nat.lt_succ_self _
  have st3 : TnG (gpOf X X.A N qual sc f cd L) items a go gg 0 s3 fp := st2.keep (fun b _ o e => by rw [h3]; exact Heap.get?_push_of_some _ e) (by rw [g3])
  generalize hH3 : upd H2 D (.lst []) = H3 at I3 w0
  have hz3 : ∀ b, L ≤ b → b ≠ D → H3 b = none := fun b hb hd => by rw [← hH3, upd_ne hd]; exact hz2 b hb
  generalize hfB : (List.range s3.heap.objs.size).filter (fun b => decide (L ≤ b) && decide (b ≠ D)) = fB
  have mB : ∀ b, b ∈ fB ↔ b < s3.heap.objs.size ∧ L ≤ b ∧ b ≠ D := fun b => by rw [← hfB]; simp [List.mem_filter]
  have f3 : ∀ b ∈ fB, FpOk X pins H3 b ∧ b < s3.heap.objs.size := fun b hb => by
    obtain ⟨b1, b2, b3⟩ := (mB b).mp hb
    exact ⟨old.fp I.ok (stk_sub I.ok) b2 (hz3 b b2 b3), b1⟩
  have I4 := block_start I3 ok hN f3
  have pg := hg s3 H3 s3.heap.objs.size (cellsFrom (s3.heap.objs.size + 1) scope.names (cloFrom X.env.cells scope.names [])) fB
  have pt := ht s3 H3 s3.heap.objs.size (cellsFrom (s3.heap.objs.size + 1) scope.names (cloFrom X.env.cells scope.names [])) fB
  have pe := he s3 H3 s3.heap.objs.size (cellsFrom (s3.heap.objs.size + 1) scope.names (cloFrom X.env.cells scope.names [])) fB
  show codeAny _ _ (.compStart (.ListComp elt [⟨tg, iter, ifs, 0⟩] scope pos) 0 (.ref a) (.ref D) (compEnvC scope (cellsFrom (s3.heap.objs.size + 1) scope.names (cloFrom X.env.cells scope.names [])) s3.heap.objs.size X.env)) (compPost (model X.prog X.w) X.A X.xe use Qf (.ref D) s3.heap.objs.size) { s3 with heap := pushCells (s3.heap.push { cls := .type "dict", data := .dict #[] }) scope.names }
  generalize hce : compEnvC scope (cellsFrom (s3.heap.objs.size + 1) scope.names (cloFrom X.env.cells scope.names [])) s3.heap.objs.size X.env = ce at I4 pg pt pe ⊢
  have cL : ce.locals = s3.heap.objs.size := by subst hce; rfl
  have cC : ∀ x (c : Nat), ce.cells.lookup x = some c → c < L := fun x c e => by
    have hcl : ce.cells = cellsFrom (s3.heap.push { cls := .type "dict", data := .dict #[] }).objs.size scope.names (cloFrom X.env.cells scope.names []) := by rw [← hce, Heap.size_push]; rfl
    rw [hcl] at e
    rcases cells_mem (PySem.mem_of_lookup e) with hm | ⟨h1, _, _⟩
    · rcases cloFrom_mem hm with hm | ⟨h1, rfl⟩
      · cases hm
      · obtain ⟨c, hc⟩ := hfree _ h1 rfl
        rw [hc]
        exact old.cell _ _ hc
    · exact absurd rfl (hnc _ h1)
  generalize hs4 : ({ s3 with heap := pushCells (s3.heap.push { cls := .type "dict", data := .dict #[] }) scope.names } : Shared) = s4 at I4 ⊢
  have st4 : TnG (gpOf X X.A N qual sc f cd L) items a go gg 0 s4 fp := st3.keep (fun b _ o e => by rw [← hs4]; exact pushCells_keeps _ _ _ _ (Heap.get?_push_of_some _ e)) (by rw [← hs4])
  have hCfp : s3.heap.objs.size ∉ fp := fun z => by
    obtain ⟨o, e, _⟩ := st3.obj hgo _ z
    exact absurd (Heap.lt_size e) (Nat.lt_irrefl _)
  have hDfp : D ∉ fp := fun z => by
    obtain ⟨o, e, _⟩ := st2.obj hgo _ z
    rw [← hD] at e
    exact absurd (Heap.lt_size e) (Nat.lt_irrefl _)
  have n4 : ∀ b ∈ fp, H3 b = none ∧ @LE.le Nat _ L b := fun b hb => ⟨hz3 b (f2 b hb) fun z => hDfp (by rw [← z]; exact hb), f2 b hb⟩
  have loop : codeAny (model X.prog X.w) X.A (.compLoop (.ListComp elt [⟨tg, iter, ifs, 0⟩] scope pos) 0 (.ref a) (.ref D) ce) (compPost (model X.prog X.w) X.A X.xe use Qf (.ref D) s3.heap.objs.size) s4 := by
    refine compLoop_any (fun n s' => ∃ i H' fp, L2.Inv (X.blk s3 H3 scope ce fB) [] (wipe σ (own.map (·.2))) H' s' ∧ TnG (gpOf X X.A N qual sc f cd L) items a go gg i s' fp ∧ (∀ b ∈ fp, H' b = none ∧ @LE.le Nat _ L b) ∧ s3.heap.objs.size ∉ fp ∧ W i n H') ?_ m0 ⟨0, H3, fp, I4, st4, n4, hCfp, w0⟩
    clear st2 f2 st3 st4 hCfp hDfp n4
    rintro n s5 ⟨i, H5, fp5, I5, st5, n5, hC5, w5⟩
    obtain ⟨⟨uD, huD⟩, w5⟩ := turn i n H5 w5
    obtain ⟨m5, hm5, _⟩ := I5.loc
    have hm5 : s5.heap.Ns ce.locals m5 := hm5
    rw [cL] at hm5
    obtain ⟨oC, es5, ep5, hoC, hdC, _⟩ := id hm5
    have hfC : H5 s3.heap.objs.size = none := by
      have z : H5 ce.locals = none := I5.free
      rw [cL] at z
      exact z
    have ncC : ∀ v, oC.data ≠ .cell v := fun v z => by rw [hdC] at z; cases z
    have hLC : L < s3.heap.objs.size := Nat.lt_trans hLD z3
    have hexB : ∀ (H : Hp) b, (∃ u, H D = some u) → L ≤ b → H b = none → b ∈ fB ∨ s3.heap.objs.size ≤ b := fun H b hu hb hn => by
      rcases Nat.lt_or_ge b s3.heap.objs.size with z | z
      · refine .inl ((mB b).mpr ⟨z, hb, fun y => ?_⟩)
        obtain ⟨u, hu⟩ := hu
        rw [y, hu] at hn; cases hn
      · exact .inr z
    have cons : Cons (X.blk s3 H3 scope ce fB) [] L a go [(s3.heap.objs.size, oC)] s5 H5 := by
      refine ⟨⟨.inr ⟨oC, ?_⟩, cC, fun p hp => absurd (show p ∈ ([] : List (Addr × Obj)) ++ [] from hp) (by simp)⟩, fun b hb hn _ _ => hexB H5 b ⟨uD, huD⟩ hb hn, old.fs⟩
      show (ce.locals, oC) ∈ _
      rw [cL]
      exact List.mem_cons_of_mem _ List.mem_cons_self
    have gst : GstOk L fp5 [(s3.heap.objs.size, oC)] s5 H5 := fun q hq => by
      rw [List.mem_singleton.mp hq]
      exact ⟨hoC, hfC, hLC, ncC, hC5⟩
    have hA' : AOk (X.blk s3 H3 scope ce fB) X.A := ⟨hA.hd, hA.room, rfl⟩
    rcases w5 with ⟨stop, qq⟩ | ⟨go5, Nx, hNx, step⟩
    · refine thnF (resume_done (X := X.blk s3 H3 scope ce fB) (N := N) (qual := qual) (sc := sc) (f := f) (cd := cd) (E := fun _ _ => False) hgo hA' I5 cons st5 (fun b hb => (n5 b hb).1) gst stop) fun r s6 ⟨hr, H6, I6, e6, _⟩ => ?_
      subst hr
      have I7 : L2.Inv X pins σ H6 s6 := I3.call' (ch := fB) I6.os I6.base I6.hok I6.bare fun b hb => ⟨(f3 b hb).1.2.2.2.1, (f3 b hb).1.2.1, (f3 b hb).1.2.2.2.2.1, (f3 b hb).1.2.2.2.2.2⟩
      have nC : H6 s3.heap.objs.size = none := by
        have z : H6 ce.locals = none := I6.free
        rw [cL] at z
        exact z
      obtain ⟨m, hn, _⟩ := I6.loc
      have hn : s6.heap.Ns ce.locals m := hn
      rw [cL] at hn
      exact hRR D s3.heap.objs.size s6 m H6 I7 (qq H6 e6) hn (I3.fpOk (Nat.le_refl _) nC)
    · refine thnF (resume_item (X := X.blk s3 H3 scope ce fB) (N := N) (qual := qual) (sc := sc) (f := f) (cd := cd) (E := fun _ _ => False) hgo hA' I5 cons st5 (fun b hb => (n5 b hb).1) gst go5) fun r s6 h6 => ?_
      obtain ⟨u, x, d, H7, fp7, rfl, hd7, I7, r7, e7, v7, st7, ⟨y7, ey7, sy7⟩, n7, gst7⟩ := h6
      have ha7 : s6.heap.get? a = some go := let ⟨_, _, _, _, z, _⟩ := st7; z
      obtain ⟨nm, qn, hdt⟩ := hgo.data
      refine go_of (n := "generator") ha7 hgo.cls hdt (by decide) ?_
      have hD7 : ∃ u, H7 D = some u := ⟨uD, e7 D uD huD⟩
      have hC7 : s3.heap.objs.size ∉ fp7 := (gst7 _ (List.mem_singleton.mpr rfl)).2.2.2.2
      have I7' := I7.pinned (fp := fp7) (fun b hb => ⟨(n7 b hb).1, fun z => hC7 (by rw [← cL]; exact (show b = ce.locals from z) ▸ hb), fun z => absurd (Nat.lt_of_lt_of_le (old.fs b z) (n7 b hb).2) (Nat.lt_irrefl _), hexB H7 b hD7 (n7 b hb).2 (n7 b hb).1, fun x c e => Nat.ne_of_lt (Nat.lt_of_lt_of_le (cC x c e) (n7 b hb).2), fun p hp => absurd (show p ∈ ([] : List (Addr × Obj)) ++ [] from hp) (by simp)⟩) (st7.obj hgo)
      refine noE (pg.run _ (poisoned s6) _ H7 x u _ (inv_poison I7') r7 (step x H7 ⟨d, hd7, e7, v7⟩)) (SR.start' s6) fun _ s8 s8p q8 ⟨σ8, H8, I8, hw8, k8⟩ => ?_
      refine noE (pt.run _ s8p σ8 H8 _ I8 k8) q8 fun b s9 s9p q9 ⟨H9, I9, k9⟩ => ?_
      have fin : ∀ {s' sp : Shared} {H' : Hp}, SR s6.gens sp s' → L2.Inv (X.blk s3 H3 scope ce fB) ([] ++ pinsAt fp7 s6.heap) σ8 H' sp → Nx H' → ∃ m, m < n ∧ ∃ i H' fp, L2.Inv (X.blk s3 H3 scope ce fB) [] (wipe σ (own.map (·.2))) H' s' ∧ TnG (gpOf X X.A N qual sc f cd L) items a go gg i s' fp ∧ (∀ b ∈ fp, H' b = none ∧ @LE.le Nat _ L b) ∧ s3.heap.objs.size ∉ fp ∧ W i m H' := fun {s' sp H'} qs Ip nx => by
        have I' := inv_real qs Ip
        obtain ⟨m', hm, w'⟩ := hNx H' nx
        have pin' : ∀ b ∈ fp7, ∀ o, s6.heap.get? b = some o → s'.heap.get? b = some o ∧ H' b = none := fun b hb o e =>
          let z := I'.pin (b, o) (List.mem_append_right _ (List.mem_append_right _ (mem_pinsAt hb e)))
          ⟨z.1, z.2.1⟩
        have hl : (wipe σ (own.map (·.2))).length = σ8.length := by rw [← hw8, wipe_length]
        refine ⟨m', hm, i + 1, H', fp7, (I'.unpinned (pins := [])).weak hl (fun j v e => ?_), st7.keep (fun b hb o e => (pin' b hb o e).1) (by rw [ey7]; exact qs.slept ey7 sy7), fun b hb => ?_, hC7, w'⟩
        · rw [← hw8] at e
          exact (wipe_some e).1
        · obtain ⟨o, e, _⟩ := st7.obj hgo b hb
          exact ⟨(pin' b hb o e).2, (n7 b hb).2⟩
      cases b with
      | false =>
        simp only [Bool.false_eq_true, if_false] at k9 ⊢
        exact fin q9 I9 k9
      | true =>
        simp only [if_true] at k9 ⊢
        refine noE (pe.run _ s9p σ8 H9 _ I9 k9) q9 fun z s10 s10p q10 ⟨yv, H10, I10, r10, acc, hD10, hz10, nx⟩ => ?_
        refine noE (app_ok (X := X.blk s3 H3 scope ce fB) (E := fun _ _ => False) (Q := fun _ s' => L2.Inv (X.blk s3 H3 scope ce fB) ([] ++ pinsAt fp7 s6.heap) σ8 (upd H10 D (.lst (acc ++ [yv]))) s') I10 hD10 hz10 r10 fun s11 I11 => I11) q10 fun _ s11 s11p q11 I11 => fin q11 I11 nx
  exact codeAny_compStart_list loop (wpAny_pyIter_gen (hgo.isGen (let ⟨_, _, _, _, z, _⟩ := st4; z)) loop)
end
end GP

namespace GP
open PySem PySem.Spec L2 PyProof.Rows GenW DM
theorem lcAuxG {W : DW} {K : PySem.W.Frag} {I : CM IV} {g : TG} {f : D → Rho → Option Rho} {T : CM Bool} {E : CM D} {vs : List Nat} (ht : TgOk K g f vs) (σ : L2.St) (H : Hp) (Q : VK) (h : tE K W (eLC I f T E vs) σ H Q) : tLcG (tI K W I) g (tT K noX T) (tE K noX E) vs σ H Q := by
  obtain ⟨ρ, ι, μ, sr, wf, h⟩ := h
  refine tG.mono (PostG.bind sr wf h) ?_
  rintro J H1 ⟨ι1, μ1, ⟨items, gd⟩, l1, w1, hJ, h1⟩ Dd hD
  have h1 : PostG (VR K) K W σ ι1 H1 Q (lcLoop gd f T E μ1.length items (wipeR ρ vs) (μ1 ++ [.lst []])) := h1
  have lc := Le.cell (ι := ι1) (o := HO.lst []) hD
  have wc : WF K (ι1 ++ [Dd]) (μ1 ++ [.lst []]) (upd H1 Dd (.lst [])) := w1.cell hD ⟨[], upd_same, .nil⟩
  have hcc : (ι1 ++ [Dd])[μ1.length]? = some Dd := by rw [← w1.len]; simp
  have h1' := PostG.from lc h1
  refine ⟨fun i m H' => ∃ ι' μ', WF K ι' μ' H' ∧ Le (ι1 ++ [Dd]) (upd H1 Dd (.lst [])) ι' H' ∧ m = items.length - i ∧ i ≤ items.length ∧ PostG (VR K) K W σ ι' H' Q (lcLoop gd f T E μ1.length (items.drop i) (wipeR ρ vs) μ'),
    ⟨items.length, ι1 ++ [Dd], μ1 ++ [Ob.lst []], wc, Le.refl _ _, rfl, Nat.zero_le _, by rw [List.drop_zero]; exact h1'⟩, ?_⟩
  rintro i m H2 ⟨ι2, μ2, w2, l2, rfl, hi2, h2⟩
  have sr2 : DM.SR K ι2 H2 (wipe σ vs) (wipeR ρ vs) := (sr.mono (l1.trans (lc.trans l2))).wipe vs
  have hcD : ι2[μ1.length]? = some Dd := l2.pre _ _ hcc
  refine ⟨?_, ?_⟩
  · obtain ⟨o, ho, _⟩ := w2.has hcD
    exact (w2.ob _ _ _ hcD ho).has
  by_cases hlt : i < items.length
  · refine .inr ?_
    rw [List.drop_eq_getElem_cons hlt] at h2
    obtain ⟨hgd, h2⟩ := PostG.guard h2
    obtain ⟨go, _⟩ := hJ i ι2 μ2 H2 (lc.trans l2) w2 hgd
    obtain ⟨jg, jy⟩ := go _ (List.getElem?_eq_getElem hlt)
    refine ⟨jg, fun H' => ∃ ι' μ', WF K ι' μ' H' ∧ Le (ι1 ++ [Dd]) (upd H1 Dd (.lst [])) ι' H' ∧ PostG (VR K) K W σ ι' H' Q (lcLoop gd f T E μ1.length (items.drop (i + 1)) (wipeR ρ vs) μ'), fun H' ⟨ι', μ', a, b, c⟩ => ⟨items.length - (i + 1), by omega, ι', μ', a, b, rfl, hlt, c⟩, fun x H3 y => ?_⟩
    obtain ⟨l3, w3, v3⟩ := jy x H3 y
    split at h2
    · rename_i ρ3 eg
      refine ht x _ (wipe σ vs) (wipeR ρ vs) ρ3 ι2 μ2 H3 _ (sr2.mono l3) w3 v3 eg fun σ3 sr3 hw => ⟨hw.trans (wipe_sub vs fun _ z => z), ρ3, ι2, μ2, sr3, w3, ?_⟩
      have h3 := PostG.from l3 h2
      have L := l2.trans l3
      match T ρ3 μ2, h3 with
      | some (.ok true, μ4), h3 =>
        intro ι4 H4 b l4 w4 eb
        subst eb
        rw [if_pos rfl]
        refine ⟨ρ3, ι4, μ4, sr3.mono l4, w4, ?_⟩
        have h4 := PostG.from l4 h3
        simp only [] at h4
        generalize E ρ3 μ4 = rE at h4 ⊢
        match rE, h4 with
        | some (.ok yd, μ5), h4 =>
          intro ι5 H5 yv l5 w5 vy
          have hc5 := l5.pre _ _ (l4.pre _ _ hcD)
          obtain ⟨o, ho, ro⟩ := w5.has hc5
          simp only [ho] at h4
          cases o with
          | lst acc =>
            obtain ⟨av, ea, ra⟩ := ro
            obtain ⟨q, h4⟩ := PostG.guard h4
            refine ⟨av, ea, by rw [ra.length]; exact q, ι5, _, w5.set hc5 (nf ea) (OR.mkL upd_same ((ra.append (.cons vy .nil)).mono (Le.set hc5 (nf ea)))), ((L.trans l4).trans l5).trans (Le.set hc5 (nf ea)), PostG.from (l5.trans (Le.set hc5 (nf ea))) h4⟩
          | _ => exact h4.elim
      | some (.ok false, μ4), h3 =>
        intro ι4 H4 b l4 w4 eb
        subst eb
        rw [if_neg Bool.false_ne_true]
        exact ⟨ι4, μ4, w4, L.trans l4, PostG.from l4 h3⟩
    · exact h2.elim
  · have e : i = items.length := by omega
    subst e
    rw [List.drop_length] at h2
    obtain ⟨hgd, h2⟩ := PostG.guard h2
    obtain ⟨_, st⟩ := hJ items.length ι2 μ2 H2 (lc.trans l2) w2 hgd
    refine .inl ⟨st (Nat.le_refl _), fun H' e => ?_⟩
    obtain ⟨l', w'⟩ := ext_le e w2
    exact (PostG.from l' h2).ok0 w' (.ref hcD)
section
variable {X : Cx} {W : DW}
theorem pe_lcG {elt tg iter : Expr} {ifs : List Expr} {scope : Scope} {own : List (Str × Nat)} {pos : Pos} {wi : TI} {g : TG} {tt : TT} {te : TE} (hN : X.N.Nodup) (hi : PIM X X.A iter wi) (ok : BlkOk X.N X.env.scope scope own) (hnc : ∀ y ∈ scope.names, y.2 ≠ .cell)
    (hg : ∀ (s : Shared) (H : Hp) (C : Addr) (cl : List (Str × Addr)) (fp : List Addr), PG (X.blk s H scope (compEnvC scope cl C X.env) fp) tg g) (ht : ∀ (s : Shared) (H : Hp) (C : Addr) (cl : List (Str × Addr)) (fp : List Addr), PTs (X.blk s H scope (compEnvC scope cl C X.env) fp) ifs tt)
    (he : ∀ (s : Shared) (H : Hp) (C : Addr) (cl : List (Str × Addr)) (fp : List Addr), PE (X.blk s H scope (compEnvC scope cl C X.env) fp) elt te) (hs : ∀ x, foldedSetIterable iter X.env x = pure x := by intro _; rfl) :
    PE X (.ListComp elt [⟨tg, iter, ifs, 0⟩] scope pos) (tLcG wi g tt te (own.map (·.2))) := by
  refine ⟨fun pins s σ H Q I h => ?_⟩
  rw [eval_ListComp]
  refine lcG_core hN I hi ok hnc hg ht he hs h fun D C s' m H' I' q hn f => ⟨m, hn, fun h'' sb => ?_⟩
  obtain ⟨f0, f1, f2, f3, f4, f5⟩ := f
  exact ⟨.ref D, H', I'.turned (t' := s'.toks) (fun b o hb e => (sb.2 b hb).trans e) f0 f1 f3 f4 f5, rfl, q⟩
theorem d_lcG {elt tg iter : Expr} {ifs : List Expr} {scope : Scope} {own : List (Str × Nat)} {pos : Pos} {I : CM IV} {g : TG} {f : D → Rho → Option Rho} {T : CM Bool} {E : CM D} (hN : X.N.Nodup) (hi : PIM X X.A iter (tI X.K W I)) (ok : BlkOk X.N X.env.scope scope own) (hnc : ∀ y ∈ scope.names, y.2 ≠ .cell)
    (hg : ∀ (s : Shared) (H : Hp) (C : Addr) (cl : List (Str × Addr)) (fp : List Addr), PG (X.blk s H scope (compEnvC scope cl C X.env) fp) tg g) (htg : TgOk X.K g f (own.map (·.2)))
    (ht : ∀ (s : Shared) (H : Hp) (C : Addr) (cl : List (Str × Addr)) (fp : List Addr), PTs (X.blk s H scope (compEnvC scope cl C X.env) fp) ifs (tT X.K noX T))
    (he : ∀ (s : Shared) (H : Hp) (C : Addr) (cl : List (Str × Addr)) (fp : List Addr), PE (X.blk s H scope (compEnvC scope cl C X.env) fp) elt (tE X.K noX E)) (hs : ∀ x, foldedSetIterable iter X.env x = pure x := by intro _; rfl) :
    PE X (.ListComp elt [⟨tg, iter, ifs, 0⟩] scope pos) (tE X.K W (eLC I f T E (own.map (·.2)))) := (pe_lcG hN hi ok hnc hg ht he hs).imp (lcAuxG htg)
end
end GP

namespace GP
open PySem PySem.Spec L2 PyProof.Rows GenW DM
theorem vrs_ext {K : PySem.W.Frag} {H H1 : Hp} {vs : List V} {ds : List D} (e : Ext H H1) (h : VRs K [] H vs ds) : VRs K [] H1 vs ds := h.mono (ext_le (K := K) (ι := []) (μ := []) e ⟨rfl, List.Pairwise.nil, fun q a o h1 => by simp at h1⟩).1
/-! ### list(g) -/
section
variable {X : Cx} {pins : List (Addr × Obj)} {σ : L2.St} {all : List D} {N : List Str} {qual : Str} {sc : Scope} {f : Addr} {cd : Value} {L g : Nat} {a S : Addr} {go : Obj} {A : Around} {R : Result → Shared → Prop} {res : Value}
theorem drain1 (hgo : GObj go g) (old : Older X pins L) (hA : AOk X A.in1) (hLS : @LT.lt Nat _ L S) (hlen : all.length ≤ sizeLine) {Hs : Hp}
    (hend : ∀ s' acc c H' ys, s'.heap.get? S = some (lstObj acc c) → Vals ys acc.toList → VRs X.K [] H' ys all → L2.Inv X pins σ H' s' → H' S = none → Ext Hs H' → R (.ok (.ret res)) s') :
    ∀ (m i : Nat) (s : Shared) (H : Hp) (fp : List Addr) (acc : Array Value) (c : Nat) (ys : List V), all.length - i = m → i ≤ all.length → L2.Inv X pins σ H s → TnG (gpOf X A.in1 N qual sc f cd L) all a go g i s fp → (∀ b ∈ fp, H b = none ∧ @LE.le Nat _ L b) → S ∉ fp → H S = none → s.heap.get? S = some (lstObj acc c) → Vals ys acc.toList → VRs X.K [] H ys (all.take i) → Ext Hs H →
      codeAny (model X.prog X.w) A (.builtin "list.extend.loop" ⟨[.ref S, .ref a, res], []⟩) R s := by
  intro m
  induction m with
  | zero =>
    intro i s H fp acc c ys hm hi I t hn hSf hSn hS hv vr ex
    have ei : i = all.length := by omega
    subst ei
    refine codeAny_builtin F.entry_extend_loop ?_
    rw [Around.under_plainId F.plain_extend_loop _]
    show wpAny _ A.in1 (pyNext (.ref a) >>= _) _ _ s
    refine wpAny_bind (wpAny_mono (resume_done (gp := [(S, lstObj acc c)]) (E := fun _ _ => False) hgo hA I (old.cons I.ok _) t (fun b hb => (hn b hb).1) (fun q hq => ?_) (Nat.le_refl _)) (fun r s1 h => ?_) fun _ _ z => z.elim)
    · rw [List.mem_singleton.mp hq]
      exact ⟨hS, hSn, hLS, (fun v z => nomatch z), hSf⟩
    · obtain ⟨rfl, H1, I1, e1, g1⟩ := h
      obtain ⟨k1, k2⟩ := g1 _ (List.mem_singleton.mpr rfl)
      rw [List.take_length] at vr
      exact wpAny_pure (hend _ acc c H1 ys k1 hv (vrs_ext e1 vr) I1 k2 (ex.trans e1))
  | succ m ih =>
    intro i s H fp acc c ys hm hi I t hn hSf hSn hS hv vr ex
    have hlt : i < all.length := by omega
    refine codeAny_builtin F.entry_extend_loop ?_
    rw [Around.under_plainId F.plain_extend_loop _]
    show wpAny _ A.in1 (pyNext (.ref a) >>= _) _ _ s
    refine wpAny_bind (wpAny_mono (resume_item (gp := [(S, lstObj acc c)]) (E := fun _ _ => False) hgo hA I (old.cons I.ok _) t (fun b hb => (hn b hb).1) (fun q hq => ?_) hlt) (fun r s1 h => ?_) fun _ _ z => z.elim)
    · rw [List.mem_singleton.mp hq]
      exact ⟨hS, hSn, hLS, (fun v z => nomatch z), hSf⟩
    · obtain ⟨u, x, d, H1, fp', rfl, hd, I1, rv, e1, v1, t1, _, n1, g1⟩ := h
      obtain ⟨k1, k2, _, _, k5⟩ := g1 _ (List.mem_singleton.mpr rfl)
      have hal : acc.size = i := by
        have z1 := hv.length
        have z2 := vr.length
        rw [List.length_take, Nat.min_eq_left hi] at z2
        have z3 : acc.toList.length = acc.size := rfl
        omega
      have hasz : acc.size < sizeLine := by omega
      show wpAny _ A.in1 (updateSeq S (·.push u) >>= _) _ _ _
      refine wpAny_bind ?_
      refine wpAny_updateSeq k1 rfl (wpAny_pure ⟨plainId_quiet F.plain_extend_loop _, ?_⟩) (Nat.le_of_lt hasz) (by show (acc.push u).size ≤ sizeLine + 1; rw [Array.size_push]; omega)
      have keep3 : ∀ b o, b ≠ S → s1.heap.get? b = some o → (s1.heap.update S (Obj.mapSeq (·.push u))).get? b = some o := fun b o hbS e => (Heap.get?_update_other _ _ (Ne.symm hbS)).trans e
      have fS : FpOk X pins H1 S := old.fp I.ok (stk_sub I.ok) (Nat.le_of_lt hLS) k2
      obtain ⟨f0, f1, f2, f3, f4, f5⟩ := fS
      have I2 : L2.Inv X pins σ H1 { s1 with heap := s1.heap.update S (Obj.mapSeq (·.push u)) } := I1.turned (t' := s1.toks) (fun b o hb e => keep3 b o hb e) f0 f1 f3 f4 f5
      obtain ⟨c', hc'⟩ : ∃ c', (s1.heap.update S (Obj.mapSeq (·.push u))).get? S = some (lstObj (acc.push u) c') := ⟨_, Heap.get?_update_self _ k1 rfl⟩
      refine ih (i + 1) _ H1 fp' (acc.push u) c' (ys ++ [x]) (by omega) hlt I2 (t1.keep (fun b hb o e => keep3 b o (fun z => k5 (by rw [← z]; exact hb)) e) rfl) n1 k5 k2 ?_ ?_ ?_ (ex.trans e1)
      · exact hc'
      · rw [Array.toList_push]; exact hv.append (.cons rv .nil)
      · rw [List.take_succ, hd]
        exact (vrs_ext e1 vr).append (.cons v1 .nil)
theorem inv_track {H : Hp} {s : Shared} {ys : List V} {acc : Array Value} {c : Nat} (I : L2.Inv X pins σ H s) (fS : FpOk X pins H S) (hS : s.heap.get? S = some (lstObj acc c)) (hv : Vals ys acc.toList) (hl : ys.length ≤ sizeLine) : L2.Inv X pins σ (upd H S (.lst ys)) s := by
  obtain ⟨f0, f1, f2, f3, f4, f5⟩ := fS
  refine I.call' (ch := [S]) rfl ⟨fun b ob e _ _ _ => e, fun b ob e _ _ _ => ⟨ob.slots, e⟩, fun b ob e n hx => ?_, fun b ob e _ => ⟨ob, e⟩, fun b xs q => ?_, fun b ob y q => ?_, fun b qs q => ?_⟩ (fun b u q => ?_) I.bare fun b hb => ?_
  · rw [upd_ne (fun z => hx (by rw [z]; exact List.mem_singleton.mpr rfl))]; exact n
  · rw [upd_ne (ne_of_none q f0)]; exact q
  · rw [upd_ne (ne_of_none q f0)]; exact q
  · exact ⟨#[], by rw [upd_ne (ne_of_none q f0), q]; simp⟩
  · by_cases hb : b = S
    · subst hb
      rw [upd_same] at q
      cases q
      exact ⟨hl, acc.toList, c, hv, by rw [hS]⟩
    · rw [upd_ne hb] at q
      exact (I.hok b u q).stay (fun _ _ _ z => z) (fun d z => by rw [upd_ne (ne_of_none z f0)]; exact z) fun d xs z => by rw [upd_ne (ne_of_none z f0)]; exact z
  · rw [List.mem_singleton.mp hb]
    exact ⟨f3, f1, f4, f5⟩
theorem call_list1 {s : Shared} {u : Value} {R' : It → Hp → Prop} {Q' : Value → Shared → Prop} {E : Value → Shared → Prop} (hh : X.A.handled = none) (h : PGM X X.A.in1.in1 pins σ R' u s)
    (hQ : ∀ S s' items H H' ys, R' (JG X.K items) H → Ext H H' → (items.length ≤ sizeLine → H' S = none ∧ VRs X.K [] H' ys items ∧ L2.Inv X pins σ (upd H' S (.lst ys)) s') → Q' (.ref S) s') (hsz : ∀ items H, R' (JG X.K items) H → items.length ≤ sizeLine) :
    wpAny (model X.prog X.w) X.A (call (.type "list") [u]) Q' E s := by
  obtain ⟨a, g, go, N, qual, sc, f, cd, L, fp, items, H, rfl, I, hgo, old, hz, ha, hLa, t, hfp, hA, hR⟩ := h
  have hlen := hsz items H hR
  have hg := hgo.isGen ha
  have ha2 : a < s.heap.objs.size := Heap.lt_size ha
  have hSa : s.heap.objs.size ≠ a := Nat.ne_of_gt ha2
  refine callType_codes (Q₁ := fun obj s₁ => obj = .ref s.heap.objs.size ∧ s₁ = { s with heap := s.heap.push { cls := .type "list", data := .seq #[] } }) F.called_list (F.typeCall_list_1 _) F.entry_list_init
    (code_list_new _ ⟨rfl, rfl⟩) fun obj s₁ h₁ => ?_
  obtain ⟨rfl, rfl⟩ := h₁
  have hS : (s.heap.push { cls := .type "list", data := .seq #[] }).get? s.heap.objs.size = some { cls := .type "list", data := .seq #[] } := Heap.get?_push_size _ rfl
  refine ⟨⟨_, hS, rfl⟩, F.args_list_init_2 _ _, ?_⟩
  show wpAny _ X.A.in1.in1 (do let old ← Builtin.List.listItems (.ref s.heap.objs.size); Builtin.List.listUpdate (.ref s.heap.objs.size) (fun _ => #[]); letGo old.toList.reverse; Builtin.List.listExtendWith (.ref s.heap.objs.size) (.ref a) .none) _ _ _
  refine wpAny_bind ?_
  unfold Builtin.List.listItems
  refine wpAny_bind (wpAny_seqItems hS rfl (wpAny_pure ?_))
  show wpAny _ X.A.in1.in1 (updateSeq s.heap.objs.size (fun _ => #[]) >>= fun _ => letGo (#[] : Array Value).toList.reverse >>= fun _ => Builtin.List.listExtendWith (.ref s.heap.objs.size) (.ref a) .none) _ _ _
  refine wpAny_bind (wpAny_updateSeq hS rfl ?_)
  have hS2 := Heap.get?_update_self (Obj.mapSeq (fun _ => (#[] : Array Value))) hS rfl
  refine wpAny_bind (wpAny_letGo ?_)
  unfold Builtin.List.listExtendWith
  have up : ∀ (h : Heap) (f : Obj → Obj), (∀ b o, s.heap.get? b = some o → h.get? b = some o) → ∀ b o, s.heap.get? b = some o → (h.update s.heap.objs.size f).get? b = some o := fun h f q b o e =>
    (Heap.get?_update_other _ _ (Ne.symm (Nat.ne_of_lt (Heap.lt_size e)))).trans (q b o e)
  have k1 : ∀ b o, s.heap.get? b = some o → (s.heap.push { cls := .type "list", data := .seq #[] }).get? b = some o := fun b o e => Heap.get?_push_of_some _ e
  have k2 := up _ (Obj.mapSeq (fun _ => (#[] : Array Value))) k1
  have gty : ∀ {h : Heap}, (∀ b o, s.heap.get? b = some o → h.get? b = some o) → h.IsGen a g := fun {h} q => hg.keeps q
  refine wpAny_bind (wpAny_typeOf (Heap.IsGen.typeIs (s := { s with heap := _ }) (gty k2)) ?_)
  have h1 : Builtin.List.listSameRef (.ref s.heap.objs.size) (.ref a) = false := by simp [Builtin.List.listSameRef, hSa]
  have h2 : (Value.type "generator" == Value.type "list") = false := by decide
  have h3 : (Value.type "generator" == Value.type "tuple") = false := by decide
  simp only [h1, h2, h3, Bool.or_false, Bool.false_eq_true, if_false]
  refine wpAny_bind (wpAny_pyIter_gen (s := { s with heap := _ }) (gty k2) ?_)
  refine wpAny_bind (wpAny_holding ?_)
  unfold Builtin.List.listLengthHint
  refine wpAny_bind (wpAny_specialOf (Heap.IsGen.typeIs (s := { s with heap := _ }) (gty k2)) F.gen_no_len ?_)
  show wpAny _ X.A.in1.in1 (specialOf (Value.ref a) (Str.ofString "__length_hint__") >>= _) _ _ _
  refine wpAny_bind (wpAny_specialOf (Heap.IsGen.typeIs (s := { s with heap := _ }) (gty k2)) F.gen_no_hint ?_)
  refine wpAny_pure ?_
  show wpAny _ X.A.in1.in1 (rule "list.extend.makes-room" >>= fun _ => Builtin.List.listTouch (.ref s.heap.objs.size) >>= fun _ =>
    again (.builtin "list.extend.loop" ⟨[.ref s.heap.objs.size, .ref a, .none], []⟩)) _ _ _
  refine wpAny_bind (wpAny_rule ?_)
  refine wpAny_bind ?_
  show wpAny _ X.A.in1.in1 (updateSeq s.heap.objs.size (·.push .none) >>= fun _ => updateSeq s.heap.objs.size (·.pop)) _ _ _
  refine wpAny_bind (wpAny_updateSeq hS2 rfl ?_)
  have hS3 := Heap.get?_update_self (Obj.mapSeq (·.push Value.none)) hS2 rfl
  refine wpAny_updateSeq (hz := by seq_fits) hS3 rfl ?_
  have hS4 := Heap.get?_update_self (Obj.mapSeq (·.pop)) hS3 rfl
  have k4 := up _ (Obj.mapSeq (·.pop)) (up _ (Obj.mapSeq (·.push Value.none)) k2)
  have hSn : H s.heap.objs.size = none := I.hok.fresh (Nat.le_refl _)
  refine wpAny_pure ⟨plainId_quiet F.plain_extend_loop _, ?_⟩
  refine drain1 (A := X.A.in1) (Hs := H) (res := .none) hgo old hA (Nat.lt_trans hLa ha2) hlen (fun s' acc c H' ys q1 q2 q3 q4 q5 q6 => ⟨rfl, hQ _ s' items H H' ys hR q6 fun _ => ⟨q5, q3, inv_track q4 (old.fp I.ok (stk_sub I.ok) (Nat.le_of_lt (Nat.lt_trans hLa ha2)) q5) q1 q2 (by rw [q3.length]; exact hlen)⟩⟩) items.length 0 _ H fp #[] _ [] (by omega) (Nat.zero_le _) (I.kept (t' := s.toks) k4) (t.keep (fun b _ o e => k4 b o e) rfl) (fun b hb => ⟨hz b (hfp b hb), hfp b hb⟩) (fun z => ?_) hSn hS4 .nil .nil (Ext.refl _)
  · obtain ⟨o, e, _⟩ := t.obj hgo _ z
    exact absurd (Heap.lt_size e) (Nat.lt_irrefl _)
end
end GP

namespace GP
open PySem PySem.Spec L2 PyProof.Rows GenW DM
theorem vrs_idx {K : PySem.W.Frag} {ι : List Addr} {H : Hp} : ∀ {vs : List V} {ds : List D}, vs.length = ds.length → (∀ (i : Nat) v d, vs[i]? = some v → ds[i]? = some d → VR K ι H v d) → VRs K ι H vs ds
  | [], [], _, _ => .nil
  | v :: vs, d :: ds, hl, h => .cons (h 0 v d rfl rfl) (vrs_idx (by simpa using hl) fun i v d a b => h (i + 1) v d (by simpa using a) (by simpa using b))
  | [], _ :: _, hl, _ => by simp at hl
  | _ :: _, [], hl, _ => by simp at hl
theorem vrs_at {K : PySem.W.Frag} {ι : List Addr} {H : Hp} : ∀ {vs : List V} {ds : List D}, VRs K ι H vs ds → ∀ (i : Nat) v d, vs[i]? = some v → ds[i]? = some d → VR K ι H v d
  | _, _, .nil, i, v, d, a, b => by simp at a
  | _, _, .cons h r, 0, v, d, a, b => by simp at a b; subst a b; exact h
  | _, _, .cons h r, i + 1, v, d, a, b => vrs_at r i v d (by simpa using a) (by simpa using b)
/-- list(g) -/
def eListG (I : CM IV) : CM D := I.bind fun p _ μ => if p.2 μ = true ∧ p.1.length ≤ sizeLine then some (.ok (.lst p.1), μ) else none
section
variable {X : Cx} {W : DW} {I : CM IV} {e : Expr} {p pos : Pos}
theorem d_listG (h : PIM X X.A.in1.in1 e (tI X.K W I)) (hh : X.A.handled = none) (hg : Gl X "list") (hmg : X.mg "list" = none) (he : starEach [e] X.env = (false, eval e X.env) :: starEach [] X.env := by rfl) :
    PE X (.Call (.Name "list" p) [e] [] pos) (tE X.K W (eListG I)) := by
  refine ⟨fun pins s σ H Q I0 ⟨ρ, ι, μ, sr, wf, hq⟩ => ?_⟩
  refine wpAny_Call_Name_kw (ld_blt I0 hg hmg (u := .type "list") (by decide +kernel) ?_ (by decide) (by decide))
  refine PyProof.Rows.callWith_type1 ?_ he rfl
  rw [he]
  show wpAny _ _ (spliced ((false, eval e X.env) :: backTo pos (starEach [] X.env))) _ _ s
  refine Calls.spliced_cons (thn (h.run pins s σ H _ I0 (PostG.bind sr wf hq)) fun u s1 hG => ?_)
  refine Calls.spliced_nil ?_
  have key : ∀ {items : List D} {H1 : Hp}, (∃ ι1 μ1 a, Le ι H ι1 H1 ∧ WF X.K ι1 μ1 H1 ∧ ItR X.K ι1 H1 (JG X.K items) a ∧ PostG (VR X.K) X.K W σ ι1 H1 Q (if a.2 μ1 = true ∧ a.1.length ≤ sizeLine then some (.ok (.lst a.1), μ1) else none)) →
      ∃ (ι1 : List Addr) (μ1 : Store) (a : IV), WF X.K ι1 μ1 H1 ∧ a.1.length ≤ sizeLine ∧ items.length = a.1.length ∧ (∀ (i : Nat) d, a.1[i]? = some d → ∀ x H', (JG X.K items).yld i H1 x H' → Le ι1 H1 ι1 H' ∧ WF X.K ι1 μ1 H' ∧ VR X.K ι1 H' x d) ∧ PostG (VR X.K) X.K W σ ι1 H1 Q (some (.ok (.lst a.1), μ1)) := by
    rintro items H1 ⟨ι1, μ1, a, l1, w1, hJ, h1⟩
    obtain ⟨q, h1⟩ := PostG.guard h1
    refine ⟨ι1, μ1, a, w1, q.2, ?_, fun i d hd => ((hJ i ι1 μ1 H1 (Le.refl _ _) w1 q.1).1 d hd).2, h1⟩
    have z1 : items.length ≤ a.1.length := (hJ a.1.length ι1 μ1 H1 (Le.refl _ _) w1 q.1).2 (Nat.le_refl _)
    refine Nat.le_antisymm z1 ?_
    rcases Nat.lt_or_ge items.length a.1.length with z | z
    · have := ((hJ items.length ι1 μ1 H1 (Le.refl _ _) w1 q.1).1 _ (List.getElem?_eq_getElem z)).1
      exact absurd (show items.length < items.length from this) (Nat.lt_irrefl _)
    · exact z
  refine call_list1 hh hG (fun S s' items H1 H' ys hR ex hf => ?_) fun items H1 hR => ?_
  · obtain ⟨ι1, μ1, a, w1, hl, hlen, hy, h1⟩ := key hR
    obtain ⟨hSn, vr, I2⟩ := hf (by rw [hlen]; exact hl)
    obtain ⟨l2, w2⟩ := ext_le ex w1
    have vr2 : VRs X.K ι1 H' ys a.1 := vrs_idx (by rw [vr.length, hlen]) fun i v d hv hd => by
      have hi : i < items.length := by rw [hlen]; exact (List.getElem?_eq_some_iff.mp hd).1
      exact (hy i d hd v H' ⟨_, List.getElem?_eq_getElem hi, ex, vrs_at vr i v _ hv (List.getElem?_eq_getElem hi)⟩).2.2
    exact ⟨.ref S, _, I2, rfl, h1.ok (l2.trans (Le.laid hSn)) (w2.laid hSn) (.lst ⟨upd_same, w2.out hSn⟩ (vr2.mono (Le.laid hSn)))⟩
  · obtain ⟨ι1, μ1, a, w1, hl, hlen, _, _⟩ := key hR
    rw [hlen]; exact hl
end
end GP

namespace GP
open PySem PySem.Spec L2 DM
/-! ### plainly -/
theorem q_iGen {n : Nat} {Fg : List D → Option (List D)} {As : CM (List D)} {ρ : Rho} {μ : Store} {Q : IV → Store → Prop}
    (h : Ok (As ρ μ) fun ds μ' => ∃ us items, atomsV ds = some us ∧ Fg ds = some items ∧ ds.length = n ∧ items.all tupl = true ∧ Q (items, anyG) μ') : Ok (iGen n Fg As ρ μ) Q := by
  unfold iGen CM.bind
  generalize As ρ μ = r at h
  match r, h with
  | some (.ok ds, μ'), h =>
    obtain ⟨us, items, e1, e2, e3, e4, q⟩ := h
    simp only [e1, e2]
    rw [if_pos ⟨e3, e4⟩]
    exact q
  | some (.error x, μ'), h => exact h
  | none, h => exact h
theorem q_listG {I : CM IV} {ρ : Rho} {μ : Store} {Q : D → Store → Prop} (h : Ok (I ρ μ) fun p μ' => p.2 μ' = true ∧ p.1.length ≤ sizeLine ∧ Q (.lst p.1) μ') : Ok (eListG I ρ μ) Q := by
  unfold eListG CM.bind
  generalize I ρ μ = r at h
  match r, h with
  | some (.ok p, μ'), h =>
    obtain ⟨e1, e2, q⟩ := h
    show Ok (if p.2 μ' = true ∧ p.1.length ≤ sizeLine then some (.ok (.lst p.1), μ') else none) Q
    rw [if_pos ⟨e1, e2⟩]
    exact q
  | some (.error x, μ'), h => exact h
  | none, h => exact h
/-! #### cells(width) -/
def gIn : GD := gdFor (fun _ => some [.str "other", .str "same"]) 3 (gdYield (eTup (aCons (eVar 1) (aCons (eVar 2) (aCons (eVar 3) aNil)))))
theorem gIn_ok {w g : Int} {r : Str} {y3 : Option D} : gIn [some (.int w), some (.str r), some (.int g), y3] = some ((two r g).map cellD, [some (.int w), some (.str r), some (.int g), some (.str "same")]) := by
  rfl
theorem fold_in {w : Int} {r : Str} : ∀ (gs : List Int) (y2 y3 : Option D), ∃ z2 z3, gdFold 2 gIn (gs.map D.int) [some (.int w), some (.str r), y2, y3] = some ((gs.flatMap (two r)).map cellD, [some (.int w), some (.str r), z2, z3])
  | [], y2, y3 => ⟨y2, y3, rfl⟩
  | g :: gs, y2, y3 => by
    obtain ⟨z2, z3, e⟩ := fold_in gs (some (.int g)) (some (.str "same"))
    refine ⟨z2, z3, ?_⟩
    rw [List.map_cons]
    unfold gdFold
    simp only [List.set_cons_succ, List.set_cons_zero, gIn_ok, List.flatMap_cons, List.map_append]
    erw [e]
def gMid : GD := gdFor (gRng2 (aCons (e1 Fneg (eVar 0)) (aCons (e2 Fadd (eVar 0) (eC (.int 1))) aNil))) 2 gIn
theorem gMid_ok {w : Int} {r : Str} (hw : 0 ≤ w ∧ w ≤ 1000) (y2 y3 : Option D) : ∃ z2 z3, gMid [some (.int w), some (.str r), y2, y3] = some ((row r (0 - w) (2 * w + 1).toNat).map cellD, [some (.int w), some (.str r), z2, z3]) := by
  have e : gRng2 (aCons (e1 Fneg (eVar 0)) (aCons (e2 Fadd (eVar 0) (eC (.int 1))) aNil)) [some (.int w), some (.str r), y2, y3] = some (rngD (0 - w) (2 * w + 1).toNat) := by
    unfold gRng2
    have : aCons (e1 Fneg (eVar 0)) (aCons (e2 Fadd (eVar 0) (eC (.int 1))) aNil) [some (.int w), some (.str r), y2, y3] [] = some (.ok [.int (-w), .int (w + 1)], []) := rfl
    rw [this]
    simp only []
    rw [if_pos (by omega), show w + 1 - -w = 2 * w + 1 by omega, show -w = 0 - w by omega]
  obtain ⟨z2, z3, e2⟩ := fold_in (w := w) (r := r) (rngI (0 - w) (2 * w + 1).toNat) y2 y3
  refine ⟨z2, z3, ?_⟩
  unfold gMid gdFor
  rw [e]
  simp only []
  rw [rngD_eq, e2]
  rfl
def gCells : GD := gdFor (fun _ => some [.str "less", .str "more", .str "same"]) 1 gMid
theorem cells_eq {w : Int} (hw : 0 ≤ w ∧ w ≤ 1000) : (gCells (startR 4 [.int w])).map (·.1) = some ((allC w).map cellD) := by
  have s0 : startR 4 [.int w] = [some (.int w), none, none, none] := rfl
  rw [s0]
  obtain ⟨a2, a3, e1⟩ := gMid_ok (r := "less") hw none none
  obtain ⟨b2, b3, e2⟩ := gMid_ok (r := "more") hw a2 a3
  obtain ⟨c2, c3, e3⟩ := gMid_ok (r := "same") hw b2 b3
  unfold gCells gdFor
  simp only [gdFold, List.set_cons_succ, List.set_cons_zero, e1, e2, e3, Option.map_some, List.append_nil]
  unfold allC
  simp only [List.map_append, List.append_assoc]
theorem tupl_cells (cs : List Cell) : (cs.map cellD).all tupl = true := by
  rw [List.all_eq_true]
  intro d hd
  obtain ⟨c, _, rfl⟩ := List.mem_map.mp hd
  rfl
theorem f_inLC {cs : List Cell} {x : Cell} {μ : Store} (h : cs.all cellOk = true) (hx : cellOk x = true) : DM.Fin false (cellD x) (.lst (cs.map cellD)) μ = DM.Fin false (cellD x) (.tup (cs.map cellD)) μ := by
  unfold DM.Fin
  have e2 : toPyS μ (.tup (cs.map cellD)) = some (.tuple (cs.map cellP)) := by simp only [toPyS, toPy, toPys_cells, Option.map_some]
  have e3 : toPyS μ (.lst (cs.map cellD)) = some (.list (cs.map cellP)) := by simp only [toPyS, toPy, toPys_cells, Option.map_some]
  simp only [e2, e3]
  rfl
end GP

namespace DM
open PySem PySem.Spec L2
/-! ### things that own cells, side by side -/
structure Own where
  ix : List Nat
  P : Store → Prop
  fr : ∀ (μ μ' : Store), (∀ j ∈ ix, μ'[j]? = μ[j]?) → P μ → P μ'
  lt : ∀ (μ : Store), P μ → ∀ j ∈ ix, j < μ.length
structure Hold (L : List Own) (μ : Store) : Prop where
  nd : (L.flatMap (·.ix)).Nodup
  all : ∀ o ∈ L, o.P μ
  clo : Clo μ
section
variable {L : List Own} {μ μ' : Store} {o o' : Own}
theorem Hold.at (h : Hold L μ) {n : Nat} (e : L[n]? = some o) : o.P μ := h.all o (List.mem_of_getElem? e)
theorem own_sep : ∀ {L : List Own} {n m : Nat} {a b : Own}, (L.flatMap (·.ix)).Nodup → n ≠ m → L[n]? = some a → L[m]? = some b → ∀ j ∈ a.ix, j ∉ b.ix
  | [], _, _, _, _, _, _, e, _ => by simp at e
  | x :: r, 0, 0, _, _, _, hn, _, _ => absurd rfl hn
  | x :: r, 0, m + 1, a, b, nd, _, e, e' => by
    intro j ja jb
    simp only [List.getElem?_cons_zero, Option.some.injEq] at e
    subst e
    rw [List.flatMap_cons, List.nodup_append] at nd
    exact nd.2.2 j ja j (List.mem_flatMap.mpr ⟨b, List.mem_of_getElem? (by simpa using e'), jb⟩) rfl
  | x :: r, n + 1, 0, a, b, nd, _, e, e' => by
    intro j ja jb
    simp only [List.getElem?_cons_zero, Option.some.injEq] at e'
    subst e'
    rw [List.flatMap_cons, List.nodup_append] at nd
    exact nd.2.2 j jb j (List.mem_flatMap.mpr ⟨a, List.mem_of_getElem? (by simpa using e), ja⟩) rfl
  | x :: r, n + 1, m + 1, a, b, nd, hn, e, e' => by
    rw [List.flatMap_cons, List.nodup_append] at nd
    exact own_sep (n := n) (m := m) nd.2.1 (by omega) (by simpa using e) (by simpa using e')
theorem set_ix : ∀ {L : List Own} {n : Nat} {o o' : Own}, L[n]? = some o → o'.ix = o.ix → (L.set n o').flatMap (·.ix) = L.flatMap (·.ix)
  | [], _, _, _, e, _ => by simp at e
  | x :: r, 0, o, o', e, q => by
    simp only [List.getElem?_cons_zero, Option.some.injEq] at e
    subst e
    simp [q]
  | x :: r, n + 1, o, o', e, q => by
    simp only [List.set_cons_succ, List.flatMap_cons]
    rw [set_ix (by simpa using e) q]
/-- one of them has changed -/
theorem Hold.step (h : Hold L μ) {n : Nat} (e : L[n]? = some o) (hix : o'.ix = o.ix) (hP : o'.P μ') (fr : ∀ j, j ∉ o.ix → j < μ.length → μ'[j]? = μ[j]?) (hc : Clo μ') : Hold (L.set n o') μ' := by
  refine ⟨by rw [set_ix e hix]; exact h.nd, ?_, hc⟩
  intro a ha
  obtain ⟨m, hm, ea⟩ := List.getElem_of_mem ha
  have ea' : (L.set n o')[m]? = some a := by rw [List.getElem?_eq_getElem hm, ea]
  by_cases q : n = m
  · subst q
    have hl : n < L.length := by simpa using hm
    rw [List.getElem?_set_self hl] at ea'
    cases ea'
    exact hP
  · rw [List.getElem?_set_ne q] at ea'
    have hpa := h.at ea'
    refine a.fr μ μ' (fun j hj => fr j (own_sep h.nd (Ne.symm q) ea' e j hj) (a.lt μ hpa j hj)) hpa
/-- two of them have changed -/
theorem Hold.step2 {a b a' b' : Own} (h : Hold L μ) {n m : Nat} (hne : n ≠ m) (ea : L[n]? = some a) (eb : L[m]? = some b) (ha : a'.ix = a.ix) (hb : b'.ix = b.ix) (pa : a'.P μ') (pb : b'.P μ') (fr : ∀ j, j ∉ a.ix → j ∉ b.ix → j < μ.length → μ'[j]? = μ[j]?) (hc : Clo μ') : Hold ((L.set n a').set m b') μ' := by
  have eb1 : (L.set n a')[m]? = some b := by rw [List.getElem?_set_ne hne]; exact eb
  refine ⟨by rw [set_ix eb1 hb, set_ix ea ha]; exact h.nd, ?_, hc⟩
  intro x hx
  obtain ⟨k, hk, ex⟩ := List.getElem_of_mem hx
  have ex' : ((L.set n a').set m b')[k]? = some x := by rw [List.getElem?_eq_getElem hk, ex]
  have hl : k < L.length := by simpa using hk
  by_cases q : m = k
  · subst q
    rw [List.getElem?_set_self (by simpa using hl)] at ex'
    cases ex'
    exact pb
  · rw [List.getElem?_set_ne q] at ex'
    by_cases q2 : n = k
    · subst q2
      rw [List.getElem?_set_self hl] at ex'
      cases ex'
      exact pa
    · rw [List.getElem?_set_ne q2] at ex'
      have hpx := h.at ex'
      exact x.fr μ μ' (fun j hj => fr j (own_sep h.nd (Ne.symm q2) ex' ea j hj) (own_sep h.nd (Ne.symm q) ex' eb j hj) (x.lt μ hpx j hj)) hpx
/-- the cells stay -/
theorem Hold.keep (h : Hold L μ) (fr : ∀ j, j < μ.length → μ'[j]? = μ[j]?) (hc : Clo μ') : Hold L μ' :=
  ⟨h.nd, fun a ha => a.fr μ μ' (fun j hj => fr j (a.lt μ (h.all a ha) j hj)) (h.all a ha), hc⟩
theorem Hold.app {o : Ob} (h : Hold L μ) (ho : obOk (μ.length + 1) o = true) : Hold L (μ ++ [o]) :=
  h.keep (fun j hj => by rw [List.getElem?_append_left hj]) (h.clo.app ho)
theorem Hold.grow {t : Store} (h : Hold L μ) (hc : Clo (μ ++ t)) : Hold L (μ ++ t) := h.keep (fun j hj => by rw [List.getElem?_append_left hj]) hc
/-- a new thing in new cells -/
theorem Hold.new (h : Hold L μ) (fr : ∀ j, j < μ.length → μ'[j]? = μ[j]?) (hc : Clo μ') (hP : o.P μ') (hn : o.ix.Nodup) (hix : ∀ j ∈ o.ix, μ.length ≤ j) : Hold (L ++ [o]) μ' := by
  have k := h.keep fr hc
  refine ⟨?_, ?_, hc⟩
  · rw [List.flatMap_append, List.flatMap_cons, List.flatMap_nil, List.append_nil, List.nodup_append]
    refine ⟨h.nd, hn, ?_⟩
    rintro i hi j hj rfl
    obtain ⟨a, ha, hia⟩ := List.mem_flatMap.mp hi
    have := a.lt μ (h.all a ha) i hia
    have := hix i hj
    omega
  · intro a ha
    rcases List.mem_append.mp ha with ha | ha
    · exact k.all a ha
    · rw [List.mem_singleton.mp ha]; exact hP
theorem Hold.sub {M : List Own} (h : Hold L μ) (s : M.Sublist L) : Hold M μ := by
  refine ⟨?_, fun o ho => h.all o (s.mem ho), h.clo⟩
  refine List.Nodup.sublist ?_ h.nd
  induction s with
  | slnil => exact List.Sublist.refl _
  | cons a s ih =>
    have ih := ih ⟨(List.nodup_append.mp (by simpa using h.nd)).2.1, fun o ho => h.all o (List.mem_cons_of_mem _ ho), h.clo⟩
    exact ih.trans (by rw [List.flatMap_cons]; exact List.sublist_append_right _ _)
  | cons_cons a s ih =>
    have ih := ih ⟨(List.nodup_append.mp (by simpa using h.nd)).2.1, fun o ho => h.all o (List.mem_cons_of_mem _ ho), h.clo⟩
    rw [List.flatMap_cons, List.flatMap_cons]
    exact (List.Sublist.refl _).append ih
theorem Hold.ndix (h : Hold L μ) {n : Nat} (e : L[n]? = some o) : o.ix.Nodup := by
  have : ∀ {L : List Own} {n : Nat}, (L.flatMap (·.ix)).Nodup → L[n]? = some o → o.ix.Nodup := by
    intro L
    induction L with
    | nil => intro n _ e; simp at e
    | cons x r ih =>
      intro n nd e
      rw [List.flatMap_cons, List.nodup_append] at nd
      cases n with
      | zero =>
        simp only [List.getElem?_cons_zero, Option.some.injEq] at e
        subst e
        exact nd.1
      | succ n => exact ih nd.2.1 (by simpa using e)
  exact this h.nd e
end
/-- one cell -/
def oneA (i : Nat) (o : Ob) : Own := ⟨[i], fun μ => μ[i]? = some o, fun μ μ' h e => by rw [h i (by simp)]; exact e, fun μ e j hj => by
  simp only [List.mem_singleton] at hj
  subst hj
  exact (List.getElem?_eq_some_iff.mp e).1⟩
def poolA (p : Nat) (c : Int) : Own := ⟨[p], Pool p c, fun μ μ' h e => e.of (h p (by simp)), fun μ e j hj => by
  simp only [List.mem_singleton] at hj
  subst hj
  exact e.lt⟩
/-- the cells that stood before, but the pool -/
def baseA (μ0 : Store) (p : Nat) : Own := ⟨(List.range μ0.length).filter (fun j => decide (j ≠ p)), fun μ => ∀ k, k < μ0.length → k ≠ p → μ[k]? = μ0[k]?, fun μ μ' h e k hk hp => by
    rw [h k (by simp [hk, hp])]
    exact e k hk hp, fun μ e j hj => by
    simp only [List.mem_filter, List.mem_range, decide_eq_true_eq] at hj
    have := e j hj.1 hj.2
    rw [List.getElem?_eq_getElem hj.1] at this
    exact (List.getElem?_eq_some_iff.mp this).1⟩
theorem Wd.hold {p : Nat} {c : Int} {μ : Store} (w : Wd p c μ) : Hold [baseA μ p, poolA p c] μ := by
  have hl := w.pool.lt
  refine ⟨?_, ?_, w.pure.clo⟩
  · show ((List.range μ.length).filter (fun j => decide (j ≠ p)) ++ ([p] ++ [])).Nodup
    rw [List.append_nil, List.nodup_append]
    refine ⟨List.nodup_range.filter _, by simp, ?_⟩
    rintro a ha b hb rfl
    simp only [List.mem_filter, List.mem_range, decide_eq_true_eq, List.mem_singleton] at ha hb
    exact ha.2 hb
  · intro o ho
    simp only [List.mem_cons, List.not_mem_nil, or_false] at ho
    rcases ho with rfl | rfl
    · exact fun k _ _ => rfl
    · exact w.pool
section
variable {L : List Own} {μ0 μ μ' : Store} {p : Nat} {c c' : Int}
/-- the end of a sealed def that has a pool -/
theorem Hold.fin {n m : Nat} (h : Hold L μ) (hw : PureS μ0) (hp : p < μ0.length) (e0 : L[n]? = some (baseA μ0 p)) (e1 : L[m]? = some (poolA p c)) : Wd p c (μ.take μ0.length) ∧ Fr p μ0 (μ.take μ0.length) ∧ (μ.take μ0.length).all (obOk μ0.length) = true := by
  have hb : ∀ k, k < μ0.length → k ≠ p → μ[k]? = μ0[k]? := h.at e0
  have hP : Pool p c μ := h.at e1
  have hl : μ0.length ≤ μ.length := by
    by_cases hc : μ0.length ≤ 1
    · have := hP.lt
      omega
    · by_cases q : μ0.length - 1 = p
      · have := hP.lt
        omega
      · have e := hb (μ0.length - 1) (by omega) q
        rw [List.getElem?_eq_getElem (by omega : μ0.length - 1 < μ0.length)] at e
        have := (List.getElem?_eq_some_iff.mp e).1
        omega
  have f : Fr p μ0 (μ.take μ0.length) := by
    refine ⟨by rw [List.length_take]; omega, fun j hj => ?_⟩
    by_cases hk : j < μ0.length
    · rw [List.getElem?_take_of_lt hk]
      exact hb j hk hj
    · rw [List.getElem?_eq_none (by rw [List.length_take]; omega), List.getElem?_eq_none (by omega)]
  have hP' : Pool p c (μ.take μ0.length) := hP.of (by rw [List.getElem?_take_of_lt hp])
  have pu : PureS (μ.take μ0.length) := by
    intro o ho
    obtain ⟨j, hj, rfl⟩ := List.getElem_of_mem ho
    by_cases q : j = p
    · subst q
      exact hP'.ob 0 _ (List.getElem?_eq_getElem hj)
    · have e := f.eq j q
      rw [List.getElem?_eq_getElem hj] at e
      exact hw _ (List.mem_of_getElem? e.symm)
  exact ⟨⟨hP', pu⟩, f, List.all_eq_true.mpr fun o ho => obOk_mono (pu o ho)⟩
theorem Hold.wc {m : Nat} (h : Hold L μ) (e : L[m]? = some (poolA p c)) : Wc p c μ := ⟨h.at e, h.clo⟩
/-- behind a draw -/
theorem Hold.draw {m : Nat} (h : Hold L μ) (e : L[m]? = some (poolA p c)) (x : Wz μ p c' μ') : Hold (L.set m (poolA p c')) μ' :=
  h.step e rfl x.wd.pool (fun j hj _ => x.fr.eq j (by rintro rfl; exact hj (by simp [poolA]))) x.wd.clo
theorem Hold.cell {n i : Nat} {o : Ob} (h : Hold L μ) (e : L[n]? = some (oneA i o)) : μ[i]? = some o := h.at e
/-- a cell set -/
theorem Hold.set {n i : Nat} {o o' : Ob} (h : Hold L μ) (e : L[n]? = some (oneA i o)) (ho : obOk μ.length o' = true) : Hold (L.set n (oneA i o')) (μ.set i o') := by
  have hi : i < μ.length := (List.getElem?_eq_some_iff.mp (h.cell e)).1
  refine h.step e rfl (List.getElem?_set_self hi) (fun j hj _ => List.getElem?_set_ne (by rintro rfl; exact hj (by simp [oneA]))) (h.clo.set ho)
/-- a cell made -/
theorem Hold.push {o : Ob} (h : Hold L μ) (ho : obOk (μ.length + 1) o = true) : Hold (L ++ [oneA μ.length o]) (μ ++ [o]) :=
  h.new (fun j hj => by rw [List.getElem?_append_left hj]) (h.clo.app ho) (by show (μ ++ [o])[μ.length]? = some o; simp) (by simp [oneA]) (by simp [oneA])
end
/-! ### the pool is the second thing -/
section
variable {R : List Own} {b : Own} {μ0 μ μ' : Store} {p : Nat} {c c' : Int}
theorem Hold.pl (h : Hold (b :: poolA p c :: R) μ) : Pool p c μ := h.at (n := 1) rfl
theorem Hold.z (h : Hold (b :: poolA p c :: R) μ) : Wz μ p c μ := ⟨⟨h.pl, h.clo⟩, .refl _ _⟩
theorem Hold.drw (h : Hold (b :: poolA p c :: R) μ) (x : Wz μ p c' μ') : Hold (b :: poolA p c' :: R) μ' := h.draw (m := 1) rfl x
theorem Hold.up (h : Hold (b :: poolA p c :: R) μ) (l : c ≤ c') : Hold (b :: poolA p c' :: R) μ := h.drw (h.z.mono l)
/-- at the entry of a sealed def -/
theorem Hold.enter (h : Hold (b :: poolA p c :: R) μ) : Hold [baseA μ p, poolA p c] μ := by
  have hl := h.pl.lt
  refine ⟨?_, ?_, h.clo⟩
  · show ((List.range μ.length).filter (fun j => decide (j ≠ p)) ++ ([p] ++ [])).Nodup
    rw [List.append_nil, List.nodup_append]
    refine ⟨List.nodup_range.filter _, by simp, ?_⟩
    rintro a ha b hb rfl
    simp only [List.mem_filter, List.mem_range, decide_eq_true_eq, List.mem_singleton] at ha hb
    exact ha.2 hb
  · intro o ho
    simp only [List.mem_cons, List.not_mem_nil, or_false] at ho
    rcases ho with rfl | rfl
    · exact fun k _ _ => rfl
    · exact h.pl
/-- at its end -/
theorem Hold.leave (h : Hold (baseA μ0 p :: poolA p c :: R) μ) (hc : Clo μ0) (hp : p < μ0.length) : Wz μ0 p c (μ.take μ0.length) ∧ (μ.take μ0.length).all (obOk μ0.length) = true := by
  have hb : ∀ k, k < μ0.length → k ≠ p → μ[k]? = μ0[k]? := h.at (n := 0) rfl
  have hP : Pool p c μ := h.pl
  have hl : μ0.length ≤ μ.length := by
    by_cases hc : μ0.length ≤ 1
    · have := hP.lt
      omega
    · by_cases q : μ0.length - 1 = p
      · have := hP.lt
        omega
      · have e := hb (μ0.length - 1) (by omega) q
        rw [List.getElem?_eq_getElem (by omega : μ0.length - 1 < μ0.length)] at e
        have := (List.getElem?_eq_some_iff.mp e).1
        omega
  have f : Fr p μ0 (μ.take μ0.length) := by
    refine ⟨by rw [List.length_take]; omega, fun j hj => ?_⟩
    by_cases hk : j < μ0.length
    · rw [List.getElem?_take_of_lt hk]
      exact hb j hk hj
    · rw [List.getElem?_eq_none (by rw [List.length_take]; omega), List.getElem?_eq_none (by omega)]
  have hP' : Pool p c (μ.take μ0.length) := hP.of (by rw [List.getElem?_take_of_lt hp])
  have cl : Clo (μ.take μ0.length) := hc.fr f fun o ho => hP'.ob _ o ho
  refine ⟨⟨⟨hP', cl⟩, f⟩, ?_⟩
  have := cl.all
  rw [f.len] at this
  exact this
theorem Hold.old (h : Hold (baseA μ0 p :: R) μ) {k : Nat} (hk : k < μ0.length) (hp : k ≠ p) : μ[k]? = μ0[k]? := h.at (n := 0) rfl k hk hp
end
section
variable {F : FD} (hF : DrawP F) {R : List Own} {b : Own} {μ : Store} {p : Nat} {c : Int}
include hF
theorem DrawP.h {n : Int} (h : Hold (b :: poolA p c :: R) μ) (hc : c < 2 ^ 20) (h0 : 0 < n) (h1 : n < 2 ^ 200) : Ok (F [.ref p, .int n] μ) (fun d μ' => ∃ r, d = .int r ∧ 0 ≤ r ∧ r < n ∧ Hold (b :: poolA p (c + 1) :: R) μ') :=
  (hF.z h.z hc h0 h1).mono fun d μ' ⟨r, e, a, q, x⟩ => ⟨r, e, a, q, h.drw x⟩
theorem DrawP.hpick {xs : List D} (h : Hold (b :: poolA p c :: R) μ) (hc : c < 2 ^ 20) (h0 : 0 < xs.length) (h1 : xs.length < 2 ^ 30) : Ok (pickF F [.ref p, .lst xs] μ) (fun d μ' => d ∈ xs ∧ Hold (b :: poolA p (c + 1) :: R) μ') :=
  (hF.pick h.z hc h0 h1).mono fun d μ' ⟨e, x⟩ => ⟨e, h.drw x⟩
theorem DrawP.hpickT {xs : List D} (h : Hold (b :: poolA p c :: R) μ) (hc : c < 2 ^ 20) (h0 : 0 < xs.length) (h1 : xs.length < 2 ^ 30) : Ok (pickF F [.ref p, .tup xs] μ) (fun d μ' => d ∈ xs ∧ Hold (b :: poolA p (c + 1) :: R) μ') :=
  (hF.pickT h.z hc h0 h1).mono fun d μ' ⟨e, x⟩ => ⟨e, h.drw x⟩
theorem DrawP.hpickS {x : Str} (h : Hold (b :: poolA p c :: R) μ) (hc : c < 2 ^ 20) (h0 : 0 < x.length) (h1 : x.length < 1000) : Ok (pickF F [.ref p, .str x] μ) (fun d μ' => (∃ u ∈ x.cps.toList, d = .str ⟨#[u]⟩) ∧ Hold (b :: poolA p (c + 1) :: R) μ') :=
  (hF.pickS h.z hc h0 h1).mono fun d μ' ⟨e, x⟩ => ⟨e, h.drw x⟩
end
end DM

namespace DM
open PySem PySem.Spec L2
/-! ### [x for x in xs if ..] with draws in the test, in closed stores -/
theorem Wz.peel {p : Nat} {c : Int} {ν μ2 : Store} {o : Ob} (h : Clo ν) (hp : p < ν.length) (x : Wz (ν ++ [o]) p c μ2) : ∃ ν', μ2 = ν' ++ [o] ∧ Wz ν p c ν' := by
  have hl : μ2.length = ν.length + 1 := by rw [x.fr.len]; simp
  have hc : μ2[ν.length]? = some o := by
    rw [x.fr.eq ν.length (by omega)]
    simp
  have e := take_last hl hc
  have tl : (μ2.take ν.length).length = ν.length := by rw [List.length_take]; omega
  have ft : Fr p ν (μ2.take ν.length) := by
    refine ⟨tl, fun j hj => ?_⟩
    by_cases hjn : j < ν.length
    · rw [List.getElem?_take_of_lt hjn, x.fr.eq j hj, List.getElem?_append_left hjn]
    · rw [List.getElem?_eq_none (by omega), List.getElem?_eq_none (by omega)]
  have hP : Pool p c (μ2.take ν.length) := x.wd.pool.of (by rw [List.getElem?_take_of_lt hp])
  exact ⟨_, e, ⟨hP, h.fr ft fun o ho => hP.ob _ o ho⟩, ft⟩
theorem q_someC {I : CM IV} {T : CM Bool} {xs : List D} {p y : Nat} {c : Int} {ρ : Rho} {μ0 μ : Store} {Q : D → Store → Prop} (hx : Wz μ0 p c μ) (hl : xs.length ≤ 1000) (hp : noRefs 0 xs = true) (hy : y < ρ.length)
    (hI : Ok (I ρ μ) (fun q μ1 => q = (xs, anyG) ∧ μ1 = μ))
    (hT : ∀ (k : Nat) x (ν : Store), xs[k]? = some x → Clo ν → Pool p (c + Int.ofNat k) ν → Ok (T ((wipeR ρ [y]).set y (some x)) ν) (fun _ ν' => Wz ν p (c + Int.ofNat (k + 1)) ν'))
    (q : ∀ ys μ', ys.Sublist xs → Wz μ0 p (c + Int.ofNat xs.length) μ' → Q (.lst ys) μ') : Ok (eSeal (eLC I (fName y) T (eVar y) [y]) ρ μ) Q := by
  refine q_lcG (hI.mono ?_)
  rintro _ μ1 ⟨rfl, rfl⟩
  have hwl : (wipeR ρ [y]).length = ρ.length := by simp [wipeR]
  have hpl := hx.wd.pool.lt
  refine lc_ok (acc := []) (fun k acc μ' => ∃ ν : Store, μ' = ν ++ [.lst acc] ∧ Wz μ0 p (c + Int.ofNat k) ν ∧ ν.length = μ1.length ∧ acc.Sublist (xs.take k)) (fun _ _ _ _ => rfl) ?_ ?_ ⟨μ1, rfl, hx.mono (by simp), rfl, by simp⟩
  · rintro k d acc μ' ed ⟨ν, rfl, xν, lν, sub⟩
    have hk : k < xs.length := (List.getElem?_eq_some_iff.mp ed).1
    have hacc : noRefs 0 acc = true := noRefs_all.mpr fun z hz => noRefs_all.mp hp z (List.mem_of_mem_take (sub.subset hz))
    refine ⟨_, rfl, ?_⟩
    refine (hT k d (ν ++ [.lst acc]) ed (xν.wd.clo.app (o := .lst acc) (noRefs_mono hacc)) xν.wd.pool.app).mono ?_
    intro b μ2 x2
    obtain ⟨ν', rfl, x3⟩ := Wz.peel xν.wd.clo (by omega) x2
    have x' : Wz μ0 p (c + Int.ofNat (k + 1)) ν' := xν.from x3
    have l' : ν'.length = μ1.length := x3.fr.len.trans lν
    have htk : xs.take (k + 1) = xs.take k ++ [d] := by
      rw [List.take_add_one, ed]; rfl
    refine ⟨fun _ => ?_, fun _ => ⟨ν', rfl, x', l', by rw [htk]; exact sub.trans (List.sublist_append_left _ _)⟩⟩
    rw [q_var, List.getElem?_set_self (by rw [hwl]; exact hy), q_at]
    have lacc : acc.length ≤ k := by
      have := sub.length_le
      rw [List.length_take] at this
      omega
    refine ⟨by rw [← l']; simp, small1000 (by omega), ν', ?_, x', l', ?_⟩
    · rw [List.set_append_right _ _ (by omega), l']; simp
    · rw [htk]; exact sub.append (List.Sublist.refl _)
  · rintro acc μ' ⟨ν, rfl, xν, lν, sub⟩
    rw [List.take_length] at sub
    have hacc : noRefs 0 acc = true := noRefs_all.mpr fun z hz => noRefs_all.mp hp z (sub.subset hz)
    have tk : (ν ++ [Ob.lst acc]).take μ1.length = ν := by rw [← lν]; simp
    rw [tk]
    exact ⟨by rw [← lν]; exact xν.wd.clo.all, _, unref_cell (ds := acc) (by rw [← lν]; simp) (Nat.le_refl _) hacc, q acc ν sub xν⟩
end DM

namespace DM
open PySem PySem.Spec L2
open PyProof.Rows (envOfC)
/-! ### classmethods whose cls is called -/
def fnCP (n m : Nat) (S : SF) : FD := fun ds μ => if ds.length = m then resP (S (none :: startR (n - 1) ds) μ) else none
structure FnC (P : Program) (w : World) (K : PySem.W.Frag) (mg : Str → Option Value) (base : Heap) (k : Nat) (f : Addr) (fd : FuncData) (ps : List Str) (C : Str) (F : FD) : Prop where
  go : ∀ {A : Around} {outer : List Env} {s : Shared} {H : Hp} {args : Args} {us : List Value} {vs : List V} {ι : List Addr} {μ : Store} {ds : List D} {Q : VK} {E : XK},
    Room k A → A.guards = some [] → Env0 P w K mg base A outer s H → BindsTo s fd args (ps.zip us) → Vals (V.ref (He.ga K C) :: vs) us → vs.length + 1 = ps.length → WF K ι μ H → VRs K ι H vs ds → PostF K noXR ι H Q E (F ds μ) →
      codeAny (model P w) A (.call (.ref f) args) (CR (L2.CX P w) outer P w H s Q E) s
theorem SR.start1 {K : PySem.W.Frag} {ι : List Addr} {H : Hp} {N : List Str} {v : V} {vs : List V} {ds : List D} (hN : 1 ≤ N.length) (r : VRs K ι H vs ds) : SR K ι H (L2.start N (v :: vs)) (none :: startR (N.length - 1) ds) := by
  have e : L2.start N (v :: vs) = some v :: (vs.map some ++ List.replicate (N.length - 1 - vs.length) none) := by
    unfold L2.start
    rw [List.map_cons, List.cons_append, List.length_cons]
    have : N.length - (vs.length + 1) = N.length - 1 - vs.length := by omega
    rw [this]
  rw [e]
  refine ⟨by unfold startR; simp [r.length], fun i d h => ?_⟩
  cases i with
  | zero => simp at h
  | succ i =>
    rw [List.getElem?_cons_succ] at h ⊢
    unfold startR at h
    by_cases hi : i < ds.length
    · rw [List.getElem?_append_left (by simpa using hi), List.getElem?_map] at h
      obtain ⟨e, h1, h2⟩ := Option.map_eq_some_iff.mp h
      cases h2
      obtain ⟨v, q1, q2⟩ := r.get h1
      refine ⟨v, ?_, q2⟩
      rw [List.getElem?_append_left (by simpa [r.length] using hi), List.getElem?_map, q1]
      rfl
    · rw [List.getElem?_append_right (by simpa using hi), List.getElem?_replicate] at h
      split at h <;> cases h
section
variable {P : Program} {w : World} {K : PySem.W.Frag} {mg : Str → Option Value} {base : Heap}
theorem fnC_pure {x qual : Str} {pa : Arguments} {body : List Stmt} {sc : Scope} {dvs : List V} {kws : List (Str × V)} {f : Addr} {fd : FuncData} {N ps : List Str} {k m n : Nat} {C : Str} {S : SF} (Fd : FunD K x qual pa body sc dvs kws f fd) (Sc : FnScope N ps sc) (hm : ps.length = m + 1) (hn : N.length = n) (hn1 : 1 ≤ n)
    (hb : ∀ (cdv : Value) (A : Around) (outer : List Env) (s : Shared) (H : Hp) (E : XK), Room k (A.deeper (envOfC qual sc s.heap.objs.size f cdv)) → (A.deeper (envOfC qual sc s.heap.objs.size f cdv)).guards = some [] →
      PSs (cxOf (L2.CX P w) P w K mg base N qual sc f cdv A outer s H E).nox body (fun T σ H => σ[0]? = some (some (.ref (He.ga K C))) ∧ sD K noX S T σ H)) : FnC P w K mg base (k + 1) f fd ps C (fnCP n m S) := by
  obtain ⟨oc, od, dV, kV, doc, pm, an, cdv, ct, osl, rfl, lk, hcd, _, _⟩ := Fd.ex
  refine ⟨fun {A outer s H args us vs ι μ ds Q E} hr hG e0 bt rv hl wf vr post => ?_⟩
  have inK : K.In s.heap := e0.mod.kin.keeps (fun b o q => (e0.bs b o q).1)
  have noLim : s.heap.NoLimit := e0.mod.nolimit.keeps (fun b o q => (e0.bs b o q).1)
  have names : ∀ y ∈ ps.zip us, sc.names.lookup y.1 = some .local ∨ (sc.names.lookup y.1 = some .cell ∧ ((cellsFrom (s.heap.objs.size + 1) sc.names []).lookup y.1).isSome = true) := by
    rintro ⟨nm, v⟩ hy
    exact (Sc.par nm (List.of_mem_zip hy).1).imp id (fun q => ⟨q, PySem.W.cellsFrom_some _ _ _ (.inl q)⟩)
  refine codeAny_call_function hr.depth (inK _ _ lk) rfl Sc.co Sc.gen rfl (PySem.W.codeRec_of inK hcd) (bt _ _ _ _ (wpAny_newFunctionEnv_cells Sc.kind names (fun env he s1 ic => ?_)))
  subst he
  have J : Inv (cxOf (L2.CX P w) P w K mg base N qual sc f cdv A outer s H E) [] (start N (V.ref (He.ga K C) :: vs)) H s1 := inv_start Sc hr.hd e0 (by rw [List.length_cons]; exact hl) rv ic
  have hds : ds.length = m := by have := vr.length; omega
  have st : sD K noX S { nx := fun _ H' => Q .non H', rt := Q } (start N (V.ref (He.ga K C) :: vs)) H := by
    refine ⟨none :: startR (n - 1) ds, ι, μ, by rw [← hn]; exact SR.start1 (by omega) vr, wf, ?_⟩
    unfold fnCP at post
    rw [if_pos hds] at post
    generalize S (none :: startR (n - 1) ds) μ = r at post ⊢
    match r, post with
    | some (.nx _, _), q => exact fun _ ι' H' l w _ => q ι' H' .non l w .non
    | some (.rt d, _), q => exact q
  have hs0 : (start N (V.ref (He.ga K C) :: vs))[0]? = some (some (.ref (He.ga K C))) := by unfold L2.start; rfl
  refine ⟨noLim.keeps ic.toInCall.keep, codeAny_func (wpAny_mono ((PSs.nox (hb cdv A outer s H E (hr.deeper _) hG)).run [] s1 _ H _ J ⟨hs0, st⟩) (fun fl s' q => ?_) (fun _ _ q => q))⟩
  cases fl with
  | next =>
    obtain ⟨σ', H', J', z⟩ := q
    exact ⟨.non, H', J'.os, J'.bare, J'.base, J'.hok, rfl, z⟩
  | ret u =>
    obtain ⟨v, σ', H', J', rv', z⟩ := q
    exact ⟨v, H', J'.os, J'.bare, J'.base, J'.hok, rv', z⟩
  | brk =>
    obtain ⟨_, _, _, z⟩ := q
    exact z.elim
  | cont =>
    obtain ⟨_, _, _, z⟩ := q
    exact z.elim
end
section
variable {X : Cx} {W : DW} {k j i : Nat} {x C : Str} {p pos : Pos} {e : Expr} {es : List Expr} {kws : List Keyword} {ks : List Str} {As Bs : CM (List D)} {E : CM D}
/-- cls(..), cls in the i-th slot -/
theorem d_mkL {F : FD} (M : MkK X.prog X.w X.K X.mg X.base j C F) (hr : Room k X.A) (hjk : j + 1 ≤ k) (hG : X.A.guards = some []) (hN : X.N[i]? = some x) (hv : Vis X.env.scope x) (ha : PA X (e :: es) (tA X.K W As)) (hW : ∀ x ι σ H, W x ι σ H → False)
    (hdb : (x == ("__debug__" : Str)) = false := by decide) (hcd : (x == ("__classdict__" : Str)) = false := by decide) (hst : starEach (e :: es) X.env = (false, eval e X.env) :: starEach es X.env := by rfl) (hpl : (backTo pos (starEach es X.env)).any (·.1) = false := by rfl) :
    PE X (.Call (.Name x p) (e :: es) [] pos) (fun σ H Q => σ[i]? = some (some (.ref (He.ga X.K C))) ∧ tE X.K W (eMk C F As) σ H Q) := by
  refine ⟨fun pins s σ H Q I ⟨hs, ρ, ι, μ, sr, wf, h⟩ => ?_⟩
  obtain ⟨f, fd, ps, G, mk, hmg, _⟩ := M.ex
  refine wpAny_Call_Name_kw (thn ((pe_var (pos := p) hN hv hdb hcd).run pins s σ H (fun v H1 => v = .ref (He.ga X.K C) ∧ H1 = H) I ⟨.ref (He.ga X.K C), hs, rfl, rfl⟩) fun u s1 ⟨v, H1, I1, r1, q1⟩ => ?_)
  obtain ⟨rfl, rfl⟩ := q1
  cases r1
  refine PySem.W.callWith_K (h₀ := X.base) I1.ok.mod.kin mk.kp (thn (ha.run pos pins s1 σ H1 _ I1 (PostG.bind sr wf h)) ?_) hst hpl
  rintro us s2 ⟨vs, H2, I2, r, ι1, μ1, ds, l1, w1, v1, h1⟩
  exact ⟨I2.kIn, runMk M hr hjk hG hW I2 r w1 v1 h1⟩
theorem d_mkKL {F : FV} (M : MkV X.prog X.w X.K X.mg X.base j C ks F) (hr : Room k X.A) (hjk : j + 1 ≤ k) (hG : X.A.guards = some []) (hN : X.N[i]? = some x) (hv : Vis X.env.scope x) (ha : PA X (e :: es) (tA X.K W As)) (hkw : PK X kws (tA X.K W Bs)) (hW : ∀ x ι σ H, W x ι σ H → False)
    (hdb : (x == ("__debug__" : Str)) = false := by decide) (hcd : (x == ("__classdict__" : Str)) = false := by decide)
    (hall : (backToKw pos (keywordEach kws X.env)).all (·.1.isSome) = true := by rfl) (hks : (backToKw pos (keywordEach kws X.env)).filterMap (·.1) = ks := by rfl)
    (hst : starEach (e :: es) X.env = (false, eval e X.env) :: starEach es X.env := by rfl) (hpl : ((backTo pos (starEach (e :: es) X.env)).any (·.1) || (backToKw pos (keywordEach kws X.env)).any (·.1.isNone)) = false := by rfl) :
    PE X (.Call (.Name x p) (e :: es) kws pos) (fun σ H Q => σ[i]? = some (some (.ref (He.ga X.K C))) ∧ tE X.K W (eMkV C F As Bs) σ H Q) := by
  refine ⟨fun pins s σ H Q I ⟨hs, ρ, ι, μ, sr, wf, h⟩ => ?_⟩
  obtain ⟨f, G, mk, hmg, _⟩ := M.ex
  refine wpAny_Call_Name_kw (thn ((pe_var (pos := p) hN hv hdb hcd).run pins s σ H (fun v H1 => v = .ref (He.ga X.K C) ∧ H1 = H) I ⟨.ref (He.ga X.K C), hs, rfl, rfl⟩) fun u s0 ⟨v, H0, I0, r1, q1⟩ => ?_)
  obtain ⟨rfl, rfl⟩ := q1
  cases r1
  refine PySem.W.callWith_KW (h₀ := X.base) I0.ok.mod.kin mk.kp hall (thn (ha.run pos pins s0 σ H0 _ I0 (PostG.bind sr wf h)) ?_) hpl hst
  rintro us s1 ⟨vs, H1, I1, r, ι1, μ1, ds, l1, w1, v1, h1⟩
  refine thn (hkw.run pos pins s1 σ H1 _ I1 (PostG.bind (sr.mono l1) w1 h1)) ?_
  rintro ws s2 ⟨zs, H2, I2, rz, ι2, μ2, es', l2, w2, v2, h2⟩
  rw [hks]
  exact ⟨I2.kIn, runMkV M hr hjk hG hW I2 r rz w2 (v1.mono l2) v2 h2⟩
theorem ds_retL {A : L2.St → Prop} (he : PE X e (fun σ H Q => A σ ∧ tE X.K W E σ H Q)) : PSs X [.Return (some e) pos] (fun T σ H => A σ ∧ sD X.K W (sRet E) T σ H) :=
  PSs.imp (pss_one (ps_ret he)) fun T σ H ⟨a, ρ, ι, μ, sr, wf, h⟩ => by
    refine ⟨a, tG.mono (PostS.bind sr wf h) ?_⟩
    rintro x H1 ⟨ι1, μ1, d, l1, w1, vx, h1⟩
    exact h1 ι1 H1 x (Le.refl _ _) w1 vx
end
/-! ### their calls -/
structure ClK (P : Program) (w : World) (K : PySem.W.Frag) (mg : Str → Option Value) (base : Heap) (k : Nat) (C m : Str) (F : FD) : Prop where
  ex : ∃ p f fd ps, FnC P w K mg base k f fd ps C F ∧ ClX.CRead K (He.ga K C) (.type "type") ∧ ClX.CMet K (He.ga K C) (.type "type") m p f ∧ mg C = some (.ref (He.ga K C)) ∧ Binds K fd ps [] ∧ ∀ ds μ, F ds μ ≠ none → ds.length + 1 = ps.length
section
variable {X : Cx} {W : DW} {k j : Nat} {C m : Str} {p pos apos : Pos} {e : Expr} {es : List Expr} {As : CM (List D)} {F : FD} {pl : Sem Bool}
theorem d_cm (M : ClK X.prog X.w X.K X.mg X.base j C m F) (hr : Room k X.A) (hjk : j ≤ k) (hG : X.A.guards = some []) (hg : Gl X C) (ha : PA X (e :: es) (tA X.K W As)) (hW : ∀ x ι σ H, W x ι σ H → False)
    (hdb : (C == ("__debug__" : Str)) = false := by decide) (hst : starEach (e :: es) X.env = (false, eval e X.env) :: starEach es X.env := by rfl) (hpl : (backTo pos (starEach es X.env)).any (·.1) = false := by rfl)
    (ht : eval (.Call (.Attribute (.Name C p) m apos) (e :: es) [] pos) X.env = (do
      let ov ← eval (.Name C p) X.env
      standAt apos.atName
      let (f, first) ← holding [ov] (getMethod ov m pl)
      callWith pos f first (backTo pos (starEach (e :: es) X.env)) (backToKw pos (keywordEach [] X.env))) := by rfl) :
    PE X (.Call (.Attribute (.Name C p) m apos) (e :: es) [] pos) (tE X.K W (eCall F As [])) := by
  refine ⟨fun pins s σ H Q I ⟨ρ, ι, μ, sr, wf, h⟩ => ?_⟩
  obtain ⟨pp, f, fd, ps, G, rd, cm, hmg, hb, hlen⟩ := M.ex
  refine PySem.W.methodCall_KW (pl := pl) (ld_glob I hg hmg ?_ hdb) ht
  refine ClX.getmethcm_ok I rd cm fun s2 I2 => ?_
  refine ClX.callwith_cm I2 (ClX.base_none I (Nat.le_refl _)) cm.fi (thn (ha.run pos _ s2 σ H _ I2 (PostG.bind sr wf h)) ?_) hst hpl
  rintro us s3 ⟨vs, H2, I3, rv, ι1, μ1, ds, l1, w1, v1, h1⟩
  refine ⟨⟨ClX.pin_at I3, I3.kIn⟩, ?_⟩
  have h1 : PostG (VR X.K) X.K W σ ι1 H2 Q (F (ds ++ []) μ1) := h1
  rw [List.append_nil] at h1
  have nn : F ds μ1 ≠ none := fun z => by rw [z] at h1; exact h1
  have hl : vs.length + 1 = ps.length := by rw [v1.length]; exact hlen _ _ nn
  have post : PostF X.K noXR ι1 H2 Q E0 (F ds μ1) := by
    match F ds μ1, h1 with
    | some (.ok _, _), h => exact h
    | some (.error x, _), h => exact fun ι' H' c dd l w _ => hW _ _ _ _ (h ι' H' l w)
  have rr : Vals (V.ref (He.ga X.K C) :: vs) (Value.ref (He.ga X.K C) :: us) := .cons rfl rv
  have z : wpAny (model X.prog X.w) X.A (call (.ref s.heap.objs.size) us) (EP X ((s.heap.objs.size, PySem.W.methodObj (.ref f) (.ref (He.ga X.K C))) :: pins) σ Q) X.xe s3 := by
    refine wpAny_call (PySem.W.method_call (ClX.pin_at I3) ?_)
    refine codeAny_mono (G.go (hr.mono hjk) hG I3.env0 (hb s3 (Value.ref (He.ga X.K C) :: us) I3.kIn (by rw [List.append_nil, ← rr.length, List.length_cons]; exact hl)) (by rw [List.append_nil]; exact rr) hl w1 v1 post) (fun r s' q => ?_)
    cases r with
    | error z => exact passL _ σ H2 s3 z s' I3 q
    | ok fl =>
      cases fl with
      | ret u => exact I3.after q
      | next => exact q.elim
      | brk => exact q.elim
      | cont => exact q.elim
  exact thn z fun _ _ y => ClX.unpinE y
end
/-! ### the facts -/
def cgA (C m : Str) (K : PySem.W.Frag) : Addr := match PySem.W.recIn K (He.ma K (He.ga K C) m) "classmethod" with
  | some (.ref g :: _) => g
  | _ => 0
def cmB (C m : Str) (K : PySem.W.Frag) : Bool := PySem.W.readsIn K (He.ga K C) (.type "type") && (He.eqO (PySem.W.specialIn K (.ref (He.ga K C)) "__getattribute__") (some (some (.builtin "type.__getattribute__"))) && ((match PySem.W.findCls K (.ref (He.ga K C)) (.type "type") m with
  | some (.get g p .none D) => decide (g = .builtin "classmethod.__get__") && (decide (p = .ref (He.ma K (He.ga K C) m)) && decide (D = .ref (He.ga K C)))
  | _ => false) && (match PySem.W.recIn K (He.ma K (He.ga K C) m) "classmethod" with
  | some (.ref g :: _) => PySem.W.fnIn K g
  | _ => false)))
theorem cmB_ok {C m : Str} {K : PySem.W.Frag} (h : cmB C m K = true) : ClX.CRead K (He.ga K C) (.type "type") ∧ ClX.CMet K (He.ga K C) (.type "type") m (He.ma K (He.ga K C) m) (cgA C m K) := by
  obtain ⟨h1, h2⟩ := andT h
  obtain ⟨h3, h4⟩ := andT h2
  obtain ⟨h5, h6⟩ := andT h4
  refine ⟨⟨h1, He.eqO_ok h3⟩, ?_⟩
  have a : PySem.W.findCls K (.ref (He.ga K C)) (.type "type") m = some (.get (.builtin "classmethod.__get__") (.ref (He.ma K (He.ga K C) m)) .none (.ref (He.ga K C))) := by
    clear h6
    split at h5
    · rename_i g p D e
      obtain ⟨k1, k⟩ := andT h5
      obtain ⟨k2, k3⟩ := andT k
      rw [e, of_decide_eq_true k1, of_decide_eq_true k2, of_decide_eq_true k3]
    · cases h5
  clear h5
  unfold cgA
  split at h6
  · rename_i g r e
    exact ⟨a, ⟨r, e⟩, h6⟩
  · cases h6
theorem fnCP_len {n m : Nat} {S : SF} {ds : List D} {μ : Store} (h : fnCP n m S ds μ ≠ none) : ds.length = m := by
  unfold fnCP at h
  by_cases z : ds.length = m
  · exact z
  · rw [if_neg z] at h
    exact absurd rfl h
end DM

namespace DM
open PySem PySem.Spec L2
/-! ### d.get(k, x) -/
def FdGet2 (o i z : D) (μ : Store) : Res D := match dctAt μ o, keyD i with
  | some (_, kvs), some k => okR ((valD kvs k).getD z) μ
  | _, _ => none
/-- the dict is looked at ahead of the key -/
def eGet2 (O I Z : CM D) : CM D := O.bind fun o ρ μ => match dctAt μ o with
  | some _ => I.bind (fun i => Z.bind (fun z _ μ1 => FdGet2 o i z μ1)) ρ μ
  | none => none
theorem d_get2 {X : Cx} {W : DW} {o e f : Expr} {O I Z : CM D} {apos cpos : Pos} {k : Nat} (hr : Room k X.A) (ho : PE X o (tE X.K W O)) (he : PE X e (tE X.K W I)) (hf : PE X f (tE X.K W Z)) (m : M2 X o "get" apos e f cpos) : PE X (.Call (.Attribute o "get" apos) [e, f] [] cpos) (tE X.K W (eGet2 O I Z)) :=
  (pe_dget2 (by have := hr.units; omega) ho he hf m).imp fun σ H Q ⟨ρ, ι, μ, sr, wf, h⟩ => by
    refine tG.mono (PostG.bind sr wf h) ?_
    rintro x H1 ⟨ι1, μ1, d, l1, w1, vx, h1⟩
    match hd : dctAt μ1 d, h1 with
    | some (c, kvs), h1 =>
      obtain ⟨a, qs, rfl, hc, ea, q, r⟩ := dctAt_vr w1 vx hd
      refine ⟨a, rfl, .inl ⟨qs, ea⟩, ?_⟩
      refine tG.mono (PostG.bind (sr.mono l1) w1 h1) ?_
      rintro y H2 ⟨ι2, μ2, di, l2, w2, vy, h2⟩
      refine tG.mono (PostG.bind ((sr.mono l1).mono l2) w2 h2) ?_
      rintro z H3 ⟨ι3, μ3, dz, l3, w3, vz, h3⟩
      unfold FdGet2 at h3
      match hd2 : dctAt μ3 d, hk : keyD di, h3 with
      | some (c', kvs'), some kk, h3 =>
        obtain ⟨a', ov, e', g, _, hs, hn, _⟩ := dget_of w3 ((vx.mono l2).mono l3) (vy.mono l3) hd2 hk
        cases e'
        refine ⟨ov, g, ?_⟩
        simp only [] at h3
        cases ez : valD kvs' kk with
        | none => rw [hn ez]; rw [ez] at h3; exact h3.ok0 w3 vz
        | some z =>
          obtain ⟨v, ev, rv⟩ := hs z ez
          rw [ev]; rw [ez] at h3
          exact h3.ok0 w3 rv
section
variable {ρ : Rho} {μ : Store} {Q : D → Store → Prop} {O I Z : CM D}
theorem q_get2 : Ok (eGet2 O I Z ρ μ) Q = Ok (O ρ μ) (fun o μ1 => match dctAt μ1 o with
  | some _ => Ok (I ρ μ1) fun i μ2 => Ok (Z ρ μ2) fun z μ3 => Ok (FdGet2 o i z μ3) Q
  | none => False) := by
  unfold eGet2
  rw [Ok_bind]
  congr
  funext o μ1
  cases dctAt μ1 o with
  | none => rfl
  | some _ => simp only [Ok_bind]
end
end DM

namespace DM
open PySem PySem.Spec L2
/-! ### two things as one; things in another order -/
def Own.and (a b : Own) : Own := ⟨a.ix ++ b.ix, fun μ => a.P μ ∧ b.P μ, fun μ μ' e h => ⟨a.fr μ μ' (fun j hj => e j (List.mem_append_left _ hj)) h.1, b.fr μ μ' (fun j hj => e j (List.mem_append_right _ hj)) h.2⟩, fun μ h j hj => by
  rcases List.mem_append.mp hj with hj | hj
  · exact a.lt μ h.1 j hj
  · exact b.lt μ h.2 j hj⟩
section
variable {L M : List Own} {μ μ' : Store} {a b : Own}
theorem Hold.perm (h : Hold L μ) (p : L.Perm M) : Hold M μ := ⟨(p.flatMap_right _).nodup_iff.mp h.nd, fun o ho => h.all o (p.mem_iff.mpr ho), h.clo⟩
theorem Hold.join (h : Hold (a :: b :: L) μ) : Hold (a.and b :: L) μ := by
  refine ⟨?_, ?_, h.clo⟩
  · have := h.nd
    simp only [List.flatMap_cons] at this ⊢
    show ((a.ix ++ b.ix) ++ _).Nodup
    rw [List.append_assoc]
    exact this
  · intro o ho
    rcases List.mem_cons.mp ho with rfl | ho
    · exact ⟨h.all a (by simp), h.all b (by simp)⟩
    · exact h.all o (by simp [ho])
theorem Hold.split (h : Hold (a.and b :: L) μ) : Hold (a :: b :: L) μ := by
  refine ⟨?_, ?_, h.clo⟩
  · have := h.nd
    simp only [List.flatMap_cons] at this ⊢
    have e : (a.and b).ix = a.ix ++ b.ix := rfl
    rw [e, List.append_assoc] at this
    exact this
  · intro o ho
    have hab : a.P μ ∧ b.P μ := h.all (a.and b) (by simp)
    rcases List.mem_cons.mp ho with rfl | ho
    · exact hab.1
    rcases List.mem_cons.mp ho with rfl | ho
    · exact hab.2
    · exact h.all o (by simp [ho])
/-- the cells above n are let go -/
theorem Hold.cut {n : Nat} (h : Hold L μ) (hl : ∀ o ∈ L, ∀ j ∈ o.ix, j < n) (hc : Clo (μ.take n)) : Hold L (μ.take n) :=
  ⟨h.nd, fun o ho => o.fr μ _ (fun j hj => by rw [List.getElem?_take_of_lt (hl o ho j hj)]) (h.all o ho), hc⟩
theorem Hold.lts (h : Hold L μ) : ∀ o ∈ L, ∀ j ∈ o.ix, j < μ.length := fun o ho j hj => o.lt μ (h.all o ho) j hj
end
/-- what a call leaves of a store with one cell more -/
theorem clo_peel {ν μ2 : Store} {o : Ob} {A : List Nat} (h : Clo ν) (hl : μ2.length = ν.length + 1) (hA : ∀ j ∈ A, j < ν.length) (fr : ∀ j, j ∉ A → μ2[j]? = (ν ++ [o])[j]?) (hn : ∀ j ∈ A, ∃ u, μ2[j]? = some u ∧ obOk ν.length u = true) :
    μ2 = μ2.take ν.length ++ [o] ∧ Clo (μ2.take ν.length) ∧ (μ2.take ν.length).length = ν.length ∧ ∀ j, j ∉ A → j < ν.length → (μ2.take ν.length)[j]? = ν[j]? := by
  have hc : μ2[ν.length]? = some o := by
    rw [fr ν.length (fun z => absurd (hA _ z) (by omega))]
    simp
  have e := take_last hl hc
  have tl : (μ2.take ν.length).length = ν.length := by rw [List.length_take]; omega
  refine ⟨e, ?_, tl, fun j hj hlt => by rw [List.getElem?_take_of_lt hlt, fr j hj, List.getElem?_append_left hlt]⟩
  intro u hu
  rw [tl]
  obtain ⟨j, ej⟩ := List.getElem?_of_mem hu
  have hlt : j < ν.length := by
    have := (List.getElem?_eq_some_iff.mp ej).1
    omega
  rw [List.getElem?_take_of_lt hlt] at ej
  by_cases hj : j ∈ A
  · obtain ⟨u', e1, e2⟩ := hn j hj
    rw [e1] at ej
    cases ej
    exact e2
  · rw [fr j hj, List.getElem?_append_left hlt] at ej
    exact h u (List.mem_of_getElem? ej)
section
variable {ρ : Rho} {μ : Store} {Q : D → Store → Prop}
/-- a comprehension without a test; J : what stands behind i turns, the list apart -/
theorem q_lcJ {I : CM IV} {g : D → Rho → Option Rho} {E : CM D} {own : List Nat} {items : List D} {gd : Store → Bool} (J : Nat → Store → Prop) (R : Nat → D → Prop) (hlen : items.length ≤ 1000) (h0 : J 0 μ)
    (hJ : ∀ i ν, J i ν → ν.length = μ.length ∧ Clo ν) (hgd : ∀ i ν acc, J i ν → gd (ν ++ [.lst acc]) = true)
    (hI : Ok (I ρ μ) (fun q μ1 => μ1 = μ ∧ q = (items, gd)))
    (hs : ∀ (i : Nat) d (ν : Store) (acc : List D), items[i]? = some d → J i ν → Clo (ν ++ [.lst acc]) → ∃ ρ1, g d (wipeR ρ own) = some ρ1 ∧ Ok (E ρ1 (ν ++ [.lst acc])) (fun y μ2 => R i y ∧ noRef 0 y = true ∧ ∃ ν2, μ2 = ν2 ++ [.lst acc] ∧ J (i + 1) ν2))
    (hQ : ∀ ys μ', ys.length = items.length → (∀ (i : Nat) y, ys[i]? = some y → R i y) → J items.length μ' → Q (.lst ys) μ') : Ok (eSeal (eLC I g bYes E own) ρ μ) Q := by
  refine q_lcG (hI.mono ?_)
  rintro q μ1 ⟨rfl, rfl⟩
  refine lc_ok (acc := []) (fun i acc μ' => ∃ ν : Store, μ' = ν ++ [.lst acc] ∧ J i ν ∧ acc.length = i ∧ ∀ (k : Nat) y, acc[k]? = some y → R k y ∧ noRef 0 y = true) ?_ ?_ ?_ ⟨μ1, rfl, h0, rfl, fun k y e => by simp at e⟩
  · rintro i acc μ' ⟨ν, rfl, hJν, _⟩
    exact hgd i ν acc hJν
  · rintro i d acc μ' ed ⟨ν, rfl, hJν, ha, hR⟩
    have hpa : noRefs 0 acc = true := noRefs_all.mpr fun y hy => by
      obtain ⟨k, hk⟩ := List.getElem?_of_mem hy
      exact (hR k y hk).2
    obtain ⟨hl, hcl⟩ := hJ i ν hJν
    obtain ⟨ρ1, eg, h1⟩ := hs i d ν acc ed hJν (hcl.app (o := Ob.lst acc) (noRefs_mono hpa))
    refine ⟨ρ1, eg, ?_⟩
    show (true = true → _) ∧ _
    refine ⟨fun _ => h1.mono fun y μ2 ⟨hy, hyp, ν2, e2, hJ2⟩ => ?_, fun z => by cases z⟩
    subst e2
    have hl2 := (hJ _ _ hJ2).1
    have hil : i < items.length := (List.getElem?_eq_some_iff.mp ed).1
    refine ⟨by rw [← hl2]; simp, by rw [ha]; exact small1000 (by omega), ν2, ?_, hJ2, by simp [ha], fun k z ez => ?_⟩
    · rw [List.set_append_right _ _ (by omega), hl2]
      simp
    · by_cases hk : k < acc.length
      · rw [List.getElem?_append_left hk] at ez
        exact hR k z ez
      · have hk2 : k = acc.length := by
          have := (List.getElem?_eq_some_iff.mp ez).1
          simp at this; omega
        subst hk2
        simp at ez
        subst ez
        rw [ha]
        exact ⟨hy, hyp⟩
  · rintro acc μ' ⟨ν, rfl, hJν, ha, hR⟩
    obtain ⟨hl, hcl⟩ := hJ _ ν hJν
    have hpa : noRefs 0 acc = true := noRefs_all.mpr fun y hy => by
      obtain ⟨k, hk⟩ := List.getElem?_of_mem hy
      exact (hR k y hk).2
    have tk : (ν ++ [Ob.lst acc]).take μ1.length = ν := by rw [← hl]; simp
    rw [tk]
    refine ⟨by rw [← hl]; exact hcl.all, _, unref_cell (ds := acc) (by rw [← hl]; simp) (Nat.le_refl _) hpa, hQ acc ν ha (fun i y e => (hR i y e).1) hJν⟩
end
end DM

namespace DM
open PySem PySem.Spec L2
/-! ### an expression that runs while a dict is locked (a comprehension over it) -/
def unlkE (c : Nat) : Res D → Res D
  | some (.ok d, μ) => match μ[c]? with
    | some (.dcl kvs) => some (.ok d, μ.set c (.dct kvs))
    | _ => none
  | _ => none
def eLK (E C : CM D) : CM D := fun ρ μ => match E ρ μ with
  | some (.ok (.ref c), _) => match μ[c]? with
    | some (.dct kvs) => unlkE c (C ρ (μ.set c (.dcl kvs)))
    | _ => none
  | _ => none
theorem d_lockE {X : Cx} {W : DW} {e : Expr} {E C : CM D} (h : PE X e (tE X.K noX C)) : PE X e (tE X.K W (eLK E C)) :=
  (pe_lock h).imp fun σ H Q ⟨ρ, ι, μ, sr, wf, h⟩ => by
    unfold eLK at h
    match hE : E ρ μ, h with
    | some (.ok (.ref c), μ0), h =>
      simp only [] at h
      match hm : μ[c]?, h with
      | some (.dct kvs), h =>
        simp only [] at h
        obtain ⟨a, ha, qs, eH, ek, er⟩ := wf.at hm
        have hin : a ∈ ι := List.mem_of_getElem? ha
        refine ⟨a, .dK qs, eH, trivial, fun od => ⟨ρ, ι, μ.set c (.dcl kvs), sr.updC hin, wf.lock ha hm eH, ?_⟩⟩
        generalize C ρ (μ.set c (.dcl kvs)) = r at h ⊢
        match r, h with
        | some (.ok d, μ'), h =>
          unfold unlkE at h
          simp only [] at h
          match hm' : μ'[c]?, h with
          | some (.dcl kvs'), h =>
            intro ι' H' v l w s
            have e1 : H' a = some (.frz od (.dK qs)) := l.frz _ _ _ upd_same
            have ha' := l.pre _ _ ha
            exact ⟨e1, h ι' _ v (l.unlock ha eH) (w.unlock ha' hm' e1) (s.updC (List.mem_of_getElem? ha'))⟩
        | some (.error x, μ'), h => exact h.elim
section
variable {ρ : Rho} {μ : Store} {Q : D → Store → Prop} {C : CM D}
theorem q_lockE {x c : Nat} {kvs : List (Key × D)} (hx : ρ[x]? = some (some (.ref c))) (hc : μ[c]? = some (.dct kvs)) (h : Ok (C ρ (μ.set c (.dcl kvs))) (fun d μ' => d = d ∧ ∃ kvs', μ'[c]? = some (.dcl kvs') ∧ Q d (μ'.set c (.dct kvs')))) : Ok (eLK (eVar x) C ρ μ) Q := by
  unfold eLK eVar
  rw [hx]
  simp only [hc]
  obtain ⟨d, μ', e, _, kvs', e2, q⟩ := h.get
  rw [e]
  unfold unlkE
  simp only [e2]
  exact q
theorem q_keysLE {x c : Nat} {kvs : List (Key × D)} {Q : IV → Store → Prop} (hx : ρ[x]? = some (some (.ref c))) (hc : μ[c]? = some (.dcl kvs)) (q : Q (kvs.map (fun kv => keyOf kv.1), anyG) μ) : Ok (iKeysL (eVar x) ρ μ) Q := by
  unfold iKeysL
  rw [Ok_bind, q_var, hx, q_at]
  simp only [hc]
  exact q
theorem keys_kvS {l : List (Str × D)} : ((kvS l).map fun kv => keyOf kv.1) = l.map fun q => D.str q.1 := by
  unfold kvS
  rw [List.map_map]
  rfl
end
end DM

namespace DM
open PySem PySem.Spec L2
/-! ### len of a dict -/
def FlenD (ds : List D) (μ : Store) : Res D := match ds with
  | [.ref c] => match μ[c]? with
    | some (.dct kvs) => okR (.int kvs.length) μ
    | _ => none
  | _ => none
theorem lift_lenD {K : PySem.W.Frag} : LiftA K (fun xs H Q => ∃ a kvs, xs = [V.ref a] ∧ H a = some (.dK kvs) ∧ Q (.int kvs.length) H) FlenD := by
  intro W σ ι μ H xs ds Q w v h
  unfold FlenD at h
  match ds, v, h with
  | [.ref c], v, h =>
    obtain ⟨x, rfl, vd⟩ := v.one
    simp only [] at h
    match hm : μ[c]?, h with
    | some (.dct kvs), h =>
      cases vd with
      | @ref a c hc =>
        obtain ⟨o, ho, ro⟩ := w.has hc
        rw [hm] at ho
        cases ho
        obtain ⟨qs, e1, k, r⟩ := ro
        refine ⟨a, qs, rfl, e1, ?_⟩
        have hlen : qs.length = kvs.length := by have := congrArg List.length k; simpa using this
        rw [hlen]
        exact h.ok0 w (.int _)
theorem f_lenD {μ : Store} {c : Nat} {kvs : List (Key × D)} (h : μ[c]? = some (.dct kvs)) : FlenD [.ref c] μ = okR (.int kvs.length) μ := by
  simp only [FlenD, h]
end DM

namespace DM
open PySem PySem.Spec L2
/-! ### name = [comprehension], the list a cell of the store (its elements may be cells too) -/
theorem ds_setLcC {X : Cx} {W : DW} {i : Nat} {y : Str} {py : Pos} {elt tg iter : Expr} {ifs : List Expr} {scope : Scope} {own : List (Str × Nat)} {pos spos : Pos} {I : CM IV} {g : TG} {f : D → Rho → Option Rho} {T : CM Bool} {E : CM D} (hc : X.calm = true) (hN : X.N.Nodup) (hy : X.N[i]? = some y) (hyl : X.env.scope.names.lookup y = some .local)
    (hsw : swapsWith (.ListComp elt [⟨tg, iter, ifs, 0⟩] scope pos) (some (.Name y py)) spos.line X.env = pure true) (hi : PI X tg iter (tI X.K W I)) (ok : BlkOk X.N X.env.scope scope own)
    (hg : ∀ (s : Shared) (H : Hp) (C : Addr) (cl : List (Str × Addr)) (fp : List Addr), PG (X.blk s H scope (compEnvC scope cl C X.env) fp) tg g) (htg : TgOk X.K g f (own.map (·.2)))
    (ht : ∀ (s : Shared) (H : Hp) (C : Addr) (cl : List (Str × Addr)) (fp : List Addr), PTs (X.blk s H scope (compEnvC scope cl C X.env) fp) ifs (tT X.K noX T))
    (he : ∀ (s : Shared) (H : Hp) (C : Addr) (cl : List (Str × Addr)) (fp : List Addr), PE (X.blk s H scope (compEnvC scope cl C X.env) fp) elt (tE X.K noX E)) (hs : ∀ x, foldedSetIterable iter X.env x = pure x := by intro _; rfl) :
    PS X (.Assign [.Name y py] (.ListComp elt [⟨tg, iter, ifs, 0⟩] scope pos) spos) (sD X.K W (sAsg i (eLC I f T E (own.map (·.2))))) := (ps_setLc hc hN hy hyl hsw hi ok hg ht he hs).imp fun T σ H h => lcAux htg σ H _ (ds_asgAux σ H h)
section
variable {ρ : Rho} {μ : Store} {Q : D → Store → Prop}
/-- a comprehension without a test whose list stays a cell; J : what stands behind i turns; c : where the list is -/
theorem q_lcN {I : CM IV} {g : D → Rho → Option Rho} {E : CM D} {own : List Nat} {items : List D} {gd : Store → Bool} (J : Nat → List D → Store → Prop) (hlen : items.length ≤ 1000) (h0 : J 0 [] (μ ++ [.lst []]))
    (hgd : ∀ i acc ν, J i acc ν → gd ν = true) (hc : ∀ i acc ν, J i acc ν → ν[μ.length]? = some (.lst acc) ∧ acc.length = i)
    (hI : Ok (I ρ μ) (fun q μ1 => μ1 = μ ∧ q = (items, gd)))
    (hs : ∀ (i : Nat) d (ν : Store) (acc : List D), items[i]? = some d → J i acc ν → ∃ ρ1, g d (wipeR ρ own) = some ρ1 ∧ Ok (E ρ1 ν) (fun y μ2 => μ2[μ.length]? = some (.lst acc) ∧ J (i + 1) (acc ++ [y]) (μ2.set μ.length (.lst (acc ++ [y])))))
    (hQ : ∀ acc μ', J items.length acc μ' → Q (.ref μ.length) μ') : Ok (eLC I g bYes E own ρ μ) Q := by
  unfold eLC
  rw [Ok_bind]
  refine hI.mono ?_
  rintro q μ1 ⟨rfl, rfl⟩
  refine lc_ok (acc := []) J (fun i acc ν h => hgd i acc ν h) ?_ (fun acc μ' h => hQ acc μ' h) h0
  intro i d acc ν ed hJ
  obtain ⟨ρ1, eg, h1⟩ := hs i d ν acc ed hJ
  refine ⟨ρ1, eg, ?_⟩
  show (true = true → _) ∧ _
  refine ⟨fun _ => h1.mono fun y μ2 ⟨c2, hJ2⟩ => ?_, fun z => by cases z⟩
  have hil : i < items.length := (List.getElem?_eq_some_iff.mp ed).1
  exact ⟨c2, by rw [(hc i acc ν hJ).2]; exact small1000 (by omega), hJ2⟩
end
end DM

namespace DM
open PySem PySem.Spec L2
/-! ### dict(a list's cell of pairs) -/
def FdictC (ds : List D) (μ : Store) : Res D := match ds with
  | [d] => match itemsL μ d with
    | some xs => match pairsD xs with
      | some kvs => okR (.ref μ.length) (μ ++ [.dct (mergeKD [] kvs)])
      | none => none
    | none => none
  | _ => none
theorem lift_dictC {K : PySem.W.Frag} : LiftA K (rDict K) FdictC := by
  intro W σ ι μ H xs ds Q w v h
  unfold FdictC at h
  match ds, v, h with
  | [d], v, h =>
    obtain ⟨x, rfl, vd⟩ := v.one
    dsimp only at h
    match hi : itemsL μ d, h with
    | some ys, h =>
      dsimp only at h
      match hp : pairsD ys, h with
      | some kvs, h =>
        obtain ⟨a, vs, rfl, ha, r⟩ := itemsL_sq w vd hi
        obtain ⟨ps, qs, rfl, hpp, h1, h2⟩ := pairsD_ok r hp
        refine .inr ⟨_, ps, qs, rfl, ha, hpp, fun p hp => ?_⟩
        obtain ⟨m1, m2⟩ := merge_rel (K := K) (ι := ι) (H := H) (qs := []) (kvs := []) h1 h2 rfl .nil
        refine h.ok (Le.cell hp) (w.cell hp (u := .dct (mergeKD [] kvs)) ⟨_, upd_same, m1, m2.mono (Le.cell hp)⟩) (.ref (by rw [← w.len]; simp))
theorem f_dictC {c : Nat} {xs : List D} {kvs : List (Sum Int Str × D)} {μ : Store} (h : μ[c]? = some (.lst xs)) (hp : pairsD xs = some kvs) : FdictC [.ref c] μ = okR (.ref μ.length) (μ ++ [.dct (mergeKD [] kvs)]) := by
  simp [FdictC, itemsL, h, hp]
end DM

namespace DM
open PySem PySem.Spec L2 PyProof.Rows
/-! ### sorted(xs) of tuples that are alike -/
def leD (a b : D) : Bool := !PySem.W.dataLt (pyD b) (pyD a)
def srtD (xs : List D) : List D := xs.mergeSort leD
def lstAt (μ : Store) : D → Option (List D)
  | .lst xs => some xs
  | .fl xs => some xs
  | .ref c => match μ[c]? with
    | some (.lst xs) => some xs
    | _ => none
  | _ => none
def isTup1 : D → Bool
  | .tup (_ :: _) => true
  | _ => false
def sortOk (xs : List D) : Prop := xs.length ≤ 1000000 ∧ (∀ x ∈ xs, shp 50 x = true ∧ isTup1 x = true) ∧ ∀ x ∈ xs, ∀ y ∈ xs, PySem.W.alike (pyD x) (pyD y) = true
instance (xs : List D) : Decidable (sortOk xs) := by unfold sortOk; infer_instance
def FsortT (ds : List D) (μ : Store) : Res D := match ds with
  | [d] => match lstAt μ d with
    | some xs => if sortOk xs then okR (.lst (srtD xs)) μ else none
    | none => none
  | _ => none
abbrev leV : V × PyData → V × PyData → Bool := PySem.W.dataLe false (fun b : V × PyData => b.2)
def rSortT (K : PySem.W.Frag) : List V → Hp → VK → Prop := fun xs H Q => ∃ (a : Addr) (vs : List V) (ps : List PyData), xs = [.ref a] ∧ SqL K H a vs ∧ DpAll K H vs ps ∧ PySem.W.AllAlike ps ∧ PySem.W.Sortable ps ∧ (∀ p ∈ ps, p.depth ≤ 50) ∧ vs.length ≤ 1000000 ∧
  ∀ p, H p = none → Q (.ref p) (upd H p (.lst (((vs.zip ps).mergeSort leV).map (·.1))))
section
variable {X : Cx} {K : PySem.W.Frag} {pins : List (Addr × Obj)} {σ : L2.St} {H : Hp} {s : Shared}
theorem dps_zip : ∀ {vs : List V} {us : List Value} {ps : List PyData}, DpAll K H vs ps → Vals vs us → PySem.W.EachIs (fun v (b : V × PyData) => RelV b.1 v ∧ Dp K H b.1 b.2) us (vs.zip ps)
  | _, _, _, .nil, .nil => .nil
  | _, _, _, .cons h t, .cons r rt => .cons ⟨r, h⟩ (dps_zip t rt)
theorem dps_len : ∀ {vs : List V} {ps : List PyData}, DpAll K H vs ps → vs.length = ps.length
  | _, _, .nil => rfl
  | _, _, .cons _ t => by rw [List.length_cons, List.length_cons, dps_len t]
theorem each_vals : ∀ {us : List Value} {bs : List (V × PyData)}, PySem.W.EachIs (fun v (b : V × PyData) => RelV b.1 v ∧ Dp K H b.1 b.2) us bs → Vals (bs.map (·.1)) us
  | _, _, .nil => .nil
  | _, _, .cons h t => .cons h.1 (each_vals t)
theorem call_sortT (hu : X.A.units + 64 < cLine) : CallR X (.builtin "sorted") (rSortT X.K) := by
  intro pins s σ H xs us Q I r h
  obtain ⟨a, vs, ps, rfl, hs, hd, hal, hk, hdp, hz, q⟩ := h
  obtain ⟨its, rv, hl, _⟩ := I.list hs
  rw [Vals.ref1 r]
  have e := dps_zip hd rv
  have hm : (vs.zip ps).map (fun b : V × PyData => b.2) = ps := by
    rw [List.map_snd_zip (Nat.le_of_eq (dps_len hd).symm)]
  have hzl : (vs.zip ps).length = vs.length := by rw [List.length_zip, ← dps_len hd, Nat.min_self]
  refine PySem.W.sorted_data (enc := fun b : V × PyData => b.2) (bs := vs.zip ps) hl.isList e (e.mono fun v b hb => Dp.reads I b.2 b.1 v hb.2 hb.1) (by rw [hm]; exact hal) (by rw [hm]; exact hk) (by rw [hzl, sizeLine_eq]; omega) (fun b hb => ?_) fun out ho eo => ?_
  · have := hdp b.2 (by
      have := List.mem_map_of_mem (f := fun b : V × PyData => b.2) hb
      rw [hm] at this
      exact this)
    omega
  · obtain ⟨ep, he'⟩ := PyProof.Rows.sortedAll_at s.heap its (List.toArray out)
    have hlen : (((vs.zip ps).mergeSort leV).map (·.1)).length ≤ sizeLine := by
      rw [List.length_map, List.length_mergeSort, hzl, sizeLine_eq]; omega
    exact ⟨.ref _, upd H (s.heap.objs.size + 1) (.lst (((vs.zip ps).mergeSort leV).map (·.1))), I.laid (t' := s.toks) (fun _ _ => PyProof.Rows.sortedAll_old) (Nat.le_succ _) ⟨hlen, out, ep, each_vals eo, he'⟩, rfl, q _ (I.hok.fresh (Nat.le_succ _))⟩
theorem lstAt_vr {ι : List Addr} {μ : Store} {v : V} {d : D} {xs : List D} (w : WF K ι μ H) (vd : VR K ι H v d) (h : lstAt μ d = some xs) : ∃ a vs, v = .ref a ∧ SqL K H a vs ∧ VRs K ι H vs xs := by
  cases vd with
  | lst hh r => cases h; exact ⟨_, _, rfl, hh.sq, r⟩
  | fl hh r => cases h; exact ⟨_, _, rfl, hh.sq, r⟩
  | ref hi =>
    obtain ⟨o, ho, ro⟩ := w.has hi
    unfold lstAt at h
    simp only [ho] at h
    cases o with
    | lst ds =>
      obtain ⟨vs, ea, r⟩ := ro
      cases h
      exact ⟨_, _, rfl, .inl (.inl ea), r⟩
    | _ => cases h
  | _ => cases h
theorem pyDs_map : ∀ xs : List D, pyDs xs = xs.map pyD
  | [] => rfl
  | x :: r => by rw [pyDs, pyDs_map r]; rfl
theorem vrs_pairs {ι : List Addr} : ∀ {zs : List (V × D)}, (∀ z ∈ zs, VR K ι H z.1 z.2) → VRs K ι H (zs.map (·.1)) (zs.map (·.2))
  | [], _ => .nil
  | z :: r, h => .cons (h z List.mem_cons_self) (vrs_pairs fun y hy => h y (List.mem_cons_of_mem _ hy))
theorem vrs_zip {ι : List Addr} : ∀ {vs : List V} {ds : List D}, VRs K ι H vs ds → ∀ z ∈ vs.zip ds, VR K ι H z.1 z.2
  | _, _, .nil, _, h => by simp at h
  | _, _, .cons h t, z, hz => by
    rw [List.zip_cons_cons, List.mem_cons] at hz
    rcases hz with rfl | hz
    · exact h
    · exact vrs_zip t z hz
theorem lift_sortT : LiftA K (rSortT K) FsortT := by
  intro W σ ι μ H xs ds Q w v h
  unfold FsortT at h
  match ds, v, h with
  | [d], v, h =>
    obtain ⟨x, rfl, vd⟩ := v.one
    dsimp only at h
    match hl : lstAt μ d, h with
    | some ys, h =>
      obtain ⟨⟨c1, c2, c3⟩, h⟩ := PostG.guard h
      obtain ⟨a, vs, rfl, hs, r⟩ := lstAt_vr w vd hl
      have hsh : shps 50 ys = true := shps_all.mpr fun y hy => (c2 y hy).1
      have hlen := r.length
      refine ⟨a, vs, pyDs ys, rfl, hs, dps_of r (toPys_shps hsh), ?_, ?_, ?_, by rw [hlen]; exact c1, fun p hp => ?_⟩
      · intro p hp q hq
        rw [pyDs_map] at hp hq
        obtain ⟨y, hy, rfl⟩ := List.mem_map.mp hp
        obtain ⟨z, hz, rfl⟩ := List.mem_map.mp hq
        exact c3 y hy z hz
      · rw [pyDs_map]
        refine .inl fun p hp => ?_
        obtain ⟨y, hy, rfl⟩ := List.mem_map.mp hp
        have := (c2 y hy).2
        unfold isTup1 at this
        split at this
        · exact ⟨_, _, (by simp only [pyD, pyDs]; rfl)⟩
        · cases this
      · intro p hp
        rw [pyDs_map] at hp
        obtain ⟨y, hy, rfl⟩ := List.mem_map.mp hp
        exact dep_shp (c2 y hy).1
      · have ez : vs.zip (pyDs ys) = (vs.zip ys).map fun z => (z.1, pyD z.2) := by
          rw [pyDs_map, List.zip_map_right]
          rfl
        have e1 : (((vs.zip ys).mergeSort fun a b => leD a.2 b.2).map fun z => (z.1, pyD z.2)) = (vs.zip (pyDs ys)).mergeSort leV := by
          rw [ez]
          exact List.map_mergeSort fun _ _ _ _ => rfl
        have e2 : ((vs.zip (pyDs ys)).mergeSort leV).map (·.1) = ((vs.zip ys).mergeSort fun a b => leD a.2 b.2).map (·.1) := by
          rw [← e1, List.map_map]
          rfl
        have e3 : ((vs.zip ys).mergeSort fun a b => leD a.2 b.2).map (·.2) = srtD ys := by
          have := List.map_mergeSort (r := fun a b : V × D => leD a.2 b.2) (s := leD) (f := fun z : V × D => z.2) (l := vs.zip ys) fun _ _ _ _ => rfl
          rw [this, List.map_snd_zip (Nat.le_of_eq hlen.symm)]
          rfl
        rw [e2]
        refine h.ok (Le.laid hp) (w.laid hp) (.lst ⟨upd_same, w.out hp⟩ ?_)
        rw [← e3]
        exact (vrs_pairs fun z hz => vrs_zip r z (List.mem_mergeSort.mp hz)).mono (Le.laid hp)
    | none, h => exact h.elim
end
theorem f_sortT {d : D} {xs : List D} {μ : Store} (h : lstAt μ d = some xs) (c : sortOk xs) : FsortT [d] μ = okR (.lst (srtD xs)) μ := by
  unfold FsortT
  dsimp only
  rw [h]
  dsimp only
  rw [if_pos c]
theorem srt_perm (xs : List D) : (srtD xs).Perm xs := List.mergeSort_perm xs leD
end DM

namespace DM
open PySem PySem.Spec L2
/-! ### a + b of lists, the new list a cell -/
def FaddC : D → D → Store → Res D
  | .lst a, .lst b, μ => if a.length + b.length ≤ sizeLine then okR (.ref μ.length) (μ ++ [.lst (a ++ b)]) else none
  | _, _, _ => none
theorem lift_addC {K : PySem.W.Frag} : Lift2 K (rAddD K) FaddC := by
  intro W σ ι μ H x y d e Q w vx vy h
  cases vx with
  | lst ha ra =>
    cases vy with
    | lst hb rb =>
      obtain ⟨q, h⟩ := PostG.guard h
      refine .inr (.inr (.inl ⟨_, _, _, _, rfl, rfl, ha.1, hb.1, by rw [ra.length, rb.length]; exact q, fun p hp => ?_⟩))
      refine h.ok (Le.cell hp) (w.cell hp (OR.mkL upd_same ((ra.append rb).mono (Le.cell hp)))) (.ref ?_)
      rw [← w.len]; simp
    | _ => exact h.elim
  | _ => exact h.elim
theorem d_addC {X : Cx} {W : DW} {a b : Expr} {A B : CM D} {pos : Pos} (ha : PE X a (tE X.K W A)) (hb : PE X b (tE X.K W B)) : PE X (.BinOp a .Add b pos) (tE X.K W (e2 FaddC A B)) := d_op op_addD lift_addC ha hb
theorem f_addC {a b : List D} {μ : Store} (h : a.length + b.length ≤ 1000000) : FaddC (.lst a) (.lst b) μ = okR (.ref μ.length) (μ ++ [.lst (a ++ b)]) := by
  show (if a.length + b.length ≤ sizeLine then okR (.ref μ.length) (μ ++ [.lst (a ++ b)]) else none) = _
  rw [if_pos (size_ok h)]
end DM

namespace DM
open PySem PySem.Spec L2
/-! ### what sorted brings, of tuples that are alike -/
def ltD (a b : D) : Bool := PySem.W.dataLt (pyD a) (pyD b)
theorem ltD_irr (a : D) : ltD a a = false := PyProof.Rows.lex_irrefl _
theorem ltD_trans {a b c : D} (h : ltD a b = true) (k : ltD b c = true) : ltD a c = true := PyProof.Rows.lex_trans _ _ _ h k
theorem ltD_asym {a b : D} (h : ltD a b = true) : ltD b a = false := by
  cases q : ltD b a with
  | false => rfl
  | true => rw [← ltD_irr a, ltD_trans h q]
theorem leD_total (a b : D) : (leD a b || leD b a) = true := by
  show (!ltD b a || !ltD a b) = true
  cases h : ltD b a with
  | false => rfl
  | true => rw [ltD_asym h]; rfl
theorem leD_trans (a b c : D) (h : leD a b = true) (k : leD b c = true) : leD a c = true := by
  have h : (!ltD b a) = true := h
  have k : (!ltD c b) = true := k
  show (!ltD c a) = true
  cases q : ltD c a with
  | false => rfl
  | true =>
    rcases PyProof.Rows.lex_negTrans _ (PySem.W.keyToks (pyD b)) _ q with z | z
    · have z : ltD c b = true := z
      rw [z] at k; cases k
    · have z : ltD b a = true := z
      rw [z] at h; cases h
theorem srt_pw (xs : List D) : (srtD xs).Pairwise fun a b => leD a b = true := List.pairwise_mergeSort leD_trans leD_total xs
theorem pw_lt_uniq : ∀ {xs ys : List D}, xs.Perm ys → (xs.Pairwise fun a b => leD a b = true) → (ys.Pairwise fun a b => ltD a b = true) → xs = ys
  | [], ys, p, _, _ => (List.nil_perm.mp p).symm
  | x :: r, [], p, _, _ => absurd p.length_eq (by simp)
  | x :: r, y :: t, p, h, h' => by
    rw [List.pairwise_cons] at h h'
    have e : x = y := by
      rcases List.mem_cons.mp (p.mem_iff.mp (List.mem_cons_self (a := x) (l := r))) with e | hx
      · exact e
      rcases List.mem_cons.mp (p.symm.mem_iff.mp (List.mem_cons_self (a := y) (l := t))) with e | hy
      · exact e.symm
      have h1 : (!ltD y x) = true := h.1 y hy
      rw [h'.1 x hx] at h1
      cases h1
    subst e
    rw [pw_lt_uniq (List.Perm.cons_inv p) h.2 h'.2]
/-- the sorted list is the ascending one -/
theorem srt_uniq {xs ys : List D} (p : ys.Perm xs) (h : ys.Pairwise fun a b => ltD a b = true) : srtD xs = ys := pw_lt_uniq ((srt_perm xs).trans p.symm) (srt_pw xs) h
end DM

namespace DM
open PySem PySem.Spec L2 PyProof.Rows
/-! ### dicts whose keys are tuples of ints and texts -/
def eTNew : CM D := fun _ μ => some (.ok (.ref μ.length), μ ++ [.dtt []])
theorem d_tnew {X : Cx} {W : DW} {pos : Pos} : PE X (.Dict [] [] pos) (tE X.K W eTNew) := pe_dnewT.imp fun σ H Q ⟨ρ, ι, μ, sr, wf, h⟩ p hp => h.ok (Le.cell hp) (wf.cell hp (u := .dtt []) ⟨[], upd_same, rfl, .nil⟩) (.ref (by rw [← wf.len]; simp))
def keysT : List D → Option (List Key)
  | [] => some []
  | d :: r => match keyD d, keysT r with
    | some k, some t => some (k :: t)
    | _, _ => none
section
variable {K : PySem.W.Frag} {ι : List Addr} {H : Hp}
theorem keysT_vr : ∀ {vs : List V} {ds : List D} {ks : List Key}, VRs K ι H vs ds → keysT ds = some ks → vs = ks.map kV
  | _, _, _, .nil, e => by cases e; rfl
  | _, _, _, .cons (d := d) (ds := ds) h r, e => by
    unfold keysT at e
    match e1 : keyD d, e2 : keysT ds, e with
    | some k, some t, e =>
      cases e
      rw [keyD_vr h e1, keysT_vr r e2]
      rfl
theorem keysT_of {ks : List Key} : keysT (ks.map keyOf) = some ks := by
  induction ks with
  | nil => rfl
  | cons k r ih =>
    show (match keyD (keyOf k), keysT (r.map keyOf) with
      | some k, some t => some (k :: t)
      | _, _ => none) = _
    rw [ih]
    cases k <;> rfl
def putTD (kvs : List (List Key × D)) (k : List Key) (v : D) : List (List Key × D) := if (kvs.any fun kv => decide (kv.1 = k)) = true then kvs.map (fun kv => if kv.1 = k then (kv.1, v) else kv) else kvs ++ [(k, v)]
theorem any_keysT {α β : Type} {k : List Key} : ∀ {qs : List (List Key × α)} {kvs : List (List Key × β)}, qs.map (·.1) = kvs.map (·.1) → (qs.any fun kv => decide (kv.1 = k)) = kvs.any fun kv => decide (kv.1 = k)
  | [], [], _ => rfl
  | [], _ :: _, q => by cases q
  | _ :: _, [], q => by cases q
  | (g, x) :: gr, (h, y) :: fr, q => by
    simp only [List.map_cons, List.cons.injEq] at q
    obtain ⟨k1, k2⟩ := q
    subst k1
    rw [List.any_cons, List.any_cons, any_keysT k2]
theorem map_keysT {α : Type} (k : List Key) (v : α) (qs : List (List Key × α)) : (qs.map fun kv => if kv.1 = k then (kv.1, v) else kv).map (·.1) = qs.map (·.1) := by
  rw [List.map_map]
  refine List.map_congr_left fun kv _ => ?_
  show (if kv.1 = k then (kv.1, v) else kv).1 = kv.1
  split <;> rfl
theorem putT_rel {k : List Key} {v : V} {d : D} (hv : VR K ι H v d) {qs : List (List Key × V)} {kvs : List (List Key × D)} (q : qs.map (·.1) = kvs.map (·.1)) (r : VRs K ι H (qs.map (·.2)) (kvs.map (·.2))) : (putK qs k v).map (·.1) = (putTD kvs k d).map (·.1) ∧ VRs K ι H ((putK qs k v).map (·.2)) ((putTD kvs k d).map (·.2)) := by
  unfold putK putTD
  rw [any_keysT q]
  split
  · refine ⟨by rw [map_keysT, map_keysT, q], ?_⟩
    rename_i hz
    clear hz
    induction qs generalizing kvs with
    | nil => cases kvs with | nil => exact .nil | cons _ _ => cases q
    | cons p qs ih =>
      cases kvs with
      | nil => cases q
      | cons p2 kvs =>
        obtain ⟨g, x⟩ := p
        obtain ⟨h, y⟩ := p2
        simp only [List.map_cons, List.cons.injEq] at q
        obtain ⟨k1, k2⟩ := q
        subst k1
        rw [List.map_cons, List.map_cons] at r
        cases r with
        | cons r1 r2 =>
        rw [List.map_cons, List.map_cons, List.map_cons, List.map_cons]
        by_cases z : g = k
        · simp only [z, if_true]
          exact .cons hv (by simpa using ih k2 r2)
        · simp only [z, if_false]
          exact .cons r1 (by simpa using ih k2 r2)
  · refine ⟨by simp [q], ?_⟩
    rw [List.map_append, List.map_append]
    exact r.append (.cons hv .nil)
end

def FtPut (o : D) (ds : List D) (v : D) (μ : Store) : Option Store := match o with
  | .ref c => match μ[c]?, keysT ds with
    | some (.dtt kvs), some k => if kvs.length < sizeLine then some (μ.set c (.dtt (putTD kvs k v))) else none
    | _, _ => none
  | _ => none
def tTSub (O : CM D) (As : CM (List D)) : D → SF := fun v => lft O fun o => lft As fun ds ρ μ => if ds.length ≤ sizeLine then (match FtPut o ds v μ with
  | some μ' => some (.nx ρ, μ')
  | none => none) else none
/-- d[(a, b, c)] = v -/
theorem dg_tsub {X : Cx} {W : DW} {o : Expr} {es : List Expr} {O : CM D} {As : CM (List D)} {pos tp : Pos} {k tk : Nat} (hr : Room k X.A) (ho : PE X o (tE X.K W O)) (hi : PA X es (tA X.K W As)) (ha : ∀ v, assign (.Subscript o (.Tuple es tk tp) pos) X.env v = (do
      let ov ← holding [v] (eval o X.env)
      let iv ← holding [v, ov] (eval (.Tuple es tk tp) X.env)
      standAt pos
      holding [v, ov, iv] (setItem ov iv v)
      release [v, ov, iv] []) := by intro _; rfl) : PG X (.Subscript o (.Tuple es tk tp) pos) (tgD X.K W (tTSub O As)) :=
  (pg_sub ho (pe_tup hi) (set_dict (by have := hr.units; omega)) ha).imp fun v σ H Q ⟨ρ, ι, μ, dv, sr, wf, vr, h⟩ => by
    refine tG.mono (PostS.bind sr wf h) ?_
    rintro x H1 ⟨ι1, μ1, d, l1, w1, vx, h1⟩
    refine tG.mono (PostS.bind (sr.mono l1) w1 h1) ?_
    rintro xs H2 ⟨ι2, μ2, ds, l2, w2, vxs, h2⟩
    obtain ⟨hz, h2⟩ := PostS.guard h2
    refine ⟨by rw [vxs.length]; exact hz, fun p hp => ?_⟩
    unfold FtPut at h2
    cases vx with
    | @ref a c hc =>
      simp only [] at h2
      match hm : μ2[c]?, hk : keysT ds, h2 with
      | some (.dtt kvs), some ks, h2 =>
        simp only [] at h2
        by_cases hl : kvs.length < sizeLine
        · rw [if_pos hl] at h2
          have ek := keysT_vr vxs hk
          have hc2 := l2.pre _ _ hc
          obtain ⟨o2, ho2, ro⟩ := w2.has hc2
          rw [hm] at ho2
          cases ho2
          obtain ⟨qs, ea, q, r⟩ := ro
          have l3 : Le ι2 H2 ι2 (upd H2 p (.tup xs)) := Le.laid hp
          have w3 : WF X.K ι2 μ2 (upd H2 p (.tup xs)) := w2.laid hp
          have ea3 : upd H2 p (.tup xs) a = some (.dT qs) := by rw [upd_ne (fun z => by rw [z, hp] at ea; cases ea)]; exact ea
          have hql : qs.length < sizeLine := by have := congrArg List.length q; simp at this; omega
          obtain ⟨p1, p2⟩ := putT_rel (k := ks) ((vr.mono (l1.trans l2)).mono l3) q (r.mono l3)
          exact ⟨a, _, rfl, DPut.t ea3 (by rw [upd_same, ek]) hql, h2 σ ι2 _ (l3.trans (Le.set hc2 (nf ea3))) (w3.set hc2 (nf ea3) (u := .dtt (putTD kvs ks dv)) ⟨_, upd_same, p1, p2.mono (Le.set hc2 (nf ea3))⟩) (((sr.mono (l1.trans l2)).mono l3).mono (Le.set hc2 (nf ea3)))⟩
        · rw [if_neg hl] at h2; exact h2.elim
    | _ => exact h2.elim
/-! ### sorted(d) -/
def hasInt (k : List Key) : Bool := k.any fun x => match x with
  | .inl _ => true
  | .inr _ => false
def keyT (k : List Key) : D := .tup (k.map keyOf)
def FsortDT (ds : List D) (μ : Store) : Res D := match ds with
  | [.ref c] => match μ[c]? with
    | some (.dtt kvs) => if sortOk (kvs.map fun kv => keyT kv.1) ∧ (kvs.all fun kv => hasInt kv.1) = true then okR (.lst (srtD (kvs.map fun kv => keyT kv.1))) μ else none
    | _ => none
  | _ => none
def rSortDT (K : PySem.W.Frag) : List V → Hp → VK → Prop := fun xs H Q => ∃ (a : Addr) (kvs : List (List Key × V)) (ps : List PyData), xs = [.ref a] ∧ Rd H a (.dT kvs) ∧ (∀ bs, IsKeys H kvs bs → DpAll K H (bs.map V.ref) ps) ∧ PySem.W.AllAlike ps ∧ PySem.W.Sortable ps ∧ (∀ p ∈ ps, p.depth ≤ 50) ∧ kvs.length ≤ 1000000 ∧
  ∀ bs p, IsKeys H kvs bs → H p = none → Q (.ref p) (upd H p (.lst ((((bs.map V.ref).zip ps).mergeSort leV).map (·.1))))
theorem call_sortDT {X : Cx} (hc : X.calm = true) (hu : X.A.units + 64 < cLine) : CallR X (.builtin "sorted") (rSortDT X.K) := by
  intro pins s σ H xs us Q I r h
  obtain ⟨a, kvs, ps, rfl, hd, hdp, hal, hk, hdep, hz, q⟩ := h
  obtain ⟨u, rfl, rx⟩ := r.one
  cases rx
  obtain ⟨z, hs, ks, pr, o, es, ep, ho, hx, hdt, he, hn⟩ := (show ObjOk X.prog X.w H s.heap a (.dT kvs) from hd.ok I.hok)
  have l1 : es.size = ks.length := size_of_entries he
  have l2 : kvs.length = ks.length := Paired.length pr
  have hsz : es.size ≤ sizeLine := by omega
  have hKs := isKeys_of pr
  refine Calls.call_function_entry PyProof.Rows.kind_sorted PyProof.Rows.plain_sorted PyProof.Rows.entry_sorted (PyProof.Rows.args_sorted1 _) ?_
  unfold Builtin.«sorted»
  refine wpAny_bind (m := checkCount "sorted" 1 1 _) (wpAny_pure ?_)
  refine wpAny_bind (PySem.W.kdu_collect (A := X.A.in1) (kdl_raw hs hx hdt) (I.ok.hd hc) ho hsz fun h' tk acc hkp it => ?_)
  have hl : acc.toList.length = ks.length := by rw [Array.length_toList, it.1]; exact l1
  have ea : acc.toList = ks.map fun x => Value.ref x.2.1 := by
    apply List.ext_getElem?
    intro j
    rw [List.getElem?_map]
    cases hj : acc.toList[j]? with
    | none =>
      have h1 := List.getElem?_eq_none_iff.mp hj
      rw [List.getElem?_eq_none (by omega)]
      all_goals rfl
    | some v =>
      obtain ⟨en, hen, hv⟩ := it.2 j v (by rw [← Array.getElem?_toList]; exact hj)
      have qe := entry_at he j
      rw [hen] at qe
      cases hb : ks[j]? with
      | none =>
        rw [hb] at qe
        exact nomatch (show some en = none from qe)
      | some b =>
        rw [hb] at qe
        have e2 : en = entryOfKey (tupleKind (mixKind X.prog X.w)) b := Option.some.inj qe
        rw [hv, e2]
        all_goals rfl
  have eb : acc.toList = (ks.map fun x => x.2.1).map Value.ref := by rw [ea, List.map_map]; all_goals rfl
  have rv : Vals ((ks.map fun x => x.2.1).map V.ref) acc.toList := by rw [eb]; exact vals_refs _
  generalize hbs : (ks.map fun x => x.2.1) = bs at hKs rv
  have I1 : Inv X pins σ H { s with heap := h', toks := tk } := I.kept hkp
  refine wpAny_bind (wpAny_newList ?_ (by rw [hl]; omega))
  have hoL : (h'.push (seqObj "list" acc.toList.toArray 0)).get? h'.objs.size = some (seqObj "list" acc.toList.toArray 0) := Heap.get?_push_size _ rfl
  show wpAny _ _ _ _ _ { s with heap := h'.push (seqObj "list" acc.toList.toArray 0), toks := tk }
  have e := dps_zip (hdp bs hKs) rv
  have hm : ((bs.map V.ref).zip ps).map (fun b : V × PyData => b.2) = ps := by
    rw [List.map_snd_zip (Nat.le_of_eq (dps_len (hdp bs hKs)).symm)]
  have hzl : ((bs.map V.ref).zip ps).length = ks.length := by rw [List.length_zip, ← dps_len (hdp bs hKs), Nat.min_self, List.length_map, ← hbs, List.length_map]
  have er' : PySem.W.EachIs (fun v b => ∃ as, Reads (PySem.W.sortingHeap (h'.push (seqObj "list" acc.toList.toArray 0)) h'.objs.size acc.toList) v (b : V × PyData).2 as) acc.toList ((bs.map V.ref).zip ps) := e.mono fun v b hb => by
    obtain ⟨as, rr⟩ := Dp.reads I1 b.2 b.1 v hb.2 hb.1
    exact ⟨as, PyProof.Rows.Reads.keeps (fun c o' q' => PySem.W.sortingHeap_old (Nat.ne_of_lt (Heap.lt_size q')) (Heap.get?_push_of_some _ q')) rr⟩
  refine wpAny_bind (wpAny_holding (wpAny_call_entry PyProof.Rows.slot_list_sort ⟨_, hoL, rfl⟩ PyProof.Rows.entry_list_sort
    (PySem.W.list_sort_vals (s := { s with heap := h'.push (seqObj "list" acc.toList.toArray 0), toks := tk }) (κ := PySem.W.dataKind (PySem.W.sortingHeap (h'.push (seqObj "list" acc.toList.toArray 0)) h'.objs.size acc.toList) (((bs.map V.ref).zip ps).map fun b => b.2)) hoL
      (PySem.W.SortsAt.data (s := { s with heap := PySem.W.sortingHeap (h'.push (seqObj "list" acc.toList.toArray 0)) h'.objs.size acc.toList, toks := tk }) (PySem.W.each_map (R := fun v d => ∃ as, Reads (PySem.W.sortingHeap (h'.push (seqObj "list" acc.toList.toArray 0)) h'.objs.size acc.toList) v d as) (fun b : V × PyData => b.2) er') (by rw [hm]; exact hal) (by rw [hm]; exact hk) fun d hd => ?_) (by rw [hl]; omega) ⟨_, rfl, ?_⟩)
    (PyProof.Rows.args_list_sort _)))
  · rw [hm] at hd
    have := hdep d hd
    show X.A.units + 1 + 1 + d.depth < cLine
    omega
  have eo := PySem.W.sortVals_data (R := fun v (b : V × PyData) => RelV b.1 v ∧ Dp X.K H b.1 b.2) (enc := fun b : V × PyData => b.2) false e er' (by rw [hm]; exact hal)
  obtain ⟨e', he'⟩ := PyProof.Rows.sortedHeap_at (vs := acc.toList) (out := (PySem.W.sortVals (PySem.W.dataKind (PySem.W.sortingHeap (h'.push (seqObj "list" acc.toList.toArray 0)) h'.objs.size acc.toList) (((bs.map V.ref).zip ps).map fun b => b.2)) false acc.toList acc.toList).toArray) hoL
  have hlen : ((((bs.map V.ref).zip ps).mergeSort leV).map (·.1)).length ≤ sizeLine := by
    rw [List.length_map, List.length_mergeSort, hzl]; omega
  refine wpAny_pure ⟨_, rfl, .ref h'.objs.size, upd H h'.objs.size (.lst ((((bs.map V.ref).zip ps).mergeSort leV).map (·.1))), I1.laid (t' := tk) (fun b u e => ?_) (Nat.le_refl _)
    (show ObjOk X.prog X.w _ _ _ (.lst _) from ⟨hlen, _, e', each_vals eo, he'⟩), rfl, q bs _ hKs (I1.hok.fresh (Nat.le_refl _))⟩
  have hb : b < h'.objs.size := Heap.lt_size e
  rw [PyProof.Rows.sortedHeap_old (Nat.ne_of_lt hb) (by rw [size_push']; exact Nat.lt_succ_of_lt hb)]
  exact Heap.get?_push_of_some _ e
section
variable {K : PySem.W.Frag} {ι : List Addr} {H : Hp}
theorem vrs_keys : ∀ ks : List Key, VRs K ι H (ks.map kV) (ks.map keyOf)
  | [] => .nil
  | .inl i :: r => .cons (.int i) (vrs_keys r)
  | .inr x :: r => .cons (.str x) (vrs_keys r)
theorem vrs_keyT {μ : Store} (w : WF K ι μ H) : ∀ {kvs : List (List Key × V)} {bs : List Addr} {ks : List (List Key)}, IsKeys H kvs bs → kvs.map (·.1) = ks → (∀ k ∈ ks, hasInt k = true) → VRs K ι H (bs.map V.ref) (ks.map keyT)
  | _, _, _, .nil, e, _ => by subst e; exact .nil
  | (k, v) :: r, b :: t, _, .cons h g, e, hi => by
    subst e
    refine .cons (.tup (.inr (.inr ⟨h, fun m => ?_, ?_⟩)) (vrs_keys k)) (vrs_keyT w g rfl fun k' hk' => hi k' (List.mem_cons_of_mem _ hk'))
    · obtain ⟨i, hi⟩ := List.getElem?_of_mem m
      obtain ⟨ob, _, q⟩ := w.has hi
      cases ob with
      | lst ds => obtain ⟨us, e, _⟩ := q; rw [h] at e; cases e
      | obj C fs => obtain ⟨dx, gs, e, _⟩ := q; rw [h] at e; cases e
      | dct kvs => obtain ⟨qs, e, _⟩ := q; rw [h] at e; cases e
      | dcl kvs => obtain ⟨o', qs, e, _⟩ := q; rw [h] at e; cases e
      | dtt kvs => obtain ⟨qs, e, _⟩ := q; rw [h] at e; cases e
    · have := hi k (by simp)
      unfold hasInt at this
      obtain ⟨x, hx, e⟩ := List.any_eq_true.mp this
      cases x with
      | inl i => exact ⟨i, List.mem_map.mpr ⟨.inl i, hx, rfl⟩⟩
      | inr x => cases e
end
theorem lift_sortDT {K : PySem.W.Frag} : LiftA K (rSortDT K) FsortDT := by
  intro W σ ι μ H xs ds Q w v h
  unfold FsortDT at h
  match ds, v, h with
  | [.ref c], v, h =>
    obtain ⟨x, rfl, vd⟩ := v.one
    cases vd with
    | @ref a _ hc =>
      dsimp only at h
      match hm : μ[c]?, h with
      | some (.dtt kvs), h =>
        dsimp only at h
        obtain ⟨⟨⟨c1, c2, c3⟩, c4⟩, h⟩ := PostG.guard h
        obtain ⟨o2, ho2, ro⟩ := w.has hc
        rw [hm] at ho2
        cases ho2
        obtain ⟨qs, ea, q, r⟩ := ro
        have hlq : qs.length = kvs.length := by have := congrArg List.length q; simpa using this
        have eys : (kvs.map fun kv => keyT kv.1) = (qs.map (·.1)).map keyT := by rw [q, List.map_map]; rfl
        generalize hys : (kvs.map fun kv => keyT kv.1) = ys at c1 c2 c3 h eys
        have hin : ∀ k ∈ qs.map (·.1), hasInt k = true := by
          rw [q]
          intro k hk
          obtain ⟨kv, hkv, rfl⟩ := List.mem_map.mp hk
          exact List.all_eq_true.mp c4 kv hkv
        have vk : ∀ bs, IsKeys H qs bs → VRs K ι H (bs.map V.ref) ys := fun bs hb => by
          rw [eys]
          exact vrs_keyT w hb rfl hin
        have hsh : shps 50 ys = true := shps_all.mpr fun y hy => (c2 y hy).1
        have hyl : ys.length = qs.length := by rw [eys]; simp
        refine ⟨a, qs, pyDs ys, rfl, .inl ea, fun bs hb => dps_of (vk bs hb) (toPys_shps hsh), ?_, ?_, ?_, by omega, fun bs p hb hp => ?_⟩
        · intro p hp q hq
          rw [pyDs_map] at hp hq
          obtain ⟨y, hy, rfl⟩ := List.mem_map.mp hp
          obtain ⟨z, hz, rfl⟩ := List.mem_map.mp hq
          exact c3 y hy z hz
        · rw [pyDs_map]
          refine .inl fun p hp => ?_
          obtain ⟨y, hy, rfl⟩ := List.mem_map.mp hp
          have := (c2 y hy).2
          unfold isTup1 at this
          split at this
          · exact ⟨_, _, (by simp only [pyD, pyDs]; rfl)⟩
          · cases this
        · intro p hp
          rw [pyDs_map] at hp
          obtain ⟨y, hy, rfl⟩ := List.mem_map.mp hp
          exact dep_shp (c2 y hy).1
        · have r := vk bs hb
          have hlen := r.length
          have ez : (bs.map V.ref).zip (pyDs ys) = ((bs.map V.ref).zip ys).map fun z => (z.1, pyD z.2) := by
            rw [pyDs_map, List.zip_map_right]
            rfl
          have e1 : ((((bs.map V.ref).zip ys).mergeSort fun a b => leD a.2 b.2).map fun z => (z.1, pyD z.2)) = ((bs.map V.ref).zip (pyDs ys)).mergeSort leV := by
            rw [ez]
            exact List.map_mergeSort fun _ _ _ _ => rfl
          have e2 : (((bs.map V.ref).zip (pyDs ys)).mergeSort leV).map (·.1) = (((bs.map V.ref).zip ys).mergeSort fun a b => leD a.2 b.2).map (·.1) := by
            rw [← e1, List.map_map]
            rfl
          have e3 : (((bs.map V.ref).zip ys).mergeSort fun a b => leD a.2 b.2).map (·.2) = srtD ys := by
            have := List.map_mergeSort (r := fun a b : V × D => leD a.2 b.2) (s := leD) (f := fun z : V × D => z.2) (l := (bs.map V.ref).zip ys) fun _ _ _ _ => rfl
            rw [this, List.map_snd_zip (Nat.le_of_eq hlen.symm)]
            rfl
          rw [e2]
          refine h.ok (Le.laid hp) (w.laid hp) (.lst ⟨upd_same, w.out hp⟩ ?_)
          rw [← e3]
          exact (vrs_pairs fun z hz => vrs_zip r z (List.mem_mergeSort.mp hz)).mono (Le.laid hp)
end DM

namespace Lw
open PySem PySem.Spec L2 DM
def topS (i : Nat) : Stmt := PySem.Challenge.pw_coarseclock_k14_bad_cells_of_widths.main.body.getD i (.Pass ⟨0, 0, 0, 0⟩)
abbrev FnT (K : PySem.W.Frag) (x : Str) (st : Stmt) (f : Addr) (fd : FuncData) : Prop := FunD K x x (defArgs st) (defBody st) (defScope st) [] [] f fd
abbrev FnM (K : PySem.W.Frag) (x q : Str) (st : Stmt) (f : Addr) (fd : FuncData) : Prop := FunD K x q (defArgs st) (defBody st) (defScope st) [] [] f fd
section
variable {P : Program} {w : World} {K : PySem.W.Frag} {mg : Str → Option Value} {base : Heap}
/-! #### changes -/
abbrev s_changes : Stmt := topS 5
abbrev N_changes : List Str := ["world", "word"]
theorem sc_changes : FnScope N_changes ["world"] (defScope s_changes) := ⟨rfl, rfl, rfl, by decide +kernel, rfl, by decide +kernel, by decide +kernel⟩
def S_changes : SF := (sRet (eCallB Fany (aCons (eSeal (eLC (iAny (e2 Fix (eVar 0) (eC (.int 0)))) (fName 1) bYes (e2 (Feq true) (eVar 1) (eC (.str "touch"))) [1])) aNil)))
def F_changes : FD := fnP 2 1 S_changes
abbrev P_changes : List Str := ["world"]
theorem ok_changes {f : Addr} {fd : FuncData} (Fd : FnT K "changes" s_changes f fd) (m_any : mg "any" = none) (c_TOUCH : Cst K mg "TOUCH" (.str "touch")) : FnG P w K mg base noXR 1 f fd P_changes F_changes := by
  exact fnG_pure Fd sc_changes rfl rfl fun cdv A outer s H E hr hG => (ds_one (ds_ret (d_cb (cr_any rfl) lift_any (by rfl) m_any (by decide +kernel) (da_cons (d_seal (d_lc (own := [("word", 1)]) rfl sc_changes.nd (di_any (d_ix (d_pv 0 (pv 0)) d_int (fun _ _ => rfl))) (blkOk_by (N := N_changes) (sc := defScope s_changes) (own := [("word", 1)]) (by decide +kernel)) (fun _ _ _ _ _ => (pg_name (i := 1) sc_changes.nd rfl (.inl rfl))) (tg_name (by decide)) (fun _ _ _ _ _ => dts_nil) (fun _ _ _ _ _ => (d_ne hr (d_pv 1 (pv 1)) (d_cst (by rfl) c_TOUCH))))) da_nil))))
theorem kn_changes {f : Addr} {fd : FuncData} (Fd : FnT K "changes" s_changes f fd) (g : mg "changes" = some (.ref f)) (m_any : mg "any" = none) (c_TOUCH : Cst K mg "TOUCH" (.str "touch")) : Kn P w K mg base 1 "changes" P_changes F_changes :=
  ⟨⟨f, fd, ok_changes Fd m_any c_TOUCH, g, Fd.kp, FunD.bindsN Fd (fun _ _ _ _ _ _ us hl => match us, hl with | [_], _ => rfl), fnP_len⟩⟩
/-! #### cells (a generator) -/
abbrev s_cells : Stmt := topS 16
abbrev N_cells : List Str := ["width", "relation", "gap", "size"]
theorem sc_cells : GScope N_cells ["width"] (defScope s_cells) := ⟨rfl, rfl, rfl, by decide +kernel, rfl, by decide +kernel, by decide +kernel⟩
def G_cells : GP.GD := (GP.gdFor (fun _ => some [(.str "less"), (.str "more"), (.str "same")]) 1 (GP.gdFor (GP.gRng2 (aCons (e1 Fneg (eVar 0)) (aCons (e2 Fadd (eVar 0) (eC (.int 1))) aNil))) 2 (GP.gdFor (fun _ => some [(.str "other"), (.str "same")]) 3 (GP.gdYield (eTup (aCons (eVar 1) (aCons (eVar 2) (aCons (eVar 3) aNil))))))))
def F_cells : List D → Option (List D) := fun ds => (G_cells (startR 4 ds)).map (·.1)
abbrev P_cells : List Str := ["width"]
theorem kg_cells {f : Addr} {fd : FuncData} (Fd : FnT K "cells" s_cells f fd) (g : mg "cells" = some (.ref f)) (m_range : mg "range" = none) (c_RELATIONS : Cst K mg "RELATIONS" (.tup [(.str "less"), (.str "more"), (.str "same")])) (c_SIZES : Cst K mg "SIZES" (.tup [(.str "other"), (.str "same")])) : GP.KnG P w K mg base 1 "cells" P_cells F_cells :=
  ⟨⟨f, fd, GP.gng_of Fd sc_cells (fun _ => rfl) (GP.nc_of (by decide +kernel)) (fun cdv A_ outer L pn items hr ok => (GP.gsd_one (GP.gs_for1 ok (fun _ _ _ => GP.pic_const (by rfl) c_RELATIONS rfl) (fun _ _ _ => pg_name (i := 1) sc_cells.nd rfl (.inl rfl)) (GP.gsd_one (GP.gs_for1 ok (fun _ _ _ => GP.pic_range2 (by rfl) m_range (da_cons (d_neg (d_pv 0 (pv 0))) (da_cons (d_add (d_pv 0 (pv 0)) d_int) da_nil))) (fun _ _ _ => pg_name (i := 2) sc_cells.nd rfl (.inl rfl)) (GP.gsd_one (GP.gs_for1 ok (fun _ _ _ => GP.pic_const (by rfl) c_SIZES rfl) (fun _ _ _ => pg_name (i := 3) sc_cells.nd rfl (.inl rfl)) (GP.gsd_one (GP.gs_yield1 ok (fun _ _ _ => (d_tup (da_cons (d_pv 1 (pv 1)) (da_cons (d_pv 2 (pv 2)) (da_cons (d_pv 3 (pv 3)) da_nil)))))))))))))), g, Fd.kp, FunD.bindsN Fd (fun _ _ _ _ _ _ us hl => match us, hl with | [_], _ => rfl)⟩⟩
/-! #### has_any -/
abbrev s_has_any : Stmt := topS 21
abbrev N_has_any : List Str := ["world", "words", "word"]
theorem sc_has_any : FnScope N_has_any ["world", "words"] (defScope s_has_any) := ⟨rfl, rfl, rfl, by decide +kernel, rfl, by decide +kernel, by decide +kernel⟩
def S_has_any : SF := (sRet (eCallB Fany (aCons (eSeal (eLC (iAny (e2 Fix (eVar 0) (eC (.int 0)))) (fName 2) bYes (e2 (Fin false) (eVar 2) (eVar 1)) [2])) aNil)))
def F_has_any : FD := fnP 3 2 S_has_any
abbrev P_has_any : List Str := ["world", "words"]
theorem ok_has_any {f : Addr} {fd : FuncData} (Fd : FnT K "has_any" s_has_any f fd) (m_any : mg "any" = none) : FnG P w K mg base noXR 1 f fd P_has_any F_has_any := by
  exact fnG_pure Fd sc_has_any rfl rfl fun cdv A outer s H E hr hG => (ds_one (ds_ret (d_cb (cr_any rfl) lift_any (by rfl) m_any (by decide +kernel) (da_cons (d_seal (d_lc (own := [("word", 2)]) rfl sc_has_any.nd (di_any (d_ix (d_pv 0 (pv 0)) d_int (fun _ _ => rfl))) (blkOk_by (N := N_has_any) (sc := defScope s_has_any) (own := [("word", 2)]) (by decide +kernel)) (fun _ _ _ _ _ => (pg_name (i := 2) sc_has_any.nd rfl (.inl rfl))) (tg_name (by decide)) (fun _ _ _ _ _ => dts_nil) (fun _ _ _ _ _ => (d_in hr (d_pv 2 (pv 2)) (d_pv 1 (pv 1)))))) da_nil))))
theorem kn_has_any {f : Addr} {fd : FuncData} (Fd : FnT K "has_any" s_has_any f fd) (g : mg "has_any" = some (.ref f)) (m_any : mg "any" = none) : Kn P w K mg base 1 "has_any" P_has_any F_has_any :=
  ⟨⟨f, fd, ok_has_any Fd m_any, g, Fd.kp, FunD.bindsN Fd (fun _ _ _ _ _ _ us hl => match us, hl with | [_, _], _ => rfl), fnP_len⟩⟩
/-! #### stands_ahead -/
abbrev s_stands_ahead : Stmt := topS 22
abbrev N_stands_ahead : List Str := ["order", "one", "other"]
theorem sc_stands_ahead : FnScope N_stands_ahead ["order", "one", "other"] (defScope s_stands_ahead) := ⟨rfl, rfl, rfl, by decide +kernel, rfl, by decide +kernel, by decide +kernel⟩
def S_stands_ahead : SF := (sRet (e2 Flt (eMeth isTup FtIdx (eVar 0) (aCons (eVar 1) aNil)) (eMeth isTup FtIdx (eVar 0) (aCons (eVar 2) aNil))))
def F_stands_ahead : FD := fnP 3 3 S_stands_ahead
abbrev P_stands_ahead : List Str := ["order", "one", "other"]
theorem ok_stands_ahead {f : Addr} {fd : FuncData} (Fd : FnT K "stands_ahead" s_stands_ahead f fd) : FnG P w K mg base noXR 1 f fd P_stands_ahead F_stands_ahead := by
  exact fnG_pure Fd sc_stands_ahead rfl rfl fun cdv A outer s H E hr hG => (ds_one (ds_ret (d_lt (d_tidx (d_pv 0 (pv 0)) (da_cons (d_pv 1 (pv 1)) da_nil)) (d_tidx (d_pv 0 (pv 0)) (da_cons (d_pv 2 (pv 2)) da_nil)))))
theorem kn_stands_ahead {f : Addr} {fd : FuncData} (Fd : FnT K "stands_ahead" s_stands_ahead f fd) (g : mg "stands_ahead" = some (.ref f)) : Kn P w K mg base 1 "stands_ahead" P_stands_ahead F_stands_ahead :=
  ⟨⟨f, fd, ok_stands_ahead Fd, g, Fd.kp, FunD.bindsN Fd (fun _ _ _ _ _ _ us hl => match us, hl with | [_, _, _], _ => rfl), fnP_len⟩⟩
/-! #### meets -/
abbrev s_meets : Stmt := topS 25
abbrev N_meets : List Str := ["span", "gap", "width", "low", "high"]
theorem sc_meets : FnScope N_meets ["span", "gap", "width"] (defScope s_meets) := ⟨rfl, rfl, rfl, by decide +kernel, rfl, by decide +kernel, by decide +kernel⟩
def S_meets : SF := (sSeq (sUnp [3, 4] (eVar 0)) (sSeq (sIf (bAnd (bOf (e2 Flt (eVar 1) (eVar 2))) (bAnd (bOf (e2 (Fis true) (eVar 3) (eC .non))) (bOf (e2 Fgt (eVar 3) (eVar 1))))) (sRet (eC (.bl false))) sNil) (sRet (vOr (e2 (Feq false) (eVar 1) (e1 Fneg (eVar 2))) (vOr (e2 (Fis false) (eVar 4) (eC .non)) (e2 Fge (eVar 4) (eVar 1)))))))
def F_meets : FD := fnP 5 3 S_meets
abbrev P_meets : List Str := ["span", "gap", "width"]
theorem ok_meets {f : Addr} {fd : FuncData} (Fd : FnT K "meets" s_meets f fd) : FnG P w K mg base noXR 1 f fd P_meets F_meets := by
  exact fnG_pure Fd sc_meets rfl rfl fun cdv A outer s H E hr hG => (ds_cons (ds_unp (own := [3, 4]) (d_pv 0 (pv 0)) (pg_tup rfl (pgs_cons (pg_name (i := 3) sc_meets.nd rfl (.inl rfl)) (pgs_cons (pg_name (i := 4) sc_meets.nd rfl (.inl rfl)) pgs_nil))) (tg_tup (is := [3, 4]) rfl (by decide))) (ds_cons (ds_if (PW.pt (dw_and (dt_lt (d_pv 1 (pv 1)) (d_pv 2 (pv 2))) (dw_and (dt_isnot (d_pv 3 (pv 3)) d_non) (dw_and1 (dt_gt (d_pv 3 (pv 3)) (d_pv 1 (pv 1))))))) (ds_one (ds_ret d_bl)) ds_nil) (ds_one (ds_ret (d_or (d_eq hr (d_pv 1 (pv 1)) (d_neg (d_pv 2 (pv 2)))) (d_or (d_is (d_pv 4 (pv 4)) d_non) (d_one (d_ge (d_pv 4 (pv 4)) (d_pv 1 (pv 1))))))))))
theorem kn_meets {f : Addr} {fd : FuncData} (Fd : FnT K "meets" s_meets f fd) (g : mg "meets" = some (.ref f)) : Kn P w K mg base 1 "meets" P_meets F_meets :=
  ⟨⟨f, fd, ok_meets Fd, g, Fd.kp, FunD.bindsN Fd (fun _ _ _ _ _ _ us hl => match us, hl with | [_, _, _], _ => rfl), fnP_len⟩⟩
/-! #### _law_pot -/
abbrev s__law_pot : Stmt := topS 28
abbrev N__law_pot : List Str := ["_law_script", "_law_k", "_law_cell", "_law_digits"]
theorem sc__law_pot : FnScope N__law_pot ["_law_script", "_law_k"] (defScope s__law_pot) := ⟨rfl, rfl, rfl, by decide +kernel, rfl, by decide +kernel, by decide +kernel⟩
def S__law_pot : SF := (sSeq (sAsg 2 (eIf (bOf (e2 Flt (eVar 1) (eCallB Flen (aCons (eVar 0) aNil)))) (e2 Fix (eVar 0) (eVar 1)) (e2 Fadd (e2 Fmul (eC (.int 7)) (eVar 1)) (eC (.int 5))))) (sSeq (sAsg 3 (e2 Fmul (e2 Fmod (eCallB Fabs (aCons (eVar 2) aNil)) (e2 Fmul (e2 Fmul (e2 Fpow (eC (.int 10)) (eC (.int 60))) (e2 Fpow (eC (.int 10)) (eC (.int 60)))) (e2 Fpow (eC (.int 10)) (eC (.int 60))))) (eCallB Fint (aCons (e2 Fge (eCallB Fabs (aCons (eVar 2) aNil)) (e2 Fpow (eC (.int 10)) (eC (.int 18)))) aNil)))) (sRet (eCel (aCons (eVar 3) (aCons (e2 Fmod (e2 Fadd (e2 Fadd (e2 Fmul (e2 Fmod (eVar 2) (eC (.int 2305843009213693951))) (eC (.int 1000003))) (e2 Fmul (eC (.int 104729)) (eVar 1))) (eC (.int 71))) (eC (.int 2305843009213693921))) (aCons (eC (.int 0)) aNil)))))))
def F__law_pot : FD := fnP 4 2 S__law_pot
abbrev P__law_pot : List Str := ["_law_script", "_law_k"]
theorem ok__law_pot {f : Addr} {fd : FuncData} (Fd : FnT K "_law_pot" s__law_pot f fd) (m_abs : mg "abs" = none) (m_int : mg "int" = none) (m_len : mg "len" = none) : FnG P w K mg base noXR 1 f fd P__law_pot F__law_pot := by
  exact fnG_pure Fd sc__law_pot rfl rfl fun cdv A outer s H E hr hG => (ds_cons (ds_set (i := 2) sc__law_pot.nd rfl (.inl rfl) (d_ifexp (dt_lt (d_pv 1 (pv 1)) (d_cb call_len lift_len (by rfl) m_len (by decide +kernel) (da_cons (d_pv 0 (pv 0)) da_nil))) (d_ix (d_pv 0 (pv 0)) (d_pv 1 (pv 1)) (fun _ _ => rfl)) (d_add (d_mul d_int (d_pv 1 (pv 1))) d_int))) (ds_cons (ds_set (i := 3) sc__law_pot.nd rfl (.inl rfl) (d_mul (d_mod (d_cb call_abs lift_abs (by rfl) m_abs (by decide +kernel) (da_cons (d_pv 2 (pv 2)) da_nil)) (d_mul (d_mul (d_pow d_int d_int) (d_pow d_int d_int)) (d_pow d_int d_int))) (d_ct call_int1 lift_int (by rfl) m_int (by decide +kernel) (da_cons (d_ge (d_cb call_abs lift_abs (by rfl) m_abs (by decide +kernel) (da_cons (d_pv 2 (pv 2)) da_nil)) (d_pow d_int d_int)) da_nil)))) (ds_one (ds_ret (d_cel (da_cons (d_pv 3 (pv 3)) (da_cons (d_mod (d_add (d_add (d_mul (d_mod (d_pv 2 (pv 2)) d_int) d_int) (d_mul d_int (d_pv 1 (pv 1)))) d_int) d_int) (da_cons d_int da_nil))))))))
theorem kn__law_pot {f : Addr} {fd : FuncData} (Fd : FnT K "_law_pot" s__law_pot f fd) (g : mg "_law_pot" = some (.ref f)) (m_abs : mg "abs" = none) (m_int : mg "int" = none) (m_len : mg "len" = none) : Kn P w K mg base 1 "_law_pot" P__law_pot F__law_pot :=
  ⟨⟨f, fd, ok__law_pot Fd m_abs m_int m_len, g, Fd.kp, FunD.bindsN Fd (fun _ _ _ _ _ _ us hl => match us, hl with | [_, _], _ => rfl), fnP_len⟩⟩
/-! #### _law_take -/
abbrev s__law_take : Stmt := topS 29
abbrev N__law_take : List Str := ["_law_pot_here", "_law_many", "_law_digit", "_law_prime", "_law_mixed"]
theorem sc__law_take : FnScope N__law_take ["_law_pot_here", "_law_many"] (defScope s__law_take) := ⟨rfl, rfl, rfl, by decide +kernel, rfl, by decide +kernel, by decide +kernel⟩
def S__law_take : SF := (sSeq (sIf (bOf (e2 Fgt (e2 Fix (eVar 0) (eC (.int 0))) (eC (.int 0)))) (sSeq (sAsg 2 (e2 Fmod (e2 Fix (eVar 0) (eC (.int 0))) (eVar 1))) (sSeq (sPut (eVar 0) (eC (.int 0)) (e2 Fdiv (e2 Fix (eVar 0) (eC (.int 0))) (eVar 1))) (sRet (eVar 2)))) sNil) (sSeq (sPut (eVar 0) (eC (.int 2)) (e2 Fadd (e2 Fix (eVar 0) (eC (.int 2))) (eC (.int 1)))) (sSeq (sAsg 3 (e2 Fix (eLst (aCons (eC (.int 2305843009213693951)) (aCons (eC (.int 2305843009213693921)) (aCons (eC (.int 2305843009213693907)) (aCons (eC (.int 2305843009213693723)) aNil))))) (e2 Fmod (e2 Fix (eVar 0) (eC (.int 2))) (eC (.int 4))))) (sSeq (sAsg 4 (e2 Fmod (e2 Fpow (e2 Fadd (e2 Fadd (e2 Fix (eVar 0) (eC (.int 1))) (e2 Fmul (e2 Fmul (eC (.int 15485863)) (e2 Fix (eVar 0) (eC (.int 2)))) (e2 Fix (eVar 0) (eC (.int 2))))) (eC (.int 7))) (eC (.int 3))) (eVar 3))) (sRet (e2 Fmod (e2 Fdiv (e2 Fmod (e2 Fmul (eVar 4) (e2 Fadd (e2 Fmod (eVar 4) (eC (.int 1000003))) (e2 Fix (eVar 0) (eC (.int 2))))) (eVar 3)) (eC (.int 4099))) (eVar 1)))))))
def F__law_take : FD := fnP 5 2 S__law_take
abbrev P__law_take : List Str := ["_law_pot_here", "_law_many"]
theorem ok__law_take {f : Addr} {fd : FuncData} (Fd : FnT K "_law_take" s__law_take f fd) : FnG P w K mg base noXR 1 f fd P__law_take F__law_take := by
  exact fnG_pure Fd sc__law_take rfl rfl fun cdv A outer s H E hr hG => (ds_cons (ds_if (dt_gt (d_ix (d_pv 0 (pv 0)) d_int (fun _ _ => rfl)) d_int) (ds_cons (ds_set (i := 2) sc__law_take.nd rfl (.inl rfl) (d_mod (d_ix (d_pv 0 (pv 0)) d_int (fun _ _ => rfl)) (d_pv 1 (pv 1)))) (ds_cons (ds_put (d_div (d_ix (d_pv 0 (pv 0)) d_int (fun _ _ => rfl)) (d_pv 1 (pv 1))) (d_pv 0 (pv 0)) d_int (pg_sub (d_pv 0 (pv 0)) d_int set_list)) (ds_one (ds_ret (d_pv 2 (pv 2)))))) ds_nil) (ds_cons (ds_put (d_add (d_ix (d_pv 0 (pv 0)) d_int (fun _ _ => rfl)) d_int) (d_pv 0 (pv 0)) d_int (pg_sub (d_pv 0 (pv 0)) d_int set_list)) (ds_cons (ds_set (i := 3) sc__law_take.nd rfl (.inl rfl) (d_ix (d_lst (da_cons d_int (da_cons d_int (da_cons d_int (da_cons d_int da_nil))))) (d_mod (d_ix (d_pv 0 (pv 0)) d_int (fun _ _ => rfl)) d_int) (fun _ _ => rfl))) (ds_cons (ds_set (i := 4) sc__law_take.nd rfl (.inl rfl) (d_mod (d_pow (d_add (d_add (d_ix (d_pv 0 (pv 0)) d_int (fun _ _ => rfl)) (d_mul (d_mul d_int (d_ix (d_pv 0 (pv 0)) d_int (fun _ _ => rfl))) (d_ix (d_pv 0 (pv 0)) d_int (fun _ _ => rfl)))) d_int) d_int) (d_pv 3 (pv 3)))) (ds_one (ds_ret (d_mod (d_div (d_mod (d_mul (d_pv 4 (pv 4)) (d_add (d_mod (d_pv 4 (pv 4)) d_int) (d_ix (d_pv 0 (pv 0)) d_int (fun _ _ => rfl)))) (d_pv 3 (pv 3))) d_int) (d_pv 1 (pv 1)))))))))
theorem kn__law_take {f : Addr} {fd : FuncData} (Fd : FnT K "_law_take" s__law_take f fd) (g : mg "_law_take" = some (.ref f)) : Kn P w K mg base 1 "_law_take" P__law_take F__law_take :=
  ⟨⟨f, fd, ok__law_take Fd, g, Fd.kp, FunD.bindsN Fd (fun _ _ _ _ _ _ us hl => match us, hl with | [_, _], _ => rfl), fnP_len⟩⟩
/-! #### _law_orders -/
abbrev s__law_orders : Stmt := topS 31
abbrev N__law_orders : List Str := ["_law_steps", "_law_found", "_law_one", "_law_other", "_law_last"]
theorem sc__law_orders : FnScope N__law_orders [] (defScope s__law_orders) := ⟨rfl, rfl, rfl, by decide +kernel, rfl, by decide +kernel, by decide +kernel⟩
def B__law_orders_2 : SF := (sDrop (eMeth isList Fext (eVar 1) (aCons (eSeal (eLC (iAny (eVar 0)) (fName 4) (bAnd (bOf (e2 (Feq true) (eVar 2) (eVar 3))) (bOf (e2 (Fin true) (eVar 4) (eTup (aCons (eVar 2) (aCons (eVar 3) aNil)))))) (eTup (aCons (eVar 2) (aCons (eVar 3) (aCons (eVar 4) aNil)))) [4])) aNil)))
def B__law_orders_1 : SF := (sFor (iAny (eVar 0)) (fName 3) B__law_orders_2)
def S__law_orders : SF := (sSeq (sPar2 0 1 (aCons (eTup (aCons (eC (.str "note")) (aCons (eC (.str "read")) (aCons (eC (.str "stat")) aNil)))) (aCons (eCel aNil) aNil))) (sSeq (sFor (iAny (eVar 0)) (fName 2) B__law_orders_1) (sRet (eVar 1))))
def F__law_orders : FD := fnSeal (fnP 5 0 S__law_orders)
abbrev P__law_orders : List Str := []
theorem ok__law_orders {f : Addr} {fd : FuncData} (Fd : FnT K "_law_orders" s__law_orders f fd) : FnG P w K mg base noXR 1 f fd P__law_orders F__law_orders := by
  exact FnG.seal (fnG_pure Fd sc__law_orders rfl rfl fun cdv A outer s H E hr hG => (ds_cons (ds_par2 (i := 0) (j := 1) rfl sc__law_orders.nd rfl rfl (by decide) rfl rfl (da_cons (d_tup (da_cons d_str (da_cons d_str (da_cons d_str da_nil)))) (da_cons (d_cel da_nil) da_nil)) (by rfl)) (ds_cons (ds_for (own := [2]) PassesOwn.never rfl (di_any (d_pv 0 (pv 0))) (pg_name (i := 2) sc__law_orders.nd rfl (.inr rfl)) (tg_name (by decide)) (ds_one (ds_for (own := [3]) PassesOwn.never rfl (di_any (d_pv 0 (pv 0))) (pg_name (i := 3) sc__law_orders.nd rfl (.inr rfl)) (tg_name (by decide)) (ds_one (ds_expr (d_ext (d_pv 1 (pv 1)) (da_cons (d_seal (d_lc (own := [("_law_last", 4)]) rfl sc__law_orders.nd (di_any (d_pv 0 (pv 0))) (blkOk_by (N := N__law_orders) (sc := defScope s__law_orders) (own := [("_law_last", 4)]) (by decide +kernel)) (fun _ _ _ _ _ => (pg_name (i := 4) sc__law_orders.nd rfl (.inl rfl))) (tg_name (by decide)) (fun _ _ _ _ _ => (dts_one (PW.pt (dw_and (dt_ne hr (d_pv 2 (pv 2)) (d_pv 3 (pv 3))) (dw_and1 (dt_notin hr (d_pv 4 (pv 4)) (d_tup (da_cons (d_pv 2 (pv 2)) (da_cons (d_pv 3 (pv 3)) da_nil))))))))) (fun _ _ _ _ _ => (d_tup (da_cons (d_pv 2 (pv 2)) (da_cons (d_pv 3 (pv 3)) (da_cons (d_pv 4 (pv 4)) da_nil))))))) da_nil))))))) (ds_one (ds_ret (d_pv 1 (pv 1)))))))
theorem kn__law_orders {f : Addr} {fd : FuncData} (Fd : FnT K "_law_orders" s__law_orders f fd) (g : mg "_law_orders" = some (.ref f)) : Kn P w K mg base 1 "_law_orders" P__law_orders F__law_orders :=
  ⟨⟨f, fd, ok__law_orders Fd, g, Fd.kp, FunD.bindsN Fd (fun _ _ _ _ _ _ us hl => match us, hl with | [], _ => rfl), fnSeal_len fnP_len⟩⟩
/-! #### _law_is_free -/
abbrev s__law_is_free : Stmt := topS 33
abbrev N__law_is_free : List Str := ["_law_word", "_law_kind"]
theorem sc__law_is_free : FnScope N__law_is_free ["_law_word", "_law_kind"] (defScope s__law_is_free) := ⟨rfl, rfl, rfl, by decide +kernel, rfl, by decide +kernel, by decide +kernel⟩
def S__law_is_free : SF := (sRet (vAnd (e2 (Feq false) (eVar 1) (eC (.str "write"))) (e2 (Fin false) (eVar 0) (eTup (aCons (eC (.str "copy")) (aCons (eC (.str "copyresize")) (aCons (eC (.str "touch")) aNil)))))))
def F__law_is_free : FD := fnP 2 2 S__law_is_free
abbrev P__law_is_free : List Str := ["_law_word", "_law_kind"]
theorem ok__law_is_free {f : Addr} {fd : FuncData} (Fd : FnT K "_law_is_free" s__law_is_free f fd) : FnG P w K mg base noXR 1 f fd P__law_is_free F__law_is_free := by
  exact fnG_pure Fd sc__law_is_free rfl rfl fun cdv A outer s H E hr hG => (ds_one (ds_ret (d_and (d_eq hr (d_pv 1 (pv 1)) d_str) (d_one (d_in hr (d_pv 0 (pv 0)) (d_tup (da_cons d_str (da_cons d_str (da_cons d_str da_nil)))))))))
theorem kn__law_is_free {f : Addr} {fd : FuncData} (Fd : FnT K "_law_is_free" s__law_is_free f fd) (g : mg "_law_is_free" = some (.ref f)) : Kn P w K mg base 1 "_law_is_free" P__law_is_free F__law_is_free :=
  ⟨⟨f, fd, ok__law_is_free Fd, g, Fd.kp, FunD.bindsN Fd (fun _ _ _ _ _ _ us hl => match us, hl with | [_, _], _ => rfl), fnP_len⟩⟩
/-! #### _law_cut -/
abbrev s__law_cut : Stmt := topS 35
abbrev N__law_cut : List Str := ["_law_gap", "_law_wide"]
theorem sc__law_cut : FnScope N__law_cut ["_law_gap", "_law_wide"] (defScope s__law_cut) := ⟨rfl, rfl, rfl, by decide +kernel, rfl, by decide +kernel, by decide +kernel⟩
def S__law_cut : SF := (sRet (eCallB Fmax (aCons (e2 Fsub (eC (.int 0)) (eVar 1)) (aCons (eCallB Fmin (aCons (eVar 1) (aCons (eVar 0) aNil))) aNil))))
def F__law_cut : FD := fnP 2 2 S__law_cut
abbrev P__law_cut : List Str := ["_law_gap", "_law_wide"]
theorem ok__law_cut {f : Addr} {fd : FuncData} (Fd : FnT K "_law_cut" s__law_cut f fd) (m_max : mg "max" = none) (m_min : mg "min" = none) : FnG P w K mg base noXR 1 f fd P__law_cut F__law_cut := by
  exact fnG_pure Fd sc__law_cut rfl rfl fun cdv A outer s H E hr hG => (ds_one (ds_ret (d_cb (call_max2 rfl) lift_max (by rfl) m_max (by decide +kernel) (da_cons (d_sub d_int (d_pv 1 (pv 1))) (da_cons (d_cb (call_min2 rfl) lift_min (by rfl) m_min (by decide +kernel) (da_cons (d_pv 1 (pv 1)) (da_cons (d_pv 0 (pv 0)) da_nil))) da_nil)))))
theorem kn__law_cut {f : Addr} {fd : FuncData} (Fd : FnT K "_law_cut" s__law_cut f fd) (g : mg "_law_cut" = some (.ref f)) (m_max : mg "max" = none) (m_min : mg "min" = none) : Kn P w K mg base 1 "_law_cut" P__law_cut F__law_cut :=
  ⟨⟨f, fd, ok__law_cut Fd m_max m_min, g, Fd.kp, FunD.bindsN Fd (fun _ _ _ _ _ _ us hl => match us, hl with | [_, _], _ => rfl), fnP_len⟩⟩
/-! #### is_bounded -/
abbrev s_is_bounded : Stmt := topS 23
abbrev N_is_bounded : List Str := ["order", "relation", "size"]
theorem sc_is_bounded : FnScope N_is_bounded ["order", "relation", "size"] (defScope s_is_bounded) := ⟨rfl, rfl, rfl, by decide +kernel, rfl, by decide +kernel, by decide +kernel⟩
def S_is_bounded : SF := (sSeq (sIf (bTru (eCall F_stands_ahead (aCons (eVar 0) (aCons (eC (.str "note")) (aCons (eC (.str "read")) aNil))) [])) (sRet (eC (.bl true))) sNil) (sRet (vAnd (eCall F_stands_ahead (aCons (eVar 0) (aCons (eC (.str "note")) (aCons (eC (.str "stat")) aNil))) []) (e2 (Feq true) (eTup (aCons (eVar 1) (aCons (eVar 2) aNil))) (eTup (aCons (eC (.str "same")) (aCons (eC (.str "same")) aNil)))))))
def F_is_bounded : FD := fnP 3 3 S_is_bounded
abbrev P_is_bounded : List Str := ["order", "relation", "size"]
theorem ok_is_bounded {f : Addr} {fd : FuncData} (Fd : FnT K "is_bounded" s_is_bounded f fd) (n_stands_ahead : Kn P w K mg base 1 "stands_ahead" P_stands_ahead F_stands_ahead) (c_NOTE : Cst K mg "NOTE" (.str "note")) (c_READ : Cst K mg "READ" (.str "read")) (c_SAME : Cst K mg "SAME" (.str "same")) (c_STAT : Cst K mg "STAT" (.str "stat")) : FnG P w K mg base noXR 2 f fd P_is_bounded F_is_bounded := by
  exact fnG_pure Fd sc_is_bounded rfl rfl fun cdv A outer s H E hr hG => (ds_cons (ds_if (dt_tru (d_fn n_stands_ahead hr (by decide) hG (by rfl) (da_cons (d_pv 0 (pv 0)) (da_cons (d_cst (by rfl) c_NOTE) (da_cons (d_cst (by rfl) c_READ) da_nil))) nx_no) (by intro _; rfl)) (ds_one (ds_ret d_bl)) ds_nil) (ds_one (ds_ret (d_and (d_fn n_stands_ahead hr (by decide) hG (by rfl) (da_cons (d_pv 0 (pv 0)) (da_cons (d_cst (by rfl) c_NOTE) (da_cons (d_cst (by rfl) c_STAT) da_nil))) nx_no) (d_one (d_ne hr (d_tup (da_cons (d_pv 1 (pv 1)) (da_cons (d_pv 2 (pv 2)) da_nil))) (d_tup (da_cons (d_cst (by rfl) c_SAME) (da_cons (d_cst (by rfl) c_SAME) da_nil)))))))))
theorem kn_is_bounded {f : Addr} {fd : FuncData} (Fd : FnT K "is_bounded" s_is_bounded f fd) (g : mg "is_bounded" = some (.ref f)) (n_stands_ahead : Kn P w K mg base 1 "stands_ahead" P_stands_ahead F_stands_ahead) (c_NOTE : Cst K mg "NOTE" (.str "note")) (c_READ : Cst K mg "READ" (.str "read")) (c_SAME : Cst K mg "SAME" (.str "same")) (c_STAT : Cst K mg "STAT" (.str "stat")) : Kn P w K mg base 2 "is_bounded" P_is_bounded F_is_bounded :=
  ⟨⟨f, fd, ok_is_bounded Fd n_stands_ahead c_NOTE c_READ c_SAME c_STAT, g, Fd.kp, FunD.bindsN Fd (fun _ _ _ _ _ _ us hl => match us, hl with | [_, _, _], _ => rfl), fnP_len⟩⟩
/-! #### _law_of -/
abbrev s__law_of : Stmt := topS 30
abbrev N__law_of : List Str := ["_law_pot_here", "_law_some"]
theorem sc__law_of : FnScope N__law_of ["_law_pot_here", "_law_some"] (defScope s__law_of) := ⟨rfl, rfl, rfl, by decide +kernel, rfl, by decide +kernel, by decide +kernel⟩
def S__law_of : SF := (sRet (e2 Fix (eVar 1) (eCall F__law_take (aCons (eVar 0) (aCons (eCallB Flen (aCons (eVar 1) aNil)) aNil)) [])))
def F__law_of : FD := fnP 2 2 S__law_of
abbrev P__law_of : List Str := ["_law_pot_here", "_law_some"]
theorem ok__law_of {f : Addr} {fd : FuncData} (Fd : FnT K "_law_of" s__law_of f fd) (n__law_take : Kn P w K mg base 1 "_law_take" P__law_take F__law_take) (m_len : mg "len" = none) : FnG P w K mg base noXR 2 f fd P__law_of F__law_of := by
  exact fnG_pure Fd sc__law_of rfl rfl fun cdv A outer s H E hr hG => (ds_one (ds_ret (d_ix (d_pv 1 (pv 1)) (d_fn n__law_take hr (by decide) hG (by rfl) (da_cons (d_pv 0 (pv 0)) (da_cons (d_cb call_len lift_len (by rfl) m_len (by decide +kernel) (da_cons (d_pv 1 (pv 1)) da_nil)) da_nil)) nx_no) (fun _ _ => rfl))))
theorem kn__law_of {f : Addr} {fd : FuncData} (Fd : FnT K "_law_of" s__law_of f fd) (g : mg "_law_of" = some (.ref f)) (n__law_take : Kn P w K mg base 1 "_law_take" P__law_take F__law_take) (m_len : mg "len" = none) : Kn P w K mg base 2 "_law_of" P__law_of F__law_of :=
  ⟨⟨f, fd, ok__law_of Fd n__law_take m_len, g, Fd.kp, FunD.bindsN Fd (fun _ _ _ _ _ _ us hl => match us, hl with | [_, _], _ => rfl), fnP_len⟩⟩
/-! #### _law_range -/
abbrev s__law_range : Stmt := topS 34
abbrev N__law_range : List Str := ["_law_here", "_law_order", "_law_kind", "_law_relation", "_law_size", "_law_words", "_law_most", "_law_low", "_law_name", "_law_word"]
theorem sc__law_range : FnScope N__law_range ["_law_here", "_law_order", "_law_kind", "_law_relation", "_law_size"] (defScope s__law_range) := ⟨rfl, rfl, rfl, by decide +kernel, rfl, by decide +kernel, by decide +kernel⟩
def S__law_range : SF := (sSeq (sUnp [5, 6] (eVar 0)) (sSeq (sIf (bNot (bTru (eCallB Fany (aCons (eSeal (eLC (iAny (eVar 5)) (fName 9) bYes (e2 (Feq true) (eVar 9) (eC (.str "touch"))) [9])) aNil)))) (sRet (eC .non)) sNil) (sSeq (sIf (bAnd (bOf (e2 (Feq false) (eVar 4) (eC (.str "other")))) (bAnd (bOf (e2 (Fin true) (eC (.str "resize")) (eVar 5))) (bOf (e2 (Fin true) (eC (.str "copyresize")) (eVar 5))))) (sRet (eC .non)) sNil) (sSeq (sPar2 7 8 (aCons (e2 Fsub (eC (.int 0)) (eVar 6)) (aCons (e2 Fadd (e2 Fadd (e2 Fix (e2 Fix (eVar 1) (eC (.int 0))) (eC (.int 0))) (e2 Fix (e2 Fix (eVar 1) (eC (.int 1))) (eC (.int 0)))) (e2 Fix (e2 Fix (eVar 1) (eC (.int 2))) (eC (.int 0)))) aNil))) (sSeq (sIf (bOf (e2 (Fin false) (eVar 8) (eTup (aCons (eC (.str "nsr")) (aCons (eC (.str "nrs")) (aCons (eC (.str "rns")) aNil)))))) (sAsg 7 (e1 Fneg (eC (.int 99)))) sNil) (sSeq (sIf (bOr (bOf (e2 (Feq false) (eVar 3) (eC (.str "more")))) (bTru (eCallB Fany (aCons (eSeal (eLC (iAny (eVar 5)) (fName 9) bYes (eCall F__law_is_free (aCons (eVar 9) (aCons (eVar 2) aNil)) []) [9])) aNil)))) (sRet (eTup (aCons (eVar 7) (aCons (eC (.int 99)) aNil)))) sNil) (sSeq (sIf (bAnd (bOf (e2 (Feq false) (eVar 3) (eC (.str "less")))) (bOf (e2 (Feq false) (eVar 6) (eC (.int 0))))) (sRet (eC .non)) sNil) (sSeq (sIf (bOr (bOf (e2 (Fin false) (eVar 8) (eTup (aCons (eC (.str "srn")) (aCons (eC (.str "rsn")) aNil))))) (bAnd (bOf (e2 (Feq false) (eVar 8) (eC (.str "rns")))) (bAnd (bOf (e2 (Feq false) (eVar 3) (eC (.str "same")))) (bOf (e2 (Feq false) (eVar 4) (eC (.str "same"))))))) (sRet (eTup (aCons (eVar 7) (aCons (eC (.int 99)) aNil)))) sNil) (sRet (eTup (aCons (eVar 7) (aCons (e2 Fsub (eVar 6) (eCallB Fint (aCons (e2 (Feq false) (eVar 3) (eC (.str "less"))) aNil))) aNil))))))))))))
def F__law_range : FD := fnP 10 5 S__law_range
abbrev P__law_range : List Str := ["_law_here", "_law_order", "_law_kind", "_law_relation", "_law_size"]
theorem ok__law_range {f : Addr} {fd : FuncData} (Fd : FnT K "_law_range" s__law_range f fd) (n__law_is_free : Kn P w K mg base 1 "_law_is_free" P__law_is_free F__law_is_free) (m_any : mg "any" = none) (m_int : mg "int" = none) : FnG P w K mg base noXR 2 f fd P__law_range F__law_range := by
  exact fnG_pure Fd sc__law_range rfl rfl fun cdv A outer s H E hr hG => (ds_cons (ds_unp (own := [5, 6]) (d_pv 0 (pv 0)) (pg_tup rfl (pgs_cons (pg_name (i := 5) sc__law_range.nd rfl (.inl rfl)) (pgs_cons (pg_name (i := 6) sc__law_range.nd rfl (.inl rfl)) pgs_nil))) (tg_tup (is := [5, 6]) rfl (by decide))) (ds_cons (ds_if (dt_not (dt_tru (d_cb (cr_any rfl) lift_any (by rfl) m_any (by decide +kernel) (da_cons (d_seal (d_lc (own := [("_law_word", 9)]) rfl sc__law_range.nd (di_any (d_pv 5 (pv 5))) (blkOk_by (N := N__law_range) (sc := defScope s__law_range) (own := [("_law_word", 9)]) (by decide +kernel)) (fun _ _ _ _ _ => (pg_name (i := 9) sc__law_range.nd rfl (.inl rfl))) (tg_name (by decide)) (fun _ _ _ _ _ => dts_nil) (fun _ _ _ _ _ => (d_ne hr (d_pv 9 (pv 9)) d_str)))) da_nil)) (by intro _; rfl))) (ds_one (ds_ret d_non)) ds_nil) (ds_cons (ds_if (PW.pt (dw_and (dt_eq hr (d_pv 4 (pv 4)) d_str) (dw_and (dt_notin hr d_str (d_pv 5 (pv 5))) (dw_and1 (dt_notin hr d_str (d_pv 5 (pv 5))))))) (ds_one (ds_ret d_non)) ds_nil) (ds_cons (ds_par2 (i := 7) (j := 8) rfl sc__law_range.nd rfl rfl (by decide) rfl rfl (da_cons (d_sub d_int (d_pv 6 (pv 6))) (da_cons (d_add (d_add (d_ix (d_ix (d_pv 1 (pv 1)) d_int (fun _ _ => rfl)) d_int (fun _ _ => rfl)) (d_ix (d_ix (d_pv 1 (pv 1)) d_int (fun _ _ => rfl)) d_int (fun _ _ => rfl))) (d_ix (d_ix (d_pv 1 (pv 1)) d_int (fun _ _ => rfl)) d_int (fun _ _ => rfl))) da_nil)) (by rfl)) (ds_cons (ds_if (dt_in hr (d_pv 8 (pv 8)) (d_tup (da_cons d_str (da_cons d_str (da_cons d_str da_nil))))) (ds_one (ds_set (i := 7) sc__law_range.nd rfl (.inl rfl) (d_neg d_int))) ds_nil) (ds_cons (ds_if (PW.pt (dw_or (dt_eq hr (d_pv 3 (pv 3)) d_str) (dw_or1 (dt_tru (d_cb (cr_any rfl) lift_any (by rfl) m_any (by decide +kernel) (da_cons (d_seal (d_lc (own := [("_law_word", 9)]) rfl sc__law_range.nd (di_any (d_pv 5 (pv 5))) (blkOk_by (N := N__law_range) (sc := defScope s__law_range) (own := [("_law_word", 9)]) (by decide +kernel)) (fun _ _ _ _ _ => (pg_name (i := 9) sc__law_range.nd rfl (.inl rfl))) (tg_name (by decide)) (fun _ _ _ _ _ => dts_nil) (fun _ _ _ _ _ => (d_fn n__law_is_free hr (by decide) hG (by rfl) (da_cons (d_pv 9 (pv 9)) (da_cons (d_pv 2 (pv 2)) da_nil)) nx_no)))) da_nil)) (by intro _; rfl))))) (ds_one (ds_ret (d_tup (da_cons (d_pv 7 (pv 7)) (da_cons d_int da_nil))))) ds_nil) (ds_cons (ds_if (PW.pt (dw_and (dt_eq hr (d_pv 3 (pv 3)) d_str) (dw_and1 (dt_eq hr (d_pv 6 (pv 6)) d_int)))) (ds_one (ds_ret d_non)) ds_nil) (ds_cons (ds_if (PW.pt (dw_or (dt_in hr (d_pv 8 (pv 8)) (d_tup (da_cons d_str (da_cons d_str da_nil)))) (dw_or1 (PW.pt (dw_and (dt_eq hr (d_pv 8 (pv 8)) d_str) (dw_and (dt_eq hr (d_pv 3 (pv 3)) d_str) (dw_and1 (dt_eq hr (d_pv 4 (pv 4)) d_str)))))))) (ds_one (ds_ret (d_tup (da_cons (d_pv 7 (pv 7)) (da_cons d_int da_nil))))) ds_nil) (ds_one (ds_ret (d_tup (da_cons (d_pv 7 (pv 7)) (da_cons (d_sub (d_pv 6 (pv 6)) (d_ct call_int1 lift_int (by rfl) m_int (by decide +kernel) (da_cons (d_eq hr (d_pv 3 (pv 3)) d_str) da_nil))) da_nil)))))))))))))
theorem kn__law_range {f : Addr} {fd : FuncData} (Fd : FnT K "_law_range" s__law_range f fd) (g : mg "_law_range" = some (.ref f)) (n__law_is_free : Kn P w K mg base 1 "_law_is_free" P__law_is_free F__law_is_free) (m_any : mg "any" = none) (m_int : mg "int" = none) : Kn P w K mg base 2 "_law_range" P__law_range F__law_range :=
  ⟨⟨f, fd, ok__law_range Fd n__law_is_free m_any m_int, g, Fd.kp, FunD.bindsN Fd (fun _ _ _ _ _ _ us hl => match us, hl with | [_, _, _, _, _], _ => rfl), fnP_len⟩⟩
/-! #### bad_range -/
abbrev s_bad_range : Stmt := topS 24
abbrev N_bad_range : List Str := ["world", "order", "kind", "relation", "size", "back", "low", "most"]
theorem sc_bad_range : FnScope N_bad_range ["world", "order", "kind", "relation", "size"] (defScope s_bad_range) := ⟨rfl, rfl, rfl, by decide +kernel, rfl, by decide +kernel, by decide +kernel⟩
def S_bad_range : SF := (sSeq (sAsg 5 (e2 Fix (eVar 0) (eC (.int 1)))) (sSeq (sIf (bOr (bNot (bTru (eCall F_changes (aCons (eVar 0) aNil) []))) (bAnd (bOf (e2 (Feq false) (eVar 4) (eC (.str "other")))) (bNot (bTru (eCall F_has_any (aCons (eVar 0) (aCons (eC (.tup [(.str "copyresize"), (.str "resize")])) aNil)) []))))) (sRet (eC .non)) sNil) (sSeq (sAsg 6 (eIf (bTru (eCall F_stands_ahead (aCons (eVar 1) (aCons (eC (.str "note")) (aCons (eC (.str "stat")) aNil))) [])) (eC .non) (e1 Fneg (eVar 5)))) (sSeq (sIf (bOr (bOf (e2 (Feq false) (eVar 3) (eC (.str "more")))) (bAnd (bOf (e2 (Feq false) (eVar 2) (eC (.str "write")))) (bTru (eCall F_has_any (aCons (eVar 0) (aCons (eC (.tup [(.str "copy"), (.str "copyresize"), (.str "touch")])) aNil)) [])))) (sRet (eTup (aCons (eVar 6) (aCons (eC .non) aNil)))) sNil) (sSeq (sAsg 7 (e2 Fsub (eVar 5) (eCallB Fint (aCons (e2 (Feq false) (eVar 3) (eC (.str "less"))) aNil)))) (sSeq (sIf (bOf (e2 Flt (eVar 7) (eC (.int 0)))) (sRet (eC .non)) sNil) (sRet (eTup (aCons (eVar 6) (aCons (eIf (bTru (eCall F_is_bounded (aCons (eVar 1) (aCons (eVar 3) (aCons (eVar 4) aNil))) [])) (eVar 7) (eC .non)) aNil))))))))))
def F_bad_range : FD := fnP 8 5 S_bad_range
abbrev P_bad_range : List Str := ["world", "order", "kind", "relation", "size"]
theorem ok_bad_range {f : Addr} {fd : FuncData} (Fd : FnT K "bad_range" s_bad_range f fd) (n_changes : Kn P w K mg base 1 "changes" P_changes F_changes) (n_has_any : Kn P w K mg base 1 "has_any" P_has_any F_has_any) (n_is_bounded : Kn P w K mg base 2 "is_bounded" P_is_bounded F_is_bounded) (n_stands_ahead : Kn P w K mg base 1 "stands_ahead" P_stands_ahead F_stands_ahead) (m_int : mg "int" = none) (c_FREE_KIND : Cst K mg "FREE_KIND" (.str "write")) (c_FREE_WORDS : Cst K mg "FREE_WORDS" (.tup [(.str "copy"), (.str "copyresize"), (.str "touch")])) (c_LESS : Cst K mg "LESS" (.str "less")) (c_MORE : Cst K mg "MORE" (.str "more")) (c_NOTE : Cst K mg "NOTE" (.str "note")) (c_OTHER : Cst K mg "OTHER" (.str "other")) (c_RESIZING_WORDS : Cst K mg "RESIZING_WORDS" (.tup [(.str "copyresize"), (.str "resize")])) (c_STAT : Cst K mg "STAT" (.str "stat")) : FnG P w K mg base noXR 3 f fd P_bad_range F_bad_range := by
  exact fnG_pure Fd sc_bad_range rfl rfl fun cdv A outer s H E hr hG => (ds_cons (ds_set (i := 5) sc_bad_range.nd rfl (.inl rfl) (d_ix (d_pv 0 (pv 0)) d_int (fun _ _ => rfl))) (ds_cons (ds_if (PW.pt (dw_or (dt_not (dt_tru (d_fn n_changes hr (by decide) hG (by rfl) (da_cons (d_pv 0 (pv 0)) da_nil) nx_no) (by intro _; rfl))) (dw_or1 (PW.pt (dw_and (dt_eq hr (d_pv 4 (pv 4)) (d_cst (by rfl) c_OTHER)) (dw_and1 (dt_not (dt_tru (d_fn n_has_any hr (by decide) hG (by rfl) (da_cons (d_pv 0 (pv 0)) (da_cons (d_cst (by rfl) c_RESIZING_WORDS) da_nil)) nx_no) (by intro _; rfl))))))))) (ds_one (ds_ret d_non)) ds_nil) (ds_cons (ds_set (i := 6) sc_bad_range.nd rfl (.inl rfl) (d_ifexp (dt_tru (d_fn n_stands_ahead hr (by decide) hG (by rfl) (da_cons (d_pv 1 (pv 1)) (da_cons (d_cst (by rfl) c_NOTE) (da_cons (d_cst (by rfl) c_STAT) da_nil))) nx_no) (by intro _; rfl)) d_non (d_neg (d_pv 5 (pv 5))))) (ds_cons (ds_if (PW.pt (dw_or (dt_eq hr (d_pv 3 (pv 3)) (d_cst (by rfl) c_MORE)) (dw_or1 (PW.pt (dw_and (dt_eq hr (d_pv 2 (pv 2)) (d_cst (by rfl) c_FREE_KIND)) (dw_and1 (dt_tru (d_fn n_has_any hr (by decide) hG (by rfl) (da_cons (d_pv 0 (pv 0)) (da_cons (d_cst (by rfl) c_FREE_WORDS) da_nil)) nx_no) (by intro _; rfl)))))))) (ds_one (ds_ret (d_tup (da_cons (d_pv 6 (pv 6)) (da_cons d_non da_nil))))) ds_nil) (ds_cons (ds_set (i := 7) sc_bad_range.nd rfl (.inl rfl) (d_sub (d_pv 5 (pv 5)) (d_ct call_int1 lift_int (by rfl) m_int (by decide +kernel) (da_cons (d_eq hr (d_pv 3 (pv 3)) (d_cst (by rfl) c_LESS)) da_nil)))) (ds_cons (ds_if (dt_lt (d_pv 7 (pv 7)) d_int) (ds_one (ds_ret d_non)) ds_nil) (ds_one (ds_ret (d_tup (da_cons (d_pv 6 (pv 6)) (da_cons (d_ifexp (dt_tru (d_fn n_is_bounded hr (by decide) hG (by rfl) (da_cons (d_pv 1 (pv 1)) (da_cons (d_pv 3 (pv 3)) (da_cons (d_pv 4 (pv 4)) da_nil))) nx_no) (by intro _; rfl)) (d_pv 7 (pv 7)) d_non) da_nil)))))))))))
theorem kn_bad_range {f : Addr} {fd : FuncData} (Fd : FnT K "bad_range" s_bad_range f fd) (g : mg "bad_range" = some (.ref f)) (n_changes : Kn P w K mg base 1 "changes" P_changes F_changes) (n_has_any : Kn P w K mg base 1 "has_any" P_has_any F_has_any) (n_is_bounded : Kn P w K mg base 2 "is_bounded" P_is_bounded F_is_bounded) (n_stands_ahead : Kn P w K mg base 1 "stands_ahead" P_stands_ahead F_stands_ahead) (m_int : mg "int" = none) (c_FREE_KIND : Cst K mg "FREE_KIND" (.str "write")) (c_FREE_WORDS : Cst K mg "FREE_WORDS" (.tup [(.str "copy"), (.str "copyresize"), (.str "touch")])) (c_LESS : Cst K mg "LESS" (.str "less")) (c_MORE : Cst K mg "MORE" (.str "more")) (c_NOTE : Cst K mg "NOTE" (.str "note")) (c_OTHER : Cst K mg "OTHER" (.str "other")) (c_RESIZING_WORDS : Cst K mg "RESIZING_WORDS" (.tup [(.str "copyresize"), (.str "resize")])) (c_STAT : Cst K mg "STAT" (.str "stat")) : Kn P w K mg base 3 "bad_range" P_bad_range F_bad_range :=
  ⟨⟨f, fd, ok_bad_range Fd n_changes n_has_any n_is_bounded n_stands_ahead m_int c_FREE_KIND c_FREE_WORDS c_LESS c_MORE c_NOTE c_OTHER c_RESIZING_WORDS c_STAT, g, Fd.kp, FunD.bindsN Fd (fun _ _ _ _ _ _ us hl => match us, hl with | [_, _, _, _, _], _ => rfl), fnP_len⟩⟩
/-! #### _law_world -/
abbrev s__law_world : Stmt := topS 32
abbrev N__law_world : List Str := ["_law_pot_here", "_law_most", "_law_every", "_law_some", "_law_turn"]
theorem sc__law_world : FnScope N__law_world ["_law_pot_here", "_law_most"] (defScope s__law_world) := ⟨rfl, rfl, rfl, by decide +kernel, rfl, by decide +kernel, by decide +kernel⟩
def S__law_world : SF := (sSeq (sAsg 2 (eCel (aCons (eC (.str "copy")) (aCons (eC (.str "copyresize")) (aCons (eC (.str "resize")) (aCons (eC (.str "touch")) (aCons (eC (.str "write")) aNil))))))) (sSeq (sAsg 3 (eSeal (eLC (iRg1 (aCons (e2 Fadd (eC (.int 1)) (eCall F__law_take (aCons (eVar 0) (aCons (eVar 1) aNil)) [])) aNil)) (fName 4) bYes (eMeth isList FpopAt (eVar 2) (aCons (eCall F__law_take (aCons (eVar 0) (aCons (eCallB Flen (aCons (eVar 2) aNil)) aNil)) []) aNil)) [4]))) (sRet (eTup (aCons (eCallB Ftuple (aCons (eCallB Fsorted (aCons (eVar 3) aNil)) aNil)) (aCons (eCall F__law_of (aCons (eVar 0) (aCons (eLst (aCons (eC (.int 0)) (aCons (eC (.int 0)) (aCons (eC (.int 1)) (aCons (eC (.int 2)) (aCons (eC (.int 3)) (aCons (eC (.int 4)) aNil))))))) aNil)) []) aNil))))))
def F__law_world : FD := fnSeal (fnP 5 2 S__law_world)
abbrev P__law_world : List Str := ["_law_pot_here", "_law_most"]
theorem ok__law_world {f : Addr} {fd : FuncData} (Fd : FnT K "_law_world" s__law_world f fd) (n__law_of : Kn P w K mg base 2 "_law_of" P__law_of F__law_of) (n__law_take : Kn P w K mg base 1 "_law_take" P__law_take F__law_take) (m_len : mg "len" = none) (m_range : mg "range" = none) (m_sorted : mg "sorted" = none) (m_tuple : mg "tuple" = none) : FnG P w K mg base noXR 3 f fd P__law_world F__law_world := by
  exact FnG.seal (fnG_pure Fd sc__law_world rfl rfl fun cdv A outer s H E hr hG => (ds_cons (ds_set (i := 2) sc__law_world.nd rfl (.inr rfl) (d_cel (da_cons d_str (da_cons d_str (da_cons d_str (da_cons d_str (da_cons d_str da_nil))))))) (ds_cons (ds_setLc (i := 3) (own := [("_law_turn", 4)]) rfl sc__law_world.nd rfl rfl (sw_true rfl rfl rfl (by decide +kernel)) (di_rg1 (by rfl) m_range (da_cons (d_add d_int (d_fn n__law_take hr (by decide) hG (by rfl) (da_cons (d_pv 0 (pv 0)) (da_cons (d_pv 1 (pv 1)) da_nil)) nx_no)) da_nil)) (blkOk_by (N := N__law_world) (sc := defScope s__law_world) (own := [("_law_turn", 4)]) (by decide +kernel)) (fun _ _ _ _ _ => (pg_name (i := 4) sc__law_world.nd rfl (.inl rfl))) (tg_name (by decide)) (fun _ _ _ _ _ => dts_nil) (fun _ _ _ _ _ => (d_popAt (d_pv 2 (pv 2)) (da_cons (d_fn n__law_take hr (by decide) hG (by rfl) (da_cons (d_pv 0 (pv 0)) (da_cons (d_cb call_len lift_len (by rfl) m_len (by decide +kernel) (da_cons (d_pv 2 (pv 2)) da_nil)) da_nil)) nx_no) da_nil)))) (ds_one (ds_ret (d_tup (da_cons (d_ct call_tupleD lift_tuple (by rfl) m_tuple (by decide +kernel) (da_cons (d_cb (call_sorted2 rfl) lift_sorted (by rfl) m_sorted (by decide +kernel) (da_cons (d_pv 3 (pv 3)) da_nil)) da_nil)) (da_cons (d_fn n__law_of hr (by decide) hG (by rfl) (da_cons (d_pv 0 (pv 0)) (da_cons (d_lst (da_cons d_int (da_cons d_int (da_cons d_int (da_cons d_int (da_cons d_int (da_cons d_int da_nil))))))) da_nil)) nx_no) da_nil))))))))
theorem kn__law_world {f : Addr} {fd : FuncData} (Fd : FnT K "_law_world" s__law_world f fd) (g : mg "_law_world" = some (.ref f)) (n__law_of : Kn P w K mg base 2 "_law_of" P__law_of F__law_of) (n__law_take : Kn P w K mg base 1 "_law_take" P__law_take F__law_take) (m_len : mg "len" = none) (m_range : mg "range" = none) (m_sorted : mg "sorted" = none) (m_tuple : mg "tuple" = none) : Kn P w K mg base 3 "_law_world" P__law_world F__law_world :=
  ⟨⟨f, fd, ok__law_world Fd n__law_of n__law_take m_len m_range m_sorted m_tuple, g, Fd.kp, FunD.bindsN Fd (fun _ _ _ _ _ _ us hl => match us, hl with | [_, _], _ => rfl), fnSeal_len fnP_len⟩⟩
/-! #### _law_bad -/
abbrev s__law_bad : Stmt := topS 36
abbrev N__law_bad : List Str := ["_law_here", "_law_order", "_law_kind", "_law_wide", "_law_found", "_law_relation", "_law_size", "_law_span", "_law_gap"]
theorem sc__law_bad : FnScope N__law_bad ["_law_here", "_law_order", "_law_kind", "_law_wide"] (defScope s__law_bad) := ⟨rfl, rfl, rfl, by decide +kernel, rfl, by decide +kernel, by decide +kernel⟩
def B__law_bad_3 : SF := (sIf (bAnd (bOf (e2 (Fis true) (eVar 7) (eC .non))) (bOf (eChain Fle Fle (e2 Fix (eVar 7) (eC (.int 0))) (eVar 8) (e2 Fix (eVar 7) (eC (.int 1)))))) (sAsgT (eC (.bl true)) (tTSub (eVar 4) (aCons (eVar 5) (aCons (eCall F__law_cut (aCons (eVar 8) (aCons (eVar 3) aNil)) []) (aCons (eVar 6) aNil))))) sNil)
def B__law_bad_2 : SF := (sSeq (sAsg 7 (eCall F__law_range (aCons (eVar 0) (aCons (eVar 1) (aCons (eVar 2) (aCons (eVar 5) (aCons (eVar 6) aNil))))) [])) (sFor (iRg2 (aCons (e1 Fneg (eC (.int 20))) (aCons (eC (.int 21)) aNil))) (fName 8) B__law_bad_3))
def B__law_bad_1 : SF := (sFor (iTupD (eTup (aCons (eC (.str "other")) (aCons (eC (.str "same")) aNil)))) (fName 6) B__law_bad_2)
def S__law_bad : SF := (sSeq (sAsg 4 eTNew) (sSeq (sFor (iTupD (eTup (aCons (eC (.str "less")) (aCons (eC (.str "more")) (aCons (eC (.str "same")) aNil))))) (fName 5) B__law_bad_1) (sRet (eCallB Ftuple (aCons (eCallB FsortDT (aCons (eVar 4) aNil)) aNil)))))
def F__law_bad : FD := fnSeal (fnP 9 4 S__law_bad)
abbrev P__law_bad : List Str := ["_law_here", "_law_order", "_law_kind", "_law_wide"]
theorem ok__law_bad {f : Addr} {fd : FuncData} (Fd : FnT K "_law_bad" s__law_bad f fd) (n__law_cut : Kn P w K mg base 1 "_law_cut" P__law_cut F__law_cut) (n__law_range : Kn P w K mg base 2 "_law_range" P__law_range F__law_range) (m_range : mg "range" = none) (m_sorted : mg "sorted" = none) (m_tuple : mg "tuple" = none) : FnG P w K mg base noXR 3 f fd P__law_bad F__law_bad := by
  exact FnG.seal (fnG_pure Fd sc__law_bad rfl rfl fun cdv A outer s H E hr hG => (ds_cons (ds_set (i := 4) sc__law_bad.nd rfl (.inl rfl) d_tnew) (ds_cons (ds_for (own := [5]) PassesOwn.never rfl (di_tup (d_tup (da_cons d_str (da_cons d_str (da_cons d_str da_nil))))) (pg_name (i := 5) sc__law_bad.nd rfl (.inl rfl)) (tg_name (by decide)) (ds_one (ds_for (own := [6]) PassesOwn.never rfl (di_tup (d_tup (da_cons d_str (da_cons d_str da_nil)))) (pg_name (i := 6) sc__law_bad.nd rfl (.inl rfl)) (tg_name (by decide)) (ds_cons (ds_set (i := 7) sc__law_bad.nd rfl (.inl rfl) (d_fn n__law_range hr (by decide) hG (by rfl) (da_cons (d_pv 0 (pv 0)) (da_cons (d_pv 1 (pv 1)) (da_cons (d_pv 2 (pv 2)) (da_cons (d_pv 5 (pv 5)) (da_cons (d_pv 6 (pv 6)) da_nil))))) nx_no)) (ds_one (ds_for (own := [8]) PassesOwn.never rfl (di_rg2 (by rfl) m_range (da_cons (d_neg d_int) (da_cons d_int da_nil))) (pg_name (i := 8) sc__law_bad.nd rfl (.inl rfl)) (tg_name (by decide)) (ds_one (ds_if (PW.pt (dw_and (dt_isnot (d_pv 7 (pv 7)) d_non) (dw_and1 (dt_chain op_le op_le lift_cmp lift_cmp (d_ix (d_pv 7 (pv 7)) d_int (fun _ _ => rfl)) (d_pv 8 (pv 8)) (d_ix (d_pv 7 (pv 7)) d_int (fun _ _ => rfl)))))) (ds_one (ds_asgT d_bl (dg_tsub hr (d_pv 4 (pv 4)) (da_cons (d_pv 5 (pv 5)) (da_cons (d_fn n__law_cut hr (by decide) hG (by rfl) (da_cons (d_pv 8 (pv 8)) (da_cons (d_pv 3 (pv 3)) da_nil)) nx_no) (da_cons (d_pv 6 (pv 6)) da_nil)))))) ds_nil)))))))) (ds_one (ds_ret (d_ct call_tupleD lift_tuple (by rfl) m_tuple (by decide +kernel) (da_cons (d_cb (call_sortDT rfl hr.units) lift_sortDT (by rfl) m_sorted (by decide +kernel) (da_cons (d_pv 4 (pv 4)) da_nil)) da_nil)))))))
theorem kn__law_bad {f : Addr} {fd : FuncData} (Fd : FnT K "_law_bad" s__law_bad f fd) (g : mg "_law_bad" = some (.ref f)) (n__law_cut : Kn P w K mg base 1 "_law_cut" P__law_cut F__law_cut) (n__law_range : Kn P w K mg base 2 "_law_range" P__law_range F__law_range) (m_range : mg "range" = none) (m_sorted : mg "sorted" = none) (m_tuple : mg "tuple" = none) : Kn P w K mg base 3 "_law_bad" P__law_bad F__law_bad :=
  ⟨⟨f, fd, ok__law_bad Fd n__law_cut n__law_range m_range m_sorted m_tuple, g, Fd.kp, FunD.bindsN Fd (fun _ _ _ _ _ _ us hl => match us, hl with | [_, _, _, _], _ => rfl), fnSeal_len fnP_len⟩⟩
/-! #### bad_cells -/
abbrev s_bad_cells : Stmt := topS 26
abbrev N_bad_cells : List Str := ["world", "order", "kind", "width", "found", "relation", "gap", "size", "span"]
theorem sc_bad_cells : FnScope N_bad_cells ["world", "order", "kind", "width"] (defScope s_bad_cells) := ⟨rfl, rfl, rfl, by decide +kernel, rfl, by decide +kernel, by decide +kernel⟩
def B_bad_cells_1 : SF := (sSeq (sAsg 8 (eCall F_bad_range (aCons (eVar 0) (aCons (eVar 1) (aCons (eVar 2) (aCons (eVar 5) (aCons (eVar 7) aNil))))) [])) (sIf (bAnd (bOf (e2 (Fis true) (eVar 8) (eC .non))) (bTru (eCall F_meets (aCons (eVar 8) (aCons (eVar 6) (aCons (eVar 3) aNil))) []))) (sDrop (eMeth isList Fapp (eVar 4) (aCons (eTup (aCons (eVar 5) (aCons (eVar 6) (aCons (eVar 7) aNil)))) aNil))) sNil))
def S_bad_cells : SF := (sSeq (sAsg 4 (eCel aNil)) (sSeq (sFor (GP.iGen 1 F_cells (aCons (eVar 3) aNil)) (fTup [5, 6, 7]) B_bad_cells_1) (sRet (eCallB Ftuple (aCons (eVar 4) aNil)))))
def F_bad_cells : FD := fnSeal (fnP 9 4 S_bad_cells)
abbrev P_bad_cells : List Str := ["world", "order", "kind", "width"]
theorem ok_bad_cells {f : Addr} {fd : FuncData} (Fd : FnT K "bad_cells" s_bad_cells f fd) (n_bad_range : Kn P w K mg base 3 "bad_range" P_bad_range F_bad_range) (n_cells : GP.KnG P w K mg base 1 "cells" P_cells F_cells) (n_meets : Kn P w K mg base 1 "meets" P_meets F_meets) (m_tuple : mg "tuple" = none) : FnG P w K mg base noXR 5 f fd P_bad_cells F_bad_cells := by
  exact FnG.seal (fnG_pure Fd sc_bad_cells rfl rfl fun cdv A outer s H E hr hG => (ds_cons (ds_set (i := 4) sc_bad_cells.nd rfl (.inl rfl) (d_cel da_nil)) (ds_cons (GP.ds_forG (own := [5, 6, 7]) (fun _ _ h => h) PassesOwn.never (GP.pig_call n_cells hr (by decide) (by rfl) rfl (da_cons (d_pv 3 (pv 3)) da_nil)) (pg_tup rfl (pgs_cons (pg_name (i := 5) sc_bad_cells.nd rfl (.inl rfl)) (pgs_cons (pg_name (i := 6) sc_bad_cells.nd rfl (.inl rfl)) (pgs_cons (pg_name (i := 7) sc_bad_cells.nd rfl (.inl rfl)) pgs_nil)))) (tg_tup (is := [5, 6, 7]) rfl (by decide)) (ds_cons (ds_set (i := 8) sc_bad_cells.nd rfl (.inl rfl) (d_fn n_bad_range hr (by decide) hG (by rfl) (da_cons (d_pv 0 (pv 0)) (da_cons (d_pv 1 (pv 1)) (da_cons (d_pv 2 (pv 2)) (da_cons (d_pv 5 (pv 5)) (da_cons (d_pv 7 (pv 7)) da_nil))))) nx_no)) (ds_one (ds_if (PW.pt (dw_and (dt_isnot (d_pv 8 (pv 8)) d_non) (dw_and1 (dt_tru (d_fn n_meets hr (by decide) hG (by rfl) (da_cons (d_pv 8 (pv 8)) (da_cons (d_pv 6 (pv 6)) (da_cons (d_pv 3 (pv 3)) da_nil))) nx_no) (by intro _; rfl))))) (ds_one (ds_expr (d_app (d_pv 4 (pv 4)) (da_cons (d_tup (da_cons (d_pv 5 (pv 5)) (da_cons (d_pv 6 (pv 6)) (da_cons (d_pv 7 (pv 7)) da_nil)))) da_nil)))) ds_nil)))) (ds_one (ds_ret (d_ct call_tupleD lift_tuple (by rfl) m_tuple (by decide +kernel) (da_cons (d_pv 4 (pv 4)) da_nil)))))))
theorem kn_bad_cells {f : Addr} {fd : FuncData} (Fd : FnT K "bad_cells" s_bad_cells f fd) (g : mg "bad_cells" = some (.ref f)) (n_bad_range : Kn P w K mg base 3 "bad_range" P_bad_range F_bad_range) (n_cells : GP.KnG P w K mg base 1 "cells" P_cells F_cells) (n_meets : Kn P w K mg base 1 "meets" P_meets F_meets) (m_tuple : mg "tuple" = none) : Kn P w K mg base 5 "bad_cells" P_bad_cells F_bad_cells :=
  ⟨⟨f, fd, ok_bad_cells Fd n_bad_range n_cells n_meets m_tuple, g, Fd.kp, FunD.bindsN Fd (fun _ _ _ _ _ _ us hl => match us, hl with | [_, _, _, _], _ => rfl), fnSeal_len fnP_len⟩⟩
/-! #### _law_right -/
abbrev s__law_right : Stmt := topS 37
abbrev N__law_right : List Str := ["_law_pot_here", "_law_here", "_law_order", "_law_kind", "_law_kept", "_law_wide"]
theorem sc__law_right : FnScope N__law_right ["_law_pot_here"] (defScope s__law_right) := ⟨rfl, rfl, rfl, by decide +kernel, rfl, by decide +kernel, by decide +kernel⟩
def B__law_right_1 : SF := (sIf (bOf (e2 (Feq true) (eCallB Frepr (aCons (eCall F_bad_cells (aCons (eVar 1) (aCons (eVar 2) (aCons (eVar 3) (aCons (eVar 5) aNil)))) []) aNil)) (eCallB Frepr (aCons (eCall F__law_bad (aCons (eVar 1) (aCons (eVar 2) (aCons (eVar 3) (aCons (eVar 5) aNil)))) []) aNil)))) (sRet (eC (.bl false))) sNil)
def S__law_right : SF := (sSeq (sPar2 1 2 (aCons (eCall F__law_world (aCons (eVar 0) (aCons (eC (.int 5)) aNil)) []) (aCons (eCall F__law_of (aCons (eVar 0) (aCons (eCall F__law_orders aNil []) aNil)) []) aNil))) (sSeq (sPar2 3 4 (aCons (eCall F__law_of (aCons (eVar 0) (aCons (eLst (aCons (eC (.str "write")) (aCons (eC (.str "change")) aNil))) aNil)) []) (aCons (eCallB Frepr (aCons (eTup (aCons (eVar 1) (aCons (eVar 2) aNil))) aNil)) aNil))) (sSeq (sFor (iRg2 (aCons (eC (.int 1)) (aCons (eC (.int 7)) aNil))) (fName 5) B__law_right_1) (sRet (vAnd (e2 (Feq false) (eCall F_bad_cells (aCons (eTup (aCons (eTup aNil) (aCons (e2 Fix (eVar 1) (eC (.int 1))) aNil))) (aCons (eVar 2) (aCons (eVar 3) (aCons (eC (.int 2)) aNil)))) []) (eTup aNil)) (e2 (Feq false) (eCallB Frepr (aCons (eTup (aCons (eVar 1) (aCons (eVar 2) aNil))) aNil)) (eVar 4)))))))
def F__law_right : FD := fnP 6 1 S__law_right
abbrev P__law_right : List Str := ["_law_pot_here"]
theorem ok__law_right {f : Addr} {fd : FuncData} (Fd : FnT K "_law_right" s__law_right f fd) (n__law_bad : Kn P w K mg base 3 "_law_bad" P__law_bad F__law_bad) (n__law_of : Kn P w K mg base 2 "_law_of" P__law_of F__law_of) (n__law_orders : Kn P w K mg base 1 "_law_orders" P__law_orders F__law_orders) (n__law_world : Kn P w K mg base 3 "_law_world" P__law_world F__law_world) (n_bad_cells : Kn P w K mg base 5 "bad_cells" P_bad_cells F_bad_cells) (m_range : mg "range" = none) (m_repr : mg "repr" = none) : FnG P w K mg base noXR 6 f fd P__law_right F__law_right := by
  exact fnG_pure Fd sc__law_right rfl rfl fun cdv A outer s H E hr hG => (ds_cons (ds_par2 (i := 1) (j := 2) rfl sc__law_right.nd rfl rfl (by decide) rfl rfl (da_cons (d_fn n__law_world hr (by decide) hG (by rfl) (da_cons (d_pv 0 (pv 0)) (da_cons d_int da_nil)) nx_no) (da_cons (d_fn n__law_of hr (by decide) hG (by rfl) (da_cons (d_pv 0 (pv 0)) (da_cons (d_fn0 n__law_orders hr (by decide) hG (by rfl) nx_no) da_nil)) nx_no) da_nil)) (by rfl)) (ds_cons (ds_par2 (i := 3) (j := 4) rfl sc__law_right.nd rfl rfl (by decide) rfl rfl (da_cons (d_fn n__law_of hr (by decide) hG (by rfl) (da_cons (d_pv 0 (pv 0)) (da_cons (d_lst (da_cons d_str (da_cons d_str da_nil))) da_nil)) nx_no) (da_cons (d_cb (call_repr hG (units65 hr)) lift_repr (by rfl) m_repr (by decide +kernel) (da_cons (d_tup (da_cons (d_pv 1 (pv 1)) (da_cons (d_pv 2 (pv 2)) da_nil))) da_nil)) da_nil)) (by rfl)) (ds_cons (ds_for (own := [5]) PassesOwn.never rfl (di_rg2 (by rfl) m_range (da_cons d_int (da_cons d_int da_nil))) (pg_name (i := 5) sc__law_right.nd rfl (.inl rfl)) (tg_name (by decide)) (ds_one (ds_if (dt_ne hr (d_cb (call_repr hG (units65 hr)) lift_repr (by rfl) m_repr (by decide +kernel) (da_cons (d_fn n_bad_cells hr (by decide) hG (by rfl) (da_cons (d_pv 1 (pv 1)) (da_cons (d_pv 2 (pv 2)) (da_cons (d_pv 3 (pv 3)) (da_cons (d_pv 5 (pv 5)) da_nil)))) nx_no) da_nil)) (d_cb (call_repr hG (units65 hr)) lift_repr (by rfl) m_repr (by decide +kernel) (da_cons (d_fn n__law_bad hr (by decide) hG (by rfl) (da_cons (d_pv 1 (pv 1)) (da_cons (d_pv 2 (pv 2)) (da_cons (d_pv 3 (pv 3)) (da_cons (d_pv 5 (pv 5)) da_nil)))) nx_no) da_nil))) (ds_one (ds_ret d_bl)) ds_nil))) (ds_one (ds_ret (d_and (d_eq hr (d_fn n_bad_cells hr (by decide) hG (by rfl) (da_cons (d_tup (da_cons (d_tup da_nil) (da_cons (d_ix (d_pv 1 (pv 1)) d_int (fun _ _ => rfl)) da_nil))) (da_cons (d_pv 2 (pv 2)) (da_cons (d_pv 3 (pv 3)) (da_cons d_int da_nil)))) nx_no) (d_tup da_nil)) (d_one (d_eq hr (d_cb (call_repr hG (units65 hr)) lift_repr (by rfl) m_repr (by decide +kernel) (da_cons (d_tup (da_cons (d_pv 1 (pv 1)) (da_cons (d_pv 2 (pv 2)) da_nil))) da_nil)) (d_pv 4 (pv 4))))))))))
theorem kn__law_right {f : Addr} {fd : FuncData} (Fd : FnT K "_law_right" s__law_right f fd) (g : mg "_law_right" = some (.ref f)) (n__law_bad : Kn P w K mg base 3 "_law_bad" P__law_bad F__law_bad) (n__law_of : Kn P w K mg base 2 "_law_of" P__law_of F__law_of) (n__law_orders : Kn P w K mg base 1 "_law_orders" P__law_orders F__law_orders) (n__law_world : Kn P w K mg base 3 "_law_world" P__law_world F__law_world) (n_bad_cells : Kn P w K mg base 5 "bad_cells" P_bad_cells F_bad_cells) (m_range : mg "range" = none) (m_repr : mg "repr" = none) : Kn P w K mg base 6 "_law_right" P__law_right F__law_right :=
  ⟨⟨f, fd, ok__law_right Fd n__law_bad n__law_of n__law_orders n__law_world n_bad_cells m_range m_repr, g, Fd.kp, FunD.bindsN Fd (fun _ _ _ _ _ _ us hl => match us, hl with | [_], _ => rfl), fnP_len⟩⟩
/-! #### law -/
abbrev s_law : Stmt := topS 38
abbrev N_law : List Str := ["_law_script", "_law_k", "_law_pot_here", "_law_turn"]
theorem sc_law : FnScope N_law ["_law_script"] (defScope s_law) := ⟨rfl, rfl, rfl, by decide +kernel, rfl, by decide +kernel, by decide +kernel⟩
def B_law_1 : SF := (sSeq (sAsg 2 (eCall F__law_pot (aCons (eVar 0) (aCons (eVar 1) aNil)) [])) (sIf (bNot (bTru (eCallB Fall (aCons (eSeal (eLC (iRg1 (aCons (eC (.int 6)) aNil)) (fName 3) bYes (eCall F__law_right (aCons (eVar 2) aNil) []) [3])) aNil)))) (sRet (eC (.bl false))) sNil))
def S_law : SF := (sSeq (sFor (iRg1 (aCons (eCallB Fmax (aCons (eC (.int 1)) (aCons (eCallB Fmin (aCons (eC (.int 3)) (aCons (eCallB Flen (aCons (eVar 0) aNil)) aNil))) aNil))) aNil)) (fName 1) B_law_1) (sRet (eC (.bl true))))
def F_law : FD := fnP 4 1 S_law
abbrev P_law : List Str := ["_law_script"]
theorem ok_law {f : Addr} {fd : FuncData} (Fd : FnT K "law" s_law f fd) (n__law_pot : Kn P w K mg base 1 "_law_pot" P__law_pot F__law_pot) (n__law_right : Kn P w K mg base 6 "_law_right" P__law_right F__law_right) (m_all : mg "all" = none) (m_len : mg "len" = none) (m_max : mg "max" = none) (m_min : mg "min" = none) (m_range : mg "range" = none) : FnG P w K mg base noXR 7 f fd P_law F_law := by
  exact fnG_pure Fd sc_law rfl rfl fun cdv A outer s H E hr hG => (ds_cons (ds_for (own := [1]) PassesOwn.never rfl (di_rg1 (by rfl) m_range (da_cons (d_cb (call_max2 rfl) lift_max (by rfl) m_max (by decide +kernel) (da_cons d_int (da_cons (d_cb (call_min2 rfl) lift_min (by rfl) m_min (by decide +kernel) (da_cons d_int (da_cons (d_cb call_len lift_len (by rfl) m_len (by decide +kernel) (da_cons (d_pv 0 (pv 0)) da_nil)) da_nil))) da_nil))) da_nil)) (pg_name (i := 1) sc_law.nd rfl (.inl rfl)) (tg_name (by decide)) (ds_cons (ds_set (i := 2) sc_law.nd rfl (.inr rfl) (d_fn n__law_pot hr (by decide) hG (by rfl) (da_cons (d_pv 0 (pv 0)) (da_cons (d_pv 1 (pv 1)) da_nil)) nx_no)) (ds_one (ds_if (dt_not (dt_tru (d_cb (cr_all rfl) lift_all (by rfl) m_all (by decide +kernel) (da_cons (d_seal (d_lc (own := [("_law_turn", 3)]) rfl sc_law.nd (di_rg1 (by rfl) m_range (da_cons d_int da_nil)) (blkOk_by (N := N_law) (sc := defScope s_law) (own := [("_law_turn", 3)]) (by decide +kernel)) (fun _ _ _ _ _ => (pg_name (i := 3) sc_law.nd rfl (.inl rfl))) (tg_name (by decide)) (fun _ _ _ _ _ => dts_nil) (fun _ _ _ _ _ => (d_fn n__law_right hr (by decide) hG (by rfl) (da_cons (d_pv 2 (pv 2)) da_nil) nx_no)))) da_nil)) (by intro _; rfl))) (ds_one (ds_ret d_bl)) ds_nil)))) (ds_one (ds_ret d_bl)))
theorem kn_law {f : Addr} {fd : FuncData} (Fd : FnT K "law" s_law f fd) (g : mg "law" = some (.ref f)) (n__law_pot : Kn P w K mg base 1 "_law_pot" P__law_pot F__law_pot) (n__law_right : Kn P w K mg base 6 "_law_right" P__law_right F__law_right) (m_all : mg "all" = none) (m_len : mg "len" = none) (m_max : mg "max" = none) (m_min : mg "min" = none) (m_range : mg "range" = none) : Kn P w K mg base 7 "law" P_law F_law :=
  ⟨⟨f, fd, ok_law Fd n__law_pot n__law_right m_all m_len m_max m_min m_range, g, Fd.kp, FunD.bindsN Fd (fun _ _ _ _ _ _ us hl => match us, hl with | [_], _ => rfl), fnP_len⟩⟩
end
end Lw

namespace Lw
open PySem PySem.Spec L2 DM
def d_changes : He.DefD := ⟨("changes", none), "changes", "changes", defArgs s_changes, defBody s_changes, defScope s_changes, [], []⟩
def d_cells : He.DefD := ⟨("cells", none), "cells", "cells", defArgs s_cells, defBody s_cells, defScope s_cells, [], []⟩
def d_has_any : He.DefD := ⟨("has_any", none), "has_any", "has_any", defArgs s_has_any, defBody s_has_any, defScope s_has_any, [], []⟩
def d_stands_ahead : He.DefD := ⟨("stands_ahead", none), "stands_ahead", "stands_ahead", defArgs s_stands_ahead, defBody s_stands_ahead, defScope s_stands_ahead, [], []⟩
def d_meets : He.DefD := ⟨("meets", none), "meets", "meets", defArgs s_meets, defBody s_meets, defScope s_meets, [], []⟩
def d__law_pot : He.DefD := ⟨("_law_pot", none), "_law_pot", "_law_pot", defArgs s__law_pot, defBody s__law_pot, defScope s__law_pot, [], []⟩
def d__law_take : He.DefD := ⟨("_law_take", none), "_law_take", "_law_take", defArgs s__law_take, defBody s__law_take, defScope s__law_take, [], []⟩
def d__law_orders : He.DefD := ⟨("_law_orders", none), "_law_orders", "_law_orders", defArgs s__law_orders, defBody s__law_orders, defScope s__law_orders, [], []⟩
def d__law_is_free : He.DefD := ⟨("_law_is_free", none), "_law_is_free", "_law_is_free", defArgs s__law_is_free, defBody s__law_is_free, defScope s__law_is_free, [], []⟩
def d__law_cut : He.DefD := ⟨("_law_cut", none), "_law_cut", "_law_cut", defArgs s__law_cut, defBody s__law_cut, defScope s__law_cut, [], []⟩
def d_is_bounded : He.DefD := ⟨("is_bounded", none), "is_bounded", "is_bounded", defArgs s_is_bounded, defBody s_is_bounded, defScope s_is_bounded, [], []⟩
def d__law_of : He.DefD := ⟨("_law_of", none), "_law_of", "_law_of", defArgs s__law_of, defBody s__law_of, defScope s__law_of, [], []⟩
def d__law_range : He.DefD := ⟨("_law_range", none), "_law_range", "_law_range", defArgs s__law_range, defBody s__law_range, defScope s__law_range, [], []⟩
def d_bad_range : He.DefD := ⟨("bad_range", none), "bad_range", "bad_range", defArgs s_bad_range, defBody s_bad_range, defScope s_bad_range, [], []⟩
def d__law_world : He.DefD := ⟨("_law_world", none), "_law_world", "_law_world", defArgs s__law_world, defBody s__law_world, defScope s__law_world, [], []⟩
def d__law_bad : He.DefD := ⟨("_law_bad", none), "_law_bad", "_law_bad", defArgs s__law_bad, defBody s__law_bad, defScope s__law_bad, [], []⟩
def d_bad_cells : He.DefD := ⟨("bad_cells", none), "bad_cells", "bad_cells", defArgs s_bad_cells, defBody s_bad_cells, defScope s_bad_cells, [], []⟩
def d__law_right : He.DefD := ⟨("_law_right", none), "_law_right", "_law_right", defArgs s__law_right, defBody s__law_right, defScope s__law_right, [], []⟩
def d_law : He.DefD := ⟨("law", none), "law", "law", defArgs s_law, defBody s_law, defScope s_law, [], []⟩
def cs : List (Str × D) := ([("FREE_KIND", (.str "write")), ("FREE_WORDS", (.tup [(.str "copy"), (.str "copyresize"), (.str "touch")])), ("LESS", (.str "less")), ("MORE", (.str "more")), ("NOTE", (.str "note")), ("OTHER", (.str "other")), ("READ", (.str "read")), ("RELATIONS", (.tup [(.str "less"), (.str "more"), (.str "same")])), ("RESIZING_WORDS", (.tup [(.str "copyresize"), (.str "resize")])), ("SAME", (.str "same")), ("SIZES", (.tup [(.str "other"), (.str "same")])), ("STAT", (.str "stat")), ("TOUCH", (.str "touch"))] : List (Str × D))
def fn : List He.DefD := [d_changes, d_cells, d_has_any, d_stands_ahead, d_meets, d__law_pot, d__law_take, d__law_orders, d__law_is_free, d__law_cut, d_is_bounded, d__law_of, d__law_range, d_bad_range, d__law_world, d__law_bad, d_bad_cells, d__law_right, d_law]
def fa : List He.Fa := [He.Fa.glo "changes", He.Fa.glo "cells", He.Fa.glo "has_any", He.Fa.glo "stands_ahead", He.Fa.glo "meets", He.Fa.glo "_law_pot", He.Fa.glo "_law_take", He.Fa.glo "_law_orders", He.Fa.glo "_law_is_free", He.Fa.glo "_law_cut", He.Fa.glo "is_bounded", He.Fa.glo "_law_of", He.Fa.glo "_law_range", He.Fa.glo "bad_range", He.Fa.glo "_law_world", He.Fa.glo "_law_bad", He.Fa.glo "bad_cells", He.Fa.glo "_law_right", He.Fa.glo "law", He.Fa.free "abs", He.Fa.free "all", He.Fa.free "any", He.Fa.free "int", He.Fa.free "len", He.Fa.free "max", He.Fa.free "min", He.Fa.free "range", He.Fa.free "repr", He.Fa.free "sorted", He.Fa.free "tuple"]
abbrev R : PySem.W.OpenRow := PySem.W.OpenLaw.row PySem.Challenge.rw_coarseclock_k14_bad_cells_of_widths
abbrev hk : PySem.W.Hook := hookC 7 fa fn cs
def ob (s : PySem.W.SharedT) : AlC := obsCG 7 fa fn cs (HandSHeadRun.getT s)
theorem ob_eq (s : PySem.W.SharedT) : ob s = hk.obs s.abs := obsCG_eq (HandSHeadRun.getT_eq s)
def loose : List Str := [("RESIZE" : Str), ("COPY" : Str), ("COPYRESIZE" : Str), ("TOUCH" : Str), ("changes" : Str), ("NOTE" : Str), ("STAT" : Str), ("READ" : Str), ("LESS" : Str), ("MORE" : Str), ("SAME" : Str), ("OTHER" : Str), ("RELATIONS" : Str), ("SIZES" : Str), ("cells" : Str), ("FREE_KIND" : Str), ("FREE_WORDS" : Str), ("RESIZING_WORDS" : Str), ("has_any" : Str), ("stands_ahead" : Str), ("is_bounded" : Str), ("bad_range" : Str), ("meets" : Str), ("bad_cells" : Str), ("_law_pot" : Str), ("_law_take" : Str), ("_law_of" : Str), ("_law_orders" : Str), ("_law_world" : Str), ("_law_is_free" : Str), ("_law_range" : Str), ("_law_cut" : Str), ("_law_bad" : Str), ("_law_right" : Str)]
theorem run (w : World) : HandSHeadRun.RunEq R (PySem.W.view R.prog [38]) hk ob 4000 loose w := by
  intro os
  kernel_rfl
end Lw

namespace Lw
open PySem PySem.Spec L2 DM
local macro_rules | `(tactic| walk_at "q") => `(tactic| try simp only [q_ok, q_okR, q_if, q_C, q_ret, q_var, q_at, q_e1, q_e2, q_call, q_callB, q_nil, q_cons, q_tup, q_lst, q_cel, q_ifexp, q_blAt, q_bOf, q_bTru, q_bAnd, q_bOr, q_bNot, q_vAnd, q_vOr, q_vNot, q_chain, q_pureS, at0, at1, at2, q_iseq, q_seqL, q_seqF, q_rg1, q_rg2, q_itup, q_tupAt, q_iany, q_anyL, q_anyF, q_anyT, q_anyS, q_meth, q_p2, q_p3, q_unpT, q_setA, q_setA0, q_rhoAt, q_contR, q_contB, q_contC, q_callK, q_oN, q_oS, q_intAt, q_cut, f_tupL, f_tupT, f_listL, f_listT, f_listCL, f_listCT, f_cutT, f_cutL, q_aftN, q_aftC, q_aftB, q_aftR, q_pr, q_mtE, q_mtV, q_lone, q_gV, q_fnV, q_mkV, q_mkS, q_fld, q_isi, isi_ii, isi_ib, isi_tt, isi_ss, q_starS, q_star, f_itT, f_itL, q_join, q_enum, q_only, q_noExN, lookF_hit, f_addN, q_tName, q_tNil, q_tCons, q_tStar,
  f_add, f_sub, f_mul, f_div, f_mod, f_pow, f_neg, f_cmp, f_abs, f_intI, f_intB, f_max, f_min, f_lenL, f_lenF, f_lenT, f_ixL, f_ixF, f_ixT, f_eqI, f_neI, f_eqB, f_neB, f_eqT, f_neT, f_isB, f_isnotB, f_truB, f_truI, f_repr0, startR, wipeR, List.map_cons, List.map_nil, List.length_cons, List.length_nil, List.cons_append, List.nil_append, List.append_nil, List.getElem?_cons_zero, List.getElem?_cons_succ, List.set_cons_zero, List.set_cons_succ, List.replicate_succ, List.replicate_zero, Nat.reduceAdd, Nat.reduceSub, Int.reduceToNat, Int.reducePow])
local macro_rules | `(tactic| walk_at "go") => `(tactic| repeat (first | rw [q_cont] | rw [q_tCons] | rw [q_tName] | rw [q_tNil] | rw [q_tStar] | rw [q_only] | rw [q_noExN] | rw [q_seq] | rw [q_snil] | ((with_reducible refine q_asg ?_); walk_at "q") | ((with_reducible refine q_sret ?_); walk_at "q") | ((with_reducible refine q_spar2 ?_); walk_at "q") | ((with_reducible refine q_spar3 ?_); walk_at "q") | ((with_reducible refine q_sunp ?_); walk_at "q") | ((with_reducible refine q_drop ?_); walk_at "q") | ((with_reducible refine q_asgT ?_); walk_at "q") | ((with_reducible refine q_noEx ?_); walk_at "q") | ((with_reducible refine q_asg2 ?_); walk_at "q") | ((with_reducible refine q_tDSubG ?_); walk_at "q") | ((with_reducible refine q_sif ?_); walk_at "q") | ((with_reducible refine q_for ?_); walk_at "q")))
local macro_rules | `(tactic| walk_at "g1") => `(tactic| repeat (first | rw [q_cont] | rw [q_tCons] | rw [q_tName] | rw [q_tNil] | rw [q_tStar] | rw [q_only] | rw [q_noExN] | rw [q_seq] | rw [q_snil] | ((with_reducible refine q_asg ?_); walk_at "q") | ((with_reducible refine q_sret ?_); walk_at "q") | ((with_reducible refine q_spar2 ?_); walk_at "q") | ((with_reducible refine q_spar3 ?_); walk_at "q") | ((with_reducible refine q_sunp ?_); walk_at "q") | ((with_reducible refine q_drop ?_); walk_at "q") | ((with_reducible refine q_asgT ?_); walk_at "q") | ((with_reducible refine q_noEx ?_); walk_at "q") | ((with_reducible refine q_asg2 ?_); walk_at "q") | ((with_reducible refine q_tDSubG ?_); walk_at "q") | ((with_reducible refine q_for ?_); walk_at "q")))
theorem at3 {α : Type} {x y z w : α} {r : List α} : atI (x :: y :: z :: w :: r) 3 = some w := atI_nat (j := 3) rfl
theorem at4 {α : Type} {x y z w v : α} {r : List α} : atI (x :: y :: z :: w :: v :: r) 4 = some v := atI_nat (j := 4) rfl

/-! #### policies -/
abbrev Cel := Str × Int × Str
structure Pol where
  ord : List Str
  kind : Str
  width : Int
  tab : List Cel
def Pol.d (P : Pol) : D := .tup [.tup (P.ord.map D.str), .str P.kind, .int P.width, .tup (P.tab.map cellD)]
def orders6 : List (List Str) := [["note", "read", "stat"], ["note", "stat", "read"], ["read", "note", "stat"], ["read", "stat", "note"], ["stat", "note", "read"], ["stat", "read", "note"]]
def rels3 : List Str := ["less", "more", "same"]
def sizes2 : List Str := ["other", "same"]
def kinds2 : List Str := ["change", "write"]
def celLt (a b : Cel) : Bool := PySem.W.dataLt (pyD (cellD a)) (pyD (cellD b))
structure CelOk (w : Int) (c : Cel) : Prop where
  r : c.1 ∈ rels3
  g0 : -w ≤ c.2.1
  g1 : c.2.1 ≤ w
  s : c.2.2 ∈ sizes2
structure Pol.Ok (P : Pol) : Prop where
  o : P.ord ∈ orders6
  k : P.kind ∈ kinds2
  w0 : 1 ≤ P.width
  w1 : P.width ≤ 6
  c : ∀ c ∈ P.tab, CelOk P.width c
  asc : P.tab.Pairwise fun a b => celLt a b = true
  len : P.tab.length ≤ 1000
theorem words_strOk : ∀ x ∈ (["note", "read", "stat", "less", "more", "same", "other", "change", "write"] : List Str), PyData.strOk x = true := by
  have key : ((["note", "read", "stat", "less", "more", "same", "other", "change", "write"] : List Str).all PyData.strOk) = true := by decide +kernel
  exact fun x hx => List.all_eq_true.mp key x hx
theorem rel_strOk {x : Str} (h : x ∈ rels3) : PyData.strOk x = true := by
  refine words_strOk x ?_
  simp only [rels3, List.mem_cons, List.not_mem_nil, or_false] at h
  rcases h with rfl | rfl | rfl <;> simp
theorem size_strOk {x : Str} (h : x ∈ sizes2) : PyData.strOk x = true := by
  refine words_strOk x ?_
  simp only [sizes2, List.mem_cons, List.not_mem_nil, or_false] at h
  rcases h with rfl | rfl <;> simp
theorem kind_strOk {x : Str} (h : x ∈ kinds2) : PyData.strOk x = true := by
  refine words_strOk x ?_
  simp only [kinds2, List.mem_cons, List.not_mem_nil, or_false] at h
  rcases h with rfl | rfl <;> simp
theorem ord_strOk {o : List Str} (h : o ∈ orders6) : o.all PyData.strOk = true := by
  have key : (orders6.all fun o => o.all PyData.strOk) = true := by decide +kernel
  exact List.all_eq_true.mp key o h
theorem cel_shp {n : Nat} {w : Int} {c : Cel} (h : CelOk w c) : shp (n + 1) (cellD c) = true := by
  simp [cellD, shp, shps, rel_strOk h.r, size_strOk h.s]
/-! #### the program's look at policies -/
section
variable {μ : Store} {Q : D → Store → Prop}
end

end Lw

namespace Lw
open PySem PySem.Spec L2 DM
local macro_rules | `(tactic| walk_at "q") => `(tactic| try simp only [q_ok, q_okR, q_if, q_C, q_ret, q_var, q_at, q_e1, q_e2, q_call, q_callB, q_nil, q_cons, q_tup, q_lst, q_cel, q_ifexp, q_blAt, q_bOf, q_bTru, q_bAnd, q_bOr, q_bNot, q_vAnd, q_vOr, q_vNot, q_chain, q_pureS, at0, at1, at2, q_iseq, q_seqL, q_seqF, q_rg1, q_rg2, q_itup, q_tupAt, q_iany, q_anyL, q_anyF, q_anyT, q_anyS, q_meth, q_p2, q_p3, q_unpT, q_setA, q_setA0, q_rhoAt, q_contR, q_contB, q_contC, q_callK, q_oN, q_oS, q_intAt, q_cut, f_tupL, f_tupT, f_listL, f_listT, f_listCL, f_listCT, f_cutT, f_cutL, q_aftN, q_aftC, q_aftB, q_aftR, q_pr, q_mtE, q_mtV, q_lone, q_gV, q_fnV, q_mkV, q_mkS, q_fld, q_isi, isi_ii, isi_ib, isi_tt, isi_ss, q_starS, q_star, f_itT, f_itL, q_join, q_enum, q_only, q_noExN, lookF_hit, f_addN, q_tName, q_tNil, q_tCons, q_tStar,
  f_add, f_sub, f_mul, f_div, f_mod, f_pow, f_neg, f_cmp, f_abs, f_intI, f_intB, f_max, f_min, f_lenL, f_lenF, f_lenT, f_ixL, f_ixF, f_ixT, f_eqI, f_neI, f_eqB, f_neB, f_eqT, f_neT, f_isB, f_isnotB, f_truB, f_truI, f_repr0, startR, wipeR, List.map_cons, List.map_nil, List.length_cons, List.length_nil, List.cons_append, List.nil_append, List.append_nil, List.getElem?_cons_zero, List.getElem?_cons_succ, List.set_cons_zero, List.set_cons_succ, List.replicate_succ, List.replicate_zero, Nat.reduceAdd, Nat.reduceSub, Int.reduceToNat, Int.reducePow])
local macro_rules | `(tactic| walk_at "go") => `(tactic| repeat (first | rw [q_cont] | rw [q_tCons] | rw [q_tName] | rw [q_tNil] | rw [q_tStar] | rw [q_only] | rw [q_noExN] | rw [q_seq] | rw [q_snil] | ((with_reducible refine q_asg ?_); walk_at "q") | ((with_reducible refine q_sret ?_); walk_at "q") | ((with_reducible refine q_spar2 ?_); walk_at "q") | ((with_reducible refine q_spar3 ?_); walk_at "q") | ((with_reducible refine q_sunp ?_); walk_at "q") | ((with_reducible refine q_drop ?_); walk_at "q") | ((with_reducible refine q_asgT ?_); walk_at "q") | ((with_reducible refine q_noEx ?_); walk_at "q") | ((with_reducible refine q_asg2 ?_); walk_at "q") | ((with_reducible refine q_tDSubG ?_); walk_at "q") | ((with_reducible refine q_sif ?_); walk_at "q") | ((with_reducible refine q_for ?_); walk_at "q")))
local macro_rules | `(tactic| walk_at "g1") => `(tactic| repeat (first | rw [q_cont] | rw [q_tCons] | rw [q_tName] | rw [q_tNil] | rw [q_tStar] | rw [q_only] | rw [q_noExN] | rw [q_seq] | rw [q_snil] | ((with_reducible refine q_asg ?_); walk_at "q") | ((with_reducible refine q_sret ?_); walk_at "q") | ((with_reducible refine q_spar2 ?_); walk_at "q") | ((with_reducible refine q_spar3 ?_); walk_at "q") | ((with_reducible refine q_sunp ?_); walk_at "q") | ((with_reducible refine q_drop ?_); walk_at "q") | ((with_reducible refine q_asgT ?_); walk_at "q") | ((with_reducible refine q_noEx ?_); walk_at "q") | ((with_reducible refine q_asg2 ?_); walk_at "q") | ((with_reducible refine q_tDSubG ?_); walk_at "q") | ((with_reducible refine q_for ?_); walk_at "q")))
local macro_rules | `(tactic| walk_at "w") => `(tactic| try simp only [f_eqW, f_neW, q_okR, q_blAt, weq_advance_advance, weq_advance_set_back, weq_advance_write, weq_advance_copy_in, weq_advance_touch, weq_set_back_advance, weq_set_back_set_back, weq_set_back_write, weq_set_back_copy_in, weq_set_back_touch, weq_write_advance, weq_write_set_back, weq_write_write, weq_write_copy_in, weq_write_touch, weq_copy_in_advance, weq_copy_in_set_back, weq_copy_in_write, weq_copy_in_copy_in, weq_copy_in_touch, weq_touch_advance, weq_touch_set_back, weq_touch_write, weq_touch_copy_in, weq_touch_touch, if_true, if_false, Bool.false_eq_true, Bool.not_true, Bool.not_false])

/-! #### cells(width), by the program -/
theorem fcells {w : Int} (hw : 0 ≤ w ∧ w ≤ 1000) : F_cells [.int w] = some ((allC w).map cellD) := by
  show (G_cells (startR 4 [.int w])).map (·.1) = _
  exact GP.cells_eq hw
theorem atoms1 {w : Int} : ∃ us, GP.atomsV [D.int w] = some us := ⟨_, rfl⟩
theorem allC_len {w : Int} (hw : 0 ≤ w ∧ w ≤ 10) : (allC w).length ≤ 126 := by
  unfold allC
  rw [List.length_append, List.length_append, row_len, row_len, row_len]
  omega
theorem iCells_ok {A : CM D} {ρ : Rho} {μ : Store} {w : Int} {Q : IV → Store → Prop} (hw : 0 ≤ w ∧ w ≤ 1000) (h : Ok (A ρ μ) fun d μ' => d = .int w ∧ Q ((allC w).map cellD, anyG) μ') : Ok (GP.iGen 1 F_cells (aCons A aNil) ρ μ) Q := by
  refine GP.q_iGen ?_
  rw [q_cons]
  refine h.mono ?_
  rintro d μ1 ⟨rfl, hq⟩
  rw [q_nil]
  obtain ⟨us, hu⟩ := atoms1 (w := w)
  exact ⟨us, _, hu, fcells hw, rfl, GP.tupl_cells _, hq⟩
theorem listCells_ok {A : CM D} {ρ : Rho} {μ : Store} {w : Int} {Q : D → Store → Prop} (hw : 0 ≤ w ∧ w ≤ 10) (h : Ok (A ρ μ) fun d μ' => d = .int w ∧ Q (.lst ((allC w).map cellD)) μ') : Ok (GP.eListG (GP.iGen 1 F_cells (aCons A aNil)) ρ μ) Q := by
  refine GP.q_listG (iCells_ok (w := w) (by omega) (h.mono ?_))
  rintro d μ1 ⟨rfl, hq⟩
  have := allC_len (w := w) hw
  refine ⟨rfl, rfl, size_ok ?_, hq⟩
  rw [List.length_map]
  omega
theorem f_inLC2 {neg : Bool} {cs : List Cell} {x : Cell} {μ : Store} : DM.Fin neg (cellD x) (.lst (cs.map cellD)) μ = DM.Fin neg (cellD x) (.tup (cs.map cellD)) μ := by
  unfold DM.Fin
  have e2 : toPyS μ (.tup (cs.map cellD)) = some (.tuple (cs.map cellP)) := by simp only [toPyS, toPy, toPys_cells, Option.map_some]
  have e3 : toPyS μ (.lst (cs.map cellD)) = some (.list (cs.map cellP)) := by simp only [toPyS, toPy, toPys_cells, Option.map_some]
  simp only [e2, e3]
  rfl
theorem ne_cell {neg : Bool} {c : Cell} {μ : Store} (h : cellOk c = true) : Feq neg (cellD c) (cellD c) μ = okR (.bl (!neg)) μ := by
  unfold cellOk at h
  rw [Bool.and_eq_true] at h
  have hs : shp 60 (cellD c) = true := by
    show (PyData.strOk c.1 && (true && (PyData.strOk c.2.2 && true))) = true
    rw [h.1, h.2]
    rfl
  rw [f_eqG hs hs (by unfold cellD; simp [apt, apts]), D.beq_rfl]
  cases neg <;> rfl

/-! #### cell_of, by the program -/
def relS (kept seen : Int) : Str := if (seen == kept) = true then "same" else if decide (seen < kept) = true then "less" else "more"
def cutI (gap w : Int) : Int := if (if gap < w then gap else w) > -w then (if gap < w then gap else w) else -w
def szS (a b : Int) : Str := if (a == b) = true then "same" else "other"
def cellI (w stamp size tick st2 sz2 : Int) : Cell := (relS stamp st2, cutI (tick - stamp) w, szS sz2 size)

/-! #### judging: one range -/
def chg (ws : List Str) : Bool := ws.any (fun w => !(w == ("touch" : Str)))
def hasA (ws zs : List Str) : Bool := ws.any (fun w => decide (w ∈ zs))
def ah (o : List Str) (a b : Str) : Bool := match idxS a o, idxS b o with
  | some i, some j => decide ((i : Int) < (j : Int))
  | _, _ => false
theorem ord_idx {o : List Str} (h : o ∈ orders6) {a : Str} (ha : a ∈ (["note", "read", "stat"] : List Str)) : ∃ i, idxS a o = some i := by
  have key : (orders6.all fun o => (["note", "read", "stat"] : List Str).all fun a => (idxS a o).isSome) = true := by decide +kernel
  have := List.all_eq_true.mp (List.all_eq_true.mp key o h) a ha
  exact Option.isSome_iff_exists.mp this
theorem changes_ok {ws : List Str} {b : D} {μ : Store} {Q : D → Store → Prop} (hp : Clo μ) (hl : ws.length ≤ 1000000) (h : Q (.bl (chg ws)) μ) : Ok (F_changes [.tup [.tup (ws.map D.str), b]] μ) Q := by
  refine q_fn rfl ?_
  unfold S_changes
  walk_at "go"
  refine q_lcmC D.str (fun _ => true) (fun w => .bl (!(w == ("touch" : Str)))) ws hp hl ?_ ?_ ?_
  · walk_at "q"
    exact ⟨by trivial, by trivial, fun _ => rfl⟩
  · intro x o hx ho
    refine ⟨_, rfl, ⟨rfl, rfl⟩, fun _ => ?_⟩
    walk_at "q"
    exact ⟨by trivial, by trivial, rfl⟩
  · rw [List.filter_eq_self.mpr (by simp), f_anyM]
    exact h
theorem has_ok {ws zs : List Str} {b : D} {μ : Store} {Q : D → Store → Prop} (hp : Clo μ) (hl : ws.length ≤ 1000000) (hw : ws.all PyData.strOk = true) (hz : zs.all PyData.strOk = true) (h : Q (.bl (hasA ws zs)) μ) : Ok (F_has_any [.tup [.tup (ws.map D.str), b], .tup (zs.map D.str)] μ) Q := by
  refine q_fn rfl ?_
  unfold S_has_any
  walk_at "go"
  refine q_lcmC D.str (fun _ => true) (fun w => .bl (decide (w ∈ zs))) ws hp hl ?_ ?_ ?_
  · walk_at "q"
    exact ⟨by trivial, by trivial, fun _ => rfl⟩
  · intro x o hx ho
    refine ⟨_, rfl, ⟨rfl, rfl⟩, fun _ => ?_⟩
    walk_at "q"
    rw [f_inTS hz (List.all_eq_true.mp hw x hx)]
    exact ⟨rfl, rfl, rfl⟩
  · rw [List.filter_eq_self.mpr (by simp), f_anyM]
    exact h
theorem isTup_strs {μ : Store} : ∀ xs : List Str, isTup μ (.tup (xs.map D.str)) = true
  | [] => rfl
  | x :: r => by
    have := isTup_strs (μ := μ) r
    unfold isTup at this ⊢
    simp only [List.map_cons, List.all_cons, notInt, Bool.true_and]
    exact this
theorem ahead_ok {o : List Str} {a b : Str} {μ : Store} {Q : D → Store → Prop} (ho : o ∈ orders6) (ha : a ∈ (["note", "read", "stat"] : List Str)) (hb : b ∈ (["note", "read", "stat"] : List Str)) (h : Q (.bl (ah o a b)) μ) : Ok (F_stands_ahead [.tup (o.map D.str), .str a, .str b] μ) Q := by
  obtain ⟨i, hi⟩ := ord_idx ho ha
  obtain ⟨j, hj⟩ := ord_idx ho hb
  refine q_fn rfl ?_
  unfold S_stands_ahead
  walk_at "go"
  refine ⟨isTup_strs o, ?_⟩
  rw [f_tidx, hi]
  walk_at "q"
  refine ⟨isTup_strs o, ?_⟩
  rw [f_tidx, hj]
  simp only [Option.map_some]
  walk_at "q"
  unfold ah at h
  rw [hi, hj] at h
  exact h
theorem ne_tup2 {a b c d : Str} {μ : Store} (ha : PyData.strOk a = true) (hb : PyData.strOk b = true) (hc : PyData.strOk c = true) (hd : PyData.strOk d = true) : Feq true (.tup [.str a, .str b]) (.tup [.str c, .str d]) μ = okR (.bl (!((a == c) && (b == d)))) μ := by
  show (match toPyS μ (.tup [.str a, .str b]), toPyS μ (.tup [.str c, .str d]) with
    | some p, some q => if SeqAt.shaped p = true ∧ SeqAt.shaped q = true then okR (.bl (if true = true then !PyData.eqv p q else PyData.eqv p q)) μ else none
    | _, _ => none) = _
  simp only [toPyS, toPy, toPys, Option.map_some]
  rw [if_pos ⟨by simp [SeqAt.shaped, PyData.canLay0, PyData.canLayAll0, PyData.depth, PyData.depthAll, ha, hb], by simp [SeqAt.shaped, PyData.canLay0, PyData.canLayAll0, PyData.depth, PyData.depthAll, hc, hd]⟩]
  simp [PyData.eqv, PyData.eqvAll]
def bnd (o : List Str) (rel size : Str) : Bool := if ah o "note" "read" = true then true else if ah o "note" "stat" = true then !((rel == ("same" : Str)) && (size == ("same" : Str))) else false
theorem bounded_ok {o : List Str} {rel size : Str} {μ : Store} {Q : D → Store → Prop} (ho : o ∈ orders6) (hr : PyData.strOk rel = true) (hs : PyData.strOk size = true) (h : Q (.bl (bnd o rel size)) μ) : Ok (F_is_bounded [.tup (o.map D.str), .str rel, .str size] μ) Q := by
  refine q_fn rfl ?_
  unfold S_is_bounded
  walk_at "go"
  refine ahead_ok ho (by simp) (by simp) ?_
  walk_at "q"
  unfold bnd at h
  generalize ah o "note" "read" = a at h ⊢
  cases a
  · rw [if_neg (by decide)] at h ⊢
    walk_at "go"
    refine ahead_ok ho (by simp) (by simp) ?_
    walk_at "q"
    generalize ah o "note" "stat" = b at h ⊢
    cases b
    · rw [if_neg (by decide)] at h ⊢
      exact h
    · rw [if_pos rfl] at h ⊢
      refine ⟨size_ok (by simp), size_ok (by simp), ?_⟩
      rw [ne_tup2 hr hs (by decide +kernel) (by decide +kernel)]
      exact h
  · rw [if_pos rfl] at h ⊢
    walk_at "go"
    exact h
def badD (ws : List Str) (back : Int) (o : List Str) (kind rel size : Str) : D :=
  if (if (!chg ws) = true then true else if (size == ("other" : Str)) = true then !hasA ws ["copyresize", "resize"] else false) = true then .non else
  let low : D := if ah o "note" "stat" = true then .non else .int (-back)
  if (if (rel == ("more" : Str)) = true then true else if (kind == ("write" : Str)) = true then hasA ws ["copy", "copyresize", "touch"] else false) = true then .tup [low, .non] else
  let most : Int := back - (if (rel == ("less" : Str)) = true then 1 else 0)
  if decide (most < 0) = true then .non else .tup [low, if bnd o rel size = true then .int most else .non]
theorem bad_ok {ws : List Str} {back : Int} {o : List Str} {kind rel size : Str} {μ : Store} {Q : D → Store → Prop} (hp : Clo μ) (hl : ws.length ≤ 1000000) (hw : ws.all PyData.strOk = true) (ho : o ∈ orders6) (hr : PyData.strOk rel = true) (hs : PyData.strOk size = true) (h : Q (badD ws back o kind rel size) μ) :
    Ok (F_bad_range [.tup [.tup (ws.map D.str), .int back], .tup (o.map D.str), .str kind, .str rel, .str size] μ) Q := by
  refine q_fn rfl ?_
  unfold S_bad_range
  walk_at "g1"
  unfold badD at h
  generalize hc1 : (if (!chg ws) = true then true else if (size == ("other" : Str)) = true then !hasA ws ["copyresize", "resize"] else false) = c1 at h
  refine q_sif (Ok.mono (Q := fun b μ' => b = c1 ∧ μ' = μ) ?_ ?_)
  · walk_at "q"
    refine changes_ok hp hl ?_
    walk_at "q"
    generalize chg ws = a at hc1 ⊢
    cases a
    · rw [if_pos (by decide)] at hc1 ⊢
      subst hc1
      exact ⟨rfl, by trivial⟩
    · rw [if_neg (by decide)] at hc1 ⊢
      walk_at "q"
      split at hc1
      · rw [if_pos (by assumption)]
        refine has_ok (zs := ["copyresize", "resize"]) hp hl hw (by decide +kernel) ?_
        walk_at "q"
        exact ⟨hc1, by trivial⟩
      · rw [if_neg (by assumption)]
        exact ⟨hc1, by trivial⟩
  rintro b μ' ⟨rfl, rfl⟩
  clear hc1
  cases b
  · rw [if_neg (by decide)] at h ⊢
    rw [q_snil, q_cont, q_seq]
    generalize hlow : (if ah o "note" "stat" = true then D.non else .int (-back)) = low at h
    refine q_asg (Ok.mono (Q := fun d μ'' => d = low ∧ μ'' = μ') ?_ ?_)
    · walk_at "q"
      refine ahead_ok ho (by simp) (by simp) ?_
      walk_at "q"
      generalize ah o "note" "stat" = a at hlow ⊢
      cases a
      · rw [if_neg (by decide)] at hlow ⊢
        exact ⟨hlow, by trivial⟩
      · rw [if_pos rfl] at hlow ⊢
        exact ⟨hlow, by trivial⟩
    rintro d μ'' ⟨rfl, rfl⟩
    clear hlow
    walk_at "g1"
    generalize hc2 : (if (rel == ("more" : Str)) = true then true else if (kind == ("write" : Str)) = true then hasA ws ["copy", "copyresize", "touch"] else false) = c2 at h
    refine q_sif (Ok.mono (Q := fun b μ' => b = c2 ∧ μ' = μ'') ?_ ?_)
    · walk_at "q"
      generalize (rel == ("more" : Str)) = a at hc2 ⊢
      cases a
      · rw [if_neg (by decide)] at hc2 ⊢
        generalize (kind == ("write" : Str)) = b at hc2 ⊢
        cases b
        · rw [if_neg (by decide)] at hc2 ⊢
          exact ⟨hc2, by trivial⟩
        · rw [if_pos rfl] at hc2 ⊢
          refine has_ok (zs := ["copy", "copyresize", "touch"]) hp hl hw (by decide +kernel) ?_
          walk_at "q"
          exact ⟨hc2, by trivial⟩
      · rw [if_pos rfl] at hc2 ⊢
        exact ⟨hc2, by trivial⟩
    rintro b μ' ⟨rfl, rfl⟩
    clear hc2
    cases b
    · rw [if_neg (by decide)] at h ⊢
      walk_at "g1"
      generalize hm : back - (if (rel == ("less" : Str)) = true then (1 : Int) else 0) = most at h ⊢
      walk_at "go"
      by_cases hneg : decide (most < 0) = true
      · rw [if_pos hneg] at h ⊢
        walk_at "go"
        exact h
      · rw [if_neg hneg] at h ⊢
        walk_at "go"
        refine bounded_ok ho hr hs ?_
        walk_at "q"
        generalize bnd o rel size = z at h ⊢
        cases z
        · rw [if_neg (by decide)] at h ⊢
          exact ⟨size_ok (by simp), h⟩
        · rw [if_pos rfl] at h ⊢
          exact ⟨size_ok (by simp), h⟩
    · rw [if_pos rfl] at h ⊢
      walk_at "go"
      exact ⟨size_ok (by simp), h⟩
  · rw [if_pos rfl] at h ⊢
    walk_at "go"
    exact h

/-! #### judging: cells and tables -/
def optD : Option Int → D
  | none => .non
  | some i => .int i
def spanO (ws : List Str) (back : Int) (o : List Str) (kind rel size : Str) : Option (Option Int × Option Int) :=
  if (if (!chg ws) = true then true else if (size == ("other" : Str)) = true then !hasA ws ["copyresize", "resize"] else false) = true then none else
  if (if (rel == ("more" : Str)) = true then true else if (kind == ("write" : Str)) = true then hasA ws ["copy", "copyresize", "touch"] else false) = true then some (if ah o "note" "stat" = true then none else some (-back), none) else
  if decide (back - (if (rel == ("less" : Str)) = true then 1 else 0) < 0) = true then none else some (if ah o "note" "stat" = true then none else some (-back), if bnd o rel size = true then some (back - (if (rel == ("less" : Str)) = true then 1 else 0)) else none)
def spanD : Option (Option Int × Option Int) → D
  | none => .non
  | some (a, b) => .tup [optD a, optD b]
theorem badD_span {ws : List Str} {back : Int} {o : List Str} {kind rel size : Str} : badD ws back o kind rel size = spanD (spanO ws back o kind rel size) := by
  unfold badD spanO
  generalize (if (!chg ws) = true then true else if (size == ("other" : Str)) = true then !hasA ws ["copyresize", "resize"] else false) = c1
  generalize (if (rel == ("more" : Str)) = true then true else if (kind == ("write" : Str)) = true then hasA ws ["copy", "copyresize", "touch"] else false) = c2
  generalize ah o "note" "stat" = a
  generalize bnd o rel size = b
  cases c1 with
  | true => rfl
  | false =>
    cases c2 with
    | true => cases a <;> rfl
    | false =>
      simp only [Bool.false_eq_true, if_false]
      by_cases hm : back - (if (rel == ("less" : Str)) = true then (1 : Int) else 0) < 0
      · simp only [hm, decide_true, if_true, spanD]
      · simp only [hm, decide_false, Bool.false_eq_true, if_false, spanD]
        cases a <;> cases b <;> rfl
def loB : Option Int → Int → Bool
  | some l, gap => decide (l > gap)
  | none, _ => false
def hiB : Option Int → Int → Bool
  | some h, gap => decide (h ≥ gap)
  | none, _ => true
def meetsB (sp : Option Int × Option Int) (gap w : Int) : Bool :=
  if (if decide (gap < w) = true then loB sp.1 gap else false) = true then false
  else if (gap == -w) = true then true else hiB sp.2 gap
def isBad (ws : List Str) (back : Int) (o : List Str) (kind : Str) (w : Int) (c : Cell) : Bool := match spanO ws back o kind c.1 c.2.2 with
  | none => false
  | some sp => meetsB sp c.2.1 w
def badC (ws : List Str) (back : Int) (o : List Str) (kind : Str) (w : Int) : List Cell := (allC w).filter (isBad ws back o kind w)
def safeC (ws : List Str) (back : Int) (o : List Str) (kind : Str) (w : Int) : List Cell := (allC w).filter fun c => !isBad ws back o kind w c
theorem f_isTN {xs : List D} {μ : Store} {neg : Bool} : Fis neg (.tup xs) .non μ = okR (.bl neg) μ := by cases neg <;> rfl
theorem f_isIN {i : Int} {μ : Store} {neg : Bool} : Fis neg (.int i) .non μ = okR (.bl neg) μ := by cases neg <;> rfl
theorem f_isNN {μ : Store} {neg : Bool} : Fis neg .non .non μ = okR (.bl (!neg)) μ := by cases neg <;> rfl
theorem meets_ok {a b : Option Int} {gap w : Int} {μ : Store} {Q : D → Store → Prop} (h : Q (.bl (meetsB (a, b) gap w)) μ) : Ok (F_meets [.tup [optD a, optD b], .int gap, .int w] μ) Q := by
  refine q_fn rfl ?_
  unfold S_meets
  walk_at "g1"
  unfold meetsB at h
  refine q_sif (Ok.mono (Q := fun c μ' => c = (if decide (gap < w) = true then loB a gap else false) ∧ μ' = μ) ?_ ?_)
  · walk_at "q"
    by_cases h1 : decide (gap < w) = true
    · rw [if_pos h1, if_pos h1]
      cases a with
      | none =>
        unfold optD
        rw [f_isNN]
        walk_at "q"
        exact ⟨by trivial, by trivial⟩
      | some l =>
        unfold optD
        rw [f_isIN]
        walk_at "q"
        exact ⟨by trivial, by trivial⟩
    · rw [if_neg h1, if_neg h1]
      exact ⟨by trivial, by trivial⟩
  rintro c μ' ⟨rfl, rfl⟩
  by_cases h1 : (if decide (gap < w) = true then loB a gap else false) = true
  · rw [if_pos h1] at h ⊢
    walk_at "go"
    exact h
  · rw [if_neg h1] at h ⊢
    walk_at "g1"
    by_cases h2 : (gap == -w) = true
    · rw [if_pos h2] at h ⊢
      exact h
    · rw [if_neg h2] at h ⊢
      cases b with
      | none =>
        unfold optD
        rw [f_isNN]
        walk_at "q"
        exact h
      | some l =>
        unfold optD
        rw [f_isIN]
        walk_at "q"
        exact h
structure WOk (ws : List Str) : Prop where
  len : ws.length ≤ 1000000
  str : ws.all PyData.strOk = true
def wldD (ws : List Str) (back : Int) : D := .tup [.tup (ws.map D.str), .int back]
theorem cell_str {w : Int} {c : Cell} (h : c ∈ allC w) : PyData.strOk c.1 = true ∧ PyData.strOk c.2.2 = true := by
  have := allC_ok h
  unfold cellOk at this
  rw [Bool.and_eq_true] at this
  exact this
theorem take_filter {α : Type} {p : α → Bool} {xs : List α} {i : Nat} {x : α} (h : xs[i]? = some x) : (xs.take (i + 1)).filter p = (xs.take i).filter p ++ (if p x = true then [x] else []) := by
  obtain ⟨hi, rfl⟩ := List.getElem?_eq_some_iff.mp h
  rw [List.take_succ_eq_append_getElem hi, List.filter_append]
  congr 1
  by_cases hp : p xs[i] = true
  · simp [hp]
  · simp [hp]
theorem badcells_ok {ws : List Str} {back : Int} {o : List Str} {kind : Str} {w : Int} {μ : Store} {Q : D → Store → Prop} (hp : Clo μ) (hw : WOk ws) (ho : o ∈ orders6) (hwd : 0 ≤ w ∧ w ≤ 10) (h : Q (.tup ((badC ws back o kind w).map cellD)) μ) :
    Ok (F_bad_cells [wldD ws back, .tup (o.map D.str), .str kind, .int w] μ) Q := by
  refine q_fsealG (q_fn rfl ?_)
  unfold S_bad_cells
  walk_at "g1"
  refine ⟨size_ok (by simp), ?_⟩
  refine q_for ?_
  refine iCells_ok (w := w) (by omega) ?_
  walk_at "q"
  refine ⟨by trivial, ?_⟩
  have hl := allC_len hwd
  refine loop_ok (fun i ρ μ' => μ' = μ ++ [.lst ((((allC w).take i).filter (isBad ws back o kind w)).map cellD)] ∧ ∃ y5 y6 y7 y8, ρ = [some (wldD ws back), some (.tup (o.map D.str)), some (.str kind), some (.int w), some (.ref μ.length), y5, y6, y7, y8]) (fun _ _ _ _ => rfl) ?_ ?_ ⟨by simp, _, _, _, _, rfl⟩
  · rintro i d ρ μ' ed ⟨rfl, y5, y6, y7, y8, rfl⟩
    rw [List.getElem?_map] at ed
    obtain ⟨c, ec, rfl⟩ := Option.map_eq_some_iff.mp ed
    have hc : c ∈ allC w := List.mem_of_getElem? ec
    obtain ⟨s1, s2⟩ := cell_str hc
    generalize hacc : ((allC w).take i).filter (isBad ws back o kind w) = acc
    have hal : acc.length ≤ 126 := by
      rw [← hacc]
      refine Nat.le_trans (List.length_filter_le _ _) ?_
      rw [List.length_take]
      omega
    have hcl : Clo (μ ++ [.lst (acc.map cellD)]) := hp.app (o := .lst (acc.map cellD)) (noRefs_mono (noRef_cells _))
    refine ⟨_, rfl, ?_⟩
    unfold B_bad_cells_1 wldD
    walk_at "g1"
    refine bad_ok hcl hw.len hw.str ho s1 s2 ?_
    walk_at "q"
    rw [badD_span]
    rw [take_filter ec, hacc]
    have hg : (μ ++ [Ob.lst (acc.map cellD)])[μ.length]? = some (.lst (acc.map cellD)) := by simp
    refine q_sif (Ok.mono (Q := fun b μ' => b = isBad ws back o kind w c ∧ μ' = μ ++ [.lst (acc.map cellD)]) ?_ ?_)
    · unfold isBad
      generalize spanO ws back o kind c.1 c.2.2 = sp
      cases sp with
      | none =>
        walk_at "q"
        unfold spanD
        rw [f_isNN]
        walk_at "q"
        rw [if_neg (by decide)]
        exact ⟨by trivial, by trivial⟩
      | some p =>
        obtain ⟨a, b⟩ := p
        walk_at "q"
        unfold spanD
        rw [f_isTN]
        walk_at "q"
        rw [if_pos (by trivial)]
        refine meets_ok ?_
        walk_at "q"
        exact ⟨by trivial, by trivial⟩
    · rintro b μ' ⟨rfl, rfl⟩
      cases hb : isBad ws back o kind w c with
      | false =>
        rw [if_neg (by decide)]
        walk_at "go"
        simp only [Bool.false_eq_true, if_false, List.append_nil]
        exact ⟨by trivial, _, _, _, _, rfl⟩
      | true =>
        rw [if_pos rfl]
        walk_at "go"
        refine ⟨isList_ref hg, size_ok (by simp), ?_⟩
        rw [f_app hg (small1000 (by rw [List.length_map]; omega))]
        walk_at "q"
        simp only [if_true, List.map_append, List.map_cons, List.map_nil]
        refine ⟨?_, _, _, _, _, rfl⟩
        rw [List.set_append_right _ _ (by omega)]
        simp only [Nat.sub_self, List.set_cons_zero]
        rfl
  · rintro ρ μ' ⟨rfl, y5, y6, y7, y8, rfl⟩
    rw [List.length_map, List.take_length]
    have e : (allC w).filter (isBad ws back o kind w) = badC ws back o kind w := rfl
    rw [e]
    have hg : (μ ++ [Ob.lst ((badC ws back o kind w).map cellD)])[μ.length]? = some (.lst ((badC ws back o kind w).map cellD)) := by simp
    walk_at "go"
    rw [f_tupR hg]
    walk_at "q"
    have tk : (μ ++ [Ob.lst ((badC ws back o kind w).map cellD)]).take μ.length = μ := by simp
    rw [tk]
    exact ⟨hp.all, _, unref_pure (noRef_cells _), h⟩

theorem bad_mem {ws : List Str} {back : Int} {o : List Str} {kind : Str} {w : Int} {c : Cell} (h : c ∈ allC w) : decide (c ∈ badC ws back o kind w) = isBad ws back o kind w c := by
  rw [Bool.eq_iff_iff]
  simp [badC, List.mem_filter, h]
theorem badC_ok {ws : List Str} {back : Int} {o : List Str} {kind : Str} {w : Int} : (badC ws back o kind w).all cellOk = true := by
  rw [List.all_eq_true]
  intro c hc
  exact allC_ok (List.mem_filter.mp hc).1
theorem safe_eq {ws : List Str} {back : Int} {o : List Str} {kind : Str} {w : Int} : (allC w).filter (fun c => !decide (c ∈ badC ws back o kind w)) = safeC ws back o kind w := by
  unfold safeC
  refine List.filter_congr fun c hc => ?_
  rw [bad_mem hc]
def words5 : List Str := ["copy", "copyresize", "resize", "touch", "write"]
theorem w5_ok : words5.all PyData.strOk = true := by decide +kernel

end Lw

namespace Lw
open PySem PySem.Spec L2 DM
local macro_rules | `(tactic| walk_at "q") => `(tactic| try simp only [q_ok, q_okR, q_if, q_C, q_ret, q_var, q_at, q_e1, q_e2, q_call, q_callB, q_nil, q_cons, q_tup, q_lst, q_cel, q_ifexp, q_blAt, q_bOf, q_bTru, q_bAnd, q_bOr, q_bNot, q_vAnd, q_vOr, q_vNot, q_chain, q_pureS, at0, at1, at2, q_iseq, q_seqL, q_seqF, q_rg1, q_rg2, q_itup, q_tupAt, q_iany, q_anyL, q_anyF, q_anyT, q_anyS, q_meth, q_p2, q_p3, q_unpT, q_setA, q_setA0, q_rhoAt, q_contR, q_contB, q_contC, q_callK, q_oN, q_oS, q_intAt, q_cut, f_tupL, f_tupT, f_listL, f_listT, f_listCL, f_listCT, f_cutT, f_cutL, q_aftN, q_aftC, q_aftB, q_aftR, q_pr, q_mtE, q_mtV, q_lone, q_gV, q_fnV, q_mkV, q_mkS, q_fld, q_isi, isi_ii, isi_ib, isi_tt, isi_ss, q_starS, q_star, f_itT, f_itL, q_join, q_enum, q_only, q_noExN, lookF_hit, f_addN, q_tName, q_tNil, q_tCons, q_tStar,
  f_add, f_sub, f_mul, f_div, f_mod, f_pow, f_neg, f_cmp, f_abs, f_intI, f_intB, f_max, f_min, f_lenL, f_lenF, f_lenT, f_ixL, f_ixF, f_ixT, f_eqI, f_neI, f_eqB, f_neB, f_eqT, f_neT, f_isB, f_isnotB, f_truB, f_truI, f_repr0, startR, wipeR, List.map_cons, List.map_nil, List.length_cons, List.length_nil, List.cons_append, List.nil_append, List.append_nil, List.getElem?_cons_zero, List.getElem?_cons_succ, List.set_cons_zero, List.set_cons_succ, List.replicate_succ, List.replicate_zero, Nat.reduceAdd, Nat.reduceSub, Int.reduceToNat, Int.reducePow])
local macro_rules | `(tactic| walk_at "go") => `(tactic| repeat (first | rw [q_cont] | rw [q_tCons] | rw [q_tName] | rw [q_tNil] | rw [q_tStar] | rw [q_only] | rw [q_noExN] | rw [q_seq] | rw [q_snil] | ((with_reducible refine q_asg ?_); walk_at "q") | ((with_reducible refine q_sret ?_); walk_at "q") | ((with_reducible refine q_spar2 ?_); walk_at "q") | ((with_reducible refine q_spar3 ?_); walk_at "q") | ((with_reducible refine q_sunp ?_); walk_at "q") | ((with_reducible refine q_drop ?_); walk_at "q") | ((with_reducible refine q_asgT ?_); walk_at "q") | ((with_reducible refine q_noEx ?_); walk_at "q") | ((with_reducible refine q_asg2 ?_); walk_at "q") | ((with_reducible refine q_tDSubG ?_); walk_at "q") | ((with_reducible refine q_sif ?_); walk_at "q") | ((with_reducible refine q_for ?_); walk_at "q")))
local macro_rules | `(tactic| walk_at "g1") => `(tactic| repeat (first | rw [q_cont] | rw [q_tCons] | rw [q_tName] | rw [q_tNil] | rw [q_tStar] | rw [q_only] | rw [q_noExN] | rw [q_seq] | rw [q_snil] | ((with_reducible refine q_asg ?_); walk_at "q") | ((with_reducible refine q_sret ?_); walk_at "q") | ((with_reducible refine q_spar2 ?_); walk_at "q") | ((with_reducible refine q_spar3 ?_); walk_at "q") | ((with_reducible refine q_sunp ?_); walk_at "q") | ((with_reducible refine q_drop ?_); walk_at "q") | ((with_reducible refine q_asgT ?_); walk_at "q") | ((with_reducible refine q_noEx ?_); walk_at "q") | ((with_reducible refine q_asg2 ?_); walk_at "q") | ((with_reducible refine q_tDSubG ?_); walk_at "q") | ((with_reducible refine q_for ?_); walk_at "q")))
local macro_rules | `(tactic| walk_at "w") => `(tactic| try simp only [f_eqW, f_neW, q_okR, q_blAt, weq_advance_advance, weq_advance_set_back, weq_advance_write, weq_advance_copy_in, weq_advance_touch, weq_set_back_advance, weq_set_back_set_back, weq_set_back_write, weq_set_back_copy_in, weq_set_back_touch, weq_write_advance, weq_write_set_back, weq_write_write, weq_write_copy_in, weq_write_touch, weq_copy_in_advance, weq_copy_in_set_back, weq_copy_in_write, weq_copy_in_copy_in, weq_copy_in_touch, weq_touch_advance, weq_touch_set_back, weq_touch_write, weq_touch_copy_in, weq_touch_touch, if_true, if_false, Bool.false_eq_true, Bool.not_true, Bool.not_false])

/-! #### worlds and orders drawn -/
theorem take_ok : DrawP F__law_take := take2_okP
theorem of_eq : F__law_of = pickF F__law_take := rfl
theorem strs_noRef (xs : List Str) : noRefs 0 (xs.map D.str) = true := noRefs_all.mpr fun d hd => by
  obtain ⟨x, _, rfl⟩ := List.mem_map.mp hd
  rfl
theorem map_erase' {α β : Type} (f : α → β) : ∀ (xs : List α) (k : Nat), (xs.map f).eraseIdx k = (xs.eraseIdx k).map f
  | [], k => by simp
  | x :: r, 0 => by simp
  | x :: r, k + 1 => by simp [map_erase' f r k]
theorem lcI {I : CM IV} {g : D → Rho → Option Rho} {T : CM Bool} {E : CM D} {own : List Nat} {ρ : Rho} {μ : Store} {Q : D → Store → Prop} (h : Ok (I ρ μ) fun q μ1 => μ1.length = μ.length ∧ Ok (eSeal (eLC (CM.ret q) g T E own) ρ μ1) Q) : Ok (eSeal (eLC I g T E own) ρ μ) Q := by
  obtain ⟨q, μ1, e, hl, h⟩ := h.get
  have : eSeal (eLC I g T E own) ρ μ = eSeal (eLC (CM.ret q) g T E own) ρ μ1 := by
    unfold eSeal eLC CM.bind CM.ret
    rw [e, hl]
  rw [this]
  exact h
theorem strs_of {ys : List D} {P : Str → Prop} (h : ∀ y ∈ ys, ∃ u, P u ∧ y = .str u) : ∃ us : List Str, ys = us.map D.str ∧ ∀ u ∈ us, P u := by
  induction ys with
  | nil => exact ⟨[], rfl, fun u hu => by simp at hu⟩
  | cons y r ih =>
    obtain ⟨u, hu, rfl⟩ := h y List.mem_cons_self
    obtain ⟨us, rfl, hus⟩ := ih fun z hz => h z (List.mem_cons_of_mem _ hz)
    exact ⟨u :: us, rfl, fun v hv => (List.mem_cons.mp hv).elim (fun e => by rw [e]; exact hu) (hus v)⟩
theorem world_ok {R : List Own} {b : Own} {μ : Store} {p : Nat} {c : Int} {Q : D → Store → Prop} (h : Hold (b :: poolA p c :: R) μ) (hc : c < 800000)
    (q : ∀ (ws : List Str) (bk : Int) (μ' : Store), (∀ w ∈ ws, w ∈ words5) → ws.length ≤ 5 → 0 ≤ bk → bk ≤ 4 → Hold (b :: poolA p (c + 8) :: R) μ' → Q (wldD ws bk) μ') : Ok (F__law_world [.ref p, .int 5] μ) Q := by
  have hpl := h.pl.lt
  refine q_fsealG (q_fn rfl ?_)
  unfold S__law_world
  rw [q_seq]
  refine q_asg ?_
  walk_at "q"
  refine ⟨size_ok (by simp), ?_⟩
  have h1 := h.enter.push (o := .lst (words5.map D.str)) (noRefs_mono (strs_noRef _))
  rw [show ([D.str "copy", D.str "copyresize", D.str "resize", D.str "touch", D.str "write"] : List D) = words5.map D.str from rfl]
  have hn1 : μ.length < (μ ++ [Ob.lst (words5.map D.str)]).length := by simp
  generalize hm1 : μ ++ [Ob.lst (words5.map D.str)] = μ1 at h1 hn1 ⊢
  generalize hn1e : μ.length = n1 at h1 hn1 ⊢
  rw [q_cont, q_seq]
  refine q_asg ?_
  refine lcI (Ok.mono (Q := fun q μ2 => ∃ k : Int, 1 ≤ k ∧ k ≤ 5 ∧ q = (rngD 0 k.toNat, anyG) ∧ Hold [baseA μ p, poolA p (c + 1), oneA n1 (.lst (words5.map D.str))] μ2 ∧ μ2.length = μ1.length) ?_ ?_)
  · rw [q_rg1, q_cons]
    walk_at "q"
    refine (take_ok.z (n := 5) h1.z (by omega) (by omega) (by omega)).mono ?_
    rintro d μ2 ⟨r, rfl, r0, r1, x2⟩
    walk_at "q"
    exact ⟨1 + r, rfl, by omega, by omega, 1 + r, by omega, by omega, by trivial, h1.drw x2, x2.fr.len⟩
  rintro iv μ2 ⟨k, k1, k5, rfl, h2, hlen⟩
  refine ⟨hlen, ?_⟩
  refine q_lcJ (items := rngD 0 k.toNat) (gd := anyG) (fun i ν => ∃ left : List Str, left.length + i = 5 ∧ (∀ w ∈ left, w ∈ words5) ∧ Hold [baseA μ p, poolA p (c + 1 + Int.ofNat i), oneA n1 (.lst (left.map D.str))] ν ∧ ν.length = μ2.length) (fun _ y => ∃ w, w ∈ words5 ∧ y = .str w) (by rw [rng_len]; omega) ⟨words5, rfl, fun _ h => h, by simpa using h2, rfl⟩ (fun i ν ⟨_, _, _, hh, hl⟩ => ⟨hl, hh.clo⟩) (fun _ _ _ _ => rfl) ⟨rfl, rfl⟩ ?_ ?_
  · rintro i d ν acc ed ⟨left, hli, hlw, hh, hlν⟩ hcl
    obtain ⟨hi, rfl⟩ := rng_get ed
    have hi5 : i < 5 := by omega
    have hpν : p < ν.length := hh.pl.lt
    have g1 := hh.cell (n := 2) rfl
    have hn : n1 < ν.length := (List.getElem?_eq_some_iff.mp g1).1
    have g2 : (ν ++ [Ob.lst acc])[n1]? = some (.lst (left.map D.str)) := by rw [List.getElem?_append_left hn]; exact g1
    refine ⟨_, rfl, ?_⟩
    walk_at "q"
    refine ⟨isList_ref g2, ?_⟩
    rw [f_lenR g2]
    walk_at "q"
    refine (take_ok.z (n := (left.map D.str).length) (μ0 := ν ++ [Ob.lst acc]) ⟨⟨hh.pl.app, hcl⟩, Fr.refl _ _⟩ (by simp only [Int.ofNat_eq_natCast]; omega) (by rw [List.length_map]; omega) (by rw [List.length_map]; omega)).mono ?_
    rintro d μ3 ⟨r, rfl, r0, r1, x3⟩
    rw [List.length_map] at r1
    obtain ⟨ν', rfl, x4⟩ := Wz.peel hh.clo hpν x3
    have h4 := hh.drw x4
    have g4 := h4.cell (n := 2) rfl
    have hn4 : n1 < ν'.length := (List.getElem?_eq_some_iff.mp g4).1
    have g5 : (ν' ++ [Ob.lst acc])[n1]? = some (.lst (left.map D.str)) := by rw [List.getElem?_append_left hn4]; exact g4
    obtain ⟨kk, rfl⟩ : ∃ kk : Nat, r = Int.ofNat kk := ⟨r.toNat, by simp only [Int.ofNat_eq_natCast]; omega⟩
    have hk : kk < left.length := by simp at r1; omega
    have hget : (left.map D.str)[kk]? = some (.str left[kk]) := by rw [List.getElem?_map, List.getElem?_eq_getElem hk]; rfl
    rw [f_popAt g5 hget (by rw [List.length_map]; omega), q_okR, map_erase']
    have h6 := h4.set (n := 2) rfl (o' := .lst ((left.eraseIdx kk).map D.str)) (noRefs_mono (strs_noRef _))
    refine ⟨⟨left[kk], hlw _ (List.getElem_mem hk), rfl⟩, rfl, ν'.set n1 (.lst ((left.eraseIdx kk).map D.str)), ?_, left.eraseIdx kk, ?_, fun w hw => hlw w (List.mem_of_mem_eraseIdx hw), ?_, ?_⟩
    · rw [List.set_append_left _ _ hn4]
    · rw [List.length_eraseIdx_of_lt hk]; omega
    · simp only [List.set_cons_succ, List.set_cons_zero] at h6
      exact Hold.up h6 (by simp only [Int.ofNat_eq_natCast]; omega)
    · rw [List.length_set, x4.fr.len]; exact hlν
  · rintro ys μ3 hyl hR ⟨left, hli, hlw, hh, hlν⟩
    rw [rng_len] at hyl hli hh
    obtain ⟨us, rfl, hus⟩ := strs_of (ys := ys) (P := fun u => u ∈ words5) fun y hy => by
      obtain ⟨i, e⟩ := List.getElem?_of_mem hy
      exact hR i y e
    rw [List.length_map] at hyl
    rw [q_cont]
    refine q_sret ?_
    walk_at "q"
    have eS : ∀ ν, Fsorted [.lst (us.map D.str)] ν = okR (.lst ((sortS us).map D.str)) ν := fun ν => by
      unfold Fsorted
      simp only [dctAt, strsD_map]
      rw [if_pos (by omega)]
    rw [eS, q_okR, f_tupL]
    walk_at "q"
    refine ⟨size_ok (by simp), ?_⟩
    rw [of_eq]
    refine (take_ok.hpick hh (by simp only [Int.ofNat_eq_natCast]; omega) (by simp) (by simp)).mono ?_
    rintro d μ4 ⟨hd, h4⟩
    have hd : ∃ e : Int, d = .int e ∧ 0 ≤ e ∧ e ≤ 4 := by
      simp only [List.mem_cons, List.not_mem_nil, or_false] at hd
      rcases hd with rfl | rfl | rfl | rfl | rfl | rfl <;> exact ⟨_, rfl, by decide, by decide⟩
    obtain ⟨bk, rfl, b0, b4⟩ := hd
    refine ⟨size_ok (by simp), ?_⟩
    obtain ⟨lv1, lv2⟩ := h4.leave h.clo hpl
    rw [hn1e] at lv1 lv2
    refine ⟨lv2, _, unref_pure ?_, q (sortS us) bk _ (fun w hw => hus w ((sortS_perm us).subset hw)) ?_ b0 b4 ((h.drw lv1).up ?_)⟩
    · show (noRefs 0 ((sortS us).map D.str) && (true && true)) = true
      rw [strs_noRef]; rfl
    · rw [(sortS_perm us).length_eq]; omega
    · simp only [Int.ofNat_eq_natCast]; omega

end Lw

namespace Lw
open PySem PySem.Spec L2 DM
local macro_rules | `(tactic| walk_at "q") => `(tactic| try simp only [q_ok, q_okR, q_if, q_C, q_ret, q_var, q_at, q_e1, q_e2, q_call, q_callB, q_nil, q_cons, q_tup, q_lst, q_cel, q_ifexp, q_blAt, q_bOf, q_bTru, q_bAnd, q_bOr, q_bNot, q_vAnd, q_vOr, q_vNot, q_chain, q_pureS, at0, at1, at2, q_iseq, q_seqL, q_seqF, q_rg1, q_rg2, q_itup, q_tupAt, q_iany, q_anyL, q_anyF, q_anyT, q_anyS, q_meth, q_p2, q_p3, q_unpT, q_setA, q_setA0, q_rhoAt, q_contR, q_contB, q_contC, q_callK, q_oN, q_oS, q_intAt, q_cut, f_tupL, f_tupT, f_listL, f_listT, f_listCL, f_listCT, f_cutT, f_cutL, q_aftN, q_aftC, q_aftB, q_aftR, q_pr, q_mtE, q_mtV, q_lone, q_gV, q_fnV, q_mkV, q_mkS, q_fld, q_isi, isi_ii, isi_ib, isi_tt, isi_ss, q_starS, q_star, f_itT, f_itL, q_join, q_enum, q_only, q_noExN, lookF_hit, f_addN, q_tName, q_tNil, q_tCons, q_tStar,
  f_add, f_sub, f_mul, f_div, f_mod, f_pow, f_neg, f_cmp, f_abs, f_intI, f_intB, f_max, f_min, f_lenL, f_lenF, f_lenT, f_ixL, f_ixF, f_ixT, f_eqI, f_neI, f_eqB, f_neB, f_eqT, f_neT, f_isB, f_isnotB, f_truB, f_truI, f_repr0, startR, wipeR, List.map_cons, List.map_nil, List.length_cons, List.length_nil, List.cons_append, List.nil_append, List.append_nil, List.getElem?_cons_zero, List.getElem?_cons_succ, List.set_cons_zero, List.set_cons_succ, List.replicate_succ, List.replicate_zero, Nat.reduceAdd, Nat.reduceSub, Int.reduceToNat, Int.reducePow])
local macro_rules | `(tactic| walk_at "go") => `(tactic| repeat (first | rw [q_cont] | rw [q_tCons] | rw [q_tName] | rw [q_tNil] | rw [q_tStar] | rw [q_only] | rw [q_noExN] | rw [q_seq] | rw [q_snil] | ((with_reducible refine q_asg ?_); walk_at "q") | ((with_reducible refine q_sret ?_); walk_at "q") | ((with_reducible refine q_spar2 ?_); walk_at "q") | ((with_reducible refine q_spar3 ?_); walk_at "q") | ((with_reducible refine q_sunp ?_); walk_at "q") | ((with_reducible refine q_drop ?_); walk_at "q") | ((with_reducible refine q_asgT ?_); walk_at "q") | ((with_reducible refine q_noEx ?_); walk_at "q") | ((with_reducible refine q_asg2 ?_); walk_at "q") | ((with_reducible refine q_tDSubG ?_); walk_at "q") | ((with_reducible refine q_sif ?_); walk_at "q") | ((with_reducible refine q_for ?_); walk_at "q")))
local macro_rules | `(tactic| walk_at "g1") => `(tactic| repeat (first | rw [q_cont] | rw [q_tCons] | rw [q_tName] | rw [q_tNil] | rw [q_tStar] | rw [q_only] | rw [q_noExN] | rw [q_seq] | rw [q_snil] | ((with_reducible refine q_asg ?_); walk_at "q") | ((with_reducible refine q_sret ?_); walk_at "q") | ((with_reducible refine q_spar2 ?_); walk_at "q") | ((with_reducible refine q_spar3 ?_); walk_at "q") | ((with_reducible refine q_sunp ?_); walk_at "q") | ((with_reducible refine q_drop ?_); walk_at "q") | ((with_reducible refine q_asgT ?_); walk_at "q") | ((with_reducible refine q_noEx ?_); walk_at "q") | ((with_reducible refine q_asg2 ?_); walk_at "q") | ((with_reducible refine q_tDSubG ?_); walk_at "q") | ((with_reducible refine q_for ?_); walk_at "q")))
local macro_rules | `(tactic| walk_at "w") => `(tactic| try simp only [f_eqW, f_neW, q_okR, q_blAt, weq_advance_advance, weq_advance_set_back, weq_advance_write, weq_advance_copy_in, weq_advance_touch, weq_set_back_advance, weq_set_back_set_back, weq_set_back_write, weq_set_back_copy_in, weq_set_back_touch, weq_write_advance, weq_write_set_back, weq_write_write, weq_write_copy_in, weq_write_touch, weq_copy_in_advance, weq_copy_in_set_back, weq_copy_in_write, weq_copy_in_copy_in, weq_copy_in_touch, weq_touch_advance, weq_touch_set_back, weq_touch_write, weq_touch_copy_in, weq_touch_touch, if_true, if_false, Bool.false_eq_true, Bool.not_true, Bool.not_false])
def ord3 (a b c : Str) : D := .tup [.str a, .str b, .str c]
def steps3 : List Str := ["note", "read", "stat"]
def addO (a b : Str) : List D := (steps3.filter (fun l => (!(a == b)) && !decide (l ∈ [a, b]))).map (fun l => ord3 a b l)
theorem noRefs_app {xs ys : List D} (hx : noRefs 0 xs = true) (hy : noRefs 0 ys = true) : noRefs 0 (xs ++ ys) = true := noRefs_all.mpr fun d hd => (List.mem_append.mp hd).elim (noRefs_all.mp hx d) (noRefs_all.mp hy d)
theorem addO_pure (a b : Str) : noRefs 0 (addO a b) = true := noRefs_all.mpr fun d hd => by
  obtain ⟨l, _, rfl⟩ := List.mem_map.mp hd
  rfl
theorem addO_len (a b : Str) : (addO a b).length ≤ 3 := by
  unfold addO
  rw [List.length_map]
  exact Nat.le_trans (List.length_filter_le _ _) (by decide)
def ordBody : SF := (sDrop (eMeth isList Fext (eVar 1) (aCons (eSeal (eLC (iAny (eVar 0)) (fName 4) (bAnd (bOf (e2 (Feq true) (eVar 2) (eVar 3))) (bOf (e2 (Fin true) (eVar 4) (eTup (aCons (eVar 2) (aCons (eVar 3) aNil)))))) (eTup (aCons (eVar 2) (aCons (eVar 3) (aCons (eVar 4) aNil)))) [4])) aNil)))
theorem ordBody_ok {a b : Str} {c : Nat} {fs : List D} {y : Option D} {ν : Store} {Q : Fl → Store → Prop} (ha : PyData.strOk a = true) (hb : PyData.strOk b = true) (hp : Clo ν) (hf : noRefs 0 fs = true) (hc : ν.length = c) (hl : fs.length ≤ 100)
    (h : Q (.nx [some (.tup (steps3.map D.str)), some (.ref c), some (.str a), some (.str b), y]) (ν ++ [.lst (fs ++ addO a b)])) :
    OkS (ordBody [some (.tup (steps3.map D.str)), some (.ref c), some (.str a), some (.str b), y] (ν ++ [.lst fs])) Q := by
  unfold ordBody
  have hg : (ν ++ [Ob.lst fs])[c]? = some (.lst fs) := by rw [← hc]; simp
  walk_at "go"
  refine ⟨isList_ref hg, ?_⟩
  refine q_lcmC D.str (fun l => (!(a == b)) && !decide (l ∈ [a, b])) (fun l => ord3 a b l) steps3 (hp.app (o := .lst fs) (noRefs_mono hf)) (by decide) ?_ ?_ ?_
  · walk_at "q"
    exact ⟨by trivial, by trivial, fun _ => rfl⟩
  · intro x o hx ho
    have hxo : PyData.strOk x = true := List.all_eq_true.mp (show steps3.all PyData.strOk = true by decide +kernel) x hx
    refine ⟨_, rfl, ?_, fun _ => ?_⟩
    · walk_at "q"
      generalize (!(a == b)) = z
      cases z
      · rw [if_neg (by decide)]
        exact ⟨by trivial, by trivial⟩
      · rw [if_pos rfl]
        refine ⟨size_ok (by simp), ?_⟩
        rw [show D.tup [.str a, .str b] = D.tup (([a, b] : List Str).map D.str) from rfl, f_notinTS (by simp [ha, hb]) hxo]
        exact ⟨rfl, rfl⟩
    · walk_at "q"
      exact ⟨size_ok (by simp), by trivial, by trivial, rfl⟩
  · have hla := addO_len a b
    show Ok (Fext (.ref c) [.lst (addO a b)] (ν ++ [Ob.lst fs])) _
    rw [f_ext hg (by refine size_ok ?_; omega)]
    walk_at "q"
    rw [List.set_append_right _ _ (by omega)]
    simp only [hc, Nat.sub_self, List.set_cons_zero]
    exact h
theorem orders_eq : (addO "note" "note" ++ addO "note" "read" ++ addO "note" "stat" ++ addO "read" "note" ++ addO "read" "read" ++ addO "read" "stat" ++ addO "stat" "note" ++ addO "stat" "read" ++ addO "stat" "stat" : List D) = orders6.map (fun o => .tup (o.map D.str)) := by kernel_rfl
theorem orders_ok {μ : Store} {Q : D → Store → Prop} (hp : Clo μ) (h : Q (.lst (orders6.map (fun o => .tup (o.map D.str)))) μ) : Ok (F__law_orders [] μ) Q := by
  refine q_fsealG (q_fn rfl ?_)
  unfold S__law_orders
  walk_at "g1"
  refine ⟨size_ok (by simp), size_ok (by simp), ?_⟩
  walk_at "g1"
  have key : ∀ {a : Str} {fs : List D} {y3 y4 : Option D} {Q : Fl → Store → Prop}, PyData.strOk a = true → noRefs 0 fs = true → fs.length ≤ 50 →
      (∀ y3 y4, Q (.nx [some (.tup (steps3.map D.str)), some (.ref μ.length), some (.str a), y3, y4]) (μ ++ [.lst (fs ++ addO a "note" ++ addO a "read" ++ addO a "stat")])) →
      OkS (loop anyG (fName 3) ordBody (steps3.map D.str) [some (.tup (steps3.map D.str)), some (.ref μ.length), some (.str a), y3, y4] (μ ++ [.lst fs])) Q := by
    intro a fs y3 y4 Q ha hf hl hq
    have l1 := addO_len a "note"
    have l2 := addO_len a "read"
    refine q_loopS rfl rfl (ordBody_ok ha (by decide +kernel) hp hf rfl (by omega) ?_)
    rw [q_aftN]
    refine q_loopS rfl rfl (ordBody_ok ha (by decide +kernel) hp (noRefs_app hf (addO_pure _ _)) rfl (by simp; omega) ?_)
    rw [q_aftN]
    refine q_loopS rfl rfl (ordBody_ok ha (by decide +kernel) hp (noRefs_app (noRefs_app hf (addO_pure _ _)) (addO_pure _ _)) rfl (by simp; omega) ?_)
    rw [q_aftN]
    exact q_loop0 rfl (hq _ _)
  have len9 : ∀ a : Str, (addO a "note" ++ addO a "read" ++ addO a "stat").length ≤ 9 := fun a => by
    have l1 := addO_len a "note"
    have l2 := addO_len a "read"
    have l3 := addO_len a "stat"
    simp; omega
  have p9 : ∀ {fs : List D} (a : Str), noRefs 0 fs = true → noRefs 0 (fs ++ addO a "note" ++ addO a "read" ++ addO a "stat") = true := fun a h => noRefs_app (noRefs_app (noRefs_app h (addO_pure _ _)) (addO_pure _ _)) (addO_pure _ _)
  have p0 : noRefs 0 (addO "note" "note" ++ addO "note" "read" ++ addO "note" "stat") = true := noRefs_app (noRefs_app (addO_pure _ _) (addO_pure _ _)) (addO_pure _ _)
  refine q_loopS rfl rfl (q_for ?_)
  walk_at "q"
  refine key (fs := []) (by decide +kernel) rfl (by simp) fun y3 y4 => ?_
  rw [q_aftN]
  refine q_loopS rfl rfl (q_for ?_)
  walk_at "q"
  refine key (by decide +kernel) p0 (by have := len9 "note"; simp at this ⊢; omega) fun y3 y4 => ?_
  rw [q_aftN]
  refine q_loopS rfl rfl (q_for ?_)
  walk_at "q"
  refine key (by decide +kernel) (p9 _ p0) (by have := len9 "note"; have := len9 "read"; simp at *; omega) fun y3 y4 => ?_
  rw [q_aftN]
  refine q_loop0 rfl ?_
  rw [orders_eq]
  walk_at "go"
  have tk : (μ ++ [Ob.lst (orders6.map fun o => D.tup (o.map D.str))]).take μ.length = μ := by simp
  rw [tk]
  exact ⟨hp.all, _, unref_cell (by simp) (Nat.le_refl _) (by decide +kernel), h⟩


end Lw

namespace Lw
open PySem PySem.Spec L2 DM
local macro_rules | `(tactic| walk_at "q") => `(tactic| try simp only [q_ok, q_okR, q_if, q_C, q_ret, q_var, q_at, q_e1, q_e2, q_call, q_callB, q_nil, q_cons, q_tup, q_lst, q_cel, q_ifexp, q_blAt, q_bOf, q_bTru, q_bAnd, q_bOr, q_bNot, q_vAnd, q_vOr, q_vNot, q_chain, q_pureS, at0, at1, at2, q_iseq, q_seqL, q_seqF, q_rg1, q_rg2, q_itup, q_tupAt, q_iany, q_anyL, q_anyF, q_anyT, q_anyS, q_meth, q_p2, q_p3, q_unpT, q_setA, q_setA0, q_rhoAt, q_contR, q_contB, q_contC, q_callK, q_oN, q_oS, q_intAt, q_cut, f_tupL, f_tupT, f_listL, f_listT, f_listCL, f_listCT, f_cutT, f_cutL, q_aftN, q_aftC, q_aftB, q_aftR, q_pr, q_mtE, q_mtV, q_lone, q_gV, q_fnV, q_mkV, q_mkS, q_fld, q_isi, isi_ii, isi_ib, isi_tt, isi_ss, q_starS, q_star, f_itT, f_itL, q_join, q_enum, q_only, q_noExN, lookF_hit, f_addN, q_tName, q_tNil, q_tCons, q_tStar,
  f_add, f_sub, f_mul, f_div, f_mod, f_pow, f_neg, f_cmp, f_abs, f_intI, f_intB, f_max, f_min, f_lenL, f_lenF, f_lenT, f_ixL, f_ixF, f_ixT, f_eqI, f_neI, f_eqB, f_neB, f_eqT, f_neT, f_isB, f_isnotB, f_truB, f_truI, f_repr0, startR, wipeR, List.map_cons, List.map_nil, List.length_cons, List.length_nil, List.cons_append, List.nil_append, List.append_nil, List.getElem?_cons_zero, List.getElem?_cons_succ, List.set_cons_zero, List.set_cons_succ, List.replicate_succ, List.replicate_zero, Nat.reduceAdd, Nat.reduceSub, Int.reduceToNat, Int.reducePow])
local macro_rules | `(tactic| walk_at "go") => `(tactic| repeat (first | rw [q_cont] | rw [q_tCons] | rw [q_tName] | rw [q_tNil] | rw [q_tStar] | rw [q_only] | rw [q_noExN] | rw [q_seq] | rw [q_snil] | ((with_reducible refine q_asg ?_); walk_at "q") | ((with_reducible refine q_sret ?_); walk_at "q") | ((with_reducible refine q_spar2 ?_); walk_at "q") | ((with_reducible refine q_spar3 ?_); walk_at "q") | ((with_reducible refine q_sunp ?_); walk_at "q") | ((with_reducible refine q_drop ?_); walk_at "q") | ((with_reducible refine q_asgT ?_); walk_at "q") | ((with_reducible refine q_noEx ?_); walk_at "q") | ((with_reducible refine q_asg2 ?_); walk_at "q") | ((with_reducible refine q_tDSubG ?_); walk_at "q") | ((with_reducible refine q_sif ?_); walk_at "q") | ((with_reducible refine q_for ?_); walk_at "q")))
local macro_rules | `(tactic| walk_at "g1") => `(tactic| repeat (first | rw [q_cont] | rw [q_tCons] | rw [q_tName] | rw [q_tNil] | rw [q_tStar] | rw [q_only] | rw [q_noExN] | rw [q_seq] | rw [q_snil] | ((with_reducible refine q_asg ?_); walk_at "q") | ((with_reducible refine q_sret ?_); walk_at "q") | ((with_reducible refine q_spar2 ?_); walk_at "q") | ((with_reducible refine q_spar3 ?_); walk_at "q") | ((with_reducible refine q_sunp ?_); walk_at "q") | ((with_reducible refine q_drop ?_); walk_at "q") | ((with_reducible refine q_asgT ?_); walk_at "q") | ((with_reducible refine q_noEx ?_); walk_at "q") | ((with_reducible refine q_asg2 ?_); walk_at "q") | ((with_reducible refine q_tDSubG ?_); walk_at "q") | ((with_reducible refine q_for ?_); walk_at "q")))
local macro_rules | `(tactic| walk_at "w") => `(tactic| try simp only [f_eqW, f_neW, q_okR, q_blAt, weq_advance_advance, weq_advance_set_back, weq_advance_write, weq_advance_copy_in, weq_advance_touch, weq_set_back_advance, weq_set_back_set_back, weq_set_back_write, weq_set_back_copy_in, weq_set_back_touch, weq_write_advance, weq_write_set_back, weq_write_write, weq_write_copy_in, weq_write_touch, weq_copy_in_advance, weq_copy_in_set_back, weq_copy_in_write, weq_copy_in_copy_in, weq_copy_in_touch, weq_touch_advance, weq_touch_set_back, weq_touch_write, weq_touch_copy_in, weq_touch_touch, if_true, if_false, Bool.false_eq_true, Bool.not_true, Bool.not_false])

/-! #### the law's own range -/

def nmS (o : List Str) : Str := if o = (["note", "read", "stat"] : List Str) then "nrs" else if o = (["note", "stat", "read"] : List Str) then "nsr" else if o = (["read", "note", "stat"] : List Str) then "rns" else if o = (["read", "stat", "note"] : List Str) then "rsn" else if o = (["stat", "note", "read"] : List Str) then "snr" else "srn"
def freeA (ws : List Str) (kind : Str) : Bool := ws.any fun w => if (kind == ("write" : Str)) = true then decide (w ∈ (["copy", "copyresize", "touch"] : List Str)) else false
def lawR (ws : List Str) (back : Int) (o : List Str) (kind rel size : Str) : Option (Int × Int) :=
  if (!chg ws) = true then none else
  if (if (size == ("other" : Str)) = true then (if (!decide (("resize" : Str) ∈ ws)) = true then !decide (("copyresize" : Str) ∈ ws) else false) else false) = true then none else
  let low : Int := if decide (nmS o ∈ (["nsr", "nrs", "rns"] : List Str)) = true then -99 else 0 - back
  if (if (rel == ("more" : Str)) = true then true else freeA ws kind) = true then some (low, 99) else
  if (if (rel == ("less" : Str)) = true then back == 0 else false) = true then none else
  if (if decide (nmS o ∈ (["srn", "rsn"] : List Str)) = true then true else if (nmS o == ("rns" : Str)) = true then (if (rel == ("same" : Str)) = true then size == ("same" : Str) else false) else false) = true then some (low, 99) else
  some (low, back - (if (rel == ("less" : Str)) = true then 1 else 0))
def lawRD : Option (Int × Int) → D
  | none => .non
  | some (a, b) => .tup [.int a, .int b]
theorem fix_first {x : Str} {u : Nat} {μ : Store} (h1 : x.length ≤ 1000) (h : atI x.cps.toList 0 = some u) : Fix (.str x) (.int 0) μ = okR (.str ⟨#[u]⟩) μ := by
  rw [f_ixS (size_ok (by omega)), h]
  rfl
theorem add_str {a b : Str} {μ : Store} (h : a.length + b.length ≤ 1000) : Fadd (.str a) (.str b) μ = okR (.str (a ++ b)) μ := by
  show (if a.length + b.length ≤ sizeLine then okR (.str (a ++ b)) μ else none) = _
  rw [if_pos (size_ok (by omega))]
theorem name_ok {o : List Str} {μ : Store} {ρ : Rho} {Q : D → Store → Prop} (ho : o ∈ orders6) (e1 : ρ[1]? = some (some (.tup (o.map D.str)))) (q : Q (.str (nmS o)) μ) :
    Ok (e2 Fadd (e2 Fadd (e2 Fix (e2 Fix (eVar 1) (eC (.int 0))) (eC (.int 0))) (e2 Fix (e2 Fix (eVar 1) (eC (.int 1))) (eC (.int 0)))) (e2 Fix (e2 Fix (eVar 1) (eC (.int 2))) (eC (.int 0))) ρ μ) Q := by
  have n1 : ∀ μ, Fix (.str "note") (.int 0) μ = okR (.str "n") μ := fun μ => fix_first (x := "note") (by decide) rfl
  have n2 : ∀ μ, Fix (.str "read") (.int 0) μ = okR (.str "r") μ := fun μ => fix_first (x := "read") (by decide) rfl
  have n3 : ∀ μ, Fix (.str "stat") (.int 0) μ = okR (.str "s") μ := fun μ => fix_first (x := "stat") (by decide) rfl
  have a1 : ∀ {x y w : Str} {μ : Store}, x.length + y.length ≤ 1000 → x ++ y = w → Fadd (.str x) (.str y) μ = okR (.str w) μ := fun h e => by rw [add_str h, e]
  rw [q_e2, q_e2, q_e2, q_e2, q_var, e1, q_at]
  simp only [orders6, List.mem_cons, List.not_mem_nil, or_false] at ho
  rcases ho with rfl | rfl | rfl | rfl | rfl | rfl
  · walk_at "q"
    rw [n1, q_okR, e1, q_at]
    walk_at "q"
    rw [n2, q_okR, a1 (w := "nr") (by decide) (by decide +kernel), q_okR]
    walk_at "q"
    rw [n3, q_okR, a1 (w := "nrs") (by decide) (by decide +kernel), q_okR]
    exact q
  · walk_at "q"
    rw [n1, q_okR, e1, q_at]
    walk_at "q"
    rw [n3, q_okR, a1 (w := "ns") (by decide) (by decide +kernel), q_okR]
    walk_at "q"
    rw [n2, q_okR, a1 (w := "nsr") (by decide) (by decide +kernel), q_okR]
    exact q
  · walk_at "q"
    rw [n2, q_okR, e1, q_at]
    walk_at "q"
    rw [n1, q_okR, a1 (w := "rn") (by decide) (by decide +kernel), q_okR]
    walk_at "q"
    rw [n3, q_okR, a1 (w := "rns") (by decide) (by decide +kernel), q_okR]
    exact q
  · walk_at "q"
    rw [n2, q_okR, e1, q_at]
    walk_at "q"
    rw [n3, q_okR, a1 (w := "rs") (by decide) (by decide +kernel), q_okR]
    walk_at "q"
    rw [n1, q_okR, a1 (w := "rsn") (by decide) (by decide +kernel), q_okR]
    exact q
  · walk_at "q"
    rw [n3, q_okR, e1, q_at]
    walk_at "q"
    rw [n1, q_okR, a1 (w := "sn") (by decide) (by decide +kernel), q_okR]
    walk_at "q"
    rw [n2, q_okR, a1 (w := "snr") (by decide) (by decide +kernel), q_okR]
    exact q
  · walk_at "q"
    rw [n3, q_okR, e1, q_at]
    walk_at "q"
    rw [n2, q_okR, a1 (w := "sr") (by decide) (by decide +kernel), q_okR]
    walk_at "q"
    rw [n1, q_okR, a1 (w := "srn") (by decide) (by decide +kernel), q_okR]
    exact q

theorem isfree_ok {w kind : Str} {μ : Store} {Q : D → Store → Prop} (hw : PyData.strOk w = true) (q : Q (.bl (if (kind == ("write" : Str)) = true then decide (w ∈ (["copy", "copyresize", "touch"] : List Str)) else false)) μ) : Ok (F__law_is_free [.str w, .str kind] μ) Q := by
  refine q_fn rfl ?_
  unfold S__law_is_free
  refine q_sret ?_
  walk_at "q"
  by_cases h : (kind == ("write" : Str)) = true
  · rw [if_pos h] at q ⊢
    refine ⟨size_ok (by decide), ?_⟩
    rw [show ([D.str "copy", D.str "copyresize", D.str "touch"] : List D) = (["copy", "copyresize", "touch"] : List Str).map D.str from rfl, f_inTS (by decide +kernel) hw, q_okR]
    exact q
  · rw [if_neg h] at q ⊢
    exact q
theorem range_ok {ws : List Str} {back : Int} {o : List Str} {kind rel size : Str} {μ : Store} {Q : D → Store → Prop} (hp : Clo μ) (hW : WOk ws) (hl : ws.length ≤ 1000) (ho : o ∈ orders6) (q : Q (lawRD (lawR ws back o kind rel size)) μ) :
    Ok (F__law_range [wldD ws back, .tup (o.map D.str), .str kind, .str rel, .str size] μ) Q := by
  refine q_fn rfl ?_
  unfold S__law_range wldD
  rw [q_seq]
  refine q_sunp ?_
  walk_at "q"
  rw [q_cont, q_seq]
  refine q_sif ?_
  walk_at "q"
  refine q_lcmC D.str (fun _ => true) (fun w => .bl (!(w == ("touch" : Str)))) ws hp (by omega) ?_ ?_ ?_
  · walk_at "q"
    exact ⟨by trivial, by trivial, fun _ => by trivial⟩
  · intro x u hm hu
    refine ⟨_, rfl, ⟨rfl, rfl⟩, fun _ => ?_⟩
    walk_at "q"
    exact ⟨by trivial, by trivial, by trivial⟩
  rw [List.filter_eq_self.mpr (by simp), f_anyM (p := fun w => !(w == ("touch" : Str))), q_okR]
  walk_at "q"
  unfold lawR at q
  have ec : (ws.any fun w => !(w == ("touch" : Str))) = chg ws := rfl
  rw [ec]
  cases hc : chg ws with
  | false =>
    rw [hc] at q
    simp only [Bool.not_false, if_true] at q ⊢
    walk_at "g1"
    exact q
  | true =>
    rw [hc] at q
    simp only [Bool.not_true, Bool.false_eq_true, if_false] at q ⊢
    rw [q_snil, q_cont, q_seq]
    have r1 : PyData.strOk ("resize" : Str) = true := by decide +kernel
    have r2 : PyData.strOk ("copyresize" : Str) = true := by decide +kernel
    generalize hc1 : (if (size == ("other" : Str)) = true then (if (!decide (("resize" : Str) ∈ ws)) = true then !decide (("copyresize" : Str) ∈ ws) else false) else false) = c1 at q
    refine q_sif (Ok.mono (Q := fun b μ' => b = c1 ∧ μ' = μ) ?_ ?_)
    · walk_at "q"
      generalize (size == ("other" : Str)) = a at hc1 ⊢
      cases a with
      | false =>
        simp only [Bool.false_eq_true, if_false] at hc1 ⊢
        exact ⟨hc1, by trivial⟩
      | true =>
        simp only [if_true] at hc1 ⊢
        rw [f_notinTS hW.str r1, q_okR]
        walk_at "q"
        generalize (!decide (("resize" : Str) ∈ ws)) = b at hc1 ⊢
        cases b with
        | false =>
          simp only [Bool.false_eq_true, if_false] at hc1 ⊢
          exact ⟨hc1, by trivial⟩
        | true =>
          simp only [if_true] at hc1 ⊢
          rw [f_notinTS hW.str r2, q_okR]
          walk_at "q"
          exact ⟨hc1, by trivial⟩
    rintro b μ' ⟨rfl, rfl⟩
    clear hc1
    cases b with
    | true =>
      simp only [if_true] at q ⊢
      walk_at "g1"
      exact q
    | false =>
      simp only [Bool.false_eq_true, if_false] at q ⊢
      rw [q_snil, q_cont, q_seq]
      refine q_spar2 ?_
      rw [q_cons, q_e2, q_C, q_var]
      simp only [List.getElem?_cons_succ, List.getElem?_cons_zero, q_at, f_sub, q_okR]
      rw [q_cons]
      refine name_ok ho rfl ?_
      walk_at "q"
      rw [q_cont, q_seq]
      have hn : PyData.strOk (nmS o) = true := by
        have key : (orders6.all fun o => PyData.strOk (nmS o)) = true := by decide +kernel
        exact List.all_eq_true.mp key o ho
      generalize nmS o = nm at hn q ⊢
      refine q_sif ?_
      walk_at "q"
      refine ⟨size_ok (by decide), ?_⟩
      rw [show ([D.str "nsr", D.str "nrs", D.str "rns"] : List D) = (["nsr", "nrs", "rns"] : List Str).map D.str from rfl, f_inTS (by decide +kernel) hn, q_okR]
      walk_at "q"
      obtain ⟨low, hlow⟩ : ∃ low : Int, low = if decide (nm ∈ (["nsr", "nrs", "rns"] : List Str)) = true then -99 else 0 - back := ⟨_, rfl⟩
      rw [← hlow] at q
      generalize hZ : (sSeq (sIf (bOr (bOf (e2 (Feq false) (eVar 3) (eC (.str "more")))) _) _ sNil) _ : SF) = Z
      have fin : ∀ {y9 : Option D}, OkS (Z [some (.tup [.tup (ws.map D.str), .int back]), some (.tup (o.map D.str)), some (.str kind), some (.str rel), some (.str size), some (.tup (ws.map D.str)), some (.int back), some (.int low), some (.str nm), y9] μ') (fun f μ => match f with | .nx _ => Q .non μ | .rt d => Q d μ | _ => False) := by
        intro y9
        rw [← hZ, q_seq]
        generalize hc2 : (if (rel == ("more" : Str)) = true then true else freeA ws kind) = c2 at q
        refine q_sif (Ok.mono (Q := fun b μ'' => b = c2 ∧ μ'' = μ') ?_ ?_)
        · walk_at "q"
          generalize (rel == ("more" : Str)) = a at hc2 ⊢
          cases a with
          | true =>
            simp only [if_true] at hc2 ⊢
            exact ⟨hc2, by trivial⟩
          | false =>
            simp only [Bool.false_eq_true, if_false] at hc2 ⊢
            refine q_lcmC D.str (fun _ => true) (fun w => .bl (if (kind == ("write" : Str)) = true then decide (w ∈ (["copy", "copyresize", "touch"] : List Str)) else false)) ws hp (by omega) ?_ ?_ ?_
            · walk_at "q"
              exact ⟨by trivial, by trivial, fun _ => by trivial⟩
            · intro x u hm hu
              refine ⟨_, rfl, ⟨rfl, rfl⟩, fun _ => ?_⟩
              walk_at "q"
              refine isfree_ok (List.all_eq_true.mp hW.str x hm) ?_
              exact ⟨by trivial, by trivial, by trivial⟩
            rw [List.filter_eq_self.mpr (by simp), f_anyM (p := fun w => if (kind == ("write" : Str)) = true then decide (w ∈ (["copy", "copyresize", "touch"] : List Str)) else false), q_okR]
            walk_at "q"
            exact ⟨hc2, by trivial⟩
        rintro b μ'' ⟨rfl, rfl⟩
        clear hc2
        cases b with
        | true =>
          simp only [if_true] at q ⊢
          walk_at "g1"
          exact ⟨size_ok (by decide), q⟩
        | false =>
          simp only [Bool.false_eq_true, if_false] at q ⊢
          rw [q_snil, q_cont, q_seq]
          generalize hc3 : (if (rel == ("less" : Str)) = true then back == 0 else false) = c3 at q
          refine q_sif (Ok.mono (Q := fun b μX => b = c3 ∧ μX = μ'') ?_ ?_)
          · walk_at "q"
            generalize (rel == ("less" : Str)) = a at hc3 ⊢
            cases a with
            | false =>
              simp only [Bool.false_eq_true, if_false] at hc3 ⊢
              exact ⟨hc3, by trivial⟩
            | true =>
              simp only [if_true] at hc3 ⊢
              exact ⟨hc3, by trivial⟩
          rintro b μ3 ⟨rfl, rfl⟩
          clear hc3
          cases b with
          | true =>
            simp only [if_true] at q ⊢
            walk_at "g1"
            exact q
          | false =>
            simp only [Bool.false_eq_true, if_false] at q ⊢
            rw [q_snil, q_cont, q_seq]
            generalize hc4 : (if decide (nm ∈ (["srn", "rsn"] : List Str)) = true then true else if (nm == ("rns" : Str)) = true then (if (rel == ("same" : Str)) = true then size == ("same" : Str) else false) else false) = c4 at q
            refine q_sif (Ok.mono (Q := fun b μ4 => b = c4 ∧ μ4 = μ3) ?_ ?_)
            · walk_at "q"
              refine ⟨size_ok (by decide), ?_⟩
              rw [show ([D.str "srn", D.str "rsn"] : List D) = (["srn", "rsn"] : List Str).map D.str from rfl, f_inTS (by decide +kernel) hn, q_okR]
              walk_at "q"
              generalize decide (nm ∈ (["srn", "rsn"] : List Str)) = a at hc4 ⊢
              cases a with
              | true =>
                simp only [if_true] at hc4 ⊢
                exact ⟨hc4, by trivial⟩
              | false =>
                simp only [Bool.false_eq_true, if_false] at hc4 ⊢
                generalize (nm == ("rns" : Str)) = a at hc4 ⊢
                cases a with
                | false =>
                  simp only [Bool.false_eq_true, if_false] at hc4 ⊢
                  exact ⟨hc4, by trivial⟩
                | true =>
                  simp only [if_true] at hc4 ⊢
                  generalize (rel == ("same" : Str)) = a at hc4 ⊢
                  cases a with
                  | false =>
                    simp only [Bool.false_eq_true, if_false] at hc4 ⊢
                    exact ⟨hc4, by trivial⟩
                  | true =>
                    simp only [if_true] at hc4 ⊢
                    exact ⟨hc4, by trivial⟩
            rintro b μ4 ⟨rfl, rfl⟩
            clear hc4
            cases b with
            | true =>
              simp only [if_true] at q ⊢
              walk_at "g1"
              exact ⟨size_ok (by decide), q⟩
            | false =>
              simp only [Bool.false_eq_true, if_false] at q ⊢
              rw [q_snil, q_cont]
              walk_at "g1"
              exact ⟨size_ok (by decide), q⟩
      by_cases h9 : decide (nm ∈ (["nsr", "nrs", "rns"] : List Str)) = true
      · rw [if_pos h9] at hlow ⊢
        walk_at "g1"
        rw [hlow] at fin
        exact fin
      · rw [if_neg h9] at hlow ⊢
        rw [q_snil, q_cont]
        rw [hlow] at fin
        exact fin

end Lw

namespace Lw
open PySem PySem.Spec L2 DM
local macro_rules | `(tactic| walk_at "q") => `(tactic| try simp only [q_ok, q_okR, q_if, q_C, q_ret, q_var, q_at, q_e1, q_e2, q_call, q_callB, q_nil, q_cons, q_tup, q_lst, q_cel, q_ifexp, q_blAt, q_bOf, q_bTru, q_bAnd, q_bOr, q_bNot, q_vAnd, q_vOr, q_vNot, q_chain, q_pureS, at0, at1, at2, q_iseq, q_seqL, q_seqF, q_rg1, q_rg2, q_itup, q_tupAt, q_iany, q_anyL, q_anyF, q_anyT, q_anyS, q_meth, q_p2, q_p3, q_unpT, q_setA, q_setA0, q_rhoAt, q_contR, q_contB, q_contC, q_callK, q_oN, q_oS, q_intAt, q_cut, f_tupL, f_tupT, f_listL, f_listT, f_listCL, f_listCT, f_cutT, f_cutL, q_aftN, q_aftC, q_aftB, q_aftR, q_pr, q_mtE, q_mtV, q_lone, q_gV, q_fnV, q_mkV, q_mkS, q_fld, q_isi, isi_ii, isi_ib, isi_tt, isi_ss, q_starS, q_star, f_itT, f_itL, q_join, q_enum, q_only, q_noExN, lookF_hit, f_addN, q_tName, q_tNil, q_tCons, q_tStar,
  f_add, f_sub, f_mul, f_div, f_mod, f_pow, f_neg, f_cmp, f_abs, f_intI, f_intB, f_max, f_min, f_lenL, f_lenF, f_lenT, f_ixL, f_ixF, f_ixT, f_eqI, f_neI, f_eqB, f_neB, f_eqT, f_neT, f_isB, f_isnotB, f_truB, f_truI, f_repr0, startR, wipeR, List.map_cons, List.map_nil, List.length_cons, List.length_nil, List.cons_append, List.nil_append, List.append_nil, List.getElem?_cons_zero, List.getElem?_cons_succ, List.set_cons_zero, List.set_cons_succ, List.replicate_succ, List.replicate_zero, Nat.reduceAdd, Nat.reduceSub, Int.reduceToNat, Int.reducePow])
local macro_rules | `(tactic| walk_at "go") => `(tactic| repeat (first | rw [q_cont] | rw [q_tCons] | rw [q_tName] | rw [q_tNil] | rw [q_tStar] | rw [q_only] | rw [q_noExN] | rw [q_seq] | rw [q_snil] | ((with_reducible refine q_asg ?_); walk_at "q") | ((with_reducible refine q_sret ?_); walk_at "q") | ((with_reducible refine q_spar2 ?_); walk_at "q") | ((with_reducible refine q_spar3 ?_); walk_at "q") | ((with_reducible refine q_sunp ?_); walk_at "q") | ((with_reducible refine q_drop ?_); walk_at "q") | ((with_reducible refine q_asgT ?_); walk_at "q") | ((with_reducible refine q_noEx ?_); walk_at "q") | ((with_reducible refine q_asg2 ?_); walk_at "q") | ((with_reducible refine q_tDSubG ?_); walk_at "q") | ((with_reducible refine q_sif ?_); walk_at "q") | ((with_reducible refine q_for ?_); walk_at "q")))
local macro_rules | `(tactic| walk_at "g1") => `(tactic| repeat (first | rw [q_cont] | rw [q_tCons] | rw [q_tName] | rw [q_tNil] | rw [q_tStar] | rw [q_only] | rw [q_noExN] | rw [q_seq] | rw [q_snil] | ((with_reducible refine q_asg ?_); walk_at "q") | ((with_reducible refine q_sret ?_); walk_at "q") | ((with_reducible refine q_spar2 ?_); walk_at "q") | ((with_reducible refine q_spar3 ?_); walk_at "q") | ((with_reducible refine q_sunp ?_); walk_at "q") | ((with_reducible refine q_drop ?_); walk_at "q") | ((with_reducible refine q_asgT ?_); walk_at "q") | ((with_reducible refine q_noEx ?_); walk_at "q") | ((with_reducible refine q_asg2 ?_); walk_at "q") | ((with_reducible refine q_tDSubG ?_); walk_at "q") | ((with_reducible refine q_for ?_); walk_at "q")))
local macro_rules | `(tactic| walk_at "w") => `(tactic| try simp only [f_eqW, f_neW, q_okR, q_blAt, weq_advance_advance, weq_advance_set_back, weq_advance_write, weq_advance_copy_in, weq_advance_touch, weq_set_back_advance, weq_set_back_set_back, weq_set_back_write, weq_set_back_copy_in, weq_set_back_touch, weq_write_advance, weq_write_set_back, weq_write_write, weq_write_copy_in, weq_write_touch, weq_copy_in_advance, weq_copy_in_set_back, weq_copy_in_write, weq_copy_in_copy_in, weq_copy_in_touch, weq_touch_advance, weq_touch_set_back, weq_touch_write, weq_touch_copy_in, weq_touch_touch, if_true, if_false, Bool.false_eq_true, Bool.not_true, Bool.not_false])

/-! #### the law's own bad cells -/

def tputAt (μ : Store) (o : D) (ds : List D) (v : D) (k : Store → Prop) : Prop := match FtPut o ds v μ with
  | some μ' => k μ'
  | none => False
theorem q_tTSub {O : CM D} {As : CM (List D)} {ρ : Rho} {μ : Store} {v : D} {Qf : Fl → Store → Prop} (h : Ok (O ρ μ) (fun o μ1 => Ok (As ρ μ1) (fun ds μ2 => ds.length ≤ sizeLine ∧ tputAt μ2 o ds v (fun μ3 => Qf (.nx ρ) μ3)))) : OkS (tTSub O As v ρ μ) Qf := by
  obtain ⟨o, μ1, e1, h1⟩ := h.get
  obtain ⟨ds, μ2, e2, h2, h3⟩ := h1.get
  unfold tTSub lft
  rw [e1]
  dsimp only
  rw [e2]
  dsimp only
  rw [if_pos h2]
  unfold tputAt at h3
  cases e : FtPut o ds v μ2 with
  | none => rw [e] at h3; exact h3.elim
  | some μ3 => rw [e] at h3; exact h3
theorem q_tnew {ρ : Rho} {μ : Store} {Q : D → Store → Prop} : Ok (eTNew ρ μ) Q = Q (.ref μ.length) (μ ++ [.dtt []]) := rfl
def cellK (c : Cell) : List Key := [.inr c.1, .inl c.2.1, .inr c.2.2]
theorem cellK_inj {a b : Cell} (h : cellK a = cellK b) : a = b := by
  obtain ⟨a1, a2, a3⟩ := a
  obtain ⟨b1, b2, b3⟩ := b
  simp only [cellK, List.cons.injEq, Sum.inr.injEq, Sum.inl.injEq] at h
  obtain ⟨rfl, rfl, rfl, _⟩ := h
  rfl
def bT (L : List Cell) : List (List Key × D) := L.map fun c => (cellK c, .bl true)
def insC (L : List Cell) (c : Cell) : List Cell := if c ∈ L then L else L ++ [c]
theorem put_bT {L : List Cell} {c : Cell} : putTD (bT L) (cellK c) (.bl true) = bT (insC L c) := by
  have hany : ((bT L).any fun kv => decide (kv.1 = cellK c)) = decide (c ∈ L) := by
    rw [Bool.eq_iff_iff, List.any_eq_true, decide_eq_true_iff]
    constructor
    · rintro ⟨kv, hkv, e⟩
      obtain ⟨z, hz, rfl⟩ := List.mem_map.mp hkv
      rw [← cellK_inj (of_decide_eq_true e)]
      exact hz
    · intro hc
      exact ⟨_, List.mem_map_of_mem hc, decide_eq_true rfl⟩
  unfold putTD insC
  rw [hany]
  by_cases hc : c ∈ L
  · rw [if_pos (decide_eq_true hc), if_pos hc]
    unfold bT
    rw [List.map_map]
    refine List.map_congr_left fun z _ => ?_
    show (if cellK z = cellK c then (cellK z, D.bl true) else (cellK z, D.bl true)) = (cellK z, D.bl true)
    split <;> rfl
  · rw [if_neg (by rw [decide_eq_false hc]; decide), if_neg hc]
    simp [bT]
theorem ins_mem {L : List Cell} {c x : Cell} : x ∈ insC L c ↔ x ∈ L ∨ x = c := by
  unfold insC
  split
  · rename_i h
    exact ⟨.inl, fun z => z.elim id fun e => by rw [e]; exact h⟩
  · simp
theorem ins_nd {L : List Cell} {c : Cell} (h : L.Nodup) : (insC L c).Nodup := by
  unfold insC
  split
  · exact h
  · rename_i hn
    refine List.nodup_append.mpr ⟨h, by simp, fun a ha b hb => ?_⟩
    rw [List.mem_singleton.mp hb]
    rintro rfl
    exact hn ha
theorem ins_len {L : List Cell} {c : Cell} : (insC L c).length ≤ L.length + 1 := by
  unfold insC
  split
  · omega
  · simp
theorem lcut_ok {gap w : Int} {μ : Store} {Q : D → Store → Prop} (h : Q (.int (cutI gap w)) μ) : Ok (F__law_cut [.int gap, .int w] μ) Q := by
  refine q_fn rfl ?_
  unfold S__law_cut
  refine q_sret ?_
  walk_at "q"
  have e : (0 : Int) - w = -w := by omega
  rw [e]
  exact h
def hitR (sp : Option (Int × Int)) (gap : Int) : Bool := match sp with
  | none => false
  | some (a, b) => decide (a ≤ gap) && decide (gap ≤ b)
theorem badgap_ok {L : List Cell} {sp : Option (Int × Int)} {rel size : Str} {gap w : Int} {x0 x1 x2 : Option D} {μ : Store} {Qf : Fl → Store → Prop} (hl : L.length ≤ 100000)
    (q : Qf (.nx [x0, x1, x2, some (.int w), some (.ref μ.length), some (.str rel), some (.str size), some (lawRD sp), some (.int gap)]) (μ ++ [.dtt (bT (if hitR sp gap = true then insC L (rel, cutI gap w, size) else L))])) :
    OkS (B__law_bad_3 [x0, x1, x2, some (.int w), some (.ref μ.length), some (.str rel), some (.str size), some (lawRD sp), some (.int gap)] (μ ++ [.dtt (bT L)])) Qf := by
  unfold B__law_bad_3
  refine q_sif (Ok.mono (Q := fun b μ' => b = hitR sp gap ∧ μ' = μ ++ [.dtt (bT L)]) ?_ ?_)
  · walk_at "q"
    cases sp with
    | none =>
      unfold lawRD
      rw [f_isNN]
      walk_at "q"
      rw [if_neg (by decide)]
      exact ⟨by trivial, by trivial⟩
    | some p =>
      obtain ⟨a, b⟩ := p
      unfold lawRD
      rw [f_isTN]
      walk_at "q"
      rw [if_pos (by trivial)]
      unfold hitR
      by_cases h1 : a ≤ gap
      · simp [h1]
      · simp [h1]
  rintro b μ' ⟨rfl, rfl⟩
  cases hb : hitR sp gap with
  | false =>
    rw [hb] at q
    simp only [Bool.false_eq_true, if_false] at q ⊢
    rw [q_snil]
    exact q
  | true =>
    rw [hb] at q
    simp only [if_true] at q ⊢
    refine q_asgT ?_
    walk_at "q"
    refine q_tTSub ?_
    walk_at "q"
    refine lcut_ok ?_
    walk_at "q"
    refine ⟨size_ok (by decide), ?_⟩
    have hg : (μ ++ [Ob.dtt (bT L)])[μ.length]? = some (.dtt (bT L)) := by simp
    unfold tputAt FtPut
    simp only [hg]
    have hk : keysT [D.str rel, .int (cutI gap w), .str size] = some (cellK (rel, cutI gap w, size)) := rfl
    rw [hk]
    dsimp only
    rw [if_pos (by unfold bT; rw [List.length_map]; exact Nat.lt_of_lt_of_le (show L.length < 1000000 by omega) (size_ok (Nat.le_refl _)))]
    dsimp only
    rw [put_bT, List.set_append_right _ _ (by omega)]
    simp only [Nat.sub_self, List.set_cons_zero]
    exact q
/-- what the gaps bring -/
def hitsG (sp : Option (Int × Int)) (rel size : Str) (w : Int) (n : Nat) (c : Cell) : Prop := ∃ j : Nat, j < n ∧ hitR sp (-20 + j) = true ∧ c = (rel, cutI (-20 + j) w, size)
structure Ins (L0 L : List Cell) (P : Cell → Prop) (k : Nat) : Prop where
  nd : L.Nodup
  mem : ∀ c, c ∈ L ↔ c ∈ L0 ∨ P c
  len : L.length ≤ L0.length + k
theorem badrow_ok {ws : List Str} {back : Int} {o : List Str} {kind rel size : Str} {w : Int} {L0 : List Cell} {y7 y8 : Option D} {μ : Store} {Qf : Fl → Store → Prop} (hp : Clo μ) (hW : WOk ws) (hwl : ws.length ≤ 1000) (ho : o ∈ orders6) (h0 : L0.Nodup) (hl : L0.length ≤ 10000)
    (q : ∀ L y7 y8, Ins L0 L (hitsG (lawR ws back o kind rel size) rel size w 41) 41 → Qf (.nx [some (wldD ws back), some (.tup (o.map D.str)), some (.str kind), some (.int w), some (.ref μ.length), some (.str rel), some (.str size), y7, y8]) (μ ++ [.dtt (bT L)])) :
    OkS (B__law_bad_2 [some (wldD ws back), some (.tup (o.map D.str)), some (.str kind), some (.int w), some (.ref μ.length), some (.str rel), some (.str size), y7, y8] (μ ++ [.dtt (bT L0)])) Qf := by
  unfold B__law_bad_2
  rw [q_seq]
  refine q_asg ?_
  walk_at "q"
  refine range_ok (hp.app (o := .dtt (bT L0)) (by
    show noRefs _ ((bT L0).map (·.2)) = true
    refine noRefs_all.mpr fun d hd => ?_
    obtain ⟨z, hz, rfl⟩ := List.mem_map.mp hd
    obtain ⟨c, _, rfl⟩ := List.mem_map.mp hz
    rfl)) hW hwl ho ?_
  rw [q_cont]
  refine q_for ?_
  walk_at "q"
  refine ⟨-20, 21, rfl, by decide, ?_⟩
  refine loop_ok (fun (n : Nat) (ρ : Rho) (μ' : Store) => ∃ L y8, Ins L0 L (hitsG (lawR ws back o kind rel size) rel size w n) n ∧ μ' = μ ++ [.dtt (bT L)] ∧ ρ = [some (wldD ws back), some (.tup (o.map D.str)), some (.str kind), some (.int w), some (.ref μ.length), some (.str rel), some (.str size), some (lawRD (lawR ws back o kind rel size)), y8]) (fun _ _ _ _ => rfl) ?_ ?_ ⟨L0, _, ⟨h0, fun c => ⟨.inl, fun z => z.elim id fun ⟨j, hj, _⟩ => absurd hj (Nat.not_lt_zero _)⟩, Nat.le_refl _⟩, rfl, rfl⟩
  · rintro n d ρ μ' ed ⟨L, y8, I, rfl, rfl⟩
    obtain ⟨hi, rfl⟩ := rng_get ed
    have hn : n < 41 := by simpa using hi
    refine ⟨_, rfl, ?_⟩
    have il := I.len
    refine badgap_ok (by omega) ?_
    refine ⟨_, _, ⟨?_, fun c => ?_, ?_⟩, rfl, rfl⟩
    · split
      · exact ins_nd I.nd
      · exact I.nd
    · constructor
      · intro hc
        split at hc
        · rename_i hh
          rcases ins_mem.mp hc with z | z
          · exact ((I.mem c).mp z).imp id fun ⟨j, hj, a, b⟩ => ⟨j, by omega, a, b⟩
          · exact .inr ⟨n, by omega, hh, z⟩
        · exact ((I.mem c).mp hc).imp id fun ⟨j, hj, a, b⟩ => ⟨j, by omega, a, b⟩
      · intro hc
        have old : ∀ {z : Cell}, z ∈ L → z ∈ (if hitR (lawR ws back o kind rel size) (-20 + (n : Int)) = true then insC L (rel, cutI (-20 + (n : Int)) w, size) else L) := fun hz => by
          split
          · exact ins_mem.mpr (.inl hz)
          · exact hz
        rcases hc with z | ⟨j, hj, a, b⟩
        · exact old ((I.mem c).mpr (.inl z))
        · by_cases hjn : j = n
          · subst hjn
            rw [if_pos a]
            exact ins_mem.mpr (.inr b)
          · exact old ((I.mem c).mpr (.inr ⟨j, by omega, a, b⟩))
    · split
      · have := ins_len (L := L) (c := (rel, cutI (-20 + (n : Int)) w, size))
        omega
      · omega
  · rintro ρ μ' ⟨L, y8, I, rfl, rfl⟩
    rw [rng_len] at I
    exact q L _ _ I
def lawP (ws : List Str) (back : Int) (o : List Str) (kind : Str) (w : Int) (c : Cell) : Prop := c.1 ∈ rels3 ∧ c.2.2 ∈ sizes2 ∧ hitsG (lawR ws back o kind c.1 c.2.2) c.1 c.2.2 w 41 c

end Lw

namespace Lw
open PySem PySem.Spec L2 DM
local macro_rules | `(tactic| walk_at "q") => `(tactic| try simp only [q_ok, q_okR, q_if, q_C, q_ret, q_var, q_at, q_e1, q_e2, q_call, q_callB, q_nil, q_cons, q_tup, q_lst, q_cel, q_ifexp, q_blAt, q_bOf, q_bTru, q_bAnd, q_bOr, q_bNot, q_vAnd, q_vOr, q_vNot, q_chain, q_pureS, at0, at1, at2, q_iseq, q_seqL, q_seqF, q_rg1, q_rg2, q_itup, q_tupAt, q_iany, q_anyL, q_anyF, q_anyT, q_anyS, q_meth, q_p2, q_p3, q_unpT, q_setA, q_setA0, q_rhoAt, q_contR, q_contB, q_contC, q_callK, q_oN, q_oS, q_intAt, q_cut, f_tupL, f_tupT, f_listL, f_listT, f_listCL, f_listCT, f_cutT, f_cutL, q_aftN, q_aftC, q_aftB, q_aftR, q_pr, q_mtE, q_mtV, q_lone, q_gV, q_fnV, q_mkV, q_mkS, q_fld, q_isi, isi_ii, isi_ib, isi_tt, isi_ss, q_starS, q_star, f_itT, f_itL, q_join, q_enum, q_only, q_noExN, lookF_hit, f_addN, q_tName, q_tNil, q_tCons, q_tStar,
  f_add, f_sub, f_mul, f_div, f_mod, f_pow, f_neg, f_cmp, f_abs, f_intI, f_intB, f_max, f_min, f_lenL, f_lenF, f_lenT, f_ixL, f_ixF, f_ixT, f_eqI, f_neI, f_eqB, f_neB, f_eqT, f_neT, f_isB, f_isnotB, f_truB, f_truI, f_repr0, startR, wipeR, List.map_cons, List.map_nil, List.length_cons, List.length_nil, List.cons_append, List.nil_append, List.append_nil, List.getElem?_cons_zero, List.getElem?_cons_succ, List.set_cons_zero, List.set_cons_succ, List.replicate_succ, List.replicate_zero, Nat.reduceAdd, Nat.reduceSub, Int.reduceToNat, Int.reducePow])
local macro_rules | `(tactic| walk_at "go") => `(tactic| repeat (first | rw [q_cont] | rw [q_tCons] | rw [q_tName] | rw [q_tNil] | rw [q_tStar] | rw [q_only] | rw [q_noExN] | rw [q_seq] | rw [q_snil] | ((with_reducible refine q_asg ?_); walk_at "q") | ((with_reducible refine q_sret ?_); walk_at "q") | ((with_reducible refine q_spar2 ?_); walk_at "q") | ((with_reducible refine q_spar3 ?_); walk_at "q") | ((with_reducible refine q_sunp ?_); walk_at "q") | ((with_reducible refine q_drop ?_); walk_at "q") | ((with_reducible refine q_asgT ?_); walk_at "q") | ((with_reducible refine q_noEx ?_); walk_at "q") | ((with_reducible refine q_asg2 ?_); walk_at "q") | ((with_reducible refine q_tDSubG ?_); walk_at "q") | ((with_reducible refine q_sif ?_); walk_at "q") | ((with_reducible refine q_for ?_); walk_at "q")))
local macro_rules | `(tactic| walk_at "g1") => `(tactic| repeat (first | rw [q_cont] | rw [q_tCons] | rw [q_tName] | rw [q_tNil] | rw [q_tStar] | rw [q_only] | rw [q_noExN] | rw [q_seq] | rw [q_snil] | ((with_reducible refine q_asg ?_); walk_at "q") | ((with_reducible refine q_sret ?_); walk_at "q") | ((with_reducible refine q_spar2 ?_); walk_at "q") | ((with_reducible refine q_spar3 ?_); walk_at "q") | ((with_reducible refine q_sunp ?_); walk_at "q") | ((with_reducible refine q_drop ?_); walk_at "q") | ((with_reducible refine q_asgT ?_); walk_at "q") | ((with_reducible refine q_noEx ?_); walk_at "q") | ((with_reducible refine q_asg2 ?_); walk_at "q") | ((with_reducible refine q_tDSubG ?_); walk_at "q") | ((with_reducible refine q_for ?_); walk_at "q")))
local macro_rules | `(tactic| walk_at "w") => `(tactic| try simp only [f_eqW, f_neW, q_okR, q_blAt, weq_advance_advance, weq_advance_set_back, weq_advance_write, weq_advance_copy_in, weq_advance_touch, weq_set_back_advance, weq_set_back_set_back, weq_set_back_write, weq_set_back_copy_in, weq_set_back_touch, weq_write_advance, weq_write_set_back, weq_write_write, weq_write_copy_in, weq_write_touch, weq_copy_in_advance, weq_copy_in_set_back, weq_copy_in_write, weq_copy_in_copy_in, weq_copy_in_touch, weq_touch_advance, weq_touch_set_back, weq_touch_write, weq_touch_copy_in, weq_touch_touch, if_true, if_false, Bool.false_eq_true, Bool.not_true, Bool.not_false])
theorem allC_asc {w : Int} (w0 : 1 ≤ w) (w1 : w ≤ 6) : (allC w).Pairwise fun a b => celLt a b = true := by
  have key : ∀ w ∈ ([1, 2, 3, 4, 5, 6] : List Int), (allC w).Pairwise fun a b => celLt a b = true := by
    intro w hw
    simp only [List.mem_cons, List.not_mem_nil, or_false] at hw
    rcases hw with rfl | rfl | rfl | rfl | rfl | rfl <;> decide +kernel
  exact key w (by simp; omega)
theorem allC_cel {w : Int} {c : Cel} (h : c ∈ allC w) : CelOk w c := by
  obtain ⟨h1, h2, h3⟩ := allC_mem.mp h
  exact ⟨by simpa [rels3] using h1, by omega, h2.2, by simpa [sizes2] using h3⟩

theorem badsize_ok {ws : List Str} {back : Int} {o : List Str} {kind rel : Str} {w : Int} {L0 : List Cell} {y6 y7 y8 : Option D} {μ : Store} {Qf : Fl → Store → Prop} (hp : Clo μ) (hW : WOk ws) (hwl : ws.length ≤ 1000) (ho : o ∈ orders6) (h0 : L0.Nodup) (hl : L0.length ≤ 5000)
    (q : ∀ L y6 y7 y8, Ins L0 L (fun c => hitsG (lawR ws back o kind rel "other") rel "other" w 41 c ∨ hitsG (lawR ws back o kind rel "same") rel "same" w 41 c) 82 → Qf (.nx [some (wldD ws back), some (.tup (o.map D.str)), some (.str kind), some (.int w), some (.ref μ.length), some (.str rel), y6, y7, y8]) (μ ++ [.dtt (bT L)])) :
    OkS (B__law_bad_1 [some (wldD ws back), some (.tup (o.map D.str)), some (.str kind), some (.int w), some (.ref μ.length), some (.str rel), y6, y7, y8] (μ ++ [.dtt (bT L0)])) Qf := by
  unfold B__law_bad_1
  refine q_for ?_
  walk_at "q"
  refine ⟨size_ok (by decide), ?_⟩
  refine q_loopS rfl rfl ?_
  refine badrow_ok hp hW hwl ho h0 (by omega) fun L1 y7 y8 I1 => ?_
  rw [q_aftN]
  refine q_loopS rfl rfl ?_
  have l1 := I1.len
  refine badrow_ok hp hW hwl ho I1.nd (by omega) fun L2 y7 y8 I2 => ?_
  rw [q_aftN]
  refine q_loop0 rfl ?_
  have l2 := I2.len
  exact q L2 _ _ _ ⟨I2.nd, fun c => by rw [I2.mem, I1.mem, or_assoc], by omega⟩
/-! #### both are the same -/

theorem has2 {ws : List Str} {a b : Str} : hasA ws [a, b] = (decide (b ∈ ws) || decide (a ∈ ws)) := by
  unfold hasA
  rw [Bool.eq_iff_iff, List.any_eq_true, Bool.or_eq_true, decide_eq_true_iff, decide_eq_true_iff]
  constructor
  · rintro ⟨x, hx, e⟩
    have := of_decide_eq_true e
    simp only [List.mem_cons, List.not_mem_nil, or_false] at this
    rcases this with rfl | rfl
    · exact .inr hx
    · exact .inl hx
  · rintro (h | h)
    · exact ⟨_, h, by simp⟩
    · exact ⟨_, h, by simp⟩
theorem free_eq {ws : List Str} {kind : Str} : freeA ws kind = if (kind == ("write" : Str)) = true then hasA ws ["copy", "copyresize", "touch"] else false := by
  unfold freeA hasA
  by_cases h : (kind == ("write" : Str)) = true
  · simp only [if_pos h]
  · simp only [if_neg h]
    rw [List.any_eq_false]
    simp
theorem ord_facts {o : List Str} {rel size : Str} (ho : o ∈ orders6) (hr : rel ∈ rels3) (hs : size ∈ sizes2) : decide (nmS o ∈ (["nsr", "nrs", "rns"] : List Str)) = ah o "note" "stat" ∧ ((rel == ("more" : Str)) = true ∨ (if decide (nmS o ∈ (["srn", "rsn"] : List Str)) = true then true else if (nmS o == ("rns" : Str)) = true then (if (rel == ("same" : Str)) = true then size == ("same" : Str) else false) else false) = !bnd o rel size) := by
  have key : (orders6.all fun o => rels3.all fun rel => sizes2.all fun size => (decide (nmS o ∈ (["nsr", "nrs", "rns"] : List Str)) == ah o "note" "stat") && ((rel == ("more" : Str)) || ((if decide (nmS o ∈ (["srn", "rsn"] : List Str)) = true then true else if (nmS o == ("rns" : Str)) = true then (if (rel == ("same" : Str)) = true then size == ("same" : Str) else false) else false) == !bnd o rel size))) = true := by decide +kernel
  have := List.all_eq_true.mp (List.all_eq_true.mp (List.all_eq_true.mp key o ho) rel hr) size hs
  rw [Bool.and_eq_true, Bool.or_eq_true] at this
  exact ⟨eq_of_beq this.1, this.2.imp id eq_of_beq⟩
theorem law_span {ws : List Str} {back : Int} {o : List Str} {kind rel size : Str} (ho : o ∈ orders6) (hr : rel ∈ rels3) (hs : size ∈ sizes2) (b0 : 0 ≤ back) : lawR ws back o kind rel size = (spanO ws back o kind rel size).map fun p => (p.1.getD (-99), p.2.getD 99) := by
  obtain ⟨f1, f2⟩ := ord_facts ho hr hs
  unfold lawR spanO
  rw [has2, free_eq]
  generalize hasA ws ["copy", "copyresize", "touch"] = h3
  generalize decide (("resize" : Str) ∈ ws) = d1
  generalize decide (("copyresize" : Str) ∈ ws) = d2
  generalize chg ws = ch
  generalize (size == ("other" : Str)) = so
  generalize (kind == ("write" : Str)) = kw
  rw [f1]
  generalize ah o "note" "stat" = a
  generalize (if decide (nmS o ∈ (["srn", "rsn"] : List Str)) = true then true else if (nmS o == ("rns" : Str)) = true then (if (rel == ("same" : Str)) = true then size == ("same" : Str) else false) else false) = c4 at f2 ⊢
  generalize bnd o rel size = bn at f2 ⊢
  generalize (rel == ("more" : Str)) = rm at f2 ⊢
  generalize (rel == ("less" : Str)) = rl
  have e0 : (0 : Int) - back = -back := by omega
  rw [e0]
  cases ch with
  | false => rfl
  | true =>
    cases so <;> cases d1 <;> cases d2 <;> simp only [Bool.not_true, Bool.not_false, Bool.false_eq_true, if_false, if_true, Bool.or_true, Bool.or_false, Bool.true_or, Bool.false_or, Option.map_none]
    all_goals (cases rm)
    all_goals (cases kw <;> cases h3 <;> simp only [Bool.false_eq_true, if_false, if_true, Option.map_some, Option.getD_none])
    all_goals (try (cases a <;> rfl))
    all_goals (rcases f2 with z | z <;> first | (cases z; done) | subst z)
    all_goals (cases rl)
    all_goals (simp only [Bool.false_eq_true, if_false, if_true, Int.sub_zero])
    all_goals (by_cases hb : back = 0)
    all_goals (first | (rw [decide_eq_false (by omega : ¬ back < 0)]) | (rw [decide_eq_false (by omega : ¬ back - 1 < 0)]) | (rw [decide_eq_true (by omega : back - 1 < 0)]) | skip)
    all_goals (try (rw [beq_eq_false_iff_ne.mpr hb]))
    all_goals (try (rw [hb]))
    all_goals (cases bn <;> cases a <;> simp)
theorem cut_hit {sp : Option Int × Option Int} {g w back : Int} (hw : 1 ≤ w ∧ w ≤ 6) (hb : 0 ≤ back ∧ back ≤ 4) (hg : -w ≤ g ∧ g ≤ w) (h1 : sp.1 = none ∨ sp.1 = some (-back)) (h2 : sp.2 = none ∨ ∃ m, sp.2 = some m ∧ 0 ≤ m ∧ m ≤ 4) :
    meetsB sp g w = true ↔ ∃ j : Nat, j < 41 ∧ hitR (some (sp.1.getD (-99), sp.2.getD 99)) (-20 + j) = true ∧ g = cutI (-20 + j) w := by
  obtain ⟨a, b⟩ := sp
  simp only at h1 h2
  have hm : meetsB (a, b) g w = true ↔ (a.getD (-99) ≤ g ∧ g ≤ b.getD 99) := by
    unfold meetsB
    rcases h1 with rfl | rfl <;> rcases h2 with rfl | ⟨m, rfl, m0, m4⟩ <;> simp only [loB, hiB, Option.getD_none, Option.getD_some]
    · by_cases z : g = -w
      · simp [z]; omega
      · simp [z]; omega
    · by_cases z : g = -w
      · simp [z]; omega
      · simp [z]; omega
    · by_cases y : g < w <;> by_cases z : g = -w <;> by_cases x : -back > g <;> simp [x, y, z] <;> omega
    · by_cases y : g < w <;> by_cases z : g = -w <;> by_cases x : -back > g <;> simp [x, y, z] <;> omega
  rw [hm]
  have ha : a.getD (-99) = -99 ∨ a.getD (-99) = -back := h1.imp (fun e => by rw [e]; rfl) fun e => by rw [e]; rfl
  have hbb : b.getD 99 = 99 ∨ (0 ≤ b.getD 99 ∧ b.getD 99 ≤ 4) := h2.imp (fun e => by rw [e]; rfl) fun ⟨m, e, m0, m4⟩ => by rw [e]; exact ⟨m0, m4⟩
  generalize a.getD (-99) = lo at ha ⊢
  generalize b.getD 99 = hi at hbb ⊢
  unfold hitR cutI
  simp only [Bool.and_eq_true, decide_eq_true_eq]
  constructor
  · rintro ⟨l1, l2⟩
    refine ⟨(g + 20).toNat, by omega, ⟨by omega, by omega⟩, ?_⟩
    have : (-20 : Int) + ((g + 20).toNat : Int) = g := by omega
    rw [this]
    split <;> split <;> omega
  · rintro ⟨j, hj, ⟨l1, l2⟩, e⟩
    generalize (-20 : Int) + (j : Int) = z at l1 l2 e
    split at e <;> split at e <;> omega
theorem span_form {ws : List Str} {back : Int} {o : List Str} {kind rel size : Str} (b0 : 0 ≤ back ∧ back ≤ 4) {sp : Option Int × Option Int} (h : spanO ws back o kind rel size = some sp) : (sp.1 = none ∨ sp.1 = some (-back)) ∧ (sp.2 = none ∨ ∃ m, sp.2 = some m ∧ 0 ≤ m ∧ m ≤ 4) := by
  unfold spanO at h
  generalize (if (!chg ws) = true then true else if (size == ("other" : Str)) = true then !hasA ws ["copyresize", "resize"] else false) = c1 at h
  generalize (if (rel == ("more" : Str)) = true then true else if (kind == ("write" : Str)) = true then hasA ws ["copy", "copyresize", "touch"] else false) = c2 at h
  have lo : (if ah o "note" "stat" = true then (none : Option Int) else some (-back)) = none ∨ (if ah o "note" "stat" = true then (none : Option Int) else some (-back)) = some (-back) := by
    cases ah o "note" "stat" with
    | true => exact .inl rfl
    | false => exact .inr rfl
  cases c1 with
  | true => cases h
  | false =>
    cases c2 with
    | true =>
      simp only [Bool.false_eq_true, if_false, if_true, Option.some.injEq] at h
      subst h
      exact ⟨lo, .inl rfl⟩
    | false =>
      simp only [Bool.false_eq_true, if_false] at h
      obtain ⟨m, hm⟩ : ∃ m : Int, m = back - (if (rel == ("less" : Str)) = true then (1 : Int) else 0) := ⟨_, rfl⟩
      rw [← hm] at h
      have hm4 : m ≤ 4 := by
        rw [hm]
        split <;> omega
      by_cases hn : m < 0
      · rw [if_pos (decide_eq_true hn)] at h
        cases h
      · rw [if_neg (by rw [decide_eq_false hn]; decide)] at h
        simp only [Option.some.injEq] at h
        subst h
        refine ⟨lo, ?_⟩
        cases bnd o rel size with
        | true => exact .inr ⟨m, rfl, by omega, hm4⟩
        | false => exact .inl rfl
theorem law_bad {ws : List Str} {back : Int} {o : List Str} {kind : Str} {w : Int} (ho : o ∈ orders6) (b0 : 0 ≤ back ∧ back ≤ 4) (hw : 1 ≤ w ∧ w ≤ 6) (c : Cell) : c ∈ badC ws back o kind w ↔ lawP ws back o kind w c := by
  unfold badC lawP
  rw [List.mem_filter]
  constructor
  · rintro ⟨h1, h2⟩
    have hc := allC_cel h1
    have hr := hc.r; have hs := hc.s; have g0 := hc.g0; have g1 := hc.g1
    refine ⟨hr, hs, ?_⟩
    unfold isBad at h2
    cases e : spanO ws back o kind c.1 c.2.2 with
    | none => rw [e] at h2; cases h2
    | some sp =>
      rw [e] at h2
      obtain ⟨f1, f2⟩ := span_form b0 e
      obtain ⟨j, hj, hh, hg⟩ := (cut_hit hw b0 ⟨g0, g1⟩ f1 f2).mp h2
      refine ⟨j, hj, ?_, ?_⟩
      · rw [law_span ho hr hs b0.1, e]
        exact hh
      · obtain ⟨c1, c2, c3⟩ := c
        simp only at hg ⊢
        rw [hg]
  · rintro ⟨hr, hs, j, hj, hh, hc⟩
    have ec : c.2.1 = cutI (-20 + j) w := by rw [hc]
    have hg : -w ≤ c.2.1 ∧ c.2.1 ≤ w := by
      rw [ec]
      unfold cutI
      split <;> split <;> omega
    rw [law_span ho hr hs b0.1] at hh
    refine ⟨?_, ?_⟩
    · refine allC_mem.mpr ⟨by simpa [rels3] using hr, by omega, by simpa [sizes2] using hs⟩
    · unfold isBad
      cases e : spanO ws back o kind c.1 c.2.2 with
      | none => rw [e] at hh; cases hh
      | some sp =>
        rw [e] at hh
        obtain ⟨f1, f2⟩ := span_form b0 e
        exact (cut_hit hw b0 hg f1 f2).mpr ⟨j, hj, hh, ec⟩

end Lw

namespace Lw
open PySem PySem.Spec L2 DM
local macro_rules | `(tactic| walk_at "q") => `(tactic| try simp only [q_ok, q_okR, q_if, q_C, q_ret, q_var, q_at, q_e1, q_e2, q_call, q_callB, q_nil, q_cons, q_tup, q_lst, q_cel, q_ifexp, q_blAt, q_bOf, q_bTru, q_bAnd, q_bOr, q_bNot, q_vAnd, q_vOr, q_vNot, q_chain, q_pureS, at0, at1, at2, q_iseq, q_seqL, q_seqF, q_rg1, q_rg2, q_itup, q_tupAt, q_iany, q_anyL, q_anyF, q_anyT, q_anyS, q_meth, q_p2, q_p3, q_unpT, q_setA, q_setA0, q_rhoAt, q_contR, q_contB, q_contC, q_callK, q_oN, q_oS, q_intAt, q_cut, f_tupL, f_tupT, f_listL, f_listT, f_listCL, f_listCT, f_cutT, f_cutL, q_aftN, q_aftC, q_aftB, q_aftR, q_pr, q_mtE, q_mtV, q_lone, q_gV, q_fnV, q_mkV, q_mkS, q_fld, q_isi, isi_ii, isi_ib, isi_tt, isi_ss, q_starS, q_star, f_itT, f_itL, q_join, q_enum, q_only, q_noExN, lookF_hit, f_addN, q_tName, q_tNil, q_tCons, q_tStar,
  f_add, f_sub, f_mul, f_div, f_mod, f_pow, f_neg, f_cmp, f_abs, f_intI, f_intB, f_max, f_min, f_lenL, f_lenF, f_lenT, f_ixL, f_ixF, f_ixT, f_eqI, f_neI, f_eqB, f_neB, f_eqT, f_neT, f_isB, f_isnotB, f_truB, f_truI, f_repr0, startR, wipeR, List.map_cons, List.map_nil, List.length_cons, List.length_nil, List.cons_append, List.nil_append, List.append_nil, List.getElem?_cons_zero, List.getElem?_cons_succ, List.set_cons_zero, List.set_cons_succ, List.replicate_succ, List.replicate_zero, Nat.reduceAdd, Nat.reduceSub, Int.reduceToNat, Int.reducePow])
local macro_rules | `(tactic| walk_at "go") => `(tactic| repeat (first | rw [q_cont] | rw [q_tCons] | rw [q_tName] | rw [q_tNil] | rw [q_tStar] | rw [q_only] | rw [q_noExN] | rw [q_seq] | rw [q_snil] | ((with_reducible refine q_asg ?_); walk_at "q") | ((with_reducible refine q_sret ?_); walk_at "q") | ((with_reducible refine q_spar2 ?_); walk_at "q") | ((with_reducible refine q_spar3 ?_); walk_at "q") | ((with_reducible refine q_sunp ?_); walk_at "q") | ((with_reducible refine q_drop ?_); walk_at "q") | ((with_reducible refine q_asgT ?_); walk_at "q") | ((with_reducible refine q_noEx ?_); walk_at "q") | ((with_reducible refine q_asg2 ?_); walk_at "q") | ((with_reducible refine q_tDSubG ?_); walk_at "q") | ((with_reducible refine q_sif ?_); walk_at "q") | ((with_reducible refine q_for ?_); walk_at "q")))
local macro_rules | `(tactic| walk_at "g1") => `(tactic| repeat (first | rw [q_cont] | rw [q_tCons] | rw [q_tName] | rw [q_tNil] | rw [q_tStar] | rw [q_only] | rw [q_noExN] | rw [q_seq] | rw [q_snil] | ((with_reducible refine q_asg ?_); walk_at "q") | ((with_reducible refine q_sret ?_); walk_at "q") | ((with_reducible refine q_spar2 ?_); walk_at "q") | ((with_reducible refine q_spar3 ?_); walk_at "q") | ((with_reducible refine q_sunp ?_); walk_at "q") | ((with_reducible refine q_drop ?_); walk_at "q") | ((with_reducible refine q_asgT ?_); walk_at "q") | ((with_reducible refine q_noEx ?_); walk_at "q") | ((with_reducible refine q_asg2 ?_); walk_at "q") | ((with_reducible refine q_tDSubG ?_); walk_at "q") | ((with_reducible refine q_for ?_); walk_at "q")))
local macro_rules | `(tactic| walk_at "w") => `(tactic| try simp only [f_eqW, f_neW, q_okR, q_blAt, weq_advance_advance, weq_advance_set_back, weq_advance_write, weq_advance_copy_in, weq_advance_touch, weq_set_back_advance, weq_set_back_set_back, weq_set_back_write, weq_set_back_copy_in, weq_set_back_touch, weq_write_advance, weq_write_set_back, weq_write_write, weq_write_copy_in, weq_write_touch, weq_copy_in_advance, weq_copy_in_set_back, weq_copy_in_write, weq_copy_in_copy_in, weq_copy_in_touch, weq_touch_advance, weq_touch_set_back, weq_touch_write, weq_touch_copy_in, weq_touch_touch, if_true, if_false, Bool.false_eq_true, Bool.not_true, Bool.not_false])

theorem f_sortDT {c : Nat} {kvs : List (List Key × D)} {μ : Store} (h : μ[c]? = some (.dtt kvs)) (ok : sortOk (kvs.map fun kv => keyT kv.1)) (hi : (kvs.all fun kv => hasInt kv.1) = true) : FsortDT [.ref c] μ = okR (.lst (srtD (kvs.map fun kv => keyT kv.1))) μ := by
  unfold FsortDT
  simp only [h]
  rw [if_pos ⟨ok, hi⟩]
theorem bT_keys {L : List Cell} : ((bT L).map fun kv => keyT kv.1) = L.map cellD := by
  unfold bT
  rw [List.map_map]
  rfl
theorem bT_int {L : List Cell} : ((bT L).all fun kv => hasInt kv.1) = true := List.all_eq_true.mpr fun kv hkv => by
  obtain ⟨c, _, rfl⟩ := List.mem_map.mp hkv
  rfl
theorem rs_strOk {x : Str} (h : x ∈ rels3 ∨ x ∈ sizes2) : PyData.strOk x = true := by
  have a : (rels3.all PyData.strOk) = true := by decide +kernel
  have b : (sizes2.all PyData.strOk) = true := by decide +kernel
  exact h.elim (fun z => List.all_eq_true.mp a x z) fun z => List.all_eq_true.mp b x z
theorem cell_sort {L : List Cell} (hl : L.length ≤ 1000) (h : ∀ c ∈ L, c.1 ∈ rels3 ∧ c.2.2 ∈ sizes2) : sortOk (L.map cellD) := by
  refine ⟨by rw [List.length_map]; omega, fun x hx => ?_, fun x hx y hy => ?_⟩
  · obtain ⟨c, hc, rfl⟩ := List.mem_map.mp hx
    obtain ⟨a, b⟩ := h c hc
    refine ⟨?_, rfl⟩
    have h1 := rs_strOk (.inl a)
    have h2 := rs_strOk (.inr b)
    simp [cellD, shp, shps, h1, h2]
  · obtain ⟨c, hc, rfl⟩ := List.mem_map.mp hx
    obtain ⟨d, hd, rfl⟩ := List.mem_map.mp hy
    simp [cellD, pyD, pyDs, PySem.W.alike, PySem.W.alikeAll]
theorem bad_asc {ws : List Str} {back : Int} {o : List Str} {kind : Str} {w : Int} (hw : 1 ≤ w ∧ w ≤ 6) : ((badC ws back o kind w).map cellD).Pairwise fun a b => ltD a b = true := by
  rw [List.pairwise_map]
  exact (allC_asc hw.1 hw.2).sublist List.filter_sublist
theorem cellD_inj {a b : Cell} (h : cellD a = cellD b) : a = b := by
  obtain ⟨a1, a2, a3⟩ := a
  obtain ⟨b1, b2, b3⟩ := b
  simp only [cellD, D.tup.injEq, List.cons.injEq, D.str.injEq, D.int.injEq] at h
  obtain ⟨rfl, rfl, rfl, _⟩ := h
  rfl
theorem bad_nd {ws : List Str} {back : Int} {o : List Str} {kind : Str} {w : Int} (hw : 1 ≤ w ∧ w ≤ 6) : (badC ws back o kind w).Nodup := by
  have h := bad_asc (ws := ws) (back := back) (o := o) (kind := kind) hw
  rw [List.pairwise_map] at h
  refine h.imp fun hlt e => ?_
  rw [e, ltD_irr] at hlt
  cases hlt
theorem lawbad_ok {ws : List Str} {back : Int} {o : List Str} {kind : Str} {w : Int} {μ : Store} {Q : D → Store → Prop} (hp : Clo μ) (hW : WOk ws) (hwl : ws.length ≤ 1000) (ho : o ∈ orders6) (b0 : 0 ≤ back ∧ back ≤ 4) (hw : 1 ≤ w ∧ w ≤ 6) (q : Q (.tup ((badC ws back o kind w).map cellD)) μ) :
    Ok (F__law_bad [wldD ws back, .tup (o.map D.str), .str kind, .int w] μ) Q := by
  refine q_fsealG (q_fn rfl ?_)
  unfold S__law_bad
  rw [q_seq]
  refine q_asg ?_
  rw [q_tnew, q_cont, q_seq]
  refine q_for ?_
  walk_at "q"
  refine ⟨size_ok (by decide), ?_⟩
  show OkS (loop _ _ _ _ _ (μ ++ [.dtt (bT [])])) _
  refine q_loopS rfl rfl ?_
  refine badsize_ok hp hW hwl ho List.nodup_nil (by decide) fun L1 y6 y7 y8 I1 => ?_
  rw [q_aftN]
  have l1 : L1.length ≤ 82 := by simpa using I1.len
  refine q_loopS rfl rfl ?_
  refine badsize_ok hp hW hwl ho I1.nd (by omega) fun L2 y6 y7 y8 I2 => ?_
  rw [q_aftN]
  have l2 := I2.len
  refine q_loopS rfl rfl ?_
  refine badsize_ok hp hW hwl ho I2.nd (by omega) fun L3 y6 y7 y8 I3 => ?_
  rw [q_aftN]
  have l3 := I3.len
  refine q_loop0 rfl ?_
  rw [q_cont]
  refine q_sret ?_
  have hm : ∀ c, c ∈ L3 ↔ c ∈ badC ws back o kind w := fun c => by
    rw [law_bad ho b0 hw, I3.mem, I2.mem, I1.mem]
    unfold lawP rels3 sizes2
    constructor
    · rintro (((h | (h | h)) | (h | h)) | (h | h))
      · simp at h
      all_goals (obtain ⟨j, hj, hh, rfl⟩ := h; exact ⟨by simp, by simp, j, hj, hh, rfl⟩)
    · rintro ⟨hr, hs, h⟩
      simp only [List.mem_cons, List.not_mem_nil, or_false] at hr hs
      rcases hr with e | e | e <;> rcases hs with e2 | e2 <;> rw [e, e2] at h
      · exact .inl (.inl (.inr (.inl h)))
      · exact .inl (.inl (.inr (.inr h)))
      · exact .inl (.inr (.inl h))
      · exact .inl (.inr (.inr h))
      · exact .inr (.inl h)
      · exact .inr (.inr h)
  have hr : ∀ c ∈ L3, c.1 ∈ rels3 ∧ c.2.2 ∈ sizes2 := fun c hc => by
    have := (law_bad ho b0 hw c).mp ((hm c).mp hc)
    exact ⟨this.1, this.2.1⟩
  have hg : (μ ++ [Ob.dtt (bT L3)])[μ.length]? = some (.dtt (bT L3)) := by simp
  walk_at "q"
  rw [f_sortDT hg (by rw [bT_keys]; exact cell_sort (by omega) hr) bT_int, q_okR, bT_keys]
  have ep : srtD (L3.map cellD) = (badC ws back o kind w).map cellD := by
    refine srt_uniq (List.Perm.map _ ?_) (bad_asc hw)
    exact (List.perm_ext_iff_of_nodup (bad_nd hw) I3.nd).mpr fun c => (hm c).symm
  rw [ep, f_tupL]
  walk_at "q"
  have tk : (μ ++ [Ob.dtt (bT L3)]).take μ.length = μ := by simp
  rw [tk]
  exact ⟨hp.all, _, unref_pure (noRef_cells _), q⟩

end Lw

namespace Lw
open PySem PySem.Spec L2 DM
local macro_rules | `(tactic| walk_at "q") => `(tactic| try simp only [q_ok, q_okR, q_if, q_C, q_ret, q_var, q_at, q_e1, q_e2, q_call, q_callB, q_nil, q_cons, q_tup, q_lst, q_cel, q_ifexp, q_blAt, q_bOf, q_bTru, q_bAnd, q_bOr, q_bNot, q_vAnd, q_vOr, q_vNot, q_chain, q_pureS, at0, at1, at2, q_iseq, q_seqL, q_seqF, q_rg1, q_rg2, q_itup, q_tupAt, q_iany, q_anyL, q_anyF, q_anyT, q_anyS, q_meth, q_p2, q_p3, q_unpT, q_setA, q_setA0, q_rhoAt, q_contR, q_contB, q_contC, q_callK, q_oN, q_oS, q_intAt, q_cut, f_tupL, f_tupT, f_listL, f_listT, f_listCL, f_listCT, f_cutT, f_cutL, q_aftN, q_aftC, q_aftB, q_aftR, q_pr, q_mtE, q_mtV, q_lone, q_gV, q_fnV, q_mkV, q_mkS, q_fld, q_isi, isi_ii, isi_ib, isi_tt, isi_ss, q_starS, q_star, f_itT, f_itL, q_join, q_enum, q_only, q_noExN, lookF_hit, f_addN, q_tName, q_tNil, q_tCons, q_tStar,
  f_add, f_sub, f_mul, f_div, f_mod, f_pow, f_neg, f_cmp, f_abs, f_intI, f_intB, f_max, f_min, f_lenL, f_lenF, f_lenT, f_ixL, f_ixF, f_ixT, f_eqI, f_neI, f_eqB, f_neB, f_eqT, f_neT, f_isB, f_isnotB, f_truB, f_truI, f_repr0, startR, wipeR, List.map_cons, List.map_nil, List.length_cons, List.length_nil, List.cons_append, List.nil_append, List.append_nil, List.getElem?_cons_zero, List.getElem?_cons_succ, List.set_cons_zero, List.set_cons_succ, List.replicate_succ, List.replicate_zero, Nat.reduceAdd, Nat.reduceSub, Int.reduceToNat, Int.reducePow])
local macro_rules | `(tactic| walk_at "go") => `(tactic| repeat (first | rw [q_cont] | rw [q_tCons] | rw [q_tName] | rw [q_tNil] | rw [q_tStar] | rw [q_only] | rw [q_noExN] | rw [q_seq] | rw [q_snil] | ((with_reducible refine q_asg ?_); walk_at "q") | ((with_reducible refine q_sret ?_); walk_at "q") | ((with_reducible refine q_spar2 ?_); walk_at "q") | ((with_reducible refine q_spar3 ?_); walk_at "q") | ((with_reducible refine q_sunp ?_); walk_at "q") | ((with_reducible refine q_drop ?_); walk_at "q") | ((with_reducible refine q_asgT ?_); walk_at "q") | ((with_reducible refine q_noEx ?_); walk_at "q") | ((with_reducible refine q_asg2 ?_); walk_at "q") | ((with_reducible refine q_tDSubG ?_); walk_at "q") | ((with_reducible refine q_sif ?_); walk_at "q") | ((with_reducible refine q_for ?_); walk_at "q")))
local macro_rules | `(tactic| walk_at "g1") => `(tactic| repeat (first | rw [q_cont] | rw [q_tCons] | rw [q_tName] | rw [q_tNil] | rw [q_tStar] | rw [q_only] | rw [q_noExN] | rw [q_seq] | rw [q_snil] | ((with_reducible refine q_asg ?_); walk_at "q") | ((with_reducible refine q_sret ?_); walk_at "q") | ((with_reducible refine q_spar2 ?_); walk_at "q") | ((with_reducible refine q_spar3 ?_); walk_at "q") | ((with_reducible refine q_sunp ?_); walk_at "q") | ((with_reducible refine q_drop ?_); walk_at "q") | ((with_reducible refine q_asgT ?_); walk_at "q") | ((with_reducible refine q_noEx ?_); walk_at "q") | ((with_reducible refine q_asg2 ?_); walk_at "q") | ((with_reducible refine q_tDSubG ?_); walk_at "q") | ((with_reducible refine q_for ?_); walk_at "q")))
local macro_rules | `(tactic| walk_at "w") => `(tactic| try simp only [f_eqW, f_neW, q_okR, q_blAt, weq_advance_advance, weq_advance_set_back, weq_advance_write, weq_advance_copy_in, weq_advance_touch, weq_set_back_advance, weq_set_back_set_back, weq_set_back_write, weq_set_back_copy_in, weq_set_back_touch, weq_write_advance, weq_write_set_back, weq_write_write, weq_write_copy_in, weq_write_touch, weq_copy_in_advance, weq_copy_in_set_back, weq_copy_in_write, weq_copy_in_copy_in, weq_copy_in_touch, weq_touch_advance, weq_touch_set_back, weq_touch_write, weq_touch_copy_in, weq_touch_touch, if_true, if_false, Bool.false_eq_true, Bool.not_true, Bool.not_false])

theorem seal_len {F : FD} {ds : List D} {μ : Store} {Q : D → Store → Prop} (h : Ok (fnSeal F ds μ) Q) : Ok (fnSeal F ds μ) fun d μ' => Q d μ' ∧ μ'.length ≤ μ.length := by
  obtain ⟨a, μ', e, hq⟩ := h.get
  have hl : μ'.length ≤ μ.length := by
    unfold fnSeal at e
    generalize F ds μ = r at e
    unfold sealR at e
    split at e
    · split at e
      · split at e
        · cases e
          rw [List.length_take]
          omega
        · cases e
      · cases e
    all_goals first | (cases e; done) | (cases e; rw [List.length_take]; omega)
  rw [e]
  exact ⟨hq, hl⟩
theorem sealed_wx {F : FD} {ds : List D} {μ : Store} {p : Nat} {c' : Int} {Q : D → Prop} (hw : PureS μ) (hp : p < μ.length) (h : Ok (fnSeal F ds μ) fun d μ' => Q d ∧ Hold [baseA μ p, poolA p c'] μ') : Ok (fnSeal F ds μ) fun d μ' => Q d ∧ Wx μ p c' μ' := by
  refine (seal_len h).mono ?_
  rintro d μ' ⟨⟨hq, hh⟩, hl⟩
  obtain ⟨f1, f2, _⟩ := Hold.fin (n := 0) (m := 1) hh hw hp rfl rfl
  rw [List.take_of_length_le hl] at f1 f2
  exact ⟨hq, f1, f2⟩

theorem rpns_le' {k B : Nat} : ∀ {xs : List D}, (∀ d ∈ xs, rpn k d ≤ B) → rpns k xs ≤ xs.length * (B + 2)
  | [], _ => by simp [rpns]
  | x :: r, h => by
    have h1 := h x List.mem_cons_self
    have h2 := rpns_le' (xs := r) fun d hd => h d (List.mem_cons_of_mem _ hd)
    simp only [rpns, List.length_cons, Nat.succ_mul]
    omega
theorem w5_len {x : Str} (h : x ∈ words5) : x.length ≤ 10 := by
  have a : (words5.all fun x => decide (x.length ≤ 10)) = true := by decide +kernel
  exact of_decide_eq_true (List.all_eq_true.mp a x h)
theorem sml_strs {k : Nat} (xs : List Str) : smls k (xs.map D.str) = true := smls_all.mpr fun d hd => by
  obtain ⟨x, _, rfl⟩ := List.mem_map.mp hd
  rfl
theorem shp_strs {n : Nat} {xs : List Str} (h : xs.all PyData.strOk = true) : shps (n + 1) (xs.map D.str) = true := shps_all.mpr fun d hd => by
  obtain ⟨x, hx, rfl⟩ := List.mem_map.mp hd
  exact List.all_eq_true.mp h x hx
theorem kept_repr {ws : List Str} {bk : Int} {o : List Str} {μ : Store} (hW : WOk ws) (hws : ∀ w ∈ ws, w ∈ words5) (hl : ws.length ≤ 5) (b0 : 0 ≤ bk ∧ bk ≤ 4) (ho : o ∈ orders6) : Frepr [.tup [wldD ws bk, .tup (o.map D.str)]] μ = okR (.str (reprD (.tup [wldD ws bk, .tup (o.map D.str)]))) μ := by
  have oS : o.all PyData.strOk = true := by
    have key : (orders6.all fun o => o.all PyData.strOk) = true := by decide +kernel
    exact List.all_eq_true.mp key o ho
  have oL : o.length = 3 ∧ ∀ x ∈ o, x.length ≤ 4 := by
    have key : (orders6.all fun o => decide (o.length = 3) && o.all fun x => decide (x.length ≤ 4)) = true := by decide +kernel
    have := List.all_eq_true.mp key o ho
    rw [Bool.and_eq_true] at this
    exact ⟨of_decide_eq_true this.1, fun x hx => of_decide_eq_true (List.all_eq_true.mp this.2 x hx)⟩
  have r1 : rpns 50 (ws.map D.str) ≤ 5 * 110 := by
    have := rpns_le' (k := 50) (B := 108) (xs := ws.map D.str) fun d hd => by
      obtain ⟨x, hx, rfl⟩ := List.mem_map.mp hd
      have := w5_len (hws x hx)
      simp only [rpn]; omega
    rw [List.length_map] at this
    exact Nat.le_trans this (Nat.mul_le_mul_right _ hl)
  have r2 : rpns 50 (o.map D.str) ≤ 3 * 110 := by
    have := rpns_le' (k := 50) (B := 108) (xs := o.map D.str) fun d hd => by
      obtain ⟨x, hx, rfl⟩ := List.mem_map.mp hd
      have := oL.2 x hx
      simp only [rpn]; omega
    rw [List.length_map, oL.1] at this
    exact this
  refine f_reprD (k := 50) ?_ (by decide) (by decide) ?_ ?_
  · have h1 : shps 57 (ws.map D.str) = true := shp_strs (n := 56) hW.str
    have h2 : shps 58 (o.map D.str) = true := shp_strs (n := 57) oS
    simp [wldD, shp, shps, h1, h2]
  · simp only [wldD, sml, smls, sml_strs, Bool.and_true, Bool.true_and, decide_eq_true_eq]
    omega
  · simp only [wldD, rpn, rpns]
    omega
theorem cells_repr {L : List Cell} {μ : Store} (h : ∀ c ∈ L, ∃ w, 1 ≤ w ∧ w ≤ (6 : Int) ∧ c ∈ allC w) (hl : L.length ≤ 200) : Frepr [.tup (L.map cellD)] μ = okR (.str (reprD (.tup (L.map cellD)))) μ := by
  have sl : ∀ x : Str, x ∈ rels3 ∨ x ∈ sizes2 → x.length ≤ 5 := fun x hx => by
    have a : (rels3.all fun x => decide (x.length ≤ 5)) = true := by decide +kernel
    have b : (sizes2.all fun x => decide (x.length ≤ 5)) = true := by decide +kernel
    exact hx.elim (fun z => of_decide_eq_true (List.all_eq_true.mp a x z)) fun z => of_decide_eq_true (List.all_eq_true.mp b x z)
  have r1 := rpns_le' (k := 50) (B := 300) (xs := L.map cellD) fun d hd => by
    obtain ⟨c, hc, rfl⟩ := List.mem_map.mp hd
    obtain ⟨w, _, _, hw⟩ := h c hc
    have := allC_cel hw
    have := sl _ (.inl this.r)
    have := sl _ (.inr (allC_cel hw).s)
    simp only [cellD, rpn, rpns]; omega
  rw [List.length_map] at r1
  refine f_reprD (k := 50) ?_ (by decide) (by decide) ?_ ?_
  · show shps 59 (L.map cellD) = true
    refine shps_all.mpr fun d hd => ?_
    obtain ⟨c, hc, rfl⟩ := List.mem_map.mp hd
    obtain ⟨w, _, _, hw⟩ := h c hc
    have h1 := rs_strOk (.inl (allC_cel hw).r)
    have h2 := rs_strOk (.inr (allC_cel hw).s)
    simp [cellD, shp, shps, h1, h2]
  · show smls 50 (L.map cellD) = true
    refine smls_all.mpr fun d hd => ?_
    obtain ⟨c, hc, rfl⟩ := List.mem_map.mp hd
    obtain ⟨w, w1, w6, hw⟩ := h c hc
    have g0 := (allC_cel hw).g0
    have g1 := (allC_cel hw).g1
    simp only [cellD, sml, smls, Bool.and_true, Bool.true_and, decide_eq_true_eq]
    omega
  · simp only [rpn]
    have : L.length * (300 + 2) ≤ 200 * 302 := Nat.mul_le_mul_right _ hl
    omega
theorem bad_empty {bk : Int} {o : List Str} {kind : Str} {w : Int} : badC [] bk o kind w = [] := by
  unfold badC
  rw [List.filter_eq_nil_iff]
  intro c _
  unfold isBad spanO
  have : chg [] = false := rfl
  rw [this]
  simp
theorem bad_len {ws : List Str} {back : Int} {o : List Str} {kind : Str} {w : Int} (hw : 1 ≤ w ∧ w ≤ 6) : (badC ws back o kind w).length ≤ 200 := by
  have h1 : (badC ws back o kind w).length ≤ (allC w).length := List.length_filter_le _ _
  have h2 := allC_len (w := w) (by omega)
  omega
theorem pool_ok : PoolOk F__law_pot := pool4_ok (by decide) (by decide) (by decide) (by decide)

theorem right_ok : RightOk F__law_right 100 600000 := by
  intro p c μ hw hc
  have hpl := hw.lt
  have h0 := hw.hold
  have hdr : DrawOk F__law_take := take_ok.ok
  refine q_fn rfl ?_
  unfold S__law_right
  rw [q_seq]
  refine q_spar2 ?_
  walk_at "q"
  refine (sealed_wx (p := p) (c' := c + 8) (Q := fun d => ∃ (ws : List Str) (bk : Int), d = wldD ws bk ∧ (∀ w ∈ ws, w ∈ words5) ∧ ws.length ≤ 5 ∧ 0 ≤ bk ∧ bk ≤ 4) hw.pure hpl (world_ok h0 (by omega) fun ws bk μ1 a1 a2 a3 a4 a5 => ⟨⟨ws, bk, rfl, a1, a2, a3, a4⟩, a5⟩)).mono ?_
  rintro d μ1 ⟨⟨ws, bk, rfl, hws, hwl, b0, b4⟩, x1⟩
  walk_at "q"
  have c1 : Clo μ1 := x1.wd.hold.clo
  have hW : WOk ws := ⟨by omega, List.all_eq_true.mpr fun w hw' => List.all_eq_true.mp w5_ok w (hws w hw')⟩
  refine orders_ok c1 ?_
  rw [of_eq]
  refine (hdr.pick (xs := orders6.map (fun o => .tup (o.map D.str))) x1 (by omega) (by decide) (by decide)).mono ?_
  rintro d μ2 ⟨hd, x2⟩
  obtain ⟨o, ho6, rfl⟩ := List.mem_map.mp hd
  walk_at "q"
  rw [q_cont, q_seq]
  refine q_spar2 ?_
  walk_at "q"
  repeat (refine ⟨size_ok (by decide), ?_⟩)
  try rw [of_eq]
  refine (hdr.pick (xs := [.str "write", .str "change"]) x2 (by omega) (by decide) (by decide)).mono ?_
  rintro d μ3 ⟨hd, x3⟩
  have hd : ∃ k : Str, d = .str k := by
    simp only [List.mem_cons, List.not_mem_nil, or_false] at hd
    rcases hd with rfl | rfl <;> exact ⟨_, rfl⟩
  obtain ⟨k, rfl⟩ := hd
  walk_at "q"
  repeat (refine ⟨size_ok (by decide), ?_⟩)
  rw [kept_repr hW hws hwl ⟨b0, b4⟩ ho6, q_okR]
  walk_at "q"
  have c3 : Clo μ3 := x3.wd.hold.clo
  rw [q_cont, q_seq]
  refine q_for ?_
  walk_at "q"
  refine ⟨1, 7, rfl, by decide, ?_⟩
  refine loop_ok (fun (_ : Nat) (ρ : Rho) (μ' : Store) => μ' = μ3 ∧ ∃ y5, ρ = [some (.ref p), some (wldD ws bk), some (.tup (o.map D.str)), some (.str k), some (.str (reprD (.tup [wldD ws bk, .tup (o.map D.str)]))), y5]) (fun _ _ _ _ => rfl) ?_ ?_ ⟨rfl, _, rfl⟩
  · rintro i d ρ μ' ed ⟨rfl, y5, rfl⟩
    obtain ⟨hi, rfl⟩ := rng_get ed
    have hi : i < 6 := by simpa using hi
    have hww : 1 ≤ (1 : Int) + (i : Int) ∧ (1 : Int) + (i : Int) ≤ 6 := by omega
    refine ⟨_, rfl, ?_⟩
    unfold B__law_right_1
    refine q_sif ?_
    walk_at "q"
    refine badcells_ok c3 hW ho6 (by omega) ?_
    have hin : ∀ x ∈ badC ws bk o k (1 + (i : Int)), ∃ w, 1 ≤ w ∧ w ≤ (6 : Int) ∧ x ∈ allC w := fun x hx => ⟨_, hww.1, hww.2, (List.mem_filter.mp hx).1⟩
    rw [cells_repr hin (bad_len hww), q_okR]
    walk_at "q"
    refine lawbad_ok c3 hW (by omega) ho6 ⟨b0, b4⟩ hww ?_
    rw [cells_repr hin (bad_len hww), q_okR]
    walk_at "q"
    try rw [f_neW, q_okR, q_blAt]
    rw [beq_self_eq_true]
    simp only [Bool.not_true, Bool.false_eq_true, if_false]
    rw [q_snil]
    exact ⟨rfl, _, rfl⟩
  · rintro ρ μ' ⟨rfl, y5, rfl⟩
    rw [q_cont]
    refine q_sret ?_
    unfold wldD
    walk_at "q"
    repeat (refine ⟨size_ok (by decide), ?_⟩)
    have hW0 : WOk [] := ⟨Nat.zero_le _, rfl⟩
    have hbc := @badcells_ok [] bk o k 2 μ'
    refine hbc c3 hW0 ho6 ⟨by decide, by decide⟩ ?_
    clear hbc
    rw [bad_empty]
    try (rw [f_eqD (by rfl) (by rfl) (by rfl), q_okR])
    walk_at "q"
    try simp only [decide_true, if_true]
    repeat (refine ⟨size_ok (by decide), ?_⟩)
    rw [show Frepr [.tup [.tup [.tup (ws.map D.str), .int bk], .tup (o.map D.str)]] μ' = okR (.str (reprD (.tup [wldD ws bk, .tup (o.map D.str)]))) μ' from kept_repr hW hws hwl ⟨b0, b4⟩ ho6, q_okR]
    try (rw [f_eqW, q_okR])
    walk_at "q"
    try rw [beq_self_eq_true]
    have x5 := x3.mono (c' := c + 100) (by omega)
    exact ⟨congrArg D.bl (beq_self_eq_true (reprD (.tup [wldD ws bk, .tup (o.map D.str)]))), x5.wd, x5.fr⟩
theorem law_true (ns : List Int) (_ : ns.length ≤ 63) : ∃ μ', F_law [scriptD ns] [] = some (.ok (.bl true), μ') := law1_true pool_ok right_ok (by decide) (by decide) (by decide) (by decide) (by decide) ns

end Lw

namespace Lw
open PySem PySem.Spec L2 DM

theorem facts {P : Program} {w : World} {K : PySem.W.Frag} {h : Heap} {mg : Str → Option Value} {f : Addr} (X : K.In h) (G : h.Ns mainGlobals mg) (hfa : mg ("law" : Str) = some (.ref f)) (c : SaysC fa fn cs K) :
    ∃ fd : FuncData, (∀ (s : Shared) (v : Value), BindsTo s fd ⟨[v], []⟩ [("_law_script", v)]) ∧ ∀ base : Heap, K.In base → base.Ns mainGlobals mg → FnG P w K mg base noXR 7 f fd ["_law_script"] F_law := by
  have c_FREE_KIND : Cst K mg "FREE_KIND" (.str "write") := conB_ok X G (c.con 0 (z := ("FREE_KIND", (.str "write"))) rfl)
  have c_FREE_WORDS : Cst K mg "FREE_WORDS" (.tup [(.str "copy"), (.str "copyresize"), (.str "touch")]) := conB_ok X G (c.con 1 (z := ("FREE_WORDS", (.tup [(.str "copy"), (.str "copyresize"), (.str "touch")]))) rfl)
  have c_LESS : Cst K mg "LESS" (.str "less") := conB_ok X G (c.con 2 (z := ("LESS", (.str "less"))) rfl)
  have c_MORE : Cst K mg "MORE" (.str "more") := conB_ok X G (c.con 3 (z := ("MORE", (.str "more"))) rfl)
  have c_NOTE : Cst K mg "NOTE" (.str "note") := conB_ok X G (c.con 4 (z := ("NOTE", (.str "note"))) rfl)
  have c_OTHER : Cst K mg "OTHER" (.str "other") := conB_ok X G (c.con 5 (z := ("OTHER", (.str "other"))) rfl)
  have c_READ : Cst K mg "READ" (.str "read") := conB_ok X G (c.con 6 (z := ("READ", (.str "read"))) rfl)
  have c_RELATIONS : Cst K mg "RELATIONS" (.tup [(.str "less"), (.str "more"), (.str "same")]) := conB_ok X G (c.con 7 (z := ("RELATIONS", (.tup [(.str "less"), (.str "more"), (.str "same")]))) rfl)
  have c_RESIZING_WORDS : Cst K mg "RESIZING_WORDS" (.tup [(.str "copyresize"), (.str "resize")]) := conB_ok X G (c.con 8 (z := ("RESIZING_WORDS", (.tup [(.str "copyresize"), (.str "resize")]))) rfl)
  have c_SAME : Cst K mg "SAME" (.str "same") := conB_ok X G (c.con 9 (z := ("SAME", (.str "same"))) rfl)
  have c_SIZES : Cst K mg "SIZES" (.tup [(.str "other"), (.str "same")]) := conB_ok X G (c.con 10 (z := ("SIZES", (.tup [(.str "other"), (.str "same")]))) rfl)
  have c_STAT : Cst K mg "STAT" (.str "stat") := conB_ok X G (c.con 11 (z := ("STAT", (.str "stat"))) rfl)
  have c_TOUCH : Cst K mg "TOUCH" (.str "touch") := conB_ok X G (c.con 12 (z := ("TOUCH", (.str "touch"))) rfl)
  replace c := c.c
  obtain ⟨fd_changes, D_changes⟩ := c.def_ 0 (d := d_changes) rfl
  obtain ⟨fd_cells, D_cells⟩ := c.def_ 1 (d := d_cells) rfl
  obtain ⟨fd_has_any, D_has_any⟩ := c.def_ 2 (d := d_has_any) rfl
  obtain ⟨fd_stands_ahead, D_stands_ahead⟩ := c.def_ 3 (d := d_stands_ahead) rfl
  obtain ⟨fd_meets, D_meets⟩ := c.def_ 4 (d := d_meets) rfl
  obtain ⟨fd__law_pot, D__law_pot⟩ := c.def_ 5 (d := d__law_pot) rfl
  obtain ⟨fd__law_take, D__law_take⟩ := c.def_ 6 (d := d__law_take) rfl
  obtain ⟨fd__law_orders, D__law_orders⟩ := c.def_ 7 (d := d__law_orders) rfl
  obtain ⟨fd__law_is_free, D__law_is_free⟩ := c.def_ 8 (d := d__law_is_free) rfl
  obtain ⟨fd__law_cut, D__law_cut⟩ := c.def_ 9 (d := d__law_cut) rfl
  obtain ⟨fd_is_bounded, D_is_bounded⟩ := c.def_ 10 (d := d_is_bounded) rfl
  obtain ⟨fd__law_of, D__law_of⟩ := c.def_ 11 (d := d__law_of) rfl
  obtain ⟨fd__law_range, D__law_range⟩ := c.def_ 12 (d := d__law_range) rfl
  obtain ⟨fd_bad_range, D_bad_range⟩ := c.def_ 13 (d := d_bad_range) rfl
  obtain ⟨fd__law_world, D__law_world⟩ := c.def_ 14 (d := d__law_world) rfl
  obtain ⟨fd__law_bad, D__law_bad⟩ := c.def_ 15 (d := d__law_bad) rfl
  obtain ⟨fd_bad_cells, D_bad_cells⟩ := c.def_ 16 (d := d_bad_cells) rfl
  obtain ⟨fd__law_right, D__law_right⟩ := c.def_ 17 (d := d__law_right) rfl
  obtain ⟨fd_law, D_law⟩ := c.def_ 18 (d := d_law) rfl
  have g_changes := He.glo_ok X G (c.fact 0 (f := .glo "changes") rfl)
  have g_cells := He.glo_ok X G (c.fact 1 (f := .glo "cells") rfl)
  have g_has_any := He.glo_ok X G (c.fact 2 (f := .glo "has_any") rfl)
  have g_stands_ahead := He.glo_ok X G (c.fact 3 (f := .glo "stands_ahead") rfl)
  have g_meets := He.glo_ok X G (c.fact 4 (f := .glo "meets") rfl)
  have g__law_pot := He.glo_ok X G (c.fact 5 (f := .glo "_law_pot") rfl)
  have g__law_take := He.glo_ok X G (c.fact 6 (f := .glo "_law_take") rfl)
  have g__law_orders := He.glo_ok X G (c.fact 7 (f := .glo "_law_orders") rfl)
  have g__law_is_free := He.glo_ok X G (c.fact 8 (f := .glo "_law_is_free") rfl)
  have g__law_cut := He.glo_ok X G (c.fact 9 (f := .glo "_law_cut") rfl)
  have g_is_bounded := He.glo_ok X G (c.fact 10 (f := .glo "is_bounded") rfl)
  have g__law_of := He.glo_ok X G (c.fact 11 (f := .glo "_law_of") rfl)
  have g__law_range := He.glo_ok X G (c.fact 12 (f := .glo "_law_range") rfl)
  have g_bad_range := He.glo_ok X G (c.fact 13 (f := .glo "bad_range") rfl)
  have g__law_world := He.glo_ok X G (c.fact 14 (f := .glo "_law_world") rfl)
  have g__law_bad := He.glo_ok X G (c.fact 15 (f := .glo "_law_bad") rfl)
  have g_bad_cells := He.glo_ok X G (c.fact 16 (f := .glo "bad_cells") rfl)
  have g__law_right := He.glo_ok X G (c.fact 17 (f := .glo "_law_right") rfl)
  have g_law := He.glo_ok X G (c.fact 18 (f := .glo "law") rfl)
  have m_abs := He.free_ok X G (c.fact 19 (f := .free "abs") rfl)
  have m_all := He.free_ok X G (c.fact 20 (f := .free "all") rfl)
  have m_any := He.free_ok X G (c.fact 21 (f := .free "any") rfl)
  have m_int := He.free_ok X G (c.fact 22 (f := .free "int") rfl)
  have m_len := He.free_ok X G (c.fact 23 (f := .free "len") rfl)
  have m_max := He.free_ok X G (c.fact 24 (f := .free "max") rfl)
  have m_min := He.free_ok X G (c.fact 25 (f := .free "min") rfl)
  have m_range := He.free_ok X G (c.fact 26 (f := .free "range") rfl)
  have m_repr := He.free_ok X G (c.fact 27 (f := .free "repr") rfl)
  have m_sorted := He.free_ok X G (c.fact 28 (f := .free "sorted") rfl)
  have m_tuple := He.free_ok X G (c.fact 29 (f := .free "tuple") rfl)
  have e := hfa.symm.trans g_law
  cases e
  have bl := FunD.bindsA (ps := ["_law_script"]) D_law fun _ _ _ _ _ _ us hl => match us, hl with | [_], _ => rfl
  refine ⟨fd_law, fun s v => bl s [v] rfl, fun base _ _ => ?_⟩
  have n_changes : Kn P w K mg base 1 "changes" P_changes F_changes := kn_changes D_changes g_changes m_any c_TOUCH
  have n_cells : GP.KnG P w K mg base 1 "cells" P_cells F_cells := kg_cells D_cells g_cells m_range c_RELATIONS c_SIZES
  have n_has_any : Kn P w K mg base 1 "has_any" P_has_any F_has_any := kn_has_any D_has_any g_has_any m_any
  have n_stands_ahead : Kn P w K mg base 1 "stands_ahead" P_stands_ahead F_stands_ahead := kn_stands_ahead D_stands_ahead g_stands_ahead
  have n_meets : Kn P w K mg base 1 "meets" P_meets F_meets := kn_meets D_meets g_meets
  have n__law_pot : Kn P w K mg base 1 "_law_pot" P__law_pot F__law_pot := kn__law_pot D__law_pot g__law_pot m_abs m_int m_len
  have n__law_take : Kn P w K mg base 1 "_law_take" P__law_take F__law_take := kn__law_take D__law_take g__law_take
  have n__law_orders : Kn P w K mg base 1 "_law_orders" P__law_orders F__law_orders := kn__law_orders D__law_orders g__law_orders
  have n__law_is_free : Kn P w K mg base 1 "_law_is_free" P__law_is_free F__law_is_free := kn__law_is_free D__law_is_free g__law_is_free
  have n__law_cut : Kn P w K mg base 1 "_law_cut" P__law_cut F__law_cut := kn__law_cut D__law_cut g__law_cut m_max m_min
  have n_is_bounded : Kn P w K mg base 2 "is_bounded" P_is_bounded F_is_bounded := kn_is_bounded D_is_bounded g_is_bounded n_stands_ahead c_NOTE c_READ c_SAME c_STAT
  have n__law_of : Kn P w K mg base 2 "_law_of" P__law_of F__law_of := kn__law_of D__law_of g__law_of n__law_take m_len
  have n__law_range : Kn P w K mg base 2 "_law_range" P__law_range F__law_range := kn__law_range D__law_range g__law_range n__law_is_free m_any m_int
  have n_bad_range : Kn P w K mg base 3 "bad_range" P_bad_range F_bad_range := kn_bad_range D_bad_range g_bad_range n_changes n_has_any n_is_bounded n_stands_ahead m_int c_FREE_KIND c_FREE_WORDS c_LESS c_MORE c_NOTE c_OTHER c_RESIZING_WORDS c_STAT
  have n__law_world : Kn P w K mg base 3 "_law_world" P__law_world F__law_world := kn__law_world D__law_world g__law_world n__law_of n__law_take m_len m_range m_sorted m_tuple
  have n__law_bad : Kn P w K mg base 3 "_law_bad" P__law_bad F__law_bad := kn__law_bad D__law_bad g__law_bad n__law_cut n__law_range m_range m_sorted m_tuple
  have n_bad_cells : Kn P w K mg base 5 "bad_cells" P_bad_cells F_bad_cells := kn_bad_cells D_bad_cells g_bad_cells n_bad_range n_cells n_meets m_tuple
  have n__law_right : Kn P w K mg base 6 "_law_right" P__law_right F__law_right := kn__law_right D__law_right g__law_right n__law_bad n__law_of n__law_orders n__law_world n_bad_cells m_range m_repr
  exact ok_law D_law n__law_pot n__law_right m_all m_len m_max m_min m_range
end Lw

open PySem PySem.W PySem.Calls PyProof.Rows
set_option maxRecDepth 100000 in
set_option maxHeartbeats 0 in
theorem PySem.Challenge.cw_coarseclock_k14_bad_cells_of_widths_holds : PySem.Challenge.rw_coarseclock_k14_bad_cells_of_widths.Holds := by
  w_on; o_law
  refine HandSHeadRun.head_any (r := OpenLaw.row PySem.Challenge.rw_coarseclock_k14_bad_cells_of_widths) (q := view (OpenLaw.row PySem.Challenge.rw_coarseclock_k14_bad_cells_of_widths).prog [38]) (H := Lw.hk) (ob := Lw.ob) (M := 4000) (loose := Lw.loose) (d := HandSHeadRun.topDef (OpenLaw.row PySem.Challenge.rw_coarseclock_k14_bad_cells_of_widths).prog 38) (kwd := []) Lw.ob_eq
    (by kernel_rfl) (fun s => by kernel_rfl) Lw.run (by kernel_rfl) (by kernel_rfl) (by kernel_rfl) (by rfl) (by first | assumption | decide +kernel) (by decide +kernel) ⟨rfl, rfl, rfl, rfl, rfl, by decide +kernel⟩ ?hw ?hc
  case hw => w_witness2
  case hc =>
    refine DM.law_end (l := PySem.Challenge.rw_coarseclock_k14_bad_cells_of_widths) (n := 63) (k := 7) (x := "_law_script") rfl (by decide) (by kernel_rfl) ⟨rfl, by decide, by decide⟩ ?F
    intro w mg fa h Y G hmg0
    obtain ⟨K, KX, c⟩ := Y
    have hmg : mg ("law" : PySem.Str) = some (.ref fa) := by
      have e : (HandSHeadRun.topDef (OpenLaw.row PySem.Challenge.rw_coarseclock_k14_bad_cells_of_widths).prog 38).name = ("law" : PySem.Str) := by kernel_rfl
      rw [← e]
      exact hmg0
    obtain ⟨fd, hb, hF⟩ := Lw.facts (P := (PySem.Challenge.rw_coarseclock_k14_bad_cells_of_widths).prog) (w := w) KX G hmg c
    exact ⟨K, fd, Lw.F_law, KX, hb, Lw.law_true, hF⟩
